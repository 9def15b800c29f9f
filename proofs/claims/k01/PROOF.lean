import PyProof.Rows.All
import Wide.All
import OpenK.AllK
import Wide.FinOn
import PySem.Challenge.RW_cappedcalls_k01_words_and_values
import HandS.ForMost
import HandS.Exc
import HandS.TryOnly
import HandS.ExcOwn
import HandS.WordsExc
import HandS.CallSlots
import HandS.Wide
import HandS.IsInst
import HandS.Deep
import HandS.TupAny
import HandS.Text
import HandS.Ends
set_option Elab.async false
set_option linter.all false
set_option maxRecDepth 100000
set_option autoImplicit false
/-! G1: plain values, plain stores, and how the layer's heap bears them. -/
namespace G
open PySem PySem.Spec PyProof.Rows L2

/-- plain values: tuples by value, all that changes by reference -/
inductive D where
  | non | bl (b : Bool) | int (i : Int) | str (x : Str) | tup (ds : List D) | flst (ds : List D) | ref (n : Nat)

inductive O where
  | lst (ds : List D)
  | ins (c : Str) (fs : List (Str × D))
abbrev S := List O
inductive R (α : Type) where
  | ok (a : α) (s : S)
  | exc (c : Str) (fs : List (Str × D)) (s : S)
  | bad
def R.bind {α β : Type} : R α → (α → S → R β) → R β
  | .ok a s, f => f a s
  | .exc c fs s, _ => .exc c fs s
  | .bad, _ => .bad
@[simp] theorem R.bind_ok {α β : Type} (a : α) (s : S) (f : α → S → R β) : (R.ok a s).bind f = f a s := rfl
@[simp] theorem R.bind_exc {α β : Type} (c fs) (s : S) (f : α → S → R β) : (R.exc c fs s).bind f = .exc c fs s := rfl
@[simp] theorem R.bind_bad {α β : Type} (f : α → S → R β) : (R.bad).bind f = .bad := rfl

/-- the surroundings: the written part, the classes' places -/
structure Su where
  K : PySem.W.Frag
  cad : Str → Addr

def KTup (K : PySem.W.Frag) (a : Addr) (xs : List V) : Prop :=
  ∃ (o : Obj) (its : Array Value) (n : Nat), K.lookup a = some o ∧ o.cls = .type "tuple" ∧ o.data = .seq its n ∧ its.size ≤ sizeLine ∧ Vals xs its.toList
def KLst (K : PySem.W.Frag) (a : Addr) (xs : List V) : Prop :=
  ∃ (o : Obj) (its : Array Value) (n : Nat), K.lookup a = some o ∧ o.cls = .type "list" ∧ o.dict = none ∧ o.data = .seq its n ∧ its.size ≤ sizeLine ∧ Vals xs its.toList
def TupAt (K : PySem.W.Frag) (H : Hp) (a : Addr) (xs : List V) : Prop := H a = some (.tup xs) ∨ KTup K a xs
def FroAt (K : PySem.W.Frag) (H : Hp) (a : Addr) (xs : List V) : Prop := (∃ o, H a = some (.frz o (.lst xs))) ∨ KLst K a xs
theorem FroAt.sq {K : PySem.W.Frag} {H : Hp} {a : Addr} {xs : List V} (h : FroAt K H a xs) : SqL K H a xs := by
  rcases h with ⟨o, h⟩ | h
  · exact .inl (.inr ⟨o, h⟩)
  · exact .inr h
theorem TupAt.sq {K : PySem.W.Frag} {H : Hp} {a : Addr} {xs : List V} (h : TupAt K H a xs) : SqT K H a xs := by
  rcases h with h | h
  · exact .inl (.inl h)
  · exact .inr h

mutual
def Rep (K : PySem.W.Frag) (ι : List Addr) (H : Hp) : D → V → Prop
  | .non, v => v = .non
  | .bl b, v => v = .bl b
  | .int i, v => v = .int i
  | .str x, v => v = .str x
  | .tup ds, v => ∃ a vs, v = .ref a ∧ TupAt K H a vs ∧ Reps K ι H ds vs
  | .flst ds, v => ∃ a vs, v = .ref a ∧ FroAt K H a vs ∧ Reps K ι H ds vs
  | .ref n, v => ∃ a, v = .ref a ∧ ι[n]? = some a
def Reps (K : PySem.W.Frag) (ι : List Addr) (H : Hp) : List D → List V → Prop
  | [], vs => vs = []
  | d :: ds, vs => ∃ v ws, vs = v :: ws ∧ Rep K ι H d v ∧ Reps K ι H ds ws
end
def RepF (K : PySem.W.Frag) (ι : List Addr) (H : Hp) : List (Str × D) → List (Str × V) → Prop
  | [], vs => vs = []
  | d :: ds, vs => ∃ v ws, vs = (d.1, v) :: ws ∧ Rep K ι H d.2 v ∧ RepF K ι H ds ws

/-- the places go on -/
def Ext (ι ι' : List Addr) : Prop := ∃ l, ι' = ι ++ l
theorem Ext.refl (ι : List Addr) : Ext ι ι := ⟨[], by simp⟩
theorem Ext.trans {a b c : List Addr} (h : Ext a b) (k : Ext b c) : Ext a c := by
  obtain ⟨l, rfl⟩ := h
  obtain ⟨m, rfl⟩ := k
  exact ⟨l ++ m, by simp⟩
theorem Ext.at {a b : List Addr} (h : Ext a b) {n : Nat} {x : Addr} (e : a[n]? = some x) : b[n]? = some x := by
  obtain ⟨l, rfl⟩ := h
  rw [List.getElem?_append_left (List.getElem?_eq_some_iff.mp e).1]
  exact e
theorem Ext.one (ι : List Addr) (p : Addr) : Ext ι (ι ++ [p]) := ⟨[p], rfl⟩
/-- what never changes -/
def Stb : HO → Prop
  | .tup _ => True
  | .frz _ _ => True
  | _ => False
def Kept (H H' : Hp) : Prop := ∀ a u, H a = some u → Stb u → H' a = some u
theorem Kept.refl (H : Hp) : Kept H H := fun _ _ h _ => h
theorem Kept.trans {a b c : Hp} (h : Kept a b) (k : Kept b c) : Kept a c := fun x u e z => k x u (h x u e z) z
theorem Same.kept {H H' : Hp} (h : Same H H') : Kept H H' := fun a u e _ => h a _ e
theorem same_new {H : Hp} {p : Addr} {o : HO} (h : H p = none) : Same H (upd H p o) := fun b u e => by
  rw [upd_ne (ne_of_none e h)]
  exact e
theorem TupAt.kept {K : PySem.W.Frag} {H H' : Hp} {a : Addr} {xs : List V} (k : Kept H H') (h : TupAt K H a xs) : TupAt K H' a xs := by
  rcases h with h | h
  · exact .inl (k _ _ h True.intro)
  · exact .inr h
theorem FroAt.kept {K : PySem.W.Frag} {H H' : Hp} {a : Addr} {xs : List V} (k : Kept H H') (h : FroAt K H a xs) : FroAt K H' a xs := by
  rcases h with ⟨o, h⟩ | h
  · exact .inl ⟨o, k _ _ h True.intro⟩
  · exact .inr h

/-- from one moment to a later one: new places were free; what is not a place of ours stays; nothing tracked is lost -/
structure Go (ι : List Addr) (H : Hp) (ι' : List Addr) (H' : Hp) : Prop where
  ext : ∃ l, ι' = ι ++ l ∧ ∀ a ∈ l, H a = none
  keep : ∀ a u, H a = some u → a ∉ ι → H' a = some u
  tups : Kept H H'
  there : ∀ a, H a ≠ none → H' a ≠ none
theorem Go.refl (ι : List Addr) (H : Hp) : Go ι H ι H := ⟨⟨[], by simp⟩, fun _ _ h _ => h, Kept.refl H, fun _ h => h⟩
theorem Go.ex {ι ι' : List Addr} {H H' : Hp} (h : Go ι H ι' H') : Ext ι ι' := let ⟨l, e, _⟩ := h.ext; ⟨l, e⟩
theorem Go.trans {ι ι1 ι2 : List Addr} {H H1 H2 : Hp} (h : Go ι H ι1 H1) (k : Go ι1 H1 ι2 H2) : Go ι H ι2 H2 := by
  obtain ⟨l, rfl, hl⟩ := h.ext
  obtain ⟨m, rfl, hm⟩ := k.ext
  refine ⟨⟨l ++ m, by simp, fun a ha => ?_⟩, fun a u e n => ?_, h.tups.trans k.tups, fun a z => k.there a (h.there a z)⟩
  · rcases List.mem_append.mp ha with ha | ha
    · exact hl a ha
    · have q := hm a ha
      cases z : H a with
      | none => rfl
      | some u => exact absurd q (h.there a (by rw [z]; exact fun w => nomatch w))
  · refine k.keep a u (h.keep a u e n) fun z => ?_
    rcases List.mem_append.mp z with z | z
    · exact n z
    · rw [hl a z] at e; cases e
theorem Go.same {ι : List Addr} {H H' : Hp} (k : Same H H') : Go ι H ι H' :=
  ⟨⟨[], by simp⟩, fun _ _ h _ => k _ _ h, Same.kept k, fun a h => by
    cases z : H a with
    | none => exact absurd z h
    | some u => rw [k a u z]; exact fun w => nomatch w⟩
theorem Go.new {ι : List Addr} {H H' : Hp} {p : Addr} (k : Same H H') (hp : H p = none) : Go ι H (ι ++ [p]) H' :=
  ⟨⟨[p], rfl, fun a ha => by
    have e : a = p := by simpa using ha
    rw [e]; exact hp⟩, fun _ _ h _ => k _ _ h, Same.kept k, (Go.same (ι := ι) k).there⟩

section
variable {K : PySem.W.Frag} {ι ι' : List Addr} {H H' : Hp}
mutual
theorem Rep.mono (e : Ext ι ι') (k : Kept H H') : ∀ {d : D} {v : V}, Rep K ι H d v → Rep K ι' H' d v
  | .non, _, h => h
  | .bl _, _, h => h
  | .int _, _, h => h
  | .str _, _, h => h
  | .tup ds, _, h => by
    simp only [Rep] at h ⊢
    obtain ⟨a, vs, h1, h2, h3⟩ := h
    exact ⟨a, vs, h1, h2.kept k, Reps.mono e k h3⟩
  | .flst ds, _, h => by
    simp only [Rep] at h ⊢
    obtain ⟨a, vs, h1, h2, h3⟩ := h
    exact ⟨a, vs, h1, h2.kept k, Reps.mono e k h3⟩
  | .ref n, _, h => by
    simp only [Rep] at h ⊢
    obtain ⟨a, h1, h2⟩ := h
    exact ⟨a, h1, e.at h2⟩
theorem Reps.mono (e : Ext ι ι') (k : Kept H H') : ∀ {ds : List D} {vs : List V}, Reps K ι H ds vs → Reps K ι' H' ds vs
  | [], _, h => h
  | d :: ds, _, h => by
    simp only [Reps] at h ⊢
    obtain ⟨v, ws, h1, h2, h3⟩ := h
    exact ⟨v, ws, h1, Rep.mono e k h2, Reps.mono e k h3⟩
end
theorem RepF.mono (e : Ext ι ι') (k : Kept H H') : ∀ {ds : List (Str × D)} {vs : List (Str × V)}, RepF K ι H ds vs → RepF K ι' H' ds vs
  | [], _, h => h
  | d :: ds, _, h => by
    obtain ⟨v, ws, h1, h2, h3⟩ := h
    exact ⟨v, ws, h1, Rep.mono e k h2, RepF.mono e k h3⟩
theorem Reps.nil : Reps K ι H [] [] := by simp [Reps]
theorem Reps.cons {d : D} {v : V} {ds : List D} {vs : List V} (h : Rep K ι H d v) (t : Reps K ι H ds vs) : Reps K ι H (d :: ds) (v :: vs) := by
  simp only [Reps]
  exact ⟨v, vs, rfl, h, t⟩
theorem Reps.length : ∀ {ds : List D} {vs : List V}, Reps K ι H ds vs → vs.length = ds.length
  | [], _, h => by simp only [Reps] at h; subst h; rfl
  | d :: ds, _, h => by
    simp only [Reps] at h
    obtain ⟨v, ws, rfl, h2, h3⟩ := h
    simp [Reps.length h3]
theorem Reps.get : ∀ {ds : List D} {vs : List V} {i : Nat} {d : D}, Reps K ι H ds vs → ds[i]? = some d → ∃ v, vs[i]? = some v ∧ Rep K ι H d v
  | [], _, _, _, _, e => by simp at e
  | d :: ds, _, i, x, h, e => by
    simp only [Reps] at h
    obtain ⟨v, ws, rfl, h2, h3⟩ := h
    cases i with
    | zero => simp at e; subst e; exact ⟨v, rfl, h2⟩
    | succ i =>
      obtain ⟨u, h4, h5⟩ := Reps.get (i := i) (d := x) h3 (by simpa using e)
      exact ⟨u, by simpa using h4, h5⟩
theorem Reps.getV : ∀ {ds : List D} {vs : List V} {i : Nat} {v : V}, Reps K ι H ds vs → vs[i]? = some v → ∃ d, ds[i]? = some d ∧ Rep K ι H d v := by
  intro ds vs i v h e
  have hl := h.length
  have hi : i < ds.length := by
    have := (List.getElem?_eq_some_iff.mp e).1
    omega
  obtain ⟨u, h4, h5⟩ := Reps.get h (List.getElem?_eq_getElem hi)
  rw [e] at h4
  cases h4
  exact ⟨_, List.getElem?_eq_getElem hi, h5⟩
theorem Reps.append : ∀ {ds es : List D} {vs ws : List V}, Reps K ι H ds vs → Reps K ι H es ws → Reps K ι H (ds ++ es) (vs ++ ws)
  | [], _, _, _, h, g => by simp only [Reps] at h; subst h; exact g
  | d :: ds, _, _, _, h, g => by
    simp only [Reps] at h
    obtain ⟨v, us, rfl, h2, h3⟩ := h
    exact Reps.cons h2 (Reps.append h3 g)
theorem Reps.set : ∀ {ds : List D} {vs : List V} {i : Nat} {d : D} {v : V}, Reps K ι H ds vs → Rep K ι H d v → Reps K ι H (ds.set i d) (vs.set i v)
  | [], _, _, _, _, h, _ => by simp only [Reps] at h; subst h; exact Reps.nil
  | d :: ds, _, i, _, _, h, g => by
    simp only [Reps] at h
    obtain ⟨v, us, rfl, h2, h3⟩ := h
    cases i with
    | zero => exact Reps.cons g h3
    | succ i => exact Reps.cons h2 (Reps.set h3 g)
theorem Reps.drop : ∀ {ds : List D} {vs : List V} (n : Nat), Reps K ι H ds vs → Reps K ι H (ds.drop n) (vs.drop n)
  | _, _, 0, h => by simpa using h
  | [], _, n + 1, h => by simp only [Reps] at h; subst h; exact Reps.nil
  | d :: ds, _, n + 1, h => by
    simp only [Reps] at h
    obtain ⟨v, us, rfl, h2, h3⟩ := h
    exact Reps.drop n h3
theorem Reps.take : ∀ {ds : List D} {vs : List V} (n : Nat), Reps K ι H ds vs → Reps K ι H (ds.take n) (vs.take n)
  | _, _, 0, h => by simp [Reps]
  | [], _, n + 1, h => by simp only [Reps] at h; subst h; exact Reps.nil
  | d :: ds, _, n + 1, h => by
    simp only [Reps] at h
    obtain ⟨v, us, rfl, h2, h3⟩ := h
    exact Reps.cons h2 (Reps.take n h3)
theorem Reps.ints : ∀ {ns : List Int}, Reps K ι H (ns.map D.int) (ns.map V.int)
  | [] => Reps.nil
  | n :: ns => Reps.cons (by simp [Rep]) Reps.ints
end

/-- what stands at a place -/
def ObR (U : Su) (ι : List Addr) (H : Hp) (a : Addr) : O → Prop
  | .lst ds => ∃ vs, H a = some (.lst vs) ∧ Reps U.K ι H ds vs
  | .ins c fs => ∃ dx vs, H a = some (.ins (U.cad c) dx vs) ∧ RepF U.K ι H fs vs
structure RelS (U : Su) (ι : List Addr) (s : S) (H : Hp) : Prop where
  len : ι.length = s.length
  ob : ∀ (n : Nat) (o : O), s[n]? = some o → ∃ a, ι[n]? = some a ∧ ObR U ι H a o
  inj : ∀ (n m : Nat) (a : Addr), ι[n]? = some a → ι[m]? = some a → n = m
section
variable {U : Su} {ι ι' : List Addr} {H H' : Hp} {s : S}
theorem ObR.same {a : Addr} {o : O} (e : Ext ι ι') (k : Kept H H') (hs : ∀ u, H a = some u → H' a = some u) (h : ObR U ι H a o) : ObR U ι' H' a o := by
  cases o with
  | lst ds => obtain ⟨vs, h1, h2⟩ := h; exact ⟨vs, hs _ h1, h2.mono e k⟩
  | ins c fs => obtain ⟨dx, vs, h1, h2⟩ := h; exact ⟨dx, vs, hs _ h1, h2.mono e k⟩
theorem ObR.some {a : Addr} {o : O} (h : ObR U ι H a o) : ∃ u, H a = Option.some u ∧ ¬ Stb u := by
  cases o with
  | lst ds => obtain ⟨vs, h1, h2⟩ := h; exact ⟨_, h1, fun z => z⟩
  | ins c fs => obtain ⟨dx, vs, h1, h2⟩ := h; exact ⟨_, h1, fun z => z⟩
theorem RelS.at (h : RelS U ι s H) {n : Nat} {a : Addr} {o : O} (e : s[n]? = some o) (i : ι[n]? = some a) : ObR U ι H a o := by
  obtain ⟨b, h1, h2⟩ := h.ob n o e
  rw [i] at h1
  cases h1
  exact h2
/-- nothing that stood has changed -/
theorem RelS.same (h : RelS U ι s H) (k : Same H H') : RelS U ι s H' :=
  ⟨h.len, fun n o e => let ⟨a, h1, h2⟩ := h.ob n o e; ⟨a, h1, h2.same (Ext.refl _) (Same.kept k) (fun u z => k _ _ z)⟩, h.inj⟩
theorem RelS.tup (h : RelS U ι s H) {p : Addr} {xs : List V} (hp : H p = none) : RelS U ι s (upd H p (.tup xs)) := h.same (same_new hp)
theorem RelS.mem (h : RelS U ι s H) {a : Addr} (m : a ∈ ι) : ∃ u, H a = Option.some u ∧ ¬ Stb u := by
  obtain ⟨n, hn, e⟩ := List.mem_iff_getElem.mp m
  have hn' : n < s.length := h.len ▸ hn
  exact (h.at (List.getElem?_eq_getElem hn') (by rw [List.getElem?_eq_getElem hn, e])).some
theorem RelS.fresh (h : RelS U ι s H) {a : Addr} (e : H a = none) : a ∉ ι := fun m => by
  obtain ⟨u, q, _⟩ := h.mem m
  rw [q] at e; cases e
/-- a new object -/
theorem RelS.new (h : RelS U ι s H) {p : Addr} {o : O} (hp : H p = none) (hk : Same H H') (ho : ObR U (ι ++ [p]) H' p o) : RelS U (ι ++ [p]) (s ++ [o]) H' := by
  refine ⟨by simp [h.len], fun n x e => ?_, fun n m a h1 h2 => ?_⟩
  · by_cases hn : n < s.length
    · rw [List.getElem?_append_left hn] at e
      obtain ⟨a, h1, h2⟩ := h.ob n x e
      exact ⟨a, (Ext.one _ _).at h1, h2.same (Ext.one _ _) (Same.kept hk) (fun u z => hk _ _ z)⟩
    · rw [List.getElem?_append_right (by omega)] at e
      have hn0 : n - s.length = 0 := by
        have := (List.getElem?_eq_some_iff.mp e).1
        simp at this
        omega
      rw [hn0] at e
      simp at e
      subst e
      refine ⟨p, ?_, ho⟩
      have : n = ι.length := by rw [h.len]; omega
      subst this
      simp
  · have key : ∀ (k : Nat), (ι ++ [p])[k]? = some a → (ι[k]? = some a ∧ a ≠ p) ∨ (k = ι.length ∧ a = p) := by
      intro k e3
      by_cases hk' : k < ι.length
      · rw [List.getElem?_append_left hk'] at e3
        exact .inl ⟨e3, fun z => h.fresh hp (z ▸ List.mem_of_getElem? e3)⟩
      · have hl := (List.getElem?_eq_some_iff.mp e3).1
        simp at hl
        have : k = ι.length := by omega
        refine .inr ⟨this, ?_⟩
        rw [this] at e3
        simp at e3
        exact e3.symm
    rcases key n h1 with ⟨a2, a3⟩ | ⟨a1, a2⟩ <;> rcases key m h2 with ⟨b2, b3⟩ | ⟨b1, b2⟩
    · exact h.inj n m a a2 b2
    · exact absurd b2 a3
    · exact absurd a2 b3
    · omega
/-- an object is changed -/
theorem RelS.put (h : RelS U ι s H) {n : Nat} {a : Addr} {o o' : O} {u : HO} (e : s[n]? = some o) (i : ι[n]? = some a) (ho : ObR U ι (upd H a u) a o') : RelS U ι (s.set n o') (upd H a u) ∧ Go ι H ι (upd H a u) := by
  obtain ⟨w, hw, nt⟩ := (h.at e i).some
  have kp : Kept H (upd H a u) := fun b x z st => by
    rw [upd_ne (fun q => by subst q; rw [hw] at z; cases z; exact nt st)]
    exact z
  have go : Go ι H ι (upd H a u) := ⟨⟨[], by simp⟩, fun b v z nb => by
    rw [upd_ne (fun q => nb (by rw [q]; exact List.mem_of_getElem? i))]
    exact z, kp, fun b z => by
    by_cases hb : b = a
    · rw [hb, upd_same]; exact fun w => nomatch w
    · rw [upd_ne hb]; exact z⟩
  refine ⟨⟨by simp [h.len], fun k x q => ?_, h.inj⟩, go⟩
  by_cases hk : k = n
  · subst hk
    rw [List.getElem?_set_self (List.getElem?_eq_some_iff.mp e).1] at q
    cases q
    exact ⟨a, i, ho⟩
  · rw [List.getElem?_set_ne (Ne.symm hk)] at q
    obtain ⟨b, h1, h2⟩ := h.ob k x q
    have hb : b ≠ a := fun z => hk (h.inj k n a (z ▸ h1) i)
    exact ⟨b, h1, h2.same (Ext.refl _) kp (fun v z => by rw [upd_ne hb]; exact z)⟩
end

/-- frames -/
abbrev Fr := List (Option D)
def RelF (U : Su) (ι : List Addr) (H : Hp) (τ : Fr) (σ : L2.St) : Prop := τ.length = σ.length ∧ ∀ (i : Nat) d, τ[i]? = some (some d) → ∃ v, σ[i]? = some (some v) ∧ Rep U.K ι H d v
section
variable {U : Su} {ι ι' : List Addr} {H H' : Hp} {τ : Fr} {σ : L2.St}
theorem RelF.mono (e : Ext ι ι') (k : Kept H H') (h : RelF U ι H τ σ) : RelF U ι' H' τ σ :=
  ⟨h.1, fun i d z => let ⟨v, h1, h2⟩ := h.2 i d z; ⟨v, h1, h2.mono e k⟩⟩
theorem RelF.set (h : RelF U ι H τ σ) {i : Nat} {d : D} {v : V} (r : Rep U.K ι H d v) : RelF U ι H (τ.set i (some d)) (σ.set i (some v)) := by
  refine ⟨by simp [h.1], fun j x e => ?_⟩
  by_cases hj : j = i
  · subst hj
    have hl : j < τ.length := by have := (List.getElem?_eq_some_iff.mp e).1; simpa using this
    rw [List.getElem?_set_self hl] at e
    cases e
    exact ⟨v, List.getElem?_set_self (h.1 ▸ hl), r⟩
  · rw [List.getElem?_set_ne (Ne.symm hj)] at e ⊢
    exact h.2 j x e
end

theorem Go.notin {ι ι' : List Addr} {H H' : Hp} {a : Addr} {u : HO} (g : Go ι H ι' H') (e : H a = some u) (n : a ∉ ι) : a ∉ ι' := by
  obtain ⟨l, rfl, hl⟩ := g.ext
  intro m
  rcases List.mem_append.mp m with m | m
  · exact n m
  · rw [hl a m] at e; cases e
/-- a place that is none of ours is written -/
theorem RelS.off {U : Su} {ι : List Addr} {H : Hp} {s : S} (h : RelS U ι s H) {a : Addr} {u o : HO} (n : a ∉ ι) (e : H a = some u) (st : ¬ Stb u) : RelS U ι s (upd H a o) ∧ Kept H (upd H a o) := by
  have kp : Kept H (upd H a o) := fun b x z y => by
    rw [upd_ne (fun q => by subst q; rw [e] at z; cases z; exact st y)]
    exact z
  refine ⟨⟨h.len, fun k x q => ?_, h.inj⟩, kp⟩
  obtain ⟨b, h1, h2⟩ := h.ob k x q
  have hb : b ≠ a := fun z => n (z ▸ List.mem_of_getElem? h1)
  exact ⟨b, h1, h2.same (Ext.refl _) kp (fun v z => by rw [upd_ne hb]; exact z)⟩
theorem Go.off {ι ι' : List Addr} {H H' : Hp} {a : Addr} {o : HO} (g : Go ι H ι' H') (e : H a = none) (kp : Kept H' (upd H' a o)) : Go ι H ι' (upd H' a o) :=
  ⟨g.ext, fun b u q n => by
    rw [upd_ne (fun z => by subst z; rw [e] at q; cases q)]
    exact g.keep b u q n, g.tups.trans kp, fun b z => by
    by_cases hb : b = a
    · rw [hb, upd_same]; exact fun w => nomatch w
    · rw [upd_ne hb]; exact g.there b z⟩

/-- an exception's own fields, at its dict -/
def ExR (U : Su) (ι : List Addr) (H : Hp) (fs : List (Str × D)) (a : Addr) : Prop := ∃ vs, H a = some (.xd vs) ∧ RepF U.K ι H fs vs

/-! ### what is wanted behind -/
section
variable {α β : Type}
def Post (U : Su) (rel : List Addr → Hp → α → β → Prop) (W : WX) (σ : L2.St) (ι : List Addr) (H : Hp) (r : R α) (Q : β → Hp → Prop) : Prop :=
  match r with
  | .ok d s => ∀ ι' H' v, Go ι H ι' H' → RelS U ι' s H' → rel ι' H' d v → Q v H'
  | .exc c fs s => ∀ ι' H' a, Go ι H ι' H' → RelS U ι' s H' → ExR U ι' H' fs a → W (.ref (U.cad c)) (some a) σ H'
  | .bad => False
variable {U : Su} {rel : List Addr → Hp → α → β → Prop} {W : WX} {σ : L2.St} {ι ι' : List Addr} {H H' : Hp} {r : R α} {Q Q' : β → Hp → Prop}
theorem Post.mono (e : Go ι H ι' H') (h : Post U rel W σ ι H r Q) : Post U rel W σ ι' H' r Q := by
  cases r with
  | ok d s => exact fun ι2 H2 v e2 => h ι2 H2 v (e.trans e2)
  | exc c fs s => exact fun ι2 H2 v e2 => h ι2 H2 v (e.trans e2)
  | bad => exact h
theorem Post.imp (h : Post U rel W σ ι H r Q) (hq : ∀ v H, Q v H → Q' v H) : Post U rel W σ ι H r Q' := by
  cases r with
  | ok d s => exact fun ι2 H2 v e2 q1 q2 => hq _ _ (h ι2 H2 v e2 q1 q2)
  | exc c fs s => exact h
  | bad => exact h
theorem Post.bind {γ δ : Type} {rel' : List Addr → Hp → γ → δ → Prop} {f : α → S → R γ} {Q : δ → Hp → Prop} (h : Post U rel' W σ ι H (r.bind f) Q) :
    Post U rel W σ ι H r (fun v H1 => ∃ ι1 s1 d, RelS U ι1 s1 H1 ∧ rel ι1 H1 d v ∧ Go ι H ι1 H1 ∧ Post U rel' W σ ι1 H1 (f d s1) Q) := by
  cases r with
  | ok d s => exact fun ι2 H2 v e2 q1 q2 => ⟨ι2, s, d, q1, q2, e2, Post.mono e2 h⟩
  | exc c fs s => exact h
  | bad => exact h
end
theorem R.bind_assoc {α β γ : Type} (r : R α) (f : α → S → R β) (g : β → S → R γ) : (r.bind f).bind g = r.bind fun a s => (f a s).bind g := by cases r <;> rfl
section
variable {α β γ δ : Type} {U : Su} {rel : List Addr → Hp → α → β → Prop} {rel' : List Addr → Hp → γ → δ → Prop} {W W' : WX} {σ σ' : L2.St} {ι ι2 : List Addr} {H H2 : Hp} {r : R α}
/-- the run goes on from a later moment, what is wanted is said from the first one -/
theorem Post.bindG {f : α → S → R γ} {Q : δ → Hp → Prop} (go : Go ι H ι2 H2) (h : Post U rel' W σ ι H (r.bind f) Q) :
    Post U rel W σ ι2 H2 r (fun v H3 => ∃ ι3 s3 d, RelS U ι3 s3 H3 ∧ rel ι3 H3 d v ∧ Go ι2 H2 ι3 H3 ∧ Post U rel' W σ ι H (f d s3) Q) := by
  cases r with
  | ok d s => exact fun ι3 H3 v e q1 q2 => ⟨ι3, s, d, q1, q2, e, h⟩
  | exc c fs s => exact fun ι3 H3 a e q1 q2 => h ι3 H3 a (go.trans e) q1 q2
  | bad => exact h
theorem Post.sw {Q : β → Hp → Prop} (n : ∀ c fs s, r ≠ .exc c fs s) (h : Post U rel W σ ι H r Q) : Post U rel W' σ' ι H r Q := by
  cases r with
  | ok d s => exact h
  | exc c fs s => exact (n c fs s rfl).elim
  | bad => exact h
end
abbrev RD (U : Su) : List Addr → Hp → D → V → Prop := fun ι H d v => Rep U.K ι H d v
abbrev RDs (U : Su) : List Addr → Hp → List D → List V → Prop := fun ι H d v => Reps U.K ι H d v
abbrev RB : List Addr → Hp → Bool → Bool → Prop := fun _ _ b c => c = b

/-- a statement's ends -/
inductive SR where
  | nx (τ : Fr) (s : S) | rt (d : D) (s : S) | bk (τ : Fr) (s : S) | ct (τ : Fr) (s : S)
  | exc (τ : Fr) (c : Str) (fs : List (Str × D)) (s : S) | bad
def SR.bind : SR → (Fr → S → SR) → SR
  | .nx τ s, f => f τ s
  | r, _ => r
@[simp] theorem SR.bind_nx (τ s) (f : Fr → S → SR) : (SR.nx τ s).bind f = f τ s := rfl
@[simp] theorem SR.bind_rt (d s) (f : Fr → S → SR) : (SR.rt d s).bind f = .rt d s := rfl
@[simp] theorem SR.bind_bk (d s) (f : Fr → S → SR) : (SR.bk d s).bind f = .bk d s := rfl
@[simp] theorem SR.bind_ct (d s) (f : Fr → S → SR) : (SR.ct d s).bind f = .ct d s := rfl
@[simp] theorem SR.bind_exc (τ c fs s) (f : Fr → S → SR) : (SR.exc τ c fs s).bind f = .exc τ c fs s := rfl
@[simp] theorem SR.bind_bad (f : Fr → S → SR) : (SR.bad).bind f = .bad := rfl
/-- an expression's value into a statement -/
def R.toS {α : Type} (τ : Fr) : R α → (α → S → SR) → SR
  | .ok a s, f => f a s
  | .exc c fs s, _ => .exc τ c fs s
  | .bad, _ => .bad
@[simp] theorem R.toS_ok {α : Type} (τ : Fr) (a : α) (s : S) (f : α → S → SR) : (R.ok a s).toS τ f = f a s := rfl
@[simp] theorem R.toS_exc {α : Type} (τ : Fr) (c fs) (s : S) (f : α → S → SR) : (R.exc c fs s).toS τ f = .exc τ c fs s := rfl
@[simp] theorem R.toS_bad {α : Type} (τ : Fr) (f : α → S → SR) : (R.bad).toS τ f = .bad := rfl
section
variable {U : Su} {W : WX} {σ : L2.St} {ι ι' : List Addr} {H H' : Hp} {E E' : Ends}
def PostS (U : Su) (W : WX) (E : Ends) (ι : List Addr) (H : Hp) (r : SR) : Prop :=
  match r with
  | .nx τ s => ∀ ι' H' σ, Go ι H ι' H' → RelS U ι' s H' → RelF U ι' H' τ σ → E.nx σ H'
  | .rt d s => ∀ ι' H' v, Go ι H ι' H' → RelS U ι' s H' → Rep U.K ι' H' d v → E.rt v H'
  | .bk τ s => ∀ ι' H' σ, Go ι H ι' H' → RelS U ι' s H' → RelF U ι' H' τ σ → E.bk σ H'
  | .ct τ s => ∀ ι' H' σ, Go ι H ι' H' → RelS U ι' s H' → RelF U ι' H' τ σ → E.ct σ H'
  | .exc τ c fs s => ∀ ι' H' σ a, Go ι H ι' H' → RelS U ι' s H' → RelF U ι' H' τ σ → ExR U ι' H' fs a → W (.ref (U.cad c)) (some a) σ H'
  | .bad => False
theorem PostS.mono {r : SR} (e : Go ι H ι' H') (h : PostS U W E ι H r) : PostS U W E ι' H' r := by
  cases r with
  | bad => exact h
  | exc τ c fs s => exact fun ι2 H2 σ a e2 => h ι2 H2 σ a (e.trans e2)
  | nx τ s => exact fun ι2 H2 v e2 => h ι2 H2 v (e.trans e2)
  | rt τ s => exact fun ι2 H2 v e2 => h ι2 H2 v (e.trans e2)
  | bk τ s => exact fun ι2 H2 v e2 => h ι2 H2 v (e.trans e2)
  | ct τ s => exact fun ι2 H2 v e2 => h ι2 H2 v (e.trans e2)
theorem PostS.bind {r : SR} {f : Fr → S → SR} (h : PostS U W E ι H (r.bind f)) :
    PostS U W { E with nx := fun σ H1 => ∃ ι1 s1 τ, RelS U ι1 s1 H1 ∧ RelF U ι1 H1 τ σ ∧ Go ι H ι1 H1 ∧ PostS U W E ι1 H1 (f τ s1) } ι H r := by
  cases r with
  | nx τ s => exact fun ι2 H2 v e2 q1 q2 => ⟨ι2, s, τ, q1, q2, e2, PostS.mono e2 h⟩
  | _ => exact h
theorem PostS.toS {α β : Type} {rel : List Addr → Hp → α → β → Prop} {τ : Fr} {r : R α} {f : α → S → SR} (hf : RelF U ι H τ σ) (h : PostS U W E ι H (r.toS τ f)) :
    Post U rel W σ ι H r (fun v H1 => ∃ ι1 s1 d, RelS U ι1 s1 H1 ∧ rel ι1 H1 d v ∧ RelF U ι1 H1 τ σ ∧ Go ι H ι1 H1 ∧ PostS U W E ι1 H1 (f d s1)) := by
  cases r with
  | ok d s => exact fun ι2 H2 v e2 q1 q2 => ⟨ι2, s, d, q1, q2, hf.mono e2.ex e2.tups, e2, PostS.mono e2 h⟩
  | exc c fs s => exact fun ι2 H2 a e2 q1 q2 => h ι2 H2 σ a e2 q1 (hf.mono e2.ex e2.tups) q2
  | bad => exact h
end
end G

set_option Elab.async false
set_option linter.all false
set_option maxRecDepth 100000
set_option autoImplicit false
/-! G2: a plain language of expressions and commands, and what it does on plain values and stores. -/
namespace G
open PySem PySem.Spec PyProof.Rows L2

inductive Cst where
  | non | bl (b : Bool) | int (i : Int) | str (x : Str)
def Cst.d : Cst → D
  | .non => .non
  | .bl b => .bl b
  | .int i => .int i
  | .str x => .str x
inductive Bop where
  | add | sub | mul | fdiv | mod | pow
inductive Cop where
  | lt | le | gt | ge | eq | ne | isn | notn | inn | nin
inductive Ty where
  | int | bool | str | list | tuple | dict
def Ty.isList : Ty → Bool
  | .list => true
  | _ => false
inductive Bf where
  | len | abs | int | list | tuple
inductive Mf where
  | append | join
inductive Tv where
  | var (i : Nat) | tup (is : List Nat)
inductive Ik where
  | seq | rng1 | rng2
mutual
inductive Ex where
  | nop
  | var (i : Nat)
  | cst (c : Cst)
  | glob (i : Nat)
  | bin (o : Bop) (a b : Ex)
  | neg (a : Ex)
  | not (a : Ex)
  | and (a b : Ex)
  | or (a b : Ex)
  | cmp (o : Cop) (a b : Ex)
  | cmp2 (o o' : Cop) (a b c : Ex)
  | ife (c a b : Ex)
  | tup (es : Exs)
  | lst (es : Exs)
  | ix (a i : Ex)
  | sl (a lo hi : Ex)
  | call (f : Nat) (es : Exs)
  | blt (b : Bf) (es : Exs)
  | meth (m : Mf) (o : Ex) (es : Exs)
  | isi (a : Ex) (t : Ty)
  | lc (elt : Ex) (t : Tv) (k : Ik) (its : Exs) (cond : Ex) (own : List (Str × Nat))
inductive Exs where
  | nil
  | cons (e : Ex) (es : Exs)
end
inductive Tg where
  | loc (t : Tv) | sub (o i : Ex)
mutual
inductive Cm where
  | asg (t : Tg) (e : Ex)
  | ite (c : Ex) (a b : Cms)
  | for_ (t : Tv) (k : Ik) (its : Exs) (body : Cms)
  | whl (c : Ex) (body : Cms)
  | ret (e : Ex)
  | retn
  | expr (e : Ex)
  | pass
  | brk
  | cont
inductive Cms where
  | nil
  | cons (c : Cm) (cs : Cms)
end
def Exs.len : Exs → Nat
  | .nil => 0
  | .cons _ es => es.len + 1

/-! ### data behind values -/
mutual
def toP : Nat → S → D → Option PyData
  | _, _, .non => some .none
  | _, _, .bl b => some (.bool b)
  | _, _, .int i => some (.int i)
  | _, _, .str x => some (.str x)
  | 0, _, .tup _ => none
  | 0, _, .flst _ => none
  | 0, _, .ref _ => none
  | k + 1, s, .tup ds => (toPs k s ds).map .tuple
  | k + 1, s, .flst ds => (toPs k s ds).map .list
  | k + 1, s, .ref n => match s[n]? with
    | some (.lst ds) => (toPs k s ds).map .list
    | _ => none
def toPs : Nat → S → List D → Option (List PyData)
  | _, _, [] => some []
  | k, s, d :: ds => match toP k s d, toPs k s ds with
    | some p, some ps => some (p :: ps)
    | _, _ => none
end

def lstAt (s : S) (n : Nat) : Option (List D) := match s[n]? with
  | some (.lst ds) => some ds
  | _ => none
def seqOf (s : S) : D → Option (List D)
  | .ref n => lstAt s n
  | .tup ds => some ds
  | .flst ds => some ds
  | _ => none

/-! ### operations -/
def new (o : O) (s : S) : R D := .ok (.ref s.length) (s ++ [o])
def addD : D → D → S → R D
  | .int i, .int j, s => .ok (.int (i + j)) s
  | .str x, .str y, s => if x.length + y.length ≤ sizeLine then .ok (.str (x ++ y)) s else .bad
  | .ref m, .ref n, s => match s[m]?, s[n]? with
    | some (.lst a), some (.lst b) => if a.length + b.length ≤ sizeLine then new (.lst (a ++ b)) s else .bad
    | _, _ => .bad
  | .tup a, .tup b, s => if a.length + b.length ≤ sizeLine then .ok (.tup (a ++ b)) s else .bad
  | _, _, _ => .bad
def binD : Bop → D → D → S → R D
  | .add, x, y, s => addD x y s
  | .sub, .int i, .int j, s => .ok (.int (i - j)) s
  | .mul, .int i, .int j, s => if (-(2 ^ 64) < i ∧ i < 2 ^ 64) ∨ (-(2 ^ 64) < j ∧ j < 2 ^ 64) then .ok (.int (i * j)) s else .bad
  | .fdiv, .int i, .int j, s => if 0 < j ∧ j.natAbs.log2 < 9000 then .ok (.int (i / j)) s else .bad
  | .mod, .int i, .int j, s => if 0 < j then .ok (.int (i % j)) s else .bad
  | .pow, .int i, .int j, s => if 0 ≤ j ∧ j ≤ 1000000 ∧ i.natAbs < 2 ^ 64 then .ok (.int (i ^ j.toNat)) s else .bad
  | _, _, _, _ => .bad
def negD : D → S → R D
  | .int i, s => .ok (.int (-i)) s
  | _, _ => .bad
def inStr (x y : Str) : Bool := match x.cps.toList with
  | [c] => decide (c ∈ y.cps.toList)
  | _ => !(Builtin.Str.occurrences y x 0 y.length 1).isEmpty
def flatD : D → Bool
  | .non => true
  | .bl _ => true
  | .int _ => true
  | .str _ => true
  | _ => false
def eqF : D → D → Bool
  | .non, .non => true
  | .bl a, .bl b => a == b
  | .bl a, .int b => (if a then 1 else 0) == b
  | .int a, .bl b => a == (if b then 1 else 0)
  | .int a, .int b => a == b
  | .str a, .str b => a == b
  | _, _ => false
def inD : D → D → S → R Bool
  | .str x, .str y, s => .ok (inStr x y) s
  | x, .ref n, s => match toP 60 s x, toP 60 s (.ref n) with
    | some d, some (.list ds) => if SeqAt.shaped d = true ∧ SeqAt.shaped (.list ds) = true then .ok (ds.any fun z => PyData.eqv z d) s else .bad
    | _, _ => .bad
  | x, .tup ds, s => if flatD x = true ∧ ds.all flatD = true then .ok (ds.any fun z => eqF z x) s else .bad
  | _, _, _ => .bad
def eqD (x y : D) (s : S) : R Bool := match toP 60 s x, toP 60 s y with
  | some d, some e => if SeqAt.shaped d = true ∧ SeqAt.shaped e = true then .ok (PyData.eqv d e) s else .bad
  | _, _ => .bad
def ltD : D → D → S → R Bool
  | .int i, .int j, s => .ok (decide (i < j)) s
  | .str i, .str j, s => .ok (decide (i.cps.toList < j.cps.toList)) s
  | _, _, _ => .bad
def leD : D → D → S → R Bool
  | .int i, .int j, s => .ok (decide (i ≤ j)) s
  | _, _, _ => .bad
def D.isNon : D → Bool
  | .non => true
  | _ => false
def cmpD : Cop → D → D → S → R Bool
  | .lt, x, y, s => ltD x y s
  | .le, x, y, s => leD x y s
  | .gt, .int i, .int j, s => .ok (decide (j < i)) s
  | .ge, .int i, .int j, s => .ok (decide (j ≤ i)) s
  | .eq, x, y, s => eqD x y s
  | .ne, x, y, s => (eqD x y s).bind fun b s => .ok (!b) s
  | .isn, x, .non, s => .ok x.isNon s
  | .notn, x, .non, s => .ok (!x.isNon) s
  | .inn, x, y, s => inD x y s
  | .nin, x, y, s => (inD x y s).bind fun b s => .ok (!b) s
  | _, _, _, _ => .bad
def truD : D → S → R Bool
  | .non, s => .ok false s
  | .bl b, s => .ok b s
  | .int i, s => .ok (i != 0) s
  | .str x, s => if x.length ≤ sizeLine then .ok ((x.length : Int) != 0) s else .bad
  | .tup ds, s => .ok (!ds.isEmpty) s
  | .flst ds, s => .ok (!ds.isEmpty) s
  | .ref n, s => match lstAt s n with
    | some ds => .ok (!ds.isEmpty) s
    | none => .bad
def ixD : D → D → S → R D
  | .str x, .int i, s => if x.length ≤ sizeLine then (match atI x.cps.toList i with
    | some c => .ok (.str ⟨#[c]⟩) s
    | none => .bad) else .bad
  | x, .int i, s => match (seqOf s x).bind fun ds => atI ds i with
    | some d => .ok d s
    | none => .bad
  | _, _, _ => .bad
def cutL {α : Type} (xs : List α) (lo hi : Option Int) : List α := (xs.drop (HT.sIx xs.length 0 lo)).take (HT.sIx xs.length xs.length hi - HT.sIx xs.length 0 lo)
def slD : D → Option Int → Option Int → S → R D
  | .str x, lo, hi, s => if x.length ≤ sizeLine then .ok (.str (cutS x lo hi)) s else .bad
  | .tup ds, lo, hi, s => .ok (.tup (cutL ds lo hi)) s
  | .ref n, lo, hi, s => match lstAt s n with
    | some ds => new (.lst (cutL ds lo hi)) s
    | none => .bad
  | _, _, _, _ => .bad
def bltD : Bf → List D → S → R D
  | .len, [.str x], s => if x.length ≤ sizeLine then .ok (.int x.length) s else .bad
  | .len, [x], s => match seqOf s x with
    | some ds => .ok (.int ds.length) s
    | none => .bad
  | .abs, [.int i], s => .ok (.int (if i < 0 then -i else i)) s
  | .int, [.int i], s => .ok (.int i) s
  | .int, [.bl b], s => .ok (.int (if b then 1 else 0)) s
  | .list, [x], s => match seqOf s x with
    | some ds => new (.lst ds) s
    | none => .bad
  | .tuple, [x], s => match seqOf s x with
    | some ds => .ok (.tup ds) s
    | none => .bad
  | _, _, _ => .bad
def strsOf : List D → Option (List Str)
  | [] => some []
  | .str x :: ds => (strsOf ds).map (x :: ·)
  | _ => none
def methD : Mf → D → List D → S → R D
  | .append, .ref n, [d], s => match s[n]? with
    | some (.lst ds) => if ds.length < sizeLine then .ok .non (s.set n (.lst (ds ++ [d]))) else .bad
    | _ => .bad
  | .join, .str a, [x], s => match (seqOf s x).bind strsOf with
    | some ys => if (ys.map (·.length)).sum + ys.length * a.length ≤ 16777216 then .ok (.str (Txt.join a ys)) s else .bad
    | none => .bad
  | _, _, _, _ => .bad
/-- what a method asks of its object ahead of the arguments -/
def methOk : Mf → D → S → Bool
  | .append, .ref n, s => match s[n]? with
    | some (.lst _) => true
    | _ => false
  | .join, .str _, _ => true
  | _, _, _ => false
def isiD : Ty → D → S → R Bool
  | t, .non, s => .ok false s
  | .int, .bl _, s => .ok true s
  | .bool, .bl _, s => .ok true s
  | _, .bl _, s => .ok false s
  | .int, .int _, s => .ok true s
  | _, .int _, s => .ok false s
  | .str, .str _, s => .ok true s
  | _, .str _, s => .ok false s
  | .tuple, .tup _, s => .ok true s
  | _, .tup _, s => .ok false s
  | t, .flst _, s => .ok t.isList s
  | t, .ref n, s => match lstAt s n with
    | some _ => .ok t.isList s
    | none => .bad
/-- o[i] = v -/
def setD : D → D → D → S → Option S
  | .ref n, .int i, v, s => match s[n]? with
    | some (.lst ds) => match ixN ds.length i with
      | some j => some (s.set n (.lst (ds.set j v)))
      | none => none
    | _ => none
  | _, _, _, _ => none

/-! ### targets and sources -/
def setAll : List Nat → List D → Fr → Fr
  | i :: is, d :: ds, τ => setAll is ds (τ.set i (some d))
  | _, _, τ => τ
def asgV : Tv → D → Fr → Option Fr
  | .var i, d, τ => some (τ.set i (some d))
  | .tup is, .tup ds, τ => if is.length = ds.length then some (setAll is ds τ) else none
  | _, _, _ => none
def wipeF (τ : Fr) : List Nat → Fr
  | [] => τ
  | v :: vs => (wipeF τ vs).set v none
inductive Src where
  | lst (n : Nat) (ds : List D) | vals (ds : List D)
def Src.items : Src → List D
  | .lst _ ds => ds
  | .vals ds => ds
def Src.ok : Src → S → Prop
  | .lst n ds, s => lstAt s n = some ds
  | .vals _, _ => True
def chars (x : Str) : List D := x.cps.toList.map fun c => .str ⟨#[c]⟩
def rngD (lo : Int) (n : Nat) : List D := (List.range n).map fun k => .int (lo + (k : Nat))
def srcOf : Ik → List D → S → Option Src
  | .seq, [.ref n], s => (lstAt s n).map (.lst n)
  | .seq, [.tup ds], _ => some (.vals ds)
  | .seq, [.flst ds], _ => some (.vals ds)
  | .seq, [.str x], _ => some (.vals (chars x))
  | .rng1, [.int j], _ => if -(2 ^ 62) ≤ j ∧ j < 2 ^ 62 then some (.vals (rngD 0 j.toNat)) else none
  | .rng2, [.int i, .int j], _ => if -(2 ^ 62) ≤ i ∧ i < 2 ^ 62 ∧ -(2 ^ 62) ≤ j ∧ j < 2 ^ 62 then some (.vals (rngD i (j - i).toNat)) else none
  | _, _, _ => none

/-! ### turns -/
/-- within a comprehension nothing may be raised -/
def R.calm {α : Type} : R α → R α
  | .ok a s => .ok a s
  | _ => .bad
@[simp] theorem R.calm_ok {α : Type} (a : α) (s : S) : (R.ok a s).calm = .ok a s := rfl
@[simp] theorem R.calm_bad {α : Type} : (R.bad : R α).calm = .bad := rfl
@[simp] theorem R.calm_exc {α : Type} (c fs) (s : S) : (R.exc c fs s : R α).calm = .bad := rfl
open Classical in
noncomputable def lcS (ok : S → Prop) (g : D → S → R (Option D)) : List D → S → R (List D)
  | [], s => if ok s then .ok [] s else .bad
  | d :: ds, s => if ok s then (g d s).bind fun od s => (lcS ok g ds s).bind fun r s => .ok (match od with | some y => y :: r | none => r) s else .bad
open Classical in
noncomputable def forS (ok : S → Prop) (g : D → Fr → S → SR) : List D → Fr → S → SR
  | [], τ, s => if ok s then .nx τ s else .bad
  | d :: ds, τ, s => if ok s then (match g d τ s with
      | .nx τ s => forS ok g ds τ s
      | .ct τ s => forS ok g ds τ s
      | .bk τ s => .nx τ s
      | .rt d s => .rt d s
      | .exc τ c fs s => .exc τ c fs s
      | .bad => .bad) else .bad
def whS (c : Fr → S → R Bool) (b : Fr → S → SR) : Nat → Fr → S → SR
  | 0, _, _ => .bad
  | n + 1, τ, s => (c τ s).toS τ fun k s => if k = true then (match b τ s with
      | .nx τ s => whS c b n τ s
      | .ct τ s => whS c b n τ s
      | .bk τ s => .nx τ s
      | .rt d s => .rt d s
      | .exc τ c fs s => .exc τ c fs s
      | .bad => .bad) else .nx τ s
/-- turns that a while may take -/
def whTop : Nat := 1000000000

/-! ### the evaluation -/
structure CL where
  call : Nat → List D → S → R D
  glob : Nat → Option D
abbrev VT := (Fr → S → R D) × (Fr → S → R Bool)
def plainT (v : Fr → S → R D) : VT := (v, fun τ s => (v τ s).bind truD)
def asB (c : Fr → S → R Bool) : VT := (fun τ s => (c τ s).bind fun b s => .ok (.bl b) s, c)
def partOf : D → Option (Option Int)
  | .int i => some (some i)
  | _ => none
def Ex.isNop : Ex → Bool
  | .nop => true
  | _ => false
mutual
noncomputable def ev (cl : CL) : Ex → VT
  | .nop => plainT fun _ _ => .bad
  | .var i => plainT fun τ s => match τ[i]? with
    | some (some d) => .ok d s
    | _ => .bad
  | .cst c => plainT fun _ s => .ok c.d s
  | .glob i => plainT fun _ s => match cl.glob i with
    | some d => .ok d s
    | none => .bad
  | .bin o a b => plainT fun τ s => ((ev cl a).1 τ s).bind fun x s => ((ev cl b).1 τ s).bind fun y s => binD o x y s
  | .neg a => plainT fun τ s => ((ev cl a).1 τ s).bind negD
  | .not a => (fun τ s => ((ev cl a).1 τ s).bind fun x s => (match x with | .bl c => .ok (.bl (!c)) s | _ => .bad), fun τ s => ((ev cl a).2 τ s).bind fun c s => .ok (!c) s)
  | .and a b => (fun τ s => ((ev cl a).1 τ s).bind fun x s => (match x with | .bl true => (ev cl b).1 τ s | .bl false => .ok (.bl false) s | _ => .bad), fun τ s => ((ev cl a).2 τ s).bind fun c s => if c = true then (ev cl b).2 τ s else .ok false s)
  | .or a b => (fun τ s => ((ev cl a).1 τ s).bind fun x s => (match x with | .bl true => .ok (.bl true) s | .bl false => (ev cl b).1 τ s | _ => .bad), fun τ s => ((ev cl a).2 τ s).bind fun c s => if c = true then .ok true s else (ev cl b).2 τ s)
  | .cmp o a b => asB fun τ s => ((ev cl a).1 τ s).bind fun x s => ((ev cl b).1 τ s).bind fun y s => cmpD o x y s
  | .cmp2 o o' a b c => asB fun τ s => ((ev cl a).1 τ s).bind fun x s => ((ev cl b).1 τ s).bind fun y s => (cmpD o x y s).bind fun k s => if k = true then ((ev cl c).1 τ s).bind fun z s => cmpD o' y z s else .ok false s
  | .ife c a b => (fun τ s => ((ev cl c).2 τ s).bind fun k s => if k = true then (ev cl a).1 τ s else (ev cl b).1 τ s, fun _ _ => .bad)
  | .tup es => plainT fun τ s => (evs cl es τ s).bind fun ds s => .ok (.tup ds) s
  | .lst es => plainT fun τ s => (evs cl es τ s).bind fun ds s => new (.lst ds) s
  | .ix a i => plainT fun τ s => ((ev cl a).1 τ s).bind fun x s => ((ev cl i).1 τ s).bind fun y s => ixD x y s
  | .sl a lo hi => plainT fun τ s => ((ev cl a).1 τ s).bind fun x s => (evPart (ev cl lo).1 lo.isNop τ s).bind fun l s => (evPart (ev cl hi).1 hi.isNop τ s).bind fun h s => slD x l h s
  | .call f es => plainT fun τ s => (evs cl es τ s).bind fun ds s => cl.call f ds s
  | .blt b es => plainT fun τ s => (evs cl es τ s).bind fun ds s => bltD b ds s
  | .meth m o es => plainT fun τ s => ((ev cl o).1 τ s).bind fun x s => if methOk m x s = true then (evs cl es τ s).bind fun ds s => methD m x ds s else .bad
  | .isi a t => plainT fun τ s => ((ev cl a).1 τ s).bind fun x s => (isiD t x s).bind fun b s => .ok (.bl b) s
  | .lc elt t k its cond own => plainT fun τ s => (evs cl its τ s).bind fun ds s => match srcOf k ds s with
    | none => .bad
    | some src => if src.items.length < sizeLine then (lcS src.ok (fun d s => match asgV t d (wipeF τ (own.map (·.2))) with
        | none => .bad
        | some τ' => ((if cond.isNop = true then .ok true s else ((ev cl cond).2 τ' s).calm : R Bool)).bind fun c s => if c = true then (((ev cl elt).1 τ' s).calm).bind fun y s => .ok (some y) s else .ok none s) src.items s).bind fun r s => new (.lst r) s else .bad
noncomputable def evs (cl : CL) : Exs → Fr → S → R (List D)
  | .nil, _, s => .ok [] s
  | .cons e es, τ, s => ((ev cl e).1 τ s).bind fun d s => (evs cl es τ s).bind fun ds s => .ok (d :: ds) s
/-- a part of a slice -/
noncomputable def evPart (v : Fr → S → R D) (nop : Bool) (τ : Fr) (s : S) : R (Option Int) :=
  if nop = true then .ok none s else (v τ s).bind fun d s => match d with
    | .int i => .ok (some i) s
    | _ => .bad
end
noncomputable def evE (cl : CL) (e : Ex) : Fr → S → R D := (ev cl e).1
noncomputable def evT (cl : CL) (e : Ex) : Fr → S → R Bool := (ev cl e).2

noncomputable def store (cl : CL) : Tg → D → Fr → S → SR
  | .loc t, d, τ, s => match asgV t d τ with
    | some τ' => .nx τ' s
    | none => .bad
  | .sub o i, d, τ, s => (evE cl o τ s).toS τ fun x s => (evE cl i τ s).toS τ fun y s => match setD x y d s with
    | some s' => .nx τ s'
    | none => .bad
mutual
noncomputable def ex (cl : CL) : Cm → Fr → S → SR
  | .asg t e, τ, s => (evE cl e τ s).toS τ fun d s => store cl t d τ s
  | .ite c a b, τ, s => (evT cl c τ s).toS τ fun k s => if k = true then exs cl a τ s else exs cl b τ s
  | .for_ t k its body, τ, s => (evs cl its τ s).toS τ fun ds s => match srcOf k ds s with
    | none => .bad
    | some src => forS src.ok (fun d τ s => match asgV t d τ with
        | none => .bad
        | some τ' => exs cl body τ' s) src.items τ s
  | .whl c body, τ, s => whS (evT cl c) (exs cl body) whTop τ s
  | .ret e, τ, s => (evE cl e τ s).toS τ fun d s => .rt d s
  | .retn, _, s => .rt .non s
  | .expr e, τ, s => (evE cl e τ s).toS τ fun _ s => .nx τ s
  | .pass, τ, s => .nx τ s
  | .brk, τ, s => .bk τ s
  | .cont, τ, s => .ct τ s
noncomputable def exs (cl : CL) : Cms → Fr → S → SR
  | .nil, τ, s => .nx τ s
  | .cons c cs, τ, s => (ex cl c τ s).bind fun τ s => exs cl cs τ s
end

/-! ### functions -/
structure Fn where
  np : Nat
  nl : Nat
  body : Cms
structure Ga where
  fns : List Fn
  consts : List D
noncomputable def runFn (cl : CL) (fn : Fn) (ds : List D) (s : S) : R D :=
  if ds.length = fn.np then (match exs cl fn.body (ds.map some ++ List.replicate (fn.nl - fn.np) none) s with
    | .nx _ s => .ok .non s
    | .rt d s => .ok d s
    | .exc _ c fs s => .exc c fs s
    | _ => .bad) else .bad
noncomputable def callF (Γ : Ga) : Nat → Nat → List D → S → R D
  | 0, _, _, _ => .bad
  | k + 1, f, ds, s => match Γ.fns[f]? with
    | some fn => runFn ⟨callF Γ k, fun i => Γ.consts[i]?⟩ fn ds s
    | none => .bad
noncomputable def clF (Γ : Ga) (k : Nat) : CL := ⟨callF Γ k, fun i => Γ.consts[i]?⟩
end G

set_option Elab.async false
set_option linter.all false
set_option maxRecDepth 100000
set_option autoImplicit false
set_option maxHeartbeats 1000000
/-! G3: the operations on plain values are those of the machine. -/
namespace G
open PySem PySem.Spec PyProof.Rows L2

def W0 : WX := fun _ _ _ _ => True
/-- an operation that raises nothing -/
abbrev PostP (U : Su) (ι : List Addr) (H : Hp) (r : R D) (Q : V → Hp → Prop) : Prop := Post U (RD U) W0 [] ι H r Q
section
variable {U : Su} {ι ι' : List Addr} {H H' : Hp} {s : S} {Q : V → Hp → Prop} {d d' : D} {v : V} {ds : List D} {vs : List V} {p a : Addr} {n : Nat}
theorem PostP.val (h : PostP U ι H (.ok d s) Q) (hs : RelS U ι s H) (r : Rep U.K ι H d v) : Q v H := h ι H v (Go.refl _ _) hs r
theorem PostP.mk {o : O} {u : HO} (h : PostP U ι H (new o s) Q) (hs : RelS U ι s H) (hp : H p = none) (ho : ObR U (ι ++ [p]) (upd H p u) p o) : Q (.ref p) (upd H p u) := by
  refine h (ι ++ [p]) _ (.ref p) (Go.new (same_new hp) hp) (hs.new hp (same_new hp) ho) ?_
  show Rep _ _ _ (.ref s.length) _
  simp only [Rep]
  refine ⟨p, rfl, ?_⟩
  rw [← hs.len]
  simp
theorem PostP.tup (h : PostP U ι H (.ok (.tup ds) s) Q) (hs : RelS U ι s H) (hp : H p = none) (r : Reps U.K ι H ds vs) : Q (.ref p) (upd H p (.tup vs)) := by
  refine h ι _ (.ref p) (Go.same (same_new hp)) (hs.tup hp) ?_
  show Rep _ _ _ (.tup ds) _
  simp only [Rep]
  exact ⟨p, vs, rfl, .inl upd_same, r.mono (Ext.refl _) (Same.kept (same_new hp))⟩
theorem ObR.lst (hp : H p = none) (r : Reps U.K ι H ds vs) : ObR U (ι ++ [p]) (upd H p (.lst vs)) p (.lst ds) :=
  ⟨vs, upd_same, r.mono (Ext.one _ _) (Same.kept (same_new hp))⟩
/-- a list that stands in the store -/
theorem lst_sq (hs : RelS U ι s H) (e : lstAt s n = some ds) (i : ι[n]? = some a) : ∃ vs, SqL U.K H a vs ∧ Reps U.K ι H ds vs := by
  unfold lstAt at e
  split at e
  · rename_i xs q
    cases e
    obtain ⟨vs, h1, h2⟩ := hs.at q i
    exact ⟨vs, .inl (.inl h1), h2⟩
  · cases e
theorem seq_sq (hs : RelS U ι s H) (e : seqOf s d = some ds) (r : Rep U.K ι H d v) : ∃ a vs, v = .ref a ∧ (SqL U.K H a vs ∨ TupAt U.K H a vs) ∧ Reps U.K ι H ds vs := by
  cases d with
  | ref n =>
    simp only [Rep] at r
    obtain ⟨a, rfl, i⟩ := r
    obtain ⟨vs, h1, h2⟩ := lst_sq hs e i
    exact ⟨a, vs, rfl, .inl h1, h2⟩
  | tup es =>
    simp only [Rep] at r
    obtain ⟨a, vs, rfl, h1, h2⟩ := r
    cases (show some es = some ds from e)
    exact ⟨a, vs, rfl, .inr h1, h2⟩
  | flst es =>
    simp only [Rep] at r
    obtain ⟨a, vs, rfl, h1, h2⟩ := r
    cases (show some es = some ds from e)
    exact ⟨a, vs, rfl, .inl h1.sq, h2⟩
  | _ => exact nomatch (show none = some ds from e)
mutual
theorem toP_dp (hs : RelS U ι s H) : ∀ (k : Nat) (d : D) (v : V) (p : PyData), Rep U.K ι H d v → toP k s d = some p → Dp U.K H v p
  | _, .non, v, p, r, e => by
    simp only [Rep] at r; simp only [toP, Option.some.injEq] at e; subst r; subst e; exact .non
  | _, .bl b, v, p, r, e => by
    simp only [Rep] at r; simp only [toP, Option.some.injEq] at e; subst r; subst e; exact .bl _
  | _, .int b, v, p, r, e => by
    simp only [Rep] at r; simp only [toP, Option.some.injEq] at e; subst r; subst e; exact .int _
  | _, .str b, v, p, r, e => by
    simp only [Rep] at r; simp only [toP, Option.some.injEq] at e; subst r; subst e; exact .str _
  | 0, .tup ds, v, p, r, e => by simp [toP] at e
  | 0, .ref n, v, p, r, e => by simp [toP] at e
  | 0, .flst n, v, p, r, e => by simp [toP] at e
  | k + 1, .tup ds, v, p, r, e => by
    simp only [Rep] at r
    obtain ⟨a, vs, rfl, h1, h2⟩ := r
    simp only [toP, Option.map_eq_some_iff] at e
    obtain ⟨ps, e, rfl⟩ := e
    exact .tup h1.sq (toPs_dp hs k ds vs ps h2 e)
  | k + 1, .flst ds, v, p, r, e => by
    simp only [Rep] at r
    obtain ⟨a, vs, rfl, h1, h2⟩ := r
    simp only [toP, Option.map_eq_some_iff] at e
    obtain ⟨ps, e, rfl⟩ := e
    exact .lst h1.sq (toPs_dp hs k ds vs ps h2 e)
  | k + 1, .ref n, v, p, r, e => by
    simp only [Rep] at r
    obtain ⟨a, rfl, i⟩ := r
    have key : ∃ ds ps, lstAt s n = some ds ∧ toPs k s ds = some ps ∧ p = .list ps := by
      simp only [toP] at e
      unfold lstAt
      split at e
      · rename_i ds q
        simp only [Option.map_eq_some_iff] at e
        obtain ⟨ps, e, rfl⟩ := e
        exact ⟨ds, ps, rfl, e, rfl⟩
      · cases e
    obtain ⟨ds, ps, e1, e2, rfl⟩ := key
    obtain ⟨vs, h1, h2⟩ := lst_sq hs e1 i
    exact .lst h1 (toPs_dp hs k ds vs ps h2 e2)
theorem toPs_dp (hs : RelS U ι s H) : ∀ (k : Nat) (ds : List D) (vs : List V) (ps : List PyData), Reps U.K ι H ds vs → toPs k s ds = some ps → DpAll U.K H vs ps
  | _, [], vs, ps, r, e => by
    simp only [Reps] at r; simp only [toPs, Option.some.injEq] at e; subst r; subst e; exact .nil
  | k, d :: ds, vs, ps, r, e => by
    simp only [Reps] at r
    obtain ⟨v, ws, rfl, h1, h2⟩ := r
    simp only [toPs] at e
    split at e
    · rename_i q qs e1 e2
      cases e
      exact .cons (toP_dp hs k d v q h1 e1) (toPs_dp hs k ds ws qs h2 e2)
    · cases e
end
end

/-- two values in, by the plain operation m -/
def rOp (U : Su) (m : D → D → S → R D) : R2 := fun x y H Q => ∃ ι s d e, RelS U ι s H ∧ Rep U.K ι H d x ∧ Rep U.K ι H e y ∧ PostP U ι H (m d e s) Q
def boolR (m : D → D → S → R Bool) : D → D → S → R D := fun x y s => (m x y s).bind fun b s => .ok (.bl b) s
section
variable {X : Cx} {U : Su} {ι : List Addr} {H : Hp} {s : S} {Q : V → Hp → Prop}
theorem OpR.imp {f : Value → Value → Sem Value} {r r' : R2} (h : OpR X f r) (i : ∀ x y H Q, r' x y H Q → r x y H Q) : OpR X f r' :=
  fun pins s σ H x y v u Q I rx ry q => h pins s σ H x y v u Q I rx ry (i _ _ _ _ q)
theorem CMulW.dec {i j : Int} (h : i.natAbs.log2 + j.natAbs.log2 < 1000000) : CMulW i j := h

theorem op_binD (hK : U.K = X.K) : ∀ o : Bop, OpR X (binaryOp (match o with | .add => .Add | .sub => .Sub | .mul => .Mult | .fdiv => .FloorDiv | .mod => .Mod | .pow => .Pow)) (rOp U (binD o))
  | .add => by
    have big := (op_add (X := X)).or ((op_add_str (X := X)).or ((op_cat (X := X)).or (op_catA (X := X))))
    refine OpR.imp big fun x y H Q ⟨ι, s, d, e, hs, r1, r2, hp⟩ => ?_
    have hp : PostP U ι H (addD d e s) Q := hp
    match d, e, r1, r2, hp with
    | .int i, .int j, r1, r2, hp =>
      simp only [Rep] at r1 r2
      exact .inl ⟨i, j, r1, r2, hp.val hs (by simp [Rep])⟩
    | .str i, .str j, r1, r2, hp =>
      simp only [Rep] at r1 r2
      simp only [addD] at hp
      split at hp
      · exact .inr (.inl ⟨i, j, r1, r2, by assumption, hp.val hs (by simp [Rep])⟩)
      · exact hp.elim
    | .ref m, .ref n, r1, r2, hp =>
      simp only [Rep] at r1 r2
      obtain ⟨a, rfl, i1⟩ := r1
      obtain ⟨b, rfl, i2⟩ := r2
      simp only [addD] at hp
      split at hp
      · rename_i xs ys q1 q2
        split at hp
        · obtain ⟨vs, h1, h2⟩ := hs.at q1 i1
          obtain ⟨ws, h3, h4⟩ := hs.at q2 i2
          exact .inr (.inr (.inl ⟨a, b, vs, ws, rfl, rfl, h1, h3, by rw [h2.length, h4.length]; assumption, fun p np => hp.mk hs np (ObR.lst np (h2.append h4))⟩))
        · exact hp.elim
      · exact hp.elim
    | .tup xs, .tup ys, r1, r2, hp =>
      simp only [Rep] at r1 r2
      obtain ⟨a, vs, rfl, h1, h2⟩ := r1
      obtain ⟨b, ws, rfl, h3, h4⟩ := r2
      simp only [addD] at hp
      split at hp
      · refine .inr (.inr (.inr ⟨a, b, vs, ws, rfl, rfl, hK ▸ h1.sq, hK ▸ h3.sq, by rw [h2.length, h4.length]; assumption, ?_⟩))
        have g1 := h2.length
        have g2 := h4.length
        refine ⟨fun z => ?_, fun z1 z2 => ?_, fun _ _ p np => hp.tup hs np (h2.append h4)⟩
        · have : xs = [] := List.eq_nil_of_length_eq_zero (by rw [← g1, z]; rfl)
          subst this
          exact hp.val hs (by simp only [Rep, List.nil_append]; exact ⟨b, ws, rfl, h3, h4⟩)
        · have : ys = [] := List.eq_nil_of_length_eq_zero (by rw [← g2, z2]; rfl)
          subst this
          exact hp.val hs (by simp only [Rep, List.append_nil]; exact ⟨a, vs, rfl, h1, h2⟩)
      · exact hp.elim
    | .non, _, _, _, hp => exact hp.elim
    | .bl _, _, _, _, hp => exact hp.elim
    | .flst _, _, _, _, hp => exact hp.elim
    | .int _, .flst _, _, _, hp => exact hp.elim
    | .str _, .flst _, _, _, hp => exact hp.elim
    | .tup _, .flst _, _, _, hp => exact hp.elim
    | .ref _, .flst _, _, _, hp => exact hp.elim
    | .int _, .non, _, _, hp => exact hp.elim
    | .int _, .bl _, _, _, hp => exact hp.elim
    | .int _, .str _, _, _, hp => exact hp.elim
    | .int _, .tup _, _, _, hp => exact hp.elim
    | .int _, .ref _, _, _, hp => exact hp.elim
    | .str _, .non, _, _, hp => exact hp.elim
    | .str _, .bl _, _, _, hp => exact hp.elim
    | .str _, .int _, _, _, hp => exact hp.elim
    | .str _, .tup _, _, _, hp => exact hp.elim
    | .str _, .ref _, _, _, hp => exact hp.elim
    | .tup _, .non, _, _, hp => exact hp.elim
    | .tup _, .bl _, _, _, hp => exact hp.elim
    | .tup _, .int _, _, _, hp => exact hp.elim
    | .tup _, .str _, _, _, hp => exact hp.elim
    | .tup _, .ref _, _, _, hp => exact hp.elim
    | .ref _, .non, _, _, hp => exact hp.elim
    | .ref _, .bl _, _, _, hp => exact hp.elim
    | .ref _, .int _, _, _, hp => exact hp.elim
    | .ref _, .str _, _, _, hp => exact hp.elim
    | .ref _, .tup _, _, _, hp => exact hp.elim
  | .sub => by
    refine OpR.imp (op_sub (X := X)) fun x y H Q ⟨ι, s, d, e, hs, r1, r2, hp⟩ => ?_
    cases d <;> cases e <;> first
      | exact (show False from hp).elim
      | (simp only [Rep] at r1 r2
         exact ⟨_, _, r1, r2, PostP.val hp hs (by simp [Rep])⟩)
  | .mul => by
    refine OpR.imp (op_mul (X := X)) fun x y H Q ⟨ι, s, d, e, hs, r1, r2, hp⟩ => ?_
    cases d <;> cases e <;> first
      | exact (show False from hp).elim
      | (simp only [Rep] at r1 r2
         simp only [binD] at hp
         split at hp
         · exact ⟨_, _, r1, r2, (by assumption), PostP.val hp hs (by simp [Rep])⟩
         · exact hp.elim)
  | .fdiv => by
    refine OpR.imp (op_fdivW (X := X)) fun x y H Q ⟨ι, s, d, e, hs, r1, r2, hp⟩ => ?_
    cases d <;> cases e <;> first
      | exact (show False from hp).elim
      | (simp only [Rep] at r1 r2
         simp only [binD] at hp
         split at hp
         · exact ⟨_, _, r1, r2, (by assumption), PostP.val hp hs (by simp [Rep])⟩
         · exact hp.elim)
  | .mod => by
    refine OpR.imp (op_mod (X := X)) fun x y H Q ⟨ι, s, d, e, hs, r1, r2, hp⟩ => ?_
    cases d <;> cases e <;> first
      | exact (show False from hp).elim
      | (simp only [Rep] at r1 r2
         simp only [binD] at hp
         split at hp
         · exact ⟨_, _, r1, r2, (by assumption), PostP.val hp hs (by simp [Rep])⟩
         · exact hp.elim)
  | .pow => by
    refine OpR.imp (op_pow (X := X)) fun x y H Q ⟨ι, s, d, e, hs, r1, r2, hp⟩ => ?_
    cases d <;> cases e <;> first
      | exact (show False from hp).elim
      | (simp only [Rep] at r1 r2
         simp only [binD] at hp
         split at hp
         · exact ⟨_, _, r1, r2, (by assumption), PostP.val hp hs (by simp [Rep])⟩
         · exact hp.elim)

theorem flat_V {K : PySem.W.Frag} {d : D} {v : V} (r : Rep K ι H d v) (h : flatD d = true) : flatV v = true := by
  cases d <;> first
    | exact (Bool.false_ne_true h).elim
    | (simp only [Rep] at r; subst r; rfl)
theorem flat_eq {K : PySem.W.Frag} {d e : D} {v w : V} (r : Rep K ι H d v) (q : Rep K ι H e w) (h : flatD d = true) (h' : flatD e = true) : eqV v w = eqF d e := by
  cases d <;> cases e <;> first
    | exact (Bool.false_ne_true h).elim
    | exact (Bool.false_ne_true h').elim
    | (simp only [Rep] at r q; subst r; subst q; rfl)
theorem flat_all {K : PySem.W.Frag} {e : D} {w : V} (q : Rep K ι H e w) (h' : flatD e = true) : ∀ {ds : List D} {vs : List V}, Reps K ι H ds vs → ds.all flatD = true → vs.all flatV = true ∧ inV w vs = ds.any fun z => eqF z e
  | [], vs, r, _ => by simp only [Reps] at r; subst r; exact ⟨rfl, rfl⟩
  | d :: ds, vs, r, h => by
    simp only [Reps] at r
    obtain ⟨v, ws, rfl, h1, h2⟩ := r
    simp only [List.all_cons, Bool.and_eq_true] at h
    obtain ⟨g1, g2⟩ := flat_all q h' h2 h.2
    refine ⟨by simp only [List.all_cons, Bool.and_eq_true]; exact ⟨flat_V h1 h.1, g1⟩, ?_⟩
    unfold inV at g2 ⊢
    simp only [List.any_cons, g2, flat_eq h1 q h.1 h']

theorem Rep.str_of {K : PySem.W.Frag} {x : Str} {v : V} (r : Rep K ι H (.str x) v) : v = .str x := by simpa only [Rep] using r
theorem Rep.int_of {K : PySem.W.Frag} {i : Int} {v : V} (r : Rep K ι H (.int i) v) : v = .int i := by simpa only [Rep] using r
theorem Rep.bl_of {K : PySem.W.Frag} {b : Bool} {v : V} (r : Rep K ι H (.bl b) v) : v = .bl b := by simpa only [Rep] using r
theorem Rep.non_of {K : PySem.W.Frag} {v : V} (r : Rep K ι H .non v) : v = .non := by simpa only [Rep] using r
theorem rep_bl {K : PySem.W.Frag} (b : Bool) : Rep K ι H (.bl b) (.bl b) := by simp only [Rep]
theorem rep_int {K : PySem.W.Frag} (b : Int) : Rep K ι H (.int b) (.int b) := by simp only [Rep]
theorem rep_str {K : PySem.W.Frag} (b : Str) : Rep K ι H (.str b) (.str b) := by simp only [Rep]
theorem rep_non {K : PySem.W.Frag} : Rep K ι H .non .non := by simp only [Rep]

/-- a Bool as the value True or False -/
abbrev bv (r : R Bool) : R D := r.bind fun b s => .ok (.bl b) s
theorem op_in (hK : U.K = X.K) (hu : X.A.units + 65 < cLine) : OpR X (compareOp .In) (rOp U (boolR (cmpD .inn))) := by
  have big := (op_in_sign (X := X)).or ((op_in_str (X := X)).or ((op_inD hu).or (op_in_seq (X := X))))
  refine OpR.imp big fun x y H Q ⟨ι, s, d, e, hs, r1, r2, hp⟩ => ?_
  replace hp : PostP U ι H (bv (inD d e s)) Q := hp
  unfold inD at hp
  split at hp
  · rename_i i j
    cases r1.str_of; cases r2.str_of
    simp only [bv, R.bind_ok, inStr] at hp
    split at hp
    · rename_i c q
      have e : i = ⟨#[c]⟩ := by cases i with | mk a => simp only [Str.mk.injEq]; exact Array.toList_inj.mp q
      subst e
      exact .inl ⟨c, j, rfl, rfl, hp.val hs (rep_bl _)⟩
    · exact .inr (.inl ⟨i, j, rfl, rfl, hp.val hs (rep_bl _)⟩)
  · split at hp
    · rename_i d' ds q1 q2
      split at hp
      · rename_i q3
        exact .inr (.inr (.inl ⟨d', ds, hK ▸ toP_dp hs _ _ _ _ r1 q1, hK ▸ toP_dp hs _ _ _ _ r2 q2, q3.1, q3.2, hp.val hs (rep_bl _)⟩))
      · exact hp.elim
    · exact hp.elim
  · split at hp
    · rename_i q
      simp only [Rep] at r2
      obtain ⟨a, vs, rfl, h1, h2⟩ := r2
      obtain ⟨g1, g2⟩ := flat_all r1 q.1 h2 q.2
      refine .inr (.inr (.inr ⟨a, vs, rfl, .inr (hK ▸ h1.sq), flat_V r1 q.1, g1, ?_⟩))
      have z := hp.val hs (rep_bl _)
      rw [← g2] at z
      exact z
    · exact hp.elim
  · exact hp.elim
theorem op_nin (hK : U.K = X.K) (hu : X.A.units + 65 < cLine) : OpR X (compareOp .NotIn) (rOp U (boolR (cmpD .nin))) := by
  have big := (op_notIn_sign (X := X)).or ((op_notIn_str (X := X)).or ((op_notInD hu).or (op_notIn_seq (X := X))))
  refine OpR.imp big fun x y H Q ⟨ι, s, d, e, hs, r1, r2, hp⟩ => ?_
  replace hp : PostP U ι H (bv ((inD d e s).bind fun b s => .ok (!b) s)) Q := hp
  unfold inD at hp
  split at hp
  · rename_i i j
    cases r1.str_of; cases r2.str_of
    simp only [bv, R.bind_ok, inStr] at hp
    split at hp
    · rename_i c q
      have e : i = ⟨#[c]⟩ := by cases i with | mk a => simp only [Str.mk.injEq]; exact Array.toList_inj.mp q
      subst e
      exact .inl ⟨c, j, rfl, rfl, hp.val hs (rep_bl _)⟩
    · exact .inr (.inl ⟨i, j, rfl, rfl, hp.val hs (rep_bl _)⟩)
  · split at hp
    · rename_i d' ds q1 q2
      split at hp
      · rename_i q3
        exact .inr (.inr (.inl ⟨d', ds, hK ▸ toP_dp hs _ _ _ _ r1 q1, hK ▸ toP_dp hs _ _ _ _ r2 q2, q3.1, q3.2, hp.val hs (rep_bl _)⟩))
      · exact hp.elim
    · exact hp.elim
  · split at hp
    · rename_i q
      simp only [Rep] at r2
      obtain ⟨a, vs, rfl, h1, h2⟩ := r2
      obtain ⟨g1, g2⟩ := flat_all r1 q.1 h2 q.2
      refine .inr (.inr (.inr ⟨a, vs, rfl, .inr (hK ▸ h1.sq), flat_V r1 q.1, g1, ?_⟩))
      have z := hp.val hs (rep_bl _)
      rw [← g2] at z
      exact z
    · exact hp.elim
  · exact hp.elim
def copOf : Cop → CmpOp
  | .lt => .Lt | .le => .LtE | .gt => .Gt | .ge => .GtE | .eq => .Eq | .ne => .NotEq | .isn => .Is | .notn => .IsNot | .inn => .In | .nin => .NotIn
theorem op_cmpD (hK : U.K = X.K) (hu : X.A.units + 65 < cLine) : ∀ o : Cop, OpR X (compareOp (copOf o)) (rOp U (boolR (cmpD o)))
  | .lt => by
    refine OpR.imp ((op_lt (X := X)).or (op_lt_str (X := X))) fun x y H Q ⟨ι, s, d, e, hs, r1, r2, hp⟩ => ?_
    cases d <;> cases e <;> first
      | exact (show False from hp).elim
      | exact .inl ⟨_, _, r1.int_of, r2.int_of, PostP.val hp hs (rep_bl _)⟩
      | exact .inr ⟨_, _, r1.str_of, r2.str_of, PostP.val hp hs (rep_bl _)⟩
  | .le => by
    refine OpR.imp (op_le (X := X)) fun x y H Q ⟨ι, s, d, e, hs, r1, r2, hp⟩ => ?_
    cases d <;> cases e <;> first
      | exact (show False from hp).elim
      | exact ⟨_, _, r1.int_of, r2.int_of, PostP.val hp hs (rep_bl _)⟩
  | .gt => by
    refine OpR.imp (op_gt (X := X)) fun x y H Q ⟨ι, s, d, e, hs, r1, r2, hp⟩ => ?_
    cases d <;> cases e <;> first
      | exact (show False from hp).elim
      | exact ⟨_, _, r1.int_of, r2.int_of, PostP.val hp hs (rep_bl _)⟩
  | .ge => by
    refine OpR.imp (op_ge (X := X)) fun x y H Q ⟨ι, s, d, e, hs, r1, r2, hp⟩ => ?_
    cases d <;> cases e <;> first
      | exact (show False from hp).elim
      | exact ⟨_, _, r1.int_of, r2.int_of, PostP.val hp hs (rep_bl _)⟩
  | .eq => by
    refine OpR.imp (op_eqD (by omega)) fun x y H Q ⟨ι, s, d, e, hs, r1, r2, hp⟩ => ?_
    replace hp : PostP U ι H (bv (eqD d e s)) Q := hp
    unfold eqD at hp
    split at hp
    · rename_i p q e1 e2
      split at hp
      · rename_i q3
        exact ⟨p, q, hK ▸ toP_dp hs _ _ _ _ r1 e1, hK ▸ toP_dp hs _ _ _ _ r2 e2, q3.1, q3.2, hp.val hs (rep_bl _)⟩
      · exact hp.elim
    · exact hp.elim
  | .ne => by
    refine OpR.imp (op_neD (by omega)) fun x y H Q ⟨ι, s, d, e, hs, r1, r2, hp⟩ => ?_
    replace hp : PostP U ι H (bv ((eqD d e s).bind fun b s => .ok (!b) s)) Q := hp
    unfold eqD at hp
    split at hp
    · rename_i p q e1 e2
      split at hp
      · rename_i q3
        exact ⟨p, q, hK ▸ toP_dp hs _ _ _ _ r1 e1, hK ▸ toP_dp hs _ _ _ _ r2 e2, q3.1, q3.2, hp.val hs (rep_bl _)⟩
      · exact hp.elim
    · exact hp.elim
  | .isn => by
    refine OpR.imp (op_isN (X := X)) fun x y H Q ⟨ι, s, d, e, hs, r1, r2, hp⟩ => ?_
    have hd : decide (x = .non) = d.isNon := by
      cases d <;> simp only [Rep] at r1 <;> first
        | (subst r1; rfl)
        | (obtain ⟨_, _, rfl, _⟩ := r1; rfl)
        | (obtain ⟨_, rfl, _⟩ := r1; rfl)
    cases e <;> first
      | exact ⟨r2.non_of, hd ▸ PostP.val hp hs (rep_bl _)⟩
      | exact (show False from by cases d <;> exact hp).elim
  | .notn => by
    refine OpR.imp (op_notN (X := X)) fun x y H Q ⟨ι, s, d, e, hs, r1, r2, hp⟩ => ?_
    have hd : decide (x = .non) = d.isNon := by
      cases d <;> simp only [Rep] at r1 <;> first
        | (subst r1; rfl)
        | (obtain ⟨_, _, rfl, _⟩ := r1; rfl)
        | (obtain ⟨_, rfl, _⟩ := r1; rfl)
    cases e <;> first
      | exact ⟨r2.non_of, hd ▸ PostP.val hp hs (rep_bl _)⟩
      | exact (show False from by cases d <;> exact hp).elim
  | .inn => op_in hK hu
  | .nin => op_nin hK hu
theorem un_negD : UnR X (unaryOp .USub) (fun x H Q => ∃ ι s d, RelS U ι s H ∧ Rep U.K ι H d x ∧ PostP U ι H (negD d s) Q) := by
  intro pins s σ H x v Q I rx ⟨ι, st, d, hs, r1, hp⟩
  cases d <;> first
    | exact (show False from hp).elim
    | exact un_neg pins s σ H x v Q I rx ⟨_, r1.int_of, PostP.val hp hs (rep_int _)⟩
/-- truth -/
abbrev PostB (U : Su) (ι : List Addr) (H : Hp) (r : R Bool) (Q : Bool → Hp → Prop) : Prop := Post U RB W0 [] ι H r Q
theorem PostB.val {b : Bool} {Q : Bool → Hp → Prop} (h : PostB U ι H (.ok b s) Q) (hs : RelS U ι s H) : Q b H := h ι H b (Go.refl _ _) hs rfl
theorem tru_D {K : PySem.W.Frag} (hK : U.K = K) {x : V} {d : D} {Q : Bool → Hp → Prop} (hs : RelS U ι s H) (r : Rep U.K ι H d x) (hp : PostB U ι H (truD d s) Q) : ∃ k, TruV K x H k ∧ Q k H := by
  cases d with
  | non => cases r.non_of; exact ⟨_, rfl, hp.val hs⟩
  | bl b => cases r.bl_of; exact ⟨_, rfl, hp.val hs⟩
  | int b => cases r.int_of; exact ⟨_, rfl, hp.val hs⟩
  | str b =>
    cases r.str_of
    simp only [truD] at hp
    split at hp
    · exact ⟨_, ⟨by assumption, rfl⟩, hp.val hs⟩
    · exact hp.elim
  | tup ds =>
    simp only [Rep] at r
    obtain ⟨a, vs, rfl, h1, h2⟩ := r
    have g := h2.length
    refine ⟨!ds.isEmpty, .inr (.inl ⟨vs, hK ▸ h1.sq, ?_⟩), hp.val hs⟩
    cases ds <;> cases vs <;> simp_all
  | flst ds =>
    simp only [Rep] at r
    obtain ⟨a, vs, rfl, h1, h2⟩ := r
    have g := h2.length
    refine ⟨!ds.isEmpty, .inl ⟨vs, hK ▸ h1.sq, ?_⟩, hp.val hs⟩
    cases ds <;> cases vs <;> simp_all
  | ref n =>
    simp only [Rep] at r
    obtain ⟨a, rfl, i⟩ := r
    simp only [truD] at hp
    split at hp
    · rename_i ds q
      obtain ⟨vs, h1, h2⟩ := lst_sq hs q i
      have g := h2.length
      refine ⟨!ds.isEmpty, .inl ⟨vs, hK ▸ h1, ?_⟩, hp.val hs⟩
      cases ds <;> cases vs <;> simp_all
    · exact hp.elim
theorem atI_len {α β : Type} {xs : List α} {ys : List β} (h : ys.length = xs.length) (i : Int) : ∀ x, atI xs i = some x → ∃ j : Nat, xs[j]? = some x ∧ ixN xs.length i = some j ∧ ∀ y, ys[j]? = some y → atI ys i = some y := by
  intro x e
  unfold atI at e ⊢
  rw [h]
  cases q : ixN xs.length i with
  | none => rw [q] at e; cases e
  | some j =>
    rw [q] at e
    exact ⟨j, e, rfl, fun y z => z⟩
theorem ix_D (hK : U.K = X.K) : IxR X (rOp U ixD) := by
  intro value slice pins s σ H x y v u Q I rx ry ⟨ι, st, d, e, hs, r1, r2, hp⟩ hsu
  refine ix_seq value slice pins s σ H x y v u Q I rx ry ?_ hsu
  unfold ixD at hp
  split at hp
  · rename_i z i
    split at hp
    · split at hp
      · rename_i c q
        exact .inr (.inr ⟨z, i, c, r1.str_of, r2.int_of, by assumption, q, hp.val hs (rep_str _)⟩)
      · exact hp.elim
    · exact hp.elim
  · rename_i i _
    split at hp
    · rename_i w q
      simp only [Option.bind_eq_some_iff] at q
      obtain ⟨ds, q1, q2⟩ := q
      obtain ⟨a, vs, rfl, h1, h2⟩ := seq_sq hs q1 r1
      obtain ⟨j, g1, _, g3⟩ := atI_len h2.length i w q2
      obtain ⟨wv, g4, g5⟩ := h2.get g1
      rcases h1 with h1 | h1
      · exact .inl ⟨a, vs, i, wv, rfl, r2.int_of, hK ▸ h1, g3 wv g4, hp.val hs g5⟩
      · exact .inr (.inl ⟨a, vs, i, wv, rfl, r2.int_of, hK ▸ h1.sq, g3 wv g4, hp.val hs g5⟩)
    · exact hp.elim
  · exact hp.elim
theorem Reps.cut {K : PySem.W.Frag} {ds : List D} {vs : List V} (lo hi : Option Int) (h : Reps K ι H ds vs) : Reps K ι H (cutL ds lo hi) (cutV vs lo hi) := by
  unfold cutL cutV
  rw [h.length]
  exact (h.drop _).take _
theorem sl_D (hK : U.K = X.K) : SlR X (fun x lo hi H Q => ∃ ι s d, RelS U ι s H ∧ Rep U.K ι H d x ∧ PostP U ι H (slD d lo hi s) Q) := by
  intro pins s σ H x v vl vu lo hi sl Q I rx hsl pl pu ⟨ι, st, d, hs, r, hp⟩
  refine ((sl_str (X := X)).or ((sl_list (X := X)).or (sl_tupA (X := X)))) pins s σ H x v vl vu lo hi sl Q I rx hsl pl pu ?_
  unfold slD at hp
  split at hp
  · split at hp
    · exact .inl ⟨_, r.str_of, by assumption, hp.val hs (rep_str _)⟩
    · exact hp.elim
  · rename_i ds
    simp only [Rep] at r
    obtain ⟨a, vs, rfl, h1, h2⟩ := r
    refine .inr (.inr ⟨a, vs, rfl, hK ▸ h1.sq, fun z => ?_, fun z p np => hp.tup hs np (h2.cut lo hi)⟩)
    refine hp.val hs ?_
    simp only [Rep]
    refine ⟨a, vs, rfl, h1, ?_⟩
    have g := h2.cut lo hi
    have e : cutV vs lo hi = vs := by
      unfold cutV
      rw [z.1, z.2]
      simp
    rw [e] at g
    exact g
  · rename_i n
    simp only [Rep] at r
    obtain ⟨a, rfl, i⟩ := r
    split at hp
    · rename_i ds q
      obtain ⟨vs, h1, h2⟩ := lst_sq hs q i
      exact .inr (.inl ⟨a, vs, rfl, hK ▸ h1, fun p np => hp.mk hs np (ObR.lst np (h2.cut lo hi))⟩)
    · exact hp.elim
  · exact hp.elim
end
end G

set_option Elab.async false
set_option linter.all false
set_option maxRecDepth 100000
set_option autoImplicit false
set_option maxHeartbeats 1000000
/-! G4: built-in calls, methods, isinstance, stores, sources and targets. -/
namespace G
open PySem PySem.Spec PyProof.Rows L2

def rCall (U : Su) (m : List D → S → R D) : List V → Hp → VK → Prop := fun xs H Q => ∃ ι s ds, RelS U ι s H ∧ Reps U.K ι H ds xs ∧ PostP U ι H (m ds s) Q
theorem Reps.one_of {K : PySem.W.Frag} {ι : List Addr} {H : Hp} {d : D} {xs : List V} (r : Reps K ι H [d] xs) : ∃ v, xs = [v] ∧ Rep K ι H d v := by
  simp only [Reps] at r
  obtain ⟨v, ws, rfl, h, rfl⟩ := r
  exact ⟨v, rfl, h⟩
theorem Reps.two_of {K : PySem.W.Frag} {ι : List Addr} {H : Hp} {d e : D} {xs : List V} (r : Reps K ι H [d, e] xs) : ∃ v w, xs = [v, w] ∧ Rep K ι H d v ∧ Rep K ι H e w := by
  simp only [Reps] at r
  obtain ⟨v, ws, rfl, h, w, us, rfl, h', rfl⟩ := r
  exact ⟨v, w, rfl, h, h'⟩
section
variable {X : Cx} {U : Su}
theorem CallR.imp {f : Value} {r r' : List V → Hp → VK → Prop} (h : CallR X f r) (i : ∀ xs H Q, r' xs H Q → r xs H Q) : CallR X f r' :=
  fun pins s σ H xs us Q I rx q => h pins s σ H xs us Q I rx (i _ _ _ q)
theorem CallR.or {f : Value} {r r' : List V → Hp → VK → Prop} (h : CallR X f r) (h' : CallR X f r') : CallR X f (fun x H Q => r x H Q ∨ r' x H Q) :=
  fun pins s σ H xs us Q I rx q => q.elim (h pins s σ H xs us Q I rx) (h' pins s σ H xs us Q I rx)
def bfName : Bf → Str
  | .len => "len" | .abs => "abs" | .int => "int" | .list => "list" | .tuple => "tuple"
def bfVal : Bf → Value
  | .len => .builtin "len" | .abs => .builtin "abs" | .int => .type "int" | .list => .type "list" | .tuple => .type "tuple"
theorem blt_D (hK : U.K = X.K) : ∀ b : Bf, CallR X (bfVal b) (rCall U (bltD b))
  | .len => by
    refine CallR.imp ((call_len_str (X := X)).or (call_len_seq (X := X))) fun xs H Q ⟨ι, s, ds, hs, r, hp⟩ => ?_
    unfold bltD at hp
    split at hp <;> first
      | (rename_i z
         split at hp
         · obtain ⟨v, rfl, r1⟩ := r.one_of
           cases r1.str_of
           exact .inl ⟨_, rfl, by assumption, hp.val hs (rep_int _)⟩
         · exact hp.elim)
      | (rename_i z
         split at hp
         · rename_i es q
           obtain ⟨v, rfl, r1⟩ := r.one_of
           obtain ⟨a, vs, rfl, h1, h2⟩ := seq_sq hs q r1
           refine .inr ⟨a, vs, rfl, ?_, ?_⟩
           · rcases h1 with h1 | h1
             · exact .inl (hK ▸ h1)
             · exact .inr (hK ▸ h1.sq)
           · rw [h2.length]; exact hp.val hs (rep_int _)
         · exact hp.elim)
      | exact hp.elim
      | contradiction
      | simp_all
  | .abs => by
    refine CallR.imp (call_abs (X := X)) fun xs H Q ⟨ι, s, ds, hs, r, hp⟩ => ?_
    match ds, r, hp with
    | [.int i], r, hp =>
      obtain ⟨v, rfl, r1⟩ := r.one_of
      cases r1.int_of
      exact ⟨_, rfl, PostP.val hp hs (rep_int _)⟩
    | [], r, hp => exact (show False from hp).elim
    | _ :: _ :: _, r, hp => exact (show False from by unfold bltD at hp; split at hp <;> simp_all [Post]).elim
    | [.non], r, hp => exact (show False from hp).elim
    | [.bl _], r, hp => exact (show False from hp).elim
    | [.str _], r, hp => exact (show False from hp).elim
    | [.tup _], r, hp => exact (show False from hp).elim
    | [.ref _], r, hp => exact (show False from hp).elim
    | [.flst _], r, hp => exact (show False from hp).elim
  | .int => by
    refine CallR.imp (call_int1 (X := X)) fun xs H Q ⟨ι, s, ds, hs, r, hp⟩ => ?_
    match ds, r, hp with
    | [.int i], r, hp =>
      obtain ⟨v, rfl, r1⟩ := r.one_of
      cases r1.int_of
      exact .inl ⟨_, rfl, PostP.val hp hs (rep_int _)⟩
    | [.bl i], r, hp =>
      obtain ⟨v, rfl, r1⟩ := r.one_of
      cases r1.bl_of
      exact .inr ⟨_, rfl, PostP.val hp hs (rep_int _)⟩
    | [], r, hp => exact (show False from hp).elim
    | _ :: _ :: _, r, hp => exact (show False from by unfold bltD at hp; split at hp <;> simp_all [Post]).elim
    | [.non], r, hp => exact (show False from hp).elim
    | [.str _], r, hp => exact (show False from hp).elim
    | [.tup _], r, hp => exact (show False from hp).elim
    | [.ref _], r, hp => exact (show False from hp).elim
    | [.flst _], r, hp => exact (show False from hp).elim
  | .list => by
    refine CallR.imp (call_list_of (X := X)) fun xs H Q ⟨ι, s, ds, hs, r, hp⟩ => ?_
    match ds, r, hp with
    | [x], r, hp =>
      obtain ⟨v, rfl, r1⟩ := r.one_of
      simp only [bltD] at hp
      split at hp
      · rename_i es q
        obtain ⟨a, vs, rfl, h1, h2⟩ := seq_sq hs q r1
        refine ⟨a, vs, rfl, ?_, fun p np => hp.mk hs np (ObR.lst np h2)⟩
        rcases h1 with h1 | h1
        · exact .inl (hK ▸ h1)
        · exact .inr (hK ▸ h1.sq)
      · exact hp.elim
    | [], r, hp => exact (show False from hp).elim
    | _ :: _ :: _, r, hp => exact (show False from by unfold bltD at hp; split at hp <;> simp_all [Post]).elim
  | .tuple => by
    refine CallR.imp (call_tuple_of (X := X)) fun xs H Q ⟨ι, s, ds, hs, r, hp⟩ => ?_
    match ds, r, hp with
    | [x], r, hp =>
      obtain ⟨v, rfl, r1⟩ := r.one_of
      simp only [bltD] at hp
      split at hp
      · rename_i es q
        obtain ⟨a, vs, rfl, h1, h2⟩ := seq_sq hs q r1
        refine ⟨a, vs, rfl, ?_⟩
        rcases h1 with h1 | h1
        · exact .inl ⟨hK ▸ h1, fun p np => hp.tup hs np h2⟩
        · exact .inr ⟨hK ▸ h1.sq, hp.val hs (by simp only [Rep]; exact ⟨a, vs, rfl, h1, h2⟩)⟩
      · exact hp.elim
    | [], r, hp => exact (show False from hp).elim
    | _ :: _ :: _, r, hp => exact (show False from by unfold bltD at hp; split at hp <;> simp_all [Post]).elim

/-! ### methods -/
def mfName : Mf → Str
  | .append => "append" | .join => "join"
def mfTy : Mf → String
  | .append => "list" | .join => "str"
def mfId : Mf → String
  | .append => "list.append" | .join => "str.join"
def rMeth (U : Su) (m : Mf) : V → List V → Hp → VK → Prop := fun x xs H Q => ∃ ι s d ds, RelS U ι s H ∧ Rep U.K ι H d x ∧ Reps U.K ι H ds xs ∧ PostP U ι H (methD m d ds s) Q
theorem MtR.imp {id : String} {r r' : V → List V → Hp → VK → Prop} (h : MtR X id r) (i : ∀ x xs H Q, r' x xs H Q → r x xs H Q) : MtR X id r' :=
  fun pins s σ H x xs v us Q I rx rs q => h pins s σ H x xs v us Q I rx rs (i _ _ _ _ q)
theorem strs_V {K : PySem.W.Frag} {ι : List Addr} {H : Hp} : ∀ {ds : List D} {vs : List V} {ys : List Str}, Reps K ι H ds vs → strsOf ds = some ys → vs = ys.map V.str
  | [], vs, ys, r, e => by
    simp only [Reps] at r; simp only [strsOf, Option.some.injEq] at e
    subst r; subst e; rfl
  | d :: ds, vs, ys, r, e => by
    simp only [Reps] at r
    obtain ⟨v, ws, rfl, h1, h2⟩ := r
    cases d <;> simp only [strsOf] at e <;> first
      | (simp only [Option.map_eq_some_iff] at e
         obtain ⟨zs, e, rfl⟩ := e
         rw [strs_V h2 e, h1.str_of]
         rfl)
      | exact nomatch e
theorem meth_D (hK : U.K = X.K) : ∀ m : Mf, MtR X (mfId m) (rMeth U m)
  | .append => by
    refine MtR.imp (mt_append (X := X)) fun x xs H Q ⟨ι, s, d, ds, hs, r1, r2, hp⟩ => ?_
    cases d <;> (first | (cases ds; case nil => exact (show False from hp).elim) | skip) <;> rename_i y ys <;> (cases ys) <;> first
      | exact (show False from hp).elim
      | (rename_i n
         simp only [methD] at hp
         split at hp
         · rename_i es q
           split at hp
           · simp only [Rep] at r1
             obtain ⟨a, rfl, i⟩ := r1
             obtain ⟨v, rfl, h3⟩ := r2.one_of
             obtain ⟨vs, h1, h2⟩ := hs.at q i
             refine ⟨a, vs, v, rfl, rfl, h1, by rw [h2.length]; assumption, ?_⟩
             have kp : Kept H (upd H a (.lst (vs ++ [v]))) := fun b ws z st => by
               rw [upd_ne (fun w => by rw [w, h1] at z; cases z; exact st)]; exact z
             have z := hs.put (o' := .lst (es ++ [y])) (u := .lst (vs ++ [v])) q i ⟨_, upd_same, (h2.append (Reps.cons h3 Reps.nil)).mono (Ext.refl _) kp⟩
             exact hp ι _ .non z.2 z.1 rep_non
           · exact hp.elim
         · exact hp.elim)
  | .join => by
    refine MtR.imp (mt_join (X := X)) fun x xs H Q ⟨ι, s, d, ds, hs, r1, r2, hp⟩ => ?_
    cases d <;> (first | (cases ds; case nil => exact (show False from hp).elim) | skip) <;> rename_i y ys <;> (cases ys) <;> first
      | exact (show False from hp).elim
      | (rename_i z
         simp only [methD] at hp
         split at hp
         · rename_i ys q
           simp only [Option.bind_eq_some_iff] at q
           obtain ⟨es, q1, q2⟩ := q
           split at hp
           · obtain ⟨v, rfl, h3⟩ := r2.one_of
             obtain ⟨a, vs, rfl, h1, h2⟩ := seq_sq hs q1 h3
             have e := strs_V h2 q2
             subst e
             refine ⟨z, a, ys, r1.str_of, rfl, ?_, by assumption, hp.val hs (rep_str _)⟩
             rcases h1 with h1 | h1
             · exact .inl (hK ▸ h1)
             · exact .inr (hK ▸ h1.sq)
           · exact hp.elim
         · exact hp.elim)
theorem methOk_ty (hK : U.K = X.K) {ι : List Addr} {s : S} {H : Hp} (hs : RelS U ι s H) : ∀ (m : Mf) (d : D) (x : V), Rep U.K ι H d x → methOk m d s = true → tyV X.K (mfTy m) x H
  | .append, d, x, r, h => by
    cases d <;> simp only [methOk] at h <;> first
      | (split at h
         · rename_i ds q
           simp only [Rep] at r
           obtain ⟨a, rfl, i⟩ := r
           obtain ⟨vs, h1, h2⟩ := hs.at q i
           exact .inl ⟨rfl, vs, SqL.of h1⟩
         · cases h)
      | cases h
  | .join, d, x, r, h => by
    cases d <;> simp only [methOk] at h <;> first
      | (cases r.str_of; rfl)
      | cases h

/-! ### isinstance -/
def tyName : Ty → String
  | .int => "int" | .bool => "bool" | .str => "str" | .list => "list" | .tuple => "tuple" | .dict => "dict"
theorem isi_D {K : PySem.W.Frag} (hK : U.K = K) {ι : List Addr} {s : S} {H : Hp} (hs : RelS U ι s H) {t : Ty} {d : D} {x : V} {b : Bool} {s' : S} (r : Rep U.K ι H d x) (h : isiD t d s = .ok b s') :
    s' = s ∧ ∃ tv, TyX K H x tv ∧ PySem.W.kitOne K tv (.type (tyName t)) = some b := by
  cases d with
  | non => cases r.non_of; cases t <;> simp only [isiD, R.ok.injEq] at h <;> obtain ⟨rfl, rfl⟩ := h <;> exact ⟨rfl, _, .base .non, kit_ty (by decide +kernel)⟩
  | bl _ => cases r.bl_of; cases t <;> simp only [isiD, R.ok.injEq] at h <;> obtain ⟨rfl, rfl⟩ := h <;> exact ⟨rfl, _, .base (.bl _), kit_ty (by decide +kernel)⟩
  | int _ => cases r.int_of; cases t <;> simp only [isiD, R.ok.injEq] at h <;> obtain ⟨rfl, rfl⟩ := h <;> exact ⟨rfl, _, .base (.int _), kit_ty (by decide +kernel)⟩
  | str _ => cases r.str_of; cases t <;> simp only [isiD, R.ok.injEq] at h <;> obtain ⟨rfl, rfl⟩ := h <;> exact ⟨rfl, _, .base (.str _), kit_ty (by decide +kernel)⟩
  | tup ds =>
    simp only [Rep] at r
    obtain ⟨a, vs, rfl, h1, h2⟩ := r
    have ty : TyX K H (.ref a) (.type "tuple") := by
      rcases h1 with h1 | ⟨o, its, n, h1, h3, _⟩
      · exact .base (.tup h1)
      · exact .kTuple (hK ▸ h1) h3
    cases t <;> simp only [isiD, R.ok.injEq] at h <;> obtain ⟨rfl, rfl⟩ := h <;> exact ⟨rfl, _, ty, kit_ty (by decide +kernel)⟩
  | flst ds =>
    simp only [Rep] at r
    obtain ⟨a, vs, rfl, h1, h2⟩ := r
    have ty : TyX K H (.ref a) (.type "list") := by
      rcases h1 with ⟨o, h1⟩ | ⟨o, its, n, h1, h3, _⟩
      · exact .base (.frz h1)
      · exact .kList (hK ▸ h1) h3
    cases t <;> simp only [isiD, R.ok.injEq] at h <;> obtain ⟨rfl, rfl⟩ := h <;> exact ⟨rfl, _, ty, kit_ty (by decide +kernel)⟩
  | ref n =>
    simp only [Rep] at r
    obtain ⟨a, rfl, i⟩ := r
    have ty : ∀ ds, lstAt s n = some ds → TyX K H (.ref a) (.type "list") := by
      intro ds e
      obtain ⟨vs, h1, h2⟩ := lst_sq hs e i
      rcases h1 with (h1 | ⟨o, h1⟩) | ⟨o, its, n, h1, h3, _⟩
      · exact .base (.lst h1)
      · exact .base (.frz h1)
      · exact .kList (hK ▸ h1) h3
    have key : ∃ ds, lstAt s n = some ds ∧ s' = s ∧ b = t.isList := by
      cases t <;> (simp only [isiD] at h; split at h <;> first
        | (obtain ⟨rfl, rfl⟩ := (R.ok.injEq _ _ _ _).mp h
           exact ⟨_, by assumption, rfl, rfl⟩)
        | (cases h))
    obtain ⟨ds, q, rfl, rfl⟩ := key
    cases t <;> exact ⟨rfl, _, ty _ q, kit_ty (by decide +kernel)⟩

/-! ### stores -/
theorem set_D : PSet X (fun o i v H Q => ∃ ι s d1 d2 d3 s', RelS U ι s H ∧ Rep U.K ι H d1 o ∧ Rep U.K ι H d2 i ∧ Rep U.K ι H d3 v ∧ setD d1 d2 d3 s = some s' ∧ ∀ H', Go ι H ι H' → RelS U ι s' H' → Q H') := by
  intro pins s σ H o i v ov iv u Q I ro ri rv ⟨ι, st, d1, d2, d3, s', hs, r1, r2, r3, e, q⟩
  refine set_list pins s σ H o i v ov iv u Q I ro ri rv ?_
  unfold setD at e
  split at e
  · rename_i n k
    split at e
    · rename_i ds q1
      split at e
      · rename_i j q2
        cases e
        simp only [Rep] at r1
        obtain ⟨a, rfl, ia⟩ := r1
        obtain ⟨vs, h1, h2⟩ := hs.at q1 ia
        refine ⟨a, vs, k, j, rfl, r2.int_of, h1, by rw [h2.length]; exact q2, ?_⟩
        have kp : Kept H (upd H a (.lst (vs.set j v))) := fun b ws z st => by
          rw [upd_ne (fun w => by rw [w, h1] at z; cases z; exact st)]; exact z
        have z := hs.put (o' := .lst (ds.set j d3)) (u := .lst (vs.set j v)) q1 ia ⟨_, upd_same, (h2.set r3).mono (Ext.refl _) kp⟩
        exact q _ z.2 z.1
      · cases e
    · cases e
  · cases e
end

/-! ### sources -/
def ItOk (U : Su) (ι : List Addr) (H : Hp) (src : Src) (J : It) : Prop := ∀ ι' s H', Go ι H ι' H' → RelS U ι' s H' → src.ok s →
  ∀ i : Nat, (∀ d, src.items[i]? = some d → J.go i H' ∧ ∀ x H2, J.yld i H' x H2 → H2 = H' ∧ Rep U.K ι' H' d x) ∧ (src.items.length ≤ i → J.stop i H')
section
variable {X : Cx} {U : Su} {ι : List Addr} {H : Hp} {s : S}
theorem it_list (hK : U.K = X.K) {n : Nat} {a : Addr} {ds : List D} (i : ι[n]? = some a) : ItOk U ι H (.lst n ds) (Itl X.K a) := by
  intro ι' s' H' go hs ok k
  obtain ⟨vs, h1, h2⟩ := lst_sq hs (show lstAt s' n = some ds from ok) (go.ex.at i)
  rw [hK] at h1
  refine ⟨fun d e => ?_, fun z => ⟨vs, h1, by rw [h2.length]; exact z⟩⟩
  obtain ⟨v, g1, g2⟩ := h2.get e
  exact ⟨⟨vs, v, h1, g1⟩, fun x H2 y => ⟨y.1, by
    have := y.2 vs h1
    rw [g1] at this
    cases this
    exact g2⟩⟩
theorem it_tup (hK : U.K = X.K) {a : Addr} {ds : List D} {vs : List V} (h1 : TupAt U.K H a vs) (h2 : Reps U.K ι H ds vs) : ItOk U ι H (.vals ds) (Itt X.K a) := by
  intro ι' s' H' go hs ok k
  have g := h2.mono go.ex go.tups
  have g1 := (h1.kept go.tups).sq
  rw [hK] at g1
  refine ⟨fun d e => ?_, fun z => ⟨vs, g1, by rw [h2.length]; exact z⟩⟩
  obtain ⟨v, g3, g2⟩ := g.get e
  exact ⟨⟨vs, v, g1, g3⟩, fun x H2 y => ⟨y.1, by
    have := y.2 vs g1
    rw [g3] at this
    cases this
    exact g2⟩⟩
theorem it_flst (hK : U.K = X.K) {a : Addr} {ds : List D} {vs : List V} (h1 : FroAt U.K H a vs) (h2 : Reps U.K ι H ds vs) : ItOk U ι H (.vals ds) (Itl X.K a) := by
  intro ι' s' H' go hs ok k
  have g := h2.mono go.ex go.tups
  have g1 := (h1.kept go.tups).sq
  rw [hK] at g1
  refine ⟨fun d e => ?_, fun z => ⟨vs, g1, by rw [h2.length]; exact z⟩⟩
  obtain ⟨v, g3, g2⟩ := g.get e
  exact ⟨⟨vs, v, g1, g3⟩, fun x H2 y => ⟨y.1, by
    have := y.2 vs g1
    rw [g3] at this
    cases this
    exact g2⟩⟩
theorem it_str {x : Str} : ItOk U ι H (.vals (chars x)) (Its x) := by
  intro ι' s' H' go hs ok k
  refine ⟨fun d e => ?_, fun z => by
    have : (chars x).length ≤ k := z
    simp only [chars, List.length_map, Array.length_toList] at this
    exact this⟩
  replace e : (chars x)[k]? = some d := e
  simp only [chars, List.getElem?_map, Option.map_eq_some_iff, Array.getElem?_toList] at e
  obtain ⟨c, e, rfl⟩ := e
  refine ⟨(Array.getElem?_eq_some_iff.mp e).1, fun v H2 y => ⟨y.1, ?_⟩⟩
  obtain ⟨c', q1, rfl⟩ := y.2
  rw [e] at q1
  cases q1
  exact rep_str _
theorem it_rng {lo : Int} {n : Nat} : ItOk U ι H (.vals (rngD lo n)) (Itr lo n) := by
  intro ι' s' H' go hs ok k
  refine ⟨fun d e => ?_, fun z => by
    have : (rngD lo n).length ≤ k := z
    simp only [rngD, List.length_map, List.length_range] at this
    exact this⟩
  replace e : (rngD lo n)[k]? = some d := e
  simp only [rngD, List.getElem?_map, Option.map_eq_some_iff] at e
  obtain ⟨c, e, rfl⟩ := e
  obtain ⟨e1, e2⟩ := List.getElem?_eq_some_iff.mp e
  simp at e1 e2
  subst e2
  exact ⟨e1, fun v H2 y => ⟨y.1, by rw [y.2]; exact rep_int _⟩⟩

/-! ### targets -/
def setV : List Nat → List V → L2.St → L2.St
  | i :: is, v :: vs, σ => setV is vs (σ.set i (some v))
  | _, _, σ => σ
def gT (K : PySem.W.Frag) : Tv → TG
  | .var i => gName i
  | .tup is => fun v σ H Q => ∃ a vs, v = .ref a ∧ SqT K H a vs ∧ vs.length = is.length ∧ Q (setV is vs σ) H
def tvIs : Tv → List Nat
  | .var i => [i]
  | .tup is => is
theorem setAll_F {ι : List Addr} {H : Hp} : ∀ {is : List Nat} {ds : List D} {vs : List V} {τ : Fr} {σ : L2.St}, RelF U ι H τ σ → Reps U.K ι H ds vs → RelF U ι H (setAll is ds τ) (setV is vs σ)
  | [], ds, vs, τ, σ, h, r => by simpa [setAll, setV] using h
  | i :: is, [], vs, τ, σ, h, r => by simp only [Reps] at r; subst r; simpa [setAll, setV] using h
  | i :: is, d :: ds, vs, τ, σ, h, r => by
    simp only [Reps] at r
    obtain ⟨v, ws, rfl, h1, h2⟩ := r
    show RelF U ι H (setAll is ds (τ.set i (some d))) (setV is ws (σ.set i (some v)))
    exact setAll_F (h.set h1) h2
theorem wipe_set {vs : List Nat} {i : Nat} {σ : L2.St} {x : Option V} (h : i ∈ vs) : wipe (σ.set i x) vs = wipe σ vs := by
  induction vs with
  | nil => cases h
  | cons v vs ih =>
    unfold wipe
    by_cases hi : i = v
    · subst hi
      by_cases hm : i ∈ vs
      · rw [ih hm]
      · have : wipe (σ.set i x) vs = (wipe σ vs).set i x := by
          clear ih h
          induction vs with
          | nil => rfl
          | cons w ws ih2 =>
            have h1 : i ≠ w := fun z => hm (by simp [z])
            have h2 : i ∉ ws := fun z => hm (by simp [z])
            unfold wipe
            rw [ih2 h2, List.set_comm _ _ h1]
        rw [this, List.set_set]
    · have hm : i ∈ vs := by
        rcases List.mem_cons.mp h with z | z
        · exact absurd z hi
        · exact z
      rw [ih hm]
theorem wipe_wipe {σ : L2.St} : ∀ vs : List Nat, wipe (wipe σ vs) vs = wipe σ vs
  | [] => rfl
  | v :: vs => by
    show wipe ((wipe σ vs).set v none) (v :: vs) = (wipe σ vs).set v none
    rw [wipe_set (List.mem_cons_self)]
    show (wipe (wipe σ vs) vs).set v none = _
    rw [wipe_wipe vs]
theorem wipe_setV {vs : List Nat} : ∀ {is : List Nat} {xs : List V} {σ : L2.St}, (∀ i ∈ is, i ∈ vs) → wipe (setV is xs σ) vs = wipe σ vs
  | [], xs, σ, h => by simp [setV]
  | i :: is, [], σ, h => by simp [setV]
  | i :: is, x :: xs, σ, h => by
    unfold setV
    rw [wipe_setV fun j hj => h j (by simp [hj])]
    exact wipe_set (h i (by simp))
/-- the value handed to a target -/
theorem gT_ok {ι : List Addr} {H : Hp} (hK : U.K = X.K) {t : Tv} {d : D} {v : V} {τ τ' : Fr} {σ : L2.St} {Q : L2.St → Hp → Prop} (hf : RelF U ι H τ σ) (r : Rep U.K ι H d v) (e : asgV t d τ = some τ')
    (h : ∀ σ', RelF U ι H τ' σ' → (∀ vs, (∀ i ∈ tvIs t, i ∈ vs) → wipe σ' vs = wipe σ vs) → Q σ' H) : gT X.K t v σ H Q := by
  cases t with
  | var i =>
    cases e
    exact h _ (hf.set r) fun vs hv => wipe_set (hv i (by simp [tvIs]))
  | tup is =>
    cases d <;> simp only [asgV] at e <;> first
      | (split at e
         · rename_i hl
           cases e
           simp only [Rep] at r
           obtain ⟨a, vs, rfl, h1, h2⟩ := r
           exact ⟨a, vs, rfl, hK ▸ h1.sq, by rw [h2.length, hl], h _ (setAll_F hf h2) fun ws hw => wipe_setV hw⟩
         · cases e)
      | cases e
theorem wipeF_F {ι : List Addr} {H : Hp} {τ : Fr} {σ : L2.St} (h : RelF U ι H τ σ) : ∀ vs, RelF U ι H (wipeF τ vs) (wipe σ vs)
  | [] => h
  | v :: vs => by
    have g := wipeF_F h vs
    unfold wipeF wipe
    refine ⟨by simp [g.1], fun i d e => ?_⟩
    by_cases hi : v = i
    · subst hi
      have hl : v < (wipeF τ vs).length := by have := (List.getElem?_eq_some_iff.mp e).1; simpa using this
      rw [List.getElem?_set_self hl] at e
      cases e
    · rw [List.getElem?_set_ne hi] at e ⊢
      exact g.2 i d e
end
end G

set_option Elab.async false
set_option linter.all false
set_option maxRecDepth 100000
set_option autoImplicit false
set_option maxHeartbeats 1000000
/-! G5: which expression of the text is which plain expression; expressions do what the plain ones do. -/
namespace G
open PySem PySem.Spec PyProof.Rows L2

/-! ### the readings by plain runs -/
def rdE (U : Su) (W : WX) (m : Fr → S → R D) : TE := fun σ H Q => ∃ ι s τ, RelS U ι s H ∧ RelF U ι H τ σ ∧ Post U (RD U) W σ ι H (m τ s) Q
def rdT (U : Su) (W : WX) (m : Fr → S → R Bool) : TT := fun σ H Q => ∃ ι s τ, RelS U ι s H ∧ RelF U ι H τ σ ∧ Post U RB W σ ι H (m τ s) Q
def rdA (U : Su) (W : WX) (m : Fr → S → R (List D)) : TA := fun σ H Q => ∃ ι s τ, RelS U ι s H ∧ RelF U ι H τ σ ∧ Post U (RDs U) W σ ι H (m τ s) Q
section
variable {U : Su} {W : WX} {σ : L2.St} {ι ι' : List Addr} {H H' : Hp}
/-- a run, then another thing that holds behind it -/
theorem Post.bindF {α β γ δ : Type} {rel : List Addr → Hp → α → β → Prop} {rel' : List Addr → Hp → γ → δ → Prop} {r : R α} {f : α → S → R γ} {τ : Fr} {Q : δ → Hp → Prop} (hf : RelF U ι H τ σ) (h : Post U rel' W σ ι H (r.bind f) Q) :
    Post U rel W σ ι H r (fun v H1 => ∃ ι1 s1 d, RelS U ι1 s1 H1 ∧ RelF U ι1 H1 τ σ ∧ rel ι1 H1 d v ∧ Go ι H ι1 H1 ∧ Post U rel' W σ ι1 H1 (f d s1) Q) :=
  (Post.bind h).imp fun v H1 ⟨ι1, s1, d, h1, h2, h3, h4⟩ => ⟨ι1, s1, d, h1, hf.mono h3.ex h3.tups, h2, h3, h4⟩
theorem Post.p {r : R D} {Q : V → Hp → Prop} (h : Post U (RD U) W σ ι H r Q) : PostP U ι H r Q := by
  cases r with
  | ok d s => exact h
  | exc c fs s => exact fun _ _ _ _ _ _ => True.intro
  | bad => exact h
theorem Post.pb {r : R Bool} {Q : Bool → Hp → Prop} (h : Post U RB W σ ι H r Q) : PostB U ι H r Q := by
  cases r with
  | ok d s => exact h
  | exc c fs s => exact fun _ _ _ _ _ _ => True.intro
  | bad => exact h
/-- a Bool run as a value -/
theorem Post.bv {W' : WX} {σ' : L2.St} {r : R Bool} {Q : V → Hp → Prop} (h : Post U (RD U) W σ ι H (r.bind fun b s => .ok (.bl b) s) Q) : Post U RB W σ ι H r (fun b H1 => Q (.bl b) H1) := by
  cases r with
  | ok d s => exact fun ι2 H2 b g q1 q2 => by rw [show b = d from q2]; exact h ι2 H2 (.bl d) g q1 (rep_bl _)
  | exc c fs s => exact h
  | bad => exact h
theorem Post.vb {r : R Bool} {Q : Bool → Hp → Prop} (h : Post U RB W σ ι H r Q) : PostP U ι H (r.bind fun b s => .ok (.bl b) s) (fun x H1 => ∃ k, x = .bl k ∧ Q k H1) := by
  cases r with
  | ok d s => exact fun ι2 H2 x g q1 q2 => ⟨d, q2.bl_of, h ι2 H2 d g q1 rfl⟩
  | exc c fs s => exact fun _ _ _ _ _ _ => True.intro
  | bad => exact h
theorem Post.calm {α β : Type} {rel : List Addr → Hp → α → β → Prop} {W' : WX} {σ' : L2.St} {r : R α} {Q : β → Hp → Prop} (h : Post U rel W σ ι H r.calm Q) : Post U rel W' σ' ι H r Q := by
  cases r with
  | ok d s => exact h
  | exc c fs s => exact False.elim h
  | bad => exact h
end
theorem _root_.L2.PE.imp {X : Cx} {e : Expr} {t t' : TE} (h : PE X e t) (i : ∀ σ H Q, t' σ H Q → t σ H Q) : PE X e t' := ⟨fun pins s σ H Q I q => h.run pins s σ H Q I (i _ _ _ q)⟩
theorem _root_.L2.PT.imp {X : Cx} {e : Expr} {t t' : TT} (h : PT X e t) (i : ∀ σ H Q, t' σ H Q → t σ H Q) : PT X e t' := ⟨fun pins s σ H Q I q => h.run pins s σ H Q I (i _ _ _ q)⟩
theorem _root_.L2.PW.imp {X : Cx} {e : Expr} {t t' : TT} (h : PW X e t) (i : ∀ σ H Q, t' σ H Q → t σ H Q) : PW X e t' := ⟨fun wh pins s σ H Q I q => h.run wh pins s σ H Q I (i _ _ _ q)⟩
theorem _root_.L2.PA.imp {X : Cx} {e : List Expr} {t t' : TA} (h : PA X e t) (i : ∀ σ H Q, t' σ H Q → t σ H Q) : PA X e t' := ⟨fun p pins s σ H Q I q => h.run p pins s σ H Q I (i _ _ _ q)⟩
theorem _root_.L2.PI.imp {X : Cx} {tg e : Expr} {t t' : TI} (h : PI X tg e t) (i : ∀ σ H Q, t' σ H Q → t σ H Q) : PI X tg e t' := ⟨fun pins s σ H Q I q => h.run pins s σ H Q I (i _ _ _ q)⟩
theorem _root_.L2.PI.or {X : Cx} {tg e : Expr} {t t' : TI} (h : PI X tg e t) (h' : PI X tg e t') : PI X tg e (fun σ H R => t σ H R ∨ t' σ H R) :=
  ⟨fun pins s σ H Q I q => q.elim (h.run pins s σ H Q I) (h'.run pins s σ H Q I)⟩

/-! ### the check -/
structure Ck where
  N : List Str
  fn : List Str
  gn : List Str
def visB (sc : Scope) (x : Str) : Bool := match sc.names.lookup x with
  | some .local => true | some .cell => true | some .free => true | _ => false
def locB (sc : Scope) (x : Str) : Bool := match sc.names.lookup x with
  | some .local => true | some .cell => true | _ => false
def glB (sc : Scope) (x : Str) : Bool := match sc.names.lookup x with
  | some .globalImplicit => true | _ => false
def nmB (x : Str) : Bool := !(x == ("__debug__" : Str)) && !(x == ("__classdict__" : Str)) && !decide (x = "__name__")
theorem visB_ok {sc : Scope} {x : Str} (h : visB sc x = true) : Vis sc x := by
  unfold visB at h
  split at h <;> first
    | exact .inl (by assumption)
    | exact .inr (.inl (by assumption))
    | exact .inr (.inr (by assumption))
    | cases h
theorem locB_ok {sc : Scope} {x : Str} (h : locB sc x = true) : Loc sc x := by
  unfold locB at h
  split at h <;> first
    | exact .inl (by assumption)
    | exact .inr (by assumption)
    | cases h
theorem glB_ok {X : Cx} {x : Str} (h : glB X.env.scope x = true) : Gl X x := by
  unfold glB at h
  split at h
  · assumption
  · cases h
theorem nmB_ok {x : Str} (h : nmB x = true) : (x == ("__debug__" : Str)) = false ∧ (x == ("__classdict__" : Str)) = false ∧ x ≠ "__name__" := by
  unfold nmB at h
  simp only [Bool.and_eq_true, Bool.not_eq_true', decide_eq_false_iff_not] at h
  exact ⟨h.1.1, h.1.2, h.2⟩
def notStar : Expr → Bool
  | .Starred _ _ => false
  | _ => true
theorem star_cons {e : Expr} {es : List Expr} {env : Env} (h : notStar e = true) : starEach (e :: es) env = (false, eval e env) :: starEach es env := by
  cases e <;> first | rfl | cases h
def notSlice : Expr → Bool
  | .Slice _ _ _ _ => false
  | _ => true
theorem plainIx {e : Expr} (h : notSlice e = true) : PlainIx e := by
  intro o i
  cases e <;> first | rfl | cases h
def baseB : Expr → Bool
  | .Call (.Name _ _) [] [] _ => false
  | _ => true
theorem base_ok {e : Expr} {n : Str} {env : Env} {t : Sem Value} (h : baseB e = true) : attributeBase e n env t = t := by
  unfold attributeBase
  split
  · cases h
  · rfl
def notSet : Expr → Bool
  | .Set _ _ _ => false
  | _ => true
theorem fold_ok {e : Expr} {env : Env} (h : notSet e = true) (x : Value) : foldedSetIterable e env x = pure x := by
  cases e <;> first | rfl | cases h
/-- an expression that is tested by its value -/
def byVal : Expr → Bool
  | .UnaryOp .Not _ _ => false
  | .BoolOp _ _ _ => false
  | .IfExp _ _ _ _ => false
  | .Compare _ _ _ _ => false
  | _ => true
theorem byVal_ok {e : Expr} {env : Env} (h : byVal e = true) (whole : Sem Value) : isTrue e env whole = (do let v ← whole; standAt e.pos; holding [v] (truthy v)) := by
  cases e <;> first
    | rfl
    | cases h
    | (rename_i op _ _; cases op <;> first | rfl | cases h)
def bopOf : Bop → Operator
  | .add => .Add | .sub => .Sub | .mul => .Mult | .fdiv => .FloorDiv | .mod => .Mod | .pow => .Pow
def tvOk (N : List Str) (sc : Scope) : Tv → Expr → Bool
  | .var i, x => (match x with
    | .Name n _ => decide (N[i]? = some n) && locB sc n
    | _ => false)
  | .tup is, x => (match x with
    | .Tuple xs _ _ => decide (is.length = xs.length) && (is.zip xs).all (fun p => match p.2 with
      | .Name n _ => decide (N[p.1]? = some n) && locB sc n
      | _ => false)
    | _ => false)
def cstOk : Cst → Const → Bool
  | .non, .none => true
  | .bl b, .bool b' => b == b'
  | .int i, .int j => decide (i = j)
  | .str s, .str s' => decide (s = s')
  | _, _ => false
mutual
def okE (C : Ck) : Ex → Scope → Expr → Bool
  | .nop, _, _ => false
  | .var i, sc, x => (match x with
    | .Name n _ => decide (C.N[i]? = some n) && visB sc n && nmB n
    | _ => false)
  | .cst c, _, x => (match x with
    | .Constant k _ _ => cstOk c k
    | _ => false)
  | .glob i, sc, x => (match x with
    | .Name n _ => decide (C.gn[i]? = some n) && glB sc n && nmB n
    | _ => false)
  | .bin o a b, sc, x => (match x with
    | .BinOp l op r _ => decide (op = bopOf o) && okE C a sc l && okE C b sc r
    | _ => false)
  | .neg a, sc, x => (match x with
    | .UnaryOp .USub l _ => okE C a sc l
    | _ => false)
  | .not a, sc, x => (match x with
    | .UnaryOp .Not l _ => okE C a sc l
    | _ => false)
  | .and a b, sc, x => (match x with
    | .BoolOp .And (p :: q :: r) pos => okE C a sc p && (match r with
      | [] => okE C b sc q
      | _ :: _ => okE C b sc (.BoolOp .And (q :: r) pos))
    | _ => false)
  | .or a b, sc, x => (match x with
    | .BoolOp .Or (p :: q :: r) pos => okE C a sc p && (match r with
      | [] => okE C b sc q
      | _ :: _ => okE C b sc (.BoolOp .Or (q :: r) pos))
    | _ => false)
  | .cmp o a b, sc, x => (match x with
    | .Compare l [op] [r] _ => decide (op = copOf o) && okE C a sc l && okE C b sc r && !behindInMarks op r
    | _ => false)
  | .cmp2 o o' a b c, sc, x => (match x with
    | .Compare l [op, op'] [m, r] _ => decide (op = copOf o) && decide (op' = copOf o') && okE C a sc l && okE C b sc m && okE C c sc r && !lastMarks [op, op'] [m, r]
    | _ => false)
  | .ife c a b, sc, x => (match x with
    | .IfExp t p q _ => okE C c sc t && okE C a sc p && okE C b sc q
    | _ => false)
  | .tup es, sc, x => (match x with
    | .Tuple xs _ _ => okEs C es sc xs && decide (xs.length ≤ 1000)
    | _ => false)
  | .lst es, sc, x => (match x with
    | .List xs _ => okEs C es sc xs && decide (xs.length ≤ 1000)
    | _ => false)
  | .ix a i, sc, x => (match x with
    | .Subscript v sl _ => okE C a sc v && okE C i sc sl && notSlice sl
    | _ => false)
  | .sl a lo hi, sc, x => (match x with
    | .Subscript v (.Slice l h none _) _ => okE C a sc v && (match l with | none => lo.isNop | some l => !lo.isNop && okE C lo sc l) && (match h with | none => hi.isNop | some h => !hi.isNop && okE C hi sc h)
    | _ => false)
  | .call f es, sc, x => (match x with
    | .Call (.Name n _) (y :: ys) [] _ => decide (C.fn[f]? = some n) && glB sc n && nmB n && okEs C es sc (y :: ys)
    | _ => false)
  | .blt b es, sc, x => (match x with
    | .Call (.Name n _) (y :: ys) [] _ => decide (n = bfName b) && glB sc n && nmB n && okEs C es sc (y :: ys)
    | _ => false)
  | .meth m o es, sc, x => (match x with
    | .Call (.Attribute v at_ apos) (y :: ys) [] pos => decide (at_ = mfName m) && okE C o sc v && okEs C es sc (y :: ys) && baseB v && (apos.endLine == pos.line) && decide (ys.length < 20)
    | _ => false)
  | .isi a t, sc, x => (match x with
    | .Call (.Name n _) [y, .Name tn _] [] _ => decide (n = "isinstance") && glB sc n && nmB n && decide (tn = Str.ofString (tyName t)) && glB sc tn && nmB tn && okE C a sc y && notStar y
    | _ => false)
  | .lc elt t k its cond own, sc, x => (match x with
    | .ListComp e [⟨tg, it, ifs, asy⟩] scope _ => decide (asy = 0) && blkC C.N sc scope own && tvOk C.N scope t tg && (tvIs t).all (fun i => (own.map (·.2)).contains i) && notSet it && okE C elt (relS scope sc) e
      && (match ifs with | [] => cond.isNop | [i] => !cond.isNop && okE C cond (relS scope sc) i | _ => false)
      && (match k with
        | .seq => (match its with | .cons i .nil => okE C i sc it | _ => false)
        | .rng1 => (match it with
          | .Call (.Name n _) [y] [] _ => decide (n = "range") && glB sc n && okEs C its sc [y]
          | _ => false)
        | .rng2 => (match it with
          | .Call (.Name n _) [y, z] [] _ => decide (n = "range") && glB sc n && okEs C its sc [y, z]
          | _ => false))
    | _ => false)
def okEs (C : Ck) : Exs → Scope → List Expr → Bool
  | .nil, _, xs => xs.isEmpty
  | .cons e es, sc, xs => (match xs with
    | x :: xs => notStar x && okE C e sc x && okEs C es sc xs
    | [] => false)
end
def okIt (C : Ck) (k : Ik) (its : Exs) (sc : Scope) (it : Expr) : Bool := match k with
  | .seq => (match its with | .cons i .nil => okE C i sc it | _ => false)
  | .rng1 => (match it with
    | .Call (.Name n _) [y] [] _ => decide (n = "range") && glB sc n && okEs C its sc [y]
    | _ => false)
  | .rng2 => (match it with
    | .Call (.Name n _) [y, z] [] _ => decide (n = "range") && glB sc n && okEs C its sc [y, z]
    | _ => false)
end G

set_option Elab.async false
set_option linter.all false
set_option maxRecDepth 100000
set_option autoImplicit false
set_option maxHeartbeats 2000000
/-! G6: expressions do what the plain ones do. -/
namespace G
open PySem PySem.Spec PyProof.Rows L2

def blts : List Str := ["isinstance", "int", "bool", "str", "list", "tuple", "dict", "len", "abs", "range"]
/-- what a def keeps: the plain function's run -/
def spOf (U : Su) (m : List D → S → R D) : Sp := fun vs H Q E => ∃ ι s ds, RelS U ι s H ∧ Reps U.K ι H ds vs ∧ Post U (RD U) (fun c a _ H => E c a H) [] ι H (m ds s) Q
structure Gd (C : Ck) (U : Su) (cl : CL) (X : Cx) (W : WX) : Prop where
  hK : U.K = X.K
  hN : X.N = C.N
  nd : X.N.Nodup
  calm : X.calm = true
  hu : X.A.units + 65 < cLine
  tk : Takes X W
  po : PassesOwn (model X.prog X.w) X.A X.env X.xe
  blt : ∀ x ∈ blts, X.mg x = none
  glb : ∀ (i : Nat) (n : Str) (d : D), C.gn[i]? = some n → cl.glob i = some d → ∃ u v, X.mg n = some u ∧ RelV v u ∧ ∀ ι H, Rep U.K ι H d v
  fns : ∀ (i : Nat) (n : Str), C.fn[i]? = some n → ∃ (f : Addr) (fd : FuncData) (ps : List Str) (k : Nat), FnOk X.prog X.w X.K X.mg X.base (L2.CX X.prog X.w) k f fd ps (spOf U (cl.call i)) ∧ Room k X.A ∧ X.mg n = some (.ref f) ∧
    PySem.W.keepIn X.K (.ref f) = true ∧ Binds X.K fd ps []

section
variable {C : Ck} {U : Su} {cl : CL} {X : Cx} {W : WX} {e a b c : Expr} {pos : Pos}
/-- within a comprehension's block -/
theorem Gd.blk (g : Gd C U cl X W) (s : Shared) (H : Hp) (scope : Scope) (cenv : Env) (fp : List Addr) : Gd C U cl (X.blk s H scope cenv fp) (fun _ _ _ _ => False) where
  hK := g.hK
  hN := g.hN
  nd := g.nd
  calm := g.calm
  hu := g.hu
  tk := fun u s' x => by
    obtain ⟨_, _, _, _, _, _, _, _, _, _, _, _, _, _, _, _, z⟩ := x
    exact z
  po := PassesOwn.never
  blt := g.blt
  glb := g.glb
  fns := g.fns
theorem Gd.rd2 {β : Type} {ma mb : Fr → S → R D} {f : D → D → S → R β} {γ : Type} {rel : List Addr → Hp → β → γ → Prop} {σ : L2.St} {H : Hp} {Q : γ → Hp → Prop} {ι : List Addr} {s : S} {τ : Fr} (hs : RelS U ι s H) (hf : RelF U ι H τ σ)
    (h : Post U rel W σ ι H ((ma τ s).bind fun x s => (mb τ s).bind fun y s => f x y s) Q) :
    rdE U W ma σ H fun x H1 => rdE U W mb σ H1 fun y H2 => ∃ ι s d e, RelS U ι s H2 ∧ RelF U ι H2 τ σ ∧ Rep U.K ι H2 d x ∧ Rep U.K ι H2 e y ∧ Post U rel W σ ι H2 (f d e s) Q := by
  refine ⟨ι, s, τ, hs, hf, (Post.bindF (rel := RD U) hf h).imp fun x H1 ⟨ι1, s1, d, h1, h2, h3, h4, h5⟩ => ?_⟩
  exact ⟨ι1, s1, τ, h1, h2, (Post.bindF (rel := RD U) h2 h5).imp fun y H2 ⟨ι2, s2, e, g1, g2, g3, g4, g5⟩ => ⟨ι2, s2, d, e, g1, g2, h3.mono g4.ex g4.tups, g3, g5⟩⟩
/-- a test by the value -/
theorem pt_plain {v : Fr → S → R D} (hK : U.K = X.K) (hv : byVal e = true) (h : PE X e (rdE U W v)) : PT X e (rdT U W (plainT v).2) := by
  refine (pt_truth h (byVal_ok hv)).imp fun σ H Q ⟨ι, s, τ, hs, hf, hp⟩ => ?_
  refine ⟨ι, s, τ, hs, hf, (Post.bindF (rel := RD U) hf hp).imp fun x H1 ⟨ι1, s1, d, h1, h2, h3, h4, h5⟩ => ?_⟩
  exact tru_D hK h1 h3 h5.pb

theorem s_var (g : Gd C U cl X W) {i : Nat} {n : Str} (h : (decide (C.N[i]? = some n) && visB X.env.scope n && nmB n) = true) : PE X (.Name n pos) (rdE U W (ev cl (.var i)).1) := by
  simp only [Bool.and_eq_true, decide_eq_true_eq] at h
  refine (pe_var (i := i) (by rw [g.hN]; exact h.1.1) (visB_ok h.1.2) (nmB_ok h.2).1 (nmB_ok h.2).2.1).imp fun σ H Q ⟨ι, s, τ, hs, hf, hp⟩ => ?_
  have hp : Post U (RD U) W σ ι H (match τ[i]? with | some (some d) => .ok d s | _ => .bad) Q := hp
  split at hp
  · rename_i d q
    obtain ⟨v, h1, h2⟩ := hf.2 i d q
    exact ⟨v, h1, hp.p.val hs h2⟩
  · exact hp.elim
theorem s_cst {k : Cst} {x : Const} {j : Nat} (h : cstOk k x = true) :
    PE X (.Constant x j pos) (rdE U W (ev cl (.cst k)).1) := by
  have key : ∃ v, (∀ ι H, Rep U.K ι H k.d v) ∧ PE X (.Constant x j pos) (tC v) := by
    cases k <;> cases x <;> first
      | exact (Bool.false_ne_true h).elim
      | exact ⟨_, fun _ _ => rep_non, pe_non⟩
      | (cases (beq_iff_eq.mp h); exact ⟨_, fun _ _ => rep_bl _, pe_bl⟩)
      | (cases (of_decide_eq_true h); exact ⟨_, fun _ _ => rep_int _, pe_int⟩)
      | (cases (of_decide_eq_true h); exact ⟨_, fun _ _ => rep_str _, pe_str⟩)
  obtain ⟨v, h1, h2⟩ := key
  exact h2.imp fun σ H Q ⟨ι, s, τ, hs, hf, hp⟩ => hp.p.val hs (h1 _ _)
theorem s_glob (g : Gd C U cl X W) {i : Nat} {n : Str} (h : (decide (C.gn[i]? = some n) && glB X.env.scope n && nmB n) = true) : PE X (.Name n pos) (rdE U W (ev cl (.glob i)).1) := by
  simp only [Bool.and_eq_true, decide_eq_true_eq] at h
  refine ⟨fun pins s σ H Q I ⟨ι, st, τ, hs, hf, hp⟩ => ?_⟩
  have hp : Post U (RD U) W σ ι H (match cl.glob i with | some d => .ok d st | none => .bad) Q := hp
  split at hp
  · rename_i d q
    obtain ⟨u, v, h1, h2, h3⟩ := g.glb i n d h.1.1 q
    exact (pe_glob (glB_ok h.1.2) h1 h2 (nmB_ok h.2).1).run pins s σ H Q I (hp.p.val hs (h3 _ _))
  · exact hp.elim
theorem s_bin (g : Gd C U cl X W) {o : Bop} {x y : Ex} (ha : PE X a (rdE U W (ev cl x).1)) (hb : PE X b (rdE U W (ev cl y).1)) : PE X (.BinOp a (bopOf o) b pos) (rdE U W (ev cl (.bin o x y)).1) := by
  have ho : OpR X (binaryOp (bopOf o)) (rOp U (binD o)) := by
    have := op_binD (U := U) g.hK o
    cases o <;> exact this
  refine (pe_op ho ha hb).imp fun σ H Q ⟨ι, s, τ, hs, hf, hp⟩ => ?_
  obtain ⟨ι, s, τ, h1, h2, h3⟩ := Gd.rd2 hs hf hp
  exact ⟨ι, s, τ, h1, h2, h3.imp fun v H1 ⟨ι, s, τ, h1, h2, h3⟩ => ⟨ι, s, τ, h1, h2, h3.imp fun v H1 ⟨ι, s, d, e, q1, _, q2, q3, q4⟩ => ⟨ι, s, d, e, q1, q2, q3, q4.p⟩⟩⟩
theorem s_neg {x : Ex} (ha : PE X a (rdE U W (ev cl x).1)) : PE X (.UnaryOp .USub a pos) (rdE U W (ev cl (.neg x)).1) := by
  refine (pe_un (un_negD (U := U)) ha).imp fun σ H Q ⟨ι, s, τ, hs, hf, hp⟩ => ?_
  exact ⟨ι, s, τ, hs, hf, (Post.bindF (rel := RD U) hf hp).imp fun v H1 ⟨ι, s, d, q1, _, q2, _, q4⟩ => ⟨ι, s, d, q1, q2, q4.p⟩⟩
theorem s_not {x : Ex} (ha : PE X a (rdE U W (ev cl x).1)) : PE X (.UnaryOp .Not a pos) (rdE U W (ev cl (.not x)).1) := by
  refine (pe_not ha).imp fun σ H Q ⟨ι, s, τ, hs, hf, hp⟩ => ?_
  refine ⟨ι, s, τ, hs, hf, (Post.bindF (rel := RD U) hf hp).imp fun v H1 ⟨ι, s, d, q1, _, q2, _, q4⟩ => ?_⟩
  cases d with
  | bl k => exact ⟨k, q2.bl_of, q4.p.val q1 (rep_bl _)⟩
  | _ => exact q4.elim
theorem t_not {x : Ex} (ha : PT X a (rdT U W (ev cl x).2)) : PT X (.UnaryOp .Not a pos) (rdT U W (ev cl (.not x)).2) := by
  refine (pt_not ha).imp fun σ H Q ⟨ι, s, τ, hs, hf, hp⟩ => ?_
  exact ⟨ι, s, τ, hs, hf, (Post.bindF (rel := RB) hf hp).imp fun v H1 ⟨ι, s, d, q1, _, q2, _, q4⟩ => by rw [show v = d from q2]; exact q4.pb.val q1⟩
theorem rd_and {x y : Ex} : ∀ σ H Q, rdE U W (ev cl (.and x y)).1 σ H Q → tAndV (rdE U W (ev cl x).1) (rdE U W (ev cl y).1) σ H Q := fun σ H Q ⟨ι, s, τ, hs, hf, hp⟩ => by
  refine ⟨ι, s, τ, hs, hf, (Post.bindF (rel := RD U) hf hp).imp fun v H1 ⟨ι, s, d, q1, q0, q2, _, q4⟩ => ?_⟩
  cases d with
  | bl k =>
    refine ⟨k, q2.bl_of, ?_⟩
    cases k with
    | true => rw [if_pos rfl]; exact ⟨ι, s, τ, q1, q0, q4⟩
    | false => rw [if_neg Bool.false_ne_true]; exact q4.p.val q1 (rep_bl _)
  | _ => exact q4.elim
theorem rd_or {x y : Ex} : ∀ σ H Q, rdE U W (ev cl (.or x y)).1 σ H Q → tOrV (rdE U W (ev cl x).1) (rdE U W (ev cl y).1) σ H Q := fun σ H Q ⟨ι, s, τ, hs, hf, hp⟩ => by
  refine ⟨ι, s, τ, hs, hf, (Post.bindF (rel := RD U) hf hp).imp fun v H1 ⟨ι, s, d, q1, q0, q2, _, q4⟩ => ?_⟩
  cases d with
  | bl k =>
    refine ⟨k, q2.bl_of, ?_⟩
    cases k with
    | false => rw [if_neg Bool.false_ne_true]; exact ⟨ι, s, τ, q1, q0, q4⟩
    | true => rw [if_pos rfl]; exact q4.p.val q1 (rep_bl _)
  | _ => exact q4.elim
theorem rt_and {x y : Ex} : ∀ σ H Q, rdT U W (ev cl (.and x y)).2 σ H Q → tAnd (rdT U W (ev cl x).2) (rdT U W (ev cl y).2) σ H Q := fun σ H Q ⟨ι, s, τ, hs, hf, hp⟩ => by
  refine ⟨ι, s, τ, hs, hf, (Post.bindF (rel := RB) hf hp).imp fun v H1 ⟨ι, s, d, q1, q0, q2, _, q4⟩ => ?_⟩
  rw [show v = d from q2]
  cases d with
  | true => rw [if_pos rfl]; exact ⟨ι, s, τ, q1, q0, q4⟩
  | false => rw [if_neg Bool.false_ne_true]; exact q4.pb.val q1
theorem rt_or {x y : Ex} : ∀ σ H Q, rdT U W (ev cl (.or x y)).2 σ H Q → tOr (rdT U W (ev cl x).2) (rdT U W (ev cl y).2) σ H Q := fun σ H Q ⟨ι, s, τ, hs, hf, hp⟩ => by
  refine ⟨ι, s, τ, hs, hf, (Post.bindF (rel := RB) hf hp).imp fun v H1 ⟨ι, s, d, q1, q0, q2, _, q4⟩ => ?_⟩
  rw [show v = d from q2]
  cases d with
  | false => rw [if_neg Bool.false_ne_true]; exact ⟨ι, s, τ, q1, q0, q4⟩
  | true => rw [if_pos rfl]; exact q4.pb.val q1
theorem s_cmp (g : Gd C U cl X W) {o : Cop} {x y : Ex} (ha : PE X a (rdE U W (ev cl x).1)) (hb : PE X b (rdE U W (ev cl y).1)) (hm : behindInMarks (copOf o) b = false) : PE X (.Compare a [copOf o] [b] pos) (rdE U W (ev cl (.cmp o x y)).1) := by
  refine (pe_cmpR (op_cmpD (U := U) g.hK g.hu o) ha hb hm).imp fun σ H Q ⟨ι, s, τ, hs, hf, hp⟩ => ?_
  obtain ⟨ι, s, τ, h1, h2, h3⟩ := Gd.rd2 hs hf (Post.bv (W' := W) (σ' := σ) hp)
  refine ⟨ι, s, τ, h1, h2, h3.imp fun v H1 ⟨ι, s, τ, h1, h2, h3⟩ => ⟨ι, s, τ, h1, h2, h3.imp fun v H1 ⟨ι, s, d, e, q1, _, q2, q3, q4⟩ => ⟨ι, s, d, e, q1, q2, q3, ?_⟩⟩⟩
  exact (Post.vb q4).imp fun x H ⟨k, e, z⟩ => e ▸ z
theorem t_cmp (g : Gd C U cl X W) {o : Cop} {x y : Ex} (ha : PE X a (rdE U W (ev cl x).1)) (hb : PE X b (rdE U W (ev cl y).1)) (hm : behindInMarks (copOf o) b = false) : PT X (.Compare a [copOf o] [b] pos) (rdT U W (ev cl (.cmp o x y)).2) := by
  refine (pt_cmpR (op_cmpD (U := U) g.hK g.hu o) ha hb hm).imp fun σ H Q ⟨ι, s, τ, hs, hf, hp⟩ => ?_
  obtain ⟨ι, s, τ, h1, h2, h3⟩ := Gd.rd2 hs hf hp
  exact ⟨ι, s, τ, h1, h2, h3.imp fun v H1 ⟨ι, s, τ, h1, h2, h3⟩ => ⟨ι, s, τ, h1, h2, h3.imp fun v H1 ⟨ι, s, d, e, q1, _, q2, q3, q4⟩ => ⟨ι, s, d, e, q1, q2, q3, Post.vb q4⟩⟩⟩
theorem rd_chain (g : Gd C U cl X W) {o o' : Cop} {x y z : Ex} {σ : L2.St} {H : Hp} {Q : Bool → Hp → Prop} {Q' : V → Hp → Prop} (hQ : ∀ k H, Q k H → Q' (.bl k) H) (h : rdT U W (ev cl (.cmp2 o o' x y z)).2 σ H Q) :
    tChain (rOp U (boolR (cmpD o))) (rOp U (boolR (cmpD o'))) (rdE U W (ev cl x).1) (rdE U W (ev cl y).1) (rdE U W (ev cl z).1) σ H Q' := by
  obtain ⟨ι, s, τ, hs, hf, hp⟩ := h
  obtain ⟨ι, s, τ0, h1, h2, h3⟩ := Gd.rd2 hs hf hp
  refine ⟨ι, s, τ0, h1, h2, h3.imp fun v1 H1 ⟨ι, s, τ1, h1, h2, h3⟩ => ⟨ι, s, τ1, h1, h2, h3.imp fun v2 H2 ⟨ι, s, d, e, q1, q0, q2, q3, q4⟩ => ⟨ι, s, d, e, q1, q2, q3, ?_⟩⟩⟩
  refine (Post.vb (Post.bindF (rel := RB) q0 q4)).imp fun w H3 ⟨k, e1, ι3, s3, k', r1, r0, r2, r3, r4⟩ => ⟨k, e1, ?_⟩
  have e2 : k = k' := r2
  subst e2
  cases k with
  | false => rw [if_neg Bool.false_ne_true]; exact hQ _ _ (r4.pb.val r1)
  | true =>
    rw [if_pos rfl]
    have r4 : Post U RB W σ ι3 H3 (((ev cl z).1 τ s3).bind fun z s => cmpD o' e z s) Q := r4
    refine ⟨ι3, s3, τ, r1, r0, (Post.bindF (rel := RD U) r0 r4).imp fun v4 H4 ⟨ι4, s4, d4, p1, _, p2, p3, p4⟩ => ⟨ι4, s4, e, d4, p1, q3.mono (r3.trans p3).ex (r3.trans p3).tups, p2, ?_⟩⟩
    exact (Post.vb p4).imp fun x H ⟨k, e, z⟩ => e ▸ hQ _ _ z
theorem s_cmp2 (g : Gd C U cl X W) {o o' : Cop} {x y z : Ex} (ha : PE X a (rdE U W (ev cl x).1)) (hb : PE X b (rdE U W (ev cl y).1)) (hc : PE X c (rdE U W (ev cl z).1)) (hm : lastMarks [copOf o, copOf o'] [b, c] = false) :
    PE X (.Compare a [copOf o, copOf o'] [b, c] pos) (rdE U W (ev cl (.cmp2 o o' x y z)).1) := by
  refine (pe_chain (op_cmpD (U := U) g.hK g.hu o) (op_cmpD (U := U) g.hK g.hu o') ha hb hc hm).imp fun σ H Q ⟨ι, s, τ, hs, hf, hp⟩ => ?_
  exact rd_chain g (fun k H q => q) ⟨ι, s, τ, hs, hf, Post.bv (W' := W) (σ' := σ) hp⟩
theorem t_cmp2 (g : Gd C U cl X W) {o o' : Cop} {x y z : Ex} (ha : PE X a (rdE U W (ev cl x).1)) (hb : PE X b (rdE U W (ev cl y).1)) (hc : PE X c (rdE U W (ev cl z).1)) (hm : lastMarks [copOf o, copOf o'] [b, c] = false) :
    PT X (.Compare a [copOf o, copOf o'] [b, c] pos) (rdT U W (ev cl (.cmp2 o o' x y z)).2) := by
  refine (pt_chain (op_cmpD (U := U) g.hK g.hu o) (op_cmpD (U := U) g.hK g.hu o') ha hb hc hm).imp fun σ H Q h => ?_
  exact rd_chain g (fun k H q => ⟨k, rfl, q⟩) h
theorem s_ife {x y z : Ex} (hc : PT X c (rdT U W (ev cl x).2)) (ha : PE X a (rdE U W (ev cl y).1)) (hb : PE X b (rdE U W (ev cl z).1)) : PE X (.IfExp c a b pos) (rdE U W (ev cl (.ife x y z)).1) := by
  refine (pe_ifExp hc ha hb).imp fun σ H Q ⟨ι, s, τ, hs, hf, hp⟩ => ?_
  refine ⟨ι, s, τ, hs, hf, (Post.bindF (rel := RB) hf hp).imp fun v H1 ⟨ι, s, d, q1, q0, q2, _, q4⟩ => ?_⟩
  rw [show v = d from q2]
  cases d with
  | true => rw [if_pos rfl]; exact ⟨ι, s, τ, q1, q0, q4⟩
  | false => rw [if_neg Bool.false_ne_true]; exact ⟨ι, s, τ, q1, q0, q4⟩
theorem evs_len : ∀ {es : Exs} {τ : Fr} {s : S} {ds : List D} {s' : S}, evs cl es τ s = .ok ds s' → ds.length = es.len
  | .nil, τ, s, ds, s', h => by simp only [evs, R.ok.injEq] at h; rw [← h.1]; rfl
  | .cons e es, τ, s, ds, s', h => by
    simp only [evs] at h
    cases h1 : (ev cl e).1 τ s with
    | ok d s1 =>
      rw [h1] at h
      simp only [R.bind_ok] at h
      cases h2 : evs cl es τ s1 with
      | ok ds2 s2 =>
        rw [h2] at h
        simp only [R.bind_ok, R.ok.injEq] at h
        rw [← h.1]
        simp [Exs.len, evs_len h2]
      | exc _ _ _ => rw [h2] at h; simp at h
      | bad => rw [h2] at h; simp at h
    | exc _ _ _ => rw [h1] at h; simp at h
    | bad => rw [h1] at h; simp at h
theorem okEs_len : ∀ {es : Exs} {sc : Scope} {xs : List Expr}, okEs C es sc xs = true → es.len = xs.length
  | .nil, sc, xs, h => by cases xs <;> first | rfl | cases h
  | .cons e es, sc, [], h => by cases h
  | .cons e es, sc, x :: xs, h => by
    simp only [okEs, Bool.and_eq_true] at h
    simp [Exs.len, okEs_len h.2]
theorem okEs_star {env : Env} : ∀ {es : Exs} {xs : List Expr}, okEs C es env.scope xs = true → ∀ t ∈ starEach xs env, t.1 = false
  | .nil, xs, h => by cases xs <;> first | (intro t ht; cases ht) | cases h
  | .cons e es, [], h => by cases h
  | .cons e es, x :: xs, h => by
    simp only [okEs, Bool.and_eq_true] at h
    rw [star_cons h.1.1]
    intro t ht
    rcases List.mem_cons.mp ht with rfl | ht
    · rfl
    · exact okEs_star h.2 t ht
theorem back_plain {ts : List (Bool × Sem Value)} (h : ∀ t ∈ ts, t.1 = false) : (backTo pos ts).any (·.1) = false := by
  rw [List.any_eq_false]
  intro t ht
  unfold backTo at ht
  obtain ⟨u, hu, rfl⟩ := List.mem_map.mp ht
  rw [h u hu]
  exact Bool.false_ne_true
/-- the heap keeps a list of at most a thousand items -/
theorem small_ok {α : Type} {n : Nat} {xs : List α} (h : xs.length = n) (hn : n ≤ 1000) : xs.length ≤ sizeLine := by
  rw [h]; exact Nat.le_of_lt (small1000 hn)
/-- a list of runs, its length known -/
theorem post_evs {es : Exs} {τ : Fr} {s : S} {σ : L2.St} {ι : List Addr} {H : Hp} {β γ : Type} {rel : List Addr → Hp → β → γ → Prop} {f : List D → S → R β} {Q : γ → Hp → Prop} (hf : RelF U ι H τ σ) (h : Post U rel W σ ι H ((evs cl es τ s).bind f) Q) :
    Post U (RDs U) W σ ι H (evs cl es τ s) (fun vs H1 => ∃ ι1 s1 ds, RelS U ι1 s1 H1 ∧ RelF U ι1 H1 τ σ ∧ Reps U.K ι1 H1 ds vs ∧ vs.length = es.len ∧ Go ι H ι1 H1 ∧ Post U rel W σ ι1 H1 (f ds s1) Q) := by
  have h' := Post.bindF (rel := RDs U) hf h
  cases q : evs cl es τ s with
  | ok ds s' =>
    rw [q] at h'
    intro ι2 H2 vs g h1 h2
    obtain ⟨ι3, s3, ds3, p1, p2, p3, p4, p5⟩ := h' ι2 H2 vs g h1 h2
    rw [q] at h
    exact ⟨ι2, s', ds, h1, hf.mono g.ex g.tups, h2, by rw [Reps.length h2, evs_len q], g, Post.mono g h⟩
  | exc c fs s' => rw [q] at h'; exact h'
  | bad => rw [q] at h'; exact h'
theorem s_tup {es : Exs} {xs : List Expr} {j : Nat} (ha : PA X xs (rdA U W (evs cl es))) (hl : es.len ≤ 1000) : PE X (.Tuple xs j pos) (rdE U W (ev cl (.tup es)).1) := by
  refine (pe_tup ha).imp fun σ H Q ⟨ι, s, τ, hs, hf, hp⟩ => ?_
  refine ⟨ι, s, τ, hs, hf, (post_evs hf hp).imp fun vs H1 ⟨ι, s, ds, q1, _, q2, q3, _, q4⟩ => ⟨small_ok q3 hl, fun p np => q4.p.tup q1 np q2⟩⟩
theorem s_lst {es : Exs} {xs : List Expr} (ha : PA X xs (rdA U W (evs cl es))) (hl : es.len ≤ 1000) : PE X (.List xs pos) (rdE U W (ev cl (.lst es)).1) := by
  refine (pe_lst ha).imp fun σ H Q ⟨ι, s, τ, hs, hf, hp⟩ => ?_
  refine ⟨ι, s, τ, hs, hf, (post_evs hf hp).imp fun vs H1 ⟨ι, s, ds, q1, _, q2, q3, _, q4⟩ => ⟨small_ok q3 hl, fun p np => q4.p.mk q1 np (ObR.lst np q2)⟩⟩
theorem s_ix (g : Gd C U cl X W) {x y : Ex} (ha : PE X a (rdE U W (ev cl x).1)) (hb : PE X b (rdE U W (ev cl y).1)) (hn : notSlice b = true) : PE X (.Subscript a b pos) (rdE U W (ev cl (.ix x y)).1) := by
  refine (pe_ix (ix_D (U := U) g.hK) ha hb (plainIx hn)).imp fun σ H Q ⟨ι, s, τ, hs, hf, hp⟩ => ?_
  obtain ⟨ι, s, τ, h1, h2, h3⟩ := Gd.rd2 hs hf hp
  exact ⟨ι, s, τ, h1, h2, h3.imp fun v H1 ⟨ι, s, τ, h1, h2, h3⟩ => ⟨ι, s, τ, h1, h2, h3.imp fun v H1 ⟨ι, s, d, e, q1, _, q2, q3, q4⟩ => ⟨ι, s, d, e, q1, q2, q3, q4.p⟩⟩⟩
/-- a part of a slice -/
def tPo (U : Su) (W : WX) (m : Fr → S → R (Option Int)) : TO := fun σ H Q => ∃ ι s τ, RelS U ι s H ∧ RelF U ι H τ σ ∧ Post U (fun _ _ (x : Option Int) y => y = x) W σ ι H (m τ s) Q
theorem po_D {x : Ex} {l : Option Expr} (h : match l with | none => x.isNop = true | some l => x.isNop = false ∧ PE X l (rdE U W (ev cl x).1)) : PO X l (tPo U W (fun τ s => evPart (ev cl x).1 x.isNop τ s)) := by
  cases l with
  | none =>
    refine ⟨fun pins s σ H Q I ⟨ι, st, τ, hs, hf, hp⟩ => po_none.run pins s σ H Q I ?_⟩
    have h : x.isNop = true := h
    simp only [evPart, h, if_true] at hp
    exact hp ι H none (Go.refl _ _) hs rfl
  | some l =>
    refine ⟨fun pins s σ H Q I ⟨ι, st, τ, hs, hf, hp⟩ => (po_some h.2).run pins s σ H Q I ?_⟩
    have h1 : x.isNop = false := h.1
    simp only [evPart, h1, Bool.false_eq_true, if_false] at hp
    refine ⟨ι, st, τ, hs, hf, (Post.bindF (rel := RD U) hf hp).imp fun v H1 ⟨ι, s, d, q1, q0, q2, _, q4⟩ => ?_⟩
    cases d with
    | int i => exact ⟨i, q2.int_of, q4 ι H1 (some i) (Go.refl _ _) q1 rfl⟩
    | _ => exact q4.elim
theorem s_sl (g : Gd C U cl X W) {x lo hi : Ex} {l h : Option Expr} {p2 : Pos} (ha : PE X a (rdE U W (ev cl x).1)) (hl : PO X l (tPo U W (fun τ s => evPart (ev cl lo).1 lo.isNop τ s))) (hh : PO X h (tPo U W (fun τ s => evPart (ev cl hi).1 hi.isNop τ s))) :
    PE X (.Subscript a (.Slice l h none p2) pos) (rdE U W (ev cl (.sl x lo hi)).1) := by
  refine (pe_slice (sl_D (U := U) g.hK) ha hl hh).imp fun σ H Q ⟨ι, s, τ, hs, hf, hp⟩ => ?_
  refine ⟨ι, s, τ, hs, hf, (Post.bindF (rel := RD U) hf hp).imp fun v H1 ⟨ι, s, d, q1, q0, q2, _, q4⟩ => ?_⟩
  refine ⟨ι, s, τ, q1, q0, (Post.bindF (rel := fun _ _ (x : Option Int) y => y = x) q0 q4).imp fun l H2 ⟨ι, s, l', r1, r0, r2, r3, r4⟩ => ?_⟩
  refine ⟨ι, s, τ, r1, r0, (Post.bindF (rel := fun _ _ (x : Option Int) y => y = x) r0 r4).imp fun h H3 ⟨ι, s, h', p1, p0, p2, p3, p4⟩ => ?_⟩
  rw [show l = l' from r2, show h = h' from p2]
  exact ⟨ι, s, d, p1, q2.mono (r3.trans p3).ex (r3.trans p3).tups, p4.p⟩
theorem s_call (g : Gd C U cl X W) {f : Nat} {n : Str} {es : Exs} {y : Expr} {ys : List Expr} {p : Pos} (hn : C.fn[f]? = some n) (hg : glB X.env.scope n = true) (hm : nmB n = true) (ho : okEs C es X.env.scope (y :: ys) = true)
    (ha : PA X (y :: ys) (rdA U W (evs cl es))) : PE X (.Call (.Name n p) (y :: ys) [] pos) (rdE U W (ev cl (.call f es)).1) := by
  obtain ⟨fa, fd, ps, k, F, hr, h1, h2, h3⟩ := g.fns f n hn
  have st := okEs_star (env := X.env) ho
  have ns : notStar y = true := by
    cases es with
    | nil => cases ho
    | cons e es => simp only [okEs, Bool.and_eq_true] at ho; exact ho.1.1
  have st2 : ∀ t ∈ starEach ys X.env, t.1 = false := fun t ht => st t (by rw [star_cons ns]; exact List.mem_cons_of_mem _ ht)
  refine (pe_callSD F hr (glB_ok hg) h1 h2 h3 .nil (fun σ => passAt g.tk σ) ha (nmB_ok hm).1 (star_cons ns) (back_plain st2)).imp fun σ H Q ⟨ι, s, τ, hs, hf, hp⟩ => ?_
  refine ⟨ι, s, τ, hs, hf, (post_evs hf hp).imp fun vs H1 ⟨ι, s, ds, q1, _, q2, q3, _, q4⟩ => ?_⟩
  refine ⟨ι, s, ds, q1, by rw [List.append_nil]; exact q2, ?_⟩
  have q4 : Post U (RD U) W σ ι H1 (cl.call f ds s) Q := q4
  revert q4
  cases cl.call f ds s with
  | ok d s' => exact fun z => z
  | exc c fs s' => exact fun z => z
  | bad => exact fun z => z
theorem bf_in (b : Bf) : bfName b ∈ blts := by cases b <;> decide +kernel
theorem bf_boot (b : Bf) : bootBuiltins (bfName b) = some (bfVal b) := by cases b <;> decide +kernel
theorem s_blt (g : Gd C U cl X W) {b : Bf} {es : Exs} {y : Expr} {ys : List Expr} {p : Pos} (hg : glB X.env.scope (bfName b) = true) (ho : okEs C es X.env.scope (y :: ys) = true)
    (ha : PA X (y :: ys) (rdA U W (evs cl es))) : PE X (.Call (.Name (bfName b) p) (y :: ys) [] pos) (rdE U W (ev cl (.blt b es)).1) := by
  have st := okEs_star (env := X.env) ho
  have ns : notStar y = true := by
    cases es with
    | nil => cases ho
    | cons e es => simp only [okEs, Bool.and_eq_true] at ho; exact ho.1.1
  have st2 : ∀ t ∈ starEach ys X.env, t.1 = false := fun t ht => st t (by rw [star_cons ns]; exact List.mem_cons_of_mem _ ht)
  have hc := blt_D (U := U) g.hK b
  have hv := bf_boot b
  have hm := g.blt _ (bf_in b)
  have fin : ∀ σ H Q, rdE U W (ev cl (.blt b es)).1 σ H Q → tCB (rCall U (bltD b)) (rdA U W (evs cl es)) σ H Q := fun σ H Q ⟨ι, s, τ, hs, hf, hp⟩ =>
    ⟨ι, s, τ, hs, hf, (post_evs hf hp).imp fun vs H1 ⟨ι, s, ds, q1, _, q2, q3, _, q4⟩ => ⟨ι, s, ds, q1, q2, q4.p⟩⟩
  have e1 : (bfName b == ("__debug__" : Str)) = false := by cases b <;> decide +kernel
  have e2 : bfName b ≠ "__name__" := by cases b <;> decide +kernel
  cases b with
  | len => exact (pe_callB hc (glB_ok hg) hm hv ha e2 e1 (star_cons ns) (back_plain st2)).imp fin
  | abs => exact (pe_callB hc (glB_ok hg) hm hv ha e2 e1 (star_cons ns) (back_plain st2)).imp fin
  | int => exact (pe_callTy hc (glB_ok hg) hm hv ha e2 e1 (star_cons ns) (back_plain st2)).imp fin
  | list => exact (pe_callTy hc (glB_ok hg) hm hv ha e2 e1 (star_cons ns) (back_plain st2)).imp fin
  | tuple => exact (pe_callTy hc (glB_ok hg) hm hv ha e2 e1 (star_cons ns) (back_plain st2)).imp fin
theorem ty_in (t : Ty) : Str.ofString (tyName t) ∈ blts := by cases t <;> decide +kernel
theorem ty_boot (t : Ty) : bootBuiltins (Str.ofString (tyName t)) = some (.type (tyName t)) := by cases t <;> decide +kernel
theorem s_isi (g : Gd C U cl X W) {t : Ty} {x : Ex} {p q : Pos} (hg : glB X.env.scope "isinstance" = true) (hg2 : glB X.env.scope (Str.ofString (tyName t)) = true) (ns : notStar a = true) (ha : PE X a (rdE U W (ev cl x).1)) :
    PE X (.Call (.Name "isinstance" p) [a, .Name (Str.ofString (tyName t)) q] [] pos) (rdE U W (ev cl (.isi x t)).1) := by
  have e1 : (Str.ofString (tyName t) == ("__debug__" : Str)) = false := by cases t <;> decide +kernel
  have e2 : Str.ofString (tyName t) ≠ "__name__" := by cases t <;> decide +kernel
  have hb : PE X (.Name (Str.ofString (tyName t)) q) (tC (.ty (tyName t))) := pe_bltn (glB_ok hg2) (g.blt _ (ty_in t)) (ty_boot t) rfl e2 e1
  refine (pe_callB (call_isi (X := X)) (glB_ok hg) (g.blt _ (by decide +kernel)) (by decide +kernel) (pa_cons ha (pa_cons hb pa_nil rfl) (star_cons ns)) (by decide +kernel) (by decide +kernel) (star_cons ns) rfl).imp fun σ H Q ⟨ι, s, τ, hs, hf, hp⟩ => ?_
  refine ⟨ι, s, τ, hs, hf, (Post.bindF (rel := RD U) hf hp).imp fun v H1 ⟨ι, s, d, q1, q0, q2, _, q4⟩ => ?_⟩
  show rIsi X.K [v, .ty (tyName t)] H1 Q
  cases h : isiD t d s with
  | ok b s' =>
    obtain ⟨rfl, tv, h1, h2⟩ := isi_D g.hK q1 q2 h
    rw [h] at q4
    exact ⟨v, .ty (tyName t), tv, .type (tyName t), b, rfl, .ty _, h1, h2, q4.p.val q1 (rep_bl _)⟩
  | exc c fs s' =>
    cases d <;> cases t <;> simp only [isiD] at h <;> first | cases h | (split at h <;> cases h)
  | bad => rw [h] at q4; exact q4.elim
theorem mf_plain (m : Mf) : PlainAttrs (mfTy m) ∧ Slot (mfTy m) (mfName m) (mfId m) ∧ typeOf (.builtin (mfId m)) = pure (.type "method_descriptor") := by
  cases m with
  | append => exact ⟨PySem.F.plainAttrs_list, PySem.F.slot_list_append, PySem.F.type_list_append⟩
  | join => exact ⟨PySem.F.plainAttrs_str, PySem.F.slot_str_join, PySem.F.type_str_join⟩
theorem s_meth (g : Gd C U cl X W) {m : Mf} {x : Ex} {es : Exs} {y : Expr} {ys : List Expr} {apos : Pos} (hb : baseB a = true) (hl : (apos.endLine == pos.line) = true) (hz : ys.length < 20) (ho : okEs C es X.env.scope (y :: ys) = true)
    (ha : PE X a (rdE U W (ev cl x).1)) (hes : PA X (y :: ys) (rdA U W (evs cl es))) : PE X (.Call (.Attribute a (mfName m) apos) (y :: ys) [] pos) (rdE U W (ev cl (.meth m x es)).1) := by
  have st := okEs_star (env := X.env) ho
  have ns : notStar y = true := by
    cases es with
    | nil => cases ho
    | cons e es => simp only [okEs, Bool.and_eq_true] at ho; exact ho.1.1
  have st2 : ∀ t ∈ starEach ys X.env, t.1 = false := fun t ht => st t (by rw [star_cons ns]; exact List.mem_cons_of_mem _ ht)
  obtain ⟨h1, h2, h3⟩ := mf_plain m
  have few : ((backTo pos (starEach (y :: ys) X.env)).all (fun x => !x.1) && (backToKw pos (keywordEach [] X.env)).all (fun x => x.1.isSome) && decide ((y :: ys).length + ([] : List Keyword).length + (if ([] : List Keyword).isEmpty then 0 else 1) < 30)) = true := by
    rw [Bool.and_eq_true, Bool.and_eq_true]
    refine ⟨⟨?_, rfl⟩, decide_eq_true (by show ys.length + 1 + 0 + 0 < 30; omega)⟩
    rw [List.all_eq_true]
    intro t ht
    unfold backTo at ht
    obtain ⟨u, hu, rfl⟩ := List.mem_map.mp ht
    rw [st u hu]
    rfl
  refine (pe_bm h1 h2 h3 (meth_D (U := U) g.hK m) ha hes (base_ok hb) few hl (star_cons ns) (back_plain st2)).imp fun σ H Q ⟨ι, s, τ, hs, hf, hp⟩ => ?_
  refine ⟨ι, s, τ, hs, hf, (Post.bindF (rel := RD U) hf hp).imp fun v H1 ⟨ι, s, d, q1, q0, q2, _, q4⟩ => ?_⟩
  split at q4
  · rename_i hk
    refine ⟨methOk_ty g.hK q1 m d v q2 hk, ι, s, τ, q1, q0, (post_evs q0 q4).imp fun vs H2 ⟨ι, s, ds, r1, _, r2, r3, r4, r5⟩ => ⟨ι, s, d, ds, r1, q2.mono r4.ex r4.tups, r2, r5.p⟩⟩
  · exact q4.elim

/-! ### what is walked -/
/-- the arguments' run, then what stands there to be walked -/
noncomputable def srcRun (cl : CL) (k : Ik) (its : Exs) : Fr → S → R Src := fun τ s => (evs cl its τ s).bind fun ds s => match srcOf k ds s with
  | some src => .ok src s
  | none => .bad
def rdI (U : Su) (W : WX) (m : Fr → S → R Src) : TI := fun σ H Q => ∃ ι s τ, RelS U ι s H ∧ RelF U ι H τ σ ∧ Post U (fun ι H src J => ItOk U ι H src J) W σ ι H (m τ s) Q
theorem PostI.val {σ : L2.St} {ι : List Addr} {H : Hp} {s : S} {src : Src} {J : It} {Q : It → Hp → Prop} (h : Post U (fun ι H src J => ItOk U ι H src J) W σ ι H (.ok src s) Q) (hs : RelS U ι s H) (i : ItOk U ι H src J) : Q J H := h ι H J (Go.refl _ _) hs i
theorem i_seq (g : Gd C U cl X W) {x : Ex} {tg : Expr} (h : PE X e (rdE U W (ev cl x).1)) : PI X tg e (rdI U W (srcRun cl .seq (.cons x .nil))) := by
  refine ((pi_list h).or ((pi_tup h).or (pi_str h))).imp fun σ H Q ⟨ι, s, τ, hs, hf, hp⟩ => ?_
  have hp : Post U (fun ι H src J => ItOk U ι H src J) W σ ι H ((((ev cl x).1 τ s).bind fun d s => .ok [d] s).bind fun ds s => match srcOf .seq ds s with | some src => .ok src s | none => .bad) Q := hp
  cases q : (ev cl x).1 τ s with
  | bad => rw [q] at hp; exact hp.elim
  | exc c fs s' =>
    rw [q] at hp
    exact .inl ⟨ι, s, τ, hs, hf, by rw [q]; exact hp⟩
  | ok d s' =>
    rw [q] at hp
    simp only [R.bind_ok] at hp
    cases d with
    | ref n =>
      simp only [srcOf] at hp
      cases q2 : lstAt s' n with
      | none => rw [q2] at hp; exact hp.elim
      | some ds =>
        rw [q2] at hp
        refine .inl ⟨ι, s, τ, hs, hf, ?_⟩
        rw [q]
        intro ι2 H2 v go h1 h2
        have h2 : Rep U.K ι2 H2 (.ref n) v := h2
        simp only [Rep] at h2
        obtain ⟨a, rfl, ia⟩ := h2
        obtain ⟨vs, h3, h4⟩ := lst_sq h1 q2 ia
        exact ⟨a, rfl, ⟨vs, g.hK ▸ h3⟩, hp ι2 H2 _ go h1 (it_list g.hK ia)⟩
    | flst ds =>
      refine .inl ⟨ι, s, τ, hs, hf, ?_⟩
      rw [q]
      intro ι2 H2 v go h1 h2
      have h2 : Rep U.K ι2 H2 (.flst ds) v := h2
      simp only [Rep] at h2
      obtain ⟨a, vs, rfl, h3, h4⟩ := h2
      exact ⟨a, rfl, ⟨vs, g.hK ▸ h3.sq⟩, hp ι2 H2 _ go h1 (it_flst g.hK h3 h4)⟩
    | tup ds =>
      refine .inr (.inl ⟨ι, s, τ, hs, hf, ?_⟩)
      rw [q]
      intro ι2 H2 v go h1 h2
      have h2 : Rep U.K ι2 H2 (.tup ds) v := h2
      simp only [Rep] at h2
      obtain ⟨a, vs, rfl, h3, h4⟩ := h2
      exact ⟨a, rfl, ⟨vs, g.hK ▸ h3.sq⟩, hp ι2 H2 _ go h1 (it_tup g.hK h3 h4)⟩
    | str z =>
      refine .inr (.inr ⟨ι, s, τ, hs, hf, ?_⟩)
      rw [q]
      intro ι2 H2 v go h1 h2
      exact ⟨z, h2.str_of, hp ι2 H2 _ go h1 it_str⟩
    | _ => exact hp.elim
theorem i_rng1 (g : Gd C U cl X W) {es : Exs} {tg : Expr} {p : Pos} (hg : glB X.env.scope "range" = true) (ho : okEs C es X.env.scope [a] = true) (ha : PA X [a] (rdA U W (evs cl es))) : PI X tg (.Call (.Name "range" p) [a] [] pos) (rdI U W (srcRun cl .rng1 es)) := by
  have ns : notStar a = true := by
    cases es with
    | nil => cases ho
    | cons e es => simp only [okEs, Bool.and_eq_true] at ho; exact ho.1.1
  refine (pi_range1 (glB_ok hg) (g.blt _ (by decide +kernel)) ha (star_cons ns)).imp fun σ H Q ⟨ι, s, τ, hs, hf, hp⟩ => ?_
  refine ⟨ι, s, τ, hs, hf, (post_evs hf hp).imp fun vs H1 ⟨ι, s, ds, q1, _, q2, q3, _, q4⟩ => ?_⟩
  match ds, q2, q4 with
  | [.int j], q2, q4 =>
    obtain ⟨v, rfl, r⟩ := q2.one_of
    simp only [srcOf] at q4
    split at q4
    · rename_i src q5
      split at q5
      · rename_i hb
        cases q5
        exact ⟨j, by rw [r.int_of], hb.1, hb.2, PostI.val q4 q1 it_rng⟩
      · cases q5
    · exact q4.elim
  | [], q2, q4 => exact q4.elim
  | _ :: _ :: _, q2, q4 => exact (show False from by unfold srcOf at q4; split at q4 <;> simp_all [Post]).elim
  | [.non], q2, q4 => exact q4.elim
  | [.bl _], q2, q4 => exact q4.elim
  | [.str _], q2, q4 => exact q4.elim
  | [.tup _], q2, q4 => exact q4.elim
  | [.ref _], q2, q4 => exact q4.elim
  | [.flst _], q2, q4 => exact q4.elim
theorem i_rng2 (g : Gd C U cl X W) {es : Exs} {tg : Expr} {p : Pos} (hg : glB X.env.scope "range" = true) (ho : okEs C es X.env.scope [a, b] = true) (ha : PA X [a, b] (rdA U W (evs cl es))) : PI X tg (.Call (.Name "range" p) [a, b] [] pos) (rdI U W (srcRun cl .rng2 es)) := by
  have ns : notStar a = true ∧ notStar b = true := by
    cases es with
    | nil => cases ho
    | cons e es =>
      simp only [okEs, Bool.and_eq_true] at ho
      cases es with
      | nil => cases ho.2
      | cons e2 es => simp only [okEs, Bool.and_eq_true] at ho; exact ⟨ho.1.1, ho.2.1.1⟩
  refine (pi_range2 (glB_ok hg) (g.blt _ (by decide +kernel)) ha (by rw [star_cons ns.1, star_cons ns.2]; rfl) (star_cons ns.2)).imp fun σ H Q ⟨ι, s, τ, hs, hf, hp⟩ => ?_
  refine ⟨ι, s, τ, hs, hf, (post_evs hf hp).imp fun vs H1 ⟨ι, s, ds, q1, _, q2, q3, _, q4⟩ => ?_⟩
  cases q5 : srcOf .rng2 ds s with
  | none => simp only [q5] at q4; exact q4.elim
  | some src =>
    simp only [q5] at q4
    have key : ∃ i j : Int, ds = [.int i, .int j] := by
      unfold srcOf at q5
      split at q5 <;> first
        | contradiction
        | exact ⟨_, _, rfl⟩
        | (rename_i h; cases h)
    obtain ⟨i, j, rfl⟩ := key
    simp only [srcOf] at q5
    split at q5
    · rename_i hb
      cases q5
      obtain ⟨v, w, rfl, r, r'⟩ := q2.two_of
      exact ⟨i, j, by rw [r.int_of, r'.int_of], hb, PostI.val q4 q1 it_rng⟩
    · cases q5

/-! ### comprehensions -/
theorem lc_parts (g : Gd C U cl X W) {elt cond : Ex} {t : Tv} {k : Ik} {its : Exs} {own : List (Str × Nat)} {tg it el : Expr} {ifs : List Expr} {scope : Scope} (hb : blkC C.N X.env.scope scope own = true) (hown : ∀ i ∈ tvIs t, i ∈ own.map (·.2)) (hns : notSet it = true)
    (hc : ∀ X' : Cx, Gd C U cl X' (fun _ _ _ _ => False) → X'.env.scope = relS scope X.env.scope → (ifs = [] ∧ cond.isNop = true) ∨ (∃ i, ifs = [i] ∧ cond.isNop = false ∧ PT X' i (rdT U (fun _ _ _ _ => False) (ev cl cond).2))) :
    ∃ tt : TT, (∀ (s : Shared) (H : Hp) (Cl : Addr) (cl' : List (Str × Addr)) (fp : List Addr), PTs (X.blk s H scope (compEnvC scope cl' Cl X.env) fp) ifs tt) ∧
      ∀ σ H Q, rdE U W (ev cl (.lc elt t k its cond own)).1 σ H Q → tLc (rdI U W (srcRun cl k its)) (gT X.K t) tt (rdE U (fun _ _ _ _ => False) (ev cl elt).1) (own.map (·.2)) σ H Q := by
  have gb : ∀ (s : Shared) (H : Hp) (Cl : Addr) (cl' : List (Str × Addr)) (fp : List Addr), Gd C U cl (X.blk s H scope (compEnvC scope cl' Cl X.env) fp) (fun _ _ _ _ => False) := fun s H Cl cl' fp => g.blk s H scope _ fp
  have okb : BlkOk X.N X.env.scope scope own := by rw [g.hN]; exact blkOk_by hb
  obtain ⟨tt, htt, hrd⟩ : ∃ tt : TT, (∀ (s : Shared) (H : Hp) (Cl : Addr) (cl' : List (Str × Addr)) (fp : List Addr), PTs (X.blk s H scope (compEnvC scope cl' Cl X.env) fp) ifs tt) ∧
      ∀ σ ι s τ H Q, RelS U ι s H → RelF U ι H τ σ → Post U RB (fun _ _ _ _ => False) σ ι H (if cond.isNop = true then .ok true s else ((ev cl cond).2 τ s).calm : R Bool) Q → tt σ H Q := by
    by_cases hn : cond.isNop = true
    · refine ⟨tYes, fun s H Cl cl' fp => ?_, fun σ ι s τ H Q hs hf hp => ?_⟩
      · rcases hc _ (gb s H Cl cl' fp) rfl with ⟨rfl, _⟩ | ⟨i, rfl, h1, _⟩
        · exact pts_nil
        · rw [hn] at h1; cases h1
      · rw [if_pos hn] at hp; exact hp.pb.val hs
    · refine ⟨rdT U (fun _ _ _ _ => False) (ev cl cond).2, fun s H Cl cl' fp => ?_, fun σ ι s τ H Q hs hf hp => ?_⟩
      · rcases hc _ (gb s H Cl cl' fp) rfl with ⟨rfl, h1⟩ | ⟨i, rfl, h1, h2⟩
        · exact absurd h1 hn
        · exact pts_one h2
      · rw [if_neg hn] at hp; exact ⟨ι, s, τ, hs, hf, hp.calm⟩
  refine ⟨tt, htt, fun σ H Q ⟨ι, s, τ, hs, hf, hp⟩ => ?_⟩
  -- the source
  let G : Src → D → S → R (Option D) := fun src d s => match asgV t d (wipeF τ (own.map (·.2))) with
    | none => .bad
    | some τ' => ((if cond.isNop = true then .ok true s else ((ev cl cond).2 τ' s).calm : R Bool)).bind fun c s => if c = true then (((ev cl elt).1 τ' s).calm).bind fun y s => .ok (some y) s else .ok none s
  have hp : Post U (RD U) W σ ι H ((evs cl its τ s).bind fun ds s => match srcOf k ds s with
    | none => .bad
    | some src => if src.items.length < sizeLine then (lcS src.ok (G src) src.items s).bind fun r s => new (.lst r) s else .bad) Q := hp
  have hp2 : Post U (RD U) W σ ι H ((srcRun cl k its τ s).bind fun src s => if src.items.length < sizeLine then (lcS src.ok (G src) src.items s).bind fun r s => new (.lst r) s else .bad) Q := by
    unfold srcRun
    cases q : evs cl its τ s with
    | ok ds s' =>
      rw [q] at hp
      simp only [R.bind_ok] at hp ⊢
      cases q2 : srcOf k ds s' with
      | none => rw [q2] at hp; exact hp
      | some src => rw [q2] at hp; exact hp
    | exc c fs s' => rw [q] at hp; exact hp
    | bad => rw [q] at hp; exact hp
  refine ⟨ι, s, τ, hs, hf, (Post.bindF (rel := fun ι H src J => ItOk U ι H src J) hf hp2).imp fun J H1 ⟨ι1, s1, src, q1, q0, q2, _, q4⟩ => ?_⟩
  split at q4
  case isFalse => exact q4.elim
  rename_i hlen
  intro Dn nD
  -- W i m H: i items are gone, the list at Dn holds acc
  have gN : ∀ H2 : Hp, Go ι1 H1 ι1 (upd H1 Dn (.lst [])) := fun _ => Go.same (same_new nD)
  refine ⟨fun i m H2 => ∃ ι2 s2 acc accV, RelS U ι2 s2 H2 ∧ Go ι1 H1 ι2 H2 ∧ Dn ∉ ι2 ∧ H2 Dn = some (.lst accV) ∧ Reps U.K ι2 H2 acc accV ∧ acc.length ≤ i ∧ i ≤ src.items.length ∧ m = src.items.length - i ∧
      Post U (RD U) W σ ι1 H1 ((lcS src.ok (G src) (src.items.drop i) s2).bind fun r s => new (.lst (acc ++ r)) s) Q, ⟨src.items.length, ι1, s1, [], [], q1.same (same_new nD), Go.same (same_new nD), q1.fresh nD, upd_same, Reps.nil, Nat.le_refl _, Nat.zero_le _, by omega, by rw [List.drop_zero]; exact q4⟩, ?_⟩
  rintro i m H2 ⟨ι2, s2, acc, accV, hs2, go2, nm, hD, ra, hl1, hl2, rfl, post⟩
  cases ed : src.items.drop i with
  | nil =>
    have hi : src.items.length ≤ i := by simpa using ed
    rw [ed] at post
    unfold lcS at post
    split at post
    · rename_i ok
      refine .inl ⟨(q2 ι2 s2 H2 go2 hs2 ok i).2 hi, ?_⟩
      simp only [R.bind_ok, List.append_nil] at post
      have go3 : Go ι1 H1 (ι2 ++ [Dn]) H2 := by
        obtain ⟨l, e, hl⟩ := go2.ext
        refine ⟨⟨l ++ [Dn], by rw [e, List.append_assoc], fun a ha => ?_⟩, go2.keep, go2.tups, go2.there⟩
        rcases List.mem_append.mp ha with ha | ha
        · exact hl a ha
        · have z : a = Dn := by simpa using ha
          rw [z]; exact nD
      have hs3 : RelS U (ι2 ++ [Dn]) (s2 ++ [.lst acc]) H2 := by
        refine ⟨by simp [hs2.len], fun n x e => ?_, fun n m a h1 h2 => ?_⟩
        · by_cases hn : n < s2.length
          · rw [List.getElem?_append_left hn] at e
            obtain ⟨a, h1, h2⟩ := hs2.ob n x e
            exact ⟨a, (Ext.one _ _).at h1, h2.same (Ext.one _ _) (Kept.refl _) (fun u z => z)⟩
          · have hl := (List.getElem?_eq_some_iff.mp e).1
            simp at hl
            have en : n = s2.length := by omega
            subst en
            simp at e
            subst e
            exact ⟨Dn, by rw [← hs2.len]; simp, accV, hD, ra.mono (Ext.one _ _) (Kept.refl _)⟩
        · have key : ∀ (k : Nat), (ι2 ++ [Dn])[k]? = some a → (ι2[k]? = some a ∧ a ≠ Dn) ∨ (k = ι2.length ∧ a = Dn) := by
            intro k e3
            by_cases hk' : k < ι2.length
            · rw [List.getElem?_append_left hk'] at e3
              exact .inl ⟨e3, fun z => nm (z ▸ List.mem_of_getElem? e3)⟩
            · have hl := (List.getElem?_eq_some_iff.mp e3).1
              simp at hl
              have : k = ι2.length := by omega
              refine .inr ⟨this, ?_⟩
              rw [this] at e3
              simp at e3
              exact e3.symm
          rcases key n h1 with ⟨a2, a3⟩ | ⟨a1, a2⟩ <;> rcases key m h2 with ⟨b2, b3⟩ | ⟨b1, b2⟩
          · exact hs2.inj n m a a2 b2
          · exact absurd b2 a3
          · exact absurd a2 b3
          · omega
      refine post (ι2 ++ [Dn]) H2 (.ref Dn) go3 hs3 ?_
      show Rep _ _ _ (.ref s2.length) _
      simp only [Rep]
      exact ⟨Dn, rfl, by rw [← hs2.len]; simp⟩
    · exact post.elim
  | cons d ds =>
    have hi : src.items[i]? = some d := by
      have := List.getElem?_drop (xs := src.items) (i := i) (j := 0)
      rw [ed] at this
      simpa using this.symm
    have hil : i < src.items.length := (List.getElem?_eq_some_iff.mp hi).1
    have ed2 : src.items.drop (i + 1) = ds := by
      have : src.items.drop (i + 1) = (src.items.drop i).drop 1 := by rw [List.drop_drop]
      rw [this, ed]; rfl
    rw [ed] at post
    unfold lcS at post
    split at post
    case isFalse => exact post.elim
    rename_i ok
    obtain ⟨jg, jy⟩ := (q2 ι2 s2 H2 go2 hs2 ok i).1 d hi
    refine .inr ⟨jg, fun H' => ∃ ι2 s2 acc accV, RelS U ι2 s2 H' ∧ Go ι1 H1 ι2 H' ∧ Dn ∉ ι2 ∧ H' Dn = some (.lst accV) ∧ Reps U.K ι2 H' acc accV ∧ acc.length ≤ i + 1 ∧
      Post U (RD U) W σ ι1 H1 ((lcS src.ok (G src) ds s2).bind fun r s => new (.lst (acc ++ r)) s) Q, fun H' ⟨ι2, s2, acc, accV, z1, z2, z3, z4, z5, z6, z7⟩ => ⟨src.items.length - (i + 1), by omega, ι2, s2, acc, accV, z1, z2, z3, z4, z5, z6, hil, rfl, by rw [ed2]; exact z7⟩, fun x H' hy => ?_⟩
    obtain ⟨rfl, rx⟩ := jy x H' hy
    simp only [G] at post
    cases ea : asgV t d (wipeF τ (own.map (·.2))) with
    | none => rw [ea] at post; exact post.elim
    | some τ' =>
      rw [ea] at post
      have hf2 : RelF U ι2 H' (wipeF τ (own.map (·.2))) (wipe σ (own.map (·.2))) := (wipeF_F (q0.mono go2.ex go2.tups) _)
      refine gT_ok g.hK hf2 rx ea fun σ' hf3 hw => ⟨(hw _ hown).trans (wipe_wipe _), ?_⟩
      simp only [R.bind_assoc] at post
      have nx0 : ∀ c fs s', (if cond.isNop = true then R.ok true s2 else ((ev cl cond).2 τ' s2).calm : R Bool) ≠ .exc c fs s' := by
        intro c fs s' z
        split at z
        · cases z
        · cases q : (ev cl cond).2 τ' s2 <;> rw [q] at z <;> cases z
      refine hrd σ' ι2 s2 τ' H' _ hs2 hf3 ((Post.sw nx0 (Post.bindG (rel := RB) go2 post)).imp fun b H3 ⟨ι3, s3, b', r1, r2, r3, r4⟩ => ?_)
      have eb : b = b' := r2
      subst eb
      have hD3 := r3.keep _ _ hD nm
      have nm3 := r3.notin hD nm
      cases b with
      | false =>
        rw [if_neg Bool.false_ne_true]
        rw [if_neg Bool.false_ne_true] at r4
        exact ⟨ι3, s3, acc, accV, r1, go2.trans r3, nm3, hD3, ra.mono r3.ex r3.tups, by omega, by simpa only [R.bind_ok, R.bind_assoc] using r4⟩
      | true =>
        rw [if_pos rfl]
        rw [if_pos rfl] at r4
        simp only [R.bind_assoc] at r4
        refine ⟨ι3, s3, τ', r1, hf3.mono r3.ex r3.tups, ?_⟩
        refine (Post.calm (Post.bindG (rel := RD U) (go2.trans r3) r4)).imp fun y H4 ⟨ι4, s4, y', p1, p2, p3, p4⟩ => ?_
        have hD4 := p3.keep _ _ hD3 nm3
        have nm4 := p3.notin hD3 nm3
        have rl := ra.length
        refine ⟨accV, hD4, by omega, ?_⟩
        obtain ⟨o1, o2⟩ := p1.off (o := .lst (accV ++ [y])) nm4 hD4 (fun z => z)
        refine ⟨ι4, s4, acc ++ [y'], accV ++ [y], o1, ((go2.trans r3).trans p3).off nD o2, nm4, upd_same, ?_, by simp; omega, ?_⟩
        · exact ((ra.mono (r3.trans p3).ex (r3.trans p3).tups).append (Reps.cons p2 Reps.nil)).mono (Ext.refl _) o2
        · simpa only [R.bind_ok, R.bind_assoc, List.append_assoc, List.cons_append, List.nil_append] using p4
theorem s_lc (g : Gd C U cl X W) {elt cond : Ex} {t : Tv} {k : Ik} {its : Exs} {own : List (Str × Nat)} {tg it el : Expr} {ifs : List Expr} {scope : Scope} (hb : blkC C.N X.env.scope scope own = true) (hown : ∀ i ∈ tvIs t, i ∈ own.map (·.2)) (hns : notSet it = true)
    (hi : PI X tg it (rdI U W (srcRun cl k its)))
    (ht : ∀ (s : Shared) (H : Hp) (Cl : Addr) (cl' : List (Str × Addr)) (fp : List Addr), PG (X.blk s H scope (compEnvC scope cl' Cl X.env) fp) tg (gT X.K t))
    (he : ∀ X' : Cx, Gd C U cl X' (fun _ _ _ _ => False) → X'.env.scope = relS scope X.env.scope → PE X' el (rdE U (fun _ _ _ _ => False) (ev cl elt).1))
    (hc : ∀ X' : Cx, Gd C U cl X' (fun _ _ _ _ => False) → X'.env.scope = relS scope X.env.scope → (ifs = [] ∧ cond.isNop = true) ∨ (∃ i, ifs = [i] ∧ cond.isNop = false ∧ PT X' i (rdT U (fun _ _ _ _ => False) (ev cl cond).2))) :
    PE X (.ListComp el [⟨tg, it, ifs, 0⟩] scope pos) (rdE U W (ev cl (.lc elt t k its cond own)).1) ∧
    ∀ {i : Nat} {y : Str} {py spos : Pos}, X.N[i]? = some y → X.env.scope.names.lookup y = some .local → swapsWith (.ListComp el [⟨tg, it, ifs, 0⟩] scope pos) (some (.Name y py)) spos.line X.env = pure true →
      ∃ te, PS X (.Assign [.Name y py] (.ListComp el [⟨tg, it, ifs, 0⟩] scope pos) spos) (tAsg te (gName i)) ∧ ∀ σ H Q, rdE U W (ev cl (.lc elt t k its cond own)).1 σ H Q → te σ H Q := by
  obtain ⟨tt, htt, hrd⟩ := lc_parts (cl := cl) (W := W) (elt := elt) (k := k) (its := its) (tg := tg) (it := it) (el := el) g hb hown hns hc
  have gb : ∀ (s : Shared) (H : Hp) (Cl : Addr) (cl' : List (Str × Addr)) (fp : List Addr), Gd C U cl (X.blk s H scope (compEnvC scope cl' Cl X.env) fp) (fun _ _ _ _ => False) := fun s H Cl cl' fp => g.blk s H scope _ fp
  have okb : BlkOk X.N X.env.scope scope own := by rw [g.hN]; exact blkOk_by hb
  exact ⟨(pe_lc g.calm g.nd hi okb (g := gT X.K t) ht htt (fun s H Cl cl' fp => he _ (gb s H Cl cl' fp) rfl) (fold_ok hns)).imp hrd,
    fun {i y py spos} hy hyl hsw => ⟨_, ps_setLc g.calm g.nd hy hyl hsw hi okb (g := gT X.K t) ht htt (fun s H Cl cl' fp => he _ (gb s H Cl cl' fp) rfl) (fold_ok hns), hrd⟩⟩
end
end G

set_option Elab.async false
set_option linter.all false
set_option maxRecDepth 100000
set_option autoImplicit false
set_option maxHeartbeats 2000000
/-! G7: every checked expression. -/
namespace G
open PySem PySem.Spec PyProof.Rows L2
def isBool : Expr → Bool
  | .BoolOp _ _ _ => true
  | _ => false
def isLc : Expr → Bool
  | .ListComp _ _ _ _ => true
  | _ => false
structure SE (U : Su) (cl : CL) (X : Cx) (W : WX) (x : Ex) (e : Expr) : Prop where
  v : PE X e (rdE U W (ev cl x).1)
  t : PT X e (rdT U W (ev cl x).2)
  w : isBool e = true → PW X e (rdT U W (ev cl x).2)
  l : isLc e = true → ∀ {i : Nat} {y : Str} {py spos : Pos}, X.N[i]? = some y → X.env.scope.names.lookup y = some .local → swapsWith e (some (.Name y py)) spos.line X.env = pure true →
    ∃ te, PS X (.Assign [.Name y py] e spos) (tAsg te (gName i)) ∧ ∀ σ H Q, rdE U W (ev cl x).1 σ H Q → te σ H Q
section
variable {C : Ck} {U : Su} {cl : CL} {X : Cx} {W : WX} {e a b c : Expr} {pos : Pos}
/-- tested by its value -/
theorem SE.plain (g : Gd C U cl X W) {x : Ex} {v : Fr → S → R D} (hx : ev cl x = plainT v) (hv : byVal e = true) (hb : isBool e = false) (hl : isLc e = false) (h : PE X e (rdE U W (ev cl x).1)) : SE U cl X W x e :=
  ⟨h, by rw [hx] at h ⊢; exact pt_plain g.hK hv h, fun z => (by rw [hb] at z; cases z), fun z => (by rw [hl] at z; cases z)⟩
theorem SE.bad {x : Ex} (hx : (ev cl x).2 = fun _ _ => .bad) (hb : isBool e = false) (hl : isLc e = false) (h : PE X e (rdE U W (ev cl x).1)) : SE U cl X W x e :=
  ⟨h, ⟨fun pins s σ H Q I ⟨ι, st, τ, hs, hf, hp⟩ => by rw [hx] at hp; exact hp.elim⟩, fun z => (by rw [hb] at z; cases z), fun z => (by rw [hl] at z; cases z)⟩
/-- a target in a comprehension's block, in a def -/
theorem pg_tv {X : Cx} {sc : Scope} {t : Tv} {tg : Expr} (hN : X.N.Nodup) (hc : X.calm = true) (h : tvOk X.N sc t tg = true) (hf : ∀ n, locB sc n = true → Loc X.env.scope n ∧ (X.fn n = true ∨ X.env.scope.names.lookup n = some .local)) : PG X tg (gT X.K t) := by
  cases t with
  | var i =>
    simp only [tvOk] at h
    split at h
    · simp only [Bool.and_eq_true, decide_eq_true_eq] at h
      exact pg_name hN h.1 (hf _ h.2).1 (hf _ h.2).2
    · cases h
  | tup is =>
    simp only [tvOk] at h
    split at h
    case h_2 => cases h
    rename_i xs j p
    simp only [Bool.and_eq_true, decide_eq_true_eq] at h
    obtain ⟨h1, h2⟩ := h
    have key : ∀ (xs : List Expr) (is : List Nat), is.length = xs.length → (is.zip xs).all (fun p => match p.2 with | .Name n _ => decide (X.N[p.1]? = some n) && locB sc n | _ => false) = true →
        (∃ t, PGs X xs t ∧ ∀ vs σ H Q, vs.length = is.length → Q (setV is vs σ) H → t vs σ H Q) ∧ (assignEach xs X.env).length = xs.length ∧ (assignEach xs X.env).findIdx? (·.1) = none := by
      intro xs
      induction xs with
      | nil =>
        intro is hl _
        cases is with
        | cons _ _ => cases hl
        | nil => exact ⟨⟨_, pgs_nil, fun vs σ H Q hv hq => by
            cases vs with
            | nil => exact ⟨rfl, hq⟩
            | cons _ _ => cases hv⟩, rfl, rfl⟩
      | cons x xs ih =>
        intro is hl ha
        cases is with
        | nil => cases hl
        | cons i is =>
          simp only [List.zip_cons_cons, List.all_cons, Bool.and_eq_true] at ha
          obtain ⟨⟨t, ht, hq⟩, e1, e2⟩ := ih is (by simpa using hl) ha.2
          obtain ⟨n, q, rfl, ha1⟩ : ∃ n q, x = .Name n q ∧ (decide (X.N[i]? = some n) && locB sc n) = true := by
            have z := ha.1
            cases x <;> first | exact ⟨_, _, rfl, z⟩ | cases z
          simp only [Bool.and_eq_true, decide_eq_true_eq] at ha1
          refine ⟨⟨_, pgs_cons (pg_name hN ha1.1 (hf _ ha1.2).1 (hf _ ha1.2).2) ht rfl, fun vs σ H Q hv hq' => ?_⟩, by show (_ :: assignEach xs X.env).length = _; simp [e1], by show ((false, _) :: assignEach xs X.env).findIdx? _ = none; simp [List.findIdx?_cons, e2]⟩
          cases vs with
          | nil => cases hv
          | cons v vs => exact ⟨v, vs, rfl, hq vs _ H Q (by simpa using hv) hq'⟩
    obtain ⟨⟨t, ht, hq⟩, e1, e2⟩ := key xs is h1 h2
    have pg := pg_tup (n := is.length) (k := j) (pos := p) hc ht (by rw [e1, h1]) e2
    refine ⟨fun pins s σ H v u Q I r hw => pg.run pins s σ H v u Q I r ?_⟩
    obtain ⟨a, vs, rfl, q1, q2, q3⟩ := hw
    exact ⟨a, vs, rfl, q1, q2, hq vs σ H Q q2 q3⟩
theorem and_ok {x y : Ex} {p q : Expr} {r : List Expr} (ha : SE U cl X W x p) (hb : match r with | [] => SE U cl X W y q | _ :: _ => SE U cl X W y (.BoolOp .And (q :: r) pos)) : SE U cl X W (.and x y) (.BoolOp .And (p :: q :: r) pos) := by
  cases r with
  | nil =>
    have hw : PW X (.BoolOp .And [p, q] pos) (rdT U W (ev cl (.and x y)).2) := (pw_and ha.t (pw_and1 hb.t)).imp rt_and
    exact ⟨(pe_and ha.v (pe_one hb.v)).imp rd_and, hw.pt, fun _ => hw, fun z => (nomatch z)⟩
  | cons z r =>
    have hw : PW X (.BoolOp .And (p :: q :: z :: r) pos) (rdT U W (ev cl (.and x y)).2) := (pw_and ha.t (hb.w rfl)).imp rt_and
    exact ⟨(pe_and ha.v hb.v).imp rd_and, hw.pt, fun _ => hw, fun z => (nomatch z)⟩
theorem or_ok {x y : Ex} {p q : Expr} {r : List Expr} (ha : SE U cl X W x p) (hb : match r with | [] => SE U cl X W y q | _ :: _ => SE U cl X W y (.BoolOp .Or (q :: r) pos)) : SE U cl X W (.or x y) (.BoolOp .Or (p :: q :: r) pos) := by
  cases r with
  | nil =>
    have hw : PW X (.BoolOp .Or [p, q] pos) (rdT U W (ev cl (.or x y)).2) := (pw_or ha.t (pw_or1 hb.t)).imp rt_or
    exact ⟨(pe_or ha.v (pe_one hb.v)).imp rd_or, hw.pt, fun _ => hw, fun z => (nomatch z)⟩
  | cons z r =>
    have hw : PW X (.BoolOp .Or (p :: q :: z :: r) pos) (rdT U W (ev cl (.or x y)).2) := (pw_or ha.t (hb.w rfl)).imp rt_or
    exact ⟨(pe_or ha.v hb.v).imp rd_or, hw.pt, fun _ => hw, fun z => (nomatch z)⟩
end
theorem blk_loc {scope sc : Scope} {n : Str} (h : locB scope n = true) : (relS scope sc).names.lookup n = scope.names.lookup n := by
  have hl := locB_ok h
  rcases hl with hl | hl
  · rw [hl]; exact lookup_relS_keep (by decide) hl
  · rw [hl]; exact lookup_relS_keep (by decide) hl
mutual
theorem sndE (C : Ck) (U : Su) (cl : CL) : ∀ (x : Ex) (X : Cx) (W : WX) (e : Expr), Gd C U cl X W → okE C x X.env.scope e = true → SE U cl X W x e
  | .nop, X, W, e, g, h => by unfold okE at h; cases h
  | .var i, X, W, e, g, h => by
    unfold okE at h
    split at h
    · exact SE.plain g rfl rfl rfl rfl (s_var g h)
    · cases h
  | .cst c, X, W, e, g, h => by
    unfold okE at h
    split at h
    · exact SE.plain g rfl rfl rfl rfl (s_cst h)
    · cases h
  | .glob i, X, W, e, g, h => by
    unfold okE at h
    split at h
    · exact SE.plain g rfl rfl rfl rfl (s_glob g h)
    · cases h
  | .bin o a b, X, W, e, g, h => by
    unfold okE at h
    split at h
    case h_2 => cases h
    simp only [Bool.and_eq_true, decide_eq_true_eq] at h
    obtain ⟨⟨rfl, h1⟩, h2⟩ := h
    exact SE.plain g rfl rfl rfl rfl (s_bin g (sndE C U cl a X W _ g h1).v (sndE C U cl b X W _ g h2).v)
  | .neg a, X, W, e, g, h => by
    unfold okE at h
    split at h
    case h_2 => cases h
    exact SE.plain g rfl rfl rfl rfl (s_neg (sndE C U cl a X W _ g h).v)
  | .not a, X, W, e, g, h => by
    unfold okE at h
    split at h
    case h_2 => cases h
    have i := sndE C U cl a X W _ g h
    exact ⟨s_not i.v, t_not i.t, fun z => (nomatch z), fun z => (nomatch z)⟩
  | .and a b, X, W, e, g, h => by
    unfold okE at h
    split at h
    case h_2 => cases h
    rename_i p q r pos
    simp only [Bool.and_eq_true] at h
    refine and_ok (sndE C U cl a X W _ g h.1) ?_
    cases r with
    | nil => exact sndE C U cl b X W _ g h.2
    | cons z r => exact sndE C U cl b X W _ g h.2
  | .or a b, X, W, e, g, h => by
    unfold okE at h
    split at h
    case h_2 => cases h
    rename_i p q r pos
    simp only [Bool.and_eq_true] at h
    refine or_ok (sndE C U cl a X W _ g h.1) ?_
    cases r with
    | nil => exact sndE C U cl b X W _ g h.2
    | cons z r => exact sndE C U cl b X W _ g h.2
  | .cmp o a b, X, W, e, g, h => by
    unfold okE at h
    split at h
    case h_2 => cases h
    simp only [Bool.and_eq_true, decide_eq_true_eq, Bool.not_eq_true'] at h
    obtain ⟨⟨⟨rfl, h1⟩, h2⟩, h3⟩ := h
    have i := (sndE C U cl a X W _ g h1).v
    have j := (sndE C U cl b X W _ g h2).v
    exact ⟨s_cmp g i j h3, t_cmp g i j h3, fun z => (nomatch z), fun z => (nomatch z)⟩
  | .cmp2 o o' a b c, X, W, e, g, h => by
    unfold okE at h
    split at h
    case h_2 => cases h
    simp only [Bool.and_eq_true, decide_eq_true_eq, Bool.not_eq_true'] at h
    obtain ⟨⟨⟨⟨⟨rfl, rfl⟩, h1⟩, h2⟩, h3⟩, h4⟩ := h
    have i := (sndE C U cl a X W _ g h1).v
    have j := (sndE C U cl b X W _ g h2).v
    have k := (sndE C U cl c X W _ g h3).v
    exact ⟨s_cmp2 g i j k h4, t_cmp2 g i j k h4, fun z => (nomatch z), fun z => (nomatch z)⟩
  | .ife c a b, X, W, e, g, h => by
    unfold okE at h
    split at h
    case h_2 => cases h
    simp only [Bool.and_eq_true] at h
    exact SE.bad rfl rfl rfl (s_ife (sndE C U cl c X W _ g h.1.1).t (sndE C U cl a X W _ g h.1.2).v (sndE C U cl b X W _ g h.2).v)
  | .tup es, X, W, e, g, h => by
    unfold okE at h
    split at h
    case h_2 => cases h
    simp only [Bool.and_eq_true, decide_eq_true_eq] at h
    exact SE.plain g rfl rfl rfl rfl (s_tup (sndEs C U cl es X W _ g h.1) (by rw [okEs_len h.1]; exact h.2))
  | .lst es, X, W, e, g, h => by
    unfold okE at h
    split at h
    case h_2 => cases h
    simp only [Bool.and_eq_true, decide_eq_true_eq] at h
    exact SE.plain g rfl rfl rfl rfl (s_lst (sndEs C U cl es X W _ g h.1) (by rw [okEs_len h.1]; exact h.2))
  | .ix a i, X, W, e, g, h => by
    unfold okE at h
    split at h
    case h_2 => cases h
    simp only [Bool.and_eq_true] at h
    exact SE.plain g rfl rfl rfl rfl (s_ix g (sndE C U cl a X W _ g h.1.1).v (sndE C U cl i X W _ g h.1.2).v h.2)
  | .sl a lo hi, X, W, e, g, h => by
    unfold okE at h
    split at h
    case h_2 => cases h
    rename_i v l u p2 p
    simp only [Bool.and_eq_true] at h
    obtain ⟨⟨h1, h2⟩, h3⟩ := h
    refine SE.plain g rfl rfl rfl rfl (s_sl g (sndE C U cl a X W _ g h1).v (po_D ?_) (po_D ?_))
    · cases l with
      | none => exact h2
      | some l =>
        simp only [Bool.and_eq_true, Bool.not_eq_true'] at h2
        exact ⟨h2.1, (sndE C U cl lo X W _ g h2.2).v⟩
    · cases u with
      | none => exact h3
      | some l =>
        simp only [Bool.and_eq_true, Bool.not_eq_true'] at h3
        exact ⟨h3.1, (sndE C U cl hi X W _ g h3.2).v⟩
  | .call f es, X, W, e, g, h => by
    unfold okE at h
    split at h
    case h_2 => cases h
    simp only [Bool.and_eq_true, decide_eq_true_eq] at h
    exact SE.plain g rfl rfl rfl rfl (s_call g h.1.1.1 h.1.1.2 h.1.2 h.2 (sndEs C U cl es X W _ g h.2))
  | .blt b es, X, W, e, g, h => by
    unfold okE at h
    split at h
    case h_2 => cases h
    simp only [Bool.and_eq_true, decide_eq_true_eq] at h
    obtain ⟨⟨⟨rfl, h1⟩, h2⟩, h3⟩ := h
    exact SE.plain g rfl rfl rfl rfl (s_blt g h1 h3 (sndEs C U cl es X W _ g h3))
  | .meth m o es, X, W, e, g, h => by
    unfold okE at h
    split at h
    case h_2 => cases h
    simp only [Bool.and_eq_true, decide_eq_true_eq] at h
    obtain ⟨⟨⟨⟨⟨rfl, h1⟩, h2⟩, h3⟩, h4⟩, h5⟩ := h
    exact SE.plain g rfl rfl rfl rfl (s_meth g h3 h4 h5 h2 (sndE C U cl o X W _ g h1).v (sndEs C U cl es X W _ g h2))
  | .isi a t, X, W, e, g, h => by
    unfold okE at h
    split at h
    case h_2 => cases h
    simp only [Bool.and_eq_true, decide_eq_true_eq] at h
    obtain ⟨⟨⟨⟨⟨⟨⟨rfl, h1⟩, h2⟩, rfl⟩, h3⟩, h4⟩, h5⟩, h6⟩ := h
    exact SE.plain g rfl rfl rfl rfl (s_isi g h1 h3 h6 (sndE C U cl a X W _ g h5).v)
  | .lc elt t k its cond own, X, W, e, g, h => by
    unfold okE at h
    split at h
    case h_2 => cases h
    rename_i el tg it ifs asy scope pos
    simp only [Bool.and_eq_true, decide_eq_true_eq] at h
    obtain ⟨⟨⟨⟨⟨⟨⟨rfl, h1⟩, h2⟩, h3⟩, h4⟩, h5⟩, h6⟩, h7⟩ := h
    have hown : ∀ i ∈ tvIs t, i ∈ own.map (·.2) := fun i hi => by
      have := (List.all_eq_true.mp h3) i hi
      simpa using this
    have z := s_lc (W := W) (elt := elt) (cond := cond) (k := k) (its := its) (tg := tg) (it := it) (el := el) (ifs := ifs) (pos := pos) g h1 hown h4 ?_ (fun s H Cl cl' fp => ?_) (fun X' g' e' => ?_) (fun X' g' e' => ?_)
    · exact ⟨z.1, pt_plain g.hK rfl z.1, fun z => (nomatch z), fun _ => z.2⟩
    · cases k with
      | seq =>
        simp only [] at h7
        split at h7
        · exact i_seq g (sndE C U cl _ X W _ g h7).v
        · cases h7
      | rng1 =>
        simp only [] at h7
        split at h7
        · simp only [Bool.and_eq_true, decide_eq_true_eq] at h7
          obtain ⟨⟨rfl, h8⟩, h9⟩ := h7
          exact i_rng1 g h8 h9 (sndEs C U cl its X W _ g h9)
        · cases h7
      | rng2 =>
        simp only [] at h7
        split at h7
        · simp only [Bool.and_eq_true, decide_eq_true_eq] at h7
          obtain ⟨⟨rfl, h8⟩, h9⟩ := h7
          exact i_rng2 g h8 h9 (sndEs C U cl its X W _ g h9)
        · cases h7
    · refine pg_tv (X := X.blk s H scope (compEnvC scope cl' Cl X.env) fp) (sc := scope) g.nd g.calm (by rw [← g.hN] at h2; exact h2) fun n hn => ?_
      have e := blk_loc (sc := X.env.scope) hn
      have e : (compEnvC scope cl' Cl X.env).scope.names.lookup n = scope.names.lookup n := e
      rcases locB_ok hn with hl | hl
      · exact ⟨.inl (e.trans hl), .inr (e.trans hl)⟩
      · refine ⟨.inr (e.trans hl), .inl ?_⟩
        show (scope.names.lookup n == some .cell) = true
        rw [hl]; rfl
    · exact (sndE C U cl elt X' _ _ g' (by rw [e']; exact h5)).v
    · cases ifs with
      | nil => exact .inl ⟨rfl, h6⟩
      | cons i ifs =>
        cases ifs with
        | cons _ _ => cases h6
        | nil =>
          simp only [Bool.and_eq_true, Bool.not_eq_true'] at h6
          exact .inr ⟨i, rfl, h6.1, (sndE C U cl cond X' _ _ g' (by rw [e']; exact h6.2)).t⟩
theorem sndEs (C : Ck) (U : Su) (cl : CL) : ∀ (es : Exs) (X : Cx) (W : WX) (xs : List Expr), Gd C U cl X W → okEs C es X.env.scope xs = true → PA X xs (rdA U W (evs cl es))
  | .nil, X, W, xs, g, h => by
    unfold okEs at h
    cases xs with
    | cons _ _ => cases h
    | nil => exact pa_nil.imp fun σ H Q ⟨ι, s, τ, hs, hf, hp⟩ => hp ι H [] (Go.refl _ _) hs Reps.nil
  | .cons e es, X, W, xs, g, h => by
    unfold okEs at h
    split at h
    case h_2 => cases h
    rename_i y ys
    simp only [Bool.and_eq_true] at h
    refine (pa_cons (sndE C U cl e X W _ g h.1.2).v (sndEs C U cl es X W _ g h.2) (star_cons h.1.1)).imp fun σ H Q ⟨ι, s, τ, hs, hf, hp⟩ => ?_
    refine ⟨ι, s, τ, hs, hf, (Post.bindF (rel := RD U) hf hp).imp fun v H1 ⟨ι, s, d, q1, q0, q2, _, q4⟩ => ?_⟩
    refine ⟨ι, s, τ, q1, q0, (Post.bindF (rel := RDs U) q0 q4).imp fun vs H2 ⟨ι, s, ds, r1, r0, r2, r3, r4⟩ => ?_⟩
    exact r4 ι H2 (v :: vs) (Go.refl _ _) r1 (Reps.cons (q2.mono r3.ex r3.tups) r2)
end
end G

set_option Elab.async false
set_option linter.all false
set_option maxRecDepth 100000
set_option autoImplicit false
set_option maxHeartbeats 2000000
/-! G8: statements and defs. -/
namespace G
open PySem PySem.Spec PyProof.Rows L2
def rdS (U : Su) (W : WX) (m : Fr → S → SR) : TS := fun D σ H => ∃ ι s τ, RelS U ι s H ∧ RelF U ι H τ σ ∧ PostS U W D ι H (m τ s)
theorem _root_.L2.PS.imp {X : Cx} {e : Stmt} {t t' : TS} (h : PS X e t) (i : ∀ D σ H, t' D σ H → t D σ H) : PS X e t' := ⟨fun pins s σ H Q I q => h.run pins s σ H Q I (i _ _ _ q)⟩
theorem _root_.L2.PSs.imp {X : Cx} {e : List Stmt} {t t' : TS} (h : PSs X e t) (i : ∀ D σ H, t' D σ H → t D σ H) : PSs X e t' := ⟨fun pins s σ H Q I q => h.run pins s σ H Q I (i _ _ _ q)⟩
section
variable {U : Su} {W : WX} {σ : L2.St} {ι ι' : List Addr} {H H' : Hp} {E E' : Ends}
theorem PostS.imp {r : SR} (h : PostS U W E ι H r) (h1 : ∀ σ H, E.nx σ H → E'.nx σ H) (h2 : ∀ v H, E.rt v H → E'.rt v H) (h3 : ∀ σ H, E.bk σ H → E'.bk σ H) (h4 : ∀ σ H, E.ct σ H → E'.ct σ H) : PostS U W E' ι H r := by
  cases r with
  | bad => exact h
  | exc τ c fs s => exact h
  | nx τ s => exact fun a b c d e f => h1 _ _ (h a b c d e f)
  | rt τ s => exact fun a b c d e f => h2 _ _ (h a b c d e f)
  | bk τ s => exact fun a b c d e f => h3 _ _ (h a b c d e f)
  | ct τ s => exact fun a b c d e f => h4 _ _ (h a b c d e f)
theorem PostS.nx {τ : Fr} {s : S} (h : PostS U W E ι H (.nx τ s)) (hs : RelS U ι s H) (hf : RelF U ι H τ σ) : E.nx σ H := h ι H σ (Go.refl _ _) hs hf
/-- a loop's body -/
theorem PostS.turn {N : L2.St → Hp → Prop} {r : SR} {f : Fr → S → SR} (h : PostS U W E ι H (match r with | .nx τ s => f τ s | .ct τ s => f τ s | .bk τ s => .nx τ s | .rt d s => .rt d s | .exc τ c fs s => .exc τ c fs s | .bad => .bad))
    (hN : ∀ ι' s' τ' σ' H', Go ι H ι' H' → RelS U ι' s' H' → RelF U ι' H' τ' σ' → PostS U W E ι' H' (f τ' s') → N σ' H') : PostS U W { nx := N, rt := E.rt, bk := E.nx, ct := N } ι H r := by
  cases r with
  | bad => exact h
  | exc τ c fs s => exact h
  | nx τ s => exact fun a b c d e g => hN a s τ c b d e g (PostS.mono d h)
  | rt τ s => exact h
  | bk τ s => exact h
  | ct τ s => exact fun a b c d e g => hN a s τ c b d e g (PostS.mono d h)
end

/-! ### the check -/
def notTup : Expr → Bool
  | .Tuple _ _ _ => false
  | .List _ _ => false
  | _ => true
def notComp : Expr → Bool
  | .ListComp _ _ _ _ => false
  | .SetComp _ _ _ _ => false
  | .DictComp _ _ _ _ _ => false
  | _ => true
/-- name = value: is the value's comprehension stored by the block itself, or not at all -/
def swapB (sc : Scope) (n : Str) (p : Pos) : Expr → Bool
  | .ListComp _ _ scope pos => (match sc.names.lookup n with | some .local => true | _ => false) && (p.line == pos.line) && !(scope.names.any fun (m, k) => m == n && (k == .local || k == .cell))
  | _ => false
mutual
def okC (C : Ck) : Cm → Scope → Stmt → Bool
  | .asg t e, sc, x => (match x with
    | .Assign [tg] v _ => okE C e sc v && (match t, tg with
      | .loc (.var i), .Name n p => decide (C.N[i]? = some n) && locB sc n && (notComp v || (match v with | .ListComp _ _ _ _ => true | _ => false))
      | .loc (.tup is), .Tuple ts j p => tvOk C.N sc (.tup is) (.Tuple ts j p) && notTup v && notComp v
      | .sub o i, .Subscript b k _ => okE C o sc b && okE C i sc k && notSlice k && notTup v && notComp v
      | _, _ => false)
    | _ => false)
  | .ite c a b, sc, x => (match x with
    | .If t p q _ => okE C c sc t && okCs C a sc p && okCs C b sc q
    | _ => false)
  | .for_ t k its body, sc, x => (match x with
    | .For tg it bd [] _ => tvOk C.N sc t tg && okIt C k its sc it && notSet it && okCs C body sc bd
    | _ => false)
  | .whl c body, sc, x => (match x with
    | .While t bd [] _ => okE C c sc t && okCs C body sc bd
    | _ => false)
  | .ret e, sc, x => (match x with
    | .Return (some v) _ => okE C e sc v
    | _ => false)
  | .retn, _, x => (match x with
    | .Return none _ => true
    | _ => false)
  | .expr e, sc, x => (match x with
    | .Expr v _ => okE C e sc v && notComp v
    | _ => false)
  | .pass, _, x => (match x with
    | .Pass _ => true
    | _ => false)
  | .brk, _, x => (match x with
    | .Break _ => true
    | _ => false)
  | .cont, _, x => (match x with
    | .Continue _ => true
    | _ => false)
def okCs (C : Ck) : Cms → Scope → List Stmt → Bool
  | .nil, _, xs => xs.isEmpty
  | .cons c cs, sc, xs => (match xs with
    | x :: xs => okC C c sc x && okCs C cs sc xs
    | [] => false)
end
theorem noSwap {v : Expr} {t : Option Expr} {l : Nat} {env : Env} (h : notComp v = true) : swapsWith v t l env = pure false := by
  cases v <;> first | rfl | cases h
theorem noStores {tg v : Expr} {env : Env} (h : notTup v = true) : swappedStores [tg] v env = pure none := by
  cases tg <;> cases v <;> first | rfl | cases h

/-- within a def: names may be stored -/
structure Gs (C : Ck) (U : Su) (cl : CL) (X : Cx) (W : WX) : Prop extends Gd C U cl X W where
  fn : ∀ n, X.fn n = true
  kind : X.env.scope.kind = .function
section
variable {C : Ck} {U : Su} {cl : CL} {X : Cx} {W : WX}
theorem c_asg1 (g : Gs C U cl X W) {i : Nat} {e : Ex} {n : Str} {v : Expr} {p pos : Pos} (hi : C.N[i]? = some n) (hl : locB X.env.scope n = true) (hv : (notComp v || (match v with | .ListComp _ _ _ _ => true | _ => false)) = true) (h : SE U cl X W e v) :
    PS X (.Assign [.Name n p] v pos) (rdS U W (ex cl (.asg (.loc (.var i)) e))) := by
  have hi' : X.N[i]? = some n := by rw [g.hN]; exact hi
  have fin : ∀ te : TE, (∀ σ H Q, rdE U W (ev cl e).1 σ H Q → te σ H Q) → ∀ D σ H, rdS U W (ex cl (.asg (.loc (.var i)) e)) D σ H → tAsg te (gName i) D σ H := by
    rintro te hte D σ H ⟨ι, s, τ, hs, hf, hp⟩
    refine hte _ _ _ ⟨ι, s, τ, hs, hf, (PostS.toS (rel := RD U) hf hp).imp fun x H1 ⟨ι1, s1, d, q1, q2, q3, _, q4⟩ => ?_⟩
    exact PostS.nx (τ := τ.set i (some d)) (s := s1) q4 q1 (q3.set q2)
  by_cases hc : notComp v = true
  · exact (ps_set g.nd hi' (locB_ok hl) h.v (noSwap hc) (.inl (g.fn n))).imp (fin _ fun _ _ _ z => z)
  · cases v <;> first
      | (exact absurd rfl hc)
      | (rename_i el gs scope q
         by_cases hw : X.env.scope.names.lookup n = some .local ∧ (p.line == q.line) = true ∧ (scope.names.any fun (m, k) => m == n && (k == .local || k == .cell)) = false
         · obtain ⟨te, h1, h2⟩ := h.l rfl (py := p) (spos := pos) hi' hw.1 (sw_true g.kind hw.1 hw.2.1 hw.2.2)
           exact h1.imp (fin _ h2)
         · refine (ps_set g.nd hi' (locB_ok hl) h.v ?_ (.inl (g.fn n))).imp (fin _ fun _ _ _ z => z)
           have hb : X.env.blockKind = .function := by unfold Env.blockKind; rw [g.kind]; rfl
           have : (X.env.blockKind == .function && X.env.kindOf n == some .local && p.line == q.line && !(scope.names.any fun (m, k) => m == n && (k == .local || k == .cell))) = false := by
             rw [Bool.eq_false_iff]
             intro z
             simp only [Bool.and_eq_true, Bool.not_eq_true'] at z
             exact hw ⟨beq_iff_eq.mp z.1.1.2, z.1.2, z.2⟩
           show (pure _ : Sem Bool) = pure false
           exact congrArg pure this)
      | cases hv
theorem c_asgT (g : Gs C U cl X W) {is : List Nat} {e : Ex} {tg v : Expr} {pos : Pos} (ht : tvOk C.N X.env.scope (.tup is) tg = true) (h1 : notTup v = true) (h2 : notComp v = true) (hst : ∃ ts j p, tg = .Tuple ts j p) (h : SE U cl X W e v) :
    PS X (.Assign [tg] v pos) (rdS U W (ex cl (.asg (.loc (.tup is)) e))) := by
  have pg : PG X tg (gT X.K (.tup is)) := pg_tv (sc := X.env.scope) g.nd g.calm (by rw [g.hN]; exact ht) fun n hn => ⟨locB_ok hn, .inl (g.fn n)⟩
  refine (ps_asg h.v pg (by show swapsWith _ _ _ _ = _; exact noSwap h2) (noStores h1) (by obtain ⟨ts, j, p, rfl⟩ := hst; rfl)).imp fun D σ H ⟨ι, s, τ, hs, hf, hp⟩ => ?_
  refine ⟨ι, s, τ, hs, hf, (PostS.toS (rel := RD U) hf hp).imp fun x H1 ⟨ι1, s1, d, q1, q2, q3, _, q4⟩ => ?_⟩
  simp only [store] at q4
  split at q4
  · rename_i τ' ea
    exact gT_ok g.hK q3 q2 ea fun σ' hf' _ => q4.nx q1 hf'
  · exact q4.elim
theorem c_sub (g : Gs C U cl X W) {o i e : Ex} {b k v : Expr} {p pos : Pos} (hn : notSlice k = true) (h1 : notTup v = true) (h2 : notComp v = true) (ho : SE U cl X W o b) (hi : SE U cl X W i k) (h : SE U cl X W e v) :
    PS X (.Assign [.Subscript b k p] v pos) (rdS U W (ex cl (.asg (.sub o i) e))) := by
  have pg : PG X (.Subscript b k p) _ := pg_sub ho.v hi.v (set_D (U := U)) (by intro w; cases k <;> first | rfl | cases hn)
  refine (ps_asg h.v pg (by unfold swapsWithSole; exact noSwap h2) (noStores h1) rfl).imp fun D σ H ⟨ι, s, τ, hs, hf, hp⟩ => ?_
  refine ⟨ι, s, τ, hs, hf, (PostS.toS (rel := RD U) hf hp).imp fun x H1 ⟨ι1, s1, d, q1, q2, q3, _, q4⟩ => ?_⟩
  simp only [store] at q4
  refine ⟨ι1, s1, τ, q1, q3, (PostS.toS (rel := RD U) q3 q4).imp fun xo H2 ⟨ι2, s2, d2, r1, r2, r3, r4, r5⟩ => ?_⟩
  refine ⟨ι2, s2, τ, r1, r3, (PostS.toS (rel := RD U) r3 r5).imp fun xi H3 ⟨ι3, s3, d3, p1, p2, p3, p4, p5⟩ => ?_⟩
  split at p5
  · rename_i s' e3
    exact ⟨ι3, s3, d2, d3, d, s', p1, r2.mono p4.ex p4.tups, p2, q2.mono (r4.trans p4).ex (r4.trans p4).tups, e3, fun H' go hs' => p5 ι3 H' σ go hs' (p3.mono go.ex go.tups)⟩
  · exact p5.elim
theorem c_ite {c : Ex} {a b : Cms} {t : Expr} {p q : List Stmt} {pos : Pos} (hc : SE U cl X W c t) (ha : PSs X p (rdS U W (exs cl a))) (hb : PSs X q (rdS U W (exs cl b))) : PS X (.If t p q pos) (rdS U W (ex cl (.ite c a b))) := by
  refine PS.imp (ps_if hc.t ha hb) fun D σ H ⟨ι, s, τ, hs, hf, hp⟩ => ?_
  refine ⟨ι, s, τ, hs, hf, (PostS.toS (rel := RB) hf hp).imp fun x H1 ⟨ι1, s1, d, q1, q2, q3, _, q4⟩ => ?_⟩
  rw [show x = d from q2]
  cases d with
  | true => rw [if_pos rfl] at q4 ⊢; exact ⟨ι1, s1, τ, q1, q3, q4⟩
  | false => rw [if_neg Bool.false_ne_true] at q4 ⊢; exact ⟨ι1, s1, τ, q1, q3, q4⟩
theorem c_for (g : Gs C U cl X W) {t : Tv} {k : Ik} {its : Exs} {body : Cms} {tg it : Expr} {bd : List Stmt} {pos : Pos} (ht : tvOk C.N X.env.scope t tg = true) (hn : notSet it = true) (hi : PI X tg it (rdI U W (srcRun cl k its))) (hb : PSs X bd (rdS U W (exs cl body))) :
    PS X (.For tg it bd [] pos) (rdS U W (ex cl (.for_ t k its body))) := by
  have pg : PG X tg (gT X.K t) := pg_tv (sc := X.env.scope) g.nd g.calm (by rw [g.hN]; exact ht) fun n hn => ⟨locB_ok hn, .inl (g.fn n)⟩
  refine PS.imp (ps_for g.po g.calm hi pg hb (fold_ok hn)) fun En σ H ⟨ι, s, τ, hs, hf, hp⟩ => ?_
  let B : D → Fr → S → SR := fun d τ s => match asgV t d τ with
    | none => .bad
    | some τ' => exs cl body τ' s
  have hp : PostS U W En ι H ((evs cl its τ s).toS τ fun ds s => match srcOf k ds s with
    | none => .bad
    | some src => forS src.ok B src.items τ s) := hp
  have hp2 : PostS U W En ι H ((srcRun cl k its τ s).toS τ fun src s => forS src.ok B src.items τ s) := by
    unfold srcRun
    cases q : evs cl its τ s with
    | ok ds s' =>
      rw [q] at hp
      simp only [R.toS_ok, R.bind_ok] at hp ⊢
      cases q2 : srcOf k ds s' with
      | none => rw [q2] at hp; exact hp
      | some src => rw [q2] at hp; exact hp
    | exc c fs s' => rw [q] at hp; exact hp
    | bad => rw [q] at hp; exact hp
  refine ⟨ι, s, τ, hs, hf, (PostS.toS (rel := fun ι H src J => ItOk U ι H src J) hf hp2).imp fun J H1 ⟨ι1, s1, src, q1, q2, q0, _, q4⟩ => ?_⟩
  refine ⟨fun i m σ2 H2 => ∃ ι2 s2 τ2, RelS U ι2 s2 H2 ∧ RelF U ι2 H2 τ2 σ2 ∧ Go ι1 H1 ι2 H2 ∧ i ≤ src.items.length ∧ m = src.items.length - i ∧ PostS U W En ι2 H2 (forS src.ok B (src.items.drop i) τ2 s2),
    ⟨src.items.length, ι1, s1, τ, q1, q0, Go.refl _ _, Nat.zero_le _, by omega, by rw [List.drop_zero]; exact q4⟩, ?_⟩
  rintro i m σ2 H2 ⟨ι2, s2, τ2, hs2, hf2, go2, hl2, rfl, post⟩
  cases ed : src.items.drop i with
  | nil =>
    have hi : src.items.length ≤ i := by simpa using ed
    rw [ed] at post
    unfold forS at post
    split at post
    · rename_i ok
      exact .inl ⟨(q2 ι2 s2 H2 go2 hs2 ok i).2 hi, post.nx hs2 hf2⟩
    · exact post.elim
  | cons d ds =>
    have hi : src.items[i]? = some d := by
      have := List.getElem?_drop (xs := src.items) (i := i) (j := 0)
      rw [ed] at this
      simpa using this.symm
    have hil : i < src.items.length := (List.getElem?_eq_some_iff.mp hi).1
    have ed2 : src.items.drop (i + 1) = ds := by
      have : src.items.drop (i + 1) = (src.items.drop i).drop 1 := by rw [List.drop_drop]
      rw [this, ed]; rfl
    rw [ed] at post
    unfold forS at post
    split at post
    case isFalse => exact post.elim
    rename_i ok
    obtain ⟨jg, jy⟩ := (q2 ι2 s2 H2 go2 hs2 ok i).1 d hi
    refine .inr ⟨jg, fun σ' H' => ∃ ι2 s2 τ2, RelS U ι2 s2 H' ∧ RelF U ι2 H' τ2 σ' ∧ Go ι1 H1 ι2 H' ∧ PostS U W En ι2 H' (forS src.ok B ds τ2 s2),
      fun σ' H' ⟨ι2, s2, τ2, z1, z2, z3, z4⟩ => ⟨src.items.length - (i + 1), by omega, ι2, s2, τ2, z1, z2, z3, hil, rfl, by rw [ed2]; exact z4⟩, fun x H' hy => ?_⟩
    obtain ⟨rfl, rx⟩ := jy x H' hy
    simp only [B] at post
    cases ea : asgV t d τ2 with
    | none => rw [ea] at post; exact post.elim
    | some τ' =>
      rw [ea] at post
      refine gT_ok g.hK hf2 rx ea fun σ' hf3 _ => ⟨ι2, s2, τ', hs2, hf3, ?_⟩
      exact PostS.turn post fun ι' s' τ' σ' H' go hs' hf' pp => ⟨ι', s', τ', hs', hf', go2.trans go, pp⟩
theorem c_whl (g : Gs C U cl X W) {c : Ex} {body : Cms} {t : Expr} {bd : List Stmt} {pos : Pos} (hc : SE U cl X W c t) (hb : PSs X bd (rdS U W (exs cl body))) : PS X (.While t bd [] pos) (rdS U W (ex cl (.whl c body))) := by
  refine PS.imp (ps_while g.po hc.t hb) fun D σ H ⟨ι, s, τ, hs, hf, hp⟩ => ?_
  refine ⟨fun m σ2 H2 => ∃ ι2 s2 τ2, RelS U ι2 s2 H2 ∧ RelF U ι2 H2 τ2 σ2 ∧ PostS U W D ι2 H2 (whS (evT cl c) (exs cl body) m τ2 s2), ⟨whTop, ι, s, τ, hs, hf, hp⟩, ?_⟩
  rintro m σ2 H2 ⟨ι2, s2, τ2, hs2, hf2, post⟩
  cases m with
  | zero => exact post.elim
  | succ m =>
    unfold whS at post
    refine ⟨ι2, s2, τ2, hs2, hf2, (PostS.toS (rel := RB) hf2 post).imp fun x H1 ⟨ι1, s1, d, q1, q2, q3, _, q4⟩ => ?_⟩
    rw [show x = d from q2]
    cases d with
    | true =>
      rw [if_pos rfl] at q4 ⊢
      refine ⟨fun σ' H' => ∃ ι2 s2 τ2, RelS U ι2 s2 H' ∧ RelF U ι2 H' τ2 σ' ∧ PostS U W D ι2 H' (whS (evT cl c) (exs cl body) m τ2 s2), fun σ' H' z => ⟨m, Nat.lt_succ_self m, z⟩, ι1, s1, τ2, q1, q3, ?_⟩
      exact PostS.turn q4 fun ι' s' τ' σ' H' go hs' hf' pp => ⟨ι', s', τ', hs', hf', pp⟩
    | false =>
      rw [if_neg Bool.false_ne_true] at q4 ⊢
      exact q4.nx q1 q3
end
mutual
theorem sndC (C : Ck) (U : Su) (cl : CL) : ∀ (c : Cm) (X : Cx) (W : WX) (x : Stmt), Gs C U cl X W → okC C c X.env.scope x = true → PS X x (rdS U W (ex cl c))
  | .asg t e, X, W, x, g, h => by
    unfold okC at h
    split at h
    case h_2 => cases h
    simp only [Bool.and_eq_true] at h
    obtain ⟨h1, h2⟩ := h
    have i := sndE C U cl e X W _ g.toGd h1
    split at h2
    · simp only [Bool.and_eq_true, decide_eq_true_eq] at h2
      exact c_asg1 g h2.1.1 h2.1.2 h2.2 i
    · simp only [Bool.and_eq_true] at h2
      exact c_asgT g h2.1.1 h2.1.2 h2.2 ⟨_, _, _, rfl⟩ i
    · simp only [Bool.and_eq_true] at h2
      exact c_sub g h2.1.1.2 h2.1.2 h2.2 (sndE C U cl _ X W _ g.toGd h2.1.1.1.1) (sndE C U cl _ X W _ g.toGd h2.1.1.1.2) i
    · cases h2
  | .ite c a b, X, W, x, g, h => by
    unfold okC at h
    split at h
    case h_2 => cases h
    simp only [Bool.and_eq_true] at h
    exact c_ite (sndE C U cl c X W _ g.toGd h.1.1) (sndCs C U cl a X W _ g h.1.2) (sndCs C U cl b X W _ g h.2)
  | .for_ t k its body, X, W, x, g, h => by
    unfold okC at h
    split at h
    case h_2 => cases h
    simp only [Bool.and_eq_true] at h
    obtain ⟨⟨⟨h1, h7⟩, h3⟩, h4⟩ := h
    refine c_for g h1 h3 ?_ (sndCs C U cl body X W _ g h4)
    unfold okIt at h7
    cases k with
    | seq =>
      simp only [] at h7
      split at h7
      · exact i_seq g.toGd (sndE C U cl _ X W _ g.toGd h7).v
      · cases h7
    | rng1 =>
      simp only [] at h7
      split at h7
      · simp only [Bool.and_eq_true, decide_eq_true_eq] at h7
        obtain ⟨⟨rfl, h8⟩, h9⟩ := h7
        exact i_rng1 g.toGd h8 h9 (sndEs C U cl its X W _ g.toGd h9)
      · cases h7
    | rng2 =>
      simp only [] at h7
      split at h7
      · simp only [Bool.and_eq_true, decide_eq_true_eq] at h7
        obtain ⟨⟨rfl, h8⟩, h9⟩ := h7
        exact i_rng2 g.toGd h8 h9 (sndEs C U cl its X W _ g.toGd h9)
      · cases h7
  | .whl c body, X, W, x, g, h => by
    unfold okC at h
    split at h
    case h_2 => cases h
    simp only [Bool.and_eq_true] at h
    exact c_whl g (sndE C U cl c X W _ g.toGd h.1) (sndCs C U cl body X W _ g h.2)
  | .ret e, X, W, x, g, h => by
    unfold okC at h
    split at h
    case h_2 => cases h
    refine PS.imp (ps_ret (sndE C U cl e X W _ g.toGd h).v) fun D σ H ⟨ι, s, τ, hs, hf, hp⟩ => ?_
    exact ⟨ι, s, τ, hs, hf, (PostS.toS (rel := RD U) hf hp).imp fun v H1 ⟨ι1, s1, d, q1, q2, q3, _, q4⟩ => q4 ι1 H1 v (Go.refl _ _) q1 q2⟩
  | .retn, X, W, x, g, h => by
    unfold okC at h
    split at h
    case h_2 => cases h
    exact PS.imp ps_retN fun D σ H ⟨ι, s, τ, hs, hf, hp⟩ => hp ι H .non (Go.refl _ _) hs rep_non
  | .expr e, X, W, x, g, h => by
    unfold okC at h
    split at h
    case h_2 => cases h
    simp only [Bool.and_eq_true] at h
    refine PS.imp (ps_expr (sndE C U cl e X W _ g.toGd h.1).v (noSwap h.2)) fun D σ H ⟨ι, s, τ, hs, hf, hp⟩ => ?_
    exact ⟨ι, s, τ, hs, hf, (PostS.toS (rel := RD U) hf hp).imp fun v H1 ⟨ι1, s1, d, q1, q2, q3, _, q4⟩ => q4.nx q1 q3⟩
  | .pass, X, W, x, g, h => by
    unfold okC at h
    split at h
    case h_2 => cases h
    exact PS.imp ps_pass fun D σ H ⟨ι, s, τ, hs, hf, hp⟩ => hp ι H σ (Go.refl _ _) hs hf
  | .brk, X, W, x, g, h => by
    unfold okC at h
    split at h
    case h_2 => cases h
    exact PS.imp ps_break fun D σ H ⟨ι, s, τ, hs, hf, hp⟩ => hp ι H σ (Go.refl _ _) hs hf
  | .cont, X, W, x, g, h => by
    unfold okC at h
    split at h
    case h_2 => cases h
    exact PS.imp ps_continue fun D σ H ⟨ι, s, τ, hs, hf, hp⟩ => hp ι H σ (Go.refl _ _) hs hf
theorem sndCs (C : Ck) (U : Su) (cl : CL) : ∀ (cs : Cms) (X : Cx) (W : WX) (xs : List Stmt), Gs C U cl X W → okCs C cs X.env.scope xs = true → PSs X xs (rdS U W (exs cl cs))
  | .nil, X, W, xs, g, h => by
    unfold okCs at h
    cases xs with
    | cons _ _ => cases h
    | nil => exact PSs.imp pss_nil fun D σ H ⟨ι, s, τ, hs, hf, hp⟩ => hp ι H σ (Go.refl _ _) hs hf
  | .cons c cs, X, W, xs, g, h => by
    unfold okCs at h
    split at h
    case h_2 => cases h
    simp only [Bool.and_eq_true] at h
    refine PSs.imp (pss_cons (sndC C U cl c X W _ g h.1) (sndCs C U cl cs X W _ g h.2)) fun D σ H ⟨ι, s, τ, hs, hf, hp⟩ => ?_
    refine ⟨ι, s, τ, hs, hf, PostS.imp (PostS.bind hp) (fun σ' H' ⟨ι1, s1, τ1, h1, h2, _, h4⟩ => ⟨ι1, s1, τ1, h1, h2, h4⟩) (fun _ _ z => z) (fun _ _ z => z) (fun _ _ z => z)⟩
end

/-! ### defs -/
/-- a def of the text and its plain body -/
structure Df where
  name : Str
  qual : Str
  N : List Str
  ps : List Str
  st : Stmt
  fn : Fn
def scB (N ps : List Str) (sc : Scope) : Bool :=
  (match sc.kind with | .function => true | _ => false) && !sc.isCoroutine && !sc.isGenerator && decide N.Nodup && decide (N.take ps.length = ps) && ps.all (locB sc) && sc.names.all fun y => (match y.2 with | .free => false | _ => true)
theorem scB_ok {N ps : List Str} {sc : Scope} (h : scB N ps sc = true) : FnScope N ps sc := by
  unfold scB at h
  simp only [Bool.and_eq_true, Bool.not_eq_true', decide_eq_true_eq, List.all_eq_true] at h
  obtain ⟨⟨⟨⟨⟨⟨h1, h2⟩, h3⟩, h4⟩, h5⟩, h6⟩, h7⟩ := h
  refine ⟨?_, h2, h3, h4, h5, fun x hx => ?_, fun y hy => ?_⟩
  · split at h1
    · assumption
    · cases h1
  · exact locB_ok (h6 x hx)
  · have := h7 y hy
    intro z
    rw [z] at this
    cases this
/-- the def d is checked, the names of defs and constants being fns, gns -/
def okD (fns gns : List Str) (d : Df) : Bool :=
  scB d.N d.ps (defScope d.st) && decide (d.fn.np = d.ps.length) && decide (d.fn.nl = d.N.length) && okCs ⟨d.N, fns, gns⟩ d.fn.body (defScope d.st) (defBody d.st)
/-- what the top has made of the defs and constants -/
structure Top (U : Su) (K : PySem.W.Frag) (mg : Str → Option Value) (Γ : Ga) (ds : List Df) (gns : List Str) : Prop where
  hK : U.K = K
  fns : Γ.fns = ds.map (·.fn)
  ok : ∀ d ∈ ds, okD (ds.map (·.name)) gns d = true
  blt : ∀ x ∈ blts, mg x = none
  glb : ∀ (i : Nat) (n : Str) (d : D), gns[i]? = some n → Γ.consts[i]? = some d → ∃ u v, mg n = some u ∧ RelV v u ∧ ∀ ι H, Rep U.K ι H d v
  def_ : ∀ d ∈ ds, ∃ f fd, Fun K d.name d.qual d.st f fd ∧ mg d.name = some (.ref f) ∧ Binds K fd d.ps []
theorem room_hu {k : Nat} {A : Around} (r : Room k A) : A.units + 65 < cLine := by have := r.un; omega
theorem prog_ok {U : Su} {P : Program} {w : World} {K : PySem.W.Frag} {mg : Str → Option Value} {base : Heap} {Γ : Ga} {ds : List Df} {gns : List Str} (T : Top U K mg Γ ds gns) :
    ∀ (k : Nat) (i : Nat) (d : Df), ds[i]? = some d → ∀ f fd, Fun K d.name d.qual d.st f fd → FnOk P w K mg base (L2.CX P w) k f fd d.ps (spOf U (callF Γ k i))
  | 0, i, d, e, f, fd, F => ⟨fun vs H Q E ⟨_, _, _, _, _, z⟩ => z.elim, fun A outer s H args us vs Q E hr _ _ _ ⟨_, _, _, _, _, z⟩ => z.elim⟩
  | k + 1, i, d, e, f, fd, F => by
    have hd : d ∈ ds := List.mem_of_getElem? e
    have ok := T.ok d hd
    unfold okD at ok
    simp only [Bool.and_eq_true, decide_eq_true_eq] at ok
    obtain ⟨⟨⟨h1, h2⟩, h3⟩, h4⟩ := ok
    have hfn : Γ.fns[i]? = some d.fn := by rw [T.fns, List.getElem?_map, e]; rfl
    have hcall : ∀ ds' s, callF Γ (k + 1) i ds' s = runFn (clF Γ k) d.fn ds' s := fun ds' s => by
      show (match Γ.fns[i]? with | some fn => runFn _ fn ds' s | none => R.bad) = _
      rw [hfn]; rfl
    refine F.okX (scB_ok h1) (fun vs H Q E h => ?_) (fun cdv A outer s H vs Q E hr h => ?_)
    · obtain ⟨ι, s, ds', _, hr, hp⟩ := h
      rw [hcall] at hp
      unfold runFn at hp
      split at hp
      · rename_i hl
        rw [hr.length, hl, h2]
      · exact hp.elim
    · obtain ⟨ι, st, ds', hs, hr', hp⟩ := h
      rw [hcall] at hp
      unfold runFn at hp
      split at hp
      case isFalse => exact hp.elim
      rename_i hl
      have tk : Takes (cxOf (L2.CX P w) P w K mg base d.N d.qual (defScope d.st) f cdv A outer s H E) (fun cls dd _ H => E cls dd H) := takes_of rfl rfl rfl rfl
      have g : Gs ⟨d.N, ds.map (·.name), gns⟩ U (clF Γ k) (cxOf (L2.CX P w) P w K mg base d.N d.qual (defScope d.st) f cdv A outer s H E) (fun cls dd _ H => E cls dd H) := {
        hK := T.hK
        hN := rfl
        nd := (scB_ok h1).nd
        calm := rfl
        hu := room_hu hr
        tk := tk
        po := passes_of rfl
        blt := T.blt
        glb := T.glb
        fns := fun j n hj => by
          have hj : (ds.map (·.name))[j]? = some n := hj
          rw [List.getElem?_map, Option.map_eq_some_iff] at hj
          obtain ⟨d2, e2, rfl⟩ := hj
          obtain ⟨f2, fd2, F2, m2, b2⟩ := T.def_ d2 (List.mem_of_getElem? e2)
          exact ⟨f2, fd2, d2.ps, k, prog_ok T k j d2 e2 f2 fd2 F2, hr, m2, F2.kp, b2⟩
        fn := fun _ => rfl
        kind := (scB_ok h1).kind }
      refine ⟨_, sndCs _ U (clF Γ k) d.fn.body _ _ _ g h4, ι, st, ds'.map some ++ List.replicate (d.fn.nl - d.fn.np) none, hs, ?_, ?_⟩
      · unfold L2.start
        have hv := hr'.length
        refine ⟨by simp; rw [hv, h3, h2, hl, h2], fun j x hx => ?_⟩
        by_cases hj : j < ds'.length
        · rw [List.getElem?_append_left (by simpa using hj), List.getElem?_map, Option.map_eq_some_iff] at hx
          obtain ⟨x', hx, e'⟩ := hx
          cases e'
          obtain ⟨v, h5, h6⟩ := hr'.get hx
          exact ⟨v, by rw [List.getElem?_append_left (by simp; omega), List.getElem?_map, h5]; rfl, h6⟩
        · rw [List.getElem?_append_right (by simpa using hj), List.getElem?_replicate] at hx
          split at hx <;> cases hx
      · revert hp
        cases exs (clF Γ k) d.fn.body (ds'.map some ++ List.replicate (d.fn.nl - d.fn.np) none) st with
        | nx τ s' => exact fun hp ι' H' σ go hs' _ => hp ι' H' .non go hs' rep_non
        | rt dd s' => exact fun hp => hp
        | exc τ c fs s' => exact fun hp ι' H' σ a go hs' _ he => hp ι' H' a go hs' he
        | bk τ s' => exact fun hp => hp.elim
        | ct τ s' => exact fun hp => hp.elim
        | bad => exact fun hp => hp.elim
end G

set_option Elab.async false
set_option linter.all false
set_option maxRecDepth 100000
set_option autoImplicit false
/-! G9: from the top's facts and a run of the plain law to the row. -/
namespace G
open PySem PySem.Spec PyProof.Rows L2
/-- where the top has put a def -/
def DefAt (K : PySem.W.Frag) (mg : Str → Option Value) (d : Df) : Prop :=
  ∃ f fd, Fun K d.name d.qual d.st f fd ∧ mg d.name = some (.ref f) ∧ ∀ us : List Value, us.length = d.ps.length → bindArgs fd ⟨us, []⟩ = pure (d.ps.zip us)
section
variable {K : PySem.W.Frag} {h : Heap} {mg : Str → Option Value}
theorem defAt (X : K.In h) (G : h.Ns mainGlobals mg) (d : Df) {f : Addr} {oc kV doc pm cd ct : Value} {od an : Option Addr} {sl : Array (Option Value)}
    (hb : ∀ (kV doc pm : Value) (an : Option Addr) (cdv ct : Value) (us : List Value), us.length = d.ps.length → bindArgs (PySem.W.fnOf d.name d.qual (defArgs d.st) (defBody d.st) (defScope d.st) .none kV doc pm an cdv ct) ⟨us, []⟩ = pure (d.ps.zip us))
    (a : PySem.W.nsIn K mainGlobals d.name = some (some (.ref f))) (l : K.lookup f = some ⟨oc, od, .func (PySem.W.fnOf d.name d.qual (defArgs d.st) (defBody d.st) (defScope d.st) .none kV doc pm an cd ct), sl⟩)
    (c : PySem.W.codeIn K cd d.qual = true) (k : PySem.W.keepIn K (.ref f) = true) : DefAt K mg d :=
  ⟨f, _, fun_mk l c k, PySem.W.mg_of X G a, hb kV doc pm an cd ct⟩
theorem DefAt.top {d : Df} (x : DefAt K mg d) : ∃ f fd, Fun K d.name d.qual d.st f fd ∧ mg d.name = some (.ref f) ∧ Binds K fd d.ps [] := by
  obtain ⟨f, fd, h1, h2, h3⟩ := x
  exact ⟨f, fd, h1, h2, .all h3⟩
theorem use {P Q : Prop} (x : P) (h : P → Q) : Q := h x
theorem no_name (X : K.In h) (G : h.Ns mainGlobals mg) {x : Str} (a : PySem.W.nsIn K mainGlobals x = some none) : mg x = none := PySem.W.mg_none_of X G a
theorem a_name (X : K.In h) (G : h.Ns mainGlobals mg) {x : Str} {v : Value} (a : PySem.W.nsIn K mainGlobals x = some (some v)) : mg x = some v := PySem.W.mg_of X G a
/-- a constant of the module -/
def GlbAt (mg : Str → Option Value) (x : Str) (d : D) : Prop := ∃ u v, mg x = some u ∧ RelV v u ∧ ∀ (K : PySem.W.Frag) ι H, Rep K ι H d v
theorem GlbAt.at {x : Str} {d : D} (g : GlbAt mg x d) (K : PySem.W.Frag) : ∃ u v, mg x = some u ∧ RelV v u ∧ ∀ ι H, Rep K ι H d v := let ⟨u, v, a, b, c⟩ := g; ⟨u, v, a, b, c K⟩
theorem glbInt (X : K.In h) (G : h.Ns mainGlobals mg) {x : Str} {i : Int} {t : Tok} (a : PySem.W.nsIn K mainGlobals x = some (some (.int i t))) : GlbAt mg x (.int i) := ⟨_, .int i, PySem.W.mg_of X G a, ⟨t, rfl⟩, fun _ _ _ => rep_int _⟩
theorem glbStr (X : K.In h) (G : h.Ns mainGlobals mg) {x y : Str} {t : Tok} (a : PySem.W.nsIn K mainGlobals x = some (some (.str y t))) : GlbAt mg x (.str y) := ⟨_, .str y, PySem.W.mg_of X G a, ⟨t, rfl⟩, fun _ _ _ => rep_str _⟩
theorem blts_of (X : K.In h) (G : h.Ns mainGlobals mg) (a0 : PySem.W.nsIn K mainGlobals "isinstance" = some none) (a1 : PySem.W.nsIn K mainGlobals "int" = some none) (a2 : PySem.W.nsIn K mainGlobals "bool" = some none)
    (a3 : PySem.W.nsIn K mainGlobals "str" = some none) (a4 : PySem.W.nsIn K mainGlobals "list" = some none) (a5 : PySem.W.nsIn K mainGlobals "tuple" = some none) (a6 : PySem.W.nsIn K mainGlobals "dict" = some none)
    (a7 : PySem.W.nsIn K mainGlobals "len" = some none) (a8 : PySem.W.nsIn K mainGlobals "abs" = some none) (a9 : PySem.W.nsIn K mainGlobals "range" = some none) : ∀ x ∈ blts, mg x = none := by
  intro x hx
  simp only [blts, List.mem_cons, List.not_mem_nil, or_false] at hx
  rcases hx with rfl | rfl | rfl | rfl | rfl | rfl | rfl | rfl | rfl | rfl
  all_goals exact no_name X G (by assumption)
end
theorem walk {l : PySem.W.OpenLaw} {q : Program} {loose : List Str} {XP : (Str → Option Value) → Heap → Prop} {YP : World → Heap → Prop} {d : DefRec} {K : Params → PySem.W.Frag} {Γ : Ga} {ds : List Df} {gns : List Str} {i k : Nat} {dl : Df} {x : Str}
    (hi : ds[i]? = some dl) (hx : dl.ps = [x]) (hd : d.name = dl.name) (hr : Room k callerA) (hn : l.most = some 63) (hdf : d.params.defaults = [])
    (hY : ∀ (w : World) (h : Heap), YP w h → (K w.params).In h)
    (F : ∀ (w : World) (mg : Str → Option Value) (h : Heap), (K w.params).In h → h.Ns mainGlobals mg → (∃ U : Su, Top U (K w.params) mg Γ ds gns) ∧ DefAt (K w.params) mg dl)
    (law : ∀ ns : List Int, ns.length ≤ 63 → ∃ s, callF Γ k i [.flst (ns.map .int)] [] = .ok (.bl true) s) :
    PySem.W.WalkO q loose XP YP l.row.toRowW d [] (fun f vs => PySem.call f vs) := by
  refine L2.walk_of (n := 63) (k := k) (x := x) (K := K) (CX := fun w => L2.CX l.prog w) (sp := fun w vs H Q E => vs.length = 1 ∧ ∀ U : Su, U.K = K w.params → spOf U (callF Γ k i) vs H Q E) hn (by decide) hdf hr hY (fun w mg fa h KX G hmg => ?_) (fun w H a ns hl hO hS => ?_) fun w H s e s' z => ?_
  · obtain ⟨⟨U, T⟩, f, fd, h1, h2, h3⟩ := F w mg h KX G
    have ef : f = fa := by rw [hd, h2] at hmg; cases hmg; rfl
    rw [ef] at h1
    refine ⟨fd, fun s u => .of_eq (by rw [h3 [u] (by rw [hx]; rfl), hx]; rfl), fun base _ _ => ?_⟩
    have := prog_ok (P := l.prog) (w := w) (base := base) T k i dl hi fa fd h1
    rw [hx] at this
    exact this.imp fun vs H Q E z => z.2 U T.hK
  · refine ⟨rfl, fun U hK => ⟨[], [], [.flst (ns.map .int)], ⟨rfl, fun n o e => by simp at e, fun n m a e => by simp at e⟩, ?_, ?_⟩⟩
    · refine Reps.cons ?_ Reps.nil
      simp only [Rep]
      refine ⟨a, ns.map V.int, rfl, ?_, Reps.ints⟩
      rw [hK]
      rcases hS with (h | ⟨o, h⟩) | h
      · rcases hO a with z | ⟨o, xs, z⟩
        · rw [z] at h; cases h
        · rw [z] at h; cases h
      · exact .inl ⟨o, h⟩
      · exact .inr h
    · obtain ⟨s, e⟩ := law ns hl
      rw [e]
      exact fun ι' H' v _ _ r => r.bl_of
  · obtain ⟨_, _, _, _, _, _, _, _, _, _, _, _, q⟩ := z
    exact q
end G

set_option Elab.async false
set_option linter.all false
set_option maxRecDepth 100000
set_option autoImplicit false
set_option maxHeartbeats 1000000
/-! Lw1: the laws' own drawing of numbers, in plain runs. -/
namespace G
open PySem
local macro_rules | `(tactic| walk_at "ev") => `(tactic| simp only [runFn, exs, ex, evE, evT, ev, evs, plainT, asB, store, asgV, srcOf, List.length_cons, List.length_nil, List.map_cons, List.map_nil, List.cons_append, List.nil_append, List.replicate_succ, List.replicate_zero, Nat.reduceSub, Nat.reduceAdd, List.getElem?_cons_zero, List.getElem?_cons_succ, List.set_cons_zero, List.set_cons_succ, Cst.d, R.bind_ok, R.bind_bad, R.bind_exc, SR.bind_nx, SR.bind_rt, SR.bind_bad, SR.bind_exc, R.toS_ok, R.toS_bad, R.toS_exc, if_true, Bool.not_true, Bool.not_false, Bool.false_eq_true, if_false])
/-! ### statement by statement -/
section
variable {cl : CL} {c : Cm} {cs : Cms} {τ τ' : Fr} {s s' : S} {d : D} {fn : Fn} {ds : List D}
theorem exs_nx (h : ex cl c τ s = .nx τ' s') : exs cl (.cons c cs) τ s = exs cl cs τ' s' := by simp only [exs, h, SR.bind_nx]
theorem exs_rt (h : ex cl c τ s = .rt d s') : exs cl (.cons c cs) τ s = .rt d s' := by simp only [exs, h, SR.bind_rt]
theorem run_rt (hl : ds.length = fn.np) (h : exs cl fn.body (ds.map some ++ List.replicate (fn.nl - fn.np) none) s = .rt d s') : runFn cl fn ds s = .ok d s' := by unfold runFn; rw [if_pos hl, h]
theorem run_nx (hl : ds.length = fn.np) (h : exs cl fn.body (ds.map some ++ List.replicate (fn.nl - fn.np) none) s = .nx τ' s') : runFn cl fn ds s = .ok .non s' := by unfold runFn; rw [if_pos hl, h]
theorem ex_asg {e : Ex} {i : Nat} (h : evE cl e τ s = .ok d s') : ex cl (.asg (.loc (.var i)) e) τ s = .nx (τ.set i (some d)) s' := by simp only [ex, h, R.toS_ok, store, asgV]
theorem ex_ret {e : Ex} (h : evE cl e τ s = .ok d s') : ex cl (.ret e) τ s = .rt d s' := by simp only [ex, h, R.toS_ok]
theorem ex_expr {e : Ex} (h : evE cl e τ s = .ok d s') : ex cl (.expr e) τ s = .nx τ s' := by simp only [ex, h, R.toS_ok]
theorem ex_ite {e : Ex} {a b : Cms} {k : Bool} (h : evT cl e τ s = .ok k s') : ex cl (.ite e a b) τ s = if k = true then exs cl a τ s' else exs cl b τ s' := by simp only [ex, h, R.toS_ok]
theorem ite_t {e : Ex} {a b : Cms} (h : evT cl e τ s = .ok true s') : ex cl (.ite e a b) τ s = exs cl a τ s' := (ex_ite h).trans (if_pos rfl)
theorem ite_f {e : Ex} {a b : Cms} (h : evT cl e τ s = .ok false s') : ex cl (.ite e a b) τ s = exs cl b τ s' := (ex_ite h).trans (if_neg Bool.false_ne_true)
/-- a test that fails, and goes by -/
theorem exs_skip {e : Ex} {a : Cms} (h : evT cl e τ s = .ok false s') : exs cl (.cons (.ite e a .nil) cs) τ s = exs cl cs τ s' := exs_nx ((ite_f h).trans rfl)
/-- a test that holds, and hands back -/
theorem exs_in {e : Ex} {a b : Cms} {s2 : S} (h : evT cl e τ s = .ok true s') (h2 : exs cl a τ s' = .rt d s2) : exs cl (.cons (.ite e a b) cs) τ s = .rt d s2 := exs_rt ((ite_t h).trans h2)
theorem exs_ret {e : Ex} (h : evE cl e τ s = .ok d s') : exs cl (.cons (.ret e) cs) τ s = .rt d s' := exs_rt (ex_ret h)
theorem exs_asg {e : Ex} {i : Nat} (h : evE cl e τ s = .ok d s') : exs cl (.cons (.asg (.loc (.var i)) e) cs) τ s = exs cl cs (τ.set i (some d)) s' := exs_nx (ex_asg h)
theorem exs_expr {e : Ex} (h : evE cl e τ s = .ok d s') : exs cl (.cons (.expr e) cs) τ s = exs cl cs τ s' := exs_nx (ex_expr h)
end
/-- a def's call, a level down -/
theorem call_of {Γ : Ga} {k f : Nat} {fn : Fn} (h : Γ.fns[f]? = some fn) (ds : List D) (s : S) : (clF Γ (k + 1)).call f ds s = runFn (clF Γ k) fn ds s := by
  show (match Γ.fns[f]? with | some fn => runFn _ fn ds s | none => R.bad) = _
  rw [h]; rfl
theorem call_rt {Γ : Ga} {k f : Nat} {fn : Fn} {ds : List D} {s s' : S} {d : D} {τ : Fr} (h : Γ.fns[f]? = some fn) (hl : ds.length = fn.np) (hτ : ds.map some ++ List.replicate (fn.nl - fn.np) none = τ) (hb : exs (clF Γ k) fn.body τ s = .rt d s') : (clF Γ (k + 1)).call f ds s = .ok d s' :=
  (call_of h ds s).trans (run_rt hl (by rw [hτ]; exact hb))
theorem lv {k m : Nat} (h : m + 1 ≤ k) : ∃ j, k = j + 1 ∧ m ≤ j := ⟨k - 1, by omega, by omega⟩
/-! ### lists that stand in the store -/
section
variable {s : S} {n : Nat} {ds : List D} {d v : D} {i : Int} {o o' : O}
theorem lstAt_of (h : s[n]? = some (.lst ds)) : lstAt s n = some ds := by unfold lstAt; rw [h]
theorem atI_of {α : Type} {xs : List α} {x : α} (h0 : 0 ≤ i) (h : xs[i.toNat]? = some x) : L2.atI xs i = some x := by
  have hl := (List.getElem?_eq_some_iff.mp h).1
  unfold L2.atI L2.ixN
  rw [if_pos h0, if_pos (by omega)]
  exact h
theorem ixD_ref (h : s[n]? = some (.lst ds)) (h0 : 0 ≤ i) (hd : ds[i.toNat]? = some d) : ixD (.ref n) (.int i) s = .ok d s := by
  simp only [ixD, seqOf, lstAt_of h, Option.bind_some, atI_of h0 hd]
theorem ixD_tup (h0 : 0 ≤ i) (hd : ds[i.toNat]? = some d) : ixD (.tup ds) (.int i) s = .ok d s := by
  simp only [ixD, seqOf, Option.bind_some, atI_of h0 hd]
theorem setD_ref (h : s[n]? = some (.lst ds)) (h0 : 0 ≤ i) (hi : i.toNat < ds.length) : setD (.ref n) (.int i) v s = some (s.set n (.lst (ds.set i.toNat v))) := by
  simp only [setD, h]
  unfold L2.ixN
  rw [if_pos h0, if_pos (by omega)]
theorem set_get (h : n < s.length) : (s.set n o)[n]? = some o := List.getElem?_set_self h
theorem set_same (h : s[n]? = some o) : s.set n o = s := by
  apply List.ext_getElem?
  intro j
  by_cases hj : j = n
  · subst hj; rw [List.getElem?_set_self (List.getElem?_eq_some_iff.mp h).1, h]
  · rw [List.getElem?_set_ne (Ne.symm hj)]
theorem lt_of_get (h : s[n]? = some o) : n < s.length := (List.getElem?_eq_some_iff.mp h).1
theorem mulD {i j : Int} (h : (-(2 ^ 64) < i ∧ i < 2 ^ 64) ∨ (-(2 ^ 64) < j ∧ j < 2 ^ 64)) : binD .mul (.int i) (.int j) s = .ok (.int (i * j)) s := by simp only [binD, if_pos h]
theorem modD {i j : Int} (h : 0 < j) : binD .mod (.int i) (.int j) s = .ok (.int (i % j)) s := by simp only [binD, if_pos h]
theorem fdivD {i j : Int} (h : 0 < j ∧ j.natAbs.log2 < 9000) : binD .fdiv (.int i) (.int j) s = .ok (.int (i / j)) s := by simp only [binD, if_pos h]
theorem addI {i j : Int} : binD .add (.int i) (.int j) s = .ok (.int (i + j)) s := rfl
theorem subI {i j : Int} : binD .sub (.int i) (.int j) s = .ok (.int (i - j)) s := rfl
theorem eqI {i j : Int} : cmpD .eq (.int i) (.int j) s = .ok (i == j) s := by
  simp only [cmpD, eqD, toP]
  rw [if_pos ⟨rfl, rfl⟩]
  rfl
theorem eqI_t {i j : Int} (h : i = j) : cmpD .eq (.int i) (.int j) s = .ok true s := by rw [eqI, h]; simp
theorem eqI_f {i j : Int} (h : i ≠ j) : cmpD .eq (.int i) (.int j) s = .ok false s := by rw [eqI]; simp [h]
theorem powI {a b : Int} {s : S} {c : Int} (h : 0 ≤ b ∧ b ≤ 1000000 ∧ a.natAbs < 2 ^ 64) (e : a ^ b.toNat = c) : binD .pow (.int a) (.int b) s = .ok (.int c) s := by simp only [binD, if_pos h, e]
theorem lenS {x : Str} {s : S} (h : x.length ≤ 10000) : bltD .len [.str x] s = .ok (.int x.length) s := by
  simp only [bltD]
  rw [if_pos (by rw [sizeLine_eq]; omega)]
theorem slS {x : Str} {lo hi : Option Int} {s : S} (h : x.length ≤ 10000) : slD (.str x) lo hi s = .ok (.str (L2.cutS x lo hi)) s := by
  simp only [slD]
  rw [if_pos (by rw [sizeLine_eq]; omega)]
theorem addS {x y : Str} {s : S} (h : x.length + y.length ≤ 10000) : binD .add (.str x) (.str y) s = .ok (.str (x ++ y)) s := by
  simp only [binD, addD]
  rw [if_pos (by rw [sizeLine_eq]; omega)]
theorem log2_lt {m b : Nat} (h : m < 2 ^ b) (hb : 0 < b) : m.log2 < b := by
  by_cases h0 : m = 0
  · subst h0; simpa using hb
  · exact (Nat.log2_lt h0).mpr h
end

/-! ### the pool -/
/-- a pool: the rest of a great cell, the next cell's place, the seed, the count, the cells -/
def pool (a b c e : Int) (cs : List Int) : O := .lst (.int a :: .int b :: .int c :: .int e :: cs.map .int)
structure PoolIn (o : O) : Prop where
  ex : ∃ a b c e cs, o = pool a b c e cs ∧ 0 ≤ a ∧ 4 ≤ b ∧ 0 ≤ c ∧ c < 2147483647 ∧ 0 ≤ e
section
variable {s : S} {n : Nat} {a b c e v : Int} {cs : List Int}
theorem pool_at (h : n < s.length) : (s.set n (pool a b c e cs))[n]? = some (.lst (.int a :: .int b :: .int c :: .int e :: cs.map .int)) := set_get h
theorem pool_0 (h : n < s.length) : ixD (.ref n) (.int 0) (s.set n (pool a b c e cs)) = .ok (.int a) (s.set n (pool a b c e cs)) := ixD_ref (pool_at h) (by decide) rfl
theorem pool_1 (h : n < s.length) : ixD (.ref n) (.int 1) (s.set n (pool a b c e cs)) = .ok (.int b) (s.set n (pool a b c e cs)) := ixD_ref (pool_at h) (by decide) rfl
theorem pool_2 (h : n < s.length) : ixD (.ref n) (.int 2) (s.set n (pool a b c e cs)) = .ok (.int c) (s.set n (pool a b c e cs)) := ixD_ref (pool_at h) (by decide) rfl
theorem pool_3 (h : n < s.length) : ixD (.ref n) (.int 3) (s.set n (pool a b c e cs)) = .ok (.int e) (s.set n (pool a b c e cs)) := ixD_ref (pool_at h) (by decide) rfl
theorem pool_cell (h : n < s.length) (h4 : 4 ≤ b) (hb : b < (cs.length : Int) + 4) : ∃ x, ixD (.ref n) (.int b) (s.set n (pool a b c e cs)) = .ok (.int x) (s.set n (pool a b c e cs)) := by
  obtain ⟨k, rfl⟩ : ∃ k : Nat, b = k + 4 := ⟨(b - 4).toNat, by omega⟩
  have hk : k < cs.length := by omega
  refine ⟨cs[k], ixD_ref (pool_at h) (by omega) ?_⟩
  have e1 : ((k : Int) + 4).toNat = k + 1 + 1 + 1 + 1 := by omega
  rw [e1]
  simp only [List.getElem?_cons_succ, List.getElem?_map, List.getElem?_eq_getElem hk, Option.map_some]
theorem pool_len (h : n < s.length) : bltD .len [.ref n] (s.set n (pool a b c e cs)) = .ok (.int ((cs.length : Int) + 4)) (s.set n (pool a b c e cs)) := by
  simp only [bltD, seqOf, lstAt_of (pool_at h), List.length_cons, List.length_map]
  congr 2
theorem pool_s0 (h : n < s.length) : setD (.ref n) (.int 0) (.int v) (s.set n (pool a b c e cs)) = some (s.set n (pool v b c e cs)) := by
  rw [setD_ref (pool_at h) (by decide) (by simp), List.set_set]; rfl
theorem pool_s1 (h : n < s.length) : setD (.ref n) (.int 1) (.int v) (s.set n (pool a b c e cs)) = some (s.set n (pool a v c e cs)) := by
  rw [setD_ref (pool_at h) (by decide) (by simp), List.set_set]; rfl
theorem pool_s2 (h : n < s.length) : setD (.ref n) (.int 2) (.int v) (s.set n (pool a b c e cs)) = some (s.set n (pool a b v e cs)) := by
  rw [setD_ref (pool_at h) (by decide) (by simp), List.set_set]; rfl
theorem pool_s3 (h : n < s.length) : setD (.ref n) (.int 3) (.int v) (s.set n (pool a b c e cs)) = some (s.set n (pool a b c v cs)) := by
  rw [setD_ref (pool_at h) (by decide) (by simp), List.set_set]; rfl
end
def bMixed : Cms := .cons (.asg (.loc (.var 2)) (.bin .mod (.blt .int (.cons (.bin .mul (.bin .add (.bin .add (.var 0) (.bin .mul (.cst (.int 7919)) (.var 1))) (.cst (.int 1))) (.cst (.int 48271))) .nil)) (.cst (.int 2147483647))))
    (.cons (.asg (.loc (.var 2)) (.bin .mod (.blt .int (.cons (.bin .mul (.var 2) (.bin .add (.bin .fdiv (.var 2) (.cst (.int 1009))) (.cst (.int 69621)))) .nil)) (.cst (.int 2147483647))))
    (.cons (.ret (.bin .mod (.blt .int (.cons (.bin .mul (.var 2) (.bin .add (.bin .fdiv (.var 2) (.cst (.int 2003))) (.cst (.int 40692)))) .nil)) (.cst (.int 2147483399)))) .nil))
theorem run_mixed (cl : CL) (s : S) (x y : Int) : ∃ r, runFn cl ⟨2, 3, bMixed⟩ [.int x, .int y] s = .ok (.int r) s ∧ 0 ≤ r := by
  have l1 : (1009 : Int).natAbs.log2 < 9000 := by decide +kernel
  have l2 : (2003 : Int).natAbs.log2 < 9000 := by decide +kernel
  obtain ⟨n1, e1⟩ : ∃ n1, n1 = (x + 7919 * y + 1) * 48271 % 2147483647 := ⟨_, rfl⟩
  obtain ⟨n2, e2⟩ : ∃ n2, n2 = n1 * (n1 / 1009 + 69621) % 2147483647 := ⟨_, rfl⟩
  have b1 : 0 ≤ n1 ∧ n1 < 2147483647 := by rw [e1]; exact ⟨Int.emod_nonneg _ (by decide), Int.emod_lt_of_pos _ (by decide)⟩
  have b2 : 0 ≤ n2 ∧ n2 < 2147483647 := by rw [e2]; exact ⟨Int.emod_nonneg _ (by decide), Int.emod_lt_of_pos _ (by decide)⟩
  refine ⟨n2 * (n2 / 2003 + 40692) % 2147483399, ?_, Int.emod_nonneg _ (by decide)⟩
  refine run_rt rfl ?_
  refine (exs_nx (ex_asg (d := .int n1) (s' := s) ?_)).trans ?_
  · walk_at "ev"
    rw [mulD (.inl (by decide))]; walk_at "ev"
    rw [addI]; walk_at "ev"
    rw [addI]; walk_at "ev"
    rw [mulD (.inr (by decide))]; walk_at "ev"
    simp only [bltD]; walk_at "ev"
    rw [modD (by decide), ← e1]
  refine (exs_nx (ex_asg (d := .int n2) (s' := s) ?_)).trans ?_
  · walk_at "ev"
    rw [fdivD ⟨by decide, l1⟩]; walk_at "ev"
    rw [addI]; walk_at "ev"
    rw [mulD (.inl (by omega))]; walk_at "ev"
    simp only [bltD]; walk_at "ev"
    rw [modD (by decide), ← e2]
  refine exs_rt (ex_ret ?_)
  walk_at "ev"
  rw [fdivD ⟨by decide, l2⟩]; walk_at "ev"
  rw [addI]; walk_at "ev"
  rw [mulD (.inl (by omega))]; walk_at "ev"
  simp only [bltD]; walk_at "ev"
  rw [modD (by decide)]
def bDraw (mix : Nat) : Cms := .cons (.asg (.sub (.var 0) (.cst (.int 3))) (.bin .add (.ix (.var 0) (.cst (.int 3))) (.cst (.int 1))))
    (.cons (.ite (.and (.cmp .eq (.ix (.var 0) (.cst (.int 0))) (.cst (.int 0))) (.cmp .lt (.ix (.var 0) (.cst (.int 1))) (.blt .len (.cons (.var 0) .nil)))) (.cons (.asg (.loc (.var 2)) (.blt .abs (.cons (.ix (.var 0) (.ix (.var 0) (.cst (.int 1)))) .nil)))
    (.cons (.asg (.sub (.var 0) (.cst (.int 1))) (.bin .add (.ix (.var 0) (.cst (.int 1))) (.cst (.int 1))))
    (.cons (.ite (.cmp .lt (.var 2) (.bin .pow (.cst (.int 10)) (.cst (.int 18)))) (.cons (.asg (.sub (.var 0) (.cst (.int 2))) (.bin .mod (.blt .int (.cons (.bin .add (.bin .add (.bin .mul (.ix (.var 0) (.cst (.int 2))) (.cst (.int 7919))) (.var 2)) (.cst (.int 1))) .nil)) (.cst (.int 2147483647)))) .nil) (.cons (.asg (.sub (.var 0) (.cst (.int 0))) (.var 2)) .nil)) .nil))) (.nil))
    (.cons (.ite (.cmp .gt (.ix (.var 0) (.cst (.int 0))) (.cst (.int 0))) (.cons (.asg (.loc (.var 3)) (.bin .mod (.blt .int (.cons (.ix (.var 0) (.cst (.int 0))) .nil)) (.var 1)))
    (.cons (.asg (.sub (.var 0) (.cst (.int 0))) (.bin .fdiv (.ix (.var 0) (.cst (.int 0))) (.var 1)))
    (.cons (.ret (.var 3)) .nil))) (.nil))
    (.cons (.ret (.bin .mod (.blt .int (.cons (.call mix (.cons (.ix (.var 0) (.cst (.int 2))) (.cons (.ix (.var 0) (.cst (.int 3))) .nil))) .nil)) (.var 1))) .nil)))

theorem run_draw {cl : CL} {mix : Nat} (hm : ∀ x y s, ∃ r, cl.call mix [.int x, .int y] s = .ok (.int r) s ∧ 0 ≤ r) {s : S} {n : Nat} {m : Int} (hn : n < s.length) {a b c e : Int} {cs : List Int} (ha : 0 ≤ a) (hb : 4 ≤ b) (hc : 0 ≤ c) (hc2 : c < 2147483647) (he : 0 ≤ e) (m0 : 0 < m) (mb : m.natAbs.log2 < 9000) :
    ∃ r o, runFn cl ⟨2, 4, bDraw mix⟩ [.ref n, .int m] (s.set n (pool a b c e cs)) = .ok (.int r) (s.set n o) ∧ 0 ≤ r ∧ r < m ∧ PoolIn o := by
  have f1 : ex cl (.asg (.sub (.var 0) (.cst (.int 3))) (.bin .add (.ix (.var 0) (.cst (.int 3))) (.cst (.int 1)))) [some (.ref n), some (.int m), none, none] (s.set n (pool a b c e cs)) = .nx [some (.ref n), some (.int m), none, none] (s.set n (pool a b c (e + 1) cs)) := by
    walk_at "ev"
    rw [pool_3 hn]; walk_at "ev"
    rw [addI]; walk_at "ev"
    rw [pool_s3 hn]
  have f2 : ∃ a' b' c' x, ex cl (.ite (.and (.cmp .eq (.ix (.var 0) (.cst (.int 0))) (.cst (.int 0))) (.cmp .lt (.ix (.var 0) (.cst (.int 1))) (.blt .len (.cons (.var 0) .nil)))) (.cons (.asg (.loc (.var 2)) (.blt .abs (.cons (.ix (.var 0) (.ix (.var 0) (.cst (.int 1)))) .nil)))
    (.cons (.asg (.sub (.var 0) (.cst (.int 1))) (.bin .add (.ix (.var 0) (.cst (.int 1))) (.cst (.int 1))))
    (.cons (.ite (.cmp .lt (.var 2) (.bin .pow (.cst (.int 10)) (.cst (.int 18)))) (.cons (.asg (.sub (.var 0) (.cst (.int 2))) (.bin .mod (.blt .int (.cons (.bin .add (.bin .add (.bin .mul (.ix (.var 0) (.cst (.int 2))) (.cst (.int 7919))) (.var 2)) (.cst (.int 1))) .nil)) (.cst (.int 2147483647)))) .nil) (.cons (.asg (.sub (.var 0) (.cst (.int 0))) (.var 2)) .nil)) .nil))) (.nil)) [some (.ref n), some (.int m), none, none] (s.set n (pool a b c (e + 1) cs)) = .nx [some (.ref n), some (.int m), x, none] (s.set n (pool a' b' c' (e + 1) cs)) ∧ 0 ≤ a' ∧ 4 ≤ b' ∧ 0 ≤ c' ∧ c' < 2147483647 := by
    by_cases h1 : a = 0 ∧ b < (cs.length : Int) + 4
    · obtain ⟨x, hx⟩ := pool_cell (s := s) (a := a) (c := c) (e := e + 1) hn hb h1.2
      obtain ⟨y, hy⟩ : ∃ y, y = if x < 0 then -x else x := ⟨_, rfl⟩
      have y0 : 0 ≤ y := by rw [hy]; split <;> omega
      have pre : ∀ R, exs cl (.cons (.ite (.cmp .lt (.var 2) (.bin .pow (.cst (.int 10)) (.cst (.int 18)))) (.cons (.asg (.sub (.var 0) (.cst (.int 2))) (.bin .mod (.blt .int (.cons (.bin .add (.bin .add (.bin .mul (.ix (.var 0) (.cst (.int 2))) (.cst (.int 7919))) (.var 2)) (.cst (.int 1))) .nil)) (.cst (.int 2147483647)))) .nil) (.cons (.asg (.sub (.var 0) (.cst (.int 0))) (.var 2)) .nil)) .nil) [some (.ref n), some (.int m), some (.int y), none] (s.set n (pool a (b + 1) c (e + 1) cs)) = R →
          ex cl (.ite (.and (.cmp .eq (.ix (.var 0) (.cst (.int 0))) (.cst (.int 0))) (.cmp .lt (.ix (.var 0) (.cst (.int 1))) (.blt .len (.cons (.var 0) .nil)))) (.cons (.asg (.loc (.var 2)) (.blt .abs (.cons (.ix (.var 0) (.ix (.var 0) (.cst (.int 1)))) .nil)))
    (.cons (.asg (.sub (.var 0) (.cst (.int 1))) (.bin .add (.ix (.var 0) (.cst (.int 1))) (.cst (.int 1))))
    (.cons (.ite (.cmp .lt (.var 2) (.bin .pow (.cst (.int 10)) (.cst (.int 18)))) (.cons (.asg (.sub (.var 0) (.cst (.int 2))) (.bin .mod (.blt .int (.cons (.bin .add (.bin .add (.bin .mul (.ix (.var 0) (.cst (.int 2))) (.cst (.int 7919))) (.var 2)) (.cst (.int 1))) .nil)) (.cst (.int 2147483647)))) .nil) (.cons (.asg (.sub (.var 0) (.cst (.int 0))) (.var 2)) .nil)) .nil))) (.nil)) [some (.ref n), some (.int m), none, none] (s.set n (pool a b c (e + 1) cs)) = R := by
        intro R hR
        rw [ex_ite (k := true) (s' := s.set n (pool a b c (e + 1) cs)), if_pos rfl]
        · refine (exs_nx (ex_asg (d := .int y) (s' := s.set n (pool a b c (e + 1) cs)) ?_)).trans ?_
          · walk_at "ev"
            rw [pool_1 hn]; walk_at "ev"
            rw [hx]; walk_at "ev"
            rw [hy]; rfl
          · refine (exs_nx (τ' := [some (.ref n), some (.int m), some (.int y), none]) (s' := s.set n (pool a (b + 1) c (e + 1) cs)) ?_).trans hR
            walk_at "ev"
            rw [pool_1 hn]; walk_at "ev"
            rw [addI]; walk_at "ev"
            rw [pool_s1 hn]
        · walk_at "ev"
          rw [pool_0 hn]; walk_at "ev"
          rw [eqI, h1.1]; walk_at "ev"
          rw [show ((0 : Int) == 0) = true from rfl]; walk_at "ev"
          rw [← h1.1, pool_1 hn]; walk_at "ev"
          rw [pool_len hn]; walk_at "ev"
          simp only [cmpD, ltD, decide_eq_true h1.2]
      have p18 : binD .pow (.int 10) (.int 18) (s.set n (pool a (b + 1) c (e + 1) cs)) = .ok (.int 1000000000000000000) (s.set n (pool a (b + 1) c (e + 1) cs)) := by
        simp only [binD]
        rw [if_pos (by decide)]
        rfl
      by_cases h2 : y < 1000000000000000000
      · refine ⟨a, b + 1, (c * 7919 + y + 1) % 2147483647, some (.int y), pre _ ?_, ha, by omega, Int.emod_nonneg _ (by decide), Int.emod_lt_of_pos _ (by decide)⟩
        refine exs_nx ?_
        rw [ex_ite (k := true) (s' := s.set n (pool a (b + 1) c (e + 1) cs)), if_pos rfl]
        · refine exs_nx ?_
          walk_at "ev"
          rw [pool_2 hn]; walk_at "ev"
          rw [mulD (.inl (by omega))]; walk_at "ev"
          rw [addI]; walk_at "ev"
          rw [addI]; walk_at "ev"
          simp only [bltD]; walk_at "ev"
          rw [modD (by decide)]; walk_at "ev"
          rw [pool_s2 hn]
        · walk_at "ev"
          rw [p18]; walk_at "ev"
          simp only [cmpD, ltD, decide_eq_true h2]
      · refine ⟨y, b + 1, c, some (.int y), pre _ ?_, y0, by omega, hc, hc2⟩
        refine exs_nx ?_
        rw [ex_ite (k := false) (s' := s.set n (pool a (b + 1) c (e + 1) cs)), if_neg Bool.false_ne_true]
        · refine exs_nx ?_
          walk_at "ev"
          rw [pool_s0 hn]
        · walk_at "ev"
          rw [p18]; walk_at "ev"
          simp only [cmpD, ltD, decide_eq_false h2]
    · refine ⟨a, b, c, none, ?_, ha, hb, hc, hc2⟩
      rw [ex_ite (k := false) (s' := s.set n (pool a b c (e + 1) cs)), if_neg Bool.false_ne_true]
      · rfl
      · walk_at "ev"
        rw [pool_0 hn]; walk_at "ev"
        rw [eqI]; walk_at "ev"
        by_cases h2 : a = 0
        · rw [h2, show ((0 : Int) == 0) = true from rfl]; walk_at "ev"
          rw [← h2, pool_1 hn]; walk_at "ev"
          rw [pool_len hn]; walk_at "ev"
          have h3 : ¬ b < (cs.length : Int) + 4 := fun z => h1 ⟨h2, z⟩
          simp only [cmpD, ltD, decide_eq_false h3]
        · rw [show (a == 0) = false from by simpa using h2]; walk_at "ev"
  obtain ⟨a', b', c', x, f2, ha', hb', hc', hc2'⟩ := f2
  have go : ∀ r o, exs cl (.cons (.ite (.cmp .gt (.ix (.var 0) (.cst (.int 0))) (.cst (.int 0))) (.cons (.asg (.loc (.var 3)) (.bin .mod (.blt .int (.cons (.ix (.var 0) (.cst (.int 0))) .nil)) (.var 1)))
    (.cons (.asg (.sub (.var 0) (.cst (.int 0))) (.bin .fdiv (.ix (.var 0) (.cst (.int 0))) (.var 1)))
    (.cons (.ret (.var 3)) .nil))) (.nil))
    (.cons (.ret (.bin .mod (.blt .int (.cons (.call mix (.cons (.ix (.var 0) (.cst (.int 2))) (.cons (.ix (.var 0) (.cst (.int 3))) .nil))) .nil)) (.var 1))) .nil)) [some (.ref n), some (.int m), x, none] (s.set n (pool a' b' c' (e + 1) cs)) = .rt (.int r) (s.set n o) →
      runFn cl ⟨2, 4, bDraw mix⟩ [.ref n, .int m] (s.set n (pool a b c e cs)) = .ok (.int r) (s.set n o) := fun r o h => run_rt rfl ((exs_nx f1).trans ((exs_nx f2).trans h))
  by_cases h3 : 0 < a'
  · refine ⟨a' % m, pool (a' / m) b' c' (e + 1) cs, go _ _ ?_, Int.emod_nonneg _ (by omega), Int.emod_lt_of_pos _ m0, ⟨_, _, _, _, _, rfl, Int.ediv_nonneg ha' (by omega), hb', hc', hc2', by omega⟩⟩
    refine exs_rt ?_
    rw [ex_ite (k := true) (s' := s.set n (pool a' b' c' (e + 1) cs)), if_pos rfl]
    · refine (exs_nx (ex_asg (d := .int (a' % m)) (s' := s.set n (pool a' b' c' (e + 1) cs)) ?_)).trans ?_
      · walk_at "ev"
        rw [pool_0 hn]; walk_at "ev"
        simp only [bltD]; walk_at "ev"
        rw [modD m0]
      · refine (exs_nx (τ' := [some (.ref n), some (.int m), x, some (.int (a' % m))]) (s' := s.set n (pool (a' / m) b' c' (e + 1) cs)) ?_).trans ?_
        · walk_at "ev"
          rw [pool_0 hn]; walk_at "ev"
          rw [fdivD ⟨m0, mb⟩]; walk_at "ev"
          rw [pool_s0 hn]
        · refine exs_rt (ex_ret ?_)
          walk_at "ev"
    · walk_at "ev"
      rw [pool_0 hn]; walk_at "ev"
      simp only [cmpD, decide_eq_true h3]
  · obtain ⟨r, hr, r0⟩ := hm c' (e + 1) (s.set n (pool a' b' c' (e + 1) cs))
    refine ⟨r % m, pool a' b' c' (e + 1) cs, go _ _ ?_, Int.emod_nonneg _ (by omega), Int.emod_lt_of_pos _ m0, ⟨_, _, _, _, _, rfl, ha', hb', hc', hc2', by omega⟩⟩
    refine (exs_nx (τ' := [some (.ref n), some (.int m), x, none]) (s' := s.set n (pool a' b' c' (e + 1) cs)) ?_).trans ?_
    · rw [ex_ite (k := false) (s' := s.set n (pool a' b' c' (e + 1) cs)), if_neg Bool.false_ne_true]
      · rfl
      · walk_at "ev"
        rw [pool_0 hn]; walk_at "ev"
        simp only [cmpD, decide_eq_false h3]
    · refine exs_rt (ex_ret ?_)
      walk_at "ev"
      rw [pool_2 hn]; walk_at "ev"
      rw [pool_3 hn]; walk_at "ev"
      rw [hr]; walk_at "ev"
      simp only [bltD]; walk_at "ev"
      rw [modD m0]
end G

set_option Elab.async false
set_option linter.all false
set_option maxRecDepth 100000
set_option autoImplicit false
set_option maxHeartbeats 1000000
/-! Lw2: loops in plain runs; words and names that are drawn. -/
namespace G
open PySem
local macro_rules | `(tactic| walk_at "ev") => `(tactic| simp only [runFn, exs, ex, evE, evT, ev, evs, plainT, asB, store, asgV, srcOf, List.length_cons, List.length_nil, List.map_cons, List.map_nil, List.cons_append, List.nil_append, List.replicate_succ, List.replicate_zero, Nat.reduceSub, Nat.reduceAdd, List.getElem?_cons_zero, List.getElem?_cons_succ, List.set_cons_zero, List.set_cons_succ, Cst.d, R.bind_ok, R.bind_bad, R.bind_exc, SR.bind_nx, SR.bind_rt, SR.bind_bad, SR.bind_exc, R.toS_ok, R.toS_bad, R.toS_exc, if_true, Bool.not_true, Bool.not_false, Bool.false_eq_true, if_false])
/-! ### loops -/
section
variable {ok : S → Prop} {g : D → Fr → S → SR} {items ds : List D} {d : D} {τ τ' : Fr} {s s' : S}
theorem forS_nil (h : ok s) : forS ok g [] τ s = .nx τ s := by unfold forS; rw [if_pos h]
theorem forS_nx (h : ok s) (e : g d τ s = .nx τ' s') : forS ok g (d :: ds) τ s = forS ok g ds τ' s' := by
  conv => lhs; unfold forS
  rw [if_pos h, e]
theorem forS_ct (h : ok s) (e : g d τ s = .ct τ' s') : forS ok g (d :: ds) τ s = forS ok g ds τ' s' := by
  conv => lhs; unfold forS
  rw [if_pos h, e]
theorem forS_rt {x : D} (h : ok s) (e : g d τ s = .rt x s') : forS ok g (d :: ds) τ s = .rt x s' := by
  conv => lhs; unfold forS
  rw [if_pos h, e]
/-- a loop that is run to its end, by what holds ahead of each turn -/
theorem forS_inv (I : Nat → Fr → S → Prop) (hok : ∀ i τ s, I i τ s → ok s) (step : ∀ i d τ s, items[i]? = some d → I i τ s → ∃ τ' s', g d τ s = .nx τ' s' ∧ I (i + 1) τ' s') (h0 : I 0 τ s) :
    ∃ τ' s', forS ok g items τ s = .nx τ' s' ∧ I items.length τ' s' := by
  have key : ∀ (ds : List D) (i : Nat) (τ : Fr) (s : S), items.drop i = ds → i ≤ items.length → I i τ s → ∃ τ' s', forS ok g ds τ s = .nx τ' s' ∧ I items.length τ' s' := by
    intro ds
    induction ds with
    | nil =>
      intro i τ s e hi h
      have : items.length ≤ i := by simpa using e
      have : i = items.length := by omega
      subst this
      exact ⟨τ, s, forS_nil (hok _ _ _ h), h⟩
    | cons d ds ih =>
      intro i τ s e hi h
      have e1 : items[i]? = some d := by
        have := List.getElem?_drop (xs := items) (i := i) (j := 0)
        rw [e] at this
        simpa using this.symm
      have hil := (List.getElem?_eq_some_iff.mp e1).1
      obtain ⟨τ', s', h1, h2⟩ := step i d τ s e1 h
      obtain ⟨τ2, s2, h3, h4⟩ := ih (i + 1) τ' s' (by
        have : items.drop (i + 1) = (items.drop i).drop 1 := by rw [List.drop_drop]
        rw [this, e]; rfl) hil h2
      exact ⟨τ2, s2, (forS_nx (hok _ _ _ h) h1).trans h3, h4⟩
  exact key items 0 τ s rfl (Nat.zero_le _) h0
/-- a comprehension, by what holds ahead of each turn -/
theorem lcS_inv {g : D → S → R (Option D)} (I : Nat → List D → S → Prop) (hok : ∀ i r s, I i r s → ok s) (step : ∀ i d r s, items[i]? = some d → I i r s → ∃ od s', g d s = .ok od s' ∧ I (i + 1) (r ++ od.toList) s') (h0 : I 0 [] s) :
    ∃ r s', lcS ok g items s = .ok r s' ∧ I items.length r s' := by
  have key : ∀ (ds : List D) (i : Nat) (r : List D) (s : S), items.drop i = ds → i ≤ items.length → I i r s → ∃ r' s', lcS ok g ds s = .ok r' s' ∧ I items.length (r ++ r') s' := by
    intro ds
    induction ds with
    | nil =>
      intro i r s e hi h
      have : items.length ≤ i := by simpa using e
      have : i = items.length := by omega
      subst this
      exact ⟨[], s, by unfold lcS; rw [if_pos (hok _ _ _ h)], by simpa using h⟩
    | cons d ds ih =>
      intro i r s e hi h
      have e1 : items[i]? = some d := by
        have := List.getElem?_drop (xs := items) (i := i) (j := 0)
        rw [e] at this
        simpa using this.symm
      have hil := (List.getElem?_eq_some_iff.mp e1).1
      obtain ⟨od, s', h1, h2⟩ := step i d r s e1 h
      obtain ⟨r2, s2, h3, h4⟩ := ih (i + 1) _ s' (by
        have : items.drop (i + 1) = (items.drop i).drop 1 := by rw [List.drop_drop]
        rw [this, e]; rfl) hil h2
      refine ⟨od.toList ++ r2, s2, ?_, by rw [← List.append_assoc]; exact h4⟩
      unfold lcS
      rw [if_pos (hok _ _ _ h), h1, R.bind_ok, h3, R.bind_ok]
      cases od <;> rfl
  simpa using key items 0 [] s rfl (Nat.zero_le _) h0
end
/-- a turn of a for, of a comprehension -/
noncomputable def forB (cl : CL) (t : Tv) (body : Cms) : D → Fr → S → SR := fun d τ s => match asgV t d τ with
  | none => .bad
  | some τ' => exs cl body τ' s
noncomputable def lcB (cl : CL) (τ : Fr) (vs : List Nat) (t : Tv) (cond elt : Ex) : D → S → R (Option D) := fun d s => match asgV t d (wipeF τ vs) with
  | none => .bad
  | some τ' => ((if cond.isNop = true then .ok true s else ((ev cl cond).2 τ' s).calm : R Bool)).bind fun c s => if c = true then (((ev cl elt).1 τ' s).calm).bind fun y s => .ok (some y) s else .ok none s
section
variable {cl : CL} {t : Tv} {k : Ik} {its : Exs} {body : Cms} {τ : Fr} {s s1 s2 : S} {ds r : List D} {src : Src} {elt cond : Ex} {own : List (Str × Nat)}
theorem ex_for (h1 : evs cl its τ s = .ok ds s1) (h2 : srcOf k ds s1 = some src) : ex cl (.for_ t k its body) τ s = forS src.ok (forB cl t body) src.items τ s1 := by
  simp only [ex, h1, R.toS_ok, h2]
  rfl
theorem forB_var {i : Nat} {d : D} : forB cl (.var i) body d τ s = exs cl body (τ.set i (some d)) s := rfl
theorem ev_lc (h1 : evs cl its τ s = .ok ds s1) (h2 : srcOf k ds s1 = some src) (hl : src.items.length < sizeLine) (h3 : lcS src.ok (lcB cl τ (own.map (·.2)) t cond elt) src.items s1 = .ok r s2) :
    evE cl (.lc elt t k its cond own) τ s = .ok (.ref s2.length) (s2 ++ [.lst r]) := by
  show (evs cl its τ s).bind _ = _
  rw [h1, R.bind_ok]
  simp only [h2]
  rw [if_pos hl]
  show (lcS src.ok (lcB cl τ (own.map (·.2)) t cond elt) src.items s1).bind _ = _
  rw [h3]; rfl
theorem lcB_var {i : Nat} {d y : D} {vs : List Nat} (h : evE cl elt ((wipeF τ vs).set i (some d)) s = .ok y s1) : lcB cl τ vs (.var i) .nop elt d s = .ok (some y) s1 := by
  have h : (ev cl elt).1 ((wipeF τ vs).set i (some d)) s = .ok y s1 := h
  simp only [lcB, asgV, Ex.isNop, if_true, R.bind_ok, h, R.calm_ok]
theorem lcB_if {i : Nat} {d y : D} {vs : List Nat} (hn : cond.isNop = false) (hc : evT cl cond ((wipeF τ vs).set i (some d)) s = .ok true s1) (h : evE cl elt ((wipeF τ vs).set i (some d)) s1 = .ok y s2) : lcB cl τ vs (.var i) cond elt d s = .ok (some y) s2 := by
  have h : (ev cl elt).1 ((wipeF τ vs).set i (some d)) s1 = .ok y s2 := h
  have hc : (ev cl cond).2 ((wipeF τ vs).set i (some d)) s = .ok true s1 := hc
  simp only [lcB, asgV, hn, Bool.false_eq_true, if_false, hc, R.calm_ok, R.bind_ok, if_true, h]
theorem lcB_no {i : Nat} {d : D} {vs : List Nat} (hn : cond.isNop = false) (hc : evT cl cond ((wipeF τ vs).set i (some d)) s = .ok false s1) : lcB cl τ vs (.var i) cond elt d s = .ok none s1 := by
  have hc : (ev cl cond).2 ((wipeF τ vs).set i (some d)) s = .ok false s1 := hc
  simp only [lcB, asgV, hn, Bool.false_eq_true, if_false, hc, R.calm_ok, R.bind_ok]
end
/-! ### the store around a pool -/
def PoolAt (n : Nat) (s : S) : Prop := ∃ o, s[n]? = some o ∧ PoolIn o
/-- all but the pool at n stands as it stood -/
structure Gr (n : Nat) (s s' : S) : Prop where
  len : s.length ≤ s'.length
  keep : ∀ i, i < s.length → i ≠ n → s'[i]? = s[i]?
  pool : PoolAt n s'
theorem Gr.trans {n : Nat} {s1 s2 s3 : S} (a : Gr n s1 s2) (b : Gr n s2 s3) : Gr n s1 s3 :=
  ⟨Nat.le_trans a.len b.len, fun i hi hn => (b.keep i (Nat.lt_of_lt_of_le hi a.len) hn).trans (a.keep i hi hn), b.pool⟩
theorem Gr.refl {n : Nat} {s : S} (h : PoolAt n s) : Gr n s s := ⟨Nat.le_refl _, fun _ _ _ => rfl, h⟩
theorem Gr.at {n i : Nat} {s s' : S} {o : O} (g : Gr n s s') (h : s[i]? = some o) (hn : i ≠ n) : s'[i]? = some o := (g.keep i (lt_of_get h) hn).trans h
theorem PoolAt.lt {n : Nat} {s : S} (h : PoolAt n s) : n < s.length := let ⟨_, e, _⟩ := h; lt_of_get e
/-- a new object behind -/
theorem Gr.new {n : Nat} {s : S} (h : PoolAt n s) (o : O) : Gr n s (s ++ [o]) := by
  refine ⟨by simp, fun i hi _ => List.getElem?_append_left hi, ?_⟩
  obtain ⟨p, e, q⟩ := h
  exact ⟨p, by rw [List.getElem?_append_left (lt_of_get e)]; exact e, q⟩
theorem new_at {s : S} {o : O} : (s ++ [o])[s.length]? = some o := by simp
/-- drawing, as a callee -/
def Dr (cl : CL) (draw : Nat) : Prop := ∀ (s : S) (n : Nat) (m : Int), PoolAt n s → 0 < m → m.natAbs.log2 < 9000 → ∃ r s', cl.call draw [.ref n, .int m] s = .ok (.int r) s' ∧ 0 ≤ r ∧ r < m ∧ Gr n s s' ∧ s'.length = s.length
theorem small_log {m : Int} (h0 : 0 < m) (h : m < 2 ^ 64) : m.natAbs.log2 < 9000 := Nat.lt_of_lt_of_le (log2_lt (b := 64) (by omega) (by decide)) (by decide)
theorem dr_of {cl cl' : CL} {mix draw : Nat} (hm : ∀ x y s, ∃ r, cl.call mix [.int x, .int y] s = .ok (.int r) s ∧ 0 ≤ r) (h : ∀ ds s, cl'.call draw ds s = runFn cl ⟨2, 4, bDraw mix⟩ ds s) : Dr cl' draw := by
  intro s n m ⟨o, e, ⟨a, b, c, e', cs, ho, ha, hb, hc, hc2, he⟩⟩ m0 mb
  have hn := lt_of_get e
  obtain ⟨r, o', h1, h2, h3, h4⟩ := run_draw hm (cs := cs) hn ha hb hc hc2 he m0 mb
  rw [← ho, set_same e] at h1
  refine ⟨r, s.set n o', by rw [h, h1], h2, h3, ⟨by simp, fun i hi hne => List.getElem?_set_ne (Ne.symm hne), ⟨o', set_get hn, h4⟩⟩, by simp⟩
/-! ### words -/
def letters : Str := "abcdefghijklmnopqrstuvwxyz"
theorem letters_eq : letters.cps.toList = (List.range 26).map (97 + ·) := by decide +kernel
def Low (x : Str) : Prop := ∀ c ∈ x.cps.toList, 97 ≤ c ∧ c ≤ 122
theorem mem_letters {c : Nat} : c ∈ letters.cps.toList ↔ 97 ≤ c ∧ c ≤ 122 := by
  rw [letters_eq, List.mem_map]
  constructor
  · rintro ⟨k, hk, rfl⟩
    have := List.mem_range.mp hk
    omega
  · rintro ⟨h1, h2⟩
    exact ⟨c - 97, List.mem_range.mpr (by omega), by omega⟩
theorem letter_ix {r : Int} (h0 : 0 ≤ r) (h : r < 26) {s : S} : ∃ c, ixD (.str letters) (.int r) s = .ok (.str ⟨#[c]⟩) s ∧ 97 ≤ c ∧ c ≤ 122 := by
  refine ⟨97 + r.toNat, ?_, by omega, by omega⟩
  have hl : letters.length ≤ sizeLine := by decide +kernel
  have ha : L2.atI letters.cps.toList r = some (97 + r.toNat) := by
    refine atI_of h0 ?_
    rw [letters_eq, List.getElem?_map, List.getElem?_range (by omega)]
    rfl
  simp only [ixD, if_pos hl, ha]
theorem low_app {x y : Str} (hx : Low x) (hy : Low y) : Low (x ++ y) := by
  intro c hc
  have : c ∈ (x.cps ++ y.cps).toList := hc
  rw [Array.toList_append] at this
  rcases List.mem_append.mp this with h | h
  · exact hx c h
  · exact hy c h
theorem len_app (x y : Str) : (x ++ y).length = x.length + y.length := by
  show (x.cps ++ y.cps).size = x.cps.size + y.cps.size
  exact Array.size_append
theorem low_one {c : Nat} (h : 97 ≤ c ∧ c ≤ 122) : Low ⟨#[c]⟩ := by
  intro d hd
  have : d = c := by simpa using hd
  rw [this]; exact h
def bWord (draw : Nat) : Cms := .cons (.asg (.loc (.var 2)) (.cst (.str "abcdefghijklmnopqrstuvwxyz")))
    (.cons (.asg (.loc (.var 3)) (.cst (.str "")))
    (.cons (.for_ (.var 4) .rng1 (.cons (.var 1) .nil) (.cons (.asg (.loc (.var 3)) (.bin .add (.var 3) (.ix (.var 2) (.call draw (.cons (.var 0) (.cons (.cst (.int 26)) .nil)))))) .nil))
    (.cons (.ret (.var 3)) .nil)))
theorem src_rng {m : Int} (h0 : 0 ≤ m) (h : m < 2 ^ 62) (s : S) : srcOf .rng1 [.int m] s = some (.vals (rngD 0 m.toNat)) := by
  simp only [srcOf]
  rw [if_pos (by omega)]
theorem rng_at {lo : Int} {n i : Nat} {d : D} (h : (rngD lo n)[i]? = some d) : i < n ∧ d = .int (lo + i) := by
  simp only [rngD, List.getElem?_map, Option.map_eq_some_iff] at h
  obtain ⟨a, h1, h2⟩ := h
  obtain ⟨h3, h4⟩ := List.getElem?_eq_some_iff.mp h1
  simp at h3 h4
  subst h4
  exact ⟨h3, h2.symm⟩
theorem rng_len (lo : Int) (n : Nat) : (rngD lo n).length = n := by simp [rngD]
theorem run_word {cl : CL} {draw : Nat} (hd : Dr cl draw) {s : S} {n : Nat} {m : Int} (hp : PoolAt n s) (h0 : 0 ≤ m) (h : m ≤ 1000) :
    ∃ x s', runFn cl ⟨2, 5, bWord draw⟩ [.ref n, .int m] s = .ok (.str x) s' ∧ Low x ∧ (x.length : Int) = m ∧ Gr n s s' ∧ s'.length = s.length := by
  let I : Nat → Fr → S → Prop := fun i τ s' => ∃ x k, τ = [some (.ref n), some (.int m), some (.str letters), some (.str x), k] ∧ Low x ∧ x.length = i ∧ Gr n s s' ∧ s'.length = s.length
  have e1 : (Str.ofString "").length = 0 := by decide +kernel
  have e2 : Low (Str.ofString "") := by
    intro c hc
    have : (Str.ofString "").cps.toList = [] := by decide +kernel
    rw [this] at hc; cases hc
  obtain ⟨τ', s', h1, x, k, rfl, hx, hl, hg, hl2⟩ := forS_inv (ok := (Src.vals (rngD 0 m.toNat)).ok) (g := forB cl (.var 4) (.cons (.asg (.loc (.var 3)) (.bin .add (.var 3) (.ix (.var 2) (.call draw (.cons (.var 0) (.cons (.cst (.int 26)) .nil)))))) .nil))
    (items := rngD 0 m.toNat) (τ := [some (.ref n), some (.int m), some (.str letters), some (.str (Str.ofString "")), none]) (s := s) I (fun _ _ _ _ => trivial) (fun i d τ s' hi ⟨x, k, hτ, hx, hl, hg, hl2⟩ => by
      subst hτ
      obtain ⟨r, s2, q1, q2, q3, q4, q5⟩ := hd s' n 26 hg.pool (by decide) (by decide +kernel)
      obtain ⟨c, c1, c2⟩ := letter_ix q2 q3 (s := s2)
      have hil := (rng_at hi).1
      refine ⟨[some (.ref n), some (.int m), some (.str letters), some (.str (x ++ ⟨#[c]⟩)), some d], s2, ?_, x ++ ⟨#[c]⟩, _, rfl, low_app hx (low_one c2), by rw [len_app, hl]; rfl, hg.trans q4, by rw [q5, hl2]⟩
      rw [forB_var]
      refine (exs_nx (ex_asg ?_)).trans rfl
      walk_at "ev"
      rw [q1]; walk_at "ev"
      rw [c1]; walk_at "ev"
      simp only [binD, addD]
      rw [if_pos (by rw [hl, sizeLine_eq]; show i + 1 ≤ _; omega)]) ⟨_, none, rfl, e2, e1, Gr.refl hp, rfl⟩
  refine ⟨x, s', run_rt rfl ?_, hx, by rw [hl, rng_len]; omega, hg, hl2⟩
  refine (exs_nx (ex_asg (d := .str letters) (s' := s) rfl)).trans ?_
  refine (exs_nx (ex_asg (d := .str (Str.ofString "")) (s' := s) rfl)).trans ?_
  refine (exs_nx (τ' := [some (.ref n), some (.int m), some (.str letters), some (.str x), k]) (s' := s') ?_).trans (exs_rt (ex_ret rfl))
  rw [← h1]
  exact ex_for rfl (src_rng h0 (by omega) s)
/-- words, as a callee -/
def Wo (cl : CL) (word : Nat) : Prop := ∀ (s : S) (n : Nat) (m : Int), PoolAt n s → 0 ≤ m → m ≤ 1000 → ∃ x s', cl.call word [.ref n, .int m] s = .ok (.str x) s' ∧ Low x ∧ (x.length : Int) = m ∧ Gr n s s' ∧ s'.length = s.length
theorem wo_of {cl cl' : CL} {draw word : Nat} (hd : Dr cl draw) (h : ∀ ds s, cl'.call word ds s = runFn cl ⟨2, 5, bWord draw⟩ ds s) : Wo cl' word := fun s n m hp h0 h1 => by
  obtain ⟨x, s', a, b⟩ := run_word hd hp h0 h1
  exact ⟨x, s', by rw [h, a], b⟩
/-- the pool, made of the script -/
def bPool : Cms := .cons (.ret (.bin .add (.lst (.cons (.cst (.int 0)) (.cons (.cst (.int 4)) (.cons (.cst (.int 5)) (.cons (.cst (.int 0)) .nil))))) (.lc (.blt .int (.cons (.var 1) .nil)) (.var 1) .seq (.cons (.var 0) .nil) .nop [("_law_cell", 1)]))) .nil
theorem run_pool (cl : CL) (ns : List Int) (h : ns.length ≤ 63) : ∃ s n, runFn cl ⟨1, 2, bPool⟩ [.flst (ns.map .int)] [] = .ok (.ref n) s ∧ PoolAt n s := by
  have hlc : lcS (Src.vals (ns.map D.int)).ok (lcB cl [some (.flst (ns.map .int)), none] [1] (.var 1) .nop (.blt .int (.cons (.var 1) .nil))) (ns.map D.int) [.lst [.int 0, .int 4, .int 5, .int 0]]
        = .ok (ns.map D.int) [.lst [.int 0, .int 4, .int 5, .int 0]] := by
    obtain ⟨r, s', h1, h2, h3⟩ := lcS_inv (ok := (Src.vals (ns.map D.int)).ok) (items := ns.map D.int) (s := [.lst [.int 0, .int 4, .int 5, .int 0]]) (fun i r s => r = (ns.take i).map D.int ∧ s = [.lst [.int 0, .int 4, .int 5, .int 0]]) (fun _ _ _ _ => trivial)
      (g := lcB cl [some (.flst (ns.map .int)), none] [1] (.var 1) .nop (.blt .int (.cons (.var 1) .nil)))
      (fun i d r s hi ⟨hr, hs⟩ => by
        rw [List.getElem?_map, Option.map_eq_some_iff] at hi
        obtain ⟨x, hx, rfl⟩ := hi
        refine ⟨some (.int x), s, lcB_var rfl, ?_, hs⟩
        rw [hr]
        have : ns.take (i + 1) = ns.take i ++ [x] := by
          rw [List.take_add_one, hx]; rfl
        rw [this, List.map_append]; rfl) ⟨rfl, rfl⟩
    rw [h1, h2, h3, List.length_map, List.take_length]
  refine ⟨[.lst [.int 0, .int 4, .int 5, .int 0], .lst (ns.map .int), pool 0 4 5 0 ns], 2, run_rt rfl (exs_rt (ex_ret ?_)), ⟨_, rfl, ⟨0, 4, 5, 0, ns, rfl, by omega, by omega, by omega, by omega, by omega⟩⟩⟩
  have e2 : evE cl (.lc (.blt .int (.cons (.var 1) .nil)) (.var 1) .seq (.cons (.var 0) .nil) .nop [("_law_cell", 1)]) [some (.flst (ns.map .int)), none] [.lst [.int 0, .int 4, .int 5, .int 0]] = .ok (.ref 1) [.lst [.int 0, .int 4, .int 5, .int 0], .lst (ns.map .int)] :=
    ev_lc (s2 := [.lst [.int 0, .int 4, .int 5, .int 0]]) (r := ns.map .int) (src := .vals (ns.map .int)) rfl rfl (by show (ns.map D.int).length < _; rw [List.length_map, sizeLine_eq]; omega) hlc
  have e2 : (ev cl (.lc (.blt .int (.cons (.var 1) .nil)) (.var 1) .seq (.cons (.var 0) .nil) .nop [("_law_cell", 1)])).1 [some (.flst (ns.map .int)), none] [.lst [.int 0, .int 4, .int 5, .int 0]] = _ := e2
  show (R.ok (D.ref 0) [.lst [.int 0, .int 4, .int 5, .int 0]]).bind (fun x s => ((ev cl (.lc (.blt .int (.cons (.var 1) .nil)) (.var 1) .seq (.cons (.var 0) .nil) .nop [("_law_cell", 1)])).1 [some (.flst (ns.map .int)), none] s).bind fun y s => binD .add x y s) = _
  rw [R.bind_ok, e2, R.bind_ok]
  simp only [binD, addD, List.getElem?_cons_zero, List.getElem?_cons_succ]
  rw [if_pos (by simp only [List.length_cons, List.length_nil, List.length_map, sizeLine_eq]; omega)]
  rfl
end G

set_option Elab.async false
set_option linter.all false
set_option maxRecDepth 100000
set_option autoImplicit false
set_option maxHeartbeats 1000000
/-! Lw3: texts of plain signs; lists of texts compared. -/
namespace G
open PySem
/-- plain signs -/
def Asc (x : Str) : Prop := ∀ c ∈ x.cps.toList, c < 128
theorem Low.asc {x : Str} (h : Low x) : Asc x := fun c hc => by have := h c hc; omega
theorem asc_app {x y : Str} (hx : Asc x) (hy : Asc y) : Asc (x ++ y) := by
  intro c hc
  have : c ∈ (x.cps ++ y.cps).toList := hc
  rw [Array.toList_append] at this
  exact (List.mem_append.mp this).elim (hx c) (hy c)
theorem asc_cut {x : Str} (hx : Asc x) (lo hi : Option Int) : Asc (L2.cutS x lo hi) := by
  intro c hc
  unfold L2.cutS at hc
  rw [List.toList_toArray] at hc
  exact hx c (List.mem_of_mem_drop (List.mem_of_mem_take hc))
theorem asc_one {c : Nat} (h : c < 128) : Asc ⟨#[c]⟩ := by
  intro d hd
  have : d = c := by simpa using hd
  omega
theorem asc_fold {sep : Str} (hs : Asc sep) : ∀ (ys : List Str) (acc : Array Nat), (∀ y ∈ ys, Asc y) → (∀ c ∈ acc.toList, c < 128) → ∀ c ∈ (ys.foldl (fun acc p => acc ++ sep.cps ++ p.cps) acc).toList, c < 128
  | [], acc, _, h => h
  | y :: ys, acc, hy, h => by
    refine asc_fold hs ys _ (fun z hz => hy z (List.mem_cons_of_mem _ hz)) fun c hc => ?_
    rw [Array.toList_append, Array.toList_append] at hc
    rcases List.mem_append.mp hc with hc | hc
    · exact (List.mem_append.mp hc).elim (h c) (hs c)
    · exact hy y List.mem_cons_self c hc
theorem asc_join {sep : Str} (hs : Asc sep) {ys : List Str} (hy : ∀ y ∈ ys, Asc y) : Asc (Txt.join sep ys) := by
  unfold Txt.join Builtin.Str.glued
  refine asc_fold hs _ _ (fun y h => hy y (List.mem_of_mem_drop h)) ?_
  cases ys with
  | nil => intro c hc; cases hc
  | cons y ys => exact hy y List.mem_cons_self
theorem asc_ok {x : Str} (h : Asc x) : PyData.strOk x = true := by
  unfold PyData.strOk
  rw [Array.all_eq_true_iff_forall_mem]
  intro c hc
  have := h c (Array.mem_toList_iff.mpr hc)
  exact decide_eq_true (by omega)
theorem toPs_strs (k : Nat) (s : S) : ∀ ys : List Str, toPs k s (ys.map .str) = some (ys.map .str)
  | [] => by simp [toPs]
  | y :: ys => by simp only [List.map_cons, toPs, toP, toPs_strs k s ys]
theorem lay_strs : ∀ {ys : List Str}, (∀ y ∈ ys, Asc y) → PyData.canLayAll0 (ys.map .str) = true
  | [], _ => rfl
  | y :: ys, h => by
    simp only [List.map_cons, PyData.canLayAll0, PyData.canLay0, Bool.and_eq_true]
    exact ⟨asc_ok (h y List.mem_cons_self), lay_strs fun z hz => h z (List.mem_cons_of_mem _ hz)⟩
theorem depth_strs : ∀ ys : List Str, PyData.depthAll (ys.map .str) = 0
  | [] => by simp [PyData.depthAll]
  | y :: ys => by simp [PyData.depthAll, PyData.depth, depth_strs ys]
theorem shaped_strs {ys : List Str} (h : ∀ y ∈ ys, Asc y) : SeqAt.shaped (.list (ys.map .str)) = true := by
  unfold SeqAt.shaped
  simp only [PyData.canLay0, lay_strs h, PyData.depth, depth_strs, Bool.true_and]
  decide
theorem toP_ref {k n : Nat} {s : S} {ds : List D} (h : s[n]? = some (.lst ds)) : toP (k + 1) s (.ref n) = (toPs k s ds).map .list := by simp only [toP, h]
/-- a list of texts == [] -/
theorem eqD_nil {s : S} {m n : Nat} {ys : List Str} (h : ∀ y ∈ ys, Asc y) (h1 : s[m]? = some (.lst (ys.map .str))) (h2 : s[n]? = some (.lst [])) : eqD (.ref m) (.ref n) s = .ok ys.isEmpty s := by
  simp only [eqD, toP_ref h1, toP_ref h2, toPs_strs, toPs, Option.map_some]
  rw [if_pos ⟨shaped_strs h, by rfl⟩]
  congr 1
  cases ys <;> simp [PyData.eqv, PyData.eqvAll]
end G

set_option Elab.async false
set_option linter.all false
set_option maxRecDepth 100000
set_option maxHeartbeats 4000000
namespace K01
open PySem PySem.Spec PyProof.Rows L2 G
def top (i : Nat) : Stmt := PySem.Challenge.pw_cappedcalls_k01_words_and_values.main.body.getD i (.Pass ⟨0, 0, 0, 0⟩)
/-- 0: is_integer -/
def b0 : Cms := .cons (.ret (.and (.isi (.var 0) .int) (.not (.isi (.var 0) .bool)))) .nil
def f0 : Fn := ⟨1, 1, b0⟩
abbrev s0 : Stmt := top 3
def d0 : Df := ⟨"is_integer", "is_integer", ["thing"], ["thing"], s0, f0⟩
/-- 1: is_word -/
def b1 : Cms := .cons (.ite (.or (.not (.isi (.var 0) .str)) (.not (.cmp2 .le .le (.cst (.int 1)) (.blt .len (.cons (.var 0) .nil)) (.cst (.int 8))))) (.cons (.ret (.cst (.bl false))) .nil) (.nil))
    (.cons (.for_ (.var 1) .seq (.cons (.var 0) .nil) (.cons (.ite (.cmp .nin (.var 1) (.glob 1)) (.cons (.ret (.cst (.bl false))) .nil) (.nil)) .nil))
    (.cons (.ret (.cst (.bl true))) .nil))
def f1 : Fn := ⟨1, 2, b1⟩
abbrev s1 : Stmt := top 4
def d1 : Df := ⟨"is_word", "is_word", ["thing", "sign"], ["thing"], s1, f1⟩
/-- 2: is_value -/
def b2 : Cms := .cons (.ite (.call 0 (.cons (.var 0) .nil)) (.cons (.ret (.cmp2 .lt .lt (.neg (.glob 0)) (.var 0) (.glob 0))) .nil) (.nil))
    (.cons (.ret (.call 1 (.cons (.var 0) .nil))) .nil)
def f2 : Fn := ⟨1, 1, b2⟩
abbrev s2 : Stmt := top 5
def d2 : Df := ⟨"is_value", "is_value", ["thing"], ["thing"], s2, f2⟩
/-- 3: _law_pool -/
def b3 : Cms := .cons (.ret (.bin .add (.lst (.cons (.cst (.int 0)) (.cons (.cst (.int 4)) (.cons (.cst (.int 5)) (.cons (.cst (.int 0)) .nil))))) (.lc (.blt .int (.cons (.var 1) .nil)) (.var 1) .seq (.cons (.var 0) .nil) .nop [("_law_cell", 1)]))) .nil
def f3 : Fn := ⟨1, 2, b3⟩
abbrev s3 : Stmt := top 7
def d3 : Df := ⟨"_law_pool", "_law_pool", ["_law_script", "_law_cell"], ["_law_script"], s3, f3⟩
/-- 4: _law_mixed -/
def b4 : Cms := .cons (.asg (.loc (.var 2)) (.bin .mod (.blt .int (.cons (.bin .mul (.bin .add (.bin .add (.var 0) (.bin .mul (.cst (.int 7919)) (.var 1))) (.cst (.int 1))) (.cst (.int 48271))) .nil)) (.cst (.int 2147483647))))
    (.cons (.asg (.loc (.var 2)) (.bin .mod (.blt .int (.cons (.bin .mul (.var 2) (.bin .add (.bin .fdiv (.var 2) (.cst (.int 1009))) (.cst (.int 69621)))) .nil)) (.cst (.int 2147483647))))
    (.cons (.ret (.bin .mod (.blt .int (.cons (.bin .mul (.var 2) (.bin .add (.bin .fdiv (.var 2) (.cst (.int 2003))) (.cst (.int 40692)))) .nil)) (.cst (.int 2147483399)))) .nil))
def f4 : Fn := ⟨2, 3, b4⟩
abbrev s4 : Stmt := top 8
def d4 : Df := ⟨"_law_mixed", "_law_mixed", ["_law_seed", "_law_count", "_law_number"], ["_law_seed", "_law_count"], s4, f4⟩
/-- 5: _law_draw -/
def b5 : Cms := .cons (.asg (.sub (.var 0) (.cst (.int 3))) (.bin .add (.ix (.var 0) (.cst (.int 3))) (.cst (.int 1))))
    (.cons (.ite (.and (.cmp .eq (.ix (.var 0) (.cst (.int 0))) (.cst (.int 0))) (.cmp .lt (.ix (.var 0) (.cst (.int 1))) (.blt .len (.cons (.var 0) .nil)))) (.cons (.asg (.loc (.var 2)) (.blt .abs (.cons (.ix (.var 0) (.ix (.var 0) (.cst (.int 1)))) .nil)))
    (.cons (.asg (.sub (.var 0) (.cst (.int 1))) (.bin .add (.ix (.var 0) (.cst (.int 1))) (.cst (.int 1))))
    (.cons (.ite (.cmp .lt (.var 2) (.bin .pow (.cst (.int 10)) (.cst (.int 18)))) (.cons (.asg (.sub (.var 0) (.cst (.int 2))) (.bin .mod (.blt .int (.cons (.bin .add (.bin .add (.bin .mul (.ix (.var 0) (.cst (.int 2))) (.cst (.int 7919))) (.var 2)) (.cst (.int 1))) .nil)) (.cst (.int 2147483647)))) .nil) (.cons (.asg (.sub (.var 0) (.cst (.int 0))) (.var 2)) .nil)) .nil))) (.nil))
    (.cons (.ite (.cmp .gt (.ix (.var 0) (.cst (.int 0))) (.cst (.int 0))) (.cons (.asg (.loc (.var 3)) (.bin .mod (.blt .int (.cons (.ix (.var 0) (.cst (.int 0))) .nil)) (.var 1)))
    (.cons (.asg (.sub (.var 0) (.cst (.int 0))) (.bin .fdiv (.ix (.var 0) (.cst (.int 0))) (.var 1)))
    (.cons (.ret (.var 3)) .nil))) (.nil))
    (.cons (.ret (.bin .mod (.blt .int (.cons (.call 4 (.cons (.ix (.var 0) (.cst (.int 2))) (.cons (.ix (.var 0) (.cst (.int 3))) .nil))) .nil)) (.var 1))) .nil)))
def f5 : Fn := ⟨2, 4, b5⟩
abbrev s5 : Stmt := top 9
def d5 : Df := ⟨"_law_draw", "_law_draw", ["_law_pool_here", "_law_many", "_law_cell", "_law_found"], ["_law_pool_here", "_law_many"], s5, f5⟩
/-- 6: _law_word -/
def b6 : Cms := .cons (.asg (.loc (.var 2)) (.cst (.str "abcdefghijklmnopqrstuvwxyz")))
    (.cons (.asg (.loc (.var 3)) (.cst (.str "")))
    (.cons (.for_ (.var 4) .rng1 (.cons (.var 1) .nil) (.cons (.asg (.loc (.var 3)) (.bin .add (.var 3) (.ix (.var 2) (.call 5 (.cons (.var 0) (.cons (.cst (.int 26)) .nil)))))) .nil))
    (.cons (.ret (.var 3)) .nil)))
def f6 : Fn := ⟨2, 5, b6⟩
abbrev s6 : Stmt := top 10
def d6 : Df := ⟨"_law_word", "_law_word", ["_law_pool_here", "_law_many", "_law_letters", "_law_word_here", "_law_k"], ["_law_pool_here", "_law_many"], s6, f6⟩
/-- 7: _law_sign -/
def b7 : Cms := .cons (.asg (.loc (.var 1)) (.cst (.str " !\"#$&'()*+,-./0123456789:;<=>?@ABCDEFGHIJKLMNOPQRSTUVWXYZ[\\]^_`")))
    (.cons (.asg (.loc (.var 1)) (.bin .add (.var 1) (.cst (.str "abcdefghijklmnopqrstuvwxyz{|}~"))))
    (.cons (.ret (.ix (.var 1) (.call 5 (.cons (.var 0) (.cons (.blt .len (.cons (.var 1) .nil)) .nil))))) .nil))
def f7 : Fn := ⟨1, 2, b7⟩
abbrev s7 : Stmt := top 11
def d7 : Df := ⟨"_law_sign", "_law_sign", ["_law_pool_here", "_law_signs"], ["_law_pool_here"], s7, f7⟩
/-- 8: _law_string -/
def b8 : Cms := .cons (.asg (.loc (.var 1)) (.call 5 (.cons (.var 0) (.cons (.cst (.int 3)) .nil))))
    (.cons (.asg (.loc (.var 2)) (.call 6 (.cons (.var 0) (.cons (.call 5 (.cons (.var 0) (.cons (.cst (.int 11)) .nil))) .nil))))
    (.cons (.ite (.and (.cmp .eq (.var 1) (.cst (.int 0))) (.cmp .gt (.blt .len (.cons (.var 2) .nil)) (.cst (.int 0)))) (.cons (.asg (.loc (.var 3)) (.call 5 (.cons (.var 0) (.cons (.blt .len (.cons (.var 2) .nil)) .nil))))
    (.cons (.ret (.bin .add (.bin .add (.sl (.var 2) .nop (.var 3)) (.call 7 (.cons (.var 0) .nil))) (.sl (.var 2) (.bin .add (.var 3) (.cst (.int 1))) .nop))) .nil)) (.nil))
    (.cons (.ite (.cmp .eq (.var 1) (.cst (.int 1))) (.cons (.ret (.meth .join (.cst (.str "")) (.cons (.lc (.call 7 (.cons (.var 0) .nil)) (.var 4) .rng1 (.cons (.call 5 (.cons (.var 0) (.cons (.cst (.int 4)) .nil))) .nil) .nop [("_law_k", 4)]) .nil))) .nil) (.nil))
    (.cons (.ret (.var 2)) .nil))))
def f8 : Fn := ⟨1, 5, b8⟩
abbrev s8 : Stmt := top 12
def d8 : Df := ⟨"_law_string", "_law_string", ["_law_pool_here", "_law_kind", "_law_word_here", "_law_at", "_law_k"], ["_law_pool_here"], s8, f8⟩
/-- 9: _law_thing -/
def b9 : Cms := .cons (.asg (.loc (.var 1)) (.call 5 (.cons (.var 0) (.cons (.cst (.int 6)) .nil))))
    (.cons (.ite (.cmp .eq (.var 1) (.cst (.int 0))) (.cons (.ret (.bin .sub (.call 5 (.cons (.var 0) (.cons (.bin .mul (.cst (.int 2)) (.bin .pow (.cst (.int 10)) (.cst (.int 32)))) .nil))) (.bin .pow (.cst (.int 10)) (.cst (.int 32))))) .nil) (.nil))
    (.cons (.ite (.cmp .eq (.var 1) (.cst (.int 1))) (.cons (.ret (.ix (.lst (.cons (.bin .pow (.cst (.int 10)) (.cst (.int 30))) (.cons (.bin .sub (.bin .pow (.cst (.int 10)) (.cst (.int 30))) (.cst (.int 1))) (.cons (.bin .sub (.cst (.int 1)) (.bin .pow (.cst (.int 10)) (.cst (.int 30)))) (.cons (.neg (.bin .pow (.cst (.int 10)) (.cst (.int 30)))) (.cons (.cst (.int 0)) (.cons (.neg (.cst (.int 1))) .nil))))))) (.call 5 (.cons (.var 0) (.cons (.cst (.int 6)) .nil))))) .nil) (.nil))
    (.cons (.ite (.cmp .eq (.var 1) (.cst (.int 2))) (.cons (.ret (.ix (.lst (.cons (.cst (.bl true)) (.cons (.cst (.bl false)) (.cons (.cst .non) (.cons (.tup (.cons (.cst (.int 1)) .nil)) (.cons (.lst (.cons (.cst (.str "a")) .nil)) (.cons (.tup (.cons (.cst (.str "ab")) .nil)) .nil))))))) (.call 5 (.cons (.var 0) (.cons (.cst (.int 6)) .nil))))) .nil) (.nil))
    (.cons (.ret (.call 8 (.cons (.var 0) .nil))) .nil))))
def f9 : Fn := ⟨1, 2, b9⟩
abbrev s9 : Stmt := top 13
def d9 : Df := ⟨"_law_thing", "_law_thing", ["_law_pool_here", "_law_kind"], ["_law_pool_here"], s9, f9⟩
/-- 10: _law_due_word -/
def b10 : Cms := .cons (.ite (.not (.isi (.var 0) .str)) (.cons (.ret (.cst (.bl false))) .nil) (.nil))
    (.cons (.ite (.or (.cmp .eq (.blt .len (.cons (.var 0) .nil)) (.cst (.int 0))) (.cmp .gt (.blt .len (.cons (.var 0) .nil)) (.cst (.int 8)))) (.cons (.ret (.cst (.bl false))) .nil) (.nil))
    (.cons (.ret (.cmp .eq (.lc (.var 1) (.var 1) .seq (.cons (.var 0) .nil) (.cmp .nin (.var 1) (.cst (.str "abcdefghijklmnopqrstuvwxyz"))) [("_law_sign_here", 1)]) (.lst .nil))) .nil))
def f10 : Fn := ⟨1, 2, b10⟩
abbrev s10 : Stmt := top 14
def d10 : Df := ⟨"_law_due_word", "_law_due_word", ["_law_thing_here", "_law_sign_here"], ["_law_thing_here"], s10, f10⟩
/-- 11: law -/
def b11 : Cms := .cons (.asg (.loc (.var 1)) (.call 3 (.cons (.var 0) .nil)))
    (.cons (.asg (.loc (.var 2)) (.call 9 (.cons (.var 1) .nil)))
    (.cons (.asg (.loc (.var 3)) (.call 10 (.cons (.var 2) .nil)))
    (.cons (.asg (.loc (.var 4)) (.call 1 (.cons (.var 2) .nil)))
    (.cons (.ite (.or (.not (.isi (.var 4) .bool)) (.cmp .ne (.var 4) (.var 3))) (.cons (.ret (.cst (.bl false))) .nil) (.nil))
    (.cons (.ite (.and (.isi (.var 2) .int) (.not (.isi (.var 2) .bool))) (.cons (.asg (.loc (.var 3)) (.cmp2 .le .le (.bin .sub (.cst (.int 1)) (.bin .pow (.cst (.int 10)) (.cst (.int 30)))) (.var 2) (.bin .sub (.bin .pow (.cst (.int 10)) (.cst (.int 30))) (.cst (.int 1))))) .nil) (.nil))
    (.cons (.asg (.loc (.var 4)) (.call 2 (.cons (.var 2) .nil)))
    (.cons (.ret (.and (.isi (.var 4) .bool) (.cmp .eq (.var 4) (.var 3)))) .nil)))))))
def f11 : Fn := ⟨1, 5, b11⟩
abbrev s11 : Stmt := top 15
def d11 : Df := ⟨"law", "law", ["_law_script", "_law_pool_here", "_law_thing_here", "_law_due", "_law_told"], ["_law_script"], s11, f11⟩
def ga : Ga := ⟨[f0, f1, f2, f3, f4, f5, f6, f7, f8, f9, f10, f11], [.int 1000000000000000000000000000000, .str "abcdefghijklmnopqrstuvwxyz"]⟩
def dfs : List Df := [d0, d1, d2, d3, d4, d5, d6, d7, d8, d9, d10, d11]
def fnames : List Str := ["is_integer", "is_word", "is_value", "_law_pool", "_law_mixed", "_law_draw", "_law_word", "_law_sign", "_law_string", "_law_thing", "_law_due_word", "law"]
def gnames : List Str := ["BOUND", "LETTERS"]
theorem names_ok : dfs.map (·.name) = fnames := rfl
theorem ok0 : okD fnames gnames d0 = true := by decide +kernel
theorem ok1 : okD fnames gnames d1 = true := by decide +kernel
theorem ok2 : okD fnames gnames d2 = true := by decide +kernel
theorem ok3 : okD fnames gnames d3 = true := by decide +kernel
theorem ok4 : okD fnames gnames d4 = true := by decide +kernel
theorem ok5 : okD fnames gnames d5 = true := by decide +kernel
theorem ok6 : okD fnames gnames d6 = true := by decide +kernel
theorem ok7 : okD fnames gnames d7 = true := by decide +kernel
theorem ok8 : okD fnames gnames d8 = true := by decide +kernel
theorem ok9 : okD fnames gnames d9 = true := by decide +kernel
theorem ok10 : okD fnames gnames d10 = true := by decide +kernel
theorem ok11 : okD fnames gnames d11 = true := by decide +kernel
end K01

set_option Elab.async false
set_option linter.all false
set_option maxRecDepth 100000
set_option autoImplicit false
set_option maxHeartbeats 1000000
namespace K01
open PySem G
local macro_rules | `(tactic| walk_at "ev") => `(tactic| simp only [runFn, exs, ex, evE, evT, ev, evs, plainT, asB, store, asgV, srcOf, evPart, List.length_cons, List.length_nil, List.map_cons, List.map_nil, List.cons_append, List.nil_append, List.replicate_succ, List.replicate_zero, Nat.reduceSub, Nat.reduceAdd, List.getElem?_cons_zero, List.getElem?_cons_succ, List.set_cons_zero, List.set_cons_succ, Cst.d, Ex.isNop, R.bind_ok, R.bind_bad, R.bind_exc, SR.bind_nx, SR.bind_rt, SR.bind_bad, SR.bind_exc, R.toS_ok, R.toS_bad, R.toS_exc, if_true, Bool.not_true, Bool.not_false, Bool.false_eq_true, if_false, addI, subI, eqI, *])
abbrev callk {k f : Nat} {fn : Fn} (h : ga.fns[f]? = some fn) (ds : List D) (s : S) := call_of (k := k) h ds s
theorem dr {k : Nat} (hk : 2 ≤ k) : Dr (clF ga k) 5 := by
  obtain ⟨j, rfl, hj⟩ := lv hk
  obtain ⟨i, rfl, hi⟩ := lv hj
  refine dr_of (cl := clF ga (i + 1)) (mix := 4) (fun x y s => ?_) (fun ds s => callk rfl ds s)
  obtain ⟨r, h1, h2⟩ := run_mixed (clF ga i) s x y
  exact ⟨r, (callk (fn := f4) rfl _ _).trans h1, h2⟩
theorem wo {k : Nat} (hk : 3 ≤ k) : Wo (clF ga k) 6 := by
  obtain ⟨j, rfl, hj⟩ := lv hk
  exact wo_of (dr hj) (fun ds s => callk rfl ds s)
def signs : Str := (" !\"#$&'()*+,-./0123456789:;<=>?@ABCDEFGHIJKLMNOPQRSTUVWXYZ[\\]^_`" : Str) ++ ("abcdefghijklmnopqrstuvwxyz{|}~" : Str)
theorem signs_len : signs.length = 94 := by decide +kernel
theorem sign {k : Nat} (hk : 3 ≤ k) {s : S} {n : Nat} (hp : PoolAt n s) : ∃ c s', (clF ga k).call 7 [.ref n] s = .ok (.str ⟨#[c]⟩) s' ∧ c < 128 ∧ Gr n s s' := by
  obtain ⟨j, rfl, hj⟩ := lv hk
  obtain ⟨r, s', q1, q2, q3, q4, _⟩ := dr hj s n 94 hp (by decide) (by decide +kernel)
  have hl : signs.cps.toList.length = 94 := by decide +kernel
  have hi : r.toNat < signs.cps.toList.length := by omega
  have hs : ∀ c ∈ signs.cps.toList, c < 128 := by decide +kernel
  refine ⟨signs.cps.toList[r.toNat], s', ?_, hs _ (List.getElem_mem hi), q4⟩
  rw [callk (fn := f7) rfl]
  refine run_rt rfl ?_
  show exs (clF ga j) b7 [some (.ref n), none] s = _
  refine (exs_nx (ex_asg (s' := s) rfl)).trans ?_
  refine (exs_nx (ex_asg (d := .str signs) (s' := s) ?_)).trans ?_
  · walk_at "ev"
    simp only [binD, addD]
    rw [if_pos (by decide +kernel)]
    rfl
  · refine exs_rt (ex_ret ?_)
    walk_at "ev"
    simp only [bltD]
    rw [if_pos (by rw [signs_len]; decide +kernel)]
    walk_at "ev"
    rw [signs_len]
    show ((clF ga j).call 5 [.ref n, .int 94] s).bind _ = _
    walk_at "ev"
    simp only [ixD]
    rw [if_pos (by rw [signs_len]; decide +kernel), atI_of q2 (List.getElem?_eq_getElem hi)]
theorem cut_len (x : Str) (lo hi : Option Int) : (L2.cutS x lo hi).length ≤ x.length := L2.cutS_length x lo hi
theorem join_len : ∀ {ys : List Str} (h : ∀ y ∈ ys, y.length = 1), (ys.map (·.length)).sum = ys.length
  | [], _ => rfl
  | y :: ys, h => by
    rw [List.map_cons, List.sum_cons, h y (by simp), join_len fun z hz => h z (by simp [hz])]
    simp; omega
theorem strsOf_map : ∀ ys : List Str, strsOf (ys.map .str) = some ys
  | [] => rfl
  | y :: ys => by simp only [List.map_cons, strsOf, strsOf_map ys, Option.map_some]
theorem txt_join (ys : List Str) (h : ∀ y ∈ ys, y.length = 1) : (Txt.join "" ys).length = ys.length := by
  unfold Txt.join
  rw [size_glued, join_len h, show (Str.ofString "").length = 0 by decide +kernel]
  omega
theorem asc_nil : Asc (Str.ofString "") := by
  intro c hc
  rw [show (Str.ofString "").cps.toList = [] by decide +kernel] at hc
  cases hc
theorem string {k : Nat} (hk : 4 ≤ k) {s : S} {n : Nat} (hp : PoolAt n s) : ∃ x s', (clF ga k).call 8 [.ref n] s = .ok (.str x) s' ∧ x.length ≤ 1000 ∧ Asc x ∧ Gr n s s' := by
  obtain ⟨j, rfl, hj⟩ := lv hk
  obtain ⟨kd, s1, a1, a2, a3, a4, _⟩ := dr (by omega : 2 ≤ j) s n 3 hp (by decide) (by decide +kernel)
  obtain ⟨m, s2, b1, b2, b3, b4, _⟩ := dr (by omega : 2 ≤ j) s1 n 11 a4.pool (by decide) (by decide +kernel)
  obtain ⟨x, s3, c1, c2, c3, c4, _⟩ := wo (by omega : 3 ≤ j) s2 n m b4.pool b2 (by omega)
  have g3 := (a4.trans b4).trans c4
  subst c3
  have hx : x.length ≤ 10 := by omega
  have pre : ∀ R : Str × S, exs (clF ga j) (.cons (.ite (.and (.cmp .eq (.var 1) (.cst (.int 0))) (.cmp .gt (.blt .len (.cons (.var 2) .nil)) (.cst (.int 0)))) (.cons (.asg (.loc (.var 3)) (.call 5 (.cons (.var 0) (.cons (.blt .len (.cons (.var 2) .nil)) .nil))))
    (.cons (.ret (.bin .add (.bin .add (.sl (.var 2) .nop (.var 3)) (.call 7 (.cons (.var 0) .nil))) (.sl (.var 2) (.bin .add (.var 3) (.cst (.int 1))) .nop))) .nil)) (.nil))
    (.cons (.ite (.cmp .eq (.var 1) (.cst (.int 1))) (.cons (.ret (.meth .join (.cst (.str "")) (.cons (.lc (.call 7 (.cons (.var 0) .nil)) (.var 4) .rng1 (.cons (.call 5 (.cons (.var 0) (.cons (.cst (.int 4)) .nil))) .nil) .nop [("_law_k", 4)]) .nil))) .nil) (.nil))
    (.cons (.ret (.var 2)) .nil))) [some (.ref n), some (.int kd), some (.str x), none, none] s3 = .rt (.str R.1) R.2 → (clF ga (j + 1)).call 8 [.ref n] s = .ok (.str R.1) R.2 := by
    intro R hR
    rw [callk (fn := f8) rfl]
    refine run_rt rfl ?_
    show exs (clF ga j) b8 [some (.ref n), none, none, none, none] s = _
    refine (exs_nx (ex_asg (d := .int kd) (s' := s1) (by walk_at "ev"))).trans ?_
    refine (exs_nx (ex_asg (d := .str x) (s' := s3) (by walk_at "ev"))).trans hR
  have hlen := lenS (x := x) (s := s3) (by omega)
  have hcnd : evT (clF ga j) (.and (.cmp .eq (.var 1) (.cst (.int 0))) (.cmp .gt (.blt .len (.cons (.var 2) .nil)) (.cst (.int 0)))) [some (.ref n), some (.int kd), some (.str x), none, none] s3 = .ok ((kd == 0) && decide (0 < (x.length : Int))) s3 := by
    walk_at "ev"
    cases (kd == 0) <;> walk_at "ev"
    · rfl
    · simp only [cmpD, Bool.true_and]
  cases hk : (kd == 0) && decide (0 < (x.length : Int)) with
  | true =>
    rw [hk] at hcnd
    have hx0 : 0 < (x.length : Int) := by
      rw [Bool.and_eq_true] at hk
      exact of_decide_eq_true hk.2
    obtain ⟨at', s4, d1, d2, d3, d4, _⟩ := dr (by omega : 2 ≤ j) s3 n x.length g3.pool hx0 (small_log hx0 (by omega))
    obtain ⟨c, s5, e1, ec, e2⟩ := sign (by omega : 3 ≤ j) d4.pool
    have l1 := cut_len x none (some at')
    have l2 := cut_len x (some (at' + 1)) none
    have l3 : (⟨#[c]⟩ : Str).length = 1 := rfl
    refine ⟨L2.cutS x none (some at') ++ ⟨#[c]⟩ ++ L2.cutS x (some (at' + 1)) none, s5, pre (_, _) ?_, ?_, asc_app (asc_app (asc_cut c2.asc _ _) (asc_one ec)) (asc_cut c2.asc _ _), (g3.trans d4).trans e2⟩
    · refine exs_rt ?_
      rw [ex_ite hcnd, if_pos rfl]
      refine (exs_nx (ex_asg (d := .int at') (s' := s4) (by walk_at "ev"))).trans (exs_rt (ex_ret ?_))
      have z1 := slS (x := x) (lo := none) (hi := some at') (s := s4) (by omega)
      have z2 := slS (x := x) (lo := some (at' + 1)) (hi := none) (s := s5) (by omega)
      have z3 := addS (x := L2.cutS x none (some at')) (y := ⟨#[c]⟩) (s := s5) (by omega)
      have z4 := addS (x := L2.cutS x none (some at') ++ ⟨#[c]⟩) (y := L2.cutS x (some (at' + 1)) none) (s := s5) (by rw [len_app]; omega)
      walk_at "ev"
    · rw [len_app, len_app]; omega
  | false =>
    rw [hk] at hcnd
    by_cases h1 : kd = 1
    · obtain ⟨q, s4, d1, d2, d3, d4, _⟩ := dr (by omega : 2 ≤ j) s3 n 4 g3.pool (by decide) (by decide +kernel)
      obtain ⟨r, s5, e1, ⟨ys, rfl, hy, hya, hl⟩, e3⟩ := lcS_inv (ok := (Src.vals (rngD 0 q.toNat)).ok) (items := rngD 0 q.toNat) (s := s4) (g := lcB (clF ga j) [some (.ref n), some (.int kd), some (.str x), none, none] [4] (.var 4) .nop (.call 7 (.cons (.var 0) .nil)))
        (fun i r s' => (∃ ys : List Str, r = ys.map .str ∧ (∀ y ∈ ys, y.length = 1) ∧ (∀ y ∈ ys, Asc y) ∧ ys.length = i) ∧ Gr n s4 s') (fun _ _ _ _ => trivial) (fun i d r s' hi ⟨⟨ys, hr, hy, hya, hl⟩, hg⟩ => by
          obtain ⟨c, s6, f1, fc, f2⟩ := sign (by omega : 3 ≤ j) hg.pool
          refine ⟨some (.str ⟨#[c]⟩), s6, lcB_var (by simp only [wipeF]; walk_at "ev"), ⟨ys ++ [⟨#[c]⟩], by rw [hr]; simp, fun y hy' => ?_, fun y hy' => ?_, by simp [hl]⟩, hg.trans f2⟩
          · rcases List.mem_append.mp hy' with h | h
            · exact hy y h
            · have : y = ⟨#[c]⟩ := by simpa using h
              rw [this]; rfl
          · rcases List.mem_append.mp hy' with h | h
            · exact hya y h
            · have : y = ⟨#[c]⟩ := by simpa using h
              rw [this]; exact asc_one fc) ⟨⟨[], rfl, fun _ h => (nomatch h), fun _ h => (nomatch h), rfl⟩, Gr.refl d4.pool⟩
      rw [rng_len] at hl
      have g5 := (g3.trans d4).trans e3
      have g6 := g5.trans (Gr.new g5.pool (.lst (ys.map .str)))
      have hj' := txt_join ys hy
      refine ⟨Txt.join "" ys, s5 ++ [.lst (ys.map .str)], pre (_, _) ?_, by omega, asc_join asc_nil hya, g6⟩
      refine (exs_nx (τ' := [some (.ref n), some (.int kd), some (.str x), none, none]) (s' := s3) (by rw [ex_ite hcnd]; rfl)).trans (exs_rt ?_)
      rw [ex_ite (k := true) (s' := s3), if_pos rfl]
      · refine exs_rt (ex_ret ?_)
        have z := ev_lc (cl := clF ga j) (its := .cons (.call 5 (.cons (.var 0) (.cons (.cst (.int 4)) .nil))) .nil) (τ := [some (.ref n), some (.int kd), some (.str x), none, none]) (s := s3) (s1 := s4) (k := .rng1) (own := [("_law_k", 4)]) (src := .vals (rngD 0 q.toNat)) (ds := [.int q]) (by walk_at "ev") (src_rng d2 (by omega) s4) (by show (rngD 0 q.toNat).length < _; rw [rng_len, sizeLine_eq]; omega) e1
        have z : (ev (clF ga j) _).1 _ _ = _ := z
        simp only [evE]
        conv => lhs; unfold ev
        simp only [plainT]
        show R.bind (R.ok (D.str (Str.ofString "")) s3) _ = _
        simp only [R.bind_ok]
        simp only [methOk, if_true]
        simp only [evs, z, R.bind_ok]
        simp only [methD, seqOf, lstAt_of new_at, Option.bind_some, strsOf_map]
        rw [if_pos (by rw [join_len hy, show (Str.ofString "").length = 0 by decide +kernel]; omega)]
        rfl
      · subst h1
        simp only [evT, ev, asB, List.getElem?_cons_succ, List.getElem?_cons_zero, R.bind_ok, Cst.d]
        exact eqI_t rfl
    · refine ⟨x, s3, pre (_, _) ?_, by omega, c2.asc, g3⟩
      refine (exs_nx (τ' := [some (.ref n), some (.int kd), some (.str x), none, none]) (s' := s3) ?_).trans ?_
      · rw [ex_ite hcnd]; rfl
      · refine (exs_nx (τ' := [some (.ref n), some (.int kd), some (.str x), none, none]) (s' := s3) ?_).trans (exs_rt (ex_ret rfl))
        rw [ex_ite (k := false) (s' := s3)]
        · rfl
        · walk_at "ev"
          rw [show (kd == 1) = false from by simpa using h1]

def _root_.G.Cms.tail : Cms → Cms
  | .cons _ cs => cs
  | .nil => .nil
/-- what the law's thing may be -/
inductive Thing (s : S) : D → Prop where
  | int (i : Int) : Thing s (.int i)
  | bl (b : Bool) : Thing s (.bl b)
  | non : Thing s .non
  | tup (x : D) : Thing s (.tup [x])
  | ref (m : Nat) (ds : List D) (h : s[m]? = some (.lst ds)) : Thing s (.ref m)
  | str (x : Str) (h : x.length ≤ 1000) (a : Asc x) : Thing s (.str x)
theorem thing {k : Nat} (hk : 5 ≤ k) {s : S} {n : Nat} (hp : PoolAt n s) : ∃ d s', (clF ga k).call 9 [.ref n] s = .ok d s' ∧ Gr n s s' ∧ Thing s' d := by
  obtain ⟨j, rfl, hj⟩ := lv hk
  obtain ⟨kd, s1, a1, a2, a3, a4, _⟩ := dr (by omega : 2 ≤ j) s n 6 hp (by decide) (by decide +kernel)
  have p30 : ∀ s, binD .pow (.int 10) (.int 30) s = .ok (.int 1000000000000000000000000000000) s := fun s => powI (by decide) (by decide)
  have p32 : ∀ s, binD .pow (.int 10) (.int 32) s = .ok (.int 100000000000000000000000000000000) s := fun s => powI (by decide) (by decide)
  suffices h : ∃ d s', exs (clF ga j) (b9.tail) [some (.ref n), some (.int kd)] s1 = .rt d s' ∧ Gr n s s' ∧ Thing s' d by
    obtain ⟨d, s', h1, h2, h3⟩ := h
    refine ⟨d, s', ?_, h2, h3⟩
    rw [callk (fn := f9) rfl]
    refine run_rt rfl ?_
    show exs (clF ga j) b9 [some (.ref n), none] s = _
    exact (exs_nx (ex_asg (d := .int kd) (s' := s1) (by walk_at "ev"))).trans h1
  have cond : ∀ (i : Int), evT (clF ga j) (.cmp .eq (.var 1) (.cst (.int i))) [some (.ref n), some (.int kd)] s1 = .ok (kd == i) s1 := fun i => by walk_at "ev"
  unfold b9
  simp only [Cms.tail]
  have cond : ∀ (i : Int), kd = i → evT (clF ga j) (.cmp .eq (.var 1) (.cst (.int i))) [some (.ref n), some (.int kd)] s1 = .ok true s1 := fun i e => eqI_t e
  have cond' : ∀ (i : Int), kd ≠ i → evT (clF ga j) (.cmp .eq (.var 1) (.cst (.int i))) [some (.ref n), some (.int kd)] s1 = .ok false s1 := fun i e => eqI_f e
  by_cases h0 : kd = 0
  · obtain ⟨r, s2, b1, b2, b3, b4, _⟩ := dr (by omega : 2 ≤ j) s1 n 200000000000000000000000000000000 a4.pool (by decide) (by decide +kernel)
    refine ⟨.int (r - 100000000000000000000000000000000), s2, exs_in (cond 0 h0) (exs_ret ?_), a4.trans b4, .int _⟩
    simp only [evE, ev, evs, plainT, List.getElem?_cons_zero, R.bind_ok, Cst.d, p32]
    rw [mulD (.inl (by decide))]
    simp only [R.bind_ok]
    rw [show (2 : Int) * 100000000000000000000000000000000 = 200000000000000000000000000000000 from rfl, b1]
    simp only [R.bind_ok, p32, subI]
  rw [exs_skip (cond' 0 h0)]
  by_cases h1 : kd = 1
  · have g2 := a4.trans (Gr.new a4.pool (.lst [.int (10 ^ 30), .int (10 ^ 30 - 1), .int (1 - 10 ^ 30), .int (-10 ^ 30), .int 0, .int (-1)]))
    obtain ⟨r, s2, b1, b2, b3, b4, _⟩ := dr (by omega : 2 ≤ j) _ n 6 g2.pool (by decide) (by decide +kernel)
    have hl := b4.at (i := s1.length) new_at (Nat.ne_of_gt a4.pool.lt)
    obtain ⟨i, hi⟩ : ∃ i, [D.int (10 ^ 30), .int (10 ^ 30 - 1), .int (1 - 10 ^ 30), .int (-10 ^ 30), .int 0, .int (-1)][r.toNat]? = some (.int i) := by
      have : r.toNat < 6 := by omega
      match r.toNat, this with
      | 0, _ => exact ⟨_, rfl⟩
      | 1, _ => exact ⟨_, rfl⟩
      | 2, _ => exact ⟨_, rfl⟩
      | 3, _ => exact ⟨_, rfl⟩
      | 4, _ => exact ⟨_, rfl⟩
      | 5, _ => exact ⟨_, rfl⟩
    refine ⟨.int i, s2, exs_in (cond 1 h1) (exs_ret ?_), g2.trans b4, .int _⟩
    simp only [evE, ev, evs, plainT, List.getElem?_cons_zero, R.bind_ok, Cst.d, p30, subI, negD, new]
    rw [show ((clF ga j).call 5 [.ref n, .int 6] (s1 ++ [.lst [.int 1000000000000000000000000000000, .int (1000000000000000000000000000000 - 1), .int (1 - 1000000000000000000000000000000), .int (-1000000000000000000000000000000), .int 0, .int (-1)]])) = _ from b1]
    exact ixD_ref hl b2 hi
  rw [exs_skip (cond' 1 h1)]
  by_cases h2 : kd = 2
  · have g1 := Gr.new a4.pool (.lst [.str "a"])
    have g2 := (a4.trans g1).trans (Gr.new (a4.trans g1).pool (.lst [.bl true, .bl false, .non, .tup [.int 1], .ref s1.length, .tup [.str "ab"]]))
    obtain ⟨r, s2, b1, b2, b3, b4, _⟩ := dr (by omega : 2 ≤ j) _ n 6 g2.pool (by decide) (by decide +kernel)
    have hlt := a4.pool.lt
    have hl := b4.at (i := (s1 ++ [O.lst [.str "a"]]).length) new_at (by simp; omega)
    have hl2 : s2[s1.length]? = some (.lst [.str "a"]) := b4.at (by rw [List.getElem?_append_left (by simp)]; exact new_at) (by omega)
    obtain ⟨d, hi, ht⟩ : ∃ d, [D.bl true, .bl false, .non, .tup [.int 1], .ref s1.length, .tup [.str "ab"]][r.toNat]? = some d ∧ Thing s2 d := by
      have : r.toNat < 6 := by omega
      match r.toNat, this with
      | 0, _ => exact ⟨_, rfl, .bl _⟩
      | 1, _ => exact ⟨_, rfl, .bl _⟩
      | 2, _ => exact ⟨_, rfl, .non⟩
      | 3, _ => exact ⟨_, rfl, .tup _⟩
      | 4, _ => exact ⟨_, rfl, .ref _ _ hl2⟩
      | 5, _ => exact ⟨_, rfl, .tup _⟩
    refine ⟨d, s2, exs_in (cond 2 h2) (exs_ret ?_), g2.trans b4, ht⟩
    simp only [evE, ev, evs, plainT, List.getElem?_cons_zero, R.bind_ok, Cst.d, new, b1]
    exact ixD_ref hl b2 hi
  rw [exs_skip (cond' 2 h2)]
  obtain ⟨x, s2, b1, b2, ba, b3⟩ := string (by omega : 4 ≤ j) a4.pool
  refine ⟨.str x, s2, exs_ret ?_, a4.trans b3, .str x b2 ba⟩
  simp only [evE, ev, evs, plainT, List.getElem?_cons_zero, R.bind_ok, b1]
/-! ### words, said twice -/
def wordB (x : Str) : Bool := decide (1 ≤ x.length ∧ x.length ≤ 8) && x.cps.toList.all fun c => decide (c ∈ letters.cps.toList)
def isWordD : D → Bool
  | .str x => wordB x
  | _ => false
def isS : D → Bool
  | .str _ => true
  | _ => false
def isB : D → Bool
  | .bl _ => true
  | _ => false
def isI : D → Bool
  | .int _ => true
  | .bl _ => true
  | _ => false
theorem isi_str {s : S} {d : D} (h : Thing s d) : isiD .str d s = .ok (isS d) s := by
  cases h <;> first | rfl | (rename_i h; simp only [isiD, lstAt_of h]; rfl)
theorem nin_sign {c : Nat} {s : S} : cmpD .nin (.str ⟨#[c]⟩) (.str letters) s = .ok (!decide (c ∈ letters.cps.toList)) s := rfl
theorem chars_loop {cl : CL} {a : D} (hg : cl.glob 1 = some (.str letters)) : ∀ (x : List Nat) (b : Option D) (s : S) (X : Str),
    exs cl (.cons (.ret (.cst (.bl true))) .nil) [some a, b] s = .rt (.bl true) s →
    (forS (Src.vals (chars X)).ok (forB cl (.var 1) (.cons (.ite (.cmp .nin (.var 1) (.glob 1)) (.cons (.ret (.cst (.bl false))) .nil) (.nil)) .nil)) (x.map fun c => D.str ⟨#[c]⟩) [some a, b] s).bind (fun τ s => exs cl (.cons (.ret (.cst (.bl true))) .nil) τ s) = .rt (.bl (x.all fun c => decide (c ∈ letters.cps.toList))) s
  | [], b, s, X, h => by rw [List.map_nil, forS_nil trivial, SR.bind_nx]; exact h
  | c :: x, b, s, X, h => by
    rw [List.map_cons]
    have hc : evT cl (.cmp .nin (.var 1) (.glob 1)) [some a, some (.str ⟨#[c]⟩)] s = .ok (!decide (c ∈ letters.cps.toList)) s := by
      simp only [evT, ev, asB, plainT, List.getElem?_cons_succ, List.getElem?_cons_zero, R.bind_ok, hg]
      exact nin_sign
    by_cases hm : c ∈ letters.cps.toList
    · rw [forS_nx trivial (τ' := [some a, some (.str ⟨#[c]⟩)]) (s' := s)]
      · rw [chars_loop hg x _ s X rfl, List.all_cons, decide_eq_true hm, Bool.true_and]
      · rw [forB_var]
        refine (exs_skip ?_).trans rfl
        rw [decide_eq_true hm] at hc
        exact hc
    · rw [forS_rt trivial (x := .bl false) (s' := s)]
      · rw [SR.bind_rt, List.all_cons, decide_eq_false hm, Bool.false_and]
      · rw [forB_var]
        rw [decide_eq_false hm] at hc
        exact exs_in hc rfl
theorem is_word {k : Nat} (hk : 1 ≤ k) {s : S} {d : D} (h : Thing s d) : (clF ga k).call 1 [d] s = .ok (.bl (isWordD d)) s := by
  obtain ⟨j, rfl, hj⟩ := lv hk
  have hi := isi_str h
  refine call_rt (fn := f1) (τ := [some d, none]) rfl rfl rfl ?_
  cases h with
  | str x hx ha =>
    have hc : evT (clF ga j) (.or (.not (.isi (.var 0) .str)) (.not (.cmp2 .le .le (.cst (.int 1)) (.blt .len (.cons (.var 0) .nil)) (.cst (.int 8))))) [some (.str x), none] s = .ok (!decide (1 ≤ x.length ∧ x.length ≤ 8)) s := by
      simp only [evT, ev, evs, plainT, asB, List.getElem?_cons_zero, R.bind_ok, hi, isS, truD, Bool.not_true, Bool.false_eq_true, if_false, Cst.d, lenS (s := s) (show x.length ≤ 10000 by omega), cmpD, leD]
      by_cases h1 : 1 ≤ x.length
      · rw [decide_eq_true (by omega : (1 : Int) ≤ x.length), if_pos rfl]
        simp only [R.bind_ok]
        congr 1
        by_cases h2 : x.length ≤ 8
        · rw [decide_eq_true (by omega), decide_eq_true ⟨h1, h2⟩]
        · rw [decide_eq_false (by omega), decide_eq_false (fun z => h2 z.2)]
      · rw [decide_eq_false (by omega : ¬ (1 : Int) ≤ x.length), if_neg Bool.false_ne_true, decide_eq_false (fun z => h1 z.1)]
        rfl
    by_cases hl : 1 ≤ x.length ∧ x.length ≤ 8
    · rw [decide_eq_true hl] at hc
      refine (exs_skip hc).trans ?_
      have hw : isWordD (.str x) = x.cps.toList.all fun c => decide (c ∈ letters.cps.toList) := by simp only [isWordD, wordB, decide_eq_true hl, Bool.true_and]
      rw [hw]
      exact (chars_loop (cl := clF ga j) rfl x.cps.toList none s x rfl)
    · rw [decide_eq_false hl] at hc
      have hw : isWordD (.str x) = false := by simp only [isWordD, wordB, decide_eq_false hl, Bool.false_and]
      rw [hw]
      exact exs_in hc rfl
  | _ =>
    refine exs_in (s' := s) ?_ rfl
    simp only [evT, ev, plainT, List.getElem?_cons_zero, R.bind_ok, hi, isS, truD, Bool.not_false, if_true]
theorem isi_int {s : S} {d : D} (h : Thing s d) : isiD .int d s = .ok (isI d) s := by
  cases h <;> first | rfl | (rename_i h; simp only [isiD, lstAt_of h]; rfl)
theorem isi_bool {s : S} {d : D} (h : Thing s d) : isiD .bool d s = .ok (isB d) s := by
  cases h <;> first | rfl | (rename_i h; simp only [isiD, lstAt_of h]; rfl)
def intOf : D → Bool
  | .int _ => true
  | _ => false
theorem is_integer {k : Nat} (hk : 1 ≤ k) {s : S} {d : D} (h : Thing s d) : (clF ga k).call 0 [d] s = .ok (.bl (intOf d)) s := by
  obtain ⟨j, rfl, hj⟩ := lv hk
  refine call_rt (fn := f0) (τ := [some d]) rfl rfl rfl (exs_ret ?_)
  have h1 := isi_int h
  have h2 := isi_bool h
  simp only [evE, ev, plainT, List.getElem?_cons_zero, R.bind_ok, h1]
  cases h <;> first | rfl | (simp only [R.bind_ok, h2]; rfl)
def bound : Int := 1000000000000000000000000000000
def valB : D → Bool
  | .int i => decide (-bound < i) && decide (i < bound)
  | d => isWordD d
theorem is_value {k : Nat} (hk : 2 ≤ k) {s : S} {d : D} (h : Thing s d) : (clF ga k).call 2 [d] s = .ok (.bl (valB d)) s := by
  obtain ⟨j, rfl, hj⟩ := lv hk
  refine call_rt (fn := f2) (τ := [some d]) rfl rfl rfl ?_
  have h0 := is_integer (by omega : 1 ≤ j) h
  have h1 := is_word (by omega : 1 ≤ j) h
  have hc : evT (clF ga j) (.call 0 (.cons (.var 0) .nil)) [some d] s = .ok (intOf d) s := by
    simp only [evT, ev, evs, plainT, List.getElem?_cons_zero, R.bind_ok, h0, truD]
  have hr : intOf d = false → exs (clF ga j) (.cons (.ret (.call 1 (.cons (.var 0) .nil))) .nil) [some d] s = .rt (.bl (isWordD d)) s := fun _ => exs_ret (by simp only [evE, ev, evs, plainT, List.getElem?_cons_zero, R.bind_ok, h1])
  cases h with
  | int i =>
    refine exs_in hc (exs_ret ?_)
    have g0 : (clF ga j).glob 0 = some (.int bound) := rfl
    simp only [evE, ev, asB, plainT, List.getElem?_cons_zero, R.bind_ok, g0, negD, cmpD, ltD, valB]
    by_cases hi : -bound < i
    · rw [decide_eq_true hi, if_pos rfl]; rfl
    · rw [decide_eq_false hi, if_neg Bool.false_ne_true]; rfl
  | _ => exact (exs_skip hc).trans (hr rfl)
theorem due {k : Nat} (hk : 1 ≤ k) {s : S} {d : D} {n : Nat} (hp : PoolAt n s) (h : Thing s d) : ∃ s', (clF ga k).call 10 [d] s = .ok (.bl (isWordD d)) s' ∧ Gr n s s' := by
  obtain ⟨j, rfl, hj⟩ := lv hk
  have hi := isi_str h
  cases h with
  | str x hx ha =>
    have hc0 : evT (clF ga j) (.not (.isi (.var 0) .str)) [some (.str x), none] s = .ok false s := by
      simp only [evT, ev, plainT, List.getElem?_cons_zero, R.bind_ok, hi, isS, truD, Bool.not_true]
    have hln := lenS (x := x) (s := s) (by omega)
    have hc : evT (clF ga j) (.or (.cmp .eq (.blt .len (.cons (.var 0) .nil)) (.cst (.int 0))) (.cmp .gt (.blt .len (.cons (.var 0) .nil)) (.cst (.int 8)))) [some (.str x), none] s = .ok (!decide (1 ≤ x.length ∧ x.length ≤ 8)) s := by
      simp only [evT, ev, evs, plainT, asB, List.getElem?_cons_zero, R.bind_ok, hln, Cst.d]
      by_cases h1 : 1 ≤ x.length
      · rw [eqI_f (by omega)]
        simp only [R.bind_ok, Bool.false_eq_true, if_false, hln, cmpD]
        congr 1
        by_cases h2 : x.length ≤ 8
        · rw [decide_eq_false (by omega), decide_eq_true ⟨h1, h2⟩]; rfl
        · rw [decide_eq_true (by omega), decide_eq_false (fun z => h2 z.2)]; rfl
      · rw [eqI_t (by omega), decide_eq_false (fun z => h1 z.1)]
        rfl
    by_cases hl : 1 ≤ x.length ∧ x.length ≤ 8
    · rw [decide_eq_true hl] at hc
      -- the comprehension
      obtain ⟨r, s1, e1, ⟨ys, rfl, hya, hr⟩, rfl⟩ := lcS_inv (ok := (Src.vals (chars x)).ok) (items := chars x) (s := s) (g := lcB (clF ga j) [some (.str x), none] [1] (.var 1) (.cmp .nin (.var 1) (.cst (.str "abcdefghijklmnopqrstuvwxyz"))) (.var 1))
        (fun i r s' => (∃ ys : List Str, r = ys.map .str ∧ (∀ y ∈ ys, Asc y) ∧ ys.isEmpty = (x.cps.toList.take i).all fun c => decide (c ∈ letters.cps.toList)) ∧ s' = s) (fun _ _ _ _ => trivial) (fun i d r s' hq ⟨⟨ys, hr, hya, he⟩, hs⟩ => by
          subst hs
          have hq : (x.cps.toList.map fun c => D.str ⟨#[c]⟩)[i]? = some d := hq
          rw [List.getElem?_map, Option.map_eq_some_iff] at hq
          obtain ⟨c, hc', hd'⟩ := hq
          subst hd'
          have tk : x.cps.toList.take (i + 1) = x.cps.toList.take i ++ [c] := by rw [List.take_add_one, hc']; rfl
          have hcd : evT (clF ga j) (.cmp .nin (.var 1) (.cst (.str "abcdefghijklmnopqrstuvwxyz"))) ((wipeF [some (.str x), none] [1]).set 1 (some (.str ⟨#[c]⟩))) s' = .ok (!decide (c ∈ letters.cps.toList)) s' := by
            simp only [wipeF, List.set_cons_succ, List.set_cons_zero, evT, ev, asB, plainT, List.getElem?_cons_succ, List.getElem?_cons_zero, R.bind_ok, Cst.d]
            exact nin_sign
          by_cases hm : c ∈ letters.cps.toList
          · rw [decide_eq_true hm] at hcd
            refine ⟨none, s', lcB_no rfl hcd, ⟨ys, by simp [hr], hya, ?_⟩, rfl⟩
            rw [tk, List.all_append, ← he]
            simp only [List.all_cons, decide_eq_true hm, List.all_nil, Bool.and_true]
          · rw [decide_eq_false hm] at hcd
            refine ⟨some (.str ⟨#[c]⟩), s', lcB_if rfl hcd rfl, ⟨ys ++ [⟨#[c]⟩], by rw [hr]; simp, fun y hy' => ?_, ?_⟩, rfl⟩
            · rcases List.mem_append.mp hy' with h | h
              · exact hya y h
              · have : y = ⟨#[c]⟩ := by simpa using h
                rw [this]; exact asc_one (ha c (List.mem_of_getElem? hc'))
            · rw [tk, List.all_append]
              simp only [List.all_cons, decide_eq_false hm, Bool.false_and, Bool.and_false]
              cases ys <;> rfl) ⟨⟨[], rfl, fun _ h => (nomatch h), by simp⟩, rfl⟩
      have hlen : (chars x).length = x.cps.toList.length := by simp [chars]
      rw [hlen, List.take_length] at hr
      have hw : isWordD (.str x) = x.cps.toList.all fun c => decide (c ∈ letters.cps.toList) := by simp only [isWordD, wordB, decide_eq_true hl, Bool.true_and]
      have hsz : (Src.vals (chars x)).items.length < sizeLine := by
        show (chars x).length < _
        have : x.cps.toList.length = x.length := by simp [Str.length]
        rw [hlen, sizeLine_eq]; omega
      have z := ev_lc (cl := clF ga j) (its := .cons (.var 0) .nil) (τ := [some (.str x), none]) (s := s1) (s1 := s1) (k := .seq) (own := [("_law_sign_here", 1)]) (src := .vals (chars x)) (ds := [.str x]) rfl rfl hsz e1
      have z : (ev (clF ga j) _).1 _ _ = _ := z
      have gn := Gr.new hp (.lst (ys.map .str))
      have gn2 := gn.trans (Gr.new gn.pool (.lst []))
      refine ⟨s1 ++ [.lst (ys.map .str)] ++ [.lst []], ?_, gn2⟩
      refine call_rt (fn := f10) (τ := [some (.str x), none]) rfl rfl rfl ((exs_skip hc0).trans ((exs_skip hc).trans (exs_ret ?_)))
      simp only [evE]
      conv => lhs; unfold ev
      simp only [asB, z, R.bind_ok]
      simp only [ev, evs, plainT, R.bind_ok, new]
      have q1 : (s1 ++ [O.lst (ys.map .str)] ++ [O.lst []])[s1.length]? = some (.lst (ys.map .str)) := by rw [List.getElem?_append_left (by simp)]; exact new_at
      have q2 : (s1 ++ [O.lst (ys.map .str)] ++ [O.lst []])[(s1 ++ [O.lst (ys.map .str)]).length]? = some (.lst []) := new_at
      rw [hw, ← hr]
      simp only [cmpD, eqD_nil hya q1 q2, R.bind_ok]
    · rw [decide_eq_false hl] at hc
      have hw : isWordD (.str x) = false := by simp only [isWordD, wordB, decide_eq_false hl, Bool.false_and]
      rw [hw]
      exact ⟨s, call_rt (fn := f10) (τ := [some (.str x), none]) rfl rfl rfl ((exs_skip hc0).trans (exs_in hc rfl)), Gr.refl hp⟩
  | _ =>
    refine ⟨s, call_rt (fn := f10) (τ := [some _, none]) rfl rfl rfl (exs_in (s' := s) ?_ rfl), Gr.refl hp⟩
    simp only [evT, ev, plainT, List.getElem?_cons_zero, R.bind_ok, hi, isS, truD, Bool.not_false, if_true]
theorem eqB {a b : Bool} {s : S} : eqD (.bl a) (.bl b) s = .ok (a == b) s := by
  simp only [eqD, toP]
  rw [if_pos ⟨rfl, rfl⟩]
  cases a <;> cases b <;> rfl
theorem law_ok : ∀ ns : List Int, ns.length ≤ 63 → ∃ s, callF ga 30 11 [.flst (ns.map .int)] [] = .ok (.bl true) s := by
  intro ns hns
  obtain ⟨s1, n, p1, p2⟩ := run_pool (clF ga 28) ns hns
  have p1 : (clF ga 29).call 3 [.flst (ns.map .int)] [] = .ok (.ref n) s1 := (call_of (fn := f3) rfl _ _).trans p1
  obtain ⟨d, s2, t1, t2, t3⟩ := thing (k := 29) (by decide) p2
  obtain ⟨s3, u1, u2⟩ := due (k := 29) (by decide) t2.pool t3
  have t4 : Thing s3 d := by
    cases t3 with
    | ref m ds h =>
      by_cases hm : m = n
      · obtain ⟨o, ho, hq⟩ := u2.pool
        subst hm
        cases o with
        | lst ds' => exact .ref m ds' ho
        | ins => obtain ⟨_, _, _, _, _, hq, _⟩ := hq; nomatch hq
      · exact .ref m ds (u2.at h hm)
    | int i => exact .int i
    | bl b => exact .bl b
    | non => exact .non
    | tup x => exact .tup x
    | str x h a => exact .str x h a
  have w1 := is_word (k := 29) (by decide) t4
  have v1 := is_value (k := 29) (by decide) t4
  have i1 := isi_int t4
  have i2 := isi_bool t4
  refine ⟨s3, show (clF ga (29 + 1)).call 11 [.flst (ns.map .int)] [] = _ from call_rt (fn := f11) (k := 29) (τ := [some (.flst (ns.map .int)), none, none, none, none]) rfl rfl rfl ?_⟩
  refine (exs_asg (d := .ref n) (s' := s1) ?_).trans ?_
  · simp only [evE, ev, evs, plainT, List.getElem?_cons_zero, R.bind_ok, p1]
  refine (exs_asg (d := d) (s' := s2) ?_).trans ?_
  · simp only [evE, ev, evs, plainT, List.getElem?_cons_zero, List.getElem?_cons_succ, List.set_cons_succ, List.set_cons_zero, R.bind_ok, t1]
  refine (exs_asg (d := .bl (isWordD d)) (s' := s3) ?_).trans ?_
  · simp only [evE, ev, evs, plainT, List.getElem?_cons_zero, List.getElem?_cons_succ, List.set_cons_succ, List.set_cons_zero, R.bind_ok, u1]
  refine (exs_asg (d := .bl (isWordD d)) (s' := s3) ?_).trans ?_
  · simp only [evE, ev, evs, plainT, List.getElem?_cons_zero, List.getElem?_cons_succ, List.set_cons_succ, List.set_cons_zero, R.bind_ok, w1]
  refine (exs_skip (s' := s3) ?_).trans ?_
  · simp only [evT, ev, evs, plainT, asB, List.getElem?_cons_zero, List.getElem?_cons_succ, List.set_cons_succ, List.set_cons_zero, R.bind_ok, isiD, truD, Bool.not_true, Bool.false_eq_true, if_false, cmpD, eqB]
    cases isWordD d <;> rfl
  have fin : ∀ (b : Bool), b = valB d → exs (clF ga 29) (.cons (.asg (.loc (.var 4)) (.call 2 (.cons (.var 2) .nil))) (.cons (.ret (.and (.isi (.var 4) .bool) (.cmp .eq (.var 4) (.var 3)))) .nil))
      [some (.flst (ns.map .int)), some (.ref n), some d, some (.bl b), some (.bl (isWordD d))] s3 = .rt (.bl true) s3 := by
    intro b hb
    refine (exs_asg (d := .bl (valB d)) (s' := s3) ?_).trans (exs_ret ?_)
    · simp only [evE, ev, evs, plainT, List.getElem?_cons_zero, List.getElem?_cons_succ, R.bind_ok, v1]
    · subst hb
      simp only [evE, ev, evs, plainT, asB, List.getElem?_cons_zero, List.getElem?_cons_succ, List.set_cons_succ, List.set_cons_zero, R.bind_ok, isiD, cmpD, eqB]
      cases valB d <;> rfl
  by_cases hint : ∃ i, d = .int i
  · obtain ⟨i, rfl⟩ := hint
    refine (exs_nx (τ' := [some (.flst (ns.map .int)), some (.ref n), some (.int i), some (.bl (valB (.int i))), some (.bl (isWordD (.int i)))]) (s' := s3) ?_).trans (fin _ rfl)
    rw [ex_ite (k := true) (s' := s3), if_pos rfl]
    · refine exs_asg ?_
      show evE (clF ga 29) (.cmp2 .le .le (.bin .sub (.cst (.int 1)) (.bin .pow (.cst (.int 10)) (.cst (.int 30)))) (.var 2) (.bin .sub (.bin .pow (.cst (.int 10)) (.cst (.int 30))) (.cst (.int 1)))) [some (.flst (ns.map .int)), some (.ref n), some (.int i), some (.bl (isWordD (.int i))), some (.bl (isWordD (.int i)))] s3 = _
      have p30 : ∀ s, binD .pow (.int 10) (.int 30) s = .ok (.int 1000000000000000000000000000000) s := fun s => powI (by decide) (by decide)
      simp only [evE, ev, plainT, asB, List.getElem?_cons_zero, List.getElem?_cons_succ, R.bind_ok, Cst.d, p30, subI, cmpD, leD, valB]
      unfold bound
      by_cases q : -1000000000000000000000000000000 < i
      · rw [decide_eq_true (by omega : 1 - 1000000000000000000000000000000 ≤ i), decide_eq_true q, if_pos rfl, R.bind_ok, Bool.true_and]
        congr 2
        exact decide_eq_decide.mpr (by omega)
      · rw [decide_eq_false (by omega : ¬ (1 - 1000000000000000000000000000000 ≤ i)), decide_eq_false q, if_neg Bool.false_ne_true, R.bind_ok, Bool.false_and]
    · simp only [evT, ev, plainT, asB, List.getElem?_cons_zero, List.getElem?_cons_succ, R.bind_ok]
      rfl
  · refine (exs_skip (s' := s3) ?_).trans (fin _ ?_)
    · show evT (clF ga 29) (.and (.isi (.var 2) .int) (.not (.isi (.var 2) .bool))) [some (.flst (ns.map .int)), some (.ref n), some d, some (.bl (isWordD d)), some (.bl (isWordD d))] s3 = _
      simp only [evT, ev, plainT, asB, List.getElem?_cons_zero, List.getElem?_cons_succ, R.bind_ok, i1, i2]
      cases d with
      | int i => exact (hint ⟨i, rfl⟩).elim
      | _ => rfl
    · cases d with
      | int i => exact (hint ⟨i, rfl⟩).elim
      | _ => rfl
end K01

set_option Elab.async false
set_option linter.all false
set_option maxRecDepth 100000
set_option maxHeartbeats 4000000
namespace K01
open PySem PySem.Spec PyProof.Rows L2 G
theorem bind0 : ∀ (kV doc pm : Value) (an : Option Addr) (cdv ct : Value) (us : List Value), us.length = d0.ps.length → bindArgs (PySem.W.fnOf d0.name d0.qual (defArgs d0.st) (defBody d0.st) (defScope d0.st) .none kV doc pm an cdv ct) ⟨us, []⟩ = pure (d0.ps.zip us) :=
  fun _ _ _ _ _ _ us hl => match us, hl with | [_], _ => rfl
theorem bind1 : ∀ (kV doc pm : Value) (an : Option Addr) (cdv ct : Value) (us : List Value), us.length = d1.ps.length → bindArgs (PySem.W.fnOf d1.name d1.qual (defArgs d1.st) (defBody d1.st) (defScope d1.st) .none kV doc pm an cdv ct) ⟨us, []⟩ = pure (d1.ps.zip us) :=
  fun _ _ _ _ _ _ us hl => match us, hl with | [_], _ => rfl
theorem bind2 : ∀ (kV doc pm : Value) (an : Option Addr) (cdv ct : Value) (us : List Value), us.length = d2.ps.length → bindArgs (PySem.W.fnOf d2.name d2.qual (defArgs d2.st) (defBody d2.st) (defScope d2.st) .none kV doc pm an cdv ct) ⟨us, []⟩ = pure (d2.ps.zip us) :=
  fun _ _ _ _ _ _ us hl => match us, hl with | [_], _ => rfl
theorem bind3 : ∀ (kV doc pm : Value) (an : Option Addr) (cdv ct : Value) (us : List Value), us.length = d3.ps.length → bindArgs (PySem.W.fnOf d3.name d3.qual (defArgs d3.st) (defBody d3.st) (defScope d3.st) .none kV doc pm an cdv ct) ⟨us, []⟩ = pure (d3.ps.zip us) :=
  fun _ _ _ _ _ _ us hl => match us, hl with | [_], _ => rfl
theorem bind4 : ∀ (kV doc pm : Value) (an : Option Addr) (cdv ct : Value) (us : List Value), us.length = d4.ps.length → bindArgs (PySem.W.fnOf d4.name d4.qual (defArgs d4.st) (defBody d4.st) (defScope d4.st) .none kV doc pm an cdv ct) ⟨us, []⟩ = pure (d4.ps.zip us) :=
  fun _ _ _ _ _ _ us hl => match us, hl with | [_, _], _ => rfl
theorem bind5 : ∀ (kV doc pm : Value) (an : Option Addr) (cdv ct : Value) (us : List Value), us.length = d5.ps.length → bindArgs (PySem.W.fnOf d5.name d5.qual (defArgs d5.st) (defBody d5.st) (defScope d5.st) .none kV doc pm an cdv ct) ⟨us, []⟩ = pure (d5.ps.zip us) :=
  fun _ _ _ _ _ _ us hl => match us, hl with | [_, _], _ => rfl
theorem bind6 : ∀ (kV doc pm : Value) (an : Option Addr) (cdv ct : Value) (us : List Value), us.length = d6.ps.length → bindArgs (PySem.W.fnOf d6.name d6.qual (defArgs d6.st) (defBody d6.st) (defScope d6.st) .none kV doc pm an cdv ct) ⟨us, []⟩ = pure (d6.ps.zip us) :=
  fun _ _ _ _ _ _ us hl => match us, hl with | [_, _], _ => rfl
theorem bind7 : ∀ (kV doc pm : Value) (an : Option Addr) (cdv ct : Value) (us : List Value), us.length = d7.ps.length → bindArgs (PySem.W.fnOf d7.name d7.qual (defArgs d7.st) (defBody d7.st) (defScope d7.st) .none kV doc pm an cdv ct) ⟨us, []⟩ = pure (d7.ps.zip us) :=
  fun _ _ _ _ _ _ us hl => match us, hl with | [_], _ => rfl
theorem bind8 : ∀ (kV doc pm : Value) (an : Option Addr) (cdv ct : Value) (us : List Value), us.length = d8.ps.length → bindArgs (PySem.W.fnOf d8.name d8.qual (defArgs d8.st) (defBody d8.st) (defScope d8.st) .none kV doc pm an cdv ct) ⟨us, []⟩ = pure (d8.ps.zip us) :=
  fun _ _ _ _ _ _ us hl => match us, hl with | [_], _ => rfl
theorem bind9 : ∀ (kV doc pm : Value) (an : Option Addr) (cdv ct : Value) (us : List Value), us.length = d9.ps.length → bindArgs (PySem.W.fnOf d9.name d9.qual (defArgs d9.st) (defBody d9.st) (defScope d9.st) .none kV doc pm an cdv ct) ⟨us, []⟩ = pure (d9.ps.zip us) :=
  fun _ _ _ _ _ _ us hl => match us, hl with | [_], _ => rfl
theorem bind10 : ∀ (kV doc pm : Value) (an : Option Addr) (cdv ct : Value) (us : List Value), us.length = d10.ps.length → bindArgs (PySem.W.fnOf d10.name d10.qual (defArgs d10.st) (defBody d10.st) (defScope d10.st) .none kV doc pm an cdv ct) ⟨us, []⟩ = pure (d10.ps.zip us) :=
  fun _ _ _ _ _ _ us hl => match us, hl with | [_], _ => rfl
theorem bind11 : ∀ (kV doc pm : Value) (an : Option Addr) (cdv ct : Value) (us : List Value), us.length = d11.ps.length → bindArgs (PySem.W.fnOf d11.name d11.qual (defArgs d11.st) (defBody d11.st) (defScope d11.st) .none kV doc pm an cdv ct) ⟨us, []⟩ = pure (d11.ps.zip us) :=
  fun _ _ _ _ _ _ us hl => match us, hl with | [_], _ => rfl
theorem oks : ∀ d ∈ dfs, okD (dfs.map (·.name)) gnames d = true := by
  rw [names_ok]
  intro d hd
  simp only [dfs, List.mem_cons, List.not_mem_nil, or_false] at hd
  rcases hd with rfl | rfl | rfl | rfl | rfl | rfl | rfl | rfl | rfl | rfl | rfl | rfl
  · exact ok0
  · exact ok1
  · exact ok2
  · exact ok3
  · exact ok4
  · exact ok5
  · exact ok6
  · exact ok7
  · exact ok8
  · exact ok9
  · exact ok10
  · exact ok11
theorem top_of {K : PySem.W.Frag} {mg : Str → Option Value} (hb : ∀ x ∈ blts, mg x = none) (g0 : GlbAt mg "BOUND" (.int 1000000000000000000000000000000)) (g1 : GlbAt mg "LETTERS" (.str "abcdefghijklmnopqrstuvwxyz")) (x0 : DefAt K mg d0) (x1 : DefAt K mg d1) (x2 : DefAt K mg d2) (x3 : DefAt K mg d3) (x4 : DefAt K mg d4) (x5 : DefAt K mg d5) (x6 : DefAt K mg d6) (x7 : DefAt K mg d7) (x8 : DefAt K mg d8) (x9 : DefAt K mg d9) (x10 : DefAt K mg d10) (x11 : DefAt K mg d11) : ∃ U : Su, Top U K mg ga dfs gnames := by
  refine ⟨⟨K, fun _ => 0⟩, rfl, rfl, oks, hb, ?_, ?_⟩
  · intro i n d h1 h2
    match i, h1, h2 with
    | 0, h1, h2 =>
      cases h1; cases h2
      exact g0.at K
    | 1, h1, h2 =>
      cases h1; cases h2
      exact g1.at K
    | k + 2, h1, h2 => simp [gnames] at h1
  · intro d hd
    simp only [dfs, List.mem_cons, List.not_mem_nil, or_false] at hd
    rcases hd with rfl | rfl | rfl | rfl | rfl | rfl | rfl | rfl | rfl | rfl | rfl | rfl
    · exact x0.top
    · exact x1.top
    · exact x2.top
    · exact x3.top
    · exact x4.top
    · exact x5.top
    · exact x6.top
    · exact x7.top
    · exact x8.top
    · exact x9.top
    · exact x10.top
    · exact x11.top
end K01
open PySem PySem.W PyProof.Rows
set_option maxRecDepth 100000 in
set_option maxHeartbeats 0 in
theorem PySem.Challenge.cw_cappedcalls_k01_words_and_values_holds : PySem.Challenge.rw_cappedcalls_k01_words_and_values.Holds := by
  w_on; o_law; k_head; (case hw => w_witness2)
  k_fill
  refine G.walk (l := PySem.Challenge.rw_cappedcalls_k01_words_and_values) (Γ := K01.ga) (ds := K01.dfs) (gns := K01.gnames) (i := 11) (k := 30) (dl := K01.d11) rfl rfl rfl ⟨rfl, by decide, by decide⟩ rfl rfl (fun w h Y => PySem.W.kIn_of Y) ?F K01.law_ok
  intro w mg h KX GG
  refine' G.use (G.defAt KX GG K01.d0 K01.bind0 ?a0 ?l0 ?c0 ?k0) ?m0
  (case a0 => k_is); (case l0 => k_is); (case c0 => k_is); (case k0 => k_is)
  intro x0
  refine' G.use (G.defAt KX GG K01.d1 K01.bind1 ?a1 ?l1 ?c1 ?k1) ?m1
  (case a1 => k_is); (case l1 => k_is); (case c1 => k_is); (case k1 => k_is)
  intro x1
  refine' G.use (G.defAt KX GG K01.d2 K01.bind2 ?a2 ?l2 ?c2 ?k2) ?m2
  (case a2 => k_is); (case l2 => k_is); (case c2 => k_is); (case k2 => k_is)
  intro x2
  refine' G.use (G.defAt KX GG K01.d3 K01.bind3 ?a3 ?l3 ?c3 ?k3) ?m3
  (case a3 => k_is); (case l3 => k_is); (case c3 => k_is); (case k3 => k_is)
  intro x3
  refine' G.use (G.defAt KX GG K01.d4 K01.bind4 ?a4 ?l4 ?c4 ?k4) ?m4
  (case a4 => k_is); (case l4 => k_is); (case c4 => k_is); (case k4 => k_is)
  intro x4
  refine' G.use (G.defAt KX GG K01.d5 K01.bind5 ?a5 ?l5 ?c5 ?k5) ?m5
  (case a5 => k_is); (case l5 => k_is); (case c5 => k_is); (case k5 => k_is)
  intro x5
  refine' G.use (G.defAt KX GG K01.d6 K01.bind6 ?a6 ?l6 ?c6 ?k6) ?m6
  (case a6 => k_is); (case l6 => k_is); (case c6 => k_is); (case k6 => k_is)
  intro x6
  refine' G.use (G.defAt KX GG K01.d7 K01.bind7 ?a7 ?l7 ?c7 ?k7) ?m7
  (case a7 => k_is); (case l7 => k_is); (case c7 => k_is); (case k7 => k_is)
  intro x7
  refine' G.use (G.defAt KX GG K01.d8 K01.bind8 ?a8 ?l8 ?c8 ?k8) ?m8
  (case a8 => k_is); (case l8 => k_is); (case c8 => k_is); (case k8 => k_is)
  intro x8
  refine' G.use (G.defAt KX GG K01.d9 K01.bind9 ?a9 ?l9 ?c9 ?k9) ?m9
  (case a9 => k_is); (case l9 => k_is); (case c9 => k_is); (case k9 => k_is)
  intro x9
  refine' G.use (G.defAt KX GG K01.d10 K01.bind10 ?a10 ?l10 ?c10 ?k10) ?m10
  (case a10 => k_is); (case l10 => k_is); (case c10 => k_is); (case k10 => k_is)
  intro x10
  refine' G.use (G.defAt KX GG K01.d11 K01.bind11 ?a11 ?l11 ?c11 ?k11) ?m11
  (case a11 => k_is); (case l11 => k_is); (case c11 => k_is); (case k11 => k_is)
  intro x11
  refine' G.use (G.glbInt KX GG (x := "BOUND") ?ga0) ?gm0
  (case ga0 => k_is)
  intro g0
  refine' G.use (G.glbStr KX GG (x := "LETTERS") ?ga1) ?gm1
  (case ga1 => k_is)
  intro g1
  refine' G.use (G.blts_of KX GG ?ba0 ?ba1 ?ba2 ?ba3 ?ba4 ?ba5 ?ba6 ?ba7 ?ba8 ?ba9) ?bm
  (case ba0 => k_is); (case ba1 => k_is); (case ba2 => k_is); (case ba3 => k_is); (case ba4 => k_is); (case ba5 => k_is); (case ba6 => k_is); (case ba7 => k_is); (case ba8 => k_is); (case ba9 => k_is)
  intro hb
  exact ⟨K01.top_of hb g0 g1 x0 x1 x2 x3 x4 x5 x6 x7 x8 x9 x10 x11, x11⟩
#print axioms PySem.Challenge.cw_cappedcalls_k01_words_and_values_holds


import PyProof.Rows.All
import Wide.All
import OpenK.AllK
import Wide.FinOn
import PySem.Challenge.RW_cappedcalls_k02_sorted_rows
import HandS.TupSets
import HandS.SetKeys
import PyProof.SetRoads
import HandS.ForMost
import HandS.Exc
import HandS.TryOnly
import HandS.ExcOwn
import HandS.WordsExc
import HandS.CallSlots
import HandS.Wide
import HandS.IsInst
import HandS.Rev
import HandS.Conv
import KE.SortData
import HandS.Deep
import HandS.TupAny
import HandS.Dict
import HandS.More
import HandS.Small
import HandS.DictComp
import KE.KEqDict
import HandS.Text
import HandS.WordsDict
import HandS.Property
import HandS.SortKw
import HandS.ExcInit
import HandS.ExcField
import HandS.ExcIs
import HandS.Ends
import KE.DataCmp
set_option Elab.async false
set_option linter.all false
set_option maxRecDepth 100000
set_option autoImplicit false
set_option maxHeartbeats 1000000
/-! GT: sets of rows (tuples of ints and texts): in, add, by the table's own search. -/
namespace G
open PySem PySem.Spec PyProof.Rows L2
/-- a row's hash -/
def rowH (w : World) (k : List Key) : Int := reduceHash (Builtin.Tuple.tupleHashOf (k.map (keyH w)))
abbrev RowAt (P : Program) (w : World) (h : Heap) (k : List Key) (b : Addr) : Prop := IsTupleKey (mixKind P w) h k b
def entR (w : World) (L : List (Addr × List Key)) : List (Int × Value) := L.map fun p => (rowH w p.2, Value.ref p.1)
def Wp (m : Nat) (h : Int) (c : Nat) : SetTable.Probe := nth m (runAt m (SetTable.bits h % (m + 1)) (SetTable.bits h)) c
theorem Wp_way (m : Nat) (h : Int) (c : Nat) : (Wp m h c).j = way m h c := rfl
theorem Wp_add (m : Nat) (h : Int) (c q : Nat) : nth m (Wp m h c) q = Wp m h (c + q) := (nth_add m c _ q).symm
theorem Wp_dummy (m : Nat) (h : Int) : ∀ c, (Wp m h c).dummy = none := by
  have key : ∀ (n : Nat) (p : SetTable.Probe), p.dummy = none → (nth m p n).dummy = none := fun n => by
    induction n with
    | zero => exact fun p h => h
    | succ n ih => exact fun p h => ih _ (by unfold adv; split <;> exact h)
  exact fun c => key c _ rfl
structure RowsAt (w : World) (h : Heap) (a : Addr) (L : List (Addr × List Key)) (es : Array (Int × Value)) (ep : Nat) (t : SetTable) : Prop where
  ob : ∃ o, h.get? a = some o ∧ o.ExactSet ∧ o.data = .set es ep t
  ent : es.toList = entR w L
  tab : TabOk t (L.map fun p => rowH w p.2)
  nd : (L.map (·.2)).Nodup
  room : L.length * 5 < t.mask * 3
  few : L.length < 64
section
variable {P : Program} {w : World} {A : Around} {E : Value → Shared → Prop} {s : Shared} {a b : Addr} {k : List Key} {L : List (Addr × List Key)} {es : Array (Int × Value)} {ep : Nat} {t : SetTable}
theorem ent_len (e : es.toList = entR w L) : es.size = L.length := by
  have := congrArg List.length e
  unfold entR at this
  simpa using this
theorem ent_at (e : es.toList = entR w L) {i : Nat} {p : Addr × List Key} (h : L[i]? = some p) : es[i]? = some (rowH w p.2, Value.ref p.1) := by
  rw [← Array.getElem?_toList, e]; unfold entR; rw [List.getElem?_map, h]; rfl
theorem RowsAt.fits (R : RowsAt w s.heap a L es ep t) : t.fits es.size = true := by
  have h1 : t.place.size = L.length := by have := R.tab.sz; simpa using this
  have h2 := ent_len R.ent; have h3 := R.room
  unfold SetTable.fits SetTable.fill; rw [R.tab.dm]
  simp; omega
theorem RowsAt.ok (R : RowsAt w s.heap a L es ep t) : ¬ t.gaveWay = true := by
  unfold SetTable.gaveWay; rw [mask_odd R.tab.mok]; decide
/-! what a row's items are -/
theorem key_val : ∀ {k : List Key} {vs : List Value}, ItemsAre (mixKind P w) k vs → ∀ v ∈ vs, (∃ i t, v = Value.int i t) ∨ ∃ x t, v = Value.str x t
  | _, _, .nil, v, hv => nomatch hv
  | _, _, .cons h1 h2, v, hv => by
    rcases List.mem_cons.mp hv with rfl | hv
    · rcases keyIs_shape h1 with ⟨i, t, _, e⟩ | ⟨x, t, _, e⟩
      · exact .inl ⟨i, t, e⟩
      · exact .inr ⟨x, t, e⟩
    · exact key_val h2 v hv
theorem noclass (n : Nat) {v : Value} (h : (∃ i t, v = Value.int i t) ∨ ∃ x t, v = Value.str x t) : ofAClassStatement n v = pure false := by
  rcases h with ⟨i, t, rfl⟩ | ⟨x, t, rfl⟩ <;> cases n <;> rfl
theorem row_noclass {Q : Bool → Shared → Prop} (hk : RowAt P w s.heap k b) (h : Q false s) : wpAny (model P w) A (ofAClassStatement 8 (.ref b)) Q E s := by
  have hT := hk.typeIs
  obtain ⟨o, items, n, ho, _, hd, hi⟩ := hk
  unfold ofAClassStatement; refine wpAny_bind (wpAny_typeOf hT ?_); dsimp only
  simp only [show (("tuple" : String) == "tuple") = true by decide, if_true, Bool.not_true, Bool.false_eq_true, if_false]
  try refine wpAny_bind (wpAny_pure ?_)
  try simp only [Bool.not_true, Bool.false_eq_true, if_false]
  show wpAny _ _ (seqItems? (.ref b) >>= _) _ _ s
  refine wpAny_bind (wpAny_seqItems ho hd ?_); dsimp only; refine wpAny_bind ?_
  show wpAny _ _ (forIn items _ _) _ _ s
  rw [← Array.forIn_toList]
  refine wpAny_forIn_list _ (fun rest r s' => r.1 = none ∧ s' = s ∧ ∀ v ∈ rest, (∃ i t, v = Value.int i t) ∨ ∃ x t, v = Value.str x t) _ ?_ ?_ _ _ ⟨rfl, rfl, key_val hi⟩
  · rintro v rest r s' ⟨hr, rfl, hall⟩
    rw [noclass _ (hall v (by simp))]; refine wpAny_bind (wpAny_pure ?_)
    simp only [Bool.false_eq_true, if_false]
    exact wpAny_pure ⟨rfl, rfl, fun u hu => hall u (by simp [hu])⟩
  · rintro ⟨r1, r2⟩ s' ⟨hr, rfl, _⟩
    simp only at hr; subst hr
    exact wpAny_pure h
theorem hbv (n : Nat) {v : Value} (h : (∃ i t, v = Value.int i t) ∨ ∃ x t, v = Value.str x t) : ∃ c, hashByValue n v = pure c := by
  rcases h with ⟨i, t, rfl⟩ | ⟨x, t, rfl⟩
  · exact ⟨true, by cases n <;> rfl⟩
  · exact ⟨false, by cases n <;> rfl⟩
theorem row_hbv {Q : Bool → Shared → Prop} (hk : RowAt P w s.heap k b) (h : ∀ c, Q c s) : wpAny (model P w) A (hashByValue 8 (.ref b)) Q E s := by
  have hT := hk.typeIs
  obtain ⟨o, items, n, ho, _, hd, hi⟩ := hk
  unfold hashByValue; refine wpAny_bind (wpAny_specialOf hT F.slot_tuple_hash.lookup ?_)
  show wpAny _ _ (seqItems? (.ref b) >>= _) _ _ s
  refine wpAny_bind (wpAny_seqItems ho hd ?_); refine wpAny_bind ?_
  show wpAny _ _ (forIn items _ _) _ _ s
  rw [← Array.forIn_toList]
  refine wpAny_forIn_list _ (fun rest r s' => s' = s ∧ ∀ v ∈ rest, (∃ i t, v = Value.int i t) ∨ ∃ x t, v = Value.str x t) _ ?_ ?_ _ _ ⟨rfl, key_val hi⟩
  · rintro v rest r s' ⟨rfl, hall⟩
    obtain ⟨c, e⟩ := hbv 7 (hall v (by simp))
    rw [e]; refine wpAny_bind (wpAny_pure ?_)
    cases c
    · simp only [Bool.not_false, if_true]
      exact wpAny_pure (wpAny_pure (h _))
    · simp only [Bool.not_true, Bool.false_eq_true, if_false]
      exact wpAny_pure ⟨rfl, fun u hu => hall u (by simp [hu])⟩
  · rintro ⟨r1, r2⟩ s' ⟨rfl, _⟩
    cases r1 with
    | none => exact wpAny_pure (h _)
    | some r1 => exact wpAny_pure (h _)
/-- a search among rows shows nothing -/
theorem row_unseen {Q : Bool → Shared → Prop} (hk : RowAt P w s.heap k b) {ys : List Value} (hy : ∀ y ∈ ys, ∃ k' c, y = Value.ref c ∧ RowAt P w s.heap k' c) (h : Q false s) : wpAny (model P w) A (searchCouldBeSeen (.ref b) ys) Q E s := by
  unfold searchCouldBeSeen; refine wpAny_bind ?_
  refine wpAny_forIn_list _ (fun rest r s' => r.1 = none ∧ s' = s ∧ ∀ y ∈ rest, ∃ k' c, y = Value.ref c ∧ RowAt P w s.heap k' c) _ ?_ ?_ _ _ ⟨rfl, rfl, hy⟩
  · rintro v rest r s' ⟨hr, rfl, hall⟩
    obtain ⟨k', c, rfl, hc⟩ := hall v (by simp)
    have tl : ∀ y ∈ rest, ∃ k' c, y = Value.ref c ∧ RowAt P w s'.heap k' c := fun u hu => hall u (by simp [hu])
    dsimp only
    by_cases hv : (b == c || (carriedByValue (.ref b) && carriedByValue (.ref c))) = true
    · exact wp_if_pos hv (wpAny_pure ⟨rfl, rfl, tl⟩)
    · refine wp_if_neg hv (wpAny_bind (wpAny_eqIsQuiet_tuple hk ?_))
      simp only [Bool.not_true, Bool.false_eq_true, if_false]; refine wpAny_bind (wpAny_eqIsQuiet_tuple hc ?_)
      simp only [Bool.not_true, Bool.false_eq_true, if_false]; refine wpAny_bind (row_noclass hk ?_)
      simp only [Bool.false_eq_true, if_false]; refine wpAny_bind (row_noclass hc ?_)
      simp only [Bool.false_eq_true, if_false]
      exact wpAny_pure ⟨rfl, rfl, tl⟩
  · rintro ⟨r1, r2⟩ s' ⟨hr, rfl, _⟩
    simp only at hr; subst hr
    exact wpAny_pure h
theorem still_there (t : SetTable) : t.sameMemory t.moves t.mask = some true := by unfold SetTable.sameMemory; rw [if_pos (beq_self_eq_true _)]
/-- the search, from the c-th place of the way on; K is the first free one -/
theorem row_search (R : RowsAt w s.heap a L es ep t) (ht : ∀ p ∈ L, RowAt P w s.heap p.2 p.1) (hx : RowAt P w s.heap k b) (hu : A.units < cLine) {ad : Bool} {K : Nat} (K1 : K < 10 * SetTable.turns t.mask)
    (K2 : way t.mask (rowH w k) K ∉ t.place.toList) (K3 : ∀ c, c < K → way t.mask (rowH w k) c ∈ t.place.toList) {Q : SetFound → Shared → Prop}
    (hin : k ∈ L.map (·.2) → ∀ r, (ad = false → r.isSome = true) → Q (.there r) s) (hout : k ∉ L.map (·.2) → Q (.free (way t.mask (rowH w k) K) false) s) :
    ∀ (f c : Nat) (st : Option SetTable.Probe), st.getD (t.probeStart (rowH w k)) = Wp t.mask (rowH w k) c → c ≤ K → K - c < f →
      (∀ (i : Nat) p, L[i]? = some p → p.2 = k → ∃ c', c ≤ c' ∧ c' < K ∧ t.place.toList[i]? = some (way t.mask (rowH w k) c')) → wpAny (model P w) A (setSearchFrom a (.ref b) (rowH w k) ad f st) Q E s
  | 0, c, st, _, _, hf, _ => absurd hf (Nat.not_lt_zero _)
  | f + 1, c, st, hst, hc, hf, hre => by
    obtain ⟨o, ho, hex, hd⟩ := R.ob
    rw [setSearchFrom_succ]; refine wpAny_bind (wpAny_setState_of ho hd R.fits ?_); dsimp only
    refine wp_if_neg R.ok ?_
    try refine wpAny_bind (wpAny_pure ?_)
    have wj : ∀ q, (nth t.mask (Wp t.mask (rowH w k) c) q).j = way t.mask (rowH w k) (c + q) := fun q => by rw [Wp_add, Wp_way]
    have spec := go_spec t R.tab.ris R.tab.dm (fun i => (es[i]?.map (·.1)).getD 0) (rowH w k) (10 * SetTable.turns t.mask) (K - c) (Wp t.mask (rowH w k) c) (Wp_dummy _ _ _) (by omega)
      (fun q hq => by rw [wj]; exact K3 _ (by omega)) (by rw [wj, show c + (K - c) = K by omega]; exact K2)
    have hAt : ∀ (i : Nat) p, L[i]? = some p → (fun i => (es[i]?.map (·.1)).getD 0) i = rowH w p.2 := fun i p hp => by
      show (es[i]?.map (·.1)).getD 0 = _; rw [ent_at R.ent hp]; rfl
    rcases spec with ⟨q, i, hq, hi, hh, hno, hpr⟩ | ⟨hno, hpr⟩
    · -- one of the same hash
      have hpr : t.probe (fun i => (es[i]?.map (·.1)).getD 0) (rowH w k) (st.getD (t.probeStart (rowH w k))) = some (.candidate (way t.mask (rowH w k) (c + q)) i (Wp t.mask (rowH w k) (c + (q + 1)))) := by
        rw [hst, ← wj, ← Wp_add]; exact hpr
      rw [hpr]; dsimp only; rw [wj] at hi
      have hil : i < L.length := by
        have h1 := (List.getElem?_eq_some_iff.mp hi).1; have h2 : t.place.size = L.length := by have := R.tab.sz; simpa using this
        rw [Array.length_toList] at h1; omega
      obtain ⟨p, hp⟩ : ∃ p, L[i]? = some p := ⟨_, List.getElem?_eq_getElem hil⟩
      have hmem := List.mem_of_getElem? hp; have hpt := ht p hmem
      have hsl : t.slot (way t.mask (rowH w k) (c + q)) = .live i := slot_live R.tab.ris hi
      have rest : wpAny (model P w) A (searchRest a (.ref b) (rowH w k) ad f es t (way t.mask (rowH w k) (c + q)) i (Wp t.mask (rowH w k) (c + (q + 1)))) Q E s := by
        unfold searchRest; rw [ent_at R.ent hp]; dsimp only
        refine wpAny_bind (wpAny_holding (wpAny_eqBool_tuple hu hpt hx ?_)); refine wpAny_bind (wpAny_setState_of ho hd R.fits ?_); dsimp only
        have inL : p.2 = k → k ∈ L.map (·.2) := fun e => List.mem_map.mpr ⟨p, hmem, e⟩
        by_cases hc2 : (ad && decide (p.2 = k)) = true
        · rw [Bool.and_eq_true, decide_eq_true_eq] at hc2
          refine wp_if_pos (by simp [hc2.1, hc2.2]) (wpAny_pure (hin (inL hc2.2) none fun z => ?_))
          rw [hc2.1] at z; cases z
        · refine wp_if_neg hc2 ?_
          try refine wpAny_bind (wpAny_pure ?_)
          rw [still_there]; dsimp only
          simp only [if_true, hsl, ent_at R.ent hp]
          refine wpAny_bind (wpAny_isSame_ref_self (wpAny_bind (wpAny_pure ?_))); simp only [if_true]
          by_cases hkk : p.2 = k
          · exact wp_if_pos (by simp [hkk]) (wpAny_pure (hin (inL hkk) (some i) fun _ => rfl))
          · refine wp_if_neg (by simp [hkk]) (row_search R ht hx hu K1 K2 K3 hin hout f (c + (q + 1)) _ rfl (by omega) (by omega) fun i0 p0 h0 hk0 => ?_)
            obtain ⟨c', a1, a2, a3⟩ := hre i0 p0 h0 hk0
            refine ⟨c', ?_, a2, a3⟩
            by_cases z : c' < c + q
            · exact absurd ((hAt i0 p0 h0).trans (congrArg (rowH w) hk0)) (hno (c' - c) i0 (by omega) (by rw [wj, show c + (c' - c) = c' by omega]; exact a3))
            · by_cases y : c' = c + q
              · exfalso
                rw [y] at a3
                have s0 := slot_live R.tab.ris a3
                rw [hsl] at s0; injection s0 with s0
                rw [← s0, hp] at h0; cases h0
                exact hkk hk0
              · omega
      by_cases hl : t.led = true
      · refine wp_if_neg (by simp [hl]) ?_
        try refine wpAny_bind (wpAny_pure ?_)
        exact rest
      · refine wp_if_pos (by simp [hl]) (wpAny_bind (row_unseen hx (fun y hy => ?_) ?_))
        · obtain ⟨e, he, rfl⟩ := List.mem_map.mp hy
          have he2 : e ∈ es.toList := by have : e ∈ es ∧ e.1 = rowH w k := by simpa using he
                                         simpa using this.1
          rw [R.ent] at he2
          obtain ⟨p2, hp2, rfl⟩ := List.mem_map.mp he2
          exact ⟨p2.2, p2.1, rfl, ht p2 hp2⟩
        · refine wp_if_neg (by decide) ?_
          try refine wpAny_bind (wpAny_pure ?_)
          exact rest
    · -- a free place
      have hpr : t.probe (fun i => (es[i]?.map (·.1)).getD 0) (rowH w k) (st.getD (t.probeStart (rowH w k))) = some (.empty (way t.mask (rowH w k) K) none) := by
        have e2 : way t.mask (rowH w k) K = (nth t.mask (Wp t.mask (rowH w k) c) (K - c)).j := by rw [wj, show c + (K - c) = K by omega]
        rw [hst, e2]; exact hpr
      rw [hpr]; dsimp only
      refine wpAny_pure (hout fun hm => ?_)
      obtain ⟨p0, h0, hk0⟩ := List.mem_map.mp hm
      obtain ⟨i0, h00⟩ := List.mem_iff_getElem?.mp h0
      obtain ⟨c', a1, a2, a3⟩ := hre i0 p0 h00 hk0
      exact hno (c' - c) i0 (by omega) (by rw [wj, show c + (c' - c) = c' by omega]; exact a3) ((hAt i0 p0 h00).trans (congrArg (rowH w) hk0))
theorem row_seek (R : RowsAt w s.heap a L es ep t) (ht : ∀ p ∈ L, RowAt P w s.heap p.2 p.1) (hx : RowAt P w s.heap k b) (hu : A.units < cLine) {ad : Bool} {Q : SetFound → Shared → Prop}
    (hin : k ∈ L.map (·.2) → ∀ r, (ad = false → r.isSome = true) → Q (.there r) s)
    (hout : ∀ K, k ∉ L.map (·.2) → way t.mask (rowH w k) K ∉ t.place.toList → (∀ c, c < K → way t.mask (rowH w k) c ∈ t.place.toList) → Q (.free (way t.mask (rowH w k) K) false) s) :
    wpAny (model P w) A (setSearch a (.ref b) (rowH w k) ad) Q E s := by
  have hr := R.room
  obtain ⟨K, K1, K2, K3⟩ := R.tab.first (by rw [List.length_map]; omega) (rowH w k)
  have hb : K < 100000 := by
    have : 10 * SetTable.turns t.mask ≤ 1420 := by unfold SetTable.turns; rcases R.tab.mok with e | e | e <;> omega
    omega
  unfold setSearch
  refine row_search R ht hx hu K1 K2 K3 hin (fun hn => hout K hn K2 K3) 100000 0 none rfl (Nat.zero_le _) (by omega) fun i p hp hk => ?_
  have hi : (L.map fun p => rowH w p.2)[i]? = some (rowH w k) := by rw [List.getElem?_map, hp, ← hk]; rfl
  have hil : i < t.place.toList.length := by
    have h1 := (List.getElem?_eq_some_iff.mp hp).1; have h2 : t.place.size = L.length := by have := R.tab.sz; simpa using this
    rw [Array.length_toList]; omega
  obtain ⟨c, hc, e⟩ := R.tab.before K2 hi (List.getElem?_eq_getElem hil)
  exact ⟨c, Nat.zero_le _, hc, by rw [List.getElem?_eq_getElem hil, e]⟩
theorem row_find (R : RowsAt w s.heap a L es ep t) (ht : ∀ p ∈ L, RowAt P w s.heap p.2 p.1) (hx : RowAt P w s.heap k b) (hu : A.units < cLine) {Q : Option Nat → Shared → Prop} (h : ∀ r : Option Nat, (r.isSome = true ↔ k ∈ L.map (·.2)) → Q r s) :
    wpAny (model P w) A (setFind a (.ref b) (rowH w k)) Q E s := by
  obtain ⟨o, ho, hex, hd⟩ := R.ob
  unfold setFind setFindIn
  refine wpAny_bind (wpAny_setState_of ho hd R.fits ?_); dsimp only
  refine wp_if_neg (by simp [byScan, Value.scannable]) ?_
  try refine wpAny_bind (wpAny_pure ?_)
  refine wpAny_bind (row_seek R ht hx hu (fun hm r hr => ?_) fun K hm _ _ => ?_)
  · exact wpAny_pure (h r ⟨fun _ => hm, fun _ => hr rfl⟩)
  · exact wpAny_pure (h none ⟨fun z => (nomatch z), fun z => absurd z hm⟩)
/-! adding -/
theorem row_keep {h h' : Heap} {k : List Key} {a b : Addr} {o : Obj} {es : Array (Int × Value)} {ep : Nat} {t : SetTable} (hb : RowAt P w h k b) (ho : h.get? a = some o) (hd : o.data = .set es ep t) (hs : Heap.SameBut a h h') : RowAt P w h' k b := by
  obtain ⟨o', items, n, ho', hc, hd', hi⟩ := hb
  have hne : b ≠ a := fun e => by
    rw [e, ho] at ho'; cases ho'; rw [hd] at hd'; cases hd'
  exact ⟨o', items, n, (hs.2 b hne).trans ho', hc, hd', hi⟩
theorem ent_put (p : Nat) (x : Addr) : entR w (L.take p ++ (x, k) :: L.drop p) = (entR w L).take p ++ (rowH w k, Value.ref x) :: (entR w L).drop p := by
  unfold entR; rw [List.map_append, List.map_cons, List.map_take, List.map_drop]
/-- the rows in another order -/
theorem ent_order (order : Array Nat) (hr : es.toList = entR w L) (hp : order.toList.Perm (List.range L.length)) :
    ∃ L2, (order.filterMap (es[·]?)).toList = entR w L2 ∧ L2.Perm L ∧ (L2.map fun p => rowH w p.2) = order.toList.map fun i => (es.map (·.1)).getD i 0 := by
  have key : ∀ l : List Nat, (∀ i ∈ l, i < L.length) → ∃ L2 : List (Addr × List Key), l.filterMap (fun i => es[i]?) = entR w L2 ∧ L2 = l.filterMap (fun i => L[i]?) ∧ (L2.map fun p => rowH w p.2) = l.map fun i => (es.map (·.1)).getD i 0 := by
    intro l
    induction l with
    | nil => exact fun _ => ⟨[], rfl, rfl, rfl⟩
    | cons i l ih =>
      intro hl
      have hi := hl i (by simp)
      obtain ⟨L2, e1, e2, e3⟩ := ih fun j hj => hl j (by simp [hj])
      have h0 := List.getElem?_eq_getElem hi
      have h1 := ent_at hr h0
      refine ⟨L[i] :: L2, by rw [List.filterMap_cons_some h1, e1]; rfl, by rw [List.filterMap_cons_some h0, e2], ?_⟩
      have h2 : (es.map (·.1))[i]? = some (rowH w (L[i]).2) := by rw [Array.getElem?_map, h1]; rfl
      rw [List.map_cons, List.map_cons, e3]
      congr 1
      simp [Array.getD_eq_getD_getElem?, h2]
  obtain ⟨L2, e1, e2, e3⟩ := key order.toList fun i hi => List.mem_range.mp (hp.mem_iff.mp hi)
  have h1 : L2.Perm ((List.range L.length).filterMap fun i => L[i]?) := by rw [e2]; exact hp.filterMap _
  have h2 : ∀ n, n ≤ L.length → (List.range n).filterMap (fun i => L[i]?) = L.take n := by
    intro n
    induction n with
    | zero => exact fun _ => rfl
    | succ n ih =>
      intro hn
      rw [List.range_succ, List.filterMap_append, ih (by omega), List.take_add_one, List.getElem?_eq_getElem (by omega : n < L.length), List.filterMap_cons_some (List.getElem?_eq_getElem (by omega : n < L.length))]; rfl
  rw [h2 _ (Nat.le_refl _), List.take_length] at h1
  exact ⟨L2, by first | (rw [Array.toList_filterMap]; exact e1) | simpa using e1, h1, e3⟩
/-- the table laid anew -/
theorem row_relay {o : Obj} (ho : s.heap.get? a = some o) (hex : o.ExactSet) (hd : o.data = .set es ep t) (he : es.toList = entR w L) (hsz : t.place.size = es.size) (hdm : t.dummies = #[]) (hfl : es.size ≤ t.mask) (nd : (L.map (·.2)).Nodup) (few : L.length < 64) {wanted M : Nat}
    (hw : SetTable.sizeAbove wanted - 1 = M) (hM : MaskOk M) (hw2 : SetTable.sizeAbove wanted ≤ 128) (hn : L.length * 5 < M * 3) {Q : Unit → Shared → Prop}
    (hQ : ∀ h' L' es' ep' t', Heap.SameBut a s.heap h' → RowsAt w h' a L' es' ep' t' → L'.Perm L → Q () { s with heap := h' }) : wpAny (model P w) A (setRelay a wanted) Q E s := by
  have hsl := ent_len he
  have hfits : t.fits es.size = true := by unfold SetTable.fits SetTable.fill; rw [hdm]; simp; omega
  obtain ⟨t', order, e, hp, T, em, el, ep', ed⟩ := relaid_ok t (hs := es.map (·.1)) (wanted := wanted) hw hM (by rw [Array.size_map, hsl]; omega)
  rw [Array.size_map, hsl] at hp
  obtain ⟨L2, r1, r2, r3⟩ := ent_order order he hp
  rw [← r3] at T
  have hs2 : (order.filterMap (es[·]?)).size = es.size := by rw [ent_len r1, r2.length_eq, hsl]
  rw [setRelay_eq]; refine wpAny_bind (wpAny_setState_of ho hd hfits ?_); dsimp only
  refine wp_if_neg (by rw [sizeLine_eq]; omega) ?_
  try refine wpAny_bind (wpAny_pure ?_)
  rw [e]; dsimp only; refine wpAny_bind ?_
  refine wp_if_neg (by rw [hs2]; simp) ?_
  try refine wpAny_bind (wpAny_pure ?_)
  refine wpAny_pure ?_; dsimp only
  refine wpAny_storeSet_of ho hd ?_ (by rw [hs2, hsl, sizeLine_eq]; omega)
  have sb : Heap.SameBut a s.heap (s.heap.update a (Obj.putSet (order.filterMap (es[·]?)) t')) := Heap.SameBut.update ..
  exact hQ _ L2 _ (ep + 1) t' sb ⟨⟨_, store_at ho hd, ⟨hex.1, hex.2.1, hex.2.2⟩, rfl⟩, r1, T, (r2.map (·.2)).nodup_iff.mpr nd, by rw [r2.length_eq, em]; exact hn, by rw [r2.length_eq]; exact few⟩ r2
theorem put_perm' {α : Type} (L : List α) (p : Nat) (x : α) : (L.take p ++ x :: L.drop p).Perm (x :: L) := by
  have h : (L.take p ++ x :: L.drop p).Perm (x :: (L.take p ++ L.drop p)) := List.perm_middle
  rwa [List.take_append_drop] at h
theorem row_add (R : RowsAt w s.heap a L es ep t) (ht : ∀ p ∈ L, RowAt P w s.heap p.2 p.1) (hx : RowAt P w s.heap k b) (hu : A.units < cLine) (hfew : L.length + 1 < 64) {Q : Bool → Shared → Prop}
    (hQ : ∀ c h' L' es' ep' t', Heap.SameBut a s.heap h' → RowsAt w h' a L' es' ep' t' → (k ∈ L.map (·.2) → L' = L) → (k ∉ L.map (·.2) → L'.Perm ((b, k) :: L)) → Q c { s with heap := h' }) :
    wpAny (model P w) A (setAddHashed a (.ref b) (rowH w k)) Q E s := by
  obtain ⟨o, ho, hex, hd⟩ := R.ob
  have hsl := ent_len R.ent; have hroom := R.room
  unfold setAddHashed; refine wpAny_holding ?_
  rw [show (100000 : Nat) = 99999 + 1 from rfl, setAddHashedIn_succ]; refine wpAny_bind (wpAny_setState_of ho hd R.fits ?_); dsimp only
  refine wp_if_neg (by simp [byScan, Value.scannable]) ?_
  try refine wpAny_bind (wpAny_pure ?_)
  refine wpAny_bind (row_seek R ht hx hu (fun hm r _ => ?_) fun K hm hK hb => ?_)
  · dsimp only
    exact wpAny_pure (hQ false s.heap L es ep t (Heap.SameBut.refl a s.heap) R (fun _ => rfl) fun z => absurd hm z)
  dsimp only
  refine wpAny_bind (wpAny_setState_of ho hd R.fits ?_); dsimp only
  obtain ⟨q1, q2, q3, q4, q5, q6, q7, q8, q9⟩ := R.tab.put hK hb
  generalize hpt : t.put (way t.mask (rowH w k) K) = pt at q1 q3 q4 q9 ⊢
  obtain ⟨t1, p⟩ := pt
  dsimp only at q1 q3 q4 q9 ⊢
  subst q1
  have hin : (SetTable.insertAt es (SetTable.below t.place (way t.mask (rowH w k) K)) (rowH w k, Value.ref b)).toList = entR w (L.take (SetTable.below t.place (way t.mask (rowH w k) K)) ++ (b, k) :: L.drop (SetTable.below t.place (way t.mask (rowH w k) K))) := by
    rw [SetTable.toList_insertAt, ent_put, R.ent]
  generalize hpp : SetTable.below t.place (way t.mask (rowH w k) K) = p at q2 q3 hin ⊢
  have pm := put_perm' L p (b, k); have hlen : (L.take p ++ (b, k) :: L.drop p).length = L.length + 1 := pm.length_eq
  have hhs : (L.take p ++ (b, k) :: L.drop p).map (fun p => rowH w p.2) = (L.map fun p => rowH w p.2).take p ++ rowH w k :: (L.map fun p => rowH w p.2).drop p := by rw [List.map_append, List.map_cons, List.map_take, List.map_drop]
  rw [← hhs] at q3
  have nd1 : ((L.take p ++ (b, k) :: L.drop p).map (·.2)).Nodup := (pm.map (·.2)).nodup_iff.mpr (by rw [List.map_cons]; exact List.nodup_cons.mpr ⟨hm, R.nd⟩)
  have hes := ent_len hin; rw [hlen] at hes
  generalize SetTable.insertAt es p (rowH w k, Value.ref b) = es1 at hin hes ⊢
  generalize L.take p ++ (b, k) :: L.drop p = L1 at pm hlen q3 nd1 hin
  -- whatever the table notes of the row's hash
  have go : ∀ t2 : SetTable, (t2 = t1 ∨ t2 = { t1 with plain := false }) → wpAny (model P w) A (do
      storeSet a es1 t2
      if !false && t2.tooFull then setRelay a (SetTable.grown (es.size + 1))
      return true) Q E s := fun t2 h2 => by
    have T2 : TabOk t2 (L1.map fun p => rowH w p.2) := by
      rcases h2 with rfl | rfl
      · exact q3
      · exact ⟨q3.ris, q3.dm, q3.sz, q3.mok, q3.bd, q3.reach⟩
    have m2 : t2.mask = t.mask := by rcases h2 with rfl | rfl <;> exact q4
    have f2 : t2.fill = L.length + 1 := by
      rw [List.length_map] at q9
      rcases h2 with rfl | rfl <;> exact q9
    refine wpAny_bind (wpAny_storeSet_of ho hd ?_ (by rw [hes, sizeLine_eq]; omega))
    have sb : Heap.SameBut a s.heap (s.heap.update a (Obj.putSet es1 t2)) := Heap.SameBut.update ..
    have ho1 := store_at (es' := es1) (t' := t2) ho hd
    generalize s.heap.update a (Obj.putSet es1 t2) = h1 at sb ho1 ⊢
    by_cases hf : t2.tooFull = true
    · have hfull : (L.length + 1) * 5 ≥ t.mask * 3 := by
        have h := hf
        unfold SetTable.tooFull at h
        rw [decide_eq_true_eq, f2, m2] at h
        exact h
      have cs : (t.mask = 7 ∧ L.length = 4) ∨ (t.mask = 31 ∧ L.length = 18) := by rcases R.tab.mok with e | e | e <;> rw [e] at hfull hroom <;> omega
      have lay : ∀ M, SetTable.sizeAbove (SetTable.grown (L.length + 1)) - 1 = M → MaskOk M → SetTable.sizeAbove (SetTable.grown (L.length + 1)) ≤ 128 → (L.length + 1) * 5 < M * 3 →
          wpAny (model P w) A (setRelay a (SetTable.grown (es.size + 1))) (fun _ s' => wpAny (model P w) A (pure true) Q E s') E { s with heap := h1 } := fun M y1 y2 y3 y4 => by
        rw [hsl]
        have hsz1 : t2.place.size = es1.size := by have := T2.sz; rw [List.length_map, hlen] at this; rw [this, hes]
        refine row_relay (s := { s with heap := h1 }) ho1 ⟨hex.1, hex.2.1, hex.2.2⟩ rfl hin hsz1 T2.dm (by rw [hes, m2]; rcases cs with ⟨e, e2⟩ | ⟨e, e2⟩ <;> omega) nd1 (by rw [hlen]; exact hfew) y1 y2 y3 (by rw [hlen]; exact y4) fun h2 L2 es2 ep2 t2' sb2 R2 pm2 => ?_
        exact wpAny_pure (hQ true h2 L2 es2 ep2 t2' (sb.trans sb2) R2 (fun z => absurd z hm) fun _ => pm2.trans pm)
      have fin : wpAny (model P w) A (setRelay a (SetTable.grown (es.size + 1))) (fun _ s' => wpAny (model P w) A (pure true) Q E s') E { s with heap := h1 } := by
        rcases cs with ⟨_, e2⟩ | ⟨_, e2⟩
        · exact lay 31 (by rw [e2, size_20]) (.inr (.inl rfl)) (by rw [e2, size_20]; decide) (by omega)
        · exact lay 127 (by rw [e2, size_76]) (.inr (.inr rfl)) (by rw [e2, size_76]; decide) (by omega)
      first
        | (refine wpAny_bind ?_; exact wp_if_pos (by simp [hf]) fin)
        | (refine wp_if_pos (by simp [hf]) ?_; exact wpAny_bind fin)
    · have R1 : RowsAt w h1 a L1 es1 (ep + 1) t2 := ⟨⟨_, ho1, ⟨hex.1, hex.2.1, hex.2.2⟩, rfl⟩, hin, T2, nd1, by
        have h := hf
        unfold SetTable.tooFull at h
        rw [decide_eq_true_eq, f2] at h
        rw [hlen]; omega, by rw [hlen]; exact hfew⟩
      first
        | exact wp_if_neg (by simp [hf]) (wpAny_pure (hQ true h1 L1 es1 (ep + 1) t2 sb R1 (fun z => absurd z hm) fun _ => pm))
        | (refine wpAny_bind ?_; exact wp_if_neg (by simp [hf]) (wpAny_pure (wpAny_pure (hQ true h1 L1 es1 (ep + 1) t2 sb R1 (fun z => absurd z hm) fun _ => pm))))
  by_cases hp1 : t1.plain = true
  · have e : ∀ c : Bool, (if c = true then t1 else { t1 with plain := false }) = t1 ∨ (if c = true then t1 else { t1 with plain := false }) = { t1 with plain := false } := fun c => by cases c <;> simp
    first
      | (refine wpAny_bind ?_; refine wp_if_pos hp1 ?_; exact row_hbv hx fun c => go _ (e c))
      | exact wp_if_pos hp1 (wpAny_bind (row_hbv hx fun c => go _ (e c)))
  · first
      | (refine wpAny_bind ?_; refine wp_if_neg hp1 ?_; refine wpAny_pure ?_; exact go t1 (.inl rfl))
      | exact wp_if_neg hp1 (wpAny_bind (wpAny_pure (go t1 (.inl rfl))))
      | exact wp_if_neg hp1 (go t1 (.inl rfl))
/-! in, not in, add -/
theorem RowsAt.tok (R : RowsAt w s.heap a L es ep t) : s.TypeIs (.ref a) "set" := let ⟨o, ho, hc, _⟩ := R.ob; ⟨o, ho, hc.1⟩
theorem RowsAt.nod (R : RowsAt w s.heap a L es ep t) : ∀ c, Value.ref a = .ref c → ∃ ob, s.heap.get? c = some ob ∧ ob.dict = none := fun c e => by cases e; exact let ⟨o, ho, hc, _⟩ := R.ob; ⟨o, ho, hc.2.1⟩
theorem row_has {Q : Bool → Shared → Prop} (R : RowsAt w s.heap a L es ep t) (ht : ∀ p ∈ L, RowAt P w s.heap p.2 p.1) (hx : RowAt P w s.heap k b) (hu : A.units + 8 < cLine) (h : ∀ c tk, (c = true ↔ k ∈ L.map (·.2)) → Q c { s with toks := tk }) :
    wpAny (model P w) A (contains (.ref a) (.ref b)) Q E s := by
  unfold contains
  try with_reducible refine wpAny_holding ?_
  refine wpAny_bind (wpAny_specialOf R.tok F.slot_set_contains.lookup ?_)
  show wpAny _ _ (if (some (Value.builtin "set.__contains__") == some Value.none) = true then _ else _) _ E s; rw [if_neg (by rw [beq_builtin_none]; exact Bool.false_ne_true)]
  refine wpAny_bind (wpAny_callSpecialUnlessNone?_slot (name := Str.ofString "__contains__") R.tok F.slot_set_contains (wpAny_call_entry F.slot_set_contains R.tok entry_set_contains ?_ (F.args_set_contains_2 _ _)))
  unfold Builtin.«frozenset.__contains__» Builtin.Frozenset.oneOther; simp only [List.isEmpty_nil, bind_assoc]
  unfold Builtin.Frozenset.addrOf Builtin.Frozenset.withSetAsKey setContains; refine wpAny_bind (wpAny_pure ?_)
  try dsimp only
  refine wpAny_bind (wpAny_pure ?_)
  try dsimp only
  refine wpAny_bind (wpAny_tryCatch ?_); refine wpAny_holding ?_
  refine wpAny_bind (wpAny_pyHash_tuple (by show A.units + 1 < cLine; omega) hx ?_)
  refine wpAny_bind (row_find (s := { s with toks := s.toks + (k.length + 1) }) R ht hx (by show A.units + 1 < cLine; omega) fun r hr => ?_)
  refine wpAny_pure ?_
  show wpAny _ _ (ret (Value.bool r.isSome)) _ _ _
  exact wpAny_pure ⟨_, rfl, wpAny_truthy_bool (h _ _ hr)⟩
theorem row_in {neg : Bool} {Q : Value → Shared → Prop} (R : RowsAt w s.heap a L es ep t) (ht : ∀ p ∈ L, RowAt P w s.heap p.2 p.1) (hx : RowAt P w s.heap k b) (hu : A.units + 8 < cLine) (h : ∀ c tk, (c = true ↔ k ∈ L.map (·.2)) → Q (.bool (if neg then !c else c)) { s with toks := tk }) :
    wpAny (model P w) A (compareOp (if neg then .NotIn else .In) (.ref b) (.ref a)) Q E s := by
  cases neg with
  | false =>
    show wpAny _ _ (do return .bool (← contains (.ref a) (.ref b))) Q E s
    exact wpAny_bind (row_has R ht hx hu fun c tk hc => wpAny_pure (h c tk hc))
  | true =>
    show wpAny _ _ (do return .bool (!(← contains (.ref a) (.ref b)))) Q E s
    exact wpAny_bind (row_has R ht hx hu fun c tk hc => wpAny_pure (h c tk hc))
theorem row_put {Q : Value → Shared → Prop} (R : RowsAt w s.heap a L es ep t) (ht : ∀ p ∈ L, RowAt P w s.heap p.2 p.1) (hx : RowAt P w s.heap k b) (hu : A.units + 8 < cLine) (hfew : L.length + 1 < 64)
    (hQ : ∀ h' tk L' es' ep' t', Heap.SameBut a s.heap h' → RowsAt w h' a L' es' ep' t' → (k ∈ L.map (·.2) → L' = L) → (k ∉ L.map (·.2) → L'.Perm ((b, k) :: L)) → Q .none { s with heap := h', toks := tk }) :
    wpAny (model P w) A (call (.builtin "set.add") [.ref a, .ref b]) Q E s := by
  refine wpAny_call_entry F.slot_set_add R.tok F.entry_set_add ?_ (F.args_set_add_2 _ _)
  unfold Builtin.«set.add» Builtin.Frozenset.oneOther; simp only [List.isEmpty_nil, bind_assoc]
  unfold Builtin.Frozenset.addrOf setAdd; refine wpAny_bind (wpAny_pure ?_)
  try dsimp only
  refine wpAny_bind (wpAny_pure ?_)
  try dsimp only
  refine wpAny_bind ?_; refine wpAny_holding ?_
  refine wpAny_bind (wpAny_pyHash_tuple (by show A.units + 1 < cLine; omega) hx ?_)
  refine row_add (s := { s with toks := s.toks + (k.length + 1) }) R ht hx (by show A.units + 1 < cLine; omega) hfew fun c h' L' es' ep' t' sb R' z1 z2 => ?_
  show wpAny _ _ (ret Value.none) _ _ _
  exact wpAny_pure ⟨_, rfl, hQ h' _ L' es' ep' t' sb R' z1 z2⟩
end
/-! ### in the hand layer -/
def RowsO (w : World) (a : Addr) (L : List (Addr × List Key)) : HO := .ext fun h => ∃ es ep t, RowsAt w h a L es ep t
theorem RowsAt.up {w : World} {h h' : Heap} {a : Addr} {L : List (Addr × List Key)} {es : Array (Int × Value)} {ep : Nat} {t : SetTable} (R : RowsAt w h a L es ep t) (k : ∀ o, h.get? a = some o → h'.get? a = some o) : RowsAt w h' a L es ep t :=
  let ⟨o, ho, r⟩ := R.ob; ⟨⟨o, k o ho, r⟩, R.ent, R.tab, R.nd, R.room, R.few⟩
theorem rowsO_new {P : Program} {w : World} {H : Hp} {h : Heap} {a : Addr} {L : List (Addr × List Key)} {es : Array (Int × Value)} {ep : Nat} {t : SetTable} (R : RowsAt w h a L es ep t) : ObjOk P w H h a (RowsO w a L) := by
  have ⟨o, ho, _⟩ := R.ob
  refine ⟨⟨es, ep, t, R⟩, ⟨o, ho⟩, fun h1 h2 p k => ?_⟩
  have ⟨es', ep', t', R'⟩ : ∃ es ep t, RowsAt w h1 a L es ep t := p
  exact ⟨es', ep', t', R'.up k⟩
theorem items_keys {P : Program} {w : World} : ∀ {k : List Key} {us : List Value}, L2.Vals (k.map kV) us → ItemsAre (mixKind P w) k us
  | [], _, .nil => .nil
  | n :: k, _, .cons r t => .cons (kV_is r) (items_keys t)
section
variable {X : Cx} {pins : List (Addr × Obj)} {σ : L2.St} {H : Hp} {s : Shared}
theorem row_at (I : Inv X pins σ H s) {b : Addr} {k : List Key} (h : SqT X.K H b (k.map kV)) : RowAt X.prog X.w s.heap k b := by
  obtain ⟨its, r, p, hz⟩ := I.tuple h
  obtain ⟨o, ho, hc, n, hd⟩ := p
  exact ⟨o, _, n, ho, hc, hd, items_keys (by simpa using r)⟩
end
end G

set_option Elab.async false
set_option linter.all false
set_option maxRecDepth 100000
set_option autoImplicit false
/-! G1: plain values, plain stores, and how the layer's heap bears them. -/
namespace G
open PySem PySem.Spec PyProof.Rows L2

/-- plain values: tuples by value, all that changes by reference -/
inductive D where
  | non | bl (b : Bool) | int (i : Int) | str (x : Str) | tup (ds : List D) | flst (ds : List D) | ref (n : Nat)

inductive O where
  | lst (ds : List D)
  | ins (c : Str) (fs : List (Str × D))
  | dct (kvs : List (Key × D))
  | frd (kvs : List (Key × D))
  | set (rows : List (List Key))
abbrev S := List O
inductive R (α : Type) where
  | ok (a : α) (s : S)
  | exc (c : Str) (fs : List (Str × D)) (s : S)
  | bad
def R.bind {α β : Type} : R α → (α → S → R β) → R β
  | .ok a s, f => f a s
  | .exc c fs s, _ => .exc c fs s
  | .bad, _ => .bad
@[simp] theorem R.bind_ok {α β : Type} (a : α) (s : S) (f : α → S → R β) : (R.ok a s).bind f = f a s := rfl
@[simp] theorem R.bind_exc {α β : Type} (c fs) (s : S) (f : α → S → R β) : (R.exc c fs s).bind f = .exc c fs s := rfl
@[simp] theorem R.bind_bad {α β : Type} (f : α → S → R β) : (R.bad).bind f = .bad := rfl

/-- the surroundings: the written part, the classes' places -/
structure Su where
  K : PySem.W.Frag
  cad : Str → Addr
  exi : Option Nat := none
  exa : Addr := 0
  exo : Option Addr := none
  exD : List (Str × D) := []
  exV : List (Str × V) := []
  w : Option World := none

def KTup (K : PySem.W.Frag) (a : Addr) (xs : List V) : Prop :=
  ∃ (o : Obj) (its : Array Value) (n : Nat), K.lookup a = some o ∧ o.cls = .type "tuple" ∧ o.data = .seq its n ∧ its.size ≤ sizeLine ∧ Vals xs its.toList
def KLst (K : PySem.W.Frag) (a : Addr) (xs : List V) : Prop :=
  ∃ (o : Obj) (its : Array Value) (n : Nat), K.lookup a = some o ∧ o.cls = .type "list" ∧ o.dict = none ∧ o.data = .seq its n ∧ its.size ≤ sizeLine ∧ Vals xs its.toList
def TupAt (K : PySem.W.Frag) (H : Hp) (a : Addr) (xs : List V) : Prop := H a = some (.tup xs) ∨ KTup K a xs
def FroAt (K : PySem.W.Frag) (H : Hp) (a : Addr) (xs : List V) : Prop := (∃ o, H a = some (.frz o (.lst xs))) ∨ KLst K a xs
theorem FroAt.sq {K : PySem.W.Frag} {H : Hp} {a : Addr} {xs : List V} (h : FroAt K H a xs) : SqL K H a xs := by
  rcases h with ⟨o, h⟩ | h
  · exact .inl (.inr ⟨o, h⟩)
  · exact .inr h
theorem TupAt.sq {K : PySem.W.Frag} {H : Hp} {a : Addr} {xs : List V} (h : TupAt K H a xs) : SqT K H a xs := by
  rcases h with h | h
  · exact .inl (.inl h)
  · exact .inr h

mutual
def Rep (K : PySem.W.Frag) (ι : List Addr) (H : Hp) : D → V → Prop
  | .non, v => v = .non
  | .bl b, v => v = .bl b
  | .int i, v => v = .int i
  | .str x, v => v = .str x
  | .tup ds, v => ∃ a vs, v = .ref a ∧ TupAt K H a vs ∧ Reps K ι H ds vs
  | .flst ds, v => ∃ a vs, v = .ref a ∧ FroAt K H a vs ∧ Reps K ι H ds vs
  | .ref n, v => ∃ a, v = .ref a ∧ ι[n]? = some a
def Reps (K : PySem.W.Frag) (ι : List Addr) (H : Hp) : List D → List V → Prop
  | [], vs => vs = []
  | d :: ds, vs => ∃ v ws, vs = v :: ws ∧ Rep K ι H d v ∧ Reps K ι H ds ws
end
def RepF {κ : Type} (K : PySem.W.Frag) (ι : List Addr) (H : Hp) : List (κ × D) → List (κ × V) → Prop
  | [], vs => vs = []
  | d :: ds, vs => ∃ v ws, vs = (d.1, v) :: ws ∧ Rep K ι H d.2 v ∧ RepF K ι H ds ws

/-- the places go on -/
def Ext (ι ι' : List Addr) : Prop := ∃ l, ι' = ι ++ l
theorem Ext.refl (ι : List Addr) : Ext ι ι := ⟨[], by simp⟩
theorem Ext.trans {a b c : List Addr} (h : Ext a b) (k : Ext b c) : Ext a c := by
  obtain ⟨l, rfl⟩ := h
  obtain ⟨m, rfl⟩ := k
  exact ⟨l ++ m, by simp⟩
theorem Ext.at {a b : List Addr} (h : Ext a b) {n : Nat} {x : Addr} (e : a[n]? = some x) : b[n]? = some x := by
  obtain ⟨l, rfl⟩ := h
  rw [List.getElem?_append_left (List.getElem?_eq_some_iff.mp e).1]
  exact e
theorem Ext.one (ι : List Addr) (p : Addr) : Ext ι (ι ++ [p]) := ⟨[p], rfl⟩
/-- what never changes -/
def Stb : HO → Prop
  | .tup _ => True
  | .frz _ (.lst _) => True
  | .xd _ => True
  | _ => False
def Kept (H H' : Hp) : Prop := ∀ a u, H a = some u → Stb u → H' a = some u
theorem Kept.refl (H : Hp) : Kept H H := fun _ _ h _ => h
theorem Kept.trans {a b c : Hp} (h : Kept a b) (k : Kept b c) : Kept a c := fun x u e z => k x u (h x u e z) z
theorem Same.kept {H H' : Hp} (h : Same H H') : Kept H H' := fun a u e _ => h a _ e
theorem same_new {H : Hp} {p : Addr} {o : HO} (h : H p = none) : Same H (upd H p o) := fun b u e => by
  rw [upd_ne (ne_of_none e h)]
  exact e
theorem TupAt.kept {K : PySem.W.Frag} {H H' : Hp} {a : Addr} {xs : List V} (k : Kept H H') (h : TupAt K H a xs) : TupAt K H' a xs := by
  rcases h with h | h
  · exact .inl (k _ _ h True.intro)
  · exact .inr h
theorem FroAt.kept {K : PySem.W.Frag} {H H' : Hp} {a : Addr} {xs : List V} (k : Kept H H') (h : FroAt K H a xs) : FroAt K H' a xs := by
  rcases h with ⟨o, h⟩ | h
  · exact .inl ⟨o, k _ _ h True.intro⟩
  · exact .inr h

/-- from one moment to a later one: new places were free; what is not a place of ours stays; nothing tracked is lost -/
structure Go (ι : List Addr) (H : Hp) (ι' : List Addr) (H' : Hp) : Prop where
  ext : ∃ l, ι' = ι ++ l ∧ ∀ a ∈ l, H a = none
  keep : ∀ a u, H a = some u → a ∉ ι → H' a = some u
  tups : Kept H H'
  there : ∀ a, H a ≠ none → H' a ≠ none
  fz : ∀ a o vs, H a = some (.frz o (.dK vs)) → H' a = some (.frz o (.dK vs))
theorem Go.refl (ι : List Addr) (H : Hp) : Go ι H ι H := ⟨⟨[], by simp⟩, fun _ _ h _ => h, Kept.refl H, fun _ h => h, fun _ _ _ h => h⟩
theorem Go.ex {ι ι' : List Addr} {H H' : Hp} (h : Go ι H ι' H') : Ext ι ι' := let ⟨l, e, _⟩ := h.ext; ⟨l, e⟩
theorem Go.trans {ι ι1 ι2 : List Addr} {H H1 H2 : Hp} (h : Go ι H ι1 H1) (k : Go ι1 H1 ι2 H2) : Go ι H ι2 H2 := by
  obtain ⟨l, rfl, hl⟩ := h.ext
  obtain ⟨m, rfl, hm⟩ := k.ext
  refine ⟨⟨l ++ m, by simp, fun a ha => ?_⟩, fun a u e n => ?_, h.tups.trans k.tups, fun a z => k.there a (h.there a z), fun a o vs z => k.fz a o vs (h.fz a o vs z)⟩
  · rcases List.mem_append.mp ha with ha | ha
    · exact hl a ha
    · have q := hm a ha
      cases z : H a with
      | none => rfl
      | some u => exact absurd q (h.there a (by rw [z]; exact fun w => nomatch w))
  · refine k.keep a u (h.keep a u e n) fun z => ?_
    rcases List.mem_append.mp z with z | z
    · exact n z
    · rw [hl a z] at e; cases e
theorem Go.same {ι : List Addr} {H H' : Hp} (k : Same H H') : Go ι H ι H' where
  ext := ⟨[], by simp⟩
  keep := fun _ _ h _ => k _ _ h
  tups := Same.kept k
  there := fun a h => by
    cases z : H a with
    | none => exact absurd z h
    | some u => rw [k a u z]; exact fun w => nomatch w
  fz := fun _ _ _ h => k _ _ h
theorem Go.new {ι : List Addr} {H H' : Hp} {p : Addr} (k : Same H H') (hp : H p = none) : Go ι H (ι ++ [p]) H' :=
  ⟨⟨[p], rfl, fun a ha => by
    have e : a = p := by simpa using ha
    rw [e]; exact hp⟩, fun _ _ h _ => k _ _ h, Same.kept k, (Go.same (ι := ι) k).there, (Go.same (ι := ι) k).fz⟩

section
variable {K : PySem.W.Frag} {ι ι' : List Addr} {H H' : Hp}
mutual
theorem Rep.mono (e : Ext ι ι') (k : Kept H H') : ∀ {d : D} {v : V}, Rep K ι H d v → Rep K ι' H' d v
  | .non, _, h => h
  | .bl _, _, h => h
  | .int _, _, h => h
  | .str _, _, h => h
  | .tup ds, _, h => by
    simp only [Rep] at h ⊢
    obtain ⟨a, vs, h1, h2, h3⟩ := h
    exact ⟨a, vs, h1, h2.kept k, Reps.mono e k h3⟩
  | .flst ds, _, h => by
    simp only [Rep] at h ⊢
    obtain ⟨a, vs, h1, h2, h3⟩ := h
    exact ⟨a, vs, h1, h2.kept k, Reps.mono e k h3⟩
  | .ref n, _, h => by
    simp only [Rep] at h ⊢
    obtain ⟨a, h1, h2⟩ := h
    exact ⟨a, h1, e.at h2⟩
theorem Reps.mono (e : Ext ι ι') (k : Kept H H') : ∀ {ds : List D} {vs : List V}, Reps K ι H ds vs → Reps K ι' H' ds vs
  | [], _, h => h
  | d :: ds, _, h => by
    simp only [Reps] at h ⊢
    obtain ⟨v, ws, h1, h2, h3⟩ := h
    exact ⟨v, ws, h1, Rep.mono e k h2, Reps.mono e k h3⟩
end
theorem RepF.mono {κ : Type} (e : Ext ι ι') (k : Kept H H') : ∀ {ds : List (κ × D)} {vs : List (κ × V)}, RepF K ι H ds vs → RepF K ι' H' ds vs
  | [], _, h => h
  | d :: ds, _, h => by
    obtain ⟨v, ws, h1, h2, h3⟩ := h
    exact ⟨v, ws, h1, Rep.mono e k h2, RepF.mono e k h3⟩
theorem Reps.nil : Reps K ι H [] [] := by simp [Reps]
theorem Reps.cons {d : D} {v : V} {ds : List D} {vs : List V} (h : Rep K ι H d v) (t : Reps K ι H ds vs) : Reps K ι H (d :: ds) (v :: vs) := by
  simp only [Reps]
  exact ⟨v, vs, rfl, h, t⟩
theorem Reps.length : ∀ {ds : List D} {vs : List V}, Reps K ι H ds vs → vs.length = ds.length
  | [], _, h => by simp only [Reps] at h; subst h; rfl
  | d :: ds, _, h => by
    simp only [Reps] at h
    obtain ⟨v, ws, rfl, h2, h3⟩ := h
    simp [Reps.length h3]
theorem Reps.get : ∀ {ds : List D} {vs : List V} {i : Nat} {d : D}, Reps K ι H ds vs → ds[i]? = some d → ∃ v, vs[i]? = some v ∧ Rep K ι H d v
  | [], _, _, _, _, e => by simp at e
  | d :: ds, _, i, x, h, e => by
    simp only [Reps] at h
    obtain ⟨v, ws, rfl, h2, h3⟩ := h
    cases i with
    | zero => simp at e; subst e; exact ⟨v, rfl, h2⟩
    | succ i =>
      obtain ⟨u, h4, h5⟩ := Reps.get (i := i) (d := x) h3 (by simpa using e)
      exact ⟨u, by simpa using h4, h5⟩
theorem Reps.getV : ∀ {ds : List D} {vs : List V} {i : Nat} {v : V}, Reps K ι H ds vs → vs[i]? = some v → ∃ d, ds[i]? = some d ∧ Rep K ι H d v := by
  intro ds vs i v h e
  have hl := h.length
  have hi : i < ds.length := by
    have := (List.getElem?_eq_some_iff.mp e).1
    omega
  obtain ⟨u, h4, h5⟩ := Reps.get h (List.getElem?_eq_getElem hi)
  rw [e] at h4
  cases h4
  exact ⟨_, List.getElem?_eq_getElem hi, h5⟩
theorem Reps.append : ∀ {ds es : List D} {vs ws : List V}, Reps K ι H ds vs → Reps K ι H es ws → Reps K ι H (ds ++ es) (vs ++ ws)
  | [], _, _, _, h, g => by simp only [Reps] at h; subst h; exact g
  | d :: ds, _, _, _, h, g => by
    simp only [Reps] at h
    obtain ⟨v, us, rfl, h2, h3⟩ := h
    exact Reps.cons h2 (Reps.append h3 g)
theorem Reps.set : ∀ {ds : List D} {vs : List V} {i : Nat} {d : D} {v : V}, Reps K ι H ds vs → Rep K ι H d v → Reps K ι H (ds.set i d) (vs.set i v)
  | [], _, _, _, _, h, _ => by simp only [Reps] at h; subst h; exact Reps.nil
  | d :: ds, _, i, _, _, h, g => by
    simp only [Reps] at h
    obtain ⟨v, us, rfl, h2, h3⟩ := h
    cases i with
    | zero => exact Reps.cons g h3
    | succ i => exact Reps.cons h2 (Reps.set h3 g)
theorem Reps.drop : ∀ {ds : List D} {vs : List V} (n : Nat), Reps K ι H ds vs → Reps K ι H (ds.drop n) (vs.drop n)
  | _, _, 0, h => by simpa using h
  | [], _, n + 1, h => by simp only [Reps] at h; subst h; exact Reps.nil
  | d :: ds, _, n + 1, h => by
    simp only [Reps] at h
    obtain ⟨v, us, rfl, h2, h3⟩ := h
    exact Reps.drop n h3
theorem Reps.take : ∀ {ds : List D} {vs : List V} (n : Nat), Reps K ι H ds vs → Reps K ι H (ds.take n) (vs.take n)
  | _, _, 0, h => by simp [Reps]
  | [], _, n + 1, h => by simp only [Reps] at h; subst h; exact Reps.nil
  | d :: ds, _, n + 1, h => by
    simp only [Reps] at h
    obtain ⟨v, us, rfl, h2, h3⟩ := h
    exact Reps.cons h2 (Reps.take n h3)
theorem Reps.ints : ∀ {ns : List Int}, Reps K ι H (ns.map D.int) (ns.map V.int)
  | [] => Reps.nil
  | n :: ns => Reps.cons (by simp [Rep]) Reps.ints
end

/-- what stands at a place -/
def ObR (U : Su) (ι : List Addr) (H : Hp) (a : Addr) : O → Prop
  | .lst ds => ∃ vs, H a = some (.lst vs) ∧ Reps U.K ι H ds vs
  | .ins c fs => ∃ dx vs, H a = some (.ins (U.cad c) dx vs) ∧ RepF U.K ι H fs vs
  | .dct kvs => ∃ vs, H a = some (.dK vs) ∧ RepF U.K ι H kvs vs
  | .frd kvs => ∃ od vs, H a = some (.frz od (.dK vs)) ∧ RepF U.K ι H kvs vs
  | .set rows => ∃ w L, U.w = some w ∧ H a = some (RowsO w a L) ∧ (L.map (·.2)).Perm rows ∧ ∀ p ∈ L, TupAt U.K H p.1 (p.2.map kV)
structure RelS (U : Su) (ι : List Addr) (s : S) (H : Hp) : Prop where
  len : ι.length = s.length
  ob : ∀ (n : Nat) (o : O), s[n]? = some o → ∃ a, ι[n]? = some a ∧ ObR U ι H a o
  inj : ∀ (n m : Nat) (a : Addr), ι[n]? = some a → ι[m]? = some a → n = m
section
variable {U : Su} {ι ι' : List Addr} {H H' : Hp} {s : S}
theorem ObR.same {a : Addr} {o : O} (e : Ext ι ι') (k : Kept H H') (hs : ∀ u, H a = some u → H' a = some u) (h : ObR U ι H a o) : ObR U ι' H' a o := by
  cases o with
  | lst ds => obtain ⟨vs, h1, h2⟩ := h; exact ⟨vs, hs _ h1, h2.mono e k⟩
  | ins c fs => obtain ⟨dx, vs, h1, h2⟩ := h; exact ⟨dx, vs, hs _ h1, h2.mono e k⟩
  | dct fs => obtain ⟨vs, h1, h2⟩ := h; exact ⟨vs, hs _ h1, h2.mono e k⟩
  | frd fs => obtain ⟨od, vs, h1, h2⟩ := h; exact ⟨od, vs, hs _ h1, h2.mono e k⟩
  | set rows => obtain ⟨w, L, h1, h2, h3, h4⟩ := h; exact ⟨w, L, h1, hs _ h2, h3, fun p hp => (h4 p hp).kept k⟩
theorem ObR.some {a : Addr} {o : O} (h : ObR U ι H a o) : ∃ u, H a = Option.some u ∧ ¬ Stb u := by
  cases o with
  | lst ds => obtain ⟨vs, h1, h2⟩ := h; exact ⟨_, h1, fun z => z⟩
  | ins c fs => obtain ⟨dx, vs, h1, h2⟩ := h; exact ⟨_, h1, fun z => z⟩
  | dct fs => obtain ⟨vs, h1, h2⟩ := h; exact ⟨_, h1, fun z => z⟩
  | frd fs => obtain ⟨od, vs, h1, h2⟩ := h; exact ⟨_, h1, fun z => z⟩
  | set rows => obtain ⟨w, L, h1, h2, h3, h4⟩ := h; exact ⟨_, h2, fun z => z⟩
/-- a place that is written -/
theorem ObR.nofz {a : Addr} {o : O} (h : ObR U ι H a o) (n : ∀ k, o ≠ .frd k) : ∀ od vs, H a ≠ Option.some (.frz od (.dK vs)) := fun od vs e => by
  cases o with
  | lst ds => obtain ⟨vs, h1, h2⟩ := h; rw [e] at h1; cases h1
  | ins c fs => obtain ⟨dx, vs, h1, h2⟩ := h; rw [e] at h1; cases h1
  | dct fs => obtain ⟨vs, h1, h2⟩ := h; rw [e] at h1; cases h1
  | frd fs => exact n fs rfl
  | set rows => obtain ⟨w, L, h1, h2, h3, h4⟩ := h; rw [e] at h2; cases h2
theorem RelS.at (h : RelS U ι s H) {n : Nat} {a : Addr} {o : O} (e : s[n]? = some o) (i : ι[n]? = some a) : ObR U ι H a o := by
  obtain ⟨b, h1, h2⟩ := h.ob n o e
  rw [i] at h1
  cases h1
  exact h2
/-- nothing that stood has changed -/
theorem RelS.same (h : RelS U ι s H) (k : Same H H') : RelS U ι s H' :=
  ⟨h.len, fun n o e => let ⟨a, h1, h2⟩ := h.ob n o e; ⟨a, h1, h2.same (Ext.refl _) (Same.kept k) (fun u z => k _ _ z)⟩, h.inj⟩
theorem RelS.tup (h : RelS U ι s H) {p : Addr} {xs : List V} (hp : H p = none) : RelS U ι s (upd H p (.tup xs)) := h.same (same_new hp)
theorem RelS.mem (h : RelS U ι s H) {a : Addr} (m : a ∈ ι) : ∃ u, H a = Option.some u ∧ ¬ Stb u := by
  obtain ⟨n, hn, e⟩ := List.mem_iff_getElem.mp m
  have hn' : n < s.length := h.len ▸ hn
  exact (h.at (List.getElem?_eq_getElem hn') (by rw [List.getElem?_eq_getElem hn, e])).some
theorem RelS.fresh (h : RelS U ι s H) {a : Addr} (e : H a = none) : a ∉ ι := fun m => by
  obtain ⟨u, q, _⟩ := h.mem m
  rw [q] at e; cases e
/-- a new object -/
theorem RelS.new (h : RelS U ι s H) {p : Addr} {o : O} (hp : H p = none) (hk : Same H H') (ho : ObR U (ι ++ [p]) H' p o) : RelS U (ι ++ [p]) (s ++ [o]) H' := by
  refine ⟨by simp [h.len], fun n x e => ?_, fun n m a h1 h2 => ?_⟩
  · by_cases hn : n < s.length
    · rw [List.getElem?_append_left hn] at e
      obtain ⟨a, h1, h2⟩ := h.ob n x e
      exact ⟨a, (Ext.one _ _).at h1, h2.same (Ext.one _ _) (Same.kept hk) (fun u z => hk _ _ z)⟩
    · rw [List.getElem?_append_right (by omega)] at e
      have hn0 : n - s.length = 0 := by
        have := (List.getElem?_eq_some_iff.mp e).1
        simp at this
        omega
      rw [hn0] at e
      simp at e
      subst e
      refine ⟨p, ?_, ho⟩
      have : n = ι.length := by rw [h.len]; omega
      subst this
      simp
  · have key : ∀ (k : Nat), (ι ++ [p])[k]? = some a → (ι[k]? = some a ∧ a ≠ p) ∨ (k = ι.length ∧ a = p) := by
      intro k e3
      by_cases hk' : k < ι.length
      · rw [List.getElem?_append_left hk'] at e3
        exact .inl ⟨e3, fun z => h.fresh hp (z ▸ List.mem_of_getElem? e3)⟩
      · have hl := (List.getElem?_eq_some_iff.mp e3).1
        simp at hl
        have : k = ι.length := by omega
        refine .inr ⟨this, ?_⟩
        rw [this] at e3
        simp at e3
        exact e3.symm
    rcases key n h1 with ⟨a2, a3⟩ | ⟨a1, a2⟩ <;> rcases key m h2 with ⟨b2, b3⟩ | ⟨b1, b2⟩
    · exact h.inj n m a a2 b2
    · exact absurd b2 a3
    · exact absurd a2 b3
    · omega
/-- an object is changed -/
theorem RelS.put (h : RelS U ι s H) {n : Nat} {a : Addr} {o o' : O} {u : HO} (nf : ∀ k, o ≠ .frd k) (e : s[n]? = some o) (i : ι[n]? = some a) (ho : ObR U ι (upd H a u) a o') : RelS U ι (s.set n o') (upd H a u) ∧ Go ι H ι (upd H a u) := by
  obtain ⟨w, hw, nt⟩ := (h.at e i).some
  have kp : Kept H (upd H a u) := fun b x z st => by
    rw [upd_ne (fun q => by subst q; rw [hw] at z; cases z; exact nt st)]
    exact z
  have go : Go ι H ι (upd H a u) := ⟨⟨[], by simp⟩, fun b v z nb => by
    rw [upd_ne (fun q => nb (by rw [q]; exact List.mem_of_getElem? i))]
    exact z, kp, fun b z => by
    by_cases hb : b = a
    · rw [hb, upd_same]; exact fun w => nomatch w
    · rw [upd_ne hb]; exact z, fun b od vs z => by
    rw [upd_ne (fun q => by subst q; exact (h.at e i).nofz nf od vs z)]
    exact z⟩
  refine ⟨⟨by simp [h.len], fun k x q => ?_, h.inj⟩, go⟩
  by_cases hk : k = n
  · subst hk
    rw [List.getElem?_set_self (List.getElem?_eq_some_iff.mp e).1] at q
    cases q
    exact ⟨a, i, ho⟩
  · rw [List.getElem?_set_ne (Ne.symm hk)] at q
    obtain ⟨b, h1, h2⟩ := h.ob k x q
    have hb : b ≠ a := fun z => hk (h.inj k n a (z ▸ h1) i)
    exact ⟨b, h1, h2.same (Ext.refl _) kp (fun v z => by rw [upd_ne hb]; exact z)⟩
end

/-- frames -/
abbrev Fr := List (Option D)
/-- the caught exception's fields -/
def ExF (U : Su) (ι : List Addr) (H : Hp) : Prop := (U.exo = none ∧ U.exD = []) ∨ ∃ dd, U.exo = some dd ∧ H dd = some (.xd U.exV) ∧ RepF U.K ι H U.exD U.exV
theorem ExF.mono {U : Su} {ι ι' : List Addr} {H H' : Hp} (e : Ext ι ι') (k : Kept H H') (h : ExF U ι H) : ExF U ι' H' := h.imp id fun ⟨dd, c1, c2, c3⟩ => ⟨dd, c1, k _ _ c2 True.intro, c3.mono e k⟩
def RelF (U : Su) (ι : List Addr) (H : Hp) (τ : Fr) (σ : L2.St) : Prop := τ.length = σ.length ∧ (∀ (i : Nat) d, τ[i]? = some (some d) → ∃ v, σ[i]? = some (some v) ∧ Rep U.K ι H d v) ∧
  ∀ i, U.exi = some i → (∀ v, σ[i]? = some v → v = some (.ref U.exa)) ∧ ExF U ι H
section
variable {U : Su} {ι ι' : List Addr} {H H' : Hp} {τ : Fr} {σ : L2.St}
theorem RelF.mono (e : Ext ι ι') (k : Kept H H') (h : RelF U ι H τ σ) : RelF U ι' H' τ σ :=
  ⟨h.1, fun i d z => let ⟨v, h1, h2⟩ := h.2.1 i d z; ⟨v, h1, h2.mono e k⟩, fun i hi => let ⟨a, b⟩ := h.2.2 i hi; ⟨a, b.mono e k⟩⟩
theorem RelF.set (h : RelF U ι H τ σ) {i : Nat} {d : D} {v : V} (hx : U.exi ≠ some i) (r : Rep U.K ι H d v) : RelF U ι H (τ.set i (some d)) (σ.set i (some v)) := by
  refine ⟨by simp [h.1], fun j x e => ?_, fun j hj => ⟨fun w hw => ?_, (h.2.2 j hj).2⟩⟩
  · by_cases hj : j = i
    · subst hj
      have hl : j < τ.length := by have := (List.getElem?_eq_some_iff.mp e).1; simpa using this
      rw [List.getElem?_set_self hl] at e
      cases e
      exact ⟨v, List.getElem?_set_self (h.1 ▸ hl), r⟩
    · rw [List.getElem?_set_ne (Ne.symm hj)] at e ⊢
      exact h.2.1 j x e
  · rw [List.getElem?_set_ne (fun q => hx (by rw [q]; exact hj))] at hw
    exact (h.2.2 j hj).1 w hw
end

theorem Go.notin {ι ι' : List Addr} {H H' : Hp} {a : Addr} {u : HO} (g : Go ι H ι' H') (e : H a = some u) (n : a ∉ ι) : a ∉ ι' := by
  obtain ⟨l, rfl, hl⟩ := g.ext
  intro m
  rcases List.mem_append.mp m with m | m
  · exact n m
  · rw [hl a m] at e; cases e
/-- a place that is none of ours is written -/
theorem RelS.off {U : Su} {ι : List Addr} {H : Hp} {s : S} (h : RelS U ι s H) {a : Addr} {u o : HO} (n : a ∉ ι) (e : H a = some u) (st : ¬ Stb u) : RelS U ι s (upd H a o) ∧ Kept H (upd H a o) := by
  have kp : Kept H (upd H a o) := fun b x z y => by
    rw [upd_ne (fun q => by subst q; rw [e] at z; cases z; exact st y)]
    exact z
  refine ⟨⟨h.len, fun k x q => ?_, h.inj⟩, kp⟩
  obtain ⟨b, h1, h2⟩ := h.ob k x q
  have hb : b ≠ a := fun z => n (z ▸ List.mem_of_getElem? h1)
  exact ⟨b, h1, h2.same (Ext.refl _) kp (fun v z => by rw [upd_ne hb]; exact z)⟩
theorem Go.off {ι ι' : List Addr} {H H' : Hp} {a : Addr} {o : HO} (g : Go ι H ι' H') (e : H a = none) (kp : Kept H' (upd H' a o)) : Go ι H ι' (upd H' a o) :=
  ⟨g.ext, fun b u q n => by
    rw [upd_ne (fun z => by subst z; rw [e] at q; cases q)]
    exact g.keep b u q n, g.tups.trans kp, fun b z => by
    by_cases hb : b = a
    · rw [hb, upd_same]; exact fun w => nomatch w
    · rw [upd_ne hb]; exact g.there b z, fun b od vs z => by
    rw [upd_ne (fun q => by subst q; rw [e] at z; cases z)]
    exact g.fz b od vs z⟩

/-- an exception's own fields, at its dict -/
def ExR (U : Su) (ι : List Addr) (H : Hp) (fs : List (Str × D)) (o : Option Addr) : Prop := (o = none ∧ fs = []) ∨ ∃ a vs, o = some a ∧ H a = some (.xd vs) ∧ RepF U.K ι H fs vs

/-! ### what is wanted behind -/
section
variable {α β : Type}
def Post (U : Su) (rel : List Addr → Hp → α → β → Prop) (W : WX) (σ : L2.St) (ι : List Addr) (H : Hp) (r : R α) (Q : β → Hp → Prop) : Prop :=
  match r with
  | .ok d s => ∀ ι' H' v, Go ι H ι' H' → RelS U ι' s H' → rel ι' H' d v → Q v H'
  | .exc c fs s => ∀ ι' H' a, Go ι H ι' H' → RelS U ι' s H' → ExR U ι' H' fs a → W (.ref (U.cad c)) a σ H'
  | .bad => False
variable {U : Su} {rel : List Addr → Hp → α → β → Prop} {W : WX} {σ : L2.St} {ι ι' : List Addr} {H H' : Hp} {r : R α} {Q Q' : β → Hp → Prop}
theorem Post.mono (e : Go ι H ι' H') (h : Post U rel W σ ι H r Q) : Post U rel W σ ι' H' r Q := by
  cases r with
  | ok d s => exact fun ι2 H2 v e2 => h ι2 H2 v (e.trans e2)
  | exc c fs s => exact fun ι2 H2 v e2 => h ι2 H2 v (e.trans e2)
  | bad => exact h
theorem Post.imp (h : Post U rel W σ ι H r Q) (hq : ∀ v H, Q v H → Q' v H) : Post U rel W σ ι H r Q' := by
  cases r with
  | ok d s => exact fun ι2 H2 v e2 q1 q2 => hq _ _ (h ι2 H2 v e2 q1 q2)
  | exc c fs s => exact h
  | bad => exact h
theorem Post.bind {γ δ : Type} {rel' : List Addr → Hp → γ → δ → Prop} {f : α → S → R γ} {Q : δ → Hp → Prop} (h : Post U rel' W σ ι H (r.bind f) Q) :
    Post U rel W σ ι H r (fun v H1 => ∃ ι1 s1 d, RelS U ι1 s1 H1 ∧ rel ι1 H1 d v ∧ Go ι H ι1 H1 ∧ Post U rel' W σ ι1 H1 (f d s1) Q) := by
  cases r with
  | ok d s => exact fun ι2 H2 v e2 q1 q2 => ⟨ι2, s, d, q1, q2, e2, Post.mono e2 h⟩
  | exc c fs s => exact h
  | bad => exact h
end
theorem R.bind_assoc {α β γ : Type} (r : R α) (f : α → S → R β) (g : β → S → R γ) : (r.bind f).bind g = r.bind fun a s => (f a s).bind g := by cases r <;> rfl
section
variable {α β γ δ : Type} {U : Su} {rel : List Addr → Hp → α → β → Prop} {rel' : List Addr → Hp → γ → δ → Prop} {W W' : WX} {σ σ' : L2.St} {ι ι2 : List Addr} {H H2 : Hp} {r : R α}
/-- the run goes on from a later moment, what is wanted is said from the first one -/
theorem Post.bindG {f : α → S → R γ} {Q : δ → Hp → Prop} (go : Go ι H ι2 H2) (h : Post U rel' W σ ι H (r.bind f) Q) :
    Post U rel W σ ι2 H2 r (fun v H3 => ∃ ι3 s3 d, RelS U ι3 s3 H3 ∧ rel ι3 H3 d v ∧ Go ι2 H2 ι3 H3 ∧ Post U rel' W σ ι H (f d s3) Q) := by
  cases r with
  | ok d s => exact fun ι3 H3 v e q1 q2 => ⟨ι3, s, d, q1, q2, e, h⟩
  | exc c fs s => exact fun ι3 H3 a e q1 q2 => h ι3 H3 a (go.trans e) q1 q2
  | bad => exact h
theorem Post.sw {Q : β → Hp → Prop} (n : ∀ c fs s, r ≠ .exc c fs s) (h : Post U rel W σ ι H r Q) : Post U rel W' σ' ι H r Q := by
  cases r with
  | ok d s => exact h
  | exc c fs s => exact (n c fs s rfl).elim
  | bad => exact h
end
abbrev RD (U : Su) : List Addr → Hp → D → V → Prop := fun ι H d v => Rep U.K ι H d v
abbrev RDs (U : Su) : List Addr → Hp → List D → List V → Prop := fun ι H d v => Reps U.K ι H d v
abbrev RB : List Addr → Hp → Bool → Bool → Prop := fun _ _ b c => c = b

/-- a statement's ends -/
inductive SR where
  | nx (τ : Fr) (s : S) | rt (d : D) (s : S) | bk (τ : Fr) (s : S) | ct (τ : Fr) (s : S)
  | exc (τ : Fr) (c : Str) (fs : List (Str × D)) (s : S) | bad
def SR.bind : SR → (Fr → S → SR) → SR
  | .nx τ s, f => f τ s
  | r, _ => r
@[simp] theorem SR.bind_nx (τ s) (f : Fr → S → SR) : (SR.nx τ s).bind f = f τ s := rfl
@[simp] theorem SR.bind_rt (d s) (f : Fr → S → SR) : (SR.rt d s).bind f = .rt d s := rfl
@[simp] theorem SR.bind_bk (d s) (f : Fr → S → SR) : (SR.bk d s).bind f = .bk d s := rfl
@[simp] theorem SR.bind_ct (d s) (f : Fr → S → SR) : (SR.ct d s).bind f = .ct d s := rfl
@[simp] theorem SR.bind_exc (τ c fs s) (f : Fr → S → SR) : (SR.exc τ c fs s).bind f = .exc τ c fs s := rfl
@[simp] theorem SR.bind_bad (f : Fr → S → SR) : (SR.bad).bind f = .bad := rfl
/-- an expression's value into a statement -/
def R.toS {α : Type} (τ : Fr) : R α → (α → S → SR) → SR
  | .ok a s, f => f a s
  | .exc c fs s, _ => .exc τ c fs s
  | .bad, _ => .bad
@[simp] theorem R.toS_ok {α : Type} (τ : Fr) (a : α) (s : S) (f : α → S → SR) : (R.ok a s).toS τ f = f a s := rfl
@[simp] theorem R.toS_exc {α : Type} (τ : Fr) (c fs) (s : S) (f : α → S → SR) : (R.exc c fs s).toS τ f = .exc τ c fs s := rfl
@[simp] theorem R.toS_bad {α : Type} (τ : Fr) (f : α → S → SR) : (R.bad).toS τ f = .bad := rfl
section
variable {U : Su} {W : WX} {σ : L2.St} {ι ι' : List Addr} {H H' : Hp} {E E' : Ends}
def PostS (U : Su) (W : WX) (E : Ends) (ι : List Addr) (H : Hp) (r : SR) : Prop :=
  match r with
  | .nx τ s => ∀ ι' H' σ, Go ι H ι' H' → RelS U ι' s H' → RelF U ι' H' τ σ → E.nx σ H'
  | .rt d s => ∀ ι' H' v, Go ι H ι' H' → RelS U ι' s H' → Rep U.K ι' H' d v → E.rt v H'
  | .bk τ s => ∀ ι' H' σ, Go ι H ι' H' → RelS U ι' s H' → RelF U ι' H' τ σ → E.bk σ H'
  | .ct τ s => ∀ ι' H' σ, Go ι H ι' H' → RelS U ι' s H' → RelF U ι' H' τ σ → E.ct σ H'
  | .exc τ c fs s => ∀ ι' H' σ a, Go ι H ι' H' → RelS U ι' s H' → RelF U ι' H' τ σ → ExR U ι' H' fs a → W (.ref (U.cad c)) a σ H'
  | .bad => False
theorem PostS.mono {r : SR} (e : Go ι H ι' H') (h : PostS U W E ι H r) : PostS U W E ι' H' r := by
  cases r with
  | bad => exact h
  | exc τ c fs s => exact fun ι2 H2 σ a e2 => h ι2 H2 σ a (e.trans e2)
  | nx τ s => exact fun ι2 H2 v e2 => h ι2 H2 v (e.trans e2)
  | rt τ s => exact fun ι2 H2 v e2 => h ι2 H2 v (e.trans e2)
  | bk τ s => exact fun ι2 H2 v e2 => h ι2 H2 v (e.trans e2)
  | ct τ s => exact fun ι2 H2 v e2 => h ι2 H2 v (e.trans e2)
theorem PostS.bind {r : SR} {f : Fr → S → SR} (h : PostS U W E ι H (r.bind f)) :
    PostS U W { E with nx := fun σ H1 => ∃ ι1 s1 τ, RelS U ι1 s1 H1 ∧ RelF U ι1 H1 τ σ ∧ Go ι H ι1 H1 ∧ PostS U W E ι1 H1 (f τ s1) } ι H r := by
  cases r with
  | nx τ s => exact fun ι2 H2 v e2 q1 q2 => ⟨ι2, s, τ, q1, q2, e2, PostS.mono e2 h⟩
  | _ => exact h
theorem PostS.toS {α β : Type} {rel : List Addr → Hp → α → β → Prop} {τ : Fr} {r : R α} {f : α → S → SR} (hf : RelF U ι H τ σ) (h : PostS U W E ι H (r.toS τ f)) :
    Post U rel W σ ι H r (fun v H1 => ∃ ι1 s1 d, RelS U ι1 s1 H1 ∧ rel ι1 H1 d v ∧ RelF U ι1 H1 τ σ ∧ Go ι H ι1 H1 ∧ PostS U W E ι1 H1 (f d s1)) := by
  cases r with
  | ok d s => exact fun ι2 H2 v e2 q1 q2 => ⟨ι2, s, d, q1, q2, hf.mono e2.ex e2.tups, e2, PostS.mono e2 h⟩
  | exc c fs s => exact fun ι2 H2 a e2 q1 q2 => h ι2 H2 σ a e2 q1 (hf.mono e2.ex e2.tups) q2
  | bad => exact h
end
end G

set_option Elab.async false
set_option linter.all false
set_option maxRecDepth 100000
set_option autoImplicit false
set_option maxHeartbeats 2000000
/-! GV: list(reversed(a list)). -/
namespace G
open PySem PySem.Spec PyProof.Rows L2 RT
section
variable {prog : Program} {w : World} {A : Around} {E : Value → Shared → Prop} {s : Shared} {R : Result → Shared → Prop}
abbrev FinR (prog : Program) (w : World) (A : Around) (R : Result → Shared → Prop) : PySem.Fin → Shared → Prop := fun fin s' => match fin with
  | .done f => R (.ok f) s'
  | .again c' => c'.quiet = true ∧ codeAny (model prog w) A c' R s'
/-- a list is lengthened by what an iterator from the end gives -/
theorem ext_rev {S it l : Addr} {items : Array Value} {c0 : Nat} {res : Value} (hh : A.handled = none) (hit : s.heap.IsRevIter it l ((items.size : Int) - 1)) (hl : s.heap.IsList l items) (hne : l ≠ it) (hn : items.size ≤ sizeLine)
    (hS : s.heap.get? S = some { cls := .type "list", dict := none, data := .seq #[] c0, slots := #[] }) (hSi : S ≠ it) (hSl : S ≠ l)
    (hR : ∀ (h' : Heap) (tk : Nat) (acc : Array Value) (c : Nat), (∀ b o, b ≠ S → b ≠ it → s.heap.get? b = some o → h'.get? b = some o) → h'.get? S = some { cls := .type "list", dict := none, data := .seq acc c, slots := #[] } → ItemsOf (fun i v => items[items.size - 1 - i]? = some v) acc items.size → R (.ok (.ret res)) { s with heap := h', toks := tk }) :
    wpAny (model prog w) A.in1 (Builtin.List.listExtendWith (.ref S) (.ref it) res) (FinR prog w A R) (fun e s' => R (.error e) s') s := by
  have W := (Walks.listRev (prog := prog) (w := w) (A := A.in1) hh it l hne items).toS
  have hSf : S ∉ [it, l] := by simp only [List.mem_cons, List.not_mem_nil, or_false, not_or]; exact ⟨hSi, hSl⟩
  have hT : s.TypeIs (.ref it) "list_reverseiterator" := Heap.IsRevIter.typeIs (s := s) hit
  have h1 : Builtin.List.listSameRef (.ref S) (.ref it) = false := by simp [Builtin.List.listSameRef, hSi]
  unfold Builtin.List.listExtendWith; refine wpAny_bind (wpAny_typeOf hT ?_); rw [if_neg (by rw [h1]; decide)]
  refine wpAny_bind (wpAny_pyIter_revIter (s := s) hit ?_)
  refine wpAny_bind (wpAny_holding ?_); unfold Builtin.List.listLengthHint; refine wpAny_bind (wpAny_specialOf hT nolen_lri ?_)
  show wpAny _ A.in1 (specialOf (.ref it) (Str.ofString "__length_hint__") >>= _) _ _ _
  refine wpAny_bind (wpAny_specialOf hT hint_lri ?_)
  generalize hid : ("list_reverseiterator.__length_hint__" : String) = id1
  wp_delta
  rw [show splitId id1 = some ("list_reverseiterator", "__length_hint__") from by subst hid; decide +kernel]
  subst hid
  refine wpAny_bind (wpAny_isInstance (b := true) hT (by rw [isSubtype_type]; kernel_rfl) ?_); refine wpAny_pure ?_; rw [if_neg (by decide)]
  have e0 : ((items.size : Nat) : Int) - 1 - ((0 : Nat) : Int) = (items.size : Int) - 1 := by omega
  refine wpAny_pure ⟨plainId_quiet F.plain_extend_loop _, codeAny_extend_loopS W hn S hSf res items.size 0 s #[] c0 rfl (Nat.zero_le _) ⟨Nat.zero_le _, (by rw [e0]; exact hit), hl⟩ hS (ItemsOf.nil _) fun s' acc c hm hS' hacc => ?_⟩
  rw [Moved.eq_with hm]
  refine hR s'.heap s'.toks acc c (fun b o h2 h3 e => hm.heap b o (fun hmem => ?_) e) hS' hacc
  rcases List.mem_cons.mp hmem with e' | hmem
  · exact h2 e'
  · exact h3 (List.mem_singleton.mp hmem)
theorem call_list_rev {it l : Addr} {items : Array Value} {Q : Value → Shared → Prop} (hh : A.handled = none) (hit : s.heap.IsRevIter it l ((items.size : Int) - 1)) (hl : s.heap.IsList l items) (hne : l ≠ it) (hn : items.size ≤ sizeLine)
    (hQ : ∀ (h' : Heap) (tk : Nat) (acc : Array Value) (c : Nat), (∀ b o, b ≠ it → s.heap.get? b = some o → h'.get? b = some o) → h'.get? s.heap.objs.size = some { cls := .type "list", dict := none, data := .seq acc c, slots := #[] } → ItemsOf (fun i v => items[items.size - 1 - i]? = some v) acc items.size → Q (.ref s.heap.objs.size) { s with heap := h', toks := tk }) :
    wpAny (model prog w) A (call (.type "list") [.ref it]) Q E s := by
  obtain ⟨oi, hoi, _⟩ := id hit
  obtain ⟨ol, hol, _⟩ := id hl
  have hSi : s.heap.objs.size ≠ it := Nat.ne_of_gt (Heap.lt_size hoi)
  have hSl : s.heap.objs.size ≠ l := Nat.ne_of_gt (Heap.lt_size hol)
  refine callType_codes (Q₁ := fun obj s₁ => obj = .ref s.heap.objs.size ∧ s₁ = { s with heap := s.heap.push { cls := .type "list", data := .seq #[] } }) F.called_list (F.typeCall_list_1 _) F.entry_list_init (code_list_new _ ⟨rfl, rfl⟩) fun obj s1 h1 => ?_
  obtain ⟨rfl, rfl⟩ := h1
  have hS : (s.heap.push { cls := .type "list", data := .seq #[] }).get? s.heap.objs.size = some { cls := .type "list", data := .seq #[] } := Heap.get?_push_size _ rfl
  refine ⟨⟨_, hS, rfl⟩, F.args_list_init_2 _ _, ?_⟩
  show wpAny _ A.in1.in1 (do let old ← Builtin.List.listItems (.ref s.heap.objs.size); Builtin.List.listUpdate (.ref s.heap.objs.size) (fun _ => #[]); letGo old.toList.reverse; Builtin.List.listExtendWith (.ref s.heap.objs.size) (.ref it) .none) _ _ _
  refine wpAny_bind ?_; unfold Builtin.List.listItems; refine wpAny_bind (wpAny_seqItems hS rfl (wpAny_pure ?_))
  show wpAny _ A.in1.in1 (updateSeq s.heap.objs.size (fun _ => #[]) >>= fun _ => letGo (#[] : Array Value).toList.reverse >>= fun _ => Builtin.List.listExtendWith (.ref s.heap.objs.size) (.ref it) .none) _ _ _
  refine wpAny_bind (wpAny_updateSeq hS rfl ?_)
  have hS2 := Heap.get?_update_self (Obj.mapSeq (fun _ => (#[] : Array Value))) hS rfl
  have oth : ∀ b o, b ≠ s.heap.objs.size → s.heap.get? b = some o → ((s.heap.push { cls := .type "list", data := .seq #[] }).update s.heap.objs.size (Obj.mapSeq (fun _ => (#[] : Array Value)))).get? b = some o :=
    fun b o hb e => (Heap.get?_update_other _ _ (Ne.symm hb)).trans (Heap.get?_push_of_some _ e)
  refine wpAny_bind (wpAny_letGo ?_)
  refine ext_rev (A := A.in1) (items := items) hh (hit.at fun o e => oth _ _ (Ne.symm hSi) e) ?_ hne hn hS2 hSi hSl fun h' tk acc c hk hS' hacc => ?_
  · obtain ⟨o, ho, r⟩ := hl
    exact ⟨o, oth _ _ (Ne.symm hSl) ho, r⟩
  · exact ⟨rfl, hQ h' tk acc c (fun b o hb e => hk b o (Nat.ne_of_lt (Heap.lt_size e)) hb (oth b o (Nat.ne_of_lt (Heap.lt_size e)) e)) hS' hacc⟩
end
def tLstRev (K : PySem.W.Frag) (te : TE) : TE := fun σ H Q => te σ H fun v H1 => ∃ (a : Addr) (xs : List V), v = .ref a ∧ SqL K H1 a xs ∧ ∀ q, H1 q = none → Q (.ref q) (upd H1 q (.lst xs.reverse))
section
variable {X : Cx}
theorem pe_listRev {e : Expr} {te : TE} {p p2 pos pos2 : Pos} (hc : X.calm = true) (hg : Gl X "list") (hm : X.mg "list" = none) (hg2 : Gl X "reversed") (hm2 : X.mg "reversed" = none) (he : PE X e te)
    (hs : starEach [e] X.env = (false, eval e X.env) :: starEach [] X.env := by rfl) (hs2 : starEach [.Call (.Name "reversed" p2) [e] [] pos2] X.env = (false, eval (.Call (.Name "reversed" p2) [e] [] pos2) X.env) :: starEach [] X.env := by rfl) :
    PE X (.Call (.Name "list" p) [.Call (.Name "reversed" p2) [e] [] pos2] [] pos) (tLstRev X.K te) := by
  refine ⟨fun pins s σ H Q I h => ?_⟩
  refine Call_ (ld_blt I hg hm boot_list (callWith_type1 (args_cons (Call_ (ld_blt I hg2 hm2 boot_reversed (callWith_type1 (args_cons (thn (he.run pins s σ H _ I h) fun u s1 ⟨v, H1, I1, r1, q1⟩ => args_nil ?_) hs) hs rfl))) hs2) hs2 rfl))
  obtain ⟨a, xs, ev, hq, q⟩ := q1
  subst ev; obtain rfl : u = Value.ref a := r1
  obtain ⟨its, rv, p', hz⟩ := I1.list hq
  refine call_reversed_list p'.isList (args_nil ?_)
  have k0 : ∀ b o, s1.heap.get? b = some o → (s1.heap.push (revObj a ((its.toArray.size : Int) - 1))).get? b = some o := fun b o e => Heap.get?_push_of_some _ e
  have I2 : Inv X pins σ H1 { s1 with heap := s1.heap.push (revObj a ((its.toArray.size : Int) - 1)) } := I1.kept (t' := s1.toks) k0
  obtain ⟨f0, f1, f2, f3, f4, f5⟩ := I1.fpOk (H' := H1) (b := s1.heap.objs.size) (Nat.le_refl _) (I1.hok.fresh (Nat.le_refl _))
  have hl := p'.isList
  obtain ⟨ol, hol, _⟩ := id hl
  have hne : a ≠ s1.heap.objs.size := Nat.ne_of_lt (Heap.lt_size hol)
  have hn : its.toArray.size ≤ sizeLine := by rw [List.size_toArray, ← rv.length]; exact hz
  refine call_list_rev (s := { s1 with heap := s1.heap.push (revObj a ((its.toArray.size : Int) - 1)) }) (I1.ok.hd hc) ⟨_, Heap.get?_push_size _ rfl, rfl, rfl⟩ (hl.push _) hne hn fun h' tk acc c hk hS' hi => ?_
  have hk' : ∀ b o, s1.heap.get? b = some o → h'.get? b = some o := fun b o e => hk b o (Nat.ne_of_lt (Heap.lt_size e)) (Heap.get?_push_of_some _ e)
  have hle : s1.heap.objs.size ≤ (s1.heap.push (revObj a ((its.toArray.size : Int) - 1))).objs.size := by simp [Heap.push]
  refine ⟨.ref _, upd H1 (s1.heap.push (revObj a ((its.toArray.size : Int) - 1))).objs.size (.lst xs.reverse), I1.laid (t' := tk) hk' hle (show ObjOk X.prog X.w _ _ _ (.lst xs.reverse) from ⟨by rw [List.length_reverse]; exact hz, acc.toList, c, vals_rev rv hi, ?_⟩), rfl, q _ (I1.hok.fresh hle)⟩
  rw [Array.toArray_toList]; exact hS'
end
end G

set_option Elab.async false
set_option linter.all false
set_option maxRecDepth 100000
set_option autoImplicit false
/-! G2: a plain language of expressions and commands, and what it does on plain values and stores. -/
namespace G
open PySem PySem.Spec PyProof.Rows L2

inductive Cst where
  | non | bl (b : Bool) | int (i : Int) | str (x : Str)
def Cst.d : Cst → D
  | .non => .non
  | .bl b => .bl b
  | .int i => .int i
  | .str x => .str x
inductive Bop where
  | add | sub | mul | fdiv | mod | pow
inductive Cop where
  | lt | le | gt | ge | eq | ne | isn | notn | inn | nin
inductive Ty where
  | int | bool | str | list | tuple | dict
def Ty.isList : Ty → Bool
  | .list => true
  | _ => false
def Ty.isDict : Ty → Bool
  | .dict => true
  | _ => false
inductive Bf where
  | len | abs | int | list | tuple | dict | sorted | min | max
/-- a method's name -/
inductive Mf where
  | append | join | clear | get | insert | pop | extend
/-- a method of a built-in type -/
inductive Mi where
  | lappend | sjoin | lclear | dclear | dget | linsert | lpop | lextend | dpop
inductive Tv where
  | var (i : Nat) | tup (is : List Nat)
inductive Ik where
  | seq | rng1 | rng2 | items
mutual
inductive Ex where
  | nop
  | var (i : Nat)
  | cst (c : Cst)
  | glob (i : Nat)
  | bin (o : Bop) (a b : Ex)
  | neg (a : Ex)
  | not (a : Ex)
  | and (a b : Ex)
  | or (a b : Ex)
  | cmp (o : Cop) (a b : Ex)
  | cmp2 (o o' : Cop) (a b c : Ex)
  | ife (c a b : Ex)
  | tup (es : Exs)
  | lst (es : Exs)
  | ix (a i : Ex)
  | sl (a lo hi : Ex)
  | call (f : Nat) (es : Exs)
  | blt (b : Bf) (es : Exs)
  | meth (m : Mf) (o : Ex) (es : Exs)
  | isi (a : Ex) (t : Ty)
  | lc (elt : Ex) (t : Tv) (k : Ik) (its : Exs) (cond : Ex) (own : List (Str × Nat))
  | lrg (a : Ex)
  | dct
  | dc (kx vx : Ex) (t : Tv) (k : Ik) (its : Exs) (own : List (Str × Nat))
  | fld (a : Ex) (f : Str)
  | mc (m : Str) (o : Ex) (es : Exs)
  | mk (c : Str) (es : Exs)
  | isc (a : Ex) (c : Str)
  | lrv (a : Ex)
  | oeq (a b : Ex)
  | set0
  | rin (neg : Bool) (a b : Ex)
  | sadd (o a : Ex)
  | srk (f : Nat) (a : Ex)
  | efld (i : Nat) (f : Str)
  | eis (i : Nat) (c : Str)
inductive Exs where
  | nil
  | cons (e : Ex) (es : Exs)
end
inductive Tg where
  | loc (t : Tv) | sub (o i : Ex) | fld (o : Ex) (f : Str)
mutual
inductive Cm where
  | asg (t : Tg) (e : Ex)
  | ite (c : Ex) (a b : Cms)
  | for_ (t : Tv) (k : Ik) (its : Exs) (body : Cms)
  | whl (c : Ex) (body : Cms)
  | ret (e : Ex)
  | retn
  | expr (e : Ex)
  | pass
  | brk
  | cont
  | rse (c : Str) (es : Exs)
  | try_ (body : Cms) (hs : Hs)
  | lk (e : Ex) (c : Cm)
inductive Cms where
  | nil
  | cons (c : Cm) (cs : Cms)
inductive Hs where
  | nil
  | cons (c : Str) (as : Option Nat) (suite : Cms) (r : Hs)
end
def Exs.len : Exs → Nat
  | .nil => 0
  | .cons _ es => es.len + 1

/-! ### data behind values -/
mutual
def toP : Nat → S → D → Option PyData
  | _, _, .non => some .none
  | _, _, .bl b => some (.bool b)
  | _, _, .int i => some (.int i)
  | _, _, .str x => some (.str x)
  | 0, _, .tup _ => none
  | 0, _, .flst _ => none
  | 0, _, .ref _ => none
  | k + 1, s, .tup ds => (toPs k s ds).map .tuple
  | k + 1, s, .flst ds => (toPs k s ds).map .list
  | k + 1, s, .ref n => match s[n]? with
    | some (.lst ds) => (toPs k s ds).map .list
    | _ => none
def toPs : Nat → S → List D → Option (List PyData)
  | _, _, [] => some []
  | k, s, d :: ds => match toP k s d, toPs k s ds with
    | some p, some ps => some (p :: ps)
    | _, _ => none
end

def lstAt (s : S) (n : Nat) : Option (List D) := match s[n]? with
  | some (.lst ds) => some ds
  | _ => none
def dctAt (s : S) (n : Nat) : Option (List (Key × D)) := match s[n]? with
  | some (.dct kvs) => some kvs
  | _ => none
def insAt (s : S) (n : Nat) : Option (Str × List (Str × D)) := match s[n]? with
  | some (.ins c fs) => some (c, fs)
  | _ => none
def keyD : D → Option Key
  | .int i => some (.inl i)
  | .str x => some (.inr x)
  | _ => none
def dKey : Key → D
  | .inl i => .int i
  | .inr x => .str x
section
variable {κ α : Type} [DecidableEq κ]
def getK (kvs : List (κ × α)) (k : κ) : Option α := (kvs.find? fun p => decide (p.1 = k)).map (·.2)
def setK (kvs : List (κ × α)) (k : κ) (v : α) : List (κ × α) :=
  if (kvs.any fun p => decide (p.1 = k)) = true then kvs.map (fun p => if p.1 = k then (p.1, v) else p) else kvs ++ [(k, v)]
def dropG (kvs : List (κ × α)) (k : κ) : List (κ × α) := kvs.filter fun p => decide (p.1 ≠ k)
end
def setF (f : Str) (v : D) : List (Str × D) → List (Str × D)
  | [] => [(f, v)]
  | (g, u) :: r => if g = f then (g, v) :: r else (g, u) :: setF f v r
def seqOf (s : S) : D → Option (List D)
  | .ref n => lstAt s n
  | .tup ds => some ds
  | .flst ds => some ds
  | _ => none

/-- a row: a tuple of ints and texts -/
def keysOf : List D → Option (List Key)
  | [] => some []
  | d :: ds => (keyD d).bind fun k => (keysOf ds).map (k :: ·)
def rowK : D → Option (List Key)
  | .tup ds => keysOf ds
  | _ => none
def setAt? (s : S) : D → Option (List (List Key))
  | .ref n => (match s[n]? with
    | some (.set rows) => some rows
    | _ => none)
  | _ => none
/-! ### operations -/
def new (o : O) (s : S) : R D := .ok (.ref s.length) (s ++ [o])
def addD : D → D → S → R D
  | .int i, .int j, s => .ok (.int (i + j)) s
  | .str x, .str y, s => if x.length + y.length ≤ sizeLine then .ok (.str (x ++ y)) s else .bad
  | .ref m, .ref n, s => match s[m]?, s[n]? with
    | some (.lst a), some (.lst b) => if a.length + b.length ≤ sizeLine then new (.lst (a ++ b)) s else .bad
    | _, _ => .bad
  | .tup a, .tup b, s => if a.length + b.length ≤ sizeLine then .ok (.tup (a ++ b)) s else .bad
  | _, _, _ => .bad
def binD : Bop → D → D → S → R D
  | .add, x, y, s => addD x y s
  | .sub, .int i, .int j, s => .ok (.int (i - j)) s
  | .mul, .int i, .int j, s => if (-(2 ^ 64) < i ∧ i < 2 ^ 64) ∨ (-(2 ^ 64) < j ∧ j < 2 ^ 64) then .ok (.int (i * j)) s else .bad
  | .fdiv, .int i, .int j, s => if 0 < j ∧ j.natAbs.log2 < 9000 then .ok (.int (i / j)) s else .bad
  | .mod, .int i, .int j, s => if 0 < j then .ok (.int (i % j)) s else .bad
  | .pow, .int i, .int j, s => if 0 ≤ j ∧ j ≤ 1000000 ∧ i.natAbs < 2 ^ 64 then .ok (.int (i ^ j.toNat)) s else .bad
  | _, _, _, _ => .bad
def negD : D → S → R D
  | .int i, s => .ok (.int (-i)) s
  | _, _ => .bad
def inStr (x y : Str) : Bool := match x.cps.toList with
  | [c] => decide (c ∈ y.cps.toList)
  | _ => !(Builtin.Str.occurrences y x 0 y.length 1).isEmpty
def flatD : D → Bool
  | .non => true
  | .bl _ => true
  | .int _ => true
  | .str _ => true
  | _ => false
def eqF : D → D → Bool
  | .non, .non => true
  | .bl a, .bl b => a == b
  | .bl a, .int b => (if a then 1 else 0) == b
  | .int a, .bl b => a == (if b then 1 else 0)
  | .int a, .int b => a == b
  | .str a, .str b => a == b
  | _, _ => false
def inD : D → D → S → R Bool
  | .str x, .str y, s => .ok (inStr x y) s
  | x, .ref n, s => match s[n]? with
   | some (.dct kvs) => (match keyD x with
    | some k => .ok (getK kvs k).isSome s
    | none => .bad)
   | _ => match toP 60 s x, toP 60 s (.ref n) with
    | some d, some (.list ds) => if SeqAt.shaped d = true ∧ SeqAt.shaped (.list ds) = true then .ok (ds.any fun z => PyData.eqv z d) s else .bad
    | _, _ => .bad
  | x, .tup ds, s => if flatD x = true ∧ ds.all flatD = true then .ok (ds.any fun z => eqF z x) s else .bad
  | _, _, _ => .bad
def eqP (x y : D) (s : S) : R Bool := match toP 60 s x, toP 60 s y with
  | some d, some e => if SeqAt.shaped d = true ∧ SeqAt.shaped e = true then .ok (PyData.eqv d e) s else .bad
  | _, _ => .bad
/-- the items of one dict, looked up in the other -/
def eqHits (l : List (Key × D)) (s : S) : List (Key × D) → R Bool
  | [] => .ok true s
  | (k, v) :: r => match getK l k with
    | none => .ok false s
    | some u => (eqP v u s).bind fun a _ => (eqHits l s r).bind fun b _ => .ok (a && b) s
def eqK (ks ls : List (Key × D)) (s : S) : R Bool := if ks.length = ls.length then eqHits ls s ks else .ok false s
def eqD : D → D → S → R Bool
  | .ref m, .ref n, s => (match s[m]?, s[n]? with
    | some (.dct ks), some (.dct ls) => eqK ks ls s
    | _, _ => eqP (.ref m) (.ref n) s)
  | x, y, s => eqP x y s
def ltD : D → D → S → R Bool
  | .int i, .int j, s => .ok (decide (i < j)) s
  | .str i, .str j, s => .ok (decide (i.cps.toList < j.cps.toList)) s
  | _, _, _ => .bad
def leD : D → D → S → R Bool
  | .int i, .int j, s => .ok (decide (i ≤ j)) s
  | _, _, _ => .bad
def D.isNon : D → Bool
  | .non => true
  | _ => false
def cmpD : Cop → D → D → S → R Bool
  | .lt, x, y, s => ltD x y s
  | .le, x, y, s => leD x y s
  | .gt, .int i, .int j, s => .ok (decide (j < i)) s
  | .ge, .int i, .int j, s => .ok (decide (j ≤ i)) s
  | .eq, x, y, s => eqD x y s
  | .ne, x, y, s => (eqD x y s).bind fun b s => .ok (!b) s
  | .isn, x, .non, s => .ok x.isNon s
  | .notn, x, .non, s => .ok (!x.isNon) s
  | .inn, x, y, s => inD x y s
  | .nin, x, y, s => (inD x y s).bind fun b s => .ok (!b) s
  | _, _, _, _ => .bad
def truD : D → S → R Bool
  | .non, s => .ok false s
  | .bl b, s => .ok b s
  | .int i, s => .ok (i != 0) s
  | .str x, s => if x.length ≤ sizeLine then .ok ((x.length : Int) != 0) s else .bad
  | .tup ds, s => .ok (!ds.isEmpty) s
  | .flst ds, s => .ok (!ds.isEmpty) s
  | .ref n, s => (match lstAt s n with
    | some ds => .ok (!ds.isEmpty) s
    | none => .bad)
def ixS (x : D) (i : Int) (s : S) : R D := match (seqOf s x).bind fun ds => atI ds i with
    | some d => .ok d s
    | none => .bad
def ixD : D → D → S → R D
  | .str x, .int i, s => if x.length ≤ sizeLine then (match atI x.cps.toList i with
    | some c => .ok (.str ⟨#[c]⟩) s
    | none => .bad) else .bad
  | .ref n, y, s => (match dctAt s n with
    | some kvs => (match (keyD y).bind (getK kvs) with
      | some d => .ok d s
      | none => .bad)
    | none => (match y with
      | .int i => ixS (.ref n) i s
      | _ => .bad))
  | x, .int i, s => ixS x i s
  | _, _, _ => .bad
def cutL {α : Type} (xs : List α) (lo hi : Option Int) : List α := (xs.drop (HT.sIx xs.length 0 lo)).take (HT.sIx xs.length xs.length hi - HT.sIx xs.length 0 lo)
def slD : D → Option Int → Option Int → S → R D
  | .str x, lo, hi, s => if x.length ≤ sizeLine then .ok (.str (cutS x lo hi)) s else .bad
  | .tup ds, lo, hi, s => .ok (.tup (cutL ds lo hi)) s
  | .ref n, lo, hi, s => match lstAt s n with
    | some ds => new (.lst (cutL ds lo hi)) s
    | none => .bad
  | _, _, _, _ => .bad
def strsOf : List D → Option (List Str)
  | [] => some []
  | .str x :: ds => (strsOf ds).map (x :: ·)
  | _ => none
def leT (a b : Str) : Bool := decide (a.cps.toList ≤ b.cps.toList)
/-- texts, ascending -/
def sortT (xs : List Str) : List Str := xs.mergeSort leT
def dctOf (s : S) : D → Option (List (Key × D))
  | .ref n => dctAt s n
  | _ => none
def bltD : Bf → List D → S → R D
  | .len, [.str x], s => if x.length ≤ sizeLine then .ok (.int x.length) s else .bad
  | .len, [x], s => match dctOf s x with
    | some kvs => .ok (.int kvs.length) s
    | none => match seqOf s x with
      | some ds => .ok (.int ds.length) s
      | none => .bad
  | .abs, [.int i], s => .ok (.int (if i < 0 then -i else i)) s
  | .int, [.int i], s => .ok (.int i) s
  | .int, [.bl b], s => .ok (.int (if b then 1 else 0)) s
  | .list, [x], s => match dctOf s x with
    | some kvs => new (.lst (kvs.map fun p => dKey p.1)) s
    | none => match seqOf s x with
      | some ds => new (.lst ds) s
      | none => .bad
  | .dict, [x], s => match dctOf s x with
    | some kvs => new (.dct kvs) s
    | none => .bad
  | .sorted, [.ref n], s => match (lstAt s n).bind strsOf with
    | some xs => if xs.length < 64 then new (.lst ((sortT xs).map .str)) s else .bad
    | none => .bad
  | .min, [.int i, .int j], s => .ok (.int (if j < i then j else i)) s
  | .max, [.int i, .int j], s => .ok (.int (if j > i then j else i)) s
  | .tuple, [x], s => match seqOf s x with
    | some ds => .ok (.tup ds) s
    | none => .bad
  | _, _, _ => .bad
def mtD : Mi → D → List D → S → R D
  | .lappend, .ref n, [d], s => match s[n]? with
    | some (.lst ds) => if ds.length < sizeLine then .ok .non (s.set n (.lst (ds ++ [d]))) else .bad
    | _ => .bad
  | .sjoin, .str a, [x], s => match (seqOf s x).bind strsOf with
    | some ys => if (ys.map (·.length)).sum + ys.length * a.length ≤ 16777216 then .ok (.str (Txt.join a ys)) s else .bad
    | none => .bad
  | .lclear, .ref n, [], s => match s[n]? with
    | some (.lst _) => .ok .non (s.set n (.lst []))
    | _ => .bad
  | .dclear, .ref n, [], s => match s[n]? with
    | some (.dct _) => .ok .non (s.set n (.dct []))
    | _ => .bad
  | .dget, .ref n, [y], s => match s[n]? with
    | some (.dct kvs) => (match keyD y with
      | some k => .ok ((getK kvs k).getD .non) s
      | none => .bad)
    | _ => .bad
  | .dget, .ref n, [y, z], s => match s[n]? with
    | some (.dct kvs) => (match keyD y with
      | some k => .ok ((getK kvs k).getD z) s
      | none => .bad)
    | _ => .bad
  | .linsert, .ref n, [.int i, d], s => match s[n]? with
    | some (.lst ds) => if ds.length < sizeLine ∧ 0 ≤ i ∧ i < 2 ^ 63 then .ok .non (s.set n (.lst (ds.take i.toNat ++ [d] ++ ds.drop i.toNat))) else .bad
    | _ => .bad
  | .lpop, .ref n, [], s => match s[n]? with
    | some (.lst ds) => (match ds[ds.length - 1]? with
      | some d => .ok d (s.set n (.lst ds.dropLast))
      | none => .bad)
    | _ => .bad
  | .dpop, .ref n, [y], s => (match s[n]? with
    | some (.dct kvs) => (match keyD y with
      | some k => (match getK kvs k with
        | some d => .ok d (s.set n (.dct (dropG kvs k)))
        | none => .bad)
      | none => .bad)
    | _ => .bad)
  | .lextend, .ref n, [.ref m], s => match s[n]?, s[m]? with
    | some (.lst ds), some (.lst es) => if ds.length + es.length ≤ sizeLine then .ok .non (s.set n (.lst (ds ++ es))) else .bad
    | _, _ => .bad
  | _, _, _, _ => .bad
/-- which built-in method is meant: asked ahead of the arguments -/
def mSelL : Mf → Option Mi
  | .append => some .lappend | .clear => some .lclear | .insert => some .linsert | .pop => some .lpop | .extend => some .lextend | _ => none
def mSelD : Mf → Option Mi
  | .clear => some .dclear | .get => some .dget | .pop => some .dpop | _ => none
def mSelS : Mf → Option Mi
  | .join => some .sjoin | _ => none
def mSel (m : Mf) : D → S → Option Mi
  | .ref n, s => (match s[n]? with
    | some (.lst _) => mSelL m
    | some (.dct _) => mSelD m
    | _ => none)
  | .str _, _ => mSelS m
  | _, _ => none
def isiD : Ty → D → S → R Bool
  | t, .non, s => .ok false s
  | .int, .bl _, s => .ok true s
  | .bool, .bl _, s => .ok true s
  | _, .bl _, s => .ok false s
  | .int, .int _, s => .ok true s
  | _, .int _, s => .ok false s
  | .str, .str _, s => .ok true s
  | _, .str _, s => .ok false s
  | .tuple, .tup _, s => .ok true s
  | _, .tup _, s => .ok false s
  | t, .flst _, s => .ok t.isList s
  | t, .ref n, s => (match s[n]? with
    | some (.lst _) => .ok t.isList s
    | some (.dct _) => .ok t.isDict s
    | _ => .bad)
/-- o[i] = v -/
def setD : D → D → D → S → Option S
  | .ref n, y, v, s => (match s[n]? with
    | some (.lst ds) => (match y with
      | .int i => (match ixN ds.length i with
        | some j => some (s.set n (.lst (ds.set j v)))
        | none => none)
      | _ => none)
    | some (.dct kvs) => (match keyD y with
      | some k => if kvs.length < sizeLine then some (s.set n (.dct (setK kvs k v))) else none
      | none => none)
    | _ => none)
  | _, _, _, _ => none
/-! ### targets and sources -/
def setAll : List Nat → List D → Fr → Fr
  | i :: is, d :: ds, τ => setAll is ds (τ.set i (some d))
  | _, _, τ => τ
def asgV : Tv → D → S → Fr → Option Fr
  | .var i, d, _, τ => some (τ.set i (some d))
  | .tup is, .tup ds, _, τ => if is.length = ds.length then some (setAll is ds τ) else none
  | .tup is, .ref n, s, τ => (match lstAt s n with
    | some ds => if is.length = ds.length then some (setAll is ds τ) else none
    | none => none)
  | _, _, _, _ => none
def wipeF (τ : Fr) : List Nat → Fr
  | [] => τ
  | v :: vs => (wipeF τ vs).set v none
inductive Src where
  | lst (n : Nat) (ds : List D) | vals (ds : List D) | dk (n : Nat) (kvs : List (Key × D)) | dki (n : Nat) (kvs : List (Key × D))
def Src.items : Src → List D
  | .lst _ ds => ds
  | .vals ds => ds
  | .dk _ kvs => kvs.map fun p => dKey p.1
  | .dki _ kvs => kvs.map fun p => .tup [dKey p.1, p.2]
def Src.ok : Src → S → Prop
  | .lst n ds, s => lstAt s n = some ds
  | .vals _, _ => True
  | .dk n kvs, s => s[n]? = some (.frd kvs)
  | .dki n kvs, s => s[n]? = some (.frd kvs)
def chars (x : Str) : List D := x.cps.toList.map fun c => .str ⟨#[c]⟩
def rngD (lo : Int) (n : Nat) : List D := (List.range n).map fun k => .int (lo + (k : Nat))
def srcOf : Ik → List D → S → Option Src
  | .seq, [.ref n], s => (match lstAt s n with
    | some ds => some (.lst n ds)
    | none => (match s[n]? with
      | some (.frd kvs) => some (.dk n kvs)
      | _ => none))
  | .items, [.ref n], s => (match s[n]? with
    | some (.frd kvs) => some (.dki n kvs)
    | _ => none)
  | .seq, [.tup ds], _ => some (.vals ds)
  | .seq, [.flst ds], _ => some (.vals ds)
  | .seq, [.str x], _ => some (.vals (chars x))
  | .rng1, [.int j], _ => if -(2 ^ 62) ≤ j ∧ j < 2 ^ 62 then some (.vals (rngD 0 j.toNat)) else none
  | .rng2, [.int i, .int j], _ => if -(2 ^ 62) ≤ i ∧ i < 2 ^ 62 ∧ -(2 ^ 62) ≤ j ∧ j < 2 ^ 62 then some (.vals (rngD i (j - i).toNat)) else none
  | _, _, _ => none

/-! ### turns -/
open Classical in
noncomputable def lcS (ok : S → Prop) (g : D → S → R (Option D)) : List D → S → R (List D)
  | [], s => if ok s then .ok [] s else .bad
  | d :: ds, s => if ok s then (g d s).bind fun od s => (lcS ok g ds s).bind fun r s => .ok (match od with | some y => y :: r | none => r) s else .bad
open Classical in
noncomputable def dcS (ok : S → Prop) (g : D → S → R (Key × D)) : List D → S → List (Key × D) → R (List (Key × D))
  | [], s, acc => if ok s then .ok acc s else .bad
  | d :: ds, s, acc => if ok s then (g d s).bind fun p s => dcS ok g ds s (setK acc p.1 p.2) else .bad
open Classical in
noncomputable def forS (ok : S → Prop) (g : D → Fr → S → SR) : List D → Fr → S → SR
  | [], τ, s => if ok s then .nx τ s else .bad
  | d :: ds, τ, s => if ok s then (match g d τ s with
      | .nx τ s => forS ok g ds τ s
      | .ct τ s => forS ok g ds τ s
      | .bk τ s => .nx τ s
      | .rt d s => .rt d s
      | .exc τ c fs s => .exc τ c fs s
      | .bad => .bad) else .bad
def whS (c : Fr → S → R Bool) (b : Fr → S → SR) : Nat → Fr → S → SR
  | 0, _, _ => .bad
  | n + 1, τ, s => (c τ s).toS τ fun k s => if k = true then (match b τ s with
      | .nx τ s => whS c b n τ s
      | .ct τ s => whS c b n τ s
      | .bk τ s => .nx τ s
      | .rt d s => .rt d s
      | .exc τ c fs s => .exc τ c fs s
      | .bad => .bad) else .nx τ s
/-- turns that a while may take -/
def whTop : Nat := 1000000000

/-! ### the evaluation -/
/-- list(range(j)) -/
def lrgD : D → S → R D
  | .int j, s => if -(2 ^ 62) ≤ j ∧ j ≤ 16777216 then new (.lst (rngD 0 j.toNat)) s else .bad
  | _, _ => .bad
/-- list(reversed(x)) -/
def lrvD : D → S → R D
  | .ref n, s => (match lstAt s n with
    | some ds => new (.lst ds.reverse) s
    | none => .bad)
  | _, _ => .bad
/-- an own class; an own class of errors -/
structure Cl where
  init : Option Nat
  fields : List Str
  mths : List (Str × Nat)
  props : List (Str × Nat)
structure Ec where
  fields : List Str
  sups : List Str
structure CL where
  call : Nat → List D → S → R D
  glob : Nat → Option D
  cls : Str → Option Cl
  ecl : Str → Option Ec
  exn : Option (Option Nat × Str × List (Str × D))
/-- a new instance, its __init__ being f -/
def asNew (n : Nat) : D → S → R D
  | .non, s => .ok (.ref n) s
  | _, _ => .bad
def mkD (cl : CL) (c : Str) (f : Nat) (ds : List D) (s : S) : R D := (cl.call f (.ref s.length :: ds) (s ++ [.ins c []])).bind (asNew s.length)
def initF (cl : CL) (c : Str) : Option Nat := (cl.cls c).bind (·.init)
def mcF (cl : CL) (m : Str) : D → S → Option Nat
  | .ref n, s => (insAt s n).bind fun p => if (p.2.lookup m).isNone = true then (cl.cls p.1).bind fun k => k.mths.lookup m else none
  | _, _ => none
def R.calm {α : Type} : R α → R α
  | .ok a s => .ok a s
  | _ => .bad
@[simp] theorem R.calm_ok {α : Type} (a : α) (s : S) : (R.ok a s).calm = .ok a s := rfl
@[simp] theorem R.calm_bad {α : Type} : (R.bad : R α).calm = .bad := rfl
@[simp] theorem R.calm_exc {α : Type} (c fs) (s : S) : (R.exc c fs s : R α).calm = .bad := rfl
def fldD (cl : CL) (f : Str) : D → S → R D
  | .ref n, s => (match insAt s n with
    | some (c, fs) => (match cl.cls c with
      | some k => (match k.props.lookup f with
        | some g => (cl.call g [.ref n] s).calm
        | none => if k.fields.contains f = true then (match fs.lookup f with
          | some d => .ok d s
          | none => .bad) else .bad)
      | none => .bad)
    | none => .bad)
  | _, _ => .bad
def iscD (cl : CL) (c : Str) : D → S → R Bool
  | .ref n, s => (match s[n]? with
    | some (.ins x _) => if (cl.cls x).isSome = true ∧ (cl.cls c).isSome = true then .ok (decide (x = c)) s else .bad
    | some (.frd _) => .bad
    | some (.set _) => .bad
    | some _ => if (cl.cls c).isSome = true then .ok false s else .bad
    | none => .bad)
  | _, s => if (cl.cls c).isSome = true then .ok false s else .bad
/-- x == y of two instances with an own __eq__ -/
def oeqD (cl : CL) : D → D → S → R Bool
  | .ref m, .ref n, s => (match insAt s m, insAt s n with
    | some (c, _), some (c2, _) => if c = c2 then (match (cl.cls c).bind fun k => k.mths.lookup ("__eq__" : Str) with
      | some g => ((cl.call g [.ref m, .ref n] s).calm).bind fun v s => (match v with
        | .bl b => .ok b s
        | _ => .bad)
      | none => .bad) else .bad
    | _, _ => .bad)
  | _, _, _ => .bad
def hasR (rows : List (List Key)) (k : List Key) : Bool := rows.any fun r => decide (r = k)
theorem hasR_iff {rows : List (List Key)} {k : List Key} : hasR rows k = true ↔ k ∈ rows := by
  unfold hasR
  rw [List.any_eq_true]
  exact ⟨fun ⟨r, h, e⟩ => of_decide_eq_true e ▸ h, fun h => ⟨k, h, decide_eq_true rfl⟩⟩
/-- a row in a set of rows -/
def rinD (x y : D) (s : S) : R Bool := match rowK x, setAt? s y with
  | some k, some rows => .ok (hasR rows k) s
  | _, _ => .bad
def saddD (x y : D) (s : S) : R D := match x with
  | .ref n => (match setAt? s (.ref n), rowK y with
    | some rows, some k => if rows.length + 1 < 64 then .ok .non (s.set n (.set (if hasR rows k = true then rows else rows ++ [k]))) else .bad
    | _, _ => .bad)
  | _ => .bad
/-- the keys, item by item -/
def keysD (cl : CL) (f : Nat) : List D → S → R (List D)
  | [], s => .ok [] s
  | d :: ds, s => ((cl.call f [d] s).calm).bind fun k s => (keysD cl f ds s).bind fun ks s => .ok (k :: ks) s
def keysOk (ps : List PyData) : Prop := PySem.W.AllAlike ps ∧ PySem.W.Sortable ps ∧ ∀ p ∈ ps, p.depth ≤ 50
noncomputable def sortK (ds : List D) (ps : List PyData) : List D := ((ds.zip ps).mergeSort (PySem.W.dataLe false (·.2))).map (·.1)
open Classical in
/-- sorted(a list, key=f) -/
noncomputable def srkD (cl : CL) (f : Nat) : D → S → R D
  | .ref n, s => (match s[n]? with
    | some (.lst ds) => (keysD cl f ds s).bind fun ks s' => (match toPs 60 s' ks with
      | some ps => if keysOk ps then new (.lst (sortK ds ps)) s' else .bad
      | none => .bad)
    | _ => .bad)
  | _, _ => .bad
/-- o.f = v -/
def setA (cl : CL) : D → Str → D → S → Option S
  | .ref n, f, v, s => (match s[n]? with
    | some (.ins c fs) => (match cl.cls c with
      | some k => if k.fields.contains f = true ∧ fs.length < 1000 then some (s.set n (.ins c (setF f v fs))) else none
      | none => none)
    | _ => none)
  | _, _, _, _ => none
def efD (cl : CL) (i : Nat) (f : Str) (τ : Fr) (s : S) : R D := match cl.exn with
  | some (j, c, fs) => if j = some i ∧ i < τ.length then (match cl.ecl c with
    | some e => if e.fields.contains f = true then (match fs.lookup f with
      | some d => .ok d s
      | none => .bad) else .bad
    | none => .bad) else .bad
  | none => .bad
def eiD (cl : CL) (i : Nat) (c : Str) (τ : Fr) (s : S) : R D := match cl.exn with
  | some (j, x, _) => if (j = some i ∧ i < τ.length) ∧ ((cl.ecl c).isSome = true ∨ c = "ValueError" ∨ c = "CappedError") then (match cl.ecl x with
    | some e => .ok (.bl (e.sups.contains c)) s
    | none => .bad) else .bad
  | none => .bad
/-- the dict that is walked, and so locked -/
def lkOf : R D → S → Option (Nat × List (Key × D))
  | .ok (.ref d) _, s => (dctAt s d).map fun kvs => (d, kvs)
  | _, _ => none
def unlk (d : Nat) (s : S) (f : S → SR) : SR := match s[d]? with
  | some (.frd kvs) => f (s.set d (.dct kvs))
  | _ => .bad
def lkS (d : Nat) : SR → SR
  | .nx τ s => unlk d s fun s => .nx τ s
  | .rt v s => unlk d s fun s => .rt v s
  | .bk τ s => unlk d s fun s => .bk τ s
  | .ct τ s => unlk d s fun s => .ct τ s
  | _ => .bad
abbrev VT := (Fr → S → R D) × (Fr → S → R Bool)
def plainT (v : Fr → S → R D) : VT := (v, fun τ s => (v τ s).bind truD)
def asB (c : Fr → S → R Bool) : VT := (fun τ s => (c τ s).bind fun b s => .ok (.bl b) s, c)
def partOf : D → Option (Option Int)
  | .int i => some (some i)
  | _ => none
def Ex.isNop : Ex → Bool
  | .nop => true
  | _ => false
mutual
noncomputable def ev (cl : CL) : Ex → VT
  | .nop => plainT fun _ _ => .bad
  | .var i => plainT fun τ s => match τ[i]? with
    | some (some d) => .ok d s
    | _ => .bad
  | .cst c => plainT fun _ s => .ok c.d s
  | .glob i => plainT fun _ s => match cl.glob i with
    | some d => .ok d s
    | none => .bad
  | .bin o a b => plainT fun τ s => ((ev cl a).1 τ s).bind fun x s => ((ev cl b).1 τ s).bind fun y s => binD o x y s
  | .neg a => plainT fun τ s => ((ev cl a).1 τ s).bind negD
  | .not a => (fun τ s => ((ev cl a).1 τ s).bind fun x s => (match x with | .bl c => .ok (.bl (!c)) s | _ => .bad), fun τ s => ((ev cl a).2 τ s).bind fun c s => .ok (!c) s)
  | .and a b => (fun τ s => ((ev cl a).1 τ s).bind fun x s => (match x with | .bl true => (ev cl b).1 τ s | .bl false => .ok (.bl false) s | _ => .bad), fun τ s => ((ev cl a).2 τ s).bind fun c s => if c = true then (ev cl b).2 τ s else .ok false s)
  | .or a b => (fun τ s => ((ev cl a).1 τ s).bind fun x s => (match x with | .bl true => .ok (.bl true) s | .bl false => (ev cl b).1 τ s | _ => .bad), fun τ s => ((ev cl a).2 τ s).bind fun c s => if c = true then .ok true s else (ev cl b).2 τ s)
  | .cmp o a b => asB fun τ s => ((ev cl a).1 τ s).bind fun x s => ((ev cl b).1 τ s).bind fun y s => cmpD o x y s
  | .cmp2 o o' a b c => asB fun τ s => ((ev cl a).1 τ s).bind fun x s => ((ev cl b).1 τ s).bind fun y s => (cmpD o x y s).bind fun k s => if k = true then ((ev cl c).1 τ s).bind fun z s => cmpD o' y z s else .ok false s
  | .ife c a b => (fun τ s => ((ev cl c).2 τ s).bind fun k s => if k = true then (ev cl a).1 τ s else (ev cl b).1 τ s, fun _ _ => .bad)
  | .tup es => plainT fun τ s => (evs cl es τ s).bind fun ds s => .ok (.tup ds) s
  | .lst es => plainT fun τ s => (evs cl es τ s).bind fun ds s => new (.lst ds) s
  | .ix a i => plainT fun τ s => ((ev cl a).1 τ s).bind fun x s => ((ev cl i).1 τ s).bind fun y s => ixD x y s
  | .sl a lo hi => plainT fun τ s => ((ev cl a).1 τ s).bind fun x s => (evPart (ev cl lo).1 lo.isNop τ s).bind fun l s => (evPart (ev cl hi).1 hi.isNop τ s).bind fun h s => slD x l h s
  | .call f es => plainT fun τ s => (evs cl es τ s).bind fun ds s => cl.call f ds s
  | .blt b es => plainT fun τ s => (evs cl es τ s).bind fun ds s => bltD b ds s
  | .meth m o es => plainT fun τ s => ((ev cl o).1 τ s).bind fun x s => match mSel m x s with
    | some i => (evs cl es τ s).bind fun ds s => mtD i x ds s
    | none => .bad
  | .lrg a => plainT fun τ s => ((ev cl a).1 τ s).bind lrgD
  | .lrv a => plainT fun τ s => ((ev cl a).1 τ s).bind lrvD
  | .oeq a b => asB fun τ s => ((ev cl a).1 τ s).bind fun x s => ((ev cl b).1 τ s).bind fun y s => oeqD cl x y s
  | .set0 => plainT fun _ s => new (.set []) s
  | .rin neg a b => asB fun τ s => ((ev cl a).1 τ s).bind fun x s => ((ev cl b).1 τ s).bind fun y s => (rinD x y s).bind fun c s => .ok (if neg then !c else c) s
  | .sadd o a => plainT fun τ s => ((ev cl o).1 τ s).bind fun x s => if (setAt? s x).isSome = true then ((ev cl a).1 τ s).bind fun y s => saddD x y s else .bad
  | .srk f a => plainT fun τ s => ((ev cl a).1 τ s).bind fun x s => srkD cl f x s
  | .dct => plainT fun _ s => new (.dct []) s
  | .fld a f => plainT fun τ s => ((ev cl a).1 τ s).bind fun x s => fldD cl f x s
  | .mc m o es => plainT fun τ s => ((ev cl o).1 τ s).bind fun x s => match mcF cl m x s with
    | some g => (evs cl es τ s).bind fun ds s => cl.call g (x :: ds) s
    | none => .bad
  | .mk c es => plainT fun τ s => match initF cl c with
    | some f => (evs cl es τ s).bind fun ds s => mkD cl c f ds s
    | none => .bad
  | .isc a c => plainT fun τ s => if (cl.cls c).isSome = true then ((ev cl a).1 τ s).bind fun x s => (iscD cl c x s).bind fun b s => .ok (.bl b) s else .bad
  | .efld i f => plainT fun τ s => efD cl i f τ s
  | .eis i c => plainT fun τ s => eiD cl i c τ s
  | .dc kx vx t k its own => plainT fun τ s => (evs cl its τ s).bind fun ds s => match srcOf k ds s with
    | none => .bad
    | some src => if src.items.length < sizeLine then (dcS src.ok (fun d s => match asgV t d s (wipeF τ (own.map (·.2))) with
        | none => .bad
        | some τ' => (((ev cl kx).1 τ' s).calm).bind fun y s => (((ev cl vx).1 τ' s).calm).bind fun z s => match keyD y with
          | some k => .ok (k, z) s
          | none => .bad) src.items s []).bind fun r s => new (.dct r) s else .bad
  | .isi a t => plainT fun τ s => ((ev cl a).1 τ s).bind fun x s => (isiD t x s).bind fun b s => .ok (.bl b) s
  | .lc elt t k its cond own => plainT fun τ s => (evs cl its τ s).bind fun ds s => match srcOf k ds s with
    | none => .bad
    | some src => if src.items.length < sizeLine then (lcS src.ok (fun d s => match asgV t d s (wipeF τ (own.map (·.2))) with
        | none => .bad
        | some τ' => ((if cond.isNop = true then .ok true s else ((ev cl cond).2 τ' s).calm : R Bool)).bind fun c s => if c = true then (((ev cl elt).1 τ' s).calm).bind fun y s => .ok (some y) s else .ok none s) src.items s).bind fun r s => new (.lst r) s else .bad
noncomputable def evs (cl : CL) : Exs → Fr → S → R (List D)
  | .nil, _, s => .ok [] s
  | .cons e es, τ, s => ((ev cl e).1 τ s).bind fun d s => (evs cl es τ s).bind fun ds s => .ok (d :: ds) s
/-- a part of a slice -/
noncomputable def evPart (v : Fr → S → R D) (nop : Bool) (τ : Fr) (s : S) : R (Option Int) :=
  if nop = true then .ok none s else (v τ s).bind fun d s => match d with
    | .int i => .ok (some i) s
    | _ => .bad
end
noncomputable def evE (cl : CL) (e : Ex) : Fr → S → R D := (ev cl e).1
noncomputable def evT (cl : CL) (e : Ex) : Fr → S → R Bool := (ev cl e).2

noncomputable def store (cl : CL) : Tg → D → Fr → S → SR
  | .loc t, d, τ, s => match asgV t d s τ with
    | some τ' => .nx τ' s
    | none => .bad
  | .sub o i, d, τ, s => (evE cl o τ s).toS τ fun x s => (evE cl i τ s).toS τ fun y s => match setD x y d s with
    | some s' => .nx τ s'
    | none => .bad
  | .fld o f, d, τ, s => (evE cl o τ s).toS τ fun x s => match setA cl x f d s with
    | some s' => .nx τ s'
    | none => .bad
def hsOk (cl : CL) : Hs → Bool
  | .nil => true
  | .cons x _ _ r => (cl.ecl x).isSome && hsOk cl r
def clr (as : Option Nat) (τ : Fr) : Fr := match as with
  | some i => τ.set i none
  | none => τ
/-- the end of an except suite -/
def SR.off (as : Option Nat) : SR → SR
  | .nx τ s => .nx (clr as τ) s
  | .rt d s => .rt d s
  | .bk τ s => .bk (clr as τ) s
  | .ct τ s => .ct (clr as τ) s
  | _ => .bad
mutual
noncomputable def ex : CL → Cm → Fr → S → SR
  | cl, .asg t e, τ, s => (evE cl e τ s).toS τ fun d s => store cl t d τ s
  | cl, .ite c a b, τ, s => (evT cl c τ s).toS τ fun k s => if k = true then exs cl a τ s else exs cl b τ s
  | cl, .for_ t k its body, τ, s => (evs cl its τ s).toS τ fun ds s => match srcOf k ds s with
    | none => .bad
    | some src => forS src.ok (fun d τ s => match asgV t d s τ with
        | none => .bad
        | some τ' => exs cl body τ' s) src.items τ s
  | cl, .whl c body, τ, s => whS (evT cl c) (exs cl body) whTop τ s
  | cl, .ret e, τ, s => (evE cl e τ s).toS τ fun d s => .rt d s
  | cl, .retn, _, s => .rt .non s
  | cl, .expr e, τ, s => (evE cl e τ s).toS τ fun _ s => .nx τ s
  | cl, .pass, τ, s => .nx τ s
  | cl, .brk, τ, s => .bk τ s
  | cl, .cont, τ, s => .ct τ s
  | cl, .rse c es, τ, s => match cl.ecl c with
    | some e => (evs cl es τ s).toS τ fun ds s => if ds.length = e.fields.length then .exc τ c (e.fields.zip ds).reverse s else .bad
    | none => .bad
  | cl, .try_ body hs, τ, s => if hsOk cl hs = true then (match exs cl body τ s with
    | .exc τ' c fs s' => exh cl hs c fs τ' s'
    | r => r) else .bad
  | cl, .lk e c, τ, s => match lkOf (evE cl e τ s) s with
    | some p => lkS p.1 (ex cl c τ (s.set p.1 (.frd p.2)))
    | none => .bad
noncomputable def exs : CL → Cms → Fr → S → SR
  | cl, .nil, τ, s => .nx τ s
  | cl, .cons c cs, τ, s => (ex cl c τ s).bind fun τ s => exs cl cs τ s
noncomputable def exh : CL → Hs → Str → List (Str × D) → Fr → S → SR
  | cl, .nil, c, fs, τ, s => .exc τ c fs s
  | cl, .cons x as suite r, c, fs, τ, s => match cl.ecl c with
    | none => .bad
    | some e => if e.sups.contains x = true then (exs { cl with exn := some (as, c, fs) } suite (clr as τ) s).off as
      else exh cl r c fs τ s
end

/-! ### functions -/
structure Fn where
  np : Nat
  nl : Nat
  body : Cms
structure Ga where
  fns : List (Nat × Fn)
  consts : List (Nat × D)
  cls : List (Str × Cl)
  ecl : List (Str × Ec)
noncomputable def runFn (cl : CL) (fn : Fn) (ds : List D) (s : S) : R D :=
  if ds.length = fn.np then (match exs cl fn.body (ds.map some ++ List.replicate (fn.nl - fn.np) none) s with
    | .nx _ s => .ok .non s
    | .rt d s => .ok d s
    | .exc _ c fs s => .exc c fs s
    | _ => .bad) else .bad
noncomputable def callF (Γ : Ga) : Nat → Nat → List D → S → R D
  | 0, _, _, _ => .bad
  | k + 1, f, ds, s => match Γ.fns.lookup f with
    | some fn => runFn ⟨callF Γ k, fun i => Γ.consts.lookup i, fun c => Γ.cls.lookup c, fun c => Γ.ecl.lookup c, none⟩ fn ds s
    | none => .bad
noncomputable def clF (Γ : Ga) (k : Nat) : CL := ⟨callF Γ k, fun i => Γ.consts.lookup i, fun c => Γ.cls.lookup c, fun c => Γ.ecl.lookup c, none⟩
end G

set_option Elab.async false
set_option linter.all false
set_option maxRecDepth 100000
set_option autoImplicit false
set_option maxHeartbeats 1000000
/-! G3: the operations on plain values are those of the machine. -/
namespace G
open PySem PySem.Spec PyProof.Rows L2

def W0 : WX := fun _ _ _ _ => True
/-- an operation that raises nothing -/
abbrev PostP (U : Su) (ι : List Addr) (H : Hp) (r : R D) (Q : V → Hp → Prop) : Prop := Post U (RD U) W0 [] ι H r Q
section
variable {U : Su} {ι ι' : List Addr} {H H' : Hp} {s : S} {Q : V → Hp → Prop} {d d' : D} {v : V} {ds : List D} {vs : List V} {p a : Addr} {n : Nat}
theorem PostP.val (h : PostP U ι H (.ok d s) Q) (hs : RelS U ι s H) (r : Rep U.K ι H d v) : Q v H := h ι H v (Go.refl _ _) hs r
theorem PostP.mk {o : O} {u : HO} (h : PostP U ι H (new o s) Q) (hs : RelS U ι s H) (hp : H p = none) (ho : ObR U (ι ++ [p]) (upd H p u) p o) : Q (.ref p) (upd H p u) := by
  refine h (ι ++ [p]) _ (.ref p) (Go.new (same_new hp) hp) (hs.new hp (same_new hp) ho) ?_
  show Rep _ _ _ (.ref s.length) _
  simp only [Rep]
  refine ⟨p, rfl, ?_⟩
  rw [← hs.len]
  simp
theorem PostP.tup (h : PostP U ι H (.ok (.tup ds) s) Q) (hs : RelS U ι s H) (hp : H p = none) (r : Reps U.K ι H ds vs) : Q (.ref p) (upd H p (.tup vs)) := by
  refine h ι _ (.ref p) (Go.same (same_new hp)) (hs.tup hp) ?_
  show Rep _ _ _ (.tup ds) _
  simp only [Rep]
  exact ⟨p, vs, rfl, .inl upd_same, r.mono (Ext.refl _) (Same.kept (same_new hp))⟩
theorem ObR.lst (hp : H p = none) (r : Reps U.K ι H ds vs) : ObR U (ι ++ [p]) (upd H p (.lst vs)) p (.lst ds) :=
  ⟨vs, upd_same, r.mono (Ext.one _ _) (Same.kept (same_new hp))⟩
/-- a list that stands in the store -/
theorem lst_sq (hs : RelS U ι s H) (e : lstAt s n = some ds) (i : ι[n]? = some a) : ∃ vs, SqL U.K H a vs ∧ Reps U.K ι H ds vs := by
  unfold lstAt at e
  split at e
  · rename_i xs q
    cases e
    obtain ⟨vs, h1, h2⟩ := hs.at q i
    exact ⟨vs, .inl (.inl h1), h2⟩
  · cases e
theorem seq_sq (hs : RelS U ι s H) (e : seqOf s d = some ds) (r : Rep U.K ι H d v) : ∃ a vs, v = .ref a ∧ (SqL U.K H a vs ∨ TupAt U.K H a vs) ∧ Reps U.K ι H ds vs := by
  cases d with
  | ref n =>
    simp only [Rep] at r
    obtain ⟨a, rfl, i⟩ := r
    obtain ⟨vs, h1, h2⟩ := lst_sq hs e i
    exact ⟨a, vs, rfl, .inl h1, h2⟩
  | tup es =>
    simp only [Rep] at r
    obtain ⟨a, vs, rfl, h1, h2⟩ := r
    cases (show some es = some ds from e)
    exact ⟨a, vs, rfl, .inr h1, h2⟩
  | flst es =>
    simp only [Rep] at r
    obtain ⟨a, vs, rfl, h1, h2⟩ := r
    cases (show some es = some ds from e)
    exact ⟨a, vs, rfl, .inl h1.sq, h2⟩
  | _ => exact nomatch (show none = some ds from e)
/-! ### dicts -/
theorem dct_at (hs : RelS U ι s H) {kvs : List (Key × D)} (e : s[n]? = some (.dct kvs)) (i : ι[n]? = some a) : ∃ vs, H a = some (.dK vs) ∧ RepF U.K ι H kvs vs := hs.at e i
theorem dctAt_of {kvs : List (Key × D)} (e : dctAt s n = some kvs) : s[n]? = some (.dct kvs) := by
  unfold dctAt at e
  split at e
  · rename_i xs q; cases e; exact q
  · cases e
theorem lstAt_get (e : lstAt s n = some ds) : s[n]? = some (.lst ds) := by
  unfold lstAt at e
  split at e
  · rename_i xs q; cases e; exact q
  · cases e
section
variable {κ : Type} {K : PySem.W.Frag}
theorem RepF.length : ∀ {ks : List (κ × D)} {vs : List (κ × V)}, RepF K ι H ks vs → vs.length = ks.length
  | [], _, h => by cases (show _ = [] from h); rfl
  | p :: ks, _, h => by
    obtain ⟨v, ws, rfl, _, h2⟩ := h
    simp [RepF.length h2]
theorem RepF.any (f : κ → Bool) : ∀ {ks : List (κ × D)} {vs : List (κ × V)}, RepF K ι H ks vs → (vs.any fun p => f p.1) = (ks.any fun p => f p.1)
  | [], _, h => by cases (show _ = [] from h); rfl
  | p :: ks, _, h => by
    obtain ⟨v, ws, rfl, _, h2⟩ := h
    simp [RepF.any f h2]
theorem RepF.app : ∀ {ks ls : List (κ × D)} {vs ws : List (κ × V)}, RepF K ι H ks vs → RepF K ι H ls ws → RepF K ι H (ks ++ ls) (vs ++ ws)
  | [], _, _, _, h, g => by cases (show _ = [] from h); exact g
  | p :: ks, _, _, _, h, g => by
    obtain ⟨v, us, rfl, h1, h2⟩ := h
    exact ⟨v, _, rfl, h1, RepF.app h2 g⟩
variable [DecidableEq κ]
theorem RepF.get {k : κ} : ∀ {ks : List (κ × D)} {vs : List (κ × V)}, RepF K ι H ks vs → (getK ks k = none ∧ valV vs k = none) ∨ ∃ d v, getK ks k = some d ∧ valV vs k = some v ∧ Rep K ι H d v
  | [], _, h => by cases (show _ = [] from h); exact .inl ⟨rfl, rfl⟩
  | p :: ks, _, h => by
    obtain ⟨v, ws, rfl, h1, h2⟩ := h
    by_cases e : p.1 = k
    · exact .inr ⟨p.2, v, by simp [getK, List.find?_cons, e], by simp [valV, List.find?_cons, e], h1⟩
    · have e1 : getK (p :: ks) k = getK ks k := by simp [getK, List.find?_cons, e]
      have e2 : valV ((p.1, v) :: ws) k = valV ws k := by simp [valV, List.find?_cons, e]
      rw [e1, e2]
      exact RepF.get h2
theorem RepF.map {k : κ} {d : D} {v : V} (r : Rep K ι H d v) : ∀ {ks : List (κ × D)} {vs : List (κ × V)}, RepF K ι H ks vs →
    RepF K ι H (ks.map fun p => if p.1 = k then (p.1, d) else p) (vs.map fun p => if p.1 = k then (p.1, v) else p)
  | [], _, h => by cases (show _ = [] from h); exact rfl
  | p :: ks, _, h => by
    obtain ⟨u, ws, rfl, h1, h2⟩ := h
    by_cases e : p.1 = k
    · exact ⟨v, _, by simp only [List.map_cons, e, if_true], by simp only [e, if_true]; exact r, RepF.map r h2⟩
    · exact ⟨u, _, by simp only [List.map_cons, e, if_false], by simp only [e, if_false]; exact h1, RepF.map r h2⟩
theorem RepF.put {k : κ} {d : D} {v : V} (r : Rep K ι H d v) {ks : List (κ × D)} {vs : List (κ × V)} (h : RepF K ι H ks vs) : RepF K ι H (setK ks k d) (putK vs k v) := by
  unfold setK putK
  rw [RepF.any (fun j => decide (j = k)) h]
  split
  · exact RepF.map r h
  · exact RepF.app h ⟨v, [], rfl, r, rfl⟩
end
theorem RepF.drop {κ : Type} [DecidableEq κ] {K : PySem.W.Frag} {ι : List Addr} {H : Hp} {k : κ} : ∀ {ks : List (κ × D)} {vs : List (κ × V)}, RepF K ι H ks vs → RepF K ι H (dropG ks k) (dropK vs k)
  | [], _, h => by cases (show _ = [] from h); exact rfl
  | p :: ks, _, h => by
    obtain ⟨u, ws, rfl, h1, h2⟩ := h
    by_cases e : p.1 = k
    · simp only [dropG, dropK, List.filter_cons, e, ne_eq, not_true, decide_false, Bool.false_eq_true, if_false]
      exact RepF.drop h2
    · simp only [dropG, dropK, List.filter_cons, e, ne_eq, not_false_iff, decide_true, if_true]
      exact ⟨u, _, rfl, h1, RepF.drop h2⟩
theorem rep_key {K : PySem.W.Frag} {k : Key} (h : keyD d = some k) (r : Rep K ι H d v) : v = kV k := by
  cases d <;> simp only [keyD] at h <;> first
    | (cases h; done)
    | (cases h; simp only [Rep] at r; exact r)
theorem rep_dKey {K : PySem.W.Frag} (k : Key) : Rep K ι H (dKey k) (kV k) := by cases k <;> simp [dKey, kV, Rep]
theorem reps_keys {K : PySem.W.Frag} : ∀ {ks : List (Key × D)} {vs : List (Key × V)}, RepF K ι H ks vs → Reps K ι H (ks.map fun p => dKey p.1) (vs.map fun p => kV p.1)
  | [], _, h => by cases (show _ = [] from h); exact Reps.nil
  | p :: ks, _, h => by
    obtain ⟨u, ws, rfl, h1, h2⟩ := h
    exact Reps.cons (rep_dKey _) (reps_keys h2)
mutual
theorem toP_dp (hs : RelS U ι s H) : ∀ (k : Nat) (d : D) (v : V) (p : PyData), Rep U.K ι H d v → toP k s d = some p → Dp U.K H v p
  | _, .non, v, p, r, e => by
    simp only [Rep] at r; simp only [toP, Option.some.injEq] at e; subst r; subst e; exact .non
  | _, .bl b, v, p, r, e => by
    simp only [Rep] at r; simp only [toP, Option.some.injEq] at e; subst r; subst e; exact .bl _
  | _, .int b, v, p, r, e => by
    simp only [Rep] at r; simp only [toP, Option.some.injEq] at e; subst r; subst e; exact .int _
  | _, .str b, v, p, r, e => by
    simp only [Rep] at r; simp only [toP, Option.some.injEq] at e; subst r; subst e; exact .str _
  | 0, .tup ds, v, p, r, e => by simp [toP] at e
  | 0, .ref n, v, p, r, e => by simp [toP] at e
  | 0, .flst n, v, p, r, e => by simp [toP] at e
  | k + 1, .tup ds, v, p, r, e => by
    simp only [Rep] at r
    obtain ⟨a, vs, rfl, h1, h2⟩ := r
    simp only [toP, Option.map_eq_some_iff] at e
    obtain ⟨ps, e, rfl⟩ := e
    exact .tup h1.sq (toPs_dp hs k ds vs ps h2 e)
  | k + 1, .flst ds, v, p, r, e => by
    simp only [Rep] at r
    obtain ⟨a, vs, rfl, h1, h2⟩ := r
    simp only [toP, Option.map_eq_some_iff] at e
    obtain ⟨ps, e, rfl⟩ := e
    exact .lst h1.sq (toPs_dp hs k ds vs ps h2 e)
  | k + 1, .ref n, v, p, r, e => by
    simp only [Rep] at r
    obtain ⟨a, rfl, i⟩ := r
    have key : ∃ ds ps, lstAt s n = some ds ∧ toPs k s ds = some ps ∧ p = .list ps := by
      simp only [toP] at e
      unfold lstAt
      split at e
      · rename_i ds q
        simp only [Option.map_eq_some_iff] at e
        obtain ⟨ps, e, rfl⟩ := e
        exact ⟨ds, ps, rfl, e, rfl⟩
      · cases e
    obtain ⟨ds, ps, e1, e2, rfl⟩ := key
    obtain ⟨vs, h1, h2⟩ := lst_sq hs e1 i
    exact .lst h1 (toPs_dp hs k ds vs ps h2 e2)
theorem toPs_dp (hs : RelS U ι s H) : ∀ (k : Nat) (ds : List D) (vs : List V) (ps : List PyData), Reps U.K ι H ds vs → toPs k s ds = some ps → DpAll U.K H vs ps
  | _, [], vs, ps, r, e => by
    simp only [Reps] at r; simp only [toPs, Option.some.injEq] at e; subst r; subst e; exact .nil
  | k, d :: ds, vs, ps, r, e => by
    simp only [Reps] at r
    obtain ⟨v, ws, rfl, h1, h2⟩ := r
    simp only [toPs] at e
    split at e
    · rename_i q qs e1 e2
      cases e
      exact .cons (toP_dp hs k d v q h1 e1) (toPs_dp hs k ds ws qs h2 e2)
    · cases e
end
end

/-- two values in, by the plain operation m -/
def rOp (U : Su) (m : D → D → S → R D) : R2 := fun x y H Q => ∃ ι s d e, RelS U ι s H ∧ Rep U.K ι H d x ∧ Rep U.K ι H e y ∧ PostP U ι H (m d e s) Q
def boolR (m : D → D → S → R Bool) : D → D → S → R D := fun x y s => (m x y s).bind fun b s => .ok (.bl b) s
section
variable {X : Cx} {U : Su} {ι : List Addr} {H : Hp} {s : S} {Q : V → Hp → Prop}
theorem OpR.imp {f : Value → Value → Sem Value} {r r' : R2} (h : OpR X f r) (i : ∀ x y H Q, r' x y H Q → r x y H Q) : OpR X f r' :=
  fun pins s σ H x y v u Q I rx ry q => h pins s σ H x y v u Q I rx ry (i _ _ _ _ q)
theorem CMulW.dec {i j : Int} (h : i.natAbs.log2 + j.natAbs.log2 < 1000000) : CMulW i j := h

theorem op_binD (hK : U.K = X.K) : ∀ o : Bop, OpR X (binaryOp (match o with | .add => .Add | .sub => .Sub | .mul => .Mult | .fdiv => .FloorDiv | .mod => .Mod | .pow => .Pow)) (rOp U (binD o))
  | .add => by
    have big := (op_add (X := X)).or ((op_add_str (X := X)).or ((op_cat (X := X)).or (op_catA (X := X))))
    refine OpR.imp big fun x y H Q ⟨ι, s, d, e, hs, r1, r2, hp⟩ => ?_
    have hp : PostP U ι H (addD d e s) Q := hp
    match d, e, r1, r2, hp with
    | .int i, .int j, r1, r2, hp =>
      simp only [Rep] at r1 r2
      exact .inl ⟨i, j, r1, r2, hp.val hs (by simp [Rep])⟩
    | .str i, .str j, r1, r2, hp =>
      simp only [Rep] at r1 r2
      simp only [addD] at hp
      split at hp
      · exact .inr (.inl ⟨i, j, r1, r2, by assumption, hp.val hs (by simp [Rep])⟩)
      · exact hp.elim
    | .ref m, .ref n, r1, r2, hp =>
      simp only [Rep] at r1 r2
      obtain ⟨a, rfl, i1⟩ := r1
      obtain ⟨b, rfl, i2⟩ := r2
      simp only [addD] at hp
      split at hp
      · rename_i xs ys q1 q2
        split at hp
        · obtain ⟨vs, h1, h2⟩ := hs.at q1 i1
          obtain ⟨ws, h3, h4⟩ := hs.at q2 i2
          exact .inr (.inr (.inl ⟨a, b, vs, ws, rfl, rfl, h1, h3, by rw [h2.length, h4.length]; assumption, fun p np => hp.mk hs np (ObR.lst np (h2.append h4))⟩))
        · exact hp.elim
      · exact hp.elim
    | .tup xs, .tup ys, r1, r2, hp =>
      simp only [Rep] at r1 r2
      obtain ⟨a, vs, rfl, h1, h2⟩ := r1
      obtain ⟨b, ws, rfl, h3, h4⟩ := r2
      simp only [addD] at hp
      split at hp
      · refine .inr (.inr (.inr ⟨a, b, vs, ws, rfl, rfl, hK ▸ h1.sq, hK ▸ h3.sq, by rw [h2.length, h4.length]; assumption, ?_⟩))
        have g1 := h2.length
        have g2 := h4.length
        refine ⟨fun z => ?_, fun z1 z2 => ?_, fun _ _ p np => hp.tup hs np (h2.append h4)⟩
        · have : xs = [] := List.eq_nil_of_length_eq_zero (by rw [← g1, z]; rfl)
          subst this
          exact hp.val hs (by simp only [Rep, List.nil_append]; exact ⟨b, ws, rfl, h3, h4⟩)
        · have : ys = [] := List.eq_nil_of_length_eq_zero (by rw [← g2, z2]; rfl)
          subst this
          exact hp.val hs (by simp only [Rep, List.append_nil]; exact ⟨a, vs, rfl, h1, h2⟩)
      · exact hp.elim
    | .non, _, _, _, hp => exact hp.elim
    | .bl _, _, _, _, hp => exact hp.elim
    | .flst _, _, _, _, hp => exact hp.elim
    | .int _, .flst _, _, _, hp => exact hp.elim
    | .str _, .flst _, _, _, hp => exact hp.elim
    | .tup _, .flst _, _, _, hp => exact hp.elim
    | .ref _, .flst _, _, _, hp => exact hp.elim
    | .int _, .non, _, _, hp => exact hp.elim
    | .int _, .bl _, _, _, hp => exact hp.elim
    | .int _, .str _, _, _, hp => exact hp.elim
    | .int _, .tup _, _, _, hp => exact hp.elim
    | .int _, .ref _, _, _, hp => exact hp.elim
    | .str _, .non, _, _, hp => exact hp.elim
    | .str _, .bl _, _, _, hp => exact hp.elim
    | .str _, .int _, _, _, hp => exact hp.elim
    | .str _, .tup _, _, _, hp => exact hp.elim
    | .str _, .ref _, _, _, hp => exact hp.elim
    | .tup _, .non, _, _, hp => exact hp.elim
    | .tup _, .bl _, _, _, hp => exact hp.elim
    | .tup _, .int _, _, _, hp => exact hp.elim
    | .tup _, .str _, _, _, hp => exact hp.elim
    | .tup _, .ref _, _, _, hp => exact hp.elim
    | .ref _, .non, _, _, hp => exact hp.elim
    | .ref _, .bl _, _, _, hp => exact hp.elim
    | .ref _, .int _, _, _, hp => exact hp.elim
    | .ref _, .str _, _, _, hp => exact hp.elim
    | .ref _, .tup _, _, _, hp => exact hp.elim
  | .sub => by
    refine OpR.imp (op_sub (X := X)) fun x y H Q ⟨ι, s, d, e, hs, r1, r2, hp⟩ => ?_
    cases d <;> cases e <;> first
      | exact (show False from hp).elim
      | (simp only [Rep] at r1 r2
         exact ⟨_, _, r1, r2, PostP.val hp hs (by simp [Rep])⟩)
  | .mul => by
    refine OpR.imp (op_mul (X := X)) fun x y H Q ⟨ι, s, d, e, hs, r1, r2, hp⟩ => ?_
    cases d <;> cases e <;> first
      | exact (show False from hp).elim
      | (simp only [Rep] at r1 r2
         simp only [binD] at hp
         split at hp
         · exact ⟨_, _, r1, r2, (by assumption), PostP.val hp hs (by simp [Rep])⟩
         · exact hp.elim)
  | .fdiv => by
    refine OpR.imp (op_fdivW (X := X)) fun x y H Q ⟨ι, s, d, e, hs, r1, r2, hp⟩ => ?_
    cases d <;> cases e <;> first
      | exact (show False from hp).elim
      | (simp only [Rep] at r1 r2
         simp only [binD] at hp
         split at hp
         · exact ⟨_, _, r1, r2, (by assumption), PostP.val hp hs (by simp [Rep])⟩
         · exact hp.elim)
  | .mod => by
    refine OpR.imp (op_mod (X := X)) fun x y H Q ⟨ι, s, d, e, hs, r1, r2, hp⟩ => ?_
    cases d <;> cases e <;> first
      | exact (show False from hp).elim
      | (simp only [Rep] at r1 r2
         simp only [binD] at hp
         split at hp
         · exact ⟨_, _, r1, r2, (by assumption), PostP.val hp hs (by simp [Rep])⟩
         · exact hp.elim)
  | .pow => by
    refine OpR.imp (op_pow (X := X)) fun x y H Q ⟨ι, s, d, e, hs, r1, r2, hp⟩ => ?_
    cases d <;> cases e <;> first
      | exact (show False from hp).elim
      | (simp only [Rep] at r1 r2
         simp only [binD] at hp
         split at hp
         · exact ⟨_, _, r1, r2, (by assumption), PostP.val hp hs (by simp [Rep])⟩
         · exact hp.elim)

theorem flat_V {K : PySem.W.Frag} {d : D} {v : V} (r : Rep K ι H d v) (h : flatD d = true) : flatV v = true := by
  cases d <;> first
    | exact (Bool.false_ne_true h).elim
    | (simp only [Rep] at r; subst r; rfl)
theorem flat_eq {K : PySem.W.Frag} {d e : D} {v w : V} (r : Rep K ι H d v) (q : Rep K ι H e w) (h : flatD d = true) (h' : flatD e = true) : eqV v w = eqF d e := by
  cases d <;> cases e <;> first
    | exact (Bool.false_ne_true h).elim
    | exact (Bool.false_ne_true h').elim
    | (simp only [Rep] at r q; subst r; subst q; rfl)
theorem flat_all {K : PySem.W.Frag} {e : D} {w : V} (q : Rep K ι H e w) (h' : flatD e = true) : ∀ {ds : List D} {vs : List V}, Reps K ι H ds vs → ds.all flatD = true → vs.all flatV = true ∧ inV w vs = ds.any fun z => eqF z e
  | [], vs, r, _ => by simp only [Reps] at r; subst r; exact ⟨rfl, rfl⟩
  | d :: ds, vs, r, h => by
    simp only [Reps] at r
    obtain ⟨v, ws, rfl, h1, h2⟩ := r
    simp only [List.all_cons, Bool.and_eq_true] at h
    obtain ⟨g1, g2⟩ := flat_all q h' h2 h.2
    refine ⟨by simp only [List.all_cons, Bool.and_eq_true]; exact ⟨flat_V h1 h.1, g1⟩, ?_⟩
    unfold inV at g2 ⊢
    simp only [List.any_cons, g2, flat_eq h1 q h.1 h']

theorem Rep.str_of {K : PySem.W.Frag} {x : Str} {v : V} (r : Rep K ι H (.str x) v) : v = .str x := by simpa only [Rep] using r
theorem Rep.int_of {K : PySem.W.Frag} {i : Int} {v : V} (r : Rep K ι H (.int i) v) : v = .int i := by simpa only [Rep] using r
theorem Rep.bl_of {K : PySem.W.Frag} {b : Bool} {v : V} (r : Rep K ι H (.bl b) v) : v = .bl b := by simpa only [Rep] using r
theorem Rep.non_of {K : PySem.W.Frag} {v : V} (r : Rep K ι H .non v) : v = .non := by simpa only [Rep] using r
theorem rep_bl {K : PySem.W.Frag} (b : Bool) : Rep K ι H (.bl b) (.bl b) := by simp only [Rep]
theorem rep_int {K : PySem.W.Frag} (b : Int) : Rep K ι H (.int b) (.int b) := by simp only [Rep]
theorem rep_str {K : PySem.W.Frag} (b : Str) : Rep K ι H (.str b) (.str b) := by simp only [Rep]
theorem rep_non {K : PySem.W.Frag} : Rep K ι H .non .non := by simp only [Rep]

/-- a Bool as the value True or False -/
abbrev bv (r : R Bool) : R D := r.bind fun b s => .ok (.bl b) s
theorem op_inK (hu : X.A.units + 1 < cLine) : OpR X (compareOp .In) (fun x y H Q => ∃ a kvs k, y = .ref a ∧ x = kV k ∧ H a = some (.dK kvs) ∧ Q (.bl (valV kvs k).isSome) H) := by
  intro pins s σ H x y v u Q I rx ry h
  obtain ⟨a, kvs, k, rfl, rfl, e, q⟩ := h
  cases ry
  exact d_in hu I (DGet.k e) rx fun s' I' => ⟨.bl _, H, I', rfl, q⟩
theorem op_ninK (hu : X.A.units + 1 < cLine) : OpR X (compareOp .NotIn) (fun x y H Q => ∃ a kvs k, y = .ref a ∧ x = kV k ∧ H a = some (.dK kvs) ∧ Q (.bl (!(valV kvs k).isSome)) H) := by
  intro pins s σ H x y v u Q I rx ry h
  obtain ⟨a, kvs, k, rfl, rfl, e, q⟩ := h
  cases ry
  exact d_notIn hu I (DGet.k e) rx fun s' I' => ⟨.bl _, H, I', rfl, q⟩
theorem some_eq {κ : Type} [DecidableEq κ] {K : PySem.W.Frag} {k : κ} {ks : List (κ × D)} {vs : List (κ × V)} (h : RepF K ι H ks vs) : (valV vs k).isSome = (getK ks k).isSome := by
  rcases h.get (k := k) with ⟨a, b⟩ | ⟨d, v, a, b, _⟩ <;> rw [a, b] <;> rfl
theorem op_in (hK : U.K = X.K) (hu : X.A.units + 65 < cLine) : OpR X (compareOp .In) (rOp U (boolR (cmpD .inn))) := by
  have big := (op_in_sign (X := X)).or ((op_in_str (X := X)).or ((op_inD hu).or ((op_in_seq (X := X)).or (op_inK (by omega)))))
  refine OpR.imp big fun x y H Q ⟨ι, s, d, e, hs, r1, r2, hp⟩ => ?_
  replace hp : PostP U ι H (bv (inD d e s)) Q := hp
  unfold inD at hp
  split at hp
  · rename_i i j
    cases r1.str_of; cases r2.str_of
    simp only [bv, R.bind_ok, inStr] at hp
    split at hp
    · rename_i c q
      have e : i = ⟨#[c]⟩ := by cases i with | mk a => simp only [Str.mk.injEq]; exact Array.toList_inj.mp q
      subst e
      exact .inl ⟨c, j, rfl, rfl, hp.val hs (rep_bl _)⟩
    · exact .inr (.inl ⟨i, j, rfl, rfl, hp.val hs (rep_bl _)⟩)
  · rename_i n _
    split at hp
    · rename_i kvs e
      split at hp
      · rename_i k ek
        simp only [Rep] at r2
        obtain ⟨a, rfl, i⟩ := r2
        obtain ⟨vs, h1, h2⟩ := dct_at hs e i
        refine .inr (.inr (.inr (.inr ⟨a, vs, k, rfl, rep_key ek r1, h1, ?_⟩)))
        rw [some_eq h2]
        exact hp.val hs (rep_bl _)
      · exact hp.elim
    split at hp
    · rename_i d' ds q1 q2
      split at hp
      · rename_i q3
        exact .inr (.inr (.inl ⟨d', ds, hK ▸ toP_dp hs _ _ _ _ r1 q1, hK ▸ toP_dp hs _ _ _ _ r2 q2, q3.1, q3.2, hp.val hs (rep_bl _)⟩))
      · exact hp.elim
    · exact hp.elim
  · split at hp
    · rename_i q
      simp only [Rep] at r2
      obtain ⟨a, vs, rfl, h1, h2⟩ := r2
      obtain ⟨g1, g2⟩ := flat_all r1 q.1 h2 q.2
      refine .inr (.inr (.inr (.inl ⟨a, vs, rfl, .inr (hK ▸ h1.sq), flat_V r1 q.1, g1, ?_⟩)))
      have z := hp.val hs (rep_bl _)
      rw [← g2] at z
      exact z
    · exact hp.elim
  · exact hp.elim
theorem op_nin (hK : U.K = X.K) (hu : X.A.units + 65 < cLine) : OpR X (compareOp .NotIn) (rOp U (boolR (cmpD .nin))) := by
  have big := (op_notIn_sign (X := X)).or ((op_notIn_str (X := X)).or ((op_notInD hu).or ((op_notIn_seq (X := X)).or (op_ninK (by omega)))))
  refine OpR.imp big fun x y H Q ⟨ι, s, d, e, hs, r1, r2, hp⟩ => ?_
  replace hp : PostP U ι H (bv ((inD d e s).bind fun b s => .ok (!b) s)) Q := hp
  unfold inD at hp
  split at hp
  · rename_i i j
    cases r1.str_of; cases r2.str_of
    simp only [bv, R.bind_ok, inStr] at hp
    split at hp
    · rename_i c q
      have e : i = ⟨#[c]⟩ := by cases i with | mk a => simp only [Str.mk.injEq]; exact Array.toList_inj.mp q
      subst e
      exact .inl ⟨c, j, rfl, rfl, hp.val hs (rep_bl _)⟩
    · exact .inr (.inl ⟨i, j, rfl, rfl, hp.val hs (rep_bl _)⟩)
  · rename_i n _
    split at hp
    · rename_i kvs e
      split at hp
      · rename_i k ek
        simp only [Rep] at r2
        obtain ⟨a, rfl, i⟩ := r2
        obtain ⟨vs, h1, h2⟩ := dct_at hs e i
        refine .inr (.inr (.inr (.inr ⟨a, vs, k, rfl, rep_key ek r1, h1, ?_⟩)))
        rw [some_eq h2]
        exact hp.val hs (rep_bl _)
      · exact hp.elim
    split at hp
    · rename_i d' ds q1 q2
      split at hp
      · rename_i q3
        exact .inr (.inr (.inl ⟨d', ds, hK ▸ toP_dp hs _ _ _ _ r1 q1, hK ▸ toP_dp hs _ _ _ _ r2 q2, q3.1, q3.2, hp.val hs (rep_bl _)⟩))
      · exact hp.elim
    · exact hp.elim
  · split at hp
    · rename_i q
      simp only [Rep] at r2
      obtain ⟨a, vs, rfl, h1, h2⟩ := r2
      obtain ⟨g1, g2⟩ := flat_all r1 q.1 h2 q.2
      refine .inr (.inr (.inr (.inl ⟨a, vs, rfl, .inr (hK ▸ h1.sq), flat_V r1 q.1, g1, ?_⟩)))
      have z := hp.val hs (rep_bl _)
      rw [← g2] at z
      exact z
    · exact hp.elim
  · exact hp.elim
/-! dicts compared -/
theorem eqP_ok {d e : D} {b : Bool} {s' : S} (h : eqP d e s = .ok b s') : s' = s ∧ ∃ p q, toP 60 s d = some p ∧ toP 60 s e = some q ∧ SeqAt.shaped p = true ∧ SeqAt.shaped q = true ∧ b = PyData.eqv p q := by
  unfold eqP at h
  split at h
  · rename_i p q e1 e2
    split at h
    · rename_i q3
      cases h
      exact ⟨rfl, p, q, e1, e2, q3.1, q3.2, rfl⟩
    · cases h
  · cases h
theorem hits_of (hK : U.K = X.K) {pins : List (Addr × Obj)} {σ : L2.St} {sh : Shared} (I : Inv X pins σ H sh) (hs : RelS U ι s H) {A : Around} (hu : A.in1.units + 64 < cLine) {ls : List (Key × D)} {vl : List (Key × V)} {wl : List (Key × Value)} (rl : RepF U.K ι H ls vl) (kl : KV vl wl) :
    ∀ {ks : List (Key × D)} {vk : List (Key × V)} {wk : List (Key × Value)} {b : Bool} {s' : S}, RepF U.K ι H ks vk → KV vk wk → eqHits ls s ks = .ok b s' → s' = s ∧ PySem.W.KeqHits A.in1 sh wl wk b
  | [], _, _, b, s', rk, kk, h => by
    cases (show _ = [] from rk)
    cases kk
    simp only [eqHits, R.ok.injEq] at h
    obtain ⟨rfl, rfl⟩ := h
    exact ⟨rfl, .nil⟩
  | (k, d) :: ks, _, _, b, s', rk, kk, h => by
    obtain ⟨v, vs, rfl, r1, r2⟩ := rk
    cases kk with
    | @cons _ q _ qs hq hqs =>
    obtain ⟨k', w⟩ := q
    obtain ⟨ek, rw'⟩ := hq
    cases (show k = k' from ek)
    simp only [eqHits] at h
    have hv := kl.val k
    rcases rl.get (k := k) with ⟨g1, g2⟩ | ⟨e, ve, g1, g2, g3⟩
    · rw [g1] at h
      simp only [R.ok.injEq] at h
      obtain ⟨rfl, rfl⟩ := h
      rw [g2] at hv
      exact ⟨rfl, .miss (RelO.none_of hv)⟩
    · rw [g1] at h
      simp only [] at h
      rw [g2] at hv
      obtain ⟨we, hwe, rwe⟩ := RelO.some_of hv
      cases h1 : eqP d e s with
      | bad => rw [h1] at h; cases h
      | exc _ _ _ => rw [h1] at h; cases h
      | ok a s1 =>
        rw [h1] at h
        obtain ⟨_, p, q, e1, e2, s1', s2', rfl⟩ := eqP_ok h1
        simp only [R.bind_ok] at h
        cases h2 : eqHits ls s ks with
        | bad => rw [h2] at h; cases h
        | exc _ _ _ => rw [h2] at h; cases h
        | ok b2 s2 =>
          rw [h2] at h
          simp only [R.bind_ok, R.ok.injEq] at h
          obtain ⟨rfl, rfl⟩ := h
          obtain ⟨rfl, ih⟩ := hits_of hK I hs hu rl kl r2 hqs h2
          obtain ⟨as, ra⟩ := Dp.reads I p v w (hK ▸ toP_dp hs _ _ _ _ r1 e1) rw'
          obtain ⟨bs, rb⟩ := Dp.reads I q ve we (hK ▸ toP_dp hs _ _ _ _ g3 e2) rwe
          exact ⟨rfl, .hit hwe (PySem.W.keq_at ra rb s1' s2' hu) ih⟩
theorem eqK_hits (hK : U.K = X.K) {pins : List (Addr × Obj)} {σ : L2.St} {sh : Shared} (I : Inv X pins σ H sh) (hs : RelS U ι s H) {A : Around} (hu : A.in1.units + 64 < cLine) {ks ls : List (Key × D)} {vk vl : List (Key × V)} {wk wl : List (Key × Value)}
    (rk : RepF U.K ι H ks vk) (kk : KV vk wk) (rl : RepF U.K ι H ls vl) (kl : KV vl wl) {b : Bool} {s' : S} (h : eqK ks ls s = .ok b s') : s' = s ∧ ∃ r, (wk.length = wl.length → PySem.W.KeqHits A.in1 sh wl wk r) ∧ b = (wk.length == wl.length && r) := by
  have l1 : wk.length = ks.length := kk.length.symm.trans rk.length
  have l2 : wl.length = ls.length := kl.length.symm.trans rl.length
  unfold eqK at h
  split at h
  · rename_i hl
    obtain ⟨rfl, z⟩ := hits_of hK I hs hu rl kl rk kk h
    refine ⟨rfl, b, fun _ => z, ?_⟩
    rw [l1, l2, hl]; simp
  · rename_i hl
    simp only [R.ok.injEq] at h
    obtain ⟨rfl, rfl⟩ := h
    refine ⟨rfl, false, fun z => ?_, by simp⟩
    rw [l1, l2] at z
    exact absurd z hl
theorem eqK_noexc {ks ls : List (Key × D)} {s : S} : ∀ c fs s', eqK ks ls s ≠ .exc c fs s' := by
  have hP : ∀ x y s c fs s', eqP x y s ≠ .exc c fs s' := by
    intro x y s c fs s' h
    unfold eqP at h
    split at h
    · split at h <;> cases h
    · cases h
  have hh : ∀ ks c fs s', eqHits ls s ks ≠ .exc c fs s' := by
    intro ks
    induction ks with
    | nil => intro c fs s' h; cases h
    | cons p ks ih =>
      intro c fs s' h
      obtain ⟨k, d⟩ := p
      simp only [eqHits] at h
      split at h
      · cases h
      · rename_i u _
        cases h1 : eqP d u s with
        | bad => rw [h1] at h; cases h
        | exc _ _ _ => exact hP _ _ _ _ _ _ h1
        | ok a s1 =>
          rw [h1] at h
          simp only [R.bind_ok] at h
          cases h2 : eqHits ls s ks with
          | bad => rw [h2] at h; cases h
          | exc _ _ _ => exact ih _ _ _ h2
          | ok a s1 => rw [h2] at h; cases h
  intro c fs s' h
  unfold eqK at h
  split at h
  · exact hh _ _ _ _ h
  · cases h
def rEqK (U : Su) (f : Bool → Bool) : R2 := fun x y H Q => ∃ ι s a b ks ls, RelS U ι s H ∧ x = .ref a ∧ y = .ref b ∧ ObR U ι H a (.dct ks) ∧ ObR U ι H b (.dct ls) ∧ PostP U ι H (bv ((eqK ks ls s).bind fun k s => .ok (f k) s)) Q
theorem in1_units {A : Around} : A.in1.units = A.units + 1 := rfl
theorem op_eqK (hK : U.K = X.K) (hu : X.A.units + 65 < cLine) : OpR X (compareOp .Eq) (fun x y H Q => ∃ ι s a b ks ls, RelS U ι s H ∧ x = .ref a ∧ y = .ref b ∧ ObR U ι H a (.dct ks) ∧ ObR U ι H b (.dct ls) ∧ PostP U ι H (bv (eqK ks ls s)) Q) := by
  intro pins s σ H x y v u Q I rx ry ⟨ι, st, a, b, ks, ls, hs, ex, ey, ⟨va, ea, ra⟩, ⟨vb, eb, rb⟩, hp⟩
  subst ex ey
  cases rx
  cases ry
  obtain ⟨_, ya, wa, ka, da⟩ := dk_of I.hok ea
  obtain ⟨_, yb, wb, kb, db⟩ := dk_of I.hok eb
  cases h : eqK ks ls st with
  | bad => rw [h] at hp; exact hp.elim
  | exc c fs s' => exact (eqK_noexc _ _ _ h).elim
  | ok k s' =>
    obtain ⟨rfl, r, hr, rfl⟩ := eqK_hits hK I hs (A := X.A) (by rw [in1_units]; omega) ra ka rb kb h
    rw [h] at hp
    exact PySem.W.keq_eq (knd := mixKind X.prog X.w) (r := r) ya yb da db (by omega) hr ⟨.bl _, H, I, rfl, hp.val hs (rep_bl _)⟩
theorem op_neK (hK : U.K = X.K) (hu : X.A.units + 65 < cLine) : OpR X (compareOp .NotEq) (fun x y H Q => ∃ ι s a b ks ls, RelS U ι s H ∧ x = .ref a ∧ y = .ref b ∧ ObR U ι H a (.dct ks) ∧ ObR U ι H b (.dct ls) ∧ PostP U ι H (bv ((eqK ks ls s).bind fun k s => .ok (!k) s)) Q) := by
  intro pins s σ H x y v u Q I rx ry ⟨ι, st, a, b, ks, ls, hs, ex, ey, ⟨va, ea, ra⟩, ⟨vb, eb, rb⟩, hp⟩
  subst ex ey
  cases rx
  cases ry
  obtain ⟨_, ya, wa, ka, da⟩ := dk_of I.hok ea
  obtain ⟨_, yb, wb, kb, db⟩ := dk_of I.hok eb
  cases h : eqK ks ls st with
  | bad => rw [h] at hp; exact hp.elim
  | exc c fs s' => exact (eqK_noexc _ _ _ h).elim
  | ok k s' =>
    obtain ⟨rfl, r, hr, rfl⟩ := eqK_hits hK I hs (A := X.A) (by rw [in1_units]; omega) ra ka rb kb h
    rw [h] at hp
    exact PySem.W.keq_ne (knd := mixKind X.prog X.w) (r := r) ya yb da db (by omega) hr ⟨.bl _, H, I, rfl, hp.val hs (rep_bl _)⟩
def copOf : Cop → CmpOp
  | .lt => .Lt | .le => .LtE | .gt => .Gt | .ge => .GtE | .eq => .Eq | .ne => .NotEq | .isn => .Is | .notn => .IsNot | .inn => .In | .nin => .NotIn
theorem op_cmpD (hK : U.K = X.K) (hu : X.A.units + 65 < cLine) : ∀ o : Cop, OpR X (compareOp (copOf o)) (rOp U (boolR (cmpD o)))
  | .lt => by
    refine OpR.imp ((op_lt (X := X)).or (op_lt_str (X := X))) fun x y H Q ⟨ι, s, d, e, hs, r1, r2, hp⟩ => ?_
    cases d <;> cases e <;> first
      | exact (show False from hp).elim
      | exact .inl ⟨_, _, r1.int_of, r2.int_of, PostP.val hp hs (rep_bl _)⟩
      | exact .inr ⟨_, _, r1.str_of, r2.str_of, PostP.val hp hs (rep_bl _)⟩
  | .le => by
    refine OpR.imp (op_le (X := X)) fun x y H Q ⟨ι, s, d, e, hs, r1, r2, hp⟩ => ?_
    cases d <;> cases e <;> first
      | exact (show False from hp).elim
      | exact ⟨_, _, r1.int_of, r2.int_of, PostP.val hp hs (rep_bl _)⟩
  | .gt => by
    refine OpR.imp (op_gt (X := X)) fun x y H Q ⟨ι, s, d, e, hs, r1, r2, hp⟩ => ?_
    cases d <;> cases e <;> first
      | exact (show False from hp).elim
      | exact ⟨_, _, r1.int_of, r2.int_of, PostP.val hp hs (rep_bl _)⟩
  | .ge => by
    refine OpR.imp (op_ge (X := X)) fun x y H Q ⟨ι, s, d, e, hs, r1, r2, hp⟩ => ?_
    cases d <;> cases e <;> first
      | exact (show False from hp).elim
      | exact ⟨_, _, r1.int_of, r2.int_of, PostP.val hp hs (rep_bl _)⟩
  | .eq => by
    refine OpR.imp ((op_eqD (X := X) (by omega)).or (op_eqK hK hu)) fun x y H Q ⟨ι, s, d, e, hs, r1, r2, hp⟩ => ?_
    replace hp : PostP U ι H (bv (eqD d e s)) Q := hp
    have pl : PostP U ι H (bv (eqP d e s)) Q → rEqD X.K x y H Q := fun hp => by
      unfold eqP at hp
      split at hp
      · rename_i p q e1 e2
        split at hp
        · rename_i q3
          exact ⟨p, q, hK ▸ toP_dp hs _ _ _ _ r1 e1, hK ▸ toP_dp hs _ _ _ _ r2 e2, q3.1, q3.2, hp.val hs (rep_bl _)⟩
        · exact hp.elim
      · exact hp.elim
    unfold eqD at hp
    split at hp
    · split at hp
      · rename_i m n _ _ ks ls e1 e2
        simp only [Rep] at r1 r2
        obtain ⟨a, rfl, i1⟩ := r1
        obtain ⟨b, rfl, i2⟩ := r2
        exact .inr ⟨ι, s, a, b, ks, ls, hs, rfl, rfl, hs.at e1 i1, hs.at e2 i2, hp⟩
      · exact .inl (pl hp)
    · exact .inl (pl hp)
  | .ne => by
    refine OpR.imp ((op_neD (X := X) (by omega)).or (op_neK hK hu)) fun x y H Q ⟨ι, s, d, e, hs, r1, r2, hp⟩ => ?_
    replace hp : PostP U ι H (bv ((eqD d e s).bind fun b s => .ok (!b) s)) Q := hp
    have pl : PostP U ι H (bv ((eqP d e s).bind fun b s => .ok (!b) s)) Q → rNeD X.K x y H Q := fun hp => by
      unfold eqP at hp
      split at hp
      · rename_i p q e1 e2
        split at hp
        · rename_i q3
          exact ⟨p, q, hK ▸ toP_dp hs _ _ _ _ r1 e1, hK ▸ toP_dp hs _ _ _ _ r2 e2, q3.1, q3.2, hp.val hs (rep_bl _)⟩
        · exact hp.elim
      · exact hp.elim
    unfold eqD at hp
    split at hp
    · split at hp
      · rename_i m n _ _ ks ls e1 e2
        simp only [Rep] at r1 r2
        obtain ⟨a, rfl, i1⟩ := r1
        obtain ⟨b, rfl, i2⟩ := r2
        exact .inr ⟨ι, s, a, b, ks, ls, hs, rfl, rfl, hs.at e1 i1, hs.at e2 i2, hp⟩
      · exact .inl (pl hp)
    · exact .inl (pl hp)
  | .isn => by
    refine OpR.imp (op_isN (X := X)) fun x y H Q ⟨ι, s, d, e, hs, r1, r2, hp⟩ => ?_
    have hd : decide (x = .non) = d.isNon := by
      cases d <;> simp only [Rep] at r1 <;> first
        | (subst r1; rfl)
        | exact r1.elim
        | (obtain ⟨_, _, rfl, _⟩ := r1; rfl)
        | (obtain ⟨_, rfl, _⟩ := r1; rfl)
    cases e <;> first
      | exact ⟨r2.non_of, hd ▸ PostP.val hp hs (rep_bl _)⟩
      | exact (show False from by cases d <;> exact hp).elim
  | .notn => by
    refine OpR.imp (op_notN (X := X)) fun x y H Q ⟨ι, s, d, e, hs, r1, r2, hp⟩ => ?_
    have hd : decide (x = .non) = d.isNon := by
      cases d <;> simp only [Rep] at r1 <;> first
        | (subst r1; rfl)
        | exact r1.elim
        | (obtain ⟨_, _, rfl, _⟩ := r1; rfl)
        | (obtain ⟨_, rfl, _⟩ := r1; rfl)
    cases e <;> first
      | exact ⟨r2.non_of, hd ▸ PostP.val hp hs (rep_bl _)⟩
      | exact (show False from by cases d <;> exact hp).elim
  | .inn => op_in hK hu
  | .nin => op_nin hK hu
theorem un_negD : UnR X (unaryOp .USub) (fun x H Q => ∃ ι s d, RelS U ι s H ∧ Rep U.K ι H d x ∧ PostP U ι H (negD d s) Q) := by
  intro pins s σ H x v Q I rx ⟨ι, st, d, hs, r1, hp⟩
  cases d <;> first
    | exact (show False from hp).elim
    | exact un_neg pins s σ H x v Q I rx ⟨_, r1.int_of, PostP.val hp hs (rep_int _)⟩
/-- truth -/
abbrev PostB (U : Su) (ι : List Addr) (H : Hp) (r : R Bool) (Q : Bool → Hp → Prop) : Prop := Post U RB W0 [] ι H r Q
theorem PostB.val {b : Bool} {Q : Bool → Hp → Prop} (h : PostB U ι H (.ok b s) Q) (hs : RelS U ι s H) : Q b H := h ι H b (Go.refl _ _) hs rfl
theorem tru_D {K : PySem.W.Frag} (hK : U.K = K) {x : V} {d : D} {Q : Bool → Hp → Prop} (hs : RelS U ι s H) (r : Rep U.K ι H d x) (hp : PostB U ι H (truD d s) Q) : ∃ k, TruV K x H k ∧ Q k H := by
  cases d with
  | non => cases r.non_of; exact ⟨_, rfl, hp.val hs⟩
  | bl b => cases r.bl_of; exact ⟨_, rfl, hp.val hs⟩
  | int b => cases r.int_of; exact ⟨_, rfl, hp.val hs⟩
  | str b =>
    cases r.str_of
    simp only [truD] at hp
    split at hp
    · exact ⟨_, ⟨by assumption, rfl⟩, hp.val hs⟩
    · exact hp.elim
  | tup ds =>
    simp only [Rep] at r
    obtain ⟨a, vs, rfl, h1, h2⟩ := r
    have g := h2.length
    refine ⟨!ds.isEmpty, .inr (.inl ⟨vs, hK ▸ h1.sq, ?_⟩), hp.val hs⟩
    cases ds <;> cases vs <;> simp_all
  | flst ds =>
    simp only [Rep] at r
    obtain ⟨a, vs, rfl, h1, h2⟩ := r
    have g := h2.length
    refine ⟨!ds.isEmpty, .inl ⟨vs, hK ▸ h1.sq, ?_⟩, hp.val hs⟩
    cases ds <;> cases vs <;> simp_all
  | ref n =>
    simp only [Rep] at r
    obtain ⟨a, rfl, i⟩ := r
    simp only [truD] at hp
    split at hp
    · rename_i ds q
      obtain ⟨vs, h1, h2⟩ := lst_sq hs q i
      have g := h2.length
      refine ⟨!ds.isEmpty, .inl ⟨vs, hK ▸ h1, ?_⟩, hp.val hs⟩
      cases ds <;> cases vs <;> simp_all
    · exact hp.elim
theorem atI_len {α β : Type} {xs : List α} {ys : List β} (h : ys.length = xs.length) (i : Int) : ∀ x, atI xs i = some x → ∃ j : Nat, xs[j]? = some x ∧ ixN xs.length i = some j ∧ ∀ y, ys[j]? = some y → atI ys i = some y := by
  intro x e
  unfold atI at e ⊢
  rw [h]
  cases q : ixN xs.length i with
  | none => rw [q] at e; cases e
  | some j =>
    rw [q] at e
    exact ⟨j, e, rfl, fun y z => z⟩
theorem ix_K (hu : X.A.units + 1 < cLine) : IxR X (fun x y H Q => ∃ a kvs k v, x = .ref a ∧ y = kV k ∧ H a = some (.dK kvs) ∧ valV kvs k = some v ∧ Q v H) := by
  intro value slice pins s σ H x y v u Q I rx ry ⟨a, kvs, k, w, ex, ey, e, hv, q⟩ hsu
  subst ex ey
  cases rx
  have g : DGet H a (kV k) (some w) := by rw [← hv]; exact DGet.k e
  exact tail_any (dict_typeIs I g) slot_dict_getitem.lookup (d_getItem hu I g ry fun w' s' I' r' => ⟨w, H, I', r', q⟩) hsu
theorem ixS_ok (hK : U.K = X.K) {x y : V} {d : D} {i : Int} {Q : V → Hp → Prop} (hs : RelS U ι s H) (r1 : Rep U.K ι H d x) (hy : y = .int i) (hp : PostP U ι H (ixS d i s) Q) : rIxL X.K x y H Q ∨ rIxT X.K x y H Q := by
  unfold ixS at hp
  split at hp
  · rename_i w q
    simp only [Option.bind_eq_some_iff] at q
    obtain ⟨ds, q1, q2⟩ := q
    obtain ⟨a, vs, rfl, h1, h2⟩ := seq_sq hs q1 r1
    obtain ⟨j, g1, _, g3⟩ := atI_len h2.length i w q2
    obtain ⟨wv, g4, g5⟩ := h2.get g1
    rcases h1 with h1 | h1
    · exact .inl ⟨a, vs, i, wv, rfl, hy, hK ▸ h1, g3 wv g4, hp.val hs g5⟩
    · exact .inr ⟨a, vs, i, wv, rfl, hy, hK ▸ h1.sq, g3 wv g4, hp.val hs g5⟩
  · exact hp.elim
theorem ix_D (hK : U.K = X.K) (hu : X.A.units + 1 < cLine) : IxR X (rOp U ixD) := by
  intro value slice pins s σ H x y v u Q I rx ry ⟨ι, st, d, e, hs, r1, r2, hp⟩ hsu
  refine ((ix_seq (X := X)).or (ix_K hu)) value slice pins s σ H x y v u Q I rx ry ?_ hsu
  have sq : ∀ i, e = .int i → PostP U ι H (ixS d i st) Q → rIx X.K x y H Q := fun i he hq => by
    rcases ixS_ok hK hs r1 (show y = .int i by rw [he] at r2; exact r2.int_of) hq with z | z
    · exact .inl z
    · exact .inr (.inl z)
  unfold ixD at hp
  split at hp
  · rename_i z i
    split at hp
    · split at hp
      · rename_i c q
        exact .inl (.inr (.inr ⟨z, i, c, r1.str_of, r2.int_of, by assumption, q, hp.val hs (rep_str _)⟩))
      · exact hp.elim
    · exact hp.elim
  · rename_i n _ _
    split at hp
    · rename_i kvs e1
      split at hp
      · rename_i w e2
        obtain ⟨k, ek, g⟩ := Option.bind_eq_some_iff.mp e2
        simp only [Rep] at r1
        obtain ⟨a, rfl, i⟩ := r1
        obtain ⟨vs, h1, h2⟩ := dct_at hs (dctAt_of e1) i
        rcases h2.get (k := k) with ⟨g1, _⟩ | ⟨d', v', g1, g2, g3⟩
        · rw [g] at g1; cases g1
        · rw [g] at g1
          cases g1
          exact .inr ⟨a, vs, k, v', rfl, rep_key ek r2, h1, g2, hp.val hs g3⟩
      · exact hp.elim
    · split at hp
      · exact .inl (sq _ rfl hp)
      · exact hp.elim
  · exact .inl (sq _ rfl hp)
  · exact hp.elim
theorem Reps.cut {K : PySem.W.Frag} {ds : List D} {vs : List V} (lo hi : Option Int) (h : Reps K ι H ds vs) : Reps K ι H (cutL ds lo hi) (cutV vs lo hi) := by
  unfold cutL cutV
  rw [h.length]
  exact (h.drop _).take _
theorem sl_D (hK : U.K = X.K) : SlR X (fun x lo hi H Q => ∃ ι s d, RelS U ι s H ∧ Rep U.K ι H d x ∧ PostP U ι H (slD d lo hi s) Q) := by
  intro pins s σ H x v vl vu lo hi sl Q I rx hsl pl pu ⟨ι, st, d, hs, r, hp⟩
  refine ((sl_str (X := X)).or ((sl_list (X := X)).or (sl_tupA (X := X)))) pins s σ H x v vl vu lo hi sl Q I rx hsl pl pu ?_
  unfold slD at hp
  split at hp
  · split at hp
    · exact .inl ⟨_, r.str_of, by assumption, hp.val hs (rep_str _)⟩
    · exact hp.elim
  · rename_i ds
    simp only [Rep] at r
    obtain ⟨a, vs, rfl, h1, h2⟩ := r
    refine .inr (.inr ⟨a, vs, rfl, hK ▸ h1.sq, fun z => ?_, fun z p np => hp.tup hs np (h2.cut lo hi)⟩)
    refine hp.val hs ?_
    simp only [Rep]
    refine ⟨a, vs, rfl, h1, ?_⟩
    have g := h2.cut lo hi
    have e : cutV vs lo hi = vs := by
      unfold cutV
      rw [z.1, z.2]
      simp
    rw [e] at g
    exact g
  · rename_i n
    simp only [Rep] at r
    obtain ⟨a, rfl, i⟩ := r
    split at hp
    · rename_i ds q
      obtain ⟨vs, h1, h2⟩ := lst_sq hs q i
      exact .inr (.inl ⟨a, vs, rfl, hK ▸ h1, fun p np => hp.mk hs np (ObR.lst np (h2.cut lo hi))⟩)
    · exact hp.elim
  · exact hp.elim
end
end G

set_option Elab.async false
set_option linter.all false
set_option maxRecDepth 100000
set_option autoImplicit false
set_option maxHeartbeats 1000000
/-! G4: built-in calls, methods, isinstance, stores, sources and targets. -/
namespace G
open PySem PySem.Spec PyProof.Rows L2

def rCall (U : Su) (m : List D → S → R D) : List V → Hp → VK → Prop := fun xs H Q => ∃ ι s ds, RelS U ι s H ∧ Reps U.K ι H ds xs ∧ PostP U ι H (m ds s) Q
theorem Reps.one_of {K : PySem.W.Frag} {ι : List Addr} {H : Hp} {d : D} {xs : List V} (r : Reps K ι H [d] xs) : ∃ v, xs = [v] ∧ Rep K ι H d v := by
  simp only [Reps] at r
  obtain ⟨v, ws, rfl, h, rfl⟩ := r
  exact ⟨v, rfl, h⟩
theorem Reps.two_of {K : PySem.W.Frag} {ι : List Addr} {H : Hp} {d e : D} {xs : List V} (r : Reps K ι H [d, e] xs) : ∃ v w, xs = [v, w] ∧ Rep K ι H d v ∧ Rep K ι H e w := by
  simp only [Reps] at r
  obtain ⟨v, ws, rfl, h, w, us, rfl, h', rfl⟩ := r
  exact ⟨v, w, rfl, h, h'⟩
section
variable {X : Cx} {U : Su}
theorem CallR.imp {f : Value} {r r' : List V → Hp → VK → Prop} (h : CallR X f r) (i : ∀ xs H Q, r' xs H Q → r xs H Q) : CallR X f r' :=
  fun pins s σ H xs us Q I rx q => h pins s σ H xs us Q I rx (i _ _ _ q)
theorem CallR.or {f : Value} {r r' : List V → Hp → VK → Prop} (h : CallR X f r) (h' : CallR X f r') : CallR X f (fun x H Q => r x H Q ∨ r' x H Q) :=
  fun pins s σ H xs us Q I rx q => q.elim (h pins s σ H xs us Q I rx) (h' pins s σ H xs us Q I rx)
def bfName : Bf → Str
  | .len => "len" | .abs => "abs" | .int => "int" | .list => "list" | .tuple => "tuple" | .dict => "dict" | .sorted => "sorted" | .min => "min" | .max => "max"
def bfVal : Bf → Value
  | .len => .builtin "len" | .abs => .builtin "abs" | .int => .type "int" | .list => .type "list" | .tuple => .type "tuple" | .dict => .type "dict" | .sorted => .builtin "sorted" | .min => .builtin "min" | .max => .builtin "max"
/-! texts, sorted -/
theorem leT_le {a b : Str} : leT a b = true ↔ a.cps.toList ≤ b.cps.toList := by unfold leT; exact decide_eq_true_iff
theorem leT_trans (a b c : Str) (h : leT a b = true) (g : leT b c = true) : leT a c = true := leT_le.mpr (List.le_trans (leT_le.mp h) (leT_le.mp g))
theorem leT_total (a b : Str) : (leT a b || leT b a) = true := by
  rcases List.le_total a.cps.toList b.cps.toList with h | h
  · rw [leT_le.mpr h]; rfl
  · rw [leT_le.mpr h, Bool.or_true]
theorem leT_anti {a b : Str} (h : leT a b = true) (g : leT b a = true) : a = b := by
  have e := List.le_antisymm (leT_le.mp h) (leT_le.mp g)
  cases a; cases b
  simp only [Str.mk.injEq] at e ⊢
  exact Array.toList_inj.mp e
theorem leT_of {a b : Str} (h : (!ltCps b.cps.toList a.cps.toList) = true) : leT a b = true := by
  rw [Bool.not_eq_true', ltCps_eq] at h
  exact leT_le.mpr (List.not_lt.mp (of_decide_eq_false h))
theorem rising_pw : ∀ {ys : List Str} {p : Str}, risingS p ys = true → (p :: ys).Pairwise fun a b => leT a b = true
  | [], p, _ => List.pairwise_singleton _ _
  | y :: ys, p, h => by
    unfold risingS at h
    rw [Bool.and_eq_true] at h
    have ih := rising_pw h.2
    refine List.pairwise_cons.mpr ⟨fun z hz => ?_, ih⟩
    rcases List.mem_cons.mp hz with rfl | hz
    · exact leT_of h.1
    · exact leT_trans _ _ _ (leT_of h.1) ((List.pairwise_cons.mp ih).1 z hz)
theorem sorted_is {xs ys : List Str} (hp : ys.Perm xs) (hs : sortedS ys = true) : ys = sortT xs := by
  have h1 : ys.Pairwise fun a b => leT a b = true := by
    cases ys with
    | nil => exact .nil
    | cons y ys => exact rising_pw hs
  exact List.Perm.eq_of_pairwise (fun a b _ _ => leT_anti) h1 (List.pairwise_mergeSort leT_trans leT_total xs) (hp.trans (List.mergeSort_perm xs leT).symm)
theorem strs_V {K : PySem.W.Frag} {ι : List Addr} {H : Hp} : ∀ {ds : List D} {vs : List V} {ys : List Str}, Reps K ι H ds vs → strsOf ds = some ys → vs = ys.map V.str
  | [], vs, ys, r, e => by
    simp only [Reps] at r; simp only [strsOf, Option.some.injEq] at e
    subst r; subst e; rfl
  | d :: ds, vs, ys, r, e => by
    simp only [Reps] at r
    obtain ⟨v, ws, rfl, h1, h2⟩ := r
    cases d <;> simp only [strsOf] at e <;> first
      | (simp only [Option.map_eq_some_iff] at e
         obtain ⟨zs, e, rfl⟩ := e
         rw [strs_V h2 e, h1.str_of]
         rfl)
      | exact nomatch e
theorem reps_strs {K : PySem.W.Frag} {ι : List Addr} {H : Hp} : ∀ ys : List Str, Reps K ι H (ys.map D.str) (ys.map V.str)
  | [] => Reps.nil
  | y :: ys => Reps.cons (rep_str _) (reps_strs ys)
theorem ObR.dct {U : Su} {ι : List Addr} {H : Hp} {p : Addr} {kvs : List (Key × D)} {vs : List (Key × V)} (hp : H p = none) (r : RepF U.K ι H kvs vs) : ObR U (ι ++ [p]) (upd H p (.dK vs)) p (.dct kvs) :=
  ⟨vs, upd_same, r.mono (Ext.one _ _) (Same.kept (same_new hp))⟩
theorem dctOf_ref {s : S} {d : D} {kvs : List (Key × D)} (h : dctOf s d = some kvs) : ∃ n, d = .ref n ∧ s[n]? = some (.dct kvs) := by
  cases d <;> first
    | exact ⟨_, rfl, dctAt_of h⟩
    | cases h
theorem blt_D (hK : U.K = X.K) (hc : X.calm = true) : ∀ b : Bf, CallR X (bfVal b) (rCall U (bltD b))
  | .len => by
    refine CallR.imp ((call_len_str (X := X)).or ((call_len_seq (X := X)).or (call_lenD (X := X)))) fun xs H Q ⟨ι, s, ds, hs, r, hp⟩ => ?_
    unfold bltD at hp
    split at hp <;> first
      | (rename_i z
         split at hp
         · obtain ⟨v, rfl, r1⟩ := r.one_of
           cases r1.str_of
           exact .inl ⟨_, rfl, by assumption, hp.val hs (rep_int _)⟩
         · exact hp.elim)
      | (rename_i z
         split at hp
         · rename_i kvs q
           obtain ⟨n, rfl, e⟩ := dctOf_ref q
           obtain ⟨v, rfl, r1⟩ := r.one_of
           simp only [Rep] at r1
           obtain ⟨a, rfl, i⟩ := r1
           obtain ⟨vs, h1, h2⟩ := dct_at hs e i
           exact .inr (.inr ⟨a, vs, rfl, h1, by rw [h2.length]; exact hp.val hs (rep_int _)⟩)
         · split at hp
           · rename_i es q
             obtain ⟨v, rfl, r1⟩ := r.one_of
             obtain ⟨a, vs, rfl, h1, h2⟩ := seq_sq hs q r1
             refine .inr (.inl ⟨a, vs, rfl, ?_, ?_⟩)
             · rcases h1 with h1 | h1
               · exact .inl (hK ▸ h1)
               · exact .inr (hK ▸ h1.sq)
             · rw [h2.length]; exact hp.val hs (rep_int _)
           · exact hp.elim)
      | exact hp.elim
      | contradiction
      | simp_all
  | .abs => by
    refine CallR.imp (call_abs (X := X)) fun xs H Q ⟨ι, s, ds, hs, r, hp⟩ => ?_
    match ds, r, hp with
    | [.int i], r, hp =>
      obtain ⟨v, rfl, r1⟩ := r.one_of
      cases r1.int_of
      exact ⟨_, rfl, PostP.val hp hs (rep_int _)⟩
    | [], r, hp => exact (show False from hp).elim
    | _ :: _ :: _, r, hp => exact (show False from by unfold bltD at hp; split at hp <;> simp_all [Post]).elim
    | [.non], r, hp => exact (show False from hp).elim
    | [.bl _], r, hp => exact (show False from hp).elim
    | [.str _], r, hp => exact (show False from hp).elim
    | [.tup _], r, hp => exact (show False from hp).elim
    | [.ref _], r, hp => exact (show False from hp).elim
    | [.flst _], r, hp => exact (show False from hp).elim
  | .int => by
    refine CallR.imp (call_int1 (X := X)) fun xs H Q ⟨ι, s, ds, hs, r, hp⟩ => ?_
    match ds, r, hp with
    | [.int i], r, hp =>
      obtain ⟨v, rfl, r1⟩ := r.one_of
      cases r1.int_of
      exact .inl ⟨_, rfl, PostP.val hp hs (rep_int _)⟩
    | [.bl i], r, hp =>
      obtain ⟨v, rfl, r1⟩ := r.one_of
      cases r1.bl_of
      exact .inr ⟨_, rfl, PostP.val hp hs (rep_int _)⟩
    | [], r, hp => exact (show False from hp).elim
    | _ :: _ :: _, r, hp => exact (show False from by unfold bltD at hp; split at hp <;> simp_all [Post]).elim
    | [.non], r, hp => exact (show False from hp).elim
    | [.str _], r, hp => exact (show False from hp).elim
    | [.tup _], r, hp => exact (show False from hp).elim
    | [.ref _], r, hp => exact (show False from hp).elim
    | [.flst _], r, hp => exact (show False from hp).elim
  | .list => by
    refine CallR.imp ((call_list_of (X := X)).or (call_listD hc)) fun xs H Q ⟨ι, s, ds, hs, r, hp⟩ => ?_
    match ds, r, hp with
    | [x], r, hp =>
      obtain ⟨v, rfl, r1⟩ := r.one_of
      simp only [bltD] at hp
      split at hp
      · rename_i kvs q
        obtain ⟨n, rfl, e⟩ := dctOf_ref q
        simp only [Rep] at r1
        obtain ⟨a, rfl, i⟩ := r1
        obtain ⟨vs, h1, h2⟩ := dct_at hs e i
        exact .inr ⟨a, vs, rfl, .inl h1, fun p np => hp.mk hs np (ObR.lst np (reps_keys h2))⟩
      · split at hp
        · rename_i es q
          obtain ⟨a, vs, rfl, h1, h2⟩ := seq_sq hs q r1
          refine .inl ⟨a, vs, rfl, ?_, fun p np => hp.mk hs np (ObR.lst np h2)⟩
          rcases h1 with h1 | h1
          · exact .inl (hK ▸ h1)
          · exact .inr (hK ▸ h1.sq)
        · exact hp.elim
    | [], r, hp => exact (show False from hp).elim
    | _ :: _ :: _, r, hp => exact (show False from by unfold bltD at hp; split at hp <;> simp_all [Post]).elim
  | .dict => by
    refine CallR.imp (call_dictD (X := X)) fun xs H Q ⟨ι, s, ds, hs, r, hp⟩ => ?_
    match ds, r, hp with
    | [x], r, hp =>
      obtain ⟨v, rfl, r1⟩ := r.one_of
      simp only [bltD] at hp
      split at hp
      · rename_i kvs q
        obtain ⟨n, rfl, e⟩ := dctOf_ref q
        simp only [Rep] at r1
        obtain ⟨a, rfl, i⟩ := r1
        obtain ⟨vs, h1, h2⟩ := dct_at hs e i
        exact ⟨a, vs, rfl, .inl h1, fun p np => hp.mk hs np (ObR.dct np h2)⟩
      · exact hp.elim
    | [], r, hp => exact (show False from hp).elim
    | _ :: _ :: _, r, hp => exact (show False from by unfold bltD at hp; split at hp <;> simp_all [Post]).elim
  | .sorted => by
    refine CallR.imp (cr_sortedS (X := X)) fun xs H Q ⟨ι, s, ds, hs, r, hp⟩ => ?_
    unfold bltD at hp
    split at hp <;> first
      | (exact hp.elim; done)
      | contradiction
      | (rename_i n _
         split at hp
         · rename_i ys q
           split at hp
           · obtain ⟨es, q1, q2⟩ := Option.bind_eq_some_iff.mp q
             obtain ⟨v, rfl, r1⟩ := r.one_of
             simp only [Rep] at r1
             obtain ⟨a, rfl, i⟩ := r1
             obtain ⟨vs, h1, h2⟩ := lst_sq hs q1 i
             have e := strs_V h2 q2
             subst e
             exact ⟨a, ys, rfl, hK ▸ h1, by assumption, fun zs p hz1 hz2 np => by rw [sorted_is hz1 hz2]; exact hp.mk hs np (ObR.lst np (reps_strs _))⟩
           · exact hp.elim
         · exact hp.elim)
  | .min => by
    refine CallR.imp (call_min2 hc) fun xs H Q ⟨ι, s, ds, hs, r, hp⟩ => ?_
    unfold bltD at hp
    split at hp <;> first
      | (exact hp.elim; done)
      | contradiction
      | (obtain ⟨v, w, rfl, r1, r2⟩ := r.two_of
         exact ⟨_, _, by rw [r1.int_of, r2.int_of], hp.val hs (rep_int _)⟩)
  | .max => by
    refine CallR.imp (call_max2 hc) fun xs H Q ⟨ι, s, ds, hs, r, hp⟩ => ?_
    unfold bltD at hp
    split at hp <;> first
      | (exact hp.elim; done)
      | contradiction
      | (obtain ⟨v, w, rfl, r1, r2⟩ := r.two_of
         exact ⟨_, _, by rw [r1.int_of, r2.int_of], hp.val hs (rep_int _)⟩)
  | .tuple => by
    refine CallR.imp (call_tuple_of (X := X)) fun xs H Q ⟨ι, s, ds, hs, r, hp⟩ => ?_
    match ds, r, hp with
    | [x], r, hp =>
      obtain ⟨v, rfl, r1⟩ := r.one_of
      simp only [bltD] at hp
      split at hp
      · rename_i es q
        obtain ⟨a, vs, rfl, h1, h2⟩ := seq_sq hs q r1
        refine ⟨a, vs, rfl, ?_⟩
        rcases h1 with h1 | h1
        · exact .inl ⟨hK ▸ h1, fun p np => hp.tup hs np h2⟩
        · exact .inr ⟨hK ▸ h1.sq, hp.val hs (by simp only [Rep]; exact ⟨a, vs, rfl, h1, h2⟩)⟩
      · exact hp.elim
    | [], r, hp => exact (show False from hp).elim
    | _ :: _ :: _, r, hp => exact (show False from by unfold bltD at hp; split at hp <;> simp_all [Post]).elim

/-! ### methods -/
def mfName : Mf → Str
  | .append => "append" | .join => "join" | .clear => "clear" | .get => "get" | .insert => "insert" | .pop => "pop" | .extend => "extend"
def miName : Mi → Str
  | .lappend => "append" | .sjoin => "join" | .lclear => "clear" | .dclear => "clear" | .dget => "get" | .linsert => "insert" | .lpop => "pop" | .lextend => "extend" | .dpop => "pop"
def miTy : Mi → String
  | .lappend => "list" | .sjoin => "str" | .lclear => "list" | .dclear => "dict" | .dget => "dict" | .linsert => "list" | .lpop => "list" | .lextend => "list" | .dpop => "dict"
def miId : Mi → String
  | .lappend => "list.append" | .sjoin => "str.join" | .lclear => "list.clear" | .dclear => "dict.clear" | .dget => "dict.get" | .linsert => "list.insert" | .lpop => "list.pop" | .lextend => "list.extend" | .dpop => "dict.pop"
def rMeth (U : Su) (m : Mi) : V → List V → Hp → VK → Prop := fun x xs H Q => ∃ ι s d ds, RelS U ι s H ∧ Rep U.K ι H d x ∧ Reps U.K ι H ds xs ∧ PostP U ι H (mtD m d ds s) Q
theorem MtR.imp {id : String} {r r' : V → List V → Hp → VK → Prop} (h : MtR X id r) (i : ∀ x xs H Q, r' x xs H Q → r x xs H Q) : MtR X id r' :=
  fun pins s σ H x xs v us Q I rx rs q => h pins s σ H x xs v us Q I rx rs (i _ _ _ _ q)
/-- a list in the store is changed -/
theorem lst_put {ι : List Addr} {H : Hp} {s : S} {n : Nat} {a : Addr} {ds es : List D} {vs ws : List V} (hs : RelS U ι s H) (e : s[n]? = some (.lst ds)) (i : ι[n]? = some a) (h1 : H a = some (.lst vs)) (r : Reps U.K ι H es ws) :
    RelS U ι (s.set n (.lst es)) (upd H a (.lst ws)) ∧ Go ι H ι (upd H a (.lst ws)) := by
  have kp : Kept H (upd H a (.lst ws)) := fun b xs z st => by
    rw [upd_ne (fun w => by rw [w, h1] at z; cases z; exact st)]; exact z
  exact hs.put (by intro _ z; cases z) (o' := .lst es) (u := .lst ws) e i ⟨_, upd_same, r.mono (Ext.refl _) kp⟩
theorem dct_put {ι : List Addr} {H : Hp} {s : S} {n : Nat} {a : Addr} {ds es : List (Key × D)} {vs ws : List (Key × V)} (hs : RelS U ι s H) (e : s[n]? = some (.dct ds)) (i : ι[n]? = some a) (h1 : H a = some (.dK vs)) (r : RepF U.K ι H es ws) :
    RelS U ι (s.set n (.dct es)) (upd H a (.dK ws)) ∧ Go ι H ι (upd H a (.dK ws)) := by
  have kp : Kept H (upd H a (.dK ws)) := fun b xs z st => by
    rw [upd_ne (fun w => by rw [w, h1] at z; cases z; exact st)]; exact z
  exact hs.put (by intro _ z; cases z) (o' := .dct es) (u := .dK ws) e i ⟨_, upd_same, r.mono (Ext.refl _) kp⟩
theorem Reps.zero_of {K : PySem.W.Frag} {ι : List Addr} {H : Hp} {xs : List V} (r : Reps K ι H [] xs) : xs = [] := by simpa only [Reps] using r
theorem Reps.dropLast {K : PySem.W.Frag} {ι : List Addr} {H : Hp} {ds : List D} {vs : List V} (h : Reps K ι H ds vs) : Reps K ι H ds.dropLast vs.dropLast := by
  rw [List.dropLast_eq_take, List.dropLast_eq_take, h.length]
  exact h.take _
theorem mt_dclear : MtR X "dict.clear" (fun x xs H Q => ∃ a kvs, x = .ref a ∧ xs = [] ∧ H a = some (.dK kvs) ∧ Q .non (upd H a (.dK []))) := by
  intro pins s σ H x xs v us Q I rx rs ⟨a, kvs, ex, exs, e, q⟩
  subst ex exs
  cases rx
  cases rs
  exact d_clear I e fun s' I' => ⟨.non, _, I', rfl, q⟩
theorem mt_dget (hu : X.A.units + 1 < cLine) : MtR X "dict.get" (fun x xs H Q => ∃ a kvs k, x = .ref a ∧ H a = some (.dK kvs) ∧ ((xs = [kV k] ∧ Q ((valV kvs k).getD .non) H) ∨ ∃ z, xs = [kV k, z] ∧ Q ((valV kvs k).getD z) H)) := by
  intro pins s σ H x xs v us Q I rx rs ⟨a, kvs, k, ex, e, q⟩
  subst ex
  cases rx
  rcases q with ⟨exs, q⟩ | ⟨z, exs, q⟩
  · subst exs
    obtain ⟨u, rfl, r1⟩ := rs.one
    exact d_get1 hu I (DGet.k e) r1 fun w' s' I' r' => ⟨_, H, I', r', q⟩
  · subst exs
    obtain ⟨u, w, rfl, r1, r2⟩ := rs.two
    exact d_get2 hu I (DGet.k e) r1 r2 fun w' s' I' r' => ⟨_, H, I', r', q⟩
theorem mt_dpop : MtR X "dict.pop" (fun x xs H Q => ∃ a kvs k v, x = .ref a ∧ xs = [kV k] ∧ H a = some (.dK kvs) ∧ valV kvs k = some v ∧ Q v (upd H a (.dK (dropK kvs k)))) := by
  intro pins s σ H x xs v us Q I rx rs ⟨a, kvs, k, z, ex, exs, e, hz, q⟩
  subst ex exs
  cases rx
  obtain ⟨u, rfl, r1⟩ := rs.one
  exact d_pop (more := []) I e r1 hz (.inl rfl) fun w' s' I' r' => ⟨_, _, I', r', q⟩
theorem meth_D (hK : U.K = X.K) (hu : X.A.units + 1 < cLine) : ∀ m : Mi, MtR X (miId m) (rMeth U m)
  | .lappend => by
    refine MtR.imp (mt_append (X := X)) fun x xs H Q ⟨ι, s, d, ds, hs, r1, r2, hp⟩ => ?_
    unfold mtD at hp
    split at hp <;> first
      | (exact hp.elim; done)
      | contradiction
      | (split at hp
         · rename_i es q
           split at hp
           · simp only [Rep] at r1
             obtain ⟨a, rfl, i⟩ := r1
             obtain ⟨v, rfl, h3⟩ := r2.one_of
             obtain ⟨vs, h1, h2⟩ := hs.at q i
             refine ⟨a, vs, v, rfl, rfl, h1, by rw [h2.length]; assumption, ?_⟩
             have z := lst_put hs q i h1 (h2.append (Reps.cons h3 Reps.nil))
             exact hp ι _ .non z.2 z.1 rep_non
           · exact hp.elim
         · exact hp.elim)
  | .sjoin => by
    refine MtR.imp (mt_join (X := X)) fun x xs H Q ⟨ι, s, d, ds, hs, r1, r2, hp⟩ => ?_
    unfold mtD at hp
    split at hp <;> first
      | (exact hp.elim; done)
      | contradiction
      | (split at hp
         · rename_i ys q
           simp only [Option.bind_eq_some_iff] at q
           obtain ⟨es, q1, q2⟩ := q
           split at hp
           · obtain ⟨v, rfl, h3⟩ := r2.one_of
             obtain ⟨a, vs, rfl, h1, h2⟩ := seq_sq hs q1 h3
             have e := strs_V h2 q2
             subst e
             refine ⟨_, a, ys, r1.str_of, rfl, ?_, by assumption, hp.val hs (rep_str _)⟩
             rcases h1 with h1 | h1
             · exact .inl (hK ▸ h1)
             · exact .inr (hK ▸ h1.sq)
           · exact hp.elim
         · exact hp.elim)
  | .lclear => by
    refine MtR.imp (mt_clear (X := X)) fun x xs H Q ⟨ι, s, d, ds, hs, r1, r2, hp⟩ => ?_
    unfold mtD at hp
    split at hp <;> first
      | (exact hp.elim; done)
      | contradiction
      | (split at hp
         · rename_i es q
           simp only [Rep] at r1
           obtain ⟨a, rfl, i⟩ := r1
           obtain ⟨vs, h1, h2⟩ := hs.at q i
           have z := lst_put hs q i h1 (es := []) (ws := []) Reps.nil
           exact ⟨a, vs, rfl, r2.zero_of, h1, hp ι _ .non z.2 z.1 rep_non⟩
         · exact hp.elim)
  | .dclear => by
    refine MtR.imp (mt_dclear (X := X)) fun x xs H Q ⟨ι, s, d, ds, hs, r1, r2, hp⟩ => ?_
    unfold mtD at hp
    split at hp <;> first
      | (exact hp.elim; done)
      | contradiction
      | (split at hp
         · rename_i es q
           simp only [Rep] at r1
           obtain ⟨a, rfl, i⟩ := r1
           obtain ⟨vs, h1, h2⟩ := hs.at q i
           have z := dct_put hs q i h1 (es := []) (ws := []) rfl
           exact ⟨a, vs, rfl, r2.zero_of, h1, hp ι _ .non z.2 z.1 rep_non⟩
         · exact hp.elim)
  | .dget => by
    refine MtR.imp (mt_dget (X := X) hu) fun x xs H Q ⟨ι, s, d, ds, hs, r1, r2, hp⟩ => ?_
    unfold mtD at hp
    split at hp <;> first
      | (exact hp.elim; done)
      | contradiction
      | (split at hp
         · rename_i kvs q
           split at hp
           · rename_i k ek
             simp only [Rep] at r1
             obtain ⟨a, rfl, i⟩ := r1
             obtain ⟨vs, h1, h2⟩ := hs.at q i
             first
               | (obtain ⟨v, rfl, h3⟩ := r2.one_of
                  refine ⟨a, vs, k, rfl, h1, .inl ⟨by rw [rep_key ek h3], ?_⟩⟩
                  rcases h2.get (k := k) with ⟨g1, g2⟩ | ⟨d', v', g1, g2, g3⟩
                  · rw [g1] at hp; rw [g2]; exact hp.val hs rep_non
                  · rw [g1] at hp; rw [g2]; exact hp.val hs g3)
               | (obtain ⟨v, w, rfl, h3, h4⟩ := r2.two_of
                  refine ⟨a, vs, k, rfl, h1, .inr ⟨w, by rw [rep_key ek h3], ?_⟩⟩
                  rcases h2.get (k := k) with ⟨g1, g2⟩ | ⟨d', v', g1, g2, g3⟩
                  · rw [g1] at hp; rw [g2]; exact hp.val hs h4
                  · rw [g1] at hp; rw [g2]; exact hp.val hs g3)
           · exact hp.elim
         · exact hp.elim)
  | .linsert => by
    refine MtR.imp (mt_insert (X := X)) fun x xs H Q ⟨ι, s, d, ds, hs, r1, r2, hp⟩ => ?_
    unfold mtD at hp
    split at hp <;> first
      | (exact hp.elim; done)
      | contradiction
      | (split at hp
         · rename_i es q
           split at hp
           · rename_i hb
             simp only [Rep] at r1
             obtain ⟨a, rfl, i⟩ := r1
             obtain ⟨v, w, rfl, h3, h4⟩ := r2.two_of
             obtain ⟨vs, h1, h2⟩ := hs.at q i
             refine ⟨a, vs, _, w, rfl, by rw [h3.int_of], h1, by rw [h2.length]; exact hb.1, hb.2.1, hb.2.2, ?_⟩
             exact hp ι _ .non (lst_put hs q i h1 (((h2.take _).append (Reps.cons h4 Reps.nil)).append (h2.drop _))).2 (lst_put hs q i h1 (((h2.take _).append (Reps.cons h4 Reps.nil)).append (h2.drop _))).1 rep_non
           · exact hp.elim
         · exact hp.elim)
  | .lpop => by
    refine MtR.imp (mt_pop (X := X)) fun x xs H Q ⟨ι, s, d, ds, hs, r1, r2, hp⟩ => ?_
    unfold mtD at hp
    split at hp <;> first
      | (exact hp.elim; done)
      | contradiction
      | (split at hp
         · rename_i es q
           split at hp
           · rename_i y ey
             simp only [Rep] at r1
             obtain ⟨a, rfl, i⟩ := r1
             obtain ⟨vs, h1, h2⟩ := hs.at q i
             obtain ⟨w, e1, e2⟩ := h2.get ey
             rw [← h2.length] at e1
             refine ⟨a, vs, w, rfl, r2.zero_of, h1, e1, ?_⟩
             have z := lst_put hs q i h1 h2.dropLast
             exact hp ι _ _ z.2 z.1 (e2.mono z.2.ex z.2.tups)
           · exact hp.elim
         · exact hp.elim)
  | .dpop => by
    refine MtR.imp (mt_dpop (X := X)) fun x xs H Q ⟨ι, s, d, ds, hs, r1, r2, hp⟩ => ?_
    unfold mtD at hp
    split at hp <;> first
      | (exact hp.elim; done)
      | contradiction
      | (split at hp
         · rename_i kvs q
           split at hp
           · rename_i k ek
             split at hp
             · rename_i d2 eg
               simp only [Rep] at r1
               obtain ⟨a, rfl, i⟩ := r1
               obtain ⟨vs, h1, h2⟩ := hs.at q i
               obtain ⟨v, rfl, h3⟩ := r2.one_of
               rcases h2.get (k := k) with ⟨g1, g2⟩ | ⟨d', v', g1, g2, g3⟩
               · rw [g1] at eg; cases eg
               · rw [g1] at eg
                 cases eg
                 refine ⟨a, vs, k, v', rfl, by rw [rep_key ek h3], h1, g2, ?_⟩
                 have z := dct_put hs q i h1 (h2.drop (k := k))
                 exact hp ι _ v' z.2 z.1 (g3.mono z.2.ex z.2.tups)
             · exact hp.elim
           · exact hp.elim
         · exact hp.elim)
  | .lextend => by
    refine MtR.imp (mt_extend (X := X)) fun x xs H Q ⟨ι, s, d, ds, hs, r1, r2, hp⟩ => ?_
    unfold mtD at hp
    split at hp <;> first
      | (exact hp.elim; done)
      | contradiction
      | (split at hp
         · rename_i es zs q q2
           split at hp
           · simp only [Rep] at r1
             obtain ⟨a, rfl, i⟩ := r1
             obtain ⟨v, rfl, h3⟩ := r2.one_of
             simp only [Rep] at h3
             obtain ⟨b, rfl, i2⟩ := h3
             obtain ⟨vs, h1, h2⟩ := hs.at q i
             obtain ⟨ws, g1, g2⟩ := hs.at q2 i2
             refine ⟨a, b, vs, ws, rfl, rfl, h1, g1, by rw [h2.length, g2.length]; assumption, ?_⟩
             have z := lst_put hs q i h1 (h2.append g2)
             exact hp ι _ .non z.2 z.1 rep_non
           · exact hp.elim
         · exact hp.elim)
theorem mSel_ty (hK : U.K = X.K) {ι : List Addr} {s : S} {H : Hp} (hs : RelS U ι s H) {m : Mf} {i : Mi} {d : D} {x : V} (r : Rep U.K ι H d x) (h : mSel m d s = some i) : miName i = mfName m ∧ tyV X.K (miTy i) x H := by
  cases d <;> simp only [mSel] at h <;> first
    | (cases h; done)
    | (cases r.str_of
       cases m <;> simp only [mSelS] at h <;> first
         | (cases h; done)
         | (cases h; exact ⟨rfl, rfl⟩))
    | (simp only [Rep] at r
       obtain ⟨a, rfl, j⟩ := r
       split at h
       · rename_i q
         obtain ⟨vs, h1, h2⟩ := hs.at q j
         cases m <;> simp only [mSelL] at h <;> first
           | (cases h; done)
           | (cases h; exact ⟨rfl, .inl ⟨rfl, vs, SqL.of h1⟩⟩)
       · rename_i q
         obtain ⟨vs, h1, h2⟩ := hs.at q j
         cases m <;> simp only [mSelD] at h <;> first
           | (cases h; done)
           | (cases h; exact ⟨rfl, .inr (.inr (.inl ⟨rfl, .inl ⟨vs, h1⟩⟩))⟩)
       · cases h)

/-! ### isinstance -/
def tyName : Ty → String
  | .int => "int" | .bool => "bool" | .str => "str" | .list => "list" | .tuple => "tuple" | .dict => "dict"
theorem isi_D {K : PySem.W.Frag} (hK : U.K = K) {ι : List Addr} {s : S} {H : Hp} (hs : RelS U ι s H) {t : Ty} {d : D} {x : V} {b : Bool} {s' : S} (r : Rep U.K ι H d x) (h : isiD t d s = .ok b s') :
    s' = s ∧ ∃ tv, TyX K H x tv ∧ PySem.W.kitOne K tv (.type (tyName t)) = some b := by
  cases d with
  | non => cases r.non_of; cases t <;> simp only [isiD, R.ok.injEq] at h <;> obtain ⟨rfl, rfl⟩ := h <;> exact ⟨rfl, _, .base .non, kit_ty (by decide +kernel)⟩
  | bl _ => cases r.bl_of; cases t <;> simp only [isiD, R.ok.injEq] at h <;> obtain ⟨rfl, rfl⟩ := h <;> exact ⟨rfl, _, .base (.bl _), kit_ty (by decide +kernel)⟩
  | int _ => cases r.int_of; cases t <;> simp only [isiD, R.ok.injEq] at h <;> obtain ⟨rfl, rfl⟩ := h <;> exact ⟨rfl, _, .base (.int _), kit_ty (by decide +kernel)⟩
  | str _ => cases r.str_of; cases t <;> simp only [isiD, R.ok.injEq] at h <;> obtain ⟨rfl, rfl⟩ := h <;> exact ⟨rfl, _, .base (.str _), kit_ty (by decide +kernel)⟩
  | tup ds =>
    simp only [Rep] at r
    obtain ⟨a, vs, rfl, h1, h2⟩ := r
    have ty : TyX K H (.ref a) (.type "tuple") := by
      rcases h1 with h1 | ⟨o, its, n, h1, h3, _⟩
      · exact .base (.tup h1)
      · exact .kTuple (hK ▸ h1) h3
    cases t <;> simp only [isiD, R.ok.injEq] at h <;> obtain ⟨rfl, rfl⟩ := h <;> exact ⟨rfl, _, ty, kit_ty (by decide +kernel)⟩
  | flst ds =>
    simp only [Rep] at r
    obtain ⟨a, vs, rfl, h1, h2⟩ := r
    have ty : TyX K H (.ref a) (.type "list") := by
      rcases h1 with ⟨o, h1⟩ | ⟨o, its, n, h1, h3, _⟩
      · exact .base (.frz h1)
      · exact .kList (hK ▸ h1) h3
    cases t <;> simp only [isiD, R.ok.injEq] at h <;> obtain ⟨rfl, rfl⟩ := h <;> exact ⟨rfl, _, ty, kit_ty (by decide +kernel)⟩
  | ref n =>
    simp only [Rep] at r
    obtain ⟨a, rfl, i⟩ := r
    have key : s' = s ∧ ((∃ ds, s[n]? = some (.lst ds) ∧ b = t.isList) ∨ ∃ kvs, s[n]? = some (.dct kvs) ∧ b = t.isDict) := by
      cases t <;> (simp only [isiD] at h; split at h <;> first
        | (cases h; done)
        | (obtain ⟨rfl, rfl⟩ := (R.ok.injEq _ _ _ _).mp h
           first
             | exact ⟨rfl, .inl ⟨_, by assumption, rfl⟩⟩
             | exact ⟨rfl, .inr ⟨_, by assumption, rfl⟩⟩))
    obtain ⟨rfl, ⟨ds, q, rfl⟩ | ⟨kvs, q, rfl⟩⟩ := key
    · obtain ⟨vs, h1, h2⟩ := hs.at q i
      have ty : TyX K H (.ref a) (.type "list") := .base (.lst h1)
      cases t <;> exact ⟨rfl, _, ty, kit_ty (by decide +kernel)⟩
    · obtain ⟨vs, h1, h2⟩ := hs.at q i
      have ty : TyX K H (.ref a) (.type "dict") := .base (.dK h1)
      cases t <;> exact ⟨rfl, _, ty, kit_ty (by decide +kernel)⟩

/-! ### stores -/
theorem psetOr {r r' : TSet} (h : PSet X r) (h' : PSet X r') : PSet X (fun o i v H Q => r o i v H Q ∨ r' o i v H Q) :=
  fun pins s σ H o i v ov iv u Q I ro ri rv q => q.elim (h pins s σ H o i v ov iv u Q I ro ri rv) (h' pins s σ H o i v ov iv u Q I ro ri rv)
theorem set_D (hu : X.A.units + 1 < cLine) : PSet X (fun o i v H Q => ∃ ι s d1 d2 d3 s', RelS U ι s H ∧ Rep U.K ι H d1 o ∧ Rep U.K ι H d2 i ∧ Rep U.K ι H d3 v ∧ setD d1 d2 d3 s = some s' ∧ ∀ H', Go ι H ι H' → RelS U ι s' H' → Q H') := by
  intro pins s σ H o i v ov iv u Q I ro ri rv ⟨ι, st, d1, d2, d3, s', hs, r1, r2, r3, e, q⟩
  refine psetOr (set_list (X := X)) (set_dict hu) pins s σ H o i v ov iv u Q I ro ri rv ?_
  unfold setD at e
  split at e
  · rename_i n _ _ _
    simp only [Rep] at r1
    obtain ⟨a, rfl, ia⟩ := r1
    split at e
    · rename_i ds q1
      split at e
      · rename_i k
        split at e
        · rename_i j q2
          cases e
          obtain ⟨vs, h1, h2⟩ := hs.at q1 ia
          refine .inl ⟨a, vs, k, j, rfl, r2.int_of, h1, by rw [h2.length]; exact q2, ?_⟩
          have z := lst_put hs q1 ia h1 (h2.set (i := j) r3)
          exact q _ z.2 z.1
        · cases e
      · cases e
    · rename_i kvs q1
      split at e
      · rename_i k ek
        split at e
        · rename_i hl
          cases e
          obtain ⟨vs, h1, h2⟩ := hs.at q1 ia
          have z := dct_put hs q1 ia h1 (h2.put (k := k) r3)
          refine .inr ⟨a, _, rfl, ?_, q _ z.2 z.1⟩
          rw [rep_key ek r2]
          exact DPut.k h1 (by rw [h2.length]; exact hl)
        · cases e
      · cases e
    · cases e
  · cases e
end

/-! ### sources -/
def ItOk (U : Su) (ι : List Addr) (H : Hp) (src : Src) (J : It) : Prop := ∀ ι' s H', Go ι H ι' H' → RelS U ι' s H' → src.ok s →
  ∀ i : Nat, (∀ d, src.items[i]? = some d → J.go i H' ∧ ∀ x H2, J.yld i H' x H2 → Go ι' H' ι' H2 ∧ RelS U ι' s H2 ∧ Rep U.K ι' H2 d x) ∧ (src.items.length ≤ i → J.stop i H')
/-- a walk that makes nothing -/
def ItOk0 (U : Su) (ι : List Addr) (H : Hp) (src : Src) (J : It) : Prop := ∀ ι' s H', Go ι H ι' H' → RelS U ι' s H' → src.ok s →
  ∀ i : Nat, (∀ d, src.items[i]? = some d → J.go i H' ∧ ∀ x H2, J.yld i H' x H2 → H2 = H' ∧ Rep U.K ι' H' d x) ∧ (src.items.length ≤ i → J.stop i H')
section
variable {X : Cx} {U : Su} {ι : List Addr} {H : Hp} {s : S}
theorem ItOk0.ok {U : Su} {ι : List Addr} {H : Hp} {src : Src} {J : It} (h : ItOk0 U ι H src J) : ItOk U ι H src J := fun ι' s H' go hs ok i => ⟨fun d e => ⟨((h ι' s H' go hs ok i).1 d e).1, fun x H2 y => by
  obtain ⟨rfl, r⟩ := ((h ι' s H' go hs ok i).1 d e).2 x H2 y
  exact ⟨Go.refl _ _, hs, r⟩⟩, (h ι' s H' go hs ok i).2⟩
theorem it_list (hK : U.K = X.K) {n : Nat} {a : Addr} {ds : List D} (i : ι[n]? = some a) : ItOk U ι H (.lst n ds) (Itl X.K a) := by
  refine ItOk0.ok ?_
  intro ι' s' H' go hs ok k
  obtain ⟨vs, h1, h2⟩ := lst_sq hs (show lstAt s' n = some ds from ok) (go.ex.at i)
  rw [hK] at h1
  refine ⟨fun d e => ?_, fun z => ⟨vs, h1, by rw [h2.length]; exact z⟩⟩
  obtain ⟨v, g1, g2⟩ := h2.get e
  exact ⟨⟨vs, v, h1, g1⟩, fun x H2 y => ⟨y.1, by
    have := y.2 vs h1
    rw [g1] at this
    cases this
    exact g2⟩⟩
theorem it_keys {n : Nat} {a : Addr} {o : Obj} {vs : List (Key × V)} {kvs : List (Key × D)} (i : ι[n]? = some a) (h1 : H a = some (.frz o (.dK vs))) : ItOk U ι H (.dk n kvs) (Itk a o vs) := by
  refine ItOk0.ok ?_
  intro ι' s' H' go hs ok k
  obtain ⟨od, ws, h3, h4⟩ := hs.at (show s'[n]? = some (.frd kvs) from ok) (go.ex.at i)
  have h2 := go.fz _ _ _ h1
  rw [h2] at h3
  cases h3
  have key : ∀ (kvs : List (Key × D)) (vs : List (Key × V)), RepF U.K ι' H' kvs vs → vs.length = kvs.length ∧ ∀ (k : Nat) (q : Key × D), kvs[k]? = some q → ∃ v, vs[k]? = some (q.1, v) := by
    intro kvs
    induction kvs with
    | nil => intro vs h; cases h; exact ⟨rfl, fun k q e => by simp at e⟩
    | cons p kvs ih =>
      intro vs h
      obtain ⟨v, ws, rfl, _, h6⟩ := h
      obtain ⟨e1, e2⟩ := ih ws h6
      refine ⟨by simp [e1], fun k q e => ?_⟩
      cases k with
      | zero => simp at e; subst e; exact ⟨v, rfl⟩
      | succ k => simpa using e2 k q (by simpa using e)
  obtain ⟨e1, e2⟩ := key _ _ h4
  refine ⟨fun d e => ?_, fun z => ⟨h2, by rw [e1]; simpa [Src.items] using z⟩⟩
  simp only [Src.items, List.getElem?_map, Option.map_eq_some_iff] at e
  obtain ⟨q, e3, rfl⟩ := e
  obtain ⟨v, e4⟩ := e2 k q e3
  refine ⟨⟨h2, (List.getElem?_eq_some_iff.mp e4).1⟩, fun x H2 y => ⟨y.1, ?_⟩⟩
  obtain ⟨kk, v2, e5, rfl⟩ := y.2
  rw [e4] at e5
  cases e5
  cases q.1 with
  | inl i => exact rep_int _
  | inr z => exact rep_str _
theorem it_items {n : Nat} {a : Addr} {o : Obj} {vs : List (Key × V)} {kvs : List (Key × D)} (i : ι[n]? = some a) (h1 : H a = some (.frz o (.dK vs))) : ItOk U ι H (.dki n kvs) (Iti a o vs) := by
  intro ι' s' H' go hs ok k
  obtain ⟨od, ws, h3, h4⟩ := hs.at (show s'[n]? = some (.frd kvs) from ok) (go.ex.at i)
  have h2 := go.fz _ _ _ h1
  rw [h2] at h3
  cases h3
  have key : ∀ (kvs : List (Key × D)) (vs : List (Key × V)), RepF U.K ι' H' kvs vs → vs.length = kvs.length ∧ ∀ (k : Nat) (q : Key × D), kvs[k]? = some q → ∃ v, vs[k]? = some (q.1, v) ∧ Rep U.K ι' H' q.2 v := by
    intro kvs
    induction kvs with
    | nil => intro vs h; cases h; exact ⟨rfl, fun k q e => by simp at e⟩
    | cons p kvs ih =>
      intro vs h
      obtain ⟨v, ws, rfl, h5, h6⟩ := h
      obtain ⟨e1, e2⟩ := ih ws h6
      refine ⟨by simp [e1], fun k q e => ?_⟩
      cases k with
      | zero => simp at e; subst e; exact ⟨v, rfl, h5⟩
      | succ k => simpa using e2 k q (by simpa using e)
  obtain ⟨e1, e2⟩ := key _ _ h4
  refine ⟨fun d e => ?_, fun z => ⟨h2, by rw [e1]; simpa [Src.items] using z⟩⟩
  simp only [Src.items, List.getElem?_map, Option.map_eq_some_iff] at e
  obtain ⟨q, e3, rfl⟩ := e
  obtain ⟨v, e4, e6⟩ := e2 k q e3
  refine ⟨⟨h2, (List.getElem?_eq_some_iff.mp e4).1⟩, fun x H2 y => ?_⟩
  obtain ⟨T, kk, v2, e5, rfl, nT, rfl⟩ := y
  rw [e4] at e5
  cases e5
  have sm : Same H' (upd H' T (.tup [kV q.1, v])) := same_new nT
  refine ⟨Go.same sm, hs.same sm, ?_⟩
  simp only [Rep]
  exact ⟨T, _, rfl, .inl upd_same, Reps.cons (rep_dKey _) (Reps.cons (e6.mono (Ext.refl _) (Same.kept sm)) Reps.nil)⟩
theorem it_tup (hK : U.K = X.K) {a : Addr} {ds : List D} {vs : List V} (h1 : TupAt U.K H a vs) (h2 : Reps U.K ι H ds vs) : ItOk U ι H (.vals ds) (Itt X.K a) := by
  refine ItOk0.ok ?_
  intro ι' s' H' go hs ok k
  have g := h2.mono go.ex go.tups
  have g1 := (h1.kept go.tups).sq
  rw [hK] at g1
  refine ⟨fun d e => ?_, fun z => ⟨vs, g1, by rw [h2.length]; exact z⟩⟩
  obtain ⟨v, g3, g2⟩ := g.get e
  exact ⟨⟨vs, v, g1, g3⟩, fun x H2 y => ⟨y.1, by
    have := y.2 vs g1
    rw [g3] at this
    cases this
    exact g2⟩⟩
theorem it_flst (hK : U.K = X.K) {a : Addr} {ds : List D} {vs : List V} (h1 : FroAt U.K H a vs) (h2 : Reps U.K ι H ds vs) : ItOk U ι H (.vals ds) (Itl X.K a) := by
  refine ItOk0.ok ?_
  intro ι' s' H' go hs ok k
  have g := h2.mono go.ex go.tups
  have g1 := (h1.kept go.tups).sq
  rw [hK] at g1
  refine ⟨fun d e => ?_, fun z => ⟨vs, g1, by rw [h2.length]; exact z⟩⟩
  obtain ⟨v, g3, g2⟩ := g.get e
  exact ⟨⟨vs, v, g1, g3⟩, fun x H2 y => ⟨y.1, by
    have := y.2 vs g1
    rw [g3] at this
    cases this
    exact g2⟩⟩
theorem it_str {x : Str} : ItOk U ι H (.vals (chars x)) (Its x) := by
  refine ItOk0.ok ?_
  intro ι' s' H' go hs ok k
  refine ⟨fun d e => ?_, fun z => by
    have : (chars x).length ≤ k := z
    simp only [chars, List.length_map, Array.length_toList] at this
    exact this⟩
  replace e : (chars x)[k]? = some d := e
  simp only [chars, List.getElem?_map, Option.map_eq_some_iff, Array.getElem?_toList] at e
  obtain ⟨c, e, rfl⟩ := e
  refine ⟨(Array.getElem?_eq_some_iff.mp e).1, fun v H2 y => ⟨y.1, ?_⟩⟩
  obtain ⟨c', q1, rfl⟩ := y.2
  rw [e] at q1
  cases q1
  exact rep_str _
theorem it_rng {lo : Int} {n : Nat} : ItOk U ι H (.vals (rngD lo n)) (Itr lo n) := by
  refine ItOk0.ok ?_
  intro ι' s' H' go hs ok k
  refine ⟨fun d e => ?_, fun z => by
    have : (rngD lo n).length ≤ k := z
    simp only [rngD, List.length_map, List.length_range] at this
    exact this⟩
  replace e : (rngD lo n)[k]? = some d := e
  simp only [rngD, List.getElem?_map, Option.map_eq_some_iff] at e
  obtain ⟨c, e, rfl⟩ := e
  obtain ⟨e1, e2⟩ := List.getElem?_eq_some_iff.mp e
  simp at e1 e2
  subst e2
  exact ⟨e1, fun v H2 y => ⟨y.1, by rw [y.2]; exact rep_int _⟩⟩

/-! ### targets -/
def setV : List Nat → List V → L2.St → L2.St
  | i :: is, v :: vs, σ => setV is vs (σ.set i (some v))
  | _, _, σ => σ
def gT (K : PySem.W.Frag) : Tv → TG
  | .var i => gName i
  | .tup is => fun v σ H Q => ∃ a vs, v = .ref a ∧ (SqT K H a vs ∨ SqL K H a vs) ∧ vs.length = is.length ∧ Q (setV is vs σ) H
def tvIs : Tv → List Nat
  | .var i => [i]
  | .tup is => is
theorem setAll_F {ι : List Addr} {H : Hp} : ∀ {is : List Nat} {ds : List D} {vs : List V} {τ : Fr} {σ : L2.St}, (∀ i ∈ is, U.exi ≠ some i) → RelF U ι H τ σ → Reps U.K ι H ds vs → RelF U ι H (setAll is ds τ) (setV is vs σ)
  | [], ds, vs, τ, σ, hx, h, r => by simpa [setAll, setV] using h
  | i :: is, [], vs, τ, σ, hx, h, r => by simp only [Reps] at r; subst r; simpa [setAll, setV] using h
  | i :: is, d :: ds, vs, τ, σ, hx, h, r => by
    simp only [Reps] at r
    obtain ⟨v, ws, rfl, h1, h2⟩ := r
    show RelF U ι H (setAll is ds (τ.set i (some d))) (setV is ws (σ.set i (some v)))
    exact setAll_F (fun j hj => hx j (by simp [hj])) (h.set (hx i (by simp)) h1) h2
theorem wipe_set {vs : List Nat} {i : Nat} {σ : L2.St} {x : Option V} (h : i ∈ vs) : wipe (σ.set i x) vs = wipe σ vs := by
  induction vs with
  | nil => cases h
  | cons v vs ih =>
    unfold wipe
    by_cases hi : i = v
    · subst hi
      by_cases hm : i ∈ vs
      · rw [ih hm]
      · have : wipe (σ.set i x) vs = (wipe σ vs).set i x := by
          clear ih h
          induction vs with
          | nil => rfl
          | cons w ws ih2 =>
            have h1 : i ≠ w := fun z => hm (by simp [z])
            have h2 : i ∉ ws := fun z => hm (by simp [z])
            unfold wipe
            rw [ih2 h2, List.set_comm _ _ h1]
        rw [this, List.set_set]
    · have hm : i ∈ vs := by
        rcases List.mem_cons.mp h with z | z
        · exact absurd z hi
        · exact z
      rw [ih hm]
theorem wipe_wipe {σ : L2.St} : ∀ vs : List Nat, wipe (wipe σ vs) vs = wipe σ vs
  | [] => rfl
  | v :: vs => by
    show wipe ((wipe σ vs).set v none) (v :: vs) = (wipe σ vs).set v none
    rw [wipe_set (List.mem_cons_self)]
    show (wipe (wipe σ vs) vs).set v none = _
    rw [wipe_wipe vs]
theorem wipe_setV {vs : List Nat} : ∀ {is : List Nat} {xs : List V} {σ : L2.St}, (∀ i ∈ is, i ∈ vs) → wipe (setV is xs σ) vs = wipe σ vs
  | [], xs, σ, h => by simp [setV]
  | i :: is, [], σ, h => by simp [setV]
  | i :: is, x :: xs, σ, h => by
    unfold setV
    rw [wipe_setV fun j hj => h j (by simp [hj])]
    exact wipe_set (h i (by simp))
/-- the value handed to a target -/
theorem gT_ok {ι : List Addr} {H : Hp} {st : S} (hK : U.K = X.K) (hs : RelS U ι st H) {t : Tv} (hx : ∀ i ∈ tvIs t, U.exi ≠ some i) {d : D} {v : V} {τ τ' : Fr} {σ : L2.St} {Q : L2.St → Hp → Prop} (hf : RelF U ι H τ σ) (r : Rep U.K ι H d v) (e : asgV t d st τ = some τ')
    (h : ∀ σ', RelF U ι H τ' σ' → (∀ vs, (∀ i ∈ tvIs t, i ∈ vs) → wipe σ' vs = wipe σ vs) → Q σ' H) : gT X.K t v σ H Q := by
  cases t with
  | var i =>
    cases e
    exact h _ (hf.set (hx i (by simp [tvIs])) r) fun vs hv => wipe_set (hv i (by simp [tvIs]))
  | tup is =>
    cases d <;> simp only [asgV] at e <;> first
      | (cases e; done)
      | (split at e
         · rename_i hl
           cases e
           simp only [Rep] at r
           obtain ⟨a, vs, rfl, h1, h2⟩ := r
           exact ⟨a, vs, rfl, .inl (hK ▸ h1.sq), by rw [h2.length, hl], h _ (setAll_F hx hf h2) fun ws hw => wipe_setV hw⟩
         · cases e)
      | (split at e
         · rename_i ds q
           split at e
           · rename_i hl
             cases e
             simp only [Rep] at r
             obtain ⟨a, rfl, j⟩ := r
             obtain ⟨vs, h1, h2⟩ := lst_sq hs q j
             exact ⟨a, vs, rfl, .inr (hK ▸ h1), by rw [h2.length, hl], h _ (setAll_F hx hf h2) fun ws hw => wipe_setV hw⟩
           · cases e
         · cases e)
theorem wipeF_F {ι : List Addr} {H : Hp} {τ : Fr} {σ : L2.St} (hx : U.exi = none) (h : RelF U ι H τ σ) : ∀ vs, RelF U ι H (wipeF τ vs) (wipe σ vs)
  | [] => h
  | v :: vs => by
    have g := wipeF_F hx h vs
    unfold wipeF wipe
    refine ⟨by simp [g.1], fun i d e => ?_, fun i hi => by rw [hx] at hi; cases hi⟩
    by_cases hi : v = i
    · subst hi
      have hl : v < (wipeF τ vs).length := by have := (List.getElem?_eq_some_iff.mp e).1; simpa using this
      rw [List.getElem?_set_self hl] at e
      cases e
    · rw [List.getElem?_set_ne hi] at e ⊢
      exact g.2.1 i d e
end
end G

set_option Elab.async false
set_option linter.all false
set_option maxRecDepth 100000
set_option autoImplicit false
set_option maxHeartbeats 1000000
/-! G5: which expression of the text is which plain expression; expressions do what the plain ones do. -/
namespace G
open PySem PySem.Spec PyProof.Rows L2

/-! ### the readings by plain runs -/
def rdE (U : Su) (W : WX) (m : Fr → S → R D) : TE := fun σ H Q => ∃ ι s τ, RelS U ι s H ∧ RelF U ι H τ σ ∧ Post U (RD U) W σ ι H (m τ s) Q
def rdT (U : Su) (W : WX) (m : Fr → S → R Bool) : TT := fun σ H Q => ∃ ι s τ, RelS U ι s H ∧ RelF U ι H τ σ ∧ Post U RB W σ ι H (m τ s) Q
def rdA (U : Su) (W : WX) (m : Fr → S → R (List D)) : TA := fun σ H Q => ∃ ι s τ, RelS U ι s H ∧ RelF U ι H τ σ ∧ Post U (RDs U) W σ ι H (m τ s) Q
section
variable {U : Su} {W : WX} {σ : L2.St} {ι ι' : List Addr} {H H' : Hp}
/-- a run, then another thing that holds behind it -/
theorem Post.bindF {α β γ δ : Type} {rel : List Addr → Hp → α → β → Prop} {rel' : List Addr → Hp → γ → δ → Prop} {r : R α} {f : α → S → R γ} {τ : Fr} {Q : δ → Hp → Prop} (hf : RelF U ι H τ σ) (h : Post U rel' W σ ι H (r.bind f) Q) :
    Post U rel W σ ι H r (fun v H1 => ∃ ι1 s1 d, RelS U ι1 s1 H1 ∧ RelF U ι1 H1 τ σ ∧ rel ι1 H1 d v ∧ Go ι H ι1 H1 ∧ Post U rel' W σ ι1 H1 (f d s1) Q) :=
  (Post.bind h).imp fun v H1 ⟨ι1, s1, d, h1, h2, h3, h4⟩ => ⟨ι1, s1, d, h1, hf.mono h3.ex h3.tups, h2, h3, h4⟩
theorem Post.p {r : R D} {Q : V → Hp → Prop} (h : Post U (RD U) W σ ι H r Q) : PostP U ι H r Q := by
  cases r with
  | ok d s => exact h
  | exc c fs s => exact fun _ _ _ _ _ _ => True.intro
  | bad => exact h
theorem Post.pb {r : R Bool} {Q : Bool → Hp → Prop} (h : Post U RB W σ ι H r Q) : PostB U ι H r Q := by
  cases r with
  | ok d s => exact h
  | exc c fs s => exact fun _ _ _ _ _ _ => True.intro
  | bad => exact h
/-- a Bool run as a value -/
theorem Post.bv {W' : WX} {σ' : L2.St} {r : R Bool} {Q : V → Hp → Prop} (h : Post U (RD U) W σ ι H (r.bind fun b s => .ok (.bl b) s) Q) : Post U RB W σ ι H r (fun b H1 => Q (.bl b) H1) := by
  cases r with
  | ok d s => exact fun ι2 H2 b g q1 q2 => by rw [show b = d from q2]; exact h ι2 H2 (.bl d) g q1 (rep_bl _)
  | exc c fs s => exact h
  | bad => exact h
theorem Post.vb {r : R Bool} {Q : Bool → Hp → Prop} (h : Post U RB W σ ι H r Q) : PostP U ι H (r.bind fun b s => .ok (.bl b) s) (fun x H1 => ∃ k, x = .bl k ∧ Q k H1) := by
  cases r with
  | ok d s => exact fun ι2 H2 x g q1 q2 => ⟨d, q2.bl_of, h ι2 H2 d g q1 rfl⟩
  | exc c fs s => exact fun _ _ _ _ _ _ => True.intro
  | bad => exact h
theorem Post.calm {α β : Type} {rel : List Addr → Hp → α → β → Prop} {W' : WX} {σ' : L2.St} {r : R α} {Q : β → Hp → Prop} (h : Post U rel W σ ι H r.calm Q) : Post U rel W' σ' ι H r Q := by
  cases r with
  | ok d s => exact h
  | exc c fs s => exact False.elim h
  | bad => exact h
end
theorem _root_.L2.PE.imp {X : Cx} {e : Expr} {t t' : TE} (h : PE X e t) (i : ∀ σ H Q, t' σ H Q → t σ H Q) : PE X e t' := ⟨fun pins s σ H Q I q => h.run pins s σ H Q I (i _ _ _ q)⟩
theorem _root_.L2.PT.imp {X : Cx} {e : Expr} {t t' : TT} (h : PT X e t) (i : ∀ σ H Q, t' σ H Q → t σ H Q) : PT X e t' := ⟨fun pins s σ H Q I q => h.run pins s σ H Q I (i _ _ _ q)⟩
theorem _root_.L2.PW.imp {X : Cx} {e : Expr} {t t' : TT} (h : PW X e t) (i : ∀ σ H Q, t' σ H Q → t σ H Q) : PW X e t' := ⟨fun wh pins s σ H Q I q => h.run wh pins s σ H Q I (i _ _ _ q)⟩
theorem _root_.L2.PA.imp {X : Cx} {e : List Expr} {t t' : TA} (h : PA X e t) (i : ∀ σ H Q, t' σ H Q → t σ H Q) : PA X e t' := ⟨fun p pins s σ H Q I q => h.run p pins s σ H Q I (i _ _ _ q)⟩
theorem _root_.L2.PI.imp {X : Cx} {tg e : Expr} {t t' : TI} (h : PI X tg e t) (i : ∀ σ H Q, t' σ H Q → t σ H Q) : PI X tg e t' := ⟨fun pins s σ H Q I q => h.run pins s σ H Q I (i _ _ _ q)⟩
theorem _root_.L2.PI.or {X : Cx} {tg e : Expr} {t t' : TI} (h : PI X tg e t) (h' : PI X tg e t') : PI X tg e (fun σ H R => t σ H R ∨ t' σ H R) :=
  ⟨fun pins s σ H Q I q => q.elim (h.run pins s σ H Q I) (h'.run pins s σ H Q I)⟩

/-! ### the check -/
structure Ck where
  N : List Str
  fn : List (Nat × Str)
  gn : List (Nat × Str)
  cls : List Str
  ecl : List Str
  calm : Bool
  exi : Option Nat
def visB (sc : Scope) (x : Str) : Bool := match sc.names.lookup x with
  | some .local => true | some .cell => true | some .free => true | _ => false
def locB (sc : Scope) (x : Str) : Bool := match sc.names.lookup x with
  | some .local => true | some .cell => true | _ => false
def glB (sc : Scope) (x : Str) : Bool := match sc.names.lookup x with
  | some .globalImplicit => true | _ => false
def nmB (x : Str) : Bool := !(x == ("__debug__" : Str)) && !(x == ("__classdict__" : Str)) && !decide (x = "__name__")
theorem visB_ok {sc : Scope} {x : Str} (h : visB sc x = true) : Vis sc x := by
  unfold visB at h
  split at h <;> first
    | exact .inl (by assumption)
    | exact .inr (.inl (by assumption))
    | exact .inr (.inr (by assumption))
    | cases h
theorem locB_ok {sc : Scope} {x : Str} (h : locB sc x = true) : Loc sc x := by
  unfold locB at h
  split at h <;> first
    | exact .inl (by assumption)
    | exact .inr (by assumption)
    | cases h
theorem glB_ok {X : Cx} {x : Str} (h : glB X.env.scope x = true) : Gl X x := by
  unfold glB at h
  split at h
  · assumption
  · cases h
theorem nmB_ok {x : Str} (h : nmB x = true) : (x == ("__debug__" : Str)) = false ∧ (x == ("__classdict__" : Str)) = false ∧ x ≠ "__name__" := by
  unfold nmB at h
  simp only [Bool.and_eq_true, Bool.not_eq_true', decide_eq_false_iff_not] at h
  exact ⟨h.1.1, h.1.2, h.2⟩
def notStar : Expr → Bool
  | .Starred _ _ => false
  | _ => true
theorem star_cons {e : Expr} {es : List Expr} {env : Env} (h : notStar e = true) : starEach (e :: es) env = (false, eval e env) :: starEach es env := by
  cases e <;> first | rfl | cases h
def notSlice : Expr → Bool
  | .Slice _ _ _ _ => false
  | _ => true
theorem plainIx {e : Expr} (h : notSlice e = true) : PlainIx e := by
  intro o i
  cases e <;> first | rfl | cases h
def baseB : Expr → Bool
  | .Call (.Name _ _) [] [] _ => false
  | _ => true
theorem base_ok {e : Expr} {n : Str} {env : Env} {t : Sem Value} (h : baseB e = true) : attributeBase e n env t = t := by
  unfold attributeBase
  split
  · cases h
  · rfl
def notSet : Expr → Bool
  | .Set _ _ _ => false
  | _ => true
theorem fold_ok {e : Expr} {env : Env} (h : notSet e = true) (x : Value) : foldedSetIterable e env x = pure x := by
  cases e <;> first | rfl | cases h
/-- an expression that is tested by its value -/
def byVal : Expr → Bool
  | .UnaryOp .Not _ _ => false
  | .BoolOp _ _ _ => false
  | .IfExp _ _ _ _ => false
  | .Compare _ _ _ _ => false
  | _ => true
theorem byVal_ok {e : Expr} {env : Env} (h : byVal e = true) (whole : Sem Value) : isTrue e env whole = (do let v ← whole; standAt e.pos; holding [v] (truthy v)) := by
  cases e <;> first
    | rfl
    | cases h
    | (rename_i op _ _; cases op <;> first | rfl | cases h)
def bopOf : Bop → Operator
  | .add => .Add | .sub => .Sub | .mul => .Mult | .fdiv => .FloorDiv | .mod => .Mod | .pow => .Pow
def tvOk (N : List Str) (sc : Scope) : Tv → Expr → Bool
  | .var i, x => (match x with
    | .Name n _ => decide (N[i]? = some n) && locB sc n
    | _ => false)
  | .tup is, x => (match x with
    | .Tuple xs _ _ => decide (is.length = xs.length) && (is.zip xs).all (fun p => match p.2 with
      | .Name n _ => decide (N[p.1]? = some n) && locB sc n
      | _ => false)
    | _ => false)
def cstOk : Cst → Const → Bool
  | .non, .none => true
  | .bl b, .bool b' => b == b'
  | .int i, .int j => decide (i = j)
  | .str s, .str s' => decide (s = s')
  | _, _ => false
mutual
def okE (C : Ck) : Ex → Scope → Expr → Bool
  | .nop, _, _ => false
  | .var i, sc, x => (match x with
    | .Name n _ => decide (C.N[i]? = some n) && visB sc n && nmB n
    | _ => false)
  | .cst c, _, x => (match x with
    | .Constant k _ _ => cstOk c k
    | _ => false)
  | .glob i, sc, x => (match x with
    | .Name n _ => decide (C.gn.lookup i = some n) && glB sc n && nmB n
    | _ => false)
  | .bin o a b, sc, x => (match x with
    | .BinOp l op r _ => decide (op = bopOf o) && okE C a sc l && okE C b sc r
    | _ => false)
  | .neg a, sc, x => (match x with
    | .UnaryOp .USub l _ => okE C a sc l
    | _ => false)
  | .not a, sc, x => (match x with
    | .UnaryOp .Not l _ => okE C a sc l
    | _ => false)
  | .and a b, sc, x => (match x with
    | .BoolOp .And (p :: q :: r) pos => okE C a sc p && (match r with
      | [] => okE C b sc q
      | _ :: _ => okE C b sc (.BoolOp .And (q :: r) pos))
    | _ => false)
  | .or a b, sc, x => (match x with
    | .BoolOp .Or (p :: q :: r) pos => okE C a sc p && (match r with
      | [] => okE C b sc q
      | _ :: _ => okE C b sc (.BoolOp .Or (q :: r) pos))
    | _ => false)
  | .cmp o a b, sc, x => (match x with
    | .Compare l [op] [r] _ => decide (op = copOf o) && okE C a sc l && okE C b sc r && !behindInMarks op r
    | _ => false)
  | .cmp2 o o' a b c, sc, x => (match x with
    | .Compare l [op, op'] [m, r] _ => decide (op = copOf o) && decide (op' = copOf o') && okE C a sc l && okE C b sc m && okE C c sc r && !lastMarks [op, op'] [m, r]
    | _ => false)
  | .ife c a b, sc, x => (match x with
    | .IfExp t p q _ => okE C c sc t && okE C a sc p && okE C b sc q
    | _ => false)
  | .tup es, sc, x => (match x with
    | .Tuple xs _ _ => okEs C es sc xs && decide (xs.length ≤ 1000)
    | _ => false)
  | .lst es, sc, x => (match x with
    | .List xs _ => okEs C es sc xs && decide (xs.length ≤ 1000)
    | _ => false)
  | .ix a i, sc, x => (match x with
    | .Subscript v sl _ => okE C a sc v && okE C i sc sl && notSlice sl
    | _ => false)
  | .sl a lo hi, sc, x => (match x with
    | .Subscript v (.Slice l h none _) _ => okE C a sc v && (match l with | none => lo.isNop | some l => !lo.isNop && okE C lo sc l) && (match h with | none => hi.isNop | some h => !hi.isNop && okE C hi sc h)
    | _ => false)
  | .call f es, sc, x => (match x with
    | .Call (.Name n _) ys [] _ => C.calm && decide (C.fn.lookup f = some n) && glB sc n && nmB n && okEs C es sc ys
    | _ => false)
  | .blt b es, sc, x => (match x with
    | .Call (.Name n _) (y :: ys) [] _ => C.calm && decide (n = bfName b) && glB sc n && nmB n && okEs C es sc (y :: ys)
    | _ => false)
  | .meth m o es, sc, x => (match x with
    | .Call (.Attribute v at_ apos) ys [] pos => decide (at_ = mfName m) && okE C o sc v && okEs C es sc ys && baseB v && (apos.endLine == pos.line) && decide (ys.length < 20)
    | _ => false)
  | .lrg a, sc, x => (match x with
    | .Call (.Name n _) [.Call (.Name r _) [y] [] _] [] _ => C.calm && decide (n = "list") && decide (r = "range") && glB sc n && glB sc r && notStar y && okE C a sc y
    | _ => false)
  | .lrv a, sc, x => (match x with
    | .Call (.Name n _) [.Call (.Name r _) [y] [] _] [] _ => C.calm && decide (n = "list") && decide (r = "reversed") && glB sc n && glB sc r && notStar y && okE C a sc y
    | _ => false)
  | .oeq a b, sc, x => (match x with
    | .Compare l [op] [r] _ => C.calm && decide (op = copOf .eq) && okE C a sc l && okE C b sc r && !behindInMarks op r
    | _ => false)
  | .set0, sc, x => (match x with
    | .Call (.Name n _) [] [] _ => C.calm && decide (n = "set") && glB sc n
    | _ => false)
  | .rin neg a b, sc, x => (match x with
    | .Compare l [op] [r] _ => C.calm && decide (op = if neg then .NotIn else .In) && okE C a sc l && okE C b sc r && !behindInMarks op r
    | _ => false)
  | .sadd o a, sc, x => (match x with
    | .Call (.Attribute v at_ apos) [y] [] pos => C.calm && decide (at_ = "add") && okE C o sc v && okE C a sc y && notStar y && baseB v && (apos.endLine == pos.line)
    | _ => false)
  | .srk f a, sc, x => (match x with
    | .Call (.Name n _) [y] [⟨some kn, .Name fn _, _⟩] _ => C.calm && decide (n = "sorted") && glB sc n && decide (kn = "key") && decide (C.fn.lookup f = some fn) && glB sc fn && nmB fn && notStar y && okE C a sc y
    | _ => false)
  | .dct, _, x => (match x with
    | .Dict [] [] _ => true
    | _ => false)
  | .fld a f, sc, x => (match x with
    | .Attribute v f' _ => C.calm && decide (f' = f) && okE C a sc v && baseB v
    | _ => false)
  | .mc m o es, sc, x => (match x with
    | .Call (.Attribute v at_ apos) ys [] pos => C.calm && decide (at_ = m) && okE C o sc v && okEs C es sc ys && baseB v && (apos.endLine == pos.line) && decide (ys.length < 20)
    | _ => false)
  | .mk c es, sc, x => (match x with
    | .Call (.Name n _) (y :: ys) [] _ => C.calm && decide (n = c) && C.cls.contains c && glB sc n && nmB n && okEs C es sc (y :: ys)
    | _ => false)
  | .isc a c, sc, x => (match x with
    | .Call (.Name n _) [y, .Name tn _] [] _ => C.calm && decide (n = "isinstance") && glB sc n && nmB n && decide (tn = c) && C.cls.contains c && glB sc tn && nmB tn && okE C a sc y && notStar y
    | _ => false)
  | .efld i f, sc, x => (match x with
    | .Attribute (.Name n _) f' _ => !C.calm && decide (f' = f) && decide (C.N[i]? = some n) && visB sc n && nmB n
    | _ => false)
  | .eis i c, sc, x => (match x with
    | .Call (.Name n _) [.Name y _, .Name tn _] [] _ => !C.calm && decide (n = "isinstance") && glB sc n && nmB n && decide (tn = c) && glB sc tn && nmB tn && decide (C.N[i]? = some y) && visB sc y && nmB y
    | _ => false)
  | .dc kx vx t k its own, sc, x => (match x with
    | .DictComp ek ev [⟨tg, it, [], asy⟩] scope _ => C.calm && decide (asy = 0) && blkC C.N sc scope own && tvOk C.N scope t tg && (tvIs t).all (fun i => (own.map (·.2)).contains i) && notSet it && okE C kx (relS scope sc) ek && okE C vx (relS scope sc) ev
      && (match k with
        | .seq => (match its with | .cons i .nil => okE C i sc it | _ => false)
        | .rng1 => (match it with
          | .Call (.Name n _) [y] [] _ => decide (n = "range") && glB sc n && okEs C its sc [y]
          | _ => false)
        | .rng2 => (match it with
          | .Call (.Name n _) [y, z] [] _ => decide (n = "range") && glB sc n && okEs C its sc [y, z]
          | _ => false)
        | .items => false)
    | _ => false)
  | .isi a t, sc, x => (match x with
    | .Call (.Name n _) [y, .Name tn _] [] _ => decide (n = "isinstance") && glB sc n && nmB n && decide (tn = Str.ofString (tyName t)) && glB sc tn && nmB tn && okE C a sc y && notStar y
    | _ => false)
  | .lc elt t k its cond own, sc, x => (match x with
    | .ListComp e [⟨tg, it, ifs, asy⟩] scope _ => C.calm && decide (asy = 0) && blkC C.N sc scope own && tvOk C.N scope t tg && (tvIs t).all (fun i => (own.map (·.2)).contains i) && notSet it && okE C elt (relS scope sc) e
      && (match ifs with | [] => cond.isNop | [i] => !cond.isNop && okE C cond (relS scope sc) i | _ => false)
      && (match k with
        | .seq => (match its with | .cons i .nil => okE C i sc it | _ => false)
        | .rng1 => (match it with
          | .Call (.Name n _) [y] [] _ => decide (n = "range") && glB sc n && okEs C its sc [y]
          | _ => false)
        | .rng2 => (match it with
          | .Call (.Name n _) [y, z] [] _ => decide (n = "range") && glB sc n && okEs C its sc [y, z]
          | _ => false)
        | .items => false)
    | _ => false)
def okEs (C : Ck) : Exs → Scope → List Expr → Bool
  | .nil, _, xs => xs.isEmpty
  | .cons e es, sc, xs => (match xs with
    | x :: xs => notStar x && okE C e sc x && okEs C es sc xs
    | [] => false)
end
def okIt (C : Ck) (k : Ik) (its : Exs) (sc : Scope) (it : Expr) : Bool := match k with
  | .seq => (match its with | .cons i .nil => okE C i sc it | _ => false)
  | .rng1 => (match it with
    | .Call (.Name n _) [y] [] _ => decide (n = "range") && glB sc n && okEs C its sc [y]
    | _ => false)
  | .rng2 => (match it with
    | .Call (.Name n _) [y, z] [] _ => decide (n = "range") && glB sc n && okEs C its sc [y, z]
    | _ => false)
  | .items => (match it with
    | .Call (.Attribute v at_ apos) [] [] pos => decide (at_ = "items") && (match its with | .cons i .nil => okE C i sc v | _ => false) && baseB v && (apos.endLine == pos.line)
    | _ => false)
end G

set_option Elab.async false
set_option linter.all false
set_option maxRecDepth 100000
set_option autoImplicit false
set_option maxHeartbeats 2000000
/-! G6: expressions do what the plain ones do. -/
namespace G
open PySem PySem.Spec PyProof.Rows L2

def blts : List Str := ["isinstance", "int", "bool", "str", "list", "tuple", "dict", "len", "abs", "range", "sorted", "min", "max", "ValueError", "reversed", "set"]
/-- what a def keeps: the plain function's run -/
def spOf (U : Su) (m : List D → S → R D) : Sp := fun vs H Q E => ∃ ι s ds, RelS U ι s H ∧ Reps U.K ι H ds vs ∧ Post U (RD U) (fun c a _ H => E c a H) [] ι H (m ds s) Q
/-- a plain function stands at a place -/
def FnAt (X : Cx) (U : Su) (cl : CL) (i : Nat) (f : Addr) : Prop := ∃ (fd : FuncData) (ps : List Str) (k : Nat),
  FnOk X.prog X.w X.K X.mg X.base (L2.CX X.prog X.w) k f fd ps (spOf U (cl.call i)) ∧ Room (k + 1) X.A ∧ Binds X.K fd ps []
structure ClOk (X : Cx) (U : Su) (cl : CL) (c : Str) (k : Cl) : Prop where
  mg : X.mg c = some (.ref (U.cad c))
  cls : Cls X.K (U.cad c)
  na : ∀ f, k.fields.contains f = true → NoAttr X.K (U.cad c) f
  mth : ∀ m g, k.mths.lookup m = some g → ∃ f, Meth X.K (U.cad c) m f ∧ FnAt X U cl g f
  prop : ∀ m g, k.props.lookup m = some g → ∃ p f, PropOf X.K (U.cad c) m p f ∧ FnAt X U cl g f
  init : ∀ g, k.init = some g → ∃ f, Mk X.K (U.cad c) f ∧ FnAt X U cl g f
  ins : PySem.W.findIn X.K (.ref (U.cad c)) "__class__" = some (some (.builtin "object.__class__")) ∧ PySem.W.specialIn X.K (.builtin "object.__class__") "__get__" = some (some (.builtin "getset_descriptor.__get__")) ∧
    PySem.W.takesIn X.K (.builtin "object.__class__") = some true ∧ PySem.W.mroIn X.K (U.cad c) (.type "object") = some true
  one : ∀ x k2, cl.cls x = some k2 → PySem.W.kitOne X.K (.ref (U.cad x)) (.ref (U.cad c)) = some (decide (x = c))
  bt : ∀ T ∈ ["NoneType", "bool", "int", "str", "list", "tuple", "dict"], PySem.W.kitOne X.K (.type T) (.ref (U.cad c)) = some false
structure Gd (C : Ck) (U : Su) (cl : CL) (X : Cx) (W : WX) : Prop where
  hK : U.K = X.K
  hw : U.w = some X.w
  hN : X.N = C.N
  nd : X.N.Nodup
  calm : C.calm = true → X.calm = true
  exi : U.exi = C.exi
  cexi : C.calm = true → C.exi = none
  hu : X.A.units + 65 < cLine
  tk : Takes X W
  po : PassesOwn (model X.prog X.w) X.A X.env X.xe
  blt : ∀ x ∈ blts, X.mg x = none
  glb : ∀ (i : Nat) (n : Str) (d : D), C.gn.lookup i = some n → cl.glob i = some d → ∃ u v, X.mg n = some u ∧ RelV v u ∧ ∀ ι H, Rep U.K ι H d v
  fns : C.calm = true → ∀ (i : Nat) (n : Str), C.fn.lookup i = some n → ∃ f, FnAt X U cl i f ∧ X.mg n = some (.ref f) ∧ PySem.W.keepIn X.K (.ref f) = true
  cls : ∀ (c : Str) (k : Cl), cl.cls c = some k → (C.calm = true → ClOk X U cl c k)
  xs : C.calm = false → (∀ (i : Nat) (n f : Str) (p p2 : Pos), C.N[i]? = some n → visB X.env.scope n = true → nmB n = true → PE X (.Attribute (.Name n p) f p2) (rdE U W (ev cl (.efld i f)).1)) ∧
    ∀ (i : Nat) (n c : Str) (p p2 p3 p4 : Pos), C.N[i]? = some n → visB X.env.scope n = true → nmB n = true → glB X.env.scope "isinstance" = true → glB X.env.scope c = true → nmB c = true →
      PE X (.Call (.Name "isinstance" p) [.Name n p2, .Name c p3] [] p4) (rdE U W (ev cl (.eis i c)).1)

section
variable {C : Ck} {U : Su} {cl : CL} {X : Cx} {W : WX} {e a b c : Expr} {pos : Pos}
/-- within a comprehension's block -/
theorem Gd.blk (g : Gd C U cl X W) (hc : C.calm = true) (s : Shared) (H : Hp) (scope : Scope) (cenv : Env) (fp : List Addr) : Gd C U cl (X.blk s H scope cenv fp) (fun _ _ _ _ => False) where
  hK := g.hK
  hw := g.hw
  hN := g.hN
  nd := g.nd
  calm := g.calm
  exi := g.exi
  cexi := g.cexi
  hu := g.hu
  tk := fun u s' x => by
    obtain ⟨_, _, _, _, _, _, _, _, _, _, _, _, _, _, _, _, z⟩ := x
    exact z
  po := PassesOwn.never
  blt := g.blt
  glb := g.glb
  fns := g.fns
  cls := fun c k h hc => let z := g.cls c k h hc; ⟨z.mg, z.cls, z.na, z.mth, z.prop, z.init, z.ins, z.one, z.bt⟩
  xs := fun z => by rw [hc] at z; cases z
theorem Gd.noexi (g : Gd C U cl X W) (hc : C.calm = true) : U.exi = none := by rw [g.exi, g.cexi hc]
theorem Gd.rd2 {β : Type} {ma mb : Fr → S → R D} {f : D → D → S → R β} {γ : Type} {rel : List Addr → Hp → β → γ → Prop} {σ : L2.St} {H : Hp} {Q : γ → Hp → Prop} {ι : List Addr} {s : S} {τ : Fr} (hs : RelS U ι s H) (hf : RelF U ι H τ σ)
    (h : Post U rel W σ ι H ((ma τ s).bind fun x s => (mb τ s).bind fun y s => f x y s) Q) :
    rdE U W ma σ H fun x H1 => rdE U W mb σ H1 fun y H2 => ∃ ι s d e, RelS U ι s H2 ∧ RelF U ι H2 τ σ ∧ Rep U.K ι H2 d x ∧ Rep U.K ι H2 e y ∧ Post U rel W σ ι H2 (f d e s) Q := by
  refine ⟨ι, s, τ, hs, hf, (Post.bindF (rel := RD U) hf h).imp fun x H1 ⟨ι1, s1, d, h1, h2, h3, h4, h5⟩ => ?_⟩
  exact ⟨ι1, s1, τ, h1, h2, (Post.bindF (rel := RD U) h2 h5).imp fun y H2 ⟨ι2, s2, e, g1, g2, g3, g4, g5⟩ => ⟨ι2, s2, d, e, g1, g2, h3.mono g4.ex g4.tups, g3, g5⟩⟩
/-- a test by the value -/
theorem pt_plain {v : Fr → S → R D} (hK : U.K = X.K) (hv : byVal e = true) (h : PE X e (rdE U W v)) : PT X e (rdT U W (plainT v).2) := by
  refine (pt_truth h (byVal_ok hv)).imp fun σ H Q ⟨ι, s, τ, hs, hf, hp⟩ => ?_
  refine ⟨ι, s, τ, hs, hf, (Post.bindF (rel := RD U) hf hp).imp fun x H1 ⟨ι1, s1, d, h1, h2, h3, h4, h5⟩ => ?_⟩
  exact tru_D hK h1 h3 h5.pb

theorem s_var (g : Gd C U cl X W) {i : Nat} {n : Str} (h : (decide (C.N[i]? = some n) && visB X.env.scope n && nmB n) = true) : PE X (.Name n pos) (rdE U W (ev cl (.var i)).1) := by
  simp only [Bool.and_eq_true, decide_eq_true_eq] at h
  refine (pe_var (i := i) (by rw [g.hN]; exact h.1.1) (visB_ok h.1.2) (nmB_ok h.2).1 (nmB_ok h.2).2.1).imp fun σ H Q ⟨ι, s, τ, hs, hf, hp⟩ => ?_
  have hp : Post U (RD U) W σ ι H (match τ[i]? with | some (some d) => .ok d s | _ => .bad) Q := hp
  split at hp
  · rename_i d q
    obtain ⟨v, h1, h2⟩ := hf.2.1 i d q
    exact ⟨v, h1, hp.p.val hs h2⟩
  · exact hp.elim
theorem s_cst {k : Cst} {x : Const} {j : Nat} (h : cstOk k x = true) :
    PE X (.Constant x j pos) (rdE U W (ev cl (.cst k)).1) := by
  have key : ∃ v, (∀ ι H, Rep U.K ι H k.d v) ∧ PE X (.Constant x j pos) (tC v) := by
    cases k <;> cases x <;> first
      | exact (Bool.false_ne_true h).elim
      | exact ⟨_, fun _ _ => rep_non, pe_non⟩
      | (cases (beq_iff_eq.mp h); exact ⟨_, fun _ _ => rep_bl _, pe_bl⟩)
      | (cases (of_decide_eq_true h); exact ⟨_, fun _ _ => rep_int _, pe_int⟩)
      | (cases (of_decide_eq_true h); exact ⟨_, fun _ _ => rep_str _, pe_str⟩)
  obtain ⟨v, h1, h2⟩ := key
  exact h2.imp fun σ H Q ⟨ι, s, τ, hs, hf, hp⟩ => hp.p.val hs (h1 _ _)
theorem s_glob (g : Gd C U cl X W) {i : Nat} {n : Str} (h : (decide (C.gn.lookup i = some n) && glB X.env.scope n && nmB n) = true) : PE X (.Name n pos) (rdE U W (ev cl (.glob i)).1) := by
  simp only [Bool.and_eq_true, decide_eq_true_eq] at h
  refine ⟨fun pins s σ H Q I ⟨ι, st, τ, hs, hf, hp⟩ => ?_⟩
  have hp : Post U (RD U) W σ ι H (match cl.glob i with | some d => .ok d st | none => .bad) Q := hp
  split at hp
  · rename_i d q
    obtain ⟨u, v, h1, h2, h3⟩ := g.glb i n d h.1.1 q
    exact (pe_glob (glB_ok h.1.2) h1 h2 (nmB_ok h.2).1).run pins s σ H Q I (hp.p.val hs (h3 _ _))
  · exact hp.elim
theorem s_bin (g : Gd C U cl X W) {o : Bop} {x y : Ex} (ha : PE X a (rdE U W (ev cl x).1)) (hb : PE X b (rdE U W (ev cl y).1)) : PE X (.BinOp a (bopOf o) b pos) (rdE U W (ev cl (.bin o x y)).1) := by
  have ho : OpR X (binaryOp (bopOf o)) (rOp U (binD o)) := by
    have := op_binD (U := U) g.hK o
    cases o <;> exact this
  refine (pe_op ho ha hb).imp fun σ H Q ⟨ι, s, τ, hs, hf, hp⟩ => ?_
  obtain ⟨ι, s, τ, h1, h2, h3⟩ := Gd.rd2 hs hf hp
  exact ⟨ι, s, τ, h1, h2, h3.imp fun v H1 ⟨ι, s, τ, h1, h2, h3⟩ => ⟨ι, s, τ, h1, h2, h3.imp fun v H1 ⟨ι, s, d, e, q1, _, q2, q3, q4⟩ => ⟨ι, s, d, e, q1, q2, q3, q4.p⟩⟩⟩
theorem s_neg {x : Ex} (ha : PE X a (rdE U W (ev cl x).1)) : PE X (.UnaryOp .USub a pos) (rdE U W (ev cl (.neg x)).1) := by
  refine (pe_un (un_negD (U := U)) ha).imp fun σ H Q ⟨ι, s, τ, hs, hf, hp⟩ => ?_
  exact ⟨ι, s, τ, hs, hf, (Post.bindF (rel := RD U) hf hp).imp fun v H1 ⟨ι, s, d, q1, _, q2, _, q4⟩ => ⟨ι, s, d, q1, q2, q4.p⟩⟩
theorem s_not {x : Ex} (ha : PE X a (rdE U W (ev cl x).1)) : PE X (.UnaryOp .Not a pos) (rdE U W (ev cl (.not x)).1) := by
  refine (pe_not ha).imp fun σ H Q ⟨ι, s, τ, hs, hf, hp⟩ => ?_
  refine ⟨ι, s, τ, hs, hf, (Post.bindF (rel := RD U) hf hp).imp fun v H1 ⟨ι, s, d, q1, _, q2, _, q4⟩ => ?_⟩
  cases d with
  | bl k => exact ⟨k, q2.bl_of, q4.p.val q1 (rep_bl _)⟩
  | _ => exact q4.elim
theorem t_not {x : Ex} (ha : PT X a (rdT U W (ev cl x).2)) : PT X (.UnaryOp .Not a pos) (rdT U W (ev cl (.not x)).2) := by
  refine (pt_not ha).imp fun σ H Q ⟨ι, s, τ, hs, hf, hp⟩ => ?_
  exact ⟨ι, s, τ, hs, hf, (Post.bindF (rel := RB) hf hp).imp fun v H1 ⟨ι, s, d, q1, _, q2, _, q4⟩ => by rw [show v = d from q2]; exact q4.pb.val q1⟩
theorem rd_and {x y : Ex} : ∀ σ H Q, rdE U W (ev cl (.and x y)).1 σ H Q → tAndV (rdE U W (ev cl x).1) (rdE U W (ev cl y).1) σ H Q := fun σ H Q ⟨ι, s, τ, hs, hf, hp⟩ => by
  refine ⟨ι, s, τ, hs, hf, (Post.bindF (rel := RD U) hf hp).imp fun v H1 ⟨ι, s, d, q1, q0, q2, _, q4⟩ => ?_⟩
  cases d with
  | bl k =>
    refine ⟨k, q2.bl_of, ?_⟩
    cases k with
    | true => rw [if_pos rfl]; exact ⟨ι, s, τ, q1, q0, q4⟩
    | false => rw [if_neg Bool.false_ne_true]; exact q4.p.val q1 (rep_bl _)
  | _ => exact q4.elim
theorem rd_or {x y : Ex} : ∀ σ H Q, rdE U W (ev cl (.or x y)).1 σ H Q → tOrV (rdE U W (ev cl x).1) (rdE U W (ev cl y).1) σ H Q := fun σ H Q ⟨ι, s, τ, hs, hf, hp⟩ => by
  refine ⟨ι, s, τ, hs, hf, (Post.bindF (rel := RD U) hf hp).imp fun v H1 ⟨ι, s, d, q1, q0, q2, _, q4⟩ => ?_⟩
  cases d with
  | bl k =>
    refine ⟨k, q2.bl_of, ?_⟩
    cases k with
    | false => rw [if_neg Bool.false_ne_true]; exact ⟨ι, s, τ, q1, q0, q4⟩
    | true => rw [if_pos rfl]; exact q4.p.val q1 (rep_bl _)
  | _ => exact q4.elim
theorem rt_and {x y : Ex} : ∀ σ H Q, rdT U W (ev cl (.and x y)).2 σ H Q → tAnd (rdT U W (ev cl x).2) (rdT U W (ev cl y).2) σ H Q := fun σ H Q ⟨ι, s, τ, hs, hf, hp⟩ => by
  refine ⟨ι, s, τ, hs, hf, (Post.bindF (rel := RB) hf hp).imp fun v H1 ⟨ι, s, d, q1, q0, q2, _, q4⟩ => ?_⟩
  rw [show v = d from q2]
  cases d with
  | true => rw [if_pos rfl]; exact ⟨ι, s, τ, q1, q0, q4⟩
  | false => rw [if_neg Bool.false_ne_true]; exact q4.pb.val q1
theorem rt_or {x y : Ex} : ∀ σ H Q, rdT U W (ev cl (.or x y)).2 σ H Q → tOr (rdT U W (ev cl x).2) (rdT U W (ev cl y).2) σ H Q := fun σ H Q ⟨ι, s, τ, hs, hf, hp⟩ => by
  refine ⟨ι, s, τ, hs, hf, (Post.bindF (rel := RB) hf hp).imp fun v H1 ⟨ι, s, d, q1, q0, q2, _, q4⟩ => ?_⟩
  rw [show v = d from q2]
  cases d with
  | false => rw [if_neg Bool.false_ne_true]; exact ⟨ι, s, τ, q1, q0, q4⟩
  | true => rw [if_pos rfl]; exact q4.pb.val q1
theorem s_cmp (g : Gd C U cl X W) {o : Cop} {x y : Ex} (ha : PE X a (rdE U W (ev cl x).1)) (hb : PE X b (rdE U W (ev cl y).1)) (hm : behindInMarks (copOf o) b = false) : PE X (.Compare a [copOf o] [b] pos) (rdE U W (ev cl (.cmp o x y)).1) := by
  refine (pe_cmpR (op_cmpD (U := U) g.hK g.hu o) ha hb hm).imp fun σ H Q ⟨ι, s, τ, hs, hf, hp⟩ => ?_
  obtain ⟨ι, s, τ, h1, h2, h3⟩ := Gd.rd2 hs hf (Post.bv (W' := W) (σ' := σ) hp)
  refine ⟨ι, s, τ, h1, h2, h3.imp fun v H1 ⟨ι, s, τ, h1, h2, h3⟩ => ⟨ι, s, τ, h1, h2, h3.imp fun v H1 ⟨ι, s, d, e, q1, _, q2, q3, q4⟩ => ⟨ι, s, d, e, q1, q2, q3, ?_⟩⟩⟩
  exact (Post.vb q4).imp fun x H ⟨k, e, z⟩ => e ▸ z
theorem t_cmp (g : Gd C U cl X W) {o : Cop} {x y : Ex} (ha : PE X a (rdE U W (ev cl x).1)) (hb : PE X b (rdE U W (ev cl y).1)) (hm : behindInMarks (copOf o) b = false) : PT X (.Compare a [copOf o] [b] pos) (rdT U W (ev cl (.cmp o x y)).2) := by
  refine (pt_cmpR (op_cmpD (U := U) g.hK g.hu o) ha hb hm).imp fun σ H Q ⟨ι, s, τ, hs, hf, hp⟩ => ?_
  obtain ⟨ι, s, τ, h1, h2, h3⟩ := Gd.rd2 hs hf hp
  exact ⟨ι, s, τ, h1, h2, h3.imp fun v H1 ⟨ι, s, τ, h1, h2, h3⟩ => ⟨ι, s, τ, h1, h2, h3.imp fun v H1 ⟨ι, s, d, e, q1, _, q2, q3, q4⟩ => ⟨ι, s, d, e, q1, q2, q3, Post.vb q4⟩⟩⟩
theorem rd_chain (g : Gd C U cl X W) {o o' : Cop} {x y z : Ex} {σ : L2.St} {H : Hp} {Q : Bool → Hp → Prop} {Q' : V → Hp → Prop} (hQ : ∀ k H, Q k H → Q' (.bl k) H) (h : rdT U W (ev cl (.cmp2 o o' x y z)).2 σ H Q) :
    tChain (rOp U (boolR (cmpD o))) (rOp U (boolR (cmpD o'))) (rdE U W (ev cl x).1) (rdE U W (ev cl y).1) (rdE U W (ev cl z).1) σ H Q' := by
  obtain ⟨ι, s, τ, hs, hf, hp⟩ := h
  obtain ⟨ι, s, τ0, h1, h2, h3⟩ := Gd.rd2 hs hf hp
  refine ⟨ι, s, τ0, h1, h2, h3.imp fun v1 H1 ⟨ι, s, τ1, h1, h2, h3⟩ => ⟨ι, s, τ1, h1, h2, h3.imp fun v2 H2 ⟨ι, s, d, e, q1, q0, q2, q3, q4⟩ => ⟨ι, s, d, e, q1, q2, q3, ?_⟩⟩⟩
  refine (Post.vb (Post.bindF (rel := RB) q0 q4)).imp fun w H3 ⟨k, e1, ι3, s3, k', r1, r0, r2, r3, r4⟩ => ⟨k, e1, ?_⟩
  have e2 : k = k' := r2
  subst e2
  cases k with
  | false => rw [if_neg Bool.false_ne_true]; exact hQ _ _ (r4.pb.val r1)
  | true =>
    rw [if_pos rfl]
    have r4 : Post U RB W σ ι3 H3 (((ev cl z).1 τ s3).bind fun z s => cmpD o' e z s) Q := r4
    refine ⟨ι3, s3, τ, r1, r0, (Post.bindF (rel := RD U) r0 r4).imp fun v4 H4 ⟨ι4, s4, d4, p1, _, p2, p3, p4⟩ => ⟨ι4, s4, e, d4, p1, q3.mono (r3.trans p3).ex (r3.trans p3).tups, p2, ?_⟩⟩
    exact (Post.vb p4).imp fun x H ⟨k, e, z⟩ => e ▸ hQ _ _ z
theorem s_cmp2 (g : Gd C U cl X W) {o o' : Cop} {x y z : Ex} (ha : PE X a (rdE U W (ev cl x).1)) (hb : PE X b (rdE U W (ev cl y).1)) (hc : PE X c (rdE U W (ev cl z).1)) (hm : lastMarks [copOf o, copOf o'] [b, c] = false) :
    PE X (.Compare a [copOf o, copOf o'] [b, c] pos) (rdE U W (ev cl (.cmp2 o o' x y z)).1) := by
  refine (pe_chain (op_cmpD (U := U) g.hK g.hu o) (op_cmpD (U := U) g.hK g.hu o') ha hb hc hm).imp fun σ H Q ⟨ι, s, τ, hs, hf, hp⟩ => ?_
  exact rd_chain g (fun k H q => q) ⟨ι, s, τ, hs, hf, Post.bv (W' := W) (σ' := σ) hp⟩
theorem t_cmp2 (g : Gd C U cl X W) {o o' : Cop} {x y z : Ex} (ha : PE X a (rdE U W (ev cl x).1)) (hb : PE X b (rdE U W (ev cl y).1)) (hc : PE X c (rdE U W (ev cl z).1)) (hm : lastMarks [copOf o, copOf o'] [b, c] = false) :
    PT X (.Compare a [copOf o, copOf o'] [b, c] pos) (rdT U W (ev cl (.cmp2 o o' x y z)).2) := by
  refine (pt_chain (op_cmpD (U := U) g.hK g.hu o) (op_cmpD (U := U) g.hK g.hu o') ha hb hc hm).imp fun σ H Q h => ?_
  exact rd_chain g (fun k H q => ⟨k, rfl, q⟩) h
theorem s_ife {x y z : Ex} (hc : PT X c (rdT U W (ev cl x).2)) (ha : PE X a (rdE U W (ev cl y).1)) (hb : PE X b (rdE U W (ev cl z).1)) : PE X (.IfExp c a b pos) (rdE U W (ev cl (.ife x y z)).1) := by
  refine (pe_ifExp hc ha hb).imp fun σ H Q ⟨ι, s, τ, hs, hf, hp⟩ => ?_
  refine ⟨ι, s, τ, hs, hf, (Post.bindF (rel := RB) hf hp).imp fun v H1 ⟨ι, s, d, q1, q0, q2, _, q4⟩ => ?_⟩
  rw [show v = d from q2]
  cases d with
  | true => rw [if_pos rfl]; exact ⟨ι, s, τ, q1, q0, q4⟩
  | false => rw [if_neg Bool.false_ne_true]; exact ⟨ι, s, τ, q1, q0, q4⟩
theorem evs_len : ∀ {es : Exs} {τ : Fr} {s : S} {ds : List D} {s' : S}, evs cl es τ s = .ok ds s' → ds.length = es.len
  | .nil, τ, s, ds, s', h => by simp only [evs, R.ok.injEq] at h; rw [← h.1]; rfl
  | .cons e es, τ, s, ds, s', h => by
    simp only [evs] at h
    cases h1 : (ev cl e).1 τ s with
    | ok d s1 =>
      rw [h1] at h
      simp only [R.bind_ok] at h
      cases h2 : evs cl es τ s1 with
      | ok ds2 s2 =>
        rw [h2] at h
        simp only [R.bind_ok, R.ok.injEq] at h
        rw [← h.1]
        simp [Exs.len, evs_len h2]
      | exc _ _ _ => rw [h2] at h; simp at h
      | bad => rw [h2] at h; simp at h
    | exc _ _ _ => rw [h1] at h; simp at h
    | bad => rw [h1] at h; simp at h
theorem okEs_len : ∀ {es : Exs} {sc : Scope} {xs : List Expr}, okEs C es sc xs = true → es.len = xs.length
  | .nil, sc, xs, h => by cases xs <;> first | rfl | cases h
  | .cons e es, sc, [], h => by cases h
  | .cons e es, sc, x :: xs, h => by
    simp only [okEs, Bool.and_eq_true] at h
    simp [Exs.len, okEs_len h.2]
theorem okEs_star {env : Env} : ∀ {es : Exs} {xs : List Expr}, okEs C es env.scope xs = true → ∀ t ∈ starEach xs env, t.1 = false
  | .nil, xs, h => by cases xs <;> first | (intro t ht; cases ht) | cases h
  | .cons e es, [], h => by cases h
  | .cons e es, x :: xs, h => by
    simp only [okEs, Bool.and_eq_true] at h
    rw [star_cons h.1.1]
    intro t ht
    rcases List.mem_cons.mp ht with rfl | ht
    · rfl
    · exact okEs_star h.2 t ht
theorem back_plain {ts : List (Bool × Sem Value)} (h : ∀ t ∈ ts, t.1 = false) : (backTo pos ts).any (·.1) = false := by
  rw [List.any_eq_false]
  intro t ht
  unfold backTo at ht
  obtain ⟨u, hu, rfl⟩ := List.mem_map.mp ht
  rw [h u hu]
  exact Bool.false_ne_true
/-- the heap keeps a list of at most a thousand items -/
theorem small_ok {α : Type} {n : Nat} {xs : List α} (h : xs.length = n) (hn : n ≤ 1000) : xs.length ≤ sizeLine := by
  rw [h]; exact Nat.le_of_lt (small1000 hn)
/-- a list of runs, its length known -/
theorem post_evs {es : Exs} {τ : Fr} {s : S} {σ : L2.St} {ι : List Addr} {H : Hp} {β γ : Type} {rel : List Addr → Hp → β → γ → Prop} {f : List D → S → R β} {Q : γ → Hp → Prop} (hf : RelF U ι H τ σ) (h : Post U rel W σ ι H ((evs cl es τ s).bind f) Q) :
    Post U (RDs U) W σ ι H (evs cl es τ s) (fun vs H1 => ∃ ι1 s1 ds, RelS U ι1 s1 H1 ∧ RelF U ι1 H1 τ σ ∧ Reps U.K ι1 H1 ds vs ∧ vs.length = es.len ∧ Go ι H ι1 H1 ∧ Post U rel W σ ι1 H1 (f ds s1) Q) := by
  have h' := Post.bindF (rel := RDs U) hf h
  cases q : evs cl es τ s with
  | ok ds s' =>
    rw [q] at h'
    intro ι2 H2 vs g h1 h2
    obtain ⟨ι3, s3, ds3, p1, p2, p3, p4, p5⟩ := h' ι2 H2 vs g h1 h2
    rw [q] at h
    exact ⟨ι2, s', ds, h1, hf.mono g.ex g.tups, h2, by rw [Reps.length h2, evs_len q], g, Post.mono g h⟩
  | exc c fs s' => rw [q] at h'; exact h'
  | bad => rw [q] at h'; exact h'
theorem s_tup {es : Exs} {xs : List Expr} {j : Nat} (ha : PA X xs (rdA U W (evs cl es))) (hl : es.len ≤ 1000) : PE X (.Tuple xs j pos) (rdE U W (ev cl (.tup es)).1) := by
  refine (pe_tup ha).imp fun σ H Q ⟨ι, s, τ, hs, hf, hp⟩ => ?_
  refine ⟨ι, s, τ, hs, hf, (post_evs hf hp).imp fun vs H1 ⟨ι, s, ds, q1, _, q2, q3, _, q4⟩ => ⟨small_ok q3 hl, fun p np => q4.p.tup q1 np q2⟩⟩
theorem s_lst {es : Exs} {xs : List Expr} (ha : PA X xs (rdA U W (evs cl es))) (hl : es.len ≤ 1000) : PE X (.List xs pos) (rdE U W (ev cl (.lst es)).1) := by
  refine (pe_lst ha).imp fun σ H Q ⟨ι, s, τ, hs, hf, hp⟩ => ?_
  refine ⟨ι, s, τ, hs, hf, (post_evs hf hp).imp fun vs H1 ⟨ι, s, ds, q1, _, q2, q3, _, q4⟩ => ⟨small_ok q3 hl, fun p np => q4.p.mk q1 np (ObR.lst np q2)⟩⟩
theorem s_ix (g : Gd C U cl X W) {x y : Ex} (ha : PE X a (rdE U W (ev cl x).1)) (hb : PE X b (rdE U W (ev cl y).1)) (hn : notSlice b = true) : PE X (.Subscript a b pos) (rdE U W (ev cl (.ix x y)).1) := by
  refine (pe_ix (ix_D (U := U) g.hK (by have := g.hu; omega)) ha hb (plainIx hn)).imp fun σ H Q ⟨ι, s, τ, hs, hf, hp⟩ => ?_
  obtain ⟨ι, s, τ, h1, h2, h3⟩ := Gd.rd2 hs hf hp
  exact ⟨ι, s, τ, h1, h2, h3.imp fun v H1 ⟨ι, s, τ, h1, h2, h3⟩ => ⟨ι, s, τ, h1, h2, h3.imp fun v H1 ⟨ι, s, d, e, q1, _, q2, q3, q4⟩ => ⟨ι, s, d, e, q1, q2, q3, q4.p⟩⟩⟩
/-- a part of a slice -/
def tPo (U : Su) (W : WX) (m : Fr → S → R (Option Int)) : TO := fun σ H Q => ∃ ι s τ, RelS U ι s H ∧ RelF U ι H τ σ ∧ Post U (fun _ _ (x : Option Int) y => y = x) W σ ι H (m τ s) Q
theorem po_D {x : Ex} {l : Option Expr} (h : match l with | none => x.isNop = true | some l => x.isNop = false ∧ PE X l (rdE U W (ev cl x).1)) : PO X l (tPo U W (fun τ s => evPart (ev cl x).1 x.isNop τ s)) := by
  cases l with
  | none =>
    refine ⟨fun pins s σ H Q I ⟨ι, st, τ, hs, hf, hp⟩ => po_none.run pins s σ H Q I ?_⟩
    have h : x.isNop = true := h
    simp only [evPart, h, if_true] at hp
    exact hp ι H none (Go.refl _ _) hs rfl
  | some l =>
    refine ⟨fun pins s σ H Q I ⟨ι, st, τ, hs, hf, hp⟩ => (po_some h.2).run pins s σ H Q I ?_⟩
    have h1 : x.isNop = false := h.1
    simp only [evPart, h1, Bool.false_eq_true, if_false] at hp
    refine ⟨ι, st, τ, hs, hf, (Post.bindF (rel := RD U) hf hp).imp fun v H1 ⟨ι, s, d, q1, q0, q2, _, q4⟩ => ?_⟩
    cases d with
    | int i => exact ⟨i, q2.int_of, q4 ι H1 (some i) (Go.refl _ _) q1 rfl⟩
    | _ => exact q4.elim
theorem s_sl (g : Gd C U cl X W) {x lo hi : Ex} {l h : Option Expr} {p2 : Pos} (ha : PE X a (rdE U W (ev cl x).1)) (hl : PO X l (tPo U W (fun τ s => evPart (ev cl lo).1 lo.isNop τ s))) (hh : PO X h (tPo U W (fun τ s => evPart (ev cl hi).1 hi.isNop τ s))) :
    PE X (.Subscript a (.Slice l h none p2) pos) (rdE U W (ev cl (.sl x lo hi)).1) := by
  refine (pe_slice (sl_D (U := U) g.hK) ha hl hh).imp fun σ H Q ⟨ι, s, τ, hs, hf, hp⟩ => ?_
  refine ⟨ι, s, τ, hs, hf, (Post.bindF (rel := RD U) hf hp).imp fun v H1 ⟨ι, s, d, q1, q0, q2, _, q4⟩ => ?_⟩
  refine ⟨ι, s, τ, q1, q0, (Post.bindF (rel := fun _ _ (x : Option Int) y => y = x) q0 q4).imp fun l H2 ⟨ι, s, l', r1, r0, r2, r3, r4⟩ => ?_⟩
  refine ⟨ι, s, τ, r1, r0, (Post.bindF (rel := fun _ _ (x : Option Int) y => y = x) r0 r4).imp fun h H3 ⟨ι, s, h', p1, p0, p2, p3, p4⟩ => ?_⟩
  rw [show l = l' from r2, show h = h' from p2]
  exact ⟨ι, s, d, p1, q2.mono (r3.trans p3).ex (r3.trans p3).tups, p4.p⟩
theorem okEs_any {es : Exs} {xs : List Expr} {env : Env} (h : okEs C es env.scope xs = true) : (backTo pos (starEach xs env)).any (·.1) = false := back_plain (okEs_star h)
theorem okEs_cons {es : Exs} {env : Env} {y : Expr} {ys : List Expr} (h : okEs C es env.scope (y :: ys) = true) : starEach (y :: ys) env = (false, eval y env) :: starEach ys env ∧ (backTo pos (starEach ys env)).any (·.1) = false := by
  have st := okEs_star (env := env) h
  have ns : notStar y = true := by
    cases es with
    | nil => cases h
    | cons e es => simp only [okEs, Bool.and_eq_true] at h; exact h.1.1
  exact ⟨star_cons ns, back_plain fun t ht => st t (by rw [star_cons ns]; exact List.mem_cons_of_mem _ ht)⟩
/-- a plain function is called -/
theorem fn_run {pins : List (Addr × Obj)} {σ : L2.St} {H : Hp} {sh : Shared} {Q : VK} {us : List Value} {vs : List V} {i : Nat} {f : Addr} {ι : List Addr} {s : S} {ds : List D} (tk : Takes X W) (F : FnAt X U cl i f) (I : Inv X pins σ H sh) (r : Vals vs us)
    (hs : RelS U ι s H) (hr : Reps U.K ι H ds vs) (hp : Post U (RD U) W σ ι H (cl.call i ds s) Q) : wpAny (model X.prog X.w) X.A (call (.ref f) us) (EP X pins σ Q) X.xe sh := by
  obtain ⟨fd, ps, k, F, ro, b⟩ := F
  refine run_fnSD (E := WE W) F (ro.mono (Nat.le_succ _)) b .nil (passAt tk σ) I r ?_
  refine ⟨ι, s, ds, hs, by rw [List.append_nil]; exact hr, ?_⟩
  revert hp
  cases cl.call i ds s with
  | ok d s' => exact fun z => z
  | exc c fs s' => exact fun z => z
  | bad => exact fun z => z
theorem s_call (g : Gd C U cl X W) (hc : C.calm = true) {f : Nat} {n : Str} {es : Exs} {ys : List Expr} {p : Pos} (hn : C.fn.lookup f = some n) (hg : glB X.env.scope n = true) (hm : nmB n = true) (ho : okEs C es X.env.scope ys = true)
    (ha : PA X ys (rdA U W (evs cl es))) : PE X (.Call (.Name n p) ys [] pos) (rdE U W (ev cl (.call f es)).1) := by
  obtain ⟨fa, F, h2, h3⟩ := g.fns hc f n hn
  refine ⟨fun pins sh σ H Q I ⟨ι, s, τ, hs, hf, hp⟩ => ?_⟩
  refine wpAny_Call_Name_kw (ld_glob I (glB_ok hg) h2 ?_ (nmB_ok hm).1)
  have hp : Post U (RD U) W σ ι H ((evs cl es τ s).bind fun ds s => cl.call f ds s) Q := hp
  cases ys with
  | nil =>
    cases es with
    | cons _ _ => cases ho
    | nil => exact PySem.W.callWith_K0 I.kIn h3 (fn_run (us := []) (vs := []) (ds := []) g.tk F I .nil hs Reps.nil hp)
  | cons y ys =>
    obtain ⟨o1, o2⟩ := okEs_cons (pos := pos) ho
    refine PySem.W.callWith_K (h₀ := X.base) I.ok.mod.kin h3 (thn (ha.run pos pins sh σ H _ I ⟨ι, s, τ, hs, hf, post_evs hf hp⟩) fun us s1 ⟨vs, H1, I1, r, ι, s, ds, q1, _, q2, q3, _, q4⟩ => ⟨I1.kIn, ?_⟩) o1 o2
    exact fn_run g.tk F I1 r q1 q2 q4
/-! own methods, properties, instances -/
theorem callAttr {prog : Program} {w : World} {A : Around} {E : Value → Shared → Prop} {sh : Shared} {env : Env} {o : Expr} {nm : Str} {apos cp : Pos} {args : List Expr} {Q : Value → Shared → Prop} (hb : attributeBase o nm env (eval o env) = eval o env)
    (hf : ((backTo cp (starEach args env)).all (fun x => !x.1) && (backToKw cp (keywordEach [] env)).all (fun x => x.1.isSome) && decide (args.length + ([] : List Keyword).length + (if ([] : List Keyword).isEmpty then 0 else 1) < 30)) = true)
    (hl : (apos.endLine == cp.line) = true)
    (h : wpAny (model prog w) A (eval o env) (fun v s1 => ∀ pl, wpAny (model prog w) A (getMethod v nm pl) (fun fx s2 => wpAny (model prog w) A (callWith cp fx.1 fx.2 (backTo cp (starEach args env)) []) Q E s2) E s1) E sh) :
    wpAny (model prog w) A (eval (.Call (.Attribute o nm apos) args [] cp) env) Q E sh := by
  rw [arm_eval_Call, hb]
  refine wpAny_bind (wpAny_mono h (fun v s1 h1 => ?_) fun _ _ z => z)
  refine wpAny_bind (wpAny_standAt ?_)
  have hform : methodCallForm (args.length + ([] : List Keyword).length) (backTo cp (starEach args env)) (backToKw cp (keywordEach [] env)) = true := hf
  have hp : methodCallPos true o env apos cp = pure cp := by unfold methodCallPos; simp [hl]
  unfold methodCall
  rw [hform]
  refine wpAny_bind (wpAny_holding (wpAny_mono (h1 _) (fun fx s2 h2 => ?_) fun _ _ z => z))
  exact wpAny_bind (wpAny_of_eq hp h2)
theorem few_ok {es : Exs} {env : Env} {ys : List Expr} (ho : okEs C es env.scope ys = true) (hz : ys.length < 20) :
    ((backTo pos (starEach ys env)).all (fun x => !x.1) && (backToKw pos (keywordEach [] env)).all (fun x => x.1.isSome) && decide (ys.length + ([] : List Keyword).length + (if ([] : List Keyword).isEmpty then 0 else 1) < 30)) = true := by
  rw [Bool.and_eq_true, Bool.and_eq_true]
  refine ⟨⟨?_, rfl⟩, decide_eq_true (by show ys.length + 0 + 0 < 30; omega)⟩
  rw [List.all_eq_true]
  intro t ht
  unfold backTo at ht
  obtain ⟨u, hu, rfl⟩ := List.mem_map.mp ht
  rw [okEs_star ho u hu]
  rfl
theorem ins_of {s : S} {n : Nat} {c : Str} {fs : List (Str × D)} (h : insAt s n = some (c, fs)) : s[n]? = some (.ins c fs) := by
  unfold insAt at h
  split at h
  · rename_i q; cases h; exact q
  · cases h
theorem repF_none {K : PySem.W.Frag} {ι : List Addr} {H : Hp} {m : Str} : ∀ {fs : List (Str × D)} {vs : List (Str × V)}, RepF K ι H fs vs → fs.lookup m = none → vs.lookup m = none
  | [], _, h, _ => by cases (show _ = [] from h); rfl
  | p :: fs, _, h, e => by
    obtain ⟨v, ws, rfl, h1, h2⟩ := h
    obtain ⟨g, d⟩ := p
    simp only [List.lookup_cons] at e ⊢
    split at e
    · cases e
    · exact repF_none h2 e
theorem repF_some {K : PySem.W.Frag} {ι : List Addr} {H : Hp} {m : Str} {d : D} : ∀ {fs : List (Str × D)} {vs : List (Str × V)}, RepF K ι H fs vs → fs.lookup m = some d → ∃ v, vs.lookup m = some v ∧ Rep K ι H d v
  | [], _, h, e => by cases e
  | p :: fs, _, h, e => by
    obtain ⟨v, ws, rfl, h1, h2⟩ := h
    obtain ⟨g, d'⟩ := p
    simp only [List.lookup_cons] at e ⊢
    split at e
    · cases e; exact ⟨v, rfl, h1⟩
    · exact repF_some h2 e
theorem s_mc (g : Gd C U cl X W) (hc : C.calm = true) {m : Str} {x : Ex} {es : Exs} {ys : List Expr} {apos : Pos} (hb : baseB a = true) (hl : (apos.endLine == pos.line) = true) (hz : ys.length < 20) (ho : okEs C es X.env.scope ys = true)
    (ha : PE X a (rdE U W (ev cl x).1)) (hes : PA X ys (rdA U W (evs cl es))) : PE X (.Call (.Attribute a m apos) ys [] pos) (rdE U W (ev cl (.mc m x es)).1) := by
  refine ⟨fun pins sh σ H Q I ⟨ι, s, τ, hs, hf, hp⟩ => ?_⟩
  have hp : Post U (RD U) W σ ι H (((ev cl x).1 τ s).bind fun x s => match mcF cl m x s with
    | some g => (evs cl es τ s).bind fun ds s => cl.call g (x :: ds) s
    | none => .bad) Q := hp
  refine callAttr (base_ok hb) (few_ok ho hz) hl (thn (ha.run pins sh σ H _ I ⟨ι, s, τ, hs, hf, Post.bindF (rel := RD U) hf hp⟩) fun u s1 ⟨xv, H1, I1, rx, ι1, st1, d, h1, h2, h3, h4, h5⟩ pl => ?_)
  split at h5
  case h_2 => exact h5.elim
  rename_i gi q
  have key : ∃ n c fs k, d = .ref n ∧ st1[n]? = some (.ins c fs) ∧ fs.lookup m = none ∧ cl.cls c = some k ∧ k.mths.lookup m = some gi := by
    cases d <;> simp only [mcF] at q <;> first
      | (cases q; done)
      | (obtain ⟨p, q1, q2⟩ := Option.bind_eq_some_iff.mp q
         split at q2
         · rename_i q3
           obtain ⟨k, q4, q5⟩ := Option.bind_eq_some_iff.mp q2
           exact ⟨_, p.1, p.2, k, rfl, ins_of q1, Option.isNone_iff_eq_none.mp q3, q4, q5⟩
         · cases q2)
  obtain ⟨n, c, fs, k, rfl, e1, e2, e3, e4⟩ := key
  have h3' := h3
  simp only [Rep] at h3'
  obtain ⟨ad, rfl, hi⟩ := h3'
  obtain ⟨dx, vs, e5, e6⟩ := h1.at e1 hi
  have z := g.cls c k e3 hc
  obtain ⟨fa, me, F⟩ := z.mth m gi e4
  cases rx
  refine getmeth_ok I1 e5 z.cls me (repF_none e6 e2) ?_
  cases ys with
  | nil =>
    cases es with
    | cons _ _ => cases ho
    | nil => exact PySem.W.callWith_K0 (first := [.ref ad]) I1.kIn me.kp (fn_run (us := [.ref ad]) (vs := [.ref ad]) (ds := [.ref n]) g.tk F I1 (.cons rfl .nil) h1 (Reps.cons h3 Reps.nil) h5)
  | cons y ys =>
    obtain ⟨o1, o2⟩ := okEs_cons (pos := pos) ho
    refine PySem.W.callWith_K (first := [.ref ad]) (h₀ := X.base) I1.ok.mod.kin me.kp (thn (hes.run pos pins s1 σ H1 _ I1 ⟨ι1, st1, τ, h1, h2, post_evs h2 h5⟩) fun us s2 ⟨ws, H2, I2, r, ι2, st2, ds, q1, _, q2, q3, q4, q5⟩ => ⟨I2.kIn, ?_⟩) o1 o2
    exact fn_run (us := .ref ad :: us) (vs := .ref ad :: ws) (ds := .ref n :: ds) g.tk F I2 (.cons rfl r) q1 (Reps.cons (h3.mono q4.ex q4.tups) q2) q5
theorem s_fld (g : Gd C U cl X W) (hc : C.calm = true) {x : Ex} {f : Str} (hb : baseB a = true) (ha : PE X a (rdE U W (ev cl x).1)) : PE X (.Attribute a f pos) (rdE U W (ev cl (.fld x f)).1) := by
  refine ⟨fun pins sh σ H Q I ⟨ι, s, τ, hs, hf, hp⟩ => ?_⟩
  have hp : Post U (RD U) W σ ι H (((ev cl x).1 τ s).bind fun x s => fldD cl f x s) Q := hp
  refine attr_of (base_ok hb) (thn (ha.run pins sh σ H _ I ⟨ι, s, τ, hs, hf, Post.bindF (rel := RD U) hf hp⟩) fun u s1 ⟨xv, H1, I1, rx, ι1, st1, d, h1, h2, h3, h4, h5⟩ => ?_)
  cases d <;> simp only [fldD] at h5 <;> first
    | (exact h5.elim; done)
    | skip
  split at h5
  case h_2 => exact h5.elim
  rename_i n _ c fs e1
  split at h5
  case h_2 => exact h5.elim
  rename_i k e3
  have h3' := h3
  simp only [Rep] at h3'
  obtain ⟨ad, rfl, hi⟩ := h3'
  obtain ⟨dx, vs, e5, e6⟩ := h1.at (ins_of e1) hi
  have z := g.cls c k e3 hc
  cases rx
  split at h5
  · rename_i gi e4
    obtain ⟨p, fa, po, fd, ps, kk, F, ro, bi⟩ := z.prop f gi e4
    refine getprop_ok (E := E0) (dvs := []) (ds := []) I1 e5 z.cls po F ro bi .nil passL ?_
    refine ⟨ι1, st1, [.ref n], h1, Reps.cons h3 Reps.nil, ?_⟩
    revert h5
    cases cl.call gi [.ref n] st1 with
    | ok d s' => exact fun z => z
    | exc c fs s' => exact fun z => z.elim
    | bad => exact fun z => z
  · split at h5
    case isFalse => exact h5.elim
    rename_i hfc
    split at h5
    · rename_i d e7
      obtain ⟨v, e8, e9⟩ := repF_some e6 e7
      exact getattr_ok I1 e5 z.cls (z.na f hfc) e8 fun u s' I' ru => ⟨v, H1, I', ru, h5.p.val h1 e9⟩
    · exact h5.elim
theorem reps_rng {K : PySem.W.Frag} {ι : List Addr} {H : Hp} (j : Int) : Reps K ι H (rngD 0 j.toNat) (rgV 0 j) := by
  unfold rngD rgV
  rw [show (j - 0).toNat = j.toNat by simp]
  generalize List.range j.toNat = l
  induction l with
  | nil => exact Reps.nil
  | cons x l ih => exact Reps.cons (rep_int _) ih
theorem s_lrg (g : Gd C U cl X W) (hc : C.calm = true) {x : Ex} {p q r : Pos} (h1 : glB X.env.scope "list" = true) (h2 : glB X.env.scope "range" = true) (ns : notStar a = true) (ha : PE X a (rdE U W (ev cl x).1)) :
    PE X (.Call (.Name "list" p) [.Call (.Name "range" q) [a] [] r] [] pos) (rdE U W (ev cl (.lrg x)).1) := by
  refine (pe_listRg (g.calm hc) (glB_ok h1) (g.blt _ (by decide +kernel)) (prg_1 (glB_ok h2) (g.blt _ (by decide +kernel)) ha (star_cons ns)) rfl).imp fun σ H Q ⟨ι, s, τ, hs, hf, hp⟩ => ?_
  refine ⟨ι, s, τ, hs, hf, (Post.bindF (rel := RD U) hf hp).imp fun v H1 ⟨ι, s, d, q1, q0, q2, _, q4⟩ => ?_⟩
  cases d <;> simp only [lrgD] at q4 <;> first
    | (exact q4.elim; done)
    | (split at q4
       · rename_i j hb
         exact ⟨j, q2.int_of, ⟨by omega, by omega, by omega, by omega, by omega⟩, fun z nz => q4.p.mk q1 nz (ObR.lst nz (reps_rng j))⟩
       · exact q4.elim)
theorem Reps.reverse {K : PySem.W.Frag} {ι : List Addr} {H : Hp} : ∀ {ds : List D} {vs : List V}, Reps K ι H ds vs → Reps K ι H ds.reverse vs.reverse
  | [], vs, h => by simp only [Reps] at h; subst h; exact Reps.nil
  | d :: ds, vs, h => by
    simp only [Reps] at h
    obtain ⟨v, ws, rfl, h1, h2⟩ := h
    rw [List.reverse_cons, List.reverse_cons]
    exact (Reps.reverse h2).append (Reps.cons h1 Reps.nil)
theorem s_lrv (g : Gd C U cl X W) (hc : C.calm = true) {x : Ex} {p q r : Pos} (h1 : glB X.env.scope "list" = true) (h2 : glB X.env.scope "reversed" = true) (ns : notStar a = true) (ha : PE X a (rdE U W (ev cl x).1)) :
    PE X (.Call (.Name "list" p) [.Call (.Name "reversed" q) [a] [] r] [] pos) (rdE U W (ev cl (.lrv x)).1) := by
  refine (pe_listRev (g.calm hc) (glB_ok h1) (g.blt _ (by decide +kernel)) (glB_ok h2) (g.blt _ (by decide +kernel)) ha (star_cons ns) rfl).imp fun σ H Q ⟨ι, s, τ, hs, hf, hp⟩ => ?_
  refine ⟨ι, s, τ, hs, hf, (Post.bindF (rel := RD U) hf hp).imp fun v H1 ⟨ι, s, d, q1, q0, q2, _, q4⟩ => ?_⟩
  cases d <;> simp only [lrvD] at q4 <;> first
    | (exact q4.elim; done)
    | (split at q4
       · rename_i ds e
         simp only [Rep] at q2
         obtain ⟨ad, rfl, i⟩ := q2
         obtain ⟨vs, h3, h4⟩ := lst_sq q1 e i
         exact ⟨ad, vs, rfl, g.hK ▸ h3, fun z nz => q4.p.mk q1 nz (ObR.lst nz h4.reverse)⟩
       · exact q4.elim)
/-- x == y by an own __eq__ -/
theorem op_own (g : Gd C U cl X W) (hc : C.calm = true) : OpR X (compareOp .Eq) (rOp U (boolR (oeqD cl))) := by
  intro pins s σ H x y v u Q I rx ry ⟨ι, st, d, e, hs, r1, r2, hp⟩
  show wpAny (model X.prog X.w) X.A (richCompare .Eq v u) (EP X pins σ Q) X.xe s
  cases d <;> cases e <;> simp only [boolR, oeqD] at hp <;> first
    | (exact hp.elim; done)
    | skip
  rename_i m n
  simp only [Rep] at r1 r2
  obtain ⟨a1, rfl, i1⟩ := r1
  obtain ⟨a2, rfl, i2⟩ := r2
  split at hp
  case h_2 => exact hp.elim
  rename_i c fs c2 gs q1 q2
  split at hp
  case isFalse => exact hp.elim
  rename_i ec
  subst ec
  split at hp
  case h_2 => exact hp.elim
  rename_i gi q3
  obtain ⟨k, q4, q5⟩ := Option.bind_eq_some_iff.mp q3
  have z := g.cls c k q4 hc
  obtain ⟨fa, me, F⟩ := z.mth _ gi q5
  obtain ⟨dx, vs, h1, h2⟩ := hs.at (ins_of q1) i1
  obtain ⟨dy, ws, h3, h4⟩ := hs.at (ins_of q2) i2
  cases rx
  cases ry
  obtain ⟨mA, J, _⟩ := ins_get I.hok h1
  obtain ⟨mB, J', _⟩ := ins_get I.hok h3
  obtain ⟨od, J, _⟩ := J.look
  obtain ⟨od', J', _⟩ := J'.look
  obtain ⟨mm, hF⟩ := I.fr
  refine PySem.W.cmp_K (op := .Eq) (tb := .ref (U.cad c)) (by have := g.hu; omega) hF I.ok.mod.kin J J'.type (by simp [PySem.W.notFirst]) me.at_ me.fn ?_
  have hp2 : Post U (RD U) W σ ι H (cl.call gi [.ref m, .ref n] st) (fun v H' => ∃ b, v = .bl b ∧ Q v H') := by
    revert hp
    cases cl.call gi [.ref m, .ref n] st with
    | bad => exact fun z => z.elim
    | exc c' fs' s' => exact fun z => z.elim
    | ok dd s' =>
      cases dd <;> first
        | (exact fun z => z.elim)
        | (exact fun z ι' H' v' go hs' r => ⟨_, r.bl_of, z ι' H' _ go hs' r⟩)
  refine wpAny_mono (fn_run (us := [.ref a1, .ref a2]) (vs := [.ref a1, .ref a2]) (ds := [.ref m, .ref n]) g.tk F I (.cons rfl (.cons rfl .nil)) hs (Reps.cons (by simp only [Rep]; exact ⟨a1, rfl, i1⟩) (Reps.cons (by simp only [Rep]; exact ⟨a2, rfl, i2⟩) Reps.nil)) hp2) (fun r s' hq => ?_) fun _ _ x => x
  obtain ⟨xv, H', I', rz, b, rfl, hb⟩ := hq
  cases rz
  exact ⟨.bl b, H', I', rfl, hb⟩
theorem s_oeq (g : Gd C U cl X W) (hc : C.calm = true) {x y : Ex} (ha : PE X a (rdE U W (ev cl x).1)) (hb : PE X b (rdE U W (ev cl y).1)) (hm : behindInMarks (copOf .eq) b = false) : PE X (.Compare a [copOf .eq] [b] pos) (rdE U W (ev cl (.oeq x y)).1) := by
  refine (pe_cmpR (op_own g hc) ha hb hm).imp fun σ H Q ⟨ι, s, τ, hs, hf, hp⟩ => ?_
  obtain ⟨ι, s, τ, h1, h2, h3⟩ := Gd.rd2 hs hf (Post.bv (W' := W) (σ' := σ) hp)
  refine ⟨ι, s, τ, h1, h2, h3.imp fun v H1 ⟨ι, s, τ, h1, h2, h3⟩ => ⟨ι, s, τ, h1, h2, h3.imp fun v H1 ⟨ι, s, d, e, q1, _, q2, q3, q4⟩ => ⟨ι, s, d, e, q1, q2, q3, ?_⟩⟩⟩
  exact (Post.vb q4).imp fun x H ⟨k, e, z⟩ => e ▸ z
theorem t_oeq (g : Gd C U cl X W) (hc : C.calm = true) {x y : Ex} (ha : PE X a (rdE U W (ev cl x).1)) (hb : PE X b (rdE U W (ev cl y).1)) (hm : behindInMarks (copOf .eq) b = false) : PT X (.Compare a [copOf .eq] [b] pos) (rdT U W (ev cl (.oeq x y)).2) := by
  refine (pt_cmpR (op_own g hc) ha hb hm).imp fun σ H Q ⟨ι, s, τ, hs, hf, hp⟩ => ?_
  obtain ⟨ι, s, τ, h1, h2, h3⟩ := Gd.rd2 hs hf hp
  exact ⟨ι, s, τ, h1, h2, h3.imp fun v H1 ⟨ι, s, τ, h1, h2, h3⟩ => ⟨ι, s, τ, h1, h2, h3.imp fun v H1 ⟨ι, s, d, e, q1, _, q2, q3, q4⟩ => ⟨ι, s, d, e, q1, q2, q3, Post.vb q4⟩⟩⟩
theorem s_dct : PE X (.Dict [] [] pos) (rdE U W (ev cl .dct).1) := by
  refine pe_dnewK.imp fun σ H Q ⟨ι, s, τ, hs, hf, hp⟩ => ?_
  have hp : Post U (RD U) W σ ι H (new (.dct []) s) Q := hp
  exact fun p np => hp.p.mk hs np (ObR.dct np (vs := []) rfl)
/-- a new instance is tracked -/
theorem new_ins {ι : List Addr} {H : Hp} {s : S} (hs : RelS U ι s H) {c : Str} {x dx : Addr} (nx : H x = none) (nd : H dx = none) (ne : dx ≠ x) :
    RelS U (ι ++ [x]) (s ++ [.ins c []]) (upd (upd H dx (.own x)) x (.ins (U.cad c) dx [])) ∧ Go ι H (ι ++ [x]) (upd (upd H dx (.own x)) x (.ins (U.cad c) dx [])) := by
  have sm : Same H (upd (upd H dx (.own x)) x (.ins (U.cad c) dx [])) := fun b u e => by
    rw [upd_ne (ne_of_none e nx), upd_ne (ne_of_none e nd)]
    exact e
  exact ⟨hs.new nx sm ⟨dx, [], upd_same, rfl⟩, Go.new sm nx⟩
/-- C(..) is run -/
theorem make_run {pins : List (Addr × Obj)} {σ : L2.St} {H : Hp} {sh : Shared} {Q : VK} {us : List Value} {vs : List V} {fi Ca : Addr} {fd : FuncData} {ps : List Str} {sp : Sp} {k : Nat} (tk : Takes X W) (M : Mk X.K Ca fi) (F : FnOk X.prog X.w X.K X.mg X.base (L2.CX X.prog X.w) k fi fd ps sp) (ro : Room (k + 1) X.A) (bi : Binds X.K fd ps [])
    (I : Inv X pins σ H sh) (r : Vals vs us)
    (h : ∀ x dx, H x = none → H dx = none → dx ≠ x → sp (.ref x :: vs) (upd (upd H dx (.own x)) x (.ins Ca dx [])) (fun v H2 => v = .non ∧ Q (.ref x) H2) (WE W σ)) :
    wpAny (model X.prog X.w) X.A (call (.ref Ca) us) (EP X pins σ Q) X.xe sh := by
  have q0 := h (sh.heap.objs.size + 1) sh.heap.objs.size (I.hok.fresh (Nat.le_succ _)) (I.hok.fresh (Nat.le_refl _)) (Nat.ne_of_lt (Nat.lt_succ_self _))
  have J := Inv.made (C := Ca) I
  have rr : Vals (V.ref (sh.heap.objs.size + 1) :: vs) (Value.ref (sh.heap.objs.size + 1) :: us) := .cons rfl r
  have ln : (Value.ref (sh.heap.objs.size + 1) :: us).length = ps.length := by rw [← rr.length, F.len _ _ _ _ q0]
  have bb := bi _ (Value.ref (sh.heap.objs.size + 1) :: us) J.kIn (by rw [List.append_nil]; exact ln)
  rw [List.append_nil] at bb
  refine wpAny_call (make_map (f := fi) I.kIn M.makes M.init (beq_iff_eq.mp M.fn) (codeAny_mono (F.run _ X.stack _ _ ⟨Value.ref (sh.heap.objs.size + 1) :: us, []⟩ (Value.ref (sh.heap.objs.size + 1) :: us) _ _ (WE W σ) (ro.make Ca us [])
    (J.env0.make Ca us []) bb rr q0) fun re s' hq => ?_))
  cases re with
  | error er => exact passAt tk σ pins _ _ er s' J hq
  | ok fl =>
    cases fl with
    | ret u =>
      obtain ⟨v, H', I3, rv, ev, q3⟩ := J.after hq
      subst ev
      exact ⟨rv, ⟨V.ref (sh.heap.objs.size + 1), H', I3, rfl, q3⟩⟩
    | next => exact hq.elim
    | brk => exact hq.elim
    | cont => exact hq.elim
theorem s_mk (g : Gd C U cl X W) (hc : C.calm = true) {c : Str} {es : Exs} {y : Expr} {ys : List Expr} {p : Pos} (hg : glB X.env.scope c = true) (hm : nmB c = true) (ho : okEs C es X.env.scope (y :: ys) = true)
    (ha : PA X (y :: ys) (rdA U W (evs cl es))) : PE X (.Call (.Name c p) (y :: ys) [] pos) (rdE U W (ev cl (.mk c es)).1) := by
  refine ⟨fun pins sh σ H Q I ⟨ι, s, τ, hs, hf, hp⟩ => ?_⟩
  have hp : Post U (RD U) W σ ι H (match initF cl c with
    | some f => (evs cl es τ s).bind fun ds s => mkD cl c f ds s
    | none => .bad) Q := hp
  split at hp
  case h_2 => exact hp.elim
  rename_i gi e0
  obtain ⟨k, ek, ei⟩ := Option.bind_eq_some_iff.mp e0
  have z := g.cls c k ek hc
  obtain ⟨fi, M, fd, ps, kk, F, ro, bi⟩ := z.init gi ei
  obtain ⟨o1, o2⟩ := okEs_cons (pos := pos) ho
  refine wpAny_Call_Name_kw (ld_glob I (glB_ok hg) z.mg ?_ (nmB_ok hm).1)
  refine PySem.W.callWith_K (h₀ := X.base) I.ok.mod.kin M.kp (thn (ha.run pos pins sh σ H _ I ⟨ι, s, τ, hs, hf, post_evs hf hp⟩) fun us s1 ⟨vs, H1, I1, r, ι1, st1, ds, q1, _, q2, q3, _, q4⟩ => ⟨I1.kIn, ?_⟩) o1 o2
  refine make_run g.tk M F ro bi I1 r fun x dx nx nd ne => ?_
  obtain ⟨r1, go⟩ := new_ins q1 (c := c) nx nd ne
  have rx : Rep U.K (ι1 ++ [x]) (upd (upd H1 dx (.own x)) x (.ins (U.cad c) dx [])) (.ref st1.length) (.ref x) := by
    simp only [Rep]
    exact ⟨x, rfl, by rw [← q1.len]; simp⟩
  refine ⟨ι1 ++ [x], st1 ++ [.ins c []], .ref st1.length :: ds, r1, Reps.cons rx (q2.mono go.ex go.tups), ?_⟩
  have q5 : Post U (RD U) W σ (ι1 ++ [x]) (upd (upd H1 dx (.own x)) x (.ins (U.cad c) dx [])) ((cl.call gi (.ref st1.length :: ds) (st1 ++ [.ins c []])).bind (asNew st1.length)) Q := Post.mono go q4
  revert q5
  cases cl.call gi (.ref st1.length :: ds) (st1 ++ [.ins c []]) with
  | ok d s' =>
    simp only [R.bind_ok]
    intro q5 ι2 H2 v go2 rs2 rv
    cases d with
    | non => exact ⟨rv.non_of, q5 ι2 H2 (.ref x) go2 rs2 (rx.mono go2.ex go2.tups)⟩
    | _ => exact q5.elim
  | exc c fs s' => exact fun z => z
  | bad => exact fun z => z
/-! isinstance of an own class -/
theorem isc_D (g : Gd C U cl X W) (hc : C.calm = true) {ι : List Addr} {s s' : S} {H : Hp} (hs : RelS U ι s H) {c : Str} {d : D} {x : V} {b : Bool} (r : Rep U.K ι H d x) (h : iscD cl c d s = .ok b s') :
    s' = s ∧ ∃ k, cl.cls c = some k ∧ ∃ tv, TyX X.K H x tv ∧ PySem.W.kitOne X.K tv (.ref (U.cad c)) = some b := by
  have fin : ∀ (T : String), T ∈ ["NoneType", "bool", "int", "str", "list", "tuple", "dict"] → TyX X.K H x (.type T) → (cl.cls c).isSome = true → s' = s → b = false →
      s' = s ∧ ∃ k, cl.cls c = some k ∧ ∃ tv, TyX X.K H x tv ∧ PySem.W.kitOne X.K tv (.ref (U.cad c)) = some b := fun T hT ty hk e1 e2 => by
    obtain ⟨k, ek⟩ := Option.isSome_iff_exists.mp hk
    exact ⟨e1, k, ek, _, ty, by rw [e2]; exact (g.cls c k ek hc).bt T hT⟩
  cases d with
  | non => cases r.non_of; simp only [iscD] at h; split at h <;> cases h; exact fin _ (by decide) (.base .non) (by assumption) rfl rfl
  | bl _ => cases r.bl_of; simp only [iscD] at h; split at h <;> cases h; exact fin _ (by decide) (.base (.bl _)) (by assumption) rfl rfl
  | int _ => cases r.int_of; simp only [iscD] at h; split at h <;> cases h; exact fin _ (by decide) (.base (.int _)) (by assumption) rfl rfl
  | str _ => cases r.str_of; simp only [iscD] at h; split at h <;> cases h; exact fin _ (by decide) (.base (.str _)) (by assumption) rfl rfl
  | tup ds =>
    simp only [Rep] at r
    obtain ⟨a, vs, rfl, h1, h2⟩ := r
    simp only [iscD] at h
    split at h <;> cases h
    refine fin "tuple" (by decide) ?_ (by assumption) rfl rfl
    rcases h1 with h1 | ⟨o, its, n, h1, h3, _⟩
    · exact .base (.tup h1)
    · exact .kTuple (g.hK ▸ h1) h3
  | flst ds =>
    simp only [Rep] at r
    obtain ⟨a, vs, rfl, h1, h2⟩ := r
    simp only [iscD] at h
    split at h <;> cases h
    refine fin "list" (by decide) ?_ (by assumption) rfl rfl
    rcases h1 with ⟨o, h1⟩ | ⟨o, its, n, h1, h3, _⟩
    · exact .base (.frz h1)
    · exact .kList (g.hK ▸ h1) h3
  | ref n =>
    simp only [Rep] at r
    obtain ⟨a, rfl, i⟩ := r
    simp only [iscD] at h
    split at h
    · rename_i x fs q
      split at h
      · rename_i hk
        cases h
        obtain ⟨k, ek⟩ := Option.isSome_iff_exists.mp hk.1
        obtain ⟨k2, ek2⟩ := Option.isSome_iff_exists.mp hk.2
        obtain ⟨dx, vs, h1, h2⟩ := hs.at q i
        have z := g.cls x k ek hc
        have z2 := g.cls c k2 ek2 hc
        exact ⟨rfl, k2, ek2, _, .base (.ins h1 z.cls z.ins.1 z.ins.2.1 z.ins.2.2.1 z.ins.2.2.2), z2.one x k ek⟩
      · cases h
    · cases h
    · cases h
    · rename_i o hne hnf hns q
      split at h
      · cases h
        cases o with
        | lst ds => obtain ⟨vs, h1, h2⟩ := hs.at q i; exact fin _ (by decide) (.base (.lst h1)) (by assumption) rfl rfl
        | dct ds => obtain ⟨vs, h1, h2⟩ := hs.at q i; exact fin _ (by decide) (.base (.dK h1)) (by assumption) rfl rfl
        | ins cc fs => exact (hne cc fs rfl).elim
        | frd ds => exact (hnf ds rfl).elim
        | set ds => exact (hns ds rfl).elim
      · cases h
    · cases h
theorem isc_noexc {c : Str} {d : D} {s : S} : ∀ cc fs s', iscD cl c d s ≠ .exc cc fs s' := by
  intro cc fs s' h
  cases d <;> simp only [iscD] at h <;> first
    | (cases h; done)
    | (split at h <;> cases h; done)
    | (split at h <;> first
        | (cases h; done)
        | (split at h <;> cases h))
theorem s_isc (g : Gd C U cl X W) (hc : C.calm = true) {c : Str} {x : Ex} {p q : Pos} (hg : glB X.env.scope "isinstance" = true) (hg2 : glB X.env.scope c = true) (hm : nmB c = true) (ns : notStar a = true) (ha : PE X a (rdE U W (ev cl x).1)) :
    PE X (.Call (.Name "isinstance" p) [a, .Name c q] [] pos) (rdE U W (ev cl (.isc x c)).1) := by
  by_cases hk : (cl.cls c).isSome = true
  · obtain ⟨k, ek⟩ := Option.isSome_iff_exists.mp hk
    have z := g.cls c k ek hc
    have hb : PE X (.Name c q) (tC (.ref (U.cad c))) := pe_glob (glB_ok hg2) z.mg rfl (nmB_ok hm).1
    refine (pe_callB (call_isi (X := X)) (glB_ok hg) (g.blt _ (by decide +kernel)) (by decide +kernel) (pa_cons ha (pa_cons hb pa_nil rfl) (star_cons ns)) (by decide +kernel) (by decide +kernel) (star_cons ns) rfl).imp fun σ H Q ⟨ι, s, τ, hs, hf, hp⟩ => ?_
    have hp : Post U (RD U) W σ ι H (if (cl.cls c).isSome = true then ((ev cl x).1 τ s).bind fun x s => (iscD cl c x s).bind fun b s => .ok (.bl b) s else .bad) Q := hp
    rw [if_pos hk] at hp
    refine ⟨ι, s, τ, hs, hf, (Post.bindF (rel := RD U) hf hp).imp fun v H1 ⟨ι, s, d, q1, q0, q2, _, q4⟩ => ?_⟩
    show rIsi X.K [v, .ref (U.cad c)] H1 Q
    cases h : iscD cl c d s with
    | ok b s' =>
      obtain ⟨rfl, _, _, tv, h1, h2⟩ := isc_D g hc q1 q2 h
      rw [h] at q4
      exact ⟨v, .ref (U.cad c), tv, .ref (U.cad c), b, rfl, .own _, h1, h2, q4.p.val q1 (rep_bl _)⟩
    | exc c fs s' => exact (isc_noexc _ _ _ h).elim
    | bad => rw [h] at q4; exact q4.elim
  · refine ⟨fun pins sh σ H Q I ⟨ι, s, τ, hs, hf, hp⟩ => ?_⟩
    have hp : Post U (RD U) W σ ι H (if (cl.cls c).isSome = true then ((ev cl x).1 τ s).bind fun x s => (iscD cl c x s).bind fun b s => .ok (.bl b) s else .bad) Q := hp
    rw [if_neg hk] at hp
    exact hp.elim
theorem bf_in (b : Bf) : bfName b ∈ blts := by cases b <;> decide +kernel
theorem bf_boot (b : Bf) : bootBuiltins (bfName b) = some (bfVal b) := by cases b <;> decide +kernel
theorem s_blt (g : Gd C U cl X W) (hca : C.calm = true) {b : Bf} {es : Exs} {y : Expr} {ys : List Expr} {p : Pos} (hg : glB X.env.scope (bfName b) = true) (ho : okEs C es X.env.scope (y :: ys) = true)
    (ha : PA X (y :: ys) (rdA U W (evs cl es))) : PE X (.Call (.Name (bfName b) p) (y :: ys) [] pos) (rdE U W (ev cl (.blt b es)).1) := by
  have st := okEs_star (env := X.env) ho
  have ns : notStar y = true := by
    cases es with
    | nil => cases ho
    | cons e es => simp only [okEs, Bool.and_eq_true] at ho; exact ho.1.1
  have st2 : ∀ t ∈ starEach ys X.env, t.1 = false := fun t ht => st t (by rw [star_cons ns]; exact List.mem_cons_of_mem _ ht)
  have hc := blt_D (U := U) g.hK (g.calm hca) b
  have hv := bf_boot b
  have hm := g.blt _ (bf_in b)
  have fin : ∀ σ H Q, rdE U W (ev cl (.blt b es)).1 σ H Q → tCB (rCall U (bltD b)) (rdA U W (evs cl es)) σ H Q := fun σ H Q ⟨ι, s, τ, hs, hf, hp⟩ =>
    ⟨ι, s, τ, hs, hf, (post_evs hf hp).imp fun vs H1 ⟨ι, s, ds, q1, _, q2, q3, _, q4⟩ => ⟨ι, s, ds, q1, q2, q4.p⟩⟩
  have e1 : (bfName b == ("__debug__" : Str)) = false := by cases b <;> decide +kernel
  have e2 : bfName b ≠ "__name__" := by cases b <;> decide +kernel
  cases b with
  | len => exact (pe_callB hc (glB_ok hg) hm hv ha e2 e1 (star_cons ns) (back_plain st2)).imp fin
  | abs => exact (pe_callB hc (glB_ok hg) hm hv ha e2 e1 (star_cons ns) (back_plain st2)).imp fin
  | int => exact (pe_callTy hc (glB_ok hg) hm hv ha e2 e1 (star_cons ns) (back_plain st2)).imp fin
  | list => exact (pe_callTy hc (glB_ok hg) hm hv ha e2 e1 (star_cons ns) (back_plain st2)).imp fin
  | tuple => exact (pe_callTy hc (glB_ok hg) hm hv ha e2 e1 (star_cons ns) (back_plain st2)).imp fin
  | dict => exact (pe_callTy hc (glB_ok hg) hm hv ha e2 e1 (star_cons ns) (back_plain st2)).imp fin
  | sorted => exact (pe_callB hc (glB_ok hg) hm hv ha e2 e1 (star_cons ns) (back_plain st2)).imp fin
  | min => exact (pe_callB hc (glB_ok hg) hm hv ha e2 e1 (star_cons ns) (back_plain st2)).imp fin
  | max => exact (pe_callB hc (glB_ok hg) hm hv ha e2 e1 (star_cons ns) (back_plain st2)).imp fin
theorem ty_in (t : Ty) : Str.ofString (tyName t) ∈ blts := by cases t <;> decide +kernel
theorem ty_boot (t : Ty) : bootBuiltins (Str.ofString (tyName t)) = some (.type (tyName t)) := by cases t <;> decide +kernel
theorem s_isi (g : Gd C U cl X W) {t : Ty} {x : Ex} {p q : Pos} (hg : glB X.env.scope "isinstance" = true) (hg2 : glB X.env.scope (Str.ofString (tyName t)) = true) (ns : notStar a = true) (ha : PE X a (rdE U W (ev cl x).1)) :
    PE X (.Call (.Name "isinstance" p) [a, .Name (Str.ofString (tyName t)) q] [] pos) (rdE U W (ev cl (.isi x t)).1) := by
  have e1 : (Str.ofString (tyName t) == ("__debug__" : Str)) = false := by cases t <;> decide +kernel
  have e2 : Str.ofString (tyName t) ≠ "__name__" := by cases t <;> decide +kernel
  have hb : PE X (.Name (Str.ofString (tyName t)) q) (tC (.ty (tyName t))) := pe_bltn (glB_ok hg2) (g.blt _ (ty_in t)) (ty_boot t) rfl e2 e1
  refine (pe_callB (call_isi (X := X)) (glB_ok hg) (g.blt _ (by decide +kernel)) (by decide +kernel) (pa_cons ha (pa_cons hb pa_nil rfl) (star_cons ns)) (by decide +kernel) (by decide +kernel) (star_cons ns) rfl).imp fun σ H Q ⟨ι, s, τ, hs, hf, hp⟩ => ?_
  refine ⟨ι, s, τ, hs, hf, (Post.bindF (rel := RD U) hf hp).imp fun v H1 ⟨ι, s, d, q1, q0, q2, _, q4⟩ => ?_⟩
  show rIsi X.K [v, .ty (tyName t)] H1 Q
  cases h : isiD t d s with
  | ok b s' =>
    obtain ⟨rfl, tv, h1, h2⟩ := isi_D g.hK q1 q2 h
    rw [h] at q4
    exact ⟨v, .ty (tyName t), tv, .type (tyName t), b, rfl, .ty _, h1, h2, q4.p.val q1 (rep_bl _)⟩
  | exc c fs s' =>
    cases d <;> cases t <;> simp only [isiD] at h <;> first | cases h | (split at h <;> cases h)
  | bad => rw [h] at q4; exact q4.elim
theorem mi_plain (m : Mi) : PlainAttrs (miTy m) ∧ Slot (miTy m) (miName m) (miId m) ∧ typeOf (.builtin (miId m)) = pure (.type "method_descriptor") := by
  cases m with
  | lappend => exact ⟨PySem.F.plainAttrs_list, PySem.F.slot_list_append, PySem.F.type_list_append⟩
  | sjoin => exact ⟨PySem.F.plainAttrs_str, PySem.F.slot_str_join, PySem.F.type_str_join⟩
  | lclear => exact ⟨PySem.F.plainAttrs_list, PySem.F.slot_list_clear, PySem.F.type_list_clear⟩
  | dclear => exact ⟨PySem.F.plainAttrs_dict, PySem.F.slot_dict_clear, PySem.F.type_dict_clear⟩
  | dget => exact ⟨PySem.F.plainAttrs_dict, PySem.F.slot_dict_get, PySem.F.type_dict_get⟩
  | linsert => exact ⟨PySem.F.plainAttrs_list, PySem.F.slot_list_insert, PySem.F.type_list_insert⟩
  | lpop => exact ⟨PySem.F.plainAttrs_list, PySem.F.slot_list_pop, PySem.F.type_list_pop⟩
  | lextend => exact ⟨PySem.F.plainAttrs_list, PySem.F.slot_list_extend, PySem.F.type_list_extend⟩
  | dpop => exact ⟨PySem.F.plainAttrs_dict, PySem.F.slot_dict_pop, PySem.F.type_dict_pop⟩
theorem s_meth (g : Gd C U cl X W) {m : Mf} {x : Ex} {es : Exs} {ys : List Expr} {apos : Pos} (hb : baseB a = true) (hl : (apos.endLine == pos.line) = true) (hz : ys.length < 20) (ho : okEs C es X.env.scope ys = true)
    (ha : PE X a (rdE U W (ev cl x).1)) (hes : PA X ys (rdA U W (evs cl es))) : PE X (.Call (.Attribute a (mfName m) apos) ys [] pos) (rdE U W (ev cl (.meth m x es)).1) := by
  refine ⟨fun pins sh σ H Q I ⟨ι, s, τ, hs, hf, hp⟩ => ?_⟩
  have hp : Post U (RD U) W σ ι H (((ev cl x).1 τ s).bind fun x s => match mSel m x s with
    | some i => (evs cl es τ s).bind fun ds s => mtD i x ds s
    | none => .bad) Q := hp
  refine wpAny_Call_method_late (base_ok hb) (few_ok ho hz) hl rfl (thn (ha.run pins sh σ H _ I ⟨ι, s, τ, hs, hf, Post.bindF (rel := RD U) hf hp⟩) fun u s1 ⟨xv, H1, I1, rx, ι1, st1, d, h1, h2, h3, h4, h5⟩ => ?_)
  split at h5
  case h_2 => exact h5.elim
  rename_i i q
  obtain ⟨en, ty⟩ := mSel_ty g.hK h1 h3 q
  obtain ⟨p1, p2, p3⟩ := mi_plain i
  obtain ⟨t1, t2⟩ := tyV_is I1 rx ty
  refine ⟨miTy i, miId i, p1, by rw [← en]; exact p2, p3, t1, t2, ?_⟩
  have M := meth_D (U := U) (X := X) g.hK (by have := g.hu; omega) i
  cases ys with
  | nil =>
    cases es with
    | cons _ _ => cases ho
    | nil => exact Calls.callWith_builtin rfl (PySem.evalArgs_none (M pins s1 σ H1 xv [] u [] Q I1 rx .nil ⟨ι1, st1, d, [], h1, h3, Reps.nil, (show Post U (RD U) W σ ι1 H1 (mtD i d [] st1) Q from h5).p⟩))
  | cons y ys =>
    obtain ⟨o1, o2⟩ := okEs_cons (pos := pos) ho
    have hA := hes.run pos pins s1 σ H1 _ I1 ⟨ι1, st1, τ, h1, h2, post_evs h2 h5⟩
    rw [o1] at hA ⊢
    refine Calls.callWith_builtin (by show (false || (backTo pos (starEach ys X.env)).any (·.1)) = false; rw [o2] <;> rfl) (Calls.evalArgs_plain ?_)
    exact thn hA fun us s2 ⟨vs, H2, I2, r2, ι2, st2, ds, q1, _, q2, q3, q4, q5⟩ => M pins s2 σ H2 xv vs u us Q I2 rx r2 ⟨ι2, st2, d, ds, q1, h3.mono q4.ex q4.tups, q2, q5.p⟩

/-! ### what is walked -/
/-- the arguments' run, then what stands there to be walked -/
noncomputable def srcRun (cl : CL) (k : Ik) (its : Exs) : Fr → S → R Src := fun τ s => (evs cl its τ s).bind fun ds s => match srcOf k ds s with
  | some src => .ok src s
  | none => .bad
def rdI (U : Su) (W : WX) (m : Fr → S → R Src) : TI := fun σ H Q => ∃ ι s τ, RelS U ι s H ∧ RelF U ι H τ σ ∧ Post U (fun ι H src J => ItOk U ι H src J) W σ ι H (m τ s) Q
theorem PostI.val {σ : L2.St} {ι : List Addr} {H : Hp} {s : S} {src : Src} {J : It} {Q : It → Hp → Prop} (h : Post U (fun ι H src J => ItOk U ι H src J) W σ ι H (.ok src s) Q) (hs : RelS U ι s H) (i : ItOk U ι H src J) : Q J H := h ι H J (Go.refl _ _) hs i
theorem i_seq (g : Gd C U cl X W) {x : Ex} {tg : Expr} (h : PE X e (rdE U W (ev cl x).1)) : PI X tg e (rdI U W (srcRun cl .seq (.cons x .nil))) := by
  refine ((pi_list h).or ((pi_tup h).or ((pi_str h).or (pi_keys h)))).imp fun σ H Q ⟨ι, s, τ, hs, hf, hp⟩ => ?_
  have hp : Post U (fun ι H src J => ItOk U ι H src J) W σ ι H ((((ev cl x).1 τ s).bind fun d s => .ok [d] s).bind fun ds s => match srcOf .seq ds s with | some src => .ok src s | none => .bad) Q := hp
  cases q : (ev cl x).1 τ s with
  | bad => rw [q] at hp; exact hp.elim
  | exc c fs s' =>
    rw [q] at hp
    exact .inl ⟨ι, s, τ, hs, hf, by rw [q]; exact hp⟩
  | ok d s' =>
    rw [q] at hp
    simp only [R.bind_ok] at hp
    cases d with
    | ref n =>
      simp only [srcOf] at hp
      cases q2 : lstAt s' n with
      | some ds =>
        rw [q2] at hp
        refine .inl ⟨ι, s, τ, hs, hf, ?_⟩
        rw [q]
        intro ι2 H2 v go h1 h2
        have h2 : Rep U.K ι2 H2 (.ref n) v := h2
        simp only [Rep] at h2
        obtain ⟨a, rfl, ia⟩ := h2
        obtain ⟨vs, h3, h4⟩ := lst_sq h1 q2 ia
        exact ⟨a, rfl, ⟨vs, g.hK ▸ h3⟩, hp ι2 H2 _ go h1 (it_list g.hK ia)⟩
      | none =>
        rw [q2] at hp
        simp only [] at hp
        split at hp
        case h_2 => exact hp.elim
        rename_i src q3
        split at q3
        case h_2 => cases q3
        rename_i kvs q4
        cases q3
        refine .inr (.inr (.inr ⟨ι, s, τ, hs, hf, ?_⟩))
        rw [q]
        intro ι2 H2 v go h1 h2
        have h2 : Rep U.K ι2 H2 (.ref n) v := h2
        simp only [Rep] at h2
        obtain ⟨a, rfl, ia⟩ := h2
        obtain ⟨od, vs, h3, h4⟩ := h1.at q4 ia
        exact ⟨a, od, rfl, .inl ⟨vs, h3, hp ι2 H2 _ go h1 (it_keys ia h3)⟩⟩
    | flst ds =>
      refine .inl ⟨ι, s, τ, hs, hf, ?_⟩
      rw [q]
      intro ι2 H2 v go h1 h2
      have h2 : Rep U.K ι2 H2 (.flst ds) v := h2
      simp only [Rep] at h2
      obtain ⟨a, vs, rfl, h3, h4⟩ := h2
      exact ⟨a, rfl, ⟨vs, g.hK ▸ h3.sq⟩, hp ι2 H2 _ go h1 (it_flst g.hK h3 h4)⟩
    | tup ds =>
      refine .inr (.inl ⟨ι, s, τ, hs, hf, ?_⟩)
      rw [q]
      intro ι2 H2 v go h1 h2
      have h2 : Rep U.K ι2 H2 (.tup ds) v := h2
      simp only [Rep] at h2
      obtain ⟨a, vs, rfl, h3, h4⟩ := h2
      exact ⟨a, rfl, ⟨vs, g.hK ▸ h3.sq⟩, hp ι2 H2 _ go h1 (it_tup g.hK h3 h4)⟩
    | str z =>
      refine .inr (.inr (.inl ⟨ι, s, τ, hs, hf, ?_⟩))
      rw [q]
      intro ι2 H2 v go h1 h2
      exact ⟨z, h2.str_of, hp ι2 H2 _ go h1 it_str⟩
    | _ => exact hp.elim
theorem i_items (g : Gd C U cl X W) {x : Ex} {el : List Expr} {kk : Nat} {tp apos : Pos} (hb : baseB e = true) (hl : (apos.endLine == pos.line) = true) (h : PE X e (rdE U W (ev cl x).1)) : PI X (.Tuple el kk tp) (.Call (.Attribute e "items" apos) [] [] pos) (rdI U W (srcRun cl .items (.cons x .nil))) := by
  refine (pi_items h (base_ok hb) hl).imp fun σ H Q ⟨ι, s, τ, hs, hf, hp⟩ => ?_
  have hp : Post U (fun ι H src J => ItOk U ι H src J) W σ ι H ((((ev cl x).1 τ s).bind fun d s => .ok [d] s).bind fun ds s => match srcOf .items ds s with | some src => .ok src s | none => .bad) Q := hp
  refine ⟨ι, s, τ, hs, hf, ?_⟩
  cases q : (ev cl x).1 τ s with
  | bad => rw [q] at hp; exact hp.elim
  | exc c fs s' => rw [q] at hp; exact hp
  | ok d s' =>
    rw [q] at hp
    simp only [R.bind_ok] at hp
    cases d <;> simp only [srcOf] at hp <;> first
      | (exact hp.elim; done)
      | skip
    rename_i n
    split at hp
    case h_2 => exact hp.elim
    rename_i src q3
    split at q3
    case h_2 => cases q3
    rename_i kvs q4
    cases q3
    intro ι2 H2 v go h1 h2
    have h2 : Rep U.K ι2 H2 (.ref n) v := h2
    simp only [Rep] at h2
    obtain ⟨ad, rfl, ia⟩ := h2
    obtain ⟨od, vs, h3, h4⟩ := h1.at q4 ia
    exact ⟨ad, od, vs, rfl, h3, hp ι2 H2 _ go h1 (it_items ia h3)⟩
theorem i_rng1 (g : Gd C U cl X W) {es : Exs} {tg : Expr} {p : Pos} (hg : glB X.env.scope "range" = true) (ho : okEs C es X.env.scope [a] = true) (ha : PA X [a] (rdA U W (evs cl es))) : PI X tg (.Call (.Name "range" p) [a] [] pos) (rdI U W (srcRun cl .rng1 es)) := by
  have ns : notStar a = true := by
    cases es with
    | nil => cases ho
    | cons e es => simp only [okEs, Bool.and_eq_true] at ho; exact ho.1.1
  refine (pi_range1 (glB_ok hg) (g.blt _ (by decide +kernel)) ha (star_cons ns)).imp fun σ H Q ⟨ι, s, τ, hs, hf, hp⟩ => ?_
  refine ⟨ι, s, τ, hs, hf, (post_evs hf hp).imp fun vs H1 ⟨ι, s, ds, q1, _, q2, q3, _, q4⟩ => ?_⟩
  match ds, q2, q4 with
  | [.int j], q2, q4 =>
    obtain ⟨v, rfl, r⟩ := q2.one_of
    simp only [srcOf] at q4
    split at q4
    · rename_i src q5
      split at q5
      · rename_i hb
        cases q5
        exact ⟨j, by rw [r.int_of], hb.1, hb.2, PostI.val q4 q1 it_rng⟩
      · cases q5
    · exact q4.elim
  | [], q2, q4 => exact q4.elim
  | _ :: _ :: _, q2, q4 => exact (show False from by unfold srcOf at q4; split at q4 <;> simp_all [Post]).elim
  | [.non], q2, q4 => exact q4.elim
  | [.bl _], q2, q4 => exact q4.elim
  | [.str _], q2, q4 => exact q4.elim
  | [.tup _], q2, q4 => exact q4.elim
  | [.ref _], q2, q4 => exact q4.elim
  | [.flst _], q2, q4 => exact q4.elim
theorem i_rng2 (g : Gd C U cl X W) {es : Exs} {tg : Expr} {p : Pos} (hg : glB X.env.scope "range" = true) (ho : okEs C es X.env.scope [a, b] = true) (ha : PA X [a, b] (rdA U W (evs cl es))) : PI X tg (.Call (.Name "range" p) [a, b] [] pos) (rdI U W (srcRun cl .rng2 es)) := by
  have ns : notStar a = true ∧ notStar b = true := by
    cases es with
    | nil => cases ho
    | cons e es =>
      simp only [okEs, Bool.and_eq_true] at ho
      cases es with
      | nil => cases ho.2
      | cons e2 es => simp only [okEs, Bool.and_eq_true] at ho; exact ⟨ho.1.1, ho.2.1.1⟩
  refine (pi_range2 (glB_ok hg) (g.blt _ (by decide +kernel)) ha (by rw [star_cons ns.1, star_cons ns.2]; rfl) (star_cons ns.2)).imp fun σ H Q ⟨ι, s, τ, hs, hf, hp⟩ => ?_
  refine ⟨ι, s, τ, hs, hf, (post_evs hf hp).imp fun vs H1 ⟨ι, s, ds, q1, _, q2, q3, _, q4⟩ => ?_⟩
  cases q5 : srcOf .rng2 ds s with
  | none => simp only [q5] at q4; exact q4.elim
  | some src =>
    simp only [q5] at q4
    have key : ∃ i j : Int, ds = [.int i, .int j] := by
      unfold srcOf at q5
      split at q5 <;> first
        | contradiction
        | exact ⟨_, _, rfl⟩
        | (rename_i h; cases h)
    obtain ⟨i, j, rfl⟩ := key
    simp only [srcOf] at q5
    split at q5
    · rename_i hb
      cases q5
      obtain ⟨v, w, rfl, r, r'⟩ := q2.two_of
      exact ⟨i, j, by rw [r.int_of, r'.int_of], hb, PostI.val q4 q1 it_rng⟩
    · cases q5

/-! ### comprehensions -/
theorem lc_parts (g : Gd C U cl X W) (hcm : C.calm = true) {elt cond : Ex} {t : Tv} {k : Ik} {its : Exs} {own : List (Str × Nat)} {tg it el : Expr} {ifs : List Expr} {scope : Scope} (hb : blkC C.N X.env.scope scope own = true) (hown : ∀ i ∈ tvIs t, i ∈ own.map (·.2)) (hns : notSet it = true)
    (hc : ∀ X' : Cx, Gd C U cl X' (fun _ _ _ _ => False) → X'.env.scope = relS scope X.env.scope → (ifs = [] ∧ cond.isNop = true) ∨ (∃ i, ifs = [i] ∧ cond.isNop = false ∧ PT X' i (rdT U (fun _ _ _ _ => False) (ev cl cond).2))) :
    ∃ tt : TT, (∀ (s : Shared) (H : Hp) (Cl : Addr) (cl' : List (Str × Addr)) (fp : List Addr), PTs (X.blk s H scope (compEnvC scope cl' Cl X.env) fp) ifs tt) ∧
      ∀ σ H Q, rdE U W (ev cl (.lc elt t k its cond own)).1 σ H Q → tLc (rdI U W (srcRun cl k its)) (gT X.K t) tt (rdE U (fun _ _ _ _ => False) (ev cl elt).1) (own.map (·.2)) σ H Q := by
  have gb : ∀ (s : Shared) (H : Hp) (Cl : Addr) (cl' : List (Str × Addr)) (fp : List Addr), Gd C U cl (X.blk s H scope (compEnvC scope cl' Cl X.env) fp) (fun _ _ _ _ => False) := fun s H Cl cl' fp => g.blk hcm s H scope _ fp
  have okb : BlkOk X.N X.env.scope scope own := by rw [g.hN]; exact blkOk_by hb
  obtain ⟨tt, htt, hrd⟩ : ∃ tt : TT, (∀ (s : Shared) (H : Hp) (Cl : Addr) (cl' : List (Str × Addr)) (fp : List Addr), PTs (X.blk s H scope (compEnvC scope cl' Cl X.env) fp) ifs tt) ∧
      ∀ σ ι s τ H Q, RelS U ι s H → RelF U ι H τ σ → Post U RB (fun _ _ _ _ => False) σ ι H (if cond.isNop = true then .ok true s else ((ev cl cond).2 τ s).calm : R Bool) Q → tt σ H Q := by
    by_cases hn : cond.isNop = true
    · refine ⟨tYes, fun s H Cl cl' fp => ?_, fun σ ι s τ H Q hs hf hp => ?_⟩
      · rcases hc _ (gb s H Cl cl' fp) rfl with ⟨rfl, _⟩ | ⟨i, rfl, h1, _⟩
        · exact pts_nil
        · rw [hn] at h1; cases h1
      · rw [if_pos hn] at hp; exact hp.pb.val hs
    · refine ⟨rdT U (fun _ _ _ _ => False) (ev cl cond).2, fun s H Cl cl' fp => ?_, fun σ ι s τ H Q hs hf hp => ?_⟩
      · rcases hc _ (gb s H Cl cl' fp) rfl with ⟨rfl, h1⟩ | ⟨i, rfl, h1, h2⟩
        · exact absurd h1 hn
        · exact pts_one h2
      · rw [if_neg hn] at hp; exact ⟨ι, s, τ, hs, hf, hp.calm⟩
  refine ⟨tt, htt, fun σ H Q ⟨ι, s, τ, hs, hf, hp⟩ => ?_⟩
  -- the source
  let G : Src → D → S → R (Option D) := fun src d s => match asgV t d s (wipeF τ (own.map (·.2))) with
    | none => .bad
    | some τ' => ((if cond.isNop = true then .ok true s else ((ev cl cond).2 τ' s).calm : R Bool)).bind fun c s => if c = true then (((ev cl elt).1 τ' s).calm).bind fun y s => .ok (some y) s else .ok none s
  have hp : Post U (RD U) W σ ι H ((evs cl its τ s).bind fun ds s => match srcOf k ds s with
    | none => .bad
    | some src => if src.items.length < sizeLine then (lcS src.ok (G src) src.items s).bind fun r s => new (.lst r) s else .bad) Q := hp
  have hp2 : Post U (RD U) W σ ι H ((srcRun cl k its τ s).bind fun src s => if src.items.length < sizeLine then (lcS src.ok (G src) src.items s).bind fun r s => new (.lst r) s else .bad) Q := by
    unfold srcRun
    cases q : evs cl its τ s with
    | ok ds s' =>
      rw [q] at hp
      simp only [R.bind_ok] at hp ⊢
      cases q2 : srcOf k ds s' with
      | none => rw [q2] at hp; exact hp
      | some src => rw [q2] at hp; exact hp
    | exc c fs s' => rw [q] at hp; exact hp
    | bad => rw [q] at hp; exact hp
  refine ⟨ι, s, τ, hs, hf, (Post.bindF (rel := fun ι H src J => ItOk U ι H src J) hf hp2).imp fun J H1 ⟨ι1, s1, src, q1, q0, q2, _, q4⟩ => ?_⟩
  split at q4
  case isFalse => exact q4.elim
  rename_i hlen
  intro Dn nD
  -- W i m H: i items are gone, the list at Dn holds acc
  have gN : ∀ H2 : Hp, Go ι1 H1 ι1 (upd H1 Dn (.lst [])) := fun _ => Go.same (same_new nD)
  refine ⟨fun i m H2 => ∃ ι2 s2 acc accV, RelS U ι2 s2 H2 ∧ Go ι1 H1 ι2 H2 ∧ Dn ∉ ι2 ∧ H2 Dn = some (.lst accV) ∧ Reps U.K ι2 H2 acc accV ∧ acc.length ≤ i ∧ i ≤ src.items.length ∧ m = src.items.length - i ∧
      Post U (RD U) W σ ι1 H1 ((lcS src.ok (G src) (src.items.drop i) s2).bind fun r s => new (.lst (acc ++ r)) s) Q, ⟨src.items.length, ι1, s1, [], [], q1.same (same_new nD), Go.same (same_new nD), q1.fresh nD, upd_same, Reps.nil, Nat.le_refl _, Nat.zero_le _, by omega, by rw [List.drop_zero]; exact q4⟩, ?_⟩
  rintro i m H2 ⟨ι2, s2, acc, accV, hs2, go2, nm, hD, ra, hl1, hl2, rfl, post⟩
  cases ed : src.items.drop i with
  | nil =>
    have hi : src.items.length ≤ i := by simpa using ed
    rw [ed] at post
    unfold lcS at post
    split at post
    · rename_i ok
      refine .inl ⟨(q2 ι2 s2 H2 go2 hs2 ok i).2 hi, ?_⟩
      simp only [R.bind_ok, List.append_nil] at post
      have go3 : Go ι1 H1 (ι2 ++ [Dn]) H2 := by
        obtain ⟨l, e, hl⟩ := go2.ext
        refine ⟨⟨l ++ [Dn], by rw [e, List.append_assoc], fun a ha => ?_⟩, go2.keep, go2.tups, go2.there, go2.fz⟩
        rcases List.mem_append.mp ha with ha | ha
        · exact hl a ha
        · have z : a = Dn := by simpa using ha
          rw [z]; exact nD
      have hs3 : RelS U (ι2 ++ [Dn]) (s2 ++ [.lst acc]) H2 := by
        refine ⟨by simp [hs2.len], fun n x e => ?_, fun n m a h1 h2 => ?_⟩
        · by_cases hn : n < s2.length
          · rw [List.getElem?_append_left hn] at e
            obtain ⟨a, h1, h2⟩ := hs2.ob n x e
            exact ⟨a, (Ext.one _ _).at h1, h2.same (Ext.one _ _) (Kept.refl _) (fun u z => z)⟩
          · have hl := (List.getElem?_eq_some_iff.mp e).1
            simp at hl
            have en : n = s2.length := by omega
            subst en
            simp at e
            subst e
            exact ⟨Dn, by rw [← hs2.len]; simp, accV, hD, ra.mono (Ext.one _ _) (Kept.refl _)⟩
        · have key : ∀ (k : Nat), (ι2 ++ [Dn])[k]? = some a → (ι2[k]? = some a ∧ a ≠ Dn) ∨ (k = ι2.length ∧ a = Dn) := by
            intro k e3
            by_cases hk' : k < ι2.length
            · rw [List.getElem?_append_left hk'] at e3
              exact .inl ⟨e3, fun z => nm (z ▸ List.mem_of_getElem? e3)⟩
            · have hl := (List.getElem?_eq_some_iff.mp e3).1
              simp at hl
              have : k = ι2.length := by omega
              refine .inr ⟨this, ?_⟩
              rw [this] at e3
              simp at e3
              exact e3.symm
          rcases key n h1 with ⟨a2, a3⟩ | ⟨a1, a2⟩ <;> rcases key m h2 with ⟨b2, b3⟩ | ⟨b1, b2⟩
          · exact hs2.inj n m a a2 b2
          · exact absurd b2 a3
          · exact absurd a2 b3
          · omega
      refine post (ι2 ++ [Dn]) H2 (.ref Dn) go3 hs3 ?_
      show Rep _ _ _ (.ref s2.length) _
      simp only [Rep]
      exact ⟨Dn, rfl, by rw [← hs2.len]; simp⟩
    · exact post.elim
  | cons d ds =>
    have hi : src.items[i]? = some d := by
      have := List.getElem?_drop (xs := src.items) (i := i) (j := 0)
      rw [ed] at this
      simpa using this.symm
    have hil : i < src.items.length := (List.getElem?_eq_some_iff.mp hi).1
    have ed2 : src.items.drop (i + 1) = ds := by
      have : src.items.drop (i + 1) = (src.items.drop i).drop 1 := by rw [List.drop_drop]
      rw [this, ed]; rfl
    rw [ed] at post
    unfold lcS at post
    split at post
    case isFalse => exact post.elim
    rename_i ok
    obtain ⟨jg, jy⟩ := (q2 ι2 s2 H2 go2 hs2 ok i).1 d hi
    refine .inr ⟨jg, fun H' => ∃ ι2 s2 acc accV, RelS U ι2 s2 H' ∧ Go ι1 H1 ι2 H' ∧ Dn ∉ ι2 ∧ H' Dn = some (.lst accV) ∧ Reps U.K ι2 H' acc accV ∧ acc.length ≤ i + 1 ∧
      Post U (RD U) W σ ι1 H1 ((lcS src.ok (G src) ds s2).bind fun r s => new (.lst (acc ++ r)) s) Q, fun H' ⟨ι2, s2, acc, accV, z1, z2, z3, z4, z5, z6, z7⟩ => ⟨src.items.length - (i + 1), by omega, ι2, s2, acc, accV, z1, z2, z3, z4, z5, z6, hil, rfl, by rw [ed2]; exact z7⟩, fun x H' hy => ?_⟩
    obtain ⟨gy, hs2, rx⟩ := jy x H' hy
    have go2 := go2.trans gy
    have hD := gy.keep _ _ hD nm
    have ra := ra.mono gy.ex gy.tups
    simp only [G] at post
    cases ea : asgV t d s2 (wipeF τ (own.map (·.2))) with
    | none => rw [ea] at post; exact post.elim
    | some τ' =>
      rw [ea] at post
      have hf2 : RelF U ι2 H' (wipeF τ (own.map (·.2))) (wipe σ (own.map (·.2))) := (wipeF_F (g.noexi hcm) (q0.mono go2.ex go2.tups) _)
      refine gT_ok g.hK hs2 (fun i _ => by rw [g.noexi hcm]; exact fun z => nomatch z) hf2 rx ea fun σ' hf3 hw => ⟨(hw _ hown).trans (wipe_wipe _), ?_⟩
      simp only [R.bind_assoc] at post
      have nx0 : ∀ c fs s', (if cond.isNop = true then R.ok true s2 else ((ev cl cond).2 τ' s2).calm : R Bool) ≠ .exc c fs s' := by
        intro c fs s' z
        split at z
        · cases z
        · cases q : (ev cl cond).2 τ' s2 <;> rw [q] at z <;> cases z
      refine hrd σ' ι2 s2 τ' H' _ hs2 hf3 ((Post.sw nx0 (Post.bindG (rel := RB) go2 post)).imp fun b H3 ⟨ι3, s3, b', r1, r2, r3, r4⟩ => ?_)
      have eb : b = b' := r2
      subst eb
      have hD3 := r3.keep _ _ hD nm
      have nm3 := r3.notin hD nm
      cases b with
      | false =>
        rw [if_neg Bool.false_ne_true]
        rw [if_neg Bool.false_ne_true] at r4
        exact ⟨ι3, s3, acc, accV, r1, go2.trans r3, nm3, hD3, ra.mono r3.ex r3.tups, by omega, by simpa only [R.bind_ok, R.bind_assoc] using r4⟩
      | true =>
        rw [if_pos rfl]
        rw [if_pos rfl] at r4
        simp only [R.bind_assoc] at r4
        refine ⟨ι3, s3, τ', r1, hf3.mono r3.ex r3.tups, ?_⟩
        refine (Post.calm (Post.bindG (rel := RD U) (go2.trans r3) r4)).imp fun y H4 ⟨ι4, s4, y', p1, p2, p3, p4⟩ => ?_
        have hD4 := p3.keep _ _ hD3 nm3
        have nm4 := p3.notin hD3 nm3
        have rl := ra.length
        refine ⟨accV, hD4, by omega, ?_⟩
        obtain ⟨o1, o2⟩ := p1.off (o := .lst (accV ++ [y])) nm4 hD4 (fun z => z)
        refine ⟨ι4, s4, acc ++ [y'], accV ++ [y], o1, ((go2.trans r3).trans p3).off nD o2, nm4, upd_same, ?_, by simp; omega, ?_⟩
        · exact ((ra.mono (r3.trans p3).ex (r3.trans p3).tups).append (Reps.cons p2 Reps.nil)).mono (Ext.refl _) o2
        · simpa only [R.bind_ok, R.bind_assoc, List.append_assoc, List.cons_append, List.nil_append] using p4
theorem s_lc (g : Gd C U cl X W) (hcm : C.calm = true) {elt cond : Ex} {t : Tv} {k : Ik} {its : Exs} {own : List (Str × Nat)} {tg it el : Expr} {ifs : List Expr} {scope : Scope} (hb : blkC C.N X.env.scope scope own = true) (hown : ∀ i ∈ tvIs t, i ∈ own.map (·.2)) (hns : notSet it = true)
    (hi : PI X tg it (rdI U W (srcRun cl k its)))
    (ht : ∀ (s : Shared) (H : Hp) (Cl : Addr) (cl' : List (Str × Addr)) (fp : List Addr), PG (X.blk s H scope (compEnvC scope cl' Cl X.env) fp) tg (gT X.K t))
    (he : ∀ X' : Cx, Gd C U cl X' (fun _ _ _ _ => False) → X'.env.scope = relS scope X.env.scope → PE X' el (rdE U (fun _ _ _ _ => False) (ev cl elt).1))
    (hc : ∀ X' : Cx, Gd C U cl X' (fun _ _ _ _ => False) → X'.env.scope = relS scope X.env.scope → (ifs = [] ∧ cond.isNop = true) ∨ (∃ i, ifs = [i] ∧ cond.isNop = false ∧ PT X' i (rdT U (fun _ _ _ _ => False) (ev cl cond).2))) :
    PE X (.ListComp el [⟨tg, it, ifs, 0⟩] scope pos) (rdE U W (ev cl (.lc elt t k its cond own)).1) ∧
    ∀ {i : Nat} {y : Str} {py spos : Pos}, X.N[i]? = some y → X.env.scope.names.lookup y = some .local → swapsWith (.ListComp el [⟨tg, it, ifs, 0⟩] scope pos) (some (.Name y py)) spos.line X.env = pure true →
      ∃ te, PS X (.Assign [.Name y py] (.ListComp el [⟨tg, it, ifs, 0⟩] scope pos) spos) (tAsg te (gName i)) ∧ ∀ σ H Q, rdE U W (ev cl (.lc elt t k its cond own)).1 σ H Q → te σ H Q := by
  obtain ⟨tt, htt, hrd⟩ := lc_parts (cl := cl) (W := W) (elt := elt) (k := k) (its := its) (tg := tg) (it := it) (el := el) g hcm hb hown hns hc
  have gb : ∀ (s : Shared) (H : Hp) (Cl : Addr) (cl' : List (Str × Addr)) (fp : List Addr), Gd C U cl (X.blk s H scope (compEnvC scope cl' Cl X.env) fp) (fun _ _ _ _ => False) := fun s H Cl cl' fp => g.blk hcm s H scope _ fp
  have okb : BlkOk X.N X.env.scope scope own := by rw [g.hN]; exact blkOk_by hb
  exact ⟨(pe_lc (g.calm hcm) g.nd hi okb (g := gT X.K t) ht htt (fun s H Cl cl' fp => he _ (gb s H Cl cl' fp) rfl) (fold_ok hns)).imp hrd,
    fun {i y py spos} hy hyl hsw => ⟨_, ps_setLc (g.calm hcm) g.nd hy hyl hsw hi okb (g := gT X.K t) ht htt (fun s H Cl cl' fp => he _ (gb s H Cl cl' fp) rfl) (fold_ok hns), hrd⟩⟩
/-! ### dict comprehensions -/
theorem length_setK {κ α : Type} [DecidableEq κ] (kvs : List (κ × α)) (k : κ) (v : α) : (setK kvs k v).length ≤ kvs.length + 1 := by
  unfold setK
  split <;> simp
theorem s_dc (g : Gd C U cl X W) (hcm : C.calm = true) {kx vx : Ex} {t : Tv} {k : Ik} {its : Exs} {own : List (Str × Nat)} {tg it el vl : Expr} {scope : Scope} (hb : blkC C.N X.env.scope scope own = true) (hown : ∀ i ∈ tvIs t, i ∈ own.map (·.2)) (hns : notSet it = true)
    (hi : PI X tg it (rdI U W (srcRun cl k its)))
    (ht : ∀ (s : Shared) (H : Hp) (Cl : Addr) (cl' : List (Str × Addr)) (fp : List Addr), PG (X.blk s H scope (compEnvC scope cl' Cl X.env) fp) tg (gT X.K t))
    (he : ∀ X' : Cx, Gd C U cl X' (fun _ _ _ _ => False) → X'.env.scope = relS scope X.env.scope → PE X' el (rdE U (fun _ _ _ _ => False) (ev cl kx).1))
    (hv : ∀ X' : Cx, Gd C U cl X' (fun _ _ _ _ => False) → X'.env.scope = relS scope X.env.scope → PE X' vl (rdE U (fun _ _ _ _ => False) (ev cl vx).1)) :
    PE X (.DictComp el vl [⟨tg, it, [], 0⟩] scope pos) (rdE U W (ev cl (.dc kx vx t k its own)).1) := by
  have gb : ∀ (s : Shared) (H : Hp) (Cl : Addr) (cl' : List (Str × Addr)) (fp : List Addr), Gd C U cl (X.blk s H scope (compEnvC scope cl' Cl X.env) fp) (fun _ _ _ _ => False) := fun s H Cl cl' fp => g.blk hcm s H scope _ fp
  have okb : BlkOk X.N X.env.scope scope own := by rw [g.hN]; exact blkOk_by hb
  refine (pe_dc (g.calm hcm) g.nd hi okb (g := gT X.K t) ht (fun s H Cl cl' fp => pts_nil) (fun s H Cl cl' fp => he _ (gb s H Cl cl' fp) rfl) (fun s H Cl cl' fp => hv _ (gb s H Cl cl' fp) rfl) (fold_ok hns)).imp fun σ H Q ⟨ι, s, τ, hs, hf, hp⟩ => ?_
  let G : Src → D → S → R (Key × D) := fun src d s => match asgV t d s (wipeF τ (own.map (·.2))) with
    | none => .bad
    | some τ' => (((ev cl kx).1 τ' s).calm).bind fun y s => (((ev cl vx).1 τ' s).calm).bind fun z s => match keyD y with
          | some k => .ok (k, z) s
          | none => .bad
  have hp : Post U (RD U) W σ ι H ((evs cl its τ s).bind fun ds s => match srcOf k ds s with
    | none => .bad
    | some src => if src.items.length < sizeLine then (dcS src.ok (G src) src.items s []).bind fun r s => new (.dct r) s else .bad) Q := hp
  have hp2 : Post U (RD U) W σ ι H ((srcRun cl k its τ s).bind fun src s => if src.items.length < sizeLine then (dcS src.ok (G src) src.items s []).bind fun r s => new (.dct r) s else .bad) Q := by
    unfold srcRun
    cases q : evs cl its τ s with
    | ok ds s' =>
      rw [q] at hp
      simp only [R.bind_ok] at hp ⊢
      cases q2 : srcOf k ds s' with
      | none => rw [q2] at hp; exact hp
      | some src => rw [q2] at hp; exact hp
    | exc c fs s' => rw [q] at hp; exact hp
    | bad => rw [q] at hp; exact hp
  refine ⟨ι, s, τ, hs, hf, (Post.bindF (rel := fun ι H src J => ItOk U ι H src J) hf hp2).imp fun J H1 ⟨ι1, s1, src, q1, q0, q2, _, q4⟩ => ?_⟩
  split at q4
  case isFalse => exact q4.elim
  rename_i hlen
  intro Dn nD
  refine ⟨fun i m H2 => ∃ ι2 s2 acc accV, RelS U ι2 s2 H2 ∧ Go ι1 H1 ι2 H2 ∧ Dn ∉ ι2 ∧ H2 Dn = some (.dK accV) ∧ RepF U.K ι2 H2 acc accV ∧ acc.length ≤ i ∧ i ≤ src.items.length ∧ m = src.items.length - i ∧
      Post U (RD U) W σ ι1 H1 ((dcS src.ok (G src) (src.items.drop i) s2 acc).bind fun r s => new (.dct r) s) Q, ⟨src.items.length, ι1, s1, [], [], q1.same (same_new nD), Go.same (same_new nD), q1.fresh nD, upd_same, rfl, Nat.le_refl _, Nat.zero_le _, by omega, by rw [List.drop_zero]; exact q4⟩, ?_⟩
  rintro i m H2 ⟨ι2, s2, acc, accV, hs2, go2, nm, hD, ra, hl1, hl2, rfl, post⟩
  cases ed : src.items.drop i with
  | nil =>
    have hi : src.items.length ≤ i := by simpa using ed
    rw [ed] at post
    unfold dcS at post
    split at post
    · rename_i ok
      refine .inl ⟨(q2 ι2 s2 H2 go2 hs2 ok i).2 hi, ?_⟩
      simp only [R.bind_ok] at post
      have go3 : Go ι1 H1 (ι2 ++ [Dn]) H2 := by
        obtain ⟨l, e, hl⟩ := go2.ext
        refine ⟨⟨l ++ [Dn], by rw [e, List.append_assoc], fun a ha => ?_⟩, go2.keep, go2.tups, go2.there, go2.fz⟩
        rcases List.mem_append.mp ha with ha | ha
        · exact hl a ha
        · have z : a = Dn := by simpa using ha
          rw [z]; exact nD
      have hs3 : RelS U (ι2 ++ [Dn]) (s2 ++ [.dct acc]) H2 := by
        refine ⟨by simp [hs2.len], fun n x e => ?_, fun n m a h1 h2 => ?_⟩
        · by_cases hn : n < s2.length
          · rw [List.getElem?_append_left hn] at e
            obtain ⟨a, h1, h2⟩ := hs2.ob n x e
            exact ⟨a, (Ext.one _ _).at h1, h2.same (Ext.one _ _) (Kept.refl _) (fun u z => z)⟩
          · have hl := (List.getElem?_eq_some_iff.mp e).1
            simp at hl
            have en : n = s2.length := by omega
            subst en
            simp at e
            subst e
            exact ⟨Dn, by rw [← hs2.len]; simp, accV, hD, ra.mono (Ext.one _ _) (Kept.refl _)⟩
        · have key : ∀ (k : Nat), (ι2 ++ [Dn])[k]? = some a → (ι2[k]? = some a ∧ a ≠ Dn) ∨ (k = ι2.length ∧ a = Dn) := by
            intro k e3
            by_cases hk' : k < ι2.length
            · rw [List.getElem?_append_left hk'] at e3
              exact .inl ⟨e3, fun z => nm (z ▸ List.mem_of_getElem? e3)⟩
            · have hl := (List.getElem?_eq_some_iff.mp e3).1
              simp at hl
              have : k = ι2.length := by omega
              refine .inr ⟨this, ?_⟩
              rw [this] at e3
              simp at e3
              exact e3.symm
          rcases key n h1 with ⟨a2, a3⟩ | ⟨a1, a2⟩ <;> rcases key m h2 with ⟨b2, b3⟩ | ⟨b1, b2⟩
          · exact hs2.inj n m a a2 b2
          · exact absurd b2 a3
          · exact absurd a2 b3
          · omega
      refine post (ι2 ++ [Dn]) H2 (.ref Dn) go3 hs3 ?_
      show Rep _ _ _ (.ref s2.length) _
      simp only [Rep]
      exact ⟨Dn, rfl, by rw [← hs2.len]; simp⟩
    · exact post.elim
  | cons d ds =>
    have hi : src.items[i]? = some d := by
      have := List.getElem?_drop (xs := src.items) (i := i) (j := 0)
      rw [ed] at this
      simpa using this.symm
    have hil : i < src.items.length := (List.getElem?_eq_some_iff.mp hi).1
    have ed2 : src.items.drop (i + 1) = ds := by
      have : src.items.drop (i + 1) = (src.items.drop i).drop 1 := by rw [List.drop_drop]
      rw [this, ed]; rfl
    rw [ed] at post
    unfold dcS at post
    split at post
    case isFalse => exact post.elim
    rename_i ok
    obtain ⟨jg, jy⟩ := (q2 ι2 s2 H2 go2 hs2 ok i).1 d hi
    refine .inr ⟨jg, fun H' => ∃ ι2 s2 acc accV, RelS U ι2 s2 H' ∧ Go ι1 H1 ι2 H' ∧ Dn ∉ ι2 ∧ H' Dn = some (.dK accV) ∧ RepF U.K ι2 H' acc accV ∧ acc.length ≤ i + 1 ∧
      Post U (RD U) W σ ι1 H1 ((dcS src.ok (G src) ds s2 acc).bind fun r s => new (.dct r) s) Q, fun H' ⟨ι2, s2, acc, accV, z1, z2, z3, z4, z5, z6, z7⟩ => ⟨src.items.length - (i + 1), by omega, ι2, s2, acc, accV, z1, z2, z3, z4, z5, z6, hil, rfl, by rw [ed2]; exact z7⟩, fun x H' hy => ?_⟩
    obtain ⟨gy, hs2, rx⟩ := jy x H' hy
    have go2 := go2.trans gy
    have hD := gy.keep _ _ hD nm
    have ra := ra.mono gy.ex gy.tups
    simp only [G] at post
    cases ea : asgV t d s2 (wipeF τ (own.map (·.2))) with
    | none => rw [ea] at post; exact post.elim
    | some τ' =>
      rw [ea] at post
      have hf2 : RelF U ι2 H' (wipeF τ (own.map (·.2))) (wipe σ (own.map (·.2))) := (wipeF_F (g.noexi hcm) (q0.mono go2.ex go2.tups) _)
      refine gT_ok g.hK hs2 (fun i _ => by rw [g.noexi hcm]; exact fun z => nomatch z) hf2 rx ea fun σ' hf3 hw => ⟨(hw _ hown).trans (wipe_wipe _), ?_⟩
      simp only [R.bind_assoc] at post
      unfold tYes
      simp only [if_true]
      refine ⟨ι2, s2, τ', hs2, hf3, (Post.calm (Post.bindG (rel := RD U) go2 post)).imp fun y H3 ⟨ι3, s3, y', p1, p2, p3, p4⟩ => ?_⟩
      have hD3 := p3.keep _ _ hD nm
      have nm3 := p3.notin hD nm
      refine ⟨ι3, s3, τ', p1, hf3.mono p3.ex p3.tups, (Post.calm (Post.bindG (rel := RD U) (go2.trans p3) p4)).imp fun z H4 ⟨ι4, s4, z', r1, r2, r3, r4⟩ => ?_⟩
      have hD4 := r3.keep _ _ hD3 nm3
      have nm4 := r3.notin hD3 nm3
      cases ek : keyD y' with
      | none => simp only [ek] at r4; exact r4.elim
      | some k =>
        simp only [ek] at r4
        have rl := ra.length
        refine ⟨accV, k, rep_key ek p2, hD4, by omega, ?_⟩
        obtain ⟨o1, o2⟩ := r1.off (o := .dK (putK accV k z)) nm4 hD4 (fun z => z)
        have hz := length_setK acc k z'
        refine ⟨ι4, s4, setK acc k z', putK accV k z, o1, ((go2.trans p3).trans r3).off nD o2, nm4, upd_same, ?_, by omega, ?_⟩
        · exact (RepF.put r2 (ra.mono (p3.trans r3).ex (p3.trans r3).tups)).mono (Ext.refl _) o2
        · simpa only [R.bind_ok, R.bind_assoc] using r4
end
end G

set_option Elab.async false
set_option linter.all false
set_option maxRecDepth 100000
set_option autoImplicit false
set_option maxHeartbeats 2000000
/-! GK: sorted(a list, key=f), f a def of the program. -/
namespace G
open PySem PySem.Spec PyProof.Rows PySem.W L2
section
variable {prog : Program} {w : World} {A : Around} {E : Value → Shared → Prop} {s : Shared} {a kS : Addr} {keys : Array Value} {vs : List Value} {e e1 : Nat} {P : PySem.Fin → Shared → Prop}
theorem srt_tail {st : SortSt} {out : List Value} (nk : s.heap.get? kS = some (seqObj "list" keys e)) (na : s.heap.get? a = some (seqObj "list" #[] e1)) (hka : kS ≠ a) (hsz : keys.size ≤ sizeLine) (hz : out.length ≤ sizeLine) (hfl : failedOf st = none) (ho : (arrOf st).map (·.2) = out.toArray)
    (h : ∀ tk, P (.done (.ret .none)) { s with heap := (s.heap.update kS (Obj.mapSeq fun _ => #[])).update a (Obj.mapSeq fun _ => out.toArray), toks := tk }) : wpAny (model prog w) A (ksk_tail a false e1 (.ref kS) st) P E s := by
  have s1 := Heap.SameBut.update s.heap kS (Obj.mapSeq fun _ => (#[] : Array Value))
  have n1 : (s.heap.update kS (Obj.mapSeq fun _ => (#[] : Array Value))).get? a = some (seqObj "list" #[] e1) := (s1.2 a hka.symm).trans na
  unfold ksk_tail
  try dsimp only
  rw [ho, hfl]
  refine wpAny_bind (listUpdate_at nk rfl ?_ hsz (Nat.zero_le _)); refine wpAny_bind (wpAny_letGo ?_); refine wpAny_bind (seqEpoch_at n1 rfl ?_)
  simp only [Bool.false_eq_true, if_false]
  refine wpAny_bind (listUpdate_at n1 rfl ?_ (Nat.zero_le _) (by rw [List.size_toArray]; omega))
  simp only [bne_self_eq_false, Bool.false_eq_true, if_false]
  exact wpAny_pure (h _)
theorem srt_end {κ : PyProof.Rows.KeyKind} (nk : s.heap.get? kS = some (seqObj "list" keys e)) (na : s.heap.get? a = some (seqObj "list" #[] e1)) (hka : kS ≠ a) (Z : SortsAt prog w A s κ keys.toList) (hsz : keys.size = vs.length) (hZ : vs.length ≤ sizeLine)
    (h : ∀ tk, P (.done (.ret .none)) { s with heap := (s.heap.update kS (Obj.mapSeq fun _ => #[])).update a (Obj.mapSeq fun _ => (sortVals κ false keys.toList vs).toArray), toks := tk }) : wpAny (model prog w) A (ksk_end a false vs.toArray e1 (.ref kS) keys) P E s := by
  obtain ⟨kd, h1, h2⟩ := Z.kind
  have hK : PyProof.Rows.KeysOf κ (keys.zip vs.toArray) := keysOf_zip Z.keys
  have hol : (sortVals κ false keys.toList vs).length = vs.length := sortVals_length false (by rw [Array.length_toList]; exact hsz)
  have hss : (keys.zip vs.toArray).size = vs.length := by rw [Array.size_zip, hsz, List.size_toArray, Nat.min_self]
  have fin : ∀ st : SortSt, (arrOf st).Perm (keys.zip vs.toArray) → SortedToK κ (arrOf st) (keys.zip vs.toArray).size → Stable κ (arrOf st) (keys.zip vs.toArray) → (arrOf st).map (·.2) = (sortVals κ false keys.toList vs).toArray := fun st hp hs ht => by
    have z := congrArg List.toArray (sort_out (rev := false) (keys := keys) (items := vs.toArray) (xs := arrOf st) (κ := κ) hK hp hs ht)
    rw [Array.toArray_toList] at z
    exact z
  suffices key : ∀ b, b = false → wpAny (model prog w) A (ksk_end a b vs.toArray e1 (.ref kS) keys) P E s from key false rfl
  intro b hb
  have eb : (if b = true then (keys.zip vs.toArray).reverse else keys.zip vs.toArray) = keys.zip vs.toArray := by rw [hb]; rfl
  have skip : ∀ t : Sem PySem.Fin, wpAny (model prog w) A t P E s → wpAny (model prog w) A (if b = true then (do let _ ← rule "list.sort.reverse"; t) else t) P E s := fun t ht => by rw [hb]; exact ht
  unfold ksk_end
  try dsimp only
  refine skip _ ?_
  rw [eb]
  by_cases hl : vs.toArray.size < 2
  · rw [if_pos hl, if_pos hl]; refine wpAny_bind (wpAny_pure ?_)
    rw [StateT.run_pure]; refine wpAny_bind (wpAny_pure ?_)
    try dsimp only
    subst hb
    refine srt_tail (st := SortSt.mk' general' (keys.zip vs.toArray) #[] 7 none) nk na hka (by rw [hsz]; exact hZ) (by rw [hol]; exact hZ) rfl (fin _ (Array.Perm.refl _) (fun i j hij hj => ?_) (Stable.refl _)) h
    rw [hss] at hj; rw [List.size_toArray] at hl
    obtain rfl : i = j := by omega
    exact KeyOrd.kle_refl _
  · rw [if_neg hl, if_neg hl]; rw [List.size_toArray] at hl
    refine wpAny_bind (h2 (by rw [Array.length_toList, hsz]; omega) _ ?_)
    refine wpAny_bind (wpAny_mono (H.wpS_sortRunsSt (κ := κ) (kd := kd) (a₀ := keys.zip vs.toArray) (st := SortSt.mk' kd (keys.zip vs.toArray) #[] 7 none) (Q := fun _ st' => failedOf st' = none ∧ (arrOf st').map (·.2) = (sortVals κ false keys.toList vs).toArray)
      h1 hK ⟨Array.Perm.refl _, rfl, rfl⟩ rfl (Stable.refl _) (by rw [hss]; omega) fun st' a1 a2 a3 a4 => ⟨a2, fin st' a1 a3 a4⟩) ?_ fun _ _ e => e)
    rintro ⟨⟨⟩, st'⟩ s' ⟨rfl, hf, ho⟩
    try dsimp only at ho ⊢
    subst hb
    exact srt_tail nk na hka (by rw [hsz]; exact hZ) (by rw [hol]; exact hZ) hf ho h
end
/-! ### what stands at places that are not ours -/
theorem RelS.add {U : Su} {ι : List Addr} {H : Hp} {s : S} {a : Addr} {o : O} (h : RelS U ι s H) (n : a ∉ ι) (ho : ObR U (ι ++ [a]) H a o) : RelS U (ι ++ [a]) (s ++ [o]) H := by
  have pl : ∀ (k : Nat) (b : Addr), (ι ++ [a])[k]? = some b → (k < ι.length ∧ ι[k]? = some b ∧ b ≠ a) ∨ (k = ι.length ∧ b = a) := fun k b e => by
    by_cases hk : k < ι.length
    · rw [List.getElem?_append_left hk] at e
      exact .inl ⟨hk, e, fun z => n (z ▸ List.mem_of_getElem? e)⟩
    · have hl := (List.getElem?_eq_some_iff.mp e).1
      simp at hl
      have hk' : k = ι.length := by omega
      subst hk'
      simp at e
      exact .inr ⟨rfl, e.symm⟩
  refine ⟨by simp [h.len], fun k x e => ?_, fun k m b h1 h2 => ?_⟩
  · by_cases hk : k < s.length
    · rw [List.getElem?_append_left hk] at e
      obtain ⟨b, h1, h2⟩ := h.ob k x e
      exact ⟨b, (Ext.one _ _).at h1, h2.same (Ext.one _ _) (Kept.refl _) fun u z => z⟩
    · have hl := (List.getElem?_eq_some_iff.mp e).1
      simp at hl
      obtain rfl : k = s.length := by omega
      simp at e
      subst e
      exact ⟨a, by rw [← h.len]; simp, ho⟩
  · rcases pl k b h1 with ⟨k1, k2, k3⟩ | ⟨k1, k2⟩ <;> rcases pl m b h2 with ⟨m1, m2, m3⟩ | ⟨m1, m2⟩
    · exact h.inj k m b k2 m2
    · exact absurd m2 k3
    · exact absurd k2 m3
    · omega
theorem Go.add {ι ι' : List Addr} {H H' : Hp} {a : Addr} (g : Go ι H ι' H') (n : H a = none) : Go ι H (ι' ++ [a]) H' := by
  obtain ⟨l, e, hl⟩ := g.ext
  refine ⟨⟨l ++ [a], by rw [e]; simp, fun b hb => ?_⟩, g.keep, g.tups, g.there, g.fz⟩
  rcases List.mem_append.mp hb with hb | hb
  · exact hl b hb
  · simp at hb; subst hb; exact n
section
variable {C : Ck} {U : Su} {cl : CL} {X : Cx} {W : WX} {pins : List (Addr × Obj)} {σ : L2.St} {H : Hp} {sh : Shared} {ι : List Addr}
/-- a function is called from within a built-in one -/
theorem fn_in2 {i : Nat} {f : Addr} {st st' : S} {d k : D} {u : Value} {v : V} {Q : VK} (F : FnAt X U cl i f) (I : Inv X pins σ H sh) (r : RelV v u) (hs : RelS U ι st H) (hr : Rep U.K ι H d v) (hc : cl.call i [d] st = .ok k st')
    (hq : ∀ ι' H' v', Go ι H ι' H' → RelS U ι' st' H' → Rep U.K ι' H' k v' → Q v' H') : wpAny (model X.prog X.w) X.A.in1.in1 (call (.ref f) [u]) (EP X pins σ Q) (fun _ _ => False) sh := by
  obtain ⟨fd, ps, kk, F, ro, b⟩ := F
  have sp : spOf U (cl.call i) [v] H Q (fun _ _ _ => False) := ⟨ι, st, [d], hs, Reps.cons hr Reps.nil, by rw [hc]; exact hq⟩
  have hl : ([u] : List Value).length = ps.length := F.len _ _ _ _ sp
  have ro2 : Room kk X.A.in1.in1 := ⟨ro.hd, by have := ro.dp; show X.A.depth + 3 * kk + 5 < _; omega, by have := ro.un; show X.A.units + 1 + 1 + 16 * kk + 200 < _; omega⟩
  refine wpAny_call (codeAny_mono (F.run X.A.in1.in1 X.stack sh H ⟨[u], []⟩ [u] [v] Q (fun _ _ _ => False) ro2 I.env0.in1.in1 (b sh [u] I.kIn hl) (.cons r .nil) sp) fun r s' hq => ?_)
  cases r with
  | error e =>
    obtain ⟨_, _, _, _, _, _, _, _, _, _, _, _, q⟩ := hq
    exact q
  | ok fl =>
    cases fl with
    | ret u => exact I.after hq
    | next => exact False.elim hq
    | brk => exact False.elim hq
    | cont => exact False.elim hq
theorem keys_cons {i : Nat} {d : D} {ds ks : List D} {st st' : S} (h : keysD cl i (d :: ds) st = .ok ks st') : ∃ k st1 kr, cl.call i [d] st = .ok k st1 ∧ keysD cl i ds st1 = .ok kr st' ∧ ks = k :: kr := by
  unfold keysD at h
  cases h1 : cl.call i [d] st with
  | bad => rw [h1] at h; cases h
  | exc c fs s => rw [h1] at h; cases h
  | ok k st1 =>
    rw [h1] at h
    simp only [R.calm_ok, R.bind_ok] at h
    cases h2 : keysD cl i ds st1 with
    | bad => rw [h2] at h; cases h
    | exc c fs s => rw [h2] at h; cases h
    | ok kr st2 => rw [h2] at h; cases h; exact ⟨k, st1, kr, rfl, h2, rfl⟩
theorem each_zip {K : PySem.W.Frag} {H : Hp} : ∀ {ds : List D} {vs : List V} {us : List Value} {ps : List PyData}, Reps K ι H ds vs → L2.Vals vs us → ps.length = ds.length → EachIs (fun u (p : D × PyData) => ∃ x, RelV x u ∧ Rep K ι H p.1 x) us (ds.zip ps)
  | [], vs, us, ps, r, v, _ => by
    simp only [Reps] at r; subst r; cases v; exact .nil
  | d :: ds, vs, us, [], r, v, h => by simp at h
  | d :: ds, vs, us, p :: ps, r, v, h => by
    simp only [Reps] at r
    obtain ⟨x, xs, rfl, r1, r2⟩ := r
    cases v with
    | cons v1 v2 => exact .cons ⟨x, v1, r1⟩ (each_zip r2 v2 (by simpa using h))
theorem each_reps {K : PySem.W.Frag} {H : Hp} : ∀ {us : List Value} {bs : List (D × PyData)}, EachIs (fun u (p : D × PyData) => ∃ x, RelV x u ∧ Rep K ι H p.1 x) us bs → ∃ xs, L2.Vals xs us ∧ Reps K ι H (bs.map (·.1)) xs
  | _, _, .nil => ⟨[], .nil, Reps.nil⟩
  | _, _, .cons ⟨x, h1, h2⟩ t => let ⟨xs, t1, t2⟩ := each_reps t; ⟨x :: xs, .cons h1 t1, Reps.cons h2 t2⟩
theorem vals_snoc {xs : List V} {us : List Value} {x : V} {u : Value} (h : L2.Vals xs us) (r : RelV x u) : L2.Vals (xs ++ [x]) (us ++ [u]) := h.append (.cons r .nil)
/-- the list that is sorted, empty meanwhile -/
def emO (a : Addr) (e : Nat) : HO := .ext fun h => h.get? a = some (seqObj "list" #[] e)
theorem emO_ok {P : Program} {w : World} {H : Hp} {h : Heap} {a : Addr} {e : Nat} (x : h.get? a = some (seqObj "list" #[] e)) : ObjOk P w H h a (emO a e) := ⟨x, ⟨_, x⟩, fun _ _ p k => k _ p⟩
theorem sort_key (g : Gd C U cl X W) {i n : Nat} {f al : Addr} {st : S} {ds : List D} {Q : VK} (F : FnAt X U cl i f) (I : Inv X pins σ H sh) (hs : RelS U ι st H) (he : st[n]? = some (.lst ds)) (ia : ι[n]? = some al) {W2 : WX} {σ2 : L2.St} (hp : Post U (RD U) W2 σ2 ι H (srkD cl i (.ref n) st) Q) :
    wpAny (model X.prog X.w) X.A (call (.builtin "sorted") [.ref al] [(Str.ofString "key", .ref f)]) (EP X pins σ Q) X.xe sh := by
  obtain ⟨vs, hl, rr⟩ := hs.at he ia
  obtain ⟨hz, its, nn, rv, hob⟩ := I.hok al _ hl
  have hzi : its.length ≤ sizeLine := by rw [← rv.length]; exact hz
  simp only [srkD, he] at hp
  cases hk : keysD cl i ds st with
  | bad => rw [hk] at hp; exact hp.elim
  | exc c fs s =>
    exfalso
    have key : ∀ (ds : List D) (st : S) c fs s, keysD cl i ds st ≠ .exc c fs s := fun ds => by
      induction ds with
      | nil => intro st c fs s h; cases h
      | cons d ds ih =>
        intro st c fs s h
        unfold keysD at h
        cases h1 : cl.call i [d] st with
        | bad => rw [h1] at h; cases h
        | exc c' fs' s' => rw [h1] at h; cases h
        | ok k st1 =>
          rw [h1] at h
          simp only [R.calm_ok, R.bind_ok] at h
          cases h2 : keysD cl i ds st1 with
          | bad => rw [h2] at h; cases h
          | exc c' fs' s' => exact ih _ _ _ _ h2
          | ok kr st2 => rw [h2] at h; cases h
    exact key _ _ _ _ _ hk
  | ok ks sN =>
  rw [hk] at hp
  simp only [R.bind_ok] at hp
  cases hps : toPs 60 sN ks with
  | none => rw [hps] at hp; exact hp.elim
  | some ps =>
  rw [hps] at hp
  simp only at hp
  split at hp
  case isFalse => exact hp.elim
  rename_i kok
  obtain ⟨al1, so, dep⟩ := kok
  -- the copy
  refine sorted_of_sort ⟨_, hob, rfl, _, rfl⟩ hzi (ksk_s1 _ _) (fun _ => ksk_l1 _ _) fun E' => ?_
  rw [ksk_t1]
  have ho := copyHeap_at sh.heap its
  have hk0 : ∀ b o, sh.heap.get? b = some o → (copyHeap sh.heap its).get? b = some o := fun _ _ => copyHeap_old
  have hlt : ∀ b o, sh.heap.get? b = some o → b ≠ sh.heap.objs.size + 1 := fun b o e => Nat.ne_of_lt (Nat.lt_succ_of_lt (Heap.lt_size e))
  have s1 := Heap.SameBut.update (copyHeap sh.heap its) (sh.heap.objs.size + 1) (Obj.mapSeq fun _ => (#[] : Array Value))
  obtain ⟨e1, ho1⟩ : ∃ e1, ((copyHeap sh.heap its).update (sh.heap.objs.size + 1) (Obj.mapSeq fun _ => (#[] : Array Value))).get? (sh.heap.objs.size + 1) = some (seqObj "list" #[] e1) := ⟨_, get?_update_seq ho fun _ => #[]⟩
  unfold ksk_tree
  refine wpAny_bind (listItems_at ho rfl ?_); refine wpAny_bind (listUpdate_at ho rfl ?_ (by rw [List.size_toArray]; exact hzi) (Nat.zero_le _))
  refine wpAny_bind (seqEpoch_at ho1 rfl ?_); refine wpAny_bind (wpAny_newTuple ?_ (by show its.length ≤ _; exact hzi)); refine wpAny_bind (wpAny_newList ?_ (Nat.zero_le _)); refine wpAny_holding ?_
  generalize hh5 : ((copyHeap sh.heap its).update (sh.heap.objs.size + 1) (Obj.mapSeq fun _ => (#[] : Array Value))).push (seqObj "tuple" its.toArray 0) = h5
  have k5 : ∀ b o, sh.heap.get? b = some o → h5.get? b = some o := fun b o e => by
    rw [← hh5]; exact Heap.get?_push_of_some _ ((s1.2 b (hlt b o e)).trans (hk0 b o e))
  have a5 : h5.get? (sh.heap.objs.size + 1) = some (seqObj "list" #[] e1) := by rw [← hh5]; exact Heap.get?_push_of_some _ ho1
  have I5 : Inv X pins σ (upd H (sh.heap.objs.size + 1) (emO (sh.heap.objs.size + 1) e1)) { sh with heap := h5 } := I.laid (t' := sh.toks) k5 (Nat.le_succ _) (emO_ok a5)
  have k6 : (h5.push (seqObj "list" #[] 0)).get? h5.objs.size = some (seqObj "list" #[] 0) := Heap.get?_push_size _ rfl
  have I6 : Inv X pins σ (upd (upd H (sh.heap.objs.size + 1) (emO (sh.heap.objs.size + 1) e1)) h5.objs.size (.lst [])) { sh with heap := h5.push (seqObj "list" #[] 0) } := I5.laid (t' := sh.toks) (fun b o e => Heap.get?_push_of_some _ e) (Nat.le_refl _) ⟨Nat.zero_le _, [], 0, .nil, k6⟩
  have na : H (sh.heap.objs.size + 1) = none := I.hok.fresh (Nat.le_succ _)
  have nk5 : upd H (sh.heap.objs.size + 1) (emO (sh.heap.objs.size + 1) e1) h5.objs.size = none := I5.hok.fresh (Nat.le_refl _)
  have hka : h5.objs.size ≠ sh.heap.objs.size + 1 := fun z => by rw [z, upd_same] at nk5; cases nk5
  have nk : H h5.objs.size = none := by rwa [upd_ne hka] at nk5
  have sm : Same H (upd (upd H (sh.heap.objs.size + 1) (emO (sh.heap.objs.size + 1) e1)) h5.objs.size (.lst [])) := fun b u e => by
    rw [upd_ne (fun z => by rw [z, nk] at e; cases e), upd_ne (fun z => by rw [z, na] at e; cases e)]; exact e
  generalize ha : sh.heap.objs.size + 1 = a at *
  generalize hkS : h5.objs.size = kS at *
  unfold ksk_rest
  refine wpAny_bind (wpAny_rule ?_)
  first
    | rw [List.forIn_toArray]
    | (rw [← Array.forIn_toList]; simp only [List.toList_toArray])
    | rw [← Array.forIn_toList]
  refine wpAny_bind (ksk_fold (fun j s' => ∃ (H' : Hp) (ι' : List Addr) (st' : S) (done todo : List D) (vk : List V), Inv X pins σ H' s' ∧ RelS U ι' st' H' ∧ Go ι H ι' H' ∧ H' a = some (emO a e1) ∧ H' kS = some (.lst vk) ∧ a ∉ ι' ∧ kS ∉ ι' ∧
      Reps U.K ι' H' done vk ∧ keysD cl i (ds.drop j) st' = .ok todo sN ∧ ks = done ++ todo ∧ done.length = j) its 0 _
    ⟨_, ι, st, [], ks, [], I6, hs.same sm, Go.same sm, by rw [upd_ne (Ne.symm hka), upd_same], upd_same .., hs.fresh na, hs.fresh nk, Reps.nil, by rw [List.drop_zero]; exact hk, rfl, rfl⟩ ?step ?done)
  case step =>
    rintro j x s' hx ⟨H', ι', st', dn, td, vk, I', hs', go', ha', hk', na', nk', rd, hd, hks, hj⟩
    simp only [Nat.zero_add] at hd hj ⊢
    have hjl := (List.getElem?_eq_some_iff.mp hx).1
    have hjd : j < ds.length := by rw [← rr.length, rv.length]; exact hjl
    obtain ⟨d, hdj⟩ : ∃ d, ds[j]? = some d := ⟨_, List.getElem?_eq_getElem hjd⟩
    obtain ⟨v, hv1, hv2⟩ := rr.get hdj
    obtain ⟨u, hu1, hu2⟩ := rv.get hv1
    rw [hx] at hu1; cases hu1
    rw [List.drop_eq_getElem_cons hjd, show ds[j] = d from by rw [List.getElem?_eq_getElem hjd] at hdj; exact Option.some.inj hdj] at hd
    obtain ⟨k, st1, kr, hc, hd1, rfl⟩ := keys_cons hd
    refine wpAny_bind (wpAny_attempt (wpAny_mono (fn_in2 (Q := fun v' H2 => ∃ ι2, Go ι' H' ι2 H2 ∧ RelS U ι2 st1 H2 ∧ Rep U.K ι2 H2 k v') F I' hu2 hs' (hv2.mono go'.ex go'.tups) hc fun ι2 H2 v' z1 z2 z3 => ⟨ι2, z1, z2, z3⟩) (fun u' s2 hq => ?_) fun _ _ z => z.elim))
    obtain ⟨v', H2, I2, rv', ι2, go2, hs2, rk⟩ := hq
    try dsimp only
    have ha2 := go2.keep _ _ ha' na'
    have hk2 := go2.keep _ _ hk' nk'
    have nk2 := go2.notin hk' nk'
    have na2 := go2.notin ha' na'
    obtain ⟨hzk, itk, ek, rvk, hobk⟩ := I2.hok kS _ hk2
    have lk : itk.length = j := by rw [← rvk.length, rd.length]; exact hj
    have sb := Heap.SameBut.update s2.heap kS (Obj.mapSeq (·.push u'))
    obtain ⟨c2, hc2⟩ : ∃ c2, (s2.heap.update kS (Obj.mapSeq (·.push u'))).get? kS = some (seqObj "list" (itk.toArray.push u') c2) := ⟨_, get?_update_seq hobk (·.push u')⟩
    refine wpAny_bind (listUpdate_at hobk rfl ?_ (by rw [List.size_toArray]; omega) (by rw [Array.size_push, List.size_toArray]; omega))
    have I3 : Inv X pins σ (upd H2 kS (.lst (vk ++ [v']))) { s2 with heap := s2.heap.update kS (Obj.mapSeq (·.push u')) } := I2.write (e := kS) (t' := s2.toks) (by rw [hk2]; trivial) (.inl rfl) (fun b o hb e => (sb.2 b hb).trans e) ⟨_, hc2⟩
      ⟨by rw [List.length_append, List.length_singleton, rd.length]; omega, itk ++ [u'], c2, vals_snoc rvk rv', by rw [hc2]; simp⟩
    obtain ⟨hs3, kp3⟩ := hs2.off (o := .lst (vk ++ [v'])) nk2 hk2 (fun z => z)
    refine wpAny_pure ⟨rfl, _, ι2, st1, dn ++ [k], kr, vk ++ [v'], I3, hs3, (go'.trans go2).off nk kp3, by rw [upd_ne (Ne.symm hka)]; exact ha2, upd_same .., na2, nk2, ?_, hd1, by rw [hks]; simp, by simp [hj]⟩
    exact (rd.mono go2.ex (go2.tups.trans kp3)).append (Reps.cons (rk.mono (Ext.refl _) kp3) Reps.nil)
  case done =>
    rintro s' ⟨H', ι', st', dn, td, vk, I', hs', go', ha', hk', na', nk', rd, hd, hks, hj⟩
    have hdl : ds.length = its.length := by rw [← rr.length, rv.length]
    simp only [Nat.zero_add] at hd hj
    rw [List.drop_eq_nil_of_le (by omega)] at hd
    unfold keysD at hd
    cases hd
    rw [List.append_nil] at hks
    subst hks
    obtain ⟨hzk, itk, ek, rvk, hobk⟩ := I'.hok kS _ hk'
    have hoba : s'.heap.get? a = some (seqObj "list" #[] e1) := (I'.hok a _ ha').1
    try dsimp only
    refine wpAny_bind (listItems_at hobk rfl ?_)
    obtain ⟨as, ra⟩ := Dp.readsAll I' ps vk itk (g.hK ▸ toPs_dp hs' _ _ _ _ rd hps) rvk
    have each : EachIs (fun v d => ∃ as, Reads s'.heap v d as) itk ps := by
      have := readsAll_each (h := s'.heap) (fun p : PyData => p) (vs := itk) (bs := ps) (as := as) (by rw [List.map_id']; exact ra)
      exact this
    have lk : itk.length = its.length := by rw [← rvk.length, rd.length]; exact hj
    have lps : ps.length = ds.length := by rw [← each.length, lk, hdl]
    have Z : SortsAt X.prog X.w X.A.in1.in1 s' (dataKind s'.heap ps) itk.toArray.toList := by
      rw [List.toList_toArray]
      exact SortsAt.data each al1 so fun d hd => by
        have := dep d hd
        have := g.hu
        show X.A.units + 1 + 1 + d.depth < _
        omega
    refine srt_end (vs := its) hobk hoba hka Z (by rw [List.size_toArray]; exact lk) hzi fun tk => ⟨rfl, ?_⟩
    rw [List.toList_toArray]
    have ko : KeyedOut false ((ds.zip ps).map (·.2)) its (sortVals (dataKind s'.heap ps) false itk its) := ⟨s'.heap, itk, by rw [List.map_snd_zip (by omega)]; exact al1, by rw [List.map_snd_zip (by omega)], by rw [List.map_snd_zip (by omega)]; exact each⟩
    have ez := keyedOut_each (fun p : D × PyData => p.2) ko (each_zip (rr.mono go'.ex go'.tups) rv lps)
    obtain ⟨xs, x1, x2⟩ := each_reps ez
    generalize sortVals (dataKind s'.heap ps) false itk its = out at x1 ko ⊢
    have lo : out.length ≤ sizeLine := by
      have := ko.length (by rw [List.length_map, List.length_zip]; omega)
      omega
    -- the heap at the end
    have sb1 := Heap.SameBut.update s'.heap kS (Obj.mapSeq fun _ => (#[] : Array Value))
    obtain ⟨c1, hc1⟩ : ∃ c1, (s'.heap.update kS (Obj.mapSeq fun _ => (#[] : Array Value))).get? kS = some (seqObj "list" #[] c1) := ⟨_, get?_update_seq hobk fun _ => #[]⟩
    have J1 : Inv X pins σ (upd H' kS (.lst [])) { s' with heap := s'.heap.update kS (Obj.mapSeq fun _ => (#[] : Array Value)) } := I'.write (e := kS) (t' := s'.toks) (by rw [hk']; trivial) (.inl rfl) (fun b o hb e => (sb1.2 b hb).trans e) ⟨_, hc1⟩ ⟨Nat.zero_le _, [], c1, .nil, hc1⟩
    have ha1 : (s'.heap.update kS (Obj.mapSeq fun _ => (#[] : Array Value))).get? a = some (seqObj "list" #[] e1) := (sb1.2 a (Ne.symm hka)).trans hoba
    have sb2 := Heap.SameBut.update (s'.heap.update kS (Obj.mapSeq fun _ => (#[] : Array Value))) a (Obj.mapSeq fun _ => out.toArray)
    obtain ⟨c2, hc2⟩ : ∃ c2, ((s'.heap.update kS (Obj.mapSeq fun _ => (#[] : Array Value))).update a (Obj.mapSeq fun _ => out.toArray)).get? a = some (seqObj "list" out.toArray c2) := ⟨_, get?_update_seq ha1 fun _ => out.toArray⟩
    have hat : upd H' kS (.lst []) a = some (emO a e1) := by rw [upd_ne (Ne.symm hka)]; exact ha'
    have J2 : Inv X pins σ (upd (upd H' kS (.lst [])) a (.lst xs)) { s' with heap := (s'.heap.update kS (Obj.mapSeq fun _ => (#[] : Array Value))).update a (Obj.mapSeq fun _ => out.toArray), toks := tk } := J1.write (e := a) (t' := tk) (by rw [hat]; trivial) (.inl rfl) (fun b o hb e => (sb2.2 b hb).trans e) ⟨_, hc2⟩ ⟨by rw [x1.length]; exact lo, out, c2, x1, hc2⟩
    obtain ⟨r1, p1⟩ := hs'.off (o := .lst []) nk' hk' (fun z => z)
    obtain ⟨r2, p2⟩ := r1.off (o := .lst xs) na' hat (fun z => z)
    have gz : Go ι H (ι' ++ [a]) (upd (upd H' kS (.lst [])) a (.lst xs)) := ((go'.off nk p1).off na p2).add na
    refine ⟨.ref a, _, J2, rfl, ?_⟩
    have hp : ∀ ι2 H2 v, Go ι H ι2 H2 → RelS U ι2 (sN ++ [.lst (sortK ds ps)]) H2 → Rep U.K ι2 H2 (.ref sN.length) v → Q v H2 := hp
    refine hp _ _ _ gz (r2.add na' ⟨xs, upd_same .., (x2.mono (Ext.one _ _) (p1.trans p2))⟩) ?_
    simp only [Rep]
    exact ⟨a, rfl, by rw [← hs'.len]; simp⟩
variable {e a b : Expr} {pos : Pos}
theorem s_srk (g : Gd C U cl X W) (hc : C.calm = true) {f : Nat} {fn : Str} {x : Ex} {p q kp : Pos} (h1 : glB X.env.scope "sorted" = true) (hn : C.fn.lookup f = some fn) (hg2 : glB X.env.scope fn = true) (hm : nmB fn = true) (ns : notStar a = true) (ha : PE X a (rdE U W (ev cl x).1)) :
    PE X (.Call (.Name "sorted" p) [a] [⟨some "key", .Name fn q, kp⟩] pos) (rdE U W (ev cl (.srk f x)).1) := by
  obtain ⟨fa, F, m2, k2⟩ := g.fns hc f fn hn
  have cr : CallRK X (.builtin "sorted") [Str.ofString "key"] (fun vs zs H Q => ∃ ι s d v, vs = [v] ∧ zs = [.ref fa] ∧ RelS U ι s H ∧ Rep U.K ι H d v ∧ ∃ W2 σ2, Post U (RD U) W2 σ2 ι H (srkD cl f d s) Q) := by
    intro pins sh σ H xs zs us ws Q I rx rz ⟨ι, s, d, v, e1, e2, hs, r, W2, σ2, hp⟩
    subst e1 e2
    cases d <;> first
      | (simp only [srkD] at hp; exact hp.elim)
      | skip
    rename_i n
    simp only [Rep] at r
    obtain ⟨al, rfl, ia⟩ := r
    cases he : s[n]? with
    | none => simp only [srkD, he] at hp; exact hp.elim
    | some o =>
      cases o <;> first
        | (simp only [srkD, he] at hp; exact hp.elim)
        | skip
      obtain rfl := Vals.ref1 rx
      obtain rfl := Vals.ref1 rz
      exact sort_key g F I hs he ia hp
  have hb : PE X (.Name fn q) (tC (.ref fa)) := pe_glob (glB_ok hg2) m2 rfl (nmB_ok hm).1
  have e1 : starEach [a] X.env = (false, eval a X.env) :: starEach [] X.env := star_cons ns
  refine (pe_callBK cr (glB_ok h1) (g.blt _ (by decide +kernel)) (by decide +kernel) (pa_cons ha pa_nil e1) (pk_cons hb pk_nil) (by decide +kernel) (by decide +kernel) (by rw [e1]; rfl) (by rw [e1]; rfl)).imp fun σ H Q ⟨ι, s, τ, hs, hf, hp⟩ => ?_
  exact ⟨ι, s, τ, hs, hf, (Post.bindF (rel := RD U) hf hp).imp fun v H1 ⟨ι, s, d, q1, q0, q2, _, q4⟩ => ⟨ι, s, d, v, rfl, rfl, q1, q2, _, _, q4⟩⟩
theorem s_set0 (g : Gd C U cl X W) (hc : C.calm = true) {p : Pos} (h1 : glB X.env.scope "set" = true) : PE X (.Call (.Name "set" p) [] [] pos) (rdE U W (ev cl .set0).1) := by
  have cr : CallR X (.type "set") (fun vs H Q => vs = [] ∧ ∀ q, H q = none → Q (.ref q) (upd H q (RowsO X.w q []))) := by
    intro pins s σ H xs us Q I r h
    obtain ⟨rfl, q⟩ := h
    cases r
    refine setR_new (w := X.w) fun _ => ?_
    have R : RowsAt X.w (s.heap.push { cls := .type "set", dict := none, data := .set #[] 0 (.fresh 0 0 (!X.w.params.followText "set-order")) }) s.heap.objs.size [] #[] 0 (.fresh 0 0 (!X.w.params.followText "set-order")) :=
      ⟨⟨_, Heap.get?_push_size _ rfl, ⟨rfl, rfl, rfl⟩, rfl⟩, rfl, ⟨List.Pairwise.nil, rfl, rfl, .inl rfl, fun x hx => (nomatch hx), fun i h j hi => (by simp at hi)⟩, List.nodup_nil, by show 0 * 5 < 7 * 3; decide, by decide⟩
    exact ⟨.ref _, upd H s.heap.objs.size (RowsO X.w s.heap.objs.size []), I.laid (t' := s.toks) (fun b u e => Heap.get?_push_of_some _ e) (Nat.le_refl _) (rowsO_new R), rfl, q _ (I.hok.fresh (Nat.le_refl _))⟩
  refine (pe_callTy0 cr (glB_ok h1) (g.blt _ (by decide +kernel)) (by decide +kernel) (by decide +kernel) (by decide +kernel)).imp fun σ H Q ⟨ι, s, τ, hs, hf, hp⟩ => ?_
  have hp : PostP U ι H (new (.set []) s) Q := hp
  exact ⟨rfl, fun q hq => hp.mk hs hq ⟨X.w, [], g.hw, upd_same, .nil, fun p h => nomatch h⟩⟩
/-! rows -/
theorem keys_vals {K : PySem.W.Frag} {H : Hp} : ∀ {ds : List D} {k : List Key} {vs : List V}, keysOf ds = some k → Reps K ι H ds vs → vs = k.map kV
  | [], k, vs, e, r => by
    simp only [Reps] at r; cases e; exact r
  | d :: ds, k, vs, e, r => by
    simp only [Reps] at r
    obtain ⟨v, ws, rfl, r1, r2⟩ := r
    unfold keysOf at e
    obtain ⟨y, hy, e⟩ := Option.bind_eq_some_iff.mp e
    rw [Option.map_eq_some_iff] at e
    obtain ⟨kr, hk, rfl⟩ := e
    rw [List.map_cons, keys_vals hk r2, rep_key hy r1]
theorem row_tup {K : PySem.W.Frag} {H : Hp} {d : D} {k : List Key} {v : V} (e : rowK d = some k) (r : Rep K ι H d v) : ∃ p, v = .ref p ∧ TupAt K H p (k.map kV) := by
  cases d <;> first
    | (simp only [rowK] at e; cases e; done)
    | skip
  rename_i ds
  simp only [Rep] at r
  obtain ⟨p, vs, rfl, h1, h2⟩ := r
  exact ⟨p, rfl, keys_vals e h2 ▸ h1⟩
theorem set_at {s : S} {d : D} {rows : List (List Key)} {v : V} (hs : RelS U ι s H) (e : setAt? s d = some rows) (r : Rep U.K ι H d v) : ∃ n p, d = .ref n ∧ v = .ref p ∧ s[n]? = some (.set rows) ∧ ι[n]? = some p ∧ ObR U ι H p (.set rows) := by
  cases d <;> first
    | (simp only [setAt?] at e; cases e; done)
    | skip
  rename_i n
  simp only [Rep] at r
  obtain ⟨p, rfl, i⟩ := r
  simp only [setAt?] at e
  split at e <;> cases e
  rename_i q
  exact ⟨n, p, rfl, rfl, q, i, hs.at q i⟩
theorem op_rin (g : Gd C U cl X W) (neg : Bool) : OpR X (compareOp (if neg then .NotIn else .In)) (rOp U (boolR fun x y s => (rinD x y s).bind fun c s => .ok (if neg then !c else c) s)) := by
  intro pins sh σ H x y v u Q I rx ry ⟨ι, s, d, e, hs, r1, r2, hp⟩
  simp only [boolR, rinD] at hp
  cases h1 : rowK d with
  | none => simp only [h1] at hp; exact hp.elim
  | some k =>
  cases h2 : setAt? s e with
  | none => simp only [h1, h2] at hp; exact hp.elim
  | some rows =>
  simp only [h1, h2, R.bind_ok] at hp
  obtain ⟨p, rfl, t1⟩ := row_tup h1 r1
  obtain ⟨n, q, rfl, rfl, _, _, w, L, e1, e2, pm, tl⟩ := set_at hs h2 r2
  obtain rfl : X.w = w := by rw [g.hw] at e1; exact Option.some.inj e1
  cases rx
  cases ry
  obtain ⟨es, ep, t, R⟩ : ∃ es ep t, RowsAt X.w sh.heap q L es ep t := (I.hok q _ e2).1
  refine row_in R (fun z hz => row_at I (g.hK ▸ (tl z hz).sq)) (row_at I (g.hK ▸ t1.sq)) (by have := g.hu; omega) fun c tk hc => ?_
  have ec : c = hasR rows k := by
    rw [Bool.eq_iff_iff, hc, hasR_iff]
    exact pm.mem_iff
  subst ec
  exact ⟨.bl _, H, I.tok tk, rfl, PostP.val hp hs (rep_bl _)⟩
theorem s_rin (g : Gd C U cl X W) {neg : Bool} {x y : Ex} (ha : PE X a (rdE U W (ev cl x).1)) (hb : PE X b (rdE U W (ev cl y).1)) (hm : behindInMarks (if neg then .NotIn else .In) b = false) : PE X (.Compare a [if neg then .NotIn else .In] [b] pos) (rdE U W (ev cl (.rin neg x y)).1) := by
  refine (pe_cmpR (op_rin g neg) ha hb hm).imp fun σ H Q ⟨ι, s, τ, hs, hf, hp⟩ => ?_
  obtain ⟨ι, s, τ, h1, h2, h3⟩ := Gd.rd2 hs hf (Post.bv (W' := W) (σ' := σ) hp)
  refine ⟨ι, s, τ, h1, h2, h3.imp fun v H1 ⟨ι, s, τ, h1, h2, h3⟩ => ⟨ι, s, τ, h1, h2, h3.imp fun v H1 ⟨ι, s, d, e, q1, _, q2, q3, q4⟩ => ⟨ι, s, d, e, q1, q2, q3, ?_⟩⟩⟩
  exact (Post.vb q4).imp fun x H ⟨k, e, z⟩ => e ▸ z
theorem t_rin (g : Gd C U cl X W) {neg : Bool} {x y : Ex} (ha : PE X a (rdE U W (ev cl x).1)) (hb : PE X b (rdE U W (ev cl y).1)) (hm : behindInMarks (if neg then .NotIn else .In) b = false) : PT X (.Compare a [if neg then .NotIn else .In] [b] pos) (rdT U W (ev cl (.rin neg x y)).2) := by
  refine (pt_cmpR (op_rin g neg) ha hb hm).imp fun σ H Q ⟨ι, s, τ, hs, hf, hp⟩ => ?_
  obtain ⟨ι, s, τ, h1, h2, h3⟩ := Gd.rd2 hs hf hp
  exact ⟨ι, s, τ, h1, h2, h3.imp fun v H1 ⟨ι, s, τ, h1, h2, h3⟩ => ⟨ι, s, τ, h1, h2, h3.imp fun v H1 ⟨ι, s, d, e, q1, _, q2, q3, q4⟩ => ⟨ι, s, d, e, q1, q2, q3, Post.vb q4⟩⟩⟩
theorem s_sadd (g : Gd C U cl X W) {x y : Ex} {apos : Pos} (hb : baseB a = true) (hl : (apos.endLine == pos.line) = true) (ns : notStar b = true) (ha : PE X a (rdE U W (ev cl x).1)) (hy : PE X b (rdE U W (ev cl y).1)) :
    PE X (.Call (.Attribute a "add" apos) [b] [] pos) (rdE U W (ev cl (.sadd x y)).1) := by
  refine ⟨fun pins sh σ H Q I ⟨ι, s, τ, hs, hf, hp⟩ => ?_⟩
  have hp : Post U (RD U) W σ ι H (((ev cl x).1 τ s).bind fun x s => if (setAt? s x).isSome = true then ((ev cl y).1 τ s).bind fun y s => saddD x y s else .bad) Q := hp
  have e1 : starEach [b] X.env = (false, eval b X.env) :: starEach [] X.env := star_cons ns
  refine wpAny_Call_method_late (base_ok hb) (by rw [e1]; rfl) hl rfl (thn (ha.run pins sh σ H _ I ⟨ι, s, τ, hs, hf, Post.bindF (rel := RD U) hf hp⟩) fun u s1 ⟨xv, H1, I1, rx, ι1, st1, d, h1, h2, h3, h4, h5⟩ => ?_)
  split at h5
  case isFalse => exact h5.elim
  rename_i hset
  obtain ⟨rows, hr⟩ := Option.isSome_iff_exists.mp hset
  obtain ⟨n, q, rfl, rfl, w1, w2, w, L, e2, e3, pm, tl⟩ := set_at h1 hr h3
  obtain rfl : X.w = w := by rw [g.hw] at e2; exact Option.some.inj e2
  cases rx
  obtain ⟨es, ep, t, R⟩ : ∃ es ep t, RowsAt X.w s1.heap q L es ep t := (I1.hok q _ e3).1
  refine ⟨"set", "set.add", F.plainAttrs_set, F.slot_set_add, F.type_set_add, R.tok, R.nod, ?_⟩
  have hA := (pa_cons hy pa_nil e1).run pos pins s1 σ H1 (fun xs H2 => ∃ v ι2 st2 yd, xs = [v] ∧ RelS U ι2 st2 H2 ∧ Rep U.K ι2 H2 yd v ∧ Go ι1 H1 ι2 H2 ∧ Post U (RD U) W σ ι2 H2 (saddD (.ref n) yd st2) Q) I1
    ⟨ι1, st1, τ, h1, h2, (Post.bindF (rel := RD U) h2 h5).imp fun v H2 ⟨ι2, st2, yd, y1, _, y2, y3, y4⟩ => ⟨v, ι2, st2, yd, rfl, y1, y2, y3, y4⟩⟩
  rw [e1] at hA ⊢
  refine Calls.callWith_builtin (by rfl) (Calls.evalArgs_plain ?_)
  refine thn hA fun us s2 ⟨vs, H2, I2, r2, v, ι2, st2, yd, ev, g1, g2, g3, g4⟩ => ?_
  subst ev
  simp only [saddD] at g4
  cases hr2 : setAt? st2 (.ref n) with
  | none => simp only [hr2] at g4; exact g4.elim
  | some rows2 =>
  cases hk : rowK yd with
  | none => simp only [hr2, hk] at g4; exact g4.elim
  | some k =>
  simp only [hr2, hk] at g4
  split at g4
  case isFalse => exact g4.elim
  rename_i few
  obtain ⟨b, rfl, tb⟩ := row_tup hk g2
  obtain rfl := Vals.ref1 r2
  have w2' := g3.ex.at w2
  have hn2 : st2[n]? = some (.set rows2) := by
    simp only [setAt?] at hr2
    split at hr2 <;> cases hr2
    assumption
  obtain ⟨w, L2, f2, f3, pm2, tl2⟩ := g1.at hn2 w2'
  obtain rfl : X.w = w := by rw [g.hw] at f2; exact Option.some.inj f2
  obtain ⟨es2, ep2, t2, R2⟩ : ∃ es ep t, RowsAt X.w s2.heap q L2 es ep t := (I2.hok q _ f3).1
  have len2 : L2.length = rows2.length := by have := pm2.length_eq; simpa using this
  refine row_put R2 (fun z hz => row_at I2 (g.hK ▸ (tl2 z hz).sq)) (row_at I2 (g.hK ▸ tb.sq)) (by have := g.hu; omega) (by omega) fun h' tk L' es' ep' t' sb R' z1 z2 => ?_
  have kp : Kept H2 (upd H2 q (RowsO X.w q L')) := fun c o z st => by
    rw [upd_ne (fun w => by subst w; rw [f3] at z; cases z; exact st)]; exact z
  have hq' : ∃ u, h'.get? q = some u := let ⟨o, ho, _⟩ := R'.ob; ⟨o, ho⟩
  have J := I2.write (e := q) (t' := tk) (by rw [f3]; trivial) (.inl rfl) (fun c o hc e => (sb.2 c hc).trans e) hq' (rowsO_new R')
  have ob : ObR U ι2 (upd H2 q (RowsO X.w q L')) q (.set (if hasR rows2 k = true then rows2 else rows2 ++ [k])) := by
    by_cases hm : k ∈ L2.map (·.2)
    · rw [if_pos (hasR_iff.mpr (pm2.mem_iff.mp hm)), z1 hm]
      exact ⟨X.w, L2, g.hw, by rw [← z1 hm]; exact upd_same .., pm2, fun p hp => (tl2 p hp).kept (z1 hm ▸ kp)⟩
    · rw [if_neg (fun z => hm (pm2.mem_iff.mpr (hasR_iff.mp z)))]
      have pl := z2 hm
      have pq : (L'.map (·.2)).Perm (k :: L2.map (·.2)) := pl.map (·.2)
      refine ⟨X.w, L', g.hw, upd_same .., (pq.trans (pm2.cons k)).trans (List.perm_append_singleton k rows2).symm, fun p hp => ?_⟩
      rcases List.mem_cons.mp (pl.mem_iff.mp hp) with rfl | hp
      · exact tb.kept kp
      · exact (tl2 p hp).kept kp
  obtain ⟨rs, go⟩ := g1.put (fun _ z => by cases z) hn2 w2' ob
  exact ⟨.non, _, J, rfl, g4 ι2 _ .non go rs rep_non⟩
end
end G

set_option Elab.async false
set_option linter.all false
set_option maxRecDepth 100000
set_option autoImplicit false
set_option maxHeartbeats 2000000
/-! G7: every checked expression. -/
namespace G
open PySem PySem.Spec PyProof.Rows L2
def isBool : Expr → Bool
  | .BoolOp _ _ _ => true
  | _ => false
def isLc : Expr → Bool
  | .ListComp _ _ _ _ => true
  | _ => false
structure SE (U : Su) (cl : CL) (X : Cx) (W : WX) (x : Ex) (e : Expr) : Prop where
  v : PE X e (rdE U W (ev cl x).1)
  t : PT X e (rdT U W (ev cl x).2)
  w : isBool e = true → PW X e (rdT U W (ev cl x).2)
  l : isLc e = true → ∀ {i : Nat} {y : Str} {py spos : Pos}, X.N[i]? = some y → X.env.scope.names.lookup y = some .local → swapsWith e (some (.Name y py)) spos.line X.env = pure true →
    ∃ te, PS X (.Assign [.Name y py] e spos) (tAsg te (gName i)) ∧ ∀ σ H Q, rdE U W (ev cl x).1 σ H Q → te σ H Q
section
variable {C : Ck} {U : Su} {cl : CL} {X : Cx} {W : WX} {e a b c : Expr} {pos : Pos}
/-- tested by its value -/
theorem SE.plain (g : Gd C U cl X W) {x : Ex} {v : Fr → S → R D} (hx : ev cl x = plainT v) (hv : byVal e = true) (hb : isBool e = false) (hl : isLc e = false) (h : PE X e (rdE U W (ev cl x).1)) : SE U cl X W x e :=
  ⟨h, by rw [hx] at h ⊢; exact pt_plain g.hK hv h, fun z => (by rw [hb] at z; cases z), fun z => (by rw [hl] at z; cases z)⟩
theorem SE.bad {x : Ex} (hx : (ev cl x).2 = fun _ _ => .bad) (hb : isBool e = false) (hl : isLc e = false) (h : PE X e (rdE U W (ev cl x).1)) : SE U cl X W x e :=
  ⟨h, ⟨fun pins s σ H Q I ⟨ι, st, τ, hs, hf, hp⟩ => by rw [hx] at hp; exact hp.elim⟩, fun z => (by rw [hb] at z; cases z), fun z => (by rw [hl] at z; cases z)⟩
/-- a target in a comprehension's block, in a def -/
theorem pg_tv {X : Cx} {sc : Scope} {t : Tv} {tg : Expr} (hN : X.N.Nodup) (hc : X.calm = true) (h : tvOk X.N sc t tg = true) (hf : ∀ n, locB sc n = true → Loc X.env.scope n ∧ (X.fn n = true ∨ X.env.scope.names.lookup n = some .local)) : PG X tg (gT X.K t) := by
  cases t with
  | var i =>
    simp only [tvOk] at h
    split at h
    · simp only [Bool.and_eq_true, decide_eq_true_eq] at h
      exact pg_name hN h.1 (hf _ h.2).1 (hf _ h.2).2
    · cases h
  | tup is =>
    simp only [tvOk] at h
    split at h
    case h_2 => cases h
    rename_i xs j p
    simp only [Bool.and_eq_true, decide_eq_true_eq] at h
    obtain ⟨h1, h2⟩ := h
    have key : ∀ (xs : List Expr) (is : List Nat), is.length = xs.length → (is.zip xs).all (fun p => match p.2 with | .Name n _ => decide (X.N[p.1]? = some n) && locB sc n | _ => false) = true →
        (∃ t, PGs X xs t ∧ ∀ vs σ H Q, vs.length = is.length → Q (setV is vs σ) H → t vs σ H Q) ∧ (assignEach xs X.env).length = xs.length ∧ (assignEach xs X.env).findIdx? (·.1) = none := by
      intro xs
      induction xs with
      | nil =>
        intro is hl _
        cases is with
        | cons _ _ => cases hl
        | nil => exact ⟨⟨_, pgs_nil, fun vs σ H Q hv hq => by
            cases vs with
            | nil => exact ⟨rfl, hq⟩
            | cons _ _ => cases hv⟩, rfl, rfl⟩
      | cons x xs ih =>
        intro is hl ha
        cases is with
        | nil => cases hl
        | cons i is =>
          simp only [List.zip_cons_cons, List.all_cons, Bool.and_eq_true] at ha
          obtain ⟨⟨t, ht, hq⟩, e1, e2⟩ := ih is (by simpa using hl) ha.2
          obtain ⟨n, q, rfl, ha1⟩ : ∃ n q, x = .Name n q ∧ (decide (X.N[i]? = some n) && locB sc n) = true := by
            have z := ha.1
            cases x <;> first | exact ⟨_, _, rfl, z⟩ | cases z
          simp only [Bool.and_eq_true, decide_eq_true_eq] at ha1
          refine ⟨⟨_, pgs_cons (pg_name hN ha1.1 (hf _ ha1.2).1 (hf _ ha1.2).2) ht rfl, fun vs σ H Q hv hq' => ?_⟩, by show (_ :: assignEach xs X.env).length = _; simp [e1], by show ((false, _) :: assignEach xs X.env).findIdx? _ = none; simp [List.findIdx?_cons, e2]⟩
          cases vs with
          | nil => cases hv
          | cons v vs => exact ⟨v, vs, rfl, hq vs _ H Q (by simpa using hv) hq'⟩
    obtain ⟨⟨t, ht, hq⟩, e1, e2⟩ := key xs is h1 h2
    have pg := pg_tup (n := is.length) (k := j) (pos := p) hc ht (by rw [e1, h1]) e2
    have pgl := pg_lst (n := is.length) (k := j) (pos := p) hc ht (by rw [e1, h1]) e2
    refine ⟨fun pins s σ H v u Q I r hw => ?_⟩
    obtain ⟨a, vs, rfl, q1 | q1, q2, q3⟩ := hw
    · exact pg.run pins s σ H _ u Q I r ⟨a, vs, rfl, q1, q2, hq vs σ H Q q2 q3⟩
    · exact pgl.run pins s σ H _ u Q I r ⟨a, vs, rfl, q1, q2, hq vs σ H Q q2 q3⟩
theorem and_ok {x y : Ex} {p q : Expr} {r : List Expr} (ha : SE U cl X W x p) (hb : match r with | [] => SE U cl X W y q | _ :: _ => SE U cl X W y (.BoolOp .And (q :: r) pos)) : SE U cl X W (.and x y) (.BoolOp .And (p :: q :: r) pos) := by
  cases r with
  | nil =>
    have hw : PW X (.BoolOp .And [p, q] pos) (rdT U W (ev cl (.and x y)).2) := (pw_and ha.t (pw_and1 hb.t)).imp rt_and
    exact ⟨(pe_and ha.v (pe_one hb.v)).imp rd_and, hw.pt, fun _ => hw, fun z => (nomatch z)⟩
  | cons z r =>
    have hw : PW X (.BoolOp .And (p :: q :: z :: r) pos) (rdT U W (ev cl (.and x y)).2) := (pw_and ha.t (hb.w rfl)).imp rt_and
    exact ⟨(pe_and ha.v hb.v).imp rd_and, hw.pt, fun _ => hw, fun z => (nomatch z)⟩
theorem or_ok {x y : Ex} {p q : Expr} {r : List Expr} (ha : SE U cl X W x p) (hb : match r with | [] => SE U cl X W y q | _ :: _ => SE U cl X W y (.BoolOp .Or (q :: r) pos)) : SE U cl X W (.or x y) (.BoolOp .Or (p :: q :: r) pos) := by
  cases r with
  | nil =>
    have hw : PW X (.BoolOp .Or [p, q] pos) (rdT U W (ev cl (.or x y)).2) := (pw_or ha.t (pw_or1 hb.t)).imp rt_or
    exact ⟨(pe_or ha.v (pe_one hb.v)).imp rd_or, hw.pt, fun _ => hw, fun z => (nomatch z)⟩
  | cons z r =>
    have hw : PW X (.BoolOp .Or (p :: q :: z :: r) pos) (rdT U W (ev cl (.or x y)).2) := (pw_or ha.t (hb.w rfl)).imp rt_or
    exact ⟨(pe_or ha.v hb.v).imp rd_or, hw.pt, fun _ => hw, fun z => (nomatch z)⟩
end
theorem blk_loc {scope sc : Scope} {n : Str} (h : locB scope n = true) : (relS scope sc).names.lookup n = scope.names.lookup n := by
  have hl := locB_ok h
  rcases hl with hl | hl
  · rw [hl]; exact lookup_relS_keep (by decide) hl
  · rw [hl]; exact lookup_relS_keep (by decide) hl
section
variable {C : Ck} {U : Su} {cl : CL} {X : Cx} {W : WX}
theorem tgt_ok (g : Gd C U cl X W) (hcm : C.calm = true) {t : Tv} {tg : Expr} {scope : Scope} {s : Shared} {H : Hp} {Cl : Addr} {cl' : List (Str × Addr)} {fp : List Addr} (h : tvOk C.N scope t tg = true) : PG (X.blk s H scope (compEnvC scope cl' Cl X.env) fp) tg (gT X.K t) := by
  refine pg_tv (X := X.blk s H scope (compEnvC scope cl' Cl X.env) fp) (sc := scope) g.nd (g.calm hcm) (by rw [← g.hN] at h; exact h) fun n hn => ?_
  have e := blk_loc (sc := X.env.scope) hn
  have e : (compEnvC scope cl' Cl X.env).scope.names.lookup n = scope.names.lookup n := e
  rcases locB_ok hn with hl | hl
  · exact ⟨.inl (e.trans hl), .inr (e.trans hl)⟩
  · refine ⟨.inr (e.trans hl), .inl ?_⟩
    show (scope.names.lookup n == some .cell) = true
    rw [hl]; rfl
end
mutual
theorem sndE (C : Ck) (U : Su) (cl : CL) : ∀ (x : Ex) (X : Cx) (W : WX) (e : Expr), Gd C U cl X W → okE C x X.env.scope e = true → SE U cl X W x e
  | .nop, X, W, e, g, h => by unfold okE at h; cases h
  | .var i, X, W, e, g, h => by
    unfold okE at h
    split at h
    · exact SE.plain g rfl rfl rfl rfl (s_var g h)
    · cases h
  | .cst c, X, W, e, g, h => by
    unfold okE at h
    split at h
    · exact SE.plain g rfl rfl rfl rfl (s_cst h)
    · cases h
  | .glob i, X, W, e, g, h => by
    unfold okE at h
    split at h
    · exact SE.plain g rfl rfl rfl rfl (s_glob g h)
    · cases h
  | .bin o a b, X, W, e, g, h => by
    unfold okE at h
    split at h
    case h_2 => cases h
    simp only [Bool.and_eq_true, decide_eq_true_eq] at h
    obtain ⟨⟨rfl, h1⟩, h2⟩ := h
    exact SE.plain g rfl rfl rfl rfl (s_bin g (sndE C U cl a X W _ g h1).v (sndE C U cl b X W _ g h2).v)
  | .neg a, X, W, e, g, h => by
    unfold okE at h
    split at h
    case h_2 => cases h
    exact SE.plain g rfl rfl rfl rfl (s_neg (sndE C U cl a X W _ g h).v)
  | .not a, X, W, e, g, h => by
    unfold okE at h
    split at h
    case h_2 => cases h
    have i := sndE C U cl a X W _ g h
    exact ⟨s_not i.v, t_not i.t, fun z => (nomatch z), fun z => (nomatch z)⟩
  | .and a b, X, W, e, g, h => by
    unfold okE at h
    split at h
    case h_2 => cases h
    rename_i p q r pos
    simp only [Bool.and_eq_true] at h
    refine and_ok (sndE C U cl a X W _ g h.1) ?_
    cases r with
    | nil => exact sndE C U cl b X W _ g h.2
    | cons z r => exact sndE C U cl b X W _ g h.2
  | .or a b, X, W, e, g, h => by
    unfold okE at h
    split at h
    case h_2 => cases h
    rename_i p q r pos
    simp only [Bool.and_eq_true] at h
    refine or_ok (sndE C U cl a X W _ g h.1) ?_
    cases r with
    | nil => exact sndE C U cl b X W _ g h.2
    | cons z r => exact sndE C U cl b X W _ g h.2
  | .cmp o a b, X, W, e, g, h => by
    unfold okE at h
    split at h
    case h_2 => cases h
    simp only [Bool.and_eq_true, decide_eq_true_eq, Bool.not_eq_true'] at h
    obtain ⟨⟨⟨rfl, h1⟩, h2⟩, h3⟩ := h
    have i := (sndE C U cl a X W _ g h1).v
    have j := (sndE C U cl b X W _ g h2).v
    exact ⟨s_cmp g i j h3, t_cmp g i j h3, fun z => (nomatch z), fun z => (nomatch z)⟩
  | .cmp2 o o' a b c, X, W, e, g, h => by
    unfold okE at h
    split at h
    case h_2 => cases h
    simp only [Bool.and_eq_true, decide_eq_true_eq, Bool.not_eq_true'] at h
    obtain ⟨⟨⟨⟨⟨rfl, rfl⟩, h1⟩, h2⟩, h3⟩, h4⟩ := h
    have i := (sndE C U cl a X W _ g h1).v
    have j := (sndE C U cl b X W _ g h2).v
    have k := (sndE C U cl c X W _ g h3).v
    exact ⟨s_cmp2 g i j k h4, t_cmp2 g i j k h4, fun z => (nomatch z), fun z => (nomatch z)⟩
  | .ife c a b, X, W, e, g, h => by
    unfold okE at h
    split at h
    case h_2 => cases h
    simp only [Bool.and_eq_true] at h
    exact SE.bad rfl rfl rfl (s_ife (sndE C U cl c X W _ g h.1.1).t (sndE C U cl a X W _ g h.1.2).v (sndE C U cl b X W _ g h.2).v)
  | .tup es, X, W, e, g, h => by
    unfold okE at h
    split at h
    case h_2 => cases h
    simp only [Bool.and_eq_true, decide_eq_true_eq] at h
    exact SE.plain g rfl rfl rfl rfl (s_tup (sndEs C U cl es X W _ g h.1) (by rw [okEs_len h.1]; exact h.2))
  | .lst es, X, W, e, g, h => by
    unfold okE at h
    split at h
    case h_2 => cases h
    simp only [Bool.and_eq_true, decide_eq_true_eq] at h
    exact SE.plain g rfl rfl rfl rfl (s_lst (sndEs C U cl es X W _ g h.1) (by rw [okEs_len h.1]; exact h.2))
  | .ix a i, X, W, e, g, h => by
    unfold okE at h
    split at h
    case h_2 => cases h
    simp only [Bool.and_eq_true] at h
    exact SE.plain g rfl rfl rfl rfl (s_ix g (sndE C U cl a X W _ g h.1.1).v (sndE C U cl i X W _ g h.1.2).v h.2)
  | .sl a lo hi, X, W, e, g, h => by
    unfold okE at h
    split at h
    case h_2 => cases h
    rename_i v l u p2 p
    simp only [Bool.and_eq_true] at h
    obtain ⟨⟨h1, h2⟩, h3⟩ := h
    refine SE.plain g rfl rfl rfl rfl (s_sl g (sndE C U cl a X W _ g h1).v (po_D ?_) (po_D ?_))
    · cases l with
      | none => exact h2
      | some l =>
        simp only [Bool.and_eq_true, Bool.not_eq_true'] at h2
        exact ⟨h2.1, (sndE C U cl lo X W _ g h2.2).v⟩
    · cases u with
      | none => exact h3
      | some l =>
        simp only [Bool.and_eq_true, Bool.not_eq_true'] at h3
        exact ⟨h3.1, (sndE C U cl hi X W _ g h3.2).v⟩
  | .call f es, X, W, e, g, h => by
    unfold okE at h
    split at h
    case h_2 => cases h
    simp only [Bool.and_eq_true, decide_eq_true_eq] at h
    exact SE.plain g rfl rfl rfl rfl (s_call g h.1.1.1.1 h.1.1.1.2 h.1.1.2 h.1.2 h.2 (sndEs C U cl es X W _ g h.2))
  | .blt b es, X, W, e, g, h => by
    unfold okE at h
    split at h
    case h_2 => cases h
    simp only [Bool.and_eq_true, decide_eq_true_eq] at h
    obtain ⟨⟨⟨⟨hc, rfl⟩, h1⟩, h2⟩, h3⟩ := h
    exact SE.plain g rfl rfl rfl rfl (s_blt g hc h1 h3 (sndEs C U cl es X W _ g h3))
  | .meth m o es, X, W, e, g, h => by
    unfold okE at h
    split at h
    case h_2 => cases h
    simp only [Bool.and_eq_true, decide_eq_true_eq] at h
    obtain ⟨⟨⟨⟨⟨rfl, h1⟩, h2⟩, h3⟩, h4⟩, h5⟩ := h
    exact SE.plain g rfl rfl rfl rfl (s_meth g h3 h4 h5 h2 (sndE C U cl o X W _ g h1).v (sndEs C U cl es X W _ g h2))
  | .lrg a, X, W, e, g, h => by
    unfold okE at h
    split at h
    case h_2 => cases h
    simp only [Bool.and_eq_true, decide_eq_true_eq] at h
    obtain ⟨⟨⟨⟨⟨⟨hc, rfl⟩, rfl⟩, h1⟩, h2⟩, h3⟩, h4⟩ := h
    exact SE.plain g rfl rfl rfl rfl (s_lrg g hc h1 h2 h3 (sndE C U cl a X W _ g h4).v)
  | .lrv a, X, W, e, g, h => by
    unfold okE at h
    split at h
    case h_2 => cases h
    simp only [Bool.and_eq_true, decide_eq_true_eq] at h
    obtain ⟨⟨⟨⟨⟨⟨hc, rfl⟩, rfl⟩, h1⟩, h2⟩, h3⟩, h4⟩ := h
    exact SE.plain g rfl rfl rfl rfl (s_lrv g hc h1 h2 h3 (sndE C U cl a X W _ g h4).v)
  | .oeq a b, X, W, e, g, h => by
    unfold okE at h
    split at h
    case h_2 => cases h
    simp only [Bool.and_eq_true, decide_eq_true_eq, Bool.not_eq_true'] at h
    obtain ⟨⟨⟨⟨hc, rfl⟩, h1⟩, h2⟩, h3⟩ := h
    have i := (sndE C U cl a X W _ g h1).v
    have j := (sndE C U cl b X W _ g h2).v
    exact ⟨s_oeq g hc i j h3, t_oeq g hc i j h3, fun z => (nomatch z), fun z => (nomatch z)⟩
  | .set0, X, W, e, g, h => by
    unfold okE at h
    split at h
    case h_2 => cases h
    simp only [Bool.and_eq_true, decide_eq_true_eq] at h
    obtain ⟨⟨hc, rfl⟩, h1⟩ := h
    exact SE.plain g rfl rfl rfl rfl (s_set0 g hc h1)
  | .rin neg a b, X, W, e, g, h => by
    unfold okE at h
    split at h
    case h_2 => cases h
    simp only [Bool.and_eq_true, decide_eq_true_eq, Bool.not_eq_true'] at h
    obtain ⟨⟨⟨⟨hc, rfl⟩, h1⟩, h2⟩, h3⟩ := h
    have i := (sndE C U cl a X W _ g h1).v
    have j := (sndE C U cl b X W _ g h2).v
    exact ⟨s_rin g i j h3, t_rin g i j h3, fun z => (nomatch z), fun z => (nomatch z)⟩
  | .sadd o a, X, W, e, g, h => by
    unfold okE at h
    split at h
    case h_2 => cases h
    simp only [Bool.and_eq_true, decide_eq_true_eq] at h
    obtain ⟨⟨⟨⟨⟨⟨hc, rfl⟩, h1⟩, h2⟩, h3⟩, h4⟩, h5⟩ := h
    exact SE.plain g rfl rfl rfl rfl (s_sadd g h4 h5 h3 (sndE C U cl o X W _ g h1).v (sndE C U cl a X W _ g h2).v)
  | .srk f a, X, W, e, g, h => by
    unfold okE at h
    split at h
    case h_2 => cases h
    simp only [Bool.and_eq_true, decide_eq_true_eq] at h
    obtain ⟨⟨⟨⟨⟨⟨⟨⟨hc, rfl⟩, h1⟩, rfl⟩, h2⟩, h3⟩, h4⟩, h5⟩, h6⟩ := h
    exact SE.plain g rfl rfl rfl rfl (s_srk g hc h1 h2 h3 h4 h5 (sndE C U cl a X W _ g h6).v)
  | .dct, X, W, e, g, h => by
    unfold okE at h
    split at h
    case h_2 => cases h
    exact SE.plain g rfl rfl rfl rfl s_dct
  | .fld a f, X, W, e, g, h => by
    unfold okE at h
    split at h
    case h_2 => cases h
    simp only [Bool.and_eq_true, decide_eq_true_eq] at h
    obtain ⟨⟨⟨h1, rfl⟩, h2⟩, h3⟩ := h
    exact SE.plain g rfl rfl rfl rfl (s_fld g h1 h3 (sndE C U cl a X W _ g h2).v)
  | .mc m o es, X, W, e, g, h => by
    unfold okE at h
    split at h
    case h_2 => cases h
    simp only [Bool.and_eq_true, decide_eq_true_eq] at h
    obtain ⟨⟨⟨⟨⟨⟨hc, rfl⟩, h1⟩, h2⟩, h3⟩, h4⟩, h5⟩ := h
    exact SE.plain g rfl rfl rfl rfl (s_mc g hc h3 h4 h5 h2 (sndE C U cl o X W _ g h1).v (sndEs C U cl es X W _ g h2))
  | .mk c es, X, W, e, g, h => by
    unfold okE at h
    split at h
    case h_2 => cases h
    simp only [Bool.and_eq_true, decide_eq_true_eq] at h
    obtain ⟨⟨⟨⟨⟨hc, rfl⟩, _⟩, h1⟩, h2⟩, h3⟩ := h
    exact SE.plain g rfl rfl rfl rfl (s_mk g hc h1 h2 h3 (sndEs C U cl es X W _ g h3))
  | .isc a c, X, W, e, g, h => by
    unfold okE at h
    split at h
    case h_2 => cases h
    simp only [Bool.and_eq_true, decide_eq_true_eq] at h
    obtain ⟨⟨⟨⟨⟨⟨⟨⟨⟨hc, rfl⟩, h1⟩, h2⟩, rfl⟩, _⟩, h3⟩, h4⟩, h5⟩, h6⟩ := h
    exact SE.plain g rfl rfl rfl rfl (s_isc g hc h1 h3 h4 h6 (sndE C U cl a X W _ g h5).v)
  | .efld i f, X, W, e, g, h => by
    unfold okE at h
    split at h
    case h_2 => cases h
    simp only [Bool.and_eq_true, decide_eq_true_eq, Bool.not_eq_true'] at h
    obtain ⟨⟨⟨⟨hc, rfl⟩, h1⟩, h2⟩, h3⟩ := h
    exact SE.plain g rfl rfl rfl rfl ((g.xs hc).1 i _ _ _ _ h1 h2 h3)
  | .eis i c, X, W, e, g, h => by
    unfold okE at h
    split at h
    case h_2 => cases h
    simp only [Bool.and_eq_true, decide_eq_true_eq, Bool.not_eq_true'] at h
    obtain ⟨⟨⟨⟨⟨⟨⟨⟨⟨hc, rfl⟩, h1⟩, h2⟩, rfl⟩, h3⟩, h4⟩, h5⟩, h6⟩, h7⟩ := h
    exact SE.plain g rfl rfl rfl rfl ((g.xs hc).2 i _ _ _ _ _ _ h5 h6 h7 h1 h3 h4)
  | .dc kx vx t k its own, X, W, e, g, h => by
    unfold okE at h
    split at h
    case h_2 => cases h
    rename_i el vl tg it asy scope pos
    simp only [Bool.and_eq_true, decide_eq_true_eq] at h
    obtain ⟨⟨⟨⟨⟨⟨⟨⟨hcm, rfl⟩, h1⟩, h2⟩, h3⟩, h4⟩, h5⟩, h6⟩, h7⟩ := h
    have hown : ∀ i ∈ tvIs t, i ∈ own.map (·.2) := fun i hi => by
      have := (List.all_eq_true.mp h3) i hi
      simpa using this
    refine SE.plain g rfl rfl rfl rfl (s_dc (W := W) (kx := kx) (vx := vx) (k := k) (its := its) (tg := tg) (it := it) (pos := pos) g hcm h1 hown h4 ?_ (fun s H Cl cl' fp => ?_) (fun X' g' e' => ?_) (fun X' g' e' => ?_))
    · cases k with
      | seq =>
        simp only [] at h7
        split at h7
        · exact i_seq g (sndE C U cl _ X W _ g h7).v
        · cases h7
      | rng1 =>
        simp only [] at h7
        split at h7
        · simp only [Bool.and_eq_true, decide_eq_true_eq] at h7
          obtain ⟨⟨rfl, h8⟩, h9⟩ := h7
          exact i_rng1 g h8 h9 (sndEs C U cl its X W _ g h9)
        · cases h7
      | rng2 =>
        simp only [] at h7
        split at h7
        · simp only [Bool.and_eq_true, decide_eq_true_eq] at h7
          obtain ⟨⟨rfl, h8⟩, h9⟩ := h7
          exact i_rng2 g h8 h9 (sndEs C U cl its X W _ g h9)
        · cases h7
      | items => cases h7
    · exact tgt_ok g hcm h2
    · exact (sndE C U cl kx X' _ _ g' (by rw [e']; exact h5)).v
    · exact (sndE C U cl vx X' _ _ g' (by rw [e']; exact h6)).v
  | .isi a t, X, W, e, g, h => by
    unfold okE at h
    split at h
    case h_2 => cases h
    simp only [Bool.and_eq_true, decide_eq_true_eq] at h
    obtain ⟨⟨⟨⟨⟨⟨⟨rfl, h1⟩, h2⟩, rfl⟩, h3⟩, h4⟩, h5⟩, h6⟩ := h
    exact SE.plain g rfl rfl rfl rfl (s_isi g h1 h3 h6 (sndE C U cl a X W _ g h5).v)
  | .lc elt t k its cond own, X, W, e, g, h => by
    unfold okE at h
    split at h
    case h_2 => cases h
    rename_i el tg it ifs asy scope pos
    simp only [Bool.and_eq_true, decide_eq_true_eq] at h
    obtain ⟨⟨⟨⟨⟨⟨⟨⟨hcm, rfl⟩, h1⟩, h2⟩, h3⟩, h4⟩, h5⟩, h6⟩, h7⟩ := h
    have hown : ∀ i ∈ tvIs t, i ∈ own.map (·.2) := fun i hi => by
      have := (List.all_eq_true.mp h3) i hi
      simpa using this
    have z := s_lc (W := W) (elt := elt) (cond := cond) (k := k) (its := its) (tg := tg) (it := it) (el := el) (ifs := ifs) (pos := pos) g hcm h1 hown h4 ?_ (fun s H Cl cl' fp => ?_) (fun X' g' e' => ?_) (fun X' g' e' => ?_)
    · exact ⟨z.1, pt_plain g.hK rfl z.1, fun z => (nomatch z), fun _ => z.2⟩
    · cases k with
      | seq =>
        simp only [] at h7
        split at h7
        · exact i_seq g (sndE C U cl _ X W _ g h7).v
        · cases h7
      | rng1 =>
        simp only [] at h7
        split at h7
        · simp only [Bool.and_eq_true, decide_eq_true_eq] at h7
          obtain ⟨⟨rfl, h8⟩, h9⟩ := h7
          exact i_rng1 g h8 h9 (sndEs C U cl its X W _ g h9)
        · cases h7
      | rng2 =>
        simp only [] at h7
        split at h7
        · simp only [Bool.and_eq_true, decide_eq_true_eq] at h7
          obtain ⟨⟨rfl, h8⟩, h9⟩ := h7
          exact i_rng2 g h8 h9 (sndEs C U cl its X W _ g h9)
        · cases h7
      | items => cases h7
    · refine pg_tv (X := X.blk s H scope (compEnvC scope cl' Cl X.env) fp) (sc := scope) g.nd (g.calm hcm) (by rw [← g.hN] at h2; exact h2) fun n hn => ?_
      have e := blk_loc (sc := X.env.scope) hn
      have e : (compEnvC scope cl' Cl X.env).scope.names.lookup n = scope.names.lookup n := e
      rcases locB_ok hn with hl | hl
      · exact ⟨.inl (e.trans hl), .inr (e.trans hl)⟩
      · refine ⟨.inr (e.trans hl), .inl ?_⟩
        show (scope.names.lookup n == some .cell) = true
        rw [hl]; rfl
    · exact (sndE C U cl elt X' _ _ g' (by rw [e']; exact h5)).v
    · cases ifs with
      | nil => exact .inl ⟨rfl, h6⟩
      | cons i ifs =>
        cases ifs with
        | cons _ _ => cases h6
        | nil =>
          simp only [Bool.and_eq_true, Bool.not_eq_true'] at h6
          exact .inr ⟨i, rfl, h6.1, (sndE C U cl cond X' _ _ g' (by rw [e']; exact h6.2)).t⟩
theorem sndEs (C : Ck) (U : Su) (cl : CL) : ∀ (es : Exs) (X : Cx) (W : WX) (xs : List Expr), Gd C U cl X W → okEs C es X.env.scope xs = true → PA X xs (rdA U W (evs cl es))
  | .nil, X, W, xs, g, h => by
    unfold okEs at h
    cases xs with
    | cons _ _ => cases h
    | nil => exact pa_nil.imp fun σ H Q ⟨ι, s, τ, hs, hf, hp⟩ => hp ι H [] (Go.refl _ _) hs Reps.nil
  | .cons e es, X, W, xs, g, h => by
    unfold okEs at h
    split at h
    case h_2 => cases h
    rename_i y ys
    simp only [Bool.and_eq_true] at h
    refine (pa_cons (sndE C U cl e X W _ g h.1.2).v (sndEs C U cl es X W _ g h.2) (star_cons h.1.1)).imp fun σ H Q ⟨ι, s, τ, hs, hf, hp⟩ => ?_
    refine ⟨ι, s, τ, hs, hf, (Post.bindF (rel := RD U) hf hp).imp fun v H1 ⟨ι, s, d, q1, q0, q2, _, q4⟩ => ?_⟩
    refine ⟨ι, s, τ, q1, q0, (Post.bindF (rel := RDs U) q0 q4).imp fun vs H2 ⟨ι, s, ds, r1, r0, r2, r3, r4⟩ => ?_⟩
    exact r4 ι H2 (v :: vs) (Go.refl _ _) r1 (Reps.cons (q2.mono r3.ex r3.tups) r2)
end
end G

set_option Elab.async false
set_option linter.all false
set_option maxRecDepth 100000
set_option autoImplicit false
set_option maxHeartbeats 2000000
/-! GX: own errors: their making, their fields, isinstance of them. -/
namespace G
open PySem PySem.Spec PyProof.Rows L2
section
variable {X : Cx}
/-- Base.__init__(self, ..), Base an own class without own __init__ -/
theorem pe_binit {CE : Addr} {x : Str} {e : Expr} {es : List Expr} {ta : TA} {p1 p2 pos : Pos} (hg : Gl X x) (hd : (x == ("__debug__" : Str)) = false) (hm : X.mg x = some (.ref CE)) (h1 : PySem.W.specialIn X.K (.ref CE) "__getattribute__" = some (some (.builtin "type.__getattribute__")))
    (h2 : PySem.W.readsIn X.K CE (.type "type") = true) (h3 : PySem.W.findCls X.K (.ref CE) (.type "type") "__init__" = some (.val (.builtin "ValueError.__init__"))) (ha : PA X (e :: es) ta) (hl : (p2.endLine == pos.line) = true)
    (hf : ((backTo pos (starEach (e :: es) X.env)).all (fun x => !x.1) && (backToKw pos (keywordEach [] X.env)).all (fun x => x.1.isSome) && decide ((e :: es).length + ([] : List Keyword).length + (if ([] : List Keyword).isEmpty then 0 else 1) < 30)) = true)
    (he : starEach (e :: es) X.env = (false, eval e X.env) :: starEach es X.env) (hpl : (backTo pos (starEach es X.env)).any (·.1) = false) :
    PE X (.Call (.Attribute (.Name x p1) "__init__" p2) (e :: es) [] pos) (tVeI X.K ta) := by
  refine ⟨fun pins s σ H Q I h => ?_⟩
  refine callAttr rfl hf hl (ld_glob I hg hm (fun pl => ?_) hd)
  refine PySem.W.method_cls I.kIn h1 (PySem.W.cls_value I.kIn h2 h3 (by decide +kernel) ?_)
  refine PyProof.Rows.callWith_method1 (thn (ha.run pos pins _ σ H _ (I.tok _) h) fun us s1 ⟨vs, H1, I1, r1, a, C, ws, ev, hz, T, ea, q⟩ => ?_) he hpl
  subst ev
  cases r1 with
  | @cons _ u0 _ ur ra rw' =>
    cases (show u0 = Value.ref a from ra)
    exact oinit_ok T I1 ea (by rw [← Paired.length rw', sizeLine_eq]; omega) fun s' J => ⟨.non, H1, J, rfl, q⟩
end
/-! ### the body of an own error's __init__ -/
def asOk (N : List Str) (sc : Scope) (f : Str) (i : Nat) (st : Stmt) : Bool := match st with
  | .Assign [.Attribute (.Name s0 _) f' _] (.Name p _) _ => decide (f' = f) && decide (N[0]? = some s0) && visB sc s0 && nmB s0 && decide (N[i]? = some p) && visB sc p && nmB p
  | _ => false
def okAs (N : List Str) (sc : Scope) : List Stmt → List Str → Nat → Bool
  | [], fs, _ => fs.isEmpty
  | _ :: _, [], _ => false
  | st :: r, f :: fs, i => asOk N sc f i st && okAs N sc r fs (i + 1)
def baseOk (N : List Str) (sc : Scope) (ce : Str) (st : Stmt) : Bool := match st with
  | .Expr (.Call (.Attribute (.Name x _) at_ apos) [.Name s0 _, .Constant (.str _) _ _] [] pos) _ => decide (x = ce) && decide (at_ = "__init__") && glB sc ce && nmB ce && decide (N[0]? = some s0) && visB sc s0 && nmB s0 && (apos.endLine == pos.line)
  | _ => false
def okInit (N : List Str) (sc : Scope) (ce : Str) (fields : List Str) : List Stmt → Bool
  | st :: r => baseOk N sc ce st && okAs N sc r fields 1
  | [] => false
theorem asOk_inv {N : List Str} {sc : Scope} {f : Str} {i : Nat} {st : Stmt} (h : asOk N sc f i st = true) : ∃ s0 p0 p1 p p2 p3, st = .Assign [.Attribute (.Name s0 p0) f p1] (.Name p p2) p3 ∧ N[0]? = some s0 ∧ visB sc s0 = true ∧ nmB s0 = true ∧ N[i]? = some p ∧ visB sc p = true ∧ nmB p = true := by
  unfold asOk at h
  split at h
  · simp only [Bool.and_eq_true, decide_eq_true_eq] at h
    obtain ⟨⟨⟨⟨⟨⟨rfl, n0⟩, v0⟩, m0⟩, n1⟩, v1⟩, m1⟩ := h
    exact ⟨_, _, _, _, _, _, rfl, n0, v0, m0, n1, v1, m1⟩
  · cases h
theorem baseOk_inv {N : List Str} {sc : Scope} {ce : Str} {st : Stmt} (h : baseOk N sc ce st = true) : ∃ p1 apos s0 p0 y j p2 pos q, st = .Expr (.Call (.Attribute (.Name ce p1) "__init__" apos) [.Name s0 p0, .Constant (.str y) j p2] [] pos) q ∧
    glB sc ce = true ∧ nmB ce = true ∧ N[0]? = some s0 ∧ visB sc s0 = true ∧ nmB s0 = true ∧ (apos.endLine == pos.line) = true := by
  unfold baseOk at h
  split at h
  · simp only [Bool.and_eq_true, decide_eq_true_eq] at h
    obtain ⟨⟨⟨⟨⟨⟨⟨rfl, rfl⟩, h1⟩, h2⟩, h3⟩, h4⟩, h5⟩, h6⟩ := h
    exact ⟨_, _, _, _, _, _, _, _, _, rfl, h1, h2, h3, h4, h5, h6⟩
  · cases h
section
variable {X : Cx}
theorem upd_id {H : Hp} {a : Addr} {o : HO} (h : H a = some o) : upd H a o = H := by
  funext b
  by_cases hb : b = a
  · rw [hb, upd_same, h]
  · rw [upd_ne hb]
theorem upd_comm {H : Hp} {a b : Addr} {o u : HO} (h : a ≠ b) : upd (upd H a o) b u = upd (upd H b u) a o := by
  funext c
  by_cases h1 : c = a
  · rw [h1, upd_ne h, upd_same, upd_same]
  · by_cases h2 : c = b
    · rw [h2, upd_same, upd_ne (Ne.symm h), upd_same]
    · rw [upd_ne h2, upd_ne h1, upd_ne h1, upd_ne h2]
theorem upd_two {H : Hp} {a : Addr} {o u : HO} : upd (upd H a o) a u = upd H a u := by
  funext c
  by_cases h1 : c = a
  · rw [h1, upd_same, upd_same]
  · rw [upd_ne h1, upd_ne h1, upd_ne h1]
theorem as_run {N : List Str} (hN : X.N = N) : ∀ (rest : List Stmt) (fields : List Str) (i : Nat), okAs N X.env.scope rest fields i = true → ∃ t, PSs X rest t ∧
    ∀ (D : Ends) (σ : L2.St) (H : Hp) (a C dx : Addr) (fs : List (Str × V)) (ws : List V), σ[0]? = some (some (.ref a)) → (∀ j w, ws[j]? = some w → σ[i + j]? = some (some w)) → ws.length = fields.length → OexC X.K C → (∀ f ∈ fields, PySem.W.findIn X.K (.ref C) f = some none) → dx ≠ a →
      H a = some (exo a C (some dx)) → H dx = some (exd dx fs) → fs.length + fields.length ≤ 900 → D.nx σ (upd H dx (exd dx ((fields.zip ws).reverse ++ fs))) → t D σ H
  | [], fields, i, h => ⟨_, pss_nil, fun D σ H a C dx fs ws h0 h1 h2 T hf nd ha hd hl q => by
      have e : fields = [] := List.isEmpty_iff.mp h
      subst e
      have q : D.nx σ (upd H dx (exd dx fs)) := q
      rw [upd_id hd] at q
      exact q⟩
  | _ :: _, [], _, h => by cases h
  | st :: r, f :: fs0, i, h => by
    unfold okAs at h
    rw [Bool.and_eq_true] at h
    obtain ⟨s0, p0, p1, p, p2, p3, rfl, n0, v0, m0, n1, v1, m1⟩ := asOk_inv h.1
    obtain ⟨t, ht, hq⟩ := as_run hN r fs0 (i + 1) h.2
    have ho : PE X (.Name s0 p0) (tVar 0) := pe_var (by rw [hN]; exact n0) (visB_ok v0) (nmB_ok m0).1 (nmB_ok m0).2.1
    have hv : PE X (.Name p p2) (tVar i) := pe_var (by rw [hN]; exact n1) (visB_ok v1) (nmB_ok m1).1 (nmB_ok m1).2.1
    refine ⟨_, pss_cons (ps_ost ho hv) ht, fun D σ H a C dx fs ws h0 h1 h2 T hf nd ha hd hl q => ?_⟩
    cases ws with
    | nil => cases h2
    | cons w ws =>
      refine ⟨w, by simpa using h1 0 w rfl, .ref a, h0, a, C, rfl, T, hf _ List.mem_cons_self, .inr ⟨dx, fs, ha, hd, by simp at hl; omega, ?_⟩⟩
      refine hq D σ _ a C dx ((_, w) :: fs) ws h0 (fun j x e => by have := h1 (j + 1) x (by simpa using e); rw [show i + 1 + j = i + (j + 1) by omega]; exact this) (by simpa using h2) T (fun g hg => hf g (List.mem_cons_of_mem _ hg)) nd (by rw [upd_ne (Ne.symm nd)]; exact ha) upd_same (by simp at hl ⊢; omega) ?_
      rw [upd_two]
      simpa using q
/-- the whole body -/
theorem init_run {N : List Str} {ce : Str} {CE : Addr} (hN : X.N = N) (hm : X.mg ce = some (.ref CE)) (b1 : PySem.W.specialIn X.K (.ref CE) "__getattribute__" = some (some (.builtin "type.__getattribute__"))) (b2 : PySem.W.readsIn X.K CE (.type "type") = true)
    (b3 : PySem.W.findCls X.K (.ref CE) (.type "type") "__init__" = some (.val (.builtin "ValueError.__init__"))) {body : List Stmt} {f : Str} {fields : List Str} (h : okInit N X.env.scope ce (f :: fields) body = true) : ∃ t, PSs X body t ∧
    ∀ (D : Ends) (σ : L2.St) (H : Hp) (a C : Addr) (ws : List V), σ[0]? = some (some (.ref a)) → (∀ j w, ws[j]? = some w → σ[1 + j]? = some (some w)) → ws.length = fields.length + 1 → OexC X.K C → (∀ g ∈ f :: fields, PySem.W.findIn X.K (.ref C) g = some none) →
      H a = some (exo a C none) → fields.length ≤ 800 → (∀ dx, H dx = none → dx ≠ a → D.nx σ (upd (upd H dx (exd dx ((f :: fields).zip ws).reverse)) a (exo a C (some dx)))) → t D σ H := by
  cases body with
  | nil => cases h
  | cons st r =>
    unfold okInit at h
    rw [Bool.and_eq_true] at h
    obtain ⟨p1, apos, s0, p0, y, jj, p2, pos, q, rfl, g1, g2, g3, g4, g5, g6⟩ := baseOk_inv h.1
    have hs : PE X (.Name s0 p0) (tVar 0) := pe_var (by rw [hN]; exact g3) (visB_ok g4) (nmB_ok g5).1 (nmB_ok g5).2.1
    have hb := pe_binit (e := .Name s0 p0) (es := [.Constant (.str y) jj p2]) (p1 := p1) (p2 := apos) (pos := pos) (glB_ok g1) (nmB_ok g2).1 hm b1 b2 b3 (pa_cons hs (pa_cons pe_str pa_nil)) g6 rfl rfl rfl
    cases r with
    | nil => cases h.2
    | cons st2 r =>
      have h2 := h.2
      unfold okAs at h2
      rw [Bool.and_eq_true] at h2
      obtain ⟨s1, q0, q1, p, q2, q3, rfl, n0, v0, m0, n1, v1, m1⟩ := asOk_inv h2.1
      obtain ⟨t, ht, hq⟩ := as_run hN r fields 2 h2.2
      have ho : PE X (.Name s1 q0) (tVar 0) := pe_var (by rw [hN]; exact n0) (visB_ok v0) (nmB_ok m0).1 (nmB_ok m0).2.1
      have hv : PE X (.Name p q2) (tVar 1) := pe_var (by rw [hN]; exact n1) (visB_ok v1) (nmB_ok m1).1 (nmB_ok m1).2.1
      refine ⟨_, pss_cons (ps_expr hb rfl) (pss_cons (ps_ost ho hv) ht), fun D σ H a C ws h0 h1 h2 T hf ha hl hq2 => ?_⟩
      cases ws with
      | nil => cases h2
      | cons w ws =>
        refine ⟨.ref a, h0, a, C, [.str y], rfl, by simp, T, ha, ?_⟩
        refine ⟨w, by simpa using h1 0 w rfl, .ref a, h0, a, C, rfl, T, hf _ List.mem_cons_self, .inl ⟨ha, fun dx nd ne => ?_⟩⟩
        refine hq D σ _ a C dx [(f, w)] ws h0 (fun j x e => by have := h1 (j + 1) x (by simpa using e); rw [show 2 + j = 1 + (j + 1) by omega]; exact this) (by simpa using h2) T (fun g hg => hf g (List.mem_cons_of_mem _ hg)) ne upd_same (by rw [upd_ne ne]; exact upd_same) (by simp; omega) ?_
        have z := hq2 dx nd ne
        rw [upd_comm (Ne.symm ne), upd_two]
        simpa using z
end
/-! ### the making of an own error -/
/-- what its __init__ keeps -/
def spX (K : PySem.W.Frag) (C : Addr) (fields : List Str) : Sp := fun vs H Q _ => ∃ a ws, vs = .ref a :: ws ∧ ws.length = fields.length ∧ H a = some (exo a C none) ∧
  ∀ dx, H dx = none → dx ≠ a → Q .non (upd (upd H dx (exd dx (fields.zip ws).reverse)) a (exo a C (some dx)))
/-- an error's class, made with its fields -/
def RseOk (X : Cx) (C : Addr) (c : Str) (fields : List Str) : Prop := ∀ (p pos : Pos) (y : Expr) (ys : List Expr) (t : TA), (∀ σ H Q Q', (∀ vs H, Q vs H → Q' vs H) → t σ H Q → t σ H Q') → Gl X c → (c == ("__debug__" : Str)) = false → PA X (y :: ys) t →
  starEach (y :: ys) X.env = (false, eval y X.env) :: starEach ys X.env → (backTo pos (starEach ys X.env)).any (·.1) = false →
  PMk X (.Call (.Name c p) (y :: ys) [] pos) (fun σ H Q => t σ H fun vs H1 => vs.length = fields.length ∧ ∀ dx, H1 dx = none → Q (.ref C) (some dx) (upd H1 dx (.xd (fields.zip vs).reverse)))
theorem rse_ok {X : Cx} {C fI : Addr} {c : Str} {fields : List Str} {fd : FuncData} {ps : List Str} {k : Nat} (T : OexC X.K C) (iC : PySem.W.findIn X.K (.ref C) "__init__" = some (some (.ref fI))) (tI : PySem.W.typeIn X.K (.ref fI) = some (.type "function"))
    (F : FnOk X.prog X.w X.K X.mg X.base (L2.CX X.prog X.w) k fI fd ps (spX X.K C fields)) (hr : Room (k + 1) X.A) (hb : Binds X.K fd ps []) (hm : X.mg c = some (.ref C)) (hl : fields.length ≤ 800) : RseOk X C c fields := by
  intro p pos y ys t mono hg hd ha he hpl pins s σ H Q I h
  refine (pmk_oex T iC tI F hr hb .nil passL hg hm ha hd he hpl) pins s σ H Q I (mono _ _ _ _ (fun vs H1 ⟨h1, h2⟩ => ?_) h)
  refine ⟨by omega, fun a na => ⟨a, vs, by rw [List.append_nil], h1, upd_same, fun dx nd ne => ⟨rfl, dx, (fields.zip vs).reverse, upd_same, by rw [upd_ne ne]; exact upd_same, ?_, ?_⟩⟩⟩
  · rw [upd_ne ne] at nd; exact nd
  · have nd1 : H1 dx = none := by rw [upd_ne ne] at nd; exact nd
    have e : upd (del (upd (upd (upd H1 a (exo a C none)) dx (exd dx (fields.zip vs).reverse)) a (exo a C (some dx))) a) dx (.xd (fields.zip vs).reverse) = upd H1 dx (.xd (fields.zip vs).reverse) := by
      funext b
      by_cases hb : b = dx
      · rw [hb, upd_same, upd_same]
      · rw [upd_ne hb, upd_ne hb]
        by_cases hba : b = a
        · rw [hba, del_same, na]
        · rw [del_ne hba, upd_ne hba, upd_ne hb, upd_ne hba]
    rw [e]
    exact h2 dx nd1
/-! ### isinstance of a caught error that may have fields -/
section
open PySem.W PySem.Calls
variable {prog : Program} {w : World} {A : Around} {E : Value → Shared → Prop} {s : Shared} {K : Frag} {x Dc : Addr} {ox : Obj} {od : Option Obj}
theorem fnd_data {name : Str} {a g : Value} (hc : (clsIn K Dc).isSome = true) (ha : findIn K (.ref Dc) name = some (some a)) (hg : specialIn K a "__get__" = some (some g)) (ht : takesIn K a = some true) : findObj K Dc od name = some (.bind g a) := by
  obtain ⟨cd, h1⟩ := Option.isSome_iff_exists.mp hc
  unfold findObj
  rw [h1, Option.bind_some, ha, Option.bind_some]
  simp [hg, ht]
theorem cls_attr {Q : Option Value → Shared → Prop} (C : ExcC K Dc) (X : K.In s.heap) (I : InstAt s.heap x ox Dc od) (h : Q (some (.ref Dc)) { s with toks := s.toks + 1 }) : wpAny (model prog w) A (getAttr? (.ref x) "__class__") Q E s := by
  have hf : findObj K Dc od "__class__" = some (.bind (.builtin "getset_descriptor.__get__") (.builtin "object.__class__")) := fnd_data (by obtain ⟨cd, hc, _⟩ := any_some C.hd; rw [hc]; rfl) C.ha C.hn C.ht
  obtain ⟨hp, g, d, t, os⟩ := s
  have T0 := I.type (M := model prog w)
  have T1 := looks_findIn (M := model prog w) X C.hg
  have T2 := looks_findIn (M := model prog w) X C.hk
  have T3 := looks_find (M := model prog w) X I hf
  have sb : Looks (model prog w) hp (isInstance (.ref x) (.type "BaseException")) true := T0.andThen (looks_subIn X C.hs)
  have n0 : (false && onTheHeap (Value.builtin "BaseException.__getattribute__")) = false := rfl
  have n1 : (onTheHeap (Value.ref Dc) && Value.builtin "BaseException.__getattribute__" == Value.builtin "object.__getattribute__") = false := by
    rw [show (Value.builtin "BaseException.__getattribute__" == Value.builtin "object.__getattribute__") = false by decide +kernel]; rfl
  unfold getAttr? getAttrBy? getAttrBy
  refine wpAny_bind (wpAny_mkText (wpAny_bind (wpAny_attempt (wpAny_holding (wpAny_bind (T0.at (wpAny_bind (T1.at ?_))))))))
  show wpAny _ _ (if (onTheHeap (Value.ref Dc) && Value.builtin "BaseException.__getattribute__" == Value.builtin "object.__getattribute__") = true then _ else _) _ _ _
  rw [n1, if_neg Bool.false_ne_true]
  unfold getAttrByItsOwn hookBefore
  refine wpAny_bind ?_
  rw [if_pos (show onTheHeap (Value.ref Dc) = true from rfl)]
  refine T2.at ?_
  refine wpAny_bind (wpAny_attempt (wpAny_holding ?_))
  unfold callGetattribute
  rw [n0, if_neg Bool.false_ne_true]
  unfold boundAndCalled
  rw [PySem.F.excAttr_ValueError.ga.bind (.ref x)]
  refine wpAny_bind (wpAny_pure ?_)
  show wpAny _ _ (call (.builtin "BaseException.__getattribute__") [.ref x, .str "__class__" t]) _ _ _
  refine wpAny_call (codeAny_call_builtin PySem.F.excAttr_ValueError.ga.plain PySem.F.entry_bexc_ga ?_)
  refine @check_slot (model prog w) _ _ ⟨hp, g, d, t + 1, os⟩ "BaseException.__getattribute__" "BaseException" "__getattribute__" (.ref x) [.str "__class__" t] [] _ (by decide +kernel) (by decide +kernel) sb (PySem.F.args_bexc_ga (.ref x) (.str "__class__" t)) ?_
  unfold Builtin.«object.__getattribute__»
  refine wpAny_bind (wpAny_of_eq (a := ((Value.ref x : Value), [Value.str "__class__" t])) (by first | rfl | (simp only [slotArgs]; rfl)) ?_)
  refine wpAny_bind (wpAny_pure (wpAny_bind (T0.at (wpAny_bind (T3.at ?_)))))
  show wpAny _ _ (holding [Value.builtin "object.__class__"] (call (.builtin "getset_descriptor.__get__") [.builtin "object.__class__", .ref x, .ref Dc]) >>= ret) _ _ _
  refine wpAny_bind (wpAny_holding (wpAny_call (class_get (s := ⟨hp, g, d, t + 1, os⟩) (ox := ox) (od := od) X I C.hm ?_)))
  refine wpAny_pure ?_
  show wpAny _ _ (handedOut (.ref Dc)) _ _ _
  rw [handedOut_of (v := .ref Dc) rfl]
  first
    | exact wpAny_pure (wpAny_pure h)
    | exact wpAny_pure h
    | exact wpAny_pure (wpAny_bind (wpAny_pure (wpAny_pure h)))
theorem kit_exc (C : ExcC K Dc) : KitX K (.ref x) (.ref Dc) (fun h => ∃ ox od, InstAt h x ox Dc od) where
  ty := fun _ _ _ ⟨_, _, I⟩ => I.type
  it := fun _ _ X _ => by
    obtain ⟨cd, hc, _⟩ := any_some C.hd
    unfold clsIn at hc
    split at hc
    · rename_i c' d' cd' sl' ho
      intro A' Q' E' s' k q
      unfold isType loadHead
      exact wpAny_bind (wpAny_loadPart (k _ _ (X _ _ ho)) (wpAny_pure q))
    · cases hc
  ne := fun h tp dd its n sl X htp => by
    obtain ⟨cd, hc, _⟩ := any_some C.hd
    refine Bool.eq_false_iff.mpr fun q => ?_
    cases Value.ref.inj (beq_iff_eq.mp q)
    unfold clsIn at hc
    split at hc
    · rename_i c' d' cd' sl' ho
      cases (X _ _ ho).symm.trans htp
    · cases hc
  ca := fun X ⟨_, _, I⟩ k => cls_attr C X I k
end
theorem call_isX {X : Cx} {a Dc : Addr} {oe : Obj} {pn : List (Addr × Obj)} {d : Option Addr} (C : ExcC X.K Dc) (hz : Zc (.ref Dc) d oe) (hf : ∃ vs, oe.data = .fields vs) : CallR (X.suite a ((a, oe) :: pn)) (.builtin "isinstance")
    (fun xs H Q => (d = none ∨ ∃ dd fs, d = some dd ∧ H dd = some (.xd fs)) ∧ rIsE X.K Dc a xs H Q) := by
  intro pins s σ H xs us Q I r ⟨hd, c, cv, b, ex, hcv, e, q⟩
  subst ex
  obtain ⟨u, u2, rfl, rx, rt⟩ := r.two
  cases rx
  cases hcv _ rt
  obtain ⟨hget, _⟩ := I.pin (a, oe) (List.mem_append.mpr (.inl List.mem_cons_self))
  obtain ⟨vs, hv⟩ := hf
  have J : ∃ ox od, PySem.W.InstAt s.heap a ox Dc od := by
    obtain ⟨oc, oda, odat, osl⟩ := oe
    obtain ⟨h1, h2⟩ := hz
    dsimp only at h1 h2 hv
    subst h1 h2 hv
    rcases hd with rfl | ⟨dd, fs, rfl, hx⟩
    · exact ⟨_, none, hget, rfl, rfl, trivial⟩
    · obtain ⟨mA, ⟨o, _, _, ho, _⟩, _⟩ := (show ObjOk X.prog X.w H s.heap dd (.xd fs) from I.hok dd _ hx)
      exact ⟨_, some o, hget, rfl, rfl, ho⟩
  exact PySem.W.kia_one (kit_exc C) I.kIn J e (fun z => nomatch z) fun tk => ⟨.bl b, H, I.kept (t' := tk) fun _ _ z => z, rfl, q⟩
end G

set_option Elab.async false
set_option linter.all false
set_option maxRecDepth 100000
set_option autoImplicit false
set_option maxHeartbeats 2000000
/-! G8: statements and defs. -/
namespace G
open PySem PySem.Spec PyProof.Rows L2
def rdS (U : Su) (W : WX) (m : Fr → S → SR) : TS := fun D σ H => ∃ ι s τ, RelS U ι s H ∧ RelF U ι H τ σ ∧ PostS U W D ι H (m τ s)
theorem _root_.L2.PS.imp {X : Cx} {e : Stmt} {t t' : TS} (h : PS X e t) (i : ∀ D σ H, t' D σ H → t D σ H) : PS X e t' := ⟨fun pins s σ H Q I q => h.run pins s σ H Q I (i _ _ _ q)⟩
theorem _root_.L2.PSs.imp {X : Cx} {e : List Stmt} {t t' : TS} (h : PSs X e t) (i : ∀ D σ H, t' D σ H → t D σ H) : PSs X e t' := ⟨fun pins s σ H Q I q => h.run pins s σ H Q I (i _ _ _ q)⟩
section
variable {U : Su} {W : WX} {σ : L2.St} {ι ι' : List Addr} {H H' : Hp} {E E' : Ends}
theorem PostS.imp {r : SR} (h : PostS U W E ι H r) (h1 : ∀ σ H, E.nx σ H → E'.nx σ H) (h2 : ∀ v H, E.rt v H → E'.rt v H) (h3 : ∀ σ H, E.bk σ H → E'.bk σ H) (h4 : ∀ σ H, E.ct σ H → E'.ct σ H) : PostS U W E' ι H r := by
  cases r with
  | bad => exact h
  | exc τ c fs s => exact h
  | nx τ s => exact fun a b c d e f => h1 _ _ (h a b c d e f)
  | rt τ s => exact fun a b c d e f => h2 _ _ (h a b c d e f)
  | bk τ s => exact fun a b c d e f => h3 _ _ (h a b c d e f)
  | ct τ s => exact fun a b c d e f => h4 _ _ (h a b c d e f)
theorem PostS.nx {τ : Fr} {s : S} (h : PostS U W E ι H (.nx τ s)) (hs : RelS U ι s H) (hf : RelF U ι H τ σ) : E.nx σ H := h ι H σ (Go.refl _ _) hs hf
/-- a loop's body -/
theorem PostS.turn {N : L2.St → Hp → Prop} {r : SR} {f : Fr → S → SR} (h : PostS U W E ι H (match r with | .nx τ s => f τ s | .ct τ s => f τ s | .bk τ s => .nx τ s | .rt d s => .rt d s | .exc τ c fs s => .exc τ c fs s | .bad => .bad))
    (hN : ∀ ι' s' τ' σ' H', Go ι H ι' H' → RelS U ι' s' H' → RelF U ι' H' τ' σ' → PostS U W E ι' H' (f τ' s') → N σ' H') : PostS U W { nx := N, rt := E.rt, bk := E.nx, ct := N } ι H r := by
  cases r with
  | bad => exact h
  | exc τ c fs s => exact h
  | nx τ s => exact fun a b c d e g => hN a s τ c b d e g (PostS.mono d h)
  | rt τ s => exact h
  | bk τ s => exact h
  | ct τ s => exact fun a b c d e g => hN a s τ c b d e g (PostS.mono d h)
end

/-! ### the check -/
def notTup : Expr → Bool
  | .Tuple _ _ _ => false
  | .List _ _ => false
  | _ => true
def notComp : Expr → Bool
  | .ListComp _ _ _ _ => false
  | .SetComp _ _ _ _ => false
  | .DictComp _ _ _ _ _ => false
  | _ => true
/-- name = value: is the value's comprehension stored by the block itself, or not at all -/
def swapB (sc : Scope) (n : Str) (p : Pos) : Expr → Bool
  | .ListComp _ _ scope pos => (match sc.names.lookup n with | some .local => true | _ => false) && (p.line == pos.line) && !(scope.names.any fun (m, k) => m == n && (k == .local || k == .cell))
  | _ => false
def okAsn (C : Ck) (sc : Scope) (as : Option Nat) (nm : Option Str) : Bool := match as, nm with
  | some i, some n => decide (C.N[i]? = some n) && (match sc.names.lookup n with | some .local => true | _ => false)
  | none, none => true
  | _, _ => false
/-- items are walked into a pair -/
def itTg : Ik → Expr → Bool
  | .items, .Tuple _ _ _ => true
  | .items, _ => false
  | _, _ => true
mutual
def okC : Ck → Cm → Scope → Stmt → Bool
  | C, .asg t e, sc, x => (match x with
    | .Assign [tg] v _ => okE C e sc v && (match t, tg with
      | .loc (.var i), .Name n p => decide (C.exi ≠ some i) && decide (C.N[i]? = some n) && locB sc n && (notComp v || (match v with | .ListComp _ _ _ _ => true | _ => false))
      | .loc (.tup is), .Tuple ts j p => C.calm && tvOk C.N sc (.tup is) (.Tuple ts j p) && notTup v && notComp v
      | .sub o i, .Subscript b k _ => okE C o sc b && okE C i sc k && notSlice k && notComp v
      | .fld o f, .Attribute b f' _ => C.calm && decide (f' = f) && okE C o sc b
      | _, _ => false)
    | _ => false)
  | C, .ite c a b, sc, x => (match x with
    | .If t p q _ => okE C c sc t && okCs C a sc p && okCs C b sc q
    | _ => false)
  | C, .for_ t k its body, sc, x => (match x with
    | .For tg it bd [] _ => C.calm && tvOk C.N sc t tg && (okIt C k its sc it && itTg k tg) && notSet it && okCs C body sc bd
    | _ => false)
  | C, .whl c body, sc, x => (match x with
    | .While t bd [] _ => okE C c sc t && okCs C body sc bd
    | _ => false)
  | C, .ret e, sc, x => (match x with
    | .Return (some v) _ => okE C e sc v
    | _ => false)
  | _, .retn, _, x => (match x with
    | .Return none _ => true
    | _ => false)
  | C, .expr e, sc, x => (match x with
    | .Expr v _ => okE C e sc v && notComp v
    | _ => false)
  | _, .pass, _, x => (match x with
    | .Pass _ => true
    | _ => false)
  | _, .brk, _, x => (match x with
    | .Break _ => true
    | _ => false)
  | _, .cont, _, x => (match x with
    | .Continue _ => true
    | _ => false)
  | C, .rse c es, sc, x => (match x with
    | .Raise (some (.Call (.Name n _) (y :: ys) [] _)) none _ => C.calm && decide (n = c) && glB sc n && nmB n && okEs C es sc (y :: ys)
    | _ => false)
  | C, .try_ body hs, sc, x => (match x with
    | .Try bd hds [] [] _ => C.calm && okCs C body sc bd && okHs C hs sc hds
    | _ => false)
  | C, .lk _ c, sc, x => okC C c sc x
def okCs : Ck → Cms → Scope → List Stmt → Bool
  | _, .nil, _, xs => xs.isEmpty
  | C, .cons c cs, sc, xs => (match xs with
    | x :: xs => okC C c sc x && okCs C cs sc xs
    | [] => false)
def okHs : Ck → Hs → Scope → List ExceptHandler → Bool
  | _, .nil, _, _ => false
  | C, .cons c as suite r, sc, xs => (match r, xs with
    | .nil, [.ExceptHandler (some (.Name x _)) nm (b0 :: st) _] => decide (x = c) && glB sc x && nmB x && okAsn C sc as nm && okCs { C with calm := false, exi := as } suite sc (b0 :: st)
    | _, _ => false)
end
theorem noSwap {v : Expr} {t : Option Expr} {l : Nat} {env : Env} (h : notComp v = true) : swapsWith v t l env = pure false := by
  cases v <;> first | rfl | cases h
theorem noStores {tg v : Expr} {env : Env} (h : notTup v = true) : swappedStores [tg] v env = pure none := by
  cases tg <;> cases v <;> first | rfl | cases h

theorem noSwapA {v o : Expr} {f : Str} {p : Pos} {l : Nat} {env : Env} : swapsWith v (some (.Attribute o f p)) l env = pure false := by
  cases v <;> rfl
/-- an own class of errors -/
structure EcOk (X : Cx) (U : Su) (cl : CL) (c : Str) (e : Ec) : Prop where
  mg : X.mg c = some (.ref (U.cad c))
  mke : e.fields.length ≤ 800 ∧ ∃ (fI : Addr) (fd : FuncData) (ps : List Str) (k : Nat), OexC X.K (U.cad c) ∧ PySem.W.findIn X.K (.ref (U.cad c)) "__init__" = some (some (.ref fI)) ∧ PySem.W.typeIn X.K (.ref fI) = some (.type "function") ∧
    FnOk X.prog X.w X.K X.mg X.base (L2.CX X.prog X.w) k fI fd ps (spX X.K (U.cad c) e.fields) ∧ Room (k + 1) X.A ∧ Binds X.K fd ps []
  exm : ∀ x e2, cl.ecl x = some e2 → PySem.W.exmOne X.K (.ref (U.cad x)) (.ref (U.cad c)) = some (e2.sups.contains c)
  xf : XfC X.K (U.cad c)
  no : ∀ f, e.fields.contains f = true → PySem.W.findIn X.K (.ref (U.cad c)) f = some none
  ex : ExcC X.K (U.cad c)
  kit : ∀ x e2, cl.ecl x = some e2 → PySem.W.kitOne X.K (.ref (U.cad x)) (.ref (U.cad c)) = some (e2.sups.contains c)
  ve : PySem.W.kitOne X.K (.ref (U.cad c)) (.type "ValueError") = some (e.sups.contains "ValueError")
  cb : ∃ CE, X.mg "CappedError" = some (.ref CE) ∧ PySem.W.kitOne X.K (.ref (U.cad c)) (.ref CE) = some (e.sups.contains "CappedError")
theorem EcOk.rse {X : Cx} {U : Su} {cl : CL} {c : Str} {e : Ec} (z : EcOk X U cl c e) : RseOk X (U.cad c) c e.fields := by
  obtain ⟨h0, fI, fd, ps, k, h1, h2, h3, h4, h5, h6⟩ := z.mke
  exact rse_ok h1 h2 h3 h4 h5 h6 z.mg h0
/-- within a def: names may be stored -/
structure Gs (C : Ck) (U : Su) (cl : CL) (X : Cx) (W : WX) : Prop extends Gd C U cl X W where
  fn : ∀ n, X.fn n = true
  kind : X.env.scope.kind = .function
  stk : X.stack = X.env :: X.outer
  frm : X.env.frame = some X.env.locals
  ecl : C.calm = true → ∀ c e, cl.ecl c = some e → EcOk X U cl c e
section
variable {C : Ck} {U : Su} {cl : CL} {X : Cx} {W : WX}
theorem c_asg1 (g : Gs C U cl X W) {i : Nat} (hx : C.exi ≠ some i) {e : Ex} {n : Str} {v : Expr} {p pos : Pos} (hi : C.N[i]? = some n) (hl : locB X.env.scope n = true) (hv : (notComp v || (match v with | .ListComp _ _ _ _ => true | _ => false)) = true) (h : SE U cl X W e v) :
    PS X (.Assign [.Name n p] v pos) (rdS U W (ex cl (.asg (.loc (.var i)) e))) := by
  have hi' : X.N[i]? = some n := by rw [g.hN]; exact hi
  have fin : ∀ te : TE, (∀ σ H Q, rdE U W (ev cl e).1 σ H Q → te σ H Q) → ∀ D σ H, rdS U W (ex cl (.asg (.loc (.var i)) e)) D σ H → tAsg te (gName i) D σ H := by
    rintro te hte D σ H ⟨ι, s, τ, hs, hf, hp⟩
    refine hte _ _ _ ⟨ι, s, τ, hs, hf, (PostS.toS (rel := RD U) hf hp).imp fun x H1 ⟨ι1, s1, d, q1, q2, q3, _, q4⟩ => ?_⟩
    exact PostS.nx (τ := τ.set i (some d)) (s := s1) q4 q1 (q3.set (by rw [g.exi]; exact hx) q2)
  by_cases hc : notComp v = true
  · exact (ps_set g.nd hi' (locB_ok hl) h.v (noSwap hc) (.inl (g.fn n))).imp (fin _ fun _ _ _ z => z)
  · cases v <;> first
      | (exact absurd rfl hc)
      | (rename_i el gs scope q
         by_cases hw : X.env.scope.names.lookup n = some .local ∧ (p.line == q.line) = true ∧ (scope.names.any fun (m, k) => m == n && (k == .local || k == .cell)) = false
         · obtain ⟨te, h1, h2⟩ := h.l rfl (py := p) (spos := pos) hi' hw.1 (sw_true g.kind hw.1 hw.2.1 hw.2.2)
           exact h1.imp (fin _ h2)
         · refine (ps_set g.nd hi' (locB_ok hl) h.v ?_ (.inl (g.fn n))).imp (fin _ fun _ _ _ z => z)
           have hb : X.env.blockKind = .function := by unfold Env.blockKind; rw [g.kind]; rfl
           have : (X.env.blockKind == .function && X.env.kindOf n == some .local && p.line == q.line && !(scope.names.any fun (m, k) => m == n && (k == .local || k == .cell))) = false := by
             rw [Bool.eq_false_iff]
             intro z
             simp only [Bool.and_eq_true, Bool.not_eq_true'] at z
             exact hw ⟨beq_iff_eq.mp z.1.1.2, z.1.2, z.2⟩
           show (pure _ : Sem Bool) = pure false
           exact congrArg pure this)
      | cases hv
theorem c_asgT (g : Gs C U cl X W) (hcm : C.calm = true) {is : List Nat} {e : Ex} {tg v : Expr} {pos : Pos} (ht : tvOk C.N X.env.scope (.tup is) tg = true) (h1 : notTup v = true) (h2 : notComp v = true) (hst : ∃ ts j p, tg = .Tuple ts j p) (h : SE U cl X W e v) :
    PS X (.Assign [tg] v pos) (rdS U W (ex cl (.asg (.loc (.tup is)) e))) := by
  have pg : PG X tg (gT X.K (.tup is)) := pg_tv (sc := X.env.scope) g.nd (g.calm hcm) (by rw [g.hN]; exact ht) fun n hn => ⟨locB_ok hn, .inl (g.fn n)⟩
  refine (ps_asg h.v pg (by show swapsWith _ _ _ _ = _; exact noSwap h2) (noStores h1) (by obtain ⟨ts, j, p, rfl⟩ := hst; rfl)).imp fun D σ H ⟨ι, s, τ, hs, hf, hp⟩ => ?_
  refine ⟨ι, s, τ, hs, hf, (PostS.toS (rel := RD U) hf hp).imp fun x H1 ⟨ι1, s1, d, q1, q2, q3, _, q4⟩ => ?_⟩
  simp only [store] at q4
  split at q4
  · rename_i τ' ea
    exact gT_ok g.hK q1 (fun i _ => by rw [g.noexi hcm]; exact fun z => nomatch z) q3 q2 ea fun σ' hf' _ => q4.nx q1 hf'
  · exact q4.elim
theorem c_sub (g : Gs C U cl X W) {o i e : Ex} {b k v : Expr} {p pos : Pos} (hn : notSlice k = true) (h2 : notComp v = true) (ho : SE U cl X W o b) (hi : SE U cl X W i k) (h : SE U cl X W e v) :
    PS X (.Assign [.Subscript b k p] v pos) (rdS U W (ex cl (.asg (.sub o i) e))) := by
  have pg : PG X (.Subscript b k p) _ := pg_sub ho.v hi.v (set_D (U := U) (by have := g.hu; omega)) (by intro w; cases k <;> first | rfl | cases hn)
  refine (ps_asg h.v pg (by unfold swapsWithSole; exact noSwap h2) (by cases v <;> rfl) rfl).imp fun D σ H ⟨ι, s, τ, hs, hf, hp⟩ => ?_
  refine ⟨ι, s, τ, hs, hf, (PostS.toS (rel := RD U) hf hp).imp fun x H1 ⟨ι1, s1, d, q1, q2, q3, _, q4⟩ => ?_⟩
  simp only [store] at q4
  refine ⟨ι1, s1, τ, q1, q3, (PostS.toS (rel := RD U) q3 q4).imp fun xo H2 ⟨ι2, s2, d2, r1, r2, r3, r4, r5⟩ => ?_⟩
  refine ⟨ι2, s2, τ, r1, r3, (PostS.toS (rel := RD U) r3 r5).imp fun xi H3 ⟨ι3, s3, d3, p1, p2, p3, p4, p5⟩ => ?_⟩
  split at p5
  · rename_i s' e3
    exact ⟨ι3, s3, d2, d3, d, s', p1, r2.mono p4.ex p4.tups, p2, q2.mono (r4.trans p4).ex (r4.trans p4).tups, e3, fun H' go hs' => p5 ι3 H' σ go hs' (p3.mono go.ex go.tups)⟩
  · exact p5.elim
theorem c_ite {c : Ex} {a b : Cms} {t : Expr} {p q : List Stmt} {pos : Pos} (hc : SE U cl X W c t) (ha : PSs X p (rdS U W (exs cl a))) (hb : PSs X q (rdS U W (exs cl b))) : PS X (.If t p q pos) (rdS U W (ex cl (.ite c a b))) := by
  refine PS.imp (ps_if hc.t ha hb) fun D σ H ⟨ι, s, τ, hs, hf, hp⟩ => ?_
  refine ⟨ι, s, τ, hs, hf, (PostS.toS (rel := RB) hf hp).imp fun x H1 ⟨ι1, s1, d, q1, q2, q3, _, q4⟩ => ?_⟩
  rw [show x = d from q2]
  cases d with
  | true => rw [if_pos rfl] at q4 ⊢; exact ⟨ι1, s1, τ, q1, q3, q4⟩
  | false => rw [if_neg Bool.false_ne_true] at q4 ⊢; exact ⟨ι1, s1, τ, q1, q3, q4⟩
theorem c_for (g : Gs C U cl X W) (hcm : C.calm = true) {t : Tv} {k : Ik} {its : Exs} {body : Cms} {tg it : Expr} {bd : List Stmt} {pos : Pos} (ht : tvOk C.N X.env.scope t tg = true) (hn : notSet it = true) (hi : PI X tg it (rdI U W (srcRun cl k its))) (hb : PSs X bd (rdS U W (exs cl body))) :
    PS X (.For tg it bd [] pos) (rdS U W (ex cl (.for_ t k its body))) := by
  have pg : PG X tg (gT X.K t) := pg_tv (sc := X.env.scope) g.nd (g.calm hcm) (by rw [g.hN]; exact ht) fun n hn => ⟨locB_ok hn, .inl (g.fn n)⟩
  refine PS.imp (ps_for g.po (g.calm hcm) hi pg hb (fold_ok hn)) fun En σ H ⟨ι, s, τ, hs, hf, hp⟩ => ?_
  let B : D → Fr → S → SR := fun d τ s => match asgV t d s τ with
    | none => .bad
    | some τ' => exs cl body τ' s
  have hp : PostS U W En ι H ((evs cl its τ s).toS τ fun ds s => match srcOf k ds s with
    | none => .bad
    | some src => forS src.ok B src.items τ s) := hp
  have hp2 : PostS U W En ι H ((srcRun cl k its τ s).toS τ fun src s => forS src.ok B src.items τ s) := by
    unfold srcRun
    cases q : evs cl its τ s with
    | ok ds s' =>
      rw [q] at hp
      simp only [R.toS_ok, R.bind_ok] at hp ⊢
      cases q2 : srcOf k ds s' with
      | none => rw [q2] at hp; exact hp
      | some src => rw [q2] at hp; exact hp
    | exc c fs s' => rw [q] at hp; exact hp
    | bad => rw [q] at hp; exact hp
  refine ⟨ι, s, τ, hs, hf, (PostS.toS (rel := fun ι H src J => ItOk U ι H src J) hf hp2).imp fun J H1 ⟨ι1, s1, src, q1, q2, q0, _, q4⟩ => ?_⟩
  refine ⟨fun i m σ2 H2 => ∃ ι2 s2 τ2, RelS U ι2 s2 H2 ∧ RelF U ι2 H2 τ2 σ2 ∧ Go ι1 H1 ι2 H2 ∧ i ≤ src.items.length ∧ m = src.items.length - i ∧ PostS U W En ι2 H2 (forS src.ok B (src.items.drop i) τ2 s2),
    ⟨src.items.length, ι1, s1, τ, q1, q0, Go.refl _ _, Nat.zero_le _, by omega, by rw [List.drop_zero]; exact q4⟩, ?_⟩
  rintro i m σ2 H2 ⟨ι2, s2, τ2, hs2, hf2, go2, hl2, rfl, post⟩
  cases ed : src.items.drop i with
  | nil =>
    have hi : src.items.length ≤ i := by simpa using ed
    rw [ed] at post
    unfold forS at post
    split at post
    · rename_i ok
      exact .inl ⟨(q2 ι2 s2 H2 go2 hs2 ok i).2 hi, post.nx hs2 hf2⟩
    · exact post.elim
  | cons d ds =>
    have hi : src.items[i]? = some d := by
      have := List.getElem?_drop (xs := src.items) (i := i) (j := 0)
      rw [ed] at this
      simpa using this.symm
    have hil : i < src.items.length := (List.getElem?_eq_some_iff.mp hi).1
    have ed2 : src.items.drop (i + 1) = ds := by
      have : src.items.drop (i + 1) = (src.items.drop i).drop 1 := by rw [List.drop_drop]
      rw [this, ed]; rfl
    rw [ed] at post
    unfold forS at post
    split at post
    case isFalse => exact post.elim
    rename_i ok
    obtain ⟨jg, jy⟩ := (q2 ι2 s2 H2 go2 hs2 ok i).1 d hi
    refine .inr ⟨jg, fun σ' H' => ∃ ι2 s2 τ2, RelS U ι2 s2 H' ∧ RelF U ι2 H' τ2 σ' ∧ Go ι1 H1 ι2 H' ∧ PostS U W En ι2 H' (forS src.ok B ds τ2 s2),
      fun σ' H' ⟨ι2, s2, τ2, z1, z2, z3, z4⟩ => ⟨src.items.length - (i + 1), by omega, ι2, s2, τ2, z1, z2, z3, hil, rfl, by rw [ed2]; exact z4⟩, fun x H' hy => ?_⟩
    obtain ⟨gy, hs2, rx⟩ := jy x H' hy
    have go2 := go2.trans gy
    have hf2 := hf2.mono gy.ex gy.tups
    have post := PostS.mono gy post
    simp only [B] at post
    cases ea : asgV t d s2 τ2 with
    | none => rw [ea] at post; exact post.elim
    | some τ' =>
      rw [ea] at post
      refine gT_ok g.hK hs2 (fun i _ => by rw [g.noexi hcm]; exact fun z => nomatch z) hf2 rx ea fun σ' hf3 _ => ⟨ι2, s2, τ', hs2, hf3, ?_⟩
      exact PostS.turn post fun ι' s' τ' σ' H' go hs' hf' pp => ⟨ι', s', τ', hs', hf', go2.trans go, pp⟩
theorem c_whl (g : Gs C U cl X W) {c : Ex} {body : Cms} {t : Expr} {bd : List Stmt} {pos : Pos} (hc : SE U cl X W c t) (hb : PSs X bd (rdS U W (exs cl body))) : PS X (.While t bd [] pos) (rdS U W (ex cl (.whl c body))) := by
  refine PS.imp (ps_while g.po hc.t hb) fun D σ H ⟨ι, s, τ, hs, hf, hp⟩ => ?_
  refine ⟨fun m σ2 H2 => ∃ ι2 s2 τ2, RelS U ι2 s2 H2 ∧ RelF U ι2 H2 τ2 σ2 ∧ PostS U W D ι2 H2 (whS (evT cl c) (exs cl body) m τ2 s2), ⟨whTop, ι, s, τ, hs, hf, hp⟩, ?_⟩
  rintro m σ2 H2 ⟨ι2, s2, τ2, hs2, hf2, post⟩
  cases m with
  | zero => exact post.elim
  | succ m =>
    unfold whS at post
    refine ⟨ι2, s2, τ2, hs2, hf2, (PostS.toS (rel := RB) hf2 post).imp fun x H1 ⟨ι1, s1, d, q1, q2, q3, _, q4⟩ => ?_⟩
    rw [show x = d from q2]
    cases d with
    | true =>
      rw [if_pos rfl] at q4 ⊢
      refine ⟨fun σ' H' => ∃ ι2 s2 τ2, RelS U ι2 s2 H' ∧ RelF U ι2 H' τ2 σ' ∧ PostS U W D ι2 H' (whS (evT cl c) (exs cl body) m τ2 s2), fun σ' H' z => ⟨m, Nat.lt_succ_self m, z⟩, ι1, s1, τ2, q1, q3, ?_⟩
      exact PostS.turn q4 fun ι' s' τ' σ' H' go hs' hf' pp => ⟨ι', s', τ', hs', hf', pp⟩
    | false =>
      rw [if_neg Bool.false_ne_true] at q4 ⊢
      exact q4.nx q1 q3
theorem setF_put {K : PySem.W.Frag} {ι : List Addr} {H : Hp} {f : Str} {d : D} {v : V} (r : Rep K ι H d v) : ∀ {fs : List (Str × D)} {vs : List (Str × V)}, RepF K ι H fs vs → RepF K ι H (setF f d fs) (putF f v vs)
  | [], _, h => by cases (show _ = [] from h); exact ⟨v, [], rfl, r, rfl⟩
  | p :: fs, _, h => by
    obtain ⟨u, ws, rfl, h1, h2⟩ := h
    obtain ⟨g, x⟩ := p
    unfold setF putF
    by_cases e : g = f
    · rw [if_pos e, if_pos e]; exact ⟨v, ws, rfl, r, h2⟩
    · rw [if_neg e, if_neg e]; exact ⟨u, _, rfl, h1, setF_put r h2⟩
theorem c_fld (g : Gs C U cl X W) (hcm : C.calm = true) {o e : Ex} {b v : Expr} {f : Str} {p pos : Pos} (ho : SE U cl X W o b) (h : SE U cl X W e v) : PS X (.Assign [.Attribute b f p] v pos) (rdS U W (ex cl (.asg (.fld o f) e))) := by
  refine PS.imp (ps_fld ho.v h.v noSwapA) fun D σ H ⟨ι, s, τ, hs, hf, hp⟩ => ?_
  refine ⟨ι, s, τ, hs, hf, (PostS.toS (rel := RD U) hf hp).imp fun x H1 ⟨ι1, s1, d, q1, q2, q3, _, q4⟩ => ?_⟩
  have q4 : PostS U W D ι1 H1 ((evE cl o τ s1).toS τ fun x s => match setA cl x f d s with
    | some s' => .nx τ s'
    | none => .bad) := q4
  refine ⟨ι1, s1, τ, q1, q3, (PostS.toS (rel := RD U) q3 q4).imp fun xo H2 ⟨ι2, s2, d2, r1, r2, r3, r4, r5⟩ => ?_⟩
  split at r5
  case h_2 => exact r5.elim
  rename_i s' e3
  unfold setA at e3
  split at e3
  case h_2 => cases e3
  rename_i n _ _ _
  split at e3
  case h_2 => cases e3
  rename_i c fs e4
  split at e3
  case h_2 => cases e3
  rename_i k e5
  split at e3
  case isFalse => cases e3
  rename_i hc
  cases e3
  simp only [Rep] at r2
  obtain ⟨a, rfl, ia⟩ := r2
  obtain ⟨dx, vs, h1, h2⟩ := r1.at e4 ia
  have z := g.cls c k e5 hcm
  have lf : vs.length = fs.length := h2.length
  refine ⟨a, U.cad c, dx, vs, rfl, h1, z.cls, z.na f hc.1, by omega, ?_⟩
  have kp : Kept H2 (upd H2 a (.ins (U.cad c) dx (putF f x vs))) := fun b w y st => by
    rw [upd_ne (fun q => by rw [q, h1] at y; cases y; exact st)]; exact y
  have w := r1.put (by intro _ z; cases z) (o' := .ins c (setF f d fs)) (u := .ins (U.cad c) dx (putF f x vs)) e4 ia ⟨dx, _, upd_same, (setF_put (q2.mono r4.ex r4.tups) h2).mono (Ext.refl _) kp⟩
  exact r5 ι2 _ σ w.2 w.1 (r3.mono (Ext.refl _) w.2.tups)
theorem rev_zip {K : PySem.W.Frag} {ι : List Addr} {H : Hp} : ∀ {fields : List Str} {ds : List D} {vs : List V}, Reps K ι H ds vs → RepF K ι H (fields.zip ds).reverse (fields.zip vs).reverse
  | [], ds, vs, h => rfl
  | f :: fields, [], vs, h => by simp only [Reps] at h; subst h; rfl
  | f :: fields, d :: ds, vs, h => by
    simp only [Reps] at h
    obtain ⟨v, ws, rfl, h1, h2⟩ := h
    simp only [List.zip_cons_cons, List.reverse_cons]
    exact RepF.app (rev_zip h2) ⟨v, [], rfl, h1, rfl⟩
theorem c_rse (g : Gs C U cl X W) (hcm : C.calm = true) {c : Str} {es : Exs} {y : Expr} {ys : List Expr} {p q pos : Pos} (hg : glB X.env.scope c = true) (hm : nmB c = true) (ho : okEs C es X.env.scope (y :: ys) = true) (ha : PA X (y :: ys) (rdA U W (evs cl es))) :
    PS X (.Raise (some (.Call (.Name c p) (y :: ys) [] q)) none pos) (rdS U W (ex cl (.rse c es))) := by
  cases ek : cl.ecl c with
  | none =>
    refine ⟨fun pins sh σ H D I ⟨ι, s, τ, hs, hf, hp⟩ => ?_⟩
    have hp : PostS U W D ι H (match cl.ecl c with
      | some e => (evs cl es τ s).toS τ fun ds s => if ds.length = e.fields.length then .exc τ c (e.fields.zip ds).reverse s else .bad
      | none => .bad) := hp
    rw [ek] at hp
    exact hp.elim
  | some e =>
    obtain ⟨o1, o2⟩ := okEs_cons (pos := q) ho
    have mono : ∀ σ H Q Q', (∀ vs H, Q vs H → Q' vs H) → rdA U W (evs cl es) σ H Q → rdA U W (evs cl es) σ H Q' := fun σ H Q Q' hq ⟨ι, s, τ, hs, hf, hp⟩ => ⟨ι, s, τ, hs, hf, hp.imp hq⟩
    have z := g.ecl hcm c e ek
    refine PS.imp (ps_raise (g.calm hcm) g.tk (z.rse p q y ys _ mono (glB_ok hg) (nmB_ok hm).1 ha o1 o2)) fun D σ H ⟨ι, s, τ, hs, hf, hp⟩ => ?_
    have hp : PostS U W D ι H (match cl.ecl c with
      | some e => (evs cl es τ s).toS τ fun ds s => if ds.length = e.fields.length then .exc τ c (e.fields.zip ds).reverse s else .bad
      | none => .bad) := hp
    rw [ek] at hp
    refine ⟨ι, s, τ, hs, hf, (PostS.toS (rel := RDs U) hf hp).imp fun vs H1 ⟨ι1, s1, ds, q1, q2, q3, _, q4⟩ => ?_⟩
    split at q4
    · rename_i hl
      refine ⟨by rw [q2.length, hl], fun dx nd => ?_⟩
      have sm : Same H1 (upd H1 dx (.xd (e.fields.zip vs).reverse)) := same_new nd
      exact q4 ι1 _ σ (some dx) (Go.same sm) (q1.same sm) (q3.mono (Ext.refl _) (Same.kept sm)) (.inr ⟨dx, _, rfl, upd_same, rev_zip (q2.mono (Ext.refl _) (Same.kept sm))⟩)
    · exact q4.elim

/-! ### try -/
abbrev W1 : WX := fun _ _ _ _ => False
/-- the surroundings of an except suite -/
def Su.in_ (U : Su) (as : Option Nat) (a : Addr) (d : Option Addr) (fs : List (Str × D)) (vs : List (Str × V)) : Su := { U with exi := as, exa := a, exo := d, exD := fs, exV := vs }
abbrev CL.in_ (cl : CL) (as : Option Nat) (c : Str) (fs : List (Str × D)) : CL := { cl with exn := some (as, c, fs) }
theorem suite_gs (g : Gs C U cl X W) (hcm : C.calm = true) {as : Option Nat} {a : Addr} {oe : Obj} {d : Option Addr} {pn : List (Addr × Obj)} {c : Str} {e : Ec} {fs : List (Str × D)} {vs : List (Str × V)} (hz : Zc (.ref (U.cad c)) d oe) (hv : ∃ vs, oe.data = .fields vs) (he : cl.ecl c = some e) :
    Gs { C with calm := false, exi := as } (U.in_ as a d fs vs) (cl.in_ as c fs) (X.suite a ((a, oe) :: pn)) W1 where
  hK := g.hK
  hw := g.hw
  hN := g.hN
  nd := g.nd
  calm := fun z => nomatch z
  exi := rfl
  cexi := fun z => nomatch z
  hu := g.hu
  tk := fun u s' x => by
    obtain ⟨_, _, _, _, _, _, _, _, _, _, _, _, _, _, _, _, z⟩ := x
    exact z
  po := PassesOwn.never
  blt := g.blt
  glb := g.glb
  fns := fun z => nomatch z
  cls := fun _ _ _ z => nomatch z
  fn := g.fn
  kind := g.kind
  stk := g.stk
  frm := g.frm
  ecl := fun z => nomatch z
  xs := fun _ => by
    have z := g.ecl hcm c e he
    have key : ∀ {ι : List Addr} {H : Hp} {τ : Fr} {σ : L2.St} {i : Nat}, RelF (U.in_ as a d fs vs) ι H τ σ → as = some i ∧ i < τ.length → σ[i]? = some (some (.ref a)) ∧ ((d = none ∧ fs = []) ∨ ∃ dd, d = some dd ∧ H dd = some (.xd vs) ∧ RepF U.K ι H fs vs) := fun {ι H τ σ i} hf hi => by
      obtain ⟨h1, h2⟩ := hf.2.2 i hi.1
      have hl : i < σ.length := by rw [← hf.1]; exact hi.2
      exact ⟨by rw [List.getElem?_eq_getElem hl]; rw [h1 _ (List.getElem?_eq_getElem hl)]; rfl, h2⟩
    refine ⟨fun i n f p p2 hn hvi hnm => ⟨fun pins sh σ H Q I ⟨ι, st, τ, hs, hf, hp⟩ => ?_⟩, fun i n cc p p2 p3 p4 hn hvi hnm hg1 hg2 hm2 => ⟨fun pins sh σ H Q I ⟨ι, st, τ, hs, hf, hp⟩ => ?_⟩⟩
    · have hn : X.N[i]? = some n := by rw [g.hN]; exact hn
      have hp : Post (U.in_ as a d fs vs) (RD (U.in_ as a d fs vs)) W1 σ ι H (efD (cl.in_ as c fs) i f τ st) Q := hp
      unfold efD at hp
      simp only [] at hp
      split at hp
      case isFalse => exact hp.elim
      rename_i hi
      rw [he] at hp
      simp only [] at hp
      split at hp
      case isFalse => exact hp.elim
      rename_i hfc
      obtain ⟨k1, k2⟩ := key hf hi
      split at hp
      · rename_i x hx
        refine (pe_xf (e := .Name n p) (te := tVar i) z.xf (z.no f hfc) hz hv (pe_var hn (visB_ok hvi) (nmB_ok hnm).1 (nmB_ok hnm).2.1) rfl).run pins sh σ H Q I ⟨.ref a, k1, rfl, rfl, ?_⟩
        rcases k2 with ⟨_, rfl⟩ | ⟨dd, rfl, h1, h2⟩
        · cases hx
        · obtain ⟨v, h3, h4⟩ := repF_some h2 hx
          exact ⟨dd, vs, v, rfl, h1, h3, hp.p.val hs h4⟩
      · exact hp.elim
    · have hn : X.N[i]? = some n := by rw [g.hN]; exact hn
      have hp : Post (U.in_ as a d fs vs) (RD (U.in_ as a d fs vs)) W1 σ ι H (eiD (cl.in_ as c fs) i cc τ st) Q := hp
      unfold eiD at hp
      simp only [] at hp
      split at hp
      case isFalse => exact hp.elim
      rename_i hi
      rw [he] at hp
      simp only [] at hp
      obtain ⟨k1, k2⟩ := key hf hi.1
      have hn' : PE (X.suite a ((a, oe) :: pn)) (.Name n p2) (tVar i) := pe_var hn (visB_ok hvi) (nmB_ok hnm).1 (nmB_ok hnm).2.1
      have hd : d = none ∨ ∃ dd fs, d = some dd ∧ H dd = some (.xd fs) := k2.imp (fun z => z.1) fun ⟨dd, h1, h2, _⟩ => ⟨dd, vs, h1, h2⟩
      have fin : ∀ (te : TE) (cv : Value) (x : V), PE (X.suite a ((a, oe) :: pn)) (.Name cc p3) te → (∀ σ H Q, Q x H → te σ H Q) → (∀ u, RelV x u → u = cv) → PySem.W.kitOne X.K (.ref (U.cad c)) cv = some (e.sups.contains cc) →
          wpAny (model (X.suite a ((a, oe) :: pn)).prog (X.suite a ((a, oe) :: pn)).w) (X.suite a ((a, oe) :: pn)).A (eval (.Call (.Name "isinstance" p) [.Name n p2, .Name cc p3] [] p4) (X.suite a ((a, oe) :: pn)).env) (EP (X.suite a ((a, oe) :: pn)) pins σ Q) (X.suite a ((a, oe) :: pn)).xe sh := fun te cv x hpe hte hcv hk => by
        refine (pe_callB (X := X.suite a ((a, oe) :: pn)) (call_isX z.ex hz hv) (glB_ok hg1) (g.blt _ (by decide +kernel)) (by decide +kernel) (pa_cons hn' (pa_cons hpe pa_nil rfl) rfl) (by decide +kernel) (by decide +kernel) rfl rfl).run pins sh σ H Q I ?_
        refine ⟨.ref a, k1, hte _ _ _ ?_⟩
        exact ⟨hd, x, cv, _, rfl, hcv, hk, hp.p.val hs (rep_bl _)⟩
      rcases hi.2 with hc | rfl | rfl
      · obtain ⟨e2, he2⟩ := Option.isSome_iff_exists.mp hc
        have z2 := g.ecl hcm cc e2 he2
        exact fin (tC (.ref (U.cad cc))) (.ref (U.cad cc)) (.ref (U.cad cc)) (pe_glob (glB_ok hg2) z2.mg rfl (nmB_ok hm2).1) (fun _ _ _ q => q) (fun u h => h) (z2.kit c e he)
      · exact fin (tC (.ty "ValueError")) (.type "ValueError") (.ty "ValueError") (pe_bltn (glB_ok hg2) (g.blt _ (by decide +kernel)) (by decide +kernel) rfl (by decide +kernel) (by decide +kernel)) (fun _ _ _ q => q) (fun u h => h) z.ve
      · obtain ⟨CE, m1, m2⟩ := z.cb
        exact fin (tC (.ref CE)) (.ref CE) (.ref CE) (pe_glob (glB_ok hg2) m1 rfl (nmB_ok hm2).1) (fun _ _ _ q => q) (fun u h => h) m2
def sIn (as : Option Nat) (a : Addr) (σ : L2.St) : L2.St := match as with
  | some i => σ.set i (some (.ref a))
  | none => σ
def sOut (as : Option Nat) (σ : L2.St) : L2.St := match as with
  | some i => σ.set i none
  | none => σ
theorem relS_in {ι : List Addr} {s : S} {H : Hp} {as : Option Nat} {a : Addr} {d : Option Addr} {fs : List (Str × D)} {vs : List (Str × V)} (h : RelS U ι s H) : RelS (U.in_ as a d fs vs) ι s H := ⟨h.len, fun n o e => let ⟨b, h1, h2⟩ := h.ob n o e; ⟨b, h1, by cases o <;> exact h2⟩, h.inj⟩
theorem relS_out {ι : List Addr} {s : S} {H : Hp} {as : Option Nat} {a : Addr} {d : Option Addr} {fs : List (Str × D)} {vs : List (Str × V)} (h : RelS (U.in_ as a d fs vs) ι s H) : RelS U ι s H := ⟨h.len, fun n o e => let ⟨b, h1, h2⟩ := h.ob n o e; ⟨b, h1, by cases o <;> exact h2⟩, h.inj⟩
theorem relF_out {ι : List Addr} {H : Hp} {as : Option Nat} {a : Addr} {d : Option Addr} {fs : List (Str × D)} {vs : List (Str × V)} {τ : Fr} {σ : L2.St} (hx : U.exi = none) (h : RelF (U.in_ as a d fs vs) ι H τ σ) : RelF U ι H (clr as τ) (sOut as σ) := by
  cases as with
  | none => exact ⟨h.1, h.2.1, fun i hi => by rw [hx] at hi; cases hi⟩
  | some i =>
    refine ⟨by simp [clr, sOut, h.1], fun j x e => ?_, fun i hi => by rw [hx] at hi; cases hi⟩
    simp only [clr] at e
    show ∃ v, (σ.set i none)[j]? = _ ∧ _
    by_cases hj : i = j
    · subst hj
      rw [List.getElem?_set] at e
      simp only [if_true] at e
      split at e <;> cases e
    · rw [List.getElem?_set_ne hj] at e ⊢
      exact h.2.1 j x e
theorem relF_in {ι : List Addr} {H : Hp} {as : Option Nat} {a : Addr} {d : Option Addr} {fs : List (Str × D)} {vs : List (Str × V)} {τ : Fr} {σ : L2.St} (he : (d = none ∧ fs = []) ∨ ∃ dd, d = some dd ∧ H dd = some (.xd vs) ∧ RepF U.K ι H fs vs) (h : RelF U ι H τ σ) :
    RelF (U.in_ as a d fs vs) ι H (clr as τ) (sIn as a σ) := by
  cases as with
  | none => exact ⟨h.1, h.2.1, fun i hi => by cases hi⟩
  | some i =>
    refine ⟨by simp [clr, sIn, h.1], fun j x e => ?_, fun j hj => ⟨fun v hv => ?_, he⟩⟩
    · simp only [clr] at e
      show ∃ v, (σ.set i (some (.ref a)))[j]? = _ ∧ _
      by_cases hj : i = j
      · subst hj
        rw [List.getElem?_set] at e
        simp only [if_true] at e
        split at e <;> cases e
      · rw [List.getElem?_set_ne hj] at e ⊢
        exact h.2.1 j x e
    · cases hj
      have hv : (σ.set i (some (.ref a)))[i]? = some v := hv
      rw [List.getElem?_set] at hv
      simp only [if_true] at hv
      split at hv
      · cases hv; rfl
      · cases hv
/-- the suite's end, seen from without -/
def Ends.off (as : Option Nat) (D : Ends) : Ends := match as with
  | some i => { nx := fun σ' H' => D.nx (σ'.set i none) H', rt := D.rt, bk := fun σ' H' => D.bk (σ'.set i none) H', ct := fun σ' H' => D.ct (σ'.set i none) H' }
  | none => D
theorem postS_off (hx : U.exi = none) {as : Option Nat} {a : Addr} {d : Option Addr} {fs : List (Str × D)} {vs : List (Str × V)} {En : Ends} {ι : List Addr} {H : Hp} {r : SR} (h : PostS U W En ι H (r.off as)) : PostS (U.in_ as a d fs vs) W1 (Ends.off as En) ι H r := by
  cases r with
  | bad => exact h
  | exc τ c fs s => exact h.elim
  | rt dd s =>
    intro ι' H' v go rs rv
    have := h ι' H' v go (relS_out rs) rv
    cases as <;> exact this
  | nx τ s =>
    intro ι' H' σ go rs rf
    have := h ι' H' _ go (relS_out rs) (relF_out hx rf)
    cases as <;> exact this
  | bk τ s =>
    intro ι' H' σ go rs rf
    have := h ι' H' _ go (relS_out rs) (relF_out hx rf)
    cases as <;> exact this
  | ct τ s =>
    intro ι' H' σ go rs rf
    have := h ι' H' _ go (relS_out rs) (relF_out hx rf)
    cases as <;> exact this
theorem c_try (g : Gs C U cl X W) (hcm : C.calm = true) {body suite : Cms} {cx : Str} {as : Option Nat} {nm : Option Str} {bd st : List Stmt} {b0 : Stmt} {p p' pos : Pos} (hg : glB X.env.scope cx = true) (hm : nmB cx = true) (has : okAsn C X.env.scope as nm = true)
    (hb : ∀ (X' : Cx) (W' : WX), Gs C U cl X' W' → X'.env.scope = X.env.scope → PSs X' bd (rdS U W' (exs cl body)))
    (hsu : ∀ (U' : Su) (cl' : CL) (X' : Cx) (W' : WX), Gs { C with calm := false, exi := as } U' cl' X' W' → X'.env.scope = X.env.scope → PSs X' (b0 :: st) (rdS U' W' (exs cl' suite))) :
    PS X (.Try bd [.ExceptHandler (some (.Name cx p)) nm (b0 :: st) p'] [] [] pos) (rdS U W (ex cl (.try_ body (.cons cx as suite .nil)))) := by
  have red : ∀ D σ H, rdS U W (ex cl (.try_ body (.cons cx as suite .nil))) D σ H → (cl.ecl cx).isSome = true ∧ ∃ ι s τ, RelS U ι s H ∧ RelF U ι H τ σ ∧ PostS U W D ι H (match exs cl body τ s with
    | .exc τ' c fs s' => exh cl (.cons cx as suite .nil) c fs τ' s'
    | r => r) := fun D σ H ⟨ι, s, τ, hs, hf, hp⟩ => by
      have hp : PostS U W D ι H (if hsOk cl (.cons cx as suite .nil) = true then (match exs cl body τ s with
        | .exc τ' c fs s' => exh cl (.cons cx as suite .nil) c fs τ' s'
        | r => r) else .bad) := hp
      split at hp
      · rename_i hk
        simp only [hsOk, Bool.and_true] at hk
        exact ⟨hk, ι, s, τ, hs, hf, hp⟩
      · exact hp.elim
  by_cases hk : (cl.ecl cx).isSome = true
  case neg => exact ⟨fun pins sh σ H D I h => absurd (red D σ H h).1 hk⟩
  obtain ⟨e0, ee0⟩ := Option.isSome_iff_exists.mp hk
  have z := g.ecl hcm cx e0 ee0
  have nc : Names X cx (.ref (U.cad cx)) := ⟨glB_ok hg, (nmB_ok hm).1, .inl z.mg⟩
  have hb' : ∀ (W' : WX) (pn : List (Addr × Obj)) (xe : Value → Shared → Prop), Takes (X.tr pn xe) W' → PassesOwn (model X.prog X.w) X.A X.env xe → PSs (X.tr pn xe) bd (rdS U W' (exs cl body)) := fun W' pn xe tk po =>
    hb (X.tr pn xe) W' { hK := g.hK, hw := g.hw, hN := g.hN, nd := g.nd, calm := g.calm, exi := g.exi, cexi := g.cexi, hu := g.hu, tk := tk, po := po, blt := g.blt, glb := g.glb, fns := g.fns, cls := fun c k h hc => (let z := g.cls c k h hc; ⟨z.mg, z.cls, z.na, z.mth, z.prop, z.init, z.ins, z.one, z.bt⟩), xs := fun q => (by rw [hcm] at q; cases q), fn := g.fn, kind := g.kind, stk := g.stk, frm := g.frm, ecl := fun hc c e h => (let z := g.ecl hc c e h; ⟨z.mg, z.mke, z.exm, z.xf, z.no, z.ex, z.kit, z.ve, z.cb⟩) } rfl
  -- the suite
  let ts : Addr → Value → Option Addr → TS := fun a cls d D σ H => ∃ c e fs vs ι s τ, cls = .ref (U.cad c) ∧ cl.ecl c = some e ∧ RelS (U.in_ as a d fs vs) ι s H ∧ RelF (U.in_ as a d fs vs) ι H τ σ ∧ PostS (U.in_ as a d fs vs) W1 D ι H (exs (cl.in_ as c fs) suite τ s)
  have hs' : ∀ (a : Addr) (oe : Obj) (cls : Value) (d : Option Addr) (pn : List (Addr × Obj)), Zc cls d oe → (∃ vs, oe.data = .fields vs) → PSs (X.suite a ((a, oe) :: pn)) (b0 :: st) (ts a cls d) := fun a oe cls d pn hz hv =>
    ⟨fun pins sh σ H D I ⟨c, e, fs, vs, ι, s, τ, ec, ee, h1, h2, h3⟩ => by
      subst ec
      exact (hsu (U.in_ as a d fs vs) (cl.in_ as c fs) _ W1 (suite_gs g hcm hz hv ee) rfl).run pins sh σ H D I ⟨ι, s, τ, h1, h2, h3⟩⟩
  -- what the body's errors come to
  have go : ∀ {En : Ends} {ι : List Addr} {H : Hp} {τ' : Fr} {c : Str} {fs : List (Str × D)} {s' : S}, PostS U W En ι H (exh cl (.cons cx as suite .nil) c fs τ' s') → ∀ ι' H' σ o, Go ι H ι' H' → RelS U ι' s' H' → RelF U ι' H' τ' σ → ExR U ι' H' fs o →
      ∃ b, PySem.W.exmOne X.K (.ref (U.cad c)) (.ref (U.cad cx)) = some b ∧ (b = true → ∀ a, H' a = none → ts a (.ref (U.cad c)) o (Ends.off as En) (sIn as a σ) H') ∧ (b = false → W (.ref (U.cad c)) o σ H') := fun {En ι H τ' c fs s'} hp ι' H' σ o gg rs rf rx => by
    simp only [exh] at hp
    cases ec : cl.ecl c with
    | none => rw [ec] at hp; exact hp.elim
    | some e =>
      rw [ec] at hp
      simp only [] at hp
      refine ⟨_, z.exm c e ec, fun hb a na => ?_, fun hb => ?_⟩
      · rw [if_pos hb] at hp
        rcases rx with ⟨rfl, rfl⟩ | ⟨dd, vs, rfl, h1, h2⟩
        · exact ⟨c, e, [], [], ι', s', clr as τ', rfl, ec, relS_in rs, relF_in (.inl ⟨rfl, rfl⟩) rf, postS_off (g.noexi hcm) (PostS.mono gg hp)⟩
        · exact ⟨c, e, fs, vs, ι', s', clr as τ', rfl, ec, relS_in rs, relF_in (.inr ⟨dd, rfl, h1, h2⟩) rf, postS_off (g.noexi hcm) (PostS.mono gg hp)⟩
      · rw [if_neg (by rw [hb]; exact Bool.false_ne_true)] at hp
        exact hp ι' H' σ o gg rs rf rx
  have fin : ∀ (W' : WX) (D : Ends) (σ : L2.St) (H : Hp), (∀ c o σ H', (∃ b, PySem.W.exmOne X.K (.ref (U.cad c)) (.ref (U.cad cx)) = some b ∧ (b = true → ∀ a, H' a = none → ts a (.ref (U.cad c)) o (Ends.off as D) (sIn as a σ) H') ∧ (b = false → W (.ref (U.cad c)) o σ H')) → W' (.ref (U.cad c)) o σ H') →
      rdS U W (ex cl (.try_ body (.cons cx as suite .nil))) D σ H → rdS U W' (exs cl body) D σ H := fun W' D σ H hW h => by
    obtain ⟨_, ι, s, τ, hs, hf, hp⟩ := red D σ H h
    refine ⟨ι, s, τ, hs, hf, ?_⟩
    revert hp
    cases exs cl body τ s with
    | exc τ' c fs s' => exact fun hp ι' H' σ o gg rs rf rx => hW c o σ H' (go hp ι' H' σ o gg rs rf rx)
    | bad => exact fun z => z
    | nx τ s => exact fun z => z
    | rt d s => exact fun z => z
    | bk τ s => exact fun z => z
    | ct τ s => exact fun z => z
  cases as with
  | none =>
    cases nm with
    | some n => cases has
    | none => exact PS.imp (ps_try_only g.stk g.frm nc g.tk hb' hs') fun D σ H h => fin _ D σ H (fun c o σ H' q => q) h
  | some i =>
    cases nm with
    | none => cases has
    | some n =>
      simp only [okAsn, Bool.and_eq_true, decide_eq_true_eq] at has
      obtain ⟨h1, h2⟩ := has
      have hl : X.env.kindOf n = some .local := by
        split at h2
        · assumption
        · cases h2
      exact PS.imp (ps_try_as g.stk g.frm g.nd (by rw [g.hN]; exact h1) hl nc g.tk hb' hs') fun D σ H h => fin _ D σ H (fun c o σ H' q => q) h
end
/-- the end of a lock -/
theorem unlock {U : Su} {ι ι' : List Addr} {H H' : Hp} {a : Addr} {od : Obj} {vs : List (Key × V)} {d : Nat} {s2 : S} {ks : List (Key × D)} (ha : H a = some (.dK vs)) (ia : ι[d]? = some a) (go : Go ι (upd H a (.frz od (.dK vs))) ι' H') (hs : RelS U ι' s2 H') (e : s2[d]? = some (.frd ks)) :
    H' a = some (.frz od (.dK vs)) ∧ RelS U ι' (s2.set d (.dct ks)) (upd H' a (.dK vs)) ∧ Go ι H ι' (upd H' a (.dK vs)) ∧ Kept H' (upd H' a (.dK vs)) := by
  have h1 := go.fz a od vs upd_same
  have ia' := go.ex.at ia
  have kp : Kept H' (upd H' a (.dK vs)) := fun b u z st => by
    rw [upd_ne (fun q => by subst q; rw [h1] at z; cases z; exact st)]
    exact z
  have ne : ∀ {b : Addr} {u : HO}, H b = some u → b ≠ a → H' b = none → False := fun hb q z => by
    refine go.there _ ?_ z
    rw [upd_ne q, hb]
    exact fun w => nomatch w
  refine ⟨h1, ⟨by simp [hs.len], fun n o q => ?_, hs.inj⟩, ⟨?_, fun b u z nb => ?_, fun b u z st => ?_, fun b z => ?_, fun b o ws z => ?_⟩, kp⟩
  · by_cases hn : n = d
    · subst hn
      rw [List.getElem?_set_self (List.getElem?_eq_some_iff.mp e).1] at q
      cases q
      obtain ⟨od2, ws, h3, h4⟩ := hs.at e ia'
      rw [h1] at h3
      cases h3
      exact ⟨a, ia', vs, upd_same, h4.mono (Ext.refl _) kp⟩
    · rw [List.getElem?_set_ne (Ne.symm hn)] at q
      obtain ⟨b, h3, h4⟩ := hs.ob n o q
      have hb : b ≠ a := fun z => hn (hs.inj n d a (z ▸ h3) ia')
      exact ⟨b, h3, h4.same (Ext.refl _) kp fun u z => by rw [upd_ne hb]; exact z⟩
  · obtain ⟨l, e1, e2⟩ := go.ext
    refine ⟨l, e1, fun b hb => ?_⟩
    have := e2 b hb
    by_cases q : b = a
    · subst q; rw [upd_same] at this; cases this
    · rw [upd_ne q] at this; exact this
  · have q : b ≠ a := fun q => nb (q ▸ List.mem_of_getElem? ia)
    rw [upd_ne q]
    exact go.keep b u (by rw [upd_ne q]; exact z) nb
  · have q : b ≠ a := fun q => by subst q; rw [ha] at z; cases z; exact st
    rw [upd_ne q]
    exact go.tups b u (by rw [upd_ne q]; exact z) st
  · by_cases q : b = a
    · rw [q, upd_same]; exact fun w => nomatch w
    · rw [upd_ne q]
      exact go.there b (by rw [upd_ne q]; exact z)
  · have q : b ≠ a := fun q => by subst q; rw [ha] at z; cases z
    rw [upd_ne q]
    exact go.fz b o ws (by rw [upd_ne q]; exact z)
theorem c_lk {U : Su} {cl : CL} {X : Cx} {W : WX} {st : Stmt} {e : Ex} {c : Cm} (h : PS X st (rdS U W (ex cl c))) : PS X st (rdS U W (ex cl (.lk e c))) := by
  refine PS.imp (ps_lock h) fun D σ H ⟨ι, s, τ, hs, hf, hp⟩ => ?_
  have hp : PostS U W D ι H (match lkOf (evE cl e τ s) s with
    | some p => lkS p.1 (ex cl c τ (s.set p.1 (.frd p.2)))
    | none => .bad) := hp
  split at hp
  case h_2 => exact hp.elim
  rename_i p q
  obtain ⟨d, kvs⟩ := p
  have e1 : s[d]? = some (.dct kvs) := by
    unfold lkOf at q
    split at q
    · rw [Option.map_eq_some_iff] at q
      obtain ⟨k2, q1, q2⟩ := q
      cases q2
      exact dctAt_of q1
    · cases q
  obtain ⟨a, ia, vs, h1, h2⟩ := hs.ob d _ e1
  refine ⟨a, .dK vs, h1, True.intro, fun od => ?_⟩
  have kp : Kept H (upd H a (.frz od (.dK vs))) := fun b xs z st => by
    rw [upd_ne (fun w => by rw [w, h1] at z; cases z; exact st)]; exact z
  have pt := hs.put (by intro _ z; cases z) (o' := .frd kvs) (u := .frz od (.dK vs)) e1 ia ⟨od, vs, upd_same, h2.mono (Ext.refl _) kp⟩
  refine ⟨ι, s.set d (.frd kvs), τ, pt.1, hf.mono (Ext.refl _) kp, ?_⟩
  have hp : PostS U W D ι H (lkS d (ex cl c τ (s.set d (.frd kvs)))) := hp
  revert hp
  cases ex cl c τ (s.set d (.frd kvs)) with
  | bad => exact fun hp => hp.elim
  | exc τ' c' fs s2 => exact fun hp => hp.elim
  | nx τ' s2 =>
    intro hp ι' H' σ' go hs' hf'
    simp only [lkS, unlk] at hp
    split at hp
    case h_2 => exact hp.elim
    rename_i ks e2
    obtain ⟨u1, u2, u3, u4⟩ := unlock h1 ia go hs' e2
    exact ⟨u1, hp ι' _ σ' u3 u2 (hf'.mono (Ext.refl _) u4)⟩
  | rt v s2 =>
    intro hp ι' H' x go hs' hx
    simp only [lkS, unlk] at hp
    split at hp
    case h_2 => exact hp.elim
    rename_i ks e2
    obtain ⟨u1, u2, u3, u4⟩ := unlock h1 ia go hs' e2
    exact ⟨u1, hp ι' _ x u3 u2 (hx.mono (Ext.refl _) u4)⟩
  | bk τ' s2 =>
    intro hp ι' H' σ' go hs' hf'
    simp only [lkS, unlk] at hp
    split at hp
    case h_2 => exact hp.elim
    rename_i ks e2
    obtain ⟨u1, u2, u3, u4⟩ := unlock h1 ia go hs' e2
    exact ⟨u1, hp ι' _ σ' u3 u2 (hf'.mono (Ext.refl _) u4)⟩
  | ct τ' s2 =>
    intro hp ι' H' σ' go hs' hf'
    simp only [lkS, unlk] at hp
    split at hp
    case h_2 => exact hp.elim
    rename_i ks e2
    obtain ⟨u1, u2, u3, u4⟩ := unlock h1 ia go hs' e2
    exact ⟨u1, hp ι' _ σ' u3 u2 (hf'.mono (Ext.refl _) u4)⟩
mutual
theorem sndC : ∀ (C : Ck) (U : Su) (cl : CL) (c : Cm) (X : Cx) (W : WX) (x : Stmt), Gs C U cl X W → okC C c X.env.scope x = true → PS X x (rdS U W (ex cl c))
  | C, U, cl, .asg t e, X, W, x, g, h => by
    unfold okC at h
    split at h
    case h_2 => cases h
    simp only [Bool.and_eq_true] at h
    obtain ⟨h1, h2⟩ := h
    have i := sndE C U cl e X W _ g.toGd h1
    split at h2
    · simp only [Bool.and_eq_true, decide_eq_true_eq] at h2
      exact c_asg1 g h2.1.1.1 h2.1.1.2 h2.1.2 h2.2 i
    · simp only [Bool.and_eq_true] at h2
      exact c_asgT g h2.1.1.1 h2.1.1.2 h2.1.2 h2.2 ⟨_, _, _, rfl⟩ i
    · simp only [Bool.and_eq_true] at h2
      exact c_sub g h2.1.2 h2.2 (sndE C U cl _ X W _ g.toGd h2.1.1.1) (sndE C U cl _ X W _ g.toGd h2.1.1.2) i
    · simp only [Bool.and_eq_true, decide_eq_true_eq] at h2
      obtain ⟨⟨hc, rfl⟩, h3⟩ := h2
      exact c_fld g hc (sndE C U cl _ X W _ g.toGd h3) i
    · cases h2
  | C, U, cl, .lk e c, X, W, x, g, h => by
    unfold okC at h
    exact c_lk (sndC C U cl c X W x g h)
  | C, U, cl, .ite c a b, X, W, x, g, h => by
    unfold okC at h
    split at h
    case h_2 => cases h
    simp only [Bool.and_eq_true] at h
    exact c_ite (sndE C U cl c X W _ g.toGd h.1.1) (sndCs C U cl a X W _ g h.1.2) (sndCs C U cl b X W _ g h.2)
  | C, U, cl, .for_ t k its body, X, W, x, g, h => by
    unfold okC at h
    split at h
    case h_2 => cases h
    simp only [Bool.and_eq_true] at h
    obtain ⟨⟨⟨⟨hc, h1⟩, h7, ht⟩, h3⟩, h4⟩ := h
    refine c_for g hc h1 h3 ?_ (sndCs C U cl body X W _ g h4)
    unfold okIt at h7
    cases k with
    | seq =>
      simp only [] at h7
      split at h7
      · exact i_seq g.toGd (sndE C U cl _ X W _ g.toGd h7).v
      · cases h7
    | rng1 =>
      simp only [] at h7
      split at h7
      · simp only [Bool.and_eq_true, decide_eq_true_eq] at h7
        obtain ⟨⟨rfl, h8⟩, h9⟩ := h7
        exact i_rng1 g.toGd h8 h9 (sndEs C U cl its X W _ g.toGd h9)
      · cases h7
    | rng2 =>
      simp only [] at h7
      split at h7
      · simp only [Bool.and_eq_true, decide_eq_true_eq] at h7
        obtain ⟨⟨rfl, h8⟩, h9⟩ := h7
        exact i_rng2 g.toGd h8 h9 (sndEs C U cl its X W _ g.toGd h9)
      · cases h7
    | items =>
      simp only [] at h7
      split at h7
      · simp only [Bool.and_eq_true, decide_eq_true_eq] at h7
        obtain ⟨⟨⟨rfl, h8⟩, h9⟩, h10⟩ := h7
        split at h8
        · unfold itTg at ht
          split at ht
          · exact i_items g.toGd h9 h10 (sndE C U cl _ X W _ g.toGd h8).v
          · cases ht
          · rename_i hne _; exact (hne rfl).elim
        · cases h8
      · cases h7
  | C, U, cl, .whl c body, X, W, x, g, h => by
    unfold okC at h
    split at h
    case h_2 => cases h
    simp only [Bool.and_eq_true] at h
    exact c_whl g (sndE C U cl c X W _ g.toGd h.1) (sndCs C U cl body X W _ g h.2)
  | C, U, cl, .ret e, X, W, x, g, h => by
    unfold okC at h
    split at h
    case h_2 => cases h
    refine PS.imp (ps_ret (sndE C U cl e X W _ g.toGd h).v) fun D σ H ⟨ι, s, τ, hs, hf, hp⟩ => ?_
    exact ⟨ι, s, τ, hs, hf, (PostS.toS (rel := RD U) hf hp).imp fun v H1 ⟨ι1, s1, d, q1, q2, q3, _, q4⟩ => q4 ι1 H1 v (Go.refl _ _) q1 q2⟩
  | C, U, cl, .retn, X, W, x, g, h => by
    unfold okC at h
    split at h
    case h_2 => cases h
    exact PS.imp ps_retN fun D σ H ⟨ι, s, τ, hs, hf, hp⟩ => hp ι H .non (Go.refl _ _) hs rep_non
  | C, U, cl, .expr e, X, W, x, g, h => by
    unfold okC at h
    split at h
    case h_2 => cases h
    simp only [Bool.and_eq_true] at h
    refine PS.imp (ps_expr (sndE C U cl e X W _ g.toGd h.1).v (noSwap h.2)) fun D σ H ⟨ι, s, τ, hs, hf, hp⟩ => ?_
    exact ⟨ι, s, τ, hs, hf, (PostS.toS (rel := RD U) hf hp).imp fun v H1 ⟨ι1, s1, d, q1, q2, q3, _, q4⟩ => q4.nx q1 q3⟩
  | C, U, cl, .pass, X, W, x, g, h => by
    unfold okC at h
    split at h
    case h_2 => cases h
    exact PS.imp ps_pass fun D σ H ⟨ι, s, τ, hs, hf, hp⟩ => hp ι H σ (Go.refl _ _) hs hf
  | C, U, cl, .brk, X, W, x, g, h => by
    unfold okC at h
    split at h
    case h_2 => cases h
    exact PS.imp ps_break fun D σ H ⟨ι, s, τ, hs, hf, hp⟩ => hp ι H σ (Go.refl _ _) hs hf
  | C, U, cl, .cont, X, W, x, g, h => by
    unfold okC at h
    split at h
    case h_2 => cases h
    exact PS.imp ps_continue fun D σ H ⟨ι, s, τ, hs, hf, hp⟩ => hp ι H σ (Go.refl _ _) hs hf
  | C, U, cl, .rse c es, X, W, x, g, h => by
    unfold okC at h
    split at h
    case h_2 => cases h
    simp only [Bool.and_eq_true, decide_eq_true_eq] at h
    obtain ⟨⟨⟨⟨hc, rfl⟩, h1⟩, h2⟩, h3⟩ := h
    exact c_rse g hc h1 h2 h3 (sndEs C U cl es X W _ g.toGd h3)
  | C, U, cl, .try_ body hs, X, W, x, g, h => by
    unfold okC at h
    split at h
    case h_2 => cases h
    rename_i bd hds pos
    simp only [Bool.and_eq_true] at h
    obtain ⟨⟨hc, h1⟩, h2⟩ := h
    cases hs with
    | nil => unfold okHs at h2; cases h2
    | cons cx as suite r =>
      cases r with
      | cons _ _ _ _ => unfold okHs at h2; cases h2
      | nil =>
        unfold okHs at h2
        split at h2
        case h_2 => cases h2
        simp only [Bool.and_eq_true, decide_eq_true_eq] at h2
        obtain ⟨⟨⟨⟨rfl, q1⟩, q2⟩, q3⟩, q4⟩ := h2
        exact c_try g hc q1 q2 q3 (fun X' W' g' e => sndCs C U cl body X' W' bd g' (by rw [e]; exact h1)) (fun U' cl' X' W' g' e => sndCs _ U' cl' suite X' W' _ g' (by rw [e]; exact q4))
theorem sndCs : ∀ (C : Ck) (U : Su) (cl : CL) (cs : Cms) (X : Cx) (W : WX) (xs : List Stmt), Gs C U cl X W → okCs C cs X.env.scope xs = true → PSs X xs (rdS U W (exs cl cs))
  | C, U, cl, .nil, X, W, xs, g, h => by
    unfold okCs at h
    cases xs with
    | cons _ _ => cases h
    | nil => exact PSs.imp pss_nil fun D σ H ⟨ι, s, τ, hs, hf, hp⟩ => hp ι H σ (Go.refl _ _) hs hf
  | C, U, cl, .cons c cs, X, W, xs, g, h => by
    unfold okCs at h
    split at h
    case h_2 => cases h
    simp only [Bool.and_eq_true] at h
    refine PSs.imp (pss_cons (sndC C U cl c X W _ g h.1) (sndCs C U cl cs X W _ g h.2)) fun D σ H ⟨ι, s, τ, hs, hf, hp⟩ => ?_
    refine ⟨ι, s, τ, hs, hf, PostS.imp (PostS.bind hp) (fun σ' H' ⟨ι1, s1, τ1, h1, h2, _, h4⟩ => ⟨ι1, s1, τ1, h1, h2, h4⟩) (fun _ _ z => z) (fun _ _ z => z) (fun _ _ z => z)⟩
end

/-! ### defs -/
/-- a def of the text and its plain body -/
structure Df where
  id : Nat
  name : Str
  qual : Str
  N : List Str
  ps : List Str
  st : Stmt
  fn : Fn
/-- the __init__ of an own class of errors -/
structure Xf where
  name : Str
  qual : Str
  N : List Str
  ps : List Str
  st : Stmt
def scB (N ps : List Str) (sc : Scope) : Bool :=
  (match sc.kind with | .function => true | _ => false) && !sc.isCoroutine && !sc.isGenerator && decide N.Nodup && decide (N.take ps.length = ps) && ps.all (locB sc) && sc.names.all fun y => (match y.2 with | .free => false | _ => true)
theorem scB_ok {N ps : List Str} {sc : Scope} (h : scB N ps sc = true) : FnScope N ps sc := by
  unfold scB at h
  simp only [Bool.and_eq_true, Bool.not_eq_true', decide_eq_true_eq, List.all_eq_true] at h
  obtain ⟨⟨⟨⟨⟨⟨h1, h2⟩, h3⟩, h4⟩, h5⟩, h6⟩, h7⟩ := h
  refine ⟨?_, h2, h3, h4, h5, fun x hx => ?_, fun y hy => ?_⟩
  · split at h1
    · assumption
    · cases h1
  · exact locB_ok (h6 x hx)
  · have := h7 y hy
    intro z
    rw [z] at this
    cases this
/-- the names that a program's text uses -/
structure Nm where
  fns : List (Nat × Str)
  gns : List (Nat × Str)
  cls : List Str
  ecl : List Str
/-- the def d is checked -/
def okD (n : Nm) (d : Df) : Bool :=
  scB d.N d.ps (defScope d.st) && decide (d.fn.np = d.ps.length) && decide (d.fn.nl = d.N.length) && okCs ⟨d.N, n.fns, n.gns, n.cls, n.ecl, true, none⟩ d.fn.body (defScope d.st) (defBody d.st)
def okX (base : Str) (fields : List Str) (x : Xf) : Bool :=
  scB x.N x.ps (defScope x.st) && decide (x.ps.length = fields.length + 1) && !fields.isEmpty && decide (fields.length ≤ 800) && okInit x.N (defScope x.st) base fields (defBody x.st)
def DfAt (K : PySem.W.Frag) (d : Df) (f : Addr) : Prop := ∃ fd, Fun K d.name d.qual d.st f fd ∧ Binds K fd d.ps []
structure TopCl (U : Su) (K : PySem.W.Frag) (mg : Str → Option Value) (Γ : Ga) (ds : List Df) (c : Str) (k : Cl) : Prop where
  mg : mg c = some (.ref (U.cad c))
  cls : Cls K (U.cad c)
  na : ∀ f, k.fields.contains f = true → NoAttr K (U.cad c) f
  mth : ∀ m g, k.mths.lookup m = some g → ∃ d ∈ ds, d.id = g ∧ ∃ f, Meth K (U.cad c) m f ∧ DfAt K d f
  prop : ∀ m g, k.props.lookup m = some g → ∃ d ∈ ds, d.id = g ∧ ∃ p f, PropOf K (U.cad c) m p f ∧ DfAt K d f
  init : ∀ g, k.init = some g → ∃ d ∈ ds, d.id = g ∧ ∃ f, Mk K (U.cad c) f ∧ DfAt K d f
  ins : PySem.W.findIn K (.ref (U.cad c)) "__class__" = some (some (.builtin "object.__class__")) ∧ PySem.W.specialIn K (.builtin "object.__class__") "__get__" = some (some (.builtin "getset_descriptor.__get__")) ∧
    PySem.W.takesIn K (.builtin "object.__class__") = some true ∧ PySem.W.mroIn K (U.cad c) (.type "object") = some true
  one : ∀ x k2, Γ.cls.lookup x = some k2 → PySem.W.kitOne K (.ref (U.cad x)) (.ref (U.cad c)) = some (decide (x = c))
  bt : ∀ T ∈ ["NoneType", "bool", "int", "str", "list", "tuple", "dict"], PySem.W.kitOne K (.type T) (.ref (U.cad c)) = some false
structure TopEc (U : Su) (K : PySem.W.Frag) (mg : Str → Option Value) (Γ : Ga) (base : Str) (c : Str) (e : Ec) : Prop where
  cb : ∃ CE, mg "CappedError" = some (.ref CE) ∧ PySem.W.kitOne K (.ref (U.cad c)) (.ref CE) = some (e.sups.contains "CappedError")
  mg : mg c = some (.ref (U.cad c))
  oex : OexC K (U.cad c)
  init : ∃ (x : Xf) (f : Addr) (fd : FuncData), okX base e.fields x = true ∧ Fun K x.name x.qual x.st f fd ∧ Binds K fd x.ps [] ∧ PySem.W.findIn K (.ref (U.cad c)) "__init__" = some (some (.ref f)) ∧ PySem.W.typeIn K (.ref f) = some (.type "function")
  exm : ∀ x e2, Γ.ecl.lookup x = some e2 → PySem.W.exmOne K (.ref (U.cad x)) (.ref (U.cad c)) = some (e2.sups.contains c)
  xf : XfC K (U.cad c)
  no : ∀ f, e.fields.contains f = true → PySem.W.findIn K (.ref (U.cad c)) f = some none
  ex : ExcC K (U.cad c)
  kit : ∀ x e2, Γ.ecl.lookup x = some e2 → PySem.W.kitOne K (.ref (U.cad x)) (.ref (U.cad c)) = some (e2.sups.contains c)
  ve : PySem.W.kitOne K (.ref (U.cad c)) (.type "ValueError") = some (e.sups.contains "ValueError")
/-- the own class of errors that all the others are under -/
structure BaseOk (K : PySem.W.Frag) (mg : Str → Option Value) (base : Str) (CE : Addr) : Prop where
  mg : mg base = some (.ref CE)
  b1 : PySem.W.specialIn K (.ref CE) "__getattribute__" = some (some (.builtin "type.__getattribute__"))
  b2 : PySem.W.readsIn K CE (.type "type") = true
  b3 : PySem.W.findCls K (.ref CE) (.type "type") "__init__" = some (.val (.builtin "ValueError.__init__"))
  b4 : PySem.W.isClsIn K CE = true
  b5 : PySem.W.typeIn K (.ref CE) = some (.type "type")
/-- what the top has made of the defs, classes and constants -/
structure Top (U : Su) (K : PySem.W.Frag) (mg : Str → Option Value) (Γ : Ga) (ds : List Df) (n : Nm) (base : Str) : Prop where
  hK : U.K = K
  exi : U.exi = none
  fns : Γ.fns = ds.map fun d => (d.id, d.fn)
  nd : (ds.map (·.id)).Nodup
  ok : ∀ d ∈ ds, okD n d = true
  blt : ∀ x ∈ blts, mg x = none
  glb : ∀ (i : Nat) (x : Str) (d : D), n.gns.lookup i = some x → Γ.consts.lookup i = some d → ∃ u v, mg x = some u ∧ RelV v u ∧ ∀ ι H, Rep U.K ι H d v
  def_ : ∀ (i : Nat) (x : Str), n.fns.lookup i = some x → ∃ d ∈ ds, d.id = i ∧ ∃ f, DfAt K d f ∧ mg x = some (.ref f) ∧ PySem.W.keepIn K (.ref f) = true
  cls : ∀ c k, Γ.cls.lookup c = some k → TopCl U K mg Γ ds c k
  ecl : ∀ c e, Γ.ecl.lookup c = some e → TopEc U K mg Γ base c e ∧ ∃ CE, BaseOk K mg base CE
theorem look_id : ∀ {ds : List Df} {d : Df}, (ds.map (·.id)).Nodup → d ∈ ds → (ds.map fun d => (d.id, d.fn)).lookup d.id = some d.fn
  | [], d, _, h => by cases h
  | x :: ds, d, hn, h => by
    simp only [List.map_cons, List.nodup_cons] at hn
    simp only [List.map_cons, List.lookup_cons]
    by_cases e : d.id = x.id
    · have e2 : (d.id == x.id) = true := by simpa using e
      rw [e2]
      rcases List.mem_cons.mp h with rfl | h
      · rfl
      · exact absurd (List.mem_map.mpr ⟨d, h, e⟩) hn.1
    · have e2 : (d.id == x.id) = false := by simpa using e
      rw [e2]
      rcases List.mem_cons.mp h with rfl | h
      · exact absurd rfl e
      · exact look_id hn.2 h
theorem room_hu {k : Nat} {A : Around} (r : Room k A) : A.units + 65 < cLine := by have := r.un; omega
theorem start_at {N : List Str} {vs : List V} {j : Nat} {w : V} (h : vs[j]? = some w) : (L2.start N vs)[j]? = some (some w) := by
  unfold L2.start
  rw [List.getElem?_append_left (by have := (List.getElem?_eq_some_iff.mp h).1; simpa using this), List.getElem?_map, h]
  rfl
/-- an own error's __init__ -/
theorem xf_ok {P : Program} {w : World} {K : PySem.W.Frag} {mg : Str → Option Value} {hb : Heap} {base : Str} {CE C : Addr} {fields : List Str} {x : Xf} {f : Addr} {fd : FuncData} (B : BaseOk K mg base CE) (T : OexC K C) (no : ∀ f, fields.contains f = true → PySem.W.findIn K (.ref C) f = some none)
    (h : okX base fields x = true) (F : Fun K x.name x.qual x.st f fd) : FnOk P w K mg hb (L2.CX P w) 1 f fd x.ps (spX K C fields) := by
  unfold okX at h
  simp only [Bool.and_eq_true, decide_eq_true_eq, Bool.not_eq_true'] at h
  obtain ⟨⟨⟨⟨h1, h2⟩, h3⟩, h4⟩, h5⟩ := h
  refine F.okX (scB_ok h1) (fun vs H Q E ⟨a, ws, e, hl, _⟩ => by rw [e, h2]; simp [hl]) (fun cdv A outer s H vs Q E hr ⟨a, ws, e, hl, ha, hq⟩ => ?_)
  subst e
  cases fields with
  | nil => cases h3
  | cons g gs =>
    obtain ⟨t, ht, z⟩ := init_run (X := cxOf (L2.CX P w) P w K mg hb x.N x.qual (defScope x.st) f cdv A outer s H E) (N := x.N) rfl B.mg B.b1 B.b2 B.b3 h5
    refine ⟨t, ht, z _ _ H a C ws (start_at rfl) (fun j w hw => start_at (by rw [show 1 + j = j + 1 by omega]; simpa using hw)) (by simpa using hl) T (fun q hq => no q (by simpa using hq)) ha (by simp at h4; omega) hq⟩
theorem prog_ok {U : Su} {P : Program} {w : World} {K : PySem.W.Frag} {mg : Str → Option Value} {base : Heap} {Γ : Ga} {ds : List Df} {n : Nm} {bs : Str} (T : Top U K mg Γ ds n bs) (hw : U.w = some w) :
    ∀ (k : Nat) (d : Df), d ∈ ds → ∀ f fd, Fun K d.name d.qual d.st f fd → FnOk P w K mg base (L2.CX P w) (2 * k + 2) f fd d.ps (spOf U (callF Γ k d.id))
  | 0, d, e, f, fd, F => ⟨fun vs H Q E ⟨_, _, _, _, _, z⟩ => z.elim, fun A outer s H args us vs Q E hr _ _ _ ⟨_, _, _, _, _, z⟩ => z.elim⟩
  | k + 1, d, hd, f, fd, F => by
    have ok := T.ok d hd
    unfold okD at ok
    simp only [Bool.and_eq_true, decide_eq_true_eq] at ok
    obtain ⟨⟨⟨h1, h2⟩, h3⟩, h4⟩ := ok
    have hfn : Γ.fns.lookup d.id = some d.fn := by rw [T.fns]; exact look_id T.nd hd
    have hcall : ∀ ds' s, callF Γ (k + 1) d.id ds' s = runFn (clF Γ k) d.fn ds' s := fun ds' s => by
      show (match Γ.fns.lookup d.id with | some fn => runFn _ fn ds' s | none => R.bad) = _
      rw [hfn]; rfl
    refine F.okX (k := 2 * k + 3) (scB_ok h1) (fun vs H Q E h => ?_) (fun cdv A outer s H vs Q E hr h => ?_)
    · obtain ⟨ι, s, ds', _, hr, hp⟩ := h
      rw [hcall] at hp
      unfold runFn at hp
      split at hp
      · rename_i hl
        rw [hr.length, hl, h2]
      · exact hp.elim
    · obtain ⟨ι, st, ds', hs, hr', hp⟩ := h
      rw [hcall] at hp
      unfold runFn at hp
      split at hp
      case isFalse => exact hp.elim
      rename_i hl
      have tk : Takes (cxOf (L2.CX P w) P w K mg base d.N d.qual (defScope d.st) f cdv A outer s H E) (fun cls dd _ H => E cls dd H) := takes_of rfl rfl rfl rfl
      have at_ : ∀ (d2 : Df), d2 ∈ ds → ∀ f2, DfAt K d2 f2 → FnAt (cxOf (L2.CX P w) P w K mg base d.N d.qual (defScope d.st) f cdv A outer s H E) U (clF Γ k) d2.id f2 := fun d2 hd2 f2 ⟨fd2, F2, b2⟩ =>
        ⟨fd2, d2.ps, 2 * k + 2, prog_ok T hw k d2 hd2 f2 fd2 F2, hr, b2⟩
      have g : Gs ⟨d.N, n.fns, n.gns, n.cls, n.ecl, true, none⟩ U (clF Γ k) (cxOf (L2.CX P w) P w K mg base d.N d.qual (defScope d.st) f cdv A outer s H E) (fun cls dd _ H => E cls dd H) := {
        hK := T.hK
        hw := hw
        hN := rfl
        nd := (scB_ok h1).nd
        calm := fun _ => rfl
        exi := T.exi
        cexi := fun _ => rfl
        hu := room_hu hr
        tk := tk
        po := passes_of rfl
        blt := T.blt
        glb := T.glb
        fns := fun _ j x hj => by
          obtain ⟨d2, hd2, rfl, f2, a2, m2, k2⟩ := T.def_ j x hj
          exact ⟨f2, at_ d2 hd2 f2 a2, m2, k2⟩
        cls := fun c kk hc _ => by
          have z := T.cls c kk hc
          refine ⟨z.mg, z.cls, z.na, fun m gg hm => ?_, fun m gg hm => ?_, fun gg hm => ?_, z.ins, z.one, z.bt⟩
          · obtain ⟨d2, hd2, rfl, f2, me, a2⟩ := z.mth m gg hm
            exact ⟨f2, me, at_ d2 hd2 f2 a2⟩
          · obtain ⟨d2, hd2, rfl, p2, f2, me, a2⟩ := z.prop m gg hm
            exact ⟨p2, f2, me, at_ d2 hd2 f2 a2⟩
          · obtain ⟨d2, hd2, rfl, f2, me, a2⟩ := z.init gg hm
            exact ⟨f2, me, at_ d2 hd2 f2 a2⟩
        xs := fun z => nomatch z
        fn := fun _ => rfl
        kind := (scB_ok h1).kind
        stk := rfl
        frm := rfl
        ecl := fun _ c e he => by
          obtain ⟨z, CE, B⟩ := T.ecl c e he
          obtain ⟨x, f2, fd2, hx, F2, b2, i2, t2⟩ := z.init
          refine ⟨z.mg, ⟨?_, f2, fd2, x.ps, 1, z.oex, i2, t2, xf_ok B z.oex z.no hx F2, hr.mono (by omega), b2⟩, z.exm, z.xf, z.no, z.ex, z.kit, z.ve, z.cb⟩
          unfold okX at hx
          simp only [Bool.and_eq_true, decide_eq_true_eq] at hx
          exact hx.1.2 }
      refine ⟨_, sndCs _ U (clF Γ k) d.fn.body _ _ _ g h4, ι, st, ds'.map some ++ List.replicate (d.fn.nl - d.fn.np) none, hs, ?_, ?_⟩
      · have hv := hr'.length
        refine ⟨by unfold L2.start; simp; rw [hv, h3, h2, hl, h2], fun j x hx => ?_, fun j hj => by rw [T.exi] at hj; cases hj⟩
        by_cases hj : j < ds'.length
        · rw [List.getElem?_append_left (by simpa using hj), List.getElem?_map, Option.map_eq_some_iff] at hx
          obtain ⟨x', hx, e'⟩ := hx
          cases e'
          obtain ⟨v, h5, h6⟩ := hr'.get hx
          exact ⟨v, start_at h5, h6⟩
        · rw [List.getElem?_append_right (by simpa using hj), List.getElem?_replicate] at hx
          split at hx <;> cases hx
      · revert hp
        cases exs (clF Γ k) d.fn.body (ds'.map some ++ List.replicate (d.fn.nl - d.fn.np) none) st with
        | nx τ s' => exact fun hp ι' H' σ go hs' _ => hp ι' H' .non go hs' rep_non
        | rt dd s' => exact fun hp => hp
        | exc τ c fs s' => exact fun hp ι' H' σ a go hs' _ he => hp ι' H' a go hs' he
        | bk τ s' => exact fun hp => hp.elim
        | ct τ s' => exact fun hp => hp.elim
        | bad => exact fun hp => hp.elim
end G

set_option Elab.async false
set_option linter.all false
set_option maxRecDepth 100000
set_option autoImplicit false
/-! G9: from the top's facts and a run of the plain law to the row. -/
namespace G
open PySem PySem.Spec PyProof.Rows L2
/-- where the top has put a def -/
def DefAt (K : PySem.W.Frag) (mg : Str → Option Value) (d : Df) : Prop :=
  ∃ f fd, Fun K d.name d.qual d.st f fd ∧ mg d.name = some (.ref f) ∧ PySem.W.keepIn K (.ref f) = true ∧ ∀ us : List Value, us.length = d.ps.length → bindArgs fd ⟨us, []⟩ = pure (d.ps.zip us)
abbrev BindsD (name qual : Str) (ps : List Str) (st : Stmt) : Prop := ∀ (kV doc pm : Value) (an : Option Addr) (cdv ct : Value) (us : List Value), us.length = ps.length → bindArgs (PySem.W.fnOf name qual (defArgs st) (defBody st) (defScope st) .none kV doc pm an cdv ct) ⟨us, []⟩ = pure (ps.zip us)
section
variable {K : PySem.W.Frag} {h : Heap} {mg : Str → Option Value}
theorem defAt (X : K.In h) (G : h.Ns mainGlobals mg) (d : Df) {f : Addr} {oc kV doc pm cd ct : Value} {od an : Option Addr} {sl : Array (Option Value)} (hb : BindsD d.name d.qual d.ps d.st)
    (a : PySem.W.nsIn K mainGlobals d.name = some (some (.ref f))) (l : K.lookup f = some ⟨oc, od, .func (PySem.W.fnOf d.name d.qual (defArgs d.st) (defBody d.st) (defScope d.st) .none kV doc pm an cd ct), sl⟩)
    (c : PySem.W.codeIn K cd d.qual = true) (k : PySem.W.keepIn K (.ref f) = true) : DefAt K mg d :=
  ⟨f, _, fun_mk l c k, PySem.W.mg_of X G a, k, hb kV doc pm an cd ct⟩
theorem DefAt.top {d : Df} (x : DefAt K mg d) : ∃ f, DfAt K d f ∧ mg d.name = some (.ref f) ∧ PySem.W.keepIn K (.ref f) = true := by
  obtain ⟨f, fd, h1, h2, h3, h4⟩ := x
  exact ⟨f, ⟨fd, h1, .all h4⟩, h2, h3⟩
theorem use {P Q : Prop} (x : P) (h : P → Q) : Q := h x
/-- an own class -/
structure ClsAt (K : PySem.W.Frag) (mg : Str → Option Value) (c : Str) (C : Addr) : Prop where
  mg : mg c = some (.ref C)
  cls : Cls K C
  mks : PySem.W.makesIn K C = true
  kp : PySem.W.keepIn K (.ref C) = true
  ty : PySem.W.typeIn K (.ref C) = some (.type "type")
  is : PySem.W.isClsIn K C = true
  ins : PySem.W.findIn K (.ref C) "__class__" = some (some (.builtin "object.__class__")) ∧ PySem.W.specialIn K (.builtin "object.__class__") "__get__" = some (some (.builtin "getset_descriptor.__get__")) ∧
    PySem.W.takesIn K (.builtin "object.__class__") = some true ∧ PySem.W.mroIn K C (.type "object") = some true
theorem clsAt (X : K.In h) (G : h.Ns mainGlobals mg) (c : Str) {C : Addr} (a : PySem.W.nsIn K mainGlobals c = some (some (.ref C))) (c1 : PySem.W.plainGet K C Str.empty = true) (c2 : PySem.W.hasDictIn K C = true) (c3 : PySem.W.plainOver K C = true)
    (c4 : PySem.W.findIn K (.ref C) "__setattr__" = some (some (.builtin "object.__setattr__"))) (c5 : PySem.W.makesIn K C = true) (c6 : PySem.W.keepIn K (.ref C) = true) (c7 : PySem.W.typeIn K (.ref C) = some (.type "type")) (c8 : PySem.W.isClsIn K C = true)
    (c9 : PySem.W.findIn K (.ref C) "__class__" = some (some (.builtin "object.__class__"))) (d1 : PySem.W.specialIn K (.builtin "object.__class__") "__get__" = some (some (.builtin "getset_descriptor.__get__")))
    (d2 : PySem.W.takesIn K (.builtin "object.__class__") = some true) (d3 : PySem.W.mroIn K C (.type "object") = some true) : ClsAt K mg c C :=
  ⟨PySem.W.mg_of X G a, ⟨c1, c2, c3, c4⟩, c5, c6, c7, c8, c9, d1, d2, d3⟩
def MetAt (K : PySem.W.Frag) (C : Addr) (m : Str) (d : Df) : Prop := ∃ f, Meth K C m f ∧ DfAt K d f
theorem metAt {c m : Str} {C f : Addr} (_ : ClsAt K mg c C) (d : Df) {oc kV doc pm cd ct : Value} {od an : Option Addr} {sl : Array (Option Value)} (hb : BindsD d.name d.qual d.ps d.st)
    (a : PySem.W.findIn K (.ref C) m = some (some (.ref f))) (l : K.lookup f = some ⟨oc, od, .func (PySem.W.fnOf d.name d.qual (defArgs d.st) (defBody d.st) (defScope d.st) .none kV doc pm an cd ct), sl⟩)
    (c : PySem.W.codeIn K cd d.qual = true) (k : PySem.W.keepIn K (.ref f) = true) (i : PySem.W.isFn K (.ref f) = true) : MetAt K C m d :=
  ⟨f, ⟨a, i, k⟩, _, fun_mk l c k, .all (hb kV doc pm an cd ct)⟩
def PrpAt (K : PySem.W.Frag) (C : Addr) (m : Str) (d : Df) : Prop := ∃ p f, PropOf K C m p f ∧ DfAt K d f
theorem prpAt {c m : Str} {C p f : Addr} (_ : ClsAt K mg c C) (d : Df) {oc kV doc pm cd ct : Value} {od an : Option Addr} {sl : Array (Option Value)} {rest : List Value} (hb : BindsD d.name d.qual d.ps d.st)
    (a : PySem.W.findIn K (.ref C) m = some (some (.ref p))) (b : PySem.W.specialIn K (.ref p) "__get__" = some (some (.builtin "property.__get__"))) (e : PySem.W.takesIn K (.ref p) = some true) (r : PySem.W.recIn K p "property" = some (.ref f :: rest))
    (l : K.lookup f = some ⟨oc, od, .func (PySem.W.fnOf d.name d.qual (defArgs d.st) (defBody d.st) (defScope d.st) .none kV doc pm an cd ct), sl⟩)
    (c : PySem.W.codeIn K cd d.qual = true) (k : PySem.W.keepIn K (.ref f) = true) : PrpAt K C m d :=
  ⟨p, f, ⟨a, b, e, rest, r⟩, _, fun_mk l c k, .all (hb kV doc pm an cd ct)⟩
theorem noAt {c : Str} {C : Addr} (_ : ClsAt K mg c C) (f : Str) (a : PySem.W.findIn K (.ref C) f = some none) : NoAttr K C f := a
/-- an own class of errors -/
structure ErrAt (K : PySem.W.Frag) (mg : Str → Option Value) (c : Str) (C : Addr) (fields : List Str) (x : Xf) : Prop where
  mg : mg c = some (.ref C)
  oex : OexC K C
  is : PySem.W.isClsIn K C = true
  xf : XfC K C
  ex : ExcC K C
  init : ∃ (f : Addr) (fd : FuncData), Fun K x.name x.qual x.st f fd ∧ Binds K fd x.ps [] ∧ PySem.W.findIn K (.ref C) "__init__" = some (some (.ref f)) ∧ PySem.W.typeIn K (.ref f) = some (.type "function")
  ve : PySem.W.subIn K (.ref C) (.type "ValueError") = some true
theorem errAt (X : K.In h) (G : h.Ns mainGlobals mg) (c : Str) (fields : List Str) (x : Xf) {C f : Addr} {nm q : Str} {N : Addr} {bs bm : List Value} {sn : List Str} {sub : List Value} {ab : Bool} {col : Option Bool} {dd : Option Addr} {m0 m1 m2 m3 m5 : Option Value}
    {oc kV doc pm cd ct : Value} {od an : Option Addr} {sl : Array (Option Value)} (hb : BindsD x.name x.qual x.ps x.st)
    (a : PySem.W.nsIn K mainGlobals c = some (some (.ref C))) (l : K.lookup C = some (excClassObj nm q C N bs bm true sn sub ab col dd m0 m1 m2 m3 m5 "ValueError.__new__")) (r : PySem.HandSPX.refsVE bm = true)
    (c1 : PySem.W.findIn K (.ref C) "__setattr__" = some (some (.builtin "object.__setattr__"))) (c2 : PySem.W.subIn K (.ref C) (.type "BaseException") = some true) (c3 : PySem.W.typeIn K (.ref C) = some (.type "type")) (c4 : PySem.W.keepIn K (.ref C) = true)
    (c5 : PySem.W.isClsIn K C = true) (c6 : PySem.W.findIn K (.ref C) "__getattribute__" = some (some (.builtin "BaseException.__getattribute__"))) (c7 : PySem.W.findIn K (.ref C) "__getattr__" = some none) (c8 : PySem.W.hasDictIn K C = true)
    (c9 : PySem.W.findIn K (.ref C) "__class__" = some (some (.builtin "object.__class__"))) (d1 : PySem.W.specialIn K (.builtin "object.__class__") "__get__" = some (some (.builtin "getset_descriptor.__get__")))
    (d2 : PySem.W.takesIn K (.builtin "object.__class__") = some true) (d3 : PySem.W.mroIn K C (.type "object") = some true) (d4 : PySem.W.findIn K (.ref C) "__init__" = some (some (.ref f))) (d5 : PySem.W.typeIn K (.ref f) = some (.type "function"))
    (d6 : K.lookup f = some ⟨oc, od, .func (PySem.W.fnOf x.name x.qual (defArgs x.st) (defBody x.st) (defScope x.st) .none kV doc pm an cd ct), sl⟩) (d7 : PySem.W.codeIn K cd x.qual = true) (d8 : PySem.W.keepIn K (.ref f) = true)
    (d9 : PySem.W.subIn K (.ref C) (.type "ValueError") = some true) : ErrAt K mg c C fields x :=
  ⟨PySem.W.mg_of X G a, ⟨⟨nm, q, N, bs, bm, sn, sub, ab, col, dd, m0, m1, m2, m3, m5, l, r⟩, c1, c2, c3, c4⟩, c5, ⟨c6, c7, c2, c8⟩, ⟨c6, c7, c2, c8, c9, d1, d2, d3⟩, ⟨f, _, fun_mk d6 d7 d8, .all (hb kV doc pm an cd ct), d4, d5⟩, d9⟩
theorem baseAt (X : K.In h) (G : h.Ns mainGlobals mg) (c : Str) {C : Addr} (a : PySem.W.nsIn K mainGlobals c = some (some (.ref C))) (b1 : PySem.W.specialIn K (.ref C) "__getattribute__" = some (some (.builtin "type.__getattribute__"))) (b2 : PySem.W.readsIn K C (.type "type") = true)
    (b3 : PySem.W.findCls K (.ref C) (.type "type") "__init__" = some (.val (.builtin "ValueError.__init__"))) (b4 : PySem.W.isClsIn K C = true) (b5 : PySem.W.typeIn K (.ref C) = some (.type "type")) : BaseOk K mg c C := ⟨PySem.W.mg_of X G a, b1, b2, b3, b4, b5⟩
/-- of two own classes of errors: is the first under the second -/
def SubAt (K : PySem.W.Frag) (Dc C : Addr) (b : Bool) : Prop := PySem.W.subIn K (.ref Dc) (.ref C) = some b
theorem subAt {c1 c2 : Str} {Dc C : Addr} {f1 f2 : List Str} {x1 x2 : Xf} (_ : ErrAt K mg c1 Dc f1 x1) (_ : ErrAt K mg c2 C f2 x2) (b : Bool) (a : PySem.W.subIn K (.ref Dc) (.ref C) = some b) : SubAt K Dc C b := a
theorem noErr {c : Str} {C : Addr} {fs : List Str} {x : Xf} (_ : ErrAt K mg c C fs x) (f : Str) (a : PySem.W.findIn K (.ref C) f = some none) : PySem.W.findIn K (.ref C) f = some none := a
theorem exm_of {c : Str} {C Dc : Addr} {fs : List Str} {x : Xf} {b : Bool} (z : ErrAt K mg c C fs x) (s : SubAt K Dc C b) : PySem.W.exmOne K (.ref Dc) (.ref C) = some b := PySem.W.exm_ref z.oex.exC z.xf.hdC z.oex.tyC s
theorem kit_of {C Dc : Addr} {b : Bool} (h1 : PySem.W.isClsIn K C = true) (h2 : PySem.W.typeIn K (.ref C) = some (.type "type")) (s : SubAt K Dc C b) (self : SubAt K C C true) : PySem.W.kitOne K (.ref Dc) (.ref C) = some b := by
  unfold PySem.W.kitOne
  split
  · rename_i e
    have e := Value.ref.inj (beq_iff_eq.mp e)
    subst e
    have : some b = some true := s.symm.trans self
    exact this.symm
  · have e2 : ((PySem.W.clsIn K C).isSome && PySem.W.typeIn K (.ref C) == some (.type "type")) = true := by
      have h1' : (PySem.W.clsIn K C).isSome = true := h1
      rw [h1', h2] <;> rfl
    show (if ((PySem.W.clsIn K C).isSome && PySem.W.typeIn K (.ref C) == some (.type "type")) = true then PySem.W.subIn K (.ref Dc) (.ref C) else none) = some b
    rw [if_pos e2]
    exact s
theorem kit_up {C Dc : Addr} (h1 : PySem.W.isClsIn K C = true) (h2 : PySem.W.typeIn K (.ref C) = some (.type "type")) (s : PySem.W.subIn K (.ref Dc) (.ref C) = some true) : PySem.W.kitOne K (.ref Dc) (.ref C) = some true := by
  unfold PySem.W.kitOne
  split
  · rfl
  · have e2 : ((PySem.W.clsIn K C).isSome && PySem.W.typeIn K (.ref C) == some (.type "type")) = true := by
      have h1' : (PySem.W.clsIn K C).isSome = true := h1
      rw [h1', h2] <;> rfl
    show (if ((PySem.W.clsIn K C).isSome && PySem.W.typeIn K (.ref C) == some (.type "type")) = true then PySem.W.subIn K (.ref Dc) (.ref C) else none) = some true
    rw [if_pos e2]
    exact s
theorem upAt {c b : Str} {C CE : Addr} {fs : List Str} {x : Xf} (_ : ErrAt K mg c C fs x) (B : BaseOk K mg b CE) (a : PySem.W.subIn K (.ref C) (.ref CE) = some true) : PySem.W.kitOne K (.ref C) (.ref CE) = some true := kit_up B.b4 B.b5 a
theorem kit_ve {C : Addr} (s : PySem.W.subIn K (.ref C) (.type "ValueError") = some true) : PySem.W.kitOne K (.ref C) (.type "ValueError") = some true := by
  show (if PySem.W.kitMeta "ValueError" = true then PySem.W.subIn K (.ref C) (.type "ValueError") else none) = some true
  rw [if_pos (by decide +kernel)]
  exact s
theorem kit_bt {C : Addr} (h1 : PySem.W.isClsIn K C = true) (h2 : PySem.W.typeIn K (.ref C) = some (.type "type")) : ∀ T ∈ ["NoneType", "bool", "int", "str", "list", "tuple", "dict"], PySem.W.kitOne K (.type T) (.ref C) = some false := by
  have key : ∀ T, PySem.W.subIn K (.type T) (.ref C) = some false → PySem.W.kitOne K (.type T) (.ref C) = some false := fun T hT => by
    have e2 : ((PySem.W.clsIn K C).isSome && PySem.W.typeIn K (.ref C) == some (.type "type")) = true := by
      have h1' : (PySem.W.clsIn K C).isSome = true := h1
      rw [h1', h2] <;> rfl
    show (if ((PySem.W.clsIn K C).isSome && PySem.W.typeIn K (.ref C) == some (.type "type")) = true then PySem.W.subIn K (.type T) (.ref C) else none) = some false
    rw [if_pos e2]
    exact hT
  intro T hT
  simp only [List.mem_cons, List.not_mem_nil, or_false] at hT
  rcases hT with rfl | rfl | rfl | rfl | rfl | rfl | rfl <;> exact key _ rfl
theorem all_look {α : Type} {P : Str → α → Prop} : ∀ {l : List (Str × α)}, (∀ p ∈ l, P p.1 p.2) → ∀ c a, l.lookup c = some a → P c a
  | [], _, c, a, e => by cases e
  | p :: l, h, c, a, e => by
    rw [List.lookup_cons] at e
    split at e
    · rename_i q
      cases e
      have : c = p.1 := by simpa using q
      rw [this]
      exact h p List.mem_cons_self
    · exact all_look (fun q hq => h q (List.mem_cons_of_mem _ hq)) c a e
theorem all_lookN {α : Type} {P : Nat → α → Prop} : ∀ {l : List (Nat × α)}, (∀ p ∈ l, P p.1 p.2) → ∀ c a, l.lookup c = some a → P c a
  | [], _, c, a, e => by cases e
  | p :: l, h, c, a, e => by
    rw [List.lookup_cons] at e
    split at e
    · rename_i q
      cases e
      have : c = p.1 := by simpa using q
      rw [this]
      exact h p List.mem_cons_self
    · exact all_lookN (fun q hq => h q (List.mem_cons_of_mem _ hq)) c a e
end
section
variable {K : PySem.W.Frag} {h : Heap} {mg : Str → Option Value}
theorem no_name (X : K.In h) (G : h.Ns mainGlobals mg) {x : Str} (a : PySem.W.nsIn K mainGlobals x = some none) : mg x = none := PySem.W.mg_none_of X G a
theorem a_name (X : K.In h) (G : h.Ns mainGlobals mg) {x : Str} {v : Value} (a : PySem.W.nsIn K mainGlobals x = some (some v)) : mg x = some v := PySem.W.mg_of X G a
/-- a constant of the module -/
def GlbAt (mg : Str → Option Value) (x : Str) (d : D) : Prop := ∃ u v, mg x = some u ∧ RelV v u ∧ ∀ (K : PySem.W.Frag) ι H, Rep K ι H d v
theorem GlbAt.at {x : Str} {d : D} (g : GlbAt mg x d) (K : PySem.W.Frag) : ∃ u v, mg x = some u ∧ RelV v u ∧ ∀ ι H, Rep K ι H d v := let ⟨u, v, a, b, c⟩ := g; ⟨u, v, a, b, c K⟩
theorem glbInt (X : K.In h) (G : h.Ns mainGlobals mg) {x : Str} {i : Int} {t : Tok} (a : PySem.W.nsIn K mainGlobals x = some (some (.int i t))) : GlbAt mg x (.int i) := ⟨_, .int i, PySem.W.mg_of X G a, ⟨t, rfl⟩, fun _ _ _ => rep_int _⟩
theorem glbStr (X : K.In h) (G : h.Ns mainGlobals mg) {x y : Str} {t : Tok} (a : PySem.W.nsIn K mainGlobals x = some (some (.str y t))) : GlbAt mg x (.str y) := ⟨_, .str y, PySem.W.mg_of X G a, ⟨t, rfl⟩, fun _ _ _ => rep_str _⟩
theorem blts_of (X : K.In h) (G : h.Ns mainGlobals mg) (a0 : PySem.W.nsIn K mainGlobals "isinstance" = some none) (a1 : PySem.W.nsIn K mainGlobals "int" = some none) (a2 : PySem.W.nsIn K mainGlobals "bool" = some none)
    (a3 : PySem.W.nsIn K mainGlobals "str" = some none) (a4 : PySem.W.nsIn K mainGlobals "list" = some none) (a5 : PySem.W.nsIn K mainGlobals "tuple" = some none) (a6 : PySem.W.nsIn K mainGlobals "dict" = some none)
    (a7 : PySem.W.nsIn K mainGlobals "len" = some none) (a8 : PySem.W.nsIn K mainGlobals "abs" = some none) (a9 : PySem.W.nsIn K mainGlobals "range" = some none)
    (b0 : PySem.W.nsIn K mainGlobals "sorted" = some none) (b1 : PySem.W.nsIn K mainGlobals "min" = some none) (b2 : PySem.W.nsIn K mainGlobals "max" = some none) (b3 : PySem.W.nsIn K mainGlobals "ValueError" = some none) (b4 : PySem.W.nsIn K mainGlobals "reversed" = some none) (b5 : PySem.W.nsIn K mainGlobals "set" = some none) : ∀ x ∈ blts, mg x = none := by
  intro x hx
  simp only [blts, List.mem_cons, List.not_mem_nil, or_false] at hx
  rcases hx with rfl | rfl | rfl | rfl | rfl | rfl | rfl | rfl | rfl | rfl | rfl | rfl | rfl | rfl | rfl | rfl
  all_goals exact no_name X G (by assumption)
end
theorem walk {l : PySem.W.OpenLaw} {q : Program} {loose : List Str} {XP : (Str → Option Value) → Heap → Prop} {YP : World → Heap → Prop} {d : DefRec} {K : Params → PySem.W.Frag} {Γ : Ga} {ds : List Df} {n : Nm} {bs : Str} {k : Nat} {dl : Df} {x : Str}
    (hi : dl ∈ ds) (hx : dl.ps = [x]) (hd : d.name = dl.name) (hr : Room (2 * k + 2) callerA) (hn : l.most = some 63) (hdf : d.params.defaults = [])
    (hY : ∀ (w : World) (h : Heap), YP w h → (K w.params).In h)
    (F : ∀ (w : World) (mg : Str → Option Value) (h : Heap), (K w.params).In h → h.Ns mainGlobals mg → (∃ U : Su, Top U (K w.params) mg Γ ds n bs) ∧ DefAt (K w.params) mg dl)
    (law : ∀ ns : List Int, ns.length ≤ 63 → ∃ s, callF Γ k dl.id [.flst (ns.map .int)] [] = .ok (.bl true) s) :
    PySem.W.WalkO q loose XP YP l.row.toRowW d [] (fun f vs => PySem.call f vs) := by
  refine L2.walk_of (n := 63) (k := 2 * k + 2) (x := x) (K := K) (CX := fun w => L2.CX l.prog w) (sp := fun w vs H Q E => vs.length = 1 ∧ ∀ U : Su, U.K = K w.params → spOf U (callF Γ k dl.id) vs H Q E) hn (by decide) hdf hr hY (fun w mg fa h KX G hmg => ?_) (fun w H a ns hl hO hS => ?_) fun w H s e s' z => ?_
  · obtain ⟨⟨U, T⟩, f, fd, h1, h2, _, h3⟩ := F w mg h KX G
    have ef : f = fa := by rw [hd, h2] at hmg; cases hmg; rfl
    rw [ef] at h1
    refine ⟨fd, fun s u => .of_eq (by rw [h3 [u] (by rw [hx]; rfl), hx]; rfl), fun base _ _ => ?_⟩
    have T' : Top { U with w := some w } (K w.params) mg Γ ds n bs := ⟨T.hK, T.exi, T.fns, T.nd, T.ok, T.blt, T.glb, T.def_, fun c k h => let z := T.cls c k h; ⟨z.mg, z.cls, z.na, z.mth, z.prop, z.init, z.ins, z.one, z.bt⟩,
      fun c e h => let ⟨z, CE, b⟩ := T.ecl c e h; ⟨⟨z.cb, z.mg, z.oex, z.init, z.exm, z.xf, z.no, z.ex, z.kit, z.ve⟩, CE, b⟩⟩
    have := prog_ok (P := l.prog) (w := w) (base := base) T' rfl k dl hi fa fd h1
    rw [hx] at this
    exact this.imp fun vs H Q E z => z.2 { U with w := some w } T.hK
  · refine ⟨rfl, fun U hK => ⟨[], [], [.flst (ns.map .int)], ⟨rfl, fun n o e => by simp at e, fun n m a e => by simp at e⟩, ?_, ?_⟩⟩
    · refine Reps.cons ?_ Reps.nil
      simp only [Rep]
      refine ⟨a, ns.map V.int, rfl, ?_, Reps.ints⟩
      rw [hK]
      rcases hS with (h | ⟨o, h⟩) | h
      · rcases hO a with z | ⟨o, xs, z⟩
        · rw [z] at h; cases h
        · rw [z] at h; cases h
      · exact .inl ⟨o, h⟩
      · exact .inr h
    · obtain ⟨s, e⟩ := law ns hl
      rw [e]
      exact fun ι' H' v _ _ r => r.bl_of
  · obtain ⟨_, _, _, _, _, _, _, _, _, _, _, _, q⟩ := z
    exact q
end G

set_option Elab.async false
set_option linter.all false
set_option maxRecDepth 100000
set_option autoImplicit false
set_option maxHeartbeats 1000000
/-! Lw1: the laws' own drawing of numbers, in plain runs. -/
namespace G
open PySem
local macro_rules | `(tactic| walk_at "ev") => `(tactic| simp only [runFn, exs, ex, evE, evT, ev, evs, plainT, asB, store, asgV, srcOf, List.length_cons, List.length_nil, List.map_cons, List.map_nil, List.cons_append, List.nil_append, List.replicate_succ, List.replicate_zero, Nat.reduceSub, Nat.reduceAdd, List.getElem?_cons_zero, List.getElem?_cons_succ, List.set_cons_zero, List.set_cons_succ, Cst.d, R.bind_ok, R.bind_bad, R.bind_exc, SR.bind_nx, SR.bind_rt, SR.bind_bad, SR.bind_exc, R.toS_ok, R.toS_bad, R.toS_exc, if_true, Bool.not_true, Bool.not_false, Bool.false_eq_true, if_false])
/-! ### statement by statement -/
section
variable {cl : CL} {c : Cm} {cs : Cms} {τ τ' : Fr} {s s' : S} {d : D} {fn : Fn} {ds : List D}
theorem exs_nx (h : ex cl c τ s = .nx τ' s') : exs cl (.cons c cs) τ s = exs cl cs τ' s' := by simp only [exs, h, SR.bind_nx]
theorem exs_rt (h : ex cl c τ s = .rt d s') : exs cl (.cons c cs) τ s = .rt d s' := by simp only [exs, h, SR.bind_rt]
theorem run_rt (hl : ds.length = fn.np) (h : exs cl fn.body (ds.map some ++ List.replicate (fn.nl - fn.np) none) s = .rt d s') : runFn cl fn ds s = .ok d s' := by unfold runFn; rw [if_pos hl, h]
theorem run_nx (hl : ds.length = fn.np) (h : exs cl fn.body (ds.map some ++ List.replicate (fn.nl - fn.np) none) s = .nx τ' s') : runFn cl fn ds s = .ok .non s' := by unfold runFn; rw [if_pos hl, h]
theorem ex_asg {e : Ex} {i : Nat} (h : evE cl e τ s = .ok d s') : ex cl (.asg (.loc (.var i)) e) τ s = .nx (τ.set i (some d)) s' := by simp only [ex, h, R.toS_ok, store, asgV]
theorem ex_ret {e : Ex} (h : evE cl e τ s = .ok d s') : ex cl (.ret e) τ s = .rt d s' := by simp only [ex, h, R.toS_ok]
theorem ex_expr {e : Ex} (h : evE cl e τ s = .ok d s') : ex cl (.expr e) τ s = .nx τ s' := by simp only [ex, h, R.toS_ok]
theorem ex_ite {e : Ex} {a b : Cms} {k : Bool} (h : evT cl e τ s = .ok k s') : ex cl (.ite e a b) τ s = if k = true then exs cl a τ s' else exs cl b τ s' := by simp only [ex, h, R.toS_ok]
theorem ite_t {e : Ex} {a b : Cms} (h : evT cl e τ s = .ok true s') : ex cl (.ite e a b) τ s = exs cl a τ s' := (ex_ite h).trans (if_pos rfl)
theorem ite_f {e : Ex} {a b : Cms} (h : evT cl e τ s = .ok false s') : ex cl (.ite e a b) τ s = exs cl b τ s' := (ex_ite h).trans (if_neg Bool.false_ne_true)
/-- a test that fails, and goes by -/
theorem exs_skip {e : Ex} {a : Cms} (h : evT cl e τ s = .ok false s') : exs cl (.cons (.ite e a .nil) cs) τ s = exs cl cs τ s' := exs_nx ((ite_f h).trans rfl)
/-- a test that holds, and hands back -/
theorem exs_in {e : Ex} {a b : Cms} {s2 : S} (h : evT cl e τ s = .ok true s') (h2 : exs cl a τ s' = .rt d s2) : exs cl (.cons (.ite e a b) cs) τ s = .rt d s2 := exs_rt ((ite_t h).trans h2)
theorem exs_ret {e : Ex} (h : evE cl e τ s = .ok d s') : exs cl (.cons (.ret e) cs) τ s = .rt d s' := exs_rt (ex_ret h)
theorem exs_asg {e : Ex} {i : Nat} (h : evE cl e τ s = .ok d s') : exs cl (.cons (.asg (.loc (.var i)) e) cs) τ s = exs cl cs (τ.set i (some d)) s' := exs_nx (ex_asg h)
theorem exs_expr {e : Ex} (h : evE cl e τ s = .ok d s') : exs cl (.cons (.expr e) cs) τ s = exs cl cs τ s' := exs_nx (ex_expr h)
end
/-- a def's call, a level down -/
theorem call_of {Γ : Ga} {k f : Nat} {fn : Fn} (h : Γ.fns.lookup f = some fn) (ds : List D) (s : S) : (clF Γ (k + 1)).call f ds s = runFn (clF Γ k) fn ds s := by
  show (match Γ.fns.lookup f with | some fn => runFn _ fn ds s | none => R.bad) = _
  rw [h]; rfl
theorem call_rt {Γ : Ga} {k f : Nat} {fn : Fn} {ds : List D} {s s' : S} {d : D} {τ : Fr} (h : Γ.fns.lookup f = some fn) (hl : ds.length = fn.np) (hτ : ds.map some ++ List.replicate (fn.nl - fn.np) none = τ) (hb : exs (clF Γ k) fn.body τ s = .rt d s') : (clF Γ (k + 1)).call f ds s = .ok d s' :=
  (call_of h ds s).trans (run_rt hl (by rw [hτ]; exact hb))
theorem lv {k m : Nat} (h : m + 1 ≤ k) : ∃ j, k = j + 1 ∧ m ≤ j := ⟨k - 1, by omega, by omega⟩
/-! ### lists that stand in the store -/
section
variable {s : S} {n : Nat} {ds : List D} {d v : D} {i : Int} {o o' : O}
theorem dctOf_lst (h : s[n]? = some (.lst ds)) : dctOf s (.ref n) = none := by
  show dctAt s n = none
  unfold dctAt; rw [h]
theorem lstAt_of (h : s[n]? = some (.lst ds)) : lstAt s n = some ds := by unfold lstAt; rw [h]
theorem atI_of {α : Type} {xs : List α} {x : α} (h0 : 0 ≤ i) (h : xs[i.toNat]? = some x) : L2.atI xs i = some x := by
  have hl := (List.getElem?_eq_some_iff.mp h).1
  unfold L2.atI L2.ixN
  rw [if_pos h0, if_pos (by omega)]
  exact h
theorem ixD_ref (h : s[n]? = some (.lst ds)) (h0 : 0 ≤ i) (hd : ds[i.toNat]? = some d) : ixD (.ref n) (.int i) s = .ok d s := by
  have e : dctAt s n = none := by unfold dctAt; rw [h]
  simp only [ixD, e, ixS, seqOf, lstAt_of h, Option.bind_some, atI_of h0 hd]
theorem ixD_tup (h0 : 0 ≤ i) (hd : ds[i.toNat]? = some d) : ixD (.tup ds) (.int i) s = .ok d s := by
  simp only [ixD, ixS, seqOf, Option.bind_some, atI_of h0 hd]
theorem setD_ref (h : s[n]? = some (.lst ds)) (h0 : 0 ≤ i) (hi : i.toNat < ds.length) : setD (.ref n) (.int i) v s = some (s.set n (.lst (ds.set i.toNat v))) := by
  simp only [setD, h]
  unfold L2.ixN
  rw [if_pos h0, if_pos (by omega)]
theorem set_get (h : n < s.length) : (s.set n o)[n]? = some o := List.getElem?_set_self h
theorem set_same (h : s[n]? = some o) : s.set n o = s := by
  apply List.ext_getElem?
  intro j
  by_cases hj : j = n
  · subst hj; rw [List.getElem?_set_self (List.getElem?_eq_some_iff.mp h).1, h]
  · rw [List.getElem?_set_ne (Ne.symm hj)]
theorem lt_of_get (h : s[n]? = some o) : n < s.length := (List.getElem?_eq_some_iff.mp h).1
theorem mulD {i j : Int} (h : (-(2 ^ 64) < i ∧ i < 2 ^ 64) ∨ (-(2 ^ 64) < j ∧ j < 2 ^ 64)) : binD .mul (.int i) (.int j) s = .ok (.int (i * j)) s := by simp only [binD, if_pos h]
theorem modD {i j : Int} (h : 0 < j) : binD .mod (.int i) (.int j) s = .ok (.int (i % j)) s := by simp only [binD, if_pos h]
theorem fdivD {i j : Int} (h : 0 < j ∧ j.natAbs.log2 < 9000) : binD .fdiv (.int i) (.int j) s = .ok (.int (i / j)) s := by simp only [binD, if_pos h]
theorem addI {i j : Int} : binD .add (.int i) (.int j) s = .ok (.int (i + j)) s := rfl
theorem subI {i j : Int} : binD .sub (.int i) (.int j) s = .ok (.int (i - j)) s := rfl
theorem eqI {i j : Int} : cmpD .eq (.int i) (.int j) s = .ok (i == j) s := by
  simp only [cmpD, eqD, eqP, toP]
  rw [if_pos ⟨rfl, rfl⟩]
  rfl
theorem eqI_t {i j : Int} (h : i = j) : cmpD .eq (.int i) (.int j) s = .ok true s := by rw [eqI, h]; simp
theorem eqI_f {i j : Int} (h : i ≠ j) : cmpD .eq (.int i) (.int j) s = .ok false s := by rw [eqI]; simp [h]
theorem powI {a b : Int} {s : S} {c : Int} (h : 0 ≤ b ∧ b ≤ 1000000 ∧ a.natAbs < 2 ^ 64) (e : a ^ b.toNat = c) : binD .pow (.int a) (.int b) s = .ok (.int c) s := by simp only [binD, if_pos h, e]
theorem lenS {x : Str} {s : S} (h : x.length ≤ 10000) : bltD .len [.str x] s = .ok (.int x.length) s := by
  simp only [bltD]
  rw [if_pos (by rw [sizeLine_eq]; omega)]
theorem slS {x : Str} {lo hi : Option Int} {s : S} (h : x.length ≤ 10000) : slD (.str x) lo hi s = .ok (.str (L2.cutS x lo hi)) s := by
  simp only [slD]
  rw [if_pos (by rw [sizeLine_eq]; omega)]
theorem addS {x y : Str} {s : S} (h : x.length + y.length ≤ 10000) : binD .add (.str x) (.str y) s = .ok (.str (x ++ y)) s := by
  simp only [binD, addD]
  rw [if_pos (by rw [sizeLine_eq]; omega)]
theorem log2_lt {m b : Nat} (h : m < 2 ^ b) (hb : 0 < b) : m.log2 < b := by
  by_cases h0 : m = 0
  · subst h0; simpa using hb
  · exact (Nat.log2_lt h0).mpr h
end

/-! ### the pool -/
/-- a pool: the rest of a great cell, the next cell's place, the seed, the count, the cells -/
def pool (a b c e : Int) (cs : List Int) : O := .lst (.int a :: .int b :: .int c :: .int e :: cs.map .int)
structure PoolIn (o : O) : Prop where
  ex : ∃ a b c e cs, o = pool a b c e cs ∧ 0 ≤ a ∧ 4 ≤ b ∧ 0 ≤ c ∧ c < 2147483647 ∧ 0 ≤ e
section
variable {s : S} {n : Nat} {a b c e v : Int} {cs : List Int}
theorem pool_at (h : n < s.length) : (s.set n (pool a b c e cs))[n]? = some (.lst (.int a :: .int b :: .int c :: .int e :: cs.map .int)) := set_get h
theorem pool_0 (h : n < s.length) : ixD (.ref n) (.int 0) (s.set n (pool a b c e cs)) = .ok (.int a) (s.set n (pool a b c e cs)) := ixD_ref (pool_at h) (by decide) rfl
theorem pool_1 (h : n < s.length) : ixD (.ref n) (.int 1) (s.set n (pool a b c e cs)) = .ok (.int b) (s.set n (pool a b c e cs)) := ixD_ref (pool_at h) (by decide) rfl
theorem pool_2 (h : n < s.length) : ixD (.ref n) (.int 2) (s.set n (pool a b c e cs)) = .ok (.int c) (s.set n (pool a b c e cs)) := ixD_ref (pool_at h) (by decide) rfl
theorem pool_3 (h : n < s.length) : ixD (.ref n) (.int 3) (s.set n (pool a b c e cs)) = .ok (.int e) (s.set n (pool a b c e cs)) := ixD_ref (pool_at h) (by decide) rfl
theorem pool_cell (h : n < s.length) (h4 : 4 ≤ b) (hb : b < (cs.length : Int) + 4) : ∃ x, ixD (.ref n) (.int b) (s.set n (pool a b c e cs)) = .ok (.int x) (s.set n (pool a b c e cs)) := by
  obtain ⟨k, rfl⟩ : ∃ k : Nat, b = k + 4 := ⟨(b - 4).toNat, by omega⟩
  have hk : k < cs.length := by omega
  refine ⟨cs[k], ixD_ref (pool_at h) (by omega) ?_⟩
  have e1 : ((k : Int) + 4).toNat = k + 1 + 1 + 1 + 1 := by omega
  rw [e1]
  simp only [List.getElem?_cons_succ, List.getElem?_map, List.getElem?_eq_getElem hk, Option.map_some]
theorem pool_len (h : n < s.length) : bltD .len [.ref n] (s.set n (pool a b c e cs)) = .ok (.int ((cs.length : Int) + 4)) (s.set n (pool a b c e cs)) := by
  have e : dctOf (s.set n (pool a b c e cs)) (.ref n) = none := dctOf_lst (pool_at h)
  simp only [bltD, e, seqOf, lstAt_of (pool_at h), List.length_cons, List.length_map]
  congr 2
theorem pool_s0 (h : n < s.length) : setD (.ref n) (.int 0) (.int v) (s.set n (pool a b c e cs)) = some (s.set n (pool v b c e cs)) := by
  rw [setD_ref (pool_at h) (by decide) (by simp), List.set_set]; rfl
theorem pool_s1 (h : n < s.length) : setD (.ref n) (.int 1) (.int v) (s.set n (pool a b c e cs)) = some (s.set n (pool a v c e cs)) := by
  rw [setD_ref (pool_at h) (by decide) (by simp), List.set_set]; rfl
theorem pool_s2 (h : n < s.length) : setD (.ref n) (.int 2) (.int v) (s.set n (pool a b c e cs)) = some (s.set n (pool a b v e cs)) := by
  rw [setD_ref (pool_at h) (by decide) (by simp), List.set_set]; rfl
theorem pool_s3 (h : n < s.length) : setD (.ref n) (.int 3) (.int v) (s.set n (pool a b c e cs)) = some (s.set n (pool a b c v cs)) := by
  rw [setD_ref (pool_at h) (by decide) (by simp), List.set_set]; rfl
end
def bMixed : Cms := .cons (.asg (.loc (.var 2)) (.bin .mod (.blt .int (.cons (.bin .mul (.bin .add (.bin .add (.var 0) (.bin .mul (.cst (.int 7919)) (.var 1))) (.cst (.int 1))) (.cst (.int 48271))) .nil)) (.cst (.int 2147483647))))
    (.cons (.asg (.loc (.var 2)) (.bin .mod (.blt .int (.cons (.bin .mul (.var 2) (.bin .add (.bin .fdiv (.var 2) (.cst (.int 1009))) (.cst (.int 69621)))) .nil)) (.cst (.int 2147483647))))
    (.cons (.ret (.bin .mod (.blt .int (.cons (.bin .mul (.var 2) (.bin .add (.bin .fdiv (.var 2) (.cst (.int 2003))) (.cst (.int 40692)))) .nil)) (.cst (.int 2147483399)))) .nil))
theorem run_mixed (cl : CL) (s : S) (x y : Int) : ∃ r, runFn cl ⟨2, 3, bMixed⟩ [.int x, .int y] s = .ok (.int r) s ∧ 0 ≤ r := by
  have l1 : (1009 : Int).natAbs.log2 < 9000 := by decide +kernel
  have l2 : (2003 : Int).natAbs.log2 < 9000 := by decide +kernel
  obtain ⟨n1, e1⟩ : ∃ n1, n1 = (x + 7919 * y + 1) * 48271 % 2147483647 := ⟨_, rfl⟩
  obtain ⟨n2, e2⟩ : ∃ n2, n2 = n1 * (n1 / 1009 + 69621) % 2147483647 := ⟨_, rfl⟩
  have b1 : 0 ≤ n1 ∧ n1 < 2147483647 := by rw [e1]; exact ⟨Int.emod_nonneg _ (by decide), Int.emod_lt_of_pos _ (by decide)⟩
  have b2 : 0 ≤ n2 ∧ n2 < 2147483647 := by rw [e2]; exact ⟨Int.emod_nonneg _ (by decide), Int.emod_lt_of_pos _ (by decide)⟩
  refine ⟨n2 * (n2 / 2003 + 40692) % 2147483399, ?_, Int.emod_nonneg _ (by decide)⟩
  refine run_rt rfl ?_
  refine (exs_nx (ex_asg (d := .int n1) (s' := s) ?_)).trans ?_
  · walk_at "ev"
    rw [mulD (.inl (by decide))]; walk_at "ev"
    rw [addI]; walk_at "ev"
    rw [addI]; walk_at "ev"
    rw [mulD (.inr (by decide))]; walk_at "ev"
    simp only [bltD]; walk_at "ev"
    rw [modD (by decide), ← e1]
  refine (exs_nx (ex_asg (d := .int n2) (s' := s) ?_)).trans ?_
  · walk_at "ev"
    rw [fdivD ⟨by decide, l1⟩]; walk_at "ev"
    rw [addI]; walk_at "ev"
    rw [mulD (.inl (by omega))]; walk_at "ev"
    simp only [bltD]; walk_at "ev"
    rw [modD (by decide), ← e2]
  refine exs_rt (ex_ret ?_)
  walk_at "ev"
  rw [fdivD ⟨by decide, l2⟩]; walk_at "ev"
  rw [addI]; walk_at "ev"
  rw [mulD (.inl (by omega))]; walk_at "ev"
  simp only [bltD]; walk_at "ev"
  rw [modD (by decide)]
def bDraw (mix : Nat) : Cms := .cons (.asg (.sub (.var 0) (.cst (.int 3))) (.bin .add (.ix (.var 0) (.cst (.int 3))) (.cst (.int 1))))
    (.cons (.ite (.and (.cmp .eq (.ix (.var 0) (.cst (.int 0))) (.cst (.int 0))) (.cmp .lt (.ix (.var 0) (.cst (.int 1))) (.blt .len (.cons (.var 0) .nil)))) (.cons (.asg (.loc (.var 2)) (.blt .abs (.cons (.ix (.var 0) (.ix (.var 0) (.cst (.int 1)))) .nil)))
    (.cons (.asg (.sub (.var 0) (.cst (.int 1))) (.bin .add (.ix (.var 0) (.cst (.int 1))) (.cst (.int 1))))
    (.cons (.ite (.cmp .lt (.var 2) (.bin .pow (.cst (.int 10)) (.cst (.int 18)))) (.cons (.asg (.sub (.var 0) (.cst (.int 2))) (.bin .mod (.blt .int (.cons (.bin .add (.bin .add (.bin .mul (.ix (.var 0) (.cst (.int 2))) (.cst (.int 7919))) (.var 2)) (.cst (.int 1))) .nil)) (.cst (.int 2147483647)))) .nil) (.cons (.asg (.sub (.var 0) (.cst (.int 0))) (.var 2)) .nil)) .nil))) (.nil))
    (.cons (.ite (.cmp .gt (.ix (.var 0) (.cst (.int 0))) (.cst (.int 0))) (.cons (.asg (.loc (.var 3)) (.bin .mod (.blt .int (.cons (.ix (.var 0) (.cst (.int 0))) .nil)) (.var 1)))
    (.cons (.asg (.sub (.var 0) (.cst (.int 0))) (.bin .fdiv (.ix (.var 0) (.cst (.int 0))) (.var 1)))
    (.cons (.ret (.var 3)) .nil))) (.nil))
    (.cons (.ret (.bin .mod (.blt .int (.cons (.call mix (.cons (.ix (.var 0) (.cst (.int 2))) (.cons (.ix (.var 0) (.cst (.int 3))) .nil))) .nil)) (.var 1))) .nil)))

theorem run_draw {cl : CL} {mix : Nat} (hm : ∀ x y s, ∃ r, cl.call mix [.int x, .int y] s = .ok (.int r) s ∧ 0 ≤ r) {s : S} {n : Nat} {m : Int} (hn : n < s.length) {a b c e : Int} {cs : List Int} (ha : 0 ≤ a) (hb : 4 ≤ b) (hc : 0 ≤ c) (hc2 : c < 2147483647) (he : 0 ≤ e) (m0 : 0 < m) (mb : m.natAbs.log2 < 9000) :
    ∃ r o, runFn cl ⟨2, 4, bDraw mix⟩ [.ref n, .int m] (s.set n (pool a b c e cs)) = .ok (.int r) (s.set n o) ∧ 0 ≤ r ∧ r < m ∧ PoolIn o := by
  have f1 : ex cl (.asg (.sub (.var 0) (.cst (.int 3))) (.bin .add (.ix (.var 0) (.cst (.int 3))) (.cst (.int 1)))) [some (.ref n), some (.int m), none, none] (s.set n (pool a b c e cs)) = .nx [some (.ref n), some (.int m), none, none] (s.set n (pool a b c (e + 1) cs)) := by
    walk_at "ev"
    rw [pool_3 hn]; walk_at "ev"
    rw [addI]; walk_at "ev"
    rw [pool_s3 hn]
  have f2 : ∃ a' b' c' x, ex cl (.ite (.and (.cmp .eq (.ix (.var 0) (.cst (.int 0))) (.cst (.int 0))) (.cmp .lt (.ix (.var 0) (.cst (.int 1))) (.blt .len (.cons (.var 0) .nil)))) (.cons (.asg (.loc (.var 2)) (.blt .abs (.cons (.ix (.var 0) (.ix (.var 0) (.cst (.int 1)))) .nil)))
    (.cons (.asg (.sub (.var 0) (.cst (.int 1))) (.bin .add (.ix (.var 0) (.cst (.int 1))) (.cst (.int 1))))
    (.cons (.ite (.cmp .lt (.var 2) (.bin .pow (.cst (.int 10)) (.cst (.int 18)))) (.cons (.asg (.sub (.var 0) (.cst (.int 2))) (.bin .mod (.blt .int (.cons (.bin .add (.bin .add (.bin .mul (.ix (.var 0) (.cst (.int 2))) (.cst (.int 7919))) (.var 2)) (.cst (.int 1))) .nil)) (.cst (.int 2147483647)))) .nil) (.cons (.asg (.sub (.var 0) (.cst (.int 0))) (.var 2)) .nil)) .nil))) (.nil)) [some (.ref n), some (.int m), none, none] (s.set n (pool a b c (e + 1) cs)) = .nx [some (.ref n), some (.int m), x, none] (s.set n (pool a' b' c' (e + 1) cs)) ∧ 0 ≤ a' ∧ 4 ≤ b' ∧ 0 ≤ c' ∧ c' < 2147483647 := by
    by_cases h1 : a = 0 ∧ b < (cs.length : Int) + 4
    · obtain ⟨x, hx⟩ := pool_cell (s := s) (a := a) (c := c) (e := e + 1) hn hb h1.2
      obtain ⟨y, hy⟩ : ∃ y, y = if x < 0 then -x else x := ⟨_, rfl⟩
      have y0 : 0 ≤ y := by rw [hy]; split <;> omega
      have pre : ∀ R, exs cl (.cons (.ite (.cmp .lt (.var 2) (.bin .pow (.cst (.int 10)) (.cst (.int 18)))) (.cons (.asg (.sub (.var 0) (.cst (.int 2))) (.bin .mod (.blt .int (.cons (.bin .add (.bin .add (.bin .mul (.ix (.var 0) (.cst (.int 2))) (.cst (.int 7919))) (.var 2)) (.cst (.int 1))) .nil)) (.cst (.int 2147483647)))) .nil) (.cons (.asg (.sub (.var 0) (.cst (.int 0))) (.var 2)) .nil)) .nil) [some (.ref n), some (.int m), some (.int y), none] (s.set n (pool a (b + 1) c (e + 1) cs)) = R →
          ex cl (.ite (.and (.cmp .eq (.ix (.var 0) (.cst (.int 0))) (.cst (.int 0))) (.cmp .lt (.ix (.var 0) (.cst (.int 1))) (.blt .len (.cons (.var 0) .nil)))) (.cons (.asg (.loc (.var 2)) (.blt .abs (.cons (.ix (.var 0) (.ix (.var 0) (.cst (.int 1)))) .nil)))
    (.cons (.asg (.sub (.var 0) (.cst (.int 1))) (.bin .add (.ix (.var 0) (.cst (.int 1))) (.cst (.int 1))))
    (.cons (.ite (.cmp .lt (.var 2) (.bin .pow (.cst (.int 10)) (.cst (.int 18)))) (.cons (.asg (.sub (.var 0) (.cst (.int 2))) (.bin .mod (.blt .int (.cons (.bin .add (.bin .add (.bin .mul (.ix (.var 0) (.cst (.int 2))) (.cst (.int 7919))) (.var 2)) (.cst (.int 1))) .nil)) (.cst (.int 2147483647)))) .nil) (.cons (.asg (.sub (.var 0) (.cst (.int 0))) (.var 2)) .nil)) .nil))) (.nil)) [some (.ref n), some (.int m), none, none] (s.set n (pool a b c (e + 1) cs)) = R := by
        intro R hR
        rw [ex_ite (k := true) (s' := s.set n (pool a b c (e + 1) cs)), if_pos rfl]
        · refine (exs_nx (ex_asg (d := .int y) (s' := s.set n (pool a b c (e + 1) cs)) ?_)).trans ?_
          · walk_at "ev"
            rw [pool_1 hn]; walk_at "ev"
            rw [hx]; walk_at "ev"
            rw [hy]; rfl
          · refine (exs_nx (τ' := [some (.ref n), some (.int m), some (.int y), none]) (s' := s.set n (pool a (b + 1) c (e + 1) cs)) ?_).trans hR
            walk_at "ev"
            rw [pool_1 hn]; walk_at "ev"
            rw [addI]; walk_at "ev"
            rw [pool_s1 hn]
        · walk_at "ev"
          rw [pool_0 hn]; walk_at "ev"
          rw [eqI, h1.1]; walk_at "ev"
          rw [show ((0 : Int) == 0) = true from rfl]; walk_at "ev"
          rw [← h1.1, pool_1 hn]; walk_at "ev"
          rw [pool_len hn]; walk_at "ev"
          simp only [cmpD, ltD, decide_eq_true h1.2]
      have p18 : binD .pow (.int 10) (.int 18) (s.set n (pool a (b + 1) c (e + 1) cs)) = .ok (.int 1000000000000000000) (s.set n (pool a (b + 1) c (e + 1) cs)) := by
        simp only [binD]
        rw [if_pos (by decide)]
        rfl
      by_cases h2 : y < 1000000000000000000
      · refine ⟨a, b + 1, (c * 7919 + y + 1) % 2147483647, some (.int y), pre _ ?_, ha, by omega, Int.emod_nonneg _ (by decide), Int.emod_lt_of_pos _ (by decide)⟩
        refine exs_nx ?_
        rw [ex_ite (k := true) (s' := s.set n (pool a (b + 1) c (e + 1) cs)), if_pos rfl]
        · refine exs_nx ?_
          walk_at "ev"
          rw [pool_2 hn]; walk_at "ev"
          rw [mulD (.inl (by omega))]; walk_at "ev"
          rw [addI]; walk_at "ev"
          rw [addI]; walk_at "ev"
          simp only [bltD]; walk_at "ev"
          rw [modD (by decide)]; walk_at "ev"
          rw [pool_s2 hn]
        · walk_at "ev"
          rw [p18]; walk_at "ev"
          simp only [cmpD, ltD, decide_eq_true h2]
      · refine ⟨y, b + 1, c, some (.int y), pre _ ?_, y0, by omega, hc, hc2⟩
        refine exs_nx ?_
        rw [ex_ite (k := false) (s' := s.set n (pool a (b + 1) c (e + 1) cs)), if_neg Bool.false_ne_true]
        · refine exs_nx ?_
          walk_at "ev"
          rw [pool_s0 hn]
        · walk_at "ev"
          rw [p18]; walk_at "ev"
          simp only [cmpD, ltD, decide_eq_false h2]
    · refine ⟨a, b, c, none, ?_, ha, hb, hc, hc2⟩
      rw [ex_ite (k := false) (s' := s.set n (pool a b c (e + 1) cs)), if_neg Bool.false_ne_true]
      · rfl
      · walk_at "ev"
        rw [pool_0 hn]; walk_at "ev"
        rw [eqI]; walk_at "ev"
        by_cases h2 : a = 0
        · rw [h2, show ((0 : Int) == 0) = true from rfl]; walk_at "ev"
          rw [← h2, pool_1 hn]; walk_at "ev"
          rw [pool_len hn]; walk_at "ev"
          have h3 : ¬ b < (cs.length : Int) + 4 := fun z => h1 ⟨h2, z⟩
          simp only [cmpD, ltD, decide_eq_false h3]
        · rw [show (a == 0) = false from by simpa using h2]; walk_at "ev"
  obtain ⟨a', b', c', x, f2, ha', hb', hc', hc2'⟩ := f2
  have go : ∀ r o, exs cl (.cons (.ite (.cmp .gt (.ix (.var 0) (.cst (.int 0))) (.cst (.int 0))) (.cons (.asg (.loc (.var 3)) (.bin .mod (.blt .int (.cons (.ix (.var 0) (.cst (.int 0))) .nil)) (.var 1)))
    (.cons (.asg (.sub (.var 0) (.cst (.int 0))) (.bin .fdiv (.ix (.var 0) (.cst (.int 0))) (.var 1)))
    (.cons (.ret (.var 3)) .nil))) (.nil))
    (.cons (.ret (.bin .mod (.blt .int (.cons (.call mix (.cons (.ix (.var 0) (.cst (.int 2))) (.cons (.ix (.var 0) (.cst (.int 3))) .nil))) .nil)) (.var 1))) .nil)) [some (.ref n), some (.int m), x, none] (s.set n (pool a' b' c' (e + 1) cs)) = .rt (.int r) (s.set n o) →
      runFn cl ⟨2, 4, bDraw mix⟩ [.ref n, .int m] (s.set n (pool a b c e cs)) = .ok (.int r) (s.set n o) := fun r o h => run_rt rfl ((exs_nx f1).trans ((exs_nx f2).trans h))
  by_cases h3 : 0 < a'
  · refine ⟨a' % m, pool (a' / m) b' c' (e + 1) cs, go _ _ ?_, Int.emod_nonneg _ (by omega), Int.emod_lt_of_pos _ m0, ⟨_, _, _, _, _, rfl, Int.ediv_nonneg ha' (by omega), hb', hc', hc2', by omega⟩⟩
    refine exs_rt ?_
    rw [ex_ite (k := true) (s' := s.set n (pool a' b' c' (e + 1) cs)), if_pos rfl]
    · refine (exs_nx (ex_asg (d := .int (a' % m)) (s' := s.set n (pool a' b' c' (e + 1) cs)) ?_)).trans ?_
      · walk_at "ev"
        rw [pool_0 hn]; walk_at "ev"
        simp only [bltD]; walk_at "ev"
        rw [modD m0]
      · refine (exs_nx (τ' := [some (.ref n), some (.int m), x, some (.int (a' % m))]) (s' := s.set n (pool (a' / m) b' c' (e + 1) cs)) ?_).trans ?_
        · walk_at "ev"
          rw [pool_0 hn]; walk_at "ev"
          rw [fdivD ⟨m0, mb⟩]; walk_at "ev"
          rw [pool_s0 hn]
        · refine exs_rt (ex_ret ?_)
          walk_at "ev"
    · walk_at "ev"
      rw [pool_0 hn]; walk_at "ev"
      simp only [cmpD, decide_eq_true h3]
  · obtain ⟨r, hr, r0⟩ := hm c' (e + 1) (s.set n (pool a' b' c' (e + 1) cs))
    refine ⟨r % m, pool a' b' c' (e + 1) cs, go _ _ ?_, Int.emod_nonneg _ (by omega), Int.emod_lt_of_pos _ m0, ⟨_, _, _, _, _, rfl, ha', hb', hc', hc2', by omega⟩⟩
    refine (exs_nx (τ' := [some (.ref n), some (.int m), x, none]) (s' := s.set n (pool a' b' c' (e + 1) cs)) ?_).trans ?_
    · rw [ex_ite (k := false) (s' := s.set n (pool a' b' c' (e + 1) cs)), if_neg Bool.false_ne_true]
      · rfl
      · walk_at "ev"
        rw [pool_0 hn]; walk_at "ev"
        simp only [cmpD, decide_eq_false h3]
    · refine exs_rt (ex_ret ?_)
      walk_at "ev"
      rw [pool_2 hn]; walk_at "ev"
      rw [pool_3 hn]; walk_at "ev"
      rw [hr]; walk_at "ev"
      simp only [bltD]; walk_at "ev"
      rw [modD m0]
end G

set_option Elab.async false
set_option linter.all false
set_option maxRecDepth 100000
set_option autoImplicit false
set_option maxHeartbeats 1000000
/-! Lw2: loops in plain runs; words and names that are drawn. -/
namespace G
open PySem
local macro_rules | `(tactic| walk_at "ev") => `(tactic| simp only [runFn, exs, ex, evE, evT, ev, evs, plainT, asB, store, asgV, srcOf, List.length_cons, List.length_nil, List.map_cons, List.map_nil, List.cons_append, List.nil_append, List.replicate_succ, List.replicate_zero, Nat.reduceSub, Nat.reduceAdd, List.getElem?_cons_zero, List.getElem?_cons_succ, List.set_cons_zero, List.set_cons_succ, Cst.d, R.bind_ok, R.bind_bad, R.bind_exc, SR.bind_nx, SR.bind_rt, SR.bind_bad, SR.bind_exc, R.toS_ok, R.toS_bad, R.toS_exc, if_true, Bool.not_true, Bool.not_false, Bool.false_eq_true, if_false])
/-! ### loops -/
section
variable {ok : S → Prop} {g : D → Fr → S → SR} {items ds : List D} {d : D} {τ τ' : Fr} {s s' : S}
theorem forS_nil (h : ok s) : forS ok g [] τ s = .nx τ s := by unfold forS; rw [if_pos h]
theorem forS_nx (h : ok s) (e : g d τ s = .nx τ' s') : forS ok g (d :: ds) τ s = forS ok g ds τ' s' := by
  conv => lhs; unfold forS
  rw [if_pos h, e]
theorem forS_ct (h : ok s) (e : g d τ s = .ct τ' s') : forS ok g (d :: ds) τ s = forS ok g ds τ' s' := by
  conv => lhs; unfold forS
  rw [if_pos h, e]
theorem forS_rt {x : D} (h : ok s) (e : g d τ s = .rt x s') : forS ok g (d :: ds) τ s = .rt x s' := by
  conv => lhs; unfold forS
  rw [if_pos h, e]
/-- a loop that is run to its end, by what holds ahead of each turn -/
theorem forS_inv (I : Nat → Fr → S → Prop) (hok : ∀ i τ s, I i τ s → ok s) (step : ∀ i d τ s, items[i]? = some d → I i τ s → ∃ τ' s', g d τ s = .nx τ' s' ∧ I (i + 1) τ' s') (h0 : I 0 τ s) :
    ∃ τ' s', forS ok g items τ s = .nx τ' s' ∧ I items.length τ' s' := by
  have key : ∀ (ds : List D) (i : Nat) (τ : Fr) (s : S), items.drop i = ds → i ≤ items.length → I i τ s → ∃ τ' s', forS ok g ds τ s = .nx τ' s' ∧ I items.length τ' s' := by
    intro ds
    induction ds with
    | nil =>
      intro i τ s e hi h
      have : items.length ≤ i := by simpa using e
      have : i = items.length := by omega
      subst this
      exact ⟨τ, s, forS_nil (hok _ _ _ h), h⟩
    | cons d ds ih =>
      intro i τ s e hi h
      have e1 : items[i]? = some d := by
        have := List.getElem?_drop (xs := items) (i := i) (j := 0)
        rw [e] at this
        simpa using this.symm
      have hil := (List.getElem?_eq_some_iff.mp e1).1
      obtain ⟨τ', s', h1, h2⟩ := step i d τ s e1 h
      obtain ⟨τ2, s2, h3, h4⟩ := ih (i + 1) τ' s' (by
        have : items.drop (i + 1) = (items.drop i).drop 1 := by rw [List.drop_drop]
        rw [this, e]; rfl) hil h2
      exact ⟨τ2, s2, (forS_nx (hok _ _ _ h) h1).trans h3, h4⟩
  exact key items 0 τ s rfl (Nat.zero_le _) h0
/-- a comprehension, by what holds ahead of each turn -/
theorem lcS_inv {g : D → S → R (Option D)} (I : Nat → List D → S → Prop) (hok : ∀ i r s, I i r s → ok s) (step : ∀ i d r s, items[i]? = some d → I i r s → ∃ od s', g d s = .ok od s' ∧ I (i + 1) (r ++ od.toList) s') (h0 : I 0 [] s) :
    ∃ r s', lcS ok g items s = .ok r s' ∧ I items.length r s' := by
  have key : ∀ (ds : List D) (i : Nat) (r : List D) (s : S), items.drop i = ds → i ≤ items.length → I i r s → ∃ r' s', lcS ok g ds s = .ok r' s' ∧ I items.length (r ++ r') s' := by
    intro ds
    induction ds with
    | nil =>
      intro i r s e hi h
      have : items.length ≤ i := by simpa using e
      have : i = items.length := by omega
      subst this
      exact ⟨[], s, by unfold lcS; rw [if_pos (hok _ _ _ h)], by simpa using h⟩
    | cons d ds ih =>
      intro i r s e hi h
      have e1 : items[i]? = some d := by
        have := List.getElem?_drop (xs := items) (i := i) (j := 0)
        rw [e] at this
        simpa using this.symm
      have hil := (List.getElem?_eq_some_iff.mp e1).1
      obtain ⟨od, s', h1, h2⟩ := step i d r s e1 h
      obtain ⟨r2, s2, h3, h4⟩ := ih (i + 1) _ s' (by
        have : items.drop (i + 1) = (items.drop i).drop 1 := by rw [List.drop_drop]
        rw [this, e]; rfl) hil h2
      refine ⟨od.toList ++ r2, s2, ?_, by rw [← List.append_assoc]; exact h4⟩
      unfold lcS
      rw [if_pos (hok _ _ _ h), h1, R.bind_ok, h3, R.bind_ok]
      cases od <;> rfl
  simpa using key items 0 [] s rfl (Nat.zero_le _) h0
end
/-- a turn of a for, of a comprehension -/
noncomputable def forB (cl : CL) (t : Tv) (body : Cms) : D → Fr → S → SR := fun d τ s => match asgV t d s τ with
  | none => .bad
  | some τ' => exs cl body τ' s
noncomputable def lcB (cl : CL) (τ : Fr) (vs : List Nat) (t : Tv) (cond elt : Ex) : D → S → R (Option D) := fun d s => match asgV t d s (wipeF τ vs) with
  | none => .bad
  | some τ' => ((if cond.isNop = true then .ok true s else ((ev cl cond).2 τ' s).calm : R Bool)).bind fun c s => if c = true then (((ev cl elt).1 τ' s).calm).bind fun y s => .ok (some y) s else .ok none s
section
variable {cl : CL} {t : Tv} {k : Ik} {its : Exs} {body : Cms} {τ : Fr} {s s1 s2 : S} {ds r : List D} {src : Src} {elt cond : Ex} {own : List (Str × Nat)}
theorem ex_for (h1 : evs cl its τ s = .ok ds s1) (h2 : srcOf k ds s1 = some src) : ex cl (.for_ t k its body) τ s = forS src.ok (forB cl t body) src.items τ s1 := by
  simp only [ex, h1, R.toS_ok, h2]
  rfl
theorem forB_var {i : Nat} {d : D} : forB cl (.var i) body d τ s = exs cl body (τ.set i (some d)) s := rfl
theorem ev_lc (h1 : evs cl its τ s = .ok ds s1) (h2 : srcOf k ds s1 = some src) (hl : src.items.length < sizeLine) (h3 : lcS src.ok (lcB cl τ (own.map (·.2)) t cond elt) src.items s1 = .ok r s2) :
    evE cl (.lc elt t k its cond own) τ s = .ok (.ref s2.length) (s2 ++ [.lst r]) := by
  show (evs cl its τ s).bind _ = _
  rw [h1, R.bind_ok]
  simp only [h2]
  rw [if_pos hl]
  show (lcS src.ok (lcB cl τ (own.map (·.2)) t cond elt) src.items s1).bind _ = _
  rw [h3]; rfl
theorem lcB_var {i : Nat} {d y : D} {vs : List Nat} (h : evE cl elt ((wipeF τ vs).set i (some d)) s = .ok y s1) : lcB cl τ vs (.var i) .nop elt d s = .ok (some y) s1 := by
  have h : (ev cl elt).1 ((wipeF τ vs).set i (some d)) s = .ok y s1 := h
  simp only [lcB, asgV, Ex.isNop, if_true, R.bind_ok, h, R.calm_ok]
theorem lcB_if {i : Nat} {d y : D} {vs : List Nat} (hn : cond.isNop = false) (hc : evT cl cond ((wipeF τ vs).set i (some d)) s = .ok true s1) (h : evE cl elt ((wipeF τ vs).set i (some d)) s1 = .ok y s2) : lcB cl τ vs (.var i) cond elt d s = .ok (some y) s2 := by
  have h : (ev cl elt).1 ((wipeF τ vs).set i (some d)) s1 = .ok y s2 := h
  have hc : (ev cl cond).2 ((wipeF τ vs).set i (some d)) s = .ok true s1 := hc
  simp only [lcB, asgV, hn, Bool.false_eq_true, if_false, hc, R.calm_ok, R.bind_ok, if_true, h]
theorem lcB_no {i : Nat} {d : D} {vs : List Nat} (hn : cond.isNop = false) (hc : evT cl cond ((wipeF τ vs).set i (some d)) s = .ok false s1) : lcB cl τ vs (.var i) cond elt d s = .ok none s1 := by
  have hc : (ev cl cond).2 ((wipeF τ vs).set i (some d)) s = .ok false s1 := hc
  simp only [lcB, asgV, hn, Bool.false_eq_true, if_false, hc, R.calm_ok, R.bind_ok]
end
/-! ### the store around a pool -/
def PoolAt (n : Nat) (s : S) : Prop := ∃ o, s[n]? = some o ∧ PoolIn o
/-- all but the pool at n stands as it stood -/
structure Gr (n : Nat) (s s' : S) : Prop where
  len : s.length ≤ s'.length
  keep : ∀ i, i < s.length → i ≠ n → s'[i]? = s[i]?
  pool : PoolAt n s'
theorem Gr.trans {n : Nat} {s1 s2 s3 : S} (a : Gr n s1 s2) (b : Gr n s2 s3) : Gr n s1 s3 :=
  ⟨Nat.le_trans a.len b.len, fun i hi hn => (b.keep i (Nat.lt_of_lt_of_le hi a.len) hn).trans (a.keep i hi hn), b.pool⟩
theorem Gr.refl {n : Nat} {s : S} (h : PoolAt n s) : Gr n s s := ⟨Nat.le_refl _, fun _ _ _ => rfl, h⟩
theorem Gr.at {n i : Nat} {s s' : S} {o : O} (g : Gr n s s') (h : s[i]? = some o) (hn : i ≠ n) : s'[i]? = some o := (g.keep i (lt_of_get h) hn).trans h
theorem PoolAt.lt {n : Nat} {s : S} (h : PoolAt n s) : n < s.length := let ⟨_, e, _⟩ := h; lt_of_get e
/-- a new object behind -/
theorem Gr.new {n : Nat} {s : S} (h : PoolAt n s) (o : O) : Gr n s (s ++ [o]) := by
  refine ⟨by simp, fun i hi _ => List.getElem?_append_left hi, ?_⟩
  obtain ⟨p, e, q⟩ := h
  exact ⟨p, by rw [List.getElem?_append_left (lt_of_get e)]; exact e, q⟩
theorem new_at {s : S} {o : O} : (s ++ [o])[s.length]? = some o := by simp
/-- drawing, as a callee -/
def Dr (cl : CL) (draw : Nat) : Prop := ∀ (s : S) (n : Nat) (m : Int), PoolAt n s → 0 < m → m.natAbs.log2 < 9000 → ∃ r s', cl.call draw [.ref n, .int m] s = .ok (.int r) s' ∧ 0 ≤ r ∧ r < m ∧ Gr n s s' ∧ s'.length = s.length
theorem small_log {m : Int} (h0 : 0 < m) (h : m < 2 ^ 64) : m.natAbs.log2 < 9000 := Nat.lt_of_lt_of_le (log2_lt (b := 64) (by omega) (by decide)) (by decide)
theorem dr_of {cl cl' : CL} {mix draw : Nat} (hm : ∀ x y s, ∃ r, cl.call mix [.int x, .int y] s = .ok (.int r) s ∧ 0 ≤ r) (h : ∀ ds s, cl'.call draw ds s = runFn cl ⟨2, 4, bDraw mix⟩ ds s) : Dr cl' draw := by
  intro s n m ⟨o, e, ⟨a, b, c, e', cs, ho, ha, hb, hc, hc2, he⟩⟩ m0 mb
  have hn := lt_of_get e
  obtain ⟨r, o', h1, h2, h3, h4⟩ := run_draw hm (cs := cs) hn ha hb hc hc2 he m0 mb
  rw [← ho, set_same e] at h1
  refine ⟨r, s.set n o', by rw [h, h1], h2, h3, ⟨by simp, fun i hi hne => List.getElem?_set_ne (Ne.symm hne), ⟨o', set_get hn, h4⟩⟩, by simp⟩
/-! ### words -/
def letters : Str := "abcdefghijklmnopqrstuvwxyz"
theorem letters_eq : letters.cps.toList = (List.range 26).map (97 + ·) := by decide +kernel
def Low (x : Str) : Prop := ∀ c ∈ x.cps.toList, 97 ≤ c ∧ c ≤ 122
theorem mem_letters {c : Nat} : c ∈ letters.cps.toList ↔ 97 ≤ c ∧ c ≤ 122 := by
  rw [letters_eq, List.mem_map]
  constructor
  · rintro ⟨k, hk, rfl⟩
    have := List.mem_range.mp hk
    omega
  · rintro ⟨h1, h2⟩
    exact ⟨c - 97, List.mem_range.mpr (by omega), by omega⟩
theorem letter_ix {r : Int} (h0 : 0 ≤ r) (h : r < 26) {s : S} : ∃ c, ixD (.str letters) (.int r) s = .ok (.str ⟨#[c]⟩) s ∧ 97 ≤ c ∧ c ≤ 122 := by
  refine ⟨97 + r.toNat, ?_, by omega, by omega⟩
  have hl : letters.length ≤ sizeLine := by decide +kernel
  have ha : L2.atI letters.cps.toList r = some (97 + r.toNat) := by
    refine atI_of h0 ?_
    rw [letters_eq, List.getElem?_map, List.getElem?_range (by omega)]
    rfl
  simp only [ixD, if_pos hl, ha]
theorem low_app {x y : Str} (hx : Low x) (hy : Low y) : Low (x ++ y) := by
  intro c hc
  have : c ∈ (x.cps ++ y.cps).toList := hc
  rw [Array.toList_append] at this
  rcases List.mem_append.mp this with h | h
  · exact hx c h
  · exact hy c h
theorem len_app (x y : Str) : (x ++ y).length = x.length + y.length := by
  show (x.cps ++ y.cps).size = x.cps.size + y.cps.size
  exact Array.size_append
theorem low_one {c : Nat} (h : 97 ≤ c ∧ c ≤ 122) : Low ⟨#[c]⟩ := by
  intro d hd
  have : d = c := by simpa using hd
  rw [this]; exact h
def bWord (draw : Nat) : Cms := .cons (.asg (.loc (.var 2)) (.cst (.str "abcdefghijklmnopqrstuvwxyz")))
    (.cons (.asg (.loc (.var 3)) (.cst (.str "")))
    (.cons (.for_ (.var 4) .rng1 (.cons (.var 1) .nil) (.cons (.asg (.loc (.var 3)) (.bin .add (.var 3) (.ix (.var 2) (.call draw (.cons (.var 0) (.cons (.cst (.int 26)) .nil)))))) .nil))
    (.cons (.ret (.var 3)) .nil)))
theorem src_rng {m : Int} (h0 : 0 ≤ m) (h : m < 2 ^ 62) (s : S) : srcOf .rng1 [.int m] s = some (.vals (rngD 0 m.toNat)) := by
  simp only [srcOf]
  rw [if_pos (by omega)]
theorem rng_at {lo : Int} {n i : Nat} {d : D} (h : (rngD lo n)[i]? = some d) : i < n ∧ d = .int (lo + i) := by
  simp only [rngD, List.getElem?_map, Option.map_eq_some_iff] at h
  obtain ⟨a, h1, h2⟩ := h
  obtain ⟨h3, h4⟩ := List.getElem?_eq_some_iff.mp h1
  simp at h3 h4
  subst h4
  exact ⟨h3, h2.symm⟩
theorem rng_len (lo : Int) (n : Nat) : (rngD lo n).length = n := by simp [rngD]
theorem run_word {cl : CL} {draw : Nat} (hd : Dr cl draw) {s : S} {n : Nat} {m : Int} (hp : PoolAt n s) (h0 : 0 ≤ m) (h : m ≤ 1000) :
    ∃ x s', runFn cl ⟨2, 5, bWord draw⟩ [.ref n, .int m] s = .ok (.str x) s' ∧ Low x ∧ (x.length : Int) = m ∧ Gr n s s' ∧ s'.length = s.length := by
  let I : Nat → Fr → S → Prop := fun i τ s' => ∃ x k, τ = [some (.ref n), some (.int m), some (.str letters), some (.str x), k] ∧ Low x ∧ x.length = i ∧ Gr n s s' ∧ s'.length = s.length
  have e1 : (Str.ofString "").length = 0 := by decide +kernel
  have e2 : Low (Str.ofString "") := by
    intro c hc
    have : (Str.ofString "").cps.toList = [] := by decide +kernel
    rw [this] at hc; cases hc
  obtain ⟨τ', s', h1, x, k, rfl, hx, hl, hg, hl2⟩ := forS_inv (ok := (Src.vals (rngD 0 m.toNat)).ok) (g := forB cl (.var 4) (.cons (.asg (.loc (.var 3)) (.bin .add (.var 3) (.ix (.var 2) (.call draw (.cons (.var 0) (.cons (.cst (.int 26)) .nil)))))) .nil))
    (items := rngD 0 m.toNat) (τ := [some (.ref n), some (.int m), some (.str letters), some (.str (Str.ofString "")), none]) (s := s) I (fun _ _ _ _ => trivial) (fun i d τ s' hi ⟨x, k, hτ, hx, hl, hg, hl2⟩ => by
      subst hτ
      obtain ⟨r, s2, q1, q2, q3, q4, q5⟩ := hd s' n 26 hg.pool (by decide) (by decide +kernel)
      obtain ⟨c, c1, c2⟩ := letter_ix q2 q3 (s := s2)
      have hil := (rng_at hi).1
      refine ⟨[some (.ref n), some (.int m), some (.str letters), some (.str (x ++ ⟨#[c]⟩)), some d], s2, ?_, x ++ ⟨#[c]⟩, _, rfl, low_app hx (low_one c2), by rw [len_app, hl]; rfl, hg.trans q4, by rw [q5, hl2]⟩
      rw [forB_var]
      refine (exs_nx (ex_asg ?_)).trans rfl
      walk_at "ev"
      rw [q1]; walk_at "ev"
      rw [c1]; walk_at "ev"
      simp only [binD, addD]
      rw [if_pos (by rw [hl, sizeLine_eq]; show i + 1 ≤ _; omega)]) ⟨_, none, rfl, e2, e1, Gr.refl hp, rfl⟩
  refine ⟨x, s', run_rt rfl ?_, hx, by rw [hl, rng_len]; omega, hg, hl2⟩
  refine (exs_nx (ex_asg (d := .str letters) (s' := s) rfl)).trans ?_
  refine (exs_nx (ex_asg (d := .str (Str.ofString "")) (s' := s) rfl)).trans ?_
  refine (exs_nx (τ' := [some (.ref n), some (.int m), some (.str letters), some (.str x), k]) (s' := s') ?_).trans (exs_rt (ex_ret rfl))
  rw [← h1]
  exact ex_for rfl (src_rng h0 (by omega) s)
/-- words, as a callee -/
def Wo (cl : CL) (word : Nat) : Prop := ∀ (s : S) (n : Nat) (m : Int), PoolAt n s → 0 ≤ m → m ≤ 1000 → ∃ x s', cl.call word [.ref n, .int m] s = .ok (.str x) s' ∧ Low x ∧ (x.length : Int) = m ∧ Gr n s s' ∧ s'.length = s.length
theorem wo_of {cl cl' : CL} {draw word : Nat} (hd : Dr cl draw) (h : ∀ ds s, cl'.call word ds s = runFn cl ⟨2, 5, bWord draw⟩ ds s) : Wo cl' word := fun s n m hp h0 h1 => by
  obtain ⟨x, s', a, b⟩ := run_word hd hp h0 h1
  exact ⟨x, s', by rw [h, a], b⟩
/-- the pool, made of the script -/
def bPool : Cms := .cons (.ret (.bin .add (.lst (.cons (.cst (.int 0)) (.cons (.cst (.int 4)) (.cons (.cst (.int 5)) (.cons (.cst (.int 0)) .nil))))) (.lc (.blt .int (.cons (.var 1) .nil)) (.var 1) .seq (.cons (.var 0) .nil) .nop [("_law_cell", 1)]))) .nil
theorem run_pool (cl : CL) (ns : List Int) (h : ns.length ≤ 63) : ∃ s n, runFn cl ⟨1, 2, bPool⟩ [.flst (ns.map .int)] [] = .ok (.ref n) s ∧ PoolAt n s := by
  have hlc : lcS (Src.vals (ns.map D.int)).ok (lcB cl [some (.flst (ns.map .int)), none] [1] (.var 1) .nop (.blt .int (.cons (.var 1) .nil))) (ns.map D.int) [.lst [.int 0, .int 4, .int 5, .int 0]]
        = .ok (ns.map D.int) [.lst [.int 0, .int 4, .int 5, .int 0]] := by
    obtain ⟨r, s', h1, h2, h3⟩ := lcS_inv (ok := (Src.vals (ns.map D.int)).ok) (items := ns.map D.int) (s := [.lst [.int 0, .int 4, .int 5, .int 0]]) (fun i r s => r = (ns.take i).map D.int ∧ s = [.lst [.int 0, .int 4, .int 5, .int 0]]) (fun _ _ _ _ => trivial)
      (g := lcB cl [some (.flst (ns.map .int)), none] [1] (.var 1) .nop (.blt .int (.cons (.var 1) .nil)))
      (fun i d r s hi ⟨hr, hs⟩ => by
        rw [List.getElem?_map, Option.map_eq_some_iff] at hi
        obtain ⟨x, hx, rfl⟩ := hi
        refine ⟨some (.int x), s, lcB_var rfl, ?_, hs⟩
        rw [hr]
        have : ns.take (i + 1) = ns.take i ++ [x] := by
          rw [List.take_add_one, hx]; rfl
        rw [this, List.map_append]; rfl) ⟨rfl, rfl⟩
    rw [h1, h2, h3, List.length_map, List.take_length]
  refine ⟨[.lst [.int 0, .int 4, .int 5, .int 0], .lst (ns.map .int), pool 0 4 5 0 ns], 2, run_rt rfl (exs_rt (ex_ret ?_)), ⟨_, rfl, ⟨0, 4, 5, 0, ns, rfl, by omega, by omega, by omega, by omega, by omega⟩⟩⟩
  have e2 : evE cl (.lc (.blt .int (.cons (.var 1) .nil)) (.var 1) .seq (.cons (.var 0) .nil) .nop [("_law_cell", 1)]) [some (.flst (ns.map .int)), none] [.lst [.int 0, .int 4, .int 5, .int 0]] = .ok (.ref 1) [.lst [.int 0, .int 4, .int 5, .int 0], .lst (ns.map .int)] :=
    ev_lc (s2 := [.lst [.int 0, .int 4, .int 5, .int 0]]) (r := ns.map .int) (src := .vals (ns.map .int)) rfl rfl (by show (ns.map D.int).length < _; rw [List.length_map, sizeLine_eq]; omega) hlc
  have e2 : (ev cl (.lc (.blt .int (.cons (.var 1) .nil)) (.var 1) .seq (.cons (.var 0) .nil) .nop [("_law_cell", 1)])).1 [some (.flst (ns.map .int)), none] [.lst [.int 0, .int 4, .int 5, .int 0]] = _ := e2
  show (R.ok (D.ref 0) [.lst [.int 0, .int 4, .int 5, .int 0]]).bind (fun x s => ((ev cl (.lc (.blt .int (.cons (.var 1) .nil)) (.var 1) .seq (.cons (.var 0) .nil) .nop [("_law_cell", 1)])).1 [some (.flst (ns.map .int)), none] s).bind fun y s => binD .add x y s) = _
  rw [R.bind_ok, e2, R.bind_ok]
  simp only [binD, addD, List.getElem?_cons_zero, List.getElem?_cons_succ]
  rw [if_pos (by simp only [List.length_cons, List.length_nil, List.length_map, sizeLine_eq]; omega)]
  rfl
end G

set_option Elab.async false
set_option linter.all false
set_option maxRecDepth 100000
set_option autoImplicit false
set_option maxHeartbeats 1000000
/-! Lw3: texts of plain signs; lists of texts compared. -/
namespace G
open PySem
/-- plain signs -/
def Asc (x : Str) : Prop := ∀ c ∈ x.cps.toList, c < 128
theorem Low.asc {x : Str} (h : Low x) : Asc x := fun c hc => by have := h c hc; omega
theorem asc_app {x y : Str} (hx : Asc x) (hy : Asc y) : Asc (x ++ y) := by
  intro c hc
  have : c ∈ (x.cps ++ y.cps).toList := hc
  rw [Array.toList_append] at this
  exact (List.mem_append.mp this).elim (hx c) (hy c)
theorem asc_cut {x : Str} (hx : Asc x) (lo hi : Option Int) : Asc (L2.cutS x lo hi) := by
  intro c hc
  unfold L2.cutS at hc
  rw [List.toList_toArray] at hc
  exact hx c (List.mem_of_mem_drop (List.mem_of_mem_take hc))
theorem asc_one {c : Nat} (h : c < 128) : Asc ⟨#[c]⟩ := by
  intro d hd
  have : d = c := by simpa using hd
  omega
theorem asc_fold {sep : Str} (hs : Asc sep) : ∀ (ys : List Str) (acc : Array Nat), (∀ y ∈ ys, Asc y) → (∀ c ∈ acc.toList, c < 128) → ∀ c ∈ (ys.foldl (fun acc p => acc ++ sep.cps ++ p.cps) acc).toList, c < 128
  | [], acc, _, h => h
  | y :: ys, acc, hy, h => by
    refine asc_fold hs ys _ (fun z hz => hy z (List.mem_cons_of_mem _ hz)) fun c hc => ?_
    rw [Array.toList_append, Array.toList_append] at hc
    rcases List.mem_append.mp hc with hc | hc
    · exact (List.mem_append.mp hc).elim (h c) (hs c)
    · exact hy y List.mem_cons_self c hc
theorem asc_join {sep : Str} (hs : Asc sep) {ys : List Str} (hy : ∀ y ∈ ys, Asc y) : Asc (Txt.join sep ys) := by
  unfold Txt.join Builtin.Str.glued
  refine asc_fold hs _ _ (fun y h => hy y (List.mem_of_mem_drop h)) ?_
  cases ys with
  | nil => intro c hc; cases hc
  | cons y ys => exact hy y List.mem_cons_self
theorem asc_ok {x : Str} (h : Asc x) : PyData.strOk x = true := by
  unfold PyData.strOk
  rw [Array.all_eq_true_iff_forall_mem]
  intro c hc
  have := h c (Array.mem_toList_iff.mpr hc)
  exact decide_eq_true (by omega)
theorem toPs_strs (k : Nat) (s : S) : ∀ ys : List Str, toPs k s (ys.map .str) = some (ys.map .str)
  | [] => by simp [toPs]
  | y :: ys => by simp only [List.map_cons, toPs, toP, toPs_strs k s ys]
theorem lay_strs : ∀ {ys : List Str}, (∀ y ∈ ys, Asc y) → PyData.canLayAll0 (ys.map .str) = true
  | [], _ => rfl
  | y :: ys, h => by
    simp only [List.map_cons, PyData.canLayAll0, PyData.canLay0, Bool.and_eq_true]
    exact ⟨asc_ok (h y List.mem_cons_self), lay_strs fun z hz => h z (List.mem_cons_of_mem _ hz)⟩
theorem depth_strs : ∀ ys : List Str, PyData.depthAll (ys.map .str) = 0
  | [] => by simp [PyData.depthAll]
  | y :: ys => by simp [PyData.depthAll, PyData.depth, depth_strs ys]
theorem shaped_strs {ys : List Str} (h : ∀ y ∈ ys, Asc y) : SeqAt.shaped (.list (ys.map .str)) = true := by
  unfold SeqAt.shaped
  simp only [PyData.canLay0, lay_strs h, PyData.depth, depth_strs, Bool.true_and]
  decide
theorem toP_ref {k n : Nat} {s : S} {ds : List D} (h : s[n]? = some (.lst ds)) : toP (k + 1) s (.ref n) = (toPs k s ds).map .list := by simp only [toP, h]
theorem eqD_lst {s : S} {m : Nat} {d : D} {ds : List D} (h : s[m]? = some (.lst ds)) : eqD (.ref m) d s = eqP (.ref m) d s := by
  cases d <;> first
    | rfl
    | simp only [eqD, h]
/-- a list of texts == [] -/
theorem eqD_nil {s : S} {m n : Nat} {ys : List Str} (h : ∀ y ∈ ys, Asc y) (h1 : s[m]? = some (.lst (ys.map .str))) (h2 : s[n]? = some (.lst [])) : eqD (.ref m) (.ref n) s = .ok ys.isEmpty s := by
  rw [eqD_lst h1]
  simp only [eqP, toP_ref h1, toP_ref h2, toPs_strs, toPs, Option.map_some]
  rw [if_pos ⟨shaped_strs h, by rfl⟩]
  congr 1
  cases ys <;> simp [PyData.eqv, PyData.eqvAll]
end G

set_option Elab.async false
set_option linter.all false
set_option maxRecDepth 100000
set_option autoImplicit false
set_option maxHeartbeats 1000000
/-! SLa: the defs that the laws about schemas share, as plain programs (printed by gen2.py). -/
namespace SL
open PySem PySem.Spec PyProof.Rows L2 G
/-- 374: is_integer -/
def b374 : Cms := .cons (.ret (.and (.isi (.var 0) .int) (.not (.isi (.var 0) .bool)))) .nil
def f374 : Fn := ⟨1, 1, b374⟩
/-- 389: is_word -/
def b389 : Cms := .cons (.ite (.or (.not (.isi (.var 0) .str)) (.not (.cmp2 .le .le (.cst (.int 1)) (.blt .len (.cons (.var 0) .nil)) (.cst (.int 8))))) (.cons (.ret (.cst (.bl false))) .nil) (.nil))
    (.cons (.for_ (.var 1) .seq (.cons (.var 0) .nil) (.cons (.ite (.cmp .nin (.var 1) (.glob 5)) (.cons (.ret (.cst (.bl false))) .nil) (.nil)) .nil))
    (.cons (.ret (.cst (.bl true))) .nil))
def f389 : Fn := ⟨1, 2, b389⟩
/-- 371: is_columns -/
def b371 : Cms := .cons (.ite (.not (.isi (.var 0) .tuple)) (.cons (.ret (.cst (.bl false))) .nil) (.nil))
    (.cons (.asg (.loc (.var 2)) (.neg (.cst (.int 1))))
    (.cons (.for_ (.var 3) .seq (.cons (.var 0) .nil) (.cons (.ite (.or (.not (.call 374 (.cons (.var 3) .nil))) (.not (.cmp2 .lt .lt (.var 2) (.var 3) (.var 1)))) (.cons (.ret (.cst (.bl false))) .nil) (.nil))
    (.cons (.asg (.loc (.var 2)) (.var 3)) .nil)))
    (.cons (.ret (.cst (.bl true))) .nil)))
def f371 : Fn := ⟨2, 4, b371⟩
/-- 355: check_tables -/
def b355 : Cms := .cons (.ite (.not (.cmp2 .le .le (.cst (.int 1)) (.blt .len (.cons (.var 0) .nil)) (.cst (.int 5)))) (.cons (.rse "InvalidSchema" (.cons (.cst (.str "tables")) (.cons (.cst .non) .nil))) .nil) (.nil))
    (.cons (.for_ (.var 1) .seq (.cons (.blt .sorted (.cons (.blt .list (.cons (.var 0) .nil)) .nil)) .nil) (.cons (.asg (.loc (.var 2)) (.ix (.var 0) (.var 1)))
    (.cons (.ite (.or (.not (.call 389 (.cons (.var 1) .nil))) (.or (.not (.call 374 (.cons (.var 2) .nil))) (.not (.cmp2 .le .le (.cst (.int 1)) (.var 2) (.cst (.int 4)))))) (.cons (.rse "InvalidSchema" (.cons (.cst (.str "tables")) (.cons (.var 1) .nil))) .nil) (.nil)) .nil))) .nil)
def f355 : Fn := ⟨1, 3, b355⟩
/-- 349: check_keys -/
def b349 : Cms := .cons (.for_ (.var 2) .seq (.cons (.blt .sorted (.cons (.blt .list (.cons (.var 1) .nil)) .nil)) .nil) (.cons (.ite (.or (.cmp .nin (.var 2) (.var 0)) (.not (.call 371 (.cons (.ix (.var 1) (.var 2)) (.cons (.ix (.var 0) (.var 2)) .nil))))) (.cons (.rse "InvalidSchema" (.cons (.cst (.str "keys")) (.cons (.var 2) .nil))) .nil) (.nil))
    (.cons (.ite (.not (.cmp2 .le .lt (.cst (.int 1)) (.blt .len (.cons (.ix (.var 1) (.var 2)) .nil)) (.ix (.var 0) (.var 2)))) (.cons (.rse "InvalidSchema" (.cons (.cst (.str "keys")) (.cons (.var 2) .nil))) .nil) (.nil)) .nil))) .nil
def f349 : Fn := ⟨2, 3, b349⟩
/-- 381: is_service -/
def b381 : Cms := .cons (.ite (.or (.not (.isi (.var 1) .tuple)) (.cmp .ne (.blt .len (.cons (.var 1) .nil)) (.cst (.int 3)))) (.cons (.ret (.cst (.bl false))) .nil) (.nil))
    (.cons (.asg (.loc (.tup [2, 3, 4])) (.var 1))
    (.cons (.ite (.or (.not (.call 389 (.cons (.var 2) .nil))) (.or (.cmp .nin (.var 2) (.var 0)) (.not (.call 371 (.cons (.var 3) (.cons (.ix (.var 0) (.var 2)) .nil)))))) (.cons (.ret (.cst (.bl false))) .nil) (.nil))
    (.cons (.ret (.or (.cmp .isn (.var 4) (.cst .non)) (.and (.call 374 (.cons (.var 4) .nil)) (.cmp2 .le .le (.cst (.int 1)) (.var 4) (.cst (.int 4)))))) .nil)))
def f381 : Fn := ⟨2, 5, b381⟩
/-- 354: check_services -/
def b354 : Cms := .cons (.ite (.not (.cmp2 .le .le (.cst (.int 1)) (.blt .len (.cons (.var 1) .nil)) (.cst (.int 8)))) (.cons (.rse "InvalidSchema" (.cons (.cst (.str "services")) (.cons (.cst .non) .nil))) .nil) (.nil))
    (.cons (.for_ (.var 2) .seq (.cons (.blt .sorted (.cons (.blt .list (.cons (.var 1) .nil)) .nil)) .nil) (.cons (.ite (.or (.not (.call 389 (.cons (.var 2) .nil))) (.not (.call 381 (.cons (.var 0) (.cons (.ix (.var 1) (.var 2)) .nil))))) (.cons (.rse "InvalidSchema" (.cons (.cst (.str "services")) (.cons (.var 2) .nil))) .nil) (.nil)) .nil)) .nil)
def f354 : Fn := ⟨2, 3, b354⟩
/-- 429: returns_all -/
def b429 : Cms := .cons (.asg (.loc (.tup [4, 5, 6])) (.var 2))
    (.cons (.ite (.or (.cmp .isn (.var 6) (.cst .non)) (.cmp .eq (.blt .len (.cons (.var 5) .nil)) (.ix (.var 0) (.var 4)))) (.cons (.ret (.cst (.bl true))) .nil) (.nil))
    (.cons (.ite (.cmp .nin (.var 4) (.var 1)) (.cons (.ret (.cst (.bl false))) .nil) (.nil))
    (.cons (.for_ (.var 3) .seq (.cons (.ix (.var 1) (.var 4)) .nil) (.cons (.ite (.cmp .nin (.var 3) (.var 5)) (.cons (.ret (.cst (.bl false))) .nil) (.nil)) .nil))
    (.cons (.ret (.cst (.bl true))) .nil))))
def f429 : Fn := ⟨3, 7, b429⟩
/-- 252: _law_pool -/
def b252 : Cms := .cons (.ret (.bin .add (.lst (.cons (.cst (.int 0)) (.cons (.cst (.int 4)) (.cons (.cst (.int 5)) (.cons (.cst (.int 0)) .nil))))) (.lc (.blt .int (.cons (.var 1) .nil)) (.var 1) .seq (.cons (.var 0) .nil) .nop [("_law_cell", 1)]))) .nil
def f252 : Fn := ⟨1, 2, b252⟩
/-- 224: _law_mixed -/
def b224 : Cms := .cons (.asg (.loc (.var 2)) (.bin .mod (.blt .int (.cons (.bin .mul (.bin .add (.bin .add (.var 0) (.bin .mul (.cst (.int 7919)) (.var 1))) (.cst (.int 1))) (.cst (.int 48271))) .nil)) (.cst (.int 2147483647))))
    (.cons (.asg (.loc (.var 2)) (.bin .mod (.blt .int (.cons (.bin .mul (.var 2) (.bin .add (.bin .fdiv (.var 2) (.cst (.int 1009))) (.cst (.int 69621)))) .nil)) (.cst (.int 2147483647))))
    (.cons (.ret (.bin .mod (.blt .int (.cons (.bin .mul (.var 2) (.bin .add (.bin .fdiv (.var 2) (.cst (.int 2003))) (.cst (.int 40692)))) .nil)) (.cst (.int 2147483399)))) .nil))
def f224 : Fn := ⟨2, 3, b224⟩
/-- 148: _law_draw -/
def b148 : Cms := .cons (.asg (.sub (.var 0) (.cst (.int 3))) (.bin .add (.ix (.var 0) (.cst (.int 3))) (.cst (.int 1))))
    (.cons (.ite (.and (.cmp .eq (.ix (.var 0) (.cst (.int 0))) (.cst (.int 0))) (.cmp .lt (.ix (.var 0) (.cst (.int 1))) (.blt .len (.cons (.var 0) .nil)))) (.cons (.asg (.loc (.var 2)) (.blt .abs (.cons (.ix (.var 0) (.ix (.var 0) (.cst (.int 1)))) .nil)))
    (.cons (.asg (.sub (.var 0) (.cst (.int 1))) (.bin .add (.ix (.var 0) (.cst (.int 1))) (.cst (.int 1))))
    (.cons (.ite (.cmp .lt (.var 2) (.bin .pow (.cst (.int 10)) (.cst (.int 18)))) (.cons (.asg (.sub (.var 0) (.cst (.int 2))) (.bin .mod (.blt .int (.cons (.bin .add (.bin .add (.bin .mul (.ix (.var 0) (.cst (.int 2))) (.cst (.int 7919))) (.var 2)) (.cst (.int 1))) .nil)) (.cst (.int 2147483647)))) .nil) (.cons (.asg (.sub (.var 0) (.cst (.int 0))) (.var 2)) .nil)) .nil))) (.nil))
    (.cons (.ite (.cmp .gt (.ix (.var 0) (.cst (.int 0))) (.cst (.int 0))) (.cons (.asg (.loc (.var 3)) (.bin .mod (.blt .int (.cons (.ix (.var 0) (.cst (.int 0))) .nil)) (.var 1)))
    (.cons (.asg (.sub (.var 0) (.cst (.int 0))) (.bin .fdiv (.ix (.var 0) (.cst (.int 0))) (.var 1)))
    (.cons (.ret (.var 3)) .nil))) (.nil))
    (.cons (.ret (.bin .mod (.blt .int (.cons (.call 224 (.cons (.ix (.var 0) (.cst (.int 2))) (.cons (.ix (.var 0) (.cst (.int 3))) .nil))) .nil)) (.var 1))) .nil)))
def f148 : Fn := ⟨2, 4, b148⟩
/-- 325: _law_word -/
def b325 : Cms := .cons (.asg (.loc (.var 2)) (.cst (.str "abcdefghijklmnopqrstuvwxyz")))
    (.cons (.asg (.loc (.var 3)) (.cst (.str "")))
    (.cons (.for_ (.var 4) .rng1 (.cons (.var 1) .nil) (.cons (.asg (.loc (.var 3)) (.bin .add (.var 3) (.ix (.var 2) (.call 148 (.cons (.var 0) (.cons (.cst (.int 26)) .nil)))))) .nil))
    (.cons (.ret (.var 3)) .nil)))
def f325 : Fn := ⟨2, 5, b325⟩
/-- 230: _law_names -/
def b230 : Cms := .cons (.asg (.loc (.var 2)) (.cst (.str "abcdefghijklmnopqrstuvwxyz")))
    (.cons (.asg (.loc (.var 3)) (.call 325 (.cons (.var 0) (.cons (.call 148 (.cons (.var 0) (.cons (.cst (.int 8)) .nil))) .nil))))
    (.cons (.asg (.loc (.var 4)) (.call 148 (.cons (.var 0) (.cons (.cst (.int 26)) .nil))))
    (.cons (.asg (.loc (.var 5)) (.ix (.lst (.cons (.cst (.int 1)) (.cons (.cst (.int 3)) (.cons (.cst (.int 5)) (.cons (.cst (.int 7)) (.cons (.cst (.int 9)) (.cons (.cst (.int 11)) .nil))))))) (.call 148 (.cons (.var 0) (.cons (.cst (.int 6)) .nil)))))
    (.cons (.asg (.loc (.var 6)) (.call 148 (.cons (.var 0) (.cons (.cst (.int 2)) .nil))))
    (.cons (.asg (.loc (.var 7)) (.lst .nil))
    (.cons (.for_ (.var 8) .rng1 (.cons (.var 1) .nil) (.cons (.asg (.loc (.var 9)) (.ix (.var 2) (.bin .mod (.blt .int (.cons (.bin .add (.var 4) (.bin .mul (.var 5) (.var 8))) .nil)) (.cst (.int 26)))))
    (.cons (.ite (.cmp .eq (.var 6) (.cst (.int 1))) (.cons (.expr (.meth .append (.var 7) (.cons (.bin .add (.var 9) (.var 3)) .nil))) .nil) (.cons (.expr (.meth .append (.var 7) (.cons (.bin .add (.var 3) (.var 9)) .nil))) .nil)) .nil)))
    (.cons (.ret (.var 7)) .nil)))))))
def f230 : Fn := ⟨2, 10, b230⟩
/-- 136: _law_columns -/
def b136 : Cms := .cons (.asg (.loc (.var 4)) (.lc (.var 5) (.var 5) .rng1 (.cons (.var 1) .nil) (.cmp .eq (.call 148 (.cons (.var 0) (.cons (.cst (.int 2)) .nil))) (.cst (.int 1))) [("_law_column", 5)]))
    (.cons (.ite (.cmp .lt (.blt .len (.cons (.var 4) .nil)) (.var 2)) (.cons (.asg (.loc (.var 4)) (.lst (.cons (.call 148 (.cons (.var 0) (.cons (.var 1) .nil))) .nil))) .nil) (.nil))
    (.cons (.ret (.blt .tuple (.cons (.sl (.var 4) .nop (.var 3)) .nil))) .nil))
def f136 : Fn := ⟨4, 6, b136⟩
/-- 298: _law_tables -/
def b298 : Cms := .cons (.asg (.loc (.var 3)) (.call 230 (.cons (.var 0) (.cons (.var 1) .nil))))
    (.cons (.asg (.loc (.var 4)) .dct)
    (.cons (.for_ (.var 5) .seq (.cons (.var 3) .nil) (.cons (.asg (.sub (.var 4) (.var 5)) (.bin .add (.cst (.int 1)) (.call 148 (.cons (.var 0) (.cons (.var 2) .nil))))) .nil))
    (.cons (.ret (.var 4)) .nil)))
def f298 : Fn := ⟨3, 6, b298⟩
/-- 210: _law_keys -/
def b210 : Cms := .cons (.asg (.loc (.var 2)) .dct)
    (.cons (.for_ (.var 3) .seq (.cons (.blt .list (.cons (.var 1) .nil)) .nil) (.cons (.ite (.and (.cmp .gt (.ix (.var 1) (.var 3)) (.cst (.int 1))) (.cmp .eq (.call 148 (.cons (.var 0) (.cons (.cst (.int 3)) .nil))) (.cst (.int 0)))) (.cons (.asg (.sub (.var 2) (.var 3)) (.call 136 (.cons (.var 0) (.cons (.ix (.var 1) (.var 3)) (.cons (.cst (.int 1)) (.cons (.bin .sub (.ix (.var 1) (.var 3)) (.cst (.int 1))) .nil)))))) .nil) (.nil)) .nil))
    (.cons (.ret (.var 2)) .nil))
def f210 : Fn := ⟨2, 4, b210⟩
/-- 198: _law_is_whole -/
def b198 : Cms := .cons (.asg (.loc (.tup [3, 4, 5])) (.var 2))
    (.cons (.ite (.or (.cmp .isn (.var 5) (.cst .non)) (.cmp .eq (.blt .len (.cons (.var 4) .nil)) (.ix (.var 0) (.var 3)))) (.cons (.ret (.cst (.bl true))) .nil) (.nil))
    (.cons (.ite (.cmp .nin (.var 3) (.var 1)) (.cons (.ret (.cst (.bl false))) .nil) (.nil))
    (.cons (.ret (.cmp .eq (.lc (.var 6) (.var 6) .seq (.cons (.ix (.var 1) (.var 3)) .nil) (.cmp .nin (.var 6) (.var 4)) [("_law_column", 6)]) (.lst .nil))) .nil)))
def f198 : Fn := ⟨3, 7, b198⟩
/-- 275: _law_services -/
def b275 : Cms := .cons (.asg (.loc (.var 5)) (.blt .list (.cons (.var 1) .nil)))
    (.cons (.asg (.loc (.var 6)) (.call 230 (.cons (.var 0) (.cons (.bin .add (.blt .len (.cons (.var 5) .nil)) (.var 4)) .nil))))
    (.cons (.asg (.loc (.var 7)) .dct)
    (.cons (.asg (.loc (.var 8)) (.lst .nil))
    (.cons (.for_ (.var 9) .rng1 (.cons (.blt .len (.cons (.var 6) .nil)) .nil) (.cons (.asg (.loc (.var 10)) (.ix (.var 5) (.bin .mod (.var 9) (.blt .len (.cons (.var 5) .nil)))))
    (.cons (.asg (.loc (.var 11)) (.ix (.var 3) (.call 148 (.cons (.var 0) (.cons (.blt .len (.cons (.var 3) .nil)) .nil)))))
    (.cons (.asg (.loc (.var 12)) (.tup (.cons (.var 10) (.cons (.call 136 (.cons (.var 0) (.cons (.ix (.var 1) (.var 10)) (.cons (.cst (.int 0)) (.cons (.cst (.int 4)) .nil))))) (.cons (.var 11) .nil)))))
    (.cons (.ite (.not (.call 198 (.cons (.var 1) (.cons (.var 2) (.cons (.var 12) .nil))))) (.cons (.ite (.cmp .inn (.var 10) (.var 8)) (.cons (.asg (.loc (.var 12)) (.tup (.cons (.var 10) (.cons (.ix (.var 12) (.cst (.int 1))) (.cons (.cst .non) .nil))))) .nil) (.cons (.expr (.meth .append (.var 8) (.cons (.var 10) .nil))) .nil)) .nil) (.nil))
    (.cons (.asg (.sub (.var 7) (.ix (.var 6) (.var 9))) (.var 12)) .nil))))))
    (.cons (.ret (.var 7)) .nil)))))
def f275 : Fn := ⟨5, 13, b275⟩
/-- 274: _law_schema_parts -/
def b274 : Cms := .cons (.asg (.loc (.var 5)) (.call 298 (.cons (.var 0) (.cons (.var 1) (.cons (.var 2) .nil)))))
    (.cons (.asg (.loc (.var 6)) (.call 210 (.cons (.var 0) (.cons (.var 5) .nil))))
    (.cons (.ret (.lst (.cons (.var 5) (.cons (.var 6) (.cons (.call 275 (.cons (.var 0) (.cons (.var 5) (.cons (.var 6) (.cons (.var 3) (.cons (.var 4) .nil)))))) .nil))))) .nil))
def f274 : Fn := ⟨5, 7, b274⟩
/-- 247: _law_pick -/
def b247 : Cms := .cons (.ret (.ix (.var 1) (.call 148 (.cons (.var 0) (.cons (.blt .len (.cons (.var 1) .nil)) .nil))))) .nil
def f247 : Fn := ⟨2, 2, b247⟩
/-- 76: Schema.__init__ -/
def b76 : Cms := .cons (.expr (.call 355 (.cons (.var 1) .nil)))
    (.cons (.expr (.call 349 (.cons (.var 1) (.cons (.var 2) .nil))))
    (.cons (.expr (.call 354 (.cons (.var 1) (.cons (.var 3) .nil))))
    (.cons (.asg (.loc (.var 4)) .dct)
    (.cons (.asg (.loc (.var 5)) .dct)
    (.cons (.for_ (.var 6) .seq (.cons (.blt .sorted (.cons (.blt .list (.cons (.var 3) .nil)) .nil)) .nil) (.cons (.asg (.loc (.var 7)) (.ix (.var 3) (.var 6)))
    (.cons (.asg (.sub (.var 4) (.var 6)) (.call 429 (.cons (.var 1) (.cons (.var 2) (.cons (.var 7) .nil)))))
    (.cons (.ite (.not (.ix (.var 4) (.var 6))) (.cons (.ite (.cmp .inn (.ix (.var 7) (.cst (.int 0))) (.var 5)) (.cons (.rse "InvalidSchema" (.cons (.cst (.str "capped")) (.cons (.var 6) .nil))) .nil) (.nil))
    (.cons (.asg (.sub (.var 5) (.ix (.var 7) (.cst (.int 0)))) (.var 6)) .nil)) (.nil)) .nil))))
    (.cons (.asg (.fld (.var 0) "width_table") (.dc (.var 6) (.ix (.var 1) (.var 6)) (.var 6) .seq (.cons (.blt .sorted (.cons (.blt .list (.cons (.var 1) .nil)) .nil)) .nil) [("name", 6)]))
    (.cons (.asg (.fld (.var 0) "key_table") (.dc (.var 6) (.ix (.var 2) (.var 6)) (.var 6) .seq (.cons (.blt .sorted (.cons (.blt .list (.cons (.var 2) .nil)) .nil)) .nil) [("name", 6)]))
    (.cons (.asg (.fld (.var 0) "service_table") (.dc (.var 6) (.ix (.var 3) (.var 6)) (.var 6) .seq (.cons (.blt .sorted (.cons (.blt .list (.cons (.var 3) .nil)) .nil)) .nil) [("name", 6)]))
    (.cons (.asg (.fld (.var 0) "whole_table") (.var 4))
    (.cons (.asg (.fld (.var 0) "capped_table") (.var 5)) .nil))))))))))
def f76 : Fn := ⟨4, 8, b76⟩
/-- 85: Schema.tables -/
def b85 : Cms := .cons (.ret (.blt .dict (.cons (.fld (.var 0) "width_table") .nil))) .nil
def f85 : Fn := ⟨1, 1, b85⟩
/-- 79: Schema.key_columns -/
def b79 : Cms := .cons (.ret (.blt .dict (.cons (.fld (.var 0) "key_table") .nil))) .nil
def f79 : Fn := ⟨1, 1, b79⟩
/-- 83: Schema.services -/
def b83 : Cms := .cons (.ret (.blt .dict (.cons (.fld (.var 0) "service_table") .nil))) .nil
def f83 : Fn := ⟨1, 1, b83⟩
end SL

set_option Elab.async false
set_option linter.all false
set_option maxRecDepth 100000
set_option autoImplicit false
set_option maxHeartbeats 1000000
/-! SLb: words, integers, columns. -/
namespace SL
open PySem G
/-- a thing that isinstance answers of -/
def Pl (s : S) : D → Prop
  | .ref n => (∃ ds, s[n]? = some (.lst ds)) ∨ ∃ kvs, s[n]? = some (.dct kvs)
  | _ => True
def wordB (x : Str) : Bool := decide (1 ≤ x.length ∧ x.length ≤ 8) && x.cps.toList.all fun c => decide (c ∈ letters.cps.toList)
def isWordD : D → Bool
  | .str x => wordB x
  | _ => false
def isS : D → Bool
  | .str _ => true
  | _ => false
def isB : D → Bool
  | .bl _ => true
  | _ => false
def isI : D → Bool
  | .int _ => true
  | .bl _ => true
  | _ => false
def isT : D → Bool
  | .tup _ => true
  | _ => false
def intOf : D → Bool
  | .int _ => true
  | _ => false
theorem isi_at {s : S} {d : D} (h : Pl s d) : isiD .str d s = .ok (isS d) s ∧ isiD .int d s = .ok (isI d) s ∧ isiD .bool d s = .ok (isB d) s ∧ isiD .tuple d s = .ok (isT d) s := by
  cases d <;> first
    | exact ⟨rfl, rfl, rfl, rfl⟩
    | (rcases h with ⟨ds, h⟩ | ⟨ds, h⟩ <;> simp only [isiD, h] <;> exact ⟨rfl, rfl, rfl, rfl⟩)
/-- what the program's and the laws' rules of words and integers need -/
structure B1 (Γ : Ga) : Prop where
  h374 : Γ.fns.lookup 374 = some f374
  h389 : Γ.fns.lookup 389 = some f389
  hl : Γ.consts.lookup 5 = some (.str letters)
theorem nin_sign {c : Nat} {s : S} : cmpD .nin (.str ⟨#[c]⟩) (.str letters) s = .ok (!decide (c ∈ letters.cps.toList)) s := rfl
theorem is_integer {Γ : Ga} (b : B1 Γ) {k : Nat} (hk : 1 ≤ k) {s : S} {d : D} (h : Pl s d) : (clF Γ k).call 374 [d] s = .ok (.bl (intOf d)) s := by
  obtain ⟨j, rfl, hj⟩ := lv hk
  refine call_rt b.h374 (τ := [some d]) rfl rfl (exs_ret ?_)
  obtain ⟨_, h1, h2, _⟩ := isi_at h
  simp only [evE, ev, plainT, List.getElem?_cons_zero, R.bind_ok, h1]
  cases d <;> first | rfl | (simp only [isI, R.bind_ok, h2]; rfl)
theorem chars_loop {cl : CL} {a : D} (hg : cl.glob 5 = some (.str letters)) : ∀ (x : List Nat) (b : Option D) (s : S) (X : Str),
    exs cl (.cons (.ret (.cst (.bl true))) .nil) [some a, b] s = .rt (.bl true) s →
    (forS (Src.vals (chars X)).ok (forB cl (.var 1) (.cons (.ite (.cmp .nin (.var 1) (.glob 5)) (.cons (.ret (.cst (.bl false))) .nil) (.nil)) .nil)) (x.map fun c => D.str ⟨#[c]⟩) [some a, b] s).bind (fun τ s => exs cl (.cons (.ret (.cst (.bl true))) .nil) τ s) = .rt (.bl (x.all fun c => decide (c ∈ letters.cps.toList))) s
  | [], b, s, X, h => by rw [List.map_nil, forS_nil trivial, SR.bind_nx]; exact h
  | c :: x, b, s, X, h => by
    rw [List.map_cons]
    have hc : evT cl (.cmp .nin (.var 1) (.glob 5)) [some a, some (.str ⟨#[c]⟩)] s = .ok (!decide (c ∈ letters.cps.toList)) s := by
      simp only [evT, ev, asB, plainT, List.getElem?_cons_succ, List.getElem?_cons_zero, R.bind_ok, hg]
      exact nin_sign
    by_cases hm : c ∈ letters.cps.toList
    · rw [forS_nx trivial (τ' := [some a, some (.str ⟨#[c]⟩)]) (s' := s)]
      · rw [chars_loop hg x _ s X rfl, List.all_cons, decide_eq_true hm, Bool.true_and]
      · rw [forB_var]
        refine (exs_skip ?_).trans rfl
        rw [decide_eq_true hm] at hc
        exact hc
    · rw [forS_rt trivial (x := .bl false) (s' := s)]
      · rw [SR.bind_rt, List.all_cons, decide_eq_false hm, Bool.false_and]
      · rw [forB_var]
        rw [decide_eq_false hm] at hc
        exact exs_in hc rfl
theorem is_word {Γ : Ga} (b : B1 Γ) {k : Nat} (hk : 1 ≤ k) {s : S} {d : D} (h : Pl s d) (hz : ∀ x, d = .str x → x.length ≤ 10000) : (clF Γ k).call 389 [d] s = .ok (.bl (isWordD d)) s := by
  obtain ⟨j, rfl, hj⟩ := lv hk
  have hi := (isi_at h).1
  refine call_rt b.h389 (τ := [some d, none]) rfl rfl ?_
  cases d with
  | str x =>
    have hx := hz x rfl
    have hc : evT (clF Γ j) (.or (.not (.isi (.var 0) .str)) (.not (.cmp2 .le .le (.cst (.int 1)) (.blt .len (.cons (.var 0) .nil)) (.cst (.int 8))))) [some (.str x), none] s = .ok (!decide (1 ≤ x.length ∧ x.length ≤ 8)) s := by
      simp only [evT, ev, evs, plainT, asB, List.getElem?_cons_zero, R.bind_ok, hi, isS, truD, Bool.not_true, Bool.false_eq_true, if_false, Cst.d, lenS (s := s) hx, cmpD, leD]
      by_cases h1 : 1 ≤ x.length
      · rw [decide_eq_true (by omega : (1 : Int) ≤ x.length), if_pos rfl]
        simp only [R.bind_ok]
        congr 1
        by_cases h2 : x.length ≤ 8
        · rw [decide_eq_true (by omega), decide_eq_true ⟨h1, h2⟩]
        · rw [decide_eq_false (by omega), decide_eq_false (fun z => h2 z.2)]
      · rw [decide_eq_false (by omega : ¬ (1 : Int) ≤ x.length), if_neg Bool.false_ne_true, decide_eq_false (fun z => h1 z.1)]
        rfl
    by_cases hl : 1 ≤ x.length ∧ x.length ≤ 8
    · rw [decide_eq_true hl] at hc
      refine (exs_skip hc).trans ?_
      have hw : isWordD (.str x) = x.cps.toList.all fun c => decide (c ∈ letters.cps.toList) := by simp only [isWordD, wordB, decide_eq_true hl, Bool.true_and]
      rw [hw]
      exact (chars_loop (cl := clF Γ j) b.hl x.cps.toList none s x rfl)
    · rw [decide_eq_false hl] at hc
      have hw : isWordD (.str x) = false := by simp only [isWordD, wordB, decide_eq_false hl, Bool.false_and]
      rw [hw]
      exact exs_in hc rfl
  | _ =>
    refine exs_in (s' := s) ?_ rfl
    simp only [evT, ev, plainT, List.getElem?_cons_zero, R.bind_ok, hi, isS, truD, Bool.not_false, if_true]

/-- column by column -/
def colsB : Int → Int → List D → Bool
  | _, _, [] => true
  | l, w, .int c :: ds => decide (l < c) && decide (c < w) && colsB c w ds
  | _, _, _ => false
def isColsD (d : D) (w : Int) : Bool := match d with
  | .tup ds => colsB (-1) w ds
  | _ => false
structure B2 (Γ : Ga) : Prop extends B1 Γ where
  h371 : Γ.fns.lookup 371 = some f371
theorem cols_loop {Γ : Ga} (b : B2 Γ) {k : Nat} (hk : 1 ≤ k) {a : D} {w : Int} {s : S} : ∀ (ds : List D) (l : Int) (x : Option D), (∀ d ∈ ds, Pl s d) →
    (forS (Src.vals ds).ok (forB (clF Γ k) (.var 3) (.cons (.ite (.or (.not (.call 374 (.cons (.var 3) .nil))) (.not (.cmp2 .lt .lt (.var 2) (.var 3) (.var 1)))) (.cons (.ret (.cst (.bl false))) .nil) (.nil))
      (.cons (.asg (.loc (.var 2)) (.var 3)) .nil))) ds [some a, some (.int w), some (.int l), x] s).bind (fun τ s => exs (clF Γ k) (.cons (.ret (.cst (.bl true))) .nil) τ s) = .rt (.bl (colsB l w ds)) s := by
  suffices h : ∀ (ds : List D) (ok : S → Prop) (_ : ∀ s, ok s) (l : Int) (x : Option D), (∀ d ∈ ds, Pl s d) →
    (forS ok (forB (clF Γ k) (.var 3) (.cons (.ite (.or (.not (.call 374 (.cons (.var 3) .nil))) (.not (.cmp2 .lt .lt (.var 2) (.var 3) (.var 1)))) (.cons (.ret (.cst (.bl false))) .nil) (.nil))
      (.cons (.asg (.loc (.var 2)) (.var 3)) .nil))) ds [some a, some (.int w), some (.int l), x] s).bind (fun τ s => exs (clF Γ k) (.cons (.ret (.cst (.bl true))) .nil) τ s) = .rt (.bl (colsB l w ds)) s from
    fun ds l x hd => h ds _ (fun _ => trivial) l x hd
  intro ds ok hok
  induction ds with
  | nil => intro l x _; rw [forS_nil (hok s), SR.bind_nx]; rfl
  | cons d ds ih =>
    intro l x hd
    have hi := is_integer b.toB1 hk (hd d (by simp))
    have hc : evT (clF Γ k) (.or (.not (.call 374 (.cons (.var 3) .nil))) (.not (.cmp2 .lt .lt (.var 2) (.var 3) (.var 1)))) [some a, some (.int w), some (.int l), some d] s = .ok (!colsB l w [d]) s := by
      simp only [evT, ev, evs, plainT, asB, List.getElem?_cons_zero, List.getElem?_cons_succ, R.bind_ok, hi, truD]
      cases d <;> first
        | rfl
        | (rename_i c
           simp only [intOf, Bool.not_true, Bool.false_eq_true, if_false, R.bind_ok, cmpD, ltD, colsB, Bool.and_true]
           by_cases h1 : l < c
           · rw [decide_eq_true h1, if_pos rfl]; rfl
           · rw [decide_eq_false h1, if_neg Bool.false_ne_true]; rfl)
    by_cases hq : colsB l w [d] = true
    · rw [hq] at hc
      obtain ⟨c, rfl, e⟩ : ∃ c, d = .int c ∧ colsB l w (.int c :: ds) = colsB c w ds := by
        cases d <;> first
          | (cases hq; done)
          | (rename_i c
             simp only [colsB, Bool.and_true] at hq
             exact ⟨c, rfl, by simp only [colsB, hq, Bool.true_and]⟩)
      rw [forS_nx (hok s) (τ' := [some a, some (.int w), some (.int c), some (.int c)]) (s' := s)]
      · rw [ih c _ fun z hz => hd z (by simp [hz]), e]
      · rw [forB_var]
        exact (exs_skip hc).trans (exs_asg rfl)
    · have hq : colsB l w [d] = false := by simpa using hq
      rw [hq] at hc
      rw [forS_rt (hok s) (x := .bl false) (s' := s)]
      · have e : colsB l w (d :: ds) = false := by
          cases d <;> first
            | rfl
            | (simp only [colsB, Bool.and_true] at hq; simp only [colsB, hq, Bool.false_and])
        rw [SR.bind_rt, e]
      · rw [forB_var]
        exact exs_in hc rfl
theorem is_columns {Γ : Ga} (b : B2 Γ) {k : Nat} (hk : 2 ≤ k) {s : S} {d : D} {w : Int} (h : Pl s d) (ht : ∀ ds, d = .tup ds → ∀ z ∈ ds, Pl s z) : (clF Γ k).call 371 [d, .int w] s = .ok (.bl (isColsD d w)) s := by
  obtain ⟨j, rfl, hj⟩ := lv hk
  have hi := (isi_at h).2.2.2
  refine call_rt b.h371 (τ := [some d, some (.int w), none, none]) rfl rfl ?_
  cases d with
  | tup ds =>
    refine (exs_skip (s' := s) ?_).trans ((exs_asg (d := .int (-1)) (s' := s) rfl).trans ?_)
    · simp only [evT, ev, plainT, List.getElem?_cons_zero, R.bind_ok, hi, isT, truD, Bool.not_true]
    · exact cols_loop b hj ds (-1) none (ht ds rfl)
  | _ =>
    refine exs_in (s' := s) ?_ rfl
    simp only [evT, ev, plainT, List.getElem?_cons_zero, R.bind_ok, hi, isT, truD, Bool.not_false, if_true]
end SL

set_option Elab.async false
set_option linter.all false
set_option maxRecDepth 100000
set_option autoImplicit false
set_option maxHeartbeats 1000000
/-! SLc: services, one by one. -/
namespace SL
open PySem L2 G
section
variable {s : S} {n : Nat} {kvs : List (Key × D)} {x : Str} {d : D}
theorem dctAt_at (h : s[n]? = some (.dct kvs)) : dctAt s n = some kvs := by unfold dctAt; rw [h]
theorem nin_dct (h : s[n]? = some (.dct kvs)) : cmpD .nin (.str x) (.ref n) s = .ok (!(getK kvs (.inr x)).isSome) s := by
  simp only [cmpD, inD, h, keyD, R.bind_ok]
theorem inn_dct (h : s[n]? = some (.dct kvs)) : cmpD .inn (.str x) (.ref n) s = .ok (getK kvs (.inr x)).isSome s := by
  simp only [cmpD, inD, h, keyD]
theorem ix_dct (h : s[n]? = some (.dct kvs)) (e : getK kvs (.inr x) = some d) : ixD (.ref n) (.str x) s = .ok d s := by
  simp only [ixD, dctAt_at h, keyD, Option.bind_some, e]
theorem len_dct (h : s[n]? = some (.dct kvs)) : bltD .len [.ref n] s = .ok (.int kvs.length) s := by
  simp only [bltD, dctOf, dctAt_at h]
theorem neI {i j : Int} : cmpD .ne (.int i) (.int j) s = .ok (!(i == j)) s := by
  have := eqI (s := s) (i := i) (j := j)
  simp only [cmpD] at this ⊢
  rw [this]; rfl
end
/-- a cap -/
def isCapD : D → Bool
  | .non => true
  | .int c => decide (1 ≤ c) && decide (c ≤ 4)
  | _ => false
def isServD (ts : List (Key × D)) : D → Bool
  | .tup [.str t, g, c] => wordB t && (match getK ts (.inr t) with
    | some (.int w) => isColsD g w && isCapD c
    | _ => false)
  | _ => false
/-- what may stand at a service's place -/
def SvOk (s : S) (d : D) : Prop := Pl s d ∧ ∀ ds, d = .tup ds → ∀ z ∈ ds, Pl s z ∧ (∀ x, z = .str x → x.length ≤ 10000) ∧ ∀ es, z = .tup es → ∀ y ∈ es, Pl s y
def TbOk (ts : List (Key × D)) : Prop := ∀ k v, getK ts k = some v → ∃ w, v = .int w
structure B3 (Γ : Ga) : Prop extends B2 Γ where
  h381 : Γ.fns.lookup 381 = some f381
theorem cap_ok {Γ : Ga} (b : B1 Γ) {k : Nat} (hk : 1 ≤ k) {s : S} {τ : Fr} {c : D} (hc : τ[4]? = some (some c)) (h : Pl s c) :
    evE (clF Γ k) (.or (.cmp .isn (.var 4) (.cst .non)) (.and (.call 374 (.cons (.var 4) .nil)) (.cmp2 .le .le (.cst (.int 1)) (.var 4) (.cst (.int 4))))) τ s = .ok (.bl (isCapD c)) s := by
  have hi := is_integer b hk h
  have e1 : cmpD .isn c .non s = .ok c.isNon s := rfl
  simp only [evE, ev, evs, plainT, asB, hc, R.bind_ok, Cst.d, e1]
  cases c <;> first
    | rfl
    | (simp only [D.isNon, R.bind_ok, hi, intOf]; rfl)
    | (rename_i c
       simp only [D.isNon, R.bind_ok, hi, intOf, cmpD, leD, isCapD]
       by_cases h1 : 1 ≤ c
       · rw [decide_eq_true h1, if_pos rfl]; rfl
       · rw [decide_eq_false h1, if_neg Bool.false_ne_true]; rfl)
theorem is_service {Γ : Ga} (b : B3 Γ) {k : Nat} (hk : 3 ≤ k) {s : S} {m : Nat} {ts : List (Key × D)} {d : D} (hm : s[m]? = some (.dct ts)) (ht : TbOk ts) (h : SvOk s d) : (clF Γ k).call 381 [.ref m, d] s = .ok (.bl (isServD ts d)) s := by
  obtain ⟨j, rfl, hj⟩ := lv hk
  have hi := (isi_at h.1).2.2.2
  refine call_rt b.h381 (τ := [some (.ref m), some d, none, none, none]) rfl rfl ?_
  cases d with
  | tup ds =>
    have hc : evT (clF Γ j) (.or (.not (.isi (.var 1) .tuple)) (.cmp .ne (.blt .len (.cons (.var 1) .nil)) (.cst (.int 3)))) [some (.ref m), some (.tup ds), none, none, none] s = .ok (!((ds.length : Int) == 3)) s := by
      have e2 : bltD .len [.tup ds] s = .ok (.int ds.length) s := rfl
      simp only [evT, ev, evs, plainT, asB, List.getElem?_cons_zero, List.getElem?_cons_succ, R.bind_ok, hi, isT, truD, Bool.not_true, Bool.false_eq_true, if_false, e2, Cst.d, neI]
    match ds, h, hi, hc with
    | [t, g, c], h, hi, hc =>
      refine (exs_skip (s' := s) hc).trans ?_
      refine (exs_nx (τ' := [some (.ref m), some (.tup [t, g, c]), some t, some g, some c]) (s' := s) rfl).trans ?_
      obtain ⟨t1, t2, _⟩ := h.2 _ rfl t (by simp)
      obtain ⟨g1, _, g3⟩ := h.2 _ rfl g (by simp)
      obtain ⟨c1, _, _⟩ := h.2 _ rfl c (by simp)
      have w1 := is_word b.toB1 (k := j) (by omega) t1 t2
      have no : isWordD t = false → exs (clF Γ j) (.cons (.ite (.or (.not (.call 389 (.cons (.var 2) .nil))) (.or (.cmp .nin (.var 2) (.var 0)) (.not (.call 371 (.cons (.var 3) (.cons (.ix (.var 0) (.var 2)) .nil)))))) (.cons (.ret (.cst (.bl false))) .nil) (.nil))
          (.cons (.ret (.or (.cmp .isn (.var 4) (.cst .non)) (.and (.call 374 (.cons (.var 4) .nil)) (.cmp2 .le .le (.cst (.int 1)) (.var 4) (.cst (.int 4)))))) .nil)) [some (.ref m), some (.tup [t, g, c]), some t, some g, some c] s = .rt (.bl false) s := fun hw => by
        refine exs_in (s' := s) ?_ rfl
        simp only [evT, ev, evs, plainT, asB, List.getElem?_cons_zero, List.getElem?_cons_succ, R.bind_ok, w1, truD, hw, Bool.not_false, if_true]
      cases t with
      | str x =>
        by_cases hw : wordB x = true
        · cases hg : getK ts (.inr x) with
          | none =>
            have e : isServD ts (.tup [.str x, g, c]) = false := by simp only [isServD, hg, Bool.and_false]
            rw [e]
            refine exs_in (s' := s) ?_ rfl
            simp only [evT, ev, evs, plainT, asB, List.getElem?_cons_zero, List.getElem?_cons_succ, R.bind_ok, w1, truD, isWordD, hw, Bool.not_true, Bool.false_eq_true, if_false, nin_dct hm, hg, Option.isSome_none, Bool.not_false, if_true]
          | some v =>
            obtain ⟨w, rfl⟩ := ht _ _ hg
            have hcl := is_columns b.toB2 (k := j) hj g1 (w := w) g3
            have e : isServD ts (.tup [.str x, g, c]) = (isColsD g w && isCapD c) := by simp only [isServD, hg, hw, Bool.true_and]
            rw [e]
            have hcond : evT (clF Γ j) (.or (.not (.call 389 (.cons (.var 2) .nil))) (.or (.cmp .nin (.var 2) (.var 0)) (.not (.call 371 (.cons (.var 3) (.cons (.ix (.var 0) (.var 2)) .nil)))))) [some (.ref m), some (.tup [.str x, g, c]), some (.str x), some g, some c] s = .ok (!isColsD g w) s := by
              simp only [evT, ev, evs, plainT, asB, List.getElem?_cons_zero, List.getElem?_cons_succ, R.bind_ok, w1, truD, isWordD, hw, Bool.not_true, Bool.false_eq_true, if_false, nin_dct hm, hg, Option.isSome_some, ix_dct hm hg, hcl]
            cases hq : isColsD g w with
            | true =>
              rw [hq] at hcond
              refine (exs_skip hcond).trans (exs_ret ?_)
              rw [Bool.true_and]
              exact cap_ok b.toB1 (by omega) rfl c1
            | false =>
              rw [hq] at hcond
              rw [Bool.false_and]
              exact exs_in hcond rfl
        · have hw : wordB x = false := by simpa using hw
          have e : isServD ts (.tup [.str x, g, c]) = false := by simp only [isServD, hw, Bool.false_and]
          rw [e]
          exact no hw
      | _ => exact no rfl
    | [], h, hi, hc => exact exs_in hc rfl
    | [a], h, hi, hc =>
      rw [show isServD ts (.tup [a]) = false by unfold isServD; split <;> first | rfl | (rename_i q; cases q)]
      exact exs_in hc rfl
    | [a, b2], h, hi, hc =>
      rw [show isServD ts (.tup [a, b2]) = false by unfold isServD; split <;> first | rfl | (rename_i q; cases q)]
      exact exs_in hc rfl
    | a :: b2 :: c :: e :: r, h, hi, hc =>
      have : ((((a :: b2 :: c :: e :: r).length : Nat) : Int) == 3) = false := by simp; omega
      rw [this] at hc
      have e2 : isServD ts (.tup (a :: b2 :: c :: e :: r)) = false := by
        unfold isServD
        split
        · rename_i q; cases q
        · rfl
      rw [e2]
      exact exs_in hc rfl
  | _ =>
    refine exs_in (s' := s) ?_ rfl
    simp only [evT, ev, evs, plainT, asB, List.getElem?_cons_zero, List.getElem?_cons_succ, R.bind_ok, hi, isT, truD, Bool.not_false, if_true]
end SL

set_option Elab.async false
set_option linter.all false
set_option maxRecDepth 100000
set_option autoImplicit false
set_option maxHeartbeats 1000000
/-! SLd: the tables checked. -/
namespace SL
open PySem L2 G
/-- the store has only grown -/
def Gro (s s' : S) : Prop := ∃ l, s' = s ++ l
theorem Gro.refl (s : S) : Gro s s := ⟨[], by simp⟩
theorem Gro.trans {a b c : S} (h : Gro a b) (g : Gro b c) : Gro a c := by
  obtain ⟨l, rfl⟩ := h
  obtain ⟨r, rfl⟩ := g
  exact ⟨l ++ r, by simp⟩
theorem Gro.at {s s' : S} (h : Gro s s') {n : Nat} {o : O} (e : s[n]? = some o) : s'[n]? = some o := by
  obtain ⟨l, rfl⟩ := h
  rw [List.getElem?_append_left (List.getElem?_eq_some_iff.mp e).1]; exact e
theorem Gro.new (s : S) (o : O) : Gro s (s ++ [o]) := ⟨[o], rfl⟩
theorem Pl.mono {s s' : S} (h : Gro s s') {d : D} (p : Pl s d) : Pl s' d := by
  cases d <;> first
    | trivial
    | exact p.imp (fun ⟨ds, e⟩ => ⟨ds, h.at e⟩) fun ⟨ds, e⟩ => ⟨ds, h.at e⟩
/-- a dict whose keys are texts -/
def DK (ts : List (Str × D)) : List (Key × D) := ts.map fun p => (.inr p.1, p.2)
theorem getK_DK (ts : List (Str × D)) (x : Str) : getK (DK ts) (.inr x) = getK ts x := by
  unfold getK DK
  induction ts with
  | nil => rfl
  | cons p ts ih =>
    simp only [List.map_cons, List.find?_cons]
    by_cases e : p.1 = x
    · have e2 : (Sum.inr p.1 : Key) = Sum.inr x := by rw [e]
      simp only [decide_eq_true e, decide_eq_true e2, Option.map_some]
    · have e2 : ¬ (Sum.inr p.1 : Key) = Sum.inr x := fun z => e (Sum.inr.inj z)
      simp only [decide_eq_false e, decide_eq_false e2]
      exact ih
theorem getK_mem {ts : List (Str × D)} {x : Str} (h : x ∈ ts.map (·.1)) : ∃ d, getK ts x = some d ∧ (x, d) ∈ ts := by
  induction ts with
  | nil => cases h
  | cons p ts ih =>
    unfold getK at ih ⊢
    by_cases e : p.1 = x
    · exact ⟨p.2, by simp [List.find?_cons, e], by rw [← e]; simp⟩
    · obtain ⟨d, h1, h2⟩ := ih (by
        rcases List.mem_cons.mp h with z | z
        · exact absurd z.symm e
        · exact z)
      exact ⟨d, by simp only [List.find?_cons, decide_eq_false e]; exact h1, by simp [h2]⟩
theorem list_dct {s : S} {n : Nat} {ts : List (Str × D)} (h : s[n]? = some (.dct (DK ts))) : bltD .list [.ref n] s = .ok (.ref s.length) (s ++ [.lst ((ts.map (·.1)).map .str)]) := by
  have e : (DK ts).map (fun p => dKey p.1) = (ts.map (·.1)).map D.str := by
    unfold DK
    rw [List.map_map, List.map_map]
    rfl
  simp only [bltD, dctOf, dctAt_at h, new, e]
theorem strsOf_map : ∀ ys : List Str, strsOf (ys.map .str) = some ys
  | [] => rfl
  | y :: ys => by simp only [List.map_cons, strsOf, strsOf_map ys, Option.map_some]
theorem sorted_lst {s : S} {n : Nat} {ys : List Str} (h : s[n]? = some (.lst (ys.map .str))) (hl : ys.length < 64) : bltD .sorted [.ref n] s = .ok (.ref s.length) (s ++ [.lst ((sortT ys).map .str)]) := by
  simp only [bltD, lstAt_of h, Option.bind_some, strsOf_map, if_pos hl, new]
theorem mem_sortT {ys : List Str} {x : Str} : x ∈ sortT ys ↔ x ∈ ys := (List.mergeSort_perm ys leT).mem_iff
/-- sorted(list(d)) -/
theorem names_of {cl : CL} {τ : Fr} {s : S} {i n : Nat} {ts : List (Str × D)} (hi : τ[i]? = some (some (.ref n))) (h : s[n]? = some (.dct (DK ts))) (hl : ts.length < 64) :
    ∃ m s', Gro s s' ∧ s'[m]? = some (.lst ((sortT (ts.map (·.1))).map .str)) ∧ evs cl (.cons (.blt .sorted (.cons (.blt .list (.cons (.var i) .nil)) .nil)) .nil) τ s = .ok [.ref m] s' := by
  refine ⟨_, _, (Gro.new s (.lst ((ts.map (·.1)).map .str))).trans (Gro.new _ (.lst ((sortT (ts.map (·.1))).map .str))), new_at, ?_⟩
  simp only [evs, ev, plainT, hi, R.bind_ok, list_dct h, sorted_lst (ys := ts.map (·.1)) new_at (by simpa using hl)]
def widB : D → Bool
  | .int w => decide (1 ≤ w) && decide (w ≤ 4)
  | _ => false
/-- a table's name that is refused -/
def badT (ts : List (Str × D)) (x : Str) : Bool := !(wordB x && (match getK ts x with
  | some d => widB d
  | none => false))
def faultT (ts : List (Str × D)) : Option D := if 1 ≤ ts.length ∧ ts.length ≤ 5 then ((sortT (ts.map (·.1))).find? (badT ts)).map .str else some .non
def refuse (part : Str) (s : S) : Option D → R D
  | none => .ok .non s
  | some d => .exc "InvalidSchema" [("name", d), ("part", .str part)] s
structure B4 (Γ : Ga) : Prop extends B3 Γ where
  h355 : Γ.fns.lookup 355 = some f355
  he : ∃ sp, Γ.ecl.lookup ("InvalidSchema" : Str) = some ⟨["part", "name"], sp⟩
theorem rse_is {Γ : Ga} (b : B4 Γ) {k : Nat} {τ : Fr} {s : S} {part : Str} {e : Ex} {d : D} {cs : Cms} (h : evE (clF Γ k) e τ s = .ok d s) :
    exs (clF Γ k) (.cons (.rse "InvalidSchema" (.cons (.cst (.str part)) (.cons e .nil))) cs) τ s = .exc τ "InvalidSchema" [("name", d), ("part", .str part)] s := by
  obtain ⟨sp, he⟩ := b.he
  have he : (clF Γ k).ecl "InvalidSchema" = some ⟨["part", "name"], sp⟩ := he
  have h : (ev (clF Γ k) e).1 τ s = .ok d s := h
  simp only [exs, ex, he, evs, ev, plainT, R.bind_ok, Cst.d, h, R.toS_ok, List.length_cons, List.length_nil, if_true, SR.bind_exc]
  rfl
theorem wid_ok {Γ : Ga} (b : B1 Γ) {k : Nat} (hk : 1 ≤ k) {s : S} {τ : Fr} {x : Str} {d : D} (h1 : τ[1]? = some (some (.str x))) (h2 : τ[2]? = some (some d)) (hp : Pl s d) (hx : x.length ≤ 10000) :
    evT (clF Γ k) (.or (.not (.call 389 (.cons (.var 1) .nil))) (.or (.not (.call 374 (.cons (.var 2) .nil))) (.not (.cmp2 .le .le (.cst (.int 1)) (.var 2) (.cst (.int 4)))))) τ s = .ok (!(wordB x && widB d)) s := by
  have w1 := is_word b hk (s := s) (d := .str x) trivial (fun y e => by cases e; exact hx)
  have i1 := is_integer b hk hp
  simp only [evT, ev, evs, plainT, asB, h1, h2, R.bind_ok, w1, truD, isWordD]
  cases wordB x with
  | false => rfl
  | true =>
    simp only [Bool.not_true, Bool.false_eq_true, if_false, i1, R.bind_ok, truD, Bool.true_and]
    cases d <;> first
      | rfl
      | (rename_i w
         simp only [intOf, Bool.not_true, Bool.false_eq_true, if_false, Cst.d, R.bind_ok, cmpD, leD, widB]
         by_cases q : 1 ≤ w
         · rw [decide_eq_true q, if_pos rfl]; rfl
         · rw [decide_eq_false q, if_neg Bool.false_ne_true]; rfl)
end SL
namespace SL
open PySem L2 G
theorem forS_exc {ok : S → Prop} {g : D → Fr → S → SR} {d : D} {ds : List D} {τ τ' : Fr} {s s' : S} {c : Str} {fs : List (Str × D)} (h : ok s) (e : g d τ s = .exc τ' c fs s') : forS ok g (d :: ds) τ s = .exc τ' c fs s' := by
  unfold forS
  rw [if_pos h, e]
/-- a loop over names that refuses the first bad one -/
def lpEnd (part : Str) (τ : Fr) (s : S) : Option Str → SR
  | none => .nx τ s
  | some y => .exc τ "InvalidSchema" [("name", .str y), ("part", .str part)] s
theorem loop_names {ok : S → Prop} {g : D → Fr → S → SR} {s : S} {part : Str} {bad : Str → Bool} {I : Fr → Prop} {P : Str → Prop} (hok : ok s) (step : ∀ (y : Str) (τ : Fr), P y → I τ → ∃ τ', I τ' ∧ g (.str y) τ s = lpEnd part τ' s (if bad y = true then some y else none)) :
    ∀ (ys : List Str) (τ : Fr), (∀ y ∈ ys, P y) → I τ → ∃ τ', I τ' ∧ forS ok g (ys.map .str) τ s = lpEnd part τ' s (ys.find? bad)
  | [], τ, _, h => ⟨τ, h, by rw [List.map_nil, forS_nil hok]; rfl⟩
  | y :: ys, τ, hp, h => by
    obtain ⟨τ1, i1, e1⟩ := step y τ (hp y (by simp)) h
    rw [List.map_cons, List.find?_cons]
    cases hb : bad y with
    | true =>
      rw [hb, if_pos rfl] at e1
      exact ⟨τ1, i1, by rw [forS_exc hok e1]; rfl⟩
    | false =>
      rw [hb, if_neg Bool.false_ne_true] at e1
      obtain ⟨τ2, i2, e2⟩ := loop_names hok step ys τ1 (fun z hz => hp z (by simp [hz])) i1
      exact ⟨τ2, i2, by rw [forS_nx hok e1]; exact e2⟩
theorem call_nx {Γ : Ga} {k f : Nat} {fn : Fn} {ds : List D} {s s' : S} {τ τ' : Fr} (h : Γ.fns.lookup f = some fn) (hl : ds.length = fn.np) (hτ : ds.map some ++ List.replicate (fn.nl - fn.np) none = τ) (hb : exs (clF Γ k) fn.body τ s = .nx τ' s') : (clF Γ (k + 1)).call f ds s = .ok .non s' :=
  (call_of h ds s).trans (run_nx hl (by rw [hτ]; exact hb))
theorem call_ex {Γ : Ga} {k f : Nat} {fn : Fn} {ds : List D} {s s' : S} {τ τ' : Fr} {c : Str} {fs : List (Str × D)} (h : Γ.fns.lookup f = some fn) (hl : ds.length = fn.np) (hτ : ds.map some ++ List.replicate (fn.nl - fn.np) none = τ) (hb : exs (clF Γ k) fn.body τ s = .exc τ' c fs s') : (clF Γ (k + 1)).call f ds s = .exc c fs s' :=
  (call_of h ds s).trans (by unfold runFn; rw [if_pos hl, hτ, hb])
/-- a dict of things that the checks may look at -/
def Vals (s : S) (ts : List (Str × D)) : Prop := ts.length < 64 ∧ ∀ p ∈ ts, p.1.length ≤ 10000 ∧ Pl s p.2
theorem check_tables {Γ : Ga} (b : B4 Γ) {k : Nat} (hk : 2 ≤ k) {s : S} {n : Nat} {ts : List (Str × D)} (hn : s[n]? = some (.dct (DK ts))) (hv : Vals s ts) : ∃ s', Gro s s' ∧ (clF Γ k).call 355 [.ref n] s = refuse "tables" s' (faultT ts) := by
  obtain ⟨j, rfl, hj⟩ := lv hk
  have hlen : bltD .len [.ref n] s = .ok (.int ts.length) s := by rw [len_dct hn]; simp [DK]
  have hc : evT (clF Γ j) (.not (.cmp2 .le .le (.cst (.int 1)) (.blt .len (.cons (.var 0) .nil)) (.cst (.int 5)))) [some (.ref n), none, none] s = .ok (!decide (1 ≤ ts.length ∧ ts.length ≤ 5)) s := by
    simp only [evT, ev, evs, plainT, asB, List.getElem?_cons_zero, R.bind_ok, hlen, Cst.d, cmpD, leD]
    by_cases q : 1 ≤ ts.length
    · rw [decide_eq_true (by omega : (1 : Int) ≤ ts.length), if_pos rfl]
      by_cases q2 : ts.length ≤ 5
      · rw [decide_eq_true (by omega : (ts.length : Int) ≤ 5), decide_eq_true ⟨q, q2⟩]; rfl
      · rw [decide_eq_false (by omega : ¬ (ts.length : Int) ≤ 5), decide_eq_false (fun z => q2 z.2)]; rfl
    · rw [decide_eq_false (by omega : ¬ (1 : Int) ≤ ts.length), if_neg Bool.false_ne_true, decide_eq_false (fun z => q z.1)]; rfl
  by_cases hl : 1 ≤ ts.length ∧ ts.length ≤ 5
  · rw [decide_eq_true hl] at hc
    obtain ⟨m, s1, g1, e1, e2⟩ := names_of (cl := clF Γ j) (τ := [some (.ref n), none, none]) (i := 0) rfl hn hv.1
    have hn1 := g1.at hn
    obtain ⟨τ', _, e3⟩ := loop_names (ok := (Src.lst m ((sortT (ts.map (·.1))).map .str)).ok) (s := s1) (part := "tables") (bad := badT ts) (I := fun τ => ∃ a c, τ = [some (.ref n), a, c]) (P := fun y => y ∈ ts.map (·.1))
      (g := forB (clF Γ j) (.var 1) (.cons (.asg (.loc (.var 2)) (.ix (.var 0) (.var 1))) (.cons (.ite (.or (.not (.call 389 (.cons (.var 1) .nil))) (.or (.not (.call 374 (.cons (.var 2) .nil))) (.not (.cmp2 .le .le (.cst (.int 1)) (.var 2) (.cst (.int 4)))))) (.cons (.rse "InvalidSchema" (.cons (.cst (.str "tables")) (.cons (.var 1) .nil))) .nil) (.nil)) .nil)))
      (lstAt_of e1) (fun y τ hy ⟨a, c, hτ⟩ => by
        subst hτ
        obtain ⟨d, hd, hmem⟩ := getK_mem hy
        obtain ⟨hz, hp⟩ := hv.2 _ hmem
        have w := wid_ok b.toB1 (k := j) (by omega) (s := s1) (τ := [some (.ref n), some (.str y), some d]) rfl rfl (hp.mono g1) hz
        have eb : badT ts y = !(wordB y && widB d) := by simp only [badT, hd]
        refine ⟨[some (.ref n), some (.str y), some d], ⟨_, _, rfl⟩, ?_⟩
        rw [forB_var, eb]
        refine (exs_asg (d := d) (s' := s1) ?_).trans ?_
        · have := ix_dct hn1 (by rw [getK_DK]; exact hd)
          simp only [evE, ev, plainT, List.set_cons_succ, List.set_cons_zero, List.getElem?_cons_zero, List.getElem?_cons_succ, R.bind_ok, this]
        · show exs _ _ [some (.ref n), some (.str y), some d] s1 = _
          cases hq : wordB y && widB d with
          | true =>
            rw [hq] at w
            exact (exs_skip w).trans rfl
          | false =>
            rw [hq] at w
            rw [exs, ite_t w, rse_is b (d := .str y) rfl]
            rfl) _ _ (fun y hy => mem_sortT.mp hy) ⟨none, none, rfl⟩
    refine ⟨s1, g1, ?_⟩
    have hb : exs (clF Γ j) b355 [some (.ref n), none, none] s = lpEnd "tables" τ' s1 ((sortT (ts.map (·.1))).find? (badT ts)) := by
      refine (exs_skip hc).trans ?_
      rw [exs, ex_for e2 (src := .lst m ((sortT (ts.map (·.1))).map .str)) (by simp only [srcOf, lstAt_of e1, Option.map_some])]
      show (forS _ _ ((sortT (ts.map (·.1))).map D.str) _ _).bind _ = _
      rw [e3]
      cases (sortT (ts.map (·.1))).find? (badT ts) <;> rfl
    unfold faultT
    rw [if_pos hl]
    revert hb
    cases (sortT (ts.map (·.1))).find? (badT ts) with
    | none => exact fun hb => call_nx b.h355 rfl rfl hb
    | some y => exact fun hb => call_ex b.h355 rfl rfl hb
  · rw [decide_eq_false hl] at hc
    refine ⟨s, Gro.refl s, ?_⟩
    unfold faultT
    rw [if_neg hl]
    refine call_ex b.h355 rfl rfl (τ' := [some (.ref n), none, none]) ?_
    show exs (clF Γ j) b355 [some (.ref n), none, none] s = _
    unfold b355
    rw [exs, ite_t hc, rse_is b (d := .non) rfl]
    rfl
end SL

set_option Elab.async false
set_option linter.all false
set_option maxRecDepth 100000
set_option autoImplicit false
set_option maxHeartbeats 1000000
/-! SLe: keys and services checked. -/
namespace SL
open PySem L2 G
def keyB (w : Int) : D → Bool
  | .tup ds => colsB (-1) w ds && (decide (1 ≤ ds.length) && decide ((ds.length : Int) < w))
  | _ => false
def badK (ts ks : List (Str × D)) (x : Str) : Bool := !(match getK ts x, getK ks x with
  | some (.int w), some d => keyB w d
  | _, _ => false)
def faultK (ts ks : List (Str × D)) : Option D := ((sortT (ks.map (·.1))).find? (badK ts ks)).map .str
/-- the tables are as they must be -/
def TOk (ts : List (Str × D)) : Prop := ∀ x d, getK ts x = some d → ∃ w, d = .int w
theorem TOk.tb {ts : List (Str × D)} (h : TOk ts) : TbOk (DK ts) := by
  intro k v e
  cases k with
  | inr x => rw [getK_DK] at e; exact h x v e
  | inl i =>
    exfalso
    unfold getK DK at e
    have : (ts.map fun p => ((Sum.inr p.1 : Key), p.2)).find? (fun p => decide (p.1 = Sum.inl i)) = none := by
      rw [List.find?_eq_none]
      intro p hp
      obtain ⟨q, _, rfl⟩ := List.mem_map.mp hp
      simp
    rw [this] at e
    cases e
/-- values whose parts may be looked at -/
def Vals2 (s : S) (ks : List (Str × D)) : Prop := ks.length < 64 ∧ ∀ p ∈ ks, p.1.length ≤ 10000 ∧ SvOk s p.2
theorem SvOk.mono {s s' : S} (h : Gro s s') {d : D} (p : SvOk s d) : SvOk s' d :=
  ⟨p.1.mono h, fun ds e z hz => let ⟨a, b, c⟩ := p.2 ds e z hz; ⟨a.mono h, b, fun es e2 y hy => (c es e2 y hy).mono h⟩⟩
structure B5 (Γ : Ga) : Prop extends B4 Γ where
  h349 : Γ.fns.lookup 349 = some f349
theorem lenT {ds : List D} {s : S} : bltD .len [.tup ds] s = .ok (.int ds.length) s := rfl
theorem check_keys {Γ : Ga} (b : B5 Γ) {k : Nat} (hk : 3 ≤ k) {s : S} {n m : Nat} {ts ks : List (Str × D)} (hn : s[n]? = some (.dct (DK ts))) (hm : s[m]? = some (.dct (DK ks))) (ht : TOk ts) (hv : Vals2 s ks) : ∃ s', Gro s s' ∧ (clF Γ k).call 349 [.ref n, .ref m] s = refuse "keys" s' (faultK ts ks) := by
  obtain ⟨j, rfl, hj⟩ := lv hk
  obtain ⟨l, s1, g1, e1, e2⟩ := names_of (cl := clF Γ j) (τ := [some (.ref n), some (.ref m), none]) (i := 1) rfl hm hv.1
  have hn1 := g1.at hn
  have hm1 := g1.at hm
  obtain ⟨τ', _, e3⟩ := loop_names (ok := (Src.lst l ((sortT (ks.map (·.1))).map .str)).ok) (s := s1) (part := "keys") (bad := badK ts ks) (I := fun τ => ∃ a, τ = [some (.ref n), some (.ref m), a]) (P := fun y => y ∈ ks.map (·.1))
    (g := forB (clF Γ j) (.var 2) (.cons (.ite (.or (.cmp .nin (.var 2) (.var 0)) (.not (.call 371 (.cons (.ix (.var 1) (.var 2)) (.cons (.ix (.var 0) (.var 2)) .nil))))) (.cons (.rse "InvalidSchema" (.cons (.cst (.str "keys")) (.cons (.var 2) .nil))) .nil) (.nil))
      (.cons (.ite (.not (.cmp2 .le .lt (.cst (.int 1)) (.blt .len (.cons (.ix (.var 1) (.var 2)) .nil)) (.ix (.var 0) (.var 2)))) (.cons (.rse "InvalidSchema" (.cons (.cst (.str "keys")) (.cons (.var 2) .nil))) .nil) (.nil)) .nil)))
    (lstAt_of e1) (fun y τ hy ⟨a, hτ⟩ => by
      subst hτ
      obtain ⟨d, hd, hmem⟩ := getK_mem hy
      obtain ⟨hz, hp⟩ := hv.2 _ hmem
      have hp := hp.mono g1
      refine ⟨[some (.ref n), some (.ref m), some (.str y)], ⟨_, rfl⟩, ?_⟩
      rw [forB_var]
      show exs _ _ [some (.ref n), some (.ref m), some (.str y)] s1 = _
      have ik := ix_dct hm1 (x := y) (by rw [getK_DK]; exact hd)
      have nn := nin_dct (x := y) hn1
      rw [getK_DK] at nn
      have stop : ∀ {c : Ex} {cs : Cms}, evT (clF Γ j) c [some (.ref n), some (.ref m), some (.str y)] s1 = .ok true s1 → exs (clF Γ j) (.cons (.ite c (.cons (.rse "InvalidSchema" (.cons (.cst (.str "keys")) (.cons (.var 2) .nil))) .nil) (.nil)) cs) [some (.ref n), some (.ref m), some (.str y)] s1 = lpEnd "keys" [some (.ref n), some (.ref m), some (.str y)] s1 (some y) := fun h => by
        rw [exs, ite_t h, rse_is b.toB4 (d := .str y) rfl]
        rfl
      cases ht' : getK ts y with
      | none =>
        have eb : badK ts ks y = true := by simp only [badK, ht', Bool.not_false]
        rw [eb, if_pos rfl]
        refine stop ?_
        simp only [evT, ev, evs, plainT, asB, List.getElem?_cons_zero, List.getElem?_cons_succ, R.bind_ok, nn, ht', Option.isSome_none, Bool.not_false, if_true]
      | some v =>
        obtain ⟨w, rfl⟩ := ht _ _ ht'
        have it := ix_dct hn1 (x := y) (by rw [getK_DK]; exact ht')
        have ic := is_columns b.toB2 (k := j) hj hp.1 (w := w) (fun ds e z hz => (hp.2 ds e z hz).1)
        have c1 : evT (clF Γ j) (.or (.cmp .nin (.var 2) (.var 0)) (.not (.call 371 (.cons (.ix (.var 1) (.var 2)) (.cons (.ix (.var 0) (.var 2)) .nil))))) [some (.ref n), some (.ref m), some (.str y)] s1 = .ok (!isColsD d w) s1 := by
          simp only [evT, ev, evs, plainT, asB, List.getElem?_cons_zero, List.getElem?_cons_succ, R.bind_ok, nn, ht', Option.isSome_some, Bool.not_true, Bool.false_eq_true, if_false, ik, it, ic, truD]
        have eb : badK ts ks y = !keyB w d := by simp only [badK, ht', hd]
        rw [eb]
        cases hq : isColsD d w with
        | false =>
          have : keyB w d = false := by
            cases d <;> first
              | rfl
              | (simp only [isColsD] at hq; simp only [keyB, hq, Bool.false_and])
          rw [this]
          rw [hq] at c1
          exact stop c1
        | true =>
          rw [hq] at c1
          refine (exs_skip c1).trans ?_
          obtain ⟨ds, rfl, hq3⟩ : ∃ ds, d = .tup ds ∧ colsB (-1) w ds = true := by
            clear hp hmem hd ik ic c1 eb
            cases d <;> first
              | (cases hq; done)
              | exact ⟨_, rfl, hq⟩
          have c2 : evT (clF Γ j) (.not (.cmp2 .le .lt (.cst (.int 1)) (.blt .len (.cons (.ix (.var 1) (.var 2)) .nil)) (.ix (.var 0) (.var 2)))) [some (.ref n), some (.ref m), some (.str y)] s1 = .ok (!(decide (1 ≤ ds.length) && decide ((ds.length : Int) < w))) s1 := by
            simp only [evT, ev, evs, plainT, asB, List.getElem?_cons_zero, List.getElem?_cons_succ, R.bind_ok, ik, it, lenT, Cst.d, cmpD, leD, ltD]
            by_cases q : 1 ≤ ds.length
            · rw [decide_eq_true (by omega : (1 : Int) ≤ ds.length), if_pos rfl, decide_eq_true q]; rfl
            · rw [decide_eq_false (by omega : ¬ (1 : Int) ≤ ds.length), if_neg Bool.false_ne_true, decide_eq_false q]; rfl
          have e : keyB w (.tup ds) = (decide (1 ≤ ds.length) && decide ((ds.length : Int) < w)) := by show (colsB (-1) w ds && _) = _; rw [hq3, Bool.true_and]
          rw [e]
          cases hq2 : decide (1 ≤ ds.length) && decide ((ds.length : Int) < w) with
          | true => rw [hq2] at c2; exact (exs_skip c2).trans rfl
          | false => rw [hq2] at c2; exact stop c2) _ _ (fun y hy => mem_sortT.mp hy) ⟨none, rfl⟩
  refine ⟨s1, g1, ?_⟩
  have hb : exs (clF Γ j) b349 [some (.ref n), some (.ref m), none] s = lpEnd "keys" τ' s1 ((sortT (ks.map (·.1))).find? (badK ts ks)) := by
    unfold b349
    rw [exs, ex_for e2 (src := .lst l ((sortT (ks.map (·.1))).map .str)) (by simp only [srcOf, lstAt_of e1, Option.map_some])]
    show (forS _ _ ((sortT (ks.map (·.1))).map D.str) _ _).bind _ = _
    rw [e3]
    cases (sortT (ks.map (·.1))).find? (badK ts ks) <;> rfl
  unfold faultK
  revert hb
  cases (sortT (ks.map (·.1))).find? (badK ts ks) with
  | none => exact fun hb => call_nx b.h349 rfl rfl hb
  | some y => exact fun hb => call_ex b.h349 rfl rfl hb
def badS (ts ss : List (Str × D)) (x : Str) : Bool := !(wordB x && (match getK ss x with
  | some d => isServD (DK ts) d
  | none => false))
def faultS (ts ss : List (Str × D)) : Option D := if 1 ≤ ss.length ∧ ss.length ≤ 8 then ((sortT (ss.map (·.1))).find? (badS ts ss)).map .str else some .non
structure B6 (Γ : Ga) : Prop extends B5 Γ where
  h354 : Γ.fns.lookup 354 = some f354
theorem check_services {Γ : Ga} (b : B6 Γ) {k : Nat} (hk : 4 ≤ k) {s : S} {n m : Nat} {ts ss : List (Str × D)} (hn : s[n]? = some (.dct (DK ts))) (hm : s[m]? = some (.dct (DK ss))) (ht : TOk ts) (hv : Vals2 s ss) : ∃ s', Gro s s' ∧ (clF Γ k).call 354 [.ref n, .ref m] s = refuse "services" s' (faultS ts ss) := by
  obtain ⟨j, rfl, hj⟩ := lv hk
  have hlen : bltD .len [.ref m] s = .ok (.int ss.length) s := by rw [len_dct hm]; simp [DK]
  have hc : evT (clF Γ j) (.not (.cmp2 .le .le (.cst (.int 1)) (.blt .len (.cons (.var 1) .nil)) (.cst (.int 8)))) [some (.ref n), some (.ref m), none] s = .ok (!decide (1 ≤ ss.length ∧ ss.length ≤ 8)) s := by
    simp only [evT, ev, evs, plainT, asB, List.getElem?_cons_zero, List.getElem?_cons_succ, R.bind_ok, hlen, Cst.d, cmpD, leD]
    by_cases q : 1 ≤ ss.length
    · rw [decide_eq_true (by omega : (1 : Int) ≤ ss.length), if_pos rfl]
      by_cases q2 : ss.length ≤ 8
      · rw [decide_eq_true (by omega : (ss.length : Int) ≤ 8), decide_eq_true ⟨q, q2⟩]; rfl
      · rw [decide_eq_false (by omega : ¬ (ss.length : Int) ≤ 8), decide_eq_false (fun z => q2 z.2)]; rfl
    · rw [decide_eq_false (by omega : ¬ (1 : Int) ≤ ss.length), if_neg Bool.false_ne_true, decide_eq_false (fun z => q z.1)]; rfl
  by_cases hl : 1 ≤ ss.length ∧ ss.length ≤ 8
  · rw [decide_eq_true hl] at hc
    obtain ⟨l, s1, g1, e1, e2⟩ := names_of (cl := clF Γ j) (τ := [some (.ref n), some (.ref m), none]) (i := 1) rfl hm hv.1
    have hn1 := g1.at hn
    have hm1 := g1.at hm
    obtain ⟨τ', _, e3⟩ := loop_names (ok := (Src.lst l ((sortT (ss.map (·.1))).map .str)).ok) (s := s1) (part := "services") (bad := badS ts ss) (I := fun τ => ∃ a, τ = [some (.ref n), some (.ref m), a]) (P := fun y => y ∈ ss.map (·.1))
      (g := forB (clF Γ j) (.var 2) (.cons (.ite (.or (.not (.call 389 (.cons (.var 2) .nil))) (.not (.call 381 (.cons (.var 0) (.cons (.ix (.var 1) (.var 2)) .nil))))) (.cons (.rse "InvalidSchema" (.cons (.cst (.str "services")) (.cons (.var 2) .nil))) .nil) (.nil)) .nil))
      (lstAt_of e1) (fun y τ hy ⟨a, hτ⟩ => by
        subst hτ
        obtain ⟨d, hd, hmem⟩ := getK_mem hy
        obtain ⟨hz, hp⟩ := hv.2 _ hmem
        have hp := hp.mono g1
        refine ⟨[some (.ref n), some (.ref m), some (.str y)], ⟨_, rfl⟩, ?_⟩
        rw [forB_var]
        show exs _ _ [some (.ref n), some (.ref m), some (.str y)] s1 = _
        have ik := ix_dct hm1 (x := y) (by rw [getK_DK]; exact hd)
        have w1 := is_word b.toB1 (k := j) (by omega) (s := s1) (d := .str y) trivial (fun z e => by cases e; exact hz)
        have v1 := is_service b.toB3 (k := j) hj hn1 ht.tb hp
        have c1 : evT (clF Γ j) (.or (.not (.call 389 (.cons (.var 2) .nil))) (.not (.call 381 (.cons (.var 0) (.cons (.ix (.var 1) (.var 2)) .nil))))) [some (.ref n), some (.ref m), some (.str y)] s1 = .ok (badS ts ss y) s1 := by
          have eb : badS ts ss y = !(wordB y && isServD (DK ts) d) := by simp only [badS, hd]
          rw [eb]
          simp only [evT, ev, evs, plainT, asB, List.getElem?_cons_zero, List.getElem?_cons_succ, R.bind_ok, w1, truD, isWordD]
          cases wordB y with
          | false => rfl
          | true => simp only [Bool.not_true, Bool.false_eq_true, if_false, ik, R.bind_ok, v1, truD, Bool.true_and]
        cases hq : badS ts ss y with
        | true =>
          rw [hq] at c1
          rw [if_pos rfl, exs, ite_t c1, rse_is b.toB4 (d := .str y) rfl]
          rfl
        | false =>
          rw [hq] at c1
          exact (exs_skip c1).trans rfl) _ _ (fun y hy => mem_sortT.mp hy) ⟨none, rfl⟩
    refine ⟨s1, g1, ?_⟩
    have hb : exs (clF Γ j) b354 [some (.ref n), some (.ref m), none] s = lpEnd "services" τ' s1 ((sortT (ss.map (·.1))).find? (badS ts ss)) := by
      refine (exs_skip hc).trans ?_
      rw [exs, ex_for e2 (src := .lst l ((sortT (ss.map (·.1))).map .str)) (by simp only [srcOf, lstAt_of e1, Option.map_some])]
      show (forS _ _ ((sortT (ss.map (·.1))).map D.str) _ _).bind _ = _
      rw [e3]
      cases (sortT (ss.map (·.1))).find? (badS ts ss) <;> rfl
    unfold faultS
    rw [if_pos hl]
    revert hb
    cases (sortT (ss.map (·.1))).find? (badS ts ss) with
    | none => exact fun hb => call_nx b.h354 rfl rfl hb
    | some y => exact fun hb => call_ex b.h354 rfl rfl hb
  · rw [decide_eq_false hl] at hc
    refine ⟨s, Gro.refl s, ?_⟩
    unfold faultS
    rw [if_neg hl]
    refine call_ex b.h354 rfl rfl (τ' := [some (.ref n), some (.ref m), none]) ?_
    show exs (clF Γ j) b354 [some (.ref n), some (.ref m), none] s = _
    unfold b354
    rw [exs, ite_t hc, rse_is b.toB4 (d := .non) rfl]
    rfl
end SL

set_option Elab.async false
set_option linter.all false
set_option maxRecDepth 100000
set_option autoImplicit false
set_option maxHeartbeats 1000000
/-! SLf: whole answers, the making of a schema. -/
namespace SL
open PySem L2 G
theorem colsB_int {w : Int} : ∀ {ds : List D} {l : Int}, colsB l w ds = true → ∀ z ∈ ds, ∃ c, z = .int c
  | [], _, _, _, h => nomatch h
  | d :: ds, l, h, z, hz => by
    cases d <;> first
      | (cases h; done)
      | (rename_i c
         simp only [colsB, Bool.and_eq_true] at h
         rcases List.mem_cons.mp hz with e | e
         · exact ⟨_, e⟩
         · exact colsB_int h.2 z e)
/-- a told service that answers all rows of its table -/
def wholeB (ts ks : List (Str × D)) : D → Bool
  | .tup [.str t, .tup g, c] => c.isNon || (match getK ts t with
     | some (.int w) => (g.length : Int) == w
     | _ => false) || (match getK ks t with
     | some (.tup cs) => cs.all fun z => g.any fun y => eqF y z
     | _ => false)
  | _ => false
theorem col_loop {cl : CL} {a b c t e : D} {s : S} {g : List D} (hg : ∀ z ∈ g, flatD z = true) : ∀ (ds : List D) (ok : S → Prop) (_ : ∀ s, ok s) (x : Option D), (∀ z ∈ ds, flatD z = true) →
    (forS ok (forB cl (.var 3) (.cons (.ite (.cmp .nin (.var 3) (.var 5)) (.cons (.ret (.cst (.bl false))) .nil) (.nil)) .nil)) ds [some a, some b, some c, x, some t, some (.tup g), some e] s).bind (fun τ s => exs cl (.cons (.ret (.cst (.bl true))) .nil) τ s) = .rt (.bl (ds.all fun z => g.any fun y => eqF y z)) s := by
  intro ds ok hok
  induction ds with
  | nil => intro x _; rw [forS_nil (hok s), SR.bind_nx]; rfl
  | cons d ds ih =>
    intro x hd
    have hin : cmpD .nin d (.tup g) s = .ok (!(g.any fun y => eqF y d)) s := by
      have h1 := hd d (by simp)
      have h2 : g.all flatD = true := List.all_eq_true.mpr hg
      have : inD d (.tup g) s = .ok (g.any fun y => eqF y d) s := by
        cases d <;> first
          | (exact if_pos ⟨h1, h2⟩)
          | (simp only [inD]; exact if_pos ⟨h1, h2⟩)
      show (inD d (.tup g) s).bind _ = _
      rw [this]; rfl
    have hc : evT cl (.cmp .nin (.var 3) (.var 5)) [some a, some b, some c, some d, some t, some (.tup g), some e] s = .ok (!(g.any fun y => eqF y d)) s := by
      simp only [evT, ev, plainT, asB, List.getElem?_cons_zero, List.getElem?_cons_succ, R.bind_ok, hin]
    rw [List.all_cons]
    cases hq : g.any fun y => eqF y d with
    | true =>
      rw [hq] at hc
      rw [forS_nx (hok s) (τ' := [some a, some b, some c, some d, some t, some (.tup g), some e]) (s' := s), ih _ fun z hz => hd z (by simp [hz]), Bool.true_and]
      rw [forB_var]
      exact exs_skip hc
    | false =>
      rw [hq] at hc
      rw [forS_rt (hok s) (x := .bl false) (s' := s), SR.bind_rt, Bool.false_and]
      rw [forB_var]
      exact exs_in hc rfl
structure B7 (Γ : Ga) : Prop extends B6 Γ where
  h429 : Γ.fns.lookup 429 = some f429
/-- keys that check_keys has passed -/
def KOk (ts ks : List (Str × D)) : Prop := ∀ x d, getK ks x = some d → ∃ w, getK ts x = some (.int w) ∧ keyB w d = true
theorem returns_all {Γ : Ga} (b : B7 Γ) {k : Nat} (hk : 1 ≤ k) {s : S} {n m : Nat} {ts ks : List (Str × D)} {d : D} (hn : s[n]? = some (.dct (DK ts))) (hm : s[m]? = some (.dct (DK ks))) (ht : KOk ts ks) (hd : isServD (DK ts) d = true) :
    (clF Γ k).call 429 [.ref n, .ref m, d] s = .ok (.bl (wholeB ts ks d)) s := by
  obtain ⟨j, rfl, hj⟩ := lv hk
  obtain ⟨t, g, c, w, rfl, h1, h2, h3⟩ : ∃ t g c w, d = .tup [.str t, .tup g, c] ∧ getK ts t = some (.int w) ∧ colsB (-1) w g = true ∧ isCapD c = true := by
    unfold isServD at hd
    split at hd
    · rename_i t g c
      rw [getK_DK] at hd
      split at hd
      · rename_i w hw
        simp only [Bool.and_eq_true] at hd
        cases g <;> first
          | (have q := hd.2.1; cases q; done)
          | exact ⟨t, _, c, w, rfl, hw, hd.2.1, hd.2.2⟩
      · simp at hd
    · cases hd
  refine call_rt b.h429 (τ := [some (.ref n), some (.ref m), some (.tup [.str t, .tup g, c]), none, none, none, none]) rfl rfl ?_
  refine (exs_nx (τ' := [some (.ref n), some (.ref m), some (.tup [.str t, .tup g, c]), none, some (.str t), some (.tup g), some c]) (s' := s) rfl).trans ?_
  have it := ix_dct hn (x := t) (by rw [getK_DK]; exact h1)
  have nn := nin_dct (x := t) hm
  rw [getK_DK] at nn
  have e1 : cmpD .isn c .non s = .ok c.isNon s := rfl
  have hc : evT (clF Γ j) (.or (.cmp .isn (.var 6) (.cst .non)) (.cmp .eq (.blt .len (.cons (.var 5) .nil)) (.ix (.var 0) (.var 4)))) [some (.ref n), some (.ref m), some (.tup [.str t, .tup g, c]), none, some (.str t), some (.tup g), some c] s = .ok (c.isNon || (g.length : Int) == w) s := by
    simp only [evT, ev, evs, plainT, asB, List.getElem?_cons_zero, List.getElem?_cons_succ, R.bind_ok, Cst.d, e1, lenT, it, eqI]
    cases c.isNon <;> rfl
  simp only [wholeB, h1]
  cases hq : c.isNon || (g.length : Int) == w with
  | true =>
    rw [hq] at hc
    rw [Bool.true_or]
    exact exs_in hc rfl
  | false =>
    rw [hq] at hc
    rw [Bool.false_or]
    refine (exs_skip hc).trans ?_
    cases hk' : getK ks t with
    | none =>
      refine exs_in (s' := s) ?_ rfl
      simp only [evT, ev, plainT, asB, List.getElem?_cons_zero, List.getElem?_cons_succ, R.bind_ok, nn, hk', Option.isSome_none, Bool.not_false]
    | some d =>
      obtain ⟨w2, h4, h5⟩ := ht _ _ hk'
      obtain ⟨cs, rfl, h6⟩ : ∃ cs, d = .tup cs ∧ colsB (-1) w2 cs = true := by
        cases d <;> first
          | (cases h5; done)
          | (simp only [keyB, Bool.and_eq_true] at h5
             exact ⟨_, rfl, h5.1⟩)
      have ik := ix_dct hm (x := t) (by rw [getK_DK]; exact hk')
      refine (exs_skip (s' := s) ?_).trans ?_
      · simp only [evT, ev, plainT, asB, List.getElem?_cons_zero, List.getElem?_cons_succ, R.bind_ok, nn, hk', Option.isSome_some, Bool.not_true]
      · rw [exs, ex_for (its := .cons (.ix (.var 1) (.var 4)) .nil) (ds := [.tup cs]) (s1 := s) (src := .vals cs) (by simp only [evs, ev, plainT, List.getElem?_cons_zero, List.getElem?_cons_succ, R.bind_ok, ik]) rfl]
        have f1 : ∀ z ∈ g, flatD z = true := fun z hz => by obtain ⟨i, rfl⟩ := colsB_int h2 z hz; rfl
        have f2 : ∀ z ∈ cs, flatD z = true := fun z hz => by obtain ⟨i, rfl⟩ := colsB_int h6 z hz; rfl
        exact col_loop f1 cs _ (fun _ => trivial) none f2
end SL
namespace SL
open PySem L2 G
/-- a dict in the order of its names -/
def srt (ts : List (Str × D)) : List (Str × D) := (sortT (ts.map (·.1))).map fun x => (x, (getK ts x).getD .non)
theorem setK_new {ts : List (Str × D)} {x : Str} {d : D} (h : x ∉ ts.map (·.1)) : setK (DK ts) (.inr x) d = DK (ts ++ [(x, d)]) := by
  unfold setK
  rw [if_neg]
  · simp [DK]
  · simp only [List.any_eq_true, decide_eq_true_eq, not_exists, not_and]
    intro p hp e
    unfold DK at hp
    obtain ⟨q, hq, rfl⟩ := List.mem_map.mp hp
    injection e with e
    exact h (List.mem_map.mpr ⟨q, hq, e⟩)
theorem dcS_names {ok : S → Prop} {g : D → S → R (Key × D)} {s : S} {f : Str → D} (hok : ok s) : ∀ (ys : List Str) (acc : List (Str × D)), (∀ y ∈ ys, g (.str y) s = .ok (.inr y, f y) s) → ys.Nodup → (∀ y ∈ ys, y ∉ acc.map (·.1)) →
    dcS ok g (ys.map .str) s (DK acc) = .ok (DK (acc ++ ys.map fun y => (y, f y))) s
  | [], acc, _, _, _ => by simp [dcS, hok]
  | y :: ys, acc, h, hn, ha => by
    rw [List.map_cons]
    unfold dcS
    rw [if_pos hok, h y (by simp), R.bind_ok, setK_new (ha y (by simp))]
    have hn := List.nodup_cons.mp hn
    rw [dcS_names hok ys _ (fun z hz => h z (by simp [hz])) hn.2 (fun z hz => ?_)]
    · simp
    · intro q
      rw [List.map_append, List.mem_append] at q
      rcases q with q | q
      · exact ha z (by simp [hz]) q
      · simp at q
        exact hn.1 (q ▸ hz)
end SL
namespace SL
open PySem L2 G
theorem sortT_nodup {ys : List Str} (h : ys.Nodup) : (sortT ys).Nodup := (List.mergeSort_perm ys leT).nodup_iff.mpr h
theorem sortT_len {ys : List Str} : (sortT ys).length = ys.length := (List.mergeSort_perm ys leT).length_eq
/-- {x: d[x] for x in sorted(list(d))} -/
theorem dc_names {cl : CL} {τ : Fr} {s : S} {i n v : Nat} {own : Str} {ts : List (Str × D)} (hi : τ[i]? = some (some (.ref n))) (hv : v < τ.length) (hvi : v ≠ i) (h : s[n]? = some (.dct (DK ts))) (hl : ts.length < 64) (hn : (ts.map (·.1)).Nodup) :
    ∃ m s', Gro s s' ∧ s.length ≤ m ∧ s'[m]? = some (.dct (DK (srt ts))) ∧ (ev cl (.dc (.var v) (.ix (.var i) (.var v)) (.var v) .seq (.cons (.blt .sorted (.cons (.blt .list (.cons (.var i) .nil)) .nil)) .nil) [(own, v)])).1 τ s = .ok (.ref m) s' := by
  obtain ⟨l, s1, g1, e1, e2⟩ := names_of (cl := cl) hi h hl
  have h1 := g1.at h
  refine ⟨s1.length, s1 ++ [.dct (DK (srt ts))], g1.trans (Gro.new _ _), by obtain ⟨l, rfl⟩ := g1; simp, new_at, ?_⟩
  have hs : srcOf .seq [.ref l] s1 = some (.lst l ((sortT (ts.map (·.1))).map .str)) := by simp only [srcOf, lstAt_of e1, Option.map_some]
  simp only [ev, plainT, e2, R.bind_ok, hs]
  rw [if_pos (by
    show ((sortT (ts.map (·.1))).map D.str).length < sizeLine
    rw [List.length_map, sortT_len, List.length_map]
    exact Nat.lt_trans hl (by decide))]
  have hok : (Src.lst l ((sortT (ts.map (·.1))).map .str)).ok s1 := lstAt_of e1
  have key := dcS_names (g := fun d s => match asgV (.var v) d s (wipeF τ ([(own, v)].map (·.2))) with
        | none => .bad
        | some τ' => (((ev cl (.var v)).1 τ' s).calm).bind fun y s => (((ev cl (.ix (.var i) (.var v))).1 τ' s).calm).bind fun z s => match keyD y with
          | some k => .ok (k, z) s
          | none => .bad) (f := fun x => (getK ts x).getD .non) hok (sortT (ts.map (·.1))) [] (fun y hy => by
      obtain ⟨d, hd, _⟩ := getK_mem (mem_sortT.mp hy)
      have ik := ix_dct h1 (x := y) (by rw [getK_DK]; exact hd)
      have a1 : ((τ.set v none).set v (some (.str y)))[v]? = some (some (.str y)) := by simp [hv]
      have a2 : ((τ.set v none).set v (some (.str y)))[i]? = some (some (.ref n)) := by
        rw [List.getElem?_set_ne (by omega), List.getElem?_set_ne (by omega), hi]
      simp only [asgV, wipeF, List.map_cons, List.map_nil, ev, plainT, a1, a2, R.bind_ok, R.calm_ok, ik, keyD, hd, Option.getD_some]) (sortT_nodup hn) (by simp)
  have e0 : DK [] = [] := rfl
  rw [e0] at key
  exact (congrArg (fun r : R (List (Key × D)) => r.bind fun r s => new (.dct r) s) key).trans rfl
end SL
namespace SL
open PySem L2 G
theorem set_dct {s : S} {n : Nat} {ws : List (Str × D)} {x : Str} {d : D} (h : s[n]? = some (.dct (DK ws))) (hl : ws.length < 64) (hx : x ∉ ws.map (·.1)) : setD (.ref n) (.str x) d s = some (s.set n (.dct (DK (ws ++ [(x, d)])))) := by
  simp only [setD, h, keyD, setK_new hx]
  rw [if_pos]
  unfold DK
  rw [List.length_map]
  exact Nat.lt_trans hl (by decide)
/-- the table of a told service -/
def tabS : D → Str
  | .tup (.str t :: _) => t
  | _ => ""
/-- whole and capped names, in order: the first that is refused, what stands in both tables then -/
def capL (ts ks ss : List (Str × D)) : List Str → List (Str × D) → List (Str × D) → Option Str × List (Str × D) × List (Str × D)
  | [], W, C => (none, W, C)
  | y :: ys, W, C =>
    let d := (getK ss y).getD .non
    if wholeB ts ks d = true then capL ts ks ss ys (W ++ [(y, .bl true)]) C
    else if tabS d ∈ C.map (·.1) then (some y, W ++ [(y, .bl false)], C)
    else capL ts ks ss ys (W ++ [(y, .bl false)]) (C ++ [(tabS d, .str y)])
theorem getK_some {C : List (Str × D)} {x : Str} : (getK C x).isSome = decide (x ∈ C.map (·.1)) := by
  by_cases h : x ∈ C.map (·.1)
  · obtain ⟨d, e, _⟩ := getK_mem h
    rw [e, decide_eq_true h]; rfl
  · rw [decide_eq_false h]
    unfold getK
    cases e : C.find? fun p => decide (p.1 = x) with
    | none => rfl
    | some p =>
      have h1 := List.find?_some e
      have h2 := List.mem_of_find?_eq_some e
      exact absurd (List.mem_map.mpr ⟨p, h2, by simpa using h1⟩) h
theorem serv_tab {ts : List (Key × D)} {d : D} (h : isServD ts d = true) : ∃ g c, d = .tup [.str (tabS d), g, c] := by
  unfold isServD at h
  split at h
  · exact ⟨_, _, rfl⟩
  · cases h
end SL

set_option Elab.async false
set_option linter.all false
set_option maxRecDepth 100000
set_option autoImplicit false
set_option maxHeartbeats 1000000
/-! SLg: the loop over the capped names. -/
namespace SL
open PySem L2 G
def st2 (s : S) (a c : Nat) (W C : List (Str × D)) : S := (s.set a (.dct (DK W))).set c (.dct (DK C))
section
variable {s : S} {a c n : Nat} {W C W' C' : List (Str × D)}
theorem st2_a (h : a < s.length) (hac : a ≠ c) : (st2 s a c W C)[a]? = some (.dct (DK W)) := by
  unfold st2
  rw [List.getElem?_set_ne (by omega)]
  simp [h]
theorem st2_c (h : c < s.length) : (st2 s a c W C)[c]? = some (.dct (DK C)) := by
  unfold st2
  simp [h]
theorem st2_o (h1 : n ≠ a) (h2 : n ≠ c) : (st2 s a c W C)[n]? = s[n]? := by
  unfold st2
  rw [List.getElem?_set_ne (by omega), List.getElem?_set_ne (by omega)]
theorem st2_sa (hac : a ≠ c) : (st2 s a c W C).set a (.dct (DK W')) = st2 s a c W' C := by
  unfold st2
  rw [List.set_comm _ _ (by omega : c ≠ a), List.set_set]
theorem st2_sc : (st2 s a c W C).set c (.dct (DK C')) = st2 s a c W C' := by
  unfold st2
  rw [List.set_set]
end
theorem exs_sub {cl : CL} {τ : Fr} {s s1 s2 s3 s4 : S} {o i e : Ex} {d x y : D} {cs : Cms} (h : evE cl e τ s = .ok d s1) (h1 : evE cl o τ s1 = .ok x s2) (h2 : evE cl i τ s2 = .ok y s3) (h3 : setD x y d s3 = some s4) : exs cl (.cons (.asg (.sub o i) e) cs) τ s = exs cl cs τ s4 := by
  refine exs_nx ?_
  simp only [ex, h, R.toS_ok, store, h1, h2, h3]
def capBody : Cms := .cons (.asg (.loc (.var 7)) (.ix (.var 3) (.var 6)))
    (.cons (.asg (.sub (.var 4) (.var 6)) (.call 429 (.cons (.var 1) (.cons (.var 2) (.cons (.var 7) .nil)))))
    (.cons (.ite (.not (.ix (.var 4) (.var 6))) (.cons (.ite (.cmp .inn (.ix (.var 7) (.cst (.int 0))) (.var 5)) (.cons (.rse "InvalidSchema" (.cons (.cst (.str "capped")) (.cons (.var 6) .nil))) .nil) (.nil))
    (.cons (.asg (.sub (.var 5) (.ix (.var 7) (.cst (.int 0)))) (.var 6)) .nil)) (.nil)) .nil))
theorem cap_loop {Γ : Ga} (b : B7 Γ) {k : Nat} (hk : 1 ≤ k) {s : S} {n m q a c : Nat} {ts ks ss : List (Str × D)} {ok : S → Prop} {z : D} (ha : a < s.length) (hc : c < s.length) (hac : a ≠ c) (hok : ∀ W C, ok (st2 s a c W C))
    (hn : s[n]? = some (.dct (DK ts))) (hm : s[m]? = some (.dct (DK ks))) (hq : s[q]? = some (.dct (DK ss))) (ht : KOk ts ks) (na : n ≠ a) (nc : n ≠ c) (ma : m ≠ a) (mc : m ≠ c) (qa : q ≠ a) (qc : q ≠ c) :
    ∀ (ys : List Str) (W C : List (Str × D)) (x6 x7 : Option D), (∀ y ∈ ys, ∃ d, getK ss y = some d ∧ isServD (DK ts) d = true) → ys.Nodup → (∀ y ∈ ys, y ∉ W.map (·.1)) → W.length + ys.length < 64 → C.length ≤ W.length →
    ∃ x6' x7', forS ok (forB (clF Γ k) (.var 6) capBody) (ys.map .str) [some z, some (.ref n), some (.ref m), some (.ref q), some (.ref a), some (.ref c), x6, x7] (st2 s a c W C)
      = lpEnd "capped" [some z, some (.ref n), some (.ref m), some (.ref q), some (.ref a), some (.ref c), x6', x7'] (st2 s a c (capL ts ks ss ys W C).2.1 (capL ts ks ss ys W C).2.2) (capL ts ks ss ys W C).1
  | [], W, C, x6, x7, _, _, _, _, _ => ⟨x6, x7, by rw [List.map_nil, forS_nil (hok W C)]; rfl⟩
  | y :: ys, W, C, x6, x7, hv, hnd, hw, hl, hcl => by
    obtain ⟨d, hd, hs⟩ := hv y (by simp)
    obtain ⟨r, r2, hr⟩ := serv_tab hs
    have hnd := List.nodup_cons.mp hnd
    rw [List.length_cons] at hl
    have nn : (st2 s a c W C)[n]? = _ := (st2_o na nc).trans hn
    have mm : (st2 s a c W C)[m]? = _ := (st2_o ma mc).trans hm
    have qq : (st2 s a c W C)[q]? = _ := (st2_o qa qc).trans hq
    have ik := ix_dct qq (x := y) (by rw [getK_DK]; exact hd)
    have ra := returns_all b hk nn mm ht hs
    have rec6 : ∀ bb, W.length < 64 ∧ (∀ y' ∈ ys, y' ∉ (W ++ [(y, D.bl bb)]).map (·.1)) := fun bb => ⟨by omega, fun y' hy' e => by
      rw [List.map_append, List.mem_append] at e
      rcases e with e | e
      · exact hw y' (by simp [hy']) e
      · simp at e
        exact hnd.1 (e ▸ hy')⟩
    -- the first two statements
    have p1 : ∀ cs, exs (clF Γ k) (.cons (.asg (.loc (.var 7)) (.ix (.var 3) (.var 6))) (.cons (.asg (.sub (.var 4) (.var 6)) (.call 429 (.cons (.var 1) (.cons (.var 2) (.cons (.var 7) .nil))))) cs)) [some z, some (.ref n), some (.ref m), some (.ref q), some (.ref a), some (.ref c), some (.str y), x7] (st2 s a c W C)
        = exs (clF Γ k) cs [some z, some (.ref n), some (.ref m), some (.ref q), some (.ref a), some (.ref c), some (.str y), some d] (st2 s a c (W ++ [(y, .bl (wholeB ts ks d))]) C) := fun cs => by
      refine (exs_asg (d := d) (s' := st2 s a c W C) ?_).trans ?_
      · simp only [evE, ev, plainT, List.getElem?_cons_zero, List.getElem?_cons_succ, R.bind_ok, ik]
      · refine exs_sub (d := .bl (wholeB ts ks d)) (x := .ref a) (y := .str y) (s1 := st2 s a c W C) (s2 := st2 s a c W C) (s3 := st2 s a c W C) ?_ rfl rfl ?_
        · show (ev _ _).1 [some z, some (.ref n), some (.ref m), some (.ref q), some (.ref a), some (.ref c), some (.str y), some d] _ = _
          simp only [ev, evs, plainT, List.getElem?_cons_zero, List.getElem?_cons_succ, R.bind_ok, ra]
        · rw [set_dct (st2_a ha hac) (rec6 true).1 (hw y (by simp)), st2_sa hac]
    have ia : ∀ bb, ixD (.ref a) (.str y) (st2 s a c (W ++ [(y, .bl bb)]) C) = .ok (.bl bb) (st2 s a c (W ++ [(y, .bl bb)]) C) := fun bb => by
      refine ix_dct (st2_a ha hac) ?_
      rw [getK_DK]
      have : W.find? (fun p => decide (p.1 = y)) = none := by
        rw [List.find?_eq_none]
        intro p hp e
        exact hw y (by simp) (List.mem_map.mpr ⟨p, hp, by simpa using e⟩)
      unfold getK
      rw [List.find?_append, this]
      simp
    have hcond : evT (clF Γ k) (.not (.ix (.var 4) (.var 6))) [some z, some (.ref n), some (.ref m), some (.ref q), some (.ref a), some (.ref c), some (.str y), some d] (st2 s a c (W ++ [(y, .bl (wholeB ts ks d))]) C) = .ok (!wholeB ts ks d) (st2 s a c (W ++ [(y, .bl (wholeB ts ks d))]) C) := by
      simp only [evT, ev, plainT, asB, List.getElem?_cons_zero, List.getElem?_cons_succ, R.bind_ok, ia, truD]
    rw [List.map_cons]
    have hcap : capL ts ks ss (y :: ys) W C = if wholeB ts ks d = true then capL ts ks ss ys (W ++ [(y, .bl true)]) C
      else if tabS d ∈ C.map (·.1) then (some y, W ++ [(y, .bl false)], C)
      else capL ts ks ss ys (W ++ [(y, .bl false)]) (C ++ [(tabS d, .str y)]) := by simp only [capL, hd, Option.getD_some]
    rw [hcap]
    cases hwh : wholeB ts ks d with
    | true =>
      rw [hwh] at p1 hcond
      obtain ⟨x6', x7', e⟩ := cap_loop b hk ha hc hac hok hn hm hq ht na nc ma mc qa qc ys (W ++ [(y, .bl true)]) C (some (.str y)) (some d) (fun y' h => hv y' (by simp [h])) hnd.2 (rec6 true).2 (by simp; omega) (by simp; omega)
      refine ⟨x6', x7', ?_⟩
      rw [if_pos rfl, ← e]
      refine forS_nx (hok W C) ?_
      rw [forB_var]
      exact (p1 _).trans ((exs_skip hcond).trans rfl)
    | false =>
      rw [hwh] at p1 hcond
      rw [if_neg Bool.false_ne_true]
      have it : evE (clF Γ k) (.ix (.var 7) (.cst (.int 0))) [some z, some (.ref n), some (.ref m), some (.ref q), some (.ref a), some (.ref c), some (.str y), some d] (st2 s a c (W ++ [(y, .bl false)]) C) = .ok (.str (tabS d)) (st2 s a c (W ++ [(y, .bl false)]) C) := by
        rw [hr]; rfl
      have hin : evT (clF Γ k) (.cmp .inn (.ix (.var 7) (.cst (.int 0))) (.var 5)) [some z, some (.ref n), some (.ref m), some (.ref q), some (.ref a), some (.ref c), some (.str y), some d] (st2 s a c (W ++ [(y, .bl false)]) C) = .ok (decide (tabS d ∈ C.map (·.1))) (st2 s a c (W ++ [(y, .bl false)]) C) := by
        have it' : (ev (clF Γ k) (.ix (.var 7) (.cst (.int 0)))).1 [some z, some (.ref n), some (.ref m), some (.ref q), some (.ref a), some (.ref c), some (.str y), some d] (st2 s a c (W ++ [(y, .bl false)]) C) = _ := it
        have ii := inn_dct (x := tabS d) (st2_c (s := s) (a := a) (W := W ++ [(y, .bl false)]) (C := C) hc)
        rw [getK_DK, getK_some] at ii
        rw [evT, ev]
        simp only [plainT, asB, it', R.bind_ok]
        simp only [ev, plainT, List.getElem?_cons_zero, List.getElem?_cons_succ, R.bind_ok, ii, truD]
      by_cases hmem : tabS d ∈ C.map (·.1)
      · rw [if_pos hmem]
        rw [decide_eq_true hmem] at hin
        refine ⟨some (.str y), some d, ?_⟩
        refine forS_exc (hok W C) ?_
        rw [forB_var]
        refine (p1 _).trans ?_
        rw [exs, ite_t hcond, exs, ite_t hin, rse_is b.toB4 (d := .str y) rfl]
        rfl
      · rw [if_neg hmem]
        rw [decide_eq_false hmem] at hin
        obtain ⟨x6', x7', e⟩ := cap_loop b hk ha hc hac hok hn hm hq ht na nc ma mc qa qc ys (W ++ [(y, .bl false)]) (C ++ [(tabS d, .str y)]) (some (.str y)) (some d) (fun y' h => hv y' (by simp [h])) hnd.2 (rec6 false).2 (by simp; omega) (by simp; omega)
        refine ⟨x6', x7', ?_⟩
        rw [← e]
        refine forS_nx (hok W C) ?_
        rw [forB_var]
        refine (p1 _).trans (exs_nx ((ite_t hcond).trans ((exs_skip hin).trans ?_)))
        refine (exs_sub (d := .str y) (x := .ref c) (y := .str (tabS d)) rfl rfl it ?_).trans rfl
        rw [set_dct (st2_c hc) (by omega) hmem, st2_sc]
end SL

set_option Elab.async false
set_option linter.all false
set_option maxRecDepth 100000
set_option autoImplicit false
set_option maxHeartbeats 1000000
/-! SLh: what the checks that pass tell. -/
namespace SL
open PySem L2 G
theorem find_none {ys : List Str} {p : Str → Bool} (h : (ys.find? p).map D.str = none) : ∀ y ∈ ys, p y = false := by
  cases e : ys.find? p with
  | none =>
    intro y hy
    have := List.find?_eq_none.mp e y hy
    simpa using this
  | some x => rw [e] at h; cases h
theorem mem_of_getK {ts : List (Str × D)} {x : Str} {d : D} (h : getK ts x = some d) : x ∈ ts.map (·.1) := by
  have := getK_some (C := ts) (x := x)
  rw [h] at this
  simpa using this.symm
theorem tok_of {ts : List (Str × D)} (h : faultT ts = none) : TOk ts := by
  intro x d hd
  unfold faultT at h
  split at h
  · have := find_none h x (mem_sortT.mpr (mem_of_getK hd))
    simp only [badT, hd] at this
    cases d <;> first
      | exact ⟨_, rfl⟩
      | (simp [widB] at this)
  · cases h
theorem kok_of {ts ks : List (Str × D)} (ht : TOk ts) (h : faultK ts ks = none) : KOk ts ks := by
  intro x d hd
  have := find_none h x (mem_sortT.mpr (mem_of_getK hd))
  simp only [badK, hd] at this
  cases e : getK ts x with
  | none => rw [e] at this; simp at this
  | some v =>
    obtain ⟨w, rfl⟩ := ht _ _ e
    rw [e] at this
    exact ⟨w, rfl, by simpa using this⟩
theorem serv_of {ts ss : List (Str × D)} (h : faultS ts ss = none) : ∀ y ∈ sortT (ss.map (·.1)), ∃ d, getK ss y = some d ∧ isServD (DK ts) d = true := by
  intro y hy
  obtain ⟨d, hd, _⟩ := getK_mem (mem_sortT.mp hy)
  refine ⟨d, hd, ?_⟩
  unfold faultS at h
  split at h
  · have := find_none h y hy
    simp only [badS, hd] at this
    simp at this
    exact this.2
  · cases h
end SL

set_option Elab.async false
set_option linter.all false
set_option maxRecDepth 100000
set_option autoImplicit false
set_option maxHeartbeats 1000000
/-! SLi: Schema.__init__. -/
namespace SL
open PySem L2 G
def nm (ts : List (Str × D)) : List Str := sortT (ts.map (·.1))
/-- what a schema is refused for -/
def sfault (ts ks ss : List (Str × D)) : Option (Str × D) := match faultT ts with
  | some d => some ("tables", d)
  | none => match faultK ts ks with
    | some d => some ("keys", d)
    | none => match faultS ts ss with
      | some d => some ("services", d)
      | none => (capL ts ks ss (nm ss) [] []).1.map fun y => ("capped", .str y)
theorem exs_exc {cl : CL} {c : Cm} {cs : Cms} {τ τ' : Fr} {s s' : S} {x : Str} {fs : List (Str × D)} (h : ex cl c τ s = .exc τ' x fs s') : exs cl (.cons c cs) τ s = .exc τ' x fs s' := by simp only [exs, h, SR.bind_exc]
theorem expr_exc {cl : CL} {e : Ex} {cs : Cms} {τ : Fr} {s s' : S} {x : Str} {fs : List (Str × D)} (h : evE cl e τ s = .exc x fs s') : exs cl (.cons (.expr e) cs) τ s = .exc τ x fs s' := by
  refine exs_exc ?_
  simp only [ex, h]
  rfl
theorem Vals.mono {s s' : S} (g : Gro s s') {ts : List (Str × D)} (h : Vals s ts) : Vals s' ts := ⟨h.1, fun p hp => ⟨(h.2 p hp).1, (h.2 p hp).2.mono g⟩⟩
theorem Vals2.mono {s s' : S} (g : Gro s s') {ts : List (Str × D)} (h : Vals2 s ts) : Vals2 s' ts := ⟨h.1, fun p hp => ⟨(h.2 p hp).1, (h.2 p hp).2.mono g⟩⟩
theorem st2_same {s : S} {a c : Nat} (ha : s[a]? = some (.dct (DK []))) (hc : s[c]? = some (.dct (DK []))) : st2 s a c [] [] = s := by
  have h : ∀ {n : Nat} {o : O} {s : S}, s[n]? = some o → s.set n o = s := by
    intro n o s h
    apply List.ext_getElem?
    intro j
    by_cases e : n = j
    · subst e
      obtain ⟨h1, h2⟩ := List.getElem?_eq_some_iff.mp h
      rw [h]
      simp [h1]
    · rw [List.getElem?_set_ne e]
  unfold st2
  rw [h ha, h hc]
end SL
namespace SL
open PySem L2 G
theorem exs_fld {cl : CL} {τ : Fr} {s s1 s2 s3 : S} {o e : Ex} {d x : D} {f : Str} {cs : Cms} (h : evE cl e τ s = .ok d s1) (h1 : evE cl o τ s1 = .ok x s2) (h3 : setA cl x f d s2 = some s3) : exs cl (.cons (.asg (.fld o f) e) cs) τ s = exs cl cs τ s3 := by
  refine exs_nx ?_
  simp only [ex, h, R.toS_ok, store, h1, h3]
/-- all but one object stand as they stood -/
def Grx (i : Nat) (s s' : S) : Prop := ∀ j o, j ≠ i → s[j]? = some o → s'[j]? = some o
theorem Grx.of {i : Nat} {s s' : S} (h : Gro s s') : Grx i s s' := fun _ _ _ e => h.at e
theorem Grx.trans {i : Nat} {a b c : S} (h : Grx i a b) (g : Grx i b c) : Grx i a c := fun j o hj e => g j o hj (h j o hj e)
theorem Grx.set {i : Nat} {s : S} {o : O} : Grx i s (s.set i o) := fun j o' hj e => by rw [List.getElem?_set_ne (by omega)]; exact e
end SL
namespace SL
open PySem L2 G
structure B8 (Γ : Ga) : Prop extends B7 Γ where
  h76 : Γ.fns.lookup 76 = some f76
  hc : ∃ k, Γ.cls.lookup ("Schema" : Str) = some k ∧ k.fields = (["capped_table", "key_table", "service_table", "whole_table", "width_table"] : List Str) ∧ k.init = some 76
theorem B8.set {Γ : Ga} (b : B8 Γ) {k i : Nat} {s : S} {fs : List (Str × D)} {f : Str} {v : D} (h : s[i]? = some (.ins "Schema" fs)) (hf : f = "capped_table" ∨ f = "key_table" ∨ f = "service_table" ∨ f = "whole_table" ∨ f = "width_table") (hl : fs.length < 9) :
    setA (clF Γ k) (.ref i) f v s = some (s.set i (.ins "Schema" (setF f v fs))) := by
  obtain ⟨c, h1, h2, _⟩ := b.hc
  have h1 : (clF Γ k).cls "Schema" = some c := h1
  have h3 : (["capped_table", "key_table", "service_table", "whole_table", "width_table"] : List Str).contains f = true := by
    rcases hf with rfl | rfl | rfl | rfl | rfl <;> decide
  simp only [setA, h, h1]
  rw [if_pos ⟨h2 ▸ h3, by omega⟩]
end SL

set_option Elab.async false
set_option linter.all false
set_option maxRecDepth 100000
set_option autoImplicit false
set_option maxHeartbeats 1000000
/-! SLj: Schema.__init__ joined. -/
namespace SL
open PySem L2 G
/-- the tail of Schema.__init__: five fields -/
def tail76 : Cms := (.cons (.asg (.fld (.var 0) "width_table") (.dc (.var 6) (.ix (.var 1) (.var 6)) (.var 6) .seq (.cons (.blt .sorted (.cons (.blt .list (.cons (.var 1) .nil)) .nil)) .nil) [("name", 6)]))
    (.cons (.asg (.fld (.var 0) "key_table") (.dc (.var 6) (.ix (.var 2) (.var 6)) (.var 6) .seq (.cons (.blt .sorted (.cons (.blt .list (.cons (.var 2) .nil)) .nil)) .nil) [("name", 6)]))
    (.cons (.asg (.fld (.var 0) "service_table") (.dc (.var 6) (.ix (.var 3) (.var 6)) (.var 6) .seq (.cons (.blt .sorted (.cons (.blt .list (.cons (.var 3) .nil)) .nil)) .nil) [("name", 6)]))
    (.cons (.asg (.fld (.var 0) "whole_table") (.var 4))
    (.cons (.asg (.fld (.var 0) "capped_table") (.var 5)) .nil)))))
def init76 (s' : S) (b i : Nat) (ts ks ss W C : List (Str × D)) : Prop := ∃ f1 f2 f3 f4 f5, (b ≤ f1 ∧ b ≤ f2 ∧ b ≤ f3 ∧ b ≤ f4 ∧ b ≤ f5) ∧ s'[i]? = some (.ins "Schema" [("width_table", .ref f1), ("key_table", .ref f2), ("service_table", .ref f3), ("whole_table", .ref f4), ("capped_table", .ref f5)]) ∧
  s'[f1]? = some (.dct (DK (srt ts))) ∧ s'[f2]? = some (.dct (DK (srt ks))) ∧ s'[f3]? = some (.dct (DK (srt ss))) ∧ s'[f4]? = some (.dct (DK W)) ∧ s'[f5]? = some (.dct (DK C))
theorem tail_ok {Γ : Ga} (b : B8 Γ) {k i n m q a c b0 : Nat} {s : S} (hb0 : b0 ≤ s.length) (hba : b0 ≤ a) (hbc : b0 ≤ c) {ts ks ss W C : List (Str × D)} {x6 x7 : Option D} (hi : s[i]? = some (.ins "Schema" []))
    (hn : s[n]? = some (.dct (DK ts))) (hm : s[m]? = some (.dct (DK ks))) (hq : s[q]? = some (.dct (DK ss))) (ha : s[a]? = some (.dct (DK W))) (hc : s[c]? = some (.dct (DK C)))
    (l1 : ts.length < 64) (l2 : ks.length < 64) (l3 : ss.length < 64) (d1 : (ts.map (·.1)).Nodup) (d2 : (ks.map (·.1)).Nodup) (d3 : (ss.map (·.1)).Nodup) :
    ∃ τ' s', Grx i s s' ∧ init76 s' b0 i ts ks ss W C ∧ exs (clF Γ k) tail76 [some (.ref i), some (.ref n), some (.ref m), some (.ref q), some (.ref a), some (.ref c), x6, x7] s = .nx τ' s' := by
  have ne : ∀ {j : Nat} {kvs : List (Key × D)} {s : S} {fs : List (Str × D)}, s[i]? = some (.ins "Schema" fs) → s[j]? = some (.dct kvs) → j ≠ i := by
    intro j kvs s fs h1 h2 e
    subst e
    rw [h1] at h2
    cases h2
  have sti : ∀ {s : S} {fs fs' : List (Str × D)}, s[i]? = some (.ins "Schema" fs) → (s.set i (.ins "Schema" fs'))[i]? = some (.ins "Schema" fs') := by
    intro s fs fs' h
    have := (List.getElem?_eq_some_iff.mp h).1
    simp [this]
  obtain ⟨f1, s1, g1, q1, e1, r1⟩ := dc_names (cl := clF Γ k) (τ := [some (.ref i), some (.ref n), some (.ref m), some (.ref q), some (.ref a), some (.ref c), x6, x7]) (i := 1) (v := 6) (own := "name") rfl (by simp) (by decide) hn l1 d1
  have x1 := Grx.of (i := i) g1
  have i1 := g1.at hi
  have y1 : Grx i s1 (s1.set i (.ins "Schema" [("width_table", .ref f1)])) := Grx.set
  have z1 := x1.trans y1
  obtain ⟨f2, s2, g2, q2, e2, r2⟩ := dc_names (cl := clF Γ k) (τ := [some (.ref i), some (.ref n), some (.ref m), some (.ref q), some (.ref a), some (.ref c), x6, x7]) (i := 2) (v := 6) (own := "name") rfl (by simp) (by decide) (z1 _ _ (ne hi hm) hm) l2 d2
  have i2 := g2.at (sti (fs' := [("width_table", .ref f1)]) i1)
  have y2 : Grx i s2 (s2.set i (.ins "Schema" [("width_table", .ref f1), ("key_table", .ref f2)])) := Grx.set
  have z2 := z1.trans ((Grx.of g2).trans y2)
  obtain ⟨f3, s3, g3, q3, e3, r3⟩ := dc_names (cl := clF Γ k) (τ := [some (.ref i), some (.ref n), some (.ref m), some (.ref q), some (.ref a), some (.ref c), x6, x7]) (i := 3) (v := 6) (own := "name") rfl (by simp) (by decide) (z2 _ _ (ne hi hq) hq) l3 d3
  have i3 := g3.at (sti (fs' := [("width_table", .ref f1), ("key_table", .ref f2)]) i2)
  have x3 := Grx.of (i := i) g3
  have i4 := sti (fs' := [("width_table", .ref f1), ("key_table", .ref f2), ("service_table", .ref f3)]) i3
  have i5 := sti (fs' := [("width_table", .ref f1), ("key_table", .ref f2), ("service_table", .ref f3), ("whole_table", .ref a)]) i4
  have i6 := sti (fs' := [("width_table", .ref f1), ("key_table", .ref f2), ("service_table", .ref f3), ("whole_table", .ref a), ("capped_table", .ref c)]) i5
  have w3 := ((Grx.set (i := i) (s := s3) (o := .ins "Schema" [("width_table", .ref f1), ("key_table", .ref f2), ("service_table", .ref f3)])).trans (Grx.set (i := i) (o := .ins "Schema" [("width_table", .ref f1), ("key_table", .ref f2), ("service_table", .ref f3), ("whole_table", .ref a)]))).trans
    (Grx.set (i := i) (o := .ins "Schema" [("width_table", .ref f1), ("key_table", .ref f2), ("service_table", .ref f3), ("whole_table", .ref a), ("capped_table", .ref c)]))
  have z3 := z2.trans (x3.trans w3)
  have ll : ∀ {s s' : S}, Gro s s' → s.length ≤ s'.length := fun ⟨l, h⟩ => by rw [h]; simp
  have lg1 := ll g1
  have lg2 := ll g2
  rw [List.length_set] at lg2 q2 q3
  refine ⟨[some (.ref i), some (.ref n), some (.ref m), some (.ref q), some (.ref a), some (.ref c), x6, x7], _, z3, ⟨f1, f2, f3, a, c, ⟨by omega, by omega, by omega, hba, hbc⟩, i6, ?_, ?_, ?_, z3 _ _ (ne hi ha) ha, z3 _ _ (ne hi hc) hc⟩, ?_⟩
  · exact (y1.trans ((Grx.of g2).trans (y2.trans (x3.trans w3)))) _ _ (ne i1 e1) e1
  · exact (y2.trans (x3.trans w3)) _ _ (ne i2 e2) e2
  · exact w3 _ _ (ne i3 e3) e3
  · unfold tail76
    refine (exs_fld r1 rfl (b.set i1 (by simp) (by simp))).trans ?_
    refine (exs_fld r2 rfl (b.set i2 (by simp) (by simp))).trans ?_
    refine (exs_fld r3 rfl (b.set i3 (by simp) (by simp))).trans ?_
    refine (exs_fld (d := .ref a) rfl rfl (b.set i4 (by simp) (by simp))).trans ?_
    exact (exs_fld (d := .ref c) rfl rfl (b.set i5 (by simp) (by simp))).trans rfl
end SL

set_option Elab.async false
set_option linter.all false
set_option maxRecDepth 100000
set_option autoImplicit false
set_option maxHeartbeats 1000000
/-! SLk: Schema.__init__ whole. -/
namespace SL
open PySem L2 G
theorem glen {s s' : S} (h : Gro s s') : s.length ≤ s'.length := by
  obtain ⟨l, rfl⟩ := h
  simp
theorem st2_len {s : S} {a c : Nat} {W C : List (Str × D)} : (st2 s a c W C).length = s.length := by simp [st2]
theorem schema_init {Γ : Ga} (b : B8 Γ) {k : Nat} (hk : 5 ≤ k) {i n m q : Nat} {s : S} {ts ks ss : List (Str × D)} (hi : s[i]? = some (.ins "Schema" []))
    (hn : s[n]? = some (.dct (DK ts))) (hm : s[m]? = some (.dct (DK ks))) (hq : s[q]? = some (.dct (DK ss)))
    (vt : Vals s ts) (vk : Vals2 s ks) (vs : Vals2 s ss) (d1 : (ts.map (·.1)).Nodup) (d2 : (ks.map (·.1)).Nodup) (d3 : (ss.map (·.1)).Nodup) :
    ∃ s', Grx i s s' ∧ (match sfault ts ks ss with
      | some p => (clF Γ k).call 76 [.ref i, .ref n, .ref m, .ref q] s = .exc "InvalidSchema" [("name", p.2), ("part", .str p.1)] s'
      | none => (clF Γ k).call 76 [.ref i, .ref n, .ref m, .ref q] s = .ok .non s' ∧ init76 s' s.length i ts ks ss (capL ts ks ss (nm ss) [] []).2.1 (capL ts ks ss (nm ss) [] []).2.2) := by
  obtain ⟨j, rfl, hj⟩ := lv hk
  obtain ⟨s1, g1, e1⟩ := check_tables b.toB4 (k := j) (by omega) hn vt
  have arg1 : ∀ (f : Nat) (s s' : S) (r : R D), (clF Γ j).call f [.ref n] s = r → evE (clF Γ j) (.call f (.cons (.var 1) .nil)) [some (.ref i), some (.ref n), some (.ref m), some (.ref q), none, none, none, none] s = r := fun f s s' r h => by
    simp only [evE, ev, evs, plainT, List.getElem?_cons_zero, List.getElem?_cons_succ, R.bind_ok, h]
  unfold sfault
  cases f1 : faultT ts with
  | some d =>
    rw [f1] at e1
    refine ⟨s1, Grx.of g1, ?_⟩
    exact call_ex b.h76 rfl rfl (expr_exc (arg1 _ _ s1 _ e1))
  | none =>
    rw [f1] at e1
    have t1 := fun cs => exs_expr (cs := cs) (cl := clF Γ j) (τ := [some (.ref i), some (.ref n), some (.ref m), some (.ref q), none, none, none, none]) (arg1 _ _ s1 _ e1)
    have tok := tok_of f1
    have hi1 := g1.at hi
    have hn1 := g1.at hn
    have hm1 := g1.at hm
    have hq1 := g1.at hq
    obtain ⟨s2, g2, e2⟩ := check_keys b.toB5 (k := j) (by omega) hn1 hm1 tok (vk.mono g1)
    have arg2 : ∀ (s' : S) (r : R D), (clF Γ j).call 349 [.ref n, .ref m] s1 = r → evE (clF Γ j) (.call 349 (.cons (.var 1) (.cons (.var 2) .nil))) [some (.ref i), some (.ref n), some (.ref m), some (.ref q), none, none, none, none] s1 = r := fun s' r h => by
      simp only [evE, ev, evs, plainT, List.getElem?_cons_zero, List.getElem?_cons_succ, R.bind_ok, h]
    cases f2 : faultK ts ks with
    | some d =>
      rw [f2] at e2
      refine ⟨s2, Grx.of (g1.trans g2), ?_⟩
      exact call_ex b.h76 rfl rfl ((t1 _).trans (expr_exc (arg2 s2 _ e2)))
    | none =>
      rw [f2] at e2
      have t2 := fun cs => exs_expr (cs := cs) (cl := clF Γ j) (τ := [some (.ref i), some (.ref n), some (.ref m), some (.ref q), none, none, none, none]) (arg2 s2 _ e2)
      have kok := kok_of tok f2
      obtain ⟨s3, g3, e3⟩ := check_services b.toB6 (k := j) (by omega) (g2.at hn1) (g2.at hq1) tok (vs.mono (g1.trans g2))
      have arg3 : ∀ (s' : S) (r : R D), (clF Γ j).call 354 [.ref n, .ref q] s2 = r → evE (clF Γ j) (.call 354 (.cons (.var 1) (.cons (.var 3) .nil))) [some (.ref i), some (.ref n), some (.ref m), some (.ref q), none, none, none, none] s2 = r := fun s' r h => by
        simp only [evE, ev, evs, plainT, List.getElem?_cons_zero, List.getElem?_cons_succ, R.bind_ok, h]
      cases f3 : faultS ts ss with
      | some d =>
        rw [f3] at e3
        refine ⟨s3, Grx.of ((g1.trans g2).trans g3), ?_⟩
        exact call_ex b.h76 rfl rfl ((t1 _).trans ((t2 _).trans (expr_exc (arg3 s3 _ e3))))
      | none =>
        rw [f3] at e3
        have t3 := fun cs => exs_expr (cs := cs) (cl := clF Γ j) (τ := [some (.ref i), some (.ref n), some (.ref m), some (.ref q), none, none, none, none]) (arg3 s3 _ e3)
        have g4 := Gro.new s3 (.dct (DK []))
        have g5 := Gro.new (s3 ++ [.dct (DK [])]) (.dct (DK []))
        have G5 := (((g1.trans g2).trans g3).trans g4).trans g5
        have q5 := G5.at hq
        obtain ⟨l, s6, g6, e6, r6⟩ := names_of (cl := clF Γ j) (τ := [some (.ref i), some (.ref n), some (.ref m), some (.ref q), some (.ref s3.length), some (.ref (s3 ++ [O.dct (DK [])]).length), none, none]) (i := 3) rfl q5 vs.1
        have a6 : s6[s3.length]? = some (.dct (DK [])) := g6.at (g5.at new_at)
        have c6 : s6[(s3 ++ [O.dct (DK [])]).length]? = some (.dct (DK [])) := g6.at new_at
        have same := st2_same a6 c6
        have lens : s3.length < s6.length := (List.getElem?_eq_some_iff.mp a6).1
        have lenc : (s3 ++ [O.dct (DK [])]).length < s6.length := (List.getElem?_eq_some_iff.mp c6).1
        have hac : s3.length ≠ (s3 ++ [O.dct (DK [])]).length := by simp
        have lt : ∀ {x : Nat} {o : O}, s3[x]? = some o → x ≠ s3.length ∧ x ≠ (s3 ++ [O.dct (DK [])]).length := fun h => by
          have := (List.getElem?_eq_some_iff.mp h).1
          simp
          omega
        have G3 := (g1.trans g2).trans g3
        have ln := lt (G3.at hn)
        have lm := lt (G3.at hm)
        have lq := lt (G3.at hq)
        have li := lt (G3.at hi)
        have la : l ≠ s3.length := fun e => by rw [e, a6] at e6; cases e6
        have lc : l ≠ (s3 ++ [O.dct (DK [])]).length := fun e => by rw [e, c6] at e6; cases e6
        have lp := cap_loop b.toB7 (k := j) (by omega) (s := s6) (z := .ref i) (ok := (Src.lst l ((nm ss).map .str)).ok) lens lenc hac (fun W C => lstAt_of ((st2_o la lc).trans e6))
          (g6.at (G5.at hn)) (g6.at (G5.at hm)) (g6.at q5) kok ln.1 ln.2 lm.1 lm.2 lq.1 lq.2 (nm ss) [] [] none none (serv_of f3) (sortT_nodup d3) (by simp) (by
            show 0 + (sortT (ss.map (·.1))).length < 64
            rw [sortT_len, List.length_map, Nat.zero_add]
            exact vs.1) (by simp)
        obtain ⟨x6, x7, lp⟩ := lp
        rw [same] at lp
        have bd : exs (clF Γ j) b76 [some (.ref i), some (.ref n), some (.ref m), some (.ref q), none, none, none, none] s = (lpEnd "capped" [some (.ref i), some (.ref n), some (.ref m), some (.ref q), some (.ref s3.length), some (.ref (s3 ++ [O.dct (DK [])]).length), x6, x7] (st2 s6 s3.length (s3 ++ [O.dct (DK [])]).length (capL ts ks ss (nm ss) [] []).2.1 (capL ts ks ss (nm ss) [] []).2.2) (capL ts ks ss (nm ss) [] []).1).bind fun τ s => exs (clF Γ j) tail76 τ s := by
          unfold b76
          refine (t1 _).trans ((t2 _).trans ((t3 _).trans ?_))
          refine (exs_asg (d := .ref s3.length) (s' := s3 ++ [.dct (DK [])]) rfl).trans ?_
          refine (exs_asg (d := .ref (s3 ++ [O.dct (DK [])]).length) (s' := (s3 ++ [.dct (DK [])]) ++ [.dct (DK [])]) rfl).trans ?_
          rw [exs]
          refine (congrArg (fun r : SR => r.bind fun τ s => exs (clF Γ j) tail76 τ s) (ex_for (t := .var 6) (k := .seq) (body := capBody) r6 (src := .lst l ((nm ss).map .str)) (by simp only [srcOf, lstAt_of e6, Option.map_some]; rfl))).trans ?_
          exact congrArg (fun r : SR => r.bind fun τ s => exs (clF Γ j) tail76 τ s) lp
        have GX : Grx i s (st2 s6 s3.length (s3 ++ [O.dct (DK [])]).length (capL ts ks ss (nm ss) [] []).2.1 (capL ts ks ss (nm ss) [] []).2.2) := fun j o hj e => by
          obtain ⟨p1, p2⟩ := lt (G3.at e)
          rw [st2_o p1 p2]
          exact g6.at (G5.at e)
        have keep : ∀ {x : Nat} {o : O}, s[x]? = some o → (st2 s6 s3.length (s3 ++ [O.dct (DK [])]).length (capL ts ks ss (nm ss) [] []).2.1 (capL ts ks ss (nm ss) [] []).2.2)[x]? = some o := fun e => by
          obtain ⟨p1, p2⟩ := lt (G3.at e)
          rw [st2_o p1 p2]
          exact g6.at (G5.at e)
        revert bd
        cases hr : (capL ts ks ss (nm ss) [] []).1 with
        | some y => exact fun bd => ⟨_, GX, call_ex b.h76 rfl rfl bd⟩
        | none =>
          intro bd
          obtain ⟨τ', s', h1, h2, h3⟩ := tail_ok b (k := j) (b0 := s.length) (by rw [st2_len]; have := glen g6; simp at this; have := glen G3; omega) (glen G3) (by have := glen G3; simp; omega) (x6 := x6) (x7 := x7) (keep hi) (keep hn) (keep hm) (keep hq) (st2_a lens hac) (st2_c lenc) vt.1 vk.1 vs.1 d1 d2 d3
          exact ⟨s', GX.trans h1, call_nx b.h76 rfl rfl (bd.trans h3), h2⟩
end SL

set_option Elab.async false
set_option linter.all false
set_option maxRecDepth 100000
set_option autoImplicit false
set_option maxHeartbeats 1000000
/-! SLl: the law's own checks of words and integers. -/
namespace SL
open PySem PySem.Spec PyProof.Rows L2 G
/-- 116: _law_bad_columns -/
def b116 : Cms := .cons (.ret (.call 247 (.cons (.var 0) (.cons (.lst (.cons (.tup (.cons (.var 1) .nil)) (.cons (.tup (.cons (.cst (.int 0)) (.cons (.cst (.int 0)) .nil))) (.cons (.tup (.cons (.cst (.int 1)) (.cons (.cst (.int 0)) .nil))) (.cons (.lst (.cons (.cst (.int 0)) .nil)) (.cons (.tup (.cons (.cst (.bl true)) .nil)) (.cons (.tup (.cons (.neg (.cst (.int 1))) .nil)) (.cons (.cst .non) (.cons (.tup (.cons (.cst (.str "a")) .nil)) (.cons (.cst (.int 0)) (.cons (.tup (.cons (.cst (.int 0)) (.cons (.cst (.int 1)) (.cons (.cst (.int 2)) (.cons (.cst (.int 3)) (.cons (.cst (.int 4)) .nil)))))) .nil))))))))))) .nil)))) .nil
def f116 : Fn := ⟨2, 2, b116⟩
/-- 286: _law_spoil_tables -/
def b286 : Cms := .cons (.asg (.loc (.var 3)) (.call 247 (.cons (.var 0) (.cons (.blt .list (.cons (.var 2) .nil)) .nil))))
    (.cons (.ite (.cmp .eq (.var 1) (.cst (.int 0))) (.cons (.asg (.sub (.var 2) (.call 247 (.cons (.var 0) (.cons (.lst (.cons (.cst (.str "")) (.cons (.cst (.str "A")) (.cons (.bin .add (.var 3) (.cst (.str "1"))) (.cons (.cst (.str "abcdefghi")) (.cons (.bin .add (.var 3) (.cst (.str " "))) (.cons (.cst (.str "a-b")) .nil))))))) .nil)))) (.cst (.int 1))) .nil) (.nil))
    (.cons (.ite (.cmp .eq (.var 1) (.cst (.int 1))) (.cons (.asg (.sub (.var 2) (.var 3)) (.call 247 (.cons (.var 0) (.cons (.lst (.cons (.cst (.int 0)) (.cons (.cst (.int 5)) (.cons (.neg (.cst (.int 1))) (.cons (.cst (.bl true)) (.cons (.cst .non) (.cons (.cst (.str "a")) (.cons (.bin .pow (.cst (.int 10)) (.cst (.int 30))) .nil)))))))) .nil)))) .nil) (.nil))
    (.cons (.ite (.cmp .eq (.var 1) (.cst (.int 2))) (.cons (.ite (.cmp .eq (.call 148 (.cons (.var 0) (.cons (.cst (.int 2)) .nil))) (.cst (.int 0))) (.cons (.expr (.meth .clear (.var 2) .nil)) .nil) (.cons (.for_ (.var 4) .seq (.cons (.lst (.cons (.cst (.str "p")) (.cons (.cst (.str "pq")) (.cons (.cst (.str "pqr")) (.cons (.cst (.str "pqrs")) (.cons (.cst (.str "q")) (.cons (.cst (.str "qr")) .nil))))))) .nil) (.cons (.asg (.sub (.var 2) (.var 4)) (.cst (.int 2))) .nil)) .nil)) .nil) (.nil)) .nil)))
def f286 : Fn := ⟨3, 5, b286⟩
/-- 322: _law_width -/
def b322 : Cms := .cons (.asg (.loc (.var 2)) (.meth .get (.var 0) (.cons (.var 1) (.cons (.cst (.int 2)) .nil))))
    (.cons (.ite (.cmp .nin (.var 2) (.lst (.cons (.cst (.int 1)) (.cons (.cst (.int 2)) (.cons (.cst (.int 3)) (.cons (.cst (.int 4)) .nil)))))) (.cons (.ret (.cst (.int 2))) .nil) (.nil))
    (.cons (.ret (.blt .int (.cons (.var 2) .nil))) .nil))
def f322 : Fn := ⟨2, 3, b322⟩
/-- 284: _law_spoil_keys -/
def b284 : Cms := .cons (.asg (.loc (.var 4)) (.call 247 (.cons (.var 0) (.cons (.bin .add (.blt .list (.cons (.var 2) .nil)) (.lst (.cons (.cst (.str "zzzzzzzz")) .nil))) .nil))))
    (.cons (.ite (.cmp .eq (.var 1) (.cst (.int 3))) (.cons (.asg (.sub (.var 3) (.bin .add (.var 4) (.cst (.str "z")))) (.tup (.cons (.cst (.int 0)) .nil))) .nil) (.nil))
    (.cons (.ite (.cmp .eq (.var 1) (.cst (.int 4))) (.cons (.asg (.loc (.var 5)) (.call 322 (.cons (.var 2) (.cons (.var 4) .nil))))
    (.cons (.asg (.sub (.var 3) (.var 4)) (.call 247 (.cons (.var 0) (.cons (.lst (.cons (.tup .nil) (.cons (.blt .tuple (.cons (.lrg (.var 5)) .nil)) (.cons (.call 116 (.cons (.var 0) (.cons (.var 5) .nil))) .nil)))) .nil)))) .nil)) (.nil)) .nil))
def f284 : Fn := ⟨4, 6, b284⟩
/-- 285: _law_spoil_services -/
def b285 : Cms := .cons (.asg (.loc (.var 4)) (.call 247 (.cons (.var 0) (.cons (.blt .list (.cons (.var 3) .nil)) .nil))))
    (.cons (.asg (.loc (.var 5)) (.call 247 (.cons (.var 0) (.cons (.blt .list (.cons (.var 2) .nil)) .nil))))
    (.cons (.asg (.loc (.var 6)) (.call 322 (.cons (.var 2) (.cons (.var 5) .nil))))
    (.cons (.ite (.cmp .eq (.var 1) (.cst (.int 5))) (.cons (.asg (.sub (.var 3) (.call 247 (.cons (.var 0) (.cons (.lst (.cons (.cst (.str "")) (.cons (.cst (.str "B")) (.cons (.bin .add (.var 4) (.cst (.str "2"))) (.cons (.cst (.str "abcdefghijk")) (.cons (.bin .add (.cst (.str " ")) (.var 4)) .nil)))))) .nil)))) (.tup (.cons (.var 5) (.cons (.tup .nil) (.cons (.cst .non) .nil))))) .nil) (.nil))
    (.cons (.ite (.cmp .eq (.var 1) (.cst (.int 6))) (.cons (.asg (.loc (.var 7)) (.lst (.cons (.tup (.cons (.var 5) (.cons (.tup .nil) .nil))) (.cons (.lst (.cons (.var 5) (.cons (.tup .nil) (.cons (.cst .non) .nil)))) (.cons (.tup (.cons (.bin .add (.var 5) (.cst (.str "z"))) (.cons (.tup .nil) (.cons (.cst .non) .nil)))) (.cons (.tup (.cons (.var 5) (.cons (.call 116 (.cons (.var 0) (.cons (.var 6) .nil))) (.cons (.cst (.int 2)) .nil)))) .nil))))))
    (.cons (.asg (.loc (.var 7)) (.bin .add (.var 7) (.lst (.cons (.tup (.cons (.var 5) (.cons (.tup .nil) (.cons (.call 247 (.cons (.var 0) (.cons (.lst (.cons (.cst (.int 0)) (.cons (.cst (.int 5)) (.cons (.cst (.bl true)) (.cons (.neg (.cst (.int 1))) (.cons (.cst (.str "a")) (.cons (.tup (.cons (.cst (.int 1)) .nil)) .nil))))))) .nil))) .nil)))) (.cons (.cst .non) (.cons (.tup (.cons (.cst (.int 5)) (.cons (.tup .nil) (.cons (.cst .non) .nil)))) .nil))))))
    (.cons (.asg (.sub (.var 3) (.var 4)) (.call 247 (.cons (.var 0) (.cons (.var 7) .nil)))) .nil))) (.nil))
    (.cons (.ite (.cmp .eq (.var 1) (.cst (.int 7))) (.cons (.asg (.sub (.var 3) (.call 325 (.cons (.var 0) (.cons (.bin .add (.cst (.int 1)) (.call 148 (.cons (.var 0) (.cons (.cst (.int 8)) .nil)))) .nil)))) (.tup (.cons (.var 5) (.cons (.tup .nil) (.cons (.bin .add (.cst (.int 1)) (.call 148 (.cons (.var 0) (.cons (.cst (.int 4)) .nil)))) .nil)))))
    (.cons (.asg (.sub (.var 3) (.call 325 (.cons (.var 0) (.cons (.bin .add (.cst (.int 1)) (.call 148 (.cons (.var 0) (.cons (.cst (.int 8)) .nil)))) .nil)))) (.tup (.cons (.var 5) (.cons (.tup .nil) (.cons (.bin .add (.cst (.int 1)) (.call 148 (.cons (.var 0) (.cons (.cst (.int 4)) .nil)))) .nil))))) .nil)) (.nil))
    (.cons (.ite (.cmp .eq (.var 1) (.cst (.int 8))) (.cons (.ite (.cmp .eq (.call 148 (.cons (.var 0) (.cons (.cst (.int 2)) .nil))) (.cst (.int 0))) (.cons (.expr (.meth .clear (.var 3) .nil)) .nil) (.cons (.for_ (.var 8) .seq (.cons (.lst (.cons (.cst (.str "p")) (.cons (.cst (.str "pq")) (.cons (.cst (.str "pqr")) (.cons (.cst (.str "pqrs")) (.cons (.cst (.str "q")) (.cons (.cst (.str "qr")) (.cons (.cst (.str "qrs")) (.cons (.cst (.str "r")) (.cons (.cst (.str "rs")) .nil)))))))))) .nil) (.cons (.asg (.sub (.var 3) (.var 8)) (.tup (.cons (.var 5) (.cons (.tup .nil) (.cons (.cst .non) .nil))))) .nil)) .nil)) .nil) (.nil)) .nil))))))
def f285 : Fn := ⟨4, 9, b285⟩
/-- 185: _law_is_integer -/
def b185 : Cms := .cons (.ret (.and (.isi (.var 0) .int) (.not (.isi (.var 0) .bool)))) .nil
def f185 : Fn := ⟨1, 1, b185⟩
/-- 199: _law_is_word -/
def b199 : Cms := .cons (.ite (.or (.not (.isi (.var 0) .str)) (.or (.cmp .lt (.blt .len (.cons (.var 0) .nil)) (.cst (.int 1))) (.cmp .gt (.blt .len (.cons (.var 0) .nil)) (.cst (.int 8))))) (.cons (.ret (.cst (.bl false))) .nil) (.nil))
    (.cons (.ret (.cmp .eq (.lc (.var 1) (.var 1) .seq (.cons (.var 0) .nil) (.cmp .nin (.var 1) (.cst (.str "abcdefghijklmnopqrstuvwxyz"))) [("_law_sign", 1)]) (.lst .nil))) .nil)
def f199 : Fn := ⟨1, 2, b199⟩
/-- 170: _law_good_columns -/
def b170 : Cms := .cons (.ite (.not (.isi (.var 0) .tuple)) (.cons (.ret (.cst (.bl false))) .nil) (.nil))
    (.cons (.for_ (.var 2) .rng1 (.cons (.blt .len (.cons (.var 0) .nil)) .nil) (.cons (.ite (.or (.not (.call 185 (.cons (.ix (.var 0) (.var 2)) .nil))) (.or (.cmp .lt (.ix (.var 0) (.var 2)) (.cst (.int 0))) (.cmp .ge (.ix (.var 0) (.var 2)) (.var 1)))) (.cons (.ret (.cst (.bl false))) .nil) (.nil))
    (.cons (.ite (.and (.cmp .gt (.var 2) (.cst (.int 0))) (.cmp .ge (.ix (.var 0) (.bin .sub (.var 2) (.cst (.int 1)))) (.ix (.var 0) (.var 2)))) (.cons (.ret (.cst (.bl false))) .nil) (.nil)) .nil)))
    (.cons (.ret (.cst (.bl true))) .nil))
def f170 : Fn := ⟨2, 3, b170⟩
/-- 172: _law_good_service -/
def b172 : Cms := .cons (.ite (.or (.not (.isi (.var 1) .tuple)) (.cmp .ne (.blt .len (.cons (.var 1) .nil)) (.cst (.int 3)))) (.cons (.ret (.cst (.bl false))) .nil) (.nil))
    (.cons (.ite (.or (.not (.isi (.ix (.var 1) (.cst (.int 0))) .str)) (.cmp .nin (.ix (.var 1) (.cst (.int 0))) (.var 0))) (.cons (.ret (.cst (.bl false))) .nil) (.nil))
    (.cons (.ite (.not (.call 170 (.cons (.ix (.var 1) (.cst (.int 1))) (.cons (.ix (.var 0) (.ix (.var 1) (.cst (.int 0)))) .nil)))) (.cons (.ret (.cst (.bl false))) .nil) (.nil))
    (.cons (.ret (.or (.cmp .isn (.ix (.var 1) (.cst (.int 2))) (.cst .non)) (.and (.call 185 (.cons (.ix (.var 1) (.cst (.int 2))) .nil)) (.cmp2 .le .le (.cst (.int 1)) (.ix (.var 1) (.cst (.int 2))) (.cst (.int 4)))))) .nil)))
def f172 : Fn := ⟨2, 2, b172⟩
/-- 159: _law_fault -/
def b159 : Cms := .cons (.ite (.or (.cmp .lt (.blt .len (.cons (.var 0) .nil)) (.cst (.int 1))) (.cmp .gt (.blt .len (.cons (.var 0) .nil)) (.cst (.int 5)))) (.cons (.ret (.tup (.cons (.cst (.str "tables")) (.cons (.cst .non) .nil)))) .nil) (.nil))
    (.cons (.for_ (.var 3) .seq (.cons (.blt .sorted (.cons (.blt .list (.cons (.var 0) .nil)) .nil)) .nil) (.cons (.ite (.or (.not (.call 199 (.cons (.var 3) .nil))) (.or (.not (.call 185 (.cons (.ix (.var 0) (.var 3)) .nil))) (.or (.cmp .lt (.ix (.var 0) (.var 3)) (.cst (.int 1))) (.cmp .gt (.ix (.var 0) (.var 3)) (.cst (.int 4)))))) (.cons (.ret (.tup (.cons (.cst (.str "tables")) (.cons (.var 3) .nil)))) .nil) (.nil)) .nil))
    (.cons (.for_ (.var 3) .seq (.cons (.blt .sorted (.cons (.blt .list (.cons (.var 1) .nil)) .nil)) .nil) (.cons (.ite (.or (.cmp .nin (.var 3) (.var 0)) (.not (.call 170 (.cons (.ix (.var 1) (.var 3)) (.cons (.ix (.var 0) (.var 3)) .nil))))) (.cons (.ret (.tup (.cons (.cst (.str "keys")) (.cons (.var 3) .nil)))) .nil) (.nil))
    (.cons (.ite (.or (.cmp .eq (.blt .len (.cons (.ix (.var 1) (.var 3)) .nil)) (.cst (.int 0))) (.cmp .eq (.blt .len (.cons (.ix (.var 1) (.var 3)) .nil)) (.ix (.var 0) (.var 3)))) (.cons (.ret (.tup (.cons (.cst (.str "keys")) (.cons (.var 3) .nil)))) .nil) (.nil)) .nil)))
    (.cons (.ite (.or (.cmp .lt (.blt .len (.cons (.var 2) .nil)) (.cst (.int 1))) (.cmp .gt (.blt .len (.cons (.var 2) .nil)) (.cst (.int 8)))) (.cons (.ret (.tup (.cons (.cst (.str "services")) (.cons (.cst .non) .nil)))) .nil) (.nil))
    (.cons (.for_ (.var 3) .seq (.cons (.blt .sorted (.cons (.blt .list (.cons (.var 2) .nil)) .nil)) .nil) (.cons (.ite (.or (.not (.call 199 (.cons (.var 3) .nil))) (.not (.call 172 (.cons (.var 0) (.cons (.ix (.var 2) (.var 3)) .nil))))) (.cons (.ret (.tup (.cons (.cst (.str "services")) (.cons (.var 3) .nil)))) .nil) (.nil)) .nil))
    (.cons (.asg (.loc (.var 4)) (.lst .nil))
    (.cons (.for_ (.var 3) .seq (.cons (.blt .sorted (.cons (.blt .list (.cons (.var 2) .nil)) .nil)) .nil) (.cons (.ite (.not (.call 198 (.cons (.var 0) (.cons (.var 1) (.cons (.ix (.var 2) (.var 3)) .nil))))) (.cons (.ite (.cmp .inn (.ix (.ix (.var 2) (.var 3)) (.cst (.int 0))) (.var 4)) (.cons (.ret (.tup (.cons (.cst (.str "capped")) (.cons (.var 3) .nil)))) .nil) (.nil))
    (.cons (.expr (.meth .append (.var 4) (.cons (.ix (.ix (.var 2) (.var 3)) (.cst (.int 0))) .nil))) .nil)) (.nil)) .nil))
    (.cons (.ret (.cst .non)) .nil)))))))
def f159 : Fn := ⟨3, 5, b159⟩
end SL
namespace SL
open PySem L2 G
/-! ### stores that keep their objects, or the kinds of their objects -/
def Gp (s s' : S) : Prop := ∀ (j : Nat) (o : O), s[j]? = some o → s'[j]? = some o
theorem Gp.refl (s : S) : Gp s s := fun _ _ h => h
theorem Gp.trans {a b c : S} (h : Gp a b) (g : Gp b c) : Gp a c := fun j o e => g j o (h j o e)
theorem Gp.of {s s' : S} (h : Gro s s') : Gp s s' := fun _ _ e => h.at e
theorem Gp.new (s : S) (o : O) : Gp s (s ++ [o]) := .of (.new s o)
def kndO : O → Nat
  | .lst _ => 0
  | .dct _ => 1
  | .ins _ _ => 2
  | .frd _ => 3
  | .set _ => 4
def Kd (s s' : S) : Prop := ∀ (j : Nat) (o : O), s[j]? = some o → ∃ o', s'[j]? = some o' ∧ kndO o' = kndO o
theorem Kd.refl (s : S) : Kd s s := fun _ o h => ⟨o, h, rfl⟩
theorem Kd.trans {a b c : S} (h : Kd a b) (g : Kd b c) : Kd a c := fun j o e => by
  obtain ⟨o1, h1, e1⟩ := h j o e
  obtain ⟨o2, h2, e2⟩ := g j o1 h1
  exact ⟨o2, h2, e2.trans e1⟩
theorem Gp.kd {s s' : S} (h : Gp s s') : Kd s s' := fun j o e => ⟨o, h j o e, rfl⟩
theorem Pl.kd {s s' : S} (h : Kd s s') {d : D} (p : Pl s d) : Pl s' d := by
  cases d <;> first
    | trivial
    | (refine p.imp (fun ⟨ds, e⟩ => ?_) fun ⟨ds, e⟩ => ?_
       · obtain ⟨o, h1, h2⟩ := h _ _ e
         cases o <;> first
           | (cases h2; done)
           | exact ⟨_, h1⟩
       · obtain ⟨o, h1, h2⟩ := h _ _ e
         cases o <;> first
           | (cases h2; done)
           | exact ⟨_, h1⟩)
theorem SvOk.kd {s s' : S} (h : Kd s s') {d : D} (p : SvOk s d) : SvOk s' d :=
  ⟨p.1.kd h, fun ds e z hz => let ⟨a, b, c⟩ := p.2 ds e z hz; ⟨a.kd h, b, fun es e2 y hy => (c es e2 y hy).kd h⟩⟩
theorem Vals.kd {s s' : S} (g : Kd s s') {ts : List (Str × D)} (h : Vals s ts) : Vals s' ts := ⟨h.1, fun p hp => ⟨(h.2 p hp).1, (h.2 p hp).2.kd g⟩⟩
theorem Vals2.kd {s s' : S} (g : Kd s s') {ts : List (Str × D)} (h : Vals2 s ts) : Vals2 s' ts := ⟨h.1, fun p hp => ⟨(h.2 p hp).1, (h.2 p hp).2.kd g⟩⟩
/-! ### flat values, and lists of them -/
def FlA : D → Prop
  | .non => True
  | .bl _ => True
  | .int _ => True
  | .str x => Asc x
  | _ => False
def flP : D → PyData
  | .bl b => .bool b
  | .int i => .int i
  | .str x => .str x
  | _ => .none
theorem toP_fl {k : Nat} {s : S} {d : D} (h : FlA d) : toP k s d = some (flP d) := by
  cases d <;> first
    | (cases h; done)
    | (cases k <;> simp only [toP, flP])
theorem lay_fl {d : D} (h : FlA d) : PyData.canLay0 (flP d) = true ∧ PyData.depth (flP d) = 0 := by
  cases d <;> first
    | (cases h; done)
    | exact ⟨asc_ok h, rfl⟩
    | exact ⟨rfl, rfl⟩
theorem toPs_fl {k : Nat} {s : S} : ∀ {ds : List D}, (∀ d ∈ ds, FlA d) → toPs k s ds = some (ds.map flP)
  | [], _ => by simp [toPs]
  | d :: ds, h => by simp only [toPs, toP_fl (h d (by simp)), toPs_fl (k := k) (s := s) (ds := ds) fun z hz => h z (by simp [hz]), List.map_cons]
theorem lays_fl : ∀ {ds : List D}, (∀ d ∈ ds, FlA d) → PyData.canLayAll0 (ds.map flP) = true ∧ PyData.depthAll (ds.map flP) = 0
  | [], _ => by simp [PyData.canLayAll0, PyData.depthAll]
  | d :: ds, h => by
    obtain ⟨a, b⟩ := lay_fl (h d (by simp))
    obtain ⟨e, f⟩ := lays_fl (ds := ds) fun z hz => h z (by simp [hz])
    constructor
    · simp only [List.map_cons, PyData.canLayAll0, a, e, Bool.and_self]
    · simp only [List.map_cons, PyData.depthAll, b, f]; decide
theorem shp_fl {d : D} (h : FlA d) : SeqAt.shaped (flP d) = true := by
  obtain ⟨a, b⟩ := lay_fl h
  unfold SeqAt.shaped
  simp only [a, b, Bool.true_and]
  decide
theorem shp_lst {ds : List D} (h : ∀ d ∈ ds, FlA d) : SeqAt.shaped (.list (ds.map flP)) = true := by
  obtain ⟨a, b⟩ := lays_fl h
  unfold SeqAt.shaped
  simp only [PyData.canLay0, PyData.depth, a, b, Bool.true_and]
  decide
theorem shp_tup {ds : List D} (h : ∀ d ∈ ds, FlA d) : SeqAt.shaped (.tuple (ds.map flP)) = true := by
  obtain ⟨a, b⟩ := lays_fl h
  unfold SeqAt.shaped
  simp only [PyData.canLay0, PyData.depth, a, b, Bool.true_and]
  decide
/-- a list of flat things == [] -/
theorem eq_nil {s : S} {m n : Nat} {ds : List D} (h : ∀ d ∈ ds, FlA d) (h1 : s[m]? = some (.lst ds)) (h2 : s[n]? = some (.lst [])) : eqD (.ref m) (.ref n) s = .ok ds.isEmpty s := by
  rw [eqD_lst h1]
  simp only [eqP, toP_ref h1, toP_ref h2, toPs_fl h, toPs, Option.map_some]
  rw [if_pos ⟨shp_lst h, by rfl⟩]
  congr 1
  cases ds <;> simp [PyData.eqv, PyData.eqvAll]
theorem lcS_cons {ok : S → Prop} {g : D → S → R (Option D)} {d : D} {ds r : List D} {od : Option D} {s s1 s2 : S} (h : ok s) (h1 : g d s = .ok od s1) (h2 : lcS ok g ds s1 = .ok r s2) : lcS ok g (d :: ds) s = .ok (od.toList ++ r) s2 := by
  unfold lcS
  rw [if_pos h, h1, R.bind_ok, h2, R.bind_ok]
  cases od <;> rfl
/-- a comprehension that keeps some of its items -/
theorem lcS_keep {ok : S → Prop} {g : D → S → R (Option D)} {s : S} {p : D → Bool} (hok : ok s) : ∀ (ds : List D), (∀ d ∈ ds, g d s = .ok (if p d = true then some d else none) s) → lcS ok g ds s = .ok (ds.filter p) s
  | [], _ => by unfold lcS; rw [if_pos hok]; rfl
  | d :: ds, h => by
    rw [lcS_cons hok (h d (by simp)) (lcS_keep hok ds fun z hz => h z (by simp [hz])), List.filter_cons]
    cases p d <;> rfl
structure BW (Γ : Ga) : Prop extends B8 Γ where
  h198 : Γ.fns.lookup 198 = some f198
structure BL (Γ : Ga) : Prop extends BW Γ where
  h185 : Γ.fns.lookup 185 = some f185
  h199 : Γ.fns.lookup 199 = some f199
  h170 : Γ.fns.lookup 170 = some f170
  h172 : Γ.fns.lookup 172 = some f172
  h159 : Γ.fns.lookup 159 = some f159
theorem l_integer {Γ : Ga} (b : BL Γ) {k : Nat} (hk : 1 ≤ k) {s : S} {d : D} (h : Pl s d) : (clF Γ k).call 185 [d] s = .ok (.bl (intOf d)) s := by
  obtain ⟨j, rfl, hj⟩ := lv hk
  refine call_rt b.h185 (τ := [some d]) rfl rfl (exs_ret ?_)
  obtain ⟨_, h1, h2, _⟩ := isi_at h
  simp only [evE, ev, plainT, List.getElem?_cons_zero, R.bind_ok, h1]
  cases d <;> first | rfl | (simp only [isI, R.bind_ok, h2]; rfl)
theorem fl_chars {x : Str} (h : Asc x) : ∀ d ∈ chars x, FlA d := by
  intro d hd
  obtain ⟨c, hc, rfl⟩ := List.mem_map.mp hd
  exact asc_one (h c hc)
def nlet : D → Bool
  | .str ⟨cs⟩ => cs.toList.any fun c => !decide (c ∈ letters.cps.toList)
  | _ => false
theorem l_word {Γ : Ga} (b : BL Γ) {k : Nat} (hk : 1 ≤ k) {s : S} {d : D} (h : Pl s d) (hz : ∀ x, d = .str x → x.length ≤ 10000 ∧ Asc x) : ∃ s', Gp s s' ∧ (clF Γ k).call 199 [d] s = .ok (.bl (isWordD d)) s' := by
  obtain ⟨j, rfl, hj⟩ := lv hk
  have hi := (isi_at h).1
  cases d with
  | str x =>
    obtain ⟨hx, ha⟩ := hz x rfl
    have hc : evT (clF Γ j) (.or (.not (.isi (.var 0) .str)) (.or (.cmp .lt (.blt .len (.cons (.var 0) .nil)) (.cst (.int 1))) (.cmp .gt (.blt .len (.cons (.var 0) .nil)) (.cst (.int 8))))) [some (.str x), none] s = .ok (!decide (1 ≤ x.length ∧ x.length ≤ 8)) s := by
      simp only [evT, ev, evs, plainT, asB, List.getElem?_cons_zero, R.bind_ok, hi, isS, truD, Bool.not_true, Bool.false_eq_true, if_false, Cst.d, lenS (s := s) hx, cmpD, ltD]
      by_cases h1 : 1 ≤ x.length
      · rw [decide_eq_false (by omega : ¬ (x.length : Int) < 1), if_neg Bool.false_ne_true]
        by_cases h2 : x.length ≤ 8
        · rw [decide_eq_false (by omega), decide_eq_true ⟨h1, h2⟩]; rfl
        · rw [decide_eq_true (by omega), decide_eq_false (fun z => h2 z.2)]; rfl
      · rw [decide_eq_true (by omega : (x.length : Int) < 1), if_pos rfl, decide_eq_false (fun z => h1 z.1)]
        rfl
    by_cases hl : 1 ≤ x.length ∧ x.length ≤ 8
    · rw [decide_eq_true hl] at hc
      have hw : isWordD (.str x) = x.cps.toList.all fun c => decide (c ∈ letters.cps.toList) := by simp only [isWordD, wordB, decide_eq_true hl, Bool.true_and]
      have hlc : lcS (Src.vals (chars x)).ok (lcB (clF Γ j) [some (.str x), none] [1] (.var 1) (.cmp .nin (.var 1) (.cst (.str "abcdefghijklmnopqrstuvwxyz"))) (.var 1)) (chars x) s = .ok ((chars x).filter nlet) s := by
        refine lcS_keep trivial _ fun d hd => ?_
        obtain ⟨c, hc, rfl⟩ := List.mem_map.mp hd
        have e : evT (clF Γ j) (.cmp .nin (.var 1) (.cst (.str "abcdefghijklmnopqrstuvwxyz"))) [some (.str x), some (.str ⟨#[c]⟩)] s = .ok (nlet (.str ⟨#[c]⟩)) s := by
          simp only [evT, ev, asB, plainT, List.getElem?_cons_succ, List.getElem?_cons_zero, R.bind_ok, Cst.d]
          refine (nin_sign (c := c)).trans ?_
          simp [nlet]
        cases hq : nlet (.str ⟨#[c]⟩) with
        | true => rw [hq] at e; exact lcB_if rfl e rfl
        | false => rw [hq] at e; exact lcB_no rfl e
      have hfl : ∀ d ∈ (chars x).filter nlet, FlA d := fun d hd => fl_chars ha d (List.mem_filter.mp hd).1
      have e2 : evE (clF Γ j) (.lc (.var 1) (.var 1) .seq (.cons (.var 0) .nil) (.cmp .nin (.var 1) (.cst (.str "abcdefghijklmnopqrstuvwxyz"))) [("_law_sign", 1)]) [some (.str x), none] s = .ok (.ref s.length) (s ++ [.lst ((chars x).filter nlet)]) :=
        ev_lc (s2 := s) (src := .vals (chars x)) rfl rfl (by
          show (chars x).length < _
          unfold chars
          rw [List.length_map, sizeLine_eq]
          have : x.cps.toList.length = x.length := by simp [Str.length]
          omega) hlc
      have g1 := Gp.new s (.lst ((chars x).filter nlet))
      have g2 := Gp.new (s ++ [.lst ((chars x).filter nlet)]) (.lst [])
      refine ⟨_, g1.trans g2, call_rt b.h199 (τ := [some (.str x), none]) rfl rfl ((exs_skip hc).trans (exs_ret ?_))⟩
      have e2 : (ev (clF Γ j) _).1 _ s = _ := e2
      have e3 := eq_nil (s := (s ++ [.lst ((chars x).filter nlet)]) ++ [.lst []]) hfl (g2 _ _ new_at) new_at
      have : ((chars x).filter nlet).isEmpty = x.cps.toList.all fun c => decide (c ∈ letters.cps.toList) := by
        rw [Bool.eq_iff_iff, List.isEmpty_iff, List.filter_eq_nil_iff, List.all_eq_true]
        unfold chars
        constructor
        · intro h c hc
          have := h (.str ⟨#[c]⟩) (List.mem_map.mpr ⟨c, hc, rfl⟩)
          simpa [nlet] using this
        · intro h d hd
          obtain ⟨c, hc, rfl⟩ := List.mem_map.mp hd
          simpa [nlet] using h c hc
      rw [evE, ev]
      simp only [asB]
      rw [e2]
      simp only [R.bind_ok, ev, evs, plainT, new, cmpD, e3]
      rw [hw, this]
    · rw [decide_eq_false hl] at hc
      have hw : isWordD (.str x) = false := by simp only [isWordD, wordB, decide_eq_false hl, Bool.false_and]
      rw [hw]
      exact ⟨s, Gp.refl s, call_rt b.h199 (τ := [some (.str x), none]) rfl rfl (exs_in hc rfl)⟩
  | _ =>
    refine ⟨s, Gp.refl s, call_rt b.h199 rfl rfl (exs_in (s' := s) ?_ rfl)⟩
    simp only [evT, ev, plainT, List.cons_append, List.map_cons, List.getElem?_cons_zero, R.bind_ok, hi, isS, truD, Bool.not_false, if_true]
end SL

set_option Elab.async false
set_option linter.all false
set_option maxRecDepth 100000
set_option autoImplicit false
set_option maxHeartbeats 1000000
/-! SLm: the law's own checks of columns and services. -/
namespace SL
open PySem L2 G
def colBody : Cms := .cons (.ite (.or (.not (.call 185 (.cons (.ix (.var 0) (.var 2)) .nil))) (.or (.cmp .lt (.ix (.var 0) (.var 2)) (.cst (.int 0))) (.cmp .ge (.ix (.var 0) (.var 2)) (.var 1)))) (.cons (.ret (.cst (.bl false))) .nil) (.nil))
    (.cons (.ite (.and (.cmp .gt (.var 2) (.cst (.int 0))) (.cmp .ge (.ix (.var 0) (.bin .sub (.var 2) (.cst (.int 1)))) (.ix (.var 0) (.var 2)))) (.cons (.ret (.cst (.bl false))) .nil) (.nil)) .nil)
theorem ixT {ds : List D} {d : D} {i : Nat} {s : S} (h : ds[i]? = some d) : ixD (.tup ds) (.int (i : Nat)) s = .ok d s := ixD_tup (by omega) (by simpa using h)
theorem cols_at {Γ : Ga} (b : BL Γ) {k : Nat} (hk : 1 ≤ k) {ok : S → Prop} (hok : ∀ s, ok s) {ds : List D} {w : Int} {s : S} (hp : ∀ z ∈ ds, Pl s z) : ∀ (suf pre : List D) (l : Int) (x : Option D), ds = pre ++ suf → (pre = [] ∧ l = -1 ∨ 0 ≤ l ∧ ∃ p, pre = p ++ [.int l]) →
    (forS ok (forB (clF Γ k) (.var 2) colBody) ((List.range' pre.length suf.length).map fun i => D.int ((0 : Int) + (i : Nat))) [some (.tup ds), some (.int w), x] s).bind (fun τ s => exs (clF Γ k) (.cons (.ret (.cst (.bl true))) .nil) τ s) = .rt (.bl (colsB l w suf)) s
  | [], pre, l, x, _, _ => by
    rw [List.length_nil, List.range'_zero, List.map_nil, forS_nil (hok s), SR.bind_nx]; rfl
  | d :: suf, pre, l, x, he, hl => by
    have hat : ds[pre.length]? = some d := by rw [he]; simp
    have hd : d ∈ ds := by rw [he]; simp
    have hi := l_integer b hk (hp d hd)
    have ia := ixT (s := s) hat
    rw [List.length_cons, List.range'_succ, List.map_cons, Int.zero_add]
    have c1 : evT (clF Γ k) (.or (.not (.call 185 (.cons (.ix (.var 0) (.var 2)) .nil))) (.or (.cmp .lt (.ix (.var 0) (.var 2)) (.cst (.int 0))) (.cmp .ge (.ix (.var 0) (.var 2)) (.var 1)))) [some (.tup ds), some (.int w), some (.int (pre.length : Nat))] s = .ok (!colsB (-1) w [d]) s := by
      simp only [evT, ev, evs, plainT, asB, List.getElem?_cons_zero, List.getElem?_cons_succ, R.bind_ok, ia, hi, truD]
      cases d <;> first
        | rfl
        | (rename_i c
           simp only [intOf, Bool.not_true, Bool.false_eq_true, if_false, R.bind_ok, cmpD, ltD, colsB, Bool.and_true, Cst.d]
           by_cases h1 : c < 0
           · rw [decide_eq_true h1, if_pos rfl, decide_eq_false (by omega : ¬ -1 < c)]; rfl
           · rw [decide_eq_false h1, if_neg Bool.false_ne_true, decide_eq_true (by omega : -1 < c), Bool.true_and]
             simp only [ia, R.bind_ok]
             by_cases h2 : c < w
             · rw [decide_eq_true h2, decide_eq_false (by omega)]; rfl
             · rw [decide_eq_false h2, decide_eq_true (by omega)]; rfl)
    rcases Bool.eq_false_or_eq_true (colsB (-1) w [d]) with hq | hq
    · rw [hq] at c1
      obtain ⟨c, rfl, q1, q2⟩ : ∃ c, d = .int c ∧ -1 < c ∧ c < w := by
        clear c1 hi ia hat hd he
        cases d <;> first
          | (cases hq; done)
          | (rename_i c
             simp only [colsB, Bool.and_true, Bool.and_eq_true, decide_eq_true_eq] at hq
             exact ⟨c, rfl, hq.1, hq.2⟩)
      have c2 : evT (clF Γ k) (.and (.cmp .gt (.var 2) (.cst (.int 0))) (.cmp .ge (.ix (.var 0) (.bin .sub (.var 2) (.cst (.int 1)))) (.ix (.var 0) (.var 2)))) [some (.tup ds), some (.int w), some (.int (pre.length : Nat))] s = .ok (!decide (l < c)) s := by
        rcases hl with ⟨rfl, rfl⟩ | ⟨hl, p, rfl⟩
        · rw [decide_eq_true q1]; rfl
        · have e1 : ((p ++ [D.int l]).length : Int) - 1 = ((p.length : Nat) : Int) := by simp
          have ib := ixT (s := s) (ds := ds) (i := p.length) (d := .int l) (by rw [he]; simp)
          have e2 : decide ((0 : Int) < ((p ++ [D.int l]).length : Nat)) = true := decide_eq_true (by simp)
          simp only [evT, ev, evs, plainT, asB, List.getElem?_cons_zero, List.getElem?_cons_succ, R.bind_ok, cmpD, Cst.d, e2, if_true, subI, e1, ib, ia]
          congr 1
          by_cases h : l < c
          · rw [decide_eq_true h, decide_eq_false (by omega)]; rfl
          · rw [decide_eq_false h, decide_eq_true (by omega)]; rfl
      by_cases h3 : l < c
      · rw [decide_eq_true h3] at c2
        rw [forS_nx (hok s) (τ' := [some (.tup ds), some (.int w), some (.int (pre.length : Nat))]) (s' := s)]
        · have := cols_at b hk hok (w := w) hp suf (pre ++ [.int c]) c (some (.int (pre.length : Nat))) (by rw [he]; simp) (.inr ⟨by omega, pre, rfl⟩)
          rw [List.length_append] at this
          refine this.trans ?_
          simp only [colsB, decide_eq_true h3, decide_eq_true q2, Bool.true_and]
        · rw [forB_var]
          exact (exs_skip c1).trans ((exs_skip c2).trans rfl)
      · rw [decide_eq_false h3] at c2
        rw [forS_rt (hok s) (x := .bl false) (s' := s), SR.bind_rt]
        · simp only [colsB, decide_eq_false h3, Bool.false_and]
        · rw [forB_var]
          exact (exs_skip c1).trans (exs_in c2 rfl)
    · rw [hq] at c1
      have e : colsB l w (d :: suf) = false := by
        clear c1 hi ia hat hd he
        cases d <;> first
          | rfl
          | (rename_i c
             simp only [colsB, Bool.and_true] at hq ⊢
             have hm : -1 ≤ l := by rcases hl with ⟨_, rfl⟩ | ⟨h, _⟩ <;> omega
             by_cases h : l < c
             · rw [decide_eq_true (by omega : -1 < c), Bool.true_and] at hq
               rw [hq, Bool.and_false, Bool.false_and]
             · rw [decide_eq_false h, Bool.false_and, Bool.false_and])
      rw [forS_rt (hok s) (x := .bl false) (s' := s), SR.bind_rt, e]
      rw [forB_var]
      exact exs_in c1 rfl
theorem l_columns {Γ : Ga} (b : BL Γ) {k : Nat} (hk : 2 ≤ k) {s : S} {d : D} {w : Int} (h : Pl s d) (ht : ∀ ds, d = .tup ds → ds.length < 2 ^ 62 ∧ ∀ z ∈ ds, Pl s z) : (clF Γ k).call 170 [d, .int w] s = .ok (.bl (isColsD d w)) s := by
  obtain ⟨j, rfl, hj⟩ := lv hk
  have hi := (isi_at h).2.2.2
  refine call_rt b.h170 (τ := [some d, some (.int w), none]) rfl rfl ?_
  cases d with
  | tup ds =>
    obtain ⟨hl, hp⟩ := ht ds rfl
    refine (exs_skip (s' := s) ?_).trans ?_
    · simp only [evT, ev, plainT, List.getElem?_cons_zero, R.bind_ok, hi, isT, truD, Bool.not_true]
    · rw [exs, ex_for (its := .cons (.blt .len (.cons (.var 0) .nil)) .nil) (ds := [.int ds.length]) (s1 := s) rfl (src_rng (by omega) (by omega) s)]
      have := cols_at b hj (ok := (Src.vals (rngD 0 ((ds.length : Nat) : Int).toNat)).ok) (fun _ => trivial) hp ds [] (-1) none (w := w) rfl (.inl ⟨rfl, rfl⟩)
      have e : (Src.vals (rngD 0 ((ds.length : Nat) : Int).toNat)).items = (List.range' 0 ds.length).map fun i => D.int ((0 : Int) + (i : Nat)) := by
        show rngD 0 ((ds.length : Nat) : Int).toNat = _
        rw [Int.toNat_natCast]
        unfold rngD
        rw [List.range_eq_range']
      rw [e]
      exact this
  | _ =>
    refine exs_in (s' := s) ?_ rfl
    simp only [evT, ev, plainT, List.getElem?_cons_zero, R.bind_ok, hi, isT, truD, Bool.not_false, if_true]
/-- tables whose names are words -/
def WOk (ts : List (Str × D)) : Prop := ∀ x d, getK ts x = some d → wordB x = true
theorem wok_of {ts : List (Str × D)} (h : faultT ts = none) : WOk ts := by
  intro x d hd
  unfold faultT at h
  split at h
  · have := find_none h x (mem_sortT.mpr (mem_of_getK hd))
    simp only [badT, hd] at this
    simp at this
    exact this.1
  · cases h
/-- things of not too many parts -/
def ShT (d : D) : Prop := ∀ ds, d = .tup ds → ∀ z ∈ ds, ∀ es, z = .tup es → es.length < 2 ^ 62
theorem l_cap {Γ : Ga} (b : BL Γ) {k : Nat} (hk : 1 ≤ k) {s : S} {τ : Fr} {t g c : D} (hc : τ[1]? = some (some (.tup [t, g, c]))) (h : Pl s c) :
    evE (clF Γ k) (.or (.cmp .isn (.ix (.var 1) (.cst (.int 2))) (.cst .non)) (.and (.call 185 (.cons (.ix (.var 1) (.cst (.int 2))) .nil)) (.cmp2 .le .le (.cst (.int 1)) (.ix (.var 1) (.cst (.int 2))) (.cst (.int 4))))) τ s = .ok (.bl (isCapD c)) s := by
  have hi := l_integer b hk h
  have e1 : cmpD .isn c .non s = .ok c.isNon s := rfl
  have e2 : ixD (.tup [t, g, c]) (.int 2) s = .ok c s := rfl
  simp only [evE, ev, evs, plainT, asB, hc, R.bind_ok, Cst.d, e2, e1]
  cases c <;> first
    | rfl
    | (simp only [D.isNon, R.bind_ok, hi, intOf]; rfl)
    | (rename_i c
       simp only [D.isNon, R.bind_ok, hi, intOf, cmpD, leD, isCapD, e2]
       by_cases h1 : 1 ≤ c
       · rw [decide_eq_true h1, if_pos rfl]; rfl
       · rw [decide_eq_false h1, if_neg Bool.false_ne_true]; rfl)
theorem l_service {Γ : Ga} (b : BL Γ) {k : Nat} (hk : 3 ≤ k) {s : S} {m : Nat} {ts : List (Str × D)} {d : D} (hm : s[m]? = some (.dct (DK ts))) (ht : TOk ts) (hw : WOk ts) (h : SvOk s d) (hs : ShT d) : (clF Γ k).call 172 [.ref m, d] s = .ok (.bl (isServD (DK ts) d)) s := by
  obtain ⟨j, rfl, hj⟩ := lv hk
  have hi := (isi_at h.1).2.2.2
  refine call_rt b.h172 (τ := [some (.ref m), some d]) rfl rfl ?_
  cases d with
  | tup ds =>
    have hc : evT (clF Γ j) (.or (.not (.isi (.var 1) .tuple)) (.cmp .ne (.blt .len (.cons (.var 1) .nil)) (.cst (.int 3)))) [some (.ref m), some (.tup ds)] s = .ok (!((ds.length : Int) == 3)) s := by
      have e2 : bltD .len [.tup ds] s = .ok (.int ds.length) s := rfl
      simp only [evT, ev, evs, plainT, asB, List.getElem?_cons_zero, List.getElem?_cons_succ, R.bind_ok, hi, isT, truD, Bool.not_true, Bool.false_eq_true, if_false, e2, Cst.d, neI]
    match ds, h, hi, hc, hs with
    | [t, g, c], h, hi, hc, hs =>
      refine (exs_skip (s' := s) hc).trans ?_
      obtain ⟨t1, t2, _⟩ := h.2 _ rfl t (by simp)
      obtain ⟨g1, _, g3⟩ := h.2 _ rfl g (by simp)
      obtain ⟨c1, _, _⟩ := h.2 _ rfl c (by simp)
      have i0 : ixD (.tup [t, g, c]) (.int 0) s = .ok t s := rfl
      have i1 : ixD (.tup [t, g, c]) (.int 1) s = .ok g s := rfl
      have it := (isi_at t1).1
      cases t with
      | str x =>
        have nn := nin_dct (x := x) hm
        rw [getK_DK] at nn
        have c2 : evT (clF Γ j) (.or (.not (.isi (.ix (.var 1) (.cst (.int 0))) .str)) (.cmp .nin (.ix (.var 1) (.cst (.int 0))) (.var 0))) [some (.ref m), some (.tup [.str x, g, c])] s = .ok (!(getK ts x).isSome) s := by
          simp only [evT, ev, evs, plainT, asB, List.getElem?_cons_zero, List.getElem?_cons_succ, R.bind_ok, Cst.d, i0, it, isS, truD, Bool.not_true, Bool.false_eq_true, if_false, nn]
        cases hg : getK ts x with
        | none =>
          have e : isServD (DK ts) (.tup [.str x, g, c]) = false := by simp only [isServD, getK_DK, hg, Bool.and_false]
          rw [e]
          rw [hg] at c2
          exact exs_in c2 rfl
        | some v =>
          obtain ⟨w, rfl⟩ := ht _ _ hg
          have hwx := hw _ _ hg
          rw [hg] at c2
          have ix := ix_dct hm (x := x) (by rw [getK_DK]; exact hg)
          have hcl := l_columns b (k := j) hj g1 (w := w) (fun es e => ⟨hs _ rfl g (by simp) es e, g3 es e⟩)
          have e : isServD (DK ts) (.tup [.str x, g, c]) = (isColsD g w && isCapD c) := by simp only [isServD, getK_DK, hg, hwx, Bool.true_and]
          rw [e]
          refine (exs_skip c2).trans ?_
          have c3 : evT (clF Γ j) (.not (.call 170 (.cons (.ix (.var 1) (.cst (.int 1))) (.cons (.ix (.var 0) (.ix (.var 1) (.cst (.int 0)))) .nil)))) [some (.ref m), some (.tup [.str x, g, c])] s = .ok (!isColsD g w) s := by
            simp only [evT, ev, evs, plainT, asB, List.getElem?_cons_zero, List.getElem?_cons_succ, R.bind_ok, Cst.d, i0, i1, ix, hcl, truD]
          cases hq : isColsD g w with
          | true =>
            rw [hq] at c3
            refine (exs_skip c3).trans (exs_ret ?_)
            rw [Bool.true_and]
            exact l_cap b (by omega) rfl c1
          | false =>
            rw [hq] at c3
            rw [Bool.false_and]
            exact exs_in c3 rfl
      | _ =>
        refine exs_in (s' := s) ?_ rfl
        simp only [evT, ev, evs, plainT, asB, List.getElem?_cons_zero, List.getElem?_cons_succ, R.bind_ok, Cst.d, i0, it, isS, truD, Bool.not_false, if_true]
    | [], h, hi, hc, hs => exact exs_in hc rfl
    | [a], h, hi, hc, hs =>
      rw [show isServD (DK ts) (.tup [a]) = false by unfold isServD; split <;> first | rfl | (rename_i q; cases q)]
      exact exs_in hc rfl
    | [a, b2], h, hi, hc, hs =>
      rw [show isServD (DK ts) (.tup [a, b2]) = false by unfold isServD; split <;> first | rfl | (rename_i q; cases q)]
      exact exs_in hc rfl
    | a :: b2 :: c :: e :: r, h, hi, hc, hs =>
      have : ((((a :: b2 :: c :: e :: r).length : Nat) : Int) == 3) = false := by simp; omega
      rw [this] at hc
      have e2 : isServD (DK ts) (.tup (a :: b2 :: c :: e :: r)) = false := by
        unfold isServD
        split
        · rename_i q; cases q
        · rfl
      rw [e2]
      exact exs_in hc rfl
  | _ =>
    refine exs_in (s' := s) ?_ rfl
    simp only [evT, ev, evs, plainT, asB, List.getElem?_cons_zero, List.getElem?_cons_succ, R.bind_ok, hi, isT, truD, Bool.not_false, if_true]
end SL

set_option Elab.async false
set_option linter.all false
set_option maxRecDepth 100000
set_option autoImplicit false
set_option maxHeartbeats 1000000
/-! SLn: the law's own rule of whole answers, its loops. -/
namespace SL
open PySem L2 G
theorem filter_nil {α : Type} {p : α → Bool} (ds : List α) : (ds.filter fun z => !p z).isEmpty = ds.all p := by
  rw [Bool.eq_iff_iff, List.isEmpty_iff, List.filter_eq_nil_iff, List.all_eq_true]
  constructor
  · intro h c hc
    simpa using h c hc
  · intro h c hc
    simpa using h c hc
theorem serv_shape {ts : List (Str × D)} {d : D} (hd : isServD (DK ts) d = true) : ∃ t g c w, d = .tup [.str t, .tup g, c] ∧ getK ts t = some (.int w) ∧ colsB (-1) w g = true ∧ isCapD c = true := by
  unfold isServD at hd
  split at hd
  · rename_i t g c
    rw [getK_DK] at hd
    split at hd
    · rename_i w hw
      simp only [Bool.and_eq_true] at hd
      cases g <;> first
        | (have q := hd.2.1; cases q; done)
        | exact ⟨t, _, c, w, rfl, hw, hd.2.1, hd.2.2⟩
    · simp at hd
  · cases hd
/-- the same rule, where the law asks it -/
theorem l_whole {Γ : Ga} (b : BW Γ) {k : Nat} (hk : 1 ≤ k) {s : S} {n m : Nat} {ts ks : List (Str × D)} {d : D} (hn : s[n]? = some (.dct (DK ts))) (hm : s[m]? = some (.dct (DK ks))) (ht : KOk ts ks)
    (hs : ∃ t g c w, d = .tup [.str t, .tup g, c] ∧ getK ts t = some (.int w) ∧ colsB (-1) w g = true)  (hl : ∀ x cs, getK ks x = some (.tup cs) → cs.length < 2 ^ 20) :
    ∃ s', Gp s s' ∧ (clF Γ k).call 198 [.ref n, .ref m, d] s = .ok (.bl (wholeB ts ks d)) s' := by
  obtain ⟨j, rfl, hj⟩ := lv hk
  obtain ⟨t, g, c, w, rfl, h1, h2⟩ := hs
  have it := ix_dct hn (x := t) (by rw [getK_DK]; exact h1)
  have nn := nin_dct (x := t) hm
  rw [getK_DK] at nn
  have e1 : cmpD .isn c .non s = .ok c.isNon s := rfl
  have hc : evT (clF Γ j) (.or (.cmp .isn (.var 5) (.cst .non)) (.cmp .eq (.blt .len (.cons (.var 4) .nil)) (.ix (.var 0) (.var 3)))) [some (.ref n), some (.ref m), some (.tup [.str t, .tup g, c]), some (.str t), some (.tup g), some c, none] s = .ok (c.isNon || (g.length : Int) == w) s := by
    simp only [evT, ev, evs, plainT, asB, List.getElem?_cons_zero, List.getElem?_cons_succ, R.bind_ok, Cst.d, e1, lenT, it, eqI]
    cases c.isNon <;> rfl
  have pre : ∀ cs, exs (clF Γ j) (.cons (.asg (.loc (.tup [3, 4, 5])) (.var 2)) cs) [some (.ref n), some (.ref m), some (.tup [.str t, .tup g, c]), none, none, none, none] s = exs (clF Γ j) cs [some (.ref n), some (.ref m), some (.tup [.str t, .tup g, c]), some (.str t), some (.tup g), some c, none] s := fun cs => exs_nx rfl
  simp only [wholeB, h1]
  cases hq : c.isNon || (g.length : Int) == w with
  | true =>
    rw [hq] at hc
    rw [Bool.true_or]
    exact ⟨s, Gp.refl s, call_rt b.h198 (τ := [some (.ref n), some (.ref m), some (.tup [.str t, .tup g, c]), none, none, none, none]) rfl rfl ((pre _).trans (exs_in hc rfl))⟩
  | false =>
    rw [hq] at hc
    rw [Bool.false_or]
    cases hk' : getK ks t with
    | none =>
      refine ⟨s, Gp.refl s, call_rt b.h198 (τ := [some (.ref n), some (.ref m), some (.tup [.str t, .tup g, c]), none, none, none, none]) rfl rfl ((pre _).trans ((exs_skip hc).trans ?_))⟩
      refine exs_in (s' := s) ?_ rfl
      simp only [evT, ev, plainT, asB, List.getElem?_cons_zero, List.getElem?_cons_succ, R.bind_ok, nn, hk', Option.isSome_none, Bool.not_false]
    | some d =>
      obtain ⟨w2, h4, h5⟩ := ht _ _ hk'
      obtain ⟨cs, rfl, h6⟩ : ∃ cs, d = .tup cs ∧ colsB (-1) w2 cs = true := by
        cases d <;> first
          | (cases h5; done)
          | (simp only [keyB, Bool.and_eq_true] at h5
             exact ⟨_, rfl, h5.1⟩)
      have ik := ix_dct hm (x := t) (by rw [getK_DK]; exact hk')
      have f1 : ∀ z ∈ g, flatD z = true := fun z hz => by obtain ⟨i, rfl⟩ := colsB_int h2 z hz; rfl
      have f2 : ∀ z ∈ cs, flatD z = true := fun z hz => by obtain ⟨i, rfl⟩ := colsB_int h6 z hz; rfl
      have hlc : lcS (Src.vals cs).ok (lcB (clF Γ j) [some (.ref n), some (.ref m), some (.tup [.str t, .tup g, c]), some (.str t), some (.tup g), some c, none] [6] (.var 6) (.cmp .nin (.var 6) (.var 4)) (.var 6)) cs s = .ok (cs.filter fun z => !(g.any fun y => eqF y z)) s := by
        refine lcS_keep trivial _ fun z hz => ?_
        have e : evT (clF Γ j) (.cmp .nin (.var 6) (.var 4)) [some (.ref n), some (.ref m), some (.tup [.str t, .tup g, c]), some (.str t), some (.tup g), some c, some z] s = .ok (!(g.any fun y => eqF y z)) s := by
          have h2' : g.all flatD = true := List.all_eq_true.mpr f1
          obtain ⟨i, rfl⟩ := colsB_int h6 z hz
          have : inD (.int i) (.tup g) s = .ok (g.any fun y => eqF y (.int i)) s := by
            simp only [inD]; exact if_pos ⟨rfl, h2'⟩
          simp only [evT, ev, asB, plainT, List.getElem?_cons_succ, List.getElem?_cons_zero, R.bind_ok, cmpD, this]
        cases hq : !(g.any fun y => eqF y z) with
        | true => rw [hq] at e; exact lcB_if rfl e rfl
        | false => rw [hq] at e; exact lcB_no rfl e
      have hfl : ∀ d ∈ cs.filter fun z => !(g.any fun y => eqF y z), FlA d := fun d hd => by
        obtain ⟨i, rfl⟩ := colsB_int h6 d (List.mem_filter.mp hd).1
        trivial
      have e2 : evE (clF Γ j) (.lc (.var 6) (.var 6) .seq (.cons (.ix (.var 1) (.var 3)) .nil) (.cmp .nin (.var 6) (.var 4)) [("_law_column", 6)]) [some (.ref n), some (.ref m), some (.tup [.str t, .tup g, c]), some (.str t), some (.tup g), some c, none] s = .ok (.ref s.length) (s ++ [.lst (cs.filter fun z => !(g.any fun y => eqF y z))]) :=
        ev_lc (s2 := s) (s1 := s) (ds := [.tup cs]) (src := .vals cs) (by simp only [evs, ev, plainT, List.getElem?_cons_zero, List.getElem?_cons_succ, R.bind_ok, ik]) rfl (by
          show cs.length < _
          have := hl _ _ hk'
          rw [sizeLine_eq]
          omega) hlc
      have g1 := Gp.new s (.lst (cs.filter fun z => !(g.any fun y => eqF y z)))
      have g2 := Gp.new (s ++ [.lst (cs.filter fun z => !(g.any fun y => eqF y z))]) (.lst [])
      refine ⟨_, g1.trans g2, call_rt b.h198 (τ := [some (.ref n), some (.ref m), some (.tup [.str t, .tup g, c]), none, none, none, none]) rfl rfl ((pre _).trans ((exs_skip hc).trans ((exs_skip (s' := s) ?_).trans (exs_ret ?_))))⟩
      · simp only [evT, ev, plainT, asB, List.getElem?_cons_zero, List.getElem?_cons_succ, R.bind_ok, nn, hk', Option.isSome_some, Bool.not_true]
      · have e2 : (ev (clF Γ j) _).1 _ s = _ := e2
        have e3 := eq_nil (s := (s ++ [.lst (cs.filter fun z => !(g.any fun y => eqF y z))]) ++ [.lst []]) hfl (g2 _ _ new_at) new_at
        rw [evE, ev]
        simp only [asB]
        rw [e2]
        simp only [R.bind_ok, ev, evs, plainT, new, cmpD, e3]
        rw [filter_nil]
/-- a loop over names that hands back at the first bad one; the store keeps its objects -/
theorem loop_rt {ok : S → Prop} {g : D → Fr → S → SR} {mk : Str → D} {bad : Str → Bool} {I : Fr → Prop} {J : S → Prop} {P : Str → Prop} (hok : ∀ s, J s → ok s) (step : ∀ (y : Str) (τ : Fr) (s : S), P y → I τ → J s → ∃ τ' s', I τ' ∧ J s' ∧ g (.str y) τ s = (if bad y = true then .rt (mk y) s' else .nx τ' s')) :
    ∀ (ys : List Str) (τ : Fr) (s : S), (∀ y ∈ ys, P y) → I τ → J s → ∃ τ' s', I τ' ∧ J s' ∧ forS ok g (ys.map .str) τ s = (match ys.find? bad with | some y => .rt (mk y) s' | none => .nx τ' s')
  | [], τ, s, _, h, hj => ⟨τ, s, h, hj, by rw [List.map_nil, forS_nil (hok s hj)]; rfl⟩
  | y :: ys, τ, s, hp, h, hj => by
    obtain ⟨τ1, s1, i1, j1, e1⟩ := step y τ s (hp y (by simp)) h hj
    rw [List.map_cons, List.find?_cons]
    cases hb : bad y with
    | true =>
      rw [hb, if_pos rfl] at e1
      exact ⟨τ1, s1, i1, j1, by rw [forS_rt (hok s hj) e1]⟩
    | false =>
      rw [hb, if_neg Bool.false_ne_true] at e1
      obtain ⟨τ2, s2, i2, j2, e2⟩ := loop_rt hok step ys τ1 s1 (fun z hz => hp z (by simp [hz])) i1 j1
      exact ⟨τ2, s2, i2, j2, by rw [forS_nx (hok s hj) e1]; exact e2⟩
end SL

set_option Elab.async false
set_option linter.all false
set_option maxRecDepth 100000
set_option autoImplicit false
set_option maxHeartbeats 1000000
/-! SLo: the law's own list of refusals. -/
namespace SL
open PySem L2 G
def orRt (part : Str) (s : S) (r : SR) : Option D → SR
  | some d => .rt (.tup [.str part, d]) s
  | none => r
def AscN (ts : List (Str × D)) : Prop := ∀ p ∈ ts, Asc p.1
/-- what the law's checks want of the three dicts -/
structure Thr (s : S) (n m q : Nat) (ts ks ss : List (Str × D)) : Prop where
  hn : s[n]? = some (.dct (DK ts))
  hm : s[m]? = some (.dct (DK ks))
  hq : s[q]? = some (.dct (DK ss))
  vt : Vals s ts
  vk : Vals2 s ks
  vs : Vals2 s ss
  at_ : AscN ts
  ak : AscN ks
  as_ : AscN ss
  sk : ∀ p ∈ ks, ∀ ds, p.2 = .tup ds → ds.length < 2 ^ 20
  sv : ∀ p ∈ ss, ShT p.2
theorem Thr.gp {s s' : S} {n m q : Nat} {ts ks ss : List (Str × D)} (h : Thr s n m q ts ks ss) (g : Gp s s') : Thr s' n m q ts ks ss :=
  ⟨g _ _ h.hn, g _ _ h.hm, g _ _ h.hq, h.vt.kd g.kd, h.vk.kd g.kd, h.vs.kd g.kd, h.at_, h.ak, h.as_, h.sk, h.sv⟩
theorem ret_part {cl : CL} {τ : Fr} {s : S} {part : Str} {e : Ex} {d : D} {cs : Cms} (h : evE cl e τ s = .ok d s) : exs cl (.cons (.ret (.tup (.cons (.cst (.str part)) (.cons e .nil)))) cs) τ s = .rt (.tup [.str part, d]) s := by
  have h : (ev cl e).1 τ s = .ok d s := h
  refine exs_ret ?_
  simp only [evE, ev, evs, plainT, R.bind_ok, Cst.d, h]
theorem len_DK {s : S} {n : Nat} {ts : List (Str × D)} (h : s[n]? = some (.dct (DK ts))) : bltD .len [.ref n] s = .ok (.int ts.length) s := by
  rw [len_dct h]; simp [DK]
/-- how many there may be -/
theorem num_bad {cl : CL} {τ : Fr} {s : S} {i n : Nat} {ts : List (Str × D)} {top : Nat} (hi : τ[i]? = some (some (.ref n))) (h : s[n]? = some (.dct (DK ts))) :
    evT cl (.or (.cmp .lt (.blt .len (.cons (.var i) .nil)) (.cst (.int 1))) (.cmp .gt (.blt .len (.cons (.var i) .nil)) (.cst (.int (top : Nat))))) τ s = .ok (!decide (1 ≤ ts.length ∧ ts.length ≤ top)) s := by
  simp only [evT, ev, evs, plainT, asB, hi, R.bind_ok, len_DK h, Cst.d, cmpD, ltD]
  by_cases h1 : 1 ≤ ts.length
  · rw [decide_eq_false (by omega : ¬ (ts.length : Int) < 1), if_neg Bool.false_ne_true]
    by_cases h2 : ts.length ≤ top
    · rw [decide_eq_false (by omega), decide_eq_true ⟨h1, h2⟩]; rfl
    · rw [decide_eq_true (by omega), decide_eq_false (fun z => h2 z.2)]; rfl
  · rw [decide_eq_true (by omega : (ts.length : Int) < 1), if_pos rfl, decide_eq_false (fun z => h1 z.1)]; rfl
/-- a loop over sorted(list(d)) that hands back at the first bad name -/
theorem part_loop {cl : CL} {s : S} {i v n : Nat} {ts : List (Str × D)} {τ : Fr} {part : Str} {bad : Str → Bool} {body : Cms} {I : Fr → Prop} (hi : τ[i]? = some (some (.ref n))) (h : s[n]? = some (.dct (DK ts))) (hl : ts.length < 64) (h0 : I τ)
    (step : ∀ (y : Str) (τ : Fr) (s1 : S), y ∈ ts.map (·.1) → I τ → Gp s s1 → ∃ τ' s', I τ' ∧ Gp s1 s' ∧ forB cl (.var v) body (.str y) τ s1 = (if bad y = true then .rt (.tup [.str part, .str y]) s' else .nx τ' s')) :
    ∃ τ' s', I τ' ∧ Gp s s' ∧ ∀ cs, exs cl (.cons (.for_ (.var v) .seq (.cons (.blt .sorted (.cons (.blt .list (.cons (.var i) .nil)) .nil)) .nil) body) cs) τ s = orRt part s' (exs cl cs τ' s') (((sortT (ts.map (·.1))).find? bad).map .str) := by
  obtain ⟨l, s1, g1, e1, e2⟩ := names_of (cl := cl) hi h hl
  obtain ⟨τ', s', i', j', e3⟩ := loop_rt (ok := (Src.lst l ((sortT (ts.map (·.1))).map .str)).ok) (g := forB cl (.var v) body) (mk := fun y => .tup [.str part, .str y]) (bad := bad) (I := I) (J := fun s' => Gp s1 s') (P := fun y => y ∈ ts.map (·.1))
    (fun s' g => lstAt_of (g _ _ e1)) (fun y τ s2 hy hI hJ => by
      obtain ⟨τ2, s3, a, b, c⟩ := step y τ s2 hy hI ((Gp.of g1).trans hJ)
      exact ⟨τ2, s3, a, hJ.trans b, c⟩) (sortT (ts.map (·.1))) τ s1 (fun y hy => mem_sortT.mp hy) h0 (Gp.refl s1)
  refine ⟨τ', s', i', (Gp.of g1).trans j', fun cs => ?_⟩
  rw [exs, ex_for e2 (src := .lst l ((sortT (ts.map (·.1))).map .str)) (by simp only [srcOf, lstAt_of e1, Option.map_some])]
  show (forS _ _ ((sortT (ts.map (·.1))).map D.str) _ _).bind _ = _
  rw [e3]
  cases (sortT (ts.map (·.1))).find? bad <;> rfl
def tBody : Cms := .cons (.ite (.or (.not (.call 199 (.cons (.var 3) .nil))) (.or (.not (.call 185 (.cons (.ix (.var 0) (.var 3)) .nil))) (.or (.cmp .lt (.ix (.var 0) (.var 3)) (.cst (.int 1))) (.cmp .gt (.ix (.var 0) (.var 3)) (.cst (.int 4)))))) (.cons (.ret (.tup (.cons (.cst (.str "tables")) (.cons (.var 3) .nil)))) .nil) (.nil)) .nil
theorem part_tables {Γ : Ga} (b : BL Γ) {k : Nat} (hk : 2 ≤ k) {s : S} {n m q : Nat} {ts ks ss : List (Str × D)} (T : Thr s n m q ts ks ss) :
    ∃ x s', Gp s s' ∧ ∀ cs, exs (clF Γ k) (.cons (.ite (.or (.cmp .lt (.blt .len (.cons (.var 0) .nil)) (.cst (.int 1))) (.cmp .gt (.blt .len (.cons (.var 0) .nil)) (.cst (.int 5)))) (.cons (.ret (.tup (.cons (.cst (.str "tables")) (.cons (.cst .non) .nil)))) .nil) (.nil))
    (.cons (.for_ (.var 3) .seq (.cons (.blt .sorted (.cons (.blt .list (.cons (.var 0) .nil)) .nil)) .nil) tBody) cs)) [some (.ref n), some (.ref m), some (.ref q), none, none] s = orRt "tables" s' (exs (clF Γ k) cs [some (.ref n), some (.ref m), some (.ref q), x, none] s') (faultT ts) := by
  have hc := num_bad (cl := clF Γ k) (τ := [some (.ref n), some (.ref m), some (.ref q), none, none]) (i := 0) (top := 5) rfl T.hn
  unfold faultT
  by_cases hl : 1 ≤ ts.length ∧ ts.length ≤ 5
  · rw [decide_eq_true hl] at hc
    rw [if_pos hl]
    obtain ⟨τ', s', ⟨x, rfl⟩, g, e⟩ := part_loop (cl := clF Γ k) (τ := [some (.ref n), some (.ref m), some (.ref q), none, none]) (i := 0) (v := 3) (part := "tables") (bad := badT ts) (body := tBody) (I := fun τ => ∃ x, τ = [some (.ref n), some (.ref m), some (.ref q), x, none]) rfl T.hn T.vt.1 ⟨_, rfl⟩
      (fun y τ s1 hy ⟨x, hτ⟩ g1 => by
        subst hτ
        obtain ⟨d, hd, hmem⟩ := getK_mem hy
        obtain ⟨hz, hp0⟩ := T.vt.2 _ hmem
        have hp := hp0.kd g1.kd
        obtain ⟨s2, g2, w⟩ := l_word b (k := k) (by omega) (s := s1) (d := .str y) trivial (fun z e => by cases e; exact ⟨hz, T.at_ _ hmem⟩)
        have i1 := l_integer b (k := k) (by omega) (hp.kd g2.kd)
        have ix := ix_dct (g2 _ _ (g1 _ _ T.hn)) (x := y) (by rw [getK_DK]; exact hd)
        have eb : badT ts y = !(wordB y && widB d) := by simp only [badT, hd]
        refine ⟨[some (.ref n), some (.ref m), some (.ref q), some (.str y), none], s2, ⟨_, rfl⟩, g2, ?_⟩
        have c1 : evT (clF Γ k) (.or (.not (.call 199 (.cons (.var 3) .nil))) (.or (.not (.call 185 (.cons (.ix (.var 0) (.var 3)) .nil))) (.or (.cmp .lt (.ix (.var 0) (.var 3)) (.cst (.int 1))) (.cmp .gt (.ix (.var 0) (.var 3)) (.cst (.int 4)))))) [some (.ref n), some (.ref m), some (.ref q), some (.str y), none] s1 = .ok (!(wordB y && widB d)) s2 := by
          simp only [evT, ev, evs, plainT, asB, List.getElem?_cons_zero, List.getElem?_cons_succ, R.bind_ok, w, truD, isWordD]
          cases wordB y with
          | false => rfl
          | true =>
            simp only [Bool.not_true, Bool.false_eq_true, if_false, ix, i1, R.bind_ok, truD, Bool.true_and]
            cases d <;> first
              | rfl
              | (rename_i w
                 simp only [intOf, Bool.not_true, Bool.false_eq_true, if_false, Cst.d, R.bind_ok, cmpD, ltD, widB]
                 by_cases q : w < 1
                 · rw [decide_eq_true q, if_pos rfl, decide_eq_false (by omega : ¬ 1 ≤ w)]; rfl
                 · rw [decide_eq_false q, if_neg Bool.false_ne_true, decide_eq_true (by omega : 1 ≤ w), Bool.true_and]
                   simp only [ix, R.bind_ok]
                   by_cases q2 : w ≤ 4
                   · rw [decide_eq_true q2, decide_eq_false (by omega)]; rfl
                   · rw [decide_eq_false q2, decide_eq_true (by omega)]; rfl)
        rw [forB_var, eb]
        show exs _ _ [some (.ref n), some (.ref m), some (.ref q), some (.str y), none] s1 = _
        cases hq : wordB y && widB d with
        | true => rw [hq] at c1; exact (exs_skip c1).trans rfl
        | false => rw [hq] at c1; exact exs_in c1 (ret_part rfl))
    exact ⟨x, s', g, fun cs => (exs_skip hc).trans (e cs)⟩
  · rw [decide_eq_false hl] at hc
    rw [if_neg hl]
    exact ⟨none, s, Gp.refl s, fun cs => exs_in hc (ret_part rfl)⟩
theorem colsB_len {w : Int} : ∀ {ds : List D} {l : Int}, colsB l w ds = true → l < w → (ds.length : Int) ≤ w - l - 1
  | [], l, _, h => by simp; omega
  | d :: ds, l, h, hl => by
    cases d <;> first
      | (cases h; done)
      | (rename_i c
         simp only [colsB, Bool.and_eq_true, decide_eq_true_eq] at h
         have := colsB_len h.2 h.1.2
         simp only [List.length_cons]
         omega)
def kBody : Cms := .cons (.ite (.or (.cmp .nin (.var 3) (.var 0)) (.not (.call 170 (.cons (.ix (.var 1) (.var 3)) (.cons (.ix (.var 0) (.var 3)) .nil))))) (.cons (.ret (.tup (.cons (.cst (.str "keys")) (.cons (.var 3) .nil)))) .nil) (.nil))
    (.cons (.ite (.or (.cmp .eq (.blt .len (.cons (.ix (.var 1) (.var 3)) .nil)) (.cst (.int 0))) (.cmp .eq (.blt .len (.cons (.ix (.var 1) (.var 3)) .nil)) (.ix (.var 0) (.var 3)))) (.cons (.ret (.tup (.cons (.cst (.str "keys")) (.cons (.var 3) .nil)))) .nil) (.nil)) .nil)
theorem part_keys {Γ : Ga} (b : BL Γ) {k : Nat} (hk : 2 ≤ k) {s : S} {n m q : Nat} {ts ks ss : List (Str × D)} (T : Thr s n m q ts ks ss) (ht : TOk ts) (x0 : Option D) :
    ∃ x s', Gp s s' ∧ ∀ cs, exs (clF Γ k) (.cons (.for_ (.var 3) .seq (.cons (.blt .sorted (.cons (.blt .list (.cons (.var 1) .nil)) .nil)) .nil) kBody) cs) [some (.ref n), some (.ref m), some (.ref q), x0, none] s = orRt "keys" s' (exs (clF Γ k) cs [some (.ref n), some (.ref m), some (.ref q), x, none] s') (faultK ts ks) := by
  obtain ⟨τ', s', ⟨x, rfl⟩, g, e⟩ := part_loop (cl := clF Γ k) (τ := [some (.ref n), some (.ref m), some (.ref q), x0, none]) (i := 1) (v := 3) (part := "keys") (bad := badK ts ks) (body := kBody) (I := fun τ => ∃ x, τ = [some (.ref n), some (.ref m), some (.ref q), x, none]) rfl T.hm T.vk.1 ⟨_, rfl⟩
    (fun y τ s1 hy ⟨x, hτ⟩ g1 => by
      subst hτ
      obtain ⟨d, hd, hmem⟩ := getK_mem hy
      obtain ⟨hz, hp⟩ := T.vk.2 _ hmem
      have hp := hp.kd g1.kd
      have hn1 := g1 _ _ T.hn
      have hm1 := g1 _ _ T.hm
      refine ⟨[some (.ref n), some (.ref m), some (.ref q), some (.str y), none], s1, ⟨_, rfl⟩, Gp.refl s1, ?_⟩
      rw [forB_var]
      show exs _ _ [some (.ref n), some (.ref m), some (.ref q), some (.str y), none] s1 = _
      have ik := ix_dct hm1 (x := y) (by rw [getK_DK]; exact hd)
      have nn := nin_dct (x := y) hn1
      rw [getK_DK] at nn
      cases ht' : getK ts y with
      | none =>
        have eb : badK ts ks y = true := by simp only [badK, ht', Bool.not_false]
        rw [eb, if_pos rfl]
        refine exs_in (s' := s1) ?_ (ret_part rfl)
        simp only [evT, ev, evs, plainT, asB, List.getElem?_cons_zero, List.getElem?_cons_succ, R.bind_ok, nn, ht', Option.isSome_none, Bool.not_false, if_true]
      | some v =>
        obtain ⟨w, rfl⟩ := ht _ _ ht'
        have it := ix_dct hn1 (x := y) (by rw [getK_DK]; exact ht')
        have ic := l_columns b (k := k) hk hp.1 (w := w) (fun ds e => ⟨Nat.lt_trans (T.sk _ hmem ds e) (by decide), fun z hz => (hp.2 ds e z hz).1⟩)
        have c1 : evT (clF Γ k) (.or (.cmp .nin (.var 3) (.var 0)) (.not (.call 170 (.cons (.ix (.var 1) (.var 3)) (.cons (.ix (.var 0) (.var 3)) .nil))))) [some (.ref n), some (.ref m), some (.ref q), some (.str y), none] s1 = .ok (!isColsD d w) s1 := by
          simp only [evT, ev, evs, plainT, asB, List.getElem?_cons_zero, List.getElem?_cons_succ, R.bind_ok, nn, ht', Option.isSome_some, Bool.not_true, Bool.false_eq_true, if_false, ik, it, ic, truD]
        have eb : badK ts ks y = !keyB w d := by simp only [badK, ht', hd]
        rw [eb]
        cases hq : isColsD d w with
        | false =>
          have : keyB w d = false := by
            clear hp hmem hd ik ic c1 eb
            cases d <;> first
              | rfl
              | (simp only [isColsD] at hq; simp only [keyB, hq, Bool.false_and])
          rw [this]
          rw [hq] at c1
          exact exs_in c1 (ret_part rfl)
        | true =>
          rw [hq] at c1
          refine (exs_skip c1).trans ?_
          obtain ⟨ds, rfl, hq3⟩ : ∃ ds, d = .tup ds ∧ colsB (-1) w ds = true := by
            clear hp hmem hd ik ic c1 eb
            cases d <;> first
              | (cases hq; done)
              | exact ⟨_, rfl, hq⟩
          have c2 : evT (clF Γ k) (.or (.cmp .eq (.blt .len (.cons (.ix (.var 1) (.var 3)) .nil)) (.cst (.int 0))) (.cmp .eq (.blt .len (.cons (.ix (.var 1) (.var 3)) .nil)) (.ix (.var 0) (.var 3)))) [some (.ref n), some (.ref m), some (.ref q), some (.str y), none] s1 = .ok (((ds.length : Int) == 0) || ((ds.length : Int) == w)) s1 := by
            simp only [evT, ev, evs, plainT, asB, List.getElem?_cons_zero, List.getElem?_cons_succ, R.bind_ok, ik, it, lenT, Cst.d, eqI]
            cases ((ds.length : Int) == 0) <;> rfl
          have e : keyB w (.tup ds) = !(((ds.length : Int) == 0) || ((ds.length : Int) == w)) := by
            show (colsB (-1) w ds && _) = _
            rw [hq3, Bool.true_and]
            rw [Bool.eq_iff_iff]
            simp only [Bool.and_eq_true, decide_eq_true_eq, Bool.not_eq_true', Bool.or_eq_false_iff, beq_eq_false_iff_ne, ne_eq]
            constructor
            · rintro ⟨h1, h2⟩
              exact ⟨by omega, by omega⟩
            · rintro ⟨h1, h2⟩
              have hw : -1 < w := by
                cases ds with
                | nil => simp at h1
                | cons c ds =>
                  clear hp hmem hd ik ic c1 eb c2 hq
                  cases c <;> first
                    | (cases hq3; done)
                    | (simp only [colsB, Bool.and_eq_true, decide_eq_true_eq] at hq3; omega)
              have := colsB_len hq3 hw
              exact ⟨by omega, by omega⟩
          rw [e]
          cases hq2 : ((ds.length : Int) == 0) || ((ds.length : Int) == w) with
          | true => rw [hq2] at c2; exact exs_in c2 (ret_part rfl)
          | false => rw [hq2] at c2; exact (exs_skip c2).trans rfl)
  exact ⟨x, s', g, e⟩
def sBody : Cms := .cons (.ite (.or (.not (.call 199 (.cons (.var 3) .nil))) (.not (.call 172 (.cons (.var 0) (.cons (.ix (.var 2) (.var 3)) .nil))))) (.cons (.ret (.tup (.cons (.cst (.str "services")) (.cons (.var 3) .nil)))) .nil) (.nil)) .nil
theorem part_services {Γ : Ga} (b : BL Γ) {k : Nat} (hk : 3 ≤ k) {s : S} {n m q : Nat} {ts ks ss : List (Str × D)} (T : Thr s n m q ts ks ss) (ht : TOk ts) (hw : WOk ts) (x0 : Option D) :
    ∃ x s', Gp s s' ∧ ∀ cs, exs (clF Γ k) (.cons (.ite (.or (.cmp .lt (.blt .len (.cons (.var 2) .nil)) (.cst (.int 1))) (.cmp .gt (.blt .len (.cons (.var 2) .nil)) (.cst (.int 8)))) (.cons (.ret (.tup (.cons (.cst (.str "services")) (.cons (.cst .non) .nil)))) .nil) (.nil))
    (.cons (.for_ (.var 3) .seq (.cons (.blt .sorted (.cons (.blt .list (.cons (.var 2) .nil)) .nil)) .nil) sBody) cs)) [some (.ref n), some (.ref m), some (.ref q), x0, none] s = orRt "services" s' (exs (clF Γ k) cs [some (.ref n), some (.ref m), some (.ref q), x, none] s') (faultS ts ss) := by
  have hc := num_bad (cl := clF Γ k) (τ := [some (.ref n), some (.ref m), some (.ref q), x0, none]) (i := 2) (top := 8) rfl T.hq
  unfold faultS
  by_cases hl : 1 ≤ ss.length ∧ ss.length ≤ 8
  · rw [decide_eq_true hl] at hc
    rw [if_pos hl]
    obtain ⟨τ', s', ⟨x, rfl⟩, g, e⟩ := part_loop (cl := clF Γ k) (τ := [some (.ref n), some (.ref m), some (.ref q), x0, none]) (i := 2) (v := 3) (part := "services") (bad := badS ts ss) (body := sBody) (I := fun τ => ∃ x, τ = [some (.ref n), some (.ref m), some (.ref q), x, none]) rfl T.hq T.vs.1 ⟨_, rfl⟩
      (fun y τ s1 hy ⟨x, hτ⟩ g1 => by
        subst hτ
        obtain ⟨d, hd, hmem⟩ := getK_mem hy
        obtain ⟨hz, hp⟩ := T.vs.2 _ hmem
        obtain ⟨s2, g2, w⟩ := l_word b (k := k) (by omega) (s := s1) (d := .str y) trivial (fun z e => by cases e; exact ⟨hz, T.as_ _ hmem⟩)
        have v1 := l_service b (k := k) hk (g2 _ _ (g1 _ _ T.hn)) ht hw (hp.kd (g1.trans g2).kd) (T.sv _ hmem)
        have ix := ix_dct (g2 _ _ (g1 _ _ T.hq)) (x := y) (by rw [getK_DK]; exact hd)
        refine ⟨[some (.ref n), some (.ref m), some (.ref q), some (.str y), none], s2, ⟨_, rfl⟩, g2, ?_⟩
        have c1 : evT (clF Γ k) (.or (.not (.call 199 (.cons (.var 3) .nil))) (.not (.call 172 (.cons (.var 0) (.cons (.ix (.var 2) (.var 3)) .nil))))) [some (.ref n), some (.ref m), some (.ref q), some (.str y), none] s1 = .ok (badS ts ss y) s2 := by
          have eb : badS ts ss y = !(wordB y && isServD (DK ts) d) := by simp only [badS, hd]
          rw [eb]
          simp only [evT, ev, evs, plainT, asB, List.getElem?_cons_zero, List.getElem?_cons_succ, R.bind_ok, w, truD, isWordD]
          cases wordB y with
          | false => rfl
          | true => simp only [Bool.not_true, Bool.false_eq_true, if_false, ix, R.bind_ok, v1, truD, Bool.true_and]
        rw [forB_var]
        show exs _ _ [some (.ref n), some (.ref m), some (.ref q), some (.str y), none] s1 = _
        cases hq : badS ts ss y with
        | false => rw [hq] at c1; exact (exs_skip c1).trans rfl
        | true => rw [hq] at c1; exact exs_in c1 (ret_part rfl))
    exact ⟨x, s', g, fun cs => (exs_skip hc).trans (e cs)⟩
  · rw [decide_eq_false hl] at hc
    rw [if_neg hl]
    exact ⟨x0, s, Gp.refl s, fun cs => exs_in hc (ret_part rfl)⟩
end SL

set_option Elab.async false
set_option linter.all false
set_option maxRecDepth 100000
set_option autoImplicit false
set_option maxHeartbeats 1000000
/-! SLp: the law's own list of refusals, whole. -/
namespace SL
open PySem L2 G
theorem str_inj_eqv {x y : Str} : PyData.eqv (.str y) (.str x) = decide (x = y) := by
  by_cases h : x = y
  · subst h; simp [PyData.eqv]
  · have : ¬ y = x := fun e => h e.symm
    simp [PyData.eqv, h, this]
/-- x in a list of texts -/
theorem inn_strs {s : S} {f : Nat} {x : Str} {ys : List Str} (h : s[f]? = some (.lst (ys.map .str))) (hx : Asc x) (hy : ∀ y ∈ ys, Asc y) : cmpD .inn (.str x) (.ref f) s = .ok (decide (x ∈ ys)) s := by
  have e : inD (.str x) (.ref f) s = R.ok (decide (x ∈ ys)) s := by
    simp only [inD, h]
    simp only [toP_ref h, toPs_strs, Option.map_some, toP]
    rw [if_pos ⟨shp_fl (d := .str x) hx, shaped_strs hy⟩]
    congr 1
    rw [Bool.eq_iff_iff, List.any_eq_true]
    constructor
    · rintro ⟨z, hz, e⟩
      obtain ⟨y, hy, rfl⟩ := List.mem_map.mp hz
      rw [str_inj_eqv] at e
      rw [decide_eq_true_eq] at e ⊢
      exact e ▸ hy
    · intro e
      exact ⟨.str x, List.mem_map.mpr ⟨x, of_decide_eq_true e, rfl⟩, by rw [str_inj_eqv]; simp⟩
  exact e
theorem Grx.kd {i : Nat} {s s' : S} (h : Grx i s s') {o o' : O} (h1 : s[i]? = some o) (h2 : s'[i]? = some o') (e : kndO o' = kndO o) : Kd s s' := fun j p hj => by
  by_cases q : j = i
  · subst q
    rw [h1] at hj
    cases hj
    exact ⟨o', h2, e⟩
  · exact ⟨p, h j p q hj, rfl⟩
theorem append_lst {s : S} {f : Nat} {ds : List D} {d : D} (h : s[f]? = some (.lst ds)) (hl : ds.length < 10000) : mtD .lappend (.ref f) [d] s = .ok .non (s.set f (.lst (ds ++ [d]))) := by
  simp only [mtD, h]
  rw [if_pos (by rw [sizeLine_eq]; omega)]
def cBody : Cms := .cons (.ite (.not (.call 198 (.cons (.var 0) (.cons (.var 1) (.cons (.ix (.var 2) (.var 3)) .nil))))) (.cons (.ite (.cmp .inn (.ix (.ix (.var 2) (.var 3)) (.cst (.int 0))) (.var 4)) (.cons (.ret (.tup (.cons (.cst (.str "capped")) (.cons (.var 3) .nil)))) .nil) (.nil))
    (.cons (.expr (.meth .append (.var 4) (.cons (.ix (.ix (.var 2) (.var 3)) (.cst (.int 0))) .nil))) .nil)) (.nil)) .nil
theorem wordB_asc {x : Str} (h : wordB x = true) : Asc x := by
  unfold wordB at h
  rw [Bool.and_eq_true] at h
  intro c hc
  have := List.all_eq_true.mp h.2 c hc
  have := mem_letters.mp (of_decide_eq_true this)
  omega
theorem cap_law {Γ : Ga} (b : BL Γ) {k : Nat} (hk : 1 ≤ k) {s : S} {n m q f : Nat} {ts ks ss : List (Str × D)} {ok : S → Prop} (hok : ∀ s', Grx f s s' → ok s') (nf : n ≠ f) (mf : m ≠ f) (qf : q ≠ f)
    (hn : s[n]? = some (.dct (DK ts))) (hm : s[m]? = some (.dct (DK ks))) (hq : s[q]? = some (.dct (DK ss))) (ht : KOk ts ks) (hw : WOk ts) (hl : ∀ x cs, getK ks x = some (.tup cs) → cs.length < 2 ^ 20) :
    ∀ (ys : List Str) (W C : List (Str × D)) (x : Option D) (s1 : S), (∀ y ∈ ys, ∃ d, getK ss y = some d ∧ isServD (DK ts) d = true) → C.length + ys.length < 64 → (∀ p ∈ C, Asc p.1) → Grx f s s1 → s1[f]? = some (.lst ((C.map (·.1)).map .str)) →
    ∃ x' s2, Grx f s s2 ∧ (∃ l, s2[f]? = some (.lst l)) ∧ forS ok (forB (clF Γ k) (.var 3) cBody) (ys.map .str) [some (.ref n), some (.ref m), some (.ref q), x, some (.ref f)] s1
      = (match (capL ts ks ss ys W C).1 with | some y => .rt (.tup [.str "capped", .str y]) s2 | none => .nx [some (.ref n), some (.ref m), some (.ref q), x', some (.ref f)] s2)
  | [], W, C, x, s1, _, _, _, g, hf => ⟨x, s1, g, ⟨_, hf⟩, by rw [List.map_nil, forS_nil (hok s1 g)]; rfl⟩
  | y :: ys, W, C, x, s1, hv, hlen, hC, g, hf => by
    obtain ⟨d, hd, hs⟩ := hv y (by simp)
    obtain ⟨t, gg, c, w, rfl, t1, t2, t3⟩ := serv_shape hs
    rw [List.length_cons] at hlen
    have nn := g _ _ nf hn
    have mm := g _ _ mf hm
    have qq := g _ _ qf hq
    have ik := ix_dct qq (x := y) (by rw [getK_DK]; exact hd)
    obtain ⟨s2, g2, wh⟩ := l_whole b.toBW hk nn mm ht ⟨t, gg, c, w, rfl, t1, t2⟩ hl
    have at_ : Asc t := wordB_asc (hw _ _ t1)
    have gs2 : Grx f s s2 := fun j o hj e => g2 _ _ (g j o hj e)
    have hf2 := g2 _ _ hf
    have ik2 := ix_dct (g2 _ _ qq) (x := y) (by rw [getK_DK]; exact hd)
    have hcond : evT (clF Γ k) (.not (.call 198 (.cons (.var 0) (.cons (.var 1) (.cons (.ix (.var 2) (.var 3)) .nil))))) [some (.ref n), some (.ref m), some (.ref q), some (.str y), some (.ref f)] s1 = .ok (!wholeB ts ks (.tup [.str t, .tup gg, c])) s2 := by
      simp only [evT, ev, evs, plainT, asB, List.getElem?_cons_zero, List.getElem?_cons_succ, R.bind_ok, ik, wh, truD]
    rw [List.map_cons]
    have hcap : capL ts ks ss (y :: ys) W C = if wholeB ts ks (.tup [.str t, .tup gg, c]) = true then capL ts ks ss ys (W ++ [(y, .bl true)]) C
      else if t ∈ C.map (·.1) then (some y, W ++ [(y, .bl false)], C)
      else capL ts ks ss ys (W ++ [(y, .bl false)]) (C ++ [(t, .str y)]) := by simp only [capL, hd, Option.getD_some, tabS]
    rw [hcap]
    cases hwh : wholeB ts ks (.tup [.str t, .tup gg, c]) with
    | true =>
      rw [hwh] at hcond
      obtain ⟨x', s3, a1, a2, e⟩ := cap_law b hk hok nf mf qf hn hm hq ht hw hl ys (W ++ [(y, .bl true)]) C (some (.str y)) s2 (fun y' h => hv y' (by simp [h])) (by omega) hC gs2 hf2
      refine ⟨x', s3, a1, a2, ?_⟩
      rw [if_pos rfl, ← e]
      refine forS_nx (hok s1 g) ?_
      rw [forB_var]
      exact (exs_skip hcond).trans rfl
    | false =>
      rw [hwh] at hcond
      rw [if_neg Bool.false_ne_true]
      have i0 : ixD (.tup [.str t, .tup gg, c]) (.int 0) s2 = .ok (.str t) s2 := rfl
      have ii := inn_strs hf2 at_ (fun z hz => by
        obtain ⟨p, hp, rfl⟩ := List.mem_map.mp hz
        exact hC p hp)
      have hin : evT (clF Γ k) (.cmp .inn (.ix (.ix (.var 2) (.var 3)) (.cst (.int 0))) (.var 4)) [some (.ref n), some (.ref m), some (.ref q), some (.str y), some (.ref f)] s2 = .ok (decide (t ∈ C.map (·.1))) s2 := by
        simp only [evT, ev, evs, plainT, asB, List.getElem?_cons_zero, List.getElem?_cons_succ, R.bind_ok, ik2, Cst.d, i0, ii]
      by_cases hmem : t ∈ C.map (·.1)
      · rw [if_pos hmem]
        rw [decide_eq_true hmem] at hin
        refine ⟨none, s2, gs2, ⟨_, hf2⟩, ?_⟩
        refine forS_rt (hok s1 g) ?_
        rw [forB_var]
        exact exs_in hcond (exs_in hin (ret_part rfl))
      · rw [if_neg hmem]
        rw [decide_eq_false hmem] at hin
        have ap := append_lst (d := .str t) hf2 (by rw [List.length_map, List.length_map]; omega)
        have hms : mSel .append (.ref f) s2 = some .lappend := by simp only [mSel, hf2]; rfl
        have lf := (List.getElem?_eq_some_iff.mp hf2).1
        obtain ⟨x', s3, a1, a2, e⟩ := cap_law b hk hok nf mf qf hn hm hq ht hw hl ys (W ++ [(y, .bl false)]) (C ++ [(t, .str y)]) (some (.str y)) (s2.set f (.lst (((C.map (·.1)).map .str) ++ [.str t]))) (fun y' h => hv y' (by simp [h])) (by simp; omega) (fun p hp => by
            rcases List.mem_append.mp hp with h | h
            · exact hC p h
            · simp at h; subst h; exact at_) (gs2.trans Grx.set) (by rw [set_get lf]; simp)
        refine ⟨x', s3, a1, a2, ?_⟩
        rw [← e]
        refine forS_nx (hok s1 g) ?_
        rw [forB_var]
        refine exs_nx ((ite_t hcond).trans ((exs_skip hin).trans ((exs_expr (d := .non) (s' := s2.set f (.lst (((C.map (·.1)).map .str) ++ [.str t]))) ?_).trans rfl)))
        simp only [evE, ev, evs, plainT, asB, List.set_cons_succ, List.set_cons_zero, List.getElem?_cons_zero, List.getElem?_cons_succ, R.bind_ok, hms, ik2, Cst.d, i0, ap]
def c159 : Cms := .cons (.asg (.loc (.var 4)) (.lst .nil)) (.cons (.for_ (.var 3) .seq (.cons (.blt .sorted (.cons (.blt .list (.cons (.var 2) .nil)) .nil)) .nil) cBody) (.cons (.ret (.cst .non)) .nil))
def s159 : Cms := .cons (.ite (.or (.cmp .lt (.blt .len (.cons (.var 2) .nil)) (.cst (.int 1))) (.cmp .gt (.blt .len (.cons (.var 2) .nil)) (.cst (.int 8)))) (.cons (.ret (.tup (.cons (.cst (.str "services")) (.cons (.cst .non) .nil)))) .nil) (.nil))
    (.cons (.for_ (.var 3) .seq (.cons (.blt .sorted (.cons (.blt .list (.cons (.var 2) .nil)) .nil)) .nil) sBody) c159)
def k159 : Cms := .cons (.for_ (.var 3) .seq (.cons (.blt .sorted (.cons (.blt .list (.cons (.var 1) .nil)) .nil)) .nil) kBody) s159
def faultD : Option (Str × D) → D
  | none => .non
  | some p => .tup [.str p.1, p.2]
theorem l_fault {Γ : Ga} (b : BL Γ) {k : Nat} (hk : 4 ≤ k) {s : S} {n m q : Nat} {ts ks ss : List (Str × D)} (T : Thr s n m q ts ks ss) :
    ∃ s', Gp s s' ∧ (clF Γ k).call 159 [.ref n, .ref m, .ref q] s = .ok (faultD (sfault ts ks ss)) s' := by
  obtain ⟨j, rfl, hj⟩ := lv hk
  obtain ⟨x1, s1, g1, e1⟩ := part_tables b (k := j) (by omega) T
  have start : ∀ {d s'}, exs (clF Γ j) b159 [some (.ref n), some (.ref m), some (.ref q), none, none] s = .rt d s' → (clF Γ (j + 1)).call 159 [.ref n, .ref m, .ref q] s = .ok d s' := fun h => call_rt b.h159 rfl rfl h
  unfold sfault
  have e1 : exs (clF Γ j) b159 [some (.ref n), some (.ref m), some (.ref q), none, none] s = _ := e1 k159
  cases f1 : faultT ts with
  | some d =>
    rw [f1] at e1
    exact ⟨s1, g1, start e1⟩
  | none =>
    rw [f1] at e1
    have tok := tok_of f1
    have wok := wok_of f1
    obtain ⟨x2, s2, g2, e2⟩ := part_keys b (k := j) (by omega) (T.gp g1) tok x1
    have e12 := e1.trans (e2 s159)
    have G2 := g1.trans g2
    cases f2 : faultK ts ks with
    | some d =>
      rw [f2] at e12
      exact ⟨s2, G2, start e12⟩
    | none =>
      rw [f2] at e12
      have kok := kok_of tok f2
      obtain ⟨x3, s3, g3, e3⟩ := part_services b (k := j) (by omega) (T.gp G2) tok wok x2
      have e13 := e12.trans (e3 c159)
      have G3 := G2.trans g3
      cases f3 : faultS ts ss with
      | some d =>
        rw [f3] at e13
        exact ⟨s3, G3, start e13⟩
      | none =>
        rw [f3] at e13
        have g4 := Gp.new s3 (.lst [])
        have hq4 := g4 _ _ (G3 _ _ T.hq)
        obtain ⟨l, s5, g5, e5, r5⟩ := names_of (cl := clF Γ j) (τ := [some (.ref n), some (.ref m), some (.ref q), x3, some (.ref s3.length)]) (i := 2) rfl hq4 T.vs.1
        have g5 := Gp.of g5
        have f5 : s5[s3.length]? = some (.lst []) := g5 _ _ new_at
        have ne : ∀ {x : Nat} {o : O}, s3[x]? = some o → x ≠ s3.length := fun h => by
          have := (List.getElem?_eq_some_iff.mp h).1
          omega
        have hn3 := G3 _ _ T.hn
        have hm3 := G3 _ _ T.hm
        have hq3 := G3 _ _ T.hq
        have b1 := g4.trans g5
        have hlf : l ≠ s3.length := fun e => by
          rw [e, f5] at e5
          injection e5 with e5
          injection e5 with e5
          have := congrArg List.length e5
          rw [List.length_map, sortT_len, List.length_map] at this
          unfold faultS at f3
          split at f3
          · rename_i q; rw [← this] at q; simp at q
          · cases f3
        obtain ⟨x', s6, a1, a2, lp⟩ := cap_law b (k := j) (by omega) (ok := (Src.lst l ((nm ss).map .str)).ok) (s := s5) (f := s3.length) (fun s' g => lstAt_of (g _ _ hlf e5)) (ne hn3) (ne hm3) (ne hq3) (b1 _ _ hn3) (b1 _ _ hm3) (b1 _ _ hq3) kok wok
          (fun x cs e => T.sk (x, .tup cs) (by
            obtain ⟨d, h1, h2⟩ := getK_mem (mem_of_getK e)
            rw [e] at h1
            cases h1
            exact h2) cs rfl)
          (nm ss) [] [] x3 s5 (serv_of f3) (by
            show 0 + (sortT (ss.map (·.1))).length < 64
            rw [sortT_len, List.length_map, Nat.zero_add]
            exact T.vs.1) (by simp) (fun _ _ _ e => e) f5
        have GG : Gp s s6 := fun jj o e => a1 _ _ (ne (G3 _ _ e)) (b1 _ _ (G3 _ _ e))
        refine ⟨s6, GG, start (e13.trans ?_)⟩
        show exs (clF Γ j) c159 _ s3 = _
        unfold c159
        refine (exs_asg (d := .ref s3.length) (s' := s3 ++ [.lst []]) rfl).trans ?_
        show exs _ _ [some (.ref n), some (.ref m), some (.ref q), x3, some (.ref s3.length)] _ = _
        rw [exs]
        refine (congrArg (fun r : SR => r.bind fun τ s => exs (clF Γ j) (.cons (.ret (.cst .non)) .nil) τ s) ((ex_for (t := .var 3) (k := .seq) (body := cBody) r5 (src := .lst l ((nm ss).map .str)) (by simp only [srcOf, lstAt_of e5, Option.map_some]; rfl)).trans lp)).trans ?_
        cases (capL ts ks ss (nm ss) [] []).1 <;> rfl
end SL

set_option Elab.async false
set_option linter.all false
set_option maxRecDepth 100000
set_option autoImplicit false
set_option maxHeartbeats 1000000
/-! SLq: data compared with themselves; a schema made, and its properties. -/
namespace SL
open PySem L2 G
/-- data that a comparison takes -/
def dataD : Nat → D → Prop
  | _, .non => True
  | _, .bl _ => True
  | _, .int _ => True
  | _, .str x => Asc x
  | 0, .tup _ => False
  | k + 1, .tup ds => ∀ z ∈ ds, dataD k z
  | _, .flst _ => False
  | _, .ref _ => False
theorem data_fl {k : Nat} {d : D} (h : FlA d) : dataD k d := by
  cases d <;> first
    | (cases h; done)
    | (cases k <;> simp only [dataD] <;> exact h)
    | (cases k <;> simp only [dataD])
theorem toPs_all {m k : Nat} : ∀ {ds : List D}, (∀ z ∈ ds, ∃ p, (∀ m' s, k ≤ m' → toP m' s z = some p) ∧ PyData.canLay0 p = true ∧ PyData.depth p ≤ k) → ∃ ps, (∀ m' s, k ≤ m' → toPs m' s ds = some ps) ∧ PyData.canLayAll0 ps = true ∧ PyData.depthAll ps ≤ k
  | [], _ => ⟨[], fun _ _ _ => by simp [toPs], by simp [PyData.canLayAll0], by simp [PyData.depthAll]⟩
  | d :: ds, h => by
    obtain ⟨p, p1, p2, p3⟩ := h d (by simp)
    obtain ⟨ps, q1, q2, q3⟩ := toPs_all (m := m) (ds := ds) fun z hz => h z (by simp [hz])
    refine ⟨p :: ps, fun m' s hm => by simp only [toPs, p1 m' s hm, q1 m' s hm], by simp only [PyData.canLayAll0, p2, q2, Bool.and_self], ?_⟩
    simp only [PyData.depthAll]
    omega
theorem toP_data : ∀ {k : Nat} {d : D}, dataD k d → ∃ p, (∀ m s, k ≤ m → toP m s d = some p) ∧ PyData.canLay0 p = true ∧ PyData.depth p ≤ k
  | k, .non, _ => ⟨.none, fun m _ _ => by cases m <;> simp only [toP], rfl, by simp [PyData.depth]⟩
  | k, .bl b, _ => ⟨.bool b, fun m _ _ => by cases m <;> simp only [toP], rfl, by simp [PyData.depth]⟩
  | k, .int i, _ => ⟨.int i, fun m _ _ => by cases m <;> simp only [toP], rfl, by simp [PyData.depth]⟩
  | k, .str x, h => ⟨.str x, fun m _ _ => by cases m <;> simp only [toP], asc_ok (by cases k <;> exact h), by simp [PyData.depth]⟩
  | 0, .tup ds, h => by simp only [dataD] at h
  | k + 1, .tup ds, h => by
    simp only [dataD] at h
    obtain ⟨ps, q1, q2, q3⟩ := toPs_all (m := 0) (k := k) fun z hz => toP_data (h z hz)
    refine ⟨.tuple ps, fun m s hm => ?_, by simp only [PyData.canLay0, q2], by simp only [PyData.depth]; omega⟩
    obtain ⟨m, rfl⟩ : ∃ j, m = j + 1 := ⟨m - 1, by omega⟩
    simp only [toP, q1 m s (by omega), Option.map_some]
  | k, .flst _, h => by cases k <;> simp only [dataD] at h
  | k, .ref _, h => by cases k <;> simp only [dataD] at h
theorem eqP_self {k : Nat} {d : D} {s : S} (hk : k ≤ 59) (h : dataD k d) : eqP d d s = .ok true s := by
  obtain ⟨p, h1, h2, h3⟩ := toP_data h
  have sh : SeqAt.shaped p = true := by
    unfold SeqAt.shaped
    simp only [h2, Bool.true_and, decide_eq_true_eq]
    omega
  simp only [eqP, h1 60 s (by omega)]
  rw [if_pos ⟨sh, sh⟩, SeqAt.eqv_refl p h2]
theorem eqD_self {k : Nat} {d : D} {s : S} (hk : k ≤ 59) (h : dataD k d) : eqD d d s = .ok true s := by
  have e : eqD d d s = eqP d d s := by
    cases d <;> first
      | rfl
      | (cases k <;> simp only [dataD] at h)
  rw [e]; exact eqP_self hk h
/-! ### dicts compared -/
theorem eqHits_all {ls : List (Key × D)} {s : S} : ∀ (ks : List (Key × D)), (∀ p ∈ ks, ∃ u, getK ls p.1 = some u ∧ eqP p.2 u s = .ok true s) → eqHits ls s ks = .ok true s
  | [], _ => rfl
  | (k, v) :: r, h => by
    obtain ⟨u, h1, h2⟩ := h (k, v) (by simp)
    simp only [eqHits, h1, h2, R.bind_ok, eqHits_all r fun p hp => h p (by simp [hp])]
    rfl
theorem eq_srt {s : S} {m n : Nat} {ts : List (Str × D)} {k : Nat} (hk : k ≤ 59) (h1 : s[m]? = some (.dct (DK (srt ts)))) (h2 : s[n]? = some (.dct (DK ts))) (hd : ∀ x d, getK ts x = some d → dataD k d) : eqD (.ref m) (.ref n) s = .ok true s := by
  simp only [eqD, h1, h2, eqK]
  rw [if_pos (by unfold DK srt; simp only [List.length_map, sortT_len])]
  refine eqHits_all _ fun p hp => ?_
  obtain ⟨q, hq, rfl⟩ := List.mem_map.mp hp
  obtain ⟨x, hx, rfl⟩ := List.mem_map.mp hq
  obtain ⟨d, h3, _⟩ := getK_mem (mem_sortT.mp hx)
  refine ⟨d, by rw [getK_DK]; exact h3, ?_⟩
  simp only [h3, Option.getD_some]
  exact eqP_self hk (hd x d h3)
/-! ### a schema made -/
structure BP (Γ : Ga) : Prop extends BW Γ where
  h83 : Γ.fns.lookup 83 = some f83
  h85 : Γ.fns.lookup 85 = some f85
  h79 : Γ.fns.lookup 79 = some f79
  hp : ∃ k, Γ.cls.lookup ("Schema" : Str) = some k ∧ k.fields = (["capped_table", "key_table", "service_table", "whole_table", "width_table"] : List Str) ∧ k.props.lookup ("services" : Str) = some 83 ∧ k.props.lookup ("tables" : Str) = some 85 ∧ k.props.lookup ("key_columns" : Str) = some 79 ∧
    ∀ f ∈ (["capped_table", "key_table", "service_table", "whole_table", "width_table"] : List Str), k.props.lookup f = none
theorem copy_dct {s : S} {n : Nat} {kvs : List (Key × D)} (h : s[n]? = some (.dct kvs)) : bltD .dict [.ref n] s = .ok (.ref s.length) (s ++ [.dct kvs]) := by
  simp only [bltD, dctOf, dctAt_at h, new]
theorem ins_at {s : S} {n : Nat} {c : Str} {fs : List (Str × D)} (h : s[n]? = some (.ins c fs)) : insAt s n = some (c, fs) := by unfold insAt; rw [h]
theorem own_fld {Γ : Ga} (b : BP Γ) {k i : Nat} {s : S} {fs : List (Str × D)} {f : Str} {d : D} (h : s[i]? = some (.ins "Schema" fs)) (hf : f ∈ (["capped_table", "key_table", "service_table", "whole_table", "width_table"] : List Str)) (hd : fs.lookup f = some d) : fldD (clF Γ k) f (.ref i) s = .ok d s := by
  obtain ⟨c, h1, h2, _, _, _, h3⟩ := b.hp
  have h1 : (clF Γ k).cls "Schema" = some c := h1
  have h4 : c.fields.contains f = true := by rw [h2]; simpa using hf
  simp only [fldD, ins_at h, h1, h3 f hf, h4, if_true, hd]
theorem prop_copy {Γ : Ga} (b : BP Γ) {k i g n : Nat} {s : S} {fs : List (Str × D)} {f : Str} {fn : Fn} {kvs : List (Key × D)} (hg : Γ.fns.lookup g = some fn) (hfn : fn = ⟨1, 1, .cons (.ret (.blt .dict (.cons (.fld (.var 0) f) .nil))) .nil⟩) (h : s[i]? = some (.ins "Schema" fs)) (hf : f ∈ (["capped_table", "key_table", "service_table", "whole_table", "width_table"] : List Str)) (hd : fs.lookup f = some (.ref n)) (hn : s[n]? = some (.dct kvs)) :
    (clF Γ (k + 1)).call g [.ref i] s = .ok (.ref s.length) (s ++ [.dct kvs]) := by
  subst hfn
  refine call_rt hg (τ := [some (.ref i)]) rfl rfl (exs_ret ?_)
  simp only [evE, ev, evs, plainT, List.getElem?_cons_zero, R.bind_ok, own_fld b h hf hd, copy_dct hn]
/-- the three properties, each a new dict -/
theorem props_ok {Γ : Ga} (b : BP Γ) {k i : Nat} (hk : 1 ≤ k) {s : S} {ts ks ss W C : List (Str × D)} {b0 : Nat} (h : init76 s b0 i ts ks ss W C) :
    fldD (clF Γ k) "services" (.ref i) s = .ok (.ref s.length) (s ++ [.dct (DK (srt ss))]) ∧ fldD (clF Γ k) "tables" (.ref i) s = .ok (.ref s.length) (s ++ [.dct (DK (srt ts))]) ∧ fldD (clF Γ k) "key_columns" (.ref i) s = .ok (.ref s.length) (s ++ [.dct (DK (srt ks))]) := by
  obtain ⟨j, rfl, _⟩ := lv hk
  obtain ⟨f1, f2, f3, f4, f5, _, e0, e1, e2, e3, e4, e5⟩ := h
  obtain ⟨c, h1, h2, p1, p2, p3, h3⟩ := b.hp
  have h1 : (clF Γ (j + 1)).cls "Schema" = some c := h1
  have q1 := prop_copy b (k := j) b.h83 (f := "service_table") rfl e0 (by simp) rfl e3
  have q2 := prop_copy b (k := j) b.h85 (f := "width_table") rfl e0 (by simp) rfl e1
  have q3 := prop_copy b (k := j) b.h79 (f := "key_table") rfl e0 (by simp) rfl e2
  refine ⟨?_, ?_, ?_⟩
  · simp only [fldD, ins_at e0, h1, p1, q1, R.calm_ok]
  · simp only [fldD, ins_at e0, h1, p2, q2, R.calm_ok]
  · simp only [fldD, ins_at e0, h1, p3, q3, R.calm_ok]
/-- Schema(tables, keys, services) of three dicts -/
theorem schema_mk {Γ : Ga} (b : BP Γ) {k : Nat} (hk : 5 ≤ k) {n m q : Nat} {s : S} {ts ks ss : List (Str × D)} (hn : s[n]? = some (.dct (DK ts))) (hm : s[m]? = some (.dct (DK ks))) (hq : s[q]? = some (.dct (DK ss)))
    (vt : Vals s ts) (vk : Vals2 s ks) (vs : Vals2 s ss) (d1 : (ts.map (·.1)).Nodup) (d2 : (ks.map (·.1)).Nodup) (d3 : (ss.map (·.1)).Nodup) :
    ∃ s', Gp s s' ∧ (match sfault ts ks ss with
      | some p => mkD (clF Γ k) "Schema" 76 [.ref n, .ref m, .ref q] s = .exc "InvalidSchema" [("name", p.2), ("part", .str p.1)] s'
      | none => mkD (clF Γ k) "Schema" 76 [.ref n, .ref m, .ref q] s = .ok (.ref s.length) s' ∧ init76 s' (s.length + 1) s.length ts ks ss (capL ts ks ss (nm ss) [] []).2.1 (capL ts ks ss (nm ss) [] []).2.2) := by
  have g := Gp.new s (.ins "Schema" [])
  obtain ⟨s', gx, h⟩ := schema_init b.toB8 hk (i := s.length) new_at (g _ _ hn) (g _ _ hm) (g _ _ hq) (vt.kd g.kd) (vk.kd g.kd) (vs.kd g.kd) d1 d2 d3
  have gg : Gp s s' := fun j o e => gx _ _ (by have := (List.getElem?_eq_some_iff.mp e).1; omega) (g _ _ e)
  refine ⟨s', gg, ?_⟩
  revert h
  cases sfault ts ks ss with
  | some p => exact fun h => by unfold mkD; rw [h]; rfl
  | none => exact fun h => ⟨by unfold mkD; rw [h.1]; rfl, by have := h.2; simpa using this⟩
end SL

set_option Elab.async false
set_option linter.all false
set_option maxRecDepth 100000
set_option autoImplicit false
set_option maxHeartbeats 1000000
/-! SLr: the parts of a schema, drawn: names and columns. -/
namespace SL
open PySem L2 G
local macro_rules | `(tactic| walk_at "ev") => `(tactic| simp only [evE, evT, ev, evs, plainT, asB, evPart, List.getElem?_cons_zero, List.getElem?_cons_succ, List.set_cons_zero, List.set_cons_succ, Cst.d, Ex.isNop, R.bind_ok, R.toS_ok, if_true, Bool.not_true, Bool.not_false, Bool.false_eq_true, if_false, addI, subI, eqI, *])
/-- the pool drawn from; all but it and the places of X stand as they stood -/
structure Gd (n : Nat) (X : List Nat) (s s' : S) : Prop where
  pool : PoolAt n s'
  keep : ∀ (j : Nat) (o : O), j ≠ n → j ∉ X → s[j]? = some o → s'[j]? = some o
theorem Gd.trans {n : Nat} {X : List Nat} {a b c : S} (h : Gd n X a b) (g : Gd n X b c) : Gd n X a c := ⟨g.pool, fun j o h1 h2 e => g.keep j o h1 h2 (h.keep j o h1 h2 e)⟩
theorem Gd.wide {n : Nat} {X : List Nat} {a b : S} (h : Gd n [] a b) : Gd n X a b := ⟨h.pool, fun j o h1 _ e => h.keep j o h1 (by simp) e⟩
theorem Gd.at {n j : Nat} {a b : S} {o : O} (h : Gd n [] a b) (hj : j ≠ n) (e : a[j]? = some o) : b[j]? = some o := h.keep j o hj (by simp) e
theorem Gd.of_gr {n : Nat} {s s' : S} (h : Gr n s s') : Gd n [] s s' := ⟨h.pool, fun j o h1 _ e => h.at e h1⟩
theorem Gd.of_gp {n : Nat} {s s' : S} (p : PoolAt n s) (h : Gp s s') : Gd n [] s s' := ⟨let ⟨o, a, b⟩ := p; ⟨o, h _ _ a, b⟩, fun j o _ _ e => h j o e⟩
theorem Gd.new {n : Nat} {s : S} (p : PoolAt n s) (o : O) : Gd n [] s (s ++ [o]) := .of_gp p (Gp.new s o)
theorem Gd.refl {n : Nat} {s : S} (p : PoolAt n s) : Gd n [] s s := .of_gp p (Gp.refl s)
theorem _root_.G.PoolAt.set {n a : Nat} {s : S} {o : O} (p : PoolAt n s) (h : a ≠ n) : PoolAt n (s.set a o) := by
  obtain ⟨q, e, i⟩ := p
  exact ⟨q, by rw [List.getElem?_set_ne h]; exact e, i⟩
theorem Gd.set {n a : Nat} {X : List Nat} {s : S} {o : O} (p : PoolAt n s) (h : a ≠ n) (hx : a ∈ X) : Gd n X s (s.set a o) := ⟨p.set h, fun j o' _ h2 e => by rw [List.getElem?_set_ne (fun (z : a = j) => h2 (z ▸ hx))]; exact e⟩
/-- places that were free don't count -/
theorem Gd.drop {n : Nat} {X : List Nat} {s s' : S} (h : Gd n X s s') (hx : ∀ j ∈ X, s.length ≤ j) : Gd n [] s s' := ⟨h.pool, fun j o h1 _ e => h.keep j o h1 (fun z => by
  have := hx j z
  have := (List.getElem?_eq_some_iff.mp e).1
  omega) e⟩
theorem _root_.G.PoolAt.ne {n a : Nat} {s : S} (p : PoolAt n s) (h : s.length ≤ a) : a ≠ n := by
  have := p.lt
  omega
theorem _root_.G.PoolAt.lst {n : Nat} {s : S} (p : PoolAt n s) : ∃ ds, s[n]? = some (.lst ds) := by
  obtain ⟨o, e, ⟨a, b, c, d, cs, rfl, _⟩⟩ := p
  exact ⟨_, e⟩
theorem _root_.G.PoolAt.ne_dct {n a : Nat} {s : S} {kvs : List (Key × D)} (p : PoolAt n s) (h : s[a]? = some (.dct kvs)) : a ≠ n := fun e => by
  obtain ⟨ds, q⟩ := p.lst
  rw [e, q] at h
  cases h
theorem Gd.kd {n : Nat} {s s' : S} (p : PoolAt n s) (h : Gd n [] s s') : Kd s s' := fun j o e => by
  by_cases q : j = n
  · subst q
    obtain ⟨ds, e1⟩ := p.lst
    obtain ⟨ds', e2⟩ := h.pool.lst
    rw [e1] at e
    cases e
    exact ⟨_, e2, rfl⟩
  · exact ⟨o, h.at q e, rfl⟩
theorem Gd.len {n : Nat} {s s' : S} (p : PoolAt n s) (h : Gd n [] s s') : s.length ≤ s'.length := by
  have h1 := p.lt
  have h2 := h.pool.lt
  by_cases q : s.length - 1 = n
  · omega
  · have := (List.getElem?_eq_some_iff.mp (h.at q (List.getElem?_eq_getElem (by omega : s.length - 1 < s.length)))).1
    omega
structure BD (Γ : Ga) : Prop extends BP Γ where
  h252 : Γ.fns.lookup 252 = some f252
  h224 : Γ.fns.lookup 224 = some f224
  h148 : Γ.fns.lookup 148 = some f148
  h325 : Γ.fns.lookup 325 = some f325
  h230 : Γ.fns.lookup 230 = some f230
  h136 : Γ.fns.lookup 136 = some f136
  h298 : Γ.fns.lookup 298 = some f298
  h210 : Γ.fns.lookup 210 = some f210
  h275 : Γ.fns.lookup 275 = some f275
theorem dr_ {Γ : Ga} (b : BD Γ) {k : Nat} (hk : 2 ≤ k) : Dr (clF Γ k) 148 := by
  obtain ⟨j, rfl, hj⟩ := lv hk
  obtain ⟨i, rfl, hi⟩ := lv hj
  refine dr_of (cl := clF Γ (i + 1)) (mix := 224) (fun x y s => ?_) (fun ds s => call_of b.h148 ds s)
  obtain ⟨r, h1, h2⟩ := run_mixed (clF Γ i) s x y
  exact ⟨r, (call_of b.h224 _ _).trans h1, h2⟩
theorem wo_ {Γ : Ga} (b : BD Γ) {k : Nat} (hk : 3 ≤ k) : Wo (clF Γ k) 325 := by
  obtain ⟨j, rfl, hj⟩ := lv hk
  exact wo_of (dr_ b hj) (fun ds s => call_of b.h325 ds s)
theorem draw {Γ : Ga} (b : BD Γ) {k : Nat} (hk : 2 ≤ k) {s : S} {n : Nat} {m : Int} (p : PoolAt n s) (h0 : 0 < m) (h : m < 2 ^ 60) : ∃ r s', (clF Γ k).call 148 [.ref n, .int m] s = .ok (.int r) s' ∧ 0 ≤ r ∧ r < m ∧ Gd n [] s s' := by
  obtain ⟨r, s', h1, h2, h3, h4, _⟩ := dr_ b hk s n m p h0 (small_log h0 (by omega))
  exact ⟨r, s', h1, h2, h3, .of_gr h4⟩
theorem wordB_of {x : Str} (h : Low x) (h1 : 1 ≤ x.length) (h8 : x.length ≤ 8) : wordB x = true := by
  unfold wordB
  rw [Bool.and_eq_true]
  refine ⟨decide_eq_true ⟨h1, h8⟩, List.all_eq_true.mpr fun c hc => decide_eq_true (mem_letters.mpr (h c hc))⟩
theorem wordB_len {x : Str} (h : wordB x = true) : 1 ≤ x.length ∧ x.length ≤ 8 := by
  unfold wordB at h
  rw [Bool.and_eq_true] at h
  exact of_decide_eq_true h.1
theorem draw_names {Γ : Ga} (b : BD Γ) {k : Nat} (hk : 4 ≤ k) {s : S} {n : Nat} {m : Int} (p : PoolAt n s) (h0 : 0 ≤ m) (h : m ≤ 100) :
    ∃ (l : Nat) (s' : S) (xs : List Str), (clF Γ k).call 230 [.ref n, .int m] s = .ok (.ref l) s' ∧ Gd n [] s s' ∧ s'[l]? = some (.lst (xs.map .str)) ∧ (xs.length : Int) = m ∧ (∀ x ∈ xs, wordB x = true) ∧ s.length ≤ l := by
  obtain ⟨j, rfl, hj⟩ := lv hk
  obtain ⟨r1, s1, a1, a2, a3, a4⟩ := draw b (k := j) (by omega) (m := 8) p (by decide) (by decide)
  obtain ⟨x, s2, c1, c2, c3, c4, _⟩ := wo_ b (k := j) (by omega) s1 n r1 a4.pool a2 (by omega)
  have c4 := Gd.of_gr c4
  obtain ⟨r3, s3, d1, d2, d3, d4⟩ := draw b (k := j) (by omega) (m := 26) c4.pool (by decide) (by decide)
  have g3 := (a4.trans c4).trans d4
  have g4 := Gd.new g3.pool (.lst [.int 1, .int 3, .int 5, .int 7, .int 9, .int 11])
  obtain ⟨r5, s5, e1, e2, e3, e4⟩ := draw b (k := j) (by omega) (m := 6) g4.pool (by decide) (by decide)
  have at5 := e4.at (g3.pool.ne (Nat.le_refl _)) (new_at (s := s3) (o := .lst [.int 1, .int 3, .int 5, .int 7, .int 9, .int 11]))
  obtain ⟨st, hst, hst2⟩ : ∃ st : Int, ixD (.ref s3.length) (.int r5) s5 = .ok (.int st) s5 ∧ (0 ≤ st ∧ st < 12) := by
    have hr : r5 = 0 ∨ r5 = 1 ∨ r5 = 2 ∨ r5 = 3 ∨ r5 = 4 ∨ r5 = 5 := by omega
    rcases hr with rfl | rfl | rfl | rfl | rfl | rfl <;> exact ⟨_, ixD_ref at5 (by decide) rfl, by decide, by decide⟩
  obtain ⟨r6, s6, i1, i2, i3, i4⟩ := draw b (k := j) (by omega) (m := 2) e4.pool (by decide) (by decide)
  have g6 := ((g3.trans g4).trans e4).trans i4
  have g7 := Gd.new g6.pool (.lst [])
  have hf := g6.pool.ne (Nat.le_refl s6.length)
  let I : Nat → Fr → S → Prop := fun i τ s' => ∃ (xs : List Str) (c e : Option D), τ = [some (.ref n), some (.int m), some (.str letters), some (.str x), some (.int r3), some (.int st), some (.int r6), some (.ref s6.length), c, e] ∧ xs.length = i ∧ (∀ y ∈ xs, Low y ∧ y.length = x.length + 1) ∧ s' = (s6 ++ [O.lst []]).set s6.length (.lst (xs.map .str))
  have l7 : s6.length < (s6 ++ [O.lst []]).length := by simp
  obtain ⟨τ', s', h1, xs, c, e, rfl, hl, hx, rfl⟩ := forS_inv (ok := (Src.vals (rngD 0 m.toNat)).ok) (g := forB (clF Γ j) (.var 8) (.cons (.asg (.loc (.var 9)) (.ix (.var 2) (.bin .mod (.blt .int (.cons (.bin .add (.var 4) (.bin .mul (.var 5) (.var 8))) .nil)) (.cst (.int 26)))))
    (.cons (.ite (.cmp .eq (.var 6) (.cst (.int 1))) (.cons (.expr (.meth .append (.var 7) (.cons (.bin .add (.var 9) (.var 3)) .nil))) .nil) (.cons (.expr (.meth .append (.var 7) (.cons (.bin .add (.var 3) (.var 9)) .nil))) .nil)) .nil)))
    (items := rngD 0 m.toNat) (τ := [some (.ref n), some (.int m), some (.str letters), some (.str x), some (.int r3), some (.int st), some (.int r6), some (.ref s6.length), none, none]) (s := s6 ++ [.lst []]) I (fun _ _ _ _ => trivial) (fun i d τ s' hi ⟨xs, c, e, hτ, hl, hx, hs⟩ => by
      subst hτ
      obtain ⟨hil, rfl⟩ := rng_at hi
      have hat : s'[s6.length]? = some (.lst (xs.map .str)) := by rw [hs]; exact set_get l7
      have lat : s6.length < s'.length := (List.getElem?_eq_some_iff.mp hat).1
      obtain ⟨cc, q1, q2⟩ := letter_ix (r := (r3 + st * (0 + (i : Nat))) % 26) (Int.emod_nonneg _ (by decide)) (Int.emod_lt_of_pos _ (by decide)) (s := s')
      have hm : binD .mul (.int st) (.int (0 + (i : Nat))) s' = .ok (.int (st * (0 + (i : Nat)))) s' := mulD (.inl (by omega))
      have hmod : binD .mod (.int (r3 + st * (0 + (i : Nat)))) (.int 26) s' = .ok (.int ((r3 + st * (0 + (i : Nat))) % 26)) s' := modD (by decide)
      have hint : bltD .int [.int (r3 + st * (0 + (i : Nat)))] s' = .ok (.int (r3 + st * (0 + (i : Nat)))) s' := rfl
      have ln1 : (⟨#[cc]⟩ : Str).length = 1 := rfl
      have hms : mSel .append (.ref s6.length) s' = some .lappend := by simp only [mSel, hat]; rfl
      have add1 : binD .add (.str ⟨#[cc]⟩) (.str x) s' = .ok (.str (⟨#[cc]⟩ ++ x)) s' := addS (by rw [ln1]; omega)
      have add2 : binD .add (.str x) (.str ⟨#[cc]⟩) s' = .ok (.str (x ++ ⟨#[cc]⟩)) s' := addS (by rw [ln1]; omega)
      have ap : ∀ y : Str, mtD .lappend (.ref s6.length) [.str y] s' = .ok .non (s'.set s6.length (.lst (xs.map .str ++ [.str y]))) := fun y => append_lst hat (by rw [List.length_map]; omega)
      have fin : ∀ y : Str, Low y → y.length = x.length + 1 → I (i + 1) [some (.ref n), some (.int m), some (.str letters), some (.str x), some (.int r3), some (.int st), some (.int r6), some (.ref s6.length), some (.int (0 + (i : Nat))), some (.str ⟨#[cc]⟩)] (s'.set s6.length (.lst (xs.map .str ++ [.str y]))) := fun y h1 h2 => by
        refine ⟨xs ++ [y], _, _, rfl, by simp [hl], fun z hz => ?_, by rw [hs, List.set_set]; simp⟩
        rcases List.mem_append.mp hz with h | h
        · exact hx z h
        · simp at h; subst h; exact ⟨h1, h2⟩
      have step1 : ∀ cs, exs (clF Γ j) (.cons (.asg (.loc (.var 9)) (.ix (.var 2) (.bin .mod (.blt .int (.cons (.bin .add (.var 4) (.bin .mul (.var 5) (.var 8))) .nil)) (.cst (.int 26))))) cs) [some (.ref n), some (.int m), some (.str letters), some (.str x), some (.int r3), some (.int st), some (.int r6), some (.ref s6.length), some (.int (0 + (i : Nat))), e] s'
          = exs (clF Γ j) cs [some (.ref n), some (.int m), some (.str letters), some (.str x), some (.int r3), some (.int st), some (.int r6), some (.ref s6.length), some (.int (0 + (i : Nat))), some (.str ⟨#[cc]⟩)] s' := fun cs => exs_asg (d := .str ⟨#[cc]⟩) (s' := s') (by clear hs; walk_at "ev")
      by_cases h6 : r6 = 1
      · refine ⟨_, _, ?_, fin (⟨#[cc]⟩ ++ x) (low_app (low_one q2) c2) (by rw [len_app, ln1]; omega)⟩
        rw [forB_var]
        refine (step1 _).trans ((exs_nx ((ite_t (s' := s') ?_).trans ((exs_expr (d := .non) (s' := s'.set s6.length (.lst (xs.map .str ++ [.str (⟨#[cc]⟩ ++ x)]))) ?_).trans rfl))).trans rfl)
        · subst h6; walk_at "ev"; rfl
        · have := ap (⟨#[cc]⟩ ++ x)
          clear hs
          walk_at "ev"
      · refine ⟨_, _, ?_, fin (x ++ ⟨#[cc]⟩) (low_app c2 (low_one q2)) (by rw [len_app, ln1])⟩
        rw [forB_var]
        refine (step1 _).trans ((exs_nx ((ite_f (s' := s') ?_).trans ((exs_expr (d := .non) (s' := s'.set s6.length (.lst (xs.map .str ++ [.str (x ++ ⟨#[cc]⟩)]))) ?_).trans rfl))).trans rfl)
        · have : (r6 == 1) = false := by simpa using h6
          walk_at "ev"
        · have := ap (x ++ ⟨#[cc]⟩)
          clear hs
          walk_at "ev") ⟨[], none, none, rfl, rfl, by simp, by
        apply List.ext_getElem?
        intro jj
        by_cases e : s6.length = jj
        · subst e; rw [set_get l7]; simp
        · rw [List.getElem?_set_ne e]⟩
  rw [rng_len] at hl
  have g67 := g6.trans g7
  have l6 := g6.len p
  refine ⟨s6.length, _, xs, call_rt b.h230 (τ := [some (.ref n), some (.int m), none, none, none, none, none, none, none, none]) rfl rfl ?_, ((g67.wide (X := [s6.length])).trans (Gd.set (X := [s6.length]) g7.pool hf (by simp))).drop (fun q hq => by simp at hq; omega), set_get l7, by omega, fun y hy => wordB_of (hx y hy).1 (by rw [(hx y hy).2]; omega) (by rw [(hx y hy).2]; omega), l6⟩
  refine (exs_asg (d := .str letters) (s' := s) rfl).trans ?_
  refine (exs_asg (d := .str x) (s' := s2) (by walk_at "ev")).trans ?_
  refine (exs_asg (d := .int r3) (s' := s3) (by walk_at "ev")).trans ?_
  refine (exs_asg (d := .int st) (s' := s5) (by walk_at "ev"; simp only [new, R.bind_ok, e1, hst])).trans ?_
  refine (exs_asg (d := .int r6) (s' := s6) (by walk_at "ev")).trans ?_
  refine (exs_asg (d := .ref s6.length) (s' := s6 ++ [.lst []]) rfl).trans ?_
  refine (exs_nx (τ' := [some (.ref n), some (.int m), some (.str letters), some (.str x), some (.int r3), some (.int st), some (.int r6), some (.ref s6.length), c, e]) ?_).trans (exs_ret (d := .ref s6.length) rfl)
  exact (ex_for rfl (src_rng h0 (by omega) _)).trans h1
/-! ### columns -/
theorem colsB_mono {w w' : Int} (hw : w ≤ w') : ∀ {ds : List D} {l : Int}, colsB l w ds = true → colsB l w' ds = true
  | [], _, _ => rfl
  | d :: ds, l, h => by
    cases d <;> first
      | (cases h; done)
      | (simp only [colsB, Bool.and_eq_true, decide_eq_true_eq] at h ⊢
         exact ⟨⟨h.1.1, by omega⟩, colsB_mono hw h.2⟩)
theorem colsB_app {i : Int} : ∀ {ds : List D} {l : Int}, colsB l i ds = true → l < i → colsB l (i + 1) (ds ++ [.int i]) = true
  | [], l, _, h => by simp [colsB, h]; omega
  | d :: ds, l, h, hl => by
    cases d <;> first
      | (cases h; done)
      | (simp only [List.cons_append, colsB, Bool.and_eq_true, decide_eq_true_eq] at h ⊢
         exact ⟨⟨h.1.1, by omega⟩, colsB_app h.2 h.1.2⟩)
theorem colsB_take {w : Int} : ∀ {ds : List D} {l : Int} (k : Nat), colsB l w ds = true → colsB l w (ds.take k) = true
  | [], _, k, _ => by simp [colsB]
  | d :: ds, l, 0, _ => by simp [colsB]
  | d :: ds, l, k + 1, h => by
    cases d <;> first
      | (cases h; done)
      | (simp only [List.take_succ_cons, colsB, Bool.and_eq_true, decide_eq_true_eq] at h ⊢
         exact ⟨h.1, colsB_take k h.2⟩)
theorem cut_take {α : Type} (ds : List α) {hi : Int} (h : 0 ≤ hi) : cutL ds none (some hi) = ds.take hi.toNat := by
  obtain ⟨k, rfl⟩ := Int.eq_ofNat_of_zero_le h
  unfold cutL
  rw [HT.sIx_none]
  show List.take (HT.sIx ds.length ds.length (some ((k : Nat) : Int)) - 0) (ds.drop 0) = _
  rw [HT.sIx_nat, Nat.sub_zero, List.drop_zero, Int.toNat_natCast]
  by_cases q : k ≤ ds.length
  · rw [Nat.min_eq_left q]
  · rw [Nat.min_eq_right (by omega), List.take_of_length_le (by omega), List.take_of_length_le (by omega)]
theorem draw_columns {Γ : Ga} (b : BD Γ) {k : Nat} (hk : 3 ≤ k) {s : S} {n : Nat} {w lo hi : Int} (p : PoolAt n s) (hw : 1 ≤ w) (hw2 : w ≤ 1000) (h0 : 0 ≤ lo) (h1 : lo ≤ 1) (h2 : lo ≤ hi) :
    ∃ g s', (clF Γ k).call 136 [.ref n, .int w, .int lo, .int hi] s = .ok (.tup g) s' ∧ Gd n [] s s' ∧ colsB (-1) w g = true ∧ lo ≤ g.length ∧ (g.length : Int) ≤ hi := by
  obtain ⟨j, rfl, hj⟩ := lv hk
  obtain ⟨r, s1, e1, ⟨hc, hg⟩⟩ := lcS_inv (ok := (Src.vals (rngD 0 w.toNat)).ok) (items := rngD 0 w.toNat) (s := s) (g := lcB (clF Γ j) [some (.ref n), some (.int w), some (.int lo), some (.int hi), none, none] [5] (.var 5) (.cmp .eq (.call 148 (.cons (.var 0) (.cons (.cst (.int 2)) .nil))) (.cst (.int 1))) (.var 5))
    (fun i r s' => colsB (-1) (i : Nat) r = true ∧ Gd n [] s s') (fun _ _ _ _ => trivial) (fun i d r s' hi' ⟨hc, hg⟩ => by
      obtain ⟨hil, rfl⟩ := rng_at hi'
      obtain ⟨q, s2, q1, q2, q3, q4⟩ := draw b (k := j) (by omega) (m := 2) hg.pool (by decide) (by decide)
      have e : evT (clF Γ j) (.cmp .eq (.call 148 (.cons (.var 0) (.cons (.cst (.int 2)) .nil))) (.cst (.int 1))) [some (.ref n), some (.int w), some (.int lo), some (.int hi), none, some (.int (0 + (i : Nat)))] s' = .ok (q == 1) s2 := by walk_at "ev"
      cases hq : (q == 1) with
      | true =>
        rw [hq] at e
        refine ⟨some (.int (0 + (i : Nat))), s2, lcB_if rfl e rfl, ?_, hg.trans q4⟩
        have := colsB_app hc (by omega)
        simpa using this
      | false =>
        rw [hq] at e
        refine ⟨none, s2, lcB_no rfl e, ?_, hg.trans q4⟩
        simp only [Option.toList_none, List.append_nil]
        exact colsB_mono (by omega) hc) ⟨rfl, Gd.refl p⟩
  rw [rng_len] at hc
  have hc : colsB (-1) w r = true := colsB_mono (by omega) hc
  have hlen := colsB_len hc (by omega)
  have e2 : evE (clF Γ j) (.lc (.var 5) (.var 5) .rng1 (.cons (.var 1) .nil) (.cmp .eq (.call 148 (.cons (.var 0) (.cons (.cst (.int 2)) .nil))) (.cst (.int 1))) [("_law_column", 5)]) [some (.ref n), some (.int w), some (.int lo), some (.int hi), none, none] s = .ok (.ref s1.length) (s1 ++ [.lst r]) :=
    ev_lc (s1 := s) (s2 := s1) (ds := [.int w]) (src := .vals (rngD 0 w.toNat)) rfl (src_rng (by omega) (by omega) s) (by
      show (rngD 0 w.toNat).length < _
      rw [rng_len, sizeLine_eq]; omega) e1
  have g2 := Gd.new hg.pool (.lst r)
  have fin : ∀ (l : Nat) (s3 : S) (r : List D), s3[l]? = some (.lst r) → colsB (-1) w r = true → lo ≤ r.length → Gd n [] s s3 → exs (clF Γ j) (.cons (.ret (.blt .tuple (.cons (.sl (.var 4) .nop (.var 3)) .nil))) .nil) [some (.ref n), some (.int w), some (.int lo), some (.int hi), some (.ref l), none] s3 = .rt (.tup (r.take hi.toNat)) (s3 ++ [.lst (r.take hi.toNat)]) := fun l s3 r h1 _ _ _ => by
    refine exs_ret ?_
    have a1 : slD (.ref l) none (some hi) s3 = .ok (.ref s3.length) (s3 ++ [.lst (r.take hi.toNat)]) := by
      simp only [slD, lstAt_of h1, new, cut_take r (by omega : 0 ≤ hi)]
    have a2 : bltD .tuple [.ref s3.length] (s3 ++ [.lst (r.take hi.toNat)]) = .ok (.tup (r.take hi.toNat)) (s3 ++ [.lst (r.take hi.toNat)]) := by
      simp only [bltD, seqOf, lstAt_of (new_at (s := s3))]
    walk_at "ev"
  have done : ∀ (r : List D), colsB (-1) w r = true → lo ≤ r.length → lo ≤ (r.take hi.toNat).length ∧ ((r.take hi.toNat).length : Int) ≤ hi := fun r _ h => by
    rw [List.length_take]
    omega
  have hll : bltD .len [.ref s1.length] (s1 ++ [.lst r]) = .ok (.int r.length) (s1 ++ [.lst r]) := by
    have e : dctOf (s1 ++ [.lst r]) (.ref s1.length) = none := dctOf_lst new_at
    simp only [bltD, e, seqOf, lstAt_of (new_at (s := s1))]
  have c1 : evT (clF Γ j) (.cmp .lt (.blt .len (.cons (.var 4) .nil)) (.var 2)) [some (.ref n), some (.int w), some (.int lo), some (.int hi), some (.ref s1.length), none] (s1 ++ [.lst r]) = .ok (decide ((r.length : Int) < lo)) (s1 ++ [.lst r]) := by
    walk_at "ev"
    rfl
  have st : ∀ {d s'}, exs (clF Γ j) (.cons (.ite (.cmp .lt (.blt .len (.cons (.var 4) .nil)) (.var 2)) (.cons (.asg (.loc (.var 4)) (.lst (.cons (.call 148 (.cons (.var 0) (.cons (.var 1) .nil))) .nil))) .nil) (.nil))
    (.cons (.ret (.blt .tuple (.cons (.sl (.var 4) .nop (.var 3)) .nil))) .nil)) [some (.ref n), some (.int w), some (.int lo), some (.int hi), some (.ref s1.length), none] (s1 ++ [.lst r]) = .rt d s' → (clF Γ (j + 1)).call 136 [.ref n, .int w, .int lo, .int hi] s = .ok d s' := fun h =>
    call_rt b.h136 (τ := [some (.ref n), some (.int w), some (.int lo), some (.int hi), none, none]) rfl rfl ((exs_asg e2).trans h)
  by_cases hl : (r.length : Int) < lo
  · rw [decide_eq_true hl] at c1
    obtain ⟨q, s2, q1, q2, q3, q4⟩ := draw b (k := j) (by omega) (m := w) g2.pool (by omega) (by omega)
    have hq : colsB (-1) w [.int q] = true := by
      simp only [colsB, Bool.and_true, Bool.and_eq_true, decide_eq_true_eq]
      omega
    have g3 := ((hg.trans g2).trans q4)
    have g4 := Gd.new g3.pool (.lst [.int q])
    have hlo : lo ≤ [D.int q].length := by simp; omega
    refine ⟨_, _, st ((exs_nx ((ite_t c1).trans ((exs_asg (d := .ref s2.length) (s' := s2 ++ [.lst [.int q]]) (by simp only [evE, ev, plainT, new]; walk_at "ev")).trans rfl))).trans (fin _ _ _ new_at hq hlo (g3.trans g4))), (g3.trans g4).trans (Gd.new g4.pool _), colsB_take _ hq, (done _ hq hlo).1, (done _ hq hlo).2⟩
  · rw [decide_eq_false hl] at c1
    refine ⟨_, _, st ((exs_skip c1).trans (fin _ _ _ new_at hc (by omega) (hg.trans g2))), (hg.trans g2).trans (Gd.new g2.pool _), colsB_take _ hc, (done _ hc (by omega)).1, (done _ hc (by omega)).2⟩
end SL

set_option Elab.async false
set_option linter.all false
set_option maxRecDepth 100000
set_option autoImplicit false
set_option maxHeartbeats 1000000
/-! SLs: the parts of a schema, drawn: tables and keys. -/
namespace SL
open PySem L2 G
local macro_rules | `(tactic| walk_at "ev") => `(tactic| simp only [evE, evT, ev, evs, plainT, asB, evPart, List.getElem?_cons_zero, List.getElem?_cons_succ, List.set_cons_zero, List.set_cons_succ, Cst.d, Ex.isNop, R.bind_ok, R.toS_ok, if_true, Bool.not_true, Bool.not_false, Bool.false_eq_true, if_false, addI, subI, eqI, *])
/-! ### dicts that grow -/
section
variable {ts : List (Str × D)} {x y : Str} {v d : D}
theorem setK_DK : setK (DK ts) (.inr x) v = DK (setK ts x v) := by
  have h : (DK ts).any (fun p => decide (p.1 = (Sum.inr x : Key))) = ts.any fun p => decide (p.1 = x) := by
    unfold DK
    rw [List.any_map]
    congr 1
    funext p
    simp
  unfold setK
  rw [h]
  split
  · unfold DK
    rw [List.map_map, List.map_map]
    apply List.map_congr_left
    intro p _
    by_cases e : p.1 = x
    · simp [e]
    · simp [e]
  · simp [DK]
theorem mem_setK {p : Str × D} (h : p ∈ setK ts x v) : p ∈ ts ∧ p.1 ≠ x ∨ p = (x, v) := by
  unfold setK at h
  split at h
  · obtain ⟨q, hq, rfl⟩ := List.mem_map.mp h
    by_cases e : q.1 = x
    · right; simp [e]
    · left; simp [e, hq]
  · rename_i hn
    rcases List.mem_append.mp h with h | h
    · refine .inl ⟨h, fun e => hn ?_⟩
      rw [List.any_eq_true]
      exact ⟨p, h, by simpa using e⟩
    · right; simpa using h
theorem setK_keys : (setK ts x v).map (·.1) = if x ∈ ts.map (·.1) then ts.map (·.1) else ts.map (·.1) ++ [x] := by
  have hiff : (ts.any fun p => decide (p.1 = x)) = true ↔ x ∈ ts.map (·.1) := by
    rw [List.any_eq_true]
    constructor
    · rintro ⟨p, hp, e⟩
      exact List.mem_map.mpr ⟨p, hp, by simpa using e⟩
    · intro h
      obtain ⟨p, hp, e⟩ := List.mem_map.mp h
      exact ⟨p, hp, by simpa using e⟩
  unfold setK
  by_cases h : x ∈ ts.map (·.1)
  · rw [if_pos (hiff.mpr h), if_pos h, List.map_map]
    apply List.map_congr_left
    intro p _
    show (if p.1 = x then (p.1, v) else p).1 = p.1
    split <;> rfl
  · rw [if_neg (fun z => h (hiff.mp z)), if_neg h, List.map_append]; rfl
theorem setK_nodup (h : (ts.map (·.1)).Nodup) : ((setK ts x v).map (·.1)).Nodup := by
  rw [setK_keys]
  split
  · exact h
  · rename_i hn
    rw [List.nodup_append]
    refine ⟨h, by simp, fun a ha b hb => ?_⟩
    simp at hb
    subst hb
    exact fun e => hn (e ▸ ha)
theorem setK_len : ts.length ≤ (setK ts x v).length ∧ (setK ts x v).length ≤ ts.length + 1 ∧ 1 ≤ (setK ts x v).length := by
  have h := congrArg List.length (setK_keys (ts := ts) (x := x) (v := v))
  rw [List.length_map] at h
  rw [h]
  split
  · rename_i hm
    rw [List.length_map]
    cases ts with
    | nil => simp at hm
    | cons p r => simp
  · simp
theorem getK_of_mem {p : Str × D} (hn : (ts.map (·.1)).Nodup) (h : p ∈ ts) : getK ts p.1 = some p.2 := by
  induction ts with
  | nil => cases h
  | cons q r ih =>
    have hn' := List.nodup_cons.mp hn
    unfold getK at ih ⊢
    rw [List.find?_cons]
    by_cases e : q.1 = p.1
    · rw [decide_eq_true e]
      rcases List.mem_cons.mp h with rfl | h
      · rfl
      · exact absurd (List.mem_map.mpr ⟨p, h, e.symm⟩) hn'.1
    · rw [decide_eq_false e]
      rcases List.mem_cons.mp h with rfl | h
      · exact absurd rfl e
      · exact ih hn'.2 h
theorem mem_getK (h : getK ts x = some d) : (x, d) ∈ ts := by
  obtain ⟨d', h1, h2⟩ := getK_mem (mem_of_getK h)
  rw [h] at h1
  cases h1
  exact h2
end
theorem put_dct {s : S} {a : Nat} {ts : List (Str × D)} {x : Str} {v : D} (h : s[a]? = some (.dct (DK ts))) (hl : ts.length < 64) : setD (.ref a) (.str x) v s = some (s.set a (.dct (DK (setK ts x v)))) := by
  simp only [setD, h, keyD, setK_DK]
  rw [if_pos]
  unfold DK
  rw [List.length_map]
  exact Nat.lt_trans hl (by decide)
/-! ### tables -/
structure TbS (wd : Int) (ts : List (Str × D)) : Prop where
  nd : (ts.map (·.1)).Nodup
  all : ∀ p ∈ ts, wordB p.1 = true ∧ ∃ w, p.2 = .int w ∧ 1 ≤ w ∧ w ≤ wd
theorem TbS.at {wd : Int} {ts : List (Str × D)} (h : TbS wd ts) {x : Str} {d : D} (e : getK ts x = some d) : wordB x = true ∧ ∃ w, d = .int w ∧ 1 ≤ w ∧ w ≤ wd := h.all _ (mem_getK e)
theorem draw_tables {Γ : Ga} (b : BD Γ) {k : Nat} (hk : 5 ≤ k) {s : S} {n : Nat} {m wd : Int} (p : PoolAt n s) (h0 : 0 ≤ m) (h : m ≤ 50) (hw : 1 ≤ wd) (hw2 : wd ≤ 1000) :
    ∃ (a : Nat) (s' : S) (ts : List (Str × D)), (clF Γ k).call 298 [.ref n, .int m, .int wd] s = .ok (.ref a) s' ∧ Gd n [] s s' ∧ s'[a]? = some (.dct (DK ts)) ∧ TbS wd ts ∧ (ts.length : Int) ≤ m ∧ (1 ≤ m → 1 ≤ ts.length) ∧ s.length ≤ a := by
  obtain ⟨j, rfl, hj⟩ := lv hk
  obtain ⟨l, s1, xs, e1, g1, l1, hlen, hx, hl0⟩ := draw_names b (k := j) hj p h0 (by omega)
  have g2 := Gd.new g1.pool (.dct [])
  have hln : l ≠ n := p.ne hl0
  have hla : l ≠ s1.length := by have := (List.getElem?_eq_some_iff.mp l1).1; omega
  have han : s1.length ≠ n := g1.pool.ne (Nat.le_refl _)
  have l2 := g2.at hln l1
  let I : Nat → Fr → S → Prop := fun i τ s' => ∃ (ts : List (Str × D)) (c : Option D), τ = [some (.ref n), some (.int m), some (.int wd), some (.ref l), some (.ref s1.length), c] ∧ Gd n [s1.length] (s1 ++ [.dct []]) s' ∧ s'[s1.length]? = some (.dct (DK ts)) ∧ TbS wd ts ∧ ts.length ≤ i ∧ (1 ≤ i → 1 ≤ ts.length)
  obtain ⟨τ', s', h1, ts, c, rfl, hg, hat, ht, hle, hge⟩ := forS_inv (ok := (Src.lst l (xs.map .str)).ok) (g := forB (clF Γ j) (.var 5) (.cons (.asg (.sub (.var 4) (.var 5)) (.bin .add (.cst (.int 1)) (.call 148 (.cons (.var 0) (.cons (.var 2) .nil))))) .nil))
    (items := xs.map .str) (τ := [some (.ref n), some (.int m), some (.int wd), some (.ref l), some (.ref s1.length), none]) (s := s1 ++ [.dct []]) I (fun i τ s' ⟨ts, c, _, hg, _⟩ => lstAt_of (hg.keep _ _ hln (by simpa using hla) l2)) (fun i d τ s' hi ⟨ts, c, hτ, hg, hat, ht, hle, hge⟩ => by
      subst hτ
      rw [List.getElem?_map, Option.map_eq_some_iff] at hi
      obtain ⟨x, hxi, rfl⟩ := hi
      have hil := (List.getElem?_eq_some_iff.mp hxi).1
      have hmem : x ∈ xs := List.mem_of_getElem? hxi
      obtain ⟨r, s2, q1, q2, q3, q4⟩ := draw b (k := j) (by omega) (m := wd) hg.pool (by omega) (by omega)
      have hat2 := q4.at han hat
      have pl := put_dct (x := x) (v := .int (1 + r)) hat2 (by omega)
      have lt2 := (List.getElem?_eq_some_iff.mp hat2).1
      refine ⟨_, _, ?_, setK ts x (.int (1 + r)), some (.str x), rfl, (hg.trans q4.wide).trans (Gd.set q4.pool han (by simp)), set_get lt2, ⟨setK_nodup ht.nd, fun p hp => ?_⟩, by have := (setK_len (ts := ts) (x := x) (v := .int (1 + r))).2.1; omega, fun _ => setK_len.2.2⟩
      · rw [forB_var]
        refine (exs_sub (d := .int (1 + r)) (x := .ref s1.length) (y := .str x) (s1 := s2) (s2 := s2) (s3 := s2) ?_ rfl rfl pl).trans rfl
        walk_at "ev"
      · rcases mem_setK hp with hp | rfl
        · exact ht.all p hp.1
        · exact ⟨hx x hmem, 1 + r, rfl, by omega, by omega⟩) ⟨[], none, rfl, (Gd.refl g2.pool).wide, by simp [DK], ⟨by simp, by simp⟩, by simp, by omega⟩
  rw [List.length_map] at hle hge
  have l6 := g1.len p
  refine ⟨s1.length, s', ts, call_rt b.h298 (τ := [some (.ref n), some (.int m), some (.int wd), none, none, none]) rfl rfl ?_, (((g1.trans g2).wide).trans hg).drop (fun q hq => by simp at hq; omega), hat, ht, by omega, fun hm => hge (by omega), l6⟩
  refine (exs_asg (d := .ref l) (s' := s1) (by walk_at "ev")).trans ?_
  refine (exs_asg (d := .ref s1.length) (s' := s1 ++ [.dct []]) rfl).trans ?_
  refine (exs_nx (τ' := [some (.ref n), some (.int m), some (.int wd), some (.ref l), some (.ref s1.length), c]) ?_).trans (exs_ret (d := .ref s1.length) rfl)
  exact (ex_for (ds := [.ref l]) (s1 := s1 ++ [O.dct []]) (src := .lst l (xs.map .str)) rfl (by simp only [srcOf, lstAt_of l2, Option.map_some])).trans h1
/-! ### keys -/
structure KyS (ts ks : List (Str × D)) : Prop where
  nd : (ks.map (·.1)).Nodup
  all : ∀ p ∈ ks, ∃ w, getK ts p.1 = some (.int w) ∧ keyB w p.2 = true
theorem KyS.kok {ts ks : List (Str × D)} (h : KyS ts ks) : KOk ts ks := fun x d e => h.all _ (mem_getK e)
theorem draw_keys {Γ : Ga} (b : BD Γ) {k : Nat} (hk : 4 ≤ k) {s : S} {n t : Nat} {wd : Int} {ts : List (Str × D)} (p : PoolAt n s) (ht : s[t]? = some (.dct (DK ts))) (hts : TbS wd ts) (hl : ts.length ≤ 50) (hw : wd ≤ 1000) :
    ∃ (a : Nat) (s' : S) (ks : List (Str × D)), (clF Γ k).call 210 [.ref n, .ref t] s = .ok (.ref a) s' ∧ Gd n [] s s' ∧ s'[a]? = some (.dct (DK ks)) ∧ KyS ts ks ∧ ks.length ≤ ts.length ∧ s.length ≤ a := by
  obtain ⟨j, rfl, hj⟩ := lv hk
  have g1 := Gd.new p (.dct [])
  have htn := p.ne_dct ht
  have han : s.length ≠ n := p.ne (Nat.le_refl _)
  have t1 := g1.at htn ht
  have hta : t ≠ s.length := by have := (List.getElem?_eq_some_iff.mp ht).1; omega
  have g2 := Gd.new g1.pool (.lst ((ts.map (·.1)).map .str))
  have hln : (s ++ [O.dct []]).length ≠ n := g1.pool.ne (Nat.le_refl _)
  have hla : (s ++ [O.dct []]).length ≠ s.length := by simp
  have l2 : ((s ++ [O.dct []]) ++ [O.lst ((ts.map (·.1)).map .str)])[(s ++ [O.dct []]).length]? = some (.lst ((ts.map (·.1)).map .str)) := new_at
  have hll := list_dct t1
  let I : Nat → Fr → S → Prop := fun i τ s' => ∃ (ks : List (Str × D)) (c : Option D), τ = [some (.ref n), some (.ref t), some (.ref s.length), c] ∧ Gd n [s.length] ((s ++ [.dct []]) ++ [.lst ((ts.map (·.1)).map .str)]) s' ∧ s'[s.length]? = some (.dct (DK ks)) ∧ KyS ts ks ∧ ks.length ≤ i
  obtain ⟨τ', s', h1, ks, c, rfl, hg, hat, hks, hle⟩ := forS_inv (ok := (Src.lst (s ++ [O.dct []]).length ((ts.map (·.1)).map .str)).ok) (g := forB (clF Γ j) (.var 3) (.cons (.ite (.and (.cmp .gt (.ix (.var 1) (.var 3)) (.cst (.int 1))) (.cmp .eq (.call 148 (.cons (.var 0) (.cons (.cst (.int 3)) .nil))) (.cst (.int 0)))) (.cons (.asg (.sub (.var 2) (.var 3)) (.call 136 (.cons (.var 0) (.cons (.ix (.var 1) (.var 3)) (.cons (.cst (.int 1)) (.cons (.bin .sub (.ix (.var 1) (.var 3)) (.cst (.int 1))) .nil)))))) .nil) (.nil)) .nil))
    (items := (ts.map (·.1)).map .str) (τ := [some (.ref n), some (.ref t), some (.ref s.length), none]) (s := (s ++ [.dct []]) ++ [.lst ((ts.map (·.1)).map .str)]) I (fun i τ s' ⟨ks, c, _, hg, _⟩ => lstAt_of (hg.keep _ _ hln (by simpa using hla) l2)) (fun i d τ s' hi ⟨ks, c, hτ, hg, hat, hks, hle⟩ => by
      subst hτ
      rw [List.getElem?_map, Option.map_eq_some_iff] at hi
      obtain ⟨x, hxi, rfl⟩ := hi
      have hil := (List.getElem?_eq_some_iff.mp hxi).1
      rw [List.length_map] at hil
      obtain ⟨d, hd, _⟩ := getK_mem (List.mem_of_getElem? hxi)
      obtain ⟨hwx, w, rfl, w1, w2⟩ := hts.at hd
      have t2 := hg.keep _ _ htn (by simpa using hta) (g2.at htn t1)
      have ix := ix_dct t2 (x := x) (by rw [getK_DK]; exact hd)
      have skip : ∀ {s2 : S}, Gd n [] s' s2 → evT (clF Γ j) (.and (.cmp .gt (.ix (.var 1) (.var 3)) (.cst (.int 1))) (.cmp .eq (.call 148 (.cons (.var 0) (.cons (.cst (.int 3)) .nil))) (.cst (.int 0)))) [some (.ref n), some (.ref t), some (.ref s.length), some (.str x)] s' = .ok false s2 → ∃ τ' s3, forB (clF Γ j) (.var 3) (.cons (.ite (.and (.cmp .gt (.ix (.var 1) (.var 3)) (.cst (.int 1))) (.cmp .eq (.call 148 (.cons (.var 0) (.cons (.cst (.int 3)) .nil))) (.cst (.int 0)))) (.cons (.asg (.sub (.var 2) (.var 3)) (.call 136 (.cons (.var 0) (.cons (.ix (.var 1) (.var 3)) (.cons (.cst (.int 1)) (.cons (.bin .sub (.ix (.var 1) (.var 3)) (.cst (.int 1))) .nil)))))) .nil) (.nil)) .nil) (.str x) [some (.ref n), some (.ref t), some (.ref s.length), c] s' = .nx τ' s3 ∧ I (i + 1) τ' s3 := fun g3 hc =>
        ⟨_, _, by rw [forB_var]; exact (exs_skip hc).trans rfl, ks, some (.str x), rfl, hg.trans g3.wide, g3.at han hat, hks, by omega⟩
      by_cases hw1 : 1 < w
      · obtain ⟨r, s2, q1, q2, q3, q4⟩ := draw b (k := j) (by omega) (m := 3) hg.pool (by decide) (by decide)
        have c1 : evT (clF Γ j) (.and (.cmp .gt (.ix (.var 1) (.var 3)) (.cst (.int 1))) (.cmp .eq (.call 148 (.cons (.var 0) (.cons (.cst (.int 3)) .nil))) (.cst (.int 0)))) [some (.ref n), some (.ref t), some (.ref s.length), some (.str x)] s' = .ok (r == 0) s2 := by
          have : cmpD .gt (.int w) (.int 1) s' = .ok true s' := congrArg (fun z => R.ok z s') (decide_eq_true hw1)
          walk_at "ev"
        cases hr : (r == 0) with
        | false => rw [hr] at c1; exact skip q4 c1
        | true =>
          rw [hr] at c1
          have t3 := q4.at htn t2
          have ix3 := ix_dct t3 (x := x) (by rw [getK_DK]; exact hd)
          obtain ⟨g, s3, f1, f2, f3, f4, f5⟩ := draw_columns b (k := j) (by omega) (w := w) (lo := 1) (hi := w - 1) q4.pool w1 (by omega) (by omega) (by omega) (by omega)
          have hat3 := f2.at han (q4.at han hat)
          have pl := put_dct (x := x) (v := .tup g) hat3 (by omega)
          have lt3 := (List.getElem?_eq_some_iff.mp hat3).1
          refine ⟨_, _, ?_, setK ks x (.tup g), some (.str x), rfl, ((hg.trans q4.wide).trans f2.wide).trans (Gd.set f2.pool han (by simp)), set_get lt3, ⟨setK_nodup hks.nd, fun p hp => ?_⟩, by have := (setK_len (ts := ks) (x := x) (v := .tup g)).2.1; omega⟩
          · rw [forB_var]
            refine (exs_nx ((ite_t c1).trans ((exs_sub (d := .tup g) (x := .ref s.length) (y := .str x) (s1 := s3) (s2 := s3) (s3 := s3) ?_ rfl rfl pl).trans rfl))).trans rfl
            walk_at "ev"
          · rcases mem_setK hp with hp | rfl
            · exact hks.all p hp.1
            · refine ⟨w, hd, ?_⟩
              show (colsB (-1) w g && _) = true
              rw [f3, Bool.true_and, Bool.and_eq_true]
              exact ⟨decide_eq_true (by omega), decide_eq_true (by omega)⟩
      · refine skip (Gd.refl hg.pool) ?_
        have : cmpD .gt (.int w) (.int 1) s' = .ok false s' := congrArg (fun z => R.ok z s') (decide_eq_false hw1)
        walk_at "ev") ⟨[], none, rfl, (Gd.refl g2.pool).wide, g2.at han (by simp [DK]), ⟨by simp, by simp⟩, by simp⟩
  rw [List.length_map, List.length_map] at hle
  refine ⟨s.length, s', ks, call_rt b.h210 (τ := [some (.ref n), some (.ref t), none, none]) rfl rfl ?_, (((g1.trans g2).wide).trans hg).drop (fun q hq => by simp at hq; omega), hat, hks, hle, Nat.le_refl _⟩
  refine (exs_asg (d := .ref s.length) (s' := s ++ [.dct []]) rfl).trans ?_
  refine (exs_nx (τ' := [some (.ref n), some (.ref t), some (.ref s.length), c]) ?_).trans (exs_ret (d := .ref s.length) rfl)
  exact (ex_for (ds := [.ref (s ++ [O.dct []]).length]) (s1 := (s ++ [O.dct []]) ++ [O.lst ((ts.map (·.1)).map .str)]) (src := .lst (s ++ [O.dct []]).length ((ts.map (·.1)).map .str)) (by walk_at "ev") (by simp only [srcOf, lstAt_of l2, Option.map_some])).trans h1
end SL

set_option Elab.async false
set_option linter.all false
set_option maxRecDepth 100000
set_option autoImplicit false
set_option maxHeartbeats 1000000
/-! SLt: the parts of a schema, drawn: services; all three. -/
namespace SL
open PySem L2 G
local macro_rules | `(tactic| walk_at "ev") => `(tactic| simp only [evE, evT, ev, evs, plainT, asB, evPart, List.getElem?_cons_zero, List.getElem?_cons_succ, List.set_cons_zero, List.set_cons_succ, Cst.d, Ex.isNop, R.bind_ok, R.toS_ok, if_true, Bool.not_true, Bool.not_false, Bool.false_eq_true, if_false, addI, subI, eqI, *])
theorem len_lst {s : S} {n : Nat} {ds : List D} (h : s[n]? = some (.lst ds)) : bltD .len [.ref n] s = .ok (.int ds.length) s := by
  have e : dctOf s (.ref n) = none := dctOf_lst h
  simp only [bltD, e, seqOf, lstAt_of h]
/-- drawn services: one that is capped at most for each table -/
structure SvS (ts ks ss : List (Str × D)) : Prop where
  nd : (ss.map (·.1)).Nodup
  all : ∀ p ∈ ss, wordB p.1 = true ∧ isServD (DK ts) p.2 = true
  one : ∀ p ∈ ss, ∀ q ∈ ss, p.1 ≠ q.1 → wholeB ts ks p.2 = false → wholeB ts ks q.2 = false → tabS p.2 ≠ tabS q.2
def svBody : Cms := .cons (.asg (.loc (.var 10)) (.ix (.var 5) (.bin .mod (.var 9) (.blt .len (.cons (.var 5) .nil)))))
    (.cons (.asg (.loc (.var 11)) (.ix (.var 3) (.call 148 (.cons (.var 0) (.cons (.blt .len (.cons (.var 3) .nil)) .nil)))))
    (.cons (.asg (.loc (.var 12)) (.tup (.cons (.var 10) (.cons (.call 136 (.cons (.var 0) (.cons (.ix (.var 1) (.var 10)) (.cons (.cst (.int 0)) (.cons (.cst (.int 4)) .nil))))) (.cons (.var 11) .nil)))))
    (.cons (.ite (.not (.call 198 (.cons (.var 1) (.cons (.var 2) (.cons (.var 12) .nil))))) (.cons (.ite (.cmp .inn (.var 10) (.var 8)) (.cons (.asg (.loc (.var 12)) (.tup (.cons (.var 10) (.cons (.ix (.var 12) (.cst (.int 1))) (.cons (.cst .non) .nil))))) .nil) (.cons (.expr (.meth .append (.var 8) (.cons (.var 10) .nil))) .nil)) .nil) (.nil))
    (.cons (.asg (.sub (.var 7) (.ix (.var 6) (.var 9))) (.var 12)) .nil))))
theorem draw_services {Γ : Ga} (b : BD Γ) {k : Nat} (hk : 5 ≤ k) {s : S} {n t m cp : Nat} {wd more : Int} {ts ks : List (Str × D)} {cps : List D} (p : PoolAt n s) (ht : s[t]? = some (.dct (DK ts))) (hm : s[m]? = some (.dct (DK ks))) (hc : s[cp]? = some (.lst cps)) (cpn : cp ≠ n)
    (hts : TbS wd ts) (hks : KyS ts ks) (hl : ts.length ≤ 20) (hl1 : 1 ≤ ts.length) (hw : wd ≤ 1000) (hmore : 0 ≤ more) (hmore2 : more ≤ 20) (hcl : 1 ≤ cps.length) (hcl2 : cps.length ≤ 1000) (hcap : ∀ z ∈ cps, isCapD z = true) :
    ∃ (a : Nat) (s' : S) (ss : List (Str × D)), (clF Γ k).call 275 [.ref n, .ref t, .ref m, .ref cp, .int more] s = .ok (.ref a) s' ∧ Gd n [] s s' ∧ s'[a]? = some (.dct (DK ss)) ∧ SvS ts ks ss ∧ 1 ≤ ss.length ∧ (ss.length : Int) ≤ ts.length + more ∧ s.length ≤ a := by
  obtain ⟨j, rfl, hj⟩ := lv hk
  have htn := p.ne_dct ht
  have hmn := p.ne_dct hm
  -- order
  have g1 := Gd.new p (.lst ((ts.map (·.1)).map .str))
  have on : s.length ≠ n := p.ne (Nat.le_refl _)
  have o1 : (s ++ [O.lst ((ts.map (·.1)).map .str)])[s.length]? = some (.lst ((ts.map (·.1)).map .str)) := new_at
  have hll := list_dct ht
  have hol : bltD .len [.ref s.length] (s ++ [O.lst ((ts.map (·.1)).map .str)]) = .ok (.int (ts.length : Nat)) (s ++ [O.lst ((ts.map (·.1)).map .str)]) := by
    rw [len_lst o1]; simp
  -- names
  obtain ⟨l, s2, xs, e2, g2, l2, hlen, hx, hl0⟩ := draw_names b (k := j) hj g1.pool (m := (ts.length : Nat) + more) (by omega) (by omega)
  have ln : l ≠ n := g1.pool.ne hl0
  have G2 := g1.trans g2
  -- dict, list
  have g3 := Gd.new G2.pool (.dct [])
  have an : s2.length ≠ n := G2.pool.ne (Nat.le_refl _)
  have g4 := Gd.new g3.pool (.lst [])
  have fn : (s2 ++ [O.dct []]).length ≠ n := g3.pool.ne (Nat.le_refl _)
  have af : s2.length ≠ (s2 ++ [O.dct []]).length := by simp
  have low : ∀ {q : Nat} {o : O}, s2[q]? = some o → q ≠ s2.length ∧ q ≠ (s2 ++ [O.dct []]).length := fun h => by
    have := (List.getElem?_eq_some_iff.mp h).1
    simp; omega
  have o2 := g2.at on o1
  have t2 := G2.at htn ht
  have m2 := G2.at hmn hm
  have c2 := G2.at cpn hc
  have G34 := g3.trans g4
  have keep : ∀ {q : Nat} {o : O} {s' : S}, q ≠ n → s2[q]? = some o → Gd n [s2.length, (s2 ++ [O.dct []]).length] ((s2 ++ [O.dct []]) ++ [O.lst []]) s' → s'[q]? = some o := fun hq e g => g.keep _ _ hq (by
    obtain ⟨q1, q2⟩ := low e
    simp only [List.mem_cons, List.not_mem_nil, or_false]
    exact fun z => z.elim q1 q2) (G34.at hq e)
  have kok := hks.kok
  have kl : ∀ x cs, getK ks x = some (.tup cs) → cs.length < 2 ^ 20 := fun x cs e => by
    obtain ⟨w, h1, h2⟩ := kok _ _ e
    obtain ⟨_, w', h3, h4, h5⟩ := hts.at h1
    cases h3
    have : (colsB (-1) w cs && (decide (1 ≤ cs.length) && decide ((cs.length : Int) < w))) = true := h2
    simp only [Bool.and_eq_true, decide_eq_true_eq] at this
    omega
  let fr : Option D → Option D → Option D → Option D → Fr := fun x9 x10 x11 x12 => [some (.ref n), some (.ref t), some (.ref m), some (.ref cp), some (.int more), some (.ref s.length), some (.ref l), some (.ref s2.length), some (.ref (s2 ++ [O.dct []]).length), x9, x10, x11, x12]
  let I : Nat → Fr → S → Prop := fun i τ s' => ∃ (ss : List (Str × D)) (fl : List Str) (x9 x10 x11 x12 : Option D), τ = fr x9 x10 x11 x12 ∧ Gd n [s2.length, (s2 ++ [O.dct []]).length] ((s2 ++ [O.dct []]) ++ [O.lst []]) s' ∧ s'[s2.length]? = some (.dct (DK ss)) ∧ s'[(s2 ++ [O.dct []]).length]? = some (.lst (fl.map .str)) ∧
    SvS ts ks ss ∧ ss.length ≤ i ∧ fl.length ≤ i ∧ (1 ≤ i → 1 ≤ ss.length) ∧ (∀ y ∈ fl, Asc y) ∧ ∀ q ∈ ss, wholeB ts ks q.2 = false → tabS q.2 ∈ fl
  obtain ⟨τ', s', h1, ss, fl, x9, x10, x11, x12, rfl, hg, hat, hfl, hss, hle, _, hge, _, _⟩ := forS_inv (ok := (Src.vals (rngD 0 ((xs.length : Nat) : Int).toNat)).ok) (g := forB (clF Γ j) (.var 9) svBody)
    (items := rngD 0 ((xs.length : Nat) : Int).toNat) (τ := fr none none none none) (s := (s2 ++ [O.dct []]) ++ [O.lst []]) I (fun _ _ _ _ => trivial) (fun i d τ s' hi ⟨ss, fl, x9, x10, x11, x12, hτ, hg, hat, hfl, hss, hle, hfle, hge, hasc, hone⟩ => by
      subst hτ
      obtain ⟨hil, rfl⟩ := rng_at hi
      rw [Int.toNat_natCast] at hil
      -- the table
      obtain ⟨y, hy⟩ : ∃ y, (ts.map (·.1))[i % ts.length]? = some y := ⟨_, List.getElem?_eq_getElem (by rw [List.length_map]; exact Nat.mod_lt _ (by omega))⟩
      have ymem := List.mem_of_getElem? hy
      obtain ⟨dw, hd, _⟩ := getK_mem ymem
      obtain ⟨hwy, w, rfl, w1, w2⟩ := hts.at hd
      have o' := keep on o2 hg
      have t' := keep htn t2 hg
      have m' := keep hmn m2 hg
      have c' := keep cpn c2 hg
      have l' := keep ln l2 hg
      have v1 : bltD .len [.ref s.length] s' = .ok (.int (ts.length : Nat)) s' := by rw [len_lst o']; simp
      have v2 : binD .mod (.int (0 + (i : Nat))) (.int (ts.length : Nat)) s' = .ok (.int ((0 + (i : Nat)) % (ts.length : Nat))) s' := modD (by omega)
      have v3 : ixD (.ref s.length) (.int ((0 + (i : Nat)) % (ts.length : Nat))) s' = .ok (.str y) s' := by
        refine ixD_ref o' (Int.emod_nonneg _ (by omega)) ?_
        have : (((0 : Int) + (i : Nat)) % (ts.length : Nat)).toNat = i % ts.length := by
          rw [Int.zero_add, ← Int.natCast_emod, Int.toNat_natCast]
        rw [this, List.getElem?_map, hy]; rfl
      -- the cap
      have v4 := len_lst c'
      obtain ⟨r, s3, q1, q2, q3, q4⟩ := draw b (k := j) (by omega) (m := (cps.length : Nat)) hg.pool (by omega) (by omega)
      obtain ⟨z, hz⟩ : ∃ z, cps[r.toNat]? = some z := ⟨_, List.getElem?_eq_getElem (by omega)⟩
      have hcz := hcap z (List.mem_of_getElem? hz)
      have v5 := ixD_ref (q4.at cpn c') q2 hz
      -- the columns
      have t3 := q4.at htn t'
      have v6 := ix_dct t3 (x := y) (by rw [getK_DK]; exact hd)
      obtain ⟨g, s4, f1, f2, f3, f4, f5⟩ := draw_columns b (k := j) (by omega) (w := w) (lo := 0) (hi := 4) q4.pool w1 (by omega) (by omega) (by omega) (by omega)
      -- is it whole
      have Q4 := q4.trans f2
      have hserv : ∀ c, isCapD c = true → isServD (DK ts) (.tup [.str y, .tup g, c]) = true := fun c hc => by
        simp only [isServD, getK_DK, hd, hwy, isColsD, f3, hc, Bool.and_self]
      obtain ⟨s5, u1, u2⟩ := l_whole b.toBW (k := j) (by omega) (Q4.at htn t') (Q4.at hmn m') kok ⟨y, g, z, w, rfl, hd, f3⟩ kl
      have Q5 := Q4.trans (Gd.of_gp Q4.pool u1)
      have a5 := Q5.at an hat
      have fl5 := Q5.at fn hfl
      have l5 := Q5.at ln l'
      obtain ⟨xn, hxn⟩ : ∃ xn, xs[i]? = some xn := ⟨_, List.getElem?_eq_getElem hil⟩
      have hxw := hx xn (List.mem_of_getElem? hxn)
      have step1 : ∀ cs, exs (clF Γ j) (.cons (.asg (.loc (.var 10)) (.ix (.var 5) (.bin .mod (.var 9) (.blt .len (.cons (.var 5) .nil)))))
    (.cons (.asg (.loc (.var 11)) (.ix (.var 3) (.call 148 (.cons (.var 0) (.cons (.blt .len (.cons (.var 3) .nil)) .nil)))))
    (.cons (.asg (.loc (.var 12)) (.tup (.cons (.var 10) (.cons (.call 136 (.cons (.var 0) (.cons (.ix (.var 1) (.var 10)) (.cons (.cst (.int 0)) (.cons (.cst (.int 4)) .nil))))) (.cons (.var 11) .nil))))) cs))) (fr (some (.int (0 + (i : Nat)))) x10 x11 x12) s' = exs (clF Γ j) cs (fr (some (.int (0 + (i : Nat)))) (some (.str y)) (some z) (some (.tup [.str y, .tup g, z]))) s4 := fun cs => by
        refine (exs_asg (d := .str y) (s' := s') ?_).trans ((exs_asg (d := z) (s' := s3) ?_).trans ((exs_asg (d := .tup [.str y, .tup g, z]) (s' := s4) ?_).trans rfl))
        · show (ev _ _).1 (fr _ _ _ _) _ = _
          clear hg
          simp only [fr]
          walk_at "ev"
        · show (ev _ _).1 (fr _ (some (.str y)) _ _) _ = _
          clear hg
          simp only [fr]
          walk_at "ev"
        · show (ev _ _).1 (fr _ (some (.str y)) (some z) _) _ = _
          clear hg
          simp only [fr]
          walk_at "ev"
      have cond : evT (clF Γ j) (.not (.call 198 (.cons (.var 1) (.cons (.var 2) (.cons (.var 12) .nil))))) (fr (some (.int (0 + (i : Nat)))) (some (.str y)) (some z) (some (.tup [.str y, .tup g, z]))) s4 = .ok (!wholeB ts ks (.tup [.str y, .tup g, z])) s5 := by
        simp only [fr, evT, ev, evs, plainT, asB, List.getElem?_cons_zero, List.getElem?_cons_succ, R.bind_ok, u2, truD]
      -- the end of a turn
      have fin : ∀ (c : D) (fl' : List Str) (s6 : S), isCapD c = true → s6[s2.length]? = some (.dct (DK ss)) → s6[(s2 ++ [O.dct []]).length]? = some (.lst (fl'.map .str)) → s6[l]? = some (.lst (xs.map .str)) → Gd n [s2.length, (s2 ++ [O.dct []]).length] s' s6 → fl'.length ≤ i + 1 → (∀ y ∈ fl', Asc y) → (∀ y ∈ fl, y ∈ fl') →
          (wholeB ts ks (.tup [.str y, .tup g, c]) = false → y ∉ fl ∧ y ∈ fl') →
          exs (clF Γ j) (.cons (.asg (.sub (.var 7) (.ix (.var 6) (.var 9))) (.var 12)) .nil) (fr (some (.int (0 + (i : Nat)))) (some (.str y)) (some z) (some (.tup [.str y, .tup g, c]))) s6 = .nx (fr (some (.int (0 + (i : Nat)))) (some (.str y)) (some z) (some (.tup [.str y, .tup g, c]))) (s6.set s2.length (.dct (DK (setK ss xn (.tup [.str y, .tup g, c]))))) ∧
          I (i + 1) (fr (some (.int (0 + (i : Nat)))) (some (.str y)) (some z) (some (.tup [.str y, .tup g, c]))) (s6.set s2.length (.dct (DK (setK ss xn (.tup [.str y, .tup g, c]))))) := fun c fl' s6 hc h1 h2 h3 h4 h5 h6 h7 h8 => by
        have pl := put_dct (x := xn) (v := .tup [.str y, .tup g, c]) h1 (by omega)
        have lt := (List.getElem?_eq_some_iff.mp h1).1
        have ixn : ixD (.ref l) (.int (0 + (i : Nat))) s6 = .ok (.str xn) s6 := ixD_ref h3 (by omega) (by
          have : ((0 : Int) + (i : Nat)).toNat = i := by omega
          rw [this, List.getElem?_map, hxn]; rfl)
        refine ⟨(exs_sub (d := .tup [.str y, .tup g, c]) (x := .ref s2.length) (y := .str xn) (s1 := s6) (s2 := s6) (s3 := s6) rfl rfl ?_ pl).trans rfl, setK ss xn (.tup [.str y, .tup g, c]), fl', _, _, _, _, rfl, (hg.trans h4).trans (Gd.set h4.pool an (by simp)), set_get lt, by rw [List.getElem?_set_ne af]; exact h2, ⟨setK_nodup hss.nd, fun p hp => ?_, fun p hp q hq hne hp2 hq2 => ?_⟩, by have := (setK_len (ts := ss) (x := xn) (v := .tup [.str y, .tup g, c])).2.1; omega, h5, fun _ => setK_len.2.2, h6, fun q hq hq2 => ?_⟩
        · show (ev _ _).1 (fr _ _ _ _) _ = _
          simp only [fr, ev, plainT, List.getElem?_cons_zero, List.getElem?_cons_succ, R.bind_ok, ixn]
        · rcases mem_setK hp with hp | rfl
          · exact hss.all p hp.1
          · exact ⟨hxw, hserv c hc⟩
        · rcases mem_setK hp with hp | rfl
          · rcases mem_setK hq with hq | rfl
            · exact hss.one p hp.1 q hq.1 hne hp2 hq2
            · intro e
              have e : tabS p.2 = y := e
              exact (h8 hq2).1 (e ▸ hone p hp.1 hp2)
          · rcases mem_setK hq with hq | rfl
            · intro e
              have e : y = tabS q.2 := e
              exact (h8 hp2).1 (e ▸ hone q hq.1 hq2)
            · exact absurd rfl hne
        · rcases mem_setK hq with hq | rfl
          · exact h7 _ (hone q hq.1 hq2)
          · exact (h8 hq2).2
      have W5 : Gd n [s2.length, (s2 ++ [O.dct []]).length] s' s5 := Q5.wide
      cases hwh : wholeB ts ks (.tup [.str y, .tup g, z]) with
      | true =>
        rw [hwh] at cond
        obtain ⟨k1, k2⟩ := fin z fl s5 hcz a5 fl5 l5 W5 (by omega) hasc (fun _ h => h) (fun h => by rw [hwh] at h; cases h)
        refine ⟨_, _, ?_, k2⟩
        rw [forB_var]
        exact (step1 _).trans ((exs_skip cond).trans k1)
      | false =>
        rw [hwh] at cond
        have ii := inn_strs fl5 (wordB_asc hwy) hasc
        have c3 : evT (clF Γ j) (.cmp .inn (.var 10) (.var 8)) (fr (some (.int (0 + (i : Nat)))) (some (.str y)) (some z) (some (.tup [.str y, .tup g, z]))) s5 = .ok (decide (y ∈ fl)) s5 := by
          simp only [fr, evT, ev, plainT, asB, List.getElem?_cons_zero, List.getElem?_cons_succ, R.bind_ok, ii]
        by_cases hin : y ∈ fl
        · rw [decide_eq_true hin] at c3
          obtain ⟨k1, k2⟩ := fin .non fl s5 rfl a5 fl5 l5 W5 (by omega) hasc (fun _ h => h) (fun h => by simp [wholeB, D.isNon] at h)
          refine ⟨_, _, ?_, k2⟩
          rw [forB_var]
          refine (step1 _).trans ((exs_nx ((ite_t cond).trans ((exs_nx ((ite_t c3).trans ((exs_asg (d := .tup [.str y, .tup g, .non]) (s' := s5) ?_).trans rfl))).trans rfl))).trans k1)
          rfl
        · rw [decide_eq_false hin] at c3
          have lt5 := (List.getElem?_eq_some_iff.mp fl5).1
          have ap := append_lst (d := .str y) fl5 (by rw [List.length_map]; omega)
          have hms : mSel .append (.ref (s2 ++ [O.dct []]).length) s5 = some .lappend := by simp only [mSel, fl5]; rfl
          obtain ⟨k1, k2⟩ := fin z (fl ++ [y]) (s5.set (s2 ++ [O.dct []]).length (.lst (fl.map .str ++ [.str y]))) hcz (by rw [List.getElem?_set_ne (Ne.symm af)]; exact a5) (by rw [set_get lt5]; simp) (by rw [List.getElem?_set_ne (Ne.symm (low l2).2)]; exact l5) (W5.trans (Gd.set W5.pool fn (by simp))) (by simp; omega) (fun q hq => by
            rcases List.mem_append.mp hq with h | h
            · exact hasc q h
            · simp at h; subst h; exact wordB_asc hwy) (fun q h => by simp [h]) (fun _ => ⟨hin, by simp⟩)
          refine ⟨_, _, ?_, k2⟩
          rw [forB_var]
          refine (step1 _).trans ((exs_nx ((ite_t cond).trans ((exs_nx ((ite_f c3).trans ((exs_expr (d := .non) (s' := s5.set (s2 ++ [O.dct []]).length (.lst (fl.map .str ++ [.str y]))) ?_).trans rfl))).trans rfl))).trans k1)
          simp only [fr, evE, ev, evs, plainT, List.getElem?_cons_zero, List.getElem?_cons_succ, R.bind_ok, hms, ap]) ⟨[], [], none, none, none, none, rfl, (Gd.refl G34.pool).wide, g4.at an (by simp [DK]), by simp, ⟨by simp, by simp, by simp⟩, by simp, by simp, by omega, by simp, by simp⟩
  rw [rng_len, Int.toNat_natCast] at hle hge
  have lG := G2.len p
  refine ⟨s2.length, s', ss, call_rt b.h275 (τ := [some (.ref n), some (.ref t), some (.ref m), some (.ref cp), some (.int more), none, none, none, none, none, none, none, none]) rfl rfl ?_, (((G2.trans G34).wide).trans hg).drop (fun q hq => by
    simp only [List.mem_cons, List.not_mem_nil, or_false] at hq
    rcases hq with rfl | rfl
    · exact lG
    · simp; omega), hat, hss, hge (by omega), by omega, lG⟩
  have ll2 : bltD .len [.ref l] ((s2 ++ [O.dct []]) ++ [O.lst []]) = .ok (.int (xs.length : Nat)) ((s2 ++ [O.dct []]) ++ [O.lst []]) := by
    rw [len_lst (G34.at ln l2)]; simp
  refine (exs_asg (d := .ref s.length) (s' := s ++ [O.lst ((ts.map (·.1)).map .str)]) (by walk_at "ev")).trans ?_
  refine (exs_asg (d := .ref l) (s' := s2) (by walk_at "ev")).trans ?_
  refine (exs_asg (d := .ref s2.length) (s' := s2 ++ [O.dct []]) rfl).trans ?_
  refine (exs_asg (d := .ref (s2 ++ [O.dct []]).length) (s' := (s2 ++ [O.dct []]) ++ [O.lst []]) rfl).trans ?_
  refine (exs_nx (τ' := fr x9 x10 x11 x12) ?_).trans (exs_ret (d := .ref s2.length) rfl)
  exact (ex_for (ds := [.int (xs.length : Nat)]) (s1 := (s2 ++ [O.dct []]) ++ [O.lst []]) (src := .vals (rngD 0 ((xs.length : Nat) : Int).toNat)) (by
    show evs _ _ (fr none none none none) _ = _
    simp only [fr, evs, ev, plainT, List.getElem?_cons_zero, List.getElem?_cons_succ, R.bind_ok, ll2]) (src_rng (by omega) (by omega) _)).trans h1
structure BD2 (Γ : Ga) : Prop extends BD Γ where
  h274 : Γ.fns.lookup 274 = some f274
  h247 : Γ.fns.lookup 247 = some f247
theorem draw_parts {Γ : Ga} (b : BD2 Γ) {k : Nat} (hk : 6 ≤ k) {s : S} {n cp : Nat} {many wd more : Int} {cps : List D} (p : PoolAt n s) (hc : s[cp]? = some (.lst cps)) (cpn : cp ≠ n) (h1 : 1 ≤ many) (h2 : many ≤ 20) (hw1 : 1 ≤ wd) (hw : wd ≤ 1000) (hmore : 0 ≤ more) (hmore2 : more ≤ 20) (hcl : 1 ≤ cps.length) (hcl2 : cps.length ≤ 1000) (hcap : ∀ z ∈ cps, isCapD z = true) :
    ∃ (l t m q : Nat) (s' : S) (ts ks ss : List (Str × D)), (clF Γ k).call 274 [.ref n, .int many, .int wd, .ref cp, .int more] s = .ok (.ref l) s' ∧ Gd n [] s s' ∧ s'[l]? = some (.lst [.ref t, .ref m, .ref q]) ∧ s'[t]? = some (.dct (DK ts)) ∧ s'[m]? = some (.dct (DK ks)) ∧ s'[q]? = some (.dct (DK ss)) ∧
      TbS wd ts ∧ KyS ts ks ∧ SvS ts ks ss ∧ 1 ≤ ts.length ∧ (ts.length : Int) ≤ many ∧ ks.length ≤ ts.length ∧ 1 ≤ ss.length ∧ (ss.length : Int) ≤ ts.length + more ∧ s.length ≤ t ∧ t < m ∧ m < q ∧ q < l := by
  obtain ⟨j, rfl, hj⟩ := lv hk
  obtain ⟨t, s1, ts, a1, a2, a3, a4, a5, a6, a7⟩ := draw_tables b.toBD (k := j) hj (m := many) (wd := wd) p (by omega) (by omega) hw1 hw
  obtain ⟨m, s2, ks, b1, b2, b3, b4, b5, b6⟩ := draw_keys b.toBD (k := j) (by omega) a2.pool a3 a4 (by omega) hw
  have tn := a2.pool.ne_dct a3
  have t2 := b2.at tn a3
  have g2 := a2.trans b2
  obtain ⟨q, s3, ss, c1, c2, c3, c4, c5, c6, c7⟩ := draw_services b.toBD (k := j) hj (more := more) g2.pool t2 b3 (g2.at cpn hc) cpn a4 b4 (by omega) (a6 h1) hw hmore hmore2 hcl hcl2 hcap
  have mn := b2.pool.ne_dct b3
  have qn := c2.pool.ne_dct c3
  have g3 := g2.trans c2
  have g4 := Gd.new g3.pool (.lst [.ref t, .ref m, .ref q])
  have lt1 := (List.getElem?_eq_some_iff.mp a3).1
  have lt2 := (List.getElem?_eq_some_iff.mp b3).1
  have lt3 := (List.getElem?_eq_some_iff.mp c3).1
  refine ⟨s3.length, t, m, q, _, ts, ks, ss, call_rt b.h274 (τ := [some (.ref n), some (.int many), some (.int wd), some (.ref cp), some (.int more), none, none]) rfl rfl ?_, g3.trans g4, new_at, g4.at tn (c2.at tn t2), g4.at mn (c2.at mn b3), g4.at qn c3, a4, b4, c4, a6 h1, a5, b5, c5, c6, a7, by omega, by omega, lt3⟩
  refine (exs_asg (d := .ref t) (s' := s1) (by walk_at "ev")).trans ?_
  refine (exs_asg (d := .ref m) (s' := s2) (by walk_at "ev")).trans ?_
  refine exs_ret ?_
  walk_at "ev"
  rfl
/-- one of a list -/
theorem draw_pick {Γ : Ga} (b : BD2 Γ) {k : Nat} (hk : 3 ≤ k) {s : S} {n l : Nat} {ds : List D} (p : PoolAt n s) (hl : s[l]? = some (.lst ds)) (ln : l ≠ n) (h1 : 1 ≤ ds.length) (h2 : ds.length ≤ 10000) :
    ∃ d s', (clF Γ k).call 247 [.ref n, .ref l] s = .ok d s' ∧ d ∈ ds ∧ Gd n [] s s' := by
  obtain ⟨j, rfl, hj⟩ := lv hk
  have v := len_lst hl
  obtain ⟨r, s2, q1, q2, q3, q4⟩ := draw b.toBD (k := j) hj (m := (ds.length : Nat)) p (by omega) (by omega)
  obtain ⟨z, hz⟩ : ∃ z, ds[r.toNat]? = some z := ⟨_, List.getElem?_eq_getElem (by omega)⟩
  have ix := ixD_ref (q4.at ln hl) q2 hz
  refine ⟨z, s2, call_rt b.h247 (τ := [some (.ref n), some (.ref l)]) rfl rfl (exs_ret ?_), List.mem_of_getElem? hz, q4⟩
  walk_at "ev"
/-- what a schema without a fault holds, as data -/
theorem fine_data {ts ks ss : List (Str × D)} (h : sfault ts ks ss = none) : (∀ x d, getK ts x = some d → dataD 3 d) ∧ (∀ x d, getK ks x = some d → dataD 3 d) ∧ ∀ x d, getK ss x = some d → dataD 3 d := by
  unfold sfault at h
  split at h
  · cases h
  rename_i e1
  split at h
  · cases h
  rename_i e2
  split at h
  · cases h
  rename_i e3
  have tok := tok_of e1
  have wok := wok_of e1
  have kok := kok_of tok e2
  have srv := serv_of e3
  have cols : ∀ {l w : Int} {g : List D} {k : Nat}, colsB l w g = true → dataD (k + 1) (.tup g) := fun h => by
    simp only [dataD]
    intro z hz
    obtain ⟨i, rfl⟩ := colsB_int h z hz
    exact data_fl (d := .int i) trivial
  refine ⟨fun x d e => ?_, fun x d e => ?_, fun x d e => ?_⟩
  · obtain ⟨w, rfl⟩ := tok _ _ e
    exact data_fl (d := .int w) trivial
  · obtain ⟨w, _, h5⟩ := kok _ _ e
    cases d <;> first
      | (cases h5; done)
      | (simp only [keyB, Bool.and_eq_true] at h5
         exact cols h5.1)
  · obtain ⟨d', h1, h2⟩ := srv x (mem_sortT.mpr (mem_of_getK e))
    rw [e] at h1
    cases h1
    obtain ⟨t, g, c, w, rfl, t1, t2, t3⟩ := serv_shape h2
    simp only [dataD]
    intro z hz
    simp only [List.mem_cons, List.not_mem_nil, or_false] at hz
    rcases hz with rfl | rfl | rfl
    · exact data_fl (d := .str t) (wordB_asc (wok _ _ t1))
    · exact cols t2
    · cases z <;> first
        | (cases t3; done)
        | exact data_fl (d := .non) trivial
        | exact data_fl (d := .int _) trivial
theorem init76.gp {s s' : S} {b i : Nat} {ts ks ss W C : List (Str × D)} (h : init76 s b i ts ks ss W C) (g : Gp s s') : init76 s' b i ts ks ss W C := by
  obtain ⟨f1, f2, f3, f4, f5, hb, e0, e1, e2, e3, e4, e5⟩ := h
  exact ⟨f1, f2, f3, f4, f5, hb, g _ _ e0, g _ _ e1, g _ _ e2, g _ _ e3, g _ _ e4, g _ _ e5⟩
end SL

set_option Elab.async false
set_option linter.all false
set_option maxRecDepth 100000
set_option autoImplicit false
set_option maxHeartbeats 1000000
/-! SMa: the methods of a schema. -/
namespace SL
open PySem PySem.Spec PyProof.Rows L2 G
/-- 112: _law_asked -/
def b112 : Cms := .cons (.try_ (.cons (.ite (.cmp .eq (.var 2) (.cst (.int 0))) (.cons (.ret (.tup (.cons (.cst (.str "told")) (.cons (.mc "width_of" (.var 0) (.cons (.var 1) .nil)) .nil)))) .nil) (.nil))
    (.cons (.ite (.cmp .eq (.var 2) (.cst (.int 1))) (.cons (.ret (.tup (.cons (.cst (.str "told")) (.cons (.mc "key_of" (.var 0) (.cons (.var 1) .nil)) .nil)))) .nil) (.nil))
    (.cons (.ite (.cmp .eq (.var 2) (.cst (.int 2))) (.cons (.ret (.tup (.cons (.cst (.str "told")) (.cons (.mc "service_of" (.var 0) (.cons (.var 1) .nil)) .nil)))) .nil) (.nil))
    (.cons (.ret (.tup (.cons (.cst (.str "told")) (.cons (.mc "is_whole" (.var 0) (.cons (.var 1) .nil)) .nil)))) .nil)))) (.cons "UnknownName" (some 3) (.cons (.ret (.tup (.cons (.cst (.str "unknown")) (.cons (.efld 3 "name") (.cons (.eis 3 "CappedError") .nil))))) .nil) .nil)) .nil
def f112 : Fn := ⟨3, 4, b112⟩
/-- 150: _law_due -/
def b150 : Cms := .cons (.ite (.cmp .lt (.var 4) (.cst (.int 2))) (.cons (.ite (.cmp .nin (.var 3) (.var 0)) (.cons (.ret (.tup (.cons (.cst (.str "unknown")) (.cons (.var 3) (.cons (.cst (.bl true)) .nil))))) .nil) (.nil))
    (.cons (.ite (.cmp .eq (.var 4) (.cst (.int 0))) (.cons (.ret (.tup (.cons (.cst (.str "told")) (.cons (.ix (.var 0) (.var 3)) .nil)))) .nil) (.nil))
    (.cons (.ret (.tup (.cons (.cst (.str "told")) (.cons (.meth .get (.var 1) (.cons (.var 3) .nil)) .nil)))) .nil))) (.nil))
    (.cons (.ite (.cmp .nin (.var 3) (.var 2)) (.cons (.ret (.tup (.cons (.cst (.str "unknown")) (.cons (.var 3) (.cons (.cst (.bl true)) .nil))))) .nil) (.nil))
    (.cons (.ite (.cmp .eq (.var 4) (.cst (.int 2))) (.cons (.ret (.tup (.cons (.cst (.str "told")) (.cons (.ix (.var 2) (.var 3)) .nil)))) .nil) (.nil))
    (.cons (.ret (.tup (.cons (.cst (.str "told")) (.cons (.call 198 (.cons (.var 0) (.cons (.var 1) (.cons (.ix (.var 2) (.var 3)) .nil)))) .nil)))) .nil)))
def f150 : Fn := ⟨5, 5, b150⟩
/-- 178: _law_holds -/
def b178 : Cms := .cons (.ite (.or (.cmp .ne (.fld (.var 0) "tables") (.var 1)) (.or (.cmp .ne (.fld (.var 0) "key_columns") (.var 2)) (.cmp .ne (.fld (.var 0) "services") (.var 3)))) (.cons (.ret (.cst (.bl false))) .nil) (.nil))
    (.cons (.ite (.or (.cmp .ne (.mc "table_names" (.var 0) .nil) (.blt .sorted (.cons (.blt .list (.cons (.var 1) .nil)) .nil))) (.cmp .ne (.mc "service_names" (.var 0) .nil) (.blt .sorted (.cons (.blt .list (.cons (.var 3) .nil)) .nil)))) (.cons (.ret (.cst (.bl false))) .nil) (.nil))
    (.cons (.asg (.loc (.var 5)) (.lc (.var 6) (.var 6) .seq (.cons (.blt .sorted (.cons (.blt .list (.cons (.var 3) .nil)) .nil)) .nil) (.not (.call 198 (.cons (.var 1) (.cons (.var 2) (.cons (.ix (.var 3) (.var 6)) .nil))))) [("_law_name", 6)]))
    (.cons (.ite (.cmp .ne (.mc "capped_names" (.var 0) .nil) (.var 5)) (.cons (.ret (.cst (.bl false))) .nil) (.nil))
    (.cons (.for_ (.var 6) .seq (.cons (.bin .add (.bin .add (.blt .list (.cons (.var 1) .nil)) (.blt .list (.cons (.var 3) .nil))) (.var 4)) .nil) (.cons (.for_ (.var 7) .rng1 (.cons (.cst (.int 4)) .nil) (.cons (.ite (.cmp .ne (.call 112 (.cons (.var 0) (.cons (.var 6) (.cons (.var 7) .nil)))) (.call 150 (.cons (.var 1) (.cons (.var 2) (.cons (.var 3) (.cons (.var 6) (.cons (.var 7) .nil))))))) (.cons (.ret (.cst (.bl false))) .nil) (.nil))
    (.cons (.ite (.and (.cmp .eq (.var 7) (.cst (.int 3))) (.and (.cmp .inn (.var 6) (.var 3)) (.not (.isi (.mc "is_whole" (.var 0) (.cons (.var 6) .nil)) .bool)))) (.cons (.ret (.cst (.bl false))) .nil) (.nil)) .nil))) .nil))
    (.cons (.ret (.cst (.bl true))) .nil)))))
def f178 : Fn := ⟨5, 8, b178⟩
/-- 84: Schema.table_names -/
def b84 : Cms := .cons (.ret (.blt .list (.cons (.fld (.var 0) "width_table") .nil))) .nil
def f84 : Fn := ⟨1, 1, b84⟩
/-- 81: Schema.service_names -/
def b81 : Cms := .cons (.ret (.blt .list (.cons (.fld (.var 0) "service_table") .nil))) .nil
def f81 : Fn := ⟨1, 1, b81⟩
/-- 87: Schema.width_of -/
def b87 : Cms := .cons (.ite (.cmp .nin (.var 1) (.fld (.var 0) "width_table")) (.cons (.rse "UnknownName" (.cons (.var 1) .nil)) .nil) (.nil))
    (.cons (.ret (.ix (.fld (.var 0) "width_table") (.var 1))) .nil)
def f87 : Fn := ⟨2, 2, b87⟩
/-- 80: Schema.key_of -/
def b80 : Cms := .cons (.ite (.cmp .nin (.var 1) (.fld (.var 0) "width_table")) (.cons (.rse "UnknownName" (.cons (.var 1) .nil)) .nil) (.nil))
    (.cons (.ret (.meth .get (.fld (.var 0) "key_table") (.cons (.var 1) .nil))) .nil)
def f80 : Fn := ⟨2, 2, b80⟩
/-- 82: Schema.service_of -/
def b82 : Cms := .cons (.ite (.cmp .nin (.var 1) (.fld (.var 0) "service_table")) (.cons (.rse "UnknownName" (.cons (.var 1) .nil)) .nil) (.nil))
    (.cons (.ret (.ix (.fld (.var 0) "service_table") (.var 1))) .nil)
def f82 : Fn := ⟨2, 2, b82⟩
/-- 78: Schema.is_whole -/
def b78 : Cms := .cons (.ite (.cmp .nin (.var 1) (.fld (.var 0) "service_table")) (.cons (.rse "UnknownName" (.cons (.var 1) .nil)) .nil) (.nil))
    (.cons (.ret (.ix (.fld (.var 0) "whole_table") (.var 1))) .nil)
def f78 : Fn := ⟨2, 2, b78⟩
/-- 77: Schema.capped_names -/
def b77 : Cms := .cons (.lk (.fld (.var 0) "service_table") (.ret (.lc (.var 1) (.var 1) .seq (.cons (.fld (.var 0) "service_table") .nil) (.not (.ix (.fld (.var 0) "whole_table") (.var 1))) [("name", 1)]))) .nil
def f77 : Fn := ⟨1, 2, b77⟩
end SL
namespace SL
open PySem L2 G
/-! ### what a made schema holds -/
theorem getK_map {ys : List Str} {f : Str → D} {x : Str} : getK (ys.map fun y => (y, f y)) x = if x ∈ ys then some (f x) else none := by
  induction ys with
  | nil => rfl
  | cons y ys ih =>
    unfold getK at ih ⊢
    rw [List.map_cons, List.find?_cons]
    by_cases e : y = x
    · subst e; simp
    · rw [decide_eq_false e]
      simp only [ih, List.mem_cons]
      have : ¬ x = y := fun z => e z.symm
      simp [this]
theorem getK_srt {ts : List (Str × D)} {x : Str} : getK (srt ts) x = getK ts x := by
  unfold srt
  rw [getK_map]
  by_cases h : x ∈ sortT (ts.map (·.1))
  · rw [if_pos h]
    obtain ⟨d, e, _⟩ := getK_mem (mem_sortT.mp h)
    rw [e]; rfl
  · rw [if_neg h]
    cases e : getK ts x with
    | none => rfl
    | some d => exact absurd (mem_sortT.mpr (mem_of_getK e)) h
theorem srt_names {ts : List (Str × D)} : (srt ts).map (·.1) = sortT (ts.map (·.1)) := by
  unfold srt
  rw [List.map_map]
  exact List.map_id _
/-- whole answers, of all services -/
theorem capL_W {ts ks ss : List (Str × D)} : ∀ (ys : List Str) (W C : List (Str × D)), (capL ts ks ss ys W C).1 = none → (capL ts ks ss ys W C).2.1 = W ++ ys.map fun y => (y, D.bl (wholeB ts ks ((getK ss y).getD .non)))
  | [], W, C, _ => by simp [capL]
  | y :: ys, W, C, h => by
    simp only [capL] at h ⊢
    split at h
    · rename_i hw
      rw [if_pos hw, capL_W ys _ _ h]
      simp [hw]
    · rename_i hw
      rw [if_neg hw]
      split at h
      · cases h
      · rename_i hm
        rw [if_neg hm, capL_W ys _ _ h]
        simp [hw]
/-- one capped service at most for each table: none is refused -/
theorem capL_none {ts ks ss : List (Str × D)} (h1 : ∀ p ∈ ss, ∀ q ∈ ss, p.1 ≠ q.1 → wholeB ts ks p.2 = false → wholeB ts ks q.2 = false → tabS p.2 ≠ tabS q.2) :
    ∀ (ys : List Str) (W C : List (Str × D)), ys.Nodup → (∀ y ∈ ys, y ∈ ss.map (·.1)) → (∀ c ∈ C, ∃ p ∈ ss, wholeB ts ks p.2 = false ∧ tabS p.2 = c.1 ∧ p.1 ∉ ys) → (capL ts ks ss ys W C).1 = none
  | [], W, C, _, _, _ => rfl
  | y :: ys, W, C, hn, hm, hc => by
    obtain ⟨d, hd, hmem⟩ := getK_mem (hm y (by simp))
    have hn := List.nodup_cons.mp hn
    simp only [capL, hd, Option.getD_some]
    split
    · exact capL_none h1 ys _ _ hn.2 (fun z hz => hm z (by simp [hz])) fun c h => by
        obtain ⟨p, a1, a2, a3, a4⟩ := hc c h
        exact ⟨p, a1, a2, a3, fun z => a4 (by simp [z])⟩
    · rename_i hw
      have hw : wholeB ts ks d = false := by simpa using hw
      split
      · rename_i hin
        obtain ⟨c, hc1, hc2⟩ := List.mem_map.mp hin
        obtain ⟨p, a1, a2, a3, a4⟩ := hc c hc1
        have ne : p.1 ≠ y := fun z => a4 (by simp [z])
        exact absurd (a3.trans hc2) (h1 p a1 (y, d) hmem ne a2 hw)
      · refine capL_none h1 ys _ _ hn.2 (fun z hz => hm z (by simp [hz])) fun c h => ?_
        rcases List.mem_append.mp h with h | h
        · obtain ⟨p, a1, a2, a3, a4⟩ := hc c h
          exact ⟨p, a1, a2, a3, fun z => a4 (by simp [z])⟩
        · simp at h
          subst h
          exact ⟨(y, d), hmem, hw, rfl, hn.1⟩
/-- drawn parts are fine -/
theorem drawn_fine {wd : Int} {ts ks ss : List (Str × D)} (h1 : TbS wd ts) (hwd : wd ≤ 4) (h2 : KyS ts ks) (h3 : SvS ts ks ss) (l1 : 1 ≤ ts.length) (l2 : ts.length ≤ 5) (l3 : 1 ≤ ss.length) (l4 : ss.length ≤ 8) : sfault ts ks ss = none := by
  have nof : ∀ {ys : List Str} {p : Str → Bool}, (∀ y ∈ ys, p y = false) → (ys.find? p).map D.str = none := fun h => by
    rw [Option.map_eq_none_iff, List.find?_eq_none]
    intro x hx
    rw [h x hx]
    exact Bool.false_ne_true
  have f1 : faultT ts = none := by
    unfold faultT
    rw [if_pos ⟨l1, l2⟩]
    refine nof fun y hy => ?_
    obtain ⟨d, hd, hm⟩ := getK_mem (mem_sortT.mp hy)
    obtain ⟨a, w, rfl, b, c⟩ := h1.at hd
    simp only [badT, hd, a, widB]
    rw [decide_eq_true b, decide_eq_true (by omega : w ≤ 4)]
    rfl
  have f2 : faultK ts ks = none := by
    refine nof fun y hy => ?_
    obtain ⟨d, hd, hm⟩ := getK_mem (mem_sortT.mp hy)
    obtain ⟨w, a, b⟩ := h2.all _ hm
    have a : getK ts y = some (.int w) := a
    simp only [badK, hd, a]
    have b : keyB w d = true := b
    rw [b]; rfl
  have f3 : faultS ts ss = none := by
    unfold faultS
    rw [if_pos ⟨l3, l4⟩]
    refine nof fun y hy => ?_
    obtain ⟨d, hd, hm⟩ := getK_mem (mem_sortT.mp hy)
    obtain ⟨a, b⟩ := h3.all _ hm
    have a : wordB y = true := a
    have b : isServD (DK ts) d = true := b
    simp only [badS, hd, a, b]; rfl
  unfold sfault
  rw [f1, f2, f3]
  simp only []
  show Option.map _ (capL ts ks ss (sortT (ss.map (·.1))) [] []).1 = none
  rw [capL_none h3.one _ _ _ (sortT_nodup h3.nd) (fun y hy => mem_sortT.mp hy) (by simp)]
  rfl
/-- a schema that stands: what its dicts hold -/
structure Sch (s : S) (b i : Nat) (ts ks ss : List (Str × D)) : Prop where
  ini : ∃ W C, init76 s b i ts ks ss W C ∧ W = (sortT (ss.map (·.1))).map fun y => (y, D.bl (wholeB ts ks ((getK ss y).getD .non)))
theorem Sch.gp {s s' : S} {b i : Nat} {ts ks ss : List (Str × D)} (h : Sch s b i ts ks ss) (g : Gp s s') : Sch s' b i ts ks ss := by
  obtain ⟨W, C, h1, h2⟩ := h.ini
  exact ⟨W, C, h1.gp g, h2⟩
/-- objects below stand or change: the schema stays -/
theorem Sch.low {s s' : S} {b i : Nat} {ts ks ss : List (Str × D)} (h : Sch s b i ts ks ss) (g : ∀ (j : Nat) (o : O), b ≤ j ∨ j = i → s[j]? = some o → s'[j]? = some o) : Sch s' b i ts ks ss := by
  obtain ⟨W, C, ⟨f1, f2, f3, f4, f5, ⟨b1, b2, b3, b4, b5⟩, e0, e1, e2, e3, e4, e5⟩, h2⟩ := h.ini
  exact ⟨W, C, ⟨f1, f2, f3, f4, f5, ⟨b1, b2, b3, b4, b5⟩, g _ _ (.inr rfl) e0, g _ _ (.inl b1) e1, g _ _ (.inl b2) e2, g _ _ (.inl b3) e3, g _ _ (.inl b4) e4, g _ _ (.inl b5) e5⟩, h2⟩
structure BC (Γ : Ga) : Prop extends BD Γ where
  h77 : Γ.fns.lookup 77 = some f77
  hm0 : ∃ k, Γ.cls.lookup ("Schema" : Str) = some k ∧ k.mths.lookup ("capped_names" : Str) = some 77
  hu : ∃ sp, Γ.ecl.lookup ("UnknownName" : Str) = some ⟨["name"], sp⟩
structure BM (Γ : Ga) : Prop extends BC Γ where
  h84 : Γ.fns.lookup 84 = some f84
  h81 : Γ.fns.lookup 81 = some f81
  h87 : Γ.fns.lookup 87 = some f87
  h80 : Γ.fns.lookup 80 = some f80
  h82 : Γ.fns.lookup 82 = some f82
  h78 : Γ.fns.lookup 78 = some f78
  hm : ∃ k, Γ.cls.lookup ("Schema" : Str) = some k ∧ k.mths.lookup ("table_names" : Str) = some 84 ∧ k.mths.lookup ("service_names" : Str) = some 81 ∧ k.mths.lookup ("width_of" : Str) = some 87 ∧ k.mths.lookup ("key_of" : Str) = some 80 ∧ k.mths.lookup ("service_of" : Str) = some 82 ∧ k.mths.lookup ("is_whole" : Str) = some 78 ∧ k.mths.lookup ("capped_names" : Str) = some 77
theorem rse_un {Γ : Ga} (b : BC Γ) {k : Nat} {τ : Fr} {s : S} {e : Ex} {d : D} {cs : Cms} (h : evE (clF Γ k) e τ s = .ok d s) :
    exs (clF Γ k) (.cons (.rse "UnknownName" (.cons e .nil)) cs) τ s = .exc τ "UnknownName" [("name", d)] s := by
  obtain ⟨sp, he⟩ := b.hu
  have he : (clF Γ k).ecl "UnknownName" = some ⟨["name"], sp⟩ := he
  have h : (ev (clF Γ k) e).1 τ s = .ok d s := h
  simp only [exs, ex, he, evs, ev, plainT, R.bind_ok, h, R.toS_ok, List.length_cons, List.length_nil, if_true, SR.bind_exc]
  rfl
/-- which method of a schema -/
theorem mc_of {Γ : Ga} {k i : Nat} {s : S} {m : Str} {g : Nat} {a b c d e : D} (b0 : ∃ k, Γ.cls.lookup ("Schema" : Str) = some k ∧ k.mths.lookup m = some g) (h : s[i]? = some (.ins "Schema" [("width_table", a), ("key_table", b), ("service_table", c), ("whole_table", d), ("capped_table", e)])) (hm : ([("width_table", a), ("key_table", b), ("service_table", c), ("whole_table", d), ("capped_table", e)] : List (Str × D)).lookup m = none) : mcF (clF Γ k) m (.ref i) s = some g := by
  obtain ⟨kk, h1, h2⟩ := b0
  have h1 : (clF Γ k).cls "Schema" = some kk := h1
  simp only [mcF, ins_at h, Option.bind_some, hm, Option.isNone_none, if_true, h1, h2]
section
variable {Γ : Ga} {s : S} {b0 i : Nat} {ts ks ss : List (Str × D)} {x : Str}
def unk (x : Str) : List (Str × D) := [("name", .str x)]
/-- a table's width, a service's parts, if the name is known -/
theorem look_ok (b : BM Γ) {k g n : Nat} {fn : Fn} {f : Str} {fs us : List (Str × D)} (hg : Γ.fns.lookup g = some fn) (hfn : fn = ⟨2, 2, .cons (.ite (.cmp .nin (.var 1) (.fld (.var 0) f)) (.cons (.rse "UnknownName" (.cons (.var 1) .nil)) .nil) (.nil)) (.cons (.ret (.ix (.fld (.var 0) f) (.var 1))) .nil)⟩)
    (hi : s[i]? = some (.ins "Schema" fs)) (hf : f ∈ (["capped_table", "key_table", "service_table", "whole_table", "width_table"] : List Str)) (hd : fs.lookup f = some (.ref n)) (hn : s[n]? = some (.dct (DK us))) :
    (clF Γ (k + 1)).call g [.ref i, .str x] s = (match getK us x with | some d => .ok d s | none => .exc "UnknownName" (unk x) s) := by
  subst hfn
  have fl := own_fld b.toBP (k := k) hi hf hd
  have nn := nin_dct (x := x) hn
  rw [getK_DK] at nn
  have c : evT (clF Γ k) (.cmp .nin (.var 1) (.fld (.var 0) f)) [some (.ref i), some (.str x)] s = .ok (!(getK us x).isSome) s := by
    simp only [evT, ev, plainT, asB, List.getElem?_cons_zero, List.getElem?_cons_succ, R.bind_ok, fl, nn]
  cases h : getK us x with
  | none =>
    rw [h] at c
    refine call_ex hg rfl rfl (τ' := [some (.ref i), some (.str x)]) ?_
    show exs (clF Γ k) (.cons (.ite _ _ _) _) [some (.ref i), some (.str x)] s = _
    rw [exs, ite_t c, rse_un b.toBC (d := .str x) rfl]
    rfl
  | some d =>
    rw [h] at c
    refine call_rt hg (τ := [some (.ref i), some (.str x)]) rfl rfl ((exs_skip c).trans (exs_ret ?_))
    have ix := ix_dct hn (x := x) (by rw [getK_DK]; exact h)
    simp only [evE, ev, plainT, List.getElem?_cons_zero, List.getElem?_cons_succ, R.bind_ok, fl, ix]
/-- a name in one dict, the answer from another -/
theorem look2_ok (b : BM Γ) {k g n : Nat} {fn : Fn} {f : Str} {fs us : List (Str × D)} {e : Ex} {d : D} (hg : Γ.fns.lookup g = some fn) (hfn : fn = ⟨2, 2, .cons (.ite (.cmp .nin (.var 1) (.fld (.var 0) f)) (.cons (.rse "UnknownName" (.cons (.var 1) .nil)) .nil) (.nil)) (.cons (.ret e) .nil)⟩)
    (hi : s[i]? = some (.ins "Schema" fs)) (hf : f ∈ (["capped_table", "key_table", "service_table", "whole_table", "width_table"] : List Str)) (hd : fs.lookup f = some (.ref n)) (hn : s[n]? = some (.dct (DK us))) (he : (getK us x).isSome = true → evE (clF Γ k) e [some (.ref i), some (.str x)] s = .ok d s) :
    (clF Γ (k + 1)).call g [.ref i, .str x] s = (if (getK us x).isSome = true then .ok d s else .exc "UnknownName" (unk x) s) := by
  subst hfn
  have fl := own_fld b.toBP (k := k) hi hf hd
  have nn := nin_dct (x := x) hn
  rw [getK_DK] at nn
  have c : evT (clF Γ k) (.cmp .nin (.var 1) (.fld (.var 0) f)) [some (.ref i), some (.str x)] s = .ok (!(getK us x).isSome) s := by
    simp only [evT, ev, plainT, asB, List.getElem?_cons_zero, List.getElem?_cons_succ, R.bind_ok, fl, nn]
  cases h : (getK us x).isSome with
  | false =>
    rw [h] at c
    rw [if_neg Bool.false_ne_true]
    refine call_ex hg rfl rfl (τ' := [some (.ref i), some (.str x)]) ?_
    show exs (clF Γ k) (.cons (.ite _ _ _) _) [some (.ref i), some (.str x)] s = _
    rw [exs, ite_t c, rse_un b.toBC (d := .str x) rfl]
    rfl
  | true =>
    rw [h] at c
    rw [if_pos rfl]
    exact call_rt hg (τ := [some (.ref i), some (.str x)]) rfl rfl ((exs_skip c).trans (exs_ret (he h)))
/-- what is told of a name -/
def toldD (ts ks ss : List (Str × D)) (x : Str) : Nat → Option D
  | 0 => getK ts x
  | 1 => if (getK ts x).isSome = true then some ((getK ks x).getD .non) else none
  | 2 => getK ss x
  | _ => (getK ss x).map fun d => .bl (wholeB ts ks d)
def answer (s : S) (x : Str) : Option D → R D
  | some d => .ok d s
  | none => .exc "UnknownName" (unk x) s
theorem told_ok (b : BM Γ) {k : Nat} (hk : 1 ≤ k) (h : Sch s b0 i ts ks ss) :
    (clF Γ k).call 87 [.ref i, .str x] s = answer s x (toldD ts ks ss x 0) ∧ (clF Γ k).call 80 [.ref i, .str x] s = answer s x (toldD ts ks ss x 1) ∧ (clF Γ k).call 82 [.ref i, .str x] s = answer s x (toldD ts ks ss x 2) ∧ (clF Γ k).call 78 [.ref i, .str x] s = answer s x (toldD ts ks ss x 3) := by
  obtain ⟨j, rfl, _⟩ := lv hk
  obtain ⟨W, C, ⟨f1, f2, f3, f4, f5, _, e0, e1, e2, e3, e4, e5⟩, rfl⟩ := h.ini
  refine ⟨?_, ?_, ?_, ?_⟩
  · refine (look_ok b (k := j) b.h87 (f := "width_table") rfl e0 (by simp) rfl e1).trans ?_
    rw [getK_srt]
    simp only [toldD]
    cases getK ts x <;> rfl
  · have fl := own_fld b.toBP (k := j) e0 (f := "key_table") (by simp) (d := .ref f2) rfl
    have hms : mSel .get (.ref f2) s = some .dget := by simp only [mSel, e2]; rfl
    have hg : mtD .dget (.ref f2) [.str x] s = .ok ((getK ks x).getD .non) s := by simp only [mtD, e2, keyD, getK_DK, getK_srt]
    refine (look2_ok b (k := j) b.h80 (f := "width_table") (d := (getK ks x).getD .non) rfl e0 (by simp) rfl e1 fun _ => ?_).trans ?_
    · simp only [evE, ev, evs, plainT, List.getElem?_cons_zero, List.getElem?_cons_succ, R.bind_ok, fl, hms, hg]
    · rw [getK_srt]
      simp only [toldD]
      cases (getK ts x).isSome <;> rfl
  · refine (look_ok b (k := j) b.h82 (f := "service_table") rfl e0 (by simp) rfl e3).trans ?_
    rw [getK_srt]
    simp only [toldD]
    cases getK ss x <;> rfl
  · have fl := own_fld b.toBP (k := j) e0 (f := "whole_table") (by simp) (d := .ref f4) rfl
    refine (look2_ok b (k := j) b.h78 (f := "service_table") (d := .bl (wholeB ts ks ((getK ss x).getD .non))) rfl e0 (by simp) rfl e3 fun hx => ?_).trans ?_
    · rw [getK_srt] at hx
      have ix := ix_dct e4 (x := x) (d := .bl (wholeB ts ks ((getK ss x).getD .non))) (by
        rw [getK_DK, getK_map, if_pos]
        obtain ⟨d, hd⟩ := Option.isSome_iff_exists.mp hx
        exact mem_sortT.mpr (mem_of_getK hd))
      simp only [evE, ev, plainT, List.getElem?_cons_zero, List.getElem?_cons_succ, R.bind_ok, fl, ix]
    · rw [getK_srt]
      simp only [toldD]
      cases getK ss x <;> rfl
/-- the names, ascending -/
theorem names_ok (b : BM Γ) {k : Nat} (hk : 1 ≤ k) (h : Sch s b0 i ts ks ss) :
    (clF Γ k).call 84 [.ref i] s = .ok (.ref s.length) (s ++ [.lst ((sortT (ts.map (·.1))).map .str)]) ∧ (clF Γ k).call 81 [.ref i] s = .ok (.ref s.length) (s ++ [.lst ((sortT (ss.map (·.1))).map .str)]) := by
  obtain ⟨j, rfl, _⟩ := lv hk
  obtain ⟨W, C, ⟨f1, f2, f3, f4, f5, _, e0, e1, e2, e3, e4, e5⟩, _⟩ := h.ini
  have fl1 := own_fld b.toBP (k := j) e0 (f := "width_table") (by simp) (d := .ref f1) rfl
  have fl2 := own_fld b.toBP (k := j) e0 (f := "service_table") (by simp) (d := .ref f3) rfl
  have l1 := list_dct e1
  have l2 := list_dct e3
  rw [srt_names] at l1 l2
  constructor
  · refine call_rt b.h84 (τ := [some (.ref i)]) rfl rfl (exs_ret ?_)
    simp only [evE, ev, evs, plainT, List.getElem?_cons_zero, R.bind_ok, fl1, l1]
  · refine call_rt b.h81 (τ := [some (.ref i)]) rfl rfl (exs_ret ?_)
    simp only [evE, ev, evs, plainT, List.getElem?_cons_zero, R.bind_ok, fl2, l2]
def capN (ts ks ss : List (Str × D)) : List Str := (sortT (ss.map (·.1))).filter fun y => !wholeB ts ks ((getK ss y).getD .non)
def notW (ts ks ss : List (Str × D)) : D → Bool
  | .str y => !wholeB ts ks ((getK ss y).getD .non)
  | _ => false
theorem set_back {s : S} {n : Nat} {o o' : O} (h : s[n]? = some o) : (s.set n o').set n o = s := by
  rw [List.set_set]; exact set_same h
/-- the names that are capped -/
theorem capped_ok (b : BC Γ) {k : Nat} (hk : 1 ≤ k) (h : Sch s b0 i ts ks ss) (hl : ss.length < 64) (hv : ∀ y d, getK ss y = some d → ∃ l, d = .tup l) :
    ∃ s', Gp s s' ∧ (clF Γ k).call 77 [.ref i] s = .ok (.ref s.length) s' ∧ s'[s.length]? = some (.lst ((capN ts ks ss).map .str)) := by
  obtain ⟨j, rfl, _⟩ := lv hk
  obtain ⟨W, C, ⟨f1, f2, f3, f4, f5, _, e0, e1, e2, e3, e4, e5⟩, rfl⟩ := h.ini
  have lt3 := (List.getElem?_eq_some_iff.mp e3).1
  have n3i : f3 ≠ i := fun z => by rw [z, e0] at e3; cases e3
  -- while it is walked
  let s1 : S := s.set f3 (.frd (DK (srt ss)))
  have a0 : s1[i]? = some (.ins "Schema" [("width_table", .ref f1), ("key_table", .ref f2), ("service_table", .ref f3), ("whole_table", .ref f4), ("capped_table", .ref f5)]) := by
    show (s.set _ _)[i]? = _
    rw [List.getElem?_set_ne n3i]; exact e0
  have a3 : s1[f3]? = some (.frd (DK (srt ss))) := set_get lt3
  have fl3 := own_fld b.toBP (k := j) a0 (f := "service_table") (by simp) (d := .ref f3) rfl
  have fl3' := own_fld b.toBP (k := j) e0 (f := "service_table") (by simp) (d := .ref f3) rfl
  have fl4 := own_fld b.toBP (k := j) a0 (f := "whole_table") (by simp) (d := .ref f4) rfl
  have lst3 : lstAt s1 f3 = none := by unfold lstAt; rw [a3]
  have src : srcOf .seq [.ref f3] s1 = some (.dk f3 (DK (srt ss))) := by simp only [srcOf, lst3, a3]
  have items : (Src.dk f3 (DK (srt ss))).items = (sortT (ss.map (·.1))).map .str := by
    show (DK (srt ss)).map (fun p => dKey p.1) = _
    unfold DK
    rw [List.map_map, ← srt_names, List.map_map]
    rfl
  have ok1 : (Src.dk f3 (DK (srt ss))).ok s1 := a3
  have nof : ((sortT (ss.map (·.1))).map D.str).filter (notW ts ks ss) = (capN ts ks ss).map D.str := by
    unfold capN
    rw [List.filter_map]
    rfl
  have lc : lcS (Src.dk f3 (DK (srt ss))).ok (lcB (clF Γ j) [some (.ref i), none] [1] (.var 1) (.not (.ix (.fld (.var 0) "whole_table") (.var 1))) (.var 1)) ((sortT (ss.map (·.1))).map .str) s1 = .ok ((capN ts ks ss).map .str) s1 := by
    rw [← nof]
    refine lcS_keep ok1 _ fun d hd => ?_
    obtain ⟨y, hy, rfl⟩ := List.mem_map.mp hd
    by_cases e43 : f4 = f3
    · exfalso
      rw [e43, e3] at e4
      injection e4 with e4
      injection e4 with e4
      unfold DK srt at e4
      rw [List.map_map, List.map_map] at e4
      obtain ⟨d, hd, hm⟩ := getK_mem (mem_sortT.mp hy)
      have := List.map_inj_left.mp e4 y hy
      simp only [Function.comp, hd, Option.getD_some, Prod.mk.injEq, true_and] at this
      obtain ⟨l, rfl⟩ := hv y d hd
      cases this
    have a4 : s1[f4]? = some (.dct (DK ((sortT (ss.map (·.1))).map fun y => (y, D.bl (wholeB ts ks ((getK ss y).getD .non)))))) := by
      show (s.set _ _)[f4]? = _
      rw [List.getElem?_set_ne (Ne.symm e43)]; exact e4
    have ix := ix_dct a4 (x := y) (d := .bl (wholeB ts ks ((getK ss y).getD .non))) (by rw [getK_DK, getK_map, if_pos hy])
    have e : evT (clF Γ j) (.not (.ix (.fld (.var 0) "whole_table") (.var 1))) [some (.ref i), some (.str y)] s1 = .ok (!wholeB ts ks ((getK ss y).getD .non)) s1 := by
      simp only [evT, ev, plainT, List.getElem?_cons_zero, List.getElem?_cons_succ, R.bind_ok, fl4, ix, truD]
    rw [show notW ts ks ss (.str y) = !wholeB ts ks ((getK ss y).getD .non) from rfl]
    cases hq : (!wholeB ts ks ((getK ss y).getD .non)) with
    | true => rw [hq] at e; exact lcB_if rfl e rfl
    | false => rw [hq] at e; exact lcB_no rfl e
  have e2 : evE (clF Γ j) (.lc (.var 1) (.var 1) .seq (.cons (.fld (.var 0) "service_table") .nil) (.not (.ix (.fld (.var 0) "whole_table") (.var 1))) [("name", 1)]) [some (.ref i), none] s1 = .ok (.ref s1.length) (s1 ++ [.lst ((capN ts ks ss).map .str)]) :=
    ev_lc (s1 := s1) (s2 := s1) (ds := [.ref f3]) (src := .dk f3 (DK (srt ss))) (by
      simp only [evs, ev, plainT, List.getElem?_cons_zero, R.bind_ok, fl3]) src (by
      rw [items, List.length_map, sortT_len, List.length_map]
      exact Nat.lt_trans hl (by decide)) (by rw [items]; exact lc)
  have len1 : s1.length = s.length := List.length_set ..
  have back : (s1 ++ [O.lst ((capN ts ks ss).map .str)])[f3]? = some (.frd (DK (srt ss))) := by
    rw [List.getElem?_append_left (by rw [len1]; exact lt3)]; exact a3
  refine ⟨s ++ [.lst ((capN ts ks ss).map .str)], Gp.new _ _, ?_, new_at⟩
  refine call_rt b.h77 (τ := [some (.ref i), none]) rfl rfl (exs_rt ?_)
  have lk : lkOf (evE (clF Γ j) (.fld (.var 0) "service_table") [some (.ref i), none] s) s = some (f3, DK (srt ss)) := by
    simp only [evE, ev, plainT, List.getElem?_cons_zero, R.bind_ok, fl3', lkOf, dctAt_at e3, Option.map_some]
  have rt : ex (clF Γ j) (.ret (.lc (.var 1) (.var 1) .seq (.cons (.fld (.var 0) "service_table") .nil) (.not (.ix (.fld (.var 0) "whole_table") (.var 1))) [("name", 1)])) [some (.ref i), none] s1 = .rt (.ref s1.length) (s1 ++ [.lst ((capN ts ks ss).map .str)]) := ex_ret e2
  simp only [ex, lk]
  have rt2 : ex (clF Γ j) (.ret (.lc (.var 1) (.var 1) .seq (.cons (.fld (.var 0) "service_table") .nil) (.not (.ix (.fld (.var 0) "whole_table") (.var 1))) [("name", 1)])) [some (.ref i), none] (s.set f3 (.frd (DK (srt ss)))) = .rt (.ref s1.length) (s1 ++ [.lst ((capN ts ks ss).map .str)]) := rt
  simp only [ex] at rt2
  rw [rt2]
  simp only [lkS, unlk, back, len1]
  congr 1
  rw [List.set_append_left _ _ (by rw [len1]; exact lt3)]
  congr 1
  exact set_back e3
end
end SL
namespace SL
open PySem L2 G
theorem eq_copy {s : S} {m n : Nat} {ts : List (Str × D)} {k : Nat} (hk : k ≤ 59) (h1 : s[m]? = some (.dct (DK ts))) (h2 : s[n]? = some (.dct (DK ts))) (nd : (ts.map (·.1)).Nodup) (hd : ∀ x d, getK ts x = some d → dataD k d) : eqD (.ref m) (.ref n) s = .ok true s := by
  simp only [eqD, h1, h2, eqK, if_true]
  refine eqHits_all _ fun p hp => ?_
  obtain ⟨q, hq, rfl⟩ := List.mem_map.mp hp
  have e := getK_of_mem nd hq
  exact ⟨q.2, by rw [getK_DK]; exact e, eqP_self hk (hd _ _ e)⟩
theorem Gp.set_new {s s' : S} {a : Nat} {o : O} (g : Gp s s') (h : s.length ≤ a) : Gp s (s'.set a o) := fun j p e => by
  have := (List.getElem?_eq_some_iff.mp e).1
  rw [List.getElem?_set_ne (by omega)]
  exact g _ _ e
theorem mcv {cl : CL} {m : Str} {g v : Nat} {τ : Fr} {s : S} {x : D} (h : mcF cl m x s = some g) (h0 : τ[v]? = some (some x)) : evE cl (.mc m (.var v) .nil) τ s = cl.call g [x] s := by
  simp only [evE, ev, evs, plainT, h0, R.bind_ok, h]
theorem clear_lst {s : S} {n : Nat} {ds : List D} (h : s[n]? = some (.lst ds)) : mSel .clear (.ref n) s = some .lclear ∧ mtD .lclear (.ref n) [] s = .ok .non (s.set n (.lst [])) := ⟨by simp only [mSel, h]; rfl, by simp only [mtD, h]⟩
theorem clear_dct {s : S} {n : Nat} {ds : List (Key × D)} (h : s[n]? = some (.dct ds)) : mSel .clear (.ref n) s = some .dclear ∧ mtD .dclear (.ref n) [] s = .ok .non (s.set n (.dct [])) := ⟨by simp only [mSel, h]; rfl, by simp only [mtD, h]⟩
/-- e.clear() -/
theorem ev_clear {cl : CL} {τ : Fr} {s s1 s2 : S} {e : Ex} {x : D} {i : Mi} (h : evE cl e τ s = .ok x s1) (h1 : mSel .clear x s1 = some i ∧ mtD i x [] s1 = .ok .non s2) : evE cl (.meth .clear e .nil) τ s = .ok .non s2 := by
  have h : (ev cl e).1 τ s = .ok x s1 := h
  simp only [evE, ev, evs, plainT, h, R.bind_ok, h1.1, h1.2]
theorem ev_append {cl : CL} {τ : Fr} {s s1 : S} {e : Ex} {n : Nat} {ds : List D} {c : Cst} (h : evE cl e τ s = .ok (.ref n) s1) (h1 : s1[n]? = some (.lst ds)) (hl : ds.length < 10000) : evE cl (.meth .append e (.cons (.cst c) .nil)) τ s = .ok .non (s1.set n (.lst (ds ++ [c.d]))) := by
  have h : (ev cl e).1 τ s = .ok (.ref n) s1 := h
  have hms : mSel .append (.ref n) s1 = some .lappend := by simp only [mSel, h1]; rfl
  simp only [evE, ev, evs, plainT, h, R.bind_ok, hms, append_lst h1 hl]
theorem eq_strs {s : S} {m n : Nat} {ys : List Str} (h : ∀ y ∈ ys, Asc y) (h1 : s[m]? = some (.lst (ys.map .str))) (h2 : s[n]? = some (.lst (ys.map .str))) : eqD (.ref m) (.ref n) s = .ok true s := by
  rw [eqD_lst h1]
  simp only [eqP, toP_ref h1, toP_ref h2, toPs_strs, Option.map_some]
  rw [if_pos ⟨shaped_strs h, shaped_strs h⟩]
  have : PyData.canLay0 (.list (ys.map .str)) = true := by simp only [PyData.canLay0, lay_strs h]
  rw [SeqAt.eqv_refl _ this]
theorem or_f {cl : CL} {a b : Ex} {τ : Fr} {s s1 : S} (h : evT cl a τ s = .ok false s1) : evT cl (.or a b) τ s = evT cl b τ s1 := by
  have h : (ev cl a).2 τ s = .ok false s1 := h
  simp only [evT, ev, h, R.bind_ok, Bool.false_eq_true, if_false]
theorem ne_f {cl : CL} {a b : Ex} {τ : Fr} {s s1 s2 : S} {x y : D} (h1 : evE cl a τ s = .ok x s1) (h2 : evE cl b τ s1 = .ok y s2) (h3 : eqD x y s2 = .ok true s2) : evT cl (.cmp .ne a b) τ s = .ok false s2 := by
  have h1 : (ev cl a).1 τ s = .ok x s1 := h1
  have h2 : (ev cl b).1 τ s1 = .ok y s2 := h2
  simp only [evT, ev, asB, h1, h2, R.bind_ok, cmpD, h3]
  rfl
theorem ev1 {cl : CL} {e : Ex} {τ : Fr} {s s' : S} {d : D} (h : evs cl (.cons e .nil) τ s = .ok [d] s') : evE cl e τ s = .ok d s' := by
  simp only [evs] at h
  show (ev cl e).1 τ s = _
  cases hq : (ev cl e).1 τ s with
  | ok d2 s2 => rw [hq] at h; simp only [R.bind_ok] at h; cases h; rfl
  | exc c fs s2 => rw [hq] at h; cases h
  | bad => rw [hq] at h; cases h
theorem mc0 {cl : CL} {m : Str} {g : Nat} {τ : Fr} {s : S} {x : D} (h : mcF cl m x s = some g) (h0 : τ[0]? = some (some x) := by rfl) : evE cl (.mc m (.var 0) .nil) τ s = cl.call g [x] s := by
  simp only [evE, ev, evs, plainT, h0, R.bind_ok, h]
theorem add_lst' {s : S} {m n : Nat} {a b : List D} (h1 : s[m]? = some (.lst a)) (h2 : s[n]? = some (.lst b)) (h : a.length + b.length ≤ 10000) : binD .add (.ref m) (.ref n) s = .ok (.ref s.length) (s ++ [.lst (a ++ b)]) := by
  simp only [binD, addD, h1, h2, new]
  rw [if_pos (by rw [sizeLine_eq]; omega)]
theorem names_asc {ts : List (Str × D)} (h : AscN ts) : ∀ y ∈ sortT (ts.map (·.1)), Asc y := fun y hy => by
  obtain ⟨p, hp, rfl⟩ := List.mem_map.mp (mem_sortT.mp hy)
  exact h p hp
end SL

set_option Elab.async false
set_option linter.all false
set_option maxRecDepth 100000
set_option autoImplicit false
set_option maxHeartbeats 1000000
/-! SNa: dicts compared; parts that make a schema. -/
namespace SL
open PySem PySem.Spec PyProof.Rows L2 G
/-- 307: _law_turned -/
def b307 : Cms := .cons (.asg (.loc (.var 1)) .dct)
    (.cons (.for_ (.var 2) .seq (.cons (.lrv (.blt .list (.cons (.var 0) .nil))) .nil) (.cons (.asg (.sub (.var 1) (.var 2)) (.ix (.var 0) (.var 2))) .nil))
    (.cons (.ret (.var 1)) .nil))
def f307 : Fn := ⟨1, 3, b307⟩
/-- 133: _law_changed -/
def b133 : Cms := .cons (.asg (.loc (.var 4)) (.call 148 (.cons (.var 0) (.cons (.cst (.int 3)) .nil))))
    (.cons (.ite (.cmp .eq (.var 4) (.cst (.int 0))) (.cons (.asg (.loc (.var 5)) (.lc (.var 6) (.var 6) .seq (.cons (.blt .list (.cons (.var 1) .nil)) .nil) (.cmp .lt (.ix (.var 1) (.var 6)) (.cst (.int 4))) [("_law_name", 6)]))
    (.cons (.ite (.cmp .ne (.var 5) (.lst .nil)) (.cons (.asg (.loc (.var 6)) (.call 247 (.cons (.var 0) (.cons (.var 5) .nil))))
    (.cons (.asg (.sub (.var 1) (.var 6)) (.bin .add (.ix (.var 1) (.var 6)) (.cst (.int 1)))) .nil)) (.nil)) .nil)) (.nil))
    (.cons (.ite (.cmp .eq (.var 4) (.cst (.int 1))) (.cons (.asg (.loc (.var 6)) (.call 247 (.cons (.var 0) (.cons (.blt .list (.cons (.var 1) .nil)) .nil))))
    (.cons (.ite (.cmp .inn (.var 6) (.var 2)) (.cons (.expr (.meth .pop (.var 2) (.cons (.var 6) .nil))) .nil) (.cons (.ite (.cmp .gt (.ix (.var 1) (.var 6)) (.cst (.int 1))) (.cons (.asg (.sub (.var 2) (.var 6)) (.tup (.cons (.bin .sub (.ix (.var 1) (.var 6)) (.cst (.int 1))) .nil))) .nil) (.nil)) .nil)) .nil)) (.nil))
    (.cons (.ite (.cmp .eq (.var 4) (.cst (.int 2))) (.cons (.asg (.loc (.var 6)) (.call 247 (.cons (.var 0) (.cons (.blt .list (.cons (.var 3) .nil)) .nil))))
    (.cons (.asg (.sub (.var 3) (.var 6)) (.tup (.cons (.ix (.ix (.var 3) (.var 6)) (.cst (.int 0))) (.cons (.ix (.ix (.var 3) (.var 6)) (.cst (.int 1))) (.cons (.cst .non) .nil))))) .nil)) (.nil)) .nil)))
def f133 : Fn := ⟨4, 7, b133⟩
/-- 163: _law_fits -/
def b163 : Cms := .cons (.asg (.loc (.var 3)) (.lst .nil))
    (.cons (.for_ (.var 4) .seq (.cons (.blt .list (.cons (.var 2) .nil)) .nil) (.cons (.ite (.not (.call 198 (.cons (.var 0) (.cons (.var 1) (.cons (.ix (.var 2) (.var 4)) .nil))))) (.cons (.ite (.cmp .inn (.ix (.ix (.var 2) (.var 4)) (.cst (.int 0))) (.var 3)) (.cons (.ret (.cst (.bl false))) .nil) (.nil))
    (.cons (.expr (.meth .append (.var 3) (.cons (.ix (.ix (.var 2) (.var 4)) (.cst (.int 0))) .nil))) .nil)) (.nil)) .nil))
    (.cons (.ret (.cst (.bl true))) .nil))
def f163 : Fn := ⟨3, 5, b163⟩
/-- 309: _law_uncapped_due -/
def b309 : Cms := .cons (.asg (.loc (.var 2)) .dct)
    (.cons (.for_ (.var 3) .seq (.cons (.blt .list (.cons (.var 0) .nil)) .nil) (.cons (.asg (.loc (.tup [4, 5, 6])) (.ix (.var 0) (.var 3)))
    (.cons (.ite (.cmp .inn (.var 3) (.var 1)) (.cons (.asg (.loc (.var 6)) (.cst .non)) .nil) (.nil))
    (.cons (.asg (.sub (.var 2) (.var 3)) (.tup (.cons (.var 4) (.cons (.var 5) (.cons (.var 6) .nil))))) .nil))))
    (.cons (.ret (.var 2)) .nil))
def f309 : Fn := ⟨2, 7, b309⟩
/-- 310: _law_uncapped_holds -/
def b310 : Cms := .cons (.asg (.loc (.var 5)) (.lc (.var 13) (.var 13) .seq (.cons (.var 4) .nil) (.cmp .nin (.var 13) (.var 3)) [("_law_name", 13)]))
    (.cons (.asg (.loc (.var 6)) (.blt .list (.cons (.var 4) .nil)))
    (.cons (.asg (.loc (.var 7)) (.cst .non))
    (.cons (.asg (.loc (.var 8)) (.cst .non))
    (.cons (.asg (.loc (.var 9)) (.cst (.bl false)))
    (.cons (.try_ (.cons (.asg (.loc (.var 7)) (.mc "uncapped" (.var 0) (.cons (.var 6) .nil))) .nil) (.cons "UnknownName" (some 10) (.cons (.asg (.loc (.var 8)) (.efld 10 "name"))
    (.cons (.asg (.loc (.var 9)) (.eis 10 "CappedError")) .nil)) .nil))
    (.cons (.ite (.cmp .ne (.var 6) (.var 4)) (.cons (.ret (.cst (.bl false))) .nil) (.nil))
    (.cons (.ite (.cmp .ne (.var 5) (.lst .nil)) (.cons (.ret (.and (.var 9) (.cmp .eq (.var 8) (.ix (.var 5) (.cst (.int 0)))))) .nil) (.nil))
    (.cons (.ite (.or (.cmp .isn (.var 7) (.cst .non)) (.or (.cmp .ne (.fld (.var 7) "tables") (.var 1)) (.cmp .ne (.fld (.var 7) "key_columns") (.var 2)))) (.cons (.ret (.cst (.bl false))) .nil) (.nil))
    (.cons (.asg (.loc (.var 11)) (.call 309 (.cons (.var 3) (.cons (.var 4) .nil))))
    (.cons (.asg (.loc (.var 12)) (.lc (.var 13) (.var 13) .seq (.cons (.blt .sorted (.cons (.blt .list (.cons (.var 11) .nil)) .nil)) .nil) (.not (.call 198 (.cons (.var 1) (.cons (.var 2) (.cons (.ix (.var 11) (.var 13)) .nil))))) [("_law_name", 13)]))
    (.cons (.ret (.and (.cmp .eq (.fld (.var 7) "services") (.var 11)) (.cmp .eq (.mc "capped_names" (.var 7) .nil) (.var 12)))) .nil)))))))))))
def f310 : Fn := ⟨5, 14, b310⟩
/-- 75: Schema.__eq__ -/
def b75 : Cms := .cons (.ite (.not (.isc (.var 1) "Schema")) (.cons (.ret (.cst (.bl false))) .nil) (.nil))
    (.cons (.ite (.or (.cmp .ne (.fld (.var 0) "width_table") (.fld (.var 1) "width_table")) (.cmp .ne (.fld (.var 0) "key_table") (.fld (.var 1) "key_table"))) (.cons (.ret (.cst (.bl false))) .nil) (.nil))
    (.cons (.ret (.cmp .eq (.fld (.var 0) "service_table") (.fld (.var 1) "service_table"))) .nil))
def f75 : Fn := ⟨2, 2, b75⟩
/-- 86: Schema.uncapped -/
def b86 : Cms := .cons (.for_ (.var 2) .seq (.cons (.var 1) .nil) (.cons (.ite (.cmp .nin (.var 2) (.fld (.var 0) "service_table")) (.cons (.rse "UnknownName" (.cons (.var 2) .nil)) .nil) (.nil)) .nil))
    (.cons (.asg (.loc (.var 3)) .dct)
    (.cons (.lk (.fld (.var 0) "service_table") (.for_ (.tup [2, 4]) .items (.cons (.fld (.var 0) "service_table") .nil) (.cons (.asg (.sub (.var 3) (.var 2)) (.ife (.cmp .inn (.var 2) (.var 1)) (.tup (.cons (.ix (.var 4) (.cst (.int 0))) (.cons (.ix (.var 4) (.cst (.int 1))) (.cons (.cst .non) .nil)))) (.var 4))) .nil)))
    (.cons (.ret (.mk "Schema" (.cons (.fld (.var 0) "width_table") (.cons (.fld (.var 0) "key_table") (.cons (.var 3) .nil))))) .nil)))
def f86 : Fn := ⟨2, 5, b86⟩
end SL
namespace SL
open PySem L2 G
/-! ### dicts compared, as a truth value -/
def datD (d : D) : PyData := (toP 60 [] d).getD .none
theorem dat_of {k : Nat} {d : D} (hk : k ≤ 59) (h : dataD k d) : (∀ s, toP 60 s d = some (datD d)) ∧ PyData.canLay0 (datD d) = true ∧ SeqAt.shaped (datD d) = true := by
  obtain ⟨p, h1, h2, h3⟩ := toP_data h
  have e : datD d = p := by unfold datD; rw [h1 60 [] (by omega)]; rfl
  rw [e]
  refine ⟨fun s => h1 60 s (by omega), h2, ?_⟩
  unfold SeqAt.shaped
  simp only [h2, Bool.true_and, decide_eq_true_eq]
  omega
def eqv (x y : D) : Bool := PyData.eqv (datD x) (datD y)
theorem eqP_data {k : Nat} {x y : D} {s : S} (hk : k ≤ 59) (hx : dataD k x) (hy : dataD k y) : eqP x y s = .ok (eqv x y) s := by
  obtain ⟨a1, a2, a3⟩ := dat_of hk hx
  obtain ⟨b1, b2, b3⟩ := dat_of hk hy
  simp only [eqP, a1, b1]
  rw [if_pos ⟨a3, b3⟩]; rfl
theorem eqv_self {k : Nat} {x : D} (hk : k ≤ 59) (hx : dataD k x) : eqv x x = true := SeqAt.eqv_refl _ (dat_of hk hx).2.1
theorem eqv_comm' (x y : D) : eqv x y = eqv y x := PySem.W.eqv_comm _ _
def hitB (b : List (Str × D)) (p : Str × D) : Bool := match getK b p.1 with
  | none => false
  | some v => eqv p.2 v
def eqB (a b : List (Str × D)) : Bool := decide (a.length = b.length) && a.all (hitB b)
def DatA (a : List (Str × D)) : Prop := ∀ x d, getK a x = some d → dataD 3 d
theorem hits_eqB {b : List (Str × D)} {s : S} (hb : DatA b) : ∀ (a : List (Str × D)), (∀ p ∈ a, dataD 3 p.2) → eqHits (DK b) s (DK a) = .ok (a.all (hitB b)) s
  | [], _ => rfl
  | p :: r, h => by
    have ih := hits_eqB (s := s) hb r fun q hq => h q (by simp [hq])
    show eqHits (DK b) s ((.inr p.1, p.2) :: DK r) = _
    simp only [eqHits, getK_DK, List.all_cons, hitB]
    cases e : getK b p.1 with
    | none => simp
    | some v =>
      simp only [eqP_data (by decide : 3 ≤ 59) (h p (by simp)) (hb _ _ e), R.bind_ok, ih]
theorem dic_eq {s : S} {m n : Nat} {a b : List (Str × D)} (h1 : s[m]? = some (.dct (DK a))) (h2 : s[n]? = some (.dct (DK b))) (na : (a.map (·.1)).Nodup) (ha : DatA a) (hb : DatA b) : eqD (.ref m) (.ref n) s = .ok (eqB a b) s := by
  have la : (DK a).length = a.length := by simp [DK]
  have lb : (DK b).length = b.length := by simp [DK]
  simp only [eqD, h1, h2, eqK, la, lb]
  unfold eqB
  by_cases hl : a.length = b.length
  · rw [if_pos hl, decide_eq_true hl, Bool.true_and]
    exact hits_eqB hb a fun p hp => ha _ _ (getK_of_mem na hp)
  · rw [if_neg hl, decide_eq_false hl, Bool.false_and]
def optR : Option D → Option D → Prop
  | none, none => True
  | some u, some v => eqv u v = true
  | _, _ => False
theorem getK_none {a : List (Str × D)} {x : Str} : getK a x = none ↔ x ∉ a.map (·.1) := by
  have h := getK_some (C := a) (x := x)
  cases e : getK a x with
  | none => rw [e] at h; simp at h; simpa using h
  | some d => rw [e] at h; simp at h; simpa using h
theorem nd_back : ∀ {a b : List Str}, a.Nodup → (∀ y ∈ a, y ∈ b) → b.length ≤ a.length → ∀ y ∈ b, y ∈ a
  | [], b, _, _, hl, y, hy => by
    have : b = [] := List.length_eq_zero_iff.mp (by simpa using hl)
    rw [this] at hy; cases hy
  | x :: a, b, hn, sub, hl, y, hy => by
    have hn := List.nodup_cons.mp hn
    have hx := sub x (by simp)
    by_cases e : y = x
    · simp [e]
    · have h1 : (b.erase x).length ≤ a.length := by rw [List.length_erase_of_mem hx]; simp at hl; omega
      have h2 : ∀ z ∈ a, z ∈ b.erase x := fun z hz => (List.mem_erase_of_ne (fun (q : z = x) => hn.1 (q ▸ hz))).mpr (sub z (by simp [hz]))
      have := nd_back hn.2 h2 h1 y ((List.mem_erase_of_ne e).mpr hy)
      simp [this]
theorem eqB_iff {a b : List (Str × D)} (na : (a.map (·.1)).Nodup) (nb : (b.map (·.1)).Nodup) : eqB a b = true ↔ ∀ x, optR (getK a x) (getK b x) := by
  unfold eqB
  rw [Bool.and_eq_true, decide_eq_true_eq, List.all_eq_true]
  constructor
  · rintro ⟨hl, h⟩ x
    have sub : ∀ y ∈ a.map (·.1), y ∈ b.map (·.1) := fun y hy => by
      obtain ⟨p, hp, rfl⟩ := List.mem_map.mp hy
      have := h p hp
      unfold hitB at this
      cases e : getK b p.1 with
      | none => rw [e] at this; cases this
      | some v => exact mem_of_getK e
    have back : ∀ y ∈ b.map (·.1), y ∈ a.map (·.1) := nd_back na sub (by simp [hl])
    cases e : getK a x with
    | none =>
      have hx := getK_none.mp e
      have : getK b x = none := getK_none.mpr fun z => hx (back x z)
      rw [this]; trivial
    | some u =>
      have := h (x, u) (mem_getK e)
      unfold hitB at this
      cases e2 : getK b x with
      | none => simp only [e2] at this; cases this
      | some v => simp only [e2] at this; exact this
  · intro h
    have mem : ∀ y, y ∈ a.map (·.1) ↔ y ∈ b.map (·.1) := fun y => by
      have := h y
      cases e : getK a y with
      | none =>
        rw [e] at this
        cases e2 : getK b y with
        | none => exact ⟨fun z => absurd z (getK_none.mp e), fun z => absurd z (getK_none.mp e2)⟩
        | some v => rw [e2] at this; exact this.elim
      | some u =>
        rw [e] at this
        cases e2 : getK b y with
        | none => rw [e2] at this; exact this.elim
        | some v => exact ⟨fun _ => mem_of_getK e2, fun _ => mem_of_getK e⟩
    have pm : (a.map (·.1)).Perm (b.map (·.1)) := (List.perm_ext_iff_of_nodup na nb).mpr mem
    refine ⟨by have := pm.length_eq; simpa using this, fun p hp => ?_⟩
    have e := getK_of_mem na hp
    have := h p.1
    rw [e] at this
    unfold hitB
    cases e2 : getK b p.1 with
    | none => rw [e2] at this; exact this.elim
    | some v => rw [e2] at this; exact this
theorem eqB_congr {a b a' b' : List (Str × D)} (na : (a.map (·.1)).Nodup) (nb : (b.map (·.1)).Nodup) (na' : (a'.map (·.1)).Nodup) (nb' : (b'.map (·.1)).Nodup) (ha : ∀ x, getK a x = getK a' x) (hb : ∀ x, getK b x = getK b' x) : eqB a b = eqB a' b' := by
  rw [Bool.eq_iff_iff, eqB_iff na nb, eqB_iff na' nb']
  simp only [ha, hb]
theorem optR_comm {u v : Option D} : optR u v ↔ optR v u := by
  cases u <;> cases v <;> simp only [optR]
  rw [eqv_comm']
theorem eqB_comm {a b : List (Str × D)} (na : (a.map (·.1)).Nodup) (nb : (b.map (·.1)).Nodup) : eqB a b = eqB b a := by
  rw [Bool.eq_iff_iff, eqB_iff na nb, eqB_iff nb na]
  exact forall_congr' fun x => optR_comm
theorem eqB_same {a b : List (Str × D)} (na : (a.map (·.1)).Nodup) (nb : (b.map (·.1)).Nodup) (ha : DatA a) (h : ∀ x, getK a x = getK b x) : eqB a b = true := by
  rw [eqB_iff na nb]
  intro x
  rw [← h x]
  cases e : getK a x with
  | none => trivial
  | some d => exact eqv_self (by decide : 3 ≤ 59) (ha _ _ e)
theorem srt_nd {a : List (Str × D)} (h : (a.map (·.1)).Nodup) : ((srt a).map (·.1)).Nodup := by rw [srt_names]; exact sortT_nodup h
theorem DatA.srt {a : List (Str × D)} (h : DatA a) : DatA (srt a) := fun x d e => h x d (by rw [← getK_srt]; exact e)
/-- in the other order -/
theorem getK_rev {a : List (Str × D)} (h : (a.map (·.1)).Nodup) (x : Str) : getK a.reverse x = getK a x := by
  have nr : (a.reverse.map (·.1)).Nodup := by rw [List.map_reverse]; exact (List.reverse_perm _).nodup_iff.mpr h
  cases e : getK a x with
  | none =>
    refine getK_none.mpr fun z => getK_none.mp e ?_
    rw [List.map_reverse] at z
    exact List.mem_reverse.mp z
  | some d => exact getK_of_mem (p := (x, d)) nr (List.mem_reverse.mpr (mem_getK e))
/-! ### parts that make a schema -/
structure Pt3 (ts ks ss : List (Str × D)) : Prop where
  tb : TbS 4 ts
  ky : KyS ts ks
  nd : (ss.map (·.1)).Nodup
  sv : ∀ p ∈ ss, wordB p.1 = true ∧ isServD (DK ts) p.2 = true
  t1 : 1 ≤ ts.length
  t5 : ts.length ≤ 5
  k9 : ks.length ≤ 20
  s1 : 1 ≤ ss.length
  s8 : ss.length ≤ 8
def One (ts ks ss : List (Str × D)) : Prop := ∀ p ∈ ss, ∀ q ∈ ss, p.1 ≠ q.1 → wholeB ts ks p.2 = false → wholeB ts ks q.2 = false → tabS p.2 ≠ tabS q.2
section
variable {ts ks ss : List (Str × D)}
theorem Pt3.fine (h : Pt3 ts ks ss) (o : One ts ks ss) : sfault ts ks ss = none := drawn_fine h.tb (by decide) h.ky ⟨h.nd, h.sv, o⟩ h.t1 h.t5 h.s1 h.s8
theorem Pt3.kl (h : Pt3 ts ks ss) : ∀ x cs, getK ks x = some (.tup cs) → cs.length < 2 ^ 20 := fun x cs e => by
  obtain ⟨w, h1, h2⟩ := h.ky.kok _ _ e
  obtain ⟨_, w', h3, h4, h5⟩ := h.tb.at h1
  cases h3
  have : (colsB (-1) w cs && (decide (1 ≤ cs.length) && decide ((cs.length : Int) < w))) = true := h2
  simp only [Bool.and_eq_true, decide_eq_true_eq] at this
  omega
theorem Pt3.aT (h : Pt3 ts ks ss) : AscN ts := fun p hp => wordB_asc (h.tb.all p hp).1
theorem Pt3.aK (h : Pt3 ts ks ss) : AscN ks := fun p hp => by
  obtain ⟨w, h1, _⟩ := h.ky.all p hp
  exact wordB_asc (h.tb.at h1).1
theorem Pt3.aS (h : Pt3 ts ks ss) : AscN ss := fun p hp => wordB_asc (h.sv p hp).1
theorem Pt3.vals (h : Pt3 ts ks ss) (s : S) : Vals s ts ∧ Vals2 s ks ∧ Vals2 s ss := by
  have t5 := h.t5
  have k9 := h.k9
  have s8 := h.s8
  have len : ∀ {zs : List (Str × D)}, (∀ p ∈ zs, wordB p.1 = true) → ∀ p ∈ zs, p.1.length ≤ 10000 := fun h p hp => by have := (wordB_len (h p hp)).2; omega
  refine ⟨⟨by omega, fun p hp => ⟨len (fun p hp => (h.tb.all p hp).1) p hp, ?_⟩⟩, ⟨by omega, fun p hp => ⟨len (fun p hp => ?_) p hp, ?_⟩⟩, ⟨by omega, fun p hp => ⟨len (fun p hp => (h.sv p hp).1) p hp, ?_⟩⟩⟩
  · obtain ⟨_, w, e, _⟩ := h.tb.all p hp
    rw [e]; trivial
  · obtain ⟨w, h1, _⟩ := h.ky.all p hp
    exact (h.tb.at h1).1
  · obtain ⟨w, h1, h2⟩ := h.ky.all p hp
    cases e : p.2 <;> rw [e] at h2 <;> first
      | (cases h2; done)
      | (simp only [keyB, Bool.and_eq_true] at h2
         refine ⟨trivial, fun ds e2 z hz => ?_⟩
         cases e2
         obtain ⟨i, rfl⟩ := colsB_int h2.1 z hz
         exact ⟨trivial, (fun _ e => nomatch e), fun _ e => nomatch e⟩)
  · obtain ⟨tt, g, c, w, h3, h4, h5, h6⟩ := serv_shape (h.sv p hp).2
    rw [h3]
    refine ⟨trivial, fun ds e2 z hz => ?_⟩
    cases e2
    simp only [List.mem_cons, List.not_mem_nil, or_false] at hz
    have wl := (wordB_len (h.tb.at h4).1).2
    rcases hz with rfl | rfl | rfl
    · exact ⟨trivial, fun x e => by cases e; omega, fun _ e => nomatch e⟩
    · refine ⟨trivial, (fun _ e => nomatch e), fun es e y hy => ?_⟩
      cases e
      obtain ⟨i, rfl⟩ := colsB_int h5 y hy
      trivial
    · cases z <;> first
        | (cases h6; done)
        | exact ⟨trivial, (fun _ e => nomatch e), fun _ e => nomatch e⟩
theorem Pt3.dat (h : Pt3 ts ks ss) : DatA ts ∧ DatA ks ∧ DatA ss := by
  have cols : ∀ {l w : Int} {g : List D} {k : Nat}, colsB l w g = true → dataD (k + 1) (.tup g) := fun h => by
    simp only [dataD]
    intro z hz
    obtain ⟨i, rfl⟩ := colsB_int h z hz
    exact data_fl (d := .int i) trivial
  refine ⟨fun x d e => ?_, fun x d e => ?_, fun x d e => ?_⟩
  · obtain ⟨_, w, rfl, _⟩ := h.tb.at e
    exact data_fl (d := .int w) trivial
  · obtain ⟨w, _, h5⟩ := h.ky.kok _ _ e
    cases d <;> first
      | (cases h5; done)
      | (simp only [keyB, Bool.and_eq_true] at h5
         exact cols h5.1)
  · obtain ⟨t, g, c, w, rfl, t1, t2, t3⟩ := serv_shape (h.sv _ (mem_getK e)).2
    simp only [dataD]
    intro z hz
    simp only [List.mem_cons, List.not_mem_nil, or_false] at hz
    rcases hz with rfl | rfl | rfl
    · exact data_fl (d := .str t) (wordB_asc (h.tb.at t1).1)
    · exact cols t2
    · cases z <;> first
        | (cases t3; done)
        | exact data_fl (d := .non) trivial
        | exact data_fl (d := .int _) trivial
theorem Pt3.srv (h : Pt3 ts ks ss) : ∀ y d, getK ss y = some d → isServD (DK ts) d = true := fun y d e => (h.sv _ (mem_getK e)).2
/-- Schema(..) of fine parts -/
theorem mk_sch {Γ : Ga} (b : BP Γ) {k : Nat} (hk : 5 ≤ k) {s : S} {n m q : Nat} (hn : s[n]? = some (.dct (DK ts))) (hm : s[m]? = some (.dct (DK ks))) (hq : s[q]? = some (.dct (DK ss))) (h : Pt3 ts ks ss) (o : One ts ks ss) :
    ∃ s', Gp s s' ∧ mkD (clF Γ k) "Schema" 76 [.ref n, .ref m, .ref q] s = .ok (.ref s.length) s' ∧ Sch s' (s.length + 1) s.length ts ks ss := by
  obtain ⟨v1, v2, v3⟩ := h.vals s
  obtain ⟨s', g, mk⟩ := schema_mk b hk hn hm hq v1 v2 v3 h.tb.nd h.ky.nd h.nd
  rw [h.fine o] at mk
  obtain ⟨mk, ini⟩ := mk
  have cn := capL_none (ts := ts) (ks := ks) o (nm ss) [] [] (sortT_nodup h.nd) (fun y hy => mem_sortT.mp hy) (by simp)
  exact ⟨s', g, mk, ⟨⟨_, _, ini, by rw [capL_W _ _ _ cn]; rfl⟩⟩⟩
end
end SL

set_option Elab.async false
set_option linter.all false
set_option maxRecDepth 100000
set_option autoImplicit false
set_option maxHeartbeats 1000000
/-! SVa: rows, their keys, their order; sorted_rows. -/
namespace SL
open PySem PySem.Spec PyProof.Rows L2 G
/-- 454: value_key -/
def b454 : Cms := .cons (.ite (.isi (.var 0) .str) (.cons (.ret (.tup (.cons (.cst (.int 1)) (.cons (.cst (.int 0)) (.cons (.var 0) .nil))))) .nil) (.nil))
    (.cons (.ret (.tup (.cons (.cst (.int 0)) (.cons (.var 0) (.cons (.cst (.str "")) .nil))))) .nil)
def f454 : Fn := ⟨1, 1, b454⟩
/-- 430: row_key -/
def b430 : Cms := .cons (.ret (.lc (.call 454 (.cons (.var 1) .nil)) (.var 1) .seq (.cons (.var 0) .nil) .nop [("value", 1)])) .nil
def f430 : Fn := ⟨1, 2, b430⟩
/-- 438: sorted_rows -/
def b438 : Cms := .cons (.asg (.loc (.var 1)) .set0)
    (.cons (.asg (.loc (.var 2)) (.lst .nil))
    (.cons (.for_ (.var 3) .seq (.cons (.var 0) .nil) (.cons (.ite (.rin true (.var 3) (.var 1)) (.cons (.expr (.sadd (.var 1) (.var 3)))
    (.cons (.expr (.meth .append (.var 2) (.cons (.var 3) .nil))) .nil)) (.nil)) .nil))
    (.cons (.ret (.srk 430 (.var 2))) .nil)))
def f438 : Fn := ⟨1, 4, b438⟩
end SL
namespace SL
open PySem PySem.W L2 G
abbrev Row := List Key
def rowD (r : Row) : D := .tup (r.map dKey)
def AscK : Key → Prop
  | .inl _ => True
  | .inr x => Asc x
def AscR (r : Row) : Prop := ∀ k ∈ r, AscK k
def keyP : Key → PyData
  | .inl i => .int i
  | .inr x => .str x
def rowP (r : Row) : PyData := .tuple (r.map keyP)
def vkD : Key → D
  | .inl i => .tup [.int 0, .int i, .str ""]
  | .inr x => .tup [.int 1, .int 0, .str x]
def vkP : Key → PyData
  | .inl i => .tuple [.int 0, .int i, .str ""]
  | .inr x => .tuple [.int 1, .int 0, .str x]
def rkP (r : Row) : PyData := .list (r.map vkP)
theorem keysOf_row : ∀ r : Row, keysOf (r.map dKey) = some r
  | [] => rfl
  | k :: r => by
    have e : keyD (dKey k) = some k := by cases k <;> rfl
    simp only [List.map_cons, keysOf, e, Option.bind_some, keysOf_row r, Option.map_some]
theorem rowK_row (r : Row) : rowK (rowD r) = some r := keysOf_row r
theorem rowD_inj {a b : Row} (h : rowD a = rowD b) : a = b := by
  have := congrArg rowK h
  rw [rowK_row, rowK_row] at this
  exact Option.some.inj this
theorem toP_key (m : Nat) (s : S) (k : Key) : toP m s (dKey k) = some (keyP k) := by cases k <;> cases m <;> simp only [dKey, toP, keyP]
theorem toPs_keys (m : Nat) (s : S) : ∀ r : Row, toPs m s (r.map dKey) = some (r.map keyP)
  | [] => by simp only [List.map_nil, toPs]
  | k :: r => by simp only [List.map_cons, toPs, toP_key, toPs_keys m s r]
theorem toP_row (m : Nat) (s : S) (r : Row) : toP (m + 1) s (rowD r) = some (rowP r) := by simp only [rowD, toP, toPs_keys, Option.map_some, rowP]
theorem toP_vk (m : Nat) (s : S) (k : Key) : toP (m + 1) s (vkD k) = some (vkP k) := by cases k <;> simp only [vkD, toP, toPs, Option.map_some, vkP]
theorem toPs_vk (m : Nat) (s : S) : ∀ r : Row, toPs (m + 1) s (r.map vkD) = some (r.map vkP)
  | [] => by simp only [List.map_nil, toPs]
  | k :: r => by simp only [List.map_cons, toPs, toP_vk, toPs_vk m s r]
structure BV (Γ : Ga) : Prop where
  h454 : Γ.fns.lookup 454 = some f454
  h430 : Γ.fns.lookup 430 = some f430
  h438 : Γ.fns.lookup 438 = some f438
section
variable {Γ : Ga} {s : S}
theorem vkey_ok (b : BV Γ) {k : Nat} (hk : 1 ≤ k) (x : Key) : (clF Γ k).call 454 [dKey x] s = .ok (vkD x) s := by
  obtain ⟨j, rfl, hj⟩ := lv hk
  cases x with
  | inl i => exact call_rt b.h454 (τ := [some (.int i)]) rfl rfl ((exs_skip (s' := s) rfl).trans (exs_ret rfl))
  | inr x => exact call_rt b.h454 (τ := [some (.str x)]) rfl rfl (exs_in (s' := s) rfl (exs_ret rfl))
theorem rkey_ok (b : BV Γ) {k : Nat} (hk : 2 ≤ k) {r : Row} (hl : r.length < 2 ^ 20) : (clF Γ k).call 430 [rowD r] s = .ok (.ref s.length) (s ++ [.lst (r.map vkD)]) := by
  obtain ⟨j, rfl, hj⟩ := lv hk
  obtain ⟨rr, s', lc, hr, hs⟩ := lcS_inv (ok := (Src.vals (r.map dKey)).ok) (items := r.map dKey) (s := s) (g := lcB (clF Γ j) [some (rowD r), none] [1] (.var 1) .nop (.call 454 (.cons (.var 1) .nil))) (fun i rr s' => rr = (r.take i).map vkD ∧ s' = s) (fun _ _ _ _ => trivial) (fun i d rr s' hi ⟨hr, hs⟩ => by
    subst hs
    rw [List.getElem?_map, Option.map_eq_some_iff] at hi
    obtain ⟨x, hx, rfl⟩ := hi
    refine ⟨some (vkD x), s', lcB_var ?_, ?_, rfl⟩
    · simp only [evE, ev, evs, plainT, wipeF, List.set_cons_zero, List.set_cons_succ, List.getElem?_cons_zero, List.getElem?_cons_succ, R.bind_ok, vkey_ok b hj x]
    · rw [hr, List.take_add_one, hx]; simp) ⟨by simp, rfl⟩
  subst hs
  rw [List.length_map, List.take_length] at hr
  subst hr
  exact call_rt b.h430 (τ := [some (rowD r), none]) rfl rfl (exs_ret (ev_lc (s1 := s') (s2 := s') (ds := [rowD r]) (src := .vals (r.map dKey)) rfl rfl (by
    show (r.map dKey).length < sizeLine
    rw [List.length_map, sizeLine_eq]; omega) lc))
def refsD : Nat → Nat → List D
  | _, 0 => []
  | i, n + 1 => .ref i :: refsD (i + 1) n
theorem keysD_rows (b : BV Γ) {k : Nat} (hk : 2 ≤ k) : ∀ (rows : List Row) (s : S), (∀ r ∈ rows, r.length < 2 ^ 20) → keysD (clF Γ k) 430 (rows.map rowD) s = .ok (refsD s.length rows.length) (s ++ rows.map fun r => .lst (r.map vkD))
  | [], s, _ => by simp only [List.map_nil, keysD, List.length_nil, refsD, List.append_nil]
  | r :: rows, s, h => by
    have e := rkey_ok (s := s) b hk (h r (by simp))
    have ih := keysD_rows b hk rows (s ++ [.lst (r.map vkD)]) fun z hz => h z (by simp [hz])
    simp only [List.map_cons, keysD, e, R.calm_ok, R.bind_ok, ih, List.length_cons, refsD, List.length_append, List.length_nil, List.append_assoc, List.singleton_append]
theorem toPs_rows (m : Nat) : ∀ (rows : List Row) (s : S), toPs (m + 2) (s ++ rows.map fun r => .lst (r.map vkD)) (refsD s.length rows.length) = some (rows.map rkP)
  | [], s => by simp only [List.map_nil, List.length_nil, refsD, toPs]
  | r :: rows, s => by
    have ih := toPs_rows m rows (s ++ [.lst (r.map vkD)])
    rw [List.append_assoc, List.singleton_append, List.length_append, List.length_singleton] at ih
    have at_ : (s ++ (O.lst (r.map vkD) :: rows.map fun r => O.lst (r.map vkD)))[s.length]? = some (.lst (r.map vkD)) := by simp
    simp only [List.map_cons, List.length_cons, refsD, toPs, ih, toP_ref at_, toPs_vk, Option.map_some, rkP]
theorem alike_vk (x y : Key) : alike (vkP x) (vkP y) = true := by cases x <;> cases y <;> simp [vkP, alike, alikeAll]
theorem alike_rows : ∀ a b : Row, alikeAll (a.map vkP) (b.map vkP) = true
  | [], _ => by simp [alikeAll]
  | x :: a, [] => by simp [alikeAll]
  | x :: a, y :: b => by simp only [List.map_cons, alikeAll, alike_vk, alike_rows a b, Bool.and_self]
theorem depth_vk : ∀ r : Row, PyData.depthAll (r.map vkP) ≤ 1
  | [] => by simp [PyData.depthAll]
  | x :: r => by
    have := depth_vk r
    simp only [List.map_cons, PyData.depthAll]
    cases x <;> simp [vkP, PyData.depth, PyData.depthAll] <;> omega
theorem keysOk_rows (rows : List Row) : keysOk (rows.map rkP) := by
  refine ⟨AllAlike.of fun a b => by simp only [rkP, alike, alike_rows], Sortable.others fun r => ⟨by simp [rkP], by simp [rkP]⟩, fun p hp => ?_⟩
  obtain ⟨r, _, rfl⟩ := List.mem_map.mp hp
  have := depth_vk r
  simp only [rkP, PyData.depth]
  omega
noncomputable def sortR (rows : List Row) : List Row := rows.mergeSort (dataLe false rkP)
theorem sortK_rows (rows : List Row) : sortK (rows.map rowD) (rows.map rkP) = (sortR rows).map rowD := by
  unfold sortK sortR
  rw [List.zip_map', ← List.map_mergeSort (f := fun r => (rowD r, rkP r)) (r := dataLe false rkP) (fun a _ b _ => rfl), List.map_map]
  rfl
/-- sorted(rows, key=row_key) -/
theorem srk_rows (b : BV Γ) {k n : Nat} (hk : 2 ≤ k) {rows : List Row} (h : s[n]? = some (.lst (rows.map rowD))) (hr : ∀ r ∈ rows, r.length < 2 ^ 20) : ∃ s' m, Gp s s' ∧ s.length ≤ m ∧ srkD (clF Γ k) 430 (.ref n) s = .ok (.ref m) s' ∧ s'[m]? = some (.lst ((sortR rows).map rowD)) := by
  have e := keysD_rows b hk rows s hr
  have g1 : Gp s (s ++ rows.map fun r => .lst (r.map vkD)) := fun j o hj => by rw [List.getElem?_append_left (List.getElem?_eq_some_iff.mp hj).1]; exact hj
  refine ⟨_, _, g1.trans (Gp.new _ (.lst ((sortR rows).map rowD))), ?_, ?_, new_at⟩
  · rw [List.length_append]; omega
  · simp only [srkD, h, e, R.bind_ok, toPs_rows 58 rows s, if_pos (keysOk_rows rows), sortK_rows, new]
/-! ### without doubles -/
def ddA (acc : List Row) (r : Row) : List Row := if hasR acc r = true then acc else acc ++ [r]
def dd (rows : List Row) : List Row := rows.foldl ddA []
theorem dd_mem {rows : List Row} {r : Row} : r ∈ dd rows ↔ r ∈ rows := by
  have key : ∀ (rows acc : List Row), r ∈ rows.foldl ddA acc ↔ r ∈ acc ∨ r ∈ rows := by
    intro rows
    induction rows with
    | nil => simp
    | cons x rows ih =>
      intro acc
      rw [List.foldl_cons, ih]
      unfold ddA
      split
      · rename_i h
        have := hasR_iff.mp h
        constructor
        · rintro (h | h) <;> simp [h]
        · rintro (h | h)
          · exact .inl h
          · rcases List.mem_cons.mp h with rfl | h
            · exact .inl this
            · exact .inr h
      · simp only [List.mem_append, List.mem_singleton, List.mem_cons, List.not_mem_nil, or_assoc, or_false, false_or]
  rw [dd, key]; simp
theorem dd_nd (rows : List Row) : (dd rows).Nodup := by
  have key : ∀ (rows acc : List Row), acc.Nodup → (rows.foldl ddA acc).Nodup := by
    intro rows
    induction rows with
    | nil => exact fun acc h => h
    | cons x rows ih =>
      intro acc h
      rw [List.foldl_cons]
      refine ih _ ?_
      unfold ddA
      split
      · exact h
      · rename_i hx
        refine List.nodup_append.mpr ⟨h, by simp, fun a ha c hc => ?_⟩
        simp at hc
        subst hc
        exact fun e => hx (hasR_iff.mpr (e ▸ ha))
  exact key rows [] List.nodup_nil
theorem dd_len (rows : List Row) : (dd rows).length ≤ rows.length := by
  have key : ∀ (rows acc : List Row), (rows.foldl ddA acc).length ≤ acc.length + rows.length := by
    intro rows
    induction rows with
    | nil => simp
    | cons x rows ih =>
      intro acc
      rw [List.foldl_cons, List.length_cons]
      have := ih (ddA acc x)
      have h2 : (ddA acc x).length ≤ acc.length + 1 := by unfold ddA; split <;> simp
      omega
  have h := key rows []
  rw [List.length_nil, Nat.zero_add] at h
  exact h
theorem dd_take {rows : List Row} {j : Nat} {r : Row} (h : rows[j]? = some r) : dd (rows.take (j + 1)) = ddA (dd (rows.take j)) r := by
  unfold dd
  rw [List.take_add_one, h, List.foldl_append]; rfl
/-- sorted_rows -/
theorem sorted_ok (b : BV Γ) {k n : Nat} (hk : 3 ≤ k) {rows : List Row} (h : s[n]? = some (.lst (rows.map rowD))) (hl : rows.length < 63) (hr : ∀ r ∈ rows, r.length < 2 ^ 20) :
    ∃ s' m, Gp s s' ∧ s.length ≤ m ∧ (clF Γ k).call 438 [.ref n] s = .ok (.ref m) s' ∧ s'[m]? = some (.lst ((sortR (dd rows)).map rowD)) := by
  obtain ⟨j, rfl, hj⟩ := lv hk
  have ltn := (List.getElem?_eq_some_iff.mp h).1
  have g1 := Gp.new s (.set [])
  have g2 := Gp.new (s ++ [.set []]) (.lst [])
  obtain ⟨s2, hs2⟩ : ∃ s2 : S, s2 = (s ++ [.set []]) ++ [.lst []] := ⟨_, rfl⟩
  have G2 : Gp s s2 := by rw [hs2]; exact g1.trans g2
  have len2 : s2.length = s.length + 2 := by rw [hs2]; simp
  have a1 : s2[s.length]? = some (.set []) := by rw [hs2]; exact g2 _ _ new_at
  have a2 : s2[s.length + 1]? = some (.lst []) := by rw [hs2]; have := new_at (s := s ++ [O.set []]) (o := .lst []); simpa using this
  obtain ⟨τ', s', lp, ⟨x, rfl⟩, rfl⟩ := forS_inv (ok := (Src.lst n (rows.map rowD)).ok) (g := forB (clF Γ j) (.var 3) (.cons (.ite (.rin true (.var 3) (.var 1)) (.cons (.expr (.sadd (.var 1) (.var 3)))
    (.cons (.expr (.meth .append (.var 2) (.cons (.var 3) .nil))) .nil)) (.nil)) .nil)) (items := rows.map rowD) (τ := [some (.ref n), some (.ref s.length), some (.ref (s.length + 1)), none]) (s := s2)
    (fun i τ s' => (∃ x, τ = [some (.ref n), some (.ref s.length), some (.ref (s.length + 1)), x]) ∧ s' = (s2.set s.length (.set (dd (rows.take i)))).set (s.length + 1) (.lst ((dd (rows.take i)).map rowD)))
    (fun i τ s' ⟨_, e⟩ => by rw [e]; exact lstAt_of (by rw [List.getElem?_set_ne (by omega), List.getElem?_set_ne (by omega)]; exact G2 _ _ h)) (fun i d τ s' hi ⟨⟨x, hτ⟩, hs'⟩ => by
      subst hτ
      rw [List.getElem?_map, Option.map_eq_some_iff] at hi
      obtain ⟨r, hri, rfl⟩ := hi
      have hil := (List.getElem?_eq_some_iff.mp hri).1
      rw [dd_take hri]
      obtain ⟨acc, hacc⟩ : ∃ acc, acc = dd (rows.take i) := ⟨_, rfl⟩
      have lacc : acc.length ≤ i := by
        have := dd_len (rows.take i)
        rw [List.length_take] at this
        rw [hacc]; omega
      rw [← hacc] at hs' ⊢
      have b1 : s'[s.length]? = some (.set acc) := by rw [hs', List.getElem?_set_ne (by omega)]; exact set_get (by omega)
      have b2 : s'[s.length + 1]? = some (.lst (acc.map rowD)) := by rw [hs']; exact set_get (by rw [List.length_set]; omega)
      have sa : setAt? s' (.ref s.length) = some acc := by simp only [setAt?, b1]
      have c : evT (clF Γ j) (.rin true (.var 3) (.var 1)) [some (.ref n), some (.ref s.length), some (.ref (s.length + 1)), some (rowD r)] s' = .ok (!hasR acc r) s' := by
        simp only [evT, ev, plainT, asB, List.getElem?_cons_zero, List.getElem?_cons_succ, R.bind_ok, rinD, rowK_row, sa, if_true]
      cases hh : hasR acc r with
      | true =>
        rw [hh] at c
        refine ⟨[some (.ref n), some (.ref s.length), some (.ref (s.length + 1)), some (rowD r)], s', ?_, ⟨_, rfl⟩, ?_⟩
        · rw [forB_var]; exact (exs_skip c).trans rfl
        · rw [hs']; unfold ddA; rw [if_pos hh]
      | false =>
        rw [hh] at c
        have s1 : saddD (.ref s.length) (rowD r) s' = .ok .non (s'.set s.length (.set (acc ++ [r]))) := by
          simp only [saddD, sa, rowK_row, hh, Bool.false_eq_true, if_false]
          rw [if_pos (by omega)]
        have b3 : (s'.set s.length (.set (acc ++ [r])))[s.length + 1]? = some (.lst (acc.map rowD)) := by rw [List.getElem?_set_ne (by omega)]; exact b2
        have hms : mSel .append (.ref (s.length + 1)) (s'.set s.length (.set (acc ++ [r]))) = some .lappend := by simp only [mSel, b3]; rfl
        have ap := append_lst (d := rowD r) b3 (by rw [List.length_map]; omega)
        refine ⟨[some (.ref n), some (.ref s.length), some (.ref (s.length + 1)), some (rowD r)], (s'.set s.length (.set (acc ++ [r]))).set (s.length + 1) (.lst (acc.map rowD ++ [rowD r])), ?_, ⟨_, rfl⟩, ?_⟩
        · rw [forB_var]
          refine (exs_nx ((ite_t c).trans ((exs_expr (d := .non) (s' := s'.set s.length (.set (acc ++ [r]))) ?_).trans ((exs_expr (d := .non) (s' := (s'.set s.length (.set (acc ++ [r]))).set (s.length + 1) (.lst (acc.map rowD ++ [rowD r]))) ?_).trans rfl)))).trans rfl
          · simp only [evE, ev, plainT, List.set_cons_zero, List.set_cons_succ, List.getElem?_cons_zero, List.getElem?_cons_succ, R.bind_ok, sa, Option.isSome_some, if_true, s1]
          · simp only [evE, ev, evs, plainT, List.set_cons_zero, List.set_cons_succ, List.getElem?_cons_zero, List.getElem?_cons_succ, R.bind_ok, hms, ap]
        · rw [hs']
          unfold ddA
          rw [if_neg (by rw [hh]; decide), List.map_append, List.set_comm _ _ (by omega : s.length + 1 ≠ s.length), List.set_set, List.set_set]; rfl) ⟨⟨none, rfl⟩, by
        apply List.ext_getElem?
        intro jj
        by_cases e1 : s.length + 1 = jj
        · subst e1; rw [set_get (by rw [List.length_set]; omega), a2]; rfl
        · rw [List.getElem?_set_ne e1]
          by_cases e2 : s.length = jj
          · subst e2; rw [set_get (by omega), a1]; rfl
          · rw [List.getElem?_set_ne e2]⟩
  rw [List.length_map, List.take_length] at lp
  obtain ⟨s3, hs3⟩ : ∃ s3 : S, s3 = (s2.set s.length (.set (dd rows))).set (s.length + 1) (.lst ((dd rows).map rowD)) := ⟨_, rfl⟩
  rw [← hs3] at lp
  have a3 : s3[s.length + 1]? = some (.lst ((dd rows).map rowD)) := by rw [hs3]; exact set_get (by rw [List.length_set]; omega)
  have G3 : Gp s s3 := by rw [hs3]; exact (G2.set_new (Nat.le_refl _)).set_new (Nat.le_succ _)
  obtain ⟨s4, m, g4, hm, e4, a4⟩ := srk_rows b (k := j) hj a3 fun r hr' => hr r (dd_mem.mp hr')
  have len3 : s3.length = s.length + 2 := by rw [hs3, List.length_set, List.length_set, len2]
  refine ⟨s4, m, G3.trans g4, by omega, call_rt b.h438 (τ := [some (.ref n), none, none, none]) rfl rfl ?_, a4⟩
  refine (exs_asg (d := .ref s.length) (s' := s ++ [.set []]) rfl).trans ((exs_asg (d := .ref (s.length + 1)) (s' := s2) ?_).trans ?_)
  · rw [hs2]
    simp only [evE, ev, evs, plainT, R.bind_ok, new]
    simp
  refine (exs_nx (τ' := [some (.ref n), some (.ref s.length), some (.ref (s.length + 1)), x]) (s' := s3) ?_).trans (exs_ret ?_)
  · exact (ex_for (ds := [.ref n]) (s1 := s2) (src := .lst n (rows.map rowD)) rfl (by simp only [srcOf, lstAt_of (G2 _ _ h)])).trans lp
  · simp only [evE, ev, plainT, List.getElem?_cons_zero, List.getElem?_cons_succ, R.bind_ok, e4]
end
end SL

set_option Elab.async false
set_option linter.all false
set_option maxRecDepth 100000
set_option autoImplicit false
set_option maxHeartbeats 1000000
/-! SVb: the rows' order in plain words; values drawn; rows in lists. -/
namespace SL
open PySem PySem.Spec PyProof.Rows L2 G
/-- 315: _law_value -/
def b315 : Cms := .cons (.asg (.loc (.var 1)) (.call 148 (.cons (.var 0) (.cons (.cst (.int 4)) .nil))))
    (.cons (.ite (.cmp .eq (.var 1) (.cst (.int 0))) (.cons (.ret (.bin .sub (.call 148 (.cons (.var 0) (.cons (.bin .sub (.bin .mul (.cst (.int 2)) (.bin .pow (.cst (.int 10)) (.cst (.int 30)))) (.cst (.int 1))) .nil))) (.bin .sub (.bin .pow (.cst (.int 10)) (.cst (.int 30))) (.cst (.int 1))))) .nil) (.nil))
    (.cons (.ite (.cmp .eq (.var 1) (.cst (.int 1))) (.cons (.ret (.call 325 (.cons (.var 0) (.cons (.bin .add (.cst (.int 1)) (.call 148 (.cons (.var 0) (.cons (.cst (.int 8)) .nil)))) .nil)))) .nil) (.nil))
    (.cons (.ret (.bin .sub (.call 148 (.cons (.var 0) (.cons (.cst (.int 7)) .nil))) (.cst (.int 3)))) .nil)))
def f315 : Fn := ⟨1, 2, b315⟩
end SL
namespace SL
open PySem PySem.W L2 G
open PyProof.Rows (itemOrd)
/-! ### the order -/
def keyLt : Key → Key → Bool
  | .inl i, .inl j => decide (i < j)
  | .inl _, .inr _ => true
  | .inr _, .inl _ => false
  | .inr x, .inr y => decide (x.cps.toList < y.cps.toList)
def rowLtB : Row → Row → Bool
  | [], [] => false
  | [], _ :: _ => true
  | _ :: _, [] => false
  | a :: as, b :: bs => if a = b then rowLtB as bs else keyLt a b
theorem lex0 : PyProof.Rows.lexLt itemOrd (keyToksAll []) (keyToksAll []) = false := PyProof.Rows.lex_irrefl _
theorem str_ne {x y : Str} (h : x.cps.toList = y.cps.toList) : x = y := by cases x; cases y; simp only [Str.mk.injEq] at h ⊢; exact Array.toList_inj.mp h
theorem eqv_str (x y : Str) : PyData.eqv (.str x) (.str y) = decide (x = y) := by
  simp only [PyData.eqv]
  by_cases e : x = y <;> simp [e]
theorem eqv_int (x y : Int) : PyData.eqv (.int x) (.int y) = decide (x = y) := by
  simp only [PyData.eqv]
  by_cases e : x = y <;> simp [e]
theorem dataLt_vk (x y : Key) : dataLt (vkP x) (vkP y) = keyLt x y := by
  cases x with
  | inl i =>
    cases y with
    | inl j =>
      simp only [vkP, keyLt]
      rw [dataLt_tuple, dataLt_cons (by simp [alike]), eqv_int, if_pos (by simp), dataLt_cons (by simp [alike]), eqv_int]
      by_cases e : i = j
      · rw [if_pos (by simp [e]), dataLt_cons (by simp [alike]), eqv_str, if_pos (by simp), lex0]
        simp [e]
      · rw [if_neg (by simp [e]), dataLt_int]
    | inr y =>
      simp only [vkP, keyLt]
      rw [dataLt_tuple, dataLt_cons (by simp [alike]), eqv_int, if_neg (by simp), dataLt_int]
      simp
  | inr x =>
    cases y with
    | inl j =>
      simp only [vkP, keyLt]
      rw [dataLt_tuple, dataLt_cons (by simp [alike]), eqv_int, if_neg (by simp), dataLt_int]
      simp
    | inr y =>
      simp only [vkP, keyLt]
      rw [dataLt_tuple, dataLt_cons (by simp [alike]), eqv_int, if_pos (by simp), dataLt_cons (by simp [alike]), eqv_int, if_pos (by simp), dataLt_cons (by simp [alike]), eqv_str]
      by_cases e : x = y
      · rw [if_pos (by simp [e]), lex0]
        simp [e]
      · rw [if_neg (by simp [e]), dataLt_str]
theorem eqv_vk (x y : Key) : PyData.eqv (vkP x) (vkP y) = decide (x = y) := by
  cases x with
  | inl i => cases y with
    | inl j => simp only [vkP, PyData.eqv, PyData.eqvAll]; by_cases e : i = j <;> simp [e]
    | inr y => simp [vkP, PyData.eqv, PyData.eqvAll]
  | inr x => cases y with
    | inl j => simp [vkP, PyData.eqv, PyData.eqvAll]
    | inr y => simp only [vkP, PyData.eqv, PyData.eqvAll]; by_cases e : x = y <;> simp [e]
theorem toks_cons_ne (x : PyData) (xs : List PyData) : PyProof.Rows.lexLt itemOrd (keyToksAll []) (keyToksAll (x :: xs)) = true ∧ PyProof.Rows.lexLt itemOrd (keyToksAll (x :: xs)) (keyToksAll []) = false := by
  rw [toks_all_cons]
  simp only [keyToksAll]
  constructor <;> (rw [PyProof.Rows.lex_diff (O := itemOrd) (by simp)]; rfl)
theorem lt_keys : ∀ a b : Row, PyProof.Rows.lexLt itemOrd (keyToksAll (a.map vkP)) (keyToksAll (b.map vkP)) = rowLtB a b
  | [], [] => lex0
  | [], y :: b => (toks_cons_ne _ _).1
  | x :: a, [] => (toks_cons_ne _ _).2
  | x :: a, y :: b => by
    rw [List.map_cons, List.map_cons, dataLt_cons (alike_vk x y), eqv_vk, rowLtB, lt_keys a b, dataLt_vk]
    by_cases e : x = y <;> simp [e]
theorem lt_rows (a b : Row) : dataLt (rkP a) (rkP b) = rowLtB a b := by
  simp only [rkP]
  rw [dataLt_list, lt_keys]
theorem key_conn {x y : Key} (h1 : keyLt x y = false) (h2 : keyLt y x = false) : x = y := by
  cases x with
  | inl i => cases y with
    | inl j => simp only [keyLt, decide_eq_false_iff_not] at h1 h2; congr 1; omega
    | inr y => cases h1
  | inr x => cases y with
    | inl j => cases h2
    | inr y =>
      simp only [keyLt, decide_eq_false_iff_not] at h1 h2
      exact congrArg _ (str_ne (List.le_antisymm (List.not_lt.mp h2) (List.not_lt.mp h1)))
theorem row_conn : ∀ {a b : Row}, rowLtB a b = false → rowLtB b a = false → a = b
  | [], [], _, _ => rfl
  | [], _ :: _, h, _ => by cases h
  | _ :: _, [], _, h => by cases h
  | x :: a, y :: b, h1, h2 => by
    unfold rowLtB at h1 h2
    by_cases e : x = y
    · subst e
      rw [if_pos rfl] at h1 h2
      rw [row_conn h1 h2]
    · rw [if_neg e] at h1
      rw [if_neg (Ne.symm e)] at h2
      exact absurd (key_conn h1 h2) e
theorem sortR_perm (rows : List Row) : (sortR rows).Perm rows := List.mergeSort_perm ..
theorem sortR_lt {rows : List Row} (h : rows.Nodup) : (sortR rows).Pairwise (fun a b => rowLtB a b = true) := by
  have p : (sortR rows).Pairwise (fun a b => dataLe false rkP a b = true) := sort_pairwise (sortLe_total _ _ _) rows
  have nd : (sortR rows).Nodup := (sortR_perm rows).nodup_iff.mpr h
  refine (p.and nd).imp fun {a b} ⟨h1, h2⟩ => ?_
  have h1 : (!dataLt (rkP b) (rkP a)) = true := h1
  rw [lt_rows] at h1
  cases q : rowLtB a b with
  | true => rfl
  | false => exact absurd (row_conn q (by simpa using h1)) h2
theorem numI {cl : CL} {τ : Fr} {s : S} {j : Nat} {a c : Int} {r : Bool} (h : τ[j]? = some (some (.int a))) (e : (a == c) = r) : evT cl (.cmp .eq (.var j) (.cst (.int c))) τ s = .ok r s := by
  subst e
  simp only [evT, ev, plainT, asB, h, R.bind_ok, Cst.d, eqI]
/-! ### values drawn -/
structure BR (Γ : Ga) : Prop where
  h252 : Γ.fns.lookup 252 = some f252
  h224 : Γ.fns.lookup 224 = some f224
  h148 : Γ.fns.lookup 148 = some f148
  h325 : Γ.fns.lookup 325 = some f325
  h315 : Γ.fns.lookup 315 = some f315
def ValK : Key → Prop
  | .inl i => -(10 ^ 30) < i ∧ i < 10 ^ 30
  | .inr x => wordB x = true
theorem ValK.asc {k : Key} (h : ValK k) : AscK k := by
  cases k with
  | inl i => trivial
  | inr x => exact wordB_asc h
section
variable {Γ : Ga} {s : S} {n : Nat}
theorem drR (b : BR Γ) {k : Nat} (hk : 2 ≤ k) : Dr (clF Γ k) 148 := by
  obtain ⟨j, rfl, hj⟩ := lv hk
  obtain ⟨i, rfl, hi⟩ := lv hj
  refine dr_of (cl := clF Γ (i + 1)) (mix := 224) (fun x y s => ?_) (fun ds s => call_of b.h148 ds s)
  obtain ⟨r, h1, h2⟩ := run_mixed (clF Γ i) s x y
  exact ⟨r, (call_of b.h224 _ _).trans h1, h2⟩
theorem drawR (b : BR Γ) {k : Nat} (hk : 2 ≤ k) {m : Int} (p : PoolAt n s) (h0 : 0 < m) (h : m.natAbs.log2 < 9000) : ∃ r s', (clF Γ k).call 148 [.ref n, .int m] s = .ok (.int r) s' ∧ 0 ≤ r ∧ r < m ∧ Gd n [] s s' := by
  obtain ⟨r, s', h1, h2, h3, h4, _⟩ := drR b hk s n m p h0 h
  exact ⟨r, s', h1, h2, h3, .of_gr h4⟩
theorem smallI {m : Int} (h0 : 0 < m) (h : m < 2 ^ 60) : m.natAbs.log2 < 9000 := small_log h0 (by omega)
theorem value_ok (b : BR Γ) {k : Nat} (hk : 4 ≤ k) (p : PoolAt n s) : ∃ x s', (clF Γ k).call 315 [.ref n] s = .ok (dKey x) s' ∧ ValK x ∧ Gd n [] s s' := by
  obtain ⟨j, rfl, hj⟩ := lv hk
  obtain ⟨r, s1, r1, r2, r3, r4⟩ := drawR b (k := j) (by omega) (m := 4) p (by decide) (smallI (by decide) (by decide))
  have e0 : evE (clF Γ j) (.call 148 (.cons (.var 0) (.cons (.cst (.int 4)) .nil))) [some (.ref n), none] s = .ok (.int r) s1 := by
    simp only [evE, ev, evs, plainT, List.getElem?_cons_zero, R.bind_ok, Cst.d, r1]
  by_cases h0 : r = 0
  · obtain ⟨u, s2, u1, u2, u3, u4⟩ := drawR b (k := j) (by omega) (m := 2 * 10 ^ 30 - 1) r4.pool (by decide) (by decide +kernel)
    have c1 : evT (clF Γ j) (.cmp .eq (.var 1) (.cst (.int 0))) [some (.ref n), some (.int r)] s1 = .ok true s1 := numI rfl (by simp [h0])
    have pw : binD .pow (.int 10) (.int 30) s1 = .ok (.int (10 ^ 30)) s1 := by
      simp only [binD]
      rw [if_pos ⟨by decide, by decide, by decide⟩]; rfl
    have pw2 : binD .pow (.int 10) (.int 30) s2 = .ok (.int (10 ^ 30)) s2 := by
      simp only [binD]
      rw [if_pos ⟨by decide, by decide, by decide⟩]; rfl
    have ml : binD .mul (.int 2) (.int (10 ^ 30)) s1 = .ok (.int (2 * 10 ^ 30)) s1 := by
      simp only [binD]
      rw [if_pos (.inl ⟨by decide, by decide⟩)]
    refine ⟨.inl (u - (10 ^ 30 - 1)), s2, call_rt b.h315 (τ := [some (.ref n), none]) rfl rfl ((exs_asg e0).trans (exs_in c1 (exs_ret ?_))), ⟨by omega, by omega⟩, r4.trans u4⟩
    simp only [evE, ev, evs, plainT, List.set_cons_zero, List.set_cons_succ, List.getElem?_cons_zero, R.bind_ok, Cst.d, pw, ml, subI, u1, pw2, dKey]
  · have c1 : evT (clF Γ j) (.cmp .eq (.var 1) (.cst (.int 0))) [some (.ref n), some (.int r)] s1 = .ok false s1 := numI rfl (by simp [h0])
    by_cases h1 : r = 1
    · have c2 : evT (clF Γ j) (.cmp .eq (.var 1) (.cst (.int 1))) [some (.ref n), some (.int r)] s1 = .ok true s1 := numI rfl (by simp [h1])
      obtain ⟨u, s2, u1, u2, u3, u4⟩ := drawR b (k := j) (by omega) (m := 8) r4.pool (by decide) (smallI (by decide) (by decide))
      have wo : Wo (clF Γ j) 325 := by
        obtain ⟨i, rfl, hi⟩ := lv (show 3 ≤ j by omega)
        exact wo_of (drR b hi) (fun ds s => call_of b.h325 ds s)
      obtain ⟨x, s3, x1, x2, x3, x4, _⟩ := wo s2 n (1 + u) u4.pool (by omega) (by omega)
      refine ⟨.inr x, s3, call_rt b.h315 (τ := [some (.ref n), none]) rfl rfl ((exs_asg e0).trans ((exs_skip c1).trans (exs_in c2 (exs_ret ?_)))), wordB_of x2 (by omega) (by omega), (r4.trans u4).trans (.of_gr x4)⟩
      simp only [evE, ev, evs, plainT, List.set_cons_zero, List.set_cons_succ, List.getElem?_cons_zero, R.bind_ok, Cst.d, u1, addI, x1, dKey]
    · have c2 : evT (clF Γ j) (.cmp .eq (.var 1) (.cst (.int 1))) [some (.ref n), some (.int r)] s1 = .ok false s1 := numI rfl (by simp [h1])
      obtain ⟨u, s2, u1, u2, u3, u4⟩ := drawR b (k := j) (by omega) (m := 7) r4.pool (by decide) (smallI (by decide) (by decide))
      refine ⟨.inl (u - 3), s2, call_rt b.h315 (τ := [some (.ref n), none]) rfl rfl ((exs_asg e0).trans ((exs_skip c1).trans ((exs_skip c2).trans (exs_ret ?_)))), ⟨by omega, by omega⟩, r4.trans u4⟩
      simp only [evE, ev, evs, plainT, List.set_cons_zero, List.set_cons_succ, List.getElem?_cons_zero, R.bind_ok, Cst.d, u1, subI, dKey]
end
/-! ### rows compared, rows in lists -/
theorem eqv_key (x y : Key) : PyData.eqv (keyP x) (keyP y) = decide (x = y) := by
  cases x with
  | inl i => cases y with
    | inl j => simp only [keyP]; rw [eqv_int]; by_cases e : i = j <;> simp [e]
    | inr y => simp [keyP, PyData.eqv]
  | inr x => cases y with
    | inl j => simp [keyP, PyData.eqv]
    | inr y => simp only [keyP]; rw [eqv_str]; by_cases e : x = y <;> simp [e]
theorem eqv_keys : ∀ a b : Row, PyData.eqvAll (a.map keyP) (b.map keyP) = decide (a = b)
  | [], [] => by simp [PyData.eqvAll]
  | [], y :: b => by simp [PyData.eqvAll]
  | x :: a, [] => by simp [PyData.eqvAll]
  | x :: a, y :: b => by
    simp only [List.map_cons, PyData.eqvAll, eqv_key, eqv_keys a b]
    by_cases e1 : x = y <;> by_cases e2 : a = b <;> simp [e1, e2]
theorem eqv_row (a b : Row) : PyData.eqv (rowP a) (rowP b) = decide (a = b) := by simp only [rowP, PyData.eqv, eqv_keys]
theorem lay_key {k : Key} (h : AscK k) : PyData.canLay0 (keyP k) = true := by
  cases k with
  | inl i => rfl
  | inr x => exact asc_ok h
theorem lay_keys : ∀ {r : Row}, AscR r → PyData.canLayAll0 (r.map keyP) = true
  | [], _ => rfl
  | k :: r, h => by simp only [List.map_cons, PyData.canLayAll0, lay_key (h k (by simp)), lay_keys (r := r) fun z hz => h z (by simp [hz]), Bool.and_self]
theorem dep_keys : ∀ r : Row, PyData.depthAll (r.map keyP) = 0
  | [] => by simp [PyData.depthAll]
  | k :: r => by cases k <;> simp [PyData.depthAll, PyData.depth, keyP, dep_keys r]
theorem lay_row {r : Row} (h : AscR r) : PyData.canLay0 (rowP r) = true ∧ PyData.depth (rowP r) = 1 := ⟨by simp only [rowP, PyData.canLay0, lay_keys h], by simp only [rowP, PyData.depth, dep_keys]⟩
theorem lay_rows : ∀ {rows : List Row}, (∀ r ∈ rows, AscR r) → PyData.canLayAll0 (rows.map rowP) = true ∧ PyData.depthAll (rows.map rowP) ≤ 1
  | [], _ => ⟨rfl, by simp [PyData.depthAll]⟩
  | r :: rows, h => by
    obtain ⟨h1, h2⟩ := lay_row (h r (by simp))
    obtain ⟨h3, h4⟩ := lay_rows (rows := rows) fun z hz => h z (by simp [hz])
    exact ⟨by simp only [List.map_cons, PyData.canLayAll0, h1, h3, Bool.and_self], by simp only [List.map_cons, PyData.depthAll]; omega⟩
theorem shp_row {r : Row} (h : AscR r) : SeqAt.shaped (rowP r) = true := by
  obtain ⟨h1, h2⟩ := lay_row h
  unfold SeqAt.shaped
  simp only [h1, h2, Bool.true_and]; decide
theorem shp_rows {rows : List Row} (h : ∀ r ∈ rows, AscR r) : SeqAt.shaped (.list (rows.map rowP)) = true := by
  obtain ⟨h1, h2⟩ := lay_rows h
  have h3 : PyData.depth (.list (rows.map rowP)) ≤ 2 := by simp only [PyData.depth]; omega
  have h4 : PyData.canLay0 (.list (rows.map rowP)) = true := by simp only [PyData.canLay0, h1]
  unfold SeqAt.shaped
  simp only [h4, Bool.true_and, decide_eq_true_eq]
  omega
theorem toPs_rowsD (m : Nat) (s : S) : ∀ rows : List Row, toPs (m + 1) s (rows.map rowD) = some (rows.map rowP)
  | [] => by simp only [List.map_nil, toPs]
  | r :: rows => by simp only [List.map_cons, toPs, toP_row, toPs_rowsD m s rows]
section
variable {s : S} {n m : Nat} {rows rows2 : List Row}
/-- row in a list of rows -/
theorem in_rows (h : s[n]? = some (.lst (rows.map rowD))) (hr : ∀ r ∈ rows, AscR r) {r : Row} (ha : AscR r) : inD (rowD r) (.ref n) s = .ok (hasR rows r) s := by
  have e : inD (rowD r) (.ref n) s = (match toP 60 s (rowD r), toP 60 s (.ref n) with
    | some d, some (.list ds) => if SeqAt.shaped d = true ∧ SeqAt.shaped (.list ds) = true then .ok (ds.any fun z => PyData.eqv z d) s else .bad
    | _, _ => .bad) := by simp only [rowD, inD, h] <;> rfl
  rw [e, toP_row 59 s r, toP_ref h, toPs_rowsD 58 s rows]
  simp only [Option.map_some]
  rw [if_pos ⟨shp_row ha, shp_rows hr⟩]
  congr 1
  unfold hasR
  rw [List.any_map]
  congr 1
  funext z
  exact eqv_row z r
theorem nin_rows (h : s[n]? = some (.lst (rows.map rowD))) (hr : ∀ r ∈ rows, AscR r) {r : Row} (ha : AscR r) : cmpD .nin (rowD r) (.ref n) s = .ok (!hasR rows r) s := by
  show (inD (rowD r) (.ref n) s).bind _ = _
  rw [in_rows h hr ha]; rfl
/-- two lists with the same rows -/
theorem eq_rows (h1 : s[n]? = some (.lst (rows.map rowD))) (h2 : s[m]? = some (.lst (rows.map rowD))) (hr : ∀ r ∈ rows, AscR r) : eqD (.ref n) (.ref m) s = .ok true s := by
  rw [eqD_lst h1]
  simp only [eqP, toP_ref h1, toP_ref h2, toPs_rowsD, Option.map_some]
  rw [if_pos ⟨shp_rows hr, shp_rows hr⟩, SeqAt.eqv_refl _ (by simp only [PyData.canLay0, (lay_rows hr).1])]
theorem eq_keys {x y : Key} (hx : AscK x) (hy : AscK y) : eqD (dKey x) (dKey y) s = .ok (decide (x = y)) s := by
  have e : eqD (dKey x) (dKey y) s = eqP (dKey x) (dKey y) s := by cases x <;> rfl
  have sh : ∀ {z : Key}, AscK z → SeqAt.shaped (keyP z) = true := fun {z} h => by
    unfold SeqAt.shaped
    simp only [lay_key h, Bool.true_and]
    cases z <;> simp [keyP, PyData.depth] <;> decide
  rw [e]
  simp only [eqP, toP_key]
  rw [if_pos ⟨sh hx, sh hy⟩, eqv_key]
end
end SL

set_option Elab.async false
set_option linter.all false
set_option maxRecDepth 100000
set_option autoImplicit false
set_option maxHeartbeats 4000000
namespace K02
open PySem PySem.Spec PyProof.Rows L2 G
def top (i : Nat) : Stmt := PySem.Challenge.pw_cappedcalls_k02_sorted_rows.main.body.getD i (.Pass ⟨0, 0, 0, 0⟩)
def meth (i j : Nat) : Stmt := match top i with
  | .ClassDef _ _ _ b _ _ _ _ _ _ _ => b.getD j (.Pass ⟨0, 0, 0, 0⟩)
  | x => x
/-- 454: value_key -/
def b454 : Cms := .cons (.ite (.isi (.var 0) .str) (.cons (.ret (.tup (.cons (.cst (.int 1)) (.cons (.cst (.int 0)) (.cons (.var 0) .nil))))) .nil) (.nil))
    (.cons (.ret (.tup (.cons (.cst (.int 0)) (.cons (.var 0) (.cons (.cst (.str "")) .nil))))) .nil)
def f454 : Fn := ⟨1, 1, b454⟩
abbrev s454 : Stmt := top 1
def d454 : Df := ⟨454, "value_key", "value_key", ["value"], ["value"], s454, f454⟩
/-- 430: row_key -/
def b430 : Cms := .cons (.ret (.lc (.call 454 (.cons (.var 1) .nil)) (.var 1) .seq (.cons (.var 0) .nil) .nop [("value", 1)])) .nil
def f430 : Fn := ⟨1, 2, b430⟩
abbrev s430 : Stmt := top 2
def d430 : Df := ⟨430, "row_key", "row_key", ["row", "value"], ["row"], s430, f430⟩
/-- 438: sorted_rows -/
def b438 : Cms := .cons (.asg (.loc (.var 1)) .set0)
    (.cons (.asg (.loc (.var 2)) (.lst .nil))
    (.cons (.for_ (.var 3) .seq (.cons (.var 0) .nil) (.cons (.ite (.rin true (.var 3) (.var 1)) (.cons (.expr (.sadd (.var 1) (.var 3)))
    (.cons (.expr (.meth .append (.var 2) (.cons (.var 3) .nil))) .nil)) (.nil)) .nil))
    (.cons (.ret (.srk 430 (.var 2))) .nil)))
def f438 : Fn := ⟨1, 4, b438⟩
abbrev s438 : Stmt := top 3
def d438 : Df := ⟨438, "sorted_rows", "sorted_rows", ["rows", "seen", "result", "row"], ["rows"], s438, f438⟩
/-- 252: _law_pool -/
def b252 : Cms := .cons (.ret (.bin .add (.lst (.cons (.cst (.int 0)) (.cons (.cst (.int 4)) (.cons (.cst (.int 5)) (.cons (.cst (.int 0)) .nil))))) (.lc (.blt .int (.cons (.var 1) .nil)) (.var 1) .seq (.cons (.var 0) .nil) .nop [("_law_cell", 1)]))) .nil
def f252 : Fn := ⟨1, 2, b252⟩
abbrev s252 : Stmt := top 5
def d252 : Df := ⟨252, "_law_pool", "_law_pool", ["_law_script", "_law_cell"], ["_law_script"], s252, f252⟩
/-- 224: _law_mixed -/
def b224 : Cms := .cons (.asg (.loc (.var 2)) (.bin .mod (.blt .int (.cons (.bin .mul (.bin .add (.bin .add (.var 0) (.bin .mul (.cst (.int 7919)) (.var 1))) (.cst (.int 1))) (.cst (.int 48271))) .nil)) (.cst (.int 2147483647))))
    (.cons (.asg (.loc (.var 2)) (.bin .mod (.blt .int (.cons (.bin .mul (.var 2) (.bin .add (.bin .fdiv (.var 2) (.cst (.int 1009))) (.cst (.int 69621)))) .nil)) (.cst (.int 2147483647))))
    (.cons (.ret (.bin .mod (.blt .int (.cons (.bin .mul (.var 2) (.bin .add (.bin .fdiv (.var 2) (.cst (.int 2003))) (.cst (.int 40692)))) .nil)) (.cst (.int 2147483399)))) .nil))
def f224 : Fn := ⟨2, 3, b224⟩
abbrev s224 : Stmt := top 6
def d224 : Df := ⟨224, "_law_mixed", "_law_mixed", ["_law_seed", "_law_count", "_law_number"], ["_law_seed", "_law_count"], s224, f224⟩
/-- 148: _law_draw -/
def b148 : Cms := .cons (.asg (.sub (.var 0) (.cst (.int 3))) (.bin .add (.ix (.var 0) (.cst (.int 3))) (.cst (.int 1))))
    (.cons (.ite (.and (.cmp .eq (.ix (.var 0) (.cst (.int 0))) (.cst (.int 0))) (.cmp .lt (.ix (.var 0) (.cst (.int 1))) (.blt .len (.cons (.var 0) .nil)))) (.cons (.asg (.loc (.var 2)) (.blt .abs (.cons (.ix (.var 0) (.ix (.var 0) (.cst (.int 1)))) .nil)))
    (.cons (.asg (.sub (.var 0) (.cst (.int 1))) (.bin .add (.ix (.var 0) (.cst (.int 1))) (.cst (.int 1))))
    (.cons (.ite (.cmp .lt (.var 2) (.bin .pow (.cst (.int 10)) (.cst (.int 18)))) (.cons (.asg (.sub (.var 0) (.cst (.int 2))) (.bin .mod (.blt .int (.cons (.bin .add (.bin .add (.bin .mul (.ix (.var 0) (.cst (.int 2))) (.cst (.int 7919))) (.var 2)) (.cst (.int 1))) .nil)) (.cst (.int 2147483647)))) .nil) (.cons (.asg (.sub (.var 0) (.cst (.int 0))) (.var 2)) .nil)) .nil))) (.nil))
    (.cons (.ite (.cmp .gt (.ix (.var 0) (.cst (.int 0))) (.cst (.int 0))) (.cons (.asg (.loc (.var 3)) (.bin .mod (.blt .int (.cons (.ix (.var 0) (.cst (.int 0))) .nil)) (.var 1)))
    (.cons (.asg (.sub (.var 0) (.cst (.int 0))) (.bin .fdiv (.ix (.var 0) (.cst (.int 0))) (.var 1)))
    (.cons (.ret (.var 3)) .nil))) (.nil))
    (.cons (.ret (.bin .mod (.blt .int (.cons (.call 224 (.cons (.ix (.var 0) (.cst (.int 2))) (.cons (.ix (.var 0) (.cst (.int 3))) .nil))) .nil)) (.var 1))) .nil)))
def f148 : Fn := ⟨2, 4, b148⟩
abbrev s148 : Stmt := top 7
def d148 : Df := ⟨148, "_law_draw", "_law_draw", ["_law_pool_here", "_law_many", "_law_cell", "_law_found"], ["_law_pool_here", "_law_many"], s148, f148⟩
/-- 325: _law_word -/
def b325 : Cms := .cons (.asg (.loc (.var 2)) (.cst (.str "abcdefghijklmnopqrstuvwxyz")))
    (.cons (.asg (.loc (.var 3)) (.cst (.str "")))
    (.cons (.for_ (.var 4) .rng1 (.cons (.var 1) .nil) (.cons (.asg (.loc (.var 3)) (.bin .add (.var 3) (.ix (.var 2) (.call 148 (.cons (.var 0) (.cons (.cst (.int 26)) .nil)))))) .nil))
    (.cons (.ret (.var 3)) .nil)))
def f325 : Fn := ⟨2, 5, b325⟩
abbrev s325 : Stmt := top 8
def d325 : Df := ⟨325, "_law_word", "_law_word", ["_law_pool_here", "_law_many", "_law_letters", "_law_word_here", "_law_k"], ["_law_pool_here", "_law_many"], s325, f325⟩
/-- 315: _law_value -/
def b315 : Cms := .cons (.asg (.loc (.var 1)) (.call 148 (.cons (.var 0) (.cons (.cst (.int 4)) .nil))))
    (.cons (.ite (.cmp .eq (.var 1) (.cst (.int 0))) (.cons (.ret (.bin .sub (.call 148 (.cons (.var 0) (.cons (.bin .sub (.bin .mul (.cst (.int 2)) (.bin .pow (.cst (.int 10)) (.cst (.int 30)))) (.cst (.int 1))) .nil))) (.bin .sub (.bin .pow (.cst (.int 10)) (.cst (.int 30))) (.cst (.int 1))))) .nil) (.nil))
    (.cons (.ite (.cmp .eq (.var 1) (.cst (.int 1))) (.cons (.ret (.call 325 (.cons (.var 0) (.cons (.bin .add (.cst (.int 1)) (.call 148 (.cons (.var 0) (.cons (.cst (.int 8)) .nil)))) .nil)))) .nil) (.nil))
    (.cons (.ret (.bin .sub (.call 148 (.cons (.var 0) (.cons (.cst (.int 7)) .nil))) (.cst (.int 3)))) .nil)))
def f315 : Fn := ⟨1, 2, b315⟩
abbrev s315 : Stmt := top 9
def d315 : Df := ⟨315, "_law_value", "_law_value", ["_law_pool_here", "_law_kind"], ["_law_pool_here"], s315, f315⟩
/-- 214: _law_less -/
def b214 : Cms := .cons (.for_ (.var 2) .rng1 (.cons (.blt .min (.cons (.blt .len (.cons (.var 0) .nil)) (.cons (.blt .len (.cons (.var 1) .nil)) .nil))) .nil) (.cons (.asg (.loc (.var 3)) (.ix (.var 0) (.var 2)))
    (.cons (.asg (.loc (.var 4)) (.ix (.var 1) (.var 2)))
    (.cons (.ite (.cmp .ne (.var 3) (.var 4)) (.cons (.ite (.cmp .ne (.isi (.var 3) .str) (.isi (.var 4) .str)) (.cons (.ret (.isi (.var 4) .str)) .nil) (.nil))
    (.cons (.ret (.cmp .lt (.var 3) (.var 4))) .nil)) (.nil)) .nil))))
    (.cons (.ret (.cmp .lt (.blt .len (.cons (.var 0) .nil)) (.blt .len (.cons (.var 1) .nil)))) .nil)
def f214 : Fn := ⟨2, 5, b214⟩
abbrev s214 : Stmt := top 10
def d214 : Df := ⟨214, "_law_less", "_law_less", ["_law_one", "_law_other", "_law_at", "_law_left", "_law_right"], ["_law_one", "_law_other"], s214, f214⟩
/-- 178: _law_holds -/
def b178 : Cms := .cons (.ite (.not (.isi (.var 0) .list)) (.cons (.ret (.cst (.bl false))) .nil) (.nil))
    (.cons (.for_ (.var 2) .rng1 (.cons (.blt .len (.cons (.var 0) .nil)) .nil) (.cons (.ite (.or (.not (.isi (.ix (.var 0) (.var 2)) .tuple)) (.cmp .nin (.ix (.var 0) (.var 2)) (.var 1))) (.cons (.ret (.cst (.bl false))) .nil) (.nil))
    (.cons (.ite (.and (.cmp .gt (.var 2) (.cst (.int 0))) (.not (.call 214 (.cons (.ix (.var 0) (.bin .sub (.var 2) (.cst (.int 1)))) (.cons (.ix (.var 0) (.var 2)) .nil))))) (.cons (.ret (.cst (.bl false))) .nil) (.nil)) .nil)))
    (.cons (.ret (.cmp .eq (.lc (.var 3) (.var 3) .seq (.cons (.var 1) .nil) (.cmp .nin (.var 3) (.var 0)) [("_law_row", 3)]) (.lst .nil))) .nil))
def f178 : Fn := ⟨2, 4, b178⟩
abbrev s178 : Stmt := top 11
def d178 : Df := ⟨178, "_law_holds", "_law_holds", ["_law_actual", "_law_rows", "_law_at", "_law_row"], ["_law_actual", "_law_rows"], s178, f178⟩
/-- 397: law -/
def b397 : Cms := .cons (.asg (.loc (.var 1)) (.call 252 (.cons (.var 0) .nil)))
    (.cons (.asg (.loc (.var 2)) (.call 148 (.cons (.var 1) (.cons (.cst (.int 2)) .nil))))
    (.cons (.asg (.loc (.var 3)) (.lc (.call 315 (.cons (.var 1) .nil)) (.var 5) .rng1 (.cons (.bin .add (.cst (.int 1)) (.call 148 (.cons (.var 1) (.cons (.cst (.int 4)) .nil)))) .nil) .nop [("_law_k", 5)]))
    (.cons (.asg (.loc (.var 4)) (.lst .nil))
    (.cons (.for_ (.var 5) .rng1 (.cons (.call 148 (.cons (.var 1) (.cons (.cst (.int 13)) .nil))) .nil) (.cons (.asg (.loc (.var 8)) (.call 148 (.cons (.var 1) (.cons (.cst (.int 5)) .nil))))
    (.cons (.expr (.meth .append (.var 4) (.cons (.blt .tuple (.cons (.lc (.ix (.var 3) (.call 148 (.cons (.var 1) (.cons (.blt .len (.cons (.var 3) .nil)) .nil)))) (.var 9) .rng1 (.cons (.var 8) .nil) .nop [("_law_at", 9)]) .nil)) .nil))) .nil)))
    (.cons (.ite (.and (.cmp .eq (.var 2) (.cst (.int 1))) (.cmp .gt (.blt .len (.cons (.var 4) .nil)) (.cst (.int 0)))) (.cons (.expr (.meth .insert (.var 4) (.cons (.call 148 (.cons (.var 1) (.cons (.bin .add (.blt .len (.cons (.var 4) .nil)) (.cst (.int 1))) .nil))) (.cons (.ix (.var 4) (.call 148 (.cons (.var 1) (.cons (.blt .len (.cons (.var 4) .nil)) .nil)))) .nil)))) .nil) (.nil))
    (.cons (.asg (.loc (.var 6)) (.blt .list (.cons (.var 4) .nil)))
    (.cons (.asg (.loc (.var 7)) (.call 438 (.cons (.var 6) .nil)))
    (.cons (.ite (.or (.not (.call 178 (.cons (.var 7) (.cons (.var 4) .nil)))) (.cmp .ne (.var 6) (.var 4))) (.cons (.ret (.cst (.bl false))) .nil) (.nil))
    (.cons (.expr (.meth .append (.var 7) (.cons (.tup (.cons (.cst (.int 0)) (.cons (.cst (.int 0)) (.cons (.cst (.int 0)) (.cons (.cst (.int 0)) (.cons (.cst (.int 0)) .nil)))))) .nil)))
    (.cons (.ret (.and (.call 178 (.cons (.call 438 (.cons (.var 6) .nil)) (.cons (.var 4) .nil))) (.cmp .eq (.var 6) (.var 4)))) .nil))))))))))
def f397 : Fn := ⟨1, 10, b397⟩
abbrev s397 : Stmt := top 12
def d397 : Df := ⟨397, "law", "law", ["_law_script", "_law_pool_here", "_law_twice", "_law_palette", "_law_rows", "_law_k", "_law_given", "_law_first", "_law_width", "_law_at"], ["_law_script"], s397, f397⟩
def ga : Ga := ⟨[(454, f454), (430, f430), (438, f438), (252, f252), (224, f224), (148, f148), (325, f325), (315, f315), (214, f214), (178, f178), (397, f397)], [], [], []⟩
def dfs : List Df := [d454, d430, d438, d252, d224, d148, d325, d315, d214, d178, d397]
def nm : Nm := ⟨[(454, "value_key"), (430, "row_key"), (438, "sorted_rows"), (252, "_law_pool"), (224, "_law_mixed"), (148, "_law_draw"), (325, "_law_word"), (315, "_law_value"), (214, "_law_less"), (178, "_law_holds"), (397, "law")], [], [], []⟩
theorem ok454 : okD nm d454 = true := by decide +kernel
theorem ok430 : okD nm d430 = true := by decide +kernel
theorem ok438 : okD nm d438 = true := by decide +kernel
theorem ok252 : okD nm d252 = true := by decide +kernel
theorem ok224 : okD nm d224 = true := by decide +kernel
theorem ok148 : okD nm d148 = true := by decide +kernel
theorem ok325 : okD nm d325 = true := by decide +kernel
theorem ok315 : okD nm d315 = true := by decide +kernel
theorem ok214 : okD nm d214 = true := by decide +kernel
theorem ok178 : okD nm d178 = true := by decide +kernel
theorem ok397 : okD nm d397 = true := by decide +kernel
end K02

set_option Elab.async false
set_option linter.all false
set_option maxRecDepth 100000
set_option autoImplicit false
set_option maxHeartbeats 1000000
/-! K02l: the law of sorted rows. -/
namespace K02
open PySem L2 G SL
theorem bv : SL.BV ga := ⟨rfl, rfl, rfl⟩
theorem br : SL.BR ga := ⟨rfl, rfl, rfl, rfl, rfl⟩
/-! ### _law_less -/
def goL : Row → Row → Option Bool
  | x :: a, y :: b => if x = y then goL a b else some (keyLt x y)
  | _, _ => none
theorem goL_lt : ∀ a b : Row, rowLtB a b = (goL a b).getD (decide (a.length < b.length))
  | [], [] => rfl
  | [], y :: b => by simp [rowLtB, goL]
  | x :: a, [] => by simp [rowLtB, goL]
  | x :: a, y :: b => by
    unfold rowLtB goL
    by_cases e : x = y
    · rw [if_pos e, if_pos e, goL_lt a b]; simp
    · rw [if_neg e, if_neg e]; rfl
theorem goL_nil {a b : Row} (h : a = [] ∨ b = []) : goL a b = none := by
  rcases h with rfl | rfl
  · rfl
  · cases a <;> rfl
def isS : Key → Bool
  | .inl _ => false
  | .inr _ => true
theorem isi_key (x : Key) (s : S) : isiD .str (dKey x) s = .ok (isS x) s := by cases x <;> rfl
theorem eq_bb (a b : Bool) (s : S) : eqD (.bl a) (.bl b) s = .ok (a == b) s := by
  cases a <;> cases b <;> simp [eqD, eqP, toP, SeqAt.shaped, PyData.canLay0, PyData.depth, PyData.eqv]
def lessBody : Cms := .cons (.asg (.loc (.var 3)) (.ix (.var 0) (.var 2)))
    (.cons (.asg (.loc (.var 4)) (.ix (.var 1) (.var 2)))
    (.cons (.ite (.cmp .ne (.var 3) (.var 4)) (.cons (.ite (.cmp .ne (.isi (.var 3) .str) (.isi (.var 4) .str)) (.cons (.ret (.isi (.var 4) .str)) .nil) (.nil))
    (.cons (.ret (.cmp .lt (.var 3) (.var 4))) .nil)) (.nil)) .nil))
section
variable {cl : CL} {s : S} {a b : Row}
theorem ix_row {r : Row} {i : Nat} {x : Key} (h : r[i]? = some x) : ixD (rowD r) (.int ((0 : Int) + (i : Nat))) s = .ok (dKey x) s := ixD_tup (by omega) (by
  rw [show ((0 : Int) + (i : Nat)).toNat = i by omega, List.getElem?_map, h]; rfl)
theorem less_loop {ok : S → Prop} (hok : ok s) (ha : AscR a) (hb : AscR b) : ∀ (n i : Nat) (v2 v3 v4 : Option D), i + n = min a.length b.length → ∃ u2 u3 u4 : Option D, forS ok (forB cl (.var 2) lessBody) ((List.range' i n).map fun k => D.int ((0 : Int) + (k : Nat))) [some (rowD a), some (rowD b), v2, v3, v4] s
      = (match goL (a.drop i) (b.drop i) with | some r => .rt (.bl r) s | none => .nx [some (rowD a), some (rowD b), u2, u3, u4] s)
  | 0, i, v2, v3, v4, h => by
    refine ⟨v2, v3, v4, ?_⟩
    rw [goL_nil (by
      rcases Nat.le_total a.length b.length with q | q
      · exact .inl (List.drop_eq_nil_of_le (by omega))
      · exact .inr (List.drop_eq_nil_of_le (by omega)))]
    exact forS_nil hok
  | n + 1, i, v2, v3, v4, h => by
    have la : i < a.length := by omega
    have lb : i < b.length := by omega
    obtain ⟨x, hx⟩ : ∃ x, a[i]? = some x := ⟨_, List.getElem?_eq_getElem la⟩
    obtain ⟨y, hy⟩ : ∃ y, b[i]? = some y := ⟨_, List.getElem?_eq_getElem lb⟩
    have dx : a.drop i = x :: a.drop (i + 1) := by rw [List.drop_eq_getElem_cons la]; rw [List.getElem?_eq_getElem la] at hx; rw [Option.some.inj hx]
    have dy : b.drop i = y :: b.drop (i + 1) := by rw [List.drop_eq_getElem_cons lb]; rw [List.getElem?_eq_getElem lb] at hy; rw [Option.some.inj hy]
    have ax := ha x (List.mem_of_getElem? hx)
    have ay := hb y (List.mem_of_getElem? hy)
    have i1 := ix_row (s := s) hx
    have i2 := ix_row (s := s) hy
    have p : ∀ cs, exs cl (.cons (.asg (.loc (.var 3)) (.ix (.var 0) (.var 2))) (.cons (.asg (.loc (.var 4)) (.ix (.var 1) (.var 2))) cs)) [some (rowD a), some (rowD b), some (.int ((0 : Int) + (i : Nat))), v3, v4] s = exs cl cs [some (rowD a), some (rowD b), some (.int ((0 : Int) + (i : Nat))), some (dKey x), some (dKey y)] s := fun cs => by
      refine (exs_asg (d := dKey x) (s' := s) ?_).trans (exs_asg (d := dKey y) (s' := s) ?_)
      · simp only [evE, ev, plainT, List.getElem?_cons_zero, List.getElem?_cons_succ, R.bind_ok, i1]
      · simp only [evE, ev, plainT, List.set_cons_zero, List.set_cons_succ, List.getElem?_cons_zero, List.getElem?_cons_succ, R.bind_ok, i2]
    have c : evT cl (.cmp .ne (.var 3) (.var 4)) [some (rowD a), some (rowD b), some (.int ((0 : Int) + (i : Nat))), some (dKey x), some (dKey y)] s = .ok (!decide (x = y)) s := by
      simp only [evT, ev, plainT, asB, List.getElem?_cons_zero, List.getElem?_cons_succ, R.bind_ok, cmpD, eq_keys ax ay]
    rw [List.range'_succ, List.map_cons, dx, dy, goL]
    by_cases e : x = y
    · rw [if_pos e]
      rw [decide_eq_true e] at c
      obtain ⟨u2, u3, u4, h'⟩ := less_loop hok ha hb n (i + 1) (some (.int ((0 : Int) + (i : Nat)))) (some (dKey x)) (some (dKey y)) (by omega)
      refine ⟨u2, u3, u4, (forS_nx hok ?_).trans h'⟩
      rw [forB_var]
      exact (p _).trans ((exs_skip c).trans rfl)
    · rw [if_neg e]
      rw [decide_eq_false e] at c
      refine ⟨none, none, none, forS_rt hok ?_⟩
      rw [forB_var]
      refine (p _).trans (exs_in c ?_)
      have c2 : evT cl (.cmp .ne (.isi (.var 3) .str) (.isi (.var 4) .str)) [some (rowD a), some (rowD b), some (.int ((0 : Int) + (i : Nat))), some (dKey x), some (dKey y)] s = .ok (!(isS x == isS y)) s := by
        simp only [evT, ev, plainT, asB, List.getElem?_cons_zero, List.getElem?_cons_succ, R.bind_ok, isi_key, cmpD, eq_bb]
      have r1 : evE cl (.isi (.var 4) .str) [some (rowD a), some (rowD b), some (.int ((0 : Int) + (i : Nat))), some (dKey x), some (dKey y)] s = .ok (.bl (isS y)) s := by
        simp only [evE, ev, plainT, asB, List.getElem?_cons_zero, List.getElem?_cons_succ, R.bind_ok, isi_key]
      cases x with
      | inl i' => cases y with
        | inl j' => exact (exs_skip c2).trans (exs_ret rfl)
        | inr y' => exact exs_in c2 (exs_ret r1)
      | inr x' => cases y with
        | inl j' => exact exs_in c2 (exs_ret r1)
        | inr y' => exact (exs_skip c2).trans (exs_ret rfl)
end
theorem less_ok {k : Nat} (hk : 1 ≤ k) {s : S} {a b : Row} (ha : AscR a) (hb : AscR b) (la : a.length < 2 ^ 20) (lb : b.length < 2 ^ 20) : (clF ga k).call 214 [rowD a, rowD b] s = .ok (.bl (rowLtB a b)) s := by
  obtain ⟨j, rfl, hj⟩ := lv hk
  have l1 : bltD .len [rowD a] s = .ok (.int (a.length : Nat)) s := by simp only [rowD, bltD, dctOf, seqOf, List.length_map]
  have l2 : bltD .len [rowD b] s = .ok (.int (b.length : Nat)) s := by simp only [rowD, bltD, dctOf, seqOf, List.length_map]
  have mn : bltD .min [.int (a.length : Nat), .int (b.length : Nat)] s = .ok (.int ((min a.length b.length : Nat) : Int)) s := by
    simp only [bltD]
    congr 2
    split <;> omega
  obtain ⟨v2, v3, v4, lp⟩ := less_loop (cl := clF ga j) (ok := (Src.vals (rngD 0 ((min a.length b.length : Nat) : Int).toNat)).ok) (s := s) trivial ha hb (min a.length b.length) 0 none none none (by omega)
  have fo := (ex_for (cl := clF ga j) (τ := [some (rowD a), some (rowD b), none, none, none]) (s := s) (t := .var 2) (k := .rng1) (body := lessBody) (its := .cons (.blt .min (.cons (.blt .len (.cons (.var 0) .nil)) (.cons (.blt .len (.cons (.var 1) .nil)) .nil))) .nil) (ds := [.int ((min a.length b.length : Nat) : Int)]) (s1 := s) (src := .vals (rngD 0 ((min a.length b.length : Nat) : Int).toNat)) (by
    simp only [evs, ev, plainT, List.getElem?_cons_zero, List.getElem?_cons_succ, R.bind_ok, l1, l2, mn]) (src_rng (by omega) (by omega) s))
  have it : (Src.vals (rngD 0 ((min a.length b.length : Nat) : Int).toNat)).items = (List.range' 0 (min a.length b.length)).map fun k => D.int ((0 : Int) + (k : Nat)) := by
    show rngD 0 _ = _
    unfold rngD
    rw [Int.toNat_natCast, List.range_eq_range']
  rw [it, lp, List.drop_zero, List.drop_zero] at fo
  rw [goL_lt]
  refine call_rt (f := 214) (fn := f214) rfl (τ := [some (rowD a), some (rowD b), none, none, none]) rfl rfl ?_
  cases hg : goL a b with
  | some r =>
    rw [hg] at fo
    exact exs_rt fo
  | none =>
    rw [hg] at fo
    simp only at fo
    refine (exs_nx fo).trans (exs_ret ?_)
    simp only [evE, ev, evs, plainT, asB, List.getElem?_cons_zero, List.getElem?_cons_succ, R.bind_ok, l1, l2, cmpD, ltD, Option.getD_none]
    congr 2
    by_cases h : a.length < b.length
    · rw [decide_eq_true h, decide_eq_true (by omega)]
    · rw [decide_eq_false h, decide_eq_false (by omega)]
/-! ### _law_holds -/
def holdBody : Cms := .cons (.ite (.or (.not (.isi (.ix (.var 0) (.var 2)) .tuple)) (.cmp .nin (.ix (.var 0) (.var 2)) (.var 1))) (.cons (.ret (.cst (.bl false))) .nil) (.nil))
    (.cons (.ite (.and (.cmp .gt (.var 2) (.cst (.int 0))) (.not (.call 214 (.cons (.ix (.var 0) (.bin .sub (.var 2) (.cst (.int 1)))) (.cons (.ix (.var 0) (.var 2)) .nil))))) (.cons (.ret (.cst (.bl false))) .nil) (.nil)) .nil)
structure RowsOk (rows : List Row) : Prop where
  asc : ∀ r ∈ rows, AscR r
  len : ∀ r ∈ rows, r.length < 2 ^ 20
  few : rows.length < 63
theorem holds_ok {k : Nat} (hk : 2 ≤ k) {s : S} {p q : Nat} {L rows : List Row} (hp : s[p]? = some (.lst (L.map rowD))) (hq : s[q]? = some (.lst (rows.map rowD))) (ro : RowsOk rows) (lt : L.Pairwise (fun a b => rowLtB a b = true)) (mem : ∀ r, r ∈ L ↔ r ∈ rows) (hl : L.length < 63) :
    ∃ s', Gp s s' ∧ (clF ga k).call 178 [.ref p, .ref q] s = .ok (.bl true) s' := by
  obtain ⟨j, rfl, hj⟩ := lv hk
  have ascL : ∀ r ∈ L, AscR r := fun r hr => ro.asc r ((mem r).mp hr)
  have il : isiD .list (.ref p) s = .ok true s := by simp only [isiD, hp]; rfl
  have len := len_lst hp
  rw [List.length_map] at len
  have fl : L.length < 2 ^ 62 := Nat.lt_trans hl (by decide)
  obtain ⟨τ', s', lp, ⟨x, rfl⟩, rfl⟩ := forS_inv (ok := (Src.vals (rngD 0 ((L.length : Nat) : Int).toNat)).ok) (g := forB (clF ga j) (.var 2) holdBody) (items := rngD 0 ((L.length : Nat) : Int).toNat) (τ := [some (.ref p), some (.ref q), none, none]) (s := s)
    (fun i τ s' => (∃ x, τ = [some (.ref p), some (.ref q), x, none]) ∧ s' = s) (fun _ _ _ _ => trivial) (fun i d τ s' hi ⟨⟨x, hτ⟩, hs'⟩ => by
      subst hτ hs'
      obtain ⟨hil, rfl⟩ := rng_at hi
      rw [Int.toNat_natCast] at hil
      obtain ⟨r, hr⟩ : ∃ r, L[i]? = some r := ⟨_, List.getElem?_eq_getElem hil⟩
      have rin := List.mem_of_getElem? hr
      have ix : ixD (.ref p) (.int ((0 : Int) + (i : Nat))) s' = .ok (rowD r) s' := ixD_ref hp (by omega) (by rw [show ((0 : Int) + (i : Nat)).toNat = i by omega, List.getElem?_map, hr]; rfl)
      have ni := nin_rows hq ro.asc (r := r) (ascL r rin)
      rw [hasR_iff.mpr ((mem r).mp rin)] at ni
      have it : isiD .tuple (rowD r) s' = .ok true s' := rfl
      have c1 : evT (clF ga j) (.or (.not (.isi (.ix (.var 0) (.var 2)) .tuple)) (.cmp .nin (.ix (.var 0) (.var 2)) (.var 1))) [some (.ref p), some (.ref q), some (.int ((0 : Int) + (i : Nat))), none] s' = .ok false s' := by
        simp only [evT, ev, plainT, asB, List.getElem?_cons_zero, List.getElem?_cons_succ, R.bind_ok, ix, it, truD, Bool.not_true, Bool.false_eq_true, if_false, ni]
      have c2 : evT (clF ga j) (.and (.cmp .gt (.var 2) (.cst (.int 0))) (.not (.call 214 (.cons (.ix (.var 0) (.bin .sub (.var 2) (.cst (.int 1)))) (.cons (.ix (.var 0) (.var 2)) .nil))))) [some (.ref p), some (.ref q), some (.int ((0 : Int) + (i : Nat))), none] s' = .ok false s' := by
        have g : cmpD .gt (.int ((0 : Int) + (i : Nat))) (.int 0) s' = .ok (decide ((0 : Int) < 0 + (i : Nat))) s' := rfl
        by_cases h0 : i = 0
        · subst h0
          simp only [evT, ev, plainT, asB, List.getElem?_cons_zero, List.getElem?_cons_succ, R.bind_ok, Cst.d, g]
          rfl
        · obtain ⟨r0, hr0⟩ : ∃ r0, L[i - 1]? = some r0 := ⟨_, List.getElem?_eq_getElem (by omega)⟩
          have ix0 : ixD (.ref p) (.int ((0 : Int) + (i : Nat) - 1)) s' = .ok (rowD r0) s' := ixD_ref hp (by omega) (by rw [show ((0 : Int) + (i : Nat) - 1).toNat = i - 1 by omega, List.getElem?_map, hr0]; rfl)
          have r0in := List.mem_of_getElem? hr0
          have le := less_ok (k := j) hj (s := s') (ascL r0 r0in) (ascL r rin) (ro.len r0 ((mem r0).mp r0in)) (ro.len r ((mem r).mp rin))
          have lt1 : rowLtB r0 r = true := by
            have h1 := (List.getElem?_eq_some_iff.mp hr0)
            have h2 := (List.getElem?_eq_some_iff.mp hr)
            have := List.pairwise_iff_getElem.mp lt (i - 1) i h1.1 h2.1 (by omega)
            rwa [h1.2, h2.2] at this
          rw [lt1] at le
          rw [decide_eq_true (by omega)] at g
          simp only [evT, ev, evs, plainT, asB, List.getElem?_cons_zero, List.getElem?_cons_succ, R.bind_ok, Cst.d, g, if_true, subI, ix0, ix, le, truD, Bool.not_true]
      refine ⟨[some (.ref p), some (.ref q), some (.int ((0 : Int) + (i : Nat))), none], s', ?_, ⟨_, rfl⟩, rfl⟩
      rw [forB_var]
      exact (exs_skip c1).trans ((exs_skip c2).trans rfl)) ⟨⟨none, rfl⟩, rfl⟩
  -- none is left out
  have lc : lcS (Src.lst q (rows.map rowD)).ok (lcB (clF ga j) [some (.ref p), some (.ref q), x, none] [3] (.var 3) (.cmp .nin (.var 3) (.var 0)) (.var 3)) (rows.map rowD) s' = .ok [] s' := by
    have e : (rows.map rowD).filter (fun _ => false) = [] := List.filter_eq_nil_iff.mpr (by simp)
    rw [← e]
    refine lcS_keep (lstAt_of hq) _ fun d hd => ?_
    obtain ⟨r, hr, rfl⟩ := List.mem_map.mp hd
    have ni := nin_rows hp ascL (r := r) (ro.asc r hr)
    rw [hasR_iff.mpr ((mem r).mpr hr)] at ni
    have c : evT (clF ga j) (.cmp .nin (.var 3) (.var 0)) [some (.ref p), some (.ref q), x, some (rowD r)] s' = .ok false s' := by
      simp only [evT, ev, plainT, asB, List.getElem?_cons_zero, List.getElem?_cons_succ, R.bind_ok, ni, Bool.not_true]
    exact lcB_no rfl c
  have e3 : evE (clF ga j) (.lc (.var 3) (.var 3) .seq (.cons (.var 1) .nil) (.cmp .nin (.var 3) (.var 0)) [("_law_row", 3)]) [some (.ref p), some (.ref q), x, none] s' = .ok (.ref s'.length) (s' ++ [.lst []]) :=
    ev_lc (s1 := s') (s2 := s') (ds := [.ref q]) (src := .lst q (rows.map rowD)) rfl (by simp only [srcOf, lstAt_of hq]) (by
      show (rows.map rowD).length < sizeLine
      rw [List.length_map, sizeLine_eq]; have := ro.few; omega) lc
  have g2 := Gp.new (s' ++ [.lst []]) (.lst [])
  have nil := eq_nil (s := (s' ++ [.lst []]) ++ [.lst []]) (m := s'.length) (n := (s' ++ [O.lst []]).length) (ds := []) (by simp) (g2 _ _ new_at) new_at
  refine ⟨(s' ++ [.lst []]) ++ [.lst []], (Gp.new _ _).trans g2, call_rt (f := 178) (fn := f178) rfl (τ := [some (.ref p), some (.ref q), none, none]) rfl rfl ?_⟩
  refine (exs_skip (s' := s') ?_).trans ((exs_nx (τ' := [some (.ref p), some (.ref q), x, none]) (s' := s') ?_).trans (exs_ret ?_))
  · simp only [evT, ev, plainT, asB, List.getElem?_cons_zero, R.bind_ok, il, truD, Bool.not_true]
  · exact (ex_for (ds := [.int ((L.length : Nat) : Int)]) (s1 := s') (src := .vals (rngD 0 ((L.length : Nat) : Int).toNat)) (by
      simp only [evs, ev, plainT, List.getElem?_cons_zero, R.bind_ok, len]) (src_rng (by omega) (by omega) s')).trans lp
  · have e3 : (ev (clF ga j) (.lc (.var 3) (.var 3) .seq (.cons (.var 1) .nil) (.cmp .nin (.var 3) (.var 0)) [("_law_row", 3)])).1 [some (.ref p), some (.ref q), x, none] s' = _ := e3
    have lhs : ∀ {r : R D}, ((ev (clF ga j) (.lc (.var 3) (.var 3) .seq (.cons (.var 1) .nil) (.cmp .nin (.var 3) (.var 0)) [("_law_row", 3)])).1 [some (.ref p), some (.ref q), x, none] s').bind (fun a s => ((ev (clF ga j) (.lst .nil)).1 [some (.ref p), some (.ref q), x, none] s).bind fun c s => (cmpD .eq a c s).bind fun d s => .ok (.bl d) s) = r → evE (clF ga j) (.cmp .eq (.lc (.var 3) (.var 3) .seq (.cons (.var 1) .nil) (.cmp .nin (.var 3) (.var 0)) [("_law_row", 3)]) (.lst .nil)) [some (.ref p), some (.ref q), x, none] s' = r := fun h => by
      rw [← h]
      simp only [evE, ev, asB]
      rw [R.bind_assoc]
      congr 1
    refine lhs ?_
    rw [e3]
    simp only [ev, evs, plainT, R.bind_ok, new, cmpD, nil]
    rfl
/-! ### the law -/
theorem RowsOk.sorted {rows : List Row} (ro : RowsOk rows) : (sortR (dd rows)).Pairwise (fun a b => rowLtB a b = true) ∧ (∀ r, r ∈ sortR (dd rows) ↔ r ∈ rows) ∧ (sortR (dd rows)).length < 63 := by
  refine ⟨sortR_lt (dd_nd rows), fun r => (sortR_perm _).mem_iff.trans dd_mem, ?_⟩
  rw [(sortR_perm _).length_eq]
  exact Nat.lt_of_le_of_lt (dd_len rows) ro.few
/-- one row drawn -/
theorem row_drawn {k : Nat} (hk : 2 ≤ k) {s : S} {n pal : Nat} {ks : List Key} {w : Int} {sc a2 a4 a5 : D} {v8 : Option D} (p : PoolAt n s) (hpal : s[pal]? = some (.lst (ks.map dKey))) (pn : pal ≠ n) (k1 : 1 ≤ ks.length) (k4 : ks.length ≤ 1000) (hks : ∀ x ∈ ks, ValK x) (h0 : 0 ≤ w) (h5 : w < 5) :
    ∃ r s', evE (clF ga k) (.blt .tuple (.cons (.lc (.ix (.var 3) (.call 148 (.cons (.var 1) (.cons (.blt .len (.cons (.var 3) .nil)) .nil)))) (.var 9) .rng1 (.cons (.var 8) .nil) .nop [("_law_at", 9)]) .nil)) [some sc, some (.ref n), some a2, some (.ref pal), some a4, some a5, none, none, some (.int w), none] s = .ok (rowD r) s' ∧ (∀ x ∈ r, ValK x) ∧ r.length = w.toNat ∧ Gd n [] s s' := by
  obtain ⟨rr, s2, lc, ⟨r, hr, hv, hlen⟩, g2⟩ := lcS_inv (ok := (Src.vals (rngD 0 w.toNat)).ok) (items := rngD 0 w.toNat) (s := s) (g := lcB (clF ga k) [some sc, some (.ref n), some a2, some (.ref pal), some a4, some a5, none, none, some (.int w), none] [9] (.var 9) .nop (.ix (.var 3) (.call 148 (.cons (.var 1) (.cons (.blt .len (.cons (.var 3) .nil)) .nil)))))
    (fun i rr s' => (∃ r : Row, rr = r.map dKey ∧ (∀ x ∈ r, ValK x) ∧ r.length = i) ∧ Gd n [] s s') (fun _ _ _ _ => trivial) (fun i d rr s' hi ⟨⟨r, hr, hv, hl⟩, g⟩ => by
      have hp' := g.at pn hpal
      have len := len_lst hp'
      rw [List.length_map] at len
      obtain ⟨u, s4, u1, u2, u3, u4⟩ := drawR br (k := k) hk (m := (ks.length : Nat)) g.pool (by omega) (smallI (by omega) (by omega))
      obtain ⟨x, hx⟩ : ∃ x, ks[u.toNat]? = some x := ⟨_, List.getElem?_eq_getElem (by omega)⟩
      have ix : ixD (.ref pal) (.int u) s4 = .ok (dKey x) s4 := ixD_ref (u4.at pn hp') u2 (by rw [List.getElem?_map, hx]; rfl)
      refine ⟨some (dKey x), s4, lcB_var ?_, ⟨r ++ [x], by rw [hr]; simp, fun z hz => ?_, by simp [hl]⟩, g.trans u4⟩
      · simp only [evE, ev, evs, plainT, wipeF, List.set_cons_zero, List.set_cons_succ, List.getElem?_cons_zero, List.getElem?_cons_succ, R.bind_ok, len, u1, ix]
      · rcases List.mem_append.mp hz with hz | hz
        · exact hv z hz
        · simp at hz; subst hz; exact hks _ (List.mem_of_getElem? hx)) ⟨⟨[], rfl, by simp, rfl⟩, Gd.refl p⟩
  rw [rng_len] at hlen
  subst hr
  have g3 := Gd.new g2.pool (.lst (r.map dKey))
  have e1 : evE (clF ga k) (.lc (.ix (.var 3) (.call 148 (.cons (.var 1) (.cons (.blt .len (.cons (.var 3) .nil)) .nil)))) (.var 9) .rng1 (.cons (.var 8) .nil) .nop [("_law_at", 9)]) [some sc, some (.ref n), some a2, some (.ref pal), some a4, some a5, none, none, some (.int w), none] s = .ok (.ref s2.length) (s2 ++ [.lst (r.map dKey)]) :=
    ev_lc (s1 := s) (s2 := s2) (ds := [.int w]) (src := .vals (rngD 0 w.toNat)) rfl (src_rng h0 (by omega) s) (by
      show (rngD 0 w.toNat).length < _
      rw [rng_len, sizeLine_eq]; omega) lc
  refine ⟨r, s2 ++ [.lst (r.map dKey)], ?_, hv, hlen, g2.trans g3⟩
  have e1 : (ev (clF ga k) (.lc (.ix (.var 3) (.call 148 (.cons (.var 1) (.cons (.blt .len (.cons (.var 3) .nil)) .nil)))) (.var 9) .rng1 (.cons (.var 8) .nil) .nop [("_law_at", 9)])).1 [some sc, some (.ref n), some a2, some (.ref pal), some a4, some a5, none, none, some (.int w), none] s = _ := e1
  have tp : bltD .tuple [.ref s2.length] (s2 ++ [O.lst (r.map dKey)]) = .ok (rowD r) (s2 ++ [O.lst (r.map dKey)]) := by
    simp only [bltD, seqOf, lstAt_of (new_at (s := s2) (o := .lst (r.map dKey))), rowD]
  have : evE (clF ga k) (.blt .tuple (.cons (.lc (.ix (.var 3) (.call 148 (.cons (.var 1) (.cons (.blt .len (.cons (.var 3) .nil)) .nil)))) (.var 9) .rng1 (.cons (.var 8) .nil) .nop [("_law_at", 9)]) .nil)) [some sc, some (.ref n), some a2, some (.ref pal), some a4, some a5, none, none, some (.int w), none] s
      = (((ev (clF ga k) (.lc (.ix (.var 3) (.call 148 (.cons (.var 1) (.cons (.blt .len (.cons (.var 3) .nil)) .nil)))) (.var 9) .rng1 (.cons (.var 8) .nil) .nop [("_law_at", 9)])).1 [some sc, some (.ref n), some a2, some (.ref pal), some a4, some a5, none, none, some (.int w), none] s).bind fun d s => (R.ok [] s).bind fun ds s => .ok (d :: ds) s).bind fun ds s => bltD .tuple ds s := rfl
  rw [this, e1]
  simp only [R.bind_ok, tp]
theorem law_run (ns : List Int) (h : ns.length ≤ 63) : ∃ s, G.callF ga 30 397 [.flst (ns.map .int)] [] = .ok (.bl true) s := by
  obtain ⟨s1, n, e1, p1⟩ := run_pool (clF ga 28) ns h
  have e1 : (clF ga 29).call 252 [.flst (ns.map .int)] [] = .ok (.ref n) s1 := (call_of (Γ := ga) (k := 28) br.h252 _ _).trans e1
  obtain ⟨tw, s2, t1, t2, t3, t4⟩ := drawR br (k := 29) (by omega) (m := 2) p1 (by decide) (smallI (by decide) (by decide))
  -- the palette
  obtain ⟨u, s3, u1, u2, u3, u4⟩ := drawR br (k := 29) (by omega) (m := 4) t4.pool (by decide) (smallI (by decide) (by decide))
  obtain ⟨rr, s4, lc, ⟨ks, hks, hval, hkl⟩, g4⟩ := lcS_inv (ok := (Src.vals (rngD 0 (1 + u).toNat)).ok) (items := rngD 0 (1 + u).toNat) (s := s3) (g := lcB (clF ga 29) [some (.flst (ns.map .int)), some (.ref n), some (.int tw), none, none, none, none, none, none, none] [5] (.var 5) .nop (.call 315 (.cons (.var 1) .nil)))
    (fun i rr s' => (∃ ks : List Key, rr = ks.map dKey ∧ (∀ x ∈ ks, ValK x) ∧ ks.length = i) ∧ Gd n [] s3 s') (fun _ _ _ _ => trivial) (fun i d rr s' hi ⟨⟨ks, hr, hv, hl⟩, g⟩ => by
      obtain ⟨x, s5, x1, x2, x3⟩ := value_ok br (k := 29) (by omega) g.pool
      refine ⟨some (dKey x), s5, lcB_var ?_, ⟨ks ++ [x], by rw [hr]; simp, fun z hz => ?_, by simp [hl]⟩, g.trans x3⟩
      · simp only [evE, ev, evs, plainT, wipeF, List.set_cons_zero, List.set_cons_succ, List.getElem?_cons_zero, List.getElem?_cons_succ, R.bind_ok, x1]
      · rcases List.mem_append.mp hz with hz | hz
        · exact hv z hz
        · simp at hz; subst hz; exact x2) ⟨⟨[], rfl, by simp, rfl⟩, Gd.refl u4.pool⟩
  rw [rng_len] at hkl
  subst hks
  have e3 : evE (clF ga 29) (.lc (.call 315 (.cons (.var 1) .nil)) (.var 5) .rng1 (.cons (.bin .add (.cst (.int 1)) (.call 148 (.cons (.var 1) (.cons (.cst (.int 4)) .nil)))) .nil) .nop [("_law_k", 5)]) [some (.flst (ns.map .int)), some (.ref n), some (.int tw), none, none, none, none, none, none, none] s2 = .ok (.ref s4.length) (s4 ++ [.lst (ks.map dKey)]) :=
    ev_lc (s1 := s3) (s2 := s4) (ds := [.int (1 + u)]) (src := .vals (rngD 0 (1 + u).toNat)) (by
      simp only [evs, ev, plainT, List.getElem?_cons_zero, List.getElem?_cons_succ, R.bind_ok, Cst.d, u1, addI]) (src_rng (by omega) (by omega) s3) (by
      show (rngD 0 (1 + u).toNat).length < _
      rw [rng_len, sizeLine_eq]; omega) lc
  have g5 := Gd.new g4.pool (.lst (ks.map dKey))
  have paln : s4.length ≠ n := g4.pool.ne (Nat.le_refl _)
  have pal5 := new_at (s := s4) (o := .lst (ks.map dKey))
  obtain ⟨s5, hs5⟩ : ∃ s5 : S, s5 = s4 ++ [.lst (ks.map dKey)] := ⟨_, rfl⟩
  rw [← hs5] at e3 g5 pal5
  -- the rows
  have g6 := Gd.new g5.pool (.lst [])
  have rown : s5.length ≠ n := g5.pool.ne (Nat.le_refl _)
  have row6 := new_at (s := s5) (o := .lst [])
  have pal6 := g6.at paln pal5
  have palr : s4.length ≠ s5.length := by rw [hs5]; simp
  obtain ⟨c, s7, c1, c2, c3, c4⟩ := drawR br (k := 29) (by omega) (m := 13) g6.pool (by decide) (smallI (by decide) (by decide))
  obtain ⟨τ', s8, lp, v5, v8, rs, rfl, g8, row8, hrl, hrv⟩ := forS_inv (ok := (Src.vals (rngD 0 c.toNat)).ok) (g := forB (clF ga 29) (.var 5) (.cons (.asg (.loc (.var 8)) (.call 148 (.cons (.var 1) (.cons (.cst (.int 5)) .nil))))
    (.cons (.expr (.meth .append (.var 4) (.cons (.blt .tuple (.cons (.lc (.ix (.var 3) (.call 148 (.cons (.var 1) (.cons (.blt .len (.cons (.var 3) .nil)) .nil)))) (.var 9) .rng1 (.cons (.var 8) .nil) .nop [("_law_at", 9)]) .nil)) .nil))) .nil))) (items := rngD 0 c.toNat) (τ := [some (.flst (ns.map .int)), some (.ref n), some (.int tw), some (.ref s4.length), some (.ref s5.length), none, none, none, none, none]) (s := s7)
    (fun i τ s' => ∃ (v5 v8 : Option D) (rs : List Row), τ = [some (.flst (ns.map .int)), some (.ref n), some (.int tw), some (.ref s4.length), some (.ref s5.length), v5, none, none, v8, none] ∧ Gd n [s5.length] s7 s' ∧ s'[s5.length]? = some (.lst (rs.map rowD)) ∧ rs.length = i ∧ ∀ r ∈ rs, (∀ x ∈ r, ValK x) ∧ r.length < 5)
    (fun _ _ _ _ => trivial) (fun i d τ s' hi ⟨v5, v8, rs, hτ, g, hrow, hrl, hrv⟩ => by
      subst hτ
      obtain ⟨hil, rfl⟩ := rng_at hi
      obtain ⟨w, s9, w1, w2, w3, w4⟩ := drawR br (k := 29) (by omega) (m := 5) g.pool (by decide) (smallI (by decide) (by decide))
      have row9 := w4.at rown hrow
      have pal9 := w4.at paln (g.keep _ _ paln (by simpa using palr) (c4.at paln pal6))
      obtain ⟨r, s10, r1, r2, r3, r4⟩ := row_drawn (k := 29) (by omega) (sc := .flst (ns.map .int)) (a2 := .int tw) (a4 := .ref s5.length) (a5 := .int ((0 : Int) + (i : Nat))) (v8 := none) w4.pool pal9 paln (by omega) (by omega) hval w2 w3
      have row10 := r4.at rown row9
      have hms : mSel .append (.ref s5.length) s9 = some .lappend := by simp only [mSel, row9]; rfl
      have ap := append_lst (d := rowD r) row10 (by rw [List.length_map]; omega)
      refine ⟨[some (.flst (ns.map .int)), some (.ref n), some (.int tw), some (.ref s4.length), some (.ref s5.length), some (.int ((0 : Int) + (i : Nat))), none, none, some (.int w), none], s10.set s5.length (.lst (rs.map rowD ++ [rowD r])), ?_, _, _, rs ++ [r], rfl, (g.trans ((w4.trans r4).wide)).trans (Gd.set r4.pool rown (by simp)), by rw [set_get (List.getElem?_eq_some_iff.mp row10).1]; simp, by simp [hrl], fun z hz => ?_⟩
      · rw [forB_var]
        refine (exs_asg (d := .int w) (s' := s9) ?_).trans ((exs_expr (d := .non) (s' := s10.set s5.length (.lst (rs.map rowD ++ [rowD r]))) ?_).trans rfl)
        · simp only [evE, ev, evs, plainT, List.set_cons_zero, List.set_cons_succ, List.getElem?_cons_zero, List.getElem?_cons_succ, R.bind_ok, Cst.d, w1]
        · have r1 : (ev (clF ga 29) (.blt .tuple (.cons (.lc (.ix (.var 3) (.call 148 (.cons (.var 1) (.cons (.blt .len (.cons (.var 3) .nil)) .nil)))) (.var 9) .rng1 (.cons (.var 8) .nil) .nop [("_law_at", 9)]) .nil))).1 [some (.flst (ns.map .int)), some (.ref n), some (.int tw), some (.ref s4.length), some (.ref s5.length), some (.int ((0 : Int) + (i : Nat))), none, none, some (.int w), none] s9 = _ := r1
          have st : ∀ e, evE (clF ga 29) (.meth .append (.var 4) (.cons e .nil)) [some (.flst (ns.map .int)), some (.ref n), some (.int tw), some (.ref s4.length), some (.ref s5.length), some (.int ((0 : Int) + (i : Nat))), none, none, some (.int w), none] s9
              = (((ev (clF ga 29) e).1 [some (.flst (ns.map .int)), some (.ref n), some (.int tw), some (.ref s4.length), some (.ref s5.length), some (.int ((0 : Int) + (i : Nat))), none, none, some (.int w), none] s9).bind fun d s => (R.ok [] s).bind fun ds s => .ok (d :: ds) s).bind fun ds s => mtD .lappend (.ref s5.length) ds s := fun e => by
            simp only [evE, ev, evs, plainT, List.getElem?_cons_zero, List.getElem?_cons_succ, R.bind_ok, hms]
          refine (st _).trans ?_
          rw [r1]
          simp only [R.bind_ok, ap]
      · rcases List.mem_append.mp hz with hz | hz
        · exact hrv z hz
        · simp at hz; subst hz; exact ⟨r2, by omega⟩) ⟨none, none, [], rfl, (Gd.refl c4.pool).wide, c4.at rown row6, rfl, by simp⟩
  rw [rng_len] at hrl
  have G8 := (c4.wide (X := [s5.length])).trans g8
  have pal8 := G8.keep _ _ paln (by simpa using palr) pal6
  have len8 := len_lst row8
  rw [List.length_map] at len8
  -- one row twice
  obtain ⟨s9, rs2, e9, g9, row9, hr9, hl9⟩ : ∃ (s9 : S) (rs2 : List Row), ex (clF ga 29) (.ite (.and (.cmp .eq (.var 2) (.cst (.int 1))) (.cmp .gt (.blt .len (.cons (.var 4) .nil)) (.cst (.int 0)))) (.cons (.expr (.meth .insert (.var 4) (.cons (.call 148 (.cons (.var 1) (.cons (.bin .add (.blt .len (.cons (.var 4) .nil)) (.cst (.int 1))) .nil))) (.cons (.ix (.var 4) (.call 148 (.cons (.var 1) (.cons (.blt .len (.cons (.var 4) .nil)) .nil)))) .nil)))) .nil) (.nil)) [some (.flst (ns.map .int)), some (.ref n), some (.int tw), some (.ref s4.length), some (.ref s5.length), v5, none, none, v8, none] s8
      = .nx [some (.flst (ns.map .int)), some (.ref n), some (.int tw), some (.ref s4.length), some (.ref s5.length), v5, none, none, v8, none] s9 ∧ Gd n [s5.length] s8 s9 ∧ s9[s5.length]? = some (.lst (rs2.map rowD)) ∧ (∀ r ∈ rs2, r ∈ rs) ∧ rs2.length ≤ 13 := by
    have c1 : evT (clF ga 29) (.and (.cmp .eq (.var 2) (.cst (.int 1))) (.cmp .gt (.blt .len (.cons (.var 4) .nil)) (.cst (.int 0)))) [some (.flst (ns.map .int)), some (.ref n), some (.int tw), some (.ref s4.length), some (.ref s5.length), v5, none, none, v8, none] s8 = .ok (decide (tw = 1 ∧ 0 < rs.length)) s8 := by
      have g : cmpD .gt (.int (rs.length : Nat)) (.int 0) s8 = .ok (decide ((0 : Int) < (rs.length : Nat))) s8 := rfl
      have q : cmpD .eq (.int tw) (.int 1) s8 = .ok (tw == 1) s8 := eqI
      simp only [evT, ev, evs, plainT, asB, List.getElem?_cons_zero, List.getElem?_cons_succ, R.bind_ok, Cst.d, q]
      by_cases h1 : tw = 1
      · rw [if_pos (by simp [h1])]
        simp only [len8, R.bind_ok, g]
        congr 1
        by_cases h2 : 0 < rs.length
        · rw [decide_eq_true (by omega), decide_eq_true ⟨h1, h2⟩]
        · rw [decide_eq_false (by omega), decide_eq_false (fun z => h2 z.2)]
      · rw [if_neg (by simp [h1]), decide_eq_false (fun z => h1 z.1)]
    by_cases hc : tw = 1 ∧ 0 < rs.length
    · rw [decide_eq_true hc] at c1
      obtain ⟨x, s10, x1, x2, x3, x4⟩ := drawR br (k := 29) (by omega) (m := (rs.length : Nat) + 1) g8.pool (by omega) (smallI (by omega) (by omega))
      have row10 := x4.at rown row8
      have len10 := len_lst row10
      rw [List.length_map] at len10
      obtain ⟨y, s11, y1, y2, y3, y4⟩ := drawR br (k := 29) (by omega) (m := (rs.length : Nat)) x4.pool (by omega) (smallI (by omega) (by omega))
      have row11 := y4.at rown row10
      obtain ⟨r, hr⟩ : ∃ r, rs[y.toNat]? = some r := ⟨_, List.getElem?_eq_getElem (by omega)⟩
      have ix : ixD (.ref s5.length) (.int y) s11 = .ok (rowD r) s11 := ixD_ref row11 y2 (by rw [List.getElem?_map, hr]; rfl)
      have hms : mSel .insert (.ref s5.length) s8 = some .linsert := by simp only [mSel, row8]; rfl
      have ins : mtD .linsert (.ref s5.length) [.int x, rowD r] s11 = .ok .non (s11.set s5.length (.lst ((rs.take x.toNat ++ [r] ++ rs.drop x.toNat).map rowD))) := by
        simp only [mtD, row11]
        rw [if_pos ⟨by rw [List.length_map, sizeLine_eq]; omega, x2, by omega⟩]
        simp [List.map_take, List.map_drop]
      refine ⟨s11.set s5.length (.lst ((rs.take x.toNat ++ [r] ++ rs.drop x.toNat).map rowD)), _, (ite_t c1).trans ((exs_expr (d := .non) (s' := s11.set s5.length (.lst ((rs.take x.toNat ++ [r] ++ rs.drop x.toNat).map rowD))) ?_).trans rfl), ((x4.trans y4).wide).trans (Gd.set y4.pool rown (by simp)), set_get (List.getElem?_eq_some_iff.mp row11).1, fun z hz => ?_, ?_⟩
      · simp only [evE, ev, evs, plainT, List.getElem?_cons_zero, List.getElem?_cons_succ, R.bind_ok, Cst.d, hms, len8, addI, x1, len10, y1, ix, ins]
      · simp only [List.mem_append, List.mem_singleton] at hz
        rcases hz with (hz | rfl) | hz
        · exact List.mem_of_mem_take hz
        · exact List.mem_of_getElem? hr
        · exact List.mem_of_mem_drop hz
      · simp; omega
    · rw [decide_eq_false hc] at c1
      exact ⟨s8, rs, (ite_f c1).trans rfl, (Gd.refl g8.pool).wide, row8, fun _ h => h, by omega⟩
  have ro : RowsOk rs2 := ⟨fun r hr x hx => ((hrv r (hr9 r hr)).1 x hx).asc, fun r hr => Nat.lt_trans (hrv r (hr9 r hr)).2 (by decide), by omega⟩
  obtain ⟨so1, so2, so3⟩ := ro.sorted
  -- the copy, and what is asked
  have g10 := Gp.new s9 (.lst (rs2.map rowD))
  have giv10 := new_at (s := s9) (o := .lst (rs2.map rowD))
  have cp : bltD .list [.ref s5.length] s9 = .ok (.ref s9.length) (s9 ++ [.lst (rs2.map rowD)]) := by
    simp only [bltD, dctOf, dctAt, row9, seqOf, lstAt, new]
  obtain ⟨s11, m, g11, hm, e11, l11⟩ := sorted_ok bv (k := 29) (by omega) giv10 ro.few ro.len
  obtain ⟨s12, g12, e12⟩ := holds_ok (k := 29) (by omega) l11 (g11 _ _ (g10 _ _ row9)) ro so1 so2 so3
  have G12 := g11.trans g12
  have q1 := eq_rows (s := s12) (G12 _ _ giv10) (G12 _ _ (g10 _ _ row9)) ro.asc
  -- the first list changed
  have first12 := g12 _ _ l11
  have ltm := (List.getElem?_eq_some_iff.mp first12).1
  have hms : mSel .append (.ref m) s12 = some .lappend := by simp only [mSel, first12]; rfl
  have ap := append_lst (d := .tup [.int 0, .int 0, .int 0, .int 0, .int 0]) first12 (by rw [List.length_map]; omega)
  obtain ⟨s13, hs13⟩ : ∃ s13 : S, s13 = s12.set m (.lst ((sortR (dd rs2)).map rowD ++ [.tup [.int 0, .int 0, .int 0, .int 0, .int 0]])) := ⟨_, rfl⟩
  rw [← hs13] at ap
  have lt9 := (List.getElem?_eq_some_iff.mp row9).1
  have g9m : s9.length < m := by rw [List.length_append] at hm; simp at hm; omega
  have giv13 : s13[s9.length]? = some (.lst (rs2.map rowD)) := by rw [hs13, List.getElem?_set_ne (by omega)]; exact G12 _ _ giv10
  have row13 : s13[s5.length]? = some (.lst (rs2.map rowD)) := by rw [hs13, List.getElem?_set_ne (by omega)]; exact G12 _ _ (g10 _ _ row9)
  obtain ⟨s14, m2, g14, hm2, e14, l14⟩ := sorted_ok bv (k := 29) (by omega) giv13 ro.few ro.len
  obtain ⟨s15, g15, e15⟩ := holds_ok (k := 29) (by omega) l14 (g14 _ _ row13) ro so1 so2 so3
  have G15 := g14.trans g15
  have q2 := eq_rows (s := s15) (G15 _ _ giv13) (G15 _ _ row13) ro.asc
  refine ⟨s15, ?_⟩
  show (clF ga (29 + 1)).call 397 [.flst (ns.map .int)] [] = _
  refine call_rt (f := 397) (fn := f397) rfl (τ := [some (.flst (ns.map .int)), none, none, none, none, none, none, none, none, none]) rfl rfl ?_
  refine (exs_asg (d := .ref n) (s' := s1) ?_).trans ?_
  · simp only [evE, ev, evs, plainT, List.getElem?_cons_zero, R.bind_ok, e1]
  refine (exs_asg (d := .int tw) (s' := s2) ?_).trans ?_
  · simp only [evE, ev, evs, plainT, List.set_cons_zero, List.set_cons_succ, List.getElem?_cons_zero, List.getElem?_cons_succ, R.bind_ok, Cst.d, t1]
  refine (exs_asg e3).trans ((exs_asg (d := .ref s5.length) (s' := s5 ++ [.lst []]) rfl).trans ?_)
  refine (exs_nx (τ' := [some (.flst (ns.map .int)), some (.ref n), some (.int tw), some (.ref s4.length), some (.ref s5.length), v5, none, none, v8, none]) (s' := s8) ?_).trans ?_
  · exact (ex_for (ds := [.int c]) (s1 := s7) (src := .vals (rngD 0 c.toNat)) (by
      simp only [evs, ev, plainT, List.set_cons_zero, List.set_cons_succ, List.getElem?_cons_zero, List.getElem?_cons_succ, R.bind_ok, Cst.d, c1]) (src_rng c2 (by omega) s7)).trans lp
  refine (exs_nx e9).trans ?_
  refine (exs_asg (d := .ref s9.length) (s' := s9 ++ [.lst (rs2.map rowD)]) ?_).trans ?_
  · simp only [evE, ev, evs, plainT, List.getElem?_cons_zero, List.getElem?_cons_succ, R.bind_ok, cp]
  refine (exs_asg (d := .ref m) (s' := s11) ?_).trans ?_
  · simp only [evE, ev, evs, plainT, List.set_cons_zero, List.set_cons_succ, List.getElem?_cons_zero, List.getElem?_cons_succ, R.bind_ok, e11]
  refine (exs_skip (s' := s12) ?_).trans ?_
  · simp only [evT, ev, evs, plainT, asB, List.set_cons_zero, List.set_cons_succ, List.getElem?_cons_zero, List.getElem?_cons_succ, R.bind_ok, e12, truD, Bool.not_true, Bool.false_eq_true, if_false, cmpD, q1]
  refine (exs_expr (d := .non) (s' := s13) ?_).trans (exs_ret ?_)
  · simp only [evE, ev, evs, plainT, List.set_cons_zero, List.set_cons_succ, List.getElem?_cons_zero, List.getElem?_cons_succ, R.bind_ok, Cst.d, hms, ap]
  · simp only [evE, ev, evs, plainT, asB, List.set_cons_zero, List.set_cons_succ, List.getElem?_cons_zero, List.getElem?_cons_succ, R.bind_ok, e14, e15, cmpD, q2]
end K02
theorem K02.law_ok : ∀ ns : List Int, ns.length ≤ 63 → ∃ s, G.callF K02.ga 30 K02.d397.id [.flst (ns.map .int)] [] = .ok (.bl true) s := K02.law_run

set_option Elab.async false
set_option linter.all false
set_option maxRecDepth 100000
set_option autoImplicit false
set_option maxHeartbeats 4000000
namespace K02
open PySem PySem.Spec PyProof.Rows L2 G
theorem bind454 : BindsD d454.name d454.qual d454.ps d454.st :=
  fun _ _ _ _ _ _ us hl => match us, hl with | [_], _ => rfl
theorem bind430 : BindsD d430.name d430.qual d430.ps d430.st :=
  fun _ _ _ _ _ _ us hl => match us, hl with | [_], _ => rfl
theorem bind438 : BindsD d438.name d438.qual d438.ps d438.st :=
  fun _ _ _ _ _ _ us hl => match us, hl with | [_], _ => rfl
theorem bind252 : BindsD d252.name d252.qual d252.ps d252.st :=
  fun _ _ _ _ _ _ us hl => match us, hl with | [_], _ => rfl
theorem bind224 : BindsD d224.name d224.qual d224.ps d224.st :=
  fun _ _ _ _ _ _ us hl => match us, hl with | [_, _], _ => rfl
theorem bind148 : BindsD d148.name d148.qual d148.ps d148.st :=
  fun _ _ _ _ _ _ us hl => match us, hl with | [_, _], _ => rfl
theorem bind325 : BindsD d325.name d325.qual d325.ps d325.st :=
  fun _ _ _ _ _ _ us hl => match us, hl with | [_, _], _ => rfl
theorem bind315 : BindsD d315.name d315.qual d315.ps d315.st :=
  fun _ _ _ _ _ _ us hl => match us, hl with | [_], _ => rfl
theorem bind214 : BindsD d214.name d214.qual d214.ps d214.st :=
  fun _ _ _ _ _ _ us hl => match us, hl with | [_, _], _ => rfl
theorem bind178 : BindsD d178.name d178.qual d178.ps d178.st :=
  fun _ _ _ _ _ _ us hl => match us, hl with | [_, _], _ => rfl
theorem bind397 : BindsD d397.name d397.qual d397.ps d397.st :=
  fun _ _ _ _ _ _ us hl => match us, hl with | [_], _ => rfl
theorem oks : ∀ d ∈ dfs, okD nm d = true := by
  intro d hd
  simp only [dfs, List.mem_cons, List.not_mem_nil, or_false] at hd
  rcases hd with rfl | rfl | rfl | rfl | rfl | rfl | rfl | rfl | rfl | rfl | rfl
  · exact ok454
  · exact ok430
  · exact ok438
  · exact ok252
  · exact ok224
  · exact ok148
  · exact ok325
  · exact ok315
  · exact ok214
  · exact ok178
  · exact ok397
theorem top_of {K : PySem.W.Frag} {mg : Str → Option Value} {CB : Addr} (hb : ∀ x ∈ blts, mg x = none)
    (x454 : DefAt K mg d454)
    (x430 : DefAt K mg d430)
    (x438 : DefAt K mg d438)
    (x252 : DefAt K mg d252)
    (x224 : DefAt K mg d224)
    (x148 : DefAt K mg d148)
    (x325 : DefAt K mg d325)
    (x315 : DefAt K mg d315)
    (x214 : DefAt K mg d214)
    (x178 : DefAt K mg d178)
    (x397 : DefAt K mg d397) : ∃ U : Su, Top U K mg ga dfs nm "" := by
  let cad : Str → Addr := fun c => 0
  refine ⟨{ K := K, cad := cad }, { hK := rfl, exi := rfl, fns := rfl, nd := by decide +kernel, ok := oks, blt := hb, glb := ?_, def_ := ?_, cls := ?_, ecl := ?_ }⟩
  · intro i x d h1 h2
    cases h1
  · refine all_lookN (P := fun i x => ∃ d ∈ dfs, d.id = i ∧ ∃ f, DfAt K d f ∧ mg x = some (.ref f) ∧ PySem.W.keepIn K (.ref f) = true) (fun q hq => ?_)
    simp only [nm, List.mem_cons, List.not_mem_nil, or_false] at hq
    rcases hq with rfl | rfl | rfl | rfl | rfl | rfl | rfl | rfl | rfl | rfl | rfl
    · exact ⟨d454, by simp [dfs], rfl, x454.top⟩
    · exact ⟨d430, by simp [dfs], rfl, x430.top⟩
    · exact ⟨d438, by simp [dfs], rfl, x438.top⟩
    · exact ⟨d252, by simp [dfs], rfl, x252.top⟩
    · exact ⟨d224, by simp [dfs], rfl, x224.top⟩
    · exact ⟨d148, by simp [dfs], rfl, x148.top⟩
    · exact ⟨d325, by simp [dfs], rfl, x325.top⟩
    · exact ⟨d315, by simp [dfs], rfl, x315.top⟩
    · exact ⟨d214, by simp [dfs], rfl, x214.top⟩
    · exact ⟨d178, by simp [dfs], rfl, x178.top⟩
    · exact ⟨d397, by simp [dfs], rfl, x397.top⟩
  · refine all_look (P := fun c k => TopCl { K := K, cad := cad } K mg ga dfs c k) (fun q hq => ?_)
    cases hq
  · refine all_look (P := fun c e => TopEc { K := K, cad := cad } K mg ga "" c e ∧ ∃ CE, BaseOk K mg "" CE) (fun q hq => ?_)
    cases hq
end K02
open PySem PySem.W PyProof.Rows
set_option maxRecDepth 100000 in
set_option maxHeartbeats 0 in
theorem PySem.Challenge.cw_cappedcalls_k02_sorted_rows_holds : PySem.Challenge.rw_cappedcalls_k02_sorted_rows.Holds := by
  w_on; o_law; k_head; (case hw => w_witness2)
  k_fill
  refine G.walk (l := PySem.Challenge.rw_cappedcalls_k02_sorted_rows) (Γ := K02.ga) (ds := K02.dfs) (n := K02.nm) (bs := "") (k := 30) (dl := K02.d397) (by simp [K02.dfs]) rfl rfl ⟨rfl, by decide, by decide⟩ rfl rfl (fun w h Y => PySem.W.kIn_of Y) ?F K02.law_ok
  intro w mg h KX GG
  refine' G.use (G.defAt KX GG K02.d454 K02.bind454 ?h1 ?h2 ?h3 ?h4) ?_
  (case h1 => k_is); (case h2 => k_is); (case h3 => k_is); (case h4 => k_is)
  intro x454
  refine' G.use (G.defAt KX GG K02.d430 K02.bind430 ?h5 ?h6 ?h7 ?h8) ?_
  (case h5 => k_is); (case h6 => k_is); (case h7 => k_is); (case h8 => k_is)
  intro x430
  refine' G.use (G.defAt KX GG K02.d438 K02.bind438 ?h9 ?h10 ?h11 ?h12) ?_
  (case h9 => k_is); (case h10 => k_is); (case h11 => k_is); (case h12 => k_is)
  intro x438
  refine' G.use (G.defAt KX GG K02.d252 K02.bind252 ?h13 ?h14 ?h15 ?h16) ?_
  (case h13 => k_is); (case h14 => k_is); (case h15 => k_is); (case h16 => k_is)
  intro x252
  refine' G.use (G.defAt KX GG K02.d224 K02.bind224 ?h17 ?h18 ?h19 ?h20) ?_
  (case h17 => k_is); (case h18 => k_is); (case h19 => k_is); (case h20 => k_is)
  intro x224
  refine' G.use (G.defAt KX GG K02.d148 K02.bind148 ?h21 ?h22 ?h23 ?h24) ?_
  (case h21 => k_is); (case h22 => k_is); (case h23 => k_is); (case h24 => k_is)
  intro x148
  refine' G.use (G.defAt KX GG K02.d325 K02.bind325 ?h25 ?h26 ?h27 ?h28) ?_
  (case h25 => k_is); (case h26 => k_is); (case h27 => k_is); (case h28 => k_is)
  intro x325
  refine' G.use (G.defAt KX GG K02.d315 K02.bind315 ?h29 ?h30 ?h31 ?h32) ?_
  (case h29 => k_is); (case h30 => k_is); (case h31 => k_is); (case h32 => k_is)
  intro x315
  refine' G.use (G.defAt KX GG K02.d214 K02.bind214 ?h33 ?h34 ?h35 ?h36) ?_
  (case h33 => k_is); (case h34 => k_is); (case h35 => k_is); (case h36 => k_is)
  intro x214
  refine' G.use (G.defAt KX GG K02.d178 K02.bind178 ?h37 ?h38 ?h39 ?h40) ?_
  (case h37 => k_is); (case h38 => k_is); (case h39 => k_is); (case h40 => k_is)
  intro x178
  refine' G.use (G.defAt KX GG K02.d397 K02.bind397 ?h41 ?h42 ?h43 ?h44) ?_
  (case h41 => k_is); (case h42 => k_is); (case h43 => k_is); (case h44 => k_is)
  intro x397
  refine' G.use (G.blts_of KX GG ?h45 ?h46 ?h47 ?h48 ?h49 ?h50 ?h51 ?h52 ?h53 ?h54 ?h55 ?h56 ?h57 ?h58 ?h59 ?h60) ?_
  (case h45 => k_is); (case h46 => k_is); (case h47 => k_is); (case h48 => k_is); (case h49 => k_is); (case h50 => k_is); (case h51 => k_is); (case h52 => k_is); (case h53 => k_is); (case h54 => k_is); (case h55 => k_is); (case h56 => k_is); (case h57 => k_is); (case h58 => k_is); (case h59 => k_is); (case h60 => k_is)
  intro hb
  exact ⟨K02.top_of (CB := 0) hb x454 x430 x438 x252 x224 x148 x325 x315 x214 x178 x397, x397⟩
#print axioms PySem.Challenge.cw_cappedcalls_k02_sorted_rows_holds


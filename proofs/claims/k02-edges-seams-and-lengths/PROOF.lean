import PyProof.Rows.All
import Wide.All
import OpenK.AllK
import Wide.FinOn
import PySem.Challenge.RW_hemstead_k02_edges_seams_and_lengths
import HandS.TupSets
import HandS.ForMost
import HandS.Iter
import KE.GoesMore
import HandS.TupMul
import HandS.ForExc
import HandS.TryMany
import HandS.Zip
import HandS.CallSlots
import HandS.Style
import HandS.NoneIn
import KE.SortData
import HandS.TupAny
import HandS.IsInst
import HandS.TupLe
import HandS.Deep
import HandS.TupLen
import PyProof.FString5
import PyProof.NeKinds
import KE.DataCmp
import HandS.Conv
import HandS.Flt
import KE.KDictPairs
import HandS.Rev
import HandS.Comp
import HandS.DictComp
import PyProof.ListRange
import PyProof.CollectWalk
import KE.KRevIter
import HandS.ExcOwn
import HandS.WordsExc
import HandS.ExcIs
import HandS.HotCalls
import HandS.Ends
import HandS.Words
set_option Elab.async false
set_option linter.all false
set_option maxRecDepth 100000
set_option maxHeartbeats 4000000
/-! set(xs), xs a list of tuples of ints and texts: how many there are. -/
namespace PyD
open PySem PySem.Spec L2 PyProof.Rows
abbrev KM (P : Program) (w : World) := mixKind P w
/-- a tuple's hash -/
abbrev kh (P : Program) (w : World) (k : List Key) : Int := tupleKeyHash (KM P w) k
abbrev IsK (P : Program) (w : World) (h : Heap) (k : List Key) (a : Addr) : Prop := IsTupleKey (KM P w) h k a
/-- the entries of a set that holds these tuples -/
def ents (P : Program) (w : World) (L : List (Addr × List Key)) : List (Int × Value) := L.map fun p => (kh P w p.2, Value.ref p.1)
/-- the set at a holds the tuples L, in the order of its table -/
structure KSet (P : Program) (w : World) (h : Heap) (a : Addr) (L : List (Addr × List Key)) (es : Array (Int × Value)) (ep : Nat) (t : SetTable) : Prop where
  ob : ∃ o, h.get? a = some o ∧ o.ExactSet ∧ o.data = .set es ep t
  en : es.toList = ents P w L
  tb : TabOk t (L.map fun p => kh P w p.2)
  nd : (L.map (·.2)).Nodup
  ks : ∀ p ∈ L, IsK P w h p.2 p.1
  rm : L.length * 5 < t.mask * 3
  fw : L.length < 64
section
variable {P : Program} {w : World} {A : Around} {E : Value → Shared → Prop} {s : Shared}
variable {a : Addr} {L : List (Addr × List Key)} {es : Array (Int × Value)} {ep : Nat} {t : SetTable}
theorem ents_len : (ents P w L).length = L.length := by simp [ents]
theorem KSet.size {h : Heap} (R : KSet P w h a L es ep t) : es.size = L.length := by
  rw [← Array.length_toList, R.en, ents_len]
theorem tab_fits {n : Nat} {hs : List Int} (T : TabOk t hs) (hn : n = hs.length) (hm : n ≤ t.mask) : t.fits n = true := by
  have := T.sz
  simp only [SetTable.fits, SetTable.fill, T.dm, Bool.and_eq_true, beq_iff_eq, decide_eq_true_eq, List.size_toArray, List.length_nil]
  omega
theorem KSet.fits {h : Heap} (R : KSet P w h a L es ep t) : t.fits es.size = true := by
  have := R.rm
  have := R.size
  exact tab_fits R.tb (by simp; omega) (by omega)
theorem KSet.at_ {h : Heap} (R : KSet P w h a L es ep t) (i : Nat) : es[i]? = (L[i]?).map fun p => (kh P w p.2, Value.ref p.1) := by
  rw [← Array.getElem?_toList, R.en, ents, List.getElem?_map]
theorem not_gone {m : Nat} (hm : MaskOk m) {t : SetTable} (e : t.mask = m) : t.gaveWay = false := by
  subst e
  simp [SetTable.gaveWay, mask_odd hm]
/-- ints and texts have no own class -/
theorem leaf_plain {k : Key} {v : Value} (h : (KM P w).is k v = true) (n : Nat) : ofAClassStatement n v = pure false := by
  rcases keyIs_shape h with ⟨i, t, rfl, rfl⟩ | ⟨x, t, rfl, rfl⟩ <;> cases n <;> rfl
theorem leaf_hash {k : Key} {v : Value} (h : (KM P w).is k v = true) (n : Nat) : ∃ b, hashByValue n v = pure b := by
  rcases keyIs_shape h with ⟨i, t, rfl, rfl⟩ | ⟨x, t, rfl, rfl⟩ <;> cases n <;> exact ⟨_, rfl⟩
theorem items_leaf {k : List Key} {vs : List Value} (h : ItemsAre (KM P w) k vs) : ∀ v ∈ vs, ∃ k, (KM P w).is k v = true := by
  induction h with
  | nil => simp
  | cons h1 _ ih => exact fun v hv => (List.mem_cons.mp hv).elim (fun e => ⟨_, e ▸ h1⟩) (ih v)
theorem tup_plain {k : List Key} {b : Addr} {Q : Bool → Shared → Prop} (hk : IsK P w s.heap k b) (h : Q false s) : wpAny (model P w) A (ofAClassStatement 8 (.ref b)) Q E s := by
  have hT := hk.typeIs
  obtain ⟨o, its, n, ho, _, hd, hi⟩ := hk
  unfold ofAClassStatement
  refine wpAny_bind (wpAny_typeOf hT ?_)
  simp only [show (("tuple" : String) == "tuple") = true by decide, if_true, Bool.not_true, Bool.false_eq_true, if_false]
  refine wpAny_bind (wpAny_pure ?_)
  simp only [Bool.not_true, Bool.false_eq_true, if_false]
  refine wpAny_bind (wpAny_seqItems ho hd ?_)
  simp only []
  refine wpAny_bind ?_
  show wpAny _ _ (forIn its _ _) _ _ s
  rw [← Array.forIn_toList]
  refine wpAny_forIn_list _ (fun rest r s' => r.1 = none ∧ s' = s ∧ ∀ v ∈ rest, ∃ k, (KM P w).is k v = true) _ (fun v rest r s' ⟨e1, e2, hr⟩ => ?_) (fun ⟨r1, r2⟩ s' ⟨e1, e2, _⟩ => ?_) _ _ ⟨rfl, rfl, items_leaf hi⟩
  · subst e2
    obtain ⟨k, hk⟩ := hr v (by simp)
    rw [leaf_plain hk]
    refine wpAny_bind (wpAny_pure ?_)
    simp only [Bool.false_eq_true, if_false]
    exact wpAny_pure ⟨rfl, rfl, fun u hu => hr u (by simp [hu])⟩
  · simp only at e1
    subst e1 e2
    exact wpAny_pure h
theorem tup_hash {k : List Key} {b : Addr} {Q : Bool → Shared → Prop} (hk : IsK P w s.heap k b) (h : ∀ r, Q r s) : wpAny (model P w) A (hashByValue 8 (.ref b)) Q E s := by
  have hT := hk.typeIs
  obtain ⟨o, its, n, ho, _, hd, hi⟩ := hk
  unfold hashByValue
  refine wpAny_bind (wpAny_specialOf hT F.slot_tuple_hash.lookup ?_)
  show wpAny _ _ (seqItems? (.ref b) >>= _) _ _ s
  refine wpAny_bind (wpAny_seqItems ho hd ?_)
  refine wpAny_bind ?_
  show wpAny _ _ (forIn its _ _) _ _ s
  rw [← Array.forIn_toList]
  refine wpAny_forIn_list _ (fun rest r s' => r.1 = none ∧ s' = s ∧ ∀ v ∈ rest, ∃ k, (KM P w).is k v = true) _ (fun v rest r s' ⟨e1, e2, hr⟩ => ?_) (fun ⟨r1, r2⟩ s' ⟨e1, e2, _⟩ => ?_) _ _ ⟨rfl, rfl, items_leaf hi⟩
  · subst e2
    obtain ⟨k, hk⟩ := hr v (by simp)
    obtain ⟨b, e⟩ := leaf_hash hk 7
    rw [e]
    refine wpAny_bind (wpAny_pure ?_)
    cases b with
    | true =>
      simp only [Bool.not_true, Bool.false_eq_true, if_false]
      exact wpAny_pure ⟨rfl, rfl, fun u hu => hr u (by simp [hu])⟩
    | false =>
      simp only [Bool.not_false, if_true]
      exact wpAny_pure (wpAny_pure (h _))
  · simp only at e1
    subst e1 e2
    exact wpAny_pure (h _)
/-- a search among tuples shows nothing -/
theorem tup_unseen {k : List Key} {b : Addr} {Q : Bool → Shared → Prop} (hk : IsK P w s.heap k b) {ys : List Value} (hy : ∀ y ∈ ys, ∃ k' c, y = Value.ref c ∧ IsK P w s.heap k' c) (h : Q false s) : wpAny (model P w) A (searchCouldBeSeen (.ref b) ys) Q E s := by
  unfold searchCouldBeSeen
  refine wpAny_bind ?_
  refine wpAny_forIn_list _ (fun rest r s' => r.1 = none ∧ s' = s ∧ ∀ y ∈ rest, ∃ k' c, y = Value.ref c ∧ IsK P w s.heap k' c) _ (fun v rest r s' ⟨e1, e2, hr⟩ => ?_) (fun ⟨r1, r2⟩ s' ⟨e1, e2, _⟩ => ?_) _ _ ⟨rfl, rfl, hy⟩
  · subst e2
    obtain ⟨k', c, rfl, hc⟩ := hr v (by simp)
    have hr' : ∀ y ∈ rest, ∃ k' c, y = Value.ref c ∧ IsK P w s'.heap k' c := fun u hu => hr u (by simp [hu])
    simp only []
    by_cases hv : (b == c || (carriedByValue (.ref b) && carriedByValue (.ref c))) = true
    · exact wp_if_pos hv (wpAny_pure ⟨rfl, rfl, hr'⟩)
    · refine wp_if_neg hv (wpAny_bind (wpAny_eqIsQuiet_tuple hk ?_))
      simp only [Bool.not_true, Bool.false_eq_true, if_false]
      refine wpAny_bind (wpAny_eqIsQuiet_tuple hc ?_)
      simp only [Bool.not_true, Bool.false_eq_true, if_false]
      refine wpAny_bind (tup_plain hk ?_)
      simp only [Bool.false_eq_true, if_false]
      refine wpAny_bind (tup_plain hc ?_)
      simp only [Bool.false_eq_true, if_false]
      exact wpAny_pure ⟨rfl, rfl, hr'⟩
  · simp only at e1
    subst e1 e2
    exact wpAny_pure h
/-- the c-th state of a search for a tuple -/
abbrev pr (P : Program) (w : World) (t : SetTable) (k : List Key) (c : Nat) : SetTable.Probe := nth t.mask (t.probeStart (kh P w k)) c
theorem pr_dummy (k : List Key) (c : Nat) : (pr P w t k c).dummy = none := by
  have go : ∀ (n : Nat) (p : SetTable.Probe), p.dummy = none → (nth t.mask p n).dummy = none := fun n => by
    induction n with
    | zero => exact fun _ h => h
    | succ n ih => exact fun p h => ih _ (by unfold adv; split <;> exact h)
  exact go c _ rfl
theorem pr_add (k : List Key) (c q : Nat) : nth t.mask (pr P w t k c) q = pr P w t k (c + q) := (nth_add t.mask c _ q).symm
theorem KSet.hash {h : Heap} (R : KSet P w h a L es ep t) {i : Nat} {p : Addr × List Key} (e : L[i]? = some p) : (fun i => (es[i]?.map (·.1)).getD 0) i = kh P w p.2 := by
  show (es[i]?.map (·.1)).getD 0 = _
  rw [R.at_, e]
  rfl
theorem KSet.inL {h : Heap} (R : KSet P w h a L es ep t) {i j : Nat} (e : t.place.toList[i]? = some j) : ∃ p, L[i]? = some p := by
  have h1 := (List.getElem?_eq_some_iff.mp e).1
  have h2 := R.tb.sz
  rw [Array.length_toList, h2, List.length_map] at h1
  exact ⟨_, List.getElem?_eq_getElem h1⟩
theorem k_from (R : KSet P w s.heap a L es ep t) {x : Addr} {k : List Key} (hx : IsK P w s.heap k x) (hu : A.units < cLine) {K : Nat} (hf : K < 10 * SetTable.turns t.mask)
    (hK : (pr P w t k K).j ∉ t.place.toList) (hb : ∀ c, c < K → (pr P w t k c).j ∈ t.place.toList) {Q : SetFound → Shared → Prop}
    (hin : k ∈ L.map (·.2) → Q (.there none) s) (hout : k ∉ L.map (·.2) → Q (.free (pr P w t k K).j false) s) :
    ∀ (f c : Nat) (st : Option SetTable.Probe), st.getD (t.probeStart (kh P w k)) = pr P w t k c → c ≤ K → K < c + f →
      (∀ (i : Nat) p, L[i]? = some p → p.2 = k → ∃ d, c ≤ d ∧ d < K ∧ t.place.toList[i]? = some (pr P w t k d).j) →
      wpAny (model P w) A (setSearchFrom a (.ref x) (kh P w k) true f st) Q E s := by
  intro f
  induction f with
  | zero => exact fun c st _ h1 h2 => absurd h2 (by omega)
  | succ f ih =>
    intro c st hst hc hf2 hre
    obtain ⟨o, ho, hex, hd⟩ := R.ob
    rw [setSearchFrom_succ]
    refine wpAny_bind (wpAny_setState_of ho hd R.fits ?_)
    simp only []
    refine wp_if_neg (by rw [not_gone R.tb.mok rfl]; exact Bool.false_ne_true) ?_
    have nt : ∀ q, (nth t.mask (pr P w t k c) q).j = (pr P w t k (c + q)).j := fun q => by rw [pr_add]
    have spec := go_spec t R.tb.ris R.tb.dm (fun i => (es[i]?.map (·.1)).getD 0) (kh P w k) (10 * SetTable.turns t.mask) (K - c) (pr P w t k c) (pr_dummy k c) (by omega)
      (fun q hq => by rw [nt]; exact hb _ (by omega)) (by rw [nt, show c + (K - c) = K by omega]; exact hK)
    rcases spec with ⟨q, i, hq, hi, hh, hno, hp⟩ | ⟨hno, hp⟩
    · have hp' : t.probe (fun i => (es[i]?.map (·.1)).getD 0) (kh P w k) (st.getD (t.probeStart (kh P w k))) = some (.candidate (pr P w t k (c + q)).j i (pr P w t k (c + q + 1))) := by
        rw [hst, ← nt, show c + q + 1 = c + (q + 1) by omega, ← pr_add]
        exact hp
      rw [hp']
      simp only []
      rw [nt] at hi
      obtain ⟨p, hpL⟩ := R.inL hi
      have hm : p ∈ L := List.mem_of_getElem? hpL
      have hsl := slot_live R.tb.ris hi
      have body : wpAny (model P w) A (searchRest a (.ref x) (kh P w k) true f es t (pr P w t k (c + q)).j i (pr P w t k (c + q + 1))) Q E s := by
        unfold searchRest
        rw [R.at_, hpL]
        simp only [Option.map_some]
        refine wpAny_bind (wpAny_holding (wpAny_eqBool_tuple hu (R.ks p hm) hx ?_))
        refine wpAny_bind (wpAny_setState_of ho hd R.fits ?_)
        simp only []
        by_cases hkk : p.2 = k
        · exact wp_if_pos (by simp [hkk]) (wpAny_pure (hin (List.mem_map.mpr ⟨p, hm, hkk⟩)))
        · refine wp_if_neg (by simp [hkk]) ?_
          rw [sameMem]
          simp only [if_true, hsl, R.at_, hpL, Option.map_some]
          refine wpAny_bind (wpAny_isSame_ref_self (wpAny_bind (wpAny_pure ?_)))
          simp only [if_true]
          refine wp_if_neg (by simp [hkk]) (ih (c + q + 1) _ rfl (by omega) (by omega) fun i0 p0 h0 hk0 => ?_)
          obtain ⟨d, d1, d2, d3⟩ := hre i0 p0 h0 hk0
          refine ⟨d, ?_, d2, d3⟩
          by_cases z : d < c + q
          · have := hno (d - c) i0 (by omega) (by rw [nt, show c + (d - c) = d by omega]; exact d3)
            exact absurd ((R.hash h0).trans (by rw [hk0])) this
          · by_cases y : d = c + q
            · rw [y] at d3
              have e1 := slot_live R.tb.ris d3
              rw [hsl] at e1
              injection e1 with e1
              rw [← e1, hpL] at h0
              exact absurd (by cases h0; exact hk0) hkk
            · omega
      by_cases hl : t.led = true
      · exact wp_if_neg (by simp [hl]) body
      · refine wp_if_pos (by simp [hl]) (wpAny_bind (tup_unseen hx (fun y hy => ?_) (wp_if_neg (by decide) body)))
        obtain ⟨e, he, rfl⟩ := List.mem_map.mp hy
        have he2 : e ∈ es.toList := by
          rw [Array.toList_filter] at he
          exact (List.mem_filter.mp he).1
        rw [R.en] at he2
        obtain ⟨p2, hp2, rfl⟩ := List.mem_map.mp he2
        exact ⟨p2.2, p2.1, rfl, R.ks p2 hp2⟩
    · have hp' : t.probe (fun i => (es[i]?.map (·.1)).getD 0) (kh P w k) (st.getD (t.probeStart (kh P w k))) = some (.empty (pr P w t k K).j none) := by
        rw [hst, show (pr P w t k K).j = (nth t.mask (pr P w t k c) (K - c)).j by rw [nt, show c + (K - c) = K by omega]]
        exact hp
      rw [hp']
      simp only []
      refine wpAny_pure (hout fun hm => ?_)
      obtain ⟨p0, h0, hk0⟩ := List.mem_map.mp hm
      obtain ⟨i0, hi0⟩ := List.getElem?_of_mem h0
      obtain ⟨d, d1, d2, d3⟩ := hre i0 p0 hi0 hk0
      exact hno (d - c) i0 (by omega) (by rw [nt, show c + (d - c) = d by omega]; exact d3) ((R.hash hi0).trans (by rw [hk0]))
theorem k_search (R : KSet P w s.heap a L es ep t) {x : Addr} {k : List Key} (hx : IsK P w s.heap k x) (hu : A.units < cLine) {Q : SetFound → Shared → Prop} (hin : k ∈ L.map (·.2) → Q (.there none) s)
    (hout : ∀ K, k ∉ L.map (·.2) → (pr P w t k K).j ∉ t.place.toList → (∀ c, c < K → (pr P w t k c).j ∈ t.place.toList) → Q (.free (pr P w t k K).j false) s) :
    wpAny (model P w) A (setSearch a (.ref x) (kh P w k) true) Q E s := by
  have hrm := R.rm
  obtain ⟨K, hf, hK, hb⟩ := R.tb.first (by rw [List.length_map]; omega) (kh P w k)
  have hm : t.mask ≤ 127 := by rcases R.tb.mok with e | e | e <;> omega
  unfold setSearch
  refine k_from R hx hu hf hK hb hin (fun hn => hout K hn hK hb) 100000 0 none rfl (Nat.zero_le _) (by unfold SetTable.turns at hf; omega) fun i p hp hk => ?_
  have hi : (L.map fun p => kh P w p.2)[i]? = some (kh P w k) := by rw [List.getElem?_map, hp, ← hk]; rfl
  have hil : i < t.place.toList.length := by
    have := (List.getElem?_eq_some_iff.mp hi).1
    rw [Array.length_toList, R.tb.sz]
    exact this
  have hj := List.getElem?_eq_getElem hil
  obtain ⟨c, hc, e⟩ := R.tb.before hK hi hj
  exact ⟨c, Nat.zero_le _, hc, by rw [hj]; exact congrArg some e.symm⟩
theorem TabOk.flag {hs : List Int} (T : TabOk t hs) (b : Bool) : TabOk { t with plain := b } hs := ⟨T.ris, T.dm, T.sz, T.mok, T.bd, T.reach⟩
theorem IsK.kept {h h' : Heap} {k : List Key} {b : Addr} (x : IsK P w h k b) (hk : ∀ o, h.get? b = some o → h'.get? b = some o) : IsK P w h' k b := by
  obtain ⟨o, its, n, ho, r⟩ := x
  exact ⟨o, its, n, hk o ho, r⟩
/-- a tuple isn't the set -/
theorem IsK.off {h h' : Heap} {k : List Key} {b : Addr} {o : Obj} {e2 : Array (Int × Value)} {n2 : Nat} {t2 : SetTable} (x : IsK P w h k b) (ho : h.get? a = some o) (hd : o.data = .set e2 n2 t2) (hs : Heap.SameBut a h h') : IsK P w h' k b := by
  refine x.kept fun o' ho' => ?_
  obtain ⟨o1, its, n, h1, _, h2, _⟩ := x
  have hne : b ≠ a := fun e => by
    rw [e, ho] at h1
    cases h1
    rw [hd] at h2
    cases h2
  exact (hs.2 b hne).trans ho'
theorem ents_order {order : Array Nat} (R : ∀ i : Nat, es[i]? = (L[i]?).map fun p => (kh P w p.2, Value.ref p.1)) (hp : order.toList.Perm (List.range L.length)) :
    ∃ L2, (order.filterMap (es[·]?)).toList = ents P w L2 ∧ L2.Perm L ∧ (order.toList.map fun i => (es.map (·.1)).getD i 0) = L2.map fun p => kh P w p.2 := by
  refine ⟨order.toList.filterMap fun i => L[i]?, ?_, ?_, ?_⟩
  · rw [Array.toList_filterMap, ents, List.map_filterMap]
    congr 1
    funext i
    exact R i
  · have all : ∀ n, n ≤ L.length → (List.range n).filterMap (fun i => L[i]?) = L.take n := fun n => by
      induction n with
      | zero => exact fun _ => rfl
      | succ n ih =>
        intro hn
        rw [List.range_succ, List.filterMap_append, ih (by omega), List.take_succ, List.filterMap_cons_some (List.getElem?_eq_getElem (show n < L.length by omega)), List.getElem?_eq_getElem (show n < L.length by omega)]
        rfl
    have := hp.filterMap fun i => L[i]?
    rwa [all _ (Nat.le_refl _), List.take_length] at this
  · have : ∀ l : List Nat, (∀ i ∈ l, i < L.length) → (l.map fun i => (es.map (·.1)).getD i 0) = (l.filterMap fun i => L[i]?).map fun p => kh P w p.2 := fun l => by
      induction l with
      | nil => exact fun _ => rfl
      | cons i l ih =>
        intro h
        have hi := h i (by simp)
        rw [List.map_cons, ih fun j hj => h j (by simp [hj]), List.filterMap_cons_some (List.getElem?_eq_getElem hi), List.map_cons]
        congr 1
        have := R i
        rw [List.getElem?_eq_getElem hi] at this
        simp [Array.getD_eq_getD_getElem?, this]
    exact this _ fun i hi => List.mem_range.mp (hp.mem_iff.mp hi)
/-- all but the places' number is there -/
structure KPre (P : Program) (w : World) (h : Heap) (a : Addr) (L : List (Addr × List Key)) (es : Array (Int × Value)) (ep : Nat) (t : SetTable) : Prop where
  ob : ∃ o, h.get? a = some o ∧ o.ExactSet ∧ o.data = .set es ep t
  en : es.toList = ents P w L
  tb : TabOk t (L.map fun p => kh P w p.2)
  nd : (L.map (·.2)).Nodup
  ks : ∀ p ∈ L, IsK P w h p.2 p.1
  fw : L.length < 64
  lm : L.length ≤ t.mask
theorem KPre.at_ {h : Heap} (R : KPre P w h a L es ep t) (i : Nat) : es[i]? = (L[i]?).map fun p => (kh P w p.2, Value.ref p.1) := by
  rw [← Array.getElem?_toList, R.en, ents, List.getElem?_map]
theorem KPre.size {h : Heap} (R : KPre P w h a L es ep t) : es.size = L.length := by
  rw [← Array.length_toList, R.en, ents_len]
theorem k_relay (R : KPre P w s.heap a L es ep t) {wanted M : Nat} (hw : SetTable.sizeAbove wanted - 1 = M) (hM : MaskOk M) (hw2 : SetTable.sizeAbove wanted ≤ 128) (hn : L.length * 5 < M * 3) {Q : Unit → Shared → Prop}
    (hQ : ∀ h' L' es' ep' t', Heap.SameBut a s.heap h' → KSet P w h' a L' es' ep' t' → L'.Perm L → Q () { s with heap := h' }) : wpAny (model P w) A (setRelay a wanted) Q E s := by
  obtain ⟨o, ho, hex, hd⟩ := R.ob
  have hsz := R.size
  have hfit : t.fits es.size = true := tab_fits R.tb (by simp; omega) (by rw [hsz]; exact R.lm)
  obtain ⟨t', order, e, hp, T, em, el, ep', ed⟩ := relaid_ok t (hs := es.map (·.1)) (wanted := wanted) hw hM (by rw [Array.size_map, hsz]; omega)
  rw [Array.size_map, hsz] at hp
  obtain ⟨L2, r1, r2, r3⟩ := ents_order R.at_ hp
  rw [r3] at T
  have hs2 : (order.filterMap (es[·]?)).size = es.size := by
    rw [← Array.length_toList, r1, ents_len, r2.length_eq, hsz]
  have hfw := R.fw
  rw [setRelay_eq]
  refine wpAny_bind (wpAny_setState_of ho hd hfit ?_)
  simp only []
  refine wp_if_neg (by rw [sizeLine_eq]; omega) ?_
  rw [e]
  simp only []
  refine wpAny_bind (wp_if_neg (by rw [hs2]; simp) (wpAny_pure ?_))
  simp only []
  refine wpAny_storeSet_of ho hd ?_ (by rw [hs2, hsz, sizeLine_eq]; omega)
  have sb : Heap.SameBut a s.heap (s.heap.update a (Obj.putSet (order.filterMap (es[·]?)) t')) := Heap.SameBut.update ..
  exact hQ _ L2 _ (ep + 1) t' sb ⟨⟨_, store_at ho hd, ⟨hex.1, hex.2.1, hex.2.2⟩, rfl⟩, r1, T, (r2.map (·.2)).nodup_iff.mpr R.nd, fun p hp => (R.ks p (r2.mem_iff.mp hp)).off ho hd sb, by rw [r2.length_eq, em]; exact hn, by rw [r2.length_eq]; exact R.fw⟩ r2
theorem k_add (R : KSet P w s.heap a L es ep t) {x : Addr} {k : List Key} (hx : IsK P w s.heap k x) (hu : A.units < cLine) (hfw : L.length + 1 < 64) {Q : Bool → Shared → Prop}
    (hQ : ∀ b h' L' es' ep' t', Heap.SameBut a s.heap h' → KSet P w h' a L' es' ep' t' → (k ∈ L.map (·.2) → L' = L) → (k ∉ L.map (·.2) → L'.Perm ((x, k) :: L)) → Q b { s with heap := h' }) :
    wpAny (model P w) A (setAddHashed a (.ref x) (kh P w k)) Q E s := by
  obtain ⟨o, ho, hex, hd⟩ := R.ob
  have hsz := R.size
  have hrm := R.rm
  unfold setAddHashed
  rw [show (100000 : Nat) = 99999 + 1 from rfl, setAddHashedIn_succ]
  refine wpAny_holding (wpAny_bind (wpAny_setState_of ho hd R.fits ?_))
  simp only []
  refine wp_if_neg (by simp [byScan, Value.scannable]) ?_
  refine wpAny_bind (k_search R hx hu (fun hm => ?_) fun K hm hK hb => ?_)
  · simp only []
    exact wpAny_pure (hQ false s.heap L es ep t (Heap.SameBut.refl a s.heap) R (fun _ => rfl) fun z => absurd hm z)
  · simp only []
    refine wpAny_bind (wpAny_setState_of ho hd R.fits ?_)
    simp only []
    obtain ⟨q1, q2, q3, q4, _, _, _, _, q9⟩ := R.tb.put (h := kh P w k) (K := K) hK hb
    change (t.put (pr P w t k K).j).2 = _ at q1
    generalize hp : SetTable.below t.place (way t.mask (kh P w k) K) = p at q1 q2 q3
    change TabOk (t.put (pr P w t k K).j).1 _ at q3
    change (t.put (pr P w t k K).j).1.mask = _ at q4
    change (t.put (pr P w t k K).j).1.fill = _ at q9
    generalize t.put (pr P w t k K).j = pt at q1 q3 q4 q9 ⊢
    obtain ⟨t1, p1⟩ := pt
    simp only [] at q1 q3 q4 q9 ⊢
    subst q1
    have pm := put_perm L p1 (x, k)
    have hin : (SetTable.insertAt es p1 (kh P w k, Value.ref x)).toList = ents P w (L.take p1 ++ (x, k) :: L.drop p1) := by
      rw [SetTable.toList_insertAt, R.en]
      simp [ents]
    have hhs : (L.map fun p => kh P w p.2).take p1 ++ kh P w k :: (L.map fun p => kh P w p.2).drop p1 = (L.take p1 ++ (x, k) :: L.drop p1).map fun p => kh P w p.2 := by simp
    rw [hhs] at q3
    generalize SetTable.insertAt es p1 (kh P w k, Value.ref x) = es1 at hin ⊢
    generalize L.take p1 ++ (x, k) :: L.drop p1 = L1 at pm q3 hin
    have hlen : L1.length = L.length + 1 := pm.length_eq
    have hes : es1.size = L.length + 1 := by rw [← Array.length_toList, hin, ents_len, hlen]
    have rest : ∀ b : Bool, wpAny (model P w) A (do
        let t := if b = true then t1 else { t1 with plain := false }
        storeSet a es1 t
        if (!false && t.tooFull) = true then setRelay a (SetTable.grown (es.size + 1))
        return true) Q E s := fun b => by
      obtain ⟨t2, e2⟩ : ∃ t2, t2 = if b = true then t1 else { t1 with plain := false } := ⟨_, rfl⟩
      have T2 : TabOk t2 (L1.map fun p => kh P w p.2) ∧ t2.mask = t.mask ∧ t2.fill = L.length + 1 := by
        rw [List.length_map] at q9
        rw [e2]
        split
        · exact ⟨q3, q4, q9⟩
        · exact ⟨TabOk.flag q3 false, q4, q9⟩
      obtain ⟨T2, em, ef⟩ := T2
      simp only []
      rw [← e2]
      refine wpAny_bind (wpAny_storeSet_of ho hd ?_ (by rw [hes, sizeLine_eq]; omega))
      have sb : Heap.SameBut a s.heap (s.heap.update a (Obj.putSet es1 t2)) := Heap.SameBut.update ..
      have ho1 := store_at (es' := es1) (t' := t2) ho hd
      generalize s.heap.update a (Obj.putSet es1 t2) = h1 at sb ho1 ⊢
      have pre : KPre P w h1 a L1 es1 (ep + 1) t2 := ⟨⟨_, ho1, ⟨hex.1, hex.2.1, hex.2.2⟩, rfl⟩, hin, T2, (pm.map (·.2)).nodup_iff.mpr (List.nodup_cons.mpr ⟨hm, R.nd⟩), fun p hp => by
        rcases List.mem_cons.mp (pm.mem_iff.mp hp) with e | hp
        · rw [e]; exact hx.off ho hd sb
        · exact (R.ks p hp).off ho hd sb, by rw [hlen]; exact hfw, by rw [hlen, em]; omega⟩
      by_cases hf : t2.tooFull = true
      · have full : (L.length + 1) * 5 ≥ t.mask * 3 := by
          have h := hf
          unfold SetTable.tooFull at h
          rw [decide_eq_true_eq, ef, em] at h
          exact h
        refine wp_if_pos (by simp [hf]) (wpAny_bind ?_)
        rw [hsz]
        have go : ∀ M, SetTable.sizeAbove (SetTable.grown (L.length + 1)) - 1 = M → MaskOk M → SetTable.sizeAbove (SetTable.grown (L.length + 1)) ≤ 128 → (L.length + 1) * 5 < M * 3 →
            wpAny (model P w) A (setRelay a (SetTable.grown (L.length + 1))) (fun _ s' => wpAny (model P w) A (pure true) Q E s') E { s with heap := h1 } := fun M h1' h2' h3' h4' =>
          k_relay (s := { s with heap := h1 }) pre h1' h2' h3' (by rw [hlen]; exact h4') fun h2 L2 es2 ep2 t3 sb2 R2 pm2 => wpAny_pure (hQ true h2 L2 es2 ep2 t3 (sb.trans sb2) R2 (fun z => absurd z hm) fun _ => pm2.trans pm)
        have two : L.length = 4 ∨ L.length = 18 := by
          rcases R.tb.mok with e | e | e <;> rw [e] at full hrm <;> omega
        rcases two with e | e
        · exact go 31 (by rw [e, size_20]) (.inr (.inl rfl)) (by rw [e, size_20]; decide) (by omega)
        · exact go 127 (by rw [e, size_76]) (.inr (.inr rfl)) (by rw [e, size_76]; decide) (by omega)
      · refine wp_if_neg (by simp [hf]) (wpAny_pure (hQ true h1 L1 es1 (ep + 1) t2 sb ⟨pre.ob, hin, T2, pre.nd, pre.ks, ?_, pre.fw⟩ (fun z => absurd z hm) fun _ => pm))
        have h := hf
        unfold SetTable.tooFull at h
        rw [decide_eq_true_eq, ef] at h
        rw [hlen]
        omega
    by_cases hpl : t1.plain = true
    · first
        | exact wp_if_pos hpl (wpAny_bind (tup_hash hx rest))
        | exact wpAny_bind (wp_if_pos hpl (tup_hash hx rest))
    · first
        | exact wp_if_neg hpl (wpAny_bind (wpAny_pure (rest true)))
        | exact wpAny_bind (wp_if_neg hpl (wpAny_pure (rest true)))
        | exact wp_if_neg hpl (rest true)
end
end PyD

set_option Elab.async false
set_option linter.all false
set_option maxRecDepth 100000
set_option maxHeartbeats 4000000
/-! enumerate(tuple). -/
namespace PyD
open PySem PySem.Spec PyProof.Rows L2
open AutoSeq1 (wpAny_loadPart')
theorem meets_enumT (l : Addr) (items : Array Value) (n : Nat) (dct : Option Addr) (sl : Array (Option Value)) :
    Meets (Builtin.«enumerate.__new__» ⟨[.type "enumerate", .ref l], []⟩) (fun _ R s => s.heap.get? l = some { cls := .type "tuple", dict := dct, data := .seq items n, slots := sl } ∧
      R (.ok (.ret (.ref (s.heap.push { cls := .type "tuple_iterator", data := .fields #[.ref l, .int 0 0] }).objs.size)))
        { s with heap := (s.heap.push { cls := .type "tuple_iterator", data := .fields #[.ref l, .int 0 0] }).push { cls := .type "enumerate", data := .fields #[.none, .bool false, .ref s.heap.objs.size, rawInt 0, .none, .none] } }) :=
  .of_wp fun prog w A R s h => by
    obtain ⟨hp, g, d, tk, os⟩ := s; obtain ⟨hl, h⟩ := h
    have hsub := sub_enumerate
    have hL : Heap.IsTuple (Shared.heap ⟨hp, g, d, tk, os⟩) l items := ⟨_, hl, rfl, n, rfl⟩
    wp_walk using wpAny_loadPart' hl
    refine wpAny_stack_any fun st => wpAny_pure ?_
    split
    · rename_i c _ _ _ _ _
      cases (c == Value.type "enumerate")
      · wp_walk using wpAny_loadPart' hl, wpAny_pyIter_tuple hL
        exact ⟨_, rfl, h⟩
      · wp_walk using wpAny_loadPart' hl, wpAny_pyIter_tuple hL
        exact ⟨_, rfl, h⟩
    · wp_walk using wpAny_loadPart' hl, wpAny_pyIter_tuple hL
      exact ⟨_, rfl, h⟩
section
variable {prog : Program} {w : World} {A : Around} {E : Value → Shared → Prop} {s : Shared}
theorem call_enumT {l : Addr} {items : Array Value} {Q : Value → Shared → Prop} (hL : s.heap.IsTuple l items)
    (h : ∀ h', IsEnum h' (s.heap.objs.size + 1) s.heap.objs.size 0 .none → h'.IsTupleIter s.heap.objs.size l 0 → h'.objs.size = s.heap.objs.size + 2 →
      (∀ b o, s.heap.get? b = some o → h'.get? b = some o) → Q (.ref (s.heap.objs.size + 1)) { s with heap := h' }) :
    wpAny (model prog w) A (call (.type "enumerate") [.ref l]) Q E s := by
  obtain ⟨⟨c, dct, dt, sl⟩, hl, hc, n, hd⟩ := hL
  replace hc : c = .type "tuple" := hc
  replace hd : dt = .seq items n := hd
  subst hc hd
  refine callType_new F.called_enumerate (by decide) (F.typeCall_enumerate_1 _) (F.newCall_enumerate_1 _) (fun obj => F.args_object_init_2 obj _) F.entry_enumerate_new
    (meets_enumT l items n dct sl) ⟨hl, ?_⟩
  have hz : (s.heap.push { cls := .type "tuple_iterator", data := .fields #[.ref l, .int 0 0] }).objs.size = s.heap.objs.size + 1 := Heap.size_push ..
  show _ ∧ _
  rw [hz]
  have he : IsEnum ((s.heap.push { cls := .type "tuple_iterator", data := .fields #[.ref l, .int 0 0] }).push
      { cls := .type "enumerate", data := .fields #[.none, .bool false, .ref s.heap.objs.size, rawInt 0, .none, .none] }) (s.heap.objs.size + 1) s.heap.objs.size 0 .none := by
    have := Heap.get?_push_size (s.heap.push { cls := .type "tuple_iterator", data := .fields #[.ref l, .int 0 0] })
      (o := { cls := .type "enumerate", data := .fields #[.none, .bool false, .ref s.heap.objs.size, rawInt 0, .none, .none] }) rfl
    rw [hz] at this; exact this
  refine ⟨⟨_, he, rfl⟩, h _ he ⟨_, Heap.get?_push_of_some _ (Heap.get?_push_size _ rfl), rfl, rfl⟩ (by rw [Heap.size_push, hz]) fun b o x => Heap.get?_push_of_some _ (Heap.get?_push_of_some _ x)⟩
end
/-- the tuple at a, each item in a new pair -/
def IteT (K : PySem.W.Frag) (a : Addr) : It :=
  ⟨fun i H => ∃ (xs : List V) (x : V), SqT K H a xs ∧ xs[i]? = some x, fun i H v H' => ∃ T x, v = .ref T ∧ H T = none ∧ H' = upd H T (.tup [.int (i : Nat), x]) ∧ ∀ xs, SqT K H a xs → xs[i]? = some x, fun i H => ∃ xs : List V, SqT K H a xs ∧ xs.length ≤ i⟩
theorem turn_enumT {P : Program} {w : World} {K : PySem.W.Frag} {elts : List Expr} {kk : Nat} {tpos : Pos} (a e it : Addr) :
    Turn P w K (.Tuple elts kk tpos) (IteT K a) [e, it] e (fun i h => (∃ old, IsEnum h e it ((i : Nat) : Int) old) ∧ h.IsTupleIter it a i ∧ e ≠ it ∧ a ≠ it) where
  mem := by simp
  obj := fun i h st b hb => by
    obtain ⟨⟨old, he⟩, ⟨o, ho, hc, hd⟩, _⟩ := st
    have e' : b = e ∨ b = it := by simpa using hb
    rcases e' with z | z
    · rw [z]; exact ⟨_, he, fun v q => nomatch q⟩
    · rw [z]; exact ⟨o, ho, fun v q => by rw [hd] at q; cases q⟩
  keep := fun i h h' st k => let ⟨⟨old, he⟩, hi, hne⟩ := st; ⟨⟨old, k e (by simp) _ he⟩, hi.at fun o q => k it (by simp) o q, hne⟩
  item := by
    intro X hP hw hK hc i pins s σ H E I hf st hg
    subst hP hw hK
    obtain ⟨⟨old, he⟩, hit, hne, hai⟩ := st
    obtain ⟨xs, x, hq, hx⟩ := hg
    obtain ⟨its, rv, p, hz⟩ := I.tuple hq
    obtain ⟨u, hu, ru⟩ := rv.get hx
    have hel : e < s.heap.objs.size := Heap.lt_size he
    have hil : it < s.heap.objs.size := by obtain ⟨_, q, _⟩ := hit; exact Heap.lt_size q
    have hh : X.A.in1.handled = none := I.ok.hd hc
    have hpt : s.heap.IsTuple a its.toArray := p
    have hlt : i < its.toArray.size := by
      have := (List.getElem?_eq_some_iff.mp hu).1
      simpa using this
    refine wpAny_pyNext_enum_itemD (Draws.tuple hh it a hai its.toArray) he ⟨hit, hpt⟩ hlt hne (fun hm => ?_) fun y h' tk hy ho hst' hT hsz hk => ?_
    · have hm' : e = it ∨ e = a := by simpa using hm
      rcases hm' with z | z
      · exact hne z
      · subst z
        obtain ⟨o, e1, e2, _⟩ := hpt
        rw [he] at e1
        cases e1
        exact absurd e2 (show ¬ (Value.type "enumerate" = Value.type "tuple") from by decide)
    obtain ⟨hit', _⟩ := hst'
    have hyu : y = u := by
      have h1 : its[i]? = some y := by simpa using hy
      rw [hu] at h1
      exact (Option.some.inj h1).symm
    subst hyu
    refine ⟨_, rfl, wpAny_letOwnedTupleGo_enum (s := { s with heap := h', toks := tk + 1 }) ho fun h'' he' sb => ?_⟩
    have hT2 : h''.get? s.heap.objs.size = some { cls := .type "tuple", data := .seq #[.int i tk, y] } := (sb.2 _ (Nat.ne_of_gt hel)).trans hT
    have new : ObjOk X.prog X.w (upd H s.heap.objs.size (.tup [.int (i : Nat), x])) h'' s.heap.objs.size (.tup [.int (i : Nat), x]) :=
      ⟨by show 2 ≤ sizeLine; decide, [.int i tk, y], .cons ⟨_, rfl⟩ (.cons ru .nil), ⟨_, hT2, rfl, _, rfl⟩⟩
    have I1 : Inv X pins σ (upd H s.heap.objs.size (.tup [.int (i : Nat), x])) { s with heap := h'', toks := tk + 1 } :=
      I.turnedNew (ch := [e, it]) (fun b ob hb q => (sb.2 b (fun z => hb (by simp [z]))).trans (hk b ob (fun z => hb (by simp [z])) (fun z => hb (by simp [z])) q)) hf (Nat.le_refl _) new
    refine ⟨.ref s.heap.objs.size, _, I1, rfl, ⟨_, x, rfl, I.hok.fresh (Nat.le_refl _), rfl, fun ys hy => by rw [I.tuple_inj hy hq]; exact hx⟩, ⟨⟨y, ?_⟩, hit'.at fun o q => (sb.2 it (Ne.symm hne)).trans q, hne, hai⟩, fun b hb => ?_⟩
    · have e1 : ((i + 1 : Nat) : Int) = (i : Int) + 1 := by omega
      rw [e1]; exact he'
    · have hb' : b < s.heap.objs.size := by
        have e' : b = e ∨ b = it := by simpa using hb
        rcases e' with z | z
        · rw [z]; exact hel
        · rw [z]; exact hil
      rw [upd_ne (Nat.ne_of_lt hb')]
      exact (hf b hb).1
  done := by
    intro X hP hw hK hc i pins s σ H E I hf st hg
    subst hP hw hK
    obtain ⟨⟨old, he⟩, hit, hne, hai⟩ := st
    obtain ⟨xs, hq, hx⟩ := hg
    obtain ⟨its, rv, p, hz⟩ := I.tuple hq
    obtain ⟨f0, f1, f2, f3, f4, f5⟩ := hf it (by simp)
    have hl := rv.length
    have hh : X.A.in1.handled = none := I.ok.hd hc
    have hpt : s.heap.IsTuple a its.toArray := p
    have hd : its.toArray[i]? = none := by simp; omega
    have hT : s.TypeIs (.ref e) "enumerate" := ⟨_, he, rfl⟩
    unfold pyNext
    refine wpAny_bind (wpAny_attempt (wpAny_callSpecial?_slot (name := Str.ofString "__next__") hT F.slot_enumerate_next
      (wpAny_call_entry F.slot_enumerate_next hT F.entry_enumerate_next ?_ (F.args_enumerate_next_1 _))))
    show wpAny _ _ (field (.ref e) 2 >>= _) _ _ _
    refine wpAny_bind (wpAny_field he rfl (x := .ref it) rfl ?_)
    refine wpAny_bind (wpAny_nextOf_tuple_end hh hit hpt hd fun h' x he' hx' => ?_)
    obtain ⟨o, ho, hcx⟩ := hx'
    refine wpAny_bind (wpAny_isInstance (T := "StopIteration") (b := true) ⟨o, ho, hcx⟩ isSubtype_stop ?_)
    exact wpAny_pure ⟨rfl, I.turned (t' := s.toks) (fun b o hb q => he' b o hb q) f0 f1 f3 f4 f5⟩
  self := fun A i s Q E st h => let ⟨⟨_, he⟩, _⟩ := st; wpAny_pyIter_enum he h
def iEnumA (K : PySem.W.Frag) (ta : TA) : TI := fun σ H R => ta σ H fun vs H1 => ∃ a xs, vs = [.ref a] ∧ ((SqL K H1 a xs ∧ R (Ite K a) H1) ∨ (SqT K H1 a xs ∧ R (IteT K a) H1))
theorem pi_enumA {X : Cx} {e : Expr} {ta : TA} {p pos tpos : Pos} {elts : List Expr} {kk : Nat} (hg : Gl X "enumerate") (hm : X.mg "enumerate" = none) (ha : PA X [e] ta) (hs : starEach [e] X.env = [(false, eval e X.env)] := by rfl) :
    PI X (.Tuple elts kk tpos) (.Call (.Name "enumerate" p) [e] [] pos) (iEnumA X.K ta) := by
  refine ⟨fun pins s σ H R I h => ?_⟩
  refine Call_ (ld_blt I hg hm boot_enumerate (PyProof.Rows.callWith_type1 (thn (ha.run pos pins s σ H _ I h) fun us s1 ⟨vs, H1, I1, r1, q1⟩ => ?_) hs rfl))
  obtain ⟨a, xs, ex, q⟩ := q1
  subst ex
  cases r1 with
  | cons r rr =>
    cases rr
    cases r
    have fp : ∀ b ∈ [s1.heap.objs.size + 1, s1.heap.objs.size], FpOk X pins H1 b := fun b hb => by
      have e' : b = s1.heap.objs.size + 1 ∨ b = s1.heap.objs.size := by simpa using hb
      have hle : s1.heap.objs.size ≤ b := by
        rcases e' with z | z
        · rw [z]; exact Nat.le_add_right _ _
        · rw [z]; exact Nat.le_refl _
      exact I1.fpOk hle (I1.hok.fresh hle)
    rcases q with ⟨hq, q⟩ | ⟨hq, q⟩
    · obtain ⟨its, rv, p', hz⟩ := I1.list hq
      refine call_enumerate_list p'.isList fun h' he hit hsz hk => wpAny_pyIter_enum he ?_
      have I2 : Inv X pins σ H1 { s1 with heap := h' } := I1.kept (t' := s1.toks) hk
      exact ⟨s1.heap.objs.size + 1, [s1.heap.objs.size + 1, s1.heap.objs.size], _, _, H1, rfl, I2, turn_enum a (s1.heap.objs.size + 1) s1.heap.objs.size, ⟨⟨.none, he⟩, hit, Nat.succ_ne_self _⟩, fp, q⟩
    · obtain ⟨its, rv, p', hz⟩ := I1.tuple hq
      obtain ⟨ot, hot, _⟩ := id p'
      refine call_enumT (show s1.heap.IsTuple a its.toArray from p') fun h' he hit hsz hk => wpAny_pyIter_enum he ?_
      have I2 : Inv X pins σ H1 { s1 with heap := h' } := I1.kept (t' := s1.toks) hk
      exact ⟨s1.heap.objs.size + 1, [s1.heap.objs.size + 1, s1.heap.objs.size], _, _, H1, rfl, I2, turn_enumT a (s1.heap.objs.size + 1) s1.heap.objs.size, ⟨⟨.none, he⟩, hit, Nat.succ_ne_self _, Nat.ne_of_lt (Heap.lt_size hot)⟩, fp, q⟩
end PyD

set_option Elab.async false
set_option linter.all false
set_option maxRecDepth 100000
set_option maxHeartbeats 4000000
/-! () * int: the tuple itself. -/
namespace PyD
open PySem PySem.Spec PyProof.Rows L2
theorem tuple_mulE (l : Addr) (n : Nat) (dd : Option Addr) (sl : Array (Option Value)) (x : Int) (u : Tok) (c0 : (decide (x < -(2 ^ 63)) || decide (x ≥ 2 ^ 63)) = false) :
    Meets (Builtin.«tuple.__mul__» ⟨[.ref l, .int x u], []⟩) (fun _ R s => s.heap.get? l = some { cls := .type "tuple", dict := dd, data := .seq #[] n, slots := sl } ∧
      R (.ok (.ret (Value.ref l))) s) :=
  .of_wp fun prog w A R s h => by
    obtain ⟨hp, g, d, tk, os⟩ := s
    obtain ⟨hl, h⟩ := h
    have f1 := AutoSeq1.idx_int
    have f2 := AutoSeq1.sub_tuple_tuple
    wp_walk using wpAny_loadPart' hl
    repeat (first
      | (refine wpAny_ite_false (decide_eq_false (by rw [c0]; exact Bool.false_ne_true)) ?_; wp_walk using wpAny_loadPart' hl)
      | (refine wpAny_ite_true (decide_eq_true rfl) ?_; wp_walk using wpAny_loadPart' hl))
    exact ⟨_, rfl, h⟩
def rMulE (K : PySem.W.Frag) : R2 := fun x y H Q => ∃ l k, x = .ref l ∧ y = .int k ∧ SqT K H l [] ∧ -(2 ^ 63) ≤ k ∧ k < 2 ^ 63 ∧ Q (.ref l) H
theorem or_mulE {X : Cx} : OpR X (binaryOp .Mult) (rMulE X.K) := by
  intro pins s σ H x y v u Q I rx ry h
  obtain ⟨l, k, rfl, rfl, hT, h1, h2, q⟩ := h
  cases rx
  obtain ⟨t, rfl⟩ := ry
  obtain ⟨its, r, ⟨⟨cls, dd, data, sl⟩, ho, hc, n, hd⟩, hs⟩ := I.tuple hT
  simp only at hc hd
  subst hc hd
  cases r
  have c0 : (decide (k < -(2 ^ 63)) || decide (k ≥ 2 ^ 63)) = false := by
    rw [decide_eq_false (by omega), decide_eq_false (by omega)] <;> rfl
  exact wpAny_binaryOp_repeat_ref (T := "tuple") (U := "int") (by decide) ⟨_, ho, rfl⟩ (fun s' => typeIs_int s' k t) noFill_tuple_mul F.fills_int_mul F.slot_int_rmul repeat_tuple F.slot_int_index.lookup
    (call_meets F.slot_int_rmul (typeIs_int s k t) F.entry_int_rmul (F.args_int_rmul_2 _ _) (int_rmul_tuple k t l #[] n dd sl)
      ⟨ho, rfl, ⟨_, ho, rfl⟩, call_meets F.slot_tuple_mul ⟨_, ho, rfl⟩ F.entry_tuple_mul (F.args_tuple_mul_2 _ _) (tuple_mulE l n dd sl k t c0) ⟨ho, ⟨.ref l, H, I, rfl, q⟩⟩⟩)
end PyD

set_option Elab.async false
set_option linter.all false
set_option maxRecDepth 100000
set_option maxHeartbeats 4000000
/-! A data-level evaluator for a part of Python, shown sound over the hand layer: values, stores, how they lie in the abstract heap. -/
namespace PyD
open PySem PySem.Spec L2
abbrev Sl := L2.St

/-- a dict's key: an int or a text; a tuple of such -/
inductive DK where
  | k (k : Key) | t (ks : List Key)
  deriving DecidableEq

/-- data: immutable values; lists and dicts that nobody changes any more; ref n: the n-th object of the store -/
inductive D where
  | non | bl (b : Bool) | int (i : Int) | str (x : Str)
  | tup (ds : List D) | lst (ds : List D) | dct (t : Bool) (ks : List DK) (ds : List D)
  | ref (n : Nat) | glb (x : Str) | ktup (ds : List D)
def leafKey : D → Option Key
  | .int i => some (.inl i)
  | .str x => some (.inr x)
  | _ => none
def leafKeys : List D → Option (List Key)
  | [] => some []
  | d :: ds => match leafKey d, leafKeys ds with
    | some k, some ks => some (k :: ks)
    | _, _ => none
/-- a tuple that may be a key -/
def leafB (ds : List D) : Bool := (leafKeys ds).isSome
def isTupO : HO → Bool
  | .tup _ => true
  | .frz _ (.tup _) => true
  | _ => false
/-- a tuple's object: those that are no keys are known to have no dict of their own -/
def tupO (b : Bool) (o : Obj) (vs : List V) : HO := match b with
  | true => .tup vs
  | false => .frz o (.tup vs)
theorem isTupO_tup {b : Bool} {o : Obj} {vs : List V} : isTupO (tupO b o vs) = true := by cases b <;> rfl
def TupAt (H : Hp) (b : Bool) (a : Addr) (vs : List V) : Prop := ∃ o : Obj, o.dict = none ∧ H a = some (tupO b o vs)
theorem TupAt.sq {K : PySem.W.Frag} {H : Hp} {b : Bool} {a : Addr} {vs : List V} (h : TupAt H b a vs) : SqT K H a vs := by
  obtain ⟨o, _, h⟩ := h
  cases b with
  | true => exact SqT.of h
  | false => exact .inl (.inr ⟨o, h⟩)
theorem TupAt.isT {H : Hp} {b : Bool} {a : Addr} {vs : List V} (h : TupAt H b a vs) : ∃ o, H a = some o ∧ isTupO o = true := by
  obtain ⟨o, _, h⟩ := h
  exact ⟨_, h, isTupO_tup⟩
theorem TupAt.to {H H' : Hp} {b : Bool} {a : Addr} {vs : List V} (h : TupAt H b a vs) (k : ∀ o, H a = some o → H' a = some o) : TupAt H' b a vs := by
  obtain ⟨o, h1, h⟩ := h
  exact ⟨o, h1, k _ h⟩
theorem TupAt.key {H : Hp} {a : Addr} {vs : List V} (h : TupAt H true a vs) : H a = some (.tup vs) := by
  obtain ⟨o, _, h⟩ := h
  exact h
/-- an object of the store -/
inductive M where
  | lst (ds : List D) | dct (t : Bool) (ks : List DK) (ds : List D) | ro (ds : List D)
abbrev Store := List M
abbrev Env := List (Option D)

/-- how a run ends -/
inductive R (α : Type) where
  | ok (a : α) (μ : Store) | exc (c : Str) (μ : Store) | bad
namespace R
def bind {α β : Type} (r : R α) (k : α → Store → R β) : R β := match r with
  | .ok a μ => k a μ
  | .exc c μ => .exc c μ
  | .bad => .bad
def noexc {α : Type} (r : R α) : R α := match r with
  | .exc _ _ => .bad
  | r => r
end R

/-- what stands around: the written part, the module's names -/
structure G where
  K : PySem.W.Frag
  mg : Str → Option Value
  /-- addresses of objects that are being filled: no value stands there -/
  B : List Addr
abbrev G.b (g : G) (B : List Addr) : G := { g with B := B }

def dkK : List DK → Option (List Key)
  | [] => some []
  | .k k :: r => (dkK r).map (k :: ·)
  | .t _ :: _ => none
def dkT : List DK → Option (List (List Key))
  | [] => some []
  | .t k :: r => (dkT r).map (k :: ·)
  | .k _ :: _ => none

mutual
inductive Rep (g : G) (H : Hp) (ι : List Addr) : D → V → Prop
  | non : Rep g H ι .non .non
  | bl (b : Bool) : Rep g H ι (.bl b) (.bl b)
  | int (i : Int) : Rep g H ι (.int i) (.int i)
  | str (x : Str) : Rep g H ι (.str x) (.str x)
  | tup {a : Addr} {vs : List V} {ds : List D} : TupAt H (leafB ds) a vs → RepL g H ι ds vs → Rep g H ι (.tup ds) (.ref a)
  | lst {a : Addr} {vs : List V} {ds : List D} : H a = some (.lst vs) → a ∉ ι → a ∉ g.B → RepL g H ι ds vs → Rep g H ι (.lst ds) (.ref a)
  | dctK {a : Addr} {kvs : List (Key × V)} {ks : List DK} {ds : List D} : H a = some (.dK kvs) → a ∉ ι → a ∉ g.B → dkK ks = some (kvs.map (·.1)) → RepL g H ι ds (kvs.map (·.2)) → Rep g H ι (.dct false ks ds) (.ref a)
  | dctT {a : Addr} {kvs : List (List Key × V)} {ks : List DK} {ds : List D} : H a = some (.dT kvs) → a ∉ ι → a ∉ g.B → dkT ks = some (kvs.map (·.1)) → RepL g H ι ds (kvs.map (·.2)) → Rep g H ι (.dct true ks ds) (.ref a)
  | ref {n : Nat} {a : Addr} : ι[n]? = some a → Rep g H ι (.ref n) (.ref a)
  | glb {x : Str} {a : Addr} : g.mg x = some (.ref a) → Rep g H ι (.glb x) (.ref a)
  | ktup {a : Addr} {vs : List V} {ds : List D} : SqT g.K (fun _ => none) a vs → RepL g H ι ds vs → Rep g H ι (.ktup ds) (.ref a)
  | pair {a : Addr} {vs : List V} {ds : List D} : H a = some (.tup vs) → RepL g H ι ds vs → Rep g H ι (.ktup ds) (.ref a)
inductive RepL (g : G) (H : Hp) (ι : List Addr) : List D → List V → Prop
  | nil : RepL g H ι [] []
  | cons {d : D} {v : V} {ds : List D} {vs : List V} : Rep g H ι d v → RepL g H ι ds vs → RepL g H ι (d :: ds) (v :: vs)
end

def leafV : V → Bool
  | .int _ => true
  | .str _ => true
  | _ => false
theorem leafB_cons {d : D} {ds : List D} : leafB (d :: ds) = ((leafKey d).isSome && leafB ds) := by
  unfold leafB
  rw [leafKeys]
  cases leafKey d <;> cases leafKeys ds <;> rfl
theorem leafB_rep {g : G} {H : Hp} {ι : List Addr} : ∀ {ds : List D} {vs : List V}, RepL g H ι ds vs → leafB ds = vs.all leafV
  | _, _, .nil => rfl
  | _, _, .cons a r => by
    rw [leafB_cons, leafB_rep r, List.all_cons]
    cases a <;> rfl
/-- the heap behind: what stood and is no object of the store stands as it was -/
structure Ext (H : Hp) (ι : List Addr) (H' : Hp) (ι' : List Addr) : Prop where
  pre : ∃ l, ι' = ι ++ l
  keep : ∀ a o, H a = some o → a ∉ ι → H' a = some o ∧ a ∉ ι'
theorem Ext.refl {H : Hp} {ι : List Addr} : Ext H ι H ι := ⟨⟨[], by simp⟩, fun _ _ h n => ⟨h, n⟩⟩
theorem Ext.trans {H H1 H2 : Hp} {ι ι1 ι2 : List Addr} (a : Ext H ι H1 ι1) (b : Ext H1 ι1 H2 ι2) : Ext H ι H2 ι2 := by
  obtain ⟨⟨l, e⟩, k⟩ := a
  obtain ⟨⟨l', e'⟩, k'⟩ := b
  exact ⟨⟨l ++ l', by rw [e', e, List.append_assoc]⟩, fun c o h n => let ⟨x, y⟩ := k c o h n; k' c o x y⟩
theorem Ext.get {H H' : Hp} {ι ι' : List Addr} (x : Ext H ι H' ι') {n : Nat} {a : Addr} (h : ι[n]? = some a) : ι'[n]? = some a := by
  obtain ⟨⟨l, e⟩, _⟩ := x
  rw [e, List.getElem?_append_left]
  · exact h
  · exact (List.getElem?_eq_some_iff.mp h).1
/-- tuples too stand in a heap, outside of the store's objects -/
structure WfH (H : Hp) (ι : List Addr) : Prop where
  tup : ∀ a o, H a = some o → isTupO o = true → a ∉ ι

mutual
theorem Rep.mono {g : G} {H H' : Hp} {ι ι' : List Addr} (x : Ext H ι H' ι') (wf : WfH H ι) : ∀ {d : D} {v : V}, Rep g H ι d v → Rep g H' ι' d v
  | _, _, .non => .non
  | _, _, .bl b => .bl b
  | _, _, .int b => .int b
  | _, _, .str b => .str b
  | _, _, .tup h r => .tup (let ⟨o, h1, h2⟩ := h.isT; h.to fun u hu => (x.keep _ _ hu (wf.tup _ _ h1 h2)).1) (RepL.mono x wf r)
  | _, _, .pair h r => .pair (x.keep _ _ h (wf.tup _ _ h rfl)).1 (RepL.mono x wf r)
  | _, _, .lst h n b r => .lst (x.keep _ _ h n).1 (x.keep _ _ h n).2 b (RepL.mono x wf r)
  | _, _, .dctK h n b k r => .dctK (x.keep _ _ h n).1 (x.keep _ _ h n).2 b k (RepL.mono x wf r)
  | _, _, .dctT h n b k r => .dctT (x.keep _ _ h n).1 (x.keep _ _ h n).2 b k (RepL.mono x wf r)
  | _, _, .ref h => .ref (x.get h)
  | _, _, .glb h => .glb h
  | _, _, .ktup h r => .ktup h (RepL.mono x wf r)
theorem RepL.mono {g : G} {H H' : Hp} {ι ι' : List Addr} (x : Ext H ι H' ι') (wf : WfH H ι) : ∀ {ds : List D} {vs : List V}, RepL g H ι ds vs → RepL g H' ι' ds vs
  | _, _, .nil => .nil
  | _, _, .cons a b => .cons (Rep.mono x wf a) (RepL.mono x wf b)
end
mutual
/-- fewer addresses are protected -/
theorem Rep.less {g : G} {H : Hp} {ι : List Addr} {B : List Addr} (x : ∀ b ∈ B, b ∈ g.B) : ∀ {d : D} {v : V}, Rep g H ι d v → Rep (g.b B) H ι d v
  | _, _, .non => .non
  | _, _, .bl b => .bl b
  | _, _, .int b => .int b
  | _, _, .str b => .str b
  | _, _, .tup h r => .tup h (RepL.less x r)
  | _, _, .pair h r => .pair h (RepL.less x r)
  | _, _, .lst h n b r => .lst h n (fun z => b (x _ z)) (RepL.less x r)
  | _, _, .dctK h n b k r => .dctK h n (fun z => b (x _ z)) k (RepL.less x r)
  | _, _, .dctT h n b k r => .dctT h n (fun z => b (x _ z)) k (RepL.less x r)
  | _, _, .ref h => .ref h
  | _, _, .glb h => .glb h
  | _, _, .ktup h r => .ktup h (RepL.less x r)
theorem RepL.less {g : G} {H : Hp} {ι : List Addr} {B : List Addr} (x : ∀ b ∈ B, b ∈ g.B) : ∀ {ds : List D} {vs : List V}, RepL g H ι ds vs → RepL (g.b B) H ι ds vs
  | _, _, .nil => .nil
  | _, _, .cons a b => .cons (Rep.less x a) (RepL.less x b)
end
mutual
/-- a free address is protected -/
theorem Rep.more {g : G} {H : Hp} {ι : List Addr} {p : Addr} (x : H p = none) : ∀ {d : D} {v : V}, Rep g H ι d v → Rep (g.b (p :: g.B)) H ι d v
  | _, _, .non => .non
  | _, _, .bl b => .bl b
  | _, _, .int b => .int b
  | _, _, .str b => .str b
  | _, _, .tup h r => .tup h (RepL.more x r)
  | _, _, .pair h r => .pair h (RepL.more x r)
  | _, _, .lst h n b r => .lst h n (fun z => (List.mem_cons.mp z).elim (ne_of_none h x) b) (RepL.more x r)
  | _, _, .dctK h n b k r => .dctK h n (fun z => (List.mem_cons.mp z).elim (ne_of_none h x) b) k (RepL.more x r)
  | _, _, .dctT h n b k r => .dctT h n (fun z => (List.mem_cons.mp z).elim (ne_of_none h x) b) k (RepL.more x r)
  | _, _, .ref h => .ref h
  | _, _, .glb h => .glb h
  | _, _, .ktup h r => .ktup h (RepL.more x r)
theorem RepL.more {g : G} {H : Hp} {ι : List Addr} {p : Addr} (x : H p = none) : ∀ {ds : List D} {vs : List V}, RepL g H ι ds vs → RepL (g.b (p :: g.B)) H ι ds vs
  | _, _, .nil => .nil
  | _, _, .cons a b => .cons (Rep.more x a) (RepL.more x b)
end
mutual
/-- a protected object comes into the store -/
theorem Rep.push {g : G} {H : Hp} {ι : List Addr} {p : Addr} : ∀ {d : D} {v : V}, Rep (g.b (p :: g.B)) H ι d v → Rep g H (ι ++ [p]) d v
  | _, _, .non => .non
  | _, _, .bl b => .bl b
  | _, _, .int b => .int b
  | _, _, .str b => .str b
  | _, _, .tup h r => .tup h (RepL.push r)
  | _, _, .pair h r => .pair h (RepL.push r)
  | _, _, .lst h n b r => .lst h (fun z => (List.mem_append.mp z).elim n fun z => b (List.mem_cons.mpr (.inl (List.mem_singleton.mp z)))) (fun z => b (List.mem_cons_of_mem _ z)) (RepL.push r)
  | _, _, .dctK h n b k r => .dctK h (fun z => (List.mem_append.mp z).elim n fun z => b (List.mem_cons.mpr (.inl (List.mem_singleton.mp z)))) (fun z => b (List.mem_cons_of_mem _ z)) k (RepL.push r)
  | _, _, .dctT h n b k r => .dctT h (fun z => (List.mem_append.mp z).elim n fun z => b (List.mem_cons.mpr (.inl (List.mem_singleton.mp z)))) (fun z => b (List.mem_cons_of_mem _ z)) k (RepL.push r)
  | _, _, .ref h => .ref (by rw [List.getElem?_append_left (List.getElem?_eq_some_iff.mp h).1]; exact h)
  | _, _, .glb h => .glb h
  | _, _, .ktup h r => .ktup h (RepL.push r)
theorem RepL.push {g : G} {H : Hp} {ι : List Addr} {p : Addr} : ∀ {ds : List D} {vs : List V}, RepL (g.b (p :: g.B)) H ι ds vs → RepL g H (ι ++ [p]) ds vs
  | _, _, .nil => .nil
  | _, _, .cons a b => .cons (Rep.push a) (RepL.push b)
end
section
variable {g : G} {H : Hp} {ι : List Addr}
theorem RepL.length : ∀ {ds : List D} {vs : List V}, RepL g H ι ds vs → ds.length = vs.length
  | _, _, .nil => rfl
  | _, _, .cons _ r => by simp [RepL.length r]
theorem RepL.get : ∀ {ds : List D} {vs : List V} {i : Nat} {d : D}, RepL g H ι ds vs → ds[i]? = some d → ∃ v, vs[i]? = some v ∧ Rep g H ι d v
  | _, _, _, _, .nil, e => by simp at e
  | _, _, 0, _, .cons a _, e => by simp at e; subst e; exact ⟨_, rfl, a⟩
  | _, _, i + 1, _, .cons _ r, e => by
    obtain ⟨v, h1, h2⟩ := RepL.get (i := i) r (by simpa using e)
    exact ⟨v, by simpa using h1, h2⟩
theorem RepL.getV : ∀ {ds : List D} {vs : List V} {i : Nat} {v : V}, RepL g H ι ds vs → vs[i]? = some v → ∃ d, ds[i]? = some d ∧ Rep g H ι d v
  | _, _, _, _, .nil, e => by simp at e
  | _, _, 0, _, .cons a _, e => by simp at e; subst e; exact ⟨_, rfl, a⟩
  | _, _, i + 1, _, .cons _ r, e => by
    obtain ⟨v, h1, h2⟩ := RepL.getV (i := i) r (by simpa using e)
    exact ⟨v, by simpa using h1, h2⟩
theorem RepL.append : ∀ {ds es : List D} {vs ws : List V}, RepL g H ι ds vs → RepL g H ι es ws → RepL g H ι (ds ++ es) (vs ++ ws)
  | _, _, _, _, .nil, s => s
  | _, _, _, _, .cons a r, s => .cons a (RepL.append r s)
theorem RepL.take : ∀ {ds : List D} {vs : List V} (n : Nat), RepL g H ι ds vs → RepL g H ι (ds.take n) (vs.take n)
  | _, _, 0, _ => .nil
  | _, _, _ + 1, .nil => .nil
  | _, _, n + 1, .cons a r => .cons a (RepL.take n r)
theorem RepL.drop : ∀ {ds : List D} {vs : List V} (n : Nat), RepL g H ι ds vs → RepL g H ι (ds.drop n) (vs.drop n)
  | _, _, 0, r => r
  | _, _, _ + 1, .nil => .nil
  | _, _, n + 1, .cons _ r => RepL.drop n r
theorem RepL.set {d : D} {v : V} (q : Rep g H ι d v) : ∀ {ds : List D} {vs : List V} (n : Nat), RepL g H ι ds vs → RepL g H ι (ds.set n d) (vs.set n v)
  | _, _, _, .nil => .nil
  | _, _, 0, .cons _ r => .cons q r
  | _, _, n + 1, .cons a r => .cons a (RepL.set q n r)
theorem RepL.reverse : ∀ {ds : List D} {vs : List V}, RepL g H ι ds vs → RepL g H ι ds.reverse vs.reverse
  | _, _, .nil => .nil
  | _, _, .cons a r => by
    rw [List.reverse_cons, List.reverse_cons]
    exact (RepL.reverse r).append (.cons a .nil)
theorem RepL.dropLast : ∀ {ds : List D} {vs : List V}, RepL g H ι ds vs → RepL g H ι ds.dropLast vs.dropLast := fun {ds vs} r => by
  rw [List.dropLast_eq_take, List.dropLast_eq_take, r.length]
  exact r.take _
theorem RepL.eraseIdx : ∀ {ds : List D} {vs : List V} (n : Nat), RepL g H ι ds vs → RepL g H ι (ds.eraseIdx n) (vs.eraseIdx n)
  | _, _, _, .nil => .nil
  | _, _, 0, .cons _ r => r
  | _, _, n + 1, .cons a r => .cons a (RepL.eraseIdx n r)
theorem RepL.flat : ∀ {ds : List D} {vs : List V} (n : Nat), RepL g H ι ds vs → RepL g H ι (List.replicate n ds).flatten (List.replicate n vs).flatten
  | _, _, 0, _ => .nil
  | _, _, n + 1, r => by
    rw [List.replicate_succ, List.replicate_succ, List.flatten_cons, List.flatten_cons]
    exact r.append (RepL.flat n r)
theorem RepL.ints {ns : List Int} : ∀ {vs : List V}, RepL g H ι (ns.map D.int) vs → vs = ns.map V.int := by
  induction ns with
  | nil => intro vs r; cases r; rfl
  | cons n r ih => intro vs q; cases q with | cons a b => cases a; rw [ih b]; rfl
theorem RepL.strs {ns : List Str} : ∀ {vs : List V}, RepL g H ι (ns.map D.str) vs → vs = ns.map V.str := by
  induction ns with
  | nil => intro vs r; cases r; rfl
  | cons n r ih => intro vs q; cases q with | cons a b => cases a; rw [ih b]; rfl
theorem RepL.bls {ns : List Bool} : ∀ {vs : List V}, RepL g H ι (ns.map D.bl) vs → vs = ns.map V.bl := by
  induction ns with
  | nil => intro vs r; cases r; rfl
  | cons n r ih => intro vs q; cases q with | cons a b => cases a; rw [ih b]; rfl
end

/-- an object of the store at its address -/
inductive RepObj (g : G) (H : Hp) (ι : List Addr) : M → Addr → Prop
  | lst {a : Addr} {vs : List V} {ds : List D} : H a = some (.lst vs) → RepL g H ι ds vs → RepObj g H ι (.lst ds) a
  | dctK {a : Addr} {kvs : List (Key × V)} {ks : List DK} {ds : List D} : H a = some (.dK kvs) → dkK ks = some (kvs.map (·.1)) → RepL g H ι ds (kvs.map (·.2)) → RepObj g H ι (.dct false ks ds) a
  | dctT {a : Addr} {kvs : List (List Key × V)} {ks : List DK} {ds : List D} : H a = some (.dT kvs) → dkT ks = some (kvs.map (·.1)) → RepL g H ι ds (kvs.map (·.2)) → RepObj g H ι (.dct true ks ds) a
  | ro {a : Addr} {o : Obj} {vs : List V} {ds : List D} : H a = some (.frz o (.lst vs)) → RepL g H ι ds vs → RepObj g H ι (.ro ds) a
structure MemRel (g : G) (H : Hp) (ι : List Addr) (μ : Store) : Prop where
  len : ι.length = μ.length
  nd : ι.Nodup
  nb : ∀ b ∈ g.B, b ∉ ι
  bs : ∀ b ∈ g.B, ∃ o, H b = some o ∧ isTupO o = false
  obj : ∀ (n : Nat) m, μ[n]? = some m → ∃ a, ι[n]? = some a ∧ RepObj g H ι m a
theorem RepObj.some {g : G} {H : Hp} {ι : List Addr} {m : M} {a : Addr} (r : RepObj g H ι m a) : ∃ o, H a = some o ∧ isTupO o = false := by
  cases r with
  | lst h _ => exact ⟨_, h, rfl⟩
  | dctK h _ _ => exact ⟨_, h, rfl⟩
  | dctT h _ _ => exact ⟨_, h, rfl⟩
  | ro h _ => exact ⟨_, h, rfl⟩
theorem MemRel.mem {g : G} {H : Hp} {ι : List Addr} {μ : Store} (r : MemRel g H ι μ) {a : Addr} (h : a ∈ ι) : ∃ (n : Nat) (m : M), ι[n]? = some a ∧ μ[n]? = some m ∧ RepObj g H ι m a := by
  obtain ⟨n, hn, e⟩ := List.getElem_of_mem h
  have hm : n < μ.length := by rw [← r.len]; exact hn
  obtain ⟨a', e', q⟩ := r.obj n μ[n] (List.getElem?_eq_getElem hm)
  have : a = a' := by
    rw [List.getElem?_eq_getElem hn, e] at e'
    exact Option.some.inj e'
  subst this
  exact ⟨n, _, e', List.getElem?_eq_getElem hm, q⟩
theorem MemRel.wf {g : G} {H : Hp} {ι : List Addr} {μ : Store} (r : MemRel g H ι μ) : WfH H ι := ⟨fun a u h hu z => by
  obtain ⟨n, m, _, _, q⟩ := r.mem z
  obtain ⟨o, ho, ht⟩ := q.some
  rw [h] at ho
  cases ho
  rw [hu] at ht
  cases ht⟩
theorem MemRel.notin {g : G} {H : Hp} {ι : List Addr} {μ : Store} (r : MemRel g H ι μ) {a : Addr} (h : H a = none) : a ∉ ι := fun z => by
  obtain ⟨n, m, _, _, q⟩ := r.mem z
  obtain ⟨o, ho, _⟩ := q.some
  rw [h] at ho
  cases ho
/-- a heap without these -/
def rmH (H : Hp) (B : List Addr) : Hp := fun a => if a ∈ B then none else H a
theorem rmH_in {H : Hp} {B : List Addr} {a : Addr} (h : a ∈ B) : rmH H B a = none := if_pos h
theorem rmH_out {H : Hp} {B : List Addr} {a : Addr} (h : a ∉ B) : rmH H B a = H a := if_neg h
theorem rmH_some {H : Hp} {B : List Addr} {a : Addr} {o : HO} (h : rmH H B a = some o) : H a = some o ∧ a ∉ B := by
  by_cases c : a ∈ B
  · rw [rmH_in c] at h; cases h
  · rw [rmH_out c] at h; exact ⟨h, c⟩
theorem Ext.rm {H H' : Hp} {ι ι' : List Addr} (x : Ext H ι H' ι') (B : List Addr) : Ext (rmH H B) ι H' ι' := ⟨x.pre, fun a o h n => x.keep a o (rmH_some h).1 n⟩
theorem Ext.rmLess {H H' : Hp} {ι ι' : List Addr} {B C : List Addr} (x : Ext (rmH H B) ι H' ι') (h : ∀ b ∈ B, b ∈ C) : Ext (rmH H C) ι H' ι' := ⟨x.pre, fun a o e n => by
  obtain ⟨h1, h2⟩ := rmH_some e
  exact x.keep a o (by rw [rmH_out fun z => h2 (h _ z)]; exact h1) n⟩
section
variable {g : G} {H : Hp} {ι : List Addr} {C : List Addr}
mutual
theorem Rep.wo (hC : ∀ b ∈ C, b ∈ g.B ∧ ∀ o, H b = some o → isTupO o = false) : ∀ {d : D} {v : V}, Rep g H ι d v → Rep g (rmH H C) ι d v
  | _, _, .non => .non
  | _, _, .bl b => .bl b
  | _, _, .int b => .int b
  | _, _, .str b => .str b
  | _, _, .tup h r => .tup (h.to fun u hu => by
    rw [rmH_out fun z => ?_]
    · exact hu
    · obtain ⟨o, h1, h2⟩ := h.isT
      rw [(hC _ z).2 _ h1] at h2
      cases h2) (RepL.wo hC r)
  | _, _, .pair h r => .pair (by
    rw [rmH_out fun z => ?_]
    · exact h
    · have := (hC _ z).2 _ h
      cases this) (RepL.wo hC r)
  | _, _, .lst h n b r => .lst (by rw [rmH_out fun z => b (hC _ z).1]; exact h) n b (RepL.wo hC r)
  | _, _, .dctK h n b k r => .dctK (by rw [rmH_out fun z => b (hC _ z).1]; exact h) n b k (RepL.wo hC r)
  | _, _, .dctT h n b k r => .dctT (by rw [rmH_out fun z => b (hC _ z).1]; exact h) n b k (RepL.wo hC r)
  | _, _, .ref h => .ref h
  | _, _, .glb h => .glb h
  | _, _, .ktup h r => .ktup h (RepL.wo hC r)
theorem RepL.wo (hC : ∀ b ∈ C, b ∈ g.B ∧ ∀ o, H b = some o → isTupO o = false) : ∀ {ds : List D} {vs : List V}, RepL g H ι ds vs → RepL g (rmH H C) ι ds vs
  | _, _, .nil => .nil
  | _, _, .cons a b => .cons (Rep.wo hC a) (RepL.wo hC b)
end
theorem WfH.rm (wf : WfH H ι) (C : List Addr) : WfH (rmH H C) ι := ⟨fun a o h => wf.tup a o (rmH_some h).1⟩
theorem MemRel.nt {μ : Store} (m : MemRel g H ι μ) : ∀ b ∈ g.B, b ∈ g.B ∧ ∀ o, H b = some o → isTupO o = false := fun b hb => ⟨hb, fun o z => by
  obtain ⟨u, h, t⟩ := m.bs b hb
  rw [h] at z
  cases z
  exact t⟩
end
structure SlotRel (g : G) (σ : Sl) (ρ : Env) (H : Hp) (ι : List Addr) : Prop where
  len : σ.length = ρ.length
  at_ : ∀ (i : Nat) d, ρ[i]? = some (some d) → ∃ v, σ[i]? = some (some v) ∧ Rep g H ι d v
theorem SlotRel.mono {g : G} {σ : Sl} {ρ : Env} {H H' : Hp} {ι ι' : List Addr} (r : SlotRel g σ ρ H ι) (x : Ext H ι H' ι') (wf : WfH H ι) : SlotRel g σ ρ H' ι' :=
  ⟨r.len, fun i d e => let ⟨v, a, b⟩ := r.at_ i d e; ⟨v, a, b.mono x wf⟩⟩
theorem SlotRel.set {g : G} {σ : Sl} {ρ : Env} {H : Hp} {ι : List Addr} (r : SlotRel g σ ρ H ι) {d : D} {v : V} (q : Rep g H ι d v) (i : Nat) : SlotRel g (σ.set i (some v)) (ρ.set i (some d)) H ι := by
  refine ⟨by rw [List.length_set, List.length_set]; exact r.len, fun j e h => ?_⟩
  by_cases hij : i = j
  · subst hij
    by_cases hl : i < ρ.length
    · rw [List.getElem?_set_self hl] at h
      cases h
      exact ⟨v, by rw [List.getElem?_set_self (by rw [r.len]; exact hl)], q⟩
    · rw [List.getElem?_eq_none (by rw [List.length_set]; omega)] at h
      cases h
  · rw [List.getElem?_set_ne hij] at h ⊢
    exact r.at_ j e h
/-- slots forgotten -/
def wipeD (ρ : Env) : List Nat → Env
  | [] => ρ
  | v :: vs => (wipeD ρ vs).set v none
theorem wipeD_len (ρ : Env) : ∀ vs : List Nat, (wipeD ρ vs).length = ρ.length
  | [] => rfl
  | v :: vs => by unfold wipeD; rw [List.length_set, wipeD_len ρ vs]
theorem SlotRel.forget {g : G} {σ : Sl} {ρ : Env} {H : Hp} {ι : List Addr} (r : SlotRel g σ ρ H ι) (v : Nat) : SlotRel g (σ.set v none) (ρ.set v none) H ι := by
  refine ⟨by rw [List.length_set, List.length_set]; exact r.len, fun j e h => ?_⟩
  by_cases hij : v = j
  · subst hij
    by_cases hl : v < ρ.length
    · rw [List.getElem?_set_self hl] at h
      cases h
    · rw [List.getElem?_eq_none (by rw [List.length_set]; omega)] at h
      cases h
  · rw [List.getElem?_set_ne hij] at h ⊢
    exact r.at_ j e h
theorem SlotRel.wipe {g : G} {σ : Sl} {ρ : Env} {H : Hp} {ι : List Addr} (r : SlotRel g σ ρ H ι) : ∀ vs : List Nat, SlotRel g (wipe σ vs) (wipeD ρ vs) H ι
  | [] => r
  | v :: vs => by unfold wipeD L2.wipe; exact (SlotRel.wipe r vs).forget v

structure At (g : G) (σ : Sl) (H : Hp) (ρ : Env) (ι : List Addr) (μ : Store) : Prop where
  s : SlotRel g σ ρ H ι
  m : MemRel g H ι μ
theorem At.next {g : G} {σ : Sl} {H H' : Hp} {ρ : Env} {ι ι' : List Addr} {μ μ' : Store} (a : At g σ H ρ ι μ) (x : Ext H ι H' ι') (m : MemRel g H' ι' μ') : At g σ H' ρ ι' μ' := ⟨a.s.mono x a.m.wf, m⟩

/-- exceptions: what is wanted of one of the class that the name c holds -/
abbrev WD := Str → Sl → Hp → Prop
/-- what a run's end must give -/
def post {α β : Type} (rep : Hp → List Addr → α → β → Prop) (g : G) (W : Str → Hp → Prop) (H : Hp) (ι : List Addr) (r : R α) (Q : β → Hp → Prop) : Prop := match r with
  | .ok a μ' => ∀ b H' ι', Ext H ι H' ι' → MemRel g H' ι' μ' → rep H' ι' a b → Q b H'
  | .exc c μ' => ∀ H' ι', Ext H ι H' ι' → MemRel g H' ι' μ' → W c H'
  | .bad => False
section
variable {α β γ δ : Type} {rep : Hp → List Addr → α → β → Prop} {rep' : Hp → List Addr → γ → δ → Prop} {g : G} {W : Str → Hp → Prop} {H H' : Hp} {ι ι' : List Addr} {r : R α} {Q Q' : β → Hp → Prop}
theorem post.mono (h : post rep g W H ι r Q) (x : Ext H ι H' ι') : post rep g W H' ι' r Q := by
  cases r with
  | ok a μ' => exact fun b H2 ι2 y m q => h b H2 ι2 (x.trans y) m q
  | exc c μ' => exact fun H2 ι2 y m => h H2 ι2 (x.trans y) m
  | bad => exact h
theorem post.imp (h : post rep g W H ι r Q) (k : ∀ b H, Q b H → Q' b H) : post rep g W H ι r Q' := by
  cases r with
  | ok a μ' => exact fun b H2 ι2 y m q => k _ _ (h b H2 ι2 y m q)
  | exc c μ' => exact h
  | bad => exact h
theorem post.bind {k : α → Store → R γ} {Q : δ → Hp → Prop} (h : post rep' g W H ι (r.bind k) Q) :
    post rep g W H ι r (fun b H1 => ∃ a μ1 ι1, Ext H ι H1 ι1 ∧ MemRel g H1 ι1 μ1 ∧ rep H1 ι1 a b ∧ post rep' g W H1 ι1 (k a μ1) Q) := by
  cases r with
  | ok a μ' => exact fun b H2 ι2 y m q => ⟨a, μ', ι2, y, m, q, post.mono (show post rep' g W H ι (k a μ') Q from h) y⟩
  | exc c μ' => exact h
  | bad => exact h
theorem post.noexc (h : post rep g W H ι r.noexc Q) (W' : Str → Hp → Prop) : post rep g W' H ι r Q := by
  cases r with
  | ok a μ' => exact h
  | exc c μ' => exact (h : False).elim
  | bad => exact h
theorem post.ok {a : α} {b : β} {μ : Store} (h : post rep g W H ι (.ok a μ) Q) (x : Ext H ι H' ι') (m : MemRel g H' ι' μ) (q : rep H' ι' a b) : Q b H' := h b H' ι' x m q
end
end PyD

set_option Elab.async false
set_option linter.all false
set_option maxRecDepth 100000
set_option maxHeartbeats 4000000
/-! set(xs): the walk over the list, the call. -/
namespace PyD
open PySem PySem.Spec L2 PyProof.Rows
/-- what is in the set once i items are in -/
def Seen (ks : List (Addr × List Key)) (i : Nat) (L : List (Addr × List Key)) : Prop := (∀ p ∈ L, p ∈ ks.take i) ∧ (∀ p ∈ ks.take i, p.2 ∈ L.map (·.2)) ∧ L.length ≤ i
theorem Seen.nil (ks : List (Addr × List Key)) : Seen ks 0 [] := ⟨by simp, by simp, Nat.le_refl _⟩
theorem Seen.next {ks L L' : List (Addr × List Key)} {i : Nat} {p : Addr × List Key} (g : Seen ks i L) (h : ks[i]? = some p) (h1 : p.2 ∈ L.map (·.2) → L' = L) (h2 : p.2 ∉ L.map (·.2) → L'.Perm (p :: L)) : Seen ks (i + 1) L' := by
  have e : ks.take (i + 1) = ks.take i ++ [p] := by rw [List.take_succ, h]; rfl
  obtain ⟨g1, g2, g3⟩ := g
  unfold Seen
  rw [e]
  by_cases c : p.2 ∈ L.map (·.2)
  · rw [h1 c]
    refine ⟨fun q hq => List.mem_append_left _ (g1 q hq), fun q hq => ?_, by omega⟩
    rcases List.mem_append.mp hq with z | z
    · exact g2 q z
    · rw [List.mem_singleton.mp z]; exact c
  · have pm := h2 c
    refine ⟨fun q hq => ?_, fun q hq => ?_, by rw [pm.length_eq, List.length_cons]; omega⟩
    · rcases List.mem_cons.mp (pm.mem_iff.mp hq) with z | z
      · rw [z]; simp
      · exact List.mem_append_left _ (g1 q z)
    · rw [(pm.map (·.2)).mem_iff, List.map_cons]
      rcases List.mem_append.mp hq with z | z
      · exact List.mem_cons_of_mem _ (g2 q z)
      · rw [List.mem_singleton.mp z]; exact List.mem_cons_self
theorem nodup_perm {α : Type} [DecidableEq α] {a b : List α} (h1 : a.Nodup) (h2 : b.Nodup) (h : ∀ x, x ∈ a ↔ x ∈ b) : a.length = b.length := by
  have le : ∀ (a b : List α), a.Nodup → (∀ x ∈ a, x ∈ b) → a.length ≤ b.length := fun a => by
    induction a with
    | nil => exact fun _ _ _ => Nat.zero_le _
    | cons x a ih =>
      intro b hn hs
      obtain ⟨n1, n2⟩ := List.nodup_cons.mp hn
      have := ih (b.erase x) n2 fun y hy => (List.mem_erase_of_ne fun e => n1 (by rw [← e]; exact hy)).mpr (hs y (by simp [hy]))
      have hx := hs x (by simp)
      rw [List.length_erase_of_mem hx] at this
      have := List.length_pos_of_mem hx
      rw [List.length_cons]
      omega
  exact Nat.le_antisymm (le a b h1 fun x hx => (h x).mp hx) (le b a h2 fun x hx => (h x).mpr hx)
theorem mem_dups {α : Type} [DecidableEq α] : ∀ (n : Nat) (l : List α), l.length ≤ n → l.eraseDups.Nodup ∧ ∀ x, x ∈ l.eraseDups ↔ x ∈ l
  | 0, [], _ => by simp
  | n + 1, [], _ => by simp
  | n + 1, x :: l, h => by
    have hf : (l.filter fun b => !b == x).length ≤ n := Nat.le_trans (List.length_filter_le _ _) (by simpa using h)
    obtain ⟨h1, h2⟩ := mem_dups n _ hf
    rw [List.eraseDups_cons]
    refine ⟨List.nodup_cons.mpr ⟨fun z => ?_, h1⟩, fun y => ?_⟩
    · have := (h2 x).mp z
      simp at this
    · rw [List.mem_cons, h2, List.mem_cons]
      by_cases e : y = x <;> simp [e]
theorem Seen.count {ks L : List (Addr × List Key)} (g : Seen ks ks.length L) (nd : (L.map (·.2)).Nodup) : L.length = (ks.map fun p => DK.t p.2).eraseDups.length := by
  obtain ⟨g1, g2, _⟩ := g
  rw [List.take_length] at g1 g2
  obtain ⟨d1, d2⟩ := mem_dups _ (ks.map fun p => DK.t p.2) (Nat.le_refl _)
  have nd' : (L.map fun p => DK.t p.2).Nodup := by
    have e : (L.map fun p => DK.t p.2) = (L.map (·.2)).map DK.t := by rw [List.map_map]; rfl
    rw [e]
    exact List.Pairwise.map _ (fun a b h z => h (by cases z; rfl)) nd
  rw [← List.length_map (f := fun p : Addr × List Key => DK.t p.2)]
  refine nodup_perm nd' d1 fun x => ?_
  rw [d2]
  constructor
  · intro h
    obtain ⟨p, hp, rfl⟩ := List.mem_map.mp h
    exact List.mem_map.mpr ⟨p, g1 p hp, rfl⟩
  · intro h
    obtain ⟨p, hp, rfl⟩ := List.mem_map.mp h
    obtain ⟨q, hq, e⟩ := List.mem_map.mp (g2 p hp)
    exact List.mem_map.mpr ⟨q, hq, congrArg DK.t e⟩
section
variable {P : Program} {w : World} {A : Around} {E : Value → Shared → Prop} {s : Shared}
theorem KSet.kept {h h' : Heap} {a : Addr} {L : List (Addr × List Key)} {es : Array (Int × Value)} {ep : Nat} {t : SetTable} (R : KSet P w h a L es ep t) (ha : ∀ o, h.get? a = some o → h'.get? a = some o) (ht : ∀ p ∈ L, IsK P w h' p.2 p.1) : KSet P w h' a L es ep t := by
  obtain ⟨o, ho, r⟩ := R.ob
  exact ⟨⟨o, ha o ho, r⟩, R.en, R.tb, R.nd, ht, R.rm, R.fw⟩
def newT (w : World) : SetTable := .fresh 0 0 (!w.params.followText "set-order")
def newO (w : World) : Obj := { cls := .type "set", dict := none, data := .set #[] 0 (newT w) }
theorem kset_new {h : Heap} {a : Addr} (ho : h.get? a = some (newO w)) : KSet P w h a [] #[] 0 (newT w) where
  ob := ⟨_, ho, ⟨rfl, rfl, rfl⟩, rfl⟩
  en := rfl
  tb := ⟨List.Pairwise.nil, rfl, rfl, .inl rfl, fun x hx => (by cases hx), fun i h j hi => (by simp at hi)⟩
  nd := List.nodup_nil
  ks := fun p hp => (by cases hp)
  rm := by show 0 * 5 < 7 * 3; decide
  fw := by show 0 < 64; decide
/-- the loop that fills it -/
theorem k_fill {I : Addr} {fp wr : List Addr} {G : Array GenState → Array GenState → Prop} {n : Nat} {Pv : Nat → Value → Prop} {St : Nat → Shared → Prop} {R : Result → Shared → Prop}
    (W : WalksS P w A.in1 I fp wr G n Pv St) (S : Addr) (hS : S ∉ fp) (ks : List (Addr × List Key)) (hn : n = ks.length) (hfw : ks.length < 64) (hv : ∀ i v, Pv i v → ∃ p, ks[i]? = some p ∧ v = .ref p.1)
    (h0 : Heap) (hk : ∀ p ∈ ks, IsK P w h0 p.2 p.1) (hS0 : h0.get? S = none) (hw0 : ∀ b ∈ wr, h0.get? b = none) (hu : A.in1.units < cLine) :
    ∀ (k i : Nat) (s : Shared), n = i + k → St i s → (∀ b o, h0.get? b = some o → s.heap.get? b = some o) → (∃ L es ep t, KSet P w s.heap S L es ep t ∧ Seen ks i L) →
      (∀ s' L es ep t, Moved (S :: wr) G s s' → KSet P w s'.heap S L es ep t → Seen ks n L → (∀ b o, h0.get? b = some o → s'.heap.get? b = some o) → R (.ok (.ret .none)) s') →
      codeAny (model P w) A (.builtin "set.update.loop" ⟨[.ref S, .ref I], []⟩) R s := by
  have hSw : S ∉ wr := fun h => hS (W.sub _ h)
  have up : ∀ b ∈ wr, b ∈ S :: wr := fun b hb => List.mem_cons_of_mem _ hb
  have mv : ∀ {s s' : Shared}, Moved wr G s s' → (∀ b o, h0.get? b = some o → s.heap.get? b = some o) → ∀ b o, h0.get? b = some o → s'.heap.get? b = some o := fun m q b o e =>
    m.heap b o (fun hb => by rw [hw0 b hb] at e; cases e) (q b o e)
  have inks : ∀ {i : Nat} {L : List (Addr × List Key)}, Seen ks i L → ∀ p ∈ L, p ∈ ks := fun g p hp => List.mem_of_mem_take (g.1 p hp)
  have stay : ∀ {s s' : Shared} {i : Nat} {L es ep t}, Seen ks i L → Moved wr G s s' → (∀ b o, h0.get? b = some o → s.heap.get? b = some o) → KSet P w s.heap S L es ep t → KSet P w s'.heap S L es ep t := fun g m q K =>
    K.kept (fun o e => m.heap S o hSw e) fun p hp => (hk p (inks g p hp)).kept fun o e => mv m q _ o e
  intro k
  induction k with
  | zero =>
    intro i s hi hst q ⟨L, es, ep, t, K, g⟩ hR
    obtain rfl : i = n := by omega
    refine codeAny_builtin F.entry_set_update_loop ?_
    rw [Around.under_plainId F.plain_set_update_loop _]
    show wpAny _ A.in1 (pyNext (.ref I) >>= _) _ _ s
    refine wpAny_bind (W.done s _ _ hst fun s' m => ?_)
    show wpAny _ A.in1 (ret Value.none) _ _ s'
    exact wpAny_pure (hR s' L es ep t (m.mono up) (stay g m q K) g (mv m q))
  | succ k ih =>
    intro i s hi hst q ⟨L, es, ep, t, K, g⟩ hR
    refine codeAny_builtin F.entry_set_update_loop ?_
    rw [Around.under_plainId F.plain_set_update_loop _]
    show wpAny _ A.in1 (pyNext (.ref I) >>= _) _ _ s
    refine wpAny_bind (W.item i s _ _ (by omega) hst fun v s' hP hst' m => ?_)
    obtain ⟨p, hp, rfl⟩ := hv i v hP
    have q' := mv m q
    have K' := stay g m q K
    have hx : IsK P w s'.heap p.2 p.1 := (hk p (List.mem_of_getElem? hp)).kept fun o e => q' _ o e
    show wpAny _ A.in1 (holding [Value.ref p.1] (setAdd S (.ref p.1)) >>= _) _ _ s'
    refine wpAny_bind (wpAny_holding ?_)
    unfold setAdd
    refine wpAny_holding (wpAny_bind (wpAny_pyHash_tuple hu hx ?_))
    have gl := g.2.2
    refine k_add (s := { s' with toks := s'.toks + (p.2.length + 1) }) K' hx hu (by omega) fun b h' L' es' ep' t' sb K2 c1 c2 => ?_
    have q2 : ∀ b o, h0.get? b = some o → h'.get? b = some o := fun b o e => (sb.2 b fun z => by rw [z, hS0] at e; cases e).trans (q' b o e)
    refine wpAny_pure ⟨plainId_quiet F.plain_set_update_loop _, ih (i + 1) _ (by omega) (W.frame _ s' _ _ hst' (Nat.le_add_right _ _) fun b hb o e => ?_) q2 ⟨L', es', ep', t', K2, g.next hp c1 c2⟩ fun s2 L2 es2 ep2 t2 m2 K3 g3 q3 => ?_⟩
    · rw [sb.2 b fun h : b = S => hS (h ▸ hb)]; exact e
    · refine hR s2 L2 es2 ep2 t2 (Moved.trans W.gtrans ((m.mono up).then_heap (Nat.le_add_right _ _) fun b o hb e => ?_) m2) K3 g3 q3
      rw [sb.2 b fun h : b = S => hb (h ▸ List.mem_cons_self)]; exact e
set_option maxHeartbeats 8000000 in
/-- set(xs) -/
theorem k_call {l : Addr} {its : Array Value} (ks : List (Addr × List Key)) {Q : Value → Shared → Prop} (hh : A.handled = none) (hl : s.heap.IsList l its) (hit : its.toList = ks.map fun p => Value.ref p.1)
    (hk : ∀ p ∈ ks, IsK P w s.heap p.2 p.1) (hfw : ks.length < 64) (hu : A.units + 3 < cLine)
    (h : ∀ (h' : Heap) (tk : Nat) L es ep t, KSet P w h' s.heap.objs.size L es ep t → Seen ks ks.length L → (∀ b o, s.heap.get? b = some o → h'.get? b = some o) → Q (.ref s.heap.objs.size) { s with heap := h', toks := tk }) :
    wpAny (model P w) A (call (.type "set") [.ref l]) Q E s := by
  have hsz : its.size = ks.length := by rw [← Array.length_toList, hit, List.length_map]
  obtain ⟨c, tl, hmro⟩ := F.called_set.mro
  have hmade := F.called_set.made
  have hsub := F.called_set.sub
  refine wpAny_call (codeAny_of_tree ?_)
  show wpAny _ _ (callAny (.type "set") _) _ _ _
  refine wpAny_pure ⟨Code.quiet_builtin _ (by decide +kernel), codeAny_builtin F.entry_type_call ?_⟩
  rw [Around.under_plain (weight_type_call_type "set" [.ref l] []) rfl]
  have h1 := F.called_set.notType
  have h2 := F.called_set.canCreate
  have hct := F.typeCall_set_1 (.ref l)
  repeat (any_goals (first | assumption | wp_step))
  obtain ⟨hp, hpe⟩ : ∃ hp, hp = s.heap.push (newO w) := ⟨_, rfl⟩
  have hget : hp.get? s.heap.objs.size = some (newO w) := by rw [hpe]; exact Heap.get?_push_size _ rfl
  have hgrow : ∀ b o, s.heap.get? b = some o → hp.get? b = some o := fun b o e => by rw [hpe]; exact Heap.get?_push_of_some _ e
  have hps : hp.objs.size = s.heap.objs.size + 1 := by rw [hpe]; exact Heap.size_push ..
  refine codeAny_mono (code_set_led1 (.ref l) (E := E) (Q₁ := fun obj s₁ => obj = .ref s.heap.objs.size ∧ s₁ = { s with heap := hp }) ⟨rfl, by rw [hpe]; rfl⟩) fun r s₁ hr => ?_
  cases r with
  | error e => exact hr
  | ok fl =>
    cases fl with
    | ret obj =>
      obtain ⟨rfl, rfl⟩ := hr
      have hT : Shared.TypeIs { s with heap := hp } (.ref s.heap.objs.size) "set" := ⟨_, hget, rfl⟩
      have hli := F.called_set.init.lookup
      have hbi := F.called_set.init.bind (.ref s.heap.objs.size)
      repeat (any_goals (first | assumption | wp_step))
      refine codeAny_mono (codeAny_call_builtin (R := wants (fun r s₂ => r = .none ∧ ∃ h' tk L es ep t, s₂ = { s with heap := h', toks := tk } ∧ KSet P w h' s.heap.objs.size L es ep t ∧ Seen ks ks.length L ∧
          (∀ b o, s.heap.get? b = some o → h'.get? b = some o)) E) F.called_set.init.plain F.entry_set_init (check_set_init_1 hT ?_)) fun r₂ s₂ hr₂ => ?_
      · have hl1 : hp.IsList l its := by rw [hpe]; exact hl.push _
        obtain ⟨ol, hol, hcl, nl, hdl⟩ := hl1
        obtain ⟨ocls, odict, odata, oslots⟩ := ol
        simp only at hcl hdl
        subst hcl hdl
        have hl1 : hp.IsList l its := ⟨_, hol, rfl, nl, rfl⟩
        have hsls := F.sub_list_set
        have hslf := F.sub_list_frozenset
        have hne : (Value.type "list" == Value.type "dict") = false := by decide
        unfold Builtin.«set.__init__» noKeywords Builtin.Frozenset.updateFrom
        generalize hPI : pyIter = PI
        wp_walk
        subst hPI
        refine wpAny_pyIter_list hl1 (wpAny_bind (wpAny_runValue ?_))
        obtain ⟨os, hos, _⟩ := hl
        have hls : l < s.heap.objs.size := Heap.lt_size hos
        have hh3 : A.in1.in1.in1.handled = none := by simp [hh]
        have gone : ∀ b, s.heap.objs.size ≤ b → s.heap.get? b = none := fun b hb => by
          cases q : s.heap.get? b with
          | none => rfl
          | some o => exact absurd (Heap.lt_size q) (Nat.not_lt.mpr hb)
        have n1 : l ≠ hp.objs.size := by rw [hps]; exact Nat.ne_of_lt (Nat.lt_succ_of_lt hls)
        have n2 : s.heap.objs.size ∉ [hp.objs.size, l] := by
          simp only [List.mem_cons, List.not_mem_nil, or_false, not_or]
          exact ⟨by rw [hps]; exact Nat.ne_of_lt (Nat.lt_succ_self _), Nat.ne_of_gt hls⟩
        have n3 : ∀ b ∈ [hp.objs.size], s.heap.get? b = none := fun b hb => gone b (by rw [List.mem_singleton.mp hb, hps]; exact Nat.le_succ _)
        refine k_fill ((Walks.list hh3 _ l n1 its).toS) s.heap.objs.size n2 ks hsz hfw (fun i v hv => ?_) s.heap hk (gone _ (Nat.le_refl _)) n3 hu its.size 0 _ (Nat.zero_add _).symm
          ⟨⟨_, Heap.get?_push_size _ rfl, rfl, rfl⟩, hl1.push _⟩ (fun b o e => Heap.get?_push_of_some _ (hgrow b o e)) ⟨[], #[], 0, newT w, kset_new (Heap.get?_push_of_some _ hget), Seen.nil ks⟩ fun s' L es ep t m K g q => ?_
        · have e : its.toList[i]? = some v := by rw [Array.getElem?_toList]; exact hv
          rw [hit, List.getElem?_map, Option.map_eq_some_iff] at e
          obtain ⟨p, hp, e⟩ := e
          exact ⟨p, hp, e.symm⟩
        · obtain ⟨h', g2, d', tk', os'⟩ := s'
          obtain rfl : g2 = s.gens := m.gens
          obtain rfl : d' = s.drawn := m.drawn
          obtain rfl : os' = s.os := m.os
          show wpAny _ _ _ _ _ _
          refine wpAny_pure ?_
          show wpAny _ _ (ret Value.none) _ _ _
          rw [hsz] at g
          exact wpAny_pure ⟨rfl, h', tk', L, es, ep, t, rfl, K, g, q⟩
      · cases r₂ with
        | error e => exact hr₂
        | ok fl₂ =>
          cases fl₂ with
          | ret r =>
            obtain ⟨rfl, h', tk, L, es, ep, t, rfl, K, g, q⟩ := hr₂
            repeat (any_goals (first | assumption | wp_step))
            exact h _ _ _ _ _ _ K g q
          | _ => exact hr₂.elim
    | _ => exact hr.elim
end
end PyD

set_option Elab.async false
set_option linter.all false
set_option maxRecDepth 100000
set_option maxHeartbeats 4000000
/-! The evaluator: syntax without places, and what it comes to. -/
namespace PyD
open PySem PySem.Spec L2

/-! ### data -/
mutual
def D.toP : D → Option PyData
  | .non => some .none
  | .bl b => some (.bool b)
  | .int i => some (.int i)
  | .str x => some (.str x)
  | .tup ds => (toPs ds).map .tuple
  | .ktup ds => (toPs ds).map .tuple
  | .lst ds => (toPs ds).map .list
  | _ => none
def toPs : List D → Option (List PyData)
  | [] => some []
  | d :: ds => match d.toP, toPs ds with
    | some p, some ps => some (p :: ps)
    | _, _ => none
end
/-- what may be compared: data, a list of the store too -/
def D.toPμ (μ : Store) : D → Option PyData
  | .ref n => match μ[n]? with
    | some (.lst ds) => (toPs ds).map .list
    | _ => none
  | d => d.toP
/-- a key, of ints and texts, or of tuples of such -/
def D.key (t : Bool) : D → Option DK
  | .int i => if t then none else some (.k (.inl i))
  | .str x => if t then none else some (.k (.inr x))
  | .tup ds => if t then (leafKeys ds).map .t else none
  | _ => none
def DK.dat : DK → D
  | .k (.inl i) => .int i
  | .k (.inr x) => .str x
  | .t ks => .tup (ks.map fun | .inl i => .int i | .inr x => .str x)
def lookD : List DK → List D → DK → Option D
  | k :: ks, d :: ds, x => if k = x then some d else lookD ks ds x
  | _, _, _ => none
def replD : List DK → List D → DK → D → List D
  | k :: ks, d :: ds, x, v => (if k = x then v else d) :: replD ks ds x v
  | _, ds, _, _ => ds
def putD (ks : List DK) (ds : List D) (x : DK) (v : D) : List DK × List D := if ks.any (fun k => decide (k = x)) then (ks, replD ks ds x v) else (ks ++ [x], ds ++ [v])

/-- a value, or a new object -/
inductive Out where
  | v (d : D) | f (m : M)
def M.dat : M → D
  | .lst ds => .lst ds
  | .ro ds => .lst ds
  | .dct t ks ds => .dct t ks ds
def Out.dat : Out → D
  | .v d => d
  | .f m => m.dat

/-! ### the parts of seqs -/
def asLst (μ : Store) : D → Option (List D)
  | .lst ds => some ds
  | .ref n => match μ[n]? with
    | some (.lst ds) => some ds
    | _ => none
  | _ => none
/-- a list (the script too) or a tuple -/
def asSeq (μ : Store) : D → Option (List D)
  | .lst ds => some ds
  | .tup ds => some ds
  | .ktup ds => some ds
  | .ref n => match μ[n]? with
    | some (.lst ds) => some ds
    | some (.ro ds) => some ds
    | _ => none
  | _ => none
def asDct (μ : Store) : D → Option (Bool × List DK × List D)
  | .dct t ks ds => some (t, ks, ds)
  | .ref n => match μ[n]? with
    | some (.dct t ks ds) => some (t, ks, ds)
    | _ => none
  | _ => none
def intsOf : List D → Option (List Int)
  | [] => some []
  | .int i :: ds => (intsOf ds).map (i :: ·)
  | _ => none
def blsOf : List D → Option (List Bool)
  | [] => some []
  | .bl i :: ds => (blsOf ds).map (i :: ·)
  | _ => none
def strChars (x : Str) : List D := x.cps.toList.map fun c => .str ⟨#[c]⟩

/-- value lists and tuples -/
def valSeq : D → Option (List D)
  | .lst ds => some ds
  | .tup ds => some ds
  | .ktup ds => some ds
  | _ => none
/-! ### operators -/
def addD (μ : Store) (x y : D) : Option Out := match x, y with
  | .int i, .int j => some (.v (.int (i + j)))
  | .str i, .str j => if i.length + j.length ≤ sizeLine then some (.v (.str (i ++ j))) else none
  | .tup xs, .tup ys => if xs.length + ys.length ≤ sizeLine then some (.v (.tup (xs ++ ys))) else none
  | x, y => match asLst μ x, asLst μ y with
    | some xs, some ys => if xs.length + ys.length ≤ sizeLine then some (.f (.lst (xs ++ ys))) else none
    | _, _ => none
def mulD (μ : Store) (x y : D) : Option Out := match y with
  | .int j => match x with
    | .int i => if (-(2 ^ 64) < i ∧ i < 2 ^ 64) ∨ (-(2 ^ 64) < j ∧ j < 2 ^ 64) then some (.v (.int (i * j))) else none
    | .tup [] => if -(2 ^ 63) ≤ j ∧ j < 2 ^ 63 then some (.v (.tup [])) else none
    | .tup xs => if 2 ≤ j ∧ j ≤ 1000 ∧ xs.isEmpty = false ∧ xs.length ≤ 1000 ∧ leafB (List.replicate j.toNat xs).flatten = true then some (.v (.tup (List.replicate j.toNat xs).flatten)) else none
    | x => match asLst μ x with
      | some xs => if -(2 ^ 63) ≤ j ∧ j < 2 ^ 63 ∧ xs.length * j.toNat ≤ sizeLine then some (.f (.lst (List.replicate j.toNat xs).flatten)) else none
      | none => none
  | _ => none
def binD (op : Operator) (μ : Store) (x y : D) : Option Out := match op with
  | .Add => addD μ x y
  | .Mult => mulD μ x y
  | .Sub => match x, y with
    | .int i, .int j => some (.v (.int (i - j)))
    | _, _ => none
  | .FloorDiv => match x, y with
    | .int i, .int j => if j ≠ 0 ∧ j.natAbs < 1073741824 then some (.v (.int (i.fdiv j))) else none
    | _, _ => none
  | .Mod => match x, y with
    | .int i, .int j => if j ≠ 0 then some (.v (.int (i.fmod j))) else none
    | _, _ => none
  | .Pow => match x, y with
    | .int i, .int j => if 0 ≤ j ∧ j ≤ 1000000 ∧ i.natAbs < 2 ^ 64 then some (.v (.int (i ^ j.toNat))) else none
    | _, _ => none
  | _ => none

def eqP (μ : Store) (x y : D) : Option Bool := match x.toPμ μ, y.toPμ μ with
  | some p, some q => if SeqAt.shaped p && SeqAt.shaped q then some (PyData.eqv p q) else none
  | _, _ => none
/-- == -/
def eqD (μ : Store) (x y : D) : Option Bool := match x, y with
  | .int i, .int j => some (decide (i = j))
  | .str i, .str j => some (decide (i = j))
  | .lst xs, .lst [] => some xs.isEmpty
  | x, y => eqP μ x y
def isTupP : PyData → Bool
  | .tuple _ => true
  | _ => false
mutual
/-- ints, texts and tuples of such -/
def tupOnly : PyData → Bool
  | .int _ => true
  | .str _ => true
  | .tuple xs => tupOnlys xs
  | _ => false
def tupOnlys : List PyData → Bool
  | [] => true
  | x :: xs => tupOnly x && tupOnlys xs
end
def ltP (μ : Store) (x y : D) : Option Bool := match x.toPμ μ, y.toPμ μ with
  | some p, some q => if PySem.W.alike p q && SeqAt.shaped p && SeqAt.shaped q && isTupP p then some (PySem.W.dataLt p q) else none
  | _, _ => none
/-- >= of tuples -/
def geP (μ : Store) (x y : D) : Option Bool := match x.toPμ μ, y.toPμ μ with
  | some p, some q => if PySem.W.alike p q && SeqAt.shaped p && SeqAt.shaped q && isTupP p && tupOnly p then some (!PySem.W.dataLt p q) else none
  | _, _ => none
/-- <= of tuples -/
def leP (μ : Store) (x y : D) : Option Bool := match x.toPμ μ, y.toPμ μ with
  | some p, some q => if PySem.W.alike p q && SeqAt.shaped p && SeqAt.shaped q && isTupP p then some (!PySem.W.dataLt q p) else none
  | _, _ => none
/-- > of tuples -/
def gtP (μ : Store) (x y : D) : Option Bool := match x.toPμ μ, y.toPμ μ with
  | some p, some q => if PySem.W.alike p q && SeqAt.shaped p && SeqAt.shaped q && isTupP p then some (PySem.W.dataLt q p) else none
  | _, _ => none
/-- < -/
def ltD (μ : Store) (x y : D) : Option Bool := match x, y with
  | .int i, .int j => some (decide (i < j))
  | .str i, .str j => some (decide (i.cps.toList < j.cps.toList))
  | x, y => ltP μ x y
/-- in -/
def inD (μ : Store) (x y : D) : Option Bool := match y with
  | .str j => match x with
    | .str i => some (!(Builtin.Str.occurrences j i 0 j.length 1).isEmpty)
    | _ => none
  | y => match asDct μ y with
    | some (t, ks, ds) => (x.key t).map fun k => (lookD ks ds k).isSome
    | none => match asSeq μ y with
      | some ds => match x.toPμ μ, toPs ds with
        | some p, some ps => if SeqAt.shaped p && SeqAt.shaped (.list ps) && SeqAt.shaped (.tuple ps) then some (ps.any fun z => PyData.eqv z p) else none
        | _, _ => none
      | none => none
def cmpD (op : CmpOp) (μ : Store) (x y : D) : Option Bool := match op with
  | .Eq => eqD μ x y
  | .NotEq => (eqD μ x y).map (!·)
  | .Lt => ltD μ x y
  | .Gt => match x, y with
    | .int i, .int j => some (decide (j < i))
    | x, y => gtP μ x y
  | .LtE => match x, y with
    | .int i, .int j => some (decide (i ≤ j))
    | .str i, .str j => some (!decide (j.cps.toList < i.cps.toList))
    | x, y => leP μ x y
  | .GtE => match x, y with
    | .int i, .int j => some (decide (j ≤ i))
    | x, y => geP μ x y
  | .In => inD μ x y
  | .NotIn => (inD μ x y).map (!·)
  | .Is => match y with
    | .non => some (match x with | .non => true | _ => false)
    | .bl b => match x with
      | .bl c => some (b == c)
      | _ => none
    | _ => none
  | .IsNot => match y with
    | .non => some (match x with | .non => false | _ => true)
    | _ => none

/-! ### subscripts -/
def ixD (μ : Store) (x y : D) : Option D := match asDct μ x with
  | some (t, ks, ds) => (y.key t).bind (lookD ks ds)
  | none => match y with
    | .int i => match x with
      | .str z => if z.length ≤ sizeLine then (atI z.cps.toList i).map fun c => .str ⟨#[c]⟩ else none
      | x => (asSeq μ x).bind fun ds => atI ds i
    | _ => none
def cutD {α : Type} (xs : List α) (lo hi : Option Int) : List α := (xs.drop (HT.sIx xs.length 0 lo)).take (HT.sIx xs.length xs.length hi - HT.sIx xs.length 0 lo)
def slcD (μ : Store) (x : D) (lo hi : Option Int) : Option Out := match x with
  | .tup ds => some (.v (.tup (cutD ds lo hi)))
  | .str z => if z.length ≤ sizeLine then some (.v (.str ⟨(cutD z.cps.toList lo hi).toArray⟩)) else none
  | x => (asLst μ x).map fun ds => .f (.lst (cutD ds lo hi))

/-! ### built-ins -/
inductive Bi where
  | len | abs | max | min | sum | all | any | sorted | revlist | lenset
inductive Ty where
  | int | list | tuple | dict
inductive Cl where
  | bool | int | str | list | tuple | dict
  deriving DecidableEq
inductive Mt where
  | append | pop | reverse | extend | get
  deriving DecidableEq
def Bi.name : Bi → String
  | .len => "len" | .abs => "abs" | .max => "max" | .min => "min" | .sum => "sum" | .all => "all" | .any => "any" | .sorted => "sorted" | .revlist => "list" | .lenset => "len"
def Ty.name : Ty → String
  | .int => "int" | .list => "list" | .tuple => "tuple" | .dict => "dict"
def Cl.name : Cl → String
  | .bool => "bool" | .int => "int" | .str => "str" | .list => "list" | .tuple => "tuple" | .dict => "dict"
def Mt.name : Mt → String
  | .append => "append" | .pop => "pop" | .reverse => "reverse" | .extend => "extend" | .get => "get"
def isiD (μ : Store) (x : D) (T : Cl) : Option Bool := match x with
  | .non => some false
  | .bl _ => some (decide (T = .bool) || decide (T = .int))
  | .int _ => some (decide (T = .int))
  | .str _ => some (decide (T = .str))
  | .tup _ => some (decide (T = .tuple))
  | .lst _ => some (decide (T = .list))
  | .dct _ _ _ => some (decide (T = .dict))
  | .ref n => match μ[n]? with
    | some (.lst _) => some (decide (T = .list))
    | some (.dct _ _ _) => some (decide (T = .dict))
    | _ => none
  | _ => none
def lenD (μ : Store) (x : D) : Option Nat := match x with
  | .str z => if z.length ≤ sizeLine then some z.length else none
  | x => match asDct μ x with
    | some (_, ks, _) => some ks.length
    | none => (asSeq μ x).map List.length
def minI : List Int → Int
  | [] => 0
  | [a] => a
  | a :: r => min a (minI r)
def maxI : List Int → Int
  | [] => 0
  | [a] => a
  | a :: r => max a (maxI r)
/-- sorted by the order of data -/
def D.pd (d : D) : PyData := d.toP.getD .none
def srtD (ds : List D) : List D := ds.mergeSort fun a b => !PySem.W.dataLt b.pd a.pd
def isTupC : PyData → Bool
  | .tuple (_ :: _) => true
  | _ => false
def isLeafP : PyData → Bool
  | .int _ => true
  | .str _ => true
  | _ => false
def canSort (ds : List D) : Bool := match toPs ds with
  | some ps => ps.all SeqAt.shaped && (ps.all fun p => ps.all fun q => PySem.W.alike p q) && (ps.all isTupC || ps.all isLeafP)
  | none => false
/-- keys that are tuples -/
def keysT : List D → Option (List DK)
  | [] => some []
  | d :: ds => match d.key true, keysT ds with
    | some k, some ks => some (k :: ks)
    | _, _ => none
def int1 (μ : Store) (x : D) (f : List Int → Option Out) : Option Out := match asLst μ x with
  | some ds => match intsOf ds with
    | some ns => f ns
    | none => none
  | none => none
def bl1 (μ : Store) (x : D) (f : List Bool → Bool) : Option Out := match asLst μ x with
  | some ds => match blsOf ds with
    | some ns => some (.v (.bl (f ns)))
    | none => none
  | none => none
def biD (f : Bi) (μ : Store) (xs : List D) : Option Out := match f with
  | .len => match xs with
    | [x] => match lenD μ x with
      | some n => some (.v (.int n))
      | none => none
    | _ => none
  | .abs => match xs with
    | [.int i] => some (.v (.int (if i < 0 then -i else i)))
    | _ => none
  | .max => match xs with
    | [.int i, .int j] => some (.v (.int (if j > i then j else i)))
    | [.int i, .int j, .int k] => some (.v (.int (if k > (if j > i then j else i) then k else (if j > i then j else i))))
    | [x] => int1 μ x fun ns => if ns.isEmpty then none else some (.v (.int (maxI ns)))
    | _ => none
  | .min => match xs with
    | [.int i, .int j] => some (.v (.int (if j < i then j else i)))
    | [.int i, .int j, .int k] => some (.v (.int (if k < (if j < i then j else i) then k else (if j < i then j else i))))
    | [x] => int1 μ x fun ns => if ns.isEmpty then none else some (.v (.int (minI ns)))
    | _ => none
  | .sum => match xs with
    | [x] => int1 μ x fun ns => some (.v (.int ns.sum))
    | _ => none
  | .all => match xs with
    | [x] => bl1 μ x fun bs => bs.all id
    | _ => none
  | .any => match xs with
    | [x] => bl1 μ x fun bs => bs.any id
    | _ => none
  | .sorted => match xs with
    | [x] => match asLst μ x with
      | some ds => if canSort ds && decide (ds.length ≤ sizeLine) then some (.f (.lst (srtD ds))) else none
      | none => none
    | _ => none
  | .revlist => match xs with
    | [x] => match asLst μ x with
      | some ds => some (.f (.lst ds.reverse))
      | none => none
    | _ => none
  | .lenset => match xs with
    | [x] => match asLst μ x with
      | some ds => if ds.length < 64 then match keysT ds with
        | some ks => some (.v (.int ks.eraseDups.length))
        | none => none else none
      | none => none
    | _ => none
abbrev Acc0 := List DK × List D
/-- dict(pairs) -/
def pairsD : List D → Acc0 → Option Acc0
  | [], a => some a
  | .tup [k, v] :: r, a => match k.key false with
    | some k => pairsD r (putD a.1 a.2 k v)
    | none => none
  | _, _ => none
/-- what dict() may be asked of: a list, or a tuple that is no key -/
def dctArg (μ : Store) : D → Option (List D)
  | .tup ds => if leafB ds then none else some ds
  | x => asLst μ x
def tyD (T : Ty) (μ : Store) (xs : List D) : Option Out := match T with
  | .int => match xs with
    | [.int i] => some (.v (.int i))
    | [.bl b] => some (.v (.int (if b then 1 else 0)))
    | _ => none
  | .list => match xs with
    | [x] => match asSeq μ x with
      | some ds => some (.f (.lst ds))
      | none => none
    | _ => none
  | .dict => match xs with
    | [x] => match dctArg μ x with
      | some ds => if ds.length ≤ sizeLine then match pairsD ds ([], []) with
        | some r => some (.f (.dct false r.1 r.2))
        | none => none else none
      | none => none
    | _ => none
  | .tuple => match xs with
    | [.tup ds] => some (.v (.tup ds))
    | [x] => match asLst μ x with
      | some ds => some (.v (.tup ds))
      | none => none
    | _ => none
/-- a list of the store -/
def isRefL (μ : Store) : D → Bool
  | .ref n => match μ[n]? with
    | some (.lst _) => true
    | _ => false
  | _ => false
/-- a list's methods that change it -/
def mthD (m : Mt) (x : D) (xs : List D) (μ : Store) : Option (D × Store) := match x with
  | .ref n => match μ[n]? with
    | some (.lst ds) => match m with
      | .append => match xs with
        | [y] => if ds.length < sizeLine then some (.non, μ.set n (.lst (ds ++ [y]))) else none
        | _ => none
      | .pop => match xs with
        | [] => match ds[ds.length - 1]? with
          | some y => some (y, μ.set n (.lst ds.dropLast))
          | none => none
        | [.int i] => if -(2 ^ 63) ≤ i ∧ i < 2 ^ 63 then match seqIndex? i ds.length with
          | some k => match ds[k]? with
            | some y => some (y, μ.set n (.lst (ds.eraseIdx k)))
            | none => none
          | none => none else none
        | _ => none
      | .reverse => match xs with
        | [] => some (.non, μ.set n (.lst ds.reverse))
        | _ => none
      | .extend => match xs with
        | [y] => match asLst μ y with
          | some es => if ds.length + es.length ≤ sizeLine then some (.non, μ.set n (.lst (ds ++ es))) else none
          | none => none
        | _ => none
      | .get => none
    | _ => none
  | _ => none
/-- what a dict holds, or something else -/
def getMD (x : D) (xs : List D) (μ : Store) : Option (D × Store) := match asDct μ x with
  | some (t, ks, ds) => match xs with
    | [y] => (y.key t).map fun k => ((lookD ks ds k).getD .non, μ)
    | [y, z] => (y.key t).map fun k => ((lookD ks ds k).getD z, μ)
    | _ => none
  | none => none
/-- of what a method is -/
def isMt (m : Mt) (μ : Store) (x : D) : Bool := match m with
  | .get => (asDct μ x).isSome
  | _ => isRefL μ x
def mthX (m : Mt) (x : D) (xs : List D) (μ : Store) : Option (D × Store) := match m with
  | .get => getMD x xs μ
  | m => mthD m x xs μ
/-- x[i] = v -/
def setD (x i v : D) (μ : Store) : Option Store := match x with
  | .ref n => match μ[n]? with
    | some (.lst ds) => match i with
      | .int k => (ixN ds.length k).map fun j => μ.set n (.lst (ds.set j v))
      | _ => none
    | some (.dct t ks ds) => if ks.length < sizeLine then (i.key t).map fun k => let r := putD ks ds k v; μ.set n (.dct t r.1 r.2) else none
    | _ => none
  | _ => none

/-! ### objects of a call become values behind it -/
mutual
def fzD (look : Nat → Option D) : D → Option D
  | .ref n => look n
  | .tup ds => (fzDs look ds).map .tup
  | .ktup ds => (fzDs look ds).map .ktup
  | .lst ds => (fzDs look ds).map .lst
  | .dct t ks ds => (fzDs look ds).map (.dct t ks)
  | d => some d
def fzDs (look : Nat → Option D) : List D → Option (List D)
  | [] => some []
  | d :: ds => match fzD look d, fzDs look ds with
    | some e, some es => some (e :: es)
    | _, _ => none
end
/-- what the reference n becomes: those below n0 stay -/
def fzR (μ : Store) (n0 : Nat) : Nat → Nat → Option D
  | 0, n => if n < n0 then some (.ref n) else none
  | k + 1, n => if n < n0 then some (.ref n) else match μ[n]? with
    | some (.lst ds) => (fzDs (fzR μ n0 k) ds).map .lst
    | some (.dct t ks ds) => (fzDs (fzR μ n0 k) ds).map (.dct t ks)
    | _ => none
mutual
/-- no reference to what is not below n -/
def D.under (n0 : Nat) : D → Bool
  | .ref n => decide (n < n0)
  | .tup ds => underL n0 ds
  | .ktup ds => underL n0 ds
  | .lst ds => underL n0 ds
  | .dct _ _ ds => underL n0 ds
  | _ => true
def underL (n0 : Nat) : List D → Bool
  | [] => true
  | d :: ds => d.under n0 && underL n0 ds
end

/-! ### the syntax -/
/-- a target: a name by its slot, or several -/
inductive Tg where
  | nm (i : Nat) | tp (ts : Tg) | nil | cons (t r : Tg)
inductive PX where
  | var (i : Nat) | int (i : Int) | str (x : Str) | bl (b : Bool) | non | glb (x : Str)
  | bin (op : Operator) (a b : PX) | neg (a : PX) | not (a : PX) | cmp (op : CmpOp) (a b : PX) | chain (o1 o2 : CmpOp) (a b c : PX)
  | and (l : PX) | or (l : PX) | ite (c a b : PX)
  | call (f : Str) (l : PX) | bi (f : Bi) (l : PX) | ty (T : Ty) (l : PX) | isi (a : PX) (T : Cl)
  | tup (l : PX) | lst (l : PX) | dct (t : Bool) (ks vs : PX)
  | ix (a b : PX) | slc (a lo hi : PX) | rev (a : PX)
  | lc (own : List Nat) (elt gens : PX) | dc (own : List Nat) (t : Bool) (k v gens : PX)
  | new (a : PX) | mth (m : Mt) (o l : PX)
  | nil | cons (a r : PX)
  | gen (tg : Tg) (it ifs rest : PX)
  | range (l : PX) | zip (a b : PX) | enum (a : PX) | items (a : PX) | vals (a : PX) | rvd (a : PX) | over (a : PX)

/-- what a loop walks: these items; or the list n of the store, of the length N -/
inductive Src where
  | its (ds : List D) | live (n N : Nat)
def zipD : List D → List D → List D
  | x :: xs, y :: ys => .ktup [x, y] :: zipD xs ys
  | _, _ => []
def enumD : Nat → List D → List D
  | _, [] => []
  | i, x :: xs => .ktup [.int i, x] :: enumD (i + 1) xs
def rangeD (lo : Int) : Nat → List D
  | 0 => []
  | n + 1 => .int lo :: rangeD (lo + 1) n
def ok62 (i : Int) : Bool := Nat.ble i.natAbs 4611686018427387903

def D.lstOf : D → Option (List D)
  | .tup ds => some ds
  | .lst ds => some ds
  | _ => none
mutual
def asg : Tg → Store → D → Env → Option Env
  | .nm i, _, d, ρ => some (ρ.set i (some d))
  | .tp ts, μ, d, ρ => match asSeq μ d with
    | some ds => asgL ts μ ds ρ
    | none => none
  | _, _, _, _ => none
def asgL : Tg → Store → List D → Env → Option Env
  | .nil, _, [], ρ => some ρ
  | .cons t r, μ, d :: ds, ρ => match asg t μ d ρ with
    | some ρ' => asgL r μ ds ρ'
    | none => none
  | _, _, _, _ => none
end

def R.ofOpt {α : Type} (o : Option α) (μ : Store) : R α := match o with
  | some a => .ok a μ
  | none => .bad
def R.map {α β : Type} (f : α → β) (r : R α) : R β := r.bind fun a μ => .ok (f a) μ
def R.bool (r : R D) : R Bool := r.bind fun d μ => match d with
  | .bl b => .ok b μ
  | _ => .bad
def R.dat (r : R Out) : R D := match r with
  | .ok (.v d) μ => .ok d μ
  | .ok (.f (.lst ds)) μ => .ok (.lst ds) μ
  | .ok (.f (.dct t ks ds)) μ => .ok (.dct t ks ds) μ
  | .ok (.f (.ro _)) _ => .bad
  | .exc c μ => .exc c μ
  | .bad => .bad

def M.under (n0 : Nat) : M → Bool
  | .lst ds => underL n0 ds
  | .dct _ _ ds => underL n0 ds
  | .ro ds => underL n0 ds
abbrev Oracle := Str → List D → Store → R D
/-- what a call hands back becomes a value (kept: a new object stays one) -/
def after (n0 : Nat) (keep : Bool) (d : D) (μ : Store) : R Out :=
  if μ.length ≤ n0 then .ok (.v d) μ
  else if (μ.take n0).all (M.under n0) then
    match keep with
    | true => match d with
      | .ref n => if n < n0 then .bad else match μ[n]? with
        | some (.lst ds) => if underL n0 ds then .ok (.f (.lst ds)) (μ.take n0) else .bad
        | some (.dct t ks ds) => if underL n0 ds then .ok (.f (.dct t ks ds)) (μ.take n0) else .bad
        | _ => .bad
      | _ => .bad
    | false => match fzD (fzR μ n0 4) d with
      | some e => .ok (.v e) (μ.take n0)
      | none => .bad
  else .bad

def loopI {α : Type} (k : D → Env → α → Store → R (Env × α)) : List D → Env → α → Store → R (Env × α)
  | [], ρ, a, μ => .ok (ρ, a) μ
  | d :: ds, ρ, a, μ => (k d ρ a μ).bind fun r μ' => loopI k ds r.1 r.2 μ'

/-! ### walks -/
def loopL {β : Type} (turn : D → β → Store → R β) : List D → β → Store → R β
  | [], b, μ => .ok b μ
  | d :: ds, b, μ => (turn d b μ).bind fun b' μ' => loopL turn ds b' μ'
def liveAt (n N : Nat) (μ : Store) : Option (List D) := match μ[n]? with
  | some (.lst ds) => if ds.length = N then some ds else none
  | some (.ro ds) => if ds.length = N then some ds else none
  | _ => none
def loopN {β : Type} (turn : D → β → Store → R β) (n N : Nat) : Nat → β → Store → R β
  | 0, b, μ => match liveAt n N μ with
    | some _ => .ok b μ
    | none => .bad
  | k + 1, b, μ => match (liveAt n N μ).bind fun ds => ds[N - (k + 1)]? with
    | some d => (turn d b μ).bind fun b' μ' => loopN turn n N k b' μ'
    | none => .bad
def loopS {β : Type} (src : Src) (turn : D → β → Store → R β) (b : β) (μ : Store) : R β := match src with
  | .its ds => loopL turn ds b μ
  | .live n N => loopN turn n N N b μ
def Tg.slots : Tg → List Nat
  | .nm i => [i]
  | .tp ts => ts.slots
  | .nil => []
  | .cons t r => t.slots ++ r.slots

/-- the slots of clauses -/
def PX.gslots : PX → List Nat
  | .gen tg _ _ rest => tg.slots ++ rest.gslots
  | _ => []
/-- what stands at the names of the module: constants -/
abbrev Consts := Str → Option D

/-- a new object comes into the store -/
def pushO (o : Out) (μ : Store) : R Out := match o with
  | .f (.lst ds) => .ok (.v (.ref μ.length)) (μ ++ [.lst ds])
  | .f (.dct t ks ds) => .ok (.v (.ref μ.length)) (μ ++ [.dct t ks ds])
  | _ => .bad
/-- a slice's end: left out, or an int -/
def partOf (p : PX) (r : R D) : R (Option Int) := match p with
  | .non => r.bind fun _ μ => .ok none μ
  | _ => r.bind fun d μ => match d with
    | .int i => .ok (some i) μ
    | _ => .bad
section
variable (cl : Oracle) (gc : Consts)
/-- what a comprehension gathers -/
abbrev Acc := List DK × List D
mutual
def evO : PX → Env → Store → R Out
  | .var i, ρ, μ => match ρ[i]? with
    | some (some d) => .ok (.v d) μ
    | _ => .bad
  | .int i, _, μ => .ok (.v (.int i)) μ
  | .str x, _, μ => .ok (.v (.str x)) μ
  | .bl b, _, μ => .ok (.v (.bl b)) μ
  | .non, _, μ => .ok (.v .non) μ
  | .glb x, _, μ => match gc x with
    | some d => .ok (.v d) μ
    | none => .bad
  | .bin op a b, ρ, μ => (evO a ρ μ).dat.bind fun x μ => (evO b ρ μ).dat.bind fun y μ => R.ofOpt (binD op μ x y) μ
  | .neg a, ρ, μ => (evO a ρ μ).dat.bind fun x μ => match x with
    | .int i => .ok (.v (.int (-i))) μ
    | _ => .bad
  | .not a, ρ, μ => (evO a ρ μ).dat.bool.bind fun x μ => .ok (.v (.bl (!x))) μ
  | .cmp op a b, ρ, μ => (evO a ρ μ).dat.bind fun x μ => (evO b ρ μ).dat.bind fun y μ => (R.ofOpt (cmpD op μ x y) μ).map fun b => .v (.bl b)
  | .chain o1 o2 a b c, ρ, μ => (evO a ρ μ).dat.bind fun x μ => (evO b ρ μ).dat.bind fun y μ => (R.ofOpt (cmpD o1 μ x y) μ).bind fun k μ =>
      if k then (evO c ρ μ).dat.bind fun z μ => (R.ofOpt (cmpD o2 μ y z) μ).map fun b => .v (.bl b) else .ok (.v (.bl false)) μ
  | .and l, ρ, μ => evAnd l ρ μ
  | .or l, ρ, μ => evOr l ρ μ
  | .ite c a b, ρ, μ => (evO c ρ μ).dat.bool.bind fun k μ => if k then (evO a ρ μ).dat.map .v else (evO b ρ μ).dat.map .v
  | .call f l, ρ, μ => (evL l ρ μ).bind fun xs μ1 => (cl f xs μ1).bind fun d μ2 => after μ1.length false d μ2
  | .bi f l, ρ, μ => (evL l ρ μ).bind fun xs μ => R.ofOpt (biD f μ xs) μ
  | .ty f l, ρ, μ => (evL l ρ μ).bind fun xs μ => R.ofOpt (tyD f μ xs) μ
  | .isi a T, ρ, μ => (evO a ρ μ).dat.bind fun x μ => (R.ofOpt (isiD μ x T) μ).map fun b => .v (.bl b)
  | .tup l, ρ, μ => (evL l ρ μ).bind fun xs μ => if xs.length ≤ sizeLine then .ok (.v (.tup xs)) μ else .bad
  | .lst l, ρ, μ => (evL l ρ μ).bind fun xs μ => if xs.length ≤ sizeLine then .ok (.f (.lst xs)) μ else .bad
  | .dct t .nil .nil, ρ, μ => .ok (.f (.dct t [] [])) μ
  | .ix a b, ρ, μ => (evO a ρ μ).dat.bind fun x μ => (evO b ρ μ).dat.bind fun y μ => (R.ofOpt (ixD μ x y) μ).map .v
  | .slc a lo hi, ρ, μ => (evO a ρ μ).dat.bind fun x μ => (partOf lo (evO lo ρ μ).dat).bind fun l μ => (partOf hi (evO hi ρ μ).dat).bind fun h μ => R.ofOpt (slcD μ x l h) μ
  | .rev a, ρ, μ => (evO a ρ μ).dat.bind fun x μ => match x with
    | .tup ds => .ok (.v (.tup ds.reverse)) μ
    | _ => .bad
  | .lc own elt (.gen tg it ifs rest), ρ, μ => (evI it ρ μ).bind fun src μ =>
      ((loopS src (fun d acc μ => match asg tg μ d (wipeD (wipeD ρ own) (tg.slots ++ rest.gslots)) with
        | some ρ' => (evIf ifs ρ' μ).bind fun k μ => if k then evC rest (fun ρ acc μ => (evO elt ρ μ).dat.bind fun x μ => if acc.2.length < sizeLine then .ok ([], acc.2 ++ [x]) μ else .bad) ρ' acc μ else .ok acc μ
        | none => .bad) (([], []) : Acc) μ).noexc.map fun xs => .f (.lst xs.2))
  | .dc own t key val (.gen tg it ifs rest), ρ, μ => (evI it ρ μ).bind fun src μ =>
      ((loopS src (fun d acc μ => match asg tg μ d (wipeD (wipeD ρ own) (tg.slots ++ rest.gslots)) with
        | some ρ' => (evIf ifs ρ' μ).bind fun k μ => if k then evC rest (fun ρ acc μ => (evO key ρ μ).dat.bind fun x μ => (evO val ρ μ).dat.bind fun y μ =>
            match x.key t with
            | some k => if acc.1.length < sizeLine then .ok (putD acc.1 acc.2 k y) μ else .bad
            | none => .bad) ρ' acc μ else .ok acc μ
        | none => .bad) (([], []) : Acc) μ).noexc.map fun r => .f (.dct t r.1 r.2))
  | .new a, ρ, μ => match a with
    | .call f l => (evL l ρ μ).bind fun xs μ1 => (cl f xs μ1).bind fun d μ2 => (after μ1.length true d μ2).bind pushO
    | a => (evO a ρ μ).bind pushO
  | .mth m o l, ρ, μ => (evO o ρ μ).dat.bind fun x μ => if isMt m μ x then (evL l ρ μ).bind fun xs μ => match mthX m x xs μ with
    | some (d, μ) => .ok (.v d) μ
    | none => .bad else .bad
  | _, _, _ => .bad
termination_by structural x => x
def evL : PX → Env → Store → R (List D)
  | .nil, _, μ => .ok [] μ
  | .cons a r, ρ, μ => (evO a ρ μ).dat.bind fun x μ => (evL r ρ μ).bind fun xs μ => .ok (x :: xs) μ
  | _, _, _ => .bad
termination_by structural x => x
def evAnd : PX → Env → Store → R Out
  | .cons a .nil, ρ, μ => (evO a ρ μ).dat.map .v
  | .cons a r, ρ, μ => (evO a ρ μ).dat.bool.bind fun k μ => if k then evAnd r ρ μ else .ok (.v (.bl false)) μ
  | _, _, _ => .bad
termination_by structural x => x
def evOr : PX → Env → Store → R Out
  | .cons a .nil, ρ, μ => (evO a ρ μ).dat.map .v
  | .cons a r, ρ, μ => (evO a ρ μ).dat.bool.bind fun k μ => if k then .ok (.v (.bl true)) μ else evOr r ρ μ
  | _, _, _ => .bad
termination_by structural x => x
def evIf : PX → Env → Store → R Bool
  | .nil, _, μ => .ok true μ
  | .cons a .nil, ρ, μ => (evO a ρ μ).dat.bool
  | _, _, _ => .bad
termination_by structural x => x
def evI : PX → Env → Store → R Src
  | .over a, ρ, μ => (evO a ρ μ).dat.bind fun x μ => match x with
    | .lst ds => .ok (.its ds) μ
    | .tup ds => .ok (.its ds) μ
    | .ktup ds => .ok (.its ds) μ
    | .str z => .ok (.its (strChars z)) μ
    | .ref n => match μ[n]? with
      | some (.lst ds) => .ok (.live n ds.length) μ
      | some (.ro ds) => .ok (.live n ds.length) μ
      | _ => .bad
    | _ => .bad
  | .range (.cons a .nil), ρ, μ => (evO a ρ μ).dat.bind fun x μ => match x with
    | .int j => if ok62 j then .ok (.its (rangeD 0 j.toNat)) μ else .bad
    | _ => .bad
  | .range (.cons a (.cons b .nil)), ρ, μ => (evO a ρ μ).dat.bind fun x μ => (evO b ρ μ).dat.bind fun y μ => match x, y with
    | .int i, .int j => if ok62 i && ok62 j then .ok (.its (rangeD i (j - i).toNat)) μ else .bad
    | _, _ => .bad
  | .zip a b, ρ, μ => (evO a ρ μ).dat.bind fun x μ => (evO b ρ μ).dat.bind fun y μ => match x, y with
    | .lst xs, .lst ys => .ok (.its (zipD xs ys)) μ
    | .tup xs, .tup ys => .ok (.its (zipD xs ys)) μ
    | _, _ => .bad
  | .enum a, ρ, μ => (evO a ρ μ).dat.bind fun x μ => match x with
    | .lst xs => .ok (.its (enumD 0 xs)) μ
    | .tup xs => .ok (.its (enumD 0 xs)) μ
    | _ => .bad
  | .rvd a, ρ, μ => (evO a ρ μ).dat.bind fun x μ => match x with
    | .lst xs => .ok (.its xs.reverse) μ
    | .tup xs => .ok (.its xs.reverse) μ
    | _ => .bad
  | _, _, _ => .bad
termination_by structural x => x
def evC : PX → (Env → Acc → Store → R Acc) → Env → Acc → Store → R Acc
  | .nil, emit, ρ, b, μ => emit ρ b μ
  | .gen tg it ifs rest, emit, ρ, b, μ => (evI it ρ μ).bind fun src μ =>
      loopS src (fun d acc μ => match asg tg μ d (wipeD ρ (tg.slots ++ rest.gslots)) with
        | some ρ' => (evIf ifs ρ' μ).bind fun k μ => if k then evC rest emit ρ' acc μ else .ok acc μ
        | none => .bad) b μ
  | _, _, _, _, _ => .bad
termination_by structural x => x
end
end

/-! ### statements -/
inductive SX where
  | expr (e : PX) | set (i : Nat) (e : PX) | setT (tg : Tg) (e : PX) | par (i j : Nat) (a b : PX) | setIx (o i e : PX)
  | aug (i : Nat) (op : Operator) (e : PX) | augIx (o i : PX) (op : Operator) (e : PX)
  | cond (c : PX) (a b : SX) | loop (tg : Tg) (it : PX) (body : SX) | whil (c : PX) (body : SX)
  | ret (e : PX) | retN | brk | cont | pass | raise (c : Str) (m : Str)
  | tr (body hs : SX) | hd (c : Str) (i : Option Nat) (suite rest : SX) | flg (c f : Str) (cs : List Str) (rest : SX)
  | nil | cons (s r : SX)
inductive RS where
  | nx (ρ : Env) (μ : Store) | rt (d : D) (μ : Store) | bk (ρ : Env) (μ : Store) | ct (ρ : Env) (μ : Store) | exc (c : Str) (ρ : Env) (μ : Store) | bad
def R.thenS {α : Type} (ρ : Env) (r : R α) (k : α → Store → RS) : RS := match r with
  | .ok a μ => k a μ
  | .exc c μ => .exc c ρ μ
  | .bad => .bad
def RS.seq (r : RS) (k : Env → Store → RS) : RS := match r with
  | .nx ρ μ => k ρ μ
  | r => r
/-- behind a turn -/
def RS.turn (r : RS) (k : Env → Store → RS) : RS := match r with
  | .nx ρ μ => k ρ μ
  | .ct ρ μ => k ρ μ
  | .bk ρ μ => .nx ρ μ
  | r => r
def forL (turn : D → Env → Store → RS) : List D → Env → Store → RS
  | [], ρ, μ => .nx ρ μ
  | d :: ds, ρ, μ => (turn d ρ μ).turn (forL turn ds)
def forN (turn : D → Env → Store → RS) (n N : Nat) : Nat → Env → Store → RS
  | 0, ρ, μ => match liveAt n N μ with
    | some _ => .nx ρ μ
    | none => .bad
  | k + 1, ρ, μ => match (liveAt n N μ).bind fun ds => ds[N - (k + 1)]? with
    | some d => (turn d ρ μ).turn (forN turn n N k)
    | none => .bad
def forS (src : Src) (turn : D → Env → Store → RS) (ρ : Env) (μ : Store) : RS := match src with
  | .its ds => forL turn ds ρ μ
  | .live n N => forN turn n N N ρ μ
def whileF (test : Env → Store → R Bool) (body : Env → Store → RS) : Nat → Env → Store → RS
  | 0, _, _ => .bad
  | k + 1, ρ, μ => (test ρ μ).thenS ρ fun b μ => if b then (body ρ μ).turn (whileF test body k) else .nx ρ μ
def whileFuel : Nat := 10000000
/-- x[i], x an object of the store -/
def gxD (μ : Store) (x y : D) : Option D := match x with
  | .ref n => match μ[n]? with
    | some (.lst ds) => match y with
      | .int i => atI ds i
      | _ => none
    | some (.dct t ks ds) => (y.key t).bind (lookD ks ds)
    | _ => none
  | _ => none
/-- the classes of errors: which one is below which -/
abbrev Subs := Str → Str → Option Bool
/-- of which classes x is -/
def flagsOf (sub : Subs) (x : Str) : List Str → Option (List Bool)
  | [] => some []
  | c :: cs => match sub x c, flagsOf sub x cs with
    | some b, some bs => some (b :: bs)
    | _, _ => none
section
variable (cl : Oracle) (gc : Consts) (sub : Subs)
mutual
def evS : SX → Env → Store → RS
  | .expr e, ρ, μ => (evO cl gc e ρ μ).dat.thenS ρ fun _ μ => .nx ρ μ
  | .set i e, ρ, μ => (evO cl gc e ρ μ).dat.thenS ρ fun d μ => .nx (ρ.set i (some d)) μ
  | .setT tg e, ρ, μ => (evO cl gc e ρ μ).dat.thenS ρ fun d μ => match asg tg μ d ρ with
    | some ρ' => .nx ρ' μ
    | none => .bad
  | .par i j a b, ρ, μ => (evO cl gc a ρ μ).dat.thenS ρ fun x μ => (evO cl gc b ρ μ).dat.thenS ρ fun y μ => .nx ((ρ.set i (some x)).set j (some y)) μ
  | .setIx o i e, ρ, μ => (evO cl gc e ρ μ).dat.thenS ρ fun v μ => (evO cl gc o ρ μ).dat.thenS ρ fun x μ => (evO cl gc i ρ μ).dat.thenS ρ fun y μ => match setD x y v μ with
    | some μ => .nx ρ μ
    | none => .bad
  | .aug i op e, ρ, μ => match ρ[i]? with
    | some (some x) => (evO cl gc e ρ μ).dat.thenS ρ fun y μ => match x, y with
      | .int _, .int _ => match binD op μ x y with
        | some o => .nx (ρ.set i (some o.dat)) μ
        | none => .bad
      | _, _ => .bad
    | _ => .bad
  | .augIx o i op e, ρ, μ => (evO cl gc o ρ μ).dat.thenS ρ fun x μ => (evO cl gc i ρ μ).dat.thenS ρ fun y μ => match gxD μ x y with
    | some old => (evO cl gc e ρ μ).dat.thenS ρ fun v μ => match old, v with
      | .int _, .int _ => match binD op μ old v with
        | some new => match setD x y new.dat μ with
          | some μ => .nx ρ μ
          | none => .bad
        | none => .bad
      | _, _ => .bad
    | none => .bad
  | .cond c a b, ρ, μ => (evO cl gc c ρ μ).dat.bool.thenS ρ fun k μ => if k then evS a ρ μ else evS b ρ μ
  | .loop tg it body, ρ, μ => (evI cl gc it ρ μ).thenS ρ fun src μ => forS src (fun d ρ μ => match asg tg μ d ρ with
    | some ρ' => evS body ρ' μ
    | none => .bad) ρ μ
  | .whil c body, ρ, μ => whileF (fun ρ μ => (evO cl gc c ρ μ).dat.bool) (fun ρ μ => evS body ρ μ) whileFuel ρ μ
  | .ret e, ρ, μ => (evO cl gc e ρ μ).dat.thenS ρ fun d μ => .rt d μ
  | .retN, _, μ => .rt .non μ
  | .brk, ρ, μ => .bk ρ μ
  | .cont, ρ, μ => .ct ρ μ
  | .pass, ρ, μ => .nx ρ μ
  | .raise c _, ρ, μ => .exc c ρ μ
  | .tr body hs, ρ, μ => match evS body ρ μ with
    | .exc c ρ' μ' => evH hs c ρ' μ'
    | r => r
  | .nil, ρ, μ => .nx ρ μ
  | .cons s r, ρ, μ => (evS s ρ μ).seq fun ρ μ => evS r ρ μ
  | .hd _ _ _ _, _, _ => .bad
  | .flg _ _ _ _, _, _ => .bad
termination_by structural x => x
def evH : SX → Str → Env → Store → RS
  | .hd c i suite rest, x, ρ, μ => match sub x c with
    | some true => match i with
      | none => evS suite ρ μ
      | some i => evS suite (ρ.set i (some (.glb x))) μ
    | some false => evH rest x ρ μ
    | none => .bad
  | .flg c _ cs rest, x, ρ, μ => match sub x c with
    | some true => match flagsOf sub x cs with
      | some bs => .rt (.lst (bs.map .bl)) μ
      | none => .bad
    | some false => evH rest x ρ μ
    | none => .bad
  | .nil, x, ρ, μ => .exc x ρ μ
  | _, _, _, _ => .bad
termination_by structural x => x
end
end
/-- a def: its parameters' number, its slots' number, its body -/
structure Fn where
  ar : Nat
  sl : Nat
  body : SX
def endOf : RS → R D
  | .nx _ μ => .ok .non μ
  | .rt d μ => .ok d μ
  | .exc c _ μ => .exc c μ
  | _ => .bad
/-- the defs, calls one in another at most n deep -/
def run (fns : Str → Option Fn) (gc : Consts) (sub : Subs) : Nat → Oracle
  | 0, _, _, _ => .bad
  | n + 1, f, xs, μ => match fns f with
    | some F => if xs.length = F.ar then endOf (evS (run fns gc sub n) gc sub F.body (xs.map some ++ List.replicate (F.sl - F.ar) none) μ) else .bad
    | none => .bad
end PyD

set_option Elab.async false
set_option linter.all false
set_option maxRecDepth 100000
set_option maxHeartbeats 4000000
/-! New tuples: either as keys, or known to have no dict of their own. -/
namespace PyD
open PySem PySem.Spec PyProof.Rows L2
section
variable {X : Cx} {pins : List (Addr × Obj)} {σ : L2.St} {H : Hp} {s : Shared} {es : List Expr} {t : TA} {pos : Pos}
/-- what a new tuple must give -/
def NewT (H : Hp) (Q : VK) (xs : List V) : Prop := ∃ b, ∀ p (o : Obj), o.dict = none → H p = none → Q (.ref p) (upd H p (tupO b o xs))
theorem inv_tup (I : Inv X pins σ H s) {its : List Value} {xs : List V} (r : Vals xs its) (hz : xs.length ≤ sizeLine) {b : Bool} {h' : Heap} {tk n : Nat} {a : Addr} {o : Obj} (k : ∀ c u, s.heap.get? c = some u → h'.get? c = some u) (ha : s.heap.objs.size ≤ a) (ho : h'.get? a = some o) (hc : o.cls = .type "tuple") (hd : o.data = .seq its.toArray n) :
    Inv X pins σ (upd H a (tupO b o xs)) { s with heap := h', toks := tk } := I.laid (t' := tk) k ha (by
  have : ObjOk X.prog X.w (upd H a (tupO b o xs)) h' a (.tup xs) := ⟨hz, its, r, o, ho, hc, n, hd⟩
  cases b with
  | true => exact this
  | false => exact ⟨ho, this⟩)
/-- the end at a pushed tuple -/
theorem ep_tup (I : Inv X pins σ H s) {its : List Value} {xs : List V} (r : Vals xs its) (hz : xs.length ≤ sizeLine) {Q : VK} (q : NewT H Q xs) : EP X pins σ Q (.ref s.heap.objs.size) { s with heap := s.heap.push { cls := .type "tuple", data := .seq its.toArray } } := by
  obtain ⟨b, q⟩ := q
  exact ⟨.ref s.heap.objs.size, _, inv_tup (b := b) (tk := s.toks) I r hz (fun c u e => Heap.get?_push_of_some _ e) (Nat.le_refl _) (Heap.get?_push_size _ rfl) rfl rfl, rfl, q _ _ rfl (I.hok.fresh (Nat.le_refl _))⟩
def tTupB (t : TA) : TE := fun σ H Q => t σ H fun xs H1 => xs.length ≤ sizeLine ∧ NewT H1 Q xs
theorem pe_tupB {k : Nat} (h : PA X es t) : PE X (.Tuple es k pos) (tTupB t) := by
  refine ⟨fun pins s σ H Q I hq => ?_⟩
  exact wpAny_Tuple_spliced (thn (h.run pos pins s σ H _ I hq) fun us s1 ⟨xs, H1, I1, r, z, q⟩ => ⟨by rw [← r.length]; exact z, ep_tup I1 r z q⟩)
/-- tuple(xs), xs a list -/
theorem call_tupleB : CallR X (.type "tuple") (fun xs H Q => ∃ p ys, xs = [.ref p] ∧ SqL X.K H p ys ∧ NewT H Q ys) := by
  intro pins s σ H xs us Q I r h
  obtain ⟨p, ys, rfl, hq, q⟩ := h
  obtain ⟨u, rfl, rx⟩ := vals1 r
  cases rx
  obtain ⟨its, r', pl, hz⟩ := I.list hq
  refine call_tuple_list pl.isList (fun h' kp => ?_) (by rw [List.size_toArray, ← r'.length]; exact hz)
  have I1 : Inv X pins σ H { s with heap := h' } := I.kept (t' := s.toks) kp
  exact ep_tup I1 r' hz q
/-- t + u -/
def rCatB (K : PySem.W.Frag) : R2 := fun x y H Q => ∃ a b xs ys, x = .ref a ∧ y = .ref b ∧ SqT K H a xs ∧ SqT K H b ys ∧ xs.length + ys.length ≤ sizeLine ∧ (xs = [] → Q (.ref b) H) ∧ (ys = [] → Q (.ref a) H) ∧ NewT H Q (xs ++ ys)
theorem op_catB : OpR X (binaryOp .Add) (rCatB X.K) := by
  intro pins s σ H x y v u Q I rx ry h
  obtain ⟨a, b, xs, ys, rfl, rfl, ha, hb, hz, q0, q1, q2⟩ := h
  cases rx
  cases ry
  obtain ⟨its, r1, p1, _⟩ := I.tuple ha
  obtain ⟨its2, r2, p2, _⟩ := I.tuple hb
  by_cases hx : xs = []
  · subst hx
    cases r1
    exact cat_tup0 p1 p2 ⟨.ref b, H, I, rfl, q0 rfl⟩
  · exact HT.cat_tup p1 p2 (fun z => hx (r1.nil_iff.mp z)) (fun z => ⟨.ref a, H, I, rfl, q1 (r2.nil_iff.mp z)⟩) (fun _ => ep_tup I (r1.append r2) (by rw [List.length_append]; exact hz) q2) (by rw [← r1.length, ← r2.length]; exact hz)
/-- t[lo:hi] -/
def rSlB (K : PySem.W.Frag) : V → Option Int → Option Int → Hp → VK → Prop := fun x lo hi H Q => ∃ a xs, x = .ref a ∧ SqT K H a xs ∧
  (HT.sIx xs.length 0 lo = 0 ∧ HT.sIx xs.length xs.length hi = xs.length → Q (.ref a) H) ∧ NewT H Q (cutV xs lo hi)
theorem sl_tupB : SlR X (rSlB X.K) := by
  intro pins s σ H x v vl vu lo hi sl Q I rx hs pl pu h
  obtain ⟨a, xs, rfl, hx, q1, q2⟩ := h
  cases rx
  obtain ⟨its, r, ht, hz⟩ := I.tuple hx
  have hlen : its.toArray.size = xs.length := by rw [List.size_toArray]; exact r.length.symm
  refine ⟨"tuple", _, PyProof.Rows.slot_tuple_getitem.lookup, ht.typeIs, ?_⟩
  by_cases hw : HT.sIx xs.length 0 lo = 0 ∧ HT.sIx xs.length xs.length hi = xs.length
  · exact getItem_tuple_whole ht hs pl pu (by rw [hlen]; exact hw) ⟨.ref a, H, I, rfl, q1 hw⟩
  · refine HT.getItem_tuple_cut ht hs pl pu (by rw [hlen]; exact hw) ?_ (by rw [hlen]; exact hz)
    rw [hlen]
    exact ep_tup I ((r.drop (HT.sIx xs.length 0 lo)).take (HT.sIx xs.length xs.length hi - HT.sIx xs.length 0 lo)) (Nat.le_trans (cutV_length xs lo hi) hz) q2
theorem TupAt.ty {K : PySem.W.Frag} {b : Bool} {a : Addr} {vs : List V} (h : TupAt H b a vs) : TyX K H (.ref a) (.type "tuple") := by
  obtain ⟨o, _, h⟩ := h
  cases b with
  | true => exact .base (.tup h)
  | false => exact .fTuple h
end
end PyD

set_option Elab.async false
set_option linter.all false
set_option maxRecDepth 100000
set_option maxHeartbeats 4000000
/-! Which text a term of the evaluator's syntax describes. -/
namespace PyD
open PySem PySem.Spec L2

/-- where a piece of text stands: the slots' names, its scope; the names whose cells were made here; a def's body; built-in names that the module has not bound -/
structure CC where
  N : List Str
  sc : Scope
  fnb : Str → Bool
  bn : List Str
  /-- the module's defs -/
  fs : List Str
  /-- classes of errors -/
  ex : List Str
  /-- defs that ask their argument's class -/
  fl : List (Str × List Str) := []
def isV (sc : Scope) (x : Str) : Bool := match sc.names.lookup x with
  | some .local => true | some .cell => true | some .free => true | _ => false
def isLoc (sc : Scope) (x : Str) : Bool := match sc.names.lookup x with
  | some .local => true | some .cell => true | _ => false
def isPure (sc : Scope) (x : Str) : Bool := match sc.names.lookup x with
  | some .local => true | _ => false
def isGl (sc : Scope) (x : Str) : Bool := match sc.names.lookup x with
  | some .globalImplicit => true | _ => false
def plainN (x : Str) : Bool := !(x == ("__debug__" : Str)) && !(x == ("__classdict__" : Str))
def isBlt (cc : CC) (x : Str) : Bool := isGl cc.sc x && plainN x && decide (x ∈ cc.bn) && decide (x ≠ "__name__")
def slotIs (cc : CC) (i : Nat) (x : Str) : Bool := decide (cc.N[i]? = some x) && plainN x
def CC.inner (cc : CC) (scope : Scope) : CC := { cc with sc := relS scope cc.sc, fnb := fun x => scope.names.lookup x == some .cell }
def asgOk (cc : CC) (x : Str) : Bool := isLoc cc.sc x && (cc.fnb x || isPure cc.sc x)
def lineOk (apos cpos : Pos) : Bool := apos.endLine == cpos.line

mutual
def chkTg (cc : CC) : Tg → Expr → Bool
  | .nm i, .Name x _ => slotIs cc i x && asgOk cc x
  | .tp ts, .Tuple es _ _ => chkTgs cc ts es
  | _, _ => false
termination_by structural x => x
def chkTgs (cc : CC) : Tg → List Expr → Bool
  | .nil, [] => true
  | .cons t r, e :: es => chkTg cc t e && chkTgs cc r es
  | _, _ => false
termination_by structural x => x
end
def ownOf (cc : CC) (own : List Nat) : List (Str × Nat) := own.map fun i => ((cc.N[i]?).getD ⟨#[]⟩, i)
def notSet : Expr → Bool
  | .Set _ _ _ => false
  | _ => true
def noSlice : Expr → Bool
  | .Slice _ _ _ _ => false
  | _ => true
def baseOk : Expr → Bool
  | .Call _ [] _ _ => false
  | _ => true
def notNon : PX → Bool
  | .non => false
  | _ => true
/-- zip and enumerate hand out pairs to a target of several names -/
def tgOk : PX → Expr → Bool
  | .zip _ _, .Tuple _ _ _ => true
  | .zip _ _, _ => false
  | .enum _, .Tuple _ _ _ => true
  | .enum _, _ => false
  | _, _ => true
/-- a test's form -/
def tstOk : Expr → Bool
  | .IfExp _ _ _ _ => false
  | _ => true
def getOk (m : Mt) (es : List Expr) : Bool := match m with
  | .get => es.length == 1 || es.length == 2
  | _ => true
def newOk : Expr → Bool
  | .IfExp _ _ _ _ => false
  | .Compare _ _ _ _ => false
  | .BoolOp _ _ _ => false
  | .UnaryOp _ _ _ => false
  | _ => true
def biOk : Bi → Bool
  | .revlist => false
  | .lenset => false
  | _ => true
def isLenset : Bi → Bool
  | .lenset => true
  | _ => false
/-- ::-1 -/
def isBack : Expr → Bool
  | .Slice none none (some (.UnaryOp .USub (.Constant (.int i) _ _) _)) _ => decide (i = 1)
  | _ => false
theorem isBack_i {e : Expr} (h : isBack e = true) : ∃ j p1 p2 p3, e = .Slice none none (some (.UnaryOp .USub (.Constant (.int 1) j p1) p2)) p3 := by
  unfold isBack at h; split at h
  · have h := of_decide_eq_true h
    subst h
    exact ⟨_, _, _, _, rfl⟩
  · cases h
def isRev : Bi → Bool
  | .revlist => true
  | _ => false
def revArg : List Expr → Option (Str × Expr)
  | [.Call (.Name g _) [e] [] _] => some (g, e)
  | _ => none
theorem revArg_i {es : List Expr} {y : Str} {e : Expr} (h : revArg es = some (y, e)) : ∃ p2 p3, es = [.Call (.Name y p2) [e] [] p3] := by
  unfold revArg at h; split at h
  · cases h; exact ⟨_, _, rfl⟩
  · cases h
mutual
def chk : PX → CC → Expr → Bool
  | .var i, cc, .Name x _ => slotIs cc i x && isV cc.sc x
  | .int i, _, .Constant (.int j) _ _ => decide (i = j)
  | .str i, _, .Constant (.str j) _ _ => decide (i = j)
  | .bl i, _, .Constant (.bool j) _ _ => decide (i = j)
  | .non, _, .Constant .none _ _ => true
  | .glb x, cc, .Name y _ => decide (x = y) && isGl cc.sc x && plainN x
  | .bin op a b, cc, .BinOp a' op' b' _ => decide (op = op') && chk a cc a' && chk b cc b'
  | .neg a, cc, .UnaryOp .USub a' _ => chk a cc a'
  | .not a, cc, .UnaryOp .Not a' _ => chk a cc a' && tstOk a'
  | .cmp op a b, cc, .Compare a' [op'] [b'] _ => decide (op = op') && chk a cc a' && chk b cc b' && notSet b'
  | .chain o1 o2 a b c, cc, .Compare a' [p1, p2] [b', c'] _ => decide (o1 = p1) && decide (o2 = p2) && chk a cc a' && chk b cc b' && chk c cc c' && notSet b' && notSet c'
  | .and l, cc, .BoolOp .And es _ => chkL l cc es && !es.isEmpty && es.all tstOk
  | .or l, cc, .BoolOp .Or es _ => chkL l cc es && !es.isEmpty && es.all tstOk
  | .ite c a b, cc, .IfExp c' a' b' _ => chk c cc c' && tstOk c' && chk a cc a' && chk b cc b'
  | .call f l, cc, .Call (.Name f' _) es [] _ => decide (f = f') && isGl cc.sc f && plainN f && decide (f ∈ cc.fs) && !es.isEmpty && chkL l cc es
  | .bi f l, cc, .Call (.Name f' _) es [] _ => (biOk f && decide (f' = Str.ofString f.name) && isBlt cc f' && !es.isEmpty && chkL l cc es) || (isRev f && (match revArg es with
    | some (y, e) => decide (f' = "list") && isBlt cc f' && decide (y = "reversed") && isBlt cc y && chkL l cc [e]
    | none => false)) || (isLenset f && (match revArg es with
    | some (y, e) => decide (f' = "len") && isBlt cc f' && decide (y = "set") && isBlt cc y && chkL l cc [e]
    | none => false))
  | .ty f l, cc, .Call (.Name f' _) es [] _ => decide (f' = Str.ofString f.name) && isBlt cc f' && !es.isEmpty && chkL l cc es
  | .isi a T, cc, .Call (.Name f' _) [a', .Name T' _] [] _ => decide (f' = "isinstance") && isBlt cc f' && decide (T' = Str.ofString T.name) && isBlt cc T' && chk a cc a'
  | .tup l, cc, .Tuple es _ _ => chkL l cc es
  | .lst l, cc, .List es _ => chkL l cc es
  | .dct _ .nil .nil, _, .Dict [] [] _ => true
  | .ix a b, cc, .Subscript a' b' _ => chk a cc a' && chk b cc b' && noSlice b'
  | .slc a lo hi, cc, .Subscript a' (.Slice lo' hi' none _) _ => chk a cc a' && (match lo' with | none => !notNon lo | some e => chk lo cc e && notNon lo) && (match hi' with | none => !notNon hi | some e => chk hi cc e && notNon hi)
  | .rev a, cc, .Subscript a' i' _ => isBack i' && chk a cc a'
  | .lc own elt gens, cc, .ListComp elt' gens' scope _ => blkC cc.N cc.sc scope (ownOf cc own) && chkG gens cc (cc.inner scope) own gens' && chk elt (cc.inner scope) elt'
  | .dc own _ k v gens, cc, .DictComp k' v' gens' scope _ => blkC cc.N cc.sc scope (ownOf cc own) && chkG gens cc (cc.inner scope) own gens' && chk k (cc.inner scope) k' && chk v (cc.inner scope) v'
  | .new a, cc, e => chk a cc e && newOk e
  | .mth m o l, cc, .Call (.Attribute o' m' apos) es [] cpos => decide (m' = Str.ofString m.name) && lineOk apos cpos && baseOk o' && decide (es.length < 20) && chk o cc o' && chkL l cc es && getOk m es
  | _, _, _ => false
termination_by structural x => x
def chkL : PX → CC → List Expr → Bool
  | .nil, _, [] => true
  | .cons a r, cc, e :: es => chk a cc e && chkL r cc es
  | _, _, _ => false
termination_by structural x => x
def chkI : PX → CC → Expr → Bool
  | .over a, cc, e => chk a cc e && notSet e
  | .range l, cc, .Call (.Name f' _) es [] _ => decide (f' = "range") && isBlt cc f' && chkL l cc es
  | .zip a b, cc, .Call (.Name f' _) [a', b'] [] _ => decide (f' = "zip") && isBlt cc f' && chk a cc a' && chk b cc b'
  | .enum a, cc, .Call (.Name f' _) [a'] [] _ => decide (f' = "enumerate") && isBlt cc f' && chk a cc a'
  | .rvd a, cc, .Call (.Name f' _) [a'] [] _ => decide (f' = "reversed") && isBlt cc f' && chk a cc a'
  | _, _, _ => false
termination_by structural x => x
/-- clauses: where the first one's walked thing stands, the block, the block's own slots -/
def chkG : PX → CC → CC → List Nat → List Comprehension → Bool
  | .nil, _, _, _, [] => true
  | .gen tg it ifs rest, cc, ci, own, ⟨t', i', f', a'⟩ :: gs => chkTg ci tg t' && chkI it cc i' && tgOk it t' && chkL ifs ci f' && f'.all tstOk && decide (a' = 0) && chkG rest ci ci own gs
  | _, _, _, _, _ => false
termination_by structural x => x
end
end PyD

set_option Elab.async false
set_option linter.all false
set_option maxRecDepth 100000
set_option maxHeartbeats 4000000
/-! Which statements a term of the evaluator's syntax describes. -/
namespace PyD
open PySem PySem.Spec L2
def notComp : Expr → Bool
  | .ListComp _ _ _ _ => false
  | .SetComp _ _ _ _ => false
  | .DictComp _ _ _ _ _ => false
  | _ => true
def notTup : Expr → Bool
  | .Tuple _ _ _ => false
  | _ => true
/-- four or more -/
def many : List Expr → Bool
  | _ :: _ :: _ :: _ :: _ => true
  | _ => false
def opOk : Operator → Bool
  | .Add => true
  | .Sub => true
  | _ => false
mutual
/-- constants and tuples of such: what an except clause hands back -/
def chkK : PX → Expr → Bool
  | .int i, .Constant (.int j) _ _ => decide (i = j)
  | .str i, .Constant (.str j) _ _ => decide (i = j)
  | .bl i, .Constant (.bool j) _ _ => decide (i = j)
  | .non, .Constant .none _ _ => true
  | .tup l, .Tuple es _ _ => chkKs l es
  | _, _ => false
termination_by structural x => x
def chkKs : PX → List Expr → Bool
  | .nil, [] => true
  | .cons a r, e :: es => chkK a e && chkKs r es
  | _, _ => false
termination_by structural x => x
end
def oneName : List Expr → Option Str
  | [.Name x _] => some x
  | _ => none
def oneTup : List Expr → Option (List Expr × Nat × Pos)
  | [.Tuple es k p] => some (es, k, p)
  | _ => none
def twoNames : List Expr → Option (Str × Pos × Str × Pos)
  | [.Tuple [.Name x px, .Name y py] _ _] => some (x, px, y, py)
  | _ => none
def twoVals : Expr → Option (Expr × Expr)
  | .Tuple [a, b] _ _ => some (a, b)
  | _ => none
def oneSub : List Expr → Option (Expr × Expr)
  | [.Subscript o i _] => some (o, i)
  | _ => none
def augSub : Expr → Option (Expr × Expr)
  | .Subscript o i _ => some (o, i)
  | _ => none
theorem augSub_i {e o i : Expr} (h : augSub e = some (o, i)) : ∃ p, e = .Subscript o i p := by
  unfold augSub at h; split at h
  · cases h; exact ⟨_, rfl⟩
  · cases h
def augName : Expr → Option Str
  | .Name x _ => some x
  | _ => none
def raised : Option Expr → Option (Str × Str)
  | some (.Call (.Name c _) [.Constant (.str m) _ _] [] _) => some (c, m)
  | _ => none
theorem oneName_i {ts : List Expr} {x : Str} (h : oneName ts = some x) : ∃ p, ts = [.Name x p] := by
  unfold oneName at h; split at h
  · cases h; exact ⟨_, rfl⟩
  · cases h
theorem oneTup_i {ts : List Expr} {es : List Expr} {k : Nat} {p : Pos} (h : oneTup ts = some (es, k, p)) : ts = [.Tuple es k p] := by
  unfold oneTup at h; split at h
  · cases h; rfl
  · cases h
theorem twoNames_i {ts : List Expr} {x y : Str} {px py : Pos} (h : twoNames ts = some (x, px, y, py)) : ∃ k p, ts = [.Tuple [.Name x px, .Name y py] k p] := by
  unfold twoNames at h; split at h
  · cases h; exact ⟨_, _, rfl⟩
  · cases h
theorem twoVals_i {e a b : Expr} (h : twoVals e = some (a, b)) : ∃ k p, e = .Tuple [a, b] k p := by
  unfold twoVals at h; split at h
  · cases h; exact ⟨_, _, rfl⟩
  · cases h
theorem oneSub_i {ts : List Expr} {o i : Expr} (h : oneSub ts = some (o, i)) : ∃ p, ts = [.Subscript o i p] := by
  unfold oneSub at h; split at h
  · cases h; exact ⟨_, rfl⟩
  · cases h
theorem augName_i {e : Expr} {x : Str} (h : augName e = some x) : ∃ p, e = .Name x p := by
  unfold augName at h; split at h
  · cases h; exact ⟨_, rfl⟩
  · cases h
theorem raised_i {e : Option Expr} {c m : Str} (h : raised e = some (c, m)) : ∃ p j p2 p3, e = some (.Call (.Name c p) [.Constant (.str m) j p2] [] p3) := by
  unfold raised at h; split at h
  · cases h; exact ⟨_, _, _, _, rfl⟩
  · cases h
def isNilS : List Stmt → Bool
  | [] => true
  | _ => false
theorem isNilS_i {l : List Stmt} (h : isNilS l = true) : l = [] := by
  unfold isNilS at h; split at h
  · rfl
  · cases h
def chkC : SX → List Stmt → Bool
  | .cons (.ret e) .nil, [.Return (some e') _] => chkK e e'
  | _, _ => false
/-- except c as e: return f(e) -/
def chkF (cc : CC) (c f : Str) (cs : List Str) : List ExceptHandler → Bool
  | [.ExceptHandler (some (.Name c' _)) (some nm) [.Return (some (.Call (.Name f' _) [.Name n' _] [] _)) _] _] => decide (c = c') && isGl cc.sc c && plainN c && decide (c ∈ cc.ex) && decide (f = f') && isGl cc.sc f && plainN f && decide ((f, cs) ∈ cc.fl) && decide (n' = nm) && decide (nm ∈ cc.N) && isPure cc.sc nm && plainN nm
  | _ => false
theorem chkF_i {cc : CC} {c f : Str} {cs : List Str} {hds : List ExceptHandler} (h : chkF cc c f cs hds = true) : ∃ np nm fp ep cp rp hp, hds = [.ExceptHandler (some (.Name c np)) (some nm) [.Return (some (.Call (.Name f fp) [.Name nm ep] [] cp)) rp] hp] ∧
    isGl cc.sc c = true ∧ plainN c = true ∧ c ∈ cc.ex ∧ isGl cc.sc f = true ∧ plainN f = true ∧ (f, cs) ∈ cc.fl ∧ nm ∈ cc.N ∧ isPure cc.sc nm = true ∧ plainN nm = true := by
  unfold chkF at h
  split at h
  · simp only [Bool.and_eq_true, decide_eq_true_eq] at h
    obtain ⟨⟨⟨⟨⟨⟨⟨⟨⟨⟨⟨rfl, h2⟩, h3⟩, h4⟩, rfl⟩, h6⟩, h7⟩, h8⟩, rfl⟩, h10⟩, h11⟩, h12⟩ := h
    exact ⟨_, _, _, _, _, _, _, rfl, h2, h3, h4, h6, h7, h8, h10, h11, h12⟩
  · cases h
def flgOf : SX → Option (Str × Str × List Str)
  | .flg c f cs .nil => some (c, f, cs)
  | _ => none
theorem flgOf_i {s : SX} {c f : Str} {cs : List Str} (h : flgOf s = some (c, f, cs)) : s = .flg c f cs .nil := by
  unfold flgOf at h
  split at h
  · cases h; rfl
  · cases h
def chkFO (s : SX) (cc : CC) (hds : List ExceptHandler) : Bool := match flgOf s with
  | some r => chkF cc r.1 r.2.1 r.2.2 hds
  | none => false
theorem chkFO_i {s : SX} {cc : CC} {hds : List ExceptHandler} (h : chkFO s cc hds = true) : ∃ c f cs, s = .flg c f cs .nil ∧ chkF cc c f cs hds = true := by
  unfold chkFO at h
  split at h
  · rename_i r e
    exact ⟨_, _, _, flgOf_i e, h⟩
  · cases h
mutual
def chkS : SX → CC → Stmt → Bool
  | .expr e, cc, .Expr e' _ => chk e cc e' && notComp e'
  | .set i e, cc, .Assign ts e' _ => match oneName ts with
    | some x => slotIs cc i x && asgOk cc x && chk e cc e'
    | none => false
  | .setT tg e, cc, .Assign ts e' _ => match oneTup ts with
    | some (es, k, tp) => chkTg cc tg (.Tuple es k tp) && chk e cc e' && (notTup e' || many es)
    | none => false
  | .par i j a b, cc, .Assign ts e' _ => match twoNames ts, twoVals e' with
    | some (x, px, y, py), some (a', b') => slotIs cc i x && slotIs cc j y && decide (i ≠ j) && decide (x ≠ y) && isPure cc.sc x && isPure cc.sc y && chk a cc a' && chk b cc b' && (py.line == px.line) && !([a', b'].all (foldedForSure 8)) && !([a', b'].all (constantsAlone 8))
    | _, _ => false
  | .setIx o i e, cc, .Assign ts e' _ => match oneSub ts with
    | some (o', i') => chk o cc o' && chk i cc i' && noSlice i' && chk e cc e'
    | none => false
  | .aug i op e, cc, .AugAssign t op' e' _ => match augName t with
    | some x => opOk op && decide (op = op') && slotIs cc i x && asgOk cc x && chk e cc e'
    | none => false
  | .augIx o i op e, cc, .AugAssign t op' e' _ => match augSub t with
    | some (o', i') => opOk op && decide (op = op') && noSlice i' && chk o cc o' && chk i cc i' && chk e cc e'
    | none => false
  | .cond c a b, cc, .If c' a' b' _ => chk c cc c' && tstOk c' && chkSs a cc a' && chkSs b cc b'
  | .loop tg it body, cc, .For t' i' b' o' _ => isNilS o' && chkTg cc tg t' && chkI it cc i' && tgOk it t' && chkSs body cc b'
  | .whil c body, cc, .While c' b' o' _ => isNilS o' && chk c cc c' && tstOk c' && chkSs body cc b'
  | .ret e, cc, .Return (some e') _ => chk e cc e'
  | .retN, _, .Return none _ => true
  | .brk, _, .Break _ => true
  | .cont, _, .Continue _ => true
  | .pass, _, .Pass _ => true
  | .raise c m, cc, .Raise e none _ => decide (raised e = some (c, m)) && isGl cc.sc c && plainN c && decide (c ∈ cc.ex)
  | .tr body hs, cc, .Try b' hds o' f' _ => isNilS o' && isNilS f' && chkSs body cc b' && (chkFO hs cc hds || chkH hs cc hds) && !hds.isEmpty
  | _, _, _ => false
termination_by structural x => x
def chkSs : SX → CC → List Stmt → Bool
  | .nil, _, [] => true
  | .cons s r, cc, st :: sts => chkS s cc st && chkSs r cc sts
  | _, _, _ => false
termination_by structural x => x
def chkH : SX → CC → List ExceptHandler → Bool
  | .nil, _, [] => true
  | .hd c none suite rest, cc, .ExceptHandler (some (.Name c' _)) none b' _ :: hds => decide (c = c') && isGl cc.sc c && plainN c && decide (c ∈ cc.ex) && chkC suite b' && chkH rest cc hds
  | _, _, _ => false
termination_by structural x => x
end
end PyD

set_option Elab.async false
set_option linter.all false
set_option maxRecDepth 100000
set_option maxHeartbeats 4000000
/-! The evaluator's operators are the model's. -/
namespace PyD
open PySem PySem.Spec L2

/-- what a run's end must give, a new object as such -/
def postO (g : G) (W : Str → Hp → Prop) (H : Hp) (ι : List Addr) (r : R Out) (Q : VK) : Prop := match r with
  | .ok (.v d) μ' => ∀ v H' ι', Ext H ι H' ι' → MemRel g H' ι' μ' → Rep g H' ι' d v → Q v H'
  | .ok (.f (.ro _)) _ => False
  | .ok (.f m) μ' => ∀ a H' ι', Ext H ι H' ι' → a ∉ g.B → H a = none → MemRel (g.b (a :: g.B)) H' ι' μ' → RepObj (g.b (a :: g.B)) H' ι' m a → Q (.ref a) H'
  | .exc c μ' => ∀ H' ι', Ext H ι H' ι' → MemRel g H' ι' μ' → W c H'
  | .bad => False

section
variable {g : G} {H H' : Hp} {ι ι' : List Addr} {μ : Store} {p : Addr} {o : HO}
theorem Ext.new (hp : H p = none) : Ext H ι (upd H p o) ι := ⟨⟨[], by simp⟩, fun a u h n => ⟨by rw [upd_ne (ne_of_none h hp)]; exact h, n⟩⟩
theorem MemRel.move (r : MemRel g H ι μ) (k : ∀ a u, H a = some u → H' a = some u) : MemRel g H' ι μ :=
  have x : Ext H ι H' ι := ⟨⟨[], by simp⟩, fun a u h n => ⟨k a u h, n⟩⟩
  ⟨r.len, r.nd, r.nb, fun b hb => let ⟨o, h, t⟩ := r.bs b hb; ⟨o, k b o h, t⟩, fun n m e => by
    obtain ⟨a, h1, h2⟩ := r.obj n m e
    refine ⟨a, h1, ?_⟩
    cases h2 with
    | lst h q => exact .lst (k _ _ h) (q.mono x r.wf)
    | dctK h q1 q => exact .dctK (k _ _ h) q1 (q.mono x r.wf)
    | dctT h q1 q => exact .dctT (k _ _ h) q1 (q.mono x r.wf)
    | ro h q => exact .ro (k _ _ h) (q.mono x r.wf)⟩
theorem MemRel.new (r : MemRel g H ι μ) (hp : H p = none) : MemRel g (upd H p o) ι μ := r.move fun a u h => by rw [upd_ne (ne_of_none h hp)]; exact h
theorem MemRel.less {B : List Addr} (x : ∀ b ∈ B, b ∈ g.B) (r : MemRel g H ι μ) : MemRel (g.b B) H ι μ :=
  ⟨r.len, r.nd, fun b hb => r.nb b (x b hb), fun b hb => r.bs b (x b hb), fun n m e => by
    obtain ⟨a, h1, h2⟩ := r.obj n m e
    refine ⟨a, h1, ?_⟩
    cases h2 with
    | lst h q => exact .lst h (q.less x)
    | dctK h q1 q => exact .dctK h q1 (q.less x)
    | dctT h q1 q => exact .dctT h q1 (q.less x)
    | ro h q => exact .ro h (q.less x)⟩
/-- a new object, protected -/
theorem MemRel.newB (r : MemRel g H ι μ) (hp : H p = none) (ho : isTupO o = false := by rfl) : MemRel (g.b (p :: g.B)) (upd H p o) ι μ := by
  have x : Ext H ι (upd H p o) ι := Ext.new hp
  refine ⟨r.len, r.nd, fun b hb => ?_, fun b hb => ?_, fun n m e => ?_⟩
  · rcases List.mem_cons.mp hb with e | e
    · rw [e]; exact r.notin hp
    · exact r.nb b e
  · rcases List.mem_cons.mp hb with e | e
    · exact ⟨o, by rw [e, upd_same], ho⟩
    · obtain ⟨u, h, t⟩ := r.bs b e
      exact ⟨u, by rw [upd_ne (ne_of_none h hp)]; exact h, t⟩
  · obtain ⟨a, h1, h2⟩ := r.obj n m e
    have k : ∀ {a u}, H a = some u → upd H p o a = some u := fun {a u} h => by rw [upd_ne (ne_of_none h hp)]; exact h
    refine ⟨a, h1, ?_⟩
    cases h2 with
    | lst h q => exact .lst (k h) ((q.more hp).mono x r.wf)
    | dctK h q1 q => exact .dctK (k h) q1 ((q.more hp).mono x r.wf)
    | dctT h q1 q => exact .dctT (k h) q1 ((q.more hp).mono x r.wf)
    | ro h q => exact .ro (k h) ((q.more hp).mono x r.wf)
theorem MemRel.nB (r : MemRel g H ι μ) (hp : H p = none) : p ∉ g.B := fun z => by
  obtain ⟨u, h, _⟩ := r.bs p z
  rw [hp] at h
  cases h
theorem RepL.newB {ds : List D} {vs : List V} (r : RepL g H ι ds vs) (m : MemRel g H ι μ) (hp : H p = none) : RepL (g.b (p :: g.B)) (upd H p o) ι ds vs := (r.more hp).mono (Ext.new hp) m.wf
theorem RepL.newE {ds : List D} {vs : List V} (r : RepL g H ι ds vs) (m : MemRel g H ι μ) (hp : H p = none) : RepL g (upd H p o) ι ds vs := r.mono (Ext.new hp) m.wf

/-- the end at a value -/
theorem end_v {W : Str → Hp → Prop} {d : D} {v : V} {Q : VK} (h : postO g W H ι (.ok (.v d) μ) Q) (m : MemRel g H ι μ) (r : Rep g H ι d v) : Q v H := h v H ι Ext.refl m r
theorem end_tup {W : Str → Hp → Prop} {ds : List D} {vs : List V} {Q : VK} (h : postO g W H ι (.ok (.v (.tup ds)) μ) Q) (m : MemRel g H ι μ) (r : RepL g H ι ds vs) : NewT H Q vs :=
  ⟨leafB ds, fun _ o ho hp => h _ _ ι (Ext.new hp) (m.new hp) (.tup ⟨o, ho, upd_same⟩ (r.newE m hp))⟩
/-- a new tuple that may be a key -/
theorem end_key {W : Str → Hp → Prop} {ds : List D} {vs : List V} {Q : VK} (h : postO g W H ι (.ok (.v (.tup ds)) μ) Q) (m : MemRel g H ι μ) (r : RepL g H ι ds vs) (hl : leafB ds = true) (hp : H p = none) : Q (.ref p) (upd H p (.tup vs)) :=
  h _ _ ι (Ext.new hp) (m.new hp) (.tup ⟨{ cls := .none, data := .fields #[] }, rfl, by rw [hl]; exact upd_same⟩ (r.newE m hp))
theorem end_lst {W : Str → Hp → Prop} {ds : List D} {vs : List V} {Q : VK} (h : postO g W H ι (.ok (.f (.lst ds)) μ) Q) (m : MemRel g H ι μ) (r : RepL g H ι ds vs) (hp : H p = none) : Q (.ref p) (upd H p (.lst vs)) :=
  h p _ ι (Ext.new hp) (m.nB hp) hp (m.newB hp) (.lst upd_same (r.newB m hp))

/-! ### the parts of seqs -/
theorem lst_of {d : D} {v : V} {ds : List D} (e : asLst μ d = some ds) (m : MemRel g H ι μ) (r : Rep g H ι d v) : ∃ a vs, v = .ref a ∧ H a = some (.lst vs) ∧ RepL g H ι ds vs := by
  unfold asLst at e
  split at e
  · cases e
    cases r with
    | lst h _ _ q => exact ⟨_, _, rfl, h, q⟩
  · rename_i n
    cases r with
    | @ref n a h =>
      cases q : μ[n]? with
      | none => rw [q] at e; cases e
      | some x =>
        rw [q] at e
        cases x with
        | lst es =>
          cases e
          obtain ⟨a', h1, h2⟩ := m.obj _ _ q
          rw [h] at h1
          cases h1
          cases h2 with
          | lst h q => exact ⟨_, _, rfl, h, q⟩
        | dct _ _ _ => cases e
        | ro _ => cases e
  · cases e
theorem sqT_k {K : PySem.W.Frag} {H : Hp} {a : Addr} {vs : List V} (h : SqT K (fun _ => none) a vs) : SqT K H a vs := by
  rcases h with (h | ⟨_, h⟩) | h
  · cases h
  · cases h
  · exact .inr h
theorem seq_of {d : D} {v : V} {ds : List D} (e : asSeq μ d = some ds) (m : MemRel g H ι μ) (r : Rep g H ι d v) : ∃ a vs, v = .ref a ∧ (SqL g.K H a vs ∨ SqT g.K H a vs) ∧ RepL g H ι ds vs := by
  unfold asSeq at e
  split at e
  · cases e
    cases r with
    | lst h _ _ q => exact ⟨_, _, rfl, .inl (SqL.of h), q⟩
  · cases e
    cases r with
    | tup h q => exact ⟨_, _, rfl, .inr h.sq, q⟩
  · cases e
    cases r with
    | ktup h q => exact ⟨_, _, rfl, .inr (sqT_k h), q⟩
    | pair h q => exact ⟨_, _, rfl, .inr (SqT.of h), q⟩
  · rename_i n
    cases r with
    | @ref n a h =>
      cases q : μ[n]? with
      | none => rw [q] at e; cases e
      | some x =>
        rw [q] at e
        obtain ⟨a', h1, h2⟩ := m.obj _ _ q
        rw [h] at h1
        cases h1
        cases x with
        | lst es =>
          cases e
          cases h2 with
          | lst h q => exact ⟨_, _, rfl, .inl (SqL.of h), q⟩
        | dct _ _ _ => cases e
        | ro es =>
          cases e
          cases h2 with
          | ro h q => exact ⟨_, _, rfl, .inl (.inl (.inr ⟨_, h⟩)), q⟩
  · cases e
end

/-! ### arithmetic -/
section
variable {X : Cx} {g : G}
def rBin (g : G) (op : Operator) : R2 := fun x y H Q => ∃ B μ ι dx dy o, MemRel (g.b B) H ι μ ∧ Rep (g.b B) H ι dx x ∧ Rep (g.b B) H ι dy y ∧ binD op μ dx dy = some o ∧ postO (g.b B) (fun _ _ => False) H ι (.ok o μ) Q
theorem or_add (hK : X.K = g.K) : OpR X (binaryOp .Add) (rBin g .Add) := by
  intro pins s σ H x y v u Q I rx ry h
  obtain ⟨B, μ, ι, dx, dy, o, m, r1, r2, e, q⟩ := h
  have e : addD μ dx dy = some o := e
  unfold addD at e
  split at e
  · cases e
    cases r1
    cases r2
    exact op_add pins s σ H _ _ v u Q I rx ry ⟨_, _, rfl, rfl, end_v q m (.int _)⟩
  · split at e
    · cases e
      cases r1
      cases r2
      rename_i hz
      exact op_add_str pins s σ H _ _ v u Q I rx ry ⟨_, _, rfl, rfl, hz, end_v q m (.str _)⟩
    · cases e
  · split at e
    · cases e
      rename_i hz
      cases r1 with
      | @tup a vs ds ha qa =>
        cases r2 with
        | @tup b ws es hb qb =>
          refine op_catB pins s σ H _ _ v u Q I rx ry ⟨a, b, vs, ws, rfl, rfl, ha.sq, hb.sq, by rw [← qa.length, ← qb.length]; exact hz, fun z => ?_, fun z => ?_, ?_⟩
          · subst z
            cases qa
            exact end_v q m (.tup hb qb)
          · subst z
            cases qb
            rw [List.append_nil] at q
            exact end_v q m (.tup ha qa)
          · exact end_tup q m (qa.append qb)
    · cases e
  · split at e
    · rename_i xs ys e1 e2
      split at e
      · cases e
        rename_i hz
        obtain ⟨a, vs, rfl, ha, qa⟩ := lst_of e1 m r1
        obtain ⟨b, ws, rfl, hb, qb⟩ := lst_of e2 m r2
        exact op_cat pins s σ H _ _ v u Q I rx ry ⟨a, b, vs, ws, rfl, rfl, ha, hb, by rw [← qa.length, ← qb.length]; exact hz, fun p hp => end_lst q m (qa.append qb) hp⟩
      · cases e
    · cases e
theorem or_mul (hK : X.K = g.K) : OpR X (binaryOp .Mult) (rBin g .Mult) := by
  intro pins s σ H x y v u Q I rx ry h
  obtain ⟨B, μ, ι, dx, dy, o, m, r1, r2, e, q⟩ := h
  have e : mulD μ dx dy = some o := e
  unfold mulD at e
  split at e
  · rename_i j
    cases r2
    split at e
    · split at e
      · cases e
        cases r1
        rename_i hz
        exact op_mul pins s σ H _ _ v u Q I rx ry ⟨_, _, rfl, rfl, hz, end_v q m (.int _)⟩
      · cases e
    · split at e
      · cases e
        rename_i hz
        cases r1 with
        | @tup a vs ds ha qa =>
          cases qa
          exact or_mulE pins s σ H _ _ v u Q I rx ry ⟨a, _, rfl, rfl, ha.sq, hz.1, hz.2, end_v q m (.tup ha .nil)⟩
      · cases e
    · split at e
      · cases e
        rename_i xs hz
        obtain ⟨h1, h2, h3, h4, h5⟩ := hz
        cases r1 with
        | @tup a vs ds ha qa =>
          have hne : vs ≠ [] := fun z => by
            subst z
            cases qa
            cases h3
          exact op_repT pins s σ H _ _ v u Q I rx ry ⟨a, _, vs, rfl, rfl, ha.sq, hne, h1, h2, by rw [← qa.length]; exact h4, fun p hp => end_key q m (qa.flat _) h5 hp⟩
      · cases e
    · split at e
      · rename_i xs e1
        split at e
        · cases e
          rename_i hz
          obtain ⟨h1, h2, h3⟩ := hz
          obtain ⟨a, vs, rfl, ha, qa⟩ := lst_of e1 m r1
          exact op_rep pins s σ H _ _ v u Q I rx ry ⟨a, _, vs, rfl, rfl, ha, h1, h2, by rw [← qa.length]; exact h3, fun p hp => end_lst q m (qa.flat _) hp⟩
        · cases e
      · cases e
  · cases e
theorem or_bin (hK : X.K = g.K) (op : Operator) : OpR X (binaryOp op) (rBin g op) := by
  cases op with
  | Add => exact or_add hK
  | Mult => exact or_mul hK
  | Sub =>
    intro pins s σ H x y v u Q I rx ry h
    obtain ⟨B, μ, ι, dx, dy, o, m, r1, r2, e, q⟩ := h
    simp only [binD] at e
    split at e
    · cases e
      cases r1
      cases r2
      exact op_sub pins s σ H _ _ v u Q I rx ry ⟨_, _, rfl, rfl, end_v q m (.int _)⟩
    · cases e
  | FloorDiv =>
    intro pins s σ H x y v u Q I rx ry h
    obtain ⟨B, μ, ι, dx, dy, o, m, r1, r2, e, q⟩ := h
    simp only [binD] at e
    split at e
    · split at e
      · cases e
        cases r1
        cases r2
        rename_i hz
        exact op_fdivN pins s σ H _ _ v u Q I rx ry ⟨_, _, rfl, rfl, hz, end_v q m (.int _)⟩
      · cases e
    · cases e
  | Mod =>
    intro pins s σ H x y v u Q I rx ry h
    obtain ⟨B, μ, ι, dx, dy, o, m, r1, r2, e, q⟩ := h
    simp only [binD] at e
    split at e
    · split at e
      · cases e
        cases r1
        cases r2
        rename_i hz
        exact op_modN pins s σ H _ _ v u Q I rx ry ⟨_, _, rfl, rfl, hz, end_v q m (.int _)⟩
      · cases e
    · cases e
  | Pow =>
    intro pins s σ H x y v u Q I rx ry h
    obtain ⟨B, μ, ι, dx, dy, o, m, r1, r2, e, q⟩ := h
    simp only [binD] at e
    split at e
    · split at e
      · cases e
        cases r1
        cases r2
        rename_i hz
        exact op_pow pins s σ H _ _ v u Q I rx ry ⟨_, _, rfl, rfl, hz, end_v q m (.int _)⟩
      · cases e
    · cases e
  | _ =>
    intro pins s σ H x y v u Q I rx ry h
    obtain ⟨B, μ, ι, dx, dy, o, m, r1, r2, e, q⟩ := h
    cases e
end
end PyD

set_option Elab.async false
set_option linter.all false
set_option maxRecDepth 100000
set_option maxHeartbeats 4000000
/-! The evaluator's comparisons are the model's. -/
namespace PyD
open PySem PySem.Spec L2

mutual
theorem dp_of {g : G} {H : Hp} {ι : List Addr} : ∀ {d : D} {v : V}, Rep g H ι d v → ∀ {p : PyData}, d.toP = some p → Dp g.K H v p
  | _, _, .non, p, e => by cases e; exact .non
  | _, _, .bl b, p, e => by cases e; exact .bl b
  | _, _, .int i, p, e => by cases e; exact .int i
  | _, _, .str x, p, e => by cases e; exact .str x
  | _, _, .tup (ds := ds) h r, p, e => by
    rw [D.toP] at e
    cases q : toPs ds with
    | none => rw [q] at e; cases e
    | some ps => rw [q] at e; cases e; exact .tup h.sq (dps_of r q)
  | _, _, .pair (ds := ds) h r, p, e => by
    rw [D.toP] at e
    cases q : toPs ds with
    | none => rw [q] at e; cases e
    | some ps => rw [q] at e; cases e; exact .tup (SqT.of h) (dps_of r q)
  | _, _, .ktup (ds := ds) h r, p, e => by
    rw [D.toP] at e
    cases q : toPs ds with
    | none => rw [q] at e; cases e
    | some ps => rw [q] at e; cases e; exact .tup (sqT_k h) (dps_of r q)
  | _, _, .lst (ds := ds) h _ _ r, p, e => by
    rw [D.toP] at e
    cases q : toPs ds with
    | none => rw [q] at e; cases e
    | some ps => rw [q] at e; cases e; exact .lst (SqL.of h) (dps_of r q)
  | _, _, .dctK _ _ _ _ _, p, e => by simp [D.toP] at e
  | _, _, .dctT _ _ _ _ _, p, e => by simp [D.toP] at e
  | _, _, .ref _, p, e => by simp [D.toP] at e
  | _, _, .glb _, p, e => by simp [D.toP] at e
theorem dps_of {g : G} {H : Hp} {ι : List Addr} : ∀ {ds : List D} {vs : List V}, RepL g H ι ds vs → ∀ {ps : List PyData}, toPs ds = some ps → DpAll g.K H vs ps
  | _, _, .nil, ps, e => by simp [toPs] at e; subst e; exact .nil
  | _, _, .cons (d := d) (ds := ds) a r, ps, e => by
    rw [toPs] at e
    cases q : d.toP with
    | none => rw [q] at e; cases e
    | some p =>
      cases q2 : toPs ds with
      | none => rw [q, q2] at e; cases e
      | some ps' => rw [q, q2] at e; cases e; exact .cons (dp_of a q) (dps_of r q2)
end
section
variable {g : G} {H : Hp} {ι : List Addr} {μ : Store}
theorem dpμ_of {d : D} {v : V} {p : PyData} (m : MemRel g H ι μ) (r : Rep g H ι d v) (e : d.toPμ μ = some p) : Dp g.K H v p := by
  unfold D.toPμ at e
  split at e
  · rename_i n
    cases r with
    | @ref n a h =>
      cases q : μ[n]? with
      | none => rw [q] at e; cases e
      | some x =>
        rw [q] at e
        cases x with
        | lst es =>
          simp only at e
          cases q2 : toPs es with
          | none => rw [q2] at e; cases e
          | some ps =>
            rw [q2] at e
            cases e
            obtain ⟨a', h1, h2⟩ := m.obj _ _ q
            rw [h] at h1
            cases h1
            cases h2 with
            | lst h r => exact .lst (SqL.of h) (dps_of r q2)
        | dct _ _ _ => cases e
        | ro _ => cases e
  · exact dp_of r e

/-! ### dicts -/
theorem look_val {κ : Type} [DecidableEq κ] {f : κ → DK} (fi : ∀ a b, f a = f b → a = b) {k : κ} : ∀ {kvs : List (κ × V)} {ds : List D}, RepL g H ι ds (kvs.map (·.2)) →
    (match lookD (kvs.map fun p => f p.1) ds (f k) with | some d => ∃ v, valV kvs k = some v ∧ Rep g H ι d v | none => valV kvs k = none)
  | [], ds, r => by
    cases r
    simp [lookD, valV_nil]
  | p :: kvs, ds, r => by
    cases r with
    | @cons d v ds vs a r =>
      simp only [List.map_cons, lookD]
      by_cases h : p.1 = k
      · rw [if_pos (by rw [h])]
        exact ⟨_, valV_pos h, a⟩
      · rw [if_neg (fun z => h (fi _ _ z)), valV_neg h]
        exact look_val fi r
theorem dkK_map : ∀ {ks : List DK} {l : List Key}, dkK ks = some l → ks = l.map DK.k
  | [], l, e => by simp [dkK] at e; subst e; rfl
  | .k k :: r, l, e => by
    rw [dkK] at e
    cases q : dkK r with
    | none => rw [q] at e; cases e
    | some l' => rw [q] at e; cases e; rw [dkK_map q]; rfl
  | .t _ :: _, l, e => by simp [dkK] at e
theorem dkT_map : ∀ {ks : List DK} {l : List (List Key)}, dkT ks = some l → ks = l.map DK.t
  | [], l, e => by simp [dkT] at e; subst e; rfl
  | .t k :: r, l, e => by
    rw [dkT] at e
    cases q : dkT r with
    | none => rw [q] at e; cases e
    | some l' => rw [q] at e; cases e; rw [dkT_map q]; rfl
  | .k _ :: _, l, e => by simp [dkT] at e
theorem leaf_of {d : D} {v : V} {k : Key} (r : Rep g H ι d v) (e : leafKey d = some k) : v = kV k := by
  cases r <;> simp only [leafKey] at e <;> cases e <;> rfl
theorem leafs_of : ∀ {ds : List D} {vs : List V} {ks : List Key}, RepL g H ι ds vs → leafKeys ds = some ks → vs = ks.map kV
  | _, _, _, .nil, e => by simp [leafKeys] at e; subst e; rfl
  | _, _, ks, .cons (d := d) (ds := ds) a r, e => by
    rw [leafKeys] at e
    cases q : leafKey d with
    | none => rw [q] at e; cases e
    | some k =>
      cases q2 : leafKeys ds with
      | none => rw [q, q2] at e; cases e
      | some ks' => rw [q, q2] at e; cases e; rw [leaf_of a q, leafs_of r q2]; rfl
/-- a key's value -/
theorem keyK_of {d : D} {v : V} {k : DK} (r : Rep g H ι d v) (e : d.key false = some k) : ∃ j, k = .k j ∧ v = kV j := by
  cases r <;> simp [D.key] at e <;> subst e
  · exact ⟨_, rfl, rfl⟩
  · exact ⟨_, rfl, rfl⟩
theorem keyT_of {d : D} {v : V} {k : DK} (r : Rep g H ι d v) (e : d.key true = some k) : ∃ j a, k = .t j ∧ v = .ref a ∧ H a = some (.tup (j.map kV)) := by
  cases r with
  | @tup a vs ds h q =>
    simp only [D.key, if_true] at e
    cases z : leafKeys ds with
    | none => rw [z] at e; cases e
    | some ks =>
      rw [z] at e
      cases e
      have hb : leafB ds = true := by unfold leafB; rw [z]; rfl
      rw [hb] at h
      exact ⟨ks, a, rfl, rfl, by rw [← leafs_of q z]; exact h.key⟩
  | _ => simp [D.key] at e
/-- what a dict holds at a key -/
theorem dget_of {x y : D} {v u : V} {t : Bool} {ks : List DK} {ds : List D} {k : DK} (e : asDct μ x = some (t, ks, ds)) (m : MemRel g H ι μ) (r : Rep g H ι x v) (ry : Rep g H ι y u) (ek : y.key t = some k) :
    ∃ a o, v = .ref a ∧ DGet H a u o ∧ (match lookD ks ds k with | some d => ∃ w, o = some w ∧ Rep g H ι d w | none => o = none) := by
  have K : ∀ {a : Addr} {kvs : List (Key × V)} {ks : List DK} {ds : List D} {k : DK}, H a = some (.dK kvs) → dkK ks = some (kvs.map (·.1)) → RepL g H ι ds (kvs.map (·.2)) → y.key false = some k →
      ∃ o, DGet H a u o ∧ (match lookD ks ds k with | some d => ∃ w, o = some w ∧ Rep g H ι d w | none => o = none) := fun {a kvs ks ds k} h hk q ek => by
    obtain ⟨j, rfl, rfl⟩ := keyK_of ry ek
    refine ⟨_, DGet.k (k := j) h, ?_⟩
    have z := look_val (f := DK.k) (fun _ _ z => DK.k.inj z) (k := j) q
    rw [dkK_map hk, List.map_map]
    exact z
  have T : ∀ {a : Addr} {kvs : List (List Key × V)} {ks : List DK} {ds : List D} {k : DK}, H a = some (.dT kvs) → dkT ks = some (kvs.map (·.1)) → RepL g H ι ds (kvs.map (·.2)) → y.key true = some k →
      ∃ o, DGet H a u o ∧ (match lookD ks ds k with | some d => ∃ w, o = some w ∧ Rep g H ι d w | none => o = none) := fun {a kvs ks ds k} h hk q ek => by
    obtain ⟨j, b, rfl, rfl, hb⟩ := keyT_of ry ek
    refine ⟨_, DGet.t (k := j) h hb, ?_⟩
    have z := look_val (f := DK.t) (fun _ _ z => DK.t.inj z) (k := j) q
    rw [dkT_map hk, List.map_map]
    exact z
  unfold asDct at e
  split at e
  · cases e
    cases r with
    | dctK h _ _ hk q => obtain ⟨o, h1, h2⟩ := K h hk q ek; exact ⟨_, o, rfl, h1, h2⟩
    | dctT h _ _ hk q => obtain ⟨o, h1, h2⟩ := T h hk q ek; exact ⟨_, o, rfl, h1, h2⟩
  · rename_i n
    cases r with
    | @ref n a h =>
      cases q : μ[n]? with
      | none => rw [q] at e; cases e
      | some mm =>
        rw [q] at e
        obtain ⟨a', h1, h2⟩ := m.obj _ _ q
        rw [h] at h1
        cases h1
        cases h2 with
        | lst _ _ => cases e
        | ro _ _ => cases e
        | dctK h hk qq => cases e; obtain ⟨o, h1, h2⟩ := K h hk qq ek; exact ⟨_, o, rfl, h1, h2⟩
        | dctT h hk qq => cases e; obtain ⟨o, h1, h2⟩ := T h hk qq ek; exact ⟨_, o, rfl, h1, h2⟩
  · cases e
end

/-! ### comparisons -/
section
variable {X : Cx} {g : G}
def rCmp (g : G) (op : CmpOp) : R2 := fun x y H Q => ∃ B μ ι dx dy b, MemRel (g.b B) H ι μ ∧ Rep (g.b B) H ι dx x ∧ Rep (g.b B) H ι dy y ∧ cmpD op μ dx dy = some b ∧ Q (.bl b) H
theorem eqP_of {B : List Addr} {H : Hp} {ι : List Addr} {μ : Store} {dx dy : D} {x y : V} {b : Bool} (e : eqP μ dx dy = some b) (m : MemRel (g.b B) H ι μ) (r1 : Rep (g.b B) H ι dx x) (r2 : Rep (g.b B) H ι dy y) :
    ∃ p q, Dp g.K H x p ∧ Dp g.K H y q ∧ SeqAt.shaped p = true ∧ SeqAt.shaped q = true ∧ b = PyData.eqv p q := by
  unfold eqP at e
  split at e
  · rename_i p q e1 e2
    split at e
    · rename_i hs
      rw [Bool.and_eq_true] at hs
      cases e
      exact ⟨p, q, dpμ_of (g := g.b B) m r1 e1, dpμ_of (g := g.b B) m r2 e2, hs.1, hs.2, rfl⟩
    · cases e
  · cases e
theorem eq_nil_list {pins : List (Addr × Obj)} {s : Shared} {σ : Sl} {H : Hp} {a b : Addr} {vs : List V} (I : Inv X pins σ H s) (hu : X.A.units < cLine) (h1 : H a = some (.lst vs)) (h2 : H b = some (.lst [])) :
    (∀ (Q : Value → Shared → Prop) (E : Value → Shared → Prop), Q (.bool vs.isEmpty) s → wpAny (model X.prog X.w) X.A (compareOp .Eq (.ref a) (.ref b)) Q E s) ∧
    (∀ (Q : Value → Shared → Prop) (E : Value → Shared → Prop), Q (.bool (!vs.isEmpty)) s → wpAny (model X.prog X.w) X.A (compareOp .NotEq (.ref a) (.ref b)) Q E s) := by
  obtain ⟨its, rv, p, hz⟩ := I.list (show SqL X.K H a vs from SqL.of h1)
  obtain ⟨its2, rv2, p2, hz2⟩ := I.list (show SqL X.K H b [] from SqL.of h2)
  cases rv2
  cases rv with
  | nil =>
    refine ⟨fun Q E q => SeqAt.RcAt.lists (e := fun _ => true) p.isList p2.isList rfl hu (fun j h1 _ => absurd h1 (by simp)) _ _ _ _ (by simpa using q), fun Q E q => SeqAt.RcNeAt.lists (e := fun _ => true) p.isList p2.isList rfl hu (fun j h1 _ => absurd h1 (by simp)) _ _ _ _ (by simpa using q)⟩
  | cons r rr =>
    exact ⟨fun Q E q => SeqAt.RcAt.lists_lengths p.isList p2.isList (by simp) hu _ _ _ _ q, fun Q E q => SeqAt.RcNeAt.lists_lengths p.isList p2.isList (by simp) hu _ _ _ _ q⟩
theorem or_eq (hK : X.K = g.K) {n : Nat} (hr : Room n X.A) : OpR X (compareOp .Eq) (rCmp g .Eq) := by
  intro pins s σ H x y v u Q I rx ry h
  obtain ⟨B, μ, ι, dx, dy, b, m, r1, r2, e, q⟩ := h
  have e : eqD μ dx dy = some b := e
  unfold eqD at e
  split at e
  · cases e
    cases r1
    cases r2
    refine op_eq pins s σ H _ _ v u Q I rx ry ⟨rfl, ?_⟩
    rw [dec_int, Bool.beq_eq_decide_eq]
    exact q
  · cases e
    cases r1
    cases r2
    refine op_eq pins s σ H _ _ v u Q I rx ry ⟨rfl, ?_⟩
    rw [dec_str, Bool.beq_eq_decide_eq]
    exact q
  · cases e
    cases r1 with
    | lst h1 _ _ l1 =>
      cases r2 with
      | lst h2 _ _ l2 =>
        cases l2
        cases rx
        cases ry
        refine (eq_nil_list I (by have := hr.un; omega) h1 h2).1 _ _ ⟨.bl _, H, I, rfl, ?_⟩
        cases l1 <;> exact q
  · obtain ⟨p, p', h1, h2, s1, s2, rfl⟩ := eqP_of e m r1 r2
    exact op_eqD hr.units pins s σ H _ _ v u Q I rx ry ⟨p, p', by rw [hK]; exact h1, by rw [hK]; exact h2, s1, s2, q⟩
theorem or_ne (hK : X.K = g.K) {n : Nat} (hr : Room n X.A) : OpR X (compareOp .NotEq) (rCmp g .NotEq) := by
  intro pins s σ H x y v u Q I rx ry h
  obtain ⟨B, μ, ι, dx, dy, b, m, r1, r2, e, q⟩ := h
  have e : (eqD μ dx dy).map (!·) = some b := e
  cases e0 : eqD μ dx dy with
  | none => rw [e0] at e; cases e
  | some c =>
    rw [e0] at e
    cases e
    have e := e0
    unfold eqD at e
    split at e
    · cases e
      cases r1
      cases r2
      refine op_ne pins s σ H _ _ v u Q I rx ry ⟨rfl, ?_⟩
      rw [dec_int, Bool.beq_eq_decide_eq]
      exact q
    · cases e
      cases r1
      cases r2
      refine op_ne pins s σ H _ _ v u Q I rx ry ⟨rfl, ?_⟩
      rw [dec_str, Bool.beq_eq_decide_eq]
      exact q
    · cases e
      cases r1 with
      | lst h1 _ _ l1 =>
        cases r2 with
        | lst h2 _ _ l2 =>
          cases l2
          cases rx
          cases ry
          refine (eq_nil_list I (by have := hr.un; omega) h1 h2).2 _ _ ⟨.bl _, H, I, rfl, ?_⟩
          cases l1 <;> exact q
    · obtain ⟨p, p', h1, h2, s1, s2, rfl⟩ := eqP_of e m r1 r2
      exact op_neD hr.units pins s σ H _ _ v u Q I rx ry ⟨p, p', by rw [hK]; exact h1, by rw [hK]; exact h2, s1, s2, q⟩
theorem ltP_of {B : List Addr} {H : Hp} {ι : List Addr} {μ : Store} {dx dy : D} {x y : V} {b : Bool} (e : ltP μ dx dy = some b) (m : MemRel (g.b B) H ι μ) (r1 : Rep (g.b B) H ι dx x) (r2 : Rep (g.b B) H ι dy y) :
    ∃ p q, Dp g.K H x p ∧ Dp g.K H y q ∧ PySem.W.alike p q = true ∧ SeqAt.shaped p = true ∧ SeqAt.shaped q = true ∧ (∃ xs, p = .tuple xs) ∧ b = PySem.W.dataLt p q := by
  unfold ltP at e
  split at e
  · rename_i p q e1 e2
    split at e
    · rename_i hs
      rw [Bool.and_eq_true, Bool.and_eq_true, Bool.and_eq_true] at hs
      obtain ⟨⟨⟨h1, h2⟩, h3⟩, h4⟩ := hs
      cases e
      refine ⟨p, q, dpμ_of (g := g.b B) m r1 e1, dpμ_of (g := g.b B) m r2 e2, h1, h2, h3, ?_, rfl⟩
      cases p with
      | tuple xs => exact ⟨_, rfl⟩
      | _ => cases h4
    · cases e
  · cases e
theorem or_lt (hK : X.K = g.K) {n : Nat} (hr : Room n X.A) : OpR X (compareOp .Lt) (rCmp g .Lt) := by
  intro pins s σ H x y v u Q I rx ry h
  obtain ⟨B, μ, ι, dx, dy, b, m, r1, r2, e, q⟩ := h
  have e : ltD μ dx dy = some b := e
  unfold ltD at e
  split at e
  · cases e
    cases r1
    cases r2
    exact op_lt pins s σ H _ _ v u Q I rx ry ⟨_, _, rfl, rfl, q⟩
  · cases e
    cases r1
    cases r2
    exact op_lt_str pins s σ H _ _ v u Q I rx ry ⟨_, _, rfl, rfl, q⟩
  · obtain ⟨p, p', h1, h2, al, s1, s2, ⟨xs, et⟩, rfl⟩ := ltP_of e m r1 r2
    obtain ⟨as, q1⟩ := Dp.reads I p x v (by rw [hK]; exact h1) rx
    obtain ⟨bs, q2⟩ := Dp.reads I p' y u (by rw [hK]; exact h2) ry
    have hu := hr.units
    have d1 := SeqAt.depth_of_shaped s1
    exact (PySem.W.rcLt_alike p p' X.A s v u as bs q1 q2 al (by rw [et]; exact fun z => nomatch z) (by
      have : min p.depth p'.depth ≤ p.depth := Nat.min_le_left _ _
      omega)) _ _ _ _ ⟨.bl _, H, I, rfl, q⟩
end
/-! ### >= of tuples -/
section
open PySem.W PySem.SeqAt
theorem lexAt_not (e r : Nat → Bool) (z : Bool) : ∀ (k i : Nat), Ob.lexAt e (fun j => !r j) (!z) i k = !firstLt e r z ((List.range k).map (· + i))
  | 0, _ => rfl
  | k + 1, i => by
    have hr : (List.range (k + 1)).map (· + i) = i :: (List.range k).map (· + (i + 1)) := by
      rw [List.range_succ_eq_map, List.map_cons, List.map_map]
      congr 1
      · omega
      · apply List.map_congr_left
        intro a _
        show a + 1 + i = a + (i + 1)
        omega
    rw [hr, Ob.lexAt_succ]
    by_cases h : e i = true
    · rw [if_pos h, firstLt_yes h, lexAt_not e r z k (i + 1)]
    · rw [if_neg h, firstLt_no (by simpa using h)]
mutual
theorem rcGe_alike : ∀ (da db : PyData) (A : Around) (s : Shared) (a b : Value) (as bs : List Addr), Reads s.heap a da as → Reads s.heap b db bs → alike da db = true → tupOnly da = true → A.units + min da.depth db.depth < cLine → Ob.RcOp .GtE A s a b (!dataLt da db)
  | .none, _, _, _, _, _, _, _, _, _, _, hn, _ => by simp [tupOnly] at hn
  | .bool x, _, _, _, _, _, _, _, _, _, _, hn, _ => by simp [tupOnly] at hn
  | .list x, _, _, _, _, _, _, _, _, _, _, hn, _ => by simp [tupOnly] at hn
  | .dict x, _, _, _, _, _, _, _, _, _, _, hn, _ => by simp [tupOnly] at hn
  | .int x, db, A, s, a, b, as, bs, ra, rb, h, e, _ => by
    cases db with
    | int y =>
      cases ra
      cases rb
      intro prog w E Q hq
      rw [dataLt_int] at hq
      refine PyProof.Rows.ge_int ?_
      rw [show decide (x ≥ y) = !decide (x < y) by
        by_cases q : x < y
        · rw [decide_eq_true q, decide_eq_false (by omega)]; rfl
        · rw [decide_eq_false q, decide_eq_true (by omega)]; rfl]
      exact hq
    | _ => exact absurd h (by simp [alike])
  | .str x, db, A, s, a, b, as, bs, ra, rb, h, e, _ => by
    cases db with
    | str y =>
      cases ra
      cases rb
      intro prog w E Q hq
      rw [dataLt_str] at hq
      exact PySem.P.ge_str (by simpa using hq)
    | _ => exact absurd h (by simp [alike])
  | .tuple xs, db, A, s, a, b, as, bs, ra, rb, h, e, hu => by
    cases db with
    | tuple ys =>
      have hal : alikeAll xs ys = true := by simpa [alike] using h
      have hto : tupOnlys xs = true := by simpa [tupOnly] using e
      cases ra with
      | @tuple l o vs n _ as₁ h1 h2 h3 h4 =>
        cases rb with
        | @tuple l' o' vs' n' _ bs₁ k1 k2 k3 k4 =>
          have n1 : vs.size = xs.length := by simpa using ReadsAll.length _ _ _ h4
          have n2 : vs'.size = ys.length := by simpa using ReadsAll.length _ _ _ k4
          have R := Ob.RcOp.tuples_ge (A := A) (s := s) (e := pairEq xs ys) (r := fun j => !dataLt (xs.getD j .none) (ys.getD j .none)) ⟨_, h1, h2, _, h3⟩ ⟨_, k1, k2, _, k3⟩ (room_here hu) (fun j j1 j2 => by
            have := eqAt_alikeAll xs ys A.in1 s vs.toList vs'.toList _ _ h4 k4 hal (room_in hu) j (by simpa using j1) (by simpa using j2)
            simpa using this) (fun j j1 j2 hj => by
            have := rcGe_alikeAll xs ys A.in1 s vs.toList vs'.toList _ _ h4 k4 hal hto (room_in hu) j (by simpa using j1) (by simpa using j2) hj
            simpa using this)
          have ez : decide (vs.size ≥ vs'.size) = !decide (xs.length < ys.length) := by
            rw [n1, n2]
            by_cases q : xs.length < ys.length
            · rw [decide_eq_true q, decide_eq_false (by omega)]; rfl
            · rw [decide_eq_false q, decide_eq_true (by omega)]; rfl
          rw [ez, n1, n2, lexAt_not] at R
          simp only [Nat.add_zero, List.map_id'] at R
          rw [dataLt_tuple, ← firstLt_toks xs ys hal]
          exact R
    | _ => exact absurd h (by simp [alike])
theorem rcGe_alikeAll : ∀ (xs ys : List PyData) (A : Around) (s : Shared) (vs ws : List Value) (as bs : List Addr), ReadsAll s.heap vs xs as → ReadsAll s.heap ws ys bs → alikeAll xs ys = true → tupOnlys xs = true →
    A.units + min (PyData.depthAll xs) (PyData.depthAll ys) < cLine → ∀ j (h1 : j < vs.length) (h2 : j < ws.length), pairEq xs ys j = false → Ob.RcOp .GtE A s vs[j] ws[j] (!dataLt (xs.getD j .none) (ys.getD j .none))
  | [], _, _, _, _, _, _, _, ra, _, _, _, _, j, h1, _, _ => by cases ra; exact absurd h1 (Nat.not_lt_zero _)
  | _ :: _, [], _, _, _, _, _, _, _, rb, _, _, _, j, _, h2, _ => by cases rb; exact absurd h2 (Nat.not_lt_zero _)
  | x :: xs, y :: ys, A, s, vs, ws, as, bs, ra, rb, hal, hto, hu, j, h1, h2, hj => by
    obtain ⟨a1, a2⟩ := alike_all_cons hal
    have t1 : tupOnly x = true ∧ tupOnlys xs = true := by
      rw [tupOnlys, Bool.and_eq_true] at hto
      exact hto
    cases ra with
    | cons r1 r2 =>
      cases rb with
      | cons q1 q2 =>
        have d1 : PyData.depthAll (x :: xs) = max x.depth (PyData.depthAll xs) := by simp [PyData.depthAll]
        have d2 : PyData.depthAll (y :: ys) = max y.depth (PyData.depthAll ys) := by simp [PyData.depthAll]
        rw [d1, d2] at hu
        cases j with
        | zero => exact rcGe_alike x y A s _ _ _ _ r1 q1 a1 t1.1 (by omega)
        | succ j => exact rcGe_alikeAll xs ys A s _ _ _ _ r2 q2 a2 t1.2 (by omega) j (by simpa using h1) (by simpa using h2) (by simpa [pairEq] using hj)
end
end

section
variable {X : Cx} {g : G}
theorem geP_of {B : List Addr} {H : Hp} {ι : List Addr} {μ : Store} {dx dy : D} {x y : V} {b : Bool} (e : geP μ dx dy = some b) (m : MemRel (g.b B) H ι μ) (r1 : Rep (g.b B) H ι dx x) (r2 : Rep (g.b B) H ι dy y) :
    ∃ p q, Dp g.K H x p ∧ Dp g.K H y q ∧ PySem.W.alike p q = true ∧ SeqAt.shaped p = true ∧ SeqAt.shaped q = true ∧ tupOnly p = true ∧ b = !PySem.W.dataLt p q := by
  unfold geP at e
  split at e
  · rename_i p q e1 e2
    split at e
    · rename_i hs
      simp only [Bool.and_eq_true] at hs
      obtain ⟨⟨⟨⟨h1, h2⟩, h3⟩, h4⟩, h5⟩ := hs
      cases e
      exact ⟨p, q, dpμ_of (g := g.b B) m r1 e1, dpμ_of (g := g.b B) m r2 e2, h1, h2, h3, h5, rfl⟩
    · cases e
  · cases e
theorem or_ge (hK : X.K = g.K) {n : Nat} (hr : Room n X.A) : OpR X (compareOp .GtE) (rCmp g .GtE) := by
  intro pins s σ H x y v u Q I rx ry h
  obtain ⟨B, μ, ι, dx, dy, b, m, r1, r2, e, q⟩ := h
  simp only [cmpD] at e
  split at e
  · cases e
    cases r1
    cases r2
    exact op_ge pins s σ H _ _ v u Q I rx ry ⟨_, _, rfl, rfl, q⟩
  · obtain ⟨p, p', h1, h2, al, s1, s2, et, rfl⟩ := geP_of e m r1 r2
    obtain ⟨as, q1⟩ := Dp.reads I p x v (by rw [hK]; exact h1) rx
    obtain ⟨bs, q2⟩ := Dp.reads I p' y u (by rw [hK]; exact h2) ry
    have hu := hr.units
    have d1 := SeqAt.depth_of_shaped s1
    exact (rcGe_alike p p' X.A s v u as bs q1 q2 al et (by
      have : min p.depth p'.depth ≤ p.depth := Nat.min_le_left _ _
      omega)) _ _ _ _ ⟨.bl _, H, I, rfl, q⟩
theorem leP_of {B : List Addr} {H : Hp} {ι : List Addr} {μ : Store} {dx dy : D} {x y : V} {b : Bool} (e : leP μ dx dy = some b) (m : MemRel (g.b B) H ι μ) (r1 : Rep (g.b B) H ι dx x) (r2 : Rep (g.b B) H ι dy y) :
    ∃ p q, Dp g.K H x p ∧ Dp g.K H y q ∧ PySem.W.alike p q = true ∧ SeqAt.shaped p = true ∧ SeqAt.shaped q = true ∧ (∃ xs, p = .tuple xs) ∧ b = !PySem.W.dataLt q p := by
  unfold leP at e
  split at e
  · rename_i p q e1 e2
    split at e
    · rename_i hs
      rw [Bool.and_eq_true, Bool.and_eq_true, Bool.and_eq_true] at hs
      obtain ⟨⟨⟨h1, h2⟩, h3⟩, h4⟩ := hs
      cases e
      refine ⟨p, q, dpμ_of (g := g.b B) m r1 e1, dpμ_of (g := g.b B) m r2 e2, h1, h2, h3, ?_, rfl⟩
      cases p with
      | tuple xs => exact ⟨_, rfl⟩
      | _ => cases h4
    · cases e
  · cases e
theorem gtP_of {B : List Addr} {H : Hp} {ι : List Addr} {μ : Store} {dx dy : D} {x y : V} {b : Bool} (e : gtP μ dx dy = some b) (m : MemRel (g.b B) H ι μ) (r1 : Rep (g.b B) H ι dx x) (r2 : Rep (g.b B) H ι dy y) :
    ∃ p q, Dp g.K H x p ∧ Dp g.K H y q ∧ PySem.W.alike p q = true ∧ SeqAt.shaped p = true ∧ SeqAt.shaped q = true ∧ (∃ xs, p = .tuple xs) ∧ b = PySem.W.dataLt q p := by
  unfold gtP at e
  split at e
  · rename_i p q e1 e2
    split at e
    · rename_i hs
      rw [Bool.and_eq_true, Bool.and_eq_true, Bool.and_eq_true] at hs
      obtain ⟨⟨⟨h1, h2⟩, h3⟩, h4⟩ := hs
      cases e
      refine ⟨p, q, dpμ_of (g := g.b B) m r1 e1, dpμ_of (g := g.b B) m r2 e2, h1, h2, h3, ?_, rfl⟩
      cases p with
      | tuple xs => exact ⟨_, rfl⟩
      | _ => cases h4
    · cases e
  · cases e
theorem or_le (hK : X.K = g.K) {n : Nat} (hr : Room n X.A) : OpR X (compareOp .LtE) (rCmp g .LtE) := by
  intro pins s σ H x y v u Q I rx ry h
  obtain ⟨B, μ, ι, dx, dy, b, m, r1, r2, e, q⟩ := h
  simp only [cmpD] at e
  split at e
  · cases e
    cases r1
    cases r2
    exact op_le pins s σ H _ _ v u Q I rx ry ⟨_, _, rfl, rfl, q⟩
  · cases e
    cases r1
    cases r2
    obtain ⟨t, rfl⟩ := rx
    obtain ⟨t', rfl⟩ := ry
    exact PySem.P.le_str ⟨.bl _, H, I, rfl, q⟩
  · obtain ⟨p, p', h1, h2, al, s1, s2, ⟨xs, et⟩, rfl⟩ := leP_of e m r1 r2
    obtain ⟨as, q1⟩ := Dp.reads I p x v (by rw [hK]; exact h1) rx
    obtain ⟨bs, q2⟩ := Dp.reads I p' y u (by rw [hK]; exact h2) ry
    have hu := hr.units
    have d1 := SeqAt.depth_of_shaped s1
    exact (PySem.W.rcLe_alike p p' X.A s v u as bs q1 q2 al (by rw [et]; exact fun z => nomatch z) (by
      have : min p.depth p'.depth ≤ p.depth := Nat.min_le_left _ _
      omega)) _ _ _ _ ⟨.bl _, H, I, rfl, q⟩
theorem or_gt (hK : X.K = g.K) {n : Nat} (hr : Room n X.A) : OpR X (compareOp .Gt) (rCmp g .Gt) := by
  intro pins s σ H x y v u Q I rx ry h
  obtain ⟨B, μ, ι, dx, dy, b, m, r1, r2, e, q⟩ := h
  simp only [cmpD] at e
  split at e
  · cases e
    cases r1
    cases r2
    exact op_gt pins s σ H _ _ v u Q I rx ry ⟨_, _, rfl, rfl, q⟩
  · obtain ⟨p, p', h1, h2, al, s1, s2, ⟨xs, et⟩, rfl⟩ := gtP_of e m r1 r2
    obtain ⟨as, q1⟩ := Dp.reads I p x v (by rw [hK]; exact h1) rx
    obtain ⟨bs, q2⟩ := Dp.reads I p' y u (by rw [hK]; exact h2) ry
    have hu := hr.units
    have d1 := SeqAt.depth_of_shaped s1
    exact (PySem.W.rcGt_alike p p' X.A s v u as bs q1 q2 al (by rw [et]; exact fun z => nomatch z) (by
      have : min p.depth p'.depth ≤ p.depth := Nat.min_le_left _ _
      omega)) _ _ _ _ ⟨.bl _, H, I, rfl, q⟩
/-- what `in` finds: the answer c -/
def InAns (X : Cx) (x y : V) (H : Hp) (b : Bool) : Prop := ∀ (pins : List (Addr × Obj)) (s : Shared) (σ : Sl) (v u : Value) (Q : VK), Inv X pins σ H s → RelV x v → RelV y u →
  (Q (.bl b) H → wpAny (model X.prog X.w) X.A (compareOp .In v u) (EP X pins σ Q) X.xe s) ∧ (Q (.bl (!b)) H → wpAny (model X.prog X.w) X.A (compareOp .NotIn v u) (EP X pins σ Q) X.xe s)
theorem in_ans (hK : X.K = g.K) {n : Nat} (hr : Room n X.A) {B : List Addr} {H : Hp} {ι : List Addr} {μ : Store} {dx dy : D} {x y : V} {b : Bool} (e : inD μ dx dy = some b) (m : MemRel (g.b B) H ι μ) (r1 : Rep (g.b B) H ι dx x) (r2 : Rep (g.b B) H ι dy y) : InAns X x y H b := by
  intro pins s σ v u Q I rx ry
  have hu65 : X.A.units + 65 < cLine := by have := hr.un; omega
  have hu1 : X.A.units + 1 < cLine := by have := hr.un; omega
  unfold inD at e
  split at e
  · split at e
    · cases e
      cases r1
      cases r2
      exact ⟨fun q => op_in_str pins s σ H _ _ v u Q I rx ry ⟨_, _, rfl, rfl, q⟩, fun q => op_notin_str pins s σ H _ _ v u Q I rx ry ⟨_, _, rfl, rfl, q⟩⟩
    · cases e
  · split at e
    · rename_i t ks ds ed
      cases ek : dx.key t with
      | none => rw [ek] at e; cases e
      | some k =>
        rw [ek] at e
        cases e
        obtain ⟨a, o, rfl, hd, ho⟩ := dget_of ed m r2 r1 ek
        have eo : (lookD ks ds k).isSome = o.isSome := by
          cases z : lookD ks ds k with
          | none => rw [z] at ho; rw [ho]; rfl
          | some d => rw [z] at ho; obtain ⟨w, hw, _⟩ := ho; rw [hw]; rfl
        dsimp only
        rw [eo]
        cases ry
        exact ⟨fun q => d_in hu1 I hd rx fun s' I' => ⟨.bl _, H, I', rfl, q⟩, fun q => d_notIn hu1 I hd rx fun s' I' => ⟨.bl _, H, I', rfl, q⟩⟩
    · split at e
      · rename_i ds es
        split at e
        · rename_i p ps e1 e2
          split at e
          · rename_i hs
            simp only [Bool.and_eq_true] at hs
            obtain ⟨⟨s1, s2⟩, s3⟩ := hs
            cases e
            obtain ⟨a, vs, rfl, hq, rl⟩ := seq_of es m r2
            obtain ⟨as, q1⟩ := Dp.reads I p x v (by rw [hK]; exact dpμ_of (g := g.b B) m r1 e1) rx
            rcases hq with hq | hq
            · obtain ⟨bs, q2⟩ := Dp.reads I (.list ps) (.ref a) u (by rw [hK]; exact .lst hq (dps_of (g := g.b B) rl e2)) ry
              exact ⟨fun q => SeqAt.in_list_reads q2 q1 (SeqAt.canLay_of_shaped s2) (SeqAt.canLay_of_shaped s1) (PyProof.Rows.room_in_shaped s1 hu65) ⟨.bl _, H, I, rfl, q⟩,
                fun q => SeqAt.notIn_list_reads q2 q1 (SeqAt.canLay_of_shaped s2) (SeqAt.canLay_of_shaped s1) (PyProof.Rows.room_in_shaped s1 hu65) ⟨.bl _, H, I, rfl, q⟩⟩
            · obtain ⟨bs, q2⟩ := Dp.reads I (.tuple ps) (.ref a) u (by rw [hK]; exact .tup hq (dps_of (g := g.b B) rl e2)) ry
              exact ⟨fun q => SeqAt.in_tuple_reads q2 q1 (SeqAt.canLay_of_shaped s3) (SeqAt.canLay_of_shaped s1) (PyProof.Rows.room_in_shaped s1 hu65) ⟨.bl _, H, I, rfl, q⟩,
                fun q => SeqAt.notIn_tuple_reads q2 q1 (SeqAt.canLay_of_shaped s3) (SeqAt.canLay_of_shaped s1) (PyProof.Rows.room_in_shaped s1 hu65) ⟨.bl _, H, I, rfl, q⟩⟩
          · cases e
        · cases e
      · cases e
theorem or_is : OpR X (compareOp .Is) (rCmp g .Is) := by
  intro pins s σ H x y v u Q I rx ry h
  obtain ⟨B, μ, ι, dx, dy, b, m, r1, r2, e, q⟩ := h
  simp only [cmpD] at e
  split at e
  · cases e
    cases r2
    refine op_isN pins s σ H _ _ v u Q I rx ry ⟨rfl, ?_⟩
    cases r1 <;> exact q
  · split at e
    · cases e
      cases r1
      cases r2
      refine op_isBl pins s σ H _ _ v u Q I rx ry ⟨_, _, rfl, rfl, ?_⟩
      rw [show ∀ c d : Bool, decide (c = d) = (d == c) from by decide]
      exact q
    · cases e
  · cases e
theorem or_isnot : OpR X (compareOp .IsNot) (rCmp g .IsNot) := by
  intro pins s σ H x y v u Q I rx ry h
  obtain ⟨B, μ, ι, dx, dy, b, m, r1, r2, e, q⟩ := h
  simp only [cmpD] at e
  split at e
  · cases e
    cases r2
    refine op_notN pins s σ H _ _ v u Q I rx ry ⟨rfl, ?_⟩
    cases r1 <;> exact q
  · cases e
theorem or_cmp (hK : X.K = g.K) {n : Nat} (hr : Room n X.A) (op : CmpOp) : OpR X (compareOp op) (rCmp g op) := by
  cases op with
  | Eq => exact or_eq hK hr
  | NotEq => exact or_ne hK hr
  | Lt => exact or_lt hK hr
  | LtE => exact or_le hK hr
  | Gt => exact or_gt hK hr
  | GtE => exact or_ge hK hr
  | Is => exact or_is
  | IsNot => exact or_isnot
  | In =>
    intro pins s σ H x y v u Q I rx ry h
    obtain ⟨B, μ, ι, dx, dy, b, m, r1, r2, e, q⟩ := h
    exact (in_ans hK hr e m r1 r2 pins s σ v u Q I rx ry).1 q
  | NotIn =>
    intro pins s σ H x y v u Q I rx ry h
    obtain ⟨B, μ, ι, dx, dy, b, m, r1, r2, e, q⟩ := h
    have e : (inD μ dx dy).map (!·) = some b := e
    cases e0 : inD μ dx dy with
    | none => rw [e0] at e; cases e
    | some c =>
      rw [e0] at e
      cases e
      exact (in_ans hK hr e0 m r1 r2 pins s σ v u Q I rx ry).2 q
end
end PyD

set_option Elab.async false
set_option linter.all false
set_option maxRecDepth 100000
set_option maxHeartbeats 4000000
/-! The evaluator's subscripts and built-ins are the model's. -/
namespace PyD
open PySem PySem.Spec L2

section
variable {g : G} {H : Hp} {ι : List Addr} {μ : Store}
theorem ints_of : ∀ {ds : List D} {ns : List Int}, intsOf ds = some ns → ds = ns.map D.int
  | [], ns, e => by simp [intsOf] at e; subst e; rfl
  | d :: ds, ns, e => by
    cases d <;> simp only [intsOf] at e <;> try cases e
    cases q : intsOf ds with
    | none => rw [q] at e; cases e
    | some ms => rw [q] at e; cases e; rw [ints_of q]; rfl
theorem bls_of : ∀ {ds : List D} {ns : List Bool}, blsOf ds = some ns → ds = ns.map D.bl
  | [], ns, e => by simp [blsOf] at e; subst e; rfl
  | d :: ds, ns, e => by
    cases d <;> simp only [blsOf] at e <;> try cases e
    cases q : blsOf ds with
    | none => rw [q] at e; cases e
    | some ms => rw [q] at e; cases e; rw [bls_of q]; rfl
theorem atI_rep {ds : List D} {vs : List V} {i : Int} {d : D} (r : RepL g H ι ds vs) (h : atI ds i = some d) : ∃ v, atI vs i = some v ∧ Rep g H ι d v := by
  unfold atI at h ⊢
  rw [← r.length]
  cases q : ixN ds.length i with
  | none => rw [q] at h; cases h
  | some j =>
    rw [q] at h
    exact r.get h
/-- one item, of a seq or a dict -/
def rIxD (g : G) : R2 := fun x y H Q => ∃ B μ ι dx dy d, MemRel (g.b B) H ι μ ∧ Rep (g.b B) H ι dx x ∧ Rep (g.b B) H ι dy y ∧ ixD μ dx dy = some d ∧ ∀ v, Rep (g.b B) H ι d v → Q v H
theorem ix_dict {X : Cx} (hu : X.A.units + 1 < cLine) : IxR X (fun x y H Q => ∃ a v, x = .ref a ∧ DGet H a y (some v) ∧ Q v H) := by
  intro value slice pins s σ H x y v u Q I rx ry h hs
  obtain ⟨a, z, rfl, hd, q⟩ := h
  cases rx
  have go := d_getItem (Q := EP X pins σ Q) (E := X.xe) hu I hd ry fun w' s' I' rw' => ⟨z, H, I', rw', q⟩
  exact PyProof.Rows.tail_any (ops := [.ref a, u]) (dict_typeIs I hd) PySem.F.slot_dict_getitem.lookup go hs
theorem ix_D {X : Cx} (hK : X.K = g.K) {n : Nat} (hr : Room n X.A) : IxR X (rIxD g) := by
  intro value slice pins s σ H x y v u Q I rx ry h hs
  obtain ⟨B, μ, ι, dx, dy, d, m, r1, r2, e, q⟩ := h
  have hu1 : X.A.units + 1 < cLine := by have := hr.un; omega
  unfold ixD at e
  split at e
  · rename_i t ks ds ed
    cases ek : dy.key t with
    | none => rw [ek] at e; cases e
    | some k =>
      rw [ek] at e
      obtain ⟨a, o, rfl, hd, ho⟩ := dget_of ed m r1 r2 ek
      rw [Option.bind_some] at e
      rw [e] at ho
      obtain ⟨w, rfl, rw'⟩ := ho
      exact ix_dict hu1 value slice pins s σ H _ _ v u Q I rx ry ⟨a, w, rfl, hd, q w rw'⟩ hs
  · split at e
    · rename_i i
      cases r2
      split at e
      · rename_i z _
        split at e
        · rename_i hz
          cases r1
          cases ha : atI z.cps.toList i with
          | none => rw [ha] at e; cases e
          | some c =>
            rw [ha] at e
            cases e
            exact ix_str value slice pins s σ H _ _ v u Q I rx ry ⟨z, i, c, rfl, rfl, hz, ha, q _ (.str _)⟩ hs
        · cases e
      · cases hs' : asSeq μ dx with
        | none => rw [hs'] at e; cases e
        | some ds =>
          rw [hs'] at e
          obtain ⟨a, vs, rfl, hq, rl⟩ := seq_of hs' m r1
          obtain ⟨w, hw, rw'⟩ := atI_rep rl e
          rcases hq with hq | hq
          · exact ix_list value slice pins s σ H _ _ v u Q I rx ry ⟨a, vs, i, w, rfl, rfl, by rw [hK]; exact hq, hw, q w rw'⟩ hs
          · exact ix_tup value slice pins s σ H _ _ v u Q I rx ry ⟨a, vs, i, w, rfl, rfl, by rw [hK]; exact hq, hw, q w rw'⟩ hs
    · cases e

/-! ### slices -/
theorem cut_rep {ds : List D} {vs : List V} (r : RepL g H ι ds vs) (lo hi : Option Int) : RepL g H ι (cutD ds lo hi) (cutV vs lo hi) := by
  unfold cutD cutV
  rw [← r.length]
  exact (r.drop _).take _
theorem sIx_le' {n : Nat} {o : Option Int} : HT.sIx n n o ≤ n := HT.sIx_le n n (Nat.le_refl _) o
def rSlc (g : G) : V → Option Int → Option Int → Hp → VK → Prop := fun x lo hi H Q => ∃ B μ ι dx o, MemRel (g.b B) H ι μ ∧ Rep (g.b B) H ι dx x ∧ slcD μ dx lo hi = some o ∧ postO (g.b B) (fun _ _ => False) H ι (.ok o μ) Q
theorem sl_D {X : Cx} (hK : X.K = g.K) : SlR X (rSlc g) := by
  intro pins s σ H x v vl vu lo hi sl Q I rx hs pl pu h
  obtain ⟨B, μ, ι, dx, o, m, r1, e, q⟩ := h
  unfold slcD at e
  split at e
  · rename_i ds
    cases e
    cases r1 with
    | @tup a vs _ ha rl =>
      refine sl_tupB pins s σ H _ v vl vu lo hi sl Q I rx hs pl pu ⟨a, vs, rfl, ha.sq, fun hw => ?_, end_tup q m (cut_rep rl lo hi)⟩
      refine end_v q m ?_
      have e1 : cutD ds lo hi = ds := by
        unfold cutD
        rw [rl.length, hw.1, hw.2, ← rl.length]
        simp
      rw [e1]
      exact .tup ha rl
  · split at e
    · rename_i z hz
      cases e
      cases r1
      refine sl_str pins s σ H _ v vl vu lo hi sl Q I rx hs pl pu ⟨z, rfl, hz, ?_⟩
      have e1 : cutS z lo hi = ⟨(cutD z.cps.toList lo hi).toArray⟩ := by
        unfold cutS cutD
        simp [Str.length]
      rw [e1]
      exact end_v q m (.str _)
    · cases e
  · cases ha : asLst μ dx with
    | none => rw [ha] at e; cases e
    | some ds =>
      rw [ha] at e
      cases e
      obtain ⟨a, vs, rfl, h1, rl⟩ := lst_of ha m r1
      exact sl_list pins s σ H _ v vl vu lo hi sl Q I rx hs pl pu ⟨a, vs, rfl, SqL.of h1, fun p hp => end_lst q m (cut_rep rl lo hi) hp⟩
end
end PyD

set_option Elab.async false
set_option linter.all false
set_option maxRecDepth 100000
set_option maxHeartbeats 4000000
/-! The evaluator's built-ins are the model's. -/
namespace PyD
open PySem PySem.Spec L2

theorem nuMax3_int (i j k : Int) : nuMax3 (.int i) (.int j) (.int k) = some (.int (if k > (if j > i then j else i) then k else (if j > i then j else i))) := by
  have two : ∀ a b : Int, nuMax2 (.int a) (.int b) = some (.int (if b > a then b else a)) := fun a b => by
    have e : nuLt (.int a) (.int b) = some (decide (a < b)) := rfl
    simp only [nuMax2, e, Option.map_some, decide_eq_true_eq]
    by_cases h : a < b <;> simp [h]
  unfold nuMax3
  rw [two]
  exact two _ _
theorem nuMin3_int (i j k : Int) : nuMin3 (.int i) (.int j) (.int k) = some (.int (if k < (if j < i then j else i) then k else (if j < i then j else i))) := by
  have two : ∀ a b : Int, nuMin2 (.int a) (.int b) = some (.int (if b < a then b else a)) := fun a b => by
    have e : nuLt (.int b) (.int a) = some (decide (b < a)) := rfl
    simp only [nuMin2, e, Option.map_some, decide_eq_true_eq]
    by_cases h : b < a <;> simp [h]
  unfold nuMin3
  rw [two]
  exact two _ _
section
variable {g : G}
def rBlt (g : G) (f : Bi) : List V → Hp → VK → Prop := fun xs H Q => ∃ B μ ι ds o, MemRel (g.b B) H ι μ ∧ RepL (g.b B) H ι ds xs ∧ biD f μ ds = some o ∧ postO (g.b B) (fun _ _ => False) H ι (.ok o μ) Q
def rTy (g : G) (f : Ty) : List V → Hp → VK → Prop := fun xs H Q => ∃ B μ ι ds o, MemRel (g.b B) H ι μ ∧ RepL (g.b B) H ι ds xs ∧ tyD f μ ds = some o ∧ postO (g.b B) (fun _ _ => False) H ι (.ok o μ) Q
section
variable {H : Hp} {ι : List Addr} {μ : Store}
theorem repl1 {d : D} {xs : List V} (r : RepL g H ι [d] xs) : ∃ v, xs = [v] ∧ Rep g H ι d v := by
  cases r with
  | cons a r => cases r; exact ⟨_, rfl, a⟩
theorem repl2 {d e : D} {xs : List V} (r : RepL g H ι [d, e] xs) : ∃ v u, xs = [v, u] ∧ Rep g H ι d v ∧ Rep g H ι e u := by
  cases r with
  | cons a r =>
    cases r with
    | cons b r => cases r; exact ⟨_, _, rfl, a, b⟩
theorem repl_cons {d : D} {ds : List D} {xs : List V} (r : RepL g H ι (d :: ds) xs) : ∃ v vs, xs = v :: vs ∧ Rep g H ι d v ∧ RepL g H ι ds vs := by
  cases r with
  | cons a r => exact ⟨_, _, rfl, a, r⟩
/-- a list of ints that is handed over -/
theorem lst_ints {d : D} {v : V} {f : List Int → Option Out} {o : Out} (e : int1 μ d f = some o) (m : MemRel g H ι μ) (r : Rep g H ι d v) : ∃ a ns, v = .ref a ∧ H a = some (.lst (ns.map V.int)) ∧ f ns = some o := by
  unfold int1 at e
  split at e
  · rename_i ds q
    split at e
    · rename_i ns q2
      obtain ⟨a, vs, rfl, h, rl⟩ := lst_of q m r
      have := ints_of q2
      subst this
      rw [rl.ints] at h
      exact ⟨a, ns, rfl, h, e⟩
    · cases e
  · cases e
theorem lst_bls {d : D} {v : V} {f : List Bool → Bool} {o : Out} (e : bl1 μ d f = some o) (m : MemRel g H ι μ) (r : Rep g H ι d v) : ∃ a ns, v = .ref a ∧ H a = some (.lst (ns.map V.bl)) ∧ o = .v (.bl (f ns)) := by
  unfold bl1 at e
  split at e
  · rename_i ds q
    split at e
    · rename_i ns q2
      cases e
      obtain ⟨a, vs, rfl, h, rl⟩ := lst_of q m r
      have := bls_of q2
      subst this
      rw [rl.bls] at h
      exact ⟨a, ns, rfl, h, rfl⟩
    · cases e
  · cases e
/-- a dict that is handed over -/
theorem dct_of {x : D} {v : V} {t : Bool} {ks : List DK} {ds : List D} (e : asDct μ x = some (t, ks, ds)) (m : MemRel g H ι μ) (r : Rep g H ι x v) :
    ∃ a, v = .ref a ∧ ((∃ kvs, H a = some (.dK kvs) ∧ dkK ks = some (kvs.map (·.1)) ∧ RepL g H ι ds (kvs.map (·.2))) ∨ ∃ kvs, H a = some (.dT kvs) ∧ dkT ks = some (kvs.map (·.1)) ∧ RepL g H ι ds (kvs.map (·.2))) := by
  unfold asDct at e
  split at e
  · cases e
    cases r with
    | dctK h _ _ hk q => exact ⟨_, rfl, .inl ⟨_, h, hk, q⟩⟩
    | dctT h _ _ hk q => exact ⟨_, rfl, .inr ⟨_, h, hk, q⟩⟩
  · rename_i n
    cases r with
    | @ref n a h =>
      cases q : μ[n]? with
      | none => rw [q] at e; cases e
      | some mm =>
        rw [q] at e
        obtain ⟨a', h1, h2⟩ := m.obj _ _ q
        rw [h] at h1
        cases h1
        cases h2 with
        | lst _ _ => cases e
        | ro _ _ => cases e
        | dctK h hk qq => cases e; exact ⟨_, rfl, .inl ⟨_, h, hk, qq⟩⟩
        | dctT h hk qq => cases e; exact ⟨_, rfl, .inr ⟨_, h, hk, qq⟩⟩
  · cases e
end
section
variable {X : Cx}
theorem call_len_dK : CallR X (.builtin "len") (fun xs H Q => ∃ a kvs, xs = [.ref a] ∧ H a = some (.dK kvs) ∧ Q (.int ((kvs.length : Nat) : Int)) H) := by
  intro pins s σ H xs us Q I r h
  obtain ⟨a, kvs, rfl, ha, q⟩ := h
  obtain ⟨u, rfl, rx⟩ := vals1 r
  cases rx
  exact d_len I (.inl ha) fun t s' I' => ⟨.int _, H, I', ⟨_, rfl⟩, q⟩
theorem bl_len (hK : X.K = g.K) : CallR X (.builtin "len") (rBlt g .len) := by
  intro pins s σ H xs us Q I r h
  obtain ⟨B, μ, ι, ds, o, m, rl, e, q⟩ := h
  simp only [biD] at e
  split at e
  · rename_i d
    obtain ⟨v, rfl, rv⟩ := repl1 rl
    split at e
    · rename_i n e1
      cases e
      unfold lenD at e1
      split at e1
      · split at e1
        · cases e1
          cases rv
          rename_i hz
          exact call_len_str pins s σ H _ us Q I r ⟨_, rfl, hz, end_v q m (.int _)⟩
        · cases e1
      · split at e1
        · rename_i t ks es hd
          cases e1
          obtain ⟨a, rfl, h⟩ := dct_of hd m rv
          rcases h with ⟨kvs, h1, h2, h3⟩ | ⟨kvs, h1, h2, h3⟩
          · refine call_len_dK pins s σ H _ us Q I r ⟨a, kvs, rfl, h1, ?_⟩
            have : ks.length = kvs.length := by rw [dkK_map h2, List.length_map, List.length_map]
            rw [← this]
            exact end_v q m (.int _)
          · refine call_len_dT pins s σ H _ us Q I r ⟨a, kvs, rfl, h1, ?_⟩
            have : ks.length = kvs.length := by rw [dkT_map h2, List.length_map, List.length_map]
            rw [← this]
            exact end_v q m (.int _)
        · rw [Option.map_eq_some_iff] at e1
          obtain ⟨es, h1, rfl⟩ := e1
          obtain ⟨a, vs, rfl, hq, rl2⟩ := seq_of h1 m rv
          refine call_len_seq pins s σ H _ us Q I r ⟨a, vs, rfl, by rw [hK]; exact hq, ?_⟩
          rw [← rl2.length]
          exact end_v q m (.int _)
    · cases e
  · cases e
theorem bl_abs : CallR X (.builtin "abs") (rBlt g .abs) := by
  intro pins s σ H xs us Q I r h
  obtain ⟨B, μ, ι, ds, o, m, rl, e, q⟩ := h
  simp only [biD] at e
  split at e
  · cases e
    obtain ⟨v, rfl, rv⟩ := repl1 rl
    cases rv
    exact call_abs pins s σ H _ us Q I r ⟨_, rfl, end_v q m (.int _)⟩
  · cases e
theorem maxI_mem : ∀ (n : Int) (ns : List Int), maxI (n :: ns) ∈ n :: ns ∧ ∀ y, y ∈ n :: ns → y ≤ maxI (n :: ns)
  | n, [] => ⟨by simp [maxI], fun y h => by simp at h; simp [maxI, h]⟩
  | n, k :: ns => by
    obtain ⟨h1, h2⟩ := maxI_mem k ns
    have e : maxI (n :: k :: ns) = max n (maxI (k :: ns)) := rfl
    rw [e]
    refine ⟨?_, fun y hy => ?_⟩
    · by_cases h : n ≤ maxI (k :: ns)
      · rw [Int.max_eq_right h]; exact List.mem_cons_of_mem _ h1
      · rw [Int.max_eq_left (by omega)]; exact List.mem_cons_self
    · rcases List.mem_cons.mp hy with z | z
      · rw [z]; omega
      · have := h2 y z; omega
theorem minI_mem : ∀ (n : Int) (ns : List Int), minI (n :: ns) ∈ n :: ns ∧ ∀ y, y ∈ n :: ns → minI (n :: ns) ≤ y
  | n, [] => ⟨by simp [minI], fun y h => by simp at h; simp [minI, h]⟩
  | n, k :: ns => by
    obtain ⟨h1, h2⟩ := minI_mem k ns
    have e : minI (n :: k :: ns) = min n (minI (k :: ns)) := rfl
    rw [e]
    refine ⟨?_, fun y hy => ?_⟩
    · by_cases h : n ≤ minI (k :: ns)
      · rw [Int.min_eq_left h]; exact List.mem_cons_self
      · rw [Int.min_eq_right (by omega)]; exact List.mem_cons_of_mem _ h1
    · rcases List.mem_cons.mp hy with z | z
      · rw [z]; omega
      · have := h2 y z; omega
theorem bl_max (hK : X.K = g.K) (hc : X.calm = true) : CallR X (.builtin "max") (rBlt g .max) := by
  intro pins s σ H xs us Q I r h
  obtain ⟨B, μ, ι, ds, o, m, rl, e, q⟩ := h
  simp only [biD] at e
  split at e
  · cases e
    obtain ⟨v, u, rfl, rv, ru⟩ := repl2 rl
    cases rv
    cases ru
    exact call_max2 hc pins s σ H _ us Q I r ⟨_, _, rfl, end_v q m (.int _)⟩
  · cases e
    obtain ⟨v, vs, rfl, rv, rvs⟩ := repl_cons rl
    obtain ⟨u, w, rfl, ru, rw'⟩ := repl2 rvs
    cases rv
    cases ru
    cases rw'
    rename_i i j k
    exact call_max3Nu hc pins s σ H _ us Q I r ⟨_, _, _, .int _, rfl, nuMax3_int i j k, end_v q m (.int _)⟩
  · obtain ⟨v, rfl, rv⟩ := repl1 rl
    obtain ⟨a, ns, rfl, ha, e⟩ := lst_ints e m rv
    cases ns with
    | nil => cases e
    | cons n ns =>
      cases e
      obtain ⟨h1, h2⟩ := maxI_mem n ns
      refine cr_max hc pins s σ H _ us Q I r ⟨a, n :: ns, rfl, by rw [hK]; exact SqL.of ha, by simp, fun k hk hmax => ?_⟩
      have : k = maxI (n :: ns) := by
        have z1 := h2 k hk
        have z2 := hmax _ h1
        omega
      rw [this]
      exact end_v q m (.int _)
  · cases e
theorem bl_min (hK : X.K = g.K) (hc : X.calm = true) : CallR X (.builtin "min") (rBlt g .min) := by
  intro pins s σ H xs us Q I r h
  obtain ⟨B, μ, ι, ds, o, m, rl, e, q⟩ := h
  simp only [biD] at e
  split at e
  · cases e
    obtain ⟨v, u, rfl, rv, ru⟩ := repl2 rl
    cases rv
    cases ru
    exact call_min2 hc pins s σ H _ us Q I r ⟨_, _, rfl, end_v q m (.int _)⟩
  · cases e
    obtain ⟨v, vs, rfl, rv, rvs⟩ := repl_cons rl
    obtain ⟨u, w, rfl, ru, rw'⟩ := repl2 rvs
    cases rv
    cases ru
    cases rw'
    rename_i i j k
    exact call_min3Nu hc pins s σ H _ us Q I r ⟨_, _, _, .int _, rfl, nuMin3_int i j k, end_v q m (.int _)⟩
  · obtain ⟨v, rfl, rv⟩ := repl1 rl
    obtain ⟨a, ns, rfl, ha, e⟩ := lst_ints e m rv
    cases ns with
    | nil => cases e
    | cons n ns =>
      cases e
      obtain ⟨h1, h2⟩ := minI_mem n ns
      refine cr_min hc pins s σ H _ us Q I r ⟨a, n :: ns, rfl, by rw [hK]; exact SqL.of ha, by simp, fun k hk hmax => ?_⟩
      have : k = minI (n :: ns) := by
        have z1 := h2 k hk
        have z2 := hmax _ h1
        omega
      rw [this]
      exact end_v q m (.int _)
  · cases e
theorem bl_sum (hK : X.K = g.K) (hc : X.calm = true) : CallR X (.builtin "sum") (rBlt g .sum) := by
  intro pins s σ H xs us Q I r h
  obtain ⟨B, μ, ι, ds, o, m, rl, e, q⟩ := h
  simp only [biD] at e
  split at e
  · obtain ⟨v, rfl, rv⟩ := repl1 rl
    obtain ⟨a, ns, rfl, ha, e⟩ := lst_ints e m rv
    cases e
    exact cr_sum hc pins s σ H _ us Q I r ⟨a, ns, rfl, by rw [hK]; exact SqL.of ha, end_v q m (.int _)⟩
  · cases e
theorem bl_all (hK : X.K = g.K) (hc : X.calm = true) : CallR X (.builtin "all") (rBlt g .all) := by
  intro pins s σ H xs us Q I r h
  obtain ⟨B, μ, ι, ds, o, m, rl, e, q⟩ := h
  simp only [biD] at e
  split at e
  · obtain ⟨v, rfl, rv⟩ := repl1 rl
    obtain ⟨a, ns, rfl, ha, rfl⟩ := lst_bls e m rv
    exact cr_all hc pins s σ H _ us Q I r ⟨a, ns, rfl, by rw [hK]; exact SqL.of ha, end_v q m (.bl _)⟩
  · cases e
theorem bl_any (hK : X.K = g.K) (hc : X.calm = true) : CallR X (.builtin "any") (rBlt g .any) := by
  intro pins s σ H xs us Q I r h
  obtain ⟨B, μ, ι, ds, o, m, rl, e, q⟩ := h
  simp only [biD] at e
  split at e
  · obtain ⟨v, rfl, rv⟩ := repl1 rl
    obtain ⟨a, ns, rfl, ha, rfl⟩ := lst_bls e m rv
    exact cr_any hc pins s σ H _ us Q I r ⟨a, ns, rfl, by rw [hK]; exact SqL.of ha, end_v q m (.bl _)⟩
  · cases e
end
end
end PyD

set_option Elab.async false
set_option linter.all false
set_option maxRecDepth 100000
set_option maxHeartbeats 4000000
/-! sorted, types, isinstance, methods, stores. -/
namespace PyD
open PySem PySem.Spec L2

section
variable {g : G} {X : Cx}
/-! ### sorted -/
theorem toPs_map : ∀ {ds : List D} {ps : List PyData}, toPs ds = some ps → ps = ds.map D.pd ∧ ∀ d ∈ ds, d.toP = some d.pd
  | [], ps, e => by simp [toPs] at e; subst e; exact ⟨rfl, fun d h => by cases h⟩
  | d :: ds, ps, e => by
    rw [toPs] at e
    cases q : d.toP with
    | none => rw [q] at e; cases e
    | some p =>
      cases q2 : toPs ds with
      | none => rw [q, q2] at e; cases e
      | some ps' =>
        rw [q, q2] at e
        cases e
        obtain ⟨h1, h2⟩ := toPs_map q2
        have hd : d.pd = p := by unfold D.pd; rw [q]; rfl
        refine ⟨by rw [List.map_cons, hd, h1], fun x hx => ?_⟩
        rcases List.mem_cons.mp hx with z | z
        · rw [z, hd, q]
        · exact h2 x z
theorem zip_fst {α β : Type} : ∀ {xs : List α} {ys : List β}, xs.length = ys.length → (xs.zip ys).map Prod.fst = xs
  | [], [], _ => rfl
  | x :: xs, y :: ys, h => by simp [zip_fst (xs := xs) (ys := ys) (by simpa using h)]
theorem repl_zip {H : Hp} {ι : List Addr} : ∀ {ds : List D} {vs : List V}, RepL g H ι ds vs → ∀ p ∈ ds.zip vs, Rep g H ι p.1 p.2
  | _, _, .nil, p, h => by simp at h
  | _, _, .cons a r, p, h => by
    simp only [List.zip_cons_cons, List.mem_cons] at h
    rcases h with h | h
    · rw [h]; exact a
    · exact repl_zip r p h
theorem repl_of_all {H : Hp} {ι : List Addr} : ∀ {ps : List (D × V)}, (∀ p ∈ ps, Rep g H ι p.1 p.2) → RepL g H ι (ps.map Prod.fst) (ps.map Prod.snd)
  | [], _ => .nil
  | p :: ps, h => .cons (h p (by simp)) (repl_of_all fun q hq => h q (List.mem_cons_of_mem _ hq))
theorem each_vals : ∀ {ds : List D} {vs : List V} {us : List Value}, ds.length = vs.length → Vals vs us → PySem.W.EachIs (fun u (p : D × V) => RelV p.2 u) us (ds.zip vs)
  | [], [], _, _, .nil => .nil
  | d :: ds, v :: vs, _, h, .cons a r => .cons a (each_vals (by simpa using h) r)
theorem vals_each : ∀ {ps : List (D × V)} {us : List Value}, PySem.W.EachIs (fun u (p : D × V) => RelV p.2 u) us ps → Vals (ps.map Prod.snd) us
  | [], _, .nil => .nil
  | p :: ps, _, .cons a r => .cons a (vals_each r)
theorem each_reads {H : Hp} {ι : List Addr} {B : List Addr} {pins : List (Addr × Obj)} {σ : Sl} {s : Shared} (hK : X.K = g.K) (I : Inv X pins σ H s) : ∀ {ds : List D} {vs : List V} {us : List Value}, RepL (g.b B) H ι ds vs → (∀ d ∈ ds, d.toP = some d.pd) → Vals vs us →
    PySem.W.EachIs (fun u (p : D × V) => ∃ as, Reads s.heap u p.1.pd as) us (ds.zip vs)
  | _, _, _, .nil, _, .nil => .nil
  | _, _, _, .cons a r, h, .cons q t => .cons (Dp.reads I _ _ _ (by rw [hK]; exact dp_of (g := g.b B) a (h _ (by simp))) q) (each_reads hK I r (fun d hd => h d (List.mem_cons_of_mem _ hd)) t)
theorem bl_sorted (hK : X.K = g.K) {n : Nat} (hr : Room n X.A) : CallR X (.builtin "sorted") (rBlt g .sorted) := by
  intro pins s σ H xs us Q I r h
  obtain ⟨B, μ, ι, ds, o, m, rl, e, q⟩ := h
  simp only [biD] at e
  split at e
  · obtain ⟨v, rfl, rv⟩ := repl1 rl
    split at e
    · rename_i d _ es el
      split at e
      · cases e
        rename_i hz
        rw [Bool.and_eq_true, decide_eq_true_eq] at hz
        obtain ⟨hs, hlen⟩ := hz
        obtain ⟨a, vs, rfl, ha, rl2⟩ := lst_of el m rv
        obtain ⟨u, rfl, ru⟩ := vals1 r
        cases ru
        unfold canSort at hs
        split at hs
        · rename_i ps hps
          obtain ⟨e1, e2⟩ := toPs_map hps
          simp only [Bool.and_eq_true] at hs
          obtain ⟨⟨h1, h2⟩, h3⟩ := hs
          obtain ⟨its, rvs, pl, _⟩ := I.list (SqL.of ha)
          have hl : es.length = vs.length := rl2.length
          have hb : ∀ p ∈ es.zip vs, p.1 ∈ es := fun p hp => (List.of_mem_zip hp).1
          have emap : (es.zip vs).map (fun p : D × V => p.1.pd) = ps := by
            rw [e1, show (fun p : D × V => p.1.pd) = D.pd ∘ Prod.fst from rfl, ← List.map_map, zip_fst hl]
          have hal : PySem.W.AllAlike ((es.zip vs).map fun p : D × V => p.1.pd) := by
            rw [emap]
            intro d hd d' hd'
            have z := List.all_eq_true.mp h2 d hd
            exact List.all_eq_true.mp z d' hd'
          have hk : PySem.W.Sortable ((es.zip vs).map fun p : D × V => p.1.pd) := by
            rw [emap]
            rcases Bool.or_eq_true _ _ ▸ h3 with h3 | h3
            · refine .inl fun d hd => ?_
              have z := List.all_eq_true.mp h3 d hd
              cases d with
              | tuple l =>
                cases l with
                | nil => cases z
                | cons x r => exact ⟨x, r, rfl⟩
              | _ => cases z
            · refine .inr fun d hd => ?_
              have z := List.all_eq_true.mp h3 d hd
              cases d with
              | int _ => exact ⟨fun z => (nomatch z), fun _ z => (nomatch z)⟩
              | str _ => exact ⟨fun z => (nomatch z), fun _ z => (nomatch z)⟩
              | _ => cases z
          have hzl : (es.zip vs).length = es.length := by rw [List.length_zip, ← hl, Nat.min_self]
          refine PySem.W.sorted_data (R := fun u (p : D × V) => RelV p.2 u) (enc := fun p : D × V => p.1.pd) pl.isList (each_vals hl rvs) (each_reads hK I rl2 e2 rvs) hal hk (by rw [hzl]; exact hlen) (fun b hb => ?_) fun out ho hE => ?_
          · have z := hr.units
            have hm : b.1.pd ∈ ps := by rw [← emap]; exact List.mem_map.mpr ⟨b, hb, rfl⟩
            have := SeqAt.depth_of_shaped (List.all_eq_true.mp h1 _ hm)
            have := hr.un
            omega
          · obtain ⟨ep, he'⟩ := PyProof.Rows.sortedAll_at s.heap its out.toArray
            generalize hbs : (es.zip vs).mergeSort (PySem.W.dataLe false fun p : D × V => p.1.pd) = bs at hE
            have hrep : ∀ p ∈ bs, Rep (g.b B) H ι p.1 p.2 := fun p hp => repl_zip rl2 p (by
              rw [← hbs] at hp
              exact (List.mergeSort_perm _ _).mem_iff.mp hp)
            have efst : bs.map Prod.fst = srtD es := by
              rw [← hbs]
              have := PySem.W.sort_maps (r := PySem.W.dataLe false fun p : D × V => p.1.pd) (s := fun a b : D => !PySem.W.dataLt b.pd a.pd) Prod.fst (l := es.zip vs) fun a _ b _ => rfl
              rw [this, zip_fst hl]
              rfl
            have hrl : RepL (g.b B) H ι (srtD es) (bs.map Prod.snd) := by
              rw [← efst]
              exact repl_of_all hrep
            have hfr : H (s.heap.objs.size + 1) = none := I.hok.fresh (Nat.le_succ _)
            have hln : (bs.map Prod.snd).length ≤ sizeLine := by
              rw [← hrl.length]
              unfold srtD
              rw [List.length_mergeSort]
              exact hlen
            refine ⟨.ref (s.heap.objs.size + 1), upd H (s.heap.objs.size + 1) (.lst (bs.map Prod.snd)), I.laid (t' := s.toks) (fun _ _ => PyProof.Rows.sortedAll_old) (Nat.le_succ _) ⟨hln, out, ep, vals_each hE, ?_⟩, rfl, end_lst q m hrl hfr⟩
            exact he'
        · cases hs
      · cases e
    · cases e
  · cases e
/-! ### types -/
theorem ty_int : CallR X (.type "int") (rTy g .int) := by
  intro pins s σ H xs us Q I r h
  obtain ⟨B, μ, ι, ds, o, m, rl, e, q⟩ := h
  simp only [tyD] at e
  split at e
  · cases e
    obtain ⟨v, rfl, rv⟩ := repl1 rl
    cases rv
    exact call_int1 pins s σ H _ us Q I r (.inl ⟨_, rfl, end_v q m (.int _)⟩)
  · cases e
    obtain ⟨v, rfl, rv⟩ := repl1 rl
    cases rv
    exact call_int1 pins s σ H _ us Q I r (.inr ⟨_, rfl, end_v q m (.int _)⟩)
  · cases e
theorem ty_list (hK : X.K = g.K) : CallR X (.type "list") (rTy g .list) := by
  intro pins s σ H xs us Q I r h
  obtain ⟨B, μ, ι, ds, o, m, rl, e, q⟩ := h
  simp only [tyD] at e
  split at e
  · split at e
    · rename_i es el
      cases e
      obtain ⟨v, rfl, rv⟩ := repl1 rl
      obtain ⟨a, vs, rfl, hq, rl2⟩ := seq_of el m rv
      exact call_list_of pins s σ H _ us Q I r ⟨a, vs, rfl, by rw [hK]; exact hq, fun p hp => end_lst q m rl2 hp⟩
    · cases e
  · cases e
theorem ty_tuple (hK : X.K = g.K) : CallR X (.type "tuple") (rTy g .tuple) := by
  intro pins s σ H xs us Q I r h
  obtain ⟨B, μ, ι, ds, o, m, rl, e, q⟩ := h
  simp only [tyD] at e
  split at e
  · cases e
    obtain ⟨v, rfl, rv⟩ := repl1 rl
    have rv' := rv
    cases rv with
    | @tup a vs _ ha rl2 => exact call_tuple_of pins s σ H _ us Q I r ⟨a, vs, rfl, .inr ⟨ha.sq, end_v q m (.tup ha rl2)⟩⟩
  · split at e
    · rename_i es el
      cases e
      obtain ⟨v, rfl, rv⟩ := repl1 rl
      obtain ⟨a, vs, rfl, ha, rl2⟩ := lst_of el m rv
      exact call_tupleB pins s σ H _ us Q I r ⟨a, vs, rfl, SqL.of ha, end_tup q m rl2⟩
    · cases e
  · cases e

/-! ### isinstance -/
def Cl.val (T : Cl) : Value := .type T.name
theorem kit_tab (a b : String) (r : Bool) (h : kitB a b = some r) {K : PySem.W.Frag} : PySem.W.kitOne K (.type a) (.type b) = some r := kit_ty h
theorem kit_non (T : Cl) {K : PySem.W.Frag} : PySem.W.kitOne K (.type "NoneType") (.type T.name) = some false := by
  cases T <;> exact kit_ty (by decide +kernel)
theorem kit_bl (T : Cl) {K : PySem.W.Frag} : PySem.W.kitOne K (.type "bool") (.type T.name) = some (decide (T = .bool) || decide (T = .int)) := by
  cases T <;> exact kit_ty (by decide +kernel)
theorem kit_own (S T : Cl) (h : S ≠ .bool) {K : PySem.W.Frag} : PySem.W.kitOne K (.type S.name) (.type T.name) = some (decide (T = S)) := by
  cases S <;> cases T <;> first | exact absurd rfl h | exact kit_ty (by decide +kernel)
def rIsD (g : G) (T : Cl) : List V → Hp → VK → Prop := fun xs H Q => ∃ B μ ι d x b, xs = [x, .ty T.name] ∧ MemRel (g.b B) H ι μ ∧ Rep (g.b B) H ι d x ∧ isiD μ d T = some b ∧ Q (.bl b) H
theorem bl_isi (T : Cl) : CallR X (.builtin "isinstance") (rIsD g T) := by
  intro pins s σ H xs us Q I r h
  obtain ⟨B, μ, ι, d, x, b, rfl, m, rv, e, q⟩ := h
  have go : ∀ t, TyX X.K H x t → PySem.W.kitOne X.K t (.type T.name) = some b → wpAny (model X.prog X.w) X.A (call (.builtin "isinstance") us) (EP X pins σ Q) X.xe s := fun t ht hk =>
    call_isi pins s σ H _ us Q I r ⟨x, .ty T.name, t, .type T.name, b, rfl, .ty _, ht, hk, q⟩
  unfold isiD at e
  split at e
  · cases e
    cases rv
    exact go _ (.base .non) (kit_non T)
  · cases e
    cases rv
    exact go _ (.base (.bl _)) (kit_bl T)
  · cases e
    cases rv
    exact go _ (.base (.int _)) (kit_own .int T (by decide))
  · cases e
    cases rv
    exact go _ (.base (.str _)) (kit_own .str T (by decide))
  · cases e
    cases rv with
    | tup h _ => exact go _ h.ty (kit_own .tuple T (by decide))
  · cases e
    cases rv with
    | lst h _ _ _ => exact go _ (.base (.lst h)) (kit_own .list T (by decide))
  · cases e
    cases rv with
    | dctK h _ _ _ _ => exact go _ (.base (.dK h)) (kit_own .dict T (by decide))
    | dctT h _ _ _ _ => exact go _ (.base (.dT h)) (kit_own .dict T (by decide))
  · rename_i n
    cases rv with
    | @ref n a h =>
      split at e
      · rename_i q0
        cases e
        obtain ⟨a', h1, h2⟩ := m.obj _ _ q0
        rw [h] at h1
        cases h1
        cases h2 with
        | lst h _ => exact go _ (.base (.lst h)) (kit_own .list T (by decide))
      · rename_i q0
        cases e
        obtain ⟨a', h1, h2⟩ := m.obj _ _ q0
        rw [h] at h1
        cases h1
        cases h2 with
        | dctK h _ _ => exact go _ (.base (.dK h)) (kit_own .dict T (by decide))
        | dctT h _ _ => exact go _ (.base (.dT h)) (kit_own .dict T (by decide))
      · cases e
  · cases e

/-! ### objects of the store changed -/
section
variable {H : Hp} {ι : List Addr} {μ : Store} {n : Nat} {a : Addr} {mm : M} {o : HO}
theorem nodup_at {l : List Addr} (h : l.Nodup) {i j : Nat} {x : Addr} (h1 : l[i]? = some x) (h2 : l[j]? = some x) : i = j := by
  exact (List.getElem?_inj (List.getElem?_eq_some_iff.mp h1).1 h).mp (h1.trans h2.symm)
/-- an object of the store is changed in place -/
theorem MemRel.put (m : MemRel g H ι μ) (ha : ι[n]? = some a) (ho : ∀ u, H a = some u → isTupO u = false) (new : ∀ H', Ext H ι H' ι → H' = upd H a o → RepObj g H' ι mm a) : MemRel g (upd H a o) ι (μ.set n mm) ∧ Ext H ι (upd H a o) ι := by
  have hm : a ∈ ι := List.mem_of_getElem? ha
  have x : Ext H ι (upd H a o) ι := ⟨⟨[], by simp⟩, fun b u h hn => ⟨by rw [upd_ne (fun z => hn (by rw [z]; exact hm))]; exact h, hn⟩⟩
  refine ⟨⟨by rw [List.length_set]; exact m.len, m.nd, m.nb, fun b hb => ?_, fun k mk e => ?_⟩, x⟩
  · obtain ⟨u, h, t⟩ := m.bs b hb
    exact ⟨u, by rw [upd_ne (fun z => m.nb b hb (by rw [z]; exact hm))]; exact h, t⟩
  · by_cases hk : n = k
    · subst hk
      have hl : n < μ.length := by rw [← m.len]; exact (List.getElem?_eq_some_iff.mp ha).1
      rw [List.getElem?_set_self hl] at e
      cases e
      exact ⟨a, ha, new _ x rfl⟩
    · rw [List.getElem?_set_ne hk] at e
      obtain ⟨b, h1, h2⟩ := m.obj k mk e
      have hab : b ≠ a := fun z => hk (nodup_at m.nd ha (by rw [← z]; exact h1))
      refine ⟨b, h1, ?_⟩
      cases h2 with
      | lst h q => exact .lst (by rw [upd_ne hab]; exact h) (q.mono x m.wf)
      | dctK h q1 q => exact .dctK (by rw [upd_ne hab]; exact h) q1 (q.mono x m.wf)
      | dctT h q1 q => exact .dctT (by rw [upd_ne hab]; exact h) q1 (q.mono x m.wf)
      | ro h q => exact .ro (by rw [upd_ne hab]; exact h) (q.mono x m.wf)
theorem MemRel.putL (m : MemRel g H ι μ) {ds es : List D} {vs ws : List V} (ha : ι[n]? = some a) (h : H a = some (.lst vs)) (r : RepL g H ι es ws) : MemRel g (upd H a (.lst ws)) ι (μ.set n (.lst es)) ∧ Ext H ι (upd H a (.lst ws)) ι :=
  m.put ha (fun u z => by rw [h] at z; cases z; rfl) fun H' x e => by
    subst e
    exact .lst upd_same (r.mono x m.wf)
theorem refL_of {d : D} {v : V} {ds : List D} (e : μ[n]? = some (.lst ds)) (m : MemRel g H ι μ) (r : Rep g H ι (.ref n) v) : ∃ a vs, v = .ref a ∧ ι[n]? = some a ∧ H a = some (.lst vs) ∧ RepL g H ι ds vs := by
  cases r with
  | @ref n a h =>
    obtain ⟨a', h1, h2⟩ := m.obj _ _ e
    rw [h] at h1
    cases h1
    cases h2 with
    | lst h3 q => exact ⟨_, _, rfl, h, h3, q⟩
end
/-- a method of a list of the store -/
def rMth (g : G) (m : Mt) : V → List V → Hp → VK → Prop := fun x xs H Q => ∃ B μ ι dx ds d μ', MemRel (g.b B) H ι μ ∧ Rep (g.b B) H ι dx x ∧ RepL (g.b B) H ι ds xs ∧ mthD m dx ds μ = some (d, μ') ∧
  ∀ v H' ι', Ext H ι H' ι' → MemRel (g.b B) H' ι' μ' → Rep (g.b B) H' ι' d v → Q v H'
theorem mt_D (f : Mt) : MtR X ("list." ++ f.name) (rMth g f) := by
  intro pins s σ H x xs v us Q I rx rs h
  obtain ⟨B, μ, ι, dx, ds, d, μ', m, r1, rl, e, q⟩ := h
  unfold mthD at e
  split at e
  · rename_i n
    split at e
    · rename_i es he
      obtain ⟨a, vs, rfl, ha, hl, rl2⟩ := refL_of (d := .non) he m r1
      cases f with
      | append =>
        simp only at e
        split at e
        · split at e
          · cases e
            rename_i y hz
            obtain ⟨w, rfl, rw'⟩ := repl1 rl
            obtain ⟨m2, x2⟩ := m.putL (ds := es) ha hl (rl2.append (.cons rw' .nil))
            exact mt_append pins s σ H _ _ v us Q I rx rs ⟨a, vs, w, rfl, rfl, hl, by rw [← rl2.length]; exact hz, q _ _ ι x2 m2 .non⟩
          · cases e
        · cases e
      | pop =>
        simp only at e
        split at e
        · split at e
          · rename_i y hy
            cases e
            cases rl
            obtain ⟨w, hw, rw'⟩ := rl2.get hy
            obtain ⟨m2, x2⟩ := m.putL (ds := es) ha hl rl2.dropLast
            exact mt_pop pins s σ H _ _ v us Q I rx rs ⟨a, vs, w, rfl, rfl, hl, by rw [← rl2.length]; exact hw, q _ _ ι x2 m2 (rw'.mono x2 m.wf)⟩
          · cases e
        · rename_i i
          split at e
          · rename_i hz
            split at e
            · rename_i k hk
              split at e
              · rename_i y hy
                cases e
                obtain ⟨w0, rfl, rw0⟩ := repl1 rl
                cases rw0
                obtain ⟨w, hw, rw'⟩ := rl2.get hy
                obtain ⟨m2, x2⟩ := m.putL (ds := es) ha hl (rl2.eraseIdx k)
                exact mt_popAt pins s σ H _ _ v us Q I rx rs ⟨a, vs, i, k, w, rfl, rfl, hl, hz.1, hz.2, by rw [← rl2.length]; exact hk, hw, q _ _ ι x2 m2 (rw'.mono x2 m.wf)⟩
              · cases e
            · cases e
          · cases e
        · cases e
      | reverse =>
        simp only at e
        split at e
        · cases e
          cases rl
          obtain ⟨m2, x2⟩ := m.putL (ds := es) ha hl rl2.reverse
          exact mt_reverse pins s σ H _ _ v us Q I rx rs ⟨a, vs, rfl, rfl, hl, q _ _ ι x2 m2 .non⟩
        · cases e
      | extend =>
        simp only at e
        split at e
        · split at e
          · rename_i zs hzs
            split at e
            · cases e
              rename_i hz
              obtain ⟨w0, rfl, rw0⟩ := repl1 rl
              obtain ⟨b, ws, rfl, hb, rl3⟩ := lst_of hzs m rw0
              obtain ⟨m2, x2⟩ := m.putL (ds := es) ha hl (rl2.append rl3)
              exact mt_extend pins s σ H _ _ v us Q I rx rs ⟨a, b, vs, ws, rfl, rfl, hl, hb, by rw [← rl2.length, ← rl3.length]; exact hz, q _ _ ι x2 m2 .non⟩
            · cases e
          · cases e
        · cases e
      | get => simp only [reduceCtorEq] at e
    · cases e
  · cases e
/-- d.get(k), d.get(k, x) -/
def rGet (g : G) : V → List V → Hp → VK → Prop := fun x xs H Q => ∃ B μ ι dx ds d μ', MemRel (g.b B) H ι μ ∧ Rep (g.b B) H ι dx x ∧ RepL (g.b B) H ι ds xs ∧ getMD dx ds μ = some (d, μ') ∧
  ∀ v H' ι', Ext H ι H' ι' → MemRel (g.b B) H' ι' μ' → Rep (g.b B) H' ι' d v → Q v H'
theorem mt_get {n : Nat} (hr : Room n X.A) : MtR X "dict.get" (rGet g) := by
  intro pins s σ H x xs v us Q I rx rs h
  obtain ⟨B, μ, ι, dx, ds, d, μ', m, r1, rl, e, q⟩ := h
  have hu1 : X.A.units + 1 < cLine := by have := hr.un; omega
  unfold getMD at e
  split at e
  · rename_i t ks es ed
    split at e
    · rename_i y
      obtain ⟨w, rfl, rw'⟩ := repl1 rl
      cases ek : y.key t with
      | none => rw [ek] at e; cases e
      | some k =>
        rw [ek, Option.map_some] at e
        cases e
        obtain ⟨a, o, rfl, hd, ho⟩ := dget_of ed m r1 rw' ek
        cases rx
        obtain ⟨u, rfl, ru⟩ := rs.one
        refine d_get1 hu1 I hd ru fun w' s' I' rw2 => ⟨_, H, I', rw2, q _ _ ι Ext.refl m ?_⟩
        cases hl : lookD ks es k with
        | none => rw [hl] at ho; simp only at ho; subst ho; exact .non
        | some d' => rw [hl] at ho; obtain ⟨w2, rfl, r3⟩ := ho; exact r3
    · rename_i y z
      obtain ⟨w, w2, rfl, rw', rz⟩ := repl2 rl
      cases ek : y.key t with
      | none => rw [ek] at e; cases e
      | some k =>
        rw [ek, Option.map_some] at e
        cases e
        obtain ⟨a, o, rfl, hd, ho⟩ := dget_of ed m r1 rw' ek
        cases rx
        obtain ⟨u, u2, rfl, ru, ru2⟩ := rs.two
        refine d_get2 hu1 I hd ru ru2 fun w' s' I' rw2 => ⟨_, H, I', rw2, q _ _ ι Ext.refl m ?_⟩
        cases hl : lookD ks es k with
        | none => rw [hl] at ho; simp only at ho; subst ho; exact rz
        | some d' => rw [hl] at ho; obtain ⟨w3, rfl, r3⟩ := ho; exact r3
    · cases e
  · cases e
theorem tyV_dict {H : Hp} {ι : List Addr} {μ : Store} {d : D} {v : V} (h : (asDct μ d).isSome = true) (m : MemRel g H ι μ) (r : Rep g H ι d v) : tyV g.K "dict" v H := by
  unfold asDct at h
  split at h
  · cases r with
    | dctK h9 _ _ _ _ => exact .inr (.inr (.inl ⟨rfl, .inl ⟨_, h9⟩⟩))
    | dctT h9 _ _ _ _ => exact .inr (.inr (.inl ⟨rfl, .inr ⟨_, h9⟩⟩))
  · rename_i n
    cases r with
    | @ref n a h' =>
      cases q : μ[n]? with
      | none => rw [q] at h; cases h
      | some mm =>
        rw [q] at h
        obtain ⟨a', h1, h2⟩ := m.obj _ _ q
        rw [h'] at h1
        cases h1
        cases h2 with
        | lst _ _ => cases h
        | ro _ _ => cases h
        | dctK h9 _ _ => exact .inr (.inr (.inl ⟨rfl, .inl ⟨_, h9⟩⟩))
        | dctT h9 _ _ => exact .inr (.inr (.inl ⟨rfl, .inr ⟨_, h9⟩⟩))
  · cases h
end
end PyD

set_option Elab.async false
set_option linter.all false
set_option maxRecDepth 100000
set_option maxHeartbeats 4000000
/-! x[i] = v. -/
namespace PyD
open PySem PySem.Spec L2
section
variable {g : G} {X : Cx}
theorem put_rep {κ : Type} [DecidableEq κ] {H : Hp} {ι : List Addr} {f : κ → DK} (fi : ∀ a b, f a = f b → a = b) {kvs : List (κ × V)} {ds : List D} {k : κ} {v : V} {d : D} (r : RepL g H ι ds (kvs.map (·.2))) (q : Rep g H ι d v) :
    (putD (kvs.map fun p => f p.1) ds (f k) d).1 = (putK kvs k v).map (fun p => f p.1) ∧ RepL g H ι (putD (kvs.map fun p => f p.1) ds (f k) d).2 ((putK kvs k v).map (·.2)) := by
  have e1 : (kvs.map fun p => f p.1).any (fun x => decide (x = f k)) = kvs.any fun kv => decide (kv.1 = k) := by
    rw [List.any_map]
    congr 1
    funext p
    show decide (f p.1 = f k) = decide (p.1 = k)
    by_cases h : p.1 = k
    · rw [decide_eq_true h, decide_eq_true (by rw [h])]
    · rw [decide_eq_false h, decide_eq_false fun z => h (fi _ _ z)]
  unfold putD putK
  rw [e1]
  split
  · refine ⟨?_, ?_⟩
    · rw [List.map_map]
      apply List.map_congr_left
      intro p _
      show f p.1 = f (if p.1 = k then (p.1, v) else p).1
      split <;> rfl
    · show RepL g H ι (replD (kvs.map fun p => f p.1) ds (f k) d) _
      clear e1
      rename_i hz
      clear hz
      induction kvs generalizing ds with
      | nil => cases r; exact .nil
      | cons p kvs ih =>
        cases r with
        | cons a r =>
          simp only [List.map_cons, replD]
          refine .cons ?_ (ih r)
          by_cases h : p.1 = k
          · rw [if_pos (by rw [h]), if_pos h]; exact q
          · rw [if_neg (fun z => h (fi _ _ z)), if_neg h]; exact a
  · refine ⟨by rw [List.map_append]; rfl, ?_⟩
    rw [List.map_append]
    exact r.append (.cons q .nil)
theorem dkK_back : ∀ l : List Key, dkK (l.map DK.k) = some l
  | [] => rfl
  | k :: l => by rw [List.map_cons, dkK, dkK_back l]; rfl
theorem dkT_back : ∀ l : List (List Key), dkT (l.map DK.t) = some l
  | [] => rfl
  | k :: l => by rw [List.map_cons, dkT, dkT_back l]; rfl
def rSetD (g : G) : TSet := fun o i v H Q => ∃ B μ ι dx di dv μ', MemRel (g.b B) H ι μ ∧ Rep (g.b B) H ι dx o ∧ Rep (g.b B) H ι di i ∧ Rep (g.b B) H ι dv v ∧ setD dx di dv μ = some μ' ∧ ∀ H' ι', Ext H ι H' ι' → MemRel (g.b B) H' ι' μ' → Q H'
theorem set_D {n : Nat} (hr : Room n X.A) : PSet X (rSetD g) := by
  intro pins s σ H o i v ov iv u Q I ro ri rv h
  obtain ⟨B, μ, ι, dx, di, dv, μ', m, r1, r2, r3, e, q⟩ := h
  have hu1 : X.A.units + 1 < cLine := by have := hr.un; omega
  unfold setD at e
  split at e
  · rename_i n
    split at e
    · rename_i es he
      obtain ⟨a, vs, rfl, ha, hl, rl⟩ := refL_of (d := .non) he m r1
      split at e
      · cases r2
        rw [Option.map_eq_some_iff] at e
        obtain ⟨j, hj, rfl⟩ := e
        obtain ⟨m2, x2⟩ := m.putL (ds := es) ha hl (rl.set r3 j)
        exact set_list pins s σ H _ _ v ov iv u Q I ro ri rv ⟨a, vs, _, j, rfl, rfl, hl, by rw [← rl.length]; exact hj, q _ ι x2 m2⟩
      · cases e
    · rename_i t ks es he
      split at e
      · rename_i hz
        rw [Option.map_eq_some_iff] at e
        obtain ⟨k, hk, rfl⟩ := e
        cases r1 with
        | @ref _ a ha =>
          cases ro
          obtain ⟨a', h1, h2⟩ := m.obj _ _ he
          rw [ha] at h1
          cases h1
          cases h2 with
          | @dctK _ kvs _ _ h hkk rl =>
            obtain ⟨j, rfl, rfl⟩ := keyK_of r2 hk
            have ek := dkK_map hkk
            rw [List.map_map] at ek
            obtain ⟨p1, p2⟩ := put_rep (f := DK.k) (fun _ _ z => DK.k.inj z) (k := j) rl r3
            have ez : ks.length = kvs.length := by rw [ek, List.length_map]
            obtain ⟨m2, x2⟩ := m.put (n := n) (o := .dK (putK kvs j v)) (mm := .dct false (putD ks es (.k j) dv).1 (putD ks es (.k j) dv).2) ha (fun u z => by rw [h] at z; cases z; rfl) fun H' x e => by
              subst e
              refine .dctK upd_same ?_ ?_
              · rw [ek]
                have := p1
                rw [show (kvs.map (DK.k ∘ fun x => x.1)) = kvs.map fun p => DK.k p.1 from rfl, p1, show ((putK kvs j v).map fun p => DK.k p.1) = ((putK kvs j v).map (·.1)).map DK.k by rw [List.map_map]; rfl]
                exact dkK_back _
              · rw [ek]
                exact p2.mono x m.wf
            refine d_setItem hu1 I (.inl ⟨kvs, j, h, rfl, by rw [← ez]; exact hz, rfl⟩) ri rv fun s' I' => ⟨_, I', q _ ι x2 m2⟩
          | @dctT _ kvs _ _ h hkk rl =>
            obtain ⟨j, b, rfl, rfl, hb⟩ := keyT_of r2 hk
            have ek := dkT_map hkk
            rw [List.map_map] at ek
            obtain ⟨p1, p2⟩ := put_rep (f := DK.t) (fun _ _ z => DK.t.inj z) (k := j) rl r3
            have ez : ks.length = kvs.length := by rw [ek, List.length_map]
            obtain ⟨m2, x2⟩ := m.put (n := n) (o := .dT (putK kvs j v)) (mm := .dct true (putD ks es (.t j) dv).1 (putD ks es (.t j) dv).2) ha (fun u z => by rw [h] at z; cases z; rfl) fun H' x e => by
              subst e
              refine .dctT upd_same ?_ ?_
              · rw [ek]
                rw [show (kvs.map (DK.t ∘ fun x => x.1)) = kvs.map fun p => DK.t p.1 from rfl, p1, show ((putK kvs j v).map fun p => DK.t p.1) = ((putK kvs j v).map (·.1)).map DK.t by rw [List.map_map]; rfl]
                exact dkT_back _
              · rw [ek]
                exact p2.mono x m.wf
            refine d_setItem hu1 I (.inr ⟨kvs, j, b, h, rfl, hb, by rw [← ez]; exact hz, rfl⟩) ri rv fun s' I' => ⟨_, I', q _ ι x2 m2⟩
      · cases e
    · cases e
  · cases e
end
end PyD

set_option Elab.async false
set_option linter.all false
set_option maxRecDepth 100000
set_option maxHeartbeats 4000000
/-! dict(xs), xs a list or tuple of pairs. -/
namespace PyD
open PySem PySem.Spec L2
section
variable {g : G} {H : Hp} {ι : List Addr}
theorem pairsD_cons {d : D} {ds : List D} {acc r : Acc0} (e : pairsD (d :: ds) acc = some r) : ∃ k v x, d = .tup [k, v] ∧ k.key false = some x ∧ pairsD ds (putD acc.1 acc.2 x v) = some r := by
  unfold pairsD at e
  split at e
  · rename_i h; cases h
  · rename_i h
    cases h
    split at e
    · rename_i x hx
      exact ⟨_, _, x, rfl, hx, e⟩
    · cases e
  · cases e
theorem pairs_rel : ∀ {ds : List D} {vs : List V} {acc r : Acc0} {m : List (Key × V)}, pairsD ds acc = some r → RepL g H ι ds vs → acc.1 = m.map (fun p => DK.k p.1) → RepL g H ι acc.2 (m.map (·.2)) →
    ∃ (ps : List Addr) (kvs : List (Key × V)), vs = ps.map V.ref ∧ Paired (fun p (kv : Key × V) => SqT g.K H p [kV kv.1, kv.2]) ps kvs ∧ r.1 = (mergeK m kvs).map (fun p => DK.k p.1) ∧ RepL g H ι r.2 ((mergeK m kvs).map (·.2))
  | [], _, acc, r, m, e, rl, h1, h2 => by
    cases e
    cases rl
    exact ⟨[], [], rfl, .nil, h1, h2⟩
  | d :: ds, vs, acc, r, m, e, rl, h1, h2 => by
    obtain ⟨k, v, x, rfl, hx, e⟩ := pairsD_cons e
    cases rl with
    | cons q rl =>
      cases q with
      | @tup a _ _ ht q =>
        obtain ⟨vk, vv, rfl, rk, rv⟩ := repl2 q
        obtain ⟨z, rfl, rfl⟩ : ∃ z : Key, x = .k z ∧ vk = kV z := by
          cases rk with
          | int i => cases hx; exact ⟨.inl i, rfl, rfl⟩
          | str i => cases hx; exact ⟨.inr i, rfl, rfl⟩
          | _ => simp [D.key] at hx
        have p := put_rep (f := DK.k) (fun a b z => by cases z; rfl) (k := z) h2 rv
        rw [← h1] at p
        obtain ⟨ps, kvs, rfl, e2, e3, e4⟩ := pairs_rel (m := putK m z vv) e rl p.1 p.2
        exact ⟨a :: ps, (z, vv) :: kvs, rfl, .cons ht.sq e2, e3, e4⟩
end
section
variable {g : G} {X : Cx}
theorem ty_dict (hK : X.K = g.K) (hc : X.calm = true) : CallR X (.type "dict") (rTy g .dict) := by
  intro pins s σ H xs us Q I r h
  obtain ⟨B, μ, ι, ds, o, m, rl, e, q⟩ := h
  simp only [tyD] at e
  split at e
  · split at e
    · rename_i es el
      split at e
      · rename_i hz
        split at e
        · rename_i res hp
          cases e
          obtain ⟨v, rfl, rv⟩ := repl1 rl
          obtain ⟨u, rfl, ru⟩ := vals1 r
          have src : ∃ a vs, v = .ref a ∧ (SqL X.K H a vs ∨ ∃ o : Obj, o.dict = none ∧ H a = some (.frz o (.tup vs))) ∧ RepL (g.b B) H ι es vs := by
            unfold dctArg at el
            split at el
            · split at el
              · cases el
              · rename_i hb
                cases el
                cases rv with
                | @tup a vs _ ht rl2 =>
                  rw [Bool.not_eq_true] at hb
                  rw [hb] at ht
                  exact ⟨a, vs, rfl, .inr ht, rl2⟩
            · obtain ⟨a, vs, rfl, ha, rl2⟩ := lst_of el m rv
              exact ⟨a, vs, rfl, .inl (SqL.of ha), rl2⟩
          obtain ⟨a, vs, rfl, hq, rl2⟩ := src
          obtain rfl : u = Value.ref a := ru
          obtain ⟨ps, kvs, rfl, hpr, e1, e2⟩ := pairs_rel (m := []) hp rl2 rfl .nil
          have hpr' : Paired (fun p (kv : Key × V) => SqT X.K H p [kV kv.1, kv.2]) ps kvs := by rw [hK]; exact hpr
          obtain ⟨prs, rel, hl, hpp⟩ := pairs_of I hpr'
          have hlen : prs.length ≤ sizeLine := by
            have := rl2.length
            rw [List.length_map] at this
            omega
          have fin : ∀ (P : Nat → Value → Value → Prop) (T : String) (fp wr : List Addr) (OK : Heap → Prop), PairArg X.prog X.w T a fp wr prs.length P OK → OK s.heap → wr = [] → (∀ i k v, P i k v → ∃ q, prs[i]? = some q ∧ q.2 = v ∧ keyIs q.1 k = true) →
              wpAny (model X.prog X.w) X.A (call (.type "dict") [.ref a]) (EP X pins σ Q) X.xe s := fun P T fp wr OK PA ok hw hP => by
            subst hw
            refine PySem.call_dict_pairs (knd := mixKind X.prog X.w) (kvs := prs) PA (I.ok.hd hc) ok ⟨rfl, fun i k v h => ?_⟩ hlen fun h' tk hd' kp => ?_
            · obtain ⟨⟨x, y⟩, e3, rfl, e5⟩ := hP i k v h
              exact ⟨x, e3, e5⟩
            · have hm : (s.heap.objs.size == sysModules) = false := beq_eq_false_iff_ne.mpr (Nat.ne_of_gt I.big)
              have hl2 : (mergeK [] kvs).length ≤ sizeLine := by
                refine Nat.le_trans (length_mergeK kvs []) ?_
                rw [List.length_nil, Nat.zero_add, rel.length]
                exact hlen
              have hn := I.hok.fresh (Nat.le_refl _)
              exact ⟨.ref s.heap.objs.size, upd H s.heap.objs.size (.dK (mergeK [] kvs)), I.laid (t' := tk) (fun b o e => kp b o (by simp) e) (Nat.le_refl _) (show ObjOk X.prog X.w _ _ _ (.dK (mergeK [] kvs)) from ⟨hl2, hm, merged [] prs, KV.merge rel .nil, hd'⟩), rfl,
                q _ _ ι (Ext.new hn) (m.nB hn) hn (m.newB hn) (.dctK upd_same (by rw [e1]; have := dkK_back ((mergeK [] kvs).map (·.1)); rw [List.map_map] at this; exact this) (e2.newB m hn))⟩
          have pick : ∃ uf : Nat → Value, ∀ (j : Nat) (q : Key × Value), prs[j]? = some q → ∃ b, ps[j]? = some b ∧ PyProof.Rows.IsTup s.heap b #[uf j, q.2] ∧ keyIs q.1 (uf j) = true := by
            classical
            refine ⟨fun j => if h : ∃ u, ∀ q, prs[j]? = some q → ∃ b, ps[j]? = some b ∧ PyProof.Rows.IsTup s.heap b #[u, q.2] ∧ keyIs q.1 u = true then h.choose else .none, fun j q e3 => ?_⟩
            have ex : ∃ u, ∀ q, prs[j]? = some q → ∃ b, ps[j]? = some b ∧ PyProof.Rows.IsTup s.heap b #[u, q.2] ∧ keyIs q.1 u = true := by
              obtain ⟨b, u, h1, h2, h3⟩ := hpp j q e3
              exact ⟨u, fun q' e4 => by rw [e3] at e4; cases e4; exact ⟨b, h1, h2, h3⟩⟩
            simp only [dif_pos ex]
            exact ex.choose_spec q e3
          obtain ⟨uf, huf⟩ := pick
          have hkv : ∀ (j : Nat) (k v : Value), ((List.range prs.length).map fun j => (uf j, ((prs[j]?).map (·.2)).getD .none))[j]? = some (k, v) → ∃ q, prs[j]? = some q ∧ k = uf j ∧ v = q.2 := fun j k v e3 => by
            rw [List.getElem?_map, Option.map_eq_some_iff] at e3
            obtain ⟨j', e4, e5⟩ := e3
            obtain ⟨hj, e4⟩ := List.getElem?_eq_some_iff.mp e4
            rw [List.getElem_range] at e4
            subst e4
            rw [List.length_range] at hj
            rw [List.getElem?_eq_getElem hj] at e5
            cases e5
            exact ⟨_, List.getElem?_eq_getElem hj, rfl, rfl⟩
          have pit : ∀ its : List Value, its = ps.map Value.ref → PairItems s.heap its.toArray (fun j => (ps[j]?).getD 0) ((List.range prs.length).map fun j => (uf j, ((prs[j]?).map (·.2)).getD .none)) := fun its ei => by
            subst ei
            refine ⟨by simp [hl], fun j k v e3 => ?_⟩
            obtain ⟨q, e4, rfl, rfl⟩ := hkv j k v e3
            obtain ⟨b, h1, ⟨o, h2, h3, n, h4⟩, _⟩ := huf j q e4
            exact ⟨by simp [h1], by show PairAt s.heap ((ps[j]?).getD 0) _ _; rw [h1]; exact .inl ⟨o, h2, h3, n, h4⟩⟩
          have hpl : ∀ i k v, PairRel ((List.range prs.length).map fun j => (uf j, ((prs[j]?).map (·.2)).getD .none)) i k v → ∃ q, prs[i]? = some q ∧ q.2 = v ∧ keyIs q.1 k = true := fun i k v e3 => by
            obtain ⟨q, e4, rfl, rfl⟩ := hkv i k v e3
            obtain ⟨b, _, _, h3⟩ := huf i q e4
            exact ⟨q, e4, rfl, h3⟩
          have hlen2 : ((List.range prs.length).map fun j => (uf j, ((prs[j]?).map (·.2)).getD .none)).length = prs.length := by simp
          rcases hq with hq | ⟨o, hod, hq⟩
          · obtain ⟨its, rv2, ⟨o, n, ho, hcl, hd, hdat⟩, _⟩ := I.list hq
            have ei := refs_at rv2
            have PA := PairArg.list (prog := X.prog) (w := X.w) a its.toArray (fun j => (ps[j]?).getD 0) ((List.range prs.length).map fun j => (uf j, ((prs[j]?).map (·.2)).getD .none))
            rw [hlen2] at PA
            exact fin _ _ _ _ _ PA ⟨⟨o, n, ho, hcl, hd, hdat⟩, pit its ei⟩ rfl hpl
          · obtain ⟨hoa, _, its, rv2, o2, ho2, hc2, n2, hd2⟩ := (show ObjOk X.prog X.w H s.heap a (.frz o (.tup (ps.map V.ref))) from I.hok a _ hq)
            rw [hoa] at ho2
            cases ho2
            have ei := refs_at rv2
            have PA := PairArg.tuple (prog := X.prog) (w := X.w) a its.toArray (fun j => (ps[j]?).getD 0) ((List.range prs.length).map fun j => (uf j, ((prs[j]?).map (·.2)).getD .none))
            rw [hlen2] at PA
            exact fin _ _ _ _ _ PA ⟨⟨o, n2, hoa, hc2, hod, hd2⟩, pit its ei⟩ rfl hpl
        · cases e
      · cases e
    · cases e
  · cases e
end
end PyD

set_option Elab.async false
set_option linter.all false
set_option maxRecDepth 100000
set_option maxHeartbeats 4000000
/-! Readings of the evaluator's kind, one rule a construct. -/
namespace PyD
open PySem PySem.Spec L2

/-- what a def promises: what the oracle says -/
def spD (g : G) (cl : Oracle) (ar : Nat) (f : Str) : Sp := fun vs H Q E => vs.length = ar ∧ ∃ B xs μ ι, MemRel (g.b B) H ι μ ∧ RepL (g.b B) H ι xs vs ∧
  post (fun H' ι' d v => Rep (g.b B) H' ι' d v) (g.b B) (fun c H' => ∀ cv, g.mg c = some cv → E cv none H') H ι (cl f xs μ) Q
/-- the defs keep what the oracle says -/
def Facts (P : Program) (w : World) (K : PySem.W.Frag) (mg : Str → Option Value) (base : Heap) (g : G) (cl : Oracle) (fns : Str → Option Fn) (n : Nat) : Prop :=
  ∀ f F, fns f = some F → ∃ (fa : Addr) (fd : FuncData) (ps : List Str), mg f = some (.ref fa) ∧ PySem.W.keepIn K (.ref fa) = true ∧ Binds K fd ps [] ∧ FnOk P w K mg base (L2.CX P w) (n + 1) fa fd ps (spD g cl F.ar f)
/-- an exception's wish by names of classes -/
def WXof (g : G) (W : Str → Sl → Hp → Prop) : WX := fun cls d σ H => ∃ c, g.mg c = some cls ∧ d = none ∧ W c σ H

structure Cok (g : G) (cl : Oracle) (fns : Str → Option Fn) (gc : Consts) (n : Nat) (W : Str → Sl → Hp → Prop) (cc : CC) (X : Cx) : Prop where
  calm : X.calm = true
  hN : X.N = cc.N
  nd : cc.N.Nodup
  sc : X.env.scope = cc.sc
  hK : X.K = g.K
  hM : X.mg = g.mg
  room : Room (n + 1) X.A
  facts : Facts X.prog X.w X.K X.mg X.base g cl fns n
  bn : ∀ b ∈ cc.bn, g.mg b = none
  gc : ∀ x d, gc x = some d → ∃ u v, g.mg x = some u ∧ RelV v u ∧ ∀ B H ι, Rep (g.b B) H ι d v
  tk : Takes X (WXof g W)
  fn : ∀ x, cc.fnb x = true → X.fn x = true
  fs : ∀ f ∈ cc.fs, (fns f).isSome = true

def TO (g : G) (W : Str → Sl → Hp → Prop) (f : Env → Store → R Out) : TE := fun σ H Q => ∃ B ρ μ ι, At (g.b B) σ H ρ ι μ ∧ postO (g.b B) (fun c H' => W c σ H') H ι (f ρ μ) Q
def TD (g : G) (W : Str → Sl → Hp → Prop) (f : Env → Store → R D) : TE := fun σ H Q => ∃ B ρ μ ι, At (g.b B) σ H ρ ι μ ∧ post (Rep (g.b B)) (g.b B) (fun c H' => W c σ H') H ι (f ρ μ) Q
def TB (g : G) (W : Str → Sl → Hp → Prop) (f : Env → Store → R Bool) : TT := fun σ H Q => ∃ B ρ μ ι, At (g.b B) σ H ρ ι μ ∧ post (fun _ _ a b => a = b) (g.b B) (fun c H' => W c σ H') H ι (f ρ μ) Q
def TL (g : G) (W : Str → Sl → Hp → Prop) (f : Env → Store → R (List D)) : TA := fun σ H Q => ∃ B ρ μ ι, At (g.b B) σ H ρ ι μ ∧ post (RepL (g.b B)) (g.b B) (fun c H' => W c σ H') H ι (f ρ μ) Q

theorem _root_.L2.PE.imp {X : Cx} {e : Expr} {t t' : TE} (h : PE X e t) (k : ∀ σ H Q, t' σ H Q → t σ H Q) : PE X e t' := ⟨fun pins s σ H Q I q => h.run pins s σ H Q I (k σ H Q q)⟩
theorem _root_.L2.PT.imp {X : Cx} {e : Expr} {t t' : TT} (h : PT X e t) (k : ∀ σ H Q, t' σ H Q → t σ H Q) : PT X e t' := ⟨fun pins s σ H Q I q => h.run pins s σ H Q I (k σ H Q q)⟩
theorem _root_.L2.PW.imp {X : Cx} {e : Expr} {t t' : TT} (h : PW X e t) (k : ∀ σ H Q, t' σ H Q → t σ H Q) : PW X e t' := ⟨fun wh pins s σ H Q I q => h.run wh pins s σ H Q I (k σ H Q q)⟩
theorem _root_.L2.PA.imp {X : Cx} {es : List Expr} {t t' : TA} (h : PA X es t) (k : ∀ σ H Q, t' σ H Q → t σ H Q) : PA X es t' := ⟨fun pos pins s σ H Q I q => h.run pos pins s σ H Q I (k σ H Q q)⟩
theorem _root_.L2.PS.imp {X : Cx} {st : Stmt} {t t' : TS} (h : PS X st t) (k : ∀ D σ H, t' D σ H → t D σ H) : PS X st t' := ⟨fun pins s σ H D I q => h.run pins s σ H D I (k D σ H q)⟩
theorem _root_.L2.PSs.imp {X : Cx} {st : List Stmt} {t t' : TS} (h : PSs X st t) (k : ∀ D σ H, t' D σ H → t D σ H) : PSs X st t' := ⟨fun pins s σ H D I q => h.run pins s σ H D I (k D σ H q)⟩

section
variable {g : G} {W : Str → Hp → Prop} {H H' : Hp} {ι ι' : List Addr} {Q Q' : VK}
theorem postO.mono {r : R Out} (h : postO g W H ι r Q) (x : Ext H ι H' ι') : postO g W H' ι' r Q := by
  cases r with
  | ok o μ =>
    cases o with
    | v d => exact fun v H2 ι2 y m q => h v H2 ι2 (x.trans y) m q
    | f mm =>
      have fr : ∀ {a H2 ι2}, Ext H' ι' H2 ι2 → H' a = none → MemRel (g.b (a :: g.B)) H2 ι2 μ → H a = none := fun {a H2 ι2} y hn m => by
        cases e : H a with
        | none => rfl
        | some o =>
          have na : a ∉ ι := fun z => by
            obtain ⟨l, e1⟩ := x.pre
            obtain ⟨l2, e2⟩ := y.pre
            exact m.nb a (by simp) (by rw [e2, e1]; simp [z])
          rw [(x.keep a o e na).1] at hn
          cases hn
      cases mm with
      | ro _ => exact h
      | lst _ => exact fun a H2 ι2 y nb hn m q => h a H2 ι2 (x.trans y) nb (fr y hn m) m q
      | dct _ _ _ => exact fun a H2 ι2 y nb hn m q => h a H2 ι2 (x.trans y) nb (fr y hn m) m q
  | exc c μ => exact fun H2 ι2 y m => h H2 ι2 (x.trans y) m
  | bad => exact h
theorem postO.bind {α β : Type} {rep : Hp → List Addr → α → β → Prop} {r : R α} {k : α → Store → R Out} (h : postO g W H ι (r.bind k) Q) :
    post rep g W H ι r (fun b H1 => ∃ a μ1 ι1, Ext H ι H1 ι1 ∧ MemRel g H1 ι1 μ1 ∧ rep H1 ι1 a b ∧ postO g W H1 ι1 (k a μ1) Q) := by
  cases r with
  | ok a μ' => exact fun b H2 ι2 y m q => ⟨a, μ', ι2, y, m, q, postO.mono (show postO g W H ι (k a μ') Q from h) y⟩
  | exc c μ' => exact h
  | bad => exact h
/-- a new object as a value -/
theorem new_val {mm : M} {a : Addr} {μ : Store} (hn : ∀ ds, mm ≠ .ro ds) (nb : a ∉ g.B) (m : MemRel (g.b (a :: g.B)) H ι μ) (q : RepObj (g.b (a :: g.B)) H ι mm a) : MemRel g H ι μ ∧ Rep g H ι mm.dat (.ref a) := by
  have hB : ∀ b ∈ g.B, b ∈ (g.b (a :: g.B)).B := fun b hb => List.mem_cons_of_mem _ hb
  have na : a ∉ ι := m.nb a (by simp)
  refine ⟨MemRel.less (g := g.b (a :: g.B)) (B := g.B) hB m, ?_⟩
  have L : ∀ {ds vs}, RepL (g.b (a :: g.B)) H ι ds vs → RepL g H ι ds vs := fun r => RepL.less (g := g.b (a :: g.B)) (B := g.B) hB r
  cases q with
  | lst h r => exact .lst h na nb (L r)
  | dctK h k r => exact .dctK h na nb k (L r)
  | dctT h k r => exact .dctT h na nb k (L r)
  | ro _ _ => exact absurd rfl (hn _)
theorem postO.dat {r : R Out} (h : post (Rep g) g W H ι r.dat Q) : postO g W H ι r Q := by
  cases r with
  | ok o μ =>
    cases o with
    | v d => exact h
    | f mm =>
      cases mm with
      | ro ds => exact h
      | lst ds =>
        intro a H2 ι2 y nb hn m q
        obtain ⟨m2, q2⟩ := new_val (by intro _ z; cases z) nb m q
        exact h _ H2 ι2 y m2 q2
      | dct t ks ds =>
        intro a H2 ι2 y nb hn m q
        obtain ⟨m2, q2⟩ := new_val (by intro _ z; cases z) nb m q
        exact h _ H2 ι2 y m2 q2
  | exc c μ => exact h
  | bad => exact h
theorem post.up {r : R D} (h : postO g W H ι (r.map .v) Q) : post (Rep g) g W H ι r Q := by
  cases r with
  | ok d μ => exact h
  | exc c μ => exact h
  | bad => exact h
end

section
variable {g : G} {W : Str → Sl → Hp → Prop} {X : Cx} {e : Expr}
theorem _root_.L2.PE.dat {f : Env → Store → R Out} (h : PE X e (TO g W f)) : PE X e (TD g W fun ρ μ => (f ρ μ).dat) :=
  h.imp fun σ H Q ⟨B, ρ, μ, ι, a, q⟩ => ⟨B, ρ, μ, ι, a, postO.dat q⟩
theorem _root_.L2.PE.up {f : Env → Store → R D} (h : PE X e (TD g W f)) : PE X e (TO g W fun ρ μ => (f ρ μ).map .v) :=
  h.imp fun σ H Q ⟨B, ρ, μ, ι, a, q⟩ => ⟨B, ρ, μ, ι, a, post.up q⟩
/-- what follows a part -/
theorem td_bind {f : Env → Store → R D} {k : D → Store → R Out} {σ : Sl} {H : Hp} {B : List Addr} {ρ : Env} {μ : Store} {ι : List Addr} {Q : VK} (a : At (g.b B) σ H ρ ι μ) (h : postO (g.b B) (fun c H' => W c σ H') H ι ((f ρ μ).bind k) Q) :
    TD g W f σ H (fun v H1 => ∃ d μ1 ι1, Ext H ι H1 ι1 ∧ At (g.b B) σ H1 ρ ι1 μ1 ∧ Rep (g.b B) H1 ι1 d v ∧ postO (g.b B) (fun c H' => W c σ H') H1 ι1 (k d μ1) Q) :=
  ⟨B, ρ, μ, ι, a, (h.bind (rep := Rep (g.b B))).imp fun v H1 ⟨d, μ1, ι1, x, m, r, q⟩ => ⟨d, μ1, ι1, x, a.next x m, r, q⟩⟩
theorem tl_bind {f : Env → Store → R (List D)} {k : List D → Store → R Out} {σ : Sl} {H : Hp} {B : List Addr} {ρ : Env} {μ : Store} {ι : List Addr} {Q : VK} (a : At (g.b B) σ H ρ ι μ) (h : postO (g.b B) (fun c H' => W c σ H') H ι ((f ρ μ).bind k) Q) :
    TL g W f σ H (fun v H1 => ∃ d μ1 ι1, Ext H ι H1 ι1 ∧ At (g.b B) σ H1 ρ ι1 μ1 ∧ RepL (g.b B) H1 ι1 d v ∧ postO (g.b B) (fun c H' => W c σ H') H1 ι1 (k d μ1) Q) :=
  ⟨B, ρ, μ, ι, a, (h.bind (rep := RepL (g.b B))).imp fun v H1 ⟨d, μ1, ι1, x, m, r, q⟩ => ⟨d, μ1, ι1, x, a.next x m, r, q⟩⟩
theorem tb_bind {f : Env → Store → R Bool} {k : Bool → Store → R Out} {σ : Sl} {H : Hp} {B : List Addr} {ρ : Env} {μ : Store} {ι : List Addr} {Q : VK} (a : At (g.b B) σ H ρ ι μ) (h : postO (g.b B) (fun c H' => W c σ H') H ι ((f ρ μ).bind k) Q) :
    TB g W f σ H (fun b H1 => ∃ μ1 ι1, Ext H ι H1 ι1 ∧ At (g.b B) σ H1 ρ ι1 μ1 ∧ postO (g.b B) (fun c H' => W c σ H') H1 ι1 (k b μ1) Q) :=
  ⟨B, ρ, μ, ι, a, (h.bind (rep := fun _ _ a b => a = b)).imp fun v H1 ⟨d, μ1, ι1, x, m, r, q⟩ => ⟨μ1, ι1, x, a.next x m, by rw [← r]; exact q⟩⟩
theorem postO.ofOpt {W : Str → Hp → Prop} {H : Hp} {ι : List Addr} {o : Option Out} {μ : Store} {Q : VK} (h : postO g W H ι (R.ofOpt o μ) Q) : ∃ x, o = some x ∧ postO g (fun _ _ => False) H ι (.ok x μ) Q := by
  cases o with
  | none => exact h.elim
  | some x =>
    cases x with
    | v d => exact ⟨_, rfl, h⟩
    | f mm => cases mm <;> exact ⟨_, rfl, h⟩
variable {a b : Expr} {pos : Pos} {fa fb : Env → Store → R D}
theorem se_bin {op : Operator} (hK : X.K = g.K) (ha : PE X a (TD g W fa)) (hb : PE X b (TD g W fb)) : PE X (.BinOp a op b pos) (TO g W fun ρ μ => (fa ρ μ).bind fun x μ => (fb ρ μ).bind fun y μ => R.ofOpt (binD op μ x y) μ) :=
  (pe_op (or_bin hK op) ha hb).imp fun σ H Q ⟨B, ρ, μ, ι, at0, q⟩ => (by
    obtain ⟨B1, ρ1, μ1, ι1, a1, q1⟩ := td_bind (W := W) at0 q
    refine ⟨B1, ρ1, μ1, ι1, a1, q1.imp fun v H1 ⟨d, μ2, ι2, x2, a2, r2, q2⟩ => ?_⟩
    obtain ⟨B3, ρ3, μ3, ι3, a3, q3⟩ := td_bind (W := W) a2 q2
    refine ⟨B3, ρ3, μ3, ι3, a3, q3.imp fun u H3 ⟨d', μ4, ι4, x4, a4, r4, q4⟩ => ?_⟩
    obtain ⟨o, e, q5⟩ := q4.ofOpt
    exact ⟨B, μ4, ι4, d, d', o, a4.m, r2.mono x4 a2.m.wf, r4, e, q5⟩)

/-! ### names, constants -/
variable {cl : Oracle} {fns : Str → Option Fn} {gc : Consts} {n : Nat} {cc : CC}
theorem lookupI {sc : Scope} {x : Str} (h : isV sc x = true) : Vis sc x := by
  unfold isV at h
  split at h
  · exact .inl (by assumption)
  · exact .inr (.inl (by assumption))
  · exact .inr (.inr (by assumption))
  · cases h
theorem glI {sc : Scope} {x : Str} (h : isGl sc x = true) : sc.names.lookup x = some .globalImplicit := by
  unfold isGl at h
  split at h
  · assumption
  · cases h
theorem plainI {x : Str} (h : plainN x = true) : (x == ("__debug__" : Str)) = false ∧ (x == ("__classdict__" : Str)) = false := by
  unfold plainN at h
  simp only [Bool.and_eq_true, Bool.not_eq_true'] at h
  exact h
theorem Cok.gl {x : Str} (C : Cok g cl fns gc n W cc X) (h : isGl cc.sc x = true) : Gl X x := by
  show X.env.scope.names.lookup x = some .globalImplicit
  rw [C.sc]
  exact glI h
structure BltI (X : Cx) (x : Str) : Prop where
  gl : Gl X x
  mg : X.mg x = none
  ne : x ≠ "__name__"
  db : (x == ("__debug__" : Str)) = false
theorem Cok.blt {x : Str} (C : Cok g cl fns gc n W cc X) (h : isBlt cc x = true) : BltI X x := by
  unfold isBlt at h
  simp only [Bool.and_eq_true, decide_eq_true_eq] at h
  obtain ⟨⟨⟨h1, h2⟩, h3⟩, h4⟩ := h
  exact ⟨C.gl h1, by rw [C.hM]; exact C.bn x h3, h4, (plainI h2).1⟩
theorem se_var {i : Nat} {x : Str} (C : Cok g cl fns gc n W cc X) (h : slotIs cc i x = true) (hv : isV cc.sc x = true) : PE X (.Name x pos) (TO g W (evO cl gc (.var i))) := by
  unfold slotIs at h
  rw [Bool.and_eq_true, decide_eq_true_eq] at h
  have hp := plainI h.2
  refine (pe_var (i := i) (by rw [C.hN]; exact h.1) (by rw [C.sc]; exact lookupI hv) hp.1 hp.2).imp fun σ H Q ⟨B, ρ, μ, ι, a, q⟩ => ?_
  simp only [evO] at q
  split at q
  · rename_i d e
    obtain ⟨v, e1, r⟩ := a.s.at_ i d e
    exact ⟨v, e1, q v H ι Ext.refl a.m r⟩
  · exact q.elim
theorem se_const {d : D} {v : V} (h : PE X e (tC v)) (r : ∀ B H ι, Rep (g.b B) H ι d v) : PE X e (TO g W fun _ μ => .ok (.v d) μ) :=
  h.imp fun σ H Q ⟨B, ρ, μ, ι, a, q⟩ => q v H ι Ext.refl a.m (r _ _ _)
theorem se_glb {x : Str} (C : Cok g cl fns gc n W cc X) (h : isGl cc.sc x = true) (hp : plainN x = true) : PE X (.Name x pos) (TO g W (evO cl gc (.glb x))) := by
  cases e : gc x with
  | none =>
    refine ⟨fun pins s σ H Q I ⟨B, ρ, μ, ι, a, q⟩ => ?_⟩
    simp only [evO, e] at q
    exact q.elim
  | some d =>
    obtain ⟨u, v, h1, h2, h3⟩ := C.gc x d e
    refine (pe_glob (C.gl h) (by rw [C.hM]; exact h1) h2 (plainI hp).1).imp fun σ H Q ⟨B, ρ, μ, ι, a, q⟩ => ?_
    simp only [evO, e] at q
    exact q v H ι Ext.refl a.m (h3 _ _ _)
/-! ### unary, comparisons -/
theorem se_neg (ha : PE X a (TD g W fa)) : PE X (.UnaryOp .USub a pos) (TO g W fun ρ μ => (fa ρ μ).bind fun x μ => match x with | .int i => .ok (.v (.int (-i))) μ | _ => .bad) :=
  (pe_un un_neg ha).imp fun σ H Q ⟨B, ρ, μ, ι, at0, q⟩ => (by
    obtain ⟨B1, ρ1, μ1, ι1, a1, q1⟩ := td_bind (W := W) at0 q
    refine ⟨B1, ρ1, μ1, ι1, a1, q1.imp fun v H1 ⟨d, μ2, ι2, x2, a2, r2, q2⟩ => ?_⟩
    split at q2
    · cases r2
      exact ⟨_, rfl, end_v q2 a2.m (.int _)⟩
    · exact q2.elim)
def fCmp (fa fb : Env → Store → R D) (op : CmpOp) : Env → Store → R Bool := fun ρ μ => (fa ρ μ).bind fun x μ => (fb ρ μ).bind fun y μ => R.ofOpt (cmpD op μ x y) μ
theorem post.ofOpt {α β : Type} {rep : Hp → List Addr → α → β → Prop} {W : Str → Hp → Prop} {H : Hp} {ι : List Addr} {o : Option α} {μ : Store} {Q : β → Hp → Prop} (h : post rep g W H ι (R.ofOpt o μ) Q) : ∃ x, o = some x ∧ post rep g W H ι (.ok x μ) Q := by
  cases o with
  | none => exact h.elim
  | some x => exact ⟨_, rfl, h⟩
/-- what follows a part, any kind of end -/
theorem td_bindG {α β : Type} {rep : G → Hp → List Addr → α → β → Prop} {f : Env → Store → R D} {k : D → Store → R α} {σ : Sl} {H : Hp} {B : List Addr} {ρ : Env} {μ : Store} {ι : List Addr} {Q : β → Hp → Prop} (a : At (g.b B) σ H ρ ι μ) (h : post (rep (g.b B)) (g.b B) (fun c H' => W c σ H') H ι ((f ρ μ).bind k) Q) :
    TD g W f σ H (fun v H1 => ∃ d μ1 ι1, Ext H ι H1 ι1 ∧ At (g.b B) σ H1 ρ ι1 μ1 ∧ Rep (g.b B) H1 ι1 d v ∧ post (rep (g.b B)) (g.b B) (fun c H' => W c σ H') H1 ι1 (k d μ1) Q) :=
  ⟨B, ρ, μ, ι, a, (post.bind (rep := Rep (g.b B)) h).imp fun v H1 ⟨d, μ1, ι1, x, m, r, q⟩ => ⟨d, μ1, ι1, x, a.next x m, r, q⟩⟩
theorem bool_end {W : Str → Hp → Prop} {H : Hp} {ι : List Addr} {b : Bool} {μ : Store} {Q : Bool → Hp → Prop} (h : post (fun _ _ a b => a = b) g W H ι (.ok b μ) Q) (m : MemRel g H ι μ) : Q b H := h b H ι Ext.refl m rfl
theorem se_cmp {op : CmpOp} (C : Cok g cl fns gc n W cc X) (hs : notSet b = true) (ha : PE X a (TD g W fa)) (hb : PE X b (TD g W fb)) : PE X (.Compare a [op] [b] pos) (TO g W fun ρ μ => (fa ρ μ).bind fun x μ => (fb ρ μ).bind fun y μ => (R.ofOpt (cmpD op μ x y) μ).map fun b => .v (.bl b)) := by
  have hm : behindInMarks op b = false := by cases b <;> first | rfl | cases hs
  refine (pe_cmpR (or_cmp C.hK C.room op) ha hb hm).imp fun σ H Q ⟨B, ρ, μ, ι, at0, q⟩ => ?_
  obtain ⟨B1, ρ1, μ1, ι1, a1, q1⟩ := td_bind (W := W) at0 q
  refine ⟨B1, ρ1, μ1, ι1, a1, q1.imp fun v H1 ⟨d, μ2, ι2, x2, a2, r2, q2⟩ => ?_⟩
  obtain ⟨B3, ρ3, μ3, ι3, a3, q3⟩ := td_bind (W := W) a2 q2
  refine ⟨B3, ρ3, μ3, ι3, a3, q3.imp fun u H3 ⟨d', μ4, ι4, x4, a4, r4, q4⟩ => ?_⟩
  cases e : cmpD op μ4 d d' with
  | none => rw [e] at q4; exact q4.elim
  | some k =>
    rw [e] at q4
    exact ⟨B, μ4, ι4, d, d', k, a4.m, r2.mono x4 a2.m.wf, r4, e, end_v q4 a4.m (.bl _)⟩
theorem st_cmp {op : CmpOp} (C : Cok g cl fns gc n W cc X) (hs : notSet b = true) (ha : PE X a (TD g W fa)) (hb : PE X b (TD g W fb)) : PT X (.Compare a [op] [b] pos) (TB g W (fCmp fa fb op)) := by
  have hm : behindInMarks op b = false := by cases b <;> first | rfl | cases hs
  refine (pt_cmpR (or_cmp C.hK C.room op) ha hb hm).imp fun σ H Q ⟨B, ρ, μ, ι, at0, q⟩ => ?_
  obtain ⟨B1, ρ1, μ1, ι1, a1, q1⟩ := td_bindG (W := W) (rep := fun _ _ _ a b => a = b) at0 q
  refine ⟨B1, ρ1, μ1, ι1, a1, q1.imp fun v H1 ⟨d, μ2, ι2, x2, a2, r2, q2⟩ => ?_⟩
  obtain ⟨B3, ρ3, μ3, ι3, a3, q3⟩ := td_bindG (W := W) (rep := fun _ _ _ a b => a = b) a2 q2
  refine ⟨B3, ρ3, μ3, ι3, a3, q3.imp fun u H3 ⟨d', μ4, ι4, x4, a4, r4, q4⟩ => ?_⟩
  obtain ⟨k, e, q5⟩ := post.ofOpt q4
  exact ⟨B, μ4, ι4, d, d', k, a4.m, r2.mono x4 a2.m.wf, r4, e, k, rfl, bool_end q5 a4.m⟩

/-! ### chains -/
theorem td_of {f : Env → Store → R D} {σ : Sl} {H : Hp} {B : List Addr} {ρ : Env} {μ : Store} {ι : List Addr} {Q : VK} (a : At (g.b B) σ H ρ ι μ) (h : post (Rep (g.b B)) (g.b B) (fun c H' => W c σ H') H ι (f ρ μ) Q) : TD g W f σ H Q := ⟨B, ρ, μ, ι, a, h⟩
theorem se_chain {o1 o2 : CmpOp} {c : Expr} {fc : Env → Store → R D} (C : Cok g cl fns gc n W cc X) (hs2 : notSet c = true) (ha : PE X a (TD g W fa)) (hb : PE X b (TD g W fb)) (hc : PE X c (TD g W fc)) :
    PE X (.Compare a [o1, o2] [b, c] pos) (TO g W fun ρ μ => (fa ρ μ).bind fun x μ => (fb ρ μ).bind fun y μ => (R.ofOpt (cmpD o1 μ x y) μ).bind fun k μ => if k then (fc ρ μ).bind fun z μ => (R.ofOpt (cmpD o2 μ y z) μ).map fun b => .v (.bl b) else .ok (.v (.bl false)) μ) := by
  refine (pe_chain (or_cmp C.hK C.room o1) (or_cmp C.hK C.room o2) ha hb hc (by cases c <;> first | rfl | cases hs2)).imp fun σ H Q ⟨B, ρ, μ, ι, at0, q⟩ => ?_
  obtain ⟨B1, ρ1, μ1, ι1, a1, q1⟩ := td_bind (W := W) at0 q
  refine ⟨B1, ρ1, μ1, ι1, a1, q1.imp fun v H1 ⟨d, μ2, ι2, x2, a2, r2, q2⟩ => ?_⟩
  obtain ⟨B3, ρ3, μ3, ι3, a3, q3⟩ := td_bind (W := W) a2 q2
  refine ⟨B3, ρ3, μ3, ι3, a3, q3.imp fun u H3 ⟨d', μ4, ι4, x4, a4, r4, q4⟩ => ?_⟩
  cases e : cmpD o1 μ4 d d' with
  | none => rw [e] at q4; exact q4.elim
  | some k =>
    rw [e] at q4
    refine ⟨B, μ4, ι4, d, d', k, a4.m, r2.mono x4 a2.m.wf, r4, e, k, rfl, ?_⟩
    cases k with
    | false =>
      simp only [R.ofOpt, R.bind, Bool.false_eq_true, if_false] at q4 ⊢
      exact end_v q4 a4.m (.bl _)
    | true =>
      simp only [R.ofOpt, if_true] at q4 ⊢
      obtain ⟨B5, ρ5, μ5, ι5, a5, q5⟩ := td_bind (W := W) a4 (show postO (g.b B) (fun c H' => W c σ H') H3 ι4 ((fc ρ μ4).bind fun z μ => (R.ofOpt (cmpD o2 μ d' z) μ).map fun b => .v (.bl b)) Q from q4)
      refine ⟨B5, ρ5, μ5, ι5, a5, q5.imp fun z H5 ⟨d'', μ6, ι6, x6, a6, r6, q6⟩ => ?_⟩
      cases e2 : cmpD o2 μ6 d' d'' with
      | none => rw [e2] at q6; exact q6.elim
      | some k =>
        rw [e2] at q6
        exact ⟨B, μ6, ι6, d', d'', k, a6.m, r4.mono x6 a4.m.wf, r6, e2, end_v q6 a6.m (.bl _)⟩
/-- a value that is a bool, as a test -/
theorem st_val {f : Env → Store → R D} (h : PE X e (TD g W f)) (he : ∀ whole, isTrue e X.env whole = (do let v ← whole; standAt e.pos; holding [v] (truthy v))) : PT X e (TB g W fun ρ μ => (f ρ μ).bool) :=
  (pt_val h he).imp fun σ H Q ⟨B, ρ, μ, ι, at0, q⟩ => (by
    obtain ⟨B1, ρ1, μ1, ι1, a1, q1⟩ := td_bindG (W := W) (rep := fun _ _ _ a b => a = b) at0 q
    refine ⟨B1, ρ1, μ1, ι1, a1, q1.imp fun v H1 ⟨d, μ2, ι2, x2, a2, r2, q2⟩ => ?_⟩
    split at q2
    · cases r2
      exact ⟨_, rfl, bool_end q2 a2.m⟩
    · exact q2.elim)
theorem TB.eq {f f' : Env → Store → R Bool} (h : PT X e (TB g W f)) (k : ∀ ρ μ, f' ρ μ = f ρ μ) : PT X e (TB g W f') := by
  have : f' = f := by funext ρ μ; exact k ρ μ
  rw [this]
  exact h
theorem TO.eq {f f' : Env → Store → R Out} (h : PE X e (TO g W f)) (k : ∀ ρ μ, f' ρ μ = f ρ μ) : PE X e (TO g W f') := by
  have : f' = f := by funext ρ μ; exact k ρ μ
  rw [this]
  exact h
/-- a chain of two as a test -/
theorem st_chain {o1 o2 : CmpOp} {c : Expr} {fc : Env → Store → R D} (C : Cok g cl fns gc n W cc X) (hs2 : notSet c = true) (ha : PE X a (TD g W fa)) (hb : PE X b (TD g W fb)) (hc : PE X c (TD g W fc)) :
    PT X (.Compare a [o1, o2] [b, c] pos) (TB g W fun ρ μ => (fa ρ μ).bind fun x μ => (fb ρ μ).bind fun y μ => (R.ofOpt (cmpD o1 μ x y) μ).bind fun k μ => if k then (fc ρ μ).bind fun z μ => R.ofOpt (cmpD o2 μ y z) μ else .ok false μ) := by
  refine (pt_chain (or_cmp C.hK C.room o1) (or_cmp C.hK C.room o2) ha hb hc (by cases c <;> first | rfl | cases hs2)).imp fun σ H Q ⟨B, ρ, μ, ι, at0, q⟩ => ?_
  obtain ⟨B1, ρ1, μ1, ι1, a1, q1⟩ := td_bindG (W := W) (rep := fun _ _ _ a b => a = b) at0 q
  refine ⟨B1, ρ1, μ1, ι1, a1, q1.imp fun v H1 ⟨d, μ2, ι2, x2, a2, r2, q2⟩ => ?_⟩
  obtain ⟨B3, ρ3, μ3, ι3, a3, q3⟩ := td_bindG (W := W) (rep := fun _ _ _ a b => a = b) a2 q2
  refine ⟨B3, ρ3, μ3, ι3, a3, q3.imp fun u H3 ⟨d', μ4, ι4, x4, a4, r4, q4⟩ => ?_⟩
  cases e : cmpD o1 μ4 d d' with
  | none => rw [e] at q4; exact q4.elim
  | some k =>
    rw [e] at q4
    refine ⟨B, μ4, ι4, d, d', k, a4.m, r2.mono x4 a2.m.wf, r4, e, k, rfl, ?_⟩
    cases k with
    | false =>
      simp only [R.ofOpt, R.bind, Bool.false_eq_true, if_false] at q4 ⊢
      first
        | exact bool_end q4 a4.m
        | exact ⟨_, rfl, bool_end q4 a4.m⟩
    | true =>
      simp only [R.ofOpt, if_true] at q4 ⊢
      obtain ⟨B5, ρ5, μ5, ι5, a5, q5⟩ := td_bindG (W := W) (rep := fun _ _ _ a b => a = b) a4 (show post (fun _ _ a b => a = b) (g.b B) (fun c H' => W c σ H') H3 ι4 ((fc ρ μ4).bind fun z μ => R.ofOpt (cmpD o2 μ d' z) μ) Q from q4)
      refine ⟨B5, ρ5, μ5, ι5, a5, q5.imp fun z H5 ⟨d'', μ6, ι6, x6, a6, r6, q6⟩ => ?_⟩
      cases e2 : cmpD o2 μ6 d' d'' with
      | none => rw [e2] at q6; exact q6.elim
      | some k =>
        rw [e2] at q6
        exact ⟨B, μ6, ι6, d', d'', k, a6.m, r4.mono x6 a4.m.wf, r6, e2, k, rfl, bool_end q6 a6.m⟩
end
end PyD

set_option Elab.async false
set_option linter.all false
set_option maxRecDepth 100000
set_option maxHeartbeats 4000000
/-! Calls, displays, methods. -/
namespace PyD
open PySem PySem.Spec L2

/-! ### behind a call -/
mutual
theorem Rep.shrink {g : G} {H : Hp} {ι : List Addr} {n0 : Nat} {B' : List Addr} (hB : ∀ b ∈ B', b ∈ ι) : ∀ {d : D} {v : V}, Rep g H ι d v → d.under n0 = true → Rep (g.b (B' ++ g.B)) H (ι.take n0) d v
  | _, _, .non, _ => .non
  | _, _, .bl b, _ => .bl b
  | _, _, .int b, _ => .int b
  | _, _, .str b, _ => .str b
  | _, _, .tup h r, u => .tup h (RepL.shrink hB r (by simpa [D.under] using u))
  | _, _, .pair h r, u => .pair h (RepL.shrink hB r (by simpa [D.under] using u))
  | _, _, .lst h n b r, u => .lst h (fun z => n (List.mem_of_mem_take z)) (fun z => (List.mem_append.mp z).elim (fun z => n (hB _ z)) b) (RepL.shrink hB r (by simpa [D.under] using u))
  | _, _, .dctK h n b k r, u => .dctK h (fun z => n (List.mem_of_mem_take z)) (fun z => (List.mem_append.mp z).elim (fun z => n (hB _ z)) b) k (RepL.shrink hB r (by simpa [D.under] using u))
  | _, _, .dctT h n b k r, u => .dctT h (fun z => n (List.mem_of_mem_take z)) (fun z => (List.mem_append.mp z).elim (fun z => n (hB _ z)) b) k (RepL.shrink hB r (by simpa [D.under] using u))
  | _, _, .ref (n := n) h, u => .ref (by
      have : n < n0 := by simpa [D.under] using u
      rw [List.getElem?_take_of_lt this]
      exact h)
  | _, _, .glb h, _ => .glb h
  | _, _, .ktup h r, u => .ktup h (RepL.shrink hB r (by simpa [D.under] using u))
theorem RepL.shrink {g : G} {H : Hp} {ι : List Addr} {n0 : Nat} {B' : List Addr} (hB : ∀ b ∈ B', b ∈ ι) : ∀ {ds : List D} {vs : List V}, RepL g H ι ds vs → underL n0 ds = true → RepL (g.b (B' ++ g.B)) H (ι.take n0) ds vs
  | _, _, .nil, _ => .nil
  | _, _, .cons a r, u => by
    rw [underL, Bool.and_eq_true] at u
    exact .cons (Rep.shrink hB a u.1) (RepL.shrink hB r u.2)
end
section
variable {g : G} {H : Hp} {ι : List Addr} {μ : Store} {n0 : Nat}
theorem MemRel.shrink {B' : List Addr} (hB : ∀ b ∈ B', b ∈ ι ∧ b ∉ ι.take n0) (m : MemRel g H ι μ) (u : (μ.take n0).all (M.under n0) = true) : MemRel (g.b (B' ++ g.B)) H (ι.take n0) (μ.take n0) := by
  refine ⟨by rw [List.length_take, List.length_take, m.len], m.nd.sublist (List.take_sublist _ _), fun b hb => ?_, fun b hb => ?_, fun n mk e => ?_⟩
  · rcases List.mem_append.mp hb with z | z
    · exact (hB b z).2
    · exact fun y => m.nb b z (List.mem_of_mem_take y)
  · rcases List.mem_append.mp hb with z | z
    · obtain ⟨k, mk, _, _, q⟩ := m.mem (hB b z).1
      obtain ⟨o, ho, t⟩ := q.some
      exact ⟨o, ho, t⟩
    · exact m.bs b z
  · have hu := List.all_eq_true.mp u mk (List.mem_of_getElem? e)
    have hn : n < n0 := by
      by_cases h : n < n0
      · exact h
      · rw [List.getElem?_eq_none (by rw [List.length_take]; omega)] at e
        cases e
    rw [List.getElem?_take_of_lt hn] at e
    obtain ⟨a, h1, h2⟩ := m.obj n mk e
    refine ⟨a, by rw [List.getElem?_take_of_lt hn]; exact h1, ?_⟩
    have hB1 : ∀ b ∈ B', b ∈ ι := fun b hb => (hB b hb).1
    cases h2 with
    | lst h q => exact .lst h (q.shrink hB1 hu)
    | dctK h k q => exact .dctK h k (q.shrink hB1 hu)
    | dctT h k q => exact .dctT h k (q.shrink hB1 hu)
    | ro h q => exact .ro h (q.shrink hB1 hu)
theorem notin_take (nd : ι.Nodup) {n : Nat} {a : Addr} (h : ι[n]? = some a) (hn : ¬ n < n0) : a ∉ ι.take n0 := fun z => by
  obtain ⟨k, hk, e⟩ := List.getElem_of_mem z
  have hk0 : k < n0 := by rw [List.length_take] at hk; omega
  have e2 : (ι.take n0)[k]? = some a := by rw [List.getElem?_eq_getElem hk, e]
  rw [List.getElem?_take_of_lt hk0] at e2
  have := nodup_at nd h e2
  omega
mutual
theorem fz_ok {look : Nat → Option D} (hl : ∀ n e, look n = some e → ∀ a, ι[n]? = some a → Rep g H (ι.take n0) e (.ref a)) : ∀ {d : D} {v : V}, Rep g H ι d v → ∀ {e : D}, fzD look d = some e → Rep g H (ι.take n0) e v
  | _, _, .non, e, h => by simp [fzD] at h; subst h; exact .non
  | _, _, .bl b, e, h => by simp [fzD] at h; subst h; exact .bl b
  | _, _, .int b, e, h => by simp [fzD] at h; subst h; exact .int b
  | _, _, .str b, e, h => by simp [fzD] at h; subst h; exact .str b
  | _, _, .glb b, e, h => by simp [fzD] at h; subst h; exact .glb b
  | _, _, .ref b, e, h => by simp only [fzD] at h; exact hl _ _ h _ b
  | _, _, .tup (ds := ds) h1 r, e, h => by
    rw [fzD, Option.map_eq_some_iff] at h
    obtain ⟨es, h2, rfl⟩ := h
    have r2 := fzs_ok hl r h2
    exact .tup (by rw [leafB_rep r2, ← leafB_rep r]; exact h1) r2
  | _, _, .pair (ds := ds) h1 r, e, h => by
    rw [fzD, Option.map_eq_some_iff] at h
    obtain ⟨es, h2, rfl⟩ := h
    exact .pair h1 (fzs_ok hl r h2)
  | _, _, .ktup (ds := ds) h1 r, e, h => by
    rw [fzD, Option.map_eq_some_iff] at h
    obtain ⟨es, h2, rfl⟩ := h
    exact .ktup h1 (fzs_ok hl r h2)
  | _, _, .lst (ds := ds) h1 n b r, e, h => by
    rw [fzD, Option.map_eq_some_iff] at h
    obtain ⟨es, h2, rfl⟩ := h
    exact .lst h1 (fun z => n (List.mem_of_mem_take z)) b (fzs_ok hl r h2)
  | _, _, .dctK (ds := ds) h1 n b k r, e, h => by
    rw [fzD, Option.map_eq_some_iff] at h
    obtain ⟨es, h2, rfl⟩ := h
    exact .dctK h1 (fun z => n (List.mem_of_mem_take z)) b k (fzs_ok hl r h2)
  | _, _, .dctT (ds := ds) h1 n b k r, e, h => by
    rw [fzD, Option.map_eq_some_iff] at h
    obtain ⟨es, h2, rfl⟩ := h
    exact .dctT h1 (fun z => n (List.mem_of_mem_take z)) b k (fzs_ok hl r h2)
theorem fzs_ok {look : Nat → Option D} (hl : ∀ n e, look n = some e → ∀ a, ι[n]? = some a → Rep g H (ι.take n0) e (.ref a)) : ∀ {ds : List D} {vs : List V}, RepL g H ι ds vs → ∀ {es : List D}, fzDs look ds = some es → RepL g H (ι.take n0) es vs
  | _, _, .nil, es, h => by simp [fzDs] at h; subst h; exact .nil
  | _, _, .cons (d := d) (ds := ds) a r, es, h => by
    rw [fzDs] at h
    cases q : fzD look d with
    | none => rw [q] at h; cases h
    | some e =>
      cases q2 : fzDs look ds with
      | none => rw [q, q2] at h; cases h
      | some es' =>
        rw [q, q2] at h
        cases h
        exact .cons (fz_ok hl a q) (fzs_ok hl r q2)
end
theorem fzR_ok (m : MemRel g H ι μ) : ∀ (k n : Nat) (e : D), fzR μ n0 k n = some e → ∀ a, ι[n]? = some a → Rep g H (ι.take n0) e (.ref a)
  | 0, n, e, h, a, ha => by
    unfold fzR at h
    split at h
    · rename_i hn
      cases h
      exact .ref (by rw [List.getElem?_take_of_lt hn]; exact ha)
    · cases h
  | k + 1, n, e, h, a, ha => by
    unfold fzR at h
    split at h
    · rename_i hn
      cases h
      exact .ref (by rw [List.getElem?_take_of_lt hn]; exact ha)
    · rename_i hn
      have na := notin_take (n0 := n0) m.nd ha hn
      have nB : a ∉ g.B := fun z => m.nb a z (List.mem_of_getElem? ha)
      split at h
      · rename_i ds hd
        rw [Option.map_eq_some_iff] at h
        obtain ⟨es, h2, rfl⟩ := h
        obtain ⟨a', h3, h4⟩ := m.obj _ _ hd
        rw [ha] at h3
        cases h3
        cases h4 with
        | lst h5 r => exact .lst h5 na nB (fzs_ok (fzR_ok m k) r h2)
      · rename_i t ks ds hd
        rw [Option.map_eq_some_iff] at h
        obtain ⟨es, h2, rfl⟩ := h
        obtain ⟨a', h3, h4⟩ := m.obj _ _ hd
        rw [ha] at h3
        cases h3
        cases h4 with
        | dctK h5 hk r => exact .dctK h5 na nB hk (fzs_ok (fzR_ok m k) r h2)
        | dctT h5 hk r => exact .dctT h5 na nB hk (fzs_ok (fzR_ok m k) r h2)
      · cases h
theorem take_pre {H1 : Hp} {ι1 : List Addr} (x : Ext H1 ι1 H ι) : ι.take ι1.length = ι1 := by
  obtain ⟨l, e⟩ := x.pre
  rw [e]
  simp
/-- what a call hands back -/
theorem after_ok {W : Str → Hp → Prop} {H1 : Hp} {ι1 : List Addr} {μ1 : Store} {keep : Bool} {d : D} {v : V} {Q : VK} (m1 : MemRel g H1 ι1 μ1) (x : Ext H1 ι1 H ι) (m : MemRel g H ι μ) (r : Rep g H ι d v)
    (h : postO g W H1 ι1 (after μ1.length keep d μ) Q) : Q v H := by
  unfold after at h
  split at h
  · exact h v H ι x m r
  · split at h
    · rename_i hu
      have et := take_pre x
      rw [m1.len] at et
      have x' : Ext H1 ι1 H ι1 := ⟨⟨[], by simp⟩, fun a o ha hn => ⟨(x.keep a o ha hn).1, hn⟩⟩
      cases keep with
      | false =>
        simp only at h
        split at h
        · rename_i e he
          have m2 := m.shrink (B' := []) (n0 := μ1.length) (fun b hb => by cases hb) hu
          rw [et] at m2
          have r2 := fz_ok (n0 := μ1.length) (fzR_ok m 4) r he
          rw [et] at r2
          exact h v H ι1 x' m2 r2
        · exact h.elim
      | true =>
        simp only at h
        split at h
        · rename_i n
          split at h
          · exact h.elim
          · rename_i hn
            cases r with
            | @ref _ a ha =>
              have na := notin_take (n0 := μ1.length) m.nd ha hn
              have nB : a ∉ g.B := fun z => m.nb a z (List.mem_of_getElem? ha)
              have hai := List.mem_of_getElem? ha
              have na1 : a ∉ ι1 := by rw [← et]; exact na
              have hf : H1 a = none := by
                cases q : H1 a with
                | none => rfl
                | some o => exact absurd hai (x.keep a o q na1).2
              have m2 := m.shrink (B' := [a]) (n0 := μ1.length) (fun b hb => by
                have : b = a := by simpa using hb
                subst this
                exact ⟨hai, na⟩) hu
              rw [et] at m2
              have hBs : ∀ b ∈ [a], b ∈ ι := fun b hb => by
                have : b = a := by simpa using hb
                subst this
                exact hai
              split at h
              · rename_i ds hd
                split at h
                · rename_i hu2
                  obtain ⟨a', h3, h4⟩ := m.obj _ _ hd
                  rw [ha] at h3
                  cases h3
                  cases h4 with
                  | lst h5 rl =>
                    have r2 := rl.shrink (n0 := μ1.length) hBs hu2
                    rw [et] at r2
                    exact h a H ι1 x' nB hf m2 (.lst h5 r2)
                · exact h.elim
              · rename_i t ks ds hd
                split at h
                · rename_i hu2
                  obtain ⟨a', h3, h4⟩ := m.obj _ _ hd
                  rw [ha] at h3
                  cases h3
                  cases h4 with
                  | dctK h5 hk rl =>
                    have r2 := rl.shrink (n0 := μ1.length) hBs hu2
                    rw [et] at r2
                    exact h a H ι1 x' nB hf m2 (.dctK h5 hk r2)
                  | dctT h5 hk rl =>
                    have r2 := rl.shrink (n0 := μ1.length) hBs hu2
                    rw [et] at r2
                    exact h a H ι1 x' nB hf m2 (.dctT h5 hk r2)
                · exact h.elim
              · exact h.elim
        · exact h.elim
    · exact h.elim
end
end PyD

set_option Elab.async false
set_option linter.all false
set_option maxRecDepth 100000
set_option maxHeartbeats 4000000
/-! Expressions' rules, one a construct. -/
namespace PyD
open PySem PySem.Spec L2
section
variable {g : G} {W : Str → Sl → Hp → Prop} {X : Cx} {e a b : Expr} {es : List Expr} {pos : Pos} {fa fb : Env → Store → R D} {cl : Oracle} {fns : Str → Option Fn} {gc : Consts} {n : Nat} {cc : CC}

/-! ### and, or, not -/
theorem se_not (ha : PE X a (TD g W fa)) : PE X (.UnaryOp .Not a pos) (TO g W fun ρ μ => (fa ρ μ).bool.bind fun x μ => .ok (.v (.bl (!x))) μ) :=
  (pe_not ha).imp fun σ H Q ⟨B, ρ, μ, ι, at0, q⟩ => (by
    have e0 : ((fa ρ μ).bool.bind fun x μ => .ok (Out.v (.bl (!x))) μ) = (fa ρ μ).bind fun d μ => match d with | .bl b => .ok (.v (.bl (!b))) μ | _ => .bad := by
      unfold R.bool
      cases fa ρ μ with
      | ok d μ => cases d <;> rfl
      | exc _ _ => rfl
      | bad => rfl
    have q : postO (g.b B) (fun c H' => W c σ H') H ι ((fa ρ μ).bool.bind fun x μ => .ok (.v (.bl (!x))) μ) Q := q
    rw [e0] at q
    obtain ⟨B1, ρ1, μ1, ι1, a1, q1⟩ := td_bind (W := W) at0 q
    refine ⟨B1, ρ1, μ1, ι1, a1, q1.imp fun v H1 ⟨d, μ2, ι2, x2, a2, r2, q2⟩ => ?_⟩
    split at q2
    · cases r2
      exact ⟨_, rfl, end_v q2 a2.m (.bl _)⟩
    · exact q2.elim)
theorem st_not {f : Env → Store → R Bool} (ha : PT X a (TB g W f)) : PT X (.UnaryOp .Not a pos) (TB g W fun ρ μ => (f ρ μ).map fun b => !b) :=
  (pt_not ha).imp fun σ H Q ⟨B, ρ, μ, ι, at0, q⟩ => ⟨B, ρ, μ, ι, at0, (post.bind (rep := fun _ _ a b => a = b) (show post (fun _ _ a b => a = b) (g.b B) (fun c H' => W c σ H') H ι ((f ρ μ).bind fun b μ => .ok (!b) μ) Q from q)).imp fun v H1 ⟨d, μ2, ι2, x2, m2, r2, q2⟩ => by
    subst r2
    exact bool_end q2 m2⟩
theorem se_and {b : Expr} {rest : List Expr} {fr : Env → Store → R Out} (ha : PE X a (TD g W fa)) (hb : PE X (.BoolOp .And (b :: rest) pos) (TO g W fr)) :
    PE X (.BoolOp .And (a :: b :: rest) pos) (TO g W fun ρ μ => (fa ρ μ).bool.bind fun k μ => if k then fr ρ μ else .ok (.v (.bl false)) μ) :=
  (pe_and ha hb).imp fun σ H Q ⟨B, ρ, μ, ι, at0, q⟩ => (by
    have e0 : ((fa ρ μ).bool.bind fun k μ => if k then fr ρ μ else .ok (.v (.bl false)) μ) = (fa ρ μ).bind fun d μ => match d with | .bl k => (if k then fr ρ μ else .ok (.v (.bl false)) μ) | _ => .bad := by
      unfold R.bool
      cases fa ρ μ with
      | ok d μ => cases d <;> rfl
      | exc _ _ => rfl
      | bad => rfl
    have q : postO (g.b B) (fun c H' => W c σ H') H ι ((fa ρ μ).bool.bind fun k μ => if k then fr ρ μ else .ok (.v (.bl false)) μ) Q := q
    rw [e0] at q
    obtain ⟨B1, ρ1, μ1, ι1, a1, q1⟩ := td_bind (W := W) at0 q
    refine ⟨B1, ρ1, μ1, ι1, a1, q1.imp fun v H1 ⟨d, μ2, ι2, x2, a2, r2, q2⟩ => ?_⟩
    split at q2
    · rename_i k
      cases r2
      refine ⟨_, rfl, ?_⟩
      cases k with
      | true => exact ⟨B, ρ, μ2, ι2, a2, q2⟩
      | false => exact end_v q2 a2.m (.bl _)
    · exact q2.elim)
theorem se_or {b : Expr} {rest : List Expr} {fr : Env → Store → R Out} (ha : PE X a (TD g W fa)) (hb : PE X (.BoolOp .Or (b :: rest) pos) (TO g W fr)) :
    PE X (.BoolOp .Or (a :: b :: rest) pos) (TO g W fun ρ μ => (fa ρ μ).bool.bind fun k μ => if k then .ok (.v (.bl true)) μ else fr ρ μ) :=
  (pe_or ha hb).imp fun σ H Q ⟨B, ρ, μ, ι, at0, q⟩ => (by
    have e0 : ((fa ρ μ).bool.bind fun k μ => if k then .ok (.v (.bl true)) μ else fr ρ μ) = (fa ρ μ).bind fun d μ => match d with | .bl k => (if k then .ok (.v (.bl true)) μ else fr ρ μ) | _ => .bad := by
      unfold R.bool
      cases fa ρ μ with
      | ok d μ => cases d <;> rfl
      | exc _ _ => rfl
      | bad => rfl
    have q : postO (g.b B) (fun c H' => W c σ H') H ι ((fa ρ μ).bool.bind fun k μ => if k then .ok (.v (.bl true)) μ else fr ρ μ) Q := q
    rw [e0] at q
    obtain ⟨B1, ρ1, μ1, ι1, a1, q1⟩ := td_bind (W := W) at0 q
    refine ⟨B1, ρ1, μ1, ι1, a1, q1.imp fun v H1 ⟨d, μ2, ι2, x2, a2, r2, q2⟩ => ?_⟩
    split at q2
    · rename_i k
      cases r2
      refine ⟨_, rfl, ?_⟩
      cases k with
      | false => exact ⟨B, ρ, μ2, ι2, a2, q2⟩
      | true => exact end_v q2 a2.m (.bl _)
    · exact q2.elim)
/-- a test first, then another -/
theorem tb_bindB {f : Env → Store → R Bool} {k : Bool → Store → R Bool} {σ : Sl} {H : Hp} {B : List Addr} {ρ : Env} {μ : Store} {ι : List Addr} {Q : Bool → Hp → Prop} (a : At (g.b B) σ H ρ ι μ) (h : post (fun _ _ a b => a = b) (g.b B) (fun c H' => W c σ H') H ι ((f ρ μ).bind k) Q) :
    TB g W f σ H (fun b H1 => ∃ μ1 ι1, Ext H ι H1 ι1 ∧ At (g.b B) σ H1 ρ ι1 μ1 ∧ post (fun _ _ a b => a = b) (g.b B) (fun c H' => W c σ H') H1 ι1 (k b μ1) Q) :=
  ⟨B, ρ, μ, ι, a, (post.bind (rep := fun _ _ a b => a = b) h).imp fun v H1 ⟨d, μ1, ι1, x, m, r, q⟩ => ⟨μ1, ι1, x, a.next x m, by rw [← r]; exact q⟩⟩
theorem sw_and {b : Expr} {rest : List Expr} {f fr : Env → Store → R Bool} (ha : PT X a (TB g W f)) (hb : PW X (.BoolOp .And (b :: rest) pos) (TB g W fr)) :
    PW X (.BoolOp .And (a :: b :: rest) pos) (TB g W fun ρ μ => (f ρ μ).bind fun k μ => if k then fr ρ μ else .ok false μ) :=
  (pw_and ha hb).imp fun σ H Q ⟨B, ρ, μ, ι, at0, q⟩ => (by
    obtain ⟨B1, ρ1, μ1, ι1, a1, q1⟩ := tb_bindB (W := W) at0 q
    refine ⟨B1, ρ1, μ1, ι1, a1, q1.imp fun k H1 ⟨μ2, ι2, x2, a2, q2⟩ => ?_⟩
    cases k with
    | true => exact ⟨B, ρ, μ2, ι2, a2, q2⟩
    | false => exact bool_end q2 a2.m)
theorem sw_or {b : Expr} {rest : List Expr} {f fr : Env → Store → R Bool} (ha : PT X a (TB g W f)) (hb : PW X (.BoolOp .Or (b :: rest) pos) (TB g W fr)) :
    PW X (.BoolOp .Or (a :: b :: rest) pos) (TB g W fun ρ μ => (f ρ μ).bind fun k μ => if k then .ok true μ else fr ρ μ) :=
  (pw_or ha hb).imp fun σ H Q ⟨B, ρ, μ, ι, at0, q⟩ => (by
    obtain ⟨B1, ρ1, μ1, ι1, a1, q1⟩ := tb_bindB (W := W) at0 q
    refine ⟨B1, ρ1, μ1, ι1, a1, q1.imp fun k H1 ⟨μ2, ι2, x2, a2, q2⟩ => ?_⟩
    cases k with
    | false => exact ⟨B, ρ, μ2, ι2, a2, q2⟩
    | true => exact bool_end q2 a2.m)
/-- a if t else b -/
theorem se_ite {c : Expr} {f : Env → Store → R Bool} (hc : PT X c (TB g W f)) (ha : PE X a (TD g W fa)) (hb : PE X b (TD g W fb)) :
    PE X (.IfExp c a b pos) (TO g W fun ρ μ => (f ρ μ).bind fun k μ => if k then (fa ρ μ).map .v else (fb ρ μ).map .v) :=
  (pe_ifExp hc ha hb).imp fun σ H Q ⟨B, ρ, μ, ι, at0, q⟩ => (by
    obtain ⟨B1, ρ1, μ1, ι1, a1, q1⟩ := tb_bind (W := W) at0 q
    refine ⟨B1, ρ1, μ1, ι1, a1, q1.imp fun k H1 ⟨μ2, ι2, x2, a2, q2⟩ => ?_⟩
    cases k with
    | true => exact ⟨B, ρ, μ2, ι2, a2, post.up q2⟩
    | false => exact ⟨B, ρ, μ2, ι2, a2, post.up q2⟩)

/-! ### argument lists -/
theorem sa_nil : PA X [] (TL g W fun _ μ => .ok [] μ) := pa_nil.imp fun σ H Q ⟨B, ρ, μ, ι, at0, q⟩ => q [] H ι Ext.refl at0.m .nil
theorem tl_bindG {α β : Type} {rep : G → Hp → List Addr → α → β → Prop} {f : Env → Store → R (List D)} {k : List D → Store → R α} {σ : Sl} {H : Hp} {B : List Addr} {ρ : Env} {μ : Store} {ι : List Addr} {Q : β → Hp → Prop} (a : At (g.b B) σ H ρ ι μ) (h : post (rep (g.b B)) (g.b B) (fun c H' => W c σ H') H ι ((f ρ μ).bind k) Q) :
    TL g W f σ H (fun v H1 => ∃ d μ1 ι1, Ext H ι H1 ι1 ∧ At (g.b B) σ H1 ρ ι1 μ1 ∧ RepL (g.b B) H1 ι1 d v ∧ post (rep (g.b B)) (g.b B) (fun c H' => W c σ H') H1 ι1 (k d μ1) Q) :=
  ⟨B, ρ, μ, ι, a, (post.bind (rep := RepL (g.b B)) h).imp fun v H1 ⟨d, μ1, ι1, x, m, r, q⟩ => ⟨d, μ1, ι1, x, a.next x m, r, q⟩⟩
theorem sa_cons {fr : Env → Store → R (List D)} (hs : starEach (a :: es) X.env = (false, eval a X.env) :: starEach es X.env) (ha : PE X a (TD g W fa)) (hr : PA X es (TL g W fr)) :
    PA X (a :: es) (TL g W fun ρ μ => (fa ρ μ).bind fun x μ => (fr ρ μ).bind fun xs μ => .ok (x :: xs) μ) :=
  (pa_cons ha hr hs).imp fun σ H Q ⟨B, ρ, μ, ι, at0, q⟩ => (by
    obtain ⟨B1, ρ1, μ1, ι1, a1, q1⟩ := td_bindG (W := W) (rep := RepL) at0 q
    refine ⟨B1, ρ1, μ1, ι1, a1, q1.imp fun v H1 ⟨d, μ2, ι2, x2, a2, r2, q2⟩ => ?_⟩
    obtain ⟨B3, ρ3, μ3, ι3, a3, q3⟩ := tl_bindG (W := W) (rep := RepL) a2 q2
    refine ⟨B3, ρ3, μ3, ι3, a3, q3.imp fun vs H3 ⟨ds, μ4, ι4, x4, a4, r4, q4⟩ => ?_⟩
    exact q4 _ H3 ι4 Ext.refl a4.m (.cons (r2.mono x4 a2.m.wf) r4))
theorem se_tup {k : Nat} {f : Env → Store → R (List D)} (h : PA X es (TL g W f)) : PE X (.Tuple es k pos) (TO g W fun ρ μ => (f ρ μ).bind fun xs μ => if xs.length ≤ sizeLine then .ok (.v (.tup xs)) μ else .bad) :=
  (pe_tupB h).imp fun σ H Q ⟨B, ρ, μ, ι, at0, q⟩ => (by
    obtain ⟨B1, ρ1, μ1, ι1, a1, q1⟩ := tl_bind (W := W) at0 q
    refine ⟨B1, ρ1, μ1, ι1, a1, q1.imp fun vs H1 ⟨ds, μ2, ι2, x2, a2, r2, q2⟩ => ?_⟩
    split at q2
    · rename_i hz
      exact ⟨by rw [← r2.length]; exact hz, end_tup q2 a2.m r2⟩
    · exact q2.elim)
theorem se_lst {f : Env → Store → R (List D)} (h : PA X es (TL g W f)) : PE X (.List es pos) (TO g W fun ρ μ => (f ρ μ).bind fun xs μ => if xs.length ≤ sizeLine then .ok (.f (.lst xs)) μ else .bad) :=
  (pe_lst h).imp fun σ H Q ⟨B, ρ, μ, ι, at0, q⟩ => (by
    obtain ⟨B1, ρ1, μ1, ι1, a1, q1⟩ := tl_bind (W := W) at0 q
    refine ⟨B1, ρ1, μ1, ι1, a1, q1.imp fun vs H1 ⟨ds, μ2, ι2, x2, a2, r2, q2⟩ => ?_⟩
    split at q2
    · rename_i hz
      exact ⟨by rw [← r2.length]; exact hz, fun p hp => end_lst q2 a2.m r2 hp⟩
    · exact q2.elim)
theorem se_dct0 {t : Bool} : PE X (.Dict [] [] pos) (TO g W fun _ μ => .ok (.f (.dct t [] [])) μ) := by
  cases t with
  | false =>
    refine pe_dnewK.imp fun σ H Q ⟨B, ρ, μ, ι, at0, q⟩ p hp => ?_
    exact q p _ ι (Ext.new hp) (at0.m.nB hp) hp (at0.m.newB hp) (.dctK (kvs := []) upd_same rfl .nil)
  | true =>
    refine pe_dnewT.imp fun σ H Q ⟨B, ρ, μ, ι, at0, q⟩ p hp => ?_
    exact q p _ ι (Ext.new hp) (at0.m.nB hp) hp (at0.m.newB hp) (.dctT (kvs := []) upd_same rfl .nil)

/-! ### calls -/
theorem spliced_plain : ∀ {es : List Expr}, (∀ e ∈ es, ∀ env r, starEach (e :: r) env = (false, eval e env) :: starEach r env) → ∀ pos env, (backTo pos (starEach es env)).any (·.1) = false
  | [], _, _, _ => rfl
  | e :: es, h, pos, env => by
    rw [h e (by simp) env es]
    show (false || (backTo pos (starEach es env)).any (·.1)) = false
    rw [spliced_plain (fun e he => h e (List.mem_cons_of_mem _ he))]
    rfl
/-- no starred argument -/
def Plain (es : List Expr) : Prop := ∀ e ∈ es, ∀ env r, starEach (e :: r) env = (false, eval e env) :: starEach r env
theorem post_call {keep : Bool} {f : Str} {F : Fn} {B : List Addr} {σ : Sl} {H1 : Hp} {ρ : Env} {ι1 : List Addr} {μ1 : Store} {xs : List D} {vs : List V} {Q : VK} (a1 : At (g.b B) σ H1 ρ ι1 μ1) (rl : RepL (g.b B) H1 ι1 xs vs) (har : xs.length = F.ar)
    (q : postO (g.b B) (fun c H' => W c σ H') H1 ι1 ((cl f xs μ1).bind fun d μ2 => after μ1.length keep d μ2) Q) : spD g cl F.ar f vs H1 Q (WE (WXof g W) σ) := by
  refine ⟨by rw [← rl.length]; exact har, B, xs, μ1, ι1, a1.m, rl, ?_⟩
  cases e : cl f xs μ1 with
  | ok d μ2 =>
    rw [e] at q
    intro v H' ι' x m r
    exact after_ok a1.m x m r q
  | exc c μ2 =>
    rw [e] at q
    intro H' ι' x m cv hcv
    exact ⟨c, hcv, rfl, q H' ι' x m⟩
  | bad => rw [e] at q; exact q
theorem se_callG {keep : Bool} {f : Str} {F : Fn} {fr : Env → Store → R (List D)} {p : Pos} (C : Cok g cl fns gc n W cc X) (hF : fns f = some F) (hg : isGl cc.sc f = true) (hp : plainN f = true) (hpl : Plain (a :: es)) (har : ∀ ρ μ xs μ', fr ρ μ = .ok xs μ' → xs.length ≠ F.ar → cl f xs μ' = .bad) (h : PA X (a :: es) (TL g W fr)) :
    PE X (.Call (.Name f p) (a :: es) [] pos) (TO g W fun ρ μ => (fr ρ μ).bind fun xs μ1 => (cl f xs μ1).bind fun d μ2 => after μ1.length keep d μ2) := by
  obtain ⟨fa, fd, ps, h1, h2, h3, h4⟩ := C.facts f F hF
  refine (pe_callS h4 C.room (C.gl hg) h1 h2 h3 (E := WE (WXof g W)) (passAt C.tk) h (plainI hp).1 (hpl a (by simp) _ _) (spliced_plain (fun e he => hpl e (List.mem_cons_of_mem _ he)) pos X.env)).imp fun σ H Q ⟨B, ρ, μ, ι, at0, q⟩ => ?_
  have q : postO (g.b B) (fun c H' => W c σ H') H ι ((fr ρ μ).bind fun xs μ1 => (cl f xs μ1).bind fun d μ2 => after μ1.length keep d μ2) Q := q
  refine ⟨B, ρ, μ, ι, at0, ?_⟩
  cases e : fr ρ μ with
  | ok xs μ1 =>
    rw [e] at q
    intro vs H1 ι1 x1 m1 r1
    by_cases hx : xs.length = F.ar
    · exact post_call (at0.next x1 m1) r1 hx (postO.mono q x1)
    · have := har ρ μ xs μ1 e hx
      have q : postO (g.b B) (fun c H' => W c σ H') H ι ((cl f xs μ1).bind fun d μ2 => after μ1.length keep d μ2) Q := q
      rw [this] at q
      exact q.elim
  | exc c μ1 =>
    rw [e] at q
    exact q
  | bad =>
    rw [e] at q
    exact q
end
end PyD

set_option Elab.async false
set_option linter.all false
set_option maxRecDepth 100000
set_option maxHeartbeats 4000000
/-! Expressions' rules: built-ins, subscripts, methods, new objects. -/
namespace PyD
open PySem PySem.Spec L2
section
variable {g : G} {W : Str → Sl → Hp → Prop} {X : Cx} {e a b : Expr} {es : List Expr} {pos : Pos} {fa fb : Env → Store → R D} {cl : Oracle} {fns : Str → Option Fn} {gc : Consts} {n : Nat} {cc : CC}
theorem bi_all (hK : X.K = g.K) (hc : X.calm = true) (hr : Room n X.A) (f : Bi) (h1 : f ≠ .revlist) (h2 : f ≠ .lenset) : CallR X (.builtin f.name) (rBlt g f) ∧ bootBuiltins (Str.ofString f.name) = some (.builtin f.name) := by
  cases f with
  | len => exact ⟨bl_len hK, by decide +kernel⟩
  | abs => exact ⟨bl_abs, by decide +kernel⟩
  | max => exact ⟨bl_max hK hc, by decide +kernel⟩
  | min => exact ⟨bl_min hK hc, by decide +kernel⟩
  | sum => exact ⟨bl_sum hK hc, by decide +kernel⟩
  | all => exact ⟨bl_all hK hc, by decide +kernel⟩
  | any => exact ⟨bl_any hK hc, by decide +kernel⟩
  | sorted => exact ⟨bl_sorted hK hr, by decide +kernel⟩
  | revlist => exact absurd rfl h1
  | lenset => exact absurd rfl h2
theorem se_bi {f : Bi} {x : Str} {fr : Env → Store → R (List D)} {p : Pos} (C : Cok g cl fns gc n W cc X) (h1 : f ≠ .revlist) (h2 : f ≠ .lenset) (hx : x = Str.ofString f.name) (hb : isBlt cc x = true) (hpl : Plain (a :: es)) (h : PA X (a :: es) (TL g W fr)) :
    PE X (.Call (.Name x p) (a :: es) [] pos) (TO g W fun ρ μ => (fr ρ μ).bind fun xs μ => R.ofOpt (biD f μ xs) μ) := by
  obtain ⟨hr, hv⟩ := bi_all C.hK C.calm C.room f h1 h2
  have bt := C.blt hb
  refine (pe_callB hr bt.gl bt.mg (by rw [hx]; exact hv) h bt.ne bt.db (hpl a (by simp) _ _) (spliced_plain (fun e he => hpl e (List.mem_cons_of_mem _ he)) pos X.env)).imp fun σ H Q ⟨B, ρ, μ, ι, at0, q⟩ => ?_
  obtain ⟨B1, ρ1, μ1, ι1, a1, q1⟩ := tl_bind (W := W) at0 q
  refine ⟨B1, ρ1, μ1, ι1, a1, q1.imp fun vs H1 ⟨ds, μ2, ι2, x2, a2, r2, q2⟩ => ?_⟩
  obtain ⟨o, e, q5⟩ := q2.ofOpt
  exact ⟨B, μ2, ι2, ds, o, a2.m, r2, e, q5⟩
theorem ty_all (hK : X.K = g.K) (hc : X.calm = true) (f : Ty) : CallR X (.type f.name) (rTy g f) ∧ bootBuiltins (Str.ofString f.name) = some (.type f.name) := by
  cases f with
  | int => exact ⟨ty_int, by decide +kernel⟩
  | list => exact ⟨ty_list hK, by decide +kernel⟩
  | tuple => exact ⟨ty_tuple hK, by decide +kernel⟩
  | dict => exact ⟨ty_dict hK hc, by decide +kernel⟩
theorem se_ty {f : Ty} {x : Str} {fr : Env → Store → R (List D)} {p : Pos} (C : Cok g cl fns gc n W cc X) (hx : x = Str.ofString f.name) (hb : isBlt cc x = true) (hpl : Plain (a :: es)) (h : PA X (a :: es) (TL g W fr)) :
    PE X (.Call (.Name x p) (a :: es) [] pos) (TO g W fun ρ μ => (fr ρ μ).bind fun xs μ => R.ofOpt (tyD f μ xs) μ) := by
  obtain ⟨hr, hv⟩ := ty_all C.hK C.calm f
  have bt := C.blt hb
  refine (pe_callTy hr bt.gl bt.mg (by rw [hx]; exact hv) h bt.ne bt.db (hpl a (by simp) _ _) (spliced_plain (fun e he => hpl e (List.mem_cons_of_mem _ he)) pos X.env)).imp fun σ H Q ⟨B, ρ, μ, ι, at0, q⟩ => ?_
  obtain ⟨B1, ρ1, μ1, ι1, a1, q1⟩ := tl_bind (W := W) at0 q
  refine ⟨B1, ρ1, μ1, ι1, a1, q1.imp fun vs H1 ⟨ds, μ2, ι2, x2, a2, r2, q2⟩ => ?_⟩
  obtain ⟨o, e, q5⟩ := q2.ofOpt
  exact ⟨B, μ2, ι2, ds, o, a2.m, r2, e, q5⟩
theorem boot_cl (T : Cl) : bootBuiltins (Str.ofString T.name) = some (.type T.name) := by cases T <;> decide +kernel
theorem se_isi {T : Cl} {x y : Str} {p p2 : Pos} (C : Cok g cl fns gc n W cc X) (hx : x = "isinstance") (hb : isBlt cc x = true) (hy : y = Str.ofString T.name) (hb2 : isBlt cc y = true) (hpl : Plain [a]) (ha : PE X a (TD g W fa)) :
    PE X (.Call (.Name x p) [a, .Name y p2] [] pos) (TO g W fun ρ μ => (fa ρ μ).bind fun x μ => (R.ofOpt (isiD μ x T) μ).map fun b => .v (.bl b)) := by
  have bt := C.blt hb
  have bt2 := C.blt hb2
  have hT : PE X (.Name y p2) (tC (.ty T.name)) := pe_bltn bt2.gl bt2.mg (by rw [hy]; exact boot_cl T) rfl bt2.ne bt2.db
  refine (pe_callB (bl_isi (g := g) T) bt.gl bt.mg (by rw [hx]; decide +kernel) (pa_cons ha (pa_cons hT pa_nil rfl) (hpl a (by simp) _ _)) bt.ne bt.db (hpl a (by simp) _ _) rfl).imp fun σ H Q ⟨B, ρ, μ, ι, at0, q⟩ => ?_
  obtain ⟨B1, ρ1, μ1, ι1, a1, q1⟩ := td_bind (W := W) at0 q
  refine ⟨B1, ρ1, μ1, ι1, a1, q1.imp fun v H1 ⟨d, μ2, ι2, x2, a2, r2, q2⟩ => ?_⟩
  cases e : isiD μ2 d T with
  | none => rw [e] at q2; exact q2.elim
  | some k =>
    rw [e] at q2
    exact ⟨B, μ2, ι2, d, v, k, rfl, a2.m, r2, e, end_v q2 a2.m (.bl _)⟩
theorem se_ix (C : Cok g cl fns gc n W cc X) (hs : noSlice b = true) (ha : PE X a (TD g W fa)) (hb : PE X b (TD g W fb)) : PE X (.Subscript a b pos) (TO g W fun ρ μ => (fa ρ μ).bind fun x μ => (fb ρ μ).bind fun y μ => (R.ofOpt (ixD μ x y) μ).map .v) :=
  (pe_ix (ix_D (g := g) C.hK C.room) ha hb (by intro o i; cases b <;> first | rfl | cases hs)).imp fun σ H Q ⟨B, ρ, μ, ι, at0, q⟩ => (by
    obtain ⟨B1, ρ1, μ1, ι1, a1, q1⟩ := td_bind (W := W) at0 q
    refine ⟨B1, ρ1, μ1, ι1, a1, q1.imp fun v H1 ⟨d, μ2, ι2, x2, a2, r2, q2⟩ => ?_⟩
    obtain ⟨B3, ρ3, μ3, ι3, a3, q3⟩ := td_bind (W := W) a2 q2
    refine ⟨B3, ρ3, μ3, ι3, a3, q3.imp fun u H3 ⟨d', μ4, ι4, x4, a4, r4, q4⟩ => ?_⟩
    cases e : ixD μ4 d d' with
    | none => rw [e] at q4; exact q4.elim
    | some z =>
      rw [e] at q4
      exact ⟨B, μ4, ι4, d, d', z, a4.m, r2.mono x4 a2.m.wf, r4, e, fun v hv => end_v q4 a4.m hv⟩)
/-- a slice's end -/
def TP (g : G) (W : Str → Sl → Hp → Prop) (f : Env → Store → R (Option Int)) : L2.TO := fun σ H Q => ∃ B ρ μ ι, At (g.b B) σ H ρ ι μ ∧ post (fun _ _ a b => a = b) (g.b B) (fun c H' => W c σ H') H ι (f ρ μ) Q
theorem _root_.L2.PO.imp {X : Cx} {e : Option Expr} {t t' : L2.TO} (h : PO X e t) (k : ∀ σ H Q, t' σ H Q → t σ H Q) : PO X e t' := ⟨fun pins s σ H Q I q => h.run pins s σ H Q I (k σ H Q q)⟩
theorem so_none : PO X none (TP g W fun _ μ => .ok none μ) := po_none.imp fun σ H Q ⟨B, ρ, μ, ι, at0, q⟩ => q none H ι Ext.refl at0.m rfl
theorem so_some (ha : PE X a (TD g W fa)) : PO X (some a) (TP g W fun ρ μ => (fa ρ μ).bind fun d μ => match d with | .int i => .ok (some i) μ | _ => .bad) :=
  (po_some ha).imp fun σ H Q ⟨B, ρ, μ, ι, at0, q⟩ => (by
    obtain ⟨B1, ρ1, μ1, ι1, a1, q1⟩ := td_bindG (W := W) (rep := fun _ _ _ a b => a = b) at0 q
    refine ⟨B1, ρ1, μ1, ι1, a1, q1.imp fun v H1 ⟨d, μ2, ι2, x2, a2, r2, q2⟩ => ?_⟩
    split at q2
    · cases r2
      exact ⟨_, rfl, q2 _ H1 ι2 Ext.refl a2.m rfl⟩
    · exact q2.elim)
theorem se_slc {lo hi : Option Expr} {p2 : Pos} {fl fh : Env → Store → R (Option Int)} (C : Cok g cl fns gc n W cc X) (ha : PE X a (TD g W fa)) (hl : PO X lo (TP g W fl)) (hh : PO X hi (TP g W fh)) :
    PE X (.Subscript a (.Slice lo hi none p2) pos) (TO g W fun ρ μ => (fa ρ μ).bind fun x μ => (fl ρ μ).bind fun l μ => (fh ρ μ).bind fun h μ => R.ofOpt (slcD μ x l h) μ) :=
  (pe_slice (sl_D (g := g) C.hK) ha hl hh).imp fun σ H Q ⟨B, ρ, μ, ι, at0, q⟩ => (by
    obtain ⟨B1, ρ1, μ1, ι1, a1, q1⟩ := td_bind (W := W) at0 q
    refine ⟨B1, ρ1, μ1, ι1, a1, q1.imp fun v H1 ⟨d, μ2, ι2, x2, a2, r2, q2⟩ => ?_⟩
    refine ⟨B, ρ, μ2, ι2, a2, (q2.bind (rep := fun _ _ a b => a = b)).imp fun l H3 ⟨l', μ4, ι4, x4, m4, r4, q4⟩ => ?_⟩
    subst r4
    have a4 := a2.next x4 m4
    refine ⟨B, ρ, μ4, ι4, a4, (q4.bind (rep := fun _ _ a b => a = b)).imp fun h H5 ⟨h', μ6, ι6, x6, m6, r6, q6⟩ => ?_⟩
    subst r6
    obtain ⟨o, e, q7⟩ := q6.ofOpt
    exact ⟨B, μ6, ι6, d, o, m6, (r2.mono x4 a2.m.wf).mono x6 m4.wf, e, q7⟩)

/-! ### methods of lists -/
theorem mt_slot (f : Mt) (hf : f ≠ .get) : PySem.Slot "list" (Str.ofString f.name) ("list." ++ f.name) ∧ typeOf (.builtin ("list." ++ f.name)) = pure (.type "method_descriptor") := by
  cases f with
  | append => exact ⟨PySem.F.slot_list_append, PySem.F.type_list_append⟩
  | pop => exact ⟨PySem.F.slot_list_pop, PySem.F.type_list_pop⟩
  | reverse => exact ⟨PySem.F.slot_list_reverse, PySem.F.type_list_reverse⟩
  | extend => exact ⟨PySem.F.slot_list_extend, PySem.F.type_list_extend⟩
  | get => exact absurd rfl hf
theorem isMt_l {f : Mt} (hf : f ≠ .get) {μ : Store} {d : D} : isMt f μ d = isRefL μ d := by cases f <;> first | rfl | exact absurd rfl hf
theorem mthX_l {f : Mt} (hf : f ≠ .get) {d : D} {ds : List D} {μ : Store} : mthX f d ds μ = mthD f d ds μ := by cases f <;> first | rfl | exact absurd rfl hf
theorem tyV_list {H : Hp} {ι : List Addr} {μ : Store} {d : D} {v : V} (h : isRefL μ d = true) (m : MemRel g H ι μ) (r : Rep g H ι d v) : tyV g.K "list" v H := by
  unfold isRefL at h
  split at h
  · split at h
    · rename_i he
      obtain ⟨a, vs, rfl, _, hl, _⟩ := refL_of (d := .non) he m r
      exact .inl ⟨rfl, vs, SqL.of hl⟩
    · cases h
  · cases h
theorem mth_end {f : Mt} {B : List Addr} {H : Hp} {ι : List Addr} {μ : Store} {d : D} {v : V} {ds : List D} {vs : List V} {Q : VK} {W : Str → Hp → Prop} (m : MemRel (g.b B) H ι μ) (r : Rep (g.b B) H ι d v) (rl : RepL (g.b B) H ι ds vs)
    (q : postO (g.b B) W H ι (match mthD f d ds μ with | some (d, μ) => .ok (.v d) μ | none => .bad) Q) : rMth g f v vs H Q := by
  split at q
  · rename_i e
    exact ⟨B, μ, ι, d, ds, _, _, m, r, rl, e, fun v H' ι' x m' r' => q v H' ι' x m' r'⟩
  · exact q.elim
theorem se_mth0 {f : Mt} (hf : f ≠ .get) {o : Expr} {x : Str} {apos cpos : Pos} {fo : Env → Store → R D} (C : Cok g cl fns gc n W cc X) (hx : x = Str.ofString f.name) (hl : lineOk apos cpos = true) (hbase : attributeBase o x X.env (eval o X.env) = eval o X.env) (ho : PE X o (TD g W fo)) :
    PE X (.Call (.Attribute o x apos) [] [] cpos) (TO g W fun ρ μ => (fo ρ μ).bind fun d μ => if isMt f μ d then (match mthX f d [] μ with | some (d, μ) => .ok (.v d) μ | none => .bad) else .bad) := by
  subst hx
  obtain ⟨h1, h2⟩ := mt_slot f hf
  refine (pe_bm0 PySem.F.plainAttrs_list h1 h2 (mt_D (g := g) f) ho hbase hl).imp fun σ H Q ⟨B, ρ, μ, ι, at0, q⟩ => ?_
  obtain ⟨B1, ρ1, μ1, ι1, a1, q1⟩ := td_bind (W := W) at0 q
  refine ⟨B1, ρ1, μ1, ι1, a1, q1.imp fun v H1 ⟨d, μ2, ι2, x2, a2, r2, q2⟩ => ?_⟩
  rw [isMt_l hf, mthX_l hf] at q2
  split at q2
  · rename_i hr
    exact ⟨by rw [C.hK]; exact tyV_list (g := g.b B) hr a2.m r2, mth_end a2.m r2 .nil q2⟩
  · exact q2.elim
theorem se_mth {f : Mt} (hf : f ≠ .get) {o : Expr} {x : Str} {apos cpos : Pos} {fo : Env → Store → R D} {fr : Env → Store → R (List D)} (C : Cok g cl fns gc n W cc X) (hx : x = Str.ofString f.name) (hl : lineOk apos cpos = true) (hbase : attributeBase o x X.env (eval o X.env) = eval o X.env)
    (hlen : (a :: es).length < 20) (hpl : Plain (a :: es)) (ho : PE X o (TD g W fo)) (h : PA X (a :: es) (TL g W fr)) :
    PE X (.Call (.Attribute o x apos) (a :: es) [] cpos) (TO g W fun ρ μ => (fo ρ μ).bind fun d μ => if isMt f μ d then (fr ρ μ).bind fun xs μ => match mthX f d xs μ with | some (d, μ) => .ok (.v d) μ | none => .bad else .bad) := by
  subst hx
  obtain ⟨h1, h2⟩ := mt_slot f hf
  have hall : ∀ {es : List Expr}, Plain es → (backTo cpos (starEach es X.env)).all (fun x => !x.1) = true := fun {es} hp => by
    have := spliced_plain hp cpos X.env
    rw [List.all_eq_not_any_not]
    simp only [Bool.not_not]
    rw [show (backTo cpos (starEach es X.env)).any (fun x => x.1) = false from this]
    rfl
  refine (pe_bm PySem.F.plainAttrs_list h1 h2 (mt_D (g := g) f) ho h hbase ?_ hl (hpl a (by simp) _ _) (spliced_plain (fun e he => hpl e (List.mem_cons_of_mem _ he)) cpos X.env)).imp fun σ H Q ⟨B, ρ, μ, ι, at0, q⟩ => ?_
  · rw [hall hpl]
    simp only [Bool.true_and, Bool.and_eq_true, decide_eq_true_eq]
    refine ⟨rfl, ?_⟩
    simp
    have := hlen
    simp at this
    omega
  · obtain ⟨B1, ρ1, μ1, ι1, a1, q1⟩ := td_bind (W := W) at0 q
    refine ⟨B1, ρ1, μ1, ι1, a1, q1.imp fun v H1 ⟨d, μ2, ι2, x2, a2, r2, q2⟩ => ?_⟩
    rw [isMt_l hf] at q2
    simp only [mthX_l hf] at q2
    split at q2
    · rename_i hr
      refine ⟨by rw [C.hK]; exact tyV_list (g := g.b B) hr a2.m r2, ?_⟩
      obtain ⟨B3, ρ3, μ3, ι3, a3, q3⟩ := tl_bind (W := W) a2 q2
      refine ⟨B3, ρ3, μ3, ι3, a3, q3.imp fun vs H3 ⟨ds, μ4, ι4, x4, a4, r4, q4⟩ => ?_⟩
      exact mth_end a4.m (r2.mono x4 a2.m.wf) r4 q4
    · exact q2.elim

theorem get_end {B : List Addr} {H : Hp} {ι : List Addr} {μ : Store} {d : D} {v : V} {ds : List D} {vs : List V} {Q : VK} {W : Str → Hp → Prop} (m : MemRel (g.b B) H ι μ) (r : Rep (g.b B) H ι d v) (rl : RepL (g.b B) H ι ds vs)
    (q : postO (g.b B) W H ι (match getMD d ds μ with | some (d, μ) => .ok (.v d) μ | none => .bad) Q) : rGet g v vs H Q := by
  split at q
  · rename_i e
    exact ⟨B, μ, ι, d, ds, _, _, m, r, rl, e, fun v H' ι' x m' r' => q v H' ι' x m' r'⟩
  · exact q.elim
theorem se_get {o : Expr} {x : Str} {apos cpos : Pos} {fo : Env → Store → R D} {fr : Env → Store → R (List D)} (C : Cok g cl fns gc n W cc X) (hx : x = Str.ofString Mt.get.name) (hl : lineOk apos cpos = true) (hbase : attributeBase o x X.env (eval o X.env) = eval o X.env)
    (hlen : (a :: es).length < 20) (hpl : Plain (a :: es)) (ho : PE X o (TD g W fo)) (h : PA X (a :: es) (TL g W fr)) :
    PE X (.Call (.Attribute o x apos) (a :: es) [] cpos) (TO g W fun ρ μ => (fo ρ μ).bind fun d μ => if isMt .get μ d then (fr ρ μ).bind fun xs μ => match mthX .get d xs μ with | some (d, μ) => .ok (.v d) μ | none => .bad else .bad) := by
  subst hx
  have hall : ∀ {es : List Expr}, Plain es → (backTo cpos (starEach es X.env)).all (fun x => !x.1) = true := fun {es} hp => by
    have := spliced_plain hp cpos X.env
    rw [List.all_eq_not_any_not]
    simp only [Bool.not_not]
    rw [show (backTo cpos (starEach es X.env)).any (fun x => x.1) = false from this]
    rfl
  refine (pe_bm PySem.F.plainAttrs_dict PySem.F.slot_dict_get PySem.F.type_dict_get (mt_get (g := g) C.room) ho h hbase ?_ hl (hpl a (by simp) _ _) (spliced_plain (fun e he => hpl e (List.mem_cons_of_mem _ he)) cpos X.env)).imp fun σ H Q ⟨B, ρ, μ, ι, at0, q⟩ => ?_
  · rw [hall hpl]
    simp only [Bool.true_and, Bool.and_eq_true, decide_eq_true_eq]
    refine ⟨rfl, ?_⟩
    simp
    have := hlen
    simp at this
    omega
  · obtain ⟨B1, ρ1, μ1, ι1, a1, q1⟩ := td_bind (W := W) at0 q
    refine ⟨B1, ρ1, μ1, ι1, a1, q1.imp fun v H1 ⟨d, μ2, ι2, x2, a2, r2, q2⟩ => ?_⟩
    have e0 : ∀ {d : D} {ds : List D} {μ : Store}, mthX .get d ds μ = getMD d ds μ := fun {_ _ _} => rfl
    simp only [e0, isMt] at q2
    split at q2
    · rename_i hr
      refine ⟨by rw [C.hK]; exact tyV_dict (g := g.b B) hr a2.m r2, ?_⟩
      obtain ⟨B3, ρ3, μ3, ι3, a3, q3⟩ := tl_bind (W := W) a2 q2
      refine ⟨B3, ρ3, μ3, ι3, a3, q3.imp fun vs H3 ⟨ds, μ4, ι4, x4, a4, r4, q4⟩ => ?_⟩
      exact get_end a4.m (r2.mono x4 a2.m.wf) r4 q4
    · exact q2.elim

/-! ### a new object comes into the store -/
theorem new_end {W : Str → Hp → Prop} {H : Hp} {ι : List Addr} {r : R Out} {Q : VK} (h : postO g W H ι (r.bind pushO) Q) : postO g W H ι r Q := by
  cases r with
  | ok o μ =>
    cases o with
    | v d => exact h.elim
    | f mm =>
      have go : (∀ ds, mm ≠ .ro ds) → ∀ a H' ι', Ext H ι H' ι' → a ∉ g.B → H a = none → MemRel (g.b (a :: g.B)) H' ι' μ → RepObj (g.b (a :: g.B)) H' ι' mm a → Q (.ref a) H' := fun hne a H' ι' x nb hn m q => by
        have h : ∀ v H' ι', Ext H ι H' ι' → MemRel g H' ι' (μ ++ [mm]) → Rep g H' ι' (.ref μ.length) v → Q v H' := by
          cases mm with
          | ro ds => exact absurd rfl (hne ds)
          | lst ds => exact h
          | dct t ks ds => exact h
        have na : a ∉ ι' := m.nb a (by simp)
        have hob : RepObj g H' (ι' ++ [a]) mm a := by
          cases q with
          | lst h r => exact .lst h r.push
          | dctK h k r => exact .dctK h k r.push
          | dctT h k r => exact .dctT h k r.push
          | ro h r => exact .ro h r.push
        refine h (.ref a) H' (ι' ++ [a]) ⟨?_, fun b o hb hnb => ?_⟩ ⟨?_, ?_, ?_, ?_, ?_⟩ (.ref ?_)
        · obtain ⟨l, e⟩ := x.pre
          exact ⟨l ++ [a], by rw [e, List.append_assoc]⟩
        · obtain ⟨h1, h2⟩ := x.keep b o hb hnb
          refine ⟨h1, fun z => ?_⟩
          rcases List.mem_append.mp z with z | z
          · exact h2 z
          · have : b = a := by simpa using z
            subst this
            rw [hn] at hb
            cases hb
        · rw [List.length_append, List.length_append, m.len]; rfl
        · rw [List.nodup_append]
          refine ⟨m.nd, by simp, fun b hb c hc => ?_⟩
          have : c = a := by simpa using hc
          subst this
          exact fun z => na (by rw [← z]; exact hb)
        · intro b hb z
          rcases List.mem_append.mp z with z | z
          · exact m.nb b (List.mem_cons_of_mem _ hb) z
          · have : b = a := by simpa using z
            subst this
            exact nb hb
        · exact fun b hb => m.bs b (List.mem_cons_of_mem _ hb)
        · intro k mk e
          by_cases hk : k < μ.length
          · rw [List.getElem?_append_left hk] at e
            obtain ⟨b, h1, h2⟩ := m.obj k mk e
            refine ⟨b, by rw [List.getElem?_append_left (by rw [m.len]; exact hk)]; exact h1, ?_⟩
            cases h2 with
            | lst h r => exact .lst h r.push
            | dctK h k r => exact .dctK h k r.push
            | dctT h k r => exact .dctT h k r.push
            | ro h r => exact .ro h r.push
          · have hk2 : k = μ.length := by
              have := (List.getElem?_eq_some_iff.mp e).1
              rw [List.length_append] at this
              simp at this
              omega
            subst hk2
            rw [List.getElem?_append_right (Nat.le_refl _)] at e
            simp at e
            subst e
            exact ⟨a, by rw [List.getElem?_append_right (by rw [m.len]; exact Nat.le_refl _), m.len]; simp, hob⟩
        · rw [List.getElem?_append_right (by rw [m.len]; exact Nat.le_refl _), m.len]; simp
      cases mm with
      | ro ds => exact h.elim
      | lst ds => exact go (by intro _ z; cases z)
      | dct t ks ds => exact go (by intro _ z; cases z)
  | exc c μ => exact h
  | bad => exact h
theorem se_new {f : Env → Store → R Out} (h : PE X e (TO g W f)) : PE X e (TO g W fun ρ μ => (f ρ μ).bind pushO) :=
  h.imp fun σ H Q ⟨B, ρ, μ, ι, at0, q⟩ => ⟨B, ρ, μ, ι, at0, new_end q⟩
end
end PyD

set_option Elab.async false
set_option linter.all false
set_option maxRecDepth 100000
set_option maxHeartbeats 4000000
/-! Targets and what loops walk. -/
namespace PyD
open PySem PySem.Spec L2

/-! ### targets -/
theorem wipe_set (σ : Sl) (i : Nat) : ∀ vs : List Nat, wipe (σ.set i none) vs = (wipe σ vs).set i none
  | [] => rfl
  | v :: vs => by
    unfold L2.wipe
    rw [wipe_set σ i vs]
    by_cases h : i = v
    · subst h; rfl
    · rw [List.set_comm _ _ h]
theorem wipe_app (σ : Sl) (b : List Nat) : ∀ a : List Nat, wipe σ (a ++ b) = wipe (wipe σ b) a
  | [] => rfl
  | v :: a => by
    show (wipe σ (a ++ b)).set v none = (wipe (wipe σ b) a).set v none
    rw [wipe_app σ b a]
theorem wipe_comm (σ : Sl) (a : List Nat) : ∀ b : List Nat, wipe (wipe σ a) b = wipe (wipe σ b) a
  | [] => rfl
  | v :: b => by
    show (wipe (wipe σ a) b).set v none = wipe ((wipe σ b).set v none) a
    rw [wipe_comm σ a b, wipe_set]
theorem wipe_two {σ σ1 σ2 : Sl} {a b : List Nat} (h1 : wipe σ1 a = wipe σ a) (h2 : wipe σ2 b = wipe σ1 b) : wipe σ2 (a ++ b) = wipe σ (a ++ b) := by
  rw [wipe_app, wipe_app, h2, wipe_comm, h1, wipe_comm]
def TGd (g : G) (tg : Tg) : TG := fun v σ H Q => ∃ B ρ μ ι d ρ', At (g.b B) σ H ρ ι μ ∧ Rep (g.b B) H ι d v ∧ asg tg μ d ρ = some ρ' ∧ ∀ σ', SlotRel (g.b B) σ' ρ' H ι → wipe σ' tg.slots = wipe σ tg.slots → Q σ' H
def TGsd (g : G) (ts : Tg) : TGs := fun vs σ H Q => ∃ B ρ μ ι ds ρ', At (g.b B) σ H ρ ι μ ∧ RepL (g.b B) H ι ds vs ∧ asgL ts μ ds ρ = some ρ' ∧ ∀ σ', SlotRel (g.b B) σ' ρ' H ι → wipe σ' ts.slots = wipe σ ts.slots → Q σ' H
theorem _root_.L2.PG.imp {X : Cx} {e : Expr} {t t' : TG} (h : PG X e t) (k : ∀ v σ H Q, t' v σ H Q → t v σ H Q) : PG X e t' := ⟨fun pins s σ H v u Q I r q => h.run pins s σ H v u Q I r (k v σ H Q q)⟩
theorem _root_.L2.PGs.imp {X : Cx} {e : List Expr} {t t' : TGs} (h : PGs X e t) (k : ∀ v σ H Q, t' v σ H Q → t v σ H Q) : PGs X e t' := ⟨fun pins s σ H v u Q I r q => h.run pins s σ H v u Q I r (k v σ H Q q)⟩
theorem _root_.L2.PG.or {X : Cx} {e : Expr} {t t' : TG} (h : PG X e t) (h' : PG X e t') : PG X e (fun v σ H Q => t v σ H Q ∨ t' v σ H Q) := ⟨fun pins s σ H v u Q I r q => q.elim (h.run pins s σ H v u Q I r) (h'.run pins s σ H v u Q I r)⟩
section
variable {g : G} {W : Str → Sl → Hp → Prop} {X : Cx} {cl : Oracle} {fns : Str → Option Fn} {gc : Consts} {n : Nat} {cc : CC}
theorem asgL_len : ∀ (ts : Tg) (es : List Expr) {μ : Store} {ds : List D} {ρ ρ' : Env}, chkTgs cc ts es = true → asgL ts μ ds ρ = some ρ' → ds.length = es.length
  | .nil, [], μ, [], ρ, ρ', _, _ => rfl
  | .nil, [], μ, d :: ds, ρ, ρ', _, h => by simp [asgL] at h
  | .nil, _ :: _, _, _, _, _, h, _ => by simp [chkTgs] at h
  | .cons t r, [], _, _, _, _, h, _ => by simp [chkTgs] at h
  | .cons t r, e :: es, _, [], _, _, _, h => by simp [asgL] at h
  | .cons t r, e :: es, μ, d :: ds, ρ, ρ', hc, h => by
    simp only [chkTgs, Bool.and_eq_true] at hc
    rw [asgL] at h
    split at h
    · simp only [List.length_cons]
      rw [asgL_len r es hc.2 h]
    · cases h
  | .nm _, _, _, _, _, _, h, _ => by simp [chkTgs] at h
  | .tp _, _, _, _, _, _, h, _ => by simp [chkTgs] at h
theorem tg_plain : ∀ (t : Tg) (e : Expr), chkTg cc t e = true → ∀ es env, assignEach (e :: es) env = (false, assign e env) :: assignEach es env
  | .nm _, e, h, es, env => by
    cases e <;> first | rfl | (simp [chkTg] at h)
  | .tp _, e, h, es, env => by
    cases e <;> first | rfl | (simp [chkTg] at h)
  | .nil, e, h, _, _ => by simp [chkTg] at h
  | .cons _ _, e, h, _, _ => by simp [chkTg] at h
theorem tgs_plain : ∀ (ts : Tg) (es : List Expr), chkTgs cc ts es = true → ∀ env, (assignEach es env).length = es.length ∧ (assignEach es env).findIdx? (·.1) = none
  | .nil, [], _, _ => ⟨rfl, rfl⟩
  | .nil, _ :: _, h, _ => by simp [chkTgs] at h
  | .cons t r, [], h, _ => by simp [chkTgs] at h
  | .cons t r, e :: es, h, env => by
    simp only [chkTgs, Bool.and_eq_true] at h
    obtain ⟨h1, h2⟩ := tgs_plain r es h.2 env
    rw [tg_plain t e h.1]
    exact ⟨by simp [h1], by simp [List.findIdx?_cons, h2]⟩
  | .nm _, _, h, _ => by simp [chkTgs] at h
  | .tp _, _, h, _ => by simp [chkTgs] at h
theorem locI {sc : Scope} {x : Str} (h : isLoc sc x = true) : Loc sc x := by
  unfold isLoc at h
  split at h
  · exact .inl (by assumption)
  · exact .inr (by assumption)
  · cases h
theorem pureI {sc : Scope} {x : Str} (h : isPure sc x = true) : sc.names.lookup x = some .local := by
  unfold isPure at h
  split at h
  · assumption
  · cases h
mutual
theorem sg_tg (C : Cok g cl fns gc n W cc X) : ∀ (t : Tg) (e : Expr), chkTg cc t e = true → PG X e (TGd g t)
  | .nm i, e, h => by
    cases e with
    | Name x pos =>
      simp only [chkTg, Bool.and_eq_true] at h
      obtain ⟨h1, h2⟩ := h
      unfold slotIs at h1
      rw [Bool.and_eq_true, decide_eq_true_eq] at h1
      unfold asgOk at h2
      rw [Bool.and_eq_true, Bool.or_eq_true] at h2
      refine (pg_name (i := i) (by rw [C.hN]; exact C.nd) (by rw [C.hN]; exact h1.1) (by rw [C.sc]; exact locI h2.1) (h2.2.elim (fun z => .inl (C.fn x z)) fun z => .inr (by rw [C.sc]; exact pureI z))).imp fun v σ H Q ⟨B, ρ, μ, ι, d, ρ', a, r, e, q⟩ => ?_
      rw [asg] at e
      cases e
      exact q _ (a.s.set r i) (by show (σ.set i (some v)).set i none = σ.set i none; rw [List.set_set])
    | _ => simp [chkTg] at h
  | .tp ts, e, h => by
    cases e with
    | Tuple es k pos =>
      have h : chkTgs cc ts es = true := by rw [chkTg] at h; exact h
      have hs := sg_tgs C ts es h
      obtain ⟨p1, p2⟩ := tgs_plain ts es h X.env
      refine (PG.or (pg_tup (n := es.length) C.calm hs p1 p2) (pg_unl (n := es.length) C.calm hs p1 p2)).imp fun v σ H Q ⟨B, ρ, μ, ι, d, ρ', a, r, e, q⟩ => ?_
      rw [asg] at e
      split at e
      · rename_i ds hd
        obtain ⟨b, vs, rfl, hq, rl⟩ := seq_of (g := g.b B) hd a.m r
        have hl : vs.length = es.length := by rw [← rl.length]; exact asgL_len ts es h e
        have w : TGsd g ts vs σ H Q := ⟨B, ρ, μ, ι, ds, ρ', a, rl, e, q⟩
        rcases hq with hq | hq
        · exact .inr ⟨b, vs, rfl, by rw [C.hK]; exact hq, hl, w⟩
        · exact .inl ⟨b, vs, rfl, by rw [C.hK]; exact hq, hl, w⟩
      · cases e
    | _ => simp [chkTg] at h
  | .nil, _, h => by simp [chkTg] at h
  | .cons _ _, _, h => by simp [chkTg] at h
theorem sg_tgs (C : Cok g cl fns gc n W cc X) : ∀ (ts : Tg) (es : List Expr), chkTgs cc ts es = true → PGs X es (TGsd g ts)
  | .nil, [], _ => pgs_nil.imp fun vs σ H Q ⟨B, ρ, μ, ι, ds, ρ', a, r, e, q⟩ => by
    cases r with
    | nil => rw [asgL] at e; cases e; exact ⟨rfl, q _ a.s rfl⟩
    | cons _ _ => simp [asgL] at e
  | .cons t r, e :: es, h => by
    simp only [chkTgs, Bool.and_eq_true] at h
    refine (pgs_cons (sg_tg C t e h.1) (sg_tgs C r es h.2) (by rw [tg_plain t e h.1]; rfl)).imp fun vs σ H Q ⟨B, ρ, μ, ι, ds, ρ', a, rl, ea, q⟩ => ?_
    cases rl with
    | nil => simp [asgL] at ea
    | @cons d v ds vs rv rl =>
      rw [asgL] at ea
      split at ea
      · rename_i ρ1 h1
        refine ⟨v, vs, rfl, B, ρ, μ, ι, d, ρ1, a, rv, h1, fun σ1 s1 w1 => ?_⟩
        exact ⟨B, ρ1, μ, ι, ds, ρ', ⟨s1, a.m⟩, rl, ea, fun σ2 s2 w2 => q σ2 s2 (wipe_two w1 w2)⟩
      · cases ea
  | .nil, _ :: _, h => by simp [chkTgs] at h
  | .cons t r, [], h => by simp [chkTgs] at h
  | .nm _, _, h => by simp [chkTgs] at h
  | .tp _, _, h => by simp [chkTgs] at h
end
end

/-! ### walks -/
def Src.item (src : Src) (μ : Store) (i : Nat) : Option D := match src with
  | .its ds => ds[i]?
  | .live n N => (liveAt n N μ).bind fun ds => ds[i]?
def Src.len : Src → Nat
  | .its ds => ds.length
  | .live _ N => N
def Src.okAt (src : Src) (μ : Store) : Bool := match src with
  | .its _ => true
  | .live n N => (liveAt n N μ).isSome
def WalkOk (g : G) (H0 : Hp) (ι0 : List Addr) (src : Src) (J : It) : Prop := ∀ B' H ι μ, (∀ b ∈ B', b ∈ g.B ∨ H0 b = none) → Ext (rmH H0 g.B) ι0 H ι → MemRel (g.b B') H ι μ →
  (∀ i d, src.item μ i = some d → J.go i H ∧ ∀ x H', J.yld i H x H' → Ext H ι H' ι ∧ MemRel (g.b B') H' ι μ ∧ Rep (g.b B') H' ι d x) ∧ (src.okAt μ = true → J.stop src.len H)
mutual
theorem Rep.moreL {g : G} {H : Hp} {ι : List Addr} {B' : List Addr} (x : ∀ b ∈ B', b ∈ g.B ∨ H b = none) : ∀ {d : D} {v : V}, Rep g H ι d v → Rep (g.b B') H ι d v
  | _, _, .non => .non
  | _, _, .bl b => .bl b
  | _, _, .int b => .int b
  | _, _, .str b => .str b
  | _, _, .tup h r => .tup h (RepL.moreL x r)
  | _, _, .pair h r => .pair h (RepL.moreL x r)
  | _, _, .lst h n b r => .lst h n (fun z => (x _ z).elim b fun q => by rw [h] at q; cases q) (RepL.moreL x r)
  | _, _, .dctK h n b k r => .dctK h n (fun z => (x _ z).elim b fun q => by rw [h] at q; cases q) k (RepL.moreL x r)
  | _, _, .dctT h n b k r => .dctT h n (fun z => (x _ z).elim b fun q => by rw [h] at q; cases q) k (RepL.moreL x r)
  | _, _, .ref h => .ref h
  | _, _, .glb h => .glb h
  | _, _, .ktup h r => .ktup h (RepL.moreL x r)
theorem RepL.moreL {g : G} {H : Hp} {ι : List Addr} {B' : List Addr} (x : ∀ b ∈ B', b ∈ g.B ∨ H b = none) : ∀ {ds : List D} {vs : List V}, RepL g H ι ds vs → RepL (g.b B') H ι ds vs
  | _, _, .nil => .nil
  | _, _, .cons a b => .cons (Rep.moreL x a) (RepL.moreL x b)
end
section
variable {g : G} {H0 : Hp} {ι0 : List Addr} {a b : Addr} {vs ws : List V} {ds es : List D} {K : PySem.W.Frag} {μ0 : Store}
/-- what stands for a value list, in every later heap -/
def StayL (g : G) (K : PySem.W.Frag) (H0 : Hp) (ι0 : List Addr) (a : Addr) (vs : List V) : Prop := ∀ H ι, Ext (rmH H0 g.B) ι0 H ι → SqL K H a vs
def StayT (g : G) (K : PySem.W.Frag) (H0 : Hp) (ι0 : List Addr) (a : Addr) (vs : List V) : Prop := ∀ H ι, Ext (rmH H0 g.B) ι0 H ι → SqT K H a vs
theorem RepL.later {μ0 : Store} {B' : List Addr} {H : Hp} {ι : List Addr} (wf : MemRel g H0 ι0 μ0) (hb : ∀ b ∈ B', b ∈ g.B ∨ H0 b = none) (x : Ext (rmH H0 g.B) ι0 H ι) (r : RepL g H0 ι0 ds vs) : RepL (g.b B') H ι ds vs :=
  ((r.wo wf.nt).moreL fun b z => (hb b z).elim .inl fun q => .inr (by unfold rmH; split <;> first | rfl | exact q)).mono x (wf.wf.rm _)
theorem walk_lst (wf : MemRel g H0 ι0 μ0) (st : StayL g K H0 ι0 a vs) (r : RepL g H0 ι0 ds vs) : WalkOk g H0 ι0 (.its ds) (Itl K a) := fun B' H ι μ hb x m => by
  have r' := r.later wf hb x
  refine ⟨fun i d e => ?_, fun _ => ⟨vs, st H ι x, by show vs.length ≤ ds.length; rw [r.length]; exact Nat.le_refl _⟩⟩
  obtain ⟨v, h1, h2⟩ := r'.get e
  exact ⟨⟨vs, v, st H ι x, h1⟩, fun y H' ⟨e1, e2⟩ => by
    subst e1
    have := e2 vs (st _ ι x)
    rw [h1] at this
    cases this
    exact ⟨Ext.refl, m, h2⟩⟩
theorem walk_tup (wf : MemRel g H0 ι0 μ0) (st : StayT g K H0 ι0 a vs) (r : RepL g H0 ι0 ds vs) : WalkOk g H0 ι0 (.its ds) (Itt K a) := fun B' H ι μ hb x m => by
  have r' := r.later wf hb x
  refine ⟨fun i d e => ?_, fun _ => ⟨vs, st H ι x, by show vs.length ≤ ds.length; rw [r.length]; exact Nat.le_refl _⟩⟩
  obtain ⟨v, h1, h2⟩ := r'.get e
  exact ⟨⟨vs, v, st H ι x, h1⟩, fun y H' ⟨e1, e2⟩ => by
    subst e1
    have := e2 vs (st _ ι x)
    rw [h1] at this
    cases this
    exact ⟨Ext.refl, m, h2⟩⟩
theorem walk_rev (wf : MemRel g H0 ι0 μ0) (st : StayL g K H0 ι0 a vs) (r : RepL g H0 ι0 ds vs) : WalkOk g H0 ι0 (.its ds.reverse) (Itv K a vs.length) := fun B' H ι μ hb x m => by
  have r' := r.later wf hb x
  have hl := r.length
  refine ⟨fun i d e => ?_, fun _ => by show vs.length ≤ ds.reverse.length; rw [List.length_reverse, hl]; exact Nat.le_refl _⟩
  have e : ds.reverse[i]? = some d := e
  have hi : i < ds.length := by have := (List.getElem?_eq_some_iff.mp e).1; simpa using this
  rw [List.getElem?_reverse hi, hl] at e
  obtain ⟨v, h1, h2⟩ := r'.get e
  exact ⟨⟨by omega, vs, v, st H ι x, h1⟩, fun y H' ⟨e1, e2⟩ => by
    subst e1
    have := e2 vs (st _ ι x)
    rw [h1] at this
    cases this
    exact ⟨Ext.refl, m, h2⟩⟩
theorem walk_revT (wf : MemRel g H0 ι0 μ0) (st : StayT g K H0 ι0 a vs) (r : RepL g H0 ι0 ds vs) : WalkOk g H0 ι0 (.its ds.reverse) (RT.ItvT K a vs.length) := fun B' H ι μ hb x m => by
  have r' := r.later wf hb x
  have hl := r.length
  refine ⟨fun i d e => ?_, fun _ => by show vs.length ≤ ds.reverse.length; rw [List.length_reverse, hl]; exact Nat.le_refl _⟩
  have e : ds.reverse[i]? = some d := e
  have hi : i < ds.length := by have := (List.getElem?_eq_some_iff.mp e).1; simpa using this
  rw [List.getElem?_reverse hi, hl] at e
  obtain ⟨v, h1, h2⟩ := r'.get e
  exact ⟨⟨by omega, vs, v, st H ι x, h1⟩, fun y H' ⟨e1, e2⟩ => by
    subst e1
    have := e2 vs (st _ ι x)
    rw [h1] at this
    cases this
    exact ⟨Ext.refl, m, h2⟩⟩
theorem range_get (lo : Int) : ∀ (n i : Nat), (rangeD lo n)[i]? = if i < n then some (.int (lo + (i : Nat))) else none := by
  intro n
  induction n generalizing lo with
  | zero => intro i; simp [rangeD]
  | succ n ih =>
    intro i
    cases i with
    | zero => simp [rangeD]
    | succ i =>
      rw [rangeD, List.getElem?_cons_succ, ih]
      by_cases h : i < n
      · rw [if_pos h, if_pos (by omega)]
        congr 2
        omega
      · rw [if_neg h, if_neg (by omega)]
theorem range_len (lo : Int) : ∀ n : Nat, (rangeD lo n).length = n := by
  intro n
  induction n generalizing lo with
  | zero => rfl
  | succ n ih => rw [rangeD, List.length_cons, ih]
theorem walk_range (lo : Int) (n : Nat) : WalkOk g H0 ι0 (.its (rangeD lo n)) (Itr lo n) := fun B' H ι μ hb x m => by
  refine ⟨fun i d e => ?_, fun _ => by show n ≤ (rangeD lo n).length; rw [range_len]; exact Nat.le_refl _⟩
  have e : (rangeD lo n)[i]? = some d := e
  rw [range_get] at e
  split at e
  · rename_i hi
    cases e
    exact ⟨hi, fun y H' ⟨e1, e2⟩ => by subst e1 e2; exact ⟨Ext.refl, m, .int _⟩⟩
  · cases e
theorem walk_str (z : Str) : WalkOk g H0 ι0 (.its (strChars z)) (Its z) := fun B' H ι μ hb x m => by
  refine ⟨fun i d e => ?_, fun _ => by show z.cps.size ≤ (strChars z).length; simp [strChars]⟩
  have e : (strChars z)[i]? = some d := e
  unfold strChars at e
  rw [List.getElem?_map, Option.map_eq_some_iff] at e
  obtain ⟨c, h1, rfl⟩ := e
  rw [Array.getElem?_toList] at h1
  refine ⟨(Array.getElem?_eq_some_iff.mp h1).1, fun y H' ⟨e1, c', e2, e3⟩ => ?_⟩
  subst e1 e3
  rw [h1] at e2
  cases e2
  exact ⟨Ext.refl, m, .str _⟩
theorem zip_get : ∀ (xs ys : List D) (i : Nat) (d : D), (zipD xs ys)[i]? = some d → ∃ x y, xs[i]? = some x ∧ ys[i]? = some y ∧ d = .ktup [x, y]
  | [], _, _, _, h => by simp [zipD] at h
  | _ :: _, [], _, _, h => by simp [zipD] at h
  | x :: xs, y :: ys, 0, d, h => by simp [zipD] at h; exact ⟨x, y, rfl, rfl, h.symm⟩
  | x :: xs, y :: ys, i + 1, d, h => by
    rw [zipD, List.getElem?_cons_succ] at h
    obtain ⟨x', y', h1, h2, h3⟩ := zip_get xs ys i d h
    exact ⟨x', y', by simpa using h1, by simpa using h2, h3⟩
theorem zip_len : ∀ (xs ys : List D), xs.length ≤ (zipD xs ys).length ∨ ys.length ≤ (zipD xs ys).length
  | [], _ => .inl (Nat.zero_le _)
  | _ :: _, [] => .inr (Nat.zero_le _)
  | x :: xs, y :: ys => by
    simp only [zipD, List.length_cons]
    rcases zip_len xs ys with h | h
    · exact .inl (by omega)
    · exact .inr (by omega)
theorem pair_new {B' : List Addr} {H H' : Hp} {ι : List Addr} {μ : Store} {T : Addr} {x y : V} {d e : D} (m : MemRel (g.b B') H ι μ) (hT : H T = none) (e' : H' = upd H T (.tup [x, y])) (r1 : Rep (g.b B') H ι d x) (r2 : Rep (g.b B') H ι e y) :
    Ext H ι H' ι ∧ MemRel (g.b B') H' ι μ ∧ Rep (g.b B') H' ι (.ktup [d, e]) (.ref T) := by
  subst e'
  have x1 : Ext H ι (upd H T (.tup [x, y])) ι := Ext.new hT
  exact ⟨x1, m.new hT, .pair upd_same (.cons (r1.mono x1 m.wf) (.cons (r2.mono x1 m.wf) .nil))⟩
theorem walk_zip (wf : MemRel g H0 ι0 μ0) (st : StayL g K H0 ι0 a vs) (r : RepL g H0 ι0 ds vs) (st2 : StayL g K H0 ι0 b ws) (r2 : RepL g H0 ι0 es ws) : WalkOk g H0 ι0 (.its (zipD ds es)) (Itz K a b) := fun B' H ι μ hb x m => by
  have r' := r.later wf hb x
  have r2' := r2.later wf hb x
  refine ⟨fun i d e => ?_, fun _ => ⟨vs, ws, st H ι x, st2 H ι x, by show vs.length ≤ (zipD ds es).length ∨ ws.length ≤ (zipD ds es).length; rw [← r.length, ← r2.length]; exact zip_len ds es⟩⟩
  obtain ⟨d1, d2, g1, g2, rfl⟩ := zip_get ds es i d e
  obtain ⟨v, h1, h2⟩ := r'.get g1
  obtain ⟨w, h3, h4⟩ := r2'.get g2
  exact ⟨⟨vs, ws, v, w, st H ι x, st2 H ι x, h1, h3⟩, fun y H' ⟨T, p, q, e1, hT, e2, e3, e4⟩ => by
    subst e1
    have := e3 vs (st _ ι x)
    rw [h1] at this
    cases this
    have := e4 ws (st2 _ ι x)
    rw [h3] at this
    cases this
    exact pair_new m hT e2 h2 h4⟩
theorem walk_zipT (wf : MemRel g H0 ι0 μ0) (st : StayT g K H0 ι0 a vs) (r : RepL g H0 ι0 ds vs) (st2 : StayT g K H0 ι0 b ws) (r2 : RepL g H0 ι0 es ws) : WalkOk g H0 ι0 (.its (zipD ds es)) (RZ.ItzT K a b) := fun B' H ι μ hb x m => by
  have r' := r.later wf hb x
  have r2' := r2.later wf hb x
  refine ⟨fun i d e => ?_, fun _ => ⟨vs, ws, st H ι x, st2 H ι x, by show vs.length ≤ (zipD ds es).length ∨ ws.length ≤ (zipD ds es).length; rw [← r.length, ← r2.length]; exact zip_len ds es⟩⟩
  obtain ⟨d1, d2, g1, g2, rfl⟩ := zip_get ds es i d e
  obtain ⟨v, h1, h2⟩ := r'.get g1
  obtain ⟨w, h3, h4⟩ := r2'.get g2
  exact ⟨⟨vs, ws, v, w, st H ι x, st2 H ι x, h1, h3⟩, fun y H' ⟨T, p, q, e1, hT, e2, e3, e4⟩ => by
    subst e1
    have := e3 vs (st _ ι x)
    rw [h1] at this
    cases this
    have := e4 ws (st2 _ ι x)
    rw [h3] at this
    cases this
    exact pair_new m hT e2 h2 h4⟩
theorem enum_get : ∀ (k : Nat) (xs : List D) (i : Nat) (d : D), (enumD k xs)[i]? = some d → ∃ x, xs[i]? = some x ∧ d = .ktup [.int ((k + i : Nat)), x]
  | _, [], _, _, h => by simp [enumD] at h
  | k, x :: xs, 0, d, h => by simp [enumD] at h; exact ⟨x, rfl, h.symm⟩
  | k, x :: xs, i + 1, d, h => by
    rw [enumD, List.getElem?_cons_succ] at h
    obtain ⟨x', h1, h3⟩ := enum_get (k + 1) xs i d h
    refine ⟨x', by simpa using h1, ?_⟩
    rw [h3]
    congr 3
    omega
theorem enum_len : ∀ (k : Nat) (xs : List D), (enumD k xs).length = xs.length
  | _, [] => rfl
  | k, x :: xs => by rw [enumD, List.length_cons, List.length_cons, enum_len]
theorem walk_enum (wf : MemRel g H0 ι0 μ0) (st : StayL g K H0 ι0 a vs) (r : RepL g H0 ι0 ds vs) : WalkOk g H0 ι0 (.its (enumD 0 ds)) (Ite K a) := fun B' H ι μ hb x m => by
  have r' := r.later wf hb x
  refine ⟨fun i d e => ?_, fun _ => ⟨vs, st H ι x, by show vs.length ≤ (enumD 0 ds).length; rw [enum_len, r.length]; exact Nat.le_refl _⟩⟩
  obtain ⟨d1, g1, rfl⟩ := enum_get 0 ds i d e
  obtain ⟨v, h1, h2⟩ := r'.get g1
  exact ⟨⟨vs, v, st H ι x, h1⟩, fun y H' ⟨T, p, e1, hT, e2, e3⟩ => by
    subst e1
    have := e3 vs (st _ ι x)
    rw [h1] at this
    cases this
    refine pair_new m hT e2 ?_ h2
    rw [Nat.zero_add]
    exact .int _⟩
theorem walk_enumT (wf : MemRel g H0 ι0 μ0) (st : StayT g K H0 ι0 a vs) (r : RepL g H0 ι0 ds vs) : WalkOk g H0 ι0 (.its (enumD 0 ds)) (IteT K a) := fun B' H ι μ hb x m => by
  have r' := r.later wf hb x
  refine ⟨fun i d e => ?_, fun _ => ⟨vs, st H ι x, by show vs.length ≤ (enumD 0 ds).length; rw [enum_len, r.length]; exact Nat.le_refl _⟩⟩
  obtain ⟨d1, g1, rfl⟩ := enum_get 0 ds i d e
  obtain ⟨v, h1, h2⟩ := r'.get g1
  exact ⟨⟨vs, v, st H ι x, h1⟩, fun y H' ⟨T, p, e1, hT, e2, e3⟩ => by
    subst e1
    have := e3 vs (st _ ι x)
    rw [h1] at this
    cases this
    refine pair_new m hT e2 ?_ h2
    rw [Nat.zero_add]
    exact .int _⟩
theorem live_of {g : G} {H : Hp} {ι : List Addr} {n N : Nat} {μ : Store} {ds : List D} (m : MemRel g H ι μ) (ha : ι[n]? = some a) (h : liveAt n N μ = some ds) : ∃ vs, SqL K H a vs ∧ RepL g H ι ds vs ∧ ds.length = N := by
  unfold liveAt at h
  split at h
  · rename_i es he
    split at h
    · cases h
      obtain ⟨a', h1, h2⟩ := m.obj _ _ he
      rw [ha] at h1
      cases h1
      cases h2 with
      | lst h r => exact ⟨_, SqL.of h, r, by assumption⟩
    · cases h
  · rename_i es he
    split at h
    · cases h
      obtain ⟨a', h1, h2⟩ := m.obj _ _ he
      rw [ha] at h1
      cases h1
      cases h2 with
      | ro h r => exact ⟨_, .inl (.inr ⟨_, h⟩), r, by assumption⟩
    · cases h
  · cases h
theorem walk_live {n N : Nat} (ha : ι0[n]? = some a) : WalkOk g H0 ι0 (.live n N) (Itl K a) := fun B' H ι μ hb x m => by
  have ha' := x.get ha
  refine ⟨fun i d e => ?_, fun e => ?_⟩
  · have e : ((liveAt n N μ).bind fun ds => ds[i]?) = some d := e
    rw [Option.bind_eq_some_iff] at e
    obtain ⟨ds, h1, h2⟩ := e
    obtain ⟨vs, h3, h4, _⟩ := live_of (K := K) m ha' h1
    obtain ⟨v, h5, h6⟩ := h4.get h2
    exact ⟨⟨vs, v, h3, h5⟩, fun y H' ⟨e1, e2⟩ => by
      subst e1
      have := e2 vs h3
      rw [h5] at this
      cases this
      exact ⟨Ext.refl, m, h6⟩⟩
  · have e : (liveAt n N μ).isSome = true := e
    obtain ⟨ds, h1⟩ := Option.isSome_iff_exists.mp e
    obtain ⟨vs, h3, h4, h5⟩ := live_of (K := K) m ha' h1
    exact ⟨vs, h3, by show vs.length ≤ N; rw [← h4.length, h5]; exact Nat.le_refl _⟩
end
end PyD

set_option Elab.async false
set_option linter.all false
set_option maxRecDepth 100000
set_option maxHeartbeats 4000000
/-! What loops walk: the rules. -/
namespace PyD
open PySem PySem.Spec L2
theorem _root_.L2.PI.imp {X : Cx} {tg e : Expr} {t t' : TI} (h : PI X tg e t) (k : ∀ σ H R, t' σ H R → t σ H R) : PI X tg e t' := ⟨fun pins s σ H R I q => h.run pins s σ H R I (k σ H R q)⟩
theorem _root_.L2.PI.or {X : Cx} {tg e : Expr} {t t' : TI} (h : PI X tg e t) (h' : PI X tg e t') : PI X tg e (fun σ H R => t σ H R ∨ t' σ H R) := ⟨fun pins s σ H R I q => q.elim (h.run pins s σ H R I) (h'.run pins s σ H R I)⟩
def TIs (g : G) (W : Str → Sl → Hp → Prop) (f : Env → Store → R Src) : TI := fun σ H R => ∃ B ρ μ ι, At (g.b B) σ H ρ ι μ ∧ post (fun H' ι' src J => WalkOk (g.b B) H' ι' src J) (g.b B) (fun c H' => W c σ H') H ι (f ρ μ) R
section
variable {g : G} {W : Str → Sl → Hp → Prop} {X : Cx} {e a b tg : Expr} {es : List Expr} {pos : Pos} {fa fb : Env → Store → R D} {cl : Oracle} {fns : Str → Option Fn} {gc : Consts} {n : Nat} {cc : CC}
/-- a part that does not end in a value -/
theorem td_exc {σ : Sl} {H : Hp} {B : List Addr} {ρ : Env} {μ μ' : Store} {ι : List Addr} {Q : VK} {c : Str} {RR : It → Hp → Prop} {k : D → Store → R Src} (at0 : At (g.b B) σ H ρ ι μ) (e : fa ρ μ = .exc c μ')
    (q : post (fun H' ι' src J => WalkOk (g.b B) H' ι' src J) (g.b B) (fun c H' => W c σ H') H ι ((fa ρ μ).bind k) RR) : TD g W fa σ H Q :=
  ⟨B, ρ, μ, ι, at0, by rw [e] at q ⊢; exact q⟩
theorem stay_lst {K : PySem.W.Frag} {H : Hp} {ι : List Addr} {a : Addr} {vs : List V} (h : H a = some (.lst vs)) (n1 : a ∉ ι) (n2 : a ∉ g.B) : StayL g K H ι a vs := fun _ _ x => SqL.of (x.keep _ _ (by rw [rmH_out n2]; exact h) n1).1
theorem stay_tup {K : PySem.W.Frag} {H : Hp} {ι : List Addr} {μ : Store} {a : Addr} {b : Bool} {vs : List V} (m : MemRel g H ι μ) (h : TupAt H b a vs) : StayT g K H ι a vs := fun _ _ x => by
  obtain ⟨u, h1, h2⟩ := h.isT
  refine TupAt.sq (h.to fun o ho => ?_)
  rw [h1] at ho
  cases ho
  exact (x.keep _ _ (by
    rw [rmH_out fun z => ?_]
    · exact h1
    · rw [(m.nt _ z).2 _ h1] at h2
      cases h2) (m.wf.tup _ _ h1 h2)).1
def overD : D → Store → R Src := fun x μ => match x with
  | .lst ds => .ok (.its ds) μ
  | .tup ds => .ok (.its ds) μ
  | .ktup ds => .ok (.its ds) μ
  | .str z => .ok (.its (strChars z)) μ
  | .ref n => match μ[n]? with
    | some (.lst ds) => .ok (.live n ds.length) μ
    | some (.ro ds) => .ok (.live n ds.length) μ
    | _ => .bad
  | _ => .bad
theorem si_over (C : Cok g cl fns gc n W cc X) (ha : PE X a (TD g W fa)) : PI X tg a (TIs g W fun ρ μ => (fa ρ μ).bind overD) :=
  (PI.or (pi_list ha) (PI.or (pi_tup ha) (pi_str ha))).imp fun σ H RR ⟨B, ρ, μ, ι, at0, q⟩ => (by
    have q : post (fun H' ι' src J => WalkOk (g.b B) H' ι' src J) (g.b B) (fun c H' => W c σ H') H ι ((fa ρ μ).bind overD) RR := q
    cases e : fa ρ μ with
    | bad => rw [e] at q; exact q.elim
    | exc c μ' => exact .inl (td_exc at0 e q)
    | ok d μ' =>
      rw [e] at q
      have go : ∀ {Q : VK}, (∀ v H' ι', Ext H ι H' ι' → MemRel (g.b B) H' ι' μ' → Rep (g.b B) H' ι' d v → Q v H') → TD g W fa σ H Q := fun h => ⟨B, ρ, μ, ι, at0, by rw [e]; exact h⟩
      cases d with
      | lst ds =>
        refine .inl (go fun v H' ι' x m r => ?_)
        cases r with
        | lst h n1 n2 rl => exact ⟨_, rfl, ⟨_, SqL.of h⟩, q _ H' ι' x m (walk_lst m (stay_lst h n1 n2) rl)⟩
      | tup ds =>
        refine .inr (.inl (go fun v H' ι' x m r => ?_))
        cases r with
        | tup h rl => exact ⟨_, rfl, ⟨_, h.sq⟩, q _ H' ι' x m (walk_tup m (stay_tup m h) rl)⟩
      | ktup ds =>
        refine .inr (.inl (go fun v H' ι' x m r => ?_))
        cases r with
        | ktup h rl => exact ⟨_, rfl, ⟨_, by rw [C.hK]; exact sqT_k h⟩, q _ H' ι' x m (walk_tup m (fun H2 ι2 x2 => by rw [C.hK]; exact sqT_k h) rl)⟩
        | pair h rl => exact ⟨_, rfl, ⟨_, SqT.of h⟩, q _ H' ι' x m (walk_tup m (stay_tup (b := true) m ⟨{ cls := .none, data := .fields #[] }, rfl, h⟩) rl)⟩
      | str z =>
        refine .inr (.inr (go fun v H' ι' x m r => ?_))
        cases r with
        | str => exact ⟨_, rfl, q _ H' ι' x m (walk_str z)⟩
      | ref k =>
        refine .inl (go fun v H' ι' x m r => ?_)
        cases r with
        | @ref _ a ha =>
          have q : post (fun H' ι' src J => WalkOk (g.b B) H' ι' src J) (g.b B) (fun c H' => W c σ H') H ι (match μ'[k]? with
            | some (.lst ds) => R.ok (.live k ds.length) μ'
            | some (.ro ds) => .ok (.live k ds.length) μ'
            | _ => .bad) RR := q
          split at q
          · rename_i ds hd
            obtain ⟨vs, h3, h4, h5⟩ := live_of (g := g.b B) (K := X.K) (n := k) (N := ds.length) (ds := ds) m ha (by unfold liveAt; rw [hd]; simp)
            exact ⟨_, rfl, ⟨_, h3⟩, q _ H' ι' x m (walk_live ha)⟩
          · rename_i ds hd
            obtain ⟨vs, h3, h4, h5⟩ := live_of (g := g.b B) (K := X.K) (n := k) (N := ds.length) (ds := ds) m ha (by unfold liveAt; rw [hd]; simp)
            exact ⟨_, rfl, ⟨_, h3⟩, q _ H' ι' x m (walk_live ha)⟩
          · exact q.elim
      | _ => exact q.elim)
def rng1D : D → Store → R Src := fun x μ => match x with
  | .int j => if ok62 j then .ok (.its (rangeD 0 j.toNat)) μ else .bad
  | _ => .bad
theorem ok62I {i : Int} (h : ok62 i = true) : -(2 ^ 62) ≤ i ∧ i < 2 ^ 62 := by
  unfold ok62 at h
  have := Nat.le_of_ble_eq_true h
  omega
theorem si_range1 {x : Str} {p : Pos} (C : Cok g cl fns gc n W cc X) (hx : x = "range") (hb : isBlt cc x = true) (hpl : Plain [a]) (ha : PE X a (TD g W fa)) : PI X tg (.Call (.Name x p) [a] [] pos) (TIs g W fun ρ μ => (fa ρ μ).bind rng1D) := by
  have bt := C.blt hb
  subst hx
  refine (pi_range1 bt.gl bt.mg (pa_cons ha pa_nil (hpl a (by simp) _ _)) (hpl a (by simp) _ _)).imp fun σ H RR ⟨B, ρ, μ, ι, at0, q⟩ => ?_
  obtain ⟨B1, ρ1, μ1, ι1, a1, q1⟩ := td_bindG (W := W) (rep := fun g H' ι' src J => WalkOk g H' ι' src J) at0 q
  refine ⟨B1, ρ1, μ1, ι1, a1, q1.imp fun v H1 ⟨d, μ2, ι2, x2, a2, r2, q2⟩ => ?_⟩
  unfold rng1D at q2
  split at q2
  · split at q2
    · rename_i hj
      cases r2
      obtain ⟨h1, h2⟩ := ok62I hj
      exact ⟨_, rfl, h1, h2, q2 _ H1 ι2 Ext.refl a2.m (walk_range 0 _)⟩
    · exact q2.elim
  · exact q2.elim
theorem si_range2 {x : Str} {p : Pos} (C : Cok g cl fns gc n W cc X) (hx : x = "range") (hb : isBlt cc x = true) (hpl : Plain [a, b]) (ha : PE X a (TD g W fa)) (hbb : PE X b (TD g W fb)) :
    PI X tg (.Call (.Name x p) [a, b] [] pos) (TIs g W fun ρ μ => (fa ρ μ).bind fun x μ => (fb ρ μ).bind fun y μ => match x, y with
    | .int i, .int j => if ok62 i && ok62 j then .ok (.its (rangeD i (j - i).toNat)) μ else .bad
    | _, _ => .bad) := by
  have bt := C.blt hb
  subst hx
  have e2 := hpl b (by simp) X.env []
  have e1 := hpl a (by simp) X.env [b]
  refine (pi_range2 bt.gl bt.mg (pa_cons ha (pa_cons hbb pa_nil e2) e1) (by rw [e1, e2]; rfl) e2).imp fun σ H RR ⟨B, ρ, μ, ι, at0, q⟩ => ?_
  obtain ⟨B1, ρ1, μ1, ι1, a1, q1⟩ := td_bindG (W := W) (rep := fun g H' ι' src J => WalkOk g H' ι' src J) at0 q
  refine ⟨B1, ρ1, μ1, ι1, a1, q1.imp fun v H1 ⟨d, μ2, ι2, x2, a2, r2, q2⟩ => ?_⟩
  obtain ⟨B3, ρ3, μ3, ι3, a3, q3⟩ := td_bindG (W := W) (rep := fun g H' ι' src J => WalkOk g H' ι' src J) a2 q2
  refine ⟨B3, ρ3, μ3, ι3, a3, q3.imp fun u H3 ⟨d', μ4, ι4, x4, a4, r4, q4⟩ => ?_⟩
  split at q4
  · split at q4
    · rename_i hj
      rw [Bool.and_eq_true] at hj
      cases r2
      cases r4
      obtain ⟨h1, h2⟩ := ok62I hj.1
      obtain ⟨h3, h4⟩ := ok62I hj.2
      exact ⟨_, _, rfl, ⟨h1, h2, h3, h4⟩, q4 _ H3 ι4 Ext.refl a4.m (walk_range _ _)⟩
    · exact q4.elim
  · exact q4.elim
theorem si_zip {x : Str} {p tp : Pos} {elts : List Expr} {kk : Nat} (C : Cok g cl fns gc n W cc X) (hx : x = "zip") (hb : isBlt cc x = true) (hpl : Plain [a, b]) (ha : PE X a (TD g W fa)) (hbb : PE X b (TD g W fb)) :
    PI X (.Tuple elts kk tp) (.Call (.Name x p) [a, b] [] pos) (TIs g W fun ρ μ => (fa ρ μ).bind fun x μ => (fb ρ μ).bind fun y μ => match x, y with
    | .lst xs, .lst ys => .ok (.its (zipD xs ys)) μ
    | .tup xs, .tup ys => .ok (.its (zipD xs ys)) μ
    | _, _ => .bad) := by
  have bt := C.blt hb
  subst hx
  have e2 := hpl b (by simp) X.env []
  have e1 := hpl a (by simp) X.env [b]
  refine (RZ.pi_zipA bt.gl bt.mg (pa_cons ha (pa_cons hbb pa_nil e2) e1) e1 (spliced_plain (fun e he => hpl e (List.mem_cons_of_mem _ he)) pos X.env)).imp fun σ H RR ⟨B, ρ, μ, ι, at0, q⟩ => ?_
  obtain ⟨B1, ρ1, μ1, ι1, a1, q1⟩ := td_bindG (W := W) (rep := fun g H' ι' src J => WalkOk g H' ι' src J) at0 q
  refine ⟨B1, ρ1, μ1, ι1, a1, q1.imp fun v H1 ⟨d, μ2, ι2, x2, a2, r2, q2⟩ => ?_⟩
  obtain ⟨B3, ρ3, μ3, ι3, a3, q3⟩ := td_bindG (W := W) (rep := fun g H' ι' src J => WalkOk g H' ι' src J) a2 q2
  refine ⟨B3, ρ3, μ3, ι3, a3, q3.imp fun u H3 ⟨d', μ4, ι4, x4, a4, r4, q4⟩ => ?_⟩
  have r2' := r2.mono x4 a2.m.wf
  split at q4
  · cases r2' with
    | lst h n1 n2 rl =>
      cases r4 with
      | lst h' n1' n2' rl' =>
        exact ⟨_, _, _, _, rfl, .inl ⟨SqL.of h, SqL.of h', q4 _ H3 ι4 Ext.refl a4.m (walk_zip a4.m (stay_lst h n1 n2) rl (stay_lst h' n1' n2') rl')⟩⟩
  · cases r2' with
    | tup h rl =>
      cases r4 with
      | tup h' rl' =>
        exact ⟨_, _, _, _, rfl, .inr ⟨h.sq, h'.sq, q4 _ H3 ι4 Ext.refl a4.m (walk_zipT a4.m (stay_tup a4.m h) rl (stay_tup a4.m h') rl')⟩⟩
  · exact q4.elim
theorem si_enum {x : Str} {p tp : Pos} {elts : List Expr} {kk : Nat} (C : Cok g cl fns gc n W cc X) (hx : x = "enumerate") (hb : isBlt cc x = true) (hpl : Plain [a]) (ha : PE X a (TD g W fa)) :
    PI X (.Tuple elts kk tp) (.Call (.Name x p) [a] [] pos) (TIs g W fun ρ μ => (fa ρ μ).bind fun x μ => match x with
    | .lst xs => .ok (.its (enumD 0 xs)) μ
    | .tup xs => .ok (.its (enumD 0 xs)) μ
    | _ => .bad) := by
  have bt := C.blt hb
  subst hx
  have e1 := hpl a (by simp) X.env []
  refine (pi_enumA bt.gl bt.mg (pa_cons ha pa_nil e1) e1).imp fun σ H RR ⟨B, ρ, μ, ι, at0, q⟩ => ?_
  obtain ⟨B1, ρ1, μ1, ι1, a1, q1⟩ := td_bindG (W := W) (rep := fun g H' ι' src J => WalkOk g H' ι' src J) at0 q
  refine ⟨B1, ρ1, μ1, ι1, a1, q1.imp fun v H1 ⟨d, μ2, ι2, x2, a2, r2, q2⟩ => ?_⟩
  split at q2
  · cases r2 with
    | lst h n1 n2 rl =>
      exact ⟨_, _, rfl, .inl ⟨SqL.of h, q2 _ H1 ι2 Ext.refl a2.m (walk_enum a2.m (fun H2 ι2 x2 => SqL.of (x2.keep _ _ (by rw [rmH_out n2]; exact h) n1).1) rl)⟩⟩
  · cases r2 with
    | tup h rl =>
      exact ⟨_, _, rfl, .inr ⟨h.sq, q2 _ H1 ι2 Ext.refl a2.m (walk_enumT a2.m (stay_tup a2.m h) rl)⟩⟩
  · exact q2.elim
theorem si_rvd {x : Str} {p : Pos} (C : Cok g cl fns gc n W cc X) (hx : x = "reversed") (hb : isBlt cc x = true) (hpl : Plain [a]) (ha : PE X a (TD g W fa)) :
    PI X tg (.Call (.Name x p) [a] [] pos) (TIs g W fun ρ μ => (fa ρ μ).bind fun x μ => match x with
    | .lst xs => .ok (.its xs.reverse) μ
    | .tup xs => .ok (.its xs.reverse) μ
    | _ => .bad) := by
  have bt := C.blt hb
  subst hx
  have e1 := hpl a (by simp) X.env []
  refine (RT.pi_revA bt.gl bt.mg ha e1).imp fun σ H RR ⟨B, ρ, μ, ι, at0, q⟩ => ?_
  obtain ⟨B1, ρ1, μ1, ι1, a1, q1⟩ := td_bindG (W := W) (rep := fun g H' ι' src J => WalkOk g H' ι' src J) at0 q
  refine ⟨B1, ρ1, μ1, ι1, a1, q1.imp fun v H1 ⟨d, μ2, ι2, x2, a2, r2, q2⟩ => ?_⟩
  split at q2
  · cases r2 with
    | lst h n1 n2 rl =>
      exact ⟨_, _, rfl, .inl ⟨SqL.of h, q2 _ H1 ι2 Ext.refl a2.m (walk_rev a2.m (fun H2 ι2 x2 => SqL.of (x2.keep _ _ (by rw [rmH_out n2]; exact h) n1).1) rl)⟩⟩
  · cases r2 with
    | tup h rl =>
      exact ⟨_, _, rfl, .inr ⟨h.sq, q2 _ H1 ι2 Ext.refl a2.m (walk_revT a2.m (stay_tup a2.m h) rl)⟩⟩
  · exact q2.elim
end
end PyD

set_option Elab.async false
set_option linter.all false
set_option maxRecDepth 100000
set_option maxHeartbeats 4000000
/-! Comprehensions of any number of clauses: the code. -/
namespace PyD
open PySem PySem.Spec L2

def IsC (e : Expr) (gens : List Comprehension) : Prop := (∃ elt sc p, e = .ListComp elt gens sc p) ∨ ∃ k v sc p, e = .DictComp k v gens sc p
/-- what is left of a turn behind the clauses below k -/
def StepWp (M : Model) (A : Around) (e : Expr) (gens : List Comprehension) (k : Nat) (D : Addr) (env : PySem.Env) (Q : Shared → Prop) (E : Value → Shared → Prop) (s : Shared) : Prop := match gens[k]? with
  | some g => wpAny M A (eval g.iter env) (fun x s1 => wpAny M A (pyIter x) (fun it1 s2 => codeAny M A (.compStart e k it1 (.ref D) env) (fun r s' => match r with | .ok _ => Q s' | .error _ => False) s2) E s1) E s
  | none => match e with
    | .ListComp elt _ _ _ => wpAny M A (eval elt env) (fun x s1 => wpAny M A (call (.builtin "list.append") [.ref D, x]) (fun _ s2 => Q s2) E s1) E s
    | .DictComp kx vx _ _ _ => wpAny M A (eval kx env) (fun x s1 => wpAny M A (eval vx env) (fun y s2 => wpAny M A (dictSet D x y) (fun _ s3 => Q s3) E s2) E s1) E s
    | _ => False
theorem turn_wp {prog : Program} {w : World} {A : Around} {e : Expr} {gens : List Comprehension} {k : Nat} {t i : Expr} {ifs : List Expr} {it : Value} {D : Addr} {env : PySem.Env} {Q : Fin → Shared → Prop} {E : Value → Shared → Prop} {s : Shared}
    (he : IsC e gens) (hk : gens[k]? = some ⟨t, i, ifs, 0⟩) (h0 : ∀ g, gens[k + 1]? = some g → g.is_async = 0 ∧ ∀ x, foldedSetIterable g.iter env x = pure x)
    (h : wpAny (model prog w) A (pyNext it) (fun r s1 => match r with
      | none => Q (.done .next) s1
      | some v => wpAny (model prog w) A (letOwnedTupleGo t it v) (fun _ s2 => wpAny (model prog w) A (assign t env v) (fun _ s3 =>
          wpAny (model prog w) A (forIn ifs true fun c r => if r = true then do let ok ← isTrue c env (eval c env); pure (ForInStep.yield ok) else pure (ForInStep.yield r)) (fun ok s4 =>
            if ok = true then StepWp (model prog w) A e gens (k + 1) D env (fun s5 => Q (.again (.compLoop e k it (.ref D) env)) s5) E s4 else Q (.again (.compLoop e k it (.ref D) env)) s4) E s3) E s2) E s1) E s) :
    wpAny (model prog w) A (compTurn e k it (.ref D) env) Q E s := by
  have run : ∀ {c : Code} {Q' : Unit → Shared → Prop} {s : Shared}, codeAny (model prog w) A c (fun r s' => match r with | .ok _ => Q' () s' | .error _ => False) s → wpAny (model prog w) A (runOwn c env) (fun _ s' => Q' () s') E s := fun {c Q' s} h => by
    refine wpAny_runOwn ?_
    rw [Around.mark_none]
    refine codeAny_mono h fun r s' hr => ?_
    cases r with
    | ok f => exact hr
    | error e => exact hr.elim
  rcases he with ⟨elt, sc, p, rfl⟩ | ⟨kx, vx, sc, p, rfl⟩
  all_goals
    unfold compTurn
    simp only [hk]
    refine wpAny_bind (wpAny_standAt (wpAny_bind ?_))
    refine wpAny_mono (show wpAny (model prog w) A (pyNext it) _ E _ from h) (fun r s1 h1 => ?_) fun _ _ z => z
    cases r with
    | none => exact wpAny_pure h1
    | some v => ?_
    refine wpAny_bind (wpAny_mono h1 (fun _ s2 h2 => ?_) fun _ _ z => z)
    refine wpAny_bind (wpAny_mono h2 (fun _ s3 h3 => ?_) fun _ _ z => z)
    refine wpAny_bind (wpAny_mono h3 (fun ok s4 h4 => ?_) fun _ _ z => z)
    cases ok with
    | false => exact wpAny_pure h4
    | true => ?_
    have h4 := (if_pos rfl).mp h4
    unfold StepWp at h4
    cases hg : gens[k + 1]? with
    | some g =>
      rw [hg] at h4
      obtain ⟨g1, g2⟩ := h0 g hg
      obtain ⟨gt, gi, gf, ga⟩ := g
      obtain rfl : ga = 0 := g1
      simp only []
      refine wpAny_bind (wpAny_mono h4 (fun x s5 h5 => ?_) fun _ _ z => z)
      refine wpAny_bind (wpAny_standAt (wpAny_bind (wpAny_of_eq (g2 x) (wpAny_bind (wpAny_holding (wpAny_mono h5 (fun it1 s6 h6 => ?_) fun _ _ z => z))))))
      first
        | exact wpAny_bind (wpAny_mono (run (Q' := fun _ s' => Q (.again _) s') h6) (fun _ s7 h7 => wpAny_pure h7) fun _ _ z => z)
        | exact wpAny_bind (wpAny_mono (run (Q' := fun _ s' => Q (.again _) s') h6) (fun _ s7 h7 => wpAny_bind (wpAny_pure (wpAny_pure h7))) fun _ _ z => z)
    | none =>
      rw [hg] at h4
      simp only []
      first
        | exact wpAny_bind (wpAny_bind (wpAny_mono h4 (fun x s5 h5 => wpAny_bind (wpAny_mono h5 (fun _ s6 h6 => wpAny_pure (wpAny_pure h6)) fun _ _ z => z)) fun _ _ z => z))
        | exact wpAny_bind (wpAny_bind (wpAny_mono h4 (fun kv s₄ h₄ => wpAny_bind (wpAny_holding (wpAny_mono h₄ (fun vv s₅ h₅ => wpAny_bind (wpAny_standAt (wpAny_holding (wpAny_mono h₅ (fun _ s₆ h₆ => wpAny_pure h₆) fun _ _ h' => h')))) fun _ _ h' => h'))) fun _ _ h' => h'))
/-- the loop -/
theorem loop_wp {prog : Program} {w : World} {A : Around} {e : Expr} {gens : List Comprehension} {k : Nat} {it acc : Value} {env : PySem.Env} {R : Result → Shared → Prop} {s : Shared} (he : IsC e gens) (I : Nat → Shared → Prop)
    (turn : ∀ n s, I n s → wpAny (model prog w) A (compTurn e k it acc env) (fun fin s' => match fin with | .done f => R (.ok f) s' | .again c' => c' = .compLoop e k it acc env ∧ ∃ m, m < n ∧ I m s') (notedBy (model prog w) A env fun e s' => R (.error e) s') s) (n : Nat) (h : I n s) :
    codeAny (model prog w) A (.compLoop e k it acc env) R s := by
  rcases he with ⟨elt, sc, p, rfl⟩ | ⟨kx, vx, sc, p, rfl⟩
  all_goals
    refine codeAny_loop rfl I (fun n s hI => ?_) n h
    show wpAny _ A ((compTurn _ k it acc env).onRaise (fun x => do noteFrame x env; theTreesLotGoes x)) _ _ s
    exact wpAny_noted (turn n s hI)
theorem start_wp {prog : Program} {w : World} {A : Around} {e : Expr} {gens : List Comprehension} {k : Nat} {it acc : Value} {env : PySem.Env} {R : Result → Shared → Prop} {s : Shared} {t i : Expr} {ifs : List Expr} (he : IsC e gens) (hk : gens[k]? = some ⟨t, i, ifs, 0⟩)
    (h0 : codeAny (model prog w) A (.compLoop e k it acc env) R s)
    (h : wpAny (model prog w) A (pyIter it) (fun it' s' => codeAny (model prog w) A (.compLoop e k it' acc env) R s') (notedBy (model prog w) A env fun x s' => R (.error x) s') s) :
    codeAny (model prog w) A (.compStart e k it acc env) R s := by
  have q1 : (Code.compLoop e k it acc env).quiet = true := by rcases he with ⟨elt, sc, p, rfl⟩ | ⟨kx, vx, sc, p, rfl⟩ <;> rfl
  have q2 : ∀ it', (Code.compLoop e k it' acc env).quiet = true := fun it' => by rcases he with ⟨elt, sc, p, rfl⟩ | ⟨kx, vx, sc, p, rfl⟩ <;> rfl
  have hc : (clausesOf e)[k]? = some ⟨t, i, ifs, 0⟩ := by rcases he with ⟨elt, sc, p, rfl⟩ | ⟨kx, vx, sc, p, rfl⟩ <;> exact hk
  refine codeAny_of_tree ?_
  have hd : wpAny (model prog w) A ((compStart e k it acc env).onRaise (fun x => do noteFrame x env; standAt theWindowsPlace)) (fun fin s' => match fin with
    | .done f => R (.ok f) s'
    | .again c' => c'.quiet = true ∧ codeAny (model prog w) A c' R s') (fun x s' => R (.error x) s') s := by
    refine wpAny_notedAt ?_
    unfold compStart
    rw [hc]
    show wpAny _ _ (ask >>= _) _ _ s
    refine wpAny_bind (wpAny_askSetting (wpAny_ite ?_))
    split
    · first
        | exact wpAny_bind (wpAny_pure (wpAny_pure (And.intro q1 h0)))
        | exact wpAny_pure (And.intro q1 h0)
    · refine wpAny_bind (wpAny_rule ?_)
      show wpAny _ _ (standAt i.pos >>= _) _ _ s
      exact wpAny_bind (wpAny_standAt (wpAny_bind (wpAny_mono h (fun it' s' h' => wpAny_pure (And.intro (q2 it') h')) fun _ _ x => x)))
  rcases he with ⟨elt, sc, p, rfl⟩ | ⟨kx, vx, sc, p, rfl⟩ <;> exact hd
end PyD

set_option Elab.async false
set_option linter.all false
set_option maxRecDepth 100000
set_option maxHeartbeats 4000000
/-! Comprehensions: the block's steps. -/
namespace PyD
open PySem PySem.Spec L2

/-! ### an object that is being filled -/
section
variable {g : G} {H H' : Hp} {ι ι' : List Addr} {μ : Store} {D : Addr} {o : HO}
theorem Ext.via {Hb : Hp} {ιb : List Addr} (x : Ext Hb ιb H ι) (hD : Hb D = none) (y : Ext (rmH H [D]) ι H' ι') : Ext Hb ιb H' ι' := by
  obtain ⟨⟨l, e⟩, k⟩ := x
  obtain ⟨⟨l', e'⟩, k'⟩ := y
  refine ⟨⟨l ++ l', by rw [e', e, List.append_assoc]⟩, fun a u h n => ?_⟩
  obtain ⟨h1, h2⟩ := k a u h n
  have : a ∉ [D] := fun z => by
    have : a = D := by simpa using z
    subst this
    rw [hD] at h
    cases h
  exact k' a u (by rw [rmH_out this]; exact h1) h2
theorem Ext.upd1 : Ext (rmH H [D]) ι (upd H D o) ι := ⟨⟨[], by simp⟩, fun a u h n => by
  obtain ⟨h1, h2⟩ := rmH_some h
  exact ⟨by rw [upd_ne (fun z => h2 (by rw [z]; simp))]; exact h1, n⟩⟩
theorem MemRel.ntD (m : MemRel g H ι μ) (hD : D ∈ g.B) : ∀ b ∈ [D], b ∈ g.B ∧ ∀ o, H b = some o → isTupO o = false := fun b hb => by
  have : b = D := by simpa using hb
  subst this
  exact m.nt b hD
theorem RepL.updB {ds : List PyD.D} {vs : List V} (r : RepL g H ι ds vs) (m : MemRel g H ι μ) (hD : D ∈ g.B) : RepL g (upd H D o) ι ds vs := (r.wo (m.ntD hD)).mono Ext.upd1 (m.wf.rm _)
theorem Rep.updB {d : PyD.D} {v : V} (r : Rep g H ι d v) (m : MemRel g H ι μ) (hD : D ∈ g.B) : Rep g (upd H D o) ι d v := (r.wo (m.ntD hD)).mono Ext.upd1 (m.wf.rm _)
theorem MemRel.updB (m : MemRel g H ι μ) (hD : D ∈ g.B) (ho : isTupO o = false) : MemRel g (upd H D o) ι μ := by
  refine ⟨m.len, m.nd, m.nb, fun b hb => ?_, fun n mk e => ?_⟩
  · by_cases c : b = D
    · subst c; exact ⟨o, upd_same, ho⟩
    · obtain ⟨u, h, t⟩ := m.bs b hb
      exact ⟨u, by rw [upd_ne c]; exact h, t⟩
  · obtain ⟨a, h1, h2⟩ := m.obj n mk e
    have hne : a ≠ D := fun z => m.nb D hD (by rw [← z]; exact List.mem_of_getElem? h1)
    refine ⟨a, h1, ?_⟩
    cases h2 with
    | lst h q => exact .lst (by rw [upd_ne hne]; exact h) (q.updB m hD)
    | dctK h k q => exact .dctK (by rw [upd_ne hne]; exact h) k (q.updB m hD)
    | dctT h k q => exact .dctT (by rw [upd_ne hne]; exact h) k (q.updB m hD)
    | ro h q => exact .ro (by rw [upd_ne hne]; exact h) (q.updB m hD)
theorem RepObj.mono {mm : M} {a : Addr} (r : RepObj g H ι mm a) (x : Ext H ι H' ι') (wf : WfH H ι) (hn : a ∉ ι) : RepObj g H' ι' mm a := by
  cases r with
  | lst h q => exact .lst (x.keep _ _ h hn).1 (q.mono x wf)
  | dctK h k q => exact .dctK (x.keep _ _ h hn).1 k (q.mono x wf)
  | dctT h k q => exact .dctT (x.keep _ _ h hn).1 k (q.mono x wf)
  | ro h q => exact .ro (x.keep _ _ h hn).1 (q.mono x wf)
end
abbrev NoW : Str → Sl → Hp → Prop := fun _ _ _ => False
/-- what is filled: a list; a dict -/
def mkM (o : Option Bool) (acc : Acc) : M := match o with
  | none => .lst acc.2
  | some t => .dct t acc.1 acc.2
def PostA (g : G) (o : Option Bool) (D : Addr) (r : R Acc) (Hb : Hp) (ιb : List Addr) (Qa : Hp → Prop) : Prop := match r with
  | .ok acc μ => ∀ H ι, Ext Hb ιb H ι → MemRel g H ι μ → RepObj g H ι (mkM o acc) D → Qa H
  | _ => False
theorem PostA.bind {g : G} {o : Option Bool} {D : Addr} {r : R Acc} {k : Acc → Store → R Acc} {Hb : Hp} {ιb : List Addr} {Qa : Hp → Prop} (h : PostA g o D (r.bind k) Hb ιb Qa) :
    PostA g o D r Hb ιb (fun H => ∃ acc μ ι, Ext Hb ιb H ι ∧ MemRel g H ι μ ∧ RepObj g H ι (mkM o acc) D ∧ PostA g o D (k acc μ) Hb ιb Qa) := by
  cases r with
  | ok acc μ => exact fun H ι x m q => ⟨acc, μ, ι, x, m, q, h⟩
  | exc c μ => exact h
  | bad => exact h
theorem PostA.via {g : G} {o : Option Bool} {D : Addr} {r : R Acc} {Hb H : Hp} {ιb ι : List Addr} {Qa : Hp → Prop} (h : PostA g o D r Hb ιb Qa) (x : Ext Hb ιb H ι) (hD : Hb D = none) : PostA g o D r (rmH H [D]) ι Qa := by
  cases r with
  | ok acc μ => exact fun H' ι' y m q => h H' ι' (x.via hD y) m q
  | exc c μ => exact h
  | bad => exact h
/-- what follows a value, in a block -/
theorem PostA.val {α β : Type} {rep : Hp → List Addr → α → β → Prop} {g : G} {o : Option Bool} {D : Addr} {r : R α} {k : α → Store → R Acc} {Hb H : Hp} {ιb ι : List Addr} {Qa : Hp → Prop} {W : Str → Hp → Prop} (h : PostA g o D (r.bind k) Hb ιb Qa) :
    post rep g W H ι r (fun b H1 => ∃ a μ1 ι1, Ext H ι H1 ι1 ∧ MemRel g H1 ι1 μ1 ∧ rep H1 ι1 a b ∧ PostA g o D (k a μ1) Hb ιb Qa) := by
  cases r with
  | ok a μ => exact fun b H1 ι1 x m q => ⟨a, μ, ι1, x, m, q, h⟩
  | exc c μ => exact (h : False).elim
  | bad => exact (h : False).elim
/-- the steps below the clause k -/
def StepOk (g : G) (X : Cx) (e : Expr) (gens : List Comprehension) (k : Nat) (o : Option Bool) (f : Env → Acc → Store → R Acc) (vs : List Nat) : Prop :=
  ∀ D B pins s σ H Qa, Inv X pins σ H s → (∃ ρ μ ι acc Hb ιb, At (g.b (D :: B)) σ H ρ ι μ ∧ Ext Hb ιb H ι ∧ Hb D = none ∧ RepObj (g.b (D :: B)) H ι (mkM o acc) D ∧ PostA (g.b (D :: B)) o D (f ρ acc μ) Hb ιb Qa) →
    StepWp (model X.prog X.w) X.A e gens k D X.env (fun s' => ∃ H', Inv X pins (wipe σ vs) H' s' ∧ Qa H') (fun _ _ => False) s
section
variable {g : G} {X : Cx} {cl : Oracle} {fns : Str → Option Fn} {gc : Consts} {n : Nat} {cc : CC}
theorem StepWp.mono {M : Model} {A : Around} {e : Expr} {gens : List Comprehension} {k : Nat} {D : Addr} {env : PySem.Env} {Q Q' : Shared → Prop} {E : Value → Shared → Prop} {s : Shared} (h : StepWp M A e gens k D env Q (fun _ _ => False) s) (q : ∀ s, Q s → Q' s) : StepWp M A e gens k D env Q' E s := by
  unfold StepWp at h ⊢
  split at h
  · exact thnF h fun x s1 h1 => thnF h1 fun it s2 h2 => codeAny_mono h2 fun r s' hr => by
      cases r with
      | ok f => exact q _ hr
      | error e => exact hr
  · split at h
    · exact thnF h fun x s1 h1 => thnF h1 fun it s2 h2 => q _ h2
    · exact thnF h fun x s1 h1 => thnF h1 fun it s2 h2 => thnF h2 fun _ s3 h3 => q _ h3
    · exact h
/-- [.. elt ..] -/
theorem step_lst {gens : List Comprehension} {k : Nat} {elt : Expr} {sc : Scope} {p : Pos} {fe : Env → Store → R D} (hk : gens[k]? = none) (hxe : X.xe = fun _ _ => False) (he : PE X elt (TD g NoW fe)) :
    StepOk g X (.ListComp elt gens sc p) gens k none (fun ρ acc μ => (fe ρ μ).bind fun x μ => if acc.2.length < sizeLine then .ok (([], acc.2 ++ [x]) : Acc) μ else .bad) [] := by
  intro D B pins s σ H Qa I ⟨ρ, μ, ι, acc, Hb, ιb, at0, x0, hDb, ro, q⟩
  unfold StepWp
  rw [hk]
  have run := he.run pins s σ H _ I ⟨D :: B, ρ, μ, ι, at0, q.val (rep := Rep (g.b (D :: B)))⟩
  rw [hxe] at run
  refine thnF run fun v s1 ⟨y, H1, I1, r1, d, μ1, ι1, x1, m1, q1, q2⟩ => ?_
  have ro1 := ro.mono x1 at0.m.wf (at0.m.nb D (by simp))
  have hD : D ∈ (g.b (D :: B)).B := by simp
  split at q2
  · rename_i hz
    cases ro1 with
    | @lst _ vs _ h rl =>
      refine app_ok I1 h (by rw [← rl.length]; exact hz) r1 fun s2 I2 => ⟨_, I2, ?_⟩
      have rl2 : RepL (g.b (D :: B)) (upd H1 D (.lst (vs ++ [y]))) ι1 (acc.2 ++ [d]) (vs ++ [y]) := RepL.append (RepL.updB rl m1 hD) (.cons (Rep.updB q1 m1 hD) .nil)
      exact q2 (upd H1 D (.lst (vs ++ [y]))) ι1 ((x0.trans x1).via hDb Ext.upd1) (m1.updB hD rfl) (.lst upd_same rl2)
  · exact q2.elim

/-- a comprehension's d[k] = v, k a tuple -/
theorem d_dictSetT {pins : List (Addr × Obj)} {σ : Sl} {H : Hp} {s : Shared} {E : Value → Shared → Prop} {L b : Addr} {kvs : List (List Key × V)} {k : List Key} {v : V} {r : Value} {Q : Unit → Shared → Prop} (hu : X.A.units < cLine) (I : Inv X pins σ H s) (e : H L = some (.dT kvs)) (l : kvs.length < sizeLine)
    (eb : H b = some (.tup (k.map kV))) (rv : RelV v r) (h : ∀ s', Inv X pins σ (upd H L (.dT (putK kvs k v))) s' → Q () s') : wpAny (model X.prog X.w) X.A (dictSet L (.ref b) r) Q E s := by
  obtain ⟨z, hd, xs, rel, dd⟩ := dt_of I.hok e
  have hz : xs.length ≤ sizeLine := by rw [← Paired.length rel]; exact z
  have hl : (putK kvs k v).length ≤ sizeLine := by have := length_putK kvs k v; omega
  refine wpAny_dictSet_heap (hsz := hz) (knd := tupleKind (mixKind X.prog X.w)) hu (key_of I.hok eb) dd fun h' dd' hs => h _ ?_
  obtain ⟨q, es, ep, hq, h2, h3, h4, _, h5⟩ := dd'
  refine d_write I (by rw [e]; exact True.intro) hs ⟨q, hq⟩ ⟨hl, hd, _, (rel.put k eb rv).keeps fun c ys ec => ?_, q, es, ep, hq, h2, h3, h4, h5⟩
  rw [upd_ne (ne_of ec e (fun z => nomatch z))]
  exact ec
theorem put_objK {H : Hp} {ι : List Addr} {μ : Store} {L : Addr} {kvs : List (Key × V)} {ks : List DK} {ds : List D} {j : Key} {v : V} {d : D} (m : MemRel g H ι μ) (hL : L ∈ g.B) (hkk : dkK ks = some (kvs.map (·.1))) (rl : RepL g H ι ds (kvs.map (·.2))) (r : Rep g H ι d v) :
    RepObj g (upd H L (.dK (putK kvs j v))) ι (.dct false (putD ks ds (.k j) d).1 (putD ks ds (.k j) d).2) L := by
  have ek := dkK_map hkk
  rw [List.map_map] at ek
  obtain ⟨p1, p2⟩ := put_rep (f := DK.k) (fun _ _ z => DK.k.inj z) (k := j) rl r
  refine .dctK upd_same ?_ ?_
  · rw [ek]
    rw [show (kvs.map (DK.k ∘ fun x => x.1)) = kvs.map fun p => DK.k p.1 from rfl, p1, show ((putK kvs j v).map fun p => DK.k p.1) = ((putK kvs j v).map (·.1)).map DK.k by rw [List.map_map]; rfl]
    exact dkK_back _
  · rw [ek]
    exact RepL.updB p2 m hL
theorem put_objT {H : Hp} {ι : List Addr} {μ : Store} {L : Addr} {kvs : List (List Key × V)} {ks : List DK} {ds : List D} {j : List Key} {v : V} {d : D} (m : MemRel g H ι μ) (hL : L ∈ g.B) (hkk : dkT ks = some (kvs.map (·.1))) (rl : RepL g H ι ds (kvs.map (·.2))) (r : Rep g H ι d v) :
    RepObj g (upd H L (.dT (putK kvs j v))) ι (.dct true (putD ks ds (.t j) d).1 (putD ks ds (.t j) d).2) L := by
  have ek := dkT_map hkk
  rw [List.map_map] at ek
  obtain ⟨p1, p2⟩ := put_rep (f := DK.t) (fun _ _ z => DK.t.inj z) (k := j) rl r
  refine .dctT upd_same ?_ ?_
  · rw [ek]
    rw [show (kvs.map (DK.t ∘ fun x => x.1)) = kvs.map fun p => DK.t p.1 from rfl, p1, show ((putK kvs j v).map fun p => DK.t p.1) = ((putK kvs j v).map (·.1)).map DK.t by rw [List.map_map]; rfl]
    exact dkT_back _
  · rw [ek]
    exact RepL.updB p2 m hL
/-- {.. k: v ..} -/
theorem step_dct {gens : List Comprehension} {k : Nat} {kx vx : Expr} {sc : Scope} {p : Pos} {t : Bool} {fk fv : Env → Store → R D} (hr : Room n X.A) (hk : gens[k]? = none) (hxe : X.xe = fun _ _ => False) (hkx : PE X kx (TD g NoW fk)) (hvx : PE X vx (TD g NoW fv)) :
    StepOk g X (.DictComp kx vx gens sc p) gens k (some t) (fun ρ acc μ => (fk ρ μ).bind fun x μ => (fv ρ μ).bind fun y μ => match x.key t with
      | some k => if acc.1.length < sizeLine then .ok (putD acc.1 acc.2 k y) μ else .bad
      | none => .bad) [] := by
  intro L B pins s σ H Qa I ⟨ρ, μ, ι, acc, Hb, ιb, at0, x0, hDb, ro, q⟩
  unfold StepWp
  rw [hk]
  have run := hkx.run pins s σ H _ I ⟨L :: B, ρ, μ, ι, at0, q.val (rep := Rep (g.b (L :: B)))⟩
  rw [hxe] at run
  have hD : L ∈ (g.b (L :: B)).B := by simp
  have hu : X.A.units < cLine := by have := hr.un; omega
  refine thnF run fun kv s1 ⟨y1, H1, I1, rr1, d1, μ1, ι1, x1, m1, q1, q2⟩ => ?_
  have at1 := at0.next x1 m1
  have run2 := hvx.run pins s1 σ H1 _ I1 ⟨L :: B, ρ, μ1, ι1, at1, q2.val (rep := Rep (g.b (L :: B)))⟩
  rw [hxe] at run2
  refine thnF run2 fun vv s2 ⟨y2, H2, I2, rr2, d2, μ2, ι2, x2, m2, q3, q4⟩ => ?_
  have q1' : Rep (g.b (L :: B)) H2 ι2 d1 y1 := Rep.mono x2 m1.wf q1
  have ro2 := (ro.mono x1 at0.m.wf (at0.m.nb L (by simp))).mono x2 m1.wf (m1.nb L (by simp))
  have ex : Ext Hb ιb H2 ι2 := (x0.trans x1).trans x2
  cases t with
  | false =>
    cases hkey : d1.key false with
    | none => rw [hkey] at q4; exact q4.elim
    | some dk =>
      rw [hkey] at q4
      simp only at q4
      split at q4
      · rename_i hz
        obtain ⟨j, rfl, rfl⟩ := keyK_of q1' hkey
        cases ro2 with
        | @dctK _ kvs _ _ h hkk rl =>
          have ez : acc.1.length = kvs.length := by rw [dkK_map hkk, List.length_map, List.length_map]
          refine d_dictSet I2 h (by rw [← ez]; exact hz) rr1 rr2 fun s3 I3 => ⟨_, I3, ?_⟩
          exact q4 _ ι2 (ex.via hDb Ext.upd1) (m2.updB hD rfl) (put_objK m2 hD hkk rl q3)
      · exact q4.elim
  | true =>
    cases hkey : d1.key true with
    | none => rw [hkey] at q4; exact q4.elim
    | some dk =>
      rw [hkey] at q4
      simp only at q4
      split at q4
      · rename_i hz
        obtain ⟨j, b, rfl, rfl, hb⟩ := keyT_of q1' hkey
        cases rr1
        cases ro2 with
        | @dctT _ kvs _ _ h hkk rl =>
          have ez : acc.1.length = kvs.length := by rw [dkT_map hkk, List.length_map, List.length_map]
          refine d_dictSetT hu I2 h (by rw [← ez]; exact hz) hb rr2 fun s3 I3 => ⟨_, I3, ?_⟩
          exact q4 _ ι2 (ex.via hDb Ext.upd1) (m2.updB hD rfl) (put_objT m2 hD hkk rl q3)
      · exact q4.elim
end
end PyD

set_option Elab.async false
set_option linter.all false
set_option maxRecDepth 100000
set_option maxHeartbeats 4000000
/-! Comprehensions: a clause's loop. -/
namespace PyD
open PySem PySem.Spec L2

/-- what is left of a walk behind i items -/
def restS {β : Type} (src : Src) (turn : D → β → Store → R β) (i : Nat) : β → Store → R β := match src with
  | .its ds => loopL turn (ds.drop i)
  | .live n N => loopN turn n N (N - i)
theorem restS_zero {β : Type} (src : Src) (turn : D → β → Store → R β) (b : β) (μ : Store) : restS src turn 0 b μ = loopS src turn b μ := by cases src <;> rfl
theorem restS_step {β : Type} {src : Src} {turn : D → β → Store → R β} {i : Nat} (hi : i < src.len) (b : β) (μ : Store) : restS src turn i b μ = match src.item μ i with
    | some d => (turn d b μ).bind (restS src turn (i + 1))
    | none => .bad := by
  cases src with
  | its ds =>
    have hi : i < ds.length := hi
    unfold restS Src.item
    simp only [List.getElem?_eq_getElem hi]
    rw [List.drop_eq_getElem_cons hi]
    rfl
  | live n N =>
    have hi : i < N := hi
    unfold restS Src.item
    simp only
    have e : N - i = (N - (i + 1)) + 1 := by omega
    rw [e, loopN]
    have e2 : N - (N - (i + 1) + 1) = i := by omega
    rw [e2] <;> rfl
theorem restS_end {β : Type} {src : Src} {turn : D → β → Store → R β} (b : β) (μ : Store) : restS src turn src.len b μ = if src.okAt μ then .ok b μ else .bad := by
  cases src with
  | its ds =>
    unfold restS Src.len Src.okAt
    simp only [List.drop_length]
    rfl
  | live n N =>
    unfold restS Src.len Src.okAt
    simp only [Nat.sub_self]
    rw [loopN]
    show _ = if (liveAt n N μ).isSome = true then R.ok b μ else R.bad
    split <;> rename_i h <;> rw [h] <;> rfl
/-- a turn of a clause -/
def turnC (fi : Env → Store → R Bool) (f : Env → Acc → Store → R Acc) (tg : Tg) (ρ : Env) : D → Acc → Store → R Acc := fun d acc μ => match asg tg μ d ρ with
  | some ρ' => (fi ρ' μ).bind fun k μ => if k then f ρ' acc μ else .ok acc μ
  | none => .bad
section
variable {g : G} {X : Cx} {cl : Oracle} {fns : Str → Option Fn} {gc : Consts} {n : Nat} {cc : CC}
theorem SlotRel.wo {σ : Sl} {ρ : Env} {H : Hp} {ι : List Addr} {C : List Addr} (r : SlotRel g σ ρ H ι) (hC : ∀ b ∈ C, b ∈ g.B ∧ ∀ o, H b = some o → isTupO o = false) : SlotRel g σ ρ (rmH H C) ι := ⟨r.len, fun i d e => let ⟨v, a, b⟩ := r.at_ i d e; ⟨v, a, b.wo hC⟩⟩
theorem loop_ok {e te ie : Expr} {ifs : List Expr} {gens : List Comprehension} {k : Nat} {o : Option Bool} {tg : Tg} {vs : List Nat} {fi : Env → Store → R Bool} {f : Env → Acc → Store → R Acc} {J : It} {fp : List Addr} {it : Addr} {tn : Nat → Heap → Prop}
    {pins : List (Addr × Obj)} {s : Shared} {σ : Sl} {ρ : Env} {H : Hp} {ι : List Addr} {μ : Store} {L : Addr} {B : List Addr} {src : Src} {acc : Acc} {Qa : Hp → Prop} {RR : Result → Shared → Prop}
    (hxe : X.xe = fun _ _ => False) (hc : X.calm = true) (he : IsC e gens) (hk : gens[k]? = some ⟨te, ie, ifs, 0⟩) (h0 : ∀ g, gens[k + 1]? = some g → g.is_async = 0 ∧ ∀ x, foldedSetIterable g.iter X.env x = pure x)
    (pg : PG X te (TGd g tg)) (pt : PTs X ifs (TB g NoW fi)) (st : StepOk g X e gens (k + 1) o f vs) (T : Turn X.prog X.w X.K te J fp it tn)
    (stat : ∀ {σ' : Sl} {H' : Hp} {s' : Shared}, Inv X pins σ' H' s' → (∀ b ∈ fp, H' b = none) → ∀ b ∈ fp, FpOk X pins H' b)
    (hw : ∀ (j : Nat) v, σ[j]? = some (some v) → j ∉ tg.slots ++ vs)
    (I : Inv X pins σ H s) (st0 : tn 0 s.heap) (hfp : ∀ b ∈ fp, H b = none) (at0 : At (g.b (L :: B)) σ H ρ ι μ) (ro : RepObj (g.b (L :: B)) H ι (mkM o acc) L) (wk : WalkOk (g.b (L :: B)) H ι src J)
    (q : PostA (g.b (L :: B)) o L (loopS src (turnC fi f tg ρ) acc μ) (rmH H [L]) ι Qa)
    (hR : ∀ s' H', Inv X pins σ H' s' → Qa H' → RR (.ok .next) s') :
    codeAny (model X.prog X.w) X.A (.compLoop e k (.ref it) (.ref L) X.env) RR s := by
  have hL : L ∈ (g.b (L :: B)).B := by simp
  have sl0 : SlotRel (g.b (L :: B)) σ ρ (rmH H [L]) ι := at0.s.wo (at0.m.ntD hL)
  have wf0 : WfH (rmH H [L]) ι := at0.m.wf.rm _
  refine loop_wp he (fun m s' => ∃ i H', Inv X pins σ H' s' ∧ tn i s'.heap ∧ (∀ b ∈ fp, H' b = none) ∧ i ≤ src.len ∧ m = src.len - i ∧ ∃ μ' ι' acc', MemRel (g.b (L :: B)) H' ι' μ' ∧ Ext (rmH H [L]) ι H' ι' ∧ RepObj (g.b (L :: B)) H' ι' (mkM o acc') L ∧ PostA (g.b (L :: B)) o L (restS src (turnC fi f tg ρ) i acc' μ') (rmH H [L]) ι Qa)
    ?_ (src.len - 0) ⟨0, H, I, st0, hfp, Nat.zero_le _, rfl, μ, ι, acc, at0.m, Ext.refl.rm _, ro, by rw [restS_zero]; exact q⟩
  rintro m s5 ⟨i, H5, I5, st5, n5, hi, rfl, μ5, ι5, acc5, m5, x5, ro5, q5⟩
  obtain ⟨w1, w2⟩ := wk (L :: B) H5 ι5 μ5 (fun b hb => .inl hb) (x5.rmLess fun b hb => by rw [List.mem_singleton.mp hb]; exact hL) m5
  refine turn_wp he hk h0 ?_
  by_cases hlt : i < src.len
  · rw [restS_step hlt] at q5
    cases hit : src.item μ5 i with
    | none => rw [hit] at q5; exact q5.elim
    | some d =>
      rw [hit] at q5
      obtain ⟨go, yl⟩ := w1 i d hit
      have ti := T.item X rfl rfl rfl hc i pins s5 σ H5 (fun _ _ => False) I5 (stat I5 n5) st5 go
      refine thnF ti fun r s6 ⟨u, hr, h6⟩ => ?_
      subst hr
      refine thnF h6 fun _ s7 ⟨x, H7, I7, r7, y7, st7, n7⟩ => ?_
      obtain ⟨x7, m7, rep7⟩ := yl x H7 y7
      have I7' := I7.pinned (stat I7 n7) (T.obj _ _ st7)
      -- the turn's end
      have fin : ∀ {σ9 : Sl} {s' : Shared} {H' : Hp}, Inv X (pins ++ pinsAt fp s7.heap) σ9 H' s' → σ.length = σ9.length → (∀ (j : Nat) v, σ[j]? = some (some v) → σ9[j]? = some (some v)) →
          (∃ acc' μ' ι', Ext (rmH H [L]) ι H' ι' ∧ MemRel (g.b (L :: B)) H' ι' μ' ∧ RepObj (g.b (L :: B)) H' ι' (mkM o acc') L ∧ PostA (g.b (L :: B)) o L (restS src (turnC fi f tg ρ) (i + 1) acc' μ') (rmH H [L]) ι Qa) →
          ∃ m, m < src.len - i ∧ ∃ i H', Inv X pins σ H' s' ∧ tn i s'.heap ∧ (∀ b ∈ fp, H' b = none) ∧ i ≤ src.len ∧ m = src.len - i ∧ ∃ μ' ι' acc', MemRel (g.b (L :: B)) H' ι' μ' ∧ Ext (rmH H [L]) ι H' ι' ∧ RepObj (g.b (L :: B)) H' ι' (mkM o acc') L ∧ PostA (g.b (L :: B)) o L (restS src (turnC fi f tg ρ) i acc' μ') (rmH H [L]) ι Qa := fun {σ9 s' H'} I' hl hkn ⟨acc', μ', ι', a1, a2, a3, a4⟩ => by
        have pin' : ∀ b ∈ fp, ∀ o, s7.heap.get? b = some o → s'.heap.get? b = some o ∧ H' b = none := fun b hb o e =>
          let z := I'.pin (b, o) (List.mem_append_right _ (List.mem_append_right _ (mem_pinsAt hb e)))
          ⟨z.1, z.2.1⟩
        refine ⟨src.len - (i + 1), by omega, i + 1, H', (I'.unpinned).weak hl hkn, T.keep _ _ _ st7 fun b hb o e => (pin' b hb o e).1, fun b hb => ?_, hlt, rfl, μ', ι', acc', a2, a1, a3, a4⟩
        obtain ⟨o, e, _⟩ := T.obj _ _ st7 b hb
        exact (pin' b hb o e).2
      have x7b : Ext (rmH H [L]) ι H7 ι5 := x5.trans x7
      have ro7 := ro5.mono x7 m5.wf (m5.nb L hL)
      have at7 : At (g.b (L :: B)) σ H7 ρ ι5 μ5 := ⟨sl0.mono x7b wf0, m7⟩
      have q5 : PostA (g.b (L :: B)) o L ((turnC fi f tg ρ d acc5 μ5).bind (restS src (turnC fi f tg ρ) (i + 1))) (rmH H [L]) ι Qa := q5
      unfold turnC at q5
      cases ha : asg tg μ5 d ρ with
      | none => rw [ha] at q5; exact q5.elim
      | some ρ' =>
        rw [ha] at q5
        simp only at q5
        have runG := pg.run _ s7 σ H7 x u (fun σ8 H8 => H8 = H7 ∧ SlotRel (g.b (L :: B)) σ8 ρ' H7 ι5 ∧ wipe σ8 tg.slots = wipe σ tg.slots) I7' r7 ⟨L :: B, ρ, μ5, ι5, d, ρ', at7, rep7, ha, fun σ' s1 w1 => ⟨rfl, s1, w1⟩⟩
        rw [hxe] at runG
        refine thnF runG fun _ s8 ⟨σ8, H8, I8, e8, sl8, hw8⟩ => ?_
        subst e8
        have at8 : At (g.b (L :: B)) σ8 H8 ρ' ι5 μ5 := ⟨sl8, m7⟩
        have q5b : PostA (g.b (L :: B)) o L ((fi ρ' μ5).bind fun k μ => (if k = true then f ρ' acc5 μ else R.ok acc5 μ).bind (restS src (turnC fi f tg ρ) (i + 1))) (rmH H [L]) ι Qa := by
          have e : (((fi ρ' μ5).bind fun k μ => if k = true then f ρ' acc5 μ else R.ok acc5 μ).bind (restS src (turnC fi f tg ρ) (i + 1))) = ((fi ρ' μ5).bind fun k μ => (if k = true then f ρ' acc5 μ else R.ok acc5 μ).bind (restS src (turnC fi f tg ρ) (i + 1))) := by
            cases fi ρ' μ5 <;> rfl
          rw [← e]
          exact q5
        have runT := pt.run _ s8 σ8 H8 _ I8 ⟨L :: B, ρ', μ5, ι5, at8, q5b.val (rep := fun _ _ a b => a = b)⟩
        rw [hxe] at runT
        refine thnF runT fun b s9 ⟨H9, I9, kk, μ9, ι9, x9, m9, e9, q9⟩ => ?_
        subst e9
        have ro9 := ro7.mono x9 m7.wf (m7.nb L hL)
        have x9b : Ext (rmH H [L]) ι H9 ι9 := x7b.trans x9
        have hl8 : σ.length = σ8.length := by
          have := congrArg List.length hw8
          rw [wipe_length, wipe_length] at this
          exact this.symm
        have hk8 : ∀ (j : Nat) v, σ[j]? = some (some v) → j ∉ tg.slots ++ vs ∧ σ8[j]? = some (some v) := fun j v ej => by
          have hj := hw j v ej
          refine ⟨hj, ?_⟩
          have hj1 : j ∉ tg.slots := fun z => hj (List.mem_append_left _ z)
          have := congrArg (fun l : Sl => l[j]?) hw8
          simp only [wipe_out hj1] at this
          rw [this]
          exact ej
        cases kk with
        | false =>
          simp only [Bool.false_eq_true, if_false] at q9 ⊢
          exact ⟨trivial, fin I9 hl8 (fun j v ej => (hk8 j v ej).2) ⟨acc5, μ9, ι9, x9b, m9, ro9, q9⟩⟩
        | true =>
          simp only [if_true] at q9 ⊢
          have hb : rmH H [L] L = none := rmH_in (by simp)
          have sw := st L B _ s9 σ8 H9 _ I9 ⟨ρ', μ9, ι9, acc5, rmH H [L], ι, ⟨sl8.mono x9 m7.wf, m9⟩, x9b, hb, ro9, q9.bind⟩
          refine sw.mono fun s' ⟨H', I', q'⟩ => ?_
          refine ⟨trivial, fin I' (by rw [wipe_length]; exact hl8) (fun j v ej => ?_) q'⟩
          rw [wipe_out fun z => (hk8 j v ej).1 (List.mem_append_right _ z)]
          exact (hk8 j v ej).2
  · have hie : i = src.len := by omega
    subst hie
    rw [restS_end] at q5
    split at q5
    · rename_i hok
      refine thnF (T.done X rfl rfl rfl hc _ pins s5 σ H5 (fun _ _ => False) I5 (stat I5 n5) st5 (w2 hok)) fun r s6 ⟨hr, I6⟩ => ?_
      subst hr
      exact hR s6 H5 I6 (q5 H5 ι5 x5 m5 ro5)
    · exact q5.elim
end
end PyD

set_option Elab.async false
set_option linter.all false
set_option maxRecDepth 100000
set_option maxHeartbeats 4000000
/-! Comprehensions: clauses one in another, the whole. -/
namespace PyD
open PySem PySem.Spec L2
section
variable {g : G} {X : Cx} {cl : Oracle} {fns : Str → Option Fn} {gc : Consts} {n : Nat} {cc : CC}
/-- a clause below the first -/
theorem step_gen {e te ie : Expr} {ifs : List Expr} {gens : List Comprehension} {k : Nat} {o : Option Bool} {tg : Tg} {vs : List Nat} {fit : Env → Store → R Src} {fi : Env → Store → R Bool} {f : Env → Acc → Store → R Acc}
    (hxe : X.xe = fun _ _ => False) (hc : X.calm = true) (he : IsC e gens) (hk : gens[k]? = some ⟨te, ie, ifs, 0⟩) (h0 : ∀ g, gens[k + 1]? = some g → g.is_async = 0 ∧ ∀ x, foldedSetIterable g.iter X.env x = pure x)
    (hi : PI X te ie (TIs g NoW fit)) (pg : PG X te (TGd g tg)) (pt : PTs X ifs (TB g NoW fi)) (st : StepOk g X e gens (k + 1) o f vs) :
    StepOk g X e gens k o (fun ρ acc μ => (fit ρ μ).bind fun src μ => loopS src (turnC fi f tg (wipeD ρ (tg.slots ++ vs))) acc μ) (tg.slots ++ vs) := by
  intro L B pins s σ H Qa I ⟨ρ, μ, ι, acc, Hb, ιb, at0, x0, hDb, ro, q⟩
  unfold StepWp
  rw [hk]
  have run := hi.run pins s σ H _ I ⟨L :: B, ρ, μ, ι, at0, q.val (rep := fun H' ι' src J => WalkOk (g.b (L :: B)) H' ι' src J)⟩
  rw [hxe] at run
  refine thnF run fun xv s1 h1 => thnF h1 fun itv s2 h2 => ?_
  obtain ⟨it, fp, tn, J, H2, rfl, I2, T, st2, f2, src, μ2, ι2, x2, m2, wk, q2⟩ := h2
  have at2 := at0.next x2 m2
  have loop := loop_ok (RR := fun r s' => match r with | .ok _ => ∃ H', Inv X pins (wipe σ (tg.slots ++ vs)) H' s' ∧ Qa H' | .error _ => False) hxe hc he hk h0 pg pt st T (fun {_ H' _} _ hn b hb => ⟨hn b hb, (f2 b hb).2⟩) (fun j v ej => (wipe_some ej).2)
    (I2.weak (wipe_length _ _) fun j v ej => (wipe_some ej).1) st2 (fun b hb => (f2 b hb).1) ⟨at2.s.wipe _, m2⟩ (ro.mono x2 at0.m.wf (at0.m.nb L (by simp))) wk (q2.via (x0.trans x2) hDb) (fun s' H' I' q' => ⟨H', I', q'⟩)
  exact start_wp he hk loop (T.self X.A 0 _ _ _ st2 loop)

/-! ### the whole -/
def newOf (o : Option Bool) : Sem Value := match o with
  | none => newList []
  | some _ => newDict
def objOf (o : Option Bool) : Obj := match o with
  | none => { cls := .type "list", data := .seq ([] : List Value).toArray }
  | some _ => { cls := .type "dict", data := .dict #[] }
def hoOf (o : Option Bool) : HO := match o with
  | none => .lst []
  | some false => .dK []
  | some true => .dT []
theorem new_ok {M : Model} {A : Around} {E : Value → Shared → Prop} {o : Option Bool} {s : Shared} {Q : Value → Shared → Prop} (h : Q (.ref s.heap.objs.size) { s with heap := s.heap.push (objOf o) }) : wpAny M A (newOf o) Q E s := by
  cases o with
  | none => exact wpAny_newObj_type h (by show 0 ≤ sizeLine; decide)
  | some t => exact wpAny_newObj_type h
theorem new_obj {P : Program} {w : World} {H : Hp} (o : Option Bool) (h : Heap) (hb : sysModules < h.objs.size) : ObjOk P w H (h.push (objOf o)) h.objs.size (hoOf o) := by
  cases o with
  | none => exact ⟨Nat.zero_le _, [], 0, .nil, Heap.get?_push_size _ rfl⟩
  | some t =>
    cases t with
    | false => exact dk_empty h hb
    | true => exact dt_empty h hb
theorem new_rep {H : Hp} {ι : List Addr} {p : Addr} (o : Option Bool) : RepObj g (upd H p (hoOf o)) ι (mkM o ([], [])) p := by
  cases o with
  | none => exact .lst (vs := []) upd_same .nil
  | some t =>
    cases t with
    | false => exact .dctK (kvs := []) upd_same rfl .nil
    | true => exact .dctT (kvs := []) upd_same rfl .nil
theorem new_nt (o : Option Bool) : isTupO (hoOf o) = false := by
  cases o with
  | none => rfl
  | some t => cases t <;> rfl
/-- what the evaluator says of it -/
def compR (o : Option Bool) (fit : Env → Store → R Src) (fi : Env → Store → R Bool) (f : Env → Acc → Store → R Acc) (tg : Tg) (own vs : List Nat) : Env → Store → R Out := fun ρ μ => (fit ρ μ).bind fun src μ =>
  (loopS src (turnC fi f tg (wipeD (wipeD ρ own) (tg.slots ++ vs))) ([], []) μ).noexc.map fun a => .f (mkM o a)
theorem comp_core {W : Str → Sl → Hp → Prop} {pins : List (Addr × Obj)} {s : Shared} {σ : Sl} {H : Hp} {Q : VK} {e te ie : Expr} {ifs : List Expr} {gs : List Comprehension} {scope : Scope} {own : List (Str × Nat)} {pos' : Pos} {o : Option Bool} {tg : Tg} {vs : List Nat} {fit : Env → Store → R Src} {fi : Env → Store → R Bool}
    {f : Env → Acc → Store → R Acc} {use : Option (Value → Sem Unit)} {Qf : Value → Shared → Prop}
    (hc : X.calm = true) (hN : X.N.Nodup) (I : Inv X pins σ H s) (he : IsC e (⟨te, ie, ifs, 0⟩ :: gs)) (hi : PI X te ie (TIs g W fit)) (ok : BlkOk X.N X.env.scope scope own)
    (hblk : ∀ (s : Shared) (H : Hp) (C : Addr) (clo : List (Str × Addr)) (fp : List Addr), PG (X.blk s H scope (compEnvC scope clo C X.env) fp) te (TGd g tg) ∧ PTs (X.blk s H scope (compEnvC scope clo C X.env) fp) ifs (TB g NoW fi) ∧ StepOk g (X.blk s H scope (compEnvC scope clo C X.env) fp) e (⟨te, ie, ifs, 0⟩ :: gs) 1 o f vs)
    (hs : ∀ x, foldedSetIterable ie X.env x = pure x) (h0 : ∀ env g, gs[0]? = some g → g.is_async = 0 ∧ ∀ x, foldedSetIterable g.iter env x = pure x)
    (h : TO g W (compR o fit fi f tg (own.map (·.2)) vs) σ H Q)
    (hRR : ∀ D C s' m H', Inv X pins σ H' s' → Q (.ref D) H' → s'.heap.Ns C m → FpOk X pins H' C → compPost (model X.prog X.w) X.A X.xe use Qf (.ref D) C (.ok .next) s') :
    wpAny (model X.prog X.w) X.A (comprehension e scope X.env pos' (newOf o) false (eval ie X.env) use) Qf X.xe s := by
  obtain ⟨B, ρ, μ, ι, at0, q⟩ := h
  have hfr : ∀ y ∈ scope.names, y.2 = .free → ∃ c, X.env.cells.lookup y.1 = some c := fun y hy ey => (ok.free y hy ey).elim (fun k => I.ok.has _ (.inl k)) fun k => I.ok.has _ (.inr k)
  have hcl : clausesOf e = ⟨te, ie, ifs, 0⟩ :: gs := by rcases he with ⟨elt, sc, p, rfl⟩ | ⟨kx, vx, sc, p, rfl⟩ <;> rfl
  have runI := hi.run pins s σ H _ I ⟨B, ρ, μ, ι, at0, postO.bind (rep := fun H' ι' src J => WalkOk (g.b B) H' ι' src J) q⟩
  refine wpAny_comprehension_free (use := use) hcl hs (closure_ok hfr) ok.kind (fun y hy ey => by rw [ok.uniq y hy, ey]) (thn runI fun xv s1 hx => thn hx fun itv s2 h2 => ?_)
  obtain ⟨it, fp, tn, J, H2, rfl, I2, T, st2, f2, src, μ2, ι2, x2, m2, wk, q2⟩ := h2
  refine new_ok (newEnv_comp ?_)
  generalize hp : s2.heap.objs.size = L
  have hL : H2 L = none := I2.hok.fresh (Nat.le_of_eq hp)
  generalize hsA : ({ s2 with heap := s2.heap.push (objOf o) } : Shared) = sA
  have hA : sA.heap = s2.heap.push (objOf o) := by rw [← hsA]
  have IA : Inv X pins σ (upd H2 L (hoOf o)) sA := by
    rw [← hsA]
    exact I2.laid (t' := s2.toks) (fun b o e => Heap.get?_push_of_some _ e) (Nat.le_of_eq hp) (by rw [← hp]; exact new_obj o s2.heap I2.big)
  have szs : ∀ b ∈ fp, b < s2.heap.objs.size := fun b hb => let ⟨u, eu, _⟩ := T.obj _ _ st2 b hb; Heap.lt_size eu
  have fA : ∀ b ∈ fp, FpOk X pins (upd H2 L (hoOf o)) b ∧ b < sA.heap.objs.size := fun b hb =>
    ⟨⟨by rw [upd_ne (by rw [← hp]; exact Nat.ne_of_lt (szs b hb))]; exact (f2 b hb).1, (f2 b hb).2⟩, by rw [hA, Heap.size_push]; exact Nat.lt_succ_of_lt (szs b hb)⟩
  have stA : tn 0 sA.heap := T.keep _ _ _ st2 fun b _ u eu => by rw [hA]; exact Heap.get?_push_of_some _ eu
  have IB := block_start IA ok hN fA
  obtain ⟨pg, pt, st⟩ := hblk sA (upd H2 L (hoOf o)) sA.heap.objs.size (cellsFrom (sA.heap.objs.size + 1) scope.names (cloFrom X.env.cells scope.names [])) fp
  show codeAny _ _ (.compStart e 0 (.ref it) (.ref L) (compEnvC scope (cellsFrom (sA.heap.objs.size + 1) scope.names (cloFrom X.env.cells scope.names [])) sA.heap.objs.size X.env)) (compPost (model X.prog X.w) X.A X.xe use Qf (.ref L) sA.heap.objs.size) { sA with heap := pushCells (sA.heap.push { cls := .type "dict", data := .dict #[] }) scope.names }
  generalize hce : compEnvC scope (cellsFrom (sA.heap.objs.size + 1) scope.names (cloFrom X.env.cells scope.names [])) sA.heap.objs.size X.env = ce at IB pg pt st ⊢
  have cL : ce.locals = sA.heap.objs.size := by subst hce; rfl
  generalize hsB : ({ sA with heap := pushCells (sA.heap.push { cls := .type "dict", data := .dict #[] }) scope.names } : Shared) = sB at IB ⊢
  have stB : tn 0 sB.heap := T.keep _ _ _ stA fun b _ u eu => by rw [← hsB]; exact pushCells_keeps _ _ _ _ (Heap.get?_push_of_some _ eu)
  have mA : MemRel (g.b (L :: B)) (upd H2 L (hoOf o)) ι2 μ2 := MemRel.newB (g := g.b B) m2 hL (new_nt o)
  have slA : SlotRel (g.b (L :: B)) σ ρ (upd H2 L (hoOf o)) ι2 := ⟨at0.s.len, fun i d ed => by
    obtain ⟨v, e1, r1⟩ := (at0.s.mono x2 at0.m.wf).at_ i d ed
    exact ⟨v, e1, (Rep.more (g := g.b B) hL r1).mono (Ext.new hL) m2.wf⟩⟩
  have wkA : WalkOk (g.b (L :: B)) (upd H2 L (hoOf o)) ι2 src J := fun B' H' ι' μ' hb x' m' => wk B' H' ι' μ' (fun b hbm => by
      rcases hb b hbm with z | z
      · rcases List.mem_cons.mp z with z | z
        · exact .inr (by rw [z]; exact hL)
        · exact .inl z
      · exact .inr (by
          by_cases c : b = L
          · rw [c]; exact hL
          · rw [upd_ne c] at z; exact z)) ⟨x'.pre, fun a u ha hn => by
      obtain ⟨h1, h2⟩ := rmH_some ha
      have hne : a ≠ L := ne_of_none h1 hL
      exact x'.keep a u (by rw [rmH_out fun z => (List.mem_cons.mp z).elim hne h2, upd_ne hne]; exact h1) hn⟩ m'
  have qA : PostA (g.b (L :: B)) o L (loopS src (turnC fi f tg (wipeD (wipeD ρ (own.map (·.2))) (tg.slots ++ vs))) ([], []) μ2) (rmH (upd H2 L (hoOf o)) [L]) ι2 (fun H' => Q (.ref L) H') := by
    generalize loopS src (turnC fi f tg (wipeD (wipeD ρ (own.map (·.2))) (tg.slots ++ vs))) ([], []) μ2 = r at q2
    cases r with
    | ok a μ' =>
      intro H' ι' x' m' ro'
      have xx : Ext H2 ι2 H' ι' := ⟨x'.pre, fun b u hb hn => x'.keep b u (by rw [rmH_out fun z => ne_of_none hb hL (List.mem_singleton.mp z), upd_ne (ne_of_none hb hL)]; exact hb) hn⟩
      have nB : L ∉ (g.b B).B := MemRel.nB (g := g.b B) m2 hL
      cases o with
      | none => exact q2 L H' ι' xx nB hL m' ro'
      | some t => exact q2 L H' ι' xx nB hL m' ro'
    | exc c μ' => exact q2
    | bad => exact q2
  have loop := loop_ok (X := X.blk sA (upd H2 L (hoOf o)) scope ce fp) (pins := []) (k := 0) (RR := compPost (model X.prog X.w) X.A X.xe use Qf (.ref L) sA.heap.objs.size) (s := sB) rfl hc he rfl (fun g hg => h0 ce g (by simpa using hg)) pg pt st T
    (fun {σ' H' s'} I' hn b hb => ⟨hn b hb, (I'.ok.exf b hb).1, I'.ok.exfs b hb, .inl hb, fun x c e => (I'.ok.exf b hb).2 x c e, fun p hp => absurd (show p ∈ ([] : List (Addr × Obj)) ++ [] from hp) (by simp)⟩)
    (fun j v ej => (wipe_some ej).2) (IB.weak (σ' := wipe (wipe σ (own.map (·.2))) (tg.slots ++ vs)) (wipe_length _ _) fun j v ej => (wipe_some ej).1) stB (fun b hb => (fA b hb).1.1) ⟨(slA.wipe _).wipe _, mA⟩ (new_rep o) wkA qA
    (fun s' H' I' q' => by
      have I7 : Inv X pins σ H' s' := IA.call' (ch := fp) I'.os I'.base I'.hok I'.bare fun b hb => ⟨(fA b hb).1.2.2.2.1, (fA b hb).1.2.1, (fA b hb).1.2.2.2.2.1, (fA b hb).1.2.2.2.2.2⟩
      have nC : H' sA.heap.objs.size = none := by
        have z : H' ce.locals = none := I'.free
        rw [cL] at z
        exact z
      obtain ⟨m, hn, _⟩ := I'.loc
      have hn : s'.heap.Ns ce.locals m := hn
      rw [cL] at hn
      exact hRR L sA.heap.objs.size s' m H' I7 q' hn (IA.fpOk (Nat.le_refl _) nC))
  exact start_wp he rfl loop (T.self X.A 0 _ _ _ stB loop)
/-- as a value -/
theorem se_comp {W : Str → Sl → Hp → Prop} {e te ie : Expr} {ifs : List Expr} {gs : List Comprehension} {scope : Scope} {own : List (Str × Nat)} {pos' : Pos} {o : Option Bool} {tg : Tg} {vs : List Nat} {fit : Env → Store → R Src} {fi : Env → Store → R Bool}
    {f : Env → Acc → Store → R Acc} (hev : eval e X.env = comprehension e scope X.env pos' (newOf o) false (eval ie X.env) none)
    (hc : X.calm = true) (hN : X.N.Nodup) (he : IsC e (⟨te, ie, ifs, 0⟩ :: gs)) (hi : PI X te ie (TIs g W fit)) (ok : BlkOk X.N X.env.scope scope own)
    (hblk : ∀ (s : Shared) (H : Hp) (C : Addr) (clo : List (Str × Addr)) (fp : List Addr), PG (X.blk s H scope (compEnvC scope clo C X.env) fp) te (TGd g tg) ∧ PTs (X.blk s H scope (compEnvC scope clo C X.env) fp) ifs (TB g NoW fi) ∧ StepOk g (X.blk s H scope (compEnvC scope clo C X.env) fp) e (⟨te, ie, ifs, 0⟩ :: gs) 1 o f vs)
    (hs : ∀ x, foldedSetIterable ie X.env x = pure x) (h0 : ∀ env g, gs[0]? = some g → g.is_async = 0 ∧ ∀ x, foldedSetIterable g.iter env x = pure x) :
    PE X e (TO g W (compR o fit fi f tg (own.map (·.2)) vs)) := by
  refine ⟨fun pins s σ H Q I h => ?_⟩
  rw [hev]
  refine comp_core hc hN I he hi ok hblk hs h0 h fun D C s' m H' I' q hn fC => ⟨m, hn, fun h'' sb => ?_⟩
  obtain ⟨f0, f1, f2, f3, f4, f5⟩ := fC
  exact ⟨.ref D, H', I'.turned (t' := s'.toks) (fun b u hb eb => (sb.2 b hb).trans eb) f0 f1 f3 f4 f5, rfl, q⟩
end
end PyD

set_option Elab.async false
set_option linter.all false
set_option maxRecDepth 100000
set_option maxHeartbeats 4000000
/-! list(reversed(a list)). -/
namespace PySem
theorem lri_nolen : typeLookup (.type "list_reverseiterator") "__len__" = pure none := by rw [typeLookup_type, builtinLookup_eq_fast]; kernel_rfl
theorem lri_hint : Slot "list_reverseiterator" "__length_hint__" "list_reverseiterator.__length_hint__" :=
  .of (owner := "list_reverseiterator") (n := "__length_hint__") (by rw [typeLookup_type, builtinLookup_eq_fast]; kernel_rfl) (by decide +kernel) (by decide +kernel) (by decide +kernel) (by first | exact .inl (by decide +kernel) | exact .inr (by decide +kernel)) (by rw [isSubtype_type]; kernel_rfl)
section
variable {prog : Program} {w : World} {A : Around} {E : Value → Shared → Prop} {s : Shared}
theorem hint_rev {it l : Addr} {i : Int} {Q : Bool → Shared → Prop} (hit : s.heap.IsRevIter it l i) (h : Q false s) : wpAny (model prog w) A (Builtin.List.listLengthHint (.ref it)) Q E s := by
  unfold Builtin.List.listLengthHint
  refine wpAny_bind (wpAny_specialOf hit.typeIs lri_nolen ?_)
  refine wpAny_bind (wpAny_specialOf hit.typeIs lri_hint.lookup ?_)
  generalize hid : ("list_reverseiterator.__length_hint__" : String) = id0
  wp_delta
  rw [show splitId id0 = some ("list_reverseiterator", "__length_hint__") from by subst hid; decide +kernel]
  subst hid
  refine wpAny_bind (wpAny_isInstance (T := "list_reverseiterator") (b := true) hit.typeIs (by rw [isSubtype_type]; kernel_rfl) ?_)
  refine wpAny_ite_split (fun z => absurd z (by decide)) (fun _ => ?_)
  refine wpAny_ite_split (fun _ => ?_) (fun z => absurd (by decide +kernel) z)
  refine wpAny_ite_split (fun z => absurd z (by decide +kernel)) (fun _ => ?_)
  exact wpAny_pure h
/-- list(that iterator) -/
theorem call_list_rev {it l : Addr} {items : Array Value} {Q : Value → Shared → Prop} (hh : A.handled = none) (hit : s.heap.IsRevIter it l ((items.size : Int) - 1)) (hl : s.heap.IsList l items) (hz : items.size ≤ sizeLine) (hne : l ≠ it)
    (hQ : ∀ h' tk acc c, (∀ b o, b ≠ it → s.heap.get? b = some o → h'.get? b = some o) → h'.get? s.heap.objs.size = some { cls := .type "list", dict := none, data := .seq acc c, slots := #[] } →
      ItemsOf (fun i v => items[items.size - 1 - i]? = some v) acc items.size → Q (.ref s.heap.objs.size) { s with heap := h', toks := tk }) :
    wpAny (model prog w) A (call (.type "list") [.ref it]) Q E s := by
  have hitlt : it < s.heap.objs.size := by obtain ⟨o, e, _⟩ := hit; exact Heap.lt_size e
  have hllt : l < s.heap.objs.size := by obtain ⟨o, e, _⟩ := id hl; exact Heap.lt_size e
  generalize hS : s.heap.objs.size = S at hQ hitlt hllt
  have nSi : S ≠ it := Nat.ne_of_gt hitlt
  have nSl : S ≠ l := Nat.ne_of_gt hllt
  refine callType_codes (Q₁ := fun ob sa => ob = .ref S ∧ sa = { s with heap := s.heap.push { cls := .type "list", data := .seq #[] } }) F.called_list (F.typeCall_list_1 _) F.entry_list_init (code_list_new _ ⟨by rw [hS], rfl⟩) fun ob sa hsa => ?_
  obtain ⟨rfl, rfl⟩ := hsa
  have g0 : (s.heap.push { cls := .type "list", data := .seq #[] }).get? S = some { cls := .type "list", data := .seq #[] } := by rw [← hS]; exact Heap.get?_push_size _ rfl
  refine ⟨⟨_, g0, rfl⟩, F.args_list_init_2 _ _, ?_⟩
  show wpAny _ A.in1.in1 (do let was ← Builtin.List.listItems (.ref S); Builtin.List.listUpdate (.ref S) (fun _ => #[]); letGo was.toList.reverse; Builtin.List.listExtendWith (.ref S) (.ref it) .none) _ _ _
  refine wpAny_bind ?_
  unfold Builtin.List.listItems
  refine wpAny_bind (wpAny_seqItems g0 rfl (wpAny_pure ?_))
  show wpAny _ A.in1.in1 (updateSeq S (fun _ => #[]) >>= fun _ => letGo (#[] : Array Value).toList.reverse >>= fun _ => Builtin.List.listExtendWith (.ref S) (.ref it) .none) _ _ _
  refine wpAny_bind (wpAny_updateSeq g0 rfl ?_)
  have g1 := Heap.get?_update_self (Obj.mapSeq (fun _ => (#[] : Array Value))) g0 rfl
  generalize hH : (s.heap.push { cls := .type "list", data := .seq #[] }).update S (Obj.mapSeq (fun _ => (#[] : Array Value))) = H1 at g1
  have kp : ∀ b o, s.heap.get? b = some o → H1.get? b = some o := fun b o e => by
    rw [← hH]
    exact (Heap.get?_update_other _ _ (fun z => by rw [← z, ← hS] at e; exact absurd (Heap.lt_size e) (Nat.lt_irrefl _))).trans (Heap.get?_push_of_some _ e)
  refine wpAny_bind (wpAny_letGo ?_)
  unfold Builtin.List.listExtendWith
  have hit1 : H1.IsRevIter it l ((items.size : Int) - 1) := hit.at fun o e => kp it o e
  have hl1 : H1.IsList l items := by obtain ⟨o, e, r⟩ := id hl; exact ⟨o, kp l o e, r⟩
  refine wpAny_bind (wpAny_typeOf (Heap.IsRevIter.typeIs (s := { s with heap := H1 }) hit1) ?_)
  have t1 : Builtin.List.listSameRef (.ref S) (.ref it) = false := by simp [Builtin.List.listSameRef, nSi]
  have t2 : (Value.type "list_reverseiterator" == Value.type "list") = false := by decide
  have t3 : (Value.type "list_reverseiterator" == Value.type "tuple") = false := by decide
  simp only [t1, t2, t3, Bool.or_false, Bool.false_eq_true, if_false]
  refine wpAny_bind (wpAny_pyIter_revIter (s := { s with heap := H1 }) hit1 ?_)
  refine wpAny_bind (wpAny_holding (hint_rev (s := { s with heap := H1 }) hit1 ?_))
  refine wpAny_ite_split (fun z => absurd z (by decide)) (fun _ => wpAny_pure ⟨plainId_quiet F.plain_extend_loop _, ?_⟩)
  have W := (Walks.listRev (prog := prog) (w := w) (A := A.in1.in1) hh it l hne items).toS
  have hSf : S ∉ [it, l] := fun hm => by
    rcases List.mem_cons.mp hm with z | z
    · exact nSi z
    · exact nSl (List.mem_singleton.mp z)
  refine codeAny_extend_loopS W hz S hSf .none items.size 0 _ #[] _ rfl (Nat.zero_le _) ⟨Nat.zero_le _, ?_, hl1⟩ g1 (ItemsOf.nil _) fun s' acc c hm gS hacc => ?_
  · have e : ((items.size : Nat) : Int) - 1 - ((0 : Nat) : Int) = (items.size : Int) - 1 := by omega
    rw [e]
    exact hit1
  · rw [Moved.eq_with hm]
    refine ⟨rfl, hQ s'.heap s'.toks acc c (fun b o hb e => hm.heap b o (fun hmem => ?_) (kp b o e)) gS hacc⟩
    rcases List.mem_cons.mp hmem with z | z
    · rw [z, ← hS] at e; exact absurd (Heap.lt_size e) (Nat.lt_irrefl _)
    · exact hb (List.mem_singleton.mp z)
end
end PySem

set_option Elab.async false
set_option linter.all false
set_option maxRecDepth 100000
set_option maxHeartbeats 4000000
/-! list(reversed(a list)): the rule. -/
namespace PyD
open PySem PySem.Spec L2
section
variable {X : Cx} {e : Expr} {te : TE} {p p2 p3 pos : Pos}
def tRevL (K : PySem.W.Frag) (te : TE) : TE := fun σ H Q => te σ H fun v H1 => ∃ (b : Addr) (xs : List V), v = .ref b ∧ SqL K H1 b xs ∧ ∀ q, H1 q = none → Q (.ref q) (upd H1 q (.lst xs.reverse))
theorem vals_rev : ∀ {xs : List V} {us : List Value}, Vals xs us → Vals xs.reverse us.reverse
  | _, _, .nil => .nil
  | _, _, .cons a r => by
    rw [List.reverse_cons, List.reverse_cons]
    exact (vals_rev r).append (.cons a .nil)
theorem rev_items {vs : List Value} {acc : Array Value} (h : ItemsOf (fun i v => vs.toArray[vs.toArray.size - 1 - i]? = some v) acc vs.toArray.size) : acc.toList = vs.reverse := by
  obtain ⟨h1, h2⟩ := h
  apply List.ext_getElem?
  intro i
  by_cases hi : i < vs.length
  · have hv := h2 i (acc[i]'(by rw [h1]; simpa using hi)) (Array.getElem?_eq_getElem _)
    rw [List.getElem?_reverse hi, Array.getElem?_toList, Array.getElem?_eq_getElem (by rw [h1]; simpa using hi)]
    simpa using hv.symm
  · rw [List.getElem?_eq_none (by rw [Array.length_toList, h1]; simpa using hi), List.getElem?_eq_none (by simpa using hi)]
theorem pe_revlist {x y : Str} (hc : X.calm = true) (hx : x = "list") (bx : BltI X x) (hy : y = "reversed") (by_ : BltI X y) (he : PE X e te) (hs : starEach [e] X.env = (false, eval e X.env) :: starEach [] X.env) :
    PE X (.Call (.Name x p) [.Call (.Name y p2) [e] [] p3] [] pos) (tRevL X.K te) := by
  subst hx hy
  refine ⟨fun pins s σ H Q I h => ?_⟩
  refine PyProof.Rows.Call_ (ld_blt I bx.gl bx.mg PyProof.Rows.boot_list (PyProof.Rows.callWith_type1 (PyProof.Rows.args_cons (PyProof.Rows.Call_ (ld_blt I by_.gl by_.mg PyProof.Rows.boot_reversed (PyProof.Rows.callWith_type1 (PyProof.Rows.args_cons (thn (he.run pins s σ H _ I h) fun u s1 hq => PyProof.Rows.args_nil ?_) hs) hs rfl))) rfl) rfl rfl))
  obtain ⟨v, H1, I1, r1, b, xs, rfl, hL, q⟩ := hq
  obtain rfl : u = Value.ref b := r1
  obtain ⟨its, rv, pl, hz⟩ := I1.list hL
  have hlen := rv.length
  refine call_reversed_list pl.isList ?_
  refine PyProof.Rows.args_nil ?_
  have hbl : b < s1.heap.objs.size := by obtain ⟨o, n, e1, _⟩ := id pl; exact Heap.lt_size e1
  refine call_list_rev (l := b) (items := its.toArray) (I1.ok.hd hc) ⟨_, Heap.get?_push_size _ rfl, rfl, rfl⟩ ?_ (by rw [List.size_toArray, ← hlen]; exact hz) (Nat.ne_of_lt hbl) fun h' tk acc c kp gS hacc => ?_
  · obtain ⟨o, n, e1, e2, e3, e4⟩ := id pl
    exact ⟨o, Heap.get?_push_of_some _ e1, e2, n, e4⟩
  · have hacc' := rev_items hacc
    have hle : s1.heap.objs.size ≤ (s1.heap.push (revObj b ((its.toArray.size : Int) - 1))).objs.size := by rw [Heap.size_push]; exact Nat.le_succ _
    generalize hS : (s1.heap.push (revObj b ((its.toArray.size : Int) - 1))).objs.size = S at gS hle ⊢
    refine ⟨.ref S, upd H1 S (.lst xs.reverse), I1.laid (t' := tk) (fun d o ed => kp d o (Nat.ne_of_lt (Heap.lt_size ed)) (Heap.get?_push_of_some _ ed)) hle ⟨by rw [List.length_reverse]; exact hz, its.reverse, c, vals_rev rv, ?_⟩, rfl, q S (I1.hok.fresh hle)⟩
    rw [gS, ← hacc']
end
section
variable {g : G} {W : Str → Sl → Hp → Prop} {X : Cx} {a : Expr} {fa : Env → Store → R D} {cl : Oracle} {fns : Str → Option Fn} {gc : Consts} {n : Nat} {cc : CC} {p p2 p3 pos : Pos}
theorem se_revlist {x y : Str} (C : Cok g cl fns gc n W cc X) (hx : x = "list") (hb : isBlt cc x = true) (hy : y = "reversed") (hb2 : isBlt cc y = true) (hpl : Plain [a]) (ha : PE X a (TD g W fa)) :
    PE X (.Call (.Name x p) [.Call (.Name y p2) [a] [] p3] [] pos) (TO g W fun ρ μ => (fa ρ μ).bind fun x μ => R.ofOpt (biD .revlist μ [x]) μ) :=
  (pe_revlist C.calm hx (C.blt hb) hy (C.blt hb2) ha (hpl a (by simp) _ _)).imp fun σ H Q ⟨B, ρ, μ, ι, at0, q⟩ => (by
    obtain ⟨B1, ρ1, μ1, ι1, a1, q1⟩ := td_bind (W := W) at0 q
    refine ⟨B1, ρ1, μ1, ι1, a1, q1.imp fun v H1 ⟨d, μ2, ι2, x2, a2, r2, q2⟩ => ?_⟩
    have q2 : postO (g.b B) (fun c H' => W c σ H') H1 ι2 (R.ofOpt (match asLst μ2 d with | some ds => some (Out.f (.lst ds.reverse)) | none => none) μ2) Q := q2
    cases e : asLst μ2 d with
    | none => rw [e] at q2; exact q2.elim
    | some ds =>
      rw [e] at q2
      obtain ⟨b, vs, rfl, h1, rl⟩ := lst_of e a2.m r2
      exact ⟨b, vs, rfl, SqL.of h1, fun p hp => end_lst q2 a2.m rl.reverse hp⟩)
end
end PyD

set_option Elab.async false
set_option linter.all false
set_option maxRecDepth 100000
set_option maxHeartbeats 4000000
/-! len(set(xs)), xs a list of tuples of ints and texts. -/
namespace PyD
open PySem PySem.Spec L2
section
variable {X : Cx} {e : Expr} {te : TE} {p p2 p3 pos : Pos}
def tLenS (K : PySem.W.Frag) (te : TE) : TE := fun σ H Q => te σ H fun v H1 => ∃ (l : Addr) (ks : List (Addr × List Key)), v = .ref l ∧ SqL K H1 l (ks.map fun p => V.ref p.1) ∧ (∀ p ∈ ks, H1 p.1 = some (.tup (p.2.map kV))) ∧ ks.length < 64 ∧
  Q (.int ((ks.map fun p => DK.t p.2).eraseDups.length : Nat)) H1
theorem pe_lenS {n : Nat} {x y : Str} (hc : X.calm = true) (hr : Room n X.A) (hx : x = "len") (bx : BltI X x) (hy : y = "set") (by_ : BltI X y) (he : PE X e te) (hs : starEach [e] X.env = (false, eval e X.env) :: starEach [] X.env) :
    PE X (.Call (.Name x p) [.Call (.Name y p2) [e] [] p3] [] pos) (tLenS X.K te) := by
  subst hx hy
  refine ⟨fun pins s σ H Q I h => ?_⟩
  refine PyProof.Rows.Call_ (ld_blt I bx.gl bx.mg PySem.boot_len (PyProof.Rows.callWith_builtin1 (PyProof.Rows.args_cons (PyProof.Rows.Call_ (ld_blt I by_.gl by_.mg PyProof.Rows.boot_set (PyProof.Rows.callWith_type1 (PyProof.Rows.args_cons (thn (he.run pins s σ H _ I h) fun u s1 hq => PyProof.Rows.args_nil ?_) hs) hs rfl))) rfl) rfl rfl))
  obtain ⟨v, H1, I1, r1, l, ks, rfl, hL, hk, hfw, q⟩ := hq
  obtain rfl : u = Value.ref l := r1
  obtain ⟨its, rv, pl, hz⟩ := I1.list hL
  have ei : its = ks.map fun p => Value.ref p.1 := by
    have := refs_at (ps := ks.map (·.1)) (us := its) (by rw [List.map_map]; exact rv)
    rw [this, List.map_map]
    rfl
  have hu := hr.units
  refine k_call ks (I1.ok.hd hc) pl.isList (by simpa using ei) (fun p hp => key_of I1.hok (hk p hp)) hfw (by omega) fun h' tk L es ep t K g kp => ?_
  refine PyProof.Rows.args_nil ?_
  have I2 : Inv X pins σ H1 { s1 with heap := h', toks := tk } := I1.kept kp
  have hcnt := g.count K.nd
  obtain ⟨o, ho, hex, hd⟩ := K.ob
  have hn := K.size
  have hf := K.fits
  have hfew := K.fw
  refine PySem.call_len_set ho hex hd hf (by rw [hn]; omega) ⟨.int _, H1, I2.tok _, ⟨_, rfl⟩, ?_⟩
  rw [hn, hcnt]
  exact q
end
section
variable {g : G} {W : Str → Sl → Hp → Prop} {X : Cx} {a : Expr} {fa : Env → Store → R D} {cl : Oracle} {fns : Str → Option Fn} {gc : Consts} {n : Nat} {cc : CC} {p p2 p3 pos : Pos}
theorem keysT_rep {g : G} {H : Hp} {ι : List Addr} : ∀ {ds : List D} {vs : List V} {ks : List DK}, keysT ds = some ks → RepL g H ι ds vs → ∃ l : List (Addr × List Key), vs = l.map (fun p => V.ref p.1) ∧ ks = l.map (fun p => DK.t p.2) ∧ ∀ p ∈ l, H p.1 = some (.tup (p.2.map kV))
  | [], _, ks, e, r => by
    cases e
    cases r
    exact ⟨[], rfl, rfl, by simp⟩
  | d :: ds, _, ks, e, r => by
    cases r with
    | cons a r =>
      unfold keysT at e
      split at e
      · rename_i k ks' h1 h2
        cases e
        obtain ⟨j, b, rfl, rfl, hb⟩ := keyT_of a h1
        obtain ⟨l, rfl, rfl, h3⟩ := keysT_rep h2 r
        exact ⟨(b, j) :: l, rfl, rfl, fun p hp => (List.mem_cons.mp hp).elim (fun z => by rw [z]; exact hb) (h3 p)⟩
      · cases e
theorem se_lenS {x y : Str} (C : Cok g cl fns gc n W cc X) (hx : x = "len") (hb : isBlt cc x = true) (hy : y = "set") (hb2 : isBlt cc y = true) (hpl : Plain [a]) (ha : PE X a (TD g W fa)) :
    PE X (.Call (.Name x p) [.Call (.Name y p2) [a] [] p3] [] pos) (TO g W fun ρ μ => (fa ρ μ).bind fun x μ => R.ofOpt (biD .lenset μ [x]) μ) :=
  (pe_lenS C.calm C.room hx (C.blt hb) hy (C.blt hb2) ha (hpl a (by simp) _ _)).imp fun σ H Q ⟨B, ρ, μ, ι, at0, q⟩ => (by
    obtain ⟨B1, ρ1, μ1, ι1, a1, q1⟩ := td_bind (W := W) at0 q
    refine ⟨B1, ρ1, μ1, ι1, a1, q1.imp fun v H1 ⟨d, μ2, ι2, x2, a2, r2, q2⟩ => ?_⟩
    obtain ⟨o, e, q5⟩ := q2.ofOpt
    simp only [biD] at e
    split at e
    · rename_i ds el
      split at e
      · rename_i hl
        split at e
        · rename_i ks ek
          cases e
          obtain ⟨b, vs, rfl, h1, rl⟩ := lst_of el a2.m r2
          obtain ⟨l, rfl, rfl, hk⟩ := keysT_rep ek rl
          have hll : l.length < 64 := by
            have := rl.length
            rw [List.length_map] at this
            omega
          exact ⟨b, l, rfl, SqL.of h1, hk, hll, end_v q5 a2.m (.int _)⟩
        · cases e
      · cases e
    · cases e)
end
end PyD

set_option Elab.async false
set_option linter.all false
set_option maxRecDepth 100000
set_option maxHeartbeats 4000000
/-! x[::-1], x a tuple or a list. -/
namespace PyD
open PySem PySem.Spec PyProof.Rows HT L2
section
variable {prog : Program} {w : World} {A : Around} {E : Value → Shared → Prop} {s : Shared}
theorem applied_back {sl : Addr} {u : Tok} {n : Nat} {Q : Int × Int × Nat → Shared → Prop} (hs : s.heap.IsSliceOf sl .none .none (.int (-1) u)) (h : Q ((n : Int) - 1, -1, n) s) : wpAny (model prog w) A (Builtin.Slice.sliceApplied (.ref sl) (pure (n : Int))) Q E s := by
  obtain ⟨os, hos, hcs, hds⟩ := id hs
  unfold Builtin.Slice.sliceApplied Builtin.Slice.sliceFields
  refine wpAny_bind (wpAny_bind (wpAny_field hos hds (x := .none) rfl (wpAny_bind (wpAny_field hos hds (x := .none) rfl (wpAny_bind (wpAny_field hos hds (x := .int (-1) u) rfl (wpAny_pure ?_)))))))
  refine wpAny_bind (slicePart_int ?_)
  show wpAny _ _ (if ((-1 : Int) == 0) = true then _ else _) _ _ s
  rw [if_neg (by decide)]
  refine wpAny_bind (slicePart_none (wpAny_bind (slicePart_none (wpAny_bind (wpAny_pure ?_)))))
  have e : Builtin.Slice.slicePlaces ((n : Int) - 1) (-1) (-1) = n := by
    unfold Builtin.Slice.slicePlaces
    have h1 : ¬ ((-1 : Int) > 0) := by omega
    simp only [h1, if_false]
    have h2 : (-(-1 : Int)) = 1 := by omega
    rw [h2, Int.ediv_one]
    split <;> omega
  show wpAny _ _ (pure ((n : Int) - 1, (-1 : Int), Builtin.Slice.slicePlaces ((n : Int) - 1) (-1) (-1))) _ _ s
  rw [e]
  exact wpAny_pure h
theorem pick_back (xs : Array Value) : ((List.range xs.size).filterMap fun (m : Nat) => xs[(((xs.size : Int) - 1) + (m : Int) * (-1)).toNat]?) = xs.toList.reverse := by
  apply List.ext_getElem?
  intro i
  have e : (fun (m : Nat) => xs[(((xs.size : Int) - 1) + (m : Int) * (-1)).toNat]?) = fun m => xs[xs.size - 1 - m]? := by
    funext m
    congr 1
    omega
  rw [e]
  have key : ∀ k, k ≤ xs.size → (List.range k).filterMap (fun m => xs[xs.size - 1 - m]?) = (xs.toList.reverse).take k := by
    intro k
    induction k with
    | zero => intro _; rfl
    | succ k ih =>
      intro hk
      rw [List.range_succ, List.filterMap_append, ih (by omega)]
      have : xs[xs.size - 1 - k]? = some (xs[xs.size - 1 - k]'(by omega)) := Array.getElem?_eq_getElem (by omega)
      simp only [List.filterMap_cons, this, List.filterMap_nil]
      rw [List.take_succ]
      congr 1
      rw [List.getElem?_reverse (by rw [Array.length_toList]; omega), Array.length_toList, Array.getElem?_toList, this]
      rfl
  rw [key xs.size (Nat.le_refl _), List.take_of_length_le (by simp)]
theorem get_back {t sl : Addr} {items : Array Value} {u : Tok} {Q : Value → Shared → Prop} (ht : IsTup s.heap t items) (hs : s.heap.IsSliceOf sl .none .none (.int (-1) u)) (hz : items.size ≤ sizeLine)
    (h : Q (.ref s.heap.objs.size) { s with heap := s.heap.push { cls := .type "tuple", data := .seq items.toList.reverse.toArray } }) : wpAny (model prog w) A (getItem (.ref t) (.ref sl)) Q E s := by
  have hok : sizeOk (.seq items.toList.reverse.toArray) := by
    show items.toList.reverse.toArray.size ≤ sizeLine
    simpa using hz
  obtain ⟨os, hos, hcs, hds⟩ := id hs
  have hTs : s.TypeIs (.ref sl) "slice" := ⟨os, hos, hcs⟩
  unfold getItem
  try with_reducible refine wpAny_holding ?_
  first | refine wpAny_bind (wpAny_pure ?_) | skip
  refine wpAny_bind (wpAny_sequenceKey ht.typeIs (by decide) ?_)
  refine wpAny_bind (wpAny_callSpecial?_slot (name := Str.ofString "__getitem__") ht.typeIs PyProof.Rows.slot_tuple_getitem (wpAny_call_entry PyProof.Rows.slot_tuple_getitem ht.typeIs entry_tuple_getitem ?_ (args_tuple_getitem _ _)))
  show wpAny _ _ (Builtin.Tuple.tupleItemsOf (.ref t) >>= _) _ _ s
  refine wpAny_bind (tupleItemsOf_ ht ?_)
  refine wpAny_bind (wpAny_typeOf hTs ?_)
  rw [if_pos (by decide)]
  refine wpAny_bind (applied_back hs ?_)
  have hno : ¬ ((((items.size : Int) - 1) == 0 && (-1 : Int) == 1 && items.size == items.size) = true) := by
    rw [show ((-1 : Int) == 1) = false from rfl, Bool.and_false, Bool.false_and]
    decide
  show wpAny _ _ (if ((((items.size : Int) - 1) == 0 && (-1 : Int) == 1 && items.size == items.size) = true) then _ else _) _ _ s
  rw [if_neg hno, pick_back]
  first
    | exact wpAny_bind (m := Builtin.Tuple.tupleExact _) (wpAny_newObj_type (wpAny_pure ⟨_, rfl, wpAny_pure h⟩) hok)
    | exact wpAny_bind (m := Builtin.Tuple.tupleExact _) (wpAny_newObj_type (wpAny_bind (wpAny_pure (wpAny_pure ⟨_, rfl, wpAny_pure h⟩))) hok)
    | exact wpAny_bind (wpAny_bind (m := Builtin.Tuple.tupleExact _) (wpAny_newObj_type (wpAny_pure (wpAny_pure ⟨_, rfl, wpAny_pure h⟩)) hok))
    | exact wpAny_bind (wpAny_bind (m := Builtin.Tuple.tupleExact _) (wpAny_newObj_type (wpAny_pure ⟨_, rfl, wpAny_pure h⟩) hok))
end
section
variable {g : G} {W : Str → Sl → Hp → Prop} {X : Cx} {a st : Expr} {fa : Env → Store → R D} {te : TE} {cl : Oracle} {fns : Str → Option Fn} {gc : Consts} {n : Nat} {cc : CC} {p p2 pos : Pos}
def tBack (K : PySem.W.Frag) (te : TE) : TE := fun σ H Q => te σ H fun v H1 => ∃ (b : Addr) (xs : List V), v = .ref b ∧ SqT K H1 b xs ∧ NewT H1 Q xs.reverse
theorem pe_back {j : Nat} {p1 p2 p3 : Pos} (he : PE X a te) : PE X (.Subscript a (.Slice none none (some (.UnaryOp .USub (.Constant (.int 1) j p1) p2)) p3) pos) (tBack X.K te) := by
  refine ⟨fun pins s σ H Q I h => ?_⟩
  refine Subscript_ (thn (he.run pins s σ H _ I h) fun v s1 ⟨x, H1, I1, r1, b, xs, ex, hL, q⟩ => ?_)
  subst ex
  obtain rfl : v = Value.ref b := r1
  refine wpAny_Slice ?_
  rw [evalPart_none]
  refine wpAny_pure (wpAny_pure ?_)
  have hst : PE X (.UnaryOp .USub (.Constant (.int 1) j p1) p2) _ := pe_un un_neg pe_int
  refine thn (hst.run pins s1 σ H1 (fun y H2 => y = .int (-1) ∧ H2 = H1) I1 ⟨1, rfl, rfl, rfl⟩) fun w s2 ⟨y, H2, I2, r2, e1, e2⟩ => ?_
  subst e1 e2
  obtain ⟨u, rfl⟩ := r2
  have I3 : Inv X pins σ H2 { s2 with heap := s2.heap.push { cls := .type "slice", data := .fields #[.none, .none, .int (-1) u] } } := I2.kept (t' := s2.toks) fun b ob q => Heap.get?_push_of_some _ q
  obtain ⟨its, rv, ht, hz⟩ := I3.tuple hL
  have hlen := rv.length
  refine tail_any (ops := [.ref b, .ref s2.heap.objs.size]) (T := "tuple") ht.typeIs PyProof.Rows.slot_tuple_getitem.lookup (get_back ht (Heap.IsSliceOf.new ..) (by rw [List.size_toArray, ← hlen]; exact hz) ?_) (by with_unfolding_all rfl)
  exact ep_tup I3 (vals_rev rv) (by rw [List.length_reverse]; exact hz) q
theorem se_back {i' : Expr} (C : Cok g cl fns gc n W cc X) (hi : isBack i' = true) (ha : PE X a (TD g W fa)) : PE X (.Subscript a i' pos) (TO g W fun ρ μ => (fa ρ μ).bind fun x μ => match x with | .tup ds => .ok (.v (.tup ds.reverse)) μ | _ => .bad) := by
  obtain ⟨j, p1, p2, p3, rfl⟩ := isBack_i hi
  refine (pe_back ha).imp fun σ H Q ⟨B, ρ, μ, ι, at0, q⟩ => ?_
  obtain ⟨B1, ρ1, μ1, ι1, a1, q1⟩ := td_bind (W := W) at0 q
  refine ⟨B1, ρ1, μ1, ι1, a1, q1.imp fun v H1 ⟨d, μ2, ι2, x2, a2, r2, q2⟩ => ?_⟩
  split at q2
  · cases r2 with
    | tup h rl => exact ⟨_, _, rfl, h.sq, end_tup q2 a2.m rl.reverse⟩
  · exact q2.elim
end
end PyD

set_option Elab.async false
set_option linter.all false
set_option maxRecDepth 100000
set_option maxHeartbeats 4000000
/-! Every expression: what the evaluator says, the model's run does. -/
namespace PyD
open PySem PySem.Spec L2

theorem TIs.eq {g : G} {W : Str → Sl → Hp → Prop} {X : Cx} {tg e : Expr} {f f' : Env → Store → R Src} (h : PI X tg e (TIs g W f)) (k : ∀ ρ μ, f' ρ μ = f ρ μ) : PI X tg e (TIs g W f') := by
  have : f' = f := by funext ρ μ; exact k ρ μ
  rw [this]
  exact h
theorem TW.eq {g : G} {W : Str → Sl → Hp → Prop} {X : Cx} {e : Expr} {f f' : Env → Store → R Bool} (h : PW X e (TB g W f)) (k : ∀ ρ μ, f' ρ μ = f ρ μ) : PW X e (TB g W f') := by
  have : f' = f := by funext ρ μ; exact k ρ μ
  rw [this]
  exact h
/-- a test that is a value -/
def dflt : Expr → Bool
  | .IfExp _ _ _ _ => false
  | .Compare _ _ _ _ => false
  | .BoolOp _ _ _ => false
  | .UnaryOp .Not _ _ => false
  | _ => true
theorem dflt_test {e : Expr} (h : dflt e = true) (env : PySem.Env) (whole : Sem Value) : isTrue e env whole = (do let v ← whole; standAt e.pos; holding [v] (truthy v)) := by
  cases e <;> first | rfl | (cases h; done) | (rename_i op _ _; cases op <;> first | rfl | cases h)
section
variable (g : G) (cl : Oracle) (fns : Str → Option Fn) (gc : Consts) (n : Nat)
def PropE (p : PX) : Prop := ∀ W cc X e, Cok g cl fns gc n W cc X → chk p cc e = true → PE X e (TO g W (evO cl gc p))
def PropT (p : PX) : Prop := ∀ W cc X e, Cok g cl fns gc n W cc X → chk p cc e = true → tstOk e = true → PT X e (TB g W fun ρ μ => (evO cl gc p ρ μ).dat.bool)
def PropL (p : PX) : Prop := ∀ W cc X es, Cok g cl fns gc n W cc X → chkL p cc es = true → PA X es (TL g W (evL cl gc p)) ∧ Plain es
def PropN (p : PX) : Prop := ∀ W cc X es pos, Cok g cl fns gc n W cc X → chkL p cc es = true → es ≠ [] → PE X (.BoolOp .And es pos) (TO g W (evAnd cl gc p)) ∧ (es.all tstOk = true → PW X (.BoolOp .And es pos) (TB g W fun ρ μ => (evAnd cl gc p ρ μ).dat.bool))
def PropO (p : PX) : Prop := ∀ W cc X es pos, Cok g cl fns gc n W cc X → chkL p cc es = true → es ≠ [] → PE X (.BoolOp .Or es pos) (TO g W (evOr cl gc p)) ∧ (es.all tstOk = true → PW X (.BoolOp .Or es pos) (TB g W fun ρ μ => (evOr cl gc p ρ μ).dat.bool))
def PropF (p : PX) : Prop := ∀ W cc X es, Cok g cl fns gc n W cc X → chkL p cc es = true → es.all tstOk = true → PTs X es (TB g W (evIf cl gc p))
def PropI (p : PX) : Prop := ∀ W cc X tg e, Cok g cl fns gc n W cc X → chkI p cc e = true → tgOk p tg = true → PI X tg e (TIs g W (evI cl gc p))
def PropS (p : PX) : Prop := ∀ cc X e gens k o own emit gs, Cok g cl fns gc n NoW cc X → X.xe = (fun _ _ => False) → IsC e gens → gens.drop k = gs → k ≤ gens.length → chkG p cc cc own gs = true →
  StepOk g X e gens gens.length o emit [] → StepOk g X e gens k o (evC cl gc p emit) p.gslots
structure AllOk (p : PX) : Prop where
  E : PropE g cl fns gc n p
  T : PropT g cl fns gc n p
  L : PropL g cl fns gc n p
  N : PropN g cl fns gc n p
  O : PropO g cl fns gc n p
  F : PropF g cl fns gc n p
  I : PropI g cl fns gc n p
  S : PropS g cl fns gc n p
  K : ∀ f l, p = .call f l → PropL g cl fns gc n l
  Gn : ∀ tg it ifs rest, p = .gen tg it ifs rest → PropI g cl fns gc n it ∧ PropF g cl fns gc n ifs ∧ PropS g cl fns gc n rest
  Cn : ∀ a r, p = .cons a r → PropE g cl fns gc n a ∧ ∀ b r', r = .cons b r' → PropE g cl fns gc n b
end
section
variable {g : G} {cl : Oracle} {fns : Str → Option Fn} {gc : Consts} {n : Nat} {p : PX}
theorem propT_of (hE : PropE g cl fns gc n p) (h : ∀ cc e, chk p cc e = true → tstOk e = true → dflt e = true) : PropT g cl fns gc n p := fun W cc X e C hc ht =>
  st_val (hE W cc X e C hc).dat (dflt_test (h cc e hc ht) X.env)
theorem AllOk.expr (hE : PropE g cl fns gc n p) (hT : PropT g cl fns gc n p) (hL : ∀ cc es, chkL p cc es = false) (hI : ∀ cc e, chkI p cc e = false) (hG : ∀ cc ci own gs, chkG p cc ci own gs = false)
    (hg : ∀ tg it ifs rest, p ≠ .gen tg it ifs rest) (hK : ∀ f l, p = .call f l → PropL g cl fns gc n l) (hC : ∀ a r, p ≠ .cons a r) : AllOk g cl fns gc n p where
  E := hE
  T := hT
  L := fun _ cc _ es _ h => by rw [hL] at h; cases h
  N := fun _ cc _ es _ _ h => by rw [hL] at h; cases h
  O := fun _ cc _ es _ _ h => by rw [hL] at h; cases h
  F := fun _ cc _ es _ h => by rw [hL] at h; cases h
  I := fun _ cc _ _ e _ h => by rw [hI] at h; cases h
  S := fun cc _ _ _ _ _ own _ gs _ _ _ _ _ h => by rw [hG] at h; cases h
  K := hK
  Gn := fun tg it ifs rest h => absurd h (hg tg it ifs rest)
  Cn := fun a r h => absurd h (hC a r)
theorem AllOk.iter (hI : PropI g cl fns gc n p) (hE : ∀ cc e, chk p cc e = false) (hL : ∀ cc es, chkL p cc es = false) (hG : ∀ cc ci own gs, chkG p cc ci own gs = false)
    (hg : ∀ tg it ifs rest, p ≠ .gen tg it ifs rest) (hK : ∀ f l, p ≠ .call f l) (hC : ∀ a r, p ≠ .cons a r) : AllOk g cl fns gc n p where
  E := fun _ cc _ e _ h => by rw [hE] at h; cases h
  T := fun _ cc _ e _ h => by rw [hE] at h; cases h
  L := fun _ cc _ es _ h => by rw [hL] at h; cases h
  N := fun _ cc _ es _ _ h => by rw [hL] at h; cases h
  O := fun _ cc _ es _ _ h => by rw [hL] at h; cases h
  F := fun _ cc _ es _ h => by rw [hL] at h; cases h
  I := hI
  S := fun cc _ _ _ _ _ own _ gs _ _ _ _ _ h => by rw [hG] at h; cases h
  K := fun f l h => absurd h (hK f l)
  Gn := fun tg it ifs rest h => absurd h (hg tg it ifs rest)
  Cn := fun a r h => absurd h (hC a r)
theorem chkL_nil {p : PX} {cc : CC} (h : chkL p cc [] = true) : p = .nil := by cases p <;> first | rfl | (simp [chkL] at h)
theorem chkL_cons {p : PX} {cc : CC} {e : Expr} {es : List Expr} (h : chkL p cc (e :: es) = true) : ∃ a r, p = .cons a r ∧ chk a cc e = true ∧ chkL r cc es = true := by
  cases p with
  | cons a r => simp only [chkL, Bool.and_eq_true] at h; exact ⟨a, r, rfl, h⟩
  | _ => simp [chkL] at h
theorem chk_star {cc : CC} {x : Expr} {pos : Pos} : ∀ {p : PX}, chk p cc (.Starred x pos) = true → False := by
  intro p h
  induction p with
  | new a ih => simp only [chk, Bool.and_eq_true] at h; exact ih h.1
  | _ => simp [chk] at h
/-- no such term is starred -/
theorem chk_plain {cc : CC} {p : PX} {e : Expr} (h : chk p cc e = true) (env : PySem.Env) (r : List Expr) : starEach (e :: r) env = (false, eval e env) :: starEach r env := by
  cases e <;> first | rfl | exact (chk_star h).elim
theorem base_ok {o : Expr} {x : Str} {env : PySem.Env} (h : baseOk o = true) : attributeBase o x env (eval o env) = eval o env := by
  cases o with
  | Call f es kw pos => cases es with
    | nil => cases h
    | cons _ _ => cases f <;> (unfold attributeBase; rfl)
  | _ => unfold attributeBase; rfl
theorem ok_var (i : Nat)  : AllOk g cl fns gc n (.var i) := by
  have hE : PropE g cl fns gc n (.var i) := fun W cc X e C h => by
    cases e with
    | Name x pos =>
      simp only [chk, Bool.and_eq_true] at h
      exact se_var C h.1 h.2
    | _ => simp [chk] at h
  exact .expr hE (propT_of hE fun cc e h _ => by cases e <;> first | rfl | (simp [chk] at h)) (fun _ _ => by simp [chkL]) (fun _ _ => by simp [chkI]) (fun _ _ _ _ => by simp [chkG]) (fun _ _ _ _ h => by cases h) (fun _ _ h => by cases h) (fun _ _ h => by cases h)
theorem ok_int (i : Int)  : AllOk g cl fns gc n (.int i) := by
  have hE : PropE g cl fns gc n (.int i) := fun W cc X e C h => by
    cases e with
    | Constant c k pos =>
      cases c with
      | int j =>
        simp only [chk, decide_eq_true_eq] at h
        subst h
        exact TO.eq (se_const pe_int fun _ _ _ => .int i) fun ρ μ => by rw [evO]
      | _ => simp [chk] at h
    | _ => simp [chk] at h
  exact .expr hE (propT_of hE fun cc e h _ => by cases e <;> first | rfl | (simp [chk] at h)) (fun _ _ => by simp [chkL]) (fun _ _ => by simp [chkI]) (fun _ _ _ _ => by simp [chkG]) (fun _ _ _ _ h => by cases h) (fun _ _ h => by cases h) (fun _ _ h => by cases h)
theorem ok_str (i : Str)  : AllOk g cl fns gc n (.str i) := by
  have hE : PropE g cl fns gc n (.str i) := fun W cc X e C h => by
    cases e with
    | Constant c k pos =>
      cases c with
      | str j =>
        simp only [chk, decide_eq_true_eq] at h
        subst h
        exact TO.eq (se_const pe_str fun _ _ _ => .str i) fun ρ μ => by rw [evO]
      | _ => simp [chk] at h
    | _ => simp [chk] at h
  exact .expr hE (propT_of hE fun cc e h _ => by cases e <;> first | rfl | (simp [chk] at h)) (fun _ _ => by simp [chkL]) (fun _ _ => by simp [chkI]) (fun _ _ _ _ => by simp [chkG]) (fun _ _ _ _ h => by cases h) (fun _ _ h => by cases h) (fun _ _ h => by cases h)
theorem ok_bl (i : Bool)  : AllOk g cl fns gc n (.bl i) := by
  have hE : PropE g cl fns gc n (.bl i) := fun W cc X e C h => by
    cases e with
    | Constant c k pos =>
      cases c with
      | bool j =>
        simp only [chk, decide_eq_true_eq] at h
        subst h
        exact TO.eq (se_const pe_bl fun _ _ _ => .bl i) fun ρ μ => by rw [evO]
      | _ => simp [chk] at h
    | _ => simp [chk] at h
  exact .expr hE (propT_of hE fun cc e h _ => by cases e <;> first | rfl | (simp [chk] at h)) (fun _ _ => by simp [chkL]) (fun _ _ => by simp [chkI]) (fun _ _ _ _ => by simp [chkG]) (fun _ _ _ _ h => by cases h) (fun _ _ h => by cases h) (fun _ _ h => by cases h)
theorem ok_non   : AllOk g cl fns gc n (.non) := by
  have hE : PropE g cl fns gc n (.non) := fun W cc X e C h => by
    cases e with
    | Constant c k pos =>
      cases c with
      | none =>
        skip
        exact TO.eq (se_const pe_non fun _ _ _ => .non) fun ρ μ => by rw [evO]
      | _ => simp [chk] at h
    | _ => simp [chk] at h
  exact .expr hE (propT_of hE fun cc e h _ => by cases e <;> first | rfl | (simp [chk] at h)) (fun _ _ => by simp [chkL]) (fun _ _ => by simp [chkI]) (fun _ _ _ _ => by simp [chkG]) (fun _ _ _ _ h => by cases h) (fun _ _ h => by cases h) (fun _ _ h => by cases h)
theorem ok_glb (x : Str)  : AllOk g cl fns gc n (.glb x) := by
  have hE : PropE g cl fns gc n (.glb x) := fun W cc X e C h => by
    cases e with
    | Name y pos =>
      simp only [chk, Bool.and_eq_true, decide_eq_true_eq] at h
      obtain ⟨⟨rfl, h2⟩, h3⟩ := h
      exact se_glb C h2 h3
    | _ => simp [chk] at h
  exact .expr hE (propT_of hE fun cc e h _ => by cases e <;> first | rfl | (simp [chk] at h)) (fun _ _ => by simp [chkL]) (fun _ _ => by simp [chkI]) (fun _ _ _ _ => by simp [chkG]) (fun _ _ _ _ h => by cases h) (fun _ _ h => by cases h) (fun _ _ h => by cases h)
theorem ok_bin {a b : PX} (op : Operator) (ha : AllOk g cl fns gc n a) (hb : AllOk g cl fns gc n b) : AllOk g cl fns gc n (.bin op a b) := by
  have hE : PropE g cl fns gc n (.bin op a b) := fun W cc X e C h => by
    cases e with
    | BinOp a' op' b' pos =>
      simp only [chk, Bool.and_eq_true, decide_eq_true_eq] at h
      obtain ⟨⟨rfl, h2⟩, h3⟩ := h
      exact TO.eq (se_bin C.hK (ha.E W cc X a' C h2).dat (hb.E W cc X b' C h3).dat) fun ρ μ => by rw [evO]
    | _ => simp [chk] at h
  exact .expr hE (propT_of hE fun cc e h _ => by cases e <;> first | rfl | (simp [chk] at h)) (fun _ _ => by simp [chkL]) (fun _ _ => by simp [chkI]) (fun _ _ _ _ => by simp [chkG]) (fun _ _ _ _ h => by cases h) (fun _ _ h => by cases h) (fun _ _ h => by cases h)
theorem ok_neg {a : PX} (ha : AllOk g cl fns gc n a) : AllOk g cl fns gc n (.neg a) := by
  have hE : PropE g cl fns gc n (.neg a) := fun W cc X e C h => by
    cases e with
    | UnaryOp op a' pos =>
      cases op with
      | USub =>
        simp only [chk] at h
        exact TO.eq (se_neg (ha.E W cc X a' C h).dat) fun ρ μ => by rw [evO] <;> rfl
      | _ => simp [chk] at h
    | _ => simp [chk] at h
  have hT : PropT g cl fns gc n (.neg a) := fun W cc X e C h ht => by
    cases e with
    | UnaryOp op a' pos =>
      cases op with
      | USub => exact st_val (hE W cc X _ C h).dat (dflt_test rfl X.env)
      | _ => simp [chk] at h
    | _ => simp [chk] at h
  exact .expr hE hT (fun _ _ => by simp [chkL]) (fun _ _ => by simp [chkI]) (fun _ _ _ _ => by simp [chkG]) (fun _ _ _ _ h => by cases h) (fun _ _ h => by cases h) (fun _ _ h => by cases h)
theorem ok_not {a : PX} (ha : AllOk g cl fns gc n a) : AllOk g cl fns gc n (.not a) := by
  have hE : PropE g cl fns gc n (.not a) := fun W cc X e C h => by
    cases e with
    | UnaryOp op a' pos =>
      cases op with
      | Not =>
        simp only [chk, Bool.and_eq_true] at h
        exact TO.eq (se_not (ha.E W cc X a' C h.1).dat) fun ρ μ => by rw [evO]
      | _ => simp [chk] at h
    | _ => simp [chk] at h
  have hT : PropT g cl fns gc n (.not a) := fun W cc X e C h ht => by
    cases e with
    | UnaryOp op a' pos =>
      cases op with
      | Not =>
        simp only [chk, Bool.and_eq_true] at h
        exact TB.eq (st_not (ha.T W cc X a' C h.1 h.2)) fun ρ μ => by
          rw [evO]
          cases (evO cl gc a ρ μ).dat.bool <;> rfl
      | _ => simp [chk] at h
    | _ => simp [chk] at h
  exact .expr hE hT (fun _ _ => by simp [chkL]) (fun _ _ => by simp [chkI]) (fun _ _ _ _ => by simp [chkG]) (fun _ _ _ _ h => by cases h) (fun _ _ h => by cases h) (fun _ _ h => by cases h)
theorem ok_cmp {a b : PX} (op : CmpOp) (ha : AllOk g cl fns gc n a) (hb : AllOk g cl fns gc n b) : AllOk g cl fns gc n (.cmp op a b) := by
  have hE : PropE g cl fns gc n (.cmp op a b) := fun W cc X e C h => by
    cases e with
    | Compare a' ops bs pos =>
      match ops, bs, h with
      | [op'], [b'], h =>
        simp only [chk, Bool.and_eq_true, decide_eq_true_eq] at h
        obtain ⟨⟨⟨rfl, h2⟩, h3⟩, h4⟩ := h
        exact TO.eq (se_cmp C h4 (ha.E W cc X a' C h2).dat (hb.E W cc X b' C h3).dat) fun ρ μ => by rw [evO]
      | [], _, h => simp [chk] at h
      | _ :: _ :: _, _, h => simp [chk] at h
      | [_], [], h => simp [chk] at h
      | [_], _ :: _ :: _, h => simp [chk] at h
    | _ => simp [chk] at h
  have hT : PropT g cl fns gc n (.cmp op a b) := fun W cc X e C h ht => by
    cases e with
    | Compare a' ops bs pos =>
      match ops, bs, h with
      | [op'], [b'], h =>
        simp only [chk, Bool.and_eq_true, decide_eq_true_eq] at h
        obtain ⟨⟨⟨rfl, h2⟩, h3⟩, h4⟩ := h
        exact TB.eq (st_cmp C h4 (ha.E W cc X a' C h2).dat (hb.E W cc X b' C h3).dat) fun ρ μ => by
          rw [evO]
          show _ = ((evO cl gc a ρ μ).dat.bind fun x μ => (evO cl gc b ρ μ).dat.bind fun y μ => R.ofOpt (cmpD op μ x y) μ)
          cases (evO cl gc a ρ μ).dat with
          | ok x μ1 =>
            simp only [R.bind]
            cases (evO cl gc b ρ μ1).dat with
            | ok y μ2 =>
              simp only [R.bind]
              cases cmpD op μ2 x y <;> rfl
            | exc _ _ => rfl
            | bad => rfl
          | exc _ _ => rfl
          | bad => rfl
      | [], _, h => simp [chk] at h
      | _ :: _ :: _, _, h => simp [chk] at h
      | [_], [], h => simp [chk] at h
      | [_], _ :: _ :: _, h => simp [chk] at h
    | _ => simp [chk] at h
  exact .expr hE hT (fun _ _ => by simp [chkL]) (fun _ _ => by simp [chkI]) (fun _ _ _ _ => by simp [chkG]) (fun _ _ _ _ h => by cases h) (fun _ _ h => by cases h) (fun _ _ h => by cases h)
theorem ok_chain {a b c : PX} (o1 o2 : CmpOp) (ha : AllOk g cl fns gc n a) (hb : AllOk g cl fns gc n b) (hc : AllOk g cl fns gc n c) : AllOk g cl fns gc n (.chain o1 o2 a b c) := by
  have hE : PropE g cl fns gc n (.chain o1 o2 a b c) := fun W cc X e C h => by
    cases e with
    | Compare a' ops bs pos =>
      match ops, bs, h with
      | [p1, p2], [b', c'], h =>
        simp only [chk, Bool.and_eq_true, decide_eq_true_eq] at h
        obtain ⟨⟨⟨⟨⟨⟨rfl, rfl⟩, h2⟩, h3⟩, h4⟩, h5⟩, h6⟩ := h
        exact TO.eq (se_chain C h6 (ha.E W cc X a' C h2).dat (hb.E W cc X b' C h3).dat (hc.E W cc X c' C h4).dat) fun ρ μ => by rw [evO]
      | [], _, h => simp [chk] at h
      | [_], _, h => simp [chk] at h
      | _ :: _ :: _ :: _, _, h => simp [chk] at h
      | [_, _], [], h => simp [chk] at h
      | [_, _], [_], h => simp [chk] at h
      | [_, _], _ :: _ :: _ :: _, h => simp [chk] at h
    | _ => simp [chk] at h
  have hT : PropT g cl fns gc n (.chain o1 o2 a b c) := fun W cc X e C h ht => by
    cases e with
    | Compare a' ops bs pos =>
      match ops, bs, h with
      | [p1, p2], [b', c'], h =>
        simp only [chk, Bool.and_eq_true, decide_eq_true_eq] at h
        obtain ⟨⟨⟨⟨⟨⟨rfl, rfl⟩, h2⟩, h3⟩, h4⟩, h5⟩, h6⟩ := h
        exact TB.eq (st_chain C h6 (ha.E W cc X a' C h2).dat (hb.E W cc X b' C h3).dat (hc.E W cc X c' C h4).dat) fun ρ μ => by
          rw [evO]
          show _ = ((evO cl gc a ρ μ).dat.bind fun x μ => (evO cl gc b ρ μ).dat.bind fun y μ => (R.ofOpt (cmpD o1 μ x y) μ).bind fun k μ => if k then (evO cl gc c ρ μ).dat.bind fun z μ => R.ofOpt (cmpD o2 μ y z) μ else .ok false μ)
          cases (evO cl gc a ρ μ).dat with
          | ok x μ1 =>
            simp only [R.bind]
            cases (evO cl gc b ρ μ1).dat with
            | ok y μ2 =>
              simp only [R.bind]
              cases cmpD o1 μ2 x y with
              | none => rfl
              | some k =>
                cases k with
                | false => rfl
                | true =>
                  simp only [R.ofOpt, if_true]
                  cases (evO cl gc c ρ μ2).dat with
                  | ok z μ3 =>
                    simp only [R.bind]
                    cases cmpD o2 μ3 y z <;> rfl
                  | exc _ _ => rfl
                  | bad => rfl
            | exc _ _ => rfl
            | bad => rfl
          | exc _ _ => rfl
          | bad => rfl
      | [], _, h => simp [chk] at h
      | [_], _, h => simp [chk] at h
      | _ :: _ :: _ :: _, _, h => simp [chk] at h
      | [_, _], [], h => simp [chk] at h
      | [_, _], [_], h => simp [chk] at h
      | [_, _], _ :: _ :: _ :: _, h => simp [chk] at h
    | _ => simp [chk] at h
  exact .expr hE hT (fun _ _ => by simp [chkL]) (fun _ _ => by simp [chkI]) (fun _ _ _ _ => by simp [chkG]) (fun _ _ _ _ h => by cases h) (fun _ _ h => by cases h) (fun _ _ h => by cases h)
theorem ok_and {l : PX} (hl : AllOk g cl fns gc n l) : AllOk g cl fns gc n (.and l) := by
  have hE : PropE g cl fns gc n (.and l) := fun W cc X e C h => by
    cases e with
    | BoolOp op es pos =>
      cases op with
      | And =>
        simp only [chk, Bool.and_eq_true, Bool.not_eq_true', List.isEmpty_eq_false_iff] at h
        exact TO.eq (hl.N W cc X es pos C h.1.1 h.1.2).1 fun ρ μ => by rw [evO]
      | _ => simp [chk] at h
    | _ => simp [chk] at h
  have hT : PropT g cl fns gc n (.and l) := fun W cc X e C h ht => by
    cases e with
    | BoolOp op es pos =>
      cases op with
      | And =>
        simp only [chk, Bool.and_eq_true, Bool.not_eq_true', List.isEmpty_eq_false_iff] at h
        exact TB.eq ((hl.N W cc X es pos C h.1.1 h.1.2).2 h.2).pt fun ρ μ => by rw [evO]
      | _ => simp [chk] at h
    | _ => simp [chk] at h
  exact .expr hE hT (fun _ _ => by simp [chkL]) (fun _ _ => by simp [chkI]) (fun _ _ _ _ => by simp [chkG]) (fun _ _ _ _ h => by cases h) (fun _ _ h => by cases h) (fun _ _ h => by cases h)
theorem ok_or {l : PX} (hl : AllOk g cl fns gc n l) : AllOk g cl fns gc n (.or l) := by
  have hE : PropE g cl fns gc n (.or l) := fun W cc X e C h => by
    cases e with
    | BoolOp op es pos =>
      cases op with
      | Or =>
        simp only [chk, Bool.and_eq_true, Bool.not_eq_true', List.isEmpty_eq_false_iff] at h
        exact TO.eq (hl.O W cc X es pos C h.1.1 h.1.2).1 fun ρ μ => by rw [evO]
      | _ => simp [chk] at h
    | _ => simp [chk] at h
  have hT : PropT g cl fns gc n (.or l) := fun W cc X e C h ht => by
    cases e with
    | BoolOp op es pos =>
      cases op with
      | Or =>
        simp only [chk, Bool.and_eq_true, Bool.not_eq_true', List.isEmpty_eq_false_iff] at h
        exact TB.eq ((hl.O W cc X es pos C h.1.1 h.1.2).2 h.2).pt fun ρ μ => by rw [evO]
      | _ => simp [chk] at h
    | _ => simp [chk] at h
  exact .expr hE hT (fun _ _ => by simp [chkL]) (fun _ _ => by simp [chkI]) (fun _ _ _ _ => by simp [chkG]) (fun _ _ _ _ h => by cases h) (fun _ _ h => by cases h) (fun _ _ h => by cases h)
theorem ok_ite {c a b : PX} (hc : AllOk g cl fns gc n c) (ha : AllOk g cl fns gc n a) (hb : AllOk g cl fns gc n b) : AllOk g cl fns gc n (.ite c a b) := by
  have hE : PropE g cl fns gc n (.ite c a b) := fun W cc X e C h => by
    cases e with
    | IfExp c' a' b' pos =>
      simp only [chk, Bool.and_eq_true] at h
      obtain ⟨⟨⟨h1, h2⟩, h3⟩, h4⟩ := h
      exact TO.eq (se_ite (hc.T W cc X c' C h1 h2) (ha.E W cc X a' C h3).dat (hb.E W cc X b' C h4).dat) fun ρ μ => by rw [evO]
    | _ => simp [chk] at h
  have hT : PropT g cl fns gc n (.ite c a b) := fun W cc X e C h ht => by
    cases e with
    | IfExp c' a' b' pos =>
      cases ht
    | _ => simp [chk] at h
  exact .expr hE hT (fun _ _ => by simp [chkL]) (fun _ _ => by simp [chkI]) (fun _ _ _ _ => by simp [chkG]) (fun _ _ _ _ h => by cases h) (fun _ _ h => by cases h) (fun _ _ h => by cases h)
theorem ok_call {l : PX} (f : Str) (hcl : ∀ f F xs μ, fns f = some F → xs.length ≠ F.ar → cl f xs μ = .bad) (hl : AllOk g cl fns gc n l) : AllOk g cl fns gc n (.call f l) := by
  have hE : PropE g cl fns gc n (.call f l) := fun W cc X e C h => by
    cases e with
    | Call f' es kw pos =>
      cases f' with
      | Name f' fp =>
        cases kw with
        | nil =>
          simp only [chk, Bool.and_eq_true, decide_eq_true_eq, Bool.not_eq_true', List.isEmpty_eq_false_iff] at h
          obtain ⟨⟨⟨⟨⟨rfl, h2⟩, h3⟩, h4⟩, h5⟩, h6⟩ := h
          obtain ⟨hp, hpl⟩ := hl.L W cc X es C h6
          obtain ⟨F, hF⟩ := Option.isSome_iff_exists.mp (C.fs f h4)
          cases es with
          | nil => exact absurd rfl h5
          | cons a es => exact TO.eq (se_callG (keep := false) C hF h2 h3 hpl (fun ρ μ xs μ' _ hx => hcl f F xs μ' hF hx) hp) fun ρ μ => by rw [evO]
        | cons _ _ => simp [chk] at h
      | _ => simp [chk] at h
    | _ => simp [chk] at h
  exact .expr hE (propT_of hE fun cc e h _ => by cases e <;> first | rfl | (simp [chk] at h)) (fun _ _ => by simp [chkL]) (fun _ _ => by simp [chkI]) (fun _ _ _ _ => by simp [chkG]) (fun _ _ _ _ h => by cases h) (fun f l h => by cases h; exact hl.L) (fun _ _ h => by cases h)
theorem ok_bi {l : PX} (f : Bi) (hl : AllOk g cl fns gc n l) : AllOk g cl fns gc n (.bi f l) := by
  have hE : PropE g cl fns gc n (.bi f l) := fun W cc X e C h => by
    cases e with
    | Call f' es kw pos =>
      cases f' with
      | Name f' fp =>
        cases kw with
        | nil =>
          have h : ((biOk f && decide (f' = Str.ofString f.name) && isBlt cc f' && !es.isEmpty && chkL l cc es) || (isRev f && (match (generalizing := false) revArg es with
            | some (y, e) => decide (f' = "list") && isBlt cc f' && decide (y = "reversed") && isBlt cc y && chkL l cc [e]
            | none => false)) || (isLenset f && (match (generalizing := false) revArg es with
            | some (y, e) => decide (f' = "len") && isBlt cc f' && decide (y = "set") && isBlt cc y && chkL l cc [e]
            | none => false))) = true := h
          rw [Bool.or_eq_true, Bool.or_eq_true] at h
          rcases h with (h | h) | h
          · simp only [Bool.and_eq_true, decide_eq_true_eq, Bool.not_eq_true', List.isEmpty_eq_false_iff] at h
            obtain ⟨⟨⟨⟨h1, h2⟩, h3⟩, h4⟩, h5⟩ := h
            obtain ⟨hp, hpl⟩ := hl.L W cc X es C h5
            cases es with
            | nil => exact absurd rfl h4
            | cons a es => exact TO.eq (se_bi C (by intro z; subst z; cases h1) (by intro z; subst z; cases h1) h2 h3 hpl hp) fun ρ μ => by rw [evO]
          · rw [Bool.and_eq_true] at h
            obtain ⟨h1, hm⟩ := h
            have hf : f = .revlist := by cases f <;> first | rfl | cases h1
            subst hf
            split at hm
            · rename_i y e hr
              obtain ⟨p2, p3, rfl⟩ := revArg_i hr
              simp only [Bool.and_eq_true, decide_eq_true_eq] at hm
              obtain ⟨⟨⟨⟨k1, k2⟩, k3⟩, k4⟩, k5⟩ := hm
              have hpl := (hl.L W cc X [e] C k5).2
              obtain ⟨a, r, rfl, m1, m2⟩ := chkL_cons k5
              obtain rfl := chkL_nil m2
              exact TO.eq (se_revlist C k1 k2 k3 k4 hpl ((hl.Cn a .nil rfl).1 W cc X e C m1).dat) fun ρ μ => by
                rw [evO, evL]
                cases (evO cl gc a ρ μ).dat <;> rfl
            · cases hm
          · rw [Bool.and_eq_true] at h
            obtain ⟨h1, hm⟩ := h
            have hf : f = .lenset := by cases f <;> first | rfl | cases h1
            subst hf
            split at hm
            · rename_i y e hr
              obtain ⟨p2, p3, rfl⟩ := revArg_i hr
              simp only [Bool.and_eq_true, decide_eq_true_eq] at hm
              obtain ⟨⟨⟨⟨k1, k2⟩, k3⟩, k4⟩, k5⟩ := hm
              have hpl := (hl.L W cc X [e] C k5).2
              obtain ⟨a, r, rfl, m1, m2⟩ := chkL_cons k5
              obtain rfl := chkL_nil m2
              exact TO.eq (se_lenS C k1 k2 k3 k4 hpl ((hl.Cn a .nil rfl).1 W cc X e C m1).dat) fun ρ μ => by
                rw [evO, evL]
                cases (evO cl gc a ρ μ).dat <;> rfl
            · cases hm
        | cons _ _ => simp [chk] at h
      | _ => simp [chk] at h
    | _ => simp [chk] at h
  exact .expr hE (propT_of hE fun cc e h _ => by cases e <;> first | rfl | (simp [chk] at h)) (fun _ _ => by simp [chkL]) (fun _ _ => by simp [chkI]) (fun _ _ _ _ => by simp [chkG]) (fun _ _ _ _ h => by cases h) (fun _ _ h => by cases h) (fun _ _ h => by cases h)
theorem ok_ty {l : PX} (f : Ty) (hl : AllOk g cl fns gc n l) : AllOk g cl fns gc n (.ty f l) := by
  have hE : PropE g cl fns gc n (.ty f l) := fun W cc X e C h => by
    cases e with
    | Call f' es kw pos =>
      cases f' with
      | Name f' fp =>
        cases kw with
        | nil =>
          simp only [chk, Bool.and_eq_true, decide_eq_true_eq, Bool.not_eq_true', List.isEmpty_eq_false_iff] at h
          obtain ⟨⟨⟨h2, h3⟩, h4⟩, h5⟩ := h
          obtain ⟨hp, hpl⟩ := hl.L W cc X es C h5
          cases es with
          | nil => exact absurd rfl h4
          | cons a es => exact TO.eq (se_ty C h2 h3 hpl hp) fun ρ μ => by rw [evO]
        | cons _ _ => simp [chk] at h
      | _ => simp [chk] at h
    | _ => simp [chk] at h
  exact .expr hE (propT_of hE fun cc e h _ => by cases e <;> first | rfl | (simp [chk] at h)) (fun _ _ => by simp [chkL]) (fun _ _ => by simp [chkI]) (fun _ _ _ _ => by simp [chkG]) (fun _ _ _ _ h => by cases h) (fun _ _ h => by cases h) (fun _ _ h => by cases h)
theorem ok_isi {a : PX} (T : Cl) (ha : AllOk g cl fns gc n a) : AllOk g cl fns gc n (.isi a T) := by
  have hE : PropE g cl fns gc n (.isi a T) := fun W cc X e C h => by
    cases e with
    | Call f' es kw pos =>
      cases f' with
      | Name f' fp =>
        cases kw with
        | nil =>
          match es, h with
          | [a', t'], h =>
            cases t' with
            | Name T' p2 =>
              simp only [chk, Bool.and_eq_true, decide_eq_true_eq] at h
              obtain ⟨⟨⟨⟨h1, h2⟩, h3⟩, h4⟩, h5⟩ := h
              exact TO.eq (se_isi C h1 h2 h3 h4 (fun e he => by rw [List.mem_singleton.mp he]; exact chk_plain h5) (ha.E W cc X a' C h5).dat) fun ρ μ => by rw [evO]
            | _ => simp [chk] at h
          | [], h => simp [chk] at h
          | [_], h => simp [chk] at h
          | _ :: _ :: _ :: _, h => simp [chk] at h
        | cons _ _ => simp [chk] at h
      | _ => simp [chk] at h
    | _ => simp [chk] at h
  exact .expr hE (propT_of hE fun cc e h _ => by cases e <;> first | rfl | (simp [chk] at h)) (fun _ _ => by simp [chkL]) (fun _ _ => by simp [chkI]) (fun _ _ _ _ => by simp [chkG]) (fun _ _ _ _ h => by cases h) (fun _ _ h => by cases h) (fun _ _ h => by cases h)
theorem ok_tup {l : PX} (hl : AllOk g cl fns gc n l) : AllOk g cl fns gc n (.tup l) := by
  have hE : PropE g cl fns gc n (.tup l) := fun W cc X e C h => by
    cases e with
    | Tuple es k pos =>
      simp only [chk] at h
      exact TO.eq (se_tup (hl.L W cc X es C h).1) fun ρ μ => by rw [evO]
    | _ => simp [chk] at h
  exact .expr hE (propT_of hE fun cc e h _ => by cases e <;> first | rfl | (simp [chk] at h)) (fun _ _ => by simp [chkL]) (fun _ _ => by simp [chkI]) (fun _ _ _ _ => by simp [chkG]) (fun _ _ _ _ h => by cases h) (fun _ _ h => by cases h) (fun _ _ h => by cases h)
theorem ok_lst {l : PX} (hl : AllOk g cl fns gc n l) : AllOk g cl fns gc n (.lst l) := by
  have hE : PropE g cl fns gc n (.lst l) := fun W cc X e C h => by
    cases e with
    | List es pos =>
      simp only [chk] at h
      exact TO.eq (se_lst (hl.L W cc X es C h).1) fun ρ μ => by rw [evO]
    | _ => simp [chk] at h
  exact .expr hE (propT_of hE fun cc e h _ => by cases e <;> first | rfl | (simp [chk] at h)) (fun _ _ => by simp [chkL]) (fun _ _ => by simp [chkI]) (fun _ _ _ _ => by simp [chkG]) (fun _ _ _ _ h => by cases h) (fun _ _ h => by cases h) (fun _ _ h => by cases h)
theorem ok_ix {a b : PX} (ha : AllOk g cl fns gc n a) (hb : AllOk g cl fns gc n b) : AllOk g cl fns gc n (.ix a b) := by
  have hE : PropE g cl fns gc n (.ix a b) := fun W cc X e C h => by
    cases e with
    | Subscript a' b' pos =>
      simp only [chk, Bool.and_eq_true] at h
      obtain ⟨⟨h1, h2⟩, h3⟩ := h
      exact TO.eq (se_ix C h3 (ha.E W cc X a' C h1).dat (hb.E W cc X b' C h2).dat) fun ρ μ => by rw [evO]
    | _ => simp [chk] at h
  exact .expr hE (propT_of hE fun cc e h _ => by cases e <;> first | rfl | (simp [chk] at h)) (fun _ _ => by simp [chkL]) (fun _ _ => by simp [chkI]) (fun _ _ _ _ => by simp [chkG]) (fun _ _ _ _ h => by cases h) (fun _ _ h => by cases h) (fun _ _ h => by cases h)
theorem part_ok {W : Str → Sl → Hp → Prop} {cc : CC} {X : Cx} {lo : PX} {lo' : Option Expr} (C : Cok g cl fns gc n W cc X) (hlo : AllOk g cl fns gc n lo) (h : (match lo' with | none => !notNon lo | some e => chk lo cc e && notNon lo) = true) :
    PO X lo' (TP g W fun ρ μ => partOf lo (evO cl gc lo ρ μ).dat) := by
  cases lo' with
  | none =>
    cases lo with
    | non =>
      have : (fun (ρ : Env) μ => partOf .non (evO cl gc .non ρ μ).dat) = fun _ μ => .ok none μ := by funext ρ μ; rw [evO] <;> rfl
      rw [this]
      exact so_none
    | _ => simp [notNon] at h
  | some e =>
    simp only [Bool.and_eq_true] at h
    have : (fun (ρ : Env) μ => partOf lo (evO cl gc lo ρ μ).dat) = fun ρ μ => ((evO cl gc lo ρ μ).dat).bind fun d μ => match d with | .int i => .ok (some i) μ | _ => .bad := by
      funext ρ μ
      cases lo with
      | non => simp [notNon] at h
      | _ => rfl
    rw [this]
    exact so_some (hlo.E W cc X e C h.1).dat
theorem ok_slc {a lo hi : PX} (ha : AllOk g cl fns gc n a) (hlo : AllOk g cl fns gc n lo) (hhi : AllOk g cl fns gc n hi) : AllOk g cl fns gc n (.slc a lo hi) := by
  have hE : PropE g cl fns gc n (.slc a lo hi) := fun W cc X e C h => by
    cases e with
    | Subscript a' b' pos =>
      cases b' with
      | Slice lo' hi' st' p2 =>
        cases st' with
        | none =>
          have h : (chk a cc a' && (match (generalizing := false) lo' with | none => !notNon lo | some e => chk lo cc e && notNon lo) && (match (generalizing := false) hi' with | none => !notNon hi | some e => chk hi cc e && notNon hi)) = true := h
          rw [Bool.and_eq_true, Bool.and_eq_true] at h
          exact TO.eq (se_slc C (ha.E W cc X a' C h.1.1).dat (part_ok C hlo h.1.2) (part_ok C hhi h.2)) fun ρ μ => by rw [evO]
        | some _ => simp [chk] at h
      | _ => simp [chk] at h
    | _ => simp [chk] at h
  exact .expr hE (propT_of hE fun cc e h _ => by cases e <;> first | rfl | (simp [chk] at h)) (fun _ _ => by simp [chkL]) (fun _ _ => by simp [chkI]) (fun _ _ _ _ => by simp [chkG]) (fun _ _ _ _ h => by cases h) (fun _ _ h => by cases h) (fun _ _ h => by cases h)
theorem ok_dct0 (t : Bool)  : AllOk g cl fns gc n (.dct t .nil .nil) := by
  have hE : PropE g cl fns gc n (.dct t .nil .nil) := fun W cc X e C h => by
    cases e with
    | Dict ks vs pos =>
      match ks, vs, h with
      | [], [], h => exact TO.eq se_dct0 fun ρ μ => by rw [evO]
      | _ :: _, _, h => simp [chk] at h
      | [], _ :: _, h => simp [chk] at h
    | _ => simp [chk] at h
  exact .expr hE (propT_of hE fun cc e h _ => by cases e <;> first | rfl | (simp [chk] at h)) (fun _ _ => by simp [chkL]) (fun _ _ => by simp [chkI]) (fun _ _ _ _ => by simp [chkG]) (fun _ _ _ _ h => by cases h) (fun _ _ h => by cases h) (fun _ _ h => by cases h)
theorem ok_none {p : PX} (h1 : ∀ cc e, chk p cc e = false) (hL : ∀ cc es, chkL p cc es = false) (hI : ∀ cc e, chkI p cc e = false) (hG : ∀ cc ci own gs, chkG p cc ci own gs = false)
    (hg : ∀ tg it ifs rest, p ≠ .gen tg it ifs rest) (hK : ∀ f l, p ≠ .call f l) (hC : ∀ a r, p ≠ .cons a r) : AllOk g cl fns gc n p :=
  .expr (fun _ cc _ e _ h => by rw [h1] at h; cases h) (fun _ cc _ e _ h => by rw [h1] at h; cases h) hL hI hG hg (fun f l h => absurd h (hK f l)) hC
theorem ok_new {a : PX} (hcl : ∀ f F xs μ, fns f = some F → xs.length ≠ F.ar → cl f xs μ = .bad) (ha : AllOk g cl fns gc n a) : AllOk g cl fns gc n (.new a) := by
  have hE : PropE g cl fns gc n (.new a) := fun W cc X e C h => by
    have h : (chk a cc e && newOk e) = true := by rw [chk] at h; exact h
    rw [Bool.and_eq_true] at h
    by_cases hcall : ∃ f l, a = .call f l
    · obtain ⟨f, l, rfl⟩ := hcall
      have hl := ha.K f l rfl
      have h := h.1
      cases e with
      | Call f' es kw pos =>
        cases f' with
        | Name f' fp =>
          cases kw with
          | nil =>
            simp only [chk, Bool.and_eq_true, decide_eq_true_eq, Bool.not_eq_true', List.isEmpty_eq_false_iff] at h
            obtain ⟨⟨⟨⟨⟨rfl, h2⟩, h3⟩, h4⟩, h5⟩, h6⟩ := h
            obtain ⟨hp, hpl⟩ := hl W cc X es C h6
            obtain ⟨F, hF⟩ := Option.isSome_iff_exists.mp (C.fs f h4)
            cases es with
            | nil => exact absurd rfl h5
            | cons a es =>
              exact TO.eq (se_new (se_callG (keep := true) C hF h2 h3 hpl (fun ρ μ xs μ' _ hx => hcl f F xs μ' hF hx) hp)) fun ρ μ => by
                rw [evO]
                cases evL cl gc l ρ μ with
                | ok xs μ1 =>
                  simp only [R.bind]
                  cases cl f xs μ1 <;> rfl
                | exc _ _ => rfl
                | bad => rfl
          | cons _ _ => simp [chk] at h
        | _ => simp [chk] at h
      | _ => simp [chk] at h
    · exact TO.eq (se_new (ha.E W cc X e C h.1)) fun ρ μ => by
        cases a with
        | call f l => exact absurd ⟨f, l, rfl⟩ hcall
        | _ => first | rfl | (conv => lhs; rw [evO])
  have hT : PropT g cl fns gc n (.new a) := fun W cc X e C h ht => by
    refine st_val (hE W cc X e C h).dat (dflt_test ?_ X.env)
    have h : (chk a cc e && newOk e) = true := by rw [chk] at h; exact h
    rw [Bool.and_eq_true] at h
    have h := h.2
    cases e <;> first | rfl | (simp [newOk] at h)
  exact .expr hE hT (fun _ _ => by simp [chkL]) (fun _ _ => by simp [chkI]) (fun _ _ _ _ => by simp [chkG]) (fun _ _ _ _ h => by cases h) (fun _ _ h => by cases h) (fun _ _ h => by cases h)
theorem ok_mth {o l : PX} (m : Mt) (ho : AllOk g cl fns gc n o) (hl : AllOk g cl fns gc n l) : AllOk g cl fns gc n (.mth m o l) := by
  have hE : PropE g cl fns gc n (.mth m o l) := fun W cc X e C h => by
    cases e with
    | Call f' es kw cpos =>
      cases f' with
      | Attribute o' m' apos =>
        cases kw with
        | nil =>
          simp only [chk, Bool.and_eq_true, decide_eq_true_eq] at h
          obtain ⟨⟨⟨⟨⟨⟨h1, h2⟩, h3⟩, h4⟩, h5⟩, h6⟩, h7⟩ := h
          obtain ⟨hp, hpl⟩ := hl.L W cc X es C h6
          have hbase : attributeBase o' m' X.env (eval o' X.env) = eval o' X.env := base_ok h3
          by_cases hm : m = .get
          · subst hm
            cases es with
            | nil => simp [getOk] at h7
            | cons a es => exact TO.eq (se_get C h1 h2 hbase h4 hpl (ho.E W cc X o' C h5).dat hp) fun ρ μ => by rw [evO] <;> rfl
          cases es with
          | nil =>
            have : l = .nil := by cases l <;> first | rfl | (simp [chkL] at h6)
            subst this
            exact TO.eq (se_mth0 hm C h1 h2 hbase (ho.E W cc X o' C h5).dat) fun ρ μ => by
              rw [evO]
              cases (evO cl gc o ρ μ).dat with
              | ok d μ1 =>
                simp only [R.bind]
                split
                · rw [evL] <;> rfl
                · rfl
              | exc _ _ => rfl
              | bad => rfl
          | cons a es => exact TO.eq (se_mth hm C h1 h2 hbase h4 hpl (ho.E W cc X o' C h5).dat hp) fun ρ μ => by rw [evO] <;> rfl
        | cons _ _ => simp [chk] at h
      | _ => simp [chk] at h
    | _ => simp [chk] at h
  exact .expr hE (propT_of hE fun cc e h _ => by cases e <;> first | rfl | (simp [chk] at h)) (fun _ _ => by simp [chkL]) (fun _ _ => by simp [chkI]) (fun _ _ _ _ => by simp [chkG]) (fun _ _ _ _ h => by cases h) (fun _ _ h => by cases h) (fun _ _ h => by cases h)
theorem ok_rev {a : PX} (ha : AllOk g cl fns gc n a) : AllOk g cl fns gc n (.rev a) := by
  have hE : PropE g cl fns gc n (.rev a) := fun W cc X e C h => by
    cases e with
    | Subscript a' b' pos =>
      simp only [chk, Bool.and_eq_true] at h
      exact TO.eq (se_back C h.1 (ha.E W cc X a' C h.2).dat) fun ρ μ => by rw [evO] <;> rfl
    | _ => simp [chk] at h
  exact .expr hE (propT_of hE fun cc e h _ => by cases e <;> first | rfl | (simp [chk] at h)) (fun _ _ => by simp [chkL]) (fun _ _ => by simp [chkI]) (fun _ _ _ _ => by simp [chkG]) (fun _ _ _ _ h => by cases h) (fun _ _ h => by cases h) (fun _ _ h => by cases h)
/-! ### comprehensions -/
theorem notSet_fold {e : Expr} (h : notSet e = true) (env : PySem.Env) (x : Value) : foldedSetIterable e env x = pure x := by
  cases e <;> first | rfl | (cases h)
theorem chkI_notSet {p : PX} {cc : CC} {e : Expr} (h : chkI p cc e = true) : notSet e = true := by
  cases p with
  | over a => rw [chkI, Bool.and_eq_true] at h; exact h.2
  | _ => cases e <;> first | rfl | (simp [chkI] at h)
theorem blk_cok {W : Str → Sl → Hp → Prop} {cc : CC} {X : Cx} (C : Cok g cl fns gc n W cc X) (s : Shared) (H : Hp) (scope : Scope) (c : Addr) (clo : List (Str × Addr)) (fp : List Addr) : Cok g cl fns gc n NoW (cc.inner scope) (X.blk s H scope (compEnvC scope clo c X.env) fp) where
  calm := C.calm
  hN := C.hN
  nd := C.nd
  sc := by
    show relS scope X.env.scope = relS scope cc.sc
    rw [C.sc]
  hK := C.hK
  hM := C.hM
  room := C.room
  facts := C.facts
  bn := C.bn
  gc := C.gc
  tk := fun u s' ⟨a, B, sI, pins, σ, H, cls, d, e, I, nb, up, sky, na, os, ag, w⟩ => (let ⟨_, _, _, z⟩ := w; z.elim)
  fn := fun x h => h
  fs := C.fs
theorem own_map (cc : CC) (own : List Nat) : (ownOf cc own).map (·.2) = own := by
  unfold ownOf
  rw [List.map_map]
  exact List.map_id own
theorem next_async {p : PX} {cc ci : CC} {own : List Nat} {gs : List Comprehension} (h : chkG p cc ci own gs = true) : ∀ g, gs[0]? = some g → g.is_async = 0 ∧ ∀ env x, foldedSetIterable g.iter env x = pure x := by
  cases gs with
  | nil => intro g hg; cases hg
  | cons g0 gs =>
    intro g hg
    have : g0 = g := by simpa using hg
    subst this
    cases p with
    | gen tg it ifs rest =>
      obtain ⟨t', i', f', a'⟩ := g0
      simp only [chkG, Bool.and_eq_true, decide_eq_true_eq] at h
      exact ⟨h.1.2, fun env x => notSet_fold (chkI_notSet h.1.1.1.1.1.2) env x⟩
    | _ => simp [chkG] at h
/-- a comprehension, as a value -/
theorem comp_all {W : Str → Sl → Hp → Prop} {cc : CC} {X : Cx} {e : Expr} {gens' : List Comprehension} {scope : Scope} {o : Option Bool} {tg : Tg} {it ifs rest : PX} {own : List Nat} {emit : Env → Acc → Store → R Acc} {pos' : Pos} (C : Cok g cl fns gc n W cc X)
    (hit : PropI g cl fns gc n it) (hifs : PropF g cl fns gc n ifs) (hrest : PropS g cl fns gc n rest) (he : IsC e gens') (hG : chkG (.gen tg it ifs rest) cc (cc.inner scope) own gens' = true) (hb : blkC cc.N cc.sc scope (ownOf cc own) = true)
    (hev : ∀ ie, (firstIter gens' X.env = eval ie X.env) → (firstAsync gens' = false) → eval e X.env = comprehension e scope X.env pos' (newOf o) false (eval ie X.env) none)
    (hlast : ∀ Xb, Cok g cl fns gc n NoW (cc.inner scope) Xb → Xb.xe = (fun _ _ => False) → StepOk g Xb e gens' gens'.length o emit []) :
    PE X e (TO g W (compR o (evI cl gc it) (evIf cl gc ifs) (evC cl gc rest emit) tg own rest.gslots)) := by
  cases gens' with
  | nil => simp [chkG] at hG
  | cons g0 gs =>
    obtain ⟨t', i', f', a'⟩ := g0
    simp only [chkG, Bool.and_eq_true, decide_eq_true_eq] at hG
    obtain ⟨⟨⟨⟨⟨⟨h1, h4⟩, h5⟩, h6⟩, h7⟩, h8⟩, h9⟩ := hG
    subst h8
    have ok : BlkOk X.N X.env.scope scope (ownOf cc own) := by rw [C.hN, C.sc]; exact blkOk_by hb
    have hi := hit W cc X t' i' C h4 h5
    have := se_comp (g := g) (X := X) (W := W) (tg := tg) (vs := rest.gslots) (o := o) (fi := evIf cl gc ifs) (f := evC cl gc rest emit) (own := ownOf cc own) (hev i' rfl rfl) C.calm (by rw [C.hN]; exact C.nd) he hi ok
      (fun s H c clo fp => by
        have Cb := blk_cok C s H scope c clo fp
        exact ⟨sg_tg Cb tg t' h1, hifs NoW _ _ f' Cb h6 h7, hrest _ _ e _ 1 o own emit gs Cb rfl he rfl (by simp) h9 (hlast _ Cb rfl)⟩)
      (notSet_fold (chkI_notSet h4) X.env) (fun env g hg => let ⟨a, b⟩ := next_async h9 g hg; ⟨a, b env⟩)
    rw [own_map] at this
    exact this
theorem ok_lc {elt gens : PX} (own : List Nat) (helt : AllOk g cl fns gc n elt) (hgens : AllOk g cl fns gc n gens) : AllOk g cl fns gc n (.lc own elt gens) := by
  have hE : PropE g cl fns gc n (.lc own elt gens) := fun W cc X e C h => by
    cases e with
    | ListComp elt' gens' scope pos =>
      simp only [chk, Bool.and_eq_true, decide_eq_true_eq] at h
      obtain ⟨⟨h1, h3⟩, h4⟩ := h
      cases gens with
      | gen tg it ifs rest =>
        obtain ⟨k1, k2, k3⟩ := hgens.Gn tg it ifs rest rfl
        refine TO.eq (comp_all (o := none) (emit := fun ρ acc μ => (evO cl gc elt ρ μ).dat.bind fun x μ => if acc.2.length < sizeLine then .ok (([], acc.2 ++ [x]) : Acc) μ else .bad) (pos' := firstIterPos gens' pos) C k1 k2 k3 (.inl ⟨_, _, _, rfl⟩) h3 h1 (fun ie e1 e2 => ?_) (fun Xb Cb hx => ?_)) fun ρ μ => ?_
        · rw [eval_ListComp, e1, e2]; rfl
        · exact step_lst (by simp) hx (helt.E NoW _ Xb elt' Cb h4).dat
        · rfl
      | nil => refine ⟨fun pins s σ H Q I ⟨B, ρ, μ, ι, at0, q⟩ => (q : False).elim⟩
      | _ => simp [chkG] at h3
    | _ => simp [chk] at h
  exact .expr hE (propT_of hE fun cc e h _ => by cases e <;> first | rfl | (simp [chk] at h)) (fun _ _ => by simp [chkL]) (fun _ _ => by simp [chkI]) (fun _ _ _ _ => by simp [chkG]) (fun _ _ _ _ h => by cases h) (fun _ _ h => by cases h) (fun _ _ h => by cases h)
theorem ok_dc {k v gens : PX} (own : List Nat) (t : Bool) (hk : AllOk g cl fns gc n k) (hv : AllOk g cl fns gc n v) (hgens : AllOk g cl fns gc n gens) : AllOk g cl fns gc n (.dc own t k v gens) := by
  have hE : PropE g cl fns gc n (.dc own t k v gens) := fun W cc X e C h => by
    cases e with
    | DictComp k' v' gens' scope pos =>
      simp only [chk, Bool.and_eq_true, decide_eq_true_eq] at h
      obtain ⟨⟨⟨h1, h3⟩, h4⟩, h5⟩ := h
      cases gens with
      | gen tg it ifs rest =>
        obtain ⟨k1, k2, k3⟩ := hgens.Gn tg it ifs rest rfl
        refine TO.eq (comp_all (o := some t) (emit := fun ρ acc μ => (evO cl gc k ρ μ).dat.bind fun x μ => (evO cl gc v ρ μ).dat.bind fun y μ => match x.key t with | some k => if acc.1.length < sizeLine then .ok (putD acc.1 acc.2 k y) μ else .bad | none => .bad) (pos' := firstIterPos gens' pos) C k1 k2 k3 (.inr ⟨_, _, _, _, rfl⟩) h3 h1 (fun ie e1 e2 => ?_) (fun Xb Cb hx => ?_)) fun ρ μ => ?_
        · rw [arm_eval_DictComp, e1, e2]; rfl
        · exact step_dct Cb.room (by simp) hx (hk.E NoW _ Xb k' Cb h4).dat (hv.E NoW _ Xb v' Cb h5).dat
        · rfl
      | nil => refine ⟨fun pins s σ H Q I ⟨B, ρ, μ, ι, at0, q⟩ => (q : False).elim⟩
      | _ => simp [chkG] at h3
    | _ => simp [chk] at h
  exact .expr hE (propT_of hE fun cc e h _ => by cases e <;> first | rfl | (simp [chk] at h)) (fun _ _ => by simp [chkL]) (fun _ _ => by simp [chkI]) (fun _ _ _ _ => by simp [chkG]) (fun _ _ _ _ h => by cases h) (fun _ _ h => by cases h) (fun _ _ h => by cases h)
/-! ### lists, clauses -/
theorem dat_v {r : R D} : (r.map Out.v).dat = r := by cases r <;> rfl
theorem ok_nil : AllOk g cl fns gc n .nil where
  E := fun _ cc _ e _ h => by simp [chk] at h
  T := fun _ cc _ e _ h => by simp [chk] at h
  L := fun W cc X es C h => by
    cases es with
    | nil => exact ⟨by have : (evL cl gc .nil) = fun _ μ => .ok [] μ := by (funext ρ μ; rw [evL]); 
                       rw [this]; exact sa_nil, fun e he => by cases he⟩
    | cons e es => simp [chkL] at h
  N := fun W cc X es pos C h hne => by
    cases es with
    | nil => exact absurd rfl hne
    | cons e es => simp [chkL] at h
  O := fun W cc X es pos C h hne => by
    cases es with
    | nil => exact absurd rfl hne
    | cons e es => simp [chkL] at h
  F := fun W cc X es C h _ => by
    cases es with
    | nil => exact ⟨fun pins s σ H Q I ⟨B, ρ, μ, ι, at0, q⟩ => pts_nil.run pins s σ H Q I (q true H ι Ext.refl at0.m rfl)⟩
    | cons e es => simp [chkL] at h
  I := fun _ cc _ _ e _ h => by simp [chkI] at h
  S := fun cc X e gens k o own emit gs C hx he hd hk h hl => by
    cases gs with
    | cons _ _ => simp [chkG] at h
    | nil =>
      have : k = gens.length := by
        have := congrArg List.length hd
        rw [List.length_drop] at this
        simp at this
        omega
      subst this
      exact hl
  K := fun f l h => by cases h
  Gn := fun tg it ifs rest h => by cases h
  Cn := fun a r h => by cases h
theorem ok_cons {a r : PX} (ha : AllOk g cl fns gc n a) (hr : AllOk g cl fns gc n r) : AllOk g cl fns gc n (.cons a r) where
  E := fun _ cc _ e _ h => by simp [chk] at h
  T := fun _ cc _ e _ h => by simp [chk] at h
  L := fun W cc X es C h => by
    cases es with
    | nil => simp [chkL] at h
    | cons e es =>
      simp only [chkL, Bool.and_eq_true] at h
      obtain ⟨h1, h2⟩ := hr.L W cc X es C h.2
      refine ⟨?_, fun x hx => ?_⟩
      · have : (evL cl gc (.cons a r)) = fun ρ μ => (evO cl gc a ρ μ).dat.bind fun x μ => (evL cl gc r ρ μ).bind fun xs μ => .ok (x :: xs) μ := by (funext ρ μ; rw [evL])
        rw [this]
        exact sa_cons (chk_plain h.1 _ _) (ha.E W cc X e C h.1).dat h1
      · rcases List.mem_cons.mp hx with z | z
        · rw [z]; exact chk_plain h.1
        · exact h2 x z
  N := fun W cc X es pos C h hne => by
    cases es with
    | nil => exact absurd rfl hne
    | cons e es =>
      simp only [chkL, Bool.and_eq_true] at h
      cases es with
      | nil =>
        obtain rfl := chkL_nil h.2
        refine ⟨TO.eq (pe_one (ha.E W cc X e C h.1)).dat.up fun ρ μ => by rw [evAnd], fun ht => TW.eq (pw_and1 (ha.T W cc X e C h.1 (by simpa using ht))) fun ρ μ => by rw [evAnd, dat_v]⟩
      | cons e2 es =>
        obtain ⟨b, r', rfl, k1, k2⟩ := chkL_cons h.2
        obtain ⟨h3, h4⟩ := hr.N W cc X (e2 :: es) pos C h.2 (by simp)
        refine ⟨TO.eq (se_and (ha.E W cc X e C h.1).dat h3) fun ρ μ => by rw [evAnd]; simp, fun ht => ?_⟩
        have ht : tstOk e = true ∧ (e2 :: es).all tstOk = true := by rw [List.all_cons, Bool.and_eq_true] at ht; exact ht
        exact TW.eq (sw_and (ha.T W cc X e C h.1 ht.1) (h4 ht.2)) fun ρ μ => by
          rw [evAnd]
          · cases (evO cl gc a ρ μ).dat.bool with
            | ok k μ1 => cases k <;> rfl
            | exc _ _ => rfl
            | bad => rfl
          · simp
  O := fun W cc X es pos C h hne => by
    cases es with
    | nil => exact absurd rfl hne
    | cons e es =>
      simp only [chkL, Bool.and_eq_true] at h
      cases es with
      | nil =>
        obtain rfl := chkL_nil h.2
        refine ⟨TO.eq (pe_one (ha.E W cc X e C h.1)).dat.up fun ρ μ => by rw [evOr], fun ht => TW.eq (pw_or1 (ha.T W cc X e C h.1 (by simpa using ht))) fun ρ μ => by rw [evOr, dat_v]⟩
      | cons e2 es =>
        obtain ⟨b, r', rfl, k1, k2⟩ := chkL_cons h.2
        obtain ⟨h3, h4⟩ := hr.O W cc X (e2 :: es) pos C h.2 (by simp)
        refine ⟨TO.eq (se_or (ha.E W cc X e C h.1).dat h3) fun ρ μ => by rw [evOr]; simp, fun ht => ?_⟩
        have ht : tstOk e = true ∧ (e2 :: es).all tstOk = true := by rw [List.all_cons, Bool.and_eq_true] at ht; exact ht
        exact TW.eq (sw_or (ha.T W cc X e C h.1 ht.1) (h4 ht.2)) fun ρ μ => by
          rw [evOr]
          · cases (evO cl gc a ρ μ).dat.bool with
            | ok k μ1 => cases k <;> rfl
            | exc _ _ => rfl
            | bad => rfl
          · simp
  F := fun W cc X es C h ht => by
    cases es with
    | nil => simp [chkL] at h
    | cons e es =>
      simp only [chkL, Bool.and_eq_true] at h
      cases es with
      | nil =>
        obtain rfl := chkL_nil h.2
        have : (evIf cl gc (.cons a .nil)) = fun ρ μ => (evO cl gc a ρ μ).dat.bool := by (funext ρ μ; rw [evIf])
        rw [this]
        exact pts_one (ha.T W cc X e C h.1 (by simpa using ht))
      | cons e2 es =>
        obtain ⟨b, r', rfl, k1, k2⟩ := chkL_cons h.2
        exact ⟨fun pins s σ H Q I ⟨B, ρ, μ, ι, at0, q⟩ => (q : False).elim⟩
  I := fun _ cc _ _ e _ h => by simp [chkI] at h
  S := fun cc X e gens k o own emit gs C hx he hd hk h hl => by simp [chkG] at h
  K := fun f l h => by cases h
  Gn := fun tg it ifs rest h => by cases h
  Cn := fun a' r' h => by cases h; exact ⟨ha.E, fun b r' z => (hr.Cn b r' z).1⟩
theorem ok_gen {it ifs rest : PX} (tg : Tg) (hit : AllOk g cl fns gc n it) (hifs : AllOk g cl fns gc n ifs) (hrest : AllOk g cl fns gc n rest) : AllOk g cl fns gc n (.gen tg it ifs rest) where
  E := fun _ cc _ e _ h => by simp [chk] at h
  T := fun _ cc _ e _ h => by simp [chk] at h
  L := fun W cc X es C h => by simp [chkL] at h
  N := fun W cc X es pos C h hne => by simp [chkL] at h
  O := fun W cc X es pos C h hne => by simp [chkL] at h
  F := fun W cc X es C h ht => by simp [chkL] at h
  I := fun _ cc _ _ e _ h => by simp [chkI] at h
  S := fun cc X e gens k o own emit gs C hx he hd hk h hl => by
    cases gs with
    | nil => simp [chkG] at h
    | cons g0 gs =>
      obtain ⟨t', i', f', a'⟩ := g0
      simp only [chkG, Bool.and_eq_true, decide_eq_true_eq] at h
      obtain ⟨⟨⟨⟨⟨⟨h1, h4⟩, h5⟩, h6⟩, h7⟩, h8⟩, h9⟩ := h
      subst h8
      have hlt : k < gens.length := by
        have := congrArg List.length hd
        rw [List.length_drop] at this
        simp at this
        omega
      have hk0 : gens[k]? = some ⟨t', i', f', 0⟩ := by
        have := congrArg (fun l : List Comprehension => l[0]?) hd
        simp only [List.getElem?_drop] at this
        simpa using this
      have hd1 : gens.drop (k + 1) = gs := by
        have := congrArg (fun l : List Comprehension => l.drop 1) hd
        simp only [List.drop_drop] at this
        simpa using this
      have hk1 : gens[k + 1]? = gs[0]? := by
        rw [← hd1, List.getElem?_drop]
      exact step_gen hx C.calm he hk0 (fun g hg => let ⟨a, b⟩ := next_async h9 g (by rw [← hk1]; exact hg); ⟨a, b X.env⟩) (hit.I NoW cc X t' i' C h4 h5) (sg_tg C tg t' h1) (hifs.F NoW cc X f' C h6 h7) (hrest.S cc X e gens (k + 1) o own emit gs C hx he hd1 hlt h9 hl)
  K := fun f l h => by cases h
  Gn := fun tg' it' ifs' rest' h => by cases h; exact ⟨hit.I, hifs.F, hrest.S⟩
  Cn := fun a r h => by cases h
theorem ok_over {a : PX} (ha : AllOk g cl fns gc n a) : AllOk g cl fns gc n (.over a) := by
  have hI : PropI g cl fns gc n (.over a) := fun W cc X tg e C h ht => by
    have h : (chk a cc e && notSet e) = true := by rw [chkI] at h; exact h
    rw [Bool.and_eq_true] at h
    exact TIs.eq (si_over C (ha.E W cc X e C h.1).dat) fun ρ μ => rfl
  exact .iter hI (fun _ _ => by simp [chk]) (fun _ _ => by simp [chkL]) (fun _ _ _ _ => by simp [chkG]) (fun _ _ _ _ h => by cases h) (fun _ _ h => by cases h) (fun _ _ h => by cases h)
theorem ok_rvd {a : PX} (ha : AllOk g cl fns gc n a) : AllOk g cl fns gc n (.rvd a) := by
  have hI : PropI g cl fns gc n (.rvd a) := fun W cc X tg e C h ht => by
    cases e with
    | Call f' es kw pos =>
      cases f' with
      | Name f' fp =>
        cases kw with
        | nil =>
          match es, h with
          | [a'], h =>
            simp only [chkI, Bool.and_eq_true, decide_eq_true_eq] at h
            obtain ⟨⟨h1, h2⟩, h3⟩ := h
            exact TIs.eq (si_rvd C h1 h2 (fun x hx => by rw [List.mem_singleton.mp hx]; exact chk_plain h3) (ha.E W cc X a' C h3).dat) fun ρ μ => rfl
          | [], h => simp [chkI] at h
          | _ :: _ :: _, h => simp [chkI] at h
        | cons _ _ => rcases es with _ | ⟨_, _ | ⟨_, _ | ⟨_, _⟩⟩⟩ <;> exact nomatch (show false = true from h)
      | _ => simp [chkI] at h
    | _ => simp [chkI] at h
  exact .iter hI (fun _ _ => by simp [chk]) (fun _ _ => by simp [chkL]) (fun _ _ _ _ => by simp [chkG]) (fun _ _ _ _ h => by cases h) (fun _ _ h => by cases h) (fun _ _ h => by cases h)
theorem ok_enum {a : PX} (ha : AllOk g cl fns gc n a) : AllOk g cl fns gc n (.enum a) := by
  have hI : PropI g cl fns gc n (.enum a) := fun W cc X tg e C h ht => by
    cases e with
    | Call f' es kw pos =>
      cases f' with
      | Name f' fp =>
        cases kw with
        | nil =>
          match es, h with
          | [a'], h =>
            simp only [chkI, Bool.and_eq_true, decide_eq_true_eq] at h
            obtain ⟨⟨h1, h2⟩, h3⟩ := h
            cases tg with
            | Tuple elts kk tp => exact TIs.eq (si_enum C h1 h2 (fun x hx => by rw [List.mem_singleton.mp hx]; exact chk_plain h3) (ha.E W cc X a' C h3).dat) fun ρ μ => rfl
            | _ => simp [tgOk] at ht
          | [], h => simp [chkI] at h
          | _ :: _ :: _, h => simp [chkI] at h
        | cons _ _ => rcases es with _ | ⟨_, _ | ⟨_, _ | ⟨_, _⟩⟩⟩ <;> exact nomatch (show false = true from h)
      | _ => simp [chkI] at h
    | _ => simp [chkI] at h
  exact .iter hI (fun _ _ => by simp [chk]) (fun _ _ => by simp [chkL]) (fun _ _ _ _ => by simp [chkG]) (fun _ _ _ _ h => by cases h) (fun _ _ h => by cases h) (fun _ _ h => by cases h)
theorem ok_zip {a b : PX} (ha : AllOk g cl fns gc n a) (hb : AllOk g cl fns gc n b) : AllOk g cl fns gc n (.zip a b) := by
  have hI : PropI g cl fns gc n (.zip a b) := fun W cc X tg e C h ht => by
    cases e with
    | Call f' es kw pos =>
      cases f' with
      | Name f' fp =>
        cases kw with
        | nil =>
          match es, h with
          | [a', b'], h =>
            simp only [chkI, Bool.and_eq_true, decide_eq_true_eq] at h
            obtain ⟨⟨⟨h1, h2⟩, h3⟩, h4⟩ := h
            have hpl : Plain [a', b'] := fun x hx => by
              rcases List.mem_cons.mp hx with z | z
              · rw [z]; exact chk_plain h3
              · rw [List.mem_singleton.mp z]; exact chk_plain h4
            cases tg with
            | Tuple elts kk tp => exact TIs.eq (si_zip C h1 h2 hpl (ha.E W cc X a' C h3).dat (hb.E W cc X b' C h4).dat) fun ρ μ => rfl
            | _ => simp [tgOk] at ht
          | [], h => simp [chkI] at h
          | [_], h => simp [chkI] at h
          | _ :: _ :: _ :: _, h => simp [chkI] at h
        | cons _ _ => rcases es with _ | ⟨_, _ | ⟨_, _ | ⟨_, _⟩⟩⟩ <;> exact nomatch (show false = true from h)
      | _ => simp [chkI] at h
    | _ => simp [chkI] at h
  exact .iter hI (fun _ _ => by simp [chk]) (fun _ _ => by simp [chkL]) (fun _ _ _ _ => by simp [chkG]) (fun _ _ _ _ h => by cases h) (fun _ _ h => by cases h) (fun _ _ h => by cases h)
theorem ok_range {l : PX} (hl : AllOk g cl fns gc n l) : AllOk g cl fns gc n (.range l) := by
  have hI : PropI g cl fns gc n (.range l) := fun W cc X tg e C h ht => by
    cases e with
    | Call f' es kw pos =>
      cases f' with
      | Name f' fp =>
        cases kw with
        | nil =>
          simp only [chkI, Bool.and_eq_true, decide_eq_true_eq] at h
          obtain ⟨⟨h1, h2⟩, h3⟩ := h
          have hpl := (hl.L W cc X es C h3).2
          cases es with
          | nil =>
            obtain rfl := chkL_nil h3
            exact ⟨fun pins s σ H Q I ⟨B, ρ, μ, ι, at0, q⟩ => (q : False).elim⟩
          | cons e1 es =>
            obtain ⟨a, r, rfl, k1, k2⟩ := chkL_cons h3
            obtain ⟨c1, c2⟩ := hl.Cn a r rfl
            cases es with
            | nil =>
              obtain rfl := chkL_nil k2
              exact TIs.eq (si_range1 C h1 h2 hpl (c1 W cc X e1 C k1).dat) fun ρ μ => rfl
            | cons e2 es =>
              obtain ⟨b, r', rfl, k3, k4⟩ := chkL_cons k2
              cases es with
              | nil =>
                obtain rfl := chkL_nil k4
                exact TIs.eq (si_range2 C h1 h2 hpl (c1 W cc X e1 C k1).dat (c2 b .nil rfl W cc X e2 C k3).dat) fun ρ μ => rfl
              | cons e3 es =>
                obtain ⟨c, r', rfl, _, _⟩ := chkL_cons k4
                exact ⟨fun pins s σ H Q I ⟨B, ρ, μ, ι, at0, q⟩ => (q : False).elim⟩
        | cons _ _ => rcases es with _ | ⟨_, _ | ⟨_, _ | ⟨_, _⟩⟩⟩ <;> exact nomatch (show false = true from h)
      | _ => simp [chkI] at h
    | _ => simp [chkI] at h
  exact .iter hI (fun _ _ => by simp [chk]) (fun _ _ => by simp [chkL]) (fun _ _ _ _ => by simp [chkG]) (fun _ _ _ _ h => by cases h) (fun _ _ h => by cases h) (fun _ _ h => by cases h)
theorem ok_dct {ks vs : PX} (t : Bool) : AllOk g cl fns gc n (.dct t ks vs) := by
  by_cases h : ks = .nil ∧ vs = .nil
  · obtain ⟨rfl, rfl⟩ := h; exact ok_dct0 t
  · have hc : ∀ cc e, chk (.dct t ks vs) cc e = false := fun cc e => by
      cases ks <;> first | (simp [chk]; done) | (cases vs <;> first | (simp [chk]; done) | exact absurd ⟨rfl, rfl⟩ h)
    exact ok_none hc (fun _ _ => by simp [chkL]) (fun _ _ => by simp [chkI]) (fun _ _ _ _ => by simp [chkG]) (fun _ _ _ _ h => by cases h) (fun _ _ h => by cases h) (fun _ _ h => by cases h)
/-- every term -/
theorem all_ok (hcl : ∀ f F xs μ, fns f = some F → xs.length ≠ F.ar → cl f xs μ = .bad) (p : PX) : AllOk g cl fns gc n p := by
  induction p with
  | var i => exact ok_var i
  | int i => exact ok_int i
  | str i => exact ok_str i
  | bl i => exact ok_bl i
  | non => exact ok_non
  | glb x => exact ok_glb x
  | bin op a b ha hb => exact ok_bin op ha hb
  | neg a ha => exact ok_neg ha
  | not a ha => exact ok_not ha
  | cmp op a b ha hb => exact ok_cmp op ha hb
  | chain o1 o2 a b c ha hb hc => exact ok_chain o1 o2 ha hb hc
  | and l hl => exact ok_and hl
  | or l hl => exact ok_or hl
  | ite c a b hc ha hb => exact ok_ite hc ha hb
  | call f l hl => exact ok_call f hcl hl
  | bi f l hl => exact ok_bi f hl
  | ty f l hl => exact ok_ty f hl
  | isi a T ha => exact ok_isi T ha
  | tup l hl => exact ok_tup hl
  | lst l hl => exact ok_lst hl
  | dct t ks vs _ _ => exact ok_dct t
  | ix a b ha hb => exact ok_ix ha hb
  | slc a lo hi ha hlo hhi => exact ok_slc ha hlo hhi
  | lc own elt gens he hg => exact ok_lc own he hg
  | dc own t k v gens hk hv hg => exact ok_dc own t hk hv hg
  | new a ha => exact ok_new hcl ha
  | mth m o l ho hl => exact ok_mth m ho hl
  | nil => exact ok_nil
  | cons a r ha hr => exact ok_cons ha hr
  | gen tg it ifs rest hi hf hr => exact ok_gen tg hi hf hr
  | range l hl => exact ok_range hl
  | zip a b ha hb => exact ok_zip ha hb
  | enum a ha => exact ok_enum ha
  | rvd a ha => exact ok_rvd ha
  | over a ha => exact ok_over ha
  | rev a ha => exact ok_rev ha
  | items a _ => exact ok_none (fun _ _ => by simp [chk]) (fun _ _ => by simp [chkL]) (fun _ _ => by simp [chkI]) (fun _ _ _ _ => by simp [chkG]) (fun _ _ _ _ h => by cases h) (fun _ _ h => by cases h) (fun _ _ h => by cases h)
  | vals a _ => exact ok_none (fun _ _ => by simp [chk]) (fun _ _ => by simp [chkL]) (fun _ _ => by simp [chkI]) (fun _ _ _ _ => by simp [chkG]) (fun _ _ _ _ h => by cases h) (fun _ _ h => by cases h) (fun _ _ h => by cases h)
end
end PyD

set_option Elab.async false
set_option linter.all false
set_option maxRecDepth 100000
set_option maxHeartbeats 4000000
/-! Statements: readings, one rule a construct. -/
namespace PyD
open PySem PySem.Spec L2

/-- what a statement's end must give -/
def postS (g : G) (W : Str → Sl → Hp → Prop) (D : Ends) (H : Hp) (ι : List Addr) : RS → Prop
  | .nx ρ μ => ∀ σ' H' ι', Ext H ι H' ι' → At g σ' H' ρ ι' μ → D.nx σ' H'
  | .rt d μ => ∀ v H' ι', Ext H ι H' ι' → MemRel g H' ι' μ → Rep g H' ι' d v → D.rt v H'
  | .bk ρ μ => ∀ σ' H' ι', Ext H ι H' ι' → At g σ' H' ρ ι' μ → D.bk σ' H'
  | .ct ρ μ => ∀ σ' H' ι', Ext H ι H' ι' → At g σ' H' ρ ι' μ → D.ct σ' H'
  | .exc c ρ μ => ∀ σ' H' ι', Ext H ι H' ι' → At g σ' H' ρ ι' μ → W c σ' H'
  | .bad => False
def TSd (g : G) (W : Str → Sl → Hp → Prop) (f : Env → Store → RS) : TS := fun D σ H => ∃ B ρ μ ι, At (g.b B) σ H ρ ι μ ∧ postS (g.b B) W D H ι (f ρ μ)
section
variable {g : G} {W : Str → Sl → Hp → Prop} {D : Ends} {H H' : Hp} {ι ι' : List Addr} {r : RS}
theorem postS.mono (h : postS g W D H ι r) (x : Ext H ι H' ι') : postS g W D H' ι' r := by
  cases r with
  | nx ρ μ => exact fun σ2 H2 ι2 y a => h σ2 H2 ι2 (x.trans y) a
  | rt d μ => exact fun v H2 ι2 y m q => h v H2 ι2 (x.trans y) m q
  | bk ρ μ => exact fun σ2 H2 ι2 y a => h σ2 H2 ι2 (x.trans y) a
  | ct ρ μ => exact fun σ2 H2 ι2 y a => h σ2 H2 ι2 (x.trans y) a
  | exc c ρ μ => exact fun σ2 H2 ι2 y a => h σ2 H2 ι2 (x.trans y) a
  | bad => exact h
/-- what follows a value -/
theorem postS.val {α β : Type} {rep : Hp → List Addr → α → β → Prop} {p : R α} {k : α → Store → RS} {σ : Sl} {ρ : Env} {μ : Store} (at0 : At g σ H ρ ι μ) (h : postS g W D H ι (p.thenS ρ k)) :
    post rep g (fun c H' => W c σ H') H ι p (fun b H1 => ∃ a μ1 ι1, Ext H ι H1 ι1 ∧ At g σ H1 ρ ι1 μ1 ∧ rep H1 ι1 a b ∧ postS g W D H1 ι1 (k a μ1)) := by
  cases p with
  | ok a μ' => exact fun b H2 ι2 y m q => ⟨a, μ', ι2, y, at0.next y m, q, postS.mono (show postS g W D H ι (k a μ') from h) y⟩
  | exc c μ' => exact fun H2 ι2 y m => h σ H2 ι2 y (at0.next y m)
  | bad => exact h
/-- one statement, then more -/
theorem postS.seq {k : Env → Store → RS} {B : List Addr} (h : postS (g.b B) W D H ι (r.seq k)) : postS (g.b B) W { D with nx := TSd g W k D } H ι r := by
  cases r with
  | nx ρ μ => exact fun σ2 H2 ι2 y a => ⟨B, ρ, μ, ι2, a, postS.mono (show postS (g.b B) W D H ι (k ρ μ) from h) y⟩
  | rt d μ => exact h
  | bk ρ μ => exact h
  | ct ρ μ => exact h
  | exc c ρ μ => exact h
  | bad => exact h
end

/-- where statements stand -/
structure Sok (g : G) (cl : Oracle) (fns : Str → Option Fn) (gc : Consts) (n : Nat) (W : Str → Sl → Hp → Prop) (cc : CC) (X : Cx) : Prop extends Cok g cl fns gc n W cc X where
  kind : X.env.scope.kind = .function
  pass : PassesOwn (model X.prog X.w) X.A X.env X.xe
  hs : X.stack = X.env :: X.outer
  hf : X.env.frame = some X.env.locals

section
variable {g : G} {W : Str → Sl → Hp → Prop} {X : Cx} {e a b : Expr} {pos : Pos} {st : Stmt} {sts rest : List Stmt} {fa fb : Env → Store → R D} {cl : Oracle} {fns : Str → Option Fn} {gc : Consts} {n : Nat} {cc : CC} {f k : Env → Store → RS}
theorem TSd.eq {f f' : Env → Store → RS} (h : PS X st (TSd g W f)) (k : ∀ ρ μ, f' ρ μ = f ρ μ) : PS X st (TSd g W f') := by
  have : f' = f := by funext ρ μ; exact k ρ μ
  rw [this]
  exact h
theorem TSsd.eq {f f' : Env → Store → RS} (h : PSs X sts (TSd g W f)) (k : ∀ ρ μ, f' ρ μ = f ρ μ) : PSs X sts (TSd g W f') := by
  have : f' = f := by funext ρ μ; exact k ρ μ
  rw [this]
  exact h
/-- the reading of a statement that begins with a value -/
theorem td_S {D : Ends} {kk : PyD.D → Store → RS} {σ : Sl} {H : Hp} {B : List Addr} {ρ : Env} {μ : Store} {ι : List Addr} (at0 : At (g.b B) σ H ρ ι μ) (h : postS (g.b B) W D H ι ((fa ρ μ).thenS ρ kk)) :
    TD g W fa σ H (fun v H1 => ∃ d μ1 ι1, Ext H ι H1 ι1 ∧ At (g.b B) σ H1 ρ ι1 μ1 ∧ Rep (g.b B) H1 ι1 d v ∧ postS (g.b B) W D H1 ι1 (kk d μ1)) :=
  ⟨B, ρ, μ, ι, at0, h.val at0⟩
theorem ss_nil : PSs X [] (TSd g W fun ρ μ => .nx ρ μ) := pss_nil.imp fun D σ H ⟨B, ρ, μ, ι, at0, q⟩ => q σ H ι Ext.refl at0
theorem ss_cons (h1 : PS X st (TSd g W f)) (h2 : PSs X rest (TSd g W k)) : PSs X (st :: rest) (TSd g W fun ρ μ => (f ρ μ).seq k) :=
  (pss_cons h1 h2).imp fun D σ H ⟨B, ρ, μ, ι, at0, q⟩ => ⟨B, ρ, μ, ι, at0, postS.seq q⟩
theorem ss_expr (he : PE X e (TD g W fa)) (hs : swapsWith e none pos.line X.env = pure false) : PS X (.Expr e pos) (TSd g W fun ρ μ => (fa ρ μ).thenS ρ fun _ μ => .nx ρ μ) :=
  (ps_expr he hs).imp fun D σ H ⟨B, ρ, μ, ι, at0, q⟩ => (by
    obtain ⟨B1, ρ1, μ1, ι1, a1, q1⟩ := td_S (W := W) at0 q
    exact ⟨B1, ρ1, μ1, ι1, a1, q1.imp fun v H1 ⟨d, μ2, ι2, x2, a2, r2, q2⟩ => q2 σ H1 ι2 Ext.refl a2⟩)
theorem ss_pass : PS X (.Pass pos) (TSd g W fun ρ μ => .nx ρ μ) := ps_pass.imp fun D σ H ⟨B, ρ, μ, ι, at0, q⟩ => q σ H ι Ext.refl at0
theorem ss_brk : PS X (.Break pos) (TSd g W fun ρ μ => .bk ρ μ) := ps_break.imp fun D σ H ⟨B, ρ, μ, ι, at0, q⟩ => q σ H ι Ext.refl at0
theorem ss_cont : PS X (.Continue pos) (TSd g W fun ρ μ => .ct ρ μ) := ps_continue.imp fun D σ H ⟨B, ρ, μ, ι, at0, q⟩ => q σ H ι Ext.refl at0
theorem ss_ret (he : PE X e (TD g W fa)) : PS X (.Return (some e) pos) (TSd g W fun ρ μ => (fa ρ μ).thenS ρ fun d μ => .rt d μ) :=
  (ps_ret he).imp fun D σ H ⟨B, ρ, μ, ι, at0, q⟩ => (by
    obtain ⟨B1, ρ1, μ1, ι1, a1, q1⟩ := td_S (W := W) at0 q
    exact ⟨B1, ρ1, μ1, ι1, a1, q1.imp fun v H1 ⟨d, μ2, ι2, x2, a2, r2, q2⟩ => q2 v H1 ι2 Ext.refl a2.m r2⟩)
theorem ss_retN : PS X (.Return none pos) (TSd g W fun _ μ => .rt .non μ) := ps_retN.imp fun D σ H ⟨B, ρ, μ, ι, at0, q⟩ => q .non H ι Ext.refl at0.m .non
theorem ss_if {c : Expr} {A1 A2 : List Stmt} {fc : Env → Store → R Bool} {f1 f2 : Env → Store → RS} (hc : PT X c (TB g W fc)) (h1 : PSs X A1 (TSd g W f1)) (h2 : PSs X A2 (TSd g W f2)) : PS X (.If c A1 A2 pos) (TSd g W fun ρ μ => (fc ρ μ).thenS ρ fun k μ => if k then f1 ρ μ else f2 ρ μ) :=
  (ps_if hc h1 h2).imp fun D σ H ⟨B, ρ, μ, ι, at0, q⟩ => (by
    refine ⟨B, ρ, μ, ι, at0, (postS.val (rep := fun _ _ a b => a = b) at0 q).imp fun v H1 ⟨d, μ2, ι2, x2, a2, r2, q2⟩ => ?_⟩
    subst r2
    cases d with
    | true => exact ⟨B, ρ, μ2, ι2, a2, q2⟩
    | false => exact ⟨B, ρ, μ2, ι2, a2, q2⟩)
/-- name = value -/
theorem ss_set {i : Nat} {x : Str} {p : Pos} (C : Cok g cl fns gc n W cc X) (h1 : slotIs cc i x = true) (h2 : asgOk cc x = true) (he : PE X e (TD g W fa)) (hs : swapsWith e (some (.Name x p)) pos.line X.env = pure false) :
    PS X (.Assign [.Name x p] e pos) (TSd g W fun ρ μ => (fa ρ μ).thenS ρ fun d μ => .nx (ρ.set i (some d)) μ) := by
  unfold slotIs at h1
  rw [Bool.and_eq_true, decide_eq_true_eq] at h1
  unfold asgOk at h2
  rw [Bool.and_eq_true, Bool.or_eq_true] at h2
  refine (ps_set (i := i) (by rw [C.hN]; exact C.nd) (by rw [C.hN]; exact h1.1) (by rw [C.sc]; exact locI h2.1) he hs (h2.2.elim (fun z => .inl (C.fn x z)) fun z => .inr (by rw [C.sc]; exact pureI z))).imp fun D σ H ⟨B, ρ, μ, ι, at0, q⟩ => ?_
  obtain ⟨B1, ρ1, μ1, ι1, a1, q1⟩ := td_S (W := W) at0 q
  exact ⟨B1, ρ1, μ1, ι1, a1, q1.imp fun v H1 ⟨d, μ2, ι2, x2, a2, r2, q2⟩ => q2 _ H1 ι2 Ext.refl ⟨a2.s.set r2 i, a2.m⟩⟩
/-- a comprehension given to a name on one line -/
def PUse (X : Cx) (e : Expr) (t : TE) : Prop := ∀ (i : Nat) (y : Str) (py spos : Pos), X.N[i]? = some y → X.env.scope.names.lookup y = some .local → swapsWith e (some (.Name y py)) spos.line X.env = pure true → PS X (.Assign [.Name y py] e spos) (tAsg t (gName i))
theorem PUse.imp {t t' : TE} (h : PUse X e t) (k : ∀ σ H Q, t' σ H Q → t σ H Q) : PUse X e t' := fun i y py spos h1 h2 h3 => (h i y py spos h1 h2 h3).imp fun D σ H q => k σ H _ q
theorem ss_use {i : Nat} {x : Str} {p : Pos} {fo : Env → Store → R Out} (C : Cok g cl fns gc n W cc X) (h1 : slotIs cc i x = true) (h2 : isPure cc.sc x = true) (he : PUse X e (TO g W fo)) (hs : swapsWith e (some (.Name x p)) pos.line X.env = pure true) :
    PS X (.Assign [.Name x p] e pos) (TSd g W fun ρ μ => (fo ρ μ).dat.thenS ρ fun d μ => .nx (ρ.set i (some d)) μ) := by
  unfold slotIs at h1
  rw [Bool.and_eq_true, decide_eq_true_eq] at h1
  refine (he i x p pos (by rw [C.hN]; exact h1.1) (by rw [C.sc]; exact pureI h2) hs).imp fun D σ H ⟨B, ρ, μ, ι, at0, q⟩ => ⟨B, ρ, μ, ι, at0, postO.dat ?_⟩
  exact (postS.val (rep := Rep (g.b B)) at0 q).imp fun v H1 ⟨d, μ2, ι2, x2, a2, r2, q2⟩ => q2 _ H1 ι2 Ext.refl ⟨a2.s.set r2 i, a2.m⟩
end
end PyD

set_option Elab.async false
set_option linter.all false
set_option maxRecDepth 100000
set_option maxHeartbeats 4000000
/-! Statements: stores, loops. -/
namespace PyD
open PySem PySem.Spec L2
section
variable {g : G} {W : Str → Sl → Hp → Prop} {X : Cx} {e a b o i : Expr} {pos : Pos} {st : Stmt} {sts rest : List Stmt} {fa fb fo fi : Env → Store → R D} {cl : Oracle} {fns : Str → Option Fn} {gc : Consts} {n : Nat} {cc : CC} {f k : Env → Store → RS}
/-- (a, b) = value -/
theorem ss_setT {tg : Tg} {es : List Expr} {kk : Nat} {tp : Pos} (C : Cok g cl fns gc n W cc X) (ht : chkTg cc tg (.Tuple es kk tp) = true) (he : PE X e (TD g W fa)) (hw : swappedStores [.Tuple es kk tp] e X.env = pure none) (hs : swapsWithSole [.Tuple es kk tp] e pos.line X.env = pure false) :
    PS X (.Assign [.Tuple es kk tp] e pos) (TSd g W fun ρ μ => (fa ρ μ).thenS ρ fun d μ => match asg tg μ d ρ with | some ρ' => .nx ρ' μ | none => .bad) :=
  (ps_asg he (sg_tg C tg _ ht) hs hw rfl).imp fun D σ H ⟨B, ρ, μ, ι, at0, q⟩ => (by
    obtain ⟨B1, ρ1, μ1, ι1, a1, q1⟩ := td_S (W := W) at0 q
    refine ⟨B1, ρ1, μ1, ι1, a1, q1.imp fun v H1 ⟨d, μ2, ι2, x2, a2, r2, q2⟩ => ?_⟩
    split at q2
    · rename_i ρ' h
      exact ⟨B, ρ, μ2, ι2, d, ρ', a2, r2, h, fun σ' s1 _ => q2 σ' H1 ι2 Ext.refl ⟨s1, a2.m⟩⟩
    · exact q2.elim)
/-- a, b = x, y -/
theorem ss_par {i j : Nat} {x y : Str} {px py pt : Pos} {kt k2 : Nat} {pt2 : Pos} (C : Cok g cl fns gc n W cc X) (h1 : slotIs cc i x = true) (h2 : slotIs cc j y = true) (hij : i ≠ j) (h3 : isPure cc.sc x = true) (h4 : isPure cc.sc y = true) (hpl : Plain [a, b]) (ha : PE X a (TD g W fa)) (hb : PE X b (TD g W fb))
    (hw : swappedStores [.Tuple [.Name x px, .Name y py] kt pt] (.Tuple [a, b] k2 pt2) X.env = pure (some [x, y])) :
    PS X (.Assign [.Tuple [.Name x px, .Name y py] kt pt] (.Tuple [a, b] k2 pt2) pos) (TSd g W fun ρ μ => (fa ρ μ).thenS ρ fun x μ => (fb ρ μ).thenS ρ fun y μ => .nx ((ρ.set i (some x)).set j (some y)) μ) := by
  unfold slotIs at h1 h2
  rw [Bool.and_eq_true, decide_eq_true_eq] at h1 h2
  refine (ps_par (i := i) (j := j) C.calm (by rw [C.hN]; exact C.nd) (by rw [C.hN]; exact h1.1) (by rw [C.hN]; exact h2.1) hij (by rw [C.sc]; exact pureI h3) (by rw [C.sc]; exact pureI h4) (pa_cons ha (pa_cons hb pa_nil (hpl b (by simp) X.env [])) (hpl a (by simp) X.env [b])) hw rfl).imp fun D σ H ⟨B, ρ, μ, ι, at0, q⟩ => ?_
  obtain ⟨B1, ρ1, μ1, ι1, a1, q1⟩ := td_S (W := W) at0 q
  refine ⟨B1, ρ1, μ1, ι1, a1, q1.imp fun v H1 ⟨d, μ2, ι2, x2, a2, r2, q2⟩ => ?_⟩
  obtain ⟨B3, ρ3, μ3, ι3, a3, q3⟩ := td_S (W := W) a2 q2
  refine ⟨B3, ρ3, μ3, ι3, a3, q3.imp fun u H3 ⟨d', μ4, ι4, x4, a4, r4, q4⟩ => ?_⟩
  exact ⟨v, u, rfl, q4 _ H3 ι4 Ext.refl ⟨(a4.s.set (r2.mono x4 a2.m.wf) i).set r4 j, a4.m⟩⟩
/-- o[i] = value -/
theorem ss_setIx {p : Pos} (C : Cok g cl fns gc n W cc X) (hsl : noSlice i = true) (he : PE X e (TD g W fa)) (ho : PE X o (TD g W fo)) (hi : PE X i (TD g W fi)) (hs : swapsWithSole [.Subscript o i p] e pos.line X.env = pure false) (hw : swappedStores [.Subscript o i p] e X.env = pure none) :
    PS X (.Assign [.Subscript o i p] e pos) (TSd g W fun ρ μ => (fa ρ μ).thenS ρ fun v μ => (fo ρ μ).thenS ρ fun x μ => (fi ρ μ).thenS ρ fun y μ => match setD x y v μ with | some μ => .nx ρ μ | none => .bad) := by
  refine (ps_asg he (pg_sub ho hi (set_D (g := g) C.room) (by intro v; cases i <;> first | rfl | cases hsl)) hs hw rfl).imp fun D σ H ⟨B, ρ, μ, ι, at0, q⟩ => ?_
  obtain ⟨B1, ρ1, μ1, ι1, a1, q1⟩ := td_S (W := W) at0 q
  refine ⟨B1, ρ1, μ1, ι1, a1, q1.imp fun v H1 ⟨d, μ2, ι2, x2, a2, r2, q2⟩ => ?_⟩
  obtain ⟨B3, ρ3, μ3, ι3, a3, q3⟩ := td_S (W := W) a2 q2
  refine ⟨B3, ρ3, μ3, ι3, a3, q3.imp fun u H3 ⟨d', μ4, ι4, x4, a4, r4, q4⟩ => ?_⟩
  obtain ⟨B5, ρ5, μ5, ι5, a5, q5⟩ := td_S (W := W) a4 q4
  refine ⟨B5, ρ5, μ5, ι5, a5, q5.imp fun w H5 ⟨d'', μ6, ι6, x6, a6, r6, q6⟩ => ?_⟩
  split at q6
  · rename_i μ7 h7
    exact ⟨B, μ6, ι6, d', d'', d, μ7, a6.m, r4.mono x6 a4.m.wf, r6, (r2.mono x4 a2.m.wf).mono x6 a4.m.wf, h7, fun H' ι' x m => q6 σ H' ι' x (a6.next x m)⟩
  · exact q6.elim
/-! ### += -/
def ipD (op : Operator) : TIp := fun x y H Q => ∃ i j z, x = .int i ∧ y = .int j ∧ binD op [] (.int i) (.int j) = some (.v (.int z)) ∧ Q (.int z) H
theorem ip_D (op : Operator) (hop : op = .Add ∨ op = .Sub) : PIp X op (ipD op) := by
  intro pins s σ H x y v u Q I r1 r2 ⟨i, j, z, e1, e2, e3, q⟩
  rcases hop with rfl | rfl
  · exact ip_add pins s σ H x y v u Q I r1 r2 ⟨i, j, e1, e2, by
      have e3 : some (Out.v (.int (i + j))) = some (.v (.int z)) := e3
      cases e3
      exact q⟩
  · exact ip_sub pins s σ H x y v u Q I r1 r2 ⟨i, j, e1, e2, by
      have e3 : some (Out.v (.int (i - j))) = some (.v (.int z)) := e3
      cases e3
      exact q⟩
theorem bin_ints {op : Operator} (hop : op = .Add ∨ op = .Sub) {μ : Store} {i j : Int} {o : Out} (h : binD op μ (.int i) (.int j) = some o) : ∃ z, o = .v (.int z) ∧ binD op [] (.int i) (.int j) = some (.v (.int z)) := by
  rcases hop with rfl | rfl
  · have h : some (Out.v (.int (i + j))) = some o := h
    cases h
    exact ⟨_, rfl, rfl⟩
  · have h : some (Out.v (.int (i - j))) = some o := h
    cases h
    exact ⟨_, rfl, rfl⟩
theorem ss_aug {i : Nat} {x : Str} {p : Pos} {op : Operator} (hop : op = .Add ∨ op = .Sub) (C : Cok g cl fns gc n W cc X) (h1 : slotIs cc i x = true) (h2 : asgOk cc x = true) (he : PE X e (TD g W fa)) :
    PS X (.AugAssign (.Name x p) op e pos) (TSd g W fun ρ μ => match ρ[i]? with
      | some (some x) => (fa ρ μ).thenS ρ fun y μ => match x, y with
        | .int _, .int _ => match binD op μ x y with
          | some o => .nx (ρ.set i (some o.dat)) μ
          | none => .bad
        | _, _ => .bad
      | _ => .bad) := by
  unfold slotIs at h1
  rw [Bool.and_eq_true, decide_eq_true_eq] at h1
  unfold asgOk at h2
  rw [Bool.and_eq_true, Bool.or_eq_true] at h2
  refine (ps_aug (i := i) (by rw [C.hN]; exact C.nd) (by rw [C.hN]; exact h1.1) (by rw [C.sc]; exact locI h2.1) he (ip_D op hop) (h2.2.elim (fun z => .inl (C.fn x z)) fun z => .inr (by rw [C.sc]; exact pureI z))).imp fun D σ H ⟨B, ρ, μ, ι, at0, q⟩ => ?_
  simp only at q
  split at q
  · rename_i d hd
    obtain ⟨v, e1, r1⟩ := at0.s.at_ i d hd
    obtain ⟨B1, ρ1, μ1, ι1, a1, q1⟩ := td_S (W := W) at0 q
    refine ⟨v, e1, B1, ρ1, μ1, ι1, a1, q1.imp fun w H1 ⟨d', μ2, ι2, x2, a2, r2, q2⟩ => ?_⟩
    split at q2
    · split at q2
      · rename_i o ho
        obtain ⟨z, rfl, hz⟩ := bin_ints hop ho
        cases r1
        cases r2
        exact ⟨_, _, z, rfl, rfl, hz, q2 _ H1 ι2 Ext.refl ⟨a2.s.set (.int z) i, a2.m⟩⟩
      · exact q2.elim
    · exact q2.elim
  · exact q.elim
/-! ### x[i] += v -/
def rGxD (g : G) : V → V → Hp → VK → Prop := fun x y H Q => ∃ B μ ι dx dy d, MemRel (g.b B) H ι μ ∧ Rep (g.b B) H ι dx x ∧ Rep (g.b B) H ι dy y ∧ gxD μ dx dy = some d ∧ ∀ v, Rep (g.b B) H ι d v → Q v H
theorem asD_ref {μ : Store} {n : Nat} {t : Bool} {ks : List DK} {ds : List PyD.D} (h : μ[n]? = some (.dct t ks ds)) : asDct μ (.ref n) = some (t, ks, ds) := by
  unfold asDct
  simp only [h]
theorem get_D {n : Nat} (hr : Room n X.A) : PGet X (rGxD g) := by
  intro pins s σ H o i ov iv Q I ro ri h
  obtain ⟨B, μ, ι, dx, dy, d, m, r1, r2, e, q⟩ := h
  have hu1 : X.A.units + 1 < cLine := by have := hr.un; omega
  unfold gxD at e
  split at e
  · rename_i n
    split at e
    · rename_i ds he
      obtain ⟨a, vs, rfl, ha, hl, rl⟩ := refL_of (d := .non) he m r1
      split at e
      · rename_i k
        cases r2
        cases ro
        obtain ⟨t, rfl⟩ := ri
        obtain ⟨its, rv, pl, hz⟩ := I.list (SqL.of (K := X.K) hl)
        obtain ⟨j, h1, h2, h3, h4, h5⟩ := atI_get e
        obtain ⟨v, h6, h7⟩ := rl.get h2
        obtain ⟨w, ew, rw'⟩ := rv.get h6
        have ll := rl.length
        have lv := rv.length
        have hn := line63
        have fin : EP X pins σ Q w s := ⟨v, H, I, rw', q v h7⟩
        by_cases h0 : 0 ≤ k
        · have hj : k.toNat = j := by
            rw [seqIndex_of h0 h5] at h1
            exact Option.some.inj h1
          exact wpAny_getItem_list pl.isList h0 (by omega) (by rw [hj]; simpa using ew) fin
        · have hj : (k + (its.toArray.size : Int)).toNat = j := by
            rw [seqIndex_neg (by omega) h4] at h1
            rw [List.size_toArray, ← lv, ← ll]
            exact Option.some.inj h1
          exact wpAny_getItem_list_neg pl.isList (by omega) (by rw [List.size_toArray]; omega) (by omega) (by rw [hj]; simpa using ew) fin
      · cases e
    · rename_i t ks ds he
      cases ek : dy.key t with
      | none => rw [ek] at e; cases e
      | some k =>
        rw [ek, Option.bind_some] at e
        obtain ⟨a, ov', rfl, hd, ho⟩ := dget_of (ds := ds) (asD_ref he) m r1 r2 ek
        rw [e] at ho
        obtain ⟨w, rfl, rw'⟩ := ho
        cases ro
        exact d_getItem hu1 I hd ri fun w' s' I' rr => ⟨w, H, I', rr, q w rw'⟩
    · cases e
  · cases e
theorem ss_augIx {p : Pos} {op : Operator} (hop : op = .Add ∨ op = .Sub) (C : Cok g cl fns gc n W cc X) (hsl : noSlice i = true) (ho : PE X o (TD g W fo)) (hi : PE X i (TD g W fi)) (he : PE X e (TD g W fa)) :
    PS X (.AugAssign (.Subscript o i p) op e pos) (TSd g W fun ρ μ => (fo ρ μ).thenS ρ fun x μ => (fi ρ μ).thenS ρ fun y μ => match gxD μ x y with
      | some old => (fa ρ μ).thenS ρ fun v μ => match old, v with
        | .int _, .int _ => match binD op μ old v with
          | some new => match setD x y new.dat μ with
            | some μ => .nx ρ μ
            | none => .bad
          | none => .bad
        | _, _ => .bad
      | none => .bad) := by
  refine (ps_augS ho hi (get_D (g := g) C.room) he (ip_D op hop) (set_D (g := g) C.room) (by intro ov iv new; cases i <;> first | rfl | cases hsl)).imp fun D σ H ⟨B, ρ, μ, ι, at0, q⟩ => ?_
  obtain ⟨B1, ρ1, μ1, ι1, a1, q1⟩ := td_S (W := W) at0 q
  refine ⟨B1, ρ1, μ1, ι1, a1, q1.imp fun v H1 ⟨d, μ2, ι2, x2, a2, r2, q2⟩ => ?_⟩
  obtain ⟨B3, ρ3, μ3, ι3, a3, q3⟩ := td_S (W := W) a2 q2
  refine ⟨B3, ρ3, μ3, ι3, a3, q3.imp fun u H3 ⟨d', μ4, ι4, x4, a4, r4, q4⟩ => ?_⟩
  have r2' := r2.mono x4 a2.m.wf
  split at q4
  · rename_i old hold
    refine ⟨B, μ4, ι4, d, d', old, a4.m, r2', r4, hold, fun z hz => ?_⟩
    obtain ⟨B5, ρ5, μ5, ι5, a5, q5⟩ := td_S (W := W) a4 q4
    refine ⟨B5, ρ5, μ5, ι5, a5, q5.imp fun w H5 ⟨d'', μ6, ι6, x6, a6, r6, q6⟩ => ?_⟩
    split at q6
    · split at q6
      · rename_i new hnew
        obtain ⟨z', rfl, hz'⟩ := bin_ints hop hnew
        split at q6
        · rename_i μ7 h7
          cases hz
          cases r6
          exact ⟨_, _, z', rfl, rfl, hz', B, μ6, ι6, d, d', .int z', μ7, a6.m, r2'.mono x6 a4.m.wf, r4.mono x6 a4.m.wf, .int z', h7, fun H' ι' x m => q6 σ H' ι' x (a6.next x m)⟩
        · exact q6.elim
      · exact q6.elim
    · exact q6.elim
  · exact q4.elim
end
end PyD

set_option Elab.async false
set_option linter.all false
set_option maxRecDepth 100000
set_option maxHeartbeats 4000000
/-! Statements: for, while. -/
namespace PyD
open PySem PySem.Spec L2
def restF (src : Src) (turn : D → Env → Store → RS) (i : Nat) : Env → Store → RS := match src with
  | .its ds => forL turn (ds.drop i)
  | .live n N => forN turn n N (N - i)
theorem restF_zero (src : Src) (turn : D → Env → Store → RS) (ρ : Env) (μ : Store) : restF src turn 0 ρ μ = forS src turn ρ μ := by cases src <;> rfl
theorem restF_step {src : Src} {turn : D → Env → Store → RS} {i : Nat} (hi : i < src.len) (ρ : Env) (μ : Store) : restF src turn i ρ μ = match src.item μ i with
    | some d => (turn d ρ μ).turn (restF src turn (i + 1))
    | none => .bad := by
  cases src with
  | its ds =>
    have hi : i < ds.length := hi
    unfold restF Src.item
    simp only [List.getElem?_eq_getElem hi]
    rw [List.drop_eq_getElem_cons hi]
    rfl
  | live n N =>
    have hi : i < N := hi
    unfold restF Src.item
    simp only
    have e : N - i = (N - (i + 1)) + 1 := by omega
    rw [e, forN]
    have e2 : N - (N - (i + 1) + 1) = i := by omega
    rw [e2] <;> rfl
theorem restF_end {src : Src} {turn : D → Env → Store → RS} (ρ : Env) (μ : Store) : restF src turn src.len ρ μ = if src.okAt μ then .nx ρ μ else .bad := by
  cases src with
  | its ds =>
    unfold restF Src.len Src.okAt
    simp only [List.drop_length]
    rfl
  | live n N =>
    unfold restF Src.len Src.okAt
    simp only [Nat.sub_self]
    rw [forN]
    show _ = if (liveAt n N μ).isSome = true then RS.nx ρ μ else RS.bad
    split <;> rename_i h <;> rw [h] <;> rfl
section
variable {g : G} {W : Str → Sl → Hp → Prop} {D : Ends} {H H' : Hp} {ι ι' : List Addr} {r : RS}
/-- a turn, then the rest -/
theorem postS.turn {k : Env → Store → RS} {B : List Addr} {N : Sl → Hp → Prop} (h : postS (g.b B) W D H ι (r.turn k)) (hN : ∀ σ' H' ι' ρ μ, Ext H ι H' ι' → At (g.b B) σ' H' ρ ι' μ → postS (g.b B) W D H ι (k ρ μ) → N σ' H') : postS (g.b B) W { D with nx := N, ct := N, bk := D.nx } H ι r := by
  cases r with
  | nx ρ μ => exact fun σ2 H2 ι2 y a => hN σ2 H2 ι2 ρ μ y a h
  | rt d μ => exact h
  | bk ρ μ => exact h
  | ct ρ μ => exact fun σ2 H2 ι2 y a => hN σ2 H2 ι2 ρ μ y a h
  | exc c ρ μ => exact h
  | bad => exact h
end
section
variable {g : G} {W : Str → Sl → Hp → Prop} {X : Cx} {e a b o i : Expr} {pos : Pos} {st : Stmt} {sts rest : List Stmt} {fa fb fo fi : Env → Store → R D} {cl : Oracle} {fns : Str → Option Fn} {gc : Consts} {n : Nat} {cc : CC} {f k : Env → Store → RS}
/-- for -/
theorem ss_for {tg : Tg} {te ie : Expr} {body : List Stmt} {fit : Env → Store → R Src} {fb : Env → Store → RS} (C : Sok g cl fns gc n W cc X) (ht : chkTg cc tg te = true) (hi : PI X te ie (TIs g W fit)) (hb : PSs X body (TSd g W fb)) (hs : ∀ x, foldedSetIterable ie X.env x = pure x) :
    PS X (.For te ie body [] pos) (TSd g W fun ρ μ => (fit ρ μ).thenS ρ fun src μ => forS src (fun d ρ μ => match asg tg μ d ρ with | some ρ' => fb ρ' μ | none => .bad) ρ μ) := by
  refine (ps_for C.pass C.calm hi (sg_tg C.toCok tg te ht) hb hs).imp fun D σ H ⟨B, ρ, μ, ι, at0, q⟩ => ?_
  refine ⟨B, ρ, μ, ι, at0, (postS.val (rep := fun H' ι' src J => WalkOk (g.b B) H' ι' src J) at0 q).imp fun J H1 ⟨src, μ1, ι1, x1, at1, wk, q1⟩ => ?_⟩
  clear q
  generalize hT : (fun d ρ μ => match asg tg μ d ρ with | some ρ' => fb ρ' μ | none => RS.bad) = turn at q1
  refine ⟨fun i m σ' H' => i ≤ src.len ∧ m = src.len - i ∧ ∃ ρ' μ' ι', Ext H1 ι1 H' ι' ∧ At (g.b B) σ' H' ρ' ι' μ' ∧ postS (g.b B) W D H' ι' (restF src turn i ρ' μ'), ⟨src.len - 0, Nat.zero_le _, rfl, ρ, μ1, ι1, Ext.refl, at1, by rw [restF_zero]; exact q1⟩, ?_⟩
  rintro i m σ2 H2 ⟨hi, rfl, ρ2, μ2, ι2, x2, at2, q2⟩
  obtain ⟨w1, w2⟩ := wk B H2 ι2 μ2 (fun b hb => .inl hb) (x2.rm _) at2.m
  by_cases hlt : i < src.len
  · rw [restF_step hlt] at q2
    cases hit : src.item μ2 i with
    | none => rw [hit] at q2; exact q2.elim
    | some d =>
      rw [hit] at q2
      obtain ⟨go, yl⟩ := w1 i d hit
      refine .inr ⟨go, fun σ' H' => ∃ m', m' < src.len - i ∧ i + 1 ≤ src.len ∧ m' = src.len - (i + 1) ∧ ∃ ρ' μ' ι', Ext H1 ι1 H' ι' ∧ At (g.b B) σ' H' ρ' ι' μ' ∧ postS (g.b B) W D H' ι' (restF src turn (i + 1) ρ' μ'), fun σ' H' h => h, fun x H3 y3 => ?_⟩
      obtain ⟨x3, m3, r3⟩ := yl x H3 y3
      have at3 : At (g.b B) σ2 H3 ρ2 ι2 μ2 := at2.next x3 m3
      have q2 : postS (g.b B) W D H2 ι2 ((turn d ρ2 μ2).turn (restF src turn (i + 1))) := q2
      rw [← hT] at q2
      simp only at q2
      cases ha : asg tg μ2 d ρ2 with
      | none => rw [ha] at q2; exact q2.elim
      | some ρ' =>
        rw [ha] at q2
        rw [hT] at q2
        refine ⟨B, ρ2, μ2, ι2, d, ρ', at3, r3, ha, fun σ4 s4 _ => ⟨B, ρ', μ2, ι2, ⟨s4, m3⟩, (postS.turn (q2.mono x3) fun σ5 H5 ι5 ρ5 μ5 x5 at5 q5 => ?_)⟩⟩
        exact ⟨src.len - (i + 1), by omega, hlt, rfl, ρ5, μ5, ι5, (x2.trans x3).trans x5, at5, q5.mono x5⟩
  · have hie : i = src.len := by omega
    subst hie
    rw [restF_end] at q2
    split at q2
    · rename_i hok
      exact .inl ⟨w2 hok, q2 σ2 H2 ι2 Ext.refl at2⟩
    · exact q2.elim
/-- while -/
theorem ss_while {c : Expr} {body : List Stmt} {fc : Env → Store → R Bool} {fb : Env → Store → RS} {N : Nat} (C : Sok g cl fns gc n W cc X) (hc : PT X c (TB g W fc)) (hb : PSs X body (TSd g W fb)) :
    PS X (.While c body [] pos) (TSd g W fun ρ μ => whileF fc fb N ρ μ) := by
  refine (ps_while C.pass hc hb).imp fun D σ H ⟨B, ρ, μ, ι, at0, q⟩ => ?_
  refine ⟨fun m σ' H' => ∃ ρ' μ' ι', At (g.b B) σ' H' ρ' ι' μ' ∧ postS (g.b B) W D H' ι' (whileF fc fb m ρ' μ'), ⟨N, ρ, μ, ι, at0, q⟩, ?_⟩
  rintro m σ2 H2 ⟨ρ2, μ2, ι2, at2, q2⟩
  cases m with
  | zero => exact q2.elim
  | succ m =>
    rw [whileF] at q2
    refine ⟨B, ρ2, μ2, ι2, at2, (postS.val (rep := fun _ _ a b => a = b) at2 q2).imp fun bb H3 ⟨k, μ3, ι3, x3, at3, e3, q3⟩ => ?_⟩
    subst e3
    cases k with
    | false => exact q3 σ2 H3 ι3 Ext.refl at3
    | true =>
      simp only [if_true] at q3 ⊢
      refine ⟨fun σ' H' => ∃ m', m' < m + 1 ∧ ∃ ρ' μ' ι', At (g.b B) σ' H' ρ' ι' μ' ∧ postS (g.b B) W D H' ι' (whileF fc fb m' ρ' μ'), fun σ' H' h => h, B, ρ2, μ3, ι3, at3, postS.turn q3 fun σ5 H5 ι5 ρ5 μ5 x5 at5 q5 => ⟨m, Nat.lt_succ_self _, ρ5, μ5, ι5, at5, q5.mono x5⟩⟩
end
end PyD

set_option Elab.async false
set_option linter.all false
set_option maxRecDepth 100000
set_option maxHeartbeats 4000000
/-! A caught error handed to a def that asks its class. -/
namespace PyD
open PySem PySem.Spec L2 L2H
/-- isinstance(e, c), e pinned -/
theorem call_isP {X : Cx} {a D : Addr} {oe : Obj} (hp : (a, oe) ∈ X.pn) (C : ExcC X.K D) (hz : Zc (.ref D) none oe) (hf : ∃ vs, oe.data = .fields vs) : CallR X (.builtin "isinstance") (rIsE X.K D a) := by
  intro pins s σ H xs us Q I r h
  obtain ⟨c, cv, b, rfl, hcv, e, q⟩ := h
  match us, r with
  | [u1, u2], .cons rx (.cons rt .nil) =>
    cases rx
    obtain rfl := hcv _ rt
    obtain ⟨hget, _⟩ := I.pin (a, oe) (List.mem_append_left _ hp)
    obtain ⟨vs, hv⟩ := hf
    have J : PySem.W.InstAt s.heap a oe D none := by
      obtain ⟨oc, od, oda, osl⟩ := oe
      obtain ⟨h1, h2⟩ := hz
      dsimp only at h1 h2 hv
      subst h1 h2 hv
      exact ⟨hget, rfl, rfl, trivial⟩
    exact PySem.W.kia_one (PySem.W.handS_kitx_exc C.hg C.hk C.hs C.hd C.ha C.hn C.ht C.hm) I.kIn J e (fun z => nomatch z) fun tk => ⟨.bl b, H, I.kept (t' := tk) fun _ _ z => z, rfl, q⟩
/-- a def called with a caught error: what is known of the error's object is known in its body -/
theorem run_hot {X : Cx} {CX : CXT} {k : Nat} {f : Addr} {name qual : Str} {params : Arguments} {body : List Stmt} {scope : Scope} {dV kV doc pm cdv ct oc : Value} {an od : Option Addr} {osl : Array (Option Value)} {N ps : List Str} {p : Addr × Obj} {E : XK}
    (lk : X.K.lookup f = some ⟨oc, od, .func (PySem.W.fnOf name qual params body scope dV kV doc pm an cdv ct), osl⟩) (hcd : PySem.W.codeIn X.K cdv qual = true) (S : FnScope N ps scope) (hb : Binds X.K (PySem.W.fnOf name qual params body scope dV kV doc pm an cdv ct) ps [])
    (hr : RoomH (k + 1) X.A) (hp : p ∈ X.pn) {pins : List (Addr × Obj)} {σ : Sl} {H : Hp} {s : Shared} {Q : VK} {us : List Value} {vs : List V} (hx : ∀ e s', CX X.stack H s E e s' → X.xe e s') (I : Inv X pins σ H s) (r : Vals vs us) (hl : vs.length = ps.length)
    (hbody : ∀ (Y : Cx), Y = cxH CX X.prog X.w X.K X.mg X.base N qual scope f cdv X.A X.stack s H E p → RoomH k Y.A → ∃ t, PSs Y body t ∧ t { nx := fun _ H' => Q .non H', rt := Q } (L2.start N vs) H) :
    wpAny (model X.prog X.w) X.A (call (.ref f) us) (EP X pins σ Q) X.xe s := by
  have hul : us.length = ps.length := by rw [← r.length]; exact hl
  have bb := hb s us I.kIn (by rw [List.append_nil]; exact hul)
  rw [List.append_nil] at bb
  have P1 := I.pin p (List.mem_append_left _ hp)
  have hpin : PinOk X.stack H s p := ⟨P1.1, P1.2.1, fun hm => (List.mem_cons.mp (I.stkSub p.1 hm)).elim P1.2.2.1 P1.2.2.2.1, P1.2.2.2.2⟩
  have e0 := I.env0
  have KX : X.K.In s.heap := I.kIn
  have lim : s.heap.NoLimit := e0.mod.nolimit.keeps fun b o e => (e0.bs b o e).1
  have kinds : ∀ y ∈ ps.zip us, scope.names.lookup y.1 = some .local ∨ (scope.names.lookup y.1 = some .cell ∧ ((cellsFrom (s.heap.objs.size + 1) scope.names []).lookup y.1).isSome = true) := fun y hy => by
    obtain ⟨n, v⟩ := y
    exact (S.par n (List.of_mem_zip hy).1).elim .inl fun z => .inr ⟨z, PySem.W.cellsFrom_some _ _ _ (.inl z)⟩
  have body_ok : codeAny (model X.prog X.w) X.A (.call (.ref f) ⟨us, []⟩) (CR CX X.stack X.prog X.w H s Q E) s := by
    refine codeAny_call_function hr.depth (KX _ _ lk) rfl S.co S.gen rfl (PySem.W.codeRec_of KX hcd) (bb _ _ _ _ ?_)
    refine wpAny_newFunctionEnv_cells S.kind kinds fun env he s1 x => ?_
    subst he
    refine ⟨lim.keeps x.toInCall.keep, codeAny_func ?_⟩
    obtain ⟨t, ht, hq⟩ := hbody _ rfl (hr.deeper _)
    have J : Inv (cxH CX X.prog X.w X.K X.mg X.base N qual scope f cdv X.A X.stack s H E p) [] (L2.start N vs) H s1 := inv_startH S hpin e0 hl r x
    refine wpAny_mono (ht.run [] s1 (L2.start N vs) H _ J hq) (fun fl s' hs => ?_) fun e s' hs => hs
    have fin : ∀ {σ' : Sl} {H' : Hp} {v : V} {u : Value}, Inv (cxH CX X.prog X.w X.K X.mg X.base N qual scope f cdv X.A X.stack s H E p) [] σ' H' s' → RelV v u → Q v H' → CE X.stack X.prog X.w H s Q u s' := fun {_ H' v _} J' rv q => ⟨v, H', J'.os, J'.bare, J'.base, J'.hok, rv, q⟩
    cases fl with
    | ret u => exact let ⟨v, σ', H', J', rv, q⟩ := hs; fin J' rv q
    | next => exact let ⟨σ', H', J', q⟩ := hs; fin (v := V.non) (u := Value.none) J' rfl q
    | brk => exact let ⟨_, _, _, q⟩ := hs; q.elim
    | cont => exact let ⟨_, _, _, q⟩ := hs; q.elim
  refine wpAny_call (codeAny_mono body_ok fun r s' hq => ?_)
  cases r with
  | error e => exact hx e s' hq
  | ok fl =>
    cases fl with
    | ret u => exact I.after hq
    | next => exact False.elim hq
    | brk => exact False.elim hq
    | cont => exact False.elim hq
end PyD

set_option Elab.async false
set_option linter.all false
set_option maxRecDepth 100000
set_option maxHeartbeats 4000000
/-! except E as e: return f(e), f a def that asks e's class. -/
namespace PyD
open PySem PySem.Spec L2 L2H
/-- [isinstance(e, C), ..] -/
def flagEs (cc : CC) (x : Str) : List Str → List Expr → Bool
  | [], [] => true
  | c :: cs, .Call (.Name f _) [.Name y _, .Name k _] [] _ :: es => decide (f = "isinstance") && isBlt cc f && decide (y = x) && decide (k = c) && isGl cc.sc c && plainN c && flagEs cc x cs es
  | _, _ => false
/-- each class's answer -/
def FlagC (g : G) (D : Addr) : List Str → List Bool → Prop
  | [], [] => True
  | c :: cs, b :: bs => (∃ u, g.mg c = some (.ref u) ∧ PySem.W.kitOne g.K (.ref D) (.ref u) = some b) ∧ FlagC g D cs bs
  | _, _ => False
section
variable {g : G} {X : Cx} {cc : CC} {a D : Addr} {oe : Obj} {x : Str}
theorem flag_args (hK : X.K = g.K) (hM : X.mg = g.mg) (hbn : ∀ b ∈ cc.bn, g.mg b = none) (hsc : X.env.scope = cc.sc) (hN : X.N[0]? = some x) (hv : Vis X.env.scope x) (hpx : plainN x = true) (hp : (a, oe) ∈ X.pn) (C : ExcC X.K D) (hz : Zc (.ref D) none oe) (hf : ∃ vs, oe.data = .fields vs) :
    ∀ (cs : List Str) (bs : List Bool) (es : List Expr), flagEs cc x cs es = true → FlagC g D cs bs → PA X es (fun σ H Q => σ[0]? = some (some (.ref a)) ∧ Q (bs.map V.bl) H) := by
  intro cs
  induction cs with
  | nil =>
    intro bs es h hc
    cases es with
    | cons _ _ => simp [flagEs] at h
    | nil =>
      cases bs with
      | cons _ _ => exact hc.elim
      | nil => exact pa_nil.imp fun σ H Q ⟨_, q⟩ => q
  | cons c cs ih =>
    intro bs es h hc
    unfold flagEs at h
    split at h
    · cases ‹c :: cs = []›
    · rename_i c' cs' f fp y yp k kp cp es' e1
      obtain ⟨rfl, rfl⟩ := List.cons.inj e1
      simp only [Bool.and_eq_true, decide_eq_true_eq] at h
      obtain ⟨⟨⟨⟨⟨⟨rfl, h2⟩, rfl⟩, rfl⟩, h5⟩, h6⟩, h7⟩ := h
      cases bs with
      | nil => exact hc.elim
      | cons b bs =>
        obtain ⟨⟨u, hu, hk⟩, hc⟩ := hc
        have gl : ∀ {z}, isGl cc.sc z = true → Gl X z := fun {z} hz => by
          show X.env.scope.names.lookup z = some .globalImplicit
          rw [hsc]; exact glI hz
        unfold isBlt at h2
        simp only [Bool.and_eq_true, decide_eq_true_eq] at h2
        obtain ⟨⟨⟨h21, h22⟩, h23⟩, h24⟩ := h2
        have hc1 : PE X (.Name k kp) (tC (.ref u)) := pe_glob (gl h5) (by rw [hM]; exact hu) rfl (plainI h6).1
        have hv1 : PE X (.Name y yp) (tVar 0) := pe_var hN hv (plainI hpx).1 (plainI hpx).2
        have he := pe_callB (p := fp) (pos := cp) (call_isP hp C hz hf) (gl h21) (by rw [hM]; exact hbn _ h23) (by decide +kernel) (pa_cons hv1 (pa_cons hc1 pa_nil)) h24 (plainI h22).1
        refine (pa_cons he (ih bs es' h7 hc)).imp fun σ H Q ⟨hs, q⟩ => ?_
        refine ⟨_, hs, .ref u, .ref u, b, rfl, fun w hw => hw, by rw [hK]; exact hk, hs, q⟩
    · cases h
end
def flagBody (cc : CC) (y : Str) (cs : List Str) : List Stmt → Bool
  | [.Return (some (.List es _)) _] => flagEs cc y cs es && decide (cs.length ≤ 1000)
  | _ => false
theorem flagBody_i {cc : CC} {y : Str} {cs : List Str} {b : List Stmt} (h : flagBody cc y cs b = true) : ∃ es p q, b = [.Return (some (.List es p)) q] ∧ flagEs cc y cs es = true ∧ cs.length ≤ 1000 := by
  unfold flagBody at h
  split at h
  · rw [Bool.and_eq_true, decide_eq_true_eq] at h
    exact ⟨_, _, _, rfl, h⟩
  · cases h
theorem FlagC.len {g : G} {D : Addr} : ∀ {cs : List Str} {bs : List Bool}, FlagC g D cs bs → bs.length = cs.length
  | [], [], _ => rfl
  | [], _ :: _, h => h.elim
  | _ :: _, [], h => h.elim
  | c :: cs, b :: bs, h => by rw [List.length_cons, List.length_cons, FlagC.len h.2]
/-- f is a def of one parameter that asks its argument's class -/
def FlagOk (g : G) (sub : Subs) (bn : List Str) (f : Str) (cs : List Str) : Prop :=
  (∃ (fa : Addr) (fd : FuncData) (y qual : Str) (st : Stmt), g.mg f = some (.ref fa) ∧ PySem.W.keepIn g.K (.ref fa) = true ∧ Binds g.K fd [y] [] ∧ Fun g.K f qual st fa fd ∧ FnScope [y] [y] (defScope st) ∧ (defScope st).names.lookup y = some .local ∧ plainN y = true ∧
    flagBody { N := [y], sc := defScope st, fnb := fun _ => true, bn := bn, fs := [], ex := [] } y cs (defBody st) = true) ∧
  ∀ x bs cv, flagsOf sub x cs = some bs → g.mg x = some cv → ∃ D, cv = .ref D ∧ ExcC g.K D ∧ FlagC g D cs bs
section
variable {g : G} {sub : Subs} {X : Cx} {a D : Addr} {oe : Obj} {f : Str} {bn cs : List Str} {bs : List Bool} {n : Nat}
theorem pe_hot {q pos : Pos} {e : Expr} {ta : TA} (F : FlagOk g sub bn f cs) (hbn : ∀ b ∈ bn, g.mg b = none) (hK : X.K = g.K) (hM : X.mg = g.mg) (hr : RoomH (n + 1) X.A) (hp : (a, oe) ∈ X.pn) (C : ExcC X.K D) (hz : Zc (.ref D) none oe) (hfl : ∃ vs, oe.data = .fields vs) (hx : X.xe = fun _ _ => False)
    (hgl : Gl X f) (hdb : (f == ("__debug__" : Str)) = false) (hc : FlagC g D cs bs) (ha : PA X [e] ta) (he : starEach [e] X.env = (false, eval e X.env) :: starEach [] X.env := by rfl) :
    PE X (.Call (.Name f q) [e] [] pos) (fun σ H Q => ta σ H fun vs H1 => vs = [.ref a] ∧ ∀ T, H1 T = none → Q (.ref T) (upd H1 T (.lst (bs.map V.bl)))) := by
  obtain ⟨⟨fa, fd, y, qual, st, h1, h2, h3, h4, h5, h6, h7, h8⟩, _⟩ := F
  obtain ⟨es, p1, p2, eb, h9, h10⟩ := flagBody_i h8
  obtain ⟨oc, od, kV, doc, pm, an, cdv, ct, osl, rfl, lk, hcd⟩ := h4.ex
  refine ⟨fun pins s σ H Q I h => ?_⟩
  refine wpAny_Call_Name_kw (ld_glob I hgl (by rw [hM]; exact h1) ?_ hdb)
  refine PySem.W.callWith_K (h₀ := X.base) I.ok.mod.kin (by rw [hK]; exact h2) (thn (ha.run pos pins s σ H _ I h) fun us s1 ⟨vs, H1, I1, r, q⟩ => ⟨I1.kIn, ?_⟩) he
  obtain ⟨rfl, q⟩ := q
  refine run_hot (CX := CX0) (E := E0) (k := n) (N := [y]) (ps := [y]) (p := (a, oe)) (by rw [hK]; exact lk) (by rw [hK]; exact hcd) h5 (by rw [hK]; exact h3) hr hp (fun e s' z => z.elim) I1 r rfl fun Y hY hrY => ?_
  rw [eb]
  refine ⟨_, pss_one (ps_ret (pe_lst (flag_args (X := Y) (g := g) (D := D) (oe := oe) (a := a) (by rw [hY]; exact hK) (by rw [hY]; exact hM) hbn (by rw [hY]; rfl) (by rw [hY]; rfl) (by rw [hY]; exact .inl h6) h7 (by rw [hY]; exact List.mem_singleton.mpr rfl) (by rw [hY]; exact hK ▸ C) hz hfl cs bs es h9 hc))), ?_⟩
  refine ⟨rfl, ?_, fun T hT => q T hT⟩
  rw [List.length_map, hc.len]
  have h1000 : 1000 ≤ sizeLine := by decide
  omega
end
end PyD

set_option Elab.async false
set_option linter.all false
set_option maxRecDepth 100000
set_option maxHeartbeats 4000000
/-! Statements: raise, try; comprehensions given to a name. -/
namespace PyD
open PySem PySem.Spec L2
/-- an own class of errors -/
def ExcF (g : G) (x : Str) : Prop := ∃ (C : Addr) (bmB : List Value) (B newId initId : String), ExcBaseFacts B newId initId bmB ∧ PySem.W.excIn g.K C bmB newId = true ∧ g.mg x = some (.ref C) ∧ PySem.W.keepIn g.K (.ref C) = true ∧
  PySem.W.subIn g.K (.ref C) (.type "BaseException") = some true ∧ PySem.W.typeIn g.K (.ref C) = some (.type "type")
structure ExOk (g : G) (sub : Subs) (cc : CC) : Prop where
  ex : ∀ x ∈ cc.ex, ExcF g x
  flg : ∀ f cs, (f, cs) ∈ cc.fl → FlagOk g sub cc.bn f cs
  sub : ∀ x c b, sub x c = some b → ∀ xv cv, g.mg x = some xv → g.mg c = some cv → PySem.W.exmOne g.K xv cv = some b
section
variable {g : G} {W : Str → Sl → Hp → Prop} {X : Cx} {e a b o i : Expr} {pos : Pos} {st : Stmt} {sts rest : List Stmt} {cl : Oracle} {fns : Str → Option Fn} {gc : Consts} {n : Nat} {cc : CC} {sub : Subs} {f k : Env → Store → RS}
theorem ss_raise {c m : Str} {j : Nat} {p p2 p3 : Pos} (C : Sok g cl fns gc n W cc X) (E : ExOk g sub cc) (hg : isGl cc.sc c = true) (hp : plainN c = true) (hx : c ∈ cc.ex) :
    PS X (.Raise (some (.Call (.Name c p) [.Constant (.str m) j p2] [] p3)) none pos) (TSd g W fun ρ μ => .exc c ρ μ) := by
  obtain ⟨cv, bmB, B0, newId, initId, F, q, gC, kC, h1, h2⟩ := E.ex c hx
  refine (ps_raise (W := WXof g W) C.calm C.tk (pmk_own F (by rw [C.hK]; exact q) (by rw [C.hM]; exact gC) (by rw [C.hK]; exact kC) (raises_own (by rw [C.hK]; exact h1) (by rw [C.hK]; exact h2)) (C.gl hg) (plainI hp).1)).imp fun D σ H ⟨B, ρ, μ, ι, at0, q⟩ => ?_
  exact ⟨c, gC, rfl, q σ H ι Ext.refl at0⟩

/-! ### try -/
/-- the context of a try's body -/
theorem Sok.tr {V : WX} {pn : List (Addr × Obj)} {xe : Value → Shared → Prop} (C : Sok g cl fns gc n W cc X) (tk : Takes (X.tr pn xe) V) (hp : PassesOwn (model X.prog X.w) X.A X.env xe) : Sok g cl fns gc n (fun c σ H => ∀ cv, g.mg c = some cv → V cv none σ H) cc (X.tr pn xe) where
  calm := C.calm
  hN := C.hN
  nd := C.nd
  sc := C.sc
  hK := C.hK
  hM := C.hM
  room := C.room
  facts := C.facts
  bn := C.bn
  gc := C.gc
  tk := tk.imp fun cls d σ H ⟨c, h1, h2, h3⟩ => (by subst h2; exact h3 cls h1)
  fn := C.fn
  fs := C.fs
  kind := C.kind
  pass := hp
  hs := C.hs
  hf := C.hf
mutual
theorem k_ok : ∀ (p : PX) (e : Expr) (X : Cx), chkK p e = true → PE X e (TO g NoW (evO cl gc p))
  | .int i, e, X, h => by
    cases e with
    | Constant c k pos =>
      cases c with
      | int j =>
        simp only [chkK, decide_eq_true_eq] at h
        subst h
        exact TO.eq (se_const pe_int fun _ _ _ => .int i) fun ρ μ => by rw [evO]
      | _ => simp [chkK] at h
    | _ => simp [chkK] at h
  | .str i, e, X, h => by
    cases e with
    | Constant c k pos =>
      cases c with
      | str j =>
        simp only [chkK, decide_eq_true_eq] at h
        subst h
        exact TO.eq (se_const pe_str fun _ _ _ => .str i) fun ρ μ => by rw [evO]
      | _ => simp [chkK] at h
    | _ => simp [chkK] at h
  | .bl i, e, X, h => by
    cases e with
    | Constant c k pos =>
      cases c with
      | bool j =>
        simp only [chkK, decide_eq_true_eq] at h
        subst h
        exact TO.eq (se_const pe_bl fun _ _ _ => .bl i) fun ρ μ => by rw [evO]
      | _ => simp [chkK] at h
    | _ => simp [chkK] at h
  | .non, e, X, h => by
    cases e with
    | Constant c k pos =>
      cases c with
      | none => exact TO.eq (se_const pe_non fun _ _ _ => .non) fun ρ μ => by rw [evO]
      | _ => simp [chkK] at h
    | _ => simp [chkK] at h
  | .tup l, e, X, h => by
    cases e with
    | Tuple es k pos =>
      have h : chkKs l es = true := by rw [chkK] at h; exact h
      exact TO.eq (se_tup (ks_ok l es X h)) fun ρ μ => by rw [evO]
    | _ => simp [chkK] at h
  | .var _, _, _, h | .glb _, _, _, h | .bin _ _ _, _, _, h | .neg _, _, _, h | .not _, _, _, h | .cmp _ _ _, _, _, h | .chain _ _ _ _ _, _, _, h | .and _, _, _, h | .or _, _, _, h | .ite _ _ _, _, _, h | .call _ _, _, _, h
  | .bi _ _, _, _, h | .ty _ _, _, _, h | .isi _ _, _, _, h | .lst _, _, _, h | .dct _ _ _, _, _, h | .ix _ _, _, _, h | .slc _ _ _, _, _, h | .rev _, _, _, h | .lc _ _ _, _, _, h | .dc _ _ _ _ _, _, _, h | .new _, _, _, h
  | .mth _ _ _, _, _, h | .nil, _, _, h | .cons _ _, _, _, h | .gen _ _ _ _, _, _, h | .range _, _, _, h | .zip _ _, _, _, h | .enum _, _, _, h | .items _, _, _, h | .vals _, _, _, h | .rvd _, _, _, h | .over _, _, _, h => by simp [chkK] at h
theorem ks_ok : ∀ (p : PX) (es : List Expr) (X : Cx), chkKs p es = true → PA X es (TL g NoW (evL cl gc p))
  | .nil, [], X, _ => by
    have : (evL cl gc .nil) = fun _ μ => .ok [] μ := by (funext ρ μ; rw [evL])
    rw [this]
    exact sa_nil
  | .nil, _ :: _, X, h => by simp [chkKs] at h
  | .cons a r, [], X, h => by simp [chkKs] at h
  | .cons a r, e :: es, X, h => by
    simp only [chkKs, Bool.and_eq_true] at h
    have : (evL cl gc (.cons a r)) = fun ρ μ => (evO cl gc a ρ μ).dat.bind fun x μ => (evL cl gc r ρ μ).bind fun xs μ => .ok (x :: xs) μ := by (funext ρ μ; rw [evL])
    rw [this]
    refine sa_cons ?_ (k_ok a e X h.1).dat (ks_ok r es X h.2)
    have h1 := h.1
    cases e <;> first | rfl | (cases a <;> simp [chkK] at h1)
  | .var _, _, _, h | .int _, _, _, h | .str _, _, _, h | .bl _, _, _, h | .non, _, _, h | .tup _, _, _, h | .glb _, _, _, h | .bin _ _ _, _, _, h | .neg _, _, _, h | .not _, _, _, h | .cmp _ _ _, _, _, h | .chain _ _ _ _ _, _, _, h | .and _, _, _, h | .or _, _, _, h | .ite _ _ _, _, _, h | .call _ _, _, _, h
  | .bi _ _, _, _, h | .ty _ _, _, _, h | .isi _ _, _, _, h | .lst _, _, _, h | .dct _ _ _, _, _, h | .ix _ _, _, _, h | .slc _ _ _, _, _, h | .rev _, _, _, h | .lc _ _ _, _, _, h | .dc _ _ _ _ _, _, _, h | .new _, _, _, h
  | .mth _ _ _, _, _, h | .gen _ _ _ _, _, _, h | .range _, _, _, h | .zip _ _, _, _, h | .enum _, _, _, h | .items _, _, _, h | .vals _, _, _, h | .rvd _, _, _, h | .over _, _, _, h => by simp [chkKs] at h
end
mutual
theorem k_nx : ∀ (p : PX) (e : Expr) (ρ : Env) (μ : Store), chkK p e = true → (∃ d, evO cl gc p ρ μ = .ok (.v d) μ) ∨ evO cl gc p ρ μ = .bad
  | .int i, _, ρ, μ, _ => .inl ⟨_, by rw [evO]⟩
  | .str i, _, ρ, μ, _ => .inl ⟨_, by rw [evO]⟩
  | .bl i, _, ρ, μ, _ => .inl ⟨_, by rw [evO]⟩
  | .non, _, ρ, μ, _ => .inl ⟨_, by rw [evO]⟩
  | .tup l, e, ρ, μ, h => by
    cases e with
    | Tuple es k pos =>
      have h : chkKs l es = true := by rw [chkK] at h; exact h
      rw [evO]
      rcases ks_nx l es ρ μ h with ⟨ds, hd⟩ | hd
      · rw [hd]
        show (∃ d, (if ds.length ≤ sizeLine then R.ok (Out.v (.tup ds)) μ else .bad) = .ok (.v d) μ) ∨ (if ds.length ≤ sizeLine then R.ok (Out.v (.tup ds)) μ else .bad) = .bad
        split
        · exact .inl ⟨_, rfl⟩
        · exact .inr rfl
      · rw [hd]; exact .inr rfl
    | _ => simp [chkK] at h
  | .var _, _, _, _, h | .glb _, _, _, _, h | .bin _ _ _, _, _, _, h | .neg _, _, _, _, h | .not _, _, _, _, h | .cmp _ _ _, _, _, _, h | .chain _ _ _ _ _, _, _, _, h | .and _, _, _, _, h | .or _, _, _, _, h | .ite _ _ _, _, _, _, h | .call _ _, _, _, _, h
  | .bi _ _, _, _, _, h | .ty _ _, _, _, _, h | .isi _ _, _, _, _, h | .lst _, _, _, _, h | .dct _ _ _, _, _, _, h | .ix _ _, _, _, _, h | .slc _ _ _, _, _, _, h | .rev _, _, _, _, h | .lc _ _ _, _, _, _, h | .dc _ _ _ _ _, _, _, _, h | .new _, _, _, _, h
  | .mth _ _ _, _, _, _, h | .nil, _, _, _, h | .cons _ _, _, _, _, h | .gen _ _ _ _, _, _, _, h | .range _, _, _, _, h | .zip _ _, _, _, _, h | .enum _, _, _, _, h | .items _, _, _, _, h | .vals _, _, _, _, h | .rvd _, _, _, _, h | .over _, _, _, _, h => by simp [chkK] at h
theorem ks_nx : ∀ (p : PX) (es : List Expr) (ρ : Env) (μ : Store), chkKs p es = true → (∃ ds, evL cl gc p ρ μ = .ok ds μ) ∨ evL cl gc p ρ μ = .bad
  | .nil, _, ρ, μ, _ => .inl ⟨_, by rw [evL]⟩
  | .cons a r, [], ρ, μ, h => by simp [chkKs] at h
  | .cons a r, e :: es, ρ, μ, h => by
    simp only [chkKs, Bool.and_eq_true] at h
    rw [evL]
    rcases k_nx a e ρ μ h.1 with ⟨d, hd⟩ | hd
    · rw [hd]
      rcases ks_nx r es ρ μ h.2 with ⟨ds, hs⟩ | hs
      · show (∃ ds, ((evL cl gc r ρ μ).bind fun xs μ => R.ok (d :: xs) μ) = .ok ds μ) ∨ _
        rw [hs]; exact .inl ⟨_, rfl⟩
      · right
        show ((evL cl gc r ρ μ).bind fun xs μ => R.ok (d :: xs) μ) = .bad
        rw [hs]; rfl
    · rw [hd]; exact .inr rfl
  | .var _, _, _, _, h | .int _, _, _, _, h | .str _, _, _, _, h | .bl _, _, _, _, h | .non, _, _, _, h | .tup _, _, _, _, h | .glb _, _, _, _, h | .bin _ _ _, _, _, _, h | .neg _, _, _, _, h | .not _, _, _, _, h | .cmp _ _ _, _, _, _, h | .chain _ _ _ _ _, _, _, _, h | .and _, _, _, _, h | .or _, _, _, _, h | .ite _ _ _, _, _, _, h | .call _ _, _, _, _, h
  | .bi _ _, _, _, _, h | .ty _ _, _, _, _, h | .isi _ _, _, _, _, h | .lst _, _, _, _, h | .dct _ _ _, _, _, _, h | .ix _ _, _, _, _, h | .slc _ _ _, _, _, _, h | .rev _, _, _, _, h | .lc _ _ _, _, _, _, h | .dc _ _ _ _ _, _, _, _, h | .new _, _, _, _, h
  | .mth _ _ _, _, _, _, h | .gen _ _ _ _, _, _, _, h | .range _, _, _, _, h | .zip _ _, _, _, _, h | .enum _, _, _, _, h | .items _, _, _, _, h | .vals _, _, _, _, h | .rvd _, _, _, _, h | .over _, _, _, _, h => by simp [chkKs] at h
end
/-- a suite lets nothing out -/
theorem c_nx {suite : SX} {b' : List Stmt} {D : Ends} {H : Hp} {ι : List Addr} {ρ : Env} {μ : Store} {W : Str → Sl → Hp → Prop} (h : chkC suite b' = true) (q : postS g W D H ι (evS cl gc sub suite ρ μ)) : postS g NoW D H ι (evS cl gc sub suite ρ μ) := by
  unfold chkC at h
  split at h
  · rename_i e e' pos
    rw [evS] at q ⊢
    rw [evS] at q ⊢
    rcases k_nx (cl := cl) (gc := gc) e e' ρ μ h with ⟨d, hd⟩ | hd
    · rw [hd] at q ⊢; exact q
    · rw [hd] at q ⊢; exact q
  · cases h
theorem c_ok {suite : SX} {b' : List Stmt} (X : Cx) (h : chkC suite b' = true) : PSs X b' (TSd g NoW (evS cl gc sub suite)) ∧ ∃ b₀ r, b' = b₀ :: r := by
  unfold chkC at h
  split at h
  · rename_i e e' pos
    refine ⟨?_, _, _, rfl⟩
    exact TSsd.eq (ss_cons (ss_ret (k_ok e e' X h).dat) ss_nil) fun ρ μ => by rw [evS, evS]; congr 1
  · cases h
/-- the wish of the clauses -/
theorem many_ok (C : Sok g cl fns gc n W cc X) (E : ExOk g sub cc) : ∀ (hs : SX) (hds : List ExceptHandler), chkH hs cc hds = true →
    ∃ l, HdsOk X hds l ∧ ∀ (D : Ends) (B : List Addr) (Wout : WX), (∀ cls σ H, (∃ c, g.mg c = some cls ∧ W c σ H) → Wout cls none σ H) → ∀ (c : Str) (ρ : Env) (μ : Store) (σ : Sl) (H : Hp) (ι : List Addr), At (g.b B) σ H ρ ι μ → postS (g.b B) W D H ι (evH cl gc sub hs c ρ μ) → ∀ cv, g.mg c = some cv → wMany X.K Wout D l cv none σ H := by
  intro hs
  induction hs with
  | nil =>
    intro hds h
    cases hds with
    | cons _ _ => simp [chkH] at h
    | nil =>
      refine ⟨[], .nil, fun D B Wout hW c ρ μ σ H ι at0 q cv hcv => ?_⟩
      rw [evH] at q
      exact hW cv σ H ⟨c, hcv, q σ H ι Ext.refl at0⟩
  | hd c i suite rest _ ih =>
    intro hds h
    cases hds with
    | nil => simp [chkH] at h
    | cons hd hds =>
      obtain ⟨ty, nm, b', p'⟩ := hd
      cases i with
      | some _ => simp [chkH] at h
      | none =>
        cases nm with
        | some _ => cases ty <;> simp [chkH] at h
        | none =>
          cases ty with
          | none => simp [chkH] at h
          | some ty =>
            cases ty with
            | Name c' np =>
              simp only [chkH, Bool.and_eq_true, decide_eq_true_eq] at h
              obtain ⟨⟨⟨⟨⟨rfl, h2⟩, h3⟩, h4⟩, h5⟩, h6⟩ := h
              obtain ⟨l, hl, hw⟩ := ih hds h6
              obtain ⟨xv, _, _, _, _, _, _, gC, _⟩ := E.ex c h4
              obtain ⟨_, b₀, r, rfl⟩ := c_ok (g := g) (cl := cl) (gc := gc) (sub := sub) X h5
              refine ⟨(.ref xv, fun _ _ _ => TSd g NoW (evS cl gc sub suite)) :: l, .cons ⟨C.gl h2, (plainI h3).1, .inl (by rw [C.hM]; exact gC)⟩ (fun a oe cls d pn _ _ => (c_ok _ h5).1) hl, fun D B Wout hW x ρ μ σ H ι at0 q cv hcv => ?_⟩
              rw [evH] at q
              cases hsb : sub x c with
              | none => rw [hsb] at q; exact q.elim
              | some b =>
                rw [hsb] at q
                refine ⟨b, by rw [C.hK]; exact E.sub x c b hsb cv _ hcv gC, fun hb a ha => ?_, fun hb => ?_⟩
                · subst hb
                  refine ⟨B, ρ, μ, ι, at0, ?_⟩
                  have q : postS (g.b B) W D H ι (evS cl gc sub suite ρ μ) := q
                  exact c_nx h5 q
                · subst hb
                  exact hw D B Wout hW x ρ μ σ H ι at0 q cv hcv
            | _ => simp [chkH] at h
  | _ =>
    intro hds h
    cases hds <;> simp [chkH] at h

theorem ss_try {b' : List Stmt} {h₀ : ExceptHandler} {hds : List ExceptHandler} {hs : SX} {fb : Env → Store → RS} (C : Sok g cl fns gc n W cc X) (E : ExOk g sub cc) (hb : ∀ W' X', Sok g cl fns gc n W' cc X' → PSs X' b' (TSd g W' fb)) (hh : chkH hs cc (h₀ :: hds) = true) :
    PS X (.Try b' (h₀ :: hds) [] [] pos) (TSd g W fun ρ μ => match fb ρ μ with | .exc c ρ' μ' => evH cl gc sub hs c ρ' μ' | r => r) := by
  obtain ⟨l, hl, hw⟩ := many_ok (sub := sub) C E hs (h₀ :: hds) hh
  refine (ps_try_many (Wout := WXof g W) (tb := fun V => TSd g (fun c σ H => ∀ cv, g.mg c = some cv → V cv none σ H) fb) C.hs C.hf C.tk (fun V pn xe tk hp => hb _ _ (C.tr tk hp)) hl).imp fun D σ H ⟨B, ρ, μ, ι, at0, q⟩ => ⟨B, ρ, μ, ι, at0, ?_⟩
  simp only at q
  cases e : fb ρ μ with
  | exc c ρ' μ' =>
    rw [e] at q
    intro σ' H' ι' x at' cv hcv
    exact hw D B (WXof g W) (fun cls σ H ⟨c, h1, h2⟩ => ⟨c, h1, rfl, h2⟩) c ρ' μ' σ' H' ι' at' (postS.mono q x) cv hcv
  | nx ρ' μ' => rw [e] at q; exact q
  | rt d μ' => rw [e] at q; exact q
  | bk ρ' μ' => rw [e] at q; exact q
  | ct ρ' μ' => rw [e] at q; exact q
  | bad => rw [e] at q; exact q.elim

/-- except c as e: return f(e) -/
theorem ss_tryF {b' : List Stmt} {hds : List ExceptHandler} {c f : Str} {cs : List Str} {fb : Env → Store → RS} (C : Sok g cl fns gc n W cc X) (E : ExOk g sub cc) (hb : ∀ W' X', Sok g cl fns gc n W' cc X' → PSs X' b' (TSd g W' fb)) (hh : chkF cc c f cs hds = true) :
    PS X (.Try b' hds [] [] pos) (TSd g W fun ρ μ => match fb ρ μ with | .exc x ρ' μ' => evH cl gc sub (.flg c f cs .nil) x ρ' μ' | r => r) := by
  obtain ⟨np, nm, fp, ep, cp, rp, hp, rfl, h1, h2, h3, h4, h5, h6, h7, h8, h9⟩ := chkF_i hh
  obtain ⟨i, hi, ei⟩ := List.getElem_of_mem h7
  have ei' : X.N[i]? = some nm := by rw [C.hN, List.getElem?_eq_getElem hi, ei]
  have hln : X.env.scope.names.lookup nm = some .local := by rw [C.sc]; exact pureI h8
  obtain ⟨xv, _, _, _, _, _, _, gC, _⟩ := E.ex c h3
  have F := E.flg f cs h6
  refine (ps_try_as (i := i) (n := nm) (c := .ref xv) (Wout := WXof g W) (tb := fun V => TSd g (fun c σ H => ∀ cv, g.mg c = some cv → V cv none σ H) fb)
    (ts := fun a cls d D σ H => ∃ Dc bs, cls = .ref Dc ∧ d = none ∧ ExcC g.K Dc ∧ FlagC g Dc cs bs ∧ (∃ σ0 : Sl, σ = σ0.set i (some (.ref a))) ∧ ∀ T, H T = none → D.rt (.ref T) (upd H T (.lst (bs.map V.bl))))
    C.hs C.hf (by rw [C.hN]; exact C.nd) ei' hln ⟨C.gl h1, (plainI h2).1, .inl (by rw [C.hM]; exact gC)⟩ C.tk (fun V pn xe tk hp => hb _ _ (C.tr tk hp)) (fun a oe cls d pn hz hf => ?_)).imp fun D σ H ⟨B, ρ, μ, ι, at0, q⟩ => ⟨B, ρ, μ, ι, at0, ?_⟩
  · refine ⟨fun pins s σ H D I ⟨Dc, bs, e1, e2, hC, hF, ⟨σ0, eσ⟩, hD⟩ => ?_⟩
    have hlen : σ.length = X.N.length := I.len
    have hσ : σ[i]? = some (some (.ref a)) := by
      rw [eσ, List.length_set] at hlen
      rw [eσ, List.getElem?_set_self (by rw [hlen, C.hN]; exact hi)]
    subst e1 e2
    have hC' : ExcC (X.suite a ((a, oe) :: pn)).K Dc := by show ExcC X.K Dc; rw [C.hK]; exact hC
    exact (pss_one (ps_ret (pe_hot (X := X.suite a ((a, oe) :: pn)) (n := n) F C.bn C.hK C.hM ⟨C.room.dp, C.room.un⟩ (List.mem_cons_self ..) hC' hz hf rfl (C.gl h4) (plainI h5).1 hF
      (pa_cons (pe_var (X := X.suite a ((a, oe) :: pn)) ei' (.inl hln) (plainI h9).1 (plainI h9).2) pa_nil)))).run pins s σ H D I ⟨_, hσ, rfl, fun T hT => hD T hT⟩
  · simp only at q
    cases e : fb ρ μ with
    | exc x ρ' μ' =>
      rw [e] at q
      intro σ' H' ι' xx at' cv hcv
      have q : postS (g.b B) W D H' ι' (evH cl gc sub (.flg c f cs .nil) x ρ' μ') := postS.mono q xx
      rw [evH] at q
      cases hsb : sub x c with
      | none => rw [hsb] at q; exact q.elim
      | some b =>
        rw [hsb] at q
        refine ⟨b, by rw [C.hK]; exact E.sub x c b hsb cv _ hcv gC, fun hb a ha => ?_, fun hb => ?_⟩
        · subst hb
          have q : postS (g.b B) W D H' ι' (match flagsOf sub x cs with | some bs => .rt (.lst (bs.map .bl)) μ' | none => .bad) := q
          cases hfl : flagsOf sub x cs with
          | none => rw [hfl] at q; exact q.elim
          | some bs =>
            rw [hfl] at q
            obtain ⟨Dc, e1, hC, hF⟩ := F.2 x bs cv hfl hcv
            refine ⟨Dc, bs, e1, rfl, hC, hF, ⟨σ', rfl⟩, fun T hT => ?_⟩
            · have rl : RepL (g.b B) H' ι' (bs.map PyD.D.bl) (bs.map V.bl) := by
                clear q hF hfl
                induction bs with
                | nil => exact .nil
                | cons b bs ih => exact .cons (.bl b) ih
              exact end_lst (W := fun _ _ => False) (Q := D.rt) (postO.dat (r := .ok (.f (.lst (bs.map .bl))) μ') q) at'.m rl hT
        · subst hb
          have q : postS (g.b B) W D H' ι' (evH cl gc sub .nil x ρ' μ') := q
          rw [evH] at q
          exact ⟨x, hcv, rfl, q σ' H' ι' Ext.refl at'⟩
    | nx ρ' μ' => rw [e] at q; exact q
    | rt d μ' => rw [e] at q; exact q
    | bk ρ' μ' => rw [e] at q; exact q
    | ct ρ' μ' => rw [e] at q; exact q
    | bad => rw [e] at q; exact q.elim

/-! ### y = [..] -/
theorem comp_use {te ie : Expr} {ifs : List Expr} {gs : List Comprehension} {scope : Scope} {own : List (Str × Nat)} {pos' : Pos} {o : Option Bool} {tg : Tg} {vs : List Nat} {fit : Env → Store → R Src} {fi : Env → Store → R Bool}
    {f : Env → Acc → Store → R Acc} (hev : ∀ u, evalThenUse e X.env u = (do let _ ← comprehension e scope X.env pos' (newOf o) false (eval ie X.env) (some u); pure ()))
    (hc : X.calm = true) (hN : X.N.Nodup) (he : IsC e (⟨te, ie, ifs, 0⟩ :: gs)) (hi : PI X te ie (TIs g W fit)) (ok : BlkOk X.N X.env.scope scope own)
    (hblk : ∀ (s : Shared) (H : Hp) (C : Addr) (clo : List (Str × Addr)) (fp : List Addr), PG (X.blk s H scope (compEnvC scope clo C X.env) fp) te (TGd g tg) ∧ PTs (X.blk s H scope (compEnvC scope clo C X.env) fp) ifs (TB g NoW fi) ∧ StepOk g (X.blk s H scope (compEnvC scope clo C X.env) fp) e (⟨te, ie, ifs, 0⟩ :: gs) 1 o f vs)
    (hs : ∀ x, foldedSetIterable ie X.env x = pure x) (h0 : ∀ env g, gs[0]? = some g → g.is_async = 0 ∧ ∀ x, foldedSetIterable g.iter env x = pure x) :
    PUse X e (TO g W (compR o fit fi f tg (own.map (·.2)) vs)) := by
  intro i y py spos hy hyl hsw
  refine ⟨fun pins s σ H D I h => ?_⟩
  rw [exec_Assign_Name_used _ _ _ _ hsw, hev]
  have h : TO g W (compR o fit fi f tg (own.map (·.2)) vs) σ H (fun x H1 => gName i x σ H1 D.nx) := h
  refine wpAny_bind (wpAny_standAt (wpAny_bind (wpAny_bind (thn (comp_core (Qf := fun _ s' => SP X pins D .next s') hc hN I he hi ok hblk hs h0 h fun L cC s' m H' I' q hn fC => ?_) fun _ s' hq => wpAny_pure (wpAny_pure hq)))))
  show wpAny _ _ (assign (.Name y py) X.env (.ref L)) _ _ _
  refine wpAny_assign_Name (store_ok2 (v := V.ref L) I' hN hy (.inl hyl) rfl (fun s2 I2 ⟨u, sb, hu⟩ => ?_) (.inr hyl))
  obtain ⟨f0, f1, f2, f3, f4, f5⟩ := fC
  have hne : cC ≠ u := by
    rcases hu with z | z
    · rw [z]; exact f1
    · exact fun ez => f4 y u z ez.symm
  exact ⟨m, hn.sameBut sb hne, fun h3 sb3 => ⟨_, H', I2.turned (t' := s2.toks) (fun b w hb eb => (sb3.2 b hb).trans eb) f0 f1 f3 f4 f5, q⟩⟩
end
end PyD

set_option Elab.async false
set_option linter.all false
set_option maxRecDepth 100000
set_option maxHeartbeats 4000000
/-! Every statement: what the evaluator says, the model's run does. -/
namespace PyD
open PySem PySem.Spec L2
section
variable {g : G} {cl : Oracle} {fns : Str → Option Fn} {gc : Consts} {n : Nat} {sub : Subs}
theorem use_all {W : Str → Sl → Hp → Prop} {cc : CC} {X : Cx} {e : Expr} {gens' : List Comprehension} {scope : Scope} {o : Option Bool} {tg : Tg} {it ifs rest : PX} {own : List Nat} {emit : Env → Acc → Store → R Acc} {pos' : Pos} (C : Cok g cl fns gc n W cc X)
    (hit : PropI g cl fns gc n it) (hifs : PropF g cl fns gc n ifs) (hrest : PropS g cl fns gc n rest) (he : IsC e gens') (hG : chkG (.gen tg it ifs rest) cc (cc.inner scope) own gens' = true) (hb : blkC cc.N cc.sc scope (ownOf cc own) = true)
    (hev : ∀ ie, (firstIter gens' X.env = eval ie X.env) → (firstAsync gens' = false) → ∀ u, evalThenUse e X.env u = (do let _ ← comprehension e scope X.env pos' (newOf o) false (eval ie X.env) (some u); pure ()))
    (hlast : ∀ Xb, Cok g cl fns gc n NoW (cc.inner scope) Xb → Xb.xe = (fun _ _ => False) → StepOk g Xb e gens' gens'.length o emit []) :
    PUse X e (TO g W (compR o (evI cl gc it) (evIf cl gc ifs) (evC cl gc rest emit) tg own rest.gslots)) := by
  cases gens' with
  | nil => simp [chkG] at hG
  | cons g0 gs =>
    obtain ⟨t', i', f', a'⟩ := g0
    simp only [chkG, Bool.and_eq_true, decide_eq_true_eq] at hG
    obtain ⟨⟨⟨⟨⟨⟨h1, h4⟩, h5⟩, h6⟩, h7⟩, h8⟩, h9⟩ := hG
    subst h8
    have ok : BlkOk X.N X.env.scope scope (ownOf cc own) := by rw [C.hN, C.sc]; exact blkOk_by hb
    have hi := hit W cc X t' i' C h4 h5
    have := comp_use (g := g) (X := X) (W := W) (tg := tg) (vs := rest.gslots) (o := o) (fi := evIf cl gc ifs) (f := evC cl gc rest emit) (own := ownOf cc own) (hev i' rfl rfl) C.calm (by rw [C.hN]; exact C.nd) he hi ok
      (fun s H c clo fp => by
        have Cb := blk_cok C s H scope c clo fp
        exact ⟨sg_tg Cb tg t' h1, hifs NoW _ _ f' Cb h6 h7, hrest _ _ e _ 1 o own emit gs Cb rfl he rfl (by simp) h9 (hlast _ Cb rfl)⟩)
      (notSet_fold (chkI_notSet h4) X.env) (fun env g hg => let ⟨a, b⟩ := next_async h9 g hg; ⟨a, b env⟩)
    rw [own_map] at this
    exact this
theorem PUse.eq {W : Str → Sl → Hp → Prop} {X : Cx} {e : Expr} {f f' : Env → Store → R Out} (h : PUse X e (TO g W f)) (k : ∀ ρ μ, f' ρ μ = f ρ μ) : PUse X e (TO g W f') := by
  have : f' = f := by funext ρ μ; exact k ρ μ
  rw [this]
  exact h
theorem PUse.never {W : Str → Sl → Hp → Prop} {X : Cx} {e : Expr} {f : Env → Store → R Out} (h : ∀ ρ μ, f ρ μ = .bad) : PUse X e (TO g W f) := fun i y py spos h1 h2 h3 => ⟨fun pins s σ H D I ⟨B, ρ, μ, ι, at0, q⟩ => by rw [h] at q; exact q.elim⟩
theorem use_ok (hcl : ∀ f F xs μ, fns f = some F → xs.length ≠ F.ar → cl f xs μ = .bad) (p : PX) : ∀ W cc X e, Cok g cl fns gc n W cc X → chk p cc e = true → notComp e = false → PUse X e (TO g W (evO cl gc p)) := by
  induction p with
  | lc own elt gens _ _ =>
    intro W cc X e C h hn
    cases e with
    | ListComp elt' gens' scope pos =>
      simp only [chk, Bool.and_eq_true, decide_eq_true_eq] at h
      obtain ⟨⟨h1, h3⟩, h4⟩ := h
      cases gens with
      | gen tg it ifs rest =>
        refine PUse.eq (use_all (o := none) (emit := fun ρ acc μ => (evO cl gc elt ρ μ).dat.bind fun x μ => if acc.2.length < sizeLine then .ok (([], acc.2 ++ [x]) : Acc) μ else .bad) (pos' := firstIterPos gens' pos) C (all_ok hcl it).I (all_ok hcl ifs).F (all_ok hcl rest).S (.inl ⟨_, _, _, rfl⟩) h3 h1 (fun ie e1 e2 u => ?_) (fun Xb Cb hx => ?_)) fun ρ μ => ?_
        · show (do let _ ← comprehension _ _ _ _ _ (firstAsync gens') (firstIter gens' X.env) (some u)) = _
          rw [e1, e2]; rfl
        · exact step_lst (by simp) hx ((all_ok hcl elt).E NoW _ Xb elt' Cb h4).dat
        · rfl
      | nil => exact PUse.never fun ρ μ => rfl
      | _ => simp [chkG] at h3
    | _ => simp [chk] at h
  | dc own t k v gens _ _ _ =>
    intro W cc X e C h hn
    cases e with
    | DictComp k' v' gens' scope pos =>
      simp only [chk, Bool.and_eq_true, decide_eq_true_eq] at h
      obtain ⟨⟨⟨h1, h3⟩, h4⟩, h5⟩ := h
      cases gens with
      | gen tg it ifs rest =>
        refine PUse.eq (use_all (o := some t) (emit := fun ρ acc μ => (evO cl gc k ρ μ).dat.bind fun x μ => (evO cl gc v ρ μ).dat.bind fun y μ => match x.key t with | some k => if acc.1.length < sizeLine then .ok (putD acc.1 acc.2 k y) μ else .bad | none => .bad) (pos' := firstIterPos gens' pos) C (all_ok hcl it).I (all_ok hcl ifs).F (all_ok hcl rest).S (.inr ⟨_, _, _, _, rfl⟩) h3 h1 (fun ie e1 e2 u => ?_) (fun Xb Cb hx => ?_)) fun ρ μ => ?_
        · show (do let _ ← comprehension _ _ _ _ _ (firstAsync gens') (firstIter gens' X.env) (some u)) = _
          rw [e1, e2]; rfl
        · exact step_dct Cb.room (by simp) hx ((all_ok hcl k).E NoW _ Xb k' Cb h4).dat ((all_ok hcl v).E NoW _ Xb v' Cb h5).dat
        · rfl
      | nil => exact PUse.never fun ρ μ => rfl
      | _ => simp [chkG] at h3
    | _ => simp [chk] at h
  | new a ih =>
    intro W cc X e C h hn
    have h : (chk a cc e && newOk e) = true := by rw [chk] at h; exact h
    rw [Bool.and_eq_true] at h
    have hnc : ∀ f l, a ≠ .call f l := fun f l z => by
      subst z
      have h := h.1
      cases e <;> first | (simp [chk] at h; done) | (cases hn)
    refine PUse.eq ((ih W cc X e C h.1 hn).imp fun σ H Q ⟨B, ρ, μ, ι, at0, q⟩ => ⟨B, ρ, μ, ι, at0, new_end q⟩) fun ρ μ => ?_
    cases a with
    | call f l => exact absurd rfl (hnc f l)
    | _ => first | rfl | (conv => lhs; rw [evO])
  | _ =>
    intro W cc X e C h hn
    cases e <;> first | (cases hn; done) | (simp [chk] at h)
end
end PyD

set_option Elab.async false
set_option linter.all false
set_option maxRecDepth 100000
set_option maxHeartbeats 4000000
/-! Every statement. -/
namespace PyD
open PySem PySem.Spec L2
theorem sw_no {e : Expr} (h : notComp e = true) (t : Option Expr) (l : Nat) (env : PySem.Env) : swapsWith e t l env = pure false := by
  cases e <;> first | rfl | (cases h)
theorem sw_tup {e : Expr} {es : List Expr} {k : Nat} {p : Pos} (l : Nat) (env : PySem.Env) : swapsWithSole [.Tuple es k p] e l env = pure false := by
  cases e <;> rfl
theorem sw_sub {e o i : Expr} {p : Pos} (l : Nat) (env : PySem.Env) : swapsWithSole [.Subscript o i p] e l env = pure false := by
  cases e <;> rfl
theorem ss_no {e : Expr} {es : List Expr} {k : Nat} {p : Pos} (h : notTup e = true) (env : PySem.Env) : swappedStores [.Tuple es k p] e env = pure none := by
  cases e <;> first | rfl | (cases h)
theorem ss_many {e : Expr} {es : List Expr} {k : Nat} {p : Pos} (h : many es = true) (env : PySem.Env) : swappedStores [.Tuple es k p] e env = pure none := by
  unfold many at h
  split at h
  · rename_i a b c d r
    cases e with
    | Tuple vs k2 p2 =>
      unfold swappedStores
      have h1 : ((a :: b :: c :: d :: r).length == 2) = false := by simp
      have h2 : ((a :: b :: c :: d :: r).length == 3) = false := by simp
      simp only [h1, h2]
      rfl
    | _ => rfl
  · cases h
theorem ss_sub {e o i : Expr} {p : Pos} (env : PySem.Env) : swappedStores [.Subscript o i p] e env = pure none := by
  cases e <;> rfl
def isSt : Expr → Bool
  | .Starred _ _ => true
  | _ => false
theorem chk_notSt {p : PX} {cc : CC} {e : Expr} (h : chk p cc e = true) : isSt e = false := by
  cases e <;> first | rfl | exact (chk_star h).elim
theorem ss_two {x y : Str} {px py pt pt2 : Pos} {kt k2 : Nat} {a b : Expr} {env : PySem.Env} (hk : env.scope.kind = .function) (hx : env.scope.names.lookup x = some .local) (hy : env.scope.names.lookup y = some .local) (hxy : x ≠ y) (hl : (py.line == px.line) = true)
    (ha : isSt a = false) (hb : isSt b = false) (h1 : [a, b].all (foldedForSure 8) = false) (h2 : [a, b].all (constantsAlone 8) = false) :
    swappedStores [.Tuple [.Name x px, .Name y py] kt pt] (.Tuple [a, b] k2 pt2) env = pure (some [x, y]) := by
  have hbk : env.blockKind = .function := by unfold Env.blockKind; rw [hk]; rfl
  have kx : env.kindOf x = some .local := hx
  have ky : env.kindOf y = some .local := hy
  have hany : ∀ f : Expr → Bool, (∀ e, isSt e = false → f e = false) → [a, b].any f = false := fun f h => by simp [h a ha, h b hb]
  unfold swappedStores
  simp only [hbk]
  rw [hany _ (by intro e h; cases e <;> first | rfl | cases h)]
  have e2 : [x, y].eraseDups.length = 2 := by
    rw [List.eraseDups_cons]
    have : (y == x) = false := by
      rw [beq_eq_false_iff_ne]
      exact Ne.symm hxy
    simp [List.filter, this, List.eraseDups_cons]
  have hl' : py.line = px.line := by simpa using hl
  simp [kx, ky, hl', h1, h2, Expr.pos, e2]

/-- a comprehension on the right of a name: with an exchange of the stores or without -/
theorem sw_dec {e : Expr} (hn : notComp e = false) (hst : ∀ a b c d, e ≠ .SetComp a b c d) {x : Str} {p : Pos} (l : Nat) {env : PySem.Env} (hk : env.scope.kind = .function) :
    swapsWith e (some (.Name x p)) l env = pure false ∨ (swapsWith e (some (.Name x p)) l env = pure true ∧ env.scope.names.lookup x = some .local) := by
  have hbk : env.blockKind = .function := by unfold Env.blockKind; rw [hk]; rfl
  have key : ∀ (b : Bool), ((env.kindOf x == some .local) && b) = false ∨ (((env.kindOf x == some .local) && b) = true ∧ env.scope.names.lookup x = some .local) := fun b => by
    cases b with
    | false => left; rw [Bool.and_false]
    | true =>
      rw [Bool.and_true]
      show ((env.scope.names.lookup x == some .local)) = false ∨ _
      cases h : env.scope.names.lookup x with
      | none => left; rfl
      | some k =>
        have h' : env.kindOf x = some k := h
        cases k <;> first | (left; rfl) | (right; rw [h']; exact ⟨rfl, rfl⟩)
  cases e with
  | ListComp elt gens scope pos =>
    have e1 : swapsWith (.ListComp elt gens scope pos) (some (.Name x p)) l env = pure ((env.kindOf x == some .local) && ((p.line == pos.line) && !(scope.names.any fun (n, k) => n == x && (k == .local || k == .cell)))) := by
      unfold swapsWith
      simp only [hbk]
      show (pure (true && (env.kindOf x == some .local) && (p.line == pos.line) && !(scope.names.any fun (n, k) => n == x && (k == .local || k == .cell))) : Sem Bool) = _
      rw [Bool.true_and, Bool.and_assoc]
    rw [e1]
    rcases key ((p.line == pos.line) && !(scope.names.any fun (n, k) => n == x && (k == .local || k == .cell))) with h | ⟨h, h2⟩
    · left; rw [h]
    · right; rw [h]; exact ⟨rfl, h2⟩
  | DictComp kx vx gens scope pos =>
    have e1 : swapsWith (.DictComp kx vx gens scope pos) (some (.Name x p)) l env = pure ((env.kindOf x == some .local) && ((p.line == pos.line) && !(scope.names.any fun (n, k) => n == x && (k == .local || k == .cell)))) := by
      unfold swapsWith
      simp only [hbk]
      show (pure (true && (env.kindOf x == some .local) && (p.line == pos.line) && !(scope.names.any fun (n, k) => n == x && (k == .local || k == .cell))) : Sem Bool) = _
      rw [Bool.true_and, Bool.and_assoc]
    rw [e1]
    rcases key ((p.line == pos.line) && !(scope.names.any fun (n, k) => n == x && (k == .local || k == .cell))) with h | ⟨h, h2⟩
    · left; rw [h]
    · right; rw [h]; exact ⟨rfl, h2⟩
  | SetComp a b c d => exact absurd rfl (hst a b c d)
  | _ => cases hn
section
variable {g : G} {cl : Oracle} {fns : Str → Option Fn} {gc : Consts} {n : Nat} {sub : Subs} {cc : CC}
def StP (g : G) (cl : Oracle) (fns : Str → Option Fn) (gc : Consts) (n : Nat) (sub : Subs) (cc : CC) (s : SX) : Prop := ∀ W X st, Sok g cl fns gc n W cc X → chkS s cc st = true → PS X st (TSd g W (evS cl gc sub s))
def StsP (g : G) (cl : Oracle) (fns : Str → Option Fn) (gc : Consts) (n : Nat) (sub : Subs) (cc : CC) (s : SX) : Prop := ∀ W X sts, Sok g cl fns gc n W cc X → chkSs s cc sts = true → PSs X sts (TSd g W (evS cl gc sub s))
theorem sts_no {s : SX} (h : ∀ sts, chkSs s cc sts = false) : StsP g cl fns gc n sub cc s := fun _ _ sts _ hc => by rw [h] at hc; cases hc
theorem chk_notSetC {p : PX} {e : Expr} (h : chk p cc e = true) : ∀ a b c d, e ≠ .SetComp a b c d := fun a b c d z => by
  subst z
  induction p with
  | new q ih => simp only [chk, Bool.and_eq_true] at h; exact ih h.1
  | _ => simp [chk] at h
theorem set_ok (hcl : ∀ f F xs μ, fns f = some F → xs.length ≠ F.ar → cl f xs μ = .bad) (i : Nat) (p : PX) : StP g cl fns gc n sub cc (.set i p) := fun W X st C h => by
  cases st with
  | Assign ts e pos =>
    rw [chkS] at h
    split at h
    · rename_i x hx
      obtain ⟨px, rfl⟩ := oneName_i hx
      simp only [Bool.and_eq_true] at h
      obtain ⟨⟨h1, h2⟩, h3⟩ := h
      have he := (all_ok (n := n) (g := g) (gc := gc) hcl p).E W cc X e C.toCok h3
      cases hn : notComp e with
      | true => exact TSd.eq (ss_set C.toCok h1 h2 he.dat (sw_no hn _ _ _)) fun ρ μ => by rw [evS]
      | false =>
        rcases sw_dec hn (chk_notSetC h3) (x := x) (p := px) pos.line C.kind with hw | ⟨hw, hl⟩
        · exact TSd.eq (ss_set C.toCok h1 h2 he.dat hw) fun ρ μ => by rw [evS]
        · refine TSd.eq (ss_use C.toCok h1 ?_ (use_ok (g := g) (gc := gc) (n := n) hcl p W cc X e C.toCok h3 hn) hw) fun ρ μ => by rw [evS]
          unfold isPure
          rw [← C.sc, hl]
    · cases h
  | _ => simp [chkS] at h
theorem setT_ok (hcl : ∀ f F xs μ, fns f = some F → xs.length ≠ F.ar → cl f xs μ = .bad) (tg : Tg) (p : PX) : StP g cl fns gc n sub cc (.setT tg p) := fun W X st C h => by
  cases st with
  | Assign ts e pos =>
    rw [chkS] at h
    split at h
    · rename_i es k tp hx
      obtain rfl := oneTup_i hx
      simp only [Bool.and_eq_true] at h
      obtain ⟨⟨h1, h2⟩, h3⟩ := h
      exact TSd.eq (ss_setT C.toCok h1 ((all_ok (n := n) (g := g) (gc := gc) hcl p).E W cc X e C.toCok h2).dat ((Bool.or_eq_true _ _ ▸ h3 : notTup e = true ∨ many es = true).elim (fun z => ss_no z _) fun z => ss_many z _) (sw_tup _ _)) fun ρ μ => by rw [evS] <;> rfl
    · cases h
  | _ => simp [chkS] at h
theorem par_ok (hcl : ∀ f F xs μ, fns f = some F → xs.length ≠ F.ar → cl f xs μ = .bad) (i j : Nat) (p q : PX) : StP g cl fns gc n sub cc (.par i j p q) := fun W X st C h => by
  cases st with
  | Assign ts e pos =>
    rw [chkS] at h
    split at h
    · rename_i x px y py a' b' hx hy
      obtain ⟨k, tp, rfl⟩ := twoNames_i hx
      obtain ⟨k2, tp2, rfl⟩ := twoVals_i hy
      simp only [Bool.and_eq_true, decide_eq_true_eq, Bool.not_eq_true'] at h
      obtain ⟨⟨⟨⟨⟨⟨⟨⟨⟨⟨h1, h2⟩, h3⟩, h4⟩, h5⟩, h6⟩, h7⟩, h8⟩, h9⟩, h10⟩, h11⟩ := h
      have hpl : Plain [a', b'] := fun x hx => by
        rcases List.mem_cons.mp hx with z | z
        · rw [z]; exact chk_plain h7
        · rw [List.mem_singleton.mp z]; exact chk_plain h8
      exact TSd.eq (ss_par C.toCok h1 h2 h3 h5 h6 hpl ((all_ok (n := n) (g := g) (gc := gc) hcl p).E W cc X a' C.toCok h7).dat ((all_ok (n := n) (g := g) (gc := gc) hcl q).E W cc X b' C.toCok h8).dat
        (ss_two C.kind (by rw [C.sc]; exact pureI h5) (by rw [C.sc]; exact pureI h6) h4 h9 (chk_notSt h7) (chk_notSt h8) h10 h11)) fun ρ μ => by rw [evS]
    · cases h
  | _ => simp [chkS] at h
theorem setIx_ok (hcl : ∀ f F xs μ, fns f = some F → xs.length ≠ F.ar → cl f xs μ = .bad) (o i p : PX) : StP g cl fns gc n sub cc (.setIx o i p) := fun W X st C h => by
  cases st with
  | Assign ts e pos =>
    rw [chkS] at h
    split at h
    · rename_i o' i' hx
      obtain ⟨sp, rfl⟩ := oneSub_i hx
      simp only [Bool.and_eq_true] at h
      obtain ⟨⟨⟨h1, h2⟩, h3⟩, h4⟩ := h
      exact TSd.eq (ss_setIx C.toCok h3 ((all_ok (n := n) (g := g) (gc := gc) hcl p).E W cc X e C.toCok h4).dat ((all_ok (n := n) (g := g) (gc := gc) hcl o).E W cc X o' C.toCok h1).dat ((all_ok (n := n) (g := g) (gc := gc) hcl i).E W cc X i' C.toCok h2).dat (sw_sub _ _) (ss_sub _)) fun ρ μ => by rw [evS] <;> rfl
    · cases h
  | _ => simp [chkS] at h
theorem aug_ok (hcl : ∀ f F xs μ, fns f = some F → xs.length ≠ F.ar → cl f xs μ = .bad) (i : Nat) (op : Operator) (p : PX) : StP g cl fns gc n sub cc (.aug i op p) := fun W X st C h => by
  cases st with
  | AugAssign t op' e pos =>
    rw [chkS] at h
    split at h
    · rename_i x hx
      obtain ⟨sp, rfl⟩ := augName_i hx
      simp only [Bool.and_eq_true, decide_eq_true_eq] at h
      obtain ⟨⟨⟨⟨h1, rfl⟩, h3⟩, h4⟩, h5⟩ := h
      have hop : op = .Add ∨ op = .Sub := by cases op <;> first | exact .inl rfl | exact .inr rfl | cases h1
      exact TSd.eq (ss_aug hop C.toCok h3 h4 ((all_ok (n := n) (g := g) (gc := gc) hcl p).E W cc X e C.toCok h5).dat) fun ρ μ => by rw [evS] <;> rfl
    · cases h
  | _ => simp [chkS] at h
theorem augIx_ok (hcl : ∀ f F xs μ, fns f = some F → xs.length ≠ F.ar → cl f xs μ = .bad) (o i : PX) (op : Operator) (p : PX) : StP g cl fns gc n sub cc (.augIx o i op p) := fun W X st C h => by
  cases st with
  | AugAssign t op' e pos =>
    rw [chkS] at h
    split at h
    · rename_i o' i' hx
      obtain ⟨sp, rfl⟩ := augSub_i hx
      simp only [Bool.and_eq_true, decide_eq_true_eq] at h
      obtain ⟨⟨⟨⟨⟨h1, rfl⟩, h3⟩, h4⟩, h5⟩, h6⟩ := h
      have hop : op = .Add ∨ op = .Sub := by cases op <;> first | exact .inl rfl | exact .inr rfl | cases h1
      exact TSd.eq (ss_augIx hop C.toCok h3 ((all_ok (n := n) (g := g) (gc := gc) hcl o).E W cc X o' C.toCok h4).dat ((all_ok (n := n) (g := g) (gc := gc) hcl i).E W cc X i' C.toCok h5).dat ((all_ok (n := n) (g := g) (gc := gc) hcl p).E W cc X e C.toCok h6).dat) fun ρ μ => by rw [evS] <;> rfl
    · cases h
  | _ => simp [chkS] at h
/-- every statement, every block -/
theorem st_ok (hcl : ∀ f F xs μ, fns f = some F → xs.length ≠ F.ar → cl f xs μ = .bad) (E : ExOk g sub cc) (s : SX) : StP g cl fns gc n sub cc s ∧ StsP g cl fns gc n sub cc s := by
  have A : ∀ p, AllOk g cl fns gc n p := all_ok hcl
  induction s with
  | expr p =>
    refine ⟨fun W X st C h => ?_, sts_no fun _ => by simp [chkSs]⟩
    cases st with
    | Expr e pos =>
      simp only [chkS, Bool.and_eq_true] at h
      exact TSd.eq (ss_expr ((A p).E W cc X e C.toCok h.1).dat (sw_no h.2 _ _ _)) fun ρ μ => by rw [evS]
    | _ => simp [chkS] at h
  | set i p => exact ⟨set_ok hcl i p, sts_no fun _ => by simp [chkSs]⟩
  | setT tg p => exact ⟨setT_ok hcl tg p, sts_no fun _ => by simp [chkSs]⟩
  | par i j p q => exact ⟨par_ok hcl i j p q, sts_no fun _ => by simp [chkSs]⟩
  | setIx o i p => exact ⟨setIx_ok hcl o i p, sts_no fun _ => by simp [chkSs]⟩
  | aug i op p => exact ⟨aug_ok hcl i op p, sts_no fun _ => by simp [chkSs]⟩
  | augIx o i op p => exact ⟨augIx_ok hcl o i op p, sts_no fun _ => by simp [chkSs]⟩
  | cond c a b ha hb =>
    refine ⟨fun W X st C h => ?_, sts_no fun _ => by simp [chkSs]⟩
    cases st with
    | If c' a' b' pos =>
      simp only [chkS, Bool.and_eq_true] at h
      obtain ⟨⟨⟨h1, h2⟩, h3⟩, h4⟩ := h
      exact TSd.eq (ss_if ((A c).T W cc X c' C.toCok h1 h2) (ha.2 W X a' C h3) (hb.2 W X b' C h4)) fun ρ μ => by rw [evS]
    | _ => simp [chkS] at h
  | loop tg it body hb =>
    refine ⟨fun W X st C h => ?_, sts_no fun _ => by simp [chkSs]⟩
    cases st with
    | For t' i' b' o' pos =>
      simp only [chkS, Bool.and_eq_true] at h
      obtain ⟨⟨⟨⟨h0, h1⟩, h2⟩, h3⟩, h4⟩ := h
      obtain rfl := isNilS_i h0
      exact TSd.eq (ss_for C h1 ((A it).I W cc X t' i' C.toCok h2 h3) (hb.2 W X b' C h4) (notSet_fold (chkI_notSet h2) X.env)) fun ρ μ => by rw [evS] <;> rfl
    | _ => simp [chkS] at h
  | whil c body hb =>
    refine ⟨fun W X st C h => ?_, sts_no fun _ => by simp [chkSs]⟩
    cases st with
    | While c' b' o' pos =>
      simp only [chkS, Bool.and_eq_true] at h
      obtain ⟨⟨⟨h0, h1⟩, h2⟩, h3⟩ := h
      obtain rfl := isNilS_i h0
      exact TSd.eq (ss_while C ((A c).T W cc X c' C.toCok h1 h2) (hb.2 W X b' C h3)) fun ρ μ => by rw [evS]
    | _ => simp [chkS] at h
  | ret p =>
    refine ⟨fun W X st C h => ?_, sts_no fun _ => by simp [chkSs]⟩
    cases st with
    | Return e pos =>
      cases e with
      | none => simp [chkS] at h
      | some e =>
        simp only [chkS] at h
        exact TSd.eq (ss_ret ((A p).E W cc X e C.toCok h).dat) fun ρ μ => by rw [evS]
    | _ => simp [chkS] at h
  | retN =>
    refine ⟨fun W X st C h => ?_, sts_no fun _ => by simp [chkSs]⟩
    cases st with
    | Return e pos =>
      cases e with
      | none => exact TSd.eq ss_retN fun ρ μ => by rw [evS]
      | some e => simp [chkS] at h
    | _ => simp [chkS] at h
  | brk =>
    refine ⟨fun W X st C h => ?_, sts_no fun _ => by simp [chkSs]⟩
    cases st with
    | Break pos => exact TSd.eq ss_brk fun ρ μ => by rw [evS]
    | _ => simp [chkS] at h
  | cont =>
    refine ⟨fun W X st C h => ?_, sts_no fun _ => by simp [chkSs]⟩
    cases st with
    | Continue pos => exact TSd.eq ss_cont fun ρ μ => by rw [evS]
    | _ => simp [chkS] at h
  | pass =>
    refine ⟨fun W X st C h => ?_, sts_no fun _ => by simp [chkSs]⟩
    cases st with
    | Pass pos => exact TSd.eq ss_pass fun ρ μ => by rw [evS]
    | _ => simp [chkS] at h
  | raise c m =>
    refine ⟨fun W X st C h => ?_, sts_no fun _ => by simp [chkSs]⟩
    cases st with
    | Raise e f pos =>
      cases f with
      | some _ => simp [chkS] at h
      | none =>
        simp only [chkS, Bool.and_eq_true, decide_eq_true_eq] at h
        obtain ⟨⟨⟨h1, h2⟩, h3⟩, h4⟩ := h
        obtain ⟨p, j, p2, p3, rfl⟩ := raised_i h1
        exact TSd.eq (ss_raise C E h2 h3 h4) fun ρ μ => by rw [evS]
    | _ => simp [chkS] at h
  | tr body hs hb _ =>
    refine ⟨fun W X st C h => ?_, sts_no fun _ => by simp [chkSs]⟩
    cases st with
    | Try b' hds o' f' pos =>
      simp only [chkS, Bool.and_eq_true, Bool.not_eq_true', List.isEmpty_eq_false_iff] at h
      obtain ⟨⟨⟨⟨h1, h2⟩, h3⟩, h4⟩, h5⟩ := h
      obtain rfl := isNilS_i h1
      obtain rfl := isNilS_i h2
      rw [Bool.or_eq_true] at h4
      rcases h4 with h4 | h4
      · obtain ⟨c, f, cs, rfl, h4⟩ := chkFO_i h4
        exact TSd.eq (ss_tryF C E (fun W' X' C' => hb.2 W' X' b' C' h3) h4) fun ρ μ => by rw [evS] <;> rfl
      · cases hds with
        | nil => exact absurd rfl h5
        | cons h0 hds => exact TSd.eq (ss_try C E (fun W' X' C' => hb.2 W' X' b' C' h3) h4) fun ρ μ => by rw [evS] <;> rfl
    | _ => simp [chkS] at h
  | flg c f cs rest _ => exact ⟨fun W X st C h => by cases st <;> simp [chkS] at h, sts_no fun _ => by simp [chkSs]⟩
  | hd c i suite rest _ _ => exact ⟨fun W X st C h => by cases st <;> simp [chkS] at h, sts_no fun _ => by simp [chkSs]⟩
  | nil =>
    refine ⟨fun W X st C h => by cases st <;> simp [chkS] at h, fun W X sts C h => ?_⟩
    cases sts with
    | nil => exact TSsd.eq ss_nil fun ρ μ => by rw [evS]
    | cons _ _ => simp [chkSs] at h
  | cons s r hs hr =>
    refine ⟨fun W X st C h => by cases st <;> simp [chkS] at h, fun W X sts C h => ?_⟩
    cases sts with
    | nil => simp [chkSs] at h
    | cons st sts =>
      simp only [chkSs, Bool.and_eq_true] at h
      exact TSsd.eq (ss_cons (hs.1 W X st C h.1) (hr.2 W X sts C h.2)) fun ρ μ => by rw [evS]
end
end PyD

set_option Elab.async false
set_option linter.all false
set_option maxRecDepth 100000
set_option maxHeartbeats 4000000
/-! Defs: what the evaluator's run says, the model's calls do. -/
namespace PyD
open PySem PySem.Spec L2
/-- what stands around the defs: built-in names not bound, the defs, the classes of errors -/
structure Mod where
  bn : List Str
  fs : List Str
  ex : List Str
  fl : List (Str × List Str) := []
def Mod.cc (m : Mod) (N : List Str) (sc : Scope) : CC := { N := N, sc := sc, fnb := fun _ => true, bn := m.bn, fs := m.fs, ex := m.ex, fl := m.fl }
/-- a def stands as its term says -/
def DefF (K : PySem.W.Frag) (mg : Str → Option Value) (m : Mod) (f : Str) (F : Fn) : Prop :=
  ∃ (fa : Addr) (fd : FuncData) (ps N : List Str) (qual : Str) (st : Stmt), mg f = some (.ref fa) ∧ PySem.W.keepIn K (.ref fa) = true ∧ Binds K fd ps [] ∧ Fun K f qual st fa fd ∧ FnScope N ps (defScope st) ∧ N.length = F.sl ∧ ps.length = F.ar ∧
    chkSs F.body (m.cc N (defScope st)) (defBody st) = true
theorem run_ar {fns : Str → Option Fn} {gc : Consts} {sub : Subs} (n : Nat) (f : Str) (F : Fn) (xs : List D) (μ : Store) (h : fns f = some F) (hx : xs.length ≠ F.ar) : run fns gc sub n f xs μ = .bad := by
  cases n with
  | zero => rfl
  | succ n =>
    unfold run
    rw [h]
    exact if_neg hx
theorem start_rel {g : G} {H : Hp} {ι : List Addr} {N : List Str} {xs : List D} {vs : List V} {ar sl : Nat} (rl : RepL g H ι xs vs) (h1 : N.length = sl) (h2 : vs.length = ar) (h3 : ar ≤ sl) : SlotRel g (L2.start N vs) (xs.map some ++ List.replicate (sl - ar) none) H ι := by
  have hl := rl.length
  refine ⟨by unfold L2.start; simp; omega, fun i d e => ?_⟩
  unfold L2.start
  by_cases hi : i < xs.length
  · rw [List.getElem?_append_left (by simpa using hi), List.getElem?_map] at e
    rw [List.getElem?_append_left (by simp; omega), List.getElem?_map]
    cases q : xs[i]? with
    | none => rw [q] at e; cases e
    | some x =>
      rw [q] at e
      cases e
      obtain ⟨v, h4, h5⟩ := rl.get q
      exact ⟨v, by rw [h4]; rfl, h5⟩
  · rw [List.getElem?_append_right (by simp; omega), List.getElem?_replicate] at e
    split at e <;> cases e
/-- one def's promise, from those of all defs one call less deep -/
theorem def_fn {P : Program} {w : World} {K : PySem.W.Frag} {mg : Str → Option Value} {base : Heap} {g : G} {fns : Str → Option Fn} {gc : Consts} {sub : Subs} {m : Mod} {n : Nat} (hK : g.K = K) (hM : g.mg = mg) (ih : Facts P w K mg base g (run fns gc sub n) fns n)
    (hbn : ∀ b ∈ m.bn, mg b = none) (hgc : ∀ x d, gc x = some d → ∃ u v, mg x = some u ∧ RelV v u ∧ ∀ B H ι, Rep (g.b B) H ι d v) (hfs : ∀ f ∈ m.fs, (fns f).isSome = true)
    (hex : ∀ x ∈ m.ex, ExcF g x) (hfl : ∀ f cs, (f, cs) ∈ m.fl → FlagOk g sub m.bn f cs) (hsub : ∀ x c b, sub x c = some b → ∀ xv cv, g.mg x = some xv → g.mg c = some cv → PySem.W.exmOne g.K xv cv = some b)
    {f : Str} {F : Fn} (hF : fns f = some F) {fa : Addr} {fd : FuncData} {ps N : List Str} {qual : Str} {st : Stmt} (h4 : Fun K f qual st fa fd) (h5 : FnScope N ps (defScope st)) (h6 : N.length = F.sl) (h7 : ps.length = F.ar) (h8 : chkSs F.body (m.cc N (defScope st)) (defBody st) = true) :
    FnOk P w K mg base (L2.CX P w) (n + 2) fa fd ps (spD g (run fns gc sub (n + 1)) F.ar f) := by
  have hps : ps.length ≤ N.length := by have := congrArg List.length h5.pre; rw [List.length_take] at this; omega
  refine h4.okX h5 (fun vs H Q E z => by rw [h7]; exact z.1) fun cdv A outer s H vs Q E hr hsp => ?_
  obtain ⟨hl, B, xs, μ, ι, mr, rl, q⟩ := hsp
  have hx : xs.length = F.ar := by rw [rl.length]; exact hl
  generalize hX : cxOf (L2.CX P w) P w K mg base N qual (defScope st) fa cdv A outer s H E = X
  have C : Sok g (run fns gc sub n) fns gc n (fun c _ H' => ∀ cv, g.mg c = some cv → E cv none H') (m.cc N (defScope st)) X := by
    subst hX
    exact
      { calm := rfl, hN := rfl, nd := h5.nd, sc := rfl, hK := hK.symm, hM := hM.symm, room := hr, facts := ih, bn := fun b hb => by rw [hM]; exact hbn b hb
        gc := fun x d hxd => by rw [hM]; exact hgc x d hxd
        tk := (takes_of rfl rfl rfl rfl).imp fun cls d σ H ⟨c, e1, e2, e3⟩ => by subst e2; exact e3 cls e1
        fn := fun _ _ => rfl, fs := hfs, kind := h5.kind, pass := passes_of rfl, hs := rfl, hf := rfl }
  have ex : ExOk g sub (m.cc N (defScope st)) := ⟨hex, hfl, hsub⟩
  refine ⟨_, (st_ok (run_ar n) ex F.body).2 _ X (defBody st) C h8, B, xs.map some ++ List.replicate (F.sl - F.ar) none, μ, ι, ⟨start_rel rl h6 (by rw [← rl.length]; exact hx) (by omega), mr⟩, ?_⟩
  have q : post (fun H' ι' d v => Rep (g.b B) H' ι' d v) (g.b B) (fun c H' => ∀ cv, g.mg c = some cv → E cv none H') H ι (run fns gc sub (n + 1) f xs μ) Q := q
  unfold run at q
  rw [hF] at q
  have q : post (fun H' ι' d v => Rep (g.b B) H' ι' d v) (g.b B) (fun c H' => ∀ cv, g.mg c = some cv → E cv none H') H ι (if xs.length = F.ar then endOf (evS (run fns gc sub n) gc sub F.body (xs.map some ++ List.replicate (F.sl - F.ar) none) μ) else .bad) Q := q
  rw [if_pos hx] at q
  generalize evS (run fns gc sub n) gc sub F.body (xs.map some ++ List.replicate (F.sl - F.ar) none) μ = r at q ⊢
  cases r with
  | nx ρ' μ' => exact fun σ' H' ι' x a => q .non H' ι' x a.m .non
  | rt d μ' => exact q
  | bk ρ' μ' => exact (q : False).elim
  | ct ρ' μ' => exact (q : False).elim
  | exc c ρ' μ' => exact fun σ' H' ι' x a => q H' ι' x a.m
  | bad => exact q
theorem defs_ok {P : Program} {w : World} {K : PySem.W.Frag} {mg : Str → Option Value} {base : Heap} {g : G} {fns : Str → Option Fn} {gc : Consts} {sub : Subs} {m : Mod} (hK : g.K = K) (hM : g.mg = mg)
    (hd : ∀ f F, fns f = some F → DefF K mg m f F) (hbn : ∀ b ∈ m.bn, mg b = none) (hgc : ∀ x d, gc x = some d → ∃ u v, mg x = some u ∧ RelV v u ∧ ∀ B H ι, Rep (g.b B) H ι d v) (hfs : ∀ f ∈ m.fs, (fns f).isSome = true)
    (hex : ∀ x ∈ m.ex, ExcF g x) (hfl : ∀ f cs, (f, cs) ∈ m.fl → FlagOk g sub m.bn f cs) (hsub : ∀ x c b, sub x c = some b → ∀ xv cv, g.mg x = some xv → g.mg c = some cv → PySem.W.exmOne g.K xv cv = some b) : ∀ n, Facts P w K mg base g (run fns gc sub n) fns n := by
  intro n
  induction n with
  | zero =>
    intro f F hF
    obtain ⟨fa, fd, ps, N, qual, st, h1, h2, h3, _⟩ := hd f F hF
    exact ⟨fa, fd, ps, h1, h2, h3, ⟨fun vs H Q E ⟨_, B, xs, μ, ι, _, _, z⟩ => z.elim, fun A outer s H args us vs Q E _ _ _ _ ⟨_, B, xs, μ, ι, _, _, z⟩ => z.elim⟩⟩
  | succ n ih =>
    intro f F hF
    obtain ⟨fa, fd, ps, N, qual, st, h1, h2, h3, h4, h5, h6, h7, h8⟩ := hd f F hF
    exact ⟨fa, fd, ps, h1, h2, h3, def_fn hK hM ih hbn hgc hfs hex hfl hsub hF h4 h5 h6 h7 h8⟩
end PyD

set_option Elab.async false
set_option linter.all false
set_option maxRecDepth 100000
set_option maxHeartbeats 4000000
/-! From a law's defs to its promise. -/
namespace PyD
open PySem PySem.Spec L2
theorem def_mk {K : PySem.W.Frag} {h : Heap} {mg : Str → Option Value} {m : Mod} {f qual : Str} {F : Fn} {st : Stmt} {ps N : List Str} {fa : Addr} {oc : Value} {od an : Option Addr} {osl : Array (Option Value)} {kV doc pm cdv ct : Value} (X : K.In h) (G : h.Ns mainGlobals mg)
    (a : PySem.W.nsIn K mainGlobals f = some (some (.ref fa))) (l : K.lookup fa = some ⟨oc, od, .func (PySem.W.fnOf f qual (defArgs st) (defBody st) (defScope st) .none kV doc pm an cdv ct), osl⟩) (c : PySem.W.codeIn K cdv qual = true) (k : PySem.W.keepIn K (.ref fa) = true)
    (S : FnScope N ps (defScope st)) (h1 : N.length = F.sl) (h2 : ps.length = F.ar) (h3 : chkSs F.body (m.cc N (defScope st)) (defBody st) = true)
    (hb : ∀ (kV doc pm : Value) (an : Option Addr) (cdv ct : Value) (us : List Value), us.length = ps.length → bindArgs (PySem.W.fnOf f qual (defArgs st) (defBody st) (defScope st) .none kV doc pm an cdv ct) ⟨us, []⟩ = pure (ps.zip us)) : DefF K mg m f F :=
  ⟨fa, _, ps, N, qual, st, PySem.W.mg_of X G a, k, (fun_mk l c k).binds hb, fun_mk l c k, S, h1, h2, h3⟩
theorem all_nil' {α : Type} {P : α → Prop} : ∀ x ∈ ([] : List α), P x := fun _ h => by cases h
theorem all_cons' {α : Type} {P : α → Prop} {a : α} {l : List α} (h : P a) (t : ∀ x ∈ l, P x) : ∀ x ∈ a :: l, P x := fun x hx => (List.mem_cons.mp hx).elim (fun e => by rw [e]; exact h) (t x)
theorem lookup_mem {β : Type} {l : List (Str × β)} {k : Str} {v : β} (h : l.lookup k = some v) : (k, v) ∈ l := by
  induction l with
  | nil => cases h
  | cons p l ih =>
    rw [List.lookup_cons] at h
    split at h
    · rename_i e
      cases h
      rw [beq_iff_eq] at e
      exact List.mem_cons.mpr (.inl (by rw [e]))
    · exact List.mem_cons_of_mem _ (ih h)
/-- no list -/
def notList (p : Addr × Obj) : Bool := match p.2.cls with
  | .type s => match s == "list" with
    | true => false
    | false => true
  | _ => true
theorem notList_of {K : PySem.W.Frag} (h : K.all notList = true) {a : Addr} {o : Obj} (e : K.lookup a = some o) (hc : o.cls = .type "list") : False := by
  have hm : (a, o) ∈ K := by
    clear h
    induction K with
    | nil => cases e
    | cons p l ih =>
      rw [List.lookup_cons] at e
      split at e
      · rename_i e1
        cases e
        rw [beq_iff_eq] at e1
        exact List.mem_cons.mpr (.inl (by rw [e1]))
      · exact List.mem_cons_of_mem _ (ih e)
  have := List.all_eq_true.mp h _ hm
  unfold notList at this
  rw [hc] at this
  cases this
/-- what the law's def is asked -/
def spLaw (K : PySem.W.Frag) : Sp := fun vs H Q _ => ∃ (a : Addr) (ns : List Int), vs = [.ref a] ∧ Only H ∧ SqL K H a (ns.map V.int) ∧ ns.length ≤ 63 ∧ ∀ H', Q (.bl true) H'
theorem sp_of {K : PySem.W.Frag} {g : G} (hK : g.K = K) (hB : g.B = []) (nl : K.all notList = true) {cl : Oracle} (hl : ∀ ns : List Int, ns.length ≤ 63 → ∃ μ, cl "law" [.ref 0] [.ro (ns.map .int)] = .ok (.bl true) μ) : ∀ vs H Q E, spLaw K vs H Q E → spD g cl 1 "law" vs H Q E := by
  rintro vs H Q E ⟨a, ns, rfl, hO, hS, hn, q⟩
  obtain ⟨o, ha⟩ : ∃ o, H a = some (.frz o (.lst (ns.map V.int))) := by
    rcases hS with (h | h) | ⟨o, _, _, h, hc, _⟩
    · rcases hO a with z | ⟨o, xs, z⟩
      · rw [z] at h; cases h
      · rw [z] at h; cases h
    · exact h
    · exact (notList_of nl h hc).elim
  have rl : RepL (g.b []) H [a] (ns.map D.int) (ns.map V.int) := by
    clear ha hS hn
    induction ns with
    | nil => exact .nil
    | cons n ns ih => exact .cons (.int n) ih
  have mr : MemRel (g.b []) H [a] [.ro (ns.map D.int)] := ⟨rfl, by simp, fun b hb => (List.not_mem_nil hb).elim, fun b hb => (List.not_mem_nil hb).elim, fun n m e => by
    match n, e with
    | 0, e => cases e; exact ⟨a, rfl, .ro ha rl⟩⟩
  refine ⟨rfl, [], [.ref 0], [.ro (ns.map D.int)], [a], mr, .cons (.ref rfl) .nil, ?_⟩
  obtain ⟨μ, e⟩ := hl ns hn
  rw [e]
  intro v H' ι' _ _ r
  cases r
  exact q H'
end PyD

set_option Elab.async false
set_option linter.all false
set_option maxRecDepth 100000
set_option maxHeartbeats 400000
/-! The evaluator's rows as lemmas for simp. -/
namespace PyD
open PySem
/-- a value that simp's congruence leaves as it is: a later argument hangs on it -/
def Tag {α : Sort u} (_ : α) : Type := Unit
def R.bnd {α β : Type} (r : R α) (k : α → Store → R β) (_ : Tag k := ()) : R β := r.bind k
def R.thn {α : Type} (r : R α) (ρ : Env) (k : α → Store → RS) (_ : Tag k := ()) : RS := r.thenS ρ k
def RS.sq (r : RS) (k : Env → Store → RS) (_ : Tag k := ()) : RS := r.seq k
def loopLt {β : Type} (turn : D → β → Store → R β) (ds : List D) (b : β) (μ : Store) (_ : Tag turn := ()) : R β := loopL turn ds b μ
def loopT {β : Type} (src : Src) (turn : D → β → Store → R β) (b : β) (μ : Store) (_ : Tag turn := ()) : R β := loopS src turn b μ
def forLt (turn : D → Env → Store → RS) (ds : List D) (ρ : Env) (μ : Store) (_ : Tag turn := ()) : RS := forL turn ds ρ μ
def forT (src : Src) (turn : D → Env → Store → RS) (ρ : Env) (μ : Store) (_ : Tag turn := ()) : RS := forS src turn ρ μ
section
variable {cl : Oracle} {gc : Consts} {sub : Subs}
@[simp] theorem q_evO1 : evO cl gc (.var i) ρ μ = (match ρ[i]? with
    | some (some d) => .ok (.v d) μ
    | _ => .bad) := by rw [evO] <;> first | rfl | (intro h; cases h)
@[simp] theorem q_evO2 : evO cl gc (.int i) ρ μ = (.ok (.v (.int i)) μ) := by rw [evO] <;> first | rfl | (intro h; cases h)
@[simp] theorem q_evO3 : evO cl gc (.str x) ρ μ = (.ok (.v (.str x)) μ) := by rw [evO] <;> first | rfl | (intro h; cases h)
@[simp] theorem q_evO4 : evO cl gc (.bl b) ρ μ = (.ok (.v (.bl b)) μ) := by rw [evO] <;> first | rfl | (intro h; cases h)
@[simp] theorem q_evO5 : evO cl gc (.non) ρ μ = (.ok (.v .non) μ) := by rw [evO] <;> first | rfl | (intro h; cases h)
@[simp] theorem q_evO6 : evO cl gc (.glb x) ρ μ = (match gc x with
    | some d => .ok (.v d) μ
    | none => .bad) := by rw [evO] <;> first | rfl | (intro h; cases h)
@[simp] theorem q_evO7 : evO cl gc (.bin op a b) ρ μ = ((evO cl gc a ρ μ).dat.bnd fun x μ => (evO cl gc b ρ μ).dat.bnd fun y μ => R.ofOpt (binD op μ x y) μ) := by rw [evO] <;> first | rfl | (intro h; cases h)
@[simp] theorem q_evO8 : evO cl gc (.neg a) ρ μ = ((evO cl gc a ρ μ).dat.bnd fun x μ => match x with
    | .int i => .ok (.v (.int (-i))) μ
    | _ => .bad) := by rw [evO] <;> first | rfl | (intro h; cases h)
@[simp] theorem q_evO9 : evO cl gc (.not a) ρ μ = ((evO cl gc a ρ μ).dat.bool.bnd fun x μ => .ok (.v (.bl (!x))) μ) := by rw [evO] <;> first | rfl | (intro h; cases h)
@[simp] theorem q_evO10 : evO cl gc (.cmp op a b) ρ μ = ((evO cl gc a ρ μ).dat.bnd fun x μ => (evO cl gc b ρ μ).dat.bnd fun y μ => (R.ofOpt (cmpD op μ x y) μ).map fun b => .v (.bl b)) := by rw [evO] <;> first | rfl | (intro h; cases h)
@[simp] theorem q_evO11 : evO cl gc (.chain o1 o2 a b c) ρ μ = ((evO cl gc a ρ μ).dat.bnd fun x μ => (evO cl gc b ρ μ).dat.bnd fun y μ => (R.ofOpt (cmpD o1 μ x y) μ).bnd fun k μ =>
      if k then (evO cl gc c ρ μ).dat.bnd fun z μ => (R.ofOpt (cmpD o2 μ y z) μ).map fun b => .v (.bl b) else .ok (.v (.bl false)) μ) := by rw [evO] <;> first | rfl | (intro h; cases h)
@[simp] theorem q_evO12 : evO cl gc (.and l) ρ μ = (evAnd cl gc l ρ μ) := by rw [evO] <;> first | rfl | (intro h; cases h)
@[simp] theorem q_evO13 : evO cl gc (.or l) ρ μ = (evOr cl gc l ρ μ) := by rw [evO] <;> first | rfl | (intro h; cases h)
@[simp] theorem q_evO14 : evO cl gc (.ite c a b) ρ μ = ((evO cl gc c ρ μ).dat.bool.bnd fun k μ => if k then (evO cl gc a ρ μ).dat.map .v else (evO cl gc b ρ μ).dat.map .v) := by rw [evO] <;> first | rfl | (intro h; cases h)
@[simp] theorem q_evO15 : evO cl gc (.call f l) ρ μ = ((evL cl gc l ρ μ).bnd fun xs μ1 => (cl f xs μ1).bnd fun d μ2 => after μ1.length false d μ2) := by rw [evO] <;> first | rfl | (intro h; cases h)
@[simp] theorem q_evO16 : evO cl gc (.bi f l) ρ μ = ((evL cl gc l ρ μ).bnd fun xs μ => R.ofOpt (biD f μ xs) μ) := by rw [evO] <;> first | rfl | (intro h; cases h)
@[simp] theorem q_evO17 : evO cl gc (.ty f l) ρ μ = ((evL cl gc l ρ μ).bnd fun xs μ => R.ofOpt (tyD f μ xs) μ) := by rw [evO] <;> first | rfl | (intro h; cases h)
@[simp] theorem q_evO18 : evO cl gc (.isi a T) ρ μ = ((evO cl gc a ρ μ).dat.bnd fun x μ => (R.ofOpt (isiD μ x T) μ).map fun b => .v (.bl b)) := by rw [evO] <;> first | rfl | (intro h; cases h)
@[simp] theorem q_evO19 : evO cl gc (.tup l) ρ μ = ((evL cl gc l ρ μ).bnd fun xs μ => if xs.length ≤ sizeLine then .ok (.v (.tup xs)) μ else .bad) := by rw [evO] <;> first | rfl | (intro h; cases h)
@[simp] theorem q_evO20 : evO cl gc (.lst l) ρ μ = ((evL cl gc l ρ μ).bnd fun xs μ => if xs.length ≤ sizeLine then .ok (.f (.lst xs)) μ else .bad) := by rw [evO] <;> first | rfl | (intro h; cases h)
@[simp] theorem q_evO21 : evO cl gc (.dct t .nil .nil) ρ μ = (.ok (.f (.dct t [] [])) μ) := by rw [evO] <;> first | rfl | (intro h; cases h)
@[simp] theorem q_evO22 : evO cl gc (.ix a b) ρ μ = ((evO cl gc a ρ μ).dat.bnd fun x μ => (evO cl gc b ρ μ).dat.bnd fun y μ => (R.ofOpt (ixD μ x y) μ).map .v) := by rw [evO] <;> first | rfl | (intro h; cases h)
@[simp] theorem q_evO23 : evO cl gc (.slc a lo hi) ρ μ = ((evO cl gc a ρ μ).dat.bnd fun x μ => (partOf lo (evO cl gc lo ρ μ).dat).bnd fun l μ => (partOf hi (evO cl gc hi ρ μ).dat).bnd fun h μ => R.ofOpt (slcD μ x l h) μ) := by rw [evO] <;> first | rfl | (intro h; cases h)
@[simp] theorem q_evO24 : evO cl gc (.rev a) ρ μ = ((evO cl gc a ρ μ).dat.bnd fun x μ => match x with
    | .tup ds => .ok (.v (.tup ds.reverse)) μ
    | _ => .bad) := by rw [evO] <;> first | rfl | (intro h; cases h)
@[simp] theorem q_evO25 : evO cl gc (.lc own elt (.gen tg it ifs rest)) ρ μ = ((evI cl gc it ρ μ).bnd fun src μ =>
      ((loopT src (fun d acc μ => match asg tg μ d (wipeD (wipeD ρ own) (tg.slots ++ rest.gslots)) with
        | some ρ' => (evIf cl gc ifs ρ' μ).bnd fun k μ => if k then evC cl gc rest (fun ρ acc μ => (evO cl gc elt ρ μ).dat.bnd fun x μ => if acc.2.length < sizeLine then .ok ([], acc.2 ++ [x]) μ else .bad) ρ' acc μ else .ok acc μ
        | none => .bad) (([], []) : Acc) μ).noexc.map fun xs => .f (.lst xs.2))) := by rw [evO] <;> first | rfl | (intro h; cases h)
@[simp] theorem q_evO26 : evO cl gc (.dc own t key val (.gen tg it ifs rest)) ρ μ = ((evI cl gc it ρ μ).bnd fun src μ =>
      ((loopT src (fun d acc μ => match asg tg μ d (wipeD (wipeD ρ own) (tg.slots ++ rest.gslots)) with
        | some ρ' => (evIf cl gc ifs ρ' μ).bnd fun k μ => if k then evC cl gc rest (fun ρ acc μ => (evO cl gc key ρ μ).dat.bnd fun x μ => (evO cl gc val ρ μ).dat.bnd fun y μ =>
            match x.key t with
            | some k => if acc.1.length < sizeLine then .ok (putD acc.1 acc.2 k y) μ else .bad
            | none => .bad) ρ' acc μ else .ok acc μ
        | none => .bad) (([], []) : Acc) μ).noexc.map fun r => .f (.dct t r.1 r.2))) := by rw [evO] <;> first | rfl | (intro h; cases h)
@[simp] theorem q_evO27 : evO cl gc (.mth m o l) ρ μ = ((evO cl gc o ρ μ).dat.bnd fun x μ => if isMt m μ x then (evL cl gc l ρ μ).bnd fun xs μ => match mthX m x xs μ with
    | some (d, μ) => .ok (.v d) μ
    | none => .bad else .bad) := by rw [evO] <;> first | rfl | (intro h; cases h)
@[simp] theorem q_evL1 : evL cl gc (.nil) ρ μ = (.ok [] μ) := by rw [evL] <;> first | rfl | (intro h; cases h)
@[simp] theorem q_evL2 : evL cl gc (.cons a r) ρ μ = ((evO cl gc a ρ μ).dat.bnd fun x μ => (evL cl gc r ρ μ).bnd fun xs μ => .ok (x :: xs) μ) := by rw [evL] <;> first | rfl | (intro h; cases h)
@[simp] theorem q_evAnd1 : evAnd cl gc (.cons a .nil) ρ μ = ((evO cl gc a ρ μ).dat.map .v) := by rw [evAnd] <;> first | rfl | (intro h; cases h)
@[simp] theorem q_evAnd2 : evAnd cl gc (.cons a (.cons b r)) ρ μ = ((evO cl gc a ρ μ).dat.bool.bnd fun k μ => if k then evAnd cl gc (.cons b r) ρ μ else .ok (.v (.bl false)) μ) := by rw [evAnd] <;> first | rfl | (intro h; cases h)
@[simp] theorem q_evOr1 : evOr cl gc (.cons a .nil) ρ μ = ((evO cl gc a ρ μ).dat.map .v) := by rw [evOr] <;> first | rfl | (intro h; cases h)
@[simp] theorem q_evOr2 : evOr cl gc (.cons a (.cons b r)) ρ μ = ((evO cl gc a ρ μ).dat.bool.bnd fun k μ => if k then .ok (.v (.bl true)) μ else evOr cl gc (.cons b r) ρ μ) := by rw [evOr] <;> first | rfl | (intro h; cases h)
@[simp] theorem q_evIf1 : evIf cl gc (.nil) ρ μ = (.ok true μ) := by rw [evIf] <;> first | rfl | (intro h; cases h)
@[simp] theorem q_evIf2 : evIf cl gc (.cons a .nil) ρ μ = ((evO cl gc a ρ μ).dat.bool) := by rw [evIf] <;> first | rfl | (intro h; cases h)
@[simp] theorem q_evI1 : evI cl gc (.over a) ρ μ = ((evO cl gc a ρ μ).dat.bnd fun x μ => match x with
    | .lst ds => .ok (.its ds) μ
    | .tup ds => .ok (.its ds) μ
    | .ktup ds => .ok (.its ds) μ
    | .str z => .ok (.its (strChars z)) μ
    | .ref n => match μ[n]? with
      | some (.lst ds) => .ok (.live n ds.length) μ
      | some (.ro ds) => .ok (.live n ds.length) μ
      | _ => .bad
    | _ => .bad) := by rw [evI] <;> first | rfl | (intro h; cases h)
@[simp] theorem q_evI2 : evI cl gc (.zip a b) ρ μ = ((evO cl gc a ρ μ).dat.bnd fun x μ => (evO cl gc b ρ μ).dat.bnd fun y μ => match x, y with
    | .lst xs, .lst ys => .ok (.its (zipD xs ys)) μ
    | .tup xs, .tup ys => .ok (.its (zipD xs ys)) μ
    | _, _ => .bad) := by rw [evI] <;> first | rfl | (intro h; cases h)
@[simp] theorem q_evI3 : evI cl gc (.enum a) ρ μ = ((evO cl gc a ρ μ).dat.bnd fun x μ => match x with
    | .lst xs => .ok (.its (enumD 0 xs)) μ
    | .tup xs => .ok (.its (enumD 0 xs)) μ
    | _ => .bad) := by rw [evI] <;> first | rfl | (intro h; cases h)
@[simp] theorem q_evI4 : evI cl gc (.rvd a) ρ μ = ((evO cl gc a ρ μ).dat.bnd fun x μ => match x with
    | .lst xs => .ok (.its xs.reverse) μ
    | .tup xs => .ok (.its xs.reverse) μ
    | _ => .bad) := by rw [evI] <;> first | rfl | (intro h; cases h)
@[simp] theorem q_evC1 : evC cl gc (.nil) emit ρ b μ = (emit ρ b μ) := by rw [evC] <;> first | rfl | (intro h; cases h)
@[simp] theorem q_evC2 : evC cl gc (.gen tg it ifs rest) emit ρ b μ = ((evI cl gc it ρ μ).bnd fun src μ =>
      loopT src (fun d acc μ => match asg tg μ d (wipeD ρ (tg.slots ++ rest.gslots)) with
        | some ρ' => (evIf cl gc ifs ρ' μ).bnd fun k μ => if k then evC cl gc rest emit ρ' acc μ else .ok acc μ
        | none => .bad) b μ) := by rw [evC] <;> first | rfl | (intro h; cases h)
@[simp] theorem q_evS1 : evS cl gc sub (.expr e) ρ μ = ((evO cl gc e ρ μ).dat.thn ρ fun _ μ => .nx ρ μ) := by rw [evS] <;> first | rfl | (intro h; cases h)
@[simp] theorem q_evS2 : evS cl gc sub (.set i e) ρ μ = ((evO cl gc e ρ μ).dat.thn ρ fun d μ => .nx (ρ.set i (some d)) μ) := by rw [evS] <;> first | rfl | (intro h; cases h)
@[simp] theorem q_evS3 : evS cl gc sub (.setT tg e) ρ μ = ((evO cl gc e ρ μ).dat.thn ρ fun d μ => match asg tg μ d ρ with
    | some ρ' => .nx ρ' μ
    | none => .bad) := by rw [evS] <;> first | rfl | (intro h; cases h)
@[simp] theorem q_evS4 : evS cl gc sub (.par i j a b) ρ μ = ((evO cl gc a ρ μ).dat.thn ρ fun x μ => (evO cl gc b ρ μ).dat.thn ρ fun y μ => .nx ((ρ.set i (some x)).set j (some y)) μ) := by rw [evS] <;> first | rfl | (intro h; cases h)
@[simp] theorem q_evS5 : evS cl gc sub (.setIx o i e) ρ μ = ((evO cl gc e ρ μ).dat.thn ρ fun v μ => (evO cl gc o ρ μ).dat.thn ρ fun x μ => (evO cl gc i ρ μ).dat.thn ρ fun y μ => match setD x y v μ with
    | some μ => .nx ρ μ
    | none => .bad) := by rw [evS] <;> first | rfl | (intro h; cases h)
@[simp] theorem q_evS6 : evS cl gc sub (.aug i op e) ρ μ = (match ρ[i]? with
    | some (some x) => (evO cl gc e ρ μ).dat.thn ρ fun y μ => match x, y with
      | .int _, .int _ => match binD op μ x y with
        | some o => .nx (ρ.set i (some o.dat)) μ
        | none => .bad
      | _, _ => .bad
    | _ => .bad) := by rw [evS] <;> first | rfl | (intro h; cases h)
@[simp] theorem q_evS7 : evS cl gc sub (.augIx o i op e) ρ μ = ((evO cl gc o ρ μ).dat.thn ρ fun x μ => (evO cl gc i ρ μ).dat.thn ρ fun y μ => match gxD μ x y with
    | some old => (evO cl gc e ρ μ).dat.thn ρ fun v μ => match old, v with
      | .int _, .int _ => match binD op μ old v with
        | some new => match setD x y new.dat μ with
          | some μ => .nx ρ μ
          | none => .bad
        | none => .bad
      | _, _ => .bad
    | none => .bad) := by rw [evS] <;> first | rfl | (intro h; cases h)
@[simp] theorem q_evS8 : evS cl gc sub (.cond c a b) ρ μ = ((evO cl gc c ρ μ).dat.bool.thn ρ fun k μ => if k then evS cl gc sub a ρ μ else evS cl gc sub b ρ μ) := by rw [evS] <;> first | rfl | (intro h; cases h)
@[simp] theorem q_evS9 : evS cl gc sub (.loop tg it body) ρ μ = ((evI cl gc it ρ μ).thn ρ fun src μ => forT src (fun d ρ μ => match asg tg μ d ρ with
    | some ρ' => evS cl gc sub body ρ' μ
    | none => .bad) ρ μ) := by rw [evS] <;> first | rfl | (intro h; cases h)
@[simp] theorem q_evS10 : evS cl gc sub (.whil c body) ρ μ = (whileF (fun ρ μ => (evO cl gc c ρ μ).dat.bool) (fun ρ μ => evS cl gc sub body ρ μ) whileFuel ρ μ) := by rw [evS] <;> first | rfl | (intro h; cases h)
@[simp] theorem q_evS11 : evS cl gc sub (.ret e) ρ μ = ((evO cl gc e ρ μ).dat.thn ρ fun d μ => .rt d μ) := by rw [evS] <;> first | rfl | (intro h; cases h)
@[simp] theorem q_evS12 : evS cl gc sub (.retN) ρ μ = (.rt .non μ) := by rw [evS] <;> first | rfl | (intro h; cases h)
@[simp] theorem q_evS13 : evS cl gc sub (.brk) ρ μ = (.bk ρ μ) := by rw [evS] <;> first | rfl | (intro h; cases h)
@[simp] theorem q_evS14 : evS cl gc sub (.cont) ρ μ = (.ct ρ μ) := by rw [evS] <;> first | rfl | (intro h; cases h)
@[simp] theorem q_evS15 : evS cl gc sub (.pass) ρ μ = (.nx ρ μ) := by rw [evS] <;> first | rfl | (intro h; cases h)
@[simp] theorem q_evS16 : evS cl gc sub (.raise c u1) ρ μ = (.exc c ρ μ) := by rw [evS] <;> first | rfl | (intro h; cases h)
@[simp] theorem q_evS17 : evS cl gc sub (.tr body hs) ρ μ = (match evS cl gc sub body ρ μ with
    | .exc c ρ' μ' => evH cl gc sub hs c ρ' μ'
    | r => r) := by rw [evS] <;> first | rfl | (intro h; cases h)
@[simp] theorem q_evS18 : evS cl gc sub (.nil) ρ μ = (.nx ρ μ) := by rw [evS] <;> first | rfl | (intro h; cases h)
@[simp] theorem q_evS19 : evS cl gc sub (.cons s r) ρ μ = ((evS cl gc sub s ρ μ).sq fun ρ μ => evS cl gc sub r ρ μ) := by rw [evS] <;> first | rfl | (intro h; cases h)
@[simp] theorem q_evS20 : evS cl gc sub (.hd u1 u2 u3 u4) ρ μ = (.bad) := by rw [evS] <;> first | rfl | (intro h; cases h)
@[simp] theorem q_evS21 : evS cl gc sub (.flg u1 u2 u3 u4) ρ μ = (.bad) := by rw [evS] <;> first | rfl | (intro h; cases h)
@[simp] theorem q_evH1 : evH cl gc sub (.flg c u1 cs rest) x ρ μ = (match sub x c with
    | some true => match flagsOf sub x cs with
      | some bs => .rt (.lst (bs.map .bl)) μ
      | none => .bad
    | some false => evH cl gc sub rest x ρ μ
    | none => .bad) := by rw [evH] <;> first | rfl | (intro h; cases h)
@[simp] theorem q_evH2 : evH cl gc sub (.nil) x ρ μ = (.exc x ρ μ) := by rw [evH] <;> first | rfl | (intro h; cases h)
@[simp] theorem q_new_lst : evO cl gc (.new (.lst l)) ρ μ = (evO cl gc (.lst l) ρ μ).bind pushO := by rw [evO] <;> first | rfl | (intro _ _ h; cases h)
@[simp] theorem q_new_bi : evO cl gc (.new (.bi f l)) ρ μ = (evO cl gc (.bi f l) ρ μ).bind pushO := by rw [evO] <;> first | rfl | (intro _ _ h; cases h)
@[simp] theorem q_new_ty : evO cl gc (.new (.ty f l)) ρ μ = (evO cl gc (.ty f l) ρ μ).bind pushO := by rw [evO] <;> first | rfl | (intro _ _ h; cases h)
@[simp] theorem q_new_bin : evO cl gc (.new (.bin op a b)) ρ μ = (evO cl gc (.bin op a b) ρ μ).bind pushO := by rw [evO] <;> first | rfl | (intro _ _ h; cases h)
@[simp] theorem q_new_dct : evO cl gc (.new (.dct t k v)) ρ μ = (evO cl gc (.dct t k v) ρ μ).bind pushO := by rw [evO] <;> first | rfl | (intro _ _ h; cases h)
@[simp] theorem q_new_slc : evO cl gc (.new (.slc a lo hi)) ρ μ = (evO cl gc (.slc a lo hi) ρ μ).bind pushO := by rw [evO] <;> first | rfl | (intro _ _ h; cases h)
@[simp] theorem q_new_lc : evO cl gc (.new (.lc own e g)) ρ μ = (evO cl gc (.lc own e g) ρ μ).bind pushO := by rw [evO] <;> first | rfl | (intro _ _ h; cases h)
@[simp] theorem q_new_dc : evO cl gc (.new (.dc own t k v g)) ρ μ = (evO cl gc (.dc own t k v g) ρ μ).bind pushO := by rw [evO] <;> first | rfl | (intro _ _ h; cases h)
@[simp] theorem q_new_call : evO cl gc (.new (.call f l)) ρ μ = ((evL cl gc l ρ μ).bnd fun xs μ1 => (cl f xs μ1).bnd fun d μ2 => (after μ1.length true d μ2).bind pushO) := by rw [evO] <;> rfl
/-- what range walks -/
def rng1 (d : D) (μ : Store) : R Src := match d with
  | .int j => if ok62 j then .ok (.its (rangeD 0 j.toNat)) μ else .bad
  | _ => .bad
def rng2 (x y : D) (μ : Store) : R Src := match x, y with
  | .int i, .int j => if ok62 i && ok62 j then .ok (.its (rangeD i (j - i).toNat)) μ else .bad
  | _, _ => .bad
@[simp] theorem q_range1 : evI cl gc (.range (.cons a .nil)) ρ μ = (evO cl gc a ρ μ).dat.bind rng1 := by rw [evI] <;> rfl
@[simp] theorem q_range2 : evI cl gc (.range (.cons a (.cons b .nil))) ρ μ = ((evO cl gc a ρ μ).dat.bnd fun x μ => (evO cl gc b ρ μ).dat.bnd fun y μ => rng2 x y μ) := by rw [evI] <;> rfl
theorem rng1_ok {j : Int} (h : ok62 j = true) : rng1 (.int j) μ = .ok (.its (rangeD 0 j.toNat)) μ := by unfold rng1; simp only [h, if_true]
theorem rng2_ok {i j : Int} (h : ok62 i = true) (h2 : ok62 j = true) : rng2 (.int i) (.int j) μ = .ok (.its (rangeD i (j - i).toNat)) μ := by unfold rng2; simp only [h, h2, Bool.and_self, if_true]
@[simp] theorem isMt_append {d : D} : isMt .append μ d = isRefL μ d := rfl
@[simp] theorem mthX_append {d : D} {ds : List D} : mthX .append d ds μ = mthD .append d ds μ := rfl
@[simp] theorem isMt_pop {d : D} : isMt .pop μ d = isRefL μ d := rfl
@[simp] theorem mthX_pop {d : D} {ds : List D} : mthX .pop d ds μ = mthD .pop d ds μ := rfl
@[simp] theorem isMt_reverse {d : D} : isMt .reverse μ d = isRefL μ d := rfl
@[simp] theorem mthX_reverse {d : D} {ds : List D} : mthX .reverse d ds μ = mthD .reverse d ds μ := rfl
@[simp] theorem isMt_extend {d : D} : isMt .extend μ d = isRefL μ d := rfl
@[simp] theorem mthX_extend {d : D} {ds : List D} : mthX .extend d ds μ = mthD .extend d ds μ := rfl
@[simp] theorem isMt_get {d : D} : isMt .get μ d = (asDct μ d).isSome := rfl
@[simp] theorem mthX_get {d : D} {ds : List D} : mthX .get d ds μ = getMD d ds μ := rfl
end
end PyD

set_option Elab.async false
set_option linter.all false
set_option maxRecDepth 100000
set_option maxHeartbeats 4000000
/-! Plain lemmas about the evaluator. -/
namespace PyD
open PySem
/-! ### plain values -/
mutual
/-- no object of the store, no name of the module -/
def cln : D → Bool
  | .tup ds => clns ds
  | .lst ds => clns ds
  | .dct _ _ ds => clns ds
  | .ktup _ => false
  | .ref _ => false
  | .glb _ => false
  | _ => true
def clns : List D → Bool
  | [] => true
  | d :: ds => cln d && clns ds
end
mutual
/-- the same, no sequence or text longer than b -/
def pl (b : Nat) : D → Bool
  | .tup ds => decide (ds.length ≤ b) && pls b ds
  | .lst ds => decide (ds.length ≤ b) && pls b ds
  | .dct _ _ ds => pls b ds
  | .str x => decide (x.length ≤ b) && PyData.strOk x
  | .ktup _ => false
  | .ref _ => false
  | .glb _ => false
  | _ => true
def pls (b : Nat) : List D → Bool
  | [] => true
  | d :: ds => pl b d && pls b ds
end
theorem clns_iff {ds : List D} : clns ds = true ↔ ∀ d ∈ ds, cln d = true := by
  induction ds with
  | nil => simp [clns]
  | cons d ds ih => simp [clns, ih]
theorem pls_iff {b : Nat} {ds : List D} : pls b ds = true ↔ ∀ d ∈ ds, pl b d = true := by
  induction ds with
  | nil => simp [pls]
  | cons d ds ih => simp [pls, ih]
mutual
theorem cln_of {b : Nat} : ∀ {d : D}, pl b d = true → cln d = true
  | .tup ds, h => by simp only [pl, Bool.and_eq_true] at h; exact clns_of h.2
  | .lst ds, h => by simp only [pl, Bool.and_eq_true] at h; exact clns_of h.2
  | .dct _ _ ds, h => by simp only [pl] at h; exact clns_of h
  | .non, _ | .bl _, _ | .int _, _ | .str _, _ => by simp [cln]
  | .ktup _, h | .ref _, h | .glb _, h => by simp [pl] at h
theorem clns_of {b : Nat} : ∀ {ds : List D}, pls b ds = true → clns ds = true
  | [], _ => rfl
  | d :: ds, h => by
    simp only [pls, Bool.and_eq_true] at h
    simp only [clns, Bool.and_eq_true]
    exact ⟨cln_of h.1, clns_of h.2⟩
end
mutual
theorem pl_mono {b c : Nat} (hbc : b ≤ c) : ∀ {d : D}, pl b d = true → pl c d = true
  | .tup ds, h => by
    simp only [pl, Bool.and_eq_true, decide_eq_true_eq] at h ⊢
    exact ⟨by omega, pls_mono hbc h.2⟩
  | .lst ds, h => by
    simp only [pl, Bool.and_eq_true, decide_eq_true_eq] at h ⊢
    exact ⟨by omega, pls_mono hbc h.2⟩
  | .dct _ _ ds, h => by simp only [pl] at h ⊢; exact pls_mono hbc h
  | .str x, h => by
    simp only [pl, Bool.and_eq_true, decide_eq_true_eq] at h ⊢
    exact ⟨by omega, h.2⟩
  | .non, _ | .bl _, _ | .int _, _ => by simp [pl]
  | .ktup _, h | .ref _, h | .glb _, h => by simp [pl] at h
theorem pls_mono {b c : Nat} (hbc : b ≤ c) : ∀ {ds : List D}, pls b ds = true → pls c ds = true
  | [], _ => rfl
  | d :: ds, h => by
    simp only [pls, Bool.and_eq_true] at h ⊢
    exact ⟨pl_mono hbc h.1, pls_mono hbc h.2⟩
end
mutual
theorem cln_under {n : Nat} : ∀ {d : D}, cln d = true → d.under n = true
  | .tup ds, h => by simp only [cln] at h; simp only [D.under]; exact clns_under h
  | .lst ds, h => by simp only [cln] at h; simp only [D.under]; exact clns_under h
  | .dct _ _ ds, h => by simp only [cln] at h; simp only [D.under]; exact clns_under h
  | .non, _ | .bl _, _ | .int _, _ | .str _, _ => by simp [D.under]
  | .ktup _, h | .ref _, h | .glb _, h => by simp [cln] at h
theorem clns_under {n : Nat} : ∀ {ds : List D}, clns ds = true → underL n ds = true
  | [], _ => rfl
  | d :: ds, h => by
    simp only [clns, Bool.and_eq_true] at h
    simp only [underL, Bool.and_eq_true]
    exact ⟨cln_under h.1, clns_under h.2⟩
end
mutual
theorem cln_fz {k : Nat → Option D} : ∀ {d : D}, cln d = true → fzD k d = some d
  | .tup ds, h => by simp only [cln] at h; simp only [fzD]; rw [clns_fz h]; rfl
  | .lst ds, h => by simp only [cln] at h; simp only [fzD]; rw [clns_fz h]; rfl
  | .dct _ _ ds, h => by simp only [cln] at h; simp only [fzD]; rw [clns_fz h]; rfl
  | .non, _ | .bl _, _ | .int _, _ | .str _, _ => by simp [fzD]
  | .ktup _, h | .ref _, h | .glb _, h => by simp [cln] at h
theorem clns_fz {k : Nat → Option D} : ∀ {ds : List D}, clns ds = true → fzDs k ds = some ds
  | [], _ => rfl
  | d :: ds, h => by
    simp only [clns, Bool.and_eq_true] at h
    simp only [fzDs]
    rw [cln_fz h.1, clns_fz h.2]
end
/-! ### stores -/
def M.its : M → List D
  | .lst ds => ds
  | .ro ds => ds
  | .dct _ _ ds => ds
/-- every object holds plain values -/
def Cln (μ : Store) : Prop := ∀ m ∈ μ, clns m.its = true
theorem Cln.under {μ : Store} (c : Cln μ) (n : Nat) : (μ.take n).all (M.under n) = true := by
  rw [List.all_eq_true]
  intro m hm
  have := c m (List.mem_of_mem_take hm)
  cases m <;> exact clns_under this
theorem Cln.nil : Cln [] := fun _ h => by cases h
theorem Cln.app {μ ν : Store} (a : Cln μ) (b : Cln ν) : Cln (μ ++ ν) := fun m h => (List.mem_append.mp h).elim (a m) (b m)
theorem Cln.one {m : M} (h : clns m.its = true) : Cln [m] := fun x hx => by rw [List.mem_singleton.mp hx]; exact h
theorem Cln.set {μ : Store} (a : Cln μ) {m : M} (h : clns m.its = true) (n : Nat) : Cln (μ.set n m) := fun x hx => (List.mem_or_eq_of_mem_set hx).elim (a x) fun e => by rw [e]; exact h
theorem Cln.take {μ : Store} (a : Cln μ) (n : Nat) : Cln (μ.take n) := fun x hx => a x (List.mem_of_mem_take hx)
theorem Cln.get {μ : Store} (a : Cln μ) {n : Nat} {m : M} (h : μ[n]? = some m) : clns m.its = true := a m (List.mem_of_getElem? h)
theorem after_val {μ : Store} (c : Cln μ) {d : D} (h : cln d = true) (n0 : Nat) : after n0 false d μ = .ok (.v d) (μ.take n0) := by
  unfold after
  split
  · rw [List.take_of_length_le (by assumption)]
  · rw [if_pos (c.under n0), cln_fz h]
theorem after_ref {μ : Store} (c : Cln μ) {j n0 : Nat} {ds : List D} (h : μ[j]? = some (.lst ds)) (hj : n0 ≤ j) : after n0 false (.ref j) μ = .ok (.v (.lst ds)) (μ.take n0) := by
  have hl : j < μ.length := (List.getElem?_eq_some_iff.mp h).1
  unfold after
  rw [if_neg (by omega), if_pos (c.under n0)]
  have : fzD (fzR μ n0 4) (.ref j) = some (.lst ds) := by
    simp only [fzD, fzR]
    rw [if_neg (by omega), h]
    simp only []
    rw [clns_fz (show clns ds = true from c.get h)]
    rfl
  rw [this]
theorem after_keep {μ : Store} (c : Cln μ) {j n0 : Nat} {ds : List D} (h : μ[j]? = some (.lst ds)) (hj : n0 ≤ j) : after n0 true (.ref j) μ = .ok (.f (.lst ds)) (μ.take n0) := by
  have hl : j < μ.length := (List.getElem?_eq_some_iff.mp h).1
  unfold after
  rw [if_neg (by omega), if_pos (c.under n0)]
  simp only []
  rw [if_neg (by omega), h]
  simp only []
  rw [if_pos (clns_under (show clns ds = true from c.get h))]
/-! ### what comes out -/
def wp {α : Type} (r : R α) (Q : α → Store → Prop) (_ : Tag Q := ()) : Prop := match r with
  | .ok a μ => Q a μ
  | _ => False
def wpS (r : RS) (N : Env → Store → Prop) (T : D → Store → Prop) (_ : Tag N := ()) (_ : Tag T := ()) : Prop := match r with
  | .nx ρ μ => N ρ μ
  | .rt d μ => T d μ
  | _ => False
section
variable {α β : Type} {Q : β → Store → Prop} {P : α → Store → Prop}
@[simp] theorem wp_ok {a : α} {μ : Store} : wp (.ok a μ) P = P a μ := rfl
@[simp] theorem wp_bind {r : R α} {k : α → Store → R β} : wp (r.bind k) Q = wp r fun a μ => wp (k a μ) Q := by cases r <;> rfl
@[simp] theorem wp_bnd {r : R α} {k : α → Store → R β} : wp (R.bnd r k) Q = wp r fun a μ => wp (k a μ) Q := by cases r <;> rfl
@[simp] theorem wp_bad : wp .bad P = False := rfl
@[simp] theorem wp_exc {c : Str} {μ : Store} : wp (.exc c μ) P = False := rfl
@[simp] theorem wp_map {r : R α} {f : α → β} : wp (r.map f) Q = wp r fun a μ => Q (f a) μ := by cases r <;> rfl
@[simp] theorem wp_noexc {r : R α} : wp r.noexc P = wp r P := by cases r <;> rfl
def datP (o : Out) (P : D → Store → Prop) (μ : Store) (_ : Tag P := ()) : Prop := match o with
  | .v d => P d μ
  | .f (.lst ds) => P (.lst ds) μ
  | .f (.dct t ks ds) => P (.dct t ks ds) μ
  | .f (.ro _) => False
@[simp] theorem datP_v {d : D} {P : D → Store → Prop} {μ : Store} : datP (.v d) P μ = P d μ := rfl
@[simp] theorem datP_l {ds : List D} {P : D → Store → Prop} {μ : Store} : datP (.f (.lst ds)) P μ = P (.lst ds) μ := rfl
@[simp] theorem datP_d {t0 : Bool} {ks : List DK} {ds : List D} {P : D → Store → Prop} {μ : Store} : datP (.f (.dct t0 ks ds)) P μ = P (.dct t0 ks ds) μ := rfl
@[simp] theorem wp_dat {r : R Out} {P : D → Store → Prop} : wp r.dat P = wp r fun o μ => datP o P μ := by
  cases r with
  | ok o μ => cases o with
    | v d => rfl
    | f m => cases m <;> rfl
  | _ => rfl
@[simp] theorem wp_bool {r : R D} {P : Bool → Store → Prop} : wp r.bool P = wp r fun d μ => ∃ b, d = .bl b ∧ P b μ := by
  cases r with
  | ok d μ => cases d <;> simp [R.bool, R.bind, wp]
  | _ => rfl
@[simp] theorem wp_opt {o : Option α} {μ : Store} : wp (R.ofOpt o μ) P = ∃ a, o = some a ∧ P a μ := by cases o <;> simp [R.ofOpt, wp]
theorem wp_mono {r : R α} {P' : α → Store → Prop} (h : wp r P) (k : ∀ a μ, P a μ → P' a μ) : wp r P' := by cases r <;> first | exact k _ _ h | exact h
variable {N N' : Env → Store → Prop} {T T' : D → Store → Prop}
@[simp] theorem wpS_nx {ρ : Env} {μ : Store} : wpS (.nx ρ μ) N T = N ρ μ := rfl
@[simp] theorem wpS_rt {d : D} {μ : Store} : wpS (.rt d μ) N T = T d μ := rfl
@[simp] theorem wpS_bad : wpS .bad N T = False := rfl
@[simp] theorem wpS_seq {r : RS} {k : Env → Store → RS} : wpS (RS.sq r k) N T = wpS r (fun ρ μ => wpS (k ρ μ) N T) T := by cases r <;> rfl
@[simp] theorem wpS_then {r : R α} {ρ : Env} {k : α → Store → RS} : wpS (R.thn r ρ k) N T = wp r fun a μ => wpS (k a μ) N T := by cases r <;> rfl
@[simp] theorem wpS_ite {c : Bool} {a b : RS} : wpS (if c = true then a else b) N T = ((c = true → wpS a N T) ∧ (c = false → wpS b N T)) := by cases c <;> simp
theorem wpS_mono {r : RS} (h : wpS r N T) (k : ∀ ρ μ, N ρ μ → N' ρ μ) (k2 : ∀ d μ, T d μ → T' d μ) : wpS r N' T' := by
  cases r <;> first | exact k _ _ h | exact k2 _ _ h | exact h
/-- a turn of a loop without break and continue -/
theorem wpS_turn {r : RS} {k : Env → Store → RS} (h : wpS r (fun ρ μ => wpS (k ρ μ) N T) T) : wpS (r.turn k) N T := by cases r <;> first | exact h | exact (h : False).elim
theorem wp_end {r : RS} {Q : D → Store → Prop} (h : wpS r (fun _ μ => Q .non μ) Q) : wp (endOf r) Q := by cases r <;> exact h
end
/-- a loop over given items -/
theorem forL_inv0 {turn : D → Env → Store → RS} {T : D → Store → Prop} {N : Env → Store → Prop} : ∀ (ds : List D) (I : List D → Env → Store → Prop) (ρ : Env) (μ : Store), I ds ρ μ →
    (∀ d r ρ μ, I (d :: r) ρ μ → wpS (turn d ρ μ) (I r) T) → (∀ ρ μ, I [] ρ μ → N ρ μ) → wpS (forL turn ds ρ μ) N T
  | [], I, ρ, μ, h, _, e => by unfold forL; exact e ρ μ h
  | d :: r, I, ρ, μ, h, s, e => by
    unfold forL
    exact wpS_turn (wpS_mono (s d r ρ μ h) (fun ρ' μ' h' => forL_inv0 r I ρ' μ' h' s e) fun _ _ q => q)
theorem forL_inv {turn : D → Env → Store → RS} {T : D → Store → Prop} {N : Env → Store → Prop} : ∀ (ds : List D) (I : List D → Env → Store → Prop) (ρ : Env) (μ : Store), I ds ρ μ →
    (∀ d r ρ μ, I (d :: r) ρ μ → wpS (turn d ρ μ) (I r) T) → (∀ ρ μ, I [] ρ μ → N ρ μ) → wpS (forLt turn ds ρ μ) N T := forL_inv0
theorem loopL_inv0 {β : Type} {turn : D → β → Store → R β} {Q : β → Store → Prop} : ∀ (ds : List D) (I : List D → β → Store → Prop) (b : β) (μ : Store), I ds b μ →
    (∀ d r b μ, I (d :: r) b μ → wp (turn d b μ) (I r)) → (∀ b μ, I [] b μ → Q b μ) → wp (loopL turn ds b μ) Q
  | [], I, b, μ, h, _, e => by unfold loopL; exact e b μ h
  | d :: r, I, b, μ, h, s, e => by
    unfold loopL
    rw [wp_bind]
    exact wp_mono (s d r b μ h) fun b' μ' h' => loopL_inv0 r I b' μ' h' s e
theorem loopL_inv {β : Type} {turn : D → β → Store → R β} {Q : β → Store → Prop} : ∀ (ds : List D) (I : List D → β → Store → Prop) (b : β) (μ : Store), I ds b μ →
    (∀ d r b μ, I (d :: r) b μ → wp (turn d b μ) (I r)) → (∀ b μ, I [] b μ → Q b μ) → wp (loopLt turn ds b μ) Q := loopL_inv0
end PyD
namespace PyD
open PySem
theorem loopL_map0 {turn : D → Acc → Store → R Acc} {f : D → D} {μ : Store} : ∀ (ds acc : List D), (∀ d ∈ ds, ∀ a : List D, a.length < acc.length + ds.length → turn d ([], a) μ = .ok ([], a ++ [f d]) μ) → loopL turn ds (([], acc) : Acc) μ = .ok ([], acc ++ ds.map f) μ
  | [], acc, _ => by simp [loopL]
  | d :: r, acc, h => by
    unfold loopL
    rw [h d (by simp) acc (by simp)]
    show loopL turn r (([], acc ++ [f d]) : Acc) μ = _
    rw [loopL_map0 r (acc ++ [f d]) fun e he a ha => h e (by simp [he]) a (by simp at ha ⊢; omega)]
    simp
theorem loopL_map {turn : D → Acc → Store → R Acc} {f : D → D} {μ : Store} : ∀ (ds acc : List D), (∀ d ∈ ds, ∀ a : List D, a.length < acc.length + ds.length → turn d ([], a) μ = .ok ([], a ++ [f d]) μ) → loopLt turn ds (([], acc) : Acc) μ = .ok ([], acc ++ ds.map f) μ := loopL_map0
/-- a comprehension with a test -/
theorem loopL_filter0 {turn : D → Acc → Store → R Acc} {f : D → D} {p : D → Bool} {μ : Store} : ∀ (ds acc : List D), (∀ d ∈ ds, ∀ a : List D, a.length < acc.length + ds.length → turn d ([], a) μ = .ok ([], if p d then a ++ [f d] else a) μ) → loopL turn ds (([], acc) : Acc) μ = .ok ([], acc ++ (ds.filter p).map f) μ
  | [], acc, _ => by simp [loopL]
  | d :: r, acc, h => by
    unfold loopL
    rw [h d (by simp) acc (by simp)]
    show loopL turn r (([], if p d then acc ++ [f d] else acc) : Acc) μ = _
    cases q : p d with
    | true =>
      rw [if_pos rfl, loopL_filter0 r (acc ++ [f d]) fun e he a ha => h e (by simp [he]) a (by simp at ha ⊢; omega)]
      simp [q]
    | false =>
      rw [if_neg (by simp), loopL_filter0 r acc fun e he a ha => h e (by simp [he]) a (by simp at ha ⊢; omega)]
      simp [q]
theorem loopL_filter {turn : D → Acc → Store → R Acc} {f : D → D} {p : D → Bool} {μ : Store} : ∀ (ds acc : List D), (∀ d ∈ ds, ∀ a : List D, a.length < acc.length + ds.length → turn d ([], a) μ = .ok ([], if p d then a ++ [f d] else a) μ) → loopLt turn ds (([], acc) : Acc) μ = .ok ([], acc ++ (ds.filter p).map f) μ := loopL_filter0
theorem blsOf_map {α : Type} (p : α → Bool) (ds : List α) : blsOf (ds.map fun d => D.bl (p d)) = some (ds.map p) := by
  induction ds with
  | nil => rfl
  | cons d ds ih => simp [blsOf, ih]
theorem intsOf_map (ns : List Int) : intsOf (ns.map D.int) = some ns := by
  induction ns with
  | nil => rfl
  | cons d ds ih => simp [intsOf, ih]
theorem bi_allM {p : D → Bool} {ds : List D} {μ : Store} : biD .all μ [.lst (ds.map fun d => .bl (p d))] = some (.v (.bl (ds.all p))) := by
  simp only [biD, bl1, asLst, blsOf_map]
  simp [List.all_map]
theorem sl_le {n : Nat} (h : n ≤ 100000) : n ≤ sizeLine := by rw [sizeLine_eq]; omega
theorem sl_lt {n : Nat} (h : n < 100000) : n < sizeLine := by rw [sizeLine_eq]; omega
@[simp] theorem at_nat {α : Type} (xs : List α) (k : Nat) : L2.atI xs (k : Int) = xs[k]? := by
  unfold L2.atI L2.ixN
  by_cases h : k < xs.length
  · rw [if_pos (by omega), if_pos (by omega)]
    simp
  · rw [if_pos (by omega), if_neg (by omega), List.getElem?_eq_none (by omega)]
    rfl
@[simp] theorem at_0 {α : Type} (xs : List α) : L2.atI xs 0 = xs[0]? := at_nat xs 0
@[simp] theorem at_1 {α : Type} (xs : List α) : L2.atI xs 1 = xs[1]? := at_nat xs 1
@[simp] theorem at_2 {α : Type} (xs : List α) : L2.atI xs 2 = xs[2]? := at_nat xs 2
@[simp] theorem at_3 {α : Type} (xs : List α) : L2.atI xs 3 = xs[3]? := at_nat xs 3
theorem after_bl {n0 : Nat} {c : Bool} {μ : Store} (h : μ.length ≤ n0) : after n0 false (.bl c) μ = .ok (.v (.bl c)) μ := by
  unfold after; rw [if_pos h]
theorem after_same {n0 : Nat} {d : D} {μ : Store} (h : μ.length ≤ n0) : after n0 false d μ = .ok (.v d) μ := by
  unfold after; rw [if_pos h]
theorem all_id {α : Type} (p : α → Bool) (ds : List α) : (ds.map p).all id = ds.all p := by
  induction ds with
  | nil => rfl
  | cons d ds ih => simp
/-- a loop that goes on while p holds, and returns d0 else -/
theorem forL_all0 {turn : D → Env → Store → RS} {p : D → Bool} {I : Env → Prop} {d0 : D} {μ : Store} : ∀ (ds : List D) (ρ : Env), I ρ → (∀ d ∈ ds, ∀ ρ, I ρ → (p d = true → ∃ ρ', turn d ρ μ = .nx ρ' μ ∧ I ρ') ∧ (p d = false → turn d ρ μ = .rt d0 μ)) →
    (ds.all p = true → ∃ ρ', forL turn ds ρ μ = .nx ρ' μ ∧ I ρ') ∧ (ds.all p = false → forL turn ds ρ μ = .rt d0 μ)
  | [], ρ, hI, _ => ⟨fun _ => ⟨ρ, rfl, hI⟩, fun h => by simp at h⟩
  | d :: r, ρ, hI, h => by
    obtain ⟨h1, h2⟩ := h d (by simp) ρ hI
    unfold forL
    cases q : p d with
    | false =>
      refine ⟨fun z => by simp [q] at z, fun _ => ?_⟩
      rw [h2 q]; rfl
    | true =>
      obtain ⟨ρ', e, hI'⟩ := h1 q
      rw [e]
      obtain ⟨i1, i2⟩ := forL_all0 r ρ' hI' fun d' hd' => h d' (by simp [hd'])
      refine ⟨fun z => i1 (by simpa [q] using z), fun z => i2 (by simpa [q] using z)⟩
theorem forL_all {turn : D → Env → Store → RS} {p : D → Bool} {I : Env → Prop} {d0 : D} {μ : Store} : ∀ (ds : List D) (ρ : Env), I ρ → (∀ d ∈ ds, ∀ ρ, I ρ → (p d = true → ∃ ρ', turn d ρ μ = .nx ρ' μ ∧ I ρ') ∧ (p d = false → turn d ρ μ = .rt d0 μ)) →
    (ds.all p = true → ∃ ρ', forLt turn ds ρ μ = .nx ρ' μ ∧ I ρ') ∧ (ds.all p = false → forLt turn ds ρ μ = .rt d0 μ) := forL_all0
@[simp] theorem seq_nx {ρ : Env} {μ : Store} {k : Env → Store → RS} : RS.sq (.nx ρ μ) k = k ρ μ := rfl
@[simp] theorem seq_rt {d : D} {μ : Store} {k : Env → Store → RS} : RS.sq (.rt d μ) k = .rt d μ := rfl
@[simp] theorem seq_exc {c : Str} {ρ : Env} {μ : Store} {k : Env → Store → RS} : RS.sq (.exc c ρ μ) k = .exc c ρ μ := rfl
@[simp] theorem seq_bad {k : Env → Store → RS} : RS.sq .bad k = .bad := rfl
@[simp] theorem seq0_nx {ρ : Env} {μ : Store} {k : Env → Store → RS} : RS.seq (.nx ρ μ) k = k ρ μ := rfl
@[simp] theorem seq0_rt {d : D} {μ : Store} {k : Env → Store → RS} : RS.seq (.rt d μ) k = .rt d μ := rfl
@[simp] theorem seq0_exc {c : Str} {ρ : Env} {μ : Store} {k : Env → Store → RS} : RS.seq (.exc c ρ μ) k = .exc c ρ μ := rfl
@[simp] theorem seq0_bad {k : Env → Store → RS} : RS.seq .bad k = .bad := rfl
theorem seq_all {turn : D → Env → Store → RS} {p : D → Bool} {I : Env → Prop} {d0 : D} {μ : Store} (ds : List D) (ρ : Env) (k : Env → Store → RS) (X : RS → Prop) (hI : I ρ) (h : ∀ d ∈ ds, ∀ ρ, I ρ → (p d = true → ∃ ρ', turn d ρ μ = .nx ρ' μ ∧ I ρ') ∧ (p d = false → turn d ρ μ = .rt d0 μ))
    (h1 : ds.all p = true → ∀ ρ', I ρ' → X (k ρ' μ)) (h2 : ds.all p = false → X (.rt d0 μ)) : X ((forLt turn ds ρ μ).sq k) := by
  obtain ⟨a1, a2⟩ := forL_all ds ρ hI h
  cases q : ds.all p with
  | true =>
    obtain ⟨ρ', e, hI'⟩ := a1 q
    rw [e]
    exact h1 q ρ' hI'
  | false => rw [a2 q]; exact h2 q
/-! ### evaluation from the left -/
section
variable {α β : Type} {a : α} {μ : Store} {r r' : R α} {k : α → Store → R β} {ks : α → Store → RS} {c : Str} {ρ : Env} {s s' : RS} {kk : Env → Store → RS} {P : α → Store → Prop}
@[simp] theorem bnd_ok : R.bnd (α := α) (β := β) (.ok a μ) k = k a μ := rfl
@[simp] theorem bnd_exc : R.bnd (α := α) (β := β) (.exc c μ) k = .exc c μ := rfl
@[simp] theorem bnd_bad : R.bnd (α := α) (β := β) .bad k = .bad := rfl
@[simp] theorem thn_ok : R.thn (α := α) (.ok a μ) ρ ks = ks a μ := rfl
@[simp] theorem thn_exc : R.thn (α := α) (.exc c μ) ρ ks = .exc c ρ μ := rfl
@[simp] theorem thn_bad : R.thn (α := α) .bad ρ ks = .bad := rfl
@[simp] theorem loopT_its {t : D → β → Store → R β} {ds : List D} {b : β} : loopT (.its ds) t b μ = loopLt t ds b μ := rfl
@[simp] theorem forT_its {t : D → Env → Store → RS} {ds : List D} : forT (.its ds) t ρ μ = forLt t ds ρ μ := rfl
@[simp] theorem forT_live {t : D → Env → Store → RS} {n N : Nat} : forT (.live n N) t ρ μ = forN t n N N ρ μ := rfl
@[simp] theorem bind_ok : (R.ok a μ).bind k = k a μ := rfl
@[simp] theorem bind_exc : (R.exc c μ : R α).bind k = .exc c μ := rfl
@[simp] theorem bind_bad : (R.bad : R α).bind k = .bad := rfl
@[simp] theorem map_ok {f : α → β} : (R.ok a μ).map f = .ok (f a) μ := rfl
@[simp] theorem map_exc {f : α → β} : (R.exc c μ : R α).map f = .exc c μ := rfl
@[simp] theorem map_bad {f : α → β} : (R.bad : R α).map f = .bad := rfl
@[simp] theorem then_ok : (R.ok a μ).thenS ρ ks = ks a μ := rfl
@[simp] theorem then_exc : (R.exc c μ : R α).thenS ρ ks = .exc c ρ μ := rfl
@[simp] theorem then_bad : (R.bad : R α).thenS ρ ks = .bad := rfl
@[simp] theorem turn_nx : RS.turn (.nx ρ μ) kk = kk ρ μ := rfl
@[simp] theorem turn_rt {d : D} : RS.turn (.rt d μ) kk = .rt d μ := rfl
@[simp] theorem qdat_v {d : D} : R.dat (.ok (.v d) μ) = .ok d μ := rfl
@[simp] theorem dat_l {ds : List D} : R.dat (.ok (.f (.lst ds)) μ) = .ok (.lst ds) μ := rfl
@[simp] theorem dat_d {t : Bool} {ks : List DK} {ds : List D} : R.dat (.ok (.f (.dct t ks ds)) μ) = .ok (.dct t ks ds) μ := rfl
@[simp] theorem dat_e : R.dat (.exc c μ) = .exc c μ := rfl
@[simp] theorem bool_ok {b : Bool} : R.bool (.ok (.bl b) μ) = .ok b μ := rfl
@[simp] theorem opt_some : R.ofOpt (some a) μ = .ok a μ := rfl
@[simp] theorem noexc_ok : R.noexc (.ok a μ) = .ok a μ := rfl
@[simp] theorem end_rt {d : D} : endOf (.rt d μ) = .ok d μ := rfl
@[simp] theorem end_nx : endOf (.nx ρ μ) = .ok .non μ := rfl
@[simp] theorem end_exc : endOf (.exc c ρ μ) = .exc c μ := rfl
@[simp] theorem loopS_its {t : D → β → Store → R β} {ds : List D} {b : β} : loopS (.its ds) t b μ = loopL t ds b μ := rfl
@[simp] theorem forS_its {t : D → Env → Store → RS} {ds : List D} : forS (.its ds) t ρ μ = forL t ds ρ μ := rfl
end
/-! ### comprehensions -/
/-- no exception goes out of r -/
theorem wp_endOf {r : RS} {Q : D → Store → Prop} : wp (endOf r) Q = wpS r (fun _ μ => Q .non μ) Q := by
  cases r <;> simp [endOf, wp, wpS]
@[simp] theorem wp_endS {s : RS} {k : Env → Store → RS} {Q : D → Store → Prop} : wp (endOf (RS.sq s k)) Q = wpS s (fun ρ μ => wp (endOf (k ρ μ)) Q) Q := by
  rw [wp_endOf, wpS_seq]
  cases s <;> simp [wpS, wp_endOf]
theorem okB_wp {r : R D} {μ : Store} : (∃ c : Bool, r = .ok (.bl c) μ) ↔ wp r fun d μ' => (∃ c, d = .bl c) ∧ μ' = μ := by
  cases r with
  | ok d μ' => simp [wp]
  | _ => simp [wp]
theorem loopL_wpI0 {turn : D → Acc → Store → R Acc} {Q : Acc → Store → Prop} (I : Store → Prop) (P : D → D → Prop) : ∀ (ds acc : List D) (μ : Store), I μ →
    (∀ d ∈ ds, ∀ (a : List D) (μ : Store), I μ → a.length < acc.length + ds.length → wp (turn d (([], a) : Acc) μ) fun b μ' => I μ' ∧ ∃ x, P d x ∧ b = ([], a ++ [x])) →
    (∀ xs μ', I μ' → (∀ x ∈ xs, ∃ d ∈ ds, P d x) → xs.length = ds.length → Q ([], acc ++ xs) μ') → wp (loopL turn ds (([], acc) : Acc) μ) Q
  | [], acc, μ, hI, _, hQ => by
    unfold loopL
    have := hQ [] μ hI (by simp) rfl
    simpa using this
  | d :: r, acc, μ, hI, h, hQ => by
    unfold loopL
    rw [wp_bind]
    refine wp_mono (h d (by simp) acc μ hI (by simp)) fun b μ' ⟨hI', x, hx, e⟩ => ?_
    subst e
    refine loopL_wpI0 I P r (acc ++ [x]) μ' hI' (fun e he a μ hμ ha => h e (by simp [he]) a μ hμ (by simp at ha ⊢; omega)) fun xs μ2 h2 h3 h4 => ?_
    have := hQ (x :: xs) μ2 h2 (fun y hy => (List.mem_cons.mp hy).elim (fun z => ⟨d, by simp, by rw [z]; exact hx⟩) fun z => let ⟨d', q1, q2⟩ := h3 y z; ⟨d', by simp [q1], q2⟩) (by simp [h4])
    simpa using this
theorem loopL_wpI {turn : D → Acc → Store → R Acc} {Q : Acc → Store → Prop} (I : Store → Prop) (P : D → D → Prop) : ∀ (ds acc : List D) (μ : Store), I μ →
    (∀ d ∈ ds, ∀ (a : List D) (μ : Store), I μ → a.length < acc.length + ds.length → wp (turn d (([], a) : Acc) μ) fun b μ' => I μ' ∧ ∃ x, P d x ∧ b = ([], a ++ [x])) →
    (∀ xs μ', I μ' → (∀ x ∈ xs, ∃ d ∈ ds, P d x) → xs.length = ds.length → Q ([], acc ++ xs) μ') → wp (loopLt turn ds (([], acc) : Acc) μ) Q := loopL_wpI0 I P
theorem loopL_wpF0 {turn : D → Acc → Store → R Acc} {Q : Acc → Store → Prop} (I : Store → Prop) (P : D → Prop) : ∀ (ds acc : List D) (μ : Store), I μ →
    (∀ d ∈ ds, ∀ (a : List D) (μ : Store), I μ → a.length < acc.length + ds.length → wp (turn d (([], a) : Acc) μ) fun b μ' => I μ' ∧ (b = ([], a) ∨ ∃ x, P x ∧ b = ([], a ++ [x]))) →
    (∀ xs μ', I μ' → (∀ x ∈ xs, P x) → xs.length ≤ ds.length → Q ([], acc ++ xs) μ') → wp (loopL turn ds (([], acc) : Acc) μ) Q
  | [], acc, μ, hI, _, hQ => by
    unfold loopL
    have := hQ [] μ hI (by simp) (by simp)
    simpa using this
  | d :: r, acc, μ, hI, h, hQ => by
    unfold loopL
    rw [wp_bind]
    refine wp_mono (h d (by simp) acc μ hI (by simp)) fun b μ' ⟨hI', hb⟩ => ?_
    rcases hb with e | ⟨x, hx, e⟩
    · subst e
      refine loopL_wpF0 I P r acc μ' hI' (fun e he a μ hμ ha => h e (by simp [he]) a μ hμ (by simp at ha ⊢; omega)) fun xs μ2 h2 h3 h4 => hQ xs μ2 h2 h3 (by simp; omega)
    · subst e
      refine loopL_wpF0 I P r (acc ++ [x]) μ' hI' (fun e he a μ hμ ha => h e (by simp [he]) a μ hμ (by simp at ha ⊢; omega)) fun xs μ2 h2 h3 h4 => ?_
      have := hQ (x :: xs) μ2 h2 (fun y hy => (List.mem_cons.mp hy).elim (fun z => by rw [z]; exact hx) (h3 y)) (by simp; omega)
      simpa using this
theorem loopL_wpF {turn : D → Acc → Store → R Acc} {Q : Acc → Store → Prop} (I : Store → Prop) (P : D → Prop) : ∀ (ds acc : List D) (μ : Store), I μ →
    (∀ d ∈ ds, ∀ (a : List D) (μ : Store), I μ → a.length < acc.length + ds.length → wp (turn d (([], a) : Acc) μ) fun b μ' => I μ' ∧ (b = ([], a) ∨ ∃ x, P x ∧ b = ([], a ++ [x]))) →
    (∀ xs μ', I μ' → (∀ x ∈ xs, P x) → xs.length ≤ ds.length → Q ([], acc ++ xs) μ') → wp (loopLt turn ds (([], acc) : Acc) μ) Q := loopL_wpF0 I P
end PyD

set_option Elab.async false
set_option linter.all false
set_option maxRecDepth 100000
set_option maxHeartbeats 400000
namespace PyD
open PySem
/-! ### the last object of the store -/
section
variable {μ : Store} {fs gs : List D} {y : D} {m m' : M}
@[simp] theorem set_last : (μ ++ [m]).set μ.length m' = μ ++ [m'] := by simp
@[simp] theorem isRef_last : isRefL (μ ++ [.lst fs]) (.ref μ.length) = true := by simp [isRefL]
theorem app_last (h : fs.length < 100000) : mthD .append (.ref μ.length) [y] (μ ++ [.lst fs]) = some (.non, μ ++ [.lst (fs ++ [y])]) := by
  simp [mthD, sl_lt h]
theorem ext_last (h : fs.length + gs.length ≤ 1000000) : mthD .extend (.ref μ.length) [.lst gs] (μ ++ [.lst fs]) = some (.non, μ ++ [.lst (fs ++ gs)]) := by
  have : fs.length + gs.length ≤ sizeLine := by rw [sizeLine_eq]; omega
  simp [mthD, asLst, this]
theorem after_last (c : Cln μ) (h : clns fs = true) : after μ.length false (.ref μ.length) (μ ++ [.lst fs]) = .ok (.v (.lst fs)) μ := by
  rw [after_ref (c.app (Cln.one (m := .lst fs) h)) (j := μ.length) (ds := fs) (by simp) (Nat.le_refl _)]
  simp
theorem keep_last (c : Cln μ) (h : clns fs = true) : after μ.length true (.ref μ.length) (μ ++ [.lst fs]) = .ok (.f (.lst fs)) μ := by
  rw [after_keep (c.app (Cln.one (m := .lst fs) h)) (j := μ.length) (ds := fs) (by simp) (Nat.le_refl _)]
  simp
end
theorem clns_app {a b : List D} (h1 : clns a = true) (h2 : clns b = true) : clns (a ++ b) = true := by
  rw [clns_iff] at *
  intro d hd
  exact (List.mem_append.mp hd).elim (h1 d) (h2 d)
theorem enum_mem {ps : List D} {d : D} : ∀ {k : Nat}, d ∈ enumD k ps → ∃ (i : Nat) (x : D), ps[i]? = some x ∧ d = .ktup [.int ((k + i : Nat) : Int), x] := by
  induction ps with
  | nil => intro k h; simp [enumD] at h
  | cons p ps ih =>
    intro k h
    simp only [enumD, List.mem_cons] at h
    rcases h with h | h
    · exact ⟨0, p, rfl, h⟩
    · obtain ⟨i, x, h1, h2⟩ := ih h
      exact ⟨i + 1, x, by simpa using h1, by rw [h2]; congr 3; omega⟩
theorem enum_length {ps : List D} : ∀ {k : Nat}, (enumD k ps).length = ps.length := by
  induction ps with
  | nil => intro k; rfl
  | cons p ps ih => intro k; simp [enumD, ih]
@[simp] theorem clns_append {a b : List D} : clns (a ++ b) = (clns a && clns b) := by
  induction a with
  | nil => simp [clns]
  | cons x a ih => simp [clns, ih, Bool.and_assoc]
@[simp] theorem sl_0 : (0 ≤ sizeLine) = True := by rw [sizeLine_eq]; simp
@[simp] theorem sl_1 : (1 ≤ sizeLine) = True := by rw [sizeLine_eq]; simp
@[simp] theorem sl_2 : (2 ≤ sizeLine) = True := by rw [sizeLine_eq]; simp
@[simp] theorem sl_3 : (3 ≤ sizeLine) = True := by rw [sizeLine_eq]; simp
@[simp] theorem sl_4 : (4 ≤ sizeLine) = True := by rw [sizeLine_eq]; simp
@[simp] theorem sl_5 : (5 ≤ sizeLine) = True := by rw [sizeLine_eq]; simp
@[simp] theorem sl_6 : (6 ≤ sizeLine) = True := by rw [sizeLine_eq]; simp
@[simp] theorem sl_7 : (7 ≤ sizeLine) = True := by rw [sizeLine_eq]; simp
@[simp] theorem sl_8 : (8 ≤ sizeLine) = True := by rw [sizeLine_eq]; simp
@[simp] theorem sl_9 : (9 ≤ sizeLine) = True := by rw [sizeLine_eq]; simp
@[simp] theorem sl_10 : (10 ≤ sizeLine) = True := by rw [sizeLine_eq]; simp
@[simp] theorem sl_11 : (11 ≤ sizeLine) = True := by rw [sizeLine_eq]; simp
@[simp] theorem sl_12 : (12 ≤ sizeLine) = True := by rw [sizeLine_eq]; simp
@[simp] theorem sl_13 : (13 ≤ sizeLine) = True := by rw [sizeLine_eq]; simp
@[simp] theorem sl_14 : (14 ≤ sizeLine) = True := by rw [sizeLine_eq]; simp
@[simp] theorem sl_15 : (15 ≤ sizeLine) = True := by rw [sizeLine_eq]; simp
@[simp] theorem sl_16 : (16 ≤ sizeLine) = True := by rw [sizeLine_eq]; simp
@[simp] theorem sl_17 : (17 ≤ sizeLine) = True := by rw [sizeLine_eq]; simp
@[simp] theorem sl_18 : (18 ≤ sizeLine) = True := by rw [sizeLine_eq]; simp
@[simp] theorem sl_19 : (19 ≤ sizeLine) = True := by rw [sizeLine_eq]; simp
@[simp] theorem sl_20 : (20 ≤ sizeLine) = True := by rw [sizeLine_eq]; simp
@[simp] theorem sl_21 : (21 ≤ sizeLine) = True := by rw [sizeLine_eq]; simp
@[simp] theorem sl_22 : (22 ≤ sizeLine) = True := by rw [sizeLine_eq]; simp
@[simp] theorem sl_23 : (23 ≤ sizeLine) = True := by rw [sizeLine_eq]; simp
@[simp] theorem sl_24 : (24 ≤ sizeLine) = True := by rw [sizeLine_eq]; simp
/-- a loop that lays rows to the last list of the store -/
theorem forL_found {turn : D → Env → Store → RS} {T : D → Store → Prop} {N : Env → Store → Prop} {μ : Store} (S : Env → Prop) (ds : List D) (ρ : Env) (fs0 : List D) (hS : S ρ) (hc : clns fs0 = true)
    (hstep : ∀ d ∈ ds, ∀ ρ fs, S ρ → clns fs = true → fs.length < fs0.length + ds.length → wpS (turn d ρ (μ ++ [.lst fs])) (fun ρ' m' => S ρ' ∧ (m' = μ ++ [.lst fs] ∨ ∃ x, cln x = true ∧ m' = μ ++ [.lst (fs ++ [x])])) T)
    (hN : ∀ ρ' fs, S ρ' → clns fs = true → fs.length ≤ fs0.length + ds.length → N ρ' (μ ++ [.lst fs])) : wpS (forLt turn ds ρ (μ ++ [.lst fs0])) N T := by
  refine forL_inv ds (fun r ρ m => (∀ d ∈ r, d ∈ ds) ∧ S ρ ∧ ∃ fs, m = μ ++ [.lst fs] ∧ clns fs = true ∧ fs.length + r.length ≤ fs0.length + ds.length) _ _ ⟨fun _ h => h, hS, fs0, rfl, hc, Nat.le_refl _⟩ (fun d r ρ m ⟨hm, hs, fs, e, h1, h2⟩ => ?_) (fun ρ m ⟨_, hs, fs, e, h1, h2⟩ => ?_)
  · subst e
    refine wpS_mono (hstep d (hm d (by simp)) ρ fs hs h1 (by simp at h2; omega)) (fun ρ' m' ⟨hs', h⟩ => ?_) fun _ _ q => q
    refine ⟨fun d' hd' => hm d' (by simp [hd']), hs', ?_⟩
    rcases h with h | ⟨x, hx, h⟩
    · exact ⟨fs, h, h1, by simp at h2; omega⟩
    · exact ⟨fs ++ [x], h, by simp [h1, clns, hx], by simp at h2 ⊢; omega⟩
  · subst e
    exact hN ρ fs hs h1 (by simpa using h2)
/-- sums of ints -/
theorem all_int {xs : List D} (h : ∀ x ∈ xs, ∃ i, x = D.int i) : ∃ ns : List Int, xs = ns.map D.int := by
  induction xs with
  | nil => exact ⟨[], rfl⟩
  | cons x xs ih =>
    obtain ⟨bs, e⟩ := ih fun y hy => h y (by simp [hy])
    obtain ⟨c, e2⟩ := h x (by simp)
    exact ⟨c :: bs, by simp [e, e2]⟩
/-- one of both is small -/
def Sm (a b : Int) : Prop := (-(2 ^ 64) < a ∧ a < 2 ^ 64) ∨ (-(2 ^ 64) < b ∧ b < 2 ^ 64)
theorem mul_sm {μ : Store} {a b : Int} (h : Sm a b) : mulD μ (.int a) (.int b) = some (.v (.int (a * b))) := by
  unfold mulD
  have h' : (-(2 ^ 64) < a ∧ a < 2 ^ 64) ∨ (-(2 ^ 64) < b ∧ b < 2 ^ 64) := h
  simp only [h', if_true]
theorem after_last2 {μ : Store} {m : M} {gs : List D} (c : Cln μ) (h1 : clns m.its = true) (h2 : clns gs = true) : after (μ.length + 1) false (.ref (μ.length + 1)) (μ ++ [m, .lst gs]) = .ok (.v (.lst gs)) (μ ++ [m]) := by
  have := after_last (c.app (Cln.one h1)) h2
  simpa using this
/-! ### four lists at the store's end -/
section
variable {μ : Store} {a b c d gs : List D} {y : D}
@[simp] theorem isRef4_0 : isRefL (μ ++ [.lst a, .lst b, .lst c, .lst d]) (.ref μ.length) = true := by simp [isRefL]
@[simp] theorem isRef4_1 : isRefL (μ ++ [.lst a, .lst b, .lst c, .lst d]) (.ref (μ.length + 1)) = true := by simp [isRefL, List.getElem?_append_right]
@[simp] theorem isRef4_2 : isRefL (μ ++ [.lst a, .lst b, .lst c, .lst d]) (.ref (μ.length + 2)) = true := by simp [isRefL, List.getElem?_append_right]
@[simp] theorem isRef4_3 : isRefL (μ ++ [.lst a, .lst b, .lst c, .lst d]) (.ref (μ.length + 3)) = true := by simp [isRefL, List.getElem?_append_right]
theorem app4_0 (h : a.length < 100000) : mthD .append (.ref μ.length) [y] (μ ++ [.lst a, .lst b, .lst c, .lst d]) = some (.non, μ ++ [.lst (a ++ [y]), .lst b, .lst c, .lst d]) := by
  simp [mthD, sl_lt h]
theorem app4_1 (h : b.length < 100000) : mthD .append (.ref (μ.length + 1)) [y] (μ ++ [.lst a, .lst b, .lst c, .lst d]) = some (.non, μ ++ [.lst a, .lst (b ++ [y]), .lst c, .lst d]) := by
  simp [mthD, sl_lt h, List.getElem?_append_right, List.set_append]
theorem app4_2 (h : c.length < 100000) : mthD .append (.ref (μ.length + 2)) [y] (μ ++ [.lst a, .lst b, .lst c, .lst d]) = some (.non, μ ++ [.lst a, .lst b, .lst (c ++ [y]), .lst d]) := by
  simp [mthD, sl_lt h, List.getElem?_append_right, List.set_append]
theorem app4_3 (h : d.length < 100000) : mthD .append (.ref (μ.length + 3)) [y] (μ ++ [.lst a, .lst b, .lst c, .lst d]) = some (.non, μ ++ [.lst a, .lst b, .lst c, .lst (d ++ [y])]) := by
  simp [mthD, sl_lt h, List.getElem?_append_right, List.set_append]
end
theorem put_len {ks : List DK} {ds : List D} {x : DK} {v : D} : (putD ks ds x v).1.length ≤ ks.length + 1 := by
  unfold putD
  split
  · exact Nat.le_succ _
  · simp
theorem range_mem {d : D} : ∀ {n : Nat} {lo : Int}, d ∈ rangeD lo n → ∃ i : Nat, i < n ∧ d = .int (lo + (i : Nat)) := by
  intro n
  induction n with
  | zero => intro lo h; simp [rangeD] at h
  | succ n ih =>
    intro lo h
    simp only [rangeD, List.mem_cons] at h
    rcases h with h | h
    · exact ⟨0, by omega, by simpa using h⟩
    · obtain ⟨i, h1, h2⟩ := ih h
      exact ⟨i + 1, by omega, by rw [h2]; congr 1; omega⟩
theorem range_length {lo : Int} : ∀ {n : Nat}, (rangeD lo n).length = n := by
  intro n
  induction n generalizing lo with
  | zero => rfl
  | succ n ih => rw [rangeD, List.length_cons, ih]
theorem ok62_nat {n : Nat} (h : n ≤ 1000000) : ok62 (n : Int) = true := by
  unfold ok62
  exact Nat.ble_eq_true_of_le (by rw [Int.natAbs_natCast]; omega)
end PyD

set_option Elab.async false
set_option linter.all false
set_option maxRecDepth 100000
set_option maxHeartbeats 400000
/-! Stores in which the list of draws alone is changed. -/
namespace PyD
open PySem
def Dr (r : Nat) (μ : Store) : Prop := ∃ ns : List Int, μ[r]? = some (.lst (ns.map .int))
/-- the store behind: all but the list r as it was -/
structure St (r : Nat) (μ μ' : Store) : Prop where
  len : μ'.length = μ.length
  same : ∀ j, j ≠ r → μ'[j]? = μ[j]?
  cl : Cln μ'
  dr : Dr r μ'
theorem Dr.lt {r : Nat} {μ : Store} (h : Dr r μ) : r < μ.length := by
  obtain ⟨ns, e⟩ := h
  exact (List.getElem?_eq_some_iff.mp e).1
theorem St.refl {r : Nat} {μ : Store} (c : Cln μ) (d : Dr r μ) : St r μ μ := ⟨rfl, fun _ _ => rfl, c, d⟩
theorem St.trans {r : Nat} {μ μ1 μ2 : Store} (a : St r μ μ1) (b : St r μ1 μ2) : St r μ μ2 := ⟨b.len.trans a.len, fun j h => (b.same j h).trans (a.same j h), b.cl, b.dr⟩
theorem Dr.app {r : Nat} {μ X : Store} (h : Dr r μ) : Dr r (μ ++ X) := by
  have hl := h.lt
  obtain ⟨ns, e⟩ := h
  exact ⟨ns, by rw [List.getElem?_append_left hl]; exact e⟩
theorem St.split {r : Nat} {μ X m : Store} (h : St r (μ ++ X) m) (hr : r < μ.length) : ∃ μ', m = μ' ++ X ∧ St r μ μ' := by
  have hl : m.length = μ.length + X.length := by rw [h.len, List.length_append]
  have e : m = m.take μ.length ++ X := by
    apply List.ext_getElem?
    intro j
    by_cases hj : j < μ.length
    · rw [List.getElem?_append_left (by simp; omega), List.getElem?_take_of_lt hj]
    · rw [h.same j (by omega), List.getElem?_append_right (by omega), List.getElem?_append_right (by simp; omega)]
      congr 1
      simp
      omega
  refine ⟨m.take μ.length, e, ⟨by simp; omega, fun j hj => ?_, h.cl.take _, ?_⟩⟩
  · by_cases hjl : j < μ.length
    · rw [List.getElem?_take_of_lt hjl, h.same j hj, List.getElem?_append_left hjl]
    · rw [List.getElem?_eq_none (by simp; omega), List.getElem?_eq_none (by omega)]
  · obtain ⟨ns, e2⟩ := h.dr
    exact ⟨ns, by rw [List.getElem?_take_of_lt hr]; exact e2⟩
/-- what a call hands back, seen from its place -/
theorem aft_val {r : Nat} {μ μ' : Store} (h : St r μ μ') {d : D} : after μ.length false d μ' = .ok (.v d) μ' := after_same (by rw [h.len]; exact Nat.le_refl _)
theorem clns_ints (ns : List Int) : clns (ns.map D.int) = true := by
  induction ns with
  | nil => rfl
  | cons x ns ih => simp [clns, cln, ih]
end PyD

set_option Elab.async false
set_option linter.all false
set_option maxRecDepth 100000
set_option maxHeartbeats 400000
/-! Orders, sorts, calls. -/
namespace PyD
open PySem
theorem run_succ {gc : Consts} {sub : Subs} {fns : Str → Option Fn} {n : Nat} {f : Str} {F : Fn} {xs : List D} {μ : Store} (h : fns f = some F) (hl : xs.length = F.ar) :
    run fns gc sub (n + 1) f xs μ = endOf (evS (run fns gc sub n) gc sub F.body (xs.map some ++ List.replicate (F.sl - F.ar) none) μ) := by
  conv => lhs; unfold run
  rw [h]
  simp [hl]
/-- the order of data -/
def ltd (a b : D) : Bool := PySem.W.dataLt a.pd b.pd
def toks (a : D) : List (Int ⊕ List Nat) := PySem.W.keyToks a.pd
theorem ltd_irrefl (a : D) : ltd a a = false := PyProof.Rows.lex_irrefl _
theorem ltd_trans {a b c : D} (h1 : ltd a b = true) (h2 : ltd b c = true) : ltd a c = true := PyProof.Rows.lex_trans _ _ _ h1 h2
theorem ltd_total {a b : D} (h1 : ltd a b = false) (h2 : ltd b a = false) : toks a = toks b := PyProof.Rows.lex_total _ _ h1 h2
theorem ltd_neg {a b c : D} (h : ltd a c = true) : ltd a b = true ∨ ltd b c = true := PyProof.Rows.lex_negTrans _ _ _ h
theorem srt_perm (ds : List D) : (srtD ds).Perm ds := List.mergeSort_perm _ _
theorem mem_srt {ds : List D} {d : D} (h : d ∈ srtD ds) : d ∈ ds := List.mem_mergeSort.mp h
theorem len_srt {ds : List D} : (srtD ds).length = ds.length := List.length_mergeSort _
theorem srt_le (ds : List D) : (srtD ds).Pairwise fun a b => ltd b a = false := by
  have h := List.pairwise_mergeSort (le := fun a b => !ltd b a) (fun a b c h1 h2 => ?_) (fun a b => ?_) ds
  · exact h.imp fun {a b} h => by simpa using h
  · simp only [Bool.not_eq_true', Bool.not_eq_false'] at *
    cases z : ltd c a with
    | false => rfl
    | true =>
      rcases ltd_neg (b := b) z with q | q
      · rw [h2] at q; cases q
      · rw [h1] at q; cases q
  · cases z : ltd b a with
    | false => rfl
    | true =>
      cases y : ltd a b with
      | false => rfl
      | true =>
        have := ltd_trans z y
        rw [ltd_irrefl] at this
        cases this
/-- sorted, none twice: ascending -/
theorem srt_lt {ds : List D} (nd : ds.Nodup) (inj : ∀ a ∈ ds, ∀ b ∈ ds, toks a = toks b → a = b) : (srtD ds).Pairwise fun a b => ltd a b = true := by
  have nd' : (srtD ds).Nodup := (srt_perm ds).nodup_iff.mpr nd
  have h := (srt_le ds).and nd'
  refine List.Pairwise.imp_of_mem (fun {a b} ha hb h => ?_) h
  cases z : ltd a b with
  | true => rfl
  | false => exact absurd (inj a (mem_srt ha) b (mem_srt hb) (ltd_total z h.1)) h.2
/-- each less than the next -/
def ascB : List D → Bool
  | a :: b :: r => ltd a b && ascB (b :: r)
  | _ => true
theorem ascB_of {ds : List D} (h : ds.Pairwise fun a b => ltd a b = true) : ascB ds = true := by
  induction ds with
  | nil => rfl
  | cons a ds ih =>
    cases ds with
    | nil => rfl
    | cons b r =>
      simp only [ascB, Bool.and_eq_true]
      rw [List.pairwise_cons] at h
      exact ⟨h.1 b (by simp), ih h.2⟩
theorem ascB_zip : ∀ ds : List D, ((zipD ds (ds.drop 1)).all fun d => match d with
    | .ktup [a, b] => ltd a b
    | _ => false) = ascB ds
  | [] => rfl
  | [a] => rfl
  | a :: b :: r => by
    have := ascB_zip (b :: r)
    simp only [List.drop_succ_cons, List.drop_zero] at this ⊢
    rw [zipD, List.all_cons, this]
    rfl
theorem zip_mem {xs ys : List D} {d : D} (h : d ∈ zipD xs ys) : ∃ x ∈ xs, ∃ y ∈ ys, d = .ktup [x, y] := by
  induction xs generalizing ys with
  | nil => simp [zipD] at h
  | cons x xs ih =>
    cases ys with
    | nil => simp [zipD] at h
    | cons y ys =>
      simp only [zipD, List.mem_cons] at h
      rcases h with h | h
      · exact ⟨x, by simp, y, by simp, h⟩
      · obtain ⟨a, ha, b, hb, e⟩ := ih h
        exact ⟨a, by simp [ha], b, by simp [hb], e⟩
theorem zip_length {xs ys : List D} : (zipD xs ys).length ≤ xs.length := by
  induction xs generalizing ys with
  | nil => simp [zipD]
  | cons x xs ih =>
    cases ys with
    | nil => simp [zipD]
    | cons y ys => simp [zipD, ih]
theorem sum_set {as : List Int} {i : Nat} (h : i < as.length) (x : Int) : (as.set i x).sum = as.sum - as[i] + x := by
  induction as generalizing i with
  | nil => simp at h
  | cons a as ih =>
    cases i with
    | zero => simp; omega
    | succ i =>
      simp only [List.set_cons_succ, List.sum_cons, List.getElem_cons_succ]
      rw [ih (by simpa using h)]
      omega
theorem sum_rep (n : Nat) (x : Int) : (List.replicate n x).sum = n * x := by
  induction n with
  | zero => simp
  | succ n ih => rw [List.replicate_succ, List.sum_cons, ih]; rw [Int.natCast_succ, Int.add_mul]; omega
theorem mem_cut {α : Type} {xs : List α} {lo hi : Option Int} {x : α} (h : x ∈ cutD xs lo hi) : x ∈ xs := List.mem_of_mem_drop (List.mem_of_mem_take h)
theorem cut_take {α : Type} {xs : List α} {a : Nat} : cutD xs none (some (a : Int)) = xs.take a := by
  unfold cutD
  rw [HT.sIx_nat, HT.sIx_none, Nat.sub_zero, List.drop_zero]
  by_cases h : a ≤ xs.length
  · rw [Nat.min_eq_left h]
  · rw [Nat.min_eq_right (by omega), List.take_of_length_le (Nat.le_refl _), List.take_of_length_le (by omega)]
theorem cut_from {α : Type} {xs : List α} {a : Nat} : cutD xs (some (a : Int)) none = xs.drop a := by
  unfold cutD
  rw [HT.sIx_nat, HT.sIx_none]
  by_cases h : a ≤ xs.length
  · rw [Nat.min_eq_left h, List.take_of_length_le (by rw [List.length_drop]; omega)]
  · rw [Nat.min_eq_right (by omega), List.drop_of_length_le (Nat.le_refl _), List.drop_of_length_le (by omega)]
    simp
theorem cut_take2 {α : Type} {xs : List α} : cutD xs none (some 2) = xs.take 2 := cut_take (a := 2)
theorem cut_from1 {α : Type} {xs : List α} : cutD xs (some 1) none = xs.drop 1 := cut_from (a := 1)
theorem erase_perm {α : Type} {l : List α} {j : Nat} (h : j < l.length) : (l[j] :: l.eraseIdx j).Perm l := by
  induction l generalizing j with
  | nil => simp at h
  | cons a l ih =>
    cases j with
    | zero => exact List.Perm.refl _
    | succ j =>
      simp only [List.getElem_cons_succ, List.eraseIdx_cons_succ]
      exact (List.Perm.swap _ _ _).trans ((ih (by simpa using h)).cons a)
theorem rangeD_from (lo : Int) : ∀ n : Nat, rangeD lo n = (List.range n).map fun k => D.int (lo + (k : Nat))
  | 0 => rfl
  | n + 1 => by
    rw [rangeD, rangeD_from (lo + 1) n, List.range_succ_eq_map, List.map_cons, List.map_map]
    simp only [List.cons.injEq]
    refine ⟨by simp, List.map_congr_left fun k _ => ?_⟩
    simp only [Function.comp_apply]
    congr 1
    omega
theorem rangeD_map (n : Nat) : rangeD 0 n = (List.range n).map fun k => D.int (k : Nat) := by
  rw [rangeD_from]
  exact List.map_congr_left fun k _ => by simp
/-- sorted by what it is as data -/
def srtBy {α : Type} (f : α → D) (l : List α) : List α := l.mergeSort fun a b => !ltd (f b) (f a)
theorem srt_map {α : Type} (f : α → D) (l : List α) : srtD (l.map f) = (srtBy f l).map f := by
  unfold srtD srtBy
  exact (List.map_mergeSort (r := fun a b => !ltd (f b) (f a)) (s := fun a b => !PySem.W.dataLt b.pd a.pd) (f := f) (l := l) fun _ _ _ _ => rfl).symm
theorem srtBy_perm {α : Type} (f : α → D) (l : List α) : (srtBy f l).Perm l := List.mergeSort_perm _ _
theorem srtBy_lt {α : Type} {f : α → D} {l : List α} (nd : l.Nodup) (inj : ∀ a ∈ l, ∀ b ∈ l, toks (f a) = toks (f b) → a = b) : (srtBy f l).Pairwise fun a b => ltd (f a) (f b) = true := by
  have nd2 : (l.map f).Nodup := by
    refine List.pairwise_map.mpr (nd.imp_of_mem fun {a b} ha hb h e => h (inj a ha b hb (by rw [e])))
  have h := srt_lt nd2 fun a ha b hb e => by
    obtain ⟨x, hx, rfl⟩ := List.mem_map.mp ha
    obtain ⟨y, hy, rfl⟩ := List.mem_map.mp hb
    rw [inj x hx y hy e]
  rw [srt_map] at h
  exact List.pairwise_map.mp h
theorem canSort_of (C : PyData → Prop) (h1 : ∀ p, C p → SeqAt.shaped p = true) (h2 : ∀ p q, C p → C q → PySem.W.alike p q = true) (h3 : (∀ p, C p → isTupC p = true) ∨ (∀ p, C p → isLeafP p = true)) {ds : List D} (h : ∀ d ∈ ds, ∃ p, d.toP = some p ∧ C p) : canSort ds = true := by
  obtain ⟨ps, e, hp⟩ : ∃ ps, toPs ds = some ps ∧ ∀ p ∈ ps, C p := by
    induction ds with
    | nil => exact ⟨[], rfl, by simp⟩
    | cons d ds ih =>
      obtain ⟨ps, e, hp⟩ := ih fun d' hd' => h d' (by simp [hd'])
      obtain ⟨p, e2, hc⟩ := h d (by simp)
      refine ⟨p :: ps, by simp [toPs, e, e2], fun q hq => ?_⟩
      rcases List.mem_cons.mp hq with z | z
      · rw [z]; exact hc
      · exact hp q z
  unfold canSort
  rw [e]
  simp only [Bool.and_eq_true, Bool.or_eq_true, List.all_eq_true]
  refine ⟨⟨fun p h => h1 p (hp p h), fun p h q h' => h2 p q (hp p h) (hp q h')⟩, ?_⟩
  rcases h3 with h3 | h3
  · exact .inl fun p h => h3 p (hp p h)
  · exact .inr fun p h => h3 p (hp p h)
/-! ### places of edges, seams -/
abbrev Spot := Str × Nat
def spotD (s : Spot) : D := .tup [.str s.1, .int s.2]
structure Seam where
  one : Spot
  other : Spot
  way : Str
  ease : Int
def smD (s : Seam) : D := .tup [spotD s.one, spotD s.other, .str s.way, .int s.ease]
def nmP (x : Str) : Prop := x.length ≤ 20 ∧ PyData.strOk x = true
theorem toks_spot (s : Spot) : toks (spotD s) = [.inl 1, .inr s.1.cps.toList, .inl 1, .inl s.2, .inl 0] := by
  simp [toks, spotD, D.pd, D.toP, toPs, PySem.W.keyToks, PySem.W.keyToksAll]
theorem toks_spot_inj {a b : Spot} (h : toks (spotD a) = toks (spotD b)) : a = b := by
  rw [toks_spot, toks_spot] at h
  simp only [List.cons.injEq, Sum.inr.injEq, Sum.inl.injEq, true_and, and_true] at h
  exact Prod.ext (PySem.W.str_of_cps h.1) (by have := h.2; omega)
theorem toks_sm (s : Seam) : toks (smD s) = [.inl 1, .inl 1, .inr s.one.1.cps.toList, .inl 1, .inl s.one.2, .inl 0, .inl 1, .inl 1, .inr s.other.1.cps.toList, .inl 1, .inl s.other.2, .inl 0, .inl 1, .inr s.way.cps.toList, .inl 1, .inl s.ease, .inl 0] := by
  simp [toks, smD, spotD, D.pd, D.toP, toPs, PySem.W.keyToks, PySem.W.keyToksAll]
theorem toks_sm_inj {a b : Seam} (h : toks (smD a) = toks (smD b)) : a = b := by
  rw [toks_sm, toks_sm] at h
  simp only [List.cons.injEq, Sum.inr.injEq, Sum.inl.injEq, true_and, and_true] at h
  obtain ⟨h1, h2, h3, h4, h5, h6⟩ := h
  obtain ⟨⟨a1, a2⟩, ⟨a3, a4⟩, a5, a6⟩ := a
  obtain ⟨⟨b1, b2⟩, ⟨b3, b4⟩, b5, b6⟩ := b
  simp only at *
  obtain rfl := PySem.W.str_of_cps h1
  obtain rfl := PySem.W.str_of_cps h3
  obtain rfl := PySem.W.str_of_cps h5
  obtain rfl : a2 = b2 := by omega
  obtain rfl : a4 = b4 := by omega
  rw [h6]
theorem toks_str_inj {a b : Str} (h : toks (.str a) = toks (.str b)) : a = b := by
  simp only [toks, D.pd, D.toP, Option.getD_some, PySem.W.keyToks, List.cons.injEq, Sum.inr.injEq, and_true] at h
  exact PySem.W.str_of_cps h
theorem sort_spots {l : List Spot} (h : ∀ s ∈ l, nmP s.1) : canSort (l.map spotD) = true :=
  canSort_of (fun p => ∃ x i, p = .tuple [.str x, .int i] ∧ PyData.strOk x = true) (fun p ⟨x, i, e, hx⟩ => by
      subst e; simp [SeqAt.shaped, PyData.canLay0, PyData.canLayAll0, PyData.depth, PyData.depthAll, hx])
    (fun p q ⟨x, i, e, _⟩ ⟨y, j, e', _⟩ => by subst e e'; simp [PySem.W.alike, PySem.W.alikeAll]) (.inl fun p ⟨x, i, e, _⟩ => by subst e; rfl)
    fun d hd => by
      obtain ⟨s, hs, rfl⟩ := List.mem_map.mp hd
      exact ⟨_, by simp [spotD, D.toP, toPs], s.1, s.2, rfl, (h s hs).2⟩
/-- a seam whose words can be compared -/
structure SeamNm (s : Seam) : Prop where
  a : nmP s.one.1
  b : nmP s.other.1
  w : nmP s.way
def smP (s : Seam) : PyData := .tuple [.tuple [.str s.one.1, .int s.one.2], .tuple [.str s.other.1, .int s.other.2], .str s.way, .int s.ease]
theorem sm_toP (s : Seam) : (smD s).toP = some (smP s) := by simp [smD, spotD, D.toP, toPs, smP]
theorem sm_shaped {s : Seam} (h : SeamNm s) : SeqAt.shaped (smP s) = true := by
  simp [smP, SeqAt.shaped, PyData.canLay0, PyData.canLayAll0, PyData.depth, PyData.depthAll, h.a.2, h.b.2, h.w.2]
theorem sm_alike (s t : Seam) : PySem.W.alike (smP s) (smP t) = true := by simp [smP, PySem.W.alike, PySem.W.alikeAll]
theorem sort_seams {l : List Seam} (h : ∀ s ∈ l, SeamNm s) : canSort (l.map smD) = true :=
  canSort_of (fun p => ∃ s, p = smP s ∧ SeamNm s) (fun p ⟨s, e, hs⟩ => by subst e; exact sm_shaped hs) (fun p q ⟨s, e, _⟩ ⟨t, e', _⟩ => by subst e e'; exact sm_alike s t) (.inl fun p ⟨s, e, _⟩ => by subst e; rfl)
    fun d hd => by
      obtain ⟨s, hs, rfl⟩ := List.mem_map.mp hd
      exact ⟨_, sm_toP s, s, rfl, h s hs⟩
theorem sort_names {l : List Str} (h : ∀ s ∈ l, nmP s) : canSort (l.map D.str) = true :=
  canSort_of (fun p => ∃ x, p = .str x ∧ PyData.strOk x = true) (fun p ⟨x, e, hx⟩ => by subst e; simp [SeqAt.shaped, PyData.canLay0, PyData.depth, hx])
    (fun p q ⟨x, e, _⟩ ⟨y, e', _⟩ => by subst e e'; simp [PySem.W.alike]) (.inr fun p ⟨x, e, _⟩ => by subst e; rfl)
    fun d hd => by
      obtain ⟨s, hs, rfl⟩ := List.mem_map.mp hd
      exact ⟨_, by simp [D.toP], s, rfl, (h s hs).2⟩
theorem cln_spot (s : Spot) : cln (spotD s) = true := rfl
theorem cln_sm (s : Seam) : cln (smD s) = true := rfl
theorem cln_map {α : Type} {f : α → D} (h : ∀ a, cln (f a) = true) (l : List α) : clns (l.map f) = true := clns_iff.mpr fun d hd => by
  obtain ⟨a, _, rfl⟩ := List.mem_map.mp hd
  exact h a
theorem perm_back {α β : Type} {g : α → β} {l : List α} : ∀ {f : List β}, f.Perm (l.map g) → ∃ f' : List α, f = f'.map g ∧ f'.Perm l := by
  induction l with
  | nil =>
    intro f h
    have : f = [] := List.eq_nil_of_length_eq_zero (by simpa using h.length_eq)
    exact ⟨[], by rw [this]; rfl, List.Perm.refl _⟩
  | cons a l ih =>
    intro f h
    have hm : g a ∈ f := h.mem_iff.mpr (by simp)
    obtain ⟨f1, f2, rfl⟩ := List.append_of_mem hm
    have h2 : (f1 ++ f2).Perm (l.map g) := (List.perm_middle.symm.trans h).cons_inv
    obtain ⟨f', e, hp⟩ := ih h2
    obtain ⟨x, y, rfl, rfl, rfl⟩ := List.map_eq_append_iff.mp e.symm
    exact ⟨x ++ a :: y, by simp, List.perm_middle.trans (hp.cons a)⟩
theorem set_self {α : Type} {l : List α} {n : Nat} {x : α} (h : l[n]? = some x) : l.set n x = l := by
  obtain ⟨hn, rfl⟩ := List.getElem?_eq_some_iff.mp h
  exact List.set_getElem_self hn
theorem at_last {α : Type} (xs : List α) : L2.atI xs (-1) = xs[xs.length - 1]? := by
  unfold L2.atI L2.ixN
  by_cases h : xs.length = 0
  · have : xs = [] := List.eq_nil_of_length_eq_zero h
    subst this
    rfl
  · rw [if_neg (by omega), if_pos (by omega)]
    simp only [Option.bind_some]
    congr 1
    omega
end PyD

set_option Elab.async false
set_option linter.all false
set_option maxRecDepth 100000
set_option maxHeartbeats 400000
/-! Comprehensions of several clauses; dicts by names. -/
namespace PyD
open PySem
/-- a comprehension whose turn adds these rows -/
theorem loopL_flat0 {turn : D → Acc → Store → R Acc} {f : D → List D} {μ : Store} {b : Nat} : ∀ (ds acc : List D), (∀ d ∈ ds, ∀ a : List D, a.length + (f d).length ≤ b → turn d ([], a) μ = .ok ([], a ++ f d) μ) → acc.length + (ds.flatMap f).length ≤ b →
    loopL turn ds (([], acc) : Acc) μ = .ok ([], acc ++ ds.flatMap f) μ
  | [], acc, _, _ => by simp [loopL]
  | d :: r, acc, h, hb => by
    rw [List.flatMap_cons, List.length_append] at hb
    unfold loopL
    rw [h d (by simp) acc (by omega)]
    show loopL turn r (([], acc ++ f d) : Acc) μ = _
    rw [loopL_flat0 r (acc ++ f d) (fun e he a ha => h e (by simp [he]) a ha) (by rw [List.length_append]; omega)]
    simp
theorem loopL_flat {turn : D → Acc → Store → R Acc} {f : D → List D} {μ : Store} (b : Nat) (ds acc : List D) (h : ∀ d ∈ ds, ∀ a : List D, a.length + (f d).length ≤ b → turn d ([], a) μ = .ok ([], a ++ f d) μ) (hb : acc.length + (ds.flatMap f).length ≤ b) :
    loopLt turn ds (([], acc) : Acc) μ = .ok ([], acc ++ ds.flatMap f) μ := loopL_flat0 ds acc h hb
/-- a dict comprehension whose keys are different -/
theorem loopL_dict0 {b : Nat} {turn : D → Acc → Store → R Acc} {α : Type} {g : α → D} {k : α → DK} {v : α → D} {μ : Store} : ∀ (l : List α) (ks : List DK) (vs : List D), (∀ x ∈ l, ∀ (ks : List DK) (vs : List D), ks.length < b → turn (g x) (ks, vs) μ = .ok (putD ks vs (k x) (v x)) μ) →
    (l.map k).Nodup → (∀ x ∈ l, k x ∉ ks) → ks.length + l.length ≤ b → loopL turn (l.map g) ((ks, vs) : Acc) μ = .ok (ks ++ l.map k, vs ++ l.map v) μ
  | [], ks, vs, _, _, _, _ => by simp [loopL]
  | x :: l, ks, vs, h, hn, hk, hl => by
    rw [List.map_cons, List.nodup_cons] at hn
    rw [List.map_cons]
    unfold loopL
    have hne : ks.any (fun y => decide (y = k x)) = false := by
      rw [List.any_eq_false]
      intro y hy e
      exact hk x (by simp) (by rw [← of_decide_eq_true e]; exact hy)
    have e : putD ks vs (k x) (v x) = (ks ++ [k x], vs ++ [v x]) := by unfold putD; rw [hne]; rfl
    rw [h x (by simp) ks vs (by rw [List.length_cons] at hl; omega), e]
    show loopL turn (l.map g) ((ks ++ [k x], vs ++ [v x]) : Acc) μ = _
    rw [loopL_dict0 l _ _ (fun y hy => h y (by simp [hy])) hn.2 (fun y hy z => ?_) (by rw [List.length_append, List.length_singleton]; rw [List.length_cons] at hl; omega)]
    · simp
    · rcases List.mem_append.mp z with z | z
      · exact hk y (by simp [hy]) z
      · exact hn.1 (by rw [← List.mem_singleton.mp z]; exact List.mem_map.mpr ⟨y, hy, rfl⟩)
theorem loopL_dict {turn : D → Acc → Store → R Acc} {α : Type} {g : α → D} {k : α → DK} {v : α → D} {μ : Store} (b : Nat) (l : List α) (h : ∀ x ∈ l, ∀ (ks : List DK) (vs : List D), ks.length < b → turn (g x) (ks, vs) μ = .ok (putD ks vs (k x) (v x)) μ)
    (hn : (l.map k).Nodup) (hb : l.length ≤ b) : loopLt turn (l.map g) (([], []) : Acc) μ = .ok (l.map k, l.map v) μ := by
  have := loopL_dict0 (turn := turn) (g := g) (k := k) (v := v) (μ := μ) l [] [] h hn (by simp) (by simpa using hb)
  simp only [List.nil_append] at this
  exact this
theorem look_map {α : Type} {k : α → DK} {v : α → D} : ∀ {l : List α} {x : α}, (l.map k).Nodup → x ∈ l → lookD (l.map k) (l.map v) (k x) = some (v x)
  | y :: l, x, hn, hx => by
    rw [List.map_cons, List.nodup_cons] at hn
    rw [List.map_cons, List.map_cons, lookD]
    rcases List.mem_cons.mp hx with e | hx
    · rw [e, if_pos rfl]
    · rw [if_neg fun e => hn.1 (by rw [e]; exact List.mem_map.mpr ⟨x, hx, rfl⟩)]
      exact look_map hn.2 hx
theorem look_none {α : Type} {k : α → DK} {v : α → D} : ∀ {l : List α} {x : DK}, x ∉ l.map k → lookD (l.map k) (l.map v) x = none
  | [], _, _ => rfl
  | y :: l, x, h => by
    rw [List.map_cons, List.mem_cons, not_or] at h
    rw [List.map_cons, List.map_cons, lookD, if_neg fun e => h.1 e.symm]
    exact look_none h.2
theorem pairs_map {α : Type} {k : α → DK} {v : α → D} {g : α → D} (hg : ∀ x, ∃ kd, g x = .tup [kd, v x] ∧ kd.key false = some (k x)) : ∀ {l : List α} {ks : List DK} {vs : List D}, (l.map k).Nodup → (∀ x ∈ l, k x ∉ ks) → pairsD (l.map g) (ks, vs) = some (ks ++ l.map k, vs ++ l.map v)
  | [], ks, vs, _, _ => by simp [pairsD]
  | x :: l, ks, vs, hn, hk => by
    obtain ⟨kd, e1, e2⟩ := hg x
    rw [List.map_cons, List.nodup_cons] at hn
    have hne : ks.any (fun y => decide (y = k x)) = false := by
      rw [List.any_eq_false]
      intro y hy e
      exact hk x (by simp) (by rw [← of_decide_eq_true e]; exact hy)
    have e : putD ks vs (k x) (v x) = (ks ++ [k x], vs ++ [v x]) := by unfold putD; rw [hne]; rfl
    rw [List.map_cons, e1, pairsD, e2]
    simp only [e]
    rw [pairs_map hg hn.2 fun y hy z => ?_]
    · simp
    · rcases List.mem_append.mp z with z | z
      · exact hk y (by simp [hy]) z
      · exact hn.1 (by rw [← List.mem_singleton.mp z]; exact List.mem_map.mpr ⟨y, hy, rfl⟩)
theorem keysT_spots (l : List Spot) : keysT (l.map spotD) = some (l.map fun s => DK.t [.inr s.1, .inl (s.2 : Int)]) := by
  induction l with
  | nil => rfl
  | cons s l ih =>
    rw [List.map_cons, keysT, ih]
    rfl
theorem dups_nd {α : Type} [DecidableEq α] : ∀ {l : List α}, l.Nodup → l.eraseDups = l
  | [], _ => by simp
  | x :: l, h => by
    rw [List.nodup_cons] at h
    rw [List.eraseDups_cons]
    have : l.filter (fun b => !b == x) = l := by
      rw [List.filter_eq_self]
      intro a ha
      simp
      intro e
      exact h.1 (by rw [← e]; exact ha)
    rw [this, dups_nd h.2]
theorem lenset_spots {μ : Store} {l : List Spot} (hn : l.Nodup) (hl : l.length < 64) : biD .lenset μ [.lst (l.map spotD)] = some (.v (.int l.length)) := by
  simp only [biD, asLst, List.length_map, hl, if_true, keysT_spots]
  rw [dups_nd]
  · simp
  · exact List.pairwise_map.mpr (hn.imp fun {a b} h e => h (by
      simp only [DK.t.injEq, List.cons.injEq, Sum.inr.injEq, Sum.inl.injEq, and_true] at e
      exact Prod.ext e.1 (by have := e.2; omega)))
theorem all_true {α : Type} (l : List α) : (l.map fun _ => D.bl true) = (l.map fun _ => true).map D.bl := by simp
theorem bls_true : ∀ {l : List D}, (∀ d ∈ l, d = .bl true) → ∃ bs : List Bool, blsOf l = some bs ∧ bs.all id = true
  | [], _ => ⟨[], rfl, rfl⟩
  | d :: l, h => by
    obtain ⟨bs, e, h2⟩ := bls_true (l := l) fun x hx => h x (by simp [hx])
    rw [h d (by simp)]
    exact ⟨true :: bs, by rw [blsOf, e]; rfl, by simpa using h2⟩
theorem all_trueD {μ : Store} {l : List D} (h : ∀ d ∈ l, d = .bl true) : biD .all μ [.lst l] = some (.v (.bl true)) := by
  obtain ⟨bs, e, h2⟩ := bls_true h
  simp only [biD, bl1, asLst, e, h2]
theorem sum_ints {μ : Store} {α : Type} (l : List α) (f : α → Int) : biD .sum μ [.lst (l.map fun x => .int (f x))] = some (.v (.int (l.map f).sum)) := by
  have : intsOf (l.map fun x => D.int (f x)) = some (l.map f) := by
    have := intsOf_map (l.map f)
    rw [List.map_map] at this
    exact this
  simp only [biD, int1, asLst, this]
theorem flat2_len {α β : Type} (x y : β) (l : List α) : (l.flatMap fun _ => [x, y]).length = 2 * l.length := by
  induction l with
  | nil => rfl
  | cons a l ih => rw [List.flatMap_cons, List.length_append, ih]; simp; omega
end PyD

set_option maxRecDepth 100000
namespace Pk
open PySem PyD

def b_is_name_1 : SX := (.cons (.ret (.bi .all (.cons (.lc [1] (.cmp .In (.var 1) (.bin .Add (.glb "SMALL") (.glb "FIGURES"))) (.gen (.nm 1) (.over (.var 0)) .nil .nil)) .nil))) .nil)
def b_is_name_2 : SX := (.cons (.cond (.or (.cons (.not (.isi (.var 0) .str)) (.cons (.not (.chain .LtE .LtE (.int 1) (.bi .len (.cons (.var 0) .nil)) (.glb "LONGEST"))) (.cons (.cmp .NotIn (.ix (.var 0) (.int 0)) (.glb "SMALL")) .nil))))
 (.cons (.ret (.bl false)) .nil)
 .nil) b_is_name_1)
/-- is_name: value=0 sign=1 -/
def b_is_name : SX :=
 b_is_name_2

/-- are_ascending: values=0 one=1 other=2 -/
def b_are_ascending : SX :=
 (.cons (.ret (.bi .all (.cons (.lc [1, 2] (.cmp .Lt (.var 1) (.var 2)) (.gen (.tp (.cons (.nm 1) (.cons (.nm 2) .nil))) (.zip (.var 0) (.slc (.var 0) (.int 1) .non)) .nil .nil)) .nil))) .nil)

/-- is_within: value=0 low=1 high=2 -/
def b_is_within : SX :=
 (.cons (.ret (.and (.cons (.isi (.var 0) .int) (.cons (.not (.isi (.var 0) .bool)) (.cons (.chain .LtE .LtE (.var 1) (.var 0) (.var 2)) .nil))))) .nil)

def b_is_edge_1 : SX := (.cons (.ret (.and (.cons (.call "is_within" (.cons (.var 1) (.cons (.int 1) (.cons (.int 10000) .nil)))) (.cons (.call "is_within" (.cons (.var 2) (.cons (.neg (.int 50)) (.cons (.int 50) .nil)))) (.cons (.call "is_within" (.cons (.var 3) (.cons (.int 1) (.cons (.int 359) .nil)))) .nil))))) .nil)
def b_is_edge_2 : SX := (.cons (.setT (.tp (.cons (.nm 1) (.cons (.nm 2) (.cons (.nm 3) .nil)))) (.var 0)) b_is_edge_1)
def b_is_edge_3 : SX := (.cons (.cond (.or (.cons (.not (.isi (.var 0) .tuple)) (.cons (.cmp .NotEq (.bi .len (.cons (.var 0) .nil)) (.int 3)) .nil)))
 (.cons (.ret (.bl false)) .nil)
 .nil) b_is_edge_2)
/-- is_edge: value=0 base=1 step=2 angle=3 -/
def b_is_edge : SX :=
 b_is_edge_3

def b_is_piece_1 : SX := (.cons (.ret (.cmp .Eq (.bi .sum (.cons (.lc [3, 4] (.var 4) (.gen (.tp (.cons (.nm 3) (.cons (.nm 3) (.cons (.nm 4) .nil)))) (.over (.var 1)) .nil .nil)) .nil)) (.bin .Mult (.bin .Sub (.bi .len (.cons (.var 1) .nil)) (.int 2)) (.glb "HALF_TURN")))) .nil)
def b_is_piece_2 : SX := (.cons (.cond (.not (.bi .all (.cons (.lc [2] (.call "is_edge" (.cons (.var 2) .nil)) (.gen (.nm 2) (.over (.var 1)) .nil .nil)) .nil)))
 (.cons (.ret (.bl false)) .nil)
 .nil) b_is_piece_1)
def b_is_piece_3 : SX := (.cons (.cond (.or (.cons (.not (.isi (.var 1) .tuple)) (.cons (.not (.chain .LtE .LtE (.glb "FEWEST_EDGES") (.bi .len (.cons (.var 1) .nil)) (.glb "MOST_EDGES"))) .nil)))
 (.cons (.ret (.bl false)) .nil)
 .nil) b_is_piece_2)
def b_is_piece_4 : SX := (.cons (.set 1 (.ix (.var 0) (.int 1))) b_is_piece_3)
def b_is_piece_5 : SX := (.cons (.cond (.or (.cons (.not (.isi (.var 0) .tuple)) (.cons (.cmp .NotEq (.bi .len (.cons (.var 0) .nil)) (.int 2)) (.cons (.not (.call "is_name" (.cons (.ix (.var 0) (.int 0)) .nil))) .nil))))
 (.cons (.ret (.bl false)) .nil)
 .nil) b_is_piece_4)
/-- is_piece: value=0 edges=1 edge=2 _=3 angle=4 -/
def b_is_piece : SX :=
 b_is_piece_5

def b_is_spot_1 : SX := (.cons (.ret (.call "is_within" (.cons (.ix (.var 1) (.int 1)) (.cons (.int 0) (.cons (.bin .Sub (.ix (.var 0) (.ix (.var 1) (.int 0))) (.int 1)) .nil))))) .nil)
def b_is_spot_2 : SX := (.cons (.cond (.or (.cons (.not (.isi (.var 1) .tuple)) (.cons (.cmp .NotEq (.bi .len (.cons (.var 1) .nil)) (.int 2)) (.cons (.not (.isi (.ix (.var 1) (.int 0)) .str)) (.cons (.cmp .NotIn (.ix (.var 1) (.int 0)) (.var 0)) .nil)))))
 (.cons (.ret (.bl false)) .nil)
 .nil) b_is_spot_1)
/-- is_spot: counts=0 value=1 -/
def b_is_spot : SX :=
 b_is_spot_2

def b_is_seam_1 : SX := (.cons (.ret (.and (.cons (.cmp .In (.var 4) (.tup (.cons (.glb "EVEN") (.cons (.glb "ODD") .nil)))) (.cons (.call "is_within" (.cons (.var 5) (.cons (.int 0) (.cons (.glb "MOST_EASE") .nil)))) .nil)))) .nil)
def b_is_seam_2 : SX := (.cons (.cond (.or (.cons (.not (.call "is_spot" (.cons (.var 0) (.cons (.var 2) .nil)))) (.cons (.not (.call "is_spot" (.cons (.var 0) (.cons (.var 3) .nil)))) (.cons (.cmp .GtE (.var 2) (.var 3)) .nil))))
 (.cons (.ret (.bl false)) .nil)
 .nil) b_is_seam_1)
def b_is_seam_3 : SX := (.cons (.setT (.tp (.cons (.nm 2) (.cons (.nm 3) (.cons (.nm 4) (.cons (.nm 5) .nil))))) (.var 1)) b_is_seam_2)
def b_is_seam_4 : SX := (.cons (.cond (.or (.cons (.not (.isi (.var 1) .tuple)) (.cons (.cmp .NotEq (.bi .len (.cons (.var 1) .nil)) (.int 4)) .nil)))
 (.cons (.ret (.bl false)) .nil)
 .nil) b_is_seam_3)
/-- is_seam: counts=0 value=1 one=2 other=3 way=4 ease=5 -/
def b_is_seam : SX :=
 b_is_seam_4

def b_are_seams_1 : SX := (.cons (.ret (.cmp .Eq (.bi .lenset (.cons (.var 2) .nil)) (.bi .len (.cons (.var 2) .nil)))) .nil)
def b_are_seams_2 : SX := (.cons (.set 2 (.lc [3, 4] (.var 4) (.gen (.nm 3) (.over (.var 1)) .nil (.gen (.nm 4) (.over (.slc (.var 3) .non (.int 2))) .nil .nil)))) b_are_seams_1)
def b_are_seams_3 : SX := (.cons (.cond (.or (.cons (.not (.isi (.var 1) .tuple)) (.cons (.not (.bi .all (.cons (.lc [3] (.call "is_seam" (.cons (.var 0) (.cons (.var 3) .nil))) (.gen (.nm 3) (.over (.var 1)) .nil .nil)) .nil))) (.cons (.not (.call "are_ascending" (.cons (.var 1) .nil))) .nil))))
 (.cons (.ret (.bl false)) .nil)
 .nil) b_are_seams_2)
/-- are_seams: counts=0 value=1 used=2 seam=3 edge=4 -/
def b_are_seams : SX :=
 b_are_seams_3

def b_is_pattern_1 : SX := (.cons (.ret (.bi .all (.cons (.lc [6, 7, 8, 9, 10] (.cmp .GtE (.bin .Add (.var 8) (.bin .Mult (.var 10) (.var 9))) (.int 1)) (.gen (.tp (.cons (.nm 6) (.cons (.nm 7) .nil))) (.over (.var 1)) .nil (.gen (.tp (.cons (.nm 8) (.cons (.nm 9) (.cons (.nm 6) .nil)))) (.over (.var 7)) .nil (.gen (.nm 10) (.over (.tup (.cons (.int 0) (.cons (.var 3) .nil)))) .nil .nil)))) .nil))) .nil)
def b_is_pattern_2 : SX := (.cons (.cond (.not (.call "are_seams" (.cons (.dc [5, 7] false (.var 5) (.bi .len (.cons (.var 7) .nil)) (.gen (.tp (.cons (.nm 5) (.cons (.nm 7) .nil))) (.over (.var 1)) .nil .nil)) (.cons (.var 2) .nil))))
 (.cons (.ret (.bl false)) .nil)
 .nil) b_is_pattern_1)
def b_is_pattern_3 : SX := (.cons (.cond (.or (.cons (.not (.call "are_ascending" (.cons (.lc [5, 6] (.var 5) (.gen (.tp (.cons (.nm 5) (.cons (.nm 6) .nil))) (.over (.var 1)) .nil .nil)) .nil))) (.cons (.not (.call "is_within" (.cons (.var 3) (.cons (.int 0) (.cons (.glb "TOP_SIZE") .nil))))) .nil)))
 (.cons (.ret (.bl false)) .nil)
 .nil) b_is_pattern_2)
def b_is_pattern_4 : SX := (.cons (.cond (.or (.cons (.not (.chain .LtE .LtE (.int 1) (.bi .len (.cons (.var 1) .nil)) (.glb "MOST_PIECES"))) (.cons (.not (.bi .all (.cons (.lc [4] (.call "is_piece" (.cons (.var 4) .nil)) (.gen (.nm 4) (.over (.var 1)) .nil .nil)) .nil))) .nil)))
 (.cons (.ret (.bl false)) .nil)
 .nil) b_is_pattern_3)
def b_is_pattern_5 : SX := (.cons (.setT (.tp (.cons (.nm 1) (.cons (.nm 2) (.cons (.nm 3) .nil)))) (.var 0)) b_is_pattern_4)
def b_is_pattern_6 : SX := (.cons (.cond (.or (.cons (.not (.isi (.var 0) .tuple)) (.cons (.cmp .NotEq (.bi .len (.cons (.var 0) .nil)) (.int 3)) (.cons (.not (.isi (.ix (.var 0) (.int 0)) .tuple)) .nil))))
 (.cons (.ret (.bl false)) .nil)
 .nil) b_is_pattern_5)
/-- is_pattern: value=0 pieces=1 seams=2 top=3 piece=4 name=5 _=6 edges=7 base=8 step=9 size=10 -/
def b_is_pattern : SX :=
 b_is_pattern_6

def b_check_pattern_1 : SX := (.cons (.cond (.not (.call "is_pattern" (.cons (.var 0) .nil)))
 (.cons (.raise "NotRight" "this is no pattern") .nil)
 .nil) .nil)
/-- check_pattern: pattern=0 -/
def b_check_pattern : SX :=
 b_check_pattern_1

def b_check_size_1 : SX := (.cons (.cond (.not (.call "is_within" (.cons (.var 1) (.cons (.int 0) (.cons (.ix (.var 0) (.int 2)) .nil)))))
 (.cons (.raise "NotThere" "there is no such size") .nil)
 .nil) .nil)
/-- check_size: pattern=0 size=1 -/
def b_check_size : SX :=
 b_check_size_1

def b_check_seam_1 : SX := (.cons (.cond (.not (.call "is_within" (.cons (.var 1) (.cons (.int 0) (.cons (.bin .Sub (.bi .len (.cons (.ix (.var 0) (.int 1)) .nil)) (.int 1)) .nil)))))
 (.cons (.raise "NotThere" "there is no such seam") .nil)
 .nil) .nil)
/-- check_seam: pattern=0 number=1 -/
def b_check_seam : SX :=
 b_check_seam_1

/-- all_edges: pattern=0 name=1 edges=2 at=3 -/
def b_all_edges : SX :=
 (.cons (.ret (.new (.lc [1, 2, 3] (.tup (.cons (.var 1) (.cons (.var 3) .nil))) (.gen (.tp (.cons (.nm 1) (.cons (.nm 2) .nil))) (.over (.ix (.var 0) (.int 0))) .nil (.gen (.nm 3) (.range (.cons (.bi .len (.cons (.var 2) .nil)) .nil)) .nil .nil))))) .nil)

def b_seams_by_edges_1 : SX := (.cons (.ret (.var 1)) .nil)
def b_seams_by_edges_2 : SX := (.cons (.setIx (.var 1) (.var 4) (.var 2)) .nil)
def b_seams_by_edges_3 : SX := (.cons (.setIx (.var 1) (.var 3) (.var 2)) b_seams_by_edges_2)
def b_seams_by_edges_4 : SX := (.cons (.loop (.tp (.cons (.nm 2) (.cons (.tp (.cons (.nm 3) (.cons (.nm 4) (.cons (.nm 5) (.cons (.nm 5) .nil))))) .nil))) (.enum (.ix (.var 0) (.int 1)))
 b_seams_by_edges_3) b_seams_by_edges_1)
def b_seams_by_edges_5 : SX := (.cons (.set 1 (.new (.dct true .nil .nil))) b_seams_by_edges_4)
/-- seams_by_edges: pattern=0 found=1 number=2 one=3 other=4 _=5 -/
def b_seams_by_edges : SX :=
 b_seams_by_edges_5

def b_free_edges_1 : SX := (.cons (.ret (.new (.lc [2] (.var 2) (.gen (.nm 2) (.over (.call "all_edges" (.cons (.var 0) .nil))) (.cons (.cmp .NotIn (.var 2) (.var 1)) .nil) .nil)))) .nil)
def b_free_edges_2 : SX := (.cons (.set 1 (.call "seams_by_edges" (.cons (.var 0) .nil))) b_free_edges_1)
/-- free_edges: pattern=0 sewn=1 edge=2 -/
def b_free_edges : SX :=
 b_free_edges_2

def b_check_edge_1 : SX := (.cons (.cond (.cmp .NotIn (.var 1) (.call "all_edges" (.cons (.var 0) .nil)))
 (.cons (.raise "NotThere" "there is no such edge") .nil)
 .nil) .nil)
/-- check_edge: pattern=0 edge=1 -/
def b_check_edge : SX :=
 b_check_edge_1

def b_edges_of_1 : SX := (.cons (.ret (.new (.call "all_edges" (.cons (.var 0) .nil)))) .nil)
def b_edges_of_2 : SX := (.cons (.expr (.call "check_pattern" (.cons (.var 0) .nil))) b_edges_of_1)
/-- edges_of: pattern=0 -/
def b_edges_of : SX :=
 b_edges_of_2

def b_hems_of_1 : SX := (.cons (.ret (.new (.call "free_edges" (.cons (.var 0) .nil)))) .nil)
def b_hems_of_2 : SX := (.cons (.expr (.call "check_pattern" (.cons (.var 0) .nil))) b_hems_of_1)
/-- hems_of: pattern=0 -/
def b_hems_of : SX :=
 b_hems_of_2

def b_seam_at_1 : SX := (.cons (.ret (.mth .get (.call "seams_by_edges" (.cons (.var 0) .nil)) (.cons (.var 1) .nil))) .nil)
def b_seam_at_2 : SX := (.cons (.expr (.call "check_edge" (.cons (.var 0) (.cons (.var 1) .nil)))) b_seam_at_1)
def b_seam_at_3 : SX := (.cons (.expr (.call "check_pattern" (.cons (.var 0) .nil))) b_seam_at_2)
/-- seam_at: pattern=0 edge=1 -/
def b_seam_at : SX :=
 b_seam_at_3

def b_long_in_1 : SX := (.cons (.ret (.bin .Add (.var 3) (.bin .Mult (.var 2) (.var 4)))) .nil)
def b_long_in_2 : SX := (.cons (.setT (.tp (.cons (.nm 3) (.cons (.nm 4) (.cons (.nm 5) .nil)))) (.ix (.ix (.ty .dict (.cons (.ix (.var 0) (.int 0)) .nil)) (.ix (.var 1) (.int 0))) (.ix (.var 1) (.int 1)))) b_long_in_1)
/-- long_in: pattern=0 edge=1 size=2 base=3 step=4 _=5 -/
def b_long_in : SX :=
 b_long_in_2

def b_length_of_1 : SX := (.cons (.ret (.call "long_in" (.cons (.var 0) (.cons (.var 1) (.cons (.var 2) .nil))))) .nil)
def b_length_of_2 : SX := (.cons (.expr (.call "check_size" (.cons (.var 0) (.cons (.var 2) .nil)))) b_length_of_1)
def b_length_of_3 : SX := (.cons (.expr (.call "check_edge" (.cons (.var 0) (.cons (.var 1) .nil)))) b_length_of_2)
def b_length_of_4 : SX := (.cons (.expr (.call "check_pattern" (.cons (.var 0) .nil))) b_length_of_3)
/-- length_of: pattern=0 edge=1 size=2 -/
def b_length_of : SX :=
 b_length_of_4

def b_does_fit_1 : SX := (.cons (.ret (.cmp .LtE (.bi .abs (.cons (.bin .Sub (.call "long_in" (.cons (.var 0) (.cons (.var 3) (.cons (.var 2) .nil)))) (.call "long_in" (.cons (.var 0) (.cons (.var 4) (.cons (.var 2) .nil))))) .nil)) (.var 6))) .nil)
def b_does_fit_2 : SX := (.cons (.setT (.tp (.cons (.nm 3) (.cons (.nm 4) (.cons (.nm 5) (.cons (.nm 6) .nil))))) (.ix (.ix (.var 0) (.int 1)) (.var 1))) b_does_fit_1)
/-- does_fit: pattern=0 number=1 size=2 one=3 other=4 _=5 ease=6 -/
def b_does_fit : SX :=
 b_does_fit_2

def b_fits_1 : SX := (.cons (.ret (.call "does_fit" (.cons (.var 0) (.cons (.var 1) (.cons (.var 2) .nil))))) .nil)
def b_fits_2 : SX := (.cons (.expr (.call "check_size" (.cons (.var 0) (.cons (.var 2) .nil)))) b_fits_1)
def b_fits_3 : SX := (.cons (.expr (.call "check_seam" (.cons (.var 0) (.cons (.var 1) .nil)))) b_fits_2)
def b_fits_4 : SX := (.cons (.expr (.call "check_pattern" (.cons (.var 0) .nil))) b_fits_3)
/-- fits: pattern=0 seam=1 size=2 -/
def b_fits : SX :=
 b_fits_4

def b_fit_sizes_1 : SX := (.cons (.ret (.ite (.cmp .Gt (.bi .len (.cons (.var 2) .nil)) (.int 0)) (.tup (.cons (.ix (.var 2) (.int 0)) (.cons (.ix (.var 2) (.neg (.int 1))) .nil))) .non)) .nil)
def b_fit_sizes_2 : SX := (.cons (.set 2 (.lc [3] (.var 3) (.gen (.nm 3) (.range (.cons (.bin .Add (.ix (.var 0) (.int 2)) (.int 1)) .nil)) (.cons (.call "does_fit" (.cons (.var 0) (.cons (.var 1) (.cons (.var 3) .nil)))) .nil) .nil))) b_fit_sizes_1)
def b_fit_sizes_3 : SX := (.cons (.expr (.call "check_seam" (.cons (.var 0) (.cons (.var 1) .nil)))) b_fit_sizes_2)
def b_fit_sizes_4 : SX := (.cons (.expr (.call "check_pattern" (.cons (.var 0) .nil))) b_fit_sizes_3)
/-- fit_sizes: pattern=0 seam=1 found=2 size=3 -/
def b_fit_sizes : SX :=
 b_fit_sizes_4

def b_misfits_1 : SX := (.cons (.ret (.var 1)) .nil)
def b_misfits_2 : SX := (.cons (.cond (.cmp .Gt (.bi .len (.cons (.var 3) .nil)) (.int 0))
 (.cons (.expr (.mth .append (.var 1) (.cons (.tup (.cons (.var 2) (.cons (.ix (.var 3) (.int 0)) .nil))) .nil))) .nil)
 .nil) .nil)
def b_misfits_3 : SX := (.cons (.set 3 (.lc [4] (.var 4) (.gen (.nm 4) (.range (.cons (.bin .Add (.ix (.var 0) (.int 2)) (.int 1)) .nil)) (.cons (.not (.call "does_fit" (.cons (.var 0) (.cons (.var 2) (.cons (.var 4) .nil))))) .nil) .nil))) b_misfits_2)
def b_misfits_4 : SX := (.cons (.loop (.nm 2) (.range (.cons (.bi .len (.cons (.ix (.var 0) (.int 1)) .nil)) .nil))
 b_misfits_3) b_misfits_1)
def b_misfits_5 : SX := (.cons (.set 1 (.new (.lst .nil))) b_misfits_4)
def b_misfits_6 : SX := (.cons (.expr (.call "check_pattern" (.cons (.var 0) .nil))) b_misfits_5)
/-- misfits: pattern=0 found=1 number=2 wrong=3 size=4 -/
def b_misfits : SX :=
 b_misfits_6

def b_law_draws_1 : SX := (.cons (.ret (.new (.bi .revlist (.cons (.var 1) .nil)))) .nil)
def b_law_draws_2 : SX := (.cons (.expr (.mth .append (.var 1) (.cons (.bin .FloorDiv (.var 2) (.int 5)) .nil))) .nil)
def b_law_draws_3 : SX := (.cons (.set 2 (.bin .Mod (.ty .int (.cons (.bin .Add (.bin .Mult (.var 2) (.int 48271)) (.int 69621)) .nil)) (.int 2147483647))) b_law_draws_2)
def b_law_draws_4 : SX := (.cons (.loop (.nm 5) (.range (.cons (.int 700) .nil))
 b_law_draws_3) b_law_draws_1)
def b_law_draws_5 : SX := (.cons (.set 4 (.bin .FloorDiv (.var 4) (.int 997))) .nil)
def b_law_draws_6 : SX := (.cons (.expr (.mth .append (.var 1) (.cons (.bin .Mod (.ty .int (.cons (.var 4) .nil)) (.int 997)) .nil))) b_law_draws_5)
def b_law_draws_7 : SX := (.cons (.cond (.cmp .Gt (.var 4) (.int 0))
 b_law_draws_6
 .nil) .nil)
def b_law_draws_8 : SX := (.cons (.loop (.nm 5) (.range (.cons (.int 60) .nil))
 b_law_draws_7) .nil)
def b_law_draws_9 : SX := (.cons (.set 4 (.int 0)) .nil)
def b_law_draws_10 : SX := (.cons (.expr (.mth .append (.var 1) (.cons (.bin .Mod (.ty .int (.cons (.var 2) .nil)) (.int 65521)) .nil))) b_law_draws_9)
def b_law_draws_11 : SX := (.cons (.expr (.mth .append (.var 1) (.cons (.bin .Mod (.ty .int (.cons (.var 4) .nil)) (.int 997)) .nil))) b_law_draws_10)
def b_law_draws_12 : SX := (.cons (.cond (.cmp .Lt (.var 4) (.bin .Pow (.int 10) (.int 18)))
 b_law_draws_11
 .nil) b_law_draws_8)
def b_law_draws_13 : SX := (.cons (.set 2 (.bin .Mod (.ty .int (.cons (.bin .Add (.bin .Add (.bin .Mult (.var 2) (.int 48271)) (.var 4)) (.int 1)) .nil)) (.int 2147483647))) b_law_draws_12)
def b_law_draws_14 : SX := (.cons (.set 4 (.bi .abs (.cons (.ty .int (.cons (.var 3) .nil)) .nil))) b_law_draws_13)
def b_law_draws_15 : SX := (.cons (.loop (.nm 3) (.over (.var 0))
 b_law_draws_14) b_law_draws_4)
def b_law_draws_16 : SX := (.cons (.set 2 (.int 11)) b_law_draws_15)
def b_law_draws_17 : SX := (.cons (.set 1 (.new (.lst .nil))) b_law_draws_16)
/-- _law_draws: script=0 draws=1 seed=2 cell=3 number=4 k=5 -/
def b_law_draws : SX :=
 b_law_draws_17

def b_law_take_1 : SX := (.cons (.ret (.bin .Mod (.ty .int (.cons (.mth .pop (.var 0) .nil) .nil)) (.var 1))) .nil)
def b_law_take_2 : SX := (.cons (.cond (.cmp .Eq (.bi .len (.cons (.var 0) .nil)) (.int 0))
 (.cons (.ret (.int 0)) .nil)
 .nil) b_law_take_1)
/-- _law_take: draws=0 bound=1 -/
def b_law_take : SX :=
 b_law_take_2

/-- _law_pick: draws=0 some=1 -/
def b_law_pick : SX :=
 (.cons (.ret (.ix (.var 1) (.call "_law_take" (.cons (.var 0) (.cons (.bi .len (.cons (.var 1) .nil)) .nil))))) .nil)

def b_law_same_1 : SX := (.cons (.ret (.cmp .Eq (.var 0) (.var 1))) .nil)
def b_law_same_2 : SX := (.cons (.cond (.or (.cons (.cmp .NotEq (.isi (.var 1) .int) (.isi (.var 0) .int)) (.cons (.cmp .NotEq (.isi (.var 1) .str) (.isi (.var 0) .str)) .nil)))
 (.cons (.ret (.bl false)) .nil)
 .nil) b_law_same_1)
def b_law_same_3 : SX := (.cons (.cond (.cmp .NotEq (.isi (.var 1) .bool) (.isi (.var 0) .bool))
 (.cons (.ret (.bl false)) .nil)
 .nil) b_law_same_2)
def b_law_same_4 : SX := (.cons (.ret (.bl true)) .nil)
def b_law_same_5 : SX := (.cons (.cond (.not (.call "_law_same" (.cons (.ix (.var 0) (.var 2)) (.cons (.ix (.var 1) (.var 2)) .nil))))
 (.cons (.ret (.bl false)) .nil)
 .nil) .nil)
def b_law_same_6 : SX := (.cons (.loop (.nm 2) (.range (.cons (.bi .len (.cons (.var 1) .nil)) .nil))
 b_law_same_5) b_law_same_4)
def b_law_same_7 : SX := (.cons (.cond (.cmp .NotEq (.bi .len (.cons (.var 0) .nil)) (.bi .len (.cons (.var 1) .nil)))
 (.cons (.ret (.bl false)) .nil)
 .nil) b_law_same_6)
def b_law_same_8 : SX := (.cons (.cond (.or (.cons (.cmp .NotEq (.isi (.var 1) .tuple) (.isi (.var 0) .tuple)) (.cons (.cmp .NotEq (.isi (.var 1) .list) (.isi (.var 0) .list)) .nil)))
 (.cons (.ret (.bl false)) .nil)
 .nil) b_law_same_7)
def b_law_same_9 : SX := (.cons (.cond (.or (.cons (.isi (.var 1) .tuple) (.cons (.isi (.var 1) .list) .nil)))
 b_law_same_8
 .nil) b_law_same_3)
def b_law_same_10 : SX := (.cons (.cond (.cmp .Is (.var 1) .non)
 (.cons (.ret (.cmp .Is (.var 0) .non)) .nil)
 .nil) b_law_same_9)
/-- _law_same: actual=0 due=1 k=2 -/
def b_law_same : SX :=
 b_law_same_10

def b_law_mixed_1 : SX := (.cons (.ret (.var 3)) .nil)
def b_law_mixed_2 : SX := (.cons (.loop (.nm 4) (.range (.cons (.bi .len (.cons (.var 1) .nil)) .nil))
 (.cons (.expr (.mth .append (.var 3) (.cons (.mth .pop (.var 2) (.cons (.call "_law_take" (.cons (.var 0) (.cons (.bi .len (.cons (.var 2) .nil)) .nil))) .nil)) .nil))) .nil)) b_law_mixed_1)
def b_law_mixed_3 : SX := (.cons (.set 3 (.new (.lst .nil))) b_law_mixed_2)
def b_law_mixed_4 : SX := (.cons (.set 2 (.new (.ty .list (.cons (.var 1) .nil)))) b_law_mixed_3)
/-- _law_mixed: draws=0 some=1 left=2 found=3 k=4 -/
def b_law_mixed : SX :=
 b_law_mixed_4

def b_law_angles_1 : SX := (.cons (.ret (.var 2)) .nil)
def b_law_angles_2 : SX := (.cons (.augIx (.var 2) (.var 5) .Add (.var 6)) .nil)
def b_law_angles_3 : SX := (.cons (.augIx (.var 2) (.var 4) .Sub (.var 6)) b_law_angles_2)
def b_law_angles_4 : SX := (.cons (.set 6 (.call "_law_take" (.cons (.var 0) (.cons (.bin .Add (.int 1) (.bi .min (.cons (.bin .Sub (.ix (.var 2) (.var 4)) (.int 1)) (.cons (.bin .Sub (.int 359) (.ix (.var 2) (.var 5))) .nil)))) .nil)))) b_law_angles_3)
def b_law_angles_5 : SX := (.cons (.cond (.cmp .NotEq (.var 4) (.var 5))
 b_law_angles_4
 .nil) .nil)
def b_law_angles_6 : SX := (.cons (.par 4 5 (.call "_law_take" (.cons (.var 0) (.cons (.var 1) .nil))) (.call "_law_take" (.cons (.var 0) (.cons (.var 1) .nil)))) b_law_angles_5)
def b_law_angles_7 : SX := (.cons (.loop (.nm 3) (.range (.cons (.call "_law_pick" (.cons (.var 0) (.cons (.lst (.cons (.int 0) (.cons (.int 2) (.cons (.var 1) .nil)))) .nil))) .nil))
 b_law_angles_6) b_law_angles_1)
def b_law_angles_8 : SX := (.cons (.augIx (.var 2) (.int 0) .Add (.bin .Sub (.bin .Mult (.bin .Sub (.var 1) (.int 2)) (.int 180)) (.bi .sum (.cons (.var 2) .nil)))) b_law_angles_7)
def b_law_angles_9 : SX := (.cons (.set 2 (.new (.bin .Mult (.lst (.cons (.bin .FloorDiv (.bin .Mult (.bin .Sub (.var 1) (.int 2)) (.int 180)) (.var 1)) .nil)) (.var 1)))) b_law_angles_8)
/-- _law_angles: draws=0 count=1 angles=2 turn=3 i=4 j=5 more=6 -/
def b_law_angles : SX :=
 b_law_angles_9

def b_law_edge_1 : SX := (.cons (.ret (.tup (.cons (.call "_law_pick" (.cons (.var 0) (.cons (.lst (.cons (.var 4) (.cons (.int 400) (.cons (.int 400) (.cons (.int 600) (.cons (.bin .Add (.var 4) (.call "_law_take" (.cons (.var 0) (.cons (.int 900) .nil)))) (.cons (.int 10000) .nil))))))) .nil))) (.cons (.var 3) (.cons (.var 2) .nil))))) .nil)
def b_law_edge_2 : SX := (.cons (.set 4 (.bi .max (.cons (.int 1) (.cons (.bin .Sub (.int 1) (.bin .Mult (.var 1) (.var 3))) .nil)))) b_law_edge_1)
def b_law_edge_3 : SX := (.cons (.set 3 (.call "_law_pick" (.cons (.var 0) (.cons (.lst (.cons (.int 0) (.cons (.int 0) (.cons (.int 5) (.cons (.int 10) (.cons (.int 10) (.cons (.neg (.int 3)) (.cons (.int 50) (.cons (.neg (.int 50)) (.cons (.bin .Sub (.call "_law_take" (.cons (.var 0) (.cons (.int 101) .nil))) (.int 50)) .nil)))))))))) .nil)))) b_law_edge_2)
/-- _law_edge: draws=0 top=1 angle=2 step=3 low=4 -/
def b_law_edge : SX :=
 b_law_edge_3

def b_law_pieces_1 : SX := (.cons (.ret (.ty .tuple (.cons (.var 4) .nil))) .nil)
def b_law_pieces_2 : SX := (.cons (.expr (.mth .append (.var 4) (.cons (.tup (.cons (.var 5) (.cons (.ty .tuple (.cons (.lc [10, 11, 9] (.tup (.cons (.bi .max (.cons (.var 10) (.cons (.bin .Sub (.int 1) (.bin .Mult (.var 3) (.var 11))) .nil))) (.cons (.var 11) (.cons (.var 9) .nil)))) (.gen (.tp (.cons (.nm 10) (.cons (.nm 11) (.cons (.nm 9) .nil)))) (.over (.var 8)) .nil .nil)) .nil)) .nil))) .nil))) .nil)
def b_law_pieces_3 : SX := (.cons (.set 8 (.lc [9] (.call "_law_edge" (.cons (.var 0) (.cons (.var 3) (.cons (.var 9) .nil)))) (.gen (.nm 9) (.over (.var 7)) .nil .nil))) b_law_pieces_2)
def b_law_pieces_4 : SX := (.cons (.set 7 (.call "_law_angles" (.cons (.var 0) (.cons (.var 6) .nil)))) b_law_pieces_3)
def b_law_pieces_5 : SX := (.cons (.set 6 (.bin .Add (.int 3) (.call "_law_take" (.cons (.var 0) (.cons (.bin .Sub (.var 2) (.int 2)) .nil))))) b_law_pieces_4)
def b_law_pieces_6 : SX := (.cons (.loop (.nm 5) (.over (.var 1))
 b_law_pieces_5) b_law_pieces_1)
def b_law_pieces_7 : SX := (.cons (.set 4 (.new (.lst .nil))) b_law_pieces_6)
/-- _law_pieces: draws=0 names=1 most=2 top=3 pieces=4 name=5 count=6 angles=7 edges=8 angle=9 base=10 step=11 -/
def b_law_pieces : SX :=
 b_law_pieces_7

def b_law_seams_1 : SX := (.cons (.ret (.ty .tuple (.cons (.bi .sorted (.cons (.var 6) .nil)) .nil))) .nil)
def b_law_seams_2 : SX := (.cons (.expr (.mth .append (.var 6) (.cons (.tup (.cons (.var 8) (.cons (.var 9) (.cons (.call "_law_pick" (.cons (.var 0) (.cons (.lst (.cons (.str "even") (.cons (.str "even") (.cons (.str "odd") .nil)))) .nil))) (.cons (.call "_law_pick" (.cons (.var 0) (.cons (.lst (.cons (.int 0) (.cons (.int 0) (.cons (.int 2) (.cons (.int 50) (.cons (.int 200) (.cons (.call "_law_take" (.cons (.var 0) (.cons (.int 201) .nil))) .nil))))))) .nil))) .nil))))) .nil))) .nil)
def b_law_seams_3 : SX := (.cons (.setT (.tp (.cons (.nm 8) (.cons (.nm 9) .nil))) (.bi .sorted (.cons (.lst (.cons (.ix (.var 3) (.bin .Mult (.int 2) (.var 7))) (.cons (.ix (.var 3) (.bin .Add (.bin .Mult (.int 2) (.var 7)) (.int 1))) .nil))) .nil))) b_law_seams_2)
def b_law_seams_4 : SX := (.cons (.loop (.nm 7) (.range (.cons (.bi .min (.cons (.var 2) (.cons (.bin .FloorDiv (.bi .len (.cons (.var 3) .nil)) (.int 2)) .nil))) .nil))
 b_law_seams_3) b_law_seams_1)
def b_law_seams_5 : SX := (.cons (.set 6 (.new (.lst .nil))) b_law_seams_4)
def b_law_seams_6 : SX := (.cons (.set 3 (.call "_law_mixed" (.cons (.var 0) (.cons (.var 3) .nil)))) b_law_seams_5)
def b_law_seams_7 : SX := (.cons (.set 3 (.bin .Add (.var 3) (.lc [7] (.tup (.cons (.var 4) (.cons (.var 7) .nil))) (.gen (.nm 7) (.range (.cons (.bi .len (.cons (.var 5) .nil)) .nil)) .nil .nil)))) .nil)
def b_law_seams_8 : SX := (.cons (.loop (.tp (.cons (.nm 4) (.cons (.nm 5) .nil))) (.over (.var 1))
 b_law_seams_7) b_law_seams_6)
def b_law_seams_9 : SX := (.cons (.set 3 (.lst .nil)) b_law_seams_8)
/-- _law_seams: draws=0 pieces=1 many=2 edges=3 name=4 some=5 found=6 k=7 one=8 other=9 -/
def b_law_seams : SX :=
 b_law_seams_9

def b_law_pattern_1 : SX := (.cons (.ret (.tup (.cons (.var 5) (.cons (.call "_law_seams" (.cons (.var 0) (.cons (.var 5) (.cons (.call "_law_take" (.cons (.var 0) (.cons (.bin .Add (.bin .Mult (.int 2) (.var 1)) (.int 2)) .nil))) .nil)))) (.cons (.var 4) .nil))))) .nil)
def b_law_pattern_2 : SX := (.cons (.set 5 (.call "_law_pieces" (.cons (.var 0) (.cons (.var 3) (.cons (.var 2) (.cons (.var 4) .nil)))))) b_law_pattern_1)
def b_law_pattern_3 : SX := (.cons (.set 4 (.call "_law_pick" (.cons (.var 0) (.cons (.lst (.cons (.int 0) (.cons (.int 1) (.cons (.int 5) (.cons (.int 8) (.cons (.int 60) (.cons (.call "_law_take" (.cons (.var 0) (.cons (.int 61) .nil))) .nil))))))) .nil)))) b_law_pattern_2)
def b_law_pattern_4 : SX := (.cons (.set 3 (.bi .sorted (.cons (.slc (.call "_law_mixed" (.cons (.var 0) (.cons (.lst (.cons (.str "a") (.cons (.str "a1") (.cons (.str "back") (.cons (.str "b") (.cons (.str "cuff") (.cons (.str "front") (.cons (.str "p0") (.cons (.str "p10") (.cons (.str "p2") (.cons (.str "sleeve") (.cons (.str "abcdefghijkl") (.cons (.str "z") .nil))))))))))))) .nil))) .non (.var 1)) .nil))) b_law_pattern_3)
/-- _law_pattern: draws=0 many=1 most=2 names=3 top=4 pieces=5 -/
def b_law_pattern : SX :=
 b_law_pattern_4

def b_law_told_1 : SX := (.cons (.ret (.call "misfits" (.cons (.var 1) .nil))) .nil)
def b_law_told_2 : SX := (.cons (.cond (.cmp .Eq (.var 0) (.int 3))
 (.cons (.ret (.call "fit_sizes" (.cons (.var 1) (.cons (.var 2) .nil)))) .nil)
 .nil) b_law_told_1)
def b_law_told_3 : SX := (.cons (.cond (.cmp .Eq (.var 0) (.int 2))
 (.cons (.ret (.call "fits" (.cons (.var 1) (.cons (.var 2) (.cons (.var 3) .nil))))) .nil)
 .nil) b_law_told_2)
def b_law_told_4 : SX := (.cons (.cond (.cmp .Eq (.var 0) (.int 1))
 (.cons (.ret (.call "seam_at" (.cons (.var 1) (.cons (.var 2) .nil)))) .nil)
 .nil) b_law_told_3)
def b_law_told_5 : SX := (.cons (.cond (.cmp .Eq (.var 0) (.int 0))
 (.cons (.ret (.call "length_of" (.cons (.var 1) (.cons (.var 2) (.cons (.var 3) .nil))))) .nil)
 .nil) b_law_told_4)
def b_law_told_6 : SX := (.cons (.tr b_law_told_5 (.flg "SeamError" "_law_flags" ["NotRight", "NotThere", "NoAnswer", "TooLarge", "Malformed"] .nil)) .nil)
/-- _law_told: which=0 pattern=1 edge=2 size=3 e=4 -/
def b_law_told : SX :=
 b_law_told_6

def b_law_bad_1 : SX := (.cons (.ret (.call "_law_pick" (.cons (.var 0) (.cons (.lst (.cons .non (.cons (.ty .list (.cons (.var 1) .nil)) (.cons (.tup (.cons (.var 2) (.cons (.var 3) (.cons (.int 61) .nil)))) (.cons (.tup (.cons (.var 2) (.cons (.var 3) (.cons (.neg (.int 1)) .nil)))) (.cons (.tup (.cons (.tup .nil) (.cons (.tup .nil) (.cons (.var 4) .nil)))) (.cons (.tup (.cons (.bin .Add (.slc (.var 2) .non (.int 1)) (.var 2)) (.cons (.var 3) (.cons (.var 4) .nil)))) (.cons (.tup (.cons (.bin .Add (.tup (.cons (.tup (.cons (.var 5) (.cons (.slc (.var 6) .non (.int 2)) .nil))) .nil)) (.slc (.var 2) (.int 1) .non)) (.cons (.tup .nil) (.cons (.var 4) .nil)))) (.cons (.tup (.cons (.bin .Add (.tup (.cons (.tup (.cons (.var 5) (.cons (.bin .Add (.tup (.cons (.tup (.cons (.var 7) (.cons (.var 8) (.cons (.bin .Add (.var 9) (.int 1)) .nil)))) .nil)) (.slc (.var 6) (.int 1) .non)) .nil))) .nil)) (.slc (.var 2) (.int 1) .non)) (.cons (.var 3) (.cons (.var 4) .nil)))) (.cons (.tup (.cons (.var 2) (.cons (.bin .Add (.var 3) (.tup (.cons (.tup (.cons (.tup (.cons (.str "zz") (.cons (.int 0) .nil))) (.cons (.tup (.cons (.str "zz") (.cons (.int 1) .nil))) (.cons (.str "even") (.cons (.int 0) .nil))))) .nil))) (.cons (.var 4) .nil)))) .nil)))))))))) .nil)))) .nil)
def b_law_bad_2 : SX := (.cons (.setT (.tp (.cons (.nm 7) (.cons (.nm 8) (.cons (.nm 9) .nil)))) (.ix (.var 6) (.int 0))) b_law_bad_1)
def b_law_bad_3 : SX := (.cons (.setT (.tp (.cons (.nm 5) (.cons (.nm 6) .nil))) (.ix (.var 2) (.int 0))) b_law_bad_2)
def b_law_bad_4 : SX := (.cons (.setT (.tp (.cons (.nm 2) (.cons (.nm 3) (.cons (.nm 4) .nil)))) (.var 1)) b_law_bad_3)
/-- _law_bad: draws=0 pattern=1 pieces=2 seams=3 top=4 name=5 edges=6 base=7 step=8 angle=9 -/
def b_law_bad : SX :=
 b_law_bad_4

def b_law_1 : SX := (.cons (.ret (.call "_law_same" (.cons (.lst (.cons (.call "edges_of" (.cons (.var 2) .nil)) (.cons (.call "hems_of" (.cons (.var 2) .nil)) .nil))) (.cons (.lst (.cons (.var 18) (.cons (.lc [14] (.var 14) (.gen (.nm 14) (.over (.var 18)) (.cons (.cmp .NotIn (.var 14) (.var 8)) .nil) .nil)) .nil))) .nil)))) .nil)
def b_law_2 : SX := (.cons (.set 18 (.bin .Add (.var 18) (.lc [9] (.tup (.cons (.var 10) (.cons (.var 9) .nil))) (.gen (.nm 9) (.range (.cons (.bi .len (.cons (.var 11) .nil)) .nil)) .nil .nil)))) .nil)
def b_law_3 : SX := (.cons (.loop (.tp (.cons (.nm 10) (.cons (.nm 11) .nil))) (.over (.var 3))
 b_law_2) b_law_1)
def b_law_4 : SX := (.cons (.set 18 (.lst .nil)) b_law_3)
def b_law_5 : SX := (.cons (.cond (.not (.call "_law_same" (.cons (.call "_law_told" (.cons (.var 17) (.cons (.var 16) (.cons (.var 14) (.cons (.call "_law_pick" (.cons (.var 1) (.cons (.lst (.cons (.int 0) (.cons (.neg (.int 1)) (.cons (.int 61) .nil)))) .nil))) .nil))))) (.cons (.var 6) .nil))))
 (.cons (.ret (.bl false)) .nil)
 .nil) .nil)
def b_law_6 : SX := (.cons (.set 14 (.call "_law_pick" (.cons (.var 1) (.cons (.lst (.cons (.int 0) (.cons (.neg (.int 1)) .nil))) .nil)))) .nil)
def b_law_7 : SX := (.cons (.cond (.cmp .Gt (.var 17) (.int 1))
 b_law_6
 .nil) b_law_5)
def b_law_8 : SX := (.cons (.set 14 (.var 13)) b_law_7)
def b_law_9 : SX := (.cons (.loop (.nm 17) (.range (.cons (.int 5) .nil))
 b_law_8) b_law_4)
def b_law_10 : SX := (.cons (.set 16 (.call "_law_bad" (.cons (.var 1) (.cons (.var 2) .nil)))) b_law_9)
def b_law_11 : SX := (.cons (.cond (.and (.cons (.cmp .Gt (.bi .len (.cons (.var 4) .nil)) (.int 0)) (.cons (.not (.call "_law_same" (.cons (.lst (.cons (.call "_law_told" (.cons (.int 2) (.cons (.var 2) (.cons (.int 0) (.cons (.bin .Add (.var 5) (.int 1)) .nil))))) (.cons (.call "_law_told" (.cons (.int 2) (.cons (.var 2) (.cons (.int 0) (.cons (.neg (.int 1)) .nil))))) .nil))) (.cons (.bin .Mult (.lst (.cons (.var 7) .nil)) (.int 2)) .nil)))) .nil)))
 (.cons (.ret (.bl false)) .nil)
 .nil) b_law_10)
def b_law_12 : SX := (.cons (.cond (.not (.call "_law_same" (.cons (.lst (.cons (.call "_law_told" (.cons (.int 2) (.cons (.var 2) (.cons (.var 15) (.cons (.var 12) .nil))))) (.cons (.call "_law_told" (.cons (.int 3) (.cons (.var 2) (.cons (.var 15) (.cons (.int 0) .nil))))) .nil))) (.cons (.bin .Mult (.lst (.cons (.var 7) .nil)) (.int 2)) .nil))))
 (.cons (.ret (.bl false)) .nil)
 .nil) .nil)
def b_law_13 : SX := (.cons (.loop (.tp (.cons (.nm 15) (.cons (.nm 12) .nil))) (.over (.lst (.cons (.tup (.cons (.bi .len (.cons (.var 4) .nil)) (.cons (.int 0) .nil))) (.cons (.tup (.cons (.neg (.int 1)) (.cons (.int 0) .nil))) (.cons (.tup (.cons (.bi .len (.cons (.var 4) .nil)) (.cons (.bin .Add (.var 5) (.int 1)) .nil))) .nil)))))
 b_law_12) b_law_11)
def b_law_14 : SX := (.cons (.cond (.not (.call "_law_same" (.cons (.call "_law_told" (.cons (.int 0) (.cons (.var 2) (.cons (.var 14) (.cons (.var 12) .nil))))) (.cons (.var 7) .nil))))
 (.cons (.ret (.bl false)) .nil)
 .nil) .nil)
def b_law_15 : SX := (.cons (.loop (.tp (.cons (.nm 14) (.cons (.nm 12) .nil))) (.over (.lst (.cons (.tup (.cons (.tup (.cons (.str "zz") (.cons (.int 0) .nil))) (.cons (.int 0) .nil))) (.cons (.tup (.cons (.var 13) (.cons (.bin .Add (.var 5) (.int 1)) .nil))) (.cons (.tup (.cons (.var 13) (.cons (.neg (.int 1)) .nil))) (.cons (.tup (.cons (.tup (.cons (.str "zz") (.cons (.int 0) .nil))) (.cons (.bin .Add (.var 5) (.int 1)) .nil))) .nil))))))
 b_law_14) b_law_13)
def b_law_16 : SX := (.cons (.set 13 (.tup (.cons (.ix (.ix (.var 3) (.int 0)) (.int 0)) (.cons (.int 0) .nil)))) b_law_15)
def b_law_17 : SX := (.cons (.cond (.not (.call "_law_same" (.cons (.lst (.cons (.call "_law_told" (.cons (.int 1) (.cons (.var 2) (.cons (.tup (.cons (.var 10) (.cons (.bi .len (.cons (.var 11) .nil)) .nil))) (.cons (.int 0) .nil))))) (.cons (.call "_law_told" (.cons (.int 0) (.cons (.var 2) (.cons (.tup (.cons (.var 10) (.cons (.bi .len (.cons (.var 11) .nil)) .nil))) (.cons (.int 0) .nil))))) (.cons (.call "_law_told" (.cons (.int 1) (.cons (.var 2) (.cons (.tup (.cons (.var 10) (.cons (.neg (.int 1)) .nil))) (.cons (.int 0) .nil))))) .nil)))) (.cons (.bin .Mult (.lst (.cons (.var 7) .nil)) (.int 3)) .nil))))
 (.cons (.ret (.bl false)) .nil)
 .nil) .nil)
def b_law_18 : SX := (.cons (.cond (.not (.call "_law_same" (.cons (.call "_law_told" (.cons (.int 1) (.cons (.var 2) (.cons (.tup (.cons (.var 10) (.cons (.var 9) .nil))) (.cons (.int 0) .nil))))) (.cons (.mth .get (.var 8) (.cons (.tup (.cons (.var 10) (.cons (.var 9) .nil))) (.cons .non .nil))) .nil))))
 (.cons (.ret (.bl false)) .nil)
 .nil) .nil)
def b_law_19 : SX := (.cons (.cond (.not (.call "_law_same" (.cons (.call "_law_told" (.cons (.int 0) (.cons (.var 2) (.cons (.tup (.cons (.var 10) (.cons (.var 9) .nil))) (.cons (.var 12) .nil))))) (.cons (.bin .Add (.ix (.ix (.var 11) (.var 9)) (.int 0)) (.bin .Mult (.var 12) (.ix (.ix (.var 11) (.var 9)) (.int 1)))) .nil))))
 (.cons (.ret (.bl false)) .nil)
 .nil) b_law_18)
def b_law_20 : SX := (.cons (.set 12 (.call "_law_pick" (.cons (.var 1) (.cons (.lst (.cons (.int 0) (.cons (.var 5) (.cons (.call "_law_take" (.cons (.var 1) (.cons (.bin .Add (.var 5) (.int 1)) .nil))) .nil)))) .nil)))) b_law_19)
def b_law_21 : SX := (.cons (.loop (.nm 9) (.range (.cons (.bi .len (.cons (.var 11) .nil)) .nil))
 b_law_20) b_law_17)
def b_law_22 : SX := (.cons (.loop (.tp (.cons (.nm 10) (.cons (.nm 11) .nil))) (.over (.var 3))
 b_law_21) b_law_16)
def b_law_23 : SX := (.cons (.setIx (.var 8) (.ix (.ix (.var 4) (.var 9)) (.int 1)) (.var 9)) .nil)
def b_law_24 : SX := (.cons (.setIx (.var 8) (.ix (.ix (.var 4) (.var 9)) (.int 0)) (.var 9)) b_law_23)
def b_law_25 : SX := (.cons (.loop (.nm 9) (.range (.cons (.bi .len (.cons (.var 4) .nil)) .nil))
 b_law_24) b_law_22)
def b_law_26 : SX := (.cons (.set 8 (.new (.dct true .nil .nil))) b_law_25)
def b_law_27 : SX := (.cons (.expr (.mth .append (.new (.call "hems_of" (.cons (.var 2) .nil))) (.cons (.tup (.cons (.str "zz") (.cons (.int 0) .nil))) .nil))) b_law_26)
def b_law_28 : SX := (.cons (.expr (.mth .append (.new (.call "edges_of" (.cons (.var 2) .nil))) (.cons (.tup (.cons (.str "zz") (.cons (.int 0) .nil))) .nil))) b_law_27)
def b_law_29 : SX := (.cons (.par 6 7 (.lst (.cons (.bl true) (.cons (.bl false) (.cons (.bl false) (.cons (.bl false) (.cons (.bl false) .nil)))))) (.lst (.cons (.bl false) (.cons (.bl true) (.cons (.bl false) (.cons (.bl false) (.cons (.bl false) .nil))))))) b_law_28)
def b_law_30 : SX := (.cons (.setT (.tp (.cons (.nm 3) (.cons (.nm 4) (.cons (.nm 5) .nil)))) (.var 2)) b_law_29)
def b_law_31 : SX := (.cons (.set 2 (.call "_law_pattern" (.cons (.var 1) (.cons (.bin .Add (.int 1) (.call "_law_take" (.cons (.var 1) (.cons (.int 6) .nil)))) (.cons (.int 8) .nil))))) b_law_30)
def b_law_32 : SX := (.cons (.set 1 (.new (.call "_law_draws" (.cons (.var 0) .nil)))) b_law_31)
/-- law: script=0 draws=1 pattern=2 pieces=3 seams=4 top=5 not_right=6 not_there=7 sewn=8 k=9 name=10 edges=11 size=12 own=13 edge=14 number=15 bad=16 which=17 due=18 -/
def b_law : SX :=
 b_law_32

def tbl : List (Str × Fn) :=
   ("is_name", ⟨1, 2, b_is_name⟩) ::
   ("are_ascending", ⟨1, 3, b_are_ascending⟩) ::
   ("is_within", ⟨3, 3, b_is_within⟩) ::
   ("is_edge", ⟨1, 4, b_is_edge⟩) ::
   ("is_piece", ⟨1, 5, b_is_piece⟩) ::
   ("is_spot", ⟨2, 2, b_is_spot⟩) ::
   ("is_seam", ⟨2, 6, b_is_seam⟩) ::
   ("are_seams", ⟨2, 5, b_are_seams⟩) ::
   ("is_pattern", ⟨1, 11, b_is_pattern⟩) ::
   ("check_pattern", ⟨1, 1, b_check_pattern⟩) ::
   ("check_size", ⟨2, 2, b_check_size⟩) ::
   ("check_seam", ⟨2, 2, b_check_seam⟩) ::
   ("all_edges", ⟨1, 4, b_all_edges⟩) ::
   ("seams_by_edges", ⟨1, 6, b_seams_by_edges⟩) ::
   ("free_edges", ⟨1, 3, b_free_edges⟩) ::
   ("check_edge", ⟨2, 2, b_check_edge⟩) ::
   ("edges_of", ⟨1, 1, b_edges_of⟩) ::
   ("hems_of", ⟨1, 1, b_hems_of⟩) ::
   ("seam_at", ⟨2, 2, b_seam_at⟩) ::
   ("long_in", ⟨3, 6, b_long_in⟩) ::
   ("length_of", ⟨3, 3, b_length_of⟩) ::
   ("does_fit", ⟨3, 7, b_does_fit⟩) ::
   ("fits", ⟨3, 3, b_fits⟩) ::
   ("fit_sizes", ⟨2, 4, b_fit_sizes⟩) ::
   ("misfits", ⟨1, 5, b_misfits⟩) ::
   ("_law_draws", ⟨1, 6, b_law_draws⟩) ::
   ("_law_take", ⟨2, 2, b_law_take⟩) ::
   ("_law_pick", ⟨2, 2, b_law_pick⟩) ::
   ("_law_same", ⟨2, 3, b_law_same⟩) ::
   ("_law_mixed", ⟨2, 5, b_law_mixed⟩) ::
   ("_law_angles", ⟨2, 7, b_law_angles⟩) ::
   ("_law_edge", ⟨3, 5, b_law_edge⟩) ::
   ("_law_pieces", ⟨4, 12, b_law_pieces⟩) ::
   ("_law_seams", ⟨3, 10, b_law_seams⟩) ::
   ("_law_pattern", ⟨3, 6, b_law_pattern⟩) ::
   ("_law_told", ⟨4, 5, b_law_told⟩) ::
   ("_law_bad", ⟨2, 10, b_law_bad⟩) ::
   ("law", ⟨1, 19, b_law⟩) :: []
def fns (x : Str) : Option Fn := tbl.lookup x

/-- the slots' names -/
def ntbl : List (Str × List Str) :=
   ("is_name", ["value", "sign"]) ::
   ("are_ascending", ["values", "one", "other"]) ::
   ("is_within", ["value", "low", "high"]) ::
   ("is_edge", ["value", "base", "step", "angle"]) ::
   ("is_piece", ["value", "edges", "edge", "_", "angle"]) ::
   ("is_spot", ["counts", "value"]) ::
   ("is_seam", ["counts", "value", "one", "other", "way", "ease"]) ::
   ("are_seams", ["counts", "value", "used", "seam", "edge"]) ::
   ("is_pattern", ["value", "pieces", "seams", "top", "piece", "name", "_", "edges", "base", "step", "size"]) ::
   ("check_pattern", ["pattern"]) ::
   ("check_size", ["pattern", "size"]) ::
   ("check_seam", ["pattern", "number"]) ::
   ("all_edges", ["pattern", "name", "edges", "at"]) ::
   ("seams_by_edges", ["pattern", "found", "number", "one", "other", "_"]) ::
   ("free_edges", ["pattern", "sewn", "edge"]) ::
   ("check_edge", ["pattern", "edge"]) ::
   ("edges_of", ["pattern"]) ::
   ("hems_of", ["pattern"]) ::
   ("seam_at", ["pattern", "edge"]) ::
   ("long_in", ["pattern", "edge", "size", "base", "step", "_"]) ::
   ("length_of", ["pattern", "edge", "size"]) ::
   ("does_fit", ["pattern", "number", "size", "one", "other", "_", "ease"]) ::
   ("fits", ["pattern", "seam", "size"]) ::
   ("fit_sizes", ["pattern", "seam", "found", "size"]) ::
   ("misfits", ["pattern", "found", "number", "wrong", "size"]) ::
   ("_law_draws", ["script", "draws", "seed", "cell", "number", "k"]) ::
   ("_law_take", ["draws", "bound"]) ::
   ("_law_pick", ["draws", "some"]) ::
   ("_law_same", ["actual", "due", "k"]) ::
   ("_law_mixed", ["draws", "some", "left", "found", "k"]) ::
   ("_law_angles", ["draws", "count", "angles", "turn", "i", "j", "more"]) ::
   ("_law_edge", ["draws", "top", "angle", "step", "low"]) ::
   ("_law_pieces", ["draws", "names", "most", "top", "pieces", "name", "count", "angles", "edges", "angle", "base", "step"]) ::
   ("_law_seams", ["draws", "pieces", "many", "edges", "name", "some", "found", "k", "one", "other"]) ::
   ("_law_pattern", ["draws", "many", "most", "names", "top", "pieces"]) ::
   ("_law_told", ["which", "pattern", "edge", "size", "e"]) ::
   ("_law_bad", ["draws", "pattern", "pieces", "seams", "top", "name", "edges", "base", "step", "angle"]) ::
   ("law", ["script", "draws", "pattern", "pieces", "seams", "top", "not_right", "not_there", "sewn", "k", "name", "edges", "size", "own", "edge", "number", "bad", "which", "due"]) :: []

def ctbl : List (Str × D) :=
  [("SMALL", .str "abcdefghijklmnopqrstuvwxyz"), ("FIGURES", .str "0123456789"), ("LONGEST", .int 12), ("EVEN", .str "even"), ("ODD", .str "odd"), ("HALF_TURN", .int 180), ("MOST_PIECES", .int 40), ("FEWEST_EDGES", .int 3), ("MOST_EDGES", .int 12), ("TOP_SIZE", .int 60), ("MOST_EASE", .int 200)]
def gc (x : Str) : Option D := ctbl.lookup x

end Pk

set_option Elab.async false
set_option linter.all false
set_option maxRecDepth 100000
set_option maxHeartbeats 400000
namespace Pk
open PySem PyD
variable {sub : Subs} {n b r : Nat} {v : D} {μ : Store} {Q : D → Store → Prop}
theorem s_takeW (hd : Dr r μ) {bd : Int} (hb : 0 < bd) (hQ : ∀ k ns, 0 ≤ k → k < bd → Q (.int k) (μ.set r (.lst (List.map D.int ns)))) : wp (PyD.run fns gc sub (n + 1) "_law_take" [.ref r, .int bd] μ) Q := by
  rw [run_succ (F := ⟨2, 2, b_law_take⟩) rfl rfl]
  have hr := hd.lt
  obtain ⟨ns, e⟩ := hd
  have hb0 : bd ≠ 0 := by omega
  match ns, e with
  | [], e =>
    simp -dsimp [isiD, binD, cmpD, partOf, biD, bl1, int1, lenD, asDct, asSeq, asLst, ixD, tyD, addD, slcD, b_law_take, b_law_take_2, biD, lenD, asDct, asSeq, e, eqD]
    have := hQ 0 [] (by omega) hb
    rwa [List.map_nil, set_self (by simpa using e)] at this
  | a :: ns, e =>
    have hlen : ¬ ((ns.length : Int) + 1 = 0) := by omega
    have hl : ∃ x : Int, (D.int a :: ns.map D.int)[ns.length]'(by simp) = .int x := by
      refine ⟨((a :: ns)[ns.length]'(by simp)), ?_⟩
      have : ((a :: ns).map D.int)[ns.length]'(by simp) = D.int ((a :: ns)[ns.length]'(by simp)) := by rw [List.getElem_map]
      simpa using this
    obtain ⟨x, hx⟩ := hl
    simp -dsimp [isiD, binD, cmpD, partOf, biD, bl1, int1, lenD, asDct, asSeq, asLst, ixD, tyD, addD, slcD, b_law_take, b_law_take_2, biD, lenD, asDct, asSeq, e, eqD, hlen, b_law_take_1, isRefL, mthD, hx, tyD, hb0]
    have e2 : (D.int a :: ns.map D.int).dropLast = ((a :: ns).dropLast).map D.int := by
      rw [← List.map_cons, List.map_dropLast]
    rw [e2]
    exact hQ _ _ (Int.fmod_nonneg_of_pos _ hb) (Int.fmod_lt_of_pos _ hb)
theorem s_pickW (hd : Dr r μ) {ds : List D} (hne : 0 < ds.length) (hl : ds.length ≤ 1000) (hQ : ∀ x ∈ ds, ∀ ns, Q x (μ.set r (.lst (List.map D.int ns)))) : wp (PyD.run fns gc sub (n + 2) "_law_pick" [.ref r, .lst ds] μ) Q := by
  rw [run_succ (F := ⟨2, 2, b_law_pick⟩) rfl rfl]
  simp -dsimp [isiD, binD, cmpD, partOf, biD, bl1, int1, lenD, asDct, asSeq, asLst, ixD, tyD, addD, slcD, b_law_pick, biD, lenD, asDct, asSeq]
  refine s_takeW hd (by omega) fun k ns h0 h1 => ?_
  obtain ⟨j, rfl⟩ : ∃ j : Nat, k = (j : Int) := ⟨k.toNat, by omega⟩
  have hj : j < ds.length := by omega
  simp only [after_same (show (μ.set r (M.lst (List.map D.int ns))).length ≤ μ.length by simp)]
  simp -dsimp [isiD, binD, cmpD, partOf, biD, bl1, int1, lenD, asDct, asSeq, asLst, ixD, tyD, addD, slcD, ixD, asDct, asSeq, List.getElem?_eq_getElem hj]
  exact hQ _ (List.getElem_mem hj) ns
theorem st_set (c : Cln μ) (hd : Dr r μ) (ns : List Int) : St r μ (μ.set r (.lst (List.map D.int ns))) :=
  ⟨by simp, fun j hj => by rw [List.getElem?_set_ne (Ne.symm hj)], c.set (m := .lst (ns.map .int)) (clns_ints _) r, ⟨ns, by rw [List.getElem?_set_self hd.lt]⟩⟩
theorem s_take (c : Cln μ) (hd : Dr r μ) {bd : Int} (hb : 0 < bd) (hQ : ∀ k μ', 0 ≤ k → k < bd → St r μ μ' → Q (.int k) μ') : wp (PyD.run fns gc sub (n + 1) "_law_take" [.ref r, .int bd] μ) Q :=
  s_takeW hd hb fun k ns h0 h1 => hQ k _ h0 h1 (st_set c hd ns)
theorem s_pick (c : Cln μ) (hd : Dr r μ) {ds : List D} (hne : 0 < ds.length) (hl : ds.length ≤ 1000) (hQ : ∀ x ∈ ds, ∀ μ', St r μ μ' → Q x μ') : wp (PyD.run fns gc sub (n + 2) "_law_pick" [.ref r, .lst ds] μ) Q :=
  s_pickW hd hne hl fun x hx ns => hQ x hx _ (st_set c hd ns)
theorem s_mixed (c : Cln μ) (hd : Dr r μ) {ds : List D} (hc : clns ds = true) (hl : ds.length ≤ 1000) (hQ : ∀ d m f μ1, after μ.length false d m = .ok (.v (.lst f)) μ1 → St r μ μ1 → f.Perm ds → Q d m) :
    wp (PyD.run fns gc sub (n + 2) "_law_mixed" [.ref r, .lst ds] μ) Q := by
  rw [run_succ (F := ⟨2, 5, b_law_mixed⟩) rfl rfl]
  have hr := hd.lt
  have hok : ok62 (ds.length : Int) = true := ok62_nat (by omega)
  simp -dsimp [isiD, binD, cmpD, partOf, biD, bl1, int1, lenD, asDct, asSeq, asLst, ixD, tyD, addD, slcD, b_law_mixed, b_law_mixed_4, tyD, asSeq, pushO, b_law_mixed_3, b_law_mixed_2, biD, lenD, asDct, rng1_ok hok]
  refine forL_inv (rangeD 0 ds.length) (fun rr ρ m => ∃ o4 μ1 l f, ρ = [some (.ref r), some (.lst ds), some (.ref μ.length), some (.ref (μ.length + 1)), o4] ∧ m = μ1 ++ [.lst l, .lst f] ∧ St r μ μ1 ∧ (l ++ f).Perm ds ∧ l.length = rr.length) _ _
    ⟨none, μ, ds, [], rfl, rfl, St.refl c hd, by simp, by rw [range_length]⟩ (fun d rr ρ m ⟨o4, μ1, l, f, e1, e2, st, h1, h3⟩ => ?_) fun ρ m ⟨o4, μ1, l, f, e1, e2, st, h1, h3⟩ => ?_
  · subst e1 e2
    have hlf : l.length + f.length = ds.length := by rw [← List.length_append]; exact h1.length_eq
    have cl : clns (l ++ f) = true := clns_iff.mpr fun x hx => clns_iff.mp hc x (h1.mem_iff.mp hx)
    rw [clns_append, Bool.and_eq_true] at cl
    have c2 : Cln (μ1 ++ [.lst l, .lst f]) := st.cl.app fun m hm => by
      simp only [List.mem_cons, List.not_mem_nil, or_false] at hm
      rcases hm with rfl | rfl
      · exact cl.1
      · exact cl.2
    have el := st.len
    have i0 : isRefL (μ1 ++ [.lst l, .lst f]) (.ref (μ.length + 1)) = true := by rw [← el]; simp [isRefL, List.getElem?_append_right]
    have i1 : isRefL (μ1 ++ [.lst l, .lst f]) (.ref μ.length) = true := by rw [← el]; simp [isRefL, List.getElem?_append_right]
    have g1 : (μ1 ++ [M.lst l, M.lst f])[μ.length]? = some (.lst l) := by rw [← el]; simp
    simp -dsimp [isiD, binD, cmpD, partOf, biD, bl1, int1, lenD, asDct, asSeq, asLst, ixD, tyD, addD, slcD, asg, i0, i1, biD, lenD, asDct, asSeq, g1]
    simp at h3
    refine s_take c2 st.dr.app (by omega) fun k μ' h5 h6 st' => ?_
    obtain ⟨μ2, rfl, st2⟩ := st'.split st.dr.lt
    have el2 := st2.len
    simp only [after_same (show (μ2 ++ [M.lst l, M.lst f]).length ≤ (μ1 ++ [M.lst l, M.lst f]).length by simp [el2])]
    obtain ⟨j, rfl⟩ : ∃ j : Nat, k = (j : Int) := ⟨k.toNat, by omega⟩
    have hj : j < l.length := by omega
    have g2 : (μ2 ++ [M.lst l, M.lst f])[μ.length]? = some (.lst l) := by rw [← el, ← el2]; simp
    have hx : seqIndex? (j : Int) l.length = some j := by rw [seqIndex_of (by omega) (by omega)]; simp
    have hb : -(2 ^ 63) ≤ (j : Int) ∧ (j : Int) < 2 ^ 63 := by
      have : j < 1001 := by omega
      omega
    have mp : mthD .pop (.ref μ.length) [.int j] (μ2 ++ [.lst l, .lst f]) = some (l[j], μ2 ++ [.lst (l.eraseIdx j), .lst f]) := by
      simp only [mthD, g2, hb, hx, List.getElem?_eq_getElem hj, and_self, if_true]
      rw [← el, ← el2]
      simp
    have hf : f.length < sizeLine := sl_lt (by omega)
    have g3 : (μ2 ++ [M.lst (l.eraseIdx j), M.lst f])[μ.length + 1]? = some (.lst f) := by rw [← el, ← el2]; simp [List.getElem?_append_right]
    have ma : mthD .append (.ref (μ.length + 1)) [l[j]] (μ2 ++ [.lst (l.eraseIdx j), .lst f]) = some (.non, μ2 ++ [.lst (l.eraseIdx j), .lst (f ++ [l[j]])]) := by
      simp only [mthD, g3, hf, if_true]
      rw [← el, ← el2]
      simp [List.set_append]
    simp -dsimp [isiD, binD, cmpD, partOf, biD, bl1, int1, lenD, asDct, asSeq, asLst, ixD, tyD, addD, slcD, mp, ma]
    refine ⟨μ2, l.eraseIdx j, f ++ [l[j]], rfl, st.trans st2, ?_, ?_⟩
    · refine List.Perm.trans ?_ h1
      have p1 := erase_perm hj
      have p2 : (l.eraseIdx j ++ (f ++ [l[j]])).Perm (l[j] :: l.eraseIdx j ++ f) := by
        rw [← List.append_assoc]
        exact List.perm_append_singleton _ _
      exact p2.trans (p1.append_right f)
    · rw [List.length_eraseIdx_of_lt hj]; omega
  · subst e1 e2
    have hln : l = [] := List.eq_nil_of_length_eq_zero (by simpa using h3)
    subst hln
    simp only [List.nil_append] at h1
    have clf : clns f = true := clns_iff.mpr fun x hx => clns_iff.mp hc x (h1.mem_iff.mp hx)
    have c2 : Cln (μ1 ++ [.lst [], .lst f]) := st.cl.app fun m hm => by
      simp only [List.mem_cons, List.not_mem_nil, or_false] at hm
      rcases hm with rfl | rfl
      · rfl
      · exact clf
    have el := st.len
    have g1 : (μ1 ++ [M.lst [], M.lst f])[μ.length + 1]? = some (.lst f) := by rw [← el]; simp [List.getElem?_append_right]
    simp -dsimp [isiD, binD, cmpD, partOf, biD, bl1, int1, lenD, asDct, asSeq, asLst, ixD, tyD, addD, slcD, b_law_mixed_1]
    refine hQ _ _ f μ1 ?_ st h1
    rw [after_ref c2 g1 (by omega)]
    congr 1
    rw [← el]
    simp
end Pk

set_option Elab.async false
set_option linter.all false
set_option maxRecDepth 100000
set_option maxHeartbeats 400000
namespace Pk
open PySem PyD
variable {sub : Subs} {n b r : Nat} {v : D} {μ : Store} {Q : D → Store → Prop}
/-- angles: so many, each within its bounds, summed up -/
structure Angs (c : Nat) (as : List Int) : Prop where
  len : as.length = c
  bd : ∀ a ∈ as, 1 ≤ a ∧ a ≤ 359
  sum : as.sum = ((c : Int) - 2) * 180
def AI (r c : Nat) (μ : Store) (L : Nat) (ρ : PyD.Env) (m : Store) : Prop := ∃ o3 o4 o5 o6 μ1 as, ρ = [some (.ref r), some (.int c), some (.ref L), o3, o4, o5, o6] ∧ m = μ1 ++ [.lst (as.map .int)] ∧ St r μ μ1 ∧ Angs c as ∧ L = μ1.length
theorem ixn {k n : Nat} (h : k < n) : L2.ixN n (k : Int) = some k := by
  unfold L2.ixN
  rw [if_pos (by omega), if_pos (by omega)]
  simp
theorem ag_6 {c : Nat} (h3 : 3 ≤ c) {L : Nat} {ρ : PyD.Env} {m : Store} {T : D → Store → Prop} (h : AI r c μ L ρ m) : wpS (evS (PyD.run fns gc sub (n + 1)) gc sub b_law_angles_6 ρ m) (AI r c μ L) T := by
  obtain ⟨o3, o4, o5, o6, μ1, as, rfl, rfl, st, ha, rfl⟩ := h
  have c1 : Cln (μ1 ++ [.lst (as.map .int)]) := st.cl.app (Cln.one (clns_ints as))
  simp -dsimp [isiD, binD, cmpD, partOf, biD, bl1, int1, lenD, asDct, asSeq, asLst, ixD, tyD, addD, slcD, b_law_angles_6]
  refine s_take c1 st.dr.app (by omega) fun i μ' i0 i1 st' => ?_
  obtain ⟨μ2, rfl, st2⟩ := st'.split st.dr.lt
  rw [after_same (by simp [st2.len])]
  simp -dsimp [isiD, binD, cmpD, partOf, biD, bl1, int1, lenD, asDct, asSeq, asLst, ixD, tyD, addD, slcD, ]
  have c2 : Cln (μ2 ++ [.lst (as.map .int)]) := st2.cl.app (Cln.one (clns_ints as))
  refine s_take c2 st2.dr.app (by omega) fun j μ' j0 j1 st' => ?_
  obtain ⟨μ3, rfl, st3⟩ := st'.split st2.dr.lt
  rw [after_same (by simp [st3.len])]
  obtain ⟨i, rfl⟩ : ∃ j : Nat, i = (j : Int) := ⟨i.toNat, by omega⟩
  obtain ⟨j, rfl⟩ : ∃ i : Nat, j = (i : Int) := ⟨j.toNat, by omega⟩
  have hi : i < as.length := by rw [ha.len]; omega
  have hj : j < as.length := by rw [ha.len]; omega
  have el : μ3.length = μ1.length := by rw [st3.len, st2.len]
  have st13 := st.trans (st2.trans st3)
  by_cases hij : (i : Int) = j
  · simp -dsimp [isiD, binD, cmpD, partOf, biD, bl1, int1, lenD, asDct, asSeq, asLst, ixD, tyD, addD, slcD, b_law_angles_5, eqD, hij]
    exact ⟨_, _, _, _, μ3, as, rfl, rfl, st13, ha, el.symm⟩
  · have hij' : i ≠ j := fun e => hij (by rw [e])
    obtain ⟨a1, a2⟩ := ha.bd _ (List.getElem_mem hi)
    obtain ⟨b1, b2⟩ := ha.bd _ (List.getElem_mem hj)
    rw [← el]
    simp -dsimp [isiD, binD, cmpD, partOf, biD, bl1, int1, lenD, asDct, asSeq, asLst, ixD, tyD, addD, slcD, b_law_angles_5, eqD, hij, b_law_angles_4, ixD, asDct, asSeq, List.getElem?_eq_getElem hi, List.getElem?_eq_getElem hj, biD, addD]
    have c3 : Cln (μ3 ++ [.lst (as.map .int)]) := st3.cl.app (Cln.one (clns_ints as))
    refine s_take c3 st3.dr.app (by split <;> omega) fun k μ' k0 k1 st' => ?_
    obtain ⟨μ4, rfl, st4⟩ := st'.split st3.dr.lt
    rw [after_same (by simp [st4.len])]
    rw [← st4.len]
    have gi : gxD (μ4 ++ [.lst (as.map .int)]) (.ref μ4.length) (.int i) = some (.int as[i]) := by
      simp [gxD, List.getElem?_eq_getElem hi]
    have si : setD (.ref μ4.length) (.int i) (.int (as[i] - k)) (μ4 ++ [.lst (as.map .int)]) = some (μ4 ++ [.lst ((as.map .int).set i (.int (as[i] - k)))]) := by
      simp [setD, ixn hi]
    have gj : gxD (μ4 ++ [.lst ((as.map .int).set i (.int (as[i] - k)))]) (.ref μ4.length) (.int j) = some (.int as[j]) := by
      simp [gxD, List.getElem?_set_ne hij', List.getElem?_eq_getElem hj]
    have sj : setD (.ref μ4.length) (.int j) (.int (as[j] + k)) (μ4 ++ [.lst ((as.map .int).set i (.int (as[i] - k)))]) = some (μ4 ++ [.lst (((as.map .int).set i (.int (as[i] - k))).set j (.int (as[j] + k)))]) := by
      simp [setD, ixn hj]
    simp -dsimp [isiD, binD, cmpD, partOf, biD, bl1, int1, lenD, asDct, asSeq, asLst, ixD, tyD, addD, slcD, b_law_angles_3, gi, Out.dat, si, b_law_angles_2, gj, addD, sj]
    have hk : k ≤ as[i] - 1 ∧ k ≤ 359 - as[j] := by split at k1 <;> omega
    refine ⟨_, _, _, _, μ4, (as.set i (as[i] - k)).set j (as[j] + k), rfl, by simp, st13.trans st4, ⟨by simp [ha.len], fun x hx => ?_, ?_⟩, by rw [st4.len, el]⟩
    · rcases List.mem_or_eq_of_mem_set hx with q | q
      · rcases List.mem_or_eq_of_mem_set q with q | q
        · exact ha.bd x q
        · rw [q]; omega
      · rw [q]; omega
    · rw [sum_set (by simpa using hj), sum_set hi, List.getElem_set_ne hij', ha.sum]
      omega
theorem rep_map (n : Nat) (x : Int) : List.replicate n (D.int x) = (List.replicate n x).map D.int := by simp
theorem s_angles (c0 : Cln μ) (hd : Dr r μ) {c : Nat} (h3 : 3 ≤ c) (h5 : c ≤ 12) (hQ : ∀ d m (as : List Int) μ1, after μ.length false d m = .ok (.v (.lst (as.map .int))) μ1 → St r μ μ1 → Angs c as → Q d m) :
    wp (PyD.run fns gc sub (n + 3) "_law_angles" [.ref r, .int c] μ) Q := by
  rw [run_succ (F := ⟨2, 7, b_law_angles⟩) rfl rfl]
  obtain ⟨as, ha, go⟩ : ∃ as : List Int, Angs c as ∧ (wp (endOf (evS (PyD.run fns gc sub (n + 2)) gc sub b_law_angles_7 [some (.ref r), some (.int c), some (.ref μ.length), none, none, none, none] (μ ++ [.lst (as.map .int)]))) Q → wp (endOf (evS (PyD.run fns gc sub (n + 2)) gc sub b_law_angles [some (.ref r), some (.int c), none, none, none, none, none] μ)) Q) := by
    obtain rfl | rfl | rfl | rfl | rfl | rfl | rfl | rfl | rfl | rfl : c = 3 ∨ c = 4 ∨ c = 5 ∨ c = 6 ∨ c = 7 ∨ c = 8 ∨ c = 9 ∨ c = 10 ∨ c = 11 ∨ c = 12 := by omega
    case' inl => refine ⟨[60, 60, 60], ?_, fun h => ?_⟩
    case' inr.inl => refine ⟨[90, 90, 90, 90], ?_, fun h => ?_⟩
    case' inr.inr.inl => refine ⟨[108, 108, 108, 108, 108], ?_, fun h => ?_⟩
    case' inr.inr.inr.inl => refine ⟨[120, 120, 120, 120, 120, 120], ?_, fun h => ?_⟩
    case' inr.inr.inr.inr.inl => refine ⟨[132, 128, 128, 128, 128, 128, 128], ?_, fun h => ?_⟩
    case' inr.inr.inr.inr.inr.inl => refine ⟨[135, 135, 135, 135, 135, 135, 135, 135], ?_, fun h => ?_⟩
    case' inr.inr.inr.inr.inr.inr.inl => refine ⟨[140, 140, 140, 140, 140, 140, 140, 140, 140], ?_, fun h => ?_⟩
    case' inr.inr.inr.inr.inr.inr.inr.inl => refine ⟨[144, 144, 144, 144, 144, 144, 144, 144, 144, 144], ?_, fun h => ?_⟩
    case' inr.inr.inr.inr.inr.inr.inr.inr.inl => refine ⟨[150, 147, 147, 147, 147, 147, 147, 147, 147, 147, 147], ?_, fun h => ?_⟩
    case' inr.inr.inr.inr.inr.inr.inr.inr.inr => refine ⟨[150, 150, 150, 150, 150, 150, 150, 150, 150, 150, 150, 150], ?_, fun h => ?_⟩
    all_goals first
      | (refine ⟨rfl, ?_, by decide⟩; decide)
      | (simp -dsimp [isiD, binD, cmpD, partOf, biD, bl1, int1, lenD, asDct, asSeq, asLst, ixD, tyD, addD, slcD, b_law_angles, b_law_angles_9, mulD, asLst, pushO]
         simp -dsimp [isiD, binD, cmpD, partOf, biD, bl1, int1, lenD, asDct, asSeq, asLst, ixD, tyD, addD, slcD, b_law_angles_8, gxD, mulD, biD, int1, asLst, intsOf, addD, setD, L2.ixN, Out.dat]
         simpa using h)
  refine go ?_
  have c1 : Cln (μ ++ [.lst (as.map .int)]) := c0.app (Cln.one (clns_ints as))
  simp -dsimp [isiD, binD, cmpD, partOf, biD, bl1, int1, lenD, asDct, asSeq, asLst, ixD, tyD, addD, slcD, b_law_angles_7]
  refine s_pick c1 hd.app (by simp) (by simp) fun x hx μ' st' => ?_
  obtain ⟨μ1, rfl, st⟩ := st'.split hd.lt
  rw [after_same (by simp [st.len])]
  obtain ⟨k, hk, rfl⟩ : ∃ k : Nat, k ≤ 12 ∧ x = .int k := by
    simp only [List.mem_cons, List.not_mem_nil, or_false] at hx
    rcases hx with rfl | rfl | rfl
    · exact ⟨0, by omega, rfl⟩
    · exact ⟨2, by omega, rfl⟩
    · exact ⟨c, h5, rfl⟩
  simp -dsimp [isiD, binD, cmpD, partOf, biD, bl1, int1, lenD, asDct, asSeq, asLst, ixD, tyD, addD, slcD, rng1_ok (ok62_nat (show k ≤ 1000000 by omega))]
  refine forL_inv (rangeD 0 k) (fun _ ρ m => AI r c μ μ.length ρ m) _ _ ⟨_, _, _, _, μ1, as, rfl, rfl, st, ha, st.len.symm⟩ (fun d rr ρ m h => ?_) fun ρ m h => ?_
  · obtain ⟨o3, o4, o5, o6, μ1, as, rfl, rfl, st, ha, e⟩ := h
    simp -dsimp [isiD, binD, cmpD, partOf, biD, bl1, int1, lenD, asDct, asSeq, asLst, ixD, tyD, addD, slcD, asg]
    exact ag_6 h3 ⟨_, _, _, _, μ1, as, rfl, rfl, st, ha, e⟩
  · obtain ⟨o3, o4, o5, o6, μ1, as, rfl, rfl, st, ha, e⟩ := h
    simp -dsimp [isiD, binD, cmpD, partOf, biD, bl1, int1, lenD, asDct, asSeq, asLst, ixD, tyD, addD, slcD, b_law_angles_1]
    refine hQ _ _ as μ1 ?_ st ha
    rw [e]
    exact after_last st.cl (clns_ints as)
end Pk

set_option Elab.async false
set_option linter.all false
set_option maxRecDepth 100000
set_option maxHeartbeats 400000
namespace Pk
open PySem PyD
variable {sub : Subs} {n b r : Nat} {v : D} {μ : Store} {Q : D → Store → Prop}
abbrev Edge := Int × Int × Int
structure Pc where
  name : Str
  edges : List Edge
def edgeD (e : Edge) : D := .tup [.int e.1, .int e.2.1, .int e.2.2]
def pcD (p : Pc) : D := .tup [.str p.name, .tup (p.edges.map edgeD)]
structure EdgeOk (top : Int) (e : Edge) : Prop where
  b1 : 1 ≤ e.1
  b2 : e.1 ≤ 10000
  s1 : -50 ≤ e.2.1
  s2 : e.2.1 ≤ 50
  a1 : 1 ≤ e.2.2
  a2 : e.2.2 ≤ 359
  pos : 1 ≤ e.1 + top * e.2.1
theorem mul_bd {t s : Int} (h0 : 0 ≤ t) (h1 : t ≤ 60) (h2 : -50 ≤ s) (h3 : s ≤ 50) : -3000 ≤ t * s ∧ t * s ≤ 3000 := by
  have a := Int.mul_le_mul_of_nonneg_left h3 h0
  have c := Int.mul_le_mul_of_nonneg_left h2 h0
  omega
theorem cln_edges (es : List Edge) : clns (es.map edgeD) = true := clns_iff.mpr fun d hd => by
  obtain ⟨e, _, rfl⟩ := List.mem_map.mp hd
  simp [edgeD, PyD.cln, clns]
theorem cln_pc (p : Pc) : cln (pcD p) = true := by simp [pcD, PyD.cln, clns, cln_edges]
theorem cln_pcs (ps : List Pc) : clns (ps.map pcD) = true := clns_iff.mpr fun d hd => by
  obtain ⟨p, _, rfl⟩ := List.mem_map.mp hd
  exact cln_pc p
theorem s_edge (c : Cln μ) (hd : Dr r μ) {top angle : Int} (h0 : 0 ≤ top) (h1 : top ≤ 60) (hQ : ∀ base step μ1, 1 ≤ base → base ≤ 10000 → -50 ≤ step → step ≤ 50 → St r μ μ1 → Q (.tup [.int base, .int step, .int angle]) μ1) : wp (PyD.run fns gc sub (n + 3) "_law_edge" [.ref r, .int top, .int angle] μ) Q := by
  rw [run_succ (F := ⟨3, 5, b_law_edge⟩) rfl rfl]
  simp -dsimp [isiD, binD, cmpD, partOf, biD, bl1, int1, lenD, asDct, asSeq, asLst, ixD, tyD, addD, slcD, b_law_edge, b_law_edge_3]
  refine s_take c hd (by omega) fun k μ1 k0 k1 st1 => ?_
  simp only [aft_val st1]
  simp -dsimp [isiD, binD, cmpD, partOf, biD, bl1, int1, lenD, asDct, asSeq, asLst, ixD, tyD, addD, slcD, ]
  refine s_pick st1.cl st1.dr (by simp) (by simp) fun x hx μ2 st2 => ?_
  simp only [aft_val st2]
  obtain ⟨step, s0, s1, rfl⟩ : ∃ s : Int, -50 ≤ s ∧ s ≤ 50 ∧ x = .int s := by
    simp only [List.mem_cons, List.not_mem_nil, or_false] at hx
    rcases hx with rfl | rfl | rfl | rfl | rfl | rfl | rfl | rfl | rfl
    all_goals first | exact ⟨_, by omega, by omega, rfl⟩ | exact ⟨k - 50, by omega, by omega, rfl⟩
  have hsm : Sm top step := .inl (by omega)
  simp -dsimp [isiD, binD, cmpD, partOf, biD, bl1, int1, lenD, asDct, asSeq, asLst, ixD, tyD, addD, slcD, b_law_edge_2, mul_sm hsm, biD]
  obtain ⟨b0, b1⟩ := mul_bd h0 h1 s0 s1
  have hlow : 1 ≤ (if 1 - top * step > 1 then 1 - top * step else 1) ∧ (if 1 - top * step > 1 then 1 - top * step else 1) ≤ 3001 := by split <;> omega
  generalize (if 1 - top * step > 1 then 1 - top * step else 1) = low at hlow ⊢
  simp -dsimp [isiD, binD, cmpD, partOf, biD, bl1, int1, lenD, asDct, asSeq, asLst, ixD, tyD, addD, slcD, b_law_edge_1]
  refine s_take st2.cl st2.dr (by omega) fun k μ3 k0 k1 st3 => ?_
  simp only [aft_val st3]
  simp -dsimp [isiD, binD, cmpD, partOf, biD, bl1, int1, lenD, asDct, asSeq, asLst, ixD, tyD, addD, slcD, addD]
  refine s_pick st3.cl st3.dr (by simp) (by simp) fun x hx μ4 st4 => ?_
  simp only [aft_val st4]
  obtain ⟨base, c0, c1, rfl⟩ : ∃ s : Int, 1 ≤ s ∧ s ≤ 10000 ∧ x = .int s := by
    simp only [List.mem_cons, List.not_mem_nil, or_false] at hx
    rcases hx with rfl | rfl | rfl | rfl | rfl | rfl
    all_goals first | exact ⟨_, by omega, by omega, rfl⟩ | exact ⟨low, by omega, by omega, rfl⟩ | exact ⟨low + k, by omega, by omega, rfl⟩
  simp -dsimp [isiD, binD, cmpD, partOf, biD, bl1, int1, lenD, asDct, asSeq, asLst, ixD, tyD, addD, slcD, ]
  exact hQ base step μ4 c0 c1 s0 s1 (st1.trans (st2.trans (st3.trans st4)))
/-- what a piece of the generator is -/
structure PcGen (most : Nat) (top : Int) (p : Pc) : Prop where
  l3 : 3 ≤ p.edges.length
  lm : p.edges.length ≤ most
  ok : ∀ e ∈ p.edges, EdgeOk top e
  sum : (p.edges.map (·.2.2)).sum = ((p.edges.length : Int) - 2) * 180
theorem aft_tup {r : Nat} {μ μ1 : Store} {X : Store} (st : St r μ μ1) (cx : Cln X) {d : D} (hd : cln d = true) : after μ.length false d (μ1 ++ X) = .ok (.v d) μ1 := by
  rw [after_val (st.cl.app cx) hd]
  congr 1
  rw [← st.len]
  simp
/-- between two pieces -/
def PieI (r : Nat) (ns : List Str) (most : Nat) (top : Int) (μ : Store) (rr : List D) (ρ : PyD.Env) (m : Store) : Prop := ∃ o5 o6 o7 o8 o9 o10 o11 μ1 rs, ∃ ps : List Pc, rr = rs.map D.str ∧ ps.map (·.name) ++ rs = ns ∧ ρ = [some (.ref r), some (.lst (ns.map .str)), some (.int most), some (.int top), some (.ref μ.length), o5, o6, o7, o8, o9, o10, o11] ∧ m = μ1 ++ [.lst (ps.map pcD)] ∧ St r μ μ1 ∧ ∀ p ∈ ps, PcGen most top p
/-- between two edges -/
def EdgI (r : Nat) (as : List Int) (μ3 : Store) (X : Store) (rr : List D) (a : Acc) (m : Store) : Prop := ∃ rs, ∃ es : List Edge, ∃ μ4, rr = rs.map D.int ∧ es.map (·.2.2) ++ rs = as ∧ a = ([], es.map edgeD) ∧ m = μ4 ++ X ∧ St r μ3 μ4 ∧ ∀ e ∈ es, 1 ≤ e.1 ∧ e.1 ≤ 10000 ∧ -50 ≤ e.2.1 ∧ e.2.1 ≤ 50
theorem s_pieces (c : Cln μ) (hd : Dr r μ) {ns : List Str} (hl : ns.length ≤ 100) {most : Nat} (hm3 : 3 ≤ most) (hm : most ≤ 12) {top : Int} (h0 : 0 ≤ top) (h1 : top ≤ 60) (hQ : ∀ d m (ps : List Pc) μ1, after μ.length false d m = .ok (.v (.tup (ps.map pcD))) μ1 → St r μ μ1 → ps.map (·.name) = ns → (∀ p ∈ ps, PcGen most top p) → Q d m) :
    wp (PyD.run fns gc sub (n + 4) "_law_pieces" [.ref r, .lst (ns.map .str), .int most, .int top] μ) Q := by
  rw [run_succ (F := ⟨4, 12, b_law_pieces⟩) rfl rfl]
  simp -dsimp [isiD, binD, cmpD, partOf, biD, bl1, int1, lenD, asDct, asSeq, asLst, ixD, tyD, addD, slcD, b_law_pieces, b_law_pieces_7, pushO, b_law_pieces_6]
  refine forL_inv (ns.map .str) (PieI r ns most top μ) _ _
    ⟨_, _, _, _, _, _, _, μ, ns, [], rfl, rfl, rfl, rfl, St.refl c hd, by simp⟩ (fun d rr ρ m ⟨o5, o6, o7, o8, o9, o10, o11, μ1, rs, ps, er, ens, e1, e2, st, hp⟩ => ?_) fun ρ m ⟨o5, o6, o7, o8, o9, o10, o11, μ1, rs, ps, er, ens, e1, e2, st, hp⟩ => ?_
  · subst e1 e2
    cases rs with
    | nil => cases er
    | cons x rs =>
    simp only [List.map_cons, List.cons.injEq] at er
    obtain ⟨rfl, rfl⟩ := er
    have hpl : ps.length < 100 := by
      have := congrArg List.length ens
      simp at this
      omega
    have cps : Cln [M.lst (ps.map pcD)] := Cln.one (cln_pcs ps)
    simp -dsimp [isiD, binD, cmpD, partOf, biD, bl1, int1, lenD, asDct, asSeq, asLst, ixD, tyD, addD, slcD, asg, b_law_pieces_5]
    refine s_take (st.cl.app cps) st.dr.app (by omega) fun k μ' k0 k1 st' => ?_
    obtain ⟨μ2, rfl, st2⟩ := st'.split st.dr.lt
    rw [after_same (by simp [st2.len])]
    obtain ⟨k, rfl⟩ : ∃ j : Nat, k = (j : Int) := ⟨k.toNat, by omega⟩
    have ek : (3 : Int) + (k : Int) = ((3 + k : Nat) : Int) := by omega
    simp -dsimp [isiD, binD, cmpD, partOf, biD, bl1, int1, lenD, asDct, asSeq, asLst, ixD, tyD, addD, slcD, addD, b_law_pieces_4, ek, -Int.natCast_add]
    refine s_angles (st2.cl.app cps) st2.dr.app (by omega) (by omega) fun d m as μ' ha st' hal => ?_
    obtain ⟨μ3, rfl, st3⟩ := st'.split st2.dr.lt
    rw [ha]
    simp -dsimp [isiD, binD, cmpD, partOf, biD, bl1, int1, lenD, asDct, asSeq, asLst, ixD, tyD, addD, slcD, b_law_pieces_3]
    refine loopL_inv (as.map D.int) (EdgI r as μ3 [.lst (ps.map pcD)]) _ _ ⟨as, [], μ3, rfl, rfl, rfl, rfl, St.refl st3.cl st3.dr, by simp⟩ (fun d rr a m ⟨rs2, es, μ4, er, eas, ea, e, st4, he⟩ => ?_) fun a m ⟨rs2, es, μ4, er, eas, ea, e, st4, he⟩ => ?_
    · subst e ea
      cases rs2 with
      | nil => cases er
      | cons an rs2 =>
      simp only [List.map_cons, List.cons.injEq] at er
      obtain ⟨rfl, rfl⟩ := er
      have hesl : es.length < 100000 := by
        have := congrArg List.length eas
        simp [hal.len] at this
        omega
      have hsz : (es.map edgeD).length < sizeLine := sl_lt (by simpa using hesl)
      simp -dsimp [isiD, binD, cmpD, partOf, biD, bl1, int1, lenD, asDct, asSeq, asLst, ixD, tyD, addD, slcD, asg, wipeD, Tg.slots, PX.gslots]
      refine s_edge (st4.cl.app cps) st4.dr.app h0 h1 fun base step μ' b0 b1 s0 s1 st' => ?_
      obtain ⟨μ5, rfl, st5⟩ := st'.split st4.dr.lt
      rw [after_same (by simp [st5.len])]
      simp only [List.length_map] at hsz
      simp -dsimp [isiD, binD, cmpD, partOf, biD, bl1, int1, lenD, asDct, asSeq, asLst, ixD, tyD, addD, slcD, hsz]
      refine ⟨rs2, es ++ [(base, step, an)], μ5, rfl, by simp [← eas], by simp [edgeD], rfl, st4.trans st5, fun e hme => ?_⟩
      rcases List.mem_append.mp hme with q | q
      · exact he e q
      · rw [List.mem_singleton.mp q]; exact ⟨b0, b1, s0, s1⟩
    · subst e ea
      have hrs : rs2 = [] := by cases rs2 with | nil => rfl | cons _ _ => cases er
      subst hrs
      rw [List.append_nil] at eas
      have el : μ4.length = μ.length := by rw [st4.len, st3.len, st2.len, st.len]
      have hel : es.length = 3 + k := by rw [← hal.len, ← eas, List.length_map]
      rw [← el]
      simp -dsimp [isiD, binD, cmpD, partOf, biD, bl1, int1, lenD, asDct, asSeq, asLst, ixD, tyD, addD, slcD, b_law_pieces_2]
      rw [loopL_map (es.map edgeD) [] (f := fun d => match d with | .tup [.int i, .int j, .int a] => edgeD ((if 1 - top * j > i then 1 - top * j else i), j, a) | d => d) (fun d hd a ha => by
        obtain ⟨e, hme, rfl⟩ := List.mem_map.mp hd
        obtain ⟨_, _, s0, s1⟩ := he e hme
        have hsm : Sm top e.2.1 := .inl (by omega)
        have hal : a.length < sizeLine := sl_lt (by simp [hel] at ha; omega)
        simp -dsimp [isiD, binD, cmpD, partOf, biD, bl1, int1, lenD, asDct, asSeq, asLst, ixD, tyD, addD, slcD, edgeD, asg, asgL, asSeq, wipeD, Tg.slots, PX.gslots, biD, mul_sm hsm, hal])]
      have hps : (ps.map pcD).length < 100000 := by simp; omega
      have em : List.map (fun d => match d with | .tup [.int i, .int j, .int a] => edgeD ((if 1 - top * j > i then 1 - top * j else i), j, a) | d => d) (es.map edgeD) = (es.map fun e => ((if 1 - top * e.2.1 > e.1 then 1 - top * e.2.1 else e.1), e.2.1, e.2.2)).map edgeD := by
        rw [List.map_map, List.map_map]
        rfl
      rw [List.nil_append, em]
      simp -dsimp [isiD, binD, cmpD, partOf, biD, bl1, int1, lenD, asDct, asSeq, asLst, ixD, tyD, addD, slcD, tyD, asLst, -List.map_map, app_last hps]
      refine ⟨_, _, _, _, _, _, _, μ4, rs, ps ++ [⟨x, es.map fun e => ((if 1 - top * e.2.1 > e.1 then 1 - top * e.2.1 else e.1), e.2.1, e.2.2)⟩], rfl, by simp [← ens], by rw [el], by simp [pcD], st.trans (st2.trans (st3.trans st4)), fun p hp' => ?_⟩
      rcases List.mem_append.mp hp' with q | q
      · exact hp p q
      · rw [List.mem_singleton.mp q]
        refine ⟨by simp [hel], by simp [hel]; omega, fun e hme => ?_, ?_⟩
        · obtain ⟨e', h', rfl⟩ := List.mem_map.mp hme
          obtain ⟨b0, b1, s0, s1⟩ := he e' h'
          obtain ⟨c0, c1⟩ := mul_bd h0 h1 s0 s1
          have hang := hal.bd e'.2.2 (by rw [← eas]; exact List.mem_map.mpr ⟨e', h', rfl⟩)
          refine ⟨?_, ?_, s0, s1, hang.1, hang.2, ?_⟩ <;> (simp only []; split <;> omega)
        · simp only [List.map_map, List.length_map]
          have : (es.map ((fun e : Edge => e.2.2) ∘ fun e => ((if 1 - top * e.2.1 > e.1 then 1 - top * e.2.1 else e.1), e.2.1, e.2.2))) = es.map (·.2.2) := rfl
          rw [this, eas, hal.sum, hel]
  · subst e1 e2
    have hrs : rs = [] := by cases rs with | nil => rfl | cons _ _ => cases er
    subst hrs
    rw [List.append_nil] at ens
    have el := st.len
    rw [← el]
    simp -dsimp [isiD, binD, cmpD, partOf, biD, bl1, int1, lenD, asDct, asSeq, asLst, ixD, tyD, addD, slcD, b_law_pieces_1, tyD, asLst]
    refine hQ _ _ ps μ1 ?_ st ens hp
    exact aft_tup st (Cln.one (m := .lst (ps.map pcD)) (cln_pcs ps)) (by simp [PyD.cln]; exact cln_pcs ps)
end Pk

set_option Elab.async false
set_option linter.all false
set_option maxRecDepth 100000
set_option maxHeartbeats 400000
namespace Pk
open PySem PyD
variable {sub : Subs} {n b r : Nat} {v : D} {μ : Store} {Q : D → Store → Prop}
def pcSpots (p : Pc) : List Spot := (List.range p.edges.length).map fun k => (p.name, k)
def spotsOf (ps : List Pc) : List Spot := ps.flatMap pcSpots
def ends (s : Seam) : List Spot := [s.one, s.other]
/-- a seam of the generator -/
structure SeamGen (ps : List Pc) (s : Seam) : Prop where
  m1 : s.one ∈ spotsOf ps
  m2 : s.other ∈ spotsOf ps
  lt : ltd (spotD s.one) (spotD s.other) = true
  way : s.way = "even" ∨ s.way = "odd"
  e0 : 0 ≤ s.ease
  e1 : s.ease ≤ 200
/-- all seams -/
structure SeamsGen (ps : List Pc) (ss : List Seam) : Prop where
  ok : ∀ s ∈ ss, SeamGen ps s
  nd : (ss.flatMap ends).Nodup
theorem mem_spots {ps : List Pc} {s : Spot} (h : s ∈ spotsOf ps) : ∃ p ∈ ps, p.name = s.1 ∧ s.2 < p.edges.length := by
  unfold spotsOf at h
  rw [List.mem_flatMap] at h
  obtain ⟨p, hp, h⟩ := h
  unfold pcSpots at h
  obtain ⟨k, hk, rfl⟩ := List.mem_map.mp h
  exact ⟨p, hp, rfl, List.mem_range.mp hk⟩
theorem spots_nd {ps : List Pc} (h : (ps.map (·.name)).Nodup) : (spotsOf ps).Nodup := by
  induction ps with
  | nil => exact List.nodup_nil
  | cons p ps ih =>
    rw [List.map_cons, List.nodup_cons] at h
    rw [spotsOf, List.flatMap_cons, List.nodup_append]
    refine ⟨?_, ih h.2, fun s h1 s' h2 e => ?_⟩
    · exact List.pairwise_map.mpr (List.nodup_range.imp fun h e => h (by cases e; rfl))
    · subst e
      unfold pcSpots at h1
      obtain ⟨_, _, rfl⟩ := List.mem_map.mp h1
      obtain ⟨q, hq, e, _⟩ := mem_spots h2
      exact h.1 (List.mem_map.mpr ⟨q, hq, e⟩)
theorem two_srt {a c : Spot} (h : a ≠ c) : ∃ p q, srtD [spotD a, spotD c] = [spotD p, spotD q] ∧ [p, q].Perm [a, c] ∧ ltd (spotD p) (spotD q) = true := by
  have e : srtD [spotD a, spotD c] = (srtBy spotD [a, c]).map spotD := srt_map spotD [a, c]
  have hp := srtBy_perm spotD [a, c]
  have hl := srtBy_lt (f := spotD) (l := [a, c]) (by simp [h]) fun _ _ _ _ => toks_spot_inj
  have len := hp.length_eq
  generalize srtBy spotD [a, c] = l at e hp hl len
  match l, len with
  | [p, q], _ =>
    refine ⟨p, q, e, hp, ?_⟩
    rw [List.pairwise_cons] at hl
    exact hl.1 q (by simp)
theorem spot_nm {ps : List Pc} (hn : ∀ p ∈ ps, nmP p.name) {s : Spot} (h : s ∈ spotsOf ps) : nmP s.1 := by
  obtain ⟨p, hp, e, _⟩ := mem_spots h
  rw [← e]
  exact hn p hp
theorem SeamGen.nm {ps : List Pc} (hn : ∀ p ∈ ps, nmP p.name) {s : Seam} (h : SeamGen ps s) : SeamNm s := by
  refine ⟨spot_nm hn h.m1, spot_nm hn h.m2, ?_⟩
  rcases h.way with e | e <;> rw [e] <;> exact ⟨by decide +kernel, by decide +kernel⟩
/-- between two seams -/
def SeaI (r : Nat) (ps : List Pc) (f : List Spot) (μ0 μ : Store) (o1 o4 o5 : Option D) (many K : Nat) (rr : List D) (ρ : PyD.Env) (m : Store) : Prop :=
  ∃ k o7 o8 o9 μ1, ∃ ss : List Seam, rr = (rangeD 0 K).drop k ∧ k ≤ K ∧ ss.length = k ∧ ρ = [some (.ref r), o1, some (.int many), some (.lst (f.map spotD)), o4, o5, some (.ref μ.length), o7, o8, o9] ∧ m = μ1 ++ [.lst (ss.map smD)] ∧ St r μ μ1 ∧ (∀ s ∈ ss, SeamGen ps s) ∧ (ss.flatMap ends).Perm (f.take (2 * k))
theorem seam_inj {ss : List Seam} (nd : (ss.flatMap ends).Nodup) : ss.Nodup := by
  induction ss with
  | nil => exact List.nodup_nil
  | cons s ss ih =>
    rw [List.flatMap_cons, List.nodup_append] at nd
    refine List.nodup_cons.mpr ⟨fun h => ?_, ih nd.2.1⟩
    exact nd.2.2 s.one (by simp [ends]) s.one (List.mem_flatMap.mpr ⟨s, h, by simp [ends]⟩) rfl
/-- the last part of _law_seams: the edges f are sewn -/
theorem sm_5 (c : Cln μ) (hd : Dr r μ) {ps : List Pc} (hn : ∀ p ∈ ps, nmP p.name) {f : List Spot} (hf : ∀ s ∈ f, s ∈ spotsOf ps) (hnd : f.Nodup) (hl : f.length ≤ 500) {many : Nat} {o1 o4 o5 o7 o8 o9 : Option D} {μ0 : Store} (st0 : St r μ0 μ)
    (hQ : ∀ d m (ss : List Seam) μ1, after μ0.length false d m = .ok (.v (.tup ((srtBy smD ss).map smD))) μ1 → St r μ0 μ1 → SeamsGen ps ss → ss.length ≤ many → 2 * ss.length ≤ f.length → Q d m) :
    wp (endOf (evS (PyD.run fns gc sub (n + 2)) gc sub b_law_seams_5 [some (.ref r), o1, some (.int many), some (.lst (f.map spotD)), o4, o5, none, o7, o8, o9] μ)) Q := by
  obtain ⟨K, hK, hKm, eK⟩ : ∃ K : Nat, 2 * K ≤ f.length ∧ K ≤ many ∧ (if ((f.length : Int).fdiv 2) < (many : Int) then (f.length : Int).fdiv 2 else (many : Int)) = (K : Int) := by
    have h1 : (f.length : Int).fdiv 2 = ((f.length / 2 : Nat) : Int) := by
      rw [Int.fdiv_eq_ediv_of_nonneg _ (by omega)]
      rfl
    rw [h1]
    split
    · exact ⟨f.length / 2, by omega, by omega, rfl⟩
    · exact ⟨many, by omega, by omega, rfl⟩
  simp -dsimp [isiD, binD, cmpD, partOf, biD, bl1, int1, lenD, asDct, asSeq, asLst, ixD, tyD, addD, slcD, b_law_seams_5, pushO, b_law_seams_4, biD, lenD, asDct, asSeq, eK, rng1_ok (ok62_nat (show K ≤ 1000000 by omega))]
  refine forL_inv (rangeD 0 K) (SeaI r ps f μ0 μ o1 o4 o5 many K) _ _
    ⟨0, _, _, _, μ, [], rfl, Nat.zero_le _, rfl, rfl, rfl, St.refl c hd, by simp, by simp⟩ (fun d rr ρ m ⟨k, o7, o8, o9, μ1, ss, er, hkK, hsl, e1, e2, st, hs, hpm⟩ => ?_) fun ρ m ⟨k, o7, o8, o9, μ1, ss, er, hkK, hsl, e1, e2, st, hs, hpm⟩ => ?_
  · subst e1 e2
    have hk : k < K := by
      have := congrArg List.length er
      rw [List.length_drop, range_length, List.length_cons] at this
      omega
    have er2 : d = .int (k : Int) ∧ rr = (rangeD 0 K).drop (k + 1) := by
      have hlen : k < (rangeD 0 K).length := by rw [range_length]; exact hk
      rw [List.drop_eq_getElem_cons hlen] at er
      simp only [List.cons.injEq] at er
      refine ⟨?_, er.2⟩
      rw [er.1]
      simp [rangeD_map]
    obtain ⟨rfl, rfl⟩ := er2
    have cs : Cln [M.lst (ss.map smD)] := Cln.one (m := .lst _) (cln_map cln_sm ss)
    have i1 : 2 * k < f.length := by omega
    have i2 : 2 * k + 1 < f.length := by omega
    have a1 : L2.atI (f.map spotD) (2 * (k : Int)) = some (spotD f[2 * k]) := by
      rw [show 2 * (k : Int) = ((2 * k : Nat) : Int) by omega, at_nat, List.getElem?_map, List.getElem?_eq_getElem i1]; rfl
    have a2 : L2.atI (f.map spotD) (2 * (k : Int) + 1) = some (spotD f[2 * k + 1]) := by
      rw [show 2 * (k : Int) + 1 = ((2 * k + 1 : Nat) : Int) by omega, at_nat, List.getElem?_map, List.getElem?_eq_getElem i2]; rfl
    have h1 := hf _ (List.getElem_mem i1)
    have h2 := hf _ (List.getElem_mem i2)
    have hne : f[2 * k] ≠ f[2 * k + 1] := fun e => by
      have := (List.getElem?_inj i1 hnd).mp (show f[2 * k]? = f[2 * k + 1]? by rw [List.getElem?_eq_getElem i1, List.getElem?_eq_getElem i2, e])
      omega
    have cs2 : canSort [spotD f[2 * k], spotD f[2 * k + 1]] = true := sort_spots (l := [f[2 * k], f[2 * k + 1]]) fun s hs => by
      simp only [List.mem_cons, List.not_mem_nil, or_false] at hs
      rcases hs with rfl | rfl
      · exact spot_nm hn h1
      · exact spot_nm hn h2
    obtain ⟨p, q, es, hpq, hlt⟩ := two_srt hne
    have hp : p ∈ spotsOf ps ∧ q ∈ spotsOf ps := by
      have hm : ∀ s ∈ [p, q], s ∈ spotsOf ps := fun s hs => by
        have := hpq.mem_iff.mp hs
        simp only [List.mem_cons, List.not_mem_nil, or_false] at this
        rcases this with e | e <;> rw [e] <;> assumption
      exact ⟨hm p (by simp), hm q (by simp)⟩
    have sm2 : Sm 2 (k : Int) := .inl (by omega)
    simp -dsimp [isiD, binD, cmpD, partOf, biD, bl1, int1, lenD, asDct, asSeq, asLst, ixD, tyD, addD, slcD, asg, b_law_seams_3, mul_sm sm2, ixD, asDct, asSeq, a1, a2, addD, biD, asLst, cs2, es, asgL]
    rw [← st.len]
    simp -dsimp [isiD, binD, cmpD, partOf, biD, bl1, int1, lenD, asDct, asSeq, asLst, ixD, tyD, addD, slcD, b_law_seams_2]
    refine s_pick (st.cl.app cs) st.dr.app (by simp) (by simp) fun w hw μ' st' => ?_
    obtain ⟨μ2, rfl, st2⟩ := st'.split st.dr.lt
    rw [after_same (by simp [st2.len])]
    obtain ⟨w, rfl, hnw⟩ : ∃ x : Str, w = .str x ∧ (x = "even" ∨ x = "odd") := by
      simp only [List.mem_cons, List.not_mem_nil, or_false] at hw
      rcases hw with rfl | rfl | rfl
      · exact ⟨_, rfl, .inl rfl⟩
      · exact ⟨_, rfl, .inl rfl⟩
      · exact ⟨_, rfl, .inr rfl⟩
    simp -dsimp [isiD, binD, cmpD, partOf, biD, bl1, int1, lenD, asDct, asSeq, asLst, ixD, tyD, addD, slcD, ]
    refine s_take (st2.cl.app cs) st2.dr.app (by omega) fun e0 μ' e1 e2 st' => ?_
    obtain ⟨μ3, rfl, st3⟩ := st'.split st2.dr.lt
    rw [after_same (by simp [st3.len])]
    simp -dsimp [isiD, binD, cmpD, partOf, biD, bl1, int1, lenD, asDct, asSeq, asLst, ixD, tyD, addD, slcD, ]
    refine s_pick (st3.cl.app cs) st3.dr.app (by simp) (by simp) fun e hee μ' st' => ?_
    obtain ⟨μ4, rfl, st4⟩ := st'.split st3.dr.lt
    rw [after_same (by simp [st4.len])]
    obtain ⟨e, h0, h200, rfl⟩ : ∃ s : Int, 0 ≤ s ∧ s ≤ 200 ∧ e = .int s := by
      simp only [List.mem_cons, List.not_mem_nil, or_false] at hee
      rcases hee with rfl | rfl | rfl | rfl | rfl | rfl
      all_goals first | exact ⟨_, by omega, by omega, rfl⟩ | exact ⟨e0, by omega, by omega, rfl⟩
    have el : μ4.length = μ1.length := by rw [st4.len, st3.len, st2.len]
    have hss : (ss.map smD).length < 100000 := by simp; omega
    rw [← el]
    simp -dsimp [isiD, binD, cmpD, partOf, biD, bl1, int1, lenD, asDct, asSeq, asLst, ixD, tyD, addD, slcD, app_last hss]
    refine ⟨k + 1, _, _, _, μ4, ss ++ [⟨p, q, w, e⟩], rfl, hk, by simp [hsl], by rw [el, st.len], by simp [smD], st.trans (st2.trans (st3.trans st4)), fun s hs' => ?_, ?_⟩
    · rcases List.mem_append.mp hs' with z | z
      · exact hs s z
      · rw [List.mem_singleton.mp z]
        exact ⟨hp.1, hp.2, hlt, hnw, h0, h200⟩
    · rw [List.flatMap_append, show 2 * (k + 1) = 2 * k + 1 + 1 by omega, List.take_succ, List.take_succ, List.getElem?_eq_getElem i1, List.getElem?_eq_getElem i2, List.append_assoc]
      refine hpm.append ?_
      simpa [ends] using hpq
  · subst e1 e2
    have hk : k = K := by
      have := congrArg List.length er
      rw [List.length_drop, range_length, List.length_nil] at this
      omega
    subst hk
    have nd : (ss.flatMap ends).Nodup := hpm.nodup_iff.mpr (hnd.sublist (List.take_sublist _ _))
    have hsl' : (ss.map smD).length ≤ sizeLine := sl_le (by simp; omega)
    have cs := sort_seams fun s h => (hs s h).nm hn
    rw [← st.len]
    simp only [List.length_map] at hsl'
    simp -dsimp [isiD, binD, cmpD, partOf, biD, bl1, int1, lenD, asDct, asSeq, asLst, ixD, tyD, addD, slcD, b_law_seams_1, biD, asLst, cs, hsl', tyD, srt_map]
    refine hQ _ _ ss μ1 ?_ (st0.trans st) ⟨hs, nd⟩ (by omega) (by omega)
    exact aft_tup (st0.trans st) (Cln.one (m := .lst _) (cln_map cln_sm ss)) (by simp only [PyD.cln]; exact cln_map cln_sm _)
/-- between two pieces -/
def EdI (r : Nat) (ps : List Pc) (many : Nat) (μ : Store) (rr : List D) (ρ : PyD.Env) (m : Store) : Prop :=
  m = μ ∧ ∃ k o4 o5 o7 o8 o9, k ≤ ps.length ∧ rr = (ps.map pcD).drop k ∧ ρ = [some (.ref r), some (.tup (ps.map pcD)), some (.int many), some (.lst ((spotsOf (ps.take k)).map spotD)), o4, o5, none, o7, o8, o9]
theorem spots_len {ps : List Pc} {b : Nat} (h : ∀ p ∈ ps, p.edges.length ≤ b) : (spotsOf ps).length ≤ ps.length * b := by
  induction ps with
  | nil => simp [spotsOf]
  | cons p ps ih =>
    have := ih fun q hq => h q (by simp [hq])
    have h1 := h p (by simp)
    unfold spotsOf at this ⊢
    rw [List.flatMap_cons, List.length_append, List.length_cons, Nat.succ_mul]
    have h2 : (pcSpots p).length = p.edges.length := by simp [pcSpots]
    omega
theorem s_seams (c : Cln μ) (hd : Dr r μ) {ps : List Pc} (hn : ∀ p ∈ ps, nmP p.name) (hnd : (ps.map (·.name)).Nodup) (he : ∀ p ∈ ps, p.edges.length ≤ 12) (hl : ps.length ≤ 40) {many : Nat}
    (hQ : ∀ d m (ss : List Seam) μ1, after μ.length false d m = .ok (.v (.tup ((srtBy smD ss).map smD))) μ1 → St r μ μ1 → SeamsGen ps ss → ss.length ≤ many → 2 * ss.length ≤ (spotsOf ps).length → Q d m) :
    wp (PyD.run fns gc sub (n + 3) "_law_seams" [.ref r, .tup (ps.map pcD), .int many] μ) Q := by
  rw [run_succ (F := ⟨3, 10, b_law_seams⟩) rfl rfl]
  simp -dsimp [isiD, binD, cmpD, partOf, biD, bl1, int1, lenD, asDct, asSeq, asLst, ixD, tyD, addD, slcD, b_law_seams, b_law_seams_9, b_law_seams_8]
  have hall := spots_len he
  refine forL_inv (ps.map pcD) (EdI r ps many μ) _ _ ⟨rfl, 0, _, _, _, _, _, Nat.zero_le _, rfl, rfl⟩ (fun d rr ρ m ⟨em, k, o4, o5, o7, o8, o9, hk, er, e1⟩ => ?_) fun ρ m ⟨em, k, o4, o5, o7, o8, o9, hk, er, e1⟩ => ?_
  · subst em e1
    have hk : k < ps.length := by
      have := congrArg List.length er
      rw [List.length_drop, List.length_map, List.length_cons] at this
      omega
    rw [List.drop_eq_getElem_cons (by simpa using hk)] at er
    simp only [List.cons.injEq, List.getElem_map] at er
    obtain ⟨rfl, rfl⟩ := er
    have hp := he _ (List.getElem_mem hk)
    have hlen : (spotsOf (ps.take k)).length ≤ 480 := by
      have := spots_len (ps := ps.take k) (b := 12) fun p hp => he p (List.mem_of_mem_take hp)
      have h2 : (ps.take k).length ≤ 40 := by rw [List.length_take]; omega
      omega
    simp -dsimp [isiD, binD, cmpD, partOf, biD, bl1, int1, lenD, asDct, asSeq, asLst, ixD, tyD, addD, slcD, pcD, asg, asgL, asSeq, b_law_seams_7, biD, lenD, asDct, rng1_ok (ok62_nat (show ps[k].edges.length ≤ 1000000 by omega))]
    rw [loopL_map (rangeD 0 ps[k].edges.length) [] (f := fun d => .tup [.str ps[k].name, d]) (fun d hdd a ha => by
      rw [range_length] at ha
      have hal : a.length < sizeLine := sl_lt (by simp at ha; omega)
      obtain ⟨z, hz, rfl⟩ := range_mem hdd
      simp -dsimp [isiD, binD, cmpD, partOf, biD, bl1, int1, lenD, asDct, asSeq, asLst, ixD, tyD, addD, slcD, asg, wipeD, Tg.slots, PX.gslots, hal])]
    have hsz : (spotsOf (ps.take k)).length + ps[k].edges.length ≤ sizeLine := sl_le (by omega)
    rw [List.nil_append, rangeD_map, List.map_map]
    simp -dsimp [isiD, binD, cmpD, partOf, biD, bl1, int1, lenD, asDct, asSeq, asLst, ixD, tyD, addD, slcD, addD, asLst, hsz, -List.map_map]
    refine ⟨rfl, k + 1, some (.str ps[k].name), some (.tup (ps[k].edges.map edgeD)), o7, o8, o9, hk, rfl, ?_⟩
    have e2 : spotsOf (ps.take (k + 1)) = spotsOf (ps.take k) ++ pcSpots ps[k] := by
      rw [spotsOf, List.take_succ, List.getElem?_eq_getElem hk, List.flatMap_append]
      simp [spotsOf]
    rw [e2, List.map_append]
    simp [pcSpots, spotD, pcD, Function.comp_def]
  · subst em e1
    have hk : k = ps.length := by
      have := congrArg List.length er
      rw [List.length_drop, List.length_map, List.length_nil] at this
      omega
    subst hk
    rw [List.take_length]
    have hlen : (spotsOf ps).length ≤ 480 := by omega
    simp -dsimp [isiD, binD, cmpD, partOf, biD, bl1, int1, lenD, asDct, asSeq, asLst, ixD, tyD, addD, slcD, b_law_seams_6]
    refine s_mixed c hd (cln_map cln_spot _) (by simp; omega) fun d m' f μ1 ha st hf => ?_
    obtain ⟨f', rfl, hf'⟩ := perm_back hf
    simp -dsimp [isiD, binD, cmpD, partOf, biD, bl1, int1, lenD, asDct, asSeq, asLst, ixD, tyD, addD, slcD, ha]
    exact sm_5 st.cl st.dr hn (fun s hs => hf'.mem_iff.mp hs) (hf'.nodup_iff.mpr (spots_nd hnd)) (by rw [hf'.length_eq]; omega) st fun d m ss μ2 h1 h2 h3 h4 h5 => hQ d m ss μ2 h1 h2 h3 h4 (by rw [hf'.length_eq] at h5; exact h5)
end Pk

set_option Elab.async false
set_option linter.all false
set_option maxRecDepth 100000
set_option maxHeartbeats 400000
namespace Pk
open PySem PyD
variable {sub : Subs} {n b r : Nat} {v : D} {μ : Store} {Q : D → Store → Prop}
theorem g_small : gc "SMALL" = some (.str "abcdefghijklmnopqrstuvwxyz") := rfl
theorem g_fig : gc "FIGURES" = some (.str "0123456789") := rfl
theorem g_long : gc "LONGEST" = some (.int 12) := rfl
/-- x in y, of texts -/
def inS (x y : Str) : Bool := !(Builtin.Str.occurrences y x 0 y.length 1).isEmpty
def chr1 (x : Str) : Str := ⟨#[x.cps.toList.headD 0]⟩
def lett : D → Bool
  | .str c => inS c ((Str.ofString "abcdefghijklmnopqrstuvwxyz") ++ (Str.ofString "0123456789"))
  | _ => false
def nameB (x : Str) : Bool := decide (1 ≤ x.length) && decide (x.length ≤ 12) && inS (chr1 x) (Str.ofString "abcdefghijklmnopqrstuvwxyz") && (strChars x).all lett
theorem sf_len : (Str.ofString "abcdefghijklmnopqrstuvwxyz").length + (Str.ofString "0123456789").length ≤ sizeLine := by rw [sizeLine_eq]; decide
theorem strChar {x : Str} {d : D} (h : d ∈ strChars x) : ∃ c, d = .str ⟨#[c]⟩ := by
  unfold strChars at h
  rw [List.mem_map] at h
  obtain ⟨c, _, e⟩ := h
  exact ⟨c, e.symm⟩
theorem strChars_len {x : Str} : (strChars x).length = x.length := by unfold strChars Str.length; simp
theorem s_is_name (x : Str) (h : x.length ≤ 1000) : PyD.run fns gc sub (n + 1) "is_name" [.str x] μ = .ok (.bl (nameB x)) μ := by
  rw [run_succ (F := ⟨1, 2, b_is_name⟩) rfl rfl]
  have hl : x.length ≤ sizeLine := sl_le (by omega)
  simp -dsimp [isiD, binD, cmpD, partOf, biD, bl1, int1, lenD, asDct, asSeq, asLst, ixD, tyD, addD, slcD, b_is_name, b_is_name_2, biD, lenD, hl, g_long, ixD, asDct]
  by_cases h1 : 1 ≤ x.length
  · by_cases h2 : x.length ≤ 12
    · have e1 : (1 : Int) ≤ x.length := by omega
      have e2 : (x.length : Int) ≤ 12 := by omega
      obtain ⟨c, r, ec⟩ : ∃ c r, x.cps.toList = c :: r := by
        cases q : x.cps.toList with
        | nil =>
          have : x.length = 0 := by unfold Str.length; rw [← Array.length_toList, q]; rfl
          omega
        | cons c r => exact ⟨c, r, rfl⟩
      have e3 : chr1 x = ⟨#[c]⟩ := by unfold chr1; rw [ec]; rfl
      have e4 : inD μ (.str ⟨#[c]⟩) (.str "abcdefghijklmnopqrstuvwxyz") = some (inS (chr1 x) (Str.ofString "abcdefghijklmnopqrstuvwxyz")) := by rw [e3]; rfl
      simp -dsimp [isiD, binD, cmpD, partOf, biD, bl1, int1, lenD, asDct, asSeq, asLst, ixD, tyD, addD, slcD, e1, e2, g_small, ec, e4, hl]
      cases q : inS (chr1 x) (Str.ofString "abcdefghijklmnopqrstuvwxyz") with
      | false => simp -dsimp [isiD, binD, cmpD, partOf, biD, bl1, int1, lenD, asDct, asSeq, asLst, ixD, tyD, addD, slcD, nameB, h1, h2, q]
      | true =>
        simp -dsimp [isiD, binD, cmpD, partOf, biD, bl1, int1, lenD, asDct, asSeq, asLst, ixD, tyD, addD, slcD, b_is_name_1]
        rw [loopL_map (strChars x) [] (f := fun d => .bl (lett d)) (fun d hd a ha => by
          obtain ⟨c, rfl⟩ := strChar hd
          have ha : a.length < sizeLine := sl_lt (by rw [strChars_len] at ha; simp at ha; omega)
          have e5 : inD μ (.str ⟨#[c]⟩) (.str ((Str.ofString "abcdefghijklmnopqrstuvwxyz") ++ (Str.ofString "0123456789"))) = some (lett (.str ⟨#[c]⟩)) := rfl
          simp -dsimp [isiD, binD, cmpD, partOf, biD, bl1, int1, lenD, asDct, asSeq, asLst, ixD, tyD, addD, slcD, asg, wipeD, Tg.slots, PX.gslots, g_small, g_fig, addD, sf_len, e5, ha])]
        simp -dsimp [isiD, binD, cmpD, partOf, biD, bl1, int1, lenD, asDct, asSeq, asLst, ixD, tyD, addD, slcD, bl1, asLst, blsOf_map, all_id, -List.all_map, -List.all_eq_true, nameB, h1, h2, q]
    · have e2 : ¬ ((x.length : Int) ≤ 12) := by omega
      simp -dsimp [isiD, binD, cmpD, partOf, biD, bl1, int1, lenD, asDct, asSeq, asLst, ixD, tyD, addD, slcD, e2, g_long, hl, nameB, h2]
  · have e1 : ¬ ((1 : Int) ≤ x.length) := by omega
    simp -dsimp [isiD, binD, cmpD, partOf, biD, bl1, int1, lenD, asDct, asSeq, asLst, ixD, tyD, addD, slcD, e1, hl, nameB, h1]
structure Pt where
  pieces : List Pc
  seams : List Seam
  top : Int
def ptD (p : Pt) : D := .tup [.tup (p.pieces.map pcD), .tup (p.seams.map smD), .int p.top]
/-- a pattern that is right -/
structure PtOk (p : Pt) : Prop where
  n1 : 1 ≤ p.pieces.length
  n40 : p.pieces.length ≤ 40
  nm : ∀ q ∈ p.pieces, nameB q.name = true ∧ nmP q.name
  pc : ∀ q ∈ p.pieces, PcGen 12 p.top q
  asc : (p.pieces.map (·.name)).Pairwise fun a b => ltd (.str a) (.str b) = true
  t0 : 0 ≤ p.top
  t1 : p.top ≤ 60
  sm : SeamsGen p.pieces p.seams
  sasc : p.seams.Pairwise fun a b => ltd (smD a) (smD b) = true
  few : 2 * p.seams.length < 64
theorem asc_nd {l : List Str} (h : l.Pairwise fun a b => ltd (.str a) (.str b) = true) : l.Nodup := h.imp fun {a b} h e => by
  rw [e, ltd_irrefl] at h
  cases h
theorem PcGen.mono {a b : Nat} {top : Int} {p : Pc} (h : PcGen a top p) (hab : a ≤ b) : PcGen b top p := ⟨h.l3, Nat.le_trans h.lm hab, h.ok, h.sum⟩
def names12 : List Str := ["a", "a1", "back", "b", "cuff", "front", "p0", "p10", "p2", "sleeve", "abcdefghijkl", "z"]
theorem names12_ok : ∀ x ∈ names12, nameB x = true ∧ nmP x := by
  intro x hx
  simp only [names12, List.mem_cons, List.not_mem_nil, or_false] at hx
  rcases hx with rfl | rfl | rfl | rfl | rfl | rfl | rfl | rfl | rfl | rfl | rfl | rfl <;> exact ⟨by decide +kernel, by decide +kernel, by decide +kernel⟩
theorem names12_nd : names12.Nodup := by decide +kernel
theorem s_pattern (c : Cln μ) (hd : Dr r μ) {many most : Nat} (h1 : 1 ≤ many) (h12 : many ≤ 12) (hm3 : 3 ≤ most) (hm : most ≤ 12) (hQ : ∀ p μ1, St r μ μ1 → PtOk p → p.pieces.length = many → p.seams.length ≤ 2 * many + 1 → (∀ q ∈ p.pieces, q.name ∈ names12) → Q (ptD p) μ1) :
    wp (PyD.run fns gc sub (n + 5) "_law_pattern" [.ref r, .int many, .int most] μ) Q := by
  rw [run_succ (F := ⟨3, 6, b_law_pattern⟩) rfl rfl]
  simp -dsimp [isiD, binD, cmpD, partOf, biD, bl1, int1, lenD, asDct, asSeq, asLst, ixD, tyD, addD, slcD, b_law_pattern, b_law_pattern_4]
  refine s_mixed c hd (ds := names12.map .str) (cln_map (fun _ => rfl) names12) (by decide) fun d m f μ1 ha st hf => ?_
  obtain ⟨f, rfl, hf2⟩ := perm_back hf
  clear hf
  have hf := hf2
  have hcn : ∀ x ∈ f.take many, nameB x = true ∧ nmP x := fun x h => names12_ok x (hf.mem_iff.mp (List.mem_of_mem_take h))
  have hnd : (f.take many).Nodup := (hf.nodup_iff.mpr names12_nd).sublist (List.take_sublist _ _)
  have hcl : (f.take many).length = many := by
    rw [List.length_take, hf.length_eq]
    show min many 12 = many
    omega
  have e1 : cutD (f.map D.str) none (some (many : Int)) = (f.take many).map D.str := by rw [cut_take, List.map_take]
  have hcs := sort_names fun x h => (hcn x h).2
  have hcl' : ((f.take many).map D.str).length ≤ sizeLine := sl_le (by rw [List.length_map, hcl]; omega)
  rw [ha]
  have hasc := srtBy_lt hnd (f := D.str) fun _ _ _ _ => toks_str_inj
  have hpm := srtBy_perm D.str (f.take many)
  have hcs2 : canSort ((f.map D.str).take many) = true := by rw [← List.map_take]; exact hcs
  have hsr2 : srtD ((f.map D.str).take many) = (srtBy D.str (f.take many)).map D.str := by rw [← List.map_take]; exact srt_map _ _
  have hmn : min many f.length ≤ sizeLine := sl_le (by omega)
  simp -dsimp [isiD, binD, cmpD, partOf, biD, bl1, int1, lenD, asDct, asSeq, asLst, ixD, tyD, addD, slcD, cut_take, hcs2, hsr2, hmn, b_law_pattern_3]
  generalize srtBy D.str (f.take many) = ns at hasc hpm ⊢
  refine s_take st.cl st.dr (by omega) fun t0 μ2 t1 t2 st2 => ?_
  simp only [aft_val st2]
  simp -dsimp [isiD, binD, cmpD, partOf, biD, bl1, int1, lenD, asDct, asSeq, asLst, ixD, tyD, addD, slcD, ]
  refine s_pick st2.cl st2.dr (by simp) (by simp) fun t ht μ3 st3 => ?_
  simp only [aft_val st3]
  obtain ⟨top, rfl, h0, h60⟩ : ∃ s : Int, t = .int s ∧ 0 ≤ s ∧ s ≤ 60 := by
    simp only [List.mem_cons, List.not_mem_nil, or_false] at ht
    rcases ht with rfl | rfl | rfl | rfl | rfl | rfl
    all_goals first | exact ⟨_, rfl, by omega, by omega⟩ | exact ⟨t0, rfl, by omega, by omega⟩
  simp -dsimp [isiD, binD, cmpD, partOf, biD, bl1, int1, lenD, asDct, asSeq, asLst, ixD, tyD, addD, slcD, b_law_pattern_2]
  have hnl : ns.length = many := by rw [hpm.length_eq, hcl]
  refine s_pieces st3.cl st3.dr (by omega) hm3 hm h0 h60 fun d m ps μ4 ha st4 hns hps => ?_
  rw [ha]
  have hpl : ps.length = many := by rw [← hnl, ← hns, List.length_map]
  have hnm : ∀ p ∈ ps, nameB p.name = true ∧ nmP p.name := fun p hp => hcn p.name (hpm.mem_iff.mp (by rw [← hns]; exact List.mem_map.mpr ⟨p, hp, rfl⟩))
  have sm2 : Sm 2 (many : Int) := .inl (by omega)
  simp -dsimp [isiD, binD, cmpD, partOf, biD, bl1, int1, lenD, asDct, asSeq, asLst, ixD, tyD, addD, slcD, b_law_pattern_1, mul_sm sm2, addD]
  refine s_take st4.cl st4.dr (by omega) fun k μ5 k0 k1 st5 => ?_
  simp only [aft_val st5]
  obtain ⟨k, rfl⟩ : ∃ j : Nat, k = (j : Int) := ⟨k.toNat, by omega⟩
  simp -dsimp [isiD, binD, cmpD, partOf, biD, bl1, int1, lenD, asDct, asSeq, asLst, ixD, tyD, addD, slcD, ]
  refine s_seams st5.cl st5.dr (fun p hp => (hnm p hp).2) (by rw [hns]; exact asc_nd hasc) (fun p hp => Nat.le_trans (hps p hp).lm hm) (by omega) fun d m ss μ6 ha st6 hss hsl hs2 => ?_
  rw [ha]
  simp -dsimp [isiD, binD, cmpD, partOf, biD, bl1, int1, lenD, asDct, asSeq, asLst, ixD, tyD, addD, slcD, ]
  have hsp := srtBy_perm smD ss
  have hsl2 : (srtBy smD ss).length ≤ 2 * many + 1 := by rw [hsp.length_eq]; omega
  exact hQ ⟨ps, srtBy smD ss, top⟩ μ6 (st.trans (st2.trans (st3.trans (st4.trans (st5.trans st6))))) ⟨by simp only; omega, by simp only; omega, hnm, fun q hq => (hps q hq).mono hm, by rw [hns]; exact hasc, h0, h60,
    ⟨fun s hs => hss.ok s (hsp.mem_iff.mp hs), (hsp.flatMap_right _).nodup_iff.mpr hss.nd⟩, srtBy_lt (seam_inj hss.nd) fun _ _ _ _ => toks_sm_inj, by simp only; omega⟩ hpl hsl2 fun q hq => hf.mem_iff.mp (List.mem_of_mem_take (hpm.mem_iff.mp (by rw [← hns]; exact List.mem_map.mpr ⟨q, hq, rfl⟩)))
end Pk

set_option Elab.async false
set_option linter.all false
set_option maxRecDepth 100000
set_option maxHeartbeats 400000
namespace Pk
open PySem PyD
variable {sub : Subs} {n b r : Nat} {v : D} {μ : Store} {Q : D → Store → Prop}
theorem g_even : gc "EVEN" = some (.str "even") := rfl
theorem g_odd : gc "ODD" = some (.str "odd") := rfl
theorem g_half : gc "HALF_TURN" = some (.int 180) := rfl
theorem g_mp : gc "MOST_PIECES" = some (.int 40) := rfl
theorem g_fe : gc "FEWEST_EDGES" = some (.int 3) := rfl
theorem g_me : gc "MOST_EDGES" = some (.int 12) := rfl
theorem g_top : gc "TOP_SIZE" = some (.int 60) := rfl
theorem g_ease : gc "MOST_EASE" = some (.int 200) := rfl
theorem aft (d : D) (μ : Store) : after μ.length false d μ = .ok (.v d) μ := after_same (Nat.le_refl _)
theorem s_within (i j k : Int) : PyD.run fns gc sub (n + 1) "is_within" [.int i, .int j, .int k] μ = .ok (.bl (decide (j ≤ i) && decide (i ≤ k))) μ := by
  rw [run_succ (F := ⟨3, 3, b_is_within⟩) rfl rfl]
  by_cases h : j ≤ i <;> simp -dsimp [isiD, binD, cmpD, partOf, biD, bl1, int1, lenD, asDct, asSeq, asLst, ixD, tyD, addD, slcD, b_is_within, h]
theorem s_is_edge {top : Int} {e : Edge} (h : EdgeOk top e) : PyD.run fns gc sub (n + 2) "is_edge" [edgeD e] μ = .ok (.bl true) μ := by
  rw [run_succ (F := ⟨1, 4, b_is_edge⟩) rfl rfl]
  simp -dsimp [isiD, binD, cmpD, partOf, biD, bl1, int1, lenD, asDct, asSeq, asLst, ixD, tyD, addD, slcD, b_is_edge, b_is_edge_3, edgeD, eqD, asg, asgL, asSeq, b_is_edge_2, b_is_edge_1, s_within, aft, h.b1, h.b2, h.s1, h.s2, h.a1, h.a2]
theorem s_is_piece {top : Int} {p : Pc} (hn : nameB p.name = true ∧ nmP p.name) (h : PcGen 12 top p) : PyD.run fns gc sub (n + 3) "is_piece" [pcD p] μ = .ok (.bl true) μ := by
  rw [run_succ (F := ⟨1, 5, b_is_piece⟩) rfl rfl]
  have hl : p.name.length ≤ 1000 := by have := hn.2.1; omega
  have hnm : PyD.run fns gc sub (n + 2) "is_name" [.str p.name] μ = .ok (.bl true) μ := by rw [s_is_name (n := n + 1) p.name hl, hn.1]
  have h3 : (3 : Int) ≤ p.edges.length := by have := h.l3; omega
  have h12 : (p.edges.length : Int) ≤ 12 := by have := h.lm; omega
  simp -dsimp [isiD, binD, cmpD, partOf, biD, bl1, int1, lenD, asDct, asSeq, asLst, ixD, tyD, addD, slcD, b_is_piece, b_is_piece_5, pcD, eqD, hnm, aft, b_is_piece_4, b_is_piece_3, g_fe, g_me, h3, h12, b_is_piece_2]
  rw [loopL_map (p.edges.map edgeD) [] (f := fun _ => .bl true) (fun d hd a ha => by
    obtain ⟨e, he, rfl⟩ := List.mem_map.mp hd
    have hal : a.length < sizeLine := sl_lt (by simp at ha; omega)
    simp -dsimp [isiD, binD, cmpD, partOf, biD, bl1, int1, lenD, asDct, asSeq, asLst, ixD, tyD, addD, slcD, asg, wipeD, Tg.slots, PX.gslots, s_is_edge (h.ok e he), aft, hal])]
  rw [List.nil_append, List.map_map]
  obtain ⟨bs, e1, e2⟩ := bls_true (l := p.edges.map ((fun _ => D.bl true) ∘ edgeD)) fun d hd => by obtain ⟨_, _, rfl⟩ := List.mem_map.mp hd; rfl
  simp -dsimp [isiD, binD, cmpD, partOf, biD, bl1, int1, lenD, asDct, asSeq, asLst, ixD, tyD, addD, slcD, bl1, asLst, e1, e2, -List.all_eq_true, b_is_piece_1]
  rw [loopL_map (p.edges.map edgeD) [] (f := fun d => match d with | .tup [_, _, a] => a | d => d) (fun d hd a ha => by
    obtain ⟨e, he, rfl⟩ := List.mem_map.mp hd
    have hal : a.length < sizeLine := sl_lt (by simp at ha; omega)
    simp -dsimp [isiD, binD, cmpD, partOf, biD, bl1, int1, lenD, asDct, asSeq, asLst, ixD, tyD, addD, slcD, edgeD, asg, asgL, asSeq, wipeD, Tg.slots, PX.gslots, hal])]
  have es : List.map (fun d => match d with | .tup [_, _, a] => a | d => d) (p.edges.map edgeD) = p.edges.map fun e => .int e.2.2 := by rw [List.map_map]; rfl
  have si := intsOf_map (p.edges.map (·.2.2))
  rw [List.map_map] at si
  have si : intsOf (p.edges.map fun e => D.int e.2.2) = some (p.edges.map (·.2.2)) := si
  have smm : Sm ((p.edges.length : Int) - 2) 180 := .inr (by omega)
  rw [List.nil_append, es]
  simp -dsimp [isiD, binD, cmpD, partOf, biD, bl1, int1, lenD, asDct, asSeq, asLst, ixD, tyD, addD, slcD, int1, asLst, si, g_half, mul_sm smm, eqD, h.sum]
def cntK (ps : List Pc) : List DK := ps.map fun p => .k (.inr p.name)
def cntV (ps : List Pc) : List D := ps.map fun p => .int (p.edges.length : Int)
theorem cnt_nd {ps : List Pc} (h : (ps.map (·.name)).Nodup) : (ps.map fun p => DK.k (.inr p.name)).Nodup := by
  refine List.pairwise_map.mpr ((List.pairwise_map.mp h).imp fun {p q} hne e => hne ?_)
  simpa using e
theorem cnt_look {ps : List Pc} (hn : (ps.map (·.name)).Nodup) {s : Spot} (h : s ∈ spotsOf ps) : ∃ l : Nat, lookD (cntK ps) (cntV ps) (.k (.inr s.1)) = some (.int l) ∧ s.2 < l := by
  obtain ⟨p, hp, e, hl⟩ := mem_spots h
  refine ⟨p.edges.length, ?_, hl⟩
  have := look_map (k := fun p : Pc => DK.k (.inr p.name)) (v := fun p => D.int (p.edges.length : Int)) (cnt_nd hn) hp
  rw [e] at this
  exact this
theorem s_is_spot {ps : List Pc} (hn : (ps.map (·.name)).Nodup) {s : Spot} (h : s ∈ spotsOf ps) : PyD.run fns gc sub (n + 2) "is_spot" [.dct false (cntK ps) (cntV ps), spotD s] μ = .ok (.bl true) μ := by
  rw [run_succ (F := ⟨2, 2, b_is_spot⟩) rfl rfl]
  obtain ⟨l, e, hl⟩ := cnt_look hn h
  have h1 : (s.2 : Int) ≤ (l : Int) - 1 := by omega
  have h0 : (0 : Int) ≤ s.2 := by omega
  simp -dsimp [isiD, binD, cmpD, partOf, biD, bl1, int1, lenD, asDct, asSeq, asLst, ixD, tyD, addD, slcD, b_is_spot, b_is_spot_2, spotD, eqD, inD, D.key, e, b_is_spot_1, s_within, aft, h0, h1]
theorem ge_spots {s t : Spot} (hs : nmP s.1) (ht : nmP t.1) (h : ltd (spotD s) (spotD t) = true) : geP μ (.tup [.str s.1, .int s.2]) (.tup [.str t.1, .int t.2]) = some false := by
  have e1 : (spotD s).toPμ μ = some (.tuple [.str s.1, .int s.2]) := by simp [spotD, D.toPμ, D.toP, toPs]
  have e2 : (spotD t).toPμ μ = some (.tuple [.str t.1, .int t.2]) := by simp [spotD, D.toPμ, D.toP, toPs]
  have e3 : PySem.W.dataLt (.tuple [.str s.1, .int s.2]) (.tuple [.str t.1, .int t.2]) = true := by
    have := h
    simpa [ltd, spotD, D.pd, D.toP, toPs] using this
  have g : geP μ (spotD s) (spotD t) = some false := by
    simp [geP, e1, e2, PySem.W.alike, PySem.W.alikeAll, SeqAt.shaped, PyData.canLay0, PyData.canLayAll0, PyData.depth, PyData.depthAll, hs.2, ht.2, isTupP, tupOnly, tupOnlys, e3]
  exact g
theorem way_in {w : Str} (h : w = "even" ∨ w = "odd") : inD μ (.str w) (.tup [.str "even", .str "odd"]) = some true := by
  have e : ∀ w : Str, inD μ (.str w) (.tup [.str "even", .str "odd"]) = inD [] (.str w) (.tup [.str "even", .str "odd"]) := fun w => by simp only [inD, asDct, asSeq, D.toPμ]
  rw [e]
  rcases h with rfl | rfl <;> decide +kernel
theorem s_is_seam {ps : List Pc} (hn : (ps.map (·.name)).Nodup) (hnm : ∀ p ∈ ps, nmP p.name) {s : Seam} (h : SeamGen ps s) : PyD.run fns gc sub (n + 3) "is_seam" [.dct false (cntK ps) (cntV ps), smD s] μ = .ok (.bl true) μ := by
  rw [run_succ (F := ⟨2, 6, b_is_seam⟩) rfl rfl]
  have e1 : PyD.run fns gc sub (n + 2) "is_spot" [.dct false (cntK ps) (cntV ps), spotD s.one] μ = _ := s_is_spot hn h.m1
  have e2 : PyD.run fns gc sub (n + 2) "is_spot" [.dct false (cntK ps) (cntV ps), spotD s.other] μ = _ := s_is_spot hn h.m2
  have e3 := ge_spots (μ := μ) (spot_nm hnm h.m1) (spot_nm hnm h.m2) h.lt
  have e4 := way_in (μ := μ) h.way
  simp -dsimp [isiD, binD, cmpD, partOf, biD, bl1, int1, lenD, asDct, asSeq, asLst, ixD, tyD, addD, slcD, b_is_seam, b_is_seam_4, smD, eqD, asg, asgL, asSeq, b_is_seam_3, b_is_seam_2, e1, e2, aft]
  simp -dsimp [isiD, binD, cmpD, partOf, biD, bl1, int1, lenD, asDct, asSeq, asLst, ixD, tyD, addD, slcD, spotD, e3, b_is_seam_1, g_even, g_odd, e4, g_ease, s_within, aft, h.e0, h.e1]
theorem ascB_tail (ds : List D) : ((zipD ds ds.tail).all fun d => match d with
    | .ktup [a, b] => ltd a b
    | _ => false) = ascB ds := by rw [← List.drop_one]; exact ascB_zip ds
theorem s_ascending_tup {ds : List D} (hl : ds.length ≤ 1000) (h : ∀ x ∈ ds, ∀ y ∈ ds, ltD μ x y = some (ltd x y)) : PyD.run fns gc sub (n + 1) "are_ascending" [.tup ds] μ = .ok (.bl (ascB ds)) μ := by
  rw [run_succ (F := ⟨1, 3, b_are_ascending⟩) rfl rfl]
  simp -dsimp [isiD, binD, cmpD, partOf, biD, bl1, int1, lenD, asDct, asSeq, asLst, ixD, tyD, addD, slcD, b_are_ascending, slcD, cut_from1]
  rw [loopL_map (zipD ds ds.tail) [] (f := fun d => .bl (match d with | .ktup [a, b] => ltd a b | _ => false)) (fun d hd a ha => by
    obtain ⟨x, hx, y, hy, rfl⟩ := zip_mem hd
    have hzl := zip_length (xs := ds) (ys := ds.tail)
    have hal : a.length < sizeLine := sl_lt (by simp at ha; omega)
    simp -dsimp [isiD, binD, cmpD, partOf, biD, bl1, int1, lenD, asDct, asSeq, asLst, ixD, tyD, addD, slcD, asg, asgL, asSeq, wipeD, Tg.slots, PX.gslots, h x hx y (List.mem_of_mem_tail hy), hal])]
  simp -dsimp [isiD, binD, cmpD, partOf, biD, bl1, int1, lenD, asDct, asSeq, asLst, ixD, tyD, addD, slcD, bl1, asLst, blsOf_map, all_id, -List.all_map, -List.all_eq_true, ascB_tail]
theorem s_ascending_lst {ds : List D} (hl : ds.length ≤ 1000) (h : ∀ x ∈ ds, ∀ y ∈ ds, ltD μ x y = some (ltd x y)) : PyD.run fns gc sub (n + 1) "are_ascending" [.lst ds] μ = .ok (.bl (ascB ds)) μ := by
  rw [run_succ (F := ⟨1, 3, b_are_ascending⟩) rfl rfl]
  simp -dsimp [isiD, binD, cmpD, partOf, biD, bl1, int1, lenD, asDct, asSeq, asLst, ixD, tyD, addD, slcD, b_are_ascending, slcD, asLst, cut_from1]
  rw [loopL_map (zipD ds ds.tail) [] (f := fun d => .bl (match d with | .ktup [a, b] => ltd a b | _ => false)) (fun d hd a ha => by
    obtain ⟨x, hx, y, hy, rfl⟩ := zip_mem hd
    have hzl := zip_length (xs := ds) (ys := ds.tail)
    have hal : a.length < sizeLine := sl_lt (by simp at ha; omega)
    simp -dsimp [isiD, binD, cmpD, partOf, biD, bl1, int1, lenD, asDct, asSeq, asLst, ixD, tyD, addD, slcD, asg, asgL, asSeq, wipeD, Tg.slots, PX.gslots, h x hx y (List.mem_of_mem_tail hy), hal])]
  simp -dsimp [isiD, binD, cmpD, partOf, biD, bl1, int1, lenD, asDct, asSeq, asLst, ixD, tyD, addD, slcD, bl1, asLst, blsOf_map, all_id, -List.all_map, -List.all_eq_true, ascB_tail]
theorem lt_strs (x y : Str) : ltD μ (.str x) (.str y) = some (ltd (.str x) (.str y)) := by
  simp [ltD, ltd, D.pd, D.toP, PySem.W.dataLt_str]
theorem lt_seams {s t : Seam} (hs : SeamNm s) (ht : SeamNm t) : ltD μ (smD s) (smD t) = some (ltd (smD s) (smD t)) := by
  have e1 : (smD s).toPμ μ = some (smP s) := by rw [← sm_toP]; rfl
  have e2 : (smD t).toPμ μ = some (smP t) := by rw [← sm_toP]; rfl
  have e3 : ltD μ (smD s) (smD t) = ltP μ (smD s) (smD t) := rfl
  rw [e3]
  simp only [ltP, e1, e2, sm_alike, sm_shaped hs, sm_shaped ht, Bool.and_self, Bool.true_and]
  have : isTupP (smP s) = true := rfl
  rw [this, if_pos rfl]
  simp only [ltd, D.pd, sm_toP, Option.getD_some]
theorem s_are_seams {ps : List Pc} (hn : (ps.map (·.name)).Nodup) (hnm : ∀ p ∈ ps, nmP p.name) {ss : List Seam} (h : SeamsGen ps ss) (hasc : ss.Pairwise fun a b => ltd (smD a) (smD b) = true) (hf : 2 * ss.length < 64) :
    PyD.run fns gc sub (n + 4) "are_seams" [.dct false (cntK ps) (cntV ps), .tup (ss.map smD)] μ = .ok (.bl true) μ := by
  rw [run_succ (F := ⟨2, 5, b_are_seams⟩) rfl rfl]
  simp -dsimp [isiD, binD, cmpD, partOf, biD, bl1, int1, lenD, asDct, asSeq, asLst, ixD, tyD, addD, slcD, b_are_seams, b_are_seams_3]
  rw [loopL_map (ss.map smD) [] (f := fun _ => .bl true) (fun d hd a ha => by
    obtain ⟨s, hs, rfl⟩ := List.mem_map.mp hd
    have hal : a.length < sizeLine := sl_lt (by simp at ha; omega)
    simp -dsimp [isiD, binD, cmpD, partOf, biD, bl1, int1, lenD, asDct, asSeq, asLst, ixD, tyD, addD, slcD, asg, wipeD, Tg.slots, PX.gslots, s_is_seam hn hnm (h.ok s hs), aft, hal])]
  rw [List.nil_append]
  obtain ⟨bs, e1, e2⟩ := bls_true (l := (ss.map smD).map fun _ => D.bl true) fun d hd => by obtain ⟨_, _, rfl⟩ := List.mem_map.mp hd; rfl
  have e3 : PyD.run fns gc sub (n + 3) "are_ascending" [.tup (ss.map smD)] μ = .ok (.bl true) μ := by
    rw [s_ascending_tup (n := n + 2) (by simp; omega) fun x hx y hy => ?_, ascB_of (List.pairwise_map.mpr hasc)]
    obtain ⟨s, hs, rfl⟩ := List.mem_map.mp hx
    obtain ⟨t, ht, rfl⟩ := List.mem_map.mp hy
    exact lt_seams ((h.ok s hs).nm hnm) ((h.ok t ht).nm hnm)
  simp -dsimp [isiD, binD, cmpD, partOf, biD, bl1, int1, lenD, asDct, asSeq, asLst, ixD, tyD, addD, slcD, bl1, asLst, e1, e2, e3, aft, -List.all_eq_true, -List.map_map, b_are_seams_2]
  have hfl : ((ss.map smD).flatMap fun d => match d with | .tup [x, y, _, _] => [x, y] | _ => []) = (ss.flatMap ends).map spotD := by
    rw [List.flatMap_map, List.map_flatMap]
    rfl
  have hel : (ss.flatMap ends).length = 2 * ss.length := by
    clear hfl e3 e1 hf hasc h
    induction ss with
    | nil => rfl
    | cons s ss ih => rw [List.flatMap_cons, List.length_append, ih, List.length_cons]; simp only [ends, List.length_cons, List.length_nil]; omega
  rw [loopL_flat (f := fun d => match d with | .tup [x, y, _, _] => [x, y] | _ => []) 1000 (ss.map smD) [] (fun d hd a ha => by
    obtain ⟨s, hs, rfl⟩ := List.mem_map.mp hd
    simp only [smD, List.length_cons, List.length_nil] at ha
    simp -dsimp [isiD, binD, cmpD, partOf, biD, bl1, int1, lenD, asDct, asSeq, asLst, ixD, tyD, addD, slcD, asg, wipeD, Tg.slots, PX.gslots, smD, slcD, cut_take2]
    rw [loopL_map [spotD s.one, spotD s.other] a (f := fun d => d) (fun d hd a' ha' => by
      have hal : a'.length < sizeLine := sl_lt (by simp at ha'; omega)
      simp -dsimp [isiD, binD, cmpD, partOf, biD, bl1, int1, lenD, asDct, asSeq, asLst, ixD, tyD, addD, slcD, asg, wipeD, Tg.slots, PX.gslots, hal])]
    rfl) (by rw [hfl]; simp [hel]; omega)]
  have hls := lenset_spots (μ := μ) h.nd (by rw [hel]; exact hf)
  rw [List.nil_append, hfl]
  generalize hL : ss.flatMap ends = L at hls hel ⊢
  simp only [biD, asLst, List.length_map] at hls
  simp -dsimp [isiD, binD, cmpD, partOf, biD, bl1, int1, lenD, asDct, asSeq, asLst, ixD, tyD, addD, slcD, b_are_seams_1, asLst, hls, eqD]
theorem mul0 (x : Int) : mulD μ (.int 0) (.int x) = some (.v (.int 0)) := by rw [mul_sm (.inl (by omega))]; simp
theorem s_is_pattern {p : Pt} (h : PtOk p) : PyD.run fns gc sub (n + 5) "is_pattern" [ptD p] μ = .ok (.bl true) μ := by
  rw [run_succ (F := ⟨1, 11, b_is_pattern⟩) rfl rfl]
  have hnd := asc_nd h.asc
  have hn1 : (1 : Int) ≤ p.pieces.length := by have := h.n1; omega
  have hn40 : (p.pieces.length : Int) ≤ 40 := by have := h.n40; omega
  have hnm : ∀ q ∈ p.pieces, nmP q.name := fun q hq => (h.nm q hq).2
  simp -dsimp [isiD, binD, cmpD, partOf, biD, bl1, int1, lenD, asDct, asSeq, asLst, ixD, tyD, addD, slcD, b_is_pattern, b_is_pattern_6, ptD, eqD, asg, asgL, asSeq, b_is_pattern_5, b_is_pattern_4, g_mp, hn1, hn40]
  rw [loopL_map (p.pieces.map pcD) [] (f := fun _ => .bl true) (fun d hd a ha => by
    obtain ⟨q, hq, rfl⟩ := List.mem_map.mp hd
    have hal : a.length < sizeLine := sl_lt (by have := h.n40; simp at ha; omega)
    simp -dsimp [isiD, binD, cmpD, partOf, biD, bl1, int1, lenD, asDct, asSeq, asLst, ixD, tyD, addD, slcD, asg, wipeD, Tg.slots, PX.gslots, s_is_piece (h.nm q hq) (h.pc q hq), aft, hal])]
  rw [List.nil_append]
  obtain ⟨bs, e1, e2⟩ := bls_true (l := (p.pieces.map pcD).map fun _ => D.bl true) fun d hd => by obtain ⟨_, _, rfl⟩ := List.mem_map.mp hd; rfl
  simp -dsimp [isiD, binD, cmpD, partOf, biD, bl1, int1, lenD, asDct, asSeq, asLst, ixD, tyD, addD, slcD, bl1, asLst, e1, e2, -List.all_eq_true, -List.map_map, b_is_pattern_3]
  rw [loopL_map (p.pieces.map pcD) [] (f := fun d => match d with | .tup [x, _] => x | d => d) (fun d hd a ha => by
    obtain ⟨q, hq, rfl⟩ := List.mem_map.mp hd
    have hal : a.length < sizeLine := sl_lt (by have := h.n40; simp at ha; omega)
    simp -dsimp [isiD, binD, cmpD, partOf, biD, bl1, int1, lenD, asDct, asSeq, asLst, ixD, tyD, addD, slcD, pcD, asg, asgL, asSeq, wipeD, Tg.slots, PX.gslots, hal])]
  have en : List.map (fun d => match d with | .tup [x, _] => x | d => d) (p.pieces.map pcD) = (p.pieces.map (·.name)).map D.str := by rw [List.map_map, List.map_map]; rfl
  have e3 : PyD.run fns gc sub (n + 4) "are_ascending" [.lst ((p.pieces.map (·.name)).map D.str)] μ = .ok (.bl true) μ := by
    rw [s_ascending_lst (n := n + 3) (by have := h.n40; simp; omega) fun x hx y hy => ?_, ascB_of (List.pairwise_map.mpr h.asc)]
    obtain ⟨s, hs, rfl⟩ := List.mem_map.mp hx
    obtain ⟨t, ht, rfl⟩ := List.mem_map.mp hy
    exact lt_strs s t
  rw [List.nil_append, en]
  simp -dsimp [isiD, binD, cmpD, partOf, biD, bl1, int1, lenD, asDct, asSeq, asLst, ixD, tyD, addD, slcD, e3, aft, g_top, s_within, h.t0, h.t1, -List.map_map, b_is_pattern_2]
  have ed : ∀ (t : D → Acc → Store → R Acc), (∀ q ∈ p.pieces, ∀ (ks : List DK) (vs : List D), ks.length < 100 → t (pcD q) (ks, vs) μ = .ok (putD ks vs (.k (.inr q.name)) (.int (q.edges.length : Int))) μ) →
      loopLt t (p.pieces.map pcD) (([], []) : Acc) μ = .ok (cntK p.pieces, cntV p.pieces) μ := fun t ht => loopL_dict 100 p.pieces ht (cnt_nd hnd) (by have := h.n40; omega)
  rw [ed _ fun q hq ks vs hks => by
    have hal : ks.length < sizeLine := sl_lt (by omega)
    simp -dsimp [isiD, binD, cmpD, partOf, biD, bl1, int1, lenD, asDct, asSeq, asLst, ixD, tyD, addD, slcD, pcD, asg, asgL, asSeq, wipeD, Tg.slots, PX.gslots, D.key, hal]]
  have e4 := s_are_seams (n := n) (sub := sub) (μ := μ) hnd hnm h.sm h.sasc h.few
  simp -dsimp [isiD, binD, cmpD, partOf, biD, bl1, int1, lenD, asDct, asSeq, asLst, ixD, tyD, addD, slcD, e4, aft, b_is_pattern_1]
  have hsm : ∀ q ∈ p.pieces, ∀ e ∈ q.edges, Sm p.top e.2.1 := fun q hq e he => .inl (by have := h.t0; have := h.t1; omega)
  have hpl : ((p.pieces.map pcD).flatMap fun d => match d with | .tup [_, .tup es] => es.flatMap fun _ => [D.bl true, D.bl true] | _ => []).length ≤ 960 := by
    have hb : ∀ l : List Pc, (∀ q ∈ l, q.edges.length ≤ 12) → ((l.map pcD).flatMap fun d => match d with | .tup [_, .tup es] => es.flatMap fun _ => [D.bl true, D.bl true] | _ => []).length ≤ 24 * l.length := fun l => by
      induction l with
      | nil => simp
      | cons q l ih =>
        intro hl
        have h1 := ih fun x hx => hl x (by simp [hx])
        have h2 := hl q (by simp)
        rw [List.map_cons, List.flatMap_cons, List.length_append, List.length_cons]
        have h3 : ((q.edges.map edgeD).flatMap fun _ => [D.bl true, D.bl true]).length = 2 * q.edges.length := by rw [flat2_len, List.length_map]
        simp only [pcD] at h3 h1 ⊢
        omega
    have := hb p.pieces fun q hq => (h.pc q hq).lm
    have := h.n40
    omega
  rw [loopL_flat (f := fun d => match d with | .tup [_, .tup es] => es.flatMap fun _ => [D.bl true, D.bl true] | _ => []) 960 (p.pieces.map pcD) [] (fun d hd a ha => by
    obtain ⟨q, hq, rfl⟩ := List.mem_map.mp hd
    simp only [pcD] at ha
    simp -dsimp [isiD, binD, cmpD, partOf, biD, bl1, int1, lenD, asDct, asSeq, asLst, ixD, tyD, addD, slcD, pcD, asg, asgL, asSeq, wipeD, Tg.slots, PX.gslots]
    rw [loopL_flat (f := fun _ => [D.bl true, D.bl true]) 960 (q.edges.map edgeD) a (fun d hd a' ha' => by
      obtain ⟨e, he, rfl⟩ := List.mem_map.mp hd
      have ok := (h.pc q hq).ok e he
      have hb1 := ok.b1
      have hpos := ok.pos
      simp only [List.length_cons, List.length_nil] at ha'
      simp -dsimp [isiD, binD, cmpD, partOf, biD, bl1, int1, lenD, asDct, asSeq, asLst, ixD, tyD, addD, slcD, edgeD, asg, asgL, asSeq, wipeD, Tg.slots, PX.gslots]
      rw [loopL_map [D.int 0, D.int p.top] a' (f := fun _ => .bl true) (fun d hd a2 ha2 => by
        simp only [List.length_cons, List.length_nil] at ha2
        have hal : a2.length < sizeLine := sl_lt (by omega)
        simp only [List.mem_cons, List.not_mem_nil, or_false] at hd
        rcases hd with rfl | rfl
        · simp -dsimp [isiD, binD, cmpD, partOf, biD, bl1, int1, lenD, asDct, asSeq, asLst, ixD, tyD, addD, slcD, asg, wipeD, Tg.slots, PX.gslots, mul0, addD, hal, hb1]
        · simp -dsimp [isiD, binD, cmpD, partOf, biD, bl1, int1, lenD, asDct, asSeq, asLst, ixD, tyD, addD, slcD, asg, wipeD, Tg.slots, PX.gslots, mul_sm (hsm q hq e he), addD, hal, hpos])]
      rfl) ha]) (by rw [List.length_nil, Nat.zero_add]; exact hpl)]
  rw [List.nil_append]
  obtain ⟨bs2, e5, e6⟩ := bls_true (l := (p.pieces.map pcD).flatMap fun d => match d with | .tup [_, .tup es] => es.flatMap fun _ => [D.bl true, D.bl true] | _ => []) fun d hd => by
    obtain ⟨x, hx, hd⟩ := List.mem_flatMap.mp hd
    obtain ⟨q, _, rfl⟩ := List.mem_map.mp hx
    obtain ⟨_, _, hd⟩ := List.mem_flatMap.mp hd
    simpa using hd
  generalize ((p.pieces.map pcD).flatMap fun d => match d with | .tup [_, .tup es] => es.flatMap fun _ => [D.bl true, D.bl true] | _ => []) = L at e5 ⊢
  simp -dsimp [isiD, binD, cmpD, partOf, biD, bl1, int1, lenD, asDct, asSeq, asLst, ixD, tyD, addD, slcD, bl1, asLst, e5, e6, -List.all_eq_true]
theorem s_check_pattern {p : Pt} (h : PtOk p) : PyD.run fns gc sub (n + 6) "check_pattern" [ptD p] μ = .ok .non μ := by
  rw [run_succ (F := ⟨1, 1, b_check_pattern⟩) rfl rfl]
  have e : PyD.run fns gc sub (n + 5) "is_pattern" [ptD p] μ = _ := s_is_pattern h
  simp -dsimp [isiD, binD, cmpD, partOf, biD, bl1, int1, lenD, asDct, asSeq, asLst, ixD, tyD, addD, slcD, b_check_pattern, b_check_pattern_1, e, aft]
end Pk

set_option Elab.async false
set_option linter.all false
set_option maxRecDepth 100000
set_option maxHeartbeats 400000
namespace Pk
open PySem PyD
variable {sub : Subs} {n b r : Nat} {v : D} {μ : Store} {Q : D → Store → Prop}
def edgeOf (ps : List Pc) (s : Spot) : Edge := match ps.find? fun q => decide (q.name = s.1) with
  | some q => q.edges.getD s.2 (0, 0, 0)
  | none => (0, 0, 0)
/-- the length of an edge in a size -/
def longZ (ps : List Pc) (s : Spot) (size : Int) : Int := (edgeOf ps s).1 + size * (edgeOf ps s).2.1
theorem find_name {ps : List Pc} (hn : (ps.map (·.name)).Nodup) {q : Pc} (hq : q ∈ ps) {x : Str} (e : q.name = x) : ps.find? (fun q => decide (q.name = x)) = some q := by
  induction ps with
  | nil => cases hq
  | cons p ps ih =>
    rw [List.map_cons, List.nodup_cons] at hn
    rw [List.find?_cons]
    rcases List.mem_cons.mp hq with rfl | hq
    · rw [decide_eq_true e]
    · have : p.name ≠ x := fun z => hn.1 (by rw [z, ← e]; exact List.mem_map.mpr ⟨q, hq, rfl⟩)
      rw [decide_eq_false this]
      exact ih hn.2 hq
theorem edgeOf_eq {ps : List Pc} (hn : (ps.map (·.name)).Nodup) {q : Pc} (hq : q ∈ ps) {s : Spot} (e : q.name = s.1) (hl : s.2 < q.edges.length) : edgeOf ps s = q.edges[s.2] := by
  unfold edgeOf
  rw [find_name hn hq e]
  simp [List.getD_eq_getElem?_getD, List.getElem?_eq_getElem hl]
theorem edge_ok {p : Pt} (h : PtOk p) {s : Spot} (hs : s ∈ spotsOf p.pieces) : EdgeOk p.top (edgeOf p.pieces s) := by
  obtain ⟨q, hq, e, hl⟩ := mem_spots hs
  rw [edgeOf_eq (asc_nd h.asc) hq e hl]
  exact (h.pc q hq).ok _ (List.getElem_mem hl)
theorem dict_pieces {p : Pt} (h : PtOk p) : tyD .dict μ [.tup (p.pieces.map pcD)] = some (.f (.dct false (cntK p.pieces) (p.pieces.map fun q => .tup (q.edges.map edgeD)))) := by
  have hl : leafB (p.pieces.map pcD) = false := by
    cases q : p.pieces with
    | nil => have := h.n1; rw [q] at this; simp at this
    | cons x l => rw [List.map_cons, leafB_cons]; rfl
  have hz : (p.pieces.map pcD).length ≤ sizeLine := sl_le (by have := h.n40; simp; omega)
  have hp := pairs_map (k := fun q : Pc => DK.k (.inr q.name)) (v := fun q => D.tup (q.edges.map edgeD)) (g := pcD) (fun q => ⟨.str q.name, rfl, rfl⟩) (l := p.pieces) (ks := []) (vs := []) (cnt_nd (asc_nd h.asc)) (by simp)
  simp only [tyD, dctArg, hl, hz, hp, if_true, Bool.false_eq_true, if_false, List.nil_append]
  rfl
theorem s_long_in {p : Pt} (h : PtOk p) {s : Spot} (hs : s ∈ spotsOf p.pieces) (size : Int) : PyD.run fns gc sub (n + 1) "long_in" [ptD p, spotD s, .int size] μ = .ok (.int (longZ p.pieces s size)) μ := by
  rw [run_succ (F := ⟨3, 6, b_long_in⟩) rfl rfl]
  obtain ⟨q, hq, e, hl⟩ := mem_spots hs
  have hd := dict_pieces (μ := μ) h
  have hk := look_map (k := fun q : Pc => DK.k (.inr q.name)) (v := fun q => D.tup (q.edges.map edgeD)) (cnt_nd (asc_nd h.asc)) hq
  rw [e] at hk
  have hk : lookD (cntK p.pieces) (p.pieces.map fun q => .tup (q.edges.map edgeD)) (.k (.inr s.1)) = some (.tup (q.edges.map edgeD)) := hk
  have ok := edge_ok h hs
  have he := edgeOf_eq (asc_nd h.asc) hq e hl
  rw [he] at ok
  have hsm : Sm size q.edges[s.2].2.1 := .inr (by have := ok.s1; have := ok.s2; omega)
  have ha : (q.edges.map edgeD)[s.2]? = some (edgeD q.edges[s.2]) := by rw [List.getElem?_map, List.getElem?_eq_getElem hl]; rfl
  simp only [tyD] at hd
  simp -dsimp [isiD, binD, cmpD, partOf, biD, bl1, int1, lenD, asDct, asSeq, asLst, ixD, tyD, addD, slcD, b_long_in, b_long_in_2, ptD, spotD, hd, D.key, hk, ha, edgeD, asg, asgL, asSeq, b_long_in_1, mul_sm hsm, addD, longZ, he]
/-- a seam fits in a size -/
def fitB (ps : List Pc) (s : Seam) (size : Int) : Bool := decide ((if longZ ps s.one size - longZ ps s.other size < 0 then -(longZ ps s.one size - longZ ps s.other size) else longZ ps s.one size - longZ ps s.other size) ≤ s.ease)
theorem s_does_fit {p : Pt} (h : PtOk p) {k : Nat} (hk : k < p.seams.length) (size : Int) : PyD.run fns gc sub (n + 2) "does_fit" [ptD p, .int k, .int size] μ = .ok (.bl (fitB p.pieces p.seams[k] size)) μ := by
  rw [run_succ (F := ⟨3, 7, b_does_fit⟩) rfl rfl]
  have hm := List.getElem_mem hk
  have ok := h.sm.ok _ hm
  have ha : (p.seams.map smD)[k]? = some (smD p.seams[k]) := by rw [List.getElem?_map, List.getElem?_eq_getElem hk]; rfl
  have e1 : PyD.run fns gc sub (n + 1) "long_in" [.tup [.tup (p.pieces.map pcD), .tup (p.seams.map smD), .int p.top], spotD p.seams[k].one, .int size] μ = _ := s_long_in h ok.m1 size
  have e2 : PyD.run fns gc sub (n + 1) "long_in" [.tup [.tup (p.pieces.map pcD), .tup (p.seams.map smD), .int p.top], spotD p.seams[k].other, .int size] μ = _ := s_long_in h ok.m2 size
  simp -dsimp [isiD, binD, cmpD, partOf, biD, bl1, int1, lenD, asDct, asSeq, asLst, ixD, tyD, addD, slcD, b_does_fit, b_does_fit_2, ptD, ha, smD, asg, asgL, asSeq, b_does_fit_1, e1, e2, aft, fitB]
theorem s_check_seam {p : Pt} {k : Nat} (hk : k < p.seams.length) : PyD.run fns gc sub (n + 2) "check_seam" [ptD p, .int k] μ = .ok .non μ := by
  rw [run_succ (F := ⟨2, 2, b_check_seam⟩) rfl rfl]
  have h0 : (0 : Int) ≤ k := by omega
  have h1 : (k : Int) ≤ (p.seams.length : Int) - 1 := by omega
  simp -dsimp [isiD, binD, cmpD, partOf, biD, bl1, int1, lenD, asDct, asSeq, asLst, ixD, tyD, addD, slcD, b_check_seam, b_check_seam_1, ptD, s_within, aft, h0, h1]
theorem s_check_size {p : Pt} {size : Int} (h0 : 0 ≤ size) (h1 : size ≤ p.top) : PyD.run fns gc sub (n + 2) "check_size" [ptD p, .int size] μ = .ok .non μ := by
  rw [run_succ (F := ⟨2, 2, b_check_size⟩) rfl rfl]
  simp -dsimp [isiD, binD, cmpD, partOf, biD, bl1, int1, lenD, asDct, asSeq, asLst, ixD, tyD, addD, slcD, b_check_size, b_check_size_1, ptD, s_within, aft, h0, h1]
theorem s_fits {p : Pt} (h : PtOk p) {k : Nat} (hk : k < p.seams.length) {size : Int} (h0 : 0 ≤ size) (h1 : size ≤ p.top) : PyD.run fns gc sub (n + 7) "fits" [ptD p, .int k, .int size] μ = .ok (.bl (fitB p.pieces p.seams[k] size)) μ := by
  rw [run_succ (F := ⟨3, 3, b_fits⟩) rfl rfl]
  have e1 : PyD.run fns gc sub (n + 6) "check_pattern" [ptD p] μ = _ := s_check_pattern h
  have e2 : PyD.run fns gc sub (n + 6) "check_seam" [ptD p, .int k] μ = _ := s_check_seam (n := n + 4) hk
  have e3 : PyD.run fns gc sub (n + 6) "check_size" [ptD p, .int size] μ = _ := s_check_size (n := n + 4) h0 h1
  have e4 : PyD.run fns gc sub (n + 6) "does_fit" [ptD p, .int k, .int size] μ = _ := s_does_fit (n := n + 4) h hk size
  simp -dsimp [isiD, binD, cmpD, partOf, biD, bl1, int1, lenD, asDct, asSeq, asLst, ixD, tyD, addD, slcD, b_fits, b_fits_4, b_fits_3, b_fits_2, b_fits_1, e1, e2, e3, e4, aft]
end Pk

set_option Elab.async false
set_option linter.all false
set_option maxRecDepth 100000
set_option maxHeartbeats 400000
namespace Pk
open PySem PyD
variable {sub : Subs} {n b r : Nat} {v : D} {μ : Store} {Q : D → Store → Prop}
/-- whole numbers as values -/
def natsD (l : List Nat) : List D := l.map fun k => D.int (k : Nat)
theorem nats_filter (p : D → Bool) (l : List Nat) : (natsD l).filter p = natsD (l.filter fun k => p (.int (k : Nat))) := by
  unfold natsD
  rw [List.filter_map]
  rfl
/-- the sizes of a pattern -/
def sizesOf (p : Pt) : List Nat := List.range (p.top.toNat + 1)
theorem mem_sizes {p : Pt} (h : PtOk p) {k : Nat} (hk : k ∈ sizesOf p) : (k : Int) ≤ p.top := by
  have := List.mem_range.mp hk
  have := h.t0
  omega
theorem range_top {p : Pt} (h : PtOk p) : rng1 (.int (p.top + 1)) μ = .ok (.its (natsD (sizesOf p))) μ := by
  have h0 := h.t0
  have h1 := h.t1
  obtain ⟨t, ht⟩ : ∃ t : Nat, p.top = t := ⟨p.top.toNat, by omega⟩
  have e : p.top + 1 = ((t + 1 : Nat) : Int) := by omega
  rw [e, rng1_ok (ok62_nat (by omega)), Int.toNat_natCast, rangeD_map]
  unfold natsD sizesOf
  rw [ht]
  rfl
theorem sizes_len {p : Pt} (h : PtOk p) : (sizesOf p).length ≤ 61 := by
  have := h.t1
  unfold sizesOf
  rw [List.length_range]
  omega
def fitsIn (p : Pt) (s : Seam) : List Nat := (sizesOf p).filter fun k => fitB p.pieces s (k : Nat)
def fails (p : Pt) (s : Seam) : List Nat := (sizesOf p).filter fun k => !fitB p.pieces s (k : Nat)
def spanD (l : List Nat) : D := match l with
  | [] => .non
  | x :: r => .tup [.int (x : Nat), .int (((x :: r).getLast (by simp) : Nat) : Int)]
theorem s_fit_sizes {p : Pt} (h : PtOk p) {k : Nat} (hk : k < p.seams.length) : PyD.run fns gc sub (n + 7) "fit_sizes" [ptD p, .int k] μ = .ok (spanD (fitsIn p p.seams[k])) μ := by
  rw [run_succ (F := ⟨2, 4, b_fit_sizes⟩) rfl rfl]
  have e1 : PyD.run fns gc sub (n + 6) "check_pattern" [ptD p] μ = _ := s_check_pattern h
  have e2 : PyD.run fns gc sub (n + 6) "check_seam" [ptD p, .int k] μ = _ := s_check_seam (n := n + 4) hk
  have e3 : ∀ z : Nat, PyD.run fns gc sub (n + 6) "does_fit" [ptD p, .int k, .int z] μ = _ := fun z => s_does_fit (n := n + 4) h hk z
  simp only [ptD] at e1 e2 e3 ⊢
  simp -dsimp [isiD, binD, cmpD, partOf, biD, bl1, int1, lenD, asDct, asSeq, asLst, ixD, tyD, addD, slcD, b_fit_sizes, b_fit_sizes_4, b_fit_sizes_3, e1, e2, aft, b_fit_sizes_2, range_top h]
  rw [loopL_filter (natsD (sizesOf p)) [] (f := id) (p := fun d => match d with | .int z => fitB p.pieces p.seams[k] z | _ => false) (fun d hd a ha => by
    obtain ⟨z, hz, rfl⟩ := List.mem_map.mp hd
    have hsl := sizes_len h
    have hal : a.length < sizeLine := sl_lt (by simp [natsD] at ha; omega)
    cases q : fitB p.pieces p.seams[k] (z : Nat) <;> simp -dsimp [isiD, binD, cmpD, partOf, biD, bl1, int1, lenD, asDct, asSeq, asLst, ixD, tyD, addD, slcD, asg, wipeD, Tg.slots, PX.gslots, e3, q, aft, hal])]
  rw [nats_filter, List.map_id, List.nil_append]
  have hl : ∀ l : List Nat, l.length < 100 → spanD l = spanD l := fun _ _ => rfl
  change _ = R.ok (spanD ((sizesOf p).filter fun k_1 => fitB p.pieces p.seams[k] (k_1 : Nat))) μ
  generalize (sizesOf p).filter (fun k_1 => fitB p.pieces p.seams[k] (k_1 : Nat)) = l
  cases l with
  | nil => simp -dsimp [isiD, binD, cmpD, partOf, biD, bl1, int1, lenD, asDct, asSeq, asLst, ixD, tyD, addD, slcD, natsD, b_fit_sizes_1, spanD]
  | cons x l =>
    have e4 : (natsD (x :: l)).length = l.length + 1 := by simp [natsD]
    have e5 : (natsD (x :: l))[l.length]? = some (.int (((x :: l).getLast (by simp) : Nat) : Int)) := by
      unfold natsD
      rw [List.getElem?_map, List.getLast_eq_getElem]
      simp
    have e6 : natsD (x :: l) = .int (x : Nat) :: natsD l := rfl
    have e7 : (D.int (x : Nat) :: natsD l)[l.length]? = some (.int (((x :: l).getLast (by simp) : Nat) : Int)) := by rw [← e6]; exact e5
    have e8 : (natsD l).length = l.length := by simp [natsD]
    have e9 : (0 : Int) < (l.length : Int) + 1 := by omega
    rw [e6]
    have e10 : ∀ hh, (D.int (x : Nat) :: natsD l)[l.length]'hh = .int (((x :: l).getLast (by simp) : Nat) : Int) := fun hh => by
      rw [List.getElem?_eq_getElem hh] at e7
      exact Option.some.inj e7
    simp -dsimp [isiD, binD, cmpD, partOf, biD, bl1, int1, lenD, asDct, asSeq, asLst, ixD, tyD, addD, slcD, b_fit_sizes_1, spanD, at_last, e8, e9]
    exact e10 _
/-- the seams that do not fit in some size, from the k-th on -/
def misRow (p : Pt) (k : Nat) : Option (Nat × Nat) := match p.seams[k]? with
  | some s => match fails p s with
    | [] => none
    | z :: _ => some (k, z)
  | none => none
def rowD (r : Nat × Nat) : D := .tup [.int (r.1 : Nat), .int (r.2 : Nat)]
def misOf (p : Pt) (l : List Nat) : List D := (l.filterMap (misRow p)).map rowD
theorem mis_len (p : Pt) (l : List Nat) : (misOf p l).length ≤ l.length := by
  unfold misOf
  rw [List.length_map]
  exact List.length_filterMap_le _ _
theorem cln_mis (p : Pt) (l : List Nat) : clns (misOf p l) = true := cln_map (fun _ => rfl) _
def MisI (p : Pt) (μ : Store) (rr : List D) (ρ : PyD.Env) (m : Store) : Prop := ∃ k o2 o3 o4, k ≤ p.seams.length ∧ rr = (rangeD 0 p.seams.length).drop k ∧ ρ = [some (ptD p), some (.ref μ.length), o2, o3, o4] ∧ m = μ ++ [.lst (misOf p (List.range k))]
theorem s_misfits {p : Pt} (h : PtOk p) (hQ : Q (.ref μ.length) (μ ++ [.lst (misOf p (List.range p.seams.length))])) : wp (PyD.run fns gc sub (n + 7) "misfits" [ptD p] μ) Q := by
  rw [run_succ (F := ⟨1, 5, b_misfits⟩) rfl rfl]
  have hfew := h.few
  have e1 : PyD.run fns gc sub (n + 6) "check_pattern" [ptD p] μ = _ := s_check_pattern h
  simp only [ptD] at e1 ⊢
  simp -dsimp [isiD, binD, cmpD, partOf, biD, bl1, int1, lenD, asDct, asSeq, asLst, ixD, tyD, addD, slcD, b_misfits, b_misfits_6, e1, aft, b_misfits_5, pushO, b_misfits_4, rng1_ok (ok62_nat (show p.seams.length ≤ 1000000 by omega))]
  refine forL_inv (rangeD 0 p.seams.length) (MisI p μ) _ _ ⟨0, _, _, _, Nat.zero_le _, rfl, rfl, rfl⟩ (fun d rr ρ m ⟨k, o2, o3, o4, hk, er, eρ, em⟩ => ?_) fun ρ m ⟨k, o2, o3, o4, hk, er, eρ, em⟩ => ?_
  · subst em
    have hk : k < p.seams.length := by
      have := congrArg List.length er
      rw [List.length_drop, range_length, List.length_cons] at this
      omega
    have er2 : d = .int (k : Int) ∧ rr = (rangeD 0 p.seams.length).drop (k + 1) := by
      have hlen : k < (rangeD 0 p.seams.length).length := by rw [range_length]; exact hk
      rw [List.drop_eq_getElem_cons hlen] at er
      simp only [List.cons.injEq] at er
      refine ⟨?_, er.2⟩
      rw [er.1]
      simp [rangeD_map]
    obtain ⟨rfl, rfl⟩ := er2
    have e3 : ∀ (z : Nat) (m : Store), PyD.run fns gc sub (n + 6) "does_fit" [ptD p, .int k, .int z] m = _ := fun z m => s_does_fit (n := n + 4) h hk z
    simp only [ptD] at eρ e3
    subst eρ
    have hsl := sizes_len h
    have af : ∀ d, after (μ.length + 1) false d (μ ++ [M.lst (misOf p (List.range k))]) = .ok (.v d) (μ ++ [.lst (misOf p (List.range k))]) := fun d => after_same (by simp)
    simp -dsimp [isiD, binD, cmpD, partOf, biD, bl1, int1, lenD, asDct, asSeq, asLst, ixD, tyD, addD, slcD, asg, b_misfits_3, range_top h]
    rw [loopL_filter (natsD (sizesOf p)) [] (f := id) (p := fun d => match d with | .int z => !fitB p.pieces p.seams[k] z | _ => false) (fun d hd a ha => by
      obtain ⟨z, hz, rfl⟩ := List.mem_map.mp hd
      have hal : a.length < sizeLine := sl_lt (by simp [natsD] at ha; omega)
      cases q : fitB p.pieces p.seams[k] (z : Nat) <;> simp -dsimp [isiD, binD, cmpD, partOf, biD, bl1, int1, lenD, asDct, asSeq, asLst, ixD, tyD, addD, slcD, asg, wipeD, Tg.slots, PX.gslots, e3, q, af, hal])]
    rw [nats_filter, List.map_id, List.nil_append]
    have hmr : misRow p k = (match fails p p.seams[k] with | [] => none | z :: _ => some (k, z)) := by unfold misRow; rw [List.getElem?_eq_getElem hk]
    have hrow : misOf p (List.range (k + 1)) = misOf p (List.range k) ++ (match fails p p.seams[k] with | [] => [] | z :: _ => [rowD (k, z)]) := by
      unfold misOf
      rw [List.range_succ, List.filterMap_append, List.map_append, List.filterMap_cons, hmr]
      cases fails p p.seams[k] <;> rfl
    have hfl : (fails p p.seams[k]).length ≤ 61 := Nat.le_trans (List.length_filter_le _ _) hsl
    have hI : ∀ o2 o3 o4, MisI p μ ((rangeD 0 p.seams.length).drop (k + 1)) [some (ptD p), some (.ref μ.length), o2, o3, o4] (μ ++ [.lst (misOf p (List.range (k + 1)))]) := fun o2 o3 o4 => ⟨k + 1, o2, o3, o4, hk, rfl, rfl, rfl⟩
    rw [hrow] at hI
    simp only [ptD] at hI
    have hml : (misOf p (List.range k)).length < 100000 := by have := mis_len p (List.range k); rw [List.length_range] at this; omega
    have hF : ((sizesOf p).filter fun z : Nat => !fitB p.pieces p.seams[k] (z : Nat)) = fails p p.seams[k] := rfl
    simp only [hF]
    generalize fails p p.seams[k] = F at hI hfl ⊢
    cases F with
    | nil =>
      rw [List.append_nil] at hI
      simp -dsimp [isiD, binD, cmpD, partOf, biD, bl1, int1, lenD, asDct, asSeq, asLst, ixD, tyD, addD, slcD, natsD, b_misfits_2]
      exact hI _ _ _
    | cons z F =>
      have e9 : (0 : Int) < (F.length : Int) + 1 := by omega
      have e10 : natsD (z :: F) = .int (z : Nat) :: natsD F := rfl
      have e11 : (natsD F).length = F.length := by simp [natsD]
      rw [e10]
      simp -dsimp [isiD, binD, cmpD, partOf, biD, bl1, int1, lenD, asDct, asSeq, asLst, ixD, tyD, addD, slcD, b_misfits_2, e11, e9, app_last hml]
      exact hI _ _ _
  · subst em
    have hk : k = p.seams.length := by
      have := congrArg List.length er
      rw [List.length_drop, range_length, List.length_nil] at this
      omega
    subst hk eρ
    simp -dsimp [isiD, binD, cmpD, partOf, biD, bl1, int1, lenD, asDct, asSeq, asLst, ixD, tyD, addD, slcD, b_misfits_1]
    exact hQ
end Pk

set_option Elab.async false
set_option linter.all false
set_option maxRecDepth 100000
set_option maxHeartbeats 400000
namespace Pk
open PySem PyD
variable {sub : Subs} {n b r : Nat} {v : D} {μ : Store} {Q : D → Store → Prop}
mutual
/-- plain values that _law_same can hold against one another, so deep at most -/
def smv : Nat → D → Bool
  | _, .non => true
  | _, .bl _ => true
  | _, .int _ => true
  | _, .str _ => true
  | k + 1, .tup ds => decide (ds.length ≤ 100000) && smvs k ds
  | k + 1, .lst ds => decide (ds.length ≤ 100000) && smvs k ds
  | _, _ => false
def smvs : Nat → List D → Bool
  | _, [] => true
  | k, d :: ds => smv k d && smvs k ds
end
theorem smvs_iff {k : Nat} {ds : List D} : smvs k ds = true ↔ ∀ d ∈ ds, smv k d = true := by
  induction ds with
  | nil => simp [smvs]
  | cons d ds ih => simp [smvs, ih]
/-- a list, of the store or as a value -/
def LV (μ : Store) (d : D) (xs : List D) : Prop := d = .lst xs ∨ ∃ n, d = .ref n ∧ μ[n]? = some (.lst xs)
theorem eq_bl (a c : Bool) : eqD μ (.bl a) (.bl c) = some (a == c) := by
  cases a <;> cases c <;> simp [eqD, eqP, D.toPμ, D.toP, SeqAt.shaped, PyData.canLay0, PyData.depth, PyData.eqv]
theorem same_loop {a d : D} {xs : List D} (hl : xs.length ≤ 100000) (ha : ∀ i : Nat, ixD μ a (.int (i : Nat)) = xs[i]?) (hd : ∀ i : Nat, ixD μ d (.int (i : Nat)) = xs[i]?) (hlen : lenD μ d = some xs.length)
    (h : ∀ x ∈ xs, PyD.run fns gc sub n "_law_same" [x, x] μ = .ok (.bl true) μ) {o : Option D} : evS (PyD.run fns gc sub n) gc sub b_law_same_6 [some a, some d, o] μ = .rt (.bl true) μ := by
  have e1 : biD .len μ [d] = some (.v (.int xs.length)) := by simp only [biD, hlen]
  simp -dsimp [b_law_same_6, e1, rng1_ok (ok62_nat (show xs.length ≤ 1000000 by omega))]
  refine seq_all (p := fun _ => true) (I := fun ρ => ∃ o, ρ = [some a, some d, o]) (d0 := .non) (rangeD 0 xs.length) _ _ (fun r => r = .rt (.bl true) μ) ⟨o, rfl⟩ (fun d' hd' ρ ⟨o, e⟩ => ⟨fun _ => ?_, fun z => by cases z⟩) (fun _ ρ' ⟨o, e⟩ => ?_) (fun z => ?_)
  · subst e
    obtain ⟨i, hi, rfl⟩ := range_mem hd'
    have h1 := ha i
    have h2 := hd i
    rw [List.getElem?_eq_getElem hi] at h1 h2
    have h3 := h _ (List.getElem_mem hi)
    simp -dsimp [asg, b_law_same_5, h1, h2, h3, aft]
  · subst e
    simp -dsimp [b_law_same_4]
  · rw [List.all_eq_false] at z
    obtain ⟨x, _, hx⟩ := z
    exact absurd rfl hx
theorem leaf_same {d : D} (h : smv 0 d = true) : PyD.run fns gc sub (n + 1) "_law_same" [d, d] μ = .ok (.bl true) μ := by
  rw [run_succ (F := ⟨2, 3, b_law_same⟩) rfl rfl]
  cases d with
  | str x =>
    have e0 : eqD μ (.str x) (.str x) = some true := by simp [eqD]
    simp -dsimp [isiD, binD, cmpD, partOf, biD, bl1, int1, lenD, asDct, asSeq, asLst, ixD, tyD, addD, slcD, b_law_same, b_law_same_10, b_law_same_9, eq_bl, b_law_same_3, b_law_same_2, b_law_same_1, e0]
  | int x =>
    have e0 : eqD μ (.int x) (.int x) = some true := by simp [eqD]
    simp -dsimp [isiD, binD, cmpD, partOf, biD, bl1, int1, lenD, asDct, asSeq, asLst, ixD, tyD, addD, slcD, b_law_same, b_law_same_10, b_law_same_9, eq_bl, b_law_same_3, b_law_same_2, b_law_same_1, e0]
  | _ => first | (simp [smv] at h; done) | simp -dsimp [isiD, binD, cmpD, partOf, biD, bl1, int1, lenD, asDct, asSeq, asLst, ixD, tyD, addD, slcD, b_law_same, b_law_same_10, b_law_same_9, eq_bl, b_law_same_3, b_law_same_2, b_law_same_1]
theorem smv_mono : ∀ (k : Nat) (d : D), smv 0 d = true → smv k d = true
  | 0, _, h => h
  | k + 1, d, h => by cases d <;> first | rfl | (simp [smv] at h)
theorem s_same : ∀ (k n : Nat) (d : D), smv k d = true → PyD.run fns gc sub (n + k + 1) "_law_same" [d, d] μ = .ok (.bl true) μ := by
  intro k
  induction k with
  | zero => exact fun n d h => leaf_same h
  | succ k ih =>
    intro n d h
    cases d with
    | tup ds =>
      simp only [smv, Bool.and_eq_true, decide_eq_true_eq, smvs_iff] at h
      rw [run_succ (F := ⟨2, 3, b_law_same⟩) rfl rfl]
      have e0 : eqD μ (.int ds.length) (.int ds.length) = some true := by simp [eqD]
      simp -dsimp [isiD, binD, cmpD, partOf, biD, bl1, int1, lenD, asDct, asSeq, asLst, ixD, tyD, addD, slcD, b_law_same, b_law_same_10, b_law_same_9, b_law_same_8, b_law_same_7, eq_bl, e0]
      rw [same_loop (n := n + (k + 1)) (μ := μ) (a := .tup ds) (d := .tup ds) (xs := ds) h.1 (fun i => by simp [ixD, asDct, asSeq]) (fun i => by simp [ixD, asDct, asSeq]) rfl (fun x hx => ih n x (h.2 x hx))]
      rfl
    | lst ds =>
      simp only [smv, Bool.and_eq_true, decide_eq_true_eq, smvs_iff] at h
      rw [run_succ (F := ⟨2, 3, b_law_same⟩) rfl rfl]
      have e0 : eqD μ (.int ds.length) (.int ds.length) = some true := by simp [eqD]
      simp -dsimp [isiD, binD, cmpD, partOf, biD, bl1, int1, lenD, asDct, asSeq, asLst, ixD, tyD, addD, slcD, b_law_same, b_law_same_10, b_law_same_9, b_law_same_8, b_law_same_7, eq_bl, e0]
      rw [same_loop (n := n + (k + 1)) (μ := μ) (a := .lst ds) (d := .lst ds) (xs := ds) h.1 (fun i => by simp [ixD, asDct, asSeq]) (fun i => by simp [ixD, asDct, asSeq]) rfl (fun x hx => ih n x (h.2 x hx))]
      rfl
    | _ => first | exact leaf_same (n := n + (k + 1)) rfl | (simp [smv] at h; done)
theorem s_same_list {a d : D} {xs : List D} (ha : LV μ a xs) (hd : LV μ d xs) {k : Nat} (hl : xs.length ≤ 100000) (h : ∀ x ∈ xs, smv k x = true) : PyD.run fns gc sub (n + k + 2) "_law_same" [a, d] μ = .ok (.bl true) μ := by
  rw [run_succ (F := ⟨2, 3, b_law_same⟩) rfl rfl]
  have e0 : eqD μ (.int xs.length) (.int xs.length) = some true := by simp [eqD]
  have ia : isiD μ a .list = some true ∧ isiD μ a .tuple = some false ∧ lenD μ a = some xs.length ∧ ∀ i : Nat, ixD μ a (.int (i : Nat)) = xs[i]? := by
    rcases ha with rfl | ⟨n, rfl, e⟩ <;> simp [isiD, lenD, ixD, asDct, asSeq, *]
  have id : isiD μ d .list = some true ∧ isiD μ d .tuple = some false ∧ lenD μ d = some xs.length ∧ ∀ i : Nat, ixD μ d (.int (i : Nat)) = xs[i]? := by
    rcases hd with rfl | ⟨n, rfl, e⟩ <;> simp [isiD, lenD, ixD, asDct, asSeq, *]
  have hn : cmpD .Is μ d .non = some false := by rcases hd with rfl | ⟨n, rfl, e⟩ <;> rfl
  have e1 : biD .len μ [d] = some (.v (.int xs.length)) := by simp only [biD, id.2.2.1]
  have e2 : biD .len μ [a] = some (.v (.int xs.length)) := by simp only [biD, ia.2.2.1]
  have c1 : ∀ x y, cmpD .NotEq μ (.bl x) (.bl y) = some (!(x == y)) := fun x y => by simp [cmpD, eq_bl]
  have c2 : cmpD .NotEq μ (.int xs.length) (.int xs.length) = some false := by simp [cmpD, e0]
  simp -dsimp [b_law_same, b_law_same_10, b_law_same_9, b_law_same_8, b_law_same_7, hn, ia.1, ia.2.1, id.1, id.2.1, c1, c2, e1, e2]
  rw [same_loop (μ := μ) hl ia.2.2.2 id.2.2.2 id.2.2.1 (fun x hx => s_same k n x (h x hx))]
  rfl
end Pk

set_option Elab.async false
set_option linter.all false
set_option maxRecDepth 100000
set_option maxHeartbeats 400000
namespace Pk
open PySem PyD
variable {sub : Subs} {n b r : Nat} {v : D} {μ : Store} {Q : D → Store → Prop}
def spotP (s : Spot) : PyData := .tuple [.str s.1, .int (s.2 : Nat)]
def spotIn (l : List Spot) (x : Str) (i : Int) : Bool := l.any fun s => decide (s.1 = x) && decide ((s.2 : Int) = i)
theorem toPs_spots (l : List Spot) : toPs (l.map spotD) = some (l.map spotP) := by
  induction l with
  | nil => rfl
  | cons s l ih => rw [List.map_cons, toPs, ih]; simp [spotD, D.toP, toPs, spotP]
theorem layAll {l : List Spot} (h : ∀ s ∈ l, nmP s.1) : PyData.canLayAll0 (l.map spotP) = true ∧ PyData.depthAll (l.map spotP) ≤ 3 := by
  induction l with
  | nil => simp [PyData.canLayAll0, PyData.depthAll]
  | cons s l ih =>
    obtain ⟨h1, h2⟩ := ih fun x hx => h x (by simp [hx])
    have hs := (h s (by simp)).2
    simp [PyData.canLayAll0, PyData.depthAll, spotP, PyData.canLay0, PyData.depth, hs, h1]
    omega
theorem in_spots {l : List Spot} (h : ∀ s ∈ l, nmP s.1) {x : Str} (hx : PyData.strOk x = true) (i : Int) : inD μ (.tup [.str x, .int i]) (.lst (l.map spotD)) = some (spotIn l x i) := by
  obtain ⟨h1, h2⟩ := layAll h
  have e1 : SeqAt.shaped (.tuple [.str x, .int i]) = true := by simp [SeqAt.shaped, PyData.canLay0, PyData.canLayAll0, PyData.depth, PyData.depthAll, hx]
  have e2 : SeqAt.shaped (.list (l.map spotP)) = true := by simp [SeqAt.shaped, PyData.canLay0, PyData.depth, h1]; omega
  have e3 : SeqAt.shaped (.tuple (l.map spotP)) = true := by simp [SeqAt.shaped, PyData.canLay0, PyData.depth, h1]; omega
  have e4 : ((l.map spotP).any fun z => PyData.eqv z (.tuple [.str x, .int i])) = spotIn l x i := by
    rw [List.any_map]
    unfold spotIn
    congr 1
    funext s
    simp [spotP, PyData.eqv, PyData.eqvAll]
    rw [Bool.eq_iff_iff]
    simp
  simp only [inD, asDct, asSeq, asLst, D.toPμ, toPs_spots]
  simp [D.toP, toPs, e1, e2, e3, e4]
theorem spotIn_iff {l : List Spot} {x : Str} {i : Int} : spotIn l x i = true ↔ ∃ s ∈ l, s.1 = x ∧ (s.2 : Int) = i := by
  unfold spotIn
  rw [List.any_eq_true]
  simp
theorem spot_nms {p : Pt} (h : PtOk p) : ∀ s ∈ spotsOf p.pieces, nmP s.1 := fun s hs => spot_nm (fun q hq => (h.nm q hq).2) hs
theorem s_all_edges {p : Pt} (h : PtOk p) : PyD.run fns gc sub (n + 1) "all_edges" [ptD p] μ = .ok (.ref μ.length) (μ ++ [.lst ((spotsOf p.pieces).map spotD)]) := by
  rw [run_succ (F := ⟨1, 4, b_all_edges⟩) rfl rfl]
  have hl : (spotsOf p.pieces).length ≤ 480 := Nat.le_trans (spots_len (b := 12) fun q hq => (h.pc q hq).lm) (by have := h.n40; omega)
  have hfm : (p.pieces.map pcD).flatMap (fun d => match d with | .tup [.str x, .tup es] => (List.range es.length).map fun k => spotD (x, k) | _ => []) = (spotsOf p.pieces).map spotD := by
    unfold spotsOf
    rw [List.flatMap_map, List.map_flatMap]
    congr 1
    funext q
    simp [pcD, pcSpots]
  simp -dsimp [isiD, binD, cmpD, partOf, biD, bl1, int1, lenD, asDct, asSeq, asLst, ixD, tyD, addD, slcD, b_all_edges, ptD]
  rw [loopL_flat 480 (p.pieces.map pcD) [] (f := fun d => match d with | .tup [.str x, .tup es] => (List.range es.length).map fun k => spotD (x, k) | _ => []) (fun d hd a ha => by
    obtain ⟨q, hq, rfl⟩ := List.mem_map.mp hd
    have hq12 := (h.pc q hq).lm
    simp [pcD] at ha
    simp -dsimp [isiD, binD, cmpD, partOf, biD, bl1, int1, lenD, asDct, asSeq, asLst, ixD, tyD, addD, slcD, pcD, asg, asgL, asSeq, wipeD, Tg.slots, PX.gslots, rng1_ok (ok62_nat (show q.edges.length ≤ 1000000 by omega))]
    rw [loopL_map (rangeD 0 q.edges.length) a (f := fun d => .tup [.str q.name, d]) (fun d hd a' ha' => by
      rw [range_length] at ha'
      have hal : a'.length < sizeLine := sl_lt (by omega)
      obtain ⟨k, hk, rfl⟩ := range_mem hd
      simp -dsimp [isiD, binD, cmpD, partOf, biD, bl1, int1, lenD, asDct, asSeq, asLst, ixD, tyD, addD, slcD, asg, wipeD, Tg.slots, PX.gslots, hal])]
    simp [rangeD_map, spotD]) (by rw [hfm]; simp; exact hl)]
  rw [hfm, List.nil_append]
  simp -dsimp [isiD, binD, cmpD, partOf, biD, bl1, int1, lenD, asDct, asSeq, asLst, ixD, tyD, addD, slcD, pushO]
end Pk

set_option Elab.async false
set_option linter.all false
set_option maxRecDepth 100000
set_option maxHeartbeats 400000
namespace Pk
open PySem PyD
variable {sub : Subs} {n b r : Nat} {v : D} {μ : Store} {Q : D → Store → Prop}
theorem cln_spots (l : List Spot) : clns (l.map spotD) = true := cln_map cln_spot l
theorem s_check_edge {p : Pt} (h : PtOk p) (c : Cln μ) {x : Str} (hx : PyData.strOk x = true) {i : Int} (hi : spotIn (spotsOf p.pieces) x i = true) : PyD.run fns gc sub (n + 2) "check_edge" [ptD p, .tup [.str x, .int i]] μ = .ok .non μ := by
  rw [run_succ (F := ⟨2, 2, b_check_edge⟩) rfl rfl]
  have e1 : PyD.run fns gc sub (n + 1) "all_edges" [ptD p] μ = _ := s_all_edges h
  have e2 := after_last c (cln_spots (spotsOf p.pieces))
  have e3 : inD μ (.tup [.str x, .int i]) (.lst ((spotsOf p.pieces).map spotD)) = _ := in_spots (spot_nms h) hx i
  simp -dsimp [isiD, binD, cmpD, partOf, biD, bl1, int1, lenD, asDct, asSeq, asLst, ixD, tyD, addD, slcD, b_check_edge, b_check_edge_1, e1, e2, e3, hi]
theorem s_check_edge_no {p : Pt} (h : PtOk p) (c : Cln μ) {x : Str} (hx : PyData.strOk x = true) {i : Int} (hi : spotIn (spotsOf p.pieces) x i = false) : PyD.run fns gc sub (n + 2) "check_edge" [ptD p, .tup [.str x, .int i]] μ = .exc "NotThere" μ := by
  rw [run_succ (F := ⟨2, 2, b_check_edge⟩) rfl rfl]
  have e1 : PyD.run fns gc sub (n + 1) "all_edges" [ptD p] μ = _ := s_all_edges h
  have e2 := after_last c (cln_spots (spotsOf p.pieces))
  have e3 : inD μ (.tup [.str x, .int i]) (.lst ((spotsOf p.pieces).map spotD)) = _ := in_spots (spot_nms h) hx i
  simp -dsimp [isiD, binD, cmpD, partOf, biD, bl1, int1, lenD, asDct, asSeq, asLst, ixD, tyD, addD, slcD, b_check_edge, b_check_edge_1, e1, e2, e3, hi]
/-- a place as a key -/
def spK (s : Spot) : DK := .t [.inr s.1, .inl (s.2 : Int)]
theorem spK_inj {a c : Spot} (h : spK a = spK c) : a = c := by
  simp only [spK, DK.t.injEq, List.cons.injEq, Sum.inr.injEq, Sum.inl.injEq, and_true] at h
  exact Prod.ext h.1 (by have := h.2; omega)
/-- the numbers of the seams, by their edges -/
def seamK (ss : List Seam) : List DK := (ss.flatMap ends).map spK
def seamV (k : Nat) : List D := (List.range k).flatMap fun i => [D.int (i : Nat), D.int (i : Nat)]
theorem put_new {ks : List DK} {vs : List D} {k : DK} {v : D} (h : k ∉ ks) : putD ks vs k v = (ks ++ [k], vs ++ [v]) := by
  have hne : ks.any (fun y => decide (y = k)) = false := by
    rw [List.any_eq_false]
    intro y hy e
    exact h (by rw [← of_decide_eq_true e]; exact hy)
  unfold putD
  rw [hne]
  rfl
theorem seamK_snoc (dn : List Seam) (s : Seam) : seamK (dn ++ [s]) = seamK dn ++ [spK s.one] ++ [spK s.other] := by simp [seamK, ends]
theorem seamV_snoc (k : Nat) : seamV (k + 1) = seamV k ++ [.int (k : Nat)] ++ [.int (k : Nat)] := by simp [seamV, List.range_succ]
theorem flatE (l : List Seam) : (l.flatMap fun s => [s.one, s.other]).length = 2 * l.length := by
  induction l with
  | nil => rfl
  | cons a l ih => rw [List.flatMap_cons, List.length_append, ih]; simp; omega
/-- both edges of a seam are new -/
theorem seam_new {dn rs : List Seam} {s : Seam} (nd : ((dn ++ s :: rs).flatMap ends).Nodup) : spK s.one ∉ seamK dn ∧ spK s.other ∉ seamK dn ++ [spK s.one] := by
  rw [List.flatMap_append, List.flatMap_cons, List.nodup_append] at nd
  obtain ⟨_, h2, h3⟩ := nd
  have i1 : ∀ a : Spot, spK a ∈ seamK dn → a ∈ dn.flatMap ends := fun a ha => by
    obtain ⟨c, hc, e⟩ := List.mem_map.mp ha
    rw [← spK_inj e]
    exact hc
  refine ⟨fun z => h3 _ (i1 _ z) s.one (by simp [ends]) rfl, fun z => ?_⟩
  rcases List.mem_append.mp z with z | z
  · exact h3 _ (i1 _ z) s.other (by simp [ends]) rfl
  · have e := spK_inj (List.mem_singleton.mp z)
    rw [List.nodup_append] at h2
    have := h2.1
    simp [ends, e] at this
theorem key_spot (s : Spot) : (spotD s).key true = some (spK s) := rfl
theorem cln_seamV (k : Nat) : clns (seamV k) = true := clns_iff.mpr fun d hd => by
  obtain ⟨i, _, h⟩ := List.mem_flatMap.mp hd
  simp only [List.mem_cons, List.not_mem_nil, or_false] at h
  rcases h with rfl | rfl <;> rfl
theorem after_dct {μ : Store} (c : Cln μ) {t : Bool} {ks : List DK} {vs : List D} (h : clns vs = true) : after μ.length false (.ref μ.length) (μ ++ [.dct t ks vs]) = .ok (.v (.dct t ks vs)) μ := by
  have c2 : Cln (μ ++ [M.dct t ks vs]) := c.app (Cln.one h)
  unfold after
  rw [if_neg (by simp), if_pos (c2.under _)]
  have e : (μ ++ [M.dct t ks vs])[μ.length]? = some (.dct t ks vs) := by simp
  have : fzD (fzR (μ ++ [M.dct t ks vs]) μ.length 4) (.ref μ.length) = some (.dct t ks vs) := by
    simp only [fzD, fzR]
    rw [if_neg (by omega), e]
    simp only []
    rw [clns_fz h]
    rfl
  rw [this]
  simp
def SbI (p : Pt) (μ : Store) (rr : List D) (ρ : PyD.Env) (m : Store) : Prop := ∃ dn rs o2 o3 o4 o5, rr = enumD dn.length (List.map smD rs) ∧ dn ++ rs = p.seams ∧ ρ = [some (ptD p), some (.ref μ.length), o2, o3, o4, o5] ∧ m = μ ++ [.dct true (seamK dn) (seamV dn.length)]
theorem s_seams_by {p : Pt} (h : PtOk p) (hQ : Q (.ref μ.length) (μ ++ [.dct true (seamK p.seams) (seamV p.seams.length)])) : wp (PyD.run fns gc sub (n + 1) "seams_by_edges" [ptD p] μ) Q := by
  rw [run_succ (F := ⟨1, 6, b_seams_by_edges⟩) rfl rfl]
  have hfew := h.few
  simp -dsimp [isiD, binD, cmpD, partOf, biD, bl1, int1, lenD, asDct, asSeq, asLst, ixD, tyD, addD, slcD, b_seams_by_edges, b_seams_by_edges_5, pushO, b_seams_by_edges_4, ptD]
  refine forL_inv (enumD 0 (p.seams.map smD)) (SbI p μ) _ _ ⟨[], p.seams, _, _, _, _, rfl, rfl, rfl, rfl⟩ (fun d rr ρ m ⟨dn, rs, o2, o3, o4, o5, er, ep, eρ, em⟩ => ?_) fun ρ m ⟨dn, rs, o2, o3, o4, o5, er, ep, eρ, em⟩ => ?_
  · subst eρ em
    cases rs with
    | nil => cases er
    | cons s rs =>
    simp only [List.map_cons, enumD, List.cons.injEq] at er
    obtain ⟨rfl, rfl⟩ := er
    obtain ⟨n1, n2⟩ := seam_new (dn := dn) (s := s) (rs := rs) (by rw [ep]; exact h.sm.nd)
    have hdl : dn.length < 32 := by have := congrArg List.length ep; simp at this; omega
    have hkl : (seamK dn).length = 2 * dn.length := by unfold seamK; rw [List.length_map]; unfold ends; exact flatE dn
    have s1 : setD (.ref μ.length) (spotD s.one) (.int (dn.length : Nat)) (μ ++ [.dct true (seamK dn) (seamV dn.length)]) = some (μ ++ [.dct true (seamK dn ++ [spK s.one]) (seamV dn.length ++ [.int (dn.length : Nat)])]) := by
      have hl : (seamK dn).length < sizeLine := sl_lt (by omega)
      simp [setD, hl, key_spot, put_new n1]
    have s2 : setD (.ref μ.length) (spotD s.other) (.int (dn.length : Nat)) (μ ++ [.dct true (seamK dn ++ [spK s.one]) (seamV dn.length ++ [.int (dn.length : Nat)])]) = some (μ ++ [.dct true (seamK (dn ++ [s])) (seamV (dn.length + 1))]) := by
      have hl : (seamK dn ++ [spK s.one]).length < sizeLine := sl_lt (by simp; omega)
      simp only [setD, List.getElem?_append_right (Nat.le_refl _), Nat.sub_self, List.getElem?_cons_zero, hl, if_true, key_spot, Option.map_some, put_new n2]
      rw [seamK_snoc, seamV_snoc]
      simp
    simp -dsimp [isiD, binD, cmpD, partOf, biD, bl1, int1, lenD, asDct, asSeq, asLst, ixD, tyD, addD, slcD, asg, asgL, asSeq, smD, b_seams_by_edges_3, s1, b_seams_by_edges_2, s2]
    exact ⟨dn ++ [s], rs, _, _, _, _, by simp, by simpa using ep, rfl, by simp⟩
  · subst eρ em
    have hrs : rs = [] := by cases rs with | nil => rfl | cons _ _ => cases er
    subst hrs
    rw [List.append_nil] at ep
    subst ep
    simp -dsimp [isiD, binD, cmpD, partOf, biD, bl1, int1, lenD, asDct, asSeq, asLst, ixD, tyD, addD, slcD, b_seams_by_edges_1]
    exact hQ
end Pk

set_option Elab.async false
set_option linter.all false
set_option maxRecDepth 100000
set_option maxHeartbeats 400000
namespace Pk
open PySem PyD
variable {sub : Subs} {n b r : Nat} {v : D} {μ : Store} {Q : D → Store → Prop}
theorem wp_eq {α : Type} {x : R α} {a : α} {μ : Store} (h : wp x fun d m => d = a ∧ m = μ) : x = .ok a μ := by
  cases x with
  | ok d m => obtain ⟨rfl, rfl⟩ := h; rfl
  | _ => exact h.elim
def noD (p : Pt) (s : Spot) : D := (lookD (seamK p.seams) (seamV p.seams.length) (spK s)).getD .non
theorem e_seams_by {p : Pt} (h : PtOk p) : PyD.run fns gc sub (n + 1) "seams_by_edges" [ptD p] μ = .ok (.ref μ.length) (μ ++ [.dct true (seamK p.seams) (seamV p.seams.length)]) := wp_eq (s_seams_by h ⟨rfl, rfl⟩)
theorem spot_in {p : Pt} {s : Spot} (hs : s ∈ spotsOf p.pieces) : spotIn (spotsOf p.pieces) s.1 (s.2 : Nat) = true := spotIn_iff.mpr ⟨s, hs, rfl, rfl⟩
theorem s_seam_at {p : Pt} (h : PtOk p) (c : Cln μ) {s : Spot} (hs : s ∈ spotsOf p.pieces) : PyD.run fns gc sub (n + 7) "seam_at" [ptD p, spotD s] μ = .ok (noD p s) μ := by
  rw [run_succ (F := ⟨2, 2, b_seam_at⟩) rfl rfl]
  have e1 : PyD.run fns gc sub (n + 6) "check_pattern" [ptD p] μ = _ := s_check_pattern h
  have e2 : PyD.run fns gc sub (n + 6) "check_edge" [ptD p, spotD s] μ = _ := s_check_edge (n := n + 4) h c (spot_nms h s hs).2 (spot_in hs)
  have e3 : PyD.run fns gc sub (n + 6) "seams_by_edges" [ptD p] μ = _ := e_seams_by h
  have e4 := after_dct (t := true) (ks := seamK p.seams) c (cln_seamV p.seams.length)
  simp -dsimp [isiD, binD, cmpD, partOf, biD, bl1, int1, lenD, asDct, asSeq, asLst, ixD, tyD, addD, slcD, b_seam_at, b_seam_at_3, e1, aft, b_seam_at_2, e2, b_seam_at_1, e3, e4, getMD, key_spot, noD]
theorem s_seam_no {p : Pt} (h : PtOk p) (c : Cln μ) {x : Str} (hx : PyData.strOk x = true) {i : Int} (hi : spotIn (spotsOf p.pieces) x i = false) : PyD.run fns gc sub (n + 7) "seam_at" [ptD p, .tup [.str x, .int i]] μ = .exc "NotThere" μ := by
  rw [run_succ (F := ⟨2, 2, b_seam_at⟩) rfl rfl]
  have e1 : PyD.run fns gc sub (n + 6) "check_pattern" [ptD p] μ = _ := s_check_pattern h
  have e2 : PyD.run fns gc sub (n + 6) "check_edge" [ptD p, .tup [.str x, .int i]] μ = _ := s_check_edge_no (n := n + 4) h c hx hi
  simp -dsimp [isiD, binD, cmpD, partOf, biD, bl1, int1, lenD, asDct, asSeq, asLst, ixD, tyD, addD, slcD, b_seam_at, b_seam_at_3, e1, aft, b_seam_at_2, e2]
theorem s_size_no {p : Pt} {size : Int} (hz : ¬ (0 ≤ size ∧ size ≤ p.top)) : PyD.run fns gc sub (n + 2) "check_size" [ptD p, .int size] μ = .exc "NotThere" μ := by
  rw [run_succ (F := ⟨2, 2, b_check_size⟩) rfl rfl]
  have hb : (decide (0 ≤ size) && decide (size ≤ p.top)) = false := by
    rw [Bool.eq_false_iff]
    intro e
    rw [Bool.and_eq_true, decide_eq_true_eq, decide_eq_true_eq] at e
    exact hz e
  simp -dsimp [isiD, binD, cmpD, partOf, biD, bl1, int1, lenD, asDct, asSeq, asLst, ixD, tyD, addD, slcD, b_check_size, b_check_size_1, ptD, s_within, aft, hb]
theorem s_number_no {p : Pt} {k : Int} (hz : ¬ (0 ≤ k ∧ k ≤ (p.seams.length : Int) - 1)) : PyD.run fns gc sub (n + 2) "check_seam" [ptD p, .int k] μ = .exc "NotThere" μ := by
  rw [run_succ (F := ⟨2, 2, b_check_seam⟩) rfl rfl]
  have hb : (decide (0 ≤ k) && decide (k ≤ (p.seams.length : Int) - 1)) = false := by
    rw [Bool.eq_false_iff]
    intro e
    rw [Bool.and_eq_true, decide_eq_true_eq, decide_eq_true_eq] at e
    exact hz e
  simp -dsimp [isiD, binD, cmpD, partOf, biD, bl1, int1, lenD, asDct, asSeq, asLst, ixD, tyD, addD, slcD, b_check_seam, b_check_seam_1, ptD, s_within, aft, hb]
theorem s_length {p : Pt} (h : PtOk p) (c : Cln μ) {s : Spot} (hs : s ∈ spotsOf p.pieces) {size : Int} (h0 : 0 ≤ size) (h1 : size ≤ p.top) : PyD.run fns gc sub (n + 7) "length_of" [ptD p, spotD s, .int size] μ = .ok (.int (longZ p.pieces s size)) μ := by
  rw [run_succ (F := ⟨3, 3, b_length_of⟩) rfl rfl]
  have e1 : PyD.run fns gc sub (n + 6) "check_pattern" [ptD p] μ = _ := s_check_pattern h
  have e2 : PyD.run fns gc sub (n + 6) "check_edge" [ptD p, spotD s] μ = _ := s_check_edge (n := n + 4) h c (spot_nms h s hs).2 (spot_in hs)
  have e3 : PyD.run fns gc sub (n + 6) "check_size" [ptD p, .int size] μ = _ := s_check_size (n := n + 4) h0 h1
  have e4 : PyD.run fns gc sub (n + 6) "long_in" [ptD p, spotD s, .int size] μ = _ := s_long_in (n := n + 5) h hs size
  simp -dsimp [isiD, binD, cmpD, partOf, biD, bl1, int1, lenD, asDct, asSeq, asLst, ixD, tyD, addD, slcD, b_length_of, b_length_of_4, e1, aft, b_length_of_3, e2, b_length_of_2, e3, b_length_of_1, e4]
theorem s_length_no {p : Pt} (h : PtOk p) (c : Cln μ) {x : Str} (hx : PyData.strOk x = true) {i size : Int} (hi : spotIn (spotsOf p.pieces) x i = false ∨ ¬ (0 ≤ size ∧ size ≤ p.top)) : PyD.run fns gc sub (n + 7) "length_of" [ptD p, .tup [.str x, .int i], .int size] μ = .exc "NotThere" μ := by
  rw [run_succ (F := ⟨3, 3, b_length_of⟩) rfl rfl]
  have e1 : PyD.run fns gc sub (n + 6) "check_pattern" [ptD p] μ = _ := s_check_pattern h
  cases q : spotIn (spotsOf p.pieces) x i with
  | false =>
    have e2 : PyD.run fns gc sub (n + 6) "check_edge" [ptD p, .tup [.str x, .int i]] μ = _ := s_check_edge_no (n := n + 4) h c hx q
    simp -dsimp [isiD, binD, cmpD, partOf, biD, bl1, int1, lenD, asDct, asSeq, asLst, ixD, tyD, addD, slcD, b_length_of, b_length_of_4, e1, aft, b_length_of_3, e2]
  | true =>
    have e2 : PyD.run fns gc sub (n + 6) "check_edge" [ptD p, .tup [.str x, .int i]] μ = _ := s_check_edge (n := n + 4) h c hx q
    have e3 : PyD.run fns gc sub (n + 6) "check_size" [ptD p, .int size] μ = _ := s_size_no (n := n + 4) (hi.resolve_left (by rw [q]; simp))
    simp -dsimp [isiD, binD, cmpD, partOf, biD, bl1, int1, lenD, asDct, asSeq, asLst, ixD, tyD, addD, slcD, b_length_of, b_length_of_4, e1, aft, b_length_of_3, e2, b_length_of_2, e3]
theorem s_fits_no {p : Pt} (h : PtOk p) {k size : Int} (hz : ¬ (0 ≤ k ∧ k ≤ (p.seams.length : Int) - 1) ∨ (∃ j : Nat, k = j ∧ j < p.seams.length) ∧ ¬ (0 ≤ size ∧ size ≤ p.top)) : PyD.run fns gc sub (n + 7) "fits" [ptD p, .int k, .int size] μ = .exc "NotThere" μ := by
  rw [run_succ (F := ⟨3, 3, b_fits⟩) rfl rfl]
  have e1 : PyD.run fns gc sub (n + 6) "check_pattern" [ptD p] μ = _ := s_check_pattern h
  rcases hz with hz | ⟨⟨j, rfl, hj⟩, hz⟩
  · have e2 : PyD.run fns gc sub (n + 6) "check_seam" [ptD p, .int k] μ = _ := s_number_no (n := n + 4) hz
    simp -dsimp [isiD, binD, cmpD, partOf, biD, bl1, int1, lenD, asDct, asSeq, asLst, ixD, tyD, addD, slcD, b_fits, b_fits_4, e1, aft, b_fits_3, e2]
  · have e2 : PyD.run fns gc sub (n + 6) "check_seam" [ptD p, .int j] μ = _ := s_check_seam (n := n + 4) hj
    have e3 : PyD.run fns gc sub (n + 6) "check_size" [ptD p, .int size] μ = _ := s_size_no (n := n + 4) hz
    simp -dsimp [isiD, binD, cmpD, partOf, biD, bl1, int1, lenD, asDct, asSeq, asLst, ixD, tyD, addD, slcD, b_fits, b_fits_4, e1, aft, b_fits_3, e2, b_fits_2, e3]
theorem s_fit_sizes_no {p : Pt} (h : PtOk p) {k : Int} (hz : ¬ (0 ≤ k ∧ k ≤ (p.seams.length : Int) - 1)) : PyD.run fns gc sub (n + 7) "fit_sizes" [ptD p, .int k] μ = .exc "NotThere" μ := by
  rw [run_succ (F := ⟨2, 4, b_fit_sizes⟩) rfl rfl]
  have e1 : PyD.run fns gc sub (n + 6) "check_pattern" [ptD p] μ = _ := s_check_pattern h
  have e2 : PyD.run fns gc sub (n + 6) "check_seam" [ptD p, .int k] μ = _ := s_number_no (n := n + 4) hz
  simp -dsimp [isiD, binD, cmpD, partOf, biD, bl1, int1, lenD, asDct, asSeq, asLst, ixD, tyD, addD, slcD, b_fit_sizes, b_fit_sizes_4, e1, aft, b_fit_sizes_3, e2]
/-! ### what is no pattern -/
def Bad (v : D) : Prop := ∀ (sub : Subs) (n : Nat) (μ : Store), PyD.run fns gc sub (n + 5) "is_pattern" [v] μ = .ok (.bl false) μ
theorem s_check_bad (h : Bad v) : PyD.run fns gc sub (n + 6) "check_pattern" [v] μ = .exc "NotRight" μ := by
  rw [run_succ (F := ⟨1, 1, b_check_pattern⟩) rfl rfl]
  have e : PyD.run fns gc sub (n + 5) "is_pattern" [v] μ = _ := h sub n μ
  simp -dsimp [isiD, binD, cmpD, partOf, biD, bl1, int1, lenD, asDct, asSeq, asLst, ixD, tyD, addD, slcD, b_check_pattern, b_check_pattern_1, e, aft]
theorem s_bad1 (h : Bad v) (x y : D) : PyD.run fns gc sub (n + 7) "length_of" [v, x, y] μ = .exc "NotRight" μ := by
  rw [run_succ (F := ⟨3, 3, b_length_of⟩) rfl rfl]
  have e1 : PyD.run fns gc sub (n + 6) "check_pattern" [v] μ = _ := s_check_bad h
  simp -dsimp [isiD, binD, cmpD, partOf, biD, bl1, int1, lenD, asDct, asSeq, asLst, ixD, tyD, addD, slcD, b_length_of, b_length_of_4, e1]
theorem s_bad2 (h : Bad v) (x : D) : PyD.run fns gc sub (n + 7) "seam_at" [v, x] μ = .exc "NotRight" μ := by
  rw [run_succ (F := ⟨2, 2, b_seam_at⟩) rfl rfl]
  have e1 : PyD.run fns gc sub (n + 6) "check_pattern" [v] μ = _ := s_check_bad h
  simp -dsimp [isiD, binD, cmpD, partOf, biD, bl1, int1, lenD, asDct, asSeq, asLst, ixD, tyD, addD, slcD, b_seam_at, b_seam_at_3, e1]
theorem s_bad3 (h : Bad v) (x y : D) : PyD.run fns gc sub (n + 7) "fits" [v, x, y] μ = .exc "NotRight" μ := by
  rw [run_succ (F := ⟨3, 3, b_fits⟩) rfl rfl]
  have e1 : PyD.run fns gc sub (n + 6) "check_pattern" [v] μ = _ := s_check_bad h
  simp -dsimp [isiD, binD, cmpD, partOf, biD, bl1, int1, lenD, asDct, asSeq, asLst, ixD, tyD, addD, slcD, b_fits, b_fits_4, e1]
theorem s_bad4 (h : Bad v) (x : D) : PyD.run fns gc sub (n + 7) "fit_sizes" [v, x] μ = .exc "NotRight" μ := by
  rw [run_succ (F := ⟨2, 4, b_fit_sizes⟩) rfl rfl]
  have e1 : PyD.run fns gc sub (n + 6) "check_pattern" [v] μ = _ := s_check_bad h
  simp -dsimp [isiD, binD, cmpD, partOf, biD, bl1, int1, lenD, asDct, asSeq, asLst, ixD, tyD, addD, slcD, b_fit_sizes, b_fit_sizes_4, e1]
theorem s_bad5 (h : Bad v) : PyD.run fns gc sub (n + 7) "misfits" [v] μ = .exc "NotRight" μ := by
  rw [run_succ (F := ⟨1, 5, b_misfits⟩) rfl rfl]
  have e1 : PyD.run fns gc sub (n + 6) "check_pattern" [v] μ = _ := s_check_bad h
  simp -dsimp [isiD, binD, cmpD, partOf, biD, bl1, int1, lenD, asDct, asSeq, asLst, ixD, tyD, addD, slcD, b_misfits, b_misfits_6, e1]
end Pk

set_option Elab.async false
set_option linter.all false
set_option maxRecDepth 100000
set_option maxHeartbeats 400000
namespace Pk
open PySem PyD
variable {sub : Subs} {n b r : Nat} {v : D} {μ : Store} {Q : D → Store → Prop}
/-- which class is below which -/
def subK : Subs := fun x c => if x = "NotRight" then ([("SeamError", true), ("NotRight", true), ("NotThere", false), ("NoAnswer", false), ("TooLarge", false), ("Malformed", false)] : List (Str × Bool)).lookup c else if x = "NotThere" then ([("SeamError", true), ("NotRight", false), ("NotThere", true), ("NoAnswer", false), ("TooLarge", false), ("Malformed", false)] : List (Str × Bool)).lookup c else none
def flR : List Bool := [true, false, false, false, false]
def flT : List Bool := [false, true, false, false, false]
theorem sub_r : subK "NotRight" "SeamError" = some true := by decide +kernel
theorem sub_t : subK "NotThere" "SeamError" = some true := by decide +kernel
theorem sub_fr : flagsOf subK "NotRight" ["NotRight", "NotThere", "NoAnswer", "TooLarge", "Malformed"] = some flR := by decide +kernel
theorem sub_ft : flagsOf subK "NotThere" ["NotRight", "NotThere", "NoAnswer", "TooLarge", "Malformed"] = some flT := by decide +kernel
def flD (l : List Bool) : D := .lst (l.map .bl)
theorem s_told0 {p : Pt} (h : PtOk p) (c : Cln μ) {s : Spot} (hs : s ∈ spotsOf p.pieces) {size : Int} (h0 : 0 ≤ size) (h1 : size ≤ p.top) : PyD.run fns gc subK (n + 8) "_law_told" [.int 0, ptD p, spotD s, .int size] μ = .ok (.int (longZ p.pieces s size)) μ := by
  rw [run_succ (F := ⟨4, 5, b_law_told⟩) rfl rfl]
  have e : PyD.run fns gc subK (n + 7) "length_of" [ptD p, spotD s, .int size] μ = _ := s_length h c hs h0 h1
  simp -dsimp [isiD, binD, cmpD, partOf, biD, bl1, int1, lenD, asDct, asSeq, asLst, ixD, tyD, addD, slcD, b_law_told, b_law_told_6, b_law_told_5, eqD, e, aft]
theorem s_told1 {p : Pt} (h : PtOk p) (c : Cln μ) {s : Spot} (hs : s ∈ spotsOf p.pieces) (size : Int) : PyD.run fns gc subK (n + 8) "_law_told" [.int 1, ptD p, spotD s, .int size] μ = .ok (noD p s) μ := by
  rw [run_succ (F := ⟨4, 5, b_law_told⟩) rfl rfl]
  have e : PyD.run fns gc subK (n + 7) "seam_at" [ptD p, spotD s] μ = _ := s_seam_at h c hs
  simp -dsimp [isiD, binD, cmpD, partOf, biD, bl1, int1, lenD, asDct, asSeq, asLst, ixD, tyD, addD, slcD, b_law_told, b_law_told_6, b_law_told_5, b_law_told_4, eqD, e, aft]
theorem s_told0_no {p : Pt} (h : PtOk p) (c : Cln μ) {x : Str} (hx : PyData.strOk x = true) {i size : Int} (hi : spotIn (spotsOf p.pieces) x i = false ∨ ¬ (0 ≤ size ∧ size ≤ p.top)) : PyD.run fns gc subK (n + 8) "_law_told" [.int 0, ptD p, .tup [.str x, .int i], .int size] μ = .ok (flD flT) μ := by
  rw [run_succ (F := ⟨4, 5, b_law_told⟩) rfl rfl]
  have e : PyD.run fns gc subK (n + 7) "length_of" [ptD p, .tup [.str x, .int i], .int size] μ = _ := s_length_no h c hx hi
  simp -dsimp [isiD, binD, cmpD, partOf, biD, bl1, int1, lenD, asDct, asSeq, asLst, ixD, tyD, addD, slcD, b_law_told, b_law_told_6, b_law_told_5, eqD, e, sub_t, sub_ft, flD]
theorem s_told1_no {p : Pt} (h : PtOk p) (c : Cln μ) {x : Str} (hx : PyData.strOk x = true) {i : Int} (size : Int) (hi : spotIn (spotsOf p.pieces) x i = false) : PyD.run fns gc subK (n + 8) "_law_told" [.int 1, ptD p, .tup [.str x, .int i], .int size] μ = .ok (flD flT) μ := by
  rw [run_succ (F := ⟨4, 5, b_law_told⟩) rfl rfl]
  have e : PyD.run fns gc subK (n + 7) "seam_at" [ptD p, .tup [.str x, .int i]] μ = _ := s_seam_no h c hx hi
  simp -dsimp [isiD, binD, cmpD, partOf, biD, bl1, int1, lenD, asDct, asSeq, asLst, ixD, tyD, addD, slcD, b_law_told, b_law_told_6, b_law_told_5, b_law_told_4, eqD, e, sub_t, sub_ft, flD]
theorem s_told2_no {p : Pt} (h : PtOk p) {k size : Int} (hz : ¬ (0 ≤ k ∧ k ≤ (p.seams.length : Int) - 1) ∨ (∃ j : Nat, k = j ∧ j < p.seams.length) ∧ ¬ (0 ≤ size ∧ size ≤ p.top)) : PyD.run fns gc subK (n + 8) "_law_told" [.int 2, ptD p, .int k, .int size] μ = .ok (flD flT) μ := by
  rw [run_succ (F := ⟨4, 5, b_law_told⟩) rfl rfl]
  have e : PyD.run fns gc subK (n + 7) "fits" [ptD p, .int k, .int size] μ = _ := s_fits_no h hz
  simp -dsimp [isiD, binD, cmpD, partOf, biD, bl1, int1, lenD, asDct, asSeq, asLst, ixD, tyD, addD, slcD, b_law_told, b_law_told_6, b_law_told_5, b_law_told_4, b_law_told_3, eqD, e, sub_t, sub_ft, flD]
theorem s_told3_no {p : Pt} (h : PtOk p) {k : Int} (size : Int) (hz : ¬ (0 ≤ k ∧ k ≤ (p.seams.length : Int) - 1)) : PyD.run fns gc subK (n + 8) "_law_told" [.int 3, ptD p, .int k, .int size] μ = .ok (flD flT) μ := by
  rw [run_succ (F := ⟨4, 5, b_law_told⟩) rfl rfl]
  have e : PyD.run fns gc subK (n + 7) "fit_sizes" [ptD p, .int k] μ = _ := s_fit_sizes_no h hz
  simp -dsimp [isiD, binD, cmpD, partOf, biD, bl1, int1, lenD, asDct, asSeq, asLst, ixD, tyD, addD, slcD, b_law_told, b_law_told_6, b_law_told_5, b_law_told_4, b_law_told_3, b_law_told_2, eqD, e, sub_t, sub_ft, flD]
theorem s_told_bad (h : Bad v) {k : Nat} (hk : k < 5) (x y : D) : PyD.run fns gc subK (n + 8) "_law_told" [.int k, v, x, y] μ = .ok (flD flR) μ := by
  rw [run_succ (F := ⟨4, 5, b_law_told⟩) rfl rfl]
  obtain rfl | rfl | rfl | rfl | rfl : k = 0 ∨ k = 1 ∨ k = 2 ∨ k = 3 ∨ k = 4 := by omega
  · have e : PyD.run fns gc subK (n + 7) "length_of" [v, x, y] μ = _ := s_bad1 h x y
    simp -dsimp [isiD, binD, cmpD, partOf, biD, bl1, int1, lenD, asDct, asSeq, asLst, ixD, tyD, addD, slcD, b_law_told, b_law_told_6, b_law_told_5, eqD, e, sub_r, sub_fr, flD]
  · have e : PyD.run fns gc subK (n + 7) "seam_at" [v, x] μ = _ := s_bad2 h x
    simp -dsimp [isiD, binD, cmpD, partOf, biD, bl1, int1, lenD, asDct, asSeq, asLst, ixD, tyD, addD, slcD, b_law_told, b_law_told_6, b_law_told_5, b_law_told_4, eqD, e, sub_r, sub_fr, flD]
  · have e : PyD.run fns gc subK (n + 7) "fits" [v, x, y] μ = _ := s_bad3 h x y
    simp -dsimp [isiD, binD, cmpD, partOf, biD, bl1, int1, lenD, asDct, asSeq, asLst, ixD, tyD, addD, slcD, b_law_told, b_law_told_6, b_law_told_5, b_law_told_4, b_law_told_3, eqD, e, sub_r, sub_fr, flD]
  · have e : PyD.run fns gc subK (n + 7) "fit_sizes" [v, x] μ = _ := s_bad4 h x
    simp -dsimp [isiD, binD, cmpD, partOf, biD, bl1, int1, lenD, asDct, asSeq, asLst, ixD, tyD, addD, slcD, b_law_told, b_law_told_6, b_law_told_5, b_law_told_4, b_law_told_3, b_law_told_2, eqD, e, sub_r, sub_fr, flD]
  · have e : PyD.run fns gc subK (n + 7) "misfits" [v] μ = _ := s_bad5 h
    simp -dsimp [isiD, binD, cmpD, partOf, biD, bl1, int1, lenD, asDct, asSeq, asLst, ixD, tyD, addD, slcD, b_law_told, b_law_told_6, b_law_told_5, b_law_told_4, b_law_told_3, b_law_told_2, b_law_told_1, eqD, e, sub_r, sub_fr, flD]
end Pk

set_option Elab.async false
set_option linter.all false
set_option maxRecDepth 100000
set_option maxHeartbeats 400000
namespace Pk
open PySem PyD
variable {sub : Subs} {n b r : Nat} {v : D} {μ : Store} {Q : D → Store → Prop}
theorem loopL_mapF0 {α : Type} {turn : D → Acc → Store → R Acc} {g f : α → D} {μ : Store} {b : Nat} : ∀ (l : List α) (acc : List D), (∀ x ∈ l, ∀ a : List D, a.length < b → turn (g x) ([], a) μ = .ok ([], a ++ [f x]) μ) → acc.length + l.length ≤ b → loopL turn (l.map g) (([], acc) : Acc) μ = .ok ([], acc ++ l.map f) μ
  | [], acc, _, _ => by simp [loopL]
  | x :: l, acc, h, hb => by
    rw [List.length_cons] at hb
    rw [List.map_cons]
    unfold loopL
    rw [h x (by simp) acc (by omega)]
    show loopL turn (l.map g) (([], acc ++ [f x]) : Acc) μ = _
    rw [loopL_mapF0 l (acc ++ [f x]) (fun y hy => h y (by simp [hy])) (by rw [List.length_append, List.length_singleton]; omega)]
    simp
theorem loopL_mapF {α : Type} {turn : D → Acc → Store → R Acc} {g : α → D} (f : α → D) {μ : Store} (b : Nat) (l : List α) (h : ∀ x ∈ l, ∀ a : List D, a.length < b → turn (g x) ([], a) μ = .ok ([], a ++ [f x]) μ) (hb : l.length ≤ b) : loopLt turn (l.map g) (([], []) : Acc) μ = .ok ([], l.map f) μ := by
  have := loopL_mapF0 (turn := turn) (g := g) (f := f) (μ := μ) l [] h (by simpa using hb)
  rw [List.nil_append] at this
  exact this
theorem bls_mapB {α : Type} (f : α → Bool) (l : List α) : ∃ bs : List Bool, blsOf (l.map fun x => D.bl (f x)) = some bs ∧ bs.all id = l.all f := by
  refine ⟨l.map f, ?_, by simp⟩
  induction l with
  | nil => rfl
  | cons x l ih => rw [List.map_cons, blsOf, ih]; rfl
def edgeB (e : Edge) : Bool := (decide (1 ≤ e.1) && decide (e.1 ≤ 10000)) && ((decide (-50 ≤ e.2.1) && decide (e.2.1 ≤ 50)) && (decide (1 ≤ e.2.2) && decide (e.2.2 ≤ 359)))
theorem e_is_edge (e : Edge) : PyD.run fns gc sub (n + 2) "is_edge" [edgeD e] μ = .ok (.bl (edgeB e)) μ := by
  rw [run_succ (F := ⟨1, 4, b_is_edge⟩) rfl rfl]
  have h1 := s_within (sub := sub) (n := n) (μ := μ) e.1 1 10000
  have h2 := s_within (sub := sub) (n := n) (μ := μ) e.2.1 (-50) 50
  have h3 := s_within (sub := sub) (n := n) (μ := μ) e.2.2 1 359
  unfold edgeB
  generalize (decide (1 ≤ e.1) && decide (e.1 ≤ 10000)) = a at h1 ⊢
  generalize (decide (-50 ≤ e.2.1) && decide (e.2.1 ≤ 50)) = c at h2 ⊢
  generalize (decide (1 ≤ e.2.2) && decide (e.2.2 ≤ 359)) = d at h3 ⊢
  cases a <;> cases c <;> cases d <;> simp -dsimp [isiD, binD, cmpD, partOf, biD, bl1, int1, lenD, asDct, asSeq, asLst, ixD, tyD, addD, slcD, b_is_edge, b_is_edge_3, edgeD, eqD, asg, asgL, asSeq, b_is_edge_2, b_is_edge_1, h1, h2, h3, aft]
/-- a piece by its edges -/
def pieceB (p : Pc) : Bool := decide (3 ≤ p.edges.length) && (p.edges.all edgeB && decide ((p.edges.map (·.2.2)).sum = ((p.edges.length : Int) - 2) * 180))
theorem e_is_piece {p : Pc} (hn : nameB p.name = true ∧ nmP p.name) (h12 : p.edges.length ≤ 12) : PyD.run fns gc sub (n + 3) "is_piece" [pcD p] μ = .ok (.bl (pieceB p)) μ := by
  rw [run_succ (F := ⟨1, 5, b_is_piece⟩) rfl rfl]
  have hl : p.name.length ≤ 1000 := by have := hn.2.1; omega
  have hnm : PyD.run fns gc sub (n + 2) "is_name" [.str p.name] μ = .ok (.bl true) μ := by rw [s_is_name (n := n + 1) p.name hl, hn.1]
  have h12' : (p.edges.length : Int) ≤ 12 := by omega
  unfold pieceB
  by_cases h3 : 3 ≤ p.edges.length
  · have h3' : (3 : Int) ≤ p.edges.length := by omega
    rw [decide_eq_true h3, Bool.true_and]
    simp -dsimp [isiD, binD, cmpD, partOf, biD, bl1, int1, lenD, asDct, asSeq, asLst, ixD, tyD, addD, slcD, b_is_piece, b_is_piece_5, pcD, eqD, hnm, aft, b_is_piece_4, b_is_piece_3, g_fe, g_me, h3', h12', b_is_piece_2]
    rw [loopL_mapF (fun e => .bl (edgeB e)) 12 p.edges (fun e he a ha => by
      have hal : a.length < sizeLine := sl_lt (by omega)
      have h1 : PyD.run fns gc sub (n + 2) "is_edge" [edgeD e] μ = _ := e_is_edge e
      simp -dsimp [isiD, binD, cmpD, partOf, biD, bl1, int1, lenD, asDct, asSeq, asLst, ixD, tyD, addD, slcD, asg, wipeD, Tg.slots, PX.gslots, h1, aft, hal]) h12]
    obtain ⟨bs, e1, e2⟩ := bls_mapB edgeB p.edges
    cases q : p.edges.all edgeB with
    | false =>
      rw [q] at e2
      simp -dsimp [isiD, binD, cmpD, partOf, biD, bl1, int1, lenD, asDct, asSeq, asLst, ixD, tyD, addD, slcD, bl1, asLst, e1, e2, -List.all_eq_true, -List.all_eq_false, b_is_piece_1]
    | true =>
      rw [q] at e2
      simp -dsimp [isiD, binD, cmpD, partOf, biD, bl1, int1, lenD, asDct, asSeq, asLst, ixD, tyD, addD, slcD, bl1, asLst, e1, e2, -List.all_eq_true, -List.all_eq_false, b_is_piece_1]
      rw [loopL_mapF (fun e => .int e.2.2) 12 p.edges (fun e he a ha => by
        have hal : a.length < sizeLine := sl_lt (by omega)
        simp -dsimp [isiD, binD, cmpD, partOf, biD, bl1, int1, lenD, asDct, asSeq, asLst, ixD, tyD, addD, slcD, edgeD, asg, asgL, asSeq, wipeD, Tg.slots, PX.gslots, hal]) h12]
      have si := intsOf_map (p.edges.map (·.2.2))
      rw [List.map_map] at si
      have si : intsOf (p.edges.map fun e => D.int e.2.2) = some (p.edges.map (·.2.2)) := si
      have smm : Sm ((p.edges.length : Int) - 2) 180 := .inr (by omega)
      simp -dsimp [isiD, binD, cmpD, partOf, biD, bl1, int1, lenD, asDct, asSeq, asLst, ixD, tyD, addD, slcD, int1, asLst, si, g_half, mul_sm smm, eqD]
  · have h3' : ¬ ((3 : Int) ≤ p.edges.length) := by omega
    rw [decide_eq_false h3, Bool.false_and]
    simp -dsimp [isiD, binD, cmpD, partOf, biD, bl1, int1, lenD, asDct, asSeq, asLst, ixD, tyD, addD, slcD, b_is_piece, b_is_piece_5, pcD, eqD, hnm, aft, b_is_piece_4, b_is_piece_3, g_fe, g_me, h3']
end Pk

set_option Elab.async false
set_option linter.all false
set_option maxRecDepth 100000
set_option maxHeartbeats 400000
namespace Pk
open PySem PyD
variable {sub : Subs} {n b r : Nat} {v : D} {μ : Store} {Q : D → Store → Prop}
theorem bad_non : Bad .non := fun sub n μ => by
  rw [run_succ (F := ⟨1, 11, b_is_pattern⟩) rfl rfl]
  simp -dsimp [isiD, binD, cmpD, partOf, biD, bl1, int1, lenD, asDct, asSeq, asLst, ixD, tyD, addD, slcD, b_is_pattern, b_is_pattern_6]
theorem bad_lst (ds : List D) : Bad (.lst ds) := fun sub n μ => by
  rw [run_succ (F := ⟨1, 11, b_is_pattern⟩) rfl rfl]
  simp -dsimp [isiD, binD, cmpD, partOf, biD, bl1, int1, lenD, asDct, asSeq, asLst, ixD, tyD, addD, slcD, b_is_pattern, b_is_pattern_6]
theorem bad_empty (x y : D) : Bad (.tup [.tup [], x, y]) := fun sub n μ => by
  rw [run_succ (F := ⟨1, 11, b_is_pattern⟩) rfl rfl]
  simp -dsimp [isiD, binD, cmpD, partOf, biD, bl1, int1, lenD, asDct, asSeq, asLst, ixD, tyD, addD, slcD, b_is_pattern, b_is_pattern_6, eqD, asg, asgL, asSeq, b_is_pattern_5, b_is_pattern_4]
structure PsOk (ps : List Pc) : Prop where
  n1 : 1 ≤ ps.length
  n40 : ps.length ≤ 40
  nm : ∀ q ∈ ps, nameB q.name = true ∧ nmP q.name
  l12 : ∀ q ∈ ps, q.edges.length ≤ 12
theorem bad_pieces {ps : List Pc} (h : PsOk ps) (hb : ps.all pieceB = false) (x y : D) : Bad (.tup [.tup (ps.map pcD), x, y]) := fun sub n μ => by
  rw [run_succ (F := ⟨1, 11, b_is_pattern⟩) rfl rfl]
  have hn1 : (1 : Int) ≤ ps.length := by have := h.n1; omega
  have hn40 : (ps.length : Int) ≤ 40 := by have := h.n40; omega
  simp -dsimp [isiD, binD, cmpD, partOf, biD, bl1, int1, lenD, asDct, asSeq, asLst, ixD, tyD, addD, slcD, b_is_pattern, b_is_pattern_6, eqD, asg, asgL, asSeq, b_is_pattern_5, b_is_pattern_4, g_mp, hn1, hn40]
  rw [loopL_mapF (fun q => .bl (pieceB q)) 40 ps (fun q hq a ha => by
    have hal : a.length < sizeLine := sl_lt (by omega)
    have h1 : PyD.run fns gc sub (n + 4) "is_piece" [pcD q] μ = _ := e_is_piece (n := n + 1) (h.nm q hq) (h.l12 q hq)
    simp -dsimp [isiD, binD, cmpD, partOf, biD, bl1, int1, lenD, asDct, asSeq, asLst, ixD, tyD, addD, slcD, asg, wipeD, Tg.slots, PX.gslots, h1, aft, hal]) h.n40]
  obtain ⟨bs, e1, e2⟩ := bls_mapB pieceB ps
  rw [hb] at e2
  simp -dsimp [isiD, binD, cmpD, partOf, biD, bl1, int1, lenD, asDct, asSeq, asLst, ixD, tyD, addD, slcD, bl1, asLst, e1, e2, -List.all_eq_true, -List.all_eq_false]
theorem bad_order {ps : List Pc} (h : PsOk ps) (hb : ps.all pieceB = true) (x : D) {top : Int} (hz : ascB ((ps.map (·.name)).map D.str) = false ∨ ¬ (0 ≤ top ∧ top ≤ 60)) : Bad (.tup [.tup (ps.map pcD), x, .int top]) := fun sub n μ => by
  rw [run_succ (F := ⟨1, 11, b_is_pattern⟩) rfl rfl]
  have hn1 : (1 : Int) ≤ ps.length := by have := h.n1; omega
  have hn40 : (ps.length : Int) ≤ 40 := by have := h.n40; omega
  simp -dsimp [isiD, binD, cmpD, partOf, biD, bl1, int1, lenD, asDct, asSeq, asLst, ixD, tyD, addD, slcD, b_is_pattern, b_is_pattern_6, eqD, asg, asgL, asSeq, b_is_pattern_5, b_is_pattern_4, g_mp, hn1, hn40]
  rw [loopL_mapF (fun q => .bl (pieceB q)) 40 ps (fun q hq a ha => by
    have hal : a.length < sizeLine := sl_lt (by omega)
    have h1 : PyD.run fns gc sub (n + 4) "is_piece" [pcD q] μ = _ := e_is_piece (n := n + 1) (h.nm q hq) (h.l12 q hq)
    simp -dsimp [isiD, binD, cmpD, partOf, biD, bl1, int1, lenD, asDct, asSeq, asLst, ixD, tyD, addD, slcD, asg, wipeD, Tg.slots, PX.gslots, h1, aft, hal]) h.n40]
  obtain ⟨bs, e1, e2⟩ := bls_mapB pieceB ps
  rw [hb] at e2
  simp -dsimp [isiD, binD, cmpD, partOf, biD, bl1, int1, lenD, asDct, asSeq, asLst, ixD, tyD, addD, slcD, bl1, asLst, e1, e2, -List.all_eq_true, -List.all_eq_false, b_is_pattern_3]
  rw [loopL_mapF (fun q => .str q.name) 40 ps (fun q hq a ha => by
    have hal : a.length < sizeLine := sl_lt (by omega)
    simp -dsimp [isiD, binD, cmpD, partOf, biD, bl1, int1, lenD, asDct, asSeq, asLst, ixD, tyD, addD, slcD, pcD, asg, asgL, asSeq, wipeD, Tg.slots, PX.gslots, hal]) h.n40]
  have en : (ps.map fun q => D.str q.name) = (ps.map (·.name)).map D.str := by rw [List.map_map]; rfl
  have e3 : PyD.run fns gc sub (n + 4) "are_ascending" [.lst ((ps.map (·.name)).map D.str)] μ = .ok (.bl (ascB ((ps.map (·.name)).map D.str))) μ :=
    s_ascending_lst (n := n + 3) (by have := h.n40; simp; omega) fun x hx y hy => by
      obtain ⟨s, hs, rfl⟩ := List.mem_map.mp hx
      obtain ⟨t, ht, rfl⟩ := List.mem_map.mp hy
      exact lt_strs s t
  rw [en]
  cases q : ascB ((ps.map (·.name)).map D.str) with
  | false =>
    rw [q] at e3
    simp -dsimp [isiD, binD, cmpD, partOf, biD, bl1, int1, lenD, asDct, asSeq, asLst, ixD, tyD, addD, slcD, e3, aft, -List.map_map]
  | true =>
    rw [q] at e3
    have ht := hz.resolve_left (by rw [q]; simp)
    have hb2 : (decide (0 ≤ top) && decide (top ≤ 60)) = false := by
      rw [Bool.eq_false_iff]
      intro e
      rw [Bool.and_eq_true, decide_eq_true_eq, decide_eq_true_eq] at e
      exact ht e
    simp -dsimp [isiD, binD, cmpD, partOf, biD, bl1, int1, lenD, asDct, asSeq, asLst, ixD, tyD, addD, slcD, e3, aft, g_top, s_within, hb2, -List.map_map]
theorem PtOk.ps {p : Pt} (h : PtOk p) : PsOk p.pieces := ⟨h.n1, h.n40, h.nm, fun q hq => (h.pc q hq).lm⟩
theorem PcGen.isB {most : Nat} {top : Int} {q : Pc} (h : PcGen most top q) : pieceB q = true := by
  unfold pieceB
  have h2 : q.edges.all edgeB = true := List.all_eq_true.mpr fun e he => by
    have ok := h.ok e he
    simp [edgeB, ok.b1, ok.b2, ok.s1, ok.s2, ok.a1, ok.a2]
  rw [decide_eq_true h.l3, h2, h.sum]
  simp
theorem PtOk.all {p : Pt} (h : PtOk p) : p.pieces.all pieceB = true := List.all_eq_true.mpr fun q hq => (h.pc q hq).isB
end Pk

set_option Elab.async false
set_option linter.all false
set_option maxRecDepth 100000
set_option maxHeartbeats 400000
namespace Pk
open PySem PyD
variable {sub : Subs} {n b r : Nat} {v : D} {μ : Store} {Q : D → Store → Prop}
def zzS : Seam := ⟨("zz", 0), ("zz", 1), "even", 0⟩
def zB (s : Seam) : Bool := decide (s.one.1 ≠ ("zz" : Str))
def NoZ (ps : List Pc) : Prop := ∀ q ∈ ps, q.name ≠ "zz"
theorem noz_look {ps : List Pc} (h : NoZ ps) : lookD (cntK ps) (cntV ps) (.k (.inr "zz")) = none :=
  look_none fun hm => by
    obtain ⟨q, hq, e⟩ := List.mem_map.mp hm
    simp only [DK.k.injEq, Sum.inr.injEq] at e
    exact h q hq e
theorem spot_zz {ps : List Pc} (h : NoZ ps) (i : Int) : PyD.run fns gc sub (n + 2) "is_spot" [.dct false (cntK ps) (cntV ps), .tup [.str "zz", .int i]] μ = .ok (.bl false) μ := by
  rw [run_succ (F := ⟨2, 2, b_is_spot⟩) rfl rfl]
  simp -dsimp [isiD, binD, cmpD, partOf, biD, bl1, int1, lenD, asDct, asSeq, asLst, ixD, tyD, addD, slcD, b_is_spot, b_is_spot_2, eqD, inD, D.key, noz_look h]
theorem seam_zz {ps : List Pc} (h : NoZ ps) : PyD.run fns gc sub (n + 3) "is_seam" [.dct false (cntK ps) (cntV ps), smD zzS] μ = .ok (.bl false) μ := by
  rw [run_succ (F := ⟨2, 6, b_is_seam⟩) rfl rfl]
  have e1 : PyD.run fns gc sub (n + 2) "is_spot" [.dct false (cntK ps) (cntV ps), .tup [.str "zz", .int 0]] μ = _ := spot_zz h 0
  simp -dsimp [isiD, binD, cmpD, partOf, biD, bl1, int1, lenD, asDct, asSeq, asLst, ixD, tyD, addD, slcD, b_is_seam, b_is_seam_4, smD, spotD, zzS, eqD, asg, asgL, asSeq, b_is_seam_3, b_is_seam_2, e1, aft]
theorem seams_zz {p : Pt} (h : PtOk p) (hz : NoZ p.pieces) : PyD.run fns gc sub (n + 4) "are_seams" [.dct false (cntK p.pieces) (cntV p.pieces), .tup ((p.seams ++ [zzS]).map smD)] μ = .ok (.bl false) μ := by
  rw [run_succ (F := ⟨2, 5, b_are_seams⟩) rfl rfl]
  have hfew := h.few
  have hnm : ∀ q ∈ p.pieces, nmP q.name := fun q hq => (h.nm q hq).2
  have e0 : ∀ s ∈ p.seams ++ [zzS], PyD.run fns gc sub (n + 3) "is_seam" [.dct false (cntK p.pieces) (cntV p.pieces), smD s] μ = .ok (.bl (zB s)) μ := fun s hs => by
    rcases List.mem_append.mp hs with hs | hs
    · have ok := h.sm.ok s hs
      obtain ⟨q, hq, e, _⟩ := mem_spots ok.m1
      rw [show zB s = true from decide_eq_true (show s.one.1 ≠ "zz" by rw [← e]; exact hz q hq)]
      exact s_is_seam (asc_nd h.asc) hnm ok
    · rw [List.mem_singleton.mp hs, show zB zzS = false from rfl]
      exact seam_zz hz
  simp -dsimp [isiD, binD, cmpD, partOf, biD, bl1, int1, lenD, asDct, asSeq, asLst, ixD, tyD, addD, slcD, b_are_seams, b_are_seams_3, -List.map_append]
  rw [loopL_mapF (fun s => .bl (zB s)) 40 (p.seams ++ [zzS]) (fun s hs a ha => by
    have hal : a.length < sizeLine := sl_lt (by omega)
    simp -dsimp [isiD, binD, cmpD, partOf, biD, bl1, int1, lenD, asDct, asSeq, asLst, ixD, tyD, addD, slcD, asg, wipeD, Tg.slots, PX.gslots, e0 s hs, aft, hal]) (by simp; omega)]
  obtain ⟨bs, e1, e2⟩ := bls_mapB zB (p.seams ++ [zzS])
  have e3 : (p.seams ++ [zzS]).all zB = false := by
    rw [List.all_eq_false]
    exact ⟨zzS, by simp, by decide +kernel⟩
  rw [e3] at e2
  generalize (p.seams ++ [zzS]).map (fun s : Seam => D.bl (zB s)) = L at e1 ⊢
  simp -dsimp [isiD, binD, cmpD, partOf, biD, bl1, int1, lenD, asDct, asSeq, asLst, ixD, tyD, addD, slcD, bl1, asLst, e1, e2, -List.all_eq_true, -List.all_eq_false, -List.map_append]
theorem bad_zz {p : Pt} (h : PtOk p) (hz : NoZ p.pieces) : Bad (.tup [.tup (p.pieces.map pcD), .tup ((p.seams ++ [zzS]).map smD), .int p.top]) := fun sub n μ => by
  rw [run_succ (F := ⟨1, 11, b_is_pattern⟩) rfl rfl]
  have hnd := asc_nd h.asc
  have hn1 : (1 : Int) ≤ p.pieces.length := by have := h.n1; omega
  have hn40 : (p.pieces.length : Int) ≤ 40 := by have := h.n40; omega
  simp -dsimp [isiD, binD, cmpD, partOf, biD, bl1, int1, lenD, asDct, asSeq, asLst, ixD, tyD, addD, slcD, b_is_pattern, b_is_pattern_6, eqD, asg, asgL, asSeq, b_is_pattern_5, b_is_pattern_4, g_mp, hn1, hn40, -List.map_append]
  rw [loopL_mapF (fun q => .bl (pieceB q)) 40 p.pieces (fun q hq a ha => by
    have hal : a.length < sizeLine := sl_lt (by omega)
    have h1 : PyD.run fns gc sub (n + 4) "is_piece" [pcD q] μ = _ := e_is_piece (n := n + 1) (h.nm q hq) (h.ps.l12 q hq)
    simp -dsimp [isiD, binD, cmpD, partOf, biD, bl1, int1, lenD, asDct, asSeq, asLst, ixD, tyD, addD, slcD, asg, wipeD, Tg.slots, PX.gslots, h1, aft, hal]) h.n40]
  obtain ⟨bs, e1, e2⟩ := bls_mapB pieceB p.pieces
  rw [h.all] at e2
  simp -dsimp [isiD, binD, cmpD, partOf, biD, bl1, int1, lenD, asDct, asSeq, asLst, ixD, tyD, addD, slcD, bl1, asLst, e1, e2, -List.all_eq_true, -List.all_eq_false, b_is_pattern_3, -List.map_append]
  rw [loopL_mapF (fun q => .str q.name) 40 p.pieces (fun q hq a ha => by
    have hal : a.length < sizeLine := sl_lt (by omega)
    simp -dsimp [isiD, binD, cmpD, partOf, biD, bl1, int1, lenD, asDct, asSeq, asLst, ixD, tyD, addD, slcD, pcD, asg, asgL, asSeq, wipeD, Tg.slots, PX.gslots, hal]) h.n40]
  have en : (p.pieces.map fun q => D.str q.name) = (p.pieces.map (·.name)).map D.str := by rw [List.map_map]; rfl
  have e3 : PyD.run fns gc sub (n + 4) "are_ascending" [.lst ((p.pieces.map (·.name)).map D.str)] μ = .ok (.bl true) μ := by
    rw [s_ascending_lst (n := n + 3) (by have := h.n40; simp; omega) fun x hx y hy => ?_, ascB_of (List.pairwise_map.mpr h.asc)]
    obtain ⟨s, hs, rfl⟩ := List.mem_map.mp hx
    obtain ⟨t, ht, rfl⟩ := List.mem_map.mp hy
    exact lt_strs s t
  rw [en]
  simp -dsimp [isiD, binD, cmpD, partOf, biD, bl1, int1, lenD, asDct, asSeq, asLst, ixD, tyD, addD, slcD, e3, aft, g_top, s_within, h.t0, h.t1, -List.map_map, b_is_pattern_2, -List.map_append]
  have ed : ∀ (t : D → Acc → Store → R Acc), (∀ q ∈ p.pieces, ∀ (ks : List DK) (vs : List D), ks.length < 100 → t (pcD q) (ks, vs) μ = .ok (putD ks vs (.k (.inr q.name)) (.int (q.edges.length : Int))) μ) →
      loopLt t (p.pieces.map pcD) (([], []) : Acc) μ = .ok (cntK p.pieces, cntV p.pieces) μ := fun t ht => loopL_dict 100 p.pieces ht (cnt_nd hnd) (by have := h.n40; omega)
  rw [ed _ fun q hq ks vs hks => by
    have hal : ks.length < sizeLine := sl_lt (by omega)
    simp -dsimp [isiD, binD, cmpD, partOf, biD, bl1, int1, lenD, asDct, asSeq, asLst, ixD, tyD, addD, slcD, pcD, asg, asgL, asSeq, wipeD, Tg.slots, PX.gslots, D.key, hal]]
  have e4 := seams_zz (n := n) (sub := sub) (μ := μ) h hz
  simp -dsimp [isiD, binD, cmpD, partOf, biD, bl1, int1, lenD, asDct, asSeq, asLst, ixD, tyD, addD, slcD, e4, aft, -List.map_append]
end Pk

set_option Elab.async false
set_option linter.all false
set_option maxRecDepth 100000
set_option maxHeartbeats 400000
namespace Pk
open PySem PyD
variable {sub : Subs} {n b r : Nat} {v : D} {μ : Store} {Q : D → Store → Prop}
theorem s_law_bad {p : Pt} (h : PtOk p) (hz : NoZ p.pieces) (h39 : p.pieces.length ≤ 39) (c : Cln μ) (hd : Dr r μ) (hQ : ∀ v μ', St r μ μ' → Bad v → Q v μ') : wp (PyD.run fns gc sub (n + 3) "_law_bad" [.ref r, ptD p] μ) Q := by
  rw [run_succ (F := ⟨2, 10, b_law_bad⟩) rfl rfl]
  obtain ⟨q, ps, ep⟩ : ∃ q ps, p.pieces = q :: ps := by
    cases e : p.pieces with
    | nil => have := h.n1; rw [e] at this; simp at this
    | cons q ps => exact ⟨q, ps, rfl⟩
  have hq : q ∈ p.pieces := by rw [ep]; simp
  have hg := h.pc q hq
  obtain ⟨e, es, ee⟩ : ∃ e es, q.edges = e :: es := by
    cases z : q.edges with
    | nil => have := hg.l3; rw [z] at this; simp at this
    | cons e es => exact ⟨e, es, rfl⟩
  have hps := h.ps
  have hn40 := h.n40
  have hall := h.all
  have hfew := h.few
  have zp : p.pieces.map pcD = .tup [.str q.name, .tup (edgeD e :: es.map edgeD)] :: ps.map pcD := by rw [ep, List.map_cons]; simp only [pcD, ee, List.map_cons]
  have hl1 : ps.length + 1 ≤ 40 := by rw [ep] at hn40; simpa using hn40
  have hl2 : es.length + 1 ≤ 12 := by have := hg.lm; rw [ee] at this; simpa using this
  have s1 : 1 + (ps.length + 1) ≤ sizeLine := sl_le (by omega)
  have s2 : 1 + ps.length ≤ sizeLine := sl_le (by omega)
  have s3 : 1 + es.length ≤ sizeLine := sl_le (by omega)
  have s4 : p.seams.length + 1 ≤ sizeLine := sl_le (by omega)
  have ptE : ptD p = .tup [.tup (.tup [.str q.name, .tup (edgeD e :: es.map edgeD)] :: ps.map pcD), .tup (p.seams.map smD), .int p.top] := by unfold ptD; rw [zp]
  rw [ptE]
  have ct1 : ∀ {xs : List D}, cutD xs none (some 1) = xs.take 1 := fun {xs} => cut_take (a := 1)
  simp -dsimp [isiD, binD, cmpD, partOf, biD, bl1, int1, lenD, asDct, asSeq, asLst, ixD, tyD, addD, slcD, b_law_bad, b_law_bad_4, asg, asgL, asSeq, b_law_bad_3, b_law_bad_2, edgeD, b_law_bad_1, ct1, cut_from1, cut_take2, s1, s2, s3, s4]
  refine s_pick c hd (by simp) (by simp) fun x hx μ' st => ?_
  simp only [aft_val st]
  simp -dsimp [isiD, binD, cmpD, partOf, biD, bl1, int1, lenD, asDct, asSeq, asLst, ixD, tyD, addD, slcD, ]
  refine hQ x μ' st ?_
  have V : ∀ {l : List Pc} {y z : D}, Bad (.tup [.tup (l.map pcD), y, z]) → ∀ l', l.map pcD = l' → Bad (.tup [.tup l', y, z]) := fun b l' e => by rw [← e]; exact b
  have ze : edgeD e = .tup [.int e.1, .int e.2.1, .int e.2.2] := rfl
  rw [ze] at zp
  simp only [List.mem_cons, List.not_mem_nil, or_false] at hx
  rcases hx with rfl | rfl | rfl | rfl | rfl | rfl | rfl | rfl | rfl
  · exact bad_non
  · exact bad_lst _
  · exact V (bad_order hps hall _ (.inr (by omega))) _ zp
  · exact V (bad_order hps hall _ (.inr (by omega))) _ zp
  · exact bad_empty _ _
  · refine V (l := q :: p.pieces) (bad_order ⟨by simp, by simp; omega, fun x hx => ?_, fun x hx => ?_⟩ ?_ _ (.inl ?_)) _ ?_
    · rcases List.mem_cons.mp hx with rfl | hx
      · exact h.nm x hq
      · exact h.nm x hx
    · rcases List.mem_cons.mp hx with rfl | hx
      · exact hg.lm
      · exact hps.l12 x hx
    · rw [List.all_cons, hg.isB, hall]; rfl
    · rw [ep]; simp [ascB, ltd_irrefl]
    · rw [List.map_cons, zp]; simp [pcD, ee, ze]
  · refine V (l := ⟨q.name, q.edges.take 2⟩ :: ps) (bad_pieces ⟨by simp, by simpa using hl1, fun x hx => ?_, fun x hx => ?_⟩ ?_ _ _) _ ?_
    · rcases List.mem_cons.mp hx with rfl | hx
      · exact h.nm q hq
      · exact h.nm x (by rw [ep]; simp [hx])
    · rcases List.mem_cons.mp hx with rfl | hx
      · simp; omega
      · exact hps.l12 x (by rw [ep]; simp [hx])
    · have : pieceB ⟨q.name, q.edges.take 2⟩ = false := by
        unfold pieceB
        rw [decide_eq_false (by simp; omega)]
        rfl
      rw [List.all_cons, this]; rfl
    · rw [List.map_cons]; simp [pcD, ee, ze]
  · refine V (l := ⟨q.name, (e.1, e.2.1, e.2.2 + 1) :: es⟩ :: ps) (bad_pieces ⟨by simp, by simpa using hl1, fun x hx => ?_, fun x hx => ?_⟩ ?_ _ _) _ ?_
    · rcases List.mem_cons.mp hx with rfl | hx
      · exact h.nm q hq
      · exact h.nm x (by rw [ep]; simp [hx])
    · rcases List.mem_cons.mp hx with rfl | hx
      · simpa using hl2
      · exact hps.l12 x (by rw [ep]; simp [hx])
    · have hs := hg.sum
      rw [ee] at hs
      have : pieceB ⟨q.name, (e.1, e.2.1, e.2.2 + 1) :: es⟩ = false := by
        unfold pieceB
        rw [decide_eq_false (p := _ = _) (by simp only [List.map_cons, List.sum_cons, List.length_cons] at hs ⊢; omega), Bool.and_false, Bool.and_false]
      rw [List.all_cons, this]; rfl
    · rw [List.map_cons]; simp [pcD, edgeD]
  · have := bad_zz h hz
    rw [zp, List.map_append] at this
    exact this
end Pk

set_option Elab.async false
set_option linter.all false
set_option maxRecDepth 100000
set_option maxHeartbeats 400000
namespace Pk
open PySem PyD
variable {sub : Subs} {n b r : Nat} {v : D} {μ : Store} {Q : D → Store → Prop}
theorem loopL_filtF0 {α : Type} {turn : D → Acc → Store → R Acc} {g f : α → D} {p : α → Bool} {μ : Store} {b : Nat} : ∀ (l : List α) (acc : List D), (∀ x ∈ l, ∀ a : List D, a.length < b → turn (g x) ([], a) μ = .ok ([], if p x then a ++ [f x] else a) μ) → acc.length + l.length ≤ b → loopL turn (l.map g) (([], acc) : Acc) μ = .ok ([], acc ++ (l.filter p).map f) μ
  | [], acc, _, _ => by simp [loopL]
  | x :: l, acc, h, hb => by
    rw [List.length_cons] at hb
    rw [List.map_cons]
    unfold loopL
    rw [h x (by simp) acc (by omega)]
    show loopL turn (l.map g) (([], if p x then acc ++ [f x] else acc) : Acc) μ = _
    rw [loopL_filtF0 l _ (fun y hy => h y (by simp [hy])) (by split <;> (try simp only [List.length_append, List.length_singleton]) <;> omega)]
    cases q : p x <;> simp [q]
theorem loopL_filtF {α : Type} {turn : D → Acc → Store → R Acc} {g : α → D} (f : α → D) (p : α → Bool) {μ : Store} (b : Nat) (l : List α) (h : ∀ x ∈ l, ∀ a : List D, a.length < b → turn (g x) ([], a) μ = .ok ([], if p x then a ++ [f x] else a) μ) (hb : l.length ≤ b) : loopLt turn (l.map g) (([], []) : Acc) μ = .ok ([], (l.filter p).map f) μ := by
  have := loopL_filtF0 (turn := turn) (g := g) (f := f) (p := p) (μ := μ) l [] h (by simpa using hb)
  rw [List.nil_append] at this
  exact this
/-- an edge is a hem -/
def hemB (p : Pt) (s : Spot) : Bool := !(lookD (seamK p.seams) (seamV p.seams.length) (spK s)).isSome
def hemsL (p : Pt) : List D := ((spotsOf p.pieces).filter (hemB p)).map spotD
theorem cln_hems (p : Pt) : clns (hemsL p) = true := cln_map cln_spot _
theorem spots480 {p : Pt} (h : PtOk p) : (spotsOf p.pieces).length ≤ 480 := Nat.le_trans (spots_len (b := 12) fun q hq => (h.pc q hq).lm) (by have := h.n40; omega)
theorem s_free {p : Pt} (h : PtOk p) (c : Cln μ) : PyD.run fns gc sub (n + 2) "free_edges" [ptD p] μ = .ok (.ref μ.length) (μ ++ [.lst (hemsL p)]) := by
  rw [run_succ (F := ⟨1, 3, b_free_edges⟩) rfl rfl]
  have hl := spots480 h
  have e1 : PyD.run fns gc sub (n + 1) "seams_by_edges" [ptD p] μ = _ := e_seams_by h
  have e2 := after_dct (t := true) (ks := seamK p.seams) c (cln_seamV p.seams.length)
  have e3 : PyD.run fns gc sub (n + 1) "all_edges" [ptD p] μ = _ := s_all_edges h
  have e4 := after_last c (cln_spots (spotsOf p.pieces))
  simp -dsimp [isiD, binD, cmpD, partOf, biD, bl1, int1, lenD, asDct, asSeq, asLst, ixD, tyD, addD, slcD, b_free_edges, b_free_edges_2, e1, e2, b_free_edges_1, e3, e4]
  rw [loopL_filtF spotD (hemB p) 480 (spotsOf p.pieces) (fun s hs a ha => by
    have hal : a.length < sizeLine := sl_lt (by omega)
    cases q : lookD (seamK p.seams) (seamV p.seams.length) (spK s) <;> simp -dsimp [isiD, binD, cmpD, partOf, biD, bl1, int1, lenD, asDct, asSeq, asLst, ixD, tyD, addD, slcD, asg, wipeD, Tg.slots, PX.gslots, inD, key_spot, q, hemB, hal]) hl]
  simp -dsimp [isiD, binD, cmpD, partOf, biD, bl1, int1, lenD, asDct, asSeq, asLst, ixD, tyD, addD, slcD, pushO]
  rfl
theorem s_edges_of {p : Pt} (h : PtOk p) (c : Cln μ) : PyD.run fns gc sub (n + 7) "edges_of" [ptD p] μ = .ok (.ref μ.length) (μ ++ [.lst ((spotsOf p.pieces).map spotD)]) := by
  rw [run_succ (F := ⟨1, 1, b_edges_of⟩) rfl rfl]
  have e1 : PyD.run fns gc sub (n + 6) "check_pattern" [ptD p] μ = _ := s_check_pattern h
  have e3 : PyD.run fns gc sub (n + 6) "all_edges" [ptD p] μ = _ := s_all_edges h
  have e4 := keep_last c (cln_spots (spotsOf p.pieces))
  simp -dsimp [isiD, binD, cmpD, partOf, biD, bl1, int1, lenD, asDct, asSeq, asLst, ixD, tyD, addD, slcD, b_edges_of, b_edges_of_2, e1, aft, b_edges_of_1, e3, e4, pushO]
theorem s_hems_of {p : Pt} (h : PtOk p) (c : Cln μ) : PyD.run fns gc sub (n + 7) "hems_of" [ptD p] μ = .ok (.ref μ.length) (μ ++ [.lst (hemsL p)]) := by
  rw [run_succ (F := ⟨1, 1, b_hems_of⟩) rfl rfl]
  have e1 : PyD.run fns gc sub (n + 6) "check_pattern" [ptD p] μ = _ := s_check_pattern h
  have e3 : PyD.run fns gc sub (n + 6) "free_edges" [ptD p] μ = _ := s_free (n := n + 4) h c
  have e4 := keep_last c (cln_hems p)
  simp -dsimp [isiD, binD, cmpD, partOf, biD, bl1, int1, lenD, asDct, asSeq, asLst, ixD, tyD, addD, slcD, b_hems_of, b_hems_of_2, e1, aft, b_hems_of_1, e3, e4, pushO]
end Pk

set_option Elab.async false
set_option linter.all false
set_option maxRecDepth 100000
set_option maxHeartbeats 400000
namespace Pk
open PySem PyD
variable {sub : Subs} {n b r : Nat} {v : D} {μ : Store} {Q : D → Store → Prop}
theorem forN_inv {turn : D → PyD.Env → Store → RS} {a N : Nat} {T : D → Store → Prop} {E : PyD.Env → Store → Prop} (ds : List D) (hN : ds.length = N) (I : Nat → PyD.Env → Store → Prop) (hlive : ∀ k ρ m, I k ρ m → liveAt a N m = some ds)
    (hstep : ∀ k d ρ m, k < N → d ∈ ds → I (k + 1) ρ m → wpS (turn d ρ m) (I k) T) (hend : ∀ ρ m, I 0 ρ m → E ρ m) : ∀ (k : Nat) (ρ : PyD.Env) (m : Store), k ≤ N → I k ρ m → wpS (forN turn a N k ρ m) E T
  | 0, ρ, m, _, h => by
    unfold forN
    rw [hlive 0 ρ m h]
    exact hend ρ m h
  | k + 1, ρ, m, hk, h => by
    unfold forN
    rw [hlive _ ρ m h]
    have hi : N - (k + 1) < ds.length := by omega
    simp only [Option.bind_some, List.getElem?_eq_getElem hi]
    exact wpS_turn (wpS_mono (hstep k _ ρ m (by omega) (List.getElem_mem hi) h) (fun ρ' m' h' => forN_inv ds hN I hlive hstep hend k ρ' m' (by omega) h') fun _ _ q => q)
theorem app1 {m0 : M} {fs : List D} {y : D} (h : fs.length < 100000) : mthD .append (.ref 1) [y] [m0, .lst fs] = some (.non, [m0, .lst (fs ++ [y])]) := by
  simp [mthD, sl_lt h]
theorem isRef1 {m0 : M} {fs : List D} : isRefL [m0, .lst fs] (.ref 1) = true := by simp [isRefL]
def DI (s : List D) (B : Nat) (ρ : PyD.Env) (m : Store) : Prop := ∃ (seed : Int) (xs : List Int) (o3 o4 o5 : Option D), ρ = [some (.ref 0), some (.ref 1), some (.int seed), o3, o4, o5] ∧ m = [.ro s, .lst (xs.map .int)] ∧ xs.length ≤ B
def DJ (s : List D) (B : Nat) (ρ : PyD.Env) (m : Store) : Prop := ∃ (seed num : Int) (xs : List Int) (o3 o5 : Option D), ρ = [some (.ref 0), some (.ref 1), some (.int seed), o3, some (.int num), o5] ∧ m = [.ro s, .lst (xs.map .int)] ∧ xs.length ≤ B
theorem map_app {xs : List Int} {x : Int} : xs.map D.int ++ [.int x] = (xs ++ [x]).map D.int := by simp
theorem dr_7 {s : List D} {B : Nat} (hB : B ≤ 50000) {ρ : PyD.Env} {m : Store} {T : D → Store → Prop} (h : DJ s B ρ m) : wpS (evS (PyD.run fns gc sub n) gc sub b_law_draws_7 ρ m) (DJ s (B + 1)) T := by
  obtain ⟨seed, num, xs, o3, o5, rfl, rfl, hl⟩ := h
  have hx : (xs.map D.int).length < 100000 := by simp; omega
  by_cases h0 : 0 < num
  · simp -dsimp [isiD, binD, cmpD, partOf, biD, bl1, int1, lenD, asDct, asSeq, asLst, ixD, tyD, addD, slcD, b_law_draws_7, h0, b_law_draws_6, isRef1, tyD, app1 hx, b_law_draws_5]
    exact ⟨_, _, xs ++ [num.fmod 997], _, _, rfl, by rw [map_app], by simp; omega⟩
  · simp -dsimp [isiD, binD, cmpD, partOf, biD, bl1, int1, lenD, asDct, asSeq, asLst, ixD, tyD, addD, slcD, b_law_draws_7, h0]
    exact ⟨_, _, xs, _, _, rfl, rfl, by omega⟩
theorem dr_8 {s : List D} {B : Nat} (hB : B ≤ 40000) {ρ : PyD.Env} {m : Store} {T : D → Store → Prop} (h : DJ s B ρ m) : wpS (evS (PyD.run fns gc sub n) gc sub b_law_draws_8 ρ m) (DI s (B + 60)) T := by
  have h60 : ok62 60 = true := by decide
  obtain ⟨seed, num, xs, o3, o5, rfl, rfl, hl⟩ := h
  simp -dsimp [isiD, binD, cmpD, partOf, biD, bl1, int1, lenD, asDct, asSeq, asLst, ixD, tyD, addD, slcD, b_law_draws_8, rng1_ok h60]
  refine forL_inv (rangeD 0 60) (fun rr ρ m => DJ s (B + (60 - rr.length)) ρ m ∧ rr.length ≤ 60) _ _ ⟨⟨_, _, xs, _, _, rfl, rfl, by omega⟩, by rw [range_length]; omega⟩ (fun d rr ρ m ⟨h, hr⟩ => ?_) fun ρ m ⟨h, _⟩ => ?_
  · obtain ⟨seed, num, xs, o3, o5, rfl, rfl, hl⟩ := h
    simp at hr hl
    simp -dsimp [isiD, binD, cmpD, partOf, biD, bl1, int1, lenD, asDct, asSeq, asLst, ixD, tyD, addD, slcD, asg]
    refine wpS_mono (dr_7 (s := s) (B := B + (60 - (rr.length + 1))) (by omega) ⟨_, _, xs, _, _, rfl, rfl, by omega⟩) (fun ρ m h => ⟨?_, by omega⟩) fun _ _ q => q
    obtain ⟨seed, num, xs, o3, o5, rfl, rfl, hl⟩ := h
    exact ⟨_, _, xs, _, _, rfl, rfl, by omega⟩
  · obtain ⟨seed, num, xs, o3, o5, rfl, rfl, hl⟩ := h
    exact ⟨_, xs, _, _, _, rfl, rfl, by simpa using hl⟩
theorem dr_14 {s : List D} {B : Nat} (hB : B ≤ 30000) {i : Int} {ρ : PyD.Env} {m : Store} {T : D → Store → Prop} (h : DI s B ρ m) : wpS (evS (PyD.run fns gc sub n) gc sub b_law_draws_14 (ρ.set 3 (some (.int i))) m) (DI s (B + 62)) T := by
  obtain ⟨seed, xs, o3, o4, o5, rfl, rfl, hl⟩ := h
  have hx : (xs.map D.int).length < 100000 := by simp; omega
  have sm : Sm seed 48271 := .inr (by omega)
  simp -dsimp [isiD, binD, cmpD, partOf, biD, bl1, int1, lenD, asDct, asSeq, asLst, ixD, tyD, addD, slcD, b_law_draws_14, tyD, biD, b_law_draws_13, mul_sm sm, addD, b_law_draws_12]
  generalize (if i < 0 then -i else i) = num
  generalize (seed * 48271 + num + 1).fmod 2147483647 = seed'
  have fin : ∀ ρ m, DJ s (B + 2) ρ m → wpS (evS (PyD.run fns gc sub n) gc sub b_law_draws_8 ρ m) (DI s (B + 62)) T := fun ρ m h => dr_8 (B := B + 2) (by omega) h
  by_cases hn : num < 1000000000000000000
  · have hx2 : (xs.map D.int ++ [D.int (num.fmod 997)]).length < 100000 := by simp; omega
    simp -dsimp [isiD, binD, cmpD, partOf, biD, bl1, int1, lenD, asDct, asSeq, asLst, ixD, tyD, addD, slcD, hn, ltD, tyD, b_law_draws_11, isRef1, app1 hx, b_law_draws_10, app1 hx2, b_law_draws_9]
    refine fin _ _ ?_
    exact ⟨_, _, xs ++ [num.fmod 997, seed'.fmod 65521], _, _, rfl, by simp, by simp; omega⟩
  · simp -dsimp [isiD, binD, cmpD, partOf, biD, bl1, int1, lenD, asDct, asSeq, asLst, ixD, tyD, addD, slcD, hn, ltD]
    refine fin _ _ ?_
    exact ⟨_, _, xs, _, _, rfl, rfl, by omega⟩
theorem s_draws {ns : List Int} (hns : ns.length ≤ 63) (hQ : ∀ d m (xs : List Int), after 1 true d m = .ok (.f (.lst (xs.map .int))) [.ro (ns.map .int)] → Q d m) : wp (PyD.run fns gc sub (n + 1) "_law_draws" [.ref 0] [.ro (ns.map .int)]) Q := by
  rw [run_succ (F := ⟨1, 6, b_law_draws⟩) rfl rfl]
  have hKK : ok62 700 = true := by decide
  simp -dsimp [isiD, binD, cmpD, partOf, biD, bl1, int1, lenD, asDct, asSeq, asLst, ixD, tyD, addD, slcD, b_law_draws, b_law_draws_17, pushO, b_law_draws_16, b_law_draws_15]
  refine forN_inv (ns.map .int) (by simp) (fun k ρ m => DI (ns.map .int) (62 * (ns.length - k)) ρ m ∧ k ≤ ns.length) (fun k ρ m ⟨h, _⟩ => ?_) (fun k d ρ m hk hd ⟨h, hkl⟩ => ?_) (fun ρ m ⟨h, _⟩ => ?_) _ _ _ (Nat.le_refl _) ⟨⟨_, [], _, _, _, rfl, rfl, by simp⟩, by simp⟩
  · obtain ⟨seed, xs, o3, o4, o5, rfl, rfl, hl⟩ := h
    simp [liveAt]
  · rw [List.mem_map] at hd
    obtain ⟨i, _, rfl⟩ := hd
    simp only [asg]
    refine wpS_mono (dr_14 (B := 62 * (ns.length - (k + 1))) (by omega) h) (fun ρ' m' h' => ⟨?_, by omega⟩) fun _ _ q => q
    obtain ⟨seed, xs, o3, o4, o5, rfl, rfl, hl⟩ := h'
    exact ⟨_, xs, _, _, _, rfl, rfl, by omega⟩
  · obtain ⟨seed, xs, o3, o4, o5, rfl, rfl, hl⟩ := h
    simp -dsimp [isiD, binD, cmpD, partOf, biD, bl1, int1, lenD, asDct, asSeq, asLst, ixD, tyD, addD, slcD, b_law_draws_4, rng1_ok hKK]
    refine forL_inv (rangeD 0 700) (fun rr ρ m => DI (ns.map .int) (4000 + (700 - rr.length)) ρ m ∧ rr.length ≤ 700) _ _ ⟨⟨_, xs, _, _, _, rfl, rfl, by omega⟩, by rw [range_length]; omega⟩ (fun d rr ρ m ⟨h, hr⟩ => ?_) fun ρ m ⟨h, _⟩ => ?_
    · obtain ⟨seed, xs, o3, o4, o5, rfl, rfl, hl⟩ := h
      have hx : (xs.map D.int).length < 100000 := by simp at hl ⊢; omega
      have sm : Sm seed 48271 := .inr (by omega)
      simp at hr hl
      simp -dsimp [isiD, binD, cmpD, partOf, biD, bl1, int1, lenD, asDct, asSeq, asLst, ixD, tyD, addD, slcD, asg, b_law_draws_3, mul_sm sm, addD, tyD, b_law_draws_2, isRef1, app1 hx]
      refine ⟨⟨_, xs ++ [_], _, _, _, rfl, by rw [← map_app], ?_⟩, by omega⟩
      simp; omega
    · obtain ⟨seed, xs, o3, o4, o5, rfl, rfl, hl⟩ := h
      simp -dsimp [isiD, binD, cmpD, partOf, biD, bl1, int1, lenD, asDct, asSeq, asLst, ixD, tyD, addD, slcD, b_law_draws_1, biD, asLst, pushO]
      refine hQ _ _ xs.reverse ?_
      have c : Cln [M.ro (ns.map .int), M.lst (xs.map .int), M.lst (xs.reverse.map .int)] := fun m hm => by
        simp only [List.mem_cons, List.not_mem_nil, or_false] at hm
        rcases hm with rfl | rfl | rfl <;> exact clns_ints _
      have := after_keep c (j := 2) (n0 := 1) (ds := xs.reverse.map .int) rfl (by omega)
      simpa using this
end Pk

set_option Elab.async false
set_option linter.all false
set_option maxRecDepth 100000
set_option maxHeartbeats 400000
namespace Pk
open PySem PyD
variable {sub : Subs} {n b r : Nat} {v : D} {μ : Store} {Q : D → Store → Prop}
structure KS (p : Pt) (m : Store) : Prop where
  dr : Dr 1 m
  cl : Cln m
  len : m.length = 5
  got : m[4]? = some (.dct true (seamK p.seams) (seamV p.seams.length))
theorem KS.st {p : Pt} {m m' : Store} (h : KS p m) (st : St 1 m m') : KS p m' := ⟨st.dr, st.cl, by rw [st.len, h.len], by rw [st.same 4 (by omega), h.got]⟩
def LE (p : Pt) (o9 o10 o11 o12 o13 o14 o15 o16 o17 o18 : Option D) : PyD.Env := [some (.ref 0), some (.ref 1), some (ptD p), some (.tup (p.pieces.map pcD)), some (.tup (p.seams.map smD)), some (.int p.top), some (flD flR), some (flD flT), some (.ref 4), o9, o10, o11, o12, o13, o14, o15, o16, o17, o18]
theorem look_mem : ∀ {ks : List DK} {vs : List D} {k : DK} {d : D}, lookD ks vs k = some d → d ∈ vs
  | [], _, _, _, h => by simp [lookD] at h
  | _ :: _, [], _, _, h => by simp [lookD] at h
  | x :: ks, v :: vs, k, d, h => by
    rw [lookD] at h
    split at h
    · cases h; simp
    · exact List.mem_cons_of_mem _ (look_mem h)
theorem no_smv (p : Pt) (s : Spot) : smv 0 (noD p s) = true := by
  unfold noD
  cases q : lookD (seamK p.seams) (seamV p.seams.length) (spK s) with
  | none => rfl
  | some d =>
    obtain ⟨i, _, h⟩ := List.mem_flatMap.mp (look_mem q)
    simp only [List.mem_cons, List.not_mem_nil, or_false] at h
    rcases h with rfl | rfl <;> rfl
theorem fl_smv (l : List Bool) (h : l.length ≤ 100000) : smv 1 (flD l) = true := by
  simp only [flD, smv, Bool.and_eq_true, decide_eq_true_eq, List.length_map]
  refine ⟨h, smvs_iff.mpr fun d hd => ?_⟩
  obtain ⟨_, _, rfl⟩ := List.mem_map.mp hd
  rfl
theorem spots_smv (l : List Spot) (h : l.length ≤ 100000) : smv 2 (.lst (l.map spotD)) = true := by
  simp only [smv, Bool.and_eq_true, decide_eq_true_eq, List.length_map]
  refine ⟨h, smvs_iff.mpr fun d hd => ?_⟩
  obtain ⟨_, _, rfl⟩ := List.mem_map.mp hd
  rfl
/-- between two pieces, at the end -/
def DueI (p : Pt) (m0 : Store) (o9 o12 o13 o14 o15 o16 o17 : Option D) (rr : List D) (ρ : PyD.Env) (m : Store) : Prop := ∃ dn rs o9 o10 o11, rr = List.map pcD rs ∧ dn ++ rs = p.pieces ∧ m = m0 ∧ ρ = LE p o9 o10 o11 o12 o13 o14 o15 o16 o17 (some (.lst ((spotsOf dn).map spotD)))
theorem lw_4 {p : Pt} (h : PtOk p) {m : Store} (K : KS p m) {o9 o10 o11 o12 o13 o14 o15 o16 o17 o18 : Option D} : wp (endOf (evS (PyD.run fns gc subK (n + 8)) gc subK b_law_4 (LE p o9 o10 o11 o12 o13 o14 o15 o16 o17 o18) m)) fun d _ => d = D.bl true := by
  have hl := spots480 h
  unfold LE
  simp -dsimp [isiD, binD, cmpD, partOf, biD, bl1, int1, lenD, asDct, asSeq, asLst, ixD, tyD, addD, slcD, b_law_4, b_law_3]
  refine forL_inv (p.pieces.map pcD) (DueI p m o9 o12 o13 o14 o15 o16 o17) _ _ ⟨[], p.pieces, o9, o10, o11, rfl, rfl, rfl, rfl⟩ (fun d rr ρ m' ⟨dn, rs, o9, o10, o11, er, ep, em, eρ⟩ => ?_) fun ρ m' ⟨dn, rs, o9, o10, o11, er, ep, em, eρ⟩ => ?_
  · subst em eρ
    cases rs with
    | nil => cases er
    | cons q rs =>
    simp only [List.map_cons, List.cons.injEq] at er
    obtain ⟨rfl, rfl⟩ := er
    have hq12 : q.edges.length ≤ 12 := (h.pc q (by rw [← ep]; simp)).lm
    have hdl : (spotsOf dn).length ≤ 480 := by
      have : spotsOf p.pieces = spotsOf dn ++ spotsOf (q :: rs) := by rw [← ep]; simp [spotsOf]
      rw [this, List.length_append] at hl
      omega
    have hE : ∀ o9 o10 o11, DueI p m' o9 o12 o13 o14 o15 o16 o17 (rs.map pcD) [some (.ref 0), some (.ref 1), some (ptD p), some (.tup (p.pieces.map pcD)), some (.tup (p.seams.map smD)), some (.int p.top), some (flD flR), some (flD flT), some (.ref 4), o9, o10, o11, o12, o13, o14, o15, o16, o17, some (.lst ((spotsOf dn).map spotD ++ (pcSpots q).map spotD))] m' := fun o9 o10 o11 => ⟨dn ++ [q], rs, o9, o10, o11, rfl, by simpa using ep, rfl, by simp [LE, spotsOf]⟩
    have hsz : (spotsOf dn).length + (pcSpots q).length ≤ sizeLine := sl_le (by simp [pcSpots]; omega)
    unfold LE
    simp -dsimp [isiD, binD, cmpD, partOf, biD, bl1, int1, lenD, asDct, asSeq, asLst, ixD, tyD, addD, slcD, pcD, asg, asgL, asSeq, b_law_2, rng1_ok (ok62_nat (show q.edges.length ≤ 1000000 by omega))]
    rw [loopL_map (rangeD 0 q.edges.length) [] (f := fun d => .tup [.str q.name, d]) (fun d hd a' ha' => by
      rw [range_length] at ha'
      have hal : a'.length < sizeLine := sl_lt (by simp at ha'; omega)
      obtain ⟨k, hk, rfl⟩ := range_mem hd
      simp -dsimp [isiD, binD, cmpD, partOf, biD, bl1, int1, lenD, asDct, asSeq, asLst, ixD, tyD, addD, slcD, asg, wipeD, Tg.slots, PX.gslots, hal])]
    have em : (rangeD 0 q.edges.length).map (fun d => D.tup [.str q.name, d]) = (pcSpots q).map spotD := by simp [rangeD_map, pcSpots, spotD]
    rw [List.nil_append, em]
    simp -dsimp [isiD, binD, cmpD, partOf, biD, bl1, int1, lenD, asDct, asSeq, asLst, ixD, tyD, addD, slcD, addD, asLst, hsz]
    exact hE _ _ _
  · subst em eρ
    have hrs : rs = [] := by cases rs with | nil => rfl | cons _ _ => cases er
    subst hrs
    rw [List.append_nil] at ep
    subst ep
    have e1 : ∀ m, Cln m → PyD.run fns gc subK (n + 8) "edges_of" [ptD p] m = _ := fun m c => s_edges_of (n := n + 1) (μ := m) h c
    have e2 : PyD.run fns gc subK (n + 8) "hems_of" [ptD p] m' = _ := s_hems_of (n := n + 1) h K.cl
    have e3 := after_last K.cl (cln_spots (spotsOf p.pieces))
    have e4 := after_last K.cl (cln_hems p)
    have got := K.got
    unfold LE
    simp -dsimp [isiD, binD, cmpD, partOf, biD, bl1, int1, lenD, asDct, asSeq, asLst, ixD, tyD, addD, slcD, b_law_1, e1 _ K.cl, e2, e3, e4]
    rw [loopL_filtF spotD (hemB p) 480 (spotsOf p.pieces) (fun s hs a ha => by
      have hal : a.length < sizeLine := sl_lt (by omega)
      cases q : lookD (seamK p.seams) (seamV p.seams.length) (spK s) <;> simp -dsimp [isiD, binD, cmpD, partOf, biD, bl1, int1, lenD, asDct, asSeq, asLst, ixD, tyD, addD, slcD, asg, wipeD, Tg.slots, PX.gslots, got, inD, key_spot, q, hemB, hal]) hl]
    have hs1 : smv 3 (.lst [.lst ((spotsOf p.pieces).map spotD), .lst (hemsL p)]) = true := by
      have a1 := spots_smv (spotsOf p.pieces) (by omega)
      have a2 := spots_smv ((spotsOf p.pieces).filter (hemB p)) (Nat.le_trans (List.length_filter_le _ _) (by omega))
      show (decide (2 ≤ 100000) && smvs 2 [.lst ((spotsOf p.pieces).map spotD), .lst (hemsL p)]) = true
      unfold hemsL
      simp only [smvs, a1, a2]
      rfl
    have e5 : PyD.run fns gc subK (n + 8) "_law_same" [.lst [.lst ((spotsOf p.pieces).map spotD), .lst (hemsL p)], .lst [.lst ((spotsOf p.pieces).map spotD), .lst (hemsL p)]] m' = _ := s_same 3 (n + 4) _ hs1
    have e6 : (((spotsOf p.pieces).filter (hemB p)).map spotD) = hemsL p := rfl
    rw [e6]
    simp -dsimp [isiD, binD, cmpD, partOf, biD, bl1, int1, lenD, asDct, asSeq, asLst, ixD, tyD, addD, slcD, e5, aft]
end Pk

set_option Elab.async false
set_option linter.all false
set_option maxRecDepth 100000
set_option maxHeartbeats 400000
namespace Pk
open PySem PyD
variable {sub : Subs} {n b r : Nat} {v : D} {μ : Store} {Q : D → Store → Prop}
theorem same_fl (l : List Bool) (h : l.length ≤ 100000) : PyD.run fns gc subK (n + 8) "_law_same" [flD l, flD l] μ = .ok (.bl true) μ := s_same 1 (n + 6) _ (fl_smv l h)
def BadI (p : Pt) (w : D) (o9 o10 o11 o12 o13 o15 : Option D) (o18 : Option D) (rr : List D) (ρ : PyD.Env) (m : Store) : Prop := (∀ d ∈ rr, ∃ k : Nat, k < 5 ∧ d = .int (k : Nat)) ∧ KS p m ∧ ∃ o14 o17, ρ = LE p o9 o10 o11 o12 o13 o14 o15 (some w) o17 o18
theorem lw_9 {p : Pt} (h : PtOk p) {m : Store} (K : KS p m) {w own : D} (hw : Bad w) {o9 o10 o11 o12 o14 o15 o17 o18 : Option D} : wp (endOf (evS (PyD.run fns gc subK (n + 8)) gc subK b_law_9 (LE p o9 o10 o11 o12 (some own) o14 o15 (some w) o17 o18) m)) fun d _ => d = D.bl true := by
  unfold LE
  simp -dsimp [isiD, binD, cmpD, partOf, biD, bl1, int1, lenD, asDct, asSeq, asLst, ixD, tyD, addD, slcD, b_law_9, rng1_ok (show ok62 5 = true by decide)]
  refine forL_inv (rangeD 0 5) (BadI p w o9 o10 o11 o12 (some own) o15 o18) _ _ ⟨fun d hd => ?_, K, o14, o17, rfl⟩ (fun d rr ρ m ⟨hr, K, o14, o17, eρ⟩ => ?_) fun ρ m ⟨hr, K, o14, o17, eρ⟩ => ?_
  · obtain ⟨k, hk, rfl⟩ := range_mem hd
    exact ⟨k, by omega, by simp⟩
  · subst eρ
    obtain ⟨k, hk, rfl⟩ := hr d (by simp)
    have hr' : ∀ d ∈ rr, ∃ k : Nat, k < 5 ∧ d = .int (k : Nat) := fun d hd => hr d (by simp [hd])
    have last : ∀ (m : Store) (e : D), KS p m → wpS (evS (PyD.run fns gc subK (n + 8)) gc subK b_law_5 (LE p o9 o10 o11 o12 (some own) (some e) o15 (some w) (some (.int k)) o18) m) (BadI p w o9 o10 o11 o12 (some own) o15 o18 rr) (fun d _ => d = D.bl true) := fun m e K => by
      have hE : ∀ m, KS p m → BadI p w o9 o10 o11 o12 (some own) o15 o18 rr (LE p o9 o10 o11 o12 (some own) (some e) o15 (some w) (some (.int k)) o18) m := fun m K => ⟨hr', K, _, _, rfl⟩
      unfold LE at hE ⊢
      simp -dsimp [isiD, binD, cmpD, partOf, biD, bl1, int1, lenD, asDct, asSeq, asLst, ixD, tyD, addD, slcD, b_law_5]
      refine s_pick K.cl K.dr (by simp) (by simp) fun x hx m' st => ?_
      simp only [aft_val st]
      have K' := K.st st
      have e1 : PyD.run fns gc subK (n + 8) "_law_told" [.int k, w, e, x] m' = _ := s_told_bad hw hk e x
      have e2 : PyD.run fns gc subK (n + 8) "_law_same" [flD flR, flD flR] m' = _ := same_fl flR (by decide)
      simp -dsimp [isiD, binD, cmpD, partOf, biD, bl1, int1, lenD, asDct, asSeq, asLst, ixD, tyD, addD, slcD, e1, aft, e2]
      exact hE _ K'
    unfold LE at last ⊢
    by_cases hk1 : (1 : Int) < k
    · simp -dsimp [isiD, binD, cmpD, partOf, biD, bl1, int1, lenD, asDct, asSeq, asLst, ixD, tyD, addD, slcD, asg, b_law_8, b_law_7, hk1, b_law_6]
      refine s_pick K.cl K.dr (by simp) (by simp) fun x hx m' st => ?_
      simp only [aft_val st]
      simp -dsimp [isiD, binD, cmpD, partOf, biD, bl1, int1, lenD, asDct, asSeq, asLst, ixD, tyD, addD, slcD, ]
      exact last _ _ (K.st st)
    · simp -dsimp [isiD, binD, cmpD, partOf, biD, bl1, int1, lenD, asDct, asSeq, asLst, ixD, tyD, addD, slcD, asg, b_law_8, b_law_7, hk1]
      exact last _ _ K
  · subst eρ
    exact lw_4 h K
theorem lw_10 {p : Pt} (h : PtOk p) (hz : NoZ p.pieces) (h39 : p.pieces.length ≤ 39) {m : Store} (K : KS p m) {own : D} {o9 o10 o11 o12 o14 o15 o16 o17 o18 : Option D} : wp (endOf (evS (PyD.run fns gc subK (n + 8)) gc subK b_law_10 (LE p o9 o10 o11 o12 (some own) o14 o15 o16 o17 o18) m)) fun d _ => d = D.bl true := by
  have last := fun w m hw K => lw_9 (n := n) (w := w) (m := m) (own := own) (o9 := o9) (o10 := o10) (o11 := o11) (o12 := o12) (o14 := o14) (o15 := o15) (o17 := o17) (o18 := o18) h K hw
  unfold LE at last ⊢
  simp -dsimp [isiD, binD, cmpD, partOf, biD, bl1, int1, lenD, asDct, asSeq, asLst, ixD, tyD, addD, slcD, b_law_10]
  refine s_law_bad (n := n + 5) h hz h39 K.cl K.dr fun w m' st hw => ?_
  simp only [aft_val st]
  simp -dsimp [isiD, binD, cmpD, partOf, biD, bl1, int1, lenD, asDct, asSeq, asLst, ixD, tyD, addD, slcD, ]
  exact last w m' hw (K.st st)
theorem mul_two (d : D) : mulD μ (.lst [d]) (.int 2) = some (.f (.lst [d, d])) := by
  have h : 2 ≤ sizeLine := sl_le (by omega)
  simp [mulD, asLst, h]
theorem mul_three (d : D) : mulD μ (.lst [d]) (.int 3) = some (.f (.lst [d, d, d])) := by
  have h : 3 ≤ sizeLine := sl_le (by omega)
  simp [mulD, asLst, h]
theorem lw_11 {p : Pt} (h : PtOk p) (hz : NoZ p.pieces) (h39 : p.pieces.length ≤ 39) {m : Store} (K : KS p m) {own : D} {o9 o10 o11 o12 o14 o15 o16 o17 o18 : Option D} : wp (endOf (evS (PyD.run fns gc subK (n + 8)) gc subK b_law_11 (LE p o9 o10 o11 o12 (some own) o14 o15 o16 o17 o18) m)) fun d _ => d = D.bl true := by
  have last := lw_10 (n := n) h hz h39 K (own := own) (o9 := o9) (o10 := o10) (o11 := o11) (o12 := o12) (o14 := o14) (o15 := o15) (o16 := o16) (o17 := o17) (o18 := o18)
  have ht0 := h.t0
  unfold LE at last ⊢
  by_cases hl : 0 < p.seams.length
  · have e1 : PyD.run fns gc subK (n + 8) "_law_told" [.int 2, ptD p, .int 0, .int (p.top + 1)] m = _ := s_told2_no h (.inr ⟨⟨0, rfl, by omega⟩, by omega⟩)
    have e2 : PyD.run fns gc subK (n + 8) "_law_told" [.int 2, ptD p, .int 0, .int (-1)] m = _ := s_told2_no h (.inr ⟨⟨0, rfl, by omega⟩, by omega⟩)
    have e3 : PyD.run fns gc subK (n + 8) "_law_same" [.lst [flD flT, flD flT], .lst [flD flT, flD flT]] m = _ := s_same 2 (n + 5) _ (by decide)
    simp -dsimp [isiD, binD, cmpD, partOf, biD, bl1, int1, lenD, asDct, asSeq, asLst, ixD, tyD, addD, slcD, b_law_11, hl, e1, e2, aft, mul_two, e3]
    exact last
  · simp -dsimp [isiD, binD, cmpD, partOf, biD, bl1, int1, lenD, asDct, asSeq, asLst, ixD, tyD, addD, slcD, b_law_11, hl]
    exact last
end Pk

set_option Elab.async false
set_option linter.all false
set_option maxRecDepth 100000
set_option maxHeartbeats 400000
namespace Pk
open PySem PyD
variable {sub : Subs} {n b r : Nat} {v : D} {μ : Store} {Q : D → Store → Prop}
def NumI (p : Pt) (m0 : Store) (o9 o10 o11 o13 o14 o16 o17 o18 : Option D) (rr : List D) (ρ : PyD.Env) (m : Store) : Prop := m = m0 ∧ (∀ d ∈ rr, ∃ k size : Int, d = .tup [.int k, .int size] ∧ ¬ (0 ≤ k ∧ k ≤ (p.seams.length : Int) - 1)) ∧ ∃ o12 o15, ρ = LE p o9 o10 o11 o12 o13 o14 o15 o16 o17 o18
theorem lw_13 {p : Pt} (h : PtOk p) (hz : NoZ p.pieces) (h39 : p.pieces.length ≤ 39) {m : Store} (K : KS p m) {own : D} {o9 o10 o11 o12 o14 o15 o16 o17 o18 : Option D} : wp (endOf (evS (PyD.run fns gc subK (n + 8)) gc subK b_law_13 (LE p o9 o10 o11 o12 (some own) o14 o15 o16 o17 o18) m)) fun d _ => d = D.bl true := by
  unfold LE
  simp -dsimp [isiD, binD, cmpD, partOf, biD, bl1, int1, lenD, asDct, asSeq, asLst, ixD, tyD, addD, slcD, b_law_13]
  refine forL_inv [.tup [.int p.seams.length, .int 0], .tup [.int (-1), .int 0], .tup [.int p.seams.length, .int (p.top + 1)]] (NumI p m o9 o10 o11 (some own) o14 o16 o17 o18) _ _ ⟨rfl, fun d hd => ?_, o12, o15, rfl⟩ (fun d rr ρ m' ⟨em, hr, o12, o15, eρ⟩ => ?_) fun ρ m' ⟨em, hr, o12, o15, eρ⟩ => ?_
  · simp only [List.mem_cons, List.not_mem_nil, or_false] at hd
    rcases hd with rfl | rfl | rfl <;> exact ⟨_, _, rfl, by omega⟩
  · subst em eρ
    obtain ⟨k, size, rfl, hk⟩ := hr d (by simp)
    have hE : ∀ o12 o15, NumI p m' o9 o10 o11 (some own) o14 o16 o17 o18 rr (LE p o9 o10 o11 o12 (some own) o14 o15 o16 o17 o18) m' := fun o12 o15 => ⟨rfl, fun d hd => hr d (by simp [hd]), o12, o15, rfl⟩
    have e1 : PyD.run fns gc subK (n + 8) "_law_told" [.int 2, ptD p, .int k, .int size] m' = _ := s_told2_no h (.inl hk)
    have e2 : PyD.run fns gc subK (n + 8) "_law_told" [.int 3, ptD p, .int k, .int 0] m' = _ := s_told3_no h 0 hk
    have e3 : PyD.run fns gc subK (n + 8) "_law_same" [.lst [flD flT, flD flT], .lst [flD flT, flD flT]] m' = _ := s_same 2 (n + 5) _ (by decide)
    unfold LE at hE ⊢
    simp -dsimp [isiD, binD, cmpD, partOf, biD, bl1, int1, lenD, asDct, asSeq, asLst, ixD, tyD, addD, slcD, asg, asgL, asSeq, b_law_12, e1, e2, aft, mul_two, e3]
    exact hE _ _
  · subst em eρ
    exact lw_11 h hz h39 K
def EgI (p : Pt) (m0 : Store) (o9 o10 o11 o13 o15 o16 o17 o18 : Option D) (rr : List D) (ρ : PyD.Env) (m : Store) : Prop := m = m0 ∧ (∀ d ∈ rr, ∃ (x : Str) (i size : Int), d = .tup [.tup [.str x, .int i], .int size] ∧ PyData.strOk x = true ∧ (spotIn (spotsOf p.pieces) x i = false ∨ ¬ (0 ≤ size ∧ size ≤ p.top))) ∧ ∃ o12 o14, ρ = LE p o9 o10 o11 o12 o13 o14 o15 o16 o17 o18
theorem noz_spot {ps : List Pc} (h : NoZ ps) (i : Int) : spotIn (spotsOf ps) "zz" i = false := by
  rw [Bool.eq_false_iff]
  intro e
  obtain ⟨s, hs, e1, _⟩ := spotIn_iff.mp e
  obtain ⟨q, hq, e2, _⟩ := mem_spots hs
  exact h q hq (by rw [e2, e1])
theorem lw_16 {p : Pt} (h : PtOk p) (hz : NoZ p.pieces) (h39 : p.pieces.length ≤ 39) {m : Store} (K : KS p m) {o9 o10 o11 o12 o13 o14 o15 o16 o17 o18 : Option D} : wp (endOf (evS (PyD.run fns gc subK (n + 8)) gc subK b_law_16 (LE p o9 o10 o11 o12 o13 o14 o15 o16 o17 o18) m)) fun d _ => d = D.bl true := by
  obtain ⟨q, ps, ep⟩ : ∃ q ps, p.pieces = q :: ps := by
    cases e : p.pieces with
    | nil => have := h.n1; rw [e] at this; simp at this
    | cons q ps => exact ⟨q, ps, rfl⟩
  have hq := h.nm q (by rw [ep]; simp)
  have hz0 : PyData.strOk "zz" = true := by decide +kernel
  have hp0 : (p.pieces.map pcD)[0]? = some (pcD q) := by rw [ep]; rfl
  have hp1 : ∀ hh, (p.pieces.map pcD)[0]'hh = pcD q := fun hh => by rw [List.getElem?_eq_getElem hh] at hp0; exact Option.some.inj hp0
  unfold LE
  have hn0 : 0 < p.pieces.length := h.n1
  generalize hL : p.pieces.map pcD = L at hp0 hp1
  simp -dsimp [isiD, binD, cmpD, partOf, biD, bl1, int1, lenD, asDct, asSeq, asLst, ixD, tyD, addD, slcD, b_law_16, hp0, hp1, pcD, b_law_15]
  subst hL
  refine forL_inv [.tup [.tup [.str "zz", .int 0], .int 0], .tup [.tup [.str q.name, .int 0], .int (p.top + 1)], .tup [.tup [.str q.name, .int 0], .int (-1)], .tup [.tup [.str "zz", .int 0], .int (p.top + 1)]] (EgI p m o9 o10 o11 (some (.tup [.str q.name, .int 0])) o15 o16 o17 o18) _ _ ⟨rfl, fun d hd => ?_, o12, o14, rfl⟩ (fun d rr ρ m' ⟨em, hr, o12, o14, eρ⟩ => ?_) fun ρ m' ⟨em, hr, o12, o14, eρ⟩ => ?_
  · simp only [List.mem_cons, List.not_mem_nil, or_false] at hd
    rcases hd with rfl | rfl | rfl | rfl
    · exact ⟨_, _, _, rfl, hz0, .inl (noz_spot hz 0)⟩
    · exact ⟨_, _, _, rfl, hq.2.2, .inr (by omega)⟩
    · exact ⟨_, _, _, rfl, hq.2.2, .inr (by omega)⟩
    · exact ⟨_, _, _, rfl, hz0, .inl (noz_spot hz 0)⟩
  · subst em eρ
    obtain ⟨x, i, size, rfl, hx, hi⟩ := hr d (by simp)
    have hE : ∀ o12 o14, EgI p m' o9 o10 o11 (some (.tup [.str q.name, .int 0])) o15 o16 o17 o18 rr (LE p o9 o10 o11 o12 (some (.tup [.str q.name, .int 0])) o14 o15 o16 o17 o18) m' := fun o12 o14 => ⟨rfl, fun d hd => hr d (by simp [hd]), o12, o14, rfl⟩
    have e1 : PyD.run fns gc subK (n + 8) "_law_told" [.int 0, ptD p, .tup [.str x, .int i], .int size] m' = _ := s_told0_no h K.cl hx hi
    have e2 : PyD.run fns gc subK (n + 8) "_law_same" [flD flT, flD flT] m' = _ := same_fl flT (by decide)
    unfold LE at hE ⊢
    simp -dsimp [isiD, binD, cmpD, partOf, biD, bl1, int1, lenD, asDct, asSeq, asLst, ixD, tyD, addD, slcD, asg, asgL, asSeq, b_law_14, e1, aft, e2]
    exact hE _ _
  · subst em eρ
    exact lw_13 h hz h39 K
end Pk

set_option Elab.async false
set_option linter.all false
set_option maxRecDepth 100000
set_option maxHeartbeats 400000
namespace Pk
open PySem PyD
variable {sub : Subs} {n b r : Nat} {v : D} {μ : Store} {Q : D → Store → Prop}
theorem beyond {ps : List Pc} (hn : (ps.map (·.name)).Nodup) {q : Pc} (hq : q ∈ ps) : spotIn (spotsOf ps) q.name (q.edges.length : Nat) = false := by
  rw [Bool.eq_false_iff]
  intro e
  obtain ⟨s, hs, e1, e2⟩ := spotIn_iff.mp e
  obtain ⟨q', hq', e3, hl⟩ := mem_spots hs
  have f1 := find_name hn hq rfl
  have f2 := find_name hn hq' (x := q.name) (by rw [e3, e1])
  rw [f1] at f2
  cases f2
  omega
theorem below (l : List Spot) (x : Str) : spotIn l x (-1) = false := by
  rw [Bool.eq_false_iff]
  intro e
  obtain ⟨s, _, _, h⟩ := spotIn_iff.mp e
  omega
theorem in_spots_of {ps : List Pc} {q : Pc} (hq : q ∈ ps) {k : Nat} (hk : k < q.edges.length) : (q.name, k) ∈ spotsOf ps :=
  List.mem_flatMap.mpr ⟨q, hq, List.mem_map.mpr ⟨k, List.mem_range.mpr hk, rfl⟩⟩
def PcI (p : Pt) (o13 o14 o15 o16 o17 o18 : Option D) (rr : List D) (ρ : PyD.Env) (m : Store) : Prop := KS p m ∧ (∀ d ∈ rr, ∃ q ∈ p.pieces, d = pcD q) ∧ ∃ o9 o10 o11 o12, ρ = LE p o9 o10 o11 o12 o13 o14 o15 o16 o17 o18
def InI (p : Pt) (q : Pc) (o13 o14 o15 o16 o17 o18 : Option D) (rr : List D) (ρ : PyD.Env) (m : Store) : Prop := KS p m ∧ (∀ d ∈ rr, ∃ k : Nat, k < q.edges.length ∧ d = .int (k : Nat)) ∧ ∃ o9 o12, ρ = LE p o9 (some (.str q.name)) (some (.tup (q.edges.map edgeD))) o12 o13 o14 o15 o16 o17 o18
theorem lw_20 {p : Pt} (h : PtOk p) {q : Pc} (hq : q ∈ p.pieces) {k : Nat} (hk : k < q.edges.length) {m : Store} (K : KS p m) {o12 o13 o14 o15 o16 o17 o18 : Option D} {rr : List D} (hr : ∀ d ∈ rr, ∃ k : Nat, k < q.edges.length ∧ d = .int (k : Nat)) :
    wpS (evS (PyD.run fns gc subK (n + 8)) gc subK b_law_20 (LE p (some (.int k)) (some (.str q.name)) (some (.tup (q.edges.map edgeD))) o12 o13 o14 o15 o16 o17 o18) m) (InI p q o13 o14 o15 o16 o17 o18 rr) (fun d _ => d = D.bl true) := by
  have ht0 := h.t0
  have ht1 := h.t1
  have hs := in_spots_of hq hk
  have hE : ∀ o12 m, KS p m → InI p q o13 o14 o15 o16 o17 o18 rr (LE p (some (.int k)) (some (.str q.name)) (some (.tup (q.edges.map edgeD))) o12 o13 o14 o15 o16 o17 o18) m := fun o12 m K => ⟨K, hr, _, _, rfl⟩
  have ok := (h.pc q hq).ok _ (List.getElem_mem hk)
  have he := edgeOf_eq (asc_nd h.asc) hq (s := (q.name, k)) rfl hk
  have ha : (q.edges.map edgeD)[k]? = some (edgeD q.edges[k]) := by rw [List.getElem?_map, List.getElem?_eq_getElem hk]; rfl
  have ha2 : ∀ h2, (q.edges.map edgeD)[k]'h2 = edgeD q.edges[k] := fun h2 => by rw [List.getElem_map]
  unfold LE at hE ⊢
  simp -dsimp [isiD, binD, cmpD, partOf, biD, bl1, int1, lenD, asDct, asSeq, asLst, ixD, tyD, addD, slcD, b_law_20]
  refine s_take K.cl K.dr (by omega) fun t m1 t0 t1 st1 => ?_
  simp only [aft_val st1]
  have K1 := K.st st1
  simp -dsimp [isiD, binD, cmpD, partOf, biD, bl1, int1, lenD, asDct, asSeq, asLst, ixD, tyD, addD, slcD, ]
  refine s_pick K1.cl K1.dr (by simp) (by simp) fun x hx m2 st2 => ?_
  simp only [aft_val st2]
  have K2 := K1.st st2
  obtain ⟨size, rfl, z0, z1⟩ : ∃ s : Int, x = .int s ∧ 0 ≤ s ∧ s ≤ p.top := by
    simp only [List.mem_cons, List.not_mem_nil, or_false] at hx
    rcases hx with rfl | rfl | rfl
    · exact ⟨_, rfl, by omega, by omega⟩
    · exact ⟨_, rfl, by omega, by omega⟩
    · exact ⟨_, rfl, by omega, by omega⟩
  have e1 : PyD.run fns gc subK (n + 8) "_law_told" [.int 0, ptD p, .tup [.str q.name, .int (k : Nat)], .int size] m2 = _ := s_told0 h K2.cl hs z0 z1
  have e2 : PyD.run fns gc subK (n + 8) "_law_told" [.int 1, ptD p, .tup [.str q.name, .int (k : Nat)], .int 0] m2 = _ := s_told1 h K2.cl hs 0
  have eL : longZ p.pieces (q.name, k) size = q.edges[k].1 + size * q.edges[k].2.1 := by unfold longZ; rw [he]
  rw [eL] at e1
  have hsm : Sm size q.edges[k].2.1 := .inr (by have := ok.s1; have := ok.s2; omega)
  have e3 : PyD.run fns gc subK (n + 8) "_law_same" [.int (q.edges[k].1 + size * q.edges[k].2.1), .int (q.edges[k].1 + size * q.edges[k].2.1)] m2 = _ := s_same 0 (n + 7) _ rfl
  have e4 : PyD.run fns gc subK (n + 8) "_law_same" [noD p (q.name, k), noD p (q.name, k)] m2 = _ := s_same 0 (n + 7) _ (no_smv p _)
  have got := K2.got
  have ek : D.key true (.tup [.str q.name, .int (k : Nat)]) = some (spK (q.name, k)) := rfl
  have en : (lookD (seamK p.seams) (seamV p.seams.length) (spK (q.name, k))).getD .non = noD p (q.name, k) := rfl
  simp -dsimp [isiD, binD, cmpD, partOf, biD, bl1, int1, lenD, asDct, asSeq, asLst, ixD, tyD, addD, slcD, b_law_19, e1, aft, ha, ha2, edgeD, mul_sm hsm, addD, e3, b_law_18, e2, got, getMD, ek, en, e4]
  exact hE _ _ K2
theorem lw_17 {p : Pt} (h : PtOk p) {q : Pc} (hq : q ∈ p.pieces) {m : Store} (K : KS p m) {o9 o12 o13 o14 o15 o16 o17 o18 : Option D} {rr : List D} (hr : ∀ d ∈ rr, ∃ q ∈ p.pieces, d = pcD q) :
    wpS (evS (PyD.run fns gc subK (n + 8)) gc subK b_law_17 (LE p o9 (some (.str q.name)) (some (.tup (q.edges.map edgeD))) o12 o13 o14 o15 o16 o17 o18) m) (PcI p o13 o14 o15 o16 o17 o18 rr) (fun d _ => d = D.bl true) := by
  have hx := (h.nm q hq).2.2
  have hE : PcI p o13 o14 o15 o16 o17 o18 rr (LE p o9 (some (.str q.name)) (some (.tup (q.edges.map edgeD))) o12 o13 o14 o15 o16 o17 o18) m := ⟨K, hr, _, _, _, _, rfl⟩
  have b1 := beyond (asc_nd h.asc) hq
  have b2 := below (spotsOf p.pieces) q.name
  have e1 : PyD.run fns gc subK (n + 8) "_law_told" [.int 1, ptD p, .tup [.str q.name, .int (q.edges.length : Nat)], .int 0] m = _ := s_told1_no h K.cl hx 0 b1
  have e2 : PyD.run fns gc subK (n + 8) "_law_told" [.int 0, ptD p, .tup [.str q.name, .int (q.edges.length : Nat)], .int 0] m = _ := s_told0_no h K.cl hx (.inl b1)
  have e3 : PyD.run fns gc subK (n + 8) "_law_told" [.int 1, ptD p, .tup [.str q.name, .int (-1)], .int 0] m = _ := s_told1_no h K.cl hx 0 b2
  have e4 : PyD.run fns gc subK (n + 8) "_law_same" [.lst [flD flT, flD flT, flD flT], .lst [flD flT, flD flT, flD flT]] m = _ := s_same 2 (n + 5) _ (by decide)
  unfold LE at hE ⊢
  simp -dsimp [isiD, binD, cmpD, partOf, biD, bl1, int1, lenD, asDct, asSeq, asLst, ixD, tyD, addD, slcD, b_law_17, e1, e2, e3, aft, mul_three, e4]
  exact hE
theorem lw_22 {p : Pt} (h : PtOk p) (hz : NoZ p.pieces) (h39 : p.pieces.length ≤ 39) {m : Store} (K : KS p m) {o9 o10 o11 o12 o13 o14 o15 o16 o17 o18 : Option D} : wp (endOf (evS (PyD.run fns gc subK (n + 8)) gc subK b_law_22 (LE p o9 o10 o11 o12 o13 o14 o15 o16 o17 o18) m)) fun d _ => d = D.bl true := by
  unfold LE
  simp -dsimp [isiD, binD, cmpD, partOf, biD, bl1, int1, lenD, asDct, asSeq, asLst, ixD, tyD, addD, slcD, b_law_22]
  refine forL_inv (p.pieces.map pcD) (PcI p o13 o14 o15 o16 o17 o18) _ _ ⟨K, fun d hd => ?_, o9, o10, o11, o12, rfl⟩ (fun d rr ρ m' ⟨K', hr, o9, o10, o11, o12, eρ⟩ => ?_) fun ρ m' ⟨K', hr, o9, o10, o11, o12, eρ⟩ => ?_
  · obtain ⟨q, hq, rfl⟩ := List.mem_map.mp hd
    exact ⟨q, hq, rfl⟩
  · subst eρ
    obtain ⟨q, hq, rfl⟩ := hr d (by simp)
    have hr' : ∀ d ∈ rr, ∃ q ∈ p.pieces, d = pcD q := fun d hd => hr d (by simp [hd])
    have hq12 := (h.pc q hq).lm
    unfold LE
    simp -dsimp [isiD, binD, cmpD, partOf, biD, bl1, int1, lenD, asDct, asSeq, asLst, ixD, tyD, addD, slcD, pcD, asg, asgL, asSeq, b_law_21, rng1_ok (ok62_nat (show q.edges.length ≤ 1000000 by omega))]
    refine forL_inv (rangeD 0 q.edges.length) (InI p q o13 o14 o15 o16 o17 o18) _ _ ⟨K', fun d hd => ?_, o9, o12, rfl⟩ (fun d rr2 ρ m2 ⟨K2, hr2, o9, o12, eρ⟩ => ?_) fun ρ m2 ⟨K2, hr2, o9, o12, eρ⟩ => ?_
    · obtain ⟨k, hk, rfl⟩ := range_mem hd
      exact ⟨k, by omega, by simp⟩
    · subst eρ
      obtain ⟨k, hk, rfl⟩ := hr2 d (by simp)
      simp only [asg]
      exact lw_20 h hq hk K2 fun d hd => hr2 d (by simp [hd])
    · subst eρ
      exact lw_17 h hq K2 hr'
  · subst eρ
    exact lw_16 h hz h39 K'
end Pk

set_option Elab.async false
set_option linter.all false
set_option maxRecDepth 100000
set_option maxHeartbeats 400000
namespace Pk
open PySem PyD
variable {sub : Subs} {n b r : Nat} {v : D} {μ : Store} {Q : D → Store → Prop}
def SwI (p : Pt) (m0 : Store) (o10 o11 o12 o13 o14 o15 o16 o17 o18 : Option D) (rr : List D) (ρ : PyD.Env) (m : Store) : Prop := ∃ dn rs o9, rr = (rangeD 0 p.seams.length).drop dn.length ∧ dn ++ rs = p.seams ∧ ρ = LE p o9 o10 o11 o12 o13 o14 o15 o16 o17 o18 ∧ m = m0 ++ [.dct true (seamK dn) (seamV dn.length)]
theorem lw_25 {p : Pt} (h : PtOk p) (hz : NoZ p.pieces) (h39 : p.pieces.length ≤ 39) {m0 : Store} (c0 : Cln m0) (d0 : Dr 1 m0) (l0 : m0.length = 4) {o9 o10 o11 o12 o13 o14 o15 o16 o17 o18 : Option D} : wp (endOf (evS (PyD.run fns gc subK (n + 8)) gc subK b_law_25 (LE p o9 o10 o11 o12 o13 o14 o15 o16 o17 o18) (m0 ++ [.dct true [] []]))) fun d _ => d = D.bl true := by
  have hfew := h.few
  unfold LE
  simp -dsimp [isiD, binD, cmpD, partOf, biD, bl1, int1, lenD, asDct, asSeq, asLst, ixD, tyD, addD, slcD, b_law_25, rng1_ok (ok62_nat (show p.seams.length ≤ 1000000 by omega))]
  refine forL_inv (rangeD 0 p.seams.length) (SwI p m0 o10 o11 o12 o13 o14 o15 o16 o17 o18) _ _ ⟨[], p.seams, o9, rfl, rfl, rfl, rfl⟩ (fun d rr ρ m ⟨dn, rs, o9, er, ep, eρ, em⟩ => ?_) fun ρ m ⟨dn, rs, o9, er, ep, eρ, em⟩ => ?_
  · subst eρ em
    cases rs with
    | nil =>
      rw [List.append_nil] at ep
      have := congrArg List.length er
      rw [List.length_drop, range_length, List.length_cons, ep] at this
      omega
    | cons s rs =>
    have hdl2 : dn.length < p.seams.length := by rw [← ep]; simp
    have er2 : d = .int ((dn.length : Nat) : Int) ∧ rr = (rangeD 0 p.seams.length).drop (dn.length + 1) := by
      have hlen : dn.length < (rangeD 0 p.seams.length).length := by rw [range_length]; exact hdl2
      rw [List.drop_eq_getElem_cons hlen] at er
      simp only [List.cons.injEq] at er
      refine ⟨?_, er.2⟩
      rw [er.1]
      simp [rangeD_map]
    obtain ⟨rfl, rfl⟩ := er2
    obtain ⟨n1, n2⟩ := seam_new (dn := dn) (s := s) (rs := rs) (by rw [ep]; exact h.sm.nd)
    have hkl : (seamK dn).length = 2 * dn.length := by unfold seamK; rw [List.length_map]; unfold ends; exact flatE dn
    have ha : (p.seams.map smD)[dn.length]? = some (smD s) := by rw [← ep]; simp
    have ha2 : ∀ hh, (p.seams.map smD)[dn.length]'hh = smD s := fun hh => by rw [List.getElem?_eq_getElem hh] at ha; exact Option.some.inj ha
    have s1 : setD (.ref 4) (spotD s.one) (.int (dn.length : Nat)) (m0 ++ [.dct true (seamK dn) (seamV dn.length)]) = some (m0 ++ [.dct true (seamK dn ++ [spK s.one]) (seamV dn.length ++ [.int (dn.length : Nat)])]) := by
      have hl : (seamK dn).length < sizeLine := sl_lt (by omega)
      rw [← l0]
      simp [setD, hl, key_spot, put_new n1]
    have s2 : setD (.ref 4) (spotD s.other) (.int (dn.length : Nat)) (m0 ++ [.dct true (seamK dn ++ [spK s.one]) (seamV dn.length ++ [.int (dn.length : Nat)])]) = some (m0 ++ [.dct true (seamK (dn ++ [s])) (seamV (dn.length + 1))]) := by
      have hl : (seamK dn ++ [spK s.one]).length < sizeLine := sl_lt (by simp; omega)
      rw [← l0]
      simp only [setD, List.getElem?_append_right (Nat.le_refl _), Nat.sub_self, List.getElem?_cons_zero, hl, if_true, key_spot, Option.map_some, put_new n2]
      rw [seamK_snoc, seamV_snoc]
      simp
    have hE : ∀ o9, SwI p m0 o10 o11 o12 o13 o14 o15 o16 o17 o18 ((rangeD 0 p.seams.length).drop (dn.length + 1)) (LE p o9 o10 o11 o12 o13 o14 o15 o16 o17 o18) (m0 ++ [.dct true (seamK (dn ++ [s])) (seamV (dn.length + 1))]) := fun o9 => ⟨dn ++ [s], rs, o9, by simp, by simpa using ep, rfl, by simp⟩
    unfold LE at hE ⊢
    generalize p.seams.map smD = L at *
    simp -dsimp [isiD, binD, cmpD, partOf, biD, bl1, int1, lenD, asDct, asSeq, asLst, ixD, tyD, addD, slcD, asg, b_law_24, ha, ha2, hdl2, smD, s1, b_law_23, s2]
    exact hE _
  · subst eρ em
    have hrs : rs = [] := by
      have := congrArg List.length er
      rw [List.length_drop, range_length, List.length_nil, ← ep, List.length_append] at this
      exact List.eq_nil_of_length_eq_zero (by omega)
    subst hrs
    rw [List.append_nil] at ep
    subst ep
    exact lw_22 h hz h39 ⟨d0.app, c0.app (Cln.one (m := .dct true (seamK p.seams) (seamV p.seams.length)) (cln_seamV _)), by simp [l0], by rw [← l0]; simp⟩
theorem zz12 : ∀ x ∈ names12, x ≠ "zz" := by decide +kernel
theorem st30 {cl : Oracle} {gc : Consts} {sub : Subs} {o0 o1 o3 o4 o5 : Option D} {os : PyD.Env} {a c d : D} {REST : SX} : evS cl gc sub (.cons (.setT (.tp (.cons (.nm 3) (.cons (.nm 4) (.cons (.nm 5) .nil)))) (.var 2)) REST) (o0 :: o1 :: some (.tup [a, c, d]) :: o3 :: o4 :: o5 :: os) μ = evS cl gc sub REST (o0 :: o1 :: some (.tup [a, c, d]) :: some a :: some c :: some d :: os) μ := by
  simp -dsimp [isiD, binD, cmpD, partOf, biD, bl1, int1, lenD, asDct, asSeq, asLst, ixD, tyD, addD, slcD, asg, asgL, asSeq]
theorem st29 {cl : Oracle} {gc : Consts} {sub : Subs} {o0 o1 o2 o3 o4 o5 o6 o7 : Option D} {os : PyD.Env} {REST : SX} : evS cl gc sub (.cons (.par 6 7 (.lst (.cons (.bl true) (.cons (.bl false) (.cons (.bl false) (.cons (.bl false) (.cons (.bl false) .nil)))))) (.lst (.cons (.bl false) (.cons (.bl true) (.cons (.bl false) (.cons (.bl false) (.cons (.bl false) .nil))))))) REST) (o0 :: o1 :: o2 :: o3 :: o4 :: o5 :: o6 :: o7 :: os) μ = evS cl gc sub REST (o0 :: o1 :: o2 :: o3 :: o4 :: o5 :: some (flD flR) :: some (flD flT) :: os) μ := by
  have h5 : 5 ≤ sizeLine := sl_le (by omega)
  simp -dsimp [isiD, binD, cmpD, partOf, biD, bl1, int1, lenD, asDct, asSeq, asLst, ixD, tyD, addD, slcD, flD, flR, flT, h5]
theorem lw_30 {p : Pt} (h : PtOk p) (hz : NoZ p.pieces) (h39 : p.pieces.length ≤ 39) {μ2 : Store} (c2 : Cln μ2) (d2 : Dr 1 μ2) (l2 : μ2.length = 2) : wp (endOf (evS (PyD.run fns gc subK (n + 8)) gc subK b_law_30 [some (.ref 0), some (.ref 1), some (ptD p), none, none, none, none, none, none, none, none, none, none, none, none, none, none, none, none] μ2)) fun d _ => d = D.bl true := by
  have e1 : PyD.run fns gc subK (n + 8) "edges_of" [ptD p] μ2 = _ := s_edges_of (n := n + 1) (μ := μ2) h c2
  have k1 := keep_last c2 (cln_spots (spotsOf p.pieces))
  have hl1 : ((spotsOf p.pieces).map spotD).length < 100000 := by have := spots480 h; rw [List.length_map]; omega
  have a1 := app_last (μ := μ2) (y := .tup [.str "zz", .int 0]) hl1
  simp only [ptD] at e1
  have hu : ptD p = .tup [.tup (p.pieces.map pcD), .tup (p.seams.map smD), .int p.top] := rfl
  unfold b_law_30
  rw [hu, st30]
  unfold b_law_29
  rw [st29]
  simp -dsimp [isiD, binD, cmpD, partOf, biD, bl1, int1, lenD, asDct, asSeq, asLst, ixD, tyD, addD, slcD, b_law_28, e1, k1, pushO, a1]
  have c3 : Cln (μ2 ++ [M.lst ((spotsOf p.pieces).map spotD ++ [.tup [.str "zz", .int 0]])]) := c2.app (Cln.one (clns_app (cln_spots _) rfl))
  have d3 : Dr 1 (μ2 ++ [M.lst ((spotsOf p.pieces).map spotD ++ [.tup [.str "zz", .int 0]])]) := d2.app
  have l3 : (μ2 ++ [M.lst ((spotsOf p.pieces).map spotD ++ [.tup [.str "zz", .int 0]])]).length = 3 := by simp [l2]
  generalize μ2 ++ [M.lst ((spotsOf p.pieces).map spotD ++ [D.tup [.str "zz", .int 0]])] = μ3 at c3 d3 l3 ⊢
  have e2 : PyD.run fns gc subK (n + 8) "hems_of" [ptD p] μ3 = _ := s_hems_of (n := n + 1) h c3
  have k2 := keep_last c3 (cln_hems p)
  have hl2 : (hemsL p).length < 100000 := by
    have := spots480 h
    have h2 := List.length_filter_le (hemB p) (spotsOf p.pieces)
    unfold hemsL
    rw [List.length_map]
    omega
  have a2 := app_last (μ := μ3) (y := .tup [.str "zz", .int 0]) hl2
  simp only [ptD] at e2
  simp -dsimp [isiD, binD, cmpD, partOf, biD, bl1, int1, lenD, asDct, asSeq, asLst, ixD, tyD, addD, slcD, b_law_27, e2, k2, pushO, a2]
  have c4 : Cln (μ3 ++ [M.lst (hemsL p ++ [.tup [.str "zz", .int 0]])]) := c3.app (Cln.one (clns_app (cln_hems p) rfl))
  have d4 : Dr 1 (μ3 ++ [M.lst (hemsL p ++ [.tup [.str "zz", .int 0]])]) := d3.app
  have l4 : (μ3 ++ [M.lst (hemsL p ++ [.tup [.str "zz", .int 0]])]).length = 4 := by simp [l3]
  generalize μ3 ++ [M.lst (hemsL p ++ [D.tup [.str "zz", .int 0]])] = μ4 at c4 d4 l4 ⊢
  have last := lw_25 (n := n) h hz h39 c4 d4 l4 (o9 := none) (o10 := none) (o11 := none) (o12 := none) (o13 := none) (o14 := none) (o15 := none) (o16 := none) (o17 := none) (o18 := none)
  simp -dsimp [isiD, binD, cmpD, partOf, biD, bl1, int1, lenD, asDct, asSeq, asLst, ixD, tyD, addD, slcD, b_law_26, pushO, l4]
  exact last
theorem law_ok {ns : List Int} (hns : ns.length ≤ 63) (n : Nat) : wp (PyD.run fns gc subK (n + 9) "law" [.ref 0] [.ro (ns.map .int)]) fun d m => d = .bl true := by
  rw [run_succ (F := ⟨1, 19, b_law⟩) rfl rfl]
  simp -dsimp [isiD, binD, cmpD, partOf, biD, bl1, int1, lenD, asDct, asSeq, asLst, ixD, tyD, addD, slcD, b_law, b_law_32]
  refine s_draws (n := n + 7) hns fun d m xs ha => ?_
  rw [show after [M.ro (List.map D.int ns)].length true d m = _ from ha]
  have c0 : Cln [M.ro (ns.map .int), M.lst (xs.map .int)] := fun m hm => by
    simp only [List.mem_cons, List.not_mem_nil, or_false] at hm
    rcases hm with rfl | rfl <;> exact clns_ints _
  have d0 : Dr 1 [M.ro (ns.map .int), M.lst (xs.map .int)] := ⟨xs, rfl⟩
  simp -dsimp [isiD, binD, cmpD, partOf, biD, bl1, int1, lenD, asDct, asSeq, asLst, ixD, tyD, addD, slcD, pushO, b_law_31]
  have l0 : [M.ro (ns.map .int), M.lst (xs.map .int)].length = 2 := rfl
  generalize [M.ro (ns.map .int), M.lst (xs.map .int)] = μ0 at c0 d0 l0 ⊢
  refine s_take c0 d0 (by omega) fun i μ1 i0 i1 st1 => ?_
  simp only [aft_val st1]
  obtain ⟨i, rfl⟩ : ∃ j : Nat, i = (j : Int) := ⟨i.toNat, by omega⟩
  have ei : (1 : Int) + (i : Int) = ((1 + i : Nat) : Int) := by omega
  simp -dsimp [isiD, binD, cmpD, partOf, biD, bl1, int1, lenD, asDct, asSeq, asLst, ixD, tyD, addD, slcD, addD, ei, -Int.natCast_add]
  refine s_pattern (n := n + 3) (most := 8) st1.cl st1.dr (by omega) (by omega) (by omega) (by omega) fun p μ2 st2 h hmany _ hnms => ?_
  simp only [aft_val st2]
  simp -dsimp [isiD, binD, cmpD, partOf, biD, bl1, int1, lenD, asDct, asSeq, asLst, ixD, tyD, addD, slcD, ]
  exact lw_30 (n := n) h (fun q hq => zz12 _ (hnms q hq)) (by omega) st2.cl st2.dr (by rw [st2.len, st1.len, l0])
end Pk

set_option Elab.async false
set_option linter.all false
set_option maxRecDepth 100000
set_option maxHeartbeats 4000000
namespace Pk
open PySem PySem.Spec L2 PyD
def topS (i : Nat) : Stmt := PySem.Challenge.pw_hemstead_k02_edges_seams_and_lengths.main.body.getD i (.Pass ⟨0, 0, 0, 0⟩)
def m12 : Mod := { bn := ["len", "abs", "max", "min", "sum", "all", "any", "sorted", "list", "reversed", "int", "tuple", "dict", "isinstance", "bool", "str", "range", "zip", "enumerate", "set"], fs := tbl.map (·.1), ex := ["NotRight", "NotThere", "SeamError"], fl := [("_law_flags", ["NotRight", "NotThere", "NoAnswer", "TooLarge", "Malformed"])] }
theorem sc_is_name : FnScope ["value", "sign"] ["value"] (defScope (topS 10)) := ⟨rfl, rfl, rfl, by decide +kernel, rfl, by decide +kernel, by decide +kernel⟩
theorem ck_is_name : chkSs b_is_name (m12.cc ["value", "sign"] (defScope (topS 10))) (defBody (topS 10)) = true := by decide +kernel
theorem sc_are_ascending : FnScope ["values", "one", "other"] ["values"] (defScope (topS 11)) := ⟨rfl, rfl, rfl, by decide +kernel, rfl, by decide +kernel, by decide +kernel⟩
theorem ck_are_ascending : chkSs b_are_ascending (m12.cc ["values", "one", "other"] (defScope (topS 11))) (defBody (topS 11)) = true := by decide +kernel
theorem sc_is_within : FnScope ["value", "low", "high"] ["value", "low", "high"] (defScope (topS 12)) := ⟨rfl, rfl, rfl, by decide +kernel, rfl, by decide +kernel, by decide +kernel⟩
theorem ck_is_within : chkSs b_is_within (m12.cc ["value", "low", "high"] (defScope (topS 12))) (defBody (topS 12)) = true := by decide +kernel
theorem sc_is_edge : FnScope ["value", "base", "step", "angle"] ["value"] (defScope (topS 22)) := ⟨rfl, rfl, rfl, by decide +kernel, rfl, by decide +kernel, by decide +kernel⟩
theorem ck_is_edge : chkSs b_is_edge (m12.cc ["value", "base", "step", "angle"] (defScope (topS 22))) (defBody (topS 22)) = true := by decide +kernel
theorem sc_is_piece : FnScope ["value", "edges", "edge", "_", "angle"] ["value"] (defScope (topS 23)) := ⟨rfl, rfl, rfl, by decide +kernel, rfl, by decide +kernel, by decide +kernel⟩
theorem ck_is_piece : chkSs b_is_piece (m12.cc ["value", "edges", "edge", "_", "angle"] (defScope (topS 23))) (defBody (topS 23)) = true := by decide +kernel
theorem sc_is_spot : FnScope ["counts", "value"] ["counts", "value"] (defScope (topS 24)) := ⟨rfl, rfl, rfl, by decide +kernel, rfl, by decide +kernel, by decide +kernel⟩
theorem ck_is_spot : chkSs b_is_spot (m12.cc ["counts", "value"] (defScope (topS 24))) (defBody (topS 24)) = true := by decide +kernel
theorem sc_is_seam : FnScope ["counts", "value", "one", "other", "way", "ease"] ["counts", "value"] (defScope (topS 25)) := ⟨rfl, rfl, rfl, by decide +kernel, rfl, by decide +kernel, by decide +kernel⟩
theorem ck_is_seam : chkSs b_is_seam (m12.cc ["counts", "value", "one", "other", "way", "ease"] (defScope (topS 25))) (defBody (topS 25)) = true := by decide +kernel
theorem sc_are_seams : FnScope ["counts", "value", "used", "seam", "edge"] ["counts", "value"] (defScope (topS 26)) := ⟨rfl, rfl, rfl, by decide +kernel, rfl, by decide +kernel, by decide +kernel⟩
theorem ck_are_seams : chkSs b_are_seams (m12.cc ["counts", "value", "used", "seam", "edge"] (defScope (topS 26))) (defBody (topS 26)) = true := by decide +kernel
theorem sc_is_pattern : FnScope ["value", "pieces", "seams", "top", "piece", "name", "_", "edges", "base", "step", "size"] ["value"] (defScope (topS 27)) := ⟨rfl, rfl, rfl, by decide +kernel, rfl, by decide +kernel, by decide +kernel⟩
theorem ck_is_pattern : chkSs b_is_pattern (m12.cc ["value", "pieces", "seams", "top", "piece", "name", "_", "edges", "base", "step", "size"] (defScope (topS 27))) (defBody (topS 27)) = true := by decide +kernel
theorem sc_check_pattern : FnScope ["pattern"] ["pattern"] (defScope (topS 28)) := ⟨rfl, rfl, rfl, by decide +kernel, rfl, by decide +kernel, by decide +kernel⟩
theorem ck_check_pattern : chkSs b_check_pattern (m12.cc ["pattern"] (defScope (topS 28))) (defBody (topS 28)) = true := by decide +kernel
theorem sc_check_size : FnScope ["pattern", "size"] ["pattern", "size"] (defScope (topS 29)) := ⟨rfl, rfl, rfl, by decide +kernel, rfl, by decide +kernel, by decide +kernel⟩
theorem ck_check_size : chkSs b_check_size (m12.cc ["pattern", "size"] (defScope (topS 29))) (defBody (topS 29)) = true := by decide +kernel
theorem sc_check_seam : FnScope ["pattern", "number"] ["pattern", "number"] (defScope (topS 30)) := ⟨rfl, rfl, rfl, by decide +kernel, rfl, by decide +kernel, by decide +kernel⟩
theorem ck_check_seam : chkSs b_check_seam (m12.cc ["pattern", "number"] (defScope (topS 30))) (defBody (topS 30)) = true := by decide +kernel
theorem sc_all_edges : FnScope ["pattern", "name", "edges", "at"] ["pattern"] (defScope (topS 31)) := ⟨rfl, rfl, rfl, by decide +kernel, rfl, by decide +kernel, by decide +kernel⟩
theorem ck_all_edges : chkSs b_all_edges (m12.cc ["pattern", "name", "edges", "at"] (defScope (topS 31))) (defBody (topS 31)) = true := by decide +kernel
theorem sc_seams_by_edges : FnScope ["pattern", "found", "number", "one", "other", "_"] ["pattern"] (defScope (topS 32)) := ⟨rfl, rfl, rfl, by decide +kernel, rfl, by decide +kernel, by decide +kernel⟩
theorem ck_seams_by_edges : chkSs b_seams_by_edges (m12.cc ["pattern", "found", "number", "one", "other", "_"] (defScope (topS 32))) (defBody (topS 32)) = true := by decide +kernel
theorem sc_free_edges : FnScope ["pattern", "sewn", "edge"] ["pattern"] (defScope (topS 33)) := ⟨rfl, rfl, rfl, by decide +kernel, rfl, by decide +kernel, by decide +kernel⟩
theorem ck_free_edges : chkSs b_free_edges (m12.cc ["pattern", "sewn", "edge"] (defScope (topS 33))) (defBody (topS 33)) = true := by decide +kernel
theorem sc_check_edge : FnScope ["pattern", "edge"] ["pattern", "edge"] (defScope (topS 34)) := ⟨rfl, rfl, rfl, by decide +kernel, rfl, by decide +kernel, by decide +kernel⟩
theorem ck_check_edge : chkSs b_check_edge (m12.cc ["pattern", "edge"] (defScope (topS 34))) (defBody (topS 34)) = true := by decide +kernel
theorem sc_edges_of : FnScope ["pattern"] ["pattern"] (defScope (topS 35)) := ⟨rfl, rfl, rfl, by decide +kernel, rfl, by decide +kernel, by decide +kernel⟩
theorem ck_edges_of : chkSs b_edges_of (m12.cc ["pattern"] (defScope (topS 35))) (defBody (topS 35)) = true := by decide +kernel
theorem sc_hems_of : FnScope ["pattern"] ["pattern"] (defScope (topS 36)) := ⟨rfl, rfl, rfl, by decide +kernel, rfl, by decide +kernel, by decide +kernel⟩
theorem ck_hems_of : chkSs b_hems_of (m12.cc ["pattern"] (defScope (topS 36))) (defBody (topS 36)) = true := by decide +kernel
theorem sc_seam_at : FnScope ["pattern", "edge"] ["pattern", "edge"] (defScope (topS 37)) := ⟨rfl, rfl, rfl, by decide +kernel, rfl, by decide +kernel, by decide +kernel⟩
theorem ck_seam_at : chkSs b_seam_at (m12.cc ["pattern", "edge"] (defScope (topS 37))) (defBody (topS 37)) = true := by decide +kernel
theorem sc_long_in : FnScope ["pattern", "edge", "size", "base", "step", "_"] ["pattern", "edge", "size"] (defScope (topS 38)) := ⟨rfl, rfl, rfl, by decide +kernel, rfl, by decide +kernel, by decide +kernel⟩
theorem ck_long_in : chkSs b_long_in (m12.cc ["pattern", "edge", "size", "base", "step", "_"] (defScope (topS 38))) (defBody (topS 38)) = true := by decide +kernel
theorem sc_length_of : FnScope ["pattern", "edge", "size"] ["pattern", "edge", "size"] (defScope (topS 39)) := ⟨rfl, rfl, rfl, by decide +kernel, rfl, by decide +kernel, by decide +kernel⟩
theorem ck_length_of : chkSs b_length_of (m12.cc ["pattern", "edge", "size"] (defScope (topS 39))) (defBody (topS 39)) = true := by decide +kernel
theorem sc_does_fit : FnScope ["pattern", "number", "size", "one", "other", "_", "ease"] ["pattern", "number", "size"] (defScope (topS 40)) := ⟨rfl, rfl, rfl, by decide +kernel, rfl, by decide +kernel, by decide +kernel⟩
theorem ck_does_fit : chkSs b_does_fit (m12.cc ["pattern", "number", "size", "one", "other", "_", "ease"] (defScope (topS 40))) (defBody (topS 40)) = true := by decide +kernel
theorem sc_fits : FnScope ["pattern", "seam", "size"] ["pattern", "seam", "size"] (defScope (topS 41)) := ⟨rfl, rfl, rfl, by decide +kernel, rfl, by decide +kernel, by decide +kernel⟩
theorem ck_fits : chkSs b_fits (m12.cc ["pattern", "seam", "size"] (defScope (topS 41))) (defBody (topS 41)) = true := by decide +kernel
theorem sc_fit_sizes : FnScope ["pattern", "seam", "found", "size"] ["pattern", "seam"] (defScope (topS 42)) := ⟨rfl, rfl, rfl, by decide +kernel, rfl, by decide +kernel, by decide +kernel⟩
theorem ck_fit_sizes : chkSs b_fit_sizes (m12.cc ["pattern", "seam", "found", "size"] (defScope (topS 42))) (defBody (topS 42)) = true := by decide +kernel
theorem sc_misfits : FnScope ["pattern", "found", "number", "wrong", "size"] ["pattern"] (defScope (topS 43)) := ⟨rfl, rfl, rfl, by decide +kernel, rfl, by decide +kernel, by decide +kernel⟩
theorem ck_misfits : chkSs b_misfits (m12.cc ["pattern", "found", "number", "wrong", "size"] (defScope (topS 43))) (defBody (topS 43)) = true := by decide +kernel
theorem sc__law_draws : FnScope ["script", "draws", "seed", "cell", "number", "k"] ["script"] (defScope (topS 45)) := ⟨rfl, rfl, rfl, by decide +kernel, rfl, by decide +kernel, by decide +kernel⟩
theorem ck__law_draws : chkSs b_law_draws (m12.cc ["script", "draws", "seed", "cell", "number", "k"] (defScope (topS 45))) (defBody (topS 45)) = true := by decide +kernel
theorem sc__law_take : FnScope ["draws", "bound"] ["draws", "bound"] (defScope (topS 46)) := ⟨rfl, rfl, rfl, by decide +kernel, rfl, by decide +kernel, by decide +kernel⟩
theorem ck__law_take : chkSs b_law_take (m12.cc ["draws", "bound"] (defScope (topS 46))) (defBody (topS 46)) = true := by decide +kernel
theorem sc__law_pick : FnScope ["draws", "some"] ["draws", "some"] (defScope (topS 47)) := ⟨rfl, rfl, rfl, by decide +kernel, rfl, by decide +kernel, by decide +kernel⟩
theorem ck__law_pick : chkSs b_law_pick (m12.cc ["draws", "some"] (defScope (topS 47))) (defBody (topS 47)) = true := by decide +kernel
theorem sc__law_same : FnScope ["actual", "due", "k"] ["actual", "due"] (defScope (topS 48)) := ⟨rfl, rfl, rfl, by decide +kernel, rfl, by decide +kernel, by decide +kernel⟩
theorem ck__law_same : chkSs b_law_same (m12.cc ["actual", "due", "k"] (defScope (topS 48))) (defBody (topS 48)) = true := by decide +kernel
theorem sc__law_mixed : FnScope ["draws", "some", "left", "found", "k"] ["draws", "some"] (defScope (topS 50)) := ⟨rfl, rfl, rfl, by decide +kernel, rfl, by decide +kernel, by decide +kernel⟩
theorem ck__law_mixed : chkSs b_law_mixed (m12.cc ["draws", "some", "left", "found", "k"] (defScope (topS 50))) (defBody (topS 50)) = true := by decide +kernel
theorem sc__law_angles : FnScope ["draws", "count", "angles", "turn", "i", "j", "more"] ["draws", "count"] (defScope (topS 51)) := ⟨rfl, rfl, rfl, by decide +kernel, rfl, by decide +kernel, by decide +kernel⟩
theorem ck__law_angles : chkSs b_law_angles (m12.cc ["draws", "count", "angles", "turn", "i", "j", "more"] (defScope (topS 51))) (defBody (topS 51)) = true := by decide +kernel
theorem sc__law_edge : FnScope ["draws", "top", "angle", "step", "low"] ["draws", "top", "angle"] (defScope (topS 52)) := ⟨rfl, rfl, rfl, by decide +kernel, rfl, by decide +kernel, by decide +kernel⟩
theorem ck__law_edge : chkSs b_law_edge (m12.cc ["draws", "top", "angle", "step", "low"] (defScope (topS 52))) (defBody (topS 52)) = true := by decide +kernel
theorem sc__law_pieces : FnScope ["draws", "names", "most", "top", "pieces", "name", "count", "angles", "edges", "angle", "base", "step"] ["draws", "names", "most", "top"] (defScope (topS 53)) := ⟨rfl, rfl, rfl, by decide +kernel, rfl, by decide +kernel, by decide +kernel⟩
theorem ck__law_pieces : chkSs b_law_pieces (m12.cc ["draws", "names", "most", "top", "pieces", "name", "count", "angles", "edges", "angle", "base", "step"] (defScope (topS 53))) (defBody (topS 53)) = true := by decide +kernel
theorem sc__law_seams : FnScope ["draws", "pieces", "many", "edges", "name", "some", "found", "k", "one", "other"] ["draws", "pieces", "many"] (defScope (topS 54)) := ⟨rfl, rfl, rfl, by decide +kernel, rfl, by decide +kernel, by decide +kernel⟩
theorem ck__law_seams : chkSs b_law_seams (m12.cc ["draws", "pieces", "many", "edges", "name", "some", "found", "k", "one", "other"] (defScope (topS 54))) (defBody (topS 54)) = true := by decide +kernel
theorem sc__law_pattern : FnScope ["draws", "many", "most", "names", "top", "pieces"] ["draws", "many", "most"] (defScope (topS 55)) := ⟨rfl, rfl, rfl, by decide +kernel, rfl, by decide +kernel, by decide +kernel⟩
theorem ck__law_pattern : chkSs b_law_pattern (m12.cc ["draws", "many", "most", "names", "top", "pieces"] (defScope (topS 55))) (defBody (topS 55)) = true := by decide +kernel
theorem sc__law_told : FnScope ["which", "pattern", "edge", "size", "e"] ["which", "pattern", "edge", "size"] (defScope (topS 56)) := ⟨rfl, rfl, rfl, by decide +kernel, rfl, by decide +kernel, by decide +kernel⟩
theorem ck__law_told : chkSs b_law_told (m12.cc ["which", "pattern", "edge", "size", "e"] (defScope (topS 56))) (defBody (topS 56)) = true := by decide +kernel
theorem sc__law_bad : FnScope ["draws", "pattern", "pieces", "seams", "top", "name", "edges", "base", "step", "angle"] ["draws", "pattern"] (defScope (topS 57)) := ⟨rfl, rfl, rfl, by decide +kernel, rfl, by decide +kernel, by decide +kernel⟩
theorem ck__law_bad : chkSs b_law_bad (m12.cc ["draws", "pattern", "pieces", "seams", "top", "name", "edges", "base", "step", "angle"] (defScope (topS 57))) (defBody (topS 57)) = true := by decide +kernel
theorem sc_law : FnScope ["script", "draws", "pattern", "pieces", "seams", "top", "not_right", "not_there", "sewn", "k", "name", "edges", "size", "own", "edge", "number", "bad", "which", "due"] ["script"] (defScope (topS 58)) := ⟨rfl, rfl, rfl, by decide +kernel, rfl, by decide +kernel, by decide +kernel⟩
theorem ck_law : chkSs b_law (m12.cc ["script", "draws", "pattern", "pieces", "seams", "top", "not_right", "not_there", "sewn", "k", "name", "edges", "size", "own", "edge", "number", "bad", "which", "due"] (defScope (topS 58))) (defBody (topS 58)) = true := by decide +kernel
theorem sc_flag : FnScope ["e"] ["e"] (defScope (topS 49)) := ⟨rfl, rfl, rfl, by decide +kernel, rfl, by decide +kernel, by decide +kernel⟩
theorem ck_flag : flagBody { N := ["e"], sc := defScope (topS 49), fnb := fun _ => true, bn := m12.bn, fs := [], ex := [] } "e" ["NotRight", "NotThere", "NoAnswer", "TooLarge", "Malformed"] (defBody (topS 49)) = true := by decide +kernel
theorem all12 {l : PySem.W.OpenLaw} {w : World} {K : PySem.W.Frag} {h : Heap} {mg : Str → Option Value} {fa : Addr} (X : K.In h) (G : h.Ns mainGlobals mg) (hfa : mg "law" = some (.ref fa))
    {f0 : Addr} {od0 an0 : Option Addr} {sl0 : Array (Option Value)} {oc0 kV0 dc0 pm0 cd0 ct0 : Value} {f1 : Addr} {od1 an1 : Option Addr} {sl1 : Array (Option Value)} {oc1 kV1 dc1 pm1 cd1 ct1 : Value} {f2 : Addr} {od2 an2 : Option Addr} {sl2 : Array (Option Value)} {oc2 kV2 dc2 pm2 cd2 ct2 : Value} {f3 : Addr} {od3 an3 : Option Addr} {sl3 : Array (Option Value)} {oc3 kV3 dc3 pm3 cd3 ct3 : Value} {f4 : Addr} {od4 an4 : Option Addr} {sl4 : Array (Option Value)} {oc4 kV4 dc4 pm4 cd4 ct4 : Value} {f5 : Addr} {od5 an5 : Option Addr} {sl5 : Array (Option Value)} {oc5 kV5 dc5 pm5 cd5 ct5 : Value} {f6 : Addr} {od6 an6 : Option Addr} {sl6 : Array (Option Value)} {oc6 kV6 dc6 pm6 cd6 ct6 : Value} {f7 : Addr} {od7 an7 : Option Addr} {sl7 : Array (Option Value)} {oc7 kV7 dc7 pm7 cd7 ct7 : Value} {f8 : Addr} {od8 an8 : Option Addr} {sl8 : Array (Option Value)} {oc8 kV8 dc8 pm8 cd8 ct8 : Value} {f9 : Addr} {od9 an9 : Option Addr} {sl9 : Array (Option Value)} {oc9 kV9 dc9 pm9 cd9 ct9 : Value} {f10 : Addr} {od10 an10 : Option Addr} {sl10 : Array (Option Value)} {oc10 kV10 dc10 pm10 cd10 ct10 : Value} {f11 : Addr} {od11 an11 : Option Addr} {sl11 : Array (Option Value)} {oc11 kV11 dc11 pm11 cd11 ct11 : Value} {f12 : Addr} {od12 an12 : Option Addr} {sl12 : Array (Option Value)} {oc12 kV12 dc12 pm12 cd12 ct12 : Value} {f13 : Addr} {od13 an13 : Option Addr} {sl13 : Array (Option Value)} {oc13 kV13 dc13 pm13 cd13 ct13 : Value} {f14 : Addr} {od14 an14 : Option Addr} {sl14 : Array (Option Value)} {oc14 kV14 dc14 pm14 cd14 ct14 : Value} {f15 : Addr} {od15 an15 : Option Addr} {sl15 : Array (Option Value)} {oc15 kV15 dc15 pm15 cd15 ct15 : Value} {f16 : Addr} {od16 an16 : Option Addr} {sl16 : Array (Option Value)} {oc16 kV16 dc16 pm16 cd16 ct16 : Value} {f17 : Addr} {od17 an17 : Option Addr} {sl17 : Array (Option Value)} {oc17 kV17 dc17 pm17 cd17 ct17 : Value} {f18 : Addr} {od18 an18 : Option Addr} {sl18 : Array (Option Value)} {oc18 kV18 dc18 pm18 cd18 ct18 : Value} {f19 : Addr} {od19 an19 : Option Addr} {sl19 : Array (Option Value)} {oc19 kV19 dc19 pm19 cd19 ct19 : Value} {f20 : Addr} {od20 an20 : Option Addr} {sl20 : Array (Option Value)} {oc20 kV20 dc20 pm20 cd20 ct20 : Value} {f21 : Addr} {od21 an21 : Option Addr} {sl21 : Array (Option Value)} {oc21 kV21 dc21 pm21 cd21 ct21 : Value} {f22 : Addr} {od22 an22 : Option Addr} {sl22 : Array (Option Value)} {oc22 kV22 dc22 pm22 cd22 ct22 : Value} {f23 : Addr} {od23 an23 : Option Addr} {sl23 : Array (Option Value)} {oc23 kV23 dc23 pm23 cd23 ct23 : Value} {f24 : Addr} {od24 an24 : Option Addr} {sl24 : Array (Option Value)} {oc24 kV24 dc24 pm24 cd24 ct24 : Value} {f25 : Addr} {od25 an25 : Option Addr} {sl25 : Array (Option Value)} {oc25 kV25 dc25 pm25 cd25 ct25 : Value} {f26 : Addr} {od26 an26 : Option Addr} {sl26 : Array (Option Value)} {oc26 kV26 dc26 pm26 cd26 ct26 : Value} {f27 : Addr} {od27 an27 : Option Addr} {sl27 : Array (Option Value)} {oc27 kV27 dc27 pm27 cd27 ct27 : Value} {f28 : Addr} {od28 an28 : Option Addr} {sl28 : Array (Option Value)} {oc28 kV28 dc28 pm28 cd28 ct28 : Value} {f29 : Addr} {od29 an29 : Option Addr} {sl29 : Array (Option Value)} {oc29 kV29 dc29 pm29 cd29 ct29 : Value} {f30 : Addr} {od30 an30 : Option Addr} {sl30 : Array (Option Value)} {oc30 kV30 dc30 pm30 cd30 ct30 : Value} {f31 : Addr} {od31 an31 : Option Addr} {sl31 : Array (Option Value)} {oc31 kV31 dc31 pm31 cd31 ct31 : Value} {f32 : Addr} {od32 an32 : Option Addr} {sl32 : Array (Option Value)} {oc32 kV32 dc32 pm32 cd32 ct32 : Value} {f33 : Addr} {od33 an33 : Option Addr} {sl33 : Array (Option Value)} {oc33 kV33 dc33 pm33 cd33 ct33 : Value} {f34 : Addr} {od34 an34 : Option Addr} {sl34 : Array (Option Value)} {oc34 kV34 dc34 pm34 cd34 ct34 : Value} {f35 : Addr} {od35 an35 : Option Addr} {sl35 : Array (Option Value)} {oc35 kV35 dc35 pm35 cd35 ct35 : Value} {f36 : Addr} {od36 an36 : Option Addr} {sl36 : Array (Option Value)} {oc36 kV36 dc36 pm36 cd36 ct36 : Value} {f37 : Addr} {od37 an37 : Option Addr} {sl37 : Array (Option Value)} {oc37 kV37 dc37 pm37 cd37 ct37 : Value} {f38 : Addr} {od38 an38 : Option Addr} {sl38 : Array (Option Value)} {oc38 kV38 dc38 pm38 cd38 ct38 : Value} {t0 : Tok} {t1 : Tok} {t2 : Tok} {t3 : Tok} {t4 : Tok} {t5 : Tok} {t6 : Tok} {t7 : Tok} {t8 : Tok} {t9 : Tok} {t10 : Tok} {e0 : Addr} {e1 : Addr} {e2 : Addr} {e3 : Addr} {e4 : Addr} {e5 : Addr}
    (a0 : PySem.W.nsIn K mainGlobals "is_name" = some (some (.ref f0)))
    (l0 : K.lookup f0 = some ⟨oc0, od0, .func (PySem.W.fnOf "is_name" "is_name" (defArgs (topS 10)) (defBody (topS 10)) (defScope (topS 10)) .none kV0 dc0 pm0 an0 cd0 ct0), sl0⟩)
    (c0 : PySem.W.codeIn K cd0 "is_name" = true)
    (k0 : PySem.W.keepIn K (.ref f0) = true)
    (a1 : PySem.W.nsIn K mainGlobals "are_ascending" = some (some (.ref f1)))
    (l1 : K.lookup f1 = some ⟨oc1, od1, .func (PySem.W.fnOf "are_ascending" "are_ascending" (defArgs (topS 11)) (defBody (topS 11)) (defScope (topS 11)) .none kV1 dc1 pm1 an1 cd1 ct1), sl1⟩)
    (c1 : PySem.W.codeIn K cd1 "are_ascending" = true)
    (k1 : PySem.W.keepIn K (.ref f1) = true)
    (a2 : PySem.W.nsIn K mainGlobals "is_within" = some (some (.ref f2)))
    (l2 : K.lookup f2 = some ⟨oc2, od2, .func (PySem.W.fnOf "is_within" "is_within" (defArgs (topS 12)) (defBody (topS 12)) (defScope (topS 12)) .none kV2 dc2 pm2 an2 cd2 ct2), sl2⟩)
    (c2 : PySem.W.codeIn K cd2 "is_within" = true)
    (k2 : PySem.W.keepIn K (.ref f2) = true)
    (a3 : PySem.W.nsIn K mainGlobals "is_edge" = some (some (.ref f3)))
    (l3 : K.lookup f3 = some ⟨oc3, od3, .func (PySem.W.fnOf "is_edge" "is_edge" (defArgs (topS 22)) (defBody (topS 22)) (defScope (topS 22)) .none kV3 dc3 pm3 an3 cd3 ct3), sl3⟩)
    (c3 : PySem.W.codeIn K cd3 "is_edge" = true)
    (k3 : PySem.W.keepIn K (.ref f3) = true)
    (a4 : PySem.W.nsIn K mainGlobals "is_piece" = some (some (.ref f4)))
    (l4 : K.lookup f4 = some ⟨oc4, od4, .func (PySem.W.fnOf "is_piece" "is_piece" (defArgs (topS 23)) (defBody (topS 23)) (defScope (topS 23)) .none kV4 dc4 pm4 an4 cd4 ct4), sl4⟩)
    (c4 : PySem.W.codeIn K cd4 "is_piece" = true)
    (k4 : PySem.W.keepIn K (.ref f4) = true)
    (a5 : PySem.W.nsIn K mainGlobals "is_spot" = some (some (.ref f5)))
    (l5 : K.lookup f5 = some ⟨oc5, od5, .func (PySem.W.fnOf "is_spot" "is_spot" (defArgs (topS 24)) (defBody (topS 24)) (defScope (topS 24)) .none kV5 dc5 pm5 an5 cd5 ct5), sl5⟩)
    (c5 : PySem.W.codeIn K cd5 "is_spot" = true)
    (k5 : PySem.W.keepIn K (.ref f5) = true)
    (a6 : PySem.W.nsIn K mainGlobals "is_seam" = some (some (.ref f6)))
    (l6 : K.lookup f6 = some ⟨oc6, od6, .func (PySem.W.fnOf "is_seam" "is_seam" (defArgs (topS 25)) (defBody (topS 25)) (defScope (topS 25)) .none kV6 dc6 pm6 an6 cd6 ct6), sl6⟩)
    (c6 : PySem.W.codeIn K cd6 "is_seam" = true)
    (k6 : PySem.W.keepIn K (.ref f6) = true)
    (a7 : PySem.W.nsIn K mainGlobals "are_seams" = some (some (.ref f7)))
    (l7 : K.lookup f7 = some ⟨oc7, od7, .func (PySem.W.fnOf "are_seams" "are_seams" (defArgs (topS 26)) (defBody (topS 26)) (defScope (topS 26)) .none kV7 dc7 pm7 an7 cd7 ct7), sl7⟩)
    (c7 : PySem.W.codeIn K cd7 "are_seams" = true)
    (k7 : PySem.W.keepIn K (.ref f7) = true)
    (a8 : PySem.W.nsIn K mainGlobals "is_pattern" = some (some (.ref f8)))
    (l8 : K.lookup f8 = some ⟨oc8, od8, .func (PySem.W.fnOf "is_pattern" "is_pattern" (defArgs (topS 27)) (defBody (topS 27)) (defScope (topS 27)) .none kV8 dc8 pm8 an8 cd8 ct8), sl8⟩)
    (c8 : PySem.W.codeIn K cd8 "is_pattern" = true)
    (k8 : PySem.W.keepIn K (.ref f8) = true)
    (a9 : PySem.W.nsIn K mainGlobals "check_pattern" = some (some (.ref f9)))
    (l9 : K.lookup f9 = some ⟨oc9, od9, .func (PySem.W.fnOf "check_pattern" "check_pattern" (defArgs (topS 28)) (defBody (topS 28)) (defScope (topS 28)) .none kV9 dc9 pm9 an9 cd9 ct9), sl9⟩)
    (c9 : PySem.W.codeIn K cd9 "check_pattern" = true)
    (k9 : PySem.W.keepIn K (.ref f9) = true)
    (a10 : PySem.W.nsIn K mainGlobals "check_size" = some (some (.ref f10)))
    (l10 : K.lookup f10 = some ⟨oc10, od10, .func (PySem.W.fnOf "check_size" "check_size" (defArgs (topS 29)) (defBody (topS 29)) (defScope (topS 29)) .none kV10 dc10 pm10 an10 cd10 ct10), sl10⟩)
    (c10 : PySem.W.codeIn K cd10 "check_size" = true)
    (k10 : PySem.W.keepIn K (.ref f10) = true)
    (a11 : PySem.W.nsIn K mainGlobals "check_seam" = some (some (.ref f11)))
    (l11 : K.lookup f11 = some ⟨oc11, od11, .func (PySem.W.fnOf "check_seam" "check_seam" (defArgs (topS 30)) (defBody (topS 30)) (defScope (topS 30)) .none kV11 dc11 pm11 an11 cd11 ct11), sl11⟩)
    (c11 : PySem.W.codeIn K cd11 "check_seam" = true)
    (k11 : PySem.W.keepIn K (.ref f11) = true)
    (a12 : PySem.W.nsIn K mainGlobals "all_edges" = some (some (.ref f12)))
    (l12 : K.lookup f12 = some ⟨oc12, od12, .func (PySem.W.fnOf "all_edges" "all_edges" (defArgs (topS 31)) (defBody (topS 31)) (defScope (topS 31)) .none kV12 dc12 pm12 an12 cd12 ct12), sl12⟩)
    (c12 : PySem.W.codeIn K cd12 "all_edges" = true)
    (k12 : PySem.W.keepIn K (.ref f12) = true)
    (a13 : PySem.W.nsIn K mainGlobals "seams_by_edges" = some (some (.ref f13)))
    (l13 : K.lookup f13 = some ⟨oc13, od13, .func (PySem.W.fnOf "seams_by_edges" "seams_by_edges" (defArgs (topS 32)) (defBody (topS 32)) (defScope (topS 32)) .none kV13 dc13 pm13 an13 cd13 ct13), sl13⟩)
    (c13 : PySem.W.codeIn K cd13 "seams_by_edges" = true)
    (k13 : PySem.W.keepIn K (.ref f13) = true)
    (a14 : PySem.W.nsIn K mainGlobals "free_edges" = some (some (.ref f14)))
    (l14 : K.lookup f14 = some ⟨oc14, od14, .func (PySem.W.fnOf "free_edges" "free_edges" (defArgs (topS 33)) (defBody (topS 33)) (defScope (topS 33)) .none kV14 dc14 pm14 an14 cd14 ct14), sl14⟩)
    (c14 : PySem.W.codeIn K cd14 "free_edges" = true)
    (k14 : PySem.W.keepIn K (.ref f14) = true)
    (a15 : PySem.W.nsIn K mainGlobals "check_edge" = some (some (.ref f15)))
    (l15 : K.lookup f15 = some ⟨oc15, od15, .func (PySem.W.fnOf "check_edge" "check_edge" (defArgs (topS 34)) (defBody (topS 34)) (defScope (topS 34)) .none kV15 dc15 pm15 an15 cd15 ct15), sl15⟩)
    (c15 : PySem.W.codeIn K cd15 "check_edge" = true)
    (k15 : PySem.W.keepIn K (.ref f15) = true)
    (a16 : PySem.W.nsIn K mainGlobals "edges_of" = some (some (.ref f16)))
    (l16 : K.lookup f16 = some ⟨oc16, od16, .func (PySem.W.fnOf "edges_of" "edges_of" (defArgs (topS 35)) (defBody (topS 35)) (defScope (topS 35)) .none kV16 dc16 pm16 an16 cd16 ct16), sl16⟩)
    (c16 : PySem.W.codeIn K cd16 "edges_of" = true)
    (k16 : PySem.W.keepIn K (.ref f16) = true)
    (a17 : PySem.W.nsIn K mainGlobals "hems_of" = some (some (.ref f17)))
    (l17 : K.lookup f17 = some ⟨oc17, od17, .func (PySem.W.fnOf "hems_of" "hems_of" (defArgs (topS 36)) (defBody (topS 36)) (defScope (topS 36)) .none kV17 dc17 pm17 an17 cd17 ct17), sl17⟩)
    (c17 : PySem.W.codeIn K cd17 "hems_of" = true)
    (k17 : PySem.W.keepIn K (.ref f17) = true)
    (a18 : PySem.W.nsIn K mainGlobals "seam_at" = some (some (.ref f18)))
    (l18 : K.lookup f18 = some ⟨oc18, od18, .func (PySem.W.fnOf "seam_at" "seam_at" (defArgs (topS 37)) (defBody (topS 37)) (defScope (topS 37)) .none kV18 dc18 pm18 an18 cd18 ct18), sl18⟩)
    (c18 : PySem.W.codeIn K cd18 "seam_at" = true)
    (k18 : PySem.W.keepIn K (.ref f18) = true)
    (a19 : PySem.W.nsIn K mainGlobals "long_in" = some (some (.ref f19)))
    (l19 : K.lookup f19 = some ⟨oc19, od19, .func (PySem.W.fnOf "long_in" "long_in" (defArgs (topS 38)) (defBody (topS 38)) (defScope (topS 38)) .none kV19 dc19 pm19 an19 cd19 ct19), sl19⟩)
    (c19 : PySem.W.codeIn K cd19 "long_in" = true)
    (k19 : PySem.W.keepIn K (.ref f19) = true)
    (a20 : PySem.W.nsIn K mainGlobals "length_of" = some (some (.ref f20)))
    (l20 : K.lookup f20 = some ⟨oc20, od20, .func (PySem.W.fnOf "length_of" "length_of" (defArgs (topS 39)) (defBody (topS 39)) (defScope (topS 39)) .none kV20 dc20 pm20 an20 cd20 ct20), sl20⟩)
    (c20 : PySem.W.codeIn K cd20 "length_of" = true)
    (k20 : PySem.W.keepIn K (.ref f20) = true)
    (a21 : PySem.W.nsIn K mainGlobals "does_fit" = some (some (.ref f21)))
    (l21 : K.lookup f21 = some ⟨oc21, od21, .func (PySem.W.fnOf "does_fit" "does_fit" (defArgs (topS 40)) (defBody (topS 40)) (defScope (topS 40)) .none kV21 dc21 pm21 an21 cd21 ct21), sl21⟩)
    (c21 : PySem.W.codeIn K cd21 "does_fit" = true)
    (k21 : PySem.W.keepIn K (.ref f21) = true)
    (a22 : PySem.W.nsIn K mainGlobals "fits" = some (some (.ref f22)))
    (l22 : K.lookup f22 = some ⟨oc22, od22, .func (PySem.W.fnOf "fits" "fits" (defArgs (topS 41)) (defBody (topS 41)) (defScope (topS 41)) .none kV22 dc22 pm22 an22 cd22 ct22), sl22⟩)
    (c22 : PySem.W.codeIn K cd22 "fits" = true)
    (k22 : PySem.W.keepIn K (.ref f22) = true)
    (a23 : PySem.W.nsIn K mainGlobals "fit_sizes" = some (some (.ref f23)))
    (l23 : K.lookup f23 = some ⟨oc23, od23, .func (PySem.W.fnOf "fit_sizes" "fit_sizes" (defArgs (topS 42)) (defBody (topS 42)) (defScope (topS 42)) .none kV23 dc23 pm23 an23 cd23 ct23), sl23⟩)
    (c23 : PySem.W.codeIn K cd23 "fit_sizes" = true)
    (k23 : PySem.W.keepIn K (.ref f23) = true)
    (a24 : PySem.W.nsIn K mainGlobals "misfits" = some (some (.ref f24)))
    (l24 : K.lookup f24 = some ⟨oc24, od24, .func (PySem.W.fnOf "misfits" "misfits" (defArgs (topS 43)) (defBody (topS 43)) (defScope (topS 43)) .none kV24 dc24 pm24 an24 cd24 ct24), sl24⟩)
    (c24 : PySem.W.codeIn K cd24 "misfits" = true)
    (k24 : PySem.W.keepIn K (.ref f24) = true)
    (a25 : PySem.W.nsIn K mainGlobals "_law_draws" = some (some (.ref f25)))
    (l25 : K.lookup f25 = some ⟨oc25, od25, .func (PySem.W.fnOf "_law_draws" "_law_draws" (defArgs (topS 45)) (defBody (topS 45)) (defScope (topS 45)) .none kV25 dc25 pm25 an25 cd25 ct25), sl25⟩)
    (c25 : PySem.W.codeIn K cd25 "_law_draws" = true)
    (k25 : PySem.W.keepIn K (.ref f25) = true)
    (a26 : PySem.W.nsIn K mainGlobals "_law_take" = some (some (.ref f26)))
    (l26 : K.lookup f26 = some ⟨oc26, od26, .func (PySem.W.fnOf "_law_take" "_law_take" (defArgs (topS 46)) (defBody (topS 46)) (defScope (topS 46)) .none kV26 dc26 pm26 an26 cd26 ct26), sl26⟩)
    (c26 : PySem.W.codeIn K cd26 "_law_take" = true)
    (k26 : PySem.W.keepIn K (.ref f26) = true)
    (a27 : PySem.W.nsIn K mainGlobals "_law_pick" = some (some (.ref f27)))
    (l27 : K.lookup f27 = some ⟨oc27, od27, .func (PySem.W.fnOf "_law_pick" "_law_pick" (defArgs (topS 47)) (defBody (topS 47)) (defScope (topS 47)) .none kV27 dc27 pm27 an27 cd27 ct27), sl27⟩)
    (c27 : PySem.W.codeIn K cd27 "_law_pick" = true)
    (k27 : PySem.W.keepIn K (.ref f27) = true)
    (a28 : PySem.W.nsIn K mainGlobals "_law_same" = some (some (.ref f28)))
    (l28 : K.lookup f28 = some ⟨oc28, od28, .func (PySem.W.fnOf "_law_same" "_law_same" (defArgs (topS 48)) (defBody (topS 48)) (defScope (topS 48)) .none kV28 dc28 pm28 an28 cd28 ct28), sl28⟩)
    (c28 : PySem.W.codeIn K cd28 "_law_same" = true)
    (k28 : PySem.W.keepIn K (.ref f28) = true)
    (a29 : PySem.W.nsIn K mainGlobals "_law_mixed" = some (some (.ref f29)))
    (l29 : K.lookup f29 = some ⟨oc29, od29, .func (PySem.W.fnOf "_law_mixed" "_law_mixed" (defArgs (topS 50)) (defBody (topS 50)) (defScope (topS 50)) .none kV29 dc29 pm29 an29 cd29 ct29), sl29⟩)
    (c29 : PySem.W.codeIn K cd29 "_law_mixed" = true)
    (k29 : PySem.W.keepIn K (.ref f29) = true)
    (a30 : PySem.W.nsIn K mainGlobals "_law_angles" = some (some (.ref f30)))
    (l30 : K.lookup f30 = some ⟨oc30, od30, .func (PySem.W.fnOf "_law_angles" "_law_angles" (defArgs (topS 51)) (defBody (topS 51)) (defScope (topS 51)) .none kV30 dc30 pm30 an30 cd30 ct30), sl30⟩)
    (c30 : PySem.W.codeIn K cd30 "_law_angles" = true)
    (k30 : PySem.W.keepIn K (.ref f30) = true)
    (a31 : PySem.W.nsIn K mainGlobals "_law_edge" = some (some (.ref f31)))
    (l31 : K.lookup f31 = some ⟨oc31, od31, .func (PySem.W.fnOf "_law_edge" "_law_edge" (defArgs (topS 52)) (defBody (topS 52)) (defScope (topS 52)) .none kV31 dc31 pm31 an31 cd31 ct31), sl31⟩)
    (c31 : PySem.W.codeIn K cd31 "_law_edge" = true)
    (k31 : PySem.W.keepIn K (.ref f31) = true)
    (a32 : PySem.W.nsIn K mainGlobals "_law_pieces" = some (some (.ref f32)))
    (l32 : K.lookup f32 = some ⟨oc32, od32, .func (PySem.W.fnOf "_law_pieces" "_law_pieces" (defArgs (topS 53)) (defBody (topS 53)) (defScope (topS 53)) .none kV32 dc32 pm32 an32 cd32 ct32), sl32⟩)
    (c32 : PySem.W.codeIn K cd32 "_law_pieces" = true)
    (k32 : PySem.W.keepIn K (.ref f32) = true)
    (a33 : PySem.W.nsIn K mainGlobals "_law_seams" = some (some (.ref f33)))
    (l33 : K.lookup f33 = some ⟨oc33, od33, .func (PySem.W.fnOf "_law_seams" "_law_seams" (defArgs (topS 54)) (defBody (topS 54)) (defScope (topS 54)) .none kV33 dc33 pm33 an33 cd33 ct33), sl33⟩)
    (c33 : PySem.W.codeIn K cd33 "_law_seams" = true)
    (k33 : PySem.W.keepIn K (.ref f33) = true)
    (a34 : PySem.W.nsIn K mainGlobals "_law_pattern" = some (some (.ref f34)))
    (l34 : K.lookup f34 = some ⟨oc34, od34, .func (PySem.W.fnOf "_law_pattern" "_law_pattern" (defArgs (topS 55)) (defBody (topS 55)) (defScope (topS 55)) .none kV34 dc34 pm34 an34 cd34 ct34), sl34⟩)
    (c34 : PySem.W.codeIn K cd34 "_law_pattern" = true)
    (k34 : PySem.W.keepIn K (.ref f34) = true)
    (a35 : PySem.W.nsIn K mainGlobals "_law_told" = some (some (.ref f35)))
    (l35 : K.lookup f35 = some ⟨oc35, od35, .func (PySem.W.fnOf "_law_told" "_law_told" (defArgs (topS 56)) (defBody (topS 56)) (defScope (topS 56)) .none kV35 dc35 pm35 an35 cd35 ct35), sl35⟩)
    (c35 : PySem.W.codeIn K cd35 "_law_told" = true)
    (k35 : PySem.W.keepIn K (.ref f35) = true)
    (a36 : PySem.W.nsIn K mainGlobals "_law_bad" = some (some (.ref f36)))
    (l36 : K.lookup f36 = some ⟨oc36, od36, .func (PySem.W.fnOf "_law_bad" "_law_bad" (defArgs (topS 57)) (defBody (topS 57)) (defScope (topS 57)) .none kV36 dc36 pm36 an36 cd36 ct36), sl36⟩)
    (c36 : PySem.W.codeIn K cd36 "_law_bad" = true)
    (k36 : PySem.W.keepIn K (.ref f36) = true)
    (a37 : PySem.W.nsIn K mainGlobals "law" = some (some (.ref f37)))
    (l37 : K.lookup f37 = some ⟨oc37, od37, .func (PySem.W.fnOf "law" "law" (defArgs (topS 58)) (defBody (topS 58)) (defScope (topS 58)) .none kV37 dc37 pm37 an37 cd37 ct37), sl37⟩)
    (c37 : PySem.W.codeIn K cd37 "law" = true)
    (k37 : PySem.W.keepIn K (.ref f37) = true)
    (a38 : PySem.W.nsIn K mainGlobals "_law_flags" = some (some (.ref f38)))
    (l38 : K.lookup f38 = some ⟨oc38, od38, .func (PySem.W.fnOf "_law_flags" "_law_flags" (defArgs (topS 49)) (defBody (topS 49)) (defScope (topS 49)) .none kV38 dc38 pm38 an38 cd38 ct38), sl38⟩)
    (c38 : PySem.W.codeIn K cd38 "_law_flags" = true)
    (k38 : PySem.W.keepIn K (.ref f38) = true)
    (g0 : PySem.W.nsIn K mainGlobals "SMALL" = some (some (.str ("abcdefghijklmnopqrstuvwxyz" : Str) t0)))
    (g1 : PySem.W.nsIn K mainGlobals "FIGURES" = some (some (.str ("0123456789" : Str) t1)))
    (g2 : PySem.W.nsIn K mainGlobals "LONGEST" = some (some (.int (12) t2)))
    (g3 : PySem.W.nsIn K mainGlobals "EVEN" = some (some (.str ("even" : Str) t3)))
    (g4 : PySem.W.nsIn K mainGlobals "ODD" = some (some (.str ("odd" : Str) t4)))
    (g5 : PySem.W.nsIn K mainGlobals "HALF_TURN" = some (some (.int (180) t5)))
    (g6 : PySem.W.nsIn K mainGlobals "MOST_PIECES" = some (some (.int (40) t6)))
    (g7 : PySem.W.nsIn K mainGlobals "FEWEST_EDGES" = some (some (.int (3) t7)))
    (g8 : PySem.W.nsIn K mainGlobals "MOST_EDGES" = some (some (.int (12) t8)))
    (g9 : PySem.W.nsIn K mainGlobals "TOP_SIZE" = some (some (.int (60) t9)))
    (g10 : PySem.W.nsIn K mainGlobals "MOST_EASE" = some (some (.int (200) t10)))
    (z0 : PySem.W.nsIn K mainGlobals "len" = some none)
    (z1 : PySem.W.nsIn K mainGlobals "abs" = some none)
    (z2 : PySem.W.nsIn K mainGlobals "max" = some none)
    (z3 : PySem.W.nsIn K mainGlobals "min" = some none)
    (z4 : PySem.W.nsIn K mainGlobals "sum" = some none)
    (z5 : PySem.W.nsIn K mainGlobals "all" = some none)
    (z6 : PySem.W.nsIn K mainGlobals "any" = some none)
    (z7 : PySem.W.nsIn K mainGlobals "sorted" = some none)
    (z8 : PySem.W.nsIn K mainGlobals "list" = some none)
    (z9 : PySem.W.nsIn K mainGlobals "reversed" = some none)
    (z10 : PySem.W.nsIn K mainGlobals "int" = some none)
    (z11 : PySem.W.nsIn K mainGlobals "tuple" = some none)
    (z12 : PySem.W.nsIn K mainGlobals "dict" = some none)
    (z13 : PySem.W.nsIn K mainGlobals "isinstance" = some none)
    (z14 : PySem.W.nsIn K mainGlobals "bool" = some none)
    (z15 : PySem.W.nsIn K mainGlobals "str" = some none)
    (z16 : PySem.W.nsIn K mainGlobals "range" = some none)
    (z17 : PySem.W.nsIn K mainGlobals "zip" = some none)
    (z18 : PySem.W.nsIn K mainGlobals "enumerate" = some none)
    (z19 : PySem.W.nsIn K mainGlobals "set" = some none)
    (b0 : PySem.W.nsIn K mainGlobals "SeamError" = some (some (.ref e0)))
    (b1 : PySem.W.nsIn K mainGlobals "NotRight" = some (some (.ref e1)))
    (b2 : PySem.W.nsIn K mainGlobals "NotThere" = some (some (.ref e2)))
    (b3 : PySem.W.nsIn K mainGlobals "NoAnswer" = some (some (.ref e3)))
    (b4 : PySem.W.nsIn K mainGlobals "TooLarge" = some (some (.ref e4)))
    (b5 : PySem.W.nsIn K mainGlobals "Malformed" = some (some (.ref e5)))
    (xi1 : PySem.W.excIn K e1 [.type "ValueError", .type "Exception", .type "BaseException", .type "object"] "ValueError.__new__" = true)
    (xk1 : PySem.W.keepIn K (.ref e1) = true)
    (xs1 : PySem.W.subIn K (.ref e1) (.type "BaseException") = some true)
    (xt1 : PySem.W.typeIn K (.ref e1) = some (.type "type"))
    (xi2 : PySem.W.excIn K e2 [.type "ValueError", .type "Exception", .type "BaseException", .type "object"] "ValueError.__new__" = true)
    (xk2 : PySem.W.keepIn K (.ref e2) = true)
    (xs2 : PySem.W.subIn K (.ref e2) (.type "BaseException") = some true)
    (xt2 : PySem.W.typeIn K (.ref e2) = some (.type "type"))
    (xi0 : PySem.W.excIn K e0 [.type "ValueError", .type "Exception", .type "BaseException", .type "object"] "ValueError.__new__" = true)
    (xk0 : PySem.W.keepIn K (.ref e0) = true)
    (xs0 : PySem.W.subIn K (.ref e0) (.type "BaseException") = some true)
    (xt0 : PySem.W.typeIn K (.ref e0) = some (.type "type"))
    (xm1_0 : PySem.W.exmOne K (.ref e1) (.ref e0) = some true)
    (xm1_1 : PySem.W.exmOne K (.ref e1) (.ref e1) = some true)
    (xm1_2 : PySem.W.exmOne K (.ref e1) (.ref e2) = some false)
    (xm1_3 : PySem.W.exmOne K (.ref e1) (.ref e3) = some false)
    (xm1_4 : PySem.W.exmOne K (.ref e1) (.ref e4) = some false)
    (xm1_5 : PySem.W.exmOne K (.ref e1) (.ref e5) = some false)
    (hg1 : PySem.W.findIn K (.ref e1) "__getattribute__" = some (some (.builtin "BaseException.__getattribute__")))
    (hk1 : PySem.W.findIn K (.ref e1) "__getattr__" = some none)
    (hdd1 : PySem.W.hasDictIn K e1 = true)
    (ha1 : PySem.W.findIn K (.ref e1) "__class__" = some (some (.builtin "object.__class__")))
    (hm1 : PySem.W.mroIn K e1 (.type "object") = some true)
    (xq1_1 : PySem.W.kitOne K (.ref e1) (.ref e1) = some true)
    (xq1_2 : PySem.W.kitOne K (.ref e1) (.ref e2) = some false)
    (xq1_3 : PySem.W.kitOne K (.ref e1) (.ref e3) = some false)
    (xq1_4 : PySem.W.kitOne K (.ref e1) (.ref e4) = some false)
    (xq1_5 : PySem.W.kitOne K (.ref e1) (.ref e5) = some false)
    (xm2_0 : PySem.W.exmOne K (.ref e2) (.ref e0) = some true)
    (xm2_1 : PySem.W.exmOne K (.ref e2) (.ref e1) = some false)
    (xm2_2 : PySem.W.exmOne K (.ref e2) (.ref e2) = some true)
    (xm2_3 : PySem.W.exmOne K (.ref e2) (.ref e3) = some false)
    (xm2_4 : PySem.W.exmOne K (.ref e2) (.ref e4) = some false)
    (xm2_5 : PySem.W.exmOne K (.ref e2) (.ref e5) = some false)
    (hg2 : PySem.W.findIn K (.ref e2) "__getattribute__" = some (some (.builtin "BaseException.__getattribute__")))
    (hk2 : PySem.W.findIn K (.ref e2) "__getattr__" = some none)
    (hdd2 : PySem.W.hasDictIn K e2 = true)
    (ha2 : PySem.W.findIn K (.ref e2) "__class__" = some (some (.builtin "object.__class__")))
    (hm2 : PySem.W.mroIn K e2 (.type "object") = some true)
    (xq2_1 : PySem.W.kitOne K (.ref e2) (.ref e1) = some false)
    (xq2_2 : PySem.W.kitOne K (.ref e2) (.ref e2) = some true)
    (xq2_3 : PySem.W.kitOne K (.ref e2) (.ref e3) = some false)
    (xq2_4 : PySem.W.kitOne K (.ref e2) (.ref e4) = some false)
    (xq2_5 : PySem.W.kitOne K (.ref e2) (.ref e5) = some false)
    (hn : PySem.W.specialIn K (.builtin "object.__class__") "__get__" = some (some (.builtin "getset_descriptor.__get__")))
    (ht : PySem.W.takesIn K (.builtin "object.__class__") = some true)
    (nl : K.all notList = true) :
    ∃ fd : FuncData, (∀ (s : Shared) (v : Value), BindsTo s fd ⟨[v], []⟩ [("script", v)]) ∧ ∀ base : Heap, K.In base → base.Ns mainGlobals mg → FnOk l.prog w K mg base (L2.CX l.prog w) 14 fa fd ["script"] (PyD.spLaw K) := by
  have ds : ∀ p ∈ tbl, DefF K mg m12 p.1 p.2 :=
    (all_cons' (a := (("is_name" : Str), (⟨1, 2, b_is_name⟩ : Fn))) (def_mk X G a0 l0 c0 k0 sc_is_name rfl rfl ck_is_name fun _ _ _ _ _ _ us hl => match us, hl with | [_], _ => rfl)
    (all_cons' (a := (("are_ascending" : Str), (⟨1, 3, b_are_ascending⟩ : Fn))) (def_mk X G a1 l1 c1 k1 sc_are_ascending rfl rfl ck_are_ascending fun _ _ _ _ _ _ us hl => match us, hl with | [_], _ => rfl)
    (all_cons' (a := (("is_within" : Str), (⟨3, 3, b_is_within⟩ : Fn))) (def_mk X G a2 l2 c2 k2 sc_is_within rfl rfl ck_is_within fun _ _ _ _ _ _ us hl => match us, hl with | [_, _, _], _ => rfl)
    (all_cons' (a := (("is_edge" : Str), (⟨1, 4, b_is_edge⟩ : Fn))) (def_mk X G a3 l3 c3 k3 sc_is_edge rfl rfl ck_is_edge fun _ _ _ _ _ _ us hl => match us, hl with | [_], _ => rfl)
    (all_cons' (a := (("is_piece" : Str), (⟨1, 5, b_is_piece⟩ : Fn))) (def_mk X G a4 l4 c4 k4 sc_is_piece rfl rfl ck_is_piece fun _ _ _ _ _ _ us hl => match us, hl with | [_], _ => rfl)
    (all_cons' (a := (("is_spot" : Str), (⟨2, 2, b_is_spot⟩ : Fn))) (def_mk X G a5 l5 c5 k5 sc_is_spot rfl rfl ck_is_spot fun _ _ _ _ _ _ us hl => match us, hl with | [_, _], _ => rfl)
    (all_cons' (a := (("is_seam" : Str), (⟨2, 6, b_is_seam⟩ : Fn))) (def_mk X G a6 l6 c6 k6 sc_is_seam rfl rfl ck_is_seam fun _ _ _ _ _ _ us hl => match us, hl with | [_, _], _ => rfl)
    (all_cons' (a := (("are_seams" : Str), (⟨2, 5, b_are_seams⟩ : Fn))) (def_mk X G a7 l7 c7 k7 sc_are_seams rfl rfl ck_are_seams fun _ _ _ _ _ _ us hl => match us, hl with | [_, _], _ => rfl)
    (all_cons' (a := (("is_pattern" : Str), (⟨1, 11, b_is_pattern⟩ : Fn))) (def_mk X G a8 l8 c8 k8 sc_is_pattern rfl rfl ck_is_pattern fun _ _ _ _ _ _ us hl => match us, hl with | [_], _ => rfl)
    (all_cons' (a := (("check_pattern" : Str), (⟨1, 1, b_check_pattern⟩ : Fn))) (def_mk X G a9 l9 c9 k9 sc_check_pattern rfl rfl ck_check_pattern fun _ _ _ _ _ _ us hl => match us, hl with | [_], _ => rfl)
    (all_cons' (a := (("check_size" : Str), (⟨2, 2, b_check_size⟩ : Fn))) (def_mk X G a10 l10 c10 k10 sc_check_size rfl rfl ck_check_size fun _ _ _ _ _ _ us hl => match us, hl with | [_, _], _ => rfl)
    (all_cons' (a := (("check_seam" : Str), (⟨2, 2, b_check_seam⟩ : Fn))) (def_mk X G a11 l11 c11 k11 sc_check_seam rfl rfl ck_check_seam fun _ _ _ _ _ _ us hl => match us, hl with | [_, _], _ => rfl)
    (all_cons' (a := (("all_edges" : Str), (⟨1, 4, b_all_edges⟩ : Fn))) (def_mk X G a12 l12 c12 k12 sc_all_edges rfl rfl ck_all_edges fun _ _ _ _ _ _ us hl => match us, hl with | [_], _ => rfl)
    (all_cons' (a := (("seams_by_edges" : Str), (⟨1, 6, b_seams_by_edges⟩ : Fn))) (def_mk X G a13 l13 c13 k13 sc_seams_by_edges rfl rfl ck_seams_by_edges fun _ _ _ _ _ _ us hl => match us, hl with | [_], _ => rfl)
    (all_cons' (a := (("free_edges" : Str), (⟨1, 3, b_free_edges⟩ : Fn))) (def_mk X G a14 l14 c14 k14 sc_free_edges rfl rfl ck_free_edges fun _ _ _ _ _ _ us hl => match us, hl with | [_], _ => rfl)
    (all_cons' (a := (("check_edge" : Str), (⟨2, 2, b_check_edge⟩ : Fn))) (def_mk X G a15 l15 c15 k15 sc_check_edge rfl rfl ck_check_edge fun _ _ _ _ _ _ us hl => match us, hl with | [_, _], _ => rfl)
    (all_cons' (a := (("edges_of" : Str), (⟨1, 1, b_edges_of⟩ : Fn))) (def_mk X G a16 l16 c16 k16 sc_edges_of rfl rfl ck_edges_of fun _ _ _ _ _ _ us hl => match us, hl with | [_], _ => rfl)
    (all_cons' (a := (("hems_of" : Str), (⟨1, 1, b_hems_of⟩ : Fn))) (def_mk X G a17 l17 c17 k17 sc_hems_of rfl rfl ck_hems_of fun _ _ _ _ _ _ us hl => match us, hl with | [_], _ => rfl)
    (all_cons' (a := (("seam_at" : Str), (⟨2, 2, b_seam_at⟩ : Fn))) (def_mk X G a18 l18 c18 k18 sc_seam_at rfl rfl ck_seam_at fun _ _ _ _ _ _ us hl => match us, hl with | [_, _], _ => rfl)
    (all_cons' (a := (("long_in" : Str), (⟨3, 6, b_long_in⟩ : Fn))) (def_mk X G a19 l19 c19 k19 sc_long_in rfl rfl ck_long_in fun _ _ _ _ _ _ us hl => match us, hl with | [_, _, _], _ => rfl)
    (all_cons' (a := (("length_of" : Str), (⟨3, 3, b_length_of⟩ : Fn))) (def_mk X G a20 l20 c20 k20 sc_length_of rfl rfl ck_length_of fun _ _ _ _ _ _ us hl => match us, hl with | [_, _, _], _ => rfl)
    (all_cons' (a := (("does_fit" : Str), (⟨3, 7, b_does_fit⟩ : Fn))) (def_mk X G a21 l21 c21 k21 sc_does_fit rfl rfl ck_does_fit fun _ _ _ _ _ _ us hl => match us, hl with | [_, _, _], _ => rfl)
    (all_cons' (a := (("fits" : Str), (⟨3, 3, b_fits⟩ : Fn))) (def_mk X G a22 l22 c22 k22 sc_fits rfl rfl ck_fits fun _ _ _ _ _ _ us hl => match us, hl with | [_, _, _], _ => rfl)
    (all_cons' (a := (("fit_sizes" : Str), (⟨2, 4, b_fit_sizes⟩ : Fn))) (def_mk X G a23 l23 c23 k23 sc_fit_sizes rfl rfl ck_fit_sizes fun _ _ _ _ _ _ us hl => match us, hl with | [_, _], _ => rfl)
    (all_cons' (a := (("misfits" : Str), (⟨1, 5, b_misfits⟩ : Fn))) (def_mk X G a24 l24 c24 k24 sc_misfits rfl rfl ck_misfits fun _ _ _ _ _ _ us hl => match us, hl with | [_], _ => rfl)
    (all_cons' (a := (("_law_draws" : Str), (⟨1, 6, b_law_draws⟩ : Fn))) (def_mk X G a25 l25 c25 k25 sc__law_draws rfl rfl ck__law_draws fun _ _ _ _ _ _ us hl => match us, hl with | [_], _ => rfl)
    (all_cons' (a := (("_law_take" : Str), (⟨2, 2, b_law_take⟩ : Fn))) (def_mk X G a26 l26 c26 k26 sc__law_take rfl rfl ck__law_take fun _ _ _ _ _ _ us hl => match us, hl with | [_, _], _ => rfl)
    (all_cons' (a := (("_law_pick" : Str), (⟨2, 2, b_law_pick⟩ : Fn))) (def_mk X G a27 l27 c27 k27 sc__law_pick rfl rfl ck__law_pick fun _ _ _ _ _ _ us hl => match us, hl with | [_, _], _ => rfl)
    (all_cons' (a := (("_law_same" : Str), (⟨2, 3, b_law_same⟩ : Fn))) (def_mk X G a28 l28 c28 k28 sc__law_same rfl rfl ck__law_same fun _ _ _ _ _ _ us hl => match us, hl with | [_, _], _ => rfl)
    (all_cons' (a := (("_law_mixed" : Str), (⟨2, 5, b_law_mixed⟩ : Fn))) (def_mk X G a29 l29 c29 k29 sc__law_mixed rfl rfl ck__law_mixed fun _ _ _ _ _ _ us hl => match us, hl with | [_, _], _ => rfl)
    (all_cons' (a := (("_law_angles" : Str), (⟨2, 7, b_law_angles⟩ : Fn))) (def_mk X G a30 l30 c30 k30 sc__law_angles rfl rfl ck__law_angles fun _ _ _ _ _ _ us hl => match us, hl with | [_, _], _ => rfl)
    (all_cons' (a := (("_law_edge" : Str), (⟨3, 5, b_law_edge⟩ : Fn))) (def_mk X G a31 l31 c31 k31 sc__law_edge rfl rfl ck__law_edge fun _ _ _ _ _ _ us hl => match us, hl with | [_, _, _], _ => rfl)
    (all_cons' (a := (("_law_pieces" : Str), (⟨4, 12, b_law_pieces⟩ : Fn))) (def_mk X G a32 l32 c32 k32 sc__law_pieces rfl rfl ck__law_pieces fun _ _ _ _ _ _ us hl => match us, hl with | [_, _, _, _], _ => rfl)
    (all_cons' (a := (("_law_seams" : Str), (⟨3, 10, b_law_seams⟩ : Fn))) (def_mk X G a33 l33 c33 k33 sc__law_seams rfl rfl ck__law_seams fun _ _ _ _ _ _ us hl => match us, hl with | [_, _, _], _ => rfl)
    (all_cons' (a := (("_law_pattern" : Str), (⟨3, 6, b_law_pattern⟩ : Fn))) (def_mk X G a34 l34 c34 k34 sc__law_pattern rfl rfl ck__law_pattern fun _ _ _ _ _ _ us hl => match us, hl with | [_, _, _], _ => rfl)
    (all_cons' (a := (("_law_told" : Str), (⟨4, 5, b_law_told⟩ : Fn))) (def_mk X G a35 l35 c35 k35 sc__law_told rfl rfl ck__law_told fun _ _ _ _ _ _ us hl => match us, hl with | [_, _, _, _], _ => rfl)
    (all_cons' (a := (("_law_bad" : Str), (⟨2, 10, b_law_bad⟩ : Fn))) (def_mk X G a36 l36 c36 k36 sc__law_bad rfl rfl ck__law_bad fun _ _ _ _ _ _ us hl => match us, hl with | [_, _], _ => rfl)
    (all_cons' (a := (("law" : Str), (⟨1, 19, b_law⟩ : Fn))) (def_mk X G a37 l37 c37 k37 sc_law rfl rfl ck_law fun _ _ _ _ _ _ us hl => match us, hl with | [_], _ => rfl)
    all_nil'))))))))))))))))))))))))))))))))))))))
  have hbn : ∀ b ∈ m12.bn, mg b = none := all_cons' (PySem.W.mg_none_of X G z0) (all_cons' (PySem.W.mg_none_of X G z1) (all_cons' (PySem.W.mg_none_of X G z2) (all_cons' (PySem.W.mg_none_of X G z3) (all_cons' (PySem.W.mg_none_of X G z4) (all_cons' (PySem.W.mg_none_of X G z5) (all_cons' (PySem.W.mg_none_of X G z6) (all_cons' (PySem.W.mg_none_of X G z7) (all_cons' (PySem.W.mg_none_of X G z8) (all_cons' (PySem.W.mg_none_of X G z9) (all_cons' (PySem.W.mg_none_of X G z10) (all_cons' (PySem.W.mg_none_of X G z11) (all_cons' (PySem.W.mg_none_of X G z12) (all_cons' (PySem.W.mg_none_of X G z13) (all_cons' (PySem.W.mg_none_of X G z14) (all_cons' (PySem.W.mg_none_of X G z15) (all_cons' (PySem.W.mg_none_of X G z16) (all_cons' (PySem.W.mg_none_of X G z17) (all_cons' (PySem.W.mg_none_of X G z18) (all_cons' (PySem.W.mg_none_of X G z19) (all_nil'))))))))))))))))))))
  have hg0 : ∀ p ∈ ctbl, ∃ u v, mg p.1 = some u ∧ RelV v u ∧ ∀ (B : List Addr) (H : Hp) (ι : List Addr), Rep ((⟨K, mg, []⟩ : PyD.G).b B) H ι p.2 v := all_cons' ⟨_, .str _, PySem.W.mg_of X G g0, ⟨_, rfl⟩, fun _ _ _ => .str _⟩ (all_cons' ⟨_, .str _, PySem.W.mg_of X G g1, ⟨_, rfl⟩, fun _ _ _ => .str _⟩ (all_cons' ⟨_, .int _, PySem.W.mg_of X G g2, ⟨_, rfl⟩, fun _ _ _ => .int _⟩ (all_cons' ⟨_, .str _, PySem.W.mg_of X G g3, ⟨_, rfl⟩, fun _ _ _ => .str _⟩ (all_cons' ⟨_, .str _, PySem.W.mg_of X G g4, ⟨_, rfl⟩, fun _ _ _ => .str _⟩ (all_cons' ⟨_, .int _, PySem.W.mg_of X G g5, ⟨_, rfl⟩, fun _ _ _ => .int _⟩ (all_cons' ⟨_, .int _, PySem.W.mg_of X G g6, ⟨_, rfl⟩, fun _ _ _ => .int _⟩ (all_cons' ⟨_, .int _, PySem.W.mg_of X G g7, ⟨_, rfl⟩, fun _ _ _ => .int _⟩ (all_cons' ⟨_, .int _, PySem.W.mg_of X G g8, ⟨_, rfl⟩, fun _ _ _ => .int _⟩ (all_cons' ⟨_, .int _, PySem.W.mg_of X G g9, ⟨_, rfl⟩, fun _ _ _ => .int _⟩ (all_cons' ⟨_, .int _, PySem.W.mg_of X G g10, ⟨_, rfl⟩, fun _ _ _ => .int _⟩ (all_nil')))))))))))
  have hgc : ∀ x d, gc x = some d → ∃ u v, mg x = some u ∧ RelV v u ∧ ∀ (B : List Addr) (H : Hp) (ι : List Addr), Rep ((⟨K, mg, []⟩ : PyD.G).b B) H ι d v := fun x d e => hg0 (x, d) (lookup_mem e)
  have hfs : ∀ f ∈ m12.fs, (fns f).isSome = true := by decide +kernel
  have hd : ∀ f F, fns f = some F → DefF K mg m12 f F := fun f F e => ds (f, F) (lookup_mem e)
  have mb0 := PySem.W.mg_of X G b0
  have mb1 := PySem.W.mg_of X G b1
  have mb2 := PySem.W.mg_of X G b2
  have mb3 := PySem.W.mg_of X G b3
  have mb4 := PySem.W.mg_of X G b4
  have mb5 := PySem.W.mg_of X G b5
  have hex : ∀ x ∈ m12.ex, ExcF (⟨K, mg, []⟩ : PyD.G) x := all_cons' ⟨e1, _, _, _, _, PySem.F.excBase_ValueError, xi1, mb1, xk1, xs1, xt1⟩ (all_cons' ⟨e2, _, _, _, _, PySem.F.excBase_ValueError, xi2, mb2, xk2, xs2, xt2⟩ (all_cons' ⟨e0, _, _, _, _, PySem.F.excBase_ValueError, xi0, mb0, xk0, xs0, xt0⟩ (all_nil')))
  have C1 : ExcC K e1 := ⟨hg1, hk1, xs1, hdd1, ha1, hn, ht, hm1⟩
  have C2 : ExcC K e2 := ⟨hg2, hk2, xs2, hdd2, ha2, hn, ht, hm2⟩
  have hflag : ∀ f cs, (f, cs) ∈ m12.fl → FlagOk (⟨K, mg, []⟩ : PyD.G) subK m12.bn f cs := fun f cs hm => by
    have e1 : (f, cs) = (("_law_flags" : Str), (["NotRight", "NotThere", "NoAnswer", "TooLarge", "Malformed"] : List Str)) := List.mem_singleton.mp hm
    cases e1
    refine ⟨⟨f38, _, "e", "_law_flags", topS 49, PySem.W.mg_of X G a38, k38, (fun_mk l38 c38 k38).binds fun _ _ _ _ _ _ us hl => match us, hl with | [_], _ => rfl, fun_mk l38 c38 k38, sc_flag, by decide +kernel, by decide +kernel, ck_flag⟩, fun x bs cv hb hcv => ?_⟩
    have hx : x = "NotRight" ∨ x = "NotThere" := by
      by_cases q0 : x = "NotRight"
      · exact .inl q0
      ·
        by_cases q1 : x = "NotThere"
        · exact .inr (q1)
        · exfalso; simp [flagsOf, subK, q0, q1] at hb
    rcases hx with rfl | rfl
    · rw [sub_fr] at hb
      cases hb
      have hcv : mg "NotRight" = some cv := hcv
      rw [mb1] at hcv
      cases hcv
      exact ⟨e1, rfl, C1, ⟨_, mb1, xq1_1⟩, ⟨_, mb2, xq1_2⟩, ⟨_, mb3, xq1_3⟩, ⟨_, mb4, xq1_4⟩, ⟨_, mb5, xq1_5⟩, trivial⟩
    · rw [sub_ft] at hb
      cases hb
      have hcv : mg "NotThere" = some cv := hcv
      rw [mb2] at hcv
      cases hcv
      exact ⟨e2, rfl, C2, ⟨_, mb1, xq2_1⟩, ⟨_, mb2, xq2_2⟩, ⟨_, mb3, xq2_3⟩, ⟨_, mb4, xq2_4⟩, ⟨_, mb5, xq2_5⟩, trivial⟩
  have hsub : ∀ x c b, subK x c = some b → ∀ xv cv, mg x = some xv → mg c = some cv → PySem.W.exmOne K xv cv = some b := fun x c b hb xv cv h1 h2 => by
    have hx : x = "NotRight" ∨ x = "NotThere" := by
      by_cases q0 : x = "NotRight"
      · exact .inl q0
      ·
        by_cases q1 : x = "NotThere"
        · exact .inr (q1)
        · exfalso; simp [subK, q0, q1] at hb
    rcases hx with rfl | rfl
    · rw [mb1] at h1
      cases h1
      have := lookup_mem (show ([("SeamError", true), ("NotRight", true), ("NotThere", false), ("NoAnswer", false), ("TooLarge", false), ("Malformed", false)] : List (Str × Bool)).lookup c = some b from hb)
      simp only [List.mem_cons, List.not_mem_nil, or_false, Prod.mk.injEq] at this
      rcases this with ⟨rfl, rfl⟩ | ⟨rfl, rfl⟩ | ⟨rfl, rfl⟩ | ⟨rfl, rfl⟩ | ⟨rfl, rfl⟩ | ⟨rfl, rfl⟩
      · rw [mb0] at h2; cases h2; exact xm1_0
      · rw [mb1] at h2; cases h2; exact xm1_1
      · rw [mb2] at h2; cases h2; exact xm1_2
      · rw [mb3] at h2; cases h2; exact xm1_3
      · rw [mb4] at h2; cases h2; exact xm1_4
      · rw [mb5] at h2; cases h2; exact xm1_5
    · rw [mb2] at h1
      cases h1
      have := lookup_mem (show ([("SeamError", true), ("NotRight", false), ("NotThere", true), ("NoAnswer", false), ("TooLarge", false), ("Malformed", false)] : List (Str × Bool)).lookup c = some b from hb)
      simp only [List.mem_cons, List.not_mem_nil, or_false, Prod.mk.injEq] at this
      rcases this with ⟨rfl, rfl⟩ | ⟨rfl, rfl⟩ | ⟨rfl, rfl⟩ | ⟨rfl, rfl⟩ | ⟨rfl, rfl⟩ | ⟨rfl, rfl⟩
      · rw [mb0] at h2; cases h2; exact xm2_0
      · rw [mb1] at h2; cases h2; exact xm2_1
      · rw [mb2] at h2; cases h2; exact xm2_2
      · rw [mb3] at h2; cases h2; exact xm2_3
      · rw [mb4] at h2; cases h2; exact xm2_4
      · rw [mb5] at h2; cases h2; exact xm2_5
  have e := hfa.symm.trans (PySem.W.mg_of X G a37)
  cases e
  have FL := fun_mk (st := topS 58) l37 c37 k37
  refine ⟨PySem.W.fnOf "law" "law" (defArgs (topS 58)) (defBody (topS 58)) (defScope (topS 58)) .none kV37 dc37 pm37 an37 cd37 ct37, fun s v => .of_eq rfl, fun base hb hns => ?_⟩
  have fc := defs_ok (P := l.prog) (w := w) (base := base) (g := ⟨K, mg, []⟩) (fns := fns) (gc := gc) (sub := subK) (m := m12) rfl rfl hd hbn hgc hfs hex hflag hsub 12
  have ok := def_fn (P := l.prog) (w := w) (base := base) (g := ⟨K, mg, []⟩) (fns := fns) (gc := gc) (sub := subK) (m := m12) (n := 12) rfl rfl fc hbn hgc hfs hex hflag hsub (f := "law") (F := ⟨1, 19, b_law⟩) rfl FL sc_law rfl rfl ck_law
  refine ok.imp (sp_of (K := K) (g := ⟨K, mg, []⟩) (cl := PyD.run fns gc subK 13) rfl rfl nl fun ns hns => ?_)
  have := law_ok (ns := ns) hns 4
  cases q : PyD.run fns gc subK 13 "law" [.ref 0] [.ro (ns.map .int)] with
  | ok d μ => rw [q] at this; exact ⟨μ, by rw [show d = D.bl true from this]⟩
  | _ => rw [q] at this; exact this.elim
end Pk
open PySem PySem.W PyProof.Rows
set_option maxHeartbeats 0 in
theorem PySem.Challenge.cw_hemstead_k02_edges_seams_and_lengths_holds : PySem.Challenge.rw_hemstead_k02_edges_seams_and_lengths.Holds := by
  w_on; o_law; k_head; (case hw => w_witness2)
  k_fill
  refine L2.walk_of (l := PySem.Challenge.rw_hemstead_k02_edges_seams_and_lengths) (n := 63) (k := 14) (x := "script") (CX := fun w => L2.CX PySem.Challenge.rw_hemstead_k02_edges_seams_and_lengths.prog w) (sp := fun w => PyD.spLaw _) rfl (by decide) rfl ⟨rfl, by decide, by decide⟩ (fun w h Y => PySem.W.kIn_of Y) ?F (fun _ _ a ns hl hO hS => ⟨a, ns, rfl, hO, hS, hl, fun _ => rfl⟩) (fun _ _ _ _ _ ⟨_, _, _, _, _, _, _, _, _, _, _, _, hE⟩ => hE)
  case F =>
    intro w mg fa h KX G hmg
    refine' Pk.all12 KX G hmg ?w_a0 ?w_l0 ?w_c0 ?w_k0 ?w_a1 ?w_l1 ?w_c1 ?w_k1 ?w_a2 ?w_l2 ?w_c2 ?w_k2 ?w_a3 ?w_l3 ?w_c3 ?w_k3 ?w_a4 ?w_l4 ?w_c4 ?w_k4 ?w_a5 ?w_l5 ?w_c5 ?w_k5 ?w_a6 ?w_l6 ?w_c6 ?w_k6 ?w_a7 ?w_l7 ?w_c7 ?w_k7 ?w_a8 ?w_l8 ?w_c8 ?w_k8 ?w_a9 ?w_l9 ?w_c9 ?w_k9 ?w_a10 ?w_l10 ?w_c10 ?w_k10 ?w_a11 ?w_l11 ?w_c11 ?w_k11 ?w_a12 ?w_l12 ?w_c12 ?w_k12 ?w_a13 ?w_l13 ?w_c13 ?w_k13 ?w_a14 ?w_l14 ?w_c14 ?w_k14 ?w_a15 ?w_l15 ?w_c15 ?w_k15 ?w_a16 ?w_l16 ?w_c16 ?w_k16 ?w_a17 ?w_l17 ?w_c17 ?w_k17 ?w_a18 ?w_l18 ?w_c18 ?w_k18 ?w_a19 ?w_l19 ?w_c19 ?w_k19 ?w_a20 ?w_l20 ?w_c20 ?w_k20 ?w_a21 ?w_l21 ?w_c21 ?w_k21 ?w_a22 ?w_l22 ?w_c22 ?w_k22 ?w_a23 ?w_l23 ?w_c23 ?w_k23 ?w_a24 ?w_l24 ?w_c24 ?w_k24 ?w_a25 ?w_l25 ?w_c25 ?w_k25 ?w_a26 ?w_l26 ?w_c26 ?w_k26 ?w_a27 ?w_l27 ?w_c27 ?w_k27 ?w_a28 ?w_l28 ?w_c28 ?w_k28 ?w_a29 ?w_l29 ?w_c29 ?w_k29 ?w_a30 ?w_l30 ?w_c30 ?w_k30 ?w_a31 ?w_l31 ?w_c31 ?w_k31 ?w_a32 ?w_l32 ?w_c32 ?w_k32 ?w_a33 ?w_l33 ?w_c33 ?w_k33 ?w_a34 ?w_l34 ?w_c34 ?w_k34 ?w_a35 ?w_l35 ?w_c35 ?w_k35 ?w_a36 ?w_l36 ?w_c36 ?w_k36 ?w_a37 ?w_l37 ?w_c37 ?w_k37 ?w_a38 ?w_l38 ?w_c38 ?w_k38 ?w_g0 ?w_g1 ?w_g2 ?w_g3 ?w_g4 ?w_g5 ?w_g6 ?w_g7 ?w_g8 ?w_g9 ?w_g10 ?w_z0 ?w_z1 ?w_z2 ?w_z3 ?w_z4 ?w_z5 ?w_z6 ?w_z7 ?w_z8 ?w_z9 ?w_z10 ?w_z11 ?w_z12 ?w_z13 ?w_z14 ?w_z15 ?w_z16 ?w_z17 ?w_z18 ?w_z19 ?w_b0 ?w_b1 ?w_b2 ?w_b3 ?w_b4 ?w_b5 ?w_xi1 ?w_xk1 ?w_xs1 ?w_xt1 ?w_xi2 ?w_xk2 ?w_xs2 ?w_xt2 ?w_xi0 ?w_xk0 ?w_xs0 ?w_xt0 ?w_xm1_0 ?w_xm1_1 ?w_xm1_2 ?w_xm1_3 ?w_xm1_4 ?w_xm1_5 ?w_hg1 ?w_hk1 ?w_hdd1 ?w_ha1 ?w_hm1 ?w_xq1_1 ?w_xq1_2 ?w_xq1_3 ?w_xq1_4 ?w_xq1_5 ?w_xm2_0 ?w_xm2_1 ?w_xm2_2 ?w_xm2_3 ?w_xm2_4 ?w_xm2_5 ?w_hg2 ?w_hk2 ?w_hdd2 ?w_ha2 ?w_hm2 ?w_xq2_1 ?w_xq2_2 ?w_xq2_3 ?w_xq2_4 ?w_xq2_5 ?w_hn ?w_ht ?w_nl
    (case w_a0 => k_is); (case w_l0 => k_is); (case w_c0 => k_is); (case w_k0 => k_is); (case w_a1 => k_is); (case w_l1 => k_is); (case w_c1 => k_is); (case w_k1 => k_is)
    (case w_a2 => k_is); (case w_l2 => k_is); (case w_c2 => k_is); (case w_k2 => k_is); (case w_a3 => k_is); (case w_l3 => k_is); (case w_c3 => k_is); (case w_k3 => k_is)
    (case w_a4 => k_is); (case w_l4 => k_is); (case w_c4 => k_is); (case w_k4 => k_is); (case w_a5 => k_is); (case w_l5 => k_is); (case w_c5 => k_is); (case w_k5 => k_is)
    (case w_a6 => k_is); (case w_l6 => k_is); (case w_c6 => k_is); (case w_k6 => k_is); (case w_a7 => k_is); (case w_l7 => k_is); (case w_c7 => k_is); (case w_k7 => k_is)
    (case w_a8 => k_is); (case w_l8 => k_is); (case w_c8 => k_is); (case w_k8 => k_is); (case w_a9 => k_is); (case w_l9 => k_is); (case w_c9 => k_is); (case w_k9 => k_is)
    (case w_a10 => k_is); (case w_l10 => k_is); (case w_c10 => k_is); (case w_k10 => k_is); (case w_a11 => k_is); (case w_l11 => k_is); (case w_c11 => k_is); (case w_k11 => k_is)
    (case w_a12 => k_is); (case w_l12 => k_is); (case w_c12 => k_is); (case w_k12 => k_is); (case w_a13 => k_is); (case w_l13 => k_is); (case w_c13 => k_is); (case w_k13 => k_is)
    (case w_a14 => k_is); (case w_l14 => k_is); (case w_c14 => k_is); (case w_k14 => k_is); (case w_a15 => k_is); (case w_l15 => k_is); (case w_c15 => k_is); (case w_k15 => k_is)
    (case w_a16 => k_is); (case w_l16 => k_is); (case w_c16 => k_is); (case w_k16 => k_is); (case w_a17 => k_is); (case w_l17 => k_is); (case w_c17 => k_is); (case w_k17 => k_is)
    (case w_a18 => k_is); (case w_l18 => k_is); (case w_c18 => k_is); (case w_k18 => k_is); (case w_a19 => k_is); (case w_l19 => k_is); (case w_c19 => k_is); (case w_k19 => k_is)
    (case w_a20 => k_is); (case w_l20 => k_is); (case w_c20 => k_is); (case w_k20 => k_is); (case w_a21 => k_is); (case w_l21 => k_is); (case w_c21 => k_is); (case w_k21 => k_is)
    (case w_a22 => k_is); (case w_l22 => k_is); (case w_c22 => k_is); (case w_k22 => k_is); (case w_a23 => k_is); (case w_l23 => k_is); (case w_c23 => k_is); (case w_k23 => k_is)
    (case w_a24 => k_is); (case w_l24 => k_is); (case w_c24 => k_is); (case w_k24 => k_is); (case w_a25 => k_is); (case w_l25 => k_is); (case w_c25 => k_is); (case w_k25 => k_is)
    (case w_a26 => k_is); (case w_l26 => k_is); (case w_c26 => k_is); (case w_k26 => k_is); (case w_a27 => k_is); (case w_l27 => k_is); (case w_c27 => k_is); (case w_k27 => k_is)
    (case w_a28 => k_is); (case w_l28 => k_is); (case w_c28 => k_is); (case w_k28 => k_is); (case w_a29 => k_is); (case w_l29 => k_is); (case w_c29 => k_is); (case w_k29 => k_is)
    (case w_a30 => k_is); (case w_l30 => k_is); (case w_c30 => k_is); (case w_k30 => k_is); (case w_a31 => k_is); (case w_l31 => k_is); (case w_c31 => k_is); (case w_k31 => k_is)
    (case w_a32 => k_is); (case w_l32 => k_is); (case w_c32 => k_is); (case w_k32 => k_is); (case w_a33 => k_is); (case w_l33 => k_is); (case w_c33 => k_is); (case w_k33 => k_is)
    (case w_a34 => k_is); (case w_l34 => k_is); (case w_c34 => k_is); (case w_k34 => k_is); (case w_a35 => k_is); (case w_l35 => k_is); (case w_c35 => k_is); (case w_k35 => k_is)
    (case w_a36 => k_is); (case w_l36 => k_is); (case w_c36 => k_is); (case w_k36 => k_is); (case w_a37 => k_is); (case w_l37 => k_is); (case w_c37 => k_is); (case w_k37 => k_is)
    (case w_a38 => k_is); (case w_l38 => k_is); (case w_c38 => k_is); (case w_k38 => k_is); (case w_g0 => k_is); (case w_g1 => k_is); (case w_g2 => k_is); (case w_g3 => k_is)
    (case w_g4 => k_is); (case w_g5 => k_is); (case w_g6 => k_is); (case w_g7 => k_is); (case w_g8 => k_is); (case w_g9 => k_is); (case w_g10 => k_is); (case w_z0 => k_is)
    (case w_z1 => k_is); (case w_z2 => k_is); (case w_z3 => k_is); (case w_z4 => k_is); (case w_z5 => k_is); (case w_z6 => k_is); (case w_z7 => k_is); (case w_z8 => k_is)
    (case w_z9 => k_is); (case w_z10 => k_is); (case w_z11 => k_is); (case w_z12 => k_is); (case w_z13 => k_is); (case w_z14 => k_is); (case w_z15 => k_is); (case w_z16 => k_is)
    (case w_z17 => k_is); (case w_z18 => k_is); (case w_z19 => k_is); (case w_b0 => k_is); (case w_b1 => k_is); (case w_b2 => k_is); (case w_b3 => k_is); (case w_b4 => k_is)
    (case w_b5 => k_is); (case w_xi1 => kernel_rfl); (case w_xk1 => k_is); (case w_xs1 => k_is); (case w_xt1 => k_is); (case w_xi2 => kernel_rfl); (case w_xk2 => k_is); (case w_xs2 => k_is)
    (case w_xt2 => k_is); (case w_xi0 => kernel_rfl); (case w_xk0 => k_is); (case w_xs0 => k_is); (case w_xt0 => k_is); (case w_xm1_0 => kernel_rfl); (case w_xm1_1 => kernel_rfl); (case w_xm1_2 => kernel_rfl)
    (case w_xm1_3 => kernel_rfl); (case w_xm1_4 => kernel_rfl); (case w_xm1_5 => kernel_rfl); (case w_hg1 => k_is); (case w_hk1 => k_is); (case w_hdd1 => k_is); (case w_ha1 => k_is); (case w_hm1 => k_is)
    (case w_xq1_1 => kernel_rfl); (case w_xq1_2 => kernel_rfl); (case w_xq1_3 => kernel_rfl); (case w_xq1_4 => kernel_rfl); (case w_xq1_5 => kernel_rfl); (case w_xm2_0 => kernel_rfl); (case w_xm2_1 => kernel_rfl); (case w_xm2_2 => kernel_rfl)
    (case w_xm2_3 => kernel_rfl); (case w_xm2_4 => kernel_rfl); (case w_xm2_5 => kernel_rfl); (case w_hg2 => k_is); (case w_hk2 => k_is); (case w_hdd2 => k_is); (case w_ha2 => k_is); (case w_hm2 => k_is)
    (case w_xq2_1 => kernel_rfl); (case w_xq2_2 => kernel_rfl); (case w_xq2_3 => kernel_rfl); (case w_xq2_4 => kernel_rfl); (case w_xq2_5 => kernel_rfl); (case w_hn => k_is); (case w_ht => k_is)
    (case w_nl => kernel_rfl)

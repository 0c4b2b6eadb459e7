import PyProof.Rows.All
import Wide.All
import OpenK.AllK
import Wide.FinOn
import HandS.ForMost
import HandS.TupSets
import KE.KDictKeyed
import HandS.SetFor
import KE.SortData
import HandS.Nested
import HandS.EndTab
import PyProof.ReprRoads
import PyProof.ReprBulk
import HandS.OwnEq
import HandS.IsInst
import PyProof.InstEq
import HandS.Walk
import HandS.Zip
import HandS.TupAny
import PySem.Challenge.RW_wholeways_k30_whole_what_transactions_ha
set_option Elab.async false
set_option linter.all false
set_option maxRecDepth 100000
set_option maxHeartbeats 8000000
/-! S1: sets of heap keys (any HeapKind), the library's pure words about tables underneath. -/
namespace W30
open PySem PySem.Spec PyProof.Rows L2

section
variable {P : Program} {w : World} {κ : Type} [DecidableEq κ]

/-- what a set's search asks of its keys, besides the laws of a heap kind -/
structure Quiet (knd : HeapKind P w κ) : Prop where
  st : knd.Stays
  cls : ∀ {A : Around} {E : Value → Shared → Prop} {s : Shared} {k : κ} {a : Addr} {Q : Bool → Shared → Prop}, knd.is s.heap k a → Q false s → wpAny (model P w) A (ofAClassStatement 8 (.ref a)) Q E s
  hbv : ∀ {A : Around} {E : Value → Shared → Prop} {s : Shared} {k : κ} {a : Addr} {Q : Bool → Shared → Prop}, knd.is s.heap k a → (∀ b, Q b s) → wpAny (model P w) A (hashByValue 8 (.ref a)) Q E s

def hashesOf (knd : HeapKind P w κ) (L : List (Addr × κ)) : List Int := L.map fun p => knd.hash p.2
def entriesOf (knd : HeapKind P w κ) (L : List (Addr × κ)) : List (Int × Value) := L.map fun p => (knd.hash p.2, Value.ref p.1)

/-- the set at a holds the keys of L (their tuples' addresses beside them), in its table's order -/
structure Stored (knd : HeapKind P w κ) (h : Heap) (a : Addr) (L : List (Addr × κ)) (es : Array (Int × Value)) (ep : Nat) (t : SetTable) : Prop where
  obj : ∃ o, h.get? a = some o ∧ o.ExactSet ∧ o.data = .set es ep t
  row : es.toList = entriesOf knd L
  tab : TabOk t (hashesOf knd L)
  dif : (L.map (·.2)).Nodup
  led : w.params.followText "set-order" = true ∨ t.led = true
  gap : L.length * 5 < t.mask * 3
  few : L.length < 64

variable {knd : HeapKind P w κ} {A : Around} {E : Value → Shared → Prop} {s : Shared} {a : Addr} {L : List (Addr × κ)} {es : Array (Int × Value)} {ep : Nat} {t : SetTable}

theorem entries_len {knd : HeapKind P w κ} (hr : es.toList = entriesOf knd L) : es.size = L.length := by
  have q := congrArg List.length hr
  simpa [entriesOf] using q
theorem entries_at {knd : HeapKind P w κ} (hr : es.toList = entriesOf knd L) {i : Nat} {p : Addr × κ} (e : L[i]? = some p) : es[i]? = some (knd.hash p.2, Value.ref p.1) := by
  rw [← Array.getElem?_toList, hr]
  simp [entriesOf, e]
theorem Stored.size (S : Stored knd s.heap a L es ep t) : es.size = L.length := entries_len S.row
theorem fits_by {n : Nat} (hs : t.place.size = n) (hd : t.dummies = #[]) (hm : n ≤ t.mask) : t.fits n = true := by
  unfold SetTable.fits SetTable.fill
  rw [hd, hs, Bool.and_eq_true, beq_iff_eq, decide_eq_true_eq]
  exact ⟨rfl, by simpa using hm⟩
theorem Stored.fits (S : Stored knd s.heap a L es ep t) : t.fits es.size = true := by
  have h1 := S.tab.sz
  rw [hashesOf, List.length_map] at h1
  have h2 := S.size
  have h3 := S.gap
  exact fits_by (by omega) S.tab.dm (by omega)

/-- where the way of a hash stands at its c-th step -/
abbrev stepOf (t : SetTable) (h : Int) (c : Nat) : SetTable.Probe := nth t.mask (runAt t.mask (SetTable.bits h % (t.mask + 1)) (SetTable.bits h)) c
theorem stepOf_dummy (t : SetTable) (h : Int) : ∀ c, (stepOf t h c).dummy = none := by
  have key : ∀ (c : Nat) (p : SetTable.Probe), p.dummy = none → (nth t.mask p c).dummy = none := by
    intro c
    induction c with
    | zero => exact fun p hp => hp
    | succ c ih =>
      refine fun p hp => ih (adv t.mask p) ?_
      unfold adv
      split <;> exact hp
  exact fun c => key c _ rfl
theorem stepOf_add (t : SetTable) (h : Int) (c d : Nat) : nth t.mask (stepOf t h c) d = stepOf t h (c + d) := (nth_add t.mask c _ d).symm

/-- nothing that a search does among such keys is seen -/
theorem unseen (q : Quiet knd) {x : Addr} {k : κ} (hx : knd.is s.heap k x) {ys : List Value} (hy : ∀ y ∈ ys, ∃ k' c, y = Value.ref c ∧ knd.is s.heap k' c) {Q : Bool → Shared → Prop} (h : Q false s) :
    wpAny (model P w) A (searchCouldBeSeen (.ref x) ys) Q E s := by
  unfold searchCouldBeSeen
  refine wpAny_bind ?_
  refine wpAny_forIn_list _ (fun rest r s' => r.1 = none ∧ s' = s ∧ ∀ y ∈ rest, ∃ k' c, y = Value.ref c ∧ knd.is s.heap k' c) _ ?_ ?_ _ _ ⟨rfl, rfl, hy⟩
  · intro v rest r s' hh
    obtain ⟨hr, e, hall⟩ := hh
    subst e
    obtain ⟨k', c, ev, hc⟩ := hall v List.mem_cons_self
    subst ev
    have more : ∀ y ∈ rest, ∃ k' c, y = Value.ref c ∧ knd.is s'.heap k' c := fun u hu => hall u (List.mem_cons_of_mem _ hu)
    dsimp only
    by_cases hv : (x == c || (carriedByValue (.ref x) && carriedByValue (.ref c))) = true
    · exact wp_if_pos hv (wpAny_pure ⟨rfl, rfl, more⟩)
    · refine wp_if_neg hv (wpAny_bind (knd.quiet hx ?_))
      simp only [Bool.not_true, Bool.false_eq_true, if_false]
      refine wpAny_bind (knd.quiet hc ?_)
      simp only [Bool.not_true, Bool.false_eq_true, if_false]
      refine wpAny_bind (q.cls hx ?_)
      simp only [Bool.false_eq_true, if_false]
      refine wpAny_bind (q.cls hc ?_)
      simp only [Bool.false_eq_true, if_false]
      exact wpAny_pure ⟨rfl, rfl, more⟩
  · intro r s' hh
    obtain ⟨r1, r2⟩ := r
    obtain ⟨hr, e, _⟩ := hh
    subst e
    have hr' : r1 = none := hr
    subst hr'
    exact wpAny_pure h

/-- the search for adding, from the c-th step of the way on; K is the way's first empty place -/
theorem seek (q : Quiet knd) (S : Stored knd s.heap a L es ep t) (hL : ∀ p ∈ L, knd.is s.heap p.2 p.1) {x : Addr} {k : κ} (hx : knd.is s.heap k x) (hu : knd.room A) {K : Nat} (hKf : K < 10 * SetTable.turns t.mask)
    (hK : way t.mask (knd.hash k) K ∉ t.place.toList) (hKb : ∀ c, c < K → way t.mask (knd.hash k) c ∈ t.place.toList) {Q : SetFound → Shared → Prop}
    (yes : k ∈ L.map (·.2) → Q (.there none) s) (no : k ∉ L.map (·.2) → Q (.free (way t.mask (knd.hash k) K) false) s) (f : Nat) :
    ∀ (c : Nat) (stand : Option SetTable.Probe), stand.getD (t.probeStart (knd.hash k)) = stepOf t (knd.hash k) c → c ≤ K → K - c < f →
      (∀ (i : Nat) p, L[i]? = some p → p.2 = k → ∃ d, c ≤ d ∧ d < K ∧ t.place.toList[i]? = some (way t.mask (knd.hash k) d)) →
      wpAny (model P w) A (setSearchFrom a (.ref x) (knd.hash k) true f stand) Q E s := by
  induction f with
  | zero => exact fun c stand _ _ hf _ => absurd hf (Nat.not_lt_zero _)
  | succ f ih =>
    intro c stand hst hc hf ahead
    obtain ⟨o, ho, hex, hd⟩ := S.obj
    have jAt : ∀ d, (nth t.mask (stepOf t (knd.hash k) c) d).j = way t.mask (knd.hash k) (c + d) := fun d => congrArg SetTable.Probe.j (stepOf_add t (knd.hash k) c d)
    have hAt : ∀ (i : Nat) p, L[i]? = some p → (es[i]?.map (·.1)).getD 0 = knd.hash p.2 := fun i p e => by rw [entries_at S.row e]; rfl
    have notGone : ¬ t.gaveWay = true := by
      unfold SetTable.gaveWay
      rw [mask_odd S.tab.mok]
      decide
    have spec := go_spec t S.tab.ris S.tab.dm (fun i => (es[i]?.map (·.1)).getD 0) (knd.hash k) (10 * SetTable.turns t.mask) (K - c) (stepOf t (knd.hash k) c) (stepOf_dummy t _ c) (by omega)
      (fun d hd' => by rw [jAt]; exact hKb (c + d) (by omega)) (by rw [jAt, show c + (K - c) = K by omega]; exact hK)
    rw [setSearchFrom_succ]
    refine wpAny_bind (wpAny_setState_of ho hd S.fits ?_)
    dsimp only
    refine wp_if_neg notGone ?_
    try refine wpAny_bind (wpAny_pure ?_)
    rcases spec with ⟨d, i, hdK, hi, hh, hno, hpr⟩ | ⟨hno, hpr⟩
    · have hpr2 : t.probe (fun i => (es[i]?.map (·.1)).getD 0) (knd.hash k) (stand.getD (t.probeStart (knd.hash k))) = some (.candidate (way t.mask (knd.hash k) (c + d)) i (stepOf t (knd.hash k) (c + (d + 1)))) := by
        rw [hst, ← jAt, ← stepOf_add]
        exact hpr
      rw [jAt] at hi
      rw [hpr2]
      dsimp only
      have hil : i < L.length := by
        have h1 := (List.getElem?_eq_some_iff.mp hi).1
        have h2 := S.tab.sz
        rw [hashesOf, List.length_map] at h2
        rw [Array.length_toList] at h1
        omega
      obtain ⟨p, hp⟩ : ∃ p, L[i]? = some p := ⟨_, List.getElem?_eq_getElem hil⟩
      have hpm := List.mem_of_getElem? hp
      have onward : wpAny (model P w) A (searchRest a (.ref x) (knd.hash k) true f es t (way t.mask (knd.hash k) (c + d)) i (stepOf t (knd.hash k) (c + (d + 1)))) Q E s := by
        unfold searchRest
        rw [entries_at S.row hp]
        dsimp only
        refine wpAny_bind (wpAny_holding (knd.eqBool hu (hL p hpm) hx ?_))
        refine wpAny_bind (wpAny_setState_of ho hd S.fits ?_)
        dsimp only
        by_cases hkk : p.2 = k
        · refine wp_if_pos (by simp [hkk]) (wpAny_pure (yes ?_))
          exact List.mem_map.mpr ⟨p, hpm, hkk⟩
        · refine wp_if_neg (by simp [hkk]) ?_
          try refine wpAny_bind (wpAny_pure ?_)
          rw [sameMem]
          dsimp only
          have hsl : t.slot (way t.mask (knd.hash k) (c + d)) = .live i := slot_live S.tab.ris hi
          simp only [if_true, hsl, entries_at S.row hp]
          refine wpAny_bind (wpAny_isSame_ref_self (wpAny_bind (wpAny_pure ?_)))
          simp only [if_true]
          refine wp_if_neg (by simp [hkk]) ?_
          refine ih (c + (d + 1)) _ rfl (by omega) (by omega) fun i0 p0 e0 k0 => ?_
          obtain ⟨d0, g1, g2, g3⟩ := ahead i0 p0 e0 k0
          refine ⟨d0, ?_, g2, g3⟩
          have sameHash : (es[i0]?.map (·.1)).getD 0 = knd.hash k := by rw [hAt i0 p0 e0, k0]
          have lo : c + d ≤ d0 := by
            refine Nat.le_of_not_lt fun z => hno (d0 - c) i0 (by omega) ?_ sameHash
            rw [jAt, show c + (d0 - c) = d0 by omega]
            exact g3
          have ne : d0 ≠ c + d := fun z => by
            rw [z] at g3
            have s0 := slot_live S.tab.ris g3
            rw [hsl] at s0
            injection s0 with s0
            rw [← s0, hp] at e0
            exact hkk ((congrArg Prod.snd (Option.some.inj e0)).trans k0)
          omega
      by_cases hl : t.led = true
      · refine wp_if_neg (by simp [hl]) ?_
        try refine wpAny_bind (wpAny_pure ?_)
        exact onward
      · refine wp_if_pos (by simp [hl]) (wpAny_bind (unseen q hx (fun y hy => ?_) ?_))
        · obtain ⟨e, he, ee⟩ := List.mem_map.mp hy
          have he2 : e ∈ es.toList := by
            have he1 : e ∈ es ∧ e.1 = knd.hash k := by simpa using he
            simpa using he1.1
          rw [S.row] at he2
          obtain ⟨p2, hp2, e2⟩ := List.mem_map.mp he2
          exact ⟨p2.2, p2.1, by rw [← ee, ← e2], hL p2 hp2⟩
        · refine wp_if_neg (by decide) ?_
          try refine wpAny_bind (wpAny_pure ?_)
          exact onward
    · have hpr2 : t.probe (fun i => (es[i]?.map (·.1)).getD 0) (knd.hash k) (stand.getD (t.probeStart (knd.hash k))) = some (.empty (way t.mask (knd.hash k) K) none) := by
        have e2 : way t.mask (knd.hash k) K = (nth t.mask (stepOf t (knd.hash k) c) (K - c)).j := by
          rw [jAt, show c + (K - c) = K by omega]
        rw [hst, e2]
        exact hpr
      rw [hpr2]
      dsimp only
      refine wpAny_pure (no fun hm => ?_)
      obtain ⟨p0, h0, k0⟩ := List.mem_map.mp hm
      obtain ⟨i0, e0⟩ := List.mem_iff_getElem?.mp h0
      obtain ⟨d0, g1, g2, g3⟩ := ahead i0 p0 e0 k0
      refine hno (d0 - c) i0 (by omega) ?_ (by show (es[i0]?.map (·.1)).getD 0 = _; rw [hAt i0 p0 e0, k0])
      rw [jAt, show c + (d0 - c) = d0 by omega]
      exact g3

theorem seek_all (q : Quiet knd) (S : Stored knd s.heap a L es ep t) (hL : ∀ p ∈ L, knd.is s.heap p.2 p.1) {x : Addr} {k : κ} (hx : knd.is s.heap k x) (hu : knd.room A) {Q : SetFound → Shared → Prop}
    (yes : k ∈ L.map (·.2) → Q (.there none) s)
    (no : ∀ K, k ∉ L.map (·.2) → way t.mask (knd.hash k) K ∉ t.place.toList → (∀ c, c < K → way t.mask (knd.hash k) c ∈ t.place.toList) → Q (.free (way t.mask (knd.hash k) K) false) s) :
    wpAny (model P w) A (setSearch a (.ref x) (knd.hash k) true) Q E s := by
  have hgap := S.gap
  obtain ⟨K, hKf, hK, hKb⟩ := S.tab.first (by rw [hashesOf, List.length_map]; omega) (knd.hash k)
  have far : 10 * SetTable.turns t.mask ≤ 1420 := by
    unfold SetTable.turns
    rcases S.tab.mok with e | e | e <;> omega
  unfold setSearch
  refine seek q S hL hx hu hKf hK hKb yes (fun hn => no K hn hK hKb) 100000 0 none rfl (Nat.zero_le _) (by omega) fun i p hp hk => ?_
  have hi : (hashesOf knd L)[i]? = some (knd.hash k) := by simp [hashesOf, hp, hk]
  have hil : i < t.place.toList.length := by
    have h1 := (List.getElem?_eq_some_iff.mp hp).1
    have h2 := S.tab.sz
    rw [hashesOf, List.length_map] at h2
    rw [Array.length_toList]
    omega
  have hj := List.getElem?_eq_getElem hil
  obtain ⟨c, hc, e⟩ := S.tab.before hK hi hj
  exact ⟨c, Nat.zero_le _, hc, by rw [hj, e]⟩
end
end W30


/-! S2: adding to a set of heap keys. -/
namespace W30
open PySem PySem.Spec PyProof.Rows L2

section
variable {P : Program} {w : World} {κ : Type} [DecidableEq κ]
variable {knd : HeapKind P w κ} {A : Around} {E : Value → Shared → Prop} {s : Shared} {a : Addr} {L : List (Addr × κ)} {es : Array (Int × Value)} {ep : Nat} {t : SetTable}

theorem pick_range {α : Type} (L : List α) : (List.range L.length).filterMap (fun i => L[i]?) = L := by
  have key : ∀ n, n ≤ L.length → (List.range n).filterMap (fun i => L[i]?) = L.take n := by
    intro n
    induction n with
    | zero => exact fun _ => by simp
    | succ n ih =>
      intro hn
      rw [List.range_succ, List.filterMap_append, ih (by omega), List.take_succ, List.getElem?_eq_getElem (show n < L.length from hn)]
      simp [List.getElem?_eq_getElem (show n < L.length from hn)]
  rw [key _ (Nat.le_refl _), List.take_length]

/-- the rows in the order of a permutation of the places -/
theorem rows_ordered (hr : es.toList = entriesOf knd L) {order : Array Nat} (hp : order.toList.Perm (List.range L.length)) :
    ∃ L2, (order.filterMap (es[·]?)).toList = entriesOf knd L2 ∧ L2.Perm L ∧ hashesOf knd L2 = order.toList.map fun i => (es.map (·.1)).getD i 0 := by
  have eAt : ∀ i : Nat, es[i]? = (L[i]?).map fun (p : Addr × κ) => (knd.hash p.2, Value.ref p.1) := fun i => by
    rw [← Array.getElem?_toList, hr, entriesOf, List.getElem?_map]
  have inR : ∀ i ∈ order.toList, i < L.length := fun i hi => List.mem_range.mp (hp.mem_iff.mp hi)
  refine ⟨order.toList.filterMap fun i => L[i]?, ?_, ?_, ?_⟩
  · rw [Array.toList_filterMap, entriesOf, List.map_filterMap]
    exact congrArg (fun f => List.filterMap f order.toList) (funext fun i => eAt i)
  · have h1 := hp.filterMap fun i => L[i]?
    rw [pick_range] at h1
    exact h1
  · have key : ∀ l : List Nat, (∀ i ∈ l, i < L.length) → hashesOf knd (l.filterMap fun i => L[i]?) = l.map fun i => (es.map (·.1)).getD i 0 := by
      intro l
      induction l with
      | nil => exact fun _ => rfl
      | cons i l ih =>
        intro hl
        have hi := hl i List.mem_cons_self
        have e1 := List.getElem?_eq_getElem hi
        have e2 : (es.map (·.1)).getD i 0 = knd.hash (L[i]).2 := by
          have e3 : (es.map (·.1))[i]? = some (knd.hash (L[i]).2) := by rw [Array.getElem?_map, eAt, e1]; rfl
          simp [Array.getD_eq_getD_getElem?, e3]
        rw [List.filterMap_cons_some e1, List.map_cons, e2, ← ih fun j hj => hl j (List.mem_cons_of_mem _ hj)]
        rfl
    exact key _ inR

theorem key_beside (q : Quiet knd) {h h' : Heap} {k : κ} {b : Addr} {o : Obj} (hb : knd.is h k b) (ho : h.get? a = some o) (hd : o.data = .set es ep t) (hs : Heap.SameBut a h h') : knd.is h' k b := by
  refine q.st.stays (fun c oc vs n hc hdc => ?_) hb
  refine (hs.2 c fun z => ?_).trans hc
  rw [z, ho] at hc
  rw [← Option.some.inj hc, hd] at hdc
  cases hdc

/-- a larger table -/
theorem relay {o : Obj} (ho : s.heap.get? a = some o) (hex : o.ExactSet) (hd : o.data = .set es ep t) (hr : es.toList = entriesOf knd L) (hsz : t.place.size = es.size) (hdm : t.dummies = #[]) (hfl : es.size ≤ t.mask)
    (nd : (L.map (·.2)).Nodup) (ld : w.params.followText "set-order" = true ∨ t.led = true) (few : L.length < 64) {wanted M : Nat}
    (hw : SetTable.sizeAbove wanted - 1 = M) (hM : MaskOk M) (hw2 : SetTable.sizeAbove wanted ≤ 128) (hn : L.length * 5 < M * 3) {Q : Unit → Shared → Prop}
    (hQ : ∀ h' L' es' ep' t', Heap.SameBut a s.heap h' → Stored knd h' a L' es' ep' t' → L'.Perm L → Q () { s with heap := h' }) : wpAny (model P w) A (setRelay a wanted) Q E s := by
  have hl := entries_len hr
  obtain ⟨t', order, e, hp, T, em, el, _, ed⟩ := relaid_ok t (hs := es.map (·.1)) (wanted := wanted) hw hM (by rw [Array.size_map, hl]; omega)
  rw [Array.size_map, hl] at hp
  obtain ⟨L2, r1, r2, r3⟩ := rows_ordered hr hp
  rw [← r3] at T
  have hs2 : (order.filterMap (es[·]?)).size = es.size := by rw [entries_len r1, r2.length_eq, hl]
  rw [setRelay_eq]
  refine wpAny_bind (wpAny_setState_of ho hd (fits_by hsz hdm hfl) ?_)
  dsimp only
  refine wp_if_neg (by rw [sizeLine_eq]; omega) ?_
  try refine wpAny_bind (wpAny_pure ?_)
  rw [e]
  dsimp only
  refine wpAny_bind (wp_if_neg (by rw [hs2]; simp) ?_)
  try refine wpAny_bind (wpAny_pure ?_)
  refine wpAny_pure ?_
  dsimp only
  refine wpAny_storeSet_of ho hd ?_ (by rw [hs2, hl, sizeLine_eq]; omega)
  refine hQ _ L2 (order.filterMap (es[·]?)) (ep + 1) t' (Heap.SameBut.update ..) ⟨⟨_, store_at ho hd, ⟨hex.1, hex.2.1, hex.2.2⟩, rfl⟩, r1, T, (r2.map (·.2)).nodup_iff.mpr nd, by rw [el]; exact ld, ?_, by rw [r2.length_eq]; exact few⟩ r2
  rw [r2.length_eq, em]
  exact hn

/-- a key is added -/
theorem add_key (q : Quiet knd) (S : Stored knd s.heap a L es ep t) (hL : ∀ p ∈ L, knd.is s.heap p.2 p.1) {x : Addr} {k : κ} (hx : knd.is s.heap k x) (hu : knd.room A) (hfew : L.length + 1 < 64) {Q : Bool → Shared → Prop}
    (hQ : ∀ b h' L' es' ep' t', Heap.SameBut a s.heap h' → Stored knd h' a L' es' ep' t' → (k ∈ L.map (·.2) → L' = L) → (k ∉ L.map (·.2) → L'.Perm ((x, k) :: L)) → Q b { s with heap := h' }) :
    wpAny (model P w) A (setAddHashed a (.ref x) (knd.hash k)) Q E s := by
  obtain ⟨o, ho, hex, hd⟩ := S.obj
  have hsl := S.size
  have hgap := S.gap
  unfold setAddHashed
  refine wpAny_holding ?_
  rw [show (100000 : Nat) = 99999 + 1 from rfl, setAddHashedIn_succ]
  refine wpAny_bind (wpAny_setState_of ho hd S.fits ?_)
  dsimp only
  refine wp_if_neg (by simp [byScan, Value.scannable]) ?_
  try refine wpAny_bind (wpAny_pure ?_)
  refine wpAny_bind (seek_all q S hL hx hu (fun hm => ?_) fun K hm hK hb => ?_)
  · dsimp only
    exact wpAny_pure (hQ false s.heap L es ep t (Heap.SameBut.refl a s.heap) S (fun _ => rfl) fun z => absurd hm z)
  · dsimp only
    refine wpAny_bind (wpAny_setState_of ho hd S.fits ?_)
    dsimp only
    obtain ⟨q1, q2, q3, q4, q5, _, _, _, q9⟩ := S.tab.put hK hb
    generalize t.put (way t.mask (knd.hash k) K) = pt at q1 q3 q4 q5 q9 ⊢
    obtain ⟨t1, p⟩ := pt
    dsimp only at q1 q3 q4 q5 q9 ⊢
    subst q1
    generalize SetTable.below t.place (way t.mask (knd.hash k) K) = p at q2 q3 ⊢
    have hin : (SetTable.insertAt es p (knd.hash k, Value.ref x)).toList = entriesOf knd (L.take p ++ (x, k) :: L.drop p) := by
      rw [SetTable.toList_insertAt, S.row]
      simp [entriesOf, List.map_take, List.map_drop]
    have pm := put_perm L p (x, k)
    have hlen : (L.take p ++ (x, k) :: L.drop p).length = L.length + 1 := pm.length_eq
    have hh : hashesOf knd (L.take p ++ (x, k) :: L.drop p) = (hashesOf knd L).take p ++ knd.hash k :: (hashesOf knd L).drop p := by
      simp [hashesOf, List.map_take, List.map_drop]
    rw [← hh] at q3
    have nd1 : ((L.take p ++ (x, k) :: L.drop p).map (·.2)).Nodup := (pm.map (·.2)).nodup_iff.mpr (by rw [List.map_cons]; exact List.nodup_cons.mpr ⟨hm, S.dif⟩)
    have hes := (entries_len hin).trans hlen
    generalize SetTable.insertAt es p (knd.hash k, Value.ref x) = es1 at hin hes ⊢
    generalize L.take p ++ (x, k) :: L.drop p = L1 at pm hlen q3 nd1 hin
    have fl : t1.fill = L.length + 1 := by rw [q9, hashesOf, List.length_map]
    -- from here on, whatever the table's plainness
    have tail : ∀ t2 : SetTable, t2.place = t1.place → t2.dummies = t1.dummies → t2.mask = t1.mask → t2.led = t1.led →
        wpAny (model P w) A (do
          storeSet a es1 t2
          if (!false && t2.tooFull) = true then setRelay a (SetTable.grown (es.size + 1))
          return true) Q E s := by
      intro t2 e1 e2 e3 e4
      have T2 : TabOk t2 (hashesOf knd L1) := ⟨by rw [e1]; exact q3.ris, by rw [e2]; exact q3.dm, by rw [e1]; exact q3.sz, by rw [e3]; exact q3.mok, by rw [e1, e3]; exact q3.bd, by rw [e1, e3]; exact q3.reach⟩
      have fl2 : t2.fill = L.length + 1 := by
        unfold SetTable.fill at fl ⊢
        rw [e1, e2]
        exact fl
      have ld2 : w.params.followText "set-order" = true ∨ t2.led = true := by rw [e4, q5]; exact S.led
      have m2 : t2.mask = t.mask := e3.trans q4
      refine wpAny_bind (wpAny_storeSet_of ho hd ?_ (by rw [hes, sizeLine_eq]; omega))
      have sb : Heap.SameBut a s.heap (s.heap.update a (Obj.putSet es1 t2)) := Heap.SameBut.update ..
      have ho1 := store_at (es' := es1) (t' := t2) ho hd
      generalize s.heap.update a (Obj.putSet es1 t2) = h1 at sb ho1 ⊢
      by_cases hf : t2.tooFull = true
      · have full : (L.length + 1) * 5 ≥ t.mask * 3 := by
          unfold SetTable.tooFull at hf
          rw [decide_eq_true_eq, fl2, m2] at hf
          exact hf
        have c2 : (t.mask = 7 ∧ L.length = 4) ∨ (t.mask = 31 ∧ L.length = 18) := by
          rcases S.tab.mok with e | e | e <;> rw [e] at full hgap
          · exact .inl ⟨e, by omega⟩
          · exact .inr ⟨e, by omega⟩
          · omega
        have go : ∀ M, SetTable.sizeAbove (SetTable.grown (L.length + 1)) - 1 = M → MaskOk M → SetTable.sizeAbove (SetTable.grown (L.length + 1)) ≤ 128 → (L.length + 1) * 5 < M * 3 →
            wpAny (model P w) A (setRelay a (SetTable.grown (L.length + 1))) (fun _ s' => wpAny (model P w) A (pure true) Q E s') E { s with heap := h1 } := fun M g1 g2 g3 g4 => by
          have psz := T2.sz
          rw [hashesOf, List.length_map, hlen] at psz
          refine relay (s := { s with heap := h1 }) ho1 ⟨hex.1, hex.2.1, hex.2.2⟩ rfl hin (psz.trans hes.symm) T2.dm (by rw [hes, m2]; omega) nd1 ld2 (by rw [hlen]; exact hfew) g1 g2 g3 (by rw [hlen]; exact g4) ?_
          intro h2 L2 es2 ep2 t3 sb2 S2 pm2
          exact wpAny_pure (hQ true h2 L2 es2 ep2 t3 (sb.trans sb2) S2 (fun z => absurd z hm) fun _ => pm2.trans pm)
        rw [hsl]
        refine wp_if_pos (by simp [hf]) ?_
        refine wpAny_bind ?_
        rcases c2 with ⟨_, e⟩ | ⟨_, e⟩
        · exact go 31 (by rw [e, size_20]) (.inr (.inl rfl)) (by rw [e, size_20]; decide) (by omega)
        · exact go 127 (by rw [e, size_76]) (.inr (.inr rfl)) (by rw [e, size_76]; decide) (by omega)
      · refine wp_if_neg (by simp [hf]) ?_
        refine wpAny_pure (hQ true h1 L1 es1 (ep + 1) t2 sb ⟨⟨_, ho1, ⟨hex.1, hex.2.1, hex.2.2⟩, rfl⟩, hin, T2, nd1, ld2, ?_, by rw [hlen]; exact hfew⟩ (fun z => absurd z hm) fun _ => pm)
        unfold SetTable.tooFull at hf
        rw [decide_eq_true_eq, fl2] at hf
        rw [hlen]
        omega
    by_cases hpl : t1.plain = true
    · refine wp_if_pos hpl ?_
      refine wpAny_bind (q.hbv hx fun b => ?_)
      cases b with
      | true => exact tail t1 rfl rfl rfl rfl
      | false => exact tail { t1 with plain := false } rfl rfl rfl rfl
    · refine wp_if_neg hpl ?_
      refine wpAny_bind (wpAny_pure ?_)
      exact tail t1 rfl rfl rfl rfl
end
end W30


/-! S3: set(xs) of a list, by what one addition does. -/
namespace W30
open PySem PySem.Spec PyProof.Rows L2

section
variable {P : Program} {w : World} {A : Around} {E : Value → Shared → Prop} {s : Shared}

/-- the new set object -/
abbrev newSetObj (w : World) : Obj := { cls := .type "set", dict := none, data := .set #[] 0 (.fresh 0 0 (!w.params.followText "set-order")) }

/-- G holds of the heap behind i additions of the items; it leans on the set S and on what stood in h0 alone -/
structure Adds (P : Program) (w : World) (A : Around) (items : Array Value) (S : Addr) (h0 : Heap) (G : Nat → Heap → Prop) : Prop where
  frame : ∀ i h h', G i h → (∀ o, h.get? S = some o → h'.get? S = some o) → (∀ b o, h0.get? b = some o → h'.get? b = some o) → G i h'
  step : ∀ (i : Nat) (v : Value) (s : Shared) (E : Value → Shared → Prop) (Q : Bool → Shared → Prop), items[i]? = some v → G i s.heap → (∀ b o, h0.get? b = some o → s.heap.get? b = some o) →
    (∀ b h' tk, s.toks ≤ tk → Heap.SameBut S s.heap h' → G (i + 1) h' → Q b { s with heap := h', toks := tk }) → wpAny (model P w) A (setAdd S v) Q E s

theorem add_loop {I S : Addr} {fp wr : List Addr} {R : Result → Shared → Prop} {items : Array Value} {G : Nat → Heap → Prop} {h0 : Heap} {St : Nat → Shared → Prop} {gg : Array GenState → Array GenState → Prop}
    (W : WalksS P w A.in1 I fp wr gg items.size (fun i v => items[i]? = some v) St) (hS : S ∉ fp) (hS0 : h0.get? S = none) (hw0 : ∀ b ∈ wr, h0.get? b = none) (ad : Adds P w A.in1 items S h0 G) (n : Nat) :
    ∀ (i : Nat) (s : Shared), items.size - i = n → i ≤ items.size → St i s → (∀ b o, h0.get? b = some o → s.heap.get? b = some o) → G i s.heap →
      (∀ s', Moved (S :: wr) gg s s' → (∀ b o, h0.get? b = some o → s'.heap.get? b = some o) → G items.size s'.heap → R (.ok (.ret .none)) s') →
      codeAny (model P w) A (.builtin "set.update.loop" ⟨[.ref S, .ref I], []⟩) R s := by
  have nSw : S ∉ wr := fun z => hS (W.sub _ z)
  have up : ∀ b ∈ wr, b ∈ S :: wr := fun b hb => List.mem_cons_of_mem _ hb
  have old : ∀ {s s' : Shared}, Moved wr gg s s' → (∀ b o, h0.get? b = some o → s.heap.get? b = some o) → ∀ b o, h0.get? b = some o → s'.heap.get? b = some o := fun hm hk b o e =>
    hm.heap b o (fun hb => by rw [hw0 b hb] at e; cases e) (hk b o e)
  induction n with
  | zero =>
    intro i s hn hi st hk g hR
    have e : i = items.size := by omega
    subst e
    refine codeAny_builtin F.entry_set_update_loop ?_
    rw [Around.under_plainId F.plain_set_update_loop _]
    show wpAny _ A.in1 (pyNext (.ref I) >>= _) _ _ s
    refine wpAny_bind (W.done s _ _ st fun s' hm => ?_)
    show wpAny _ A.in1 (ret Value.none) _ _ s'
    have hk' := old hm hk
    exact wpAny_pure (hR s' (hm.mono up) hk' (ad.frame _ _ _ g (fun o e => hm.heap S o nSw e) hk'))
  | succ n ih =>
    intro i s hn hi st hk g hR
    have hlt : i < items.size := by omega
    refine codeAny_builtin F.entry_set_update_loop ?_
    rw [Around.under_plainId F.plain_set_update_loop _]
    show wpAny _ A.in1 (pyNext (.ref I) >>= _) _ _ s
    refine wpAny_bind (W.item i s _ _ hlt st fun v s' hv st' hm => ?_)
    have hk' := old hm hk
    have g' := ad.frame _ _ _ g (fun o e => hm.heap S o nSw e) hk'
    show wpAny _ A.in1 (holding [v] (setAdd S v) >>= _) _ _ s'
    refine wpAny_bind (wpAny_holding (ad.step i v s' _ _ hv g' hk' fun b h' tk htk sb g2 => ?_))
    have hk2 : ∀ b o, h0.get? b = some o → h'.get? b = some o := fun b o e => (sb.2 b fun z => by rw [z, hS0] at e; cases e).trans (hk' b o e)
    refine wpAny_pure ⟨plainId_quiet F.plain_set_update_loop _, ih (i + 1) _ (by omega) hlt (W.frame _ s' _ _ st' htk fun b hb o e => ?_) hk2 g2 fun s2 hm2 k2 g3 => ?_⟩
    · exact (sb.2 b fun z => hS (by rw [← z]; exact hb)).trans e
    · refine hR s2 (Moved.trans W.gtrans ((hm.mono up).then_heap htk fun b o hb e => ?_) hm2) k2 g3
      exact (sb.2 b fun z => hb (by rw [z]; exact List.mem_cons_self)).trans e

set_option maxRecDepth 100000 in
set_option maxHeartbeats 8000000 in
/-- set(xs) -/
theorem call_set {l : Addr} {items : Array Value} {G : Nat → Heap → Prop} {Q : Value → Shared → Prop} (hh : A.handled = none) (hl : s.heap.IsList l items) (ad : Adds P w A.in1.in1.in1 items s.heap.objs.size s.heap G)
    (h0 : ∀ h', h'.get? s.heap.objs.size = some (newSetObj w) → (∀ b o, s.heap.get? b = some o → h'.get? b = some o) → G 0 h')
    (h : ∀ (h' : Heap) (tk : Nat), G items.size h' → (∀ b o, s.heap.get? b = some o → h'.get? b = some o) → Q (.ref s.heap.objs.size) { s with heap := h', toks := tk }) :
    wpAny (model P w) A (call (.type "set") [.ref l]) Q E s := by
  obtain ⟨c, tl, hmro⟩ := F.called_set.mro
  have hmade := F.called_set.made
  have hsub := F.called_set.sub
  refine wpAny_call (codeAny_of_tree ?_)
  show wpAny _ _ (callAny (.type "set") _) _ _ _
  refine wpAny_pure ⟨Code.quiet_builtin _ (by decide +kernel), codeAny_builtin F.entry_type_call ?_⟩
  rw [Around.under_plain (weight_type_call_type "set" [.ref l] []) rfl]
  have h1 := F.called_set.notType
  have h2 := F.called_set.canCreate
  have hct := F.typeCall_set_1 (.ref l)
  repeat (any_goals (first | assumption | wp_step))
  refine codeAny_mono (code_set_led1 (.ref l) (E := E) (Q₁ := fun obj s₁ => obj = .ref s.heap.objs.size ∧ s₁ = { s with heap := s.heap.push (newSetObj w) }) ⟨rfl, rfl⟩) fun r s₁ hr => ?_
  cases r with
  | error e => exact hr
  | ok fl =>
    cases fl with
    | ret obj =>
      obtain ⟨rfl, rfl⟩ := hr
      have hS : (s.heap.push (newSetObj w)).get? s.heap.objs.size = some (newSetObj w) := Heap.get?_push_size _ rfl
      have hT : Shared.TypeIs { s with heap := s.heap.push (newSetObj w) } (.ref s.heap.objs.size) "set" := ⟨_, hS, rfl⟩
      have hli := F.called_set.init.lookup
      have hbi := F.called_set.init.bind (.ref s.heap.objs.size)
      repeat (any_goals (first | assumption | wp_step))
      refine codeAny_mono (codeAny_call_builtin (R := wants (fun r s₂ => r = .none ∧ ∃ h' tk, s₂ = { s with heap := h', toks := tk } ∧ G items.size h' ∧ (∀ b o, s.heap.get? b = some o → h'.get? b = some o)) E)
        F.called_set.init.plain F.entry_set_init (check_set_init_1 hT ?_)) fun r₂ s₂ hr₂ => ?_
      · obtain ⟨ol, hol, hcl, nl, hdl⟩ := hl
        obtain ⟨ocls, odict, odata, oslots⟩ := ol
        simp only at hcl hdl
        subst hcl; subst hdl
        have hol' : (s.heap.push (newSetObj w)).get? l = some { cls := .type "list", dict := odict, data := .seq items nl, slots := oslots } := Heap.get?_push_of_some _ hol
        have hsls := F.sub_list_set
        have hslf := F.sub_list_frozenset
        have hne : (Value.type "list" == Value.type "dict") = false := by decide
        have hl1 : (s.heap.push (newSetObj w)).IsList l items := ⟨_, hol', rfl, nl, rfl⟩
        unfold Builtin.«set.__init__» noKeywords Builtin.Frozenset.updateFrom
        generalize hPI : pyIter = PI
        wp_walk
        subst hPI
        refine wpAny_pyIter_list hl1 ?_
        refine wpAny_bind (wpAny_runValue ?_)
        have hlS : l < s.heap.objs.size := Heap.lt_size hol
        have hz1 : (s.heap.push (newSetObj w)).objs.size = s.heap.objs.size + 1 := Heap.size_push ..
        have gone : ∀ b, s.heap.objs.size ≤ b → s.heap.get? b = none := fun b hb => Heap.get?_none_of_le hb
        have hneI : l ≠ (s.heap.push (newSetObj w)).objs.size := by rw [hz1]; exact Nat.ne_of_lt (Nat.lt_succ_of_lt hlS)
        have hSf : s.heap.objs.size ∉ [(s.heap.push (newSetObj w)).objs.size, l] := by
          rw [hz1]
          simp only [List.mem_cons, List.not_mem_nil, or_false, not_or]
          exact ⟨Nat.ne_of_lt (Nat.lt_succ_self _), Nat.ne_of_gt hlS⟩
        refine add_loop ((Walks.list (by simp [hh]) _ l hneI items).toS) hSf (gone _ (Nat.le_refl _)) (fun b hb => gone b (by
            rw [List.mem_singleton.mp hb, hz1]
            exact Nat.le_succ _)) ad (items.size - 0) 0 _ (by omega) (Nat.zero_le _)
          ?hst ?hk ?hg ?hR
        case hst => exact ⟨⟨_, Heap.get?_push_size _ rfl, rfl, rfl⟩, hl1.push _⟩
        case hk => exact fun b o e => Heap.get?_push_of_some _ (Heap.get?_push_of_some _ e)
        case hg => exact h0 _ (Heap.get?_push_of_some _ hS) fun b o e => Heap.get?_push_of_some _ (Heap.get?_push_of_some _ e)
        case hR =>
          intro s' hm hk g'
          obtain ⟨h', g2, d', tk', os'⟩ := s'
          have eg : g2 = s.gens := hm.gens
          have ed : d' = s.drawn := hm.drawn
          have eo : os' = s.os := hm.os
          subst eg; subst ed; subst eo
          show wpAny _ _ _ _ _ _
          refine wpAny_pure ?_
          show wpAny _ _ (ret Value.none) _ _ _
          exact wpAny_pure ⟨rfl, h', tk', rfl, g', hk⟩
      · cases r₂ with
        | error e => exact hr₂
        | ok fl₂ =>
          cases fl₂ with
          | ret r =>
            obtain ⟨rfl, h', tk, rfl, g', hk'⟩ := hr₂
            repeat (any_goals (first | assumption | wp_step))
            exact h _ _ g' hk'
          | _ => exact hr₂.elim
    | _ => exact hr.elim
end
end W30


/-! S4: sets of texts (by scan), sets of tuples: set(xs), their members gathered; sorted(..) of what reads as data. -/
namespace W30
open PySem PySem.Spec PyProof.Rows L2
open PySem.W (EachIs dataLe list_sort_data AllAlike Sortable)

/-! ### lists that go together, in another order -/
theorem each_perm {α β : Type} {R : α → β → Prop} {l' l : List α} (p : l'.Perm l) : ∀ {T : List β}, EachIs R l T → ∃ T', T'.Perm T ∧ EachIs R l' T' := by
  induction p with
  | nil => exact fun h => ⟨_, .refl _, h⟩
  | cons x _ ih =>
    intro T h
    cases h with
    | cons h1 h2 =>
      obtain ⟨T', q, e⟩ := ih h2
      exact ⟨_, q.cons _, .cons h1 e⟩
  | swap x y l =>
    intro T h
    cases h with
    | cons h1 h2 =>
      cases h2 with
      | cons h2 h3 => exact ⟨_, List.Perm.swap _ _ _, .cons h2 (.cons h1 h3)⟩
  | trans _ _ ih1 ih2 =>
    intro T h
    obtain ⟨T1, q1, e1⟩ := ih2 h
    obtain ⟨T2, q2, e2⟩ := ih1 e1
    exact ⟨T2, q2.trans q1, e2⟩
theorem each_map_l {α β γ : Type} {R : β → γ → Prop} (f : α → β) : ∀ {l : List α} {T : List γ}, EachIs (fun a c => R (f a) c) l T → EachIs R (l.map f) T
  | _, _, .nil => .nil
  | _, _, .cons h t => .cons h (each_map_l f t)
theorem each_of_map {α β : Type} (f : β → α) : ∀ L : List β, EachIs (fun a b => a = f b) (L.map f) L
  | [] => .nil
  | b :: L => .cons rfl (each_of_map f L)
theorem each_mem_r {α β : Type} {R : α → β → Prop} : ∀ {as : List α} {bs : List β}, EachIs R as bs → ∀ b ∈ bs, ∃ a ∈ as, R a b
  | _, _, .nil, _, hb => by cases hb
  | _, _, .cons h t, b, hb => by
    rcases List.mem_cons.mp hb with e | hb
    · subst e; exact ⟨_, List.mem_cons_self, h⟩
    · obtain ⟨a, ha, r⟩ := each_mem_r t b hb
      exact ⟨a, List.mem_cons_of_mem _ ha, r⟩

/-- what a walk of the set at a needs: its values, in the table's order -/
def Walked (w : World) (h : Heap) (a : Addr) (vs : List Value) : Prop :=
  ∃ es ep t, SetAt h a es ep t ∧ t.fits es.size = true ∧ es.size < scanBound ∧ Ris t.place.toList ∧ (w.params.followText "set-order" = true ∨ t.led = true) ∧ es.toList.map (·.2) = vs
theorem Walked.at {w : World} {h h' : Heap} {a : Addr} {vs : List Value} (x : Walked w h a vs) (k : ∀ o, h.get? a = some o → h'.get? a = some o) : Walked w h' a vs := by
  obtain ⟨es, ep, t, ha, r⟩ := x
  exact ⟨es, ep, t, ha.at k, r⟩

section
variable {P : Program} {w : World} {A : Around} {E : Value → Shared → Prop} {s : Shared} {K : Type} [DecidableEq K] {kn : PySem.KeyKind P w K}

/-! ### sets of keys by value -/
structure Scanned (kn : PySem.KeyKind P w K) (h : Heap) (a : Addr) (T : List K) (es : Array (Int × Value)) (ep : Nat) (t : SetTable) : Prop where
  obj : ∃ o, h.get? a = some o ∧ o.ExactSet ∧ o.data = .set es ep t
  row : EachIs (fun (e : Int × Value) k => kn.is k e.2 = true ∧ e.1 = kn.hash k ∧ e.2.scannable = true) es.toList T
  dif : T.Nodup
  small : T.length < scanBound
  fit : t.fits es.size = true
  ris : Ris t.place.toList
  led : w.params.followText "set-order" = true ∨ t.led = true
variable {a : Addr} {T : List K} {es : Array (Int × Value)} {ep : Nat} {t : SetTable}
theorem elems_of (h : EachIs (fun (e : Int × Value) k => kn.is k e.2 = true ∧ e.1 = kn.hash k ∧ e.2.scannable = true) es.toList T) : ElemsOf kn es.toList := fun e he => by
  obtain ⟨k, _, h1, h2, h3⟩ := h.left e he
  exact ⟨⟨k, h1, h2⟩, h3⟩
theorem scan_mem (h : EachIs (fun (e : Int × Value) k => kn.is k e.2 = true ∧ e.1 = kn.hash k ∧ e.2.scannable = true) es.toList T) (k : K) : k ∈ T ↔ ∃ e ∈ es.toList, kn.is k e.2 = true := by
  constructor
  · intro hk
    obtain ⟨e, he, r, _⟩ := each_mem_r h k hk
    exact ⟨e, he, r⟩
  · rintro ⟨e, he, r⟩
    obtain ⟨k', hk', r', _⟩ := h.left e he
    rw [kn.inj e.2 k k' r r']
    exact hk'
theorem Scanned.walked (S : Scanned kn s.heap a T es ep t) : Walked w s.heap a (es.toList.map (·.2)) := by
  obtain ⟨o, ho, hex, hd⟩ := S.obj
  have hl := S.row.length
  rw [Array.length_toList] at hl
  have hs := S.small
  exact ⟨es, ep, t, ⟨o, ho, hex.1, hd⟩, S.fit, by omega, S.ris, S.led, rfl⟩

theorem scan_add {k : K} {x : Value} {Q : Bool → Shared → Prop} (S : Scanned kn s.heap a T es ep t) (hkey : kn.is k x = true) (hsc : x.scannable = true) (room : T.length + 1 < scanBound)
    (hQ : ∀ b h' T' es' ep' t', Heap.SameBut a s.heap h' → Scanned kn h' a T' es' ep' t' → (∀ y, y ∈ T' ↔ y = k ∨ y ∈ T) → T'.length ≤ T.length + 1 → Q b { s with heap := h' }) :
    wpAny (model P w) A (setAddHashed a x (kn.hash k)) Q E s := by
  obtain ⟨o, ho, hex, hd⟩ := S.obj
  have hel := elems_of S.row
  have hl := S.row.length
  rw [Array.length_toList] at hl
  have hb : es.size < scanBound := by rw [hl]; exact S.small
  unfold setAddHashed setAddHashedIn
  refine wpAny_holding (wpAny_bind (wpAny_setState_of ho hd S.fit ?_))
  dsimp only
  rw [byScan_of hsc hb hel]
  simp only [↓reduceIte]
  unfold setAddByScan
  refine wpAny_bind (wpAny_bind (wpAny_rule (wpAny_bind (wpAny_setScan_of hkey ho hd S.fit hel ?_))))
  cases hfi : List.findIdx? (fun e => kn.is k e.2) es.toList with
  | some j =>
    dsimp only
    obtain ⟨hj, pj, _⟩ := List.findIdx?_eq_some_iff_getElem.mp hfi
    have hk : k ∈ T := (scan_mem S.row k).2 ⟨_, List.getElem_mem hj, pj⟩
    exact wpAny_pure (wpAny_pure (hQ false s.heap T es ep t (Heap.SameBut.refl a s.heap) S (fun y => ⟨.inr, fun z => z.elim (fun e => e ▸ hk) id⟩) (Nat.le_succ _)))
  | none =>
    dsimp only
    have hk : k ∉ T := fun z => by
      obtain ⟨e, he, r⟩ := (scan_mem S.row k).1 z
      have c := List.findIdx?_eq_none_iff.mp hfi e he
      rw [r] at c
      cases c
    have pm := layNew_perm t es (kn.hash k) x
    have hf1 := layNew_fits t es (kn.hash k) x
    have hr1 := layNew_ris t es (kn.hash k) x S.ris
    have hl1 := layNew_led t es (kn.hash k) x
    generalize layNew t es (kn.hash k) x = Z at pm hf1 hr1 hl1 ⊢
    obtain ⟨es1, t1, wd, gave⟩ := Z
    dsimp only at pm hf1 hr1 hl1 ⊢
    rw [Array.toList_push] at pm
    have pc : es1.toList.Perm ((kn.hash k, x) :: es.toList) := pm.trans (List.perm_append_singleton _ _)
    obtain ⟨T1, q1, r1⟩ := each_perm pc (T := k :: T) (.cons ⟨hkey, rfl, hsc⟩ S.row)
    have n1 : T1.Nodup := q1.nodup_iff.mpr (List.nodup_cons.mpr ⟨hk, S.dif⟩)
    have mem1 : ∀ y, y ∈ T1 ↔ y = k ∨ y ∈ T := fun y => by rw [q1.mem_iff, List.mem_cons]
    have len1 : T1.length = T.length + 1 := q1.length_eq
    have sz1 : es1.size = T.length + 1 := by rw [← Array.length_toList, r1.length, len1]
    -- the end, whatever the table's plainness
    have fin : ∀ t2 : SetTable, t2.fits es1.size = true → Ris t2.place.toList → (w.params.followText "set-order" = true ∨ t2.led = true) →
        wpAny (model P w) A (do
          storeSet a es1 t2
          if (!wd && t2.tooFull) = true then do
              (match (relayAll t2 es1 (SetTable.grown es1.size)).2.2 with | true => rule "set.scan.the-table-gave-way" | false => pure ())
              storeSet a (relayAll t2 es1 (SetTable.grown es1.size)).1 (relayAll t2 es1 (SetTable.grown es1.size)).2.1
              pure (some true)
            else pure (some true)) (fun r s' => wpAny (model P w) A (match r with | some added => pure added | none => setAddHashedIn a x (kn.hash k) 99999) Q E s') E s := by
      intro t2 f2 i2 l2
      have fb : es1.size ≤ sizeLine := fits_of_scanBound (by omega)
      refine wpAny_bind (wpAny_storeSet_of ho hd ?_ fb)
      have ho1 := store_at (es' := es1) (t' := t2) ho hd
      have sb1 := Heap.SameBut.update s.heap a (Obj.putSet es1 t2)
      split
      · have pm2 := relayAll_perm t2 es1 (SetTable.grown es1.size)
        have hf3 := relayAll_fits t2 es1 (SetTable.grown es1.size)
        have hr3 := relayAll_ris t2 es1 (SetTable.grown es1.size)
        have hl3 := relayAll_led t2 es1 (SetTable.grown es1.size)
        generalize relayAll t2 es1 (SetTable.grown es1.size) = Z at pm2 hf3 hr3 hl3 ⊢
        obtain ⟨es2, t3, gave2⟩ := Z
        dsimp only at pm2 hf3 hr3 hl3 ⊢
        obtain ⟨T2, q2, r2⟩ := each_perm pm2 r1
        have sz2 : es2.size = es1.size := by rw [← Array.length_toList, pm2.length_eq, Array.length_toList]
        have hgw : ∀ (b : Bool) {s₁ : Shared} {Q' : Unit → Shared → Prop}, Q' () s₁ → wpAny (model P w) A (match b with | true => rule "set.scan.the-table-gave-way" | false => pure ()) Q' E s₁ :=
          fun b s₁ Q' q => by cases b <;> first | exact wpAny_pure q | exact wpAny_rule q
        refine wpAny_bind (hgw _ ?_)
        refine wpAny_bind (wpAny_storeSet_of ho1 rfl ?_ (by rw [sz2]; exact fb))
        have ho2 := store_at (es' := es2) (t' := t3) ho1 rfl
        refine wpAny_pure (wpAny_pure (hQ true _ T2 es2 _ t3 (sb1.trans (Heap.SameBut.update _ a _)) ⟨⟨_, ho2, hex, rfl⟩, r2, q2.nodup_iff.mpr n1, by rw [q2.length_eq, len1]; exact room, hf3, hr3, l2.imp id fun z => by rw [hl3]; exact z⟩ (fun y => by rw [q2.mem_iff]; exact mem1 y) (by rw [q2.length_eq, len1]; exact Nat.le_refl _)))
      · exact wpAny_pure (wpAny_pure (hQ true _ T1 es1 _ t2 sb1 ⟨⟨_, ho1, hex, rfl⟩, r1, n1, by rw [len1]; exact room, f2, i2, l2⟩ mem1 (by rw [len1]; exact Nat.le_refl _)))
    have led1 : w.params.followText "set-order" = true ∨ t1.led = true := S.led.imp id fun z => by rw [hl1]; exact z
    have hgw : ∀ (b : Bool) {s₁ : Shared} {Q' : Unit → Shared → Prop}, Q' () s₁ → wpAny (model P w) A (match b with | true => rule "set.scan.the-table-gave-way" | false => pure ()) Q' E s₁ :=
      fun b s₁ Q' q => by cases b <;> first | exact wpAny_pure q | exact wpAny_rule q
    refine wpAny_bind (hgw _ ?_)
    split
    · refine wpAny_bind ?_
      rw [hashByValue_scannable 8 hsc]
      refine wpAny_pure ?_
      cases plainKind x with
      | true => exact fin t1 hf1 hr1 led1
      | false => exact fin { t1 with plain := false } (SetTable.fits_plain_off hf1) hr1 led1
    · refine wpAny_bind (wpAny_pure ?_)
      exact fin t1 hf1 hr1 led1
end
end W30


/-! S5: set(xs) of texts and of tuples; sorted(..) of a thing whose items read as data. -/
namespace W30
open PySem PySem.Spec PyProof.Rows L2
open PySem.W (EachIs dataLe list_sort_data AllAlike Sortable)

section
variable {P : Program} {w : World} {A : Around} {E : Value → Shared → Prop} {s : Shared} {κ : Type} [DecidableEq κ]

theorem each_get {α β : Type} {R : α → β → Prop} : ∀ {as : List α} {bs : List β} {i : Nat} {a : α}, EachIs R as bs → as[i]? = some a → ∃ b, bs[i]? = some b ∧ R a b
  | _, _, _, _, .nil, h => by simp at h
  | _, _, 0, _, .cons r _, h => by simp at h; subst h; exact ⟨_, rfl, r⟩
  | _, _, i + 1, _, .cons _ t, h => by
    obtain ⟨b, h1, h2⟩ := each_get (i := i) t (by simpa using h)
    exact ⟨b, by simpa using h1, h2⟩
theorem take_at {α : Type} {l : List α} {i : Nat} {x : α} (h : l[i]? = some x) : l.take (i + 1) = l.take i ++ [x] := by
  rw [List.take_succ, h]; rfl

abbrev IsTxt (v : Value) (x : Str) : Prop := ∃ t, v = Value.str x t

/-- set(xs) of texts -/
theorem set_texts {l : Addr} {items : Array Value} {xs : List Str} {Q : Value → Shared → Prop} (hh : A.handled = none) (hl : s.heap.IsList l items) (hx : EachIs IsTxt items.toList xs) (hn : xs.length < 1000)
    (h : ∀ (h' : Heap) (tk : Nat) (vs : List Value) (T : List Str), Walked w h' s.heap.objs.size vs → EachIs IsTxt vs T → T.Nodup → (∀ y, y ∈ T ↔ y ∈ xs) → T.length ≤ xs.length → (∀ b o, s.heap.get? b = some o → h'.get? b = some o) →
      Q (.ref s.heap.objs.size) { s with heap := h', toks := tk }) :
    wpAny (model P w) A (call (.type "set") [.ref l]) Q E s := by
  have hlen : items.size = xs.length := by
    have q := hx.length
    rwa [Array.length_toList] at q
  have hS0 : s.heap.get? s.heap.objs.size = none := Heap.get?_none_of_le (Nat.le_refl _)
  refine call_set (G := fun i h' => ∃ T es ep t, Scanned (strKind P w) h' s.heap.objs.size T es ep t ∧ (∀ y, y ∈ T ↔ y ∈ xs.take i) ∧ T.length ≤ i) hh hl ⟨fun i h1 h2 g k1 k2 => ?_, fun i v s' E' Q' hv g hk hQ => ?_⟩ (fun h' hnew _ => ?_) fun h' tk g hk => ?_
  · obtain ⟨T, es, ep, t, S, m, len⟩ := g
    obtain ⟨o, ho, r⟩ := S.obj
    exact ⟨T, es, ep, t, ⟨⟨o, k1 o ho, r⟩, S.row, S.dif, S.small, S.fit, S.ris, S.led⟩, m, len⟩
  · obtain ⟨T, es, ep, t, S, m, len⟩ := g
    obtain ⟨x, hxi, tk, ev⟩ := each_get hx (by rw [Array.getElem?_toList]; exact hv)
    subst ev
    have hi : i < xs.length := (List.getElem?_eq_some_iff.mp hxi).1
    have hb : T.length + 1 < scanBound := by
      have e : scanBound = 4096 := rfl
      omega
    unfold setAdd
    refine wpAny_holding (wpAny_bind ((strKind P w).pyHash (strKind_is P w x tk) ?_))
    refine scan_add (s := { s' with toks := s'.toks + 1 }) (kn := strKind P w) S (strKind_is P w x tk) rfl hb fun b h2 T' es' ep' t' sb S' m' len' => ?_
    refine hQ b h2 _ (Nat.le_succ _) sb ⟨T', es', ep', t', S', fun y => ?_, by omega⟩
    rw [m', m, take_at hxi, List.mem_append, List.mem_singleton]
    exact Or.comm
  · refine ⟨[], #[], 0, _, ⟨⟨_, hnew, ⟨rfl, rfl, rfl⟩, rfl⟩, .nil, List.nodup_nil, by decide, by rfl, List.Pairwise.nil, ?_⟩, fun y => by simp, Nat.le_refl _⟩
    show _ ∨ (!w.params.followText "set-order") = true
    cases w.params.followText "set-order"
    · exact .inr rfl
    · exact .inl rfl
  · obtain ⟨T, es, ep, t, S, m, len⟩ := g
    refine h h' tk _ T (Scanned.walked (s := { s with heap := h' }) S) ?_ S.dif (fun y => by rw [m, hlen, List.take_length]) (by omega) hk
    refine each_map_l (R := IsTxt) (fun (e : Int × Value) => e.2) (S.row.mono fun e x he => ?_)
    obtain ⟨tk, e1⟩ := Value.isStrOf_shape (x := x) (v := e.2) he.1
    exact ⟨tk, e1⟩

/-- set(xs) of tuples that are keys -/
theorem set_keys {knd : HeapKind P w κ} (q : Quiet knd) {l : Addr} {items : Array Value} {ks : List (Addr × κ)} {Q : Value → Shared → Prop} (hh : A.handled = none) (hl : s.heap.IsList l items) (hit : items.toList = ks.map fun p => Value.ref p.1)
    (hk : ∀ p ∈ ks, knd.is s.heap p.2 p.1) (hn : ks.length < 64) (hu : knd.room A.in1.in1.in1)
    (h : ∀ (h' : Heap) (tk : Nat) (L : List (Addr × κ)), Walked w h' s.heap.objs.size (L.map fun p => Value.ref p.1) → (L.map (·.2)).Nodup → (∀ p ∈ L, p ∈ ks) → (∀ p ∈ ks, p.2 ∈ L.map (·.2)) → L.length < 64 → (∀ b o, s.heap.get? b = some o → h'.get? b = some o) →
      Q (.ref s.heap.objs.size) { s with heap := h', toks := tk }) :
    wpAny (model P w) A (call (.type "set") [.ref l]) Q E s := by
  have hlen : items.size = ks.length := by
    have e := congrArg List.length hit
    simpa using e
  have kept : ∀ {h' : Heap}, (∀ b o, s.heap.get? b = some o → h'.get? b = some o) → ∀ p ∈ ks, knd.is h' p.2 p.1 := fun k p hp => q.st.stays (fun b o _ _ e _ => k b o e) (hk p hp)
  refine call_set (G := fun i h' => ∃ L es ep t, Stored knd h' s.heap.objs.size L es ep t ∧ (∀ p ∈ L, p ∈ ks.take i) ∧ (∀ p ∈ ks.take i, p.2 ∈ L.map (·.2)) ∧ L.length ≤ i) hh hl ⟨fun i h1 h2 g k1 k2 => ?_, fun i v s' E' Q' hv g hk' hQ => ?_⟩ (fun h' hnew _ => ?_) fun h' tk g hk' => ?_
  · obtain ⟨L, es, ep, t, S, g1, g2, g3⟩ := g
    obtain ⟨o, ho, r⟩ := S.obj
    exact ⟨L, es, ep, t, ⟨⟨o, k1 o ho, r⟩, S.row, S.tab, S.dif, S.led, S.gap, S.few⟩, g1, g2, g3⟩
  · obtain ⟨L, es, ep, t, S, g1, g2, g3⟩ := g
    have hv' : (ks.map fun p => Value.ref p.1)[i]? = some v := by rw [← hit, Array.getElem?_toList]; exact hv
    rw [List.getElem?_map] at hv'
    obtain ⟨p, hp, ev⟩ := Option.map_eq_some_iff.mp hv'
    subst ev
    have hi : i < ks.length := (List.getElem?_eq_some_iff.mp hp).1
    have all := kept hk'
    have hpk := List.mem_of_getElem? hp
    unfold setAdd
    refine wpAny_holding (wpAny_bind (knd.pyHash hu (all p hpk) ?_))
    refine add_key (s := { s' with toks := s'.toks + knd.draws p.2 }) q S (fun r hr => all r (List.mem_of_mem_take (g1 r hr))) (all p hpk) hu (by omega) fun b h2 L' es' ep' t' sb S' c1 c2 => ?_
    refine hQ b h2 _ (Nat.le_add_right _ _) sb ⟨L', es', ep', t', S', ?_⟩
    rw [take_at hp]
    by_cases hm : p.2 ∈ L.map (·.2)
    · rw [c1 hm]
      refine ⟨fun r hr => List.mem_append_left _ (g1 r hr), fun r hr => ?_, by omega⟩
      rcases List.mem_append.mp hr with z | z
      · exact g2 r z
      · rw [List.mem_singleton.mp z]; exact hm
    · have pm := c2 hm
      refine ⟨fun r hr => ?_, fun r hr => ?_, by rw [pm.length_eq, List.length_cons]; omega⟩
      · rcases List.mem_cons.mp (pm.mem_iff.mp hr) with z | z
        · exact List.mem_append_right _ (List.mem_singleton.mpr z)
        · exact List.mem_append_left _ (g1 r z)
      · rw [(pm.map (·.2)).mem_iff, List.map_cons]
        rcases List.mem_append.mp hr with z | z
        · exact List.mem_cons_of_mem _ (g2 r z)
        · rw [List.mem_singleton.mp z]; exact List.mem_cons_self
  · have fresh : TabOk (.fresh 0 0 (!w.params.followText "set-order")) (hashesOf knd []) := ⟨List.Pairwise.nil, rfl, rfl, .inl rfl, (fun x hx => by cases hx), (fun i h j hi => by simp [hashesOf] at hi)⟩
    refine ⟨[], #[], 0, _, ⟨⟨_, hnew, ⟨rfl, rfl, rfl⟩, rfl⟩, rfl, fresh, List.nodup_nil, ?_, (by show 0 * 5 < 7 * 3; decide), (by show 0 < 64; decide)⟩, (fun p hp => by cases hp), (fun p hp => by cases hp), Nat.le_refl _⟩
    show _ ∨ (!w.params.followText "set-order") = true
    cases w.params.followText "set-order"
    · exact .inr rfl
    · exact .inl rfl
  · obtain ⟨L, es, ep, t, S, g1, g2, g3⟩ := g
    rw [hlen, List.take_length] at g1 g2
    obtain ⟨o, ho, hex, hd⟩ := S.obj
    have few := S.few
    refine h h' tk L ⟨es, ep, t, ⟨o, ho, hex.1, hd⟩, S.fits (s := { s with heap := h' }), ?_, S.tab.ris, S.led, ?_⟩ S.dif g1 g2 S.few hk'
    · rw [entries_len S.row]
      have e : scanBound = 4096 := rfl
      omega
    · rw [S.row]
      simp [entriesOf]

/-! ### sorted -/
/-- what is gathered from the thing at a reads as data (no list among it): some arrangement bs of the items that Bs lets -/
def Gathers (P : Program) (w : World) (A : Around) (s : Shared) (a : Addr) {β : Type} (R : Value → β → Prop) (enc : β → PyData) (Bs : List β → Prop) : Prop :=
  ∀ (E : Value → Shared → Prop) (Q : List Value → Shared → Prop),
    (∀ s' out bs, (∀ b o, s.heap.get? b = some o → s'.heap.get? b = some o) → s'.gens = s.gens → s'.os = s.os → Bs bs → EachIs R out bs → Q out s') → wpAny (model P w) A (collect (.ref a)) Q E s

theorem sorted_by {β : Type} {R : Value → β → Prop} {enc : β → PyData} {Bs : List β → Prop} {a : Addr} {Q : Value → Shared → Prop} (g : Gathers P w A.in1 s a R enc Bs)
    (hR : ∀ h' v b, (∀ b o, s.heap.get? b = some o → h'.get? b = some o) → R v b → Reads h' v (enc b) []) (hB : ∀ bs, Bs bs → AllAlike (bs.map enc) ∧ Sortable (bs.map enc) ∧ bs.length ≤ 1000 ∧ ∀ b ∈ bs, A.units + 2 + (enc b).depth < cLine)
    (hQ : ∀ (s' : Shared) (h1 : Heap) (p : Addr) (out : Array Value) (c : Nat) (bs : List β), (∀ b o, s.heap.get? b = some o → h1.get? b = some o) → (∀ b o, h1.get? b = some o → s'.heap.get? b = some o) → s'.gens = s.gens → s'.os = s.os → h1.objs.size ≤ p → s'.heap.get? p = some (seqObj "list" out c) → Bs bs →
      EachIs R out.toList (bs.mergeSort (dataLe false enc)) → Q (.ref p) s') :
    wpAny (model P w) A (call (.builtin "sorted") [.ref a]) Q E s := by
  refine Calls.call_function_entry kind_sorted plain_sorted entry_sorted (args_sorted1 _) ?_
  unfold Builtin.«sorted»
  refine wpAny_bind (m := checkCount "sorted" 1 1 _) (wpAny_pure ?_)
  refine wpAny_bind (g _ _ fun s1 vs bs k1 g1 o1 hb he => ?_)
  obtain ⟨b1, b2, b3, b4⟩ := hB bs hb
  have hvl : vs.length = bs.length := he.length
  have z1000 : 1000 ≤ sizeLine := by decide
  refine wpAny_bind (wpAny_newList ?_ (by omega))
  have hoL : (s1.heap.push (seqObj "list" vs.toArray 0)).get? s1.heap.objs.size = some (seqObj "list" vs.toArray 0) := Heap.get?_push_size _ rfl
  have er : EachIs (fun v b => ∃ as, Reads (s1.heap.push (seqObj "list" vs.toArray 0)) v (enc b) as ∧ s1.heap.objs.size ∉ as) vs bs := he.mono fun v b r => ⟨[], hR _ v b (fun c o e => Heap.get?_push_of_some _ (k1 c o e)) r, by simp⟩
  refine wpAny_bind (wpAny_holding (list_sort_data (s := { s1 with heap := s1.heap.push (seqObj "list" vs.toArray 0) }) (R := R) hoL he er b1 b2 (by omega) (fun b hb => by have := b4 b hb; show A.units + 1 + 1 + _ < _; omega) fun out _ hout => ?_))
  obtain ⟨c, hc⟩ := sortedHeap_at (vs := vs) (out := out.toArray) hoL
  refine wpAny_pure ⟨_, rfl, hQ _ s1.heap s1.heap.objs.size out.toArray c bs k1 (fun b u e1 => ?_) g1 o1 (Nat.le_refl _) hc hb (by simpa using hout)⟩
  have hlt := Heap.lt_size e1
  show (sortedHeap (s1.heap.push (seqObj "list" vs.toArray 0)) s1.heap.objs.size vs out.toArray).get? b = some u
  rw [sortedHeap_old (Nat.ne_of_lt hlt) (by rw [size_push']; exact Nat.lt_succ_of_lt hlt)]
  exact Heap.get?_push_of_some _ e1

/-- a set's members -/
theorem gathers_set {β : Type} {R : Value → β → Prop} {enc : β → PyData} {a : Addr} {vs : List Value} {T : List β} (hh : A.handled = none) (hw : Walked w s.heap a vs) (he : EachIs R vs T) : Gathers P w A s a R enc (fun bs => bs.Perm T) := by
  intro E Q hQ
  obtain ⟨es, ep, t, ha, hf, hsz, r, hl, ev⟩ := hw
  subst ev
  refine collect_set hh ha hf hsz r hl fun s' out k hz g o pm => ?_
  obtain ⟨T', q, e⟩ := each_perm pm he
  exact hQ s' out T' k g o q e
end
end W30


/-! S6: ranges (low, high, own) as data and as keys; orders of texts and of ranges; sorted lists are one. -/
namespace W30
open PySem PySem.Spec PyProof.Rows L2
open PySem.W (EachIs dataLe dataLt keyToks keyToksAll alike alikeAll AllAlike Sortable toks_all_cons str_of_cps)

/-- a range with its own keys -/
abbrev RT := Str × Str × List Str
def encS (x : Str) : PyData := .str x
def encR (r : RT) : PyData := .tuple [.str r.1, .str r.2.1, .tuple (r.2.2.map .str)]
def keyR (r : RT) : NestedKey := .tup [.text r.1, .text r.2.1, .tup (r.2.2.map .text)]

/-! ### alike -/
theorem alike_strs : ∀ xs ys : List Str, alikeAll (xs.map .str) (ys.map .str) = true
  | [], _ => by simp [alikeAll]
  | _ :: _, [] => by simp [alikeAll]
  | x :: xs, y :: ys => by
    show alikeAll (.str x :: xs.map .str) (.str y :: ys.map .str) = true
    rw [alikeAll, alike_strs xs ys]
    simp [alike]
theorem alikeS (x y : Str) : alike (encS x) (encS y) = true := by simp [encS, alike]
theorem alikeR (q r : RT) : alike (encR q) (encR r) = true := by
  simp only [encR, alike, alikeAll, alike_strs, Bool.and_self]
theorem depth_strs : ∀ xs : List Str, PyData.depthAll (xs.map .str) = 0
  | [] => by simp [PyData.depthAll]
  | x :: xs => by
    show PyData.depthAll (.str x :: xs.map .str) = 0
    rw [PyData.depthAll, depth_strs xs]
    simp [PyData.depth]
theorem depthS (x : Str) : (encS x).depth = 0 := by simp [encS, PyData.depth]
theorem depthR (r : RT) : (encR r).depth ≤ 2 := by
  simp [encR, PyData.depth, PyData.depthAll, depth_strs]

/-! ### the orders -/
abbrev ltS (x y : Str) : Bool := dataLt (encS x) (encS y)
abbrev ltR (q r : RT) : Bool := dataLt (encR q) (encR r)
theorem ltS_eq (x y : Str) : ltS x y = decide (x.cps.toList < y.cps.toList) := PySem.W.dataLt_str x y
theorem toks_str (x : Str) : keyToks (.str x) = [.inr x.cps.toList] := by simp [keyToks]
theorem toks_strs : ∀ (xs ys : List Str) (l m : List (Int ⊕ List Nat)), keyToksAll (xs.map .str) ++ l = keyToksAll (ys.map .str) ++ m → xs = ys
  | [], [], _, _, _ => rfl
  | [], y :: ys, l, m, h => by
    simp only [List.map_cons, List.map_nil, toks_all_cons, keyToksAll, List.cons_append] at h
    injection h with h _
    exact absurd (Sum.inl.inj h) (by decide)
  | x :: xs, [], l, m, h => by
    simp only [List.map_cons, List.map_nil, toks_all_cons, keyToksAll, List.cons_append] at h
    injection h with h _
    exact absurd (Sum.inl.inj h) (by decide)
  | x :: xs, y :: ys, l, m, h => by
    simp only [List.map_cons, toks_all_cons, toks_str, List.cons_append, List.nil_append] at h
    injection h with _ h
    injection h with h1 h
    rw [str_of_cps (Sum.inr.inj h1), toks_strs xs ys l m h]
theorem eq_of_toksS {x y : Str} (h : keyToks (encS x) = keyToks (encS y)) : x = y := by
  simp only [encS, toks_str] at h
  injection h with h _
  exact str_of_cps (Sum.inr.inj h)
theorem eq_of_toksR {q r : RT} (h : keyToks (encR q) = keyToks (encR r)) : q = r := by
  obtain ⟨q1, q2, q3⟩ := q
  obtain ⟨r1, r2, r3⟩ := r
  simp only [encR, keyToks, toks_all_cons, toks_str, List.cons_append, List.nil_append] at h
  injection h with _ h
  injection h with h1 h
  injection h with _ h
  injection h with h2 h
  injection h with _ h
  rw [str_of_cps (Sum.inr.inj h1), str_of_cps (Sum.inr.inj h2), toks_strs q3 r3 _ _ h]
theorem antiS {x y : Str} (h1 : ltS x y = false) (h2 : ltS y x = false) : x = y := eq_of_toksS (lex_total (O := itemOrd) _ _ h1 h2)
theorem antiR {q r : RT} (h1 : ltR q r = false) (h2 : ltR r q = false) : q = r := eq_of_toksR (lex_total (O := itemOrd) _ _ h1 h2)
theorem irrS (x : Str) : ltS x x = false := PyProof.Rows.lex_irrefl _
theorem irrR (r : RT) : ltR r r = false := PyProof.Rows.lex_irrefl _

/-! ### lists in order -/
/-- each item is less than all behind it -/
def Asc {β : Type} (lt : β → β → Bool) (l : List β) : Prop := l.Pairwise fun x y => lt x y = true
theorem Asc.nodup {β : Type} {lt : β → β → Bool} (irr : ∀ x, lt x x = false) {l : List β} (h : Asc lt l) : l.Nodup := h.imp fun {x y} q e => by
  subst e
  rw [irr] at q
  cases q
/-- a list in order (equal items let) without equal ones -/
theorem asc_of {β : Type} {lt : β → β → Bool} (anti : ∀ x y, lt x y = false → lt y x = false → x = y) {l : List β} (h : l.Pairwise fun x y => lt y x = false) (nd : l.Nodup) : Asc lt l := by
  refine (h.and nd).imp fun {x y} q => ?_
  cases e : lt x y with
  | true => rfl
  | false => exact absurd (anti x y e q.1) q.2
theorem asc_one {β : Type} {lt : β → β → Bool} (asym : ∀ x y, lt x y = true → lt y x = true → False) : ∀ {l m : List β}, Asc lt l → Asc lt m → (∀ x, x ∈ l ↔ x ∈ m) → l = m
  | [], [], _, _, _ => rfl
  | [], y :: m, _, _, h => absurd ((h y).2 List.mem_cons_self) (by simp)
  | x :: l, [], _, _, h => absurd ((h x).1 List.mem_cons_self) (by simp)
  | x :: l, y :: m, hl, hm, h => by
    obtain ⟨l1, l2⟩ := List.pairwise_cons.mp hl
    obtain ⟨m1, m2⟩ := List.pairwise_cons.mp hm
    have exy : x = y := by
      rcases List.mem_cons.mp ((h x).1 List.mem_cons_self) with e | e
      · exact e
      · rcases List.mem_cons.mp ((h y).2 List.mem_cons_self) with e2 | e2
        · exact e2.symm
        · exact (asym y x (m1 x e) (l1 y e2)).elim
    subst exy
    have irr : lt x x = false := by
      cases e : lt x x with
      | false => rfl
      | true => exact (asym x x e e).elim
    rw [asc_one asym l2 m2 fun z => ⟨fun hz => ?_, fun hz => ?_⟩]
    · rcases List.mem_cons.mp ((h z).1 (List.mem_cons_of_mem _ hz)) with e | e
      · subst e
        exact absurd (l1 z hz) (by rw [irr]; exact Bool.false_ne_true)
      · exact e
    · rcases List.mem_cons.mp ((h z).2 (List.mem_cons_of_mem _ hz)) with e | e
      · subst e
        exact absurd (m1 z hz) (by rw [irr]; exact Bool.false_ne_true)
      · exact e
theorem lex_asym (a b : List (Int ⊕ List Nat)) (h1 : PyProof.Rows.lexLt itemOrd a b = true) (h2 : PyProof.Rows.lexLt itemOrd b a = true) : False := by
  have h := PyProof.Rows.lex_trans (O := itemOrd) a b a h1 h2
  rw [PyProof.Rows.lex_irrefl] at h
  cases h
theorem asymS (x y : Str) (h1 : ltS x y = true) (h2 : ltS y x = true) : False := lex_asym _ _ h1 h2
theorem asymR (q r : RT) (h1 : ltR q r = true) (h2 : ltR r q = true) : False := lex_asym _ _ h1 h2
abbrev AscS : List Str → Prop := Asc ltS
abbrev AscR : List RT → Prop := Asc ltR

/-- what sorting by data gives, of unlike items -/
theorem sorted_asc {β γ : Type} {enc : γ → PyData} (f : β → γ) (anti : ∀ x y, dataLt (enc x) (enc y) = false → dataLt (enc y) (enc x) = false → x = y) {bs : List β} (nd : (bs.map f).Nodup) :
    Asc (fun x y => dataLt (enc x) (enc y)) ((bs.mergeSort (dataLe false fun b => enc (f b))).map f) := by
  have h := PySem.W.sort_pairwise (PySem.W.sortLe_total (PyProof.Rows.listOrd itemOrd) false fun b => keyToks (enc (f b))) bs
  refine asc_of anti (List.pairwise_map.mpr (h.imp fun {x y} q => ?_)) (((List.mergeSort_perm _ _).map f).nodup_iff.mpr nd)
  have q' : (!dataLt (enc (f y)) (enc (f x))) = true := q
  rwa [Bool.not_eq_true'] at q'
end W30


/-! S7: ranges as keys of sets and dicts, over the hand layer. -/
namespace W30
open PySem PySem.Spec PyProof.Rows L2
open PySem.W (EachIs dataLe dataLt AllAlike Sortable)

/-! ### the kind of key -/
theorem texts_inj : ∀ {xs ys : List Str}, xs.map NestedKey.text = ys.map NestedKey.text → xs = ys
  | [], [], _ => rfl
  | [], _ :: _, h => by cases h
  | _ :: _, [], h => by cases h
  | x :: xs, y :: ys, h => by
    injection h with h1 h2
    injection h1 with h1
    rw [h1, texts_inj h2]
theorem keyR_inj {q r : RT} (h : keyR q = keyR r) : q = r := by
  obtain ⟨q1, q2, q3⟩ := q
  obtain ⟨r1, r2, r3⟩ := r
  unfold keyR at h
  injection h with h
  injection h with h1 h
  injection h with h2 h
  injection h with h3 _
  injection h1 with h1
  injection h2 with h2
  injection h3 with h3
  have h1 : q1 = r1 := h1
  have h2 : q2 = r2 := h2
  rw [h1, h2, texts_inj (xs := q3) (ys := r3) h3]
def kindR (P : Program) (w : World) : HeapKind P w RT where
  is := fun h r a => (nestedKind P w).is h (keyR r) a
  hash := fun r => (nestedKind P w).hash (keyR r)
  draws := fun r => (nestedKind P w).draws (keyR r)
  room := (nestedKind P w).room
  inj := fun hx hy => keyR_inj ((nestedKind P w).inj hx hy)
  keeps := fun hx h1 h2 h3 => (nestedKind P w).keeps hx h1 h2 h3
  pyHash := fun hu hk h => (nestedKind P w).pyHash hu hk h
  eqBool := fun {A E s x y a b Q} hu hx hy h => (nestedKind P w).eqBool hu hx hy (by
    have e : decide (keyR x = keyR y) = decide (x = y) := decide_eq_decide.mpr ⟨keyR_inj, fun e => by rw [e]⟩
    rw [e]
    exact h)
  quiet := fun hk h => (nestedKind P w).quiet hk h

/-- where a range's tuples stand in the heap -/
structure RangeAt (h : Heap) (a : Addr) (r : RT) : Prop where
  ex : ∃ (o o2 : Obj) (b : Addr) (t1 t2 : Tok) (n n2 : Nat) (vs : List Value), h.get? a = some o ∧ o.cls = .type "tuple" ∧ o.data = .seq #[.str r.1 t1, .str r.2.1 t2, .ref b] n ∧ h.get? b = some o2 ∧ o2.cls = .type "tuple" ∧ o2.data = .seq vs.toArray n2 ∧ EachIs IsTxt vs r.2.2
theorem nested_texts {h : Heap} : ∀ {vs : List Value} {xs : List Str}, EachIs IsTxt vs xs → NestedAll h (xs.map NestedKey.text) vs
  | _, _, .nil => .nil
  | _, _, .cons ⟨t, e⟩ r => by subst e; exact .cons (.text _ t) (nested_texts r)
theorem texts_nested {h : Heap} : ∀ {xs : List Str} {vs : List Value}, NestedAll h (xs.map NestedKey.text) vs → EachIs IsTxt vs xs
  | [], _, r => by
    have r' : NestedAll h [] _ := r
    cases r'
    exact .nil
  | x :: xs, _, r => by
    have r' : NestedAll h (NestedKey.text x :: xs.map NestedKey.text) _ := r
    cases r' with
    | cons h1 h2 =>
      cases h1 with
      | text _ t => exact .cons ⟨t, rfl⟩ (texts_nested h2)
theorem reads_texts {h : Heap} : ∀ {vs : List Value} {xs : List Str}, EachIs IsTxt vs xs → ReadsAll h vs (xs.map PyData.str) []
  | _, _, .nil => .nil
  | _, _, .cons ⟨t, e⟩ r => by subst e; exact ReadsAll.cons (as := []) (bs := []) (.str _ t) (reads_texts r)
theorem depth_texts : ∀ xs : List Str, NestedKey.depthAll (xs.map .text) = 0
  | [] => by simp [NestedKey.depthAll]
  | x :: xs => by
    show NestedKey.depthAll (.text x :: xs.map .text) = 0
    simp [NestedKey.depthAll, NestedKey.depth, depth_texts xs]
theorem keyR_depth (r : RT) : (keyR r).depth ≤ 8 := by
  simp [keyR, NestedKey.depth, NestedKey.depthAll, depth_texts]
theorem RangeAt.is {P : Program} {w : World} {h : Heap} {a : Addr} {r : RT} (x : RangeAt h a r) : (kindR P w).is h r a := by
  obtain ⟨o, o2, b, t1, t2, n, n2, vs, e1, e2, e3, e4, e5, e6, e7⟩ := x.ex
  exact ⟨.tup e1 e2 e3 (.cons (.text _ t1) (.cons (.text _ t2) (.cons (.tup e4 e5 e6 (by simpa using nested_texts e7)) .nil))), keyR_depth r⟩
theorem RangeAt.of {P : Program} {w : World} {h : Heap} {a : Addr} {r : RT} (x : (kindR P w).is h r a) : RangeAt h a r := by
  obtain ⟨r1, r2, r3⟩ := r
  obtain ⟨y, _⟩ := x
  cases y with
  | @tup _ o vs n _ e1 e2 e3 e4 =>
    generalize hv : vs.toList = us at e4
    cases e4 with
    | cons a1 a2 =>
      cases a1 with
      | text _ t1 =>
        cases a2 with
        | cons b1 b2 =>
          cases b1 with
          | text _ t2 =>
            cases b2 with
            | cons c1 c2 =>
              cases c2
              cases c1 with
              | @tup b o2 ws n2 _ f1 f2 f3 f4 =>
                refine ⟨o, o2, b, t1, t2, n, n2, ws.toList, e1, e2, ?_, f1, f2, by simpa using f3, texts_nested f4⟩
                rw [e3, ← Array.toArray_toList (xs := vs), hv]
theorem RangeAt.reads {h : Heap} {a : Addr} {r : RT} (x : RangeAt h a r) : Reads h (.ref a) (encR r) [] := by
  obtain ⟨o, o2, b, t1, t2, n, n2, vs, e1, e2, e3, e4, e5, e6, e7⟩ := x.ex
  exact .tuple e1 e2 e3 (ReadsAll.cons (as := []) (bs := []) (.str _ t1) (ReadsAll.cons (as := []) (bs := []) (.str _ t2) (ReadsAll.cons (as := []) (bs := []) (.tuple e4 e5 e6 (by simpa using reads_texts e7)) .nil)))
theorem RangeAt.keep {h h' : Heap} {a : Addr} {r : RT} (x : RangeAt h a r) (k : ∀ b o, h.get? b = some o → h'.get? b = some o) : RangeAt h' a r := by
  obtain ⟨o, o2, b, t1, t2, n, n2, vs, e1, e2, e3, e4, e5, e6, e7⟩ := x.ex
  exact ⟨o, o2, b, t1, t2, n, n2, vs, k _ _ e1, e2, e3, k _ _ e4, e5, e6, e7⟩

section
variable {P : Program} {w : World} {A : Around} {E : Value → Shared → Prop} {s : Shared}
/-- a row of values none of which is of a class statement -/
theorem ofACls_row {n : Nat} {a : Addr} {o : Obj} {items : List Value} {m : Nat} {Q : Bool → Shared → Prop} (ho : s.heap.get? a = some o) (hc : o.cls = .type "tuple") (hd : o.data = .seq items.toArray m)
    (hi : ∀ v ∈ items, ∀ (Q' : Bool → Shared → Prop), Q' false s → wpAny (model P w) A (ofAClassStatement n v) Q' E s) (h : Q false s) : wpAny (model P w) A (ofAClassStatement (n + 1) (.ref a)) Q E s := by
  unfold ofAClassStatement
  refine wpAny_bind (wpAny_typeOf (T := "tuple") ⟨o, ho, hc⟩ ?_)
  dsimp only
  have e : (("tuple" : String) == "tuple") = true := by decide
  simp only [e, if_true]
  refine wpAny_bind (wpAny_pure ?_)
  simp only [Bool.not_true, Bool.false_eq_true, if_false]
  show wpAny _ _ (seqItems? (.ref a) >>= _) _ _ s
  refine wpAny_bind (wpAny_seqItems ho hd ?_)
  dsimp only
  refine wpAny_bind ?_
  show wpAny _ _ (forIn items.toArray _ _) _ _ s
  rw [← Array.forIn_toList]
  refine wpAny_forIn_list _ (fun rest r s' => r.1 = none ∧ s' = s ∧ ∀ v ∈ rest, v ∈ items) _ ?_ ?_ _ _ ⟨rfl, rfl, fun v hv => by simpa using hv⟩
  · intro v rest r s' hh
    obtain ⟨hr, e, hall⟩ := hh
    subst e
    refine wpAny_bind (hi v (hall v List.mem_cons_self) _ ?_)
    simp only [Bool.false_eq_true, if_false]
    exact wpAny_pure ⟨rfl, rfl, fun u hu => hall u (List.mem_cons_of_mem _ hu)⟩
  · intro r s' hh
    obtain ⟨r1, r2⟩ := r
    obtain ⟨hr, e, _⟩ := hh
    subst e
    have hr' : r1 = none := hr
    subst hr'
    exact wpAny_pure h
theorem ofACls_text (n : Nat) (x : Str) (t : Tok) : ofAClassStatement n (.str x t) = pure false := by cases n <;> rfl
theorem quietR : Quiet (kindR P w) where
  st := ⟨fun hk x => (nestedKind_stays (prog := P) (w := w)).stays hk x, fun x => (nestedKind_stays (prog := P) (w := w)).tuple x⟩
  cls := by
    intro A E s r a Q hk h
    obtain ⟨o, o2, b, t1, t2, n, n2, vs, e1, e2, e3, e4, e5, e6, e7⟩ := (RangeAt.of hk).ex
    refine ofACls_row (n := 7) (items := [.str r.1 t1, .str r.2.1 t2, .ref b]) e1 e2 e3 (fun v hv Q' h' => ?_) h
    rcases List.mem_cons.mp hv with e | hv
    · subst e; rw [ofACls_text]; exact wpAny_pure h'
    · rcases List.mem_cons.mp hv with e | hv
      · subst e; rw [ofACls_text]; exact wpAny_pure h'
      · rw [List.mem_singleton.mp hv]
        refine ofACls_row (n := 6) (items := vs) e4 e5 e6 (fun v hv Q' h' => ?_) h'
        obtain ⟨x, _, t, e⟩ := e7.left v hv
        subst e; rw [ofACls_text]; exact wpAny_pure h'
  hbv := by
    intro A E s r a Q hk h
    obtain ⟨o, o2, b, t1, t2, n, n2, vs, e1, e2, e3, e4, e5, e6, e7⟩ := (RangeAt.of hk).ex
    unfold hashByValue
    refine wpAny_bind (wpAny_specialOf (T := "tuple") ⟨o, e1, e2⟩ F.slot_tuple_hash.lookup ?_)
    show wpAny _ _ (seqItems? (.ref a) >>= _) _ _ s
    refine wpAny_bind (wpAny_seqItems e1 e3 ?_)
    refine wpAny_bind ?_
    show wpAny _ _ (forIn (#[.str r.1 t1, .str r.2.1 t2, .ref b] : Array Value) _ _) _ _ s
    rw [← Array.forIn_toList]
    show wpAny _ _ (forIn ([.str r.1 t1, .str r.2.1 t2, .ref b] : List Value) _ _) _ _ s
    rw [List.forIn_cons]
    have e8 : hashByValue 7 (.str r.1 t1) = pure false := rfl
    refine wpAny_bind ?_
    rw [e8]
    refine wpAny_bind (wpAny_pure ?_)
    simp only [Bool.not_false, if_true]
    refine wpAny_pure ?_
    dsimp only
    refine wpAny_pure ?_
    exact wpAny_pure (h false)
end
end W30


/-! S8: the rules over the hand layer: sets, sorted, dicts keyed by ranges, < of ranges. -/
namespace W30
open PySem PySem.Spec PyProof.Rows L2
open PySem.W (EachIs dataLe dataLt AllAlike Sortable)

theorem each_vals : ∀ {vs : List Value} {xs : List Str}, EachIs IsTxt vs xs → Vals (xs.map V.str) vs
  | _, _, .nil => .nil
  | _, _, .cons h t => .cons h (each_vals t)
theorem vals_each : ∀ {xs : List Str} {vs : List Value}, Vals (xs.map V.str) vs → EachIs IsTxt vs xs
  | [], _, .nil => .nil
  | _ :: _, _, .cons h t => .cons h (vals_each t)
theorem vals_refs : ∀ (L : List (Addr × RT)), Vals (L.map fun p => V.ref p.1) (L.map fun p => Value.ref p.1)
  | [] => .nil
  | p :: L => .cons rfl (vals_refs L)
theorem refs_vals : ∀ {L : List (Addr × RT)} {us : List Value}, Vals (L.map fun p => V.ref p.1) us → us = L.map fun p => Value.ref p.1
  | [], _, .nil => rfl
  | p :: L, _, .cons r t => by
    cases r
    rw [refs_vals t]; rfl

/-- the range r stands at a -/
def TupR (K : PySem.W.Frag) (H : Hp) (a : Addr) (r : RT) : Prop := ∃ b, SqT K H a [.str r.1, .str r.2.1, .ref b] ∧ SqT K H b (r.2.2.map V.str)

/-- a set of texts; a set of ranges (their addresses beside them) -/
def SetTxtO (w : World) (a : Addr) (T : List Str) : HO := .ext fun h => ∃ vs, Walked w h a vs ∧ EachIs IsTxt vs T
def SetRngO (w : World) (a : Addr) (L : List (Addr × RT)) : HO := .ext fun h => Walked w h a (L.map fun p => Value.ref p.1)
/-- a dict whose keys are ranges, all its worths True -/
def dicEntry (P : Program) (w : World) (x : Addr × RT) : DictEntry := ⟨(kindR P w).hash x.2, .ref x.1, .bool true⟩
def DicRO (P : Program) (w : World) (d : Addr) (L : List (Addr × RT)) : HO := .ext fun h => (d == sysModules) = false ∧ ∃ o es ep, h.get? d = some o ∧ o.ExactDict ∧ o.data = .dict es ep ∧ es.toList = L.map (dicEntry P w)

theorem walked_there {w : World} {h : Heap} {a : Addr} {vs : List Value} (x : Walked w h a vs) : ∃ o, h.get? a = some o := by
  obtain ⟨es, ep, t, ⟨o, ho, _⟩, _⟩ := x
  exact ⟨o, ho⟩
section
variable {P : Program} {w : World} {H : Hp} {h : Heap} {a : Addr}
theorem setTxt_new {T : List Str} {vs : List Value} (x : Walked w h a vs) (e : EachIs IsTxt vs T) : ObjOk P w H h a (SetTxtO w a T) :=
  ⟨⟨vs, x, e⟩, walked_there x, fun h1 h2 p k => by
    obtain ⟨vs, x, e⟩ := p
    exact ⟨vs, x.at k, e⟩⟩
theorem setRng_new {L : List (Addr × RT)} (x : Walked w h a (L.map fun p => Value.ref p.1)) : ObjOk P w H h a (SetRngO w a L) :=
  ⟨x, walked_there x, fun h1 h2 p k => p.at k⟩
theorem dicR_new {L : List (Addr × RT)} (lo : (a == sysModules) = false) {o : Obj} {es : Array DictEntry} {ep : Nat} (ho : h.get? a = some o) (hx : o.ExactDict) (hd : o.data = .dict es ep) (he : es.toList = L.map (dicEntry P w)) : ObjOk P w H h a (DicRO P w a L) :=
  ⟨⟨lo, o, es, ep, ho, hx, hd, he⟩, ⟨o, ho⟩, fun h1 h2 p k => by
    obtain ⟨lo, o, es, ep, ho, r⟩ := p
    exact ⟨lo, o, es, ep, k o ho, r⟩⟩
end

section
variable {X : Cx} {pins : List (Addr × Obj)} {σ : L2.St} {H : Hp} {s : Shared}
theorem range_at {a : Addr} {r : RT} (I : Inv X pins σ H s) (h : TupR X.K H a r) : RangeAt s.heap a r := by
  obtain ⟨b, h1, h2⟩ := h
  obtain ⟨its, r1, ⟨o, e1, e2, n, e3⟩, _⟩ := I.tuple h1
  obtain ⟨its2, r2, ⟨o2, f1, f2, n2, f3⟩, _⟩ := I.tuple h2
  cases r1 with
  | cons a1 a2 =>
    cases a2 with
    | cons b1 b2 =>
      cases b2 with
      | cons c1 c2 =>
        cases c2
        obtain ⟨t1, rfl⟩ := a1
        obtain ⟨t2, rfl⟩ := b1
        cases c1
        exact ⟨o, o2, b, t1, t2, n, n2, its2, e1, e2, e3, f1, f2, f3, vals_each r2⟩
/-- a new object at p, all else kept, whatever was drawn -/
theorem laid_by {s' : Shared} {h1 : Heap} {p : Addr} {ob : HO} (I : Inv X pins σ H s) (k1 : ∀ b o, s.heap.get? b = some o → h1.get? b = some o) (k : ∀ b o, h1.get? b = some o → s'.heap.get? b = some o) (g : s'.gens = s.gens) (o : s'.os = s.os) (hp : h1.objs.size ≤ p)
    (new : ObjOk X.prog X.w (upd H p ob) s'.heap p ob) : Inv X pins σ (upd H p ob) s' ∧ H p = none := by
  have I1 : Inv X pins σ H { s with heap := h1, toks := s.toks } := I.kept k1
  have hn : H p = none := I1.hok.fresh hp
  exact ⟨I1.call' (ch := []) o (Un.laid k hp hn) (I1.hok.laid k hp new) (by rw [g]; exact I.bare) (fun _ z => nomatch z), hn⟩

/-- set(xs) of texts -/
def rSetTxt (K : PySem.W.Frag) (w : World) : List V → Hp → VK → Prop := fun xs H Q => ∃ (l : Addr) (zs : List Str), xs = [V.ref l] ∧ SqL K H l (zs.map V.str) ∧ zs.length < 1000 ∧
  ∀ a T, H a = none → T.Nodup → (∀ y, y ∈ T ↔ y ∈ zs) → T.length ≤ zs.length → Q (.ref a) (upd H a (SetTxtO w a T))
theorem cr_setTxt (hc : X.calm = true) : CallR X (.type "set") (rSetTxt X.K X.w) := by
  intro pins s σ H xs us Q I r h
  obtain ⟨l, zs, rfl, hl, hn, q⟩ := h
  rw [Vals.ref1 r]
  obtain ⟨its, rv, pl, hz⟩ := I.list hl
  refine set_texts (P := X.prog) (w := X.w) (xs := zs) (I.ok.hd hc) pl.isList (by simpa using vals_each rv) hn fun h' tk vs T wk e nd m len k => ?_
  have hf : H s.heap.objs.size = none := I.hok.fresh (Nat.le_refl _)
  exact ⟨.ref s.heap.objs.size, _, I.laid (t' := tk) k (Nat.le_refl _) (setTxt_new wk e), rfl, q _ T hf nd m len⟩
/-- set(xs) of ranges -/
def rSetRng (K : PySem.W.Frag) (w : World) : List V → Hp → VK → Prop := fun xs H Q => ∃ (l : Addr) (ks : List (Addr × RT)), xs = [V.ref l] ∧ SqL K H l (ks.map fun p => V.ref p.1) ∧ (∀ p ∈ ks, TupR K H p.1 p.2) ∧ ks.length < 64 ∧
  ∀ a L, H a = none → (L.map (·.2)).Nodup → (∀ p ∈ L, p ∈ ks) → (∀ p ∈ ks, p.2 ∈ L.map (·.2)) → L.length < 64 → Q (.ref a) (upd H a (SetRngO w a L))
theorem cr_setRng (hc : X.calm = true) (hu : X.A.units + 64 < cLine) : CallR X (.type "set") (rSetRng X.K X.w) := by
  intro pins s σ H xs us Q I r h
  obtain ⟨l, ks, rfl, hl, hk, hn, q⟩ := h
  rw [Vals.ref1 r]
  obtain ⟨its, rv, pl, hz⟩ := I.list hl
  refine set_keys (P := X.prog) (w := X.w) (ks := ks) (quietR (P := X.prog) (w := X.w)) (I.ok.hd hc) pl.isList (by simpa using refs_vals rv) (fun p hp => (range_at I (hk p hp)).is) hn (by show X.A.units + 1 + 1 + 1 + 8 < cLine; omega) fun h' tk L wk nd g1 g2 few k => ?_
  have hf : H s.heap.objs.size = none := I.hok.fresh (Nat.le_refl _)
  exact ⟨.ref s.heap.objs.size, _, I.laid (t' := tk) k (Nat.le_refl _) (setRng_new wk), rfl, q _ L hf nd g1 g2 few⟩

/-! ### sorted -/
theorem alike_all_S (bs : List Str) : AllAlike (bs.map encS) := AllAlike.of (fun b b' => alikeS b b')
theorem sortable_S (bs : List Str) : Sortable (bs.map encS) := Sortable.others fun b => ⟨(fun e => by cases e), (fun xs e => by cases e)⟩
/-- sorted(thing) of gathered texts -/
theorem sorted_txt {a : Addr} {T : List Str} {Q : VK} (I : Inv X pins σ H s) (hu : X.A.units + 64 < cLine) (g : Gathers X.prog X.w X.A.in1 s a IsTxt encS (fun bs => bs.Perm T)) (nd : T.Nodup) (hn : T.length ≤ 1000)
    (q : ∀ ys p, AscS ys → ys.Perm T → H p = none → Q (.ref p) (upd H p (.lst (ys.map V.str)))) : wpAny (model X.prog X.w) X.A (call (.builtin "sorted") [.ref a]) (EP X pins σ Q) X.xe s := by
  refine sorted_by g (fun h' v b k e => ?_) (fun bs hb => ⟨alike_all_S bs, sortable_S bs, by rw [hb.length_eq]; exact hn, fun b _ => by rw [depthS]; omega⟩) fun s' h1 p out c bs k1 k gg o hp ho hb he => ?_
  · obtain ⟨t, rfl⟩ := e
    exact .str _ _
  · have hp2 := (List.mergeSort_perm bs (dataLe false encS)).trans hb
    have hlen : ((bs.mergeSort (dataLe false encS)).map V.str).length ≤ sizeLine := by
      rw [List.length_map, hp2.length_eq, sizeLine_eq]
      omega
    have as := sorted_asc (enc := encS) (fun x : Str => x) (fun x y h1 h2 => antiS h1 h2) (bs := bs) (by rw [List.map_id']; exact hb.nodup_iff.mpr nd)
    rw [List.map_id'] at as
    obtain ⟨J, hf⟩ := laid_by (ob := .lst ((bs.mergeSort (dataLe false encS)).map V.str)) I k1 k gg o hp ⟨hlen, out.toList, c, each_vals he, by simpa using ho⟩
    exact ⟨.ref p, _, J, rfl, q _ p as hp2 hf⟩
theorem sorted_rng {a : Addr} {L : List (Addr × RT)} {Q : VK} (I : Inv X pins σ H s) (hu : X.A.units + 64 < cLine) (hL : ∀ p ∈ L, TupR X.K H p.1 p.2)
    (g : Gathers X.prog X.w X.A.in1 s a (fun v (p : Addr × RT) => v = .ref p.1 ∧ RangeAt s.heap p.1 p.2) (fun p => encR p.2) (fun bs => bs.Perm L)) (nd : (L.map (·.2)).Nodup) (hn : L.length ≤ 1000)
    (q : ∀ (L' : List (Addr × RT)) p, AscR (L'.map (·.2)) → L'.Perm L → H p = none → Q (.ref p) (upd H p (.lst (L'.map fun z => V.ref z.1)))) : wpAny (model X.prog X.w) X.A (call (.builtin "sorted") [.ref a]) (EP X pins σ Q) X.xe s := by
  refine sorted_by g (fun h' v b k e => ?_) (fun bs hb => ⟨AllAlike.of (fun b b' => alikeR b.2 b'.2), Sortable.tuples (fun b => ⟨_, _, rfl⟩), by rw [hb.length_eq]; exact hn, fun b _ => by have := depthR b.2; omega⟩) fun s' h1 p out c bs k1 k gg o hp ho hb he => ?_
  · rw [e.1]
    exact (e.2.keep k).reads
  · have hp2 := (List.mergeSort_perm bs (dataLe false fun p : Addr × RT => encR p.2)).trans hb
    have hlen : ((bs.mergeSort (dataLe false fun p : Addr × RT => encR p.2)).map fun z => V.ref z.1).length ≤ sizeLine := by
      rw [List.length_map, hp2.length_eq, sizeLine_eq]
      omega
    have as := sorted_asc (enc := encR) (fun p : Addr × RT => p.2) (fun x y h1 h2 => antiR h1 h2) (bs := bs) ((hb.map (·.2)).nodup_iff.mpr nd)
    have hv : out.toList = (bs.mergeSort (dataLe false fun p : Addr × RT => encR p.2)).map fun z => Value.ref z.1 := by
      have key : ∀ {vs : List Value} {zs : List (Addr × RT)}, EachIs (fun v (p : Addr × RT) => v = .ref p.1 ∧ RangeAt s.heap p.1 p.2) vs zs → vs = zs.map fun z => Value.ref z.1 := by
        intro vs zs h
        induction h with
        | nil => rfl
        | cons h1 _ ih => rw [h1.1, ih]; rfl
      exact key he
    obtain ⟨J, hf⟩ := laid_by (ob := .lst ((bs.mergeSort (dataLe false fun p : Addr × RT => encR p.2)).map fun z => V.ref z.1)) I k1 k gg o hp ⟨hlen, out.toList, c, by rw [hv]; exact vals_refs _, by simpa using ho⟩
    exact ⟨.ref p, _, J, rfl, q _ p as hp2 hf⟩

def rSortedTxt (w : World) : List V → Hp → VK → Prop := fun xs H Q => ∃ (a : Addr) (T : List Str), xs = [V.ref a] ∧ H a = some (SetTxtO w a T) ∧ T.Nodup ∧ T.length ≤ 1000 ∧
  ∀ ys p, AscS ys → ys.Perm T → H p = none → Q (.ref p) (upd H p (.lst (ys.map V.str)))
theorem cr_sortedTxt (hc : X.calm = true) (hu : X.A.units + 64 < cLine) : CallR X (.builtin "sorted") (rSortedTxt X.w) := by
  intro pins s σ H xs us Q I r h
  obtain ⟨a, T, rfl, ha, nd, hn, q⟩ := h
  rw [Vals.ref1 r]
  obtain ⟨⟨vs, wk, e⟩, _, _⟩ := I.hok a _ ha
  exact sorted_txt I hu (gathers_set (I.ok.hd hc) wk e) nd hn q
def rSortedRng (K : PySem.W.Frag) (w : World) : List V → Hp → VK → Prop := fun xs H Q => ∃ (a : Addr) (L : List (Addr × RT)), xs = [V.ref a] ∧ H a = some (SetRngO w a L) ∧ (∀ p ∈ L, TupR K H p.1 p.2) ∧ (L.map (·.2)).Nodup ∧ L.length ≤ 1000 ∧
  ∀ (L' : List (Addr × RT)) p, AscR (L'.map (·.2)) → L'.Perm L → H p = none → Q (.ref p) (upd H p (.lst (L'.map fun z => V.ref z.1)))
theorem each_refs {h : Heap} : ∀ {L : List (Addr × RT)}, (∀ p ∈ L, RangeAt h p.1 p.2) → EachIs (fun v (p : Addr × RT) => v = .ref p.1 ∧ RangeAt h p.1 p.2) (L.map fun p => Value.ref p.1) L
  | [], _ => .nil
  | p :: L, hL => .cons ⟨rfl, hL p List.mem_cons_self⟩ (each_refs fun q hq => hL q (List.mem_cons_of_mem _ hq))
theorem cr_sortedRng (hc : X.calm = true) (hu : X.A.units + 64 < cLine) : CallR X (.builtin "sorted") (rSortedRng X.K X.w) := by
  intro pins s σ H xs us Q I r h
  obtain ⟨a, L, rfl, ha, hL, nd, hn, q⟩ := h
  rw [Vals.ref1 r]
  have wk : Walked X.w s.heap a (L.map fun p => Value.ref p.1) := (I.hok a _ ha).1
  exact sorted_rng I hu hL (gathers_set (I.ok.hd hc) wk (each_refs fun p hp => range_at I (hL p hp))) nd hn q

/-! ### dicts -/
theorem gathers_dict {β : Type} {R : Value → β → Prop} {enc : β → PyData} {A : Around} {d : Addr} {es : Array DictEntry} {ep : Nat} {T : List β} {P : Program} {w : World} (hh : A.handled = none) (lo : (d == sysModules) = false) (hd : s.heap.DictRaw d es ep) (hn : es.size ≤ sizeLine)
    (he : EachIs R (es.toList.map (·.key)) T) : Gathers P w A s d R enc (fun bs => bs.Perm T) := by
  intro E Q hQ
  refine PySem.W.kdu_collect (PySem.KdlSrc.rawDict (prog := P) (w := w) lo) hh hd hn fun h' tk acc k hacc => ?_
  have e : acc.toList = es.toList.map (·.key) := by
    apply List.ext_getElem?
    intro i
    by_cases hi : i < es.size
    · have hi2 : i < acc.size := by rw [hacc.1]; exact hi
      obtain ⟨_, ev⟩ := hacc.2 i acc[i] (Array.getElem?_eq_getElem hi2)
      rw [Array.getElem?_toList, Array.getElem?_eq_getElem hi2, List.getElem?_map, Array.getElem?_toList, Array.getElem?_eq_getElem hi, ev]
      rfl
    · have h1 : acc.toList.length ≤ i := by rw [Array.length_toList, hacc.1]; omega
      have h2 : (es.toList.map (·.key)).length ≤ i := by rw [List.length_map, Array.length_toList]; omega
      rw [List.getElem?_eq_none h1, List.getElem?_eq_none h2]
  rw [e]
  exact hQ _ _ T k rfl rfl (.refl _) he
end
end W30


/-! S9: dicts keyed by ranges: made, stored, sorted; sorted of a dict of texts and of a list of texts; < of texts and of ranges. -/
namespace W30
open PySem PySem.Spec PyProof.Rows L2
open PySem.W (EachIs dataLe dataLt AllAlike Sortable)

theorem each_of_get {α β : Type} {R : α → β → Prop} : ∀ {as : List α} {bs : List β}, as.length = bs.length → (∀ (i : Nat) a b, as[i]? = some a → bs[i]? = some b → R a b) → EachIs R as bs
  | [], [], _, _ => .nil
  | [], _ :: _, h, _ => by simp at h
  | _ :: _, [], h, _ => by simp at h
  | a :: as, b :: bs, h, g => .cons (g 0 a b rfl rfl) (each_of_get (by simpa using h) fun i x y h1 h2 => g (i + 1) x y (by simpa using h1) (by simpa using h2))

/-- a range put as a key -/
def putR (L : List (Addr × RT)) (a : Addr) (r : RT) : List (Addr × RT) := if r ∈ L.map (·.2) then L else L ++ [(a, r)]
theorem putR_keys (L : List (Addr × RT)) (a : Addr) (r x : RT) : x ∈ (putR L a r).map (·.2) ↔ x = r ∨ x ∈ L.map (·.2) := by
  unfold putR
  split
  · rename_i h
    exact ⟨.inr, fun z => z.elim (fun e => e ▸ h) id⟩
  · rw [List.map_append, List.mem_append]
    simp only [List.map_cons, List.map_nil, List.mem_singleton]
    exact Or.comm
theorem putR_nodup {L : List (Addr × RT)} {a : Addr} {r : RT} (h : (L.map (·.2)).Nodup) : ((putR L a r).map (·.2)).Nodup := by
  unfold putR
  split
  · exact h
  · rename_i n
    rw [List.map_append]
    refine List.nodup_append.mpr ⟨h, by simp, fun x hx y hy => ?_⟩
    simp only [List.map_cons, List.map_nil, List.mem_singleton] at hy
    subst hy
    exact fun e => n (e ▸ hx)
theorem putR_mem {L : List (Addr × RT)} {a : Addr} {r : RT} {p : Addr × RT} (h : p ∈ putR L a r) : p = (a, r) ∨ p ∈ L := by
  unfold putR at h
  split at h
  · exact .inr h
  · rcases List.mem_append.mp h with z | z
    · exact .inr z
    · exact .inl (List.mem_singleton.mp z)
theorem putR_len (L : List (Addr × RT)) (a : Addr) (r : RT) : (putR L a r).length ≤ L.length + 1 := by
  unfold putR
  split
  · omega
  · simp

abbrev rowsR (L : List (Addr × RT)) : List (RT × Addr × Value) := L.map fun p => (p.2, p.1, .bool true)
theorem rowsR_entries (P : Program) (w : World) (L : List (Addr × RT)) : (rowsR L).map (entryOfKey (kindR P w)) = L.map (dicEntry P w) := by
  rw [List.map_map]
  rfl
theorem rowsR_at (L : List (Addr × RT)) (r : RT) : (atKey (rowsR L) r).isSome = decide (r ∈ L.map (·.2)) := by
  induction L with
  | nil => rfl
  | cons p L ih =>
    by_cases h : p.2 = r
    · subst h
      simp [atKey, rowsR]
    · have h2 : ¬ r = p.2 := fun e => h e.symm
      have e : atKey (rowsR (p :: L)) r = atKey (rowsR L) r := by simp [atKey, rowsR, h]
      rw [e, ih]
      simp [h2]
theorem rowsR_put (L : List (Addr × RT)) (a : Addr) (r : RT) : storedH (rowsR L) r a (.bool true) = rowsR (putR L a r) := by
  unfold storedH putR
  rw [rowsR_at]
  by_cases h : r ∈ L.map (·.2)
  · rw [if_pos (by simpa using h), if_pos h]
    have key : ∀ M : List (Addr × RT), (rowsR M).map (putAt r (.bool true)) = rowsR M := by
      intro M
      induction M with
      | nil => rfl
      | cons p M ih =>
        show putAt r (.bool true) (p.2, p.1, .bool true) :: (rowsR M).map (putAt r (.bool true)) = _
        rw [ih]
        have e : putAt r (.bool true) (p.2, p.1, Value.bool true) = (p.2, p.1, Value.bool true) := by
          unfold putAt
          split <;> rfl
        rw [e]
        rfl
    exact key L
  · rw [if_neg (by simpa using h), if_neg h]
    simp [rowsR]

section
variable {X : Cx} {pins : List (Addr × Obj)} {σ : L2.St} {H : Hp} {s : Shared} {pos : Pos}
/-- {}, to be a dict keyed by ranges -/
def tDNewR (P : Program) (w : World) : TE := fun _ H Q => ∀ p, H p = none → Q (.ref p) (upd H p (DicRO P w p []))
theorem pe_dnewR : PE X (.Dict [] [] pos) (tDNewR X.prog X.w) := ⟨fun pins s σ H Q I h =>
  wpAny_Dict_empty ⟨.ref s.heap.objs.size, _, I.laid (a := s.heap.objs.size) (o := DicRO X.prog X.w s.heap.objs.size []) (t' := s.toks) (fun _ _ q => Heap.get?_push_of_some _ q) (Nat.le_refl _)
    (dicR_new (beq_eq_false_iff_ne.mpr (Ne.symm (Nat.ne_of_lt I.big))) (Heap.get?_push_size _ rfl) ⟨rfl, rfl, rfl⟩ (es := #[]) rfl rfl), rfl, h _ (I.hok.fresh (Nat.le_refl _))⟩⟩

/-- the dict at d, as the library tells it -/
theorem dicR_at {d : Addr} {L : List (Addr × RT)} (I : Inv X pins σ H s) (hd : H d = some (DicRO X.prog X.w d L)) (hL : ∀ p ∈ L, TupR X.K H p.1 p.2) (nd : (L.map (·.2)).Nodup) :
    (d == sysModules) = false ∧ s.heap.DictOfH (kindR X.prog X.w) d (rowsR L) ∧ ∃ es ep, s.heap.DictRaw d es ep ∧ es.toList = L.map (dicEntry X.prog X.w) := by
  obtain ⟨⟨lo, o, es, ep, ho, hx, hdd, he⟩, _, _⟩ := I.hok d _ hd
  refine ⟨lo, ⟨o, es, ep, ho, hx, hdd, by rw [rowsR_entries]; exact he, fun x hx => ?_, ?_⟩, es, ep, ⟨o, ho, hx, hdd⟩, he⟩
  · obtain ⟨p, hp, e⟩ := List.mem_map.mp hx
    subst e
    exact (range_at I (hL p hp)).is
  · rw [List.map_map]
    exact nd
def sDicR (K : PySem.W.Frag) (P : Program) (w : World) : TSet := fun o i v H Q => ∃ (d a : Addr) (L : List (Addr × RT)) (r : RT), o = .ref d ∧ i = .ref a ∧ v = .bl true ∧ H d = some (DicRO P w d L) ∧ (∀ p ∈ L, TupR K H p.1 p.2) ∧ (L.map (·.2)).Nodup ∧ TupR K H a r ∧ L.length < 1000 ∧
  Q (upd H d (DicRO P w d (putR L a r)))
theorem set_dicR (hu : X.A.units + 64 < cLine) : PSet X (sDicR X.K X.prog X.w) := by
  intro pins s σ H o i v ov iv u Q I ro ri rv h
  obtain ⟨d, a, L, r, rfl, rfl, rfl, hd, hL, nd, hr, hn, q⟩ := h
  cases ro
  cases ri
  cases rv
  obtain ⟨lo, dd, _⟩ := dicR_at I hd hL nd
  refine wpAny_setItem_heap (knd := kindR X.prog X.w) (k := r) (by show X.A.units + 1 + 8 < cLine; omega) (range_at I hr).is dd (fun h' dd' sb => ?_) (by rw [List.length_map]; exact Nat.le_trans (Nat.le_of_lt hn) (by decide))
  rw [rowsR_put] at dd'
  obtain ⟨ob, es, ep, ho, hx, hdd, he, _, _⟩ := dd'
  rw [rowsR_entries] at he
  exact ⟨_, d_write I (by rw [hd]; exact True.intro) sb ⟨ob, ho⟩ (dicR_new lo ho hx hdd he), q⟩

/-- sorted(d), d keyed by ranges -/
def rSortedDicR (K : PySem.W.Frag) (P : Program) (w : World) : List V → Hp → VK → Prop := fun xs H Q => ∃ (a : Addr) (L : List (Addr × RT)), xs = [V.ref a] ∧ H a = some (DicRO P w a L) ∧ (∀ p ∈ L, TupR K H p.1 p.2) ∧ (L.map (·.2)).Nodup ∧ L.length ≤ 1000 ∧
  ∀ (L' : List (Addr × RT)) p, AscR (L'.map (·.2)) → L'.Perm L → H p = none → Q (.ref p) (upd H p (.lst (L'.map fun z => V.ref z.1)))
theorem cr_sortedDicR (hc : X.calm = true) (hu : X.A.units + 64 < cLine) : CallR X (.builtin "sorted") (rSortedDicR X.K X.prog X.w) := by
  intro pins s σ H xs us Q I r h
  obtain ⟨a, L, rfl, ha, hL, nd, hn, q⟩ := h
  rw [Vals.ref1 r]
  obtain ⟨lo, _, es, ep, raw, he⟩ := dicR_at I ha hL nd
  have hsz : es.size ≤ sizeLine := by
    have e := congrArg List.length he
    rw [Array.length_toList, List.length_map] at e
    rw [e, sizeLine_eq]
    omega
  refine sorted_rng I hu hL (gathers_dict (I.ok.hd hc) lo raw hsz ?_) nd hn q
  rw [he, List.map_map]
  exact each_refs fun p hp => range_at I (hL p hp)

/-- sorted(d), d keyed by texts -/
def rSortedDic : List V → Hp → VK → Prop := fun xs H Q => ∃ (a : Addr) (kvs : List (Key × V)) (ks : List Str), xs = [V.ref a] ∧ H a = some (.dK kvs) ∧ kvs.map (·.1) = ks.map Sum.inr ∧ ks.Nodup ∧ ks.length ≤ 1000 ∧
  ∀ ys p, AscS ys → ys.Perm ks → H p = none → Q (.ref p) (upd H p (.lst (ys.map V.str)))
theorem cr_sortedDic (hc : X.calm = true) (hu : X.A.units + 64 < cLine) : CallR X (.builtin "sorted") rSortedDic := by
  intro pins s σ H xs us Q I r h
  obtain ⟨a, kvs, ks, rfl, ha, hks, nd, hn, q⟩ := h
  rw [Vals.ref1 r]
  obtain ⟨z, lo, vs, rel, dd⟩ := dk_rd I.hok (.inl ha)
  obtain ⟨es, ep, raw, hsz, hes⟩ := dd.raw
  have hkeys : vs.map (·.1) = ks.map Sum.inr := rel.keys.symm.trans hks
  have hlen : vs.length = ks.length := by
    have e := congrArg List.length hkeys
    rwa [List.length_map, List.length_map] at e
  refine sorted_txt I hu (gathers_dict (I.ok.hd hc) lo raw (by rw [hsz, hlen, sizeLine_eq]; omega) (each_of_get (by rw [List.length_map, Array.length_toList, hsz, hlen]) fun i v x h1 h2 => ?_)) nd hn q
  rw [List.getElem?_map] at h1
  obtain ⟨e, he, ev⟩ := Option.map_eq_some_iff.mp h1
  rw [Array.getElem?_toList] at he
  obtain ⟨hi, he2⟩ := Array.getElem?_eq_some_iff.mp he
  have hvi : (vs.map (·.1))[i]? = some (Sum.inr x) := by rw [hkeys, List.getElem?_map, h2]; rfl
  rw [List.getElem?_map] at hvi
  obtain ⟨kv, hkv, ek⟩ := Option.map_eq_some_iff.mp hvi
  obtain ⟨k0, v0⟩ := kv
  have ek' : k0 = Sum.inr x := ek
  subst ek'
  have hk := (hes i hi (Sum.inr x) v0 hkv).1
  rw [he2, ev] at hk
  exact Value.isStrOf_shape (x := x) (v := v) hk

/-- sorted(xs), a list of unlike texts -/
def rSortedLst (K : PySem.W.Frag) : List V → Hp → VK → Prop := fun xs H Q => ∃ (a : Addr) (zs : List Str), xs = [V.ref a] ∧ SqL K H a (zs.map V.str) ∧ zs.Nodup ∧ zs.length ≤ 1000 ∧
  ∀ ys p, AscS ys → ys.Perm zs → H p = none → Q (.ref p) (upd H p (.lst (ys.map V.str)))
theorem cr_sortedLst (hu : X.A.units + 64 < cLine) : CallR X (.builtin "sorted") (rSortedLst X.K) := by
  intro pins s σ H xs us Q I r h
  obtain ⟨a, zs, rfl, hl, nd, hn, q⟩ := h
  rw [Vals.ref1 r]
  obtain ⟨its, rv, pl, hz⟩ := I.list hl
  have e := vals_each rv
  refine PySem.W.sorted_data (prog := X.prog) (w := X.w) (enc := encS) (R := IsTxt) pl.isList e (e.mono fun v x ⟨t, ev⟩ => ⟨[], by subst ev; exact .str _ _⟩) (alike_all_S zs) (sortable_S zs) (by rw [sizeLine_eq]; omega) (fun b _ => by rw [depthS]; omega) fun out _ ho => ?_
  have hp2 := List.mergeSort_perm zs (dataLe false encS)
  have as := sorted_asc (enc := encS) (fun x : Str => x) (fun x y h1 h2 => antiS h1 h2) (bs := zs) (by rw [List.map_id']; exact nd)
  rw [List.map_id'] at as
  obtain ⟨ep, he'⟩ := PyProof.Rows.sortedAll_at s.heap its out.toArray
  have hlen : ((zs.mergeSort (dataLe false encS)).map V.str).length ≤ sizeLine := by rw [List.length_map, hp2.length_eq, sizeLine_eq]; omega
  exact ⟨.ref _, upd H (s.heap.objs.size + 1) (.lst ((zs.mergeSort (dataLe false encS)).map V.str)), I.laid (t' := s.toks) (fun _ _ => PyProof.Rows.sortedAll_old) (Nat.le_succ _) ⟨hlen, out, ep, each_vals ho, he'⟩, rfl, q _ _ as hp2 (I.hok.fresh (Nat.le_succ _))⟩

/-! ### < -/
theorem op_ltR (hu : X.A.units + 64 < cLine) : OpR X (compareOp .Lt) (fun x y H Q => ∃ a b q r, x = .ref a ∧ y = .ref b ∧ TupR X.K H a q ∧ TupR X.K H b r ∧ Q (.bl (ltR q r)) H) := by
  intro pins s σ H x y v u Q I rx ry h
  obtain ⟨a, b, q, r, rfl, rfl, h1, h2, k⟩ := h
  cases rx
  cases ry
  have d1 := depthR q
  exact PySem.W.rcLt_alike (encR q) (encR r) X.A s (.ref a) (.ref b) [] [] (range_at I h1).reads (range_at I h2).reads (alikeR q r) (fun e => by cases e) (by omega) X.prog X.w X.xe _ (fin_bl I k rfl)
theorem op_ltS : OpR X (compareOp .Lt) (fun x y H Q => ∃ i j, x = .str i ∧ y = .str j ∧ Q (.bl (ltS i j)) H) := by
  intro pins s σ H x y v u Q I rx ry h
  obtain ⟨i, j, rfl, rfl, q⟩ := h
  rw [ltS_eq] at q
  exact op_lt_str pins s σ H _ _ v u Q I rx ry ⟨i, j, rfl, rfl, q⟩
end
end W30


/-! S10: lambdas that outlive their def: the function object and its cell tracked; a def whose guards are told; the end. -/
namespace W30
open PySem PySem.Spec PyProof.Rows L2 LamX NdefX

/-! ### a tracked cell, put aside while the function that captured it runs -/
def CellO (c a : Addr) : HO := .ext fun h => h.IsCell c (some (.ref a))
theorem cellO_own {c a b : Addr} : CellO c a ≠ .own b := fun z => by unfold CellO at z; cases z
theorem cellO_tup {c a : Addr} {xs : List V} : CellO c a ≠ .tup xs := fun z => by unfold CellO at z; cases z
def hide (H : Hp) (c : Addr) : Hp := fun b => if b = c then none else H b
theorem hide_same {H : Hp} {c : Addr} : hide H c c = none := if_pos rfl
theorem hide_ne {H : Hp} {c b : Addr} (h : b ≠ c) : hide H c b = H b := if_neg h
theorem hide_none {H : Hp} {c b : Addr} (h : H b = none) : hide H c b = none := by
  unfold hide
  split
  · rfl
  · exact h
section
variable {P : Program} {w : World} {K : PySem.W.Frag} {mg : Str → Option Value} {base : Heap} {A : Around} {outer : List Env} {s s' : Shared} {H : Hp} {h : Heap} {c a : Addr}
theorem hide_ok (ok : HOk P w H h) (e : H c = some (CellO c a)) : HOk P w (hide H c) h := fun b u q => by
  by_cases hb : b = c
  · rw [hb, hide_same] at q; cases q
  · rw [hide_ne hb] at q
    refine (ok b u q).stay (fun _ _ _ z => z) (fun d z => ?_) (fun d xs z => ?_)
    · rw [hide_ne (fun y => cellO_own (Option.some.inj ((y ▸ e).symm.trans z)))]; exact z
    · rw [hide_ne (fun y => cellO_tup (Option.some.inj ((y ▸ e).symm.trans z)))]; exact z
theorem env0_hide (e0 : Env0 P w K mg base A outer s H) (e : H c = some (CellO c a)) : Env0 P w K mg base A outer s (hide H c) :=
  ⟨e0.frames, e0.mod, fun b o q => ⟨(e0.bs b o q).1, hide_none (e0.bs b o q).2⟩, e0.bsz, e0.funs, fun b hb => hide_none (e0.frf b hb), hide_ok e0.hok e, e0.bare⟩
/-- a new thing that was untracked is tracked from now on -/
theorem hok_cell {H' : Hp} (ok : HOk P w H' h) (n : H' c = none) (x : h.IsCell c (some (.ref a))) : HOk P w (upd H' c (CellO c a)) h := fun b u q => by
  by_cases hb : b = c
  · subst hb
    rw [upd_same] at q
    cases q
    obtain ⟨o, ho, hd⟩ := x
    exact ⟨⟨o, ho, hd⟩, ⟨o, ho⟩, fun h1 h2 ⟨o, ho, hd⟩ k => ⟨o, k o ho, hd⟩⟩
  · rw [upd_ne hb] at q
    refine (ok b u q).stay (fun _ _ _ z => z) (fun d z => ?_) (fun d xs z => ?_)
    · rw [upd_ne (ne_of_none z n)]; exact z
    · rw [upd_ne (ne_of_none z n)]; exact z
theorem unhide {Q : VK} {u : Value} (ok : HOk P w H s.heap) (e : H c = some (CellO c a)) (hf : c ∉ frs outer) (x : CE outer P w (hide H c) s (fun v H' => H' c = none → Q v (upd H' c (CellO c a))) u s') : CE outer P w H s Q u s' := by
  obtain ⟨v, H', os, bare, un, hok, r, q⟩ := x
  obtain ⟨⟨o, ho, hd⟩, _, _⟩ := ok c _ e
  have hk := un.keep c o ho hide_same hf (by simp)
  have hn := un.free c o ho hide_same (by simp)
  have ne : ∀ {b : Addr} {u : HO}, H b = some u → (∀ z, u = CellO c a → z) → b ≠ c := fun {b u} q n z => n _ (Option.some.inj (q.symm.trans (z ▸ e)))
  have hidN : ∀ {b : Addr}, H b = none → b ≠ c := fun {b} q z => by rw [z, e] at q; cases q
  refine ⟨v, upd H' c (CellO c a), os, bare, ⟨fun b o q n h1 h2 => un.keep b o q (hide_none n) h1 h2, fun b o q n h1 h2 => un.slot b o q (hide_none n) h1 h2, fun b o q n h2 => ?_, un.there, fun b xs q => ?_, fun b o u q => ?_, fun b ps q => ?_⟩, hok_cell hok hn ⟨o, hk, hd⟩, r, q hn⟩
  · rw [upd_ne (hidN n)]; exact un.free b o q (hide_none n) h2
  · have hb : b ≠ c := ne q fun z y => by unfold CellO at y; cases y
    rw [upd_ne hb]; exact un.tups b xs (by rw [hide_ne hb]; exact q)
  · have hb : b ≠ c := ne q fun z y => by unfold CellO at y; cases y
    rw [upd_ne hb]; exact un.frzs b o u (by rw [hide_ne hb]; exact q)
  · have hb : b ≠ c := ne q fun z y => by unfold CellO at y; cases y
    rw [upd_ne hb]; exact un.tbls b ps (by rw [hide_ne hb]; exact q)
end

/-! ### a lambda's function object, tracked -/
def LamO (f : Addr) (F : NF) (body : Expr) : HO := .ext fun h => ∃ pm ctv, h.get? f = some (PySem.W.kla_obj "<lambda>" F.qual F.params body F.scope F.cl pm F.c ctv)
abbrev lamF (qual : Str) (params : Arguments) (scope : Scope) (cl : List (Str × Addr)) (c : Addr) : NF := ⟨"<lambda>", qual, params, [], scope, cl, c⟩
section
variable {X : Cx} {pins : List (Addr × Obj)} {σ : L2.St} {H : Hp} {s : Shared}
theorem inv_lam {F : NF} {body : Expr} {t' : Nat} {pm ctv : Value} (I : Inv X pins σ H s) :
    Inv X pins σ (upd H s.heap.objs.size (LamO s.heap.objs.size F body)) { s with heap := s.heap.push (PySem.W.kla_obj "<lambda>" F.qual F.params body F.scope F.cl pm F.c ctv), toks := t' } := by
  refine I.laid (a := s.heap.objs.size) (fun b u e => Heap.get?_push_of_some _ e) (Nat.le_refl _) ?_
  have e := Heap.get?_push_size s.heap (o := PySem.W.kla_obj "<lambda>" F.qual F.params body F.scope F.cl pm F.c ctv) rfl
  exact ⟨⟨pm, ctv, e⟩, ⟨_, e⟩, fun h1 h2 ⟨p, t, z⟩ st => ⟨p, t, st _ z⟩⟩
theorem lam_track {c P : Addr} {params : Arguments} {body : Expr} {scope : Scope} {pos : Pos} {E : Value → Shared → Prop} {Q : Value → Shared → Prop} (I : Inv X pins σ H s) (TB : TabB X.base X.mg c P) (hcode : X.env.code = .ref c)
    (hT : TabS H P (X.env.qual ++ "<lambda>")) (hdef : defaultsOf params X.env = ([], [])) (hfree : ∀ y ∈ scope.names, y.2 = .free → ∃ c, X.env.cells.lookup y.1 = some c)
    (h : ∀ (f c' : Addr) (H1 : Hp) (s' : Shared), Inv X pins σ H1 s' → ExtN H H1 → TabS H1 P (X.env.qual ++ "<lambda>") → H f = none →
      H1 f = some (LamO f (lamF (X.env.qual ++ "<lambda>") params scope (cloFrom X.env.cells scope.names []) c') body) → H1 c' = some (CodeO c' (X.env.qual ++ "<lambda>")) → Q (.ref f) s') :
    wpAny (model X.prog X.w) X.A (eval (.Lambda params body scope pos) X.env) Q E s := by
  obtain ⟨ps, hP, ht, ha⟩ := hT
  refine PySem.W.kla_eval hdef ?_
  have bP : s.heap.BuiltinsAt X.mg P := TB.bm.keeps I.bk
  have hP' : s.heap.get? P = some { cls := .none, data := .fields ps } := I.hok P _ hP
  cases hc : codeAmong pos ps.toList with
  | none =>
    refine PySem.W.kla_makeFunction (mg := X.mg) (c := c) (P := P) (ps := ps) (closure_ok hfree) I.ok.glob (I.mod.glob.keeps I.bk) hcode (TB.code.keeps I.bk) hP' ht hc TB.gP bP fun c' ctv h' tk hx hge hlt hrec htb => ?_
    obtain ⟨c2, oc, vs, t, e2, hoc, hd, hv⟩ := hrec
    cases e2
    have nC : H c' = none := I.hok.fresh hge
    have I1 := inv_table (t' := tk) (more := #[rawInt pos.line, rawInt pos.col, .ref c']) (h' := h') I hP (fun b o hb e => hx b o hb e) htb hge ⟨oc, vs, t, hoc, hd, hv⟩
    have hE : ExtN H (upd (upd H P (.tbl (ps ++ #[rawInt pos.line, rawInt pos.col, .ref c']))) c' (CodeO c' (X.env.qual ++ "<lambda>"))) := fun b o e n => by
      rw [upd_ne (ne_of_none e nC), upd_ne (fun z => n ps (Option.some.inj (e.symm.trans (by rw [z]; exact hP))))]
      exact e
    have eL : (ps ++ #[rawInt pos.line, rawInt pos.col, .ref c']).toList = ps.toList ++ [rawInt pos.line, rawInt pos.col, .ref c'] := by simp
    have T1 : TabS (upd (upd H P (.tbl (ps ++ #[rawInt pos.line, rawInt pos.col, .ref c']))) c' (CodeO c' (X.env.qual ++ "<lambda>"))) P (X.env.qual ++ "<lambda>") := by
      refine ⟨_, by rw [upd_ne (ne_of_none hP nC), upd_same], by rw [eL]; exact PySem.TriplesOk_snoc _ _ _ _ ht, fun p' cv hcv => ?_⟩
      rw [eL] at hcv
      rcases among_app _ ht hcv with z | z
      · obtain ⟨c0, e1, e2⟩ := ha p' cv z
        exact ⟨c0, e1, hE _ _ e2 codeO_ne⟩
      · exact ⟨c', z, upd_same⟩
    have nF := I1.hok.fresh (Nat.le_refl _)
    have I2 := inv_lam (F := lamF (X.env.qual ++ "<lambda>") params scope (cloFrom X.env.cells scope.names []) c') (body := body) (t' := tk) (pm := (X.mg "__name__").getD .none) (ctv := ctv) I1
    refine h h'.objs.size c' _ _ I2 (fun b o e n => ?_) (T1.ext fun b o e => ?_) (I.hok.fresh (Nat.le_trans hge (Nat.le_of_lt hlt))) upd_same ?_
    · exact (upd_ne (ne_of_none (hE b o e n) nF)).trans (hE b o e n)
    · exact (upd_ne (ne_of_none e nF)).trans e
    · exact (upd_ne (Nat.ne_of_lt hlt)).trans upd_same
  | some cv =>
    obtain ⟨c', e, hco⟩ := ha pos cv hc
    subst e
    refine PySem.W.kla_makeFunctionHit (mg := X.mg) (c := c) (P := P) (ps := ps) (closure_ok hfree) I.ok.glob (I.mod.glob.keeps I.bk) hcode (TB.code.keeps I.bk) hP' ht hc bP fun ctv h' tk hx hsz => ?_
    have I1 : Inv X pins σ H { s with heap := h', toks := tk } := I.kept hx
    have nF : H h'.objs.size = none := I1.hok.fresh (Nat.le_refl _)
    have I2 := inv_lam (F := lamF (X.env.qual ++ "<lambda>") params scope (cloFrom X.env.cells scope.names []) c') (body := body) (t' := tk) (pm := (X.mg "__name__").getD .none) (ctv := ctv) I1
    refine h h'.objs.size c' _ _ I2 (fun b o e n => ?_) (TabS.ext ⟨ps, hP, ht, ha⟩ fun b o e => ?_) nF upd_same ?_
    · exact (upd_ne (ne_of_none e nF)).trans e
    · exact (upd_ne (ne_of_none e nF)).trans e
    · exact (upd_ne (ne_of_none hco nF)).trans hco
/-- the reading of a lambda -/
def tLamE (P : Addr) (q : Str) (mk : Addr → NF) (body : Expr) : TE := fun σ H Q => TabS H P q ∧ ∀ f c' H1, ExtN H H1 → TabS H1 P q → H f = none → H1 f = some (LamO f (mk c') body) → H1 c' = some (CodeO c' q) → Q (.ref f) H1
theorem pe_lam {c P : Addr} {params : Arguments} {body : Expr} {scope : Scope} {pos : Pos} (TB : TabB X.base X.mg c P) (hcode : X.env.code = .ref c) (hdef : defaultsOf params X.env = ([], [])) (hfree : ∀ y ∈ scope.names, y.2 = .free → X.env.scope.names.lookup y.1 = some .cell) :
    PE X (.Lambda params body scope pos) (tLamE P (X.env.qual ++ "<lambda>") (lamF (X.env.qual ++ "<lambda>") params scope (cloFrom X.env.cells scope.names [])) body) := by
  refine ⟨fun pins s σ H Q I h => ?_⟩
  obtain ⟨hT, h⟩ := h
  exact lam_track I TB hcode hT hdef (fun y hy e => I.ok.has _ (.inl (hfree y hy e))) fun f c' H1 s' I1 eN T1 hn hf hc => ⟨.ref f, H1, I1, rfl, h f c' H1 eN T1 hn hf hc⟩
end
end W30


/-! S11: the def that makes the lambdas; their call through an attribute. -/
namespace W30
open PySem PySem.Spec PyProof.Rows L2 LamX NdefX

section
variable {P : Program} {w : World} {K : PySem.W.Frag} {mg : Str → Option Value} {base : Heap}
/-- a def «return e» whose cell x (a parameter) is tracked behind it -/
theorem made_of {k i : Nat} {f : Addr} {name qual : Str} {params : Arguments} {e : Expr} {rp : Pos} {scope : Scope} {dV kV doc pm cdv ct oc : Value} {an od : Option Addr} {osl : Array (Option Value)} {N ps : List Str} {sp : Sp} {x : Str}
    (lk : K.lookup f = some ⟨oc, od, .func (PySem.W.fnOf name qual params [.Return (some e) rp] scope dV kV doc pm an cdv ct), osl⟩) (hcd : PySem.W.codeIn K cdv qual = true) (S : FnScope N ps scope) (hx : N[i]? = some x) (hxc : scope.names.lookup x = some .cell)
    (len : ∀ vs H Q E, sp vs H Q E → vs.length = ps.length)
    (hbody : ∀ (A : Around) (outer : List Env) (s : Shared) (H : Hp) (vs : List V) (Q : VK) (E : XK) (c : Addr), Room k (A.deeper (envOfC qual scope s.heap.objs.size f cdv)) → sp vs H Q E → (envOfC qual scope s.heap.objs.size f cdv).cells.lookup x = some c →
      ∃ a t, (start N vs)[i]? = some (some (.ref a)) ∧ PE (cxOf CX0 P w K mg base N qual scope f cdv A outer s H E) e t ∧ t (start N vs) H (fun v H' => H' c = none → Q v (upd H' c (CellO c a)))) :
    FnOk P w K mg base CX0 (k + 1) f (PySem.W.fnOf name qual params [.Return (some e) rp] scope dV kV doc pm an cdv ct) ps sp := by
  refine ⟨len, fun A outer s H args us vs Q E hr e0 hb r hsp => ?_⟩
  have hl := len _ _ _ _ hsp
  have KX : K.In s.heap := e0.mod.kin.keeps fun b o e => (e0.bs b o e).1
  have lim : s.heap.NoLimit := e0.mod.nolimit.keeps fun b o e => (e0.bs b o e).1
  have hkind : ∀ y ∈ ps.zip us, scope.names.lookup y.1 = some .local ∨ (scope.names.lookup y.1 = some .cell ∧ ((cellsFrom (s.heap.objs.size + 1) scope.names []).lookup y.1).isSome = true) := fun ⟨n, v⟩ hy => by
    rcases S.par n (List.of_mem_zip hy).1 with q | q
    · exact .inl q
    · exact .inr ⟨q, PySem.W.cellsFrom_some _ _ _ (.inl q)⟩
  refine codeAny_call_function hr.depth (KX _ _ lk) rfl S.co S.gen rfl (PySem.W.codeRec_of KX hcd) (hb _ _ _ _ ?_)
  refine wpAny_newFunctionEnv_cells S.kind hkind fun env he s1 xx => ?_
  subst he
  refine ⟨lim.keeps xx.toInCall.keep, codeAny_func ?_⟩
  obtain ⟨c, hc⟩ := cell_has (n := s.heap.objs.size + 1) hxc
  obtain ⟨a, t, ha, ht, hq⟩ := hbody A outer s H vs Q E c (hr.deeper _) hsp hc
  have I : Inv (cxOf CX0 P w K mg base N qual scope f cdv A outer s H E) [] (start N vs) H s1 := inv_start S hr.hd e0 hl r xx
  refine wpAny_execs_cons (wpAny_Return_some (wpAny_mono (ht.run [] s1 (start N vs) H _ I hq) (fun u s' hs => ?_) fun e s' hs => hs))
  obtain ⟨v, H', J, rv, q⟩ := hs
  have hn : H' c = none := J.freeC x c hc
  have hge : s.heap.objs.size + 1 ≤ c := xx.above x c (PySem.mem_of_lookup hc)
  obtain ⟨m, hns, hloc⟩ := J.loc
  obtain ⟨u2, r2, l2⟩ := hloc i x (.ref a) hx ha (.inr (.inl hxc))
  have r2 : u2 = Value.ref a := r2
  subst r2
  have hcell : s'.heap.IsCell c (some (.ref a)) := by
    rcases l2 with ⟨z, _⟩ | ⟨_, c', e', z⟩
    · have z' : scope.names.lookup x = some .local := z
      rw [hxc] at z'; cases z'
    · have e'' : (cellsFrom (s.heap.objs.size + 1) scope.names []).lookup x = some c' := e'
      have hc' : (cellsFrom (s.heap.objs.size + 1) scope.names []).lookup x = some c := hc
      rw [hc'] at e''; cases e''; exact z
  have lt : ∀ {b : Addr} {u : HO}, H b = some u → b ≠ c := fun {b u} q => Nat.ne_of_lt (Nat.lt_of_lt_of_le (e0.hok.lt q) (Nat.le_of_succ_le hge))
  have un := J.base
  exact ⟨v, upd H' c (CellO c a), J.os, J.bare, ⟨un.keep, un.slot, fun b o q n h2 => by
    rw [upd_ne (Nat.ne_of_lt (Nat.lt_of_lt_of_le (Heap.lt_size q) (Nat.le_of_succ_le hge)))]; exact un.free b o q n h2, un.there, fun b xs q => by rw [upd_ne (lt q)]; exact un.tups b xs q, fun b o u q => by rw [upd_ne (lt q)]; exact un.frzs b o u q,
    fun b ps q => by rw [upd_ne (lt q)]; exact un.tbls b ps q⟩, hok_cell J.hok hn hcell, rv, q hn⟩
end

/-! ### their calls -/
/-- the lambda F stands at f, its cell at c holds the object at a -/
structure LamHas (H : Hp) (f : Addr) (F : NF) (body : Expr) (x : Str) (c a : Addr) : Prop where
  fn : H f = some (LamO f F body)
  cd : H F.c = some (CodeO F.c F.qual)
  cell : H c = some (CellO c a)
  has : F.cl.lookup x = some c
  only : ∀ y b, F.cl.lookup y = some b → y = x ∧ b = c
theorem LamHas.same {H H' : Hp} {f : Addr} {F : NF} {body : Expr} {x : Str} {c a : Addr} (L : LamHas H f F body x c a) (e : ∀ b o, H b = some o → (b = f ∨ b = F.c ∨ b = c) → H' b = some o) : LamHas H' f F body x c a :=
  ⟨e _ _ L.fn (.inl rfl), e _ _ L.cd (.inr (.inl rfl)), e _ _ L.cell (.inr (.inr rfl)), L.has, L.only⟩
section
variable {X : Cx} {pins : List (Addr × Obj)} {σ : L2.St} {H : Hp} {s : Shared}
theorem lamFn {f : Addr} {F : NF} {body : Expr} (I : Inv X pins σ H s) (e : H f = some (LamO f F body)) : ∃ pm ctv, s.heap.get? f = some (PySem.W.kla_obj "<lambda>" F.qual F.params body F.scope F.cl pm F.c ctv) := (I.hok f _ e).1
theorem run_lam {N ps : List Str} {x : Str} {f c a : Addr} {F : NF} {body : Expr} {k : Nat} {us : List Value} {vs : List V} {Q : VK} {te : TE} (I : Inv X pins σ H s) (L : LamHas H f F body x c a) (hr : Room (k + 1) X.A) (S : NScope N ps [x] F.scope) (r : Vals vs us) (hl : vs.length = ps.length)
    (hb : ∀ (pm ctv : Value), bindArgs (PySem.W.kla_fn "<lambda>" F.qual F.params body F.scope F.cl pm (.ref F.c) ctv) ⟨us, []⟩ = pure (ps.zip us))
    (hbody : Room k (X.A.deeper (envF F f s.heap.objs.size)) → PE (ncx CX0 X.prog X.w X.K X.mg X.base N F f X.A X.stack s (hide H c) E0) body te) (q : te (startF N vs [some (.ref a)]) (hide H c) (fun v H' => H' c = none → Q v (upd H' c (CellO c a)))) :
    wpAny (model X.prog X.w) X.A (call (.ref f) us) (EP X pins σ Q) X.xe s := by
  obtain ⟨pm, ctv, ho⟩ := lamFn I L.fn
  obtain ⟨⟨oc, vv, t, hoc, hdc, hvc⟩, _, _⟩ := I.hok F.c _ L.cd
  have e0 := env0_hide I.env0 L.cell
  have C : CellsAt F.cl [x] [some (.ref a)] s.heap (hide H c) := by
    have cellA : s.heap.IsCell c (some (.ref a)) := (I.hok c _ L.cell).1
    refine ⟨rfl, fun y b e => ?_, fun y z b h1 h2 => (L.only y b h1).1.trans (L.only z b h2).1.symm, fun i y e => ?_⟩
    · obtain ⟨rfl, rfl⟩ := L.only y b e
      exact ⟨hide_same, _, cellA⟩
    · match i, e with
      | 0, e =>
        cases e
        exact ⟨c, L.has, fun v ev => by cases ev; exact ⟨.ref a, rfl, cellA⟩⟩
  have rc : codeAny (model X.prog X.w) X.A (.call (.ref f) ⟨us, []⟩) (CR CX0 X.stack X.prog X.w (hide H c) s (fun v H' => H' c = none → Q v (upd H' c (CellO c a))) E0) s := by
    refine PySem.W.kla_callFunE hr.depth ho rfl S.co S.gen rfl ⟨F.c, oc, vv, t, rfl, hoc, hdc, hvc⟩ ?_
    rw [hb]
    refine wpAny_pure (wpAny_newFunctionEnv S.nocell (fun ⟨n, _⟩ hy => S.par n (List.of_mem_zip hy).1) (fun h₁ hns hsb => ⟨I.nolimit.fresh _ hsb, ?_⟩) S.kind)
    show codeAny _ _ (.expr body (envF F f s.heap.objs.size)) _ _
    have kp : ∀ b o, s.heap.get? b = some o → h₁.get? b = some o := fun b o e => hsb.extBut b o (Nat.ne_of_lt (Heap.lt_size e)) (Heap.get?_push_of_some _ e)
    have J : Inv (ncx CX0 X.prog X.w X.K X.mg X.base N F f X.A X.stack s (hide H c) E0) [] (startF N vs [some (.ref a)]) (hide H c) { s with heap := h₁, toks := s.toks + (ps.zip us).length } := inv_startN S hr.hd e0 hl r C hns kp
    refine PySem.W.kla_codeExpr (wpAny_mono ((hbody (hr.deeper _)).run [] _ _ _ _ J q) (fun v s' hq => ?_) fun e s' hq => hq)
    obtain ⟨w', H', J', rv, q'⟩ := hq
    exact ⟨w', H', J'.os, J'.bare, J'.base, J'.hok, rv, q'⟩
  refine wpAny_call (codeAny_mono rc fun r s' hq => ?_)
  cases r with
  | error e => exact (show False from hq).elim
  | ok fl =>
    cases fl with
    | ret u => exact I.after (unhide I.hok L.cell (fun z => by have := I.env0.frf c z; rw [L.cell] at this; cases this) hq)
    | next => exact False.elim hq
    | brk => exact False.elim hq
    | cont => exact False.elim hq
theorem lamFnAt {f : Addr} {F : NF} {body : Expr} (I : Inv X pins σ H s) (e : H f = some (LamO f F body)) : PySem.W.FnAt f s.heap := by
  obtain ⟨pm, ctv, ho⟩ := lamFn I e
  exact ⟨_, none, _, _, ho⟩
/-- what the call of the function at f does, by values -/
def FCall (X : Cx) (r : Addr → List V → Hp → VK → Prop) : Prop := ∀ (pins : List (Addr × Obj)) (s : Shared) (σ : L2.St) (H : Hp) (f : Addr) (vs : List V) (us : List Value) (Q : VK), Inv X pins σ H s → Vals vs us → r f vs H Q →
  (∃ F body, H f = some (LamO f F body)) ∧ wpAny (model X.prog X.w) X.A (call (.ref f) us) (EP X pins σ Q) X.xe s
/-- o.m(e, ..), m an attribute of the instance that holds a lambda -/
def tFCall (K : PySem.W.Frag) (m : Str) (r : Addr → List V → Hp → VK → Prop) (ta : TE) (t : TA) : TE := fun σ H Q => ta σ H fun x H1 => ∃ a C dx fs f F body, x = .ref a ∧ H1 a = some (.ins C dx fs) ∧ Cls K C ∧ NoAttr K C m ∧ fs.lookup m = some (.ref f) ∧ H1 f = some (LamO f F body) ∧
  t σ H1 fun vs H2 => r f vs H2 Q
variable {o e : Expr} {es : List Expr} {m : Str} {apos pos : Pos} {ta : TE} {t : TA}
theorem pe_fcall {pl : Sem Bool} {r : Addr → List V → Hp → VK → Prop} (he : PE X o ta) (Fc : FCall X r) (ha : PA X (e :: es) t)
    (hst : starEach (e :: es) X.env = (false, eval e X.env) :: starEach es X.env := by rfl) (hpl : (backTo pos (starEach es X.env)).any (·.1) = false := by rfl)
    (ht : eval (.Call (.Attribute o m apos) (e :: es) [] pos) X.env = (do
      let ov ← eval o X.env
      standAt apos.atName
      let (f, first) ← holding [ov] (getMethod ov m pl)
      callWith pos f first (backTo pos (starEach (e :: es) X.env)) (backToKw pos (keywordEach [] X.env))) := by rfl) :
    PE X (.Call (.Attribute o m apos) (e :: es) [] pos) (tFCall X.K m r ta t) := by
  refine ⟨fun pins s σ H Q I h => ?_⟩
  refine PySem.W.methodCall_KW (pl := pl) (thn (he.run pins s σ H _ I h) fun u s1 ⟨x, H1, I1, rx, a, C, dx, fs, f, F, body, ex, ea, c, n, l, hf, q⟩ => ?_) ht
  subst ex
  obtain rfl : u = Value.ref a := rx
  obtain ⟨mA, O, _, _, _, _⟩ := ins_get I1.hok ea
  obtain ⟨od, J, _⟩ := O.look
  refine PySem.W.method_usual I1.kIn J (PySem.W.plainGet_of (c.get m)).1 (PySem.W.plainGet_of (c.get m)).2 n rfl (getattr_ok I1 ea c n l fun u' s2 I2 ru => ?_)
  obtain rfl : u' = Value.ref f := ru
  refine PySem.W.callWith_F (first := []) (lamFnAt I2 hf) (thn (ha.run pos pins s2 σ H1 _ I2 q) fun us s3 ⟨vs, H2, I3, r3, q3⟩ => ?_) hst hpl
  obtain ⟨⟨F2, b2, h2⟩, h3⟩ := Fc pins s3 σ H2 f vs us Q I3 r3 q3
  exact ⟨lamFnAt I3 h2, h3⟩
end
end W30


/-! S12: defs that are told that nothing is being printed (for repr); the end of the law. -/
namespace W30
open PySem PySem.Spec PyProof.Rows L2 LamX NdefX

/-- a promise for calls while no repr runs -/
structure FnG (P : Program) (w : World) (K : PySem.W.Frag) (mg : Str → Option Value) (base : Heap) (k : Nat) (f : Addr) (fd : FuncData) (ps : List Str) (sp : Sp) : Prop where
  len : ∀ vs H Q E, sp vs H Q E → vs.length = ps.length
  run : ∀ (A : Around) (outer : List Env) (s : Shared) (H : Hp) (args : Args) (us : List Value) (vs : List V) (Q : VK) (E : XK), A.guards = some [] → Room k A → Env0 P w K mg base A outer s H → BindsTo s fd args (ps.zip us) → Vals vs us → sp vs H Q E →
    codeAny (model P w) A (.call (.ref f) args) (CR CX0 outer P w H s Q E) s
section
variable {P : Program} {w : World} {K : PySem.W.Frag} {mg : Str → Option Value} {base : Heap}
theorem okG {x qual : Str} {st : Stmt} {f : Addr} {fd : FuncData} {N ps : List Str} {k : Nat} {sp : Sp} (F : Fun K x qual st f fd) (S : FnScope N ps (defScope st)) (len : ∀ vs H Q E, sp vs H Q E → vs.length = ps.length)
    (hbody : ∀ (cdv : Value) (A : Around) (outer : List Env) (s : Shared) (H : Hp) (vs : List V) (Q : VK) (E : XK), A.guards = some [] → Room k (A.deeper (envOfC qual (defScope st) s.heap.objs.size f cdv)) → sp vs H Q E →
      ∃ t, PSs (cxOf CX0 P w K mg base N qual (defScope st) f cdv A outer s H E).nox (defBody st) t ∧ t { nx := fun _ H' => Q .non H', rt := Q } (L2.start N vs) H) : FnG P w K mg base (k + 1) f fd ps sp := by
  obtain ⟨oc, od, kV, doc, pm, an, cdv, ct, osl, rfl, lk, hcd⟩ := F.ex
  refine ⟨len, fun A outer s H args us vs Q E hg hr e0 hb r hsp => run_ofS lk hcd S hr e0 hb r (len _ _ _ _ hsp) fun hr' => ?_⟩
  obtain ⟨t, h, q⟩ := hbody cdv A outer s H vs Q E hg hr' hsp
  exact ⟨t, h.nox, q⟩
end
section
variable {X : Cx} {k : Nat} {f : Addr} {fd : FuncData} {ps : List Str} {sp : Sp} {ds : List Value} {dvs : List V} {x : Str} {p pos : Pos} {e : Expr} {es : List Expr} {t : TA}
theorem pe_callG (F : FnG X.prog X.w X.K X.mg X.base k f fd ps sp) (gd : X.A.guards = some []) (hr : Room k X.A) (hg : Gl X x) (hm : X.mg x = some (.ref f)) (hk : PySem.W.keepIn X.K (.ref f) = true) (hb : L2.Binds X.K fd ps [])
    (ha : PA X (e :: es) t) (hdb : (x == ("__debug__" : Str)) = false := by decide) (he : starEach (e :: es) X.env = (false, eval e X.env) :: starEach es X.env := by rfl) (hpl : (backTo pos (starEach es X.env)).any (·.1) = false := by rfl) :
    PE X (.Call (.Name x p) (e :: es) [] pos) (tCall sp [] E0 t) := by
  refine ⟨fun pins s σ H Q I h => ?_⟩
  refine wpAny_Call_Name_kw (ld_glob I hg hm ?_ hdb)
  refine PySem.W.callWith_K (h₀ := X.base) I.ok.mod.kin hk (thn (ha.run pos pins s σ H _ I h) fun us s1 ⟨vs, H1, I1, r, q⟩ => ⟨I1.kIn, ?_⟩) he hpl
  have q' : sp vs H1 Q E0 := by simpa using q
  have hl : us.length = ps.length := by rw [← r.length]; exact F.len _ _ _ _ q'
  refine wpAny_call (codeAny_mono (F.run X.A X.stack s1 H1 ⟨us, []⟩ us vs Q E0 gd hr I1.env0 (by simpa using hb s1 us I1.kIn (by simpa using hl)) r q') fun r s' hq => ?_)
  cases r with
  | error e => exact (show False from hq).elim
  | ok fl =>
    cases fl with
    | ret u => exact I1.after hq
    | next => exact False.elim hq
    | brk => exact False.elim hq
    | cont => exact False.elim hq
end

/-! ### the end -/
theorem fields_ne_seq {vs : Array Value} {n : Nat} {xs : Array Value} : Data.seq vs n ≠ Data.fields xs := fun z => by cases z
/-- the heap that the law's def is called in: the script locked (or written), the table T of the code object cc -/
theorem law_heap {P : Program} {w : World} {K : PySem.W.Frag} {mg mb : Str → Option Value} {a cc T : Addr} {s₁ : Shared} {vs : List Value} {ns : List Int}
    (KX : K.In s₁.heap) (hns : s₁.heap.Ns mainGlobals mg) (hb : s₁.heap.Ns builtinsNs mb) (hbb : ∀ x : Str, x ≠ "__name__" → mb x = bootBuiltins x) (hlim : s₁.heap.NoLimit) (hg : s₁.gens = #[])
    (hT : s₁.heap.get? T = some { cls := .none, data := .fields #[] }) (nT : K.lookup T = none) (C : PySem.W.CodeHd s₁.heap cc T)
    (hbm : ∃ (bm : Addr) (ob : Obj), mg "__builtins__" = some (.ref bm) ∧ bm ≠ builtinsNs ∧ s₁.heap.get? bm = some ob ∧ ob.cls = .type "module" ∧ ob.dict = some builtinsNs ∧ ob.data = .plain)
    (ha : s₁.heap.get? a = some { cls := .type "list", data := .seq vs.toArray }) (hi : IntsAre vs ns) (hl : ns.length ≤ sizeLine) :
    ∃ (H : Hp) (base : Heap), K.In base ∧ base.Ns mainGlobals mg ∧ TabB base mg cc T ∧ H T = some (.tbl #[]) ∧ SqL K H a (ns.map V.int) ∧ Env0 P w K mg base callerA [] s₁ H ∧
      ∀ u s', CE [] P w H s₁ (fun v _ => v = .bl true) u s' → u = .bool true ∧ OldK s₁.heap s'.heap ∧ s'.os = s₁.os ∧ AllBare s'.gens := by
  have aT : a ≠ T := fun z => by
    rw [z, hT] at ha
    have z' := congrArg Obj.data (Option.some.inj ha)
    exact fields_ne_seq z'.symm
  -- the script is tracked but where it is one of the written things
  have pick : ∃ H : Hp, H T = some (.tbl #[]) ∧ SqL K H a (ns.map V.int) ∧ HOk P w H s₁.heap ∧ (∀ b, H b = none ∨ b = T ∨ (b = a ∧ K.lookup a = none ∧ ∃ o xs, H b = some (.frz o (.lst xs)))) := by
    cases hk : K.lookup a with
    | some o =>
      have e := KX a o hk
      rw [ha] at e
      cases e
      refine ⟨fun b => if b = T then some (.tbl #[]) else none, if_pos rfl, .inr ⟨_, vs.toArray, _, hk, rfl, rfl, rfl, by rw [List.size_toArray, hi.length]; exact hl, by simpa using vals_ints hi⟩, fun b u z => ?_, fun b => ?_⟩
      · by_cases hb : b = T
        · have z' := (if_pos hb).symm.trans z
          cases z'
          rw [hb]; exact hT
        · have z' := (if_neg hb).symm.trans z
          cases z'
      · by_cases hb : b = T
        · exact .inr (.inl hb)
        · exact .inl (if_neg hb)
    | none =>
      refine ⟨fun b => if b = a then some (.frz { cls := .type "list", data := .seq vs.toArray } (.lst (ns.map V.int))) else if b = T then some (.tbl #[]) else none, (if_neg aT.symm).trans (if_pos rfl), .inl (.inr ⟨_, if_pos rfl⟩), fun b u z => ?_, fun b => ?_⟩
      · by_cases hb : b = a
        · have z' := (if_pos hb).symm.trans z
          cases z'
          rw [hb]
          exact ⟨ha, by rw [List.length_map]; exact hl, vs, _, vals_ints hi, ha⟩
        · have z1 := (if_neg hb).symm.trans z
          by_cases hb2 : b = T
          · have z' := (if_pos hb2).symm.trans z1
            cases z'
            rw [hb2]; exact hT
          · have z' := (if_neg hb2).symm.trans z1
            cases z'
      · by_cases hb : b = a
        · exact .inr (.inr ⟨hb, rfl, _, _, if_pos hb⟩)
        · by_cases hb2 : b = T
          · exact .inr (.inl hb2)
          · exact .inl ((if_neg hb).trans (if_neg hb2))
  obtain ⟨H, HT, HS, hok, hO⟩ := pick
  have kept : ∀ {b : Addr} {o : Obj}, s₁.heap.get? b = some o → (∀ xs n, o.data ≠ .seq xs n) → o.data ≠ .fields #[] → (hidT s₁.heap H).get? b = some o := fun {b o} e h1 h2 => hidT_get e (by
    rcases hO b with z | z | ⟨z, _⟩
    · exact z
    · rw [z, hT] at e
      exact absurd (congrArg Obj.data (Option.some.inj e)).symm h2
    · rw [z, ha] at e
      exact absurd (congrArg Obj.data (Option.some.inj e)).symm (h1 _ _))
  have nsK : ∀ {b : Addr} {m : Str → Option Value}, s₁.heap.Ns b m → (hidT s₁.heap H).Ns b m := fun {b m} ⟨o, es, ep, e, d, r⟩ => ⟨o, es, ep, kept e (fun xs n z => by rw [d] at z; cases z) (fun z => by rw [d] at z; cases z), d, r⟩
  have hKb : K.In (hidT s₁.heap H) := fun b o e => hidT_get (KX b o e) (by
    rcases hO b with z | z | ⟨z, z2, _⟩
    · exact z
    · rw [z, nT] at e; cases e
    · rw [z, z2] at e; cases e)
  have hM : L2.Mod K mg (hidT s₁.heap H) := ⟨hKb, nsK hns, ⟨mb, nsK hb, hbb⟩, let ⟨mc, h1, h2⟩ := hlim; ⟨mc, nsK h1, h2⟩⟩
  have TB : TabB (hidT s₁.heap H) mg cc T := by
    refine ⟨?_, ?_, fun z => ?_⟩
    · obtain ⟨o, us, file, tf, flags, tg, inF, text, tt, e1, r1, r2, r3, r4⟩ := C
      refine ⟨o, us, file, tf, flags, tg, inF, text, tt, kept e1 (fun xs n z => ?_) (fun z => ?_), r1, r2, r3, r4⟩
      · rw [r2] at z; cases z
      · rw [r2] at z; cases z; simp at r3
    · obtain ⟨bm, ob, b1, b2, b3, b4, b5, b6⟩ := hbm
      have pl : ∀ {x : Addr} {o : Obj}, s₁.heap.get? x = some o → o.data ≠ .plain → bm ≠ x := fun {x o} e n z => by
        rw [z, e] at b3; cases b3; exact n b6
      obtain ⟨og, es, ep, e, hd, _⟩ := id hns
      exact ⟨bm, ob, b1, b2, pl e (fun z => by rw [hd] at z; cases z), pl hT (fun z => by cases z), kept b3 (fun xs n z => by rw [b6] at z; cases z) (fun z => by rw [b6] at z; cases z), b4, b5, b6⟩
    · obtain ⟨o, es, ep, e, hd, _⟩ := hns
      rw [z, hT] at e
      cases e
      cases hd
  refine ⟨H, hidT s₁.heap H, hKb, nsK hns, TB, HT, HS, ⟨rfl, hM, fun b o e => of_hidT e, Nat.le_of_eq (hidT_size _ _), trivial, fun b hb => absurd (show b ∈ ([] : List Addr) from hb) (by simp), hok, .of_eq hg⟩, fun u s' q => ?_⟩
  obtain ⟨v, H', os, bare, un, hok', r', q⟩ := q
  have q' : v = .bl true := q
  subst q'
  obtain rfl : u = Value.bool true := r'
  obtain ⟨more, gr⟩ := un.tbls T #[] HT
  have hm : s'.heap.get? T = some { cls := .none, data := .fields (#[] ++ more) } := hok' T _ gr
  have key : ∀ b o, b ≠ T → s₁.heap.get? b = some o → s'.heap.get? b = some o := fun b o nb e => by
    rcases hO b with z | z | ⟨_, _, ob, xs, z⟩
    · exact un.keep b o e z (by intro y; exact absurd (show b ∈ ([] : List Addr) from y) (by simp)) (by simp)
    · exact absurd z nb
    · have z2 := un.frzs b ob _ z
      obtain ⟨e1, _⟩ := hok b _ z
      obtain ⟨e2, _⟩ := hok' b _ z2
      rw [e] at e1; cases e1
      exact e2
  refine ⟨rfl, ⟨fun b o e => ?_, fun b o e => ?_⟩, os, bare⟩
  · by_cases hb : b = T
    · rw [hb] at e ⊢
      rw [hT] at e
      cases e
      exact .inr (.inl ⟨(C.tab hT).isCodeTable, rfl, #[], more, rfl, hm⟩)
    · exact .inl (key b o hb e)
  · by_cases hb : b = T
    · rw [hb]
      exact ⟨_, hm⟩
    · exact ⟨o, key b o hb e⟩
/-- the goal that k_head leaves, from the law's promise at the head's heap -/
theorem walk_G {l : PySem.W.OpenLaw} {n k : Nat} {q : Program} {loose : List Str} {XP : (Str → Option Value) → Heap → Prop} {YP : World → Heap → Prop} {d : DefRec} {K : Params → PySem.W.Frag} {x : Str}
    (hn : l.most = some n) (hn2 : n ≤ sizeLine) (hdf : d.params.defaults = []) (hr : Room k callerA) (hY : ∀ (w : World) (h : Heap), YP w h → (K w.params).In h)
    (F : ∀ (w : World) (mg : Str → Option Value) (fa : Addr) (h : Heap), YP w h → (K w.params).In h → h.Ns mainGlobals mg → mg d.name = some (.ref fa) →
      ∃ (fd : FuncData) (cc T : Addr) (sp : Sp), h.get? T = some { cls := .none, data := .fields #[] } ∧ (K w.params).lookup T = none ∧ PySem.W.CodeHd h cc T ∧ (∀ (s : Shared) (u : Value), BindsTo s fd ⟨[u], []⟩ [(x, u)]) ∧
        (∀ (H : Hp) (a : Addr) (ns : List Int), ns.length ≤ n → H T = some (.tbl #[]) → SqL (K w.params) H a (ns.map V.int) → sp [.ref a] H (fun v _ => v = .bl true) fun _ _ _ => False) ∧
        ∀ base : Heap, (K w.params).In base → base.Ns mainGlobals mg → TabB base mg cc T → FnG l.prog w (K w.params) mg base k fa fd [x] sp) :
    PySem.W.WalkO q loose XP YP l.row.toRowW d [] (fun f vs => PySem.call f vs) := by
  refine Att.attach_callB hn hdf fun w s₀ s₁ mg mb fa o pm cd doc a vs ns G Y ho hd hcd hmg hobj hints hlen hbits hg => ?_
  have KX := hY w _ Y
  obtain ⟨fd, cc, T, sp, hT, nT, C, hb, hsp, hF⟩ := F w mg fa _ Y KX G.T.g hmg
  obtain ⟨H, base, b1, b2, TB, HT, HS, e0, fin⟩ := law_heap (P := l.prog) (w := w) KX G.T.g G.T.b G.T.builtins G.T.nolimit hg hT nT C G.T.bmain hobj hints (Nat.le_trans hlen hn2)
  refine codeAny_mono ((hF base b1 b2 TB).run callerA [] s₁ H ⟨[.ref a], []⟩ [.ref a] [.ref a] _ _ rfl hr e0 (hb s₁ (.ref a)) (.cons rfl .nil) (hsp H a ns hlen HT HS)) fun r s' h => ?_
  cases r with
  | error e => exact (show False from h).elim
  | ok fl =>
    cases fl with
    | next => exact False.elim h
    | brk => exact False.elim h
    | cont => exact False.elim h
    | ret u =>
      obtain ⟨e, r⟩ := fin u s' h
      exact ⟨by rw [e], r⟩
end W30


/-! S13: repr of tuples; the data of an account: keys, ranges, writes. -/
namespace W30
open PySem PySem.Spec PyProof.Rows L2

def rRepr (K : PySem.W.Frag) : List V → Hp → VK → Prop := fun xs H Q => ∃ (a : Addr) (d : PyData), xs = [V.ref a] ∧ Dp K H (.ref a) d ∧ d.showable = true ∧ d.hasDict = false ∧ d.depth ≤ 20 ∧ d.shown.length ≤ sizeLine ∧ Q (.str d.shown) H
theorem cr_repr {X : Cx} (hg : X.A.guards = some []) (hu : X.A.units + 64 < cLine) : CallR X (.builtin "repr") (rRepr X.K) := by
  intro pins s σ H xs us Q I r h
  obtain ⟨a, d, rfl, hd, hs, hn, hdp, hz, q⟩ := h
  rw [Vals.ref1 r]
  obtain ⟨as, rd⟩ := Dp.reads I d _ _ hd (show RelV (.ref a) (.ref a) from rfl)
  exact repr_of_reads' rd hs (PyData.noDict_hsm hn) hg (by omega) (fun _ _ e => e) (fun h' u tk hk => ⟨.str d.shown, H, I.kept hk, ⟨u, rfl⟩, q⟩) hz

/-! ### keys, ranges, writes -/
/-- a key as the program takes it -/
structure GoodK (k : Str) : Prop where
  lo : 1 ≤ k.length
  hi : k.length ≤ 12
  az : ∀ c ∈ k.cps.toList, 97 ≤ c ∧ c ≤ 122
structure GoodR (r : RT) : Prop where
  k1 : GoodK r.1
  k2 : GoodK r.2.1
  le : ltS r.2.1 r.1 = false
  own : ∀ k ∈ r.2.2, GoodK k ∧ ltS k r.1 = false ∧ ltS r.2.1 k = false
  asc : AscS r.2.2
  few : r.2.2.length ≤ 40
abbrev WT := Str × Option Int
structure GoodW (p : WT) : Prop where
  k : GoodK p.1
  v : ∀ i, p.2 = some i → -10 ^ 18 ≤ i ∧ i ≤ 10 ^ 18
def mv : Option Int → V
  | none => .non
  | some i => .int i
def encO : Option Int → PyData
  | none => .none
  | some i => .int i
def encW (p : WT) : PyData := .tuple [.str p.1, encO p.2]
def accD (gs : List Str) (rs : List RT) (ws : List WT) : PyData := .tuple [.tuple (gs.map encS), .tuple (rs.map encR), .tuple (ws.map encW)]

section
variable {K : PySem.W.Frag} {H : Hp}
theorem dpAll_strs : ∀ xs : List Str, DpAll K H (xs.map V.str) (xs.map encS)
  | [] => .nil
  | x :: xs => .cons (.str x) (dpAll_strs xs)
theorem dp_strs {a : Addr} {xs : List Str} (h : SqT K H a (xs.map V.str)) : Dp K H (.ref a) (.tuple (xs.map encS)) := .tup h (dpAll_strs xs)
theorem dp_rng {a : Addr} {r : RT} (h : TupR K H a r) : Dp K H (.ref a) (encR r) := by
  obtain ⟨b, h1, h2⟩ := h
  exact .tup h1 (.cons (.str _) (.cons (.str _) (.cons (dp_strs h2) .nil)))
theorem dpAll_rngs : ∀ L : List (Addr × RT), (∀ p ∈ L, TupR K H p.1 p.2) → DpAll K H (L.map fun p => V.ref p.1) ((L.map (·.2)).map encR)
  | [], _ => .nil
  | p :: L, h => .cons (dp_rng (h p List.mem_cons_self)) (dpAll_rngs L fun q hq => h q (List.mem_cons_of_mem _ hq))
theorem dp_rngs {a : Addr} {L : List (Addr × RT)} (h : SqT K H a (L.map fun p => V.ref p.1)) (hL : ∀ p ∈ L, TupR K H p.1 p.2) : Dp K H (.ref a) (.tuple ((L.map (·.2)).map encR)) := .tup h (dpAll_rngs L hL)
theorem dp_o : ∀ o : Option Int, Dp K H (mv o) (encO o)
  | none => .non
  | some i => .int i
/-- a pair stands at a -/
def PairAt (K : PySem.W.Frag) (H : Hp) (a : Addr) (p : WT) : Prop := SqT K H a [.str p.1, mv p.2]
theorem dp_w {a : Addr} {p : WT} (h : PairAt K H a p) : Dp K H (.ref a) (encW p) := .tup h (.cons (.str _) (.cons (dp_o _) .nil))
theorem dpAll_ws : ∀ L : List (Addr × WT), (∀ p ∈ L, PairAt K H p.1 p.2) → DpAll K H (L.map fun p => V.ref p.1) ((L.map (·.2)).map encW)
  | [], _ => .nil
  | p :: L, h => .cons (dp_w (h p List.mem_cons_self)) (dpAll_ws L fun q hq => h q (List.mem_cons_of_mem _ hq))
theorem dp_ws {a : Addr} {L : List (Addr × WT)} (h : SqT K H a (L.map fun p => V.ref p.1)) (hL : ∀ p ∈ L, PairAt K H p.1 p.2) : Dp K H (.ref a) (.tuple ((L.map (·.2)).map encW)) := .tup h (dpAll_ws L hL)
theorem dp_wl {a : Addr} {L : List (Addr × WT)} (h : SqL K H a (L.map fun p => V.ref p.1)) (hL : ∀ p ∈ L, PairAt K H p.1 p.2) : Dp K H (.ref a) (.list ((L.map (·.2)).map encW)) := .lst h (dpAll_ws L hL)
end

/-! ### what is asked of data -/
theorem all_showable : ∀ ds : List PyData, (∀ d ∈ ds, d.showable = true) → PyData.showableAll ds = true
  | [], _ => rfl
  | d :: ds, h => by
    simp only [PyData.showableAll, Bool.and_eq_true]
    exact ⟨h d List.mem_cons_self, all_showable ds fun e he => h e (List.mem_cons_of_mem _ he)⟩
theorem all_noDict : ∀ ds : List PyData, (∀ d ∈ ds, d.hasDict = false) → PyData.hasDictAll ds = false
  | [], _ => rfl
  | d :: ds, h => by
    simp only [PyData.hasDictAll, Bool.or_eq_false_iff]
    exact ⟨h d List.mem_cons_self, all_noDict ds fun e he => h e (List.mem_cons_of_mem _ he)⟩
theorem all_depth {n : Nat} : ∀ ds : List PyData, (∀ d ∈ ds, d.depth ≤ n) → PyData.depthAll ds ≤ n
  | [], _ => Nat.zero_le _
  | d :: ds, h => by
    simp only [PyData.depthAll]
    exact Nat.max_le.mpr ⟨h d List.mem_cons_self, all_depth ds fun e he => h e (List.mem_cons_of_mem _ he)⟩
theorem all_short {B : Nat} : ∀ ds : List PyData, (∀ d ∈ ds, d.leavesShort B = true) → PyData.leavesShortAll B ds = true
  | [], _ => rfl
  | d :: ds, h => by
    simp only [PyData.leavesShortAll, Bool.and_eq_true]
    exact ⟨h d List.mem_cons_self, all_short ds fun e he => h e (List.mem_cons_of_mem _ he)⟩
theorem all_bulk {n : Nat} : ∀ ds : List PyData, (∀ d ∈ ds, d.bulk ≤ n) → PyData.bulkAll ds ≤ ds.length * (n + 1)
  | [], _ => Nat.zero_le _
  | d :: ds, h => by
    have h1 := all_bulk ds fun e he => h e (List.mem_cons_of_mem _ he)
    have h2 := h d List.mem_cons_self
    simp only [PyData.bulkAll, List.length_cons, Nat.succ_mul]
    omega
/-- data that repr and == take, with at most n signs in all -/
structure Fine (d : PyData) (dep n : Nat) : Prop where
  sh : d.showable = true
  nd : d.hasDict = false
  dp : d.depth ≤ dep
  ls : d.leavesShort 24 = true
  bk : d.bulk ≤ n
theorem Fine.tup {ds : List PyData} {dep n m : Nat} (h : ∀ d ∈ ds, Fine d dep n) (hl : ds.length ≤ m) : Fine (.tuple ds) (dep + 1) (m * (n + 1)) := by
  refine ⟨?_, ?_, ?_, ?_, ?_⟩
  · simp only [PyData.showable]; exact all_showable ds fun d hd => (h d hd).sh
  · simp only [PyData.hasDict]; exact all_noDict ds fun d hd => (h d hd).nd
  · simp only [PyData.depth]; exact Nat.succ_le_succ (all_depth ds fun d hd => (h d hd).dp)
  · simp only [PyData.leavesShort]; exact all_short ds fun d hd => (h d hd).ls
  · simp only [PyData.bulk]; exact Nat.le_trans (all_bulk ds fun d hd => (h d hd).bk) (Nat.mul_le_mul_right _ hl)
theorem Fine.mono {d : PyData} {a b n m : Nat} (h : Fine d a n) (h1 : a ≤ b) (h2 : n ≤ m) : Fine d b m := ⟨h.sh, h.nd, Nat.le_trans h.dp h1, h.ls, Nat.le_trans h.bk h2⟩
theorem fine_s {k : Str} (g : GoodK k) : Fine (encS k) 0 12 := by
  refine ⟨rfl, rfl, Nat.le_refl _, ?_, ?_⟩
  · show (k.cps.toList.all fun c => decide (c < 16 ^ 8)) = true
    rw [List.all_eq_true]
    intro c hc
    have := g.az c hc
    rw [decide_eq_true_eq]
    have e : (16 : Nat) ^ 8 = 4294967296 := by decide
    omega
  · exact g.hi
theorem fine_o {o : Option Int} (h : ∀ i, o = some i → -10 ^ 18 ≤ i ∧ i ≤ 10 ^ 18) : Fine (encO o) 0 0 := by
  cases o with
  | none => exact ⟨rfl, rfl, Nat.le_refl _, rfl, Nat.le_refl _⟩
  | some i =>
    obtain ⟨h1, h2⟩ := h i rfl
    have e : i.natAbs < 10 ^ 20 := by omega
    refine ⟨?_, rfl, Nat.le_refl _, ?_, Nat.le_refl _⟩
    · show decide (i.natAbs.log2 < 1920) = true
      rw [decide_eq_true_eq]
      by_cases hz : i.natAbs = 0
      · rw [hz]; decide
      · have e2 : (10 : Nat) ^ 20 ≤ 2 ^ 100 := by decide
        exact Nat.lt_trans ((Nat.log2_lt hz).mpr (Nat.lt_of_lt_of_le e e2)) (by decide)
    · show decide ((PyData.shown (.int i)).length ≤ 24) = true
      rw [decide_eq_true_eq]
      have e2 := int_text_length_le10 (k := 20) (by decide) e
      show (Str.ofString (toString i)).length ≤ 24
      rw [PySem.ofString_length]; omega
theorem fine_w {p : WT} (g : GoodW p) : Fine (encW p) 1 26 := by
  refine (Fine.tup (ds := [encS p.1, encO p.2]) (dep := 0) (n := 12) (m := 2) (fun d hd => ?_) (Nat.le_refl _))
  rcases List.mem_cons.mp hd with e | hd
  · rw [e]; exact fine_s g.k
  · rw [List.mem_singleton.mp hd]; exact (fine_o g.v).mono (Nat.le_refl _) (by decide)
theorem fine_ss {xs : List Str} (h : ∀ k ∈ xs, GoodK k) (hl : xs.length ≤ 40) : Fine (.tuple (xs.map encS)) 1 520 := by
  refine Fine.tup (n := 12) (m := 40) (fun d hd => ?_) (by rw [List.length_map]; exact hl)
  obtain ⟨k, hk, rfl⟩ := List.mem_map.mp hd
  exact fine_s (h k hk)
theorem fine_r {r : RT} (g : GoodR r) : Fine (encR r) 2 1563 := by
  refine (Fine.tup (ds := [encS r.1, encS r.2.1, .tuple (r.2.2.map encS)]) (dep := 1) (n := 520) (m := 3) (fun d hd => ?_) (Nat.le_refl _))
  rcases List.mem_cons.mp hd with e | hd
  · rw [e]; exact (fine_s g.k1).mono (by decide) (by decide)
  · rcases List.mem_cons.mp hd with e | hd
    · rw [e]; exact (fine_s g.k2).mono (by decide) (by decide)
    · rw [List.mem_singleton.mp hd]; exact fine_ss (fun k hk => (g.own k hk).1) g.few
theorem fine_rs {rs : List RT} (h : ∀ r ∈ rs, GoodR r) (hl : rs.length ≤ 40) : Fine (.tuple (rs.map encR)) 3 62560 := by
  refine Fine.tup (n := 1563) (m := 40) (fun d hd => ?_) (by rw [List.length_map]; exact hl)
  obtain ⟨k, hk, rfl⟩ := List.mem_map.mp hd
  exact fine_r (h k hk)
theorem fine_ws {ws : List WT} (h : ∀ p ∈ ws, GoodW p) (hl : ws.length ≤ 40) : Fine (.tuple (ws.map encW)) 2 1080 := by
  refine Fine.tup (n := 26) (m := 40) (fun d hd => ?_) (by rw [List.length_map]; exact hl)
  obtain ⟨k, hk, rfl⟩ := List.mem_map.mp hd
  exact fine_w (h k hk)
theorem fine_acc {gs : List Str} {rs : List RT} {ws : List WT} (h1 : ∀ k ∈ gs, GoodK k) (l1 : gs.length ≤ 40) (h2 : ∀ r ∈ rs, GoodR r) (l2 : rs.length ≤ 40) (h3 : ∀ p ∈ ws, GoodW p) (l3 : ws.length ≤ 40) : Fine (accD gs rs ws) 4 187683 := by
  refine Fine.tup (dep := 3) (n := 62560) (m := 3) (fun d hd => ?_) (Nat.le_refl _)
  rcases List.mem_cons.mp hd with e | hd
  · rw [e]; exact (fine_ss h1 l1).mono (by decide) (by decide)
  · rcases List.mem_cons.mp hd with e | hd
    · rw [e]; exact fine_rs h2 l2
    · rw [List.mem_singleton.mp hd]; exact (fine_ws h3 l3).mono (by decide) (by decide)
theorem Fine.fits {d : PyData} {dep n : Nat} (h : Fine d dep n) (hn : n ≤ 200000) : d.shown.length ≤ sizeLine := by
  have e := PyData.shown_le_bulk 24 (by decide) d h.ls
  have e2 : (24 + 2) * d.bulk ≤ 26 * 200000 := Nat.mul_le_mul (by decide) (Nat.le_trans h.bk hn)
  rw [sizeLine_eq]
  omega
end W30


/-! S14: != of two instances of a class with its own __eq__ and no __ne__. -/
namespace W30
open PySem PySem.Spec PyProof.Rows L2

section
variable {prog : Program} {w : World} {A : Around} {E : Value → Shared → Prop} {s : Shared} {K : PySem.W.Frag} {x y C L f : Addr} {ox oy : Obj} {od od' : Option Obj}
theorem neCheck {M : Model} {b : Value} {Q : Unit → Shared → Prop} (S : PySem.W.Looks M s.heap (isInstance (.ref x) (.type "object")) true) (hq : Q () s) : wpAny M A (checkBuiltinCall "object.__ne__" ⟨[.ref x, b], []⟩) Q E s := by
  simp only [checkBuiltinCall, PySem.F.cmpKind_ne, PySem.F.cmpSplit_ne]
  refine wpAny_bind (S.here ?_)
  have ha := PySem.F.cmpArgs_ne (.ref x) b
  cases hsig : Manifest.signature? "object.__ne__" with
  | none => exact wpAny_pure hq
  | some sig =>
    simp only [argsOk, hsig] at ha
    have h2 : Bind.checkArgs "object.__ne__" sig ⟨[.ref x, b], []⟩ = pure () := ha
    show wpAny M A (Bind.checkArgs "object.__ne__" sig ⟨[.ref x, b], []⟩) Q E _
    rw [h2]; exact wpAny_pure hq
theorem neEntry {b : Value} {Q : Fin → Shared → Prop} (hu : A.units < cLine) (X : K.In s.heap) (I : PySem.W.InstAt s.heap x ox C od) (hs : PySem.W.findIn K (.ref C) "__eq__" = some (some (.ref f))) (hf : PySem.W.isFn K (.ref f) = true)
    (h : wpAny (model prog w) A (call (.ref f) [.ref x, b]) (fun v s' => ∃ r, v = .bool r ∧ Q (.done (.ret (.bool (!r)))) s') E s) : wpAny (model prog w) A (Builtin.«object.__ne__» ⟨[.ref x, b], []⟩) Q E s := by
  unfold Builtin.«object.__ne__»
  repeat (first
    | with_reducible refine wpAny_cRoomFor hu ?_
    | (refine wpAny_bind (m := callSpecialIfBound? (.ref x) (Str.ofString "__eq__") [b]) (PySem.W.ifBound_K X I hs hf (wpAny_mono h (fun r s' hr => by
          obtain ⟨b, rfl, hq⟩ := hr
          repeat (first | exact hq | exact wpAny_pure hq | exact wpAny_truthy_bool hq | (refine wpAny_bind (m := truthy (.bool _)) (wpAny_truthy_bool ?_)) | wp_step)) fun _ _ e => e)))
    | wp_step)
theorem neIf {M : Model} {args : List Value} {Q : Option Value → Shared → Prop} (X : K.In s.heap) (I : PySem.W.InstAt s.heap x ox C od) (hne : PySem.W.findIn K (.ref C) "__ne__" = some (some (.builtin "object.__ne__")))
    (h : wpAny M A (call (.builtin "object.__ne__") (.ref x :: args)) (fun v => Q (some v)) E s) : wpAny M A (callSpecialIfBound? (.ref x) "__ne__" args) Q E s := by
  simp only [callSpecialIfBound?, bindSpecialIfBound?]
  refine wpAny_holding (wpAny_bind (wpAny_bind (wpAny_bind (I.type.here ((PySem.W.looks_findIn X hne).here ?_)))))
  have B := (PySem.F.cmp_object.ne).bind (.ref x)
  simp only [B]
  refine wpAny_bind (wpAny_askSetting (wpAny_ite ?_))
  have fin : wpAny M A (call (.builtin "object.__ne__") ([.ref x] ++ args) >>= fun v => pure (some v)) Q E s := wpAny_bind (wpAny_mono h (fun v s' h' => wpAny_pure h') fun _ _ h' => h')
  split
  · exact wpAny_bind (wpAny_pure (wpAny_pure fin))
  · exact wpAny_tryCatch (wpAny_bind (wpAny_pure (wpAny_pure fin)))
theorem neOwn_K {Q : Value → Shared → Prop} (hu : A.units + 1 < cLine) (X : K.In s.heap) (I : PySem.W.InstAt s.heap x ox C od) (I' : PySem.W.InstAt s.heap y oy C od')
    (hne : PySem.W.findIn K (.ref C) "__ne__" = some (some (.builtin "object.__ne__"))) (hmro : PySem.W.mroIn K C (.type "object") = some true) (hs : PySem.W.findIn K (.ref C) "__eq__" = some (some (.ref f))) (hf : PySem.W.isFn K (.ref f) = true)
    (h : wpAny (model prog w) A.in1 (call (.ref f) [.ref x, .ref y]) (fun v s' => ∃ b, v = .bool b ∧ Q (.bool (!b)) s') E s) : wpAny (model prog w) A (richCompare .NotEq (.ref x) (.ref y)) Q E s := by
  have S : PySem.W.Looks (model prog w) s.heap (isInstance (.ref x) (.type "object")) true := I.type.andThen (PySem.W.looks_mroIn X hmro)
  have one : wpAny (model prog w) A (tryCompare (.ref x) "__ne__" (.ref y)) (fun r s' => ∃ v, r = some v ∧ Q v s') E s := by
    unfold tryCompare
    refine wpAny_bind (neIf X I hne (wpAny_call (codeAny_call_builtin PySem.F.cmp_object.ne.plain PySem.F.cmpEntry_ne (neCheck S (neEntry (A := A.in1) hu X I hs hf (wpAny_mono h (fun v s' hv => ?_) fun _ _ e => e))))))
    obtain ⟨b, rfl, hq⟩ := hv
    exact ⟨b, rfl, wpAny_pure ⟨_, rfl, hq⟩⟩
  unfold richCompare
  simp only [oneThing_ref]
  refine wpAny_holding (wpAny_bind (wpAny_cRoomFor (Nat.lt_of_succ_lt hu) ?_))
  rw [cmpInfo_NotEq]
  dsimp only
  refine wpAny_bind (I.type.here (wpAny_bind (I'.type.here ?_)))
  rw [show (Value.ref C != Value.ref C) = false from by simp]
  simp only [Bool.false_eq_true, if_false]
  refine wpAny_bind (wpAny_pure ?_)
  simp only [Bool.false_eq_true, if_false]
  refine wpAny_bind (wpAny_mono one (fun r s' z => ?_) fun _ _ e => e)
  obtain ⟨v, rfl, hq⟩ := z
  exact wpAny_pure hq
end

/-- the answer of x != y where x == y says True -/
theorem op_neIns {X : Cx} {n : Nat} {C f : Addr} {fd : FuncData} {ps : List Str} {R : Addr → Addr → Hp → Prop} (F : FnOk X.prog X.w X.K X.mg X.base CX0 n f fd ps (spEq R)) (hr : Room (n + 1) X.A)
    (hne : PySem.W.findIn X.K (.ref C) "__ne__" = some (some (.builtin "object.__ne__"))) (hmro : PySem.W.mroIn X.K C (.type "object") = some true) (hs : PySem.W.findIn X.K (.ref C) "__eq__" = some (some (.ref f))) (hf : PySem.W.isFn X.K (.ref f) = true) (hb : Binds X.K fd ps []) :
    OpR X (compareOp .NotEq) (fun x y H Q => DIns C R x y H ∧ ∀ H', Ext H H' → Q (.bl false) H') := by
  intro pins s σ H x y v u Q I rx ry hq
  obtain ⟨⟨a, b, dx, dy, fs, gs, rfl, rfl, ha, hb', hR⟩, q⟩ := hq
  cases rx
  cases ry
  obtain ⟨mA, J, _⟩ := ins_get I.hok ha
  obtain ⟨mB, J', _⟩ := ins_get I.hok hb'
  obtain ⟨od, J, _⟩ := J.look
  obtain ⟨od', J', _⟩ := J'.look
  show wpAny (model X.prog X.w) X.A (richCompare .NotEq (.ref a) (.ref b)) (EP X pins σ Q) X.xe s
  have hu : X.A.units + 1 < cLine := by have := hr.units; omega
  have ri : Room n X.A.in1 := hr.in1
  refine neOwn_K hu I.kIn J J' hne hmro hs hf ?_
  have hsp : spEq R [.ref a, .ref b] H (fun v H' => v = .bl true ∧ Ext H H') E0 := ⟨a, b, rfl, hR, fun H' e => ⟨rfl, e⟩⟩
  have e0 : Env0 X.prog X.w X.K X.mg X.base X.A.in1 X.stack s H := by
    have e := I.env0
    exact ⟨e.frames, e.mod, e.bs, e.bsz, e.funs, e.frf, e.hok, e.bare⟩
  have hl := F.len _ _ _ _ hsp
  have r2 : Vals [V.ref a, V.ref b] [Value.ref a, Value.ref b] := .cons rfl (.cons rfl .nil)
  refine wpAny_call (codeAny_mono (F.run X.A.in1 X.stack s H ⟨[.ref a, .ref b], []⟩ [.ref a, .ref b] [.ref a, .ref b] _ E0 ri e0 (by
    have := hb s [.ref a, .ref b] I.kIn (by simpa using hl)
    simpa using this) r2 hsp) fun r s' hq => ?_)
  cases r with
  | error e => exact (show False from hq).elim
  | ok fl =>
    cases fl with
    | ret w =>
      obtain ⟨z, H', I', rz, ez, ex⟩ := I.after hq
      subst ez
      cases rz
      exact ⟨true, rfl, .bl false, H', I', rfl, q H' ex⟩
    | next => exact False.elim hq
    | brk => exact False.elim hq
    | cont => exact False.elim hq
end W30


/-! S15: min and max of two texts. -/
namespace W30
open PySem PySem.Spec PyProof.Rows L2

section
variable {prog : Program} {w : World} {A : Around} {E : Value → Shared → Prop} {s : Shared}
/-- the walk over the two -/
theorem two_walk {bt : Nat → Nat → Bool} {op : CmpOp} {u v : Value} {Q : Value → Shared → Prop} (hh : A.handled = none) (hc : CmpOf prog w A.in1 op (fun i x => (#[u, v] : Array Value)[i]? = some x) bt)
    (h : ∀ h' tk, (∀ c o, s.heap.get? c = some o → h'.get? c = some o) → Q (if bt 1 0 = true then v else u) { s with heap := h', toks := tk }) :
    wpAny (model prog w) A.in1 (pyIter (.ref s.heap.objs.size)) (fun it s₂ => ∃ I fp wr n P St bt, it = .ref I ∧ Walks prog w A.in1 I fp wr n P St ∧ St 0 s₂.heap ∧ (∀ b ∈ fp, b < s₂.heap.objs.size) ∧ 0 < n ∧ CmpOf prog w A.in1 op P bt ∧
      ∀ v h' tk, P (argBest bt (n - 1)) v → (∀ b o, b ∉ wr → s₂.heap.get? b = some o → h'.get? b = some o) → Q v { s₂ with heap := h', toks := tk }) E
      { s with heap := s.heap.push { cls := .type "tuple", data := .seq #[u, v] } } := by
  have hT : (s.heap.push { cls := .type "tuple", data := .seq #[u, v] }).IsTuple s.heap.objs.size #[u, v] := ⟨_, Heap.get?_push_size _ rfl, rfl, 0, rfl⟩
  refine wpAny_pyIter_tuple hT ?_
  have hsz : (s.heap.push { cls := .type "tuple", data := .seq #[u, v] }).objs.size = s.heap.objs.size + 1 := Heap.size_push ..
  refine ⟨_, [_, s.heap.objs.size], [_], _, _, _, _, rfl, Walks.tuple (A := A.in1) hh _ s.heap.objs.size (by rw [hsz]; exact Nat.ne_of_lt (Nat.lt_succ_self _)) #[u, v],
    ⟨⟨_, Heap.get?_push_size _ rfl, rfl, rfl⟩, hT.push _⟩, fun c hc => ?_, by simp, hc, fun x h' tk hP hk => ?_⟩
  · show c < ((s.heap.push _).push _).objs.size
    rw [Heap.size_push, hsz]
    rcases List.mem_cons.mp hc with rfl | hc
    · rw [hsz]; exact Nat.lt_succ_self _
    · rcases List.mem_cons.mp hc with rfl | hc
      · exact Nat.lt_succ_of_lt (Nat.lt_succ_self _)
      · cases hc
  · have hold : ∀ c o, s.heap.get? c = some o → h'.get? c = some o := fun c o e => by
      refine hk c o (fun hm => ?_) (Heap.get?_push_of_some _ (Heap.get?_push_of_some _ e))
      rcases List.mem_cons.mp hm with e1 | hm
      · have := Heap.lt_size e; rw [e1, hsz] at this; exact Nat.lt_irrefl _ (Nat.lt_of_succ_lt this)
      · cases hm
    have q := h h' tk hold
    have e : argBest bt 1 = if bt 1 0 = true then 1 else 0 := by simp [argBest]
    have hP' : (#[u, v] : Array Value)[argBest bt 1]? = some x := hP
    rw [e] at hP'
    by_cases hb : bt 1 0 = true
    · rw [if_pos hb] at hP' q
      simp at hP'; subst hP'; exact q
    · rw [if_neg hb] at hP' q
      simp at hP'; subst hP'; exact q
end
def txtAt (x y : Str) (i : Nat) : Str := if i = 0 then x else y
theorem txt_at {x y : Str} {t t' : Tok} {i : Nat} {v : Value} (h : (#[.str x t, .str y t'] : Array Value)[i]? = some v) : ∃ t, v = .str (txtAt x y i) t := by
  match i with
  | 0 => simp at h; subst h; exact ⟨t, rfl⟩
  | 1 => simp at h; subst h; exact ⟨t', rfl⟩
  | n + 2 => simp at h
theorem call_minS {X : Cx} (hc : X.calm = true) : CallR X (.builtin "min") (fun xs H Q => ∃ i j, xs = [.str i, .str j] ∧ Q (.str (if ltS j i = true then j else i)) H) := by
  intro pins s σ H xs us Q I r h
  obtain ⟨i, j, rfl, q⟩ := h
  obtain ⟨u, w', rfl, ⟨t, rfl⟩, ⟨t', rfl⟩⟩ := vals2 r
  refine call_min_two (two_walk (bt := fun a b => ltS (txtAt i j a) (txtAt i j b)) (I.ok.hd hc) (fun a b va vb s' Q' E' ha hb hq => ?_) fun h' tk k => ⟨_, H, I.kept k, ?_, q⟩)
  · obtain ⟨t1, rfl⟩ := txt_at ha
    obtain ⟨t2, rfl⟩ := txt_at hb
    have hq : Q' (.bool (ltS (txtAt i j a) (txtAt i j b))) s' := hq
    rw [ltS_eq] at hq
    exact lt_str hq
  · show RelV (.str (if ltS j i = true then j else i)) (if ltS (txtAt i j 1) (txtAt i j 0) = true then _ else _)
    have e : ltS (txtAt i j 1) (txtAt i j 0) = ltS j i := rfl
    rw [e]
    split
    · exact ⟨_, rfl⟩
    · exact ⟨_, rfl⟩
theorem call_maxS {X : Cx} (hc : X.calm = true) : CallR X (.builtin "max") (fun xs H Q => ∃ i j, xs = [.str i, .str j] ∧ Q (.str (if ltS i j = true then j else i)) H) := by
  intro pins s σ H xs us Q I r h
  obtain ⟨i, j, rfl, q⟩ := h
  obtain ⟨u, w', rfl, ⟨t, rfl⟩, ⟨t', rfl⟩⟩ := vals2 r
  refine call_max_two (two_walk (bt := fun a b => ltS (txtAt i j b) (txtAt i j a)) (I.ok.hd hc) (fun a b va vb s' Q' E' ha hb hq => ?_) fun h' tk k => ⟨_, H, I.kept k, ?_, q⟩)
  · obtain ⟨t1, rfl⟩ := txt_at ha
    obtain ⟨t2, rfl⟩ := txt_at hb
    have hq : Q' (.bool (ltS (txtAt i j b) (txtAt i j a))) s' := hq
    rw [ltS_eq] at hq
    exact PySem.P.gt_str hq
  · show RelV (.str (if ltS i j = true then j else i)) (if ltS (txtAt i j 0) (txtAt i j 1) = true then _ else _)
    have e : ltS (txtAt i j 0) (txtAt i j 1) = ltS i j := rfl
    rw [e]
    split
    · exact ⟨_, rfl⟩
    · exact ⟨_, rfl⟩
end W30


/-! S16: the text by places: each def's statement, its names by slot (parameters first). -/
namespace W30
open PySem PySem.Spec PyProof.Rows L2
def top (i : Nat) : Stmt := PySem.Challenge.pw_wholeways_k30_whole_what_transactions_ha.main.body.getD i (.Pass ⟨0, 0, 0, 0⟩)
abbrev st_is_integer : Stmt := top 5
theorem sc_is_integer : FnScope ["thing"] ["thing"] (defScope st_is_integer) := ⟨rfl, rfl, rfl, by decide +kernel, rfl, by decide +kernel, by decide +kernel⟩
abbrev st_is_within : Stmt := top 6
theorem sc_is_within : FnScope ["thing", "least", "most"] ["thing", "least", "most"] (defScope st_is_within) := ⟨rfl, rfl, rfl, by decide +kernel, rfl, by decide +kernel, by decide +kernel⟩
abbrev st_is_pair : Stmt := top 7
theorem sc_is_pair : FnScope ["thing"] ["thing"] (defScope st_is_pair) := ⟨rfl, rfl, rfl, by decide +kernel, rfl, by decide +kernel, by decide +kernel⟩
abbrev st_is_key : Stmt := top 8
theorem sc_is_key : FnScope ["thing", "sign"] ["thing"] (defScope st_is_key) := ⟨rfl, rfl, rfl, by decide +kernel, rfl, by decide +kernel, by decide +kernel⟩
abbrev st_is_worth : Stmt := top 9
theorem sc_is_worth : FnScope ["thing"] ["thing"] (defScope st_is_worth) := ⟨rfl, rfl, rfl, by decide +kernel, rfl, by decide +kernel, by decide +kernel⟩
abbrev st_is_rising : Stmt := top 17
theorem sc_is_rising : FnScope ["things", "one", "other"] ["things"] (defScope st_is_rising) := ⟨rfl, rfl, rfl, by decide +kernel, rfl, by decide +kernel, by decide +kernel⟩
abbrev st_are_keys : Stmt := top 18
theorem sc_are_keys : FnScope ["thing", "key"] ["thing"] (defScope st_are_keys) := ⟨rfl, rfl, rfl, by decide +kernel, rfl, by decide +kernel, by decide +kernel⟩
abbrev st_is_range : Stmt := top 19
theorem sc_is_range : FnScope ["thing", "low", "high", "own", "key"] ["thing"] (defScope st_is_range) := ⟨rfl, rfl, rfl, by decide +kernel, rfl, by decide +kernel, by decide +kernel⟩
abbrev st_are_ranges : Stmt := top 20
theorem sc_are_ranges : FnScope ["thing", "one"] ["thing"] (defScope st_are_ranges) := ⟨rfl, rfl, rfl, by decide +kernel, rfl, by decide +kernel, by decide +kernel⟩
abbrev st_is_write : Stmt := top 21
theorem sc_is_write : FnScope ["thing"] ["thing"] (defScope st_is_write) := ⟨rfl, rfl, rfl, by decide +kernel, rfl, by decide +kernel, by decide +kernel⟩
abbrev st_are_writes : Stmt := top 22
theorem sc_are_writes : FnScope ["thing", "one", "key", "worth"] ["thing"] (defScope st_are_writes) := ⟨rfl, rfl, rfl, by decide +kernel, rfl, by decide +kernel, by decide +kernel⟩
abbrev st_d_init : Stmt := inClass (top 24) 0
theorem sc_d_init : FnScope ["self", "snapshot", "number", "gets", "ranges", "writes", "bad"] ["self", "snapshot", "number", "gets", "ranges", "writes"] (defScope st_d_init) := ⟨rfl, rfl, rfl, by decide +kernel, rfl, by decide +kernel, by decide +kernel⟩
abbrev st_d_parts : Stmt := inClass (top 24) 1
theorem sc_d_parts : FnScope ["self"] ["self"] (defScope st_d_parts) := ⟨rfl, rfl, rfl, by decide +kernel, rfl, by decide +kernel, by decide +kernel⟩
abbrev st_d_eq : Stmt := inClass (top 24) 2
theorem sc_d_eq : FnScope ["self", "other"] ["self", "other"] (defScope st_d_eq) := ⟨rfl, rfl, rfl, by decide +kernel, rfl, by decide +kernel, by decide +kernel⟩
abbrev st_is_numbered : Stmt := top 25
theorem sc_is_numbered : FnScope ["snapshot", "number", "writes"] ["snapshot", "number", "writes"] (defScope st_is_numbered) := ⟨rfl, rfl, rfl, by decide +kernel, rfl, by decide +kernel, by decide +kernel⟩
abbrev st_bad_part : Stmt := top 26
theorem sc_bad_part : FnScope ["snapshot", "number", "gets", "ranges", "writes"] ["snapshot", "number", "gets", "ranges", "writes"] (defScope st_bad_part) := ⟨rfl, rfl, rfl, by decide +kernel, rfl, by decide +kernel, by decide +kernel⟩
abbrev st_check_key : Stmt := top 28
theorem sc_check_key : FnScope ["key"] ["key"] (defScope st_check_key) := ⟨rfl, rfl, rfl, by decide +kernel, rfl, by decide +kernel, by decide +kernel⟩
abbrev st_within : Stmt := top 29
theorem sc_within : FnScope ["low", "high", "keys", "key"] ["low", "high", "keys"] (defScope st_within) := ⟨rfl, rfl, rfl, by decide +kernel, rfl, by decide +kernel, by decide +kernel⟩
abbrev st_t_init : Stmt := inClass (top 30) 0
theorem sc_t_init : FnScope ["self", "snapshot", "look", "walk"] ["self", "snapshot", "look", "walk"] (defScope st_t_init) := ⟨rfl, rfl, rfl, by decide +kernel, rfl, by decide +kernel, by decide +kernel⟩
abbrev st_t_open : Stmt := inClass (top 30) 1
theorem sc_t_open : FnScope ["self"] ["self"] (defScope st_t_open) := ⟨rfl, rfl, rfl, by decide +kernel, rfl, by decide +kernel, by decide +kernel⟩
abbrev st_t_get : Stmt := inClass (top 30) 3
theorem sc_t_get : FnScope ["self", "key"] ["self", "key"] (defScope st_t_get) := ⟨rfl, rfl, rfl, by decide +kernel, rfl, by decide +kernel, by decide +kernel⟩
abbrev st_t_between : Stmt := inClass (top 30) 4
theorem sc_t_between : FnScope ["self", "low", "high", "own", "found", "key"] ["self", "low", "high"] (defScope st_t_between) := ⟨rfl, rfl, rfl, by decide +kernel, rfl, by decide +kernel, by decide +kernel⟩
abbrev st_t_put : Stmt := inClass (top 30) 5
theorem sc_t_put : FnScope ["self", "key", "worth"] ["self", "key", "worth"] (defScope st_t_put) := ⟨rfl, rfl, rfl, by decide +kernel, rfl, by decide +kernel, by decide +kernel⟩
abbrev st_t_drop : Stmt := inClass (top 30) 6
theorem sc_t_drop : FnScope ["self", "key"] ["self", "key"] (defScope st_t_drop) := ⟨rfl, rfl, rfl, by decide +kernel, rfl, by decide +kernel, by decide +kernel⟩
abbrev st_t_end : Stmt := inClass (top 30) 8
theorem sc_t_end : FnScope ["self"] ["self"] (defScope st_t_end) := ⟨rfl, rfl, rfl, by decide +kernel, rfl, by decide +kernel, by decide +kernel⟩
abbrev st_t_keys : Stmt := inClass (top 30) 10
theorem sc_t_keys : FnScope ["self"] ["self"] (defScope st_t_keys) := ⟨rfl, rfl, rfl, by decide +kernel, rfl, by decide +kernel, by decide +kernel⟩
abbrev st_t_ranges : Stmt := inClass (top 30) 11
theorem sc_t_ranges : FnScope ["self"] ["self"] (defScope st_t_ranges) := ⟨rfl, rfl, rfl, by decide +kernel, rfl, by decide +kernel, by decide +kernel⟩
abbrev st_t_wrote : Stmt := inClass (top 30) 12
theorem sc_t_wrote : FnScope ["self", "key"] ["self"] (defScope st_t_wrote) := ⟨rfl, rfl, rfl, by decide +kernel, rfl, by decide +kernel, by decide +kernel⟩
abbrev st_t_dealing : Stmt := inClass (top 30) 13
theorem sc_t_dealing : FnScope ["self", "number"] ["self", "number"] (defScope st_t_dealing) := ⟨rfl, rfl, rfl, by decide +kernel, rfl, by decide +kernel, by decide +kernel⟩
abbrev st_l_hand : Stmt := top 32
theorem sc_l_hand : FnScope ["_law_script", "_law_cells", "_law_cell"] ["_law_script"] (defScope st_l_hand) := ⟨rfl, rfl, rfl, by decide +kernel, rfl, by decide +kernel, by decide +kernel⟩
abbrev st_l_draw : Stmt := top 33
theorem sc_l_draw : FnScope ["_law_hand_here", "_law_many", "_law_cell", "_law_digit", "_law_number"] ["_law_hand_here", "_law_many"] (defScope st_l_draw) := ⟨rfl, rfl, rfl, by decide +kernel, rfl, by decide +kernel, by decide +kernel⟩
abbrev st_l_any : Stmt := top 34
theorem sc_l_any : FnScope ["_law_hand_here", "_law_some"] ["_law_hand_here", "_law_some"] (defScope st_l_any) := ⟨rfl, rfl, rfl, by decide +kernel, rfl, by decide +kernel, by decide +kernel⟩
abbrev st_l_key : Stmt := top 35
theorem sc_l_key : FnScope ["_law_hand_here"] ["_law_hand_here"] (defScope st_l_key) := ⟨rfl, rfl, rfl, by decide +kernel, rfl, by decide +kernel, by decide +kernel⟩
abbrev st_l_worth : Stmt := top 36
theorem sc_l_worth : FnScope ["_law_hand_here"] ["_law_hand_here"] (defScope st_l_worth) := ⟨rfl, rfl, rfl, by decide +kernel, rfl, by decide +kernel, by decide +kernel⟩
abbrev st_l_snapshot : Stmt := top 37
theorem sc_l_snapshot : FnScope ["_law_hand_here", "_law_found", "_law_turn"] ["_law_hand_here"] (defScope st_l_snapshot) := ⟨rfl, rfl, rfl, by decide +kernel, rfl, by decide +kernel, by decide +kernel⟩
abbrev st_l_walked : Stmt := top 38
theorem sc_l_walked : FnScope ["_law_state", "_law_low", "_law_high", "_law_key_here"] ["_law_state", "_law_low", "_law_high"] (defScope st_l_walked) := ⟨rfl, rfl, rfl, by decide +kernel, rfl, by decide +kernel, by decide +kernel⟩
abbrev st_l_account : Stmt := top 39
theorem sc_l_account : FnScope ["_law_state"] ["_law_state"] (defScope st_l_account) := ⟨rfl, rfl, rfl, by decide +kernel, rfl, by decide +kernel, by decide +kernel⟩
abbrev st_l_got : Stmt := top 40
theorem sc_l_got : FnScope ["_law_account_here", "_law_key_here"] ["_law_account_here", "_law_key_here"] (defScope st_l_got) := ⟨rfl, rfl, rfl, by decide +kernel, rfl, by decide +kernel, by decide +kernel⟩
abbrev st_l_ranged : Stmt := top 41
theorem sc_l_ranged : FnScope ["_law_account_here", "_law_low", "_law_high", "_law_own", "_law_found", "_law_key_here"] ["_law_account_here", "_law_low", "_law_high"] (defScope st_l_ranged) := ⟨rfl, rfl, rfl, by decide +kernel, rfl, by decide +kernel, by decide +kernel⟩
abbrev st_l_parts : Stmt := top 42
theorem sc_l_parts : FnScope ["_law_account_here", "_law_writes", "_law_key_here"] ["_law_account_here"] (defScope st_l_parts) := ⟨rfl, rfl, rfl, by decide +kernel, rfl, by decide +kernel, by decide +kernel⟩
abbrev st_l_step : Stmt := top 43
theorem sc_l_step : FnScope ["_law_hand_here", "_law_one", "_law_account_here", "_law_kind", "_law_key_here", "_law_other", "_law_low", "_law_high", "_law_told", "_law_worth_here"] ["_law_hand_here", "_law_one", "_law_account_here"] (defScope st_l_step) := ⟨rfl, rfl, rfl, by decide +kernel, rfl, by decide +kernel, by decide +kernel⟩
abbrev st_l_made : Stmt := top 44
theorem sc_l_made : FnScope ["_law_state", "_law_number"] ["_law_state", "_law_number"] (defScope st_l_made) := ⟨rfl, rfl, rfl, by decide +kernel, rfl, by decide +kernel, by decide +kernel⟩
abbrev st_l_seen : Stmt := top 45
theorem sc_l_seen : FnScope ["_law_one", "_law_account_here", "_law_gets", "_law_ranges", "_law_writes"] ["_law_one", "_law_account_here"] (defScope st_l_seen) := ⟨rfl, rfl, rfl, by decide +kernel, rfl, by decide +kernel, by decide +kernel⟩
abbrev st_l_deal : Stmt := top 46
theorem sc_l_deal : FnScope ["_law_hand_here", "_law_one", "_law_account_here", "_law_number", "_law_gets", "_law_ranges", "_law_writes", "_law_mine", "_law_told"] ["_law_hand_here", "_law_one", "_law_account_here", "_law_number"] (defScope st_l_deal) := ⟨rfl, rfl, rfl, by decide +kernel, rfl, by decide +kernel, by decide +kernel⟩
abbrev st_law : Stmt := top 47
theorem sc_law : FnScope ["_law_script", "_law_hand_here", "_law_turn", "_law_number", "_law_state", "_law_account_here", "_law_one", "_law_again"] ["_law_script"] (defScope st_law) := ⟨rfl, rfl, rfl, by decide +kernel, rfl, by decide +kernel, by decide +kernel⟩
/-- the built-in names are the built-in things -/
structure Bt (mg : Str → Option Value) : Prop where
  b_isinstance : mg "isinstance" = none
  b_len : mg "len" = none
  b_all : mg "all" = none
  b_zip : mg "zip" = none
  b_sorted : mg "sorted" = none
  b_dict : mg "dict" = none
  b_list : mg "list" = none
  b_tuple : mg "tuple" = none
  b_set : mg "set" = none
  b_range : mg "range" = none
  b_abs : mg "abs" = none
  b_min : mg "min" = none
  b_max : mg "max" = none
  b_repr : mg "repr" = none
  b_int : mg "int" = none
  b_bool : mg "bool" = none
  b_str : mg "str" = none
end W30


/-! S17: the checks of numbers, pairs and keys. -/
namespace W30
open PySem PySem.Spec PyProof.Rows L2
theorem iteY {c : Bool} {A B : Prop} (h : c = true) (q : A) : if c = true then A else B := by rw [if_pos h]; exact q
theorem iteN {c : Bool} {A B : Prop} (h : c = false) (q : B) : if c = true then A else B := by rw [if_neg (by rw [h]; exact Bool.false_ne_true)]; exact q
theorem allTrue (n : Nat) : (List.replicate n true).all id = true := by
  induction n with
  | zero => rfl
  | succ n ih => rw [List.replicate_succ, List.all_cons, ih]; rfl
/-- a list of n times True stands at D -/
theorem sq_trues {K : PySem.W.Frag} {H : Hp} {D : Addr} {n : Nat} (h : H D = some (.lst (List.replicate n (V.bl true)))) : SqL K H D ((List.replicate n true).map V.bl) := by
  rw [List.map_replicate]
  exact SqL.of h
theorem grow_true (n : Nat) : List.replicate n (V.bl true) ++ [V.bl true] = List.replicate (n + 1) (V.bl true) := (List.replicate_succ').symm

def alphabet : Str := "abcdefghijklmnopqrstuvwxyz"
theorem in_abc {c : Nat} (h : 97 ≤ c ∧ c ≤ 122) : c ∈ alphabet.cps.toList := by
  obtain ⟨h1, h2⟩ := h
  have key : ∀ i, i < 26 → 97 + i ∈ alphabet.cps.toList := by decide +kernel
  have e : 97 + (c - 97) = c := by omega
  rw [← e]
  exact key _ (by omega)
/-- the constants of the checks -/
structure Cn (mg : Str → Option Value) : Prop where
  letters : ∃ t, mg "LETTERS" = some (.str alphabet t)
  most : ∃ t, mg "MOST_LETTERS" = some (.int 12 t)
  worth : ∃ t, mg "MOST_WORTH" = some (.int 1000000000000000000 t)
section
variable {P : Program} {w : World} {K : PySem.W.Frag} {mg : Str → Option Value} {base : Heap}
def spInt : Sp := fun vs H Q _ => ∃ i, vs = [.int i] ∧ Q (.bl true) H
theorem ok_is_integer {f : Addr} {fd : FuncData} (F : Fun K "is_integer" "is_integer" st_is_integer f fd) (B : Bt mg) : FnOk P w K mg base CX0 1 f fd ["thing"] spInt := by
  refine F.ok sc_is_integer (fun vs H Q E h => ?_) (fun cdv A outer s H vs Q E hr h => ?_)
  · obtain ⟨i, rfl, _⟩ := h; rfl
  · obtain ⟨i, rfl, k⟩ := h
    refine ⟨_, pss_one (ps_ret (pe_and (pe_callB call_isi (by rfl) B.b_isinstance (by decide +kernel) (pa_cons (pv 0) (pa_cons (pe_bltn (v := .ty "int") (by rfl) B.b_int (by decide +kernel) rfl) pa_nil)))
      (pe_one (pe_not (pe_callB call_isi (by rfl) B.b_isinstance (by decide +kernel) (pa_cons (pv 0) (pa_cons (pe_bltn (v := .ty "bool") (by rfl) B.b_bool (by decide +kernel) rfl) pa_nil))))))), ?_⟩
    refine ⟨_, rfl, _, _, _, _, true, rfl, .ty "int", .base (.int i), kit_ty (by decide +kernel), true, rfl, ?_⟩
    exact ⟨_, rfl, _, _, _, _, false, rfl, .ty "bool", .base (.int i), kit_ty (by decide +kernel), false, rfl, k⟩
def spWithin : Sp := fun vs H Q _ => ∃ i l m : Int, vs = [.int i, .int l, .int m] ∧ l ≤ i ∧ i ≤ m ∧ Q (.bl true) H
theorem ok_is_within {f fI : Addr} {fd fdI : FuncData} (F : Fun K "is_within" "is_within" st_is_within f fd) (GI : FnOk P w K mg base CX0 1 fI fdI ["thing"] spInt) (mI : mg "is_integer" = some (.ref fI)) (kI : PySem.W.keepIn K (.ref fI) = true) (bI : Binds K fdI ["thing"] []) :
    FnOk P w K mg base CX0 2 f fd ["thing", "least", "most"] spWithin := by
  refine F.ok sc_is_within (fun vs H Q E h => ?_) (fun cdv A outer s H vs Q E hr h => ?_)
  · obtain ⟨i, l, m, rfl, _⟩ := h; rfl
  · obtain ⟨i, l, m, rfl, h1, h2, k⟩ := h
    refine ⟨_, pss_one (ps_ret (pe_and (pe_call GI hr rfl mI kI bI .nil pass0 (pa_cons (pv 0) pa_nil)) (pe_one (pe_chain op_le op_le (pv 1) (pv 0) (pv 2))))), ?_⟩
    refine ⟨_, rfl, i, rfl, true, rfl, ?_⟩
    refine ⟨_, rfl, _, rfl, l, i, rfl, rfl, _, rfl, ?_⟩
    refine iteY (decide_eq_true h1) ?_
    refine ⟨_, rfl, i, m, rfl, rfl, ?_⟩
    show Q (.bl (decide (i ≤ m))) H
    rw [decide_eq_true h2]
    exact k
def spPair : Sp := fun vs H Q _ => ∃ a x y, vs = [.ref a] ∧ H a = some (.tup [x, y]) ∧ Q (.bl true) H
theorem ok_is_pair {f : Addr} {fd : FuncData} (F : Fun K "is_pair" "is_pair" st_is_pair f fd) (B : Bt mg) : FnOk P w K mg base CX0 1 f fd ["thing"] spPair := by
  refine F.ok sc_is_pair (fun vs H Q E h => ?_) (fun cdv A outer s H vs Q E hr h => ?_)
  · obtain ⟨a, x, y, rfl, _⟩ := h; rfl
  · obtain ⟨a, x, y, rfl, ha, k⟩ := h
    refine ⟨_, pss_one (ps_ret (pe_and (pe_callB call_isi (by rfl) B.b_isinstance (by decide +kernel) (pa_cons (pv 0) (pa_cons (pe_bltn (v := .ty "tuple") (by rfl) B.b_tuple (by decide +kernel) rfl) pa_nil)))
      (pe_one (pe_cmpR op_eq (pe_callB call_len_seq (by rfl) B.b_len boot_len (pa_cons (pv 0) pa_nil)) pe_int (nomark _))))), ?_⟩
    refine ⟨_, rfl, _, _, _, _, true, rfl, .ty "tuple", .base (.tup ha), kit_ty (by decide +kernel), true, rfl, ?_⟩
    exact ⟨_, rfl, a, _, rfl, .inr (SqT.of ha), rfl, k⟩
def spKey : Sp := fun vs H Q _ => ∃ k, vs = [.str k] ∧ GoodK k ∧ ∀ H', Same H H' → Q (.bl true) H'
theorem ok_is_key {f : Addr} {fd : FuncData} (F : Fun K "is_key" "is_key" st_is_key f fd) (B : Bt mg) (C : Cn mg) : FnOk P w K mg base CX0 1 f fd ["thing"] spKey := by
  refine F.ok sc_is_key (fun vs H Q E h => ?_) (fun cdv A outer s H vs Q E hr h => ?_)
  · obtain ⟨k, rfl, _⟩ := h; rfl
  · obtain ⟨k, rfl, g, q⟩ := h
    obtain ⟨tL, mL⟩ := C.letters
    obtain ⟨tM, mM⟩ := C.most
    refine ⟨_, pss_cons (ps_if (PW.pt (pw_or (pt_not (pt_val (pe_callB call_isi (by rfl) B.b_isinstance (by decide +kernel) (pa_cons (pv 0) (pa_cons (pe_bltn (v := .ty "str") (by rfl) B.b_str (by decide +kernel) rfl) pa_nil)))))
        (pw_or1 (pt_not (pt_chain op_le op_le pe_int (pe_callB call_len_str (by rfl) B.b_len boot_len (pa_cons (pv 0) pa_nil)) (pe_glob (v := .int 12) (by rfl) mM ⟨_, rfl⟩)))))) (pss_one (ps_ret pe_bl)) pss_nil)
      (pss_one (ps_ret (pe_callB (cr_all rfl) (by rfl) B.b_all (by decide +kernel) (pa_cons (pe_lc (own := [("sign", 1)]) (g := gName 1) (tt := tYes) rfl sc_is_key.nd (pi_str (pv 0)) (blkOk_by (N := ["thing", "sign"]) (sc := defScope st_is_key) (by decide +kernel))
        (fun _ _ _ _ _ => pg_name (i := 1) sc_is_key.nd rfl (Or.inl rfl)) (fun _ _ _ _ _ => pts_nil)
        (fun _ _ _ _ _ => pe_cmpR op_in_sign (pv 1) (pe_glob (v := .str alphabet) (by rfl) mL ⟨_, rfl⟩) rfl)) pa_nil)))), ?_⟩
    refine ⟨_, rfl, _, _, _, _, true, rfl, .ty "str", .base (.str k), kit_ty (by decide +kernel), true, rfl, ?_⟩
    refine iteF ?_
    have h1 := g.lo
    have h2 := g.hi
    refine ⟨_, rfl, k, rfl, (by rw [sizeLine_eq]; omega), _, _, rfl, rfl, _, rfl, ?_⟩
    refine iteY (decide_eq_true (by omega)) ?_
    refine ⟨_, _, rfl, rfl, _, rfl, ?_⟩
    rw [decide_eq_true (show ((k.length : Nat) : Int) ≤ 12 by omega)]
    refine iteF ?_
    refine ⟨_, rfl, k, rfl, fun D hD => lc_it walk_str (fun i H2 => Same H H2 ∧ H2 D = some (.lst (List.replicate i (V.bl true)))) ⟨fun b o e => by rw [upd_ne (ne_of_none e hD)]; exact e, upd_same⟩ (fun _ _ _ _ => trivial) ?_ ?_⟩
    · rintro i x H2 H2' hi ⟨s2, d2⟩ ⟨rfl, c, hc, rfl⟩
      refine ⟨rfl, ?_⟩
      refine ⟨_, rfl, c, alphabet, rfl, rfl, _, d2, ?_, ?_⟩
      · rw [List.length_replicate]
        have h3 : k.cps.size = k.length := rfl
        exact small1000 (by omega)
      · have ec : c ∈ k.cps.toList := by
          rw [Array.mem_toList_iff]
          exact Array.mem_of_getElem? hc
        rw [decide_eq_true (in_abc (g.az c ec)), grow_true]
        exact ⟨fun b o e => by rw [upd_ne (fun z => by rw [z, hD] at e; cases e)]; exact s2 b o e, upd_same⟩
    · rintro H2 ⟨s2, d2⟩
      refine ⟨D, List.replicate k.cps.size true, rfl, sq_trues d2, ?_⟩
      rw [allTrue]
      exact q H2 s2
def spWorth : Sp := fun vs H Q _ => ∃ i : Int, vs = [.int i] ∧ -10 ^ 18 ≤ i ∧ i ≤ 10 ^ 18 ∧ Q (.bl true) H
theorem ok_is_worth {f fI : Addr} {fd fdI : FuncData} (F : Fun K "is_worth" "is_worth" st_is_worth f fd) (C : Cn mg) (GI : FnOk P w K mg base CX0 2 fI fdI ["thing", "least", "most"] spWithin) (mI : mg "is_within" = some (.ref fI)) (kI : PySem.W.keepIn K (.ref fI) = true) (bI : Binds K fdI ["thing", "least", "most"] []) :
    FnOk P w K mg base CX0 3 f fd ["thing"] spWorth := by
  refine F.ok sc_is_worth (fun vs H Q E h => ?_) (fun cdv A outer s H vs Q E hr h => ?_)
  · obtain ⟨i, rfl, _⟩ := h; rfl
  · obtain ⟨i, rfl, h1, h2, k⟩ := h
    obtain ⟨tW, mW⟩ := C.worth
    refine ⟨_, pss_one (ps_ret (pe_call GI hr rfl mI kI bI .nil pass0 (pa_cons (pv 0) (pa_cons (pe_un un_neg (pe_glob (v := .int 1000000000000000000) (by rfl) mW ⟨_, rfl⟩)) (pa_cons (pe_glob (v := .int 1000000000000000000) (by rfl) mW ⟨_, rfl⟩) pa_nil))))), ?_⟩
    exact ⟨_, rfl, _, rfl, i, _, _, rfl, by omega, by omega, k⟩
end
end W30


/-! S18: is_rising, are_keys. -/
namespace W30
open PySem PySem.Spec PyProof.Rows L2
theorem same_upd {H H' : Hp} {p : Addr} {o : HO} (e : Same H H') (h : H p = none) : Same H (upd H' p o) := fun b u q => by rw [upd_ne (ne_of_none q h)]; exact e b u q
theorem same_new {H : Hp} {p : Addr} {o : HO} (h : H p = none) : Same H (upd H p o) := same_upd (Same.refl H) h
theorem same_sqT {K : PySem.W.Frag} {H H' : Hp} {a : Addr} {xs : List V} (e : Same H H') (h : SqT K H a xs) : SqT K H' a xs := SqT.ext h e
theorem TupR.same {K : PySem.W.Frag} {H H' : Hp} {a : Addr} {r : RT} (h : TupR K H a r) (e : Same H H') : TupR K H' a r := by
  obtain ⟨b, h1, h2⟩ := h
  exact ⟨b, SqT.ext h1 e, SqT.ext h2 e⟩
def LtV (K : PySem.W.Frag) (H : Hp) (x y : V) : Prop := (∃ i j, x = .str i ∧ y = .str j ∧ ltS i j = true) ∨ (∃ a b q r, x = .ref a ∧ y = .ref b ∧ TupR K H a q ∧ TupR K H b r ∧ ltR q r = true)
theorem LtV.same {K : PySem.W.Frag} {H H' : Hp} {x y : V} (h : LtV K H x y) (e : Same H H') : LtV K H' x y := by
  rcases h with h | ⟨a, b, q, r, h1, h2, h3, h4, h5⟩
  · exact .inl h
  · exact .inr ⟨a, b, q, r, h1, h2, h3.same e, h4.same e, h5⟩
/-- each is below the next -/
def Rise (K : PySem.W.Frag) (H : Hp) (xs : List V) : Prop := ∀ i x y, xs[i]? = some x → xs[i + 1]? = some y → LtV K H x y
theorem cut1 (xs : List V) : cutV xs (some 1) none = xs.drop 1 := by
  unfold cutV
  have e1 : HT.sIx xs.length 0 (some (1 : Int)) = min 1 xs.length := HT.sIx_nat xs.length 0 1
  rw [e1, HT.sIx_none]
  cases xs with
  | nil => rfl
  | cons x xs =>
    have e : min 1 (x :: xs).length = 1 := by simp
    rw [e]
    simp
theorem drop1_at (xs : List V) (i : Nat) : (xs.drop 1)[i]? = xs[i + 1]? := by rw [List.getElem?_drop, Nat.add_comm]
theorem walk_zipT {K : PySem.W.Frag} {a b : Addr} {xs ys : List V} {n : Nat} (hn : n = min xs.length ys.length) : Walk (RZ.ItzT K a b) n (fun H => SqT K H a xs ∧ SqT K H b ys) (YPair (fun i => xs[i]?) (fun i => ys[i]?)) := by
  subst hn
  refine ⟨fun i _ hi q => ?_, fun _ q => ⟨xs, ys, q.1, q.2, by omega⟩, fun i H v H' _ q y => ?_⟩
  · have h1 : i < xs.length := by omega
    have h2 : i < ys.length := by omega
    exact ⟨xs, ys, xs[i], ys[i], q.1, q.2, by simp [h1], by simp [h2]⟩
  · obtain ⟨T, x, z, h1, h2, h3, h4, h5⟩ := y
    exact ⟨T, x, z, h1, h2, h3, h4 xs q.1, h5 ys q.2⟩
abbrev rLtV (K : PySem.W.Frag) : R2 := fun x y H Q => (∃ i j, x = .str i ∧ y = .str j ∧ Q (.bl (ltS i j)) H) ∨ (∃ a b q r, x = .ref a ∧ y = .ref b ∧ TupR K H a q ∧ TupR K H b r ∧ Q (.bl (ltR q r)) H)
abbrev gPair (K : PySem.W.Frag) (i j : Nat) : TG := gTup K 2 (gCons (gName i) (gCons (gName j) gNil))
section
variable {P : Program} {w : World} {K : PySem.W.Frag} {mg : Str → Option Value} {base : Heap}
/-- the pairs' comprehension gives only True -/
theorem lc_rise {J : It} {G : Hp → Prop} {xs : List V} {H1 : Hp} {D : Addr} {Qd : Hp → Prop} {v : V} (hxs : xs.length ≤ 1000) (hD : H1 D = none) (wk : Walk J (xs.length - 1) G (YPair (fun i => xs[i]?) (fun i => (xs.drop 1)[i]?))) (hG : ∀ H2, Same H1 H2 → G H2) (hr : Rise K H1 xs)
    (hd : ∀ H2, Same H1 H2 → H2 D = some (.lst (List.replicate (xs.length - 1) (V.bl true))) → Qd H2) :
    ∃ W : Nat → Nat → Hp → Prop, (∃ m, W 0 m (upd H1 D (.lst []))) ∧ ∀ i m H, W i m H →
      (J.stop i H ∧ Qd H) ∨ (J.go i H ∧ ∃ Nx : Hp → Prop, (∀ H', Nx H' → ∃ m', m' < m ∧ W (i + 1) m' H') ∧ ∀ x H', J.yld i H x H' → gPair K 1 2 x (wipe [some v, none, none] [1, 2]) H' fun σ2 H2 => wipe σ2 [1, 2] = wipe [some v, none, none] [1, 2] ∧ tYes σ2 H2 fun b H3 =>
        if b = true then tOp (rLtV K) (tVar 1) (tVar 2) σ2 H3 fun y H4 => ∃ acc, H4 D = some (.lst acc) ∧ acc.length < sizeLine ∧ Nx (upd H4 D (.lst (acc ++ [y]))) else Nx H3) := by
  refine lc_it wk (fun i H2 => Same H1 H2 ∧ H2 D = some (.lst (List.replicate i (V.bl true)))) ⟨same_new hD, upd_same⟩ (fun i H2 _ q => hG H2 q.1) ?_ fun H2 q => hd H2 q.1 q.2
  rintro i u H2 H2' hi ⟨s2, d2⟩ ⟨T, x, y, rfl, hT, rfl, hx, hy⟩
  refine ⟨T, [x, y], rfl, SqT.of upd_same, rfl, x, [y], rfl, y, [], rfl, rfl, rfl, ?_⟩
  have dT : D ≠ T := ne_of_none d2 hT
  have s3 : Same H1 (upd H2 T (.tup [x, y])) := same_upd s2 (s2.free hT)
  have d3 : (upd H2 T (.tup [x, y])) D = some (.lst (List.replicate i (V.bl true))) := by rw [upd_ne dT]; exact d2
  have hsz : (List.replicate i (V.bl true)).length < sizeLine := by rw [List.length_replicate]; exact small1000 (by omega)
  have fin : Same H1 (upd (upd H2 T (.tup [x, y])) D (.lst (List.replicate i (V.bl true) ++ [V.bl true]))) ∧ (upd (upd H2 T (.tup [x, y])) D (.lst (List.replicate i (V.bl true) ++ [V.bl true]))) D = some (.lst (List.replicate (i + 1) (V.bl true))) :=
    ⟨same_upd s3 hD, by rw [upd_same, grow_true]⟩
  have hy' : xs[i + 1]? = some y := by rw [← drop1_at]; exact hy
  rcases hr i x y hx hy' with ⟨p, q, rfl, rfl, e⟩ | ⟨a, b, q, r, rfl, rfl, h1, h2, e⟩
  · refine ⟨_, rfl, _, rfl, .inl ⟨p, q, rfl, rfl, _, d3, hsz, ?_⟩⟩
    rw [e]; exact fin
  · refine ⟨_, rfl, _, rfl, .inr ⟨a, b, q, r, rfl, rfl, h1.same s3, h2.same s3, _, d3, hsz, ?_⟩⟩
    rw [e]; exact fin
def spRise (K : PySem.W.Frag) : Sp := fun vs H Q _ => ∃ a xs, vs = [.ref a] ∧ (SqL K H a xs ∨ SqT K H a xs) ∧ xs.length ≤ 1000 ∧ Rise K H xs ∧ ∀ H', Same H H' → Q (.bl true) H'
theorem ok_is_rising {f : Addr} {fd : FuncData} (F : Fun K "is_rising" "is_rising" st_is_rising f fd) (B : Bt mg) : FnOk P w K mg base CX0 1 f fd ["things"] (spRise K) := by
  refine F.ok sc_is_rising (fun vs H Q E h => ?_) (fun cdv A outer s H vs Q E hr h => ?_)
  · obtain ⟨a, xs, rfl, _⟩ := h; rfl
  · obtain ⟨a, xs, rfl, ha, hl, rs, q⟩ := h
    have hu := hr.units
    refine ⟨_, pss_one (ps_ret (pe_callB (cr_all rfl) (by rfl) B.b_all (by decide +kernel) (pa_cons (pe_lc (own := [("one", 1), ("other", 2)]) (g := gPair K 1 2) (tt := tYes) (te := tOp (rLtV K) (tVar 1) (tVar 2)) rfl sc_is_rising.nd
        (RZ.pi_zipA (by rfl) B.b_zip (pa_cons (pv 0) (pa_cons (pe_slice (sl_list.or sl_tupA) (pv 0) (po_some pe_int) po_none) pa_nil)))
        (blkOk_by (N := ["things", "one", "other"]) (sc := defScope st_is_rising) (by decide +kernel))
        (fun _ _ _ _ _ => pg_tup rfl (pgs_cons (pg_name (i := 1) sc_is_rising.nd rfl (Or.inl rfl)) (pgs_cons (pg_name (i := 2) sc_is_rising.nd rfl (Or.inl rfl)) pgs_nil))) (fun _ _ _ _ _ => pts_nil)
        (fun _ _ _ _ _ => pe_cmpR (op_ltS.or (op_ltR hu)) (pv 1) (pv 2) (nomark _))) pa_nil))), ?_⟩
    have hmin : xs.length - 1 = min xs.length (xs.drop 1).length := by rw [List.length_drop]; omega
    have fin : ∀ (H1 H2 : Hp) (D : Addr), Same H H1 → Same H1 H2 → H2 D = some (.lst (List.replicate (xs.length - 1) (V.bl true))) → (fun xs' H' Q' => ∃ (a : Addr) (bs : List Bool), xs' = [V.ref a] ∧ SqL K H' a (bs.map V.bl) ∧ Q' (V.bl (bs.all id)) H') [V.ref D] H2 Q := fun H1 H2 D e1 e2 d => by
      refine ⟨D, List.replicate (xs.length - 1) true, rfl, sq_trues d, ?_⟩
      rw [allTrue]
      exact q H2 (e1.trans e2)
    rcases ha with ha | ha
    · refine ⟨_, rfl, _, rfl, 1, rfl, .inl ⟨a, xs, rfl, ha, fun p hp => ?_⟩⟩
      have e1 : Same H (upd H p (.lst (cutV xs (some 1) none))) := same_new hp
      refine ⟨a, p, xs, xs.drop 1, rfl, .inl ⟨e1.seq ha, ?_, fun D hD => lc_rise hl hD (walk_zip hmin) (fun H2 e2 => ⟨e2.seq (e1.seq ha), e2.seq (SqL.of ?_)⟩) (fun i x y h1 h2 => (rs i x y h1 h2).same e1) fun H2 e2 d => fin _ H2 D e1 e2 d⟩⟩
      · rw [← cut1]; exact SqL.of upd_same
      · rw [← cut1]; exact upd_same
    · refine ⟨_, rfl, _, rfl, 1, rfl, .inr ⟨a, xs, rfl, ha, fun hw => ?_, fun hw p hp => ?_⟩⟩
      · have hx : xs = xs.drop 1 := by
          cases xs with
          | nil => rfl
          | cons x xs =>
            have e1 : HT.sIx (x :: xs).length 0 (some (1 : Int)) = min 1 (x :: xs).length := HT.sIx_nat _ 0 1
            have := hw.1
            rw [e1] at this
            simp at this
        have ha2 : SqT K H a (xs.drop 1) := by rw [← hx]; exact ha
        exact ⟨a, a, xs, xs.drop 1, rfl, .inr ⟨ha, ha2, fun D hD => lc_rise hl hD (walk_zipT hmin) (fun H2 e2 => ⟨SqT.ext ha e2, SqT.ext ha2 e2⟩) rs fun H2 e2 d => fin _ H2 D (Same.refl H) e2 d⟩⟩
      · have e1 : Same H (upd H p (.tup (cutV xs (some 1) none))) := same_new hp
        refine ⟨a, p, xs, xs.drop 1, rfl, .inr ⟨SqT.ext ha e1, ?_, fun D hD => lc_rise hl hD (walk_zipT hmin) (fun H2 e2 => ⟨SqT.ext ha (e1.trans e2), SqT.ext (SqT.of ?_) e2⟩) (fun i x y h1 h2 => (rs i x y h1 h2).same e1) fun H2 e2 d => fin _ H2 D e1 e2 d⟩⟩
        · rw [← cut1]; exact SqT.of upd_same
        · rw [← cut1]; exact upd_same
end
end W30


/-! S19: are_keys, is_range, are_ranges, is_write, are_writes. -/
namespace W30
open PySem PySem.Spec PyProof.Rows L2
/-- the comprehension over a tuple whose items all pass -/
theorem lc_all {K : PySem.W.Frag} {a : Addr} {xs : List V} {H1 : Hp} {D : Addr} {Qd : Hp → Prop} {te : TE} {σ : L2.St} {j : Nat} (hxs : xs.length ≤ 1000) (hD : H1 D = none) (ha : SqT K H1 a xs) (hw : ∀ x : V, wipe ((wipe σ [j]).set j (some x)) [j] = wipe σ [j])
    (he : ∀ (i : Nat) (x : V) (H2 : Hp) (Q : VK), xs[i]? = some x → Same H1 H2 → (∀ H3, Same H2 H3 → Q (.bl true) H3) → te ((wipe σ [j]).set j (some x)) H2 Q)
    (hd : ∀ H2, Same H1 H2 → H2 D = some (.lst (List.replicate xs.length (V.bl true))) → Qd H2) :
    ∃ W : Nat → Nat → Hp → Prop, (∃ m, W 0 m (upd H1 D (.lst []))) ∧ ∀ i m H, W i m H →
      ((Itt K a).stop i H ∧ Qd H) ∨ ((Itt K a).go i H ∧ ∃ Nx : Hp → Prop, (∀ H', Nx H' → ∃ m', m' < m ∧ W (i + 1) m' H') ∧ ∀ x H', (Itt K a).yld i H x H' → gName j x (wipe σ [j]) H' fun σ2 H2 => wipe σ2 [j] = wipe σ [j] ∧ tYes σ2 H2 fun b H3 =>
        if b = true then te σ2 H3 fun y H4 => ∃ acc, H4 D = some (.lst acc) ∧ acc.length < sizeLine ∧ Nx (upd H4 D (.lst (acc ++ [y]))) else Nx H3) := by
  refine lc_it walk_tup (fun i H2 => Same H1 H2 ∧ H2 D = some (.lst (List.replicate i (V.bl true)))) ⟨same_new hD, upd_same⟩ (fun i H2 _ q => SqT.ext ha q.1) ?_ fun H2 q => hd H2 q.1 q.2
  rintro i x H2 H2' hi ⟨s2, d2⟩ ⟨rfl, hx⟩
  refine ⟨hw x, ?_⟩
  refine he i x _ _ hx s2 fun H3 s3 => ⟨_, s3 D _ d2, by rw [List.length_replicate]; exact small1000 (by omega), ?_, by rw [upd_same, grow_true]⟩
  exact same_upd (s2.trans s3) hD
/-- a range that stands in tracked tuples -/
def TupX (H : Hp) (a : Addr) (r : RT) : Prop := ∃ b, H a = some (.tup [.str r.1, .str r.2.1, .ref b]) ∧ H b = some (.tup (r.2.2.map V.str))
theorem TupX.r {K : PySem.W.Frag} {H : Hp} {a : Addr} {r : RT} (h : TupX H a r) : TupR K H a r := by
  obtain ⟨b, h1, h2⟩ := h
  exact ⟨b, SqT.of h1, SqT.of h2⟩
theorem TupX.same {H H' : Hp} {a : Addr} {r : RT} (h : TupX H a r) (e : Same H H') : TupX H' a r := by
  obtain ⟨b, h1, h2⟩ := h
  exact ⟨b, e _ _ h1, e _ _ h2⟩
theorem asc_next {β : Type} {lt : β → β → Bool} {l : List β} (h : Asc lt l) {i : Nat} {x y : β} (h1 : l[i]? = some x) (h2 : l[i + 1]? = some y) : lt x y = true := by
  obtain ⟨b1, e1⟩ := List.getElem?_eq_some_iff.mp h1
  obtain ⟨b2, e2⟩ := List.getElem?_eq_some_iff.mp h2
  have := List.pairwise_iff_getElem.mp h i (i + 1) b1 b2 (by omega)
  rwa [e1, e2] at this
theorem rise_keys {K : PySem.W.Frag} {H : Hp} {ks : List Str} (h : AscS ks) : Rise K H (ks.map V.str) := by
  intro i x y h1 h2
  rw [List.getElem?_map] at h1 h2
  obtain ⟨p, hp, rfl⟩ := Option.map_eq_some_iff.mp h1
  obtain ⟨q, hq, rfl⟩ := Option.map_eq_some_iff.mp h2
  exact .inl ⟨p, q, rfl, rfl, asc_next h hp hq⟩
theorem rise_rngs {K : PySem.W.Frag} {H : Hp} {L : List (Addr × RT)} (h : AscR (L.map (·.2))) (hL : ∀ p ∈ L, TupR K H p.1 p.2) : Rise K H (L.map fun p => V.ref p.1) := by
  intro i x y h1 h2
  rw [List.getElem?_map] at h1 h2
  obtain ⟨p, hp, rfl⟩ := Option.map_eq_some_iff.mp h1
  obtain ⟨q, hq, rfl⟩ := Option.map_eq_some_iff.mp h2
  refine .inr ⟨p.1, q.1, p.2, q.2, rfl, rfl, hL p (List.mem_of_getElem? hp), hL q (List.mem_of_getElem? hq), asc_next (i := i) h ?_ ?_⟩
  · rw [List.getElem?_map, hp]; rfl
  · rw [List.getElem?_map, hq]; rfl
section
variable {P : Program} {w : World} {K : PySem.W.Frag} {mg : Str → Option Value} {base : Heap}
def spKeys : Sp := fun vs H Q _ => ∃ a ks, vs = [.ref a] ∧ H a = some (.tup (ks.map V.str)) ∧ (∀ k ∈ ks, GoodK k) ∧ AscS ks ∧ ks.length ≤ 1000 ∧ ∀ H', Same H H' → Q (.bl true) H'
theorem ok_are_keys {f fK fR : Addr} {fd fdK fdR : FuncData} (F : Fun K "are_keys" "are_keys" st_are_keys f fd) (B : Bt mg) (GK : FnOk P w K mg base CX0 1 fK fdK ["thing"] spKey) (mK : mg "is_key" = some (.ref fK)) (kK : PySem.W.keepIn K (.ref fK) = true) (bK : Binds K fdK ["thing"] [])
    (GR : FnOk P w K mg base CX0 1 fR fdR ["things"] (spRise K)) (mR : mg "is_rising" = some (.ref fR)) (kR : PySem.W.keepIn K (.ref fR) = true) (bR : Binds K fdR ["things"] []) : FnOk P w K mg base CX0 2 f fd ["thing"] spKeys := by
  refine F.ok sc_are_keys (fun vs H Q E h => ?_) (fun cdv A outer s H vs Q E hr h => ?_)
  · obtain ⟨a, ks, rfl, _⟩ := h; rfl
  · obtain ⟨a, ks, rfl, ha, hk, hs, hl, q⟩ := h
    refine ⟨_, pss_one (ps_ret (pe_and (pe_callB call_isi (by rfl) B.b_isinstance (by decide +kernel) (pa_cons (pv 0) (pa_cons (pe_bltn (v := .ty "tuple") (by rfl) B.b_tuple (by decide +kernel) rfl) pa_nil)))
      (pe_and (pe_callB (cr_all rfl) (by rfl) B.b_all (by decide +kernel) (pa_cons (pe_lc (own := [("key", 1)]) (g := gName 1) (tt := tYes) (te := tCall spKey [] E0 (tCons (tVar 1) tNil)) rfl sc_are_keys.nd (pi_tup (pv 0)) (blkOk_by (N := ["thing", "key"]) (sc := defScope st_are_keys) (by decide +kernel))
          (fun _ _ _ _ _ => pg_name (i := 1) sc_are_keys.nd rfl (Or.inl rfl)) (fun _ _ _ _ _ => pts_nil) (fun _ _ _ _ _ => pe_call GK hr rfl mK kK bK .nil pass0 (pa_cons (pv 1) pa_nil))) pa_nil))
        (pe_one (pe_call GR hr rfl mR kR bR .nil pass0 (pa_cons (pv 0) pa_nil)))))), ?_⟩
    refine ⟨_, rfl, _, _, _, _, true, rfl, .ty "tuple", .base (.tup ha), kit_ty (by decide +kernel), true, rfl, ?_⟩
    refine ⟨_, rfl, a, rfl, ⟨_, SqT.of ha⟩, fun D hD => lc_all (xs := ks.map V.str) (by rw [List.length_map]; exact hl) hD (SqT.of ha) (fun _ => rfl) (fun i x H2 Q2 hx s2 k2 => ?_) fun H2 s2 d2 => ?_⟩
    · rw [List.getElem?_map] at hx
      obtain ⟨k, hk1, rfl⟩ := Option.map_eq_some_iff.mp hx
      exact ⟨_, rfl, k, rfl, hk k (List.mem_of_getElem? hk1), k2⟩
    · refine ⟨D, List.replicate (ks.map V.str).length true, rfl, sq_trues d2, ?_⟩
      rw [allTrue]
      exact ⟨true, rfl, _, rfl, a, ks.map V.str, rfl, .inr (SqT.of (s2 _ _ ha)), by rw [List.length_map]; exact hl, rise_keys hs, fun H3 s3 => q H3 (s2.trans s3)⟩
def spRange : Sp := fun vs H Q _ => ∃ a r, vs = [.ref a] ∧ TupX H a r ∧ GoodR r ∧ ∀ H', Same H H' → Q (.bl true) H'
theorem ok_is_range {f fK fR : Addr} {fd fdK fdR : FuncData} (F : Fun K "is_range" "is_range" st_is_range f fd) (B : Bt mg) (GK : FnOk P w K mg base CX0 1 fK fdK ["thing"] spKey) (mK : mg "is_key" = some (.ref fK)) (kK : PySem.W.keepIn K (.ref fK) = true) (bK : Binds K fdK ["thing"] [])
    (GR : FnOk P w K mg base CX0 2 fR fdR ["thing"] spKeys) (mR : mg "are_keys" = some (.ref fR)) (kR : PySem.W.keepIn K (.ref fR) = true) (bR : Binds K fdR ["thing"] []) : FnOk P w K mg base CX0 3 f fd ["thing"] spRange := by
  refine F.ok sc_is_range (fun vs H Q E h => ?_) (fun cdv A outer s H vs Q E hr h => ?_)
  · obtain ⟨a, r, rfl, _⟩ := h; rfl
  · obtain ⟨a, r, rfl, ht, g, q⟩ := h
    have hr1 : Room 1 _ := hr.mono (by decide)
    obtain ⟨b, h1, h2⟩ := id ht
    have il : ∀ k : Str, ltS k r.1 = false → (!decide (k.cps.toList < r.1.cps.toList)) = true := fun k e => by rw [← ltS_eq, e]; rfl
    have ih : ∀ k : Str, ltS r.2.1 k = false → (!decide (r.2.1.cps.toList < k.cps.toList)) = true := fun k e => by rw [← ltS_eq, e]; rfl
    refine ⟨_, pss_cons (ps_if (PW.pt (pw_or (pt_not (pt_val (pe_callB call_isi (by rfl) B.b_isinstance (by decide +kernel) (pa_cons (pv 0) (pa_cons (pe_bltn (v := .ty "tuple") (by rfl) B.b_tuple (by decide +kernel) rfl) pa_nil)))))
        (pw_or (pt_cmpR op_ne (pe_callB call_len_seq (by rfl) B.b_len boot_len (pa_cons (pv 0) pa_nil)) pe_int (nomark _))
        (pw_or (pt_not (pt_val (pe_call GK hr1 rfl mK kK bK .nil pass0 (pa_cons (pe_ix ix_tup (pv 0) pe_int (fun _ _ => rfl)) pa_nil))))
        (pw_or1 (pt_not (pt_val (pe_call GK hr1 rfl mK kK bK .nil pass0 (pa_cons (pe_ix ix_tup (pv 0) pe_int (fun _ _ => rfl)) pa_nil))))))))) (pss_one (ps_ret pe_bl)) pss_nil)
      (pss_cons (ps_asg (pv 0) (pg_tup rfl (pgs_cons (pg_name (i := 1) sc_is_range.nd rfl (Or.inr rfl)) (pgs_cons (pg_name (i := 2) sc_is_range.nd rfl (Or.inr rfl)) (pgs_cons (pg_name (i := 3) sc_is_range.nd rfl (Or.inl rfl)) pgs_nil)))))
      (pss_one (ps_ret (pe_and (pe_cmpR op_le_str (pv 1) (pv 2) (nomark _)) (pe_and (pe_call GR hr rfl mR kR bR .nil pass0 (pa_cons (pv 3) pa_nil))
        (pe_one (pe_callB (cr_all rfl) (by rfl) B.b_all (by decide +kernel) (pa_cons (pe_lc (own := [("key", 4)]) (g := gName 4) (tt := tYes) rfl sc_is_range.nd (pi_tup (pv 3)) (blkOk_by (N := ["thing", "low", "high", "own", "key"]) (sc := defScope st_is_range) (by decide +kernel))
          (fun _ _ _ _ _ => pg_name (i := 4) sc_is_range.nd rfl (Or.inl rfl)) (fun _ _ _ _ _ => pts_nil) (fun _ _ _ _ _ => pe_chain op_le_str op_le_str (pv 1) (pv 4) (pv 2))) pa_nil)))))))), ?_⟩
    refine ⟨_, rfl, _, _, _, _, true, rfl, .ty "tuple", .base (.tup h1), kit_ty (by decide +kernel), true, rfl, ?_⟩
    refine iteF ?_
    refine ⟨_, rfl, a, _, rfl, .inr (SqT.of h1), rfl, _, rfl, ?_⟩
    refine iteF ?_
    refine ⟨_, rfl, a, _, (0 : Nat), _, rfl, rfl, SqT.of h1, atI_nat rfl, r.1, rfl, g.k1, fun H2 s2 => ⟨true, rfl, ?_⟩⟩
    refine iteF ?_
    refine ⟨_, rfl, a, _, (1 : Nat), _, rfl, rfl, SqT.of (s2 _ _ h1), atI_nat rfl, r.2.1, rfl, g.k2, fun H3 s3 => ⟨true, rfl, ?_⟩⟩
    refine iteF ?_
    have s13 : Same H H3 := s2.trans s3
    refine ⟨_, rfl, a, _, rfl, SqT.of (s13 _ _ h1), rfl, _, _, rfl, _, _, rfl, _, _, rfl, rfl, ?_⟩
    refine ⟨_, rfl, _, rfl, r.1, r.2.1, rfl, rfl, _, rfl, ?_⟩
    refine iteY (il r.2.1 g.le) ?_
    refine ⟨_, rfl, b, r.2.2, rfl, s13 _ _ h2, fun k hk => (g.own k hk).1, g.asc, by have := g.few; omega, fun H4 s4 => ⟨true, rfl, ?_⟩⟩
    have s14 : Same H H4 := s13.trans s4
    refine ⟨_, rfl, b, rfl, ⟨_, SqT.of (s14 _ _ h2)⟩, fun D hD => lc_all (xs := r.2.2.map V.str) (by rw [List.length_map]; have := g.few; omega) hD (SqT.of (s14 _ _ h2)) (fun _ => rfl) (fun i x H5 Q5 hx s5 k5 => ?_) fun H5 s5 d5 => ?_⟩
    · rw [List.getElem?_map] at hx
      obtain ⟨k, hk1, rfl⟩ := Option.map_eq_some_iff.mp hx
      obtain ⟨_, g2, g3⟩ := g.own k (List.mem_of_getElem? hk1)
      refine ⟨_, rfl, _, rfl, r.1, k, rfl, rfl, _, rfl, ?_⟩
      refine iteY (il k g2) ?_
      refine ⟨_, rfl, k, r.2.1, rfl, rfl, ?_⟩
      rw [ih k g3]
      exact k5 _ (Same.refl _)
    · refine ⟨D, List.replicate (r.2.2.map V.str).length true, rfl, sq_trues d5, ?_⟩
      rw [allTrue]
      exact q H5 (s14.trans s5)
end
end W30


/-! S20: are_ranges, is_write, are_writes, is_numbered, bad_part. -/
namespace W30
open PySem PySem.Spec PyProof.Rows L2
/-- a write's pair that stands in a tracked tuple -/
def PairX (H : Hp) (a : Addr) (p : WT) : Prop := H a = some (.tup [.str p.1, mv p.2])
theorem PairX.same {H H' : Hp} {a : Addr} {p : WT} (h : PairX H a p) (e : Same H H') : PairX H' a p := e _ _ h
theorem PairX.at {K : PySem.W.Frag} {H : Hp} {a : Addr} {p : WT} (h : PairX H a p) : PairAt K H a p := SqT.of h
section
variable {P : Program} {w : World} {K : PySem.W.Frag} {mg : Str → Option Value} {base : Heap}
def spRanges : Sp := fun vs H Q _ => ∃ (a : Addr) (L : List (Addr × RT)), vs = [.ref a] ∧ H a = some (.tup (L.map fun p => V.ref p.1)) ∧ (∀ p ∈ L, TupX H p.1 p.2 ∧ GoodR p.2) ∧ AscR (L.map (·.2)) ∧ L.length ≤ 1000 ∧ ∀ H', Same H H' → Q (.bl true) H'
theorem ok_are_ranges {f fK fR : Addr} {fd fdK fdR : FuncData} (F : Fun K "are_ranges" "are_ranges" st_are_ranges f fd) (B : Bt mg) (GK : FnOk P w K mg base CX0 3 fK fdK ["thing"] spRange) (mK : mg "is_range" = some (.ref fK)) (kK : PySem.W.keepIn K (.ref fK) = true) (bK : Binds K fdK ["thing"] [])
    (GR : FnOk P w K mg base CX0 1 fR fdR ["things"] (spRise K)) (mR : mg "is_rising" = some (.ref fR)) (kR : PySem.W.keepIn K (.ref fR) = true) (bR : Binds K fdR ["things"] []) : FnOk P w K mg base CX0 4 f fd ["thing"] spRanges := by
  refine F.ok sc_are_ranges (fun vs H Q E h => ?_) (fun cdv A outer s H vs Q E hr h => ?_)
  · obtain ⟨a, ks, rfl, _⟩ := h; rfl
  · obtain ⟨a, L, rfl, ha, hk, hs, hl, q⟩ := h
    have hr1 : Room 1 _ := hr.mono (by decide)
    refine ⟨_, pss_one (ps_ret (pe_and (pe_callB call_isi (by rfl) B.b_isinstance (by decide +kernel) (pa_cons (pv 0) (pa_cons (pe_bltn (v := .ty "tuple") (by rfl) B.b_tuple (by decide +kernel) rfl) pa_nil)))
      (pe_and (pe_callB (cr_all rfl) (by rfl) B.b_all (by decide +kernel) (pa_cons (pe_lc (own := [("one", 1)]) (g := gName 1) (tt := tYes) (te := tCall spRange [] E0 (tCons (tVar 1) tNil)) rfl sc_are_ranges.nd (pi_tup (pv 0)) (blkOk_by (N := ["thing", "one"]) (sc := defScope st_are_ranges) (by decide +kernel))
          (fun _ _ _ _ _ => pg_name (i := 1) sc_are_ranges.nd rfl (Or.inl rfl)) (fun _ _ _ _ _ => pts_nil) (fun _ _ _ _ _ => pe_call GK hr rfl mK kK bK .nil pass0 (pa_cons (pv 1) pa_nil))) pa_nil))
        (pe_one (pe_call GR hr1 rfl mR kR bR .nil pass0 (pa_cons (pv 0) pa_nil)))))), ?_⟩
    refine ⟨_, rfl, _, _, _, _, true, rfl, .ty "tuple", .base (.tup ha), kit_ty (by decide +kernel), true, rfl, ?_⟩
    refine ⟨_, rfl, a, rfl, ⟨_, SqT.of ha⟩, fun D hD => lc_all (xs := L.map fun p => V.ref p.1) (by rw [List.length_map]; exact hl) hD (SqT.of ha) (fun _ => rfl) (fun i x H2 Q2 hx s2 k2 => ?_) fun H2 s2 d2 => ?_⟩
    · rw [List.getElem?_map] at hx
      obtain ⟨p, hp, rfl⟩ := Option.map_eq_some_iff.mp hx
      obtain ⟨h1, h2⟩ := hk p (List.mem_of_getElem? hp)
      exact ⟨_, rfl, p.1, p.2, rfl, h1.same s2, h2, k2⟩
    · refine ⟨D, List.replicate (L.map fun p => V.ref p.1).length true, rfl, sq_trues d2, ?_⟩
      rw [allTrue]
      exact ⟨true, rfl, _, rfl, a, L.map fun p => V.ref p.1, rfl, .inr (SqT.of (s2 _ _ ha)), by rw [List.length_map]; exact hl, rise_rngs hs (fun p hp => ((hk p hp).1.same s2).r), fun H3 s3 => q H3 (s2.trans s3)⟩
def spWrite : Sp := fun vs H Q _ => ∃ (a : Addr) (p : WT), vs = [.ref a] ∧ PairX H a p ∧ GoodW p ∧ ∀ H', Same H H' → Q (.bl true) H'
theorem ok_is_write {f fP fK fW : Addr} {fd fdP fdK fdW : FuncData} (F : Fun K "is_write" "is_write" st_is_write f fd) (GP : FnOk P w K mg base CX0 1 fP fdP ["thing"] spPair) (mP : mg "is_pair" = some (.ref fP)) (kP : PySem.W.keepIn K (.ref fP) = true) (bP : Binds K fdP ["thing"] [])
    (GK : FnOk P w K mg base CX0 1 fK fdK ["thing"] spKey) (mK : mg "is_key" = some (.ref fK)) (kK : PySem.W.keepIn K (.ref fK) = true) (bK : Binds K fdK ["thing"] [])
    (GW : FnOk P w K mg base CX0 3 fW fdW ["thing"] spWorth) (mW : mg "is_worth" = some (.ref fW)) (kW : PySem.W.keepIn K (.ref fW) = true) (bW : Binds K fdW ["thing"] []) : FnOk P w K mg base CX0 4 f fd ["thing"] spWrite := by
  refine F.ok sc_is_write (fun vs H Q E h => ?_) (fun cdv A outer s H vs Q E hr h => ?_)
  · obtain ⟨a, ks, rfl, _⟩ := h; rfl
  · obtain ⟨a, ⟨k, v⟩, rfl, ha, g, q⟩ := h
    have ha : H a = some (.tup [.str k, mv v]) := ha
    have hr1 : Room 1 _ := hr.mono (by decide)
    refine ⟨_, pss_one (ps_ret (pe_and (pe_call GP hr1 rfl mP kP bP .nil pass0 (pa_cons (pv 0) pa_nil)) (pe_and (pe_call GK hr1 rfl mK kK bK .nil pass0 (pa_cons (pe_ix ix_tup (pv 0) pe_int (fun _ _ => rfl)) pa_nil))
      (pe_one (pe_or (pe_cmp (pc_isN (pe_ix ix_tup (pv 0) pe_int (fun _ _ => rfl))) rfl) (pe_one (pe_call GW hr rfl mW kW bW .nil pass0 (pa_cons (pe_ix ix_tup (pv 0) pe_int (fun _ _ => rfl)) pa_nil)))))))), ?_⟩
    refine ⟨_, rfl, a, _, _, rfl, ha, true, rfl, ?_⟩
    refine ⟨_, rfl, a, _, (0 : Nat), _, rfl, rfl, SqT.of ha, atI_nat rfl, k, rfl, g.k, fun H2 s2 => ⟨true, rfl, ?_⟩⟩
    have h2 := s2 _ _ ha
    refine ⟨_, rfl, a, _, (1 : Nat), _, rfl, rfl, SqT.of h2, atI_nat rfl, decide (mv v = .non), rfl, ?_⟩
    cases v with
    | none => exact q H2 s2
    | some i =>
      obtain ⟨g1, g2⟩ := g.v i rfl
      exact ⟨_, rfl, a, _, (1 : Nat), _, rfl, rfl, SqT.of h2, atI_nat rfl, i, rfl, g1, g2, q H2 s2⟩
def spWrites : Sp := fun vs H Q _ => ∃ (a : Addr) (L : List (Addr × WT)), vs = [.ref a] ∧ H a = some (.tup (L.map fun p => V.ref p.1)) ∧ (∀ p ∈ L, PairX H p.1 p.2 ∧ GoodW p.2) ∧ AscS (L.map (·.2.1)) ∧ L.length ≤ 1000 ∧ ∀ H', Same H H' → Q (.bl true) H'
theorem ok_are_writes {f fK fR : Addr} {fd fdK fdR : FuncData} (F : Fun K "are_writes" "are_writes" st_are_writes f fd) (B : Bt mg) (GK : FnOk P w K mg base CX0 4 fK fdK ["thing"] spWrite) (mK : mg "is_write" = some (.ref fK)) (kK : PySem.W.keepIn K (.ref fK) = true) (bK : Binds K fdK ["thing"] [])
    (GR : FnOk P w K mg base CX0 1 fR fdR ["things"] (spRise K)) (mR : mg "is_rising" = some (.ref fR)) (kR : PySem.W.keepIn K (.ref fR) = true) (bR : Binds K fdR ["things"] []) : FnOk P w K mg base CX0 5 f fd ["thing"] spWrites := by
  refine F.ok sc_are_writes (fun vs H Q E h => ?_) (fun cdv A outer s H vs Q E hr h => ?_)
  · obtain ⟨a, ks, rfl, _⟩ := h; rfl
  · obtain ⟨a, L, rfl, ha, hk, hs, hl, q⟩ := h
    have hr1 : Room 1 _ := hr.mono (by decide)
    refine ⟨_, pss_cons (ps_if (PW.pt (pw_or (pt_not (pt_val (pe_callB call_isi (by rfl) B.b_isinstance (by decide +kernel) (pa_cons (pv 0) (pa_cons (pe_bltn (v := .ty "tuple") (by rfl) B.b_tuple (by decide +kernel) rfl) pa_nil)))))
      (pw_or1 (pt_not (pt_val (pe_callB (cr_all rfl) (by rfl) B.b_all (by decide +kernel) (pa_cons (pe_lc (own := [("one", 1)]) (g := gName 1) (tt := tYes) (te := tCall spWrite [] E0 (tCons (tVar 1) tNil)) rfl sc_are_writes.nd (pi_tup (pv 0)) (blkOk_by (N := ["thing", "one", "key", "worth"]) (sc := defScope st_are_writes) (by decide +kernel))
          (fun _ _ _ _ _ => pg_name (i := 1) sc_are_writes.nd rfl (Or.inl rfl)) (fun _ _ _ _ _ => pts_nil) (fun _ _ _ _ _ => pe_call GK hr rfl mK kK bK .nil pass0 (pa_cons (pv 1) pa_nil))) pa_nil))))))) (pss_one (ps_ret pe_bl)) pss_nil)
      (pss_one (ps_ret (pe_call GR hr1 rfl mR kR bR .nil pass0 (pa_cons (pe_lc (own := [("key", 2), ("worth", 3)]) (g := gPair K 2 3) (tt := tYes) (te := tVar 2) rfl sc_are_writes.nd (pi_tup (pv 0)) (blkOk_by (N := ["thing", "one", "key", "worth"]) (sc := defScope st_are_writes) (by decide +kernel))
          (fun _ _ _ _ _ => pg_tup rfl (pgs_cons (pg_name (i := 2) sc_are_writes.nd rfl (Or.inl rfl)) (pgs_cons (pg_name (i := 3) sc_are_writes.nd rfl (Or.inl rfl)) pgs_nil))) (fun _ _ _ _ _ => pts_nil) (fun _ _ _ _ _ => pv 2)) pa_nil)))), ?_⟩
    refine ⟨_, rfl, _, _, _, _, true, rfl, .ty "tuple", .base (.tup ha), kit_ty (by decide +kernel), true, rfl, ?_⟩
    refine iteF ?_
    refine ⟨_, rfl, a, rfl, ⟨_, SqT.of ha⟩, fun D hD => lc_all (xs := L.map fun p => V.ref p.1) (by rw [List.length_map]; exact hl) hD (SqT.of ha) (fun _ => rfl) (fun i x H2 Q2 hx s2 k2 => ?_) fun H2 s2 d2 => ?_⟩
    · rw [List.getElem?_map] at hx
      obtain ⟨p, hp, rfl⟩ := Option.map_eq_some_iff.mp hx
      obtain ⟨h1, h2⟩ := hk p (List.mem_of_getElem? hp)
      exact ⟨_, rfl, p.1, p.2, rfl, h1.same s2, h2, k2⟩
    · refine ⟨D, List.replicate (L.map fun p => V.ref p.1).length true, rfl, sq_trues d2, true, by rw [allTrue], ?_⟩
      refine iteF ?_
      have ha2 := s2 _ _ ha
      refine ⟨_, rfl, a, rfl, ⟨_, SqT.of ha2⟩, fun D2 hD2 => lc_it (walk_tup (xs := L.map fun p => V.ref p.1)) (fun i H3 => Same H2 H3 ∧ H3 D2 = some (.lst (((L.map (·.2.1)).map V.str).take i))) ⟨same_new hD2, upd_same⟩ (fun i H3 _ z => SqT.ext (SqT.of ha2) z.1) ?_ ?_⟩
      · rintro i x H3 H3' hi ⟨s3, d3⟩ ⟨rfl, hx⟩
        rw [List.getElem?_map] at hx
        obtain ⟨p, hp, rfl⟩ := Option.map_eq_some_iff.mp hx
        have hp2 : H3' p.1 = some (.tup [.str p.2.1, mv p.2.2]) := s3 _ _ (s2 _ _ (hk p (List.mem_of_getElem? hp)).1)
        refine ⟨p.1, _, rfl, SqT.of hp2, rfl, _, _, rfl, _, _, rfl, rfl, rfl, ?_⟩
        have hi2 : i < L.length := by rw [List.length_map] at hi; exact hi
        refine ⟨_, rfl, _, d3, ?_, same_upd s3 hD2, ?_⟩
        · rw [List.length_take]; exact small1000 (by rw [List.length_map, List.length_map]; omega)
        · have e : ((L.map (·.2.1)).map V.str)[i]? = some (.str p.2.1) := by rw [List.map_map, List.getElem?_map, hp]; rfl
          rw [upd_same, List.take_add_one, e]; rfl
      · rintro H3 ⟨s3, d3⟩
        rw [List.length_map] at d3
        rw [List.take_of_length_le (by rw [List.length_map, List.length_map]; exact Nat.le_refl _)] at d3
        exact ⟨D2, (L.map (·.2.1)).map V.str, rfl, .inl (SqL.of d3), by rw [List.length_map, List.length_map]; exact hl, rise_keys hs, fun H4 s4 => q H4 ((s2.trans s3).trans s4)⟩
/-- the number that a dealing takes -/
def NumOk (n : Int) (num : V) (xs : List V) : Prop := (xs = [] ∧ num = .non) ∨ (xs ≠ [] ∧ ∃ m : Int, num = .int m ∧ n < m)
def spNum : Sp := fun vs H Q _ => ∃ (n : Int) (num : V) (a : Addr) (xs : List V), vs = [.int n, num, .ref a] ∧ H a = some (.tup xs) ∧ NumOk n num xs ∧ Q (.bl true) H
theorem ok_is_numbered {f fI : Addr} {fd fdI : FuncData} (F : Fun K "is_numbered" "is_numbered" st_is_numbered f fd) (B : Bt mg) (GI : FnOk P w K mg base CX0 1 fI fdI ["thing"] spInt) (mI : mg "is_integer" = some (.ref fI)) (kI : PySem.W.keepIn K (.ref fI) = true) (bI : Binds K fdI ["thing"] []) :
    FnOk P w K mg base CX0 2 f fd ["snapshot", "number", "writes"] spNum := by
  refine F.ok sc_is_numbered (fun vs H Q E h => ?_) (fun cdv A outer s H vs Q E hr h => ?_)
  · obtain ⟨n, num, a, xs, rfl, _⟩ := h; rfl
  · obtain ⟨n, num, a, xs, rfl, ha, hn, q⟩ := h
    refine ⟨_, pss_cons (ps_if (PW.pt (pw_and (pt_val (pe_callB call_isi (by rfl) B.b_isinstance (by decide +kernel) (pa_cons (pv 2) (pa_cons (pe_bltn (v := .ty "tuple") (by rfl) B.b_tuple (by decide +kernel) rfl) pa_nil))))
        (pw_and1 (pt_cmpR op_eq (pe_callB call_len_seq (by rfl) B.b_len boot_len (pa_cons (pv 2) pa_nil)) pe_int (nomark _))))) (pss_one (ps_ret (pe_cmp (pc_isN (pv 1)) rfl))) pss_nil)
      (pss_cons (ps_if (pt_cmp (pc_isN (pv 1)) rfl) (pss_one (ps_ret (pe_not (pe_callB call_isi (by rfl) B.b_isinstance (by decide +kernel) (pa_cons (pv 2) (pa_cons (pe_bltn (v := .ty "tuple") (by rfl) B.b_tuple (by decide +kernel) rfl) pa_nil)))))) pss_nil)
      (pss_one (ps_ret (pe_and (pe_call GI hr rfl mI kI bI .nil pass0 (pa_cons (pv 1) pa_nil)) (pe_one (pe_cmpR op_gt (pv 1) (pv 0) (nomark _))))))), ?_⟩
    refine ⟨_, rfl, _, _, _, _, true, rfl, .ty "tuple", .base (.tup ha), kit_ty (by decide +kernel), true, rfl, ?_⟩
    refine iteT ?_
    refine ⟨_, rfl, a, _, rfl, .inr (SqT.of ha), rfl, _, rfl, ?_⟩
    rcases hn with ⟨rfl, rfl⟩ | ⟨hx, m, rfl, hm⟩
    · refine iteT ?_
      exact ⟨_, rfl, q⟩
    · have hl : ¬ (((xs.length : Nat) : Int) = 0) := fun z => hx (List.eq_nil_of_length_eq_zero (by omega))
      refine iteN (by simpa using hx) ?_
      refine ⟨_, rfl, _, rfl, ?_⟩
      refine iteF ?_
      refine ⟨_, rfl, m, rfl, true, rfl, ?_⟩
      refine ⟨_, rfl, _, rfl, m, n, rfl, rfl, ?_⟩
      have e : decide (m > n) = true := decide_eq_true hm
      show Q (.bl (decide (m > n))) H
      rw [e]; exact q
end
end W30


/-! S21: bad_part, Dealing. -/
namespace W30
open PySem PySem.Spec PyProof.Rows L2
/-- the facts of an own class that isinstance asks for -/
structure OwnC (K : PySem.W.Frag) (C : Addr) : Prop where
  cl : Cls K C
  ha : PySem.W.findIn K (.ref C) "__class__" = some (some (.builtin "object.__class__"))
  hn : PySem.W.specialIn K (.builtin "object.__class__") "__get__" = some (some (.builtin "getset_descriptor.__get__"))
  ht : PySem.W.takesIn K (.builtin "object.__class__") = some true
  hm : PySem.W.mroIn K C (.type "object") = some true
theorem kit_own {K : PySem.W.Frag} (C : Addr) : PySem.W.kitOne K (.ref C) (.ref C) = some true := by
  unfold PySem.W.kitOne
  rw [if_pos (by simp)]
/-- what a dealing is made of -/
structure DArgs (H : Hp) (n : Int) (num : V) (ga ra wa : Addr) (ks : List Str) (L : List (Addr × RT)) (W : List (Addr × WT)) : Prop where
  n0 : 0 ≤ n
  g : H ga = some (.tup (ks.map V.str))
  gk : ∀ k ∈ ks, GoodK k
  gs : AscS ks
  gl : ks.length ≤ 40
  r : H ra = some (.tup (L.map fun p => V.ref p.1))
  rk : ∀ p ∈ L, TupX H p.1 p.2 ∧ GoodR p.2
  rs : AscR (L.map (·.2))
  rl : L.length ≤ 40
  w : H wa = some (.tup (W.map fun p => V.ref p.1))
  wk : ∀ p ∈ W, PairX H p.1 p.2 ∧ GoodW p.2
  ws : AscS (W.map (·.2.1))
  wl : W.length ≤ 40
  nm : NumOk n num (W.map fun p => V.ref p.1)
theorem DArgs.same {H H' : Hp} {n : Int} {num : V} {ga ra wa : Addr} {ks : List Str} {L : List (Addr × RT)} {W : List (Addr × WT)} (d : DArgs H n num ga ra wa ks L W) (e : Same H H') : DArgs H' n num ga ra wa ks L W :=
  ⟨d.n0, e _ _ d.g, d.gk, d.gs, d.gl, e _ _ d.r, fun p hp => ⟨(d.rk p hp).1.same e, (d.rk p hp).2⟩, d.rs, d.rl, e _ _ d.w, fun p hp => ⟨(d.wk p hp).1.same e, (d.wk p hp).2⟩, d.ws, d.wl, d.nm⟩
def dFlds (n : Int) (num : V) (ga ra wa : Addr) : List (Str × V) := putF "writes" (.ref wa) (putF "ranges" (.ref ra) (putF "gets" (.ref ga) (putF "number" num (putF "snapshot" (.int n) []))))
theorem nsnap {a b c d e : V} : (putF "writes" a (putF "ranges" b (putF "gets" c (putF "number" d (putF "snapshot" e []))))).lookup ("snapshot" : Str) = some e := by
  repeat rw [lookup_putF]
  rw [if_neg (by decide +kernel), if_neg (by decide +kernel), if_neg (by decide +kernel), if_neg (by decide +kernel), if_pos rfl]
section
variable {n : Int} {num : V} {ga ra wa : Addr}
theorem d_snapshot : (dFlds n num ga ra wa).lookup ("snapshot" : Str) = some (.int n) := nsnap
theorem d_number : (dFlds n num ga ra wa).lookup ("number" : Str) = some num := by
  unfold dFlds
  rw [lookup_putF, if_neg (by decide +kernel), lookup_putF, if_neg (by decide +kernel), lookup_putF, if_neg (by decide +kernel), lookup_putF, if_pos rfl]
theorem d_gets : (dFlds n num ga ra wa).lookup ("gets" : Str) = some (.ref ga) := by
  unfold dFlds
  rw [lookup_putF, if_neg (by decide +kernel), lookup_putF, if_neg (by decide +kernel), lookup_putF, if_pos rfl]
theorem d_ranges : (dFlds n num ga ra wa).lookup ("ranges" : Str) = some (.ref ra) := by
  unfold dFlds
  rw [lookup_putF, if_neg (by decide +kernel), lookup_putF, if_pos rfl]
theorem d_writes : (dFlds n num ga ra wa).lookup ("writes" : Str) = some (.ref wa) := by
  unfold dFlds
  rw [lookup_putF, if_pos rfl]
theorem d_no {m : Str} (h1 : ¬ m = "snapshot") (h2 : ¬ m = "number") (h3 : ¬ m = "gets") (h4 : ¬ m = "ranges") (h5 : ¬ m = "writes") : (dFlds n num ga ra wa).lookup m = none := by
  unfold dFlds
  rw [lookup_putF, if_neg h5, lookup_putF, if_neg h4, lookup_putF, if_neg h3, lookup_putF, if_neg h2, lookup_putF, if_neg h1]
  rfl
end
theorem pflt {f : Str} {v : V} {fs : List (Str × V)} {k : Nat} (h : fs.length ≤ k) : (putF f v fs).length ≤ k + 1 := Nat.le_trans (length_putF f v fs) (Nat.succ_le_succ h)
theorem putF_len (f : Str) (v : V) (fs : List (Str × V)) : (putF f v fs).length ≤ fs.length + 1 := length_putF f v fs
/-- the class Dealing as the top has made it -/
structure DCls (K : PySem.W.Frag) (mg : Str → Option Value) (C : Addr) : Prop where
  own : OwnC K C
  mgC : mg "Dealing" = some (.ref C)
  f1 : NoAttr K C "snapshot"
  f2 : NoAttr K C "number"
  f3 : NoAttr K C "gets"
  f4 : NoAttr K C "ranges"
  f5 : NoAttr K C "writes"
section
variable {P : Program} {w : World} {K : PySem.W.Frag} {mg : Str → Option Value} {base : Heap}
def spBad : Sp := fun vs H Q _ => ∃ (n : Int) (num : V) (ga ra wa : Addr) (ks : List Str) (L : List (Addr × RT)) (W : List (Addr × WT)), vs = [.int n, num, .ref ga, .ref ra, .ref wa] ∧ DArgs H n num ga ra wa ks L W ∧ ∀ H', Same H H' → Q .non H'
theorem ok_bad_part {f fI fN fK fR fW : Addr} {fd fdI fdN fdK fdR fdW : FuncData} (F : Fun K "bad_part" "bad_part" st_bad_part f fd)
    (GI : FnOk P w K mg base CX0 1 fI fdI ["thing"] spInt) (mI : mg "is_integer" = some (.ref fI)) (kI : PySem.W.keepIn K (.ref fI) = true) (bI : Binds K fdI ["thing"] [])
    (GN : FnOk P w K mg base CX0 2 fN fdN ["snapshot", "number", "writes"] spNum) (mN : mg "is_numbered" = some (.ref fN)) (kN : PySem.W.keepIn K (.ref fN) = true) (bN : Binds K fdN ["snapshot", "number", "writes"] [])
    (GK : FnOk P w K mg base CX0 2 fK fdK ["thing"] spKeys) (mK : mg "are_keys" = some (.ref fK)) (kK : PySem.W.keepIn K (.ref fK) = true) (bK : Binds K fdK ["thing"] [])
    (GR : FnOk P w K mg base CX0 4 fR fdR ["thing"] spRanges) (mR : mg "are_ranges" = some (.ref fR)) (kR : PySem.W.keepIn K (.ref fR) = true) (bR : Binds K fdR ["thing"] [])
    (GW : FnOk P w K mg base CX0 5 fW fdW ["thing"] spWrites) (mW : mg "are_writes" = some (.ref fW)) (kW : PySem.W.keepIn K (.ref fW) = true) (bW : Binds K fdW ["thing"] []) :
    FnOk P w K mg base CX0 6 f fd ["snapshot", "number", "gets", "ranges", "writes"] spBad := by
  refine F.ok sc_bad_part (fun vs H Q E h => ?_) (fun cdv A outer s H vs Q E hr h => ?_)
  · obtain ⟨n, num, ga, ra, wa, ks, L, W, rfl, _⟩ := h; rfl
  · obtain ⟨n, num, ga, ra, wa, ks, L, W, rfl, d, q⟩ := h
    refine ⟨_, pss_cons (ps_if (PW.pt (pw_or (pt_not (pt_val (pe_call GI (hr.mono (by decide)) rfl mI kI bI .nil pass0 (pa_cons (pv 0) pa_nil)))) (pw_or1 (pt_cmpR op_lt (pv 0) pe_int (nomark _))))) (pss_one (ps_ret pe_str)) pss_nil)
      (pss_cons (ps_if (pt_not (pt_val (pe_call GN (hr.mono (by decide)) rfl mN kN bN .nil pass0 (pa_cons (pv 0) (pa_cons (pv 1) (pa_cons (pv 4) pa_nil)))))) (pss_one (ps_ret pe_str)) pss_nil)
      (pss_cons (ps_if (pt_not (pt_val (pe_call GK (hr.mono (by decide)) rfl mK kK bK .nil pass0 (pa_cons (pv 2) pa_nil)))) (pss_one (ps_ret pe_str)) pss_nil)
      (pss_cons (ps_if (pt_not (pt_val (pe_call GR (hr.mono (by decide)) rfl mR kR bR .nil pass0 (pa_cons (pv 3) pa_nil)))) (pss_one (ps_ret pe_str)) pss_nil)
      (pss_one (ps_ret (pe_ifExp (pt_val (pe_call GW hr rfl mW kW bW .nil pass0 (pa_cons (pv 4) pa_nil))) pe_non pe_str)))))), ?_⟩
    refine ⟨_, rfl, n, rfl, true, rfl, ?_⟩
    refine iteF ?_
    refine ⟨_, rfl, n, 0, rfl, rfl, _, rfl, ?_⟩
    rw [decide_eq_false (show ¬ n < 0 from Int.not_lt.mpr d.n0)]
    refine iteF ?_
    refine ⟨_, rfl, _, rfl, _, rfl, n, num, wa, _, rfl, d.w, d.nm, true, rfl, ?_⟩
    refine iteF ?_
    refine ⟨_, rfl, ga, ks, rfl, d.g, d.gk, d.gs, by have := d.gl; omega, fun H1 s1 => ⟨true, rfl, ?_⟩⟩
    refine iteF ?_
    have d1 := d.same s1
    refine ⟨_, rfl, ra, L, rfl, d1.r, d1.rk, d1.rs, by have := d.rl; omega, fun H2 s2 => ⟨true, rfl, ?_⟩⟩
    refine iteF ?_
    have d2 := d1.same s2
    refine ⟨_, rfl, wa, W, rfl, d2.w, d2.wk, d2.ws, by have := d.wl; omega, fun H3 s3 => ⟨true, rfl, ?_⟩⟩
    refine iteT ?_
    exact q H3 ((s1.trans s2).trans s3)
def spDInit (C : Addr) : Sp := fun vs H Q _ => ∃ (x dx : Addr) (n : Int) (num : V) (ga ra wa : Addr) (ks : List Str) (L : List (Addr × RT)) (W : List (Addr × WT)), vs = [.ref x, .int n, num, .ref ga, .ref ra, .ref wa] ∧ H x = some (.ins C dx []) ∧ DArgs H n num ga ra wa ks L W ∧
  ∀ H', (∀ b o, H b = some o → b ≠ x → H' b = some o) → H' x = some (.ins C dx (dFlds n num ga ra wa)) → Q .non H'
theorem ok_d_init {f fB C : Addr} {fd fdB : FuncData} (F : Fun K "__init__" "Dealing.__init__" st_d_init f fd) (D : DCls K mg C) (GB : FnOk P w K mg base CX0 6 fB fdB ["snapshot", "number", "gets", "ranges", "writes"] spBad) (mB : mg "bad_part" = some (.ref fB)) (kB : PySem.W.keepIn K (.ref fB) = true)
    (bB : Binds K fdB ["snapshot", "number", "gets", "ranges", "writes"] []) : FnOk P w K mg base CX0 7 f fd ["self", "snapshot", "number", "gets", "ranges", "writes"] (spDInit C) := by
  refine F.ok sc_d_init (fun vs H Q E h => ?_) (fun cdv A outer s H vs Q E hr h => ?_)
  · obtain ⟨x, dx, n, num, ga, ra, wa, ks, L, W, rfl, _⟩ := h; rfl
  · obtain ⟨x, dx, n, num, ga, ra, wa, ks, L, W, rfl, hx, d, q⟩ := h
    refine ⟨_, pss_cons (ps_set (i := 6) sc_d_init.nd rfl (Or.inl rfl) (pe_call GB hr rfl mB kB bB .nil pass0 (pa_cons (pv 1) (pa_cons (pv 2) (pa_cons (pv 3) (pa_cons (pv 4) (pa_cons (pv 5) pa_nil)))))))
      (pss_cons (ps_if (pt_cmp (pc_notN (pv 6)) rfl) (pss_one ps_never) pss_nil)
      (pss_cons (ps_fld (pv 0) (pv 1) rfl) (pss_cons (ps_fld (pv 0) (pv 2) rfl) (pss_cons (ps_fld (pv 0) (pv 3) rfl) (pss_cons (ps_fld (pv 0) (pv 4) rfl) (pss_one (ps_fld (pv 0) (pv 5) rfl))))))), ?_⟩
    refine ⟨_, rfl, _, rfl, _, rfl, _, rfl, _, rfl, n, num, ga, ra, wa, ks, L, W, rfl, d, fun H1 s1 => ?_⟩
    refine ⟨_, rfl, _, rfl, ?_⟩
    refine iteF ?_
    have cl := D.own.cl
    refine ⟨_, rfl, _, rfl, x, C, dx, _, rfl, s1 _ _ hx, cl, D.f1, (by decide), ?_⟩
    refine ⟨_, rfl, _, rfl, x, C, dx, _, rfl, upd_same, cl, D.f2, (Nat.lt_of_le_of_lt (pflt (Nat.le_refl 0)) (by decide)), ?_⟩
    refine ⟨_, rfl, _, rfl, x, C, dx, _, rfl, upd_same, cl, D.f3, (Nat.lt_of_le_of_lt (pflt (pflt (Nat.le_refl 0))) (by decide)), ?_⟩
    refine ⟨_, rfl, _, rfl, x, C, dx, _, rfl, upd_same, cl, D.f4, (Nat.lt_of_le_of_lt (pflt (pflt (pflt (Nat.le_refl 0)))) (by decide)), ?_⟩
    refine ⟨_, rfl, _, rfl, x, C, dx, _, rfl, upd_same, cl, D.f5, (Nat.lt_of_le_of_lt (pflt (pflt (pflt (pflt (Nat.le_refl 0))))) (by decide)), ?_⟩
    refine q _ (fun b o e hb => ?_) upd_same
    rw [upd_ne hb, upd_ne hb, upd_ne hb, upd_ne hb, upd_ne hb]
    exact s1 b o e
def spDParts (C : Addr) : Sp := fun vs H Q _ => ∃ (x dx : Addr) (n : Int) (num : V) (ga ra wa : Addr), vs = [.ref x] ∧ H x = some (.ins C dx (dFlds n num ga ra wa)) ∧ ∀ t, H t = none → Q (.ref t) (upd H t (.tup [.int n, num, .ref ga, .ref ra, .ref wa]))
theorem ok_d_parts {f C : Addr} {fd : FuncData} (F : Fun K "parts" "Dealing.parts" st_d_parts f fd) (D : DCls K mg C) : FnOk P w K mg base CX0 1 f fd ["self"] (spDParts C) := by
  refine F.ok sc_d_parts (fun vs H Q E h => ?_) (fun cdv A outer s H vs Q E hr h => ?_)
  · obtain ⟨x, dx, n, num, ga, ra, wa, rfl, _⟩ := h; rfl
  · obtain ⟨x, dx, n, num, ga, ra, wa, rfl, hx, q⟩ := h
    have cl := D.own.cl
    refine ⟨_, pss_one (ps_ret (pe_tup (pa_cons (pe_fld (pv 0) rfl) (pa_cons (pe_fld (pv 0) rfl) (pa_cons (pe_fld (pv 0) rfl) (pa_cons (pe_fld (pv 0) rfl) (pa_cons (pe_fld (pv 0) rfl) pa_nil))))))), ?_⟩
    refine ⟨_, rfl, x, C, dx, _, _, rfl, hx, cl, D.f1, d_snapshot, ?_⟩
    refine ⟨_, rfl, x, C, dx, _, _, rfl, hx, cl, D.f2, d_number, ?_⟩
    refine ⟨_, rfl, x, C, dx, _, _, rfl, hx, cl, D.f3, d_gets, ?_⟩
    refine ⟨_, rfl, x, C, dx, _, _, rfl, hx, cl, D.f4, d_ranges, ?_⟩
    refine ⟨_, rfl, x, C, dx, _, _, rfl, hx, cl, D.f5, d_writes, (by show 5 ≤ sizeLine; decide), ?_⟩
    exact fun t ht => q t ht
end

mutual
theorem dp_same {K : PySem.W.Frag} {H H' : Hp} (e : Same H H') : ∀ {v : V} {d : PyData}, Dp K H v d → Dp K H' v d
  | _, _, .non => .non
  | _, _, .bl b => .bl b
  | _, _, .int i => .int i
  | _, _, .str x => .str x
  | _, _, .lst h a => .lst (SqL.ext h e) (dpAll_same e a)
  | _, _, .tup h a => .tup (SqT.ext h e) (dpAll_same e a)
theorem dpAll_same {K : PySem.W.Frag} {H H' : Hp} (e : Same H H') : ∀ {vs : List V} {ds : List PyData}, DpAll K H vs ds → DpAll K H' vs ds
  | _, _, .nil => .nil
  | _, _, .cons h a => .cons (dp_same e h) (dpAll_same e a)
end
/-- two dealings of the same data -/
def DSame (K : PySem.W.Frag) (C : Addr) (a b : Addr) (H : Hp) : Prop := ∃ (dx dy : Addr) (n : Int) (num : V) (nd : PyData) (ga ra wa ga' ra' wa' : Addr) (dg dr dw : PyData), H a = some (.ins C dx (dFlds n num ga ra wa)) ∧ H b = some (.ins C dy (dFlds n num ga' ra' wa')) ∧
  Dp K H num nd ∧ (Dp K H (.ref ga) dg ∧ Dp K H (.ref ra) dr ∧ Dp K H (.ref wa) dw) ∧ (Dp K H (.ref ga') dg ∧ Dp K H (.ref ra') dr ∧ Dp K H (.ref wa') dw) ∧ SeqAt.shaped (.tuple [.int n, nd, dg, dr, dw]) = true
section
variable {P : Program} {w : World} {K : PySem.W.Frag} {mg : Str → Option Value} {base : Heap}
theorem ok_d_eq {f fP C : Addr} {fd fdP : FuncData} (F : Fun K "__eq__" "Dealing.__eq__" st_d_eq f fd) (B : Bt mg) (D : DCls K mg C) (GP : FnOk P w K mg base CX0 1 fP fdP ["self"] (spDParts C)) (mP : Meth K C "parts" fP) (bP : Binds K fdP ["self"] []) :
    FnOk P w K mg base CX0 2 f fd ["self", "other"] (spEq (DSame K C)) := by
  refine F.ok sc_d_eq (fun vs H Q E h => ?_) (fun cdv A outer s H vs Q E hr h => ?_)
  · obtain ⟨a, b, rfl, _⟩ := h; rfl
  · obtain ⟨a, b, rfl, ⟨dx, dy, n, num, nd, ga, ra, wa, ga', ra', wa', dg, dr, dw, ha, hb, hn, ⟨h1, h2, h3⟩, ⟨g1, g2, g3⟩, hs⟩, q⟩ := h
    have cl := D.own.cl
    refine ⟨_, pss_one (ps_ret (pe_and (pe_callB call_isi (by rfl) B.b_isinstance (by decide +kernel) (pa_cons (pv 1) (pa_cons (pe_glob (v := .ref C) (by rfl) D.mgC rfl) pa_nil)))
      (pe_one (pe_cmpR (op_eqD hr.units) (pe_meth0 (pv 0) cl mP GP hr bP .nil pass0) (pe_meth0 (pv 1) cl mP GP hr bP .nil pass0) (nomark _))))), ?_⟩
    refine ⟨_, rfl, _, _, _, _, true, rfl, .own C, .base (.ins hb cl D.own.ha D.own.hn D.own.ht D.own.hm), kit_own C, true, rfl, ?_⟩
    refine ⟨_, rfl, a, dx, _, rfl, ha, d_no (by decide +kernel) (by decide +kernel) (by decide +kernel) (by decide +kernel) (by decide +kernel), a, dx, n, num, ga, ra, wa, rfl, ha, fun t ht => ?_⟩
    have s1 : Same H (upd H t (.tup [.int n, num, .ref ga, .ref ra, .ref wa])) := same_new ht
    have hb1 := s1 _ _ hb
    refine ⟨_, rfl, b, dy, _, rfl, hb1, d_no (by decide +kernel) (by decide +kernel) (by decide +kernel) (by decide +kernel) (by decide +kernel), b, dy, n, num, ga', ra', wa', rfl, hb1, fun u hu => ?_⟩
    have s2 : Same H (upd (upd H t (.tup [.int n, num, .ref ga, .ref ra, .ref wa])) u (.tup [.int n, num, .ref ga', .ref ra', .ref wa'])) := same_upd s1 (s1.free hu)
    have tu : t ≠ u := fun z => by rw [← z, upd_same] at hu; cases hu
    refine ⟨.tuple [.int n, nd, dg, dr, dw], .tuple [.int n, nd, dg, dr, dw], .tup (SqT.of (by rw [upd_ne tu]; exact upd_same)) (.cons (.int n) (.cons (dp_same s2 hn) (.cons (dp_same s2 h1) (.cons (dp_same s2 h2) (.cons (dp_same s2 h3) .nil))))),
      .tup (SqT.of upd_same) (.cons (.int n) (.cons (dp_same s2 hn) (.cons (dp_same s2 g1) (.cons (dp_same s2 g2) (.cons (dp_same s2 g3) .nil))))), hs, hs, ?_⟩
    rw [SeqAt.eqv_refl _ (SeqAt.canLay_of_shaped hs)]
    exact q _ s2
end
end W30


/-! S22: the dicts of texts (writes, states) as plain lists; sorted keys; check_key, within. -/
namespace W30
open PySem PySem.Spec PyProof.Rows L2
open PySem.W (EachIs dataLe dataLt AllAlike Sortable)

/-! ### plain lists of pairs -/
def dk (m : List WT) : List (Key × V) := m.map fun p => (Sum.inr p.1, mv p.2)
def keysM (m : List WT) : List Str := m.map (·.1)
def getM (m : List WT) (k : Str) : Option (Option Int) := (m.find? fun p => decide (p.1 = k)).map (·.2)
def putM (m : List WT) (k : Str) (v : Option Int) : List WT := if (m.any fun p => decide (p.1 = k)) = true then m.map (fun p => if p.1 = k then (p.1, v) else p) else m ++ [(k, v)]
theorem inr_iff {a b : Str} : ((Sum.inr a : Key) = Sum.inr b) ↔ a = b := ⟨fun h => Sum.inr.inj h, fun h => by rw [h]⟩
theorem dk_get (k : Str) : ∀ m : List WT, valV (dk m) (Sum.inr k) = (getM m k).map mv
  | [] => rfl
  | p :: m => by
    show valV ((Sum.inr p.1, mv p.2) :: dk m) (Sum.inr k) = _
    by_cases h : p.1 = k
    · rw [valV_pos (inr_iff.mpr h)]
      have e : getM (p :: m) k = some p.2 := by simp [getM, List.find?_cons, h]
      rw [e]; rfl
    · rw [valV_neg (fun z => h (inr_iff.mp z)), dk_get k m]
      have e : getM (p :: m) k = getM m k := by simp [getM, List.find?_cons, h]
      rw [e]
theorem dk_put (m : List WT) (k : Str) (v : Option Int) : putK (dk m) (Sum.inr k) (mv v) = dk (putM m k v) := by
  unfold putK putM dk
  have e : ((m.map fun p : WT => ((Sum.inr p.1 : Key), mv p.2)).any fun kv => decide (kv.1 = (Sum.inr k : Key))) = (m.any fun p => decide (p.1 = k)) := by
    rw [List.any_map]
    congr 1
    funext p
    exact decide_eq_decide.mpr inr_iff
  rw [e]
  split
  · rw [List.map_map, List.map_map]
    refine List.map_congr_left fun p _ => ?_
    show (if (Sum.inr p.1 : Key) = Sum.inr k then _ else _) = _
    by_cases h : p.1 = k
    · rw [if_pos (inr_iff.mpr h)]; simp [h]
    · rw [if_neg (fun z => h (inr_iff.mp z))]; simp [h]
  · rw [List.map_append]; rfl
theorem dk_len (m : List WT) : (dk m).length = m.length := List.length_map ..
theorem dk_keys (m : List WT) : (dk m).map (·.1) = (keysM m).map Sum.inr := by
  unfold dk keysM
  rw [List.map_map, List.map_map]; rfl
theorem putM_keys (m : List WT) (k : Str) (v : Option Int) : keysM (putM m k v) = if k ∈ keysM m then keysM m else keysM m ++ [k] := by
  have e : ((m.any fun p => decide (p.1 = k)) = true) ↔ k ∈ keysM m := by
    rw [List.any_eq_true]
    constructor
    · rintro ⟨p, hp, h⟩
      exact List.mem_map.mpr ⟨p, hp, of_decide_eq_true h⟩
    · intro h
      obtain ⟨p, hp, h⟩ := List.mem_map.mp h
      exact ⟨p, hp, decide_eq_true h⟩
  unfold putM
  by_cases h : k ∈ keysM m
  · rw [if_pos (e.mpr h), if_pos h]
    unfold keysM
    rw [List.map_map]
    refine List.map_congr_left fun p _ => ?_
    show (if p.1 = k then (p.1, v) else p).1 = p.1
    split <;> rfl
  · rw [if_neg (fun z => h (e.mp z)), if_neg h]
    unfold keysM
    rw [List.map_append]; rfl
theorem putM_nodup {m : List WT} {k : Str} {v : Option Int} (h : (keysM m).Nodup) : (keysM (putM m k v)).Nodup := by
  rw [putM_keys]
  split
  · exact h
  · rename_i n
    refine List.nodup_append.mpr ⟨h, by simp, fun x hx y hy => ?_⟩
    rw [List.mem_singleton] at hy
    subst hy
    exact fun e => n (e ▸ hx)
theorem putM_len (m : List WT) (k : Str) (v : Option Int) : (putM m k v).length ≤ m.length + 1 := by
  have h := congrArg List.length (putM_keys m k v)
  have e1 : (keysM (putM m k v)).length = (putM m k v).length := List.length_map ..
  have e2 : (keysM m).length = m.length := List.length_map ..
  rw [e1] at h
  rw [h]
  split
  · omega
  · rw [List.length_append, e2]; exact Nat.le_refl _
theorem putM_good {m : List WT} {k : Str} {v : Option Int} (h : ∀ p ∈ m, GoodW p) (g : GoodW (k, v)) : ∀ p ∈ putM m k v, GoodW p := by
  unfold putM
  split
  · intro p hp
    obtain ⟨q, hq, rfl⟩ := List.mem_map.mp hp
    show GoodW (if q.1 = k then (q.1, v) else q)
    split
    · rename_i e
      rw [e]; exact g
    · exact h q hq
  · intro p hp
    rcases List.mem_append.mp hp with z | z
    · exact h p z
    · rw [List.mem_singleton.mp z]; exact g
theorem getM_mem {m : List WT} {k : Str} : k ∈ keysM m → ∃ v, getM m k = some v ∧ (k, v) ∈ m := by
  intro h
  obtain ⟨p, hp, rfl⟩ := List.mem_map.mp h
  unfold getM
  cases e : m.find? fun q => decide (q.1 = p.1) with
  | none =>
    have := List.find?_eq_none.mp e p hp
    simp at this
  | some q =>
    have h1 := List.find?_some e
    have h2 := List.mem_of_find?_eq_some e
    simp at h1
    refine ⟨q.2, rfl, ?_⟩
    rw [← h1]; exact h2
theorem getM_none {m : List WT} {k : Str} (h : k ∉ keysM m) : getM m k = none := by
  unfold getM
  have e : (m.find? fun q => decide (q.1 = k)) = none := List.find?_eq_none.mpr fun q hq => by
    simp only [decide_eq_true_eq]
    exact fun z => h (List.mem_map.mpr ⟨q, hq, z⟩)
  rw [e]; rfl
/-- the worth at a key, or None -/
def worthM (m : List WT) (k : Str) : Option Int := (getM m k).getD none
theorem worth_get {m : List WT} {k : Str} (h : k ∈ keysM m) : valV (dk m) (Sum.inr k) = some (mv (worthM m k)) := by
  obtain ⟨v, e, _⟩ := getM_mem h
  rw [dk_get, worthM, e]; rfl
theorem worth_good {m : List WT} {k : Str} (g : ∀ p ∈ m, GoodW p) (h : k ∈ keysM m) : GoodW (k, worthM m k) := by
  obtain ⟨v, e, h2⟩ := getM_mem h
  rw [worthM, e]
  exact g _ h2
theorem worth_getD (m : List WT) (k : Str) : (valV (dk m) (Sum.inr k)).getD V.non = mv (worthM m k) := by
  rw [dk_get, worthM]
  cases getM m k <;> rfl

/-! ### sorted texts -/
def sk (ks : List Str) : List Str := ks.mergeSort (dataLe false encS)
theorem sk_asc {ks : List Str} (nd : ks.Nodup) : AscS (sk ks) := by
  have as := sorted_asc (enc := encS) (fun x : Str => x) (fun x y h1 h2 => antiS h1 h2) (bs := ks) (by rw [List.map_id']; exact nd)
  rw [List.map_id'] at as
  exact as
theorem sk_perm (ks : List Str) : (sk ks).Perm ks := List.mergeSort_perm _ _
theorem sk_mem {ks : List Str} {k : Str} : k ∈ sk ks ↔ k ∈ ks := (sk_perm ks).mem_iff
theorem sk_len (ks : List Str) : (sk ks).length = ks.length := (sk_perm ks).length_eq
/-- lists in order with the same members are one -/
theorem ascS_one {l m : List Str} (hl : AscS l) (hm : AscS m) (h : ∀ x, x ∈ l ↔ x ∈ m) : l = m := asc_one asymS hl hm h
theorem ascR_one {l m : List RT} (hl : AscR l) (hm : AscR m) (h : ∀ x, x ∈ l ↔ x ∈ m) : l = m := asc_one asymR hl hm h
theorem is_sk {ys ks : List Str} (h : AscS ys) (p : ys.Perm ks) : ys = sk ks :=
  ascS_one h (sk_asc (p.nodup_iff.mp (Asc.nodup irrS h))) fun x => (p.mem_iff).trans sk_mem.symm
/-- from a low to a high one -/
def inR (lo hi k : Str) : Bool := !ltS k lo && !ltS hi k
theorem inR_le {lo hi k : Str} : inR lo hi k = ((!decide (k.cps.toList < lo.cps.toList)) && (!decide (hi.cps.toList < k.cps.toList))) := by
  unfold inR
  rw [ltS_eq, ltS_eq]
/-- the own keys of a range -/
def ownM (m : List WT) (lo hi : Str) : List Str := (sk (keysM m)).filter (inR lo hi)
theorem own_asc {m : List WT} {lo hi : Str} (nd : (keysM m).Nodup) : AscS (ownM m lo hi) := (sk_asc nd).sublist List.filter_sublist
theorem own_mem {m : List WT} {lo hi k : Str} : k ∈ ownM m lo hi ↔ k ∈ keysM m ∧ inR lo hi k = true := by
  unfold ownM
  rw [List.mem_filter, sk_mem]
theorem own_len (m : List WT) (lo hi : Str) : (ownM m lo hi).length ≤ m.length := by
  refine Nat.le_trans (List.length_filter_le _ _) ?_
  rw [sk_len]
  exact Nat.le_of_eq (List.length_map ..)
/-- filtered, then sorted: the same -/
theorem own_sorted {m : List WT} {lo hi : Str} {ys : List Str} (nd : (keysM m).Nodup) (h : AscS ys) (p : ys.Perm ((keysM m).filter (inR lo hi))) : ys = ownM m lo hi :=
  ascS_one h (own_asc nd) fun x => by rw [p.mem_iff, own_mem, List.mem_filter]

section
variable {P : Program} {w : World} {K : PySem.W.Frag} {mg : Str → Option Value} {base : Heap}
def spCheck : Sp := fun vs H Q _ => ∃ k, vs = [.str k] ∧ GoodK k ∧ ∀ H', Same H H' → Q .non H'
theorem ok_check_key {f fK : Addr} {fd fdK : FuncData} (F : Fun K "check_key" "check_key" st_check_key f fd) (GK : FnOk P w K mg base CX0 1 fK fdK ["thing"] spKey) (mK : mg "is_key" = some (.ref fK)) (kK : PySem.W.keepIn K (.ref fK) = true) (bK : Binds K fdK ["thing"] []) :
    FnOk P w K mg base CX0 2 f fd ["key"] spCheck := by
  refine F.ok sc_check_key (fun vs H Q E h => ?_) (fun cdv A outer s H vs Q E hr h => ?_)
  · obtain ⟨k, rfl, _⟩ := h; rfl
  · obtain ⟨k, rfl, g, q⟩ := h
    refine ⟨_, pss_one (ps_if (pt_not (pt_val (pe_call GK hr rfl mK kK bK .nil pass0 (pa_cons (pv 0) pa_nil)))) (pss_one ps_never) pss_nil), ?_⟩
    refine ⟨_, rfl, k, rfl, g, fun H1 s1 => ⟨true, rfl, ?_⟩⟩
    refine iteF ?_
    exact q H1 s1
def spWithinK : Sp := fun vs H Q _ => ∃ (lo hi : Str) (d : Addr) (m : List WT), vs = [.str lo, .str hi, .ref d] ∧ H d = some (.dK (dk m)) ∧ (keysM m).Nodup ∧ m.length ≤ 1000 ∧
  ∀ p H', Same H H' → H p = none → H' p = some (.lst ((ownM m lo hi).map V.str)) → Q (.ref p) H'
theorem ok_within {f : Addr} {fd : FuncData} (F : Fun K "within" "within" st_within f fd) (B : Bt mg) : FnOk P w K mg base CX0 1 f fd ["low", "high", "keys"] spWithinK := by
  refine F.ok sc_within (fun vs H Q E h => ?_) (fun cdv A outer s H vs Q E hr h => ?_)
  · obtain ⟨lo, hi, d, m, rfl, _⟩ := h; rfl
  · obtain ⟨lo, hi, d, m, rfl, hd, nd, hl, q⟩ := h
    refine ⟨_, pss_one (ps_ret (pe_callB (cr_sortedLst hr.units) (by rfl) B.b_sorted (by decide +kernel) (pa_cons (pe_lock (pe_lc (own := [("key", 3)]) (g := gName 3) rfl sc_within.nd (pi_keys (pv 2)) (blkOk_by (N := ["low", "high", "keys", "key"]) (sc := defScope st_within) (by decide +kernel))
        (fun _ _ _ _ _ => pg_name (i := 3) sc_within.nd rfl (Or.inl rfl)) (fun _ _ _ _ _ => pts_one (pt_chain op_le_str op_le_str (pv 0) (pv 3) (pv 1))) (fun _ _ _ _ _ => pv 3))) pa_nil))), ?_⟩
    refine ⟨d, _, hd, trivial, fun od => ⟨_, rfl, d, od, rfl, .inl ⟨dk m, upd_same, fun D hD => ?_⟩⟩⟩
    have hDd : D ≠ d := fun z => by rw [z, upd_same] at hD; cases hD
    refine lc_it walk_keys (fun i H2 => (∀ b o, (upd H d (.frz od (.dK (dk m)))) b = some o → H2 b = some o) ∧ H2 D = some (.lst (((keysM m).take i |>.filter (inR lo hi)).map V.str))) ⟨same_new hD, upd_same⟩ (fun i H2 _ z => z.1 _ _ upd_same) ?_ ?_
    · rintro i x H2 H2' hi2 ⟨s2, d2⟩ ⟨rfl, k, v, hk, rfl⟩
      rw [dk_len] at hi2
      unfold dk at hk
      rw [List.getElem?_map] at hk
      obtain ⟨p, hp, e⟩ := Option.map_eq_some_iff.mp hk
      cases e
      have ek : (keysM m)[i]? = some p.1 := by unfold keysM; rw [List.getElem?_map, hp]; rfl
      have et : (keysM m).take (i + 1) = (keysM m).take i ++ [p.1] := by rw [List.take_add_one, ek]; rfl
      refine ⟨rfl, ?_⟩
      refine ⟨_, rfl, _, rfl, lo, p.1, rfl, rfl, _, rfl, ?_⟩
      have no : inR lo hi p.1 = false → (∀ b o, (upd H d (.frz od (.dK (dk m)))) b = some o → H2' b = some o) ∧ H2' D = some (.lst (((keysM m).take (i + 1) |>.filter (inR lo hi)).map V.str)) := fun e => ⟨s2, by
        rw [et, List.filter_append, d2]
        simp [e]⟩
      refine ite2 (fun h1 => ?_) (fun h1 => ?_)
      · refine ⟨_, rfl, p.1, hi, rfl, rfl, _, rfl, ?_⟩
        refine ite2 (fun h2 => ?_) (fun h2 => ?_)
        · have e : inR lo hi p.1 = true := by rw [inR_le, h1, h2]; rfl
          refine ⟨_, rfl, _, d2, ?_, ?_, ?_⟩
          · rw [List.length_map]
            have z := List.length_filter_le (inR lo hi) ((keysM m).take i)
            rw [List.length_take] at z
            exact small1000 (by omega)
          · exact same_upd (H := upd H d (.frz od (.dK (dk m)))) s2 hD
          · rw [upd_same, et, List.filter_append, List.map_append]
            simp [e, kV]
        · exact no (by rw [inR_le]; simp only [Bool.not_eq_true] at h2; rw [h2, Bool.and_false])
      · refine ⟨false, rfl, ?_⟩
        refine iteF ?_
        exact no (by rw [inR_le]; simp only [Bool.not_eq_true] at h1; rw [h1, Bool.false_and])
    · rintro H2 ⟨s2, d2⟩
      have et : (keysM m).take m.length = keysM m := List.take_of_length_le (Nat.le_of_eq (List.length_map ..))
      rw [dk_len, et] at d2
      have hf : H2 d = some (.frz od (.dK (dk m))) := s2 _ _ upd_same
      have s3 : Same H (upd H2 d (.dK (dk m))) := fun b o e => by
        by_cases hb : b = d
        · rw [hb, upd_same, ← hd, ← hb, e]
        · rw [upd_ne hb]; exact s2 b o (by rw [upd_ne hb]; exact e)
      refine ⟨hf, D, (keysM m).filter (inR lo hi), rfl, SqL.of (by rw [upd_ne hDd]; exact d2), nd.filter _, ?_, fun ys p as pm hp => ?_⟩
      · have z := List.length_filter_le (inR lo hi) (keysM m)
        have z2 : (keysM m).length = m.length := List.length_map ..
        omega
      · refine q p _ (same_upd s3 (s3.free hp)) (s3.free hp) ?_
        rw [upd_same, own_sorted nd as pm]
end
end W30


/-! S23: comprehensions of pairs; _law_walked; the two lambdas. -/
namespace W30
open PySem PySem.Spec PyProof.Rows L2 LamX NdefX
/-- the pairs of some keys -/
def wsM (m : List WT) (ks : List Str) : List WT := ks.map fun k => (k, worthM m k)
theorem wsM_snoc (m : List WT) (ks : List Str) (k : Str) : wsM m (ks ++ [k]) = wsM m ks ++ [(k, worthM m k)] := by unfold wsM; rw [List.map_append]; rfl
theorem mv_isSome (o : Option Int) : (!decide (mv o = V.non)) = o.isSome := by cases o <;> rfl
/-- [(k, d[k]) for k in ks if ..] -/
theorem lc_pairs {K : PySem.W.Frag} {a : Addr} {ks : List Str} {flt : Str → Bool} {m : List WT} {H1 : Hp} {D : Addr} {Qd : Hp → Prop} {tt : TT} {te : TE} {σ : L2.St} {j : Nat} (hl : ks.length ≤ 1000) (hD : H1 D = none) (ha : SqL K H1 a (ks.map V.str))
    (hw : ∀ x : V, wipe ((wipe σ [j]).set j (some x)) [j] = wipe σ [j])
    (ht : ∀ (i : Nat) (k : Str) (H2 : Hp) (Q : Bool → Hp → Prop), ks[i]? = some k → Same H1 H2 → Q (flt k) H2 → tt ((wipe σ [j]).set j (some (.str k))) H2 Q)
    (he : ∀ (i : Nat) (k : Str) (H2 : Hp) (Q : VK), ks[i]? = some k → flt k = true → Same H1 H2 → (∀ t, H2 t = none → Q (.ref t) (upd H2 t (.tup [.str k, mv (worthM m k)]))) → te ((wipe σ [j]).set j (some (.str k))) H2 Q)
    (hd : ∀ (H2 : Hp) (L : List (Addr × WT)), Same H1 H2 → H2 D = some (.lst (L.map fun q => V.ref q.1)) → (∀ q ∈ L, PairX H2 q.1 q.2) → L.map (·.2) = wsM m (ks.filter flt) → Qd H2) :
    ∃ W : Nat → Nat → Hp → Prop, (∃ m, W 0 m (upd H1 D (.lst []))) ∧ ∀ i m H, W i m H →
      ((Itl K a).stop i H ∧ Qd H) ∨ ((Itl K a).go i H ∧ ∃ Nx : Hp → Prop, (∀ H', Nx H' → ∃ m', m' < m ∧ W (i + 1) m' H') ∧ ∀ x H', (Itl K a).yld i H x H' → gName j x (wipe σ [j]) H' fun σ2 H2 => wipe σ2 [j] = wipe σ [j] ∧ tt σ2 H2 fun b H3 =>
        if b = true then te σ2 H3 fun y H4 => ∃ acc, H4 D = some (.lst acc) ∧ acc.length < sizeLine ∧ Nx (upd H4 D (.lst (acc ++ [y]))) else Nx H3) := by
  refine lc_it walk_list (fun i H2 => Same H1 H2 ∧ ∃ L : List (Addr × WT), H2 D = some (.lst (L.map fun q => V.ref q.1)) ∧ (∀ q ∈ L, PairX H2 q.1 q.2) ∧ L.map (·.2) = wsM m ((ks.take i).filter flt)) ⟨same_new hD, [], upd_same, by simp, rfl⟩ (fun i H2 _ q => q.1.seq ha) ?_ ?_
  · rintro i x H2 H2' hi ⟨s2, L, d2, hL, eL⟩ ⟨rfl, hx⟩
    rw [List.getElem?_map] at hx
    obtain ⟨k, hk, rfl⟩ := Option.map_eq_some_iff.mp hx
    have et : ks.take (i + 1) = ks.take i ++ [k] := by rw [List.take_add_one, hk]; rfl
    refine ⟨hw _, ht i k _ _ hk s2 ?_⟩
    cases hf : flt k with
    | true =>
      refine iteT ?_
      refine he i k _ _ hk hf s2 fun t hT => ?_
      have dT : D ≠ t := ne_of_none d2 hT
      have hDn : ∀ {b : Addr} {o : HO}, H1 b = some o → b ≠ D := fun e => ne_of_none e hD
      refine ⟨_, by rw [upd_ne dT]; exact d2, ?_, ?_, L ++ [(t, (k, worthM m k))], ?_, ?_, ?_⟩
      · rw [List.length_map]
        have e1 : L.length = (wsM m ((ks.take i).filter flt)).length := by rw [← eL, List.length_map]
        have e2 : (wsM m ((ks.take i).filter flt)).length = ((ks.take i).filter flt).length := List.length_map ..
        have e3 := List.length_filter_le flt (ks.take i)
        rw [List.length_take] at e3
        exact small1000 (by omega)
      · exact same_upd (same_upd s2 (s2.free hT)) hD
      · rw [upd_same, List.map_append]; rfl
      · intro q hq
        rcases List.mem_append.mp hq with z | z
        · have h0 := hL q z
          have n1 : q.1 ≠ D := ne_of h0 d2 (by intro y; cases y)
          have n2 : q.1 ≠ t := ne_of_none h0 hT
          show upd (upd _ t _) D _ q.1 = _
          rw [upd_ne n1, upd_ne n2]; exact h0
        · rw [List.mem_singleton.mp z]
          show upd (upd _ t _) D _ t = _
          rw [upd_ne dT.symm, upd_same]
      · rw [List.map_append, eL, et, List.filter_append]
        simp [hf, wsM]
    | false =>
      refine iteF ?_
      exact ⟨s2, L, d2, hL, by rw [eL, et, List.filter_append]; simp [hf]⟩
  · rintro H2 ⟨s2, L, d2, hL, eL⟩
    rw [List.length_map, List.take_length] at eL
    exact hd H2 L s2 d2 hL eL
theorem lt_units {A : Around} (h : A.units + 64 < cLine) : A.units + 1 < cLine := by omega
section
variable {P : Program} {w : World} {K : PySem.W.Frag} {mg : Str → Option Value} {base : Heap}
def spWalked : Sp := fun vs H Q _ => ∃ (st : Addr) (lo hi : Str) (sm : List WT), vs = [.ref st, .str lo, .str hi] ∧ H st = some (.dK (dk sm)) ∧ (keysM sm).Nodup ∧ sm.length ≤ 1000 ∧
  ∀ p H' (L : List (Addr × WT)), Same H H' → H p = none → H' p = some (.lst (L.map fun q => V.ref q.1)) → (∀ q ∈ L, PairX H' q.1 q.2) → L.map (·.2) = wsM sm (ownM sm lo hi) → Q (.ref p) H'
theorem ok_l_walked {f : Addr} {fd : FuncData} (F : Fun K "_law_walked" "_law_walked" st_l_walked f fd) (B : Bt mg) : FnOk P w K mg base CX0 1 f fd ["_law_state", "_law_low", "_law_high"] spWalked := by
  refine F.ok sc_l_walked (fun vs H Q E h => ?_) (fun cdv A outer s H vs Q E hr h => ?_)
  · obtain ⟨st, lo, hi, sm, rfl, _⟩ := h; rfl
  · obtain ⟨st, lo, hi, sm, rfl, hs, nd, hl, q⟩ := h
    have hu := lt_units hr.units
    refine ⟨_, pss_one (ps_ret (pe_lc (own := [("_law_key_here", 3)]) (g := gName 3) rfl sc_l_walked.nd (pi_list (pe_callB (cr_sortedDic rfl hr.units) (by rfl) B.b_sorted (by decide +kernel) (pa_cons (pv 0) pa_nil)))
        (blkOk_by (N := ["_law_state", "_law_low", "_law_high", "_law_key_here"]) (sc := defScope st_l_walked) (by decide +kernel))
        (fun _ _ _ _ _ => pg_name (i := 3) sc_l_walked.nd rfl (Or.inl rfl)) (fun _ _ _ _ _ => pts_one (pt_chain op_le_str op_le_str (pv 1) (pv 3) (pv 2)))
        (fun _ _ _ _ _ => pe_tup (pa_cons (pv 3) (pa_cons (pe_dget hu (pv 0) (pv 3) (fun _ _ => rfl)) pa_nil))))), ?_⟩
    have kl : (keysM sm).length = sm.length := List.length_map ..
    refine ⟨_, rfl, st, _, keysM sm, rfl, hs, dk_keys sm, nd, by omega, fun ys p as pm hp => ?_⟩
    rw [is_sk as pm]
    have s1 : Same H (upd H p (.lst ((sk (keysM sm)).map V.str))) := same_new hp
    refine ⟨p, rfl, ⟨_, SqL.of upd_same⟩, fun D hD => lc_pairs (ks := sk (keysM sm)) (flt := inR lo hi) (m := sm) (by rw [sk_len]; omega) hD (SqL.of upd_same) (fun _ => rfl) (fun i k H2 Q2 hk s2 q2 => ?_) (fun i k H2 Q2 hk hf s2 q2 => ?_) fun H2 L s2 d2 hL eL => ?_⟩
    · refine ⟨_, rfl, _, rfl, lo, k, rfl, rfl, _, rfl, ?_⟩
      rw [inR_le] at q2
      refine ite2 (fun h1 => ?_) (fun h1 => ?_)
      · refine ⟨_, rfl, k, hi, rfl, rfl, _, rfl, ?_⟩
        rw [h1, Bool.true_and] at q2
        exact q2
      · refine ⟨false, rfl, ?_⟩
        simp only [Bool.not_eq_true] at h1
        rw [h1, Bool.false_and] at q2
        exact q2
    · have hmem : k ∈ keysM sm := sk_mem.mp (List.mem_of_getElem? hk)
      have hst : H2 st = some (.dK (dk sm)) := s2 _ _ (s1 _ _ hs)
      refine ⟨_, rfl, _, rfl, _, rfl, st, _, rfl, .inl ⟨dk sm, Sum.inr k, .inl hst, rfl, (worth_get hmem).symm⟩, (by show 2 ≤ sizeLine; decide), ?_⟩
      exact fun t ht => q2 t ht
    · have hDH : H D = none := s1.free hD
      exact q D H2 L (s1.trans s2) hDH d2 hL (by rw [eL]; rfl)
end

/-! ### the lambdas of the text -/
def lamAt (j : Nat) : Expr := match defBody st_l_made with
  | [.Return (some (.Call _ es _ _)) _] => es.getD j (.Constant .none 0 ⟨0, 0, 0, 0⟩)
  | _ => .Constant .none 0 ⟨0, 0, 0, 0⟩
def lArgs : Expr → Arguments
  | .Lambda a _ _ _ => a
  | _ => { posonlyargs := [], args := [], vararg := none, kwonlyargs := [], kw_defaults := [], kwarg := none, defaults := [] }
def lBody : Expr → Expr
  | .Lambda _ b _ _ => b
  | e => e
def lScope : Expr → Scope
  | .Lambda _ _ s _ => s
  | _ => { kind := .function, names := [], isGenerator := false, isCoroutine := false }
abbrev eLook : Expr := lamAt 1
abbrev eWalk : Expr := lamAt 2
theorem nLook : NScope ["_law_key_here", "_law_state"] ["_law_key_here"] ["_law_state"] (lScope eLook) := nscope_by (by decide +kernel)
theorem nWalk : NScope ["_law_low", "_law_high", "_law_state"] ["_law_low", "_law_high"] ["_law_state"] (lScope eWalk) := nscope_by (by decide +kernel)
/-- the lambda of the text e, made by _law_made_over, stands at f; its cell c holds the state at st; its code object at cf -/
def LamIs (H : Hp) (e : Expr) (f c st cf : Addr) : Prop := ∃ F : NF, LamHas H f F (lBody e) "_law_state" c st ∧ F.params = lArgs e ∧ F.scope = lScope e ∧ F.c = cf
theorem LamIs.same {H H' : Hp} {e : Expr} {f c st cf : Addr} (L : LamIs H e f c st cf) (k : ∀ b o, H b = some o → (b = f ∨ b = cf ∨ b = c) → H' b = some o) : LamIs H' e f c st cf := by
  obtain ⟨F, h, h1, h2, h3⟩ := L
  refine ⟨F, h.same fun b o e z => k b o e ?_, h1, h2, h3⟩
  rw [h3] at z; exact z
theorem upd_hide {H : Hp} {c : Addr} {o : HO} (h : H c = some o) : upd (hide H c) c o = H := by
  funext b
  by_cases hb : b = c
  · rw [hb, upd_same, h]
  · rw [upd_ne hb, hide_ne hb]
def hk : HO → Nat
  | .lst _ => 0
  | .tup _ => 1
  | .dK _ => 2
  | .dT _ => 3
  | .set _ _ => 4
  | .ins _ _ _ => 5
  | .own _ => 6
  | .xd _ => 7
  | .rng _ _ => 8
  | .ext _ => 9
  | .frz _ _ => 10
  | .tbl _ => 11
  | .met _ _ => 12
theorem ne_hk {H : Hp} {a b : Addr} {o o' : HO} (h1 : H a = some o) (h2 : H b = some o') (h : hk o ≠ hk o') : a ≠ b := fun z => by
  rw [z, h2] at h1
  exact h (by rw [Option.some.inj h1])
section
variable {X : Cx}
def rLook : Addr → List V → Hp → VK → Prop := fun f vs H Q => ∃ (k : Str) (c st cf : Addr) (sm : List WT), vs = [.str k] ∧ LamIs H eLook f c st cf ∧ H st = some (.dK (dk sm)) ∧ Q (mv (worthM sm k)) H
theorem fc_look (hr : Room 1 X.A) : FCall X rLook := by
  intro pins s σ H f vs us Q I r h
  obtain ⟨k, c, st, cf, sm, rfl, ⟨F, L, h1, h2, h3⟩, hs, q⟩ := h
  refine ⟨⟨F, _, L.fn⟩, ?_⟩
  obtain ⟨name, qual, params, body, scope, cl, cc⟩ := F
  have h1 : params = lArgs eLook := h1
  have h2 : scope = lScope eLook := h2
  subst h1 h2
  have nc : st ≠ c := ne_hk hs L.cell (show (2 : Nat) ≠ 9 by decide)
  refine run_lam I L hr nLook r rfl (fun pm ctv => ?_) (fun hr' => pe_dget1 (lt_units hr'.units) (pv 1) (pv 0) ⟨by rfl, by rfl, by rfl, by rfl⟩) ?_
  · obtain ⟨u, rfl, _⟩ := vals1 r
    rfl
  · refine ⟨.ref st, rfl, st, rfl, .inl ⟨_, .inl (by rw [hide_ne nc]; exact hs)⟩, .str k, rfl, _, .inl ⟨dk sm, Sum.inr k, .inl (by rw [hide_ne nc]; exact hs), rfl, rfl⟩, fun hn => ?_⟩
    rw [worth_getD, upd_hide L.cell]
    exact q
def rWalk : Addr → List V → Hp → VK → Prop := fun f vs H Q => ∃ (lo hi : Str) (c st cf : Addr) (sm : List WT), vs = [.str lo, .str hi] ∧ LamIs H eWalk f c st cf ∧ H st = some (.dK (dk sm)) ∧ (keysM sm).Nodup ∧ sm.length ≤ 1000 ∧
  ∀ p H' (L : List (Addr × WT)), Same H H' → H' p = some (.lst (L.map fun q => V.ref q.1)) → (∀ q ∈ L, PairX H' q.1 q.2) → L.map (·.2) = wsM sm (ownM sm lo hi) → Q (.ref p) H'
theorem fc_walk {fW : Addr} {fdW : FuncData} (hr : Room 2 X.A) (GW : FnOk X.prog X.w X.K X.mg X.base CX0 1 fW fdW ["_law_state", "_law_low", "_law_high"] spWalked) (mW : X.mg "_law_walked" = some (.ref fW)) (kW : PySem.W.keepIn X.K (.ref fW) = true) (bW : L2.Binds X.K fdW ["_law_state", "_law_low", "_law_high"] []) : FCall X rWalk := by
  intro pins s σ H f vs us Q I r h
  obtain ⟨lo, hi, c, st, cf, sm, rfl, ⟨F, L, h1, h2, h3⟩, hs, nd, hl, q⟩ := h
  refine ⟨⟨F, _, L.fn⟩, ?_⟩
  obtain ⟨name, qual, params, body, scope, cl, cc⟩ := F
  have h1 : params = lArgs eWalk := h1
  have h2 : scope = lScope eWalk := h2
  subst h1 h2
  have nc : st ≠ c := ne_hk hs L.cell (show (2 : Nat) ≠ 9 by decide)
  refine run_lam I L hr nWalk r rfl (fun pm ctv => ?_) (fun hr' => pe_call GW hr' (by rfl) mW kW bW .nil pass0 (pa_cons (pv 2) (pa_cons (pv 0) (pa_cons (pv 1) pa_nil)))) ?_
  · obtain ⟨u, u2, rfl, _, _⟩ := vals2 r
    rfl
  · refine ⟨_, rfl, _, rfl, _, rfl, st, lo, hi, sm, rfl, by rw [hide_ne nc]; exact hs, nd, hl, fun p H' L' s' hp d' hL' eL hn => ?_⟩
    have np : p ≠ c := ne_of_none d' hn
    refine q p _ L' (fun b o e => ?_) (by rw [upd_ne np]; exact d') (fun z hz => ?_) eL
    · by_cases hb : b = c
      · rw [hb, upd_same, ← L.cell, ← hb, e]
      · rw [upd_ne hb]; exact s' b o (by rw [hide_ne hb]; exact e)
    · show upd H' c _ z.1 = _
      rw [upd_ne (ne_of_none (hL' z hz) hn)]
      exact hL' z hz
end
end W30


/-! S24: Transaction: what it looks like; __init__, check_open, put, drop, get, end. -/
namespace W30
open PySem PySem.Spec PyProof.Rows L2
/-- all is kept but what stands at S -/
def KeptB (S : List Addr) (H H' : Hp) : Prop := ∀ b o, H b = some o → b ∉ S → H' b = some o
theorem KeptB.of {S : List Addr} {H H' : Hp} (e : Same H H') : KeptB S H H' := fun b o h _ => e b o h
theorem KeptB.one {H : Hp} {p : Addr} {o : HO} : KeptB [p] H (upd H p o) := fun b u e n => by rw [upd_ne (fun z => n (by rw [z]; exact List.mem_singleton.mpr rfl))]; exact e
theorem KeptB.then {S : List Addr} {H H1 H2 : Hp} (a : Same H H1) (b : KeptB S H1 H2) : KeptB S H H2 := fun c o h n => b c o (a c o h) n
theorem KeptB.trans {S : List Addr} {H H1 H2 : Hp} (a : KeptB S H H1) (b : KeptB S H1 H2) : KeptB S H H2 := fun c o h n => b c o (a c o h n) n
theorem KeptB.mono {S S' : List Addr} {H H' : Hp} (a : KeptB S H H') (h : ∀ b ∈ S, b ∈ S') : KeptB S' H H' := fun c o e n => a c o e fun z => n (h c z)

/-- the fixed places of a transaction: the object, its dict, look, walk, writes, keys, ranges, the cell, the state, the class, the lambdas' code objects; its snapshot -/
structure TrD where
  x : Addr
  dx : Addr
  f : Addr
  g : Addr
  wd : Addr
  kd : Addr
  rd : Addr
  c : Addr
  st : Addr
  cf : Addr
  cg : Addr
  n : Int
def tFlds (n : Int) (f g wd kd rd : Addr) (op : Bool) : List (Str × V) :=
  putF "kept_open" (.bl op) (putF "kept_ranges" (.ref rd) (putF "kept_keys" (.ref kd) (putF "kept_writes" (.ref wd) (putF "kept_walk" (.ref g) (putF "kept_look" (.ref f) (putF "kept_snapshot" (.int n) []))))))
theorem putF_putF (f : Str) (u v : V) : ∀ fs : List (Str × V), putF f v (putF f u fs) = putF f v fs
  | [] => by
    show (if f = f then (f, v) :: [] else _) = [(f, v)]
    rw [if_pos rfl]
  | (g, x) :: r => by
    show putF f v (if g = f then (g, u) :: r else (g, x) :: putF f u r) = (if g = f then (g, v) :: r else (g, x) :: putF f v r)
    by_cases h : g = f
    · rw [if_pos h, if_pos h]
      show (if g = f then (g, v) :: r else _) = _
      rw [if_pos h]
    · rw [if_neg h, if_neg h]
      show (if g = f then _ else (g, x) :: putF f v (putF f u r)) = _
      rw [if_neg h, putF_putF f u v r]
section
variable {n : Int} {f g wd kd rd : Addr} {op : Bool}
theorem t_open : (tFlds n f g wd kd rd op).lookup ("kept_open" : Str) = some (.bl op) := by unfold tFlds; rw [lookup_putF, if_pos rfl]
theorem t_ranges : (tFlds n f g wd kd rd op).lookup ("kept_ranges" : Str) = some (.ref rd) := by unfold tFlds; rw [lookup_putF, if_neg (by decide +kernel), lookup_putF, if_pos rfl]
theorem t_keys : (tFlds n f g wd kd rd op).lookup ("kept_keys" : Str) = some (.ref kd) := by unfold tFlds; rw [lookup_putF, if_neg (by decide +kernel), lookup_putF, if_neg (by decide +kernel), lookup_putF, if_pos rfl]
theorem t_writes : (tFlds n f g wd kd rd op).lookup ("kept_writes" : Str) = some (.ref wd) := by unfold tFlds; rw [lookup_putF, if_neg (by decide +kernel), lookup_putF, if_neg (by decide +kernel), lookup_putF, if_neg (by decide +kernel), lookup_putF, if_pos rfl]
theorem t_walk : (tFlds n f g wd kd rd op).lookup ("kept_walk" : Str) = some (.ref g) := by unfold tFlds; rw [lookup_putF, if_neg (by decide +kernel), lookup_putF, if_neg (by decide +kernel), lookup_putF, if_neg (by decide +kernel), lookup_putF, if_neg (by decide +kernel), lookup_putF, if_pos rfl]
theorem t_look : (tFlds n f g wd kd rd op).lookup ("kept_look" : Str) = some (.ref f) := by
  unfold tFlds; rw [lookup_putF, if_neg (by decide +kernel), lookup_putF, if_neg (by decide +kernel), lookup_putF, if_neg (by decide +kernel), lookup_putF, if_neg (by decide +kernel), lookup_putF, if_neg (by decide +kernel), lookup_putF, if_pos rfl]
theorem t_snap : (tFlds n f g wd kd rd op).lookup ("kept_snapshot" : Str) = some (.int n) := by
  unfold tFlds; rw [lookup_putF, if_neg (by decide +kernel), lookup_putF, if_neg (by decide +kernel), lookup_putF, if_neg (by decide +kernel), lookup_putF, if_neg (by decide +kernel), lookup_putF, if_neg (by decide +kernel), lookup_putF, if_neg (by decide +kernel), lookup_putF, if_pos rfl]
/-- no attribute has the name -/
def noneOf (m : Str) : Bool := !decide (m = "kept_open") && !decide (m = "kept_ranges") && !decide (m = "kept_keys") && !decide (m = "kept_writes") && !decide (m = "kept_walk") && !decide (m = "kept_look") && !decide (m = "kept_snapshot")
theorem t_no {m : Str} (h : noneOf m = true) : (tFlds n f g wd kd rd op).lookup m = none := by
  unfold noneOf at h
  simp only [Bool.and_eq_true, Bool.not_eq_true', decide_eq_false_iff_not] at h
  obtain ⟨⟨⟨⟨⟨⟨h1, h2⟩, h3⟩, h4⟩, h5⟩, h6⟩, h7⟩ := h
  unfold tFlds
  rw [lookup_putF, if_neg h1, lookup_putF, if_neg h2, lookup_putF, if_neg h3, lookup_putF, if_neg h4, lookup_putF, if_neg h5, lookup_putF, if_neg h6, lookup_putF, if_neg h7]
  rfl
theorem t_len : (tFlds n f g wd kd rd op).length ≤ 7 := pflt (pflt (pflt (pflt (pflt (pflt (pflt (Nat.le_refl 0)))))))
end
def ksD (ks : List Str) : List (Key × V) := ks.map fun k => (Sum.inr k, V.bl true)
def putS (ks : List Str) (k : Str) : List Str := if k ∈ ks then ks else ks ++ [k]
theorem ksD_put (ks : List Str) (k : Str) : putK (ksD ks) (Sum.inr k) (.bl true) = ksD (putS ks k) := by
  unfold putK putS ksD
  have e : ((ks.map fun k : Str => ((Sum.inr k : Key), V.bl true)).any fun kv => decide (kv.1 = (Sum.inr k : Key))) = true ↔ k ∈ ks := by
    rw [List.any_map, List.any_eq_true]
    constructor
    · rintro ⟨p, hp, h⟩
      have h' : (Sum.inr p : Key) = Sum.inr k := of_decide_eq_true h
      rw [← Sum.inr.inj h']; exact hp
    · intro h
      exact ⟨k, h, decide_eq_true rfl⟩
  by_cases h : k ∈ ks
  · rw [if_pos (e.mpr h), if_pos h, List.map_map]
    refine List.map_congr_left fun p _ => ?_
    show (if (Sum.inr p : Key) = Sum.inr k then ((Sum.inr p : Key), V.bl true) else (Sum.inr p, V.bl true)) = _
    split <;> rfl
  · rw [if_neg (fun z => h (e.mp z)), if_neg h, List.map_append]; rfl
theorem ksD_len (ks : List Str) : (ksD ks).length = ks.length := List.length_map ..
theorem ksD_keys (ks : List Str) : (ksD ks).map (·.1) = ks.map Sum.inr := by unfold ksD; rw [List.map_map]; rfl
theorem putS_nodup {ks : List Str} {k : Str} (h : ks.Nodup) : (putS ks k).Nodup := by
  unfold putS
  split
  · exact h
  · rename_i n
    refine List.nodup_append.mpr ⟨h, by simp, fun x hx y hy => ?_⟩
    rw [List.mem_singleton] at hy
    subst hy
    exact fun e => n (e ▸ hx)
theorem putS_mem {ks : List Str} {k x : Str} : x ∈ putS ks k ↔ x = k ∨ x ∈ ks := by
  unfold putS
  split
  · rename_i h
    exact ⟨.inr, fun z => z.elim (fun e => e ▸ h) id⟩
  · rw [List.mem_append, List.mem_singleton]; exact Or.comm
theorem putS_len (ks : List Str) (k : Str) : (putS ks k).length ≤ ks.length + 1 := by
  unfold putS
  split
  · omega
  · rw [List.length_append]; exact Nat.le_refl _
/-- a transaction, with the state sm that it reads, what it wrote, the keys and ranges that it has seen -/
structure TrAt (P : Program) (w : World) (C : Addr) (T : TrD) (H : Hp) (sm m : List WT) (ks : List Str) (L : List (Addr × RT)) (op : Bool) : Prop where
  ob : H T.x = some (.ins C T.dx (tFlds T.n T.f T.g T.wd T.kd T.rd op))
  wr : H T.wd = some (.dK (dk m))
  ky : H T.kd = some (.dK (ksD ks))
  rg : H T.rd = some (DicRO P w T.rd L)
  lk : LamIs H eLook T.f T.c T.st T.cf
  wk : LamIs H eWalk T.g T.c T.st T.cg
  st : H T.st = some (.dK (dk sm))
  rL : ∀ p ∈ L, TupX H p.1 p.2
/-- what is plainly so of it -/
structure TrF (T : TrD) (sm m : List WT) (ks : List Str) (L : List (Addr × RT)) : Prop where
  n1 : T.wd ≠ T.kd
  n2 : T.wd ≠ T.st
  n3 : T.kd ≠ T.st
  n4 : T.rd ≠ T.f ∧ T.rd ≠ T.g ∧ T.rd ≠ T.c ∧ T.rd ≠ T.cf ∧ T.rd ≠ T.cg
  n0 : 0 ≤ T.n
  sN : (keysM sm).Nodup
  sL : sm.length ≤ 40
  mN : (keysM m).Nodup
  mG : ∀ p ∈ m, GoodW p
  mL : m.length ≤ 40
  kN : ks.Nodup
  kG : ∀ k ∈ ks, GoodK k
  kL : ks.length ≤ 40
  rN : (L.map (·.2)).Nodup
  rG : ∀ p ∈ L, GoodR p.2
  rL : L.length ≤ 40
section
variable {P : Program} {w : World} {C : Addr} {T : TrD} {H H' : Hp} {sm m m' : List WT} {ks ks' : List Str} {L : List (Addr × RT)} {op op' : Bool}
theorem TrAt.same (t : TrAt P w C T H sm m ks L op) (e : Same H H') : TrAt P w C T H' sm m ks L op :=
  ⟨e _ _ t.ob, e _ _ t.wr, e _ _ t.ky, e _ _ t.rg, t.lk.same fun b o h _ => e b o h, t.wk.same fun b o h _ => e b o h, e _ _ t.st, fun p hp => (t.rL p hp).same e⟩
theorem TupX.but {S : List Addr} {a : Addr} {r : RT} (h : TupX H a r) (k : KeptB S H H') (n : ∀ b ∈ S, ∀ o, H b = some o → hk o ≠ 1) : TupX H' a r := by
  obtain ⟨b, h1, h2⟩ := h
  exact ⟨b, k _ _ h1 fun z => n _ z _ h1 rfl, k _ _ h2 fun z => n _ z _ h2 rfl⟩
theorem LamIs.but {S : List Addr} {e : Expr} {f c st cf : Addr} (h : LamIs H e f c st cf) (k : KeptB S H H') (n : ∀ b ∈ S, b ≠ f ∧ b ≠ cf ∧ b ≠ c) : LamIs H' e f c st cf :=
  h.same fun b o e z => k b o e fun y => by
    obtain ⟨h1, h2, h3⟩ := n b y
    rcases z with z | z | z
    · exact h1 z
    · exact h2 z
    · exact h3 z
/-- what is neither of a lambda's -/
theorem LamIs.far {e : Expr} {f c st cf b : Addr} {o : HO} (h : LamIs H e f c st cf) (hb : H b = some o) (n : hk o ≠ 9) : b ≠ f ∧ b ≠ cf ∧ b ≠ c := by
  obtain ⟨F, L, _, _, rfl⟩ := h
  exact ⟨ne_hk hb L.fn n, ne_hk hb L.cd n, ne_hk hb L.cell n⟩
/-- a thing b of another kind than the ranges' dict is changed: all but what stands there is as it was -/
theorem TrAt.core (t : TrAt P w C T H sm m ks L op) {b : Addr} {o : HO} (hb : H b = some o) (k : KeptB [b] H H') (n9 : hk o ≠ 9) (n1 : hk o ≠ 1) :
    H' T.rd = some (DicRO P w T.rd L) ∧ LamIs H' eLook T.f T.c T.st T.cf ∧ LamIs H' eWalk T.g T.c T.st T.cg ∧ ∀ p ∈ L, TupX H' p.1 p.2 := by
  have one : ∀ {b' : Addr}, b' ∈ [b] → b' = b := fun z => List.mem_singleton.mp z
  refine ⟨k _ _ t.rg fun z => ?_, t.lk.but k fun b' z => ?_, t.wk.but k fun b' z => ?_, fun p hp => (t.rL p hp).but k fun b' z o' h' => ?_⟩
  · have e := one z
    have h2 := t.rg
    rw [e, hb] at h2
    exact n9 (by rw [Option.some.inj h2]; rfl)
  · rw [one z]; exact t.lk.far hb n9
  · rw [one z]; exact t.wk.far hb n9
  · rw [one z, hb] at h'
    rw [← Option.some.inj h']; exact n1
theorem TrAt.put (t : TrAt P w C T H sm m ks L op) (n1 : T.wd ≠ T.kd) (n2 : T.wd ≠ T.st) (k : KeptB [T.wd] H H') (h : H' T.wd = some (.dK (dk m'))) : TrAt P w C T H' sm m' ks L op := by
  obtain ⟨c1, c2, c3, c4⟩ := t.core t.wr k (show (2 : Nat) ≠ 9 by decide) (show (2 : Nat) ≠ 1 by decide)
  exact ⟨k _ _ t.ob fun z => ne_hk t.ob t.wr (show (5 : Nat) ≠ 2 by decide) (List.mem_singleton.mp z), h, k _ _ t.ky fun z => n1 (List.mem_singleton.mp z).symm, c1, c2, c3, k _ _ t.st fun z => n2 (List.mem_singleton.mp z).symm, c4⟩
theorem TrAt.got (t : TrAt P w C T H sm m ks L op) (n1 : T.wd ≠ T.kd) (n3 : T.kd ≠ T.st) (k : KeptB [T.kd] H H') (h : H' T.kd = some (.dK (ksD ks'))) : TrAt P w C T H' sm m ks' L op := by
  obtain ⟨c1, c2, c3, c4⟩ := t.core t.ky k (show (2 : Nat) ≠ 9 by decide) (show (2 : Nat) ≠ 1 by decide)
  exact ⟨k _ _ t.ob fun z => ne_hk t.ob t.ky (show (5 : Nat) ≠ 2 by decide) (List.mem_singleton.mp z), k _ _ t.wr fun z => n1 (List.mem_singleton.mp z), h, c1, c2, c3, k _ _ t.st fun z => n3 (List.mem_singleton.mp z).symm, c4⟩
theorem TrAt.shut (t : TrAt P w C T H sm m ks L op) (k : KeptB [T.x] H H') (h : H' T.x = some (.ins C T.dx (tFlds T.n T.f T.g T.wd T.kd T.rd op'))) : TrAt P w C T H' sm m ks L op' := by
  obtain ⟨c1, c2, c3, c4⟩ := t.core t.ob k (show (5 : Nat) ≠ 9 by decide) (show (5 : Nat) ≠ 1 by decide)
  exact ⟨h, k _ _ t.wr fun z => ne_hk t.wr t.ob (show (2 : Nat) ≠ 5 by decide) (List.mem_singleton.mp z), k _ _ t.ky fun z => ne_hk t.ky t.ob (show (2 : Nat) ≠ 5 by decide) (List.mem_singleton.mp z), c1, c2, c3, k _ _ t.st fun z => ne_hk t.st t.ob (show (2 : Nat) ≠ 5 by decide) (List.mem_singleton.mp z), c4⟩
/-- a range is seen -/
theorem TrAt.saw {L' : List (Addr × RT)} (t : TrAt P w C T H sm m ks L op) (n4 : T.rd ≠ T.f ∧ T.rd ≠ T.g ∧ T.rd ≠ T.c ∧ T.rd ≠ T.cf ∧ T.rd ≠ T.cg) (k : KeptB [T.rd] H H') (h : H' T.rd = some (DicRO P w T.rd L')) (hL : ∀ p ∈ L', TupX H p.1 p.2) : TrAt P w C T H' sm m ks L' op := by
  have ne : ∀ {b : Addr} {o : HO}, H b = some o → hk o ≠ 9 → b ∉ [T.rd] := fun hb n z => ne_hk hb t.rg n (List.mem_singleton.mp z)
  refine ⟨k _ _ t.ob (ne t.ob (show (5 : Nat) ≠ 9 by decide)), k _ _ t.wr (ne t.wr (show (2 : Nat) ≠ 9 by decide)), k _ _ t.ky (ne t.ky (show (2 : Nat) ≠ 9 by decide)), h, t.lk.but k fun b z => ?_, t.wk.but k fun b z => ?_, k _ _ t.st (ne t.st (show (2 : Nat) ≠ 9 by decide)), fun p hp => (hL p hp).but k fun b z o ho => ?_⟩
  · rw [List.mem_singleton.mp z]; exact ⟨n4.1, n4.2.2.2.1, n4.2.2.1⟩
  · rw [List.mem_singleton.mp z]; exact ⟨n4.2.1, n4.2.2.2.2, n4.2.2.1⟩
  · rw [List.mem_singleton.mp z, t.rg] at ho
    rw [← Option.some.inj ho]; exact show (9 : Nat) ≠ 1 by decide
end
/-- the class Transaction as the top has made it -/
structure TCls (K : PySem.W.Frag) (mg : Str → Option Value) (C : Addr) : Prop where
  cl : Cls K C
  mgC : mg "Transaction" = some (.ref C)
  f1 : NoAttr K C "kept_snapshot"
  f2 : NoAttr K C "kept_look"
  f3 : NoAttr K C "kept_walk"
  f4 : NoAttr K C "kept_writes"
  f5 : NoAttr K C "kept_keys"
  f6 : NoAttr K C "kept_ranges"
  f7 : NoAttr K C "kept_open"
end W30


/-! S25: Transaction: __init__, check_open, put, drop, get, end, saw_keys, saw_ranges, wrote. -/
namespace W30
open PySem PySem.Spec PyProof.Rows L2
section
variable {P : Program} {w : World} {K : PySem.W.Frag} {mg : Str → Option Value} {base : Heap}
def spTInit (P : Program) (w : World) (C : Addr) : Sp := fun vs H Q _ => ∃ (x dx : Addr) (n : Int) (f g : Addr), vs = [.ref x, .int n, .ref f, .ref g] ∧ H x = some (.ins C dx []) ∧
  ∀ (wd kd rd : Addr) (H' : Hp), H wd = none → H kd = none → H rd = none → wd ≠ kd → wd ≠ rd → kd ≠ rd → KeptB [x] H H' → H' x = some (.ins C dx (tFlds n f g wd kd rd true)) → H' wd = some (.dK (dk [])) → H' kd = some (.dK (ksD [])) → H' rd = some (DicRO P w rd []) → Q .non H'
theorem ok_t_init {f C : Addr} {fd : FuncData} (F : Fun K "__init__" "Transaction.__init__" st_t_init f fd) (T : TCls K mg C) : FnOk P w K mg base CX0 1 f fd ["self", "snapshot", "look", "walk"] (spTInit P w C) := by
  refine F.ok sc_t_init (fun vs H Q E h => ?_) (fun cdv A outer s H vs Q E hr h => ?_)
  · obtain ⟨x, dx, n, a, b, rfl, _⟩ := h; rfl
  · obtain ⟨x, dx, n, a, b, rfl, hx, q⟩ := h
    have cl := T.cl
    refine ⟨_, pss_cons (ps_fld (pv 0) (pv 1) rfl) (pss_cons (ps_fld (pv 0) (pv 2) rfl) (pss_cons (ps_fld (pv 0) (pv 3) rfl) (pss_cons (ps_fld (pv 0) pe_dnewK rfl) (pss_cons (ps_fld (pv 0) pe_dnewK rfl) (pss_cons (ps_fld (pv 0) pe_dnewR rfl) (pss_one (ps_fld (pv 0) pe_bl rfl))))))), ?_⟩
    refine ⟨_, rfl, _, rfl, x, C, dx, _, rfl, hx, cl, T.f1, (by decide), ?_⟩
    refine ⟨_, rfl, _, rfl, x, C, dx, _, rfl, upd_same, cl, T.f2, (Nat.lt_of_le_of_lt (pflt (Nat.le_refl 0)) (by decide)), ?_⟩
    refine ⟨_, rfl, _, rfl, x, C, dx, _, rfl, upd_same, cl, T.f3, (Nat.lt_of_le_of_lt (pflt (pflt (Nat.le_refl 0))) (by decide)), ?_⟩
    intro wd hwd
    have nw : wd ≠ x := fun y => by rw [y, upd_same] at hwd; cases hwd
    refine ⟨_, rfl, x, C, dx, _, rfl, (by rw [upd_ne nw.symm]; exact upd_same), cl, T.f4, (Nat.lt_of_le_of_lt (pflt (pflt (pflt (Nat.le_refl 0)))) (by decide)), ?_⟩
    intro kd hkd
    have nk : kd ≠ x := fun y => by rw [y, upd_same] at hkd; cases hkd
    have nkw : kd ≠ wd := fun y => by rw [y, upd_ne nw, upd_same] at hkd; cases hkd
    refine ⟨_, rfl, x, C, dx, _, rfl, (by rw [upd_ne nk.symm]; exact upd_same), cl, T.f5, (Nat.lt_of_le_of_lt (pflt (pflt (pflt (pflt (Nat.le_refl 0))))) (by decide)), ?_⟩
    intro rd hrd
    have nr : rd ≠ x := fun y => by rw [y, upd_same] at hrd; cases hrd
    have nrk : rd ≠ kd := fun y => by rw [y, upd_ne nk, upd_same] at hrd; cases hrd
    have nrw : rd ≠ wd := fun y => by rw [y, upd_ne nw, upd_ne nkw.symm, upd_ne nw, upd_same] at hrd; cases hrd
    refine ⟨_, rfl, x, C, dx, _, rfl, (by rw [upd_ne nr.symm]; exact upd_same), cl, T.f6, (Nat.lt_of_le_of_lt (pflt (pflt (pflt (pflt (pflt (Nat.le_refl 0)))))) (by decide)), ?_⟩
    refine ⟨_, rfl, x, C, dx, _, rfl, upd_same, cl, T.f7, (Nat.lt_of_le_of_lt (pflt (pflt (pflt (pflt (pflt (pflt (Nat.le_refl 0))))))) (by decide)), ?_⟩
    have fw : H wd = none := by rw [upd_ne nw, upd_ne nw, upd_ne nw] at hwd; exact hwd
    have fk : H kd = none := by rw [upd_ne nk, upd_ne nkw, upd_ne nk, upd_ne nk, upd_ne nk] at hkd; exact hkd
    have fr : H rd = none := by rw [upd_ne nr, upd_ne nrk, upd_ne nr, upd_ne nrw, upd_ne nr, upd_ne nr, upd_ne nr] at hrd; exact hrd
    refine q wd kd rd _ fw fk fr nkw.symm nrw.symm nrk.symm (fun b o e hb => ?_) upd_same ?_ ?_ ?_
    · have nb : b ≠ x := fun z => hb (by rw [z]; exact List.mem_singleton.mpr rfl)
      rw [upd_ne nb, upd_ne nb, upd_ne (ne_of_none e fr), upd_ne nb, upd_ne (ne_of_none e fk), upd_ne nb, upd_ne (ne_of_none e fw), upd_ne nb, upd_ne nb, upd_ne nb]
      exact e
    · rw [upd_ne nw, upd_ne nw, upd_ne nrw.symm, upd_ne nw, upd_ne nkw.symm, upd_ne nw, upd_same]; rfl
    · rw [upd_ne nk, upd_ne nk, upd_ne nrk.symm, upd_ne nk, upd_same]; rfl
    · rw [upd_ne nr, upd_ne nr, upd_same]; rfl
/-- a method's call finds no attribute of its name -/
def spOpen (C : Addr) : Sp := fun vs H Q _ => ∃ (x dx : Addr) (fs : List (Str × V)), vs = [.ref x] ∧ H x = some (.ins C dx fs) ∧ fs.lookup ("kept_open" : Str) = some (.bl true) ∧ Q .non H
theorem ok_t_open {f C : Addr} {fd : FuncData} (F : Fun K "check_open" "Transaction.check_open" st_t_open f fd) (T : TCls K mg C) : FnOk P w K mg base CX0 1 f fd ["self"] (spOpen C) := by
  refine F.ok sc_t_open (fun vs H Q E h => ?_) (fun cdv A outer s H vs Q E hr h => ?_)
  · obtain ⟨x, dx, fs, rfl, _⟩ := h; rfl
  · obtain ⟨x, dx, fs, rfl, hx, hl, q⟩ := h
    refine ⟨_, pss_one (ps_if (pt_not (pt_val (pe_fld (pv 0) rfl))) (pss_one ps_never) pss_nil), ?_⟩
    refine ⟨_, rfl, x, C, dx, _, _, rfl, hx, T.cl, T.f7, hl, true, rfl, ?_⟩
    refine iteF ?_
    exact q
def spPut (P : Program) (w : World) (C : Addr) : Sp := fun vs H Q _ => ∃ (T : TrD) (sm m : List WT) (ks : List Str) (L : List (Addr × RT)) (k : Str) (v : Int), vs = [.ref T.x, .str k, .int v] ∧ TrAt P w C T H sm m ks L true ∧ TrF T sm m ks L ∧ GoodK k ∧ -10 ^ 18 ≤ v ∧ v ≤ 10 ^ 18 ∧
  ∀ H', KeptB [T.wd] H H' → TrAt P w C T H' sm (putM m k (some v)) ks L true → Q .non H'
theorem ok_t_put {f C fO fK fW : Addr} {fd fdO fdK fdW : FuncData} (F : Fun K "put" "Transaction.put" st_t_put f fd) (T : TCls K mg C) (GO : FnOk P w K mg base CX0 1 fO fdO ["self"] (spOpen C)) (mO : Meth K C "check_open" fO) (bO : Binds K fdO ["self"] [])
    (GK : FnOk P w K mg base CX0 2 fK fdK ["key"] spCheck) (mK : mg "check_key" = some (.ref fK)) (kK : PySem.W.keepIn K (.ref fK) = true) (bK : Binds K fdK ["key"] [])
    (GW : FnOk P w K mg base CX0 3 fW fdW ["thing"] spWorth) (mW : mg "is_worth" = some (.ref fW)) (kW : PySem.W.keepIn K (.ref fW) = true) (bW : Binds K fdW ["thing"] []) : FnOk P w K mg base CX0 4 f fd ["self", "key", "worth"] (spPut P w C) := by
  refine F.ok sc_t_put (fun vs H Q E h => ?_) (fun cdv A outer s H vs Q E hr h => ?_)
  · obtain ⟨D, sm, m, ks, L, k, v, rfl, _⟩ := h; rfl
  · obtain ⟨D, sm, m, ks, L, k, v, rfl, t, tf, g, v1, v2, q⟩ := h
    have cl := T.cl
    refine ⟨_, pss_cons (ps_expr (pe_meth0 (pv 0) cl mO GO (hr.mono (by decide)) bO .nil pass0)) (pss_cons (ps_expr (pe_call GK (hr.mono (by decide)) rfl mK kK bK .nil pass0 (pa_cons (pv 1) pa_nil)))
      (pss_cons (ps_if (pt_not (pt_val (pe_call GW hr rfl mW kW bW .nil pass0 (pa_cons (pv 2) pa_nil)))) (pss_one ps_never) pss_nil)
      (pss_one (ps_dput (lt_units hr.units) (pe_fld (pv 0) rfl) (pv 1) (pv 2) rfl)))), ?_⟩
    refine ⟨_, rfl, D.x, D.dx, _, rfl, t.ob, t_no (by decide +kernel), D.x, D.dx, _, rfl, t.ob, t_open, ?_⟩
    refine ⟨_, rfl, k, rfl, g, fun H1 s1 => ?_⟩
    have t1 := t.same s1
    refine ⟨_, rfl, v, rfl, v1, v2, true, rfl, ?_⟩
    refine iteF ?_
    refine ⟨_, rfl, _, rfl, D.x, C, D.dx, _, _, rfl, t1.ob, cl, T.f4, t_writes, _, rfl, D.wd, _, rfl, DPut.k (k := Sum.inr k) t1.wr (by rw [dk_len]; have := tf.mL; exact small1000 (by omega)), ?_⟩
    have e : putK (dk m) (Sum.inr k) (V.int v) = dk (putM m k (some v)) := dk_put m k (some v)
    rw [e]
    exact q _ (KeptB.then s1 KeptB.one) (t1.put tf.n1 tf.n2 KeptB.one upd_same)
def spDrop (P : Program) (w : World) (C : Addr) : Sp := fun vs H Q _ => ∃ (T : TrD) (sm m : List WT) (ks : List Str) (L : List (Addr × RT)) (k : Str), vs = [.ref T.x, .str k] ∧ TrAt P w C T H sm m ks L true ∧ TrF T sm m ks L ∧ GoodK k ∧
  ∀ H', KeptB [T.wd] H H' → TrAt P w C T H' sm (putM m k none) ks L true → Q .non H'
theorem ok_t_drop {f C fO fK : Addr} {fd fdO fdK : FuncData} (F : Fun K "drop" "Transaction.drop" st_t_drop f fd) (T : TCls K mg C) (GO : FnOk P w K mg base CX0 1 fO fdO ["self"] (spOpen C)) (mO : Meth K C "check_open" fO) (bO : Binds K fdO ["self"] [])
    (GK : FnOk P w K mg base CX0 2 fK fdK ["key"] spCheck) (mK : mg "check_key" = some (.ref fK)) (kK : PySem.W.keepIn K (.ref fK) = true) (bK : Binds K fdK ["key"] []) : FnOk P w K mg base CX0 3 f fd ["self", "key"] (spDrop P w C) := by
  refine F.ok sc_t_drop (fun vs H Q E h => ?_) (fun cdv A outer s H vs Q E hr h => ?_)
  · obtain ⟨D, sm, m, ks, L, k, rfl, _⟩ := h; rfl
  · obtain ⟨D, sm, m, ks, L, k, rfl, t, tf, g, q⟩ := h
    have cl := T.cl
    refine ⟨_, pss_cons (ps_expr (pe_meth0 (pv 0) cl mO GO (hr.mono (by decide)) bO .nil pass0)) (pss_cons (ps_expr (pe_call GK hr rfl mK kK bK .nil pass0 (pa_cons (pv 1) pa_nil)))
      (pss_one (ps_dput (lt_units hr.units) (pe_fld (pv 0) rfl) (pv 1) pe_non rfl))), ?_⟩
    refine ⟨_, rfl, D.x, D.dx, _, rfl, t.ob, t_no (by decide +kernel), D.x, D.dx, _, rfl, t.ob, t_open, ?_⟩
    refine ⟨_, rfl, k, rfl, g, fun H1 s1 => ?_⟩
    have t1 := t.same s1
    refine ⟨_, rfl, D.x, C, D.dx, _, _, rfl, t1.ob, cl, T.f4, t_writes, _, rfl, D.wd, _, rfl, DPut.k (k := Sum.inr k) t1.wr (by rw [dk_len]; have := tf.mL; exact small1000 (by omega)), ?_⟩
    have e : putK (dk m) (Sum.inr k) V.non = dk (putM m k none) := dk_put m k none
    rw [e]
    exact q _ (KeptB.then s1 KeptB.one) (t1.put tf.n1 tf.n2 KeptB.one upd_same)
/-- a got key is seen, unless it was written -/
def gotK (m : List WT) (ks : List Str) (k : Str) : List Str := if k ∈ keysM m then ks else putS ks k
def gotV (sm m : List WT) (k : Str) : Option Int := if k ∈ keysM m then worthM m k else worthM sm k
def spGet (P : Program) (w : World) (C : Addr) : Sp := fun vs H Q _ => ∃ (T : TrD) (sm m : List WT) (ks : List Str) (L : List (Addr × RT)) (k : Str), vs = [.ref T.x, .str k] ∧ TrAt P w C T H sm m ks L true ∧ TrF T sm m ks L ∧ GoodK k ∧
  ∀ H', KeptB [T.kd] H H' → TrAt P w C T H' sm m (gotK m ks k) L true → Q (mv (gotV sm m k)) H'
theorem ok_t_get {f C fO fK : Addr} {fd fdO fdK : FuncData} (F : Fun K "get" "Transaction.get" st_t_get f fd) (T : TCls K mg C) (GO : FnOk P w K mg base CX0 1 fO fdO ["self"] (spOpen C)) (mO : Meth K C "check_open" fO) (bO : Binds K fdO ["self"] [])
    (GK : FnOk P w K mg base CX0 2 fK fdK ["key"] spCheck) (mK : mg "check_key" = some (.ref fK)) (kK : PySem.W.keepIn K (.ref fK) = true) (bK : Binds K fdK ["key"] []) : FnOk P w K mg base CX0 3 f fd ["self", "key"] (spGet P w C) := by
  refine F.ok sc_t_get (fun vs H Q E h => ?_) (fun cdv A outer s H vs Q E hr h => ?_)
  · obtain ⟨D, sm, m, ks, L, k, rfl, _⟩ := h; rfl
  · obtain ⟨D, sm, m, ks, L, k, rfl, t, tf, g, q⟩ := h
    have cl := T.cl
    have hu := lt_units hr.units
    refine ⟨_, pss_cons (ps_expr (pe_meth0 (pv 0) cl mO GO (hr.mono (by decide)) bO .nil pass0)) (pss_cons (ps_expr (pe_call GK hr rfl mK kK bK .nil pass0 (pa_cons (pv 1) pa_nil)))
      (pss_cons (ps_if (pt_cmp (pc_din hu (pv 1) (pe_fld (pv 0) rfl))) (pss_one (ps_ret (pe_dget hu (pe_fld (pv 0) rfl) (pv 1) (fun _ _ => rfl)))) pss_nil)
      (pss_cons (ps_dput hu (pe_fld (pv 0) rfl) (pv 1) pe_bl rfl) (pss_one (ps_ret (pe_fcall (pv 0) (fc_look (hr.mono (by decide))) (pa_cons (pv 1) pa_nil))))))), ?_⟩
    refine ⟨_, rfl, D.x, D.dx, _, rfl, t.ob, t_no (by decide +kernel), D.x, D.dx, _, rfl, t.ob, t_open, ?_⟩
    refine ⟨_, rfl, k, rfl, g, fun H1 s1 => ?_⟩
    have t1 := t.same s1
    refine ⟨_, rfl, _, rfl, D.x, C, D.dx, _, _, rfl, t1.ob, cl, T.f4, t_writes, D.wd, _, rfl, DGet.k (k := Sum.inr k) t1.wr, _, rfl, ?_⟩
    by_cases hk : k ∈ keysM m
    · rw [worth_get hk]
      refine iteT ?_
      refine ⟨_, rfl, D.x, C, D.dx, _, _, rfl, t1.ob, cl, T.f4, t_writes, _, rfl, D.wd, _, rfl, .inl ⟨dk m, Sum.inr k, .inl t1.wr, rfl, (worth_get hk).symm⟩, ?_⟩
      have e1 : gotV sm m k = worthM m k := if_pos hk
      have e2 : gotK m ks k = ks := if_pos hk
      have z := q H1 (KeptB.of s1) (by rw [e2]; exact t1)
      rw [e1] at z
      exact z
    · rw [dk_get, getM_none hk]
      refine iteF ?_
      refine ⟨_, rfl, D.x, C, D.dx, _, _, rfl, t1.ob, cl, T.f5, t_keys, _, rfl, D.kd, _, rfl, DPut.k (k := Sum.inr k) t1.ky (by rw [ksD_len]; have := tf.kL; exact small1000 (by omega)), ?_⟩
      rw [ksD_put]
      have t2 := t1.got tf.n1 tf.n3 (H' := upd H1 D.kd (.dK (ksD (putS ks k)))) KeptB.one upd_same
      obtain ⟨F0, L0, _⟩ := id t2.lk
      refine ⟨_, rfl, D.x, C, D.dx, _, D.f, F0, _, rfl, t2.ob, cl, T.f2, t_look, L0.fn, _, rfl, k, D.c, D.st, D.cf, sm, rfl, t2.lk, t2.st, ?_⟩
      have e1 : gotV sm m k = worthM sm k := if_neg hk
      have e2 : gotK m ks k = putS ks k := if_neg hk
      have z := q _ (KeptB.then s1 KeptB.one) (by rw [e2]; exact t2)
      rw [e1] at z
      exact z
def spEnd (P : Program) (w : World) (C : Addr) : Sp := fun vs H Q _ => ∃ (T : TrD) (sm m : List WT) (ks : List Str) (L : List (Addr × RT)), vs = [.ref T.x] ∧ TrAt P w C T H sm m ks L true ∧
  ∀ H', KeptB [T.x] H H' → TrAt P w C T H' sm m ks L false → Q .non H'
theorem ok_t_end {f C fO : Addr} {fd fdO : FuncData} (F : Fun K "end" "Transaction.end" st_t_end f fd) (T : TCls K mg C) (GO : FnOk P w K mg base CX0 1 fO fdO ["self"] (spOpen C)) (mO : Meth K C "check_open" fO) (bO : Binds K fdO ["self"] []) : FnOk P w K mg base CX0 2 f fd ["self"] (spEnd P w C) := by
  refine F.ok sc_t_end (fun vs H Q E h => ?_) (fun cdv A outer s H vs Q E hr h => ?_)
  · obtain ⟨D, sm, m, ks, L, rfl, _⟩ := h; rfl
  · obtain ⟨D, sm, m, ks, L, rfl, t, q⟩ := h
    have cl := T.cl
    refine ⟨_, pss_cons (ps_expr (pe_meth0 (pv 0) cl mO GO hr bO .nil pass0)) (pss_one (ps_fld (pv 0) pe_bl rfl)), ?_⟩
    refine ⟨_, rfl, D.x, D.dx, _, rfl, t.ob, t_no (by decide +kernel), D.x, D.dx, _, rfl, t.ob, t_open, ?_⟩
    refine ⟨_, rfl, D.x, C, D.dx, _, rfl, t.ob, cl, T.f7, Nat.lt_of_le_of_lt t_len (by decide), ?_⟩
    have e : putF "kept_open" (V.bl false) (tFlds D.n D.f D.g D.wd D.kd D.rd true) = tFlds D.n D.f D.g D.wd D.kd D.rd false := putF_putF _ _ _ _
    rw [e]
    exact q _ KeptB.one (t.shut KeptB.one upd_same)
def spSawK (P : Program) (w : World) (C : Addr) : Sp := fun vs H Q _ => ∃ (T : TrD) (sm m : List WT) (ks : List Str) (L : List (Addr × RT)) (op : Bool), vs = [.ref T.x] ∧ TrAt P w C T H sm m ks L op ∧ TrF T sm m ks L ∧
  ∀ p H', Same H H' → H p = none → H' p = some (.tup ((sk ks).map V.str)) → Q (.ref p) H'
theorem ok_t_keys {f C : Addr} {fd : FuncData} (F : Fun K "saw_keys" "Transaction.saw_keys" st_t_keys f fd) (B : Bt mg) (T : TCls K mg C) : FnOk P w K mg base CX0 1 f fd ["self"] (spSawK P w C) := by
  refine F.ok sc_t_keys (fun vs H Q E h => ?_) (fun cdv A outer s H vs Q E hr h => ?_)
  · obtain ⟨D, sm, m, ks, L, op, rfl, _⟩ := h; rfl
  · obtain ⟨D, sm, m, ks, L, op, rfl, t, tf, q⟩ := h
    refine ⟨_, pss_one (ps_ret (pe_callTy call_tuple_of (by rfl) B.b_tuple (by decide +kernel) (pa_cons (pe_callB (cr_sortedDic rfl hr.units) (by rfl) B.b_sorted (by decide +kernel) (pa_cons (pe_fld (pv 0) rfl) pa_nil)) pa_nil))), ?_⟩
    refine ⟨_, rfl, D.x, C, D.dx, _, _, rfl, t.ob, T.cl, T.f5, t_keys, D.kd, _, ks, rfl, t.ky, ksD_keys ks, tf.kN, by have := tf.kL; omega, fun ys p as pm hp => ?_⟩
    rw [is_sk as pm]
    have s1 : Same H (upd H p (.lst ((sk ks).map V.str))) := same_new hp
    refine ⟨p, _, rfl, .inl ⟨SqL.of upd_same, fun l hl => ?_⟩⟩
    exact q l _ (same_upd s1 (s1.free hl)) (s1.free hl) upd_same
def spSawR (P : Program) (w : World) (C : Addr) : Sp := fun vs H Q _ => ∃ (T : TrD) (sm m : List WT) (ks : List Str) (L : List (Addr × RT)) (op : Bool), vs = [.ref T.x] ∧ TrAt P w C T H sm m ks L op ∧ TrF T sm m ks L ∧
  ∀ p H' (L' : List (Addr × RT)), Same H H' → H p = none → H' p = some (.tup (L'.map fun z => V.ref z.1)) → AscR (L'.map (·.2)) → L'.Perm L → Q (.ref p) H'
theorem ok_t_ranges {f C : Addr} {fd : FuncData} (F : Fun K "saw_ranges" "Transaction.saw_ranges" st_t_ranges f fd) (B : Bt mg) (T : TCls K mg C) : FnOk P w K mg base CX0 1 f fd ["self"] (spSawR P w C) := by
  refine F.ok sc_t_ranges (fun vs H Q E h => ?_) (fun cdv A outer s H vs Q E hr h => ?_)
  · obtain ⟨D, sm, m, ks, L, op, rfl, _⟩ := h; rfl
  · obtain ⟨D, sm, m, ks, L, op, rfl, t, tf, q⟩ := h
    refine ⟨_, pss_one (ps_ret (pe_callTy call_tuple_of (by rfl) B.b_tuple (by decide +kernel) (pa_cons (pe_callB (cr_sortedDicR rfl hr.units) (by rfl) B.b_sorted (by decide +kernel) (pa_cons (pe_fld (pv 0) rfl) pa_nil)) pa_nil))), ?_⟩
    refine ⟨_, rfl, D.x, C, D.dx, _, _, rfl, t.ob, T.cl, T.f6, t_ranges, D.rd, L, rfl, t.rg, fun p hp => (t.rL p hp).r, tf.rN, by have := tf.rL; omega, fun L' p as pm hp => ?_⟩
    have s1 : Same H (upd H p (.lst (L'.map fun z => V.ref z.1))) := same_new hp
    refine ⟨p, _, rfl, .inl ⟨SqL.of upd_same, fun l hl => ?_⟩⟩
    exact q l _ L' (same_upd s1 (s1.free hl)) (s1.free hl) upd_same as pm
def spWrote (P : Program) (w : World) (C : Addr) : Sp := fun vs H Q _ => ∃ (T : TrD) (sm m : List WT) (ks : List Str) (L : List (Addr × RT)) (op : Bool), vs = [.ref T.x] ∧ TrAt P w C T H sm m ks L op ∧ TrF T sm m ks L ∧
  ∀ p H' (W : List (Addr × WT)), Same H H' → H p = none → H' p = some (.tup (W.map fun z => V.ref z.1)) → (∀ z ∈ W, PairX H' z.1 z.2) → W.map (·.2) = wsM m (sk (keysM m)) → Q (.ref p) H'
theorem ok_t_wrote {f C : Addr} {fd : FuncData} (F : Fun K "wrote" "Transaction.wrote" st_t_wrote f fd) (B : Bt mg) (T : TCls K mg C) : FnOk P w K mg base CX0 1 f fd ["self"] (spWrote P w C) := by
  refine F.ok sc_t_wrote (fun vs H Q E h => ?_) (fun cdv A outer s H vs Q E hr h => ?_)
  · obtain ⟨D, sm, m, ks, L, op, rfl, _⟩ := h; rfl
  · obtain ⟨D, sm, m, ks, L, op, rfl, t, tf, q⟩ := h
    have hu := lt_units hr.units
    refine ⟨_, pss_one (ps_ret (pe_callTy call_tuple_of (by rfl) B.b_tuple (by decide +kernel) (pa_cons (pe_lc (own := [("key", 1)]) (g := gName 1) (tt := tYes) (te := tTup (tCons (tVar 1) (tCons (tDGet (tFld K (tVar 0) "kept_writes") (tVar 1)) tNil))) rfl sc_t_wrote.nd
        (pi_list (pe_callB (cr_sortedDic rfl hr.units) (by rfl) B.b_sorted (by decide +kernel) (pa_cons (pe_fld (pv 0) rfl) pa_nil))) (blkOk_by (N := ["self", "key"]) (sc := defScope st_t_wrote) (by decide +kernel))
        (fun _ _ _ _ _ => pg_name (i := 1) sc_t_wrote.nd rfl (Or.inl rfl)) (fun _ _ _ _ _ => pts_nil)
        (fun _ _ _ _ _ => pe_tup (pa_cons (pv 1) (pa_cons (pe_dget hu (pe_fld (pv 0) rfl) (pv 1) (fun _ _ => rfl)) pa_nil)))) pa_nil))), ?_⟩
    have kl : (keysM m).length = m.length := List.length_map ..
    have ml := tf.mL
    refine ⟨_, rfl, D.x, C, D.dx, _, _, rfl, t.ob, T.cl, T.f4, t_writes, D.wd, _, keysM m, rfl, t.wr, dk_keys m, tf.mN, by omega, fun ys p as pm hp => ?_⟩
    rw [is_sk as pm]
    have s1 : Same H (upd H p (.lst ((sk (keysM m)).map V.str))) := same_new hp
    refine ⟨p, rfl, ⟨_, SqL.of upd_same⟩, fun D2 hD => lc_pairs (ks := sk (keysM m)) (flt := fun _ => true) (m := m) (by rw [sk_len]; omega) hD (SqL.of upd_same) (fun _ => rfl) (fun i k H2 Q2 hk s2 q2 => q2) (fun i k H2 Q2 hk hf s2 q2 => ?_) fun H2 W s2 d2 hW eW => ?_⟩
    · have hmem : k ∈ keysM m := sk_mem.mp (List.mem_of_getElem? hk)
      have t2 := (t.same s1).same s2
      refine ⟨_, rfl, _, rfl, D.x, C, D.dx, _, _, rfl, t2.ob, T.cl, T.f4, t_writes, _, rfl, D.wd, _, rfl, .inl ⟨dk m, Sum.inr k, .inl t2.wr, rfl, (worth_get hmem).symm⟩, (by show 2 ≤ sizeLine; decide), ?_⟩
      exact fun t ht => q2 t ht
    · refine ⟨D2, _, rfl, .inl ⟨SqL.of d2, fun l hl => ?_⟩⟩
      have s3 : Same H H2 := s1.trans s2
      refine q l _ W (same_upd s3 (s3.free hl)) (s3.free hl) upd_same (fun z hz => (hW z hz).same (same_new hl)) ?_
      rw [eW]
      congr 1
      exact List.filter_eq_self.mpr fun _ _ => rfl
end
end W30


/-! S26: Transaction.between, Transaction.dealing. -/
namespace W30
open PySem PySem.Spec PyProof.Rows L2
def mergeM (acc ps : List WT) : List WT := ps.foldl (fun a p => putM a p.1 p.2) acc
theorem merge_dk : ∀ (ps acc : List WT), mergeK (dk acc) (dk ps) = dk (mergeM acc ps)
  | [], acc => rfl
  | p :: ps, acc => by
    show mergeK (putK (dk acc) (Sum.inr p.1) (mv p.2)) (dk ps) = dk (mergeM (putM acc p.1 p.2) ps)
    rw [dk_put, merge_dk ps]
def overM (fd m : List WT) (ks : List Str) : List WT := ks.foldl (fun a k => putM a k (worthM m k)) fd
theorem over_snoc (fd m : List WT) (ks : List Str) (k : Str) : overM fd m (ks ++ [k]) = putM (overM fd m ks) k (worthM m k) := by unfold overM; rw [List.foldl_append]; rfl
theorem merge_nd : ∀ (ps acc : List WT), (keysM acc).Nodup → (keysM (mergeM acc ps)).Nodup
  | [], _, h => h
  | p :: ps, acc, h => merge_nd ps (putM acc p.1 p.2) (putM_nodup h)
theorem merge_len : ∀ (ps acc : List WT), (mergeM acc ps).length ≤ acc.length + ps.length
  | [], acc => by show acc.length ≤ _; omega
  | p :: ps, acc => by
    have h := merge_len ps (putM acc p.1 p.2)
    have h2 := putM_len acc p.1 p.2
    show (mergeM (putM acc p.1 p.2) ps).length ≤ _
    rw [List.length_cons]; omega
theorem over_nd (m : List WT) : ∀ (ks : List Str) (acc : List WT), (keysM acc).Nodup → (keysM (overM acc m ks)).Nodup
  | [], _, h => h
  | k :: ks, acc, h => over_nd m ks (putM acc k (worthM m k)) (putM_nodup h)
theorem over_len (m : List WT) : ∀ (ks : List Str) (acc : List WT), (overM acc m ks).length ≤ acc.length + ks.length
  | [], acc => by show acc.length ≤ _; omega
  | k :: ks, acc => by
    have h := over_len m ks (putM acc k (worthM m k))
    have h2 := putM_len acc k (worthM m k)
    show (overM (putM acc k (worthM m k)) m ks).length ≤ _
    rw [List.length_cons]; omega
/-- what stands within, of a state and of what was written -/
def foundM (sm m : List WT) (lo hi : Str) : List WT := overM (mergeM [] (wsM sm (ownM sm lo hi))) m (ownM m lo hi)
def toldM (fd : List WT) : List WT := wsM fd ((sk (keysM fd)).filter fun k => (worthM fd k).isSome)
def betwM (sm m : List WT) (lo hi : Str) : List WT := if ltS hi lo = true then [] else toldM (foundM sm m lo hi)
theorem found_nd (sm m : List WT) (lo hi : Str) : (keysM (foundM sm m lo hi)).Nodup := over_nd _ _ _ (merge_nd _ _ List.nodup_nil)
theorem ws_len (m : List WT) (ks : List Str) : (wsM m ks).length = ks.length := List.length_map ..
theorem start_len (sm : List WT) (lo hi : Str) (h : sm.length ≤ 40) : (mergeM [] (wsM sm (ownM sm lo hi))).length ≤ 40 := by
  have h1 := merge_len (wsM sm (ownM sm lo hi)) []
  rw [ws_len, List.length_nil] at h1
  have h2 := own_len sm lo hi
  omega
theorem found_len (sm m : List WT) (lo hi : Str) (h : sm.length ≤ 40) (h' : m.length ≤ 40) : (foundM sm m lo hi).length ≤ 80 := by
  have h1 := over_len m (ownM m lo hi) (mergeM [] (wsM sm (ownM sm lo hi)))
  have h2 := start_len sm lo hi h
  have h3 := own_len m lo hi
  unfold foundM
  omega
theorem paired_pairs {K : PySem.W.Frag} {H : Hp} : ∀ L : List (Addr × WT), (∀ q ∈ L, PairX H q.1 q.2) → Paired (fun p (kv : Key × V) => SqT K H p [kV kv.1, kv.2]) (L.map (·.1)) (dk (L.map (·.2)))
  | [], _ => .nil
  | q :: L, h => .cons (SqT.of (h q List.mem_cons_self)) (paired_pairs L fun z hz => h z (List.mem_cons_of_mem _ hz))
theorem own_good {m : List WT} {lo hi : Str} (g : ∀ p ∈ m, GoodW p) (nd : (keysM m).Nodup) (hl : m.length ≤ 40) (k1 : GoodK lo) (k2 : GoodK hi) (le : ltS hi lo = false) : GoodR (lo, hi, ownM m lo hi) := by
  refine ⟨k1, k2, le, fun k hk => ?_, own_asc nd, Nat.le_trans (own_len m lo hi) hl⟩
  obtain ⟨h1, h2⟩ := own_mem.mp hk
  obtain ⟨p, hp, rfl⟩ := List.mem_map.mp h1
  unfold inR at h2
  simp only [Bool.and_eq_true, Bool.not_eq_true'] at h2
  exact ⟨(g p hp).k, h2.1, h2.2⟩
section
variable {P : Program} {w : World} {K : PySem.W.Frag} {mg : Str → Option Value} {base : Heap}
def spBetw (P : Program) (w : World) (C : Addr) : Sp := fun vs H Q _ => ∃ (T : TrD) (sm m : List WT) (ks : List Str) (L : List (Addr × RT)) (lo hi : Str), vs = [.ref T.x, .str lo, .str hi] ∧ TrAt P w C T H sm m ks L true ∧ TrF T sm m ks L ∧ GoodK lo ∧ GoodK hi ∧
  ∀ (p a : Addr) (H' : Hp) (L2 : List (Addr × WT)), KeptB [T.rd] H H' → H' p = some (.lst (L2.map fun z => V.ref z.1)) → (∀ z ∈ L2, PairX H' z.1 z.2) → L2.map (·.2) = betwM sm m lo hi →
    TrAt P w C T H' sm m ks (if ltS hi lo = true then L else putR L a (lo, hi, ownM m lo hi)) true → (∀ b o, H b = some o → b ≠ p) → Q (.ref p) H'
theorem ok_t_between {f C fO fK fI fW : Addr} {fd fdO fdK fdI fdW : FuncData} (F : Fun K "between" "Transaction.between" st_t_between f fd) (B : Bt mg) (T : TCls K mg C) (GO : FnOk P w K mg base CX0 1 fO fdO ["self"] (spOpen C)) (mO : Meth K C "check_open" fO) (bO : Binds K fdO ["self"] [])
    (GK : FnOk P w K mg base CX0 2 fK fdK ["key"] spCheck) (mK : mg "check_key" = some (.ref fK)) (kK : PySem.W.keepIn K (.ref fK) = true) (bK : Binds K fdK ["key"] [])
    (GI : FnOk P w K mg base CX0 1 fI fdI ["low", "high", "keys"] spWithinK) (mI : mg "within" = some (.ref fI)) (kI : PySem.W.keepIn K (.ref fI) = true) (bI : Binds K fdI ["low", "high", "keys"] [])
    (GW : FnOk P w K mg base CX0 1 fW fdW ["_law_state", "_law_low", "_law_high"] spWalked) (mW : mg "_law_walked" = some (.ref fW)) (kW : PySem.W.keepIn K (.ref fW) = true) (bW : Binds K fdW ["_law_state", "_law_low", "_law_high"] []) :
    FnOk P w K mg base CX0 3 f fd ["self", "low", "high"] (spBetw P w C) := by
  refine F.ok sc_t_between (fun vs H Q E h => ?_) (fun cdv A outer s H vs Q E hr h => ?_)
  · obtain ⟨D, sm, m, ks, L, lo, hi, rfl, _⟩ := h; rfl
  · obtain ⟨D, sm, m, ks, L, lo, hi, rfl, t, tf, g1, g2, q⟩ := h
    have cl := T.cl
    have hu := lt_units hr.units
    have hr1 : Room 1 _ := hr.mono (by decide)
    refine ⟨_, pss_cons (ps_expr (pe_meth0 (pv 0) cl mO GO hr1 bO .nil pass0)) (pss_cons (ps_expr (pe_call GK hr rfl mK kK bK .nil pass0 (pa_cons (pv 1) pa_nil))) (pss_cons (ps_expr (pe_call GK hr rfl mK kK bK .nil pass0 (pa_cons (pv 2) pa_nil)))
      (pss_cons (ps_if (pt_cmpR op_ltS (pv 2) (pv 1) (nomark _)) (pss_one (ps_ret (pe_lst pa_nil))) pss_nil)
      (pss_cons (ps_set (i := 3) sc_t_between.nd rfl (Or.inl rfl) (pe_call GI hr1 rfl mI kI bI .nil pass0 (pa_cons (pv 1) (pa_cons (pv 2) (pa_cons (pe_fld (pv 0) rfl) pa_nil)))))
      (pss_cons (ps_asg pe_bl (pg_sub (pe_fld (pv 0) rfl) (pe_tup (pa_cons (pv 1) (pa_cons (pv 2) (pa_cons (pe_callTy call_tuple_of (by rfl) B.b_tuple (by decide +kernel) (pa_cons (pv 3) pa_nil)) pa_nil)))) (set_dicR hr.units)))
      (pss_cons (ps_set (i := 4) sc_t_between.nd rfl (Or.inr rfl) (pe_callTy (call_dictP rfl) (by rfl) B.b_dict (by decide +kernel) (pa_cons (pe_fcall (pv 0) (fc_walk hr GW mW kW bW) (pa_cons (pv 1) (pa_cons (pv 2) pa_nil))) pa_nil)))
      (pss_cons (ps_for PassesOwn.never rfl (pi_list (pv 3)) (pg_name (i := 5) sc_t_between.nd rfl (Or.inl rfl)) (pss_one (ps_dput hu (pv 4) (pv 5) (pe_dget hu (pe_fld (pv 0) rfl) (pv 5) (fun _ _ => rfl)) rfl)))
      (pss_one (ps_ret (pe_lc (own := [("key", 5)]) (g := gName 5) rfl sc_t_between.nd (pi_list (pe_callB (cr_sortedDic rfl hr.units) (by rfl) B.b_sorted (by decide +kernel) (pa_cons (pv 4) pa_nil))) (blkOk_by (N := ["self", "low", "high", "own", "found", "key"]) (sc := defScope st_t_between) (by decide +kernel))
        (fun _ _ _ _ _ => pg_name (i := 5) sc_t_between.nd rfl (Or.inl rfl)) (fun _ _ _ _ _ => pts_one (pt_cmp (pc_notN (pe_dget hu (pv 4) (pv 5) (fun _ _ => rfl))) rfl))
        (fun _ _ _ _ _ => pe_tup (pa_cons (pv 5) (pa_cons (pe_dget hu (pv 4) (pv 5) (fun _ _ => rfl)) pa_nil))))))))))))), ?_⟩
    refine ⟨_, rfl, D.x, D.dx, _, rfl, t.ob, t_no (by decide +kernel), D.x, D.dx, _, rfl, t.ob, t_open, ?_⟩
    refine ⟨_, rfl, lo, rfl, g1, fun H1 s1 => ?_⟩
    refine ⟨_, rfl, hi, rfl, g2, fun H2 s2 => ?_⟩
    have s12 := s1.trans s2
    have t2 := t.same s12
    refine ⟨_, rfl, _, rfl, hi, lo, rfl, rfl, _, rfl, ?_⟩
    cases hlt : ltS hi lo with
    | true =>
      refine iteT ?_
      refine ⟨Nat.zero_le _, fun p hp => ?_⟩
      refine q p 0 _ [] (KeptB.of (same_upd s12 (s12.free hp))) upd_same (by simp) ?_ ?_ (fun b o e => ne_of_none e (s12.free hp))
      · unfold betwM; rw [if_pos hlt]; rfl
      · rw [if_pos hlt]; exact t2.same (same_new hp)
    | false =>
      refine iteF ?_
      have no : ¬ ltS hi lo = true := by rw [hlt]; exact Bool.false_ne_true
      have ml := tf.mL
      have sl := tf.sL
      -- own = within(low, high, self.kept_writes)
      refine ⟨_, rfl, _, rfl, _, rfl, D.x, C, D.dx, _, _, rfl, t2.ob, cl, T.f4, t_writes, lo, hi, D.wd, m, rfl, t2.wr, tf.mN, by omega, fun ol H3 s3 hol dol => ?_⟩
      have t3 := t2.same s3
      -- self.kept_ranges[low, high, tuple(own)] = True
      refine ⟨_, rfl, D.x, C, D.dx, _, _, rfl, t3.ob, cl, T.f6, t_ranges, _, rfl, _, rfl, _, rfl, ol, _, rfl, .inl ⟨SqL.of dol, fun ot hot => ?_⟩⟩
      refine ⟨(by show 3 ≤ sizeLine; decide), fun a ha => ?_⟩
      have s4 : Same H3 (upd (upd H3 ot (.tup ((ownM m lo hi).map V.str))) a (.tup [.str lo, .str hi, .ref ot])) := same_upd (same_new hot) ((same_new hot).free ha)
      have t4 := t3.same s4
      have nao : ot ≠ a := fun z => by rw [← z, upd_same] at ha; cases ha
      have tX : TupX (upd (upd H3 ot (.tup ((ownM m lo hi).map V.str))) a (.tup [.str lo, .str hi, .ref ot])) a (lo, hi, ownM m lo hi) := ⟨ot, upd_same, by rw [upd_ne nao]; exact upd_same⟩
      refine ⟨D.rd, a, L, (lo, hi, ownM m lo hi), rfl, rfl, rfl, t4.rg, fun p hp => (t4.rL p hp).r, tf.rN, tX.r, by have := tf.rL; omega, ?_⟩
      have kb : KeptB [D.rd] (upd (upd H3 ot (.tup ((ownM m lo hi).map V.str))) a (.tup [.str lo, .str hi, .ref ot])) (upd (upd (upd H3 ot (.tup ((ownM m lo hi).map V.str))) a (.tup [.str lo, .str hi, .ref ot])) D.rd (DicRO P w D.rd (putR L a (lo, hi, ownM m lo hi)))) := KeptB.one
      have t5 := t4.saw tf.n4 kb upd_same (L' := putR L a (lo, hi, ownM m lo hi)) (fun p hp => by
        rcases putR_mem hp with e | e
        · rw [e]; exact tX
        · exact t4.rL p e)
      have k5 : KeptB [D.rd] H (upd (upd (upd H3 ot (.tup ((ownM m lo hi).map V.str))) a (.tup [.str lo, .str hi, .ref ot])) D.rd (DicRO P w D.rd (putR L a (lo, hi, ownM m lo hi)))) := KeptB.then ((s12.trans s3).trans s4) kb
      have dol4 := s4 _ _ dol
      have nol : ol ≠ D.rd := ne_hk dol4 t4.rg (show (0 : Nat) ≠ 9 by decide)
      have dol5 := kb _ _ dol4 fun z => nol (List.mem_singleton.mp z)
      -- found = dict(self.kept_walk(low, high))
      obtain ⟨F0, L0, _⟩ := id t5.wk
      refine ⟨_, rfl, D.x, C, D.dx, _, D.g, F0, _, rfl, t5.ob, cl, T.f3, t_walk, L0.fn, _, rfl, _, rfl, lo, hi, D.c, D.st, D.cg, sm, rfl, t5.wk, t5.st, tf.sN, by omega, fun wl H6 Lw s6 dwl hLw eLw => ?_⟩
      refine ⟨wl, Lw.map (·.1), dk (Lw.map (·.2)), rfl, SqL.of (by rw [List.map_map]; exact dwl), paired_pairs Lw hLw, fun fa hfa => ?_⟩
      have em : mergeK [] (dk (Lw.map (·.2))) = dk (mergeM [] (wsM sm (ownM sm lo hi))) := by
        have e := merge_dk (Lw.map (·.2)) []
        rw [eLw] at e ⊢
        exact e
      rw [em]
      have t6 := t5.same s6
      have k6 : KeptB [D.rd] H H6 := k5.trans (KeptB.of s6)
      have dol6 := s6 _ _ dol5
      -- for key in own: found[key] = self.kept_writes[key]
      refine ⟨_, rfl, ol, rfl, ⟨_, SqL.of ((same_new hfa) _ _ dol6)⟩, for_list (K := K) (a := ol) (xs := (ownM m lo hi).map V.str)
        (fun i σ H7 => ∃ v, σ = [some (.ref D.x), some (.str lo), some (.str hi), some (.ref ol), some (.ref fa), v] ∧ Same H6 H7 ∧ H7 fa = some (.dK (dk (overM (mergeM [] (wsM sm (ownM sm lo hi))) m ((ownM m lo hi).take i)))))
        ⟨none, rfl, same_new hfa, upd_same⟩ (fun i σ H7 _ ⟨_, _, s7, _⟩ => SqL.of (s7 _ _ dol6)) ?_ ?_⟩
      · rintro i y σ H7 hi7 ⟨v, rfl, s7, d7⟩
        rw [List.getElem?_map] at hi7
        obtain ⟨k, hk, rfl⟩ := Option.map_eq_some_iff.mp hi7
        have hmem : k ∈ keysM m := (own_mem.mp (List.mem_of_getElem? hk)).1
        have t7 := t6.same s7
        have et : (ownM m lo hi).take (i + 1) = (ownM m lo hi).take i ++ [k] := by rw [List.take_add_one, hk]; rfl
        refine ⟨_, rfl, D.x, C, D.dx, _, _, rfl, t7.ob, cl, T.f4, t_writes, _, rfl, D.wd, _, rfl, .inl ⟨dk m, Sum.inr k, .inl t7.wr, rfl, (worth_get hmem).symm⟩, ?_⟩
        refine ⟨_, rfl, _, rfl, fa, _, rfl, DPut.k (k := Sum.inr k) d7 ?_, ?_⟩
        · rw [dk_len]
          have z1 := over_len m ((ownM m lo hi).take i) (mergeM [] (wsM sm (ownM sm lo hi)))
          have z2 := start_len sm lo hi sl
          rw [List.length_take] at z1
          have z3 := own_len m lo hi
          exact small1000 (by omega)
        · rw [dk_put]
          refine ⟨_, rfl, same_upd s7 hfa, ?_⟩
          rw [upd_same, et, over_snoc]
      · rintro σ H7 ⟨v, rfl, s7, d7⟩
        rw [List.length_map, List.take_length] at d7
        have d7 : H7 fa = some (.dK (dk (foundM sm m lo hi))) := d7
        have fl := found_len sm m lo hi sl ml
        have fk : (keysM (foundM sm m lo hi)).length = (foundM sm m lo hi).length := List.length_map ..
        have t7 := t6.same s7
        refine ⟨_, rfl, fa, _, keysM (foundM sm m lo hi), rfl, d7, dk_keys _, found_nd sm m lo hi, by omega, fun ys p as pm hp => ?_⟩
        rw [is_sk as pm]
        have s8 : Same H7 (upd H7 p (.lst ((sk (keysM (foundM sm m lo hi))).map V.str))) := same_new hp
        refine ⟨p, rfl, ⟨_, SqL.of upd_same⟩, fun D2 hD => lc_pairs (ks := sk (keysM (foundM sm m lo hi))) (flt := fun k => (worthM (foundM sm m lo hi) k).isSome) (m := foundM sm m lo hi) (by rw [sk_len]; omega) hD (SqL.of upd_same) (fun _ => rfl) (fun i k H8 Q8 hk s9 q8 => ?_) (fun i k H8 Q8 hk hf s9 q8 => ?_) fun H8 L8 s9 d8 hL8 eL8 => ?_⟩
        · have hmem : k ∈ keysM (foundM sm m lo hi) := sk_mem.mp (List.mem_of_getElem? hk)
          refine ⟨_, rfl, _, rfl, fa, _, rfl, .inl ⟨dk (foundM sm m lo hi), Sum.inr k, .inl (s9 _ _ (s8 _ _ d7)), rfl, (worth_get hmem).symm⟩, _, rfl, ?_⟩
          rw [mv_isSome]
          exact q8
        · have hmem : k ∈ keysM (foundM sm m lo hi) := sk_mem.mp (List.mem_of_getElem? hk)
          refine ⟨_, rfl, _, rfl, _, rfl, fa, _, rfl, .inl ⟨dk (foundM sm m lo hi), Sum.inr k, .inl (s9 _ _ (s8 _ _ d7)), rfl, (worth_get hmem).symm⟩, (by show 2 ≤ sizeLine; decide), ?_⟩
          exact fun x hx => q8 x hx
        · have s10 : Same H6 H8 := (s7.trans s8).trans s9
          refine q D2 a H8 L8 (k6.trans (KeptB.of s10)) d8 hL8 ?_ ?_ (fun b o e => ?_)
          · unfold betwM; rw [if_neg no, eL8]; rfl
          · rw [if_neg no]; exact t6.same s10
          · by_cases hb : b = D.rd
            · rw [hb]; exact ne_of_none (s8 _ _ t7.rg) hD
            · exact ne_of_none (s8 _ _ (s7 _ _ (k6 b o e fun z => hb (List.mem_singleton.mp z)))) hD
end
end W30


/-! S27: Transaction.dealing; _law_hand, _law_draw. -/
namespace W30
open PySem PySem.Spec PyProof.Rows L2
section
variable {P : Program} {w : World} {K : PySem.W.Frag} {mg : Str → Option Value} {base : Heap}
/-- the number that the law gives a dealing -/
def NumM (n : Int) (num : V) (m : List WT) : Prop := (m = [] ∧ num = .non) ∨ (m ≠ [] ∧ ∃ j : Int, num = .int j ∧ n < j)
theorem wsM_fst (m : List WT) (ks : List Str) : (wsM m ks).map (·.1) = ks := by
  unfold wsM
  rw [List.map_map]
  exact List.map_id _
theorem numOk {n : Int} {num : V} {m : List WT} {W : List (Addr × WT)} (h : NumM n num m) (e : W.map (·.2) = wsM m (sk (keysM m))) : NumOk n num (W.map fun z => V.ref z.1) := by
  have el : W.length = m.length := by
    have h1 := congrArg List.length e
    rw [List.length_map, ws_len, sk_len] at h1
    exact h1.trans (List.length_map ..)
  rcases h with ⟨h1, h2⟩ | ⟨h1, h2⟩
  · refine .inl ⟨?_, h2⟩
    rw [h1] at el
    have : W = [] := List.eq_nil_of_length_eq_zero el
    rw [this]; rfl
  · refine .inr ⟨fun z => h1 ?_, h2⟩
    have z2 := congrArg List.length z
    rw [List.length_map, el] at z2
    exact List.eq_nil_of_length_eq_zero z2
/-- the three parts that were seen and written, laid at ga, ra, wa, make a dealing's -/
theorem dargs_of {T : TrD} {H : Hp} {sm m : List WT} {ks : List Str} {L L' : List (Addr × RT)} {W : List (Addr × WT)} {num : V} {ga ra wa : Addr} (tf : TrF T sm m ks L) (hL : ∀ p ∈ L', TupX H p.1 p.2) (pm : L'.Perm L) (as : AscR (L'.map (·.2)))
    (hg : H ga = some (.tup ((sk ks).map V.str))) (hr : H ra = some (.tup (L'.map fun z => V.ref z.1))) (hw : H wa = some (.tup (W.map fun z => V.ref z.1))) (hW : ∀ z ∈ W, PairX H z.1 z.2) (eW : W.map (·.2) = wsM m (sk (keysM m))) (hn : NumM T.n num m) : DArgs H T.n num ga ra wa (sk ks) L' W := by
  have e1 : W.map (·.2.1) = sk (keysM m) := by
    have h1 := congrArg (fun l : List WT => l.map (·.1)) eW
    have h2 : (W.map (·.2)).map (·.1) = (wsM m (sk (keysM m))).map (·.1) := h1
    rw [wsM_fst, List.map_map] at h2
    exact h2
  have el : W.length = m.length := by
    have h1 := congrArg List.length eW
    rw [List.length_map, ws_len, sk_len] at h1
    exact h1.trans (List.length_map ..)
  refine ⟨tf.n0, hg, fun k hk => tf.kG k (sk_mem.mp hk), sk_asc tf.kN, by rw [sk_len]; exact tf.kL, hr, fun p hp => ⟨hL p hp, tf.rG p (pm.mem_iff.mp hp)⟩, as, by rw [pm.length_eq]; exact tf.rL, hw, fun z hz => ⟨hW z hz, ?_⟩, by rw [e1]; exact sk_asc tf.mN, by rw [el]; exact tf.mL, numOk hn eW⟩
  have hz2 : z.2 ∈ W.map (·.2) := List.mem_map.mpr ⟨z, hz, rfl⟩
  rw [eW] at hz2
  obtain ⟨k, hk, e⟩ := List.mem_map.mp hz2
  rw [← e]
  exact worth_good tf.mG (sk_mem.mp hk)
def spDeal (P : Program) (w : World) (C CD : Addr) : Sp := fun vs H Q _ => ∃ (T : TrD) (sm m : List WT) (ks : List Str) (L : List (Addr × RT)) (op : Bool) (num : V), vs = [.ref T.x, num] ∧ TrAt P w C T H sm m ks L op ∧ TrF T sm m ks L ∧ NumM T.n num m ∧
  ∀ (d dx ga ra wa : Addr) (L' : List (Addr × RT)) (W : List (Addr × WT)) (H' : Hp), Same H H' → H' d = some (.ins CD dx (dFlds T.n num ga ra wa)) → DArgs H' T.n num ga ra wa (sk ks) L' W → L'.Perm L → W.map (·.2) = wsM m (sk (keysM m)) → Q (.ref d) H'
theorem ok_t_dealing {f C CD fK fR fW fI : Addr} {fd fdK fdR fdW fdI : FuncData} (F : Fun K "dealing" "Transaction.dealing" st_t_dealing f fd) (T : TCls K mg C) (D : DCls K mg CD) (GK : FnOk P w K mg base CX0 1 fK fdK ["self"] (spSawK P w C)) (mK : Meth K C "saw_keys" fK) (bK : Binds K fdK ["self"] [])
    (GR : FnOk P w K mg base CX0 1 fR fdR ["self"] (spSawR P w C)) (mR : Meth K C "saw_ranges" fR) (bR : Binds K fdR ["self"] []) (GW : FnOk P w K mg base CX0 1 fW fdW ["self"] (spWrote P w C)) (mW : Meth K C "wrote" fW) (bW : Binds K fdW ["self"] [])
    (M : Mk K CD fI) (GI : FnOk P w K mg base CX0 7 fI fdI ["self", "snapshot", "number", "gets", "ranges", "writes"] (spDInit CD)) (bI : Binds K fdI ["self", "snapshot", "number", "gets", "ranges", "writes"] []) : FnOk P w K mg base CX0 9 f fd ["self", "number"] (spDeal P w C CD) := by
  refine F.ok sc_t_dealing (fun vs H Q E h => ?_) (fun cdv A outer s H vs Q E hr h => ?_)
  · obtain ⟨D, sm, m, ks, L, op, num, rfl, _⟩ := h; rfl
  · obtain ⟨D0, sm, m, ks, L, op, num, rfl, t, tf, hn, q⟩ := h
    have cl := T.cl
    have hr1 : Room 1 _ := hr.mono (by decide)
    refine ⟨_, pss_one (ps_ret (pe_make M GI hr rfl D.mgC bI .nil pass0 (pa_cons (pe_fld (pv 0) rfl) (pa_cons (pv 1) (pa_cons (pe_meth0 (pv 0) cl mK GK hr1 bK .nil pass0) (pa_cons (pe_meth0 (pv 0) cl mR GR hr1 bR .nil pass0) (pa_cons (pe_meth0 (pv 0) cl mW GW hr1 bW .nil pass0) pa_nil))))))), ?_⟩
    refine ⟨_, rfl, D0.x, C, D0.dx, _, _, rfl, t.ob, cl, T.f1, t_snap, _, rfl, ?_⟩
    refine ⟨_, rfl, D0.x, D0.dx, _, rfl, t.ob, t_no (by decide +kernel), D0, sm, m, ks, L, op, rfl, t, tf, fun ga H1 s1 _ hg => ?_⟩
    have t1 := t.same s1
    refine ⟨_, rfl, D0.x, D0.dx, _, rfl, t1.ob, t_no (by decide +kernel), D0, sm, m, ks, L, op, rfl, t1, tf, fun ra H2 L' s2 _ hR as pm => ?_⟩
    have t2 := t1.same s2
    refine ⟨_, rfl, D0.x, D0.dx, _, rfl, t2.ob, t_no (by decide +kernel), D0, sm, m, ks, L, op, rfl, t2, tf, fun wa H3 W s3 _ hw hW eW => ?_⟩
    have t3 := t2.same s3
    intro x dx hx hdx ne
    have s4 : Same H3 (upd (upd H3 dx (.own x)) x (.ins CD dx [])) := fun b o e => by rw [upd_ne (ne_of_none e hx), upd_ne (ne_of_none e hdx)]; exact e
    have t4 := t3.same s4
    have s14 : Same H1 (upd (upd H3 dx (.own x)) x (.ins CD dx [])) := (s2.trans s3).trans s4
    have da := dargs_of (H := upd (upd H3 dx (.own x)) x (.ins CD dx [])) (num := num) tf (fun p hp => t4.rL p (pm.mem_iff.mp hp)) pm as (s14 _ _ hg) ((s3.trans s4) _ _ hR) (s4 _ _ hw) (fun z hz => (hW z hz).same s4) eW hn
    refine ⟨x, dx, D0.n, num, ga, ra, wa, sk ks, L', W, rfl, upd_same, da, fun H5 k5 h5 => ⟨rfl, ?_⟩⟩
    have s5 : Same H3 H5 := fun b o e => k5 b o (s4 b o e) (ne_of_none e hx)
    have s15 : Same H H5 := ((s1.trans s2).trans s3).trans s5
    exact q x dx ga ra wa L' W H5 s15 h5 (dargs_of tf (fun p hp => (t3.same s5).rL p (pm.mem_iff.mp hp)) pm as ((s2.trans s3).trans s5 _ _ hg) ((s3.trans s5) _ _ hR) (s5 _ _ hw) (fun z hz => (hW z hz).same s5) eW hn) pm eW
end

/-! ### the hand that draws -/
structure HandAt (H : Hp) (h a : Addr) : Prop where
  ex : ∃ (i z s c : Int) (ns : List Int), H h = some (.lst [.ref a, .int i, .int z, .int s, .int c]) ∧ H a = some (.lst (ns.map V.int)) ∧ 0 ≤ i
theorem HandAt.kept {H H' : Hp} {h a : Addr} {S : List Addr} (x : HandAt H h a) (k : KeptB S H H') (n1 : h ∉ S) (n2 : a ∉ S) : HandAt H' h a := by
  obtain ⟨i, z, s, c, ns, h1, h2, h3⟩ := x.ex
  exact ⟨i, z, s, c, ns, k _ _ h1 n1, k _ _ h2 n2, h3⟩
theorem HandAt.same {H H' : Hp} {h a : Addr} (x : HandAt H h a) (k : Same H H') : HandAt H' h a := x.kept (S := []) (KeptB.of k) (by simp) (by simp)
theorem HandAt.ne {H : Hp} {h a : Addr} (x : HandAt H h a) : a ≠ h := fun e => by
  obtain ⟨i, z, s, c, ns, h1, h2, h3⟩ := x.ex
  rw [e, h1] at h2
  have e2 := HO.lst.inj (Option.some.inj h2)
  cases ns with
  | nil => cases e2
  | cons n ns => rw [List.map_cons] at e2; cases (List.cons.inj e2).1
section
variable {P : Program} {w : World} {K : PySem.W.Frag} {mg : Str → Option Value} {base : Heap}
def spHand (K : PySem.W.Frag) : Sp := fun vs H Q _ => ∃ (l : Addr) (ns : List Int), vs = [.ref l] ∧ SqL K H l (ns.map V.int) ∧ ns.length ≤ 1000 ∧ ∀ h a H', Same H H' → HandAt H' h a → Q (.ref h) H'
theorem cut_ints (ns : List Int) (lo hi : Option Int) : ∃ ms : List Int, cutV (ns.map V.int) lo hi = ms.map V.int ∧ ms.length ≤ ns.length := by
  refine ⟨(ns.drop (HT.sIx (ns.map V.int).length 0 lo)).take (HT.sIx (ns.map V.int).length (ns.map V.int).length hi - HT.sIx (ns.map V.int).length 0 lo), ?_, ?_⟩
  · unfold cutV
    rw [List.map_take, List.map_drop]
  · rw [List.length_take, List.length_drop]; omega
theorem ok_l_hand {f : Addr} {fd : FuncData} (F : Fun K "_law_hand" "_law_hand" st_l_hand f fd) (B : Bt mg) : FnOk P w K mg base CX0 1 f fd ["_law_script"] (spHand K) := by
  refine F.ok sc_l_hand (fun vs H Q E h => ?_) (fun cdv A outer s H vs Q E hr h => ?_)
  · obtain ⟨l, ns, rfl, _⟩ := h; rfl
  · obtain ⟨l, ns, rfl, hl, hn, q⟩ := h
    refine ⟨_, pss_cons (ps_setLc (i := 1) (own := [("_law_cell", 2)]) (g := gName 2) (tt := tYes) rfl sc_l_hand.nd rfl rfl (sw_true rfl rfl rfl (by decide +kernel)) (pi_list (pe_slice sl_list (pv 0) po_none (po_some pe_int)))
        (blkOk_by (N := ["_law_script", "_law_cells", "_law_cell"]) (sc := defScope st_l_hand) (by decide +kernel)) (fun _ _ _ _ _ => pg_name (i := 2) sc_l_hand.nd rfl (Or.inl rfl)) (fun _ _ _ _ _ => pts_nil)
        (fun _ _ _ _ _ => pe_callB call_abs (by rfl) B.b_abs (by decide +kernel) (pa_cons (pe_callTy call_int1 (by rfl) B.b_int (by decide +kernel) (pa_cons (pv 2) pa_nil)) pa_nil)))
      (pss_one (ps_ret (pe_lst (pa_cons (pv 1) (pa_cons pe_int (pa_cons pe_int (pa_cons (pe_op op_add pe_int (pe_callB call_len_seq (by rfl) B.b_len boot_len (pa_cons (pv 1) pa_nil))) (pa_cons pe_int pa_nil)))))))), ?_⟩
    refine ⟨_, rfl, 63, rfl, l, _, rfl, hl, fun p hp => ?_⟩
    obtain ⟨ms, em, lm⟩ := cut_ints ns none (some 63)
    rw [em]
    have s1 : Same H (upd H p (.lst (ms.map V.int))) := same_new hp
    refine ⟨p, rfl, ⟨_, SqL.of upd_same⟩, fun D hD => lc_it (walk_list (xs := ms.map V.int)) (fun i H2 => Same (upd H p (.lst (ms.map V.int))) H2 ∧ ∃ zs : List Int, zs.length = i ∧ H2 D = some (.lst (zs.map V.int))) ⟨same_new hD, [], rfl, upd_same⟩ (fun i H2 _ z => SqL.of (z.1 _ _ upd_same)) ?_ ?_⟩
    · rintro i x H2 H2' hi ⟨s2, zs, ez, d2⟩ ⟨rfl, hx⟩
      rw [List.getElem?_map] at hx
      obtain ⟨n, hn2, rfl⟩ := Option.map_eq_some_iff.mp hx
      rw [List.length_map] at hi
      refine ⟨rfl, ?_⟩
      refine ⟨_, rfl, .inl ⟨n, rfl, n, rfl, _, d2, by rw [List.length_map]; exact small1000 (by omega), same_upd s2 hD, zs ++ [if n < 0 then -n else n], by rw [List.length_append, ez]; rfl, ?_⟩⟩
      rw [upd_same, List.map_append]; rfl
    · rintro H2 ⟨s2, zs, ez, d2⟩
      refine ⟨_, rfl, _, rfl, D, _, rfl, .inl (SqL.of d2), 1, _, rfl, rfl, ?_⟩
      refine ⟨(by show 5 ≤ sizeLine; decide), fun h hh => ?_⟩
      have s3 := s1.trans s2
      have nD : D ≠ h := ne_of_none d2 hh
      refine q h D _ (same_upd s3 (s3.free hh)) ⟨0, 0, _, 0, zs, upd_same, by rw [upd_ne nD]; exact d2, Int.le_refl 0⟩
end
end W30


/-! S28: _law_draw, _law_any, _law_key, _law_worth, _law_snapshot, _law_account. -/
namespace W30
open PySem PySem.Spec PyProof.Rows L2
section
variable {P : Program} {w : World} {K : PySem.W.Frag} {mg : Str → Option Value} {base : Heap}
def spDraw : Sp := fun vs H Q _ => ∃ (h a : Addr) (many : Int), vs = [.ref h, .int many] ∧ HandAt H h a ∧ 0 < many ∧ many < 1073741824 ∧ ∀ d H', 0 ≤ d → d < many → HandAt H' h a → KeptB [h] H H' → Q (.int d) H'
theorem modB (x : Int) : -(2 ^ 64) < x % 2147483647 ∧ x % 2147483647 < 2 ^ 64 := by
  have h1 := Int.emod_nonneg x (show (2147483647 : Int) ≠ 0 by decide)
  have h2 := Int.emod_lt_of_pos x (show (0 : Int) < 2147483647 by decide)
  constructor <;> omega
theorem hand_set {H : Hp} {h a : Addr} {i z s c : Int} {ns : List Int} (n : a ≠ h) (ha : H a = some (.lst (ns.map V.int))) (hi : 0 ≤ i) : HandAt (upd H h (.lst [.ref a, .int i, .int z, .int s, .int c])) h a :=
  ⟨i, z, s, c, ns, upd_same, by rw [upd_ne n]; exact ha, hi⟩
theorem ok_l_draw {f : Addr} {fd : FuncData} (F : Fun K "_law_draw" "_law_draw" st_l_draw f fd) (B : Bt mg) : FnOk P w K mg base CX0 1 f fd ["_law_hand_here", "_law_many"] spDraw := by
  refine F.ok sc_l_draw (fun vs H Q E h => ?_) (fun cdv A outer s H vs Q E hr h => ?_)
  · obtain ⟨h, a, many, rfl, _⟩ := h; rfl
  · obtain ⟨h, a, many, rfl, hx, m0, m1, q⟩ := h
    have na := hx.ne
    obtain ⟨u, pu, qu⟩ : ∃ u, PSs (cxOf CX0 P w K mg base ["_law_hand_here", "_law_many", "_law_cell", "_law_digit", "_law_number"] "_law_draw" (defScope st_l_draw) f cdv A outer s H E).nox ((defBody st_l_draw).drop 1) u ∧
        ∀ (v : Option V) (H2 : Hp) (i z s c : Int) (ns : List Int), H2 h = some (.lst [.ref a, .int i, .int z, .int s, .int c]) → H2 a = some (.lst (ns.map V.int)) → 0 ≤ i → KeptB [h] H H2 → u { nx := fun _ H' => Q .non H', rt := Q } [some (.ref h), some (.int many), v, none, none] H2 := by
      refine ⟨_, pss_cons (ps_if (pt_cmpR op_gt (pe_ix ix_list (pv 0) pe_int (fun _ _ => rfl)) pe_int (nomark _))
          (pss_cons (ps_set (i := 3) sc_l_draw.nd rfl (Or.inl rfl) (pe_op op_mod (pe_callTy call_int1 (by rfl) B.b_int (by decide +kernel) (pa_cons (pe_ix ix_list (pv 0) pe_int (fun _ _ => rfl)) pa_nil)) (pv 1)))
          (pss_cons (ps_asg (pe_op op_fdiv (pe_ix ix_list (pv 0) pe_int (fun _ _ => rfl)) (pv 1)) (pg_sub (pv 0) pe_int set_list)) (pss_one (ps_ret (pv 3))))) pss_nil)
        (pss_cons (ps_asg (pe_op op_add (pe_ix ix_list (pv 0) pe_int (fun _ _ => rfl)) pe_int) (pg_sub (pv 0) pe_int set_list))
        (pss_cons (ps_set (i := 4) sc_l_draw.nd rfl (Or.inl rfl) (pe_op op_mod (pe_callTy call_int1 (by rfl) B.b_int (by decide +kernel) (pa_cons (pe_op op_mul (pe_callTy call_int1 (by rfl) B.b_int (by decide +kernel) (pa_cons (pe_op op_add (pe_ix ix_list (pv 0) pe_int (fun _ _ => rfl)) (pe_op op_mul pe_int (pe_ix ix_list (pv 0) pe_int (fun _ _ => rfl)))) pa_nil)) pe_int) pa_nil)) pe_int))
        (pss_cons (ps_set (i := 4) sc_l_draw.nd rfl (Or.inl rfl) (pe_op op_mod (pe_callTy call_int1 (by rfl) B.b_int (by decide +kernel) (pa_cons (pe_op op_mul (pv 4) (pe_op op_add (pe_op op_fdiv (pv 4) pe_int) pe_int)) pa_nil)) pe_int))
        (pss_cons (ps_set (i := 4) sc_l_draw.nd rfl (Or.inl rfl) (pe_op op_mod (pe_callTy call_int1 (by rfl) B.b_int (by decide +kernel) (pa_cons (pe_op op_mul (pv 4) (pe_op op_add (pe_op op_fdiv (pv 4) pe_int) pe_int)) pa_nil)) pe_int))
        (pss_one (ps_ret (pe_op op_mod (pe_callTy call_int1 (by rfl) B.b_int (by decide +kernel) (pa_cons (pe_op op_fdiv (pv 4) pe_int) pa_nil)) (pv 1)))))))), fun v H2 i z s c ns hh ha hi kk => ?_⟩
      refine ⟨_, rfl, h, _, (2 : Nat), _, rfl, rfl, SqL.of hh, atI_nat rfl, _, _, rfl, rfl, _, rfl, ?_⟩
      refine ite2 (fun _ => ?_) (fun _ => ?_)
      · refine ⟨_, rfl, h, _, (2 : Nat), _, rfl, rfl, SqL.of hh, atI_nat rfl, .inl ⟨z, rfl, _, rfl, z, many, rfl, rfl, m0, ?_⟩⟩
        refine ⟨_, rfl, h, _, (2 : Nat), _, rfl, rfl, SqL.of hh, atI_nat rfl, _, rfl, z, many, rfl, rfl, ⟨m0, m1⟩, ?_⟩
        refine ⟨_, rfl, h, _, (2 : Nat), 2, rfl, rfl, hh, rfl, ?_⟩
        refine ⟨_, rfl, ?_⟩
        exact q _ _ (Int.emod_nonneg z (by omega)) (Int.emod_lt_of_pos z m0) (hand_set na ha hi) (kk.trans KeptB.one)
      · refine ⟨_, rfl, h, _, (4 : Nat), _, rfl, rfl, SqL.of hh, atI_nat rfl, c, 1, rfl, rfl, ?_⟩
        refine ⟨_, rfl, h, _, (4 : Nat), 4, rfl, rfl, hh, rfl, ?_⟩
        have hh2 : (upd H2 h (.lst [.ref a, .int i, .int z, .int s, .int (c + 1)])) h = some (.lst [.ref a, .int i, .int z, .int s, .int (c + 1)]) := upd_same
        refine ⟨_, rfl, h, _, (3 : Nat), _, rfl, rfl, SqL.of hh2, atI_nat rfl, _, rfl, h, _, (4 : Nat), _, rfl, rfl, SqL.of hh2, atI_nat rfl, 7919, c + 1, rfl, rfl, .inl ⟨by decide, by decide⟩, s, _, rfl, rfl, .inl ⟨_, rfl, ?_⟩⟩
        refine ⟨_, _, rfl, rfl, .inr ⟨by decide, by decide⟩, .inl ⟨_, rfl, _, _, rfl, rfl, (by show (0 : Int) < 2147483647; decide), ?_⟩⟩
        refine ⟨_, rfl, _, rfl, _, 1009, rfl, rfl, ⟨by decide, by decide⟩, _, 69621, rfl, rfl, _, _, rfl, rfl, .inl (modB _), .inl ⟨_, rfl, _, _, rfl, rfl, (by show (0 : Int) < 2147483647; decide), ?_⟩⟩
        refine ⟨_, rfl, _, rfl, _, 2003, rfl, rfl, ⟨by decide, by decide⟩, _, 40692, rfl, rfl, _, _, rfl, rfl, .inl (modB _), .inl ⟨_, rfl, _, _, rfl, rfl, (by show (0 : Int) < 2147483399; decide), ?_⟩⟩
        refine ⟨_, rfl, _, 16, rfl, rfl, ⟨by decide, by decide⟩, .inl ⟨_, rfl, _, rfl, _, many, rfl, rfl, m0, ?_⟩⟩
        exact q _ _ (Int.emod_nonneg _ (by omega)) (Int.emod_lt_of_pos _ m0) (hand_set na ha hi) (kk.trans KeptB.one)
    obtain ⟨i, z, s0, c, ns, hh, ha, hi⟩ := hx.ex
    refine ⟨_, pss_cons (ps_if (PW.pt (pw_and (pt_cmpR op_eq (pe_ix ix_list (pv 0) pe_int (fun _ _ => rfl)) pe_int (nomark _)) (pw_and1 (pt_cmpR op_lt (pe_ix ix_list (pv 0) pe_int (fun _ _ => rfl)) (pe_callB call_len_seq (by rfl) B.b_len boot_len (pa_cons (pe_ix ix_list (pv 0) pe_int (fun _ _ => rfl)) pa_nil)) (nomark _)))))
        (pss_cons (ps_set (i := 2) sc_l_draw.nd rfl (Or.inl rfl) (pe_ix ix_list (pe_ix ix_list (pv 0) pe_int (fun _ _ => rfl)) (pe_ix ix_list (pv 0) pe_int (fun _ _ => rfl)) (fun _ _ => rfl)))
        (pss_cons (ps_asg (pe_op op_add (pe_ix ix_list (pv 0) pe_int (fun _ _ => rfl)) pe_int) (pg_sub (pv 0) pe_int set_list))
        (pss_cons (ps_asg (pe_op op_mod (pe_callTy call_int1 (by rfl) B.b_int (by decide +kernel) (pa_cons (pe_op op_add (pe_op op_add (pe_op op_mul (pe_ix ix_list (pv 0) pe_int (fun _ _ => rfl)) pe_int) (pv 2)) pe_int) pa_nil)) pe_int) (pg_sub (pv 0) pe_int set_list))
        (pss_one (ps_if (pt_cmpR op_ge (pv 2) (pe_op op_pow pe_int pe_int) (nomark _)) (pss_one (ps_asg (pv 2) (pg_sub (pv 0) pe_int set_list))) pss_nil))))) pss_nil) pu, ?_⟩
    refine ⟨_, rfl, h, _, (2 : Nat), _, rfl, rfl, SqL.of hh, atI_nat rfl, rfl, _, rfl, ?_⟩
    have k0 : KeptB [h] H H := KeptB.of (Same.refl H)
    refine ite2 (fun _ => ?_) (fun _ => ?_)
    · refine ⟨_, rfl, h, _, (1 : Nat), _, rfl, rfl, SqL.of hh, atI_nat rfl, _, rfl, h, _, (0 : Nat), _, rfl, rfl, SqL.of hh, atI_nat rfl, a, _, rfl, .inl (SqL.of ha), i, _, rfl, rfl, _, rfl, ?_⟩
      refine ite2 (fun hlt => ?_) (fun _ => ?_)
      · have hlt := of_decide_eq_true hlt
        rw [List.length_map] at hlt
        have hin : i.toNat < ns.length := by omega
        have ei : ((i.toNat : Nat) : Int) = i := Int.toNat_of_nonneg hi
        have hcell : (ns.map V.int)[i.toNat]? = some (.int ns[i.toNat]) := by rw [List.getElem?_map, List.getElem?_eq_getElem hin]; rfl
        generalize ns[i.toNat] = cell at hcell
        refine ⟨_, rfl, h, _, (0 : Nat), _, rfl, rfl, SqL.of hh, atI_nat rfl, _, rfl, h, _, (1 : Nat), _, rfl, rfl, SqL.of hh, atI_nat rfl, a, _, i, _, rfl, rfl, SqL.of ha, (by rw [← ei]; exact atI_nat hcell), ?_⟩
        refine ⟨_, rfl, h, _, (1 : Nat), _, rfl, rfl, SqL.of hh, atI_nat rfl, i, 1, rfl, rfl, ?_⟩
        refine ⟨_, rfl, h, _, (1 : Nat), 1, rfl, rfl, hh, rfl, ?_⟩
        have hh2 : (upd H h (.lst [.ref a, .int (i + 1), .int z, .int s0, .int c])) h = some (.lst [.ref a, .int (i + 1), .int z, .int s0, .int c]) := upd_same
        refine ⟨_, rfl, h, _, (3 : Nat), _, rfl, rfl, SqL.of hh2, atI_nat rfl, s0, 69621, rfl, rfl, .inr ⟨by decide, by decide⟩, _, rfl, _, cell, rfl, rfl, _, 11, rfl, rfl, .inl ⟨_, rfl, _, _, rfl, rfl, (by show (0 : Int) < 2147483629; decide), ?_⟩⟩
        refine ⟨_, rfl, h, _, (3 : Nat), 3, rfl, rfl, hh2, rfl, ?_⟩
        have hh3 : (upd (upd H h (.lst [.ref a, .int (i + 1), .int z, .int s0, .int c])) h (.lst [.ref a, .int (i + 1), .int z, .int ((s0 * 69621 + cell + 11) % 2147483629), .int c])) h = some (.lst [.ref a, .int (i + 1), .int z, .int ((s0 * 69621 + cell + 11) % 2147483629), .int c]) := upd_same
        have ha3 : (upd (upd H h (.lst [.ref a, .int (i + 1), .int z, .int s0, .int c])) h (.lst [.ref a, .int (i + 1), .int z, .int ((s0 * 69621 + cell + 11) % 2147483629), .int c])) a = some (.lst (ns.map V.int)) := by rw [upd_ne na, upd_ne na]; exact ha
        have k3 := (k0.trans (KeptB.one (H := H) (p := h) (o := .lst [.ref a, .int (i + 1), .int z, .int s0, .int c]))).trans (KeptB.one (p := h) (o := .lst [.ref a, .int (i + 1), .int z, .int ((s0 * 69621 + cell + 11) % 2147483629), .int c]))
        refine ⟨_, rfl, 10, 18, rfl, rfl, ⟨by decide, by decide, by decide⟩, cell, _, rfl, rfl, _, rfl, ?_⟩
        refine ite2 (fun _ => ?_) (fun _ => ?_)
        · refine ⟨_, rfl, _, rfl, h, _, (2 : Nat), 2, rfl, rfl, hh3, rfl, ?_⟩
          exact qu _ _ (i + 1) cell ((s0 * 69621 + cell + 11) % 2147483629) c ns upd_same (by rw [upd_ne na]; exact ha3) (by omega) (k3.trans KeptB.one)
        · exact qu _ _ (i + 1) z ((s0 * 69621 + cell + 11) % 2147483629) c ns hh3 ha3 (by omega) k3
      · exact qu _ H i z s0 c ns hh ha hi k0
    · exact qu _ H i z s0 c ns hh ha hi k0
end
end W30


/-! S29: _law_any, _law_key, _law_worth, _law_snapshot, _law_account. -/
namespace W30
open PySem PySem.Spec PyProof.Rows L2
def goodB (k : Str) : Bool := decide (1 ≤ k.length) && decide (k.length ≤ 12) && k.cps.toList.all fun c => decide (97 ≤ c) && decide (c ≤ 122)
theorem goodB_of {k : Str} (h : goodB k = true) : GoodK k := by
  unfold goodB at h
  simp only [Bool.and_eq_true, decide_eq_true_eq, List.all_eq_true] at h
  exact ⟨h.1.1, h.1.2, h.2⟩
def keyList : List Str := ["a", "b", "ba", "c", "d", "m", "zz", "abcdefghijkl", "az", "aa"]
theorem keyList_good : ∀ k ∈ keyList, GoodK k := by
  have h : ∀ k ∈ keyList, goodB k = true := by decide +kernel
  exact fun k hk => goodB_of (h k hk)
section
variable {P : Program} {w : World} {K : PySem.W.Frag} {mg : Str → Option Value} {base : Heap}
def spAny : Sp := fun vs H Q _ => ∃ (h a l : Addr) (xs : List V), vs = [.ref h, .ref l] ∧ HandAt H h a ∧ H l = some (.lst xs) ∧ l ≠ h ∧ 0 < xs.length ∧ xs.length ≤ 1000 ∧ ∀ x H', x ∈ xs → HandAt H' h a → KeptB [h] H H' → Q x H'
theorem ok_l_any {f fD : Addr} {fd fdD : FuncData} (F : Fun K "_law_any" "_law_any" st_l_any f fd) (B : Bt mg) (GD : FnOk P w K mg base CX0 1 fD fdD ["_law_hand_here", "_law_many"] spDraw) (mD : mg "_law_draw" = some (.ref fD)) (kD : PySem.W.keepIn K (.ref fD) = true) (bD : Binds K fdD ["_law_hand_here", "_law_many"] []) :
    FnOk P w K mg base CX0 2 f fd ["_law_hand_here", "_law_some"] spAny := by
  refine F.ok sc_l_any (fun vs H Q E h => ?_) (fun cdv A outer s H vs Q E hr h => ?_)
  · obtain ⟨h, a, l, xs, rfl, _⟩ := h; rfl
  · obtain ⟨h, a, l, xs, rfl, hx, hl, nl, x0, x1, q⟩ := h
    refine ⟨_, pss_one (ps_ret (pe_ix ix_list (pv 1) (pe_call GD hr rfl mD kD bD .nil pass0 (pa_cons (pv 0) (pa_cons (pe_callB call_len_seq (by rfl) B.b_len boot_len (pa_cons (pv 1) pa_nil)) pa_nil))) (fun _ _ => rfl))), ?_⟩
    refine ⟨_, rfl, _, rfl, _, rfl, l, xs, rfl, .inl (SqL.of hl), h, a, _, rfl, hx, by omega, by omega, fun d H' d0 d1 hx' kk => ?_⟩
    have hl' : H' l = some (.lst xs) := kk _ _ hl fun z => nl (List.mem_singleton.mp z)
    have hd : d.toNat < xs.length := by omega
    have ed : ((d.toNat : Nat) : Int) = d := Int.toNat_of_nonneg d0
    refine ⟨l, xs, d, xs[d.toNat], rfl, rfl, SqL.of hl', ?_, q _ _ (List.getElem_mem hd) hx' kk⟩
    have z := atI_nat (List.getElem?_eq_getElem hd)
    rwa [ed] at z
def spLKey : Sp := fun vs H Q _ => ∃ (h a : Addr), vs = [.ref h] ∧ HandAt H h a ∧ ∀ k H', GoodK k → HandAt H' h a → KeptB [h] H H' → Q (.str k) H'
theorem hand_ne {H : Hp} {h a l : Addr} (x : HandAt H h a) (hl : H l = none) : l ≠ h ∧ l ≠ a := by
  obtain ⟨i, z, s, c, ns, h1, h2, _⟩ := x.ex
  exact ⟨(ne_of_none h1 hl).symm, (ne_of_none h2 hl).symm⟩
theorem ok_l_key {f fA : Addr} {fd fdA : FuncData} (F : Fun K "_law_key" "_law_key" st_l_key f fd) (GA : FnOk P w K mg base CX0 2 fA fdA ["_law_hand_here", "_law_some"] spAny) (mA : mg "_law_any" = some (.ref fA)) (kA : PySem.W.keepIn K (.ref fA) = true) (bA : Binds K fdA ["_law_hand_here", "_law_some"] []) :
    FnOk P w K mg base CX0 3 f fd ["_law_hand_here"] spLKey := by
  refine F.ok sc_l_key (fun vs H Q E h => ?_) (fun cdv A outer s H vs Q E hr h => ?_)
  · obtain ⟨h, a, rfl, _⟩ := h; rfl
  · obtain ⟨h, a, rfl, hx, q⟩ := h
    refine ⟨_, pss_one (ps_ret (pe_call GA hr rfl mA kA bA .nil pass0 (pa_cons (pv 0) (pa_cons (pe_lst (pa_cons pe_str (pa_cons pe_str (pa_cons pe_str (pa_cons pe_str (pa_cons pe_str (pa_cons pe_str (pa_cons pe_str (pa_cons pe_str (pa_cons pe_str (pa_cons pe_str pa_nil))))))))))) pa_nil)))), ?_⟩
    refine ⟨_, rfl, (by show 10 ≤ sizeLine; decide), fun l hl => ?_⟩
    have nl := hand_ne hx hl
    refine ⟨h, a, l, keyList.map V.str, rfl, hx.same (same_new hl), upd_same, nl.1, by decide, by decide, fun x H' hm hx' kk => ?_⟩
    obtain ⟨k, hk, rfl⟩ := List.mem_map.mp hm
    exact q k H' (keyList_good k hk) hx' (KeptB.then (same_new hl) kk)
def spLWorth : Sp := fun vs H Q _ => ∃ (h a : Addr), vs = [.ref h] ∧ HandAt H h a ∧ ∀ (v : Int) H', -10 ^ 18 ≤ v → v ≤ 10 ^ 18 → HandAt H' h a → KeptB [h] H H' → Q (.int v) H'
theorem ok_l_worth {f fA fD : Addr} {fd fdA fdD : FuncData} (F : Fun K "_law_worth" "_law_worth" st_l_worth f fd) (GA : FnOk P w K mg base CX0 2 fA fdA ["_law_hand_here", "_law_some"] spAny) (mA : mg "_law_any" = some (.ref fA)) (kA : PySem.W.keepIn K (.ref fA) = true) (bA : Binds K fdA ["_law_hand_here", "_law_some"] [])
    (GD : FnOk P w K mg base CX0 1 fD fdD ["_law_hand_here", "_law_many"] spDraw) (mD : mg "_law_draw" = some (.ref fD)) (kD : PySem.W.keepIn K (.ref fD) = true) (bD : Binds K fdD ["_law_hand_here", "_law_many"] []) :
    FnOk P w K mg base CX0 3 f fd ["_law_hand_here"] spLWorth := by
  refine F.ok sc_l_worth (fun vs H Q E h => ?_) (fun cdv A outer s H vs Q E hr h => ?_)
  · obtain ⟨h, a, rfl, _⟩ := h; rfl
  · obtain ⟨h, a, rfl, hx, q⟩ := h
    refine ⟨_, pss_one (ps_ret (pe_call GA hr rfl mA kA bA .nil pass0 (pa_cons (pv 0) (pa_cons (pe_lst (pa_cons pe_int (pa_cons pe_int (pa_cons (pe_un un_neg pe_int) (pa_cons pe_int (pa_cons (pe_op op_pow pe_int pe_int) (pa_cons (pe_un un_neg (pe_op op_pow pe_int pe_int))
      (pa_cons (pe_call GD (hr.mono (by decide)) rfl mD kD bD .nil pass0 (pa_cons (pv 0) (pa_cons pe_int pa_nil))) pa_nil)))))))) pa_nil)))), ?_⟩
    refine ⟨_, rfl, 1, rfl, 10, 18, rfl, rfl, ⟨by decide, by decide, by decide⟩, 10, 18, rfl, rfl, ⟨by decide, by decide, by decide⟩, _, rfl, _, rfl, h, a, 1000, rfl, hx, by decide, by decide, fun d H1 d0 d1 hx1 k1 => ?_⟩
    refine ⟨(by show 7 ≤ sizeLine; decide), fun l hl => ?_⟩
    have nl := hand_ne hx1 hl
    refine ⟨h, a, l, _, rfl, hx1.same (same_new hl), upd_same, nl.1, Nat.zero_lt_succ _, (by show 7 ≤ 1000; decide), fun x H' hm hx' kk => ?_⟩
    have kk' : KeptB [h] H H' := k1.trans (KeptB.then (same_new hl) kk)
    rcases List.mem_cons.mp hm with e | hm
    · rw [e]; exact q 0 H' (by decide) (by decide) hx' kk'
    rcases List.mem_cons.mp hm with e | hm
    · rw [e]; exact q 1 H' (by decide) (by decide) hx' kk'
    rcases List.mem_cons.mp hm with e | hm
    · rw [e]; exact q (-1) H' (by decide) (by decide) hx' kk'
    rcases List.mem_cons.mp hm with e | hm
    · rw [e]; exact q 5 H' (by decide) (by decide) hx' kk'
    rcases List.mem_cons.mp hm with e | hm
    · rw [e]; exact q (10 ^ 18) H' (by decide) (by decide) hx' kk'
    rcases List.mem_cons.mp hm with e | hm
    · rw [e]; exact q (-10 ^ 18) H' (by decide) (by decide) hx' kk'
    · rw [List.mem_singleton.mp hm]; exact q d H' (by omega) (by omega) hx' kk'
def spSnap : Sp := fun vs H Q _ => ∃ (h a : Addr), vs = [.ref h] ∧ HandAt H h a ∧ ∀ (t d : Addr) (n : Int) (sm : List WT) (H' : Hp), HandAt H' h a → KeptB [h] H H' → H' t = some (.tup [.int n, .ref d]) → 0 ≤ n → H' d = some (.dK (dk sm)) → (keysM sm).Nodup → sm.length ≤ 40 → H d = none → Q (.ref t) H'
theorem ok_l_snapshot {f fA fD fK fW : Addr} {fd fdA fdD fdK fdW : FuncData} (F : Fun K "_law_snapshot" "_law_snapshot" st_l_snapshot f fd) (B : Bt mg) (GA : FnOk P w K mg base CX0 2 fA fdA ["_law_hand_here", "_law_some"] spAny) (mA : mg "_law_any" = some (.ref fA)) (kA : PySem.W.keepIn K (.ref fA) = true) (bA : Binds K fdA ["_law_hand_here", "_law_some"] [])
    (GD : FnOk P w K mg base CX0 1 fD fdD ["_law_hand_here", "_law_many"] spDraw) (mD : mg "_law_draw" = some (.ref fD)) (kD : PySem.W.keepIn K (.ref fD) = true) (bD : Binds K fdD ["_law_hand_here", "_law_many"] [])
    (GK : FnOk P w K mg base CX0 3 fK fdK ["_law_hand_here"] spLKey) (mK : mg "_law_key" = some (.ref fK)) (kK : PySem.W.keepIn K (.ref fK) = true) (bK : Binds K fdK ["_law_hand_here"] [])
    (GW : FnOk P w K mg base CX0 3 fW fdW ["_law_hand_here"] spLWorth) (mW : mg "_law_worth" = some (.ref fW)) (kW : PySem.W.keepIn K (.ref fW) = true) (bW : Binds K fdW ["_law_hand_here"] []) :
    FnOk P w K mg base CX0 4 f fd ["_law_hand_here"] spSnap := by
  refine F.ok sc_l_snapshot (fun vs H Q E h => ?_) (fun cdv A outer s H vs Q E hr h => ?_)
  · obtain ⟨h, a, rfl, _⟩ := h; rfl
  · obtain ⟨h, a, rfl, hx, q⟩ := h
    have hu := lt_units hr.units
    refine ⟨_, pss_cons (ps_set (i := 1) sc_l_snapshot.nd rfl (Or.inl rfl) pe_dnewK)
      (pss_cons (ps_for PassesOwn.never rfl (pi_range1 (by rfl) B.b_range (pa_cons (pe_call GD (hr.mono (by decide)) rfl mD kD bD .nil pass0 (pa_cons (pv 0) (pa_cons pe_int pa_nil))) pa_nil)) (pg_name (i := 2) sc_l_snapshot.nd rfl (Or.inl rfl))
        (pss_one (ps_dput hu (pv 1) (pe_call GK hr rfl mK kK bK .nil pass0 (pa_cons (pv 0) pa_nil)) (pe_call GW hr rfl mW kW bW .nil pass0 (pa_cons (pv 0) pa_nil)) rfl)))
      (pss_one (ps_ret (pe_tup (pa_cons (pe_call GA (hr.mono (by decide)) rfl mA kA bA .nil pass0 (pa_cons (pv 0) (pa_cons (pe_lst (pa_cons pe_int (pa_cons pe_int (pa_cons pe_int (pa_cons (pe_op op_pow pe_int pe_int) pa_nil))))) pa_nil))) (pa_cons (pv 1) pa_nil)))))), ?_⟩
    intro d hd
    have nd := hand_ne hx hd
    refine ⟨_, rfl, h, a, 9, rfl, hx.same (same_new hd), by decide, by decide, fun n H1 n0 n1 hx1 k1 => ?_⟩
    have hd1 : H1 d = some (.dK (dk [])) := k1 _ _ upd_same fun z => nd.1 (List.mem_singleton.mp z)
    have k01 : KeptB [h] H H1 := KeptB.then (same_new hd) k1
    refine ⟨n, rfl, by omega, by omega, for_range (n := n.toNat) (fun i σ H2 => ∃ (v : Option V) (sm : List WT), σ = [some (.ref h), some (.ref d), v] ∧ HandAt H2 h a ∧ KeptB [h] H H2 ∧ H2 d = some (.dK (dk sm)) ∧ (keysM sm).Nodup ∧ sm.length ≤ i) ⟨none, [], rfl, hx1, k01, hd1, List.nodup_nil, Nat.le_refl _⟩ ?_ ?_⟩
    · rintro i σ H2 hi ⟨v, sm, rfl, hx2, k2, hd2, nd2, l2⟩
      refine ⟨_, rfl, h, a, rfl, hx2, fun z H3 z0 z1 hx3 k3 => ?_⟩
      have hd3 : H3 d = some (.dK (dk sm)) := k3 _ _ hd2 fun z => nd.1 (List.mem_singleton.mp z)
      refine ⟨_, rfl, _, rfl, h, a, rfl, hx3, fun k H4 gk hx4 k4 => ?_⟩
      have hd4 : H4 d = some (.dK (dk sm)) := k4 _ _ hd3 fun z => nd.1 (List.mem_singleton.mp z)
      refine ⟨d, _, rfl, DPut.k (k := Sum.inr k) hd4 (by rw [dk_len]; exact small1000 (by omega)), ?_⟩
      have e : putK (dk sm) (Sum.inr k) (V.int z) = dk (putM sm k (some z)) := dk_put sm k (some z)
      rw [e]
      refine ⟨_, _, rfl, hx4.kept (S := [d]) KeptB.one (fun y => nd.1 (List.mem_singleton.mp y).symm) (fun y => nd.2 (List.mem_singleton.mp y).symm), fun b o e' nb => ?_, upd_same, putM_nodup nd2, by have := putM_len sm k (some z); omega⟩
      have nbd : b ≠ d := ne_of_none e' hd
      rw [upd_ne nbd]
      exact ((k2.trans k3).trans k4) b o e' nb
    · rintro σ H2 ⟨v, sm, rfl, hx2, k2, hd2, nd2, l2⟩
      refine ⟨_, rfl, 10, 18, rfl, rfl, ⟨by decide, by decide, by decide⟩, (by show 4 ≤ sizeLine; decide), fun l hl => ?_⟩
      have nl := hand_ne hx2 hl
      refine ⟨h, a, l, _, rfl, hx2.same (same_new hl), upd_same, nl.1, by decide, by decide, fun x H3 hm hx3 k3 => ?_⟩
      have k23 : KeptB [h] H2 H3 := KeptB.then (same_new hl) k3
      have hd3 : H3 d = some (.dK (dk sm)) := k23 _ _ hd2 fun z => nd.1 (List.mem_singleton.mp z)
      have ex : ∃ n : Int, x = .int n ∧ 0 ≤ n := by
        rcases List.mem_cons.mp hm with e | hm
        · exact ⟨0, e, by decide⟩
        rcases List.mem_cons.mp hm with e | hm
        · exact ⟨1, e, by decide⟩
        rcases List.mem_cons.mp hm with e | hm
        · exact ⟨7, e, by decide⟩
        · exact ⟨10 ^ 18, List.mem_singleton.mp hm, by decide⟩
      obtain ⟨m, rfl, m0⟩ := ex
      refine ⟨_, rfl, (by show 2 ≤ sizeLine; decide), fun t ht => ?_⟩
      exact q t d m sm _ (hx3.same (same_new ht)) ((k2.trans k23).trans (KeptB.of (same_new ht))) upd_same m0 ((same_new ht) _ _ hd3) nd2 (by omega) hd
end
end W30


/-! S30: the law's own account: _law_account, _law_got, _law_parts. -/
namespace W30
open PySem PySem.Spec PyProof.Rows L2
def accK (st wd gl rl : Addr) : List (Key × V) := mergeK [] [(Sum.inr "under", .ref st), (Sum.inr "writes", .ref wd), (Sum.inr "gets", .ref gl), (Sum.inr "ranges", .ref rl)]
section
variable {st wd gl rl : Addr}
theorem acc_fold : accK st wd gl rl = putK (putK (putK (putK [] (Sum.inr "under" : Key) (.ref st)) (Sum.inr "writes") (.ref wd)) (Sum.inr "gets") (.ref gl)) (Sum.inr "ranges") (.ref rl) := rfl
theorem a_ranges : valV (accK st wd gl rl) (Sum.inr "ranges" : Key) = some (.ref rl) := by rw [acc_fold, valV_put, if_pos rfl]
theorem a_gets : valV (accK st wd gl rl) (Sum.inr "gets" : Key) = some (.ref gl) := by rw [acc_fold, valV_put, if_neg (by decide +kernel), valV_put, if_pos rfl]
theorem a_writes : valV (accK st wd gl rl) (Sum.inr "writes" : Key) = some (.ref wd) := by rw [acc_fold, valV_put, if_neg (by decide +kernel), valV_put, if_neg (by decide +kernel), valV_put, if_pos rfl]
theorem a_under : valV (accK st wd gl rl) (Sum.inr "under" : Key) = some (.ref st) := by rw [acc_fold, valV_put, if_neg (by decide +kernel), valV_put, if_neg (by decide +kernel), valV_put, if_neg (by decide +kernel), valV_put, if_pos rfl]
end
/-- the places of an account -/
structure AccD where
  ac : Addr
  st : Addr
  wd : Addr
  gl : Addr
  rl : Addr
structure AccAt (A : AccD) (H : Hp) (sm m : List WT) (gs : List Str) (RL : List (Addr × RT)) : Prop where
  dc : H A.ac = some (.dK (accK A.st A.wd A.gl A.rl))
  wr : H A.wd = some (.dK (dk m))
  gt : H A.gl = some (.lst (gs.map V.str))
  rg : H A.rl = some (.lst (RL.map fun p => V.ref p.1))
  rL : ∀ p ∈ RL, TupX H p.1 p.2
  st : H A.st = some (.dK (dk sm))
structure AccF (A : AccD) : Prop where
  n1 : A.ac ≠ A.wd
  n2 : A.ac ≠ A.st
  n3 : A.wd ≠ A.st
  n4 : A.gl ≠ A.rl
section
variable {A : AccD} {H H' : Hp} {sm m m' : List WT} {gs gs' : List Str} {RL RL' : List (Addr × RT)}
theorem AccAt.same (x : AccAt A H sm m gs RL) (e : Same H H') : AccAt A H' sm m gs RL := ⟨e _ _ x.dc, e _ _ x.wr, e _ _ x.gt, e _ _ x.rg, fun p hp => (x.rL p hp).same e, e _ _ x.st⟩
/-- a thing far from it is changed -/
theorem AccAt.but {S : List Addr} (x : AccAt A H sm m gs RL) (k : KeptB S H H') (h1 : A.ac ∉ S) (h2 : A.wd ∉ S) (h3 : A.gl ∉ S) (h4 : A.rl ∉ S) (h5 : A.st ∉ S) (h6 : ∀ b ∈ S, ∀ o, H b = some o → hk o ≠ 1) : AccAt A H' sm m gs RL :=
  ⟨k _ _ x.dc h1, k _ _ x.wr h2, k _ _ x.gt h3, k _ _ x.rg h4, fun p hp => (x.rL p hp).but k h6, k _ _ x.st h5⟩
theorem AccAt.put (x : AccAt A H sm m gs RL) (f : AccF A) (k : KeptB [A.wd] H H') (h : H' A.wd = some (.dK (dk m'))) : AccAt A H' sm m' gs RL := by
  have one : ∀ {b : Addr}, b ∈ [A.wd] → b = A.wd := fun z => List.mem_singleton.mp z
  exact ⟨k _ _ x.dc fun z => f.n1 (one z), h, k _ _ x.gt fun z => ne_hk x.gt x.wr (show (0 : Nat) ≠ 2 by decide) (one z), k _ _ x.rg fun z => ne_hk x.rg x.wr (show (0 : Nat) ≠ 2 by decide) (one z), fun p hp => (x.rL p hp).but k fun b z o ho => by
    rw [one z, x.wr] at ho; rw [← Option.some.inj ho]; exact show (2 : Nat) ≠ 1 by decide, k _ _ x.st fun z => f.n3 (one z).symm⟩
theorem AccAt.got (x : AccAt A H sm m gs RL) (f : AccF A) (k : KeptB [A.gl] H H') (h : H' A.gl = some (.lst (gs'.map V.str))) : AccAt A H' sm m gs' RL := by
  have one : ∀ {b : Addr}, b ∈ [A.gl] → b = A.gl := fun z => List.mem_singleton.mp z
  exact ⟨k _ _ x.dc fun z => ne_hk x.dc x.gt (show (2 : Nat) ≠ 0 by decide) (one z), k _ _ x.wr fun z => ne_hk x.wr x.gt (show (2 : Nat) ≠ 0 by decide) (one z), h, k _ _ x.rg fun z => f.n4 (one z).symm, fun p hp => (x.rL p hp).but k fun b z o ho => by
    rw [one z, x.gt] at ho; rw [← Option.some.inj ho]; exact show (0 : Nat) ≠ 1 by decide, k _ _ x.st fun z => ne_hk x.st x.gt (show (2 : Nat) ≠ 0 by decide) (one z)⟩
theorem AccAt.saw (x : AccAt A H sm m gs RL) (f : AccF A) (k : KeptB [A.rl] H H') (h : H' A.rl = some (.lst (RL'.map fun p => V.ref p.1))) (hL : ∀ p ∈ RL', TupX H p.1 p.2) : AccAt A H' sm m gs RL' := by
  have one : ∀ {b : Addr}, b ∈ [A.rl] → b = A.rl := fun z => List.mem_singleton.mp z
  exact ⟨k _ _ x.dc fun z => ne_hk x.dc x.rg (show (2 : Nat) ≠ 0 by decide) (one z), k _ _ x.wr fun z => ne_hk x.wr x.rg (show (2 : Nat) ≠ 0 by decide) (one z), k _ _ x.gt fun z => f.n4 (one z), h, fun p hp => (hL p hp).but k fun b z o ho => by
    rw [one z, x.rg] at ho; rw [← Option.some.inj ho]; exact show (0 : Nat) ≠ 1 by decide, k _ _ x.st fun z => ne_hk x.st x.rg (show (2 : Nat) ≠ 0 by decide) (one z)⟩
end
section
variable {P : Program} {w : World} {K : PySem.W.Frag} {mg : Str → Option Value} {base : Heap}
def spAccount : Sp := fun vs H Q _ => ∃ (st : Addr) (sm : List WT), vs = [.ref st] ∧ H st = some (.dK (dk sm)) ∧ ∀ (A : AccD) (H' : Hp), A.st = st → Same H H' → AccAt A H' sm [] [] [] → AccF A → H A.ac = none → H A.wd = none → H A.gl = none → H A.rl = none → Q (.ref A.ac) H'
theorem ok_l_account {f : Addr} {fd : FuncData} (F : Fun K "_law_account" "_law_account" st_l_account f fd) : FnOk P w K mg base CX0 1 f fd ["_law_state"] spAccount := by
  refine F.ok sc_l_account (fun vs H Q E h => ?_) (fun cdv A outer s H vs Q E hr h => ?_)
  · obtain ⟨st, sm, rfl, _⟩ := h; rfl
  · obtain ⟨st, sm, rfl, hs, q⟩ := h
    refine ⟨_, pss_one (ps_ret (pe_disp (pps_cons pe_str (pv 0) (pps_cons pe_str pe_dnewK (pps_cons pe_str (pe_lst pa_nil) (pps_cons pe_str (pe_lst pa_nil) pps_nil)))) (by rfl) (by rfl) (fun z => by cases z) (by decide))), ?_⟩
    intro p hp
    have n1 : st ≠ p := ne_of_none hs hp
    refine ⟨_, rfl, fun wd hwd => ?_⟩
    have n2 : p ≠ wd := fun z => by rw [← z, upd_same] at hwd; cases hwd
    have fw : H wd = none := by rw [upd_ne n2.symm] at hwd; exact hwd
    refine ⟨Nat.zero_le _, fun gl hgl => ?_⟩
    have n3 : wd ≠ gl := fun z => by rw [← z, upd_same] at hgl; cases hgl
    have n4 : p ≠ gl := fun z => by rw [← z, upd_ne n2, upd_same] at hgl; cases hgl
    have fg : H gl = none := by rw [upd_ne n3.symm, upd_ne n4.symm] at hgl; exact hgl
    refine ⟨Nat.zero_le _, fun rl hrl => ?_⟩
    have n5 : gl ≠ rl := fun z => by rw [← z, upd_same] at hrl; cases hrl
    have n6 : wd ≠ rl := fun z => by rw [← z, upd_ne n3, upd_same] at hrl; cases hrl
    have n7 : p ≠ rl := fun z => by rw [← z, upd_ne n4, upd_ne n2, upd_same] at hrl; cases hrl
    have fr : H rl = none := by rw [upd_ne n5.symm, upd_ne n6.symm, upd_ne n7.symm] at hrl; exact hrl
    refine ⟨by rw [upd_ne n7, upd_ne n4, upd_ne n2, upd_same], [(Sum.inr "under", .ref st), (Sum.inr "writes", .ref wd), (Sum.inr "gets", .ref gl), (Sum.inr "ranges", .ref rl)], rfl, (by show 4 ≤ 15; decide), ?_⟩
    have sm1 : Same H (upd (upd (upd (upd (upd H p (.dK [])) wd (.dK [])) gl (.lst [])) rl (.lst [])) p (.dK (accK st wd gl rl))) := fun b o e => by
      rw [upd_ne (ne_of_none e hp), upd_ne (ne_of_none e fr), upd_ne (ne_of_none e fg), upd_ne (ne_of_none e fw), upd_ne (ne_of_none e hp)]; exact e
    refine q ⟨p, st, wd, gl, rl⟩ _ rfl sm1 ⟨upd_same, ?_, ?_, ?_, (by simp), sm1 _ _ hs⟩ ⟨n2, n1.symm, (ne_of_none hs fw).symm, n5⟩ hp fw fg fr
    · show upd _ p _ wd = _
      rw [upd_ne n2.symm, upd_ne n6, upd_ne n3, upd_same]; rfl
    · show upd _ p _ gl = _
      rw [upd_ne n4.symm, upd_ne n5, upd_same]; rfl
    · show upd _ p _ rl = _
      rw [upd_ne n7.symm, upd_same]; rfl
def gotG (m : List WT) (gs : List Str) (k : Str) : List Str := if k ∈ keysM m then gs else gs ++ [k]
def spGot : Sp := fun vs H Q _ => ∃ (A : AccD) (sm m : List WT) (gs : List Str) (RL : List (Addr × RT)) (k : Str), vs = [.ref A.ac, .str k] ∧ AccAt A H sm m gs RL ∧ AccF A ∧ gs.length ≤ 40 ∧
  ∀ H', KeptB [A.gl] H H' → AccAt A H' sm m (gotG m gs k) RL → Q (mv (gotV sm m k)) H'
theorem ok_l_got {f : Addr} {fd : FuncData} (F : Fun K "_law_got" "_law_got" st_l_got f fd) : FnOk P w K mg base CX0 1 f fd ["_law_account_here", "_law_key_here"] spGot := by
  refine F.ok sc_l_got (fun vs H Q E h => ?_) (fun cdv A outer s H vs Q E hr h => ?_)
  · obtain ⟨D, sm, m, gs, RL, k, rfl, _⟩ := h; rfl
  · obtain ⟨D, sm, m, gs, RL, k, rfl, x, xf, gl, q⟩ := h
    have hu := lt_units hr.units
    refine ⟨_, pss_cons (ps_if (pt_cmp (pc_din hu (pv 1) (pe_dget hu (pv 0) pe_str (fun _ _ => rfl)))) (pss_one (ps_ret (pe_dget hu (pe_dget hu (pv 0) pe_str (fun _ _ => rfl)) (pv 1) (fun _ _ => rfl)))) pss_nil)
      (pss_cons (ps_expr (pe_bm PySem.F.plainAttrs_list PySem.F.slot_list_append PySem.F.type_list_append mt_append (pe_dget hu (pv 0) pe_str (fun _ _ => rfl)) (pa_cons (pv 1) pa_nil)))
      (pss_one (ps_ret (pe_dget1 hu (pe_dget hu (pv 0) pe_str (fun _ _ => rfl)) (pv 1) ⟨by rfl, by rfl, by rfl, by rfl⟩)))), ?_⟩
    refine ⟨_, rfl, _, rfl, D.ac, _, rfl, .inl ⟨_, Sum.inr "writes", .inl x.dc, rfl, a_writes.symm⟩, D.wd, _, rfl, DGet.k (k := Sum.inr k) x.wr, _, rfl, ?_⟩
    by_cases hk : k ∈ keysM m
    · rw [worth_get hk]
      refine iteT ?_
      refine ⟨_, rfl, D.ac, _, rfl, .inl ⟨_, Sum.inr "writes", .inl x.dc, rfl, a_writes.symm⟩, _, rfl, D.wd, _, rfl, .inl ⟨dk m, Sum.inr k, .inl x.wr, rfl, (worth_get hk).symm⟩, ?_⟩
      have e1 : gotV sm m k = worthM m k := if_pos hk
      have e2 : gotG m gs k = gs := if_pos hk
      have z := q H (KeptB.of (Same.refl H)) (by rw [e2]; exact x)
      rw [e1] at z
      exact z
    · rw [dk_get, getM_none hk]
      refine iteF ?_
      refine ⟨_, rfl, D.ac, _, rfl, .inl ⟨_, Sum.inr "gets", .inl x.dc, rfl, a_gets.symm⟩, .inl ⟨rfl, _, SqL.of x.gt⟩, _, rfl, D.gl, _, _, rfl, rfl, x.gt, (by rw [List.length_map]; exact small1000 (by omega)), ?_⟩
      have eg : gs.map V.str ++ [V.str k] = (gs ++ [k]).map V.str := by rw [List.map_append]; rfl
      rw [eg]
      have x2 := x.got xf (H' := upd H D.gl (.lst ((gs ++ [k]).map V.str))) KeptB.one upd_same
      refine ⟨_, rfl, D.ac, _, rfl, .inl ⟨_, Sum.inr "under", .inl x2.dc, rfl, a_under.symm⟩, D.st, rfl, .inl ⟨_, .inl x2.st⟩, _, rfl, _, .inl ⟨dk sm, Sum.inr k, .inl x2.st, rfl, rfl⟩, ?_⟩
      have e1 : gotV sm m k = worthM sm k := if_neg hk
      have e2 : gotG m gs k = gs ++ [k] := if_neg hk
      have z := q _ KeptB.one (by rw [e2]; exact x2)
      rw [e1, ← worth_getD] at z
      exact z
def spParts : Sp := fun vs H Q _ => ∃ (A : AccD) (sm m : List WT) (gs : List Str) (RL : List (Addr × RT)), vs = [.ref A.ac] ∧ AccAt A H sm m gs RL ∧ (keysM m).Nodup ∧ m.length ≤ 40 ∧ gs.length ≤ 40 ∧ RL.length ≤ 40 ∧
  ∀ (t ga ra wa : Addr) (ys : List Str) (L' : List (Addr × RT)) (W : List (Addr × WT)) (H' : Hp), Same H H' → H' t = some (.tup [.ref ga, .ref ra, .ref wa]) → H' ga = some (.tup (ys.map V.str)) → AscS ys → (∀ y, y ∈ ys ↔ y ∈ gs) →
    H' ra = some (.tup (L'.map fun z => V.ref z.1)) → AscR (L'.map (·.2)) → (∀ p ∈ L', p ∈ RL) → (∀ p ∈ RL, p.2 ∈ L'.map (·.2)) → H' wa = some (.tup (W.map fun z => V.ref z.1)) → (∀ z ∈ W, PairX H' z.1 z.2) → W.map (·.2) = wsM m (sk (keysM m)) → Q (.ref t) H'
theorem ok_l_parts {f : Addr} {fd : FuncData} (F : Fun K "_law_parts" "_law_parts" st_l_parts f fd) (B : Bt mg) : FnOk P w K mg base CX0 1 f fd ["_law_account_here"] spParts := by
  refine F.ok sc_l_parts (fun vs H Q E h => ?_) (fun cdv A outer s H vs Q E hr h => ?_)
  · obtain ⟨D, sm, m, gs, RL, rfl, _⟩ := h; rfl
  · obtain ⟨D, sm, m, gs, RL, rfl, x, mN, ml, gl, rl, q⟩ := h
    have hu := lt_units hr.units
    refine ⟨_, pss_cons (ps_set (i := 1) sc_l_parts.nd rfl (Or.inl rfl) (pe_callTy call_tuple_of (by rfl) B.b_tuple (by decide +kernel) (pa_cons (pe_lc (own := [("_law_key_here", 2)]) (g := gName 2) (tt := tYes) rfl sc_l_parts.nd
        (pi_list (pe_callB (cr_sortedDic rfl hr.units) (by rfl) B.b_sorted (by decide +kernel) (pa_cons (pe_dget hu (pv 0) pe_str (fun _ _ => rfl)) pa_nil))) (blkOk_by (N := ["_law_account_here", "_law_writes", "_law_key_here"]) (sc := defScope st_l_parts) (by decide +kernel))
        (fun _ _ _ _ _ => pg_name (i := 2) sc_l_parts.nd rfl (Or.inl rfl)) (fun _ _ _ _ _ => pts_nil)
        (fun _ _ _ _ _ => pe_tup (pa_cons (pv 2) (pa_cons (pe_dget hu (pe_dget hu (pv 0) pe_str (fun _ _ => rfl)) (pv 2) (fun _ _ => rfl)) pa_nil)))) pa_nil)))
      (pss_one (ps_ret (pe_tup (pa_cons (pe_callTy call_tuple_of (by rfl) B.b_tuple (by decide +kernel) (pa_cons (pe_callB (cr_sortedTxt rfl hr.units) (by rfl) B.b_sorted (by decide +kernel) (pa_cons (pe_callTy (cr_setTxt rfl) (by rfl) B.b_set (by decide +kernel) (pa_cons (pe_dget hu (pv 0) pe_str (fun _ _ => rfl)) pa_nil)) pa_nil)) pa_nil))
        (pa_cons (pe_callTy call_tuple_of (by rfl) B.b_tuple (by decide +kernel) (pa_cons (pe_callB (cr_sortedRng rfl hr.units) (by rfl) B.b_sorted (by decide +kernel) (pa_cons (pe_callTy (cr_setRng rfl hr.units) (by rfl) B.b_set (by decide +kernel) (pa_cons (pe_dget hu (pv 0) pe_str (fun _ _ => rfl)) pa_nil)) pa_nil)) pa_nil))
        (pa_cons (pv 1) pa_nil)))))), ?_⟩
    have kl : (keysM m).length = m.length := List.length_map ..
    refine ⟨_, rfl, D.ac, _, rfl, .inl ⟨_, Sum.inr "writes", .inl x.dc, rfl, a_writes.symm⟩, D.wd, _, keysM m, rfl, x.wr, dk_keys m, mN, by omega, fun ys p as pm hp => ?_⟩
    rw [is_sk as pm]
    have s1 : Same H (upd H p (.lst ((sk (keysM m)).map V.str))) := same_new hp
    refine ⟨p, rfl, ⟨_, SqL.of upd_same⟩, fun D2 hD => lc_pairs (ks := sk (keysM m)) (flt := fun _ => true) (m := m) (by rw [sk_len]; omega) hD (SqL.of upd_same) (fun _ => rfl) (fun i k H2 Q2 hk s2 q2 => q2) (fun i k H2 Q2 hk hf s2 q2 => ?_) fun H2 W s2 d2 hW eW => ?_⟩
    · have hmem : k ∈ keysM m := sk_mem.mp (List.mem_of_getElem? hk)
      have x2 := (x.same s1).same s2
      refine ⟨_, rfl, _, rfl, D.ac, _, rfl, .inl ⟨_, Sum.inr "writes", .inl x2.dc, rfl, a_writes.symm⟩, _, rfl, D.wd, _, rfl, .inl ⟨dk m, Sum.inr k, .inl x2.wr, rfl, (worth_get hmem).symm⟩, (by show 2 ≤ sizeLine; decide), ?_⟩
      exact fun t ht => q2 t ht
    · refine ⟨D2, _, rfl, .inl ⟨SqL.of d2, fun wa hwa => ?_⟩⟩
      have s3 : Same H (upd H2 wa (.tup (W.map fun z => V.ref z.1))) := (s1.trans s2).trans (same_new hwa)
      have eW' : W.map (·.2) = wsM m (sk (keysM m)) := by
        rw [eW]
        congr 1
        exact List.filter_eq_self.mpr fun _ _ => rfl
      have x3 := x.same s3
      have hwa3 : (upd H2 wa (.tup (W.map fun z => V.ref z.1))) wa = some (.tup (W.map fun z => V.ref z.1)) := upd_same
      have hW3 : ∀ z ∈ W, PairX (upd H2 wa (.tup (W.map fun z => V.ref z.1))) z.1 z.2 := fun z hz => (hW z hz).same (same_new hwa)
      -- tuple(sorted(set(gets)))
      refine ⟨_, rfl, D.ac, _, rfl, .inl ⟨_, Sum.inr "gets", .inl x3.dc, rfl, a_gets.symm⟩, D.gl, gs, rfl, SqL.of x3.gt, by omega, fun a1 T1 ha1 nd1 mem1 len1 => ?_⟩
      refine ⟨a1, T1, rfl, upd_same, nd1, by omega, fun ys p1 as1 pm1 hp1 => ?_⟩
      refine ⟨p1, _, rfl, .inl ⟨SqL.of upd_same, fun ga hga => ?_⟩⟩
      have s4 : Same (upd H2 wa (.tup (W.map fun z => V.ref z.1))) (upd (upd (upd (upd H2 wa (.tup (W.map fun z => V.ref z.1))) a1 (SetTxtO w a1 T1)) p1 (.lst (ys.map V.str))) ga (.tup (ys.map V.str))) := ((same_new ha1).trans (same_new hp1)).trans (same_new hga)
      have x4 := x3.same s4
      have hga4 : (upd (upd (upd (upd H2 wa (.tup (W.map fun z => V.ref z.1))) a1 (SetTxtO w a1 T1)) p1 (.lst (ys.map V.str))) ga (.tup (ys.map V.str))) ga = some (.tup (ys.map V.str)) := upd_same
      -- tuple(sorted(set(ranges)))
      refine ⟨_, rfl, D.ac, _, rfl, .inl ⟨_, Sum.inr "ranges", .inl x4.dc, rfl, a_ranges.symm⟩, D.rl, RL, rfl, SqL.of x4.rg, fun p hp => (x4.rL p hp).r, by omega, fun a2 L2 ha2 nd2 g1 g2 few => ?_⟩
      refine ⟨a2, L2, rfl, upd_same, fun p hp => ((x4.rL p (g1 p hp)).same (same_new ha2)).r, nd2, by omega, fun L' p2 as2 pm2 hp2 => ?_⟩
      refine ⟨p2, _, rfl, .inl ⟨SqL.of upd_same, fun ra hra => ?_⟩⟩
      have s5 := ((same_new ha2).trans (same_new hp2)).trans (same_new (o := .tup (L'.map fun z : Addr × RT => V.ref z.1)) hra)
      refine ⟨_, rfl, (by show 3 ≤ sizeLine; decide), fun t ht => ?_⟩
      have s6 := s5.trans (same_new (o := .tup [.ref ga, .ref ra, .ref wa]) ht)
      refine q t ga ra wa ys L' W _ (s3.trans (s4.trans s6)) upd_same (s6 _ _ hga4) as1 (fun y => (pm1.mem_iff).trans (mem1 y)) ?_ as2 (fun p hp => g1 p (pm2.mem_iff.mp hp)) (fun p hp => ?_) ((s4.trans s6) _ _ hwa3) (fun z hz => (hW3 z hz).same (s4.trans s6)) eW'
      · exact (same_new ht) _ _ upd_same
      · obtain ⟨z, hz, e⟩ := List.mem_map.mp (g2 p hp)
        exact List.mem_map.mpr ⟨z, pm2.mem_iff.mpr hz, e⟩
end
end W30


/-! S31: _law_ranged. -/
namespace W30
open PySem PySem.Spec PyProof.Rows L2
/-- [k for k in ks if ..] -/
theorem lc_keys {K : PySem.W.Frag} {a : Addr} {ks : List Str} {flt : Str → Bool} {H1 : Hp} {D : Addr} {Qd : Hp → Prop} {tt : TT} {te : TE} {σ : L2.St} {j : Nat} (hl : ks.length ≤ 1000) (hD : H1 D = none) (ha : SqL K H1 a (ks.map V.str))
    (hw : ∀ x : V, wipe ((wipe σ [j]).set j (some x)) [j] = wipe σ [j])
    (ht : ∀ (i : Nat) (k : Str) (H2 : Hp) (Q : Bool → Hp → Prop), ks[i]? = some k → Same H1 H2 → Q (flt k) H2 → tt ((wipe σ [j]).set j (some (.str k))) H2 Q)
    (he : ∀ (k : Str) (H2 : Hp) (Q : VK), Q (.str k) H2 → te ((wipe σ [j]).set j (some (.str k))) H2 Q)
    (hd : ∀ (H2 : Hp), Same H1 H2 → H2 D = some (.lst ((ks.filter flt).map V.str)) → Qd H2) :
    ∃ W : Nat → Nat → Hp → Prop, (∃ m, W 0 m (upd H1 D (.lst []))) ∧ ∀ i m H, W i m H →
      ((Itl K a).stop i H ∧ Qd H) ∨ ((Itl K a).go i H ∧ ∃ Nx : Hp → Prop, (∀ H', Nx H' → ∃ m', m' < m ∧ W (i + 1) m' H') ∧ ∀ x H', (Itl K a).yld i H x H' → gName j x (wipe σ [j]) H' fun σ2 H2 => wipe σ2 [j] = wipe σ [j] ∧ tt σ2 H2 fun b H3 =>
        if b = true then te σ2 H3 fun y H4 => ∃ acc, H4 D = some (.lst acc) ∧ acc.length < sizeLine ∧ Nx (upd H4 D (.lst (acc ++ [y]))) else Nx H3) := by
  refine lc_it walk_list (fun i H2 => Same H1 H2 ∧ H2 D = some (.lst (((ks.take i).filter flt).map V.str))) ⟨same_new hD, upd_same⟩ (fun i H2 _ q => q.1.seq ha) ?_ ?_
  · rintro i x H2 H2' hi ⟨s2, d2⟩ ⟨rfl, hx⟩
    rw [List.getElem?_map] at hx
    obtain ⟨k, hk, rfl⟩ := Option.map_eq_some_iff.mp hx
    have et : ks.take (i + 1) = ks.take i ++ [k] := by rw [List.take_add_one, hk]; rfl
    refine ⟨hw _, ht i k _ _ hk s2 ?_⟩
    cases hf : flt k with
    | true =>
      refine iteT ?_
      refine he k _ _ ⟨_, d2, ?_, same_upd s2 hD, ?_⟩
      · rw [List.length_map]
        have e3 := List.length_filter_le flt (ks.take i)
        rw [List.length_take] at e3
        exact small1000 (by omega)
      · rw [upd_same, et, List.filter_append, List.map_append]
        simp [hf]
    | false =>
      refine iteF ?_
      exact ⟨s2, by rw [d2, et, List.filter_append]; simp [hf]⟩
  · rintro H2 ⟨s2, d2⟩
    rw [List.length_map, List.take_length] at d2
    exact hd H2 s2 d2
section
variable {P : Program} {w : World} {K : PySem.W.Frag} {mg : Str → Option Value} {base : Heap}
def spRanged : Sp := fun vs H Q _ => ∃ (A : AccD) (sm m : List WT) (gs : List Str) (RL : List (Addr × RT)) (lo hi : Str), vs = [.ref A.ac, .str lo, .str hi] ∧ AccAt A H sm m gs RL ∧ AccF A ∧ (keysM sm).Nodup ∧ sm.length ≤ 40 ∧ (keysM m).Nodup ∧ m.length ≤ 40 ∧ RL.length ≤ 40 ∧
  ∀ (p a : Addr) (H' : Hp) (L2 : List (Addr × WT)), KeptB [A.rl] H H' → H' p = some (.lst (L2.map fun z => V.ref z.1)) → (∀ z ∈ L2, PairX H' z.1 z.2) → L2.map (·.2) = betwM sm m lo hi →
    AccAt A H' sm m gs (if ltS hi lo = true then RL else RL ++ [(a, (lo, hi, ownM m lo hi))]) → Q (.ref p) H'
theorem ok_l_ranged {f fW : Addr} {fd fdW : FuncData} (F : Fun K "_law_ranged" "_law_ranged" st_l_ranged f fd) (B : Bt mg)
    (GW : FnOk P w K mg base CX0 1 fW fdW ["_law_state", "_law_low", "_law_high"] spWalked) (mW : mg "_law_walked" = some (.ref fW)) (kW : PySem.W.keepIn K (.ref fW) = true) (bW : Binds K fdW ["_law_state", "_law_low", "_law_high"] []) :
    FnOk P w K mg base CX0 2 f fd ["_law_account_here", "_law_low", "_law_high"] spRanged := by
  refine F.ok sc_l_ranged (fun vs H Q E h => ?_) (fun cdv A outer s H vs Q E hr h => ?_)
  · obtain ⟨D, sm, m, gs, RL, lo, hi, rfl, _⟩ := h; rfl
  · obtain ⟨D, sm, m, gs, RL, lo, hi, rfl, x, xf, sN, sl, mN, ml, rl, q⟩ := h
    have hu := lt_units hr.units
    refine ⟨_, pss_cons (ps_if (pt_cmpR op_ltS (pv 2) (pv 1) (nomark _)) (pss_one (ps_ret (pe_lst pa_nil))) pss_nil)
      (pss_cons (ps_set (i := 3) sc_l_ranged.nd rfl (Or.inl rfl) (pe_callTy call_tuple_of (by rfl) B.b_tuple (by decide +kernel) (pa_cons (pe_lc (own := [("_law_key_here", 5)]) (g := gName 5) rfl sc_l_ranged.nd
          (pi_list (pe_callB (cr_sortedDic rfl hr.units) (by rfl) B.b_sorted (by decide +kernel) (pa_cons (pe_dget hu (pv 0) pe_str (fun _ _ => rfl)) pa_nil))) (blkOk_by (N := ["_law_account_here", "_law_low", "_law_high", "_law_own", "_law_found", "_law_key_here"]) (sc := defScope st_l_ranged) (by decide +kernel))
          (fun _ _ _ _ _ => pg_name (i := 5) sc_l_ranged.nd rfl (Or.inl rfl)) (fun _ _ _ _ _ => pts_one (pt_chain op_le_str op_le_str (pv 1) (pv 5) (pv 2))) (fun _ _ _ _ _ => pv 5)) pa_nil)))
      (pss_cons (ps_expr (pe_bm PySem.F.plainAttrs_list PySem.F.slot_list_append PySem.F.type_list_append mt_append (pe_dget hu (pv 0) pe_str (fun _ _ => rfl)) (pa_cons (pe_tup (pa_cons (pv 1) (pa_cons (pv 2) (pa_cons (pv 3) pa_nil)))) pa_nil)))
      (pss_cons (ps_set (i := 4) sc_l_ranged.nd rfl (Or.inr rfl) (pe_callTy (call_dictP rfl) (by rfl) B.b_dict (by decide +kernel) (pa_cons (pe_call GW hr (by rfl) mW kW bW .nil pass0 (pa_cons (pe_dget hu (pv 0) pe_str (fun _ _ => rfl)) (pa_cons (pv 1) (pa_cons (pv 2) pa_nil)))) pa_nil)))
      (pss_cons (ps_for PassesOwn.never rfl (pi_tup (pv 3)) (pg_name (i := 5) sc_l_ranged.nd rfl (Or.inl rfl)) (pss_one (ps_dput hu (pv 4) (pv 5) (pe_dget hu (pe_dget hu (pv 0) pe_str (fun _ _ => rfl)) (pv 5) (fun _ _ => rfl)) rfl)))
      (pss_one (ps_ret (pe_lc (own := [("_law_key_here", 5)]) (g := gName 5) rfl sc_l_ranged.nd (pi_list (pe_callB (cr_sortedDic rfl hr.units) (by rfl) B.b_sorted (by decide +kernel) (pa_cons (pv 4) pa_nil))) (blkOk_by (N := ["_law_account_here", "_law_low", "_law_high", "_law_own", "_law_found", "_law_key_here"]) (sc := defScope st_l_ranged) (by decide +kernel))
        (fun _ _ _ _ _ => pg_name (i := 5) sc_l_ranged.nd rfl (Or.inl rfl)) (fun _ _ _ _ _ => pts_one (pt_cmp (pc_notN (pe_dget hu (pv 4) (pv 5) (fun _ _ => rfl))) rfl))
        (fun _ _ _ _ _ => pe_tup (pa_cons (pv 5) (pa_cons (pe_dget hu (pv 4) (pv 5) (fun _ _ => rfl)) pa_nil)))))))))), ?_⟩
    refine ⟨_, rfl, _, rfl, hi, lo, rfl, rfl, _, rfl, ?_⟩
    cases hlt : ltS hi lo with
    | true =>
      refine iteT ?_
      refine ⟨Nat.zero_le _, fun p hp => ?_⟩
      refine q p 0 _ [] (KeptB.of (same_new hp)) upd_same (by simp) ?_ ?_
      · unfold betwM; rw [if_pos hlt]; rfl
      · rw [if_pos hlt]; exact x.same (same_new hp)
    | false =>
      refine iteF ?_
      have no : ¬ ltS hi lo = true := by rw [hlt]; exact Bool.false_ne_true
      have kl : (keysM m).length = m.length := List.length_map ..
      refine ⟨_, rfl, D.ac, _, rfl, .inl ⟨_, Sum.inr "writes", .inl x.dc, rfl, a_writes.symm⟩, D.wd, _, keysM m, rfl, x.wr, dk_keys m, mN, by omega, fun ys p as pm hp => ?_⟩
      rw [is_sk as pm]
      have s1 : Same H (upd H p (.lst ((sk (keysM m)).map V.str))) := same_new hp
      refine ⟨p, rfl, ⟨_, SqL.of upd_same⟩, fun D2 hD => lc_keys (ks := sk (keysM m)) (flt := inR lo hi) (by rw [sk_len]; omega) hD (SqL.of upd_same) (fun _ => rfl) (fun i k H2 Q2 hk s2 q2 => ?_) (fun k H2 Q2 q2 => ⟨_, rfl, q2⟩) fun H2 s2 d2 => ?_⟩
      · refine ⟨_, rfl, _, rfl, lo, k, rfl, rfl, _, rfl, ?_⟩
        rw [inR_le] at q2
        refine ite2 (fun h1 => ?_) (fun h1 => ?_)
        · refine ⟨_, rfl, k, hi, rfl, rfl, _, rfl, ?_⟩
          rw [h1, Bool.true_and] at q2
          exact q2
        · refine ⟨false, rfl, ?_⟩
          simp only [Bool.not_eq_true] at h1
          rw [h1, Bool.false_and] at q2
          exact q2
      · have d2 : H2 D2 = some (.lst ((ownM m lo hi).map V.str)) := d2
        refine ⟨D2, _, rfl, .inl ⟨SqL.of d2, fun ot hot => ?_⟩⟩
        have s3 : Same H (upd H2 ot (.tup ((ownM m lo hi).map V.str))) := (s1.trans s2).trans (same_new hot)
        have x3 := x.same s3
        -- account['ranges'].append((low, high, own))
        refine ⟨_, rfl, D.ac, _, rfl, .inl ⟨_, Sum.inr "ranges", .inl x3.dc, rfl, a_ranges.symm⟩, .inl ⟨rfl, _, SqL.of x3.rg⟩, _, rfl, _, rfl, _, rfl, (by show 3 ≤ sizeLine; decide), fun a ha => ?_⟩
        have s4 := s3.trans (same_new (o := .tup [.str lo, .str hi, .ref ot]) ha)
        have x4 := x.same s4
        have nao : ot ≠ a := fun z => by rw [← z, upd_same] at ha; cases ha
        have tX : TupX (upd (upd H2 ot (.tup ((ownM m lo hi).map V.str))) a (.tup [.str lo, .str hi, .ref ot])) a (lo, hi, ownM m lo hi) := ⟨ot, upd_same, by rw [upd_ne nao]; exact upd_same⟩
        refine ⟨D.rl, _, _, rfl, rfl, x4.rg, (by rw [List.length_map]; exact small1000 (by omega)), ?_⟩
        have er : (RL.map fun p => V.ref p.1) ++ [V.ref a] = (RL ++ [(a, (lo, hi, ownM m lo hi))]).map fun p => V.ref p.1 := by rw [List.map_append]; rfl
        rw [er]
        have kb : KeptB [D.rl] (upd (upd H2 ot (.tup ((ownM m lo hi).map V.str))) a (.tup [.str lo, .str hi, .ref ot])) (upd (upd (upd H2 ot (.tup ((ownM m lo hi).map V.str))) a (.tup [.str lo, .str hi, .ref ot])) D.rl (.lst ((RL ++ [(a, (lo, hi, ownM m lo hi))]).map fun p => V.ref p.1))) := KeptB.one
        have x5 := x4.saw xf kb upd_same (fun p hp => by
          rcases List.mem_append.mp hp with e | e
          · exact x4.rL p e
          · rw [List.mem_singleton.mp e]; exact tX)
        have k5 := KeptB.then s4 kb
        have hot5 : (upd (upd (upd H2 ot (.tup ((ownM m lo hi).map V.str))) a (.tup [.str lo, .str hi, .ref ot])) D.rl (.lst ((RL ++ [(a, (lo, hi, ownM m lo hi))]).map fun p => V.ref p.1))) ot = some (.tup ((ownM m lo hi).map V.str)) :=
          kb _ _ (by rw [upd_ne nao]; exact upd_same) fun z => ne_hk (show (upd (upd H2 ot (.tup ((ownM m lo hi).map V.str))) a (.tup [.str lo, .str hi, .ref ot])) ot = some (.tup ((ownM m lo hi).map V.str)) by rw [upd_ne nao]; exact upd_same) x4.rg (show (1 : Nat) ≠ 0 by decide) (List.mem_singleton.mp z)
        -- found = dict(_law_walked(account['under'], low, high))
        refine ⟨_, rfl, D.ac, _, rfl, .inl ⟨_, Sum.inr "under", .inl x5.dc, rfl, a_under.symm⟩, _, rfl, _, rfl, D.st, lo, hi, sm, rfl, x5.st, sN, by omega, fun wl H6 Lw s6 _ dwl hLw eLw => ?_⟩
        refine ⟨wl, Lw.map (·.1), dk (Lw.map (·.2)), rfl, SqL.of (by rw [List.map_map]; exact dwl), paired_pairs Lw hLw, fun fa hfa => ?_⟩
        have em : mergeK [] (dk (Lw.map (·.2))) = dk (mergeM [] (wsM sm (ownM sm lo hi))) := by
          have e := merge_dk (Lw.map (·.2)) []
          rw [eLw] at e ⊢
          exact e
        rw [em]
        have x6 := x5.same s6
        have k6 := k5.trans (KeptB.of s6)
        have hot6 := s6 _ _ hot5
        refine ⟨_, rfl, ot, rfl, ⟨_, SqT.of ((same_new hfa) _ _ hot6)⟩, for_tup (K := K) (a := ot) (xs := (ownM m lo hi).map V.str)
          (fun i σ H7 => ∃ v, σ = [some (.ref D.ac), some (.str lo), some (.str hi), some (.ref ot), some (.ref fa), v] ∧ Same H6 H7 ∧ H7 fa = some (.dK (dk (overM (mergeM [] (wsM sm (ownM sm lo hi))) m ((ownM m lo hi).take i)))))
          ⟨none, rfl, same_new hfa, upd_same⟩ (fun i σ H7 _ ⟨_, _, s7, _⟩ => SqT.of (s7 _ _ hot6)) ?_ ?_⟩
        · rintro i y σ H7 hi7 ⟨v, rfl, s7, d7⟩
          rw [List.getElem?_map] at hi7
          obtain ⟨k, hk, rfl⟩ := Option.map_eq_some_iff.mp hi7
          have hmem : k ∈ keysM m := (own_mem.mp (List.mem_of_getElem? hk)).1
          have x7 := x6.same s7
          have et : (ownM m lo hi).take (i + 1) = (ownM m lo hi).take i ++ [k] := by rw [List.take_add_one, hk]; rfl
          refine ⟨_, rfl, D.ac, _, rfl, .inl ⟨_, Sum.inr "writes", .inl x7.dc, rfl, a_writes.symm⟩, _, rfl, D.wd, _, rfl, .inl ⟨dk m, Sum.inr k, .inl x7.wr, rfl, (worth_get hmem).symm⟩, ?_⟩
          refine ⟨_, rfl, _, rfl, fa, _, rfl, DPut.k (k := Sum.inr k) d7 ?_, ?_⟩
          · rw [dk_len]
            have z1 := over_len m ((ownM m lo hi).take i) (mergeM [] (wsM sm (ownM sm lo hi)))
            have z2 := start_len sm lo hi sl
            rw [List.length_take] at z1
            have z3 := own_len m lo hi
            exact small1000 (by omega)
          · rw [dk_put]
            refine ⟨_, rfl, same_upd s7 hfa, ?_⟩
            rw [upd_same, et, over_snoc]
        · rintro σ H7 ⟨v, rfl, s7, d7⟩
          rw [List.length_map, List.take_length] at d7
          have d7 : H7 fa = some (.dK (dk (foundM sm m lo hi))) := d7
          have fl := found_len sm m lo hi sl ml
          have fk : (keysM (foundM sm m lo hi)).length = (foundM sm m lo hi).length := List.length_map ..
          refine ⟨_, rfl, fa, _, keysM (foundM sm m lo hi), rfl, d7, dk_keys _, found_nd sm m lo hi, by omega, fun ys p8 as pm hp8 => ?_⟩
          rw [is_sk as pm]
          have s8 : Same H7 (upd H7 p8 (.lst ((sk (keysM (foundM sm m lo hi))).map V.str))) := same_new hp8
          refine ⟨p8, rfl, ⟨_, SqL.of upd_same⟩, fun D3 hD3 => lc_pairs (ks := sk (keysM (foundM sm m lo hi))) (flt := fun k => (worthM (foundM sm m lo hi) k).isSome) (m := foundM sm m lo hi) (by rw [sk_len]; omega) hD3 (SqL.of upd_same) (fun _ => rfl) (fun i k H8 Q8 hk s9 q8 => ?_) (fun i k H8 Q8 hk hf s9 q8 => ?_) fun H8 L8 s9 d8 hL8 eL8 => ?_⟩
          · have hmem : k ∈ keysM (foundM sm m lo hi) := sk_mem.mp (List.mem_of_getElem? hk)
            refine ⟨_, rfl, _, rfl, fa, _, rfl, .inl ⟨dk (foundM sm m lo hi), Sum.inr k, .inl (s9 _ _ (s8 _ _ d7)), rfl, (worth_get hmem).symm⟩, _, rfl, ?_⟩
            rw [mv_isSome]
            exact q8
          · have hmem : k ∈ keysM (foundM sm m lo hi) := sk_mem.mp (List.mem_of_getElem? hk)
            refine ⟨_, rfl, _, rfl, _, rfl, fa, _, rfl, .inl ⟨dk (foundM sm m lo hi), Sum.inr k, .inl (s9 _ _ (s8 _ _ d7)), rfl, (worth_get hmem).symm⟩, (by show 2 ≤ sizeLine; decide), ?_⟩
            exact fun x hx => q8 x hx
          · have s10 : Same H6 H8 := (s7.trans s8).trans s9
            refine q D3 a H8 L8 (k6.trans (KeptB.of s10)) d8 hL8 ?_ ?_
            · unfold betwM; rw [if_neg no, eL8]; rfl
            · rw [if_neg no]; exact x6.same s10
end
end W30


/-! S32: _law_made_over. -/
namespace W30
open PySem PySem.Spec PyProof.Rows L2 LamX NdefX
theorem free_look : ∀ y ∈ (lScope eLook).names, y.2 = .free → y.1 = "_law_state" := by decide +kernel
theorem free_walk : ∀ y ∈ (lScope eWalk).names, y.2 = .free → y.1 = "_law_state" := by decide +kernel
theorem cell_look : ∀ y ∈ (lScope eLook).names, y.2 = .free → (defScope st_l_made).names.lookup y.1 = some .cell := by decide +kernel
theorem cell_walk : ∀ y ∈ (lScope eWalk).names, y.2 = .free → (defScope st_l_made).names.lookup y.1 = some .cell := by decide +kernel
theorem has_look : (("_law_state" : Str), NameKind.free) ∈ (lScope eLook).names := by decide +kernel
theorem has_walk : (("_law_state" : Str), NameKind.free) ∈ (lScope eWalk).names := by decide +kernel
theorem made_form : ∃ (p p2 lp1 lp2 pos rp : Pos), defBody st_l_made = [.Return (some (.Call (.Name "Transaction" p) [.Name "_law_number" p2, .Lambda (lArgs eLook) (lBody eLook) (lScope eLook) lp1, .Lambda (lArgs eWalk) (lBody eWalk) (lScope eWalk) lp2] [] pos)) rp] :=
  ⟨_, _, _, _, _, _, rfl⟩
/-- no code object of the table at P stands at b -/
def Far (H : Hp) (P b : Addr) : Prop := ∀ ps, H P = some (.tbl ps) → ∀ (pos : Pos) (cv : Value), codeAmong pos ps.toList = some cv → cv ≠ .ref b
abbrev madeQ : Str := (envOfC "_law_made_over" (defScope st_l_made) 0 0 .none).qual ++ "<lambda>"
section
variable {P : Program} {w : World} {K : PySem.W.Frag} {mg : Str → Option Value} {base : Heap}
def spMade (P : Program) (w : World) (C Pt : Addr) : Sp := fun vs H Q _ => ∃ (st : Addr) (n : Int) (sm : List WT), vs = [.ref st, .int n] ∧ TabS H Pt madeQ ∧ H st = some (.dK (dk sm)) ∧ (keysM sm).Nodup ∧ sm.length ≤ 40 ∧ 0 ≤ n ∧
  ∀ (D : TrD) (H' : Hp), D.st = st → D.n = n → TrAt P w C D H' sm [] [] [] true → TrF D sm [] [] [] → TabS H' Pt madeQ → Far H' Pt D.rd → ExtN H H' → (∀ b o, H b = some o → (∀ ps, o ≠ .tbl ps) → b ≠ D.wd ∧ b ≠ D.kd) → Q (.ref D.x) H'
/-- what a captured cell's lambda has -/
theorem lam_has {H : Hp} {f c st c1 : Addr} {q : Str} {e : Expr} {cells : List (Str × Addr)} (hc : cells.lookup ("_law_state" : Str) = some c) (hf : ∀ y ∈ (lScope e).names, y.2 = .free → y.1 = "_law_state") (hh : (("_law_state" : Str), NameKind.free) ∈ (lScope e).names)
    (h1 : H f = some (LamO f (lamF q (lArgs e) (lScope e) (cloFrom cells (lScope e).names []) c1) (lBody e))) (h2 : H c1 = some (CodeO c1 q)) (h3 : H c = some (CellO c st)) : LamIs H e f c st c1 := by
  have hfree : ∀ y ∈ (lScope e).names, y.2 = .free → ∃ c, cells.lookup y.1 = some c := fun y hy z => ⟨c, by rw [hf y hy z]; exact hc⟩
  refine ⟨_, ⟨h1, h2, h3, clo_has hfree hh hc, fun y b z => ?_⟩, rfl, rfl, rfl⟩
  have z1 := clo_cm hfree z
  rcases cloFrom_mem (PySem.mem_of_lookup z) with hm | ⟨hm, _⟩
  · cases hm
  · have e1 : y = "_law_state" := hf _ hm rfl
    refine ⟨e1, ?_⟩
    rw [e1, hc] at z1
    cases z1; rfl
theorem ok_l_made {f fI C cc Pt : Addr} {fdI : FuncData} {dV kV doc pm ct oc : Value} {an od : Option Addr} {osl : Array (Option Value)}
    (lk : K.lookup f = some ⟨oc, od, .func (PySem.W.fnOf "_law_made_over" "_law_made_over" (defArgs st_l_made) (defBody st_l_made) (defScope st_l_made) dV kV doc pm an (.ref cc) ct), osl⟩) (hcd : PySem.W.codeIn K (.ref cc) "_law_made_over" = true)
    (TB : TabB base mg cc Pt) (T : TCls K mg C) (M : Mk K C fI) (GI : FnOk P w K mg base CX0 1 fI fdI ["self", "snapshot", "look", "walk"] (spTInit P w C)) (bI : L2.Binds K fdI ["self", "snapshot", "look", "walk"] []) :
    FnOk P w K mg base CX0 3 f (PySem.W.fnOf "_law_made_over" "_law_made_over" (defArgs st_l_made) (defBody st_l_made) (defScope st_l_made) dV kV doc pm an (.ref cc) ct) ["_law_state", "_law_number"] (spMade P w C Pt) := by
  obtain ⟨p, p2, lp1, lp2, pos, rp, ef⟩ := made_form
  rw [ef] at lk ⊢
  refine made_of (x := "_law_state") (i := 0) lk hcd sc_l_made rfl (by decide +kernel) (fun vs H Q E h => ?_) (fun A outer s H vs Q E c hr h hc => ?_)
  · obtain ⟨st, n, sm, rfl, _⟩ := h; rfl
  · obtain ⟨st, n, sm, rfl, hT, hs, sN, sl, n0, q⟩ := h
    refine ⟨st, _, rfl, pe_make M GI hr rfl T.mgC bI .nil pass0 (pa_cons (pv 1) (pa_cons (pe_lam TB rfl (by rfl) cell_look) (pa_cons (pe_lam TB rfl (by rfl) cell_walk) pa_nil))), ?_⟩
    refine ⟨_, rfl, hT, fun f1 c1 H1 e1 T1 hf1 h1 hc1 => ?_⟩
    refine ⟨T1, fun f2 c2 H2 e2 T2 hf2 h2 hc2 => ?_⟩
    intro x dx hx hdx ne
    have s3 : Same H2 (upd (upd H2 dx (.own x)) x (.ins C dx [])) := fun b o e => by rw [upd_ne (ne_of_none e hx), upd_ne (ne_of_none e hdx)]; exact e
    refine ⟨x, dx, n, f1, f2, rfl, upd_same, fun wd kd rd H' fw fk fr nw1 nw2 nw3 kb hx' hwd hkd hrd => ⟨rfl, fun hcn => ?_⟩⟩
    have s4 : Same H2 H' := fun b o e => kb b o (s3 b o e) fun z => ne_of_none e hx (List.mem_singleton.mp z)
    have s5 : Same H2 (upd H' c (CellO c st)) := fun b o e => by
      have e4 := s4 b o e
      rw [upd_ne (ne_of_none e4 hcn)]; exact e4
    have lift : ∀ {b : Addr} {o : HO}, H' b = some o → (upd H' c (CellO c st)) b = some o := fun e => by rw [upd_ne (ne_of_none e hcn)]; exact e
    have nlam : ∀ {f : Addr} {F : NF} {b : Expr} (ps : Array Value), LamO f F b ≠ .tbl ps := fun ps z => by unfold LamO at z; cases z
    have h1' := e2 _ _ h1 nlam
    have hc1' := e2 _ _ hc1 codeO_ne
    have far3 : ∀ {b : Addr} {o : HO}, H2 b = some o → rd ≠ b := fun e => (ne_of_none (s3 _ _ e) fr).symm
    have eN : ExtN H (upd H' c (CellO c st)) := (e1.trans e2).trans (.of s5)
    have hs' := eN _ _ hs (fun ps z => by cases z)
    have old : ∀ b o, H b = some o → (∀ ps, o ≠ .tbl ps) → b ≠ wd ∧ b ≠ kd := fun b o e n => by
      have z := s3 _ _ ((e1.trans e2) _ _ e n)
      exact ⟨ne_of_none z fw, ne_of_none z fk⟩
    obtain ⟨ps, hp1, hp2, hp3⟩ := T2
    have xc : ∀ {b : Addr} {o : HO}, H' b = some o → b ≠ c := fun e => ne_of_none e hcn
    refine q ⟨x, dx, f1, f2, wd, kd, rd, c, st, c1, c2, n⟩ _ rfl rfl ⟨lift hx', lift hwd, lift hkd, lift hrd, ?_, ?_, hs', fun p hp => absurd hp (by simp)⟩ ?_ (TabS.ext ⟨ps, hp1, hp2, hp3⟩ s5) ?_ eN old
    · exact lam_has hc free_look has_look (s5 _ _ h1') (s5 _ _ hc1') upd_same
    · exact lam_has hc free_walk has_walk (s5 _ _ h2) (s5 _ _ hc2) upd_same
    · refine ⟨nw1, fun z => ?_, fun z => ?_, ⟨far3 h1', far3 h2, xc hrd, far3 hc1', far3 hc2⟩, n0, sN, sl, List.nodup_nil, (by simp), Nat.zero_le _, List.nodup_nil, (by simp), Nat.zero_le _, List.nodup_nil, (by simp), Nat.zero_le _⟩
      · exact (old st _ hs (fun ps z => by cases z)).1 z.symm
      · exact (old st _ hs (fun ps z => by cases z)).2 z.symm
    · intro ps' hp' pos cv hcv z
      have e := s5 _ _ hp1
      have hp' : (upd H' c (CellO c st)) Pt = some (.tbl ps') := hp'
      rw [e] at hp'
      cases hp'
      obtain ⟨c0, z1, z2⟩ := hp3 pos cv hcv
      rw [z1] at z
      cases z
      exact far3 z2 rfl
end
end W30


/-! S33: the transaction and the account side by side; _law_step. -/
namespace W30
open PySem PySem.Spec PyProof.Rows L2 LamX NdefX
/-- what keeps the places of the hand (h, a), of the transaction and of the account apart -/
structure Sep (h a : Addr) (T : TrD) (A : AccD) : Prop where
  s1 : h ≠ A.gl
  s2 : h ≠ A.rl
  s3 : a ≠ A.gl
  s4 : a ≠ A.rl
  s5 : A.wd ≠ T.wd
  s6 : A.wd ≠ T.kd
  s7 : T.wd ≠ A.ac
  s8 : T.kd ≠ A.ac
  es : A.st = T.st
/-- what the two have seen is one -/
structure One (ks gs : List Str) (L RL : List (Addr × RT)) : Prop where
  g : ∀ y, y ∈ ks ↔ y ∈ gs
  r : ∀ r, r ∈ L.map (·.2) ↔ r ∈ RL.map (·.2)
structure Both (P : Program) (w : World) (C Pt h a : Addr) (T : TrD) (A : AccD) (H : Hp) (sm m : List WT) (ks gs : List Str) (L RL : List (Addr × RT)) (op : Bool) : Prop where
  hx : HandAt H h a
  t : TrAt P w C T H sm m ks L op
  x : AccAt A H sm m gs RL
  tab : TabS H Pt madeQ
  far : Far H Pt T.rd
section
variable {P : Program} {w : World} {C Pt h a : Addr} {T : TrD} {A : AccD} {H H' : Hp} {sm m m' : List WT} {ks gs ks' gs' : List Str} {L RL L' RL' : List (Addr × RT)} {op op' : Bool}
theorem tab_but {S : List Addr} (t : TabS H Pt madeQ) (k : KeptB S H H') (n1 : ∀ b ∈ S, b ≠ Pt) (n2 : ∀ ps, H Pt = some (.tbl ps) → ∀ (pos : Pos) (cv : Value), codeAmong pos ps.toList = some cv → ∀ c, cv = .ref c → c ∉ S) : TabS H' Pt madeQ ∧ ∀ ps, H' Pt = some (.tbl ps) → H Pt = some (.tbl ps) := by
  obtain ⟨ps, h1, h2, h3⟩ := t
  have h1' := k _ _ h1 fun z => n1 _ z rfl
  refine ⟨⟨ps, h1', h2, fun pos cv hc => ?_⟩, fun ps' z => by rw [h1'] at z; cases z; exact h1⟩
  obtain ⟨c, e1, e2⟩ := h3 pos cv hc
  exact ⟨c, e1, k _ _ e2 (n2 ps h1 pos cv hc c e1)⟩
/-- a thing b that is no code object and no table -/
theorem tab_one {b : Addr} {o : HO} (t : TabS H Pt madeQ) (hb : H b = some o) (k : KeptB [b] H H') (n9 : hk o ≠ 9) (n11 : hk o ≠ 11) : TabS H' Pt madeQ ∧ ∀ ps, H' Pt = some (.tbl ps) → H Pt = some (.tbl ps) := by
  refine tab_but t k (fun b' z => ?_) (fun ps hp pos cv hc c e z => ?_)
  · rw [List.mem_singleton.mp z]
    obtain ⟨ps, h1, _⟩ := t
    exact ne_hk hb h1 n11
  · obtain ⟨ps', h1, _, h3⟩ := t
    rw [h1] at hp
    cases hp
    obtain ⟨c0, e1, e2⟩ := h3 pos cv hc
    rw [e] at e1
    cases e1
    exact ne_hk hb e2 n9 (List.mem_singleton.mp z).symm
theorem far_of {b : Addr} (f : Far H Pt b) (e : ∀ ps, H' Pt = some (.tbl ps) → H Pt = some (.tbl ps)) : Far H' Pt b := fun ps hp => f ps (e ps hp)
/-- the transaction, where something else is changed -/
theorem TrAt.aside (t : TrAt P w C T H sm m ks L op) {b : Addr} {o : HO} (hb : H b = some o) (k : KeptB [b] H H') (n9 : hk o ≠ 9) (n1 : hk o ≠ 1) (n5 : hk o ≠ 5) (d1 : T.wd ≠ b) (d2 : T.kd ≠ b) (d3 : T.st ≠ b) : TrAt P w C T H' sm m ks L op := by
  obtain ⟨c1, c2, c3, c4⟩ := t.core hb k n9 n1
  have one : ∀ {b' : Addr}, b' ∈ [b] → b' = b := fun z => List.mem_singleton.mp z
  exact ⟨k _ _ t.ob fun z => ne_hk t.ob hb (fun e => n5 e.symm) (one z), k _ _ t.wr fun z => d1 (one z), k _ _ t.ky fun z => d2 (one z), c1, c2, c3, k _ _ t.st fun z => d3 (one z), c4⟩
theorem TrAt.lst (t : TrAt P w C T H sm m ks L op) {b : Addr} {xs : List V} (hb : H b = some (.lst xs)) (k : KeptB [b] H H') : TrAt P w C T H' sm m ks L op :=
  t.aside hb k (show (0 : Nat) ≠ 9 by decide) (show (0 : Nat) ≠ 1 by decide) (show (0 : Nat) ≠ 5 by decide) (ne_hk t.wr hb (show (2 : Nat) ≠ 0 by decide)) (ne_hk t.ky hb (show (2 : Nat) ≠ 0 by decide)) (ne_hk t.st hb (show (2 : Nat) ≠ 0 by decide))
/-- the account, where something else is changed -/
theorem AccAt.aside (x : AccAt A H sm m gs RL) {b : Addr} {o : HO} (hb : H b = some o) (k : KeptB [b] H H') (n1 : hk o ≠ 1) (d1 : A.ac ≠ b) (d2 : A.wd ≠ b) (d3 : A.gl ≠ b) (d4 : A.rl ≠ b) (d5 : A.st ≠ b) : AccAt A H' sm m gs RL := by
  have one : ∀ {b' : Addr}, b' ∈ [b] → b' = b := fun z => List.mem_singleton.mp z
  exact x.but k (fun z => d1 (one z)) (fun z => d2 (one z)) (fun z => d3 (one z)) (fun z => d4 (one z)) (fun z => d5 (one z)) fun b' z o' ho => by rw [one z, hb] at ho; rw [← Option.some.inj ho]; exact n1
theorem AccAt.dks (x : AccAt A H sm m gs RL) {b : Addr} {kv : List (Key × V)} (hb : H b = some (.dK kv)) (k : KeptB [b] H H') (d1 : A.ac ≠ b) (d2 : A.wd ≠ b) (d5 : A.st ≠ b) : AccAt A H' sm m gs RL :=
  x.aside hb k (show (2 : Nat) ≠ 1 by decide) d1 d2 (ne_hk x.gt hb (show (0 : Nat) ≠ 2 by decide)) (ne_hk x.rg hb (show (0 : Nat) ≠ 2 by decide)) d5
theorem AccAt.oth (x : AccAt A H sm m gs RL) {b : Addr} {o : HO} (hb : H b = some o) (k : KeptB [b] H H') (n0 : hk o ≠ 0) (n1 : hk o ≠ 1) (n2 : hk o ≠ 2) : AccAt A H' sm m gs RL :=
  x.aside hb k n1 (ne_hk x.dc hb fun e => n2 e.symm) (ne_hk x.wr hb fun e => n2 e.symm) (ne_hk x.gt hb fun e => n0 e.symm) (ne_hk x.rg hb fun e => n0 e.symm) (ne_hk x.st hb fun e => n2 e.symm)
theorem HandAt.oth (y : HandAt H h a) {b : Addr} {o : HO} (hb : H b = some o) (k : KeptB [b] H H') (n0 : hk o ≠ 0) : HandAt H' h a := by
  obtain ⟨i, z, s, c, ns, h1, h2, _⟩ := y.ex
  exact y.kept k (fun q => ne_hk h1 hb (fun e => n0 e.symm) (List.mem_singleton.mp q)) (fun q => ne_hk h2 hb (fun e => n0 e.symm) (List.mem_singleton.mp q))
/-- the hand draws -/
theorem Both.drew (b : Both P w C Pt h a T A H sm m ks gs L RL op) (s : Sep h a T A) (y : HandAt H' h a) (k : KeptB [h] H H') : Both P w C Pt h a T A H' sm m ks gs L RL op := by
  obtain ⟨i, z, sd, c, ns, h1, h2, _⟩ := b.hx.ex
  obtain ⟨t1, t2⟩ := tab_one b.tab h1 k (show (0 : Nat) ≠ 9 by decide) (show (0 : Nat) ≠ 11 by decide)
  exact ⟨y, b.t.lst h1 k, b.x.aside h1 k (show (0 : Nat) ≠ 1 by decide) (ne_hk b.x.dc h1 (show (2 : Nat) ≠ 0 by decide)) (ne_hk b.x.wr h1 (show (2 : Nat) ≠ 0 by decide)) s.s1.symm s.s2.symm (ne_hk b.x.st h1 (show (2 : Nat) ≠ 0 by decide)), t1, far_of b.far t2⟩
theorem Both.same (b : Both P w C Pt h a T A H sm m ks gs L RL op) (e : Same H H') : Both P w C Pt h a T A H' sm m ks gs L RL op := by
  obtain ⟨t1, t2⟩ := tab_but b.tab (KeptB.of (S := []) e) (by simp) (by simp)
  exact ⟨b.hx.same e, b.t.same e, b.x.same e, t1, far_of b.far t2⟩
end
/-- one turn's whole knowledge -/
structure Turn (P : Program) (w : World) (C Pt h a : Addr) (T : TrD) (A : AccD) (H : Hp) (sm m : List WT) (ks gs : List Str) (L RL : List (Addr × RT)) (op : Bool) (n : Nat) : Prop where
  b : Both P w C Pt h a T A H sm m ks gs L RL op
  s : Sep h a T A
  xf : AccF A
  tf : TrF T sm m ks L
  o : One ks gs L RL
  l1 : m.length ≤ n
  l2 : ks.length ≤ n
  l3 : gs.length ≤ n
  l4 : L.length ≤ n
  l5 : RL.length ≤ n
section
variable {P : Program} {w : World} {C Pt h a : Addr} {T : TrD} {A : AccD} {H H' : Hp} {sm m m' : List WT} {ks gs ks' gs' : List Str} {L RL L' RL' : List (Addr × RT)} {op op' : Bool} {n : Nat}
theorem TrF.put {k : Str} {v : Option Int} (f : TrF T sm m ks L) (g : GoodW (k, v)) (hl : m.length < 40) : TrF T sm (putM m k v) ks L :=
  ⟨f.n1, f.n2, f.n3, f.n4, f.n0, f.sN, f.sL, putM_nodup f.mN, putM_good f.mG g, Nat.le_trans (putM_len m k v) hl, f.kN, f.kG, f.kL, f.rN, f.rG, f.rL⟩
theorem gotK_len (m : List WT) (ks : List Str) (k : Str) : (gotK m ks k).length ≤ ks.length + 1 := by
  unfold gotK
  split
  · omega
  · exact putS_len ks k
theorem gotG_len (m : List WT) (gs : List Str) (k : Str) : (gotG m gs k).length ≤ gs.length + 1 := by
  unfold gotG
  split
  · omega
  · rw [List.length_append]; exact Nat.le_refl _
theorem TrF.got {k : Str} (f : TrF T sm m ks L) (g : GoodK k) (hl : ks.length < 40) : TrF T sm m (gotK m ks k) L := by
  refine ⟨f.n1, f.n2, f.n3, f.n4, f.n0, f.sN, f.sL, f.mN, f.mG, f.mL, ?_, ?_, Nat.le_trans (gotK_len m ks k) hl, f.rN, f.rG, f.rL⟩
  · unfold gotK
    split
    · exact f.kN
    · exact putS_nodup f.kN
  · unfold gotK
    split
    · exact f.kG
    · intro y hy
      rcases putS_mem.mp hy with e | e
      · rw [e]; exact g
      · exact f.kG y e
theorem One.got {k : Str} (o : One ks gs L RL) : One (gotK m ks k) (gotG m gs k) L RL := by
  refine ⟨fun y => ?_, o.r⟩
  unfold gotK gotG
  split
  · exact o.g y
  · rw [putS_mem, List.mem_append, List.mem_singleton, o.g y]; exact Or.comm
theorem TrF.saw {lo hi : Str} {a : Addr} (f : TrF T sm m ks L) (g1 : GoodK lo) (g2 : GoodK hi) (hl : L.length < 40) : TrF T sm m ks (if ltS hi lo = true then L else putR L a (lo, hi, ownM m lo hi)) := by
  by_cases hlt : ltS hi lo = true
  · rw [if_pos hlt]; exact f
  · rw [if_neg hlt]
    have le : ltS hi lo = false := by simpa using hlt
    refine ⟨f.n1, f.n2, f.n3, f.n4, f.n0, f.sN, f.sL, f.mN, f.mG, f.mL, f.kN, f.kG, f.kL, putR_nodup f.rN, fun p hp => ?_, Nat.le_trans (putR_len L a _) hl⟩
    rcases putR_mem hp with e | e
    · rw [e]; exact own_good f.mG f.mN f.mL g1 g2 le
    · exact f.rG p e
theorem One.saw {lo hi : Str} {a a' : Addr} (o : One ks gs L RL) : One ks gs (if ltS hi lo = true then L else putR L a (lo, hi, ownM m lo hi)) (if ltS hi lo = true then RL else RL ++ [(a', (lo, hi, ownM m lo hi))]) := by
  refine ⟨o.g, fun r => ?_⟩
  by_cases hlt : ltS hi lo = true
  · rw [if_pos hlt, if_pos hlt]; exact o.r r
  · rw [if_neg hlt, if_neg hlt, putR_keys, List.map_append, List.mem_append, o.r r]
    show _ ↔ _ ∨ r ∈ [(lo, hi, ownM m lo hi)]
    rw [List.mem_singleton]; exact Or.comm
theorem saw_len {lo hi : Str} {a : Addr} {r : RT} (L : List (Addr × RT)) : (if ltS hi lo = true then L else putR L a r).length ≤ L.length + 1 := by
  split
  · omega
  · exact putR_len L a r
theorem sawG_len {lo hi : Str} {a : Addr} {r : RT} (L : List (Addr × RT)) : (if ltS hi lo = true then L else L ++ [(a, r)]).length ≤ L.length + 1 := by
  split
  · omega
  · rw [List.length_append]; exact Nat.le_refl _
end
end W30


/-! S34: _law_step. -/
namespace W30
open PySem PySem.Spec PyProof.Rows L2 LamX NdefX
theorem scal_mv (o : Option Int) : scal (mv o) (mv o) = true := by cases o <;> rfl
theorem eq_mv (o : Option Int) : decide (mv o = mv o) = true := decide_eq_true rfl
theorem flat_mv (o : Option Int) : flatV (mv o) = true ∧ eqV (mv o) (mv o) = true := by
  cases o with
  | none => exact ⟨rfl, rfl⟩
  | some i => exact ⟨rfl, by show (i == i) = true; simp⟩
/-- two lists of the same pairs are equal -/
theorem pairs_eq {K : PySem.W.Frag} {H : Hp} {p p' : Addr} {L L' : List (Addr × WT)} (h1 : H p = some (.lst (L.map fun z => V.ref z.1))) (h2 : H p' = some (.lst (L'.map fun z => V.ref z.1))) (g1 : ∀ z ∈ L, PairX H z.1 z.2) (g2 : ∀ z ∈ L', PairX H z.1 z.2) (e : L.map (·.2) = L'.map (·.2)) :
    DList (DTup K DFlat) (.ref p) (.ref p') H := by
  refine ⟨p, p', _, _, rfl, rfl, h1, h2, ?_, fun i x y hx hy => ?_⟩
  · have := congrArg List.length e
    rwa [List.length_map, List.length_map] at this ⊢
  · rw [List.getElem?_map] at hx hy
    obtain ⟨u, hu, rfl⟩ := Option.map_eq_some_iff.mp hx
    obtain ⟨v, hv, rfl⟩ := Option.map_eq_some_iff.mp hy
    have e2 : u.2 = v.2 := by
      have z1 : (L.map (·.2))[i]? = some u.2 := by rw [List.getElem?_map, hu]; rfl
      have z2 : (L'.map (·.2))[i]? = some v.2 := by rw [List.getElem?_map, hv]; rfl
      rw [e, z2] at z1
      exact (Option.some.inj z1).symm
    have p1 := g1 u (List.mem_of_getElem? hu)
    have p2 := g2 v (List.mem_of_getElem? hv)
    rw [← e2] at p2
    exact ⟨u.1, v.1, _, _, rfl, rfl, SqT.of p1, SqT.of p2, Prs.cons ⟨rfl, rfl, by show (u.2.1 == u.2.1) = true; simp⟩ (Prs.cons ⟨(flat_mv _).1, (flat_mv _).1, (flat_mv _).2⟩ Prs.nil)⟩
def ifBody : Stmt → List Stmt
  | .If _ b _ _ => b
  | _ => []
abbrev rangedTail : List Stmt := (ifBody ((defBody st_l_step).getD 2 (.Pass ⟨0, 0, 0, 0⟩))).drop 2
section
variable {P : Program} {w : World} {K : PySem.W.Frag} {mg : Str → Option Value} {base : Heap}
def spStep (P : Program) (w : World) (C Pt : Addr) : Sp := fun vs H Q _ => ∃ (h a : Addr) (T : TrD) (A : AccD) (sm m : List WT) (ks gs : List Str) (L RL : List (Addr × RT)) (n : Nat), vs = [.ref h, .ref T.x, .ref A.ac] ∧ Turn P w C Pt h a T A H sm m ks gs L RL true n ∧ n < 40 ∧
  ∀ (m' : List WT) (ks' gs' : List Str) (L' RL' : List (Addr × RT)) (H' : Hp), Turn P w C Pt h a T A H' sm m' ks' gs' L' RL' true (n + 1) → Q (.bl true) H'
/-- what the step calls -/
structure StepFns (P : Program) (w : World) (K : PySem.W.Frag) (mg : Str → Option Value) (base : Heap) (C fD fK fW fG fR gG gB gP gO : Addr) (dD dK dW dG dR eG eB eP eO : FuncData) : Prop where
  GD : FnOk P w K mg base CX0 1 fD dD ["_law_hand_here", "_law_many"] spDraw
  mD : mg "_law_draw" = some (.ref fD)
  kD : PySem.W.keepIn K (.ref fD) = true
  bD : L2.Binds K dD ["_law_hand_here", "_law_many"] []
  GK : FnOk P w K mg base CX0 3 fK dK ["_law_hand_here"] spLKey
  mK : mg "_law_key" = some (.ref fK)
  kK : PySem.W.keepIn K (.ref fK) = true
  bK : L2.Binds K dK ["_law_hand_here"] []
  GW : FnOk P w K mg base CX0 3 fW dW ["_law_hand_here"] spLWorth
  mW : mg "_law_worth" = some (.ref fW)
  kW : PySem.W.keepIn K (.ref fW) = true
  bW : L2.Binds K dW ["_law_hand_here"] []
  GG : FnOk P w K mg base CX0 1 fG dG ["_law_account_here", "_law_key_here"] spGot
  mG : mg "_law_got" = some (.ref fG)
  kG : PySem.W.keepIn K (.ref fG) = true
  bG : L2.Binds K dG ["_law_account_here", "_law_key_here"] []
  GR : FnOk P w K mg base CX0 2 fR dR ["_law_account_here", "_law_low", "_law_high"] spRanged
  mR : mg "_law_ranged" = some (.ref fR)
  kR : PySem.W.keepIn K (.ref fR) = true
  bR : L2.Binds K dR ["_law_account_here", "_law_low", "_law_high"] []
  TG : FnOk P w K mg base CX0 3 gG eG ["self", "key"] (spGet P w C)
  nG : Meth K C "get" gG
  cG : L2.Binds K eG ["self", "key"] []
  TB : FnOk P w K mg base CX0 3 gB eB ["self", "low", "high"] (spBetw P w C)
  nB : Meth K C "between" gB
  cB : L2.Binds K eB ["self", "low", "high"] []
  TP : FnOk P w K mg base CX0 4 gP eP ["self", "key", "worth"] (spPut P w C)
  nP : Meth K C "put" gP
  cP : L2.Binds K eP ["self", "key", "worth"] []
  TO : FnOk P w K mg base CX0 3 gO eO ["self", "key"] (spDrop P w C)
  nO : Meth K C "drop" gO
  cO : L2.Binds K eO ["self", "key"] []
theorem ok_l_step {f C Pt fD fK fW fG fR gG gB gP gO : Addr} {fd dD dK dW dG dR eG eB eP eO : FuncData} (F : Fun K "_law_step" "_law_step" st_l_step f fd) (B : Bt mg) (T : TCls K mg C) (S : StepFns P w K mg base C fD fK fW fG fR gG gB gP gO dD dK dW dG dR eG eB eP eO) :
    FnOk P w K mg base CX0 5 f fd ["_law_hand_here", "_law_one", "_law_account_here"] (spStep P w C Pt) := by
  refine F.ok sc_l_step (fun vs H Q E h => ?_) (fun cdv Ar outer s H vs Q E hr h => ?_)
  · obtain ⟨h, a, T, A, sm, m, ks, gs, L, RL, n, rfl, _⟩ := h; rfl
  · obtain ⟨h, a, D, A, sm, m, ks, gs, L, RL, n, rfl, t, hn, q⟩ := h
    have hu := lt_units hr.units
    have cl := T.cl
    have l1 := t.l1
    have l2 := t.l2
    have l3 := t.l3
    have l4 := t.l4
    have l5 := t.l5
    have hr1 : Room 1 _ := hr.mono (by decide)
    have hr2 : Room 2 _ := hr.mono (by decide)
    have hr3 : Room 3 _ := hr.mono (by decide)
    have noM : noneOf "get" = true ∧ noneOf "between" = true ∧ noneOf "put" = true ∧ noneOf "drop" = true := by decide +kernel
    obtain ⟨nm1, nm2, nm3, nm4⟩ := noM
    -- the ranged way's end
    obtain ⟨u, pu, qu⟩ : ∃ u, PSs (cxOf CX0 P w K mg base ["_law_hand_here", "_law_one", "_law_account_here", "_law_kind", "_law_key_here", "_law_other", "_law_low", "_law_high", "_law_told", "_law_worth_here"] "_law_step" (defScope st_l_step) f cdv Ar outer s H E).nox rangedTail u ∧
        ∀ (v3 v4 v5 v8 v9 : Option V) (lo hi : Str) (H2 : Hp) (nx : L2.St → Hp → Prop), GoodK lo → GoodK hi → Both P w C Pt h a D A H2 sm m ks gs L RL true → u { nx := nx, rt := Q } [some (.ref h), some (.ref D.x), some (.ref A.ac), v3, v4, v5, some (.str lo), some (.str hi), v8, v9] H2 := by
      refine ⟨_, pss_cons (ps_set (i := 8) sc_l_step.nd rfl (Or.inl rfl) (pe_meth (pv 1) cl S.nB S.TB hr3 S.cB .nil pass0 (pa_cons (pv 6) (pa_cons (pv 7) pa_nil))))
        (pss_one (ps_ret (pe_and (pe_callB call_isi (by rfl) B.b_isinstance (by decide +kernel) (pa_cons (pv 8) (pa_cons (pe_bltn (v := .ty "list") (by rfl) B.b_list (by decide +kernel) rfl) pa_nil)))
          (pe_one (pe_cmpR (op_eqG (n := 2) (rcG_list (mon_tup mon_flat) (eqG_tup mon_flat eqG_flat)) hr2) (pv 8) (pe_call S.GR hr2 rfl S.mR S.kR S.bR .nil pass0 (pa_cons (pv 2) (pa_cons (pv 6) (pa_cons (pv 7) pa_nil)))) (nomark _)))))), fun v3 v4 v5 v8 v9 lo hi H2 nx g1 g2 b => ?_⟩
      refine ⟨_, rfl, D.x, D.dx, _, rfl, b.t.ob, t_no nm2, _, rfl, _, rfl, D, sm, m, ks, L, lo, hi, rfl, b.t, t.tf, g1, g2, fun p a1 H3 L2 k3 hp hL2 eL2 t3 old3 => ?_⟩
      have y3 := b.hx.oth b.t.rg k3 (show (9 : Nat) ≠ 0 by decide)
      have x3 := b.x.oth b.t.rg k3 (show (9 : Nat) ≠ 0 by decide) (show (9 : Nat) ≠ 1 by decide) (show (9 : Nat) ≠ 2 by decide)
      obtain ⟨tab3, tb3⟩ := tab_but b.tab k3 (fun b' z => by
        rw [List.mem_singleton.mp z]
        obtain ⟨ps, h1, _⟩ := b.tab
        exact ne_hk b.t.rg h1 (show (9 : Nat) ≠ 11 by decide)) (fun ps hps pos cv hcv c ec z => b.far ps hps pos cv hcv (by rw [ec, List.mem_singleton.mp z]))
      have f3 := far_of b.far tb3
      refine ⟨_, rfl, _, _, _, _, true, rfl, .ty "list", .base (.lst hp), kit_ty (by decide +kernel), true, rfl, ?_⟩
      refine ⟨_, rfl, _, rfl, _, rfl, _, rfl, A, sm, m, gs, RL, lo, hi, rfl, x3, t.xf, t.tf.sN, t.tf.sL, t.tf.mN, t.tf.mL, by omega, fun p' a2 H4 L2' k4 hp' hL2' eL2' x4 => ?_⟩
      have np : p ≠ A.rl := (old3 _ _ b.x.rg).symm
      have hp4 := k4 _ _ hp fun z => np (List.mem_singleton.mp z)
      have hL24 : ∀ z ∈ L2, PairX H4 z.1 z.2 := fun z hz => k4 _ _ (hL2 z hz) fun y => ne_hk (hL2 z hz) x3.rg (show (1 : Nat) ≠ 0 by decide) (List.mem_singleton.mp y)
      refine ⟨pairs_eq hp4 hp' hL24 hL2' (by rw [eL2, eL2']), fun H5 s5 => ?_⟩
      have t4 := t3.lst x3.rg k4
      have y4 := y3.kept k4 (fun z => t.s.s2 (List.mem_singleton.mp z)) (fun z => t.s.s4 (List.mem_singleton.mp z))
      obtain ⟨tab4, tb4⟩ := tab_one tab3 x3.rg k4 (show (0 : Nat) ≠ 9 by decide) (show (0 : Nat) ≠ 11 by decide)
      have b4 : Both P w C Pt h a D A H4 sm m ks gs _ _ true := ⟨y4, t4, x4, tab4, far_of f3 tb4⟩
      exact q m ks gs _ _ H5 ⟨b4.same s5, t.s, t.xf, t.tf.saw g1 g2 (by omega), t.o.saw, by omega, by omega, by omega, Nat.le_trans (saw_len L) (by omega), Nat.le_trans (sawG_len RL) (by omega)⟩
    refine ⟨_, pss_cons (ps_par (i := 3) (j := 4) (by rfl) sc_l_step.nd rfl rfl (by decide) rfl rfl (pa_cons (pe_call S.GD hr1 rfl S.mD S.kD S.bD .nil pass0 (pa_cons (pv 0) (pa_cons pe_int pa_nil))) (pa_cons (pe_call S.GK hr3 rfl S.mK S.kK S.bK .nil pass0 (pa_cons (pv 0) pa_nil)) pa_nil)) (by rfl))
      (pss_cons (ps_if (pt_cmpR op_lt (pv 3) pe_int (nomark _)) (pss_one (ps_ret (pe_cmpR op_eq (pe_meth (pv 1) cl S.nG S.TG hr3 S.cG .nil pass0 (pa_cons (pv 4) pa_nil)) (pe_call S.GG hr1 rfl S.mG S.kG S.bG .nil pass0 (pa_cons (pv 2) (pa_cons (pv 4) pa_nil))) (nomark _)))) pss_nil)
      (pss_cons (ps_if (pt_cmpR op_lt (pv 3) pe_int (nomark _))
        (pss_cons (ps_set (i := 5) sc_l_step.nd rfl (Or.inl rfl) (pe_call S.GK hr3 rfl S.mK S.kK S.bK .nil pass0 (pa_cons (pv 0) pa_nil)))
        (pss_cons (ps_asg (pe_ifExp (pt_cmpR op_eq (pe_call S.GD hr1 rfl S.mD S.kD S.bD .nil pass0 (pa_cons (pv 0) (pa_cons pe_int pa_nil))) pe_int (nomark _)) (pe_tup (pa_cons (pv 4) (pa_cons (pv 5) pa_nil)))
            (pe_tup (pa_cons (pe_callB (call_minS rfl) (by rfl) B.b_min (by decide +kernel) (pa_cons (pv 4) (pa_cons (pv 5) pa_nil))) (pa_cons (pe_callB (call_maxS rfl) (by rfl) B.b_max (by decide +kernel) (pa_cons (pv 4) (pa_cons (pv 5) pa_nil))) pa_nil))))
          (pg_tup rfl (pgs_cons (pg_name (i := 6) sc_l_step.nd rfl (Or.inl rfl)) (pgs_cons (pg_name (i := 7) sc_l_step.nd rfl (Or.inl rfl)) pgs_nil)))) pu)) pss_nil)
      (pss_cons (ps_if (pt_cmpR op_lt (pv 3) pe_int (nomark _))
        (pss_cons (ps_set (i := 9) sc_l_step.nd rfl (Or.inl rfl) (pe_call S.GW hr3 rfl S.mW S.kW S.bW .nil pass0 (pa_cons (pv 0) pa_nil)))
        (pss_cons (ps_dput hu (pe_dget hu (pv 2) pe_str (fun _ _ => rfl)) (pv 4) (pv 9) rfl)
        (pss_one (ps_ret (pe_cmp (pc_isN (pe_meth (pv 1) cl S.nP S.TP hr S.cP .nil pass0 (pa_cons (pv 4) (pa_cons (pv 9) pa_nil)))) rfl))))) pss_nil)
      (pss_cons (ps_dput hu (pe_dget hu (pv 2) pe_str (fun _ _ => rfl)) (pv 4) pe_non rfl)
      (pss_one (ps_ret (pe_cmp (pc_isN (pe_meth (pv 1) cl S.nO S.TO hr3 S.cO .nil pass0 (pa_cons (pv 4) pa_nil))) rfl))))))), ?_⟩
    -- the write into the account
    have wrote : ∀ {H2 : Hp} {k : Str} {v : Option Int}, GoodW (k, v) → Both P w C Pt h a D A H2 sm m ks gs L RL true →
        (upd H2 A.wd (.dK (dk (putM m k v)))) D.x = some (.ins C D.dx (tFlds D.n D.f D.g D.wd D.kd D.rd true)) ∧ TrAt P w C D (upd H2 A.wd (.dK (dk (putM m k v)))) sm m ks L true ∧
        ∀ H3, KeptB [D.wd] (upd H2 A.wd (.dK (dk (putM m k v)))) H3 → TrAt P w C D H3 sm (putM m k v) ks L true → Q (.bl true) H3 := by
      intro H2 k v g b
      have k3 : KeptB [A.wd] H2 (upd H2 A.wd (.dK (dk (putM m k v)))) := KeptB.one
      have t3 := b.t.aside b.x.wr k3 (show (2 : Nat) ≠ 9 by decide) (show (2 : Nat) ≠ 1 by decide) (show (2 : Nat) ≠ 5 by decide) t.s.s5.symm t.s.s6.symm (by rw [← t.s.es]; exact t.xf.n3.symm)
      have x3 := b.x.put t.xf k3 (m' := putM m k v) upd_same
      have y3 := b.hx.oth b.x.wr k3 (show (2 : Nat) ≠ 0 by decide)
      obtain ⟨tab3, tb3⟩ := tab_one b.tab b.x.wr k3 (show (2 : Nat) ≠ 9 by decide) (show (2 : Nat) ≠ 11 by decide)
      refine ⟨t3.ob, t3, fun H4 k4 t4 => ?_⟩
      have x4 := x3.dks t3.wr k4 t.s.s7.symm t.s.s5 (by rw [t.s.es]; exact t.tf.n2.symm)
      have y4 := y3.oth t3.wr k4 (show (2 : Nat) ≠ 0 by decide)
      obtain ⟨tab4, tb4⟩ := tab_one tab3 t3.wr k4 (show (2 : Nat) ≠ 9 by decide) (show (2 : Nat) ≠ 11 by decide)
      exact q (putM m k v) ks gs L RL H4 ⟨⟨y4, t4, x4, tab4, far_of (far_of b.far tb3) tb4⟩, t.s, t.xf, t.tf.put g (by omega), t.o, Nat.le_trans (putM_len m k v) (by omega), by omega, by omega, by omega, by omega⟩
    refine ⟨_, rfl, h, a, 10, rfl, t.b.hx, by decide, by decide, fun kind H1 z0 z1 y1 k1 => ?_⟩
    have b1 := t.b.drew t.s y1 k1
    refine ⟨_, rfl, h, a, rfl, b1.hx, fun k H2 gk y2 k2 => ?_⟩
    have b2 := b1.drew t.s y2 k2
    refine ⟨_, _, rfl, ?_⟩
    refine ⟨_, rfl, kind, 3, rfl, rfl, _, rfl, ?_⟩
    refine ite2 (fun _ => ?_) (fun _ => ?_)
    · refine ⟨_, rfl, D.x, D.dx, _, rfl, b2.t.ob, t_no nm1, _, rfl, D, sm, m, ks, L, k, rfl, b2.t, t.tf, gk, fun H3 k3 t3 => ?_⟩
      have x3 := b2.x.dks b2.t.ky k3 t.s.s8.symm t.s.s6 (by rw [t.s.es]; exact t.tf.n3.symm)
      have y3 := b2.hx.oth b2.t.ky k3 (show (2 : Nat) ≠ 0 by decide)
      obtain ⟨tab3, tb3⟩ := tab_one b2.tab b2.t.ky k3 (show (2 : Nat) ≠ 9 by decide) (show (2 : Nat) ≠ 11 by decide)
      refine ⟨_, rfl, _, rfl, A, sm, m, gs, RL, k, rfl, x3, t.xf, by omega, fun H4 k4 x4 => ?_⟩
      have t4 := t3.lst x3.gt k4
      have y4 := y3.kept k4 (fun z => t.s.s1 (List.mem_singleton.mp z)) (fun z => t.s.s3 (List.mem_singleton.mp z))
      obtain ⟨tab4, tb4⟩ := tab_one tab3 x3.gt k4 (show (0 : Nat) ≠ 9 by decide) (show (0 : Nat) ≠ 11 by decide)
      refine ⟨scal_mv _, ?_⟩
      rw [eq_mv]
      exact q m _ _ L RL H4 ⟨⟨y4, t4, x4, tab4, far_of (far_of b2.far tb3) tb4⟩, t.s, t.xf, t.tf.got gk (by omega), t.o.got, by omega, Nat.le_trans (gotK_len m ks k) (by omega), Nat.le_trans (gotG_len m gs k) (by omega), by omega, by omega⟩
    · refine ⟨_, rfl, kind, 5, rfl, rfl, _, rfl, ?_⟩
      refine ite2 (fun _ => ?_) (fun _ => ?_)
      · refine ⟨_, rfl, h, a, rfl, b2.hx, fun o H3 go y3 k3 => ?_⟩
        have b3 := b2.drew t.s y3 k3
        refine ⟨_, rfl, h, a, 4, rfl, b3.hx, by decide, by decide, fun z4 H4 z40 z41 y4 k4 => ⟨rfl, _, rfl, ?_⟩⟩
        have b4 := b3.drew t.s y4 k4
        refine ite2 (fun _ => ?_) (fun _ => ?_)
        · refine ⟨_, rfl, _, rfl, (by show 2 ≤ sizeLine; decide), fun p hp => ?_⟩
          exact ⟨p, _, rfl, SqT.of upd_same, rfl, _, _, rfl, _, _, rfl, rfl, qu _ _ _ _ _ k o _ _ gk go (b4.same (same_new hp))⟩
        · refine ⟨_, rfl, _, rfl, k, o, rfl, _, rfl, _, rfl, k, o, rfl, (by show 2 ≤ sizeLine; decide), fun p hp => ?_⟩
          refine ⟨p, _, rfl, SqT.of upd_same, rfl, _, _, rfl, _, _, rfl, rfl, qu _ _ _ _ _ _ _ _ _ ?_ ?_ (b4.same (same_new hp))⟩
          · split
            · exact go
            · exact gk
          · split
            · exact go
            · exact gk
      · refine ⟨_, rfl, kind, 8, rfl, rfl, _, rfl, ?_⟩
        refine ite2 (fun _ => ?_) (fun _ => ?_)
        · refine ⟨_, rfl, h, a, rfl, b2.hx, fun v H3 v1 v2 y3 k3 => ?_⟩
          have b3 := b2.drew t.s y3 k3
          have ml := l1
          refine ⟨_, rfl, _, rfl, A.ac, _, rfl, .inl ⟨_, Sum.inr "writes", .inl b3.x.dc, rfl, a_writes.symm⟩, _, rfl, A.wd, _, rfl, DPut.k (k := Sum.inr k) b3.x.wr (by rw [dk_len]; exact small1000 (by omega)), ?_⟩
          have e : putK (dk m) (Sum.inr k) (V.int v) = dk (putM m k (some v)) := dk_put m k (some v)
          rw [e]
          obtain ⟨w1, w2, w3⟩ := wrote (k := k) (v := some v) ⟨gk, fun i z => by cases z; exact ⟨v1, v2⟩⟩ b3
          exact ⟨_, rfl, D.x, D.dx, _, rfl, w1, t_no nm3, _, rfl, _, rfl, D, sm, m, ks, L, k, v, rfl, w2, t.tf, gk, v1, v2, fun H4 k4 t4 => w3 H4 k4 t4⟩
        · refine ⟨_, rfl, A.ac, _, rfl, .inl ⟨_, Sum.inr "writes", .inl b2.x.dc, rfl, a_writes.symm⟩, _, rfl, A.wd, _, rfl, DPut.k (k := Sum.inr k) b2.x.wr (by rw [dk_len]; exact small1000 (by omega)), ?_⟩
          have e : putK (dk m) (Sum.inr k) V.non = dk (putM m k none) := dk_put m k none
          rw [e]
          obtain ⟨w1, w2, w3⟩ := wrote (k := k) (v := none) ⟨gk, fun i z => by cases z⟩ b2
          exact ⟨_, rfl, D.x, D.dx, _, rfl, w1, t_no nm4, _, rfl, D, sm, m, ks, L, k, rfl, w2, t.tf, gk, fun H4 k4 t4 => w3 H4 k4 t4⟩
end
end W30


/-! S35: _law_seen_right. -/
namespace W30
open PySem PySem.Spec PyProof.Rows L2 LamX NdefX
section
variable {P : Program} {w : World} {C Pt h a : Addr} {T : TrD} {A : AccD} {H H' : Hp} {sm m : List WT} {ks gs : List Str} {L RL : List (Addr × RT)} {op : Bool} {n : Nat}
theorem Turn.same (t : Turn P w C Pt h a T A H sm m ks gs L RL op n) (e : Same H H') : Turn P w C Pt h a T A H' sm m ks gs L RL op n := ⟨t.b.same e, t.s, t.xf, t.tf, t.o, t.l1, t.l2, t.l3, t.l4, t.l5⟩
theorem Turn.drew (t : Turn P w C Pt h a T A H sm m ks gs L RL op n) (y : HandAt H' h a) (k : KeptB [h] H H') : Turn P w C Pt h a T A H' sm m ks gs L RL op n := ⟨t.b.drew t.s y k, t.s, t.xf, t.tf, t.o, t.l1, t.l2, t.l3, t.l4, t.l5⟩
/-- the keys are one -/
theorem Turn.keys (t : Turn P w C Pt h a T A H sm m ks gs L RL op n) {ys : List Str} (as : AscS ys) (e : ∀ y, y ∈ ys ↔ y ∈ gs) : ys = sk ks :=
  ascS_one as (sk_asc t.tf.kN) fun y => by rw [e y, ← t.o.g y, sk_mem]
/-- the ranges are one -/
theorem Turn.rngs (t : Turn P w C Pt h a T A H sm m ks gs L RL op n) {L1 L2 : List (Addr × RT)} (a1 : AscR (L1.map (·.2))) (p1 : L1.Perm L) (a2 : AscR (L2.map (·.2))) (g1 : ∀ p ∈ L2, p ∈ RL) (g2 : ∀ p ∈ RL, p.2 ∈ L2.map (·.2)) : L2.map (·.2) = L1.map (·.2) := by
  refine ascR_one a2 a1 fun r => ?_
  rw [(p1.map (·.2)).mem_iff, t.o.r r]
  constructor
  · intro hr
    obtain ⟨p, hp, rfl⟩ := List.mem_map.mp hr
    exact List.mem_map.mpr ⟨p, g1 p hp, rfl⟩
  · intro hr
    obtain ⟨p, hp, rfl⟩ := List.mem_map.mp hr
    exact g2 p hp
end
theorem dp_acc {K : PySem.W.Frag} {H : Hp} {t ga ra wa : Addr} {ys : List Str} {L : List (Addr × RT)} {W : List (Addr × WT)} (ht : H t = some (.tup [.ref ga, .ref ra, .ref wa])) (hg : H ga = some (.tup (ys.map V.str))) (hr : H ra = some (.tup (L.map fun z => V.ref z.1))) (hL : ∀ p ∈ L, TupX H p.1 p.2)
    (hw : H wa = some (.tup (W.map fun z => V.ref z.1))) (hW : ∀ z ∈ W, PairX H z.1 z.2) : Dp K H (.ref t) (accD ys (L.map (·.2)) (W.map (·.2))) :=
  .tup (SqT.of ht) (.cons (dp_strs (SqT.of hg)) (.cons (dp_rngs (SqT.of hr) fun p hp => (hL p hp).r) (.cons (dp_ws (SqT.of hw) fun z hz => (hW z hz).at) .nil)))
section
variable {P : Program} {w : World} {K : PySem.W.Frag} {mg : Str → Option Value} {base : Heap}
def spSeen (P : Program) (w : World) (C Pt : Addr) : Sp := fun vs H Q _ => ∃ (h a : Addr) (T : TrD) (A : AccD) (sm m : List WT) (ks gs : List Str) (L RL : List (Addr × RT)) (op : Bool) (n : Nat), vs = [.ref T.x, .ref A.ac] ∧ Turn P w C Pt h a T A H sm m ks gs L RL op n ∧ n ≤ 40 ∧ ∀ H', Same H H' → Q (.bl true) H'
theorem ok_l_seen {f C Pt fP fK fR fW : Addr} {fd dP dK dR dW : FuncData} (F : Fun K "_law_seen_right" "_law_seen_right" st_l_seen f fd) (B : Bt mg) (T : TCls K mg C)
    (GP : FnOk P w K mg base CX0 1 fP dP ["_law_account_here"] spParts) (mP : mg "_law_parts" = some (.ref fP)) (kP : PySem.W.keepIn K (.ref fP) = true) (bP : L2.Binds K dP ["_law_account_here"] [])
    (GK : FnOk P w K mg base CX0 1 fK dK ["self"] (spSawK P w C)) (mK : Meth K C "saw_keys" fK) (bK : L2.Binds K dK ["self"] []) (GR : FnOk P w K mg base CX0 1 fR dR ["self"] (spSawR P w C)) (mR : Meth K C "saw_ranges" fR) (bR : L2.Binds K dR ["self"] [])
    (GW : FnOk P w K mg base CX0 1 fW dW ["self"] (spWrote P w C)) (mW : Meth K C "wrote" fW) (bW : L2.Binds K dW ["self"] []) : FnG P w K mg base 2 f fd ["_law_one", "_law_account_here"] (spSeen P w C Pt) := by
  refine okG F sc_l_seen (fun vs H Q E h => ?_) (fun cdv Ar outer s H vs Q E hg hr h => ?_)
  · obtain ⟨h, a, T, A, sm, m, ks, gs, L, RL, op, n, rfl, _⟩ := h; rfl
  · obtain ⟨h, a, D, A, sm, m, ks, gs, L, RL, op, n, rfl, t, hn, q⟩ := h
    have cl := T.cl
    have gd : ∀ env : Env, (Ar.deeper env).guards = some [] := fun _ => hg
    obtain ⟨nm1, nm2, nm3⟩ : noneOf "saw_keys" = true ∧ noneOf "saw_ranges" = true ∧ noneOf "wrote" = true := by decide +kernel
    have l1 := t.l1
    have l2 := t.l2
    have l3 := t.l3
    have l4 := t.l4
    have l5 := t.l5
    refine ⟨_, pss_cons (ps_asg (pe_call GP hr rfl mP kP bP .nil pass0 (pa_cons (pv 1) pa_nil)) (pg_tup rfl (pgs_cons (pg_name (i := 2) sc_l_seen.nd rfl (Or.inl rfl)) (pgs_cons (pg_name (i := 3) sc_l_seen.nd rfl (Or.inl rfl)) (pgs_cons (pg_name (i := 4) sc_l_seen.nd rfl (Or.inl rfl)) pgs_nil)))))
      (pss_cons (ps_if (pt_cmpR op_ne (pe_callB (cr_repr (gd _) hr.units) (by rfl) B.b_repr (by decide +kernel) (pa_cons (pe_tup (pa_cons (pe_meth0 (pv 0) cl mK GK hr bK .nil pass0) (pa_cons (pe_meth0 (pv 0) cl mR GR hr bR .nil pass0) (pa_cons (pe_meth0 (pv 0) cl mW GW hr bW .nil pass0) pa_nil)))) pa_nil))
          (pe_callB (cr_repr (gd _) hr.units) (by rfl) B.b_repr (by decide +kernel) (pa_cons (pe_tup (pa_cons (pv 2) (pa_cons (pv 3) (pa_cons (pv 4) pa_nil)))) pa_nil)) (nomark _)) (pss_one (ps_ret pe_bl)) pss_nil)
      (pss_one (ps_ret (pe_and (pe_callB call_isi (by rfl) B.b_isinstance (by decide +kernel) (pa_cons (pe_meth0 (pv 0) cl mK GK hr bK .nil pass0) (pa_cons (pe_bltn (v := .ty "tuple") (by rfl) B.b_tuple (by decide +kernel) rfl) pa_nil)))
        (pe_one (pe_callB call_isi (by rfl) B.b_isinstance (by decide +kernel) (pa_cons (pe_meth0 (pv 0) cl mR GR hr bR .nil pass0) (pa_cons (pe_bltn (v := .ty "tuple") (by rfl) B.b_tuple (by decide +kernel) rfl) pa_nil)))))))), ?_⟩
    refine ⟨_, rfl, A, sm, m, gs, RL, rfl, t.b.x, t.tf.mN, t.tf.mL, by omega, by omega, fun tp ga ra wa ys L1 W1 H1 s1 htp hga as1 e1 hra as2 g1 g2 hwa hW1 eW1 => ?_⟩
    refine ⟨tp, _, rfl, SqT.of htp, rfl, _, _, rfl, _, _, rfl, _, _, rfl, rfl, ?_⟩
    have t1 := t.same s1
    refine ⟨_, rfl, D.x, D.dx, _, rfl, t1.b.t.ob, t_no nm1, D, sm, m, ks, L, op, rfl, t1.b.t, t.tf, fun ka H2 s2 _ hka => ?_⟩
    have t2 := t1.same s2
    refine ⟨_, rfl, D.x, D.dx, _, rfl, t2.b.t.ob, t_no nm2, D, sm, m, ks, L, op, rfl, t2.b.t, t.tf, fun rb H3 L2 s3 _ hrb as3 pm3 => ?_⟩
    have t3 := t2.same s3
    refine ⟨_, rfl, D.x, D.dx, _, rfl, t3.b.t.ob, t_no nm3, D, sm, m, ks, L, op, rfl, t3.b.t, t.tf, fun wb H4 W2 s4 _ hwb hW2 eW2 => ?_⟩
    have t4 := t3.same s4
    refine ⟨(by show 3 ≤ sizeLine; decide), fun u hu => ?_⟩
    have s5 := same_new (o := .tup [.ref ka, .ref rb, .ref wb]) hu
    have ek : ys = sk ks := t.keys as1 e1
    have er : L1.map (·.2) = L2.map (·.2) := t.rngs as3 pm3 as2 g1 g2
    have t5 := t4.same s5
    have gk : ∀ k ∈ sk ks, GoodK k := fun k hk => t.tf.kG k (sk_mem.mp hk)
    have gr : ∀ r ∈ L2.map (·.2), GoodR r := fun r hr => by
      obtain ⟨p, hp, rfl⟩ := List.mem_map.mp hr
      exact t.tf.rG p (pm3.mem_iff.mp hp)
    have gw : ∀ p ∈ wsM m (sk (keysM m)), GoodW p := fun p hp => by
      obtain ⟨k, hk, rfl⟩ := List.mem_map.mp hp
      exact worth_good t.tf.mG (sk_mem.mp hk)
    have wl : (wsM m (sk (keysM m))).length ≤ 40 := by
      rw [ws_len, sk_len]
      exact Nat.le_trans (Nat.le_of_eq (List.length_map ..)) t.tf.mL
    have fn : Fine (accD (sk ks) (L2.map (·.2)) (wsM m (sk (keysM m)))) 4 187683 := fine_acc gk (by rw [sk_len]; exact t.tf.kL) gr (by rw [List.length_map, pm3.length_eq]; exact t.tf.rL) gw wl
    have d1 := dp_acc (K := K) (t := u) (H := upd H4 u (.tup [.ref ka, .ref rb, .ref wb])) upd_same ((s3.trans s4).trans s5 _ _ hka) ((s4.trans s5) _ _ hrb) (fun p hp => t5.b.t.rL p (pm3.mem_iff.mp hp)) (s5 _ _ hwb) (fun z hz => (hW2 z hz).same s5)
    rw [eW2] at d1
    refine ⟨u, _, rfl, d1, fn.sh, fn.nd, Nat.le_trans fn.dp (by decide), fn.fits (by decide), ?_⟩
    refine ⟨_, rfl, _, rfl, _, rfl, (by show 3 ≤ sizeLine; decide), fun v hv => ?_⟩
    have s6 := same_new (o := .tup [.ref ga, .ref ra, .ref wa]) hv
    have t6 := t5.same s6
    have s16 : Same H1 (upd (upd H4 u (.tup [.ref ka, .ref rb, .ref wb])) v (.tup [.ref ga, .ref ra, .ref wa])) := (((s2.trans s3).trans s4).trans s5).trans s6
    have d2 := dp_acc (K := K) (t := v) (H := upd (upd H4 u (.tup [.ref ka, .ref rb, .ref wb])) v (.tup [.ref ga, .ref ra, .ref wa])) upd_same (s16 _ _ hga) (s16 _ _ hra) (fun p hp => t6.b.x.rL p (g1 p hp)) (s16 _ _ hwa) (fun z hz => (hW1 z hz).same s16)
    rw [eW1, ek, er] at d2
    refine ⟨v, _, rfl, d2, fn.sh, fn.nd, Nat.le_trans fn.dp (by decide), fn.fits (by decide), rfl, _, rfl, ?_⟩
    refine iteNS rfl ?_
    refine ⟨_, rfl, D.x, D.dx, _, rfl, t6.b.t.ob, t_no nm1, D, sm, m, ks, L, op, rfl, t6.b.t, t.tf, fun p7 H7 s7 _ hp7 => ?_⟩
    refine ⟨_, _, _, _, true, rfl, .ty "tuple", .base (.tup hp7), kit_ty (by decide +kernel), true, rfl, ?_⟩
    have t7 := t6.same s7
    refine ⟨_, rfl, D.x, D.dx, _, rfl, t7.b.t.ob, t_no nm2, D, sm, m, ks, L, op, rfl, t7.b.t, t.tf, fun p8 H8 L8 s8 _ hp8 _ _ => ?_⟩
    refine ⟨_, _, _, _, true, rfl, .ty "tuple", .base (.tup hp8), kit_ty (by decide +kernel), ?_⟩
    exact q H8 (((s1.trans s16).trans s7).trans s8)
end
end W30


/-! S36: _law_dealing_right. -/
namespace W30
open PySem PySem.Spec PyProof.Rows L2 LamX NdefX
structure Lay (d : PyData) (n : Nat) : Prop where
  l : d.canLay0 = true
  dp : d.depth ≤ n
theorem all_lay : ∀ ds : List PyData, (∀ d ∈ ds, d.canLay0 = true) → PyData.canLayAll0 ds = true
  | [], _ => rfl
  | d :: ds, h => by
    simp only [PyData.canLayAll0, Bool.and_eq_true]
    exact ⟨h d List.mem_cons_self, all_lay ds fun e he => h e (List.mem_cons_of_mem _ he)⟩
theorem Lay.tup {ds : List PyData} {n : Nat} (h : ∀ d ∈ ds, Lay d n) : Lay (.tuple ds) (n + 1) := by
  refine ⟨?_, ?_⟩
  · simp only [PyData.canLay0]; exact all_lay ds fun d hd => (h d hd).l
  · simp only [PyData.depth]; exact Nat.succ_le_succ (all_depth ds fun d hd => (h d hd).dp)
theorem Lay.mono {d : PyData} {a b : Nat} (h : Lay d a) (h1 : a ≤ b) : Lay d b := ⟨h.l, Nat.le_trans h.dp h1⟩
theorem lay_s {k : Str} (g : GoodK k) : Lay (encS k) 0 := by
  refine ⟨?_, Nat.le_refl _⟩
  show PyData.strOk k = true
  unfold PyData.strOk
  rw [Array.all_eq_true_iff_forall_mem]
  intro c hc
  have := g.az c (Array.mem_toList_iff.mpr hc)
  rw [decide_eq_true_eq]
  omega
theorem lay_o (o : Option Int) : Lay (encO o) 0 := by cases o <;> exact ⟨rfl, Nat.le_refl _⟩
theorem lay_ss {xs : List Str} (h : ∀ k ∈ xs, GoodK k) : Lay (.tuple (xs.map encS)) 1 := Lay.tup fun d hd => by
  obtain ⟨k, hk, rfl⟩ := List.mem_map.mp hd
  exact lay_s (h k hk)
theorem lay_r {r : RT} (g : GoodR r) : Lay (encR r) 2 := by
  refine Lay.tup (ds := [encS r.1, encS r.2.1, .tuple (r.2.2.map encS)]) fun d hd => ?_
  rcases List.mem_cons.mp hd with e | hd
  · rw [e]; exact (lay_s g.k1).mono (by decide)
  · rcases List.mem_cons.mp hd with e | hd
    · rw [e]; exact (lay_s g.k2).mono (by decide)
    · rw [List.mem_singleton.mp hd]; exact lay_ss fun k hk => (g.own k hk).1
theorem lay_rs {rs : List RT} (h : ∀ r ∈ rs, GoodR r) : Lay (.tuple (rs.map encR)) 3 := Lay.tup fun d hd => by
  obtain ⟨k, hk, rfl⟩ := List.mem_map.mp hd
  exact lay_r (h k hk)
theorem lay_ws {ws : List WT} (h : ∀ p ∈ ws, GoodW p) : Lay (.tuple (ws.map encW)) 2 := Lay.tup fun d hd => by
  obtain ⟨p, hp, rfl⟩ := List.mem_map.mp hd
  refine Lay.tup (ds := [encS p.1, encO p.2]) fun d hd => ?_
  rcases List.mem_cons.mp hd with e | hd
  · rw [e]; exact lay_s (h p hp).k
  · rw [List.mem_singleton.mp hd]; exact lay_o _
/-- a dealing's five data -/
def dealD (n : Int) (nd : PyData) (ks : List Str) (rs : List RT) (ws : List WT) : PyData := .tuple [.int n, nd, .tuple (ks.map encS), .tuple (rs.map encR), .tuple (ws.map encW)]
theorem deal_shaped {n : Int} {nd : PyData} {ks : List Str} {rs : List RT} {ws : List WT} (h0 : Lay nd 0) (h1 : ∀ k ∈ ks, GoodK k) (h2 : ∀ r ∈ rs, GoodR r) (h3 : ∀ p ∈ ws, GoodW p) : SeqAt.shaped (dealD n nd ks rs ws) = true := by
  have l : Lay (dealD n nd ks rs ws) 4 := by
    refine Lay.tup fun d hd => ?_
    rcases List.mem_cons.mp hd with e | hd
    · rw [e]; exact ⟨rfl, Nat.zero_le _⟩
    rcases List.mem_cons.mp hd with e | hd
    · rw [e]; exact h0.mono (by decide)
    rcases List.mem_cons.mp hd with e | hd
    · rw [e]; exact (lay_ss h1).mono (by decide)
    rcases List.mem_cons.mp hd with e | hd
    · rw [e]; exact lay_rs h2
    · rw [List.mem_singleton.mp hd]; exact (lay_ws h3).mono (by decide)
  unfold SeqAt.shaped
  rw [l.l, decide_eq_true (Nat.le_trans l.dp (by decide))]
  rfl
/-- the data of a dealing's number -/
theorem num_data {K : PySem.W.Frag} {n : Int} {num : V} {m : List WT} (h : NumM n num m) : ∃ nd, (∀ H, Dp K H num nd) ∧ Lay nd 0 := by
  rcases h with ⟨_, rfl⟩ | ⟨_, j, rfl, _⟩
  · exact ⟨.none, fun _ => .non, rfl, Nat.le_refl _⟩
  · exact ⟨.int j, fun _ => .int j, rfl, Nat.le_refl _⟩
/-- the parts by the law's own account, laid -/
structure Laid (H : Hp) (ga ra wa : Addr) (ks : List Str) (rs : List RT) (ws : List WT) (L1 : List (Addr × RT)) (W1 : List (Addr × WT)) : Prop where
  g : H ga = some (.tup (ks.map V.str))
  r : H ra = some (.tup (L1.map fun z => V.ref z.1))
  rL : ∀ p ∈ L1, TupX H p.1 p.2
  re : L1.map (·.2) = rs
  w : H wa = some (.tup (W1.map fun z => V.ref z.1))
  wW : ∀ z ∈ W1, PairX H z.1 z.2
  we : W1.map (·.2) = ws
theorem Laid.same {H H' : Hp} {ga ra wa : Addr} {ks : List Str} {rs : List RT} {ws : List WT} {L1 : List (Addr × RT)} {W1 : List (Addr × WT)} (x : Laid H ga ra wa ks rs ws L1 W1) (e : Same H H') : Laid H' ga ra wa ks rs ws L1 W1 :=
  ⟨e _ _ x.g, e _ _ x.r, fun p hp => (x.rL p hp).same e, x.re, e _ _ x.w, fun z hz => (x.wW z hz).same e, x.we⟩
theorem Laid.but {H H' : Hp} {ga ra wa h a : Addr} {ks : List Str} {rs : List RT} {ws : List WT} {L1 : List (Addr × RT)} {W1 : List (Addr × WT)} (x : Laid H ga ra wa ks rs ws L1 W1) (y : HandAt H h a) (e : KeptB [h] H H') : Laid H' ga ra wa ks rs ws L1 W1 := by
  obtain ⟨i, z, s, c, ns, h1, _, _⟩ := y.ex
  have n : ∀ {b : Addr} {xs : List V}, H b = some (.tup xs) → b ∉ [h] := fun hb q => ne_hk hb h1 (show (1 : Nat) ≠ 0 by decide) (List.mem_singleton.mp q)
  exact ⟨e _ _ x.g (n x.g), e _ _ x.r (n x.r), fun p hp => (x.rL p hp).but e fun b q o ho => by rw [List.mem_singleton.mp q, h1] at ho; rw [← Option.some.inj ho]; exact show (0 : Nat) ≠ 1 by decide, x.re, e _ _ x.w (n x.w), fun z hz => e _ _ (x.wW z hz) (n (x.wW z hz)), x.we⟩
theorem Laid.dps {K : PySem.W.Frag} {H : Hp} {ga ra wa : Addr} {ks : List Str} {rs : List RT} {ws : List WT} {L1 : List (Addr × RT)} {W1 : List (Addr × WT)} (x : Laid H ga ra wa ks rs ws L1 W1) :
    Dp K H (.ref ga) (.tuple (ks.map encS)) ∧ Dp K H (.ref ra) (.tuple (rs.map encR)) ∧ Dp K H (.ref wa) (.tuple (ws.map encW)) := by
  have h2 := dp_rngs (K := K) (SqT.of x.r) fun p hp => (x.rL p hp).r
  have h3 := dp_ws (K := K) (SqT.of x.w) fun z hz => (x.wW z hz).at
  rw [x.re] at h2
  rw [x.we] at h3
  exact ⟨dp_strs (SqT.of x.g), h2, h3⟩
section
variable {P : Program} {w : World} {K : PySem.W.Frag} {mg : Str → Option Value} {base : Heap}
def spDealR (P : Program) (w : World) (C Pt : Addr) : Sp := fun vs H Q _ => ∃ (h a : Addr) (T : TrD) (A : AccD) (sm m : List WT) (ks gs : List Str) (L RL : List (Addr × RT)) (op : Bool) (n : Nat), vs = [.ref h, .ref T.x, .ref A.ac, .int T.n] ∧ Turn P w C Pt h a T A H sm m ks gs L RL op n ∧ n ≤ 40 ∧
  ∀ H', Turn P w C Pt h a T A H' sm m ks gs L RL op n → Q (.bl true) H'
theorem ok_l_deal {f C CD Pt fP fA fT fI fE : Addr} {fd dP dA dT dI dE : FuncData} (F : Fun K "_law_dealing_right" "_law_dealing_right" st_l_deal f fd) (B : Bt mg) (T : TCls K mg C) (DC : DCls K mg CD)
    (GP : FnOk P w K mg base CX0 1 fP dP ["_law_account_here"] spParts) (mP : mg "_law_parts" = some (.ref fP)) (kP : PySem.W.keepIn K (.ref fP) = true) (bP : L2.Binds K dP ["_law_account_here"] [])
    (GA : FnOk P w K mg base CX0 2 fA dA ["_law_hand_here", "_law_some"] spAny) (mA : mg "_law_any" = some (.ref fA)) (kA : PySem.W.keepIn K (.ref fA) = true) (bA : L2.Binds K dA ["_law_hand_here", "_law_some"] [])
    (GT : FnOk P w K mg base CX0 9 fT dT ["self", "number"] (spDeal P w C CD)) (mT : Meth K C "dealing" fT) (bT : L2.Binds K dT ["self", "number"] [])
    (M : Mk K CD fI) (GI : FnOk P w K mg base CX0 7 fI dI ["self", "snapshot", "number", "gets", "ranges", "writes"] (spDInit CD)) (bI : L2.Binds K dI ["self", "snapshot", "number", "gets", "ranges", "writes"] [])
    (GE : FnOk P w K mg base CX0 2 fE dE ["self", "other"] (spEq (DSame K CD))) (eq : PySem.W.findIn K (.ref CD) "__eq__" = some (some (.ref fE))) (fnE : PySem.W.isFn K (.ref fE) = true) (bE : L2.Binds K dE ["self", "other"] []) (ne : PySem.W.findIn K (.ref CD) "__ne__" = some (some (.builtin "object.__ne__"))) :
    FnOk P w K mg base CX0 10 f fd ["_law_hand_here", "_law_one", "_law_account_here", "_law_number"] (spDealR P w C Pt) := by
  refine F.ok sc_l_deal (fun vs H Q E h => ?_) (fun cdv Ar outer s H vs Q E hr h => ?_)
  · obtain ⟨h, a, T, A, sm, m, ks, gs, L, RL, op, n, rfl, _⟩ := h; rfl
  · obtain ⟨h, a, D, A, sm, m, ks, gs, L, RL, op, n, rfl, t, hn, q⟩ := h
    have cl := T.cl
    have cD := DC.own.cl
    have l1 := t.l1
    have l2 := t.l2
    have l3 := t.l3
    have l4 := t.l4
    have l5 := t.l5
    obtain ⟨nm1, nm2⟩ : noneOf "dealing" = true ∧ noneOf "end" = true := by decide +kernel
    have gk : ∀ k ∈ sk ks, GoodK k := fun k hk => t.tf.kG k (sk_mem.mp hk)
    have gw : ∀ p ∈ wsM m (sk (keysM m)), GoodW p := fun p hp => by
      obtain ⟨k, hk, rfl⟩ := List.mem_map.mp hp
      exact worth_good t.tf.mG (sk_mem.mp hk)
    have wl : (wsM m (sk (keysM m))).length = m.length := by
      rw [ws_len, sk_len]
      exact List.length_map ..
    obtain ⟨u, pu, qu⟩ : ∃ u, PSs (cxOf CX0 P w K mg base ["_law_hand_here", "_law_one", "_law_account_here", "_law_number", "_law_gets", "_law_ranges", "_law_writes", "_law_mine", "_law_told"] "_law_dealing_right" (defScope st_l_deal) f cdv Ar outer s H E).nox ((defBody st_l_deal).drop 2) u ∧
        ∀ (num : V) (H2 : Hp) (ga ra wa : Addr) (L1 : List (Addr × RT)) (W1 : List (Addr × WT)) (nx : L2.St → Hp → Prop), NumM D.n num m → Turn P w C Pt h a D A H2 sm m ks gs L RL op n → AscR (L1.map (·.2)) → (∀ p ∈ L1, p ∈ RL) → (∀ p ∈ RL, p.2 ∈ L1.map (·.2)) → Laid H2 ga ra wa (sk ks) (L1.map (·.2)) (wsM m (sk (keysM m))) L1 W1 →
          u { nx := nx, rt := Q } [some (.ref h), some (.ref D.x), some (.ref A.ac), some (.int D.n), some (.ref ga), some (.ref ra), some (.ref wa), some num, none] H2 := by
      refine ⟨_, pss_cons (ps_set (i := 8) sc_l_deal.nd rfl (Or.inl rfl) (pe_meth (pv 1) cl mT GT hr bT .nil pass0 (pa_cons (pv 7) pa_nil)))
        (pss_cons (ps_if (PW.pt (pw_or (pt_not (pt_val (pe_callB call_isi (by rfl) B.b_isinstance (by decide +kernel) (pa_cons (pv 8) (pa_cons (pe_glob (v := .ref CD) (by rfl) DC.mgC rfl) pa_nil)))))
            (pw_or1 (pt_cmpR (op_neIns GE (hr.mono (by decide)) ne DC.own.hm eq fnE bE) (pv 8) (pe_make M GI (hr.mono (by decide)) rfl DC.mgC bI .nil pass0 (pa_cons (pv 3) (pa_cons (pv 7) (pa_cons (pv 4) (pa_cons (pv 5) (pa_cons (pv 6) pa_nil)))))) (nomark _))))) (pss_one (ps_ret pe_bl)) pss_nil)
        (pss_one (ps_ret (pe_cmpR (op_eqD hr.units) (pe_tup (pa_cons (pe_fld (pv 8) rfl) (pa_cons (pe_fld (pv 8) rfl) (pa_cons (pe_fld (pv 8) rfl) (pa_cons (pe_fld (pv 8) rfl) (pa_cons (pe_fld (pv 8) rfl) pa_nil))))))
          (pe_tup (pa_cons (pv 3) (pa_cons (pv 7) (pa_cons (pv 4) (pa_cons (pv 5) (pa_cons (pv 6) pa_nil)))))) (nomark _))))), fun num H2 ga ra wa L1 W1 nx hnum t2 as1 g1 g2 la => ?_⟩
      obtain ⟨nd, hnd, lnd⟩ := num_data (K := K) hnum
      refine ⟨_, rfl, D.x, D.dx, _, rfl, t2.b.t.ob, t_no nm1, _, rfl, D, sm, m, ks, L, op, num, rfl, t2.b.t, t.tf, hnum, fun d dx ga' ra' wa' L2 W2 H3 s3 hd da pm eW => ?_⟩
      have t3 := t2.same s3
      have la3 := la.same s3
      have er : L1.map (·.2) = L2.map (·.2) := t.rngs da.rs pm as1 g1 g2
      have gr : ∀ r ∈ L2.map (·.2), GoodR r := fun r hr => by
        obtain ⟨p, hp, rfl⟩ := List.mem_map.mp hr
        exact (da.rk p hp).2
      have hsh : SeqAt.shaped (dealD D.n nd (sk ks) (L2.map (·.2)) (wsM m (sk (keysM m)))) = true := deal_shaped lnd gk gr gw
      refine ⟨_, rfl, _, _, _, _, true, rfl, .own CD, .base (.ins hd cD DC.own.ha DC.own.hn DC.own.ht DC.own.hm), kit_own CD, true, rfl, ?_⟩
      refine iteF ?_
      refine ⟨_, rfl, _, rfl, _, rfl, _, rfl, _, rfl, _, rfl, ?_⟩
      intro x dy hx hdy nxy
      have s4 : Same H3 (upd (upd H3 dy (.own x)) x (.ins CD dy [])) := fun b o e => by rw [upd_ne (ne_of_none e hx), upd_ne (ne_of_none e hdy)]; exact e
      have la4 := la3.same s4
      have da4 : DArgs (upd (upd H3 dy (.own x)) x (.ins CD dy [])) D.n num ga ra wa (sk ks) L1 W1 := by
        have da' := da.same s4
        have e1 : W1.map (·.2.1) = W2.map (·.2.1) := by
          have z := congrArg (fun l : List WT => l.map (·.1)) (la.we.trans eW.symm)
          have z2 : (W1.map (·.2)).map (·.1) = (W2.map (·.2)).map (·.1) := z
          rw [List.map_map, List.map_map] at z2
          exact z2
        have el : W1.length = m.length := by
          have z := congrArg List.length la.we
          rw [List.length_map, wl] at z
          exact z
        refine ⟨da.n0, la4.g, gk, sk_asc t.tf.kN, by rw [sk_len]; exact t.tf.kL, la4.r, fun p hp => ⟨la4.rL p hp, gr p.2 (by rw [← er]; exact List.mem_map.mpr ⟨p, hp, rfl⟩)⟩, as1, ?_, la4.w, fun z hz => ⟨la4.wW z hz, gw z.2 (by rw [← la.we]; exact List.mem_map.mpr ⟨z, hz, rfl⟩)⟩, by rw [e1]; exact da.ws, by rw [el]; exact t.tf.mL, numOk hnum la.we⟩
        have z := congrArg List.length er
        rw [List.length_map, List.length_map, pm.length_eq] at z
        rw [z]; exact t.tf.rL
      refine ⟨x, dy, D.n, num, ga, ra, wa, sk ks, L1, W1, rfl, upd_same, da4, fun H5 k5 h5 => ⟨rfl, ?_⟩⟩
      have s5 : Same H3 H5 := fun b o e => k5 b o (s4 b o e) (ne_of_none e hx)
      have hd5 := s5 _ _ hd
      have la5 := la3.same s5
      have da5 := da.same s5
      have lb : Laid H5 ga' ra' wa' (sk ks) (L2.map (·.2)) (wsM m (sk (keysM m))) L2 W2 := ⟨da5.g, da5.r, fun p hp => (da5.rk p hp).1, rfl, da5.w, fun z hz => (da5.wk z hz).1, eW⟩
      rw [er] at la5
      refine ⟨⟨d, x, dx, dy, _, _, rfl, rfl, hd5, h5, ⟨dx, dy, D.n, num, nd, ga', ra', wa', ga, ra, wa, _, _, _, hd5, h5, hnd _, lb.dps, la5.dps, hsh⟩⟩, fun H6 s6 => ⟨_, rfl, ?_⟩⟩
      refine iteF ?_
      have hd6 := s6 _ _ hd5
      refine ⟨_, rfl, d, CD, dx, _, _, rfl, hd6, cD, DC.f1, d_snapshot, ?_⟩
      refine ⟨_, rfl, d, CD, dx, _, _, rfl, hd6, cD, DC.f2, d_number, ?_⟩
      refine ⟨_, rfl, d, CD, dx, _, _, rfl, hd6, cD, DC.f3, d_gets, ?_⟩
      refine ⟨_, rfl, d, CD, dx, _, _, rfl, hd6, cD, DC.f4, d_ranges, ?_⟩
      refine ⟨_, rfl, d, CD, dx, _, _, rfl, hd6, cD, DC.f5, d_writes, (by show 5 ≤ sizeLine; decide), fun t1 ht1 => ?_⟩
      have s7 := same_new (o := .tup [.int D.n, num, .ref ga', .ref ra', .ref wa']) ht1
      refine ⟨_, rfl, _, rfl, _, rfl, _, rfl, _, rfl, (by show 5 ≤ sizeLine; decide), fun t8 ht8 => ?_⟩
      have s8 := same_new (o := .tup [.int D.n, num, .ref ga, .ref ra, .ref wa]) ht8
      have s58 : Same H5 (upd (upd H6 t1 (.tup [.int D.n, num, .ref ga', .ref ra', .ref wa'])) t8 (.tup [.int D.n, num, .ref ga, .ref ra, .ref wa])) := (Same.trans s6 s7).trans s8
      obtain ⟨b1, b2, b3⟩ := (lb.same s58).dps (K := K)
      obtain ⟨c1, c2, c3⟩ := (la5.same s58).dps (K := K)
      refine ⟨dealD D.n nd (sk ks) (L2.map fun p : Addr × RT => p.2) (wsM m (sk (keysM m))), dealD D.n nd (sk ks) (L2.map fun p : Addr × RT => p.2) (wsM m (sk (keysM m))), .tup (SqT.of (s8 _ _ upd_same)) (.cons (.int _) (.cons (hnd _) (.cons b1 (.cons b2 (.cons b3 .nil))))), .tup (SqT.of upd_same) (.cons (.int _) (.cons (hnd _) (.cons c1 (.cons c2 (.cons c3 .nil))))), hsh, hsh, ?_⟩
      rw [SeqAt.eqv_refl _ (SeqAt.canLay_of_shaped hsh)]
      exact q _ (t3.same (Same.trans s5 s58))
    refine ⟨_, pss_cons (ps_asg (pe_call GP (hr.mono (by decide)) rfl mP kP bP .nil pass0 (pa_cons (pv 2) pa_nil)) (pg_tup rfl (pgs_cons (pg_name (i := 4) sc_l_deal.nd rfl (Or.inl rfl)) (pgs_cons (pg_name (i := 5) sc_l_deal.nd rfl (Or.inl rfl)) (pgs_cons (pg_name (i := 6) sc_l_deal.nd rfl (Or.inl rfl)) pgs_nil)))))
      (pss_cons (ps_set (i := 7) sc_l_deal.nd rfl (Or.inl rfl) (pe_ifExp (pt_cmpR op_eq (pe_callB call_len_seq (by rfl) B.b_len boot_len (pa_cons (pv 6) pa_nil)) pe_int (nomark _)) pe_non
        (pe_op op_add (pe_op op_add (pv 3) pe_int) (pe_call GA (hr.mono (by decide)) rfl mA kA bA .nil pass0 (pa_cons (pv 0) (pa_cons (pe_lst (pa_cons pe_int (pa_cons pe_int (pa_cons pe_int pa_nil)))) pa_nil)))))) pu), ?_⟩
    refine ⟨_, rfl, A, sm, m, gs, RL, rfl, t.b.x, t.tf.mN, t.tf.mL, by omega, by omega, fun tp ga ra wa ys L1 W1 H1 s1 htp hga as1 e1 hra as2 g1 g2 hwa hW1 eW1 => ?_⟩
    refine ⟨tp, _, rfl, SqT.of htp, rfl, _, _, rfl, _, _, rfl, _, _, rfl, rfl, ?_⟩
    have t1 := t.same s1
    have ek : ys = sk ks := t.keys as1 e1
    have la : Laid H1 ga ra wa (sk ks) (L1.map (·.2)) (wsM m (sk (keysM m))) L1 W1 := ⟨by rw [← ek]; exact hga, hra, fun p hp => t1.b.x.rL p (g1 p hp), rfl, hwa, hW1, eW1⟩
    have el : W1.length = m.length := by
      have z := congrArg List.length eW1
      rw [List.length_map, wl] at z
      exact z
    refine ⟨_, rfl, wa, _, rfl, .inr (SqT.of hwa), rfl, _, rfl, ?_⟩
    refine ite2 (fun hz => ?_) (fun hz => ?_)
    · have hm : m = [] := by
        have z := of_decide_eq_true hz
        have z2 : ((W1.map fun z => V.ref z.1).length : Int) = 0 := V.int.inj z
        rw [List.length_map, el] at z2
        exact List.eq_nil_of_length_eq_zero (by omega)
      exact qu .non H1 ga ra wa L1 W1 _ (.inl ⟨hm, rfl⟩) t1 as2 g1 g2 la
    · have hm : m ≠ [] := fun e => hz (by
        apply decide_eq_true
        show V.int (((W1.map fun z => V.ref z.1).length : Nat) : Int) = V.int 0
        rw [List.length_map, el, e]; rfl)
      refine ⟨_, rfl, D.n, 1, rfl, rfl, _, rfl, (by show 3 ≤ sizeLine; decide), fun l hl => ?_⟩
      have nl := hand_ne t1.b.hx hl
      have s2 := same_new (o := .lst [.int 0, .int 1, .int 99]) hl
      refine ⟨h, a, l, _, rfl, t1.b.hx.same s2, upd_same, nl.1, by decide, by decide, fun x H' hmm hx' kk => ?_⟩
      have ex : ∃ j : Int, x = .int j ∧ 0 ≤ j := by
        rcases List.mem_cons.mp hmm with e | hmm
        · exact ⟨0, e, by decide⟩
        rcases List.mem_cons.mp hmm with e | hmm
        · exact ⟨1, e, by decide⟩
        · exact ⟨99, List.mem_singleton.mp hmm, by decide⟩
      obtain ⟨j, rfl, j0⟩ := ex
      refine ⟨_, _, rfl, rfl, ?_⟩
      exact qu (.int (D.n + 1 + j)) H' ga ra wa L1 W1 _ (.inr ⟨hm, _, rfl, by omega⟩) ((t1.same s2).drew hx' kk) as2 g1 g2 ((la.same s2).but (t1.b.hx.same s2) kk)
end
end W30


/-! S37: law. -/
namespace W30
open PySem PySem.Spec PyProof.Rows L2 LamX NdefX
section
variable {P : Program} {w : World} {K : PySem.W.Frag} {mg : Str → Option Value} {base : Heap}
def spLaw (K : PySem.W.Frag) (Pt : Addr) : Sp := fun vs H Q _ => ∃ (l : Addr) (ns : List Int), vs = [.ref l] ∧ SqL K H l (ns.map V.int) ∧ ns.length ≤ 1000 ∧ TabS H Pt madeQ ∧ ∀ H', Q (.bl true) H'
/-- what the law calls -/
structure LawFns (P : Program) (w : World) (K : PySem.W.Frag) (mg : Str → Option Value) (base : Heap) (C Pt fH fN fA fM fD fS fV fL gE : Addr) (dH dN dA dM dD dS dV dL eE : FuncData) : Prop where
  GH : FnOk P w K mg base CX0 1 fH dH ["_law_script"] (spHand K)
  mH : mg "_law_hand" = some (.ref fH)
  kH : PySem.W.keepIn K (.ref fH) = true
  bH : L2.Binds K dH ["_law_script"] []
  GN : FnOk P w K mg base CX0 4 fN dN ["_law_hand_here"] spSnap
  mN : mg "_law_snapshot" = some (.ref fN)
  kN : PySem.W.keepIn K (.ref fN) = true
  bN : L2.Binds K dN ["_law_hand_here"] []
  GA : FnOk P w K mg base CX0 1 fA dA ["_law_state"] spAccount
  mA : mg "_law_account" = some (.ref fA)
  kA : PySem.W.keepIn K (.ref fA) = true
  bA : L2.Binds K dA ["_law_state"] []
  GM : FnOk P w K mg base CX0 3 fM dM ["_law_state", "_law_number"] (spMade P w C Pt)
  mM : mg "_law_made_over" = some (.ref fM)
  kM : PySem.W.keepIn K (.ref fM) = true
  bM : L2.Binds K dM ["_law_state", "_law_number"] []
  GD : FnOk P w K mg base CX0 1 fD dD ["_law_hand_here", "_law_many"] spDraw
  mD : mg "_law_draw" = some (.ref fD)
  kD : PySem.W.keepIn K (.ref fD) = true
  bD : L2.Binds K dD ["_law_hand_here", "_law_many"] []
  GS : FnOk P w K mg base CX0 5 fS dS ["_law_hand_here", "_law_one", "_law_account_here"] (spStep P w C Pt)
  mS : mg "_law_step" = some (.ref fS)
  kS : PySem.W.keepIn K (.ref fS) = true
  bS : L2.Binds K dS ["_law_hand_here", "_law_one", "_law_account_here"] []
  GV : FnG P w K mg base 2 fV dV ["_law_one", "_law_account_here"] (spSeen P w C Pt)
  mV : mg "_law_seen_right" = some (.ref fV)
  kV : PySem.W.keepIn K (.ref fV) = true
  bV : L2.Binds K dV ["_law_one", "_law_account_here"] []
  GL : FnOk P w K mg base CX0 10 fL dL ["_law_hand_here", "_law_one", "_law_account_here", "_law_number"] (spDealR P w C Pt)
  mL : mg "_law_dealing_right" = some (.ref fL)
  kL : PySem.W.keepIn K (.ref fL) = true
  bL : L2.Binds K dL ["_law_hand_here", "_law_one", "_law_account_here", "_law_number"] []
  TE : FnOk P w K mg base CX0 2 gE eE ["self"] (spEnd P w C)
  nE : Meth K C "end" gE
  cE : L2.Binds K eE ["self"] []
theorem ok_law {f C Pt fH fN fA fM fD fS fV fL gE : Addr} {fd dH dN dA dM dD dS dV dL eE : FuncData} (F : Fun K "law" "law" st_law f fd) (B : Bt mg) (T : TCls K mg C) (S : LawFns P w K mg base C Pt fH fN fA fM fD fS fV fL gE dH dN dA dM dD dS dV dL eE) :
    FnG P w K mg base 11 f fd ["_law_script"] (spLaw K Pt) := by
  refine okG F sc_law (fun vs H Q E h => ?_) (fun cdv Ar outer s H vs Q E hg hr h => ?_)
  · obtain ⟨l, ns, rfl, _⟩ := h; rfl
  · obtain ⟨l, ns, rfl, hl, hn, tab, q⟩ := h
    have gd : ∀ env : Env, (Ar.deeper env).guards = some [] := fun _ => hg
    have cl := T.cl
    have hr1 : Room 1 _ := hr.mono (by decide)
    have hr2 : Room 2 _ := hr.mono (by decide)
    have nmE : noneOf "end" = true := by decide +kernel
    refine ⟨_, pss_cons (ps_set (i := 1) sc_law.nd rfl (Or.inl rfl) (pe_call S.GH hr1 rfl S.mH S.kH S.bH .nil pass0 (pa_cons (pv 0) pa_nil)))
      (pss_cons (ps_for PassesOwn.never rfl (pi_range1 (by rfl) B.b_range (pa_cons pe_int pa_nil)) (pg_name (i := 2) sc_law.nd rfl (Or.inl rfl))
        (pss_cons (ps_asg (pe_call S.GN (hr.mono (by decide)) rfl S.mN S.kN S.bN .nil pass0 (pa_cons (pv 1) pa_nil)) (pg_tup rfl (pgs_cons (pg_name (i := 3) sc_law.nd rfl (Or.inl rfl)) (pgs_cons (pg_name (i := 4) sc_law.nd rfl (Or.inl rfl)) pgs_nil))))
        (pss_cons (ps_set (i := 5) sc_law.nd rfl (Or.inl rfl) (pe_call S.GA hr1 rfl S.mA S.kA S.bA .nil pass0 (pa_cons (pv 4) pa_nil)))
        (pss_cons (ps_set (i := 6) sc_law.nd rfl (Or.inl rfl) (pe_call S.GM (hr.mono (by decide)) rfl S.mM S.kM S.bM .nil pass0 (pa_cons (pv 4) (pa_cons (pv 3) pa_nil))))
        (pss_cons (ps_for PassesOwn.never rfl (pi_range1 (by rfl) B.b_range (pa_cons (pe_call S.GD hr1 rfl S.mD S.kD S.bD .nil pass0 (pa_cons (pv 1) (pa_cons pe_int pa_nil))) pa_nil)) (pg_name (i := 7) sc_law.nd rfl (Or.inl rfl))
          (pss_one (ps_if (PW.pt (pw_or (pt_not (pt_val (pe_call S.GS (hr.mono (by decide)) rfl S.mS S.kS S.bS .nil pass0 (pa_cons (pv 1) (pa_cons (pv 6) (pa_cons (pv 5) pa_nil))))))
            (pw_or1 (pt_not (pt_val (pe_callG S.GV (gd _) hr2 rfl S.mV S.kV S.bV (pa_cons (pv 6) (pa_cons (pv 5) pa_nil)))))))) (pss_one (ps_ret pe_bl)) pss_nil)))
        (pss_cons (ps_if (pt_not (pt_val (pe_call S.GL hr rfl S.mL S.kL S.bL .nil pass0 (pa_cons (pv 1) (pa_cons (pv 6) (pa_cons (pv 5) (pa_cons (pv 3) pa_nil))))))) (pss_one (ps_ret pe_bl)) pss_nil)
        (pss_cons (ps_expr (pe_meth0 (pv 6) cl S.nE S.TE hr2 S.cE .nil pass0))
        (pss_one (ps_if (PW.pt (pw_or (pt_not (pt_val (pe_callG S.GV (gd _) hr2 rfl S.mV S.kV S.bV (pa_cons (pv 6) (pa_cons (pv 5) pa_nil)))))
          (pw_or1 (pt_not (pt_val (pe_call S.GL hr rfl S.mL S.kL S.bL .nil pass0 (pa_cons (pv 1) (pa_cons (pv 6) (pa_cons (pv 5) (pa_cons (pv 3) pa_nil)))))))))) (pss_one (ps_ret pe_bl)) pss_nil)))))))))
      (pss_one (ps_ret pe_bl))), ?_⟩
    refine ⟨_, rfl, l, ns, rfl, hl, hn, fun h a H1 s1 y1 => ?_⟩
    have tab1 : TabS H1 Pt madeQ := (tab_but tab (KeptB.of (S := []) s1) (by simp) (by simp)).1
    refine ⟨3, rfl, by decide, by decide, for_range (n := 3) (fun i σ H2 => ∃ v2 v3 v4 v5 v6 v7 : Option V, σ = [some (.ref l), some (.ref h), v2, v3, v4, v5, v6, v7] ∧ HandAt H2 h a ∧ TabS H2 Pt madeQ) ⟨none, none, none, none, none, none, rfl, y1, tab1⟩ ?_ ?_⟩
    · rintro i σ H2 hi ⟨v2, v3, v4, v5, v6, v7, rfl, y2, tab2⟩
      refine ⟨_, rfl, h, a, rfl, y2, fun tp d n sm H3 y3 k3 ht n0 hd nd sl fr => ?_⟩
      obtain ⟨hi0, hz0, hs0, hc0, hns, hh2, ha2, _⟩ := y2.ex
      have tab3 : TabS H3 Pt madeQ := (tab_one tab2 hh2 k3 (show (0 : Nat) ≠ 9 by decide) (show (0 : Nat) ≠ 11 by decide)).1
      refine ⟨tp, _, rfl, SqT.of ht, rfl, _, _, rfl, _, _, rfl, rfl, ?_⟩
      refine ⟨_, rfl, d, sm, rfl, hd, fun A H4 eA s4 x4 xf f1 f2 f3 f4 => ?_⟩
      have tab4 : TabS H4 Pt madeQ := (tab_but tab3 (KeptB.of (S := []) s4) (by simp) (by simp)).1
      refine ⟨_, rfl, _, rfl, d, n, sm, rfl, tab4, s4 _ _ hd, nd, sl, n0, fun D H5 e1 e2 t5 tf5 tab5 far5 eN old => ?_⟩
      subst e2
      obtain ⟨i3, z3, sd3, c3, ns3, hh3, ha3, p3⟩ := y3.ex
      have nt : ∀ {o : HO}, hk o ≠ 11 → ∀ ps, o ≠ .tbl ps := fun h ps z => h (by rw [z]; rfl)
      have y5 : HandAt H5 h a := ⟨i3, z3, sd3, c3, ns3, eN _ _ (s4 _ _ hh3) (nt (show (0 : Nat) ≠ 11 by decide)), eN _ _ (s4 _ _ ha3) (nt (show (0 : Nat) ≠ 11 by decide)), p3⟩
      have x5 : AccAt A H5 sm [] [] [] := ⟨eN _ _ x4.dc (nt (show (2 : Nat) ≠ 11 by decide)), eN _ _ x4.wr (nt (show (2 : Nat) ≠ 11 by decide)), eN _ _ x4.gt (nt (show (0 : Nat) ≠ 11 by decide)), eN _ _ x4.rg (nt (show (0 : Nat) ≠ 11 by decide)), by simp, eN _ _ x4.st (nt (show (2 : Nat) ≠ 11 by decide))⟩
      have sep : Sep h a D A := ⟨ne_of_none hh3 f3, ne_of_none hh3 f4, ne_of_none ha3 f3, ne_of_none ha3 f4, (old _ _ x4.wr (nt (show (2 : Nat) ≠ 11 by decide))).1, (old _ _ x4.wr (nt (show (2 : Nat) ≠ 11 by decide))).2,
        (old _ _ x4.dc (nt (show (2 : Nat) ≠ 11 by decide))).1.symm, (old _ _ x4.dc (nt (show (2 : Nat) ≠ 11 by decide))).2.symm, eA.trans e1.symm⟩
      have T5 : Turn P w C Pt h a D A H5 sm [] [] [] [] [] true 0 := ⟨⟨y5, t5, x5, tab5, far5⟩, sep, xf, tf5, ⟨fun _ => Iff.rfl, fun _ => Iff.rfl⟩, Nat.le_refl _, Nat.le_refl _, Nat.le_refl _, Nat.le_refl _, Nat.le_refl _⟩
      refine ⟨_, rfl, h, a, 31, rfl, y5, by decide, by decide, fun nn H6 nn0 nn1 y6 k6 => ?_⟩
      have T6 := T5.drew y6 k6
      refine ⟨nn, rfl, by omega, by omega, for_range (n := nn.toNat) (fun j σ H7 => ∃ (v : Option V) (m : List WT) (ks gs : List Str) (L RL : List (Addr × RT)), σ = [some (.ref l), some (.ref h), some (.int (0 + (i : Nat))), some (.int D.n), some (.ref d), some (.ref A.ac), some (.ref D.x), v] ∧ Turn P w C Pt h a D A H7 sm m ks gs L RL true j)
        ⟨_, [], [], [], [], [], rfl, T6⟩ ?_ ?_⟩
      · rintro j σ H7 hj ⟨v, m, ks, gs, L, RL, rfl, T7⟩
        refine ⟨_, rfl, _, rfl, _, rfl, h, a, D, A, sm, m, ks, gs, L, RL, j, rfl, T7, by omega, fun m' ks' gs' L' RL' H8 T8 => ⟨true, rfl, ?_⟩⟩
        refine iteF ?_
        refine ⟨_, rfl, _, rfl, h, a, D, A, sm, m', ks', gs', L', RL', true, j + 1, rfl, T8, by omega, fun H9 s9 => ⟨true, rfl, ?_⟩⟩
        refine iteF ?_
        exact ⟨_, m', ks', gs', L', RL', rfl, T8.same s9⟩
      · rintro σ H7 ⟨v, m, ks, gs, L, RL, rfl, T7⟩
        refine ⟨_, rfl, _, rfl, _, rfl, _, rfl, h, a, D, A, sm, m, ks, gs, L, RL, true, _, rfl, T7, by omega, fun H8 T8 => ⟨true, rfl, ?_⟩⟩
        refine iteF ?_
        refine ⟨_, rfl, D.x, D.dx, _, rfl, T8.b.t.ob, t_no nmE, D, sm, m, ks, L, rfl, T8.b.t, fun H9 k9 t9 => ?_⟩
        have y9 := T8.b.hx.oth T8.b.t.ob k9 (show (5 : Nat) ≠ 0 by decide)
        have x9 := T8.b.x.oth T8.b.t.ob k9 (show (5 : Nat) ≠ 0 by decide) (show (5 : Nat) ≠ 1 by decide) (show (5 : Nat) ≠ 2 by decide)
        obtain ⟨tab9, tb9⟩ := tab_one T8.b.tab T8.b.t.ob k9 (show (5 : Nat) ≠ 9 by decide) (show (5 : Nat) ≠ 11 by decide)
        have T9 : Turn P w C Pt h a D A H9 sm m ks gs L RL false nn.toNat := ⟨⟨y9, t9, x9, tab9, far_of T8.b.far tb9⟩, T8.s, T8.xf, T8.tf, T8.o, T8.l1, T8.l2, T8.l3, T8.l4, T8.l5⟩
        refine ⟨_, rfl, _, rfl, h, a, D, A, sm, m, ks, gs, L, RL, false, _, rfl, T9, by omega, fun H10 s10 => ⟨true, rfl, ?_⟩⟩
        refine iteF ?_
        refine ⟨_, rfl, _, rfl, _, rfl, _, rfl, h, a, D, A, sm, m, ks, gs, L, RL, false, _, rfl, T9.same s10, by omega, fun H11 T11 => ⟨true, rfl, ?_⟩⟩
        refine iteF ?_
        exact ⟨_, _, _, _, _, _, rfl, T11.b.hx, T11.b.tab⟩
    · rintro σ H2 ⟨v2, v3, v4, v5, v6, v7, rfl, y2, tab2⟩
      exact q H2
end
end W30


/-! S38: what the top has written, the law's promise from it. -/
namespace W30
open PySem PySem.Spec PyProof.Rows L2 LamX NdefX
theorem all_mk {l : PySem.W.OpenLaw} {w : World} {K : PySem.W.Frag} {h : Heap} {mg : Str → Option Value} {fa : Addr} {CD CT cc Pt f_is_integer f_is_within f_is_pair f_is_key f_is_worth f_is_rising f_are_keys f_is_range f_are_ranges f_is_write f_are_writes f_is_numbered f_bad_part f_check_key f_within f_l_hand f_l_draw f_l_any f_l_key f_l_worth f_l_snapshot f_l_walked f_l_account f_l_got f_l_ranged f_l_parts f_l_step f_l_made f_l_seen f_l_deal f_law f_d_init f_d_parts f_d_eq f_t_init f_t_open f_t_get f_t_between f_t_put f_t_drop f_t_end f_t_keys f_t_ranges f_t_wrote f_t_dealing : Addr} (X : K.In h) (G : h.Ns mainGlobals mg) (hfa : mg "law" = some (.ref fa))
    {od_is_integer od_is_within od_is_pair od_is_key od_is_worth od_is_rising od_are_keys od_is_range od_are_ranges od_is_write od_are_writes od_is_numbered od_bad_part od_check_key od_within od_l_hand od_l_draw od_l_any od_l_key od_l_worth od_l_snapshot od_l_walked od_l_account od_l_got od_l_ranged od_l_parts od_l_step od_l_made od_l_seen od_l_deal od_law od_d_init od_d_parts od_d_eq od_t_init od_t_open od_t_get od_t_between od_t_put od_t_drop od_t_end od_t_keys od_t_ranges od_t_wrote od_t_dealing an_is_integer an_is_within an_is_pair an_is_key an_is_worth an_is_rising an_are_keys an_is_range an_are_ranges an_is_write an_are_writes an_is_numbered an_bad_part an_check_key an_within an_l_hand an_l_draw an_l_any an_l_key an_l_worth an_l_snapshot an_l_walked an_l_account an_l_got an_l_ranged an_l_parts an_l_step an_l_made an_l_seen an_l_deal an_law an_d_init an_d_parts an_d_eq an_t_init an_t_open an_t_get an_t_between an_t_put an_t_drop an_t_end an_t_keys an_t_ranges an_t_wrote an_t_dealing odc : Option Addr} {sl_is_integer sl_is_within sl_is_pair sl_is_key sl_is_worth sl_is_rising sl_are_keys sl_is_range sl_are_ranges sl_is_write sl_are_writes sl_is_numbered sl_bad_part sl_check_key sl_within sl_l_hand sl_l_draw sl_l_any sl_l_key sl_l_worth sl_l_snapshot sl_l_walked sl_l_account sl_l_got sl_l_ranged sl_l_parts sl_l_step sl_l_made sl_l_seen sl_l_deal sl_law sl_d_init sl_d_parts sl_d_eq sl_t_init sl_t_open sl_t_get sl_t_between sl_t_put sl_t_drop sl_t_end sl_t_keys sl_t_ranges sl_t_wrote sl_t_dealing slc : Array (Option Value)} {vsc : Array Value} {oc_is_integer kV_is_integer dc_is_integer pm_is_integer ct_is_integer oc_is_within kV_is_within dc_is_within pm_is_within ct_is_within oc_is_pair kV_is_pair dc_is_pair pm_is_pair ct_is_pair oc_is_key kV_is_key dc_is_key pm_is_key ct_is_key oc_is_worth kV_is_worth dc_is_worth pm_is_worth ct_is_worth oc_is_rising kV_is_rising dc_is_rising pm_is_rising ct_is_rising oc_are_keys kV_are_keys dc_are_keys pm_are_keys ct_are_keys oc_is_range kV_is_range dc_is_range pm_is_range ct_is_range oc_are_ranges kV_are_ranges dc_are_ranges pm_are_ranges ct_are_ranges oc_is_write kV_is_write dc_is_write pm_is_write ct_is_write oc_are_writes kV_are_writes dc_are_writes pm_are_writes ct_are_writes oc_is_numbered kV_is_numbered dc_is_numbered pm_is_numbered ct_is_numbered oc_bad_part kV_bad_part dc_bad_part pm_bad_part ct_bad_part oc_check_key kV_check_key dc_check_key pm_check_key ct_check_key oc_within kV_within dc_within pm_within ct_within oc_l_hand kV_l_hand dc_l_hand pm_l_hand ct_l_hand oc_l_draw kV_l_draw dc_l_draw pm_l_draw ct_l_draw oc_l_any kV_l_any dc_l_any pm_l_any ct_l_any oc_l_key kV_l_key dc_l_key pm_l_key ct_l_key oc_l_worth kV_l_worth dc_l_worth pm_l_worth ct_l_worth oc_l_snapshot kV_l_snapshot dc_l_snapshot pm_l_snapshot ct_l_snapshot oc_l_walked kV_l_walked dc_l_walked pm_l_walked ct_l_walked oc_l_account kV_l_account dc_l_account pm_l_account ct_l_account oc_l_got kV_l_got dc_l_got pm_l_got ct_l_got oc_l_ranged kV_l_ranged dc_l_ranged pm_l_ranged ct_l_ranged oc_l_parts kV_l_parts dc_l_parts pm_l_parts ct_l_parts oc_l_step kV_l_step dc_l_step pm_l_step ct_l_step oc_l_made kV_l_made dc_l_made pm_l_made ct_l_made oc_l_seen kV_l_seen dc_l_seen pm_l_seen ct_l_seen oc_l_deal kV_l_deal dc_l_deal pm_l_deal ct_l_deal oc_law kV_law dc_law pm_law ct_law oc_d_init kV_d_init dc_d_init pm_d_init ct_d_init oc_d_parts kV_d_parts dc_d_parts pm_d_parts ct_d_parts oc_d_eq kV_d_eq dc_d_eq pm_d_eq ct_d_eq oc_t_init kV_t_init dc_t_init pm_t_init ct_t_init oc_t_open kV_t_open dc_t_open pm_t_open ct_t_open oc_t_get kV_t_get dc_t_get pm_t_get ct_t_get oc_t_between kV_t_between dc_t_between pm_t_between ct_t_between oc_t_put kV_t_put dc_t_put pm_t_put ct_t_put oc_t_drop kV_t_drop dc_t_drop pm_t_drop ct_t_drop oc_t_end kV_t_end dc_t_end pm_t_end ct_t_end oc_t_keys kV_t_keys dc_t_keys pm_t_keys ct_t_keys oc_t_ranges kV_t_ranges dc_t_ranges pm_t_ranges ct_t_ranges oc_t_wrote kV_t_wrote dc_t_wrote pm_t_wrote ct_t_wrote oc_t_dealing kV_t_dealing dc_t_dealing pm_t_dealing ct_t_dealing cd_is_integer cd_is_within cd_is_pair cd_is_key cd_is_worth cd_is_rising cd_are_keys cd_is_range cd_are_ranges cd_is_write cd_are_writes cd_is_numbered cd_bad_part cd_check_key cd_within cd_l_hand cd_l_draw cd_l_any cd_l_key cd_l_worth cd_l_snapshot cd_l_walked cd_l_account cd_l_got cd_l_ranged cd_l_parts cd_l_step cd_l_seen cd_l_deal cd_law cd_d_init cd_d_parts cd_d_eq cd_t_init cd_t_open cd_t_get cd_t_between cd_t_put cd_t_drop cd_t_end cd_t_keys cd_t_ranges cd_t_wrote cd_t_dealing occ : Value} {tL tM tW : Tok}
    (aCD : PySem.W.nsIn K mainGlobals "Dealing" = some (some (.ref CD)))
    (aCT : PySem.W.nsIn K mainGlobals "Transaction" = some (some (.ref CT)))
    (a_is_integer : PySem.W.nsIn K mainGlobals "is_integer" = some (some (.ref f_is_integer)))
    (l_is_integer : K.lookup f_is_integer = some ⟨oc_is_integer, od_is_integer, .func (PySem.W.fnOf "is_integer" "is_integer" (defArgs st_is_integer) (defBody st_is_integer) (defScope st_is_integer) .none kV_is_integer dc_is_integer pm_is_integer an_is_integer cd_is_integer ct_is_integer), sl_is_integer⟩)
    (c_is_integer : PySem.W.codeIn K cd_is_integer "is_integer" = true)
    (k_is_integer : PySem.W.keepIn K (.ref f_is_integer) = true)
    (a_is_within : PySem.W.nsIn K mainGlobals "is_within" = some (some (.ref f_is_within)))
    (l_is_within : K.lookup f_is_within = some ⟨oc_is_within, od_is_within, .func (PySem.W.fnOf "is_within" "is_within" (defArgs st_is_within) (defBody st_is_within) (defScope st_is_within) .none kV_is_within dc_is_within pm_is_within an_is_within cd_is_within ct_is_within), sl_is_within⟩)
    (c_is_within : PySem.W.codeIn K cd_is_within "is_within" = true)
    (k_is_within : PySem.W.keepIn K (.ref f_is_within) = true)
    (a_is_pair : PySem.W.nsIn K mainGlobals "is_pair" = some (some (.ref f_is_pair)))
    (l_is_pair : K.lookup f_is_pair = some ⟨oc_is_pair, od_is_pair, .func (PySem.W.fnOf "is_pair" "is_pair" (defArgs st_is_pair) (defBody st_is_pair) (defScope st_is_pair) .none kV_is_pair dc_is_pair pm_is_pair an_is_pair cd_is_pair ct_is_pair), sl_is_pair⟩)
    (c_is_pair : PySem.W.codeIn K cd_is_pair "is_pair" = true)
    (k_is_pair : PySem.W.keepIn K (.ref f_is_pair) = true)
    (a_is_key : PySem.W.nsIn K mainGlobals "is_key" = some (some (.ref f_is_key)))
    (l_is_key : K.lookup f_is_key = some ⟨oc_is_key, od_is_key, .func (PySem.W.fnOf "is_key" "is_key" (defArgs st_is_key) (defBody st_is_key) (defScope st_is_key) .none kV_is_key dc_is_key pm_is_key an_is_key cd_is_key ct_is_key), sl_is_key⟩)
    (c_is_key : PySem.W.codeIn K cd_is_key "is_key" = true)
    (k_is_key : PySem.W.keepIn K (.ref f_is_key) = true)
    (a_is_worth : PySem.W.nsIn K mainGlobals "is_worth" = some (some (.ref f_is_worth)))
    (l_is_worth : K.lookup f_is_worth = some ⟨oc_is_worth, od_is_worth, .func (PySem.W.fnOf "is_worth" "is_worth" (defArgs st_is_worth) (defBody st_is_worth) (defScope st_is_worth) .none kV_is_worth dc_is_worth pm_is_worth an_is_worth cd_is_worth ct_is_worth), sl_is_worth⟩)
    (c_is_worth : PySem.W.codeIn K cd_is_worth "is_worth" = true)
    (k_is_worth : PySem.W.keepIn K (.ref f_is_worth) = true)
    (a_is_rising : PySem.W.nsIn K mainGlobals "is_rising" = some (some (.ref f_is_rising)))
    (l_is_rising : K.lookup f_is_rising = some ⟨oc_is_rising, od_is_rising, .func (PySem.W.fnOf "is_rising" "is_rising" (defArgs st_is_rising) (defBody st_is_rising) (defScope st_is_rising) .none kV_is_rising dc_is_rising pm_is_rising an_is_rising cd_is_rising ct_is_rising), sl_is_rising⟩)
    (c_is_rising : PySem.W.codeIn K cd_is_rising "is_rising" = true)
    (k_is_rising : PySem.W.keepIn K (.ref f_is_rising) = true)
    (a_are_keys : PySem.W.nsIn K mainGlobals "are_keys" = some (some (.ref f_are_keys)))
    (l_are_keys : K.lookup f_are_keys = some ⟨oc_are_keys, od_are_keys, .func (PySem.W.fnOf "are_keys" "are_keys" (defArgs st_are_keys) (defBody st_are_keys) (defScope st_are_keys) .none kV_are_keys dc_are_keys pm_are_keys an_are_keys cd_are_keys ct_are_keys), sl_are_keys⟩)
    (c_are_keys : PySem.W.codeIn K cd_are_keys "are_keys" = true)
    (k_are_keys : PySem.W.keepIn K (.ref f_are_keys) = true)
    (a_is_range : PySem.W.nsIn K mainGlobals "is_range" = some (some (.ref f_is_range)))
    (l_is_range : K.lookup f_is_range = some ⟨oc_is_range, od_is_range, .func (PySem.W.fnOf "is_range" "is_range" (defArgs st_is_range) (defBody st_is_range) (defScope st_is_range) .none kV_is_range dc_is_range pm_is_range an_is_range cd_is_range ct_is_range), sl_is_range⟩)
    (c_is_range : PySem.W.codeIn K cd_is_range "is_range" = true)
    (k_is_range : PySem.W.keepIn K (.ref f_is_range) = true)
    (a_are_ranges : PySem.W.nsIn K mainGlobals "are_ranges" = some (some (.ref f_are_ranges)))
    (l_are_ranges : K.lookup f_are_ranges = some ⟨oc_are_ranges, od_are_ranges, .func (PySem.W.fnOf "are_ranges" "are_ranges" (defArgs st_are_ranges) (defBody st_are_ranges) (defScope st_are_ranges) .none kV_are_ranges dc_are_ranges pm_are_ranges an_are_ranges cd_are_ranges ct_are_ranges), sl_are_ranges⟩)
    (c_are_ranges : PySem.W.codeIn K cd_are_ranges "are_ranges" = true)
    (k_are_ranges : PySem.W.keepIn K (.ref f_are_ranges) = true)
    (a_is_write : PySem.W.nsIn K mainGlobals "is_write" = some (some (.ref f_is_write)))
    (l_is_write : K.lookup f_is_write = some ⟨oc_is_write, od_is_write, .func (PySem.W.fnOf "is_write" "is_write" (defArgs st_is_write) (defBody st_is_write) (defScope st_is_write) .none kV_is_write dc_is_write pm_is_write an_is_write cd_is_write ct_is_write), sl_is_write⟩)
    (c_is_write : PySem.W.codeIn K cd_is_write "is_write" = true)
    (k_is_write : PySem.W.keepIn K (.ref f_is_write) = true)
    (a_are_writes : PySem.W.nsIn K mainGlobals "are_writes" = some (some (.ref f_are_writes)))
    (l_are_writes : K.lookup f_are_writes = some ⟨oc_are_writes, od_are_writes, .func (PySem.W.fnOf "are_writes" "are_writes" (defArgs st_are_writes) (defBody st_are_writes) (defScope st_are_writes) .none kV_are_writes dc_are_writes pm_are_writes an_are_writes cd_are_writes ct_are_writes), sl_are_writes⟩)
    (c_are_writes : PySem.W.codeIn K cd_are_writes "are_writes" = true)
    (k_are_writes : PySem.W.keepIn K (.ref f_are_writes) = true)
    (a_is_numbered : PySem.W.nsIn K mainGlobals "is_numbered" = some (some (.ref f_is_numbered)))
    (l_is_numbered : K.lookup f_is_numbered = some ⟨oc_is_numbered, od_is_numbered, .func (PySem.W.fnOf "is_numbered" "is_numbered" (defArgs st_is_numbered) (defBody st_is_numbered) (defScope st_is_numbered) .none kV_is_numbered dc_is_numbered pm_is_numbered an_is_numbered cd_is_numbered ct_is_numbered), sl_is_numbered⟩)
    (c_is_numbered : PySem.W.codeIn K cd_is_numbered "is_numbered" = true)
    (k_is_numbered : PySem.W.keepIn K (.ref f_is_numbered) = true)
    (a_bad_part : PySem.W.nsIn K mainGlobals "bad_part" = some (some (.ref f_bad_part)))
    (l_bad_part : K.lookup f_bad_part = some ⟨oc_bad_part, od_bad_part, .func (PySem.W.fnOf "bad_part" "bad_part" (defArgs st_bad_part) (defBody st_bad_part) (defScope st_bad_part) .none kV_bad_part dc_bad_part pm_bad_part an_bad_part cd_bad_part ct_bad_part), sl_bad_part⟩)
    (c_bad_part : PySem.W.codeIn K cd_bad_part "bad_part" = true)
    (k_bad_part : PySem.W.keepIn K (.ref f_bad_part) = true)
    (a_check_key : PySem.W.nsIn K mainGlobals "check_key" = some (some (.ref f_check_key)))
    (l_check_key : K.lookup f_check_key = some ⟨oc_check_key, od_check_key, .func (PySem.W.fnOf "check_key" "check_key" (defArgs st_check_key) (defBody st_check_key) (defScope st_check_key) .none kV_check_key dc_check_key pm_check_key an_check_key cd_check_key ct_check_key), sl_check_key⟩)
    (c_check_key : PySem.W.codeIn K cd_check_key "check_key" = true)
    (k_check_key : PySem.W.keepIn K (.ref f_check_key) = true)
    (a_within : PySem.W.nsIn K mainGlobals "within" = some (some (.ref f_within)))
    (l_within : K.lookup f_within = some ⟨oc_within, od_within, .func (PySem.W.fnOf "within" "within" (defArgs st_within) (defBody st_within) (defScope st_within) .none kV_within dc_within pm_within an_within cd_within ct_within), sl_within⟩)
    (c_within : PySem.W.codeIn K cd_within "within" = true)
    (k_within : PySem.W.keepIn K (.ref f_within) = true)
    (a_l_hand : PySem.W.nsIn K mainGlobals "_law_hand" = some (some (.ref f_l_hand)))
    (l_l_hand : K.lookup f_l_hand = some ⟨oc_l_hand, od_l_hand, .func (PySem.W.fnOf "_law_hand" "_law_hand" (defArgs st_l_hand) (defBody st_l_hand) (defScope st_l_hand) .none kV_l_hand dc_l_hand pm_l_hand an_l_hand cd_l_hand ct_l_hand), sl_l_hand⟩)
    (c_l_hand : PySem.W.codeIn K cd_l_hand "_law_hand" = true)
    (k_l_hand : PySem.W.keepIn K (.ref f_l_hand) = true)
    (a_l_draw : PySem.W.nsIn K mainGlobals "_law_draw" = some (some (.ref f_l_draw)))
    (l_l_draw : K.lookup f_l_draw = some ⟨oc_l_draw, od_l_draw, .func (PySem.W.fnOf "_law_draw" "_law_draw" (defArgs st_l_draw) (defBody st_l_draw) (defScope st_l_draw) .none kV_l_draw dc_l_draw pm_l_draw an_l_draw cd_l_draw ct_l_draw), sl_l_draw⟩)
    (c_l_draw : PySem.W.codeIn K cd_l_draw "_law_draw" = true)
    (k_l_draw : PySem.W.keepIn K (.ref f_l_draw) = true)
    (a_l_any : PySem.W.nsIn K mainGlobals "_law_any" = some (some (.ref f_l_any)))
    (l_l_any : K.lookup f_l_any = some ⟨oc_l_any, od_l_any, .func (PySem.W.fnOf "_law_any" "_law_any" (defArgs st_l_any) (defBody st_l_any) (defScope st_l_any) .none kV_l_any dc_l_any pm_l_any an_l_any cd_l_any ct_l_any), sl_l_any⟩)
    (c_l_any : PySem.W.codeIn K cd_l_any "_law_any" = true)
    (k_l_any : PySem.W.keepIn K (.ref f_l_any) = true)
    (a_l_key : PySem.W.nsIn K mainGlobals "_law_key" = some (some (.ref f_l_key)))
    (l_l_key : K.lookup f_l_key = some ⟨oc_l_key, od_l_key, .func (PySem.W.fnOf "_law_key" "_law_key" (defArgs st_l_key) (defBody st_l_key) (defScope st_l_key) .none kV_l_key dc_l_key pm_l_key an_l_key cd_l_key ct_l_key), sl_l_key⟩)
    (c_l_key : PySem.W.codeIn K cd_l_key "_law_key" = true)
    (k_l_key : PySem.W.keepIn K (.ref f_l_key) = true)
    (a_l_worth : PySem.W.nsIn K mainGlobals "_law_worth" = some (some (.ref f_l_worth)))
    (l_l_worth : K.lookup f_l_worth = some ⟨oc_l_worth, od_l_worth, .func (PySem.W.fnOf "_law_worth" "_law_worth" (defArgs st_l_worth) (defBody st_l_worth) (defScope st_l_worth) .none kV_l_worth dc_l_worth pm_l_worth an_l_worth cd_l_worth ct_l_worth), sl_l_worth⟩)
    (c_l_worth : PySem.W.codeIn K cd_l_worth "_law_worth" = true)
    (k_l_worth : PySem.W.keepIn K (.ref f_l_worth) = true)
    (a_l_snapshot : PySem.W.nsIn K mainGlobals "_law_snapshot" = some (some (.ref f_l_snapshot)))
    (l_l_snapshot : K.lookup f_l_snapshot = some ⟨oc_l_snapshot, od_l_snapshot, .func (PySem.W.fnOf "_law_snapshot" "_law_snapshot" (defArgs st_l_snapshot) (defBody st_l_snapshot) (defScope st_l_snapshot) .none kV_l_snapshot dc_l_snapshot pm_l_snapshot an_l_snapshot cd_l_snapshot ct_l_snapshot), sl_l_snapshot⟩)
    (c_l_snapshot : PySem.W.codeIn K cd_l_snapshot "_law_snapshot" = true)
    (k_l_snapshot : PySem.W.keepIn K (.ref f_l_snapshot) = true)
    (a_l_walked : PySem.W.nsIn K mainGlobals "_law_walked" = some (some (.ref f_l_walked)))
    (l_l_walked : K.lookup f_l_walked = some ⟨oc_l_walked, od_l_walked, .func (PySem.W.fnOf "_law_walked" "_law_walked" (defArgs st_l_walked) (defBody st_l_walked) (defScope st_l_walked) .none kV_l_walked dc_l_walked pm_l_walked an_l_walked cd_l_walked ct_l_walked), sl_l_walked⟩)
    (c_l_walked : PySem.W.codeIn K cd_l_walked "_law_walked" = true)
    (k_l_walked : PySem.W.keepIn K (.ref f_l_walked) = true)
    (a_l_account : PySem.W.nsIn K mainGlobals "_law_account" = some (some (.ref f_l_account)))
    (l_l_account : K.lookup f_l_account = some ⟨oc_l_account, od_l_account, .func (PySem.W.fnOf "_law_account" "_law_account" (defArgs st_l_account) (defBody st_l_account) (defScope st_l_account) .none kV_l_account dc_l_account pm_l_account an_l_account cd_l_account ct_l_account), sl_l_account⟩)
    (c_l_account : PySem.W.codeIn K cd_l_account "_law_account" = true)
    (k_l_account : PySem.W.keepIn K (.ref f_l_account) = true)
    (a_l_got : PySem.W.nsIn K mainGlobals "_law_got" = some (some (.ref f_l_got)))
    (l_l_got : K.lookup f_l_got = some ⟨oc_l_got, od_l_got, .func (PySem.W.fnOf "_law_got" "_law_got" (defArgs st_l_got) (defBody st_l_got) (defScope st_l_got) .none kV_l_got dc_l_got pm_l_got an_l_got cd_l_got ct_l_got), sl_l_got⟩)
    (c_l_got : PySem.W.codeIn K cd_l_got "_law_got" = true)
    (k_l_got : PySem.W.keepIn K (.ref f_l_got) = true)
    (a_l_ranged : PySem.W.nsIn K mainGlobals "_law_ranged" = some (some (.ref f_l_ranged)))
    (l_l_ranged : K.lookup f_l_ranged = some ⟨oc_l_ranged, od_l_ranged, .func (PySem.W.fnOf "_law_ranged" "_law_ranged" (defArgs st_l_ranged) (defBody st_l_ranged) (defScope st_l_ranged) .none kV_l_ranged dc_l_ranged pm_l_ranged an_l_ranged cd_l_ranged ct_l_ranged), sl_l_ranged⟩)
    (c_l_ranged : PySem.W.codeIn K cd_l_ranged "_law_ranged" = true)
    (k_l_ranged : PySem.W.keepIn K (.ref f_l_ranged) = true)
    (a_l_parts : PySem.W.nsIn K mainGlobals "_law_parts" = some (some (.ref f_l_parts)))
    (l_l_parts : K.lookup f_l_parts = some ⟨oc_l_parts, od_l_parts, .func (PySem.W.fnOf "_law_parts" "_law_parts" (defArgs st_l_parts) (defBody st_l_parts) (defScope st_l_parts) .none kV_l_parts dc_l_parts pm_l_parts an_l_parts cd_l_parts ct_l_parts), sl_l_parts⟩)
    (c_l_parts : PySem.W.codeIn K cd_l_parts "_law_parts" = true)
    (k_l_parts : PySem.W.keepIn K (.ref f_l_parts) = true)
    (a_l_step : PySem.W.nsIn K mainGlobals "_law_step" = some (some (.ref f_l_step)))
    (l_l_step : K.lookup f_l_step = some ⟨oc_l_step, od_l_step, .func (PySem.W.fnOf "_law_step" "_law_step" (defArgs st_l_step) (defBody st_l_step) (defScope st_l_step) .none kV_l_step dc_l_step pm_l_step an_l_step cd_l_step ct_l_step), sl_l_step⟩)
    (c_l_step : PySem.W.codeIn K cd_l_step "_law_step" = true)
    (k_l_step : PySem.W.keepIn K (.ref f_l_step) = true)
    (a_l_made : PySem.W.nsIn K mainGlobals "_law_made_over" = some (some (.ref f_l_made)))
    (l_l_made : K.lookup f_l_made = some ⟨oc_l_made, od_l_made, .func (PySem.W.fnOf "_law_made_over" "_law_made_over" (defArgs st_l_made) (defBody st_l_made) (defScope st_l_made) .none kV_l_made dc_l_made pm_l_made an_l_made (.ref cc) ct_l_made), sl_l_made⟩)
    (c_l_made : PySem.W.codeIn K (.ref cc) "_law_made_over" = true)
    (k_l_made : PySem.W.keepIn K (.ref f_l_made) = true)
    (a_l_seen : PySem.W.nsIn K mainGlobals "_law_seen_right" = some (some (.ref f_l_seen)))
    (l_l_seen : K.lookup f_l_seen = some ⟨oc_l_seen, od_l_seen, .func (PySem.W.fnOf "_law_seen_right" "_law_seen_right" (defArgs st_l_seen) (defBody st_l_seen) (defScope st_l_seen) .none kV_l_seen dc_l_seen pm_l_seen an_l_seen cd_l_seen ct_l_seen), sl_l_seen⟩)
    (c_l_seen : PySem.W.codeIn K cd_l_seen "_law_seen_right" = true)
    (k_l_seen : PySem.W.keepIn K (.ref f_l_seen) = true)
    (a_l_deal : PySem.W.nsIn K mainGlobals "_law_dealing_right" = some (some (.ref f_l_deal)))
    (l_l_deal : K.lookup f_l_deal = some ⟨oc_l_deal, od_l_deal, .func (PySem.W.fnOf "_law_dealing_right" "_law_dealing_right" (defArgs st_l_deal) (defBody st_l_deal) (defScope st_l_deal) .none kV_l_deal dc_l_deal pm_l_deal an_l_deal cd_l_deal ct_l_deal), sl_l_deal⟩)
    (c_l_deal : PySem.W.codeIn K cd_l_deal "_law_dealing_right" = true)
    (k_l_deal : PySem.W.keepIn K (.ref f_l_deal) = true)
    (a_law : PySem.W.nsIn K mainGlobals "law" = some (some (.ref f_law)))
    (l_law : K.lookup f_law = some ⟨oc_law, od_law, .func (PySem.W.fnOf "law" "law" (defArgs st_law) (defBody st_law) (defScope st_law) .none kV_law dc_law pm_law an_law cd_law ct_law), sl_law⟩)
    (c_law : PySem.W.codeIn K cd_law "law" = true)
    (k_law : PySem.W.keepIn K (.ref f_law) = true)
    (a_d_init : PySem.W.findIn K (.ref CD) "__init__" = some (some (.ref f_d_init)))
    (i_d_init : PySem.W.isFn K (.ref f_d_init) = true)
    (l_d_init : K.lookup f_d_init = some ⟨oc_d_init, od_d_init, .func (PySem.W.fnOf "__init__" "Dealing.__init__" (defArgs st_d_init) (defBody st_d_init) (defScope st_d_init) .none kV_d_init dc_d_init pm_d_init an_d_init cd_d_init ct_d_init), sl_d_init⟩)
    (c_d_init : PySem.W.codeIn K cd_d_init "Dealing.__init__" = true)
    (k_d_init : PySem.W.keepIn K (.ref f_d_init) = true)
    (a_d_parts : PySem.W.findIn K (.ref CD) "parts" = some (some (.ref f_d_parts)))
    (i_d_parts : PySem.W.isFn K (.ref f_d_parts) = true)
    (l_d_parts : K.lookup f_d_parts = some ⟨oc_d_parts, od_d_parts, .func (PySem.W.fnOf "parts" "Dealing.parts" (defArgs st_d_parts) (defBody st_d_parts) (defScope st_d_parts) .none kV_d_parts dc_d_parts pm_d_parts an_d_parts cd_d_parts ct_d_parts), sl_d_parts⟩)
    (c_d_parts : PySem.W.codeIn K cd_d_parts "Dealing.parts" = true)
    (k_d_parts : PySem.W.keepIn K (.ref f_d_parts) = true)
    (a_d_eq : PySem.W.findIn K (.ref CD) "__eq__" = some (some (.ref f_d_eq)))
    (i_d_eq : PySem.W.isFn K (.ref f_d_eq) = true)
    (l_d_eq : K.lookup f_d_eq = some ⟨oc_d_eq, od_d_eq, .func (PySem.W.fnOf "__eq__" "Dealing.__eq__" (defArgs st_d_eq) (defBody st_d_eq) (defScope st_d_eq) .none kV_d_eq dc_d_eq pm_d_eq an_d_eq cd_d_eq ct_d_eq), sl_d_eq⟩)
    (c_d_eq : PySem.W.codeIn K cd_d_eq "Dealing.__eq__" = true)
    (k_d_eq : PySem.W.keepIn K (.ref f_d_eq) = true)
    (a_t_init : PySem.W.findIn K (.ref CT) "__init__" = some (some (.ref f_t_init)))
    (i_t_init : PySem.W.isFn K (.ref f_t_init) = true)
    (l_t_init : K.lookup f_t_init = some ⟨oc_t_init, od_t_init, .func (PySem.W.fnOf "__init__" "Transaction.__init__" (defArgs st_t_init) (defBody st_t_init) (defScope st_t_init) .none kV_t_init dc_t_init pm_t_init an_t_init cd_t_init ct_t_init), sl_t_init⟩)
    (c_t_init : PySem.W.codeIn K cd_t_init "Transaction.__init__" = true)
    (k_t_init : PySem.W.keepIn K (.ref f_t_init) = true)
    (a_t_open : PySem.W.findIn K (.ref CT) "check_open" = some (some (.ref f_t_open)))
    (i_t_open : PySem.W.isFn K (.ref f_t_open) = true)
    (l_t_open : K.lookup f_t_open = some ⟨oc_t_open, od_t_open, .func (PySem.W.fnOf "check_open" "Transaction.check_open" (defArgs st_t_open) (defBody st_t_open) (defScope st_t_open) .none kV_t_open dc_t_open pm_t_open an_t_open cd_t_open ct_t_open), sl_t_open⟩)
    (c_t_open : PySem.W.codeIn K cd_t_open "Transaction.check_open" = true)
    (k_t_open : PySem.W.keepIn K (.ref f_t_open) = true)
    (a_t_get : PySem.W.findIn K (.ref CT) "get" = some (some (.ref f_t_get)))
    (i_t_get : PySem.W.isFn K (.ref f_t_get) = true)
    (l_t_get : K.lookup f_t_get = some ⟨oc_t_get, od_t_get, .func (PySem.W.fnOf "get" "Transaction.get" (defArgs st_t_get) (defBody st_t_get) (defScope st_t_get) .none kV_t_get dc_t_get pm_t_get an_t_get cd_t_get ct_t_get), sl_t_get⟩)
    (c_t_get : PySem.W.codeIn K cd_t_get "Transaction.get" = true)
    (k_t_get : PySem.W.keepIn K (.ref f_t_get) = true)
    (a_t_between : PySem.W.findIn K (.ref CT) "between" = some (some (.ref f_t_between)))
    (i_t_between : PySem.W.isFn K (.ref f_t_between) = true)
    (l_t_between : K.lookup f_t_between = some ⟨oc_t_between, od_t_between, .func (PySem.W.fnOf "between" "Transaction.between" (defArgs st_t_between) (defBody st_t_between) (defScope st_t_between) .none kV_t_between dc_t_between pm_t_between an_t_between cd_t_between ct_t_between), sl_t_between⟩)
    (c_t_between : PySem.W.codeIn K cd_t_between "Transaction.between" = true)
    (k_t_between : PySem.W.keepIn K (.ref f_t_between) = true)
    (a_t_put : PySem.W.findIn K (.ref CT) "put" = some (some (.ref f_t_put)))
    (i_t_put : PySem.W.isFn K (.ref f_t_put) = true)
    (l_t_put : K.lookup f_t_put = some ⟨oc_t_put, od_t_put, .func (PySem.W.fnOf "put" "Transaction.put" (defArgs st_t_put) (defBody st_t_put) (defScope st_t_put) .none kV_t_put dc_t_put pm_t_put an_t_put cd_t_put ct_t_put), sl_t_put⟩)
    (c_t_put : PySem.W.codeIn K cd_t_put "Transaction.put" = true)
    (k_t_put : PySem.W.keepIn K (.ref f_t_put) = true)
    (a_t_drop : PySem.W.findIn K (.ref CT) "drop" = some (some (.ref f_t_drop)))
    (i_t_drop : PySem.W.isFn K (.ref f_t_drop) = true)
    (l_t_drop : K.lookup f_t_drop = some ⟨oc_t_drop, od_t_drop, .func (PySem.W.fnOf "drop" "Transaction.drop" (defArgs st_t_drop) (defBody st_t_drop) (defScope st_t_drop) .none kV_t_drop dc_t_drop pm_t_drop an_t_drop cd_t_drop ct_t_drop), sl_t_drop⟩)
    (c_t_drop : PySem.W.codeIn K cd_t_drop "Transaction.drop" = true)
    (k_t_drop : PySem.W.keepIn K (.ref f_t_drop) = true)
    (a_t_end : PySem.W.findIn K (.ref CT) "end" = some (some (.ref f_t_end)))
    (i_t_end : PySem.W.isFn K (.ref f_t_end) = true)
    (l_t_end : K.lookup f_t_end = some ⟨oc_t_end, od_t_end, .func (PySem.W.fnOf "end" "Transaction.end" (defArgs st_t_end) (defBody st_t_end) (defScope st_t_end) .none kV_t_end dc_t_end pm_t_end an_t_end cd_t_end ct_t_end), sl_t_end⟩)
    (c_t_end : PySem.W.codeIn K cd_t_end "Transaction.end" = true)
    (k_t_end : PySem.W.keepIn K (.ref f_t_end) = true)
    (a_t_keys : PySem.W.findIn K (.ref CT) "saw_keys" = some (some (.ref f_t_keys)))
    (i_t_keys : PySem.W.isFn K (.ref f_t_keys) = true)
    (l_t_keys : K.lookup f_t_keys = some ⟨oc_t_keys, od_t_keys, .func (PySem.W.fnOf "saw_keys" "Transaction.saw_keys" (defArgs st_t_keys) (defBody st_t_keys) (defScope st_t_keys) .none kV_t_keys dc_t_keys pm_t_keys an_t_keys cd_t_keys ct_t_keys), sl_t_keys⟩)
    (c_t_keys : PySem.W.codeIn K cd_t_keys "Transaction.saw_keys" = true)
    (k_t_keys : PySem.W.keepIn K (.ref f_t_keys) = true)
    (a_t_ranges : PySem.W.findIn K (.ref CT) "saw_ranges" = some (some (.ref f_t_ranges)))
    (i_t_ranges : PySem.W.isFn K (.ref f_t_ranges) = true)
    (l_t_ranges : K.lookup f_t_ranges = some ⟨oc_t_ranges, od_t_ranges, .func (PySem.W.fnOf "saw_ranges" "Transaction.saw_ranges" (defArgs st_t_ranges) (defBody st_t_ranges) (defScope st_t_ranges) .none kV_t_ranges dc_t_ranges pm_t_ranges an_t_ranges cd_t_ranges ct_t_ranges), sl_t_ranges⟩)
    (c_t_ranges : PySem.W.codeIn K cd_t_ranges "Transaction.saw_ranges" = true)
    (k_t_ranges : PySem.W.keepIn K (.ref f_t_ranges) = true)
    (a_t_wrote : PySem.W.findIn K (.ref CT) "wrote" = some (some (.ref f_t_wrote)))
    (i_t_wrote : PySem.W.isFn K (.ref f_t_wrote) = true)
    (l_t_wrote : K.lookup f_t_wrote = some ⟨oc_t_wrote, od_t_wrote, .func (PySem.W.fnOf "wrote" "Transaction.wrote" (defArgs st_t_wrote) (defBody st_t_wrote) (defScope st_t_wrote) .none kV_t_wrote dc_t_wrote pm_t_wrote an_t_wrote cd_t_wrote ct_t_wrote), sl_t_wrote⟩)
    (c_t_wrote : PySem.W.codeIn K cd_t_wrote "Transaction.wrote" = true)
    (k_t_wrote : PySem.W.keepIn K (.ref f_t_wrote) = true)
    (a_t_dealing : PySem.W.findIn K (.ref CT) "dealing" = some (some (.ref f_t_dealing)))
    (i_t_dealing : PySem.W.isFn K (.ref f_t_dealing) = true)
    (l_t_dealing : K.lookup f_t_dealing = some ⟨oc_t_dealing, od_t_dealing, .func (PySem.W.fnOf "dealing" "Transaction.dealing" (defArgs st_t_dealing) (defBody st_t_dealing) (defScope st_t_dealing) .none kV_t_dealing dc_t_dealing pm_t_dealing an_t_dealing cd_t_dealing ct_t_dealing), sl_t_dealing⟩)
    (c_t_dealing : PySem.W.codeIn K cd_t_dealing "Transaction.dealing" = true)
    (k_t_dealing : PySem.W.keepIn K (.ref f_t_dealing) = true)
    (pgCD : PySem.W.plainGet K CD Str.empty = true)
    (hdCD : PySem.W.hasDictIn K CD = true)
    (poCD : PySem.W.plainOver K CD = true)
    (saCD : PySem.W.findIn K (.ref CD) "__setattr__" = some (some (.builtin "object.__setattr__")))
    (mkCD : PySem.W.makesIn K CD = true)
    (kcCD : PySem.W.keepIn K (.ref CD) = true)
    (pgCT : PySem.W.plainGet K CT Str.empty = true)
    (hdCT : PySem.W.hasDictIn K CT = true)
    (poCT : PySem.W.plainOver K CT = true)
    (saCT : PySem.W.findIn K (.ref CT) "__setattr__" = some (some (.builtin "object.__setattr__")))
    (mkCT : PySem.W.makesIn K CT = true)
    (kcCT : PySem.W.keepIn K (.ref CT) = true)
    (clD : PySem.W.findIn K (.ref CD) "__class__" = some (some (.builtin "object.__class__")))
    (spD : PySem.W.specialIn K (.builtin "object.__class__") "__get__" = some (some (.builtin "getset_descriptor.__get__")))
    (tkD : PySem.W.takesIn K (.builtin "object.__class__") = some true)
    (mrD : PySem.W.mroIn K CD (.type "object") = some true)
    (neD : PySem.W.findIn K (.ref CD) "__ne__" = some (some (.builtin "object.__ne__")))
    (nd0 : PySem.W.findIn K (.ref CD) "snapshot" = some none)
    (nd1 : PySem.W.findIn K (.ref CD) "number" = some none)
    (nd2 : PySem.W.findIn K (.ref CD) "gets" = some none)
    (nd3 : PySem.W.findIn K (.ref CD) "ranges" = some none)
    (nd4 : PySem.W.findIn K (.ref CD) "writes" = some none)
    (nt0 : PySem.W.findIn K (.ref CT) "kept_snapshot" = some none)
    (nt1 : PySem.W.findIn K (.ref CT) "kept_look" = some none)
    (nt2 : PySem.W.findIn K (.ref CT) "kept_walk" = some none)
    (nt3 : PySem.W.findIn K (.ref CT) "kept_writes" = some none)
    (nt4 : PySem.W.findIn K (.ref CT) "kept_keys" = some none)
    (nt5 : PySem.W.findIn K (.ref CT) "kept_ranges" = some none)
    (nt6 : PySem.W.findIn K (.ref CT) "kept_open" = some none)
    (z_isinstance : PySem.W.nsIn K mainGlobals "isinstance" = some none)
    (z_len : PySem.W.nsIn K mainGlobals "len" = some none)
    (z_all : PySem.W.nsIn K mainGlobals "all" = some none)
    (z_zip : PySem.W.nsIn K mainGlobals "zip" = some none)
    (z_sorted : PySem.W.nsIn K mainGlobals "sorted" = some none)
    (z_dict : PySem.W.nsIn K mainGlobals "dict" = some none)
    (z_list : PySem.W.nsIn K mainGlobals "list" = some none)
    (z_tuple : PySem.W.nsIn K mainGlobals "tuple" = some none)
    (z_set : PySem.W.nsIn K mainGlobals "set" = some none)
    (z_range : PySem.W.nsIn K mainGlobals "range" = some none)
    (z_abs : PySem.W.nsIn K mainGlobals "abs" = some none)
    (z_min : PySem.W.nsIn K mainGlobals "min" = some none)
    (z_max : PySem.W.nsIn K mainGlobals "max" = some none)
    (z_repr : PySem.W.nsIn K mainGlobals "repr" = some none)
    (z_int : PySem.W.nsIn K mainGlobals "int" = some none)
    (z_bool : PySem.W.nsIn K mainGlobals "bool" = some none)
    (z_str : PySem.W.nsIn K mainGlobals "str" = some none)
    (vL : PySem.W.nsIn K mainGlobals "LETTERS" = some (some (.str alphabet tL)))
    (vM : PySem.W.nsIn K mainGlobals "MOST_LETTERS" = some (some (.int 12 tM)))
    (vW : PySem.W.nsIn K mainGlobals "MOST_WORTH" = some (some (.int 1000000000000000000 tW)))
    (lcc : K.lookup cc = some ⟨occ, odc, .fields vsc, slc⟩)
    (v11 : (vsc[11]? : Option Value) = some (.ref Pt))
    (hcP : PySem.W.codeHdIn K cc Pt = true)
    (nPt : K.lookup Pt = none)
    (hPt : h.get? Pt = some { cls := .none, data := .fields #[] })
    : ∃ (fd : FuncData) (cc T : Addr) (sp : Sp), h.get? T = some { cls := .none, data := .fields #[] } ∧ K.lookup T = none ∧ PySem.W.CodeHd h cc T ∧ (∀ (s : Shared) (u : Value), BindsTo s fd ⟨[u], []⟩ [("_law_script", u)]) ∧
        (∀ (H : Hp) (a : Addr) (ns : List Int), ns.length ≤ 63 → H T = some (.tbl #[]) → SqL K H a (ns.map V.int) → sp [.ref a] H (fun v _ => v = .bl true) fun _ _ _ => False) ∧
        ∀ base : Heap, K.In base → base.Ns mainGlobals mg → TabB base mg cc T → FnG l.prog w K mg base 11 fa fd ["_law_script"] sp := by
  have e := hfa.symm.trans (PySem.W.mg_of X G a_law)
  cases e
  refine ⟨PySem.W.fnOf "law" "law" (defArgs st_law) (defBody st_law) (defScope st_law) .none kV_law dc_law pm_law an_law cd_law ct_law, cc, Pt, spLaw K Pt, hPt, nPt, PySem.W.codeHd_of_K X hcP, fun s v => .of_eq rfl, fun H a ns hl hT hS => ⟨a, ns, rfl, hS, by omega, TabS.nil hT, fun _ => rfl⟩, fun base hb hn TB => ?_⟩
  have B : Bt mg := ⟨PySem.W.mg_none_of X G z_isinstance, PySem.W.mg_none_of X G z_len, PySem.W.mg_none_of X G z_all, PySem.W.mg_none_of X G z_zip, PySem.W.mg_none_of X G z_sorted, PySem.W.mg_none_of X G z_dict, PySem.W.mg_none_of X G z_list, PySem.W.mg_none_of X G z_tuple, PySem.W.mg_none_of X G z_set, PySem.W.mg_none_of X G z_range, PySem.W.mg_none_of X G z_abs, PySem.W.mg_none_of X G z_min, PySem.W.mg_none_of X G z_max, PySem.W.mg_none_of X G z_repr, PySem.W.mg_none_of X G z_int, PySem.W.mg_none_of X G z_bool, PySem.W.mg_none_of X G z_str⟩
  have N : Cn mg := ⟨⟨_, PySem.W.mg_of X G vL⟩, ⟨_, PySem.W.mg_of X G vM⟩, ⟨_, PySem.W.mg_of X G vW⟩⟩
  have clD0 : Cls K CD := ⟨pgCD, hdCD, poCD, saCD⟩
  have D : DCls K mg CD := ⟨⟨clD0, clD, spD, tkD, mrD⟩, PySem.W.mg_of X G aCD, nd0, nd1, nd2, nd3, nd4⟩
  have T : TCls K mg CT := ⟨⟨pgCT, hdCT, poCT, saCT⟩, PySem.W.mg_of X G aCT, nt0, nt1, nt2, nt3, nt4, nt5, nt6⟩
  have F_is_integer := fun_mk (st := st_is_integer) l_is_integer c_is_integer k_is_integer
  have m_is_integer := PySem.W.mg_of X G a_is_integer
  have b_is_integer := F_is_integer.binds (ps := ["thing"]) fun _ _ _ _ _ _ us hl => match us, hl with | [_], _ => rfl
  have F_is_within := fun_mk (st := st_is_within) l_is_within c_is_within k_is_within
  have m_is_within := PySem.W.mg_of X G a_is_within
  have b_is_within := F_is_within.binds (ps := ["thing", "least", "most"]) fun _ _ _ _ _ _ us hl => match us, hl with | [_, _, _], _ => rfl
  have F_is_pair := fun_mk (st := st_is_pair) l_is_pair c_is_pair k_is_pair
  have m_is_pair := PySem.W.mg_of X G a_is_pair
  have b_is_pair := F_is_pair.binds (ps := ["thing"]) fun _ _ _ _ _ _ us hl => match us, hl with | [_], _ => rfl
  have F_is_key := fun_mk (st := st_is_key) l_is_key c_is_key k_is_key
  have m_is_key := PySem.W.mg_of X G a_is_key
  have b_is_key := F_is_key.binds (ps := ["thing"]) fun _ _ _ _ _ _ us hl => match us, hl with | [_], _ => rfl
  have F_is_worth := fun_mk (st := st_is_worth) l_is_worth c_is_worth k_is_worth
  have m_is_worth := PySem.W.mg_of X G a_is_worth
  have b_is_worth := F_is_worth.binds (ps := ["thing"]) fun _ _ _ _ _ _ us hl => match us, hl with | [_], _ => rfl
  have F_is_rising := fun_mk (st := st_is_rising) l_is_rising c_is_rising k_is_rising
  have m_is_rising := PySem.W.mg_of X G a_is_rising
  have b_is_rising := F_is_rising.binds (ps := ["things"]) fun _ _ _ _ _ _ us hl => match us, hl with | [_], _ => rfl
  have F_are_keys := fun_mk (st := st_are_keys) l_are_keys c_are_keys k_are_keys
  have m_are_keys := PySem.W.mg_of X G a_are_keys
  have b_are_keys := F_are_keys.binds (ps := ["thing"]) fun _ _ _ _ _ _ us hl => match us, hl with | [_], _ => rfl
  have F_is_range := fun_mk (st := st_is_range) l_is_range c_is_range k_is_range
  have m_is_range := PySem.W.mg_of X G a_is_range
  have b_is_range := F_is_range.binds (ps := ["thing"]) fun _ _ _ _ _ _ us hl => match us, hl with | [_], _ => rfl
  have F_are_ranges := fun_mk (st := st_are_ranges) l_are_ranges c_are_ranges k_are_ranges
  have m_are_ranges := PySem.W.mg_of X G a_are_ranges
  have b_are_ranges := F_are_ranges.binds (ps := ["thing"]) fun _ _ _ _ _ _ us hl => match us, hl with | [_], _ => rfl
  have F_is_write := fun_mk (st := st_is_write) l_is_write c_is_write k_is_write
  have m_is_write := PySem.W.mg_of X G a_is_write
  have b_is_write := F_is_write.binds (ps := ["thing"]) fun _ _ _ _ _ _ us hl => match us, hl with | [_], _ => rfl
  have F_are_writes := fun_mk (st := st_are_writes) l_are_writes c_are_writes k_are_writes
  have m_are_writes := PySem.W.mg_of X G a_are_writes
  have b_are_writes := F_are_writes.binds (ps := ["thing"]) fun _ _ _ _ _ _ us hl => match us, hl with | [_], _ => rfl
  have F_is_numbered := fun_mk (st := st_is_numbered) l_is_numbered c_is_numbered k_is_numbered
  have m_is_numbered := PySem.W.mg_of X G a_is_numbered
  have b_is_numbered := F_is_numbered.binds (ps := ["snapshot", "number", "writes"]) fun _ _ _ _ _ _ us hl => match us, hl with | [_, _, _], _ => rfl
  have F_bad_part := fun_mk (st := st_bad_part) l_bad_part c_bad_part k_bad_part
  have m_bad_part := PySem.W.mg_of X G a_bad_part
  have b_bad_part := F_bad_part.binds (ps := ["snapshot", "number", "gets", "ranges", "writes"]) fun _ _ _ _ _ _ us hl => match us, hl with | [_, _, _, _, _], _ => rfl
  have F_check_key := fun_mk (st := st_check_key) l_check_key c_check_key k_check_key
  have m_check_key := PySem.W.mg_of X G a_check_key
  have b_check_key := F_check_key.binds (ps := ["key"]) fun _ _ _ _ _ _ us hl => match us, hl with | [_], _ => rfl
  have F_within := fun_mk (st := st_within) l_within c_within k_within
  have m_within := PySem.W.mg_of X G a_within
  have b_within := F_within.binds (ps := ["low", "high", "keys"]) fun _ _ _ _ _ _ us hl => match us, hl with | [_, _, _], _ => rfl
  have F_l_hand := fun_mk (st := st_l_hand) l_l_hand c_l_hand k_l_hand
  have m_l_hand := PySem.W.mg_of X G a_l_hand
  have b_l_hand := F_l_hand.binds (ps := ["_law_script"]) fun _ _ _ _ _ _ us hl => match us, hl with | [_], _ => rfl
  have F_l_draw := fun_mk (st := st_l_draw) l_l_draw c_l_draw k_l_draw
  have m_l_draw := PySem.W.mg_of X G a_l_draw
  have b_l_draw := F_l_draw.binds (ps := ["_law_hand_here", "_law_many"]) fun _ _ _ _ _ _ us hl => match us, hl with | [_, _], _ => rfl
  have F_l_any := fun_mk (st := st_l_any) l_l_any c_l_any k_l_any
  have m_l_any := PySem.W.mg_of X G a_l_any
  have b_l_any := F_l_any.binds (ps := ["_law_hand_here", "_law_some"]) fun _ _ _ _ _ _ us hl => match us, hl with | [_, _], _ => rfl
  have F_l_key := fun_mk (st := st_l_key) l_l_key c_l_key k_l_key
  have m_l_key := PySem.W.mg_of X G a_l_key
  have b_l_key := F_l_key.binds (ps := ["_law_hand_here"]) fun _ _ _ _ _ _ us hl => match us, hl with | [_], _ => rfl
  have F_l_worth := fun_mk (st := st_l_worth) l_l_worth c_l_worth k_l_worth
  have m_l_worth := PySem.W.mg_of X G a_l_worth
  have b_l_worth := F_l_worth.binds (ps := ["_law_hand_here"]) fun _ _ _ _ _ _ us hl => match us, hl with | [_], _ => rfl
  have F_l_snapshot := fun_mk (st := st_l_snapshot) l_l_snapshot c_l_snapshot k_l_snapshot
  have m_l_snapshot := PySem.W.mg_of X G a_l_snapshot
  have b_l_snapshot := F_l_snapshot.binds (ps := ["_law_hand_here"]) fun _ _ _ _ _ _ us hl => match us, hl with | [_], _ => rfl
  have F_l_walked := fun_mk (st := st_l_walked) l_l_walked c_l_walked k_l_walked
  have m_l_walked := PySem.W.mg_of X G a_l_walked
  have b_l_walked := F_l_walked.binds (ps := ["_law_state", "_law_low", "_law_high"]) fun _ _ _ _ _ _ us hl => match us, hl with | [_, _, _], _ => rfl
  have F_l_account := fun_mk (st := st_l_account) l_l_account c_l_account k_l_account
  have m_l_account := PySem.W.mg_of X G a_l_account
  have b_l_account := F_l_account.binds (ps := ["_law_state"]) fun _ _ _ _ _ _ us hl => match us, hl with | [_], _ => rfl
  have F_l_got := fun_mk (st := st_l_got) l_l_got c_l_got k_l_got
  have m_l_got := PySem.W.mg_of X G a_l_got
  have b_l_got := F_l_got.binds (ps := ["_law_account_here", "_law_key_here"]) fun _ _ _ _ _ _ us hl => match us, hl with | [_, _], _ => rfl
  have F_l_ranged := fun_mk (st := st_l_ranged) l_l_ranged c_l_ranged k_l_ranged
  have m_l_ranged := PySem.W.mg_of X G a_l_ranged
  have b_l_ranged := F_l_ranged.binds (ps := ["_law_account_here", "_law_low", "_law_high"]) fun _ _ _ _ _ _ us hl => match us, hl with | [_, _, _], _ => rfl
  have F_l_parts := fun_mk (st := st_l_parts) l_l_parts c_l_parts k_l_parts
  have m_l_parts := PySem.W.mg_of X G a_l_parts
  have b_l_parts := F_l_parts.binds (ps := ["_law_account_here"]) fun _ _ _ _ _ _ us hl => match us, hl with | [_], _ => rfl
  have F_l_step := fun_mk (st := st_l_step) l_l_step c_l_step k_l_step
  have m_l_step := PySem.W.mg_of X G a_l_step
  have b_l_step := F_l_step.binds (ps := ["_law_hand_here", "_law_one", "_law_account_here"]) fun _ _ _ _ _ _ us hl => match us, hl with | [_, _, _], _ => rfl
  have F_l_made := fun_mk (st := st_l_made) l_l_made c_l_made k_l_made
  have m_l_made := PySem.W.mg_of X G a_l_made
  have b_l_made := F_l_made.binds (ps := ["_law_state", "_law_number"]) fun _ _ _ _ _ _ us hl => match us, hl with | [_, _], _ => rfl
  have F_l_seen := fun_mk (st := st_l_seen) l_l_seen c_l_seen k_l_seen
  have m_l_seen := PySem.W.mg_of X G a_l_seen
  have b_l_seen := F_l_seen.binds (ps := ["_law_one", "_law_account_here"]) fun _ _ _ _ _ _ us hl => match us, hl with | [_, _], _ => rfl
  have F_l_deal := fun_mk (st := st_l_deal) l_l_deal c_l_deal k_l_deal
  have m_l_deal := PySem.W.mg_of X G a_l_deal
  have b_l_deal := F_l_deal.binds (ps := ["_law_hand_here", "_law_one", "_law_account_here", "_law_number"]) fun _ _ _ _ _ _ us hl => match us, hl with | [_, _, _, _], _ => rfl
  have F_law := fun_mk (st := st_law) l_law c_law k_law
  have m_law := PySem.W.mg_of X G a_law
  have F_d_init := fun_mk (st := st_d_init) l_d_init c_d_init k_d_init
  have m_d_init : Meth K CD "__init__" f_d_init := ⟨a_d_init, i_d_init, k_d_init⟩
  have b_d_init := F_d_init.binds (ps := ["self", "snapshot", "number", "gets", "ranges", "writes"]) fun _ _ _ _ _ _ us hl => match us, hl with | [_, _, _, _, _, _], _ => rfl
  have F_d_parts := fun_mk (st := st_d_parts) l_d_parts c_d_parts k_d_parts
  have m_d_parts : Meth K CD "parts" f_d_parts := ⟨a_d_parts, i_d_parts, k_d_parts⟩
  have b_d_parts := F_d_parts.binds (ps := ["self"]) fun _ _ _ _ _ _ us hl => match us, hl with | [_], _ => rfl
  have F_d_eq := fun_mk (st := st_d_eq) l_d_eq c_d_eq k_d_eq
  have m_d_eq : Meth K CD "__eq__" f_d_eq := ⟨a_d_eq, i_d_eq, k_d_eq⟩
  have b_d_eq := F_d_eq.binds (ps := ["self", "other"]) fun _ _ _ _ _ _ us hl => match us, hl with | [_, _], _ => rfl
  have F_t_init := fun_mk (st := st_t_init) l_t_init c_t_init k_t_init
  have m_t_init : Meth K CT "__init__" f_t_init := ⟨a_t_init, i_t_init, k_t_init⟩
  have b_t_init := F_t_init.binds (ps := ["self", "snapshot", "look", "walk"]) fun _ _ _ _ _ _ us hl => match us, hl with | [_, _, _, _], _ => rfl
  have F_t_open := fun_mk (st := st_t_open) l_t_open c_t_open k_t_open
  have m_t_open : Meth K CT "check_open" f_t_open := ⟨a_t_open, i_t_open, k_t_open⟩
  have b_t_open := F_t_open.binds (ps := ["self"]) fun _ _ _ _ _ _ us hl => match us, hl with | [_], _ => rfl
  have F_t_get := fun_mk (st := st_t_get) l_t_get c_t_get k_t_get
  have m_t_get : Meth K CT "get" f_t_get := ⟨a_t_get, i_t_get, k_t_get⟩
  have b_t_get := F_t_get.binds (ps := ["self", "key"]) fun _ _ _ _ _ _ us hl => match us, hl with | [_, _], _ => rfl
  have F_t_between := fun_mk (st := st_t_between) l_t_between c_t_between k_t_between
  have m_t_between : Meth K CT "between" f_t_between := ⟨a_t_between, i_t_between, k_t_between⟩
  have b_t_between := F_t_between.binds (ps := ["self", "low", "high"]) fun _ _ _ _ _ _ us hl => match us, hl with | [_, _, _], _ => rfl
  have F_t_put := fun_mk (st := st_t_put) l_t_put c_t_put k_t_put
  have m_t_put : Meth K CT "put" f_t_put := ⟨a_t_put, i_t_put, k_t_put⟩
  have b_t_put := F_t_put.binds (ps := ["self", "key", "worth"]) fun _ _ _ _ _ _ us hl => match us, hl with | [_, _, _], _ => rfl
  have F_t_drop := fun_mk (st := st_t_drop) l_t_drop c_t_drop k_t_drop
  have m_t_drop : Meth K CT "drop" f_t_drop := ⟨a_t_drop, i_t_drop, k_t_drop⟩
  have b_t_drop := F_t_drop.binds (ps := ["self", "key"]) fun _ _ _ _ _ _ us hl => match us, hl with | [_, _], _ => rfl
  have F_t_end := fun_mk (st := st_t_end) l_t_end c_t_end k_t_end
  have m_t_end : Meth K CT "end" f_t_end := ⟨a_t_end, i_t_end, k_t_end⟩
  have b_t_end := F_t_end.binds (ps := ["self"]) fun _ _ _ _ _ _ us hl => match us, hl with | [_], _ => rfl
  have F_t_keys := fun_mk (st := st_t_keys) l_t_keys c_t_keys k_t_keys
  have m_t_keys : Meth K CT "saw_keys" f_t_keys := ⟨a_t_keys, i_t_keys, k_t_keys⟩
  have b_t_keys := F_t_keys.binds (ps := ["self"]) fun _ _ _ _ _ _ us hl => match us, hl with | [_], _ => rfl
  have F_t_ranges := fun_mk (st := st_t_ranges) l_t_ranges c_t_ranges k_t_ranges
  have m_t_ranges : Meth K CT "saw_ranges" f_t_ranges := ⟨a_t_ranges, i_t_ranges, k_t_ranges⟩
  have b_t_ranges := F_t_ranges.binds (ps := ["self"]) fun _ _ _ _ _ _ us hl => match us, hl with | [_], _ => rfl
  have F_t_wrote := fun_mk (st := st_t_wrote) l_t_wrote c_t_wrote k_t_wrote
  have m_t_wrote : Meth K CT "wrote" f_t_wrote := ⟨a_t_wrote, i_t_wrote, k_t_wrote⟩
  have b_t_wrote := F_t_wrote.binds (ps := ["self"]) fun _ _ _ _ _ _ us hl => match us, hl with | [_], _ => rfl
  have F_t_dealing := fun_mk (st := st_t_dealing) l_t_dealing c_t_dealing k_t_dealing
  have m_t_dealing : Meth K CT "dealing" f_t_dealing := ⟨a_t_dealing, i_t_dealing, k_t_dealing⟩
  have b_t_dealing := F_t_dealing.binds (ps := ["self", "number"]) fun _ _ _ _ _ _ us hl => match us, hl with | [_, _], _ => rfl
  have MD : Mk K CD f_d_init := ⟨mkCD, a_d_init, i_d_init, kcCD⟩
  have MT : Mk K CT f_t_init := ⟨mkCT, a_t_init, i_t_init, kcCT⟩
  have G_is_integer := ok_is_integer (P := l.prog) (w := w) (mg := mg) (base := base) F_is_integer B
  have G_is_within := ok_is_within (P := l.prog) (w := w) (mg := mg) (base := base) F_is_within G_is_integer m_is_integer k_is_integer b_is_integer
  have G_is_pair := ok_is_pair (P := l.prog) (w := w) (mg := mg) (base := base) F_is_pair B
  have G_is_key := ok_is_key (P := l.prog) (w := w) (mg := mg) (base := base) F_is_key B N
  have G_is_worth := ok_is_worth (P := l.prog) (w := w) (mg := mg) (base := base) F_is_worth N G_is_within m_is_within k_is_within b_is_within
  have G_is_rising := ok_is_rising (P := l.prog) (w := w) (mg := mg) (base := base) F_is_rising B
  have G_are_keys := ok_are_keys (P := l.prog) (w := w) (mg := mg) (base := base) F_are_keys B G_is_key m_is_key k_is_key b_is_key G_is_rising m_is_rising k_is_rising b_is_rising
  have G_is_range := ok_is_range (P := l.prog) (w := w) (mg := mg) (base := base) F_is_range B G_is_key m_is_key k_is_key b_is_key G_are_keys m_are_keys k_are_keys b_are_keys
  have G_are_ranges := ok_are_ranges (P := l.prog) (w := w) (mg := mg) (base := base) F_are_ranges B G_is_range m_is_range k_is_range b_is_range G_is_rising m_is_rising k_is_rising b_is_rising
  have G_is_write := ok_is_write (P := l.prog) (w := w) (mg := mg) (base := base) F_is_write G_is_pair m_is_pair k_is_pair b_is_pair G_is_key m_is_key k_is_key b_is_key G_is_worth m_is_worth k_is_worth b_is_worth
  have G_are_writes := ok_are_writes (P := l.prog) (w := w) (mg := mg) (base := base) F_are_writes B G_is_write m_is_write k_is_write b_is_write G_is_rising m_is_rising k_is_rising b_is_rising
  have G_is_numbered := ok_is_numbered (P := l.prog) (w := w) (mg := mg) (base := base) F_is_numbered B G_is_integer m_is_integer k_is_integer b_is_integer
  have G_bad_part := ok_bad_part (P := l.prog) (w := w) (mg := mg) (base := base) F_bad_part G_is_integer m_is_integer k_is_integer b_is_integer G_is_numbered m_is_numbered k_is_numbered b_is_numbered G_are_keys m_are_keys k_are_keys b_are_keys G_are_ranges m_are_ranges k_are_ranges b_are_ranges G_are_writes m_are_writes k_are_writes b_are_writes
  have G_d_init := ok_d_init (P := l.prog) (w := w) (mg := mg) (base := base) F_d_init D G_bad_part m_bad_part k_bad_part b_bad_part
  have G_d_parts := ok_d_parts (P := l.prog) (w := w) (mg := mg) (base := base) F_d_parts D
  have G_d_eq := ok_d_eq (P := l.prog) (w := w) (mg := mg) (base := base) F_d_eq B D G_d_parts m_d_parts b_d_parts
  have G_check_key := ok_check_key (P := l.prog) (w := w) (mg := mg) (base := base) F_check_key G_is_key m_is_key k_is_key b_is_key
  have G_within := ok_within (P := l.prog) (w := w) (mg := mg) (base := base) F_within B
  have G_l_walked := ok_l_walked (P := l.prog) (w := w) (mg := mg) (base := base) F_l_walked B
  have G_t_init := ok_t_init (P := l.prog) (w := w) (mg := mg) (base := base) F_t_init T
  have G_t_open := ok_t_open (P := l.prog) (w := w) (mg := mg) (base := base) F_t_open T
  have G_t_put := ok_t_put (P := l.prog) (w := w) (mg := mg) (base := base) F_t_put T G_t_open m_t_open b_t_open G_check_key m_check_key k_check_key b_check_key G_is_worth m_is_worth k_is_worth b_is_worth
  have G_t_drop := ok_t_drop (P := l.prog) (w := w) (mg := mg) (base := base) F_t_drop T G_t_open m_t_open b_t_open G_check_key m_check_key k_check_key b_check_key
  have G_t_get := ok_t_get (P := l.prog) (w := w) (mg := mg) (base := base) F_t_get T G_t_open m_t_open b_t_open G_check_key m_check_key k_check_key b_check_key
  have G_t_end := ok_t_end (P := l.prog) (w := w) (mg := mg) (base := base) F_t_end T G_t_open m_t_open b_t_open
  have G_t_keys := ok_t_keys (P := l.prog) (w := w) (mg := mg) (base := base) F_t_keys B T
  have G_t_ranges := ok_t_ranges (P := l.prog) (w := w) (mg := mg) (base := base) F_t_ranges B T
  have G_t_wrote := ok_t_wrote (P := l.prog) (w := w) (mg := mg) (base := base) F_t_wrote B T
  have G_t_between := ok_t_between (P := l.prog) (w := w) (mg := mg) (base := base) F_t_between B T G_t_open m_t_open b_t_open G_check_key m_check_key k_check_key b_check_key G_within m_within k_within b_within G_l_walked m_l_walked k_l_walked b_l_walked
  have G_t_dealing := ok_t_dealing (P := l.prog) (w := w) (mg := mg) (base := base) F_t_dealing T D G_t_keys m_t_keys b_t_keys G_t_ranges m_t_ranges b_t_ranges G_t_wrote m_t_wrote b_t_wrote MD G_d_init b_d_init
  have G_l_hand := ok_l_hand (P := l.prog) (w := w) (mg := mg) (base := base) F_l_hand B
  have G_l_draw := ok_l_draw (P := l.prog) (w := w) (mg := mg) (base := base) F_l_draw B
  have G_l_any := ok_l_any (P := l.prog) (w := w) (mg := mg) (base := base) F_l_any B G_l_draw m_l_draw k_l_draw b_l_draw
  have G_l_key := ok_l_key (P := l.prog) (w := w) (mg := mg) (base := base) F_l_key G_l_any m_l_any k_l_any b_l_any
  have G_l_worth := ok_l_worth (P := l.prog) (w := w) (mg := mg) (base := base) F_l_worth G_l_any m_l_any k_l_any b_l_any G_l_draw m_l_draw k_l_draw b_l_draw
  have G_l_snapshot := ok_l_snapshot (P := l.prog) (w := w) (mg := mg) (base := base) F_l_snapshot B G_l_any m_l_any k_l_any b_l_any G_l_draw m_l_draw k_l_draw b_l_draw G_l_key m_l_key k_l_key b_l_key G_l_worth m_l_worth k_l_worth b_l_worth
  have G_l_account := ok_l_account (P := l.prog) (w := w) (mg := mg) (base := base) F_l_account 
  have G_l_got := ok_l_got (P := l.prog) (w := w) (mg := mg) (base := base) F_l_got 
  have G_l_ranged := ok_l_ranged (P := l.prog) (w := w) (mg := mg) (base := base) F_l_ranged B G_l_walked m_l_walked k_l_walked b_l_walked
  have G_l_parts := ok_l_parts (P := l.prog) (w := w) (mg := mg) (base := base) F_l_parts B
  have SF : StepFns l.prog w K mg base CT f_l_draw f_l_key f_l_worth f_l_got f_l_ranged f_t_get f_t_between f_t_put f_t_drop _ _ _ _ _ _ _ _ _ := ⟨G_l_draw, m_l_draw, k_l_draw, b_l_draw, G_l_key, m_l_key, k_l_key, b_l_key, G_l_worth, m_l_worth, k_l_worth, b_l_worth, G_l_got, m_l_got, k_l_got, b_l_got, G_l_ranged, m_l_ranged, k_l_ranged, b_l_ranged, G_t_get, m_t_get, b_t_get, G_t_between, m_t_between, b_t_between, G_t_put, m_t_put, b_t_put, G_t_drop, m_t_drop, b_t_drop⟩
  have G_l_step := ok_l_step (Pt := Pt) F_l_step B T SF
  have G_l_made := ok_l_made (P := l.prog) (w := w) l_l_made c_l_made TB T MT G_t_init b_t_init
  have G_l_seen := ok_l_seen (Pt := Pt) F_l_seen B T G_l_parts m_l_parts k_l_parts b_l_parts G_t_keys m_t_keys b_t_keys G_t_ranges m_t_ranges b_t_ranges G_t_wrote m_t_wrote b_t_wrote
  have G_l_deal := ok_l_deal (Pt := Pt) F_l_deal B T D G_l_parts m_l_parts k_l_parts b_l_parts G_l_any m_l_any k_l_any b_l_any G_t_dealing m_t_dealing b_t_dealing MD G_d_init b_d_init G_d_eq a_d_eq i_d_eq b_d_eq neD
  have LF : LawFns l.prog w K mg base CT Pt f_l_hand f_l_snapshot f_l_account f_l_made f_l_draw f_l_step f_l_seen f_l_deal f_t_end _ _ _ _ _ _ _ _ _ := ⟨G_l_hand, m_l_hand, k_l_hand, b_l_hand, G_l_snapshot, m_l_snapshot, k_l_snapshot, b_l_snapshot, G_l_account, m_l_account, k_l_account, b_l_account, G_l_made, m_l_made, k_l_made, b_l_made, G_l_draw, m_l_draw, k_l_draw, b_l_draw, G_l_step, m_l_step, k_l_step, b_l_step, G_l_seen, m_l_seen, k_l_seen, b_l_seen, G_l_deal, m_l_deal, k_l_deal, b_l_deal, G_t_end, m_t_end, b_t_end⟩
  exact ok_law F_law B T LF
end W30


open PySem PySem.W PyProof.Rows
set_option maxRecDepth 100000 in
set_option maxHeartbeats 0 in
theorem PySem.Challenge.cw_wholeways_k30_whole_what_transactions_ha_holds : PySem.Challenge.rw_wholeways_k30_whole_what_transactions_ha.Holds := by
  w_on; o_law; k_head; (case hw => w_witness2)
  k_fill
  refine W30.walk_G (l := PySem.Challenge.rw_wholeways_k30_whole_what_transactions_ha) (n := 63) (k := 11) (x := "_law_script") rfl (by decide) rfl ⟨rfl, by decide, by decide⟩ (fun w h Y => PySem.W.km_in_of Y) ?F
  case F =>
    intro w mg fa h Y KX G hmg
    refine' W30.all_mk KX G hmg ?aCD ?aCT ?a_is_integer ?l_is_integer ?c_is_integer ?k_is_integer ?a_is_within ?l_is_within ?c_is_within ?k_is_within ?a_is_pair ?l_is_pair ?c_is_pair ?k_is_pair ?a_is_key ?l_is_key ?c_is_key ?k_is_key ?a_is_worth ?l_is_worth ?c_is_worth ?k_is_worth ?a_is_rising ?l_is_rising ?c_is_rising ?k_is_rising ?a_are_keys ?l_are_keys ?c_are_keys ?k_are_keys ?a_is_range ?l_is_range ?c_is_range ?k_is_range ?a_are_ranges ?l_are_ranges ?c_are_ranges ?k_are_ranges ?a_is_write ?l_is_write ?c_is_write ?k_is_write ?a_are_writes ?l_are_writes ?c_are_writes ?k_are_writes ?a_is_numbered ?l_is_numbered ?c_is_numbered ?k_is_numbered ?a_bad_part ?l_bad_part ?c_bad_part ?k_bad_part ?a_check_key ?l_check_key ?c_check_key ?k_check_key ?a_within ?l_within ?c_within ?k_within ?a_l_hand ?l_l_hand ?c_l_hand ?k_l_hand ?a_l_draw ?l_l_draw ?c_l_draw ?k_l_draw ?a_l_any ?l_l_any ?c_l_any ?k_l_any ?a_l_key ?l_l_key ?c_l_key ?k_l_key ?a_l_worth ?l_l_worth ?c_l_worth ?k_l_worth ?a_l_snapshot ?l_l_snapshot ?c_l_snapshot ?k_l_snapshot ?a_l_walked ?l_l_walked ?c_l_walked ?k_l_walked ?a_l_account ?l_l_account ?c_l_account ?k_l_account ?a_l_got ?l_l_got ?c_l_got ?k_l_got ?a_l_ranged ?l_l_ranged ?c_l_ranged ?k_l_ranged ?a_l_parts ?l_l_parts ?c_l_parts ?k_l_parts ?a_l_step ?l_l_step ?c_l_step ?k_l_step ?a_l_made ?l_l_made ?c_l_made ?k_l_made ?a_l_seen ?l_l_seen ?c_l_seen ?k_l_seen ?a_l_deal ?l_l_deal ?c_l_deal ?k_l_deal ?a_law ?l_law ?c_law ?k_law ?a_d_init ?i_d_init ?l_d_init ?c_d_init ?k_d_init ?a_d_parts ?i_d_parts ?l_d_parts ?c_d_parts ?k_d_parts ?a_d_eq ?i_d_eq ?l_d_eq ?c_d_eq ?k_d_eq ?a_t_init ?i_t_init ?l_t_init ?c_t_init ?k_t_init ?a_t_open ?i_t_open ?l_t_open ?c_t_open ?k_t_open ?a_t_get ?i_t_get ?l_t_get ?c_t_get ?k_t_get ?a_t_between ?i_t_between ?l_t_between ?c_t_between ?k_t_between ?a_t_put ?i_t_put ?l_t_put ?c_t_put ?k_t_put ?a_t_drop ?i_t_drop ?l_t_drop ?c_t_drop ?k_t_drop ?a_t_end ?i_t_end ?l_t_end ?c_t_end ?k_t_end ?a_t_keys ?i_t_keys ?l_t_keys ?c_t_keys ?k_t_keys ?a_t_ranges ?i_t_ranges ?l_t_ranges ?c_t_ranges ?k_t_ranges ?a_t_wrote ?i_t_wrote ?l_t_wrote ?c_t_wrote ?k_t_wrote ?a_t_dealing ?i_t_dealing ?l_t_dealing ?c_t_dealing ?k_t_dealing ?pgCD ?hdCD ?poCD ?saCD ?mkCD ?kcCD ?pgCT ?hdCT ?poCT ?saCT ?mkCT ?kcCT ?clD ?spD ?tkD ?mrD ?neD ?nd0 ?nd1 ?nd2 ?nd3 ?nd4 ?nt0 ?nt1 ?nt2 ?nt3 ?nt4 ?nt5 ?nt6 ?z_isinstance ?z_len ?z_all ?z_zip ?z_sorted ?z_dict ?z_list ?z_tuple ?z_set ?z_range ?z_abs ?z_min ?z_max ?z_repr ?z_int ?z_bool ?z_str ?vL ?vM ?vW ?lcc ?v11 ?hcP ?nPt ?hPt
    (case aCD => k_is)
    (case aCT => k_is)
    (case a_is_integer => k_is)
    (case l_is_integer => k_is)
    (case c_is_integer => k_is)
    (case k_is_integer => k_is)
    (case a_is_within => k_is)
    (case l_is_within => k_is)
    (case c_is_within => k_is)
    (case k_is_within => k_is)
    (case a_is_pair => k_is)
    (case l_is_pair => k_is)
    (case c_is_pair => k_is)
    (case k_is_pair => k_is)
    (case a_is_key => k_is)
    (case l_is_key => k_is)
    (case c_is_key => k_is)
    (case k_is_key => k_is)
    (case a_is_worth => k_is)
    (case l_is_worth => k_is)
    (case c_is_worth => k_is)
    (case k_is_worth => k_is)
    (case a_is_rising => k_is)
    (case l_is_rising => k_is)
    (case c_is_rising => k_is)
    (case k_is_rising => k_is)
    (case a_are_keys => k_is)
    (case l_are_keys => k_is)
    (case c_are_keys => k_is)
    (case k_are_keys => k_is)
    (case a_is_range => k_is)
    (case l_is_range => k_is)
    (case c_is_range => k_is)
    (case k_is_range => k_is)
    (case a_are_ranges => k_is)
    (case l_are_ranges => k_is)
    (case c_are_ranges => k_is)
    (case k_are_ranges => k_is)
    (case a_is_write => k_is)
    (case l_is_write => k_is)
    (case c_is_write => k_is)
    (case k_is_write => k_is)
    (case a_are_writes => k_is)
    (case l_are_writes => k_is)
    (case c_are_writes => k_is)
    (case k_are_writes => k_is)
    (case a_is_numbered => k_is)
    (case l_is_numbered => k_is)
    (case c_is_numbered => k_is)
    (case k_is_numbered => k_is)
    (case a_bad_part => k_is)
    (case l_bad_part => k_is)
    (case c_bad_part => k_is)
    (case k_bad_part => k_is)
    (case a_check_key => k_is)
    (case l_check_key => k_is)
    (case c_check_key => k_is)
    (case k_check_key => k_is)
    (case a_within => k_is)
    (case l_within => k_is)
    (case c_within => k_is)
    (case k_within => k_is)
    (case a_l_hand => k_is)
    (case l_l_hand => k_is)
    (case c_l_hand => k_is)
    (case k_l_hand => k_is)
    (case a_l_draw => k_is)
    (case l_l_draw => k_is)
    (case c_l_draw => k_is)
    (case k_l_draw => k_is)
    (case a_l_any => k_is)
    (case l_l_any => k_is)
    (case c_l_any => k_is)
    (case k_l_any => k_is)
    (case a_l_key => k_is)
    (case l_l_key => k_is)
    (case c_l_key => k_is)
    (case k_l_key => k_is)
    (case a_l_worth => k_is)
    (case l_l_worth => k_is)
    (case c_l_worth => k_is)
    (case k_l_worth => k_is)
    (case a_l_snapshot => k_is)
    (case l_l_snapshot => k_is)
    (case c_l_snapshot => k_is)
    (case k_l_snapshot => k_is)
    (case a_l_walked => k_is)
    (case l_l_walked => k_is)
    (case c_l_walked => k_is)
    (case k_l_walked => k_is)
    (case a_l_account => k_is)
    (case l_l_account => k_is)
    (case c_l_account => k_is)
    (case k_l_account => k_is)
    (case a_l_got => k_is)
    (case l_l_got => k_is)
    (case c_l_got => k_is)
    (case k_l_got => k_is)
    (case a_l_ranged => k_is)
    (case l_l_ranged => k_is)
    (case c_l_ranged => k_is)
    (case k_l_ranged => k_is)
    (case a_l_parts => k_is)
    (case l_l_parts => k_is)
    (case c_l_parts => k_is)
    (case k_l_parts => k_is)
    (case a_l_step => k_is)
    (case l_l_step => k_is)
    (case c_l_step => k_is)
    (case k_l_step => k_is)
    (case a_l_made => k_is)
    (case l_l_made => k_is)
    (case c_l_made => k_is)
    (case k_l_made => k_is)
    (case a_l_seen => k_is)
    (case l_l_seen => k_is)
    (case c_l_seen => k_is)
    (case k_l_seen => k_is)
    (case a_l_deal => k_is)
    (case l_l_deal => k_is)
    (case c_l_deal => k_is)
    (case k_l_deal => k_is)
    (case a_law => k_is)
    (case l_law => k_is)
    (case c_law => k_is)
    (case k_law => k_is)
    (case a_d_init => k_is)
    (case i_d_init => k_is)
    (case l_d_init => k_is)
    (case c_d_init => k_is)
    (case k_d_init => k_is)
    (case a_d_parts => k_is)
    (case i_d_parts => k_is)
    (case l_d_parts => k_is)
    (case c_d_parts => k_is)
    (case k_d_parts => k_is)
    (case a_d_eq => k_is)
    (case i_d_eq => k_is)
    (case l_d_eq => k_is)
    (case c_d_eq => k_is)
    (case k_d_eq => k_is)
    (case a_t_init => k_is)
    (case i_t_init => k_is)
    (case l_t_init => k_is)
    (case c_t_init => k_is)
    (case k_t_init => k_is)
    (case a_t_open => k_is)
    (case i_t_open => k_is)
    (case l_t_open => k_is)
    (case c_t_open => k_is)
    (case k_t_open => k_is)
    (case a_t_get => k_is)
    (case i_t_get => k_is)
    (case l_t_get => k_is)
    (case c_t_get => k_is)
    (case k_t_get => k_is)
    (case a_t_between => k_is)
    (case i_t_between => k_is)
    (case l_t_between => k_is)
    (case c_t_between => k_is)
    (case k_t_between => k_is)
    (case a_t_put => k_is)
    (case i_t_put => k_is)
    (case l_t_put => k_is)
    (case c_t_put => k_is)
    (case k_t_put => k_is)
    (case a_t_drop => k_is)
    (case i_t_drop => k_is)
    (case l_t_drop => k_is)
    (case c_t_drop => k_is)
    (case k_t_drop => k_is)
    (case a_t_end => k_is)
    (case i_t_end => k_is)
    (case l_t_end => k_is)
    (case c_t_end => k_is)
    (case k_t_end => k_is)
    (case a_t_keys => k_is)
    (case i_t_keys => k_is)
    (case l_t_keys => k_is)
    (case c_t_keys => k_is)
    (case k_t_keys => k_is)
    (case a_t_ranges => k_is)
    (case i_t_ranges => k_is)
    (case l_t_ranges => k_is)
    (case c_t_ranges => k_is)
    (case k_t_ranges => k_is)
    (case a_t_wrote => k_is)
    (case i_t_wrote => k_is)
    (case l_t_wrote => k_is)
    (case c_t_wrote => k_is)
    (case k_t_wrote => k_is)
    (case a_t_dealing => k_is)
    (case i_t_dealing => k_is)
    (case l_t_dealing => k_is)
    (case c_t_dealing => k_is)
    (case k_t_dealing => k_is)
    (case pgCD => k_is)
    (case hdCD => k_is)
    (case poCD => k_is)
    (case saCD => k_is)
    (case mkCD => k_is)
    (case kcCD => k_is)
    (case pgCT => k_is)
    (case hdCT => k_is)
    (case poCT => k_is)
    (case saCT => k_is)
    (case mkCT => k_is)
    (case kcCT => k_is)
    (case clD => k_is)
    (case spD => k_is)
    (case tkD => k_is)
    (case mrD => k_is)
    (case neD => k_is)
    (case nd0 => k_is)
    (case nd1 => k_is)
    (case nd2 => k_is)
    (case nd3 => k_is)
    (case nd4 => k_is)
    (case nt0 => k_is)
    (case nt1 => k_is)
    (case nt2 => k_is)
    (case nt3 => k_is)
    (case nt4 => k_is)
    (case nt5 => k_is)
    (case nt6 => k_is)
    (case z_isinstance => k_is)
    (case z_len => k_is)
    (case z_all => k_is)
    (case z_zip => k_is)
    (case z_sorted => k_is)
    (case z_dict => k_is)
    (case z_list => k_is)
    (case z_tuple => k_is)
    (case z_set => k_is)
    (case z_range => k_is)
    (case z_abs => k_is)
    (case z_min => k_is)
    (case z_max => k_is)
    (case z_repr => k_is)
    (case z_int => k_is)
    (case z_bool => k_is)
    (case z_str => k_is)
    (case vL => k_is)
    (case vM => k_is)
    (case vW => k_is)
    (case lcc => k_is)
    (case v11 => rfl)
    (case hcP => kernel_rfl)
    (case nPt => kernel_rfl)
    (case hPt => exact PySem.W.km_tabs_of Y _ (by simp))
#print axioms PySem.Challenge.cw_wholeways_k30_whole_what_transactions_ha_holds



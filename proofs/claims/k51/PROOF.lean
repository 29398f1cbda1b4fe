import PyProof.Rows.All
import Wide.All
import OpenK.AllK
import Wide.FinOn
import HandS.ForMost
import HandS.Strs
import HandS.SetFor
import HandS.TupSets
import HandS.IsInst
import HandS.ClsMeth
import HandS.Rev
import KE.SortData
import HandS.Codes
import KE.RegKIsAll
import PySem.Challenge.RW_formgrove_k51_values_of_groves
set_option Elab.async false
set_option linter.all false
set_option maxRecDepth 100000
set_option maxHeartbeats 4000000
/-! Sets made of lists: of ints, and of four-tuples (int, text, int, int); the latter sorted. -/
namespace Gv
open PySem PySem.Spec PyProof.Rows L2

/-! ### tuples whose items are ints and texts -/
abbrev MixT (P : Program) (w : World) (h : Heap) (k : List L2.Key) (a : Addr) : Prop := IsTupleKey (mixKind P w) h k a
abbrev mixH (P : Program) (w : World) (k : List L2.Key) : Int := tupleKeyHash (mixKind P w) k
def Flat (v : Value) : Prop := (∃ i t, v = Value.int i t) ∨ ∃ x t, v = Value.str x t
theorem flat_class {n : Nat} {v : Value} (h : Flat v) : ofAClassStatement n v = pure false := by
  rcases h with ⟨i, t, rfl⟩ | ⟨x, t, rfl⟩ <;> cases n <;> rfl
theorem flat_hash {n : Nat} {v : Value} (h : Flat v) : ∃ b, hashByValue n v = pure b := by
  rcases h with ⟨i, t, rfl⟩ | ⟨x, t, rfl⟩
  · exact ⟨true, by cases n <;> rfl⟩
  · exact ⟨false, by cases n <;> rfl⟩
section
variable {P : Program} {w : World} {A : Around} {E : Value → Shared → Prop} {s : Shared}
theorem mix_flat {k : List L2.Key} {vs : List Value} (h : ItemsAre (mixKind P w) k vs) : ∀ v ∈ vs, Flat v := by
  induction h with
  | nil => exact fun v hv => absurd hv List.not_mem_nil
  | cons h1 _ ih =>
    intro v hv
    rcases List.mem_cons.mp hv with e | hv
    · rcases keyIs_shape h1 with ⟨i, t, _, e2⟩ | ⟨x, t, _, e2⟩
      · exact .inl ⟨i, t, e.trans e2⟩
      · exact .inr ⟨x, t, e.trans e2⟩
    · exact ih v hv
theorem mix_class {k : List L2.Key} {b : Addr} {Q : Bool → Shared → Prop} (hk : MixT P w s.heap k b) (q : Q false s) : wpAny (model P w) A (ofAClassStatement 8 (.ref b)) Q E s := by
  have ht := hk.typeIs
  obtain ⟨o, its, n, ho, hc, hd, hi⟩ := hk
  unfold ofAClassStatement
  refine wpAny_bind (wpAny_typeOf ht ?_)
  dsimp only
  have et : (("tuple" : String) == "tuple") = true := by decide
  simp only [et, if_true, Bool.not_true, Bool.false_eq_true, if_false]
  try refine wpAny_bind (wpAny_pure ?_)
  try simp only [Bool.not_true, Bool.false_eq_true, if_false]
  show wpAny _ _ (seqItems? (.ref b) >>= _) _ _ s
  refine wpAny_bind (wpAny_seqItems ho hd ?_)
  dsimp only
  refine wpAny_bind ?_
  show wpAny _ _ (forIn its _ _) _ _ s
  rw [← Array.forIn_toList]
  refine wpAny_forIn_list _ (fun left r s1 => r.1 = none ∧ s1 = s ∧ ∀ v ∈ left, Flat v) _ (fun v left r s1 hI => ?_) (fun r s1 hI => ?_) _ _ ⟨rfl, rfl, mix_flat hi⟩
  · obtain ⟨hr, rfl, hall⟩ := hI
    rw [flat_class (hall v List.mem_cons_self)]
    refine wpAny_bind (wpAny_pure ?_)
    simp only [Bool.false_eq_true, if_false]
    exact wpAny_pure ⟨rfl, rfl, fun u hu => hall u (List.mem_cons_of_mem _ hu)⟩
  · obtain ⟨r1, r2⟩ := r
    obtain ⟨hr, rfl, _⟩ := hI
    simp only at hr
    subst hr
    exact wpAny_pure q
/-- whether it hashes by its value: either answer -/
theorem mix_hashBy {k : List L2.Key} {b : Addr} {Q : Bool → Shared → Prop} (hk : MixT P w s.heap k b) (q : ∀ c, Q c s) : wpAny (model P w) A (hashByValue 8 (.ref b)) Q E s := by
  have ht := hk.typeIs
  obtain ⟨o, its, n, ho, hc, hd, hi⟩ := hk
  unfold hashByValue
  refine wpAny_bind (wpAny_specialOf ht F.slot_tuple_hash.lookup ?_)
  show wpAny _ _ (seqItems? (.ref b) >>= _) _ _ s
  refine wpAny_bind (wpAny_seqItems ho hd ?_)
  refine wpAny_bind ?_
  show wpAny _ _ (forIn its _ _) _ _ s
  rw [← Array.forIn_toList]
  refine wpAny_forIn_list _ (fun left r s1 => r.1 = none ∧ s1 = s ∧ ∀ v ∈ left, Flat v) _ (fun v left r s1 hI => ?_) (fun r s1 hI => ?_) _ _ ⟨rfl, rfl, mix_flat hi⟩
  · obtain ⟨hr, rfl, hall⟩ := hI
    obtain ⟨c, e⟩ := flat_hash (n := 7) (hall v List.mem_cons_self)
    rw [e]
    refine wpAny_bind (wpAny_pure ?_)
    cases c with
    | true =>
      simp only [Bool.not_true, Bool.false_eq_true, if_false]
      exact wpAny_pure ⟨rfl, rfl, fun u hu => hall u (List.mem_cons_of_mem _ hu)⟩
    | false =>
      simp only [Bool.not_false, if_true]
      exact wpAny_pure (wpAny_pure (q false))
  · obtain ⟨r1, r2⟩ := r
    obtain ⟨hr, rfl, _⟩ := hI
    simp only at hr
    subst hr
    exact wpAny_pure (q true)
/-- a search among such tuples shows nothing -/
theorem mix_unseen {k : List L2.Key} {b : Addr} {Q : Bool → Shared → Prop} (hk : MixT P w s.heap k b) {ys : List Value} (hy : ∀ y ∈ ys, ∃ k' c, y = Value.ref c ∧ MixT P w s.heap k' c) (q : Q false s) :
    wpAny (model P w) A (searchCouldBeSeen (.ref b) ys) Q E s := by
  unfold searchCouldBeSeen
  refine wpAny_bind ?_
  refine wpAny_forIn_list _ (fun left r s1 => r.1 = none ∧ s1 = s ∧ ∀ y ∈ left, ∃ k' c, y = Value.ref c ∧ MixT P w s.heap k' c) _ (fun v left r s1 hI => ?_) (fun r s1 hI => ?_) _ _ ⟨rfl, rfl, hy⟩
  · obtain ⟨hr, rfl, hall⟩ := hI
    obtain ⟨k2, c, rfl, hc⟩ := hall v List.mem_cons_self
    have next : ∀ y ∈ left, ∃ k' c, y = Value.ref c ∧ MixT P w s1.heap k' c := fun u hu => hall u (List.mem_cons_of_mem _ hu)
    dsimp only
    by_cases hv : (b == c || (carriedByValue (.ref b) && carriedByValue (.ref c))) = true
    · exact wp_if_pos hv (wpAny_pure ⟨rfl, rfl, next⟩)
    · refine wp_if_neg hv (wpAny_bind (wpAny_eqIsQuiet_tuple hk ?_))
      simp only [Bool.not_true, Bool.false_eq_true, if_false]
      refine wpAny_bind (wpAny_eqIsQuiet_tuple hc ?_)
      simp only [Bool.not_true, Bool.false_eq_true, if_false]
      refine wpAny_bind (mix_class hk ?_)
      simp only [Bool.false_eq_true, if_false]
      refine wpAny_bind (mix_class hc ?_)
      simp only [Bool.false_eq_true, if_false]
      exact wpAny_pure ⟨rfl, rfl, next⟩
  · obtain ⟨r1, r2⟩ := r
    obtain ⟨hr, rfl, _⟩ := hI
    simp only at hr
    subst hr
    exact wpAny_pure q
theorem mix_keep {h h' : Heap} {k : List L2.Key} {b : Addr} (x : MixT P w h k b) (hk : ∀ o, h.get? b = some o → h'.get? b = some o) : MixT P w h' k b := by
  obtain ⟨o, its, n, ho, r⟩ := x
  exact ⟨o, its, n, hk o ho, r⟩
end

/-! ### the set: its rows come of a list of keyed tuples -/
/-- a row of the set -/
def Row (P : Program) (w : World) (ks : List (Addr × List L2.Key)) (e : Int × Value) : Prop := ∃ p ∈ ks, e = (mixH P w p.2, Value.ref p.1)
structure SetM (P : Program) (w : World) (h : Heap) (a : Addr) (ks : List (Addr × List L2.Key)) (n : Nat) (es : Array (Int × Value)) (ep : Nat) (t : SetTable) : Prop where
  ob : ∃ o, h.get? a = some o ∧ o.ExactSet ∧ o.data = .set es ep t
  rows : ∀ e ∈ es.toList, Row P w ks e
  tab : TabOk t (es.toList.map (·.1))
  led : w.params.followText "set-order" = true ∨ t.led = true
  room : es.size * 5 < t.mask * 3
  few : es.size ≤ n
section
variable {P : Program} {w : World} {A : Around} {E : Value → Shared → Prop} {s : Shared} {a : Addr} {ks : List (Addr × List L2.Key)} {n : Nat} {es : Array (Int × Value)} {ep : Nat} {t : SetTable}
theorem SetM.psize (R : SetM P w s.heap a ks n es ep t) : t.place.size = es.size := by
  have h := R.tab.sz
  rw [List.length_map, Array.length_toList] at h
  exact h
theorem SetM.fits (R : SetM P w s.heap a ks n es ep t) : t.fits es.size = true := by
  have h1 := R.psize
  have h3 := R.room
  unfold SetTable.fits SetTable.fill
  rw [R.tab.dm, Bool.and_eq_true, beq_iff_eq, decide_eq_true_eq]
  show t.place.size = es.size ∧ t.place.size + 0 ≤ t.mask
  omega
theorem SetM.gw (R : SetM P w s.heap a ks n es ep t) : ¬ t.gaveWay = true := by
  unfold SetTable.gaveWay
  rw [mask_odd R.tab.mok]
  decide
theorem SetM.mono {n' : Nat} (R : SetM P w s.heap a ks n es ep t) (h : n ≤ n') : SetM P w s.heap a ks n' es ep t := ⟨R.ob, R.rows, R.tab, R.led, R.room, Nat.le_trans R.few h⟩
theorem SetM.at {h h' : Heap} (R : SetM P w h a ks n es ep t) (k : ∀ o, h.get? a = some o → h'.get? a = some o) : SetM P w h' a ks n es ep t := by
  obtain ⟨o, ho, r⟩ := R.ob
  exact ⟨⟨o, k o ho, r⟩, R.rows, R.tab, R.led, R.room, R.few⟩
/-- the way of a hash through the table -/
abbrev stand0 (t : SetTable) (h : Int) : SetTable.Probe := runAt t.mask (SetTable.bits h % (t.mask + 1)) (SetTable.bits h)
theorem nth_nodummy (m : Nat) : ∀ (n : Nat) (p : SetTable.Probe), p.dummy = none → (nth m p n).dummy = none
  | 0, _, h => h
  | n + 1, p, h => by
    refine nth_nodummy m n (adv m p) ?_
    unfold adv
    split <;> exact h

/-- the search, as adding asks: it ends at an equal tuple or at the first free slot K -/
theorem mix_search (R : SetM P w s.heap a ks n es ep t) (hks : ∀ p ∈ ks, MixT P w s.heap p.2 p.1) {x : Addr} {k : List L2.Key} (hx : MixT P w s.heap k x) (hu : A.units < cLine) {K : Nat} (hKf : K < 10 * SetTable.turns t.mask)
    (hK : way t.mask (mixH P w k) K ∉ t.place.toList) (hKb : ∀ c, c < K → way t.mask (mixH P w k) c ∈ t.place.toList) {Q : SetFound → Shared → Prop}
    (hin : Q (.there none) s) (hout : Q (.free (way t.mask (mixH P w k) K) false) s) :
    ∀ (f c : Nat) (stand : Option SetTable.Probe), stand.getD (t.probeStart (mixH P w k)) = nth t.mask (stand0 t (mixH P w k)) c → c ≤ K → K - c < f →
      wpAny (model P w) A (setSearchFrom a (.ref x) (mixH P w k) true f stand) Q E s
  | 0, c, stand, _, _, hf => absurd hf (Nat.not_lt_zero _)
  | f + 1, c, stand, hst, hc, hf => by
    obtain ⟨o, ho, hex, hd⟩ := R.ob
    have sh : ∀ q, nth t.mask (nth t.mask (stand0 t (mixH P w k)) c) q = nth t.mask (stand0 t (mixH P w k)) (c + q) := fun q => (nth_add t.mask c _ q).symm
    have wj : ∀ q, (nth t.mask (nth t.mask (stand0 t (mixH P w k)) c) q).j = way t.mask (mixH P w k) (c + q) := fun q => congrArg SetTable.Probe.j (sh q)
    have at_K : c + (K - c) = K := by omega
    have spec := go_spec t R.tab.ris R.tab.dm (fun i => (es[i]?.map (·.1)).getD 0) (mixH P w k) (10 * SetTable.turns t.mask) (K - c) _ (nth_nodummy t.mask c (stand0 t (mixH P w k)) rfl) (by omega)
      (fun q hq => by rw [wj]; exact hKb (c + q) (by omega)) (by rw [wj, at_K]; exact hK)
    rw [setSearchFrom_succ]
    refine wpAny_bind (wpAny_setState_of ho hd R.fits ?_)
    dsimp only
    refine wp_if_neg R.gw ?_
    try refine wpAny_bind (wpAny_pure ?_)
    rcases spec with ⟨q, i, hq, hi, _, _, hpr⟩ | ⟨_, hpr⟩
    · -- a row of the same hash
      have hp2 : t.probe (fun i => (es[i]?.map (·.1)).getD 0) (mixH P w k) (stand.getD (t.probeStart (mixH P w k))) = some (.candidate (way t.mask (mixH P w k) (c + q)) i (nth t.mask (stand0 t (mixH P w k)) (c + (q + 1)))) := by
        rw [hst, ← wj, ← sh]
        exact hpr
      rw [hp2]
      dsimp only
      rw [wj] at hi
      have hil : i < es.size := by
        have h1 := (List.getElem?_eq_some_iff.mp hi).1
        rw [Array.length_toList, R.psize] at h1
        exact h1
      have hei : es[i]? = some es[i] := Array.getElem?_eq_getElem hil
      obtain ⟨p, hp, hep⟩ := R.rows es[i] (by simp)
      rw [hep] at hei
      have hpt := hks p hp
      have tail : wpAny (model P w) A (searchRest a (.ref x) (mixH P w k) true f es t (way t.mask (mixH P w k) (c + q)) i (nth t.mask (stand0 t (mixH P w k)) (c + (q + 1)))) Q E s := by
        unfold searchRest
        rw [hei]
        dsimp only
        refine wpAny_bind (wpAny_holding (wpAny_eqBool_tuple hu hpt hx ?_))
        refine wpAny_bind (wpAny_setState_of ho hd R.fits ?_)
        dsimp only
        by_cases hkk : p.2 = k
        · exact wp_if_pos (by simp [hkk]) (wpAny_pure hin)
        · refine wp_if_neg (by simp [hkk]) ?_
          try refine wpAny_bind (wpAny_pure ?_)
          rw [sameMem]
          dsimp only
          have hsl : t.slot (way t.mask (mixH P w k) (c + q)) = .live i := slot_live R.tab.ris hi
          simp only [if_true, hsl, hei]
          refine wpAny_bind (wpAny_isSame_ref_self (wpAny_bind (wpAny_pure ?_)))
          simp only [if_true]
          refine wp_if_neg (by simp [hkk]) ?_
          exact mix_search R hks hx hu hKf hK hKb hin hout f (c + (q + 1)) _ rfl (by omega) (by omega)
      by_cases hl : t.led = true
      · refine wp_if_neg (by simp [hl]) ?_
        try refine wpAny_bind (wpAny_pure ?_)
        exact tail
      · refine wp_if_pos (by simp [hl]) ?_
        refine wpAny_bind (mix_unseen hx (fun y hy => ?_) ?_)
        · obtain ⟨e, he, ee⟩ := List.mem_map.mp hy
          have he1 : e ∈ es ∧ e.1 = mixH P w k := by simpa using he
          obtain ⟨p2, hp3, e2⟩ := R.rows e (by simpa using he1.1)
          refine ⟨p2.2, p2.1, ?_, hks p2 hp3⟩
          rw [← ee, e2]
        · refine wp_if_neg (by decide) ?_
          try refine wpAny_bind (wpAny_pure ?_)
          exact tail
    · -- the free slot
      have hp2 : t.probe (fun i => (es[i]?.map (·.1)).getD 0) (mixH P w k) (stand.getD (t.probeStart (mixH P w k))) = some (.empty (way t.mask (mixH P w k) K) none) := by
        have e2 : way t.mask (mixH P w k) K = (nth t.mask (nth t.mask (stand0 t (mixH P w k)) c) (K - c)).j := by
          rw [wj, at_K]
        rw [hst, e2]
        exact hpr
      rw [hp2]
      dsimp only
      exact wpAny_pure hout
/-- a permuted choice of the rows -/
theorem pick_rows (es : Array (Int × Value)) (order : Array Nat) (hp : order.toList.Perm (List.range es.size)) :
    (order.filterMap (es[·]?)).size = es.size ∧ (∀ e ∈ (order.filterMap (es[·]?)).toList, e ∈ es.toList) ∧ (order.filterMap (es[·]?)).toList.map (·.1) = order.toList.map fun i => (es.map (·.1)).getD i 0 := by
  have key : ∀ l : List Nat, (∀ i ∈ l, i < es.size) → (l.filterMap fun i => es[i]?).length = l.length ∧ (∀ e ∈ l.filterMap fun i => es[i]?, e ∈ es.toList) ∧ (l.filterMap fun i => es[i]?).map (·.1) = l.map fun i => (es.map (·.1)).getD i 0 := by
    intro l
    induction l with
    | nil => exact fun _ => ⟨rfl, fun e he => absurd he List.not_mem_nil, rfl⟩
    | cons i l ih =>
      intro hl
      have hi := hl i List.mem_cons_self
      obtain ⟨h1, h2, h3⟩ := ih fun j hj => hl j (List.mem_cons_of_mem _ hj)
      rw [List.filterMap_cons_some (Array.getElem?_eq_getElem hi)]
      refine ⟨by rw [List.length_cons, h1, List.length_cons], fun e he => ?_, ?_⟩
      · rcases List.mem_cons.mp he with z | z
        · rw [z]; simp
        · exact h2 e z
      · rw [List.map_cons, List.map_cons, h3]
        have e5 : (es.map (·.1))[i]? = some (es[i]).1 := by rw [Array.getElem?_map, Array.getElem?_eq_getElem hi] <;> rfl
        have e4 : (es.map (·.1)).getD i 0 = (es[i]).1 := by simp [Array.getD_eq_getD_getElem?, e5]
        rw [e4]
  have hl : (order.filterMap (es[·]?)).toList = order.toList.filterMap fun i => es[i]? := by first | exact Array.toList_filterMap .. | simp
  obtain ⟨h1, h2, h3⟩ := key order.toList fun i hi => List.mem_range.mp (hp.mem_iff.mp hi)
  refine ⟨?_, fun e he => h2 e (by rw [← hl]; exact he), by rw [hl]; exact h3⟩
  rw [← Array.length_toList, hl, h1, hp.length_eq, List.length_range]
/-- the table is laid anew -/
theorem mix_relay (ho : ∃ o, s.heap.get? a = some o ∧ o.ExactSet ∧ o.data = .set es ep t) (hrows : ∀ e ∈ es.toList, Row P w ks e) (hsz : t.place.size = es.size) (hdm : t.dummies = #[]) (hfl : es.size ≤ t.mask)
    (ld : w.params.followText "set-order" = true ∨ t.led = true) (few : es.size ≤ n) {wanted M : Nat}
    (hw : SetTable.sizeAbove wanted - 1 = M) (hM : MaskOk M) (hw2 : SetTable.sizeAbove wanted ≤ 128) (hn : es.size * 5 < M * 3) {Q : Unit → Shared → Prop}
    (hQ : ∀ h' es' ep' t', Heap.SameBut a s.heap h' → SetM P w h' a ks n es' ep' t' → Q () { s with heap := h' }) : wpAny (model P w) A (setRelay a wanted) Q E s := by
  obtain ⟨o, ho, hex, hd⟩ := ho
  have hfits : t.fits es.size = true := by
    unfold SetTable.fits SetTable.fill
    rw [hdm, Bool.and_eq_true, beq_iff_eq, decide_eq_true_eq]
    show t.place.size = es.size ∧ t.place.size + 0 ≤ t.mask
    omega
  obtain ⟨t', order, e, hp, T, em, el, _, ed⟩ := relaid_ok t (hs := es.map (·.1)) (wanted := wanted) hw hM (by rw [Array.size_map]; omega)
  rw [Array.size_map] at hp
  obtain ⟨z1, z2, z3⟩ := pick_rows es order hp
  rw [← z3] at T
  have hM127 : M ≤ 127 := by omega
  rw [setRelay_eq]
  refine wpAny_bind (wpAny_setState_of ho hd hfits ?_)
  dsimp only
  refine wp_if_neg (by rw [sizeLine_eq]; omega) ?_
  try refine wpAny_bind (wpAny_pure ?_)
  rw [e]
  dsimp only
  refine wpAny_bind ?_
  refine wp_if_neg (by rw [z1]; simp) ?_
  try refine wpAny_bind (wpAny_pure ?_)
  refine wpAny_pure ?_
  dsimp only
  refine wpAny_storeSet_of ho hd ?_ (by rw [z1, sizeLine_eq]; omega)
  refine hQ _ (order.filterMap (es[·]?)) (ep + 1) t' (Heap.SameBut.update ..) ⟨⟨_, store_at ho hd, ⟨hex.1, hex.2.1, hex.2.2⟩, rfl⟩, fun e he => hrows e (z2 e he), T, by rw [el]; exact ld, by rw [z1, em]; exact hn, by rw [z1]; exact few⟩
/-- one more tuple -/
theorem mix_add (R : SetM P w s.heap a ks n es ep t) (hks : ∀ p ∈ ks, MixT P w s.heap p.2 p.1) {p : Addr × List L2.Key} (hp : p ∈ ks) (hu : A.units < cLine) (hn : n < 63) {Q : Bool → Shared → Prop}
    (hQ : ∀ b h' es' ep' t', Heap.SameBut a s.heap h' → SetM P w h' a ks (n + 1) es' ep' t' → Q b { s with heap := h' }) :
    wpAny (model P w) A (setAddHashed a (.ref p.1) (mixH P w p.2)) Q E s := by
  have hx := hks p hp
  obtain ⟨o, ho, hex, hd⟩ := R.ob
  have hroom := R.room
  have hfew := R.few
  have hpsz := R.psize
  obtain ⟨K, hKf, hK, hKb⟩ := R.tab.first (by rw [List.length_map, Array.length_toList]; omega) (mixH P w p.2)
  have hbig : K < 100000 := by
    have : 10 * SetTable.turns t.mask ≤ 1420 := by
      unfold SetTable.turns
      rcases R.tab.mok with e | e | e <;> omega
    omega
  unfold setAddHashed
  refine wpAny_holding ?_
  rw [show (100000 : Nat) = 99999 + 1 from rfl, setAddHashedIn_succ]
  refine wpAny_bind (wpAny_setState_of ho hd R.fits ?_)
  dsimp only
  refine wp_if_neg (by simp [byScan, Value.scannable]) ?_
  try refine wpAny_bind (wpAny_pure ?_)
  unfold setSearch
  refine wpAny_bind (mix_search R hks hx hu hKf hK hKb ?_ ?_ 100000 0 none rfl (Nat.zero_le _) (by omega))
  · exact wpAny_pure (hQ false s.heap es ep t (Heap.SameBut.refl a s.heap) (R.mono (Nat.le_succ n)))
  · dsimp only
    refine wpAny_bind (wpAny_setState_of ho hd R.fits ?_)
    dsimp only
    obtain ⟨q1, q2, q3, q4, q5, q6, q7, q8, q9⟩ := R.tab.put hK hKb
    generalize hpt : t.put (way t.mask (mixH P w p.2) K) = pt at q1 q3 q4 q5 q6 q7 q8 q9 ⊢
    obtain ⟨t1, at_⟩ := pt
    dsimp only at q1 q3 q4 q5 q6 q7 q8 q9 ⊢
    subst q1
    generalize SetTable.below t.place (way t.mask (mixH P w p.2) K) = at_ at q2 q3 ⊢
    have hin : (SetTable.insertAt es at_ (mixH P w p.2, Value.ref p.1)).toList = es.toList.take at_ ++ (mixH P w p.2, Value.ref p.1) :: es.toList.drop at_ := SetTable.toList_insertAt _ _ _
    have hhs : (SetTable.insertAt es at_ (mixH P w p.2, Value.ref p.1)).toList.map (·.1) = (es.toList.map (·.1)).take at_ ++ mixH P w p.2 :: (es.toList.map (·.1)).drop at_ := by
      rw [hin, List.map_append, List.map_cons, List.map_take, List.map_drop]
    have hrows : ∀ e ∈ (SetTable.insertAt es at_ (mixH P w p.2, Value.ref p.1)).toList, Row P w ks e := fun e he => by
      rw [hin] at he
      rcases List.mem_append.mp he with z | z
      · exact R.rows e (List.mem_of_mem_take z)
      · rcases List.mem_cons.mp z with z | z
        · exact ⟨p, hp, z⟩
        · exact R.rows e (List.mem_of_mem_drop z)
    have hes : (SetTable.insertAt es at_ (mixH P w p.2, Value.ref p.1)).size = es.size + 1 := by
      rw [List.length_map, Array.length_toList] at q2
      have h := congrArg List.length hin
      rw [Array.length_toList, len_ins es.toList (by rw [Array.length_toList]; exact q2), Array.length_toList] at h
      exact h
    rw [← hhs] at q3
    generalize SetTable.insertAt es at_ (mixH P w p.2, Value.ref p.1) = es1 at hin hhs hrows hes q3 ⊢
    -- by value or not: the table's plain bit alone
    have fin : ∀ (byV : Bool), wpAny (model P w) A (do
        let t2 := if byV = true then t1 else { t1 with plain := false }
        storeSet a es1 t2
        if !false && t2.tooFull then setRelay a (SetTable.grown (es.size + 1))
        pure true) Q E s := by
      intro byV
      have hT : ∃ t2 : SetTable, (if byV = true then t1 else { t1 with plain := false }) = t2 ∧ TabOk t2 (es1.toList.map (·.1)) ∧ t2.mask = t1.mask ∧ t2.led = t1.led ∧ t2.fill = t1.fill ∧ t2.place = t1.place := by
        cases byV with
        | true => exact ⟨t1, rfl, q3, rfl, rfl, rfl, rfl⟩
        | false => exact ⟨{ t1 with plain := false }, rfl, ⟨q3.ris, q3.dm, q3.sz, q3.mok, q3.bd, q3.reach⟩, rfl, rfl, rfl, rfl⟩
      obtain ⟨t2, et, T2, m2, l2, f2, p2⟩ := hT
      dsimp only
      rw [et]
      refine wpAny_bind (wpAny_storeSet_of ho hd ?_ (by rw [hes, sizeLine_eq]; omega))
      have sb : Heap.SameBut a s.heap (s.heap.update a (Obj.putSet es1 t2)) := Heap.SameBut.update ..
      have ho1 := store_at (es' := es1) (t' := t2) ho hd
      generalize s.heap.update a (Obj.putSet es1 t2) = h1 at sb ho1 ⊢
      have ld2 : w.params.followText "set-order" = true ∨ t2.led = true := by rw [l2, q5]; exact R.led
      have hfill : t2.fill = es.size + 1 := by rw [f2, q9, List.length_map, Array.length_toList]
      have hms : t2.mask = t.mask := m2.trans q4
      by_cases hf : t2.tooFull = true
      · have hfull : (es.size + 1) * 5 ≥ t.mask * 3 := by
          have h := hf
          unfold SetTable.tooFull at h
          rw [decide_eq_true_eq, hfill, hms] at h
          exact h
        have go : ∀ M, SetTable.sizeAbove (SetTable.grown (es.size + 1)) - 1 = M → MaskOk M → SetTable.sizeAbove (SetTable.grown (es.size + 1)) ≤ 128 → (es.size + 1) * 5 < M * 3 →
            wpAny (model P w) A (setRelay a (SetTable.grown (es.size + 1))) (fun _ s' => wpAny (model P w) A (pure true) Q E s') E { s with heap := h1 } := fun M h1' h2' h3' h4' => by
          refine mix_relay (s := { s with heap := h1 }) (n := n + 1) ⟨_, ho1, ⟨hex.1, hex.2.1, hex.2.2⟩, rfl⟩ hrows (by rw [p2]; have z := q3.sz; rw [List.length_map, Array.length_toList] at z; exact z) T2.dm (by rw [hes, hms]; omega) ld2 (by rw [hes]; omega) h1' h2' h3' (by rw [hes]; exact h4') ?_
          intro h2 es2 ep2 t3 sb2 R2
          exact wpAny_pure (hQ true h2 es2 ep2 t3 (sb.trans sb2) R2)
        have two : es.size = 4 ∨ es.size = 18 := by
          rcases R.tab.mok with e | e | e
          · left; rw [e] at hfull hroom; omega
          · right; rw [e] at hfull hroom; omega
          · exfalso; rw [e] at hfull; omega
        first
          | (refine wpAny_bind ?_; refine wp_if_pos (by simp [hf]) ?_)
          | (refine wp_if_pos (by simp [hf]) ?_; refine wpAny_bind ?_)
        rcases two with e2 | e2
        · exact go 31 (by rw [e2, size_20]) (.inr (.inl rfl)) (by rw [e2, size_20]; decide) (by omega)
        · exact go 127 (by rw [e2, size_76]) (.inr (.inr rfl)) (by rw [e2, size_76]; decide) (by omega)
      · first
          | refine wp_if_neg (by simp [hf]) ?_
          | (refine wpAny_bind ?_; refine wp_if_neg (by simp [hf]) ?_; refine wpAny_pure ?_)
        refine wpAny_pure (hQ true h1 es1 (ep + 1) t2 sb ⟨⟨_, ho1, ⟨hex.1, hex.2.1, hex.2.2⟩, rfl⟩, hrows, T2, ld2, ?_, by rw [hes]; omega⟩)
        have h := hf
        unfold SetTable.tooFull at h
        rw [decide_eq_true_eq, hfill, hms] at h
        rw [hes, hms]
        omega
    by_cases hpl : t1.plain = true
    · first
        | (refine wpAny_bind ?_; refine wp_if_pos hpl ?_; refine mix_hashBy hx fun c => ?_)
        | refine wp_if_pos hpl (wpAny_bind (mix_hashBy hx fun c => ?_))
      exact fin c
    · first
        | (refine wpAny_bind ?_; refine wp_if_neg hpl ?_; refine wpAny_pure ?_)
        | refine wp_if_neg hpl (wpAny_bind (wpAny_pure ?_))
      exact fin true
end
end Gv

set_option Elab.async false
set_option linter.all false
set_option maxRecDepth 100000
set_option maxHeartbeats 4000000
namespace Gv
open PySem PySem.Spec PyProof.Rows L2

/-- a set as set.__new__ makes it -/
abbrev set0 (w : World) : Obj := { cls := .type "set", dict := none, data := .set #[] 0 (.fresh 0 0 (!w.params.followText "set-order")) }
section
variable {P : Program} {w : World} {A : Around} {E : Value → Shared → Prop} {s : Shared}
theorem setM_new {h : Heap} {a : Addr} {ks : List (Addr × List L2.Key)} (ho : h.get? a = some (set0 w)) : SetM P w h a ks 0 #[] 0 (.fresh 0 0 (!w.params.followText "set-order")) where
  ob := ⟨_, ho, ⟨rfl, rfl, rfl⟩, rfl⟩
  rows := fun e he => absurd he (by simp)
  tab := ⟨List.Pairwise.nil, rfl, rfl, .inl rfl, fun x hx => absurd hx List.not_mem_nil, fun i h j hi => (by simp at hi)⟩
  led := by
    show _ ∨ (!w.params.followText "set-order") = true
    cases w.params.followText "set-order"
    · exact .inr rfl
    · exact .inl rfl
  room := by
    show 0 * 5 < 7 * 3
    decide
  few := Nat.le_refl 0

/-- set.update's loop over keyed tuples -/
theorem mix_update {I : Addr} {fp wr : List Addr} {G : Array GenState → Array GenState → Prop} {n : Nat} {Pv : Nat → Value → Prop} {St : Nat → Shared → Prop} {R : Result → Shared → Prop}
    (W : WalksS P w A.in1 I fp wr G n Pv St) (S : Addr) (hSf : S ∉ fp) (ks : List (Addr × List L2.Key)) (hn : n < 63) (hval : ∀ i v, Pv i v → ∃ p ∈ ks, v = .ref p.1) (hks : ∀ p ∈ ks, p.1 ∉ S :: wr) (hu : A.in1.units < cLine) :
    ∀ (k i : Nat) (s : Shared), n - i = k → i ≤ n → St i s → (∀ p ∈ ks, MixT P w s.heap p.2 p.1) → (∃ es ep t, SetM P w s.heap S ks i es ep t) →
      (∀ s' es ep t, Moved (S :: wr) G s s' → SetM P w s'.heap S ks n es ep t → R (.ok (.ret .none)) s') →
      codeAny (model P w) A (.builtin "set.update.loop" ⟨[.ref S, .ref I], []⟩) R s := by
  have hSw : S ∉ wr := fun h => hSf (W.sub _ h)
  have hsub : ∀ b ∈ wr, b ∈ S :: wr := fun b hb => List.mem_cons_of_mem _ hb
  have hpw : ∀ p ∈ ks, p.1 ∉ wr := fun p hp z => hks p hp (hsub _ z)
  have hpS : ∀ p ∈ ks, p.1 ≠ S := fun p hp z => hks p hp (by rw [z]; exact List.mem_cons_self)
  intro k
  induction k with
  | zero =>
    intro i s hk hi hst hT ⟨es, ep, t, hS⟩ hR
    have hin : i = n := by omega
    subst hin
    refine codeAny_builtin F.entry_set_update_loop ?_
    rw [Around.under_plainId F.plain_set_update_loop _]
    show wpAny _ A.in1 (pyNext (.ref I) >>= _) _ _ s
    refine wpAny_bind (W.done s _ _ hst fun s' hm => ?_)
    show wpAny _ A.in1 (ret Value.none) _ _ s'
    exact wpAny_pure (hR s' es ep t (hm.mono hsub) (hS.at fun o e => hm.heap S o hSw e))
  | succ k ih =>
    intro i s hk hi hst hT ⟨es, ep, t, hS⟩ hR
    have hlt : i < n := by omega
    refine codeAny_builtin F.entry_set_update_loop ?_
    rw [Around.under_plainId F.plain_set_update_loop _]
    show wpAny _ A.in1 (pyNext (.ref I) >>= _) _ _ s
    refine wpAny_bind (W.item i s _ _ hlt hst fun v s' hP hst' hm => ?_)
    obtain ⟨p, hp, rfl⟩ := hval i v hP
    have hT' : ∀ q ∈ ks, MixT P w s'.heap q.2 q.1 := fun q hq => mix_keep (hT q hq) fun o e => hm.heap q.1 o (hpw q hq) e
    have hS' : SetM P w s'.heap S ks i es ep t := hS.at fun o e => hm.heap S o hSw e
    show wpAny _ A.in1 (holding [Value.ref p.1] (setAdd S (.ref p.1)) >>= _) _ _ s'
    refine wpAny_bind (wpAny_holding ?_)
    unfold setAdd
    refine wpAny_holding ?_
    refine wpAny_bind (wpAny_pyHash_tuple hu (hT' p hp) ?_)
    refine mix_add (s := { s' with toks := s'.toks + (p.2.length + 1) }) hS' hT' hp hu (by omega) fun b h' es' ep' t' sb hS2 => ?_
    refine wpAny_pure ⟨plainId_quiet F.plain_set_update_loop _, ih (i + 1) _ (by omega) hlt (W.frame _ s' _ _ hst' (Nat.le_add_right _ _) fun b hb o e => ?_) (fun q hq => mix_keep (hT' q hq) fun o e => (sb.2 q.1 (hpS q hq)).trans e) ⟨es', ep', t', hS2⟩
      fun s'' es2 ep2 t2 hm'' hS'' => ?_⟩
    · rw [sb.2 b (fun z : b = S => hSf (by rw [← z]; exact hb))]
      exact e
    · refine hR s'' es2 ep2 t2 (Moved.trans W.gtrans ((hm.mono hsub).then_heap (Nat.le_add_right _ _) fun b o hb e => ?_) hm'') hS''
      rw [sb.2 b (fun z : b = S => hb (by rw [z]; exact List.mem_cons_self))]
      exact e

set_option maxRecDepth 100000 in
set_option maxHeartbeats 3200000 in
/-- set(xs), by what its loop makes of the new set -/
theorem set_of_list {l : Addr} {items : Array Value} (Φ : Heap → Prop) {Q : Value → Shared → Prop} (hh : A.handled = none) (hl : s.heap.IsList l items)
    (loop : ∀ (I : Addr) (s2 : Shared) (R : Result → Shared → Prop) (St : Nat → Shared → Prop), WalksS P w A.in1.in1.in1 I [I, l] [I] (fun a b => b = a) items.size (fun i v => items[i]? = some v) St → St 0 s2 → I = s.heap.objs.size + 1 →
      (∀ b o, s.heap.get? b = some o → s2.heap.get? b = some o) → s2.heap.get? s.heap.objs.size = some (set0 w) → (∀ s', Moved [s.heap.objs.size, I] (fun a b => b = a) s2 s' → Φ s'.heap → R (.ok (.ret .none)) s') →
      codeAny (model P w) A.in1.in1 (.builtin "set.update.loop" ⟨[.ref s.heap.objs.size, .ref I], []⟩) R s2)
    (h : ∀ (h' : Heap) (tk : Nat), Φ h' → (∀ b o, s.heap.get? b = some o → h'.get? b = some o) → Q (.ref s.heap.objs.size) { s with heap := h', toks := tk }) :
    wpAny (model P w) A (call (.type "set") [.ref l]) Q E s := by
  obtain ⟨c, tl, hmro⟩ := F.called_set.mro
  have hmade := F.called_set.made
  have hsub := F.called_set.sub
  refine wpAny_call (codeAny_of_tree ?_)
  show wpAny _ _ (callAny (.type "set") _) _ _ _
  refine wpAny_pure ⟨Code.quiet_builtin _ (by decide +kernel), codeAny_builtin F.entry_type_call ?_⟩
  rw [Around.under_plain (weight_type_call_type "set" [.ref l] []) rfl]
  have h1 := F.called_set.notType
  have h2 := F.called_set.canCreate
  have hct := F.typeCall_set_1 (.ref l)
  repeat (any_goals (first | assumption | wp_step))
  refine codeAny_mono (code_set_led1 (.ref l) (E := E) (Q₁ := fun obj s₁ => obj = .ref s.heap.objs.size ∧ s₁ = { s with heap := s.heap.push (set0 w) }) ⟨rfl, rfl⟩) fun r s₁ hr => ?_
  cases r with
  | error e => exact hr
  | ok fl =>
    cases fl with
    | ret obj =>
      obtain ⟨rfl, rfl⟩ := hr
      have hS : (s.heap.push (set0 w)).get? s.heap.objs.size = some (set0 w) := Heap.get?_push_size _ rfl
      have hT : Shared.TypeIs { s with heap := s.heap.push (set0 w) } (.ref s.heap.objs.size) "set" := ⟨_, hS, rfl⟩
      have hli := F.called_set.init.lookup
      have hbi := F.called_set.init.bind (.ref s.heap.objs.size)
      repeat (any_goals (first | assumption | wp_step))
      refine codeAny_mono (codeAny_call_builtin (R := wants (fun r s₂ => r = .none ∧ ∃ h' tk, s₂ = { s with heap := h', toks := tk } ∧ Φ h' ∧ (∀ b o, s.heap.get? b = some o → h'.get? b = some o)) E)
        F.called_set.init.plain F.entry_set_init (check_set_init_1 hT ?_)) fun r₂ s₂ hr₂ => ?_
      · obtain ⟨ol, hol, hcl, nl, hdl⟩ := hl
        obtain ⟨ocls, odict, odata, oslots⟩ := ol
        simp only at hcl hdl
        subst hcl; subst hdl
        have hol' : (s.heap.push (set0 w)).get? l = some { cls := .type "list", dict := odict, data := .seq items nl, slots := oslots } := Heap.get?_push_of_some _ hol
        have hsls := F.sub_list_set
        have hslf := F.sub_list_frozenset
        have hne : (Value.type "list" == Value.type "dict") = false := by decide
        have hl1 : (s.heap.push (set0 w)).IsList l items := ⟨_, hol', rfl, nl, rfl⟩
        unfold Builtin.«set.__init__» noKeywords Builtin.Frozenset.updateFrom
        generalize hPI : pyIter = PI
        wp_walk
        subst hPI
        refine wpAny_pyIter_list hl1 ?_
        refine wpAny_bind (wpAny_runValue ?_)
        have hlS : l < s.heap.objs.size := Heap.lt_size hol
        have hh3 : A.in1.in1.in1.handled = none := by simp [hh]
        have hz1 : (s.heap.push (set0 w)).objs.size = s.heap.objs.size + 1 := Heap.size_push ..
        have hneI : l ≠ (s.heap.push (set0 w)).objs.size := by
          rw [hz1]
          exact Nat.ne_of_lt (Nat.lt_succ_of_lt hlS)
        refine loop (s.heap.push (set0 w)).objs.size _ _ _ ((Walks.list hh3 _ l hneI items).toS) ⟨⟨_, Heap.get?_push_size _ rfl, rfl, rfl⟩, (hl1.push _)⟩ hz1 (fun b o e => Heap.get?_push_of_some _ (Heap.get?_push_of_some _ e)) (Heap.get?_push_of_some _ hS) ?_
        intro s' hm hΦ
        obtain ⟨h', g2, d', tk', os'⟩ := s'
        have eg : g2 = s.gens := hm.gens
        have ed : d' = s.drawn := hm.drawn
        have eo : os' = s.os := hm.os
        subst eg; subst ed; subst eo
        show wpAny _ _ _ _ _ _
        refine wpAny_pure ?_
        show wpAny _ _ (ret Value.none) _ _ _
        refine wpAny_pure ⟨rfl, h', tk', rfl, hΦ, fun b o e => ?_⟩
        have hb0 : b < s.heap.objs.size := Heap.lt_size e
        have hb1 : b ≠ s.heap.objs.size := Nat.ne_of_lt hb0
        have hb2 : b ≠ (s.heap.push (set0 w)).objs.size := by
          rw [hz1]
          exact Nat.ne_of_lt (Nat.lt_succ_of_lt hb0)
        exact hm.heap b o (by simp only [List.mem_cons, List.mem_singleton, List.not_mem_nil, or_false, not_or]; exact ⟨hb1, hb2⟩) (Heap.get?_push_of_some _ (Heap.get?_push_of_some _ e))
      · cases r₂ with
        | error e => exact hr₂
        | ok fl₂ =>
          cases fl₂ with
          | ret r =>
            obtain ⟨rfl, h', tk, rfl, hΦ, hk'⟩ := hr₂
            repeat (any_goals (first | assumption | wp_step))
            exact h _ _ hΦ hk'
          | _ => exact hr₂.elim
    | _ => exact hr.elim
/-- set(xs), xs a list of ints -/
theorem set_of_ints {l : Addr} {items : Array Value} (ns : List Int) {Q : Value → Shared → Prop} (hh : A.handled = none) (hl : s.heap.IsList l items) (hit : IntsAre items.toList ns) (hb : ns.length + 1 < scanBound)
    (h : ∀ (h' : Heap) (tk c : Nat), SetR w h' s.heap.objs.size (fun j => decide (j ∈ ns)) c → c ≤ ns.length → (∀ b o, s.heap.get? b = some o → h'.get? b = some o) → Q (.ref s.heap.objs.size) { s with heap := h', toks := tk }) :
    wpAny (model P w) A (call (.type "set") [.ref l]) Q E s := by
  have hisz : items.size = ns.length := by
    have q := IntsAre.length hit
    rw [Array.length_toList] at q
    exact q
  have hlS : l < s.heap.objs.size := by
    obtain ⟨o, ho, _⟩ := id hl
    exact Heap.lt_size ho
  refine set_of_list (fun h' => ∃ c, c ≤ ns.length ∧ SetR w h' s.heap.objs.size (fun j => decide (j ∈ ns)) c) hh hl (fun I s2 R St W st eI k hS q => ?_) fun h' tk ⟨c, hc, hS⟩ k => h h' tk c hS hc k
  have hSf : s.heap.objs.size ∉ [I, l] := by
    simp only [List.mem_cons, List.mem_singleton, List.not_mem_nil, or_false, not_or]
    exact ⟨fun z => Nat.ne_of_lt (Nat.lt_succ_self _) (z.trans eI), Nat.ne_of_gt hlS⟩
  refine set_update_ints W s.heap.objs.size hSf ns hisz hb (fun i v hv => ?_) (items.size - 0) 0 s2 rfl (Nat.zero_le _) st ⟨0, Nat.le_refl 0, setR_new_at hS⟩ fun s' c hm hc hS' => q s' hm ⟨c, by omega, hS'⟩
  have hi : i < ns.length := by rw [← hisz]; exact (Array.getElem?_eq_some_iff.mp hv).1
  obtain ⟨t, e⟩ := PyProof.Rows.IntsAre.int_at hit i v (by rw [Array.getElem?_toList]; exact hv)
  refine ⟨ns[i], t, List.getElem?_eq_getElem hi, ?_⟩
  rw [e, List.getD_eq_getElem?_getD, List.getElem?_eq_getElem hi] <;> rfl
/-- set(xs), xs a list of keyed tuples -/
theorem set_of_mix {l : Addr} {items : Array Value} (ks : List (Addr × List L2.Key)) {Q : Value → Shared → Prop} (hh : A.handled = none) (hl : s.heap.IsList l items) (hit : items.toList = ks.map fun p => Value.ref p.1) (hks : ∀ p ∈ ks, MixT P w s.heap p.2 p.1)
    (hb : ks.length < 63) (hu : A.units + 3 < cLine)
    (h : ∀ (h' : Heap) (tk : Nat) es ep t, SetM P w h' s.heap.objs.size ks ks.length es ep t → (∀ b o, s.heap.get? b = some o → h'.get? b = some o) → Q (.ref s.heap.objs.size) { s with heap := h', toks := tk }) :
    wpAny (model P w) A (call (.type "set") [.ref l]) Q E s := by
  have hisz : items.size = ks.length := by
    have q := congrArg List.length hit
    rw [Array.length_toList, List.length_map] at q
    exact q
  have hlS : l < s.heap.objs.size := by
    obtain ⟨o, ho, _⟩ := id hl
    exact Heap.lt_size ho
  have hpl : ∀ p ∈ ks, p.1 < s.heap.objs.size := fun p hp => by
    obtain ⟨o, _, _, ho, _⟩ := hks p hp
    exact Heap.lt_size ho
  refine set_of_list (fun h' => ∃ es ep t, SetM P w h' s.heap.objs.size ks ks.length es ep t) hh hl (fun I s2 R St W st eI k hS q => ?_) fun h' tk ⟨es, ep, t, hS⟩ k => h h' tk es ep t hS k
  have hSf : s.heap.objs.size ∉ [I, l] := by
    simp only [List.mem_cons, List.mem_singleton, List.not_mem_nil, or_false, not_or]
    exact ⟨fun z => Nat.ne_of_lt (Nat.lt_succ_self _) (z.trans eI), Nat.ne_of_gt hlS⟩
  refine mix_update W s.heap.objs.size hSf ks (by omega) (fun i v hv => ?_) (fun p hp z => ?_) hu (items.size - 0) 0 s2 rfl (Nat.zero_le _) st (fun p hp => mix_keep (hks p hp) fun o e => k _ o e) ⟨_, _, _, setM_new hS⟩ fun s' es ep t hm hS' => q s' hm ⟨es, ep, t, by rw [← hisz]; exact hS'⟩
  · have e : items.toList[i]? = some v := by rw [Array.getElem?_toList]; exact hv
    rw [hit] at e
    obtain ⟨p, hp, ep⟩ := List.mem_map.mp (List.mem_of_getElem? e)
    exact ⟨p, hp, ep.symm⟩
  · have z1 := hpl p hp
    simp only [List.mem_cons, List.mem_singleton, List.not_mem_nil, or_false] at z
    rcases z with z | z
    · exact Nat.ne_of_lt z1 z
    · exact Nat.ne_of_lt (Nat.lt_succ_of_lt z1) (z.trans eI)
end

/-! ### the rules: set(xs) of ints -/
/-- set(xs), xs a list of ints -/
def rSetI (K : PySem.W.Frag) (w : World) : List V → Hp → VK → Prop := fun xs H Q => ∃ (l : Addr) (ns : List Int), xs = [V.ref l] ∧ SqL K H l (ns.map V.int) ∧ ns.length ≤ 60 ∧
  ∀ (a : Addr) (c : Nat), H a = none → c ≤ ns.length → Q (.ref a) (upd H a (SetO w a (fun j => decide (j ∈ ns)) c))
theorem cr_setI {X : Cx} (hc : X.calm = true) : CallR X (.type "set") (rSetI X.K X.w) := by
  intro pins s σ H xs us Q I r h
  obtain ⟨l, ns, rfl, hl, hn, q⟩ := h
  rw [Vals.ref1 r]
  obtain ⟨its, rv, pl, hz⟩ := I.list hl
  have hnone : H s.heap.objs.size = none := I.hok.fresh (Nat.le_refl _)
  refine set_of_ints (P := X.prog) (w := X.w) ns (I.ok.hd hc) pl.isList (by simpa using intsAre_of rv) (by unfold scanBound; omega) fun h' tk c R hc' k => ?_
  exact ⟨.ref s.heap.objs.size, upd H s.heap.objs.size (SetO X.w s.heap.objs.size (fun j => decide (j ∈ ns)) c), I.laid (t' := tk) k (Nat.le_refl _) (setO_new R), rfl, q _ c hnone hc'⟩

/-! ### a form's rules, as tuples (kind, tag, inner, rest) -/
structure Rl where
  q : Int
  tag : Str
  i : Int
  r : Int
/-- its items -/
def Rl.its (x : Rl) : List V := [.int x.q, .str x.tag, .int x.i, .int x.r]
def Rl.key (x : Rl) : List L2.Key := [.inl x.q, .inr x.tag, .inl x.i, .inl x.r]
def Rl.dat (x : Rl) : PyData := .tuple [.int x.q, .str x.tag, .int x.i, .int x.r]
/-- the tuples of rs stand at their addresses -/
def RlsAt (K : PySem.W.Frag) (H : Hp) (ps : List (Addr × Rl)) : Prop := ∀ p ∈ ps, SqT K H p.1 p.2.its
def keyd (ps : List (Addr × Rl)) : List (Addr × List L2.Key) := ps.map fun p => (p.1, p.2.key)
/-- the set of such tuples, without the tuples themselves -/
def SetMO (P : Program) (w : World) (a : Addr) (ps : List (Addr × Rl)) : HO := .ext fun h => ∃ es ep t, SetM P w h a (keyd ps) ps.length es ep t
theorem setMO_new {P : Program} {w : World} {H : Hp} {h : Heap} {a : Addr} {ps : List (Addr × Rl)} {es : Array (Int × Value)} {ep : Nat} {t : SetTable} (R : SetM P w h a (keyd ps) ps.length es ep t) : ObjOk P w H h a (SetMO P w a ps) := by
  have ⟨o, ho, _⟩ := R.ob
  exact ⟨⟨es, ep, t, R⟩, ⟨o, ho⟩, fun h1 h2 ⟨es', ep', t', R'⟩ k => ⟨es', ep', t', R'.at k⟩⟩
section
variable {X : Cx} {pins : List (Addr × Obj)} {σ : L2.St} {H : Hp} {s : Shared}
theorem items_key {P : Program} {w : World} {x : Rl} {us : List Value} (r : Vals x.its us) : ItemsAre (mixKind P w) x.key us := by
  unfold Rl.its at r
  cases r with
  | cons r1 r => cases r with
    | cons r2 r => cases r with
      | cons r3 r => cases r with
        | cons r4 r =>
          cases r
          obtain ⟨t1, rfl⟩ := r1
          obtain ⟨t2, rfl⟩ := r2
          obtain ⟨t3, rfl⟩ := r3
          obtain ⟨t4, rfl⟩ := r4
          exact .cons (mixKind_int P w _ t1) (.cons (mixKind_str P w _ t2) (.cons (mixKind_int P w _ t3) (.cons (mixKind_int P w _ t4) .nil)))
theorem rl_mix (I : Inv X pins σ H s) {a : Addr} {x : Rl} (h : SqT X.K H a x.its) : MixT X.prog X.w s.heap x.key a := by
  obtain ⟨its, r, ⟨o, ho, hc, n, hd⟩, _⟩ := I.tuple h
  exact ⟨o, its.toArray, n, ho, hc, hd, by simpa using items_key r⟩
theorem rl_reads {h : Heap} {P : Program} {w : World} {x : Rl} {a : Addr} (m : MixT P w h x.key a) : Reads h (.ref a) x.dat [] := by
  obtain ⟨o, its, n, ho, hc, hd, hi⟩ := m
  refine .tuple (as := []) ho hc hd ?_
  generalize its.toList = us at hi
  unfold Rl.key at hi
  cases hi with
  | cons r1 r => cases r with
    | cons r2 r => cases r with
      | cons r3 r => cases r with
        | cons r4 r =>
          cases r
          rcases keyIs_shape (k := .inl x.q) r1 with ⟨i1, t1, e1, rfl⟩ | ⟨_, _, e1, _⟩
          · rcases keyIs_shape (k := .inr x.tag) r2 with ⟨_, _, e2, _⟩ | ⟨i2, t2, e2, rfl⟩
            · cases e2
            · rcases keyIs_shape (k := .inl x.i) r3 with ⟨i3, t3, e3, rfl⟩ | ⟨_, _, e3, _⟩
              · rcases keyIs_shape (k := .inl x.r) r4 with ⟨i4, t4, e4, rfl⟩ | ⟨_, _, e4, _⟩
                · cases e1
                  cases e2
                  cases e3
                  cases e4
                  exact .cons (as := []) (.int _ _) (.cons (as := []) (.str _ _) (.cons (as := []) (.int _ _) (.cons (as := []) (.int _ _) .nil)))
                · cases e4
              · cases e3
          · cases e1
theorem refs_keyd : ∀ {ps : List (Addr × Rl)} {us : List Value}, Vals (ps.map fun p => V.ref p.1) us → us = ps.map fun p => Value.ref p.1
  | [], _, .nil => rfl
  | p :: ps, _, .cons r t => by
    cases r
    rw [refs_keyd t] <;> rfl
theorem vals_rl : ∀ (ps : List (Addr × Rl)), Vals (ps.map fun p => V.ref p.1) (ps.map fun p => Value.ref p.1)
  | [] => .nil
  | p :: ps => .cons rfl (vals_rl ps)
/-- set(xs), xs a list of rules -/
def rSetM (K : PySem.W.Frag) (P : Program) (w : World) : List V → Hp → VK → Prop := fun xs H Q => ∃ (l : Addr) (ps : List (Addr × Rl)), xs = [V.ref l] ∧ SqL K H l (ps.map fun p => V.ref p.1) ∧ RlsAt K H ps ∧ ps.length ≤ 60 ∧
  ∀ a, H a = none → Q (.ref a) (upd H a (SetMO P w a ps))
theorem cr_setM (hc : X.calm = true) (hu : X.A.units + 64 < cLine) : CallR X (.type "set") (rSetM X.K X.prog X.w) := by
  intro pins s σ H xs us Q I r h
  obtain ⟨l, ps, rfl, hl, hp, hf, q⟩ := h
  rw [Vals.ref1 r]
  obtain ⟨its, rv, pl, hz⟩ := I.list hl
  have hn : H s.heap.objs.size = none := I.hok.fresh (Nat.le_refl _)
  have hlen : (keyd ps).length = ps.length := List.length_map ..
  refine set_of_mix (P := X.prog) (w := X.w) (keyd ps) (I.ok.hd hc) pl.isList (by rw [refs_keyd rv]; simp [keyd]) (fun p hp' => ?_) (by omega) (by omega) fun h' tk es ep t R k => ?_
  · obtain ⟨z, hz1, e⟩ := List.mem_map.mp hp'
    rw [← e]
    exact rl_mix I (hp z hz1)
  · rw [hlen] at R
    exact ⟨.ref s.heap.objs.size, upd H s.heap.objs.size (SetMO X.prog X.w s.heap.objs.size ps), I.laid (t' := tk) k (Nat.le_refl _) (setMO_new R), rfl, q _ hn⟩
end

/-! ### sorted(set) of such tuples -/
theorem dat_alike (x y : Rl) : PySem.W.alike x.dat y.dat = true := by
  simp [Rl.dat, PySem.W.alike, PySem.W.alikeAll]
theorem dat_depth (x : Rl) : x.dat.depth ≤ 2 := by
  simp [Rl.dat, PyData.depth, PyData.depthAll]
/-- values that are references to known tuples -/
theorem refs_of : ∀ {ps : List (Addr × Rl)} (vs : List Value), (∀ v ∈ vs, ∃ p ∈ ps, v = Value.ref p.1) → ∃ bs : List (Addr × Rl), vs = bs.map (fun p => Value.ref p.1) ∧ ∀ p ∈ bs, p ∈ ps
  | _, [], _ => ⟨[], rfl, fun p hp => absurd hp List.not_mem_nil⟩
  | ps, v :: vs, h => by
    obtain ⟨p, hp, e⟩ := h v List.mem_cons_self
    obtain ⟨bs, e2, hs⟩ := refs_of vs fun u hu => h u (List.mem_cons_of_mem _ hu)
    refine ⟨p :: bs, by rw [List.map_cons, e, e2], fun z hz => ?_⟩
    rcases List.mem_cons.mp hz with y | y
    · rw [y]; exact hp
    · exact hs z y
theorem each_refs {R : Value → Addr × Rl → Prop} : ∀ (bs : List (Addr × Rl)), (∀ p ∈ bs, R (.ref p.1) p) → PySem.W.EachIs R (bs.map fun p => Value.ref p.1) bs
  | [], _ => .nil
  | p :: bs, h => .cons (h p List.mem_cons_self) (each_refs bs fun q hq => h q (List.mem_cons_of_mem _ hq))
theorem refs_each : ∀ {out : List Value} {bs : List (Addr × Rl)}, PySem.W.EachIs (fun v p => v = Value.ref p.1) out bs → out = bs.map fun p => Value.ref p.1
  | _, _, .nil => rfl
  | _, _, .cons e t => by rw [List.map_cons, e, refs_each t]
section
variable {P : Program} {w : World} {A : Around} {E : Value → Shared → Prop} {s : Shared}
theorem sorted_mix {a : Addr} {ps : List (Addr × Rl)} {es : Array (Int × Value)} {ep : Nat} {t : SetTable} {Q : Value → Shared → Prop} (R : SetM P w s.heap a (keyd ps) ps.length es ep t) (hks : ∀ p ∈ ps, MixT P w s.heap p.2.key p.1) (hh : A.handled = none)
    (hf : ps.length ≤ 60) (hu : A.units + 64 < cLine)
    (hQ : ∀ s' p (out : Array Value) (c : Nat) (L : List (Addr × Rl)), (∀ b o, s.heap.get? b = some o → s'.heap.get? b = some o) → s'.gens = s.gens → s'.os = s.os → s.heap.objs.size ≤ p →
      s'.heap.get? p = some (seqObj "list" out c) → out.toList = L.map (fun q => Value.ref q.1) → (∀ q ∈ L, q ∈ ps) → L.length ≤ ps.length → Q (.ref p) s') :
    wpAny (model P w) A (call (.builtin "sorted") [.ref a]) Q E s := by
  obtain ⟨o, ho, hex, hd⟩ := R.ob
  have hfew := R.few
  refine Calls.call_function_entry kind_sorted plain_sorted entry_sorted (args_sorted1 _) ?_
  unfold Builtin.«sorted»
  refine wpAny_bind (m := checkCount "sorted" 1 1 _) (wpAny_pure ?_)
  refine wpAny_bind (collect_set (A := A.in1) hh ⟨o, ho, hex.1, hd⟩ R.fits (by unfold scanBound; omega) R.tab.ris R.led fun s1 vs k1 hz g1 o1 pm => ?_)
  obtain ⟨bs, ev, hbs⟩ := refs_of (ps := ps) vs fun v hv => by
    obtain ⟨e, he, q⟩ := List.mem_map.mp (pm.mem_iff.mp hv)
    obtain ⟨p, hp, e2⟩ := R.rows e he
    obtain ⟨z, hz1, e3⟩ := List.mem_map.mp hp
    refine ⟨z, hz1, ?_⟩
    rw [← q, e2, ← e3]
  have hlen : bs.length ≤ ps.length := by
    have z : bs.length = es.size := by
      have y := pm.length_eq
      rw [ev] at y
      simpa using y
    rw [z]
    exact hfew
  subst ev
  refine wpAny_bind (wpAny_newList ?_ (by rw [List.length_map, sizeLine_eq]; omega))
  have hoL : (s1.heap.push (seqObj "list" (bs.map fun p => Value.ref p.1).toArray 0)).get? s1.heap.objs.size = some (seqObj "list" (bs.map fun p => Value.ref p.1).toArray 0) := Heap.get?_push_size _ rfl
  refine wpAny_bind (wpAny_holding (PySem.W.list_sort_data (s := { s1 with heap := s1.heap.push (seqObj "list" (bs.map fun p => Value.ref p.1).toArray 0) }) (R := fun v p => v = Value.ref p.1) (enc := fun p => p.2.dat) hoL (each_refs bs fun p hp => rfl)
    (each_refs bs fun p hp => ⟨[], rl_reads (mix_keep (hks p (hbs p hp)) fun o e => Heap.get?_push_of_some _ (k1 _ o e)), List.not_mem_nil⟩)
    (PySem.W.AllAlike.of fun b b' => dat_alike b.2 b'.2) (PySem.W.Sortable.tuples fun b => ⟨_, _, rfl⟩) (by rw [sizeLine_eq]; omega) (fun b hb => ?_) fun out ho' eo => ?_))
  · have z := dat_depth b.2
    show (A.in1).units + 1 + b.2.dat.depth < cLine
    have y : (A.in1).units = A.units + 1 := rfl
    omega
  · have e2 := refs_each eo
    obtain ⟨c, hc⟩ := sortedHeap_at (vs := bs.map fun p => Value.ref p.1) (out := out.toArray) hoL
    refine wpAny_pure ⟨_, rfl, hQ _ s1.heap.objs.size out.toArray c (bs.mergeSort (PySem.W.dataLe false fun p => p.2.dat)) (fun b u e => ?_) g1 o1 hz hc (by rw [List.toList_toArray]; exact e2) (fun q hq => hbs q (List.mem_mergeSort.mp hq)) (by rw [List.length_mergeSort]; exact hlen)⟩
    have q := k1 b u e
    have hlt := Heap.lt_size q
    show (sortedHeap (s1.heap.push (seqObj "list" (bs.map fun p => Value.ref p.1).toArray 0)) s1.heap.objs.size (bs.map fun p => Value.ref p.1) out.toArray).get? b = some u
    rw [sortedHeap_old (Nat.ne_of_lt hlt) (by rw [size_push']; exact Nat.lt_succ_of_lt hlt)]
    exact Heap.get?_push_of_some _ q
end
/-- sorted(set): a list of some of the tuples -/
def rSortM (K : PySem.W.Frag) (P : Program) (w : World) : List V → Hp → VK → Prop := fun vs H Q => ∃ (a : Addr) (ps : List (Addr × Rl)), vs = [V.ref a] ∧ H a = some (SetMO P w a ps) ∧ RlsAt K H ps ∧ ps.length ≤ 60 ∧
  ∀ (L : List (Addr × Rl)) (p : Addr), (∀ q ∈ L, q ∈ ps) → L.length ≤ ps.length → H p = none → Q (.ref p) (upd H p (.lst (L.map fun q => V.ref q.1)))
theorem cr_sortM {X : Cx} (hc : X.calm = true) (hu : X.A.units + 64 < cLine) : CallR X (.builtin "sorted") (rSortM X.K X.prog X.w) := by
  intro pins s σ H vs us Q I r h
  obtain ⟨a, ps, rfl, ha, hk, hf, q⟩ := h
  obtain ⟨es, ep, t, R⟩ := (show ∃ es ep t, SetM X.prog X.w s.heap a (keyd ps) ps.length es ep t from (I.hok a _ ha).1)
  rw [Vals.ref1 r]
  refine sorted_mix R (fun p hp => rl_mix I (hk p hp)) (I.ok.hd hc) hf hu fun s' p out c L k g o hp hg hout hsub hlen => ?_
  have hz : (L.map fun q => V.ref q.1).length ≤ sizeLine := by rw [List.length_map, sizeLine_eq]; omega
  have hn : H p = none := I.hok.fresh hp
  have hv : Vals (L.map fun q => V.ref q.1) out.toList := by rw [hout]; exact vals_rl L
  exact ⟨.ref p, _, I.call' (H' := upd H p (.lst (L.map fun q => V.ref q.1))) (ch := []) o (Un.laid k hp hn) (I.hok.laid k hp ⟨hz, out.toList, c, hv, hg⟩) (by rw [g]; exact I.bare) (fun _ z => nomatch z), rfl, q L p hsub hlen hn⟩
end Gv

set_option Elab.async false
set_option linter.all false
set_option maxRecDepth 100000
set_option maxHeartbeats 4000000
/-! The text by places, the mathematics, the promises. -/
namespace Gv
open PySem PySem.Spec PyProof.Rows L2

/-! ### 1. the text -/
def top (i : Nat) : Stmt := PySem.Challenge.pw_formgrove_k51_values_of_groves.main.body.getD i (.Pass ⟨0, 0, 0, 0⟩)
abbrev sAhead : Stmt := top 1
abbrev sInit : Stmt := inClass (top 4) 0
abbrev sNothing : Stmt := inClass (top 4) 1
abbrev sAbove : Stmt := inClass (top 4) 2
abbrev sGood : Stmt := inClass (top 4) 3
abbrev sGoodO : Stmt := inClass (top 5) 0
abbrev sCell : Stmt := top 7
abbrev sTag : Stmt := top 8
abbrev sShape : Stmt := top 9
abbrev sWords : Stmt := top 10
abbrev sDue : Stmt := top 11
abbrev sNums : Stmt := top 12
abbrev sWant : Stmt := top 13
abbrev sAsk : Stmt := top 14
abbrev sLaw : Stmt := top 15

/-! ### 2. the mathematics -/
/-- a form: starts, ends, rules (each at its address) -/
structure Fm where
  heads : List Int
  tails : List Int
  rules : List (Addr × Rl)
def Hit (tag : Str) (inner rest : List Int) (x : Rl) : Prop := x.tag = tag ∧ x.i ∈ inner ∧ x.r ∈ rest
def hitB (tag : Str) (inner rest : List Int) (x : Rl) : Bool := decide (x.tag = tag) && (decide (x.i ∈ inner) && decide (x.r ∈ rest))
theorem hit_iff {tag : Str} {inner rest : List Int} {x : Rl} : hitB tag inner rest x = true ↔ Hit tag inner rest x := by
  unfold hitB Hit
  simp only [Bool.and_eq_true, decide_eq_true_eq]
/-- the rising list of the kinds that the rules lead to -/
structure Due (F : Fm) (tag : Str) (inner rest : List Int) (ns : List Int) : Prop where
  up : ns.Pairwise (· < ·)
  mem : ∀ k, k ∈ ns ↔ ∃ x ∈ F.rules, Hit tag inner rest x.2 ∧ x.2.q = k
  few : ns.length ≤ 60
theorem up_same : ∀ {a b : List Int}, a.Pairwise (· < ·) → b.Pairwise (· < ·) → (∀ k, k ∈ a ↔ k ∈ b) → a = b
  | [], [], _, _, _ => rfl
  | [], y :: b, _, _, h => absurd ((h y).mpr List.mem_cons_self) List.not_mem_nil
  | x :: a, [], _, _, h => absurd ((h x).mp List.mem_cons_self) List.not_mem_nil
  | x :: a, y :: b, ha, hb, h => by
    obtain ⟨a1, a2⟩ := List.pairwise_cons.mp ha
    obtain ⟨b1, b2⟩ := List.pairwise_cons.mp hb
    have e : x = y := by
      rcases List.mem_cons.mp ((h x).mp List.mem_cons_self) with z | z
      · exact z
      · rcases List.mem_cons.mp ((h y).mpr List.mem_cons_self) with z2 | z2
        · exact z2.symm
        · have c1 := b1 x z
          have c2 := a1 y z2
          omega
    subst e
    refine congrArg _ (up_same a2 b2 fun k => ⟨fun hk => ?_, fun hk => ?_⟩)
    · rcases List.mem_cons.mp ((h k).mp (List.mem_cons_of_mem _ hk)) with z | z
      · have c1 := a1 k hk
        omega
      · exact z
    · rcases List.mem_cons.mp ((h k).mpr (List.mem_cons_of_mem _ hk)) with z | z
      · have c1 := b1 k hk
        omega
      · exact z
theorem Due.same {F : Fm} {tag : Str} {inner rest ns ms : List Int} (a : Due F tag inner rest ns) (b : Due F tag inner rest ms) : ns = ms :=
  up_same a.up b.up fun k => (a.mem k).trans (b.mem k).symm
/-- whether a value has a start -/
def goodB (F : Fm) (vals : List Int) : Bool := !(F.heads.filter fun k => decide (k ∈ vals)).isEmpty
theorem inV_int (k : Int) : ∀ vals : List Int, inV (.int k) (vals.map V.int) = decide (k ∈ vals)
  | [] => rfl
  | x :: vals => by
    have ih := inV_int k vals
    unfold inV at ih ⊢
    rw [List.map_cons, List.any_cons, ih]
    show ((x == k) || decide (k ∈ vals)) = decide (k ∈ x :: vals)
    by_cases e : x = k
    · subst e; simp
    · have e2 : ¬ k = x := fun z => e z.symm
      simp [e, e2]
theorem flat_ints : ∀ vals : List Int, (vals.map V.int).all flatV = true
  | [] => rfl
  | x :: vals => by
    rw [List.map_cons, List.all_cons, flat_ints vals]
    rfl
/-- a dict's int keys -/
def IKeys (kvs : List (L2.Key × V)) (ks : List Int) : Prop := kvs.map (·.1) = ks.map Sum.inl
theorem put_old {kvs : List (L2.Key × V)} {k : L2.Key} {v y : V} (h : valV kvs k = some y) : (putK kvs k v).map (·.1) = kvs.map (·.1) := by
  have e : (kvs.any fun kv => decide (kv.1 = k)) = true := by
    rw [valV_any, h]
    rfl
  unfold putK
  rw [if_pos e, List.map_map]
  refine List.map_congr_left fun p _ => ?_
  show (if p.1 = k then (p.1, v) else p).1 = p.1
  split <;> rfl
theorem put_key {kvs : List (L2.Key × V)} {ks : List Int} (h : IKeys kvs ks) (nd : ks.Nodup) (q : Int) (v : V) : ∃ ks', IKeys (putK kvs (Sum.inl q) v) ks' ∧ ks'.Nodup ∧ ∀ k, k ∈ ks' ↔ k ∈ ks ∨ k = q := by
  cases e : valV kvs (Sum.inl q : L2.Key) with
  | some y =>
    refine ⟨ks, (put_old e).trans h, nd, fun k => ⟨.inl, fun z => ?_⟩⟩
    rcases z with z | z
    · exact z
    · have m := valV_in e
      rw [show kvs.map (·.1) = ks.map Sum.inl from h] at m
      obtain ⟨j, hj, ej⟩ := List.mem_map.mp m
      injection ej with ej
      rw [z, ← ej]
      exact hj
  | none =>
    refine ⟨ks ++ [q], ?_, ?_, fun k => by simp⟩
    · unfold IKeys
      rw [putK_new v e, List.map_append, show kvs.map (·.1) = ks.map Sum.inl from h, List.map_append]
      rfl
    · have m := valV_not e
      rw [show kvs.map (·.1) = ks.map Sum.inl from h] at m
      refine List.nodup_append.mpr ⟨nd, by simp, fun a ha b hb => ?_⟩
      rw [List.mem_singleton.mp hb]
      intro z
      exact m (List.mem_map.mpr ⟨a, ha, by rw [z]⟩)

/-! ### 3. data on the heap -/
structure FormAt (H : Hp) (f : Addr) (F : Fm) : Prop where
  ex : ∃ (many : Int) (ah aT ar : Addr), H f = some (.tup [.int many, .ref ah, .ref aT, .ref ar]) ∧ H ah = some (.tup (F.heads.map V.int)) ∧ H aT = some (.tup (F.tails.map V.int)) ∧ H ar = some (.tup (F.rules.map fun p => V.ref p.1))
  rl : ∀ p ∈ F.rules, H p.1 = some (.tup p.2.its)
  fewH : F.heads.length ≤ 60
  fewT : F.tails.length ≤ 60
  fewR : F.rules.length ≤ 60
theorem FormAt.keep {H H' : Hp} {f : Addr} {F : Fm} (x : FormAt H f F) (s : Same H H') : FormAt H' f F := by
  obtain ⟨many, ah, aT, ar, h1, h2, h3, h4⟩ := x.ex
  exact ⟨⟨many, ah, aT, ar, s _ _ h1, s _ _ h2, s _ _ h3, s _ _ h4⟩, fun p hp => s _ _ (x.rl p hp), x.fewH, x.fewT, x.fewR⟩
theorem same_new {H : Hp} {p : Addr} {o : HO} (h : H p = none) : Same H (upd H p o) := fun b x e => by
  rw [upd_ne (ne_of_none e h)]
  exact e
/-- behind a change of a new object all that was before it stands -/
theorem same_over {H H' : Hp} {d : Addr} {o : HO} (h0 : H d = none) (s : Same H H') : Same H (upd H' d o) := fun b x e => by
  rw [upd_ne (ne_of_none e h0)]
  exact s _ _ e
/-- an instance of Kinds or Others that holds the form at f -/
def InstOf (C : Addr) (H : Hp) (o f : Addr) : Prop := ∃ dx, H o = some (.ins C dx (putF "held" (.ref f) []))
theorem InstOf.keep {C : Addr} {H H' : Hp} {o f : Addr} (x : InstOf C H o f) (s : Same H H') : InstOf C H' o f := let ⟨dx, h⟩ := x; ⟨dx, s _ _ h⟩
theorem held_look (f : Addr) : (putF "held" (.ref f) []).lookup ("held" : Str) = some (V.ref f) := by
  rw [lookup_putF, if_pos rfl]
theorem held_no (f : Addr) {m : Str} (h : ¬ m = "held") : (putF "held" (.ref f) []).lookup m = none := by
  rw [lookup_putF, if_neg h]
  rfl

/-! ### 4. the promises -/
def spAhead : Sp := fun vs H Q _ => ∃ (f a b : Addr) (tag : Str) (F : Fm) (inner rest : List Int), vs = [.ref f, .str tag, .ref a, .ref b] ∧ FormAt H f F ∧ H a = some (.tup (inner.map V.int)) ∧ H b = some (.tup (rest.map V.int)) ∧
  ∀ (H' : Hp) (p : Addr) (ns : List Int), Same H H' → H p = none → H' p = some (.lst (ns.map V.int)) → Due F tag inner rest ns → Q (.ref p) H'
def spInit (C : Addr) : Sp := fun vs H Q _ => ∃ (o f dx : Addr), vs = [.ref o, .ref f] ∧ H o = some (.ins C dx []) ∧ Q .non (upd H o (.ins C dx (putF "held" (.ref f) [])))
def spNothing (C : Addr → Prop) : Sp := fun vs H Q _ => ∃ (c o f : Addr) (F : Fm), C c ∧ vs = [.ref o] ∧ InstOf c H o f ∧ FormAt H f F ∧ ∀ p, H p = some (.tup (F.tails.map V.int)) → Q (.ref p) H
def spAbove (C : Addr → Prop) : Sp := fun vs H Q _ => ∃ (c o f a b : Addr) (tag : Str) (F : Fm) (inner rest : List Int), C c ∧ vs = [.ref o, .str tag, .ref a, .ref b] ∧ InstOf c H o f ∧ FormAt H f F ∧ H a = some (.tup (inner.map V.int)) ∧ H b = some (.tup (rest.map V.int)) ∧
  ∀ (H' : Hp) (p : Addr) (ns : List Int), Same H H' → H' p = some (.tup (ns.map V.int)) → Due F tag inner rest ns → Q (.ref p) H'
def spGood (C : Addr → Prop) : Sp := fun vs H Q _ => ∃ (c o f a : Addr) (F : Fm) (vals : List Int), C c ∧ vs = [.ref o, .ref a] ∧ InstOf c H o f ∧ FormAt H f F ∧ H a = some (.tup (vals.map V.int)) ∧ ∀ H', Same H H' → Q (.bl (goodB F vals)) H'
def spGoodO (c : Addr) : Sp := fun vs H Q _ => ∃ (o f a : Addr) (F : Fm) (vals : List Int), vs = [.ref o, .ref a] ∧ InstOf c H o f ∧ FormAt H f F ∧ H a = some (.tup (vals.map V.int)) ∧ ∀ H', Same H H' → Q (.bl (!goodB F vals)) H'
/-- what is asked of the classes and names as the top has made them -/
structure Txt (K : PySem.W.Frag) (mg : Str → Option Value) (CM CK CO : Addr) : Prop where
  cl : ∀ c, c = CK ∨ c = CO → Cls K c
  nh : ∀ c, c = CK ∨ c = CO → NoAttr K c "held"
  mgM : mg "Measure" = some (.ref CM)
  mgK : mg "Kinds" = some (.ref CK)
  mgO : mg "Others" = some (.ref CO)
  sorted_ : mg "sorted" = none
  tuple_ : mg "tuple" = none
  set_ : mg "set" = none
  len : mg "len" = none
  range : mg "range" = none
  min_ : mg "min" = none
  int_ : mg "int" = none
  bool_ : mg "bool" = none
  isi : mg "isinstance" = none
  rev : mg "reversed" = none
end Gv

set_option Elab.async false
set_option linter.all false
set_option maxRecDepth 100000
set_option maxHeartbeats 4000000
namespace Gv
open PySem PySem.Spec PyProof.Rows L2

/-! ### C.m(e, ..), m a plain def of the class at C -/
def tCFn (C : Addr) (sp : Sp) (dvs : List V) (E : XK) (ta : TE) (t : TA) : TE := fun σ H Q => ta σ H fun x H1 => x = .ref C ∧ t σ H1 fun vs H2 => sp (vs ++ dvs) H2 Q E
theorem pe_cfn {X : Cx} {CX : CXT} {k : Nat} {C f : Addr} {mc : Value} {fd : FuncData} {ps : List Str} {sp : Sp} {dvs : List V} {ds : List Value} {E : XK} {o e : Expr} {es : List Expr} {m : Str} {pos apos : Pos} {ta : TE} {t : TA} {pl : Sem Bool}
    (he : PE X o ta) (r : ClX.CRead X.K C mc) (c : ClX.CVal X.K C mc m (.ref f) (.ref f)) (kp : PySem.W.keepIn X.K (.ref f) = true) (F : FnOk X.prog X.w X.K X.mg X.base CX k f fd ps sp) (hr : Room k X.A) (hb : Binds X.K fd ps ds) (hd : Vals dvs ds) (hx : Passes CX X E) (ha : PA X (e :: es) t)
    (hst : starEach (e :: es) X.env = (false, eval e X.env) :: starEach es X.env := by rfl) (hpl : (backTo pos (starEach es X.env)).any (·.1) = false := by rfl)
    (ht : eval (.Call (.Attribute o m apos) (e :: es) [] pos) X.env = (do
      let ov ← eval o X.env
      standAt apos.atName
      let (f, first) ← holding [ov] (getMethod ov m pl)
      callWith pos f first (backTo pos (starEach (e :: es) X.env)) (backToKw pos (keywordEach [] X.env))) := by rfl) :
    PE X (.Call (.Attribute o m apos) (e :: es) [] pos) (tCFn C sp dvs E ta t) := by
  refine ⟨fun pins s σ H Q I h => ?_⟩
  refine PySem.W.methodCall_KW (pl := pl) (thn (he.run pins s σ H _ I h) fun u s1 ⟨x, H1, I1, rx, ex, q⟩ => ?_) ht
  subst ex
  obtain rfl : u = Value.ref C := rx
  refine PySem.W.method_cls I1.kIn r.ga (ClX.getcval_ok I1 r c fun s2 I2 => ?_)
  refine PySem.W.callWith_K (first := []) (h₀ := X.base) I.ok.mod.kin kp (thn (ha.run pos pins s2 σ H1 _ I2 q) fun us s3 ⟨vs, H2, I3, rv, q2⟩ => ⟨I3.kIn, ?_⟩) hst hpl
  exact run_fn F hr hb hd hx I3 rv q2

section
variable {P : Program} {w : World} {K : PySem.W.Frag} {mg : Str → Option Value} {base : Heap} {CM CK CO : Addr}
/-! ### kinds_ahead -/
theorem scAhead : FnScope ["one", "tag", "inner", "rest", "found", "kind", "name", "within", "behind"] ["one", "tag", "inner", "rest"] (defScope sAhead) := ⟨rfl, rfl, rfl, by decide +kernel, rfl, by decide +kernel, by decide +kernel⟩
theorem ok_ahead {f : Addr} {fd : FuncData} (Fn : Fun K "kinds_ahead" "kinds_ahead" sAhead f fd) (T : Txt K mg CM CK CO) : FnOk P w K mg base CX0 1 f fd ["one", "tag", "inner", "rest"] spAhead := by
  refine Fn.ok scAhead (fun vs H Q E h => ?_) (fun cdv A outer s H vs Q E hr h => ?_)
  · obtain ⟨f, a, b, tag, F, inner, rest, rfl, _⟩ := h
    rfl
  · obtain ⟨f, a, b, tag, F, inner, rest, rfl, fm, hA, hB, q⟩ := h
    have hu := hu_of hr
    obtain ⟨many, ah, aT, ar, f1, f2, f3, f4⟩ := fm.ex
    refine ⟨_, pss_cons (ps_set (i := 4) scAhead.nd rfl (.inl rfl) pe_dnewK)
      (pss_cons (ps_for PassesOwn.never rfl (pi_tup (pe_ix ix_tup (pv 0) pe_int (fun _ _ => rfl)))
        (pg_tup (by rfl) (pgs_cons (pg_name (i := 5) scAhead.nd rfl (.inl rfl)) (pgs_cons (pg_name (i := 6) scAhead.nd rfl (.inl rfl)) (pgs_cons (pg_name (i := 7) scAhead.nd rfl (.inl rfl)) (pgs_cons (pg_name (i := 8) scAhead.nd rfl (.inl rfl)) pgs_nil)))))
        (pss_one (ps_if (PW.pt (pw_and (pt_cmpR op_eq (pv 6) (pv 1) (nomark _)) (pw_and (pt_cmpR op_in_seq (pv 7) (pv 2) rfl) (pw_and1 (pt_cmpR op_in_seq (pv 8) (pv 3) rfl)))))
          (pss_one (ps_dput hu (pv 4) (pv 5) pe_bl rfl)) pss_nil)))
      (pss_one (ps_ret (pe_callB (call_sortedDI rfl) (by rfl) T.sorted_ (by decide +kernel) (pa_cons (pv 4) pa_nil))))), ?_⟩
    intro d hd
    refine ⟨_, rfl, f, _, _, _, rfl, rfl, SqT.of (same_new hd _ _ f1), rfl, ar, rfl, ⟨_, SqT.of (same_new hd _ _ f4)⟩, ?_⟩
    refine for_tup (K := K) (a := ar) (xs := F.rules.map fun p => V.ref p.1) (fun i σ H2 => ∃ (kvs : List (L2.Key × V)) (ks : List Int) (y5 y6 y7 y8 : Option V), σ = [some (.ref f), some (.str tag), some (.ref a), some (.ref b), some (.ref d), y5, y6, y7, y8] ∧
        Same H H2 ∧ H2 d = some (.dK kvs) ∧ IKeys kvs ks ∧ ks.Nodup ∧ (∀ k, k ∈ ks ↔ ∃ x ∈ F.rules.take i, Hit tag inner rest x.2 ∧ x.2.q = k) ∧ kvs.length ≤ i)
      ⟨[], [], none, none, none, none, rfl, same_new hd, upd_same, rfl, List.nodup_nil, fun k => by simp, Nat.le_refl _⟩ (fun i σ H2 _ ⟨_, _, _, _, _, _, _, s2, _⟩ => SqT.of (s2 _ _ f4)) ?_ ?_
    · rintro i y σ H2 hi ⟨kvs, ks, y5, y6, y7, y8, rfl, s2, hD, hk, nd, hm, hl⟩
      rw [List.getElem?_map] at hi
      obtain ⟨p, hp, rfl⟩ := Option.map_eq_some_iff.mp hi
      have hi60 : i < 60 := Nat.lt_of_lt_of_le (List.getElem?_eq_some_iff.mp hp).1 fm.fewR
      have hpm : p ∈ F.rules := List.mem_of_getElem? hp
      have tk : F.rules.take (i + 1) = F.rules.take i ++ [p] := by rw [List.take_add_one, hp]; rfl
      have hit := s2 _ _ (fm.rl p hpm)
      have sA := s2 _ _ hA
      have sB := s2 _ _ hB
      refine ⟨p.1, p.2.its, rfl, SqT.of hit, rfl, _, _, rfl, _, _, rfl, _, _, rfl, _, _, rfl, rfl, ?_⟩
      have yes : Hit tag inner rest p.2 → ∀ k, (k ∈ ks ∨ k = p.2.q) ↔ ∃ x ∈ F.rules.take (i + 1), Hit tag inner rest x.2 ∧ x.2.q = k := fun hh k => by
        rw [tk]
        constructor
        · rintro (z | z)
          · obtain ⟨x, hx, r⟩ := (hm k).mp z
            exact ⟨x, List.mem_append_left _ hx, r⟩
          · exact ⟨p, by simp, hh, z.symm⟩
        · rintro ⟨x, hx, r1, r2⟩
          rcases List.mem_append.mp hx with z | z
          · exact .inl ((hm k).mpr ⟨x, z, r1, r2⟩)
          · rw [List.mem_singleton.mp z] at r2
            exact .inr r2.symm
      have no : ¬ Hit tag inner rest p.2 → ∀ k, k ∈ ks ↔ ∃ x ∈ F.rules.take (i + 1), Hit tag inner rest x.2 ∧ x.2.q = k := fun hh k => by
        rw [tk, hm k]
        constructor
        · rintro ⟨x, hx, r⟩
          exact ⟨x, List.mem_append_left _ hx, r⟩
        · rintro ⟨x, hx, r1, r2⟩
          rcases List.mem_append.mp hx with z | z
          · exact ⟨x, z, r1, r2⟩
          · rw [List.mem_singleton.mp z] at r1
            exact absurd r1 hh
      refine ⟨_, rfl, _, rfl, rfl, _, rfl, ?_⟩
      refine ite2 (fun c1 => ?_) (fun c1 => ?_)
      · have e1 : p.2.tag = tag := by simpa using c1
        refine ⟨_, rfl, _, rfl, a, _, rfl, .inr (SqT.of sA), rfl, flat_ints _, _, rfl, ?_⟩
        rw [if_neg Bool.false_ne_true, inV_int]
        refine ite2 (fun c2 => ?_) (fun c2 => ?_)
        · have e2 : p.2.i ∈ inner := of_decide_eq_true c2
          refine ⟨_, rfl, _, rfl, b, _, rfl, .inr (SqT.of sB), rfl, flat_ints _, _, rfl, ?_⟩
          rw [if_neg Bool.false_ne_true, inV_int]
          refine ite2 (fun c3 => ?_) (fun c3 => ?_)
          · have e3 : p.2.r ∈ rest := of_decide_eq_true c3
            obtain ⟨ks', k1, k2, k3⟩ := put_key hk nd p.2.q (.bl true)
            refine ⟨_, rfl, _, rfl, d, _, rfl, DPut.k (k := Sum.inl p.2.q) hD (small1000 (by omega)), ?_⟩
            exact ⟨_, ks', _, _, _, _, rfl, same_over hd s2, upd_same, k1, k2, fun k => (k3 k).trans (yes ⟨e1, e2, e3⟩ k), Nat.le_trans (length_putK _ _ _) (Nat.succ_le_succ hl)⟩
          · exact ⟨kvs, ks, _, _, _, _, rfl, s2, hD, hk, nd, no fun z => c3 (decide_eq_true z.2.2), Nat.le_succ_of_le hl⟩
        · refine iteF ?_
          exact ⟨kvs, ks, _, _, _, _, rfl, s2, hD, hk, nd, no fun z => c2 (decide_eq_true z.2.1), Nat.le_succ_of_le hl⟩
      · refine iteF ?_
        exact ⟨kvs, ks, _, _, _, _, rfl, s2, hD, hk, nd, no fun z => c1 (by rw [z.1]; simp), Nat.le_succ_of_le hl⟩
    · rintro σ H2 ⟨kvs, ks, y5, y6, y7, y8, rfl, s2, hD, hk, nd, hm, hl⟩
      have hlen : ks.length ≤ 60 := by
        have z := congrArg List.length (show kvs.map (·.1) = ks.map Sum.inl from hk)
        rw [List.length_map, List.length_map] at z
        rw [List.length_map] at hl
        have := fm.fewR
        omega
      refine ⟨_, rfl, d, kvs, ks, rfl, Rd.of hD, hk, by omega, fun ys p pm up hp => ?_⟩
      refine q _ p ys (s2.trans (same_new hp)) (s2.free hp) upd_same ⟨lt_of_le_nodup ys up (pm.nodup_iff.mpr nd), fun k => ?_, by rw [pm.length_eq]; exact hlen⟩
      rw [pm.mem_iff, hm k, List.length_map, List.take_length]

/-! ### Kinds -/
theorem scInit : FnScope ["self", "one"] ["self", "one"] (defScope sInit) := ⟨rfl, rfl, rfl, by decide +kernel, rfl, by decide +kernel, by decide +kernel⟩
theorem ok_init {f C : Addr} {fd : FuncData} (Fn : Fun K "__init__" "Kinds.__init__" sInit f fd) (T : Txt K mg CM CK CO) (hC : C = CK ∨ C = CO) : FnOk P w K mg base CX0 1 f fd ["self", "one"] (spInit C) := by
  refine Fn.ok scInit (fun vs H Q E h => ?_) (fun cdv A outer s H vs Q E hr h => ?_)
  · obtain ⟨o, f, dx, rfl, _⟩ := h
    rfl
  · obtain ⟨o, f, dx, rfl, ho, q⟩ := h
    refine ⟨_, pss_one (ps_fld (pv 0) (pv 1) rfl), ?_⟩
    refine ⟨_, rfl, _, rfl, o, C, dx, [], rfl, ho, T.cl C hC, T.nh C hC, (by show 0 < 1000; decide), ?_⟩
    exact q
theorem scNothing : FnScope ["self"] ["self"] (defScope sNothing) := ⟨rfl, rfl, rfl, by decide +kernel, rfl, by decide +kernel, by decide +kernel⟩
theorem ok_nothing {f : Addr} {fd : FuncData} (Fn : Fun K "nothing" "Kinds.nothing" sNothing f fd) (T : Txt K mg CM CK CO) : FnOk P w K mg base CX0 1 f fd ["self"] (spNothing fun c => c = CK ∨ c = CO) := by
  refine Fn.ok scNothing (fun vs H Q E h => ?_) (fun cdv A outer s H vs Q E hr h => ?_)
  · obtain ⟨c, o, f, F, hc, rfl, _⟩ := h
    rfl
  · obtain ⟨c, o, f, F, hc, rfl, ⟨dx, ho⟩, fm, q⟩ := h
    obtain ⟨many, ah, aT, ar, f1, f2, f3, f4⟩ := fm.ex
    refine ⟨_, pss_one (ps_ret (pe_callTy call_tuple_of (by rfl) T.tuple_ (by decide +kernel) (pa_cons (pe_ix ix_tup (pe_fld (pv 0) rfl) pe_int (fun _ _ => rfl)) pa_nil))), ?_⟩
    refine ⟨_, rfl, o, c, dx, _, _, rfl, ho, T.cl c hc, T.nh c hc, held_look f, f, _, _, _, rfl, rfl, SqT.of f1, rfl, aT, _, rfl, .inr ⟨SqT.of f3, ?_⟩⟩
    exact q aT f3
theorem scAbove : FnScope ["self", "tag", "inner", "rest"] ["self", "tag", "inner", "rest"] (defScope sAbove) := ⟨rfl, rfl, rfl, by decide +kernel, rfl, by decide +kernel, by decide +kernel⟩
theorem ok_above {f fA : Addr} {fd fdA : FuncData} (Fn : Fun K "above" "Kinds.above" sAbove f fd) (T : Txt K mg CM CK CO) (FA : Fun K "kinds_ahead" "kinds_ahead" sAhead fA fdA) (bA : Binds K fdA ["one", "tag", "inner", "rest"] []) (gA : mg "kinds_ahead" = some (.ref fA)) :
    FnOk P w K mg base CX0 2 f fd ["self", "tag", "inner", "rest"] (spAbove fun c => c = CK ∨ c = CO) := by
  have GA : FnOk P w K mg base CX0 1 fA fdA ["one", "tag", "inner", "rest"] spAhead := ok_ahead FA T
  refine Fn.ok scAbove (fun vs H Q E h => ?_) (fun cdv A outer s H vs Q E hr h => ?_)
  · obtain ⟨c, o, f, a, b, tag, F, inner, rest, hc, rfl, _⟩ := h
    rfl
  · obtain ⟨c, o, f, a, b, tag, F, inner, rest, hc, rfl, ⟨dx, ho⟩, fm, hA, hB, q⟩ := h
    refine ⟨_, pss_one (ps_ret (pe_callTy call_tuple_of (by rfl) T.tuple_ (by decide +kernel) (pa_cons (pe_call GA hr (by rfl) gA FA.kp bA .nil pass0 (pa_cons (pe_fld (pv 0) rfl) (pa_cons (pv 1) (pa_cons (pv 2) (pa_cons (pv 3) pa_nil))))) pa_nil))), ?_⟩
    refine ⟨_, rfl, o, c, dx, _, _, rfl, ho, T.cl c hc, T.nh c hc, held_look f, _, rfl, _, rfl, _, rfl, f, a, b, tag, F, inner, rest, rfl, fm, hA, hB, fun H1 p ns s1 hp h1 due => ?_⟩
    refine ⟨p, _, rfl, .inl ⟨SqL.of h1, fun t ht => ?_⟩⟩
    exact q _ t ns (s1.trans (same_new ht)) upd_same due
theorem scGood : FnScope ["self", "value", "kind"] ["self", "value"] (defScope sGood) := ⟨rfl, rfl, rfl, by decide +kernel, rfl, by decide +kernel, by decide +kernel⟩
theorem ok_good {f : Addr} {fd : FuncData} (Fn : Fun K "good" "Kinds.good" sGood f fd) (T : Txt K mg CM CK CO) : FnOk P w K mg base CX0 1 f fd ["self", "value"] (spGood fun c => c = CK ∨ c = CO) := by
  refine Fn.ok scGood (fun vs H Q E h => ?_) (fun cdv A outer s H vs Q E hr h => ?_)
  · obtain ⟨c, o, f, a, F, vals, hc, rfl, _⟩ := h
    rfl
  · obtain ⟨c, o, f, a, F, vals, hc, rfl, ⟨dx, ho⟩, fm, hA, q⟩ := h
    obtain ⟨many, ah, aT, ar, f1, f2, f3, f4⟩ := fm.ex
    refine ⟨_, pss_one (ps_ret (pe_cmpR op_gt (pe_callB call_len_seq (by rfl) T.len PySem.boot_len (pa_cons
      (pe_lc (own := [("kind", 2)]) (g := gName 2) (by rfl) scGood.nd (pi_tup (pe_ix ix_tup (pe_fld (pv 0) rfl) pe_int (fun _ _ => rfl))) (blkOk_by (own := [("kind", 2)]) (N := ["self", "value", "kind"]) (sc := defScope sGood) (by decide +kernel))
        (fun _ _ _ _ _ => pg_name (i := 2) scGood.nd rfl (Or.inl rfl)) (fun _ _ _ _ _ => pts_one (pt_cmpR (show OpR _ (compareOp .In) (rIn K false) from op_in_seq) (pv 2) (pv 1) rfl)) (fun _ _ _ _ _ => pv 2)) pa_nil)) pe_int (nomark _))), ?_⟩
    refine ⟨_, rfl, o, c, dx, _, _, rfl, ho, T.cl c hc, T.nh c hc, held_look f, f, _, _, _, rfl, rfl, SqT.of f1, rfl, ah, rfl, ⟨_, SqT.of f2⟩, fun D hD => ?_⟩
    refine lc_tup (K := K) (a := ah) (xs := F.heads.map V.int) (fun i H2 => Same H H2 ∧ H2 D = some (.lst (((F.heads.take i).filter fun k => decide (k ∈ vals)).map V.int))) ⟨same_new hD, upd_same⟩ (fun i H2 _ h2 => SqT.of (h2.1 _ _ f2)) ?_ ?_
    · rintro i y H2 hi ⟨s2, h2⟩
      rw [List.getElem?_map] at hi
      obtain ⟨k, hk, rfl⟩ := Option.map_eq_some_iff.mp hi
      have hi60 : i < 60 := Nat.lt_of_lt_of_le (List.getElem?_eq_some_iff.mp hk).1 fm.fewH
      have tk : F.heads.take (i + 1) = F.heads.take i ++ [k] := by rw [List.take_add_one, hk]; rfl
      refine ⟨rfl, _, rfl, _, rfl, a, _, rfl, .inr (SqT.of (s2 _ _ hA)), rfl, flat_ints _, _, rfl, ?_⟩
      rw [if_neg Bool.false_ne_true, inV_int]
      refine ite2 (fun c1 => ?_) (fun c1 => ?_)
      · refine ⟨_, rfl, _, h2, small1000 ?_, same_over hD s2, ?_⟩
        · rw [List.length_map]
          exact Nat.le_trans (List.length_filter_le _ _) (Nat.le_trans (List.length_take_le _ _) (by omega))
        · rw [upd_same, tk, List.filter_append, List.map_append]
          simp [of_decide_eq_true c1]
      · refine ⟨s2, ?_⟩
        have c2 : ¬ k ∈ vals := fun z => c1 (decide_eq_true z)
        rw [h2, tk, List.filter_append]
        simp [c2]
    · rintro H2 ⟨s2, h2⟩
      rw [List.length_map, List.take_length] at h2
      refine ⟨D, _, rfl, .inl (SqL.of h2), _, _, rfl, rfl, ?_⟩
      have e : decide ((0 : Int) < (((F.heads.filter fun k => decide (k ∈ vals)).map V.int).length : Nat)) = goodB F vals := by
        unfold goodB
        rw [List.length_map]
        cases F.heads.filter fun k => decide (k ∈ vals) with
        | nil => rfl
        | cons x r =>
          rw [List.length_cons]
          exact decide_eq_true (by omega)
      show Q (V.bl (decide ((0 : Int) < (((F.heads.filter fun k => decide (k ∈ vals)).map V.int).length : Nat)))) H2
      rw [e]
      exact q H2 s2
theorem scGoodO : FnScope ["self", "value"] ["self", "value"] (defScope sGoodO) := ⟨rfl, rfl, rfl, by decide +kernel, rfl, by decide +kernel, by decide +kernel⟩
theorem ok_goodO {f fG : Addr} {fd fdG : FuncData} {mc : Value} (Fn : Fun K "good" "Others.good" sGoodO f fd) (T : Txt K mg CM CK CO) (FG : Fun K "good" "Kinds.good" sGood fG fdG) (bG : Binds K fdG ["self", "value"] []) (r : ClX.CRead K CK mc) (c : ClX.CVal K CK mc "good" (.ref fG) (.ref fG)) :
    FnOk P w K mg base CX0 2 f fd ["self", "value"] (spGoodO CO) := by
  have GG : FnOk P w K mg base CX0 1 fG fdG ["self", "value"] (spGood fun c => c = CK ∨ c = CO) := ok_good FG T
  refine Fn.ok scGoodO (fun vs H Q E h => ?_) (fun cdv A outer s H vs Q E hr h => ?_)
  · obtain ⟨o, f, a, F, vals, rfl, _⟩ := h
    rfl
  · obtain ⟨o, f, a, F, vals, rfl, ho, fm, hA, q⟩ := h
    refine ⟨_, pss_one (ps_ret (pe_not (pe_cfn (pe_glob (v := .ref CK) (by rfl) T.mgK rfl) r c FG.kp GG hr bG .nil pass0 (pa_cons (pv 0) (pa_cons (pv 1) pa_nil))))), ?_⟩
    refine ⟨rfl, _, rfl, _, rfl, CO, o, f, a, F, vals, .inr rfl, rfl, ho, fm, hA, fun H1 s1 => ?_⟩
    exact ⟨_, rfl, q H1 s1⟩
end
end Gv

set_option Elab.async false
set_option linter.all false
set_option maxRecDepth 100000
set_option maxHeartbeats 4000000
namespace Gv
open PySem PySem.Spec PyProof.Rows L2

/-! ### texts -/
/-- a text of small letters -/
def Small (z : Str) : Prop := ∀ c ∈ z.cps.toList, 97 ≤ c
theorem letters_at {i : Int} (h0 : 0 ≤ i) (h1 : i < 26) : ∃ c, atI ("abcdefghijklmnopqrstuvwxyz" : Str).cps.toList i = some c ∧ 97 ≤ c := by
  have all : ∀ n : Nat, n < 26 → ∃ c, ("abcdefghijklmnopqrstuvwxyz" : Str).cps.toList[n]? = some c ∧ 97 ≤ c := by
    have e : ((List.range 26).all fun n => match ("abcdefghijklmnopqrstuvwxyz" : Str).cps.toList[n]? with | some c => decide (97 ≤ c) | none => false) = true := by decide +kernel
    intro n hn
    have z := List.all_eq_true.mp e n (List.mem_range.mpr hn)
    cases q : ("abcdefghijklmnopqrstuvwxyz" : Str).cps.toList[n]? with
    | none => rw [q] at z; cases z
    | some c => rw [q] at z; exact ⟨c, rfl, of_decide_eq_true z⟩
  obtain ⟨n, rfl⟩ := Int.eq_ofNat_of_zero_le h0
  obtain ⟨c, e, hc⟩ := all n (by omega)
  exact ⟨c, atI_nat e, hc⟩
theorem letters_len : ("abcdefghijklmnopqrstuvwxyz" : Str).length ≤ sizeLine := by decide +kernel
theorem small_snoc {z : Str} {c : Nat} (h : Small z) (hc : 97 ≤ c) : Small (z ++ ⟨#[c]⟩) := by
  intro d hd
  have e : (z ++ (⟨#[c]⟩ : Str)).cps = z.cps ++ #[c] := Str.cps_append _ _
  rw [e, Array.toList_append] at hd
  rcases List.mem_append.mp hd with y | y
  · exact h d y
  · rw [List.mem_singleton.mp y]
    exact hc
theorem len_snoc (z : Str) (c : Nat) : (z ++ (⟨#[c]⟩ : Str)).length = z.length + 1 := by
  rw [Str.length_append]
  rfl
theorem slash_at : ("/" : Str).cps.toList = [47] := by decide +kernel
theorem empty_at : ("" : Str).cps.toList = [] := by decide +kernel
theorem small_slash {z : Str} (h : Small z) : z ≠ "/" := by
  intro e
  subst e
  have q := h 47 (by rw [slash_at]; exact List.mem_cons_self)
  omega

/-! ### promises -/
def spCell (K : PySem.W.Frag) : Sp := fun vs H Q _ => ∃ (a : Addr) (ns : List Int) (k : Int), vs = [.ref a, .int k] ∧ SqL K H a (ns.map V.int) ∧ 0 ≤ k ∧ k ≤ 1000 ∧ ∀ v : Int, 0 ≤ v → v < 2147483647 → Q (.int v) H
def spTag : Sp := fun vs H Q _ => ∃ seed v : Int, vs = [.int seed, .int v] ∧ 0 ≤ seed ∧ seed < 2147483647 ∧ 0 ≤ v ∧ v < 2147483647 ∧ ∀ z : Str, z ≠ "/" → Q (.str z) H
def spDue : Sp := fun vs H Q _ => ∃ (f a b : Addr) (tag : Str) (F : Fm) (inner rest : List Int), vs = [.ref f, .str tag, .ref a, .ref b] ∧ FormAt H f F ∧ H a = some (.tup (inner.map V.int)) ∧ H b = some (.tup (rest.map V.int)) ∧
  ∀ (H' : Hp) (p : Addr) (ns : List Int), Same H H' → H' p = some (.tup (ns.map V.int)) → Due F tag inner rest ns → Q (.ref p) H'
def spNums : Sp := fun vs H Q _ => ∃ (a b : Addr) (ns : List Int), vs = [.ref a, .ref b] ∧ H a = some (.tup (ns.map V.int)) ∧ H b = some (.tup (ns.map V.int)) ∧ ns.length ≤ 60 ∧ Q (.bl true) H

section
variable {P : Program} {w : World} {K : PySem.W.Frag} {mg : Str → Option Value} {base : Heap} {CM CK CO : Addr}
/-! ### _law_cell -/
theorem scCell : FnScope ["_law_script", "_law_k"] ["_law_script", "_law_k"] (defScope sCell) := ⟨rfl, rfl, rfl, by decide +kernel, rfl, by decide +kernel, by decide +kernel⟩
theorem ok_cell {f : Addr} {fd : FuncData} (Fn : Fun K "_law_cell" "_law_cell" sCell f fd) (T : Txt K mg CM CK CO) : FnOk P w K mg base CX0 1 f fd ["_law_script", "_law_k"] (spCell K) := by
  refine Fn.ok scCell (fun vs H Q E h => ?_) (fun cdv A outer s H vs Q E hr h => ?_)
  · obtain ⟨a, ns, k, rfl, _⟩ := h
    rfl
  · obtain ⟨a, ns, k, rfl, hS, k0, k1, q⟩ := h
    refine ⟨_, pss_cons (ps_if (pt_cmpR op_lt (pv 1) (pe_callB call_len_seq (by rfl) T.len PySem.boot_len (pa_cons (pv 0) pa_nil)) (nomark _))
        (pss_one (ps_ret (pe_op op_mod (pe_op op_add (pe_op op_mul (pe_ix ix_list (pv 0) (pv 1) (fun _ _ => rfl)) pe_int) (pe_op op_mul (pe_op op_mul (pv 1) (pv 1)) pe_int)) pe_int))) pss_nil)
      (pss_one (ps_ret (pe_op op_mod (pe_op op_add (pe_op op_add (pe_op op_mul (pe_op op_mul (pv 1) (pv 1)) pe_int) (pe_op op_mul (pe_callB call_len_seq (by rfl) T.len PySem.boot_len (pa_cons (pv 0) pa_nil)) pe_int)) pe_int) pe_int))), ?_⟩
    have done : ∀ y : Int, Q (.int (y % 2147483647)) H := fun y => q _ (Int.emod_nonneg y (by decide)) (Int.emod_lt_of_pos y (by decide))
    refine ⟨_, rfl, _, rfl, a, _, rfl, .inl hS, _, _, rfl, rfl, _, rfl, ?_⟩
    refine ite2 (fun c => ?_) (fun c => ?_)
    · have hk : k < ((ns.map V.int).length : Nat) := of_decide_eq_true c
      rw [List.length_map] at hk
      obtain ⟨n, rfl⟩ := Int.eq_ofNat_of_zero_le k0
      have hn : n < ns.length := by omega
      have g1 : (ns.map V.int)[n]? = some (.int ns[n]) := by
        rw [List.getElem?_map, List.getElem?_eq_getElem hn]
        rfl
      refine ⟨_, rfl, _, rfl, a, _, _, _, rfl, rfl, hS, atI_nat g1, _, _, rfl, rfl, .inr ⟨by decide, by decide⟩, _, rfl, _, rfl, _, _, rfl, rfl, .inl ⟨by omega, by omega⟩, _, _, rfl, rfl, .inr ⟨by decide, by decide⟩, _, _, rfl, rfl, _, _, rfl, rfl, (by show (0 : Int) < 2147483647; decide), ?_⟩
      exact done _
    · refine ⟨_, rfl, _, rfl, _, _, rfl, rfl, .inl ⟨by omega, by omega⟩, _, _, rfl, rfl, .inr ⟨by decide, by decide⟩, _, rfl, a, _, rfl, .inl hS, _, _, rfl, rfl, .inr ⟨by decide, by decide⟩, _, _, rfl, rfl, _, _, rfl, rfl, _, _, rfl, rfl, (by show (0 : Int) < 2147483647; decide), ?_⟩
      exact done _

/-! ### _law_tag -/
theorem scTag : FnScope ["_law_seed", "_law_v", "_law_letters", "_law_many", "_law_at", "_law_more", "_law_word", "_law_j", "_law_sign"] ["_law_seed", "_law_v"] (defScope sTag) := ⟨rfl, rfl, rfl, by decide +kernel, rfl, by decide +kernel, by decide +kernel⟩
theorem ok_tag {f : Addr} {fd : FuncData} (Fn : Fun K "_law_tag" "_law_tag" sTag f fd) (T : Txt K mg CM CK CO) : FnOk P w K mg base CX0 1 f fd ["_law_seed", "_law_v"] spTag := by
  refine Fn.ok scTag (fun vs H Q E h => ?_) (fun cdv A outer s H vs Q E hr h => ?_)
  · obtain ⟨seed, v, rfl, _⟩ := h
    rfl
  · obtain ⟨seed, v, rfl, s0, s1, v0, v1, q⟩ := h
    refine ⟨_, pss_cons (ps_set (i := 2) scTag.nd rfl (.inl rfl) pe_str)
      (pss_cons (ps_set (i := 3) scTag.nd rfl (.inl rfl) (pe_op op_add pe_int (pe_op op_mod (pv 0) pe_int)))
      (pss_cons (ps_set (i := 4) scTag.nd rfl (.inl rfl) (pe_op op_mod (pe_op op_fdiv (pv 0) pe_int) (pv 3)))
      (pss_cons (ps_set (i := 5) scTag.nd rfl (.inl rfl) (pv 1))
      (C8.pss_cut (ps_if (pt_cmpR op_eq (pe_op op_mod (pe_op op_fdiv (pv 0) pe_int) pe_int) pe_int (nomark _))
          (pss_cons (ps_set (i := 3) scTag.nd rfl (.inl rfl) (pe_op op_add pe_int (pe_op op_mod (pe_op op_add (pe_op op_fdiv (pv 0) pe_int) (pv 1)) pe_int)))
          (pss_cons (ps_set (i := 4) scTag.nd rfl (.inl rfl) (pe_op op_sub (pv 3) pe_int))
          (pss_one (ps_set (i := 5) scTag.nd rfl (.inl rfl) (pe_op op_fdiv (pv 1) pe_int))))) pss_nil)
      (pss_cons (ps_set (i := 6) scTag.nd rfl (.inl rfl) pe_str)
      (pss_cons (ps_for PassesOwn.never rfl (pi_range1 (by rfl) T.range (pa_cons (pv 3) pa_nil)) (pg_name (i := 7) scTag.nd rfl (.inl rfl))
        (pss_cons (ps_set (i := 8) scTag.nd rfl (.inl rfl) (pe_op op_add (pe_op op_fdiv (pv 0) (pe_op op_add (pv 7) pe_int)) (pe_op op_mul (pe_callTy call_int1 (by rfl) T.int_ (by decide +kernel) (pa_cons (pe_cmpR op_eq (pv 7) (pv 4) (nomark _)) pa_nil)) (pv 5))))
        (pss_one (ps_set (i := 6) scTag.nd rfl (.inl rfl) (pe_op op_add_str (pv 6) (pe_ix ix_str (pv 2) (pe_op op_mod (pv 8) pe_int) (fun _ _ => rfl)))))))
      (pss_one (ps_ret (pv 6))))))))), ?_⟩
    have m1 := Int.emod_nonneg seed (show (8 : Int) ≠ 0 by decide)
    have m2 := Int.emod_lt_of_pos seed (show (0 : Int) < 8 by decide)
    -- letters, many, at, more
    refine ⟨_, rfl, _, _, rfl, rfl, (by show (0 : Int) < 8; decide), _, _, rfl, rfl, _, rfl, _, _, rfl, rfl, ⟨by decide, by decide⟩, _, rfl, _, _, rfl, rfl, (by show (0 : Int) < 1 + seed % 8; omega), _, rfl, ?_⟩
    refine ⟨fun σ H' => H' = H ∧ ∃ many at_ more : Int, 1 ≤ many ∧ many ≤ 8 ∧ σ = [some (.int seed), some (.int v), some (.str "abcdefghijklmnopqrstuvwxyz"), some (.int many), some (.int at_), some (.int more), none, none, none], ?_, ?_⟩
    · refine ⟨_, rfl, _, _, rfl, rfl, ⟨by decide, by decide⟩, _, _, rfl, rfl, (by show (0 : Int) < 2; decide), rfl, _, rfl, ?_⟩
      refine ite2 (fun _ => ?_) (fun _ => ?_)
      · refine ⟨_, rfl, _, _, rfl, rfl, ⟨by decide, by decide⟩, _, rfl, _, _, rfl, rfl, _, _, rfl, rfl, (by show (0 : Int) < 8; decide), _, _, rfl, rfl, _, rfl, _, _, rfl, rfl, _, rfl, _, _, rfl, rfl, ⟨by decide, by decide⟩, ?_⟩
        have m3 := Int.emod_nonneg (seed / 8 + v) (show (8 : Int) ≠ 0 by decide)
        have m4 := Int.emod_lt_of_pos (seed / 8 + v) (show (0 : Int) < 8 by decide)
        exact ⟨rfl, _, _, _, by omega, by omega, rfl⟩
      · exact ⟨rfl, _, _, _, by omega, by omega, rfl⟩
    · rintro σ H' ⟨rfl, many, at_, more, c1, c2, rfl⟩
      refine ⟨_, rfl, many, rfl, by omega, by omega, ?_⟩
      refine for_range (lo := 0) (n := many.toNat) (fun i σ H2 => H2 = H' ∧ ∃ (z : Str) (y7 y8 : Option V), z.length = i ∧ Small z ∧ σ = [some (.int seed), some (.int v), some (.str "abcdefghijklmnopqrstuvwxyz"), some (.int many), some (.int at_), some (.int more), some (.str z), y7, y8])
        ⟨rfl, _, none, none, (by decide +kernel), (fun c hc => by rw [empty_at] at hc; exact absurd hc List.not_mem_nil), rfl⟩ ?_ ?_
      · rintro i σ H2 hi ⟨rfl, z, y7, y8, hz, hs, rfl⟩
        have hi8 : i < 8 := by omega
        refine ⟨_, rfl, _, rfl, _, _, rfl, rfl, _, _, rfl, rfl, ⟨by omega, by omega⟩, _, rfl, _, rfl, rfl, .inr ⟨_, rfl, ?_⟩⟩
        refine ⟨_, rfl, _, _, rfl, rfl, .inl ?_, _, _, rfl, rfl, ?_⟩
        · split
          · exact ⟨by decide, by decide⟩
          · exact ⟨by decide, by decide⟩
        · obtain ⟨c, hc, hc97⟩ := letters_at (Int.emod_nonneg (seed / (0 + (i : Nat) + 9) + (if decide (V.int (0 + (i : Nat)) = V.int at_) = true then 1 else 0) * more) (show (26 : Int) ≠ 0 by decide)) (Int.emod_lt_of_pos _ (by decide))
          refine ⟨_, rfl, _, rfl, _, rfl, _, _, rfl, rfl, (by show (0 : Int) < 26; decide), _, _, c, rfl, rfl, letters_len, hc, _, _, rfl, rfl, ?_, ?_⟩
          · rw [hz, sizeLine_eq]
            show i + 1 ≤ _
            omega
          · exact ⟨rfl, _, _, _, by rw [len_snoc, hz], small_snoc hs hc97, rfl⟩
      · rintro σ H2 ⟨rfl, z, y7, y8, hz, hs, rfl⟩
        exact ⟨_, rfl, q z (small_slash hs)⟩

/-! ### _law_above -/
theorem scDue : FnScope ["_law_other", "_law_word", "_law_inner", "_law_rest", "_law_some", "_law_rule"] ["_law_other", "_law_word", "_law_inner", "_law_rest"] (defScope sDue) := ⟨rfl, rfl, rfl, by decide +kernel, rfl, by decide +kernel, by decide +kernel⟩
theorem ok_due {f : Addr} {fd : FuncData} (Fn : Fun K "_law_above" "_law_above" sDue f fd) (T : Txt K mg CM CK CO) : FnOk P w K mg base CX0 1 f fd ["_law_other", "_law_word", "_law_inner", "_law_rest"] spDue := by
  refine Fn.ok scDue (fun vs H Q E h => ?_) (fun cdv A outer s H vs Q E hr h => ?_)
  · obtain ⟨f, a, b, tag, F, inner, rest, rfl, _⟩ := h
    rfl
  · obtain ⟨f, a, b, tag, F, inner, rest, rfl, fm, hA, hB, q⟩ := h
    obtain ⟨many, ah, aT, ar, f1, f2, f3, f4⟩ := fm.ex
    refine ⟨_, pss_cons (ps_setLc (i := 4) (own := [("_law_rule", 5)]) (g := gName 5) (by rfl) scDue.nd rfl rfl (sw_true rfl rfl rfl (by decide +kernel)) (pi_tup (pe_ix ix_tup (pv 0) pe_int (fun _ _ => rfl)))
        (blkOk_by (own := [("_law_rule", 5)]) (N := ["_law_other", "_law_word", "_law_inner", "_law_rest", "_law_some", "_law_rule"]) (sc := defScope sDue) (by decide +kernel)) (fun _ _ _ _ _ => pg_name (i := 5) scDue.nd rfl (Or.inl rfl))
        (fun _ _ _ _ _ => pts_one (PW.pt (pw_and (pt_cmpR op_eq (pe_ix (show IxR _ (rIxT K) from ix_tup) (pv 5) pe_int (fun _ _ => rfl)) (pv 1) (nomark _))
          (pw_and (pt_cmpR (show OpR _ (compareOp .In) (rIn K false) from op_in_seq) (pe_ix (show IxR _ (rIxT K) from ix_tup) (pv 5) pe_int (fun _ _ => rfl)) (pv 2) rfl)
          (pw_and1 (pt_cmpR (show OpR _ (compareOp .In) (rIn K false) from op_in_seq) (pe_ix (show IxR _ (rIxT K) from ix_tup) (pv 5) pe_int (fun _ _ => rfl)) (pv 3) rfl))))))
        (fun _ _ _ _ _ => pe_ix (show IxR _ (rIxT K) from ix_tup) (pv 5) pe_int (fun _ _ => rfl)))
      (pss_one (ps_ret (pe_callTy call_tuple_of (by rfl) T.tuple_ (by decide +kernel) (pa_cons (pe_callB (cr_sortedSet rfl) (by rfl) T.sorted_ (by decide +kernel) (pa_cons (pe_callTy (cr_setI rfl) (by rfl) T.set_ (by decide +kernel) (pa_cons (pv 4) pa_nil)) pa_nil)) pa_nil)))), ?_⟩
    refine ⟨_, rfl, f, _, _, _, rfl, rfl, SqT.of f1, rfl, ar, rfl, ⟨_, SqT.of f4⟩, fun D hD => ?_⟩
    refine lc_tup (K := K) (a := ar) (xs := F.rules.map fun p => V.ref p.1) (fun i H2 => Same H H2 ∧ H2 D = some (.lst ((((F.rules.take i).filter fun p => hitB tag inner rest p.2).map fun p => p.2.q).map V.int))) ⟨same_new hD, upd_same⟩ (fun i H2 _ h2 => SqT.of (h2.1 _ _ f4)) ?_ ?_
    · rintro i y H2 hi ⟨s2, h2⟩
      rw [List.getElem?_map] at hi
      obtain ⟨p, hp, rfl⟩ := Option.map_eq_some_iff.mp hi
      have hi60 : i < 60 := Nat.lt_of_lt_of_le (List.getElem?_eq_some_iff.mp hp).1 fm.fewR
      have hpm : p ∈ F.rules := List.mem_of_getElem? hp
      have tk : F.rules.take (i + 1) = F.rules.take i ++ [p] := by rw [List.take_add_one, hp]; rfl
      have hit := s2 _ _ (fm.rl p hpm)
      have no : hitB tag inner rest p.2 = false → Same H H2 ∧ H2 D = some (.lst ((((F.rules.take (i + 1)).filter fun p => hitB tag inner rest p.2).map fun p => p.2.q).map V.int)) := fun e => by
        refine ⟨s2, ?_⟩
        rw [h2, tk, List.filter_append]
        simp [e]
      refine ⟨rfl, _, rfl, p.1, p.2.its, _, _, rfl, rfl, SqT.of hit, rfl, _, rfl, rfl, _, rfl, ?_⟩
      refine ite2 (fun c1 => ?_) (fun c1 => ?_)
      · have e1 : p.2.tag = tag := by simpa using c1
        refine ⟨_, rfl, p.1, p.2.its, _, _, rfl, rfl, SqT.of hit, rfl, _, rfl, a, _, rfl, .inr (SqT.of (s2 _ _ hA)), rfl, flat_ints _, _, rfl, ?_⟩
        rw [if_neg Bool.false_ne_true, inV_int]
        refine ite2 (fun c2 => ?_) (fun c2 => ?_)
        · have e2 : p.2.i ∈ inner := of_decide_eq_true c2
          refine ⟨_, rfl, p.1, p.2.its, _, _, rfl, rfl, SqT.of hit, rfl, _, rfl, b, _, rfl, .inr (SqT.of (s2 _ _ hB)), rfl, flat_ints _, _, rfl, ?_⟩
          rw [if_neg Bool.false_ne_true, inV_int]
          refine ite2 (fun c3 => ?_) (fun c3 => ?_)
          · have e3 : p.2.r ∈ rest := of_decide_eq_true c3
            have hb : hitB tag inner rest p.2 = true := hit_iff.mpr ⟨e1, e2, e3⟩
            refine ⟨_, rfl, p.1, p.2.its, _, _, rfl, rfl, SqT.of hit, rfl, _, h2, small1000 ?_, same_over hD s2, ?_⟩
            · rw [List.length_map, List.length_map]
              exact Nat.le_trans (List.length_filter_le _ _) (Nat.le_trans (List.length_take_le _ _) (by omega))
            · rw [upd_same, tk, List.filter_append, List.map_append, List.map_append]
              simp [hb]
          · exact no (by unfold hitB; simp [show ¬ p.2.r ∈ rest from fun z => c3 (decide_eq_true z)])
        · exact iteF (no (by unfold hitB; simp [show ¬ p.2.i ∈ inner from fun z => c2 (decide_eq_true z)]))
      · exact iteF (no (by unfold hitB; simp [show ¬ p.2.tag = tag from fun z => c1 (by rw [z]; simp)]))
    · rintro H2 ⟨s2, h2⟩
      rw [List.length_map, List.take_length] at h2
      generalize hns : ((F.rules.filter fun p => hitB tag inner rest p.2).map fun p => p.2.q) = ns at h2
      have hlen : ns.length ≤ 60 := by
        rw [← hns, List.length_map]
        exact Nat.le_trans (List.length_filter_le _ _) fm.fewR
      refine ⟨_, rfl, D, ns, rfl, SqL.of h2, hlen, fun sa c hsa hc => ?_⟩
      refine ⟨sa, _, c, rfl, upd_same, by omega, fun ms lp up hm hl hlp => ?_⟩
      refine ⟨lp, _, rfl, .inl ⟨SqL.of upd_same, fun t ht => ?_⟩⟩
      refine q _ t ms (s2.trans ((same_new hsa).trans ((same_new hlp).trans (same_new ht)))) upd_same ⟨up, fun k => ?_, by omega⟩
      rw [hm k, decide_eq_true_iff, ← hns, List.mem_map]
      constructor
      · rintro ⟨x, hx, e⟩
        obtain ⟨h1, h2⟩ := List.mem_filter.mp hx
        exact ⟨x, h1, hit_iff.mp h2, e⟩
      · rintro ⟨x, hx, hh, e⟩
        exact ⟨x, List.mem_filter.mpr ⟨hx, hit_iff.mpr hh⟩, e⟩

/-! ### _law_numbers -/
theorem scNums : FnScope ["_law_found", "_law_due", "_law_k"] ["_law_found", "_law_due"] (defScope sNums) := ⟨rfl, rfl, rfl, by decide +kernel, rfl, by decide +kernel, by decide +kernel⟩
theorem ok_nums {f : Addr} {fd : FuncData} (Fn : Fun K "_law_numbers" "_law_numbers" sNums f fd) (T : Txt K mg CM CK CO) : FnOk P w K mg base CX0 1 f fd ["_law_found", "_law_due"] spNums := by
  refine Fn.ok scNums (fun vs H Q E h => ?_) (fun cdv A outer s H vs Q E hr h => ?_)
  · obtain ⟨a, b, ns, rfl, _⟩ := h
    rfl
  · obtain ⟨a, b, ns, rfl, hA, hB, hn, q⟩ := h
    refine ⟨_, pss_cons (ps_if (PW.pt (pw_or (pt_not (pt_val (pe_callB call_isi (by rfl) T.isi (by decide +kernel) (pa_cons (pv 0) (pa_cons (pe_bltn (v := .ty "tuple") (by rfl) T.tuple_ (by decide +kernel) rfl) pa_nil)))))
          (pw_or1 (pt_cmpR op_ne (pe_callB call_len_seq (by rfl) T.len PySem.boot_len (pa_cons (pv 0) pa_nil)) (pe_callB call_len_seq (by rfl) T.len PySem.boot_len (pa_cons (pv 1) pa_nil)) (nomark _)))))
        (pss_one (ps_ret pe_bl)) pss_nil)
      (pss_cons (ps_for PassesOwn.never rfl (pi_range1 (by rfl) T.range (pa_cons (pe_callB call_len_seq (by rfl) T.len PySem.boot_len (pa_cons (pv 1) pa_nil)) pa_nil)) (pg_name (i := 2) scNums.nd rfl (.inl rfl))
        (pss_one (ps_if (PW.pt (pw_or (pt_not (pt_val (pe_callB call_isi (by rfl) T.isi (by decide +kernel) (pa_cons (pe_ix ix_tup (pv 0) (pv 2) (fun _ _ => rfl)) (pa_cons (pe_bltn (v := .ty "int") (by rfl) T.int_ (by decide +kernel) rfl) pa_nil)))))
          (pw_or (pt_val (pe_callB call_isi (by rfl) T.isi (by decide +kernel) (pa_cons (pe_ix ix_tup (pv 0) (pv 2) (fun _ _ => rfl)) (pa_cons (pe_bltn (v := .ty "bool") (by rfl) T.bool_ (by decide +kernel) rfl) pa_nil))))
          (pw_or1 (pt_cmpR op_ne (pe_ix ix_tup (pv 0) (pv 2) (fun _ _ => rfl)) (pe_ix ix_tup (pv 1) (pv 2) (fun _ _ => rfl)) (nomark _))))))
          (pss_one (ps_ret pe_bl)) pss_nil)))
      (pss_one (ps_ret pe_bl))), ?_⟩
    refine ⟨_, rfl, .ref a, .ty "tuple", .type "tuple", .type "tuple", true, rfl, .ty _, .base (.tup hA), kit_ty (by decide +kernel), true, rfl, ?_⟩
    refine iteF ⟨_, rfl, a, _, rfl, .inr (SqT.of hA), _, rfl, b, _, rfl, .inr (SqT.of hB), rfl, _, rfl, ?_⟩
    refine iteNS rfl ?_
    refine ⟨_, rfl, b, _, rfl, .inr (SqT.of hB), _, rfl, (by rw [List.length_map]; omega), (by rw [List.length_map]; omega), ?_⟩
    refine for_range (lo := 0) (n := ((ns.map V.int).length : Int).toNat) (fun i σ H2 => H2 = H ∧ ∃ y2, σ = [some (.ref a), some (.ref b), y2]) ⟨rfl, none, rfl⟩ ?_ ?_
    · rintro i σ H2 hi ⟨rfl, y2, rfl⟩
      rw [List.length_map] at hi
      have hi' : i < ns.length := by omega
      have g1 : (ns.map V.int)[i]? = some (.int ns[i]) := by
        rw [List.getElem?_map, List.getElem?_eq_getElem hi']
        rfl
      have ix : atI (ns.map V.int) (0 + (i : Nat)) = some (V.int ns[i]) := at_of (by omega) g1
      refine ⟨_, rfl, _, rfl, a, _, _, _, rfl, rfl, SqT.of hA, ix, .int ns[i], .ty "int", .type "int", .type "int", true, rfl, .ty _, .base (.int _), kit_ty (by decide +kernel), true, rfl, ?_⟩
      refine iteF ⟨_, rfl, _, rfl, a, _, _, _, rfl, rfl, SqT.of hA, ix, .int ns[i], .ty "bool", .type "int", .type "bool", false, rfl, .ty _, .base (.int _), kit_ty (by decide +kernel), false, rfl, ?_⟩
      refine iteF ⟨_, rfl, _, rfl, a, _, _, _, rfl, rfl, SqT.of hA, ix, _, rfl, _, rfl, b, _, _, _, rfl, rfl, SqT.of hB, ix, rfl, _, rfl, ?_⟩
      refine iteNS rfl ?_
      exact ⟨rfl, _, rfl⟩
    · rintro σ H2 ⟨rfl, y2, rfl⟩
      exact q
end
end Gv

set_option Elab.async false
set_option linter.all false
set_option maxRecDepth 100000
set_option maxHeartbeats 4000000
namespace Gv
open PySem PySem.Spec PyProof.Rows L2

/-! ### words that can be read from the last on -/
/-- from n values on the pile: an end adds one, a tag takes one off -/
def Fits : List Str → Nat → Prop
  | [], _ => True
  | x :: r, n => (x = "/" ∧ Fits r (n + 1)) ∨ (x ≠ "/" ∧ ∃ m, n = m + 1 ∧ Fits r m)
theorem fits_ends : ∀ (k n : Nat) (r : List Str), Fits r (n + k) → Fits (List.replicate k ("/" : Str) ++ r) n
  | 0, n, r, h => h
  | k + 1, n, r, h => by
    rw [List.replicate_succ, List.cons_append]
    refine .inl ⟨rfl, fits_ends k (n + 1) r ?_⟩
    rw [show n + 1 + k = n + (k + 1) by omega]
    exact h
def spShape (K : PySem.W.Frag) : Sp := fun vs H Q _ => ∃ (a : Addr) (ns : List Int) (side : Int), vs = [.ref a, .int side] ∧ SqL K H a (ns.map V.int) ∧ 0 ≤ side ∧ side ≤ 1 ∧ ∀ (H' : Hp) (f : Addr) (F : Fm), Same H H' → FormAt H' f F → Q (.ref f) H'
def spWords (K : PySem.W.Frag) : Sp := fun vs H Q _ => ∃ (a : Addr) (ns : List Int), vs = [.ref a, .int 3, .int 63] ∧ SqL K H a (ns.map V.int) ∧ ∀ (H' : Hp) (p : Addr) (ws : List Str), Same H H' → H' p = some (.lst (ws.map V.str)) → Fits ws.reverse 0 → ws.length ≤ 1000 → Q (.ref p) H'
theorem few_turns {j side : Int} (s0 : 0 ≤ side) (s1 : side ≤ 1) (hj : j ≤ 36) : 0 ≤ Builtin.Range.rangeSize (4 + side) j 2 ∧ Builtin.Range.rangeSize (4 + side) j 2 ≤ 16 := by
  unfold Builtin.Range.rangeSize
  rw [if_pos (by decide)]
  split
  · have h1 : 0 ≤ (j - (4 + side) - 1) / 2 := Int.ediv_nonneg (by omega) (by decide)
    have h2 : (j - (4 + side) - 1) / 2 ≤ 15 := by omega
    omega
  · omega
theorem small_two {j side : Int} (s0 : 0 ≤ side) (s1 : side ≤ 1) (h0 : 0 ≤ j) (h1 : j ≤ 36) : Builtin.Range.small (4 + side) j 2 = true := by
  have z := few_turns s0 s1 h1
  unfold Builtin.Range.small
  generalize Builtin.Range.rangeSize (4 + side) j 2 = n at z ⊢
  simp only [Builtin.Range.rangeFitsLong, Bool.and_eq_true, Bool.or_eq_true, decide_eq_true_eq, beq_iff_eq, show (2 : Int) > 0 by decide, if_true]
  omega

section
variable {P : Program} {w : World} {K : PySem.W.Frag} {mg : Str → Option Value} {base : Heap} {CM CK CO : Addr}
/-! ### _law_shape -/
theorem scShape : FnScope ["_law_script", "_law_side", "_law_cell_here", "_law_many", "_law_turn", "_law_tails", "_law_heads", "_law_rules", "_law_k", "_law_drawn", "_law_word"] ["_law_script", "_law_side"] (defScope sShape) :=
  ⟨rfl, rfl, rfl, by decide +kernel, rfl, by decide +kernel, by decide +kernel⟩
theorem ok_shape {f fC fT : Addr} {fd fdC fdT : FuncData} (Fn : Fun K "_law_shape" "_law_shape" sShape f fd) (T : Txt K mg CM CK CO) (FC : Fun K "_law_cell" "_law_cell" sCell fC fdC) (bC : Binds K fdC ["_law_script", "_law_k"] []) (gC : mg "_law_cell" = some (.ref fC))
    (FT : Fun K "_law_tag" "_law_tag" sTag fT fdT) (bT : Binds K fdT ["_law_seed", "_law_v"] []) (gT : mg "_law_tag" = some (.ref fT)) : FnOk P w K mg base CX0 2 f fd ["_law_script", "_law_side"] (spShape K) := by
  have GC : FnOk P w K mg base CX0 1 fC fdC ["_law_script", "_law_k"] (spCell K) := ok_cell FC T
  have GT : FnOk P w K mg base CX0 1 fT fdT ["_law_seed", "_law_v"] spTag := ok_tag FT T
  refine Fn.ok scShape (fun vs H Q E h => ?_) (fun cdv A outer s H vs Q E hr h => ?_)
  · obtain ⟨a, ns, side, rfl, _⟩ := h
    rfl
  · obtain ⟨a, ns, side, rfl, hS, s0, s1, q⟩ := h
    refine ⟨_, pss_cons (ps_set (i := 2) scShape.nd rfl (.inl rfl) (pe_call GC hr (by rfl) gC FC.kp bC .nil pass0 (pa_cons (pv 0) (pa_cons (pv 1) pa_nil)))) <|
      pss_cons (ps_set (i := 3) scShape.nd rfl (.inr rfl) (pe_op op_add pe_int (pe_op op_mod (pv 2) pe_int))) <|
      pss_cons (ps_if (pt_cmpR op_eq (pe_op op_mod (pe_op op_fdiv (pv 2) pe_int) pe_int) pe_int (nomark _)) (pss_one (ps_ret (pe_tup (pa_cons pe_int (pa_cons (pe_tup pa_nil) (pa_cons (pe_tup pa_nil) (pa_cons (pe_tup pa_nil) pa_nil))))))) pss_nil) <|
      C8.pss_cut (ps_if (pt_cmpR op_eq (pe_op op_mod (pe_op op_fdiv (pv 2) pe_int) pe_int) pe_int (nomark _)) (pss_one (ps_set (i := 3) scShape.nd rfl (.inr rfl) (pe_op op_add pe_int (pe_op op_mod (pe_op op_fdiv (pv 2) pe_int) pe_int)))) pss_nil) <|
      pss_cons (ps_set (i := 4) scShape.nd rfl (.inr rfl) (pe_call GC hr (by rfl) gC FC.kp bC .nil pass0 (pa_cons (pv 0) (pa_cons (pe_op op_add pe_int (pv 1)) pa_nil)))) <|
      pss_cons (ps_setLc (i := 5) (own := [("_law_k", 8)]) (g := gName 8) (by rfl) scShape.nd rfl rfl (sw_true rfl rfl rfl (by decide +kernel))
        (pi_range1 (by rfl) T.range (pa_cons (pe_callB (call_min2 rfl) (by rfl) T.min_ (by decide +kernel) (pa_cons (pe_op op_mod (pv 4) pe_int) (pa_cons (pe_op op_add (pe_op op_add pe_int (pe_op op_mod (pv 4) pe_int)) (pe_op op_fdiv (pv 3) pe_int)) pa_nil))) pa_nil))
        (blkOk_by (own := [("_law_k", 8)]) (N := ["_law_script", "_law_side", "_law_cell_here", "_law_many", "_law_turn", "_law_tails", "_law_heads", "_law_rules", "_law_k", "_law_drawn", "_law_word"]) (sc := defScope sShape) (by decide +kernel)) (fun _ _ _ _ _ => pg_name (i := 8) scShape.nd rfl (Or.inl rfl)) (fun _ _ _ _ _ => pts_nil)
        (fun _ _ _ _ _ => pe_op op_mod (pe_op op_fdiv (pv 4) (pe_op op_add (pv 8) pe_int)) (pv 3))) <|
      pss_cons (ps_setLc (i := 6) (own := [("_law_k", 8)]) (g := gName 8) (by rfl) scShape.nd rfl rfl (sw_true rfl rfl rfl (by decide +kernel))
        (pi_range1 (by rfl) T.range (pa_cons (pe_op op_add (pe_callTy call_int1 (by rfl) T.int_ (by decide +kernel) (pa_cons (pe_cmpR op_gt (pe_op op_mod (pe_op op_fdiv (pv 4) pe_int) pe_int) pe_int (nomark _)) pa_nil)) (pe_op op_mod (pe_op op_fdiv (pv 4) pe_int) pe_int)) pa_nil))
        (blkOk_by (own := [("_law_k", 8)]) (N := ["_law_script", "_law_side", "_law_cell_here", "_law_many", "_law_turn", "_law_tails", "_law_heads", "_law_rules", "_law_k", "_law_drawn", "_law_word"]) (sc := defScope sShape) (by decide +kernel)) (fun _ _ _ _ _ => pg_name (i := 8) scShape.nd rfl (Or.inl rfl)) (fun _ _ _ _ _ => pts_nil)
        (fun _ _ _ _ _ => pe_op op_mod (pe_op op_fdiv (pv 4) (pe_op op_add (pv 8) pe_int)) (pv 3))) <|
      pss_cons (ps_set (i := 7) scShape.nd rfl (.inl rfl) (pe_lst pa_nil)) <|
      pss_cons (ps_for PassesOwn.never rfl (pi_range3 (by rfl) T.range (pa_cons (pe_op op_add pe_int (pv 1)) (pa_cons (pe_callB (call_min2 rfl) (by rfl) T.min_ (by decide +kernel) (pa_cons (pe_callB call_len_seq (by rfl) T.len PySem.boot_len (pa_cons (pv 0) pa_nil)) (pa_cons pe_int pa_nil))) (pa_cons pe_int pa_nil))))
          (pg_name (i := 8) scShape.nd rfl (.inl rfl))
        (pss_cons (ps_set (i := 9) scShape.nd rfl (.inl rfl) (pe_call GC hr (by rfl) gC FC.kp bC .nil pass0 (pa_cons (pv 0) (pa_cons (pv 8) pa_nil)))) <|
        pss_cons (ps_set (i := 10) scShape.nd rfl (.inl rfl) (pe_call GT hr (by rfl) gT FT.kp bT .nil pass0 (pa_cons (pe_call GC hr (by rfl) gC FC.kp bC .nil pass0 (pa_cons (pv 0) (pa_cons pe_int pa_nil)))
          (pa_cons (pe_op op_mod (pe_op op_fdiv (pv 9) pe_int) (pe_op op_add pe_int (pe_op op_mod (pe_op op_fdiv (pv 2) pe_int) pe_int))) pa_nil)))) <|
        pss_one (ps_expr (pe_bm PySem.F.plainAttrs_list PySem.F.slot_list_append PySem.F.type_list_append mt_append (pv 7)
          (pa_cons (pe_tup (pa_cons (pe_op op_mod (pv 9) (pv 3)) (pa_cons (pv 10) (pa_cons (pe_op op_mod (pe_op op_fdiv (pv 9) pe_int) (pv 3)) (pa_cons (pe_op op_mod (pe_op op_fdiv (pv 9) pe_int) (pv 3)) pa_nil))))) pa_nil))))) <|
      pss_one (ps_ret (pe_tup (pa_cons (pv 3)
        (pa_cons (pe_callTy call_tuple_of (by rfl) T.tuple_ (by decide +kernel) (pa_cons (pe_callB (cr_sortedSet rfl) (by rfl) T.sorted_ (by decide +kernel) (pa_cons (pe_callTy (cr_setI rfl) (by rfl) T.set_ (by decide +kernel) (pa_cons (pv 6) pa_nil)) pa_nil)) pa_nil))
        (pa_cons (pe_callTy call_tuple_of (by rfl) T.tuple_ (by decide +kernel) (pa_cons (pe_callB (cr_sortedSet rfl) (by rfl) T.sorted_ (by decide +kernel) (pa_cons (pe_callTy (cr_setI rfl) (by rfl) T.set_ (by decide +kernel) (pa_cons (pv 5) pa_nil)) pa_nil)) pa_nil))
        (pa_cons (pe_callTy call_tuple_of (by rfl) T.tuple_ (by decide +kernel) (pa_cons (pe_callB (cr_sortM rfl hr.units) (by rfl) T.sorted_ (by decide +kernel) (pa_cons (pe_callTy (cr_setM rfl hr.units) (by rfl) T.set_ (by decide +kernel) (pa_cons (pv 7) pa_nil)) pa_nil)) pa_nil)) pa_nil)))))), ?_⟩
    -- cell_here = _law_cell(script, side); many = 1 + cell_here % 3
    refine ⟨_, rfl, _, rfl, a, ns, side, rfl, hS, s0, by omega, fun ch ch0 ch1 => ?_⟩
    refine ⟨_, rfl, _, _, rfl, rfl, (by show (0 : Int) < 3; decide), _, _, rfl, rfl, ?_⟩
    have m1 := Int.emod_nonneg ch (show (3 : Int) ≠ 0 by decide)
    have m2 := Int.emod_lt_of_pos ch (show (0 : Int) < 3 by decide)
    -- no kinds
    refine ⟨_, rfl, _, _, rfl, rfl, ⟨by decide, by decide⟩, _, _, rfl, rfl, (by show (0 : Int) < 8; decide), rfl, _, rfl, ?_⟩
    refine ite2 (fun _ => ?_) (fun _ => ?_)
    · refine ⟨Nat.zero_le _, fun p1 h1 => ⟨Nat.zero_le _, fun p2 h2 => ⟨Nat.zero_le _, fun p3 h3 => ⟨by show 4 ≤ sizeLine; decide, fun p4 h4 => ?_⟩⟩⟩⟩
      have n1 := same_new (o := HO.tup []) h1
      have n2 := same_new (o := HO.tup []) h2
      have n3 := same_new (o := HO.tup []) h3
      have n4 := same_new (o := HO.tup [.int 0, .ref p1, .ref p2, .ref p3]) h4
      refine q _ p4 ⟨[], [], []⟩ (n1.trans (n2.trans (n3.trans n4))) ⟨⟨0, p1, p2, p3, upd_same, ?_, ?_, ?_⟩, fun p hp => absurd hp List.not_mem_nil, by decide, by decide, by decide⟩
      · exact n4 _ _ (n3 _ _ (n2 _ _ upd_same))
      · exact n4 _ _ (n3 _ _ upd_same)
      · exact n4 _ _ upd_same
    · -- many
      refine ⟨fun σ H' => H' = H ∧ ∃ many : Int, 0 < many ∧ many ≤ 20 ∧ σ = [some (.ref a), some (.int side), some (.int ch), some (.int many), none, none, none, none, none, none, none], ?_, ?_⟩
      · refine ⟨_, rfl, _, _, rfl, rfl, ⟨by decide, by decide⟩, _, _, rfl, rfl, (by show (0 : Int) < 6; decide), rfl, _, rfl, ?_⟩
        refine ite2 (fun _ => ?_) (fun _ => ?_)
        · refine ⟨_, rfl, _, _, rfl, rfl, ⟨by decide, by decide⟩, _, _, rfl, rfl, (by show (0 : Int) < 4; decide), _, _, rfl, rfl, ?_⟩
          have m3 := Int.emod_nonneg (ch / 432) (show (4 : Int) ≠ 0 by decide)
          have m4 := Int.emod_lt_of_pos (ch / 432) (show (0 : Int) < 4 by decide)
          exact ⟨rfl, _, by omega, by omega, rfl⟩
        · exact ⟨rfl, _, by omega, by omega, rfl⟩
      · rintro σ H' ⟨rfl, many, mp, ml, rfl⟩
        -- turn
        refine ⟨_, rfl, _, rfl, _, _, rfl, rfl, a, ns, 2 + side, rfl, hS, by omega, by omega, fun tn tn0 tn1 => ?_⟩
        have t1 := Int.emod_nonneg tn (show (8 : Int) ≠ 0 by decide)
        have t2 := Int.emod_lt_of_pos tn (show (0 : Int) < 8 by decide)
        have t3 := Int.emod_nonneg tn (show (3 : Int) ≠ 0 by decide)
        have t4 : 0 ≤ many / 4 := Int.ediv_nonneg (by omega) (by decide)
        -- tails
        refine ⟨_, rfl, _, _, rfl, rfl, (by show (0 : Int) < 8; decide), _, rfl, _, _, rfl, rfl, (by show (0 : Int) < 3; decide), _, _, rfl, rfl, _, rfl, _, _, rfl, rfl, ⟨by decide, by decide⟩, _, _, rfl, rfl, _, _, rfl, ?_⟩
        have b1 : 0 ≤ (if 1 + tn % 3 + many / 4 < tn % 8 then 1 + tn % 3 + many / 4 else tn % 8) ∧ (if 1 + tn % 3 + many / 4 < tn % 8 then 1 + tn % 3 + many / 4 else tn % 8) < 8 := by
          split <;> omega
        refine ⟨_, rfl, by omega, by omega, fun D hD => ?_⟩
        generalize (if 1 + tn % 3 + many / 4 < tn % 8 then 1 + tn % 3 + many / 4 else tn % 8) = j1 at b1 ⊢
        refine lc_range (lo := 0) (n := j1.toNat) (fun i H2 => Same H' H2 ∧ ∃ ts : List Int, H2 D = some (.lst (ts.map V.int)) ∧ ts.length = i) ⟨same_new hD, [], upd_same, rfl⟩ ?_ ?_
        · rintro i H2 hi ⟨s2, ts, h2, hl⟩
          refine ⟨rfl, _, rfl, _, rfl, _, _, rfl, rfl, _, _, rfl, rfl, ⟨by omega, by omega⟩, _, rfl, _, _, rfl, rfl, mp, _, h2, small1000 (by rw [List.length_map]; omega), same_over hD s2, ts ++ [tn / (0 + (i : Nat) + 7) % many], ?_, ?_⟩
          · rw [upd_same, List.map_append]
            rfl
          · rw [List.length_append, hl]
            rfl
        · rintro H2 ⟨s2, ts, hT, hlT⟩
          -- heads
          refine ⟨_, rfl, _, _, rfl, rfl, ⟨by decide, by decide⟩, _, _, rfl, rfl, (by show (0 : Int) < 8; decide), _, _, rfl, rfl, .inr ⟨_, rfl, ?_⟩⟩
          refine ⟨_, rfl, _, _, rfl, rfl, ⟨by decide, by decide⟩, _, _, rfl, rfl, (by show (0 : Int) < 2; decide), _, _, rfl, rfl, ?_⟩
          have t5 := Int.emod_nonneg (tn / 24) (show (2 : Int) ≠ 0 by decide)
          have t6 := Int.emod_lt_of_pos (tn / 24) (show (0 : Int) < 2 by decide)
          have b2 : 0 ≤ (if decide ((0 : Int) < tn / 3 % 8) = true then (1 : Int) else 0) + tn / 24 % 2 ∧ (if decide ((0 : Int) < tn / 3 % 8) = true then (1 : Int) else 0) + tn / 24 % 2 ≤ 2 := by
            split <;> omega
          refine ⟨_, rfl, by omega, by omega, fun D2 hD2 => ?_⟩
          generalize (if decide ((0 : Int) < tn / 3 % 8) = true then (1 : Int) else 0) + tn / 24 % 2 = j2 at b2 ⊢
          refine lc_range (lo := 0) (n := j2.toNat) (fun i H3 => Same H2 H3 ∧ ∃ hs : List Int, H3 D2 = some (.lst (hs.map V.int)) ∧ hs.length = i) ⟨same_new hD2, [], upd_same, rfl⟩ ?_ ?_
          · rintro i H3 hi ⟨s3, hs, h3, hl⟩
            refine ⟨rfl, _, rfl, _, rfl, _, _, rfl, rfl, _, _, rfl, rfl, ⟨by omega, by omega⟩, _, rfl, _, _, rfl, rfl, mp, _, h3, small1000 (by rw [List.length_map]; omega), same_over hD2 s3, hs ++ [tn / (0 + (i : Nat) + 11) % many], ?_, ?_⟩
            · rw [upd_same, List.map_append]
              rfl
            · rw [List.length_append, hl]
              rfl
          · rintro H3 ⟨s3, hs, hHd, hlH⟩
            -- rules = []
            refine ⟨Nat.zero_le _, fun R hR => ?_⟩
            have hT3 := s3 _ _ hT
            have hS3 : SqL K (upd H3 R (.lst [])) a (ns.map V.int) := ((s2.trans s3).trans (same_new hR)).seq hS
            refine ⟨_, rfl, _, _, rfl, rfl, _, rfl, a, _, rfl, .inl hS3, _, _, rfl, ?_⟩
            have b3 : (if (36 : Int) < ((ns.map V.int).length : Nat) then (36 : Int) else ((ns.map V.int).length : Nat)) ≤ 36 ∧ 0 ≤ (if (36 : Int) < ((ns.map V.int).length : Nat) then (36 : Int) else ((ns.map V.int).length : Nat)) := by
              split <;> omega
            generalize (if (36 : Int) < ((ns.map V.int).length : Nat) then (36 : Int) else ((ns.map V.int).length : Nat)) = m at b3 ⊢
            obtain ⟨r1, r2⟩ := few_turns s0 s1 b3.1
            refine ⟨4 + side, m, 2, (Builtin.Range.rangeSize (4 + side) m 2).toNat, rfl, ⟨by decide, by decide, ?_, (Int.toNat_of_nonneg r1).symm⟩, ?_⟩
            · exact small_two s0 s1 b3.2 b3.1
            have hn : (Builtin.Range.rangeSize (4 + side) m 2).toNat ≤ 16 := by omega
            generalize (Builtin.Range.rangeSize (4 + side) m 2).toNat = n at hn ⊢
            refine for_rangeC (lo := 4 + side) (c := 2) (n := n) (fun i σ H4 => ∃ (ps : List (Addr × Rl)) (y8 y9 y10 : Option V), σ = [some (.ref a), some (.int side), some (.int ch), some (.int many), some (.int tn), some (.ref D), some (.ref D2), some (.ref R), y8, y9, y10] ∧
                Same H3 H4 ∧ H4 R = some (.lst (ps.map fun p => V.ref p.1)) ∧ (∀ p ∈ ps, H4 p.1 = some (.tup p.2.its)) ∧ ps.length = i)
              ⟨[], none, none, none, rfl, same_new hR, upd_same, fun p hp => absurd hp List.not_mem_nil, rfl⟩ ?_ ?_
            · rintro i σ H4 hi ⟨ps, y8, y9, y10, rfl, s4, h4, hps, hl⟩
              have hS4 : SqL K H4 a (ns.map V.int) := ((s2.trans s3).trans s4).seq hS
              refine ⟨_, rfl, _, rfl, a, ns, _, rfl, hS4, by omega, by omega, fun dr dr0 dr1 => ?_⟩
              have d3 := Int.emod_nonneg (ch / 3) (show (3 : Int) ≠ 0 by decide)
              have d4 := Int.emod_lt_of_pos (ch / 3) (show (0 : Int) < 3 by decide)
              refine ⟨_, rfl, a, ns, 0, rfl, hS4, by decide, by decide, fun sd sd0 sd1 => ?_⟩
              refine ⟨_, rfl, _, _, rfl, rfl, ⟨by decide, by decide⟩, _, rfl, _, _, rfl, rfl, ⟨by decide, by decide⟩, _, _, rfl, rfl, (by show (0 : Int) < 3; decide), _, _, rfl, rfl, _, _, rfl, rfl, (by show (0 : Int) < 1 + ch / 3 % 3; omega), ?_⟩
              have d5 := Int.emod_nonneg (dr / 262144) (show (1 + ch / 3 % 3 : Int) ≠ 0 by omega)
              have d6 := Int.emod_lt_of_pos (dr / 262144) (show (0 : Int) < 1 + ch / 3 % 3 by omega)
              refine ⟨sd, _, rfl, sd0, sd1, d5, by omega, fun z hz => ?_⟩
              refine ⟨_, rfl, .inl ⟨rfl, _, SqL.of h4⟩, _, rfl, _, rfl, _, _, rfl, rfl, mp, _, rfl, _, rfl, _, _, rfl, rfl, ⟨by decide, by decide⟩, _, rfl, _, _, rfl, rfl, mp, _, rfl, _, _, rfl, rfl, ⟨by decide, by decide⟩, _, rfl, _, _, rfl, rfl, mp, (by show 4 ≤ sizeLine; decide), fun t ht => ?_⟩
              have nRt : R ≠ t := ne_of_none h4 ht
              refine ⟨R, _, _, rfl, rfl, (by rw [upd_ne nRt]; exact h4), small1000 (by rw [List.length_map]; omega), ?_⟩
              refine ⟨ps ++ [(t, ⟨dr % many, z, dr / 64 % many, dr / 4096 % many⟩)], _, _, _, rfl, same_over hR (s4.trans (same_new ht)), ?_, fun p hp => ?_, ?_⟩
              · rw [upd_same, List.map_append]
                rfl
              · rcases List.mem_append.mp hp with y | y
                · have e := hps p y
                  have nR : p.1 ≠ R := ne_of e h4 (by intro z; cases z)
                  have nt : p.1 ≠ t := ne_of_none e ht
                  rw [upd_ne nR, upd_ne nt]
                  exact e
                · rw [List.mem_singleton.mp y, upd_ne nRt.symm, upd_same]
                  rfl
              · rw [List.length_append, hl]
                rfl
            · rintro σ H4 ⟨ps, y8, y9, y10, rfl, s4, h4, hps, hl⟩
              -- the form
              have hT4 := s4 _ _ hT3
              have hH4 := s4 _ _ hHd
              refine ⟨_, rfl, _, rfl, D2, hs, rfl, SqL.of hH4, by omega, fun sa c hsa hc => ?_⟩
              have k1 := same_new (o := SetO w sa (fun j => decide (j ∈ hs)) c) hsa
              refine ⟨sa, _, c, rfl, upd_same, by omega, fun ms lp up hm hl1 hlp => ?_⟩
              have k2 := same_new (o := HO.lst (ms.map V.int)) hlp
              refine ⟨lp, _, rfl, .inl ⟨SqL.of upd_same, fun th hth => ?_⟩⟩
              have k3 := same_new (o := HO.tup (ms.map V.int)) hth
              have K1 := k1.trans (k2.trans k3)
              refine ⟨_, rfl, D, ts, rfl, SqL.of (K1 _ _ hT4), by omega, fun sb cb hsb hcb => ?_⟩
              have k4 := same_new (o := SetO w sb (fun j => decide (j ∈ ts)) cb) hsb
              refine ⟨sb, _, cb, rfl, upd_same, by omega, fun mt lt up2 hm2 hl2 hlt => ?_⟩
              have k5 := same_new (o := HO.lst (mt.map V.int)) hlt
              refine ⟨lt, _, rfl, .inl ⟨SqL.of upd_same, fun tt htt => ?_⟩⟩
              have k6 := same_new (o := HO.tup (mt.map V.int)) htt
              have K2 := k4.trans (k5.trans k6)
              have hp2 : RlsAt K _ ps := fun p hp => SqT.of (K2 _ _ (K1 _ _ (hps p hp)))
              refine ⟨_, rfl, R, ps, rfl, SqL.of (K2 _ _ (K1 _ _ h4)), hp2, by omega, fun sr hsr => ?_⟩
              have k7 := same_new (o := SetMO P w sr ps) hsr
              have hp3 : RlsAt K _ ps := fun p hp => SqT.of (k7 _ _ (K2 _ _ (K1 _ _ (hps p hp))))
              refine ⟨sr, ps, rfl, upd_same, hp3, by omega, fun L lr hsub hlen hlr => ?_⟩
              have k8 := same_new (o := HO.lst (L.map fun q => V.ref q.1)) hlr
              refine ⟨lr, _, rfl, .inl ⟨SqL.of upd_same, fun tr htr => ?_⟩⟩
              have k9 := same_new (o := HO.tup (L.map fun q => V.ref q.1)) htr
              refine ⟨by show 4 ≤ sizeLine; decide, fun f hf => ?_⟩
              have k10 := same_new (o := HO.tup [.int many, .ref th, .ref tt, .ref tr]) hf
              have K3 := k7.trans (k8.trans (k9.trans k10))
              refine q _ f ⟨ms, mt, L⟩ ((s2.trans (s3.trans s4)).trans (K1.trans (K2.trans K3))) ⟨⟨many, th, tt, tr, upd_same, ?_, ?_, ?_⟩, fun p hp => ?_, ?_, ?_, ?_⟩
              · exact K3 _ _ (K2 _ _ upd_same)
              · exact K3 _ _ upd_same
              · exact k10 _ _ upd_same
              · exact K3 _ _ (K2 _ _ (K1 _ _ (hps p (hsub p hp))))
              · show ms.length ≤ 60
                omega
              · show mt.length ≤ 60
                omega
              · show L.length ≤ 60
                omega
end
end Gv

set_option Elab.async false
set_option linter.all false
set_option maxRecDepth 100000
set_option maxHeartbeats 4000000
namespace Gv
open PySem PySem.Spec PyProof.Rows L2

def spWant (CK CO : Addr) : Sp := fun vs H Q _ => ∃ (f o1 o2 a : Addr) (F : Fm) (vals : List Int), vs = [.ref f, .ref o1, .ref o2, .ref a] ∧ FormAt H f F ∧ InstOf CK H o1 f ∧ InstOf CO H o2 f ∧ H a = some (.tup (vals.map V.int)) ∧ ∀ H', Same H H' → Q (.bl true) H'
def spAsk (CK CO : Addr) : Sp := fun vs H Q _ => ∃ (f o1 o2 wl : Addr) (F : Fm) (ws : List Str), vs = [.ref f, .ref o1, .ref o2, .ref wl] ∧ FormAt H f F ∧ InstOf CK H o1 f ∧ InstOf CO H o2 f ∧ H wl = some (.lst (ws.map V.str)) ∧ Fits ws.reverse 0 ∧ ws.length ≤ 1000 ∧ ∀ H', Same H H' → Q (.bl true) H'

theorem shaped_ints : ∀ vals : List Int, SeqAt.shaped (.list (vals.map PyData.int)) = true := by
  intro vals
  have h1 : ∀ l : List Int, PyData.canLayAll0 (l.map PyData.int) = true := by
    intro l
    induction l with
    | nil => rfl
    | cons x l ih =>
      rw [List.map_cons, PyData.canLayAll0, ih]
      simp [PyData.canLay0]
  unfold SeqAt.shaped
  rw [Bool.and_eq_true]
  refine ⟨?_, ?_⟩
  · rw [PyData.canLay0]
    exact h1 vals
  · rw [decide_eq_true_eq, PyData.depth, PySem.W.depth_ints]
    decide
theorem dpAll_ints {K : PySem.W.Frag} {H : Hp} : ∀ vals : List Int, DpAll K H (vals.map V.int) (vals.map PyData.int)
  | [] => .nil
  | x :: vals => .cons (.int x) (dpAll_ints vals)
theorem eqv_nil (vals : List Int) : PyData.eqv (.list (vals.map PyData.int)) (.list []) = vals.isEmpty := by
  cases vals with
  | nil => rw [PyData.eqv]; rfl
  | cons x l => rw [PyData.eqv, List.map_cons, PyData.eqvAll]; rfl

section
variable {P : Program} {w : World} {K : PySem.W.Frag} {mg : Str → Option Value} {base : Heap} {CM CK CO : Addr}
/-! ### _law_words -/
theorem scWords : FnScope ["_law_script", "_law_first", "_law_last", "_law_seed", "_law_rare", "_law_words_here", "_law_opened", "_law_k", "_law_cell_here"] ["_law_script", "_law_first", "_law_last"] (defScope sWords) := ⟨rfl, rfl, rfl, by decide +kernel, rfl, by decide +kernel, by decide +kernel⟩
theorem ok_words {f fC fT : Addr} {fd fdC fdT : FuncData} (Fn : Fun K "_law_words" "_law_words" sWords f fd) (T : Txt K mg CM CK CO) (FC : Fun K "_law_cell" "_law_cell" sCell fC fdC) (bC : Binds K fdC ["_law_script", "_law_k"] []) (gC : mg "_law_cell" = some (.ref fC))
    (FT : Fun K "_law_tag" "_law_tag" sTag fT fdT) (bT : Binds K fdT ["_law_seed", "_law_v"] []) (gT : mg "_law_tag" = some (.ref fT)) : FnOk P w K mg base CX0 2 f fd ["_law_script", "_law_first", "_law_last"] (spWords K) := by
  have GC : FnOk P w K mg base CX0 1 fC fdC ["_law_script", "_law_k"] (spCell K) := ok_cell FC T
  have GT : FnOk P w K mg base CX0 1 fT fdT ["_law_seed", "_law_v"] spTag := ok_tag FT T
  refine Fn.ok scWords (fun vs H Q E h => ?_) (fun cdv A outer s H vs Q E hr h => ?_)
  · obtain ⟨a, ns, rfl, _⟩ := h
    rfl
  · obtain ⟨a, ns, rfl, hS, q⟩ := h
    refine ⟨_, pss_cons (ps_set (i := 3) scWords.nd rfl (.inl rfl) (pe_call GC hr (by rfl) gC FC.kp bC .nil pass0 (pa_cons (pv 0) (pa_cons pe_int pa_nil)))) <|
      pss_cons (ps_set (i := 4) scWords.nd rfl (.inl rfl) (pe_op op_add pe_int (pe_op op_mod (pe_op op_fdiv (pv 3) pe_int) pe_int))) <|
      pss_cons (ps_set (i := 5) scWords.nd rfl (.inl rfl) (pe_lst pa_nil)) <|
      pss_cons (ps_set (i := 6) scWords.nd rfl (.inl rfl) pe_int) <|
      pss_cons (ps_for PassesOwn.never rfl (pi_range2 (by rfl) T.range (pa_cons (pv 1) (pa_cons (pe_callB (call_min2 rfl) (by rfl) T.min_ (by decide +kernel) (pa_cons (pe_callB call_len_seq (by rfl) T.len PySem.boot_len (pa_cons (pv 0) pa_nil)) (pa_cons (pv 2) pa_nil))) pa_nil)))
          (pg_name (i := 7) scWords.nd rfl (.inl rfl))
        (pss_cons (ps_set (i := 8) scWords.nd rfl (.inl rfl) (pe_call GC hr (by rfl) gC FC.kp bC .nil pass0 (pa_cons (pv 0) (pa_cons (pv 7) pa_nil)))) <|
        pss_one (ps_if (PW.pt (pw_and (pt_cmpR op_gt (pv 6) pe_int (nomark _)) (pw_and1 (PW.pt (pw_or (pt_cmpR op_eq (pe_op op_mod (pv 8) (pv 4)) pe_int (nomark _)) (pw_or1 (pt_cmpR op_gt (pv 6) pe_int (nomark _))))))))
          (pss_cons (ps_expr (pe_bm PySem.F.plainAttrs_list PySem.F.slot_list_append PySem.F.type_list_append mt_append (pv 5) (pa_cons pe_str pa_nil))) <|
            pss_one (ps_set (i := 6) scWords.nd rfl (.inl rfl) (pe_op op_sub (pv 6) pe_int)))
          (pss_cons (ps_expr (pe_bm PySem.F.plainAttrs_list PySem.F.slot_list_append PySem.F.type_list_append mt_append (pv 5)
              (pa_cons (pe_call GT hr (by rfl) gT FT.kp bT .nil pass0 (pa_cons (pv 3) (pa_cons (pe_op op_mod (pe_op op_fdiv (pv 8) pe_int) pe_int) pa_nil))) pa_nil))) <|
            pss_one (ps_set (i := 6) scWords.nd rfl (.inl rfl) (pe_op op_add (pv 6) pe_int)))))) <|
      pss_one (ps_ret (pe_op op_cat (pv 5) (pe_lc (own := [("_law_k", 7)]) (g := gName 7) (by rfl) scWords.nd (pi_range1 (by rfl) T.range (pa_cons (pv 6) pa_nil))
        (blkOk_by (own := [("_law_k", 7)]) (N := ["_law_script", "_law_first", "_law_last", "_law_seed", "_law_rare", "_law_words_here", "_law_opened", "_law_k", "_law_cell_here"]) (sc := defScope sWords) (by decide +kernel)) (fun _ _ _ _ _ => pg_name (i := 7) scWords.nd rfl (Or.inl rfl)) (fun _ _ _ _ _ => pts_nil)
        (fun _ _ _ _ _ => pe_str)))), ?_⟩
    refine ⟨_, rfl, a, ns, 0, rfl, hS, by decide, by decide, fun sd sd0 sd1 => ?_⟩
    have m1 := Int.emod_nonneg (sd / 64) (show (3 : Int) ≠ 0 by decide)
    have m2 := Int.emod_lt_of_pos (sd / 64) (show (0 : Int) < 3 by decide)
    refine ⟨_, rfl, _, _, rfl, rfl, ⟨by decide, by decide⟩, _, _, rfl, rfl, (by show (0 : Int) < 3; decide), _, _, rfl, rfl, ?_⟩
    refine ⟨Nat.zero_le _, fun W hW => ?_⟩
    have hS1 : SqL K (upd H W (.lst [])) a (ns.map V.int) := (same_new hW).seq hS
    refine ⟨_, rfl, _, rfl, a, _, rfl, .inl hS1, _, rfl, _, _, rfl, ?_⟩
    have b3 : (if (63 : Int) < ((ns.map V.int).length : Nat) then (63 : Int) else ((ns.map V.int).length : Nat)) ≤ 63 ∧ 0 ≤ (if (63 : Int) < ((ns.map V.int).length : Nat) then (63 : Int) else ((ns.map V.int).length : Nat)) := by
      split <;> omega
    generalize (if (63 : Int) < ((ns.map V.int).length : Nat) then (63 : Int) else ((ns.map V.int).length : Nat)) = m at b3 ⊢
    refine ⟨3, m, rfl, ⟨by decide, by decide, by omega, by omega⟩, ?_⟩
    refine for_range (lo := 3) (n := (m - 3).toNat) (fun i σ H2 => ∃ (ws : List Str) (o : Nat) (y7 y8 : Option V), σ = [some (.ref a), some (.int 3), some (.int 63), some (.int sd), some (.int (2 + sd / 64 % 3)), some (.ref W), some (.int o), y7, y8] ∧
        Same H H2 ∧ H2 W = some (.lst (ws.map V.str)) ∧ Fits ws.reverse o ∧ ws.length ≤ i ∧ o ≤ i)
      ⟨[], 0, none, none, rfl, same_new hW, upd_same, trivial, Nat.le_refl _, Nat.le_refl _⟩ ?_ ?_
    · rintro i σ H2 hi ⟨ws, o, y7, y8, rfl, s2, h2, hf, hl, ho⟩
      have hS2 := s2.seq hS
      have hi60 : i < 60 := by omega
      refine ⟨_, rfl, _, rfl, a, ns, _, rfl, hS2, by omega, by omega, fun ch ch0 ch1 => ?_⟩
      have hlen : (ws.map V.str).length < sizeLine := small1000 (by rw [List.length_map]; omega)
      have fin1 : 0 < o → ∀ y7 y8 : Option V, ∃ (ws' : List Str) (o' : Nat) (z7 z8 : Option V), ([some (.ref a), some (.int 3), some (.int 63), some (.int sd), some (.int (2 + sd / 64 % 3)), some (.ref W), some (.int ((o : Nat) - 1)), y7, y8] : L2.St) = [some (.ref a), some (.int 3), some (.int 63), some (.int sd), some (.int (2 + sd / 64 % 3)), some (.ref W), some (.int o'), z7, z8] ∧
          Same H (upd H2 W (.lst (ws.map V.str ++ [.str "/"]))) ∧ (upd H2 W (.lst (ws.map V.str ++ [.str "/"]))) W = some (.lst (ws'.map V.str)) ∧ Fits ws'.reverse o' ∧ ws'.length ≤ i + 1 ∧ o' ≤ i + 1 := fun h0 y7 y8 => by
        refine ⟨ws ++ [("/" : Str)], o - 1, y7, y8, ?_, same_over hW s2, ?_, ?_, ?_, by omega⟩
        · rw [show ((o : Nat) : Int) - 1 = ((o - 1 : Nat) : Int) by omega]
        · rw [upd_same, List.map_append]
          rfl
        · rw [List.reverse_append]
          refine .inl ⟨rfl, ?_⟩
          rw [show o - 1 + 1 = o by omega]
          exact hf
        · rw [List.length_append]
          exact Nat.succ_le_succ hl
      have fin2 : ∀ (z : Str), z ≠ "/" → ∀ y7 y8 : Option V, ∃ (ws' : List Str) (o' : Nat) (z7 z8 : Option V), ([some (.ref a), some (.int 3), some (.int 63), some (.int sd), some (.int (2 + sd / 64 % 3)), some (.ref W), some (.int ((o : Nat) + 1)), y7, y8] : L2.St) = [some (.ref a), some (.int 3), some (.int 63), some (.int sd), some (.int (2 + sd / 64 % 3)), some (.ref W), some (.int o'), z7, z8] ∧
          Same H (upd H2 W (.lst (ws.map V.str ++ [.str z]))) ∧ (upd H2 W (.lst (ws.map V.str ++ [.str z]))) W = some (.lst (ws'.map V.str)) ∧ Fits ws'.reverse o' ∧ ws'.length ≤ i + 1 ∧ o' ≤ i + 1 := fun z hz y7 y8 => by
        refine ⟨ws ++ [z], o + 1, y7, y8, rfl, same_over hW s2, ?_, ?_, ?_, by omega⟩
        · rw [upd_same, List.map_append]
          rfl
        · rw [List.reverse_append]
          exact .inr ⟨hz, o, rfl, hf⟩
        · rw [List.length_append]
          exact Nat.succ_le_succ hl
      have d0 : 0 ≤ ch / 12 := Int.ediv_nonneg ch0 (by decide)
      have d1 := Int.emod_nonneg (ch / 12) (show (3 : Int) ≠ 0 by decide)
      have d2 := Int.emod_lt_of_pos (ch / 12) (show (0 : Int) < 3 by decide)
      refine ⟨_, rfl, _, _, rfl, rfl, _, rfl, ?_⟩
      refine ite2 (fun c0 => ?_) (fun _ => iteF ?_)
      · have h0 : 0 < o := by
          have z : (0 : Int) < (o : Nat) := of_decide_eq_true c0
          omega
        refine ⟨_, rfl, _, rfl, _, _, rfl, rfl, (by show (0 : Int) < 2 + sd / 64 % 3; omega), rfl, _, rfl, ?_⟩
        refine ite2 (fun _ => iteT ?_) (fun _ => ?_)
        · exact ⟨_, rfl, .inl ⟨rfl, _, SqL.of h2⟩, W, _, _, rfl, rfl, h2, hlen, _, rfl, _, _, rfl, rfl, fin1 h0 _ _⟩
        · refine ⟨_, rfl, _, _, rfl, rfl, _, rfl, ?_⟩
          refine ite2 (fun _ => ?_) (fun _ => ?_)
          · exact ⟨_, rfl, .inl ⟨rfl, _, SqL.of h2⟩, W, _, _, rfl, rfl, h2, hlen, _, rfl, _, _, rfl, rfl, fin1 h0 _ _⟩
          · refine ⟨_, rfl, .inl ⟨rfl, _, SqL.of h2⟩, _, rfl, _, rfl, _, _, rfl, rfl, ⟨by decide, by decide⟩, _, _, rfl, rfl, (by show (0 : Int) < 3; decide), sd, _, rfl, sd0, sd1, d1, by omega, fun z hz => ?_⟩
            exact ⟨W, _, _, rfl, rfl, h2, hlen, _, rfl, _, _, rfl, rfl, fin2 z hz _ _⟩
      · refine ⟨_, rfl, .inl ⟨rfl, _, SqL.of h2⟩, _, rfl, _, rfl, _, _, rfl, rfl, ⟨by decide, by decide⟩, _, _, rfl, rfl, (by show (0 : Int) < 3; decide), sd, _, rfl, sd0, sd1, d1, by omega, fun z hz => ?_⟩
        exact ⟨W, _, _, rfl, rfl, h2, hlen, _, rfl, _, _, rfl, rfl, fin2 z hz _ _⟩
    · rintro σ H2 ⟨ws, o, y7, y8, rfl, s2, h2, hf, hl, ho⟩
      have ho60 : o ≤ 60 := by omega
      refine ⟨_, rfl, _, rfl, o, rfl, by omega, by omega, fun D hD => ?_⟩
      refine lc_range (lo := 0) (n := ((o : Nat) : Int).toNat) (fun i H3 => Same H2 H3 ∧ H3 D = some (.lst ((List.replicate i ("/" : Str)).map V.str))) ⟨same_new hD, upd_same⟩ ?_ ?_
      · rintro i H3 hi ⟨s3, h3⟩
        refine ⟨rfl, _, h3, small1000 (by rw [List.length_map, List.length_replicate]; omega), same_over hD s3, ?_⟩
        rw [upd_same, List.replicate_succ', List.map_append]
        rfl
      · rintro H3 ⟨s3, h3⟩
        rw [Int.toNat_natCast] at h3
        refine ⟨W, D, _, _, rfl, rfl, s3 _ _ h2, h3, ?_, fun p hp => ?_⟩
        · rw [List.length_map, List.length_map, List.length_replicate, sizeLine_eq]
          omega
        · refine q _ p (ws ++ List.replicate o ("/" : Str)) ((s2.trans s3).trans (same_new hp)) ?_ ?_ ?_
          · rw [upd_same, List.map_append]
          · rw [List.reverse_append, List.reverse_replicate]
            exact fits_ends o 0 _ (by rw [Nat.zero_add]; exact hf)
          · rw [List.length_append, List.length_replicate]
            omega

/-! ### _law_wanted -/
theorem scWant : FnScope ["_law_one", "_law_plain", "_law_turned", "_law_value", "_law_good", "_law_first", "_law_second", "_law_kind"] ["_law_one", "_law_plain", "_law_turned", "_law_value"] (defScope sWant) := ⟨rfl, rfl, rfl, by decide +kernel, rfl, by decide +kernel, by decide +kernel⟩
theorem ok_want {f fG fO : Addr} {fd fdG fdO : FuncData} {mc : Value} (Fn : Fun K "_law_wanted" "_law_wanted" sWant f fd) (T : Txt K mg CM CK CO) (FG : Fun K "good" "Kinds.good" sGood fG fdG) (bG : Binds K fdG ["self", "value"] []) (mG : Meth K CK "good" fG)
    (FO : Fun K "good" "Others.good" sGoodO fO fdO) (bO : Binds K fdO ["self", "value"] []) (mO : Meth K CO "good" fO) (r : ClX.CRead K CK mc) (c : ClX.CVal K CK mc "good" (.ref fG) (.ref fG)) :
    FnOk P w K mg base CX0 3 f fd ["_law_one", "_law_plain", "_law_turned", "_law_value"] (spWant CK CO) := by
  have GG : FnOk P w K mg base CX0 1 fG fdG ["self", "value"] (spGood fun c => c = CK ∨ c = CO) := ok_good FG T
  have GO : FnOk P w K mg base CX0 2 fO fdO ["self", "value"] (spGoodO CO) := ok_goodO FO T FG bG r c
  refine Fn.ok scWant (fun vs H Q E h => ?_) (fun cdv A outer s H vs Q E hr h => ?_)
  · obtain ⟨f, o1, o2, a, F, vals, rfl, _⟩ := h
    rfl
  · obtain ⟨f, o1, o2, a, F, vals, rfl, fm, i1, i2, hA, q⟩ := h
    have hr1 : Room 1 _ := hr.mono (by decide)
    obtain ⟨many, ah, aT, ar, f1, f2, f3, f4⟩ := fm.ex
    refine ⟨_, pss_cons (ps_set (i := 4) scWant.nd rfl (.inl rfl) (pe_cmpR (op_neD hr.units) (pe_lc (own := [("_law_kind", 7)]) (g := gName 7) (by rfl) scWant.nd (pi_tup (pe_ix ix_tup (pv 0) pe_int (fun _ _ => rfl)))
        (blkOk_by (own := [("_law_kind", 7)]) (N := ["_law_one", "_law_plain", "_law_turned", "_law_value", "_law_good", "_law_first", "_law_second", "_law_kind"]) (sc := defScope sWant) (by decide +kernel)) (fun _ _ _ _ _ => pg_name (i := 7) scWant.nd rfl (Or.inl rfl))
        (fun _ _ _ _ _ => pts_one (pt_cmpR (show OpR _ (compareOp .In) (rIn K false) from op_in_seq) (pv 7) (pv 3) rfl)) (fun _ _ _ _ _ => pv 7)) (pe_lst pa_nil) (nomark _))) <|
      pss_cons (ps_set (i := 5) scWant.nd rfl (.inl rfl) (pe_meth (pv 1) (T.cl CK (.inl rfl)) mG GG hr1 bG .nil pass0 (pa_cons (pv 3) pa_nil))) <|
      pss_cons (ps_set (i := 6) scWant.nd rfl (.inl rfl) (pe_meth (pv 2) (T.cl CO (.inr rfl)) mO GO hr bO .nil pass0 (pa_cons (pv 3) pa_nil))) <|
      pss_one (ps_ret (pe_and (pe_callB call_isi (by rfl) T.isi (by decide +kernel) (pa_cons (pv 5) (pa_cons (pe_bltn (v := .ty "bool") (by rfl) T.bool_ (by decide +kernel) rfl) pa_nil)))
        (pe_and (pe_callB call_isi (by rfl) T.isi (by decide +kernel) (pa_cons (pv 6) (pa_cons (pe_bltn (v := .ty "bool") (by rfl) T.bool_ (by decide +kernel) rfl) pa_nil)))
        (pe_and (pe_cmpR op_eq (pv 5) (pv 4) (nomark _)) (pe_one (pe_cmpR op_ne (pv 6) (pv 4) (nomark _))))))), ?_⟩
    refine ⟨_, rfl, f, _, _, _, rfl, rfl, SqT.of f1, rfl, ah, rfl, ⟨_, SqT.of f2⟩, fun D hD => ?_⟩
    refine lc_tup (K := K) (a := ah) (xs := F.heads.map V.int) (fun i H2 => Same H H2 ∧ H2 D = some (.lst (((F.heads.take i).filter fun k => decide (k ∈ vals)).map V.int))) ⟨same_new hD, upd_same⟩ (fun i H2 _ h2 => SqT.of (h2.1 _ _ f2)) ?_ ?_
    · rintro i y H2 hi ⟨s2, h2⟩
      rw [List.getElem?_map] at hi
      obtain ⟨k, hk, rfl⟩ := Option.map_eq_some_iff.mp hi
      have hi60 : i < 60 := Nat.lt_of_lt_of_le (List.getElem?_eq_some_iff.mp hk).1 fm.fewH
      have tk : F.heads.take (i + 1) = F.heads.take i ++ [k] := by rw [List.take_add_one, hk]; rfl
      refine ⟨rfl, _, rfl, _, rfl, a, _, rfl, .inr (SqT.of (s2 _ _ hA)), rfl, flat_ints _, _, rfl, ?_⟩
      rw [if_neg Bool.false_ne_true, inV_int]
      refine ite2 (fun c1 => ?_) (fun c1 => ?_)
      · refine ⟨_, rfl, _, h2, small1000 ?_, same_over hD s2, ?_⟩
        · rw [List.length_map]
          exact Nat.le_trans (List.length_filter_le _ _) (Nat.le_trans (List.length_take_le _ _) (by omega))
        · rw [upd_same, tk, List.filter_append, List.map_append]
          simp [of_decide_eq_true c1]
      · refine ⟨s2, ?_⟩
        have c2 : ¬ k ∈ vals := fun z => c1 (decide_eq_true z)
        rw [h2, tk, List.filter_append]
        simp [c2]
    · rintro H2 ⟨s2, h2⟩
      rw [List.length_map, List.take_length] at h2
      refine ⟨Nat.zero_le _, fun e he => ?_⟩
      have k1 := same_new (o := HO.lst []) he
      have S1 := s2.trans k1
      refine ⟨_, _, .lst (SqL.of (k1 _ _ h2)) (dpAll_ints _), .lst (SqL.of upd_same) .nil, shaped_ints _, by decide +kernel, ?_⟩
      rw [eqv_nil]
      show _
      obtain ⟨dx1, g1⟩ := i1.keep S1
      refine ⟨_, rfl, o1, dx1, _, rfl, g1, held_no f (by decide +kernel), _, rfl, CK, o1, f, a, F, vals, .inl rfl, rfl, ⟨dx1, g1⟩, fm.keep S1, S1 _ _ hA, fun H3 s3 => ?_⟩
      have S2 := S1.trans s3
      obtain ⟨dx2, g2⟩ := i2.keep S2
      refine ⟨_, rfl, o2, dx2, _, rfl, g2, held_no f (by decide +kernel), _, rfl, o2, f, a, F, vals, rfl, ⟨dx2, g2⟩, fm.keep S2, S2 _ _ hA, fun H4 s4 => ?_⟩
      refine ⟨_, rfl, .bl _, .ty "bool", .type "bool", .type "bool", true, rfl, .ty _, .base (.bl _), kit_ty (by decide +kernel), true, rfl, ?_⟩
      refine iteT ⟨_, rfl, .bl _, .ty "bool", .type "bool", .type "bool", true, rfl, .ty _, .base (.bl _), kit_ty (by decide +kernel), true, rfl, ?_⟩
      refine iteT ⟨_, rfl, _, rfl, rfl, _, rfl, ?_⟩
      have e1 : decide (V.bl (goodB F vals) = V.bl (!(F.heads.filter fun k => decide (k ∈ vals)).isEmpty)) = true := decide_eq_true rfl
      rw [e1]
      refine iteT ⟨_, rfl, _, rfl, rfl, ?_⟩
      have e2 : (!decide (V.bl (!goodB F vals) = V.bl (!(F.heads.filter fun k => decide (k ∈ vals)).isEmpty))) = true := by
        have z : ¬ (V.bl (!goodB F vals) = V.bl (!(F.heads.filter fun k => decide (k ∈ vals)).isEmpty)) := by
          intro z
          injection z with z
          change (!goodB F vals) = goodB F vals at z
          cases y : goodB F vals <;> rw [y] at z <;> cases z
        rw [decide_eq_false z]
        rfl
      show Q (V.bl (!decide (V.bl (!goodB F vals) = V.bl (!(F.heads.filter fun k => decide (k ∈ vals)).isEmpty)))) H4
      rw [e2]
      exact q H4 (S2.trans s4)
end
end Gv

set_option Elab.async false
set_option linter.all false
set_option maxRecDepth 100000
set_option maxHeartbeats 4000000
namespace Gv
open PySem PySem.Spec PyProof.Rows L2

theorem rev_at {ws : List Str} {i : Nat} {x : V} (hi : i < (ws.map V.str).length) (h : (ws.map V.str)[(ws.map V.str).length - 1 - i]? = some x) : ∃ z, x = .str z ∧ ws.reverse.drop i = z :: ws.reverse.drop (i + 1) := by
  rw [List.length_map] at hi h
  rw [List.getElem?_map] at h
  obtain ⟨z, hz, e⟩ := Option.map_eq_some_iff.mp h
  refine ⟨z, e.symm, ?_⟩
  have hr : i < ws.reverse.length := by rw [List.length_reverse]; exact hi
  have e2 : ws.reverse[i]? = some z := by rw [List.getElem?_reverse hi]; exact hz
  rw [List.drop_eq_getElem_cons hr]
  have e3 : ws.reverse[i] = z := by
    rw [List.getElem?_eq_getElem hr] at e2
    exact Option.some.inj e2
  rw [e3]
theorem snoc_of {α : Type} : ∀ (xs : List α), xs.length ≠ 0 → ∃ ys y, xs = ys ++ [y]
  | [], h => absurd rfl h
  | [x], _ => ⟨[], x, rfl⟩
  | x :: y :: r, _ => by
    obtain ⟨ys, z, e⟩ := snoc_of (y :: r) (by simp)
    exact ⟨x :: ys, z, by rw [e]; rfl⟩

section
variable {P : Program} {w : World} {K : PySem.W.Frag} {mg : Str → Option Value} {base : Heap} {CM CK CO : Addr}
/-! ### _law_asked -/
/-- the addresses of the defs that are called -/
structure Defs (K : PySem.W.Frag) (mg : Str → Option Value) (CM CK CO : Addr) : Prop where
  txt : Txt K mg CM CK CO
  ahead : ∃ f fd, Fun K "kinds_ahead" "kinds_ahead" sAhead f fd ∧ Binds K fd ["one", "tag", "inner", "rest"] [] ∧ mg "kinds_ahead" = some (.ref f)
  init : ∃ f fd, Fun K "__init__" "Kinds.__init__" sInit f fd ∧ Binds K fd ["self", "one"] [] ∧ Mk K CK f ∧ Mk K CO f
  nothing : ∃ f fd, Fun K "nothing" "Kinds.nothing" sNothing f fd ∧ Binds K fd ["self"] [] ∧ Meth K CK "nothing" f ∧ Meth K CO "nothing" f
  above : ∃ f fd, Fun K "above" "Kinds.above" sAbove f fd ∧ Binds K fd ["self", "tag", "inner", "rest"] [] ∧ Meth K CK "above" f ∧ Meth K CO "above" f
  good : ∃ f fd mc, Fun K "good" "Kinds.good" sGood f fd ∧ Binds K fd ["self", "value"] [] ∧ Meth K CK "good" f ∧ ClX.CRead K CK mc ∧ ClX.CVal K CK mc "good" (.ref f) (.ref f)
  goodO : ∃ f fd, Fun K "good" "Others.good" sGoodO f fd ∧ Binds K fd ["self", "value"] [] ∧ Meth K CO "good" f
  cell : ∃ f fd, Fun K "_law_cell" "_law_cell" sCell f fd ∧ Binds K fd ["_law_script", "_law_k"] [] ∧ mg "_law_cell" = some (.ref f)
  tag : ∃ f fd, Fun K "_law_tag" "_law_tag" sTag f fd ∧ Binds K fd ["_law_seed", "_law_v"] [] ∧ mg "_law_tag" = some (.ref f)
  shape : ∃ f fd, Fun K "_law_shape" "_law_shape" sShape f fd ∧ Binds K fd ["_law_script", "_law_side"] [] ∧ mg "_law_shape" = some (.ref f)
  words : ∃ f fd, Fun K "_law_words" "_law_words" sWords f fd ∧ Binds K fd ["_law_script", "_law_first", "_law_last"] [] ∧ mg "_law_words" = some (.ref f)
  due : ∃ f fd, Fun K "_law_above" "_law_above" sDue f fd ∧ Binds K fd ["_law_other", "_law_word", "_law_inner", "_law_rest"] [] ∧ mg "_law_above" = some (.ref f)
  nums : ∃ f fd, Fun K "_law_numbers" "_law_numbers" sNums f fd ∧ Binds K fd ["_law_found", "_law_due"] [] ∧ mg "_law_numbers" = some (.ref f)
  want : ∃ f fd, Fun K "_law_wanted" "_law_wanted" sWant f fd ∧ Binds K fd ["_law_one", "_law_plain", "_law_turned", "_law_value"] [] ∧ mg "_law_wanted" = some (.ref f)
  ask : ∃ f fd, Fun K "_law_asked" "_law_asked" sAsk f fd ∧ Binds K fd ["_law_one", "_law_plain", "_law_turned", "_law_words_here"] [] ∧ mg "_law_asked" = some (.ref f)
  isC : ∀ c, c = CK ∨ c = CO → PySem.W.findIn K (.ref c) "__class__" = some (some (.builtin "object.__class__")) ∧ PySem.W.mroIn K c (.type "object") = some true
  isG : PySem.W.specialIn K (.builtin "object.__class__") "__get__" = some (some (.builtin "getset_descriptor.__get__"))
  isT : PySem.W.takesIn K (.builtin "object.__class__") = some true
  kKM : PySem.W.kitOne K (.ref CK) (.ref CM) = some true
  kOK : PySem.W.kitOne K (.ref CO) (.ref CK) = some true
  kKO : PySem.W.kitOne K (.ref CK) (.ref CO) = some false

theorem scAsk : FnScope ["_law_one", "_law_plain", "_law_turned", "_law_words_here", "_law_now", "_law_pile", "_law_word", "_law_behind", "_law_due"] ["_law_one", "_law_plain", "_law_turned", "_law_words_here"] (defScope sAsk) := ⟨rfl, rfl, rfl, by decide +kernel, rfl, by decide +kernel, by decide +kernel⟩
theorem ok_ask {f : Addr} {fd : FuncData} (Fn : Fun K "_law_asked" "_law_asked" sAsk f fd) (T : Defs K mg CM CK CO) : FnOk P w K mg base CX0 4 f fd ["_law_one", "_law_plain", "_law_turned", "_law_words_here"] (spAsk CK CO) := by
  obtain ⟨fA, fdA, FA, bA, gA⟩ := T.ahead
  obtain ⟨fN, fdN, FN, bN, mN, mN'⟩ := T.nothing
  obtain ⟨fB, fdB, FB, bB, mB, mB'⟩ := T.above
  obtain ⟨fG, fdG, mc, FG, bG, mG, rc, cv⟩ := T.good
  obtain ⟨fO, fdO, FO, bO, mO⟩ := T.goodO
  obtain ⟨fD, fdD, FD, bD, gD⟩ := T.due
  obtain ⟨fU, fdU, FU, bU, gU⟩ := T.nums
  obtain ⟨fW, fdW, FW, bW, gW⟩ := T.want
  have T := T.txt
  have GN : FnOk P w K mg base CX0 1 fN fdN ["self"] (spNothing fun c => c = CK ∨ c = CO) := ok_nothing FN T
  have GB : FnOk P w K mg base CX0 2 fB fdB ["self", "tag", "inner", "rest"] (spAbove fun c => c = CK ∨ c = CO) := ok_above FB T FA bA gA
  have GD : FnOk P w K mg base CX0 1 fD fdD ["_law_other", "_law_word", "_law_inner", "_law_rest"] spDue := ok_due FD T
  have GU : FnOk P w K mg base CX0 1 fU fdU ["_law_found", "_law_due"] spNums := ok_nums FU T
  have GW : FnOk P w K mg base CX0 3 fW fdW ["_law_one", "_law_plain", "_law_turned", "_law_value"] (spWant CK CO) := ok_want FW T FG bG mG FO bO mO rc cv
  refine Fn.ok scAsk (fun vs H Q E h => ?_) (fun cdv A outer s H vs Q E hr h => ?_)
  · obtain ⟨f, o1, o2, wl, F, ws, rfl, _⟩ := h
    rfl
  · obtain ⟨f, o1, o2, wl, F, ws, rfl, fm, i1, i2, hwl, hfit, hwn, q⟩ := h
    have hr1 : Room 1 _ := hr.mono (by decide)
    have hr2 : Room 2 _ := hr.mono (by decide)
    obtain ⟨many, ah, aT, ar, f1, f2, f3, f4⟩ := fm.ex
    refine ⟨_, pss_cons (ps_if (PW.pt (pw_or (pt_not (pt_val (pe_call GU hr1 (by rfl) gU FU.kp bU .nil pass0 (pa_cons (pe_meth0 (pv 1) (T.cl CK (.inl rfl)) mN GN hr1 bN .nil pass0) (pa_cons (pe_ix ix_tup (pv 0) pe_int (fun _ _ => rfl)) pa_nil)))))
        (pw_or1 (pt_not (pt_val (pe_call GU hr1 (by rfl) gU FU.kp bU .nil pass0 (pa_cons (pe_meth0 (pv 2) (T.cl CO (.inr rfl)) mN' GN hr1 bN .nil pass0) (pa_cons (pe_ix ix_tup (pv 0) pe_int (fun _ _ => rfl)) pa_nil)))))))) (pss_one (ps_ret pe_bl)) pss_nil) <|
      pss_cons (ps_set (i := 4) scAsk.nd rfl (.inl rfl) (pe_ix ix_tup (pv 0) pe_int (fun _ _ => rfl))) <|
      pss_cons (ps_set (i := 5) scAsk.nd rfl (.inl rfl) (pe_lst pa_nil)) <|
      pss_cons (ps_for PassesOwn.never rfl (pi_reversed (by rfl) T.rev (pa_cons (pv 3) pa_nil)) (pg_name (i := 6) scAsk.nd rfl (.inl rfl))
        (pss_cons (ps_if (pt_not (pt_val (pe_call GW hr (by rfl) gW FW.kp bW .nil pass0 (pa_cons (pv 0) (pa_cons (pv 1) (pa_cons (pv 2) (pa_cons (pv 4) pa_nil))))))) (pss_one (ps_ret pe_bl)) pss_nil) <|
        pss_one (ps_if (pt_cmpR op_eq (pv 6) pe_str (nomark _))
          (pss_cons (ps_expr (pe_bm PySem.F.plainAttrs_list PySem.F.slot_list_append PySem.F.type_list_append mt_append (pv 5) (pa_cons (pv 4) pa_nil))) <|
            pss_one (ps_set (i := 4) scAsk.nd rfl (.inl rfl) (pe_ix ix_tup (pv 0) pe_int (fun _ _ => rfl))))
          (pss_cons (ps_set (i := 7) scAsk.nd rfl (.inl rfl) (pe_bm0 PySem.F.plainAttrs_list PySem.F.slot_list_pop PySem.F.type_list_pop mt_pop (pv 5))) <|
            pss_cons (ps_set (i := 8) scAsk.nd rfl (.inl rfl) (pe_call GD hr1 (by rfl) gD FD.kp bD .nil pass0 (pa_cons (pv 0) (pa_cons (pv 6) (pa_cons (pv 4) (pa_cons (pv 7) pa_nil)))))) <|
            pss_cons (ps_if (pt_not (pt_val (pe_call GU hr1 (by rfl) gU FU.kp bU .nil pass0 (pa_cons (pe_meth (pv 1) (T.cl CK (.inl rfl)) mB GB hr2 bB .nil pass0 (pa_cons (pv 6) (pa_cons (pv 4) (pa_cons (pv 7) pa_nil)))) (pa_cons (pv 8) pa_nil))))) (pss_one (ps_ret pe_bl)) pss_nil) <|
            pss_cons (ps_if (pt_not (pt_val (pe_call GU hr1 (by rfl) gU FU.kp bU .nil pass0 (pa_cons (pe_meth (pv 2) (T.cl CO (.inr rfl)) mB' GB hr2 bB .nil pass0 (pa_cons (pv 6) (pa_cons (pv 4) (pa_cons (pv 7) pa_nil)))) (pa_cons (pv 8) pa_nil))))) (pss_one (ps_ret pe_bl)) pss_nil) <|
            pss_one (ps_set (i := 4) scAsk.nd rfl (.inl rfl) (pv 8)))))) <|
      pss_one (ps_ret (pe_call GW hr (by rfl) gW FW.kp bW .nil pass0 (pa_cons (pv 0) (pa_cons (pv 1) (pa_cons (pv 2) (pa_cons (pv 4) pa_nil)))))), ?_⟩
    obtain ⟨dx1, g1⟩ := i1
    obtain ⟨dx2, g2⟩ := i2
    -- nothing, by both
    refine ⟨_, rfl, o1, dx1, _, rfl, g1, held_no f (by decide +kernel), CK, o1, f, F, .inl rfl, rfl, ⟨dx1, g1⟩, fm, fun p hp => ?_⟩
    refine ⟨_, rfl, f, _, _, _, rfl, rfl, SqT.of f1, rfl, p, aT, F.tails, rfl, hp, f3, fm.fewT, true, rfl, ?_⟩
    refine iteF ⟨_, rfl, o2, dx2, _, rfl, g2, held_no f (by decide +kernel), CO, o2, f, F, .inr rfl, rfl, ⟨dx2, g2⟩, fm, fun p2 hp2 => ?_⟩
    refine ⟨_, rfl, f, _, _, _, rfl, rfl, SqT.of f1, rfl, p2, aT, F.tails, rfl, hp2, f3, fm.fewT, true, rfl, ?_⟩
    refine iteF ?_
    -- now, pile
    refine ⟨_, rfl, f, _, _, _, rfl, rfl, SqT.of f1, rfl, ?_⟩
    refine ⟨Nat.zero_le _, fun pl hpl => ?_⟩
    refine ⟨_, rfl, wl, _, rfl, SqL.of (same_new hpl _ _ hwl), ?_⟩
    refine RT.for_Itv (K := K) (a := wl) (xs := ws.map V.str) (fun i σ H2 => ∃ (now : Addr) (vals : List Int) (xs : List (Addr × List Int)) (y6 y7 y8 : Option V), σ = [some (.ref f), some (.ref o1), some (.ref o2), some (.ref wl), some (.ref now), some (.ref pl), y6, y7, y8] ∧
        Same H H2 ∧ H2 now = some (.tup (vals.map V.int)) ∧ H2 pl = some (.lst (xs.map fun p => V.ref p.1)) ∧ (∀ p ∈ xs, H2 p.1 = some (.tup (p.2.map V.int))) ∧ Fits (ws.reverse.drop i) xs.length ∧ xs.length ≤ i)
      ⟨aT, F.tails, [], none, none, none, rfl, same_new hpl, same_new hpl _ _ f3, upd_same, fun p hp => absurd hp List.not_mem_nil, hfit, Nat.le_refl _⟩ (fun i σ H2 ⟨_, _, _, _, _, _, _, s2, _⟩ => SqL.of (s2 _ _ hwl)) ?_ ?_
    · rintro i x σ H2 hi hx ⟨now, vals, xs, y6, y7, y8, rfl, s2, hnow, hpile, hxs, hf, hl⟩
      obtain ⟨z, rfl, ez⟩ := rev_at hi hx
      rw [ez] at hf
      have hi1000 : i < 1000 := by rw [List.length_map] at hi; omega
      refine ⟨_, rfl, _, rfl, _, rfl, _, rfl, f, o1, o2, now, F, vals, rfl, fm.keep s2, ⟨dx1, s2 _ _ g1⟩, ⟨dx2, s2 _ _ g2⟩, hnow, fun H3 s3 => ⟨true, rfl, ?_⟩⟩
      refine iteF ?_
      have S3 := s2.trans s3
      have hp3 := s3 _ _ hpile
      refine ⟨_, rfl, rfl, _, rfl, ?_⟩
      refine ite2 (fun c => ?_) (fun c => ?_)
      · -- an end
        have ezs : z = "/" := by simpa using c
        have hf2 : Fits (ws.reverse.drop (i + 1)) (xs.length + 1) := by
          rcases hf with ⟨_, h⟩ | ⟨h, _⟩
          · exact h
          · exact absurd ezs h
        have npl : now ≠ pl := ne_of (s3 _ _ hnow) hp3 (by intro y; cases y)
        refine ⟨_, rfl, .inl ⟨rfl, _, SqL.of hp3⟩, _, rfl, pl, _, _, rfl, rfl, hp3, small1000 (by rw [List.length_map]; omega), ?_⟩
        have S4 : Same H (upd H3 pl (.lst (xs.map (fun p => V.ref p.1) ++ [.ref now]))) := same_over hpl S3
        refine ⟨_, rfl, f, _, _, _, rfl, rfl, SqT.of (S4 _ _ f1), rfl, ?_⟩
        refine ⟨aT, F.tails, xs ++ [(now, vals)], _, _, _, rfl, S4, S4 _ _ f3, ?_, fun p hp => ?_, ?_, ?_⟩
        · rw [upd_same, List.map_append]
          rfl
        · rcases List.mem_append.mp hp with y | y
          · have e := s3 _ _ (hxs p y)
            rw [upd_ne (ne_of e hp3 (by intro y; cases y))]
            exact e
          · rw [List.mem_singleton.mp y, upd_ne npl]
            exact s3 _ _ hnow
        · rw [List.length_append]
          exact hf2
        · rw [List.length_append]
          exact Nat.succ_le_succ hl
      · -- a tag
        have hzs : z ≠ "/" := fun y => c (by rw [y]; simp)
        obtain ⟨m, em, hf2⟩ : ∃ m, xs.length = m + 1 ∧ Fits (ws.reverse.drop (i + 1)) m := by
          rcases hf with ⟨h, _⟩ | ⟨_, h⟩
          · exact absurd h hzs
          · exact h
        obtain ⟨ys, y, rfl⟩ := snoc_of xs (by omega)
        have hlen : ys.length = m := by
          rw [List.length_append, List.length_singleton] at em
          omega
        have emap : (ys ++ [y]).map (fun p => V.ref p.1) = ys.map (fun p => V.ref p.1) ++ [V.ref y.1] := by rw [List.map_append]; rfl
        rw [emap] at hp3
        refine ⟨_, rfl, .inl ⟨rfl, _, SqL.of hp3⟩, pl, _, V.ref y.1, rfl, rfl, hp3, (by rw [List.length_append, List.length_singleton, Nat.add_sub_cancel, List.getElem?_append_right (Nat.le_refl _)]; simp), ?_⟩
        rw [List.dropLast_concat]
        have S4 : Same H (upd H3 pl (.lst (ys.map fun p => V.ref p.1))) := same_over hpl S3
        have keep4 : ∀ b (l : List Int), H3 b = some (.tup (l.map V.int)) → (upd H3 pl (.lst (ys.map fun p => V.ref p.1))) b = some (.tup (l.map V.int)) := fun b l e => by
          rw [upd_ne (ne_of e hp3 (by intro y; cases y))]
          exact e
        have n4 := keep4 _ _ (s3 _ _ hnow)
        have b4 := keep4 _ _ (s3 _ _ (hxs y (by simp)))
        have ys4 : ∀ p ∈ ys, (upd H3 pl (.lst (ys.map fun p => V.ref p.1))) p.1 = some (.tup (p.2.map V.int)) := fun p hp => keep4 _ _ (s3 _ _ (hxs p (by simp [hp])))
        have p4 : (upd H3 pl (.lst (ys.map fun p => V.ref p.1))) pl = some (.lst (ys.map fun p => V.ref p.1)) := upd_same
        generalize upd H3 pl (.lst (ys.map fun p => V.ref p.1)) = H4 at S4 n4 b4 ys4 p4 ⊢
        refine ⟨_, rfl, _, rfl, _, rfl, _, rfl, f, now, y.1, z, F, vals, y.2, rfl, fm.keep S4, n4, b4, fun H5 dq ns s5 h5 due => ?_⟩
        have S5 := S4.trans s5
        refine ⟨_, rfl, o1, dx1, _, rfl, S5 _ _ g1, held_no f (by decide +kernel), _, rfl, _, rfl, _, rfl, CK, o1, f, now, y.1, z, F, vals, y.2, .inl rfl, rfl, ⟨dx1, S5 _ _ g1⟩, fm.keep S5, s5 _ _ n4, s5 _ _ b4, fun H6 p6 n6 s6 h6 due6 => ?_⟩
        have e6 := due6.same due
        subst e6
        refine ⟨_, rfl, p6, dq, n6, rfl, h6, s6 _ _ h5, due.few, true, rfl, ?_⟩
        refine iteF ?_
        have S6 := S5.trans s6
        have s46 := s5.trans s6
        refine ⟨_, rfl, o2, dx2, _, rfl, S6 _ _ g2, held_no f (by decide +kernel), _, rfl, _, rfl, _, rfl, CO, o2, f, now, y.1, z, F, vals, y.2, .inr rfl, rfl, ⟨dx2, S6 _ _ g2⟩, fm.keep S6, s46 _ _ n4, s46 _ _ b4, fun H7 p7 n7 s7 h7 due7 => ?_⟩
        have e7 := due7.same due
        subst e7
        refine ⟨_, rfl, p7, dq, n7, rfl, h7, (s6.trans s7) _ _ h5, due.few, true, rfl, ?_⟩
        refine iteF ?_
        have s47 := s46.trans s7
        refine ⟨_, rfl, ?_⟩
        exact ⟨dq, n7, ys, _, _, _, rfl, S6.trans s7, (s6.trans s7) _ _ h5, s47 _ _ p4, fun p hp => s47 _ _ (ys4 p hp), by rw [hlen]; exact hf2, by omega⟩
    · rintro σ H2 ⟨now, vals, xs, y6, y7, y8, rfl, s2, hnow, hpile, hxs, hf, hl⟩
      refine ⟨_, rfl, _, rfl, _, rfl, _, rfl, f, o1, o2, now, F, vals, rfl, fm.keep s2, ⟨dx1, s2 _ _ g1⟩, ⟨dx2, s2 _ _ g2⟩, hnow, fun H3 s3 => ?_⟩
      exact q H3 (s2.trans s3)

/-! ### the law -/
def spLaw (K : PySem.W.Frag) : Sp := fun vs H Q _ => ∃ (a : Addr) (ns : List Int), vs = [.ref a] ∧ SqL K H a (ns.map V.int) ∧ ns.length ≤ 63 ∧ ∀ H', Q (.bl true) H'
theorem scLaw : FnScope ["_law_script", "_law_one", "_law_other", "_law_words_here", "_law_plain", "_law_turned", "_law_plain_two"] ["_law_script"] (defScope sLaw) := ⟨rfl, rfl, rfl, by decide +kernel, rfl, by decide +kernel, by decide +kernel⟩
/-- a new instance that __init__ has filled -/
theorem same_make {H : Hp} {x dx C f : Addr} (hx : H x = none) (hd : H dx = none) : Same H (upd (upd (upd H dx (.own x)) x (.ins C dx [])) x (.ins C dx (putF "held" (.ref f) []))) :=
  same_over hx (same_over hx (same_new hd))
theorem ok_law {f : Addr} {fd : FuncData} (Fn : Fun K "law" "law" sLaw f fd) (D : Defs K mg CM CK CO) : FnOk P w K mg base CX0 5 f fd ["_law_script"] (spLaw K) := by
  obtain ⟨fI, fdI, FI, bI, mkK, mkO⟩ := D.init
  obtain ⟨fC, fdC, FC, bC, gC⟩ := D.cell
  obtain ⟨fT, fdT, FT, bT, gT⟩ := D.tag
  obtain ⟨fS, fdS, FS, bS, gS⟩ := D.shape
  obtain ⟨fW, fdW, FW, bW, gW⟩ := D.words
  obtain ⟨fA, fdA, FA, bA, gA⟩ := D.ask
  have T := D.txt
  have GK : FnOk P w K mg base CX0 1 fI fdI ["self", "one"] (spInit CK) := ok_init FI T (.inl rfl)
  have GO : FnOk P w K mg base CX0 1 fI fdI ["self", "one"] (spInit CO) := ok_init FI T (.inr rfl)
  have GS : FnOk P w K mg base CX0 2 fS fdS ["_law_script", "_law_side"] (spShape K) := ok_shape FS T FC bC gC FT bT gT
  have GW : FnOk P w K mg base CX0 2 fW fdW ["_law_script", "_law_first", "_law_last"] (spWords K) := ok_words FW T FC bC gC FT bT gT
  have GA : FnOk P w K mg base CX0 4 fA fdA ["_law_one", "_law_plain", "_law_turned", "_law_words_here"] (spAsk CK CO) := ok_ask FA D
  refine Fn.ok scLaw (fun vs H Q E h => ?_) (fun cdv A outer s H vs Q E hr h => ?_)
  · obtain ⟨a, ns, rfl, _⟩ := h
    rfl
  · obtain ⟨a, ns, rfl, hS, hlen, q⟩ := h
    have hr2 : Room 2 _ := hr.mono (by decide)
    refine ⟨_, pss_cons (ps_set (i := 1) scLaw.nd rfl (.inl rfl) (pe_call GS hr2 (by rfl) gS FS.kp bS .nil pass0 (pa_cons (pv 0) (pa_cons pe_int pa_nil)))) <|
      pss_cons (ps_set (i := 2) scLaw.nd rfl (.inl rfl) (pe_call GS hr2 (by rfl) gS FS.kp bS .nil pass0 (pa_cons (pv 0) (pa_cons pe_int pa_nil)))) <|
      pss_cons (ps_set (i := 3) scLaw.nd rfl (.inl rfl) (pe_call GW hr2 (by rfl) gW FW.kp bW .nil pass0 (pa_cons (pv 0) (pa_cons pe_int (pa_cons pe_int pa_nil))))) <|
      pss_cons (ps_set (i := 4) scLaw.nd rfl (.inl rfl) (pe_make mkK GK hr2 (by rfl) T.mgK bI .nil pass0 (pa_cons (pv 1) pa_nil))) <|
      pss_cons (ps_set (i := 5) scLaw.nd rfl (.inl rfl) (pe_make mkO GO hr2 (by rfl) T.mgO bI .nil pass0 (pa_cons (pv 1) pa_nil))) <|
      pss_cons (ps_set (i := 6) scLaw.nd rfl (.inl rfl) (pe_make mkK GK hr2 (by rfl) T.mgK bI .nil pass0 (pa_cons (pv 2) pa_nil))) <|
      pss_cons (ps_if (PW.pt (pw_or (pt_not (pt_val (pe_callB call_isi (by rfl) T.isi (by decide +kernel) (pa_cons (pv 4) (pa_cons (pe_glob (v := .ref CM) (by rfl) T.mgM rfl) pa_nil)))))
        (pw_or (pt_not (pt_val (pe_callB call_isi (by rfl) T.isi (by decide +kernel) (pa_cons (pv 5) (pa_cons (pe_glob (v := .ref CK) (by rfl) T.mgK rfl) pa_nil)))))
        (pw_or1 (pt_val (pe_callB call_isi (by rfl) T.isi (by decide +kernel) (pa_cons (pv 4) (pa_cons (pe_glob (v := .ref CO) (by rfl) T.mgO rfl) pa_nil)))))))) (pss_one (ps_ret pe_bl)) pss_nil) <|
      pss_cons (ps_if (PW.pt (pw_or (pt_not (pt_val (pe_call GA hr (by rfl) gA FA.kp bA .nil pass0 (pa_cons (pv 1) (pa_cons (pv 4) (pa_cons (pv 5) (pa_cons (pv 3) pa_nil)))))))
        (pw_or1 (pt_not (pt_val (pe_call GA hr (by rfl) gA FA.kp bA .nil pass0 (pa_cons (pv 2) (pa_cons (pv 6) (pa_cons (pe_make mkO GO hr2 (by rfl) T.mgO bI .nil pass0 (pa_cons (pv 2) pa_nil)) (pa_cons (pv 3) pa_nil)))))))))) (pss_one (ps_ret pe_bl)) pss_nil) <|
      pss_one (ps_ret (pe_call GA hr (by rfl) gA FA.kp bA .nil pass0 (pa_cons (pv 1) (pa_cons (pv 4) (pa_cons (pv 5) (pa_cons (pv 3) pa_nil)))))), ?_⟩
    refine ⟨_, rfl, a, ns, 0, rfl, hS, by decide, by decide, fun H1 f1 F1 s1 m1 => ?_⟩
    refine ⟨_, rfl, a, ns, 1, rfl, s1.seq hS, by decide, by decide, fun H2 f2 F2 s2 m2 => ?_⟩
    have S2 := s1.trans s2
    refine ⟨_, rfl, a, ns, rfl, S2.seq hS, fun H3 wl ws s3 hw hfit hwn => ?_⟩
    have M1 := (m1.keep s2).keep s3
    have M2 := m2.keep s3
    -- the three measures
    refine ⟨_, rfl, fun x1 d1 hx1 hd1 ne1 => ?_⟩
    refine ⟨x1, f1, d1, rfl, upd_same, rfl, ?_⟩
    have t1 : Same H3 _ := same_make (C := CK) (f := f1) hx1 hd1
    have j1 : InstOf CK (upd (upd (upd H3 d1 (.own x1)) x1 (.ins CK d1 [])) x1 (.ins CK d1 (putF "held" (.ref f1) []))) x1 f1 := ⟨d1, upd_same⟩
    generalize upd (upd (upd H3 d1 (.own x1)) x1 (.ins CK d1 [])) x1 (.ins CK d1 (putF "held" (.ref f1) [])) = H4 at t1 j1 ⊢
    refine ⟨_, rfl, fun x2 d2 hx2 hd2 ne2 => ?_⟩
    refine ⟨x2, f1, d2, rfl, upd_same, rfl, ?_⟩
    have t2 : Same H4 _ := same_make (C := CO) (f := f1) hx2 hd2
    have j2 : InstOf CO (upd (upd (upd H4 d2 (.own x2)) x2 (.ins CO d2 [])) x2 (.ins CO d2 (putF "held" (.ref f1) []))) x2 f1 := ⟨d2, upd_same⟩
    generalize upd (upd (upd H4 d2 (.own x2)) x2 (.ins CO d2 [])) x2 (.ins CO d2 (putF "held" (.ref f1) [])) = H5 at t2 j2 ⊢
    refine ⟨_, rfl, fun x3 d3 hx3 hd3 ne3 => ?_⟩
    refine ⟨x3, f2, d3, rfl, upd_same, rfl, ?_⟩
    have t3 : Same H5 _ := same_make (C := CK) (f := f2) hx3 hd3
    have j3 : InstOf CK (upd (upd (upd H5 d3 (.own x3)) x3 (.ins CK d3 [])) x3 (.ins CK d3 (putF "held" (.ref f2) []))) x3 f2 := ⟨d3, upd_same⟩
    generalize upd (upd (upd H5 d3 (.own x3)) x3 (.ins CK d3 [])) x3 (.ins CK d3 (putF "held" (.ref f2) [])) = H6 at t3 j3 ⊢
    have J1 := (j1.keep t2).keep t3
    have J2 := j2.keep t3
    have T36 := (t1.trans t2).trans t3
    obtain ⟨e1, g1⟩ := id J1
    obtain ⟨e2, g2⟩ := id J2
    obtain ⟨cK1, cK2⟩ := D.isC CK (.inl rfl)
    obtain ⟨cO1, cO2⟩ := D.isC CO (.inr rfl)
    have ty1 : TyX K H6 (.ref x1) (.ref CK) := .base (.ins g1 (T.cl CK (.inl rfl)) cK1 D.isG D.isT cK2)
    have ty2 : TyX K H6 (.ref x2) (.ref CO) := .base (.ins g2 (T.cl CO (.inr rfl)) cO1 D.isG D.isT cO2)
    refine ⟨_, rfl, .ref x1, .ref CM, .ref CK, .ref CM, true, rfl, .own _, ty1, D.kKM, true, rfl, ?_⟩
    refine iteF ⟨_, rfl, .ref x2, .ref CK, .ref CO, .ref CK, true, rfl, .own _, ty2, D.kOK, true, rfl, ?_⟩
    refine iteF ⟨_, rfl, .ref x1, .ref CO, .ref CK, .ref CO, false, rfl, .own _, ty1, D.kKO, false, rfl, ?_⟩
    refine iteF ?_
    -- asked
    refine ⟨_, rfl, _, rfl, _, rfl, _, rfl, f1, x1, x2, wl, F1, ws, rfl, M1.keep T36, J1, J2, T36 _ _ hw, hfit, hwn, fun H7 s7 => ⟨true, rfl, ?_⟩⟩
    have T37 := T36.trans s7
    refine iteF ⟨_, rfl, _, rfl, _, rfl, fun x4 d4 hx4 hd4 ne4 => ?_⟩
    refine ⟨x4, f2, d4, rfl, upd_same, rfl, ?_⟩
    have t4 : Same H7 _ := same_make (C := CO) (f := f2) hx4 hd4
    have j4 : InstOf CO (upd (upd (upd H7 d4 (.own x4)) x4 (.ins CO d4 [])) x4 (.ins CO d4 (putF "held" (.ref f2) []))) x4 f2 := ⟨d4, upd_same⟩
    generalize upd (upd (upd H7 d4 (.own x4)) x4 (.ins CO d4 [])) x4 (.ins CO d4 (putF "held" (.ref f2) [])) = H8 at t4 j4 ⊢
    have T38 := T37.trans t4
    have T68 := s7.trans t4
    refine ⟨_, rfl, f2, x3, x4, wl, F2, ws, rfl, M2.keep T38, j3.keep T68, j4, T38 _ _ hw, hfit, hwn, fun H9 s9 => ⟨true, rfl, ?_⟩⟩
    refine iteF ?_
    have T39 := T38.trans s9
    have T69 := T68.trans s9
    refine ⟨_, rfl, _, rfl, _, rfl, _, rfl, f1, x1, x2, wl, F1, ws, rfl, M1.keep T39, J1.keep T69, J2.keep T69, T39 _ _ hw, hfit, hwn, fun H10 _ => ?_⟩
    exact q H10
end
end Gv

set_option Elab.async false
set_option linter.all false
set_option maxRecDepth 100000
/-! What the top has written, the head. -/
namespace Gv
open PySem L2
theorem all_mk {l : PySem.W.OpenLaw} {w : World} {K : PySem.W.Frag} {h : Heap} {mg : Str → Option Value} {fa CM CK CO : Addr} (X : K.In h) (G : h.Ns mainGlobals mg) (hfa : mg "law" = some (.ref fa))
    {f_ahead f_cell f_tag f_shape f_words f_due f_nums f_want f_ask f_law f_init f_nothing f_above f_good f_goodO : Addr} {od_ahead an_ahead od_cell an_cell od_tag an_tag od_shape an_shape od_words an_words od_due an_due od_nums an_nums od_want an_want od_ask an_ask od_law an_law od_init an_init od_nothing an_nothing od_above an_above od_good an_good od_goodO an_goodO : Option Addr}
    {sl_ahead sl_cell sl_tag sl_shape sl_words sl_due sl_nums sl_want sl_ask sl_law sl_init sl_nothing sl_above sl_good sl_goodO : Array (Option Value)} {oc_ahead kV_ahead dc_ahead pm_ahead cd_ahead ct_ahead oc_cell kV_cell dc_cell pm_cell cd_cell ct_cell oc_tag kV_tag dc_tag pm_tag cd_tag ct_tag oc_shape kV_shape dc_shape pm_shape cd_shape ct_shape oc_words kV_words dc_words pm_words cd_words ct_words oc_due kV_due dc_due pm_due cd_due ct_due oc_nums kV_nums dc_nums pm_nums cd_nums ct_nums oc_want kV_want dc_want pm_want cd_want ct_want oc_ask kV_ask dc_ask pm_ask cd_ask ct_ask oc_law kV_law dc_law pm_law cd_law ct_law oc_init kV_init dc_init pm_init cd_init ct_init oc_nothing kV_nothing dc_nothing pm_nothing cd_nothing ct_nothing oc_above kV_above dc_above pm_above cd_above ct_above oc_good kV_good dc_good pm_good cd_good ct_good oc_goodO kV_goodO dc_goodO pm_goodO cd_goodO ct_goodO : Value}
    (a_CM : PySem.W.nsIn K mainGlobals "Measure" = some (some (.ref CM)))
    (a_CK : PySem.W.nsIn K mainGlobals "Kinds" = some (some (.ref CK)))
    (a_CO : PySem.W.nsIn K mainGlobals "Others" = some (some (.ref CO)))
    (a_ahead : PySem.W.nsIn K mainGlobals "kinds_ahead" = some (some (.ref f_ahead)))
    (l_ahead : K.lookup f_ahead = some ⟨oc_ahead, od_ahead, .func (PySem.W.fnOf "kinds_ahead" "kinds_ahead" (defArgs sAhead) (defBody sAhead) (defScope sAhead) .none kV_ahead dc_ahead pm_ahead an_ahead cd_ahead ct_ahead), sl_ahead⟩)
    (c_ahead : PySem.W.codeIn K cd_ahead "kinds_ahead" = true)
    (k_ahead : PySem.W.keepIn K (.ref f_ahead) = true)
    (a_cell : PySem.W.nsIn K mainGlobals "_law_cell" = some (some (.ref f_cell)))
    (l_cell : K.lookup f_cell = some ⟨oc_cell, od_cell, .func (PySem.W.fnOf "_law_cell" "_law_cell" (defArgs sCell) (defBody sCell) (defScope sCell) .none kV_cell dc_cell pm_cell an_cell cd_cell ct_cell), sl_cell⟩)
    (c_cell : PySem.W.codeIn K cd_cell "_law_cell" = true)
    (k_cell : PySem.W.keepIn K (.ref f_cell) = true)
    (a_tag : PySem.W.nsIn K mainGlobals "_law_tag" = some (some (.ref f_tag)))
    (l_tag : K.lookup f_tag = some ⟨oc_tag, od_tag, .func (PySem.W.fnOf "_law_tag" "_law_tag" (defArgs sTag) (defBody sTag) (defScope sTag) .none kV_tag dc_tag pm_tag an_tag cd_tag ct_tag), sl_tag⟩)
    (c_tag : PySem.W.codeIn K cd_tag "_law_tag" = true)
    (k_tag : PySem.W.keepIn K (.ref f_tag) = true)
    (a_shape : PySem.W.nsIn K mainGlobals "_law_shape" = some (some (.ref f_shape)))
    (l_shape : K.lookup f_shape = some ⟨oc_shape, od_shape, .func (PySem.W.fnOf "_law_shape" "_law_shape" (defArgs sShape) (defBody sShape) (defScope sShape) .none kV_shape dc_shape pm_shape an_shape cd_shape ct_shape), sl_shape⟩)
    (c_shape : PySem.W.codeIn K cd_shape "_law_shape" = true)
    (k_shape : PySem.W.keepIn K (.ref f_shape) = true)
    (a_words : PySem.W.nsIn K mainGlobals "_law_words" = some (some (.ref f_words)))
    (l_words : K.lookup f_words = some ⟨oc_words, od_words, .func (PySem.W.fnOf "_law_words" "_law_words" (defArgs sWords) (defBody sWords) (defScope sWords) .none kV_words dc_words pm_words an_words cd_words ct_words), sl_words⟩)
    (c_words : PySem.W.codeIn K cd_words "_law_words" = true)
    (k_words : PySem.W.keepIn K (.ref f_words) = true)
    (a_due : PySem.W.nsIn K mainGlobals "_law_above" = some (some (.ref f_due)))
    (l_due : K.lookup f_due = some ⟨oc_due, od_due, .func (PySem.W.fnOf "_law_above" "_law_above" (defArgs sDue) (defBody sDue) (defScope sDue) .none kV_due dc_due pm_due an_due cd_due ct_due), sl_due⟩)
    (c_due : PySem.W.codeIn K cd_due "_law_above" = true)
    (k_due : PySem.W.keepIn K (.ref f_due) = true)
    (a_nums : PySem.W.nsIn K mainGlobals "_law_numbers" = some (some (.ref f_nums)))
    (l_nums : K.lookup f_nums = some ⟨oc_nums, od_nums, .func (PySem.W.fnOf "_law_numbers" "_law_numbers" (defArgs sNums) (defBody sNums) (defScope sNums) .none kV_nums dc_nums pm_nums an_nums cd_nums ct_nums), sl_nums⟩)
    (c_nums : PySem.W.codeIn K cd_nums "_law_numbers" = true)
    (k_nums : PySem.W.keepIn K (.ref f_nums) = true)
    (a_want : PySem.W.nsIn K mainGlobals "_law_wanted" = some (some (.ref f_want)))
    (l_want : K.lookup f_want = some ⟨oc_want, od_want, .func (PySem.W.fnOf "_law_wanted" "_law_wanted" (defArgs sWant) (defBody sWant) (defScope sWant) .none kV_want dc_want pm_want an_want cd_want ct_want), sl_want⟩)
    (c_want : PySem.W.codeIn K cd_want "_law_wanted" = true)
    (k_want : PySem.W.keepIn K (.ref f_want) = true)
    (a_ask : PySem.W.nsIn K mainGlobals "_law_asked" = some (some (.ref f_ask)))
    (l_ask : K.lookup f_ask = some ⟨oc_ask, od_ask, .func (PySem.W.fnOf "_law_asked" "_law_asked" (defArgs sAsk) (defBody sAsk) (defScope sAsk) .none kV_ask dc_ask pm_ask an_ask cd_ask ct_ask), sl_ask⟩)
    (c_ask : PySem.W.codeIn K cd_ask "_law_asked" = true)
    (k_ask : PySem.W.keepIn K (.ref f_ask) = true)
    (a_law : PySem.W.nsIn K mainGlobals "law" = some (some (.ref f_law)))
    (l_law : K.lookup f_law = some ⟨oc_law, od_law, .func (PySem.W.fnOf "law" "law" (defArgs sLaw) (defBody sLaw) (defScope sLaw) .none kV_law dc_law pm_law an_law cd_law ct_law), sl_law⟩)
    (c_law : PySem.W.codeIn K cd_law "law" = true)
    (k_law : PySem.W.keepIn K (.ref f_law) = true)
    (a_init : PySem.W.findIn K (.ref CK) "__init__" = some (some (.ref f_init)))
    (i_init : PySem.W.isFn K (.ref f_init) = true)
    (l_init : K.lookup f_init = some ⟨oc_init, od_init, .func (PySem.W.fnOf "__init__" "Kinds.__init__" (defArgs sInit) (defBody sInit) (defScope sInit) .none kV_init dc_init pm_init an_init cd_init ct_init), sl_init⟩)
    (c_init : PySem.W.codeIn K cd_init "Kinds.__init__" = true)
    (k_init : PySem.W.keepIn K (.ref f_init) = true)
    (b_init : PySem.W.findIn K (.ref CO) "__init__" = some (some (.ref f_init)))
    (a_nothing : PySem.W.findIn K (.ref CK) "nothing" = some (some (.ref f_nothing)))
    (i_nothing : PySem.W.isFn K (.ref f_nothing) = true)
    (l_nothing : K.lookup f_nothing = some ⟨oc_nothing, od_nothing, .func (PySem.W.fnOf "nothing" "Kinds.nothing" (defArgs sNothing) (defBody sNothing) (defScope sNothing) .none kV_nothing dc_nothing pm_nothing an_nothing cd_nothing ct_nothing), sl_nothing⟩)
    (c_nothing : PySem.W.codeIn K cd_nothing "Kinds.nothing" = true)
    (k_nothing : PySem.W.keepIn K (.ref f_nothing) = true)
    (b_nothing : PySem.W.findIn K (.ref CO) "nothing" = some (some (.ref f_nothing)))
    (a_above : PySem.W.findIn K (.ref CK) "above" = some (some (.ref f_above)))
    (i_above : PySem.W.isFn K (.ref f_above) = true)
    (l_above : K.lookup f_above = some ⟨oc_above, od_above, .func (PySem.W.fnOf "above" "Kinds.above" (defArgs sAbove) (defBody sAbove) (defScope sAbove) .none kV_above dc_above pm_above an_above cd_above ct_above), sl_above⟩)
    (c_above : PySem.W.codeIn K cd_above "Kinds.above" = true)
    (k_above : PySem.W.keepIn K (.ref f_above) = true)
    (b_above : PySem.W.findIn K (.ref CO) "above" = some (some (.ref f_above)))
    (a_good : PySem.W.findIn K (.ref CK) "good" = some (some (.ref f_good)))
    (i_good : PySem.W.isFn K (.ref f_good) = true)
    (l_good : K.lookup f_good = some ⟨oc_good, od_good, .func (PySem.W.fnOf "good" "Kinds.good" (defArgs sGood) (defBody sGood) (defScope sGood) .none kV_good dc_good pm_good an_good cd_good ct_good), sl_good⟩)
    (c_good : PySem.W.codeIn K cd_good "Kinds.good" = true)
    (k_good : PySem.W.keepIn K (.ref f_good) = true)
    (a_goodO : PySem.W.findIn K (.ref CO) "good" = some (some (.ref f_goodO)))
    (i_goodO : PySem.W.isFn K (.ref f_goodO) = true)
    (l_goodO : K.lookup f_goodO = some ⟨oc_goodO, od_goodO, .func (PySem.W.fnOf "good" "Others.good" (defArgs sGoodO) (defBody sGoodO) (defScope sGoodO) .none kV_goodO dc_goodO pm_goodO an_goodO cd_goodO ct_goodO), sl_goodO⟩)
    (c_goodO : PySem.W.codeIn K cd_goodO "Others.good" = true)
    (k_goodO : PySem.W.keepIn K (.ref f_goodO) = true)
    (pg_CK : PySem.W.plainGet K CK Str.empty = true)
    (hd_CK : PySem.W.hasDictIn K CK = true)
    (po_CK : PySem.W.plainOver K CK = true)
    (sa_CK : PySem.W.findIn K (.ref CK) "__setattr__" = some (some (.builtin "object.__setattr__")))
    (mk_CK : PySem.W.makesIn K CK = true)
    (kp_CK : PySem.W.keepIn K (.ref CK) = true)
    (nh_CK : PySem.W.findIn K (.ref CK) "held" = some none)
    (ic_CK : PySem.W.findIn K (.ref CK) "__class__" = some (some (.builtin "object.__class__")))
    (mo_CK : PySem.W.mroIn K CK (.type "object") = some true)
    (pg_CO : PySem.W.plainGet K CO Str.empty = true)
    (hd_CO : PySem.W.hasDictIn K CO = true)
    (po_CO : PySem.W.plainOver K CO = true)
    (sa_CO : PySem.W.findIn K (.ref CO) "__setattr__" = some (some (.builtin "object.__setattr__")))
    (mk_CO : PySem.W.makesIn K CO = true)
    (kp_CO : PySem.W.keepIn K (.ref CO) = true)
    (nh_CO : PySem.W.findIn K (.ref CO) "held" = some none)
    (ic_CO : PySem.W.findIn K (.ref CO) "__class__" = some (some (.builtin "object.__class__")))
    (mo_CO : PySem.W.mroIn K CO (.type "object") = some true)
    (isG : PySem.W.specialIn K (.builtin "object.__class__") "__get__" = some (some (.builtin "getset_descriptor.__get__")))
    (isT : PySem.W.takesIn K (.builtin "object.__class__") = some true)
    (rd : PySem.W.readsIn K CK (.type "type") = true)
    (ga : PySem.W.specialIn K (.ref CK) "__getattribute__" = some (some (.builtin "type.__getattribute__")))
    (cv : PySem.W.findCls K (.ref CK) (.type "type") "good" = some (.val (.ref f_good)))
    (kKM : PySem.W.kitOne K (.ref CK) (.ref CM) = some true)
    (kOK : PySem.W.kitOne K (.ref CO) (.ref CK) = some true)
    (kKO : PySem.W.kitOne K (.ref CK) (.ref CO) = some false)
    (z_sorted : PySem.W.nsIn K mainGlobals "sorted" = some none)
    (z_tuple : PySem.W.nsIn K mainGlobals "tuple" = some none)
    (z_set : PySem.W.nsIn K mainGlobals "set" = some none)
    (z_len : PySem.W.nsIn K mainGlobals "len" = some none)
    (z_range : PySem.W.nsIn K mainGlobals "range" = some none)
    (z_min : PySem.W.nsIn K mainGlobals "min" = some none)
    (z_int : PySem.W.nsIn K mainGlobals "int" = some none)
    (z_bool : PySem.W.nsIn K mainGlobals "bool" = some none)
    (z_isinstance : PySem.W.nsIn K mainGlobals "isinstance" = some none)
    (z_reversed : PySem.W.nsIn K mainGlobals "reversed" = some none)
    : ∃ fd : FuncData, (∀ (s : Shared) (v : Value), BindsTo s fd ⟨[v], []⟩ [("_law_script", v)]) ∧ ∀ base : Heap, K.In base → base.Ns mainGlobals mg → FnOk l.prog w K mg base CX0 5 fa fd ["_law_script"] (spLaw K) := by
  have e := hfa.symm.trans (PySem.W.mg_of X G a_law)
  cases e
  have cl : ∀ c, c = CK ∨ c = CO → Cls K c := by
    rintro c (rfl | rfl)
    · exact ⟨pg_CK, hd_CK, po_CK, sa_CK⟩
    · exact ⟨pg_CO, hd_CO, po_CO, sa_CO⟩
  have nh : ∀ c, c = CK ∨ c = CO → NoAttr K c "held" := by
    rintro c (rfl | rfl)
    · exact nh_CK
    · exact nh_CO
  have T : Txt K mg CM CK CO := ⟨cl, nh, PySem.W.mg_of X G a_CM, PySem.W.mg_of X G a_CK, PySem.W.mg_of X G a_CO, PySem.W.mg_none_of X G z_sorted, PySem.W.mg_none_of X G z_tuple, PySem.W.mg_none_of X G z_set, PySem.W.mg_none_of X G z_len, PySem.W.mg_none_of X G z_range, PySem.W.mg_none_of X G z_min, PySem.W.mg_none_of X G z_int, PySem.W.mg_none_of X G z_bool, PySem.W.mg_none_of X G z_isinstance, PySem.W.mg_none_of X G z_reversed⟩
  have F_ahead := fun_mk (st := sAhead) l_ahead c_ahead k_ahead
  have b_ahead_ := F_ahead.binds (ps := ["one", "tag", "inner", "rest"]) fun _ _ _ _ _ _ us hl => match us, hl with | [_, _, _, _], _ => rfl
  have F_cell := fun_mk (st := sCell) l_cell c_cell k_cell
  have b_cell_ := F_cell.binds (ps := ["_law_script", "_law_k"]) fun _ _ _ _ _ _ us hl => match us, hl with | [_, _], _ => rfl
  have F_tag := fun_mk (st := sTag) l_tag c_tag k_tag
  have b_tag_ := F_tag.binds (ps := ["_law_seed", "_law_v"]) fun _ _ _ _ _ _ us hl => match us, hl with | [_, _], _ => rfl
  have F_shape := fun_mk (st := sShape) l_shape c_shape k_shape
  have b_shape_ := F_shape.binds (ps := ["_law_script", "_law_side"]) fun _ _ _ _ _ _ us hl => match us, hl with | [_, _], _ => rfl
  have F_words := fun_mk (st := sWords) l_words c_words k_words
  have b_words_ := F_words.binds (ps := ["_law_script", "_law_first", "_law_last"]) fun _ _ _ _ _ _ us hl => match us, hl with | [_, _, _], _ => rfl
  have F_due := fun_mk (st := sDue) l_due c_due k_due
  have b_due_ := F_due.binds (ps := ["_law_other", "_law_word", "_law_inner", "_law_rest"]) fun _ _ _ _ _ _ us hl => match us, hl with | [_, _, _, _], _ => rfl
  have F_nums := fun_mk (st := sNums) l_nums c_nums k_nums
  have b_nums_ := F_nums.binds (ps := ["_law_found", "_law_due"]) fun _ _ _ _ _ _ us hl => match us, hl with | [_, _], _ => rfl
  have F_want := fun_mk (st := sWant) l_want c_want k_want
  have b_want_ := F_want.binds (ps := ["_law_one", "_law_plain", "_law_turned", "_law_value"]) fun _ _ _ _ _ _ us hl => match us, hl with | [_, _, _, _], _ => rfl
  have F_ask := fun_mk (st := sAsk) l_ask c_ask k_ask
  have b_ask_ := F_ask.binds (ps := ["_law_one", "_law_plain", "_law_turned", "_law_words_here"]) fun _ _ _ _ _ _ us hl => match us, hl with | [_, _, _, _], _ => rfl
  have F_law := fun_mk (st := sLaw) l_law c_law k_law
  have F_init := fun_mk (st := sInit) l_init c_init k_init
  have b_init_ := F_init.binds (ps := ["self", "one"]) fun _ _ _ _ _ _ us hl => match us, hl with | [_, _], _ => rfl
  have F_nothing := fun_mk (st := sNothing) l_nothing c_nothing k_nothing
  have b_nothing_ := F_nothing.binds (ps := ["self"]) fun _ _ _ _ _ _ us hl => match us, hl with | [_], _ => rfl
  have F_above := fun_mk (st := sAbove) l_above c_above k_above
  have b_above_ := F_above.binds (ps := ["self", "tag", "inner", "rest"]) fun _ _ _ _ _ _ us hl => match us, hl with | [_, _, _, _], _ => rfl
  have F_good := fun_mk (st := sGood) l_good c_good k_good
  have b_good_ := F_good.binds (ps := ["self", "value"]) fun _ _ _ _ _ _ us hl => match us, hl with | [_, _], _ => rfl
  have F_goodO := fun_mk (st := sGoodO) l_goodO c_goodO k_goodO
  have b_goodO_ := F_goodO.binds (ps := ["self", "value"]) fun _ _ _ _ _ _ us hl => match us, hl with | [_, _], _ => rfl
  have D : Defs K mg CM CK CO := {
    txt := T
    ahead := ⟨_, _, F_ahead, b_ahead_, PySem.W.mg_of X G a_ahead⟩
    cell := ⟨_, _, F_cell, b_cell_, PySem.W.mg_of X G a_cell⟩
    tag := ⟨_, _, F_tag, b_tag_, PySem.W.mg_of X G a_tag⟩
    shape := ⟨_, _, F_shape, b_shape_, PySem.W.mg_of X G a_shape⟩
    words := ⟨_, _, F_words, b_words_, PySem.W.mg_of X G a_words⟩
    due := ⟨_, _, F_due, b_due_, PySem.W.mg_of X G a_due⟩
    nums := ⟨_, _, F_nums, b_nums_, PySem.W.mg_of X G a_nums⟩
    want := ⟨_, _, F_want, b_want_, PySem.W.mg_of X G a_want⟩
    ask := ⟨_, _, F_ask, b_ask_, PySem.W.mg_of X G a_ask⟩
    init := ⟨_, _, F_init, b_init_, ⟨mk_CK, a_init, i_init, kp_CK⟩, ⟨mk_CO, b_init, i_init, kp_CO⟩⟩
    nothing := ⟨_, _, F_nothing, b_nothing_, ⟨a_nothing, i_nothing, k_nothing⟩, ⟨b_nothing, i_nothing, k_nothing⟩⟩
    above := ⟨_, _, F_above, b_above_, ⟨a_above, i_above, k_above⟩, ⟨b_above, i_above, k_above⟩⟩
    good := ⟨_, _, .type "type", F_good, b_good_, ⟨a_good, i_good, k_good⟩, ⟨rd, ga⟩, ⟨cv, rfl⟩⟩
    goodO := ⟨_, _, F_goodO, b_goodO_, ⟨a_goodO, i_goodO, k_goodO⟩⟩
    isC := by
      rintro c (rfl | rfl)
      · exact ⟨ic_CK, mo_CK⟩
      · exact ⟨ic_CO, mo_CO⟩
    isG := isG
    isT := isT
    kKM := kKM
    kOK := kOK
    kKO := kKO }
  exact ⟨PySem.W.fnOf "law" "law" (defArgs sLaw) (defBody sLaw) (defScope sLaw) .none kV_law dc_law pm_law an_law cd_law ct_law, fun s v => .of_eq rfl, fun base _ _ => ok_law F_law D⟩
theorem walk {l : PySem.W.OpenLaw} {q : Program} {loose : List Str} {XP : (Str → Option Value) → Heap → Prop} {YP : World → Heap → Prop} {d : DefRec} {K : Params → PySem.W.Frag} (hn : l.most = some 63) (hdf : d.params.defaults = [])
    (hY : ∀ (w : World) (h : Heap), YP w h → (K w.params).In h)
    (F : ∀ (w : World) (mg : Str → Option Value) (fa : Addr) (h : Heap), (K w.params).In h → h.Ns mainGlobals mg → mg d.name = some (.ref fa) →
      ∃ fd : FuncData, (∀ (s : Shared) (u : Value), BindsTo s fd ⟨[u], []⟩ [("_law_script", u)]) ∧ ∀ base : Heap, (K w.params).In base → base.Ns mainGlobals mg → FnOk l.prog w (K w.params) mg base CX0 5 fa fd ["_law_script"] (spLaw (K w.params))) :
    PySem.W.WalkO q loose XP YP l.row.toRowW d [] (fun f vs => PySem.call f vs) :=
  L2.walk_of (n := 63) (k := 5) (x := "_law_script") (CX := fun _ => CX0) (sp := fun w => spLaw (K w.params)) hn (by decide) hdf ⟨rfl, by decide, by decide⟩ hY F (fun _ _ a ns hl _ hS => ⟨a, ns, rfl, hS, hl, fun _ => rfl⟩) fun _ _ _ _ _ z => z
end Gv

open PySem PySem.W PyProof.Rows
set_option maxRecDepth 100000 in
set_option maxHeartbeats 0 in
theorem PySem.Challenge.cw_formgrove_k51_values_of_groves_holds : PySem.Challenge.rw_formgrove_k51_values_of_groves.Holds := by
  w_on; o_law; k_head; (case hw => w_witness2)
  k_fill
  refine Gv.walk (l := PySem.Challenge.rw_formgrove_k51_values_of_groves) rfl rfl (fun w h Y => PySem.W.kIn_of Y) ?F
  case F =>
    intro w mg fa h KX G hmg
    refine' Gv.all_mk KX G hmg ?a_CM ?a_CK ?a_CO ?a_ahead ?l_ahead ?c_ahead ?k_ahead ?a_cell ?l_cell ?c_cell ?k_cell ?a_tag ?l_tag ?c_tag ?k_tag ?a_shape ?l_shape ?c_shape ?k_shape ?a_words ?l_words ?c_words ?k_words ?a_due ?l_due ?c_due ?k_due ?a_nums ?l_nums ?c_nums ?k_nums ?a_want ?l_want ?c_want ?k_want ?a_ask ?l_ask ?c_ask ?k_ask ?a_law ?l_law ?c_law ?k_law ?a_init ?i_init ?l_init ?c_init ?k_init ?b_init ?a_nothing ?i_nothing ?l_nothing ?c_nothing ?k_nothing ?b_nothing ?a_above ?i_above ?l_above ?c_above ?k_above ?b_above ?a_good ?i_good ?l_good ?c_good ?k_good ?a_goodO ?i_goodO ?l_goodO ?c_goodO ?k_goodO ?pg_CK ?hd_CK ?po_CK ?sa_CK ?mk_CK ?kp_CK ?nh_CK ?ic_CK ?mo_CK ?pg_CO ?hd_CO ?po_CO ?sa_CO ?mk_CO ?kp_CO ?nh_CO ?ic_CO ?mo_CO ?isG ?isT ?rd ?ga ?cv ?kKM ?kOK ?kKO ?z_sorted ?z_tuple ?z_set ?z_len ?z_range ?z_min ?z_int ?z_bool ?z_isinstance ?z_reversed
    (case a_CM => k_is)
    (case a_CK => k_is)
    (case a_CO => k_is)
    (case a_ahead => k_is)
    (case l_ahead => k_is)
    (case c_ahead => k_is)
    (case k_ahead => k_is)
    (case a_cell => k_is)
    (case l_cell => k_is)
    (case c_cell => k_is)
    (case k_cell => k_is)
    (case a_tag => k_is)
    (case l_tag => k_is)
    (case c_tag => k_is)
    (case k_tag => k_is)
    (case a_shape => k_is)
    (case l_shape => k_is)
    (case c_shape => k_is)
    (case k_shape => k_is)
    (case a_words => k_is)
    (case l_words => k_is)
    (case c_words => k_is)
    (case k_words => k_is)
    (case a_due => k_is)
    (case l_due => k_is)
    (case c_due => k_is)
    (case k_due => k_is)
    (case a_nums => k_is)
    (case l_nums => k_is)
    (case c_nums => k_is)
    (case k_nums => k_is)
    (case a_want => k_is)
    (case l_want => k_is)
    (case c_want => k_is)
    (case k_want => k_is)
    (case a_ask => k_is)
    (case l_ask => k_is)
    (case c_ask => k_is)
    (case k_ask => k_is)
    (case a_law => k_is)
    (case l_law => k_is)
    (case c_law => k_is)
    (case k_law => k_is)
    (case a_init => k_is)
    (case i_init => k_is)
    (case l_init => k_is)
    (case c_init => k_is)
    (case k_init => k_is)
    (case b_init => k_is)
    (case a_nothing => k_is)
    (case i_nothing => k_is)
    (case l_nothing => k_is)
    (case c_nothing => k_is)
    (case k_nothing => k_is)
    (case b_nothing => k_is)
    (case a_above => k_is)
    (case i_above => k_is)
    (case l_above => k_is)
    (case c_above => k_is)
    (case k_above => k_is)
    (case b_above => k_is)
    (case a_good => k_is)
    (case i_good => k_is)
    (case l_good => k_is)
    (case c_good => k_is)
    (case k_good => k_is)
    (case a_goodO => k_is)
    (case i_goodO => k_is)
    (case l_goodO => k_is)
    (case c_goodO => k_is)
    (case k_goodO => k_is)
    (case pg_CK => k_is)
    (case hd_CK => k_is)
    (case po_CK => k_is)
    (case sa_CK => k_is)
    (case mk_CK => k_is)
    (case kp_CK => k_is)
    (case nh_CK => k_is)
    (case ic_CK => k_is)
    (case mo_CK => k_is)
    (case pg_CO => k_is)
    (case hd_CO => k_is)
    (case po_CO => k_is)
    (case sa_CO => k_is)
    (case mk_CO => k_is)
    (case kp_CO => k_is)
    (case nh_CO => k_is)
    (case ic_CO => k_is)
    (case mo_CO => k_is)
    (case isG => k_is)
    (case isT => k_is)
    (case rd => k_is)
    (case ga => k_is)
    (case cv => k_is)
    (case kKM => kit_is)
    (case kOK => kit_is)
    (case kKO => kit_is)
    (case z_sorted => k_is)
    (case z_tuple => k_is)
    (case z_set => k_is)
    (case z_len => k_is)
    (case z_range => k_is)
    (case z_min => k_is)
    (case z_int => k_is)
    (case z_bool => k_is)
    (case z_isinstance => k_is)
    (case z_reversed => k_is)

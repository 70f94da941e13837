import PyProof.Rows.All
import Wide.All
import OpenK.AllK
import Wide.FinOn
import HandS.ForMost
import HandS.TupSets
import HandS.SortOrd
import KE.KeyNested
import HandS.Strs
import HandS.SetTxt0
import KE.LtSeq
import KE.KSortTupAny
import HandS.Exc
import PyProof.TupleOfSeq
import HandS.WordsExc
import HandS.CallSlots
import HandS.TupAny
import HandS.TupLe
import HandS.Deep
import HandS.Wide
import HandS.IsInst
import HandS.Style
import HandS.Text
import HandS.Zip
import HandS.Rev
import HandS.MakeKw
import HandS.DictComp
import KE.KDictKeyed
import PyProof.Rows.TupTab
import HandS.MakeKwOnly
import HandS.ExcInit
import HandS.ExcField
import KE.KExcIs
import HandS.ExcIs
import KE.KEqNest
import PyProof.NeData
import HandS.TryOnly
import PySem.Challenge.RW_ruleworlds_k27_what_sets_of_pairs_refuse
set_option Elab.async false
set_option linter.all false
set_option maxRecDepth 100000
set_option maxHeartbeats 4000000
/-! RwSet: sets of nested tuples (NestedKey), at the level of the machine: added to, filled from a list. -/
namespace RW
open PySem PySem.Spec PyProof.Rows L2

abbrev NK := NestedKey
/-- the tuple at b is the nested key k -/
structure KeyAt (h : Heap) (k : NK) (b : Addr) : Prop where
  is : NestedIs h k (.ref b)
  dp : k.depth ≤ 8
theorem KeyAt.keep {h h' : Heap} {k : NK} {b : Addr} (x : KeyAt h k b)
    (hk : ∀ c o, h.get? c = some o → h'.get? c = some o) : KeyAt h' k b :=
  ⟨NestedIs.at (fun c o vs n e _ => hk c o e) k _ x.is, x.dp⟩
theorem KeyAt.inj {h : Heap} {k k' : NK} {b : Addr} (x : KeyAt h k b) (y : KeyAt h k' b) : k = k' :=
  NestedIs.inj _ _ _ x.is y.is
theorem KeyAt.same {h h' : Heap} {k : NK} {a b : Addr} {o : Obj} {es : Array (Int × Value)} {ep : Nat} {t : SetTable}
    (x : KeyAt h k b) (ho : h.get? a = some o) (hd : o.data = .set es ep t) (hs : Heap.SameBut a h h') : KeyAt h' k b := by
  refine ⟨NestedIs.at (fun c u vs n e hc => ?_) k _ x.is, x.dp⟩
  refine (hs.2 c fun z => ?_).trans e
  subst z
  rw [ho] at e
  cases e
  rw [hd] at hc
  cases hc

section
variable {P : Program} {w : World} {A : Around} {E : Value → Shared → Prop} {s : Shared}

/-- an item of a key's tuple is a key, less deep -/
theorem nested_item {h : Heap} : ∀ (ks : List NK) (vs : List Value), NestedAll h ks vs → ∀ v ∈ vs, ∃ k, NestedIs h k v ∧ k.depth ≤ NestedKey.depthAll ks
  | [], _, x, v, hv => by cases x; cases hv
  | k :: ks, _, x, v, hv => by
    cases x with
    | cons x1 x2 =>
      simp only [NestedKey.depthAll]
      rcases List.mem_cons.mp hv with e | hv
      · exact ⟨k, by rw [e]; exact x1, by omega⟩
      · obtain ⟨k', a, b⟩ := nested_item ks _ x2 v hv
        exact ⟨k', a, by omega⟩

/-- a key's kind of class: no tuple of an own class in it -/
theorem ofClass_key : ∀ (n : Nat) (k : NK) (v : Value) (s : Shared) (Q : Bool → Shared → Prop), NestedIs s.heap k v →
    k.depth ≤ n → Q false s → wpAny (model P w) A (ofAClassStatement n v) Q E s := by
  intro n
  induction n with
  | zero =>
    intro k v s Q x hn h
    cases x with
    | tup hg hc hd hk => simp only [NestedKey.depth] at hn; omega
    | _ => exact wpAny_pure h
  | succ n ih =>
    intro k v s Q x hn h
    cases x with
    | @tup a o vs m ks hg hc hd hk =>
      have hT : s.TypeIs (.ref a) "tuple" := ⟨_, hg, hc⟩
      simp only [NestedKey.depth] at hn
      unfold ofAClassStatement
      refine wpAny_bind (wpAny_typeOf hT ?_)
      dsimp only
      have e : (("tuple" : String) == "tuple") = true := by decide
      simp only [e, if_true, Bool.not_true, Bool.false_eq_true, if_false]
      try refine wpAny_bind (wpAny_pure ?_)
      try simp only [Bool.not_true, Bool.false_eq_true, if_false]
      show wpAny _ _ (seqItems? (.ref a) >>= _) _ _ s
      refine wpAny_bind (wpAny_seqItems hg hd ?_)
      dsimp only
      refine wpAny_bind ?_
      show wpAny _ _ (forIn vs _ _) _ _ s
      rw [← Array.forIn_toList]
      refine wpAny_forIn_list _ (fun rest r s' => r.1 = none ∧ s' = s ∧ ∀ y ∈ rest, ∃ k, NestedIs s.heap k y ∧ k.depth ≤ n)
        _ ?_ ?_ _ _ ⟨rfl, rfl, fun y hy => ?_⟩
      · rintro y rest r s' ⟨hr, rfl, hall⟩
        obtain ⟨k', h1, h2⟩ := hall y List.mem_cons_self
        refine wpAny_bind (ih k' y s' _ h1 h2 ?_)
        simp only [Bool.false_eq_true, if_false]
        exact wpAny_pure ⟨rfl, rfl, fun u hu => hall u (List.mem_cons_of_mem _ hu)⟩
      · rintro ⟨r1, r2⟩ s' ⟨hr, rfl, _⟩
        simp only at hr
        subst hr
        exact wpAny_pure h
      · obtain ⟨k', h1, h2⟩ := nested_item ks _ hk y hy
        exact ⟨k', h1, by omega⟩
    | _ => exact wpAny_pure h

/-- whether a key's hash comes by value is told, this way or that -/
theorem hashBy_key : ∀ (n : Nat) (k : NK) (v : Value) (s : Shared) (Q : Bool → Shared → Prop), NestedIs s.heap k v →
    (∀ b, Q b s) → wpAny (model P w) A (hashByValue n v) Q E s := by
  intro n
  induction n with
  | zero =>
    intro k v s Q x h
    cases x <;> exact wpAny_pure (h _)
  | succ n ih =>
    intro k v s Q x h
    cases x with
    | @tup a o vs m ks hg hc hd hk =>
      have hT : s.TypeIs (.ref a) "tuple" := ⟨_, hg, hc⟩
      unfold hashByValue
      refine wpAny_bind (wpAny_specialOf hT F.slot_tuple_hash.lookup ?_)
      show wpAny _ _ (seqItems? (.ref a) >>= _) _ _ s
      refine wpAny_bind (wpAny_seqItems hg hd ?_)
      refine wpAny_bind ?_
      show wpAny _ _ (forIn vs _ _) _ _ s
      rw [← Array.forIn_toList]
      refine wpAny_forIn_list _ (fun rest r s' => r.1 = none ∧ s' = s ∧ ∀ y ∈ rest, ∃ k, NestedIs s.heap k y)
        _ ?_ ?_ _ _ ⟨rfl, rfl, fun y hy => ?_⟩
      · rintro y rest r s' ⟨hr, rfl, hall⟩
        obtain ⟨k', h1⟩ := hall y List.mem_cons_self
        refine wpAny_bind (ih k' y s' _ h1 fun b => ?_)
        cases b with
        | true =>
          simp only [Bool.not_true, Bool.false_eq_true, if_false]
          exact wpAny_pure ⟨rfl, rfl, fun u hu => hall u (List.mem_cons_of_mem _ hu)⟩
        | false =>
          simp only [Bool.not_false, if_true]
          exact wpAny_pure (wpAny_pure (h false))
      · rintro ⟨r1, r2⟩ s' ⟨hr, rfl, _⟩
        simp only at hr
        subst hr
        exact wpAny_pure (h true)
      · obtain ⟨k', h1, _⟩ := nested_item ks _ hk y hy
        exact ⟨k', h1⟩
    | _ => exact wpAny_pure (h _)

/-- a search among keys shows nothing -/
theorem seen_keys {k : NK} {b : Addr} {Q : Bool → Shared → Prop} (hk : KeyAt s.heap k b) {ys : List Value}
    (hy : ∀ y ∈ ys, ∃ k' c, y = Value.ref c ∧ KeyAt s.heap k' c) (h : Q false s) :
    wpAny (model P w) A (searchCouldBeSeen (.ref b) ys) Q E s := by
  unfold searchCouldBeSeen
  refine wpAny_bind ?_
  refine wpAny_forIn_list _ (fun rest r s' => r.1 = none ∧ s' = s ∧ ∀ y ∈ rest, ∃ k' c, y = Value.ref c ∧ KeyAt s.heap k' c)
    _ ?_ ?_ _ _ ⟨rfl, rfl, hy⟩
  · rintro v rest r s' ⟨hr, rfl, hall⟩
    obtain ⟨k', c, rfl, hc⟩ := hall v List.mem_cons_self
    have more : ∀ y ∈ rest, ∃ k' c, y = Value.ref c ∧ KeyAt s'.heap k' c := fun u hu => hall u (List.mem_cons_of_mem _ hu)
    dsimp only
    by_cases hv : (b == c || (carriedByValue (.ref b) && carriedByValue (.ref c))) = true
    · exact wp_if_pos hv (wpAny_pure ⟨rfl, rfl, more⟩)
    · refine wp_if_neg hv ?_
      refine wpAny_bind (quiet_key k _ 8 s' hk.is hk.dp A E _ ?_)
      simp only [Bool.not_true, Bool.false_eq_true, if_false]
      refine wpAny_bind (quiet_key k' _ 8 s' hc.is hc.dp A E _ ?_)
      simp only [Bool.not_true, Bool.false_eq_true, if_false]
      refine wpAny_bind (ofClass_key 8 k _ s' _ hk.is hk.dp ?_)
      simp only [Bool.false_eq_true, if_false]
      refine wpAny_bind (ofClass_key 8 k' _ s' _ hc.is hc.dp ?_)
      simp only [Bool.false_eq_true, if_false]
      exact wpAny_pure ⟨rfl, rfl, more⟩
  · rintro ⟨r1, r2⟩ s' ⟨hr, rfl, _⟩
    simp only at hr
    subst hr
    exact wpAny_pure h

/-! ### the set's object -/
abbrev hk (w : World) (k : NK) : Int := k.hash w
def hrows (w : World) (L : List (Addr × NK)) : List (Int × Value) := L.map fun p => (hk w p.2, Value.ref p.1)
def hashesOf (w : World) (L : List (Addr × NK)) : List Int := L.map fun p => hk w p.2
structure SetN (w : World) (h : Heap) (a : Addr) (L : List (Addr × NK)) (es : Array (Int × Value)) (ep : Nat) (t : SetTable) : Prop where
  ob : ∃ o, h.get? a = some o ∧ o.ExactSet ∧ o.data = .set es ep t
  rows : es.toList = hrows w L
  tab : TabOk t (hashesOf w L)
  nd : (L.map (·.2)).Nodup
  key : ∀ p ∈ L, KeyAt h p.2 p.1
  led : w.params.followText "set-order" = true ∨ t.led = true
  room : L.length * 5 < t.mask * 3
  few : L.length < 64
variable {a : Addr} {L : List (Addr × NK)} {es : Array (Int × Value)} {ep : Nat} {t : SetTable}
theorem len_hashes (w : World) (L : List (Addr × NK)) : (hashesOf w L).length = L.length := List.length_map ..
theorem size_rows (hr : es.toList = hrows w L) : es.size = L.length := by
  have q := congrArg List.length hr
  unfold hrows at q
  simpa using q
theorem at_rows (hr : es.toList = hrows w L) {i : Nat} {p : Addr × NK} (h : L[i]? = some p) : es[i]? = some (hk w p.2, Value.ref p.1) := by
  rw [← Array.getElem?_toList, hr]
  unfold hrows
  simp [h]
theorem SetN.fits (R : SetN w s.heap a L es ep t) : t.fits es.size = true := by
  have h1 := R.tab.sz
  rw [len_hashes] at h1
  have h2 := size_rows R.rows
  have h3 := R.room
  have h4 := R.tab.dm
  simp only [SetTable.fits, SetTable.fill, h4, Bool.and_eq_true, beq_iff_eq, decide_eq_true_eq]
  refine ⟨by omega, ?_⟩
  show t.place.size + 0 ≤ t.mask
  omega
theorem SetN.gw (R : SetN w s.heap a L es ep t) : ¬ t.gaveWay = true := by
  simp [SetTable.gaveWay, mask_odd R.tab.mok]

/-- the way's starting place -/
abbrev p0 (t : SetTable) (h : Int) : SetTable.Probe := runAt t.mask (SetTable.bits h % (t.mask + 1)) (SetTable.bits h)
theorem nth_dummy (m : Nat) : ∀ (n : Nat) (p : SetTable.Probe), p.dummy = none → (nth m p n).dummy = none
  | 0, _, h => h
  | n + 1, p, h => by
    refine nth_dummy m n (adv m p) ?_
    unfold adv
    split <;> exact h
theorem way_shift (t : SetTable) (h : Int) (c q : Nat) : (nth t.mask (nth t.mask (p0 t h) c) q).j = way t.mask h (c + q) := by
  rw [← nth_add]

/-- the search for a key, from the c-th step of its way on -/
theorem find_from (R : SetN w s.heap a L es ep t) {x : Addr} {k : NK} (hx : KeyAt s.heap k x) (hu : A.units + 8 < cLine) {K : Nat}
    (hKf : K < 10 * SetTable.turns t.mask) (hK : way t.mask (hk w k) K ∉ t.place.toList)
    (hKb : ∀ c, c < K → way t.mask (hk w k) c ∈ t.place.toList) {Q : SetFound → Shared → Prop}
    (hin : k ∈ L.map (·.2) → Q (.there none) s) (hout : k ∉ L.map (·.2) → Q (.free (way t.mask (hk w k) K) false) s) :
    ∀ (f c : Nat) (stand : Option SetTable.Probe), stand.getD (t.probeStart (hk w k)) = nth t.mask (p0 t (hk w k)) c →
      c ≤ K → K - c < f →
      (∀ (i : Nat) p, L[i]? = some p → p.2 = k → ∃ c', c ≤ c' ∧ c' < K ∧ t.place.toList[i]? = some (way t.mask (hk w k) c')) →
      wpAny (model P w) A (setSearchFrom a (.ref x) (hk w k) true f stand) Q E s := by
  intro f
  induction f with
  | zero => intro c stand _ _ hf _; exact absurd hf (Nat.not_lt_zero _)
  | succ f ih =>
    intro c stand hst hc hf hre
    obtain ⟨o, ho, hex, hd⟩ := R.ob
    have hsz := size_rows R.rows
    rw [setSearchFrom_succ]
    refine wpAny_bind (wpAny_setState_of ho hd R.fits ?_)
    dsimp only
    refine wp_if_neg R.gw ?_
    try refine wpAny_bind (wpAny_pure ?_)
    have spec := go_spec t R.tab.ris R.tab.dm (fun i => (es[i]?.map (·.1)).getD 0) (hk w k) (10 * SetTable.turns t.mask) (K - c)
      (nth t.mask (p0 t (hk w k)) c) (nth_dummy _ _ _ rfl) (by omega)
      (fun q hq => by rw [way_shift]; exact hKb (c + q) (by omega))
      (by rw [way_shift, show c + (K - c) = K by omega]; exact hK)
    have hashAt : ∀ (i : Nat) p, L[i]? = some p → (fun i => (es[i]?.map (·.1)).getD 0) i = hk w p.2 := fun i p hp => by
      simp [at_rows R.rows hp]
    rcases spec with ⟨q, i, hq, hi, hh, hno, hpr⟩ | ⟨hno, hpr⟩
    · -- one of this hash
      have hpr' : t.probe (fun i => (es[i]?.map (·.1)).getD 0) (hk w k) (stand.getD (t.probeStart (hk w k))) =
          some (.candidate (way t.mask (hk w k) (c + q)) i (nth t.mask (p0 t (hk w k)) (c + (q + 1)))) := by
        rw [hst, ← way_shift, nth_add]
        exact hpr
      rw [hpr']
      dsimp only
      rw [way_shift] at hi
      have hil : i < L.length := by
        have h1 : i < t.place.toList.length := (List.getElem?_eq_some_iff.mp hi).1
        have h2 := R.tab.sz
        rw [len_hashes] at h2
        rw [Array.length_toList] at h1
        omega
      obtain ⟨p, hp⟩ : ∃ p, L[i]? = some p := ⟨_, List.getElem?_eq_getElem hil⟩
      have hmem : p ∈ L := List.mem_of_getElem? hp
      have hpt := R.key p hmem
      have rest : wpAny (model P w) A (searchRest a (.ref x) (hk w k) true f es t (way t.mask (hk w k) (c + q)) i
          (nth t.mask (p0 t (hk w k)) (c + (q + 1)))) Q E s := by
        unfold searchRest
        rw [at_rows R.rows hp]
        dsimp only
        have md : min p.2.depth k.depth ≤ 8 := Nat.le_trans (Nat.min_le_right _ _) hx.dp
        refine wpAny_bind (wpAny_holding (eqAt_key p.2 k A s _ _ hpt.is hx.is (by omega) _ _ _ _ ?_))
        rw [← NestedKey.decide_eq]
        refine wpAny_bind (wpAny_setState_of ho hd R.fits ?_)
        dsimp only
        by_cases e : p.2 = k
        · refine wp_if_pos (by simp [e]) ?_
          exact wpAny_pure (hin (List.mem_map.mpr ⟨p, hmem, e⟩))
        · refine wp_if_neg (by simp [e]) ?_
          try refine wpAny_bind (wpAny_pure ?_)
          rw [sameMem]
          dsimp only
          have hsl : t.slot (way t.mask (hk w k) (c + q)) = .live i := slot_live R.tab.ris hi
          simp only [if_true, hsl, at_rows R.rows hp]
          refine wpAny_bind (wpAny_isSame_ref_self (wpAny_bind (wpAny_pure ?_)))
          simp only [if_true]
          refine wp_if_neg (by simp [e]) ?_
          refine ih (c + (q + 1)) _ rfl (by omega) (by omega) fun i0 p1 h0 hk0 => ?_
          obtain ⟨c', a1, a2, a3⟩ := hre i0 p1 h0 hk0
          refine ⟨c', ?_, a2, a3⟩
          rcases Nat.lt_trichotomy c' (c + q) with z | z | z
          · exfalso
            refine hno (c' - c) i0 (by omega) (by rw [way_shift, show c + (c' - c) = c' by omega]; exact a3) ?_
            exact (hashAt i0 p1 h0).trans (congrArg (hk w) hk0)
          · exfalso
            rw [z] at a3
            have s0 := slot_live R.tab.ris a3
            rw [hsl] at s0
            injection s0 with s0
            rw [← s0, hp] at h0
            exact e ((congrArg Prod.snd (Option.some.inj h0)).trans hk0)
          · omega
      by_cases hl : t.led = true
      · refine wp_if_neg (by simp [hl]) ?_
        try refine wpAny_bind (wpAny_pure ?_)
        exact rest
      · refine wp_if_pos (by simp [hl]) ?_
        refine wpAny_bind (seen_keys hx (fun y hy => ?_) ?_)
        · obtain ⟨e, he, ee⟩ := List.mem_map.mp hy
          have he1 : e ∈ es ∧ e.1 = hk w k := by simpa using he
          have he2 : e ∈ es.toList := by simpa using he1.1
          rw [R.rows] at he2
          obtain ⟨p2, hp2, e2⟩ := List.mem_map.mp he2
          exact ⟨p2.2, p2.1, by rw [← ee, ← e2], R.key p2 hp2⟩
        · refine wp_if_neg (by decide) ?_
          try refine wpAny_bind (wpAny_pure ?_)
          exact rest
    · -- a free slot
      have hpr' : t.probe (fun i => (es[i]?.map (·.1)).getD 0) (hk w k) (stand.getD (t.probeStart (hk w k))) =
          some (.empty (way t.mask (hk w k) K) none) := by
        have e2 : way t.mask (hk w k) K = (nth t.mask (nth t.mask (p0 t (hk w k)) c) (K - c)).j := by
          rw [way_shift, show c + (K - c) = K by omega]
        rw [hst, e2]
        exact hpr
      rw [hpr']
      dsimp only
      refine wpAny_pure (hout fun hm => ?_)
      obtain ⟨p1, h0, hk0⟩ := List.mem_map.mp hm
      obtain ⟨i0, hi0, e0⟩ := List.getElem_of_mem h0
      have h00 : L[i0]? = some p1 := by rw [List.getElem?_eq_getElem hi0, e0]
      obtain ⟨c', a1, a2, a3⟩ := hre i0 p1 h00 hk0
      refine hno (c' - c) i0 (by omega) (by rw [way_shift, show c + (c' - c) = c' by omega]; exact a3) ?_
      exact (hashAt i0 p1 h00).trans (congrArg (hk w) hk0)

/-- the search that adding asks for -/
theorem find_at (R : SetN w s.heap a L es ep t) {x : Addr} {k : NK} (hx : KeyAt s.heap k x) (hu : A.units + 8 < cLine) {Q : SetFound → Shared → Prop}
    (hin : k ∈ L.map (·.2) → Q (.there none) s)
    (hout : ∀ K, k ∉ L.map (·.2) → way t.mask (hk w k) K ∉ t.place.toList →
      (∀ c, c < K → way t.mask (hk w k) c ∈ t.place.toList) → Q (.free (way t.mask (hk w k) K) false) s) :
    wpAny (model P w) A (setSearch a (.ref x) (hk w k) true) Q E s := by
  have hroom := R.room
  obtain ⟨K, hKf, hK, hKb⟩ := R.tab.first (by rw [len_hashes]; omega) (hk w k)
  have hbig : K < 100000 := by
    have : 10 * SetTable.turns t.mask ≤ 1420 := by
      unfold SetTable.turns
      rcases R.tab.mok with e | e | e <;> omega
    omega
  unfold setSearch
  refine find_from R hx hu hKf hK hKb hin (fun hn => hout K hn hK hKb) 100000 0 none rfl (Nat.zero_le _) (by omega) fun i p hp e => ?_
  have hi : (hashesOf w L)[i]? = some (hk w k) := by simp [hashesOf, hp, e]
  have hil : i < t.place.toList.length := by
    have h1 : i < L.length := (List.getElem?_eq_some_iff.mp hp).1
    have h2 := R.tab.sz
    rw [len_hashes] at h2
    rw [Array.length_toList]
    omega
  have hj := List.getElem?_eq_getElem hil
  obtain ⟨c, hc, e⟩ := R.tab.before hK hi hj
  exact ⟨c, Nat.zero_le _, hc, by rw [hj, e]⟩

/-! ### adding -/
theorem hrows_put (L : List (Addr × NK)) (p : Nat) (x : Addr × NK) :
    hrows w (L.take p ++ x :: L.drop p) = (hrows w L).take p ++ (hk w x.2, Value.ref x.1) :: (hrows w L).drop p := by
  simp [hrows]
theorem hashes_put (L : List (Addr × NK)) (p : Nat) (x : Addr × NK) :
    hashesOf w (L.take p ++ x :: L.drop p) = (hashesOf w L).take p ++ hk w x.2 :: (hashesOf w L).drop p := by
  simp [hashesOf]
theorem picks (L : List (Addr × NK)) : ∀ n, n ≤ L.length → (List.range n).filterMap (fun i => L[i]?) = L.take n
  | 0, _ => rfl
  | n + 1, h => by
    rw [List.range_succ, List.filterMap_append, picks L n (Nat.le_of_lt h), List.take_succ]
    simp [List.getElem?_eq_getElem (show n < L.length from h)]
/-- the entries in another order -/
theorem reorder (es : Array (Int × Value)) (order : Array Nat) (hr : es.toList = hrows w L) (hp : order.toList.Perm (List.range L.length)) :
    ∃ L2, (order.filterMap (es[·]?)).toList = hrows w L2 ∧ L2.Perm L ∧ hashesOf w L2 = order.toList.map fun i => (es.map (·.1)).getD i 0 := by
  have hsz := size_rows hr
  have key : ∀ l : List Nat, (∀ i ∈ l, i < L.length) → l.filterMap (fun i => es[i]?) = hrows w (l.filterMap fun i => L[i]?) ∧
      hashesOf w (l.filterMap fun i => L[i]?) = l.map fun i => (es.map (·.1)).getD i 0 := by
    intro l
    induction l with
    | nil => intro _; exact ⟨rfl, rfl⟩
    | cons i l ih =>
      intro hl
      have hi := hl i List.mem_cons_self
      obtain ⟨e1, e2⟩ := ih fun j hj => hl j (List.mem_cons_of_mem _ hj)
      have g := List.getElem?_eq_getElem hi
      have g2 := at_rows hr g
      have e4 : (es.map (·.1)).getD i 0 = hk w (L[i]).2 := by
        have e5 : (es.map (·.1))[i]? = some (hk w (L[i]).2) := by simp [g2]
        simp [Array.getD_eq_getD_getElem?, e5]
      constructor
      · rw [List.filterMap_cons_some g2, List.filterMap_cons_some g, e1]
        rfl
      · rw [List.filterMap_cons_some g, List.map_cons, ← e2, e4]
        rfl
  obtain ⟨e1, e2⟩ := key order.toList fun i hi => List.mem_range.mp (hp.mem_iff.mp hi)
  refine ⟨_, by rw [Array.toList_filterMap]; exact e1, ?_, e2⟩
  have h1 := hp.filterMap fun i => L[i]?
  rw [picks L L.length (Nat.le_refl _), List.take_length] at h1
  exact h1
/-- the table laid anew, larger -/
theorem relay_key {o : Obj} (ho : s.heap.get? a = some o) (hex : o.ExactSet) (hd : o.data = .set es ep t) (hr : es.toList = hrows w L)
    (hz : t.place.size = es.size) (hdm : t.dummies = #[]) (hfl : es.size ≤ t.mask) (nd : (L.map (·.2)).Nodup)
    (key : ∀ p ∈ L, KeyAt s.heap p.2 p.1) (ld : w.params.followText "set-order" = true ∨ t.led = true) (few : L.length < 64) {wanted M : Nat}
    (hw : SetTable.sizeAbove wanted - 1 = M) (hM : MaskOk M) (hw2 : SetTable.sizeAbove wanted ≤ 128) (hn : L.length * 5 < M * 3) {Q : Unit → Shared → Prop}
    (hQ : ∀ h' L' es' ep' t', Heap.SameBut a s.heap h' → SetN w h' a L' es' ep' t' → L'.Perm L → Q () { s with heap := h' }) :
    wpAny (model P w) A (setRelay a wanted) Q E s := by
  have hsz := size_rows hr
  have hfits : t.fits es.size = true := by
    simp only [SetTable.fits, SetTable.fill, hdm, Bool.and_eq_true, beq_iff_eq, decide_eq_true_eq]
    refine ⟨hz, ?_⟩
    show t.place.size + 0 ≤ t.mask
    omega
  obtain ⟨t', order, e, hp, T, em, el, ep', ed⟩ := relaid_ok t (hs := es.map (·.1)) (wanted := wanted) hw hM (by rw [Array.size_map, hsz]; omega)
  rw [Array.size_map, hsz] at hp
  obtain ⟨L2, r1, r2, r3⟩ := reorder es order hr hp
  rw [← r3] at T
  have hs2 : (order.filterMap (es[·]?)).size = es.size := by rw [size_rows r1, hsz, r2.length_eq]
  rw [setRelay_eq]
  refine wpAny_bind (wpAny_setState_of ho hd hfits ?_)
  dsimp only
  refine wp_if_neg (by rw [sizeLine_eq]; omega) ?_
  try refine wpAny_bind (wpAny_pure ?_)
  rw [e]
  dsimp only
  refine wpAny_bind ?_
  refine wp_if_neg (by rw [hs2]; simp) ?_
  try refine wpAny_bind (wpAny_pure ?_)
  refine wpAny_pure ?_
  dsimp only
  refine wpAny_storeSet_of ho hd ?_ (by rw [hs2, hsz, sizeLine_eq]; omega)
  have sb : Heap.SameBut a s.heap (s.heap.update a (Obj.putSet (order.filterMap (es[·]?)) t')) := Heap.SameBut.update ..
  refine hQ _ L2 (order.filterMap (es[·]?)) (ep + 1) t' sb ?_ r2
  exact { ob := ⟨_, store_at ho hd, ⟨hex.1, hex.2.1, hex.2.2⟩, rfl⟩, rows := r1, tab := T, nd := (r2.map (·.2)).nodup_iff.mpr nd
          key := fun p hpm => (key p (r2.mem_iff.mp hpm)).same ho hd sb, led := by rw [el]; exact ld
          room := by rw [r2.length_eq, em]; exact hn, few := by rw [r2.length_eq]; exact few }

/-- a key is added -/
theorem add_key (R : SetN w s.heap a L es ep t) {x : Addr} {k : NK} (hx : KeyAt s.heap k x) (hu : A.units + 8 < cLine) (hfew : L.length + 1 < 64)
    {Q : Bool → Shared → Prop}
    (hQ : ∀ b h' L' es' ep' t', Heap.SameBut a s.heap h' → SetN w h' a L' es' ep' t' → (k ∈ L.map (·.2) → L' = L) →
      (k ∉ L.map (·.2) → L'.Perm ((x, k) :: L)) → Q b { s with heap := h' }) :
    wpAny (model P w) A (setAddHashed a (.ref x) (hk w k)) Q E s := by
  obtain ⟨o, ho, hex, hd⟩ := R.ob
  have hsl := size_rows R.rows
  have hroom := R.room
  unfold setAddHashed
  refine wpAny_holding ?_
  rw [show (100000 : Nat) = 99999 + 1 from rfl, setAddHashedIn_succ]
  refine wpAny_bind (wpAny_setState_of ho hd R.fits ?_)
  dsimp only
  refine wp_if_neg (by simp [byScan, Value.scannable]) ?_
  try refine wpAny_bind (wpAny_pure ?_)
  refine wpAny_bind (find_at R hx hu (fun hm => ?_) fun K hm hK hb => ?_)
  · dsimp only
    exact wpAny_pure (hQ false s.heap L es ep t (Heap.SameBut.refl a s.heap) R (fun _ => rfl) fun z => absurd hm z)
  · dsimp only
    refine wpAny_bind (wpAny_setState_of ho hd R.fits ?_)
    dsimp only
    obtain ⟨q1, q2, q3, q4, q5, q6, q7, q8, q9⟩ := R.tab.put hK hb
    generalize hpt : t.put (way t.mask (hk w k) K) = pt at q1 q3 q4 q5 q6 q7 q8 q9 ⊢
    obtain ⟨t1, p⟩ := pt
    dsimp only at q1 q3 q4 q5 q6 q7 q8 q9 ⊢
    subst q1
    -- behind the look at the hash, by value or not
    have tail : ∀ t2 : SetTable, t2.place = t1.place → t2.dummies = t1.dummies → t2.mask = t1.mask → t2.led = t1.led → t2.tooFull = t1.tooFull →
        TabOk t2 ((hashesOf w L).take (SetTable.below t.place (way t.mask (hk w k) K)) ++ hk w k :: (hashesOf w L).drop (SetTable.below t.place (way t.mask (hk w k) K))) →
        wpAny (model P w) A (do
          storeSet a (SetTable.insertAt es (SetTable.below t.place (way t.mask (hk w k) K)) (hk w k, Value.ref x)) t2
          if (!false && t2.tooFull) = true then do
            setRelay a (SetTable.grown (es.size + 1))
            return true
          else return true) Q E s := by
      intro t2 f1 f2 f3 f4 f5 T2
      have hin : (SetTable.insertAt es (SetTable.below t.place (way t.mask (hk w k) K)) (hk w k, Value.ref x)).toList =
          hrows w (L.take (SetTable.below t.place (way t.mask (hk w k) K)) ++ (x, k) :: L.drop (SetTable.below t.place (way t.mask (hk w k) K))) := by
        rw [SetTable.toList_insertAt, hrows_put, R.rows]
      rw [← hashes_put L _ (x, k)] at T2
      generalize SetTable.below t.place (way t.mask (hk w k) K) = p at hin T2 ⊢
      have pm := put_perm L p (x, k)
      have hlen : (L.take p ++ (x, k) :: L.drop p).length = L.length + 1 := pm.length_eq
      have nd1 : ((L.take p ++ (x, k) :: L.drop p).map (·.2)).Nodup := by
        refine (pm.map (·.2)).nodup_iff.mpr ?_
        rw [List.map_cons]
        exact List.nodup_cons.mpr ⟨hm, R.nd⟩
      have hes := size_rows hin
      rw [hlen] at hes
      generalize SetTable.insertAt es p (hk w k, Value.ref x) = es1 at hin hes ⊢
      generalize L.take p ++ (x, k) :: L.drop p = L1 at pm hlen T2 nd1 hin
      refine wpAny_bind (wpAny_storeSet_of ho hd ?_ (by rw [hes, sizeLine_eq]; omega))
      have sb : Heap.SameBut a s.heap (s.heap.update a (Obj.putSet es1 t2)) := Heap.SameBut.update ..
      have ho1 := store_at (es' := es1) (t' := t2) ho hd
      generalize s.heap.update a (Obj.putSet es1 t2) = h1 at sb ho1 ⊢
      have key1 : ∀ p ∈ L1, KeyAt h1 p.2 p.1 := fun p hp => by
        rcases List.mem_cons.mp (pm.mem_iff.mp hp) with e | hp
        · rw [e]; exact hx.same ho hd sb
        · exact (R.key p hp).same ho hd sb
      have ld1 : w.params.followText "set-order" = true ∨ t2.led = true := by rw [f4, q5]; exact R.led
      have full_iff : t2.tooFull = true ↔ (L.length + 1) * 5 ≥ t.mask * 3 := by
        rw [f5]
        unfold SetTable.tooFull
        rw [decide_eq_true_eq, q9, len_hashes, q4]
      by_cases hf : t2.tooFull = true
      · first
          | (refine wpAny_bind ?_; refine wp_if_pos (by simp [hf]) ?_)
          | (refine wp_if_pos (by simp [hf]) ?_; refine wpAny_bind ?_)
        have hfull := full_iff.mp hf
        rw [hsl]
        have hsz1 : t2.place.size = es1.size := by
          have h := T2.sz
          rw [len_hashes, hlen] at h
          rw [h, hes]
        have cases2 : (t.mask = 7 ∧ L.length = 4) ∨ (t.mask = 31 ∧ L.length = 18) := by
          rcases R.tab.mok with e | e | e <;> rw [e] at hfull hroom <;> omega
        have go : ∀ M, SetTable.sizeAbove (SetTable.grown (L.length + 1)) - 1 = M → MaskOk M → SetTable.sizeAbove (SetTable.grown (L.length + 1)) ≤ 128 →
            (L.length + 1) * 5 < M * 3 →
            wpAny (model P w) A (setRelay a (SetTable.grown (L.length + 1))) (fun _ s' => wpAny (model P w) A (pure true) Q E s') E { s with heap := h1 } := by
          intro M h1' h2' h3' h4'
          refine relay_key (s := { s with heap := h1 }) ho1 ⟨hex.1, hex.2.1, hex.2.2⟩ rfl hin hsz1 T2.dm
            (by rw [hes, f3, q4]; rcases cases2 with ⟨e, e2⟩ | ⟨e, e2⟩ <;> omega) nd1 key1 ld1 (by rw [hlen]; exact hfew) h1' h2' h3' (by rw [hlen]; exact h4') ?_
          intro h2 L2 es2 ep2 t2 sb2 R2 pm2
          exact wpAny_pure (hQ true h2 L2 es2 ep2 t2 (sb.trans sb2) R2 (fun z => absurd z hm) fun _ => pm2.trans pm)
        rcases cases2 with ⟨_, e2⟩ | ⟨_, e2⟩
        · exact go 31 (by rw [e2, size_20]) (.inr (.inl rfl)) (by rw [e2, size_20]; decide) (by omega)
        · exact go 127 (by rw [e2, size_76]) (.inr (.inr rfl)) (by rw [e2, size_76]; decide) (by omega)
      · first
          | refine wp_if_neg (by simp [hf]) ?_
          | (refine wpAny_bind ?_; refine wp_if_neg (by simp [hf]) ?_; refine wpAny_pure ?_)
        have nf : ¬ (L.length + 1) * 5 ≥ t.mask * 3 := fun z => hf (full_iff.mpr z)
        refine wpAny_pure (hQ true h1 L1 es1 (ep + 1) t2 sb { ob := ⟨_, ho1, ⟨hex.1, hex.2.1, hex.2.2⟩, rfl⟩, rows := hin, tab := T2, nd := nd1, key := key1, led := ld1, room := ?_, few := by rw [hlen]; exact hfew } (fun z => absurd z hm) fun _ => pm)
        rw [hlen, f3, q4]
        omega
    have same_tab : ∀ {t2 : SetTable} {l : List Int}, t2.place = t1.place → t2.dummies = t1.dummies → t2.mask = t1.mask → TabOk t1 l → TabOk t2 l := by
      intro t2 l f1 f2 f3 T
      exact ⟨by rw [f1]; exact T.ris, by rw [f2]; exact T.dm, by rw [f1]; exact T.sz, by rw [f3]; exact T.mok, by rw [f1, f3]; exact T.bd, by rw [f1, f3]; exact T.reach⟩
    by_cases hpl : t1.plain = true
    · first
        | (refine wpAny_bind ?_; refine wp_if_pos hpl ?_; refine hashBy_key 8 k _ _ _ hx.is fun b => ?_)
        | refine wp_if_pos hpl (wpAny_bind (hashBy_key 8 k _ _ _ hx.is fun b => ?_))
      cases b with
      | true =>
        simp only [if_true]
        exact tail t1 rfl rfl rfl rfl rfl q3
      | false =>
        simp only [Bool.false_eq_true, if_false]
        exact tail { t1 with plain := false } rfl rfl rfl rfl rfl (same_tab rfl rfl rfl q3)
    · first
        | (refine wpAny_bind ?_; refine wp_if_neg hpl ?_; refine wpAny_pure ?_)
        | refine wp_if_neg hpl (wpAny_bind (wpAny_pure ?_))
      simp only [if_true]
      exact tail t1 rfl rfl rfl rfl rfl q3
end
end RW

set_option Elab.async false
set_option linter.all false
set_option maxRecDepth 100000
set_option maxHeartbeats 4000000
/-! RwSet2: set(xs) of a list or a tuple, whatever is in it: the loop that fills it is asked for. -/
namespace RW
open PySem PySem.Spec PyProof.Rows L2

/-- a set as it is made -/
abbrev newSet (w : World) : Obj := { cls := .type "set", dict := none, data := .set #[] 0 (.fresh 0 0 (!w.params.followText "set-order")) }

section
variable {P : Program} {w : World} {A : Around} {E : Value → Shared → Prop} {s : Shared}

/-- what filling a new set at S with the items gives: Res of the heap behind it -/
def Fills (P : Program) (w : World) (A : Around) (h0 : Heap) (S : Addr) (items : Array Value) (Res : Heap → Prop) : Prop :=
  ∀ (I : Addr) (fp wr : List Addr) (St : Nat → Heap → Prop) (s1 : Shared) (R : Result → Shared → Prop),
    Walks P w A.in1 I fp wr items.size (fun i v => items[i]? = some v) St → S ∉ fp → St 0 s1.heap →
    (∀ b o, h0.get? b = some o → s1.heap.get? b = some o) → s1.heap.get? S = some (newSet w) → h0.get? S = none →
    (∀ b ∈ wr, h0.get? b = none) →
    (∀ s', s'.gens = s1.gens → s'.drawn = s1.drawn → s'.os = s1.os → Res s'.heap → (∀ b o, h0.get? b = some o → s'.heap.get? b = some o) → R (.ok (.ret .none)) s') →
    codeAny (model P w) A (.builtin "set.update.loop" ⟨[.ref S, .ref I], []⟩) R s1

theorem none_above {h : Heap} {b : Addr} (hb : h.objs.size ≤ b) : h.get? b = none := by
  cases q : h.get? b with
  | none => rfl
  | some o => exact absurd (Nat.lt_of_lt_of_le (Heap.lt_size q) hb) (Nat.lt_irrefl _)

set_option maxHeartbeats 8000000 in
/-- set(l) -/
theorem call_set_any {l : Addr} {items : Array Value} {Res : Heap → Prop} {Q : Value → Shared → Prop} (hh : A.handled = none)
    (hl : s.heap.IsList l items ∨ s.heap.IsTuple l items) (fill : Fills P w A.in1.in1 s.heap s.heap.objs.size items Res)
    (h : ∀ (h' : Heap) (tk : Nat), Res h' → (∀ b o, s.heap.get? b = some o → h'.get? b = some o) → Q (.ref s.heap.objs.size) { s with heap := h', toks := tk }) :
    wpAny (model P w) A (call (.type "set") [.ref l]) Q E s := by
  obtain ⟨c, tl, hmro⟩ := F.called_set.mro
  have hmade := F.called_set.made
  have hsub := F.called_set.sub
  refine wpAny_call (codeAny_of_tree ?_)
  show wpAny _ _ (callAny (.type "set") _) _ _ _
  refine wpAny_pure ⟨Code.quiet_builtin _ (by decide +kernel), codeAny_builtin F.entry_type_call ?_⟩
  rw [Around.under_plain (weight_type_call_type "set" [.ref l] []) rfl]
  have h1 := F.called_set.notType
  have h2 := F.called_set.canCreate
  have hct := F.typeCall_set_1 (.ref l)
  repeat (any_goals (first | assumption | wp_step))
  refine codeAny_mono (code_set_led1 (.ref l) (E := E) (Q₁ := fun obj s₁ => obj = .ref s.heap.objs.size ∧
    s₁ = { s with heap := s.heap.push (newSet w) }) ⟨rfl, rfl⟩) fun r s₁ hr => ?_
  cases r with
  | error e => exact hr
  | ok fl =>
    cases fl with
    | ret obj =>
      obtain ⟨rfl, rfl⟩ := hr
      have hS : (s.heap.push (newSet w)).get? s.heap.objs.size = some (newSet w) := Heap.get?_push_size _ rfl
      have hT : Shared.TypeIs { s with heap := s.heap.push (newSet w) } (.ref s.heap.objs.size) "set" := ⟨_, hS, rfl⟩
      have hli := F.called_set.init.lookup
      have hbi := F.called_set.init.bind (.ref s.heap.objs.size)
      repeat (any_goals (first | assumption | wp_step))
      refine codeAny_mono (codeAny_call_builtin (R := wants (fun r s₂ => r = .none ∧ ∃ h' tk, s₂ = { s with heap := h', toks := tk } ∧ Res h' ∧
          (∀ b o, s.heap.get? b = some o → h'.get? b = some o)) E) F.called_set.init.plain F.entry_set_init (check_set_init_1 hT ?_)) fun r₂ s₂ hr₂ => ?_
      · have hlS : l < s.heap.objs.size := by
          rcases hl with ⟨o, ho, _⟩ | ⟨o, ho, _⟩ <;> exact Heap.lt_size ho
        have hneI : l ≠ (s.heap.push (newSet w)).objs.size := by
          rw [Heap.size_push]; exact Nat.ne_of_lt (Nat.lt_succ_of_lt hlS)
        have hSf : s.heap.objs.size ∉ [(s.heap.push (newSet w)).objs.size, l] := by
          rw [Heap.size_push]; simp only [List.mem_cons, List.mem_singleton, List.not_mem_nil, or_false, not_or]
          exact ⟨Nat.ne_of_lt (Nat.lt_succ_self _), Nat.ne_of_gt hlS⟩
        have hh3 : A.in1.in1.in1.handled = none := by simp [hh]
        have newI : ∀ b ∈ [(s.heap.push (newSet w)).objs.size], s.heap.get? b = none := fun b hb => none_above (by
          rw [List.mem_singleton.mp hb, Heap.size_push]
          exact Nat.le_succ _)
        -- behind the loop
        have fin : ∀ s' : Shared, s'.gens = s.gens → s'.drawn = s.drawn → s'.os = s.os → Res s'.heap → (∀ b o, s.heap.get? b = some o → s'.heap.get? b = some o) →
            ∃ h' tk, s' = { s with heap := h', toks := tk } ∧ Res h' ∧ ∀ b o, s.heap.get? b = some o → h'.get? b = some o := by
          intro s' e1 e2 e3 r k
          obtain ⟨h', g2, d', tk', os'⟩ := s'
          dsimp only at e1 e2 e3 r k
          subst e1; subst e2; subst e3
          exact ⟨h', tk', rfl, r, k⟩
        rcases hl with hl | hl
        · obtain ⟨ol, hol, hcl, nl, hdl⟩ := hl
          obtain ⟨ocls, odict, odata, oslots⟩ := ol
          simp only at hcl hdl
          subst hcl; subst hdl
          have hol' : (s.heap.push (newSet w)).get? l = some { cls := .type "list", dict := odict, data := .seq items nl, slots := oslots } := Heap.get?_push_of_some _ hol
          have hsls := F.sub_list_set
          have hslf := F.sub_list_frozenset
          have hne : (Value.type "list" == Value.type "dict") = false := by decide
          have hl1 : (s.heap.push (newSet w)).IsList l items := ⟨_, hol', rfl, nl, rfl⟩
          unfold Builtin.«set.__init__» noKeywords Builtin.Frozenset.updateFrom
          generalize hPI : pyIter = PI
          wp_walk
          subst hPI
          refine wpAny_pyIter_list hl1 ?_
          refine wpAny_bind (wpAny_runValue ?_)
          refine fill _ _ _ _ _ _ (Walks.list hh3 _ l hneI items) hSf ⟨⟨_, Heap.get?_push_size _ rfl, rfl, rfl⟩, (hl1.push _)⟩
            (fun b o e => Heap.get?_push_of_some _ (Heap.get?_push_of_some _ e)) (Heap.get?_push_of_some _ hS) (none_above (Nat.le_refl _)) newI ?_
          intro s' e1 e2 e3 r k
          obtain ⟨h', tk, e, r', k'⟩ := fin s' e1 e2 e3 r k
          show wpAny _ _ _ _ _ _
          refine wpAny_pure ?_
          show wpAny _ _ (ret Value.none) _ _ _
          exact wpAny_pure ⟨rfl, h', tk, e, r', k'⟩
        · obtain ⟨ol, hol, hcl, nl, hdl⟩ := hl
          obtain ⟨ocls, odict, odata, oslots⟩ := ol
          simp only at hcl hdl
          subst hcl; subst hdl
          have hol' : (s.heap.push (newSet w)).get? l = some { cls := .type "tuple", dict := odict, data := .seq items nl, slots := oslots } := Heap.get?_push_of_some _ hol
          have hsls := F.sub_tuple_set
          have hslf := F.sub_tuple_frozenset
          have hne : (Value.type "tuple" == Value.type "dict") = false := by decide
          have hl1 : (s.heap.push (newSet w)).IsTuple l items := ⟨_, hol', rfl, nl, rfl⟩
          unfold Builtin.«set.__init__» noKeywords Builtin.Frozenset.updateFrom
          generalize hPI : pyIter = PI
          wp_walk
          subst hPI
          refine wpAny_pyIter_tuple hl1 ?_
          refine wpAny_bind (wpAny_runValue ?_)
          refine fill _ _ _ _ _ _ (Walks.tuple hh3 _ l hneI items) hSf ⟨⟨_, Heap.get?_push_size _ rfl, rfl, rfl⟩, (hl1.push _)⟩
            (fun b o e => Heap.get?_push_of_some _ (Heap.get?_push_of_some _ e)) (Heap.get?_push_of_some _ hS) (none_above (Nat.le_refl _)) newI ?_
          intro s' e1 e2 e3 r k
          obtain ⟨h', tk, e, r', k'⟩ := fin s' e1 e2 e3 r k
          show wpAny _ _ _ _ _ _
          refine wpAny_pure ?_
          show wpAny _ _ (ret Value.none) _ _ _
          exact wpAny_pure ⟨rfl, h', tk, e, r', k'⟩
      · cases r₂ with
        | error e => exact hr₂
        | ok fl₂ =>
          cases fl₂ with
          | ret r =>
            obtain ⟨rfl, h', tk, rfl, hR, hk'⟩ := hr₂
            repeat (any_goals (first | assumption | wp_step))
            exact h _ _ hR hk'
          | _ => exact hr₂.elim
    | _ => exact hr.elim

/-! ### filled with keys -/
/-- what the set has got from the first i items -/
structure Got (ks : List (Addr × NK)) (i : Nat) (L : List (Addr × NK)) : Prop where
  sub : ∀ p ∈ L, p ∈ ks.take i
  all : ∀ p ∈ ks.take i, p.2 ∈ L.map (·.2)
  len : L.length ≤ i
theorem Got.step {ks L L' : List (Addr × NK)} {i : Nat} {x : Addr × NK} (g : Got ks i L) (h : ks[i]? = some x)
    (c1 : x.2 ∈ L.map (·.2) → L' = L) (c2 : x.2 ∉ L.map (·.2) → L'.Perm (x :: L)) : Got ks (i + 1) L' := by
  have tn : ks.take (i + 1) = ks.take i ++ [x] := by simp [List.take_succ, h]
  rcases Classical.em (x.2 ∈ L.map (·.2)) with c | c
  · rw [c1 c]
    refine ⟨fun p hp => by rw [tn]; exact List.mem_append_left _ (g.sub p hp), fun p hp => ?_, Nat.le_succ_of_le g.len⟩
    rw [tn] at hp
    rcases List.mem_append.mp hp with z | z
    · exact g.all p z
    · rw [List.mem_singleton.mp z]; exact c
  · have pm := c2 c
    refine ⟨fun p hp => ?_, fun p hp => ?_, by rw [pm.length_eq]; exact Nat.succ_le_succ g.len⟩
    · rw [tn]
      rcases List.mem_cons.mp (pm.mem_iff.mp hp) with e | z
      · exact List.mem_append_right _ (List.mem_singleton.mpr e)
      · exact List.mem_append_left _ (g.sub p z)
    · rw [(pm.map (·.2)).mem_iff, List.map_cons]
      rw [tn] at hp
      rcases List.mem_append.mp hp with z | z
      · exact List.mem_cons_of_mem _ (g.all p z)
      · rw [List.mem_singleton.mp z]; exact List.mem_cons_self
theorem SetN.keep {h h' : Heap} {a : Addr} {L : List (Addr × NK)} {es : Array (Int × Value)} {ep : Nat} {t : SetTable} (R : SetN w h a L es ep t)
    (ha : ∀ o, h.get? a = some o → h'.get? a = some o) (hkey : ∀ p ∈ L, KeyAt h' p.2 p.1) : SetN w h' a L es ep t := by
  obtain ⟨o, ho, r⟩ := R.ob
  exact { R with ob := ⟨o, ha o ho, r⟩, key := hkey }
theorem SetN.new {h : Heap} {a : Addr} (ho : h.get? a = some (newSet w)) : SetN w h a [] #[] 0 (.fresh 0 0 (!w.params.followText "set-order")) where
  ob := ⟨_, ho, ⟨rfl, rfl, rfl⟩, rfl⟩
  rows := rfl
  tab := ⟨List.Pairwise.nil, rfl, rfl, .inl rfl, fun x hx => (by cases hx), fun i h j hi => (by simp [hashesOf] at hi)⟩
  nd := List.nodup_nil
  key := fun p hp => (by cases hp)
  led := by
    show _ ∨ (!w.params.followText "set-order") = true
    cases w.params.followText "set-order" <;> simp
  room := by
    show 0 * 5 < 7 * 3
    decide
  few := by simp
def SetRes (w : World) (a : Addr) (ks : List (Addr × NK)) (i : Nat) (h : Heap) : Prop := ∃ L es ep t, SetN w h a L es ep t ∧ Got ks i L

theorem fills_keys {h0 : Heap} {S : Addr} {items : Array Value} (ks : List (Addr × NK)) (hit : items.toList = ks.map fun p => Value.ref p.1)
    (hk : ∀ p ∈ ks, KeyAt h0 p.2 p.1) (hfew : ks.length < 64) (hu : A.in1.units + 8 < cLine) :
    Fills P w A h0 S items (SetRes w S ks ks.length) := by
  intro I fp wr St s1 R W hSf st0 hkp0 hnew hS0 hw0 hR
  have hn : items.size = ks.length := by
    have q := congrArg List.length hit
    rw [Array.length_toList, List.length_map] at q
    exact q
  have hval : ∀ (i : Nat) (v : Value), items[i]? = some v → ∃ p, ks[i]? = some p ∧ v = .ref p.1 := fun i v hv => by
    have q : items.toList[i]? = some v := by rw [Array.getElem?_toList]; exact hv
    rw [hit, List.getElem?_map] at q
    cases hq : ks[i]? with
    | none => rw [hq] at q; cases q
    | some p =>
      rw [hq] at q
      exact ⟨p, rfl, (Option.some.inj q).symm⟩
  have WS := W.toS
  have hSw : S ∉ wr := fun h => hSf (W.sub _ h)
  have keepM : ∀ {s s' : Shared}, Moved wr (fun a b => b = a) s s' → (∀ b o, h0.get? b = some o → s.heap.get? b = some o) → ∀ b o, h0.get? b = some o → s'.heap.get? b = some o := fun hm hkp b o e =>
    hm.heap b o (fun hb => by rw [hw0 b hb] at e; cases e) (hkp b o e)
  have main : ∀ (k i : Nat) (s : Shared), items.size - i = k → i ≤ items.size → St i s.heap → (∀ b o, h0.get? b = some o → s.heap.get? b = some o) →
      SetRes w S ks i s.heap → s.gens = s1.gens → s.drawn = s1.drawn → s.os = s1.os →
      codeAny (model P w) A (.builtin "set.update.loop" ⟨[.ref S, .ref I], []⟩) R s := by
    intro k
    induction k with
    | zero =>
      intro i s hk' hi hst hkp ⟨L, es, ep, t, hS, g⟩ e1 e2 e3
      have hin : i = items.size := by omega
      subst hin
      refine codeAny_builtin F.entry_set_update_loop ?_
      rw [Around.under_plainId F.plain_set_update_loop _]
      show wpAny _ A.in1 (pyNext (.ref I) >>= _) _ _ s
      refine wpAny_bind (WS.done s _ _ hst fun s' hm => ?_)
      show wpAny _ A.in1 (ret Value.none) _ _ s'
      have hkp' := keepM hm hkp
      refine wpAny_pure (hR s' (Eq.trans hm.gens e1) (hm.drawn.trans e2) (hm.os.trans e3) ⟨L, es, ep, t, hS.keep (fun o e => hm.heap S o hSw e) fun p hp => (hk p (List.mem_of_mem_take (g.sub p hp))).keep hkp', ?_⟩ hkp')
      rw [← hn]
      exact g
    | succ k ih =>
      intro i s hk' hi hst hkp ⟨L, es, ep, t, hS, g⟩ e1 e2 e3
      have hlt : i < items.size := by omega
      refine codeAny_builtin F.entry_set_update_loop ?_
      rw [Around.under_plainId F.plain_set_update_loop _]
      show wpAny _ A.in1 (pyNext (.ref I) >>= _) _ _ s
      refine wpAny_bind (WS.item i s _ _ hlt hst fun v s' hP hst' hm => ?_)
      obtain ⟨p, hp, rfl⟩ := hval i v hP
      have hkp' := keepM hm hkp
      have hS' : SetN w s'.heap S L es ep t := hS.keep (fun o e => hm.heap S o hSw e) fun q hq => (hk q (List.mem_of_mem_take (g.sub q hq))).keep hkp'
      have hx : KeyAt s'.heap p.2 p.1 := (hk p (List.mem_of_getElem? hp)).keep hkp'
      show wpAny _ A.in1 (holding [Value.ref p.1] (setAdd S (.ref p.1)) >>= _) _ _ s'
      refine wpAny_bind (wpAny_holding ?_)
      unfold setAdd
      refine wpAny_holding ?_
      have hd := hx.dp
      refine wpAny_bind (pyHash_key p.2 _ _ _ _ hx.is (by omega) ?_)
      refine add_key (s := { s' with toks := s'.toks + p.2.draws }) hS' hx hu (by have := g.len; omega) fun b h' L' es' ep' t' hsb hS2 c1 c2 => ?_
      have hkp2 : ∀ b o, h0.get? b = some o → h'.get? b = some o := fun b o e => (hsb.2 b (fun z => by rw [z, hS0] at e; cases e)).trans (hkp' b o e)
      refine wpAny_pure ⟨plainId_quiet F.plain_set_update_loop _, ih (i + 1) _ (by omega) hlt (W.frame _ s'.heap _ hst' fun b hb o e => ?_) hkp2 ⟨L', es', ep', t', hS2, g.step hp c1 c2⟩
        (Eq.trans hm.gens e1) (hm.drawn.trans e2) (hm.os.trans e3)⟩
      show h'.get? b = some o
      rw [hsb.2 b (fun h : b = S => hSf (by rw [← h]; exact hb))]
      exact e
  exact main (items.size - 0) 0 s1 (by omega) (Nat.zero_le _) st0 hkp0 ⟨[], #[], 0, _, SetN.new hnew, ⟨fun p h => (by cases h), fun p h => (by simp at h), Nat.le_refl _⟩⟩ rfl rfl rfl
end
end RW

set_option Elab.async false
set_option linter.all false
set_option maxRecDepth 100000
set_option maxHeartbeats 4000000
/-! RwSet3: sets of texts, at the level of the machine. -/
namespace RW
open PySem PySem.Spec PyProof.Rows L2
open PySem.Froz (SD sObj addTx tailTx TxOk add_ok add_x is_str get_upd)

section
variable {P : Program} {w : World} {A : Around} {E : Value → Shared → Prop} {s : Shared}

structure SetS (P : Program) (w : World) (h : Heap) (a : Addr) (l : List Str) (D : SD) : Prop where
  ob : h.get? a = some (sObj "set" D)
  ok : TxOk P w D l
  ris : Ris D.2.2.place.toList
  led : w.params.followText "set-order" = true ∨ D.2.2.led = true
  nd : l.Nodup
  few : l.length < scanBound
theorem tailTx_ris {ep : Nat} {es : Array (Int × Value)} {t : SetTable} {b : Bool} (r : Ris t.place.toList) : Ris (tailTx ep es t b).2.2.place.toList := by
  unfold tailTx
  split
  · exact relayAll_ris _ _ _
  · exact r
theorem tailTx_led {ep : Nat} {es : Array (Int × Value)} {t : SetTable} {b : Bool} : (tailTx ep es t b).2.2.led = t.led := by
  unfold tailTx
  split
  · exact relayAll_led _ _ _
  · rfl
theorem addTx_ris {h : Int} {v : Value} {D : SD} (r : Ris D.2.2.place.toList) : Ris (addTx h v D).2.2.place.toList := by
  unfold addTx
  refine tailTx_ris ?_
  have q := layNew_ris D.2.2 D.1 h v r
  split <;> exact q
theorem addTx_led {h : Int} {v : Value} {D : SD} : (addTx h v D).2.2.led = D.2.2.led := by
  unfold addTx
  rw [tailTx_led]
  have q := layNew_led D.2.2 D.1 h v
  split <;> exact q
theorem SetS.new {h : Heap} {a : Addr} (ho : h.get? a = some (newSet w)) : SetS P w h a [] (#[], 0, .fresh 0 0 (!w.params.followText "set-order")) where
  ob := ho
  ok := TxOk.nil (by rfl)
  ris := List.Pairwise.nil
  led := by
    show _ ∨ (!w.params.followText "set-order") = true
    cases w.params.followText "set-order" <;> simp
  nd := List.nodup_nil
  few := by decide
/-- a text that is there already -/
theorem add_old {a : Addr} {l : List Str} {D : SD} {k : Str} {u : Tok} {Q : Bool → Shared → Prop} (R : SetS P w s.heap a l D) (hm : k ∈ l) (hb : l.length < scanBound)
    (h : Q false s) : wpAny (model P w) A (setAddHashed a (.str k u) (hashStr w k)) Q E s := by
  obtain ⟨es, ep, t⟩ := D
  have ho := R.ob
  have hd : (sObj "set" (es, ep, t)).data = .set es ep t := rfl
  have hf : t.fits es.size = true := R.ok.fit
  have hel : ElemsOf (strKind P w) es.toList := R.ok.el
  have hsz : es.size = l.length := R.ok.sz
  have hkey : (strKind P w).is k (.str k u) = true := is_str k u
  have hsome : ∃ j, List.findIdx? (fun e => (strKind P w).is k e.2) es.toList = some j := by
    cases hr : List.findIdx? (fun e => (strKind P w).is k e.2) es.toList with
    | some j => exact ⟨j, rfl⟩
    | none =>
      obtain ⟨e, he, z⟩ := (R.ok.mem k).mp hm
      have q := List.findIdx?_eq_none_iff.mp hr e he
      rw [z] at q
      cases q
  obtain ⟨j, hj⟩ := hsome
  unfold setAddHashed setAddHashedIn
  refine wpAny_holding (wpAny_bind (wpAny_setState_of ho hd hf ?_))
  dsimp only
  rw [byScan_of rfl (by omega) hel]
  simp only [↓reduceIte]
  unfold setAddByScan
  refine wpAny_bind ?_
  refine wpAny_bind (wpAny_rule ?_)
  refine wpAny_bind (wpAny_setScan_of (knd := strKind P w) (k := k) hkey ho hd hf hel ?_)
  rw [hj]
  dsimp only
  exact wpAny_pure (wpAny_pure h)
theorem add_text {a : Addr} {l : List Str} {D : SD} {k : Str} {u : Tok} {Q : Bool → Shared → Prop} (R : SetS P w s.heap a l D) (hb : l.length + 1 < scanBound)
    (h : ∀ b h' l' D', Heap.SameBut a s.heap h' → SetS P w h' a l' D' → (∀ x, x ∈ l' ↔ x = k ∨ x ∈ l) → l'.length ≤ l.length + 1 → Q b { s with heap := h' }) :
    wpAny (model P w) A (setAddHashed a (.str k u) (hashStr w k)) Q E s := by
  rcases Classical.em (k ∈ l) with c | c
  · refine add_old R c (by omega) (h false s.heap l D (Heap.SameBut.refl a s.heap) R (fun x => ⟨.inr, fun z => ?_⟩) (Nat.le_succ _))
    rcases z with z | z
    · rw [z]; exact c
    · exact z
  · refine add_x R.ob R.ok c hb ?_
    have ho := R.ob
    have e0 : (s.heap.update a (fun _ => sObj "set" (addTx (hashStr w k) (.str k u) D))).get? a = some (sObj "set" (addTx (hashStr w k) (.str k u) D)) := get_upd _ ho rfl
    refine h true _ (k :: l) _ (Heap.SameBut.update ..) ⟨e0, add_ok u R.ok, addTx_ris R.ris, by rw [addTx_led]; exact R.led, List.nodup_cons.mpr ⟨c, R.nd⟩, hb⟩ (fun x => List.mem_cons) (Nat.le_refl _)

def SetResS (P : Program) (w : World) (a : Addr) (xs : List Str) (h : Heap) : Prop := ∃ l D, SetS P w h a l D ∧ (∀ x, x ∈ l ↔ x ∈ xs) ∧ l.length ≤ xs.length
theorem SetS.keep {h h' : Heap} {a : Addr} {l : List Str} {D : SD} (R : SetS P w h a l D) (ha : ∀ o, h.get? a = some o → h'.get? a = some o) : SetS P w h' a l D :=
  { R with ob := ha _ R.ob }
theorem fills_texts {h0 : Heap} {S : Addr} {items : Array Value} (xs : List Str) (hit : StrsAre items.toList xs) (hfew : xs.length + 1 < scanBound) :
    Fills P w A h0 S items (SetResS P w S xs) := by
  intro I fp wr St s1 R W hSf st0 hkp0 hnew hS0 hw0 hR
  have hn : items.size = xs.length := by
    have q := StrsAre.length hit
    rw [Array.length_toList] at q
    exact q
  have WS := W.toS
  have hSw : S ∉ wr := fun h => hSf (W.sub _ h)
  have keepM : ∀ {s s' : Shared}, Moved wr (fun a b => b = a) s s' → (∀ b o, h0.get? b = some o → s.heap.get? b = some o) → ∀ b o, h0.get? b = some o → s'.heap.get? b = some o := fun hm hkp b o e =>
    hm.heap b o (fun hb => by rw [hw0 b hb] at e; cases e) (hkp b o e)
  have main : ∀ (k i : Nat) (s : Shared), items.size - i = k → i ≤ items.size → St i s.heap → (∀ b o, h0.get? b = some o → s.heap.get? b = some o) →
      SetResS P w S (xs.take i) s.heap → s.gens = s1.gens → s.drawn = s1.drawn → s.os = s1.os →
      codeAny (model P w) A (.builtin "set.update.loop" ⟨[.ref S, .ref I], []⟩) R s := by
    intro k
    induction k with
    | zero =>
      intro i s hk' hi hst hkp ⟨l, D, hS, g, gl⟩ e1 e2 e3
      have hin : i = items.size := by omega
      subst hin
      refine codeAny_builtin F.entry_set_update_loop ?_
      rw [Around.under_plainId F.plain_set_update_loop _]
      show wpAny _ A.in1 (pyNext (.ref I) >>= _) _ _ s
      refine wpAny_bind (WS.done s _ _ hst fun s' hm => ?_)
      show wpAny _ A.in1 (ret Value.none) _ _ s'
      rw [List.take_of_length_le (by omega)] at g gl
      exact wpAny_pure (hR s' (Eq.trans hm.gens e1) (hm.drawn.trans e2) (hm.os.trans e3) ⟨l, D, hS.keep (fun o e => hm.heap S o hSw e), g, gl⟩ (keepM hm hkp))
    | succ k ih =>
      intro i s hk' hi hst hkp ⟨l, D, hS, g, gl⟩ e1 e2 e3
      have hlt : i < items.size := by omega
      refine codeAny_builtin F.entry_set_update_loop ?_
      rw [Around.under_plainId F.plain_set_update_loop _]
      show wpAny _ A.in1 (pyNext (.ref I) >>= _) _ _ s
      refine wpAny_bind (WS.item i s _ _ hlt hst fun v s' hP hst' hm => ?_)
      obtain ⟨tk, ev⟩ := SS.strs_at hit i v (by rw [Array.getElem?_toList]; exact hP)
      subst ev
      have hx : xs[i]? = some (xs.getD i Str.empty) := by
        rw [List.getD_eq_getElem?_getD, List.getElem?_eq_getElem (by omega)]
        rfl
      generalize xs.getD i Str.empty = x at hx hP ⊢
      have hkp' := keepM hm hkp
      have hS' : SetS P w s'.heap S l D := hS.keep (fun o e => hm.heap S o hSw e)
      have tn : xs.take (i + 1) = xs.take i ++ [x] := by simp [List.take_succ, hx]
      have hll : l.length ≤ i := by rw [List.length_take] at gl; omega
      show wpAny _ A.in1 (holding [Value.str x tk] (setAdd S (.str x tk)) >>= _) _ _ s'
      refine wpAny_bind (wpAny_holding ?_)
      unfold setAdd
      refine wpAny_holding ?_
      refine wpAny_bind (wpAny_pyHash_str ?_)
      refine add_text (s := { s' with toks := s'.toks + 1 }) hS' (by omega) fun b h' l' D' hsb hS2 g2 gl2 => ?_
      have hkp2 : ∀ b o, h0.get? b = some o → h'.get? b = some o := fun b o e => (hsb.2 b (fun z => by rw [z, hS0] at e; cases e)).trans (hkp' b o e)
      refine wpAny_pure ⟨plainId_quiet F.plain_set_update_loop _, ih (i + 1) _ (by omega) hlt (W.frame _ s'.heap _ hst' fun b hb o e => ?_) hkp2 ⟨l', D', hS2, fun y => ?_, ?_⟩
        (Eq.trans hm.gens e1) (hm.drawn.trans e2) (hm.os.trans e3)⟩
      · show h'.get? b = some o
        rw [hsb.2 b (fun h : b = S => hSf (by rw [← h]; exact hb))]
        exact e
      · rw [g2, tn, List.mem_append, List.mem_singleton, g]
        exact Or.comm
      · rw [List.length_take] at gl ⊢
        omega
  exact main (items.size - 0) 0 s1 (by omega) (Nat.zero_le _) st0 hkp0 ⟨[], _, SetS.new hnew, fun x => (by simp), (by simp)⟩ rfl rfl rfl
end
end RW

set_option Elab.async false
set_option linter.all false
set_option maxRecDepth 100000
set_option maxHeartbeats 4000000
/-! RwSort: the order of nested keys, and their comparison by the machine. -/
namespace RW
open PySem PySem.Spec PyProof.Rows L2

/-! ### the order -/
def slt (a b : Str) : Bool := decide (a.cps.toList < b.cps.toList)
theorem str_ext {a b : Str} (h : a.cps.toList = b.cps.toList) : a = b := by
  have e : a.cps = b.cps := Array.toList_inj.mp h
  cases a; cases b
  simp only [Str.mk.injEq]
  exact e
theorem slt_irrefl (a : Str) : slt a a = false := decide_eq_false (List.lt_irrefl _)
theorem slt_trans {a b c : Str} (h1 : slt a b = true) (h2 : slt b c = true) : slt a c = true :=
  decide_eq_true (List.lt_trans (of_decide_eq_true h1) (of_decide_eq_true h2))
theorem slt_tri {a b : Str} (h1 : slt a b = false) (h2 : slt b a = false) : a = b :=
  str_ext (List.le_antisymm (List.not_lt.mp (of_decide_eq_false h2)) (List.not_lt.mp (of_decide_eq_false h1)))

mutual
def nlt : NK → NK → Bool
  | .none, .none => false
  | .none, .num _ => true
  | .none, .text _ => true
  | .none, .tup _ => true
  | .num _, .none => false
  | .num a, .num b => decide (a < b)
  | .num _, .text _ => true
  | .num _, .tup _ => true
  | .text _, .none => false
  | .text _, .num _ => false
  | .text a, .text b => slt a b
  | .text _, .tup _ => true
  | .tup _, .none => false
  | .tup _, .num _ => false
  | .tup _, .text _ => false
  | .tup a, .tup b => nlts a b
def nlts : List NK → List NK → Bool
  | [], [] => false
  | [], _ :: _ => true
  | _ :: _, [] => false
  | a :: as, b :: bs => if a = b then nlts as bs else nlt a b
end

mutual
theorem nlt_irrefl : ∀ a : NK, nlt a a = false
  | .none => by simp [nlt]
  | .num a => by simp [nlt]
  | .text a => by simp [nlt, slt_irrefl]
  | .tup a => by rw [nlt]; exact nlts_irrefl a
theorem nlts_irrefl : ∀ a : List NK, nlts a a = false
  | [] => by simp [nlts]
  | a :: as => by rw [nlts, if_pos rfl]; exact nlts_irrefl as
end
mutual
theorem nlt_tri : ∀ a b : NK, nlt a b = false → nlt b a = false → a = b
  | .none, .none, _, _ => rfl
  | .none, .num _, h, _ => by simp [nlt] at h
  | .none, .text _, h, _ => by simp [nlt] at h
  | .none, .tup _, h, _ => by simp [nlt] at h
  | .num _, .none, _, h => by simp [nlt] at h
  | .num a, .num b, h1, h2 => by
    simp only [nlt, decide_eq_false_iff_not] at h1 h2
    rw [show a = b by omega]
  | .num _, .text _, h, _ => by simp [nlt] at h
  | .num _, .tup _, h, _ => by simp [nlt] at h
  | .text _, .none, _, h => by simp [nlt] at h
  | .text _, .num _, _, h => by simp [nlt] at h
  | .text a, .text b, h1, h2 => by
    simp only [nlt] at h1 h2
    rw [slt_tri h1 h2]
  | .text _, .tup _, h, _ => by simp [nlt] at h
  | .tup _, .none, _, h => by simp [nlt] at h
  | .tup _, .num _, _, h => by simp [nlt] at h
  | .tup _, .text _, _, h => by simp [nlt] at h
  | .tup a, .tup b, h1, h2 => by
    rw [nlt] at h1 h2
    rw [nlts_tri a b h1 h2]
theorem nlts_tri : ∀ a b : List NK, nlts a b = false → nlts b a = false → a = b
  | [], [], _, _ => rfl
  | [], _ :: _, h, _ => by simp [nlts] at h
  | _ :: _, [], _, h => by simp [nlts] at h
  | a :: as, b :: bs, h1, h2 => by
    rw [nlts] at h1 h2
    by_cases e : a = b
    · subst e
      rw [if_pos rfl] at h1 h2
      rw [nlts_tri as bs h1 h2]
    · rw [if_neg e] at h1
      rw [if_neg (fun z => e z.symm)] at h2
      exact absurd (nlt_tri a b h1 h2) e
end
mutual
theorem nlt_trans : ∀ a b c : NK, nlt a b = true → nlt b c = true → nlt a c = true
  | .none, b, c, h1, h2 => by cases b <;> cases c <;> simp_all [nlt]
  | .num a, b, c, h1, h2 => by
    cases b <;> cases c <;> simp_all [nlt]
    omega
  | .text a, b, c, h1, h2 => by
    cases b <;> cases c <;> simp_all [nlt]
    exact slt_trans h1 h2
  | .tup a, b, c, h1, h2 => by
    cases b with
    | tup b =>
      cases c with
      | tup c => rw [nlt] at h1 h2 ⊢; exact nlts_trans a b c h1 h2
      | _ => simp [nlt] at h2
    | _ => simp [nlt] at h1
theorem nlts_trans : ∀ a b c : List NK, nlts a b = true → nlts b c = true → nlts a c = true
  | [], [], _, h1, _ => by simp [nlts] at h1
  | [], _ :: _, [], _, h2 => by simp [nlts] at h2
  | [], _ :: _, _ :: _, _, _ => by simp [nlts]
  | _ :: _, [], _, h1, _ => by simp [nlts] at h1
  | _ :: _, _ :: _, [], _, h2 => by simp [nlts] at h2
  | a :: as, b :: bs, c :: cs, h1, h2 => by
    rw [nlts] at h1 h2 ⊢
    by_cases e1 : a = b
    · subst e1
      rw [if_pos rfl] at h1
      by_cases e2 : a = c
      · rw [if_pos e2] at h2 ⊢
        exact nlts_trans as bs cs h1 h2
      · rw [if_neg e2] at h2 ⊢
        exact h2
    · rw [if_neg e1] at h1
      by_cases e2 : b = c
      · subst e2
        rw [if_neg e1]
        exact h1
      · rw [if_neg e2] at h2
        have h3 := nlt_trans a b c h1 h2
        by_cases e3 : a = c
        · subst e3
          rw [nlt_irrefl] at h3
          cases h3
        · rw [if_neg e3]
          exact h3
end
theorem nlt_asym {a b : NK} (h : nlt a b = true) : nlt b a = false := by
  cases q : nlt b a with
  | false => rfl
  | true =>
    have z := nlt_trans a b a h q
    rw [nlt_irrefl] at z
    cases z
theorem nlt_neg {a b c : NK} (h1 : nlt b a = false) (h2 : nlt c b = false) : nlt c a = false := by
  cases q : nlt c a with
  | false => rfl
  | true =>
    cases r : nlt a b with
    | true =>
      rw [nlt_trans c a b q r] at h2
      cases h2
    | false =>
      have e := nlt_tri a b r h1
      subst e
      rw [q] at h2
      cases h2
/-- less or equal -/
def nle (a b : NK) : Bool := !nlt b a
end RW

set_option Elab.async false
set_option linter.all false
set_option maxRecDepth 100000
set_option maxHeartbeats 4000000
/-! RwSort2: sorted of lists and sets of ordered keys, by the machine. -/
namespace RW
open PySem PySem.Spec PyProof.Rows L2
open PySem.SeqAt (EqAt RcLt firstLt firstLt_yes firstLt_no)
open SrtO (Swo Srtd Stb SortableO Cmp lt2 list_sort_ord)

mutual
/-- the value v in the heap h is the key k, and ordered by <: whole numbers, texts, tuples of such -/
inductive OrdK (h : Heap) : NK → Value → Prop
  | int (i t) : OrdK h (.num i) (.int i t)
  | text (x t) : OrdK h (.text x) (.str x t)
  | tup {a o vs n ks} : h.get? a = some o → o.cls = .type "tuple" → o.data = .seq vs n → OrdKs h ks vs.toList → OrdK h (.tup ks) (.ref a)
inductive OrdKs (h : Heap) : List NK → List Value → Prop
  | nil : OrdKs h [] []
  | cons {k v ks vs} : OrdK h k v → OrdKs h ks vs → OrdKs h (k :: ks) (v :: vs)
end
mutual
theorem OrdK.nested {h : Heap} : ∀ (k : NK) (v : Value), OrdK h k v → NestedIs h k v
  | .none, _, x => by cases x
  | .num i, _, x => by cases x; exact .int _ _
  | .text y, _, x => by cases x; exact .text _ _
  | .tup ks, _, x => by
    cases x with
    | tup h1 h2 h3 h4 => exact .tup h1 h2 h3 (OrdKs.nested ks _ h4)
theorem OrdKs.nested {h : Heap} : ∀ (ks : List NK) (vs : List Value), OrdKs h ks vs → NestedAll h ks vs
  | [], _, x => by cases x; exact .nil
  | k :: ks, _, x => by
    cases x with
    | cons x1 x2 => exact .cons (OrdK.nested k _ x1) (OrdKs.nested ks _ x2)
end
mutual
theorem OrdK.keep {h h' : Heap} (hk : ∀ a o vs n, h.get? a = some o → o.data = .seq vs n → o.cls = .type "tuple" → h'.get? a = some o) : ∀ (k : NK) (v : Value), OrdK h k v → OrdK h' k v
  | .none, _, x => by cases x
  | .num i, _, x => by cases x; exact .int _ _
  | .text y, _, x => by cases x; exact .text _ _
  | .tup ks, _, x => by
    cases x with
    | tup h1 h2 h3 h4 => exact .tup (hk _ _ _ _ h1 h3 h2) h2 h3 (OrdKs.keep hk ks _ h4)
theorem OrdKs.keep {h h' : Heap} (hk : ∀ a o vs n, h.get? a = some o → o.data = .seq vs n → o.cls = .type "tuple" → h'.get? a = some o) : ∀ (ks : List NK) (vs : List Value), OrdKs h ks vs → OrdKs h' ks vs
  | [], _, x => by cases x; exact .nil
  | k :: ks, _, x => by
    cases x with
    | cons x1 x2 => exact .cons (OrdK.keep hk k _ x1) (OrdKs.keep hk ks _ x2)
end
theorem OrdKs.length {h : Heap} : ∀ (ks : List NK) (vs : List Value), OrdKs h ks vs → vs.length = ks.length
  | [], _, x => by cases x; rfl
  | _ :: ks, _, x => by
    cases x with
    | cons _ x2 => simp [OrdKs.length ks _ x2]

mutual
/-- two keys that < may be asked of -/
def okc : NK → NK → Bool
  | .num _, .num _ => true
  | .text _, .text _ => true
  | .tup a, .tup b => okcs a b
  | .none, _ => false
  | .num _, .none => false
  | .num _, .text _ => false
  | .num _, .tup _ => false
  | .text _, .none => false
  | .text _, .num _ => false
  | .text _, .tup _ => false
  | .tup _, .none => false
  | .tup _, .num _ => false
  | .tup _, .text _ => false
def okcs : List NK → List NK → Bool
  | [], _ => true
  | _ :: _, [] => true
  | a :: as, b :: bs => okc a b && okcs as bs
end
abbrev atK (ks : List NK) (j : Nat) : NK := ks.getD j .none
theorem firstLt_keys : ∀ (as bs : List NK) (i : Nat) (e r : Nat → Bool), (∀ j, j < as.length → j < bs.length → e (i + j) = decide (atK as j = atK bs j)) →
    (∀ j, j < as.length → j < bs.length → r (i + j) = nlt (atK as j) (atK bs j)) →
    firstLt e r (decide (as.length < bs.length)) (List.range' i (min as.length bs.length)) = nlts as bs
  | [], [], _, _, _, _, _ => by simp [firstLt, nlts]
  | [], b :: bs, _, _, _, _, _ => by simp [firstLt, nlts]
  | a :: as, [], _, _, _, _, _ => by simp [firstLt, nlts]
  | a :: as, b :: bs, i, e, r, he, hr => by
    have e0 : e i = decide (a = b) := he 0 (Nat.succ_pos _) (Nat.succ_pos _)
    have r0 : r i = nlt a b := hr 0 (Nat.succ_pos _) (Nat.succ_pos _)
    have ih := firstLt_keys as bs (i + 1) e r
      (fun j h1 h2 => by
        have q := he (j + 1) (Nat.succ_lt_succ h1) (Nat.succ_lt_succ h2)
        rw [show i + 1 + j = i + (j + 1) by omega]
        exact q)
      (fun j h1 h2 => by
        have q := hr (j + 1) (Nat.succ_lt_succ h1) (Nat.succ_lt_succ h2)
        rw [show i + 1 + j = i + (j + 1) by omega]
        exact q)
    have m : min (a :: as).length (b :: bs).length = min as.length bs.length + 1 := by simp only [List.length_cons]; omega
    have d : decide ((a :: as).length < (b :: bs).length) = decide (as.length < bs.length) := by simp
    rw [m, d, List.range'_succ, nlts]
    by_cases c : a = b
    · rw [if_pos c, firstLt_yes (by rw [e0]; exact decide_eq_true c)]
      exact ih
    · rw [if_neg c, firstLt_no (by rw [e0]; exact decide_eq_false c), r0]

mutual
theorem ltAt_key : ∀ (x y : NK) (A : Around) (s : Shared) (a b : Value), OrdK s.heap x a → OrdK s.heap y b → okc x y = true → A.units + x.depth < cLine →
    RcLt A s a b (nlt x y)
  | .none, _, _, _, _, _, ra, _, _, _ => by cases ra
  | .num i, y, A, s, _, _, ra, rb, ok, hu => by
    cases ra
    cases rb with
    | int j u => exact fun prog w E Q hq => PyProof.Rows.lt_int (by rw [nlt] at hq; exact hq)
    | _ => simp [okc] at ok
  | .text x, y, A, s, _, _, ra, rb, ok, hu => by
    cases ra
    cases rb with
    | text z u => exact fun prog w E Q hq => PyProof.Rows.lt_str (by rw [nlt] at hq; exact hq)
    | _ => simp [okc] at ok
  | .tup xs, y, A, s, _, _, ra, rb, ok, hu => by
    cases ra with
    | @tup l o vs n _ h1 h2 h3 h4 =>
      cases rb with
      | @tup l' o' vs' n' ys k1 k2 k3 k4 =>
        rw [okc] at ok
        simp only [NestedKey.depth] at hu
        have n1 : vs.size = xs.length := by simpa using OrdKs.length _ _ h4
        have n2 : vs'.size = ys.length := by simpa using OrdKs.length _ _ k4
        have q := RcLt.tuples (A := A) (s := s) (e := fun j => decide (atK xs j = atK ys j)) (r := fun j => nlt (atK xs j) (atK ys j)) ⟨_, h1, h2, _, h3⟩ ⟨_, k1, k2, _, k3⟩ (by omega)
          (fun j j1 j2 => by
            have z := eqAt_keys xs ys A.in1 s vs.toList vs'.toList (OrdKs.nested _ _ h4) (OrdKs.nested _ _ k4) (by simp only [Around.in1_units]; omega) j (by simpa using j1) (by simpa using j2)
            refine EqAt.cast (by simpa using z) ?_
            rw [NestedKey.decide_eq])
          (fun j j1 j2 _ => by
            have z := ltAt_keys xs ys A.in1 s vs.toList vs'.toList h4 k4 ok (by simp only [Around.in1_units]; omega) j (by simpa using j1) (by simpa using j2)
            simpa using z)
        have f := firstLt_keys xs ys 0 (fun j => decide (atK xs j = atK ys j)) (fun j => nlt (atK xs j) (atK ys j)) (fun j _ _ => by rw [Nat.zero_add]) (fun j _ _ => by rw [Nat.zero_add])
        rw [n1, n2, List.range_eq_range', f] at q
        rw [nlt]
        exact q
      | _ => simp [okc] at ok
theorem ltAt_keys : ∀ (xs ys : List NK) (A : Around) (s : Shared) (vs ws : List Value), OrdKs s.heap xs vs → OrdKs s.heap ys ws → okcs xs ys = true →
    A.units + NestedKey.depthAll xs < cLine → ∀ j (h1 : j < vs.length) (h2 : j < ws.length), RcLt A s vs[j] ws[j] (nlt (atK xs j) (atK ys j))
  | [], _, _, _, _, _, ra, _, _, _, j, h1, _ => by cases ra; exact absurd h1 (Nat.not_lt_zero _)
  | _ :: _, [], _, _, _, _, _, rb, _, _, j, _, h2 => by cases rb; exact absurd h2 (Nat.not_lt_zero _)
  | x :: xs, y :: ys, A, s, _, _, ra, rb, ok, hu, j, h1, h2 => by
    cases ra with
    | cons r rs =>
      cases rb with
      | cons r' rs' =>
        rw [okcs, Bool.and_eq_true] at ok
        simp only [NestedKey.depthAll] at hu
        cases j with
        | zero => exact ltAt_key x y A s _ _ r r' ok.1 (by omega)
        | succ j => exact ltAt_keys xs ys A s _ _ rs rs' ok.2 (by omega) j (Nat.lt_of_succ_lt_succ h1) (Nat.lt_of_succ_lt_succ h2)
end

section
variable {prog : Program} {w : World} {A : Around} {E : Value → Shared → Prop} {s : Shared}
/-- the call of tuple's own __lt__ -/
theorem call_tuple_lt {Q : Value → Shared → Prop} {l b : Addr} {items items2 : Array Value} {e r : Nat → Bool} (hl : s.heap.IsTuple l items) (hb : s.heap.IsTuple b items2)
    (he : ∀ j (h1 : j < items.size) (h2 : j < items2.size), EqAt A.in1 s items[j] items2[j] (e j)) (hr : ∀ j (h1 : j < items.size) (h2 : j < items2.size), e j = false → RcLt A.in1 s items[j] items2[j] (r j))
    (h : Q (.bool (firstLt e r (decide (items.size < items2.size)) (List.range (min items.size items2.size)))) s) : wpAny (model prog w) A (call (.builtin "tuple.__lt__") [.ref l, .ref b]) Q E s := by
  obtain ⟨⟨c1, d1, t1, sl⟩, ho, hc, n, hd⟩ := id hl
  obtain ⟨⟨c2, d2, t2, sl2⟩, ho2, hc2, n2, hd2⟩ := id hb
  simp only at hc hd hc2 hd2
  subst hc hd hc2 hd2
  exact call_meets F.slot_tuple_lt ⟨_, ho, rfl⟩ F.entry_tuple_lt (F.args_tuple_lt_2 _ _) (SeqAt.tuple_ltAt l b items items2 n n2 d1 d2 sl sl2 e r) ⟨ho, ho2, he, hr, h⟩
/-- one comparison of the sort's, by either road -/
theorem oneLt_key {x y : NK} {a b : Value} {Q : Bool → Shared → Prop} (f : Bool) (ra : OrdK s.heap x a) (rb : OrdK s.heap y b) (ok : okc x y = true) (hu : A.units + x.depth < cLine)
    (h : Q (nlt x y) s) : wpAny (model prog w) A (oneLt' f a b) Q E s := by
  cases f with
  | false =>
    rw [oneLt'_eq]
    simp only [Bool.false_eq_true, if_false]
    exact wpAny_bind (ltAt_key x y A s a b ra rb ok hu prog w _ _ (wpAny_truthy_bool h))
  | true =>
    cases ra with
    | int i t =>
      cases rb with
      | int j u => exact oneLt_int (by rw [nlt] at h; exact h)
      | _ => simp [okc] at ok
    | text z t =>
      cases rb with
      | text z' u => exact oneLt_str (by rw [nlt] at h; exact h)
      | _ => simp [okc] at ok
    | @tup l o vs n xs h1 h2 h3 h4 =>
      cases rb with
      | @tup l' o' vs' n' ys k1 k2 k3 k4 =>
        rw [okc] at ok
        simp only [NestedKey.depth] at hu
        have n1 : vs.size = xs.length := by simpa using OrdKs.length _ _ h4
        have n2 : vs'.size = ys.length := by simpa using OrdKs.length _ _ k4
        have f := firstLt_keys xs ys 0 (fun j => decide (atK xs j = atK ys j)) (fun j => nlt (atK xs j) (atK ys j)) (fun j _ _ => by rw [Nat.zero_add]) (fun j _ _ => by rw [Nat.zero_add])
        rw [oneLt'_eq]
        simp only [if_true]
        refine wpAny_bind (wpAny_cRoomFor_or (.inr (by omega)) ?_)
        refine wpAny_bind (wpAny_callSpecialIfBound?_slot ⟨_, h1, h2⟩ F.slot_tuple_lt (call_tuple_lt (e := fun j => decide (atK xs j = atK ys j)) (r := fun j => nlt (atK xs j) (atK ys j))
          ⟨_, h1, h2, _, h3⟩ ⟨_, k1, k2, _, k3⟩ (fun j j1 j2 => ?_) (fun j j1 j2 _ => ?_) ?_))
        · have z := eqAt_keys xs ys A.in1 s vs.toList vs'.toList (OrdKs.nested _ _ h4) (OrdKs.nested _ _ k4) (by simp only [Around.in1_units]; omega) j (by simpa using j1) (by simpa using j2)
          refine EqAt.cast (by simpa using z) ?_
          rw [NestedKey.decide_eq]
        · have z := ltAt_keys xs ys A.in1 s vs.toList vs'.toList h4 k4 ok (by simp only [Around.in1_units]; omega) j (by simpa using j1) (by simpa using j2)
          simpa using z
        · rw [n1, n2, List.range_eq_range', f]
          rw [nlt] at h
          exact wpAny_truthy_bool h
      | _ => simp [okc] at ok

/-! ### the sort's own kinds of comparison -/
theorem lex_keys {b fin : Bool} {Q : Bool → Shared → Prop} : ∀ (as bs : List NK) (ps qs : List Value) (i : Nat), OrdKs s.heap as ps → OrdKs s.heap bs qs → okcs as bs = true →
    A.units + NestedKey.depthAll as < cLine → fin = decide (ps.length < qs.length) → Q (nlts as bs) s → PySem.W.KatLex prog w A b fin Q (ps.zip qs) i s
  | [], [], _, _, i, ra, rb, _, _, hf, h => by
    cases ra; cases rb
    have e : fin = false := by rw [hf]; rfl
    subst e
    exact PySem.W.kat_nil (by simpa [nlts] using h)
  | [], _ :: _, _, _, i, ra, rb, _, _, hf, h => by
    cases ra
    cases rb with
    | cons r' rs' =>
      have e : fin = true := by rw [hf]; exact decide_eq_true (Nat.succ_pos _)
      subst e
      exact PySem.W.kat_nil (by simpa [nlts] using h)
  | _ :: _, [], _, _, i, ra, rb, _, _, hf, h => by
    cases rb
    cases ra with
    | cons r rs =>
      have e : fin = false := by rw [hf]; exact decide_eq_false (Nat.not_lt_zero _)
      subst e
      exact PySem.W.kat_nil (by simpa [nlts] using h)
  | a :: as, c :: cs, _, _, i, ra, rb, ok, hu, hf, h => by
    cases ra with
    | @cons _ p _ ps r rs =>
      cases rb with
      | @cons _ q _ qs r' rs' =>
        rw [okcs, Bool.and_eq_true] at ok
        simp only [NestedKey.depthAll] at hu
        rw [nlts] at h
        have hf' : fin = decide (ps.length < qs.length) := by rw [hf]; simp
        refine PySem.W.kat_cons (eqAt_key a c A s p q (OrdK.nested _ _ r) (OrdK.nested _ _ r') (by omega) prog w _ _ ?_)
        rw [← NestedKey.decide_eq]
        refine PySem.W.kat_go (fun e => PySem.W.kat_yes ?_) (fun e => PySem.W.kat_no ?_)
        · rw [if_pos (of_decide_eq_true e)] at h
          exact lex_keys as cs ps qs (i + 1) rs rs' ok.2 (by omega) hf' h
        · rw [if_neg (of_decide_eq_false e)] at h
          exact oneLt_key _ r r' ok.1 (by omega) h

/-- the first items of tuples -/
inductive Firsts (h : Heap) : List Value → List (Option Value) → Prop
  | nil : Firsts h [] []
  | cons {a o xs n vs fs} : h.get? a = some o → o.cls = .type "tuple" → o.data = .seq xs n → Firsts h vs fs → Firsts h (.ref a :: vs) (xs[0]? :: fs)
theorem firsts_run {Q : List (Option Value) → Shared → Prop} : ∀ (vs : List Value) (fs : List (Option Value)), Firsts s.heap vs fs → Q fs s →
    wpAny (model prog w) A (vs.mapM firstOfTuple') Q E s
  | [], _, x, h => by cases x; rw [List.mapM_nil]; exact wpAny_pure h
  | _ :: vs, _, x, h => by
    cases x with
    | cons ho hc hd t =>
      rw [List.mapM_cons]
      refine wpAny_bind ?_
      rw [PySem.W.kas_first_eq]
      refine wpAny_bind (wpAny_typeOf (T := "tuple") (show s.TypeIs (.ref _) "tuple" from ⟨_, ho, hc⟩) ?_)
      rw [if_neg (by first | decide | simp)]
      refine wpAny_bind (listItems_at ho hd (wpAny_pure ?_))
      exact wpAny_bind (firsts_run vs _ t (wpAny_pure h))
theorem types_run {T : String} : ∀ (vs : List Value) {Q : List Value → Shared → Prop}, (∀ v ∈ vs, s.TypeIs v T) → Q (vs.map fun _ => .type T) s →
    wpAny (model prog w) A (vs.mapM typeOf) Q E s
  | [], _, _, h => by rw [List.mapM_nil]; exact wpAny_pure h
  | v :: vs, _, ht, h => by
    rw [List.mapM_cons]
    refine wpAny_bind (wpAny_typeOf (ht v List.mem_cons_self) ?_)
    exact wpAny_bind (types_run vs (fun u hu => ht u (List.mem_cons_of_mem _ hu)) (wpAny_pure h))
theorem oneType_run {T : String} {vs : List Value} {Q : Option Value → Shared → Prop} (hne : vs ≠ []) (ht : ∀ v ∈ vs, s.TypeIs v T) (h : Q (some (.type T)) s) :
    wpAny (model prog w) A (oneTypeOnly' vs.toArray) Q E s := by
  rw [oneTypeOnly'_eq, List.mapM_toArray, map_eq_pure_bind]
  refine wpAny_bind (wpAny_bind (types_run vs ht (wpAny_pure ?_)))
  obtain ⟨v, r, rfl⟩ : ∃ v r, vs = v :: r := by
    cases vs with
    | nil => exact absurd rfl hne
    | cons v r => exact ⟨v, r, rfl⟩
  have h0 : (List.map (fun _ => Value.type T) (v :: r)).toArray[0]? = some (Value.type T) := by simp
  have hall : ((List.map (fun _ => Value.type T) (v :: r)).toArray.all fun x => x == Value.type T) = true := by
    simp only [List.all_toArray, List.all_map, List.all_eq_true]
    intro _ _
    simp
  rw [h0]
  simp only [hall, if_true]
  exact wpAny_pure h

/-- a sort's kind of comparison that serves ordered keys -/
def GoodKind (h : Heap) (vs : List Value) (κ : SortKind) : Prop :=
  κ = general' ∨ κ = oneType' ∨ ∃ b, κ = tuples' b ∧ ∀ v ∈ vs, ∃ a o xs n, v = .ref a ∧ h.get? a = some o ∧ o.cls = .type "tuple" ∧ o.data = .seq xs n

theorem OrdK.typeIs {s : Shared} {k : NK} {v : Value} (x : OrdK s.heap k v) : s.TypeIs v (match k with | .num _ => "int" | .text _ => "str" | _ => "tuple") := by
  cases x with
  | int i t => exact typeIs_int s i t
  | text x t => exact typeIs_str s x t
  | tup h1 h2 h3 h4 => exact ⟨_, h1, h2⟩

theorem OrdKs.mem {h : Heap} : ∀ (ks : List NK) (vs : List Value), OrdKs h ks vs → ∀ v ∈ vs, ∃ k ∈ ks, OrdK h k v
  | [], _, x, v, hv => by cases x; cases hv
  | k :: ks, _, x, v, hv => by
    cases x with
    | cons x1 x2 =>
      rcases List.mem_cons.mp hv with e | hv
      · exact ⟨k, List.mem_cons_self, by rw [e]; exact x1⟩
      · obtain ⟨k', a, b⟩ := OrdKs.mem ks _ x2 v hv
        exact ⟨k', List.mem_cons_of_mem _ a, b⟩
theorem firsts_of_tups {h : Heap} : ∀ vs : List Value, (∀ v ∈ vs, ∃ a o xs n, v = .ref a ∧ h.get? a = some o ∧ o.cls = .type "tuple" ∧ o.data = .seq xs n) → ∃ fs, Firsts h vs fs
  | [], _ => ⟨[], .nil⟩
  | v :: vs, hv => by
    obtain ⟨a, o, xs, n, rfl, h1, h2, h3⟩ := hv v List.mem_cons_self
    obtain ⟨fs, r⟩ := firsts_of_tups vs fun u hu => hv u (List.mem_cons_of_mem _ hu)
    exact ⟨_, .cons h1 h2 h3 r⟩
/-- the first items that are there: each of some key that comes first in a tuple -/
theorem firsts_item {h : Heap} {k₁ : NK} : ∀ (vs : List Value) (fs : List (Option Value)), Firsts h vs fs → (∀ v ∈ vs, ∃ ks, OrdK h (.tup ks) v ∧ ∀ k r, ks = k :: r → okc k₁ k = true) →
    ∀ f, some f ∈ fs → ∃ k, OrdK h k f ∧ okc k₁ k = true
  | [], _, x, _, f, hf => by cases x; cases hf
  | v :: vs, _, x, hv, f, hf => by
    cases x with
    | @cons a o xs n _ fs ho hc hd t =>
      rcases List.mem_cons.mp hf with e | hf
      · obtain ⟨ks, y, z⟩ := hv _ List.mem_cons_self
        cases y with
        | @tup _ o' xs' n' _ q1 q2 q3 q4 =>
          rw [ho] at q1
          cases q1
          rw [hd] at q3
          cases q3
          cases ks with
          | nil =>
            have hx : xs.toList = [] := List.eq_nil_of_length_eq_zero (OrdKs.length _ _ q4)
            have : xs[0]? = none := by rw [← Array.getElem?_toList, hx]; rfl
            rw [this] at e
            cases e
          | cons k r =>
            obtain ⟨xl⟩ := xs
            cases q4 with
            | @cons _ v' _ vs' c1 c2 =>
              have e2 : f = v' := by simpa using e
              exact ⟨k, by rw [e2]; exact c1, z k r rfl⟩
      · exact firsts_item vs fs t (fun u hu => hv u (List.mem_cons_of_mem _ hu)) f hf
theorem firsts_mem {h : Heap} {a : Addr} {o : Obj} {xs : Array Value} {n : Nat} (ho : h.get? a = some o) (hd : o.data = .seq xs n) :
    ∀ (vs : List Value) (fs : List (Option Value)), Firsts h vs fs → Value.ref a ∈ vs → xs[0]? ∈ fs
  | [], _, x, hv => by cases hv
  | v :: vs, _, x, hv => by
    cases x with
    | @cons a' o' xs' n' _ fs q1 q2 q3 t =>
      rcases List.mem_cons.mp hv with e | hv
      · injection e with e
        subst e
        rw [ho] at q1
        cases q1
        rw [hd] at q3
        cases q3
        exact List.mem_cons_self
      · exact List.mem_cons_of_mem _ (firsts_mem ho hd vs fs t hv)
def tyOf : NK → String
  | .num _ => "int"
  | .text _ => "str"
  | _ => "tuple"
theorem tyOf_same {a b : NK} (h : okc a b = true) : tyOf b = tyOf a := by cases a <;> cases b <;> simp_all [okc, tyOf]
theorem OrdK.ty {s : Shared} {k : NK} {v : Value} (x : OrdK s.heap k v) : s.TypeIs v (tyOf k) := by
  cases x with
  | int i t => exact typeIs_int s i t
  | text x t => exact typeIs_str s x t
  | tup h1 h2 h3 h4 => exact (show s.TypeIs (.ref _) "tuple" from ⟨_, h1, h2⟩)
theorem kind_keys {vs : List Value} {ks : List NK} (hk : OrdKs s.heap ks vs) (h2 : 2 ≤ vs.length) (ok : ∀ x ∈ ks, ∀ y ∈ ks, okc x y = true) :
    ∃ κ, GoodKind s.heap vs κ ∧ ∀ (Q : SortKind → Shared → Prop) (E : Value → Shared → Prop), Q κ s → wpAny (model prog w) A (keyKind' vs.toArray) Q E s := by
  have hne : vs ≠ [] := by
    intro z
    subst z
    simp at h2
  obtain ⟨v₁, hv₁⟩ : ∃ v₁, v₁ ∈ vs := by
    match vs, h2 with
    | v :: _, _ => exact ⟨v, List.mem_cons_self⟩
  obtain ⟨k₁, hk₁, x₁⟩ := OrdKs.mem ks _ hk v₁ hv₁
  have same : ∀ v ∈ vs, ∃ k ∈ ks, OrdK s.heap k v ∧ okc k₁ k = true := fun v hv => by
    obtain ⟨k, a, b⟩ := OrdKs.mem ks _ hk v hv
    exact ⟨k, a, b, ok _ hk₁ _ a⟩
  cases x₁ with
  | int i t =>
    refine ⟨oneType', .inr (.inl rfl), fun Q E hq => PySem.W.kas_kind (T := .type "int") h2 (fun v hv => ?_) (by rfl) (by rfl) hq⟩
    obtain ⟨k, _, b, c⟩ := same v hv
    cases b with
    | int j u => exact PySem.W.Looks.now
    | _ => simp [okc] at c
  | text y t =>
    refine ⟨oneType', .inr (.inl rfl), fun Q E hq => PySem.W.kas_kind (T := .type "str") h2 (fun v hv => ?_) (by rfl) (by rfl) hq⟩
    obtain ⟨k, _, b, c⟩ := same v hv
    cases b with
    | text j u => exact PySem.W.Looks.now
    | _ => simp [okc] at c
  | @tup a₁ o₁ xs₁ n₁ ks₁ g1 g2 g3 g4 =>
    have alltup : ∀ v ∈ vs, ∃ a o xs n, v = .ref a ∧ s.heap.get? a = some o ∧ o.cls = .type "tuple" ∧ o.data = .seq xs n := fun v hv => by
      obtain ⟨k, _, b, c⟩ := same v hv
      cases b with
      | tup q1 q2 q3 q4 => exact ⟨_, _, _, _, rfl, q1, q2, q3⟩
      | _ => simp [okc] at c
    have tt : ∀ v ∈ vs, s.TypeIs v "tuple" := fun v hv => by
      obtain ⟨a, o, xs, n, rfl, q1, q2, q3⟩ := alltup v hv
      exact ⟨o, q1, q2⟩
    obtain ⟨fs, F⟩ := firsts_of_tups vs alltup
    by_cases hall : fs.all (·.isSome) = true
    · -- each has a first item
      obtain ⟨k₀, r₀, rfl⟩ : ∃ k r, ks₁ = k :: r := by
        cases ks₁ with
        | cons k r => exact ⟨k, r, rfl⟩
        | nil =>
          have hx : xs₁.toList = [] := List.eq_nil_of_length_eq_zero (OrdKs.length _ _ g4)
          have hn : xs₁[0]? = none := by rw [← Array.getElem?_toList, hx]; rfl
          have q := List.all_eq_true.mp hall _ (firsts_mem g1 g3 vs fs F hv₁)
          rw [hn] at q
          cases q
      have ht : ∀ f, some f ∈ fs → s.TypeIs f (tyOf k₀) := fun f hf => by
        obtain ⟨k, b, c⟩ := firsts_item (k₁ := k₀) vs fs F (fun v hv => by
          obtain ⟨k, _, b, c⟩ := same v hv
          cases k with
          | tup ks' =>
            refine ⟨ks', b, fun k r e => ?_⟩
            subst e
            rw [okc, okcs, Bool.and_eq_true] at c
            exact c.1
          | _ => simp [okc] at c) f hf
        rw [← tyOf_same c]
        exact b.ty
      refine ⟨tuples' ((some (Value.type (tyOf k₀))).any (· != .type "tuple")), .inr (.inr ⟨_, rfl, alltup⟩), fun Q E hq => ?_⟩
      have hfne : (fs.filterMap id) ≠ [] := by
        intro z
        have hm := firsts_mem g1 g3 vs fs F hv₁
        have q := List.all_eq_true.mp hall _ hm
        obtain ⟨f, hf⟩ := Option.isSome_iff_exists.mp q
        rw [hf] at hm
        have : f ∈ fs.filterMap id := List.mem_filterMap.mpr ⟨some f, hm, rfl⟩
        rw [z] at this
        cases this
      rw [kat_kind_eq, List.mapM_toArray, map_eq_pure_bind]
      refine wpAny_bind (wpAny_bind (firsts_run vs fs F (wpAny_pure ?_)))
      have hall' : (fs.toArray.all fun x => x.isSome) = true := by simpa using hall
      rw [if_pos hall']
      refine wpAny_bind (wpAny_rule ?_)
      have hfm : (fs.toArray.filterMap id) = (fs.filterMap id).toArray := by simp
      rw [hfm]
      refine wpAny_bind (oneType_run (T := tyOf k₀) hfne (fun f hf => ?_) ?_)
      · obtain ⟨f', hf', e⟩ := List.mem_filterMap.mp hf
        have e' : f' = some f := e
        rw [e'] at hf'
        exact ht f hf'
      · exact wpAny_pure hq
    · refine ⟨if (fs.toArray[0]?.bind id).isSome = true then general' else oneType', ?_, fun Q E hq => ?_⟩
      · split
        · exact .inl rfl
        · exact .inr (.inl rfl)
      · rw [kat_kind_eq, List.mapM_toArray, map_eq_pure_bind]
        refine wpAny_bind (wpAny_bind (firsts_run vs fs F (wpAny_pure ?_)))
        have hall' : ¬ (fs.toArray.all fun x => x.isSome) = true := by simpa using hall
        rw [if_neg hall']
        by_cases hg : (fs.toArray[0]?.bind id).isSome = true
        · rw [if_pos hg] at hq ⊢
          exact wpAny_pure hq
        · rw [if_neg hg] at hq ⊢
          refine wpAny_bind (oneType_run (T := "tuple") hne tt ?_)
          simp only [Option.isSome_some, if_true]
          exact wpAny_pure hq
end
end RW

set_option Elab.async false
set_option linter.all false
set_option maxRecDepth 100000
set_option maxHeartbeats 4000000
/-! RwSort3: sorted(x): of a list, of a set. -/
namespace RW
open PySem PySem.Spec PyProof.Rows L2
open PySem.SeqAt (EqAt RcLt firstLt)
open SrtO (Swo Srtd Stb SortableO Cmp lt2 list_sort_ord)

open Classical in
/-- the key of a value -/
noncomputable def keyIn (h : Heap) (v : Value) : NK := if H : ∃ k, OrdK h k v then Classical.choose H else .none
theorem keyIn_eq {h : Heap} {k : NK} {v : Value} (x : OrdK h k v) : keyIn h v = k := by
  have H : ∃ k, OrdK h k v := ⟨k, x⟩
  unfold keyIn
  rw [dif_pos H]
  exact NestedIs.inj _ _ _ (Classical.choose_spec H).nested x.nested
noncomputable def vlt (h : Heap) (u v : Value) : Bool := nlt (keyIn h u) (keyIn h v)
theorem vlt_swo (h : Heap) : Swo (vlt h) := ⟨fun _ _ e => nlt_asym e, fun _ _ _ e1 e2 => nlt_neg e1 e2⟩

section
variable {prog : Program} {w : World} {A : Around} {E : Value → Shared → Prop} {s : Shared}
theorem sortable_keys {a : Addr} {vs : List Value} {ks : List NK} (hk : OrdKs s.heap ks vs) (h2 : 2 ≤ vs.length) (ok : ∀ x ∈ ks, ∀ y ∈ ks, okc x y = true)
    (dp : ∀ k ∈ ks, k.depth ≤ 8) (hu : A.units + 8 < cLine) (ha : ∀ o, s.heap.get? a = some o → o.cls ≠ .type "tuple") : SortableO prog w A s a vs (vlt s.heap) := by
  intro h' keep
  have hk' : OrdKs h' ks vs := OrdKs.keep (fun b o xs n e _ c => keep b o (fun z => by subst z; exact ha o e c) e) ks vs hk
  obtain ⟨κ, good, kr⟩ := kind_keys (prog := prog) (w := w) (A := A) (s := { s with heap := h' }) hk' h2 ok
  refine ⟨κ, kr, fun p q hp hq => ?_⟩
  obtain ⟨x, hx, ox⟩ := OrdKs.mem _ _ hk _ hp
  obtain ⟨y, hy, oy⟩ := OrdKs.mem _ _ hk _ hq
  have kp : ∀ a₁ o vs₁ n, s.heap.get? a₁ = some o → o.data = .seq vs₁ n → o.cls = .type "tuple" → h'.get? a₁ = some o := fun b o xs n e _ c => keep b o (fun z => by subst z; exact ha o e c) e
  have ox' := OrdK.keep kp _ _ ox
  have oy' := OrdK.keep kp _ _ oy
  have e : lt2 (vlt s.heap) p q = nlt x y := by
    show nlt (keyIn s.heap p.1) (keyIn s.heap q.1) = _
    rw [keyIn_eq ox, keyIn_eq oy]
  have okxy := ok x hx y hy
  have dx := dp x hx
  rw [e]
  rcases good with rfl | rfl | ⟨b, rfl, tu⟩
  · exact oneLt_key (s := { s with heap := h' }) false ox' oy' okxy (by omega) ⟨rfl, rfl⟩
  · exact oneLt_key (s := { s with heap := h' }) true ox' oy' okxy (by omega) ⟨rfl, rfl⟩
  · show wpAny (model prog w) A (keyLt' (tuples' b) p.1 q.1) _ _ _
    obtain ⟨_, _, _, _, e1, _⟩ := tu _ hp
    obtain ⟨_, _, _, _, e2, _⟩ := tu _ hq
    generalize p.1 = u at ox' e1 ⊢
    generalize q.1 = v at oy' e2 ⊢
    subst e1
    subst e2
    cases ox' with
    | @tup a1 o1 xs1 n1 ks1 g1 g2 g3 g4 =>
      cases oy' with
      | @tup a2 o2 xs2 n2 ks2 k1 k2 k3 k4 =>
        rw [okc] at okxy
        simp only [NestedKey.depth] at dx
        refine PySem.W.kat_lt (s := { s with heap := h' }) g1 g3 k1 k3 (lex_keys (s := { s with heap := h' }) ks1 ks2 _ _ 0 g4 k4 okxy (by omega) (by simp) ?_)
        rw [nlt]
        exact ⟨rfl, rfl⟩

/-- a new list is made of what was collected, and sorted -/
theorem sorted_core {l : Value} {vs0 : List Value} {ks : List NK} {Q : Value → Shared → Prop} (hk : OrdKs s.heap ks vs0) (hz : vs0.length ≤ sizeLine) (ok : ∀ x ∈ ks, ∀ y ∈ ks, okc x y = true)
    (dp : ∀ k ∈ ks, k.depth ≤ 8) (hu : A.units + 16 < cLine)
    (hc : ∀ (Q' : List Value → Shared → Prop) (E' : Value → Shared → Prop), (∀ s1 vs, (∀ b o, s.heap.get? b = some o → s1.heap.get? b = some o) → s1.gens = s.gens → s1.os = s.os → vs.Perm vs0 → Q' vs s1) →
      wpAny (model prog w) A.in1 (collect l) Q' E' s)
    (h : ∀ (s' : Shared) (d : Addr) (out : List Value) (n : Nat), (∀ b o, s.heap.get? b = some o → s'.heap.get? b = some o) → s.heap.get? d = none → s'.gens = s.gens → s'.os = s.os →
      s'.heap.get? d = some (seqObj "list" out.toArray n) → out.Perm vs0 → out.Pairwise (fun u v => nlt (keyIn s.heap v) (keyIn s.heap u) = false) → Q (.ref d) s') :
    wpAny (model prog w) A (call (.builtin "sorted") [l]) Q E s := by
  refine Calls.call_function_entry kind_sorted plain_sorted entry_sorted (args_sorted1 _) ?_
  unfold Builtin.«sorted»
  refine wpAny_bind (m := checkCount "sorted" 1 1 _) (wpAny_pure ?_)
  refine wpAny_bind (hc _ _ fun s1 vs k1 g1 o1 pm => ?_)
  have hvl : vs.length ≤ sizeLine := by rw [pm.length_eq]; exact hz
  refine wpAny_bind (wpAny_newList ?_ hvl)
  have hoL : (s1.heap.push (seqObj "list" vs.toArray 0)).get? s1.heap.objs.size = some (seqObj "list" vs.toArray 0) := Heap.get?_push_size _ rfl
  -- the keys of the collected, in their order
  obtain ⟨ks', hk', hsub⟩ : ∃ ks', OrdKs (s1.heap.push (seqObj "list" vs.toArray 0)) ks' vs ∧ ∀ k ∈ ks', k ∈ ks := by
    have mem : ∀ v ∈ vs, ∃ k ∈ ks, OrdK s.heap k v := fun v hv => OrdKs.mem _ _ hk v (pm.mem_iff.mp hv)
    clear hoL hvl pm
    induction vs with
    | nil => exact ⟨[], .nil, fun k hk => (by cases hk)⟩
    | cons v vs ih =>
      obtain ⟨k, a, b⟩ := mem v List.mem_cons_self
      obtain ⟨ks', c, d⟩ : ∃ ks', OrdKs s.heap ks' vs ∧ ∀ k ∈ ks', k ∈ ks := by
        clear ih
        induction vs with
        | nil => exact ⟨[], .nil, fun k hk => (by cases hk)⟩
        | cons u vs ih2 =>
          obtain ⟨k2, a2, b2⟩ := mem u (List.mem_cons_of_mem _ List.mem_cons_self)
          obtain ⟨ks2, c2, d2⟩ := ih2 fun x hx => by
            rcases List.mem_cons.mp hx with e | hx
            · rw [e]; exact mem v List.mem_cons_self
            · exact mem x (List.mem_cons_of_mem _ (List.mem_cons_of_mem _ hx))
          exact ⟨k2 :: ks2, .cons b2 c2, fun x hx => by
            rcases List.mem_cons.mp hx with e | hx
            · rw [e]; exact a2
            · exact d2 x hx⟩
      refine ⟨k :: ks', ?_, fun x hx => ?_⟩
      · exact OrdKs.keep (fun b o _ _ e _ _ => Heap.get?_push_of_some _ (k1 b o e)) _ _ (.cons b c)
      · rcases List.mem_cons.mp hx with e | hx
        · rw [e]; exact a
        · exact d x hx
  have same : ∀ v ∈ vs, keyIn (s1.heap.push (seqObj "list" vs.toArray 0)) v = keyIn s.heap v := fun v hv => by
    obtain ⟨k, a, b⟩ := OrdKs.mem _ _ hk v (pm.mem_iff.mp hv)
    rw [keyIn_eq b, keyIn_eq (OrdK.keep (fun b o _ _ e _ _ => Heap.get?_push_of_some _ (k1 b o e)) _ _ b)]
  refine wpAny_bind (wpAny_holding (wpAny_call_entry slot_list_sort ⟨_, hoL, rfl⟩ entry_list_sort (list_sort_ord (s := { s1 with heap := s1.heap.push (seqObj "list" vs.toArray 0) }) (vlt_swo _) hoL hvl
    (fun h2 => sortable_keys (s := { s1 with heap := s1.heap.push (seqObj "list" vs.toArray 0) }) hk' h2 (fun x hx y hy => ok x (hsub x hx) y (hsub y hy)) (fun k hk => dp k (hsub k hk)) (by simp only [Around.in1_units]; omega) fun o e c => ?_)
    fun out hs hb => ⟨_, rfl, ?_⟩) (args_list_sort _)))
  · rw [hoL] at e
    cases e
    exact absurd c (by simp)
  · obtain ⟨n, hn⟩ := sortedHeap_at (vs := vs) (out := out.toArray) hoL
    refine wpAny_pure ⟨_, rfl, h _ s1.heap.objs.size out n (fun b u e => ?_) (by
      cases q : s.heap.get? s1.heap.objs.size with
      | none => rfl
      | some u => exact absurd (Heap.lt_size (k1 _ u q)) (Nat.lt_irrefl _)) g1 o1 hn (hb.perm.trans pm) ?_⟩
    · have q := k1 b u e
      have hlt := Heap.lt_size q
      show (sortedHeap (s1.heap.push (seqObj "list" vs.toArray 0)) s1.heap.objs.size vs out.toArray).get? b = some u
      rw [sortedHeap_old (Nat.ne_of_lt hlt) (by rw [size_push']; exact Nat.lt_succ_of_lt hlt)]
      exact Heap.get?_push_of_some _ q
    · refine List.Pairwise.imp_of_mem (fun {u v} hu hv hle => ?_) hs
      have e1 := same u (hb.perm.mem_iff.mp hu)
      have e2 := same v (hb.perm.mem_iff.mp hv)
      have hle' : nlt (keyIn (s1.heap.push (seqObj "list" vs.toArray 0)) v) (keyIn (s1.heap.push (seqObj "list" vs.toArray 0)) u) = false := hle
      rw [e1, e2] at hle'
      exact hle'
end
end RW

set_option Elab.async false
set_option linter.all false
set_option maxRecDepth 100000
set_option maxHeartbeats 4000000
/-! RwData: frozen data in the abstract heap. -/
namespace RW
open PySem PySem.Spec PyProof.Rows L2

/-- data that never changes (any more): sets by their members, dicts by keys and values, instances by their class's name and their fields -/
inductive D where
  | non
  | bl (b : Bool)
  | int (i : Int)
  | str (x : Str)
  | tup (ds : List D)
  | lst (ds : List D)
  | set (ds : List D)
  | dct (ks vs : List D)
  | ins (c : Str) (vs : List D)
deriving Inhabited

/-- what is fixed through a law -/
structure Cg where
  K : PySem.W.Frag
  mg : Str → Option Value
  P : Program
  w : World
abbrev cg (X : Cx) : Cg := ⟨X.K, X.mg, X.prog, X.w⟩

mutual
/-- as a nested key -/
def toNK : D → Option NK
  | .non => some .none
  | .bl b => some (.num (if b then 1 else 0))
  | .int i => some (.num i)
  | .str x => some (.text x)
  | .tup ds => (toNKs ds).map .tup
  | .lst _ => none
  | .set _ => none
  | .dct _ _ => none
  | .ins _ _ => none
def toNKs : List D → Option (List NK)
  | [] => some []
  | d :: ds => match toNK d, toNKs ds with
    | some k, some ks => some (k :: ks)
    | _, _ => none
end
mutual
/-- as plain data -/
def toPy : D → Option PyData
  | .non => some .none
  | .bl b => some (.bool b)
  | .int i => some (.int i)
  | .str x => some (.str x)
  | .tup ds => (toPys ds).map .tuple
  | .lst ds => (toPys ds).map .list
  | .set _ => none
  | .dct _ _ => none
  | .ins _ _ => none
def toPys : List D → Option (List PyData)
  | [] => some []
  | d :: ds => match toPy d, toPys ds with
    | some k, some ks => some (k :: ks)
    | _, _ => none
end

/-- the own exception classes: those with a field, those without -/
def excF : List Str := ["InvalidRule", "NotAProgram", "InvalidWorld", "InvalidPair", "InvalidNames", "Unreadable", "InvalidKind", "Barred", "NotBasic", "NotASplit", "NoSuchSheet", "InvalidDeed"]
def excN : List Str := ["RuleError", "NoAnswer", "NothingToUndo"]
/-- the other own classes -/
def insN : List Str := ["Program", "Desk"]
/-- the field of an own exception class -/
def excField (x : Str) : Str :=
  if x = "InvalidRule" then "place" else if x = "InvalidDeed" then "place" else if x = "Unreadable" then "line" else if x = "InvalidKind" then "value"
  else if x = "Barred" then "why" else if x = "NotBasic" then "culprit" else if x = "NoSuchSheet" then "sheet" else "thing"
/-- the fields of an own class's instances, in the order in which __init__ stores them -/
def fieldsOf (x : Str) : List Str := if x = "Program" then ["rows"] else if x = "Desk" then ["kept", "past"] else if x ∈ excF then [excField x] else []
/-- an exception that was caught -/
def ExcO (cls : Value) (d : Option Addr) (a : Addr) : HO := .ext fun h => ∃ (oe : Obj) (vs : Array Value), h.get? a = some oe ∧ Zc cls d oe ∧ oe.data = .fields vs
theorem excO_ok {P : Program} {w : World} {H : Hp} {h : Heap} {a : Addr} {cls : Value} {d : Option Addr} {oe : Obj} {vs : Array Value} (e : h.get? a = some oe) (z : Zc cls d oe) (q : oe.data = .fields vs) : ObjOk P w H h a (ExcO cls d a) :=
  ⟨⟨oe, vs, e, z, q⟩, ⟨oe, e⟩, fun _ _ ⟨o, v, q, r⟩ k => ⟨o, v, k o q, r⟩⟩
def keyMix : Key → D
  | .inl i => .int i
  | .inr x => .str x

/-- a set of tuples, without the tuples -/
def SetN0 (w : World) (h : Heap) (a : Addr) (L : List (Addr × NK)) : Prop :=
  ∃ (es : Array (Int × Value)) (ep : Nat) (t : SetTable), (∃ o, h.get? a = some o ∧ o.ExactSet ∧ o.data = .set es ep t) ∧ es.toList = hrows w L ∧ TabOk t (hashesOf w L) ∧
    (L.map (·.2)).Nodup ∧ (w.params.followText "set-order" = true ∨ t.led = true) ∧ L.length * 5 < t.mask * 3 ∧ L.length < 64
def SetKO (w : World) (a : Addr) (L : List (Addr × NK)) : HO := .ext fun h => SetN0 w h a L
/-- a set of texts -/
def SetSO (P : Program) (w : World) (a : Addr) (l : List Str) : HO := .ext fun h => ∃ D, SetS P w h a l D

/-- a dict whose keys are tuples, without the tuples -/
def DctN0 (P : Program) (w : World) (h : Heap) (a : Addr) (xs : List (NK × Addr × Value)) : Prop :=
  (a == sysModules) = false ∧ xs.length ≤ sizeLine ∧ ∃ o es ep, h.get? a = some o ∧ o.ExactDict ∧ o.data = .dict es ep ∧ es.toList = xs.map (entryOfKey (nestedKind P w)) ∧ (xs.map (·.1)).Nodup
def DctKO (P : Program) (w : World) (a : Addr) (xs : List (NK × Addr × Value)) : HO := .ext fun h => DctN0 P w h a xs

mutual
inductive IsD (c : Cg) (F : Hp) : V → D → Prop
  | non : IsD c F .non .non
  | bl (b : Bool) : IsD c F (.bl b) (.bl b)
  | int (i : Int) : IsD c F (.int i) (.int i)
  | str (x : Str) : IsD c F (.str x) (.str x)
  | tup {a : Addr} {xs : List V} {ds : List D} : SqT c.K F a xs → IsDs c F xs ds → IsD c F (.ref a) (.tup ds)
  | lst {a : Addr} {xs : List V} {ds : List D} : SqL c.K F a xs → IsDs c F xs ds → IsD c F (.ref a) (.lst ds)
  | setK {a : Addr} {L : List (Addr × NK)} {ds es : List D} : F a = some (SetKO c.w a L) → IsDs c F (L.map fun p => .ref p.1) ds → toNKs ds = some (L.map (·.2)) → ds.Perm es → IsD c F (.ref a) (.set es)
  | setS {a : Addr} {l : List Str} : F a = some (SetSO c.P c.w a l) → IsD c F (.ref a) (.set (l.map .str))
  | dctK {a : Addr} {xs : List (NK × Addr × Value)} {vv : List V} {ks vs : List D} : F a = some (DctKO c.P c.w a xs) → IsDs c F (xs.map fun x => .ref x.2.1) ks → toNKs ks = some (xs.map (·.1)) → (∀ x ∈ xs, x.1.depth ≤ 8) → Vals vv (xs.map (·.2.2)) → IsDs c F vv vs → IsD c F (.ref a) (.dct ks vs)
  | ins {a C dx : Addr} {x : Str} {fs : List (Str × V)} {vs : List D} : F a = some (.ins C dx fs) → F dx = some (.own a) → c.mg x = some (.ref C) → x ∈ insN → fs.map (·.1) = fieldsOf x → IsDs c F (fs.map (·.2)) vs → IsD c F (.ref a) (.ins x vs)
  | exc {a C : Addr} {oa : Option Addr} {x : Str} {fs : List (Str × V)} {vs : List D} : F a = some (ExcO (.ref C) oa a) → ((oa = none ∧ fs = []) ∨ ∃ dd, oa = some dd ∧ F dd = some (.xd fs)) → c.mg x = some (.ref C) → (x ∈ excF ∨ x ∈ excN) → fs.map (·.1) = fieldsOf x → IsDs c F (fs.map (·.2)) vs → IsD c F (.ref a) (.ins x vs)
  | dctM {a : Addr} {kvs : List (Key × V)} {vs : List D} : F a = some (.dK kvs) → IsDs c F (kvs.map (·.2)) vs → IsD c F (.ref a) (.ins "{}" [.lst (kvs.map fun p => keyMix p.1), .lst vs])
inductive IsDs (c : Cg) (F : Hp) : List V → List D → Prop
  | nil : IsDs c F [] []
  | cons {v : V} {vs : List V} {d : D} {ds : List D} : IsD c F v d → IsDs c F vs ds → IsDs c F (v :: vs) (d :: ds)
end

theorem Same.rd {F F' : Hp} {a : Addr} {u : HO} (e : Same F F') (h : Rd F a u) : Rd F' a u := by
  rcases h with h | ⟨o, h⟩
  · exact .inl (e _ _ h)
  · exact .inr ⟨o, e _ _ h⟩
theorem Same.sqT {K : PySem.W.Frag} {H H' : Hp} {a : Addr} {xs : List V} (e : Same H H') (h : SqT K H a xs) : SqT K H' a xs := by
  rcases h with (h | ⟨o, h⟩) | h
  · exact .inl (.inl (e _ _ h))
  · exact .inl (.inr ⟨o, e _ _ h⟩)
  · exact .inr h
section
variable {c : Cg} {F F' H : Hp}
mutual
theorem IsD.mono (e : Same F F') : ∀ {d : D} {v : V}, IsD c F v d → IsD c F' v d
  | _, _, .non => .non
  | _, _, .bl b => .bl b
  | _, _, .int i => .int i
  | _, _, .str y => .str y
  | _, _, .tup h1 h2 => .tup (Same.sqT e h1) (IsDs.mono e h2)
  | _, _, .lst h1 h2 => .lst (Same.seq e h1) (IsDs.mono e h2)
  | _, _, .setS h1 => .setS (e _ _ h1)
  | _, _, .dctK h1 h2 h3 h4 h5 h6 => .dctK (e _ _ h1) (IsDs.mono e h2) h3 h4 h5 (IsDs.mono e h6)
  | _, _, .setK h1 h2 h3 h4 => .setK (e _ _ h1) (IsDs.mono e h2) h3 h4
  | _, _, .ins h1 h2 h3 h4 h5 h6 => .ins (e _ _ h1) (e _ _ h2) h3 h4 h5 (IsDs.mono e h6)
  | _, _, .exc h1 h2 h3 h4 h5 h6 => .exc (e _ _ h1) (h2.imp id fun ⟨dd, a, b⟩ => ⟨dd, a, e _ _ b⟩) h3 h4 h5 (IsDs.mono e h6)
  | _, _, .dctM h1 h2 => .dctM (e _ _ h1) (IsDs.mono e h2)
theorem IsDs.mono (e : Same F F') : ∀ {ds : List D} {vs : List V}, IsDs c F vs ds → IsDs c F' vs ds
  | _, _, .nil => .nil
  | _, _, .cons h1 h2 => .cons (IsD.mono e h1) (IsDs.mono e h2)
end
theorem IsDs.length : ∀ {ds : List D} {vs : List V}, IsDs c F vs ds → vs.length = ds.length
  | _, _, .nil => rfl
  | _, _, .cons _ h => by simp [IsDs.length h]
theorem IsDs.append {ds' : List D} {vs' : List V} (y : IsDs c F vs' ds') : ∀ {ds : List D} {vs : List V}, IsDs c F vs ds → IsDs c F (vs ++ vs') (ds ++ ds')
  | _, _, .nil => y
  | _, _, .cons a b => .cons a (IsDs.append y b)
theorem IsDs.at : ∀ {ds : List D} {vs : List V} {i : Nat} {v : V}, IsDs c F vs ds → vs[i]? = some v → ∃ d, ds[i]? = some d ∧ IsD c F v d
  | _, _, _, _, .nil, h => by simp at h
  | _, _, 0, _, .cons a b, h => by
    simp at h
    subst h
    exact ⟨_, rfl, a⟩
  | _, _, i + 1, _, .cons a b, h => by
    obtain ⟨d, e, x⟩ := IsDs.at (i := i) b (by simpa using h)
    exact ⟨d, by simpa using e, x⟩
theorem IsDs.atD : ∀ {ds : List D} {vs : List V} {i : Nat} {d : D}, IsDs c F vs ds → ds[i]? = some d → ∃ v, vs[i]? = some v ∧ IsD c F v d
  | _, _, _, _, .nil, h => by simp at h
  | _, _, 0, _, .cons a b, h => by
    simp at h
    subst h
    exact ⟨_, rfl, a⟩
  | _, _, i + 1, _, .cons a b, h => by
    obtain ⟨d, e, x⟩ := IsDs.atD (i := i) b (by simpa using h)
    exact ⟨d, by simpa using e, x⟩
theorem IsDs.take (n : Nat) : ∀ {ds : List D} {vs : List V}, IsDs c F vs ds → IsDs c F (vs.take n) (ds.take n) := by
  induction n with
  | zero => intro ds vs _; exact .nil
  | succ n ih =>
    intro ds vs h
    cases h with
    | nil => exact .nil
    | cons a b => exact .cons a (ih b)
theorem IsDs.drop (n : Nat) : ∀ {ds : List D} {vs : List V}, IsDs c F vs ds → IsDs c F (vs.drop n) (ds.drop n) := by
  induction n with
  | zero => intro ds vs h; exact h
  | succ n ih =>
    intro ds vs h
    cases h with
    | nil => exact .nil
    | cons a b => exact ih b
theorem IsDs.eraseIdx (n : Nat) : ∀ {ds : List D} {vs : List V}, IsDs c F vs ds → IsDs c F (vs.eraseIdx n) (ds.eraseIdx n) := by
  induction n with
  | zero =>
    intro ds vs h
    cases h with
    | nil => exact .nil
    | cons a b => exact b
  | succ n ih =>
    intro ds vs h
    cases h with
    | nil => exact .nil
    | cons a b => exact .cons a (ih b)
theorem IsDs.reverse : ∀ {ds : List D} {vs : List V}, IsDs c F vs ds → IsDs c F vs.reverse ds.reverse
  | _, _, .nil => .nil
  | _, _, .cons a b => by
    simp only [List.reverse_cons]
    exact IsDs.append (.cons a .nil) (IsDs.reverse b)

/-! ### as plain data, as keys -/
mutual
theorem IsD.dp (e : Same F H) : ∀ {d : D} {v : V} {p : PyData}, IsD c F v d → toPy d = some p → Dp c.K H v p
  | .non, _, _, x, h => by cases x; cases h; exact .non
  | .bl b, _, _, x, h => by cases x; cases h; exact .bl b
  | .int i, _, _, x, h => by cases x; cases h; exact .int i
  | .str y, _, _, x, h => by cases x; cases h; exact .str y
  | .tup ds, _, _, x, h => by
    cases x with
    | tup h1 h2 =>
      simp only [toPy, Option.map_eq_some_iff] at h
      obtain ⟨ps, hp, rfl⟩ := h
      exact .tup (Same.sqT e h1) (IsDs.dp e h2 hp)
  | .lst ds, _, _, x, h => by
    cases x with
    | lst h1 h2 =>
      simp only [toPy, Option.map_eq_some_iff] at h
      obtain ⟨ps, hp, rfl⟩ := h
      exact .lst (Same.seq e h1) (IsDs.dp e h2 hp)
  | .set ds, _, _, x, h => by cases h
  | .dct ks vs, _, _, x, h => by cases h
  | .ins n vs, _, _, x, h => by cases h
theorem IsDs.dp (e : Same F H) : ∀ {ds : List D} {vs : List V} {ps : List PyData}, IsDs c F vs ds → toPys ds = some ps → DpAll c.K H vs ps
  | [], _, _, x, h => by cases x; cases h; exact .nil
  | d :: ds, _, _, x, h => by
    cases x with
    | cons h1 h2 =>
      simp only [toPys] at h
      split at h
      · rename_i k ks hk hks
        cases h
        exact .cons (IsD.dp e h1 hk) (IsDs.dp e h2 hks)
      · cases h
end
mutual
/-- data that < may be asked of: whole numbers, texts, tuples of such -/
def isOrd : D → Bool
  | .int _ => true
  | .str _ => true
  | .tup ds => isOrds ds
  | .non => false
  | .bl _ => false
  | .lst _ => false
  | .set _ => false
  | .dct _ _ => false
  | .ins _ _ => false
def isOrds : List D → Bool
  | [] => true
  | d :: ds => isOrd d && isOrds ds
end
end
section
variable {X : Cx} {pins : List (Addr × Obj)} {σ : L2.St} {H F : Hp} {s : Shared}
mutual
theorem IsD.nk (I : Inv X pins σ H s) (e : Same F H) : ∀ {d : D} {v : V} {u : Value} {k : NK}, IsD (cg X) F v d → toNK d = some k → RelV v u → NestedIs s.heap k u
  | .non, _, _, _, x, h, r => by cases x; cases h; cases r; exact .none
  | .bl b, _, _, _, x, h, r => by cases x; cases h; cases r; exact .bool rfl
  | .int i, _, _, _, x, h, r => by cases x; cases h; obtain ⟨t, rfl⟩ := r; exact .int _ _
  | .str y, _, _, _, x, h, r => by cases x; cases h; obtain ⟨t, rfl⟩ := r; exact .text _ _
  | .tup ds, _, _, _, x, h, r => by
    cases x with
    | tup h1 h2 =>
      simp only [toNK, Option.map_eq_some_iff] at h
      obtain ⟨ks, hk, rfl⟩ := h
      cases r
      obtain ⟨its, rv, ⟨o, ho, hc, n, hd⟩, _⟩ := I.tuple (Same.sqT e h1)
      exact .tup ho hc hd (IsDs.nk I e h2 hk (by simpa using rv))
  | .lst ds, _, _, _, x, h, _ => by cases h
  | .set ds, _, _, _, x, h, _ => by cases h
  | .dct ks vs, _, _, _, x, h, _ => by cases h
  | .ins n vs, _, _, _, x, h, _ => by cases h
theorem IsDs.nk (I : Inv X pins σ H s) (e : Same F H) : ∀ {ds : List D} {vs : List V} {us : List Value} {ks : List NK}, IsDs (cg X) F vs ds → toNKs ds = some ks → Vals vs us → NestedAll s.heap ks us
  | [], _, _, _, x, h, r => by cases x; cases h; cases r; exact .nil
  | d :: ds, _, _, _, x, h, r => by
    cases x with
    | cons h1 h2 =>
      cases r with
      | cons r1 r2 =>
        simp only [toNKs] at h
        split at h
        · rename_i k ks hk hks
          cases h
          exact .cons (IsD.nk I e h1 hk r1) (IsDs.nk I e h2 hks r2)
        · cases h
end
mutual
theorem IsD.ord (I : Inv X pins σ H s) (e : Same F H) : ∀ {d : D} {v : V} {u : Value} {k : NK}, IsD (cg X) F v d → toNK d = some k → isOrd d = true → RelV v u → OrdK s.heap k u
  | .non, _, _, _, x, h, o, r => by cases o
  | .bl b, _, _, _, x, h, o, r => by cases o
  | .int i, _, _, _, x, h, o, r => by cases x; cases h; obtain ⟨t, rfl⟩ := r; exact .int _ _
  | .str y, _, _, _, x, h, o, r => by cases x; cases h; obtain ⟨t, rfl⟩ := r; exact .text _ _
  | .tup ds, _, _, _, x, h, o, r => by
    cases x with
    | tup h1 h2 =>
      simp only [toNK, Option.map_eq_some_iff] at h
      obtain ⟨ks, hk, rfl⟩ := h
      cases r
      obtain ⟨its, rv, ⟨ob, ho, hc, n, hd⟩, _⟩ := I.tuple (Same.sqT e h1)
      exact .tup ho hc hd (IsDs.ord I e h2 hk (by rw [isOrd] at o; exact o) (by simpa using rv))
  | .lst ds, _, _, _, x, h, _, _ => by cases h
  | .set ds, _, _, _, x, h, _, _ => by cases h
  | .dct ks vs, _, _, _, x, h, _, _ => by cases h
  | .ins n vs, _, _, _, x, h, _, _ => by cases h
theorem IsDs.ord (I : Inv X pins σ H s) (e : Same F H) : ∀ {ds : List D} {vs : List V} {us : List Value} {ks : List NK}, IsDs (cg X) F vs ds → toNKs ds = some ks → isOrds ds = true → Vals vs us → OrdKs s.heap ks us
  | [], _, _, _, x, h, o, r => by cases x; cases h; cases r; exact .nil
  | d :: ds, _, _, _, x, h, o, r => by
    cases x with
    | cons h1 h2 =>
      cases r with
      | cons r1 r2 =>
        simp only [toNKs] at h
        rw [isOrds, Bool.and_eq_true] at o
        split at h
        · rename_i k ks hk hks
          cases h
          exact .cons (IsD.ord I e h1 hk o.1 r1) (IsDs.ord I e h2 hks o.2 r2)
        · cases h
end
end
end RW

set_option Elab.async false
set_option linter.all false
set_option maxRecDepth 100000
set_option maxHeartbeats 4000000
/-! RwData2: equality of data, sets and sorted of data: the rules. -/
namespace RW
open PySem PySem.Spec PyProof.Rows L2

mutual
def D.beq : D → D → Bool
  | .non, .non => true
  | .bl a, .bl b => a == b
  | .int a, .int b => a == b
  | .str a, .str b => decide (a = b)
  | .tup a, .tup b => D.beqs a b
  | .lst a, .lst b => D.beqs a b
  | .set a, .set b => D.beqs a b
  | .dct a b, .dct a' b' => D.beqs a a' && D.beqs b b'
  | .ins x a, .ins y b => decide (x = y) && D.beqs a b
  | .non, .bl _ | .non, .int _ | .non, .str _ | .non, .tup _ | .non, .lst _ | .non, .set _ | .non, .dct _ _ | .non, .ins _ _ => false
  | .bl _, .non | .bl _, .int _ | .bl _, .str _ | .bl _, .tup _ | .bl _, .lst _ | .bl _, .set _ | .bl _, .dct _ _ | .bl _, .ins _ _ => false
  | .int _, .non | .int _, .bl _ | .int _, .str _ | .int _, .tup _ | .int _, .lst _ | .int _, .set _ | .int _, .dct _ _ | .int _, .ins _ _ => false
  | .str _, .non | .str _, .bl _ | .str _, .int _ | .str _, .tup _ | .str _, .lst _ | .str _, .set _ | .str _, .dct _ _ | .str _, .ins _ _ => false
  | .tup _, .non | .tup _, .bl _ | .tup _, .int _ | .tup _, .str _ | .tup _, .lst _ | .tup _, .set _ | .tup _, .dct _ _ | .tup _, .ins _ _ => false
  | .lst _, .non | .lst _, .bl _ | .lst _, .int _ | .lst _, .str _ | .lst _, .tup _ | .lst _, .set _ | .lst _, .dct _ _ | .lst _, .ins _ _ => false
  | .set _, .non | .set _, .bl _ | .set _, .int _ | .set _, .str _ | .set _, .tup _ | .set _, .lst _ | .set _, .dct _ _ | .set _, .ins _ _ => false
  | .dct _ _, .non | .dct _ _, .bl _ | .dct _ _, .int _ | .dct _ _, .str _ | .dct _ _, .tup _ | .dct _ _, .lst _ | .dct _ _, .set _ | .dct _ _, .ins _ _ => false
  | .ins _ _, .non | .ins _ _, .bl _ | .ins _ _, .int _ | .ins _ _, .str _ | .ins _ _, .tup _ | .ins _ _, .lst _ | .ins _ _, .set _ | .ins _ _, .dct _ _ => false
def D.beqs : List D → List D → Bool
  | [], [] => true
  | a :: as, b :: bs => D.beq a b && D.beqs as bs
  | [], _ :: _ => false
  | _ :: _, [] => false
end
mutual
theorem D.beq_self : ∀ a : D, D.beq a a = true
  | .non => by simp [D.beq]
  | .bl a => by simp [D.beq]
  | .int a => by simp [D.beq]
  | .str a => by simp [D.beq]
  | .tup a => by rw [D.beq]; exact D.beqs_self a
  | .lst a => by rw [D.beq]; exact D.beqs_self a
  | .set a => by rw [D.beq]; exact D.beqs_self a
  | .dct a b => by rw [D.beq, D.beqs_self a, D.beqs_self b]; rfl
  | .ins x a => by rw [D.beq, D.beqs_self a]; simp
theorem D.beqs_self : ∀ a : List D, D.beqs a a = true
  | [] => by simp [D.beqs]
  | a :: as => by rw [D.beqs, D.beq_self a, D.beqs_self as]; rfl
end
mutual
theorem D.eq_of : ∀ a b : D, D.beq a b = true → a = b
  | .non, b, h => by cases b <;> simp_all [D.beq]
  | .bl a, b, h => by cases b <;> simp_all [D.beq]
  | .int a, b, h => by cases b <;> simp_all [D.beq]
  | .str a, b, h => by cases b <;> simp_all [D.beq]
  | .tup a, b, h => by
    cases b with
    | tup b => rw [D.beq] at h; rw [D.eqs_of a b h]
    | _ => simp [D.beq] at h
  | .lst a, b, h => by
    cases b with
    | lst b => rw [D.beq] at h; rw [D.eqs_of a b h]
    | _ => simp [D.beq] at h
  | .set a, b, h => by
    cases b with
    | set b => rw [D.beq] at h; rw [D.eqs_of a b h]
    | _ => simp [D.beq] at h
  | .dct a a', b, h => by
    cases b with
    | dct b b' => rw [D.beq, Bool.and_eq_true] at h; rw [D.eqs_of a b h.1, D.eqs_of a' b' h.2]
    | _ => simp [D.beq] at h
  | .ins x a, b, h => by
    cases b with
    | ins y b => rw [D.beq, Bool.and_eq_true] at h; rw [of_decide_eq_true h.1, D.eqs_of a b h.2]
    | _ => simp [D.beq] at h
theorem D.eqs_of : ∀ a b : List D, D.beqs a b = true → a = b
  | [], [], _ => rfl
  | a :: as, b :: bs, h => by
    rw [D.beqs, Bool.and_eq_true] at h
    rw [D.eq_of a b h.1, D.eqs_of as bs h.2]
  | [], _ :: _, h => by simp [D.beqs] at h
  | _ :: _, [], h => by simp [D.beqs] at h
end
instance : DecidableEq D := fun a b => if h : D.beq a b = true then .isTrue (D.eq_of a b h) else .isFalse fun e => h (e ▸ D.beq_self a)

/-- without repetition, the last of equal ones kept -/
def nub {α : Type} [DecidableEq α] : List α → List α
  | [] => []
  | x :: xs => if x ∈ xs then nub xs else x :: nub xs
theorem mem_nub {α : Type} [DecidableEq α] {x : α} : ∀ {l : List α}, x ∈ nub l ↔ x ∈ l
  | [] => Iff.rfl
  | y :: l => by
    unfold nub
    split
    · rename_i h
      rw [mem_nub, List.mem_cons]
      exact ⟨.inr, fun z => z.elim (fun e => by rw [e]; exact h) id⟩
    · rw [List.mem_cons, List.mem_cons, mem_nub]
theorem nub_nodup {α : Type} [DecidableEq α] : ∀ l : List α, (nub l).Nodup
  | [] => List.nodup_nil
  | y :: l => by
    unfold nub
    split
    · exact nub_nodup l
    · rename_i h
      exact List.nodup_cons.mpr ⟨fun z => h (mem_nub.mp z), nub_nodup l⟩
theorem nub_length {α : Type} [DecidableEq α] : ∀ l : List α, (nub l).length ≤ l.length
  | [] => Nat.le_refl _
  | y :: l => by
    have ih := nub_length l
    unfold nub
    split <;> simp only [List.length_cons] <;> omega

theorem toNKs_cons {d : D} {ds : List D} {ks : List NK} (h : toNKs (d :: ds) = some ks) : ∃ k ks', toNK d = some k ∧ toNKs ds = some ks' ∧ ks = k :: ks' := by
  simp only [toNKs] at h
  cases h1 : toNK d with
  | none => rw [h1] at h; cases h
  | some k =>
    cases h2 : toNKs ds with
    | none => rw [h1, h2] at h; cases h
    | some ks' =>
      rw [h1, h2] at h
      cases h
      exact ⟨k, ks', rfl, rfl, rfl⟩
mutual
/-- ordered data with one key is one -/
theorem toNK_inj : ∀ (a b : D) (k : NK), isOrd a = true → isOrd b = true → toNK a = some k → toNK b = some k → a = b
  | .int i, b, k, _, hb, e1, e2 => by
    simp only [toNK, Option.some.injEq] at e1
    subst e1
    cases b with
    | int j => simp only [toNK, Option.some.injEq, NestedKey.num.injEq] at e2; rw [e2]
    | str _ => simp [toNK] at e2
    | tup bs => simp [toNK] at e2
    | _ => simp [isOrd] at hb
  | .str i, b, k, _, hb, e1, e2 => by
    simp only [toNK, Option.some.injEq] at e1
    subst e1
    cases b with
    | int j => simp [toNK] at e2
    | str j => simp only [toNK, Option.some.injEq, NestedKey.text.injEq] at e2; rw [e2]
    | tup bs => simp [toNK] at e2
    | _ => simp [isOrd] at hb
  | .tup as, b, k, ha, hb, e1, e2 => by
    simp only [toNK, Option.map_eq_some_iff] at e1
    obtain ⟨ks, h1, rfl⟩ := e1
    cases b with
    | tup bs =>
      simp only [toNK, Option.map_eq_some_iff] at e2
      obtain ⟨ks', h2, e⟩ := e2
      cases e
      rw [isOrd] at ha hb
      rw [toNKs_inj as bs ks ha hb h1 h2]
    | int _ => simp [toNK] at e2
    | str _ => simp [toNK] at e2
    | _ => simp [isOrd] at hb
  | .non, _, _, ha, _, _, _ => by simp [isOrd] at ha
  | .bl _, _, _, ha, _, _, _ => by simp [isOrd] at ha
  | .lst _, _, _, ha, _, _, _ => by simp [isOrd] at ha
  | .set _, _, _, ha, _, _, _ => by simp [isOrd] at ha
  | .dct _ _, _, _, ha, _, _, _ => by simp [isOrd] at ha
  | .ins _ _, _, _, ha, _, _, _ => by simp [isOrd] at ha
theorem toNKs_inj : ∀ (as bs : List D) (ks : List NK), isOrds as = true → isOrds bs = true → toNKs as = some ks → toNKs bs = some ks → as = bs
  | [], [], _, _, _, _, _ => rfl
  | [], b :: bs, ks, _, _, e1, e2 => by
    simp only [toNKs, Option.some.injEq] at e1
    subst e1
    obtain ⟨_, _, _, _, e⟩ := toNKs_cons e2
    cases e
  | a :: as, [], ks, _, _, e1, e2 => by
    simp only [toNKs, Option.some.injEq] at e2
    subst e2
    obtain ⟨_, _, _, _, e⟩ := toNKs_cons e1
    cases e
  | a :: as, b :: bs, ks, ha, hb, e1, e2 => by
    rw [isOrds, Bool.and_eq_true] at ha hb
    obtain ⟨k, ks1, h1, h2, rfl⟩ := toNKs_cons e1
    obtain ⟨k', ks2, h3, h4, e⟩ := toNKs_cons e2
    cases e
    rw [toNK_inj a b _ ha.1 hb.1 h1 h3, toNKs_inj as bs _ ha.2 hb.2 h2 h4]
end

/-- the order of data -/
def keyD (d : D) : NK := (toNK d).getD .none
def dlt (a b : D) : Bool := nlt (keyD a) (keyD b)
def dle (a b : D) : Bool := !dlt b a
def dsort (ds : List D) : List D := ds.mergeSort dle
/-- what may be sorted: ordered, comparable, not deep -/
def sortOk (ds : List D) : Bool := isOrds ds && (match toNKs ds with
  | some ks => ks.all (fun x => ks.all fun y => okc x y) && ks.all fun k => decide (k.depth ≤ 8)
  | none => false)
theorem isOrds_mem : ∀ {ds : List D} {d : D}, isOrds ds = true → d ∈ ds → isOrd d = true
  | [], d, _, h => by cases h
  | x :: ds, d, o, h => by
    rw [isOrds, Bool.and_eq_true] at o
    rcases List.mem_cons.mp h with e | h
    · rw [e]; exact o.1
    · exact isOrds_mem o.2 h
mutual
theorem ord_nk : ∀ {d : D}, isOrd d = true → ∃ k, toNK d = some k
  | .int i, _ => ⟨_, rfl⟩
  | .str x, _ => ⟨_, rfl⟩
  | .tup ds, h => by
    rw [isOrd] at h
    obtain ⟨ks, e⟩ := ords_nk h
    exact ⟨_, by rw [toNK, e]; rfl⟩
  | .non, h => by simp [isOrd] at h
  | .bl _, h => by simp [isOrd] at h
  | .lst _, h => by simp [isOrd] at h
  | .set _, h => by simp [isOrd] at h
  | .dct _ _, h => by simp [isOrd] at h
  | .ins _ _, h => by simp [isOrd] at h
theorem ords_nk : ∀ {ds : List D}, isOrds ds = true → ∃ ks, toNKs ds = some ks
  | [], _ => ⟨[], rfl⟩
  | d :: ds, h => by
    rw [isOrds, Bool.and_eq_true] at h
    obtain ⟨k, e⟩ := ord_nk h.1
    obtain ⟨ks, e2⟩ := ords_nk h.2
    exact ⟨k :: ks, by rw [toNKs, e, e2]⟩
end
theorem dle_total (a b : D) : (dle a b || dle b a) = true := by
  unfold dle dlt
  cases q : nlt (keyD b) (keyD a) with
  | false => rfl
  | true => rw [nlt_asym q]; rfl
theorem dle_trans (a b c : D) (h1 : dle a b = true) (h2 : dle b c = true) : dle a c = true := by
  simp only [dle, dlt, Bool.not_eq_true'] at *
  exact nlt_neg h1 h2
theorem dle_antisymm {a b : D} (ha : isOrd a = true) (hb : isOrd b = true) (h1 : dle a b = true) (h2 : dle b a = true) : a = b := by
  obtain ⟨x, ex⟩ := ord_nk ha
  obtain ⟨y, ey⟩ := ord_nk hb
  simp only [dle, dlt, keyD, ex, ey, Option.getD_some, Bool.not_eq_true'] at h1 h2
  have e := nlt_tri _ _ h1 h2
  subst e
  exact toNK_inj a b _ ha hb ex ey
theorem dsort_perm (ds : List D) : (dsort ds).Perm ds := List.mergeSort_perm ds dle
theorem dsort_sorted (ds : List D) : (dsort ds).Pairwise fun a b => dle a b = true := List.pairwise_mergeSort dle_trans dle_total ds
theorem dsort_eq {ds es : List D} (o : isOrds ds = true) (pm : es.Perm ds) (pw : es.Pairwise fun a b => dle a b = true) : es = dsort ds :=
  List.Perm.eq_of_pairwise (le := fun a b => dle a b = true) (fun a b ha hb h1 h2 => dle_antisymm (isOrds_mem o (pm.mem_iff.mp ha)) (isOrds_mem o ((dsort_perm ds).mem_iff.mp hb)) h1 h2)
    pw (dsort_sorted ds) (pm.trans (dsort_perm ds).symm)

/-! ### sorted(x) -/
section
variable {X : Cx}
theorem toNKs_len : ∀ {ds : List D} {ks : List NK}, toNKs ds = some ks → ks.length = ds.length
  | [], ks, h => by cases h; rfl
  | d :: ds, ks, h => by
    obtain ⟨k, ks', h1, h2, rfl⟩ := toNKs_cons h
    simp [toNKs_len h2]
theorem back_of_keys {pins : List (Addr × Obj)} {σ : L2.St} {H F : Hp} {s : Shared} (I : Inv X pins σ H s) (e : Same F H) : ∀ {ds : List D} {vs : List V} {us : List Value}, IsDs (cg X) F vs ds → Vals vs us → isOrds ds = true →
    ∀ u ∈ us, ∃ v d, v ∈ vs ∧ d ∈ ds ∧ RelV v u ∧ IsD (cg X) F v d ∧ OrdK s.heap (keyD d) u
  | [], _, _, x, r, _, u, hu => by cases x; cases r; cases hu
  | d :: ds, _, _, x, r, o, u, hu => by
    rw [isOrds, Bool.and_eq_true] at o
    cases x with
    | cons x1 x2 =>
      cases r with
      | cons r1 r2 =>
        rcases List.mem_cons.mp hu with z | hu
        · subst z
          obtain ⟨k, ek⟩ := ord_nk o.1
          refine ⟨_, d, List.mem_cons_self, List.mem_cons_self, r1, x1, ?_⟩
          rw [keyD, ek]
          exact IsD.ord I e x1 ek o.1 r1
        · obtain ⟨v, d', a, b, q⟩ := back_of_keys I e x2 r2 o.2 u hu
          exact ⟨v, d', List.mem_cons_of_mem _ a, List.mem_cons_of_mem _ b, q⟩
theorem paired_perm0 {α β : Type} {R : α → β → Prop} : ∀ {us us' : List α}, us.Perm us' → ∀ {ds : List β}, Paired R us ds → ∃ ds', Paired R us' ds' ∧ ds'.Perm ds := by
  intro us us' p
  induction p with
  | nil => intro ds h; cases h; exact ⟨[], .nil, .nil⟩
  | cons x p ih =>
    intro ds h
    cases h with
    | cons h1 h2 =>
      obtain ⟨ds', a, b⟩ := ih h2
      exact ⟨_, .cons h1 a, b.cons _⟩
  | swap x y l =>
    intro ds h
    cases h with
    | cons h1 h2 =>
      cases h2 with
      | cons h2 h3 => exact ⟨_, .cons h2 (.cons h1 h3), .swap _ _ _⟩
  | trans p1 p2 ih1 ih2 =>
    intro ds h
    obtain ⟨d1, a1, b1⟩ := ih1 h
    obtain ⟨d2, a2, b2⟩ := ih2 a1
    exact ⟨d2, a2, b2.trans b1⟩
theorem paired_perm {α β : Type} {R : α → β → Prop} {us us' : List α} (p : us'.Perm us) {ds : List β} (h : Paired R us ds) : ∃ ds', Paired R us' ds' ∧ ds'.Perm ds := paired_perm0 p.symm h
theorem paired_flip {α β : Type} {R : α → β → Prop} : ∀ {us : List α} {ds : List β}, Paired R us ds → Paired (fun b a => R a b) ds us
  | _, _, .nil => .nil
  | _, _, .cons a b => .cons a (paired_flip b)
theorem paired_permR {α β : Type} {R : α → β → Prop} {us : List α} {ds ds' : List β} (p : ds'.Perm ds) (h : Paired R us ds) : ∃ us', Paired R us' ds' ∧ us'.Perm us := by
  obtain ⟨us', a, b⟩ := paired_perm p (paired_flip h)
  exact ⟨us', paired_flip a, b⟩
theorem paired_pairwise {α β : Type} {R : α → β → Prop} {P : α → α → Prop} {Q : β → β → Prop} (h : ∀ a b a' b', R a b → R a' b' → P a a' → Q b b') : ∀ {us : List α} {ds : List β}, Paired R us ds → us.Pairwise P → ds.Pairwise Q := by
  intro us ds r
  have mem : ∀ {us : List α} {ds : List β}, Paired R us ds → ∀ b ∈ ds, ∃ a ∈ us, R a b := by
    intro us ds r
    induction r with
    | nil => intro b hb; cases hb
    | cons h1 _ ih =>
      intro b hb
      rcases List.mem_cons.mp hb with e | hb
      · exact ⟨_, List.mem_cons_self, by rw [e]; exact h1⟩
      · obtain ⟨a, x, y⟩ := ih b hb
        exact ⟨a, List.mem_cons_of_mem _ x, y⟩
  induction r with
  | nil => intro _; exact .nil
  | cons h1 h2 ih =>
    intro p
    obtain ⟨p1, p2⟩ := List.pairwise_cons.mp p
    refine List.pairwise_cons.mpr ⟨fun b hb => ?_, ih p2⟩
    obtain ⟨a, ha, r⟩ := mem h2 b hb
    exact h _ _ _ _ h1 r (p1 a ha)
/-- value and data, told by an abstract value between -/
def UD (c : Cg) (F : Hp) (h : Heap) (u : Value) (d : D) : Prop := ∃ v, RelV v u ∧ IsD c F v d ∧ OrdK h (keyD d) u
theorem ud_of {pins : List (Addr × Obj)} {σ : L2.St} {H F : Hp} {s : Shared} (I : Inv X pins σ H s) (e : Same F H) : ∀ {ds : List D} {vs : List V} {us : List Value}, IsDs (cg X) F vs ds → Vals vs us → isOrds ds = true → Paired (UD (cg X) F s.heap) us ds
  | [], _, _, x, r, _ => by cases x; cases r; exact .nil
  | d :: ds, _, _, x, r, o => by
    rw [isOrds, Bool.and_eq_true] at o
    cases x with
    | cons x1 x2 =>
      cases r with
      | cons r1 r2 =>
        obtain ⟨k, ek⟩ := ord_nk o.1
        refine .cons ⟨_, r1, x1, ?_⟩ (ud_of I e x2 r2 o.2)
        rw [keyD, ek]
        exact IsD.ord I e x1 ek o.1 r1
theorem of_ud {c : Cg} {F : Hp} {h : Heap} : ∀ {us : List Value} {ds : List D}, Paired (UD c F h) us ds → ∃ vs, Vals vs us ∧ IsDs c F vs ds
  | _, _, .nil => ⟨[], .nil, .nil⟩
  | _, _, .cons ⟨v, r, x, _⟩ t => by
    obtain ⟨vs, a, b⟩ := of_ud t
    exact ⟨v :: vs, .cons r a, .cons x b⟩

/-! a new object at a free place -/
section
variable {fs ex : List Addr} {H : Hp} {h h' : Heap} {a : Addr} {o : HO} {P : Program} {w : World}
theorem un_laid (k : ∀ b u, h.get? b = some u → h'.get? b = some u) (hg : h.get? a = none) (hn : H a = none) : Un fs ex H (upd H a o) h h' where
  keep := fun b u q _ _ _ => k b u q
  slot := fun b u q _ _ _ => ⟨u.slots, k b u q⟩
  free := fun b u q n _ => by rw [upd_ne (fun z => by rw [z, hg] at q; cases q)]; exact n
  there := fun b u q _ => ⟨u, k b u q⟩
  tups := fun b xs q => by rw [upd_ne (ne_of_none q hn)]; exact q
  frzs := fun b u xs q => by rw [upd_ne (ne_of_none q hn)]; exact q
  tbls := fun b ps q => ⟨#[], by rw [upd_ne (ne_of_none q hn), q]; simp⟩
theorem hok_laid (x : HOk P w H h) (k : ∀ b u, h.get? b = some u → h'.get? b = some u) (hn : H a = none) (new : ObjOk P w (upd H a o) h' a o) : HOk P w (upd H a o) h' := fun b u e => by
  by_cases hb : b = a
  · subst hb; rw [upd_same] at e; cases e; exact new
  · rw [upd_ne hb] at e
    exact (x b u e).stay (fun c v _ q => k c v q) (fun c q => by rw [upd_ne (ne_of_none q hn)]; exact q) fun c xs q => by rw [upd_ne (ne_of_none q hn)]; exact q
theorem ob_there (x : ObjOk P w H h a o) : ∃ u, h.get? a = some u := by
  induction o with
  | lst xs => obtain ⟨_, _, _, _, e⟩ := x; exact ⟨_, e⟩
  | tup xs => obtain ⟨_, _, _, ob, e, _⟩ := x; exact ⟨_, e⟩
  | dK kvs => obtain ⟨_, _, _, _, o, _, _, e, _⟩ := x; exact ⟨_, e⟩
  | dT kvs => obtain ⟨_, _, _, _, o, _, _, e, _⟩ := x; exact ⟨_, e⟩
  | set S n => obtain ⟨o, _, _, _, e, _⟩ := x; exact ⟨_, e⟩
  | ins C dx fs => obtain ⟨_, _, _, e, _⟩ := x; exact ⟨_, e⟩
  | own y => exact x
  | xd fs => obtain ⟨_, ⟨_, _, _, e, _⟩, _⟩ := x; exact ⟨_, e⟩
  | rng lo hi => obtain ⟨_, _, _, e⟩ := x; exact ⟨_, e⟩
  | frz ob u ih => exact ⟨_, x.1⟩
  | tbl ps => exact ⟨_, x⟩
  | met f y => exact ⟨_, x⟩
  | ext φ => exact x.2.1
theorem free_of (x : HOk P w H h) (hg : h.get? a = none) : H a = none := by
  cases q : H a with
  | none => rfl
  | some o =>
    obtain ⟨u, e⟩ := ob_there (x a o q)
    rw [hg] at e
    cases e
end
theorem sortOk_iff {ds : List D} (h : sortOk ds = true) : isOrds ds = true ∧ ∃ ks, toNKs ds = some ks ∧ (∀ x ∈ ks, ∀ y ∈ ks, okc x y = true) ∧ ∀ k ∈ ks, k.depth ≤ 8 := by
  unfold sortOk at h
  rw [Bool.and_eq_true] at h
  refine ⟨h.1, ?_⟩
  cases e : toNKs ds with
  | none => rw [e] at h; exact absurd h.2 (by simp)
  | some ks =>
    rw [e] at h
    have h2 := h.2
    simp only [Bool.and_eq_true, List.all_eq_true, decide_eq_true_eq] at h2
    exact ⟨ks, rfl, h2.1, h2.2⟩
theorem room16 {A : Around} {k : Nat} (hr : Room k A) : A.units + 16 < cLine := Nat.lt_of_le_of_lt (Nat.add_le_add_left (by decide : 16 ≤ 64) _) hr.units

theorem vals_refs {α : Type} : ∀ L : List (Addr × α), Vals (L.map fun p => V.ref p.1) (L.map fun p => Value.ref p.1)
  | [] => .nil
  | _ :: L => .cons rfl (vals_refs L)
theorem perm_of_few {α : Type} [DecidableEq α] : ∀ (l l' : List α), l.Nodup → (∀ x ∈ l, x ∈ l') → l'.length = l.length → l'.Perm l
  | [], l', _, _, h => by
    rw [List.eq_nil_of_length_eq_zero h]
  | x :: l, l', nd, sub, h => by
    obtain ⟨h1, h2⟩ := List.nodup_cons.mp nd
    have hx := sub x List.mem_cons_self
    have p1 : l'.Perm (x :: l'.erase x) := List.perm_cons_erase hx
    have e := perm_of_few l (l'.erase x) h2 (fun y hy => (List.mem_erase_of_ne (fun z => h1 (by rw [← z]; exact hy))).mpr (sub y (List.mem_cons_of_mem _ hy)))
      (by have := p1.length_eq; simp only [List.length_cons] at this h; omega)
    exact p1.trans (e.cons x)
/-- the texts of a set, in the table's order -/
theorem texts_of {P : Program} {w : World} {h : Heap} {a : Addr} {l : List Str} {DD : PySem.Froz.SD} (R : SetS P w h a l DD) : ∃ l', l'.Perm l ∧ Paired (fun (u : Value) (x : Str) => ∃ t, u = Value.str x t) (DD.1.toList.map (·.2)) l' := by
  have key : ∀ es : List (Int × Value), ElemsOf (strKind P w) es → ∃ l', Paired (fun (u : Value) (x : Str) => ∃ t, u = Value.str x t) (es.map (·.2)) l' ∧ ∀ x, (∃ e ∈ es, (strKind P w).is x e.2 = true) → x ∈ l' := by
    intro es
    induction es with
    | nil => intro _; exact ⟨[], .nil, fun x ⟨e, he, _⟩ => (by cases he)⟩
    | cons e es ih =>
      intro el
      obtain ⟨l', a, b⟩ := ih el.tail
      obtain ⟨⟨k, hk, _⟩, _⟩ := el.head
      obtain ⟨t, ev⟩ := Value.isStrOf_shape (x := k) (v := e.2) hk
      refine ⟨k :: l', .cons ⟨t, ev⟩ a, fun x ⟨e', he', hx⟩ => ?_⟩
      rcases List.mem_cons.mp he' with z | z
      · rw [z] at hx
        have : x = k := (strKind P w).inj e.2 x k hx hk
        rw [this]
        exact List.mem_cons_self
      · exact List.mem_cons_of_mem _ (b x ⟨e', z, hx⟩)
  obtain ⟨l', a, b⟩ := key _ R.ok.el
  have hl : l'.length = l.length := by
    have h1 := Paired.length a
    have h2 := R.ok.sz
    rw [List.length_map, Array.length_toList] at h1
    omega
  exact ⟨l', perm_of_few l l' R.nd (fun x hx => b x ((R.ok.mem x).mp hx)) hl, a⟩

/-- what sorted takes: a list or a tuple that is to be read, or a set; its items -/
inductive Srt (c : Cg) (F H : Hp) : V → List D → Prop
  | lst {a : Addr} {xs : List V} {ds : List D} : SqL c.K H a xs → IsDs c F xs ds → Srt c F H (.ref a) ds
  | tup {a : Addr} {xs : List V} {ds : List D} : SqT c.K H a xs → IsDs c F xs ds → Srt c F H (.ref a) ds
  | setK {a : Addr} {L : List (Addr × NK)} {ds es : List D} : H a = some (SetKO c.w a L) → IsDs c F (L.map fun p => .ref p.1) es → toNKs es = some (L.map (·.2)) → es.Perm ds → Srt c F H (.ref a) ds
  | setS {a : Addr} {l : List Str} : H a = some (SetSO c.P c.w a l) → Srt c F H (.ref a) (l.map .str)

/-- sorted(x) -/
def rSorted (c : Cg) : List V → Hp → VK → Prop := fun xs H Q => ∃ (F : Hp) (v : V) (ds : List D), xs = [v] ∧ Same F H ∧ Srt c F H v ds ∧ sortOk ds = true ∧ ds.length ≤ sizeLine ∧
  ∀ (p : Addr) (vs : List V), H p = none → IsDs c F vs (dsort ds) → Q (.ref p) (upd H p (.lst vs))
theorem strs_ord (l : List Str) : isOrds (l.map .str) = true := by
  induction l with
  | nil => rfl
  | cons x l ih => simp [isOrds, isOrd, ih]
theorem cr_sorted (hc : X.calm = true) (hu : X.A.units + 64 < cLine) : CallR X (.builtin "sorted") (rSorted (cg X)) := by
  intro pins s σ H xs us Q I r h
  obtain ⟨F, v, ds, rfl, sm, sr, ok, hz, q⟩ := h
  obtain ⟨u, rfl, ru⟩ := vals1 r
  obtain ⟨od, ks, hks, okk, dpk⟩ := sortOk_iff ok
  have hsl := sizeLine_eq
  -- the end, whatever was collected
  have fin : ∀ (vs0 : List Value), Paired (UD (cg X) F s.heap) vs0 ds → ∀ (s' : Shared) (d : Addr) (out : List Value) (n : Nat), (∀ b o, s.heap.get? b = some o → s'.heap.get? b = some o) → s.heap.get? d = none → s'.gens = s.gens → s'.os = s.os →
      s'.heap.get? d = some (seqObj "list" out.toArray n) → out.Perm vs0 → out.Pairwise (fun u v => nlt (keyIn s.heap v) (keyIn s.heap u) = false) → EP X pins σ Q (.ref d) s' := by
    intro vs0 ud s' d out n k hd g o hg pm pw
    obtain ⟨ds', ud', pmd⟩ := paired_perm pm ud
    have pwd : ds'.Pairwise fun a b => dle a b = true := paired_pairwise (fun a b a' b' r1 r2 h => by
      obtain ⟨_, _, _, k1⟩ := r1
      obtain ⟨_, _, _, k2⟩ := r2
      rw [keyIn_eq k1, keyIn_eq k2] at h
      simp only [dle, dlt, h, Bool.not_false]) ud' pw
    have e := dsort_eq od pmd pwd
    obtain ⟨vs, hv, hd2⟩ := of_ud ud'
    have hn : H d = none := free_of I.hok hd
    have hl : vs.length ≤ sizeLine := by
      rw [IsDs.length hd2, pmd.length_eq]
      exact hz
    have J : Inv X pins σ (upd H d (.lst vs)) { s with heap := s'.heap, gens := s'.gens, drawn := s'.drawn, toks := s'.toks } :=
      I.call (ch := []) (un_laid k hd hn) (hok_laid I.hok k hn ⟨hl, out, n, hv, hg⟩) (by rw [g]; exact I.bare) (fun _ z => nomatch z)
    have es : s' = { s with heap := s'.heap, gens := s'.gens, drawn := s'.drawn, toks := s'.toks } := by
      cases s'
      cases s
      cases o
      rfl
    rw [es]
    exact ⟨.ref d, _, J, rfl, q d vs hn (by rw [← e]; exact hd2)⟩
  -- the machine's part
  have run : ∀ (vs0 : List Value), Paired (UD (cg X) F s.heap) vs0 ds →
      (∀ (Q' : List Value → Shared → Prop) (E' : Value → Shared → Prop), (∀ s1 vs, (∀ b o, s.heap.get? b = some o → s1.heap.get? b = some o) → s1.gens = s.gens → s1.os = s.os → vs.Perm vs0 → Q' vs s1) →
        wpAny (model X.prog X.w) X.A.in1 (collect u) Q' E' s) →
      wpAny (model X.prog X.w) X.A (call (.builtin "sorted") [u]) (EP X pins σ Q) X.xe s := by
    intro vs0 ud hcol
    have ko : ∀ {us : List Value} {es : List D}, Paired (UD (cg X) F s.heap) us es → OrdKs s.heap (es.map keyD) us := by
      intro us es h
      induction h with
      | nil => exact .nil
      | cons h1 _ ih =>
        obtain ⟨_, _, _, k⟩ := h1
        exact .cons k ih
    have ke : ∀ {es : List D} {ks : List NK}, toNKs es = some ks → es.map keyD = ks := by
      intro es
      induction es with
      | nil => intro ks h; cases h; rfl
      | cons d es ih =>
        intro ks h
        obtain ⟨k, ks', h1, h2, rfl⟩ := toNKs_cons h
        rw [List.map_cons, ih h2, keyD, h1]
        rfl
    have hl : vs0.length = ds.length := Paired.length ud
    refine sorted_core (s := s) (ko ud) (by omega) (by rw [ke hks]; exact okk) (by rw [ke hks]; exact dpk) (by omega) hcol fun s' d out n k hd g o hg pm pw => ?_
    exact fin vs0 ud s' d out n k hd g o hg pm pw
  cases sr with
  | @lst a xs ds hl hi =>
    cases ru
    obtain ⟨its, rv, ⟨o, n, ho, hcl, _, hdt⟩, hxl⟩ := I.list hl
    have hlen := rv.length
    refine run its (ud_of I sm hi rv od) fun Q' E' hq => ?_
    refine wpAny_collect_seq a (.inl rfl) ho hcl hdt (fun h' k => ?_) (by rw [List.size_toArray]; omega)
    exact hq _ _ k rfl rfl (by simp)
  | @tup a xs ds hl hi =>
    cases ru
    obtain ⟨its, rv, ⟨o, ho, hcl, n, hdt⟩, hxl⟩ := I.tuple hl
    have hlen := rv.length
    refine run its (ud_of I sm hi rv od) fun Q' E' hq => ?_
    refine wpAny_collect_seq a (.inr rfl) ho hcl hdt (fun h' k => ?_) (by rw [List.size_toArray]; omega)
    exact hq _ _ k rfl rfl (by simp)
  | @setK a L ds es ha hi hk pm =>
    cases ru
    obtain ⟨⟨ees, ep, t, ⟨o, ho, hex, hd⟩, hro, T, nd, ld, room, few⟩, _⟩ := (show ObjOk X.prog X.w H s.heap a (SetKO X.w a L) from I.hok a _ ha)
    have hsz := size_rows hro
    have hfit : t.fits ees.size = true := by
      have h1 := T.sz
      rw [len_hashes] at h1
      simp only [SetTable.fits, SetTable.fill, T.dm, Bool.and_eq_true, beq_iff_eq, decide_eq_true_eq]
      refine ⟨by omega, ?_⟩
      show t.place.size + 0 ≤ t.mask
      omega
    have hv : ees.toList.map (·.2) = L.map fun p => Value.ref p.1 := by
      rw [hro]
      simp [hrows]
    have ode : isOrds es = true := by
      have all : ∀ l : List D, (∀ d ∈ l, isOrd d = true) → isOrds l = true := by
        intro l
        induction l with
        | nil => intro _; rfl
        | cons d l ih =>
          intro h
          rw [isOrds, h d List.mem_cons_self, ih fun x hx => h x (List.mem_cons_of_mem _ hx)]
          rfl
      exact all es fun d hd => isOrds_mem od (pm.mem_iff.mp hd)
    obtain ⟨vs0, ud0, pm0⟩ := paired_permR pm.symm (ud_of I sm hi (vals_refs L) ode)
    refine run vs0 ud0 fun Q' E' hq => ?_
    refine collect_set (I.ok.hd hc) ⟨o, ho, hex.1, hd⟩ hfit (by unfold scanBound; omega) T.ris ld fun s1 out k _ g1 o1 pm1 => ?_
    refine hq s1 out k g1 o1 ?_
    rw [hv] at pm1
    exact pm1.trans pm0.symm
  | @setS a l ha =>
    cases ru
    obtain ⟨⟨DD, R⟩, _⟩ := (show ObjOk X.prog X.w H s.heap a (SetSO X.prog X.w a l) from I.hok a _ ha)
    obtain ⟨l', pml, pr⟩ := texts_of R
    have few := R.few
    have hsz := R.ok.sz
    have ud : Paired (UD (cg X) F s.heap) (DD.1.toList.map (·.2)) (l'.map .str) := by
      generalize DD.1.toList.map (·.2) = us at pr
      clear pml
      induction pr with
      | nil => exact .nil
      | cons h1 _ ih =>
        obtain ⟨t, rfl⟩ := h1
        exact .cons ⟨.str _, ⟨t, rfl⟩, .str _, OrdK.text _ t⟩ ih
    obtain ⟨vs0, ud0, pm0⟩ := paired_permR (pml.symm.map D.str) ud
    refine run vs0 ud0 fun Q' E' hq => ?_
    refine collect_set (I.ok.hd hc) ⟨_, R.ob, rfl, rfl⟩ R.ok.fit (by omega) R.ris R.led fun s1 out k _ g1 o1 pm1 => ?_
    exact hq s1 out k g1 o1 (pm1.trans pm0.symm)
end
end RW

set_option Elab.async false
set_option linter.all false
set_option maxRecDepth 100000
set_option maxHeartbeats 4000000
/-! RwData3: set(x) of data. -/
namespace RW
open PySem PySem.Spec PyProof.Rows L2

def isStrD : D → Bool
  | .str _ => true
  | _ => false
def isTupD : D → Bool
  | .tup _ => true
  | _ => false
def strsOf : List D → Option (List Str)
  | [] => some []
  | .str x :: ds => (strsOf ds).map (x :: ·)
  | _ :: _ => none
theorem strsOf_map : ∀ l : List Str, strsOf (l.map .str) = some l
  | [] => rfl
  | x :: l => by simp [strsOf, strsOf_map l]
theorem strsOf_eq : ∀ {ds : List D} {l : List Str}, strsOf ds = some l → ds = l.map .str
  | [], l, h => by cases h; rfl
  | d :: ds, l, h => by
    cases d with
    | str x =>
      simp only [strsOf, Option.map_eq_some_iff] at h
      obtain ⟨l', h1, rfl⟩ := h
      rw [strsOf_eq h1]
      rfl
    | _ => simp [strsOf] at h
/-- what a set may be made of -/
def setOk (ds : List D) : Bool := match strsOf ds with
  | some l => decide (l.length < 4000)
  | none => isOrds ds && ds.all isTupD && (match toNKs ds with | some ks => ks.all fun k => decide (k.depth ≤ 8) | none => false) && decide (ds.length < 64)
theorem nub_map {α β : Type} [DecidableEq α] [DecidableEq β] (f : α → β) (hf : ∀ a b, f a = f b → a = b) : ∀ l : List α, nub (l.map f) = (nub l).map f
  | [] => rfl
  | x :: l => by
    have e : (f x ∈ l.map f) ↔ x ∈ l := ⟨fun h => by obtain ⟨y, hy, e⟩ := List.mem_map.mp h; rw [← hf _ _ e]; exact hy, fun h => List.mem_map.mpr ⟨x, h, rfl⟩⟩
    simp only [List.map_cons, nub]
    by_cases c : x ∈ l
    · rw [if_pos c, if_pos (e.mpr c), nub_map f hf l]
    · rw [if_neg c, if_neg (fun z => c (e.mp z)), nub_map f hf l]; rfl
theorem SetS.perm {P : Program} {w : World} {h : Heap} {a : Addr} {l l' : List Str} {DD : PySem.Froz.SD} (R : SetS P w h a l DD) (p : l'.Perm l) : SetS P w h a l' DD :=
  { ob := R.ob, ok := { el := R.ok.el, mem := fun k => (p.mem_iff).trans (R.ok.mem k), sz := by rw [p.length_eq]; exact R.ok.sz, fit := R.ok.fit }, ris := R.ris, led := R.led
    nd := p.nodup_iff.mpr R.nd, few := by rw [p.length_eq]; exact R.few }
theorem SetN.n0 {w : World} {h : Heap} {a : Addr} {L : List (Addr × NK)} {es : Array (Int × Value)} {ep : Nat} {t : SetTable} (R : SetN w h a L es ep t) : SetN0 w h a L :=
  ⟨es, ep, t, R.ob, R.rows, R.tab, R.nd, R.led, R.room, R.few⟩
theorem setKO_new {P : Program} {w : World} {H : Hp} {h : Heap} {a : Addr} {L : List (Addr × NK)} (R : SetN0 w h a L) : ObjOk P w H h a (SetKO w a L) := by
  obtain ⟨es, ep, t, ⟨o, ho, r⟩, q⟩ := id R
  refine ⟨R, ⟨o, ho⟩, fun h1 h2 p k => ?_⟩
  obtain ⟨es', ep', t', ⟨o', ho', r'⟩, q'⟩ := (show SetN0 w h1 a L from p)
  exact ⟨es', ep', t', ⟨o', k o' ho', r'⟩, q'⟩
theorem setSO_new {P : Program} {w : World} {H : Hp} {h : Heap} {a : Addr} {l : List Str} {DD : PySem.Froz.SD} (R : SetS P w h a l DD) : ObjOk P w H h a (SetSO P w a l) := by
  refine ⟨⟨DD, R⟩, ⟨_, R.ob⟩, fun h1 h2 p k => ?_⟩
  obtain ⟨D2, R2⟩ := (show ∃ D, SetS P w h1 a l D from p)
  exact ⟨D2, R2.keep k⟩

/-- what set takes -/
inductive Sqd (c : Cg) (F H : Hp) : V → List D → Prop
  | lst {a : Addr} {xs : List V} {ds : List D} : SqL c.K H a xs → IsDs c F xs ds → Sqd c F H (.ref a) ds
  | tup {a : Addr} {xs : List V} {ds : List D} : SqT c.K H a xs → IsDs c F xs ds → Sqd c F H (.ref a) ds
def rSet (c : Cg) : List V → Hp → VK → Prop := fun xs H Q => ∃ (F : Hp) (v : V) (ds : List D), xs = [v] ∧ Same F H ∧ Sqd c F H v ds ∧ setOk ds = true ∧
  ∀ (a : Addr) (o : HO), H a = none → (∀ F', Same F F' → F' a = some o → IsD c F' (.ref a) (.set (nub ds))) → Q (.ref a) (upd H a o)
/-- the addresses and keys of tuples -/
theorem pairs_of {pins : List (Addr × Obj)} {σ : L2.St} {H F : Hp} {s : Shared} {X : Cx} (I : Inv X pins σ H s) (e : Same F H) : ∀ {ds : List D} {vs : List V} {us : List Value}, IsDs (cg X) F vs ds → Vals vs us → isOrds ds = true → ds.all isTupD = true →
    ∃ ks : List (Addr × NK), us = ks.map (fun p => Value.ref p.1) ∧ vs = ks.map (fun p => V.ref p.1) ∧ toNKs ds = some (ks.map (·.2)) ∧ ∀ p ∈ ks, NestedIs s.heap p.2 (.ref p.1) ∧ ∃ d ∈ ds, IsD (cg X) F (.ref p.1) d ∧ toNK d = some p.2
  | [], _, _, x, r, _, _ => by cases x; cases r; exact ⟨[], rfl, rfl, rfl, fun p hp => (by cases hp)⟩
  | d :: ds, _, _, x, r, o, t => by
    rw [isOrds, Bool.and_eq_true] at o
    rw [List.all_cons, Bool.and_eq_true] at t
    cases x with
    | cons x1 x2 =>
      cases r with
      | cons r1 r2 =>
        obtain ⟨ks, e1, e2, e3, e4⟩ := pairs_of I e x2 r2 o.2 t.2
        obtain ⟨k, ek⟩ := ord_nk o.1
        have nk := IsD.nk I e x1 ek r1
        have hm : ∀ p ∈ ks, NestedIs s.heap p.2 (.ref p.1) ∧ ∃ d' ∈ d :: ds, IsD (cg X) F (.ref p.1) d' ∧ toNK d' = some p.2 := fun p hp => by
          obtain ⟨a, d', b, c⟩ := e4 p hp
          exact ⟨a, d', List.mem_cons_of_mem _ b, c⟩
        cases d with
        | tup dd =>
          cases x1 with
          | @tup a _ _ h1 h2 =>
            cases r1
            refine ⟨(a, k) :: ks, by rw [e1]; rfl, by rw [e2]; rfl, by rw [toNKs, ek, e3]; rfl, fun p hp => ?_⟩
            rcases List.mem_cons.mp hp with z | z
            · rw [z]
              exact ⟨nk, _, List.mem_cons_self, .tup h1 h2, ek⟩
            · exact hm p z
        | _ => simp [isTupD] at t
section
variable {X : Cx}
theorem cr_set (hc : X.calm = true) (hu : X.A.units + 64 < cLine) : CallR X (.type "set") (rSet (cg X)) := by
  intro pins s σ H xs us Q I r h
  obtain ⟨F, v, ds, rfl, sm, sq, ok, q⟩ := h
  obtain ⟨u, rfl, ru⟩ := vals1 r
  have hn : H s.heap.objs.size = none := I.hok.fresh (Nat.le_refl _)
  obtain ⟨a, vs, us, rfl, hl, rv, hi⟩ : ∃ (a : Addr) (vs : List V) (us : List Value), v = .ref a ∧ (s.heap.IsList a us.toArray ∨ s.heap.IsTuple a us.toArray) ∧ Vals vs us ∧ IsDs (cg X) F vs ds := by
    cases sq with
    | @lst a xs _ h1 h2 =>
      obtain ⟨its, rv, pl, _⟩ := I.list h1
      exact ⟨a, xs, its, rfl, .inl pl.isList, rv, h2⟩
    | @tup a xs _ h1 h2 =>
      obtain ⟨its, rv, ⟨o, ho, hc, n, hd⟩, _⟩ := I.tuple h1
      exact ⟨a, xs, its, rfl, .inr ⟨o, ho, hc, n, hd⟩, rv, h2⟩
  cases ru
  unfold setOk at ok
  cases es : strsOf ds with
  | some l =>
    rw [es] at ok
    have hll := of_decide_eq_true ok
    have ed := strsOf_eq es
    subst ed
    have sa : StrsAre us l := by
      clear q ok es hll hl sq
      revert vs us
      induction l with
      | nil => intro vs us rv hi; cases hi; cases rv; exact .nil
      | cons x l ih =>
        intro vs us rv hi
        cases hi with
        | cons h1 h2 =>
          cases h1
          cases rv with
          | cons r1 r2 =>
            obtain ⟨t, rfl⟩ := r1
            exact .cons x t (ih _ _ r2 h2)
    refine call_set_any (P := X.prog) (w := X.w) (I.ok.hd hc) hl (fills_texts l (by simpa using sa) (by unfold scanBound; omega)) fun h' tk ⟨l', DD, R, hm, _⟩ k => ?_
    have pm : (nub l).Perm l' := (List.perm_ext_iff_of_nodup (nub_nodup l) R.nd).mpr fun x => mem_nub.trans (hm x).symm
    refine ⟨.ref s.heap.objs.size, upd H s.heap.objs.size (SetSO X.prog X.w s.heap.objs.size (nub l)), I.laid (t' := tk) k (Nat.le_refl _) (setSO_new (R.perm pm)), rfl, q _ _ hn fun F' _ e => ?_⟩
    rw [nub_map D.str (fun a b e => by cases e; rfl)]
    exact .setS e
  | none =>
    rw [es] at ok
    simp only [Bool.and_eq_true, decide_eq_true_eq] at ok
    obtain ⟨⟨⟨o1, o2⟩, o3⟩, o4⟩ := ok
    obtain ⟨ks, e1, e2, e3, e4⟩ := pairs_of I sm hi rv o1 o2
    rw [e3] at o3
    simp only [List.all_eq_true, decide_eq_true_eq] at o3
    have hlen : ks.length = ds.length := by
      have := toNKs_len e3
      rw [List.length_map] at this
      exact this
    have key : ∀ p ∈ ks, KeyAt s.heap p.2 p.1 := fun p hp => ⟨(e4 p hp).1, o3 _ (List.mem_map.mpr ⟨p, hp, rfl⟩)⟩
    refine call_set_any (P := X.prog) (w := X.w) (I.ok.hd hc) hl (fills_keys ks (by simpa using e1) key (by omega) (by simp only [Around.in1_units]; omega)) fun h' tk ⟨L, ees, ep, t, R, g⟩ k => ?_
    refine ⟨.ref s.heap.objs.size, upd H s.heap.objs.size (SetKO X.w s.heap.objs.size L), I.laid (t' := tk) k (Nat.le_refl _) (setKO_new R.n0), rfl, q _ _ hn fun F' sF e => ?_⟩
    -- the members as data
    have dat : ∀ L' : List (Addr × NK), (∀ p ∈ L', p ∈ ks) → ∃ ds', IsDs (cg X) F (L'.map fun p => .ref p.1) ds' ∧ toNKs ds' = some (L'.map (·.2)) ∧ ∀ d ∈ ds', d ∈ ds := by
      intro L'
      induction L' with
      | nil => intro _; exact ⟨[], .nil, rfl, fun d hd => (by cases hd)⟩
      | cons p L' ih =>
        intro h
        obtain ⟨ds', a, b, c⟩ := ih fun x hx => h x (List.mem_cons_of_mem _ hx)
        obtain ⟨_, d, hd, hd2, hd3⟩ := e4 p (h p List.mem_cons_self)
        refine ⟨d :: ds', .cons hd2 a, by rw [toNKs, hd3, b]; rfl, fun x hx => ?_⟩
        rcases List.mem_cons.mp hx with z | z
        · rw [z]; exact hd
        · exact c x z
    obtain ⟨ds', a1, a2, a3⟩ := dat L fun p hp => List.mem_of_mem_take (g.sub p hp)
    have mem_key : ∀ {es : List D} {ks : List NK}, toNKs es = some ks → ∀ d ∈ es, ∃ k ∈ ks, toNK d = some k := by
      intro es
      induction es with
      | nil => intro ks _ d hd; cases hd
      | cons x es ih =>
        intro ks h d hd
        obtain ⟨k, ks', h1, h2, rfl⟩ := toNKs_cons h
        rcases List.mem_cons.mp hd with z | z
        · rw [z]; exact ⟨k, List.mem_cons_self, h1⟩
        · obtain ⟨k', a, b⟩ := ih h2 d z
          exact ⟨k', List.mem_cons_of_mem _ a, b⟩
    have key_mem : ∀ {es : List D} {ks : List NK}, toNKs es = some ks → ∀ k ∈ ks, ∃ d ∈ es, toNK d = some k := by
      intro es
      induction es with
      | nil => intro ks h k hk; cases h; cases hk
      | cons x es ih =>
        intro ks h k hk
        obtain ⟨k0, ks', h1, h2, rfl⟩ := toNKs_cons h
        rcases List.mem_cons.mp hk with z | z
        · rw [z]; exact ⟨x, List.mem_cons_self, h1⟩
        · obtain ⟨d, a, b⟩ := ih h2 k z
          exact ⟨d, List.mem_cons_of_mem _ a, b⟩
    have nd' : ds'.Nodup := by
      have all : ∀ {es : List D} {ks : List NK}, toNKs es = some ks → ks.Nodup → es.Nodup := by
        intro es
        induction es with
        | nil => intro _ _ _; exact .nil
        | cons d es ih =>
          intro ks h nd
          obtain ⟨k, ks', h1, h2, rfl⟩ := toNKs_cons h
          obtain ⟨n1, n2⟩ := List.nodup_cons.mp nd
          refine List.nodup_cons.mpr ⟨fun hm => ?_, ih h2 n2⟩
          obtain ⟨k', a, b⟩ := mem_key h2 d hm
          rw [h1] at b
          cases b
          exact n1 a
      exact all a2 R.nd
    refine .setK (c := cg X) e (IsDs.mono sF a1) a2 ?_
    refine (List.perm_ext_iff_of_nodup nd' (nub_nodup ds)).mpr fun d => ⟨fun h => mem_nub.mpr (a3 d h), fun h => ?_⟩
    have hd := mem_nub.mp h
    obtain ⟨k0, hk0, ek⟩ := mem_key e3 d hd
    obtain ⟨p, hp, ep⟩ := List.mem_map.mp hk0
    have hmL : k0 ∈ L.map (·.2) := by
      rw [← ep]
      exact g.all p (by rw [List.take_length]; exact hp)
    obtain ⟨d', hd', ek'⟩ := key_mem a2 k0 hmL
    rw [toNK_inj d d' k0 (isOrds_mem o1 hd) (isOrds_mem o1 (a3 d' hd')) ek ek']
    exact hd'
end
end RW

set_option Elab.async false
set_option linter.all false
set_option maxRecDepth 100000
set_option maxHeartbeats 4000000
/-! RwLang: code over data: what a slot holds, the relation to the abstract heap, the judgements. -/
namespace RW
open PySem PySem.Spec PyProof.Rows L2

/-- what a slot holds: nothing, frozen data, a list of this def's own, a list lent by the caller (it may be changed), a list of the caller's that is to be read -/
inductive Sl where
  | no
  | val (d : D)
  | own (ds : List D)
  | lent (ds : List D)
  | rd (ds : List D)
deriving DecidableEq
abbrev En := List Sl
/-- a value: data, or a new list that nobody else has -/
inductive RV where
  | val (d : D)
  | new (ds : List D)
inductive Rs (α : Type) where
  | ok (a : α)
  | ex (x : Str) (f : Option D)
abbrev Mn (α : Type) := En → Option (Rs α × En)
def Mn.ret {α : Type} (a : α) : Mn α := fun env => some (.ok a, env)
def Mn.bind {α β : Type} (m : Mn α) (k : α → Mn β) : Mn β := fun env => match m env with
  | some (.ok a, env') => k a env'
  | some (.ex x f, env') => some (.ex x f, env')
  | none => none
def Mn.lift {α : Type} (o : Option α) : Mn α := fun env => o.map fun a => (.ok a, env)
def frz : RV → D
  | .val d => d
  | .new ds => .lst ds
def Mn.fr (m : Mn RV) : Mn D := m.bind fun r => .ret (frz r)
def Mn.val (m : Mn D) : Mn RV := m.bind fun d => .ret (.val d)

/-- what is fixed through a def's body: the heaps at its entry, the addresses that are its own or lent to it, the wish for what is raised -/
structure Bs where
  H0 : Hp
  F0 : Hp
  own0 : Addr → Prop
  lent : List (Nat × Addr)
  W : Value → Option Addr → L2.St → Hp → Prop
abbrev Bs.mine (B : Bs) (p : Addr) : Prop := B.H0 p = none ∨ B.own0 p

def SlotOk (c : Cg) (B : Bs) (F H : Hp) (x : Option V) : Sl → Prop
  | .no => True
  | .val d => ∃ v, x = some v ∧ IsD c F v d
  | .own ds => ∃ p vs, x = some (.ref p) ∧ H p = some (.lst vs) ∧ F p = none ∧ IsDs c F vs ds ∧ B.mine p
  | .lent ds => ∃ p vs, x = some (.ref p) ∧ H p = some (.lst vs) ∧ F p = none ∧ IsDs c F vs ds ∧ B.own0 p
  | .rd ds => ∃ p vs, x = some (.ref p) ∧ Rd B.H0 p (.lst vs) ∧ ¬ B.own0 p ∧ IsDs c F vs ds
/-- a slot that owns its list -/
def Sl.owns : Sl → Bool
  | .own _ => true
  | .lent _ => true
  | _ => false
structure Rel (c : Cg) (B : Bs) (F : Hp) (σ : L2.St) (H : Hp) (env : En) : Prop where
  sub : Same F H
  sub0 : Same B.F0 F
  frm : ∀ a o, B.H0 a = some o → ¬ B.own0 a → H a = some o ∧ F a = B.F0 a
  len : env.length = σ.length
  sl : ∀ (i : Nat) s, env[i]? = some s → SlotOk c B F H (σ.getD i none) s
  inj : ∀ (i j : Nat) s t p, env[i]? = some s → env[j]? = some t → s.owns = true → t.owns = true → σ.getD i none = some (.ref p) → σ.getD j none = some (.ref p) → i = j
  lnt : ∀ q ∈ B.lent, σ.getD q.1 none = some (.ref q.2) ∧ ∃ ds, env[q.1]? = some (.lent ds)

section
variable {c : Cg} {B : Bs} {F F' H H' : Hp} {σ σ' : L2.St} {env env' : En}

theorem Sl.addr_of {s : Sl} {x : Option V} (h : SlotOk c B F H x s) (o : s.owns = true) : ∃ p vs, x = some (.ref p) ∧ H p = some (.lst vs) ∧ F p = none ∧ B.mine p := by
  cases s with
  | own ds => obtain ⟨p, vs, a, b, d, e, f⟩ := h; exact ⟨p, vs, a, b, d, f⟩
  | lent ds => obtain ⟨p, vs, a, b, d, e, f⟩ := h; exact ⟨p, vs, a, b, d, .inr f⟩
  | _ => cases o
/-- p is owned by no slot -/
def Free (σ : L2.St) (env : En) (p : Addr) : Prop := ∀ (i : Nat) s, env[i]? = some s → s.owns = true → σ.getD i none ≠ some (.ref p)
/-- the heap grows at q, frozen or not; what the slots own stays -/
theorem Rel.grow {q : Addr} {o : HO} (R : Rel c B F σ H env) (hq : H q = none) (fz : Same F F') (hF : F' = F ∨ F' = upd F q o) : Rel c B F' σ (upd H q o) env := by
  have hFq : F q = none := R.sub.free hq
  have sH : Same H (upd H q o) := fun b u e => by rw [upd_ne (ne_of_none e hq)]; exact e
  have ne_q : ∀ p u, H p = some u → p ≠ q := fun p u e => ne_of_none e hq
  have F'p : ∀ p, p ≠ q → F' p = F p := fun p hp => by
    rcases hF with e | e
    · rw [e]
    · rw [e, upd_ne hp]
  refine ⟨fun b u e => ?_, fun b u e => fz _ _ (R.sub0 _ _ e), fun a u e no => ?_, R.len, fun i s e => ?_, R.inj, R.lnt⟩
  · rcases hF with z | z
    · rw [z] at e; exact sH _ _ (R.sub _ _ e)
    · by_cases hb : b = q
      · subst hb
        rw [z, upd_same] at e
        rw [upd_same]
        exact e
      · rw [F'p b hb] at e
        exact sH _ _ (R.sub _ _ e)
  · obtain ⟨h1, h2⟩ := R.frm a u e no
    exact ⟨sH _ _ h1, by rw [F'p a (ne_q _ _ h1)]; exact h2⟩
  · have k := R.sl i s e
    cases s with
    | no => trivial
    | val d => obtain ⟨v, a, b⟩ := k; exact ⟨v, a, b.mono fz⟩
    | own ds => obtain ⟨p, vs, a, b, d, e, f⟩ := k; exact ⟨p, vs, a, sH _ _ b, by rw [F'p p (ne_q _ _ b)]; exact d, e.mono fz, f⟩
    | lent ds => obtain ⟨p, vs, a, b, d, e, f⟩ := k; exact ⟨p, vs, a, sH _ _ b, by rw [F'p p (ne_q _ _ b)]; exact d, e.mono fz, f⟩
    | rd ds => obtain ⟨p, vs, a, b, d, e⟩ := k; exact ⟨p, vs, a, b, d, e.mono fz⟩
/-- a new frozen object -/
theorem Rel.newF {q : Addr} {o : HO} (R : Rel c B F σ H env) (hq : H q = none) : Rel c B (upd F q o) σ (upd H q o) env ∧ Same F (upd F q o) := by
  have s : Same F (upd F q o) := fun b u e => by rw [upd_ne (ne_of_none e (R.sub.free hq))]; exact e
  exact ⟨R.grow hq s (.inr rfl), s⟩
/-- a new object that isn't frozen (yet) -/
theorem Rel.newO {q : Addr} {o : HO} (R : Rel c B F σ H env) (hq : H q = none) : Rel c B F σ (upd H q o) env := R.grow hq (Same.refl F) (.inl rfl)
/-- an object of the heap that no slot owns is frozen -/
theorem Rel.freeze {p : Addr} {o : HO} (R : Rel c B F σ H env) (hp : H p = some o) (hF : F p = none) (fr : Free σ env p) (mi : B.mine p) : Rel c B (upd F p o) σ H env ∧ Same F (upd F p o) := by
  have s : Same F (upd F p o) := fun b u e => by rw [upd_ne (ne_of_none e hF)]; exact e
  refine ⟨⟨fun b u e => ?_, fun b u e => s _ _ (R.sub0 _ _ e), fun a u e no => ?_, R.len, fun i t e => ?_, R.inj, R.lnt⟩, s⟩
  · by_cases hb : b = p
    · subst hb
      rw [upd_same] at e
      rw [hp]
      exact e
    · rw [upd_ne hb] at e
      exact R.sub _ _ e
  · obtain ⟨h1, h2⟩ := R.frm a u e no
    exact ⟨h1, by rw [upd_ne (fun z => by rw [z] at e no; rcases mi with m | m; rw [m] at e; cases e; exact no m)]; exact h2⟩
  · have k := R.sl i t e
    cases t with
    | no => trivial
    | val d => obtain ⟨v, a, b⟩ := k; exact ⟨v, a, b.mono s⟩
    | own ds =>
      obtain ⟨p', vs, a, b, d, e', f⟩ := k
      have ne : p' ≠ p := fun z => fr i _ e rfl (by rw [a, z])
      exact ⟨p', vs, a, b, by rw [upd_ne ne]; exact d, e'.mono s, f⟩
    | lent ds =>
      obtain ⟨p', vs, a, b, d, e', f⟩ := k
      have ne : p' ≠ p := fun z => fr i _ e rfl (by rw [a, z])
      exact ⟨p', vs, a, b, by rw [upd_ne ne]; exact d, e'.mono s, f⟩
    | rd ds => obtain ⟨p', vs, a, b, d, e⟩ := k; exact ⟨p', vs, a, b, d, e.mono s⟩
/-- a slot is stored -/
theorem Rel.store {i : Nat} {x : Option V} {s : Sl} (R : Rel c B F σ H env) (hi : i < σ.length) (hs : SlotOk c B F H x s) (hl : ∀ ds, env[i]? ≠ some (.lent ds)) (hn : ∀ ds, s ≠ .lent ds)
    (fr : ∀ p, s.owns = true → x = some (.ref p) → ∀ (j : Nat) t, j ≠ i → env[j]? = some t → t.owns = true → σ.getD j none ≠ some (.ref p)) :
    Rel c B F (σ.set i x) H (env.set i s) := by
  have hi' : i < env.length := by rw [R.len]; exact hi
  have g1 : (σ.set i x).getD i none = x := by simp [hi]
  have g2 : ∀ j, j ≠ i → (σ.set i x).getD j none = σ.getD j none := fun j hj => by simp [List.getD_eq_getElem?_getD, List.getElem?_set_ne (Ne.symm hj)]
  have e1 : (env.set i s)[i]? = some s := by simp [hi']
  have e2 : ∀ j, j ≠ i → (env.set i s)[j]? = env[j]? := fun j hj => List.getElem?_set_ne (Ne.symm hj)
  refine ⟨R.sub, R.sub0, R.frm, by simp [R.len], fun j t e => ?_, fun j k t u p h1 h2 o1 o2 a1 a2 => ?_, fun q hq => ?_⟩
  · by_cases hj : j = i
    · subst hj
      rw [e1] at e
      cases e
      rw [g1]
      exact hs
    · rw [e2 j hj] at e
      rw [g2 j hj]
      exact R.sl j t e
  · by_cases hj : j = i
    · subst hj
      rw [e1] at h1
      cases h1
      rw [g1] at a1
      by_cases hk : k = j
      · exact hk.symm
      · rw [e2 k hk] at h2
        rw [g2 k hk] at a2
        exact absurd a2 (fr p o1 a1 k u hk h2 o2)
    · rw [e2 j hj] at h1
      rw [g2 j hj] at a1
      by_cases hk : k = i
      · subst hk
        rw [e1] at h2
        cases h2
        rw [g1] at a2
        exact absurd a1 (fr p o2 a2 j t hj h1 o1)
      · rw [e2 k hk] at h2
        rw [g2 k hk] at a2
        exact R.inj j k t u p h1 h2 o1 o2 a1 a2
  · obtain ⟨h1, ds, h2⟩ := R.lnt q hq
    have hj : q.1 ≠ i := fun z => hl ds (by rw [← z]; exact h2)
    exact ⟨by rw [g2 _ hj]; exact h1, ds, by rw [e2 _ hj]; exact h2⟩
/-- a slot is forgotten -/
theorem Rel.forget {i : Nat} (R : Rel c B F σ H env) (hl : ∀ ds, env[i]? ≠ some (.lent ds)) : Rel c B F σ H (env.set i .no) := by
  by_cases hi : i < env.length
  · have e1 : (env.set i Sl.no)[i]? = some .no := by simp [hi]
    have e2 : ∀ j, j ≠ i → (env.set i Sl.no)[j]? = env[j]? := fun j hj => List.getElem?_set_ne (Ne.symm hj)
    refine ⟨R.sub, R.sub0, R.frm, by simp [R.len], fun j t e => ?_, fun j k t u p h1 h2 o1 o2 a1 a2 => ?_, fun q hq => ?_⟩
    · by_cases hj : j = i
      · subst hj
        rw [e1] at e
        cases e
        trivial
      · rw [e2 j hj] at e
        exact R.sl j t e
    · by_cases hj : j = i
      · subst hj
        rw [e1] at h1
        cases h1
        cases o1
      · by_cases hk : k = i
        · subst hk
          rw [e1] at h2
          cases h2
          cases o2
        · rw [e2 j hj] at h1
          rw [e2 k hk] at h2
          exact R.inj j k t u p h1 h2 o1 o2 a1 a2
    · obtain ⟨h1, ds, h2⟩ := R.lnt q hq
      have hj : q.1 ≠ i := fun z => hl ds (by rw [← z]; exact h2)
      exact ⟨h1, ds, by rw [e2 _ hj]; exact h2⟩
  · rw [List.set_eq_of_length_le (by omega)]
    exact R
end

/-! ### the ends -/
structure NewL (c : Cg) (B : Bs) (F : Hp) (σ : L2.St) (H : Hp) (env : En) (p : Addr) (vs : List V) (ds : List D) : Prop where
  at_ : H p = some (.lst vs)
  fz : F p = none
  dat : IsDs c F vs ds
  new : B.mine p
  free : Free σ env p
structure ExAt (c : Cg) (F H : Hp) (cls : Value) (oa : Option Addr) (x : Str) (f : Option D) : Prop where
  cls : ∃ C, cls = .ref C ∧ c.mg x = some (.ref C)
  fld : match f with
    | some d => x ∈ excF ∧ ∃ a v, oa = some a ∧ F a = some (.xd [(excField x, v)]) ∧ IsD c F v d
    | none => x ∈ excN ∧ oa = none
/-- what is wanted behind an evaluation -/
def ExE (c : Cg) (B : Bs) (F : Hp) (σ : L2.St) (env : En) (x : Str) (f : Option D) : Prop := ∀ F' H' cls oa, Rel c B F' σ H' env → Same F F' → ExAt c F' H' cls oa x f → B.W cls oa σ H'
def FinE (c : Cg) (B : Bs) (F : Hp) (σ : L2.St) (env : En) (Q : VK) : Rs RV → Prop
  | .ok (.val d) => ∀ F' H' v, Rel c B F' σ H' env → Same F F' → IsD c F' v d → Q v H'
  | .ok (.new ds) => ∀ F' H' p vs, Rel c B F' σ H' env → Same F F' → NewL c B F' σ H' env p vs ds → Q (.ref p) H'
  | .ex x f => ExE c B F σ env x f
def FinD (c : Cg) (B : Bs) (F : Hp) (σ : L2.St) (env : En) (Q : VK) : Rs D → Prop
  | .ok d => ∀ F' H' v, Rel c B F' σ H' env → Same F F' → IsD c F' v d → Q v H'
  | .ex x f => ExE c B F σ env x f
def FinT (c : Cg) (B : Bs) (F : Hp) (σ : L2.St) (env : En) (Q : Bool → Hp → Prop) : Rs Bool → Prop
  | .ok b => ∀ F' H', Rel c B F' σ H' env → Same F F' → Q b H'
  | .ex x f => ExE c B F σ env x f
def FinA (c : Cg) (B : Bs) (F : Hp) (σ : L2.St) (env : En) (Q : List V → Hp → Prop) : Rs (List D) → Prop
  | .ok ds => ∀ F' H' vs, Rel c B F' σ H' env → Same F F' → IsDs c F' vs ds → Q vs H'
  | .ex x f => ExE c B F σ env x f
def tE (c : Cg) (B : Bs) (m : Mn RV) : TE := fun σ H Q => ∃ F env r env', Rel c B F σ H env ∧ m env = some (r, env') ∧ FinE c B F σ env' Q r
def tD (c : Cg) (B : Bs) (m : Mn D) : TE := fun σ H Q => ∃ F env r env', Rel c B F σ H env ∧ m env = some (r, env') ∧ FinD c B F σ env' Q r
def tT (c : Cg) (B : Bs) (m : Mn Bool) : TT := fun σ H Q => ∃ F env r env', Rel c B F σ H env ∧ m env = some (r, env') ∧ FinT c B F σ env' Q r
def tA (c : Cg) (B : Bs) (m : Mn (List D)) : TA := fun σ H Q => ∃ F env r env', Rel c B F σ H env ∧ m env = some (r, env') ∧ FinA c B F σ env' Q r
def EvE (X : Cx) (e : Expr) (m : Mn RV) : Prop := ∀ B, Takes X B.W → PE X e (tE (cg X) B m)
def EvD (X : Cx) (e : Expr) (m : Mn D) : Prop := ∀ B, Takes X B.W → PE X e (tD (cg X) B m)
def EvT (X : Cx) (e : Expr) (m : Mn Bool) : Prop := ∀ B, Takes X B.W → PT X e (tT (cg X) B m)
def EvA (X : Cx) (es : List Expr) (m : Mn (List D)) : Prop := ∀ B, Takes X B.W → PA X es (tA (cg X) B m)

theorem PE.mono {X : Cx} {e : Expr} {t t' : TE} (h : PE X e t) (k : ∀ σ H Q, t' σ H Q → t σ H Q) : PE X e t' := ⟨fun pins s σ H Q I q => h.run pins s σ H Q I (k σ H Q q)⟩
theorem PT.mono {X : Cx} {e : Expr} {t t' : TT} (h : PT X e t) (k : ∀ σ H Q, t' σ H Q → t σ H Q) : PT X e t' := ⟨fun pins s σ H Q I q => h.run pins s σ H Q I (k σ H Q q)⟩
theorem PW.mono {X : Cx} {e : Expr} {t t' : TT} (h : PW X e t) (k : ∀ σ H Q, t' σ H Q → t σ H Q) : PW X e t' := ⟨fun wh pins s σ H Q I q => h.run wh pins s σ H Q I (k σ H Q q)⟩
theorem PA.mono {X : Cx} {es : List Expr} {t t' : TA} (h : PA X es t) (k : ∀ σ H Q, t' σ H Q → t σ H Q) : PA X es t' := ⟨fun pos pins s σ H Q I q => h.run pos pins s σ H Q I (k σ H Q q)⟩
theorem PS.mono {X : Cx} {st : Stmt} {t t' : TS} (h : PS X st t) (k : ∀ D σ H, t' D σ H → t D σ H) : PS X st t' := ⟨fun pins s σ H D I q => h.run pins s σ H D I (k D σ H q)⟩
theorem PSs.mono {X : Cx} {st : List Stmt} {t t' : TS} (h : PSs X st t) (k : ∀ D σ H, t' D σ H → t D σ H) : PSs X st t' := ⟨fun pins s σ H D I q => h.run pins s σ H D I (k D σ H q)⟩
end RW

set_option Elab.async false
set_option linter.all false
set_option maxRecDepth 100000
set_option maxHeartbeats 4000000
/-! RwExpr: expressions over data. -/
namespace RW
open PySem PySem.Spec PyProof.Rows L2

theorem bind_cases {α β : Type} {m : Mn α} {k : α → Mn β} {env env' : En} {r : Rs β} (h : m.bind k env = some (r, env')) :
    (∃ a env1, m env = some (.ok a, env1) ∧ k a env1 = some (r, env')) ∨ ∃ x f, m env = some (.ex x f, env') ∧ r = .ex x f := by
  unfold Mn.bind at h
  cases e : m env with
  | none => rw [e] at h; cases h
  | some q =>
    obtain ⟨rs, env1⟩ := q
    rw [e] at h
    cases rs with
    | ok a => exact .inl ⟨a, env1, rfl, h⟩
    | ex x f =>
      cases h
      exact .inr ⟨x, f, rfl, rfl⟩
theorem lift_cases {α : Type} {o : Option α} {env env' : En} {r : Rs α} (h : Mn.lift o env = some (r, env')) : ∃ a, o = some a ∧ r = .ok a ∧ env' = env := by
  unfold Mn.lift at h
  cases o with
  | none => cases h
  | some a => cases h; exact ⟨a, rfl, rfl, rfl⟩

section
variable {c : Cg} {B : Bs} {F F' H H' : Hp} {σ σ' : L2.St} {env env' env1 : En}
theorem ExE.mono {x : Str} {f : Option D} (h : ExE c B F σ env x f) (s : Same F F') : ExE c B F' σ env x f := fun F2 H2 cls oa R s2 e => h F2 H2 cls oa R (s.trans s2) e
theorem FinE.mono {Q : VK} {r : Rs RV} (h : FinE c B F σ env Q r) (s : Same F F') : FinE c B F' σ env Q r := by
  cases r with
  | ok v =>
    cases v with
    | val d => exact fun F2 H2 v R s2 x => h F2 H2 v R (s.trans s2) x
    | new ds => exact fun F2 H2 p vs R s2 x => h F2 H2 p vs R (s.trans s2) x
  | ex x f => exact ExE.mono h s
theorem FinD.mono {Q : VK} {r : Rs D} (h : FinD c B F σ env Q r) (s : Same F F') : FinD c B F' σ env Q r := by
  cases r with
  | ok d => exact fun F2 H2 v R s2 x => h F2 H2 v R (s.trans s2) x
  | ex x f => exact ExE.mono h s
theorem FinA.mono {Q : List V → Hp → Prop} {r : Rs (List D)} (h : FinA c B F σ env Q r) (s : Same F F') : FinA c B F' σ env Q r := by
  cases r with
  | ok d => exact fun F2 H2 v R s2 x => h F2 H2 v R (s.trans s2) x
  | ex x f => exact ExE.mono h s
theorem FinT.mono {Q : Bool → Hp → Prop} {r : Rs Bool} (h : FinT c B F σ env Q r) (s : Same F F') : FinT c B F' σ env Q r := by
  cases r with
  | ok d => exact fun F2 H2 R s2 => h F2 H2 R (s.trans s2)
  | ex x f => exact ExE.mono h s

/-- evaluate, then go on -/
theorem bindD {β : Type} {m : Mn D} {k : D → Mn β} {r : Rs β} (R : Rel c B F σ H env) (h : m.bind k env = some (r, env')) {K : VK}
    (ok : ∀ d env1, k d env1 = some (r, env') → ∀ F1 H1 v, Rel c B F1 σ H1 env1 → Same F F1 → IsD c F1 v d → K v H1)
    (ex : ∀ x f, r = .ex x f → ExE c B F σ env' x f) : tD c B m σ H K := by
  rcases bind_cases h with ⟨d, env1, h1, h2⟩ | ⟨x, f, h1, h2⟩
  · exact ⟨F, env, _, _, R, h1, fun F1 H1 v R1 s1 x => ok d env1 h2 F1 H1 v R1 s1 x⟩
  · exact ⟨F, env, _, _, R, h1, ex x f h2⟩
theorem bindA {β : Type} {m : Mn (List D)} {k : List D → Mn β} {r : Rs β} (R : Rel c B F σ H env) (h : m.bind k env = some (r, env')) {K : List V → Hp → Prop}
    (ok : ∀ d env1, k d env1 = some (r, env') → ∀ F1 H1 v, Rel c B F1 σ H1 env1 → Same F F1 → IsDs c F1 v d → K v H1)
    (ex : ∀ x f, r = .ex x f → ExE c B F σ env' x f) : tA c B m σ H K := by
  rcases bind_cases h with ⟨d, env1, h1, h2⟩ | ⟨x, f, h1, h2⟩
  · exact ⟨F, env, _, _, R, h1, fun F1 H1 v R1 s1 x => ok d env1 h2 F1 H1 v R1 s1 x⟩
  · exact ⟨F, env, _, _, R, h1, ex x f h2⟩
theorem bindT {β : Type} {m : Mn Bool} {k : Bool → Mn β} {r : Rs β} (R : Rel c B F σ H env) (h : m.bind k env = some (r, env')) {K : Bool → Hp → Prop}
    (ok : ∀ d env1, k d env1 = some (r, env') → ∀ F1 H1, Rel c B F1 σ H1 env1 → Same F F1 → K d H1)
    (ex : ∀ x f, r = .ex x f → ExE c B F σ env' x f) : tT c B m σ H K := by
  rcases bind_cases h with ⟨d, env1, h1, h2⟩ | ⟨x, f, h1, h2⟩
  · exact ⟨F, env, _, _, R, h1, fun F1 H1 R1 s1 => ok d env1 h2 F1 H1 R1 s1⟩
  · exact ⟨F, env, _, _, R, h1, ex x f h2⟩
theorem bindE {β : Type} {m : Mn RV} {k : RV → Mn β} {r : Rs β} (R : Rel c B F σ H env) (h : m.bind k env = some (r, env')) {K : VK}
    (ok : ∀ v env1, k v env1 = some (r, env') → FinE c B F σ env1 K (.ok v))
    (ex : ∀ x f, r = .ex x f → ExE c B F σ env' x f) : tE c B m σ H K := by
  rcases bind_cases h with ⟨d, env1, h1, h2⟩ | ⟨x, f, h1, h2⟩
  · exact ⟨F, env, _, _, R, h1, ok d env1 h2⟩
  · exact ⟨F, env, _, _, R, h1, ex x f h2⟩
theorem exD {Q : VK} {r : Rs D} (h : FinD c B F σ env Q r) : ∀ x f, r = .ex x f → ExE c B F σ env x f := fun x f e => by subst e; exact h
theorem exE {Q : VK} {r : Rs RV} (h : FinE c B F σ env Q r) : ∀ x f, r = .ex x f → ExE c B F σ env x f := fun x f e => by subst e; exact h
theorem exA {Q : List V → Hp → Prop} {r : Rs (List D)} (h : FinA c B F σ env Q r) : ∀ x f, r = .ex x f → ExE c B F σ env x f := fun x f e => by subst e; exact h
theorem exT {Q : Bool → Hp → Prop} {r : Rs Bool} (h : FinT c B F σ env Q r) : ∀ x f, r = .ex x f → ExE c B F σ env x f := fun x f e => by subst e; exact h
end

section
variable {X : Cx}
/-- a new list is frozen -/
theorem EvE.fr {e : Expr} {m : Mn RV} (h : EvE X e m) : EvD X e m.fr := fun B tk => by
  refine PE.mono (h B tk) fun σ H Q ⟨F, env, r, env', R, hm, fin⟩ => ?_
  refine bindE R hm (fun v env1 hk => ?_) (exD fin)
  cases hk
  cases v with
  | val d => exact fin
  | new ds =>
    intro F' H' p vs R' s' N
    obtain ⟨R2, s2⟩ := R'.freeze (o := .lst vs) N.at_ N.fz N.free N.new
    exact fin _ H' (.ref p) R2 (s'.trans s2) (.lst (.inl (.inl upd_same)) (N.dat.mono s2))
theorem EvD.val {e : Expr} {m : Mn D} (h : EvD X e m) : EvE X e m.val := fun B tk => by
  refine PE.mono (h B tk) fun σ H Q ⟨F, env, r, env', R, hm, fin⟩ => ?_
  refine bindD R hm (fun d env1 hk F1 H1 v R1 s1 x => ?_) (exE fin)
  cases hk
  exact fin F1 H1 v R1 s1 x

/-! ### constants, names -/
theorem ed_c {e : Expr} {v : V} {d : D} (h : PE X e (tC v)) (hd : ∀ F, IsD (cg X) F v d) : EvD X e (Mn.ret d) := fun B tk => by
  refine PE.mono h fun σ H Q ⟨F, env, r, env', R, hm, fin⟩ => ?_
  cases hm
  exact fin F H v R (Same.refl F) (hd F)
theorem ed_int {i j pos} : EvD X (.Constant (.int i) j pos) (Mn.ret (.int i)) := ed_c pe_int fun _ => .int i
theorem ed_bl {b j pos} : EvD X (.Constant (.bool b) j pos) (Mn.ret (.bl b)) := ed_c pe_bl fun _ => .bl b
theorem ed_non {j pos} : EvD X (.Constant .none j pos) (Mn.ret .non) := ed_c pe_non fun _ => .non
theorem ed_str {x j pos} : EvD X (.Constant (.str x) j pos) (Mn.ret (.str x)) := ed_c pe_str fun _ => .str x
/-- a slot read: a list of one's own is frozen then -/
def lv (i : Nat) : Mn D := fun env => match env[i]? with
  | some (.val d) => some (.ok d, env)
  | some (.own ds) => some (.ok (.lst ds), env.set i (.val (.lst ds)))
  | _ => none
/-- a slot handed on: a list of one's own goes with it -/
def mv (i : Nat) : Mn RV := fun env => match env[i]? with
  | some (.val d) => some (.ok (.val d), env)
  | some (.own ds) => some (.ok (.new ds), env.set i .no)
  | _ => none
theorem slot_at {σ : L2.St} {i : Nat} {v : V} (h : σ.getD i none = some v) : σ[i]? = some (some v) := by
  rw [List.getD_eq_getElem?_getD] at h
  cases e : σ[i]? with
  | none => rw [e] at h; cases h
  | some x =>
    rw [e] at h
    have : x = some v := h
    rw [this]
theorem set_self {σ : L2.St} {i : Nat} {v : Option V} (h : σ.getD i none = v) : σ.set i v = σ := by
  by_cases hi : i < σ.length
  · have : σ[i] = v := by simpa [List.getD_eq_getElem?_getD, hi] using h
    rw [← this]
    simp
  · rw [List.set_eq_of_length_le (by omega)]
theorem Rel.own_free {c : Cg} {B : Bs} {F H : Hp} {σ : L2.St} {env : En} {i : Nat} {s : Sl} {p : Addr} (R : Rel c B F σ H env) (e : env[i]? = some s) (o : s.owns = true) (a : σ.getD i none = some (.ref p)) : Free σ (env.set i .no) p := by
  intro j t ej oj z
  have hi : i < env.length := (List.getElem?_eq_some_iff.mp e).1
  by_cases hj : j = i
  · subst hj
    rw [List.getElem?_set_self hi] at ej
    cases ej
    cases oj
  · rw [List.getElem?_set_ne (Ne.symm hj)] at ej
    exact hj (R.inj j i t s p ej e oj o z a)
theorem own_not_lent {env : En} {i : Nat} {s : Sl} (e : env[i]? = some s) (h : ∀ ds, s ≠ .lent ds) : ∀ ds, env[i]? ≠ some (.lent ds) := fun ds z => by
  rw [e] at z
  cases z
  exact h ds rfl
theorem ed_var (i : Nat) {x : Str} {pos : Pos} (h : PE X (.Name x pos) (tVar i)) : EvD X (.Name x pos) (lv i) := fun B tk => by
  refine PE.mono h fun σ H Q ⟨F, env, r, env', R, hm, fin⟩ => ?_
  unfold lv at hm
  cases e : env[i]? with
  | none => rw [e] at hm; cases hm
  | some s =>
    rw [e] at hm
    have k := R.sl i s e
    cases s with
    | val d =>
      cases hm
      obtain ⟨v, hv, hd⟩ := k
      exact ⟨v, slot_at hv, fin F H v R (Same.refl F) hd⟩
    | own ds =>
      cases hm
      obtain ⟨p, vs, hv, hp, hf, hd, mi⟩ := k
      have nl := own_not_lent e (fun ds z => by cases z)
      have hi : i < env.length := (List.getElem?_eq_some_iff.mp e).1
      obtain ⟨R2, s2⟩ := (R.forget nl).freeze (o := .lst vs) hp hf (R.own_free e rfl hv) mi
      have hD : IsD (cg X) (upd F p (.lst vs)) (.ref p) (.lst ds) := .lst (.inl (.inl upd_same)) (hd.mono s2)
      have R3 := R2.store (i := i) (x := some (.ref p)) (s := .val (.lst ds)) (by rw [← R.len]; exact hi) ⟨_, rfl, hD⟩ (fun ds z => by rw [List.getElem?_set_self hi] at z; cases z) (fun ds z => by cases z) (fun p' o => by cases o)
      rw [set_self hv, List.set_set] at R3
      exact ⟨.ref p, slot_at hv, fin _ H (.ref p) R3 s2 hD⟩
    | _ => cases hm
theorem ee_var (i : Nat) {x : Str} {pos : Pos} (h : PE X (.Name x pos) (tVar i)) : EvE X (.Name x pos) (mv i) := fun B tk => by
  refine PE.mono h fun σ H Q ⟨F, env, r, env', R, hm, fin⟩ => ?_
  unfold mv at hm
  cases e : env[i]? with
  | none => rw [e] at hm; cases hm
  | some s =>
    rw [e] at hm
    have k := R.sl i s e
    cases s with
    | val d =>
      cases hm
      obtain ⟨v, hv, hd⟩ := k
      exact ⟨v, slot_at hv, fin F H v R (Same.refl F) hd⟩
    | own ds =>
      cases hm
      obtain ⟨p, vs, hv, hp, hf, hd, mi⟩ := k
      have nl := own_not_lent e (fun ds z => by cases z)
      exact ⟨.ref p, slot_at hv, fin F H p vs (R.forget nl) (Same.refl F) ⟨hp, hf, hd, mi, R.own_free e rfl hv⟩⟩
    | _ => cases hm

/-! ### displays -/
theorem ea_nil : EvA X [] (Mn.ret []) := fun B tk => by
  refine PA.mono pa_nil fun σ H Q ⟨F, env, r, env', R, hm, fin⟩ => ?_
  cases hm
  exact fin F H [] R (Same.refl F) .nil
theorem ea_cons {e : Expr} {es : List Expr} {m : Mn D} {ma : Mn (List D)} (h : EvD X e m) (ha : EvA X es ma) (hs : starEach (e :: es) X.env = (false, eval e X.env) :: starEach es X.env := by rfl) :
    EvA X (e :: es) (m.bind fun d => ma.bind fun ds => .ret (d :: ds)) := fun B tk => by
  refine PA.mono (pa_cons (h B tk) (ha B tk) hs) fun σ H Q ⟨F, env, r, env', R, hm, fin⟩ => ?_
  refine bindD R hm (fun d env1 hk F1 H1 v R1 s1 x => ?_) (exA fin)
  have fin1 := FinA.mono fin s1
  refine bindA R1 hk (fun ds env2 hk2 F2 H2 vs R2 s2 xs => ?_) (exA fin1)
  cases hk2
  exact fin1 F2 H2 (v :: vs) R2 s2 (.cons (x.mono s2) xs)
def tupM (ma : Mn (List D)) : Mn D := ma.bind fun ds => if ds.length ≤ sizeLine then .ret (.tup ds) else fun _ => none
def lstM (ma : Mn (List D)) : Mn RV := ma.bind fun ds => if ds.length ≤ sizeLine then .ret (.new ds) else fun _ => none
theorem ed_tup {es : List Expr} {ma : Mn (List D)} {x1 pos} (h : EvA X es ma) : EvD X (.Tuple es x1 pos) (tupM ma) := fun B tk => by
  refine PE.mono (pe_tup (h B tk)) fun σ H Q ⟨F, env, r, env', R, hm, fin⟩ => ?_
  refine bindA R hm (fun ds env1 hk F1 H1 vs R1 s1 xs => ?_) (exD fin)
  by_cases hz : ds.length ≤ sizeLine
  · rw [if_pos hz] at hk
    cases hk
    refine ⟨by rw [IsDs.length xs]; exact hz, fun p hp => ?_⟩
    obtain ⟨R2, s2⟩ := R1.newF (o := .tup vs) hp
    exact fin _ _ (.ref p) R2 (s1.trans s2) (.tup (.inl (.inl upd_same)) (xs.mono s2))
  · rw [if_neg hz] at hk
    cases hk
theorem free_new {c : Cg} {B : Bs} {F H : Hp} {σ : L2.St} {env : En} (R : Rel c B F σ H env) {p : Addr} (hp : H p = none) : Free σ env p := fun i s e o z => by
  obtain ⟨p', vs, a, b, _, _⟩ := Sl.addr_of (R.sl i s e) o
  rw [a] at z
  cases z
  rw [hp] at b
  cases b
theorem mine_new {c : Cg} {B : Bs} {F H : Hp} {σ : L2.St} {env : En} (R : Rel c B F σ H env) {p : Addr} (hp : H p = none) : B.mine p := by
  rcases Classical.em (B.own0 p) with o | o
  · exact .inr o
  · cases q : B.H0 p with
    | none => exact .inl q
    | some u =>
      have := (R.frm p u q o).1
      rw [hp] at this
      cases this
theorem ee_lst {es : List Expr} {ma : Mn (List D)} {pos} (h : EvA X es ma) : EvE X (.List es pos) (lstM ma) := fun B tk => by
  refine PE.mono (pe_lst (h B tk)) fun σ H Q ⟨F, env, r, env', R, hm, fin⟩ => ?_
  refine bindA R hm (fun ds env1 hk F1 H1 vs R1 s1 xs => ?_) (exE fin)
  by_cases hz : ds.length ≤ sizeLine
  · rw [if_pos hz] at hk
    cases hk
    refine ⟨by rw [IsDs.length xs]; exact hz, fun p hp => ?_⟩
    exact fin _ _ p vs (R1.newO hp) s1 ⟨upd_same, R1.sub.free hp, xs, mine_new R1 hp, free_new R1 hp⟩
  · rw [if_neg hz] at hk
    cases hk
end
end RW

set_option Elab.async false
set_option linter.all false
set_option maxRecDepth 100000
set_option maxHeartbeats 4000000
/-! RwOps: operators, comparisons, built-in calls, subscripts over data. -/
namespace RW
open PySem PySem.Spec PyProof.Rows L2

/-- a binary rule gives data by g -/
def OpD (c : Cg) (r : R2) (g : D → D → Option RV) : Prop := ∀ (B : Bs) (F H : Hp) (σ : L2.St) (env : En) (x y : V) (dx dy : D) (rv : RV) (Q : VK), Rel c B F σ H env → IsD c F x dx → IsD c F y dy → g dx dy = some rv →
  FinE c B F σ env Q (.ok rv) → r x y H Q
def CallD (c : Cg) (r : List V → Hp → VK → Prop) (g : List D → Option RV) : Prop := ∀ (B : Bs) (F H : Hp) (σ : L2.St) (env : En) (xs : List V) (ds : List D) (rv : RV) (Q : VK), Rel c B F σ H env → IsDs c F xs ds → g ds = some rv →
  FinE c B F σ env Q (.ok rv) → r xs H Q
def op2 (g : D → D → Option RV) (ma mb : Mn D) : Mn RV := ma.bind fun x => mb.bind fun y => .lift (g x y)
section
variable {X : Cx}
theorem ee_op {op : Operator} {r : R2} {g : D → D → Option RV} {a b : Expr} {ma mb : Mn D} {pos} (ho : OpR X (binaryOp op) r) (og : OpD (cg X) r g) (ha : EvD X a ma) (hb : EvD X b mb) : EvE X (.BinOp a op b pos) (op2 g ma mb) := fun B tk => by
  refine PE.mono (pe_op ho (ha B tk) (hb B tk)) fun σ H Q ⟨F, env, r, env', R, hm, fin⟩ => ?_
  refine bindD R hm (fun dx env1 hk F1 H1 x R1 s1 ix => ?_) (exE fin)
  have fin1 := FinE.mono fin s1
  refine bindD R1 hk (fun dy env2 hk2 F2 H2 y R2 s2 iy => ?_) (exE fin1)
  obtain ⟨rv, e1, rfl, rfl⟩ := lift_cases hk2
  exact og B F2 H2 σ env' x y dx dy rv Q R2 (ix.mono s2) iy e1 (FinE.mono fin1 s2)
theorem ee_cmp {op : CmpOp} {r : R2} {g : D → D → Option RV} {a b : Expr} {ma mb : Mn D} {pos} (ho : OpR X (compareOp op) r) (og : OpD (cg X) r g) (ha : EvD X a ma) (hb : EvD X b mb) (hm : behindInMarks op b = false) : EvE X (.Compare a [op] [b] pos) (op2 g ma mb) := fun B tk => by
  refine PE.mono (pe_cmpR ho (ha B tk) (hb B tk) hm) fun σ H Q ⟨F, env, r, env', R, hm, fin⟩ => ?_
  refine bindD R hm (fun dx env1 hk F1 H1 x R1 s1 ix => ?_) (exE fin)
  have fin1 := FinE.mono fin s1
  refine bindD R1 hk (fun dy env2 hk2 F2 H2 y R2 s2 iy => ?_) (exE fin1)
  obtain ⟨rv, e1, rfl, rfl⟩ := lift_cases hk2
  exact og B F2 H2 σ env' x y dx dy rv Q R2 (ix.mono s2) iy e1 (FinE.mono fin1 s2)
/-- a test whose operands are data: the answer must be a bool -/
def boolOf : RV → Option Bool
  | .val (.bl b) => some b
  | _ => none
theorem et_of {e : Expr} {m : Mn RV} {pos} (h : EvE X e m) (he : ∀ whole, isTrue e X.env whole = (do let v ← whole; standAt pos; holding [v] (truthy v))) (hp : e.pos = pos := by rfl) : EvT X e (m.bind fun r => .lift (boolOf r)) := fun B tk => by
  subst hp
  refine PT.mono (pt_val (h B tk) he) fun σ H Q ⟨F, env, r, env', R, hm, fin⟩ => ?_
  refine bindE R hm (fun v env1 hk => ?_) (exT fin)
  obtain ⟨b, e1, rfl, rfl⟩ := lift_cases hk
  cases v with
  | val d =>
    cases d with
    | bl b' =>
      cases e1
      intro F' H' v R' s' x
      cases x
      exact ⟨b, rfl, fin F' H' R' s'⟩
    | _ => cases e1
  | new ds => cases e1
end

/-! ### which data an operator takes, and what it gives -/
section
variable {c : Cg} {B : Bs} {F H : Hp} {σ : L2.St} {env : En} {Q : VK}
theorem fin_val {d : D} {v : V} (R : Rel c B F σ H env) (fin : FinE c B F σ env Q (.ok (.val d))) (h : IsD c F v d) : Q v H := fin F H v R (Same.refl F) h
theorem fin_new {ds : List D} {vs : List V} {p : Addr} (R : Rel c B F σ H env) (fin : FinE c B F σ env Q (.ok (.new ds))) (hp : H p = none) (h : IsDs c F vs ds) : Q (.ref p) (upd H p (.lst vs)) :=
  fin F _ p vs (R.newO hp) (Same.refl F) ⟨upd_same, R.sub.free hp, h, mine_new R hp, free_new R hp⟩
theorem fin_tup {ds : List D} {vs : List V} {p : Addr} (R : Rel c B F σ H env) (fin : FinE c B F σ env Q (.ok (.val (.tup ds)))) (hp : H p = none) (h : IsDs c F vs ds) : Q (.ref p) (upd H p (.tup vs)) := by
  obtain ⟨R2, s2⟩ := R.newF (o := .tup vs) hp
  exact fin _ _ (.ref p) R2 s2 (.tup (.inl (.inl upd_same)) (h.mono s2))
theorem dpOf {d : D} {v : V} {p : PyData} (R : Rel c B F σ H env) (h : IsD c F v d) (e : toPy d = some p) : Dp c.K H v p := IsD.dp R.sub h e
end
def vI (i : Int) : Option RV := some (.val (.int i))
def vB (b : Bool) : Option RV := some (.val (.bl b))
def addV : D → D → Option RV
  | .int i, .int j => vI (i + j)
  | .str a, .str b => if a.length + b.length ≤ sizeLine then some (.val (.str (a ++ b))) else none
  | .tup a, .tup b => if a.length + b.length ≤ sizeLine then some (.val (.tup (a ++ b))) else none
  | .lst a, .lst b => if a.length + b.length ≤ sizeLine then some (.new (a ++ b)) else none
  | _, _ => none
/-- list + list, tracked or known -/
def rCatD (K : PySem.W.Frag) : R2 := fun x y H Q => ∃ l b xs zs, x = .ref l ∧ y = .ref b ∧ SqL K H l xs ∧ SqL K H b zs ∧ xs.length + zs.length ≤ sizeLine ∧ ∀ p, H p = none → Q (.ref p) (upd H p (.lst (xs ++ zs)))
theorem op_catD {X : Cx} : OpR X (binaryOp .Add) (rCatD X.K) := by
  intro pins s σ H x y v u Q I rx ry h
  obtain ⟨l, b, xs, zs, rfl, rfl, hH, hB, hz, q⟩ := h
  cases rx
  cases ry
  obtain ⟨its, r, ⟨⟨oc, od, dt, sl⟩, n, ho, c1, d1, q1⟩, _⟩ := I.list hH
  obtain ⟨its2, r2, ⟨⟨oc2, od2, dt2, sl2⟩, n2, ho2, c2, d2, q2⟩, _⟩ := I.list hB
  simp only at c1 d1 q1 c2 d2 q2
  subst c1 d1 q1 c2 d2 q2
  have hl := r.length
  have hl2 := r2.length
  have ea : its.toArray ++ its2.toArray = (its ++ its2).toArray := by simp
  refine concat_meets ⟨_, ho, rfl⟩ ⟨_, ho2, rfl⟩ noFill_list_add seq_list_add PySem.F.slot_list_add PySem.F.entry_list_add (PySem.F.args_list_add_2 _ _) (PyProof.Rows.list_addW l b its.toArray its2.toArray n n2 none none sl sl2 (by rw [List.size_toArray, List.size_toArray]; omega)) ⟨ho, ho2, ?_⟩
  rw [ea]
  exact ⟨.ref _, _, I.lnew (t' := s.toks) (r.append r2) (by rw [List.length_append]; omega), rfl, q _ I.fresh⟩
def rAddD (K : PySem.W.Frag) : R2 := fun x y H Q => (rI0 (fun i j => .int (i + j)) x y H Q) ∨ (∃ i j, x = .str i ∧ y = .str j ∧ i.length + j.length ≤ sizeLine ∧ Q (.str (i ++ j)) H) ∨ rCatA K x y H Q ∨ rCatD K x y H Q
theorem op_addD {X : Cx} : OpR X (binaryOp .Add) (rAddD X.K) := op_add.or (op_add_str.or (op_catA.or op_catD))
theorem isLst {c : Cg} {F : Hp} {x : V} {ds : List D} (h : IsD c F x (.lst ds)) : ∃ a vs, x = .ref a ∧ SqL c.K F a vs ∧ IsDs c F vs ds := by
  cases h with
  | lst h1 h2 => exact ⟨_, _, rfl, h1, h2⟩
theorem isTup {c : Cg} {F : Hp} {x : V} {ds : List D} (h : IsD c F x (.tup ds)) : ∃ a vs, x = .ref a ∧ SqT c.K F a vs ∧ IsDs c F vs ds := by
  cases h with
  | tup h1 h2 => exact ⟨_, _, rfl, h1, h2⟩
theorem og_add {c : Cg} : OpD c (rAddD c.K) addV := by
  intro B F H σ env x y dx dy rv Q R hx hy e fin
  cases dx with
  | int i =>
    cases dy with
    | int j =>
      cases hx
      cases hy
      cases e
      exact .inl ⟨i, j, rfl, rfl, fin_val R fin (.int _)⟩
    | _ => cases e
  | str a =>
    cases dy with
    | str b =>
      cases hx
      cases hy
      simp only [addV] at e
      split at e
      · rename_i hz
        cases e
        exact .inr (.inl ⟨a, b, rfl, rfl, hz, fin_val R fin (.str _)⟩)
      · cases e
    | _ => cases e
  | tup as =>
    cases dy with
    | tup bs =>
      obtain ⟨a, xs, rfl, h1, h2⟩ := isTup hx
      obtain ⟨b, ys, rfl, h3, h4⟩ := isTup hy
      simp only [addV] at e
      split at e
      · rename_i hz
        cases e
        refine .inr (.inr (.inl ⟨a, b, xs, ys, rfl, rfl, Same.sqT R.sub h1, Same.sqT R.sub h3, by rw [IsDs.length h2, IsDs.length h4]; exact hz, fun e => ?_, fun _ e => ?_, fun _ _ p hp => ?_⟩))
        · subst e
          cases h2
          exact fin_val R fin (by simpa using hy)
        · subst e
          cases h4
          rw [List.append_nil] at fin
          exact fin_val R fin hx
        · exact fin_tup R fin hp (IsDs.append h4 h2)
      · cases e
    | _ => cases e
  | lst as =>
    cases dy with
    | lst bs =>
      obtain ⟨a, xs, rfl, h1, h2⟩ := isLst hx
      obtain ⟨b, ys, rfl, h3, h4⟩ := isLst hy
      simp only [addV] at e
      split at e
      · rename_i hz
        cases e
        exact .inr (.inr (.inr ⟨a, b, xs, ys, rfl, rfl, Same.seq R.sub h1, Same.seq R.sub h3, by rw [IsDs.length h2, IsDs.length h4]; exact hz, fun p hp => fin_new R fin hp (IsDs.append h4 h2)⟩))
      · cases e
    | _ => cases e
  | _ => cases dy <;> cases e

def int2 (C : Int → Int → Prop) [∀ i j, Decidable (C i j)] (f : Int → Int → Int) : D → D → Option RV
  | .int i, .int j => if C i j then vI (f i j) else none
  | _, _ => none
theorem og_int {c : Cg} {C : Int → Int → Prop} [∀ i j, Decidable (C i j)] {f : Int → Int → Int} : OpD c (rI C fun i j => .int (f i j)) (int2 C f) := by
  intro B F H σ env x y dx dy rv Q R hx hy e fin
  cases dx with
  | int i =>
    cases dy with
    | int j =>
      cases hx
      cases hy
      simp only [int2] at e
      split at e
      · rename_i hz
        cases e
        exact ⟨i, j, rfl, rfl, hz, fin_val R fin (.int _)⟩
      · cases e
    | _ => cases e
  | _ => cases dy <;> cases e
def int0 (f : Int → Int → Int) : D → D → Option RV
  | .int i, .int j => vI (f i j)
  | _, _ => none
theorem og_int0 {c : Cg} {f : Int → Int → Int} : OpD c (rI0 fun i j => .int (f i j)) (int0 f) := by
  intro B F H σ env x y dx dy rv Q R hx hy e fin
  cases dx with
  | int i =>
    cases dy with
    | int j =>
      cases hx
      cases hy
      cases e
      exact ⟨i, j, rfl, rfl, fin_val R fin (.int _)⟩
    | _ => cases e
  | _ => cases dy <;> cases e
def cmp0 (f : Int → Int → Bool) : D → D → Option RV
  | .int i, .int j => vB (f i j)
  | _, _ => none
theorem og_cmp0 {c : Cg} {f : Int → Int → Bool} : OpD c (rI0 fun i j => .bl (f i j)) (cmp0 f) := by
  intro B F H σ env x y dx dy rv Q R hx hy e fin
  cases dx with
  | int i =>
    cases dy with
    | int j =>
      cases hx
      cases hy
      cases e
      exact ⟨i, j, rfl, rfl, fin_val R fin (.bl _)⟩
    | _ => cases e
  | _ => cases dy <;> cases e
/-- == by plain data -/
def eqB (x y : D) : Option Bool := match toPy x, toPy y with
  | some p, some q => if SeqAt.shaped p && SeqAt.shaped q then some (PyData.eqv p q) else none
  | _, _ => none
def eqV' (x y : D) : Option RV := (eqB x y).map fun b => .val (.bl b)
def neV (x y : D) : Option RV := (eqB x y).map fun b => .val (.bl (!b))
theorem eqB_iff {x y : D} {b : Bool} (h : eqB x y = some b) : ∃ p q, toPy x = some p ∧ toPy y = some q ∧ SeqAt.shaped p = true ∧ SeqAt.shaped q = true ∧ b = PyData.eqv p q := by
  unfold eqB at h
  split at h
  · rename_i p q h1 h2
    split at h
    · rename_i hs
      rw [Bool.and_eq_true] at hs
      cases h
      exact ⟨p, q, h1, h2, hs.1, hs.2, rfl⟩
    · cases h
  · cases h
theorem og_eq {c : Cg} : OpD c (rEqD c.K) eqV' := by
  intro B F H σ env x y dx dy rv Q R hx hy e fin
  unfold eqV' at e
  rw [Option.map_eq_some_iff] at e
  obtain ⟨b, h, rfl⟩ := e
  obtain ⟨p, q, h1, h2, h3, h4, rfl⟩ := eqB_iff h
  exact ⟨p, q, dpOf R hx h1, dpOf R hy h2, h3, h4, fin_val R fin (.bl _)⟩
theorem og_ne {c : Cg} : OpD c (rNeD c.K) neV := by
  intro B F H σ env x y dx dy rv Q R hx hy e fin
  unfold neV at e
  rw [Option.map_eq_some_iff] at e
  obtain ⟨b, h, rfl⟩ := e
  obtain ⟨p, q, h1, h2, h3, h4, rfl⟩ := eqB_iff h
  exact ⟨p, q, dpOf R hx h1, dpOf R hy h2, h3, h4, fin_val R fin (.bl _)⟩
/-- in: a list or tuple of plain data; a sign in a text -/
def inB (x y : D) : Option Bool := match y with
  | .lst ds => match toPy x, toPys ds with
    | some p, some qs => if SeqAt.shaped p && SeqAt.shaped (.list qs) then some (qs.any fun z => PyData.eqv z p) else none
    | _, _ => none
  | .tup ds => match toPy x, toPys ds with
    | some p, some qs => if SeqAt.shaped p && SeqAt.shaped (.list qs) then some (qs.any fun z => PyData.eqv z p) else none
    | _, _ => none
  | .str z => match x with
    | .str ⟨cs⟩ => match cs.toList with
      | [c] => some (decide (c ∈ z.cps.toList))
      | _ => none
    | _ => none
  | _ => none
def inV' (x y : D) : Option RV := (inB x y).map fun b => .val (.bl b)
def notinV (x y : D) : Option RV := (inB x y).map fun b => .val (.bl (!b))
def rInTD (K : PySem.W.Frag) : R2 := fun x y H Q => ∃ d ds, Dp K H x d ∧ Dp K H y (.tuple ds) ∧ SeqAt.shaped d = true ∧ SeqAt.shaped (.list ds) = true ∧ Q (.bl (ds.any fun z => PyData.eqv z d)) H
def rNotInTD (K : PySem.W.Frag) : R2 := fun x y H Q => ∃ d ds, Dp K H x d ∧ Dp K H y (.tuple ds) ∧ SeqAt.shaped d = true ∧ SeqAt.shaped (.list ds) = true ∧ Q (.bl (!ds.any fun z => PyData.eqv z d)) H
section
variable {X : Cx}
theorem op_inTD (hu : X.A.units + 65 < cLine) : OpR X (compareOp .In) (rInTD X.K) := by
  intro pins s σ H x y v u Q I rx ry h
  obtain ⟨d, ds, hd, he, sd, se, q⟩ := h
  obtain ⟨as, r1⟩ := Dp.reads I d x v hd rx
  obtain ⟨bs, r2⟩ := Dp.reads I (.tuple ds) y u he ry
  exact SeqAt.in_tuple_reads r2 r1 (SeqAt.canLay_of_shaped se) (SeqAt.canLay_of_shaped sd) (room_in_shaped sd hu) ⟨.bl _, H, I, rfl, q⟩
theorem op_notInTD (hu : X.A.units + 65 < cLine) : OpR X (compareOp .NotIn) (rNotInTD X.K) := by
  intro pins s σ H x y v u Q I rx ry h
  obtain ⟨d, ds, hd, he, sd, se, q⟩ := h
  obtain ⟨as, r1⟩ := Dp.reads I d x v hd rx
  obtain ⟨bs, r2⟩ := Dp.reads I (.tuple ds) y u he ry
  exact SeqAt.notIn_tuple_reads r2 r1 (SeqAt.canLay_of_shaped se) (SeqAt.canLay_of_shaped sd) (room_in_shaped sd hu) ⟨.bl _, H, I, rfl, q⟩
def rInX (K : PySem.W.Frag) : R2 := fun x y H Q => rInD K x y H Q ∨ rInTD K x y H Q ∨ (∃ (c : Nat) (z : Str), x = .str ⟨#[c]⟩ ∧ y = .str z ∧ Q (.bl (decide (c ∈ z.cps.toList))) H)
def rNotInX (K : PySem.W.Frag) : R2 := fun x y H Q => rNotInD K x y H Q ∨ rNotInTD K x y H Q
theorem op_inX (hu : X.A.units + 65 < cLine) : OpR X (compareOp .In) (rInX X.K) := (op_inD hu).or ((op_inTD hu).or op_in_sign)
theorem op_notInX (hu : X.A.units + 65 < cLine) : OpR X (compareOp .NotIn) (rNotInX X.K) := (op_notInD hu).or (op_notInTD hu)
end
theorem seqs_py {ds : List D} {qs : List PyData} (h : toPys ds = some qs) : toPy (.lst ds) = some (.list qs) ∧ toPy (.tup ds) = some (.tuple qs) := by
  simp [toPy, h]
theorem og_in {c : Cg} : OpD c (rInX c.K) inV' := by
  intro B F H σ env x y dx dy rv Q R hx hy e fin
  cases dy with
  | lst ds =>
    simp only [inV', Option.map_eq_some_iff] at e
    obtain ⟨b, h, rfl⟩ := e
    simp only [inB] at h
    split at h
    · rename_i p qs h1 h2
      split at h
      · rename_i hs
        rw [Bool.and_eq_true] at hs
        cases h
        exact .inl ⟨p, qs, dpOf R hx h1, dpOf R hy (seqs_py h2).1, hs.1, hs.2, fin_val R fin (.bl _)⟩
      · cases h
    · cases h
  | tup ds =>
    simp only [inV', Option.map_eq_some_iff] at e
    obtain ⟨b, h, rfl⟩ := e
    simp only [inB] at h
    split at h
    · rename_i p qs h1 h2
      split at h
      · rename_i hs
        rw [Bool.and_eq_true] at hs
        cases h
        exact .inr (.inl ⟨p, qs, dpOf R hx h1, dpOf R hy (seqs_py h2).2, hs.1, hs.2, fin_val R fin (.bl _)⟩)
      · cases h
    · cases h
  | str z =>
    cases dx with
    | str x' =>
      obtain ⟨cs⟩ := x'
      obtain ⟨l⟩ := cs
      simp only [inV', Option.map_eq_some_iff, inB] at e
      obtain ⟨b, h, rfl⟩ := e
      match l, h with
      | [c], h =>
        cases h
        cases hx
        cases hy
        exact .inr (.inr ⟨c, z, rfl, rfl, fin_val R fin (.bl _)⟩)
      | [], h => cases h
      | _ :: _ :: _, h => cases h
    | _ => simp [inV', inB] at e
  | _ => simp [inV', inB] at e
def notinX : D → D → Option RV := fun x y => match y with
  | .str _ => none
  | y => notinV x y
theorem og_notin {c : Cg} : OpD c (rNotInX c.K) notinX := by
  intro B F H σ env x y dx dy rv Q R hx hy e fin
  cases dy with
  | lst ds =>
    simp only [notinX, notinV, Option.map_eq_some_iff] at e
    obtain ⟨b, h, rfl⟩ := e
    simp only [inB] at h
    split at h
    · rename_i p qs h1 h2
      split at h
      · rename_i hs
        rw [Bool.and_eq_true] at hs
        cases h
        exact .inl ⟨p, qs, dpOf R hx h1, dpOf R hy (seqs_py h2).1, hs.1, hs.2, fin_val R fin (.bl _)⟩
      · cases h
    · cases h
  | tup ds =>
    simp only [notinX, notinV, Option.map_eq_some_iff] at e
    obtain ⟨b, h, rfl⟩ := e
    simp only [inB] at h
    split at h
    · rename_i p qs h1 h2
      split at h
      · rename_i hs
        rw [Bool.and_eq_true] at hs
        cases h
        exact .inr ⟨p, qs, dpOf R hx h1, dpOf R hy (seqs_py h2).2, hs.1, hs.2, fin_val R fin (.bl _)⟩
      · cases h
    · cases h
  | _ => simp [notinX, notinV, inB] at e
/-- is None, is not None -/
def isNonD : D → Bool
  | .non => true
  | _ => false
theorem isNon_iff {c : Cg} {F : Hp} {x : V} {d : D} (h : IsD c F x d) : decide (x = .non) = isNonD d := by
  cases h <;> first | rfl | exact decide_eq_false (fun z => by cases z)
def isNV (neg : Bool) : D → D → Option RV
  | x, .non => vB (if neg then !isNonD x else isNonD x)
  | _, _ => none
theorem og_isN {c : Cg} : OpD c (fun x y H Q => y = .non ∧ Q (.bl (decide (x = .non))) H) (isNV false) := by
  intro B F H σ env x y dx dy rv Q R hx hy e fin
  cases dy with
  | non =>
    cases hy
    cases e
    exact ⟨rfl, by rw [isNon_iff hx]; exact fin_val R fin (.bl _)⟩
  | _ => cases e
theorem og_notN {c : Cg} : OpD c (fun x y H Q => y = .non ∧ Q (.bl (!decide (x = .non))) H) (isNV true) := by
  intro B F H σ env x y dx dy rv Q R hx hy e fin
  cases dy with
  | non =>
    cases hy
    cases e
    exact ⟨rfl, by rw [isNon_iff hx]; exact fin_val R fin (.bl _)⟩
  | _ => cases e
end RW

set_option Elab.async false
set_option linter.all false
set_option maxRecDepth 100000
set_option maxHeartbeats 4000000
/-! RwCall: calls of built-ins, subscripts, slices, tests over data. -/
namespace RW
open PySem PySem.Spec PyProof.Rows L2

def call1 (g : List D → Option RV) (ma : Mn (List D)) : Mn RV := ma.bind fun ds => .lift (g ds)
section
variable {X : Cx}
theorem ee_callB {id : String} {r : List V → Hp → VK → Prop} {g : List D → Option RV} {x : Str} {e : Expr} {es : List Expr} {ma : Mn (List D)} {p pos : Pos} (hc : CallR X (.builtin id) r) (og : CallD (cg X) r g) (hg : Gl X x) (hm : X.mg x = none)
    (hv : bootBuiltins x = some (.builtin id)) (ha : EvA X (e :: es) ma) (hn : x ≠ "__name__" := by decide) (hdb : (x == ("__debug__" : Str)) = false := by decide)
    (he : starEach (e :: es) X.env = (false, eval e X.env) :: starEach es X.env := by rfl) (hpl : (backTo pos (starEach es X.env)).any (·.1) = false := by rfl) : EvE X (.Call (.Name x p) (e :: es) [] pos) (call1 g ma) := fun B tk => by
  refine PE.mono (pe_callB hc hg hm hv (ha B tk) hn hdb he hpl) fun σ H Q ⟨F, env, r', env', R, hm, fin⟩ => ?_
  refine bindA R hm (fun ds env1 hk F1 H1 vs R1 s1 xs => ?_) (exE fin)
  obtain ⟨rv, e1, rfl, rfl⟩ := lift_cases hk
  exact og B F1 H1 σ env' vs ds rv Q R1 xs e1 (FinE.mono fin s1)
theorem ee_callTy {T : String} {r : List V → Hp → VK → Prop} {g : List D → Option RV} {x : Str} {e : Expr} {es : List Expr} {ma : Mn (List D)} {p pos : Pos} (hc : CallR X (.type T) r) (og : CallD (cg X) r g) (hg : Gl X x) (hm : X.mg x = none)
    (hv : bootBuiltins x = some (.type T)) (ha : EvA X (e :: es) ma) (hn : x ≠ "__name__" := by decide) (hdb : (x == ("__debug__" : Str)) = false := by decide)
    (he : starEach (e :: es) X.env = (false, eval e X.env) :: starEach es X.env := by rfl) (hpl : (backTo pos (starEach es X.env)).any (·.1) = false := by rfl) : EvE X (.Call (.Name x p) (e :: es) [] pos) (call1 g ma) := fun B tk => by
  refine PE.mono (pe_callTy hc hg hm hv (ha B tk) hn hdb he hpl) fun σ H Q ⟨F, env, r', env', R, hm, fin⟩ => ?_
  refine bindA R hm (fun ds env1 hk F1 H1 vs R1 s1 xs => ?_) (exE fin)
  obtain ⟨rv, e1, rfl, rfl⟩ := lift_cases hk
  exact og B F1 H1 σ env' vs ds rv Q R1 xs e1 (FinE.mono fin s1)
end

theorem ds1 {c : Cg} {F : Hp} {xs : List V} {d : D} (h : IsDs c F xs [d]) : ∃ v, xs = [v] ∧ IsD c F v d := by
  cases h with
  | cons h1 h2 => cases h2; exact ⟨_, rfl, h1⟩
theorem ds2 {c : Cg} {F : Hp} {xs : List V} {d e : D} (h : IsDs c F xs [d, e]) : ∃ v w, xs = [v, w] ∧ IsD c F v d ∧ IsD c F w e := by
  cases h with
  | cons h1 h2 =>
    obtain ⟨w, rfl, h3⟩ := ds1 h2
    exact ⟨_, w, rfl, h1, h3⟩
def lenV : List D → Option RV
  | [.str x] => if x.length ≤ sizeLine then vI x.length else none
  | [.lst ds] => vI ds.length
  | [.tup ds] => vI ds.length
  | _ => none
theorem one_arg {g : D → Option RV} {ds : List D} {rv : RV} (h : (match ds with | [d] => g d | _ => none) = some rv) : ∃ d, ds = [d] ∧ g d = some rv := by
  match ds, h with
  | [d], h => exact ⟨d, rfl, h⟩
theorem cd_len {c : Cg} : CallD c (fun xs H Q => ∃ x n, xs = [x] ∧ LenV c.K x H n ∧ Q (.int n) H) lenV := by
  intro B F H σ env xs ds rv Q R hx e fin
  match ds, e, hx with
  | [.str x], e, hx =>
    obtain ⟨v, rfl, h⟩ := ds1 hx
    cases h
    simp only [lenV] at e
    split at e
    · rename_i hz
      cases e
      exact ⟨_, x.length, rfl, ⟨hz, rfl⟩, fin_val R fin (.int _)⟩
    · cases e
  | [.lst l], e, hx =>
    obtain ⟨v, rfl, h⟩ := ds1 hx
    obtain ⟨a, vs, rfl, h1, h2⟩ := isLst h
    cases e
    rw [← IsDs.length h2] at fin
    exact ⟨_, vs.length, rfl, .inl ⟨vs, Same.seq R.sub h1, rfl⟩, fin_val R fin (.int _)⟩
  | [.tup l], e, hx =>
    obtain ⟨v, rfl, h⟩ := ds1 hx
    obtain ⟨a, vs, rfl, h1, h2⟩ := isTup h
    cases e
    rw [← IsDs.length h2] at fin
    exact ⟨_, vs.length, rfl, .inr ⟨vs, Same.sqT R.sub h1, rfl⟩, fin_val R fin (.int _)⟩
/-- int(x) -/
def intV : List D → Option RV
  | [.int i] => vI i
  | [.bl b] => vI (if b then 1 else 0)
  | _ => none
theorem cd_int {c : Cg} : CallD c (fun xs H Q => (∃ i, xs = [.int i] ∧ Q (.int i) H) ∨ ∃ k, xs = [.bl k] ∧ Q (.int (if k then 1 else 0)) H) intV := by
  intro B F H σ env xs ds rv Q R hx e fin
  match ds, e, hx with
  | [.int i], e, hx =>
    obtain ⟨v, rfl, h⟩ := ds1 hx
    cases h
    cases e
    exact .inl ⟨i, rfl, fin_val R fin (.int _)⟩
  | [.bl b], e, hx =>
    obtain ⟨v, rfl, h⟩ := ds1 hx
    cases h
    cases e
    exact .inr ⟨b, rfl, fin_val R fin (.int _)⟩
def minV : List D → Option RV
  | [.int i, .int j] => vI (if j < i then j else i)
  | _ => none
def maxV : List D → Option RV
  | [.int i, .int j] => vI (if j > i then j else i)
  | _ => none
theorem cd_min {c : Cg} : CallD c (fun xs H Q => ∃ i j, xs = [.int i, .int j] ∧ Q (.int (if j < i then j else i)) H) minV := by
  intro B F H σ env xs ds rv Q R hx e fin
  match ds, e, hx with
  | [.int i, .int j], e, hx =>
    obtain ⟨v, w, rfl, h1, h2⟩ := ds2 hx
    cases h1
    cases h2
    cases e
    exact ⟨i, j, rfl, fin_val R fin (.int _)⟩
theorem cd_max {c : Cg} : CallD c (fun xs H Q => ∃ i j, xs = [.int i, .int j] ∧ Q (.int (if j > i then j else i)) H) maxV := by
  intro B F H σ env xs ds rv Q R hx e fin
  match ds, e, hx with
  | [.int i, .int j], e, hx =>
    obtain ⟨v, w, rfl, h1, h2⟩ := ds2 hx
    cases h1
    cases h2
    cases e
    exact ⟨i, j, rfl, fin_val R fin (.int _)⟩
def itemsOf : D → Option (List D)
  | .lst ds => some ds
  | .tup ds => some ds
  | _ => none
def sortedV : List D → Option RV
  | [.lst ds] => if sortOk ds ∧ ds.length ≤ sizeLine then some (.new (dsort ds)) else none
  | [.tup ds] => if sortOk ds ∧ ds.length ≤ sizeLine then some (.new (dsort ds)) else none
  | [.set ds] => if sortOk ds ∧ ds.length ≤ sizeLine then some (.new (dsort ds)) else none
  | _ => none
theorem srt_set {c : Cg} {F H : Hp} {v : V} {ds : List D} (s : Same F H) (h : IsD c F v (.set ds)) : Srt c F H v ds := by
  cases h with
  | setK h1 h2 h3 h4 => exact .setK (s _ _ h1) h2 h3 h4
  | setS h1 => exact .setS (s _ _ h1)
theorem cd_sorted {c : Cg} : CallD c (rSorted c) sortedV := by
  intro B F H σ env xs ds rv Q R hx e fin
  have go : ∀ (v : V) (l : List D), xs = [v] → Srt c F H v l → (if sortOk l = true ∧ l.length ≤ sizeLine then some (RV.new (dsort l)) else none) = some rv → rSorted c xs H Q := by
    intro v l e1 sr e2
    split at e2
    · rename_i hz
      cases e2
      exact ⟨F, v, l, e1, R.sub, sr, hz.1, hz.2, fun p vs hp hvs => fin_new R fin hp hvs⟩
    · cases e2
  match ds, e, hx with
  | [.lst l], e, hx =>
    obtain ⟨v, rfl, h⟩ := ds1 hx
    obtain ⟨a, vs, rfl, h1, h2⟩ := isLst h
    exact go _ l rfl (.lst (Same.seq R.sub h1) h2) e
  | [.tup l], e, hx =>
    obtain ⟨v, rfl, h⟩ := ds1 hx
    obtain ⟨a, vs, rfl, h1, h2⟩ := isTup h
    exact go _ l rfl (.tup (Same.sqT R.sub h1) h2) e
  | [.set l], e, hx =>
    obtain ⟨v, rfl, h⟩ := ds1 hx
    exact go _ l rfl (srt_set R.sub h) e
def setV : List D → Option RV
  | [.lst ds] => if setOk ds then some (.val (.set (nub ds))) else none
  | [.tup ds] => if setOk ds then some (.val (.set (nub ds))) else none
  | _ => none
theorem cd_set {c : Cg} : CallD c (rSet c) setV := by
  intro B F H σ env xs ds rv Q R hx e fin
  have go : ∀ (v : V) (l : List D), xs = [v] → Sqd c F H v l → (if setOk l = true then some (RV.val (.set (nub l))) else none) = some rv → rSet c xs H Q := by
    intro v l e1 sr e2
    split at e2
    · rename_i hz
      cases e2
      refine ⟨F, v, l, e1, R.sub, sr, hz, fun a o ha h => ?_⟩
      obtain ⟨R2, s2⟩ := R.newF (o := o) ha
      exact fin _ _ (.ref a) R2 s2 (h _ s2 upd_same)
    · cases e2
  match ds, e, hx with
  | [.lst l], e, hx =>
    obtain ⟨v, rfl, h⟩ := ds1 hx
    obtain ⟨a, vs, rfl, h1, h2⟩ := isLst h
    exact go _ l rfl (.lst (Same.seq R.sub h1) h2) e
  | [.tup l], e, hx =>
    obtain ⟨v, rfl, h⟩ := ds1 hx
    obtain ⟨a, vs, rfl, h1, h2⟩ := isTup h
    exact go _ l rfl (.tup (Same.sqT R.sub h1) h2) e
def tupleV : List D → Option RV
  | [.lst ds] => some (.val (.tup ds))
  | [.tup ds] => some (.val (.tup ds))
  | _ => none
theorem cd_tuple {c : Cg} : CallD c (fun xs H Q => ∃ p ys, xs = [.ref p] ∧ ((SqL c.K H p ys ∧ ∀ l, H l = none → Q (.ref l) (upd H l (.tup ys))) ∨ (SqT c.K H p ys ∧ Q (.ref p) H))) tupleV := by
  intro B F H σ env xs ds rv Q R hx e fin
  match ds, e, hx with
  | [.lst l], e, hx =>
    obtain ⟨v, rfl, h⟩ := ds1 hx
    obtain ⟨a, vs, rfl, h1, h2⟩ := isLst h
    cases e
    exact ⟨a, vs, rfl, .inl ⟨Same.seq R.sub h1, fun p hp => fin_tup R fin hp h2⟩⟩
  | [.tup l], e, hx =>
    obtain ⟨v, rfl, h⟩ := ds1 hx
    obtain ⟨a, vs, rfl, h1, h2⟩ := isTup h
    cases e
    exact ⟨a, vs, rfl, .inr ⟨Same.sqT R.sub h1, fin_val R fin h⟩⟩
def listV : List D → Option RV
  | [.lst ds] => some (.new ds)
  | [.tup ds] => some (.new ds)
  | _ => none
theorem cd_list {c : Cg} : CallD c (fun xs H Q => ∃ p ys, xs = [.ref p] ∧ (SqL c.K H p ys ∨ SqT c.K H p ys) ∧ ∀ l, H l = none → Q (.ref l) (upd H l (.lst ys))) listV := by
  intro B F H σ env xs ds rv Q R hx e fin
  match ds, e, hx with
  | [.lst l], e, hx =>
    obtain ⟨v, rfl, h⟩ := ds1 hx
    obtain ⟨a, vs, rfl, h1, h2⟩ := isLst h
    cases e
    exact ⟨a, vs, rfl, .inl (Same.seq R.sub h1), fun p hp => fin_new R fin hp h2⟩
  | [.tup l], e, hx =>
    obtain ⟨v, rfl, h⟩ := ds1 hx
    obtain ⟨a, vs, rfl, h1, h2⟩ := isTup h
    cases e
    exact ⟨a, vs, rfl, .inr (Same.sqT R.sub h1), fun p hp => fin_new R fin hp h2⟩
/-- all, any of a list of bools -/
def boolsOf : List D → Option (List Bool)
  | [] => some []
  | .bl b :: ds => (boolsOf ds).map (b :: ·)
  | _ :: _ => none
theorem bools_at {c : Cg} {F : Hp} : ∀ {ds : List D} {vs : List V} {bs : List Bool}, IsDs c F vs ds → boolsOf ds = some bs → vs = bs.map V.bl
  | [], _, bs, h, e => by cases h; cases e; rfl
  | d :: ds, _, bs, h, e => by
    cases h with
    | cons h1 h2 =>
      cases d with
      | bl b =>
        simp only [boolsOf, Option.map_eq_some_iff] at e
        obtain ⟨bs', e1, rfl⟩ := e
        cases h1
        rw [bools_at h2 e1]
        rfl
      | _ => simp [boolsOf] at e
def allV : List D → Option RV
  | [.lst ds] => (boolsOf ds).map fun bs => .val (.bl (bs.all id))
  | _ => none
def anyV : List D → Option RV
  | [.lst ds] => (boolsOf ds).map fun bs => .val (.bl (bs.any id))
  | _ => none
theorem cd_all {c : Cg} : CallD c (rAll c.K) allV := by
  intro B F H σ env xs ds rv Q R hx e fin
  match ds, e, hx with
  | [.lst l], e, hx =>
    obtain ⟨v, rfl, h⟩ := ds1 hx
    obtain ⟨a, vs, rfl, h1, h2⟩ := isLst h
    simp only [allV, Option.map_eq_some_iff] at e
    obtain ⟨bs, e1, rfl⟩ := e
    exact ⟨a, bs, rfl, (by rw [← bools_at h2 e1]; exact Same.seq R.sub h1), fin_val R fin (.bl _)⟩
theorem cd_any {c : Cg} : CallD c (rAny c.K) anyV := by
  intro B F H σ env xs ds rv Q R hx e fin
  match ds, e, hx with
  | [.lst l], e, hx =>
    obtain ⟨v, rfl, h⟩ := ds1 hx
    obtain ⟨a, vs, rfl, h1, h2⟩ := isLst h
    simp only [anyV, Option.map_eq_some_iff] at e
    obtain ⟨bs, e1, rfl⟩ := e
    exact ⟨a, bs, rfl, (by rw [← bools_at h2 e1]; exact Same.seq R.sub h1), fin_val R fin (.bl _)⟩

/-! ### subscripts and slices -/
def ixV : D → D → Option RV
  | .lst ds, .int i => (atI ds i).map .val
  | .tup ds, .int i => (atI ds i).map .val
  | .str z, .int i => if z.length ≤ sizeLine then (atI z.cps.toList i).map fun c => .val (.str ⟨#[c]⟩) else none
  | _, _ => none
theorem atI_data {c : Cg} {F : Hp} {ds : List D} {vs : List V} {i : Int} {d : D} (h : IsDs c F vs ds) (e : atI ds i = some d) : ∃ v, atI vs i = some v ∧ IsD c F v d := by
  unfold atI at e ⊢
  rw [IsDs.length h]
  cases q : ixN ds.length i with
  | none => rw [q] at e; cases e
  | some j =>
    rw [q] at e
    exact IsDs.atD h e
theorem og_ix {c : Cg} : OpD c (rIx c.K) ixV := by
  intro B F H σ env x y dx dy rv Q R hx hy e fin
  cases dy with
  | int i =>
    cases hy
    cases dx with
    | lst ds =>
      obtain ⟨a, vs, rfl, h1, h2⟩ := isLst hx
      simp only [ixV, Option.map_eq_some_iff] at e
      obtain ⟨d, e1, rfl⟩ := e
      obtain ⟨v, e2, hd⟩ := atI_data h2 e1
      exact .inl ⟨a, vs, i, v, rfl, rfl, Same.seq R.sub h1, e2, fin_val R fin hd⟩
    | tup ds =>
      obtain ⟨a, vs, rfl, h1, h2⟩ := isTup hx
      simp only [ixV, Option.map_eq_some_iff] at e
      obtain ⟨d, e1, rfl⟩ := e
      obtain ⟨v, e2, hd⟩ := atI_data h2 e1
      exact .inr (.inl ⟨a, vs, i, v, rfl, rfl, Same.sqT R.sub h1, e2, fin_val R fin hd⟩)
    | str z =>
      cases hx
      simp only [ixV] at e
      split at e
      · rename_i hz
        rw [Option.map_eq_some_iff] at e
        obtain ⟨c', e1, rfl⟩ := e
        exact .inr (.inr ⟨z, i, c', rfl, rfl, hz, e1, fin_val R fin (.str _)⟩)
      · cases e
    | _ => cases e
  | _ => cases dx <;> cases e
section
variable {X : Cx}
theorem ee_ix {a b : Expr} {ma mb : Mn D} {pos} (ha : EvD X a ma) (hb : EvD X b mb) (hs : PlainIx b) : EvE X (.Subscript a b pos) (op2 ixV ma mb) := fun B tk => by
  refine PE.mono (pe_ix ix_seq (ha B tk) (hb B tk) hs) fun σ H Q ⟨F, env, r, env', R, hm, fin⟩ => ?_
  refine bindD R hm (fun dx env1 hk F1 H1 x R1 s1 ix => ?_) (exE fin)
  have fin1 := FinE.mono fin s1
  refine bindD R1 hk (fun dy env2 hk2 F2 H2 y R2 s2 iy => ?_) (exE fin1)
  obtain ⟨rv, e1, rfl, rfl⟩ := lift_cases hk2
  exact og_ix B F2 H2 σ env' x y dx dy rv Q R2 (ix.mono s2) iy e1 (FinE.mono fin1 s2)
end
end RW

set_option Elab.async false
set_option linter.all false
set_option maxRecDepth 100000
set_option maxHeartbeats 4000000
/-! RwTest: tests, and/or/not as values, conditional expressions, slices, lists read in passing. -/
namespace RW
open PySem PySem.Spec PyProof.Rows L2

def EvW (X : Cx) (e : Expr) (m : Mn Bool) : Prop := ∀ B, Takes X B.W → PW X e (tT (cg X) B m)
section
variable {X : Cx} {a b : Expr} {rest : List Expr} {pos : Pos} {ma mb : Mn Bool}
def andM (ma mb : Mn Bool) : Mn Bool := ma.bind fun b => if b then mb else .ret false
def orM (ma mb : Mn Bool) : Mn Bool := ma.bind fun b => if b then .ret true else mb
def notM (ma : Mn Bool) : Mn Bool := ma.bind fun b => .ret !b
theorem EvW.t {e : Expr} {m : Mn Bool} (h : EvW X e m) : EvT X e m := fun B tk => (h B tk).pt
theorem et_and1 (ha : EvT X a ma) : EvW X (.BoolOp .And [a] pos) ma := fun B tk => pw_and1 (ha B tk)
theorem et_or1 (ha : EvT X a ma) : EvW X (.BoolOp .Or [a] pos) ma := fun B tk => pw_or1 (ha B tk)
theorem et_and (ha : EvT X a ma) (hb : EvW X (.BoolOp .And (b :: rest) pos) mb) : EvW X (.BoolOp .And (a :: b :: rest) pos) (andM ma mb) := fun B tk => by
  refine PW.mono (pw_and (ha B tk) (hb B tk)) fun σ H Q ⟨F, env, r, env', R, hm, fin⟩ => ?_
  refine bindT R hm (fun x env1 hk F1 H1 R1 s1 => ?_) (exT fin)
  have fin1 := FinT.mono fin s1
  cases x with
  | true => exact ⟨F1, env1, r, env', R1, hk, fin1⟩
  | false =>
    cases hk
    exact fin1 F1 H1 R1 (Same.refl _)
theorem et_or (ha : EvT X a ma) (hb : EvW X (.BoolOp .Or (b :: rest) pos) mb) : EvW X (.BoolOp .Or (a :: b :: rest) pos) (orM ma mb) := fun B tk => by
  refine PW.mono (pw_or (ha B tk) (hb B tk)) fun σ H Q ⟨F, env, r, env', R, hm, fin⟩ => ?_
  refine bindT R hm (fun x env1 hk F1 H1 R1 s1 => ?_) (exT fin)
  have fin1 := FinT.mono fin s1
  cases x with
  | true =>
    cases hk
    exact fin1 F1 H1 R1 (Same.refl _)
  | false => exact ⟨F1, env1, r, env', R1, hk, fin1⟩
theorem et_not (ha : EvT X a ma) : EvT X (.UnaryOp .Not a pos) (notM ma) := fun B tk => by
  refine PT.mono (pt_not (ha B tk)) fun σ H Q ⟨F, env, r, env', R, hm, fin⟩ => ?_
  refine bindT R hm (fun x env1 hk F1 H1 R1 s1 => ?_) (exT fin)
  cases hk
  exact FinT.mono fin s1 F1 H1 R1 (Same.refl _)

/-- a test of a comparison -/
def cmpT (g : D → D → Option RV) (ma mb : Mn D) : Mn Bool := (op2 g ma mb).bind fun r => .lift (boolOf r)
theorem fin_bool {c : Cg} {B : Bs} {F : Hp} {σ : L2.St} {env : En} {Q : Bool → Hp → Prop} {rv : RV} {b : Bool} (e : boolOf rv = some b) (fin : FinT c B F σ env Q (.ok b)) : FinE c B F σ env (fun x H => ∃ k, x = .bl k ∧ Q k H) (.ok rv) := by
  cases rv with
  | val d =>
    cases d with
    | bl b' =>
      cases e
      intro F' H' v R' s' x
      cases x
      exact ⟨b, rfl, fin F' H' R' s'⟩
    | _ => cases e
  | new ds => cases e
theorem et_cmp {op : CmpOp} {r : R2} {g : D → D → Option RV} {ma mb : Mn D} (ho : OpR X (compareOp op) r) (og : OpD (cg X) r g) (ha : EvD X a ma) (hb : EvD X b mb) (hm : behindInMarks op b = false) : EvT X (.Compare a [op] [b] pos) (cmpT g ma mb) := fun B tk => by
  refine PT.mono (pt_cmpR ho (ha B tk) (hb B tk) hm) fun σ H Q ⟨F, env, r, env', R, hm, fin⟩ => ?_
  show tOp _ _ _ σ H _
  rcases bind_cases hm with ⟨rv, env1, h1, h2⟩ | ⟨x, f, h1, rfl⟩
  · obtain ⟨k, e1, rfl, rfl⟩ := lift_cases h2
    refine bindD R h1 (fun dx env2 hk F1 H1 x R1 s1 ix => ?_) (fun x f z => by cases z)
    have fin1 := FinT.mono fin s1
    refine bindD R1 hk (fun dy env3 hk2 F2 H2 y R2 s2 iy => ?_) (fun x f z => by cases z)
    obtain ⟨rv', e2, e3, rfl⟩ := lift_cases hk2
    cases e3
    exact og B F2 H2 σ env' x y dx dy rv _ R2 (ix.mono s2) iy e2 (fin_bool e1 (FinT.mono fin1 s2))
  · have fx : ExE (cg X) B F σ env' x f := fin
    refine bindD R h1 (fun dx env2 hk F1 H1 x' R1 s1 ix => ?_) (fun x' f' z => by cases z; exact fx)
    refine bindD R1 hk (fun dy env3 hk2 F2 H2 y R2 s2 iy => ?_) (fun x' f' z => by cases z; exact ExE.mono fx s1)
    obtain ⟨rv', e2, e3, _⟩ := lift_cases hk2
    cases e3
/-- a <= b <= c of pure operands -/
def chainM (g g' : D → D → Option RV) (ma mb mc : Mn D) : Mn RV := ma.bind fun x => mb.bind fun y => (Mn.lift (g x y)).bind fun r => (Mn.lift (boolOf r)).bind fun k => if k then mc.bind fun z => .lift (g' y z) else .ret (.val (.bl false))
theorem chain_ok {c : Cg} {B : Bs} {σ : L2.St} {H : Hp} {Q : VK} {r0 r1 : R2} {g g' : D → D → Option RV} {ma mb mc : Mn D} (og : OpD c r0 g) (og' : OpD c r1 g') (h : tE c B (chainM g g' ma mb mc) σ H Q) : tChain r0 r1 (tD c B ma) (tD c B mb) (tD c B mc) σ H Q := by
  obtain ⟨F, env, r, env', R, hm, fin⟩ := h
  refine bindD R hm (fun dx env2 hk F1 H1 x R1 s1 ix => ?_) (exE fin)
  have fin1 := FinE.mono fin s1
  refine bindD R1 hk (fun dy env3 hk2 F2 H2 y R2 s2 iy => ?_) (exE fin1)
  have fin2 := FinE.mono fin1 s2
  rcases bind_cases hk2 with ⟨rv, env4, h1, h2⟩ | ⟨x', f, h1, rfl⟩
  · obtain ⟨rv', e2, e3, rfl⟩ := lift_cases h1
    cases e3
    rcases bind_cases h2 with ⟨k, env5, h3, h4⟩ | ⟨x', f, h3, rfl⟩
    · obtain ⟨k', e5, e6, rfl⟩ := lift_cases h3
      cases e6
      have goal : FinE c B F2 σ env5 (fun z H3 => ∃ k, z = V.bl k ∧ (if k = true then tD c B mc σ H3 (fun w' H4 => r1 y w' H4 Q) else Q (.bl false) H3)) (.ok rv) := by
        refine fin_bool (Q := fun k H3 => if k = true then tD c B mc σ H3 (fun w' H4 => r1 y w' H4 Q) else Q (.bl false) H3) e5 ?_
        intro F3 H3 R3 s3
        cases k with
        | true =>
          simp only [if_true] at h4 ⊢
          refine bindD R3 h4 (fun dz env6 hk3 F4 H4 z R4 s4 iz => ?_) (exE (FinE.mono fin2 s3))
          obtain ⟨rv2, e7, rfl, rfl⟩ := lift_cases hk3
          exact og' B F4 H4 σ env' y z dy dz rv2 Q R4 (iy.mono (s3.trans s4)) iz e7 (FinE.mono fin2 (s3.trans s4))
        | false =>
          simp only [Bool.false_eq_true, if_false] at h4 ⊢
          cases h4
          exact fin2 F3 H3 (.bl false) R3 s3 (.bl false)
      exact og B F2 H2 σ env5 x y dx dy rv _ R2 (ix.mono s2) iy e2 goal
    · obtain ⟨_, _, e6, _⟩ := lift_cases h3
      cases e6
  · obtain ⟨_, _, e6, _⟩ := lift_cases h1
    cases e6
theorem ee_chain {op op' : CmpOp} {c' : Expr} {r r' : R2} {g g' : D → D → Option RV} {ma mb mc : Mn D} (ho : OpR X (compareOp op) r) (og : OpD (cg X) r g) (ho' : OpR X (compareOp op') r') (og' : OpD (cg X) r' g') (ha : EvD X a ma) (hb : EvD X b mb) (hc : EvD X c' mc)
    (hm : lastMarks [op, op'] [b, c'] = false := by with_unfolding_all rfl) : EvE X (.Compare a [op, op'] [b, c'] pos) (chainM g g' ma mb mc) := fun B tk =>
  PE.mono (pe_chain ho ho' (ha B tk) (hb B tk) (hc B tk) hm) fun σ H Q h => chain_ok og og' h
/-- .. as values -/
def andV (ma mb : Mn RV) : Mn RV := (ma.bind fun r => .lift (boolOf r)).bind fun k => if k then mb else .ret (.val (.bl false))
def orV (ma mb : Mn RV) : Mn RV := (ma.bind fun r => .lift (boolOf r)).bind fun k => if k then .ret (.val (.bl true)) else mb
def notV (ma : Mn RV) : Mn RV := (ma.bind fun r => .lift (boolOf r)).bind fun k => .ret (.val (.bl !k))
theorem bindB {c : Cg} {B : Bs} {F H : Hp} {σ : L2.St} {env env' : En} {β : Type} {m : Mn RV} {k : Bool → Mn β} {r : Rs β} (R : Rel c B F σ H env) (h : (m.bind fun r => Mn.lift (boolOf r)).bind k env = some (r, env')) {K : Bool → Hp → Prop}
    (ok : ∀ b env1, k b env1 = some (r, env') → ∀ F1 H1, Rel c B F1 σ H1 env1 → Same F F1 → K b H1)
    (ex : ∀ x f, r = .ex x f → ExE c B F σ env' x f) : tE c B m σ H fun x H1 => ∃ c, x = .bl c ∧ K c H1 := by
  rcases bind_cases h with ⟨b, env1, h1, h2⟩ | ⟨x, f, h1, rfl⟩
  · rcases bind_cases h1 with ⟨rv, env2, h3, h4⟩ | ⟨x, f, h3, e⟩
    · obtain ⟨k, e1, e2, rfl⟩ := lift_cases h4
      cases e2
      exact ⟨F, env, _, _, R, h3, fin_bool e1 fun F1 H1 R1 s1 => ok b env1 h2 F1 H1 R1 s1⟩
    · cases e
  · rcases bind_cases h1 with ⟨rv, env2, h3, h4⟩ | ⟨x', f', h3, e⟩
    · obtain ⟨_, _, e2, _⟩ := lift_cases h4
      cases e2
    · cases e
      exact ⟨F, env, _, _, R, h3, ex x f rfl⟩
theorem ee_one {op} {m : Mn RV} (h : EvE X a m) : EvE X (.BoolOp op [a] pos) m := fun B tk => pe_one (h B tk)
theorem ee_and {ma mb : Mn RV} (ha : EvE X a ma) (hb : EvE X (.BoolOp .And (b :: rest) pos) mb) : EvE X (.BoolOp .And (a :: b :: rest) pos) (andV ma mb) := fun B tk => by
  refine PE.mono (pe_and (ha B tk) (hb B tk)) fun σ H Q ⟨F, env, r, env', R, hm, fin⟩ => ?_
  refine bindB R hm (fun k env1 hk F1 H1 R1 s1 => ?_) (exE fin)
  have fin1 := FinE.mono fin s1
  cases k with
  | true => exact ⟨F1, env1, r, env', R1, hk, fin1⟩
  | false =>
    cases hk
    exact fin1 F1 H1 (.bl false) R1 (Same.refl _) (.bl false)
theorem ee_or {ma mb : Mn RV} (ha : EvE X a ma) (hb : EvE X (.BoolOp .Or (b :: rest) pos) mb) : EvE X (.BoolOp .Or (a :: b :: rest) pos) (orV ma mb) := fun B tk => by
  refine PE.mono (pe_or (ha B tk) (hb B tk)) fun σ H Q ⟨F, env, r, env', R, hm, fin⟩ => ?_
  refine bindB R hm (fun k env1 hk F1 H1 R1 s1 => ?_) (exE fin)
  have fin1 := FinE.mono fin s1
  cases k with
  | true =>
    cases hk
    exact fin1 F1 H1 (.bl true) R1 (Same.refl _) (.bl true)
  | false => exact ⟨F1, env1, r, env', R1, hk, fin1⟩
theorem ee_not {ma : Mn RV} (ha : EvE X a ma) : EvE X (.UnaryOp .Not a pos) (notV ma) := fun B tk => by
  refine PE.mono (pe_not (ha B tk)) fun σ H Q ⟨F, env, r, env', R, hm, fin⟩ => ?_
  refine bindB R hm (fun k env1 hk F1 H1 R1 s1 => ?_) (exE fin)
  cases hk
  exact FinE.mono fin s1 F1 H1 (.bl !k) R1 (Same.refl _) (.bl _)
def ifE {α : Type} (mt : Mn Bool) (ma mb : Mn α) : Mn α := mt.bind fun b => if b then ma else mb
theorem ee_if {c' : Expr} {mt : Mn Bool} {ma mb : Mn RV} (hc : EvT X c' mt) (ha : EvE X a ma) (hb : EvE X b mb) : EvE X (.IfExp c' a b pos) (ifE mt ma mb) := fun B tk => by
  refine PE.mono (pe_ifExp (hc B tk) (ha B tk) (hb B tk)) fun σ H Q ⟨F, env, r, env', R, hm, fin⟩ => ?_
  refine bindT R hm (fun x env1 hk F1 H1 R1 s1 => ?_) (exE fin)
  have fin1 := FinE.mono fin s1
  cases x with
  | true => exact ⟨F1, env1, r, env', R1, hk, fin1⟩
  | false => exact ⟨F1, env1, r, env', R1, hk, fin1⟩
/-- a test by the value's truth -/
def truD : D → Option Bool
  | .non => some false
  | .bl b => some b
  | .int i => some (i != 0)
  | .str y => if y.length ≤ sizeLine then some ((y.length : Int) != 0) else none
  | .lst ds => some (!ds.isEmpty)
  | .tup ds => some (!ds.isEmpty)
  | _ => none

/-! ### a module's constants -/
theorem ed_glob {x : Str} {v : V} {u : Value} {d : D} {pos : Pos} (hg : Gl X x) (hm : X.mg x = some u) (r : RelV v u) (hd : ∀ F, IsD (cg X) F v d) (hdb : (x == ("__debug__" : Str)) = false := by decide) : EvD X (.Name x pos) (Mn.ret d) := ed_c (pe_glob hg hm r hdb) hd

/-! ### slices -/
def EvO (X : Cx) (e : Option Expr) (m : Mn (Option Int)) : Prop := ∀ B, Takes X B.W → PO X e fun σ H Q => ∃ F env r env', Rel (cg X) B F σ H env ∧ m env = some (r, env') ∧ match r with
  | .ok o => ∀ F' H', Rel (cg X) B F' σ H' env' → Same F F' → Q o H'
  | .ex x f => ExE (cg X) B F σ env' x f
theorem eo_none : EvO X none (.ret none) := fun B tk => ⟨fun pins s σ H Q I ⟨F, env, r, env', R, hm, fin⟩ => by
  cases hm
  exact po_none.run pins s σ H Q I (fin F H R (Same.refl _))⟩
def intOf : D → Option Int
  | .int i => some i
  | _ => none
def partM (m : Mn D) : Mn (Option Int) := m.bind fun d => (Mn.lift (intOf d)).bind fun i => .ret (some i)
theorem eo_some {e : Expr} {m : Mn D} (h : EvD X e m) : EvO X (some e) (partM m) := fun B tk => ⟨fun pins s σ H Q I ⟨F, env, r, env', R, hm, fin⟩ => by
  refine (po_some (h B tk)).run pins s σ H Q I ?_
  show tD _ _ _ _ _ _
  refine bindD R hm (fun d env1 hk F1 H1 x R1 s1 ix => ?_) (fun x f e => by subst e; exact fin)
  rcases bind_cases hk with ⟨i, env2, h1, h2⟩ | ⟨x, f, h1, rfl⟩
  · obtain ⟨j, e1, e2, rfl⟩ := lift_cases h1
    cases e2
    cases h2
    cases d with
    | int i' =>
      cases e1
      cases ix
      exact ⟨i, rfl, fin F1 H1 R1 s1⟩
    | _ => cases e1
  · obtain ⟨_, _, e2, _⟩ := lift_cases h1
    cases e2⟩
def cutD (ds : List D) (lo hi : Option Int) : List D := (ds.drop (HT.sIx ds.length 0 lo)).take (HT.sIx ds.length ds.length hi - HT.sIx ds.length 0 lo)
theorem cut_data {c : Cg} {F : Hp} {vs : List V} {ds : List D} (h : IsDs c F vs ds) (lo hi : Option Int) : IsDs c F (cutV vs lo hi) (cutD ds lo hi) := by
  unfold cutV cutD
  rw [IsDs.length h]
  exact IsDs.take _ (IsDs.drop _ h)
def sliceV (x : D) (lo hi : Option Int) : Option RV := match x with
  | .lst ds => some (.new (cutD ds lo hi))
  | .tup ds => some (.val (.tup (cutD ds lo hi)))
  | .str z => if z.length ≤ sizeLine then some (.val (.str (cutS z lo hi))) else none
  | _ => none
def rSlD (K : PySem.W.Frag) : V → Option Int → Option Int → Hp → VK → Prop := fun x lo hi H Q => rSlL K x lo hi H Q ∨ rSlA K x lo hi H Q ∨ rSlS x lo hi H Q
theorem sl_data : SlR X (rSlD X.K) := sl_list.or (sl_tupA.or sl_str)
theorem cut_whole {ds : List D} {lo hi : Option Int} (h : HT.sIx ds.length 0 lo = 0 ∧ HT.sIx ds.length ds.length hi = ds.length) : cutD ds lo hi = ds := by
  unfold cutD
  rw [h.1, h.2]
  simp
theorem og_slice {c : Cg} {B : Bs} {F H : Hp} {σ : L2.St} {env : En} {x : V} {dx : D} {lo hi : Option Int} {rv : RV} {Q : VK} (R : Rel c B F σ H env) (hx : IsD c F x dx) (e : sliceV dx lo hi = some rv) (fin : FinE c B F σ env Q (.ok rv)) : rSlD c.K x lo hi H Q := by
  cases dx with
  | lst ds =>
    obtain ⟨a, vs, rfl, h1, h2⟩ := isLst hx
    cases e
    exact .inl ⟨a, vs, rfl, Same.seq R.sub h1, fun p hp => fin_new R fin hp (cut_data h2 lo hi)⟩
  | tup ds =>
    obtain ⟨a, vs, rfl, h1, h2⟩ := isTup hx
    cases e
    refine .inr (.inl ⟨a, vs, rfl, Same.sqT R.sub h1, fun w => ?_, fun w p hp => fin_tup R fin hp (cut_data h2 lo hi)⟩)
    rw [IsDs.length h2] at w
    rw [cut_whole w] at fin
    exact fin_val R fin hx
  | str z =>
    cases hx
    simp only [sliceV] at e
    split at e
    · rename_i hz
      cases e
      exact .inr (.inr ⟨z, rfl, hz, fin_val R fin (.str _)⟩)
    · cases e
  | _ => cases e
def sliceM (ma : Mn D) (ml mh : Mn (Option Int)) : Mn RV := ma.bind fun x => ml.bind fun l => mh.bind fun h => .lift (sliceV x l h)
theorem ee_slice {e : Expr} {lo hi : Option Expr} {ma : Mn D} {ml mh : Mn (Option Int)} {p2} (he : EvD X e ma) (hl : EvO X lo ml) (hh : EvO X hi mh) : EvE X (.Subscript e (.Slice lo hi none p2) pos) (sliceM ma ml mh) := fun B tk => by
  refine PE.mono (pe_slice sl_data (he B tk) (hl B tk) (hh B tk)) fun σ H Q ⟨F, env, r, env', R, hm, fin⟩ => ?_
  refine bindD R hm (fun dx env1 hk F1 H1 x R1 s1 ix => ?_) (exE fin)
  have fin1 := FinE.mono fin s1
  rcases bind_cases hk with ⟨l, env2, h1, h2⟩ | ⟨x', f, h1, rfl⟩
  · refine ⟨F1, env1, _, _, R1, h1, fun F2 H2 R2 s2 => ?_⟩
    have fin2 := FinE.mono fin1 s2
    rcases bind_cases h2 with ⟨u, env3, h3, h4⟩ | ⟨x', f, h3, rfl⟩
    · refine ⟨F2, env2, _, _, R2, h3, fun F3 H3 R3 s3 => ?_⟩
      obtain ⟨rv, e1, rfl, rfl⟩ := lift_cases h4
      exact og_slice R3 (ix.mono (s2.trans s3)) e1 (FinE.mono fin2 s3)
    · exact ⟨F2, env2, _, _, R2, h3, fin2⟩
  · exact ⟨F1, env1, _, _, R1, h1, fin1⟩
/-- xs[::-1] -/
def revM (ma : Mn D) : Mn RV := ma.bind fun x => match x with
  | .lst ds => .ret (.new ds.reverse)
  | _ => fun _ => none
theorem ee_rev {e : Expr} {ma : Mn D} {k : Nat} {p1 p2 p3 pos : Pos} (he : EvD X e ma) : EvE X (.Subscript e (.Slice none none (some (.UnaryOp .USub (.Constant (.int 1) k p1) p2)) p3) pos) (revM ma) := fun B tk => by
  refine PE.mono (pe_revL (he B tk)) fun σ H Q ⟨F, env, r, env', R, hm, fin⟩ => ?_
  refine bindD R hm (fun dx env1 hk F1 H1 x R1 s1 ix => ?_) (exE fin)
  cases dx with
  | lst ds =>
    cases hk
    obtain ⟨a, vs, rfl, h1, h2⟩ := isLst ix
    exact ⟨a, vs, rfl, Same.seq R1.sub h1, fun p hp => fin_new R1 (FinE.mono fin s1) hp (IsDs.reverse h2)⟩
  | _ => cases hk
/-- unary minus -/
def negM (ma : Mn D) : Mn D := ma.bind fun x => match x with
  | .int i => .ret (.int (-i))
  | _ => fun _ => none
theorem ed_neg {ma : Mn D} (he : EvD X a ma) : EvD X (.UnaryOp .USub a pos) (negM ma) := fun B tk => by
  refine PE.mono (pe_un un_neg (he B tk)) fun σ H Q ⟨F, env, r, env', R, hm, fin⟩ => ?_
  refine bindD R hm (fun dx env1 hk F1 H1 x R1 s1 ix => ?_) (exD fin)
  cases dx with
  | int i =>
    cases hk
    cases ix
    exact ⟨i, rfl, FinD.mono fin s1 F1 H1 (.int (-i)) R1 (Same.refl _) (.int _)⟩
  | _ => cases hk
end
end RW

set_option Elab.async false
set_option linter.all false
set_option maxRecDepth 100000
set_option maxHeartbeats 4000000
/-! RwStmt: statements over data. -/
namespace RW
open PySem PySem.Spec PyProof.Rows L2

inductive Out where
  | nx
  | ret (r : RV)
  | brk
  | cnt
  | ex (x : Str) (f : Option D)
abbrev Ms := En → Option (Out × En)
def FinS (c : Cg) (B : Bs) (F : Hp) (Dk : Ends) (env : En) : Out → Prop
  | .nx => ∀ F' σ' H', Rel c B F' σ' H' env → Same F F' → Dk.nx σ' H'
  | .brk => ∀ F' σ' H', Rel c B F' σ' H' env → Same F F' → Dk.bk σ' H'
  | .cnt => ∀ F' σ' H', Rel c B F' σ' H' env → Same F F' → Dk.ct σ' H'
  | .ret (.val d) => ∀ F' σ' H' v, Rel c B F' σ' H' env → Same F F' → IsD c F' v d → Dk.rt v H'
  | .ret (.new ds) => ∀ F' σ' H' p vs, Rel c B F' σ' H' env → Same F F' → NewL c B F' σ' H' env p vs ds → Dk.rt (.ref p) H'
  | .ex x f => ∀ σ', ExE c B F σ' env x f
def tS (c : Cg) (B : Bs) (m : Ms) : TS := fun Dk σ H => ∃ F env o env', Rel c B F σ H env ∧ m env = some (o, env') ∧ FinS c B F Dk env' o
def EvS (X : Cx) (st : Stmt) (m : Ms) : Prop := ∀ B, Takes X B.W → PS X st (tS (cg X) B m)
def EvSs (X : Cx) (st : List Stmt) (m : Ms) : Prop := ∀ B, Takes X B.W → PSs X st (tS (cg X) B m)
theorem FinS.mono {c : Cg} {B : Bs} {F F' : Hp} {Dk : Ends} {env : En} {o : Out} (h : FinS c B F Dk env o) (s : Same F F') : FinS c B F' Dk env o := by
  cases o with
  | nx => exact fun F2 σ2 H2 R s2 => h F2 σ2 H2 R (s.trans s2)
  | brk => exact fun F2 σ2 H2 R s2 => h F2 σ2 H2 R (s.trans s2)
  | cnt => exact fun F2 σ2 H2 R s2 => h F2 σ2 H2 R (s.trans s2)
  | ret r =>
    cases r with
    | val d => exact fun F2 σ2 H2 v R s2 => h F2 σ2 H2 v R (s.trans s2)
    | new ds => exact fun F2 σ2 H2 p vs R s2 => h F2 σ2 H2 p vs R (s.trans s2)
  | ex x f => exact fun σ' => ExE.mono (h σ') s

/-- an evaluation, then a statement's rest -/
def thenS {α : Type} (m : Mn α) (k : α → Ms) : Ms := fun env => match m env with
  | some (.ok a, env') => k a env'
  | some (.ex x f, env') => some (.ex x f, env')
  | none => none
theorem thenS_cases {α : Type} {m : Mn α} {k : α → Ms} {env env' : En} {o : Out} (h : thenS m k env = some (o, env')) :
    (∃ a env1, m env = some (.ok a, env1) ∧ k a env1 = some (o, env')) ∨ ∃ x f, m env = some (.ex x f, env') ∧ o = .ex x f := by
  unfold thenS at h
  cases e : m env with
  | none => rw [e] at h; cases h
  | some q =>
    obtain ⟨rs, env1⟩ := q
    rw [e] at h
    cases rs with
    | ok a => exact .inl ⟨a, env1, rfl, h⟩
    | ex x f =>
      cases h
      exact .inr ⟨x, f, rfl, rfl⟩
section
variable {c : Cg} {B : Bs} {F F' H H' : Hp} {σ σ' : L2.St} {env env' env1 : En} {o : Out}
theorem thenD {m : Mn D} {k : D → Ms} {Dk : Ends} (R : Rel c B F σ H env) (h : thenS m k env = some (o, env')) {K : VK}
    (ok : ∀ d env1, k d env1 = some (o, env') → ∀ F1 H1 v, Rel c B F1 σ H1 env1 → Same F F1 → IsD c F1 v d → K v H1)
    (fin : FinS c B F Dk env' o) : tD c B m σ H K := by
  rcases thenS_cases h with ⟨d, env1, h1, h2⟩ | ⟨x, f, h1, rfl⟩
  · exact ⟨F, env, _, _, R, h1, fun F1 H1 v R1 s1 x => ok d env1 h2 F1 H1 v R1 s1 x⟩
  · exact ⟨F, env, _, _, R, h1, fin σ⟩
theorem thenE {m : Mn RV} {k : RV → Ms} {Dk : Ends} (R : Rel c B F σ H env) (h : thenS m k env = some (o, env')) {K : VK}
    (ok : ∀ v env1, k v env1 = some (o, env') → FinE c B F σ env1 K (.ok v))
    (fin : FinS c B F Dk env' o) : tE c B m σ H K := by
  rcases thenS_cases h with ⟨d, env1, h1, h2⟩ | ⟨x, f, h1, rfl⟩
  · exact ⟨F, env, _, _, R, h1, ok d env1 h2⟩
  · exact ⟨F, env, _, _, R, h1, fin σ⟩
theorem thenT {m : Mn Bool} {k : Bool → Ms} {Dk : Ends} (R : Rel c B F σ H env) (h : thenS m k env = some (o, env')) {K : Bool → Hp → Prop}
    (ok : ∀ d env1, k d env1 = some (o, env') → ∀ F1 H1, Rel c B F1 σ H1 env1 → Same F F1 → K d H1)
    (fin : FinS c B F Dk env' o) : tT c B m σ H K := by
  rcases thenS_cases h with ⟨d, env1, h1, h2⟩ | ⟨x, f, h1, rfl⟩
  · exact ⟨F, env, _, _, R, h1, fun F1 H1 R1 s1 => ok d env1 h2 F1 H1 R1 s1⟩
  · exact ⟨F, env, _, _, R, h1, fin σ⟩
theorem thenA {m : Mn (List D)} {k : List D → Ms} {Dk : Ends} (R : Rel c B F σ H env) (h : thenS m k env = some (o, env')) {K : List V → Hp → Prop}
    (ok : ∀ d env1, k d env1 = some (o, env') → ∀ F1 H1 vs, Rel c B F1 σ H1 env1 → Same F F1 → IsDs c F1 vs d → K vs H1)
    (fin : FinS c B F Dk env' o) : tA c B m σ H K := by
  rcases thenS_cases h with ⟨d, env1, h1, h2⟩ | ⟨x, f, h1, rfl⟩
  · exact ⟨F, env, _, _, R, h1, fun F1 H1 vs R1 s1 x => ok d env1 h2 F1 H1 vs R1 s1 x⟩
  · exact ⟨F, env, _, _, R, h1, fin σ⟩
end

section
variable {X : Cx} {st : Stmt} {rest : List Stmt} {e : Expr} {pos : Pos}
def nxM : Ms := fun env => some (.nx, env)
def seqM (m1 m2 : Ms) : Ms := fun env => match m1 env with
  | some (.nx, env1) => m2 env1
  | r => r
theorem es_nil : EvSs X [] nxM := fun B tk => by
  refine PSs.mono pss_nil fun Dk σ H ⟨F, env, o, env', R, hm, fin⟩ => ?_
  cases hm
  exact fin F σ H R (Same.refl _)
theorem es_cons {m1 m2 : Ms} (h1 : EvS X st m1) (h2 : EvSs X rest m2) : EvSs X (st :: rest) (seqM m1 m2) := fun B tk => by
  refine PSs.mono (pss_cons (h1 B tk) (h2 B tk)) fun Dk σ H ⟨F, env, o, env', R, hm, fin⟩ => ?_
  show tS _ _ _ _ σ H
  unfold seqM at hm
  cases e1 : m1 env with
  | none => rw [e1] at hm; cases hm
  | some q =>
    obtain ⟨o1, env1⟩ := q
    rw [e1] at hm
    refine ⟨F, env, o1, env1, R, e1, ?_⟩
    cases o1 with
    | nx => exact fun F1 σ1 H1 R1 s1 => ⟨F1, env1, o, env', R1, hm, FinS.mono fin s1⟩
    | brk => cases hm; exact fin
    | cnt => cases hm; exact fin
    | ret r =>
      cases hm
      cases r with
      | val d => exact fin
      | new ds => exact fin
    | ex x f => cases hm; exact fin
theorem es_one {m : Ms} (h : EvS X st m) : EvSs X [st] m := fun B tk => pss_one (h B tk)
theorem es_pass : EvS X (.Pass pos) nxM := fun B tk => by
  refine PS.mono ps_pass fun Dk σ H ⟨F, env, o, env', R, hm, fin⟩ => ?_
  cases hm
  exact fin F σ H R (Same.refl _)
theorem es_break : EvS X (.Break pos) (fun env => some (.brk, env)) := fun B tk => by
  refine PS.mono ps_break fun Dk σ H ⟨F, env, o, env', R, hm, fin⟩ => ?_
  cases hm
  exact fin F σ H R (Same.refl _)
theorem es_continue : EvS X (.Continue pos) (fun env => some (.cnt, env)) := fun B tk => by
  refine PS.mono ps_continue fun Dk σ H ⟨F, env, o, env', R, hm, fin⟩ => ?_
  cases hm
  exact fin F σ H R (Same.refl _)
theorem es_never : EvS X st (fun _ => none) := fun B tk => by
  refine PS.mono ps_never fun Dk σ H ⟨F, env, o, env', R, hm, fin⟩ => ?_
  cases hm
def dropM (m : Mn RV) : Ms := thenS m fun _ => nxM
theorem es_expr {m : Mn RV} (he : EvE X e m) (hs : swapsWith e none pos.line X.env = pure false := by rfl) : EvS X (.Expr e pos) (dropM m) := fun B tk => by
  refine PS.mono (ps_expr (he B tk) hs) fun Dk σ H ⟨F, env, o, env', R, hm, fin⟩ => ?_
  show tE _ _ _ _ _ _
  refine thenE R hm (fun v env1 hk => ?_) fin
  cases hk
  cases v with
  | val d => exact fun F1 H1 v R1 s1 x => fin F1 σ H1 R1 s1
  | new ds => exact fun F1 H1 p vs R1 s1 x => fin F1 σ H1 R1 s1
def retM (m : Mn RV) : Ms := thenS m fun r env => some (.ret r, env)
theorem es_ret {m : Mn RV} (he : EvE X e m) : EvS X (.Return (some e) pos) (retM m) := fun B tk => by
  refine PS.mono (ps_ret (he B tk)) fun Dk σ H ⟨F, env, o, env', R, hm, fin⟩ => ?_
  show tE _ _ _ _ _ _
  refine thenE R hm (fun v env1 hk => ?_) fin
  cases hk
  cases v with
  | val d => exact fun F1 H1 v R1 s1 x => fin F1 σ H1 v R1 s1 x
  | new ds => exact fun F1 H1 p vs R1 s1 x => fin F1 σ H1 p vs R1 s1 x
theorem es_retN : EvS X (.Return none pos) (fun env => some (.ret (.val .non), env)) := fun B tk => by
  refine PS.mono ps_retN fun Dk σ H ⟨F, env, o, env', R, hm, fin⟩ => ?_
  cases hm
  exact fin F σ H .non R (Same.refl _) .non
def ifM (mt : Mn Bool) (ma mb : Ms) : Ms := thenS mt fun b => if b then ma else mb
theorem es_if {c' : Expr} {p q : List Stmt} {mt : Mn Bool} {ma mb : Ms} (hc : EvT X c' mt) (ha : EvSs X p ma) (hb : EvSs X q mb) : EvS X (.If c' p q pos) (ifM mt ma mb) := fun B tk => by
  refine PS.mono (ps_if (hc B tk) (ha B tk) (hb B tk)) fun Dk σ H ⟨F, env, o, env', R, hm, fin⟩ => ?_
  show tT _ _ _ _ _ _
  refine thenT R hm (fun b env1 hk F1 H1 R1 s1 => ?_) fin
  have fin1 := FinS.mono fin s1
  cases b with
  | true => exact ⟨F1, env1, o, env', R1, hk, fin1⟩
  | false => exact ⟨F1, env1, o, env', R1, hk, fin1⟩
/-- name = e -/
def isLent : Option Sl → Bool
  | some (.lent _) => true
  | _ => false
def putSl (i : Nat) (s : Sl) : En → Option En := fun env => if i < env.length then (if isLent env[i]? then none else some (env.set i s)) else none
theorem putSl_ok {i : Nat} {s : Sl} {env env' : En} (h : putSl i s env = some env') : i < env.length ∧ env' = env.set i s ∧ ∀ ds, env[i]? ≠ some (.lent ds) := by
  unfold putSl at h
  split at h
  · split at h
    · cases h
    · rename_i hi hl
      cases h
      refine ⟨hi, rfl, fun ds z => ?_⟩
      rw [z] at hl
      exact hl rfl
  · cases h
def slOf : RV → Sl
  | .val d => .val d
  | .new ds => .own ds
def setM (i : Nat) (m : Mn RV) : Ms := thenS m fun r env => (putSl i (slOf r) env).map fun env' => (.nx, env')
theorem fin_set {c : Cg} {B : Bs} {F : Hp} {σ : L2.St} {env env' : En} {i : Nat} {r : RV} {Dk : Ends} (hp : putSl i (slOf r) env = some env') (fin : FinS c B F Dk env' .nx) : FinE c B F σ env (fun x H1 => Dk.nx (σ.set i (some x)) H1) (.ok r) := by
  obtain ⟨hi, rfl, nl⟩ := putSl_ok hp
  cases r with
  | val d =>
    intro F1 H1 v R1 s1 x
    exact fin F1 _ H1 (R1.store (by rw [← R1.len]; exact hi) ⟨v, rfl, x⟩ nl (fun ds z => by cases z) (fun p o => by cases o)) s1
  | new ds =>
    intro F1 H1 p vs R1 s1 N
    refine fin F1 _ H1 (R1.store (s := .own ds) (by rw [← R1.len]; exact hi) ⟨p, vs, rfl, N.at_, N.fz, N.dat, N.new⟩ nl (fun ds z => by cases z) (fun p' o z j t hj e1 o1 => ?_)) s1
    cases z
    exact N.free j t e1 o1
theorem es_set {i : Nat} {x : Str} {m : Mn RV} {pos' : Pos} (hN : X.N.Nodup) (hi : X.N[i]? = some x) (hx : Loc X.env.scope x) (he : EvE X e m) (hs : swapsWith e (some (.Name x pos')) pos.line X.env = pure false := by rfl) (hf : X.fn x = true ∨ X.env.scope.names.lookup x = some .local := by first | exact .inl rfl | exact .inr rfl | assumption) :
    EvS X (.Assign [.Name x pos'] e pos) (setM i m) := fun B tk => by
  refine PS.mono (ps_set hN hi hx (he B tk) hs hf) fun Dk σ H ⟨F, env, o, env', R, hm, fin⟩ => ?_
  show tE _ _ _ _ _ _
  refine thenE R hm (fun r env1 hk => ?_) fin
  rw [Option.map_eq_some_iff] at hk
  obtain ⟨env2, hk, e2⟩ := hk
  cases e2
  exact fin_set hk fin
/-- x, y = a, b -/
def parM (i j : Nat) (m : Mn (List D)) : Ms := thenS m fun ds env => match ds with
  | [a, b] => (putSl i (.val a) env).bind fun env1 => (putSl j (.val b) env1).map fun env2 => (.nx, env2)
  | _ => none
theorem Rel.put {c : Cg} {B : Bs} {F H : Hp} {σ : L2.St} {env env' : En} {i : Nat} {v : V} {d : D} (R : Rel c B F σ H env) (hp : putSl i (.val d) env = some env') (x : IsD c F v d) : Rel c B F (σ.set i (some v)) H env' := by
  obtain ⟨hi, rfl, nl⟩ := putSl_ok hp
  exact R.store (by rw [← R.len]; exact hi) ⟨v, rfl, x⟩ nl (fun ds z => by cases z) (fun p o => by cases o)
theorem es_par {i j : Nat} {x y : Str} {a b : Expr} {m : Mn (List D)} {px py pt : Pos} {kt k2 pt2} (hc : X.calm = true) (hN : X.N.Nodup) (hi : X.N[i]? = some x) (hj : X.N[j]? = some y) (hij : i ≠ j)
    (hx : X.env.scope.names.lookup x = some .local) (hy : X.env.scope.names.lookup y = some .local) (ha : EvA X [a, b] m)
    (hw : swappedStores [.Tuple [.Name x px, .Name y py] kt pt] (.Tuple [a, b] k2 pt2) X.env = pure (some [x, y]))
    (hs : swapsWithSole [.Tuple [.Name x px, .Name y py] kt pt] (.Tuple [a, b] k2 pt2) pos.line X.env = pure false := by rfl) :
    EvS X (.Assign [.Tuple [.Name x px, .Name y py] kt pt] (.Tuple [a, b] k2 pt2) pos) (parM i j m) := fun B tk => by
  refine PS.mono (ps_par hc hN hi hj hij hx hy (ha B tk) hw hs) fun Dk σ H ⟨F, env, o, env', R, hm, fin⟩ => ?_
  show tA _ _ _ _ _ _
  refine thenA R hm (fun ds env1 hk F1 H1 vs R1 s1 xs => ?_) fin
  match ds, hk, xs with
  | [da, db], hk, xs =>
    obtain ⟨v, w, rfl, i1, i2⟩ := ds2 xs
    refine ⟨v, w, rfl, ?_⟩
    rw [Option.bind_eq_some_iff] at hk
    obtain ⟨env2, h1, h2⟩ := hk
    rw [Option.map_eq_some_iff] at h2
    obtain ⟨env3, h2, e⟩ := h2
    cases e
    exact fin F1 _ H1 ((R1.put h1 i1).put h2 i2) s1

/-! ### targets -/
/-- only the slots of is are stored -/
def Only (is : List Nat) (σ σ' : L2.St) : Prop := σ'.length = σ.length ∧ ∀ j, j ∉ is → σ'[j]? = σ[j]?
theorem Only.refl (is : List Nat) (σ : L2.St) : Only is σ σ := ⟨rfl, fun _ _ => rfl⟩
theorem Only.trans {is js : List Nat} {σ σ1 σ2 : L2.St} (h : Only is σ σ1) (k : Only js σ1 σ2) : Only (is ++ js) σ σ2 :=
  ⟨k.1.trans h.1, fun j hj => (k.2 j fun z => hj (List.mem_append_right _ z)).trans (h.2 j fun z => hj (List.mem_append_left _ z))⟩
abbrev Bd := D → En → Option En
def EvG (X : Cx) (tg : Expr) (is : List Nat) (g : Bd) : Prop := ∀ B, Takes X B.W → PG X tg fun v σ H Q => ∃ F env d env', Rel (cg X) B F σ H env ∧ IsD (cg X) F v d ∧ g d env = some env' ∧ ∀ σ', Rel (cg X) B F σ' H env' → Only is σ σ' → Q σ' H
abbrev Bds := List D → En → Option En
def EvGs (X : Cx) (tgs : List Expr) (is : List Nat) (g : Bds) : Prop := ∀ B, Takes X B.W → PGs X tgs fun vs σ H Q => ∃ F env ds env', Rel (cg X) B F σ H env ∧ IsDs (cg X) F vs ds ∧ g ds env = some env' ∧ ∀ σ', Rel (cg X) B F σ' H env' → Only is σ σ' → Q σ' H
theorem PG.mono {tg : Expr} {t t' : TG} (h : PG X tg t) (k : ∀ v σ H Q, t' v σ H Q → t v σ H Q) : PG X tg t' := ⟨fun pins s σ H v u Q I r q => h.run pins s σ H v u Q I r (k v σ H Q q)⟩
theorem PGs.mono {tg : List Expr} {t t' : TGs} (h : PGs X tg t) (k : ∀ v σ H Q, t' v σ H Q → t v σ H Q) : PGs X tg t' := ⟨fun pins s σ H v u Q I r q => h.run pins s σ H v u Q I r (k v σ H Q q)⟩
def gN (i : Nat) : Bd := fun d env => putSl i (.val d) env
theorem eg_name {i : Nat} {x : Str} (hN : X.N.Nodup) (hi : X.N[i]? = some x) (hx : Loc X.env.scope x) (hf : X.fn x = true ∨ X.env.scope.names.lookup x = some .local := by first | exact .inl rfl | exact .inr rfl | assumption) : EvG X (.Name x pos) [i] (gN i) := fun B tk => by
  refine PG.mono (pg_name hN hi hx hf) fun v σ H Q ⟨F, env, d, env', R, hd, hg, q⟩ => ?_
  refine q _ (R.put hg hd) ⟨by simp, fun j hj => ?_⟩
  rw [List.getElem?_set_ne (fun z => hj (by simp [z]))]
def gNl : Bds := fun ds env => match ds with
  | [] => some env
  | _ => none
def gCn (g : Bd) (gs : Bds) : Bds := fun ds env => match ds with
  | d :: ds => (g d env).bind fun env1 => gs ds env1
  | _ => none
theorem egs_nil : EvGs X [] [] gNl := fun B tk => by
  refine PGs.mono pgs_nil fun vs σ H Q ⟨F, env, ds, env', R, hd, hg, q⟩ => ?_
  cases hd with
  | nil =>
    cases hg
    exact ⟨rfl, q σ R (Only.refl _ _)⟩
  | cons a b => cases hg
theorem egs_cons {e : Expr} {es : List Expr} {is js : List Nat} {g : Bd} {gs : Bds} (h1 : EvG X e is g) (h2 : EvGs X es js gs) (hs : (assignEach (e :: es) X.env).map (·.2) = assign e X.env :: (assignEach es X.env).map (·.2) := by rfl) : EvGs X (e :: es) (is ++ js) (gCn g gs) := fun B tk => by
  refine PGs.mono (pgs_cons (h1 B tk) (h2 B tk) hs) fun vs σ H Q ⟨F, env, ds, env', R, hd, hg, q⟩ => ?_
  cases hd with
  | nil => cases hg
  | @cons v vs d ds a b =>
    simp only [gCn, Option.bind_eq_some_iff] at hg
    obtain ⟨env1, hg1, hg2⟩ := hg
    exact ⟨v, vs, rfl, F, env, d, env1, R, a, hg1, fun σ1 R1 o1 => ⟨F, env1, ds, env', R1, b, hg2, fun σ2 R2 o2 => q σ2 R2 (o1.trans o2)⟩⟩
def gTp (n : Nat) (gs : Bds) : Bd := fun d env => match d with
  | .tup ds => if ds.length = n then gs ds env else none
  | _ => none
theorem eg_tup {es : List Expr} {k : Nat} {is : List Nat} {gs : Bds} {n : Nat} (hc : X.calm = true) (h : EvGs X es is gs)
    (hn : (assignEach es X.env).length = n := by rfl) (hst : (assignEach es X.env).findIdx? (·.1) = none := by rfl) : EvG X (.Tuple es k pos) is (gTp n gs) := fun B tk => by
  refine PG.mono (pg_tup hc (h B tk) hn hst) fun v σ H Q ⟨F, env, d, env', R, hd, hg, q⟩ => ?_
  cases d with
  | tup ds =>
    obtain ⟨a, xs, rfl, h1, h2⟩ := isTup hd
    simp only [gTp] at hg
    split at hg
    · rename_i hl
      exact ⟨a, xs, rfl, Same.sqT R.sub h1, by rw [IsDs.length h2]; exact hl, F, env, ds, env', R, h2, hg, q⟩
    · cases hg
  | _ => cases hg
/-- a target of any form: t = e -/
def asgM (g : Bd) (m : Mn D) : Ms := thenS m fun d env => (g d env).map fun env' => (.nx, env')
theorem es_asg {tg : Expr} {is : List Nat} {g : Bd} {m : Mn D} (he : EvD X e m) (hg : EvG X tg is g) (hs : swapsWithSole [tg] e pos.line X.env = pure false := by rfl) (hw : swappedStores [tg] e X.env = pure none := by rfl)
    (h1 : (assignEach [tg] X.env).map (·.2) = [assign tg X.env] := by rfl) : EvS X (.Assign [tg] e pos) (asgM g m) := fun B tk => by
  refine PS.mono (ps_asg (he B tk) (hg B tk) hs hw h1) fun Dk σ H ⟨F, env, o, env', R, hm, fin⟩ => ?_
  show tD _ _ _ _ _ _
  refine thenD R hm (fun d env1 hk F1 H1 v R1 s1 x => ?_) fin
  rw [Option.map_eq_some_iff] at hk
  obtain ⟨env2, hk, e2⟩ := hk
  cases e2
  exact ⟨F1, env1, d, _, R1, x, hk, fun σ' R' _ => fin F1 σ' H1 R' s1⟩

/-! ### what is walked -/
structure Yl (c : Cg) (F : Hp) (J : It) (ds : List D) : Prop where
  go : ∀ F' H' (i : Nat), Same F F' → Same F' H' → i < ds.length → J.go i H'
  yld : ∀ F' H' (i : Nat) x H2, Same F F' → Same F' H' → i < ds.length → J.yld i H' x H2 → ∃ d, ds[i]? = some d ∧ ((H2 = H' ∧ IsD c F' x d) ∨ ∃ q u, H' q = none ∧ H2 = upd H' q u ∧ IsD c (upd F' q u) x d)
  stop : ∀ F' H', Same F F' → Same F' H' → J.stop ds.length H'
def FinI (c : Cg) (B : Bs) (F : Hp) (σ : L2.St) (env : En) (R : It → Hp → Prop) : Rs (List D) → Prop
  | .ok ds => ∀ F' H' J, Rel c B F' σ H' env → Same F F' → Yl c F' J ds → R J H'
  | .ex x f => ExE c B F σ env x f
def tI (c : Cg) (B : Bs) (m : Mn (List D)) : TI := fun σ H R => ∃ F env r env', Rel c B F σ H env ∧ m env = some (r, env') ∧ FinI c B F σ env' R r
def EvI (X : Cx) (tg e : Expr) (m : Mn (List D)) : Prop := ∀ B, Takes X B.W → PI X tg e (tI (cg X) B m)
theorem PI.mono {tg e : Expr} {t t' : TI} (h : PI X tg e t) (k : ∀ σ H R, t' σ H R → t σ H R) : PI X tg e t' := ⟨fun pins s σ H R I q => h.run pins s σ H R I (k σ H R q)⟩
theorem yl_list {c : Cg} {F : Hp} {a : Addr} {vs : List V} {ds : List D} (h : SqL c.K F a vs) (hd : IsDs c F vs ds) : Yl c F (Itl c.K a) ds where
  go := fun F' H' i s1 s2 hi => by
    have hv : i < vs.length := by rw [IsDs.length hd]; exact hi
    exact ⟨vs, vs[i], Same.seq (s1.trans s2) h, by simp [hv]⟩
  yld := fun F' H' i x H2 s1 s2 hi ⟨e, y⟩ => by
    obtain ⟨d, h1, h2⟩ := IsDs.at hd (y vs (Same.seq (s1.trans s2) h))
    exact ⟨d, h1, .inl ⟨e, h2.mono s1⟩⟩
  stop := fun F' H' s1 s2 => ⟨vs, Same.seq (s1.trans s2) h, by rw [IsDs.length hd]; exact Nat.le_refl _⟩
theorem yl_tup {c : Cg} {F : Hp} {a : Addr} {vs : List V} {ds : List D} (h : SqT c.K F a vs) (hd : IsDs c F vs ds) : Yl c F (Itt c.K a) ds where
  go := fun F' H' i s1 s2 hi => by
    have hv : i < vs.length := by rw [IsDs.length hd]; exact hi
    exact ⟨vs, vs[i], Same.sqT (s1.trans s2) h, by simp [hv]⟩
  yld := fun F' H' i x H2 s1 s2 hi ⟨e, y⟩ => by
    obtain ⟨d, h1, h2⟩ := IsDs.at hd (y vs (Same.sqT (s1.trans s2) h))
    exact ⟨d, h1, .inl ⟨e, h2.mono s1⟩⟩
  stop := fun F' H' s1 s2 => ⟨vs, Same.sqT (s1.trans s2) h, by rw [IsDs.length hd]; exact Nat.le_refl _⟩
def rngD (lo : Int) (n : Nat) : List D := (List.range n).map fun i => .int (lo + (i : Nat))
theorem yl_rng {c : Cg} {F : Hp} {lo : Int} {n : Nat} : Yl c F (Itr lo n) (rngD lo n) where
  go := fun F' H' i s1 s2 hi => by simpa [rngD, Itr] using hi
  yld := fun F' H' i x H2 s1 s2 hi ⟨e, y⟩ => by
    have hn : i < n := by simpa [rngD] using hi
    exact ⟨.int (lo + (i : Nat)), by simp [rngD, hn], .inl ⟨e, by rw [y]; exact .int _⟩⟩
  stop := fun F' H' s1 s2 => by simp [rngD, Itr]
end
end RW

set_option Elab.async false
set_option linter.all false
set_option maxRecDepth 100000
set_option maxHeartbeats 4000000
/-! RwIter: what loops walk; for, while. -/
namespace RW
open PySem PySem.Spec PyProof.Rows L2

section
variable {c : Cg} {F : Hp}
def chD (x : Str) : List D := x.cps.toList.map fun k => .str ⟨#[k]⟩
theorem yl_str {x : Str} : Yl c F (Its x) (chD x) where
  go := fun F' H' i s1 s2 hi => by simpa [chD, Its] using hi
  yld := fun F' H' i v H2 s1 s2 hi ⟨e, k, h1, h2⟩ => by
    refine ⟨.str ⟨#[k]⟩, ?_, .inl ⟨e, by rw [h2]; exact .str _⟩⟩
    rw [← Array.getElem?_toList] at h1
    simp [chD, h1]
  stop := fun F' H' s1 s2 => by simp [chD, Its]
def enD (ds : List D) : List D := ds.zipIdx.map fun p => .tup [.int (p.2 : Nat), p.1]
theorem yl_enum {a : Addr} {vs : List V} {ds : List D} (h : SqL c.K F a vs) (hd : IsDs c F vs ds) : Yl c F (Ite c.K a) (enD ds) where
  go := fun F' H' i s1 s2 hi => by
    have hv : i < vs.length := by rw [IsDs.length hd]; simpa [enD] using hi
    exact ⟨vs, vs[i], Same.seq (s1.trans s2) h, by simp [hv]⟩
  yld := fun F' H' i v H2 s1 s2 hi ⟨T, x, e1, e2, e3, y⟩ => by
    obtain ⟨d, h1, h2⟩ := IsDs.at hd (y vs (Same.seq (s1.trans s2) h))
    refine ⟨.tup [.int (i : Nat), d], by simp [enD, List.getElem?_zipIdx, h1], .inr ⟨T, _, e2, e3, ?_⟩⟩
    subst e1
    have fr : F' T = none := s2.free e2
    have sn : Same F' (upd F' T (.tup [.int (i : Nat), x])) := fun b u q => by rw [upd_ne (ne_of_none q fr)]; exact q
    exact .tup (.inl (.inl upd_same)) (.cons (.int _) (.cons (h2.mono (s1.trans sn)) .nil))
  stop := fun F' H' s1 s2 => ⟨vs, Same.seq (s1.trans s2) h, by rw [IsDs.length hd]; simp [enD]⟩
def zpD (ds es : List D) : List D := List.zipWith (fun d e => .tup [d, e]) ds es
theorem zp_at {ds es : List D} {i : Nat} {d e : D} (h1 : ds[i]? = some d) (h2 : es[i]? = some e) : (zpD ds es)[i]? = some (.tup [d, e]) := by
  simp [zpD, List.getElem?_zipWith, h1, h2]
theorem yl_zipL {a b : Addr} {vs ws : List V} {ds es : List D} (h : SqL c.K F a vs) (hd : IsDs c F vs ds) (h' : SqL c.K F b ws) (hd' : IsDs c F ws es) : Yl c F (Itz c.K a b) (zpD ds es) where
  go := fun F' H' i s1 s2 hi => by
    have hl : i < ds.length ∧ i < es.length := by simp only [zpD, List.length_zipWith] at hi; omega
    have hv : i < vs.length := by rw [IsDs.length hd]; exact hl.1
    have hw : i < ws.length := by rw [IsDs.length hd']; exact hl.2
    exact ⟨vs, ws, vs[i], ws[i], Same.seq (s1.trans s2) h, Same.seq (s1.trans s2) h', by simp [hv], by simp [hw]⟩
  yld := fun F' H' i v H2 s1 s2 hi ⟨T, x, y, e1, e2, e3, hx, hy⟩ => by
    obtain ⟨d, h1, h2⟩ := IsDs.at hd (hx vs (Same.seq (s1.trans s2) h))
    obtain ⟨e, h3, h4⟩ := IsDs.at hd' (hy ws (Same.seq (s1.trans s2) h'))
    refine ⟨.tup [d, e], zp_at h1 h3, .inr ⟨T, _, e2, e3, ?_⟩⟩
    subst e1
    have fr : F' T = none := s2.free e2
    have sn : Same F' (upd F' T (.tup [x, y])) := fun b u q => by rw [upd_ne (ne_of_none q fr)]; exact q
    exact .tup (.inl (.inl upd_same)) (.cons (h2.mono (s1.trans sn)) (.cons (h4.mono (s1.trans sn)) .nil))
  stop := fun F' H' s1 s2 => ⟨vs, ws, Same.seq (s1.trans s2) h, Same.seq (s1.trans s2) h', by rw [IsDs.length hd, IsDs.length hd']; simp [zpD]; omega⟩
theorem yl_zipT {a b : Addr} {vs ws : List V} {ds es : List D} (h : SqT c.K F a vs) (hd : IsDs c F vs ds) (h' : SqT c.K F b ws) (hd' : IsDs c F ws es) : Yl c F (RZ.ItzT c.K a b) (zpD ds es) where
  go := fun F' H' i s1 s2 hi => by
    have hl : i < ds.length ∧ i < es.length := by simp only [zpD, List.length_zipWith] at hi; omega
    have hv : i < vs.length := by rw [IsDs.length hd]; exact hl.1
    have hw : i < ws.length := by rw [IsDs.length hd']; exact hl.2
    exact ⟨vs, ws, vs[i], ws[i], Same.sqT (s1.trans s2) h, Same.sqT (s1.trans s2) h', by simp [hv], by simp [hw]⟩
  yld := fun F' H' i v H2 s1 s2 hi ⟨T, x, y, e1, e2, e3, hx, hy⟩ => by
    obtain ⟨d, h1, h2⟩ := IsDs.at hd (hx vs (Same.sqT (s1.trans s2) h))
    obtain ⟨e, h3, h4⟩ := IsDs.at hd' (hy ws (Same.sqT (s1.trans s2) h'))
    refine ⟨.tup [d, e], zp_at h1 h3, .inr ⟨T, _, e2, e3, ?_⟩⟩
    subst e1
    have fr : F' T = none := s2.free e2
    have sn : Same F' (upd F' T (.tup [x, y])) := fun b u q => by rw [upd_ne (ne_of_none q fr)]; exact q
    exact .tup (.inl (.inl upd_same)) (.cons (h2.mono (s1.trans sn)) (.cons (h4.mono (s1.trans sn)) .nil))
  stop := fun F' H' s1 s2 => ⟨vs, ws, Same.sqT (s1.trans s2) h, Same.sqT (s1.trans s2) h', by rw [IsDs.length hd, IsDs.length hd']; simp [zpD]; omega⟩
end

section
variable {X : Cx} {tg : Expr}
/-- a list, a tuple, a text -/
def iAny (K : PySem.W.Frag) (tl : TE) : TI := fun σ H R => tl σ H fun x H1 => (∃ a xs, x = .ref a ∧ SqL K H1 a xs ∧ R (Itl K a) H1) ∨ (∃ a xs, x = .ref a ∧ SqT K H1 a xs ∧ R (Itt K a) H1) ∨ (∃ z, x = .str z ∧ R (Its z) H1)
/-- an iterator comes of a value -/
def Comes (X : Cx) (tg : Expr) (v : V) (H : Hp) (R : It → Hp → Prop) : Prop := ∀ (pins : List (Addr × Obj)) (σ : L2.St) (s : Shared) (u : Value), Inv X pins σ H s → RelV v u → wpAny (model X.prog X.w) X.A (pyIter u) (PIE X pins σ tg R) X.xe s
theorem comes_list {a : Addr} {xs : List V} {H : Hp} {R : It → Hp → Prop} (hq : SqL X.K H a xs) (q : R (Itl X.K a) H) : Comes X tg (.ref a) H R := by
  intro pins σ s u I ru
  cases ru
  obtain ⟨its, rv, p, hz⟩ := I.list hq
  refine wpAny_pyIter_list p.isList ⟨s.heap.objs.size, [s.heap.objs.size], _, _, H, rfl, I.kept (t' := s.toks) fun b o e => Heap.get?_push_of_some _ e, turn_list a _, ⟨_, Heap.get?_push_size _ rfl, rfl, rfl⟩, fun b hb => ?_, q⟩
  rw [List.mem_singleton] at hb
  subst hb
  exact I.fpOk (Nat.le_refl _) (I.hok.fresh (Nat.le_refl _))
theorem comes_tup {a : Addr} {xs : List V} {H : Hp} {R : It → Hp → Prop} (hq : SqT X.K H a xs) (q : R (Itt X.K a) H) : Comes X tg (.ref a) H R := by
  intro pins σ s u I ru
  cases ru
  obtain ⟨its, rv, p, hz⟩ := I.tuple hq
  refine wpAny_pyIter_tuple (show s.heap.IsTuple a its.toArray from p) ⟨s.heap.objs.size, [s.heap.objs.size], _, _, H, rfl, I.kept (t' := s.toks) fun b o e => Heap.get?_push_of_some _ e, turn_tuple a _, ⟨_, Heap.get?_push_size _ rfl, rfl, rfl⟩, fun b hb => ?_, q⟩
  rw [List.mem_singleton] at hb
  subst hb
  exact I.fpOk (Nat.le_refl _) (I.hok.fresh (Nat.le_refl _))
theorem comes_str {z : Str} {H : Hp} {R : It → Hp → Prop} (q : R (Its z) H) : Comes X tg (.str z) H R := by
  intro pins σ s u I ru
  obtain ⟨t, rfl⟩ := ru
  cases hz : z.cps.all (· < 128) with
  | false => exact wpAny_pyIter_wide hz (pi_one (tk := s.toks) I _ (turn_str _ z t "str_iterator" (.inr rfl)) ⟨_, Heap.get?_push_size _ rfl, rfl, rfl⟩ q)
  | true => exact wpAny_pyIter_ascii hz (pi_one (tk := s.toks) I _ (turn_str _ z t "str_ascii_iterator" (.inl rfl)) ⟨_, Heap.get?_push_size _ rfl, rfl, rfl⟩ q)
theorem ei_of {e : Expr} {m : Mn D} {k : D → Option (List D)} (he : EvD X e m) (hk : ∀ F H (v : V) (d : D) ds (R : It → Hp → Prop), Same F H → IsD (cg X) F v d → k d = some ds → (∀ J, Yl (cg X) F J ds → R J H) → Comes X tg v H R) : EvI X tg e (m.bind fun d => .lift (k d)) := fun B tk => by
  refine ⟨fun pins s σ H R I ⟨F, env, r, env', Rl, hm, fin⟩ => ?_⟩
  rcases bind_cases hm with ⟨d, env1, h1, h2⟩ | ⟨x, f, h1, rfl⟩
  · obtain ⟨ds, e1, rfl, rfl⟩ := lift_cases h2
    refine thn ((he B tk).run pins s σ H (fun v H1 => Comes X tg v H1 R) I ⟨F, env, _, _, Rl, h1, fun F1 H1 v R1 s1 x => hk F1 H1 v d ds R R1.sub x e1 fun J y => fin F1 H1 J R1 s1 y⟩) fun u s1 ⟨v, H1, I1, r1, q1⟩ => q1 pins σ s1 u I1 r1
  · exact thn ((he B tk).run pins s σ H (fun v H1 => Comes X tg v H1 R) I ⟨F, env, _, _, Rl, h1, fin⟩) fun u s1 ⟨v, H1, I1, r1, q1⟩ => q1 pins σ s1 u I1 r1
def seqOf : D → Option (List D)
  | .lst ds => some ds
  | .tup ds => some ds
  | .str z => some (chD z)
  | _ => none
def walkM (m : Mn D) : Mn (List D) := m.bind fun d => .lift (seqOf d)
theorem ei_any {e : Expr} {m : Mn D} (he : EvD X e m) : EvI X tg e (walkM m) := ei_of he fun F H v d ds R s x e q => by
  cases d with
  | lst l =>
    cases e
    obtain ⟨a, vs, rfl, h1, h2⟩ := isLst x
    exact comes_list (Same.seq s h1) (q _ (yl_list h1 h2))
  | tup l =>
    cases e
    obtain ⟨a, vs, rfl, h1, h2⟩ := isTup x
    exact comes_tup (Same.sqT s h1) (q _ (yl_tup h1 h2))
  | str z =>
    cases e
    cases x
    exact comes_str (q _ yl_str)
  | _ => cases e
def rng1M (ma : Mn (List D)) : Mn (List D) := ma.bind fun ds => match ds with
  | [.int j] => if -(2 ^ 62) ≤ j ∧ j < 2 ^ 62 then .ret (rngD 0 j.toNat) else fun _ => none
  | _ => fun _ => none
theorem bindI {c : Cg} {B : Bs} {F H : Hp} {σ : L2.St} {env env' : En} {m : Mn (List D)} {k : List D → Mn (List D)} {r : Rs (List D)} {R : It → Hp → Prop} (Rl : Rel c B F σ H env) (h : m.bind k env = some (r, env')) {K : List V → Hp → Prop}
    (ok : ∀ ds env1, k ds env1 = some (r, env') → ∀ F1 H1 vs, Rel c B F1 σ H1 env1 → Same F F1 → IsDs c F1 vs ds → K vs H1)
    (fin : FinI c B F σ env' R r) : tA c B m σ H K := by
  rcases bind_cases h with ⟨d, env1, h1, h2⟩ | ⟨x, f, h1, rfl⟩
  · exact ⟨F, env, _, _, Rl, h1, fun F1 H1 vs R1 s1 x => ok d env1 h2 F1 H1 vs R1 s1 x⟩
  · exact ⟨F, env, _, _, Rl, h1, fin⟩
theorem ei_range1 {a : Expr} {ma : Mn (List D)} {p pos : Pos} (hg : Gl X "range") (hm : X.mg "range" = none) (ha : EvA X [a] ma) (hs : starEach [a] X.env = [(false, eval a X.env)] := by rfl) : EvI X tg (.Call (.Name "range" p) [a] [] pos) (rng1M ma) := fun B tk => by
  refine PI.mono (pi_range1 hg hm (ha B tk) hs) fun σ H R ⟨F, env, r, env', Rl, hm, fin⟩ => ?_
  refine bindI Rl hm (fun ds env1 hk F1 H1 vs R1 s1 xs => ?_) fin
  match ds, hk, xs with
  | [.int j], hk, xs =>
    obtain ⟨v, rfl, x⟩ := ds1 xs
    cases x
    simp only at hk
    split at hk
    · rename_i hj
      cases hk
      exact ⟨j, rfl, hj.1, hj.2, fin F1 H1 _ R1 s1 yl_rng⟩
    · cases hk
def rng2M (ma : Mn (List D)) : Mn (List D) := ma.bind fun ds => match ds with
  | [.int i, .int j] => if (-(2 ^ 62) ≤ i ∧ i < 2 ^ 62) ∧ -(2 ^ 62) ≤ j ∧ j < 2 ^ 62 then .ret (rngD i (j - i).toNat) else fun _ => none
  | _ => fun _ => none
theorem ei_range2 {a b : Expr} {ma : Mn (List D)} {p pos : Pos} (hg : Gl X "range") (hm : X.mg "range" = none) (ha : EvA X [a, b] ma) (hs : starEach [a, b] X.env = [(false, eval a X.env), (false, eval b X.env)] := by rfl) (hs2 : starEach [b] X.env = [(false, eval b X.env)] := by rfl) : EvI X tg (.Call (.Name "range" p) [a, b] [] pos) (rng2M ma) := fun B tk => by
  refine PI.mono (pi_range2 hg hm (ha B tk) hs hs2) fun σ H R ⟨F, env, r, env', Rl, hm, fin⟩ => ?_
  refine bindI Rl hm (fun ds env1 hk F1 H1 vs R1 s1 xs => ?_) fin
  match ds, hk, xs with
  | [.int i, .int j], hk, xs =>
    obtain ⟨v, w, rfl, x, y⟩ := ds2 xs
    cases x
    cases y
    simp only at hk
    split at hk
    · rename_i hj
      cases hk
      exact ⟨i, j, rfl, ⟨hj.1.1, hj.1.2, hj.2.1, hj.2.2⟩, fin F1 H1 _ R1 s1 yl_rng⟩
    · cases hk
def enumM (ma : Mn (List D)) : Mn (List D) := ma.bind fun ds => match ds with
  | [.lst l] => .ret (enD l)
  | _ => fun _ => none
theorem ei_enum {e : Expr} {ma : Mn (List D)} {p pos tpos : Pos} {elts : List Expr} {kk : Nat} (hg : Gl X "enumerate") (hm : X.mg "enumerate" = none) (ha : EvA X [e] ma) (hs : starEach [e] X.env = [(false, eval e X.env)] := by rfl) :
    EvI X (.Tuple elts kk tpos) (.Call (.Name "enumerate" p) [e] [] pos) (enumM ma) := fun B tk => by
  refine PI.mono (pi_enum hg hm (ha B tk) hs) fun σ H R ⟨F, env, r, env', Rl, hm, fin⟩ => ?_
  refine bindI Rl hm (fun ds env1 hk F1 H1 vs R1 s1 xs => ?_) fin
  match ds, hk, xs with
  | [.lst l], hk, xs =>
    obtain ⟨v, rfl, x⟩ := ds1 xs
    cases hk
    obtain ⟨a, ws, rfl, h1, h2⟩ := isLst x
    exact ⟨a, ws, rfl, Same.seq R1.sub h1, fin F1 H1 _ R1 s1 (yl_enum h1 h2)⟩
def zipM (ma : Mn (List D)) : Mn (List D) := ma.bind fun ds => match ds with
  | [.lst l, .lst k] => .ret (zpD l k)
  | [.tup l, .tup k] => .ret (zpD l k)
  | _ => fun _ => none
theorem ei_zip {e e2 : Expr} {ma : Mn (List D)} {p pos tpos : Pos} {elts : List Expr} {kk : Nat} (hg : Gl X "zip") (hm : X.mg "zip" = none) (ha : EvA X [e, e2] ma)
    (hs : starEach [e, e2] X.env = (false, eval e X.env) :: starEach [e2] X.env := by rfl) (hpl : (backTo pos (starEach [e2] X.env)).any (·.1) = false := by rfl) :
    EvI X (.Tuple elts kk tpos) (.Call (.Name "zip" p) [e, e2] [] pos) (zipM ma) := fun B tk => by
  refine PI.mono (RZ.pi_zipA hg hm (ha B tk) hs hpl) fun σ H R ⟨F, env, r, env', Rl, hm, fin⟩ => ?_
  refine bindI Rl hm (fun ds env1 hk F1 H1 vs R1 s1 xs => ?_) fin
  match ds, hk, xs with
  | [.lst l, .lst k], hk, xs =>
    obtain ⟨v, w, rfl, x, y⟩ := ds2 xs
    cases hk
    obtain ⟨a, vs, rfl, h1, h2⟩ := isLst x
    obtain ⟨b, ws, rfl, h3, h4⟩ := isLst y
    exact ⟨a, b, vs, ws, rfl, .inl ⟨Same.seq R1.sub h1, Same.seq R1.sub h3, fin F1 H1 _ R1 s1 (yl_zipL h1 h2 h3 h4)⟩⟩
  | [.tup l, .tup k], hk, xs =>
    obtain ⟨v, w, rfl, x, y⟩ := ds2 xs
    cases hk
    obtain ⟨a, vs, rfl, h1, h2⟩ := isTup x
    obtain ⟨b, ws, rfl, h3, h4⟩ := isTup y
    exact ⟨a, b, vs, ws, rfl, .inr ⟨Same.sqT R1.sub h1, Same.sqT R1.sub h3, fin F1 H1 _ R1 s1 (yl_zipT h1 h2 h3 h4)⟩⟩

/-! ### for -/
def forGo (g : Bd) (body : Ms) : List D → Ms
  | [], env => some (.nx, env)
  | d :: ds, env => match g d env with
    | none => none
    | some env1 => match body env1 with
      | some (.nx, env2) => forGo g body ds env2
      | some (.cnt, env2) => forGo g body ds env2
      | some (.brk, env2) => some (.nx, env2)
      | r => r
def forM' (src : Mn (List D)) (g : Bd) (body : Ms) : Ms := thenS src fun ds => forGo g body ds
/-- a yielded value is there -/
theorem Rel.yield {c : Cg} {B : Bs} {F H H2 : Hp} {σ : L2.St} {env : En} {x : V} {d : D} (R : Rel c B F σ H env) (h : (H2 = H ∧ IsD c F x d) ∨ ∃ q u, H q = none ∧ H2 = upd H q u ∧ IsD c (upd F q u) x d) : ∃ F2, Rel c B F2 σ H2 env ∧ Same F F2 ∧ IsD c F2 x d := by
  rcases h with ⟨rfl, h⟩ | ⟨q, u, hq, rfl, h⟩
  · exact ⟨F, R, Same.refl _, h⟩
  · obtain ⟨R2, s2⟩ := R.newF (o := u) hq
    exact ⟨_, R2, s2, h⟩
theorem es_for {iter : Expr} {body : List Stmt} {ms : Mn (List D)} {is : List Nat} {g : Bd} {mb : Ms} {pos : Pos} (hp : PassesOwn (model X.prog X.w) X.A X.env X.xe) (hc : X.calm = true) (hi : EvI X tg iter ms) (hg : EvG X tg is g) (hb : EvSs X body mb)
    (hs : ∀ x, foldedSetIterable iter X.env x = pure x := by intro _; rfl) : EvS X (.For tg iter body [] pos) (forM' ms g mb) := fun B tk => by
  refine PS.mono (ps_for hp hc (hi B tk) (hg B tk) (hb B tk) hs) fun Dk σ H ⟨F, env, o, env', R, hm, fin⟩ => ?_
  show tI _ _ _ _ _ _
  rcases thenS_cases hm with ⟨ds, env1, h1, h2⟩ | ⟨x, f, h1, rfl⟩
  · refine ⟨F, env, _, _, R, h1, fun F1 H1 J R1 s1 y => ?_⟩
    have fin1 := FinS.mono fin s1
    refine ⟨fun i m σ' H' => m = ds.length - i ∧ i ≤ ds.length ∧ ∃ F' ev, Rel (cg X) B F' σ' H' ev ∧ Same F1 F' ∧ forGo g mb (ds.drop i) ev = some (o, env'), ⟨ds.length, by simp, Nat.zero_le _, F1, env1, R1, Same.refl _, by simpa using h2⟩, ?_⟩
    rintro i m σ' H' ⟨rfl, hi', F', ev, R', s', hgo⟩
    by_cases hlt : i < ds.length
    · refine .inr ⟨y.go F' H' i s' R'.sub hlt, fun σ2 H2 => ∃ F2 ev2, Rel (cg X) B F2 σ2 H2 ev2 ∧ Same F1 F2 ∧ forGo g mb (ds.drop (i + 1)) ev2 = some (o, env'), fun σ2 H2 q => ⟨ds.length - (i + 1), by omega, rfl, hlt, q⟩, fun x H2 yl => ?_⟩
      obtain ⟨d, hd, q⟩ := y.yld F' H' i x H2 s' R'.sub hlt yl
      obtain ⟨F2, R2, s2, hx⟩ := R'.yield q
      have e0 : ds.drop i = d :: ds.drop (i + 1) := by
        rw [List.drop_eq_getElem_cons hlt]
        congr 1
        rw [List.getElem?_eq_getElem hlt] at hd
        exact Option.some.inj hd
      rw [e0] at hgo
      unfold forGo at hgo
      cases eg : g d ev with
      | none => rw [eg] at hgo; cases hgo
      | some ev1 =>
        rw [eg] at hgo
        simp only at hgo
        refine ⟨F2, ev, d, ev1, R2, hx, eg, fun σ3 R3 _ => ?_⟩
        cases eb : mb ev1 with
        | none => rw [eb] at hgo; cases hgo
        | some p =>
          obtain ⟨ob, ev2⟩ := p
          rw [eb] at hgo
          refine ⟨F2, ev1, ob, ev2, R3, eb, ?_⟩
          have fin2 := FinS.mono fin1 (s'.trans s2)
          cases ob with
          | nx => exact fun F4 σ4 H4 R4 s4 => ⟨F4, ev2, R4, (s'.trans s2).trans s4, hgo⟩
          | cnt => exact fun F4 σ4 H4 R4 s4 => ⟨F4, ev2, R4, (s'.trans s2).trans s4, hgo⟩
          | brk =>
            cases hgo
            exact fin2
          | ret r =>
            cases hgo
            cases r with
            | val d => exact fin2
            | new l => exact fin2
          | ex x f =>
            cases hgo
            exact fin2
    · have e : i = ds.length := by omega
      subst e
      rw [List.drop_length] at hgo
      cases hgo
      exact .inl ⟨y.stop F' H' s' R'.sub, FinS.mono fin1 s' F' σ' H' R' (Same.refl _)⟩
  · exact ⟨F, env, _, _, R, h1, fin σ⟩
/-! ### while -/
def whileGo (mt : Mn Bool) (mb : Ms) : Nat → Ms
  | 0, _ => none
  | n + 1, env => match mt env with
    | none => none
    | some (.ex x f, env1) => some (.ex x f, env1)
    | some (.ok false, env1) => some (.nx, env1)
    | some (.ok true, env1) => match mb env1 with
      | some (.nx, env2) => whileGo mt mb n env2
      | some (.cnt, env2) => whileGo mt mb n env2
      | some (.brk, env2) => some (.nx, env2)
      | r => r
theorem es_while {c' : Expr} {body : List Stmt} {mt : Mn Bool} {mb : Ms} {pos : Pos} (n : Nat) (hp : PassesOwn (model X.prog X.w) X.A X.env X.xe) (hc : EvT X c' mt) (hb : EvSs X body mb) : EvS X (.While c' body [] pos) (whileGo mt mb n) := fun B tk => by
  refine PS.mono (ps_while hp (hc B tk) (hb B tk)) fun Dk σ H ⟨F, env, o, env', R, hm, fin⟩ => ?_
  refine ⟨fun m σ' H' => ∃ F' ev, Rel (cg X) B F' σ' H' ev ∧ Same F F' ∧ whileGo mt mb m ev = some (o, env'), ⟨n, F, env, R, Same.refl _, hm⟩, ?_⟩
  rintro m σ' H' ⟨F', ev, R', s', hgo⟩
  cases m with
  | zero => cases hgo
  | succ m =>
    unfold whileGo at hgo
    have fin1 := FinS.mono fin s'
    cases et : mt ev with
    | none => rw [et] at hgo; cases hgo
    | some p =>
      obtain ⟨rt, ev1⟩ := p
      rw [et] at hgo
      refine ⟨F', ev, rt, ev1, R', et, ?_⟩
      cases rt with
      | ex x f =>
        cases hgo
        exact fin1 σ'
      | ok b =>
        intro F2 H2 R2 s2
        have fin2 := FinS.mono fin1 s2
        cases b with
        | false =>
          cases hgo
          exact fin2 F2 σ' H2 R2 (Same.refl _)
        | true =>
          simp only [if_true]
          refine ⟨fun σ3 H3 => ∃ F3 ev3, Rel (cg X) B F3 σ3 H3 ev3 ∧ Same F F3 ∧ whileGo mt mb m ev3 = some (o, env'), fun σ3 H3 q => ⟨m, Nat.lt_succ_self _, q⟩, ?_⟩
          simp only at hgo
          cases eb : mb ev1 with
          | none => rw [eb] at hgo; cases hgo
          | some p =>
            obtain ⟨ob, ev2⟩ := p
            rw [eb] at hgo
            refine ⟨F2, ev1, ob, ev2, R2, eb, ?_⟩
            cases ob with
            | nx => exact fun F4 σ4 H4 R4 s4 => ⟨F4, ev2, R4, (s'.trans s2).trans s4, hgo⟩
            | cnt => exact fun F4 σ4 H4 R4 s4 => ⟨F4, ev2, R4, (s'.trans s2).trans s4, hgo⟩
            | brk =>
              cases hgo
              exact fin2
            | ret r =>
              cases hgo
              cases r with
              | val d => exact fin2
              | new l => exact fin2
            | ex x f =>
              cases hgo
              exact fin2
end
end RW

set_option Elab.async false
set_option linter.all false
set_option maxRecDepth 100000
set_option maxHeartbeats 4000000
/-! RwComp: list comprehensions; lists frozen ahead, lists thawed, lists of one's own changed. -/
namespace RW
open PySem PySem.Spec PyProof.Rows L2

section
variable {c : Cg} {B : Bs} {F F' H H' : Hp} {σ σ' : L2.St} {env env' : En}
def Sl.hide : Sl → Sl
  | .own _ => .no
  | .lent _ => .no
  | s => s
/-- a block's slots at the start of each turn -/
def wipeE (env : En) : List Nat → En
  | [] => env.map Sl.hide
  | v :: vs => (wipeE env vs).set v .no
/-- from here on, nothing that stands may be changed -/
abbrev noW : Value → Option Addr → L2.St → Hp → Prop := fun _ _ _ _ => False
abbrev Bs.still (H F : Hp) : Bs := ⟨H, F, fun _ => False, [], noW⟩
theorem Rel.still (R : Rel c B F σ H env) : Rel c (Bs.still H F) F σ H (env.map Sl.hide) where
  sub := R.sub
  sub0 := Same.refl _
  frm := fun a o e _ => ⟨e, rfl⟩
  len := by simp [R.len]
  sl := fun i s e => by
    rw [List.getElem?_map] at e
    cases q : env[i]? with
    | none => rw [q] at e; cases e
    | some s0 =>
      rw [q] at e
      have e : s0.hide = s := by simpa using e
      subst e
      have k := R.sl i s0 q
      cases s0 with
      | no => trivial
      | val d => exact k
      | own ds => trivial
      | lent ds => trivial
      | rd ds =>
        obtain ⟨p, vs, a, b, d, e⟩ := k
        refine ⟨p, vs, a, ?_, fun z => z, e⟩
        rcases b with b | ⟨o, b⟩
        · exact .inl (R.frm p _ b d).1
        · exact .inr ⟨o, (R.frm p _ b d).1⟩
  inj := fun i j s t p e1 e2 o1 o2 => by
    rw [List.getElem?_map] at e1
    cases q : env[i]? with
    | none => rw [q] at e1; cases e1
    | some s0 =>
      rw [q] at e1
      have e1 : s0.hide = s := by simpa using e1
      subst e1
      cases s0 <;> cases o1
  lnt := fun q hq => by cases hq
theorem Rel.stillW (R : Rel c B F σ H env) : ∀ vs : List Nat, Rel c (Bs.still H F) F (wipe σ vs) H (wipeE env vs)
  | [] => R.still
  | v :: vs => by
    have ih := Rel.stillW R vs
    unfold wipe wipeE
    have nl : ∀ ds, (wipeE env vs)[v]? ≠ some (.lent ds) := by
      have : ∀ (ws : List Nat) (i : Nat) ds, (wipeE env ws)[i]? ≠ some (.lent ds) := by
        intro ws
        induction ws with
        | nil =>
          intro i ds z
          unfold wipeE at z
          rw [List.getElem?_map] at z
          cases q : env[i]? with
          | none => rw [q] at z; cases z
          | some s0 =>
            rw [q] at z
            cases s0 <;> simp [Sl.hide] at z
        | cons w ws ih =>
          intro i ds z
          unfold wipeE at z
          by_cases h : w = i
          · subst h
            by_cases hl : w < (wipeE env ws).length
            · rw [List.getElem?_set_self hl] at z
              cases z
            · rw [List.set_eq_of_length_le (by omega)] at z
              exact ih w ds z
          · rw [List.getElem?_set_ne h] at z
            exact ih i ds z
      exact this vs v
    by_cases hv : v < (wipe σ vs).length
    · exact ih.store (s := .no) hv trivial nl (fun ds z => by cases z) (fun p o => by cases o)
    · rw [List.set_eq_of_length_le (by omega), List.set_eq_of_length_le (by rw [ih.len]; omega)]
      exact ih
/-- behind code that changed nothing that stood -/
theorem Rel.after (R : Rel c B F σ H env) (sH : Same H H') (sub : Same F' H') (sF : Same F F') (fr : ∀ a o, H a = some o → F' a = F a) : Rel c B F' σ H' env where
  sub := sub
  sub0 := fun b u e => sF _ _ (R.sub0 _ _ e)
  frm := fun a o e no => by
    obtain ⟨h1, h2⟩ := R.frm a o e no
    exact ⟨sH _ _ h1, by rw [fr a o h1]; exact h2⟩
  len := R.len
  sl := fun i s e => by
    have k := R.sl i s e
    cases s with
    | no => trivial
    | val d => obtain ⟨v, a, b⟩ := k; exact ⟨v, a, b.mono sF⟩
    | own ds => obtain ⟨p, vs, a, b, d, e, f⟩ := k; exact ⟨p, vs, a, sH _ _ b, by rw [fr p _ b]; exact d, e.mono sF, f⟩
    | lent ds => obtain ⟨p, vs, a, b, d, e, f⟩ := k; exact ⟨p, vs, a, sH _ _ b, by rw [fr p _ b]; exact d, e.mono sF, f⟩
    | rd ds => obtain ⟨p, vs, a, b, d, e⟩ := k; exact ⟨p, vs, a, b, d, e.mono sF⟩
  inj := R.inj
  lnt := R.lnt
theorem Rel.after' {σ2 : L2.St} {env2 : En} (R : Rel c B F σ H env) (S : Rel c (Bs.still H F) F' σ2 H' env2) (sF : Same F F') : Rel c B F' σ H' env :=
  R.after (fun a o e => (S.frm a o e (fun z => z)).1) S.sub sF fun a o e => (S.frm a o e (fun z => z)).2
/-- an object that nobody owns yet is changed -/
theorem Rel.write {p : Addr} {o o' : HO} (R : Rel c B F σ H env) (hp : H p = some o) (hF : F p = none) (fr : Free σ env p) (mi : B.mine p) : Rel c B F σ (upd H p o') env where
  sub := fun b u e => by
    have : b ≠ p := fun z => by rw [z, hF] at e; cases e
    rw [upd_ne this]
    exact R.sub _ _ e
  sub0 := R.sub0
  frm := fun a u e no => by
    obtain ⟨h1, h2⟩ := R.frm a u e no
    have : a ≠ p := fun z => by
      rw [z] at e no
      rcases mi with m | m
      · rw [m] at e; cases e
      · exact no m
    exact ⟨by rw [upd_ne this]; exact h1, h2⟩
  len := R.len
  sl := fun i s e => by
    have k := R.sl i s e
    cases s with
    | no => trivial
    | val d => exact k
    | own ds =>
      obtain ⟨p', vs, a, b, d, e', f⟩ := k
      exact ⟨p', vs, a, by rw [upd_ne (fun z => fr i _ e rfl (by rw [a, z]))]; exact b, d, e', f⟩
    | lent ds =>
      obtain ⟨p', vs, a, b, d, e', f⟩ := k
      exact ⟨p', vs, a, by rw [upd_ne (fun z => fr i _ e rfl (by rw [a, z]))]; exact b, d, e', f⟩
    | rd ds => exact k
  inj := R.inj
  lnt := R.lnt
theorem wipe_only {σ σ2 : L2.St} {is vs : List Nat} (h : Only is (wipe σ vs) σ2) (hs : ∀ i ∈ is, i ∈ vs) : wipe σ2 vs = wipe σ vs := by
  refine List.ext_getElem? fun j => ?_
  by_cases hj : j ∈ vs
  · have key : ∀ (τ : L2.St) (ws : List Nat), j ∈ ws → (wipe τ ws)[j]? = if j < τ.length then some none else none := by
      intro τ ws
      induction ws with
      | nil => intro h; cases h
      | cons w ws ih =>
        intro hm
        unfold wipe
        by_cases hw : w = j
        · subst hw
          by_cases hl : w < τ.length
          · rw [if_pos hl, List.getElem?_set_self (by rw [wipe_length]; exact hl)]
          · rw [if_neg hl, List.getElem?_eq_none (by rw [List.length_set, wipe_length]; omega)]
        · rw [List.getElem?_set_ne hw]
          exact ih ((List.mem_cons.mp hm).resolve_left fun z => hw z.symm)
    rw [key σ2 vs hj, key σ vs hj, h.1, wipe_length]
  · rw [wipe_out hj, h.2 j fun z => hj (hs j z)]
end

section
variable {X : Cx}
/-! ### [elt for target in iter if ..] -/
def lcGo (g : Bd) (tt : Mn Bool) (te : Mn D) (base : En) : List D → List D → Option (List D)
  | [], acc => some acc
  | d :: ds, acc => match g d base with
    | none => none
    | some e1 => match tt e1 with
      | some (.ok true, e2) => (match te e2 with
        | some (.ok y, _) => lcGo g tt te base ds (acc ++ [y])
        | _ => none)
      | some (.ok false, _) => lcGo g tt te base ds acc
      | _ => none
def lcM (src : Mn (List D)) (g : Bd) (tt : Mn Bool) (te : Mn D) (own : List Nat) : Mn RV := src.bind fun ds env => if ds.length ≤ sizeLine then (lcGo g tt te (wipeE env own) ds []).map fun l => (.ok (.new l), env) else none
/-- a clause's tests -/
def EvTs (X : Cx) (ifs : List Expr) (m : Mn Bool) : Prop := ∀ B, Takes X B.W → PTs X ifs (tT (cg X) B m)
theorem ets_nil : EvTs X [] (.ret true) := fun B tk => ⟨fun pins s σ H Q I ⟨F, env, r, env', R, hm, fin⟩ => by
  cases hm
  exact pts_nil.run pins s σ H Q I (fin F H R (Same.refl _))⟩
theorem ets_one {e : Expr} {m : Mn Bool} (h : EvT X e m) : EvTs X [e] m := fun B tk => pts_one (h B tk)
def gX (c : Cg) (is : List Nat) (g : Bd) : TG := fun v σ H Q => ∃ B' F env d env', B'.W = noW ∧ Rel c B' F σ H env ∧ IsD c F v d ∧ g d env = some env' ∧ ∀ σ', Rel c B' F σ' H env' → Only is σ σ' → Q σ' H
def tX (c : Cg) (m : Mn Bool) : TT := fun σ H Q => ∃ B', B'.W = noW ∧ tT c B' m σ H Q
def eX (c : Cg) (m : Mn D) : TE := fun σ H Q => ∃ B', B'.W = noW ∧ tD c B' m σ H Q
theorem takes0' {X : Cx} {W : WX} (h : W = noW) : Takes X W := by
  subst h
  exact takes0
theorem lc_ok {c : Cg} {B : Bs} {F1 H1 : Hp} {σ : L2.St} {env1 : En} {J : It} {ds res : List D} {g : Bd} {tt : Mn Bool} {te : Mn D} {own is : List Nat} {Q : VK} (R1 : Rel c B F1 σ H1 env1) (y : Yl c F1 J ds) (hz : ds.length ≤ sizeLine)
    (hgo : lcGo g tt te (wipeE env1 own) ds [] = some res) (hs : ∀ i ∈ is, i ∈ own) (fin : FinE c B F1 σ env1 Q (.ok (.new res))) :
    ∀ A, H1 A = none → ∃ W : Nat → Nat → Hp → Prop, (∃ m, W 0 m (upd H1 A (.lst []))) ∧ ∀ i m H, W i m H → (J.stop i H ∧ Q (.ref A) H) ∨ (J.go i H ∧ ∃ Nx : Hp → Prop, (∀ H', Nx H' → ∃ m', m' < m ∧ W (i + 1) m' H') ∧
      ∀ x H', J.yld i H x H' → gX c is g x (wipe σ own) H' fun σ2 H2 => wipe σ2 own = wipe σ own ∧ tX c tt σ2 H2 fun b H3 => if b = true then eX c te σ2 H3 fun y H4 => ∃ acc, H4 A = some (.lst acc) ∧ acc.length < sizeLine ∧ Nx (upd H4 A (.lst (acc ++ [y]))) else Nx H3) := by
  intro A hA
  have fA := free_new R1 hA
  have mA := mine_new R1 hA
  refine ⟨fun i m H => m = ds.length - i ∧ i ≤ ds.length ∧ ∃ F' acc accd, Rel c B F' σ H env1 ∧ Same F1 F' ∧ H A = some (.lst acc) ∧ F' A = none ∧ IsDs c F' acc accd ∧ accd.length ≤ i ∧ lcGo g tt te (wipeE env1 own) (ds.drop i) accd = some res,
    ⟨ds.length, by simp, Nat.zero_le _, F1, [], [], R1.newO hA, Same.refl _, upd_same, R1.sub.free hA, .nil, Nat.le_refl _, by simpa using hgo⟩, ?_⟩
  rintro i m H ⟨rfl, hi, F', acc, accd, R, s, hH, hF, hd, hl, hgo'⟩
  by_cases hlt : i < ds.length
  · refine .inr ⟨y.go F' H i s R.sub hlt, fun H2 => ∃ F2 acc2 accd2, Rel c B F2 σ H2 env1 ∧ Same F1 F2 ∧ H2 A = some (.lst acc2) ∧ F2 A = none ∧ IsDs c F2 acc2 accd2 ∧ accd2.length ≤ i + 1 ∧ lcGo g tt te (wipeE env1 own) (ds.drop (i + 1)) accd2 = some res,
      fun H2 q => ⟨ds.length - (i + 1), by omega, rfl, hlt, q⟩, fun x H2 yl => ?_⟩
    obtain ⟨d, hdi, q⟩ := y.yld F' H i x H2 s R.sub hlt yl
    have hA2 : H2 A = some (.lst acc) := by
      rcases q with ⟨rfl, _⟩ | ⟨p, u, hp, rfl, _⟩
      · exact hH
      · rw [upd_ne (ne_of_none hH hp)]; exact hH
    obtain ⟨F2, R2, s2, hx⟩ : ∃ F2, Rel c B F2 σ H2 env1 ∧ (Same F' F2 ∧ F2 A = none) ∧ IsD c F2 x d := by
      rcases q with ⟨rfl, h⟩ | ⟨p, u, hp, rfl, h⟩
      · exact ⟨F', R, ⟨Same.refl _, hF⟩, h⟩
      · obtain ⟨R2, s2⟩ := R.newF (o := u) hp
        exact ⟨_, R2, ⟨s2, by rw [upd_ne (ne_of_none hH hp)]; exact hF⟩, h⟩
    obtain ⟨s2, hF2⟩ := s2
    have e0 : ds.drop i = d :: ds.drop (i + 1) := by
      rw [List.drop_eq_getElem_cons hlt]
      congr 1
      rw [List.getElem?_eq_getElem hlt] at hdi
      exact Option.some.inj hdi
    rw [e0] at hgo'
    unfold lcGo at hgo'
    cases eg : g d (wipeE env1 own) with
    | none => rw [eg] at hgo'; cases hgo'
    | some e1 =>
      rw [eg] at hgo'
      simp only at hgo'
      have RB := R2.stillW own
      refine ⟨Bs.still H2 F2, F2, wipeE env1 own, d, e1, rfl, RB, hx, eg, fun σ3 R3 o3 => ⟨wipe_only o3 hs, Bs.still H2 F2, rfl, ?_⟩⟩
      cases et : tt e1 with
      | none => rw [et] at hgo'; cases hgo'
      | some p =>
        obtain ⟨rt, e2⟩ := p
        rw [et] at hgo'
        cases rt with
        | ex x f => cases hgo'
        | ok b =>
          refine ⟨F2, e1, .ok b, e2, R3, et, fun F4 H4 R4 s4 => ?_⟩
          have R4' := R2.after' R4 s4
          have hA4 := (R4.frm A _ hA2 (fun z => z))
          cases b with
          | false =>
            simp only [Bool.false_eq_true, if_false]
            exact ⟨F4, acc, accd, R4', (s.trans s2).trans s4, hA4.1, by rw [hA4.2]; exact hF2, hd.mono (s2.trans s4), Nat.le_succ_of_le hl, hgo'⟩
          | true =>
            simp only [if_true]
            refine ⟨Bs.still H2 F2, rfl, ?_⟩
            simp only at hgo'
            cases ee : te e2 with
            | none => rw [ee] at hgo'; cases hgo'
            | some p =>
              obtain ⟨re, e3⟩ := p
              rw [ee] at hgo'
              cases re with
              | ex x f => cases hgo'
              | ok dy =>
                refine ⟨F4, e2, .ok dy, e3, R4, ee, fun F5 H5 v R5 s5 ix => ?_⟩
                have R5' := R2.after' R5 (s4.trans s5)
                have hA5 := (R5.frm A _ hA2 (fun z => z))
                have hF5 : F5 A = none := by rw [hA5.2]; exact hF2
                refine ⟨acc, hA5.1, by rw [IsDs.length hd]; omega, F5, acc ++ [v], accd ++ [dy], R5'.write hA5.1 hF5 fA mA, ((s.trans s2).trans s4).trans s5, upd_same, hF5, IsDs.append (.cons ix .nil) (hd.mono ((s2.trans s4).trans s5)), ?_, hgo'⟩
                simp
                omega
  · have e : i = ds.length := by omega
    subst e
    rw [List.drop_length] at hgo'
    cases hgo'
    exact .inl ⟨y.stop F' H s R.sub, fin F' H A acc R s ⟨hH, hF, hd, mA, fA⟩⟩
theorem ee_lc {elt tg iter : Expr} {ifs : List Expr} {scope : Scope} {own : List (Str × Nat)} {pos : Pos} {src : Mn (List D)} {is : List Nat} {g : Bd} {tt : Mn Bool} {te : Mn D} (hc : X.calm = true) (hN : X.N.Nodup) (hi : EvI X tg iter src) (ok : BlkOk X.N X.env.scope scope own)
    (hg : ∀ (s : Shared) (H : Hp) (C : Addr) (cl : List (Str × Addr)) (fp : List Addr), EvG (X.blk s H scope (compEnvC scope cl C X.env) fp) tg is g)
    (ht : ∀ (s : Shared) (H : Hp) (C : Addr) (cl : List (Str × Addr)) (fp : List Addr), EvTs (X.blk s H scope (compEnvC scope cl C X.env) fp) ifs tt)
    (he : ∀ (s : Shared) (H : Hp) (C : Addr) (cl : List (Str × Addr)) (fp : List Addr), EvD (X.blk s H scope (compEnvC scope cl C X.env) fp) elt te)
    (hio : ∀ i ∈ is, i ∈ own.map (·.2)) (hs : ∀ x, foldedSetIterable iter X.env x = pure x := by intro _; rfl) :
    EvE X (.ListComp elt [⟨tg, iter, ifs, 0⟩] scope pos) (lcM src g tt te (own.map (·.2))) := fun B tk => by
  have P := pe_lc (pos := pos) (wi := tI (cg X) B src) (g := gX (cg X) is g) (tt := tX (cg X) tt) (te := eX (cg X) te) hc hN (hi B tk) ok
    (fun s H C cl fp => ⟨fun pins s' σ H' v u Q I r ⟨B', F, env, d, env', w, q⟩ => (hg s H C cl fp B' (takes0' w)).run pins s' σ H' v u Q I r ⟨F, env, d, env', q⟩⟩)
    (fun s H C cl fp => ⟨fun pins s' σ H' Q I ⟨B', w, q⟩ => (ht s H C cl fp B' (takes0' w)).run pins s' σ H' Q I q⟩)
    (fun s H C cl fp => ⟨fun pins s' σ H' Q I ⟨B', w, q⟩ => (he s H C cl fp B' (takes0' w)).run pins s' σ H' Q I q⟩) hs
  refine PE.mono P fun σ H Q ⟨F, env, r, env', R, hm, fin⟩ => ?_
  show tI _ _ _ _ _ _
  rcases bind_cases hm with ⟨ds, env1, h1, h2⟩ | ⟨x, f, h1, rfl⟩
  · refine ⟨F, env, _, _, R, h1, fun F1 H1 J R1 s1 y => ?_⟩
    split at h2
    · rename_i hz
      rw [Option.map_eq_some_iff] at h2
      obtain ⟨res, hgo, e⟩ := h2
      cases e
      exact lc_ok R1 y hz hgo hio (FinE.mono fin s1)
    · cases h2
  · exact ⟨F, env, _, _, R, h1, fin⟩
theorem es_setLc {i : Nat} {y : Str} {py : Pos} {elt tg iter : Expr} {ifs : List Expr} {scope : Scope} {own : List (Str × Nat)} {pos spos : Pos} {src : Mn (List D)} {is : List Nat} {g : Bd} {tt : Mn Bool} {te : Mn D} (hc : X.calm = true) (hN : X.N.Nodup) (hy : X.N[i]? = some y) (hyl : X.env.scope.names.lookup y = some .local)
    (hsw : swapsWith (.ListComp elt [⟨tg, iter, ifs, 0⟩] scope pos) (some (.Name y py)) spos.line X.env = pure true) (hi : EvI X tg iter src) (ok : BlkOk X.N X.env.scope scope own)
    (hg : ∀ (s : Shared) (H : Hp) (C : Addr) (cl : List (Str × Addr)) (fp : List Addr), EvG (X.blk s H scope (compEnvC scope cl C X.env) fp) tg is g)
    (ht : ∀ (s : Shared) (H : Hp) (C : Addr) (cl : List (Str × Addr)) (fp : List Addr), EvTs (X.blk s H scope (compEnvC scope cl C X.env) fp) ifs tt)
    (he : ∀ (s : Shared) (H : Hp) (C : Addr) (cl : List (Str × Addr)) (fp : List Addr), EvD (X.blk s H scope (compEnvC scope cl C X.env) fp) elt te)
    (hio : ∀ i ∈ is, i ∈ own.map (·.2)) (hs : ∀ x, foldedSetIterable iter X.env x = pure x := by intro _; rfl) :
    EvS X (.Assign [.Name y py] (.ListComp elt [⟨tg, iter, ifs, 0⟩] scope pos) spos) (setM i (lcM src g tt te (own.map (·.2)))) := fun B tk => by
  have P := ps_setLc (i := i) (wi := tI (cg X) B src) (g := gX (cg X) is g) (tt := tX (cg X) tt) (te := eX (cg X) te) hc hN hy hyl hsw (hi B tk) ok
    (fun s H C cl fp => ⟨fun pins s' σ H' v u Q I r ⟨B', F, env, d, env', w, q⟩ => (hg s H C cl fp B' (takes0' w)).run pins s' σ H' v u Q I r ⟨F, env, d, env', q⟩⟩)
    (fun s H C cl fp => ⟨fun pins s' σ H' Q I ⟨B', w, q⟩ => (ht s H C cl fp B' (takes0' w)).run pins s' σ H' Q I q⟩)
    (fun s H C cl fp => ⟨fun pins s' σ H' Q I ⟨B', w, q⟩ => (he s H C cl fp B' (takes0' w)).run pins s' σ H' Q I q⟩) hs
  refine PS.mono P fun Dk σ H ⟨F, env, o, env', R, hm, fin⟩ => ?_
  show tI _ _ _ _ _ _
  rcases thenS_cases hm with ⟨r, env1, h1, h2⟩ | ⟨x, f, h1, rfl⟩
  · rw [Option.map_eq_some_iff] at h2
    obtain ⟨env3, hp, e⟩ := h2
    cases e
    rcases bind_cases h1 with ⟨ds, env2, h3, h4⟩ | ⟨x, f, h3, e⟩
    · refine ⟨F, env, _, _, R, h3, fun F1 H1 J R1 s1 y => ?_⟩
      split at h4
      · rename_i hz
        rw [Option.map_eq_some_iff] at h4
        obtain ⟨res, hgo, e⟩ := h4
        cases e
        exact lc_ok R1 y hz hgo hio (fin_set hp (FinS.mono fin s1))
      · cases h4
    · cases e
  · rcases bind_cases h1 with ⟨ds, env2, h3, h4⟩ | ⟨x', f', h3, e⟩
    · split at h4
      · rw [Option.map_eq_some_iff] at h4
        obtain ⟨_, _, e⟩ := h4
        cases e
      · cases h4
    · cases e
      exact ⟨F, env, _, _, R, h3, fin σ⟩
end

/-! ### lists frozen ahead; thawed behind -/
def frzE (i : Nat) : En → Option En := fun env => match env[i]? with
  | some (.own ds) => some (env.set i (.val (.lst ds)))
  | some (.val _) => some env
  | _ => none
theorem Rel.frz {c : Cg} {B : Bs} {F H : Hp} {σ : L2.St} {env : En} {i : Nat} {ds : List D} (R : Rel c B F σ H env) (e : env[i]? = some (.own ds)) :
    ∃ p vs, σ.getD i none = some (.ref p) ∧ H p = some (.lst vs) ∧ F p = none ∧ IsDs c F vs ds ∧ B.mine p ∧ Rel c B (upd F p (.lst vs)) σ H (env.set i (.val (.lst ds))) ∧ Same F (upd F p (.lst vs)) := by
  obtain ⟨p, vs, hv, hp, hf, hd, mi⟩ := R.sl i _ e
  have nl := own_not_lent e (fun ds z => by cases z)
  have hi : i < env.length := (List.getElem?_eq_some_iff.mp e).1
  obtain ⟨R2, s2⟩ := (R.forget nl).freeze (o := .lst vs) hp hf (R.own_free e rfl hv) mi
  have hD : IsD c (upd F p (.lst vs)) (.ref p) (.lst ds) := .lst (.inl (.inl upd_same)) (hd.mono s2)
  have R3 := R2.store (i := i) (x := some (.ref p)) (s := .val (.lst ds)) (by rw [← R.len]; exact hi) ⟨_, rfl, hD⟩ (fun ds z => by rw [List.getElem?_set_self hi] at z; cases z) (fun ds z => by cases z) (fun p' o => by cases o)
  rw [set_self hv, List.set_set] at R3
  exact ⟨p, vs, hv, hp, hf, hd, mi, R3, s2⟩
theorem Rel.pre {c : Cg} {B : Bs} {F H : Hp} {σ : L2.St} {env env1 : En} {i : Nat} (R : Rel c B F σ H env) (h : frzE i env = some env1) : ∃ F1, Rel c B F1 σ H env1 ∧ Same F F1 := by
  unfold frzE at h
  split at h
  · rename_i ds e
    cases h
    obtain ⟨p, vs, _, _, _, _, _, R2, s2⟩ := R.frz e
    exact ⟨_, R2, s2⟩
  · cases h
    exact ⟨F, R, Same.refl _⟩
  · cases h
section
variable {X : Cx}
def preM {α : Type} (i : Nat) (m : Mn α) : Mn α := fun env => (frzE i env).bind m
def preS (i : Nat) (m : Ms) : Ms := fun env => (frzE i env).bind m
theorem ee_pre {e : Expr} {m : Mn RV} (i : Nat) (h : EvE X e m) : EvE X e (preM i m) := fun B tk => by
  refine PE.mono (h B tk) fun σ H Q ⟨F, env, r, env', R, hm, fin⟩ => ?_
  obtain ⟨env1, h1, h2⟩ := Option.bind_eq_some_iff.mp hm
  obtain ⟨F1, R1, s1⟩ := R.pre h1
  exact ⟨F1, env1, r, env', R1, h2, FinE.mono fin s1⟩
theorem et_pre {e : Expr} {m : Mn Bool} (i : Nat) (h : EvT X e m) : EvT X e (preM i m) := fun B tk => by
  refine PT.mono (h B tk) fun σ H Q ⟨F, env, r, env', R, hm, fin⟩ => ?_
  obtain ⟨env1, h1, h2⟩ := Option.bind_eq_some_iff.mp hm
  obtain ⟨F1, R1, s1⟩ := R.pre h1
  exact ⟨F1, env1, r, env', R1, h2, FinT.mono fin s1⟩
theorem es_pre {st : Stmt} {m : Ms} (i : Nat) (h : EvS X st m) : EvS X st (preS i m) := fun B tk => by
  refine PS.mono (h B tk) fun Dk σ H ⟨F, env, r, env', R, hm, fin⟩ => ?_
  obtain ⟨env1, h1, h2⟩ := Option.bind_eq_some_iff.mp hm
  obtain ⟨F1, R1, s1⟩ := R.pre h1
  exact ⟨F1, env1, r, env', R1, h2, FinS.mono fin s1⟩
theorem ess_pre {st : List Stmt} {m : Ms} (i : Nat) (h : EvSs X st m) : EvSs X st (preS i m) := fun B tk => by
  refine PSs.mono (h B tk) fun Dk σ H ⟨F, env, r, env', R, hm, fin⟩ => ?_
  obtain ⟨env1, h1, h2⟩ := Option.bind_eq_some_iff.mp hm
  obtain ⟨F1, R1, s1⟩ := R.pre h1
  exact ⟨F1, env1, r, env', R1, h2, FinS.mono fin s1⟩
end
end RW

set_option Elab.async false
set_option linter.all false
set_option maxRecDepth 100000
set_option maxHeartbeats 4000000
/-! RwOwn: lists of one's own: thawed, read in place, changed. -/
namespace RW
open PySem PySem.Spec PyProof.Rows L2

mutual
def noLst : D → Bool
  | .non => true
  | .bl _ => true
  | .int _ => true
  | .str _ => true
  | .tup ds => noLsts ds
  | .lst _ => false
  | .set _ => false
  | .dct _ _ => false
  | .ins _ _ => false
def noLsts : List D → Bool
  | [] => true
  | d :: ds => noLst d && noLsts ds
end
def del (F : Hp) (p : Addr) : Hp := fun a => if a = p then none else F a
theorem del_ne {F : Hp} {p a : Addr} (h : a ≠ p) : del F p a = F a := by simp [del, h]
theorem del_same {F : Hp} {p : Addr} : del F p p = none := by simp [del]
mutual
theorem IsD.del {c : Cg} {F : Hp} {p : Addr} {ws : List V} (hp : F p = some (.lst ws)) : ∀ {d : D} {v : V}, IsD c F v d → noLst d = true → IsD c (RW.del F p) v d
  | _, _, .non, _ => .non
  | _, _, .bl b, _ => .bl b
  | _, _, .int i, _ => .int i
  | _, _, .str x, _ => .str x
  | _, _, .tup (a := a) h1 h2, h => by
    refine .tup ?_ (IsDs.del hp h2 (by simpa [noLst] using h))
    rcases h1 with (h1 | ⟨o, h1⟩) | h1
    · exact .inl (.inl (by rw [del_ne (fun z => by rw [z, hp] at h1; cases h1)]; exact h1))
    · exact .inl (.inr ⟨o, by rw [del_ne (fun z => by rw [z, hp] at h1; cases h1)]; exact h1⟩)
    · exact .inr h1
  | _, _, .lst _ _, h => by simp [noLst] at h
  | _, _, .setK _ _ _ _, h => by simp [noLst] at h
  | _, _, .setS _, h => by simp [noLst] at h
  | _, _, .dctK _ _ _ _ _ _, h => by simp [noLst] at h
  | _, _, .ins _ _ _ _ _ _, h => by simp [noLst] at h
  | _, _, .exc _ _ _ _ _ _, h => by simp [noLst] at h
  | _, _, .dctM _ _, h => by simp [noLst] at h
theorem IsDs.del {c : Cg} {F : Hp} {p : Addr} {ws : List V} (hp : F p = some (.lst ws)) : ∀ {ds : List D} {vs : List V}, IsDs c F vs ds → noLsts ds = true → IsDs c (RW.del F p) vs ds
  | _, _, .nil, _ => .nil
  | _, _, .cons a b, h => by
    simp only [noLsts, Bool.and_eq_true] at h
    exact .cons (IsD.del hp a h.1) (IsDs.del hp b h.2)
end
def Sl.flat : Sl → Bool
  | .own ds => noLsts ds
  | .lent ds => noLsts ds
  | _ => true
def flatBut (i : Nat) (env : En) : Bool := (env.set i .no).all Sl.flat
section
variable {c : Cg} {B : Bs} {F F' H H' : Hp} {σ σ' : L2.St} {env env' : En}
theorem Rel.thaw {i : Nat} {p : Addr} {vs : List V} {ds : List D} (R : Rel c B F σ H env) (e : env[i]? = some (.own ds)) (hv : σ.getD i none = some (.ref p)) (hF : F p = none) (hd : IsDs c F vs ds) (mi : B.mine p)
    (R' : Rel c B F' σ H' (env.set i (.val (.lst ds)))) (s : Same (upd F p (.lst vs)) F') (fl : flatBut i env = true) : Rel c B (del F' p) σ H' env ∧ Same F (del F' p) := by
  have hp : F' p = some (.lst vs) := s _ _ upd_same
  have sF : Same F (del F' p) := fun a u q => by
    have : a ≠ p := fun z => by rw [z, hF] at q; cases q
    rw [del_ne this]
    exact s _ _ (by rw [upd_ne this]; exact q)
  have hi : i < env.length := (List.getElem?_eq_some_iff.mp e).1
  have flat : ∀ (j : Nat) t, j ≠ i → env[j]? = some t → t.flat = true := fun j t hj q => by
    unfold flatBut at fl
    rw [List.all_eq_true] at fl
    refine fl t (List.mem_of_getElem? (i := j) ?_)
    rw [List.getElem?_set_ne (Ne.symm hj)]
    exact q
  refine ⟨⟨fun a u q => ?_, fun a u q => sF _ _ (R.sub0 _ _ q), fun a u q no => ?_, R.len, fun j t q => ?_, R.inj, R.lnt⟩, sF⟩
  · by_cases h : a = p
    · subst h; rw [del_same] at q; cases q
    · rw [del_ne h] at q; exact R'.sub _ _ q
  · obtain ⟨h1, h2⟩ := R'.frm a u q no
    have : a ≠ p := fun z => by
      rw [z] at q no
      rcases mi with m | m
      · rw [m] at q; cases q
      · exact no m
    exact ⟨h1, by rw [del_ne this]; exact h2⟩
  · by_cases hj : j = i
    · subst hj
      rw [e] at q
      cases q
      exact ⟨p, vs, hv, R'.sub _ _ hp, del_same, hd.mono sF, mi⟩
    · have k := R.sl j t q
      have k' := R'.sl j t (by rw [List.getElem?_set_ne (Ne.symm hj)]; exact q)
      have ft := flat j t hj q
      cases t with
      | no => trivial
      | val d => obtain ⟨v, a, b⟩ := k; exact ⟨v, a, b.mono sF⟩
      | own es =>
        obtain ⟨p', ws, a, b, d, e', f⟩ := k'
        have ne : p' ≠ p := fun z => by rw [z, hp] at d; cases d
        exact ⟨p', ws, a, b, by rw [del_ne ne]; exact d, IsDs.del hp e' ft, f⟩
      | lent es =>
        obtain ⟨p', ws, a, b, d, e', f⟩ := k'
        have ne : p' ≠ p := fun z => by rw [z, hp] at d; cases d
        exact ⟨p', ws, a, b, by rw [del_ne ne]; exact d, IsDs.del hp e' ft, f⟩
      | rd es => obtain ⟨p', ws, a, b, d, e'⟩ := k; exact ⟨p', ws, a, b, d, e'.mono sF⟩
/-- a list of one's own is changed -/
def reSl : Sl → List D → Sl
  | .own _, es => .own es
  | .lent _, es => .lent es
  | s, _ => s
def ownOf : Option Sl → Option (List D)
  | some (.own ds) => some ds
  | some (.lent ds) => some ds
  | _ => none
def putO (i : Nat) (es : List D) (env : En) : En := match env[i]? with
  | some s => env.set i (reSl s es)
  | none => env
theorem Rel.ownAt {i : Nat} {ds : List D} (R : Rel c B F σ H env) (h : ownOf env[i]? = some ds) : ∃ p vs, σ[i]? = some (some (.ref p)) ∧ H p = some (.lst vs) ∧ F p = none ∧ IsDs c F vs ds := by
  cases e : env[i]? with
  | none => rw [e] at h; cases h
  | some s =>
    rw [e] at h
    have k := R.sl i s e
    cases s with
    | own l => cases h; obtain ⟨p, vs, a, b, d, f, g⟩ := k; exact ⟨p, vs, slot_at a, b, d, f⟩
    | lent l => cases h; obtain ⟨p, vs, a, b, d, f, g⟩ := k; exact ⟨p, vs, slot_at a, b, d, f⟩
    | _ => cases h
theorem Rel.rewrite {i : Nat} {p : Addr} {ds es : List D} {ys : List V} (R : Rel c B F σ H env) (h : ownOf env[i]? = some ds) (hv : σ[i]? = some (some (.ref p))) (hy : IsDs c F ys es) : Rel c B F σ (upd H p (.lst ys)) (putO i es env) := by
  cases e : env[i]? with
  | none => rw [e] at h; cases h
  | some s =>
    rw [e] at h
    have o : s.owns = true := by cases s <;> first | rfl | cases h
    have hv' : σ.getD i none = some (.ref p) := by rw [List.getD_eq_getElem?_getD, hv]; rfl
    obtain ⟨p', vs, a, b, d, mi⟩ := Sl.addr_of (R.sl i s e) o
    rw [hv'] at a
    cases a
    have hi : i < env.length := (List.getElem?_eq_some_iff.mp e).1
    have e0 : putO i es env = env.set i (reSl s es) := by unfold putO; rw [e]
    rw [e0]
    have e1 : (env.set i (reSl s es))[i]? = some (reSl s es) := by simp [hi]
    have e2 : ∀ j, j ≠ i → (env.set i (reSl s es))[j]? = env[j]? := fun j hj => List.getElem?_set_ne (Ne.symm hj)
    have ro : (reSl s es).owns = true := by cases s <;> first | rfl | cases o
    have back : ∀ (j : Nat) t, (env.set i (reSl s es))[j]? = some t → t.owns = true → ∃ t', env[j]? = some t' ∧ t'.owns = true := fun j t q ot => by
      by_cases hj : j = i
      · subst hj; exact ⟨s, e, o⟩
      · rw [e2 j hj] at q; exact ⟨t, q, ot⟩
    refine ⟨fun a u q => ?_, R.sub0, fun a u q no => ?_, by simp [R.len], fun j t q => ?_, fun j k t u p1 q1 q2 o1 o2 a1 a2 => ?_, fun q hq => ?_⟩
    · have : a ≠ p := fun z => by rw [z, d] at q; cases q
      rw [upd_ne this]
      exact R.sub _ _ q
    · obtain ⟨h1, h2⟩ := R.frm a u q no
      have : a ≠ p := fun z => by
        rw [z] at q no
        rcases mi with m | m
        · rw [m] at q; cases q
        · exact no m
      exact ⟨by rw [upd_ne this]; exact h1, h2⟩
    · by_cases hj : j = i
      · subst hj
        rw [e1] at q
        cases q
        have k := R.sl j s e
        cases s with
        | own l => obtain ⟨p', ws, a, b', d', f, g⟩ := k; rw [hv'] at a; cases a; exact ⟨p, ys, hv', upd_same, d, hy, g⟩
        | lent l => obtain ⟨p', ws, a, b', d', f, g⟩ := k; rw [hv'] at a; cases a; exact ⟨p, ys, hv', upd_same, d, hy, g⟩
        | _ => cases o
      · rw [e2 j hj] at q
        have k := R.sl j t q
        cases t with
        | no => trivial
        | val d => exact k
        | own l =>
          obtain ⟨p', ws, a, b', d', f, g⟩ := k
          exact ⟨p', ws, a, by rw [upd_ne (fun z => hj (R.inj j i _ s p q e rfl o (by rw [a, z]) hv'))]; exact b', d', f, g⟩
        | lent l =>
          obtain ⟨p', ws, a, b', d', f, g⟩ := k
          exact ⟨p', ws, a, by rw [upd_ne (fun z => hj (R.inj j i _ s p q e rfl o (by rw [a, z]) hv'))]; exact b', d', f, g⟩
        | rd l => exact k
    · obtain ⟨t', f1, f2⟩ := back j t q1 o1
      obtain ⟨u', f3, f4⟩ := back k u q2 o2
      exact R.inj j k t' u' p1 f1 f3 f2 f4 a1 a2
    · obtain ⟨h1, l, h2⟩ := R.lnt q hq
      refine ⟨h1, ?_⟩
      by_cases hj : q.1 = i
      · rw [hj] at h2
        rw [e] at h2
        cases h2
        exact ⟨es, by rw [hj, e1]; rfl⟩
      · exact ⟨l, by rw [e2 _ hj]; exact h2⟩
end
section
variable {X : Cx}
def thawM (i : Nat) (m : Mn RV) : Mn RV := fun env => match env[i]? with
  | some (.own ds) => (match m (env.set i (.val (.lst ds))) with
    | some (.ok (.val d), env') => if env' = env.set i (.val (.lst ds)) ∧ noLst d = true ∧ flatBut i env = true then some (.ok (.val d), env) else none
    | _ => none)
  | _ => none
def thawT (i : Nat) (m : Mn Bool) : Mn Bool := fun env => match env[i]? with
  | some (.own ds) => (match m (env.set i (.val (.lst ds))) with
    | some (.ok b, env') => if env' = env.set i (.val (.lst ds)) ∧ flatBut i env = true then some (.ok b, env) else none
    | _ => none)
  | _ => none
theorem ee_thaw {e : Expr} {m : Mn RV} (i : Nat) (h : EvE X e m) : EvE X e (thawM i m) := fun B tk => by
  refine PE.mono (h B tk) fun σ H Q ⟨F, env, r, env', R, hm, fin⟩ => ?_
  unfold thawM at hm
  split at hm
  · rename_i ds e
    split at hm
    · rename_i d env1 h1
      split at hm
      · rename_i hc
        cases hm
        obtain ⟨rfl, hn, fl⟩ := hc
        obtain ⟨p, vs, hv, hp, hF, hd, mi, R2, s2⟩ := R.frz e
        refine ⟨_, _, _, _, R2, h1, fun F3 H3 v R3 s3 x => ?_⟩
        obtain ⟨R4, s4⟩ := R.thaw e hv hF hd mi R3 s3 fl
        exact fin _ H3 v R4 s4 (IsD.del (s3 _ _ upd_same) x hn)
      · cases hm
    · cases hm
  · cases hm
theorem et_thaw {e : Expr} {m : Mn Bool} (i : Nat) (h : EvT X e m) : EvT X e (thawT i m) := fun B tk => by
  refine PT.mono (h B tk) fun σ H Q ⟨F, env, r, env', R, hm, fin⟩ => ?_
  unfold thawT at hm
  split at hm
  · rename_i ds e
    split at hm
    · rename_i d env1 h1
      split at hm
      · rename_i hc
        cases hm
        obtain ⟨rfl, fl⟩ := hc
        obtain ⟨p, vs, hv, hp, hF, hd, mi, R2, s2⟩ := R.frz e
        refine ⟨_, _, _, _, R2, h1, fun F3 H3 R3 s3 => ?_⟩
        obtain ⟨R4, s4⟩ := R.thaw e hv hF hd mi R3 s3 fl
        exact fin _ H3 R4 s4
      · cases hm
    · cases hm
  · cases hm
/-! ### reading in place, storing, appending, popping -/
theorem pre_get {c : Cg} {B : Bs} {F H : Hp} {σ : L2.St} {env : En} {i : Nat} {p : Addr} {β : Type} : True := trivial
/-- the slot's value is there, whatever its list is -/
def hasO (i : Nat) (env : En) : Bool := (ownOf env[i]?).isSome
def ixO (i : Nat) (mb : Mn D) : Mn RV := fun env => if hasO i env then (mb.bind fun y env1 => (ownOf env1[i]?).bind fun ds => (ixV (.lst ds) y).map fun r => (.ok r, env1)) env else none
theorem hasO_at {i : Nat} {env : En} (h : hasO i env = true) : ∃ ds, ownOf env[i]? = some ds := by
  unfold hasO at h
  exact Option.isSome_iff_exists.mp h
theorem ee_ixO {i : Nat} {x : Str} {b : Expr} {mb : Mn D} {px pos : Pos} (hv : PE X (.Name x px) (tVar i)) (hb : EvD X b mb) (hs : PlainIx b) : EvE X (.Subscript (.Name x px) b pos) (ixO i mb) := fun B tk => by
  refine PE.mono (pe_ix ix_seq hv (hb B tk) hs) fun σ H Q ⟨F, env, r, env', R, hm, fin⟩ => ?_
  unfold ixO at hm
  split at hm
  · rename_i h
    obtain ⟨ds0, h0⟩ := hasO_at h
    obtain ⟨p, vs0, hs0, _⟩ := R.ownAt h0
    refine ⟨_, hs0, ?_⟩
    refine bindD R hm (fun dy env1 hk F1 H1 y R1 s1 iy => ?_) (exE fin)
    obtain ⟨ds, h1, h2⟩ := Option.bind_eq_some_iff.mp hk
    obtain ⟨rv, h3, h4⟩ := Option.map_eq_some_iff.mp h2
    cases h4
    obtain ⟨p', vs, hs1, hp, hF, hd⟩ := R1.ownAt h1
    rw [hs0] at hs1
    cases hs1
    cases dy with
    | int k =>
      cases iy
      simp only [ixV, Option.map_eq_some_iff] at h3
      obtain ⟨d, h3, rfl⟩ := h3
      obtain ⟨v, hv, hdv⟩ := atI_data hd h3
      exact .inl ⟨p, vs, k, v, rfl, rfl, .inl (.inl hp), hv, FinE.mono fin s1 F1 H1 v R1 (Same.refl _) hdv⟩
    | _ => cases h3
  · cases hm
def setI (i : Nat) (m mk : Mn D) : Ms := thenS m fun d env => if hasO i env then (thenS mk fun k env1 => (ownOf env1[i]?).bind fun ds => match k with
  | .int k => (ixN ds.length k).map fun j => (.nx, putO i (ds.set j d) env1)
  | _ => none) env else none
theorem IsDs.set {c : Cg} {F : Hp} {v : V} {d : D} (hv : IsD c F v d) : ∀ {vs : List V} {ds : List D} (j : Nat), IsDs c F vs ds → IsDs c F (vs.set j v) (ds.set j d)
  | _, _, _, .nil => by simpa using IsDs.nil
  | _, _, 0, .cons a b => .cons hv b
  | _, _, j + 1, .cons a b => .cons a (IsDs.set hv j b)
theorem es_setI {i : Nat} {x : Str} {b e : Expr} {m mk : Mn D} {px p2 pos : Pos} (hv : PE X (.Name x px) (tVar i)) (he : EvD X e m) (hb : EvD X b mk)
    (ha : ∀ v, assign (.Subscript (.Name x px) b p2) X.env v = (do
      let ov ← holding [v] (eval (.Name x px) X.env)
      let iv ← holding [v, ov] (eval b X.env)
      standAt p2
      holding [v, ov, iv] (setItem ov iv v)
      release [v, ov, iv] []) := by intro _; rfl)
    (hs : swapsWithSole [.Subscript (.Name x px) b p2] e pos.line X.env = pure false := by rfl) (hw : swappedStores [.Subscript (.Name x px) b p2] e X.env = pure none := by rfl)
    (h1 : (assignEach [.Subscript (.Name x px) b p2] X.env).map (·.2) = [assign (.Subscript (.Name x px) b p2) X.env] := by rfl) : EvS X (.Assign [.Subscript (.Name x px) b p2] e pos) (setI i m mk) := fun B tk => by
  refine PS.mono (ps_asg (he B tk) (pg_sub hv (hb B tk) set_list ha) hs hw h1) fun Dk σ H ⟨F, env, o, env', R, hm, fin⟩ => ?_
  show tD _ _ _ _ _ _
  refine thenD R hm (fun d env1 hk F1 H1 v R1 s1 xv => ?_) fin
  have fin1 := FinS.mono fin s1
  split at hk
  · rename_i h
    obtain ⟨ds0, h0⟩ := hasO_at h
    obtain ⟨p, vs0, hs0, _⟩ := R1.ownAt h0
    refine ⟨_, hs0, ?_⟩
    refine thenD R1 hk (fun k env2 hk2 F2 H2 y R2 s2 iy => ?_) fin1
    obtain ⟨ds, h1, h2⟩ := Option.bind_eq_some_iff.mp hk2
    cases k with
    | int k =>
      obtain ⟨j, h3, h4⟩ := Option.map_eq_some_iff.mp h2
      cases h4
      cases iy
      obtain ⟨p', vs, hs1, hp, hF, hd⟩ := R2.ownAt h1
      rw [hs0] at hs1
      cases hs1
      refine ⟨p, vs, k, j, rfl, rfl, hp, by rw [IsDs.length hd]; exact h3, ?_⟩
      exact fin1 F2 σ _ (R2.rewrite h1 hs0 (IsDs.set (xv.mono s2) j hd)) s2
    | _ => cases h2
  · cases hk
def appM (i : Nat) (m : Mn (List D)) : Mn RV := fun env => if hasO i env then (m.bind fun as env1 => (ownOf env1[i]?).bind fun ds => match as with
  | [d] => if ds.length < sizeLine then some (.ok (.val .non), putO i (ds ++ [d]) env1) else none
  | _ => none) env else none
theorem tyV_list {K : PySem.W.Frag} {p : Addr} {H : Hp} {vs : List V} (h : H p = some (.lst vs)) : tyV K "list" (.ref p) H := .inl ⟨rfl, vs, .inl (.inl h)⟩
theorem ee_app {i : Nat} {x : Str} {e : Expr} {m : Mn (List D)} {px apos cpos : Pos} (hv : PE X (.Name x px) (tVar i)) (ha : EvA X [e] m)
    (hbase : attributeBase (.Name x px) "append" X.env (eval (.Name x px) X.env) = eval (.Name x px) X.env := by rfl)
    (hfew : ((backTo cpos (starEach [e] X.env)).all (fun x => !x.1) && (backToKw cpos (keywordEach [] X.env)).all (fun x => x.1.isSome)
      && decide (([e] : List Expr).length + ([] : List Keyword).length + (if ([] : List Keyword).isEmpty then 0 else 1) < 30)) = true := by rfl)
    (hline : (apos.endLine == cpos.line) = true := by rfl) (hs : starEach [e] X.env = (false, eval e X.env) :: starEach [] X.env := by rfl) (hplain : (backTo cpos (starEach [] X.env)).any (·.1) = false := by rfl) :
    EvE X (.Call (.Attribute (.Name x px) "append" apos) [e] [] cpos) (appM i m) := fun B tk => by
  refine PE.mono (pe_bm PySem.F.plainAttrs_list PySem.F.slot_list_append PySem.F.type_list_append mt_append hv (ha B tk) hbase hfew hline hs hplain) fun σ H Q ⟨F, env, r, env', R, hm, fin⟩ => ?_
  unfold appM at hm
  split at hm
  · rename_i h
    obtain ⟨ds0, h0⟩ := hasO_at h
    obtain ⟨p, vs0, hs0, hp0, _⟩ := R.ownAt h0
    refine ⟨_, hs0, tyV_list hp0, ?_⟩
    refine bindA R hm (fun as env1 hk F1 H1 ys R1 s1 iy => ?_) (exE fin)
    obtain ⟨ds, h1, h2⟩ := Option.bind_eq_some_iff.mp hk
    match as, h2, iy with
    | [d], h2, iy =>
      obtain ⟨y, rfl, id⟩ := ds1 iy
      simp only at h2
      split at h2
      · rename_i hz
        cases h2
        obtain ⟨p', vs, hs1, hp, hF, hd⟩ := R1.ownAt h1
        rw [hs0] at hs1
        cases hs1
        refine ⟨p, vs, y, rfl, rfl, hp, by rw [IsDs.length hd]; exact hz, ?_⟩
        exact FinE.mono fin s1 F1 _ .non (R1.rewrite h1 hs0 (IsDs.append (.cons id .nil) hd)) (Same.refl _) .non
      · cases h2
  · cases hm
def popM (i : Nat) (m : Mn (List D)) : Mn RV := fun env => if hasO i env then (m.bind fun as env1 => (ownOf env1[i]?).bind fun ds => match as with
  | [.int k] => if -(2 ^ 63) ≤ k ∧ k < 2 ^ 63 then (seqIndex? k ds.length).bind fun j => (ds[j]?).map fun d => (.ok (.val d), putO i (ds.eraseIdx j) env1) else none
  | _ => none) env else none
theorem ee_pop {i : Nat} {x : Str} {e : Expr} {m : Mn (List D)} {px apos cpos : Pos} (hv : PE X (.Name x px) (tVar i)) (ha : EvA X [e] m)
    (hbase : attributeBase (.Name x px) "pop" X.env (eval (.Name x px) X.env) = eval (.Name x px) X.env := by rfl)
    (hfew : ((backTo cpos (starEach [e] X.env)).all (fun x => !x.1) && (backToKw cpos (keywordEach [] X.env)).all (fun x => x.1.isSome)
      && decide (([e] : List Expr).length + ([] : List Keyword).length + (if ([] : List Keyword).isEmpty then 0 else 1) < 30)) = true := by rfl)
    (hline : (apos.endLine == cpos.line) = true := by rfl) (hs : starEach [e] X.env = (false, eval e X.env) :: starEach [] X.env := by rfl) (hplain : (backTo cpos (starEach [] X.env)).any (·.1) = false := by rfl) :
    EvE X (.Call (.Attribute (.Name x px) "pop" apos) [e] [] cpos) (popM i m) := fun B tk => by
  refine PE.mono (pe_bm PySem.F.plainAttrs_list PySem.F.slot_list_pop PySem.F.type_list_pop mt_popAt hv (ha B tk) hbase hfew hline hs hplain) fun σ H Q ⟨F, env, r, env', R, hm, fin⟩ => ?_
  unfold popM at hm
  split at hm
  · rename_i h
    obtain ⟨ds0, h0⟩ := hasO_at h
    obtain ⟨p, vs0, hs0, hp0, _⟩ := R.ownAt h0
    refine ⟨_, hs0, tyV_list hp0, ?_⟩
    refine bindA R hm (fun as env1 hk F1 H1 ys R1 s1 iy => ?_) (exE fin)
    obtain ⟨ds, h1, h2⟩ := Option.bind_eq_some_iff.mp hk
    match as, h2, iy with
    | [.int k], h2, iy =>
      obtain ⟨y, rfl, id⟩ := ds1 iy
      cases id
      simp only at h2
      split at h2
      · rename_i hz
        obtain ⟨j, h3, h4⟩ := Option.bind_eq_some_iff.mp h2
        obtain ⟨d, h5, h6⟩ := Option.map_eq_some_iff.mp h4
        cases h6
        obtain ⟨p', vs, hs1, hp, hF, hd⟩ := R1.ownAt h1
        rw [hs0] at hs1
        cases hs1
        obtain ⟨v, hv5, hd5⟩ := IsDs.atD hd h5
        refine ⟨p, vs, k, j, v, rfl, rfl, hp, hz.1, hz.2, by rw [IsDs.length hd]; exact h3, hv5, ?_⟩
        exact FinE.mono fin s1 F1 _ v (R1.rewrite h1 hs0 (IsDs.eraseIdx j hd)) (Same.refl _) hd5
      · cases h2
  · cases hm
end
end RW

set_option Elab.async false
set_option linter.all false
set_option maxRecDepth 100000
set_option maxHeartbeats 4000000
/-! RwFn: what a def promises; its calls. -/
namespace RW
open PySem PySem.Spec PyProof.Rows L2

/-- the heaps behind a call: nothing that stood has changed, but for what is at the places of own -/
structure Ext (own : Addr → Prop) (F H F' H' : Hp) : Prop where
  sF : Same F F'
  sub : Same F' H'
  frm : ∀ a o, H a = some o → ¬ own a → H' a = some o ∧ F' a = F a
abbrev ownN : Addr → Prop := fun _ => False
/-- an end -/
def EndR (c : Cg) (own : Addr → Prop) (Z : Hp → Hp → Prop) (F H : Hp) (Q : VK) (E : XK) : Rs RV → Prop
  | .ok (.val d) => ∀ F' H' v, Ext own F H F' H' → Z F' H' → IsD c F' v d → Q v H'
  | .ok (.new l) => ∀ F' H' p vs, Ext own F H F' H' → Z F' H' → H p = none → H' p = some (.lst vs) → F' p = none → IsDs c F' vs l → Q (.ref p) H'
  | .ex x f => ∀ F' H' cls oa, Ext own F H F' H' → Z F' H' → ExAt c F' H' cls oa x f → E cls oa H'
abbrev Den := List D → Option (Rs RV)
/-- data in, a value out -/
def SpD (c : Cg) (n : Nat) (den : Den) : Sp := fun vs H Q E => vs.length = n ∧ ∃ F ds r, Same F H ∧ IsDs c F vs ds ∧ den ds = some r ∧ EndR c ownN (fun _ _ => True) F H Q E r
/-- the first argument a list that is changed -/
abbrev DenP := List D → List D → Option (Rs RV × List D)
def AtP (c : Cg) (p : Addr) (ps : List D) (F H : Hp) : Prop := F p = none ∧ ∃ ws, H p = some (.lst ws) ∧ IsDs c F ws ps
def SpP (c : Cg) (n : Nat) (den : DenP) : Sp := fun vs H Q E => vs.length = n ∧ ∃ F p ps vs' ds r ps', vs = .ref p :: vs' ∧ Same F H ∧ AtP c p ps F H ∧ IsDs c F vs' ds ∧ den ps ds = some (r, ps') ∧ EndR c (fun a => a = p) (AtP c p ps') F H Q E r

section
variable {c : Cg} {B : Bs} {F F' H H' : Hp} {σ : L2.St} {env : En}
theorem Ext.same (x : Ext ownN F H F' H') : Same H H' := fun a o e => (x.frm a o e (fun z => z)).1
theorem Rel.call (R : Rel c B F σ H env) (x : Ext ownN F H F' H') : Rel c B F' σ H' env := R.after x.same x.sub x.sF fun a o e => (x.frm a o e (fun z => z)).2
theorem Rel.callP {i : Nat} {p : Addr} {ps ps' : List D} (R : Rel c B F σ H env) (h : ownOf env[i]? = some ps) (hv : σ[i]? = some (some (.ref p))) (x : Ext (fun a => a = p) F H F' H') (q : AtP c p ps' F' H') : Rel c B F' σ H' (putO i ps' env) := by
  obtain ⟨p', vs, hs, hp, hF, hd⟩ := R.ownAt h
  rw [hv] at hs
  cases hs
  obtain ⟨hF', ws, hp', hd'⟩ := q
  have R2 : Rel c B F' σ (upd H' p (.lst vs)) env := by
    refine R.after (fun a o e => ?_) (fun a o e => ?_) x.sF (fun a o e => ?_)
    · by_cases z : a = p
      · subst z
        rw [hp] at e
        cases e
        exact upd_same
      · rw [upd_ne z]
        exact (x.frm a o e z).1
    · have z : a ≠ p := fun z => by rw [z, hF'] at e; cases e
      rw [upd_ne z]
      exact x.sub _ _ e
    · by_cases z : a = p
      · rw [z, hF', hF]
      · exact (x.frm a o e z).2
  have R3 := R2.rewrite h hv hd'
  have e : upd (upd H' p (.lst vs)) p (.lst ws) = H' := by
    funext a
    by_cases z : a = p
    · subst z
      rw [upd_same, hp']
    · rw [upd_ne z, upd_ne z]
  rw [e] at R3
  exact R3
end

/-! ### calls -/
section
variable {X : Cx} {k : Nat} {f : Addr} {fd : FuncData} {pn : List Str} {n : Nat} {dvs : List V} {dws : List Value} {x : Str} {p pos : Pos} {e : Expr} {es : List Expr}
def callM (den : Den) (dd : List D) (ma : Mn (List D)) : Mn RV := ma.bind fun ds env => (den (ds ++ dd)).map fun r => (r, env)
theorem end_call {c : Cg} {B : Bs} {F H : Hp} {σ : L2.St} {env : En} {Q : VK} {r : Rs RV} (R : Rel c B F σ H env) (fin : FinE c B F σ env Q r) : EndR c ownN (fun _ _ => True) F H Q (WE B.W σ) r := by
  cases r with
  | ok rv =>
    cases rv with
    | val d => exact fun F' H' v xt _ hv => fin F' H' v (R.call xt) xt.sF hv
    | new l =>
      intro F' H' p vs xt _ hp hp' hF hd
      have R2 := R.call xt
      exact fin F' H' p vs R2 xt.sF ⟨hp', hF, hd, mine_new R hp, fun i s e o z => free_new R hp i s e o z⟩
  | ex y fl => exact fun F' H' cls oa xt _ ea => fin F' H' cls oa (R.call xt) xt.sF ea
theorem IsDs.all {c : Cg} {F : Hp} {vs : List V} {ds : List D} (h : ∀ F, IsDs c F vs ds) : IsDs c F vs ds := h F
theorem ee_call {den : Den} {dd : List D} {ma : Mn (List D)} (Fo : FnOk X.prog X.w X.K X.mg X.base (L2.CX X.prog X.w) k f fd pn (SpD (cg X) n den)) (hr : Room k X.A) (hg : Gl X x) (hm : X.mg x = some (.ref f)) (hk : PySem.W.keepIn X.K (.ref f) = true) (hb : Binds X.K fd pn dws) (hd : Vals dvs dws)
    (hdd : ∀ F, IsDs (cg X) F dvs dd) (ha : EvA X (e :: es) ma) (hl : ∀ env ds env1, ma env = some (.ok ds, env1) → (ds ++ dd).length = n) (hdb : (x == ("__debug__" : Str)) = false := by decide) (he : starEach (e :: es) X.env = (false, eval e X.env) :: starEach es X.env := by rfl) (hpl : (backTo pos (starEach es X.env)).any (·.1) = false := by rfl) :
    EvE X (.Call (.Name x p) (e :: es) [] pos) (callM den dd ma) := fun B tk => by
  refine PE.mono (pe_callSD (E := WE B.W) Fo hr hg hm hk hb hd (passAt tk) (ha B tk) hdb he hpl) fun σ H Q ⟨F, env, r, env', R, hm, fin⟩ => ?_
  rcases bind_cases hm with ⟨ds, env1, h1, h2⟩ | ⟨y, fl, h1, rfl⟩
  · refine ⟨F, env, _, _, R, h1, fun F1 H1 vs R1 s1 xs => ?_⟩
    obtain ⟨r', h3, h4⟩ := Option.map_eq_some_iff.mp h2
    cases h4
    have hx := IsDs.append (hdd F1) xs
    exact ⟨by rw [IsDs.length hx]; exact hl _ _ _ h1, F1, ds ++ dd, r, R1.sub, hx, h3, end_call R1 (FinE.mono fin s1)⟩
  · exact ⟨F, env, _, _, R, h1, fin⟩
/-- f(own list, ..) -/
def callP (i : Nat) (den : DenP) (ma : Mn (List D)) : Mn RV := fun env => if hasO i env then (ma.bind fun ds env1 => (ownOf env1[i]?).bind fun ps => (den ps ds).map fun q => (q.1, putO i q.2 env1)) env else none
theorem ee_callP {i : Nat} {y : Str} {py : Pos} {den : DenP} {ma : Mn (List D)} (Fo : FnOk X.prog X.w X.K X.mg X.base (L2.CX X.prog X.w) k f fd pn (SpP (cg X) n den)) (hr : Room k X.A) (hg : Gl X x) (hm : X.mg x = some (.ref f)) (hk : PySem.W.keepIn X.K (.ref f) = true) (hb : Binds X.K fd pn [])
    (hv : PE X (.Name y py) (tVar i)) (ha : EvA X es ma) (hl : ∀ env ds env1, ma env = some (.ok ds, env1) → ds.length + 1 = n) (hdb : (x == ("__debug__" : Str)) = false := by decide) (he : starEach (.Name y py :: es) X.env = (false, eval (.Name y py) X.env) :: starEach es X.env := by rfl) (hpl : (backTo pos (starEach es X.env)).any (·.1) = false := by rfl) :
    EvE X (.Call (.Name x p) (.Name y py :: es) [] pos) (callP i den ma) := fun B tk => by
  refine PE.mono (pe_callSD (E := WE B.W) (dvs := []) Fo hr hg hm hk hb .nil (passAt tk) (pa_cons hv (ha B tk) he) hdb he hpl) fun σ H Q ⟨F, env, r, env', R, hm, fin⟩ => ?_
  unfold callP at hm
  split at hm
  · rename_i h
    obtain ⟨ds0, h0⟩ := hasO_at h
    obtain ⟨q, vs0, hs0, hp0, _⟩ := R.ownAt h0
    refine ⟨_, hs0, ?_⟩
    rcases bind_cases hm with ⟨ds, env1, h1, h2⟩ | ⟨y, fl, h1, rfl⟩
    · refine ⟨F, env, _, _, R, h1, fun F1 H1 vs R1 s1 xs => ?_⟩
      obtain ⟨ps, h3, h4⟩ := Option.bind_eq_some_iff.mp h2
      obtain ⟨⟨r', ps'⟩, h5, h6⟩ := Option.map_eq_some_iff.mp h4
      cases h6
      obtain ⟨q', ws, hs1, hp, hF, hd⟩ := R1.ownAt h3
      rw [hs0] at hs1
      cases hs1
      refine ⟨by simp; rw [IsDs.length xs]; exact hl _ _ _ h1, F1, q, ps, vs, ds, r', ps', by simp, R1.sub, ⟨hF, ws, hp, hd⟩, xs, h5, ?_⟩
      have fin1 := FinE.mono fin s1
      cases r' with
      | ok rv =>
        cases rv with
        | val d => exact fun F' H' v xt z hv => fin1 F' H' v (R1.callP h3 hs0 xt z) xt.sF hv
        | new l =>
          intro F' H' p' us xt z hpn hp' hF' hd'
          have R2 := R1.callP h3 hs0 xt z
          refine fin1 F' H' p' us R2 xt.sF ⟨hp', hF', hd', mine_new R1 hpn, fun j s ej o zz => ?_⟩
          by_cases hj : j = i
          · subst hj
            rw [List.getD_eq_getElem?_getD, hs0] at zz
            have : q = p' := by simpa using zz
            rw [this, hpn] at hp
            cases hp
          · have ej' : env1[j]? = some s := by
              unfold putO at ej
              split at ej
              · rw [List.getElem?_set_ne (Ne.symm hj)] at ej; exact ej
              · exact ej
            exact free_new R1 hpn j s ej' o zz
      | ex y' fl => exact fun F' H' cls oa xt z ea => fin1 F' H' cls oa (R1.callP h3 hs0 xt z) xt.sF ea
    · exact ⟨F, env, _, _, R, h1, fin⟩
  · cases hm
end

/-! ### defs -/
def denOf (k : Nat) (m : Ms) : Den := fun ds => match m (ds.map .val ++ List.replicate k .no) with
  | some (.nx, _) => some (.ok (.val .non))
  | some (.ret r, _) => some (.ok r)
  | some (.ex x f, _) => some (.ex x f)
  | _ => none
def denP (k : Nat) (m : Ms) : DenP := fun ps ds => match m (.lent ps :: ds.map .val ++ List.replicate k .no) with
  | some (.nx, env) => (ownOf env[0]?).map fun qs => (.ok (.val .non), qs)
  | some (.ret r, env) => (ownOf env[0]?).map fun qs => (.ok r, qs)
  | some (.ex x f, env) => (ownOf env[0]?).map fun qs => (.ex x f, qs)
  | _ => none
section
variable {P : Program} {w : World} {K : PySem.W.Frag} {mg : Str → Option Value} {base : Heap}
theorem rel_start {c : Cg} {F H : Hp} {W : WX} {vs : List V} {ds : List D} (k : Nat) (s : Same F H) (h : IsDs c F vs ds) : Rel c ⟨H, F, ownN, [], W⟩ F (vs.map some ++ List.replicate k none) H (ds.map .val ++ List.replicate k .no) where
  sub := s
  sub0 := Same.refl _
  frm := fun a o e _ => ⟨e, rfl⟩
  len := by simp [IsDs.length h]
  sl := fun i t e => by
    rw [List.getElem?_append] at e
    split at e
    · rename_i hi
      rw [List.getElem?_map] at e
      cases q : ds[i]? with
      | none => rw [q] at e; cases e
      | some d =>
        rw [q] at e
        cases e
        obtain ⟨v, h1, h2⟩ := IsDs.atD h q
        refine ⟨v, ?_, h2⟩
        have hi' : i < vs.length := (List.getElem?_eq_some_iff.mp h1).1
        rw [List.getD_eq_getElem?_getD, List.getElem?_append_left (by simpa using hi'), List.getElem?_map, h1]
        rfl
    · have : t = .no := by
        have := List.mem_of_getElem? e
        exact (List.mem_replicate.mp this).2
      subst this
      trivial
  inj := fun i j t u p e1 e2 o1 o2 => by
    have : t ∈ (ds.map Sl.val ++ List.replicate k Sl.no) := List.mem_of_getElem? e1
    rcases List.mem_append.mp this with m | m
    · obtain ⟨d, _, rfl⟩ := List.mem_map.mp m
      cases o1
    · rw [(List.mem_replicate.mp m).2] at o1
      cases o1
  lnt := fun q hq => by cases hq
theorem start_eq {N : List Str} {vs : List V} {n : Nat} (h : vs.length = n) : L2.start N vs = vs.map some ++ List.replicate (N.length - n) none := by
  unfold L2.start
  rw [h]
theorem ext_of {c : Cg} {F H F' H' : Hp} {σ : L2.St} {env : En} {own : Addr → Prop} {ln : List (Nat × Addr)} {W : WX} (R : Rel c ⟨H, F, own, ln, W⟩ F' σ H' env) (s : Same F F') : Ext own F H F' H' := ⟨s, R.sub, R.frm⟩
theorem fn_data {x qual : Str} {st : Stmt} {f : Addr} {fd : FuncData} {N ps : List Str} {k : Nat} {m : Ms} (Fn : Fun K x qual st f fd) (S : FnScope N ps (defScope st))
    (hb : ∀ (cdv : Value) (A : Around) (outer : List Env) (s : Shared) (H : Hp) (E : XK), Room k (A.deeper (envOfC qual (defScope st) s.heap.objs.size f cdv)) → EvSs (cxOf (L2.CX P w) P w K mg base N qual (defScope st) f cdv A outer s H E) (defBody st) m) :
    FnOk P w K mg base (L2.CX P w) (k + 1) f fd ps (SpD ⟨K, mg, P, w⟩ ps.length (denOf (N.length - ps.length) m)) := by
  refine Fn.okX S (fun vs H Q E h => h.1) fun cdv A outer s H vs Q E hr h => ?_
  obtain ⟨hl, F, ds, r, sF, hd, hden, fin⟩ := h
  refine ⟨_, hb cdv A outer s H E hr ⟨H, F, ownN, [], fun cls d _ H' => E cls d H'⟩ (takes_of rfl rfl rfl rfl), ?_⟩
  rw [start_eq hl]
  have R0 := rel_start (W := fun cls d _ H' => E cls d H') (N.length - ps.length) sF hd
  unfold denOf at hden
  refine ⟨F, ds.map .val ++ List.replicate (N.length - ps.length) .no, ?_⟩
  split at hden
  · rename_i env' he
    cases hden
    exact ⟨_, _, R0, he, fun F' σ' H' R' s' => fin F' H' .non (ext_of R' s') trivial .non⟩
  · rename_i rv env' he
    cases hden
    refine ⟨_, _, R0, he, ?_⟩
    cases rv with
    | val d => exact fun F' σ' H' v R' s' hv => fin F' H' v (ext_of R' s') trivial hv
    | new l => exact fun F' σ' H' p vs' R' s' hn => fin F' H' p vs' (ext_of R' s') trivial (hn.new.resolve_right (fun z => z)) hn.at_ hn.fz hn.dat
  · rename_i y fl env' he
    cases hden
    exact ⟨_, _, R0, he, fun σ' F' H' cls oa R' s' ea => fin F' H' cls oa (ext_of R' s') trivial ea⟩
  · cases hden
theorem rel_startP {c : Cg} {F H : Hp} {W : WX} {vs : List V} {ds pd : List D} {p : Addr} (k : Nat) (s : Same F H) (hp : AtP c p pd F H) (h : IsDs c F vs ds) : Rel c ⟨H, F, fun a => a = p, [(0, p)], W⟩ F ((.ref p :: vs).map some ++ List.replicate k none) H (.lent pd :: ds.map .val ++ List.replicate k .no) := by
  have R0 := rel_start (W := W) k s h
  obtain ⟨hF, ws, hH, hw⟩ := hp
  have own1 : ∀ (j : Nat) t, (Sl.lent pd :: (ds.map Sl.val ++ List.replicate k Sl.no))[j]? = some t → t.owns = true → j = 0 := fun j t e o => by
    cases j with
    | zero => rfl
    | succ j =>
      rw [List.getElem?_cons_succ] at e
      rcases List.mem_append.mp (List.mem_of_getElem? e) with m | m
      · obtain ⟨d, _, rfl⟩ := List.mem_map.mp m
        cases o
      · rw [(List.mem_replicate.mp m).2] at o
        cases o
  refine ⟨s, Same.refl _, fun a o e no => ⟨e, rfl⟩, ?_, fun i t e => ?_, fun i j t u q e1 e2 o1 o2 _ _ => (own1 i t e1 o1).trans (own1 j u e2 o2).symm, fun q hq => ?_⟩
  · have := R0.len
    simp at this ⊢
    omega
  · cases i with
    | zero =>
      cases e
      exact ⟨p, ws, rfl, hH, hF, hw, rfl⟩
    | succ i =>
      have e' : (ds.map Sl.val ++ List.replicate k Sl.no)[i]? = some t := by simpa using e
      have := R0.sl i t e'
      have g : ((.ref p :: vs).map some ++ List.replicate k none : L2.St).getD (i + 1) none = (vs.map some ++ List.replicate k none : L2.St).getD i none := by
        simp [List.getD_eq_getElem?_getD]
      rw [g]
      cases t with
      | no => trivial
      | val d => exact this
      | own l => obtain ⟨p', vs', a, b, d, e, f⟩ := this; exact ⟨p', vs', a, b, d, e, f.elim .inl (fun z => z.elim)⟩
      | lent l => obtain ⟨p', vs', a, b, d, e, f⟩ := this; exact f.elim
      | rd l =>
        rcases List.mem_append.mp (List.mem_of_getElem? e') with m | m
        · obtain ⟨d, _, z⟩ := List.mem_map.mp m
          cases z
        · have := (List.mem_replicate.mp m).2
          cases this
  · have : q = (0, p) := by simpa using hq
    subst this
    exact ⟨rfl, pd, rfl⟩
theorem fn_lent {x qual : Str} {st : Stmt} {f : Addr} {fd : FuncData} {N ps : List Str} {k : Nat} {m : Ms} (Fn : Fun K x qual st f fd) (S : FnScope N ps (defScope st))
    (hb : ∀ (cdv : Value) (A : Around) (outer : List Env) (s : Shared) (H : Hp) (E : XK), Room k (A.deeper (envOfC qual (defScope st) s.heap.objs.size f cdv)) → EvSs (cxOf (L2.CX P w) P w K mg base N qual (defScope st) f cdv A outer s H E) (defBody st) m) :
    FnOk P w K mg base (L2.CX P w) (k + 1) f fd ps (SpP ⟨K, mg, P, w⟩ ps.length (denP (N.length - ps.length) m)) := by
  refine Fn.okX S (fun vs H Q E h => h.1) fun cdv A outer s H vs Q E hr h => ?_
  obtain ⟨hl, F, p, pd, vs', ds, r, ps', rfl, sF, hp, hd, hden, fin⟩ := h
  refine ⟨_, hb cdv A outer s H E hr ⟨H, F, fun a => a = p, [(0, p)], fun cls d _ H' => E cls d H'⟩ (takes_of rfl rfl rfl rfl), ?_⟩
  rw [start_eq hl]
  have R0 := rel_startP (W := fun cls d _ H' => E cls d H') (N.length - ps.length) sF hp hd
  have last : ∀ {F' H' : Hp} {σ' : L2.St} {env' : En} {qs : List D}, Rel ⟨K, mg, P, w⟩ ⟨H, F, fun a => a = p, [(0, p)], fun cls d _ H' => E cls d H'⟩ F' σ' H' env' → ownOf env'[0]? = some qs → AtP ⟨K, mg, P, w⟩ p qs F' H' := fun {F' H' σ' env' qs} R' hq => by
    obtain ⟨h1, l, h2⟩ := R'.lnt (0, p) (List.mem_singleton.mpr rfl)
    obtain ⟨p', ws, h3, h4, h5, h6⟩ := R'.ownAt hq
    rw [slot_at h1] at h3
    cases h3
    exact ⟨h5, ws, h4, h6⟩
  unfold denP at hden
  refine ⟨F, .lent pd :: ds.map .val ++ List.replicate (N.length - ps.length) .no, ?_⟩
  split at hden
  · rename_i env' he
    obtain ⟨qs, h1, h2⟩ := Option.map_eq_some_iff.mp hden
    cases h2
    exact ⟨_, _, R0, he, fun F' σ' H' R' s' => fin F' H' .non (ext_of R' s') (last R' h1) .non⟩
  · rename_i rv env' he
    obtain ⟨qs, h1, h2⟩ := Option.map_eq_some_iff.mp hden
    cases h2
    refine ⟨_, _, R0, he, ?_⟩
    cases rv with
    | val d => exact fun F' σ' H' v R' s' hv => fin F' H' v (ext_of R' s') (last R' h1) hv
    | new l =>
      intro F' σ' H' p' vs' R' s' hn
      refine fin F' H' p' vs' (ext_of R' s') (last R' h1) ?_ hn.at_ hn.fz hn.dat
      rcases hn.new with z | z
      · exact z
      · obtain ⟨g1, l', g2⟩ := R'.lnt (0, p) (List.mem_singleton.mpr rfl)
        have z' : p' = p := z
        subst z'
        exact absurd g1 (hn.free 0 _ g2 rfl)
  · rename_i y fl env' he
    obtain ⟨qs, h1, h2⟩ := Option.map_eq_some_iff.mp hden
    cases h2
    exact ⟨_, _, R0, he, fun σ' F' H' cls oa R' s' ea => fin F' H' cls oa (ext_of R' s') (last R' h1) ea⟩
  · cases hden
end
end RW

set_option Elab.async false
set_option linter.all false
set_option maxRecDepth 100000
set_option maxHeartbeats 4000000
/-! RwMore: isinstance of built-in types, powers, order of texts, calls with keywords; the rules with their side facts by default. -/
namespace RW
open PySem PySem.Spec PyProof.Rows L2

/-! ### isinstance -/
def tyName : D → Option String
  | .non => some "NoneType"
  | .bl _ => some "bool"
  | .int _ => some "int"
  | .str _ => some "str"
  | .tup _ => some "tuple"
  | .lst _ => some "list"
  | _ => none
def tyNames : List String := ["NoneType", "bool", "int", "str", "tuple", "list"]
def isiN (n T : String) : Bool := n == T || (n == "bool" && T == "int")
def isiV (T : String) (d : D) : Option RV := (tyName d).map fun n => .val (.bl (isiN n T))
theorem tyName_mem {d : D} {n : String} (h : tyName d = some n) : n ∈ tyNames := by
  cases d <;> simp [tyName] at h <;> subst h <;> decide
def kitOkB (T : String) : Bool := tyNames.all fun n => kitB n T == some (isiN n T)
theorem kit_str : kitOkB "str" = true := by decide +kernel
theorem kit_tuple : kitOkB "tuple" = true := by decide +kernel
theorem kit_list : kitOkB "list" = true := by decide +kernel
theorem kit_int : kitOkB "int" = true := by decide +kernel
theorem kit_bool : kitOkB "bool" = true := by decide +kernel
theorem kit_dict : kitOkB "dict" = true := by decide +kernel
theorem ty_data {c : Cg} {F H : Hp} {x : V} {d : D} {n : String} (s : Same F H) (h : IsD c F x d) (e : tyName d = some n) : TyX c.K H x (.type n) := by
  cases h with
  | non => cases e; exact .base .non
  | bl b => cases e; exact .base (.bl b)
  | int i => cases e; exact .base (.int i)
  | str z => cases e; exact .base (.str z)
  | tup h1 h2 =>
    cases e
    rcases h1 with (h1 | ⟨o, h1⟩) | ⟨o, its, m, h1, h3, _⟩
    · exact .base (.tup (s _ _ h1))
    · exact .fTuple (s _ _ h1)
    · exact .kTuple h1 h3
  | lst h1 h2 =>
    cases e
    rcases h1 with (h1 | ⟨o, h1⟩) | ⟨o, its, m, h1, h3, _⟩
    · exact .base (.lst (s _ _ h1))
    · exact .base (.frz (s _ _ h1))
    · exact .kList h1 h3
  | setK _ _ _ _ => cases e
  | setS _ => cases e
  | dctK _ _ _ _ _ _ => cases e
  | ins _ _ _ _ _ _ => cases e
  | exc _ _ _ _ _ _ => cases e
  | dctM _ _ => cases e
def isiM (T : String) (ma : Mn D) : Mn RV := ma.bind fun d => .lift (isiV T d)
section
variable {X : Cx} {a : Expr} {pos p p2 : Pos}
theorem ee_isi {T : Str} {n : String} {ma : Mn D} (kk : kitOkB n = true) (hT : bootBuiltins T = some (.type n)) (gI : Gl X "isinstance") (mI : X.mg "isinstance" = none) (gT : Gl X T) (mT : X.mg T = none) (ha : EvD X a ma)
    (hn : T ≠ "__name__" := by decide) (hdb : (T == ("__debug__" : Str)) = false := by decide) (he : starEach [a, .Name T p2] X.env = (false, eval a X.env) :: starEach [.Name T p2] X.env := by rfl) (hpl : (backTo pos (starEach [.Name T p2] X.env)).any (·.1) = false := by rfl) :
    EvE X (.Call (.Name "isinstance" p) [a, .Name T p2] [] pos) (isiM n ma) := fun B tk => by
  refine PE.mono (pe_callB (id := "isinstance") call_isi gI mI boot_isinstance (pa_cons (ha B tk) (pa_cons (pe_bltn gT mT hT (v := .ty n) rfl hn hdb) pa_nil rfl) he) (by decide) (by decide) he hpl) fun σ H Q ⟨F, env, r, env', R, hm, fin⟩ => ?_
  refine bindD R hm (fun dx env1 hk F1 H1 x R1 s1 ix => ?_) (exE fin)
  obtain ⟨rv, e1, rfl, rfl⟩ := lift_cases hk
  obtain ⟨m, e2, rfl⟩ := Option.map_eq_some_iff.mp e1
  refine ⟨x, .ty n, .type m, .type n, isiN m n, rfl, .ty n, ty_data R1.sub ix e2, kit_ty ?_, FinE.mono fin s1 F1 H1 (.bl _) R1 (Same.refl _) (.bl _)⟩
  have := List.all_eq_true.mp kk m (tyName_mem e2)
  simpa using this
end

/-! ### powers, order -/
def CPowI (i j : Int) : Prop := 0 ≤ j ∧ (Builtin.Int.intBits i : Int) * j ≤ 2 ^ 27
instance : DecidableRel CPowI := fun i j => inferInstanceAs (Decidable (_ ∧ _))
instance : DecidableRel CMulW := fun i j => inferInstanceAs (Decidable (_ < _))
instance : DecidableRel CDivW := fun i j => inferInstanceAs (Decidable (_ ∧ _))
section
variable {X : Cx}
theorem op_powI : OpR X (binaryOp .Pow) (rI CPowI fun i j => .int (i ^ j.toNat)) := opI fun _ _ _ _ _ _ _ hc q => PyProof.Rows.pow_int hc.1 hc.2 q
def powV := int2 CPowI fun i j => i ^ j.toNat
def mulV := int2 CMulW fun i j => i * j
def fdivV := int2 CDivW fun i j => i / j
def modV := int2 (fun _ j => 0 < j) fun i j => i % j
def subV := int0 fun i j => i - j
def strLt (a b : Str) : Bool := decide (a.cps.toList < b.cps.toList)
def ltV : D → D → Option RV
  | .int i, .int j => vB (decide (i < j))
  | .str a, .str b => vB (strLt a b)
  | _, _ => none
def rLtD : R2 := fun x y H Q => rI0 (fun i j => .bl (decide (i < j))) x y H Q ∨ ∃ i j, x = .str i ∧ y = .str j ∧ Q (.bl (decide (i.cps.toList < j.cps.toList))) H
theorem op_ltD : OpR X (compareOp .Lt) rLtD := op_lt.or op_lt_str
theorem og_lt {c : Cg} : OpD c rLtD ltV := by
  intro B F H σ env x y dx dy rv Q R hx hy e fin
  cases dx with
  | int i =>
    cases dy with
    | int j => cases hx; cases hy; cases e; exact .inl ⟨i, j, rfl, rfl, fin_val R fin (.bl _)⟩
    | _ => cases e
  | str i =>
    cases dy with
    | str j => cases hx; cases hy; cases e; exact .inr ⟨i, j, rfl, rfl, fin_val R fin (.bl _)⟩
    | _ => cases e
  | _ => cases dy <;> cases e
end
def leV := cmp0 fun i j => decide (i ≤ j)
def gtV := cmp0 fun i j => decide (j < i)
def geV := cmp0 fun i j => decide (j ≤ i)

/-! ### the rules with their side facts by default -/
section
variable {X : Cx} {pos p : Pos} {a b : Expr} {ma mb : Mn D} {k : Nat}
theorem hu64 (hr : Room k X.A) : X.A.units + 64 < cLine := by have := hr.un; omega
theorem hu65 (hr : Room k X.A) : X.A.units + 65 < cLine := by have := hr.un; omega
theorem nv (i : Nat) {x : Str} (hN : X.N[i]? = some x := by rfl) (hv : Vis X.env.scope x := by first | exact Or.inl rfl | exact Or.inr (Or.inl rfl) | exact Or.inr (Or.inr rfl)) (hd : (x == ("__debug__" : Str)) = false := by decide)
    (hcd : (x == ("__classdict__" : Str)) = false := by decide) : PE X (.Name x pos) (tVar i) := pe_var hN hv hd hcd
theorem dv (i : Nat) {x : Str} (hN : X.N[i]? = some x := by rfl) (hv : Vis X.env.scope x := by first | exact Or.inl rfl | exact Or.inr (Or.inl rfl) | exact Or.inr (Or.inr rfl)) (hd : (x == ("__debug__" : Str)) = false := by decide)
    (hcd : (x == ("__classdict__" : Str)) = false := by decide) : EvD X (.Name x pos) (lv i) := ed_var i (pe_var hN hv hd hcd)
theorem ev (i : Nat) {x : Str} (hN : X.N[i]? = some x := by rfl) (hv : Vis X.env.scope x := by first | exact Or.inl rfl | exact Or.inr (Or.inl rfl) | exact Or.inr (Or.inr rfl)) (hd : (x == ("__debug__" : Str)) = false := by decide)
    (hcd : (x == ("__classdict__" : Str)) = false := by decide) : EvE X (.Name x pos) (mv i) := ee_var i (pe_var hN hv hd hcd)
theorem eAdd (ha : EvD X a ma) (hb : EvD X b mb) : EvE X (.BinOp a .Add b pos) (op2 addV ma mb) := ee_op op_addD og_add ha hb
theorem eSub (ha : EvD X a ma) (hb : EvD X b mb) : EvE X (.BinOp a .Sub b pos) (op2 subV ma mb) := ee_op op_sub og_int0 ha hb
theorem eMul (ha : EvD X a ma) (hb : EvD X b mb) : EvE X (.BinOp a .Mult b pos) (op2 mulV ma mb) := ee_op op_mulW og_int ha hb
theorem eFdiv (ha : EvD X a ma) (hb : EvD X b mb) : EvE X (.BinOp a .FloorDiv b pos) (op2 fdivV ma mb) := ee_op op_fdivW og_int ha hb
theorem eMod (ha : EvD X a ma) (hb : EvD X b mb) : EvE X (.BinOp a .Mod b pos) (op2 modV ma mb) := ee_op op_mod og_int ha hb
theorem ePow (ha : EvD X a ma) (hb : EvD X b mb) : EvE X (.BinOp a .Pow b pos) (op2 powV ma mb) := ee_op op_powI og_int ha hb
theorem eEq (hr : Room k X.A) (ha : EvD X a ma) (hb : EvD X b mb) : EvE X (.Compare a [.Eq] [b] pos) (op2 eqV' ma mb) := ee_cmp (op_eqD (hu64 hr)) og_eq ha hb (nomark _)
theorem eNe (hr : Room k X.A) (ha : EvD X a ma) (hb : EvD X b mb) : EvE X (.Compare a [.NotEq] [b] pos) (op2 neV ma mb) := ee_cmp (op_neD (hu64 hr)) og_ne ha hb (nomark _)
theorem eIn (hr : Room k X.A) (ha : EvD X a ma) (hb : EvD X b mb) (hm : behindInMarks .In b = false := by with_unfolding_all rfl) : EvE X (.Compare a [.In] [b] pos) (op2 inV' ma mb) := ee_cmp (op_inX (hu65 hr)) og_in ha hb hm
theorem eNotIn (hr : Room k X.A) (ha : EvD X a ma) (hb : EvD X b mb) (hm : behindInMarks .NotIn b = false := by with_unfolding_all rfl) : EvE X (.Compare a [.NotIn] [b] pos) (op2 notinX ma mb) := ee_cmp (op_notInX (hu65 hr)) og_notin ha hb hm
theorem eLt (ha : EvD X a ma) (hb : EvD X b mb) : EvE X (.Compare a [.Lt] [b] pos) (op2 ltV ma mb) := ee_cmp op_ltD og_lt ha hb (nomark _)
theorem eLe (ha : EvD X a ma) (hb : EvD X b mb) : EvE X (.Compare a [.LtE] [b] pos) (op2 leV ma mb) := ee_cmp op_le og_cmp0 ha hb (nomark _)
theorem eGt (ha : EvD X a ma) (hb : EvD X b mb) : EvE X (.Compare a [.Gt] [b] pos) (op2 gtV ma mb) := ee_cmp op_gt og_cmp0 ha hb (nomark _)
theorem eGe (ha : EvD X a ma) (hb : EvD X b mb) : EvE X (.Compare a [.GtE] [b] pos) (op2 geV ma mb) := ee_cmp op_ge og_cmp0 ha hb (nomark _)
theorem eIs (ha : EvD X a ma) (hb : EvD X b mb) : EvE X (.Compare a [.Is] [b] pos) (op2 (isNV false) ma mb) := ee_cmp op_isN og_isN ha hb (nomark _)
theorem eIsNot (ha : EvD X a ma) (hb : EvD X b mb) : EvE X (.Compare a [.IsNot] [b] pos) (op2 (isNV true) ma mb) := ee_cmp op_notN og_notN ha hb (nomark _)
theorem tEq (hr : Room k X.A) (ha : EvD X a ma) (hb : EvD X b mb) : EvT X (.Compare a [.Eq] [b] pos) (cmpT eqV' ma mb) := et_cmp (op_eqD (hu64 hr)) og_eq ha hb (nomark _)
theorem tNe (hr : Room k X.A) (ha : EvD X a ma) (hb : EvD X b mb) : EvT X (.Compare a [.NotEq] [b] pos) (cmpT neV ma mb) := et_cmp (op_neD (hu64 hr)) og_ne ha hb (nomark _)
theorem tIn (hr : Room k X.A) (ha : EvD X a ma) (hb : EvD X b mb) (hm : behindInMarks .In b = false := by with_unfolding_all rfl) : EvT X (.Compare a [.In] [b] pos) (cmpT inV' ma mb) := et_cmp (op_inX (hu65 hr)) og_in ha hb hm
theorem tNotIn (hr : Room k X.A) (ha : EvD X a ma) (hb : EvD X b mb) (hm : behindInMarks .NotIn b = false := by with_unfolding_all rfl) : EvT X (.Compare a [.NotIn] [b] pos) (cmpT notinX ma mb) := et_cmp (op_notInX (hu65 hr)) og_notin ha hb hm
theorem tLt (ha : EvD X a ma) (hb : EvD X b mb) : EvT X (.Compare a [.Lt] [b] pos) (cmpT ltV ma mb) := et_cmp op_ltD og_lt ha hb (nomark _)
theorem tLe (ha : EvD X a ma) (hb : EvD X b mb) : EvT X (.Compare a [.LtE] [b] pos) (cmpT leV ma mb) := et_cmp op_le og_cmp0 ha hb (nomark _)
theorem tGt (ha : EvD X a ma) (hb : EvD X b mb) : EvT X (.Compare a [.Gt] [b] pos) (cmpT gtV ma mb) := et_cmp op_gt og_cmp0 ha hb (nomark _)
theorem tGe (ha : EvD X a ma) (hb : EvD X b mb) : EvT X (.Compare a [.GtE] [b] pos) (cmpT geV ma mb) := et_cmp op_ge og_cmp0 ha hb (nomark _)
theorem tIs (ha : EvD X a ma) (hb : EvD X b mb) : EvT X (.Compare a [.Is] [b] pos) (cmpT (isNV false) ma mb) := et_cmp op_isN og_isN ha hb (nomark _)
theorem tIsNot (ha : EvD X a ma) (hb : EvD X b mb) : EvT X (.Compare a [.IsNot] [b] pos) (cmpT (isNV true) ma mb) := et_cmp op_notN og_notN ha hb (nomark _)
def tstM (m : Mn RV) : Mn Bool := m.bind fun r => .lift (boolOf r)
theorem tCall {f : Expr} {es : List Expr} {kw : List Keyword} {m : Mn RV} (h : EvE X (.Call f es kw pos) m) : EvT X (.Call f es kw pos) (tstM m) := et_of h (fun _ => rfl)
theorem tst_ok {c : Cg} {B : Bs} {m : Mn RV} {σ : L2.St} {H : Hp} {Q : Bool → Hp → Prop} (h : tT c B (tstM m) σ H Q) : tE c B m σ H fun x H1 => ∃ k, x = .bl k ∧ Q k H1 := by
  obtain ⟨F, env, r, env', R, hm, fin⟩ := h
  rcases bind_cases hm with ⟨rv, env1, h1, h2⟩ | ⟨x, f, h1, rfl⟩
  · obtain ⟨b, e1, rfl, rfl⟩ := lift_cases h2
    exact ⟨F, env, _, _, R, h1, fin_bool e1 fin⟩
  · exact ⟨F, env, _, _, R, h1, fin⟩
theorem tLeLe {c' : Expr} {mc : Mn D} (ha : EvD X a ma) (hb : EvD X b mb) (hc : EvD X c' mc) (hm : lastMarks [.LtE, .LtE] [b, c'] = false := by with_unfolding_all rfl) : EvT X (.Compare a [.LtE, .LtE] [b, c'] pos) (tstM (chainM leV leV ma mb mc)) := fun B tk => by
  refine PT.mono (pt_chain op_le op_le (ha B tk) (hb B tk) (hc B tk) hm) fun σ H Q h => ?_
  exact chain_ok og_cmp0 og_cmp0 (tst_ok h)
theorem tName {x : Str} {m : Mn RV} (h : EvE X (.Name x pos) m) : EvT X (.Name x pos) (tstM m) := et_of h (fun _ => rfl)
theorem eLeLe {c' : Expr} {mc : Mn D} (ha : EvD X a ma) (hb : EvD X b mb) (hc : EvD X c' mc) (hm : lastMarks [.LtE, .LtE] [b, c'] = false := by with_unfolding_all rfl) : EvE X (.Compare a [.LtE, .LtE] [b, c'] pos) (chainM leV leV ma mb mc) := ee_chain op_le og_cmp0 op_le og_cmp0 ha hb hc hm
section
variable {e : Expr} {es : List Expr} {me : Mn (List D)}
theorem cLen (hm : X.mg "len" = none) (ha : EvA X [e] me) (hg : Gl X "len" := by rfl) (he : starEach [e] X.env = (false, eval e X.env) :: starEach [] X.env := by rfl) (hpl : (backTo pos (starEach [] X.env)).any (·.1) = false := by rfl) : EvE X (.Call (.Name "len" p) [e] [] pos) (call1 lenV me) := ee_callB call_len cd_len hg hm rfl ha (by decide) (by decide) he hpl
theorem cInt (hm : X.mg "int" = none) (ha : EvA X [e] me) (hg : Gl X "int" := by rfl) (he : starEach [e] X.env = (false, eval e X.env) :: starEach [] X.env := by rfl) (hpl : (backTo pos (starEach [] X.env)).any (·.1) = false := by rfl) : EvE X (.Call (.Name "int" p) [e] [] pos) (call1 intV me) := ee_callTy call_int1 cd_int hg hm boot_int ha (by decide) (by decide) he hpl
theorem cMin (hm : X.mg "min" = none) (ha : EvA X (e :: es) me) (hg : Gl X "min" := by rfl) (he : starEach (e :: es) X.env = (false, eval e X.env) :: starEach es X.env := by rfl) (hpl : (backTo pos (starEach es X.env)).any (·.1) = false := by rfl) (hc : X.calm = true := by rfl) : EvE X (.Call (.Name "min" p) (e :: es) [] pos) (call1 minV me) := ee_callB (call_min2 hc) cd_min hg hm boot_min ha (by decide) (by decide) he hpl
theorem cMax (hm : X.mg "max" = none) (ha : EvA X (e :: es) me) (hg : Gl X "max" := by rfl) (he : starEach (e :: es) X.env = (false, eval e X.env) :: starEach es X.env := by rfl) (hpl : (backTo pos (starEach es X.env)).any (·.1) = false := by rfl) (hc : X.calm = true := by rfl) : EvE X (.Call (.Name "max" p) (e :: es) [] pos) (call1 maxV me) := ee_callB (call_max2 hc) cd_max hg hm boot_max ha (by decide) (by decide) he hpl
theorem cTuple (hm : X.mg "tuple" = none) (ha : EvA X [e] me) (hg : Gl X "tuple" := by rfl) (he : starEach [e] X.env = (false, eval e X.env) :: starEach [] X.env := by rfl) (hpl : (backTo pos (starEach [] X.env)).any (·.1) = false := by rfl) : EvE X (.Call (.Name "tuple" p) [e] [] pos) (call1 tupleV me) := ee_callTy call_tuple_of cd_tuple hg hm boot_tuple ha (by decide) (by decide) he hpl
theorem cList (hm : X.mg "list" = none) (ha : EvA X [e] me) (hg : Gl X "list" := by rfl) (he : starEach [e] X.env = (false, eval e X.env) :: starEach [] X.env := by rfl) (hpl : (backTo pos (starEach [] X.env)).any (·.1) = false := by rfl) : EvE X (.Call (.Name "list" p) [e] [] pos) (call1 listV me) := ee_callTy call_list_of cd_list hg hm boot_list ha (by decide) (by decide) he hpl
theorem cSet (hr : Room k X.A) (hm : X.mg "set" = none) (ha : EvA X [e] me) (hg : Gl X "set" := by rfl) (he : starEach [e] X.env = (false, eval e X.env) :: starEach [] X.env := by rfl) (hpl : (backTo pos (starEach [] X.env)).any (·.1) = false := by rfl) (hc : X.calm = true := by rfl) : EvE X (.Call (.Name "set" p) [e] [] pos) (call1 setV me) := ee_callTy (RW.cr_set hc (hu64 hr)) cd_set hg hm boot_set ha (by decide) (by decide) he hpl
theorem cSorted (hr : Room k X.A) (hm : X.mg "sorted" = none) (ha : EvA X [e] me) (hg : Gl X "sorted" := by rfl) (he : starEach [e] X.env = (false, eval e X.env) :: starEach [] X.env := by rfl) (hpl : (backTo pos (starEach [] X.env)).any (·.1) = false := by rfl) (hc : X.calm = true := by rfl) : EvE X (.Call (.Name "sorted" p) [e] [] pos) (call1 sortedV me) := ee_callB (RW.cr_sorted hc (hu64 hr)) cd_sorted hg hm boot_sorted ha (by decide) (by decide) he hpl
theorem cAll (hm : X.mg "all" = none) (ha : EvA X [e] me) (hg : Gl X "all" := by rfl) (he : starEach [e] X.env = (false, eval e X.env) :: starEach [] X.env := by rfl) (hpl : (backTo pos (starEach [] X.env)).any (·.1) = false := by rfl) (hc : X.calm = true := by rfl) : EvE X (.Call (.Name "all" p) [e] [] pos) (call1 allV me) := ee_callB (cr_all hc) cd_all hg hm boot_all ha (by decide) (by decide) he hpl
theorem cAny (hm : X.mg "any" = none) (ha : EvA X [e] me) (hg : Gl X "any" := by rfl) (he : starEach [e] X.env = (false, eval e X.env) :: starEach [] X.env := by rfl) (hpl : (backTo pos (starEach [] X.env)).any (·.1) = false := by rfl) (hc : X.calm = true := by rfl) : EvE X (.Call (.Name "any" p) [e] [] pos) (call1 anyV me) := ee_callB (cr_any hc) cd_any hg hm boot_any ha (by decide) (by decide) he hpl
end
/-! lengths of argument lists -/
def LenA (m : Mn (List D)) (n : Nat) : Prop := ∀ env ds env1, m env = some (.ok ds, env1) → ds.length = n
theorem la_nil : LenA (Mn.ret []) 0 := fun env ds env1 h => by cases h; rfl
theorem la_cons {m : Mn D} {ma : Mn (List D)} {n : Nat} (h : LenA ma n) : LenA (m.bind fun d => ma.bind fun ds => .ret (d :: ds)) (n + 1) := fun env ds env1 e => by
  rcases bind_cases e with ⟨d, env2, h1, h2⟩ | ⟨x, f, h1, h2⟩
  · rcases bind_cases h2 with ⟨ds', env3, h3, h4⟩ | ⟨x, f, h3, h4⟩
    · cases h4
      simp [h _ _ _ h3]
    · cases h4
  · cases h2
end

section
variable {X : Cx} {pos p : Pos} {e : Expr}
theorem gv (i : Nat) {x : Str} (hN : X.N.Nodup) (hi : X.N[i]? = some x := by rfl) (hx : Loc X.env.scope x := by first | exact Or.inl rfl | exact Or.inr rfl) (hf : X.fn x = true ∨ X.env.scope.names.lookup x = some .local := by first | exact .inl rfl | exact .inr rfl) : EvG X (.Name x pos) [i] (gN i) := eg_name hN hi hx hf
theorem sv (i : Nat) {x : Str} {m : Mn RV} {pos' : Pos} (hN : X.N.Nodup) (he : EvE X e m) (hi : X.N[i]? = some x := by rfl) (hx : Loc X.env.scope x := by first | exact Or.inl rfl | exact Or.inr rfl) (hs : swapsWith e (some (.Name x pos')) pos.line X.env = pure false := by rfl)
    (hf : X.fn x = true ∨ X.env.scope.names.lookup x = some .local := by first | exact .inl rfl | exact .inr rfl) : EvS X (.Assign [.Name x pos'] e pos) (setM i m) := es_set hN hi hx he hs hf
end
end RW

set_option Elab.async false
set_option linter.all false
set_option maxRecDepth 100000
set_option maxHeartbeats 4000000
/-! RwDict: dicts whose keys are tuples: made by a comprehension, asked, read. -/
namespace RW
open PySem PySem.Spec PyProof.Rows L2

/-! ### a comprehension's block: its turns' ends, its own end -/
section
variable {X : Cx} {pins : List (Addr × Obj)} {σ : L2.St} {H : Hp} {s : Shared} {scope : Scope} {fp : List Addr} {cn : Env}
/-- behind a turn -/
theorem blk_turn {own : List Nat} {σ8 : L2.St} {H' : Hp} {s' : Shared} {h7 : Heap} {tn : Nat → Heap → Prop} {tg : Expr} {J : It} {it : Addr} {i : Nat} (T : Turn X.prog X.w X.K tg J fp it tn) (st : tn (i + 1) h7) (hw : wipe σ8 own = wipe σ own)
    (I : Inv (X.blk s H scope cn fp) ([] ++ pinsAt fp h7) σ8 H' s') : Inv (X.blk s H scope cn fp) [] (wipe σ own) H' s' ∧ tn (i + 1) s'.heap ∧ ∀ b ∈ fp, H' b = none := by
  have at_ : ∀ b ∈ fp, ∀ o, h7.get? b = some o → s'.heap.get? b = some o ∧ H' b = none := fun b hb o e =>
    have z := I.pin (b, o) (List.mem_append_right _ (List.mem_append_right _ (mem_pinsAt hb e)))
    ⟨z.1, z.2.1⟩
  have len : (wipe σ own).length = σ8.length := (congrArg List.length hw).symm.trans (wipe_length σ8 own)
  refine ⟨(I.unpinned (pins := [])).weak len fun j v e => (wipe_some (vs := own) (by rw [hw]; exact e)).1, T.keep _ _ _ st fun b hb o e => (at_ b hb o e).1, fun b hb => ?_⟩
  obtain ⟨o, e, _⟩ := T.obj _ _ st b hb
  exact (at_ b hb o e).2
/-- behind the last turn: the def's own context again -/
theorem blk_back {σ' : L2.St} {H' : Hp} {s' : Shared} (I0 : Inv X pins σ H s) (hf : ∀ b ∈ fp, FpOk X pins H b) (hl : cn.locals = s.heap.objs.size) (I : Inv (X.blk s H scope cn fp) [] σ' H' s') :
    Inv X pins σ H' s' ∧ (∃ m, s'.heap.Ns s.heap.objs.size m) ∧ FpOk X pins H' s.heap.objs.size := by
  have free : H' s.heap.objs.size = none := hl ▸ I.free
  obtain ⟨m, hm, _⟩ := I.loc
  refine ⟨I0.call' (ch := fp) I.os I.base I.hok I.bare fun b hb => ?_, ⟨m, hl ▸ hm⟩, I0.fpOk (Nat.le_refl _) free⟩
  obtain ⟨_, f1, _, f3, f4, f5⟩ := hf b hb
  exact ⟨f3, f1, f4, f5⟩
theorem blk_stat {σ' : L2.St} {H' : Hp} {s' : Shared} (I : Inv (X.blk s H scope cn fp) [] σ' H' s') (hn : ∀ b ∈ fp, H' b = none) : ∀ b ∈ fp, FpOk (X.blk s H scope cn fp) [] H' b := fun b hb =>
  have z := I.ok.exf b hb
  ⟨hn b hb, z.1, I.ok.exfs b hb, .inl hb, z.2, fun p hp => by cases hp⟩
end

/-! ### {k: v for target in iter if ..}, the dict any thing that can be put into -/
/-- how an entry is put: what stands behind it -/
abbrev TPut := Hp → Addr → V → V → (Hp → Prop) → Prop
def PutOk (X : Cx) (put : TPut) : Prop := ∀ (Y : Cx), Y.prog = X.prog → Y.w = X.w → Y.K = X.K → Y.mg = X.mg → ∀ (pins : List (Addr × Obj)) (σ : L2.St) (H : Hp) (s : Shared) (A : Addr) (y z : V) (u r : Value) (Nx : Hp → Prop) (E : Value → Shared → Prop), Inv Y pins σ H s → RelV y u → RelV z r → Room 0 Y.A → put H A y z Nx →
  wpAny (model Y.prog Y.w) Y.A (dictSet A u r) (fun _ s' => ∃ H', Inv Y pins σ H' s' ∧ Nx H') E s
def tDcX (o0 : Addr → HO) (put : TPut) (wi : TI) (g : TG) (tt : TT) (tk tv : TE) (vs : List Nat) : TE := fun σ H Q => wi σ H fun J H1 => ∀ A, H1 A = none → ∃ W : Nat → Nat → Hp → Prop, (∃ m, W 0 m (upd H1 A (o0 A))) ∧ ∀ i m H, W i m H →
  (J.stop i H ∧ Q (.ref A) H) ∨ (J.go i H ∧ ∃ Nx : Hp → Prop, (∀ H', Nx H' → ∃ m', m' < m ∧ W (i + 1) m' H') ∧ ∀ x H', J.yld i H x H' → g x (wipe σ vs) H' fun σ2 H2 => wipe σ2 vs = wipe σ vs ∧ tt σ2 H2 fun b H3 =>
    if b = true then tk σ2 H3 fun y H4 => tv σ2 H4 fun z H5 => put H5 A y z Nx else Nx H3)
section
variable {X : Cx}
theorem dcx_core {o0 : Addr → HO} {put : TPut} {kx vx tg iter : Expr} {ifs : List Expr} {scope : Scope} {own : List (Str × Nat)} {pos pos' : Pos} {pins : List (Addr × Obj)} {s : Shared} {σ : L2.St} {H : Hp} {Q : VK} {use : Option (Value → Sem Unit)} {Qf : Value → Shared → Prop} {wi : TI} {g : TG} {tt : TT} {tk tv : TE} {n : Nat} (hr : Room n X.A) (hc : X.calm = true) (hN : X.N.Nodup)
    (hnew : ∀ (H : Hp) (h : Heap), sysModules < h.objs.size → ObjOk X.prog X.w (upd H h.objs.size (o0 h.objs.size)) (h.push { cls := .type "dict", data := .dict #[] }) h.objs.size (o0 h.objs.size)) (hput : PutOk X put) (hi : PI X tg iter wi) (ok : BlkOk X.N X.env.scope scope own)
    (hg : ∀ (s : Shared) (H : Hp) (C : Addr) (cl : List (Str × Addr)) (fp : List Addr), PG (X.blk s H scope (compEnvC scope cl C X.env) fp) tg g)
    (ht : ∀ (s : Shared) (H : Hp) (C : Addr) (cl : List (Str × Addr)) (fp : List Addr), PTs (X.blk s H scope (compEnvC scope cl C X.env) fp) ifs tt)
    (hk : ∀ (s : Shared) (H : Hp) (C : Addr) (cl : List (Str × Addr)) (fp : List Addr), PE (X.blk s H scope (compEnvC scope cl C X.env) fp) kx tk)
    (he : ∀ (s : Shared) (H : Hp) (C : Addr) (cl : List (Str × Addr)) (fp : List Addr), PE (X.blk s H scope (compEnvC scope cl C X.env) fp) vx tv) (hs : ∀ x, foldedSetIterable iter X.env x = pure x) (I : Inv X pins σ H s) (h : tDcX o0 put wi g tt tk tv (own.map (·.2)) σ H Q)
    (hRR : ∀ A C s' H', Inv X pins σ H' s' → Q (.ref A) H' → (∃ m, s'.heap.Ns C m) → FpOk X pins H' C → compPost (model X.prog X.w) X.A X.xe use Qf (.ref A) C (.ok .next) s') :
    wpAny (model X.prog X.w) X.A (comprehension (.DictComp kx vx [⟨tg, iter, ifs, 0⟩] scope pos) scope X.env pos' newDict false (eval iter X.env) use) Qf X.xe s := by
  have cells : ∀ y ∈ scope.names, y.2 = .free → ∃ c, X.env.cells.lookup y.1 = some c := fun y hy e => I.ok.has _ (ok.free y hy e)
  refine wpAny_comprehension_free (use := use) rfl hs (closure_ok cells) ok.kind (fun y hy e => (ok.uniq y hy).trans (by rw [e])) (thn (hi.run pins s σ H _ I h) fun src s1 q1 => thn q1 fun itv s2 ⟨it, fp, tn, J, H2, ei, I2, T, st2, f2, want⟩ => ?_)
  subst ei
  refine wpAny_newObj_type (newEnv_comp ?_)
  obtain ⟨W, ⟨m0, w0⟩, turn⟩ := want s2.heap.objs.size (I2.hok.fresh (Nat.le_refl _))
  have I3 : Inv X pins σ (upd H2 s2.heap.objs.size (o0 s2.heap.objs.size)) { s2 with heap := s2.heap.push { cls := .type "dict", data := .dict #[] } } := I2.laid (t' := s2.toks) (fun b o e => Heap.get?_push_of_some _ e) (Nat.le_refl _) (hnew H2 s2.heap I2.big)
  have old : ∀ b ∈ fp, b < s2.heap.objs.size := fun b hb => by
    obtain ⟨o, e, _⟩ := T.obj _ _ st2 b hb
    exact Heap.lt_size e
  generalize eA : s2.heap.objs.size = A at I3 w0 turn old ⊢
  generalize eH : upd H2 A (o0 A) = H3 at I3 w0 ⊢
  generalize eS : ({ s2 with heap := s2.heap.push { cls := .type "dict", data := .dict #[] } } : Shared) = s3 at I3 ⊢
  have e3 : s3.heap = s2.heap.push { cls := .type "dict", data := .dict #[] } := by rw [← eS]
  have f3 : ∀ b ∈ fp, FpOk X pins H3 b ∧ b < s3.heap.objs.size := fun b hb => by
    obtain ⟨g0, gr⟩ := f2 b hb
    refine ⟨⟨?_, gr⟩, by rw [e3, Heap.size_push, eA]; exact Nat.lt_succ_of_lt (old b hb)⟩
    rw [← eH, upd_ne (Nat.ne_of_lt (old b hb))]
    exact g0
  have k3 : ∀ b o, s2.heap.get? b = some o → s3.heap.get? b = some o := fun b o e => by rw [e3]; exact Heap.get?_push_of_some _ e
  have I4 := block_start I3 ok hN f3
  have runG := hg s3 H3 s3.heap.objs.size (cellsFrom (s3.heap.objs.size + 1) scope.names (cloFrom X.env.cells scope.names [])) fp
  have runT := ht s3 H3 s3.heap.objs.size (cellsFrom (s3.heap.objs.size + 1) scope.names (cloFrom X.env.cells scope.names [])) fp
  have runK := hk s3 H3 s3.heap.objs.size (cellsFrom (s3.heap.objs.size + 1) scope.names (cloFrom X.env.cells scope.names [])) fp
  have runV := he s3 H3 s3.heap.objs.size (cellsFrom (s3.heap.objs.size + 1) scope.names (cloFrom X.env.cells scope.names [])) fp
  have ec : (compEnvC scope (cellsFrom (s3.heap.objs.size + 1) scope.names (cloFrom X.env.cells scope.names [])) s3.heap.objs.size X.env).locals = s3.heap.objs.size := rfl
  have none3 : ∀ b ∈ fp, H3 b = none := fun b hb => (f3 b hb).1.1
  generalize eC : compEnvC scope (cellsFrom (s3.heap.objs.size + 1) scope.names (cloFrom X.env.cells scope.names [])) s3.heap.objs.size X.env = cn at I4 runG runT runK runV ec
  have start4 : tn 0 (pushCells (s3.heap.push { cls := .type "dict", data := .dict #[] }) scope.names) := T.keep _ _ _ st2 fun b _ o e => pushCells_keeps _ _ _ _ (Heap.get?_push_of_some _ (k3 b o e))
  have loop : codeAny (model X.prog X.w) X.A (.compLoop (.DictComp kx vx [⟨tg, iter, ifs, 0⟩] scope pos) 0 (.ref it) (.ref A) cn) (compPost (model X.prog X.w) X.A X.xe use Qf (.ref A) s3.heap.objs.size) { s3 with heap := pushCells (s3.heap.push { cls := .type "dict", data := .dict #[] }) scope.names } := by
    refine compLoop_anyD (fun n s' => ∃ i H', Inv (X.blk s3 H3 scope cn fp) [] (wipe σ (own.map (·.2))) H' s' ∧ tn i s'.heap ∧ (∀ b ∈ fp, H' b = none) ∧ W i n H') ?_ m0 ⟨0, H3, I4, start4, none3, w0⟩
    rintro n t ⟨i, G, It, stt, nn, ww⟩
    have again : ∀ {τ : L2.St} {G' : Hp} {t' : Shared} {h7 : Heap} {Nx : Hp → Prop}, (∀ H', Nx H' → ∃ m', m' < n ∧ W (i + 1) m' H') → tn (i + 1) h7 → wipe τ (own.map (·.2)) = wipe σ (own.map (·.2)) → Inv (X.blk s3 H3 scope cn fp) ([] ++ pinsAt fp h7) τ G' t' → Nx G' →
        ∃ m, m < n ∧ ∃ i H', Inv (X.blk s3 H3 scope cn fp) [] (wipe σ (own.map (·.2))) H' t' ∧ tn i t'.heap ∧ (∀ b ∈ fp, H' b = none) ∧ W i m H' := fun {τ G' t' h7 Nx} hNx s7 hw Iz nx => by
      obtain ⟨m', hm, w'⟩ := hNx G' nx
      obtain ⟨a1, a2, a3⟩ := blk_turn T s7 hw Iz
      exact ⟨m', hm, i + 1, G', a1, a2, a3, w'⟩
    rcases turn i n G ww with ⟨stop, q⟩ | ⟨go, Nx, hNx, step⟩
    · refine thnF (T.done (X.blk s3 H3 scope cn fp) rfl rfl rfl hc i [] t _ G (fun _ _ => False) It (blk_stat It nn) stt stop) fun r t1 ⟨hr1, I1⟩ => ?_
      subst hr1
      obtain ⟨b1, b2, b3⟩ := blk_back I3 (fun b hb => (f3 b hb).1) ec I1
      exact hRR A _ t1 G b1 q b2 b3
    · refine thnF (T.item (X.blk s3 H3 scope cn fp) rfl rfl rfl hc i [] t _ G (fun _ _ => False) It (blk_stat It nn) stt go) fun r t1 ⟨u, hr1, q1⟩ => ?_
      subst hr1
      refine thnF q1 fun _ t2 ⟨x, G2, J2, rx, yx, st', nn'⟩ => ?_
      have J2' := J2.pinned (blk_stat J2 nn') (T.obj _ _ st')
      refine thnF (runG.run _ t2 _ G2 x u _ J2' rx (step x G2 yx)) fun _ t3 ⟨τ, G3, J3, hw, qT⟩ => ?_
      refine thnF (runT.run _ t3 τ G3 _ J3 qT) fun b t4 ⟨G4, J4, qb⟩ => ?_
      cases b with
      | false => exact again hNx st' hw J4 (by simpa using qb)
      | true =>
        simp only [if_true] at qb
        refine thnF (runK.run _ t4 τ G4 _ J4 qb) fun ku t5 ⟨ky, G5, J5, rk, qv⟩ => ?_
        refine thnF (runV.run _ t5 τ G5 _ J5 qv) fun vu t6 ⟨vz, G6, J6, rv, qp⟩ => ?_
        refine thnF (hput (X.blk s3 H3 scope cn fp) rfl rfl rfl rfl _ τ G6 t6 A ky vz ku vu Nx (fun _ _ => False) J6 rk rv (hr.mono (Nat.zero_le _)) qp) fun _ t7 ⟨G7, J7, nx⟩ => ?_
        exact again hNx st' hw J7 nx
  rw [← eC] at loop
  exact codeAny_compStart_dict loop (T.self X.A 0 _ _ _ start4 loop)
theorem pe_dcX {o0 : Addr → HO} {put : TPut} {kx vx tg iter : Expr} {ifs : List Expr} {scope : Scope} {own : List (Str × Nat)} {pos : Pos} {wi : TI} {g : TG} {tt : TT} {tk tv : TE} {n : Nat} (hr : Room n X.A) (hc : X.calm = true) (hN : X.N.Nodup)
    (hnew : ∀ (H : Hp) (h : Heap), sysModules < h.objs.size → ObjOk X.prog X.w (upd H h.objs.size (o0 h.objs.size)) (h.push { cls := .type "dict", data := .dict #[] }) h.objs.size (o0 h.objs.size)) (hput : PutOk X put) (hi : PI X tg iter wi) (ok : BlkOk X.N X.env.scope scope own)
    (hg : ∀ (s : Shared) (H : Hp) (C : Addr) (cl : List (Str × Addr)) (fp : List Addr), PG (X.blk s H scope (compEnvC scope cl C X.env) fp) tg g)
    (ht : ∀ (s : Shared) (H : Hp) (C : Addr) (cl : List (Str × Addr)) (fp : List Addr), PTs (X.blk s H scope (compEnvC scope cl C X.env) fp) ifs tt)
    (hk : ∀ (s : Shared) (H : Hp) (C : Addr) (cl : List (Str × Addr)) (fp : List Addr), PE (X.blk s H scope (compEnvC scope cl C X.env) fp) kx tk)
    (he : ∀ (s : Shared) (H : Hp) (C : Addr) (cl : List (Str × Addr)) (fp : List Addr), PE (X.blk s H scope (compEnvC scope cl C X.env) fp) vx tv) (hs : ∀ x, foldedSetIterable iter X.env x = pure x := by intro _; rfl) :
    PE X (.DictComp kx vx [⟨tg, iter, ifs, 0⟩] scope pos) (tDcX o0 put wi g tt tk tv (own.map (·.2))) := by
  refine ⟨fun pins s σ H Q I h => ?_⟩
  rw [arm_eval_DictComp]
  refine dcx_core hr hc hN hnew hput hi ok hg ht hk he hs I h fun A C s' H' I' q ⟨m, hm⟩ ⟨f0, f1, f2, f3, f4, f5⟩ => ⟨m, hm, fun h'' sb => ?_⟩
  exact ⟨.ref A, H', I'.turned (t' := s'.toks) (fun b o hb e => (sb.2 b hb).trans e) f0 f1 f3 f4 f5, rfl, q⟩
theorem ps_setDcX {o0 : Addr → HO} {put : TPut} {kx vx tg iter : Expr} {ifs : List Expr} {scope : Scope} {own : List (Str × Nat)} {pos spos py : Pos} {i : Nat} {y : Str} {wi : TI} {g : TG} {tt : TT} {tk tv : TE} {n : Nat} (hr : Room n X.A) (hc : X.calm = true) (hN : X.N.Nodup)
    (hy : X.N[i]? = some y) (hyl : X.env.scope.names.lookup y = some .local) (hsw : swapsWith (.DictComp kx vx [⟨tg, iter, ifs, 0⟩] scope pos) (some (.Name y py)) spos.line X.env = pure true)
    (hnew : ∀ (H : Hp) (h : Heap), sysModules < h.objs.size → ObjOk X.prog X.w (upd H h.objs.size (o0 h.objs.size)) (h.push { cls := .type "dict", data := .dict #[] }) h.objs.size (o0 h.objs.size)) (hput : PutOk X put) (hi : PI X tg iter wi) (ok : BlkOk X.N X.env.scope scope own)
    (hg : ∀ (s : Shared) (H : Hp) (C : Addr) (cl : List (Str × Addr)) (fp : List Addr), PG (X.blk s H scope (compEnvC scope cl C X.env) fp) tg g)
    (ht : ∀ (s : Shared) (H : Hp) (C : Addr) (cl : List (Str × Addr)) (fp : List Addr), PTs (X.blk s H scope (compEnvC scope cl C X.env) fp) ifs tt)
    (hk : ∀ (s : Shared) (H : Hp) (C : Addr) (cl : List (Str × Addr)) (fp : List Addr), PE (X.blk s H scope (compEnvC scope cl C X.env) fp) kx tk)
    (he : ∀ (s : Shared) (H : Hp) (C : Addr) (cl : List (Str × Addr)) (fp : List Addr), PE (X.blk s H scope (compEnvC scope cl C X.env) fp) vx tv) (hs : ∀ x, foldedSetIterable iter X.env x = pure x := by intro _; rfl) :
    PS X (.Assign [.Name y py] (.DictComp kx vx [⟨tg, iter, ifs, 0⟩] scope pos) spos) (tAsg (tDcX o0 put wi g tt tk tv (own.map (·.2))) (gName i)) := by
  refine ⟨fun pins s σ H Dk I h => ?_⟩
  have h' : tDcX o0 put wi g tt tk tv (own.map (·.2)) σ H (fun x H1 => gName i x σ H1 Dk.nx) := h
  rw [exec_Assign_Name_used _ _ _ _ hsw]
  refine wpAny_bind (wpAny_standAt (wpAny_bind ?_))
  show wpAny _ X.A (do let _ ← comprehension (.DictComp kx vx [⟨tg, iter, ifs, 0⟩] scope pos) scope X.env (firstIterPos [⟨tg, iter, ifs, 0⟩] pos) newDict false (eval iter X.env) (some (assign (.Name y py) X.env))) _ _ s
  refine wpAny_bind (thn (dcx_core (pos' := firstIterPos [⟨tg, iter, ifs, 0⟩] pos) (use := some (assign (.Name y py) X.env)) (Qf := fun _ s' => SP X pins Dk .next s') hr hc hN hnew hput hi ok hg ht hk he hs I h' fun A C s' H' I' q hm hf => ?_) fun _ s' q => wpAny_pure (wpAny_pure q))
  · obtain ⟨m, hm⟩ := hm
    obtain ⟨f0, f1, f2, f3, f4, f5⟩ := hf
    show wpAny _ _ (assign (.Name y py) X.env (.ref A)) _ _ _
    refine wpAny_assign_Name (store_ok2 (v := V.ref A) I' hN hy (.inl hyl) rfl (fun s2 I2 ⟨a, sb, ha⟩ => ?_) (.inr hyl))
    have ne : C ≠ a := ha.elim (fun z => by rw [z]; exact f1) fun z e => f4 y a z e.symm
    exact ⟨m, hm.sameBut sb ne, fun h3 sb3 => ⟨_, H', I2.turned (t' := s2.toks) (fun b o hb e => (sb3.2 b hb).trans e) f0 f1 f3 f4 f5, q⟩⟩
theorem swd_true {kx vx : Expr} {gs : List Comprehension} {scope : Scope} {pos py : Pos} {y : Str} {l : Nat} {env : Env} (hk : env.scope.kind = .function) (hy : env.scope.names.lookup y = some .local) (hl : (py.line == pos.line) = true)
    (ha : (scope.names.any fun (n, k) => n == y && (k == .local || k == .cell)) = false) : swapsWith (.DictComp kx vx gs scope pos) (some (.Name y py)) l env = pure true := by
  have b : env.blockKind = .function := by unfold Env.blockKind; rw [hk]; rfl
  have k : env.kindOf y = some .local := hy
  unfold swapsWith
  simp only [b, k, ha, Expr.pos, hl]
  rfl
end
end RW

set_option Elab.async false
set_option linter.all false
set_option maxRecDepth 100000
set_option maxHeartbeats 4000000
/-! RwDict2: the dicts' operations over data. -/
namespace RW
open PySem PySem.Spec PyProof.Rows L2

/-- a tuple as a key -/
def dKey (d : D) : Option NK := match d with
  | .tup ds => (toNK (.tup ds)).bind fun k => if k.depth ≤ 8 then some k else none
  | _ => none
theorem dKey_ok {d : D} {k : NK} (h : dKey d = some k) : toNK d = some k ∧ k.depth ≤ 8 ∧ ∃ ds, d = .tup ds := by
  unfold dKey at h
  split at h
  · obtain ⟨k', h1, h2⟩ := Option.bind_eq_some_iff.mp h
    split at h2
    · rename_i hd
      cases h2
      exact ⟨h1, hd, _, rfl⟩
    · cases h2
  · cases h
def hasKey (k : NK) (d : D) : Bool := decide (toNK d = some k)
def dFind (k : NK) : List D → List D → Option D
  | d :: ks, v :: vs => if hasKey k d then some v else dFind k ks vs
  | _, _ => none
def dPutV (k : NK) (v : D) : List D → List D → List D
  | d :: ks, u :: vs => (if hasKey k d then v else u) :: dPutV k v ks vs
  | _, _ => []
def dPut (ks vs : List D) (d : D) (k : NK) (v : D) : List D × List D := if ks.any (hasKey k) then (ks, dPutV k v ks vs) else (ks ++ [d], vs ++ [v])
abbrev Ent := NK × Addr × Value
/-- the entries' keys are there -/
structure Keyed (c : Cg) (F : Hp) (xs : List Ent) (ks : List D) : Prop where
  dat : IsDs c F (xs.map fun x => .ref x.2.1) ks
  nk : toNKs ks = some (xs.map (·.1))
  dep : ∀ x ∈ xs, x.1.depth ≤ 8
structure Valued (c : Cg) (F : Hp) (xs : List Ent) (vv : List V) (vs : List D) : Prop where
  rel : Vals vv (xs.map (·.2.2))
  dat : IsDs c F vv vs
section
variable {c : Cg} {F F' H : Hp}
theorem nks_cons {d : D} {ds : List D} {k : NK} {ks : List NK} (h : toNKs (d :: ds) = some (k :: ks)) : toNK d = some k ∧ toNKs ds = some ks := by
  simp only [toNKs] at h
  split at h
  · rename_i a b h1 h2
    cases h
    exact ⟨h1, h2⟩
  · cases h
theorem nks_nil {ds : List D} (h : toNKs ds = some []) : ds = [] := by
  cases ds with
  | nil => rfl
  | cons d ds =>
    simp only [toNKs] at h
    split at h
    · cases h
    · cases h
theorem find_data {k : NK} : ∀ {xs : List Ent} {ks vs : List D} {vv : List V}, toNKs ks = some (xs.map (·.1)) → Valued c F xs vv vs →
    (∀ p, atKey xs k = some p → ∃ v d, dFind k ks vs = some d ∧ IsD c F v d ∧ RelV v p.2) ∧ (atKey xs k = none → dFind k ks vs = none) ∧ (atKey xs k).isSome = ks.any (hasKey k)
  | [], ks, vs, vv, h, hv => by
    have := nks_nil h
    subst this
    refine ⟨fun p e => by simp [atKey] at e, fun _ => by cases vs <;> rfl, by simp [atKey]⟩
  | (k0, a, w) :: xs, ks, vs, vv, h, hv => by
    cases ks with
    | nil => simp [toNKs] at h
    | cons d ks =>
      obtain ⟨h1, h2⟩ := nks_cons h
      obtain ⟨hr, hd⟩ := hv
      cases hr with
      | @cons v _ vv _ r rr =>
        cases hd with
        | @cons _ _ dv vs i ii =>
          by_cases e : k0 = k
          · subst e
            have e1 : atKey ((k0, a, w) :: xs) k0 = some (a, w) := by simp [atKey]
            have hk : hasKey k0 d = true := by simp [hasKey, h1]
            refine ⟨fun p q => ?_, fun q => (by rw [e1] at q; cases q), (by rw [e1]; simp [hk])⟩
            rw [e1] at q
            cases q
            exact ⟨v, dv, by simp [dFind, hk], i, r⟩
          · have e1 : atKey ((k0, a, w) :: xs) k = atKey xs k := by simp [atKey, e]
            have hk : hasKey k d = false := by simp [hasKey, h1, e]
            obtain ⟨i1, i2, i3⟩ := find_data (k := k) (xs := xs) (ks := ks) (vs := vs) (vv := vv) h2 ⟨rr, ii⟩
            rw [e1]
            refine ⟨fun p q => ?_, fun q => ?_, by rw [i3]; simp [hk]⟩
            · obtain ⟨v', d', j1, j2, j3⟩ := i1 p q
              exact ⟨v', d', by simp [dFind, hk, j1], j2, j3⟩
            · simp [dFind, hk, i2 q]
theorem putAt_keys {k : NK} {u : Value} : ∀ xs : List Ent, (xs.map (putAt k u)).map (fun x => V.ref x.2.1) = xs.map (fun x => V.ref x.2.1) ∧ (xs.map (putAt k u)).map (·.1) = xs.map (·.1)
  | [] => ⟨rfl, rfl⟩
  | x :: xs => by
    obtain ⟨h1, h2⟩ := putAt_keys (k := k) (u := u) xs
    have e1 : (putAt k u x).2.1 = x.2.1 := by unfold putAt; split <;> rfl
    have e2 : (putAt k u x).1 = x.1 := by unfold putAt; split <;> rfl
    simp only [List.map_cons, e1, e2, h1, h2, and_self]
theorem putAt_vals {k : NK} {z : V} {u : Value} {dz : D} (rz : RelV z u) (hz : IsD c F z dz) : ∀ {xs : List Ent} {ks vs : List D} {vv : List V}, toNKs ks = some (xs.map (·.1)) → Valued c F xs vv vs → ∃ vv', Valued c F (xs.map (putAt k u)) vv' (dPutV k dz ks vs)
  | [], ks, vs, vv, h, hv => by
    have := nks_nil h
    subst this
    exact ⟨[], .nil, by cases vs <;> exact .nil⟩
  | (k0, a, w) :: xs, ks, vs, vv, h, hv => by
    cases ks with
    | nil => simp [toNKs] at h
    | cons d ks =>
      obtain ⟨h1, h2⟩ := nks_cons h
      obtain ⟨hr, hd⟩ := hv
      cases hr with
      | @cons v _ vv _ r rr =>
        cases hd with
        | @cons _ _ dv vs i ii =>
          obtain ⟨vv', g1, g2⟩ := putAt_vals (k := k) rz hz (xs := xs) (ks := ks) (vs := vs) (vv := vv) h2 ⟨rr, ii⟩
          by_cases e : k0 = k
          · subst e
            have hk : hasKey k0 d = true := by simp [hasKey, h1]
            refine ⟨z :: vv', ?_, ?_⟩
            · simp only [List.map_cons, putAt, if_pos]
              exact .cons rz g1
            · simp only [dPutV, hk, if_true]
              exact .cons hz g2
          · have hk : hasKey k d = false := by simp [hasKey, h1, e]
            refine ⟨v :: vv', ?_, ?_⟩
            · simp only [List.map_cons, putAt, if_neg e]
              exact .cons r g1
            · simp only [dPutV, hk, Bool.false_eq_true, if_false]
              exact .cons i g2
theorem toNKs_snoc : ∀ {ds : List D} {ks : List NK} {d : D} {k : NK}, toNKs ds = some ks → toNK d = some k → toNKs (ds ++ [d]) = some (ks ++ [k])
  | [], ks, d, k, h, hd => by
    cases h
    simp [toNKs, hd]
  | e :: ds, ks, d, k, h, hd => by
    simp only [toNKs] at h
    split at h
    · rename_i a b h1 h2
      cases h
      have := toNKs_snoc h2 hd
      simp [toNKs, h1, this]
    · cases h
theorem put_data {k : NK} {p : Addr} {d dz : D} {z : V} {u : Value} {xs : List Ent} {ks vs : List D} {vv : List V} (K : Keyed c F xs ks) (hv : Valued c F xs vv vs) (hd : IsD c F (.ref p) d) (hk : dKey d = some k) (rz : RelV z u) (hz : IsD c F z dz) :
    Keyed c F (storedH xs k p u) (dPut ks vs d k dz).1 ∧ (∃ vv', Valued c F (storedH xs k p u) vv' (dPut ks vs d k dz).2) ∧ (storedH xs k p u).length ≤ xs.length + 1 := by
  obtain ⟨_, _, f3⟩ := find_data (k := k) K.nk hv
  obtain ⟨hk1, hk2, _⟩ := dKey_ok hk
  unfold storedH dPut
  rw [f3]
  by_cases h : ks.any (hasKey k) = true
  · rw [if_pos h, if_pos h]
    obtain ⟨g1, g2⟩ := putAt_keys (k := k) (u := u) xs
    refine ⟨⟨by rw [g1]; exact K.dat, by rw [g2]; exact K.nk, fun x hx => ?_⟩, putAt_vals rz hz K.nk hv, by simp⟩
    obtain ⟨y, hy, rfl⟩ := List.mem_map.mp hx
    have : (putAt k u y).1 = y.1 := by unfold putAt; split <;> rfl
    rw [this]
    exact K.dep y hy
  · rw [if_neg h, if_neg h]
    refine ⟨⟨?_, ?_, fun x hx => ?_⟩, ⟨vv ++ [z], ?_, IsDs.append (.cons hz .nil) hv.dat⟩, by simp⟩
    · rw [List.map_append]
      exact IsDs.append (.cons hd .nil) K.dat
    · rw [List.map_append]
      exact toNKs_snoc K.nk hk1
    · rcases List.mem_append.mp hx with m | m
      · exact K.dep x m
      · have : x = (k, p, u) := by simpa using m
        rw [this]
        exact hk2
    · rw [List.map_append]
      exact hv.rel.append (.cons rz .nil)
theorem Keyed.mono {xs : List Ent} {ks : List D} (K : Keyed c F xs ks) (s : Same F F') : Keyed c F' xs ks := ⟨K.dat.mono s, K.nk, K.dep⟩
theorem Valued.mono {xs : List Ent} {vv : List V} {vs : List D} (K : Valued c F xs vv vs) (s : Same F F') : Valued c F' xs vv vs := ⟨K.rel, K.dat.mono s⟩
end

section
variable {X : Cx} {pins : List (Addr × Obj)} {σ : L2.St} {H F : Hp} {s : Shared} {A : Addr}
theorem dct_ok {P : Program} {w : World} {H : Hp} {h : Heap} {a : Addr} {xs : List Ent} (R : DctN0 P w h a xs) : ObjOk P w H h a (DctKO P w a xs) := by
  refine ⟨R, ?_, fun h1 h2 ⟨b1, b2, o, es, ep, e, x⟩ k => ⟨b1, b2, o, es, ep, k o e, x⟩⟩
  obtain ⟨_, _, o, _, _, e, _⟩ := R
  exact ⟨o, e⟩
theorem dct_new {P : Program} {w : World} {H : Hp} {h : Heap} (big : sysModules < h.objs.size) : ObjOk P w H (h.push { cls := .type "dict", data := .dict #[] }) h.objs.size (DctKO P w h.objs.size []) :=
  dct_ok ⟨beq_eq_false_iff_ne.mpr (Nat.ne_of_gt big), Nat.zero_le _, _, #[], 0, Heap.get?_push_size _ rfl, ⟨rfl, rfl, rfl⟩, rfl, rfl, List.nodup_nil⟩
/-- the library's word -/
theorem vals_ents : ∀ xs : List Ent, Vals (xs.map fun x => V.ref x.2.1) (xs.map fun x => Value.ref x.2.1)
  | [] => .nil
  | _ :: xs => .cons rfl (vals_ents xs)
theorem dct_at {xs : List Ent} {ks : List D} (I : Inv X pins σ H s) (sF : Same F H) (e : H A = some (DctKO X.prog X.w A xs)) (K : Keyed ⟨X.K, X.mg, X.prog, X.w⟩ F xs ks) :
    (A == sysModules) = false ∧ xs.length ≤ sizeLine ∧ s.heap.DictOfH (nestedKind X.prog X.w) A xs := by
  obtain ⟨⟨b1, b2, o, es, ep, h1, h2, h3, h4, h5⟩, _, _⟩ := I.hok A _ e
  have all := IsDs.nk I sF K.dat K.nk (us := xs.map fun x => .ref x.2.1) (vals_ents xs)
  have each : ∀ {ys : List Ent}, NestedAll s.heap (ys.map (·.1)) (ys.map fun x => .ref x.2.1) → ∀ x ∈ ys, NestedIs s.heap x.1 (.ref x.2.1) := by
    intro ys
    induction ys with
    | nil => intro _ x hx; cases hx
    | cons y ys ih =>
      intro h x hx
      cases h with
      | cons g1 g2 =>
        rcases List.mem_cons.mp hx with z | z
        · rw [z]; exact g1
        · exact ih g2 x z
  exact ⟨b1, b2, o, es, ep, h1, h2, h3, h4, fun x hx => ⟨each all x hx, K.dep x hx⟩, h5⟩
end
end RW

set_option Elab.async false
set_option linter.all false
set_option maxRecDepth 100000
set_option maxHeartbeats 4000000
/-! RwDict3: in, not in, d[k], {k: v for ..}. -/
namespace RW
open PySem PySem.Spec PyProof.Rows L2

/-- a dict and a key of its kind -/
def AtDct (c : Cg) (x y : V) (H : Hp) (k : NK) (ks vs : List D) : Prop := ∃ F p A d xs vv, x = .ref p ∧ y = .ref A ∧ Same F H ∧ IsD c F x d ∧ dKey d = some k ∧ H A = some (DctKO c.P c.w A xs) ∧ Keyed c F xs ks ∧ Valued c F xs vv vs
def rInDct (c : Cg) : R2 := fun x y H Q => ∃ k ks vs, AtDct c x y H k ks vs ∧ Q (.bl (ks.any (hasKey k))) H
def rNotInDct (c : Cg) : R2 := fun x y H Q => ∃ k ks vs, AtDct c x y H k ks vs ∧ Q (.bl (!ks.any (hasKey k))) H
def rIxDct (c : Cg) : R2 := fun x y H Q => ∃ F p A d0 k xs ks vs vv d, y = .ref p ∧ x = .ref A ∧ Same F H ∧ IsD c F y d0 ∧ dKey d0 = some k ∧ H A = some (DctKO c.P c.w A xs) ∧ Keyed c F xs ks ∧ Valued c F xs vv vs ∧ dFind k ks vs = some d ∧ ∀ v, IsD c F v d → Q v H
section
variable {X : Cx} {n : Nat}
theorem key_at {pins : List (Addr × Obj)} {σ : L2.St} {H F : Hp} {s : Shared} {p : Addr} {d : D} {k : NK} (I : Inv X pins σ H s) (sF : Same F H) (h : IsD (cg X) F (.ref p) d) (hk : dKey d = some k) : (nestedKind X.prog X.w).is s.heap k p :=
  ⟨IsD.nk I sF h (dKey_ok hk).1 rfl, (dKey_ok hk).2.1⟩
theorem room8 (hr : Room n X.A) : (nestedKind X.prog X.w).room X.A.in1 := by
  show X.A.in1.units + 8 < cLine
  have := hr.un
  unfold Around.in1
  simp only
  omega
theorem op_inDct (hr : Room n X.A) : OpR X (compareOp .In) (rInDct (cg X)) := by
  intro pins s σ H x y v u Q I rx ry h
  obtain ⟨k, ks, vs, ⟨F, p, A, d, xs, vv, rfl, rfl, sF, hd, hk, hA, K, hv⟩, q⟩ := h
  cases rx
  cases ry
  obtain ⟨b1, b2, b3⟩ := dct_at I sF hA K
  refine wpAny_in_heap (room8 hr) (key_at I sF hd hk) b1 b3 ?_
  rw [(find_data (k := k) K.nk hv).2.2]
  exact ⟨.bl _, H, I.kept (h' := s.heap) fun b o e => e, rfl, q⟩
theorem op_notInDct (hr : Room n X.A) : OpR X (compareOp .NotIn) (rNotInDct (cg X)) := by
  intro pins s σ H x y v u Q I rx ry h
  obtain ⟨k, ks, vs, ⟨F, p, A, d, xs, vv, rfl, rfl, sF, hd, hk, hA, K, hv⟩, q⟩ := h
  cases rx
  cases ry
  obtain ⟨b1, b2, b3⟩ := dct_at I sF hA K
  refine wpAny_notIn_heap (room8 hr) (key_at I sF hd hk) b1 b3 ?_
  rw [(find_data (k := k) K.nk hv).2.2]
  exact ⟨.bl _, H, I.kept (h' := s.heap) fun b o e => e, rfl, q⟩
theorem ix_dct (hr : Room n X.A) : IxR X (rIxDct (cg X)) := by
  intro value slice pins s σ H x y v u Q I rx ry h hs
  obtain ⟨F, p, A, d0, k, xs, ks, vs, vv, d, rfl, rfl, sF, hd, hk, hA, K, hv, hf, q⟩ := h
  cases rx
  cases ry
  obtain ⟨b1, b2, b3⟩ := dct_at I sF hA K
  obtain ⟨f1, f2, f3⟩ := find_data (k := k) K.nk hv
  cases e : atKey xs k with
  | none => rw [f2 e] at hf; cases hf
  | some pr =>
    obtain ⟨v', d', g1, g2, g3⟩ := f1 pr e
    rw [hf] at g1
    cases g1
    exact tail_any b3.typeIs PySem.F.slot_dict_getitem.lookup (wpAny_getItem_heap (room8 hr) (key_at I sF hd hk) b3 e ⟨v', H, I.kept (h' := s.heap) fun b o e => e, g3, q v' g2⟩) hs
end
def inV2 (x y : D) : Option RV := match y with
  | .dct ks _ => (dKey x).map fun k => .val (.bl (ks.any (hasKey k)))
  | y => inV' x y
def notinV2 (x y : D) : Option RV := match y with
  | .dct ks _ => (dKey x).map fun k => .val (.bl (!ks.any (hasKey k)))
  | y => notinX x y
def ixV2 (x y : D) : Option RV := match x with
  | .dct ks vs => (dKey y).bind fun k => (dFind k ks vs).map .val
  | x => ixV x y
theorem isDct {c : Cg} {F : Hp} {x : V} {ks vs : List D} (h : IsD c F x (.dct ks vs)) : ∃ A xs vv, x = .ref A ∧ F A = some (DctKO c.P c.w A xs) ∧ Keyed c F xs ks ∧ Valued c F xs vv vs := by
  cases h with
  | dctK h1 h2 h3 h4 h5 h6 => exact ⟨_, _, _, rfl, h1, ⟨h2, h3, h4⟩, ⟨h5, h6⟩⟩
theorem tup_ref {c : Cg} {F : Hp} {x : V} {d : D} {k : NK} (h : IsD c F x d) (hk : dKey d = some k) : ∃ p, x = .ref p := by
  obtain ⟨_, _, ds, rfl⟩ := dKey_ok hk
  obtain ⟨a, _, rfl, _⟩ := isTup h
  exact ⟨a, rfl⟩
theorem at_dct {c : Cg} {F H : Hp} {x y : V} {dx : D} {ks vs : List D} {k : NK} (sF : Same F H) (hx : IsD c F x dx) (hy : IsD c F y (.dct ks vs)) (hk : dKey dx = some k) : AtDct c x y H k ks vs := by
  obtain ⟨A, xs, vv, rfl, hA, K, hv⟩ := isDct hy
  obtain ⟨p, rfl⟩ := tup_ref hx hk
  exact ⟨F, p, A, dx, xs, vv, rfl, rfl, sF, hx, hk, sF _ _ hA, K, hv⟩
theorem og_in2 {c : Cg} : OpD c (fun x y H Q => rInX c.K x y H Q ∨ rInDct c x y H Q) inV2 := by
  intro B F H σ env x y dx dy rv Q R hx hy e fin
  cases dy with
  | dct ks vs =>
    obtain ⟨k, hk, rfl⟩ := Option.map_eq_some_iff.mp e
    exact .inr ⟨k, ks, vs, at_dct R.sub hx hy hk, fin_val R fin (.bl _)⟩
  | _ => exact .inl (og_in B F H σ env x y dx _ rv Q R hx hy e fin)
theorem og_notin2 {c : Cg} : OpD c (fun x y H Q => rNotInX c.K x y H Q ∨ rNotInDct c x y H Q) notinV2 := by
  intro B F H σ env x y dx dy rv Q R hx hy e fin
  cases dy with
  | dct ks vs =>
    obtain ⟨k, hk, rfl⟩ := Option.map_eq_some_iff.mp e
    exact .inr ⟨k, ks, vs, at_dct R.sub hx hy hk, fin_val R fin (.bl _)⟩
  | _ => exact .inl (og_notin B F H σ env x y dx _ rv Q R hx hy e fin)
section
variable {X : Cx} {n : Nat} {a b : Expr} {ma mb : Mn D} {pos : Pos}
theorem eIn2 (hr : Room n X.A) (ha : EvD X a ma) (hb : EvD X b mb) (hm : behindInMarks .In b = false := by with_unfolding_all rfl) : EvE X (.Compare a [.In] [b] pos) (op2 inV2 ma mb) := ee_cmp ((op_inX (hu65 hr)).or (op_inDct hr)) og_in2 ha hb hm
theorem eNotIn2 (hr : Room n X.A) (ha : EvD X a ma) (hb : EvD X b mb) (hm : behindInMarks .NotIn b = false := by with_unfolding_all rfl) : EvE X (.Compare a [.NotIn] [b] pos) (op2 notinV2 ma mb) := ee_cmp ((op_notInX (hu65 hr)).or (op_notInDct hr)) og_notin2 ha hb hm
theorem tIn2 (hr : Room n X.A) (ha : EvD X a ma) (hb : EvD X b mb) (hm : behindInMarks .In b = false := by with_unfolding_all rfl) : EvT X (.Compare a [.In] [b] pos) (cmpT inV2 ma mb) := et_cmp ((op_inX (hu65 hr)).or (op_inDct hr)) og_in2 ha hb hm
theorem tNotIn2 (hr : Room n X.A) (ha : EvD X a ma) (hb : EvD X b mb) (hm : behindInMarks .NotIn b = false := by with_unfolding_all rfl) : EvT X (.Compare a [.NotIn] [b] pos) (cmpT notinV2 ma mb) := et_cmp ((op_notInX (hu65 hr)).or (op_notInDct hr)) og_notin2 ha hb hm
theorem ee_ix2 (hr : Room n X.A) (ha : EvD X a ma) (hb : EvD X b mb) (hs : PlainIx b) : EvE X (.Subscript a b pos) (op2 ixV2 ma mb) := fun B tk => by
  refine PE.mono (pe_ix (ix_seq.or (ix_dct hr)) (ha B tk) (hb B tk) hs) fun σ H Q ⟨F, env, r, env', R, hm, fin⟩ => ?_
  refine bindD R hm (fun dx env1 hk F1 H1 x R1 s1 ix => ?_) (exE fin)
  have fin1 := FinE.mono fin s1
  refine bindD R1 hk (fun dy env2 hk2 F2 H2 y R2 s2 iy => ?_) (exE fin1)
  obtain ⟨rv, e1, rfl, rfl⟩ := lift_cases hk2
  have fin2 := FinE.mono fin1 s2
  have ix2 := ix.mono s2
  cases dx with
  | dct ks vs =>
    obtain ⟨k, hkey, h2⟩ := Option.bind_eq_some_iff.mp e1
    obtain ⟨d, hf, rfl⟩ := Option.map_eq_some_iff.mp h2
    obtain ⟨A, xs, vv, rfl, hA, K, hv⟩ := isDct ix2
    obtain ⟨p, rfl⟩ := tup_ref iy hkey
    exact .inr ⟨F2, p, A, dy, k, xs, ks, vs, vv, d, rfl, rfl, R2.sub, iy, hkey, R2.sub _ _ hA, K, hv, hf, fun v hv' => fin2 F2 H2 v R2 (Same.refl _) hv'⟩
  | _ => exact .inl (og_ix B F2 H2 σ env' x y _ dy rv Q R2 ix2 iy e1 fin2)
end
end RW

set_option Elab.async false
set_option linter.all false
set_option maxRecDepth 100000
set_option maxHeartbeats 4000000
/-! RwDict4: {k: v for target in iter if ..} over data, the keys tuples. -/
namespace RW
open PySem PySem.Spec PyProof.Rows L2

def putD (c : Cg) : TPut := fun H A y z Nx => ∃ F p d dz k xs ks vs vv, y = .ref p ∧ Same F H ∧ IsD c F y d ∧ dKey d = some k ∧ IsD c F z dz ∧ H A = some (DctKO c.P c.w A xs) ∧ Keyed c F xs ks ∧ Valued c F xs vv vs ∧ xs.length < sizeLine ∧
  ∀ u, RelV z u → Nx (upd H A (DctKO c.P c.w A (storedH xs k p u)))
section
variable {X : Cx} {pins : List (Addr × Obj)} {σ : L2.St} {H : Hp} {s : Shared} {A p : Addr} {xs : List Ent} {k : NK} {u : Value}
/-- the dict at A after a store -/
theorem dct_write {h' : Heap} {tk : Nat} {mg0 : HO} (I : Inv X pins σ H s) (mu : H A = some (DctKO X.prog X.w A xs)) (b1 : (A == sysModules) = false) (hz : (storedH xs k p u).length ≤ sizeLine) (hm : h'.DictOfH (nestedKind X.prog X.w) A (storedH xs k p u)) (hs : Heap.SameBut A s.heap h') :
    Inv X pins σ (upd H A (DctKO X.prog X.w A (storedH xs k p u))) { s with heap := h', toks := tk } := by
  obtain ⟨o, es, ep, g1, g2, g3, g4, g5, g6⟩ := hm
  exact d_write I (by rw [mu]; exact True.intro) hs ⟨o, g1⟩ (dct_ok ⟨b1, hz, o, es, ep, g1, g2, g3, g4, g6⟩)
end
theorem putD_ok {X : Cx} : PutOk X (putD (cg X)) := by
  intro Y e1 e2 e3 e4 pins σ H s A y z u r Nx E I ry rz hr h
  obtain ⟨F, p, d, dz, k, xs, ks, vs, vv, rfl, sF, hd, hk, hz, hA, K, hv, hl, nx⟩ := h
  have ec : cg X = cg Y := by show Cg.mk X.K X.mg X.prog X.w = Cg.mk Y.K Y.mg Y.prog Y.w; rw [e1, e2, e3, e4]
  cases ry
  rw [ec] at hd hz hA K hv nx
  obtain ⟨b1, b2, b3⟩ := dct_at I sF hA K
  have hl2 := (put_data (vs := vs) K hv hd hk rz hz).2.2
  refine wpAny_dictSet_heap (hsz := b2) (by show Y.A.units + 8 < cLine; have := hr.un; omega) (key_at I sF hd hk) b3 fun h' hm hs => ?_
  exact ⟨_, dct_write (mg0 := .tup []) I hA b1 (by omega) hm hs, nx r rz⟩
def dcGo (g : Bd) (tt : Mn Bool) (tk tv : Mn D) (base : En) : List D → List D × List D → Option (List D × List D)
  | [], acc => some acc
  | d :: ds, acc => match g d base with
    | none => none
    | some e1 => match tt e1 with
      | some (.ok true, e2) => (match tk e2 with
        | some (.ok kd, e3) => (match tv e3 with
          | some (.ok vd, _) => (match dKey kd with
            | some k => dcGo g tt tk tv base ds (dPut acc.1 acc.2 kd k vd)
            | none => none)
          | _ => none)
        | _ => none)
      | some (.ok false, _) => dcGo g tt tk tv base ds acc
      | _ => none
def dcM (src : Mn (List D)) (g : Bd) (tt : Mn Bool) (tk tv : Mn D) (own : List Nat) : Mn RV := src.bind fun ds env => if ds.length ≤ sizeLine then (dcGo g tt tk tv (wipeE env own) ds ([], [])).map fun q => (.ok (.val (.dct q.1 q.2)), env) else none
theorem dc_ok {c : Cg} {B : Bs} {F1 H1 : Hp} {σ : L2.St} {env1 : En} {J : It} {ds : List D} {res : List D × List D} {g : Bd} {tt : Mn Bool} {tk tv : Mn D} {own is : List Nat} {Q : VK} (R1 : Rel c B F1 σ H1 env1) (y : Yl c F1 J ds) (hz : ds.length ≤ sizeLine)
    (hgo : dcGo g tt tk tv (wipeE env1 own) ds ([], []) = some res) (hs : ∀ i ∈ is, i ∈ own) (fin : FinE c B F1 σ env1 Q (.ok (.val (.dct res.1 res.2)))) :
    ∀ A, H1 A = none → ∃ W : Nat → Nat → Hp → Prop, (∃ m, W 0 m (upd H1 A (DctKO c.P c.w A []))) ∧ ∀ i m H, W i m H → (J.stop i H ∧ Q (.ref A) H) ∨ (J.go i H ∧ ∃ Nx : Hp → Prop, (∀ H', Nx H' → ∃ m', m' < m ∧ W (i + 1) m' H') ∧
      ∀ x H', J.yld i H x H' → gX c is g x (wipe σ own) H' fun σ2 H2 => wipe σ2 own = wipe σ own ∧ tX c tt σ2 H2 fun b H3 => if b = true then eX c tk σ2 H3 fun y H4 => eX c tv σ2 H4 fun z H5 => putD c H5 A y z Nx else Nx H3) := by
  intro A hA
  have fA := free_new R1 hA
  have mA := mine_new R1 hA
  refine ⟨fun i m H => m = ds.length - i ∧ i ≤ ds.length ∧ ∃ F' xs ks vs vv, Rel c B F' σ H env1 ∧ Same F1 F' ∧ H A = some (DctKO c.P c.w A xs) ∧ F' A = none ∧ Keyed c F' xs ks ∧ Valued c F' xs vv vs ∧ xs.length ≤ i ∧ dcGo g tt tk tv (wipeE env1 own) (ds.drop i) (ks, vs) = some res,
    ⟨ds.length, by simp, Nat.zero_le _, F1, [], [], [], [], R1.newO hA, Same.refl _, upd_same, R1.sub.free hA, ⟨.nil, rfl, fun x hx => by cases hx⟩, ⟨.nil, .nil⟩, Nat.le_refl _, by simpa using hgo⟩, ?_⟩
  rintro i m H ⟨rfl, hi, F', xs, ks, vs, vv, R, s, hH, hF, K, hv, hl, hgo'⟩
  by_cases hlt : i < ds.length
  · refine .inr ⟨y.go F' H i s R.sub hlt, fun H2 => ∃ F2 xs2 ks2 vs2 vv2, Rel c B F2 σ H2 env1 ∧ Same F1 F2 ∧ H2 A = some (DctKO c.P c.w A xs2) ∧ F2 A = none ∧ Keyed c F2 xs2 ks2 ∧ Valued c F2 xs2 vv2 vs2 ∧ xs2.length ≤ i + 1 ∧ dcGo g tt tk tv (wipeE env1 own) (ds.drop (i + 1)) (ks2, vs2) = some res,
      fun H2 q => ⟨ds.length - (i + 1), by omega, rfl, hlt, q⟩, fun x H2 yl => ?_⟩
    obtain ⟨d, hdi, q⟩ := y.yld F' H i x H2 s R.sub hlt yl
    obtain ⟨F2, R2, s2, hx, hA2, hF2⟩ : ∃ F2, Rel c B F2 σ H2 env1 ∧ Same F' F2 ∧ IsD c F2 x d ∧ H2 A = some (DctKO c.P c.w A xs) ∧ F2 A = none := by
      rcases q with ⟨rfl, h⟩ | ⟨p, u, hp, rfl, h⟩
      · exact ⟨F', R, Same.refl _, h, hH, hF⟩
      · obtain ⟨R2, s2⟩ := R.newF (o := u) hp
        exact ⟨_, R2, s2, h, by rw [upd_ne (ne_of_none hH hp)]; exact hH, by rw [upd_ne (ne_of_none hH hp)]; exact hF⟩
    have e0 : ds.drop i = d :: ds.drop (i + 1) := by
      rw [List.drop_eq_getElem_cons hlt]
      congr 1
      rw [List.getElem?_eq_getElem hlt] at hdi
      exact Option.some.inj hdi
    rw [e0] at hgo'
    unfold dcGo at hgo'
    cases eg : g d (wipeE env1 own) with
    | none => rw [eg] at hgo'; cases hgo'
    | some e1 =>
      rw [eg] at hgo'
      simp only at hgo'
      have RB := R2.stillW own
      refine ⟨Bs.still H2 F2, F2, wipeE env1 own, d, e1, rfl, RB, hx, eg, fun σ3 R3 o3 => ⟨wipe_only o3 hs, Bs.still H2 F2, rfl, ?_⟩⟩
      cases et : tt e1 with
      | none => rw [et] at hgo'; cases hgo'
      | some p =>
        obtain ⟨rt, e2⟩ := p
        rw [et] at hgo'
        cases rt with
        | ex x f => cases hgo'
        | ok b =>
          refine ⟨F2, e1, .ok b, e2, R3, et, fun F4 H4 R4 s4 => ?_⟩
          have R4' := R2.after' R4 s4
          have hA4 := R4.frm A _ hA2 (fun z => z)
          cases b with
          | false =>
            simp only [Bool.false_eq_true, if_false]
            exact ⟨F4, xs, ks, vs, vv, R4', (s.trans s2).trans s4, hA4.1, by rw [hA4.2]; exact hF2, K.mono (s2.trans s4), hv.mono (s2.trans s4), Nat.le_succ_of_le hl, hgo'⟩
          | true =>
            simp only [if_true]
            refine ⟨Bs.still H2 F2, rfl, ?_⟩
            simp only at hgo'
            cases ek : tk e2 with
            | none => rw [ek] at hgo'; cases hgo'
            | some p =>
              obtain ⟨rk, e3⟩ := p
              rw [ek] at hgo'
              cases rk with
              | ex x f => cases hgo'
              | ok kd =>
                simp only at hgo'
                refine ⟨F4, e2, .ok kd, e3, R4, ek, fun F5 H5 ky R5 s5 iky => ⟨Bs.still H2 F2, rfl, ?_⟩⟩
                cases ev : tv e3 with
                | none => rw [ev] at hgo'; cases hgo'
                | some p =>
                  obtain ⟨rv, e4⟩ := p
                  rw [ev] at hgo'
                  cases rv with
                  | ex x f => cases hgo'
                  | ok vd =>
                    simp only at hgo'
                    refine ⟨F5, e3, .ok vd, e4, R5, ev, fun F6 H6 vz R6 s6 ivz => ?_⟩
                    cases hk : dKey kd with
                    | none => rw [hk] at hgo'; cases hgo'
                    | some k =>
                      rw [hk] at hgo'
                      simp only at hgo'
                      have R6' := R2.after' R6 ((s4.trans s5).trans s6)
                      have hA6 := R6.frm A _ hA2 (fun z => z)
                      have hF6 : F6 A = none := by rw [hA6.2]; exact hF2
                      have sA := ((s2.trans s4).trans s5).trans s6
                      have iky' := iky.mono s6
                      obtain ⟨p, rfl⟩ := tup_ref iky' hk
                      refine ⟨F6, p, kd, vd, k, xs, ks, vs, vv, rfl, R6.sub, iky', hk, ivz, hA6.1, K.mono sA, hv.mono sA, by omega, fun u ru => ?_⟩
                      obtain ⟨g1, ⟨vv', g2⟩, g3⟩ := put_data (K.mono sA) (hv.mono sA) iky' hk ru ivz
                      exact ⟨F6, _, _, _, vv', R6'.write hA6.1 hF6 fA mA, s.trans sA, upd_same, hF6, g1, g2, by omega, hgo'⟩
  · have e : i = ds.length := by omega
    subst e
    rw [List.drop_length] at hgo'
    cases hgo'
    obtain ⟨R2, s2⟩ := R.freeze hH hF fA mA
    exact .inl ⟨y.stop F' H s R.sub, fin _ H (.ref A) R2 (s.trans s2) (.dctK upd_same (K.dat.mono s2) K.nk K.dep hv.rel (hv.dat.mono s2))⟩
section
variable {X : Cx}
theorem ee_dc {kx vx tg iter : Expr} {ifs : List Expr} {scope : Scope} {own : List (Str × Nat)} {pos : Pos} {src : Mn (List D)} {is : List Nat} {g : Bd} {tt : Mn Bool} {tk tv : Mn D} {n : Nat} (hr : Room n X.A) (hc : X.calm = true) (hN : X.N.Nodup) (hi : EvI X tg iter src) (ok : BlkOk X.N X.env.scope scope own)
    (hg : ∀ (s : Shared) (H : Hp) (C : Addr) (cl : List (Str × Addr)) (fp : List Addr), EvG (X.blk s H scope (compEnvC scope cl C X.env) fp) tg is g)
    (ht : ∀ (s : Shared) (H : Hp) (C : Addr) (cl : List (Str × Addr)) (fp : List Addr), EvTs (X.blk s H scope (compEnvC scope cl C X.env) fp) ifs tt)
    (hk : ∀ (s : Shared) (H : Hp) (C : Addr) (cl : List (Str × Addr)) (fp : List Addr), EvD (X.blk s H scope (compEnvC scope cl C X.env) fp) kx tk)
    (he : ∀ (s : Shared) (H : Hp) (C : Addr) (cl : List (Str × Addr)) (fp : List Addr), EvD (X.blk s H scope (compEnvC scope cl C X.env) fp) vx tv)
    (hio : ∀ i ∈ is, i ∈ own.map (·.2)) (hs : ∀ x, foldedSetIterable iter X.env x = pure x := by intro _; rfl) :
    EvE X (.DictComp kx vx [⟨tg, iter, ifs, 0⟩] scope pos) (dcM src g tt tk tv (own.map (·.2))) := fun B tk' => by
  have P := pe_dcX (pos := pos) (o0 := fun A => DctKO X.prog X.w A []) (put := putD (cg X)) (wi := tI (cg X) B src) (g := gX (cg X) is g) (tt := tX (cg X) tt) (tk := eX (cg X) tk) (tv := eX (cg X) tv) hr hc hN (fun H h big => dct_new big) putD_ok (hi B tk') ok
    (fun s H C cl fp => ⟨fun pins s' σ H' v u Q I r ⟨B', F, env, d, env', w, q⟩ => (hg s H C cl fp B' (takes0' w)).run pins s' σ H' v u Q I r ⟨F, env, d, env', q⟩⟩)
    (fun s H C cl fp => ⟨fun pins s' σ H' Q I ⟨B', w, q⟩ => (ht s H C cl fp B' (takes0' w)).run pins s' σ H' Q I q⟩)
    (fun s H C cl fp => ⟨fun pins s' σ H' Q I ⟨B', w, q⟩ => (hk s H C cl fp B' (takes0' w)).run pins s' σ H' Q I q⟩)
    (fun s H C cl fp => ⟨fun pins s' σ H' Q I ⟨B', w, q⟩ => (he s H C cl fp B' (takes0' w)).run pins s' σ H' Q I q⟩) hs
  refine PE.mono P fun σ H Q ⟨F, env, r, env', R, hm, fin⟩ => ?_
  show tI _ _ _ _ _ _
  rcases bind_cases hm with ⟨ds, env1, h1, h2⟩ | ⟨x, f, h1, rfl⟩
  · refine ⟨F, env, _, _, R, h1, fun F1 H1 J R1 s1 y => ?_⟩
    split at h2
    · rename_i hz
      rw [Option.map_eq_some_iff] at h2
      obtain ⟨res, hgo, e⟩ := h2
      cases e
      exact dc_ok R1 y hz hgo hio (FinE.mono fin s1)
    · cases h2
  · exact ⟨F, env, _, _, R, h1, fin⟩
theorem es_setDc {kx vx tg iter : Expr} {ifs : List Expr} {scope : Scope} {own : List (Str × Nat)} {pos spos py : Pos} {i : Nat} {y : Str} {src : Mn (List D)} {is : List Nat} {g : Bd} {tt : Mn Bool} {tk tv : Mn D} {n : Nat} (hr : Room n X.A) (hc : X.calm = true) (hN : X.N.Nodup) (hy : X.N[i]? = some y) (hyl : X.env.scope.names.lookup y = some .local) (hsw : swapsWith (.DictComp kx vx [⟨tg, iter, ifs, 0⟩] scope pos) (some (.Name y py)) spos.line X.env = pure true) (hi : EvI X tg iter src) (ok : BlkOk X.N X.env.scope scope own)
    (hg : ∀ (s : Shared) (H : Hp) (C : Addr) (cl : List (Str × Addr)) (fp : List Addr), EvG (X.blk s H scope (compEnvC scope cl C X.env) fp) tg is g)
    (ht : ∀ (s : Shared) (H : Hp) (C : Addr) (cl : List (Str × Addr)) (fp : List Addr), EvTs (X.blk s H scope (compEnvC scope cl C X.env) fp) ifs tt)
    (hk : ∀ (s : Shared) (H : Hp) (C : Addr) (cl : List (Str × Addr)) (fp : List Addr), EvD (X.blk s H scope (compEnvC scope cl C X.env) fp) kx tk)
    (he : ∀ (s : Shared) (H : Hp) (C : Addr) (cl : List (Str × Addr)) (fp : List Addr), EvD (X.blk s H scope (compEnvC scope cl C X.env) fp) vx tv)
    (hio : ∀ i ∈ is, i ∈ own.map (·.2)) (hs : ∀ x, foldedSetIterable iter X.env x = pure x := by intro _; rfl) :
    EvS X (.Assign [.Name y py] (.DictComp kx vx [⟨tg, iter, ifs, 0⟩] scope pos) spos) (setM i (dcM src g tt tk tv (own.map (·.2)))) := fun B tk' => by
  have P := ps_setDcX (i := i) (o0 := fun A => DctKO X.prog X.w A []) (put := putD (cg X)) (wi := tI (cg X) B src) (g := gX (cg X) is g) (tt := tX (cg X) tt) (tk := eX (cg X) tk) (tv := eX (cg X) tv) hr hc hN hy hyl hsw (fun H h big => dct_new big) putD_ok (hi B tk') ok
    (fun s H C cl fp => ⟨fun pins s' σ H' v u Q I r ⟨B', F, env, d, env', w, q⟩ => (hg s H C cl fp B' (takes0' w)).run pins s' σ H' v u Q I r ⟨F, env, d, env', q⟩⟩)
    (fun s H C cl fp => ⟨fun pins s' σ H' Q I ⟨B', w, q⟩ => (ht s H C cl fp B' (takes0' w)).run pins s' σ H' Q I q⟩)
    (fun s H C cl fp => ⟨fun pins s' σ H' Q I ⟨B', w, q⟩ => (hk s H C cl fp B' (takes0' w)).run pins s' σ H' Q I q⟩)
    (fun s H C cl fp => ⟨fun pins s' σ H' Q I ⟨B', w, q⟩ => (he s H C cl fp B' (takes0' w)).run pins s' σ H' Q I q⟩) hs
  refine PS.mono P fun Dk σ H ⟨F, env, o, env', R, hm, fin⟩ => ?_
  show tI _ _ _ _ _ _
  rcases thenS_cases hm with ⟨r, env1, h1, h2⟩ | ⟨x, f, h1, rfl⟩
  · rw [Option.map_eq_some_iff] at h2
    obtain ⟨env3, hp, e⟩ := h2
    cases e
    rcases bind_cases h1 with ⟨ds, env2, h3, h4⟩ | ⟨x, f, h3, e⟩
    · refine ⟨F, env, _, _, R, h3, fun F1 H1 J R1 s1 y => ?_⟩
      split at h4
      · rename_i hz
        rw [Option.map_eq_some_iff] at h4
        obtain ⟨res, hgo, e⟩ := h4
        cases e
        exact dc_ok R1 y hz hgo hio (fin_set hp (FinS.mono fin s1))
      · cases h4
    · cases e
  · rcases bind_cases h1 with ⟨ds, env2, h3, h4⟩ | ⟨x', f', h3, e⟩
    · split at h4
      · rw [Option.map_eq_some_iff] at h4
        obtain ⟨_, _, e⟩ := h4
        cases e
      · cases h4
    · cases e
      exact ⟨F, env, _, _, R, h3, fin σ⟩
end
end RW

set_option Elab.async false
set_option linter.all false
set_option maxRecDepth 100000
set_option maxHeartbeats 4000000
/-! RwGrp: found = {}; for a, b in rows: found.setdefault(b, []).append(a); return found. -/
namespace RW
open PySem PySem.Spec PyProof.Rows L2

section
variable {X : Cx}
def tNewD (c : Cg) : TE := fun _ H Q => ∀ A, H A = none → Q (.ref A) (upd H A (DctKO c.P c.w A []))
theorem pe_newD {pos : Pos} : PE X (.Dict [] [] pos) (tNewD (cg X)) := ⟨fun pins s σ H Q I h => by
  rw [eval_Dict_empty]
  refine wpAny_bind (wpAny_standAt (wpAny_newObj_type ?_))
  exact ⟨.ref s.heap.objs.size, _, I.laid (t' := s.toks) (fun b o e => Heap.get?_push_of_some _ e) (Nat.le_refl _) (dct_new I.big), rfl, h _ (I.hok.fresh (Nat.le_refl _))⟩⟩
def tSetdK (c : Cg) (td ty tx : TE) : TE := fun σ H Q => td σ H fun x H1 => ∃ A, x = .ref A ∧ (∃ xs, H1 A = some (DctKO c.P c.w A xs)) ∧ ty σ H1 fun y H2 => tx σ H2 fun z H3 => ∃ F p d k xs ks, y = .ref p ∧ Same F H3 ∧ RW.IsD c F y d ∧ dKey d = some k ∧ H3 A = some (DctKO c.P c.w A xs) ∧ Keyed c F xs ks ∧ xs.length < sizeLine ∧
  (∀ e, atKey xs k = some e → ∃ v, RelV v e.2 ∧ Q v H3) ∧ (atKey xs k = none → ∀ u, RelV z u → Q z (upd H3 A (DctKO c.P c.w A (storedH xs k p u))))
theorem storedH_len {xs : List Ent} {k : NK} {p : Addr} {u : Value} : (storedH xs k p u).length ≤ xs.length + 1 := by
  unfold storedH
  split <;> simp
theorem pe_setdK {o e f : Expr} {td ty tx : TE} {apos cpos : Pos} {n : Nat} (hr : Room n X.A) (ho : PE X o td) (he : PE X e ty) (hf : PE X f tx) (m : M2 X o "setdefault" apos e f cpos) : PE X (.Call (.Attribute o "setdefault" apos) [e, f] [] cpos) (tSetdK (cg X) td ty tx) := by
  refine ⟨fun pins s σ H Q I h => ?_⟩
  refine wpAny_Call_method m.base m.few m.line PySem.F.plainAttrs_dict PySem.F.slot_dict_setdefault PySem.F.type_dict_setdefault (thn (ho.run pins s σ H _ I h) fun ov s1 ⟨x, H1, I1, rx, A, ex, ⟨xs0, hA0⟩, q1⟩ => ?_)
  subst ex
  obtain rfl : ov = Value.ref A := rx
  obtain ⟨⟨b1, b2, ob, es, ep, g1, g2, g3, g4, g5⟩, _, _⟩ := I1.hok A _ hA0
  refine ⟨⟨ob, g1, g2.1⟩, fun b z => (by cases z; exact ⟨ob, g1, g2.2.1⟩), ?_⟩
  rw [m.trees]
  refine Calls.callWith_builtin rfl (Calls.evalArgs_plain (Calls.spliced_cons (thn (he.run pins s1 σ H1 _ I1 q1) fun ku s2 ⟨y, H2, I2, ry, q2⟩ => Calls.spliced_cons (thn (hf.run pins s2 σ H2 _ I2 q2) fun zu s3 ⟨z, H3, I3, rz, F, p, d, k, xs, ks, ey, sF, hd, hk, hA, K, hl, y1, y2⟩ => Calls.spliced_nil ?_))))
  subst ey
  obtain rfl : ku = Value.ref p := ry
  obtain ⟨c1, c2, c3⟩ := dct_at I3 sF hA K
  refine call_setdefault_heap (hsz := c2) (room8 hr) (key_at I3 sF hd hk) c1 c3 (fun pr hp => ?_) fun hn h' hm hs => ?_
  · obtain ⟨v, rv, qv⟩ := y1 pr hp
    exact ⟨v, H3, I3.kept (h' := s3.heap) fun b o e => e, rv, qv⟩
  · exact ⟨z, _, dct_write (mg0 := .tup []) I3 hA c1 (Nat.le_trans storedH_len hl) hm hs, rz, y2 hn zu rz⟩
end

/-! ### over data -/
structure Grp where
  k : NK
  p : Addr
  q : Addr
def Grp.ent (g : Grp) : Ent := (g.k, g.p, .ref g.q)
def ListAt (c : Cg) (B : Bs) (F H : Hp) (n : Nat) (g : Grp) (ds : List D) : Prop := ∃ vs, H g.q = some (.lst vs) ∧ F g.q = none ∧ B.mine g.q ∧ IsDs c F vs ds ∧ ds.length ≤ n
structure Gr (c : Cg) (B : Bs) (F H : Hp) (A : Addr) (n : Nat) (gs : List Grp) (ks : List D) (vss : List (List D)) : Prop where
  dct : H A = some (DctKO c.P c.w A (gs.map Grp.ent))
  fz : F A = none
  mi : B.mine A
  key : Keyed c F (gs.map Grp.ent) ks
  lst : Paired (ListAt c B F H n) gs vss
  nd : (A :: gs.map Grp.q).Nodup
  len : gs.length ≤ n
def grpV (k : NK) (a : D) : List D → List (List D) → List (List D)
  | d :: ks, vs :: vss => (if hasKey k d then vs ++ [a] else vs) :: grpV k a ks vss
  | _, _ => []
def grpPut (ks : List D) (vss : List (List D)) (kd : D) (k : NK) (a : D) : List D × List (List D) := if ks.any (hasKey k) then (ks, grpV k a ks vss) else (ks ++ [kd], vss ++ [[a]])
def noOwn (env : En) : Bool := env.all fun s => !s.owns
def valAt (i : Nat) (env : En) : Option D := match env[i]? with
  | some (.val d) => some d
  | _ => none
def isNo : Option Sl → Bool
  | some .no => true
  | _ => false
def grpGo (g : Bd) (f ia ib : Nat) : List D → En → List D × List (List D) → Option ((List D × List (List D)) × En)
  | [], env, acc => some (acc, env)
  | d :: ds, env, acc => (g d env).bind fun env1 => if noOwn env1 = true ∧ isNo env1[f]? = true then (valAt ia env1).bind fun a => (valAt ib env1).bind fun kd => (dKey kd).bind fun k => grpGo g f ia ib ds env1 (grpPut acc.1 acc.2 kd k a) else none
def grpM (src : Mn (List D)) (g : Bd) (f ia ib : Nat) : Ms := fun env => (putSl f .no env).bind fun env0 => match src env0 with
  | some (.ok ds, env1) => if env1 = env0 ∧ noOwn env0 = true ∧ isNo env0[f]? = true ∧ ds.length < sizeLine then (grpGo g f ia ib ds env0 ([], [])).map fun q => (.ret (.val (.dct q.1.1 (q.1.2.map .lst))), q.2) else none
  | _ => none
section
variable {c : Cg} {B : Bs} {F F' H H' : Hp} {σ : L2.St} {env : En} {A : Addr} {n : Nat}
theorem free_no {σ : L2.St} {env : En} (h : noOwn env = true) (p : Addr) : Free σ env p := fun i s e o => by
  have := List.all_eq_true.mp h s (List.mem_of_getElem? e)
  rw [o] at this
  cases this
theorem ListAt.mono {g : Grp} {ds : List D} (h : ListAt c B F H n g ds) (s : Same F F') (e : H' g.q = H g.q) (f : F' g.q = F g.q) {m : Nat} (hm : n ≤ m) : ListAt c B F' H' m g ds := by
  obtain ⟨vs, h1, h2, h3, h4, h5⟩ := h
  exact ⟨vs, e.trans h1, f.trans h2, h3, h4.mono s, Nat.le_trans h5 hm⟩
theorem paired_imp {α β : Type} {R R' : α → β → Prop} : ∀ {l : List α} {m : List β}, Paired R l m → (∀ a b, a ∈ l → R a b → R' a b) → Paired R' l m
  | _, _, .nil, _ => .nil
  | _, _, .cons h t, k => .cons (k _ _ List.mem_cons_self h) (paired_imp t fun a b ha => k a b (List.mem_cons_of_mem _ ha))
theorem paired_len {α β : Type} {R : α → β → Prop} : ∀ {l : List α} {m : List β}, Paired R l m → l.length = m.length
  | _, _, .nil => rfl
  | _, _, .cons _ t => by simp [paired_len t]
theorem Gr.q_some {gs : List Grp} {ks : List D} {vss : List (List D)} (G : Gr c B F H A n gs ks vss) {g : Grp} (hg : g ∈ gs) : ∃ vs, H g.q = some (.lst vs) ∧ F g.q = none := by
  have : ∀ {l : List Grp} {m : List (List D)}, Paired (ListAt c B F H n) l m → g ∈ l → ∃ vs, H g.q = some (.lst vs) ∧ F g.q = none := by
    intro l m h
    induction h with
    | nil => intro z; cases z
    | cons a b ih =>
      intro z
      rcases List.mem_cons.mp z with z | z
      · subst z
        obtain ⟨vs, h1, h2, _⟩ := a
        exact ⟨vs, h1, h2⟩
      · exact ih z
  exact this G.lst hg
theorem Gr.q_full {gs : List Grp} {ks : List D} {vss : List (List D)} (G : Gr c B F H A n gs ks vss) {g : Grp} (hg : g ∈ gs) : B.mine g.q ∧ ∀ vs, H g.q = some (.lst vs) → vs.length ≤ n := by
  have : ∀ {l : List Grp} {m : List (List D)}, Paired (ListAt c B F H n) l m → g ∈ l → B.mine g.q ∧ ∀ vs, H g.q = some (.lst vs) → vs.length ≤ n := by
    intro l m h
    induction h with
    | nil => intro z; cases z
    | cons a b ih =>
      intro z
      rcases List.mem_cons.mp z with z | z
      · subst z
        obtain ⟨vs, h1, h2, h3, h4, h5⟩ := a
        refine ⟨h3, fun vs' e => ?_⟩
        rw [h1] at e
        cases e
        rw [IsDs.length h4]
        exact h5
      · exact ih z
  exact this G.lst hg
theorem any_key {k : NK} : ∀ {xs : List Ent} {ks : List D}, toNKs ks = some (xs.map (·.1)) → ks.any (hasKey k) = (atKey xs k).isSome
  | [], ks, h => by
    have := nks_nil h
    subst this
    simp [atKey]
  | x :: xs, ks, h => by
    cases ks with
    | nil => simp [toNKs] at h
    | cons d ks =>
      obtain ⟨h1, h2⟩ := nks_cons h
      have ih := any_key (k := k) h2
      by_cases e : x.1 = k
      · simp [hasKey, h1, e, atKey]
      · have : atKey (x :: xs) k = atKey xs k := by simp [atKey, e]
        rw [this, ← ih]
        simp [hasKey, h1, e]
theorem paired_app {α β : Type} {R : α → β → Prop} {l' : List α} {m' : List β} (h' : Paired R l' m') : ∀ {l : List α} {m : List β}, Paired R l m → Paired R (l ++ l') (m ++ m')
  | _, _, .nil => h'
  | _, _, .cons h t => .cons h (paired_app h' t)
/-- the heap has grown or frozen elsewhere -/
theorem Gr.stay {gs : List Grp} {ks : List D} {vss : List (List D)} (G : Gr c B F H A n gs ks vss) (s : Same F F') (h : ∀ a o, H a = some o → H' a = some o ∧ F' a = F a) {m : Nat} (hm : n ≤ m) : Gr c B F' H' A m gs ks vss where
  dct := (h _ _ G.dct).1
  fz := (h _ _ G.dct).2.trans G.fz
  mi := G.mi
  key := G.key.mono s
  lst := paired_imp G.lst fun g ds hg x => by
    obtain ⟨vs, h1, _⟩ := G.q_some hg
    obtain ⟨k1, k2⟩ := h _ _ h1
    exact x.mono s (k1.trans h1.symm) k2 hm
  nd := G.nd
  len := Nat.le_trans G.len hm
theorem atKey_grp {k : NK} {e : Addr × Value} : ∀ {gs : List Grp}, atKey (gs.map Grp.ent) k = some e → ∃ (i : Nat) (g : Grp), gs[i]? = some g ∧ g.k = k ∧ e = (g.p, .ref g.q) ∧ ∀ (j : Nat) (g' : Grp), gs[j]? = some g' → j < i → g'.k ≠ k
  | [], h => by simp [atKey] at h
  | g :: gs, h => by
    by_cases hk : g.k = k
    · have : atKey ((g :: gs).map Grp.ent) k = some (g.p, .ref g.q) := by simp [atKey, Grp.ent, hk]
      rw [this] at h
      cases h
      exact ⟨0, g, rfl, hk, rfl, fun j g' _ hj => by omega⟩
    · have : atKey ((g :: gs).map Grp.ent) k = atKey (gs.map Grp.ent) k := by simp [atKey, Grp.ent, hk]
      rw [this] at h
      obtain ⟨i, g', h1, h2, h3, h4⟩ := atKey_grp h
      refine ⟨i + 1, g', h1, h2, h3, fun j g2 hj hlt => ?_⟩
      cases j with
      | zero => cases hj; exact hk
      | succ j => exact h4 j g2 hj (by omega)
/-- an item appended to the list of the key k -/
theorem grp_app {k : NK} {a : D} {v : V} {g : Grp} (ha : RW.IsD c F v a) : ∀ {gs : List Grp} {ks : List D} {vss : List (List D)}, toNKs ks = some (gs.map Grp.k) → Paired (ListAt c B F H n) gs vss → (gs.map Grp.q).Nodup → (gs.map Grp.k).Nodup → g ∈ gs → g.k = k →
    ∀ vs, H g.q = some (.lst vs) → Paired (ListAt c B F (upd H g.q (.lst (vs ++ [v]))) (n + 1)) gs (grpV k a ks vss)
  | [], _, _, _, _, _, _, hg, _, _, _ => by cases hg
  | g0 :: gs, ks, vss, hn, hp, hq, hk, hg, e, vs, hv => by
    cases ks with
    | nil => simp [toNKs] at hn
    | cons d ks =>
      obtain ⟨n1, n2⟩ := nks_cons hn
      cases hp with
      | @cons _ ds0 _ vss h0 t =>
        obtain ⟨q1, q2⟩ := List.nodup_cons.mp hq
        obtain ⟨k1, k2⟩ := List.nodup_cons.mp hk
        rcases List.mem_cons.mp hg with z | z
        · subst z
          have hd : hasKey k d = true := by simp [hasKey, n1, e]
          have rest : ∀ {l : List Grp} {kk : List D} {m : List (List D)}, toNKs kk = some (l.map Grp.k) → (∀ x ∈ l, x.k ≠ k) → Paired (ListAt c B F H n) l m → (∀ x ∈ l, x.q ≠ g.q) → Paired (ListAt c B F (upd H g.q (.lst (vs ++ [v]))) (n + 1)) l (grpV k a kk m) := by
            intro l
            induction l with
            | nil => intro kk m hkk _ pp _; cases pp; have := nks_nil hkk; subst this; exact .nil
            | cons x l ih =>
              intro kk m hkk hne pp hqq
              cases kk with
              | nil => simp [toNKs] at hkk
              | cons d2 kk =>
                obtain ⟨r1, r2⟩ := nks_cons hkk
                cases pp with
                | cons p1 p2 =>
                  have : hasKey k d2 = false := by simp [hasKey, r1, hne x List.mem_cons_self]
                  simp only [grpV, this, Bool.false_eq_true, if_false]
                  exact .cons (p1.mono (Same.refl _) (upd_ne (hqq x List.mem_cons_self)) rfl (Nat.le_succ _)) (ih r2 (fun y hy => hne y (List.mem_cons_of_mem _ hy)) p2 fun y hy => hqq y (List.mem_cons_of_mem _ hy))
          simp only [grpV, hd, if_true]
          refine .cons ?_ (rest n2 (fun x hx z => k1 (by rw [e, ← z]; exact List.mem_map_of_mem hx)) t fun x hx z => q1 (by rw [← z]; exact List.mem_map_of_mem hx))
          obtain ⟨vs0, h1, h2, h3, h4, h5⟩ := h0
          rw [hv] at h1
          cases h1
          exact ⟨_, upd_same, h2, h3, IsDs.append (.cons ha .nil) h4, by simp; omega⟩
        · have ne : g0.k ≠ k := fun z' => k1 (by rw [z', ← e]; exact List.mem_map_of_mem z)
          have hd : hasKey k d = false := by simp [hasKey, n1, ne]
          simp only [grpV, hd, Bool.false_eq_true, if_false]
          refine .cons (h0.mono (Same.refl _) (upd_ne fun z' => q1 (by rw [z']; exact List.mem_map_of_mem z)) rfl (Nat.le_succ _)) (grp_app ha n2 t q2 k2 z e vs hv)
end

section
variable {c : Cg} {B : Bs} {F F' H H' : Hp} {σ : L2.St} {env : En} {A : Addr} {n : Nat}
theorem Rel.stillN {W : WX} (R : Rel c B F σ H env) (h : noOwn env = true) : Rel c ⟨H, F, ownN, [], W⟩ F σ H env := by
  have e : env.map Sl.hide = env := by
    have : ∀ l : En, noOwn l = true → l.map Sl.hide = l := by
      intro l
      induction l with
      | nil => intro _; rfl
      | cons s l ih =>
        intro hl
        simp only [noOwn, List.all_cons, Bool.and_eq_true] at hl
        rw [List.map_cons, ih (by simpa [noOwn] using hl.2)]
        cases s with
        | own _ => exact absurd hl.1 (by simp [Sl.owns])
        | lent _ => exact absurd hl.1 (by simp [Sl.owns])
        | _ => rfl
    exact this env h
  have S := R.still
  rw [e] at S
  exact ⟨S.sub, S.sub0, fun a o q no => S.frm a o q no, S.len, S.sl, S.inj, fun q hq => by cases hq⟩
theorem Rel.afterN {W : WX} {σ2 : L2.St} {env2 : En} (R : Rel c B F σ H env) (S : Rel c ⟨H, F, ownN, [], W⟩ F' σ2 H' env2) (sF : Same F F') : Rel c B F' σ H' env :=
  R.after (fun a o e => (S.frm a o e (fun z => z)).1) S.sub sF fun a o e => (S.frm a o e (fun z => z)).2
theorem freeze_lists (R : Rel c B F σ H env) (h : noOwn env = true) : ∀ {gs : List Grp} {vss : List (List D)}, Paired (ListAt c B F H n) gs vss → (gs.map Grp.q).Nodup → ∃ F', Rel c B F' σ H env ∧ Same F F' ∧ IsDs c F' (gs.map fun g => .ref g.q) (vss.map .lst) ∧ ∀ a, a ∉ gs.map Grp.q → F' a = F a
  | [], _, .nil, _ => ⟨F, R, Same.refl _, .nil, fun _ _ => rfl⟩
  | g :: gs, _, .cons (b := ds) h0 t, nd => by
    obtain ⟨n1, n2⟩ := List.nodup_cons.mp nd
    obtain ⟨F1, R1, s1, d1, k1⟩ := freeze_lists R h t n2
    obtain ⟨vs, h1, h2, h3, h4, _⟩ := h0
    have hF : F1 g.q = none := (k1 _ n1).trans h2
    obtain ⟨R2, s2⟩ := R1.freeze h1 hF (free_no h _) h3
    refine ⟨_, R2, s1.trans s2, .cons (.lst (.inl (.inl upd_same)) (h4.mono (s1.trans s2))) (d1.mono s2), fun a ha => ?_⟩
    rw [List.map_cons, List.mem_cons, not_or] at ha
    rw [upd_ne ha.1]
    exact k1 a ha.2
theorem freeze_grp {gs : List Grp} {ks : List D} {vss : List (List D)} (R : Rel c B F σ H env) (h : noOwn env = true) (G : Gr c B F H A n gs ks vss) : ∃ F', Rel c B F' σ H env ∧ Same F F' ∧ RW.IsD c F' (.ref A) (.dct ks (vss.map .lst)) := by
  obtain ⟨n1, n2⟩ := List.nodup_cons.mp G.nd
  obtain ⟨F1, R1, s1, d1, k1⟩ := freeze_lists R h G.lst n2
  have hF : F1 A = none := (k1 _ n1).trans G.fz
  obtain ⟨R2, s2⟩ := R1.freeze G.dct hF (free_no h _) G.mi
  refine ⟨_, R2, s1.trans s2, .dctK (vv := gs.map fun g => .ref g.q) upd_same (G.key.dat.mono (s1.trans s2)) G.key.nk G.key.dep ?_ (d1.mono s2)⟩
  rw [List.map_map]
  have : ∀ l : List Grp, Vals (l.map fun g => V.ref g.q) (l.map ((fun x : Ent => x.2.2) ∘ Grp.ent)) := by
    intro l
    induction l with
    | nil => exact .nil
    | cons g l ih => exact .cons rfl ih
  exact this gs
theorem valAt_ok {i : Nat} {d : D} (R : Rel c B F σ H env) (h : valAt i env = some d) : ∃ v, σ[i]? = some (some v) ∧ RW.IsD c F v d := by
  unfold valAt at h
  split at h
  · rename_i d' e
    cases h
    obtain ⟨v, a, b⟩ := R.sl i _ e
    exact ⟨v, slot_at a, b⟩
  · cases h
theorem grp_keys {gs : List Grp} {P : Program} {w : World} {h : Heap} (x : ObjOk P w H h A (DctKO P w A (gs.map Grp.ent))) : (gs.map Grp.k).Nodup := by
  obtain ⟨⟨_, _, _, _, _, _, _, _, _, hn⟩, _⟩ := x
  rw [List.map_map] at hn
  exact hn
end
section
variable {X : Cx}
/-- the turn's body: the entries' keys differ, as the heap has it -/
def tNd (c : Cg) (t : TE) : TE := fun σ H Q => (∀ (A : Addr) (gs : List Grp), H A = some (DctKO c.P c.w A (gs.map Grp.ent)) → (gs.map Grp.k).Nodup) → t σ H Q
theorem pe_nd {e : Expr} {t : TE} (h : PE X e t) : PE X e (tNd (cg X) t) := ⟨fun pins s σ H Q I q => h.run pins s σ H Q I (q fun A gs e => grp_keys (H := H) (I.hok A _ e))⟩
theorem isNo_iff {o : Option Sl} (h : isNo o = true) : o = some .no := by
  cases o with
  | none => cases h
  | some s => cases s <;> first | rfl | cases h
theorem ess_grp {f ia ib : Nat} {x xa xb : Str} {tg iter : Expr} {p1 p2 p3 p4 p5 p6 p7 p8 p9 p10 p11 p12 p13 p14 p15 : Pos} {is : List Nat} {src : Mn (List D)} {g : Bd} {n : Nat} (hr : Room n X.A) (hp : PassesOwn (model X.prog X.w) X.A X.env X.xe) (hc : X.calm = true) (hN : X.N.Nodup) (hf : X.N[f]? = some x) (hx : Loc X.env.scope x)
    (hi : EvI X tg iter src) (hg : EvG X tg is g) (hni : f ∉ is) (hv : ∀ p, PE X (.Name x p) (tVar f)) (hva : PE X (.Name xa p10) (tVar ia)) (hvb : PE X (.Name xb p6) (tVar ib))
    (hm2 : M2 X (.Name x p4) "setdefault" p5 (.Name xb p6) (.List [] p7) p8)
    (hs1 : swapsWith (.Dict [] [] p2) (some (.Name x p1)) p3.line X.env = pure false := by rfl) (hf1 : X.fn x = true ∨ X.env.scope.names.lookup x = some .local := by first | exact .inl rfl | exact .inr rfl)
    (hs2 : ∀ v, foldedSetIterable iter X.env v = pure v := by intro _; rfl)
    (hbase : attributeBase (.Call (.Attribute (.Name x p4) "setdefault" p5) [.Name xb p6, .List [] p7] [] p8) "append" X.env (eval (.Call (.Attribute (.Name x p4) "setdefault" p5) [.Name xb p6, .List [] p7] [] p8) X.env) = eval (.Call (.Attribute (.Name x p4) "setdefault" p5) [.Name xb p6, .List [] p7] [] p8) X.env := by rfl)
    (hfew : ((backTo p11 (starEach [.Name xa p10] X.env)).all (fun x => !x.1) && (backToKw p11 (keywordEach [] X.env)).all (fun x => x.1.isSome)
      && decide (([.Name xa p10] : List Expr).length + ([] : List Keyword).length + (if ([] : List Keyword).isEmpty then 0 else 1) < 30)) = true := by rfl)
    (hline : (p9.endLine == p11.line) = true := by rfl) (hs : starEach [.Name xa p10] X.env = (false, eval (.Name xa p10) X.env) :: starEach [] X.env := by rfl) (hplain : (backTo p11 (starEach [] X.env)).any (·.1) = false := by rfl)
    (hsw : swapsWith (.Call (.Attribute (.Call (.Attribute (.Name x p4) "setdefault" p5) [.Name xb p6, .List [] p7] [] p8) "append" p9) [.Name xa p10] [] p11) none p12.line X.env = pure false := by rfl) :
    EvSs X [.Assign [.Name x p1] (.Dict [] [] p2) p3, .For tg iter [.Expr (.Call (.Attribute (.Call (.Attribute (.Name x p4) "setdefault" p5) [.Name xb p6, .List [] p7] [] p8) "append" p9) [.Name xa p10] [] p11) p12] [] p13, .Return (some (.Name x p14)) p15] (grpM src g f ia ib) := fun B tk => by
  have hiX : PI X tg iter (fun σ H R => ∃ B', B'.W = B.W ∧ tI (cg X) B' src σ H R) := ⟨fun pins s σ H R I ⟨B', w, q⟩ => (hi B' (by rw [w]; exact tk)).run pins s σ H R I q⟩
  refine PSs.mono (pss_cons (ps_set (pos := p3) hN hf hx (pe_newD (pos := p2)) hs1 hf1) (pss_cons (ps_for (pos := p13) hp hc hiX (hg B tk)
    (pss_one (ps_expr (pe_nd (pe_bm PySem.F.plainAttrs_list PySem.F.slot_list_append PySem.F.type_list_append mt_append (pe_setdK hr (hv p4) hvb (pe_lst pa_nil) hm2) (pa_cons hva pa_nil hs) hbase hfew hline hs hplain)) hsw)) hs2)
    (pss_one (ps_ret (pos := p15) (hv p14))))) fun Dk σ H ⟨F, env, o, env', R, hm, fin⟩ => ?_
  obtain ⟨env0, hp0, hm⟩ := Option.bind_eq_some_iff.mp hm
  obtain ⟨hfl, rfl, hnl⟩ := putSl_ok hp0
  intro A hA
  have R0 : Rel (cg X) B F (σ.set f (some (.ref A))) (upd H A (DctKO X.prog X.w A [])) (env.set f .no) := (R.newO hA).store (by rw [← R.len]; exact hfl) trivial hnl (fun ds z => by cases z) (fun p o => by cases o)
  have mA := mine_new R hA
  have hσf : (σ.set f (some (V.ref A)))[f]? = some (some (.ref A)) := by rw [List.getElem?_set_self (by rw [← R.len]; exact hfl)]
  generalize eE : env.set f Sl.no = env0 at R0 hm
  have hH0 : (upd H A (DctKO X.prog X.w A [])) A = some (DctKO (cg X).P (cg X).w A []) := upd_same
  have hF0 : F A = none := R.sub.free hA
  split at hm
  · rename_i ds env1 hsrc
    split at hm
    · rename_i hcond
      obtain ⟨rfl, hno, hisno, hz⟩ := hcond
      obtain ⟨⟨⟨rk, rv⟩, env2⟩, hgo, he⟩ := Option.map_eq_some_iff.mp hm
      cases he
      refine ⟨⟨upd H A (DctKO X.prog X.w A []), F, ownN, [], B.W⟩, rfl, F, env1, .ok ds, env1, R0.stillN hno, hsrc, fun F1 H1 J S1 s1 y => ?_⟩
      have R1 := R0.afterN S1 s1
      have st1 : ∀ a o, (upd H A (DctKO X.prog X.w A [])) a = some o → H1 a = some o ∧ F1 a = F a := fun a o e => S1.frm a o e (fun z => z)
      have fin1 := FinS.mono fin s1
      refine ⟨fun i m σ' H' => m = ds.length - i ∧ i ≤ ds.length ∧ ∃ F' ev gs ks vss, Rel (cg X) B F' σ' H' ev ∧ Same F1 F' ∧ σ'[f]? = some (some (.ref A)) ∧ noOwn ev = true ∧ Gr (cg X) B F' H' A i gs ks vss ∧ grpGo g f ia ib (ds.drop i) ev (ks, vss) = some ((rk, rv), env2),
        ⟨ds.length, by simp, Nat.zero_le _, F1, env1, [], [], [], R1, Same.refl _, hσf, hno, ⟨(st1 _ _ hH0).1, (st1 _ _ hH0).2.trans hF0, mA, ⟨.nil, rfl, fun x hx => by cases hx⟩, .nil, by simp, Nat.le_refl _⟩, by simpa using hgo⟩, ?_⟩
      rintro i m σ' H' ⟨rfl, hil, F', ev, gs, ks, vss, R', s', hfs, hno', G, hgo'⟩
      by_cases hlt : i < ds.length
      · refine .inr ⟨y.go F' H' i s' R'.sub hlt, fun σ2 H2 => ∃ F2 ev2 gs2 ks2 vss2, Rel (cg X) B F2 σ2 H2 ev2 ∧ Same F1 F2 ∧ σ2[f]? = some (some (.ref A)) ∧ noOwn ev2 = true ∧ Gr (cg X) B F2 H2 A (i + 1) gs2 ks2 vss2 ∧ grpGo g f ia ib (ds.drop (i + 1)) ev2 (ks2, vss2) = some ((rk, rv), env2),
          fun σ2 H2 q => ⟨ds.length - (i + 1), by omega, rfl, hlt, q⟩, fun x H2 yl => ?_⟩
        obtain ⟨d, hdi, q⟩ := y.yld F' H' i x H2 s' R'.sub hlt yl
        obtain ⟨F2, R2, s2, hx2, keep2⟩ : ∃ F2, Rel (cg X) B F2 σ' H2 ev ∧ Same F' F2 ∧ RW.IsD (cg X) F2 x d ∧ ∀ a o, H' a = some o → H2 a = some o ∧ F2 a = F' a := by
          rcases q with ⟨rfl, h⟩ | ⟨q, u, hq, rfl, h⟩
          · exact ⟨F', R', Same.refl _, h, fun a o e => ⟨e, rfl⟩⟩
          · obtain ⟨R2, s2⟩ := R'.newF (o := u) hq
            exact ⟨_, R2, s2, h, fun a o e => ⟨by rw [upd_ne (ne_of_none e hq)]; exact e, by rw [upd_ne (ne_of_none e hq)]⟩⟩
        have G2 := G.stay s2 keep2 (Nat.le_refl i)
        have e0 : ds.drop i = d :: ds.drop (i + 1) := by
          rw [List.drop_eq_getElem_cons hlt]
          congr 1
          rw [List.getElem?_eq_getElem hlt] at hdi
          exact Option.some.inj hdi
        rw [e0] at hgo'
        unfold grpGo at hgo'
        obtain ⟨ev1, hgd, hgo'⟩ := Option.bind_eq_some_iff.mp hgo'
        split at hgo'
        · rename_i hc1
          obtain ⟨hno1, hfn1⟩ := hc1
          obtain ⟨da, hva1, hgo'⟩ := Option.bind_eq_some_iff.mp hgo'
          obtain ⟨kd, hvb1, hgo'⟩ := Option.bind_eq_some_iff.mp hgo'
          obtain ⟨k, hk, hgo'⟩ := Option.bind_eq_some_iff.mp hgo'
          refine ⟨F2, ev, d, ev1, R2, hx2, hgd, fun σ3 R3 o3 hnd => ?_⟩
          have hf3 : σ3[f]? = some (some (.ref A)) := (o3.2 f hni).trans hfs
          obtain ⟨va, hsa, iva⟩ := valAt_ok R3 hva1
          obtain ⟨vb, hsb, ivb⟩ := valAt_ok R3 hvb1
          have hnk := hnd A gs G2.dct
          refine ⟨_, hf3, A, rfl, ⟨_, G2.dct⟩, vb, hsb, (by simp), fun q hq => ?_⟩
          obtain ⟨p, rfl⟩ := tup_ref ivb hk
          have R4 : Rel (cg X) B F2 σ3 (upd H2 q (.lst [])) ev1 := R3.newO hq
          have keep4 : ∀ a o, H2 a = some o → (upd H2 q (.lst [])) a = some o ∧ F2 a = F2 a := fun a o e => ⟨by rw [upd_ne (ne_of_none e hq)]; exact e, rfl⟩
          have G4 := G2.stay (Same.refl _) keep4 (Nat.le_refl i)
          have hl : (gs.map Grp.ent).length < sizeLine := by rw [List.length_map]; exact Nat.lt_of_le_of_lt G.len (by omega)
          have hval : Valued (cg X) F2 [] [] [] := ⟨.nil, .nil⟩
          refine ⟨F2, p, kd, k, gs.map Grp.ent, ks, rfl, R4.sub, ivb, hk, G4.dct, G4.key, hl, fun e he => ?_, fun hn u ru => ?_⟩
          · obtain ⟨j, gg, hj, hgk, rfl, hbef⟩ := atKey_grp he
            have hmem : gg ∈ gs := List.mem_of_getElem? hj
            obtain ⟨vs, hq1, hq2⟩ := G4.q_some hmem
            refine ⟨.ref gg.q, rfl, tyV_list hq1, va, hsa, gg.q, vs, va, rfl, rfl, hq1, ?_, ?_⟩
            · exact Nat.lt_of_le_of_lt ((G4.q_full hmem).2 vs hq1) (by omega)
            · have mg : B.mine gg.q := (G4.q_full hmem).1
              have R5 := R4.write (o' := .lst (vs ++ [va])) hq1 hq2 (free_no hno1 _) mg
              have hne : A ≠ gg.q := fun z => by have := G4.dct; rw [z, hq1] at this; cases this
              have hany : ks.any (hasKey k) = true := by rw [any_key G4.key.nk, he]; rfl
              have nkk : toNKs ks = some (gs.map Grp.k) := by have := G4.key.nk; rw [List.map_map] at this; exact this
              refine ⟨F2, ev1, gs, ks, grpV k da ks vss, R5, s'.trans s2, hf3, hno1, ⟨by rw [upd_ne hne]; exact G4.dct, G4.fz, G4.mi, G4.key, grp_app iva nkk G4.lst (List.nodup_cons.mp G4.nd).2 hnk hmem hgk vs hq1, G4.nd, Nat.le_succ_of_le G4.len⟩, ?_⟩
              unfold grpPut at hgo'
              rw [if_pos hany] at hgo'
              exact hgo'
          · obtain rfl : u = Value.ref q := ru
            have neA : A ≠ q := fun z => by have := G2.dct; rw [z, hq] at this; cases this
            have hF2q : F2 q = none := R3.sub.free hq
            have mq : B.mine q := mine_new R3 hq
            have R5 := R4.write (o' := DctKO X.prog X.w A (storedH (gs.map Grp.ent) k p (.ref q))) G4.dct G4.fz (free_no hno1 _) G4.mi
            have hq5 : (upd (upd H2 q (.lst [])) A (DctKO X.prog X.w A (storedH (gs.map Grp.ent) k p (.ref q)))) q = some (.lst []) := by rw [upd_ne (Ne.symm neA), upd_same]
            have R6 := R5.write (o' := .lst ([] ++ [va])) hq5 hF2q (free_no hno1 _) mq
            refine ⟨tyV_list hq5, va, hsa, q, [], va, rfl, rfl, hq5, by decide, ?_⟩
            have hany : ks.any (hasKey k) = false := by rw [any_key G4.key.nk, hn]; rfl
            have est : storedH (gs.map Grp.ent) k p (.ref q) = (gs ++ [Grp.mk k p q]).map Grp.ent := by rw [storedH_new hn, List.map_append]; rfl
            have old : ∀ gg ∈ gs, gg.q ≠ q := fun gg hg z => by
              obtain ⟨vs, h1, _⟩ := G2.q_some hg
              rw [z, hq] at h1
              cases h1
            have oldA : ∀ gg ∈ gs, gg.q ≠ A := fun gg hg z => by
              obtain ⟨vs, h1, _⟩ := G2.q_some hg
              rw [z, G2.dct] at h1
              cases h1
            refine ⟨F2, ev1, gs ++ [⟨k, p, q⟩], ks ++ [kd], vss ++ [[da]], R6, s'.trans s2, hf3, hno1, ⟨?_, G4.fz, G4.mi, ⟨?_, ?_, ?_⟩, ?_, ?_, ?_⟩, ?_⟩
            · rw [upd_ne neA, upd_same, est]
            · rw [List.map_append, List.map_append]
              exact IsDs.append (.cons ivb .nil) G4.key.dat
            · rw [List.map_append, List.map_append]
              exact toNKs_snoc G4.key.nk (dKey_ok hk).1
            · intro x hx
              rw [List.map_append] at hx
              rcases List.mem_append.mp hx with m | m
              · exact G4.key.dep x m
              · have : x = (k, p, .ref q) := by simpa [Grp.ent] using m
                rw [this]
                exact (dKey_ok hk).2.1
            · refine paired_app (.cons ⟨[va], upd_same, hF2q, mq, .cons iva .nil, by simp⟩ .nil) (paired_imp G4.lst fun gg ds hg h => h.mono (Same.refl _) (by rw [upd_ne (old gg hg), upd_ne (oldA gg hg)]) rfl (Nat.le_succ _))
            · obtain ⟨n1, n2⟩ := List.nodup_cons.mp G4.nd
              rw [List.map_append]
              refine List.nodup_cons.mpr ⟨fun z => ?_, List.nodup_append.mpr ⟨n2, by simp, fun a ha b hb => ?_⟩⟩
              · rcases List.mem_append.mp z with z | z
                · exact n1 z
                · exact neA (by simpa using z)
              · obtain ⟨gg, hg, rfl⟩ := List.mem_map.mp ha
                have : b = q := by simpa using hb
                rw [this]
                exact old gg hg
            · rw [List.length_append]
              have := G4.len
              simp
              omega
            · unfold grpPut at hgo'
              rw [if_neg (by rw [hany]; exact Bool.false_ne_true)] at hgo'
              exact hgo'
        · cases hgo'
      · have e : i = ds.length := by omega
        subst e
        rw [List.drop_length] at hgo'
        cases hgo'
        obtain ⟨F3, R3, s3, hd⟩ := freeze_grp R' hno' G
        exact .inl ⟨y.stop F' H' s' R'.sub, _, hfs, fin1 F3 σ' H' (.ref A) R3 (s'.trans s3) hd⟩
    · cases hm
  · cases hm
end
end RW

set_option Elab.async false
set_option linter.all false
set_option maxRecDepth 100000
set_option maxHeartbeats 4000000
/-! RwKw: defs with defaults, calls with keywords. -/
namespace RW
open PySem PySem.Spec PyProof.Rows L2

section
variable {P : Program} {w : World} {K : PySem.W.Frag} {mg : Str → Option Value} {base : Heap}
/-- as fn_data, for a def with defaults -/
theorem fn_dataD {x qual : Str} {st : Stmt} {f : Addr} {fd : FuncData} {N ps : List Str} {k : Nat} {m : Ms} {dvs : List V} {kws : List (Str × V)} (Fn : FunD K x qual (defArgs st) (defBody st) (defScope st) dvs kws f fd) (S : FnScope N ps (defScope st))
    (hb : ∀ (cdv : Value) (A : Around) (outer : List Env) (s : Shared) (H : Hp) (E : XK), Room k (A.deeper (envOfC qual (defScope st) s.heap.objs.size f cdv)) → EvSs (cxOf (L2.CX P w) P w K mg base N qual (defScope st) f cdv A outer s H E) (defBody st) m) :
    FnOk P w K mg base (L2.CX P w) (k + 1) f fd ps (SpD ⟨K, mg, P, w⟩ ps.length (denOf (N.length - ps.length) m)) := by
  refine Fn.ok S (fun vs H Q E h => h.1) fun cdv A outer s H vs Q E hr h => ?_
  obtain ⟨hl, F, ds, r, sF, hd, hden, fin⟩ := h
  refine ⟨_, hb cdv A outer s H E hr ⟨H, F, ownN, [], fun cls d _ H' => E cls d H'⟩ (takes_of rfl rfl rfl rfl), ?_⟩
  rw [start_eq hl]
  have R0 := rel_start (W := fun cls d _ H' => E cls d H') (N.length - ps.length) sF hd
  unfold denOf at hden
  refine ⟨F, ds.map .val ++ List.replicate (N.length - ps.length) .no, ?_⟩
  split at hden
  · rename_i env' he
    cases hden
    exact ⟨_, _, R0, he, fun F' σ' H' R' s' => fin F' H' .non (ext_of R' s') trivial .non⟩
  · rename_i rv env' he
    cases hden
    refine ⟨_, _, R0, he, ?_⟩
    cases rv with
    | val d => exact fun F' σ' H' v R' s' hv => fin F' H' v (ext_of R' s') trivial hv
    | new l => exact fun F' σ' H' p vs' R' s' hn => fin F' H' p vs' (ext_of R' s') trivial (hn.new.resolve_right (fun z => z)) hn.at_ hn.fz hn.dat
  · rename_i y fl env' he
    cases hden
    exact ⟨_, _, R0, he, fun σ' F' H' cls oa R' s' ea => fin F' H' cls oa (ext_of R' s') trivial ea⟩
  · cases hden
end

section
variable {X : Cx} {k n : Nat} {f : Addr} {fd : FuncData} {ps ks : List Str} {x : Str} {p pos : Pos} {e : Expr} {es : List Expr} {kws : List Keyword} {g : List Value → List Value → List Value} {gV : List V → List V → List V}
/-- the keywords' values -/
def EvK (X : Cx) (kws : List Keyword) (m : Mn (List D)) : Prop := ∀ B, Takes X B.W → PK X kws (tA (cg X) B m)
theorem PK.mono {t t' : TA} (h : PK X kws t) (j : ∀ σ H Q, t' σ H Q → t σ H Q) : PK X kws t' := ⟨fun pos pins s σ H Q I q => h.run pos pins s σ H Q I (j σ H Q q)⟩
theorem ek_nil : EvK X [] (Mn.ret []) := fun B tk => by
  refine PK.mono pk_nil fun σ H Q ⟨F, env, r, env', R, hm, fin⟩ => ?_
  cases hm
  exact fin F H [] R (Same.refl F) .nil
theorem ek_cons {nm : Option Str} {kpos : Pos} {m : Mn D} {ma : Mn (List D)} (h : EvD X e m) (ha : EvK X kws ma) : EvK X (⟨nm, e, kpos⟩ :: kws) (m.bind fun d => ma.bind fun ds => .ret (d :: ds)) := fun B tk => by
  refine PK.mono (pk_cons (h B tk) (ha B tk)) fun σ H Q ⟨F, env, r, env', R, hm, fin⟩ => ?_
  refine bindD R hm (fun d env1 hk F1 H1 v R1 s1 x => ?_) (exA fin)
  have fin1 := FinA.mono fin s1
  refine bindA R1 hk (fun ds env2 hk2 F2 H2 vs R2 s2 xs => ?_) (exA fin1)
  cases hk2
  exact fin1 F2 H2 (v :: vs) R2 s2 (.cons (x.mono s2) xs)
theorem pe_callN0 {CX : CXT} {sp : Sp} {E : XK} {tk : TA} (F : FnOk X.prog X.w X.K X.mg X.base CX k f fd ps sp) (hr : Room k X.A) (hg : Gl X x) (hm : X.mg x = some (.ref f)) (hk : PySem.W.keepIn X.K (.ref f) = true) (hb : KBn X.K fd ps 0 ks g gV) (hx : Passes CX X E) (hkw : PK X kws tk)
    (hall : (backToKw pos (keywordEach kws X.env)).all (·.1.isSome) = true := by rfl) (hks : (backToKw pos (keywordEach kws X.env)).filterMap (·.1) = ks := by rfl) (hdb : (x == ("__debug__" : Str)) = false := by decide)
    (hpl : ((backTo pos (starEach [] X.env)).any (·.1) || (backToKw pos (keywordEach kws X.env)).any (·.1.isNone)) = false := by rfl) : PE X (.Call (.Name x p) [] kws pos) (tCallN 0 ks.length sp gV E tNil tk) := ⟨fun pins s σ H Q I h => by
  refine wpAny_Call_Name_kw (ld_glob I hg hm (PySem.W.callWith_KW0 (h₀ := X.base) I.ok.mod.kin hk hall (thn (hkw.run pos pins s σ H _ I h) fun ws s2 ⟨zs, H2, I2, rz, l1, l2, q2⟩ => ⟨I2.kIn, ?_⟩) hpl) hdb)
  rw [hks]
  exact run_fnN (us := []) (vs := []) F hr hb hx I2 .nil rz rfl l2 q2⟩
/-- f(e, .., k = v, ..): no exception leaves it -/
def callK (den : Den) (gD : List D → List D → List D) (ma mk : Mn (List D)) : Mn RV := ma.bind fun ds => mk.bind fun zs env => match den (gD ds zs) with
  | some (.ok rv) => some (.ok rv, env)
  | _ => none
theorem end_callK {c : Cg} {B : Bs} {F H : Hp} {σ : L2.St} {env : En} {Q : VK} {rv : RV} (R : Rel c B F σ H env) (fin : FinE c B F σ env Q (.ok rv)) : EndR c ownN (fun _ _ => True) F H Q E0 (.ok rv) := by
  cases rv with
  | val d => exact fun F' H' v xt _ hv => fin F' H' v (R.call xt) xt.sF hv
  | new l => exact fun F' H' p vs xt _ hp hp' hF hd => fin F' H' p vs (R.call xt) xt.sF ⟨hp', hF, hd, mine_new R hp, fun i s e o z => free_new R hp i s e o z⟩
theorem callK_reads {den : Den} {gD : List D → List D → List D} {ma mk : Mn (List D)} {N : Nat} {B : Bs} {σ : L2.St} {H : Hp} {Q : VK} (hG : ∀ F vs zs ds es, IsDs (cg X) F vs ds → IsDs (cg X) F zs es → IsDs (cg X) F (gV vs zs) (gD ds es))
    (l1 : LenA ma n) (l2 : LenA mk ks.length) (lN : ∀ ds es, ds.length = n → es.length = ks.length → (gD ds es).length = N) (h : tE (cg X) B (callK den gD ma mk) σ H Q) : tCallN n ks.length (SpD (cg X) N den) gV E0 (tA (cg X) B ma) (tA (cg X) B mk) σ H Q := by
  obtain ⟨F, env, r, env', R, hm, fin⟩ := h
  rcases bind_cases hm with ⟨ds, env1, g1, g2⟩ | ⟨y, fl, g1, rfl⟩
  · refine ⟨F, env, _, _, R, g1, fun F1 H1 vs R1 s1 xs => ?_⟩
    have fin1 := FinE.mono fin s1
    rcases bind_cases g2 with ⟨es, env2, h1, h2⟩ | ⟨y, fl, h1, rfl⟩
    · refine ⟨F1, env1, _, _, R1, h1, fun F2 H2 zs R2 s2 ys => ?_⟩
      split at h2
      · rename_i rv hd
        cases h2
        have xs2 := xs.mono s2
        have hx := hG F2 vs zs ds es xs2 ys
        have n1 := l1 _ _ _ g1
        have n2 := l2 _ _ _ h1
        exact ⟨by rw [IsDs.length xs2, n1], by rw [IsDs.length ys, n2], by rw [IsDs.length hx]; exact lN ds es n1 n2, F2, gD ds es, _, R2.sub, hx, hd, end_callK R2 (FinE.mono fin1 s2)⟩
      · cases h2
    · exact ⟨F1, env1, _, _, R1, h1, fin1⟩
  · exact ⟨F, env, _, _, R, g1, fin⟩
theorem ee_callK0 {den : Den} {gD : List D → List D → List D} {mk : Mn (List D)} {N : Nat} (Fo : FnOk X.prog X.w X.K X.mg X.base (L2.CX X.prog X.w) k f fd ps (SpD (cg X) N den)) (hr : Room k X.A) (hg : Gl X x) (hm : X.mg x = some (.ref f)) (hk : PySem.W.keepIn X.K (.ref f) = true) (hb : KBn X.K fd ps 0 ks g gV)
    (hkw : EvK X kws mk) (l2 : LenA mk ks.length) (hG : ∀ F vs zs ds es, IsDs (cg X) F vs ds → IsDs (cg X) F zs es → IsDs (cg X) F (gV vs zs) (gD ds es)) (lN : ∀ ds es, ds.length = 0 → es.length = ks.length → (gD ds es).length = N)
    (hall : (backToKw pos (keywordEach kws X.env)).all (·.1.isSome) = true := by rfl) (hks : (backToKw pos (keywordEach kws X.env)).filterMap (·.1) = ks := by rfl) (hdb : (x == ("__debug__" : Str)) = false := by decide)
    (hpl : ((backTo pos (starEach [] X.env)).any (·.1) || (backToKw pos (keywordEach kws X.env)).any (·.1.isNone)) = false := by rfl) : EvE X (.Call (.Name x p) [] kws pos) (callK den gD (Mn.ret []) mk) := fun B tk =>
  PE.mono (pe_callN0 Fo hr hg hm hk hb passL (hkw B tk) hall hks hdb hpl) fun σ H Q h => by
    have q := callK_reads (gV := gV) (n := 0) hG la_nil l2 lN h
    obtain ⟨F, env, r, env', R, hm, fin⟩ := q
    cases hm
    exact fin F H [] R (Same.refl _) .nil
theorem ee_callK {den : Den} {gD : List D → List D → List D} {ma mk : Mn (List D)} {N : Nat} (Fo : FnOk X.prog X.w X.K X.mg X.base (L2.CX X.prog X.w) k f fd ps (SpD (cg X) N den)) (hr : Room k X.A) (hg : Gl X x) (hm : X.mg x = some (.ref f)) (hk : PySem.W.keepIn X.K (.ref f) = true) (hb : KBn X.K fd ps n ks g gV)
    (ha : EvA X (e :: es) ma) (l1 : LenA ma n) (hkw : EvK X kws mk) (l2 : LenA mk ks.length) (hG : ∀ F vs zs ds es, IsDs (cg X) F vs ds → IsDs (cg X) F zs es → IsDs (cg X) F (gV vs zs) (gD ds es)) (lN : ∀ ds es, ds.length = n → es.length = ks.length → (gD ds es).length = N)
    (hall : (backToKw pos (keywordEach kws X.env)).all (·.1.isSome) = true := by rfl) (hks : (backToKw pos (keywordEach kws X.env)).filterMap (·.1) = ks := by rfl) (hdb : (x == ("__debug__" : Str)) = false := by decide)
    (he : starEach (e :: es) X.env = (false, eval e X.env) :: starEach es X.env := by rfl)
    (hpl : ((backTo pos (starEach (e :: es) X.env)).any (·.1) || (backToKw pos (keywordEach kws X.env)).any (·.1.isNone)) = false := by rfl) : EvE X (.Call (.Name x p) (e :: es) kws pos) (callK den gD ma mk) := fun B tk =>
  PE.mono (pe_callN Fo hr hg hm hk hb passL (ha B tk) (hkw B tk) hall hks hdb he hpl) fun σ H Q h => callK_reads (gV := gV) (n := n) hG l1 l2 lN h
end
end RW

set_option Elab.async false
set_option linter.all false
set_option maxRecDepth 100000
set_option maxHeartbeats 4000000
/-! RwEnd: the ends of a law. -/
namespace RW
open PySem PySem.Spec PyProof.Rows L2

def spLaw (K : PySem.W.Frag) : Sp := fun vs H Q _ => ∃ (a : Addr) (ns : List Int), vs = [.ref a] ∧ SqL K H a (ns.map V.int) ∧ ns.length ≤ 63 ∧ ∀ H', Q (.bl true) H'
def LawDen (den : Den) : Prop := ∀ ns : List Int, ns.length ≤ 63 → den [.lst (ns.map .int)] = some (.ok (.val (.bl true)))
theorem ints_data {c : Cg} {F : Hp} : ∀ ns : List Int, IsDs c F (ns.map V.int) (ns.map D.int)
  | [] => .nil
  | n :: ns => .cons (.int n) (ints_data ns)
theorem law_end {P : Program} {w : World} {K : PySem.W.Frag} {mg : Str → Option Value} {base : Heap} {CX : CXT} {k : Nat} {f : Addr} {fd : FuncData} {den : Den} (F : FnOk P w K mg base CX k f fd ["script"] (SpD ⟨K, mg, P, w⟩ 1 den)) (h : LawDen den) :
    FnOk P w K mg base CX k f fd ["script"] (spLaw K) := F.imp fun vs H Q E ⟨a, ns, e, hS, hl, q⟩ => by
  subst e
  refine ⟨rfl, H, [.lst (ns.map .int)], _, Same.refl _, .cons (.lst hS (ints_data ns)) .nil, h ns hl, fun F' H' v _ _ hv => ?_⟩
  cases hv
  exact q H'
theorem walk_law {l : PySem.W.OpenLaw} {q : Program} {loose : List Str} {XP : (Str → Option Value) → Heap → Prop} {YP : World → Heap → Prop} {d : DefRec} {K : Params → PySem.W.Frag} {k : Nat} (hr : Room k callerA) (hn : l.most = some 63) (hdf : d.params.defaults = [])
    (hY : ∀ (w : World) (h : Heap), YP w h → (K w.params).In h)
    (F : ∀ (w : World) (mg : Str → Option Value) (fa : Addr) (h : Heap), (K w.params).In h → h.Ns mainGlobals mg → mg d.name = some (.ref fa) →
      ∃ fd : FuncData, (∀ (s : Shared) (u : Value), BindsTo s fd ⟨[u], []⟩ [("script", u)]) ∧ ∀ base : Heap, (K w.params).In base → base.Ns mainGlobals mg → FnOk l.prog w (K w.params) mg base (L2.CX l.prog w) k fa fd ["script"] (spLaw (K w.params))) :
    PySem.W.WalkO q loose XP YP l.row.toRowW d [] (fun f vs => PySem.call f vs) :=
  L2.walk_of (n := 63) (k := k) (x := "script") (CX := fun w => L2.CX l.prog w) (sp := fun w => spLaw (K w.params)) hn (by decide) hdf hr hY F (fun _ _ a ns hl _ hS => ⟨a, ns, rfl, hS, hl, fun _ => rfl⟩) fun _ _ _ _ _ h => by
    obtain ⟨_, _, _, _, _, _, _, _, _, _, _, _, z⟩ := h
    exact z.elim
theorem fund_mk {K : PySem.W.Frag} {x qual : Str} {st : Stmt} {f T : Addr} {oc : Value} {od an : Option Addr} {osl : Array (Option Value)} {kV doc pm cdv ct : Value} {dvs : List V} {o : Obj} {its : List Value} {n : Nat} (l : K.lookup f = some ⟨oc, od, .func (PySem.W.fnOf x qual (defArgs st) (defBody st) (defScope st) (.ref T) kV doc pm an cdv ct), osl⟩)
    (c : PySem.W.codeIn K cdv qual = true) (k : PySem.W.keepIn K (.ref f) = true) (lT : K.lookup T = some o) (hd : o.data = .seq its.toArray n) (hv : Vals dvs its) (ne : dvs ≠ []) :
    FunD K x qual (defArgs st) (defBody st) (defScope st) dvs [] f (PySem.W.fnOf x qual (defArgs st) (defBody st) (defScope st) (.ref T) kV doc pm an cdv ct) :=
  ⟨⟨oc, od, .ref T, kV, doc, pm, an, cdv, ct, osl, rfl, l, c, .inr ⟨ne, T, o, its, n, rfl, lT, hd, hv⟩, .inl rfl⟩, k⟩
/-- a module's tuple of texts -/
theorem tup_known {K : PySem.W.Frag} {mg : Str → Option Value} {P : Program} {w : World} {F : Hp} {a : Addr} {o : Obj} {its : Array Value} {n : Nat} {vs : List V} {ds : List D} (h : K.lookup a = some o) (hc : o.cls = .type "tuple") (hd : o.data = .seq its n) (hz : its.size ≤ sizeLine) (hv : Vals vs its.toList) (hds : ∀ F, IsDs ⟨K, mg, P, w⟩ F vs ds) : IsD ⟨K, mg, P, w⟩ F (.ref a) (.tup ds) :=
  .tup (.inr ⟨o, its, n, h, hc, hd, hz, hv⟩) (hds F)
end RW

set_option Elab.async false
set_option linter.all false
set_option maxRecDepth 100000
set_option maxHeartbeats 1000000
/-! RwPlain: ==, in on plain data (no bools): equality itself. -/
namespace RW
open PySem PySem.Spec PyProof.Rows L2

mutual
def plain : D → Bool
  | .non => true
  | .int _ => true
  | .str x => PyData.canLay0 (.str x)
  | .tup ds => plains ds
  | .lst ds => plains ds
  | .bl _ => false
  | .set _ => false
  | .dct _ _ => false
  | .ins _ _ => false
def plains : List D → Bool
  | [] => true
  | d :: ds => plain d && plains ds
end
mutual
def dep : D → Nat
  | .tup ds => deps ds + 1
  | .lst ds => deps ds + 1
  | .non => 0
  | .int _ => 0
  | .str _ => 0
  | .bl _ => 0
  | .set _ => 0
  | .dct _ _ => 0
  | .ins _ _ => 0
def deps : List D → Nat
  | [] => 0
  | d :: ds => max (dep d) (deps ds)
end
mutual
theorem plain_py : ∀ {d : D}, plain d = true → ∃ p, toPy d = some p ∧ p.canLay0 = true ∧ p.depth = dep d
  | .non, _ => ⟨_, rfl, rfl, rfl⟩
  | .int i, _ => ⟨_, rfl, rfl, rfl⟩
  | .str x, h => ⟨_, rfl, h, rfl⟩
  | .tup ds, h => by
    rw [plain] at h
    obtain ⟨ps, h1, h2, h3⟩ := plains_py h
    exact ⟨.tuple ps, by rw [toPy, h1]; rfl, by rw [PyData.canLay0]; exact h2, by rw [PyData.depth, dep, h3]⟩
  | .lst ds, h => by
    rw [plain] at h
    obtain ⟨ps, h1, h2, h3⟩ := plains_py h
    exact ⟨.list ps, by rw [toPy, h1]; rfl, by rw [PyData.canLay0]; exact h2, by rw [PyData.depth, dep, h3]⟩
  | .bl _, h => by simp [plain] at h
  | .set _, h => by simp [plain] at h
  | .dct _ _, h => by simp [plain] at h
  | .ins _ _, h => by simp [plain] at h
theorem plains_py : ∀ {ds : List D}, plains ds = true → ∃ ps, toPys ds = some ps ∧ PyData.canLayAll0 ps = true ∧ PyData.depthAll ps = deps ds
  | [], _ => ⟨[], rfl, rfl, rfl⟩
  | d :: ds, h => by
    rw [plains, Bool.and_eq_true] at h
    obtain ⟨p, h1, h2, h3⟩ := plain_py h.1
    obtain ⟨ps, g1, g2, g3⟩ := plains_py h.2
    exact ⟨p :: ps, by rw [toPys, h1, g1], by rw [PyData.canLayAll0, h2, g2]; rfl, by rw [PyData.depthAll, deps, h3, g3]⟩
end
theorem py_tup {ds : List D} {p : PyData} (h : toPy (.tup ds) = some p) : ∃ ps, toPys ds = some ps ∧ p = .tuple ps := by
  rw [toPy, Option.map_eq_some_iff] at h
  obtain ⟨ps, h1, h2⟩ := h
  exact ⟨ps, h1, h2.symm⟩
theorem py_lst {ds : List D} {p : PyData} (h : toPy (.lst ds) = some p) : ∃ ps, toPys ds = some ps ∧ p = .list ps := by
  rw [toPy, Option.map_eq_some_iff] at h
  obtain ⟨ps, h1, h2⟩ := h
  exact ⟨ps, h1, h2.symm⟩
theorem pys_cons {d : D} {ds : List D} {ps : List PyData} (h : toPys (d :: ds) = some ps) : ∃ q qs, toPy d = some q ∧ toPys ds = some qs ∧ ps = q :: qs := by
  rw [toPys] at h
  split at h
  · rename_i q qs h1 h2
    cases h
    exact ⟨q, qs, h1, h2, rfl⟩
  · cases h
mutual
theorem plain_eqv : ∀ {x y : D} {p q : PyData}, plain x = true → plain y = true → toPy x = some p → toPy y = some q → PyData.eqv p q = decide (x = y)
  | .non, y, p, q, _, hy, e1, e2 => by
    cases e1
    cases y with
    | non => cases e2; rfl
    | int _ => cases e2; rfl
    | str _ => cases e2; rfl
    | tup _ => obtain ⟨_, _, rfl⟩ := py_tup e2; rfl
    | lst _ => obtain ⟨_, _, rfl⟩ := py_lst e2; rfl
    | _ => simp [plain] at hy
  | .int i, y, p, q, _, hy, e1, e2 => by
    cases e1
    cases y with
    | non => cases e2; rfl
    | int j => cases e2; rw [PyData.eqv]; simp only [D.int.injEq]; exact Bool.beq_eq_decide_eq i j
    | str _ => cases e2; rfl
    | tup _ => obtain ⟨_, _, rfl⟩ := py_tup e2; rfl
    | lst _ => obtain ⟨_, _, rfl⟩ := py_lst e2; rfl
    | _ => simp [plain] at hy
  | .str i, y, p, q, _, hy, e1, e2 => by
    cases e1
    cases y with
    | non => cases e2; rfl
    | int j => cases e2; rfl
    | str j => cases e2; rw [PyData.eqv]; simp only [D.str.injEq]; exact Bool.beq_eq_decide_eq i j
    | tup _ => obtain ⟨_, _, rfl⟩ := py_tup e2; rfl
    | lst _ => obtain ⟨_, _, rfl⟩ := py_lst e2; rfl
    | _ => simp [plain] at hy
  | .tup ds, y, p, q, hx, hy, e1, e2 => by
    obtain ⟨ps, h1, rfl⟩ := py_tup e1
    rw [plain] at hx
    cases y with
    | non => cases e2; rfl
    | int j => cases e2; rfl
    | str _ => cases e2; rfl
    | tup es =>
      obtain ⟨qs, h2, rfl⟩ := py_tup e2
      rw [plain] at hy
      rw [PyData.eqv, plains_eqv hx hy h1 h2]
      simp
    | lst _ => obtain ⟨_, _, rfl⟩ := py_lst e2; rfl
    | _ => simp [plain] at hy
  | .lst ds, y, p, q, hx, hy, e1, e2 => by
    obtain ⟨ps, h1, rfl⟩ := py_lst e1
    rw [plain] at hx
    cases y with
    | non => cases e2; rfl
    | int j => cases e2; rfl
    | str _ => cases e2; rfl
    | lst es =>
      obtain ⟨qs, h2, rfl⟩ := py_lst e2
      rw [plain] at hy
      rw [PyData.eqv, plains_eqv hx hy h1 h2]
      simp
    | tup _ => obtain ⟨_, _, rfl⟩ := py_tup e2; rfl
    | _ => simp [plain] at hy
  | .bl _, _, _, _, h, _, _, _ => by simp [plain] at h
  | .set _, _, _, _, h, _, _, _ => by simp [plain] at h
  | .dct _ _, _, _, _, h, _, _, _ => by simp [plain] at h
  | .ins _ _, _, _, _, h, _, _, _ => by simp [plain] at h
theorem plains_eqv : ∀ {xs ys : List D} {ps qs : List PyData}, plains xs = true → plains ys = true → toPys xs = some ps → toPys ys = some qs → PyData.eqvAll ps qs = decide (xs = ys)
  | [], [], _, _, _, _, e1, e2 => by cases e1; cases e2; rfl
  | [], y :: ys, _, _, _, _, e1, e2 => by
    cases e1
    obtain ⟨_, _, _, _, rfl⟩ := pys_cons e2
    rfl
  | x :: xs, [], _, _, _, _, e1, e2 => by
    cases e2
    obtain ⟨_, _, _, _, rfl⟩ := pys_cons e1
    rfl
  | x :: xs, y :: ys, _, _, hx, hy, e1, e2 => by
    obtain ⟨p, ps, a1, a2, rfl⟩ := pys_cons e1
    obtain ⟨q, qs, b1, b2, rfl⟩ := pys_cons e2
    rw [plains, Bool.and_eq_true] at hx hy
    rw [PyData.eqvAll, plain_eqv hx.1 hy.1 a1 b1, plains_eqv hx.2 hy.2 a2 b2]
    simp only [List.cons.injEq, Bool.decide_and]
end
theorem shaped_plain {d : D} {p : PyData} (h : plain d = true) (hd : dep d ≤ 64) (e : toPy d = some p) : SeqAt.shaped p = true := by
  obtain ⟨q, h1, h2, h3⟩ := plain_py h
  rw [e] at h1
  cases h1
  unfold SeqAt.shaped
  rw [h2, h3]
  simpa using hd
theorem eqB_plain {x y : D} (hx : plain x = true) (hy : plain y = true) (dx : dep x ≤ 64) (dy : dep y ≤ 64) : eqB x y = some (decide (x = y)) := by
  obtain ⟨p, h1, _, _⟩ := plain_py hx
  obtain ⟨q, g1, _, _⟩ := plain_py hy
  unfold eqB
  rw [h1, g1]
  simp only
  rw [shaped_plain hx dx h1, shaped_plain hy dy g1, plain_eqv hx hy h1 g1]
  rfl
theorem any_eqv {x : D} {p : PyData} (hx : plain x = true) (e : toPy x = some p) : ∀ {ds : List D} {qs : List PyData}, plains ds = true → toPys ds = some qs → (qs.any fun z => PyData.eqv z p) = decide (x ∈ ds)
  | [], _, _, h => by cases h; rfl
  | d :: ds, _, hd, h => by
    obtain ⟨q, qs, a1, a2, rfl⟩ := pys_cons h
    rw [plains, Bool.and_eq_true] at hd
    rw [List.any_cons, plain_eqv hd.1 hx a1 e, any_eqv hx e hd.2 a2]
    simp only [List.mem_cons, Bool.decide_or]
    congr 1
    exact decide_eq_decide.mpr eq_comm
theorem inB_seq {x : D} {ds : List D} (hx : plain x = true) (dx : dep x ≤ 64) (hd : plains ds = true) (dd : deps ds ≤ 63) : inB x (.lst ds) = some (decide (x ∈ ds)) ∧ inB x (.tup ds) = some (decide (x ∈ ds)) := by
  obtain ⟨p, h1, _, _⟩ := plain_py hx
  obtain ⟨qs, g1, g2, g3⟩ := plains_py hd
  have sl : SeqAt.shaped (.list qs) = true := by
    unfold SeqAt.shaped
    rw [PyData.canLay0, g2, PyData.depth, g3]
    simpa using dd
  have sp := shaped_plain hx dx h1
  have e := any_eqv hx h1 hd g1
  constructor
  · unfold inB
    simp only
    rw [h1, g1]
    simp only
    rw [sp, sl, e]
    rfl
  · unfold inB
    simp only
    rw [h1, g1]
    simp only
    rw [sp, sl, e]
    rfl
theorem plains_mem {ds : List D} (h : ∀ d ∈ ds, plain d = true) : plains ds = true := by
  induction ds with
  | nil => rfl
  | cons d ds ih => rw [plains, h d List.mem_cons_self, ih fun x hx => h x (List.mem_cons_of_mem _ hx)]; rfl
theorem deps_mem {ds : List D} {n : Nat} (h : ∀ d ∈ ds, dep d ≤ n) : deps ds ≤ n := by
  induction ds with
  | nil => exact Nat.zero_le _
  | cons d ds ih =>
    rw [deps]
    exact Nat.max_le.mpr ⟨h d List.mem_cons_self, ih fun x hx => h x (List.mem_cons_of_mem _ hx)⟩
end RW

set_option Elab.async false
set_option linter.all false
set_option maxRecDepth 100000
set_option maxHeartbeats 1000000
/-! RwLoop: what code over data comes to: loops that search, loops that gather. -/
namespace RW
open PySem PySem.Spec PyProof.Rows L2

/-- it goes on with slots of the kind Pe, or it returns -/
def Comes' (o : Option RV) (Pe : En → Prop) (x : Option (Out × En)) : Prop := match o with
  | none => ∃ env', x = some (.nx, env') ∧ Pe env'
  | some r => ∃ env', x = some (.ret r, env')
def orS (o o2 : Option RV) : Option RV := match o with
  | none => o2
  | some r => some r
section
variable {Pe P1 P2 : En → Prop} {o o2 : Option RV} {m1 m2 m : Ms} {env : En}
theorem cm_seq (h1 : Comes' o P1 (m1 env)) (h2 : o = none → ∀ env', P1 env' → Comes' o2 P2 (m2 env')) : Comes' (orS o o2) P2 (seqM m1 m2 env) := by
  cases o with
  | none =>
    obtain ⟨env', e, p⟩ := h1
    have := h2 rfl env' p
    unfold seqM
    rw [e]
    exact this
  | some r =>
    obtain ⟨env', e⟩ := h1
    exact ⟨env', by unfold seqM; rw [e]⟩
theorem cm_nil (h : Pe env) : Comes' none Pe (nxM env) := ⟨env, rfl, h⟩
theorem cm_imp (h : Comes' o P1 (m env)) (k : ∀ e, P1 e → P2 e) : Comes' o P2 (m env) := by
  cases o with
  | none => obtain ⟨e, a, b⟩ := h; exact ⟨e, a, k e b⟩
  | some r => exact h
theorem cm_ret {k : Mn RV} {r : RV} {env' : En} (h : k env = some (.ok r, env')) : Comes' (some r) Pe (retM k env) := ⟨env', by unfold retM thenS; rw [h]⟩
theorem cm_set {k : Mn RV} {r : RV} {i : Nat} {env1 env2 : En} (h : k env = some (.ok r, env1)) (p : putSl i (slOf r) env1 = some env2) (q : Pe env2) : Comes' none Pe (setM i k env) := ⟨env2, by unfold setM thenS; rw [h]; simp only; rw [p]; rfl, q⟩
theorem cm_if {t : Mn Bool} {a b : Ms} {c : Bool} {env1 : En} (h : t env = some (.ok c, env1)) (ha : c = true → Comes' o Pe (a env1)) (hb : c = false → Comes' o Pe (b env1)) : Comes' o Pe (ifM t a b env) := by
  have e : ifM t a b env = (if c then a else b) env1 := by unfold ifM thenS; rw [h]
  rw [e]
  cases c with
  | true => exact ha rfl
  | false => exact hb rfl
theorem cm_go {g : Bd} {body : Ms} {f : D → Option RV} : ∀ {ds : List D} {env : En}, Pe env → (∀ d ∈ ds, ∀ env, Pe env → ∃ env1, g d env = some env1 ∧ Comes' (f d) Pe (body env1)) → Comes' (ds.findSome? f) Pe (forGo g body ds env)
  | [], env, p, _ => ⟨env, rfl, p⟩
  | d :: ds, env, p, h => by
    obtain ⟨env1, e, q⟩ := h d List.mem_cons_self env p
    cases fd : f d with
    | none =>
      rw [fd] at q
      obtain ⟨env2, e2, p2⟩ := q
      have ih := cm_go (f := f) (ds := ds) p2 fun d hd => h d (List.mem_cons_of_mem _ hd)
      have e3 : forGo g body (d :: ds) env = forGo g body ds env2 := by rw [forGo, e]; simp only; rw [e2]
      rw [e3, List.findSome?_cons, fd]
      exact ih
    | some r =>
      rw [fd] at q
      obtain ⟨env2, e2⟩ := q
      rw [List.findSome?_cons, fd]
      exact ⟨env2, by rw [forGo, e]; simp only; rw [e2]⟩
theorem cm_for {src : Mn (List D)} {g : Bd} {body : Ms} {f : D → Option RV} {ds : List D} {env1 : En} (hs : src env = some (.ok ds, env1)) (p : Pe env1) (h : ∀ d ∈ ds, ∀ env, Pe env → ∃ env1, g d env = some env1 ∧ Comes' (f d) Pe (body env1)) : Comes' (ds.findSome? f) Pe (forM' src g body env) := by
  have e : forM' src g body env = forGo g body ds env1 := by unfold forM' thenS; rw [hs]
  rw [e]
  exact cm_go p h
theorem den_of {k : Nat} {m : Ms} {ds : List D} {r : RV} (h : Comes' (some r) Pe (m (ds.map .val ++ List.replicate k .no))) : denOf k m ds = some (.ok r) := by
  obtain ⟨env', e⟩ := h
  unfold denOf
  rw [e]
end
/-- the slots at the places ps hold data; the others nothing or data -/
def Slots (n : Nat) (l : List (Nat × Sl)) (env : En) : Prop := env.length = n ∧ (∀ q ∈ l, env[q.1]? = some q.2) ∧ ∀ i : Nat, isLent env[i]? = false
theorem Slots.at {n : Nat} {l : List (Nat × Sl)} {env : En} (h : Slots n l env) {i : Nat} {s : Sl} (hm : (i, s) ∈ l) : env[i]? = some s := h.2.1 _ hm
theorem Slots.put {n : Nat} {l : List (Nat × Sl)} {env : En} (h : Slots n l env) {i : Nat} {s : Sl} (hi : i < n) (hs : isLent (some s) = false) : ∃ env', putSl i s env = some env' ∧ env' = env.set i s ∧ Slots n ((i, s) :: l.filter fun q => q.1 != i) env' := by
  refine ⟨env.set i s, ?_, rfl, ?_, ?_, ?_⟩
  · unfold putSl
    rw [if_pos (by rw [h.1]; exact hi), if_neg (by rw [h.2.2 i]; exact Bool.false_ne_true)]
  · rw [List.length_set]; exact h.1
  · intro q hq
    rcases List.mem_cons.mp hq with e | hq
    · rw [e]
      exact List.getElem?_set_self (by rw [h.1]; exact hi)
    · obtain ⟨h1, h2⟩ := List.mem_filter.mp hq
      have : q.1 ≠ i := by simpa using h2
      rw [List.getElem?_set_ne (Ne.symm this)]
      exact h.2.1 q h1
  · intro j
    by_cases hj : j = i
    · subst hj
      rw [List.getElem?_set_self (by rw [h.1]; exact hi)]
      exact hs
    · rw [List.getElem?_set_ne (Ne.symm hj)]
      exact h.2.2 j
theorem Slots.less {n : Nat} {l l' : List (Nat × Sl)} {env : En} (h : Slots n l env) (k : ∀ q ∈ l', q ∈ l) : Slots n l' env := ⟨h.1, fun q hq => h.2.1 q (k q hq), h.2.2⟩
theorem lv_at {i : Nat} {env : En} {d : D} (h : env[i]? = some (.val d)) : lv i env = some (.ok d, env) := by
  unfold lv
  rw [h]
/-! evaluations that leave the slots alone -/
section
variable {env env' : En} {d x y : D} {ds : List D} {m ma mb : Mn D} {mr : Mn RV} {mA : Mn (List D)} {b : Bool} {r : RV}
theorem rt_ok {α : Type} {a : α} : Mn.ret a env = some (.ok a, env) := rfl
theorem a_cons (h : m env = some (.ok d, env)) (ha : mA env = some (.ok ds, env')) : (Mn.bind m fun d => Mn.bind mA fun ds => Mn.ret (d :: ds)) env = some (.ok (d :: ds), env') := by simp [Mn.bind, h, ha, Mn.ret]
theorem tup_ok (h : mA env = some (.ok ds, env')) (hl : ds.length ≤ 1000) : tupM mA env = some (.ok (.tup ds), env') := by
  have : ds.length ≤ sizeLine := by rw [sizeLine_eq]; omega
  simp [tupM, Mn.bind, h, this, Mn.ret]
theorem lst_ok (h : mA env = some (.ok ds, env')) (hl : ds.length ≤ 1000) : lstM mA env = some (.ok (.new ds), env') := by
  have : ds.length ≤ sizeLine := by rw [sizeLine_eq]; omega
  simp [lstM, Mn.bind, h, this, Mn.ret]
theorem frv_ok (h : mr env = some (.ok r, env')) : Mn.fr mr env = some (.ok (frz r), env') := by simp [Mn.fr, Mn.bind, h, Mn.ret]
theorem vl_ok (h : m env = some (.ok d, env')) : Mn.val m env = some (.ok (.val d), env') := by simp [Mn.val, Mn.bind, h, Mn.ret]
theorem op_ok {g : D → D → Option RV} (h1 : ma env = some (.ok x, env)) (h2 : mb env = some (.ok y, env)) (hg : g x y = some r) : op2 g ma mb env = some (.ok r, env) := by simp [op2, Mn.bind, h1, h2, Mn.lift, hg]
theorem cmp_ok {g : D → D → Option RV} (h1 : ma env = some (.ok x, env)) (h2 : mb env = some (.ok y, env)) (hg : g x y = some (.val (.bl b))) : cmpT g ma mb env = some (.ok b, env) := by simp [cmpT, op2, Mn.bind, h1, h2, Mn.lift, hg, boolOf]
theorem tst_ok' (h : mr env = some (.ok (.val (.bl b)), env')) : tstM mr env = some (.ok b, env') := by simp [tstM, Mn.bind, h, Mn.lift, boolOf]
theorem and_ok {t u : Mn Bool} {a : Bool} (h1 : t env = some (.ok a, env)) (h2 : a = true → u env = some (.ok b, env)) : andM t u env = some (.ok (a && b), env) := by
  unfold andM Mn.bind
  rw [h1]
  cases a with
  | true => exact h2 rfl
  | false => rfl
theorem or_ok {t u : Mn Bool} {a : Bool} (h1 : t env = some (.ok a, env)) (h2 : a = false → u env = some (.ok b, env)) : orM t u env = some (.ok (a || b), env) := by
  unfold orM Mn.bind
  rw [h1]
  cases a with
  | false => exact h2 rfl
  | true => rfl
theorem not_ok {t : Mn Bool} (h : t env = some (.ok b, env')) : notM t env = some (.ok (!b), env') := by simp [notM, Mn.bind, h, Mn.ret]
theorem call1_ok {g : List D → Option RV} (h : mA env = some (.ok ds, env')) (hg : g ds = some r) : call1 g mA env = some (.ok r, env') := by simp [call1, Mn.bind, h, Mn.lift, hg]
theorem callM_ok {den : Den} {dd : List D} {rs : Rs RV} (h : mA env = some (.ok ds, env')) (hg : den (ds ++ dd) = some rs) : callM den dd mA env = some (rs, env') := by simp [callM, Mn.bind, h, hg]
theorem walk_ok (h : m env = some (.ok d, env')) (hs : seqOf d = some ds) : walkM m env = some (.ok ds, env') := by simp [walkM, Mn.bind, h, Mn.lift, hs]
end
/-! a list comprehension -/
theorem lc_go {g : Bd} {tt : Mn Bool} {te : Mn D} {base : En} {p : D → Bool} {f : D → D} : ∀ {ds acc : List D}, (∀ d ∈ ds, ∃ e1 e2, g d base = some e1 ∧ tt e1 = some (.ok (p d), e2) ∧ (p d = true → ∃ e3, te e2 = some (.ok (f d), e3))) → lcGo g tt te base ds acc = some (acc ++ (ds.filter p).map f)
  | [], acc, _ => by simp [lcGo]
  | d :: ds, acc, h => by
    obtain ⟨e1, e2, h1, h2, h3⟩ := h d List.mem_cons_self
    have ih : ∀ acc, lcGo g tt te base ds acc = some (acc ++ (ds.filter p).map f) := fun acc => lc_go fun d hd => h d (List.mem_cons_of_mem _ hd)
    rw [lcGo, h1]
    simp only
    rw [h2]
    cases hp : p d with
    | true =>
      obtain ⟨e3, h4⟩ := h3 hp
      simp only [h4, ih, List.filter_cons, hp, if_true, List.map_cons, List.append_assoc, List.singleton_append]
    | false =>
      simp only [ih, List.filter_cons, hp, Bool.false_eq_true, if_false]
/-! a dict of new keys -/
theorem dput_new {ks vs : List D} {d v : D} {k : NK} (h : ks.any (hasKey k) = false) : dPut ks vs d k v = (ks ++ [d], vs ++ [v]) := by
  unfold dPut
  rw [h]
  rfl
theorem dc_go {g : Bd} {tt : Mn Bool} {tk tv : Mn D} {base : En} {fk fv : D → D} : ∀ {ds ks vs : List D}, (∀ d ∈ ds, ∃ e1 e2 e3 e4 k, g d base = some e1 ∧ tt e1 = some (.ok true, e2) ∧ tk e2 = some (.ok (fk d), e3) ∧ tv e3 = some (.ok (fv d), e4) ∧ dKey (fk d) = some k) →
    (ds.map fk).Nodup → (∀ d ∈ ds, fk d ∉ ks) → (∀ x ∈ ks ++ ds.map fk, ∀ y ∈ ks ++ ds.map fk, ∀ k, dKey x = some k → hasKey k y = true → y = x) → dcGo g tt tk tv base ds (ks, vs) = some (ks ++ ds.map fk, vs ++ ds.map fv)
  | [], ks, vs, _, _, _, _ => by simp [dcGo]
  | d :: ds, ks, vs, h, nd, nk, inj => by
    obtain ⟨e1, e2, e3, e4, k, h1, h2, h3, h4, h5⟩ := h d List.mem_cons_self
    obtain ⟨n1, n2⟩ := List.nodup_cons.mp (by simpa using nd : (fk d :: ds.map fk).Nodup)
    have new : ks.any (hasKey k) = false := by
      cases e : ks.any (hasKey k) with
      | false => rfl
      | true =>
        obtain ⟨y, hy, hk⟩ := List.any_eq_true.mp e
        have := inj (fk d) (by simp) y (List.mem_append_left _ hy) k h5 hk
        exact absurd (this ▸ hy) (nk d List.mem_cons_self)
    rw [dcGo, h1]
    simp only
    rw [h2]
    simp only
    rw [h3]
    simp only
    rw [h4]
    simp only
    rw [h5]
    simp only
    rw [dput_new new, dc_go (fk := fk) (fv := fv) (fun d hd => h d (List.mem_cons_of_mem _ hd)) n2 (fun x hx => ?_) (by simpa [List.append_assoc] using inj)]
    · simp
    · intro hm
      rcases List.mem_append.mp hm with hm | hm
      · exact nk x (List.mem_cons_of_mem _ hx) hm
      · have : fk x = fk d := by simpa using hm
        exact n1 (this ▸ List.mem_map_of_mem hx)
end RW

set_option Elab.async false
set_option linter.all false
set_option maxRecDepth 100000
set_option maxHeartbeats 4000000
/-! RwTry: try .. except C as n, the caught exception known from then on. -/
namespace RW
open PySem PySem.Spec PyProof.Rows L2

section
variable {X : Cx} {pins : List (Addr × Obj)} {σ : L2.St} {H : Hp} {sI t : Shared} {G : Heap} {a : Addr} {o : HO}
/-- the caught exception is tracked where it landed -/
theorem landK (I : Inv X pins σ H sI) (g : ∀ b u, sI.heap.get? b = some u → b ∉ frs X.stack → G.get? b = some u) (st : G.StaysIn t.heap) (up : sI.heap.UpToSlots t.heap) (os : t.os = sI.os) (ag : AllBare t.gens)
    (ga : G.get? a = none) (af : a ∉ frs X.stack) (na : H a = none) (new : ObjOk X.prog X.w (upd H a o) t.heap a o) : Inv X pins σ (upd H a o) t := by
  have J := I.landed g st up os ag
  have n0 : ∀ b u, sI.heap.get? b = some u → b ≠ a := fun b u e z => by
    rw [z] at e
    rw [g a u e af] at ga
    cases ga
  have sl : ∀ b u, sI.heap.get? b = some u → b ∈ frs X.stack → ∃ sl, t.heap.get? b = some { u with slots := sl } := fun b u e hb => by
    obtain ⟨_, u', e', hd⟩ := I.stack.mem hb
    rw [e] at e'
    cases e'
    exact up b u e hd
  refine I.call' (ch := []) os { keep := fun b u e _ hf _ => st b u (g b u e hf), slot := fun b u e _ hb _ => sl b u e hb, free := fun b u e n _ => by rw [upd_ne (n0 b u e)]; exact n, there := fun b u e _ => ?_, tups := fun b xs e => by rw [upd_ne (ne_of_none e na)]; exact e, frzs := fun b u v e => by rw [upd_ne (ne_of_none e na)]; exact e, tbls := fun b ps e => ⟨#[], by rw [upd_ne (ne_of_none e na), e]; simp⟩ } (fun b u e => ?_) ag (fun _ z => nomatch z)
  · by_cases hb : b ∈ frs X.stack
    · obtain ⟨s1, q⟩ := sl b u e hb
      exact ⟨_, q⟩
    · exact ⟨u, st b u (g b u e hb)⟩
  · by_cases hb : b = a
    · subst hb
      rw [upd_same] at e
      cases e
      exact new
    · rw [upd_ne hb] at e
      exact (J.hok b u e).stay (fun _ _ _ q => q) (fun c q => by rw [upd_ne (ne_of_none q na)]; exact q) fun c xs q => by rw [upd_ne (ne_of_none q na)]; exact q
theorem toSuite (I : Inv X pins σ H t) (a : Addr) : Inv (X.suite a (X.pn ++ pins)) [] σ H t := ⟨I.ok.suite _ _, I.os, I.bare, I.base, I.loc, I.cell, I.free, I.freeC, fun p hp => I.pin p (by simpa using hp), I.hok, I.len⟩
theorem ofSuite {q : List (Addr × Obj)} (I : Inv (X.suite a (X.pn ++ pins)) q σ H t) (ok : X.Ok) : Inv X pins σ H t := ⟨ok, I.os, I.bare, I.base, I.loc, I.cell, I.free, I.freeC, fun p hp => I.pin p (List.mem_append_left _ hp), I.hok, I.len⟩
end

/-- what is wished of an exception of the body, slot i the clause's name -/
def wK (K : PySem.W.Frag) (c : Value) (i : Nat) (ts : Addr → TS) (Wo : WX) (Dk : Ends) : WX := fun cls d σ H =>
  ∃ b, PySem.W.exmOne K cls c = some b ∧
    (b = true → ∀ a, H a = none → ts a ⟨fun σ' H' => Dk.nx (σ'.set i none) H', Dk.rt, fun σ' H' => Dk.bk (σ'.set i none) H', fun σ' H' => Dk.ct (σ'.set i none) H'⟩ (σ.set i (some (.ref a))) (upd H a (ExcO cls d a))) ∧
    (b = false → Wo cls d σ H)
section
variable {X : Cx} {x n : Str} {c : Value} {i : Nat} {body suite : List Stmt} {st0 : Stmt} {np pos pos' : Pos} {tb : WX → TS} {ts : Addr → TS} {Wo : WX}
theorem ps_tryK (hst : X.stack = X.env :: X.outer) (hfr : X.env.frame = some X.env.locals) (hN : X.N.Nodup) (hi : X.N[i]? = some n) (hloc : X.env.kindOf n = some .local) (hc : Names X x c) (tk : Takes X Wo)
    (hb : ∀ (W : WX) (pn : List (Addr × Obj)) (xe : Value → Shared → Prop), Takes (X.tr pn xe) W → PSs (X.tr pn xe) body (tb W))
    (hsu : ∀ (a : Addr) (pn : List (Addr × Obj)), PSs (X.suite a pn) (st0 :: suite) (ts a)) :
    PS X (.Try body [.ExceptHandler (some (.Name x np)) (some n) (st0 :: suite) pos'] [] [] pos) (fun Dk σ H => tb (wK X.K c i ts Wo Dk) Dk σ H) := by
  constructor
  intro pins s σ H Dk I h
  have ok := I.ok
  have afr : X.A.frames = some (X.env :: X.outer) := by rw [ok.frames, hst]
  apply wpAny_Try_except
  let hd : ExceptHandler := .ExceptHandler (some (.Name x np)) (some n) (st0 :: suite) pos'
  let land : Value → Shared → Prop := fun e s₁ => wpAny (model X.prog X.w) X.A (noteFrame e X.env) (fun _ s₂ => wpAny (model X.prog X.w) X.A (setFlight e none) (fun _ s₃ => wpAny (model X.prog X.w) X.A (handleBy e X.env [hd]) (SP X pins Dk) X.xe s₃) X.xe s₂) X.xe s₁
  refine wpAny_mono ((hb (wK X.K c i ts Wo Dk) (X.pn ++ pins) land fun u s' xx => ?_).run [] s σ H Dk (I.toTry _) h) (fun f s1 q => ?_) fun e s1 he => he
  · obtain ⟨a, B, sI, pins', σ1, H1, cls, d, rfl, J0, nb, up, sky, na, os, ag, k, hk, yes, no⟩ := xx
    have J : Inv X pins σ1 H1 sI := J0.ofTry ok
    rw [show (X.tr (X.pn ++ pins) land).stack = X.env :: X.outer from hst] at sky
    show wpAny (model X.prog X.w) X.A (noteFrame (.ref a) X.env) _ _ _
    refine Sky.land Zc.steady afr hfr sky fun h3 fl up3 => ?_
    have J3 := J.landed (s' := { s' with heap := h3 }) nb fl.1 (up.trans up3) os ag
    obtain ⟨oe, vs, he, hz, hd'⟩ := fl.there
    have off : a ∉ frs (X.env :: X.outer) := fun hm => by
      obtain ⟨_, o', e', nf⟩ := fl.2.2.1.mem hm
      rw [he] at e'
      cases e'
      exact nf _ hd'
    have nL : a ≠ X.env.locals := fun z => off (List.mem_filterMap.mpr ⟨X.env, List.mem_cons_self, by rw [hfr, z]⟩)
    have nF : a ∉ X.fs := fun hm => by
      obtain ⟨e, he', q⟩ := List.mem_filterMap.mp hm
      exact off (List.mem_filterMap.mpr ⟨e, List.mem_cons_of_mem _ he', q⟩)
    have S3 := J3.suite he hd' na nL nF
    refine wpAny_handleBy_cons (codeAny_handlers_test ?_) (by intro q; cases q)
    have ty : PySem.W.Looks (model X.prog X.w) h3 (typeOf (.ref a)) cls := fun A Q E s1 kk q => wpAny_typeOf_ref (kk _ _ he) (by rw [hz.1]; exact q)
    have LM := PySem.W.exm_one (M := model X.prog X.w) J3.kIn ty hk
    have named : ∀ {Q : Value → Shared → Prop} {E : Value → Shared → Prop}, Q c { s' with heap := h3 } → wpAny (model X.prog X.w) (X.A.mark (some (.ref a))) (eval (.Name x np) X.env) Q E { s' with heap := h3 } := fun {Q E} q => by
      rcases hc with ⟨gl, nd, hm | ⟨hm, hv, nn⟩⟩
      · exact ld_glob (X := X.suite a ((a, oe) :: (X.pn ++ pins))) S3 gl hm q nd
      · exact ld_blt (X := X.suite a ((a, oe) :: (X.pn ++ pins))) S3 gl hm hv q nn nd
    refine named (LM.here ?_)
    cases k with
    | true =>
      refine codeAny_handlers_suite_as ?_
      refine HandSPX.lands_againZ fl fun h4 fl4 up4 => ?_
      obtain ⟨oe4, vs4, he4, hz4, hd4⟩ := fl4.there
      have J4 : Inv X pins σ1 (upd H1 a (ExcO cls d a)) { s' with heap := h4 } :=
        landK J nb fl4.1 ((up.trans up3).trans up4) os ag fl4.2.1 (by rw [hst]; exact off) na (excO_ok he4 hz4 hd4)
      refine store_ok (X := X.suite a (X.pn ++ pins)) (v := .ref a) (toSuite J4 a) hN hi (.inl hloc) rfl (fun s5 S5 => ?_) (.inr hloc)
      have fin : ∀ {σ6 : L2.St} {H6 : Hp} {s6 : Shared} {Q : Shared → Prop}, Inv (X.suite a (X.pn ++ pins)) [] σ6 H6 s6 → (∀ s7, Inv X pins (σ6.set i none) H6 s7 → Q s7) →
          wpAny (model X.prog X.w) X.A (do bindName X.env n .none; unbindBehindTheSuite X.env n pos') (fun _ s7 => Q s7) X.xe s6 := fun {σ6 H6 s6 Q} S6 hq => gone_ok (ofSuite S6 ok) hN hi hloc hq
      refine wpAny_mono ((hsu a (X.pn ++ pins)).run [] s5 _ _ _ S5 (yes rfl a na)) (fun f s6 q => ?_) fun _ _ z => False.elim z
      cases f with
      | ret u =>
        obtain ⟨v6, σ6, H6, S6, r6, q6⟩ := q
        exact fin S6 fun s7 J7 => ⟨_, _, _, J7, r6, q6⟩
      | next =>
        obtain ⟨σ6, H6, S6, q6⟩ := q
        exact fin S6 fun s7 J7 => ⟨_, _, J7, q6⟩
      | brk =>
        obtain ⟨σ6, H6, S6, q6⟩ := q
        exact fin S6 fun s7 J7 => ⟨_, _, J7, q6⟩
      | cont =>
        obtain ⟨σ6, H6, S6, q6⟩ := q
        exact fin S6 fun s7 J7 => ⟨_, _, J7, q6⟩
    | false =>
      show wpAny _ X.A (handleBy (.ref a) X.env []) _ _ _
      refine wpAny_handleBy_nil ?_
      obtain ⟨f1, f2, f3, o5, v5, T, oT, tt, g1, g2, g3, g4, g5⟩ := id fl
      have last : wpAny (model X.prog X.w) X.A (setFlight (.ref a) X.env.frame) (fun _ s4 => wpAny (model X.prog X.w) X.A (throw (.ref a) : Sem Flow) (SP X pins Dk) X.xe s4) X.xe { s' with heap := h3 } := by
        rw [hfr]
        refine HandSPX.setFlight_upZ fl fun h4 hh up4 => wpAny_throw (tk _ _ ?_)
        exact ⟨a, B, sI, pins, σ1, H1, cls, d, rfl, J, nb, (up.trans up3).trans up4, .inr (.inr (by rw [hst]; exact hh)), na, os, ag, no rfl⟩
      unfold PySem.passOn
      refine wpAny_bind (wpAny_field g1 g3 g4 ?_)
      rw [if_neg (show ¬ ((Value.ref T == Value.none) = true) from by simp)]
      first
        | exact wpAny_bind (wpAny_pure (wpAny_bind last))
        | exact wpAny_bind last
  · cases f with
    | ret u =>
      obtain ⟨v, σ1, H1, J, r, q⟩ := q
      exact ⟨v, σ1, H1, J.ofTry ok, r, q⟩
    | next =>
      obtain ⟨σ1, H1, J, q⟩ := q
      exact wpAny_execs_nil ⟨σ1, H1, J.ofTry ok, q⟩
    | brk =>
      obtain ⟨σ1, H1, J, q⟩ := q
      exact ⟨σ1, H1, J.ofTry ok, q⟩
    | cont =>
      obtain ⟨σ1, H1, J, q⟩ := q
      exact ⟨σ1, H1, J.ofTry ok, q⟩
end
end RW

set_option Elab.async false
set_option linter.all false
set_option maxRecDepth 100000
set_option maxHeartbeats 4000000
/-! RwExc: exceptions of own classes over data: raised, caught and held, asked for their class and their field. -/
namespace RW
open PySem PySem.Spec PyProof.Rows L2

/-- what an own __init__ does that stores its one argument -/
def spInit (C : Addr) (f : Str) : Sp := fun vs H Q _ => ∃ (a : Addr) (y : V), vs = [.ref a, y] ∧ H a = some (exo a C none) ∧ ∀ dx, H dx = none → dx ≠ a → Q .non (upd (upd H dx (exd dx [(f, y)])) a (exo a C (some dx)))
section
variable {P : Program} {w : World} {K : PySem.W.Frag} {mg : Str → Option Value} {base : Heap}
theorem fn_init {qual f : Str} {params : Arguments} {scope : Scope} {dvs : List V} {kws : List (Str × V)} {fI C : Addr} {fd : FuncData} {p1 p2 p3 p4 : Pos} (Fn : FunD K "__init__" qual params [.Assign [.Attribute (.Name "self" p1) f p2] (.Name f p3) p4] scope dvs kws fI fd)
    (S : FnScope ["self", f] ["self", f] scope) (h0 : scope.names.lookup ("self" : Str) = some .local) (h1 : scope.names.lookup f = some .local) (hn : ("self" : Str) ≠ f) (hd : (f == ("__debug__" : Str)) = false) (hcd : (f == ("__classdict__" : Str)) = false) (T : OexC K C) (no : PySem.W.findIn K (.ref C) f = some none) :
    FnOk P w K mg base (L2.CX P w) 1 fI fd ["self", f] (spInit C f) := by
  refine Fn.ok S (fun vs H Q E h => by obtain ⟨a, y, rfl, _⟩ := h; rfl) fun cdv A outer s H vs Q E hr h => ?_
  obtain ⟨a, y, rfl, ha, fin⟩ := h
  refine ⟨_, pss_one (ps_ost (pe_var (i := 0) rfl (.inl h0)) (pe_var (i := 1) rfl (.inl h1) hd hcd)), ?_⟩
  refine ⟨y, rfl, .ref a, rfl, a, C, rfl, T, no, .inl ⟨ha, fin⟩⟩
end
/-- what the walk knows of an own exception class with a field -/
structure XFacts (P : Program) (w : World) (K : PySem.W.Frag) (mg : Str → Option Value) (base : Heap) (x : Str) : Prop where
  mem : x ∈ excF
  ex : ∃ (C fI : Addr) (fd : FuncData), mg x = some (.ref C) ∧ OexC K C ∧ PySem.W.findIn K (.ref C) "__init__" = some (some (.ref fI)) ∧ PySem.W.typeIn K (.ref fI) = some (.type "function") ∧
    FnOk P w K mg base (L2.CX P w) 1 fI fd ["self", excField x] (spInit C (excField x)) ∧ Binds K fd ["self", excField x] []
def raiseM (x : Str) (m : Mn D) : Ms := thenS m fun d env => some (.ex x (some d), env)
section
variable {X : Cx}
theorem es_raise {x : Str} {e : Expr} {m : Mn D} {p pos rpos : Pos} (hc : X.calm = true) (T : XFacts X.prog X.w X.K X.mg X.base x) (hr : Room 2 X.A) (hg : Gl X x) (he : EvD X e m) (hdb : (x == ("__debug__" : Str)) = false := by decide)
    (hs : starEach [e] X.env = (false, eval e X.env) :: starEach [] X.env := by rfl) (hpl : (backTo pos (starEach [] X.env)).any (·.1) = false := by rfl) : EvS X (.Raise (some (.Call (.Name x p) [e] [] pos)) none rpos) (raiseM x m) := fun B tk => by
  obtain ⟨C, fI, fd, hm, TC, iC, tI, F1, hb⟩ := T.ex
  refine PS.mono (ps_raise hc tk (pmk_oex (CX := L2.CX X.prog X.w) TC iC tI F1 hr hb (dvs := []) .nil passL hg hm (pa_cons (he B tk) pa_nil hs) hdb hs hpl)) fun Dk σ H ⟨F, env, o, env', R, hk, fin⟩ => ?_
  show tD _ _ _ _ _ _
  refine thenD R hk (fun d env1 h1 F1 H1 v R1 s1 iv => ?_) fin
  cases h1
  refine ⟨by simp, fun a ha => ⟨a, v, rfl, upd_same, fun dx hx ne => ⟨rfl, dx, [(excField x, v)], upd_same, by rw [upd_ne ne, upd_same], by rw [upd_ne ne] at hx; exact hx, ?_⟩⟩⟩
  have hx1 : H1 dx = none := by rw [upd_ne ne] at hx; exact hx
  have eH : upd (L2.del (upd (upd (upd H1 a (exo a C none)) dx (exd dx [(excField x, v)])) a (exo a C (some dx))) a) dx (.xd [(excField x, v)]) = upd H1 dx (.xd [(excField x, v)]) := by
    funext b
    by_cases z1 : b = dx
    · subst z1
      rw [upd_same, upd_same]
    · rw [upd_ne z1, upd_ne z1]
      by_cases z2 : b = a
      · subst z2
        rw [L2.del_same, ha]
      · rw [L2.del_ne z2, upd_ne z2, upd_ne z1, upd_ne z2]
  rw [eH]
  obtain ⟨R2, s2⟩ := R1.newF (o := .xd [(excField x, v)]) hx1
  exact fin σ _ _ _ _ R2 (s1.trans s2) ⟨⟨C, rfl, hm⟩, T.mem, dx, v, rfl, upd_same, iv.mono s2⟩
end
end RW

set_option Elab.async false
set_option linter.all false
set_option maxRecDepth 100000
set_option maxHeartbeats 4000000
/-! RwExc2: try .. except C as n: y = n. -/
namespace RW
open PySem PySem.Spec PyProof.Rows L2

/-- an own class below another one -/
def isSub (x c : Str) : Bool := decide (x = c) || (decide (c = "RuleError") && (decide (x ∈ excF) || decide (x ∈ excN)))
theorem fields_F {x : Str} (h : x ∈ excF) : fieldsOf x = [excField x] := by
  have : (excF.all fun x => decide (fieldsOf x = [excField x])) = true := by decide +kernel
  exact of_decide_eq_true (List.all_eq_true.mp this x h)
theorem fields_N {x : Str} (h : x ∈ excN) : fieldsOf x = [] := by
  have : (excN.all fun x => decide (fieldsOf x = [])) = true := by decide +kernel
  exact of_decide_eq_true (List.all_eq_true.mp this x h)
def excD (x : Str) : Option D → D
  | some d => .ins x [d]
  | none => .ins x []
theorem exc_data {c : Cg} {F H : Hp} {cls : Value} {oa : Option Addr} {x : Str} {f : Option D} {a : Addr} (h : ExAt c F H cls oa x f) (ha : F a = none) : IsD c (upd F a (ExcO cls oa a)) (.ref a) (excD x f) := by
  obtain ⟨⟨C, rfl, hm⟩, hf⟩ := h
  have s : Same F (upd F a (ExcO (.ref C) oa a)) := fun b u e => by rw [upd_ne (ne_of_none e ha)]; exact e
  cases f with
  | some d =>
    obtain ⟨hx, dd, v, rfl, hd, iv⟩ := hf
    exact .exc upd_same (.inr ⟨dd, rfl, s _ _ hd⟩) hm (.inl hx) (by rw [fields_F hx]; rfl) (.cons (iv.mono s) .nil)
  | none =>
    obtain ⟨hx, rfl⟩ := hf
    exact .exc (fs := []) upd_same (.inl ⟨rfl, rfl⟩) hm (.inr hx) (by rw [fields_N hx]; rfl) .nil
/-- what an except clause asks of the class it names -/
def CatchOk (K : PySem.W.Frag) (mg : Str → Option Value) (c : Str) (C : Value) : Prop := ∀ (x : Str) (C' : Addr), (x ∈ excF ∨ x ∈ excN) → mg x = some (.ref C') → PySem.W.exmOne K (.ref C') C = some (isSub x c)
def tryM (c : Str) (i j : Nat) (m : Ms) : Ms := fun env => match m env with
  | some (.ex x f, env1) => if isSub x c = true ∧ (x ∈ excF ∨ x ∈ excN) ∧ i < env1.length ∧ j < env1.length ∧ isLent env1[i]? = false ∧ isLent env1[j]? = false then some (.nx, ((env1.set i .no).set j (.val (excD x f))).set i .no)
    else if isSub x c = false ∧ (x ∈ excF ∨ x ∈ excN) then some (.ex x f, env1) else none
  | r => r
theorem not_lent {env : En} {i : Nat} (h : isLent env[i]? = false) : ∀ ds, env[i]? ≠ some (.lent ds) := fun ds e => by
  rw [e] at h
  cases h
section
variable {X : Cx} {x n y : Str} {c : Value} {i j : Nat} {body : List Stmt} {m : Ms} {np p1 p2 p3 pos pos' : Pos}
theorem es_try (hst : X.stack = X.env :: X.outer) (hfr : X.env.frame = some X.env.locals) (hN : X.N.Nodup) (hi : X.N[i]? = some n) (hj : X.N[j]? = some y) (hloc : X.env.kindOf n = some .local) (hy : X.env.kindOf y = some .local) (hc : Names X x c) (ck : CatchOk X.K X.mg x c)
    (hb : ∀ (pn : List (Addr × Obj)) (xe : Value → Shared → Prop), EvSs (X.tr pn xe) body m) (hij : i ≠ j) (hd : (n == ("__debug__" : Str)) = false := by decide) (hcd : (n == ("__classdict__" : Str)) = false := by decide) :
    EvS X (.Try body [.ExceptHandler (some (.Name x np)) (some n) [.Assign [.Name y p1] (.Name n p2) p3] pos'] [] [] pos) (tryM x i j m) := fun B tk => by
  have P := ps_tryK (pos := pos) (pos' := pos') (np := np) (tb := fun W => tS (cg X) { B with W := W } m) (ts := fun a => tAsg (tVar i) (gName j)) hst hfr hN hi hloc hc tk (fun W pn xe t => hb pn xe { B with W := W } t)
    (fun a pn => pss_one (ps_set (X := X.suite a pn) (pos := p3) (pos' := p1) hN hj (.inl hy) (pe_var (X := X.suite a pn) (pos := p2) hi (.inl hloc) hd hcd) (by rfl) (.inr hy)))
  refine PS.mono P fun Dk σ H ⟨F, env, o, env', R, hm, fin⟩ => ?_
  have RB : ∀ {W : WX} {F2 : Hp} {σ2 : L2.St} {H2 : Hp} {e2 : En}, Rel (cg X) B F2 σ2 H2 e2 → Rel (cg X) { B with W := W } F2 σ2 H2 e2 := fun R => ⟨R.sub, R.sub0, R.frm, R.len, R.sl, R.inj, R.lnt⟩
  have RC : ∀ {W : WX} {F2 : Hp} {σ2 : L2.St} {H2 : Hp} {e2 : En}, Rel (cg X) { B with W := W } F2 σ2 H2 e2 → Rel (cg X) B F2 σ2 H2 e2 := fun R => ⟨R.sub, R.sub0, R.frm, R.len, R.sl, R.inj, R.lnt⟩
  unfold tryM at hm
  cases e : m env with
  | none => rw [e] at hm; cases hm
  | some q =>
    obtain ⟨o1, env1⟩ := q
    rw [e] at hm
    refine ⟨F, env, o1, env1, RB R, e, ?_⟩
    cases o1 with
    | nx => cases hm; exact fun F' σ' H' R' s' => fin F' σ' H' (RC R') s'
    | brk => cases hm; exact fun F' σ' H' R' s' => fin F' σ' H' (RC R') s'
    | cnt => cases hm; exact fun F' σ' H' R' s' => fin F' σ' H' (RC R') s'
    | ret r =>
      cases hm
      cases r with
      | val d => exact fun F' σ' H' v R' s' h => fin F' σ' H' v (RC R') s' h
      | new ds => exact fun F' σ' H' p vs R' s' h => fin F' σ' H' p vs (RC R') s' ⟨h.at_, h.fz, h.dat, h.new, h.free⟩
    | ex z f =>
      intro σ1 F1 H1 cls oa R1' s1 ea
      have R1 := RC R1'
      obtain ⟨⟨C', hC', hmg⟩, _⟩ := id ea
      simp only at hm
      split at hm
      · rename_i h
        cases hm
        obtain ⟨h1, h2, h3, h4, h5, h6⟩ := h
        refine ⟨true, by rw [hC', ck z C' h2 hmg, h1], fun _ a ha => ?_, fun w => by cases w⟩
        obtain ⟨R2, s2⟩ := R1.newF (o := ExcO cls oa a) ha
        have hF : F1 a = none := R1.sub.free ha
        have iv := exc_data ea hF
        have l1 : i < σ1.length := by rw [← R1.len]; exact h3
        have l2 : j < σ1.length := by rw [← R1.len]; exact h4
        refine ⟨.ref a, List.getElem?_set_self l1, ?_⟩
        have R3 := R2.store (i := i) (x := some (.ref a)) (s := .no) l1 trivial (not_lent h5) (fun ds w => by cases w) (fun p o => by cases o)
        have R4 := R3.store (i := j) (x := some (.ref a)) (s := .val (excD z f)) (by simpa using l2) ⟨_, rfl, iv⟩ (by rw [List.getElem?_set_ne hij]; exact not_lent h6) (fun ds w => by cases w) (fun p o => by cases o)
        have R5 := R4.store (i := i) (x := none) (s := .no) (by simpa using l1) trivial (by rw [List.getElem?_set_ne (Ne.symm hij), List.getElem?_set_self h3]; exact fun ds w => by cases w) (fun ds w => by cases w) (fun p o => by cases o)
        exact fin _ _ _ R5 (s1.trans s2)
      · split at hm
        · rename_i h
          cases hm
          refine ⟨false, by rw [hC', ck z C' h.2 hmg, h.1], (fun w => by cases w), fun _ => ?_⟩
          exact fin σ1 F1 H1 cls oa R1 s1 ea
        · cases hm
end
end RW

set_option Elab.async false
set_option linter.all false
set_option maxRecDepth 100000
set_option maxHeartbeats 4000000
/-! RwExc3: isinstance(e, C) of an own class, e.f. -/
namespace RW
open PySem PySem.Spec PyProof.Rows L2

/-- what isinstance asks of a plain own class -/
structure InsF (K : PySem.W.Frag) (C : Addr) : Prop where
  cl : Cls K C
  ha : PySem.W.findIn K (.ref C) "__class__" = some (some (.builtin "object.__class__"))
  hn : PySem.W.specialIn K (.builtin "object.__class__") "__get__" = some (some (.builtin "getset_descriptor.__get__"))
  htk : PySem.W.takesIn K (.builtin "object.__class__") = some true
  hm : PySem.W.mroIn K C (.type "object") = some true
/-- what the walk knows of the own classes -/
structure OwnOk (K : PySem.W.Frag) (mg : Str → Option Value) : Prop where
  ins : ∀ (x : Str) (C : Addr), x ∈ insN → mg x = some (.ref C) → InsF K C
  exc : ∀ (x : Str) (C : Addr), (x ∈ excF ∨ x ∈ excN) → mg x = some (.ref C) → ExcC K C
def tyN : List String := ["NoneType", "bool", "int", "str", "tuple", "list", "set", "dict"]
def dictN : Str := "{}"
/-- the built-in type of data -/
def tyB : D → Option String
  | .set _ => some "set"
  | .dct _ _ => some "dict"
  | .ins x _ => if x = dictN then some "dict" else none
  | d => tyName d
theorem tyB_mem {d : D} {n : String} (h : tyB d = some n) : n ∈ tyN := by
  cases d with
  | ins x vs =>
    unfold tyB at h
    simp only at h
    split at h
    · cases h; decide
    · cases h
  | _ => first | (simp [tyB] at h; subst h; decide) | (simp [tyB, tyName] at h; subst h; decide)
theorem dictN_no : dictN ∉ insN ∧ dictN ∉ excF ∧ dictN ∉ excN := by decide +kernel
/-- the type of data -/
def TyD (mg : Str → Option Value) (d : D) (t : Value) : Prop := (∃ n, tyB d = some n ∧ t = .type n) ∨ ∃ x vs C, d = .ins x vs ∧ t = .ref C ∧ mg x = some (.ref C) ∧ (x ∈ insN ∨ x ∈ excF ∨ x ∈ excN)
section
variable {X : Cx} {pins : List (Addr × Obj)} {σ : L2.St} {F H : Hp} {s : Shared}
theorem exc_inst {a C : Addr} {oa : Option Addr} {fs : List (Str × V)} (I : Inv X pins σ H s) (h1 : H a = some (ExcO (.ref C) oa a)) (h2 : (oa = none ∧ fs = []) ∨ ∃ dd, oa = some dd ∧ H dd = some (.xd fs)) :
    ∃ (ox : Obj) (od : Option Obj), PySem.W.InstAt s.heap a ox C od ∧ ((fs = [] ∧ od = none) ∨ ∃ (o : Obj) (mA : Str → Option Value), od = some o ∧ (∀ y, PySem.W.lookIn y o = some (mA y)) ∧ ∀ y, RelO (fs.lookup y) (mA y)) := by
  obtain ⟨oe, vs, e, hz, hd⟩ := (show (∃ (oe : Obj) (vs : Array Value), s.heap.get? a = some oe ∧ Zc (.ref C) oa oe ∧ oe.data = .fields vs) ∧ _ from I.hok a _ h1).1
  have nc : PySem.W.notCls oe = true := by unfold PySem.W.notCls; rw [hd] <;> rfl
  rcases h2 with ⟨rfl, rfl⟩ | ⟨dd, rfl, hdd⟩
  · exact ⟨oe, none, ⟨e, hz.1, nc, by rw [hz.2]; trivial⟩, .inl ⟨rfl, rfl⟩⟩
  · obtain ⟨mA, hns, hr⟩ := (show ObjOk X.prog X.w H s.heap dd (.xd fs) from I.hok dd _ hdd)
    obtain ⟨od, ho, hl⟩ := lookIn_ns hns
    exact ⟨oe, some od, ⟨e, hz.1, nc, by rw [hz.2]; exact ho⟩, .inr ⟨od, mA, rfl, hl, hr⟩⟩
theorem hasD_cls {K : PySem.W.Frag} {C : Addr} (h : PySem.W.hasDictIn K C = true) : (PySem.W.clsIn K C).isSome = true := by
  obtain ⟨cd, hc, _⟩ := PySem.W.any_some h
  rw [hc]
  rfl
/-- what isinstance asks of data -/
theorem kit_data {x : V} {d : D} {u : Value} (O : OwnOk X.K X.mg) (I : Inv X pins σ H s) (sm : Same F H) (h : IsD (cg X) F x d) (rx : RelV x u) :
    ∃ (t : Value) (P : Heap → Prop), TyD X.mg d t ∧ PySem.W.KitX X.K u t P ∧ P s.heap ∧ u ≠ .builtin "__main__.__loader__#opaque" := by
  have base : ∀ n, tyName d = some n → (∀ x vs, d ≠ .ins x vs) → ∃ (t : Value) (P : Heap → Prop), TyD X.mg d t ∧ PySem.W.KitX X.K u t P ∧ P s.heap ∧ u ≠ .builtin "__main__.__loader__#opaque" := fun n e ni => by
    obtain ⟨P, Z, p, hx⟩ := kit_of I rx (ty_data sm h e)
    refine ⟨_, P, .inl ⟨n, ?_, rfl⟩, Z, p, hx⟩
    cases d <;> first | exact e | (cases e; done) | exact absurd rfl (ni _ _)
  have mk : ∀ (a : Addr) (n : String), u = .ref a → tyB d = some n → PySem.W.KitX X.K (.ref a) (.type n) (PySem.W.KitAt a n) → PySem.W.KitAt a n s.heap → ∃ (t : Value) (P : Heap → Prop), TyD X.mg d t ∧ PySem.W.KitX X.K u t P ∧ P s.heap ∧ u ≠ .builtin "__main__.__loader__#opaque" := fun a n e b Z p => by
    subst e
    exact ⟨_, _, .inl ⟨n, b, rfl⟩, Z, p, fun z => nomatch z⟩
  cases h with
  | non => exact base _ rfl (fun _ _ z => by cases z)
  | bl b => exact base _ rfl (fun _ _ z => by cases z)
  | int i => exact base _ rfl (fun _ _ z => by cases z)
  | str z => exact base _ rfl (fun _ _ z => by cases z)
  | tup h1 h2 => exact base _ rfl (fun _ _ z => by cases z)
  | lst h1 h2 => exact base _ rfl (fun _ _ z => by cases z)
  | @setK a L ds es h1 h2 h3 h4 =>
    obtain ⟨es', ep, t, ⟨o, e, ex, _⟩, _⟩ := (show SetN0 X.w s.heap a L ∧ _ from I.hok a _ (sm _ _ h1)).1
    exact mk a "set" rx rfl PySem.W.kitx_set ⟨o, e, ex.1⟩
  | @setS a l h1 =>
    obtain ⟨Dd, z⟩ := (show (∃ Dd, SetS X.prog X.w s.heap a l Dd) ∧ _ from I.hok a _ (sm _ _ h1)).1
    exact mk a "set" rx rfl PySem.W.kitx_set ⟨_, z.ob, rfl⟩
  | @dctK a xs vv ks vs h1 h2 h3 h4 h5 h6 =>
    obtain ⟨_, _, o, es, ep, e, ex, _⟩ := (show DctN0 X.prog X.w s.heap a xs ∧ _ from I.hok a _ (sm _ _ h1)).1
    exact mk a "dict" rx rfl PySem.W.kitx_dict ⟨o, e, ex.1⟩
  | @ins a C dx y fs vs h1 h2 h3 h4 h5 h6 =>
    have K := O.ins y C h4 h3
    have ty : TyX X.K H (.ref a) (.ref C) := .base (.ins (sm _ _ h1) K.cl K.ha K.hn K.htk K.hm)
    obtain ⟨P, Z, p, hx⟩ := kit_of I rx ty
    exact ⟨_, P, .inr ⟨y, vs, C, rfl, rfl, h3, .inl h4⟩, Z, p, hx⟩
  | @exc a C oa y fs vs h1 h2 h3 h4 h5 h6 =>
    have K := O.exc y C h4 h3
    obtain ⟨ox, od, J, _⟩ := exc_inst I (sm _ _ h1) (h2.imp id fun ⟨dd, p, q⟩ => ⟨dd, p, sm _ _ q⟩)
    cases (show u = Value.ref a from rx)
    exact ⟨_, _, .inr ⟨y, vs, C, rfl, rfl, h3, .inr h4⟩, PySem.W.kitx_exc (hasD_cls K.hd) K.hg K.hk K.hs K.ha K.hn K.ht K.hm, J, fun z => nomatch z⟩
  | @dctM a kvs vs h1 h2 =>
    obtain ⟨_, _, vs', _, o, es, ep, e, ex, _⟩ := (show ObjOk X.prog X.w H s.heap a (.dK kvs) from I.hok a _ (sm _ _ h1))
    exact mk a "dict" rx rfl PySem.W.kitx_dict ⟨o, e, ex.1⟩
end
/-- what the walk knows of the class that isinstance is asked for -/
structure KitC (K : PySem.W.Frag) (mg : Str → Option Value) (c : Str) (C : Addr) : Prop where
  at_ : mg c = some (.ref C)
  kp : PySem.W.keepIn K (.ref C) = true
  ty : ∀ n ∈ tyN, PySem.W.kitOne K (.type n) (.ref C) = some false
  own : ∀ (x : Str) (Y : Addr), (x ∈ insN ∨ x ∈ excF ∨ x ∈ excN) → mg x = some (.ref Y) → PySem.W.kitOne K (.ref Y) (.ref C) = some (isSub x c)
def isiC (c : Str) (d : D) : Bool := match d with
  | .ins x _ => decide (x ≠ dictN) && isSub x c
  | _ => false
def isiCM (c : Str) (ma : Mn D) : Mn RV := ma.bind fun d => .ret (.val (.bl (isiC c d)))
theorem kit_ans {K : PySem.W.Frag} {mg : Str → Option Value} {c : Str} {C : Addr} {d : D} {t : Value} (k : KitC K mg c C) (h : TyD mg d t) : PySem.W.kitOne K t (.ref C) = some (isiC c d) := by
  rcases h with ⟨n, h1, rfl⟩ | ⟨x, vs, Y, rfl, rfl, h1, h2⟩
  · rw [k.ty n (tyB_mem h1)]
    cases d with
    | ins x vs =>
      unfold tyB at h1
      simp only at h1
      split at h1
      · rename_i e
        simp [isiC, e]
      · cases h1
    | _ => rfl
  · rw [k.own x Y h2 h1]
    have : x ≠ dictN := fun z => by
      subst z
      obtain ⟨a, b, c⟩ := dictN_no
      rcases h2 with h | h | h
      · exact a h
      · exact b h
      · exact c h
    simp [isiC, this]
section
variable {X : Cx} {c : Str} {C : Addr}
theorem call_isiD (O : OwnOk X.K X.mg) (k : KitC X.K X.mg c C) : CallR X (.builtin "isinstance") (fun xs H Q => ∃ x d F, xs = [x, .ref C] ∧ Same F H ∧ IsD (cg X) F x d ∧ Q (.bl (isiC c d)) H) := by
  intro pins s σ H xs us Q I r h
  obtain ⟨x, d, F, rfl, sm, hd, q⟩ := h
  obtain ⟨u, w', rfl, ru, rw'⟩ := vals2 r
  cases rw'
  obtain ⟨t, P, ty, Z, p, hx⟩ := kit_data O I sm hd ru
  exact PySem.W.kia_one Z I.kIn p (kit_ans k ty) hx fun tk => ⟨.bl _, H, I.tok tk, rfl, q⟩
theorem ee_isiC {a : Expr} {ma : Mn D} {p p2 pos : Pos} (O : OwnOk X.K X.mg) (k : KitC X.K X.mg c C) (mI : X.mg "isinstance" = none) (ha : EvD X a ma) (gI : Gl X "isinstance" := by rfl) (gC : Gl X c := by rfl)
    (hdb : (c == ("__debug__" : Str)) = false := by decide) (he : starEach [a, .Name c p2] X.env = (false, eval a X.env) :: starEach [.Name c p2] X.env := by rfl) (hpl : (backTo pos (starEach [.Name c p2] X.env)).any (·.1) = false := by rfl) :
    EvE X (.Call (.Name "isinstance" p) [a, .Name c p2] [] pos) (isiCM c ma) := fun B tk => by
  refine PE.mono (pe_callB (id := "isinstance") (call_isiD O k) gI mI boot_isinstance (pa_cons (ha B tk) (pa_cons (pe_glob gC k.at_ (v := .ref C) rfl hdb) pa_nil rfl) he) (by decide) (by decide) he hpl) fun σ H Q ⟨F, env, r, env', R, hm, fin⟩ => ?_
  refine bindD R hm (fun dx env1 hk F1 H1 x R1 s1 ix => ?_) (exE fin)
  cases hk
  exact ⟨x, dx, F1, rfl, R1.sub, ix, FinE.mono fin s1 F1 H1 (.bl _) R1 (Same.refl _) (.bl _)⟩
end
/-! ### e.f -/
def fieldV (f : Str) : List Str → List D → Option D
  | g :: gs, d :: ds => if f = g then some d else fieldV f gs ds
  | _, _ => none
def attrV (f : Str) : D → Option RV
  | .ins x vs => if x = dictN then none else (fieldV f (fieldsOf x) vs).map .val
  | _ => none
def attrM (f : Str) (ma : Mn D) : Mn RV := ma.bind fun d => .lift (attrV f d)
theorem field_at {c : Cg} {F : Hp} {f : Str} : ∀ {fs : List (Str × V)} {vs : List D} {d : D}, IsDs c F (fs.map (·.2)) vs → fieldV f (fs.map (·.1)) vs = some d → ∃ v, fs.lookup f = some v ∧ IsD c F v d
  | [], vs, d, _, h => by cases vs <;> cases h
  | (g, v) :: fs, [], d, _, h => by cases h
  | (g, v) :: fs, e :: vs, d, hd, h => by
    cases hd with
    | cons h1 h2 =>
      unfold fieldV at h
      simp only [List.map_cons] at h
      by_cases z : f = g
      · subst z
        rw [if_pos rfl] at h
        cases h
        exact ⟨v, by simp [List.lookup], h1⟩
      · rw [if_neg z] at h
        obtain ⟨w, a, b⟩ := field_at h2 h
        exact ⟨w, by rw [lookup_put, if_neg z]; exact a, b⟩
/-- no own class has the field's name -/
def NoName (K : PySem.W.Frag) (mg : Str → Option Value) (f : Str) : Prop := ∀ (x : Str) (C : Addr), (x ∈ insN ∨ x ∈ excF ∨ x ∈ excN) → f ∈ fieldsOf x → mg x = some (.ref C) → PySem.W.findIn K (.ref C) f = some none
theorem field_mem {f : Str} : ∀ {gs : List Str} {ds : List D} {d : D}, fieldV f gs ds = some d → f ∈ gs
  | [], ds, d, h => by cases ds <;> cases h
  | g :: gs, [], d, h => by cases h
  | g :: gs, e :: ds, d, h => by
    unfold fieldV at h
    by_cases z : f = g
    · rw [z]; exact List.mem_cons_self
    · rw [if_neg z] at h
      exact List.mem_cons_of_mem _ (field_mem h)
section
variable {X : Cx}
theorem ee_attr {f : Str} {e : Expr} {m : Mn D} {pos : Pos} (O : OwnOk X.K X.mg) (no : NoName X.K X.mg f) (he : EvD X e m) (hb : attributeBase e f X.env (eval e X.env) = eval e X.env := by rfl) : EvE X (.Attribute e f pos) (attrM f m) := fun B tk => by
  refine ⟨fun pins s σ H Q I h => ?_⟩
  obtain ⟨F, env, r, env', R, hm, fin⟩ := h
  have key : tD (cg X) B m σ H fun x H1 => ∃ F1 d rv env1, Rel (cg X) B F1 σ H1 env1 ∧ Same F F1 ∧ IsD (cg X) F1 x d ∧ attrV f d = some (.val rv) ∧ FinE (cg X) B F1 σ env1 Q (.ok (.val rv)) := by
    refine bindD R hm (fun d env1 hk F1 H1 x R1 s1 ix => ?_) (exE fin)
    obtain ⟨rv, e1, rfl, rfl⟩ := lift_cases hk
    cases d with
    | ins y vs =>
      unfold attrV at e1
      simp only at e1
      split at e1
      · cases e1
      · rename_i ny
        obtain ⟨dv, e2, rfl⟩ := Option.map_eq_some_iff.mp e1
        exact ⟨F1, _, dv, _, R1, s1, ix, by unfold attrV; simp only; rw [if_neg ny, e2]; rfl, FinE.mono fin s1⟩
    | _ => cases e1
  refine attr_of hb (thn ((he B tk).run pins s σ H _ I key) fun u s1 hh => ?_)
  obtain ⟨x, H1, I1, rx, F1, d, dv, env1, R1, s1', ix, ea, fin1⟩ := hh
  have done : ∀ {v : V} {u' : Value} {s' : Shared}, Inv X pins σ H1 s' → RelV v u' → IsD (cg X) F1 v dv → (∃ v H2, Inv X pins σ H2 s' ∧ RelV v u' ∧ Q v H2) := fun {v u' s'} I' ru iv => ⟨v, H1, I', ru, fin1 F1 H1 v R1 (Same.refl _) iv⟩
  cases ix with
  | @ins a C dx y fs vs h1 h2 h3 h4 h5 h6 =>
    cases (show u = Value.ref a from rx)
    unfold attrV at ea
    simp only at ea
    split at ea
    · cases ea
    · obtain ⟨w, e2, e3⟩ := Option.map_eq_some_iff.mp ea
      cases e3
      have hmem := field_mem e2
      rw [← h5] at e2
      obtain ⟨v, l, iv⟩ := field_at h6 e2
      have K := O.ins y C h4 h3
      exact getattr_ok I1 (R1.sub _ _ h1) K.cl (no y C (.inl h4) hmem h3) l fun u' s' I' ru => done I' ru iv
  | @exc a C oa y fs vs h1 h2 h3 h4 h5 h6 =>
    cases (show u = Value.ref a from rx)
    unfold attrV at ea
    simp only at ea
    split at ea
    · cases ea
    · obtain ⟨w, e2, e3⟩ := Option.map_eq_some_iff.mp ea
      cases e3
      have hmem := field_mem e2
      rw [← h5] at e2
      obtain ⟨v, l, iv⟩ := field_at h6 e2
      have K := O.exc y C h4 h3
      obtain ⟨ox, od, J, alt⟩ := exc_inst I1 (R1.sub _ _ h1) (h2.imp id fun ⟨dd, p, q⟩ => ⟨dd, p, R1.sub _ _ q⟩)
      rcases alt with ⟨z, _⟩ | ⟨o, mA, rfl, hl, hr⟩
      · subst z
        cases l
      · obtain ⟨u', hu, ru⟩ := RelO.some_of (v := v) (o := mA f) (by rw [← l]; exact hr f)
        exact HandSPX.exc_get I1.kIn J K.hg K.hk K.hs (PySem.W.findObj_own K.hd (no y C (.inr h4) hmem h3) rfl (by rw [hl, hu])) (handed_of ru) (done (I1.tok _) ru iv)
  | _ => first | (cases ea; done) | (simp [attrV, dictN] at ea; done)
end
end RW

set_option Elab.async false
set_option linter.all false
set_option maxRecDepth 100000
set_option maxHeartbeats 4000000
/-! RwLct: list comprehensions whose turns change lists of one's own. -/
namespace RW
open PySem PySem.Spec PyProof.Rows L2

def clrE (env : En) : List Nat → En
  | [] => env
  | v :: vs => (clrE env vs).set v .no
theorem clr_len {env : En} : ∀ vs : List Nat, (clrE env vs).length = env.length
  | [] => rfl
  | v :: vs => by unfold clrE; rw [List.length_set, clr_len vs]
theorem clr_out {env : En} {i : Nat} : ∀ {vs : List Nat}, i ∉ vs → (clrE env vs)[i]? = env[i]?
  | [], _ => rfl
  | v :: vs, h => by
    unfold clrE
    rw [List.getElem?_set_ne (fun z => h (by rw [z]; exact List.mem_cons_self))]
    exact clr_out fun z => h (List.mem_cons_of_mem _ z)
theorem clr_in {env : En} {i : Nat} : ∀ {vs : List Nat} {s : Sl}, i ∈ vs → (clrE env vs)[i]? = some s → s = .no
  | [], _, h, _ => by cases h
  | v :: vs, s, h, e => by
    unfold clrE at e
    by_cases z : v = i
    · subst z
      by_cases l : v < (clrE env vs).length
      · rw [List.getElem?_set_self l] at e
        cases e
        rfl
      · rw [List.getElem?_eq_none (by rw [List.length_set]; omega)] at e
        cases e
    · rw [List.getElem?_set_ne z] at e
      exact clr_in ((List.mem_cons.mp h).resolve_left fun w => z w.symm) e
def isRd : Sl → Bool
  | .rd _ => true
  | _ => false
def lentsOf (env : En) : List Bool := env.map fun s => isLent (some s)
/-- what a turn leaves: the same slots lent -/
def chkE (env e : En) : Bool := decide (lentsOf e = lentsOf env) && e.all fun s => !isRd s
def noLents (env : En) (own : List Nat) : Bool := own.all fun v => !isLent env[v]?
section
variable {c : Cg} {B : Bs} {F F2 F3 H H2 H3 : Hp} {σ σ2 σ3 : L2.St} {env env1 env2 env3 : En} {own : List Nat} {A : Addr}
/-- slots that hold nothing may be anything -/
theorem Rel.loose (R : Rel c B F σ H env) (hl : σ2.length = σ.length) (h : ∀ i : Nat, σ2.getD i none ≠ σ.getD i none → ∀ s, env[i]? = some s → s = .no) : Rel c B F σ2 H env where
  sub := R.sub
  sub0 := R.sub0
  frm := R.frm
  len := by rw [hl]; exact R.len
  sl := fun i s e => by
    by_cases z : σ2.getD i none = σ.getD i none
    · rw [z]; exact R.sl i s e
    · rw [h i z s e]; trivial
  inj := fun i j s t p e1 e2 o1 o2 a1 a2 => by
    have g : ∀ (k : Nat) u, env[k]? = some u → u.owns = true → σ2.getD k none = σ.getD k none := fun k u e o => by
      by_cases z : σ2.getD k none = σ.getD k none
      · exact z
      · rw [h k z u e] at o; cases o
    exact R.inj i j s t p e1 e2 o1 o2 (by rw [← g i s e1 o1]; exact a1) (by rw [← g j t e2 o2]; exact a2)
  lnt := fun q hq => by
    obtain ⟨h1, ds, h2⟩ := R.lnt q hq
    refine ⟨?_, ds, h2⟩
    by_cases z : σ2.getD q.1 none = σ.getD q.1 none
    · rw [z]; exact h1
    · have := h q.1 z _ h2; cases this
theorem Rel.clear (R : Rel c B F σ H env) : ∀ (vs : List Nat), noLents env vs = true → Rel c B F σ H (clrE env vs)
  | [], _ => R
  | v :: vs, h => by
    unfold noLents at h
    rw [List.all_cons, Bool.and_eq_true] at h
    have ih := Rel.clear R vs h.2
    unfold clrE
    refine ih.forget fun ds e => ?_
    by_cases z : v ∈ vs
    · have := clr_in z e; cases this
    · rw [clr_out z] at e
      rw [e] at h
      cases h.1
/-- the addresses that slots own -/
def OwnA (σ : L2.St) (env : En) (p : Addr) : Prop := ∃ (i : Nat) (s : Sl), env[i]? = some s ∧ s.owns = true ∧ σ.getD i none = some (.ref p)
/-- from here on, what stands is not changed, but for what the slots own -/
def Bs.turn (B : Bs) (H F : Hp) (σ : L2.St) (env : En) : Bs := ⟨H, F, OwnA σ env, B.lent, noW⟩
theorem OwnA.mine (R : Rel c B F σ H env) {p : Addr} (h : OwnA σ env p) : B.mine p := by
  obtain ⟨i, s, e, o, a⟩ := h
  obtain ⟨p', vs, a', _, _, mi⟩ := Sl.addr_of (R.sl i s e) o
  rw [a] at a'
  cases a'
  exact mi
theorem Rel.turn (R : Rel c B F σ H env) (nr : env.all (fun s => !isRd s) = true) : Rel c (B.turn H F σ env) F σ H env where
  sub := R.sub
  sub0 := Same.refl _
  frm := fun a o e _ => ⟨e, rfl⟩
  len := R.len
  sl := fun i s e => by
    have k := R.sl i s e
    cases s with
    | no => trivial
    | val d => exact k
    | own ds => obtain ⟨p, vs, a, b, d, f, g⟩ := k; exact ⟨p, vs, a, b, d, f, .inr ⟨i, _, e, rfl, a⟩⟩
    | lent ds => obtain ⟨p, vs, a, b, d, f, g⟩ := k; exact ⟨p, vs, a, b, d, f, ⟨i, _, e, rfl, a⟩⟩
    | rd ds =>
      have := List.all_eq_true.mp nr _ (List.mem_of_getElem? e)
      cases this
  inj := R.inj
  lnt := R.lnt
theorem lents_at (h : lentsOf env2 = lentsOf env) {i : Nat} {ds : List D} (e : env2[i]? = some (.lent ds)) : ∃ ds', env[i]? = some (.lent ds') := by
  have k : (lentsOf env2)[i]? = some true := by unfold lentsOf; rw [List.getElem?_map, e]; rfl
  rw [h] at k
  unfold lentsOf at k
  rw [List.getElem?_map] at k
  cases q : env[i]? with
  | none => rw [q] at k; cases k
  | some s => rw [q] at k; cases s <;> first | exact ⟨_, rfl⟩ | cases k
/-- behind a turn -/
theorem Rel.back (R : Rel c B F2 σ H2 env) (hc : ∀ i ∈ own, ∀ s, env[i]? = some s → s = .no) (R3 : Rel c (B.turn H2 F2 σ2 env) F3 σ3 H3 env3) (hw : wipe σ3 own = wipe σ own) (h2 : wipe σ2 own = wipe σ own) (hk : chkE env env3 = true) :
    Rel c B F3 σ H3 (clrE env3 own) ∧ ∀ p, OwnA σ (clrE env3 own) p → H2 p = none ∨ OwnA σ env p := by
  unfold chkE at hk
  rw [Bool.and_eq_true] at hk
  have hl := of_decide_eq_true hk.1
  have nr := hk.2
  have at3 : ∀ i, i ∉ own → σ3.getD i none = σ.getD i none := fun i hi => by
    have := congrArg (fun τ : L2.St => τ.getD i none) hw
    simp only [List.getD_eq_getElem?_getD] at this ⊢
    rwa [wipe_out hi, wipe_out hi] at this
  have at2 : ∀ i, i ∉ own → σ2.getD i none = σ.getD i none := fun i hi => by
    have := congrArg (fun τ : L2.St => τ.getD i none) h2
    simp only [List.getD_eq_getElem?_getD] at this ⊢
    rwa [wipe_out hi, wipe_out hi] at this
  have own2 : ∀ {p}, OwnA σ2 env p → OwnA σ env p := fun {p} ⟨i, s, e, o, a⟩ => by
    have hi : i ∉ own := fun z => by rw [hc i z s e] at o; cases o
    exact ⟨i, s, e, o, by rw [← at2 i hi]; exact a⟩
  have out : ∀ {i : Nat} {s : Sl}, (clrE env3 own)[i]? = some s → s = .no ∨ (i ∉ own ∧ env3[i]? = some s) := fun {i s} e => by
    by_cases z : i ∈ own
    · exact .inl (clr_in z e)
    · rw [clr_out z] at e; exact .inr ⟨z, e⟩
  have mine : ∀ p, (B.turn H2 F2 σ2 env).mine p → B.mine p := fun p h => by
    rcases h with h | h
    · by_cases z : B.own0 p
      · exact .inr z
      · refine .inl ?_
        cases q : B.H0 p with
        | none => rfl
        | some o =>
          have := (R.frm p o q z).1
          have h' : H2 p = none := h
          rw [h'] at this
          cases this
    · exact (own2 h).mine R
  refine ⟨⟨R3.sub, fun a o e => R3.sub0 _ _ (R.sub0 _ _ e), fun a o e no => ?_, ?_, fun i s e => ?_, fun i j s t p e1 e2 o1 o2 a1 a2 => ?_, fun q hq => ?_⟩, fun p h => ?_⟩
  · obtain ⟨a1, a2⟩ := R.frm a o e no
    obtain ⟨b1, b2⟩ := R3.frm a o a1 fun z => by
      rcases (own2 z).mine R with m | m
      · rw [m] at e; cases e
      · exact no m
    exact ⟨b1, b2.trans a2⟩
  · rw [clr_len, R3.len]
    have := congrArg List.length hw
    rwa [wipe_length, wipe_length] at this
  · rcases out e with rfl | ⟨hi, e'⟩
    · trivial
    · have k := R3.sl i s e'
      rw [at3 i hi] at k
      cases s with
      | no => trivial
      | val d => exact k
      | own ds => obtain ⟨p, vs, a, b, d, f, g⟩ := k; exact ⟨p, vs, a, b, d, f, mine p g⟩
      | lent ds =>
        obtain ⟨p, vs, a, b, d, f, g⟩ := k
        obtain ⟨ds', q⟩ := lents_at hl e'
        obtain ⟨p', _, a', _, _, _, g'⟩ := R.sl i _ q
        rw [a] at a'
        cases a'
        exact ⟨p, vs, a, b, d, f, g'⟩
      | rd ds =>
        have := List.all_eq_true.mp nr _ (List.mem_of_getElem? e')
        cases this
  · rcases out e1 with rfl | ⟨h1, e1'⟩
    · cases o1
    · rcases out e2 with rfl | ⟨h2', e2'⟩
      · cases o2
      · exact R3.inj i j s t p e1' e2' o1 o2 (by rw [at3 i h1]; exact a1) (by rw [at3 j h2']; exact a2)
  · obtain ⟨h1, ds, e1⟩ := R.lnt q hq
    have hi : q.1 ∉ own := fun z => by have := hc _ z _ e1; cases this
    obtain ⟨h3, ds', e3⟩ := R3.lnt q hq
    exact ⟨h1, ds', by rw [clr_out hi]; exact e3⟩
  · obtain ⟨i, s, e, o, a⟩ := h
    rcases out e with rfl | ⟨hi, e'⟩
    · cases o
    · have k := R3.sl i s e'
      rw [at3 i hi] at k
      cases s with
      | own ds =>
        obtain ⟨p', vs, a', _, _, _, g⟩ := k
        rw [a] at a'
        cases a'
        rcases g with g | g
        · exact .inl g
        · exact .inr (own2 g)
      | lent ds =>
        obtain ⟨p', vs, a', _, _, _, g⟩ := k
        rw [a] at a'
        cases a'
        exact .inr (own2 g)
      | _ => cases o
end
end RW

set_option Elab.async false
set_option linter.all false
set_option maxRecDepth 100000
set_option maxHeartbeats 4000000
/-! RwLct2: the rules of such comprehensions. -/
namespace RW
open PySem PySem.Spec PyProof.Rows L2

def lctGo (g : Bd) (tt : Mn Bool) (te : Mn D) (own : List Nat) : List D → List D → En → Option (List D × En)
  | [], acc, env => some (acc, env)
  | d :: ds, acc, env => match g d env with
    | none => none
    | some e1 => match tt e1 with
      | some (.ok true, e2) => (match te e2 with
        | some (.ok y, e3) => if chkE env e3 = true then lctGo g tt te own ds (acc ++ [y]) (clrE e3 own) else none
        | _ => none)
      | some (.ok false, e2) => if chkE env e2 = true then lctGo g tt te own ds acc (clrE e2 own) else none
      | _ => none
def lctM (src : Mn (List D)) (g : Bd) (tt : Mn Bool) (te : Mn D) (own : List Nat) : Mn RV := src.bind fun ds env =>
  if ds.length ≤ sizeLine ∧ noLents env own = true ∧ env.all (fun s => !isRd s) = true then (lctGo g tt te own ds [] (clrE env own)).map fun p => (.ok (.new p.1), p.2) else none
theorem clr_all {env : En} {own : List Nat} (h : env.all (fun s => !isRd s) = true) : (clrE env own).all (fun s => !isRd s) = true := by
  rw [List.all_eq_true] at h ⊢
  intro s hs
  obtain ⟨i, hi, e⟩ := List.getElem_of_mem hs
  have e' : (clrE env own)[i]? = some s := by rw [List.getElem?_eq_getElem hi, e]
  by_cases z : i ∈ own
  · rw [clr_in z e']; rfl
  · rw [clr_out z] at e'
    exact h s (List.mem_of_getElem? e')
theorem wipe_wipe {σ : L2.St} {own : List Nat} : wipe (wipe σ own) own = wipe σ own := wipe_only (is := []) (vs := own) ⟨rfl, fun _ _ => rfl⟩ (fun _ h => by cases h)
/-- a state of such a loop -/
structure Turn (c : Cg) (B : Bs) (F1 F : Hp) (σ : L2.St) (H : Hp) (env : En) (own : List Nat) (A : Addr) (acc : List V) (accd : List D) : Prop where
  rel : Rel c B F σ H env
  sF : Same F1 F
  at_ : H A = some (.lst acc)
  fz : F A = none
  dat : IsDs c F acc accd
  no : ∀ v ∈ own, ∀ s, env[v]? = some s → s = .no
  off : ¬ OwnA σ env A
  rd : env.all (fun s => !isRd s) = true
theorem lct_ok {c : Cg} {B : Bs} {F1 H1 : Hp} {σ : L2.St} {env1 envf : En} {J : It} {ds res : List D} {g : Bd} {tt : Mn Bool} {te : Mn D} {own is : List Nat} {Q : VK} (R1 : Rel c B F1 σ H1 env1) (y : Yl c F1 J ds) (hz : ds.length ≤ sizeLine)
    (hn : noLents env1 own = true) (hrd : env1.all (fun s => !isRd s) = true) (hgo : lctGo g tt te own ds [] (clrE env1 own) = some (res, envf)) (hs : ∀ i ∈ is, i ∈ own) (fin : FinE c B F1 σ envf Q (.ok (.new res))) :
    ∀ A, H1 A = none → ∃ W : Nat → Nat → Hp → Prop, (∃ m, W 0 m (upd H1 A (.lst []))) ∧ ∀ i m H, W i m H → (J.stop i H ∧ Q (.ref A) H) ∨ (J.go i H ∧ ∃ Nx : Hp → Prop, (∀ H', Nx H' → ∃ m', m' < m ∧ W (i + 1) m' H') ∧
      ∀ x H', J.yld i H x H' → gX c is g x (wipe σ own) H' fun σ2 H2 => wipe σ2 own = wipe σ own ∧ tX c tt σ2 H2 fun b H3 => if b = true then eX c te σ2 H3 fun y H4 => ∃ acc, H4 A = some (.lst acc) ∧ acc.length < sizeLine ∧ Nx (upd H4 A (.lst (acc ++ [y]))) else Nx H3) := by
  intro A hA
  have mA := mine_new R1 hA
  have Rc := R1.clear own hn
  have off1 : ¬ OwnA σ (clrE env1 own) A := fun ⟨i, s, e, o, a⟩ => free_new Rc hA i s e o a
  let Inv' : Nat → Hp → Prop := fun i H => ∃ F' acc accd env, Turn c B F1 F' σ H env own A acc accd ∧ accd.length ≤ i ∧ lctGo g tt te own (ds.drop i) accd env = some (res, envf)
  refine ⟨fun i m H => m = ds.length - i ∧ i ≤ ds.length ∧ Inv' i H,
    ⟨ds.length, by simp, Nat.zero_le _, F1, [], [], clrE env1 own, ⟨Rc.newO hA, Same.refl _, upd_same, R1.sub.free hA, .nil, fun v hv s e => clr_in hv e, off1, clr_all hrd⟩, Nat.le_refl _, by simpa using hgo⟩, ?_⟩
  rintro i m H ⟨rfl, hi, F', acc, accd, env, T, hl, hgo'⟩
  obtain ⟨R, s, hH, hF, hd, hno, off, nrd⟩ := T
  by_cases hlt : i < ds.length
  · refine .inr ⟨y.go F' H i s R.sub hlt, Inv' (i + 1), fun H2 q => ⟨ds.length - (i + 1), by omega, rfl, hlt, q⟩, fun x H2 yl => ?_⟩
    obtain ⟨d, hdi, q⟩ := y.yld F' H i x H2 s R.sub hlt yl
    obtain ⟨F2, R2, s2, hF2, hA2, hx⟩ : ∃ F2, Rel c B F2 σ H2 env ∧ Same F' F2 ∧ F2 A = none ∧ H2 A = some (.lst acc) ∧ IsD c F2 x d := by
      rcases q with ⟨rfl, h⟩ | ⟨p, u, hp, rfl, h⟩
      · exact ⟨F', R, Same.refl _, hF, hH, h⟩
      · obtain ⟨R2, s2⟩ := R.newF (o := u) hp
        exact ⟨_, R2, s2, by rw [upd_ne (ne_of_none hH hp)]; exact hF, by rw [upd_ne (ne_of_none hH hp)]; exact hH, h⟩
    have e0 : ds.drop i = d :: ds.drop (i + 1) := by
      rw [List.drop_eq_getElem_cons hlt]
      congr 1
      rw [List.getElem?_eq_getElem hlt] at hdi
      exact Option.some.inj hdi
    rw [e0] at hgo'
    unfold lctGo at hgo'
    have Rw : Rel c B F2 (wipe σ own) H2 env := R2.loose (wipe_length ..) fun k ne s' e' => by
      by_cases z : k ∈ own
      · exact hno k z s' e'
      · exact absurd (by rw [List.getD_eq_getElem?_getD, List.getD_eq_getElem?_getD, wipe_out z]) ne
    have Rt := Rw.turn nrd
    have offw : ¬ OwnA (wipe σ own) env A := fun ⟨k, s', e', o, a⟩ => off ⟨k, s', e', o, by
      have z : k ∉ own := fun z => by rw [hno k z s' e'] at o; cases o
      rw [List.getD_eq_getElem?_getD, wipe_out z] at a
      rw [List.getD_eq_getElem?_getD]
      exact a⟩
    -- behind a turn
    have nx : ∀ {F5 H5 : Hp} {σ3 : L2.St} {e3 : En}, Rel c (B.turn H2 F2 (wipe σ own) env) F5 σ3 H5 e3 → wipe σ3 own = wipe σ own → chkE env e3 = true →
        Rel c B F5 σ H5 (clrE e3 own) ∧ Same F2 F5 ∧ H5 A = some (.lst acc) ∧ F5 A = none ∧ ¬ OwnA σ (clrE e3 own) A ∧ (clrE e3 own).all (fun s => !isRd s) = true := fun {F5 H5 σ3 e3} R5 hw hk => by
      obtain ⟨b1, b2⟩ := R2.back hno R5 hw wipe_wipe hk
      obtain ⟨f1, f2⟩ := R5.frm A _ hA2 offw
      refine ⟨b1, R5.sub0, f1, by rw [f2]; exact hF2, fun z => ?_, ?_⟩
      · rcases b2 A z with z | z
        · rw [hA2] at z; cases z
        · exact off z
      · unfold chkE at hk
        rw [Bool.and_eq_true] at hk
        exact clr_all hk.2
    cases eg : g d env with
    | none => rw [eg] at hgo'; cases hgo'
    | some e1 =>
      rw [eg] at hgo'
      simp only at hgo'
      refine ⟨B.turn H2 F2 (wipe σ own) env, F2, env, d, e1, rfl, Rt, hx, eg, fun σ3 R3 o3 => ⟨wipe_only o3 hs, B.turn H2 F2 (wipe σ own) env, rfl, ?_⟩⟩
      have hw := wipe_only o3 hs
      cases et : tt e1 with
      | none => rw [et] at hgo'; cases hgo'
      | some p =>
        obtain ⟨rt, e2⟩ := p
        rw [et] at hgo'
        cases rt with
        | ex x f => cases hgo'
        | ok b =>
          refine ⟨F2, e1, .ok b, e2, R3, et, fun F4 H4 R4 s4 => ?_⟩
          cases b with
          | false =>
            simp only [Bool.false_eq_true, if_false]
            simp only at hgo'
            split at hgo'
            · rename_i hk
              obtain ⟨n1, n2, n3, n4, n5, n6⟩ := nx R4 hw hk
              exact ⟨F4, acc, accd, clrE e2 own, ⟨n1, (s.trans s2).trans n2, n3, n4, hd.mono (s2.trans n2), fun v hv s' e' => clr_in hv e', n5, n6⟩, Nat.le_succ_of_le hl, hgo'⟩
            · cases hgo'
          | true =>
            simp only [if_true]
            refine ⟨B.turn H2 F2 (wipe σ own) env, rfl, ?_⟩
            simp only at hgo'
            cases ee : te e2 with
            | none => rw [ee] at hgo'; cases hgo'
            | some p =>
              obtain ⟨re, e3⟩ := p
              rw [ee] at hgo'
              cases re with
              | ex x f => cases hgo'
              | ok dy =>
                refine ⟨F4, e2, .ok dy, e3, R4, ee, fun F5 H5 v R5 s5 ix => ?_⟩
                simp only at hgo'
                split at hgo'
                · rename_i hk
                  obtain ⟨n1, n2, n3, n4, n5, n6⟩ := nx R5 hw hk
                  refine ⟨acc, n3, by rw [IsDs.length hd]; omega, F5, acc ++ [v], accd ++ [dy], clrE e3 own, ⟨n1.write n3 n4 (fun k s' e' o a => n5 ⟨k, s', e', o, a⟩) mA, (s.trans s2).trans n2, upd_same, n4, IsDs.append (.cons ix .nil) (hd.mono (s2.trans n2)), fun v hv s' e' => clr_in hv e', n5, n6⟩, ?_, hgo'⟩
                  simp
                  omega
                · cases hgo'
  · have e : i = ds.length := by omega
    subst e
    rw [List.drop_length] at hgo'
    cases hgo'
    exact .inl ⟨y.stop F' H s R.sub, fin F' H A acc R s ⟨hH, hF, hd, mA, fun k s' e' o a => off ⟨k, s', e', o, a⟩⟩⟩
section
variable {X : Cx}
theorem ee_lct {elt tg iter : Expr} {ifs : List Expr} {scope : Scope} {own : List (Str × Nat)} {pos : Pos} {src : Mn (List D)} {is : List Nat} {g : Bd} {tt : Mn Bool} {te : Mn D} (hc : X.calm = true) (hN : X.N.Nodup) (hi : EvI X tg iter src) (ok : BlkOk X.N X.env.scope scope own)
    (hg : ∀ (s : Shared) (H : Hp) (C : Addr) (cl : List (Str × Addr)) (fp : List Addr), EvG (X.blk s H scope (compEnvC scope cl C X.env) fp) tg is g)
    (ht : ∀ (s : Shared) (H : Hp) (C : Addr) (cl : List (Str × Addr)) (fp : List Addr), EvTs (X.blk s H scope (compEnvC scope cl C X.env) fp) ifs tt)
    (he : ∀ (s : Shared) (H : Hp) (C : Addr) (cl : List (Str × Addr)) (fp : List Addr), EvD (X.blk s H scope (compEnvC scope cl C X.env) fp) elt te)
    (hio : ∀ i ∈ is, i ∈ own.map (·.2)) (hs : ∀ x, foldedSetIterable iter X.env x = pure x := by intro _; rfl) :
    EvE X (.ListComp elt [⟨tg, iter, ifs, 0⟩] scope pos) (lctM src g tt te (own.map (·.2))) := fun B tk => by
  have P := pe_lc (pos := pos) (wi := tI (cg X) B src) (g := gX (cg X) is g) (tt := tX (cg X) tt) (te := eX (cg X) te) hc hN (hi B tk) ok
    (fun s H C cl fp => ⟨fun pins s' σ H' v u Q I r ⟨B', F, env, d, env', w, q⟩ => (hg s H C cl fp B' (takes0' w)).run pins s' σ H' v u Q I r ⟨F, env, d, env', q⟩⟩)
    (fun s H C cl fp => ⟨fun pins s' σ H' Q I ⟨B', w, q⟩ => (ht s H C cl fp B' (takes0' w)).run pins s' σ H' Q I q⟩)
    (fun s H C cl fp => ⟨fun pins s' σ H' Q I ⟨B', w, q⟩ => (he s H C cl fp B' (takes0' w)).run pins s' σ H' Q I q⟩) hs
  refine PE.mono P fun σ H Q ⟨F, env, r, env', R, hm, fin⟩ => ?_
  show tI _ _ _ _ _ _
  rcases bind_cases hm with ⟨ds, env1, h1, h2⟩ | ⟨x, f, h1, rfl⟩
  · refine ⟨F, env, _, _, R, h1, fun F1 H1 J R1 s1 y => ?_⟩
    split at h2
    · rename_i hz
      rw [Option.map_eq_some_iff] at h2
      obtain ⟨⟨res, envf⟩, hgo, e⟩ := h2
      cases e
      exact lct_ok R1 y hz.1 hz.2.1 hz.2.2 hgo hio (FinE.mono fin s1)
    · cases h2
  · exact ⟨F, env, _, _, R, h1, fin⟩
theorem es_setLct {i : Nat} {y : Str} {py : Pos} {elt tg iter : Expr} {ifs : List Expr} {scope : Scope} {own : List (Str × Nat)} {pos spos : Pos} {src : Mn (List D)} {is : List Nat} {g : Bd} {tt : Mn Bool} {te : Mn D} (hc : X.calm = true) (hN : X.N.Nodup) (hy : X.N[i]? = some y) (hyl : X.env.scope.names.lookup y = some .local)
    (hsw : swapsWith (.ListComp elt [⟨tg, iter, ifs, 0⟩] scope pos) (some (.Name y py)) spos.line X.env = pure true) (hi : EvI X tg iter src) (ok : BlkOk X.N X.env.scope scope own)
    (hg : ∀ (s : Shared) (H : Hp) (C : Addr) (cl : List (Str × Addr)) (fp : List Addr), EvG (X.blk s H scope (compEnvC scope cl C X.env) fp) tg is g)
    (ht : ∀ (s : Shared) (H : Hp) (C : Addr) (cl : List (Str × Addr)) (fp : List Addr), EvTs (X.blk s H scope (compEnvC scope cl C X.env) fp) ifs tt)
    (he : ∀ (s : Shared) (H : Hp) (C : Addr) (cl : List (Str × Addr)) (fp : List Addr), EvD (X.blk s H scope (compEnvC scope cl C X.env) fp) elt te)
    (hio : ∀ i ∈ is, i ∈ own.map (·.2)) (hs : ∀ x, foldedSetIterable iter X.env x = pure x := by intro _; rfl) :
    EvS X (.Assign [.Name y py] (.ListComp elt [⟨tg, iter, ifs, 0⟩] scope pos) spos) (setM i (lctM src g tt te (own.map (·.2)))) := fun B tk => by
  have P := ps_setLc (i := i) (wi := tI (cg X) B src) (g := gX (cg X) is g) (tt := tX (cg X) tt) (te := eX (cg X) te) hc hN hy hyl hsw (hi B tk) ok
    (fun s H C cl fp => ⟨fun pins s' σ H' v u Q I r ⟨B', F, env, d, env', w, q⟩ => (hg s H C cl fp B' (takes0' w)).run pins s' σ H' v u Q I r ⟨F, env, d, env', q⟩⟩)
    (fun s H C cl fp => ⟨fun pins s' σ H' Q I ⟨B', w, q⟩ => (ht s H C cl fp B' (takes0' w)).run pins s' σ H' Q I q⟩)
    (fun s H C cl fp => ⟨fun pins s' σ H' Q I ⟨B', w, q⟩ => (he s H C cl fp B' (takes0' w)).run pins s' σ H' Q I q⟩) hs
  refine PS.mono P fun Dk σ H ⟨F, env, o, env', R, hm, fin⟩ => ?_
  show tI _ _ _ _ _ _
  rcases thenS_cases hm with ⟨r, env1, h1, h2⟩ | ⟨x, f, h1, rfl⟩
  · rw [Option.map_eq_some_iff] at h2
    obtain ⟨env3, hp, e⟩ := h2
    cases e
    rcases bind_cases h1 with ⟨ds, env2, h3, h4⟩ | ⟨x, f, h3, e⟩
    · refine ⟨F, env, _, _, R, h3, fun F1 H1 J R1 s1 y => ?_⟩
      split at h4
      · rename_i hz
        rw [Option.map_eq_some_iff] at h4
        obtain ⟨⟨res, envf⟩, hgo, e⟩ := h4
        cases e
        exact lct_ok R1 y hz.1 hz.2.1 hz.2.2 hgo hio (fin_set hp (FinS.mono fin s1))
      · cases h4
    · cases e
  · rcases bind_cases h1 with ⟨ds, env2, h3, h4⟩ | ⟨x', f', h3, e⟩
    · split at h4
      · rw [Option.map_eq_some_iff] at h4
        obtain ⟨_, _, e⟩ := h4
        cases e
      · cases h4
    · cases e
      exact ⟨F, env, _, _, R, h3, fin σ⟩
end
end RW

set_option Elab.async false
set_option linter.all false
set_option maxRecDepth 100000
set_option maxHeartbeats 4000000
/-! RwEq: == and != of data with empty dicts in it, where both are the same data. -/
namespace RW
open PySem PySem.Spec PyProof.Rows L2

mutual
/-- data that is equal to itself wherever it stands -/
def eqOk : D → Bool
  | .lst ds => eqOks ds
  | .tup ds => eqOks ds
  | .ins x vs => decide (x = dictN ∧ vs = [.lst [], .lst []])
  | .set _ => false
  | .dct _ _ => false
  | .bl _ => true
  | d => plain d
def eqOks : List D → Bool
  | [] => true
  | d :: ds => eqOk d && eqOks ds
end
theorem eqOks_mem {ds : List D} {d : D} (h : eqOks ds = true) (m : d ∈ ds) : eqOk d = true := by
  induction ds with
  | nil => cases m
  | cons e ds ih =>
    unfold eqOks at h
    rw [Bool.and_eq_true] at h
    rcases List.mem_cons.mp m with rfl | m
    · exact h.1
    · exact ih h.2 m
theorem deps_le {ds : List D} {d : D} (m : d ∈ ds) : dep d ≤ deps ds := by
  induction ds with
  | nil => cases m
  | cons e ds ih =>
    unfold deps
    rcases List.mem_cons.mp m with rfl | m
    · omega
    · have := ih m; omega
section
variable {X : Cx} {pins : List (Addr × Obj)} {σ : L2.St} {F H : Hp} {s : Shared}
open PySem.SeqAt (EqAt RcAt RcNeAt)
theorem emp_eq (I : Inv X pins σ H s) {a b : Addr} (ha : H a = some (.dK [])) (hb : H b = some (.dK [])) {A : Around} (hu : A.units < cLine) : EqAt A s (.ref a) (.ref b) true := by
  by_cases e : a = b
  · subst e
    exact PySem.SeqAt.EqAt.same _
  · have get : ∀ c, H c = some (.dK []) → (c == sysModules) = false ∧ ∀ (p : Program) (w : World), s.heap.DictOf (mixKind p w) c [] := fun c hc => by
      obtain ⟨_, nc, vs, kv, o, es, ep, ho, ex, hd, ks, ps, _⟩ := (show ObjOk X.prog X.w H s.heap c (.dK []) from I.hok c _ hc)
      cases kv
      have e0 : es.toList = [] := by cases hh : es.toList with
        | nil => rfl
        | cons x xs => rw [hh] at ps; cases ps
      refine ⟨nc, fun p w => ⟨o, es, ep, ho, ex, hd, fun z hz => ?_, ?_, List.nodup_nil⟩⟩
      · have : z ∈ es.toList := by simpa using hz
        rw [e0] at this
        cases this
      · rw [e0]
        constructor
    obtain ⟨n1, d1⟩ := get a ha
    obtain ⟨n2, d2⟩ := get b hb
    intro p w E Q hq
    exact PySem.SeqAt.EqIn.of_refs e (fun E Q hq => PySem.W.keq_eqIn n1 n2 (d1 p w) (d2 p w) hu (fun _ => .nil) (by simpa using hq)) E Q hq
theorem range_all {n : Nat} : ((List.range n).all fun _ => true) = true := by rw [List.all_eq_true]; exact fun _ _ => rfl
theorem leaf_eq (I : Inv X pins σ H s) (sm : Same F H) {d : D} (hp : plain d = true) (hd : dep d ≤ 64) {x y : V} {u v : Value} (hx : IsD (cg X) F x d) (hy : IsD (cg X) F y d) (ru : RelV x u) (rv : RelV y v) {A : Around} (hA : A.units + 64 < cLine) : EqAt A s u v true := by
  obtain ⟨p, e, cl, dp⟩ := plain_py hp
  obtain ⟨as, r1⟩ := Dp.reads I p x u (IsD.dp sm hx e) ru
  obtain ⟨bs, r2⟩ := Dp.reads I p y v (IsD.dp sm hy e) rv
  have := PySem.SeqAt.eqAt_reads p p A s u v as bs r1 r2 cl cl (by omega)
  rwa [plain_eqv hp hp e e, decide_eq_true rfl] at this
mutual
theorem eq_data (I : Inv X pins σ H s) (sm : Same F H) : ∀ (d : D) (x y : V) (u v : Value) (A : Around), eqOk d = true → dep d ≤ 64 → IsD (cg X) F x d → IsD (cg X) F y d → RelV x u → RelV y v → A.units + 64 + dep d < cLine → EqAt A s u v true
  | .non, x, y, u, v, A, h, hd, hx, hy, ru, rv, hA => leaf_eq I sm h hd hx hy ru rv (by omega)
  | .bl b, x, y, u, v, A, h, hd, hx, hy, ru, rv, hA => by
    cases hx
    cases hy
    cases (show u = Value.bool b from ru)
    cases (show v = Value.bool b from rv)
    exact PySem.SeqAt.EqAt.same _
  | .int i, x, y, u, v, A, h, hd, hx, hy, ru, rv, hA => leaf_eq I sm h hd hx hy ru rv (by omega)
  | .str z, x, y, u, v, A, h, hd, hx, hy, ru, rv, hA => leaf_eq I sm h hd hx hy ru rv (by omega)
  | .set _, x, y, u, v, A, h, hd, hx, hy, ru, rv, hA => by cases h
  | .dct _ _, x, y, u, v, A, h, hd, hx, hy, ru, rv, hA => by cases h
  | .ins z vs, x, y, u, v, A, h, hd, hx, hy, ru, rv, hA => by
    obtain ⟨rfl, rfl⟩ := of_decide_eq_true (show decide (z = dictN ∧ vs = [.lst [], .lst []]) = true from h)
    have get : ∀ {x : V}, IsD (cg X) F x (.ins dictN [.lst [], .lst []]) → ∃ a, x = .ref a ∧ H a = some (.dK []) := fun {x} hx => by
      generalize hq : D.ins dictN [.lst [], .lst []] = q at hx
      cases hx with
      | ins h1 h2 h3 h4 h5 h6 => cases hq; exact absurd h4 dictN_no.1
      | exc h1 h2 h3 h4 h5 h6 => cases hq; exact absurd h4 (fun z => z.elim dictN_no.2.1 dictN_no.2.2)
      | @dctM a kvs vs h1 h2 =>
        simp only [D.ins.injEq, List.cons.injEq, D.lst.injEq] at hq
        have e : kvs = [] := by simpa using hq.2.1.symm
        subst e
        exact ⟨a, rfl, sm _ _ h1⟩
      | _ => cases hq
    obtain ⟨a, rfl, ha⟩ := get hx
    obtain ⟨b, rfl, hb⟩ := get hy
    cases (show u = Value.ref a from ru)
    cases (show v = Value.ref b from rv)
    exact emp_eq I ha hb (by omega)
  | .lst ds, x, y, u, v, A, h, hd, hx, hy, ru, rv, hA => by
    cases hx with
    | @lst a xs _ h1 h2 =>
      cases hy with
      | @lst b ys _ k1 k2 =>
        cases (show u = Value.ref a from ru)
        cases (show v = Value.ref b from rv)
        by_cases e : a = b
        · subst e
          exact PySem.SeqAt.EqAt.same _
        · obtain ⟨it, r1, p1, _⟩ := I.list (Same.seq sm h1)
          obtain ⟨jt, r2, p2, _⟩ := I.list (Same.seq sm k1)
          have l1 : it.length = ds.length := by rw [← Paired.length r1, IsDs.length h2]
          have l2 : jt.length = ds.length := by rw [← Paired.length r2, IsDs.length k2]
          have dd : dep (.lst ds) = 1 + deps ds := by simp [dep] <;> omega
          have := PySem.SeqAt.EqAt.of_refs e (PySem.SeqAt.RcAt.lists (A := A) (e := fun _ => true) p1.isList p2.isList (by simp [l1, l2]) (by omega) fun j j1 j2 => by
            simpa using eqs_data I sm ds xs ys it jt A.in1 h (by omega) h2 k2 r1 r2 (by show A.units + 1 + 64 + deps ds < cLine; omega) j (by simpa using j1) (by simpa using j2))
          rwa [range_all] at this
  | .tup ds, x, y, u, v, A, h, hd, hx, hy, ru, rv, hA => by
    cases hx with
    | @tup a xs _ h1 h2 =>
      cases hy with
      | @tup b ys _ k1 k2 =>
        cases (show u = Value.ref a from ru)
        cases (show v = Value.ref b from rv)
        by_cases e : a = b
        · subst e
          exact PySem.SeqAt.EqAt.same _
        · obtain ⟨it, r1, p1, _⟩ := I.tuple (Same.sqT sm h1)
          obtain ⟨jt, r2, p2, _⟩ := I.tuple (Same.sqT sm k1)
          have l1 : it.length = ds.length := by rw [← Paired.length r1, IsDs.length h2]
          have l2 : jt.length = ds.length := by rw [← Paired.length r2, IsDs.length k2]
          have dd : dep (.tup ds) = 1 + deps ds := by simp [dep] <;> omega
          have := PySem.SeqAt.EqAt.of_refs e (PySem.SeqAt.RcAt.tuples (A := A) (e := fun _ => true) (show s.heap.IsTuple a it.toArray from p1) (show s.heap.IsTuple b jt.toArray from p2) (by omega) fun j j1 j2 => by
            simpa using eqs_data I sm ds xs ys it jt A.in1 h (by omega) h2 k2 r1 r2 (by show A.units + 1 + 64 + deps ds < cLine; omega) j (by simpa using j1) (by simpa using j2))
          rw [range_all] at this
          simpa [l1, l2] using this
theorem eqs_data (I : Inv X pins σ H s) (sm : Same F H) : ∀ (ds : List D) (xs ys : List V) (us vs : List Value) (A : Around), eqOks ds = true → deps ds ≤ 64 → IsDs (cg X) F xs ds → IsDs (cg X) F ys ds → Vals xs us → Vals ys vs → A.units + 64 + deps ds < cLine → ∀ j (h1 : j < us.length) (h2 : j < vs.length), EqAt A s us[j] vs[j] true
  | [], xs, ys, us, vs, A, h, hd, hx, hy, ru, rv, hA, j, h1, h2 => by
    cases hx
    cases ru
    exact absurd h1 (Nat.not_lt_zero j)
  | d :: ds, xs, ys, us, vs, A, h, hd, hx, hy, ru, rv, hA, j, h1, h2 => by
    cases hx with
    | cons a1 a2 =>
      cases hy with
      | cons b1 b2 =>
        cases ru with
        | cons p1 p2 =>
          cases rv with
          | cons q1 q2 =>
            have h' := Bool.and_eq_true_iff.mp (show (eqOk d && eqOks ds) = true from h)
            have dl : dep d ≤ deps (d :: ds) := deps_le List.mem_cons_self
            have dl2 : deps ds ≤ deps (d :: ds) := by show deps ds ≤ max (dep d) (deps ds); omega
            cases j with
            | zero => exact eq_data I sm d _ _ _ _ A h'.1 (by omega) a1 b1 p1 q1 (by omega)
            | succ j => exact eqs_data I sm ds _ _ _ _ A h'.2 (by omega) a2 b2 p2 q2 (by omega) j (Nat.lt_of_succ_lt_succ h1) (Nat.lt_of_succ_lt_succ h2)
end
theorem rc_data (I : Inv X pins σ H s) (sm : Same F H) {d : D} {x y : V} {u v : Value} {A : Around} (h : eqOk d = true) (hd : dep d ≤ 64) (hs : ∃ ds, d = .lst ds ∨ d = .tup ds) (hx : IsD (cg X) F x d) (hy : IsD (cg X) F y d) (ru : RelV x u) (rv : RelV y v) (hA : A.units + 64 + dep d < cLine) :
    RcAt A s u v true ∧ RcNeAt A s u v false := by
  obtain ⟨ds, rfl | rfl⟩ := hs
  · cases hx with
    | @lst a xs _ h1 h2 =>
      cases hy with
      | @lst b ys _ k1 k2 =>
        cases (show u = Value.ref a from ru)
        cases (show v = Value.ref b from rv)
        obtain ⟨it, r1, p1, _⟩ := I.list (Same.seq sm h1)
        obtain ⟨jt, r2, p2, _⟩ := I.list (Same.seq sm k1)
        have l1 : it.length = ds.length := by rw [← Paired.length r1, IsDs.length h2]
        have l2 : jt.length = ds.length := by rw [← Paired.length r2, IsDs.length k2]
        have dd : dep (.lst ds) = 1 + deps ds := by simp [dep] <;> omega
        have he : ∀ j (j1 : j < it.toArray.size) (j2 : j < jt.toArray.size), EqAt A.in1 s it.toArray[j] jt.toArray[j] ((fun _ => true) j) := fun j j1 j2 => by
          simpa using eqs_data I sm ds xs ys it jt A.in1 h (by omega) h2 k2 r1 r2 (by show A.units + 1 + 64 + deps ds < cLine; omega) j (by simpa using j1) (by simpa using j2)
        have q1 := PySem.SeqAt.RcAt.lists (A := A) p1.isList p2.isList (by simp [l1, l2]) (by omega) he
        have q2 := PySem.SeqAt.RcNeAt.lists (A := A) p1.isList p2.isList (by simp [l1, l2]) (by omega) he
        rw [range_all] at q1 q2
        exact ⟨q1, q2⟩
  · cases hx with
    | @tup a xs _ h1 h2 =>
      cases hy with
      | @tup b ys _ k1 k2 =>
        cases (show u = Value.ref a from ru)
        cases (show v = Value.ref b from rv)
        obtain ⟨it, r1, p1, _⟩ := I.tuple (Same.sqT sm h1)
        obtain ⟨jt, r2, p2, _⟩ := I.tuple (Same.sqT sm k1)
        have l1 : it.length = ds.length := by rw [← Paired.length r1, IsDs.length h2]
        have l2 : jt.length = ds.length := by rw [← Paired.length r2, IsDs.length k2]
        have dd : dep (.tup ds) = 1 + deps ds := by simp [dep] <;> omega
        have he : ∀ j (j1 : j < it.toArray.size) (j2 : j < jt.toArray.size), EqAt A.in1 s it.toArray[j] jt.toArray[j] ((fun _ => true) j) := fun j j1 j2 => by
          simpa using eqs_data I sm ds xs ys it jt A.in1 h (by omega) h2 k2 r1 r2 (by show A.units + 1 + 64 + deps ds < cLine; omega) j (by simpa using j1) (by simpa using j2)
        have q1 := PySem.SeqAt.RcAt.tuples (A := A) (show s.heap.IsTuple a it.toArray from p1) (show s.heap.IsTuple b jt.toArray from p2) (by omega) he
        have q2 := PySem.SeqAt.RcNeAt.tuples (A := A) (show s.heap.IsTuple a it.toArray from p1) (show s.heap.IsTuple b jt.toArray from p2) (by omega) he
        rw [range_all] at q1 q2
        exact ⟨by simpa [l1, l2] using q1, by simpa [l1, l2] using q2⟩
end
/-! ### the rules -/
def isSeq : D → Bool
  | .lst _ => true
  | .tup _ => true
  | _ => false
theorem isSeq_ex {d : D} (h : isSeq d = true) : ∃ ds, d = .lst ds ∨ d = .tup ds := by
  cases d <;> first | (cases h; done) | exact ⟨_, .inl rfl⟩ | exact ⟨_, .inr rfl⟩
def eqBX (x y : D) : Option Bool := match eqB x y with
  | some b => some b
  | none => if x = y ∧ eqOk x = true ∧ dep x ≤ 64 ∧ isSeq x = true then some true else none
def eqVX (x y : D) : Option RV := (eqBX x y).map fun b => .val (.bl b)
def neVX (x y : D) : Option RV := (eqBX x y).map fun b => .val (.bl (!b))
def rSame (c : Cg) (b : Bool) : R2 := fun x y H Q => ∃ F d, Same F H ∧ IsD c F x d ∧ IsD c F y d ∧ eqOk d = true ∧ dep d ≤ 64 ∧ isSeq d = true ∧ Q (.bl b) H
section
variable {X : Cx}
theorem op_eqX (hu : X.A.units + 130 < cLine) : OpR X (compareOp .Eq) (fun x y H Q => rEqD X.K x y H Q ∨ rSame (cg X) true x y H Q) := (op_eqD (by omega)).or (by
  intro pins s σ H x y v u Q I rx ry ⟨F, d, sm, hx, hy, h1, h2, h3, q⟩
  exact (rc_data I sm h1 h2 (isSeq_ex h3) hx hy rx ry (by omega)).1 X.prog X.w _ _ ⟨.bl _, H, I, rfl, q⟩)
theorem op_neX (hu : X.A.units + 130 < cLine) : OpR X (compareOp .NotEq) (fun x y H Q => rNeD X.K x y H Q ∨ rSame (cg X) false x y H Q) := (op_neD (by omega)).or (by
  intro pins s σ H x y v u Q I rx ry ⟨F, d, sm, hx, hy, h1, h2, h3, q⟩
  exact (rc_data I sm h1 h2 (isSeq_ex h3) hx hy rx ry (by omega)).2 X.prog X.w _ _ ⟨.bl _, H, I, rfl, q⟩)
end
theorem og_eqX {c : Cg} : OpD c (fun x y H Q => rEqD c.K x y H Q ∨ rSame c true x y H Q) eqVX := by
  intro B F H σ env x y dx dy rv Q R hx hy e fin
  obtain ⟨b, h, rfl⟩ := Option.map_eq_some_iff.mp e
  unfold eqBX at h
  split at h
  · rename_i b' h'
    cases h
    exact .inl (og_eq B F H σ env x y dx dy _ Q R hx hy (by unfold eqV'; rw [h']; rfl) fin)
  · split at h
    · rename_i k
      obtain ⟨rfl, k1, k2, k3⟩ := k
      cases h
      exact .inr ⟨F, dx, R.sub, hx, hy, k1, k2, k3, fin_val R fin (.bl _)⟩
    · cases h
theorem og_neX {c : Cg} : OpD c (fun x y H Q => rNeD c.K x y H Q ∨ rSame c false x y H Q) neVX := by
  intro B F H σ env x y dx dy rv Q R hx hy e fin
  obtain ⟨b, h, rfl⟩ := Option.map_eq_some_iff.mp e
  unfold eqBX at h
  split at h
  · rename_i b' h'
    cases h
    exact .inl (og_ne B F H σ env x y dx dy _ Q R hx hy (by unfold neV; rw [h']; rfl) fin)
  · split at h
    · rename_i k
      obtain ⟨rfl, k1, k2, k3⟩ := k
      cases h
      exact .inr ⟨F, dx, R.sub, hx, hy, k1, k2, k3, fin_val R fin (.bl _)⟩
    · cases h
section
variable {X : Cx} {pos : Pos} {a b : Expr} {ma mb : Mn D} {k : Nat}
theorem hu130 (hr : Room k X.A) : X.A.units + 130 < cLine := by have := hr.un; omega
theorem eEqX (hr : Room k X.A) (ha : EvD X a ma) (hb : EvD X b mb) : EvE X (.Compare a [.Eq] [b] pos) (op2 eqVX ma mb) := ee_cmp (op_eqX (hu130 hr)) og_eqX ha hb (nomark _)
theorem eNeX (hr : Room k X.A) (ha : EvD X a ma) (hb : EvD X b mb) : EvE X (.Compare a [.NotEq] [b] pos) (op2 neVX ma mb) := ee_cmp (op_neX (hu130 hr)) og_neX ha hb (nomark _)
theorem tEqX (hr : Room k X.A) (ha : EvD X a ma) (hb : EvD X b mb) : EvT X (.Compare a [.Eq] [b] pos) (cmpT eqVX ma mb) := et_cmp (op_eqX (hu130 hr)) og_eqX ha hb (nomark _)
theorem tNeX (hr : Room k X.A) (ha : EvD X a ma) (hb : EvD X b mb) : EvT X (.Compare a [.NotEq] [b] pos) (cmpT neVX ma mb) := et_cmp (op_neX (hu130 hr)) og_neX ha hb (nomark _)
end
end RW

set_option Elab.async false
set_option linter.all false
set_option maxRecDepth 100000
set_option maxHeartbeats 4000000
/-! RwCall2: calls with keywords that may raise, calls without arguments, repeated lists, lists unpacked, the empty dict, code that is never reached. -/
namespace RW
open PySem PySem.Spec PyProof.Rows L2

section
variable {X : Cx} {k n : Nat} {f : Addr} {fd : FuncData} {ps ks : List Str} {x : Str} {p pos : Pos} {e : Expr} {es : List Expr} {kws : List Keyword} {g : List Value → List Value → List Value} {gV : List V → List V → List V} {sp : Sp}
theorem run_fnX {E : L2.St → XK} {pins : List (Addr × Obj)} {σ : L2.St} {H : Hp} {s : Shared} {Q : VK} {us ws : List Value} {vs zs : List V} (F : FnOk X.prog X.w X.K X.mg X.base (L2.CX X.prog X.w) k f fd ps sp) (hr : Room k X.A) (hb : KBn X.K fd ps n ks g gV) (hx : PassesAt (L2.CX X.prog X.w) X σ (E σ))
    (I : Inv X pins σ H s) (r : Vals vs us) (rz : Vals zs ws) (l1 : vs.length = n) (l2 : zs.length = ks.length) (h : sp (gV vs zs) H Q (E σ)) : wpAny (model X.prog X.w) X.A (call (.ref f) us (ks.zip ws)) (EP X pins σ Q) X.xe s := by
  have a1 := r.length.symm.trans l1
  have a2 := rz.length.symm.trans l2
  apply wpAny_call
  refine codeAny_mono (F.run X.A X.stack s H ⟨us, ks.zip ws⟩ (g us ws) (gV vs zs) Q (E σ) hr I.env0 (hb.to s us ws I.kIn a1 a2) (hb.rel r rz) h) fun res s' hq => ?_
  rcases res with er | (_ | _ | _ | u)
  · exact hx pins H s er s' I hq
  · exact False.elim hq
  · exact False.elim hq
  · exact False.elim hq
  · exact I.after hq
/-- f(e, .., k = v, ..), which may raise -/
def callX (den : Den) (gD : List D → List D → List D) (ma mk : Mn (List D)) : Mn RV := ma.bind fun ds => mk.bind fun zs env => (den (gD ds zs)).map fun r => (r, env)
def tCallX (n m : Nat) (sp : Sp) (gV : List V → List V → List V) (E : L2.St → XK) (t tk : TA) : TE := fun σ H Q => t σ H fun vs H1 => tk σ H1 fun zs H2 => vs.length = n ∧ zs.length = m ∧ sp (gV vs zs) H2 Q (E σ)
theorem pe_callX {E : L2.St → XK} {t tk : TA} (F : FnOk X.prog X.w X.K X.mg X.base (L2.CX X.prog X.w) k f fd ps sp) (hr : Room k X.A) (hg : Gl X x) (hm : X.mg x = some (.ref f)) (hk : PySem.W.keepIn X.K (.ref f) = true) (hb : KBn X.K fd ps n ks g gV) (hx : ∀ σ, PassesAt (L2.CX X.prog X.w) X σ (E σ))
    (ha : PA X (e :: es) t) (hkw : PK X kws tk) (hall : (backToKw pos (keywordEach kws X.env)).all (·.1.isSome) = true) (hks : (backToKw pos (keywordEach kws X.env)).filterMap (·.1) = ks)
    (hdb : (x == ("__debug__" : Str)) = false) (he : starEach (e :: es) X.env = (false, eval e X.env) :: starEach es X.env)
    (hpl : ((backTo pos (starEach (e :: es) X.env)).any (·.1) || (backToKw pos (keywordEach kws X.env)).any (·.1.isNone)) = false) : PE X (.Call (.Name x p) (e :: es) kws pos) (tCallX n ks.length sp gV E t tk) := by
  constructor
  intro pins s σ H Q I h
  refine wpAny_Call_Name_kw (ld_glob I hg hm (PySem.W.callWith_KW (h₀ := X.base) I.ok.mod.kin hk hall (thn (ha.run pos pins s σ H _ I h) fun us s1 ⟨vs, H1, I1, r, q⟩ => thn (hkw.run pos pins s1 σ H1 _ I1 q) fun ws s2 ⟨zs, H2, I2, rz, l1, l2, q2⟩ => ⟨I2.kIn, ?_⟩) hpl he) hdb)
  rw [hks]
  exact run_fnX F hr hb (hx σ) I2 r rz l1 l2 q2
theorem pe_callX0 {E : L2.St → XK} {tk : TA} (F : FnOk X.prog X.w X.K X.mg X.base (L2.CX X.prog X.w) k f fd ps sp) (hr : Room k X.A) (hg : Gl X x) (hm : X.mg x = some (.ref f)) (hk : PySem.W.keepIn X.K (.ref f) = true) (hb : KBn X.K fd ps 0 ks g gV) (hx : ∀ σ, PassesAt (L2.CX X.prog X.w) X σ (E σ))
    (hkw : PK X kws tk) (hall : (backToKw pos (keywordEach kws X.env)).all (·.1.isSome) = true) (hks : (backToKw pos (keywordEach kws X.env)).filterMap (·.1) = ks) (hdb : (x == ("__debug__" : Str)) = false)
    (hpl : ((backTo pos (starEach [] X.env)).any (·.1) || (backToKw pos (keywordEach kws X.env)).any (·.1.isNone)) = false) : PE X (.Call (.Name x p) [] kws pos) (tCallX 0 ks.length sp gV E tNil tk) := by
  constructor
  intro pins s σ H Q I h
  refine wpAny_Call_Name_kw (ld_glob I hg hm (PySem.W.callWith_KW0 (h₀ := X.base) I.ok.mod.kin hk hall (thn (hkw.run pos pins s σ H _ I h) fun ws s2 ⟨zs, H2, I2, rz, l1, l2, q2⟩ => ⟨I2.kIn, ?_⟩) hpl) hdb)
  rw [hks]
  exact run_fnX (us := []) (vs := []) F hr hb (hx σ) I2 .nil rz rfl l2 q2
theorem callX_reads {den : Den} {gD : List D → List D → List D} {ma mk : Mn (List D)} {N : Nat} {B : Bs} {σ : L2.St} {H : Hp} {Q : VK} (hG : ∀ F vs zs ds es, IsDs (cg X) F vs ds → IsDs (cg X) F zs es → IsDs (cg X) F (gV vs zs) (gD ds es))
    (l1 : LenA ma n) (l2 : LenA mk ks.length) (lN : ∀ ds es, ds.length = n → es.length = ks.length → (gD ds es).length = N) (h : tE (cg X) B (callX den gD ma mk) σ H Q) : tCallX n ks.length (SpD (cg X) N den) gV (WE B.W) (tA (cg X) B ma) (tA (cg X) B mk) σ H Q := by
  obtain ⟨F, env, r, env', R, hm, fin⟩ := h
  rcases bind_cases hm with ⟨ds, env1, g1, g2⟩ | ⟨y, fl, g1, rfl⟩
  · refine ⟨F, env, _, _, R, g1, fun F1 H1 vs R1 s1 xs => ?_⟩
    have fin1 := FinE.mono fin s1
    rcases bind_cases g2 with ⟨es, env2, h1, h2⟩ | ⟨y, fl, h1, rfl⟩
    · refine ⟨F1, env1, _, _, R1, h1, fun F2 H2 zs R2 s2 ys => ?_⟩
      obtain ⟨r', hd, e2⟩ := Option.map_eq_some_iff.mp h2
      cases e2
      have xs2 := xs.mono s2
      have hx := hG F2 vs zs ds es xs2 ys
      have n1 := l1 _ _ _ g1
      have n2 := l2 _ _ _ h1
      exact ⟨by rw [IsDs.length xs2, n1], by rw [IsDs.length ys, n2], by rw [IsDs.length hx]; exact lN ds es n1 n2, F2, gD ds es, _, R2.sub, hx, hd, end_call R2 (FinE.mono fin1 s2)⟩
    · exact ⟨F1, env1, _, _, R1, h1, fin1⟩
  · exact ⟨F, env, _, _, R, g1, fin⟩
theorem ee_callX {den : Den} {gD : List D → List D → List D} {ma mk : Mn (List D)} {N : Nat} (Fo : FnOk X.prog X.w X.K X.mg X.base (L2.CX X.prog X.w) k f fd ps (SpD (cg X) N den)) (hr : Room k X.A) (hg : Gl X x) (hm : X.mg x = some (.ref f)) (hk : PySem.W.keepIn X.K (.ref f) = true) (hb : KBn X.K fd ps n ks g gV)
    (ha : EvA X (e :: es) ma) (l1 : LenA ma n) (hkw : EvK X kws mk) (l2 : LenA mk ks.length) (hG : ∀ F vs zs ds es, IsDs (cg X) F vs ds → IsDs (cg X) F zs es → IsDs (cg X) F (gV vs zs) (gD ds es)) (lN : ∀ ds es, ds.length = n → es.length = ks.length → (gD ds es).length = N)
    (hall : (backToKw pos (keywordEach kws X.env)).all (·.1.isSome) = true := by rfl) (hks : (backToKw pos (keywordEach kws X.env)).filterMap (·.1) = ks := by rfl) (hdb : (x == ("__debug__" : Str)) = false := by decide)
    (he : starEach (e :: es) X.env = (false, eval e X.env) :: starEach es X.env := by rfl)
    (hpl : ((backTo pos (starEach (e :: es) X.env)).any (·.1) || (backToKw pos (keywordEach kws X.env)).any (·.1.isNone)) = false := by rfl) : EvE X (.Call (.Name x p) (e :: es) kws pos) (callX den gD ma mk) := fun B tk =>
  PE.mono (pe_callX (E := WE B.W) Fo hr hg hm hk hb (passAt tk) (ha B tk) (hkw B tk) hall hks hdb he hpl) fun σ H Q h => callX_reads (gV := gV) (n := n) hG l1 l2 lN h
theorem ee_callX0 {den : Den} {gD : List D → List D → List D} {mk : Mn (List D)} {N : Nat} (Fo : FnOk X.prog X.w X.K X.mg X.base (L2.CX X.prog X.w) k f fd ps (SpD (cg X) N den)) (hr : Room k X.A) (hg : Gl X x) (hm : X.mg x = some (.ref f)) (hk : PySem.W.keepIn X.K (.ref f) = true) (hb : KBn X.K fd ps 0 ks g gV)
    (hkw : EvK X kws mk) (l2 : LenA mk ks.length) (hG : ∀ F vs zs ds es, IsDs (cg X) F vs ds → IsDs (cg X) F zs es → IsDs (cg X) F (gV vs zs) (gD ds es)) (lN : ∀ ds es, ds.length = 0 → es.length = ks.length → (gD ds es).length = N)
    (hall : (backToKw pos (keywordEach kws X.env)).all (·.1.isSome) = true := by rfl) (hks : (backToKw pos (keywordEach kws X.env)).filterMap (·.1) = ks := by rfl) (hdb : (x == ("__debug__" : Str)) = false := by decide)
    (hpl : ((backTo pos (starEach [] X.env)).any (·.1) || (backToKw pos (keywordEach kws X.env)).any (·.1.isNone)) = false := by rfl) : EvE X (.Call (.Name x p) [] kws pos) (callX den gD (Mn.ret []) mk) := fun B tk =>
  PE.mono (pe_callX0 (E := WE B.W) Fo hr hg hm hk hb (passAt tk) (hkw B tk) hall hks hdb hpl) fun σ H Q h => by
    have q := callX_reads (gV := gV) (n := 0) hG la_nil l2 lN h
    obtain ⟨F, env, r, env', R, hm, fin⟩ := q
    cases hm
    exact fin F H [] R (Same.refl _) .nil
/-- f() -/
theorem ee_call0 {den : Den} {dd : List D} {dvs : List V} {dws : List Value} {pn : List Str} (Fo : FnOk X.prog X.w X.K X.mg X.base (L2.CX X.prog X.w) k f fd pn (SpD (cg X) n den)) (hr : Room k X.A) (hg : Gl X x) (hm : X.mg x = some (.ref f)) (hk : PySem.W.keepIn X.K (.ref f) = true) (hb : Binds X.K fd pn dws) (hd : Vals dvs dws)
    (hdd : ∀ F, IsDs (cg X) F dvs dd) (hl : dd.length = n) (hdb : (x == ("__debug__" : Str)) = false := by decide) : EvE X (.Call (.Name x p) [] [] pos) (callM den dd (Mn.ret [])) := fun B tk => by
  have P : PE X (.Call (.Name x p) [] [] pos) (tCallSD (SpD (cg X) n den) dvs (WE B.W) tNil) := ⟨fun pins s σ H Q I h => wpAny_Call_Name_kw (ld_glob I hg hm (PySem.W.callWith_K0 I.kIn hk (run_fnSD (us := []) (vs := []) Fo hr hb hd (passAt tk σ) I .nil h)) hdb)⟩
  refine PE.mono P fun σ H Q ⟨F, env, r, env', R, hm, fin⟩ => ?_
  rcases bind_cases hm with ⟨ds, env1, h1, h2⟩ | ⟨y, fl, h1, rfl⟩
  · cases h1
    obtain ⟨r', h3, h4⟩ := Option.map_eq_some_iff.mp h2
    cases h4
    exact ⟨by rw [List.nil_append, IsDs.length (hdd F)]; exact hl, F, dd, r, R.sub, hdd F, h3, end_call R fin⟩
  · cases h1
end
section
variable {X : Cx} {a b : Expr} {pos : Pos}
/-- a new list, repeated -/
def repM (ma : Mn RV) (mb : Mn D) : Mn RV := ma.bind fun r => match r with
  | .new ds => mb.bind fun d => match d with
    | .int k => if -(2 ^ 63) ≤ k ∧ k < 2 ^ 63 ∧ ds.length * k.toNat ≤ sizeLine then .ret (.new (List.replicate k.toNat ds).flatten) else fun _ => none
    | _ => fun _ => none
  | _ => fun _ => none
theorem flat_rep {c : Cg} {F : Hp} {vs : List V} {ds : List D} (h : IsDs c F vs ds) : ∀ n : Nat, IsDs c F (List.replicate n vs).flatten (List.replicate n ds).flatten
  | 0 => .nil
  | n + 1 => by
    rw [List.replicate_succ, List.replicate_succ, List.flatten_cons, List.flatten_cons]
    exact IsDs.append (flat_rep h n) h
theorem ee_rep {ma : Mn RV} {mb : Mn D} (ha : EvE X a ma) (hb : EvD X b mb) : EvE X (.BinOp a .Mult b pos) (repM ma mb) := fun B tk => by
  refine PE.mono (pe_op op_rep (ha B tk) (hb B tk)) fun σ H Q ⟨F, env, r, env', R, hm, fin⟩ => ?_
  rcases bind_cases hm with ⟨rv, env1, h1, h2⟩ | ⟨y, fl, h1, rfl⟩
  · refine ⟨F, env, _, _, R, h1, ?_⟩
    cases rv with
    | val d => cases h2
    | new ds =>
      intro F1 H1 p vs R1 s1 N
      obtain ⟨R2, s2⟩ := R1.freeze (o := .lst vs) N.at_ N.fz N.free N.new
      have fin2 := FinE.mono fin (s1.trans s2)
      refine bindD R2 h2 (fun d env2 hk F3 H3 y R3 s3 iy => ?_) (fun z w e => by subst e; exact fin2)
      cases d with
      | int k =>
        simp only at hk
        split at hk
        · rename_i hc
          cases hk
          cases iy
          have hp : H3 p = some (.lst vs) := R3.sub _ _ (s3 _ _ upd_same)
          refine ⟨p, k, vs, rfl, rfl, hp, hc.1, hc.2.1, by rw [IsDs.length N.dat]; exact hc.2.2, fun q hq => ?_⟩
          have R4 := R3.newO (o := .lst (List.replicate k.toNat vs).flatten) hq
          exact FinE.mono fin2 s3 F3 _ q _ R4 (Same.refl _) ⟨upd_same, R3.sub.free hq, flat_rep (N.dat.mono (s2.trans s3)) _, mine_new R3 hq, free_new R3 hq⟩
        · cases hk
      | _ => cases hk
  · exact ⟨F, env, _, _, R, h1, fin⟩
/-- a, b, .. = a list -/
def gTl (n : Nat) (gs : Bds) : Bd := fun d env => match d with
  | .lst ds => if ds.length = n then gs ds env else none
  | _ => none
theorem eg_lst {es : List Expr} {k : Nat} {is : List Nat} {gs : Bds} {n : Nat} (hc : X.calm = true) (h : EvGs X es is gs)
    (hn : (assignEach es X.env).length = n := by rfl) (hst : (assignEach es X.env).findIdx? (·.1) = none := by rfl) : EvG X (.Tuple es k pos) is (gTl n gs) := fun B tk => by
  refine PG.mono (pg_lst hc (h B tk) hn hst) fun v σ H Q ⟨F, env, d, env', R, hd, hg, q⟩ => ?_
  cases d with
  | lst ds =>
    obtain ⟨a, xs, rfl, h1, h2⟩ := isLst hd
    simp only [gTl] at hg
    split at hg
    · rename_i hl
      exact ⟨a, xs, rfl, Same.seq R.sub h1, by rw [IsDs.length h2]; exact hl, F, env, ds, env', R, h2, hg, q⟩
    · cases hg
  | _ => cases hg
/-- {} -/
def dict0 : D := .ins dictN [.lst [], .lst []]
theorem ed_dict0 : EvD X (.Dict [] [] pos) (Mn.ret dict0) := fun B tk => by
  refine PE.mono pe_dnewK fun σ H Q ⟨F, env, r, env', R, hm, fin⟩ => ?_
  cases hm
  intro p hp
  obtain ⟨R2, s2⟩ := R.newF (o := .dK []) hp
  exact fin _ _ (.ref p) R2 s2 (.dctM (kvs := []) upd_same .nil)
/-! ### code that is never reached -/
def nvM : Ms := fun _ => none
theorem es_unreached {st : Stmt} : EvS X st nvM := fun B tk => ⟨fun pins s σ H Dk I ⟨F, env, o, env', R, hm, fin⟩ => by cases hm⟩
theorem ess_unreached {st : List Stmt} : EvSs X st nvM := fun B tk => ⟨fun pins s σ H Dk I ⟨F, env, o, env', R, hm, fin⟩ => by cases hm⟩
theorem ee_unreached {e : Expr} : EvE X e (fun _ => none) := fun B tk => ⟨fun pins s σ H Q I ⟨F, env, o, env', R, hm, fin⟩ => by cases hm⟩
end
end RW

set_option Elab.async false
set_option linter.all false
set_option maxRecDepth 100000
set_option maxHeartbeats 4000000
/-! RwOwnCls: what is asked of the own classes, class by class. -/
namespace RW
open PySem PySem.Spec PyProof.Rows L2

/-- an own exception class with a field, as its text has it -/
structure XBase (K : PySem.W.Frag) (mg : Str → Option Value) (x : Str) : Prop where
  mem : x ∈ excF
  ex : ∃ (f : Str) (C fI : Addr) (fd : FuncData) (qual : Str) (params : Arguments) (scope : Scope) (dvs : List V) (kws : List (Str × V)) (p1 p2 p3 p4 : Pos), excField x = f ∧ mg x = some (.ref C) ∧ OexC K C ∧ PySem.W.findIn K (.ref C) "__init__" = some (some (.ref fI)) ∧
    PySem.W.typeIn K (.ref fI) = some (.type "function") ∧ PySem.W.findIn K (.ref C) f = some none ∧
    FunD K "__init__" qual params [.Assign [.Attribute (.Name "self" p1) f p2] (.Name f p3) p4] scope dvs kws fI fd ∧ FnScope ["self", f] ["self", f] scope ∧
    scope.names.lookup ("self" : Str) = some .local ∧ scope.names.lookup f = some .local ∧ Binds K fd ["self", f] []
theorem excField_ok {x : Str} (h : x ∈ excF) : ("self" : Str) ≠ excField x ∧ (excField x == ("__debug__" : Str)) = false ∧ (excField x == ("__classdict__" : Str)) = false := by
  have : (excF.all fun x => decide (("self" : Str) ≠ excField x) && (!(excField x == ("__debug__" : Str)) && !(excField x == ("__classdict__" : Str)))) = true := by decide +kernel
  have := List.all_eq_true.mp this x h
  rw [Bool.and_eq_true, Bool.and_eq_true, Bool.not_eq_true', Bool.not_eq_true'] at this
  exact ⟨of_decide_eq_true this.1, this.2.1, this.2.2⟩
theorem XBase.facts {P : Program} {w : World} {K : PySem.W.Frag} {mg : Str → Option Value} {base : Heap} {x : Str} (h : XBase K mg x) : XFacts P w K mg base x := by
  obtain ⟨f, C, fI, fd, qual, params, scope, dvs, kws, p1, p2, p3, p4, rfl, hm, T, iC, tI, no, Fn, S, h0, h1, hb⟩ := h.ex
  obtain ⟨n1, n2, n3⟩ := excField_ok h.mem
  exact ⟨h.mem, C, fI, fd, hm, T, iC, tI, fn_init Fn S h0 h1 n1 n2 n3 T no, hb⟩
/-- a def of a class's body -/
def clsDef (st : Stmt) (i : Nat) : Stmt := match st with
  | .ClassDef _ _ _ b _ _ _ _ _ _ _ => b.getD i (.Pass ⟨0, 0, 0, 0⟩)
  | _ => .Pass ⟨0, 0, 0, 0⟩
theorem kit_b {K : PySem.W.Frag} {t c : Value} {x y : Str} {b : Bool} (h : PySem.W.kitOne K t c = some b) (e : isSub x y = b) : PySem.W.kitOne K t c = some (isSub x y) := by rw [e]; exact h
theorem exm_b {K : PySem.W.Frag} {t c : Value} {x y : Str} {b : Bool} (h : PySem.W.exmOne K t c = some b) (e : isSub x y = b) : PySem.W.exmOne K t c = some (isSub x y) := by rw [e]; exact h
/-- one class after another -/
def AllOf (l : List Str) (p : Str → Prop) : Prop := ∀ x ∈ l, p x
theorem all_nil {p : Str → Prop} : AllOf [] p := fun x h => by cases h
theorem all_cons {p : Str → Prop} {x : Str} {l : List Str} (h : p x) (t : AllOf l p) : AllOf (x :: l) p := fun y hy => by
  rcases List.mem_cons.mp hy with rfl | hy
  · exact h
  · exact t y hy
/-- the class's place -/
def At (mg : Str → Option Value) (x : Str) (p : Addr → Prop) : Prop := ∀ C, mg x = some (.ref C) → p C
theorem at_of {mg : Str → Option Value} {x : Str} {p : Addr → Prop} {C : Addr} (h : mg x = some (.ref C)) (q : p C) : At mg x p := fun D e => by
  rw [h] at e
  cases e
  exact q
theorem at_none {mg : Str → Option Value} {x : Str} {p : Addr → Prop} (h : mg x = none) : At mg x p := fun D e => by
  rw [h] at e
  cases e
theorem own_of {K : PySem.W.Frag} {mg : Str → Option Value} (hi : AllOf insN fun x => At mg x (InsF K)) (hF : AllOf excF fun x => At mg x (ExcC K)) (hN : AllOf excN fun x => At mg x (ExcC K)) : OwnOk K mg :=
  ⟨fun x C h e => hi x h C e, fun x C h e => h.elim (fun h => hF x h C e) fun h => hN x h C e⟩
theorem kitC_of {K : PySem.W.Frag} {mg : Str → Option Value} {c : Str} {C : Addr} (h : mg c = some (.ref C)) (kp : PySem.W.keepIn K (.ref C) = true) (ty : ∀ n ∈ tyN, PySem.W.kitOne K (.type n) (.ref C) = some false)
    (hi : AllOf insN fun x => At mg x fun Y => PySem.W.kitOne K (.ref Y) (.ref C) = some (isSub x c)) (hF : AllOf excF fun x => At mg x fun Y => PySem.W.kitOne K (.ref Y) (.ref C) = some (isSub x c)) (hN : AllOf excN fun x => At mg x fun Y => PySem.W.kitOne K (.ref Y) (.ref C) = some (isSub x c)) : KitC K mg c C :=
  ⟨h, kp, ty, fun x Y m e => by
    rcases m with m | m | m
    · exact hi x m Y e
    · exact hF x m Y e
    · exact hN x m Y e⟩
theorem catch_of {K : PySem.W.Frag} {mg : Str → Option Value} {c : Str} {C : Value} (hF : AllOf excF fun x => At mg x fun Y => PySem.W.exmOne K (.ref Y) C = some (isSub x c)) (hN : AllOf excN fun x => At mg x fun Y => PySem.W.exmOne K (.ref Y) C = some (isSub x c)) : CatchOk K mg c C :=
  fun x C' m e => m.elim (fun m => hF x m C' e) fun m => hN x m C' e
theorem noName_of {K : PySem.W.Frag} {mg : Str → Option Value} {f : Str} (h : AllOf ((insN ++ excF ++ excN).filter fun x => decide (f ∈ fieldsOf x)) fun x => At mg x fun C => PySem.W.findIn K (.ref C) f = some none) : NoName K mg f :=
  fun x C m hf e => h x (List.mem_filter.mpr ⟨by rcases m with m | m | m <;> simp [m], decide_eq_true hf⟩) C e
/-- a class without a name for f -/
theorem all_filter {l : List Str} {q : Str → Bool} {p : Str → Prop} {m : List Str} (e : l.filter q = m) (h : AllOf m p) : AllOf (l.filter q) p := by rw [e]; exact h
end RW
namespace RW
open PySem PySem.Spec PyProof.Rows L2
/-! ### isinstance(e, T), T built in, of any data -/
def kit8B (T : String) : Bool := tyN.all fun n => kitB n T == some (isiN n T)
theorem kit8_str : kit8B "str" = true := by decide +kernel
theorem kit8_tuple : kit8B "tuple" = true := by decide +kernel
theorem kit8_list : kit8B "list" = true := by decide +kernel
theorem kit8_int : kit8B "int" = true := by decide +kernel
theorem kit8_bool : kit8B "bool" = true := by decide +kernel
theorem kit8_dict : kit8B "dict" = true := by decide +kernel
def isiX (T : String) (d : D) : Bool := match tyB d with
  | some n => isiN n T
  | none => false
def isiXM (T : String) (ma : Mn D) : Mn RV := ma.bind fun d => .ret (.val (.bl (isiX T d)))
/-- no own class is below T -/
def KitT (K : PySem.W.Frag) (mg : Str → Option Value) (T : String) : Prop := ∀ (x : Str) (C : Addr), (x ∈ insN ∨ x ∈ excF ∨ x ∈ excN) → mg x = some (.ref C) → PySem.W.kitOne K (.ref C) (.type T) = some false
theorem kitT_of {K : PySem.W.Frag} {mg : Str → Option Value} {T : String} (hi : AllOf insN fun x => At mg x fun Y => PySem.W.kitOne K (.ref Y) (.type T) = some false) (hF : AllOf excF fun x => At mg x fun Y => PySem.W.kitOne K (.ref Y) (.type T) = some false) (hN : AllOf excN fun x => At mg x fun Y => PySem.W.kitOne K (.ref Y) (.type T) = some false) : KitT K mg T :=
  fun x Y m e => by
    rcases m with m | m | m
    · exact hi x m Y e
    · exact hF x m Y e
    · exact hN x m Y e
theorem kitT_ans {K : PySem.W.Frag} {mg : Str → Option Value} {T : String} {d : D} {t : Value} (kk : kit8B T = true) (k : KitT K mg T) (h : TyD mg d t) : PySem.W.kitOne K t (.type T) = some (isiX T d) := by
  rcases h with ⟨n, h1, rfl⟩ | ⟨x, vs, Y, rfl, rfl, h1, h2⟩
  · have := List.all_eq_true.mp kk n (tyB_mem h1)
    rw [kit_ty (by simpa using this)]
    unfold isiX
    rw [h1]
  · rw [k x Y h2 h1]
    have ne : x ≠ dictN := fun z => by
      subst z
      obtain ⟨a, b, c⟩ := dictN_no
      rcases h2 with h | h | h
      · exact a h
      · exact b h
      · exact c h
    unfold isiX tyB
    simp only
    rw [if_neg ne]
section
variable {X : Cx} {a : Expr} {p p2 pos : Pos}
theorem call_isiX {T : String} (O : OwnOk X.K X.mg) (kk : kit8B T = true) (k : KitT X.K X.mg T) : CallR X (.builtin "isinstance") (fun xs H Q => ∃ x d F, xs = [x, .ty T] ∧ Same F H ∧ IsD (cg X) F x d ∧ Q (.bl (isiX T d)) H) := by
  intro pins s σ H xs us Q I r h
  obtain ⟨x, d, F, rfl, sm, hd, q⟩ := h
  obtain ⟨u, w', rfl, ru, rw'⟩ := vals2 r
  cases (show w' = Value.type T from rw')
  obtain ⟨t, P, ty, Z, p, hx⟩ := kit_data O I sm hd ru
  exact PySem.W.kia_one Z I.kIn p (kitT_ans kk k ty) hx fun tk => ⟨.bl _, H, I.tok tk, rfl, q⟩
theorem ee_isiX {T : Str} {n : String} {ma : Mn D} (kk : kit8B n = true) (O : OwnOk X.K X.mg) (k : KitT X.K X.mg n) (hT : bootBuiltins T = some (.type n)) (gI : Gl X "isinstance") (mI : X.mg "isinstance" = none) (gT : Gl X T) (mT : X.mg T = none) (ha : EvD X a ma)
    (hn : T ≠ "__name__" := by decide) (hdb : (T == ("__debug__" : Str)) = false := by decide) (he : starEach [a, .Name T p2] X.env = (false, eval a X.env) :: starEach [.Name T p2] X.env := by rfl) (hpl : (backTo pos (starEach [.Name T p2] X.env)).any (·.1) = false := by rfl) :
    EvE X (.Call (.Name "isinstance" p) [a, .Name T p2] [] pos) (isiXM n ma) := fun B tk => by
  refine PE.mono (pe_callB (id := "isinstance") (call_isiX O kk k) gI mI boot_isinstance (pa_cons (ha B tk) (pa_cons (pe_bltn gT mT hT (v := .ty n) rfl hn hdb) pa_nil rfl) he) (by decide) (by decide) he hpl) fun σ H Q ⟨F, env, r, env', R, hm, fin⟩ => ?_
  refine bindD R hm (fun dx env1 hk F1 H1 x R1 s1 ix => ?_) (exE fin)
  cases hk
  exact ⟨x, dx, F1, rfl, R1.sub, ix, FinE.mono fin s1 F1 H1 (.bl _) R1 (Same.refl _) (.bl _)⟩
end
end RW

set_option Elab.async false
set_option linter.all false
set_option maxRecDepth 100000
set_option maxHeartbeats 1000000
/-! RwEnds: code that goes on with slots of a kind, or returns something of a kind. -/
namespace RW
open PySem PySem.Spec PyProof.Rows L2

def Ends (Q : RV → Prop) (Pe : En → Prop) (x : Option (Out × En)) : Prop := (∃ env', x = some (.nx, env') ∧ Pe env') ∨ ∃ r env', x = some (.ret r, env') ∧ Q r
section
variable {Q : RV → Prop} {Pe P1 P2 : En → Prop} {o : Option RV} {m1 m2 m : Ms} {env : En}
theorem en_cm (h : Comes' o Pe (m env)) (k : ∀ r, o = some r → Q r) : Ends Q Pe (m env) := by
  cases o with
  | none => exact .inl h
  | some r => obtain ⟨e, h⟩ := h; exact .inr ⟨r, e, h, k r rfl⟩
theorem en_seq (h1 : Ends Q P1 (m1 env)) (h2 : ∀ env', P1 env' → Ends Q P2 (m2 env')) : Ends Q P2 (seqM m1 m2 env) := by
  rcases h1 with ⟨e, h, p⟩ | ⟨r, e, h, q⟩
  · have := h2 e p
    unfold seqM
    rw [h]
    exact this
  · exact .inr ⟨r, e, by unfold seqM; rw [h], q⟩
theorem en_nil (h : Pe env) : Ends Q Pe (nxM env) := .inl ⟨env, rfl, h⟩
theorem en_ret {k : Mn RV} {r : RV} {env' : En} (h : k env = some (.ok r, env')) (q : Q r) : Ends Q Pe (retM k env) := .inr ⟨r, env', by unfold retM thenS; rw [h], q⟩
theorem en_set {k : Mn RV} {r : RV} {i : Nat} {env1 env2 : En} (h : k env = some (.ok r, env1)) (p : putSl i (slOf r) env1 = some env2) (q : Pe env2) : Ends Q Pe (setM i k env) := by
  obtain ⟨e, h, p⟩ := cm_set h p q
  exact .inl ⟨e, h, p⟩
theorem en_drop {k : Mn RV} {r : RV} {env1 : En} (h : k env = some (.ok r, env1)) (p : Pe env1) : Ends Q Pe (dropM k env) := .inl ⟨env1, by unfold dropM thenS; rw [h]; rfl, p⟩
theorem en_if {t : Mn Bool} {a b : Ms} {c : Bool} {env1 : En} (h : t env = some (.ok c, env1)) (ha : c = true → Ends Q Pe (a env1)) (hb : c = false → Ends Q Pe (b env1)) : Ends Q Pe (ifM t a b env) := by
  have e : ifM t a b env = (if c then a else b) env1 := by unfold ifM thenS; rw [h]
  rw [e]
  cases c with
  | true => exact ha rfl
  | false => exact hb rfl
theorem en_imp (h : Ends Q P1 (m env)) (k : ∀ e, P1 e → P2 e) : Ends Q P2 (m env) := by
  rcases h with ⟨e, h, p⟩ | h
  · exact .inl ⟨e, h, k e p⟩
  · exact .inr h
theorem en_go {g : Bd} {body : Ms} {PI : List D → En → Prop} {all : List D} : ∀ {ds don : List D} {env : En}, all = don ++ ds → PI don env → (∀ don d rest env, all = don ++ d :: rest → PI don env → ∃ env1, g d env = some env1 ∧ Ends Q (PI (don ++ [d])) (body env1)) → Ends Q (PI all) (forGo g body ds env)
  | [], don, env, e, p, _ => .inl ⟨env, rfl, by rw [e, List.append_nil]; exact p⟩
  | d :: ds, don, env, e, p, h => by
    obtain ⟨env1, e1, q⟩ := h don d ds env e p
    rcases q with ⟨env2, e2, p2⟩ | ⟨r, env2, e2, q⟩
    · have ih := en_go (ds := ds) (don := don ++ [d]) (by rw [e]; simp) p2 h
      have e3 : forGo g body (d :: ds) env = forGo g body ds env2 := by rw [forGo, e1]; simp only; rw [e2]
      rw [e3]
      exact ih
    · exact .inr ⟨r, env2, by rw [forGo, e1]; simp only; rw [e2], q⟩
theorem en_for {src : Mn (List D)} {g : Bd} {body : Ms} {PI : List D → En → Prop} {ds : List D} {env1 : En} (hs : src env = some (.ok ds, env1)) (p : PI [] env1) (h : ∀ don d rest env, ds = don ++ d :: rest → PI don env → ∃ env1, g d env = some env1 ∧ Ends Q (PI (don ++ [d])) (body env1)) : Ends Q (PI ds) (forM' src g body env) := by
  have e : forM' src g body env = forGo g body ds env1 := by unfold forM' thenS; rw [hs]
  rw [e]
  exact en_go rfl p h
theorem den_en {k : Nat} {ds : List D} (h : Ends Q (fun _ => False) (m (ds.map .val ++ List.replicate k .no))) : ∃ r, denOf k m ds = some (.ok r) ∧ Q r := by
  rcases h with ⟨_, _, p⟩ | ⟨r, env', e, q⟩
  · exact p.elim
  · exact ⟨r, by unfold denOf; rw [e], q⟩
end
/-- as Slots, the first slot a list lent -/
def SlotsL (n : Nat) (ps : List D) (l : List (Nat × Sl)) (env : En) : Prop := env.length = n ∧ env[0]? = some (.lent ps) ∧ (∀ q ∈ l, env[q.1]? = some q.2) ∧ ∀ i : Nat, i ≠ 0 → isLent env[i]? = false
theorem SlotsL.at {n : Nat} {ps : List D} {l : List (Nat × Sl)} {env : En} (h : SlotsL n ps l env) {i : Nat} {s : Sl} (hm : (i, s) ∈ l) : env[i]? = some s := h.2.2.1 _ hm
theorem SlotsL.set {n : Nat} {ps : List D} {l : List (Nat × Sl)} {env : En} (h : SlotsL n ps l env) {i : Nat} {s : Sl} (hi : i < n) (h0 : i ≠ 0) (hs : isLent (some s) = false) : SlotsL n ps ((i, s) :: l.filter fun q => q.1 != i) (env.set i s) := by
  refine ⟨by rw [List.length_set]; exact h.1, ?_, ?_, ?_⟩
  · rw [List.getElem?_set_ne h0]
    exact h.2.1
  · intro q hq
    rcases List.mem_cons.mp hq with e | hq
    · rw [e]
      exact List.getElem?_set_self (by rw [h.1]; exact hi)
    · obtain ⟨h1, h2⟩ := List.mem_filter.mp hq
      have : q.1 ≠ i := by simpa using h2
      rw [List.getElem?_set_ne (Ne.symm this)]
      exact h.2.2.1 q h1
  · intro j hj0
    by_cases hj : j = i
    · subst hj
      rw [List.getElem?_set_self (by rw [h.1]; exact hi)]
      exact hs
    · rw [List.getElem?_set_ne (Ne.symm hj)]
      exact h.2.2.2 j hj0
theorem SlotsL.put {n : Nat} {ps : List D} {l : List (Nat × Sl)} {env : En} (h : SlotsL n ps l env) {i : Nat} {s : Sl} (hi : i < n) (h0 : i ≠ 0) (hs : isLent (some s) = false) : ∃ env', putSl i s env = some env' ∧ env' = env.set i s ∧ SlotsL n ps ((i, s) :: l.filter fun q => q.1 != i) env' := by
  refine ⟨env.set i s, ?_, rfl, h.set hi h0 hs⟩
  unfold putSl
  rw [if_pos (by rw [h.1]; exact hi), if_neg (by rw [h.2.2.2 i h0]; exact Bool.false_ne_true)]
theorem SlotsL.less {n : Nat} {ps : List D} {l l' : List (Nat × Sl)} {env : En} (h : SlotsL n ps l env) (k : ∀ q ∈ l', q ∈ l) : SlotsL n ps l' env := ⟨h.1, h.2.1, fun q hq => h.2.2.1 q (k q hq), h.2.2.2⟩
end RW

set_option Elab.async false
set_option linter.all false
set_option maxRecDepth 100000
set_option maxHeartbeats 1000000
/-! RwSlots: evaluations over slots, the laws' common steps. -/
namespace RW
open PySem PySem.Spec PyProof.Rows L2

theorem cmp_ok2 {g : D → D → Option RV} {ma mb : Mn D} {x y : D} {b : Bool} {env env1 env2 : En} (h1 : ma env = some (.ok x, env1)) (h2 : mb env1 = some (.ok y, env2)) (hg : g x y = some (.val (.bl b))) : cmpT g ma mb env = some (.ok b, env2) := by simp [cmpT, op2, Mn.bind, h1, h2, Mn.lift, hg, boolOf]
theorem app_ok {i : Nat} {m : Mn (List D)} {env : En} {d : D} {ds : List D} (h0 : env[i]? = some (.own ds)) (h : m env = some (.ok [d], env)) (hl : ds.length < 1000) : appM i m env = some (.ok (.val .non), env.set i (.own (ds ++ [d]))) := by
  have : ds.length < sizeLine := by rw [sizeLine_eq]; omega
  unfold appM hasO Mn.bind
  rw [h0]
  simp only [ownOf, Option.isSome_some, if_true, h, h0, Option.bind_some, this, putO, reSl]
theorem seq_nx {m1 m2 : Ms} {env env1 : En} (h : m1 env = some (.nx, env1)) : seqM m1 m2 env = m2 env1 := by unfold seqM; rw [h]
theorem seq_ret {m1 m2 : Ms} {env env1 : En} {r : RV} (h : m1 env = some (.ret r, env1)) : seqM m1 m2 env = some (.ret r, env1) := by unfold seqM; rw [h]
theorem op_ok2 {g : D → D → Option RV} {ma mb : Mn D} {x y : D} {r : RV} {env env1 env2 : En} (h1 : ma env = some (.ok x, env1)) (h2 : mb env1 = some (.ok y, env2)) (hg : g x y = some r) : op2 g ma mb env = some (.ok r, env2) := by simp [op2, Mn.bind, h1, h2, Mn.lift, hg]
theorem den_nx {Pe : En → Prop} {k : Nat} {m : Ms} {ds : List D} (h : Comes' none Pe (m (ds.map .val ++ List.replicate k .no))) : denOf k m ds = some (.ok (.val .non)) := by
  obtain ⟨env', e, _⟩ := h
  unfold denOf
  rw [e]
theorem cm_drop {Pe : En → Prop} {m : Mn RV} {env env1 : En} {r : RV} (h : m env = some (.ok r, env1)) (p : Pe env1) : Comes' none Pe (dropM m env) := ⟨env1, by unfold dropM thenS; rw [h]; rfl, p⟩
theorem isi_ok {T : String} {m : Mn D} {env env' : En} {d : D} {n : String} (h : m env = some (.ok d, env')) (hn : tyName d = some n) : isiM T m env = some (.ok (.val (.bl (isiN n T))), env') := by simp [isiM, Mn.bind, h, Mn.lift, isiV, hn]
theorem rng1_ok {m : Mn (List D)} {env env' : En} {n : Nat} (h : m env = some (.ok [.int n], env')) (hn : n < 2 ^ 60) : rng1M m env = some (.ok (rngD 0 n), env') := by
  unfold rng1M Mn.bind
  rw [h]
  simp only
  rw [if_pos (by omega)]
  rfl
def okS (s : Sl) : Bool := s.flat && !isLent (some s)
def SF (n : Nat) (l : List (Nat × Sl)) (env : En) : Prop := Slots n l env ∧ env.all Sl.flat = true
theorem SF.at {n : Nat} {l : List (Nat × Sl)} {env : En} (h : SF n l env) {i : Nat} {s : Sl} (hm : (i, s) ∈ l) : env[i]? = some s := h.1.at hm
theorem SF.less {n : Nat} {l l' : List (Nat × Sl)} {env : En} (h : SF n l env) (k : ∀ q ∈ l', q ∈ l) : SF n l' env := ⟨h.1.less k, h.2⟩
theorem flat_set {env : En} {i : Nat} {s : Sl} (h : env.all Sl.flat = true) (hs : s.flat = true) : (env.set i s).all Sl.flat = true := by
  rw [List.all_eq_true] at h ⊢
  intro x hx
  rcases List.mem_or_eq_of_mem_set hx with h1 | h1
  · exact h x h1
  · rw [h1]; exact hs
theorem SF.put {n : Nat} {l : List (Nat × Sl)} {env : En} (h : SF n l env) {i : Nat} {s : Sl} (hi : i < n) (hs : okS s = true) : ∃ env', putSl i s env = some env' ∧ env' = env.set i s ∧ SF n ((i, s) :: l.filter fun q => q.1 != i) env' := by
  unfold okS at hs
  rw [Bool.and_eq_true, Bool.not_eq_true'] at hs
  obtain ⟨env', e1, e2, h2⟩ := h.1.put hi hs.2
  exact ⟨env', e1, e2, h2, by rw [e2]; exact flat_set h.2 hs.1⟩
theorem SF.set {n : Nat} {l : List (Nat × Sl)} {env : En} (h : SF n l env) {i : Nat} {s : Sl} (hi : i < n) (hs : okS s = true) : SF n ((i, s) :: l.filter fun q => q.1 != i) (env.set i s) := by
  obtain ⟨env', _, rfl, h2⟩ := h.put hi hs
  exact h2
theorem SF.flatBut {n : Nat} {l : List (Nat × Sl)} {env : En} (h : SF n l env) (i : Nat) : flatBut i env = true := flat_set h.2 rfl
theorem noL_all {ds : List D} (h : ∀ d ∈ ds, noLst d = true) : noLsts ds = true := by
  induction ds with
  | nil => rfl
  | cons d ds ih =>
    unfold noLsts
    rw [h d List.mem_cons_self, ih fun x hx => h x (List.mem_cons_of_mem _ hx)]
    rfl
theorem okS_own {ds : List D} (h : ∀ d ∈ ds, noLst d = true) : okS (.own ds) = true := by
  show (noLsts ds && !isLent (some (Sl.own ds))) = true
  rw [noL_all h]
  rfl
theorem okS_val {d : D} : okS (.val d) = true := rfl
theorem own_lv {i : Nat} {env : En} {ds : List D} (h : env[i]? = some (.own ds)) : lv i env = some (.ok (.lst ds), env.set i (.val (.lst ds))) := by
  unfold lv
  rw [h]
theorem putO_own {i : Nat} {env : En} {ds es : List D} (h : env[i]? = some (.own ds)) : putO i es env = env.set i (.own es) := by
  unfold putO
  rw [h]
  rfl
theorem callP_own {i : Nat} {den : DenP} {ma : Mn (List D)} {env env1 : En} {ps ps0 qs ds : List D} {r : Rs RV} (h0 : env[i]? = some (.own ps0)) (ha : ma env = some (.ok ds, env1)) (h1 : env1[i]? = some (.own ps)) (hd : den ps ds = some (r, qs)) : callP i den ma env = some (r, env1.set i (.own qs)) := by
  unfold callP hasO Mn.bind
  rw [h0]
  simp only [ownOf, Option.isSome_some, if_true, ha, h1, Option.bind_some, hd, Option.map_some]
  rw [putO_own h1]
theorem thT_ok {i : Nat} {m : Mn Bool} {env : En} {ds : List D} {b : Bool} (h0 : env[i]? = some (.own ds)) (fl : RW.flatBut i env = true) (h : m (env.set i (.val (.lst ds))) = some (.ok b, env.set i (.val (.lst ds)))) : thawT i m env = some (.ok b, env) := by
  unfold thawT
  rw [h0]
  simp only
  rw [h]
  simp only
  rw [if_pos ⟨trivial, fl⟩]
theorem thM_ok {i : Nat} {m : Mn RV} {env : En} {ds : List D} {d : D} (h0 : env[i]? = some (.own ds)) (fl : RW.flatBut i env = true) (hd : noLst d = true) (h : m (env.set i (.val (.lst ds))) = some (.ok (.val d), env.set i (.val (.lst ds)))) : thawM i m env = some (.ok (.val d), env) := by
  unfold thawM
  rw [h0]
  simp only
  rw [h]
  simp only
  rw [if_pos ⟨trivial, hd, fl⟩]
theorem e63 : -(2 ^ 63) = (-9223372036854775808 : Int) ∧ ((2 : Int) ^ 63) = 9223372036854775808 := ⟨rfl, rfl⟩
theorem pop_in {k : Nat} (hk : k < 1000) : -(2 ^ 63) ≤ (k : Int) ∧ (k : Int) < 2 ^ 63 := by
  rw [e63.1, e63.2]
  omega
theorem seq_ix {k n : Nat} (hl : k < n) : seqIndex? (k : Int) n = some k := by
  have h0 : ¬ ((k : Int) < 0) := by omega
  unfold seqIndex?
  simp only [h0, if_false]
  rw [if_pos (by simp [hl])]
  simp
theorem pop_ok {i k : Nat} {m : Mn (List D)} {env env1 : En} {ds ds0 : List D} {d : D} (h0 : env[i]? = some (.own ds0)) (h : m env = some (.ok [.int k], env1)) (h1 : env1[i]? = some (.own ds)) (hk : k < 1000) (hd : ds[k]? = some d) : popM i m env = some (.ok (.val d), env1.set i (.own (ds.eraseIdx k))) := by
  have hl : k < ds.length := (List.getElem?_eq_some_iff.mp hd).1
  have ho : hasO i env = true := by unfold hasO; rw [h0]; rfl
  have b : ((m.bind fun as env1 => (ownOf env1[i]?).bind fun ds => match as with
  | [.int k] => if -(2 ^ 63) ≤ k ∧ k < 2 ^ 63 then (seqIndex? k ds.length).bind fun j => (ds[j]?).map fun d => ((.ok (.val d) : Rs RV), putO i (ds.eraseIdx j) env1) else none
  | _ => none) env) = some (.ok (.val d), env1.set i (.own (ds.eraseIdx k))) := by
    unfold Mn.bind
    rw [h]
    show ((ownOf env1[i]?).bind fun ds => if -(2 ^ 63) ≤ (k : Int) ∧ (k : Int) < 2 ^ 63 then (seqIndex? k ds.length).bind fun j => (ds[j]?).map fun d => ((.ok (.val d) : Rs RV), putO i (ds.eraseIdx j) env1) else none) = _
    rw [h1, show ownOf (some (Sl.own ds)) = some ds from rfl, Option.bind_some, if_pos (pop_in hk), seq_ix hl, Option.bind_some, hd, Option.map_some, putO_own h1]
  unfold popM
  rw [if_pos ho]
  exact b
theorem set_get {env : En} {i : Nat} {s s0 : Sl} (h : env[i]? = some s0) : (env.set i s)[i]? = some s := List.getElem?_set_self (List.getElem?_eq_some_iff.mp h).1
theorem and_f {t u : Mn Bool} {e1 e2 : En} (h1 : t e1 = some (.ok false, e2)) : andM t u e1 = some (.ok false, e2) := by
  unfold andM Mn.bind
  rw [h1]
  rfl
theorem and_t {t u : Mn Bool} {e1 e2 e3 : En} {b : Bool} (h1 : t e1 = some (.ok true, e2)) (h2 : u e2 = some (.ok b, e3)) : andM t u e1 = some (.ok b, e3) := by
  unfold andM Mn.bind
  rw [h1]
  exact h2
theorem a_cons2 {m : Mn D} {mA : Mn (List D)} {d : D} {ds : List D} {env env1 env2 : En} (h : m env = some (.ok d, env1)) (ha : mA env1 = some (.ok ds, env2)) : (Mn.bind m fun d => Mn.bind mA fun ds => Mn.ret (d :: ds)) env = some (.ok (d :: ds), env2) := by simp [Mn.bind, h, ha, Mn.ret]
theorem slice_ok {m mb : Mn D} {x : D} {k : Int} {r : RV} {env env1 env2 : En} (h1 : m env = some (.ok x, env1)) (h2 : mb env1 = some (.ok (.int k), env2)) (hs : sliceV x none (some k) = some r) : sliceM m (Mn.ret none) (partM mb) env = some (.ok r, env2) := by simp [sliceM, partM, Mn.bind, h1, h2, Mn.lift, intOf, Mn.ret, hs]
theorem rng_mem {n : Nat} {d : D} (h : d ∈ rngD 0 n) : ∃ k : Nat, k < n ∧ d = .int k := by
  unfold rngD at h
  obtain ⟨k, hk, rfl⟩ := List.mem_map.mp h
  exact ⟨k, List.mem_range.mp hk, by simp⟩
theorem eqV_plain {x y : D} (hx : plain x = true) (hy : plain y = true) (dx : dep x ≤ 64) (dy : dep y ≤ 64) : eqV' x y = some (.val (.bl (decide (x = y)))) ∧ neV x y = some (.val (.bl (!decide (x = y)))) := by
  unfold eqV' neV
  rw [eqB_plain hx hy dx dy]
  exact ⟨rfl, rfl⟩
def chkV (r : Option (Rs RV)) (d : D) : Bool := match r with
  | some (.ok (.val e)) => decide (e = d)
  | _ => false
def chkN (r : Option (Rs RV)) (d : List D) : Bool := match r with
  | some (.ok (.new e)) => decide (e = d)
  | _ => false
theorem chkV_ok {r : Option (Rs RV)} {d : D} (h : chkV r d = true) : r = some (.ok (.val d)) := by
  unfold chkV at h
  split at h
  · rw [of_decide_eq_true h]
  · cases h
theorem chkN_ok {r : Option (Rs RV)} {d : List D} (h : chkN r d = true) : r = some (.ok (.new d)) := by
  unfold chkN at h
  split at h
  · rw [of_decide_eq_true h]
  · cases h
theorem cm_eq {Pe : En → Prop} {x : Option (Out × En)} {o o2 : Option RV} (h : Comes' o Pe x) (e : o = o2) : Comes' o2 Pe x := e ▸ h
end RW

set_option Elab.async false
set_option linter.all false
set_option maxRecDepth 100000
set_option maxHeartbeats 1000000
/-! RwIsort: a sort that computes. -/
namespace RW
open PySem PySem.Spec PyProof.Rows L2

def insD (x : D) : List D → List D
  | [] => [x]
  | y :: ys => if dle x y then x :: y :: ys else y :: insD x ys
def isort : List D → List D
  | [] => []
  | x :: xs => insD x (isort xs)
theorem insD_perm (x : D) : ∀ l : List D, (insD x l).Perm (x :: l)
  | [] => List.Perm.refl _
  | y :: ys => by
    unfold insD
    split
    · exact List.Perm.refl _
    · exact (List.Perm.cons y (insD_perm x ys)).trans (List.Perm.swap x y ys)
theorem isort_perm : ∀ l : List D, (isort l).Perm l
  | [] => List.Perm.refl _
  | x :: xs => (insD_perm x _).trans (List.Perm.cons x (isort_perm xs))
theorem insD_sorted (x : D) : ∀ l : List D, l.Pairwise (fun a b => dle a b = true) → (insD x l).Pairwise fun a b => dle a b = true
  | [], _ => by simp [insD]
  | y :: ys, h => by
    obtain ⟨h1, h2⟩ := List.pairwise_cons.mp h
    unfold insD
    split
    · rename_i hx
      refine List.pairwise_cons.mpr ⟨fun z hz => ?_, h⟩
      rcases List.mem_cons.mp hz with e | hz
      · rw [e]; exact hx
      · exact dle_trans _ _ _ hx (h1 z hz)
    · rename_i hx
      refine List.pairwise_cons.mpr ⟨fun z hz => ?_, insD_sorted x ys h2⟩
      rcases List.mem_cons.mp ((insD_perm x ys).mem_iff.mp hz) with e | hz
      · rw [e]
        have := dle_total x y
        simp only [hx, Bool.false_or] at this
        simpa using this
      · exact h1 z hz
theorem isort_sorted : ∀ l : List D, (isort l).Pairwise fun a b => dle a b = true
  | [] => List.Pairwise.nil
  | x :: xs => insD_sorted x _ (isort_sorted xs)
theorem isort_eq {l : List D} (h : isOrds l = true) : dsort l = isort l := (dsort_eq h (isort_perm l) (isort_sorted l)).symm
def sortedVi : List D → Option RV
  | [.lst ds] => if sortOk ds ∧ ds.length ≤ sizeLine then some (.new (isort ds)) else none
  | [.tup ds] => if sortOk ds ∧ ds.length ≤ sizeLine then some (.new (isort ds)) else none
  | [.set ds] => if sortOk ds ∧ ds.length ≤ sizeLine then some (.new (isort ds)) else none
  | _ => none
theorem sortedV_i : sortedV = sortedVi := by
  have key : ∀ ds : List D, (if sortOk ds = true ∧ ds.length ≤ sizeLine then some (RV.new (dsort ds)) else none) = (if sortOk ds = true ∧ ds.length ≤ sizeLine then some (RV.new (isort ds)) else none) := fun ds => by
    by_cases h : sortOk ds = true ∧ ds.length ≤ sizeLine
    · rw [if_pos h, if_pos h, isort_eq (sortOk_iff h.1).1]
    · rw [if_neg h, if_neg h]
  funext l
  match l with
  | [.lst ds] => exact key ds
  | [.tup ds] => exact key ds
  | [.set ds] => exact key ds
  | [] => rfl
  | [.non] => rfl
  | [.bl _] => rfl
  | [.int _] => rfl
  | [.str _] => rfl
  | [.dct _ _] => rfl
  | [.ins _ _] => rfl
  | _ :: _ :: _ => unfold sortedV sortedVi; split <;> simp_all


end RW

set_option Elab.async false
set_option linter.all false
set_option maxRecDepth 100000
set_option maxHeartbeats 1000000
/-! RwSlots2: slots none of which is lent or read from the caller; comprehensions over them. -/
namespace RW
open PySem PySem.Spec PyProof.Rows L2

def SN (n : Nat) (l : List (Nat × Sl)) (env : En) : Prop := Slots n l env ∧ env.all (fun s => !isRd s) = true
theorem SN.at {n : Nat} {l : List (Nat × Sl)} {env : En} (h : SN n l env) {i : Nat} {s : Sl} (hm : (i, s) ∈ l) : env[i]? = some s := h.1.at hm
theorem SN.less {n : Nat} {l l' : List (Nat × Sl)} {env : En} (h : SN n l env) (k : ∀ q ∈ l', q ∈ l) : SN n l' env := ⟨h.1.less k, h.2⟩
theorem rd_set {env : En} {i : Nat} {s : Sl} (h : env.all (fun s => !isRd s) = true) (hs : isRd s = false) : (env.set i s).all (fun s => !isRd s) = true := by
  rw [List.all_eq_true] at h ⊢
  intro x hx
  rcases List.mem_or_eq_of_mem_set hx with h1 | h1
  · exact h x h1
  · rw [h1, hs]; rfl
def okN (s : Sl) : Bool := !isRd s && !isLent (some s)
theorem SN.put {n : Nat} {l : List (Nat × Sl)} {env : En} (h : SN n l env) {i : Nat} {s : Sl} (hi : i < n) (hs : okN s = true) : ∃ env', putSl i s env = some env' ∧ env' = env.set i s ∧ SN n ((i, s) :: l.filter fun q => q.1 != i) env' := by
  unfold okN at hs
  rw [Bool.and_eq_true, Bool.not_eq_true', Bool.not_eq_true'] at hs
  obtain ⟨env', e1, e2, h2⟩ := h.1.put hi hs.2
  exact ⟨env', e1, e2, h2, by rw [e2]; exact rd_set h.2 hs.1⟩
theorem SN.set {n : Nat} {l : List (Nat × Sl)} {env : En} (h : SN n l env) {i : Nat} {s : Sl} (hi : i < n) (hs : okN s = true) : SN n ((i, s) :: l.filter fun q => q.1 != i) (env.set i s) := by
  obtain ⟨env', _, rfl, h2⟩ := h.put hi hs
  exact h2
theorem SN.lents {n : Nat} {l : List (Nat × Sl)} {env : En} (h : SN n l env) : lentsOf env = List.replicate n false := by
  refine List.ext_getElem? fun i => ?_
  unfold lentsOf
  rw [List.getElem?_map, List.getElem?_replicate]
  have e := h.1.2.2 i
  by_cases z : i < n
  · have z' : i < env.length := by rw [h.1.1]; exact z
    rw [if_pos z, List.getElem?_eq_getElem z'] 
    rw [List.getElem?_eq_getElem z'] at e
    simp [e]
  · rw [if_neg z, List.getElem?_eq_none (by rw [h.1.1]; omega)]
    rfl
theorem SN.chk {n : Nat} {l l' : List (Nat × Sl)} {env e : En} (h : SN n l env) (h' : SN n l' e) : chkE env e = true := by
  unfold chkE
  rw [h.lents, h'.lents, h'.2]
  simp
theorem SN.clr {n i : Nat} {l : List (Nat × Sl)} {env : En} (h : SN n l env) (hi : i < n) (hl : ∀ q ∈ l, q.1 ≠ i) : SN n l (clrE env [i]) := (h.set hi (s := .no) rfl).less fun q hq => List.mem_cons_of_mem _ (List.mem_filter.mpr ⟨hq, by simpa using hl q hq⟩)
theorem SN.noL {n i : Nat} {l : List (Nat × Sl)} {env : En} (h : SN n l env) : noLents env [i] = true := by
  unfold noLents
  simp [h.1.2.2 i]
/-- slots as a comprehension without changes sees them -/
theorem wipe_at {env : En} {i j : Nat} {d : D} (h : env[i]? = some (.val d)) (hij : i ≠ j) : (wipeE env [j])[i]? = some (.val d) := by
  unfold wipeE wipeE
  rw [List.getElem?_set_ne (Ne.symm hij), List.getElem?_map, h]
  rfl
theorem lc_ok1 {src : Mn (List D)} {g : Bd} {tt : Mn Bool} {te : Mn D} {own : List Nat} {ds l : List D} {env env1 : En} (h : src env = some (.ok ds, env1)) (hl : ds.length ≤ 1000) (hg : lcGo g tt te (wipeE env1 own) ds [] = some l) : lcM src g tt te own env = some (.ok (.new l), env1) := by
  have z : ds.length ≤ sizeLine := by rw [sizeLine_eq]; omega
  unfold lcM Mn.bind
  rw [h]
  simp only
  rw [if_pos z, hg]
  rfl
/-- each element told by f -/
theorem lc_map {g : Bd} {te : Mn D} {base : En} {f : D → D} : ∀ {ds acc : List D}, (∀ d ∈ ds, ∃ e1 e2, g d base = some e1 ∧ te e1 = some (.ok (f d), e2)) → lcGo g (Mn.ret true) te base ds acc = some (acc ++ ds.map f) := fun {ds acc} h => by
  have := lc_go (g := g) (tt := Mn.ret true) (te := te) (base := base) (p := fun _ => true) (f := f) (ds := ds) (acc := acc) fun d hd => by
    obtain ⟨e1, e2, h1, h2⟩ := h d hd
    exact ⟨e1, e1, h1, rfl, fun _ => ⟨e2, h2⟩⟩
  rwa [show ds.filter (fun _ => true) = ds from List.filter_eq_self.mpr fun _ _ => rfl] at this
theorem rep_ok {ma : Mn RV} {mb : Mn D} {ds : List D} {k : Nat} {env env1 env2 : En} (h1 : ma env = some (.ok (.new ds), env1)) (h2 : mb env1 = some (.ok (.int k), env2)) (hk : k ≤ 1000) (hl : ds.length ≤ 1000) : repM ma mb env = some (.ok (.new (List.replicate k ds).flatten), env2) := by
  have c : -(2 ^ 63) ≤ (k : Int) ∧ (k : Int) < 2 ^ 63 ∧ ds.length * (k : Int).toNat ≤ sizeLine := by
    rw [e63.1, e63.2, sizeLine_eq]
    refine ⟨by omega, by omega, ?_⟩
    rw [Int.toNat_natCast]
    exact Nat.le_trans (Nat.mul_le_mul hl hk) (by decide)
  unfold repM Mn.bind
  rw [h1]
  simp only
  rw [h2]
  simp only
  rw [if_pos c]
  rfl
end RW

set_option Elab.async false
set_option linter.all false
set_option maxRecDepth 100000
set_option maxHeartbeats 4000000
namespace RW
open PySem PySem.Spec PyProof.Rows L2
def d_LETTERS : D := .str "abcdefghijklmnopqrstuvwxyz"
def d_MOST_LETTERS : D := .int 8
def d_NOT : D := .str "not"
def d_KINDS : D := .tup [.str "any", .str "plain", .str "single"]
def top (i : Nat) : Stmt := PySem.Challenge.pw_ruleworlds_k27_what_sets_of_pairs_refuse.main.body.getD i (.Pass ⟨0, 0, 0, 0⟩)
structure Adr where
  is_name : Addr
  fd_is_name : FuncData
  is_world : Addr
  fd_is_world : FuncData
  is_within : Addr
  fd_is_within : FuncData
  is_pair : Addr
  fd_is_pair : FuncData
  require_world : Addr
  fd_require_world : FuncData
  common : Addr
  fd_common : FuncData
  require_pairs : Addr
  fd_require_pairs : FuncData
  by_there : Addr
  fd_by_there : FuncData
  upward : Addr
  fd_upward : FuncData
  meeting : Addr
  fd_meeting : FuncData
  why_barred : Addr
  fd_why_barred : FuncData
  barred : Addr
  fd_barred : FuncData
  program_of : Addr
  fd_program_of : FuncData
  _law_at : Addr
  fd__law_at : FuncData
  _law_mixed : Addr
  fd__law_mixed : FuncData
  _law_purse : Addr
  fd__law_purse : FuncData
  _law_draw : Addr
  fd__law_draw : FuncData
  _law_asked : Addr
  fd__law_asked : FuncData
  _law_items : Addr
  fd__law_items : FuncData
  _law_words : Addr
  fd__law_words : FuncData
  law : Addr
  fd_law : FuncData
  c_KINDS : Addr
  C_Barred : Addr
  C_InvalidKind : Addr
  C_InvalidPair : Addr
  C_InvalidWorld : Addr
  C_Program : Addr
  C_RuleError : Addr
structure Txt (P : Program) (w : World) (K : PySem.W.Frag) (mg : Str → Option Value) (A : Adr) : Prop where
  n_all : mg "all" = none
  n_int : mg "int" = none
  n_isinstance : mg "isinstance" = none
  n_len : mg "len" = none
  n_max : mg "max" = none
  n_min : mg "min" = none
  n_range : mg "range" = none
  n_set : mg "set" = none
  n_sorted : mg "sorted" = none
  n_str : mg "str" = none
  n_tuple : mg "tuple" = none
  n_zip : mg "zip" = none
  m_LETTERS : ∃ t, mg "LETTERS" = some (.str "abcdefghijklmnopqrstuvwxyz" t)
  m_MOST_LETTERS : ∃ t, mg "MOST_LETTERS" = some (.int 8 t)
  m_NOT : ∃ t, mg "NOT" = some (.str "not" t)
  m_KINDS : mg "KINDS" = some (.ref A.c_KINDS)
  v_KINDS : ∀ F, IsD ⟨K, mg, P, w⟩ F (.ref A.c_KINDS) d_KINDS
  own : OwnOk K mg
  kt_str : KitT K mg "str"
  kt_tuple : KitT K mg "tuple"
  nn_thing : NoName K mg "thing"
  nn_value : NoName K mg "value"
  kc_Barred : KitC K mg "Barred" A.C_Barred
  kc_InvalidKind : KitC K mg "InvalidKind" A.C_InvalidKind
  kc_InvalidPair : KitC K mg "InvalidPair" A.C_InvalidPair
  kc_InvalidWorld : KitC K mg "InvalidWorld" A.C_InvalidWorld
  kc_Program : KitC K mg "Program" A.C_Program
  cm_RuleError : mg "RuleError" = some (.ref A.C_RuleError)
  ck_RuleError : CatchOk K mg "RuleError" (.ref A.C_RuleError)
  x_Barred : XBase K mg "Barred"
  x_InvalidKind : XBase K mg "InvalidKind"
  x_InvalidPair : XBase K mg "InvalidPair"
  x_InvalidWorld : XBase K mg "InvalidWorld"
  f_is_name : Fun K "is_name" "is_name" (top 14) A.is_name A.fd_is_name
  g_is_name : mg "is_name" = some (.ref A.is_name)
  k_is_name : PySem.W.keepIn K (.ref A.is_name) = true
  b_is_name : Binds K A.fd_is_name ["thing"] []
  f_is_world : Fun K "is_world" "is_world" (top 15) A.is_world A.fd_is_world
  g_is_world : mg "is_world" = some (.ref A.is_world)
  k_is_world : PySem.W.keepIn K (.ref A.is_world) = true
  b_is_world : Binds K A.fd_is_world ["thing"] []
  f_is_within : Fun K "is_within" "is_within" (top 24) A.is_within A.fd_is_within
  g_is_within : mg "is_within" = some (.ref A.is_within)
  k_is_within : PySem.W.keepIn K (.ref A.is_within) = true
  b_is_within : Binds K A.fd_is_within ["one", "other"] []
  f_is_pair : Fun K "is_pair" "is_pair" (top 23) A.is_pair A.fd_is_pair
  g_is_pair : mg "is_pair" = some (.ref A.is_pair)
  k_is_pair : PySem.W.keepIn K (.ref A.is_pair) = true
  b_is_pair : Binds K A.fd_is_pair ["thing"] []
  f_require_world : Fun K "require_world" "require_world" (top 25) A.require_world A.fd_require_world
  g_require_world : mg "require_world" = some (.ref A.require_world)
  k_require_world : PySem.W.keepIn K (.ref A.require_world) = true
  b_require_world : Binds K A.fd_require_world ["thing"] []
  f_common : Fun K "common" "common" (top 29) A.common A.fd_common
  g_common : mg "common" = some (.ref A.common)
  k_common : PySem.W.keepIn K (.ref A.common) = true
  b_common : Binds K A.fd_common ["one", "other"] []
  f_require_pairs : Fun K "require_pairs" "require_pairs" (top 31) A.require_pairs A.fd_require_pairs
  g_require_pairs : mg "require_pairs" = some (.ref A.require_pairs)
  k_require_pairs : PySem.W.keepIn K (.ref A.require_pairs) = true
  b_require_pairs : Binds K A.fd_require_pairs ["pairs", "names", "kind"] []
  f_by_there : Fun K "by_there" "by_there" (top 32) A.by_there A.fd_by_there
  g_by_there : mg "by_there" = some (.ref A.by_there)
  k_by_there : PySem.W.keepIn K (.ref A.by_there) = true
  b_by_there : Binds K A.fd_by_there ["rows"] []
  f_upward : Fun K "upward" "upward" (top 33) A.upward A.fd_upward
  g_upward : mg "upward" = some (.ref A.upward)
  k_upward : PySem.W.keepIn K (.ref A.upward) = true
  b_upward : Binds K A.fd_upward ["rows"] []
  f_meeting : Fun K "meeting" "meeting" (top 34) A.meeting A.fd_meeting
  g_meeting : mg "meeting" = some (.ref A.meeting)
  k_meeting : PySem.W.keepIn K (.ref A.meeting) = true
  b_meeting : Binds K A.fd_meeting ["rows"] []
  f_why_barred : Fun K "why_barred" "why_barred" (top 35) A.why_barred A.fd_why_barred
  g_why_barred : mg "why_barred" = some (.ref A.why_barred)
  k_why_barred : PySem.W.keepIn K (.ref A.why_barred) = true
  b_why_barred : Binds K A.fd_why_barred ["rows", "kind"] []
  f_barred : FunD K "barred" "barred" (defArgs (top 36)) (defBody (top 36)) (defScope (top 36)) [.str "any"] [] A.barred A.fd_barred
  g_barred : mg "barred" = some (.ref A.barred)
  k_barred : PySem.W.keepIn K (.ref A.barred) = true
  f_program_of : FunD K "program_of" "program_of" (defArgs (top 38)) (defBody (top 38)) (defScope (top 38)) [.str "any"] [] A.program_of A.fd_program_of
  g_program_of : mg "program_of" = some (.ref A.program_of)
  k_program_of : PySem.W.keepIn K (.ref A.program_of) = true
  f__law_at : Fun K "_law_at" "_law_at" (top 40) A._law_at A.fd__law_at
  g__law_at : mg "_law_at" = some (.ref A._law_at)
  k__law_at : PySem.W.keepIn K (.ref A._law_at) = true
  b__law_at : Binds K A.fd__law_at ["script", "k"] []
  f__law_mixed : Fun K "_law_mixed" "_law_mixed" (top 41) A._law_mixed A.fd__law_mixed
  g__law_mixed : mg "_law_mixed" = some (.ref A._law_mixed)
  k__law_mixed : PySem.W.keepIn K (.ref A._law_mixed) = true
  b__law_mixed : Binds K A.fd__law_mixed ["cell", "k"] []
  f__law_purse : Fun K "_law_purse" "_law_purse" (top 42) A._law_purse A.fd__law_purse
  g__law_purse : mg "_law_purse" = some (.ref A._law_purse)
  k__law_purse : PySem.W.keepIn K (.ref A._law_purse) = true
  b__law_purse : Binds K A.fd__law_purse ["script", "at"] []
  f__law_draw : Fun K "_law_draw" "_law_draw" (top 43) A._law_draw A.fd__law_draw
  g__law_draw : mg "_law_draw" = some (.ref A._law_draw)
  k__law_draw : PySem.W.keepIn K (.ref A._law_draw) = true
  b__law_draw : Binds K A.fd__law_draw ["purse", "out_of"] []
  f__law_asked : Fun K "_law_asked" "_law_asked" (top 44) A._law_asked A.fd__law_asked
  g__law_asked : mg "_law_asked" = some (.ref A._law_asked)
  k__law_asked : PySem.W.keepIn K (.ref A._law_asked) = true
  b__law_asked : Binds K A.fd__law_asked ["way", "rows", "some", "word"] []
  f__law_items : Fun K "_law_items" "_law_items" (top 45) A._law_items A.fd__law_items
  g__law_items : mg "_law_items" = some (.ref A._law_items)
  k__law_items : PySem.W.keepIn K (.ref A._law_items) = true
  b__law_items : Binds K A.fd__law_items [] []
  f__law_words : Fun K "_law_words" "_law_words" (top 46) A._law_words A.fd__law_words
  g__law_words : mg "_law_words" = some (.ref A._law_words)
  k__law_words : PySem.W.keepIn K (.ref A._law_words) = true
  b__law_words : Binds K A.fd__law_words [] []
  f_law : Fun K "law" "law" (top 47) A.law A.fd_law
  g_law : mg "law" = some (.ref A.law)
  k_law : PySem.W.keepIn K (.ref A.law) = true
  b_law : Binds K A.fd_law ["script"] []
section
variable {P : Program} {w : World} {K : PySem.W.Frag} {mg : Str → Option Value} {base : Heap} {A : Adr}
theorem k_LETTERS {X : Cx} {pos : Pos} (T : Txt X.prog X.w X.K X.mg A) (hg : Gl X "LETTERS" := by rfl) : EvD X (.Name "LETTERS" pos) (Mn.ret d_LETTERS) := by
  obtain ⟨t, h⟩ := T.m_LETTERS
  exact ed_glob (v := .str "abcdefghijklmnopqrstuvwxyz") hg h ⟨t, rfl⟩ fun F => .str _
theorem k_MOST_LETTERS {X : Cx} {pos : Pos} (T : Txt X.prog X.w X.K X.mg A) (hg : Gl X "MOST_LETTERS" := by rfl) : EvD X (.Name "MOST_LETTERS" pos) (Mn.ret d_MOST_LETTERS) := by
  obtain ⟨t, h⟩ := T.m_MOST_LETTERS
  exact ed_glob (v := .int 8) hg h ⟨t, rfl⟩ fun F => .int _
theorem k_NOT {X : Cx} {pos : Pos} (T : Txt X.prog X.w X.K X.mg A) (hg : Gl X "NOT" := by rfl) : EvD X (.Name "NOT" pos) (Mn.ret d_NOT) := by
  obtain ⟨t, h⟩ := T.m_NOT
  exact ed_glob (v := .str "not") hg h ⟨t, rfl⟩ fun F => .str _
theorem k_KINDS {X : Cx} {pos : Pos} (T : Txt X.prog X.w X.K X.mg A) (hg : Gl X "KINDS" := by rfl) : EvD X (.Name "KINDS" pos) (Mn.ret d_KINDS) := ed_glob (v := .ref A.c_KINDS) hg T.m_KINDS rfl T.v_KINDS
theorem kb_program_of_1_names_kind (T : Txt P w K mg A) : ∃ its : List Value, KBn K A.fd_program_of ["pairs", "names", "kind"] 1 ["names", "kind"] (fun us ws => us ++ (ws ++ its.drop 1)) (fun vs zs => vs ++ (zs ++ List.drop 1 ([.str "any"] : List V))) :=
  T.f_program_of.kbindsD 1 ["names", "kind"] (fun us its ws => us ++ (ws ++ its.drop 1)) (by simp) (fun r1 r2 r3 => r1.append (r3.append (r2.drop 1))) fun _ _ _ _ _ _ _ us its ws h1 h2 h3 => match us, its, ws, h1, h2, h3 with | [_], [_], [_, _], _, _, _ => ⟨_, rfl, rfl⟩
theorem bbf_barred (T : Txt P w K mg A) : Binds K A.fd_barred ["pairs", "names", "kind"] [] := by
  obtain ⟨ds, h1, h2⟩ := T.f_barred.binds1 (ps := ["pairs", "names", "kind"]) 3 1 (by simp) rfl fun _ _ _ _ _ _ _ us its h1 h2 => match us, its, h1, h2 with | [_, _, _], [_], _, _ => ⟨_, rfl, rfl⟩
  cases h1
  exact h2
theorem bbf_program_of (T : Txt P w K mg A) : Binds K A.fd_program_of ["pairs", "names", "kind"] [] := by
  obtain ⟨ds, h1, h2⟩ := T.f_program_of.binds1 (ps := ["pairs", "names", "kind"]) 3 1 (by simp) rfl fun _ _ _ _ _ _ _ us its h1 h2 => match us, its, h1, h2 with | [_, _, _], [_], _, _ => ⟨_, rfl, rfl⟩
  cases h1
  exact h2
/-! is_name -/
abbrev s_is_name : Stmt := top 14
theorem sc_is_name : FnScope ["thing", "sign"] ["thing"] (defScope s_is_name) := ⟨rfl, rfl, rfl, by decide +kernel, rfl, by decide +kernel, by decide +kernel⟩
def m_is_name : Ms := (seqM (ifM (orM (notM (tstM (isiXM "str" (lv 0)))) (orM (notM (tstM (chainM leV leV (Mn.ret (D.int 1)) (Mn.fr (call1 lenV (Mn.bind (lv 0) fun d => Mn.bind (Mn.ret []) fun ds => Mn.ret (d :: ds)))) (Mn.ret d_MOST_LETTERS)))) (cmpT eqVX (lv 0) (Mn.ret d_NOT)))) (seqM (retM (Mn.val (Mn.ret (D.bl false))))
    nxM) nxM)
    (seqM (retM (call1 allV (Mn.bind (Mn.fr (lcM (walkM (lv 0)) (gN 1) (Mn.ret true) (Mn.fr (op2 inV2 (lv 1) (Mn.ret d_LETTERS))) [1])) fun d => Mn.bind (Mn.ret []) fun ds => Mn.ret (d :: ds))))
    nxM))
def den_is_name : Den := denOf 1 m_is_name
theorem ok_is_name (T : Txt P w K mg A) : FnOk P w K mg base (L2.CX P w) 1 A.is_name A.fd_is_name ["thing"] (SpD ⟨K, mg, P, w⟩ 1 den_is_name) :=
  fn_data T.f_is_name sc_is_name fun cdv Ar outer s H E hr =>
    have hN := sc_is_name.nd
    show EvSs _ _ m_is_name from
      (es_cons (es_if (EvW.t (et_or (et_not (tCall (ee_isiX (n := "str") kit8_str T.own T.kt_str rfl rfl T.n_isinstance rfl T.n_str (dv 0)))) (et_or (et_not (tLeLe ed_int (EvE.fr (cLen T.n_len (ea_cons (dv 0) ea_nil))) (k_MOST_LETTERS T))) (et_or1 (tEqX hr (dv 0) (k_NOT T)))))) (es_cons (es_ret (EvD.val ed_bl))
      es_nil) es_nil)
      (es_cons (es_ret (cAll T.n_all (ea_cons (EvE.fr (ee_lc rfl hN (own := [("sign", 1)]) (ei_any (dv 0)) (blkOk_by (by show blkC ["thing", "sign"] (defScope s_is_name) _ _ = true; decide +kernel)) (fun _ _ _ _ _ => (gv 1 hN)) (fun _ _ _ _ _ => ets_nil) (fun _ _ _ _ _ => (EvE.fr (eIn2 hr (dv 1) (k_LETTERS T)))) (by decide))) ea_nil)))
      es_nil))
/-! is_world -/
abbrev s_is_world : Stmt := top 15
theorem sc_is_world : FnScope ["thing", "one", "other", "name"] ["thing"] (defScope s_is_world) := ⟨rfl, rfl, rfl, by decide +kernel, rfl, by decide +kernel, by decide +kernel⟩
def m_is_world : Ms := (seqM (ifM (orM (notM (tstM (isiXM "tuple" (lv 0)))) (notM (tstM (call1 allV (Mn.bind (Mn.fr (lcM (walkM (lv 0)) (gN 3) (Mn.ret true) (Mn.fr (callM den_is_name [] (Mn.bind (lv 3) fun d => Mn.bind (Mn.ret []) fun ds => Mn.ret (d :: ds)))) [3])) fun d => Mn.bind (Mn.ret []) fun ds => Mn.ret (d :: ds)))))) (seqM (retM (Mn.val (Mn.ret (D.bl false))))
    nxM) nxM)
    (seqM (retM (call1 allV (Mn.bind (Mn.fr (lcM (zipM (Mn.bind (lv 0) fun d => Mn.bind (Mn.bind (Mn.fr (sliceM (lv 0) (partM (Mn.ret (D.int 1))) (Mn.ret none))) fun d => Mn.bind (Mn.ret []) fun ds => Mn.ret (d :: ds)) fun ds => Mn.ret (d :: ds))) (gTp 2 (gCn (gN 1) (gCn (gN 2) gNl))) (Mn.ret true) (Mn.fr (op2 ltV (lv 1) (lv 2))) [1, 2])) fun d => Mn.bind (Mn.ret []) fun ds => Mn.ret (d :: ds))))
    nxM))
def den_is_world : Den := denOf 3 m_is_world
theorem ok_is_world (T : Txt P w K mg A) : FnOk P w K mg base (L2.CX P w) 2 A.is_world A.fd_is_world ["thing"] (SpD ⟨K, mg, P, w⟩ 1 den_is_world) :=
  fn_data T.f_is_world sc_is_world fun cdv Ar outer s H E hr =>
    have hN := sc_is_world.nd
    show EvSs _ _ m_is_world from
      (es_cons (es_if (EvW.t (et_or (et_not (tCall (ee_isiX (n := "tuple") kit8_tuple T.own T.kt_tuple rfl rfl T.n_isinstance rfl T.n_tuple (dv 0)))) (et_or1 (et_not (tCall (cAll T.n_all (ea_cons (EvE.fr (ee_lc rfl hN (own := [("name", 3)]) (ei_any (dv 0)) (blkOk_by (by show blkC ["thing", "one", "other", "name"] (defScope s_is_world) _ _ = true; decide +kernel)) (fun _ _ _ _ _ => (gv 3 hN)) (fun _ _ _ _ _ => ets_nil) (fun _ _ _ _ _ => (EvE.fr (ee_call (dd := []) (ok_is_name T) (hr.mono (by decide)) rfl T.g_is_name T.k_is_name T.b_is_name .nil (fun _ => .nil) (ea_cons (dv 3) ea_nil) (fun a b c h => by rw [List.append_nil, (la_cons la_nil) a b c h])))) (by decide))) ea_nil))))))) (es_cons (es_ret (EvD.val ed_bl))
      es_nil) es_nil)
      (es_cons (es_ret (cAll T.n_all (ea_cons (EvE.fr (ee_lc rfl hN (own := [("one", 1), ("other", 2)]) (ei_zip rfl T.n_zip (ea_cons (dv 0) (ea_cons (EvE.fr (ee_slice (dv 0) (eo_some ed_int) eo_none)) ea_nil))) (blkOk_by (by show blkC ["thing", "one", "other", "name"] (defScope s_is_world) _ _ = true; decide +kernel)) (fun _ _ _ _ _ => (eg_tup rfl (egs_cons (gv 1 hN) (egs_cons (gv 2 hN) egs_nil)))) (fun _ _ _ _ _ => ets_nil) (fun _ _ _ _ _ => (EvE.fr (eLt (dv 1) (dv 2)))) (by decide))) ea_nil)))
      es_nil))
/-! is_within -/
abbrev s_is_within : Stmt := top 24
theorem sc_is_within : FnScope ["one", "other", "name"] ["one", "other"] (defScope s_is_within) := ⟨rfl, rfl, rfl, by decide +kernel, rfl, by decide +kernel, by decide +kernel⟩
def m_is_within : Ms := (seqM (retM (call1 allV (Mn.bind (Mn.fr (lcM (walkM (lv 0)) (gN 2) (Mn.ret true) (Mn.fr (op2 inV2 (lv 2) (lv 1))) [2])) fun d => Mn.bind (Mn.ret []) fun ds => Mn.ret (d :: ds))))
    nxM)
def den_is_within : Den := denOf 1 m_is_within
theorem ok_is_within (T : Txt P w K mg A) : FnOk P w K mg base (L2.CX P w) 1 A.is_within A.fd_is_within ["one", "other"] (SpD ⟨K, mg, P, w⟩ 2 den_is_within) :=
  fn_data T.f_is_within sc_is_within fun cdv Ar outer s H E hr =>
    have hN := sc_is_within.nd
    show EvSs _ _ m_is_within from
      (es_cons (es_ret (cAll T.n_all (ea_cons (EvE.fr (ee_lc rfl hN (own := [("name", 2)]) (ei_any (dv 0)) (blkOk_by (by show blkC ["one", "other", "name"] (defScope s_is_within) _ _ = true; decide +kernel)) (fun _ _ _ _ _ => (gv 2 hN)) (fun _ _ _ _ _ => ets_nil) (fun _ _ _ _ _ => (EvE.fr (eIn2 hr (dv 2) (dv 1)))) (by decide))) ea_nil)))
      es_nil)
/-! is_pair -/
abbrev s_is_pair : Stmt := top 23
theorem sc_is_pair : FnScope ["thing"] ["thing"] (defScope s_is_pair) := ⟨rfl, rfl, rfl, by decide +kernel, rfl, by decide +kernel, by decide +kernel⟩
def m_is_pair : Ms := (seqM (ifM (orM (notM (tstM (isiXM "tuple" (lv 0)))) (orM (cmpT neVX (Mn.fr (call1 lenV (Mn.bind (lv 0) fun d => Mn.bind (Mn.ret []) fun ds => Mn.ret (d :: ds)))) (Mn.ret (D.int 2))) (orM (notM (tstM (callM den_is_world [] (Mn.bind (Mn.fr (op2 ixV2 (lv 0) (Mn.ret (D.int 0)))) fun d => Mn.bind (Mn.ret []) fun ds => Mn.ret (d :: ds))))) (notM (tstM (callM den_is_world [] (Mn.bind (Mn.fr (op2 ixV2 (lv 0) (Mn.ret (D.int 1)))) fun d => Mn.bind (Mn.ret []) fun ds => Mn.ret (d :: ds)))))))) (seqM (retM (Mn.val (Mn.ret (D.bl false))))
    nxM) nxM)
    (seqM (retM (callM den_is_within [] (Mn.bind (Mn.fr (op2 ixV2 (lv 0) (Mn.ret (D.int 0)))) fun d => Mn.bind (Mn.bind (Mn.fr (op2 ixV2 (lv 0) (Mn.ret (D.int 1)))) fun d => Mn.bind (Mn.ret []) fun ds => Mn.ret (d :: ds)) fun ds => Mn.ret (d :: ds))))
    nxM))
def den_is_pair : Den := denOf 0 m_is_pair
theorem ok_is_pair (T : Txt P w K mg A) : FnOk P w K mg base (L2.CX P w) 3 A.is_pair A.fd_is_pair ["thing"] (SpD ⟨K, mg, P, w⟩ 1 den_is_pair) :=
  fn_data T.f_is_pair sc_is_pair fun cdv Ar outer s H E hr =>
    have hN := sc_is_pair.nd
    show EvSs _ _ m_is_pair from
      (es_cons (es_if (EvW.t (et_or (et_not (tCall (ee_isiX (n := "tuple") kit8_tuple T.own T.kt_tuple rfl rfl T.n_isinstance rfl T.n_tuple (dv 0)))) (et_or (tNeX hr (EvE.fr (cLen T.n_len (ea_cons (dv 0) ea_nil))) ed_int) (et_or (et_not (tCall (ee_call (dd := []) (ok_is_world T) (hr.mono (by decide)) rfl T.g_is_world T.k_is_world T.b_is_world .nil (fun _ => .nil) (ea_cons (EvE.fr (ee_ix2 hr (dv 0) ed_int (fun _ _ => rfl))) ea_nil) (fun a b c h => by rw [List.append_nil, (la_cons la_nil) a b c h])))) (et_or1 (et_not (tCall (ee_call (dd := []) (ok_is_world T) (hr.mono (by decide)) rfl T.g_is_world T.k_is_world T.b_is_world .nil (fun _ => .nil) (ea_cons (EvE.fr (ee_ix2 hr (dv 0) ed_int (fun _ _ => rfl))) ea_nil) (fun a b c h => by rw [List.append_nil, (la_cons la_nil) a b c h]))))))))) (es_cons (es_ret (EvD.val ed_bl))
      es_nil) es_nil)
      (es_cons (es_ret (ee_call (dd := []) (ok_is_within T) (hr.mono (by decide)) rfl T.g_is_within T.k_is_within T.b_is_within .nil (fun _ => .nil) (ea_cons (EvE.fr (ee_ix2 hr (dv 0) ed_int (fun _ _ => rfl))) (ea_cons (EvE.fr (ee_ix2 hr (dv 0) ed_int (fun _ _ => rfl))) ea_nil)) (fun a b c h => by rw [List.append_nil, (la_cons (la_cons la_nil)) a b c h])))
      es_nil))
/-! require_world -/
abbrev s_require_world : Stmt := top 25
theorem sc_require_world : FnScope ["thing"] ["thing"] (defScope s_require_world) := ⟨rfl, rfl, rfl, by decide +kernel, rfl, by decide +kernel, by decide +kernel⟩
def m_require_world : Ms := (seqM (ifM (notM (tstM (callM den_is_world [] (Mn.bind (lv 0) fun d => Mn.bind (Mn.ret []) fun ds => Mn.ret (d :: ds))))) (seqM (raiseM "InvalidWorld" (lv 0))
    nxM) nxM)
    nxM)
def den_require_world : Den := denOf 0 m_require_world
theorem ok_require_world (T : Txt P w K mg A) : FnOk P w K mg base (L2.CX P w) 3 A.require_world A.fd_require_world ["thing"] (SpD ⟨K, mg, P, w⟩ 1 den_require_world) :=
  fn_data T.f_require_world sc_require_world fun cdv Ar outer s H E hr =>
    have hN := sc_require_world.nd
    show EvSs _ _ m_require_world from
      (es_cons (es_if (et_not (tCall (ee_call (dd := []) (ok_is_world T) (hr.mono (by decide)) rfl T.g_is_world T.k_is_world T.b_is_world .nil (fun _ => .nil) (ea_cons (dv 0) ea_nil) (fun a b c h => by rw [List.append_nil, (la_cons la_nil) a b c h])))) (es_cons (es_raise rfl T.x_InvalidWorld.facts (hr.mono (by decide)) rfl (dv 0))
      es_nil) es_nil)
      es_nil)
/-! common -/
abbrev s_common : Stmt := top 29
theorem sc_common : FnScope ["one", "other", "name"] ["one", "other"] (defScope s_common) := ⟨rfl, rfl, rfl, by decide +kernel, rfl, by decide +kernel, by decide +kernel⟩
def m_common : Ms := (seqM (retM (call1 tupleV (Mn.bind (Mn.fr (lcM (walkM (lv 0)) (gN 2) (cmpT inV2 (lv 2) (lv 1)) (lv 2) [2])) fun d => Mn.bind (Mn.ret []) fun ds => Mn.ret (d :: ds))))
    nxM)
def den_common : Den := denOf 1 m_common
theorem ok_common (T : Txt P w K mg A) : FnOk P w K mg base (L2.CX P w) 1 A.common A.fd_common ["one", "other"] (SpD ⟨K, mg, P, w⟩ 2 den_common) :=
  fn_data T.f_common sc_common fun cdv Ar outer s H E hr =>
    have hN := sc_common.nd
    show EvSs _ _ m_common from
      (es_cons (es_ret (cTuple T.n_tuple (ea_cons (EvE.fr (ee_lc rfl hN (own := [("name", 2)]) (ei_any (dv 0)) (blkOk_by (by show blkC ["one", "other", "name"] (defScope s_common) _ _ = true; decide +kernel)) (fun _ _ _ _ _ => (gv 2 hN)) (fun _ _ _ _ _ => (ets_one (tIn2 hr (dv 2) (dv 1)))) (fun _ _ _ _ _ => (dv 2)) (by decide))) ea_nil)))
      es_nil)
/-! require_pairs -/
abbrev s_require_pairs : Stmt := top 31
theorem sc_require_pairs : FnScope ["pairs", "names", "kind", "thing"] ["pairs", "names", "kind"] (defScope s_require_pairs) := ⟨rfl, rfl, rfl, by decide +kernel, rfl, by decide +kernel, by decide +kernel⟩
def b_require_pairs_1 : Ms := (seqM (ifM (orM (notM (tstM (callM den_is_pair [] (Mn.bind (lv 3) fun d => Mn.bind (Mn.ret []) fun ds => Mn.ret (d :: ds))))) (notM (tstM (callM den_is_within [] (Mn.bind (Mn.fr (op2 ixV2 (lv 3) (Mn.ret (D.int 1)))) fun d => Mn.bind (Mn.bind (lv 1) fun d => Mn.bind (Mn.ret []) fun ds => Mn.ret (d :: ds)) fun ds => Mn.ret (d :: ds)))))) (seqM (raiseM "InvalidPair" (lv 3))
    nxM) nxM)
    nxM)
def l_require_pairs_1 : Ms := forM' (walkM (lv 0)) (gN 3) b_require_pairs_1
def m_require_pairs : Ms := (seqM (dropM (callM den_require_world [] (Mn.bind (lv 1) fun d => Mn.bind (Mn.ret []) fun ds => Mn.ret (d :: ds))))
    (seqM l_require_pairs_1
    (seqM (ifM (orM (notM (tstM (isiXM "str" (lv 2)))) (cmpT notinV2 (lv 2) (Mn.ret d_KINDS))) (seqM (raiseM "InvalidKind" (lv 2))
    nxM) nxM)
    nxM)))
def den_require_pairs : Den := denOf 1 m_require_pairs
theorem ok_require_pairs (T : Txt P w K mg A) : FnOk P w K mg base (L2.CX P w) 4 A.require_pairs A.fd_require_pairs ["pairs", "names", "kind"] (SpD ⟨K, mg, P, w⟩ 3 den_require_pairs) :=
  fn_data T.f_require_pairs sc_require_pairs fun cdv Ar outer s H E hr =>
    have hN := sc_require_pairs.nd
    show EvSs _ _ m_require_pairs from
      (es_cons (es_expr (ee_call (dd := []) (ok_require_world T) (hr.mono (by decide)) rfl T.g_require_world T.k_require_world T.b_require_world .nil (fun _ => .nil) (ea_cons (dv 1) ea_nil) (fun a b c h => by rw [List.append_nil, (la_cons la_nil) a b c h])))
      (es_cons (es_for (passes_of rfl) rfl (ei_any (dv 0)) (gv 3 hN) (es_cons (es_if (EvW.t (et_or (et_not (tCall (ee_call (dd := []) (ok_is_pair T) (hr.mono (by decide)) rfl T.g_is_pair T.k_is_pair T.b_is_pair .nil (fun _ => .nil) (ea_cons (dv 3) ea_nil) (fun a b c h => by rw [List.append_nil, (la_cons la_nil) a b c h])))) (et_or1 (et_not (tCall (ee_call (dd := []) (ok_is_within T) (hr.mono (by decide)) rfl T.g_is_within T.k_is_within T.b_is_within .nil (fun _ => .nil) (ea_cons (EvE.fr (ee_ix2 hr (dv 3) ed_int (fun _ _ => rfl))) (ea_cons (dv 1) ea_nil)) (fun a b c h => by rw [List.append_nil, (la_cons (la_cons la_nil)) a b c h]))))))) (es_cons (es_raise rfl T.x_InvalidPair.facts (hr.mono (by decide)) rfl (dv 3))
      es_nil) es_nil)
      es_nil))
      (es_cons (es_if (EvW.t (et_or (et_not (tCall (ee_isiX (n := "str") kit8_str T.own T.kt_str rfl rfl T.n_isinstance rfl T.n_str (dv 2)))) (et_or1 (tNotIn2 hr (dv 2) (k_KINDS T))))) (es_cons (es_raise rfl T.x_InvalidKind.facts (hr.mono (by decide)) rfl (dv 2))
      es_nil) es_nil)
      es_nil)))
/-! by_there -/
abbrev s_by_there : Stmt := top 32
theorem sc_by_there : FnScope ["rows", "found", "here", "there"] ["rows"] (defScope s_by_there) := ⟨rfl, rfl, rfl, by decide +kernel, rfl, by decide +kernel, by decide +kernel⟩
def m_by_there : Ms := (grpM (walkM (lv 0)) (gTp 2 (gCn (gN 2) (gCn (gN 3) gNl))) 1 2 3)
def den_by_there : Den := denOf 3 m_by_there
theorem ok_by_there (T : Txt P w K mg A) : FnOk P w K mg base (L2.CX P w) 1 A.by_there A.fd_by_there ["rows"] (SpD ⟨K, mg, P, w⟩ 1 den_by_there) :=
  fn_data T.f_by_there sc_by_there fun cdv Ar outer s H E hr =>
    have hN := sc_by_there.nd
    show EvSs _ _ m_by_there from
      (ess_grp (f := 1) hr (passes_of rfl) rfl hN rfl (Or.inl rfl) (ei_any (dv 0)) (eg_tup rfl (egs_cons (gv 2 hN) (egs_cons (gv 3 hN) egs_nil))) (by decide) (fun _ => nv 1) (nv 2) (nv 3) ⟨rfl, rfl, rfl, rfl⟩)
/-! upward -/
abbrev s_upward : Stmt := top 33
theorem sc_upward : FnScope ["rows", "known", "highs", "here", "there", "high", "row"] ["rows"] (defScope s_upward) := ⟨rfl, rfl, rfl, by decide +kernel, rfl, by decide +kernel, by decide +kernel⟩
def b_upward_1 : Ms := (seqM (ifM (andM (tstM (callM den_is_within [] (Mn.bind (lv 4) fun d => Mn.bind (Mn.bind (lv 5) fun d => Mn.bind (Mn.ret []) fun ds => Mn.ret (d :: ds)) fun ds => Mn.ret (d :: ds)))) (cmpT notinV2 (tupM (Mn.bind (lv 3) fun d => Mn.bind (Mn.bind (lv 5) fun d => Mn.bind (Mn.ret []) fun ds => Mn.ret (d :: ds)) fun ds => Mn.ret (d :: ds))) (lv 1))) (seqM (retM (Mn.val (tupM (Mn.bind (Mn.ret (D.str "upward")) fun d => Mn.bind (Mn.bind (tupM (Mn.bind (lv 3) fun d => Mn.bind (Mn.bind (lv 4) fun d => Mn.bind (Mn.ret []) fun ds => Mn.ret (d :: ds)) fun ds => Mn.ret (d :: ds))) fun d => Mn.bind (Mn.bind (lv 5) fun d => Mn.bind (Mn.ret []) fun ds => Mn.ret (d :: ds)) fun ds => Mn.ret (d :: ds)) fun ds => Mn.ret (d :: ds)))))
    nxM) nxM)
    nxM)
def l_upward_1 : Ms := forM' (walkM (lv 2)) (gN 5) b_upward_1
def b_upward_2 : Ms := (seqM l_upward_1
    nxM)
def l_upward_2 : Ms := forM' (walkM (lv 0)) (gTp 2 (gCn (gN 3) (gCn (gN 4) gNl))) b_upward_2
def m_upward : Ms := (seqM (setM 1 (dcM (walkM (lv 0)) (gN 6) (Mn.ret true) (lv 6) (Mn.ret (D.bl true)) [6]))
    (seqM (setM 2 (call1 sortedV (Mn.bind (Mn.fr (lcM (walkM (lv 0)) (gTp 2 (gCn (gN 3) (gCn (gN 4) gNl))) (cmpT eqVX (lv 3) (lv 4)) (lv 4) [3, 4])) fun d => Mn.bind (Mn.ret []) fun ds => Mn.ret (d :: ds))))
    (seqM l_upward_2
    (seqM (retM (Mn.val (Mn.ret D.non)))
    nxM))))
def den_upward : Den := denOf 6 m_upward
theorem ok_upward (T : Txt P w K mg A) : FnOk P w K mg base (L2.CX P w) 2 A.upward A.fd_upward ["rows"] (SpD ⟨K, mg, P, w⟩ 1 den_upward) :=
  fn_data T.f_upward sc_upward fun cdv Ar outer s H E hr =>
    have hN := sc_upward.nd
    show EvSs _ _ m_upward from
      (es_cons (es_setDc (i := 1) hr rfl hN rfl rfl (swd_true rfl rfl rfl rfl) (own := [("row", 6)]) (ei_any (dv 0)) (blkOk_by (by show blkC ["rows", "known", "highs", "here", "there", "high", "row"] (defScope s_upward) _ _ = true; decide +kernel)) (fun _ _ _ _ _ => (gv 6 hN)) (fun _ _ _ _ _ => ets_nil) (fun _ _ _ _ _ => (dv 6)) (fun _ _ _ _ _ => ed_bl) (by decide))
      (es_cons (sv 2 hN (cSorted hr T.n_sorted (ea_cons (EvE.fr (ee_lc rfl hN (own := [("here", 3), ("there", 4)]) (ei_any (dv 0)) (blkOk_by (by show blkC ["rows", "known", "highs", "here", "there", "high", "row"] (defScope s_upward) _ _ = true; decide +kernel)) (fun _ _ _ _ _ => (eg_tup rfl (egs_cons (gv 3 hN) (egs_cons (gv 4 hN) egs_nil)))) (fun _ _ _ _ _ => (ets_one (tEqX hr (dv 3) (dv 4)))) (fun _ _ _ _ _ => (dv 4)) (by decide))) ea_nil)))
      (es_cons (es_for (passes_of rfl) rfl (ei_any (dv 0)) (eg_tup rfl (egs_cons (gv 3 hN) (egs_cons (gv 4 hN) egs_nil))) (es_cons (es_for (passes_of rfl) rfl (ei_any (dv 2)) (gv 5 hN) (es_cons (es_if (EvW.t (et_and (tCall (ee_call (dd := []) (ok_is_within T) (hr.mono (by decide)) rfl T.g_is_within T.k_is_within T.b_is_within .nil (fun _ => .nil) (ea_cons (dv 4) (ea_cons (dv 5) ea_nil)) (fun a b c h => by rw [List.append_nil, (la_cons (la_cons la_nil)) a b c h]))) (et_and1 (tNotIn2 hr (ed_tup (ea_cons (dv 3) (ea_cons (dv 5) ea_nil))) (dv 1))))) (es_cons (es_ret (EvD.val (ed_tup (ea_cons ed_str (ea_cons (ed_tup (ea_cons (dv 3) (ea_cons (dv 4) ea_nil))) (ea_cons (dv 5) ea_nil))))))
      es_nil) es_nil)
      es_nil))
      es_nil))
      (es_cons (es_ret (EvD.val ed_non))
      es_nil))))
/-! meeting -/
abbrev s_meeting : Stmt := top 34
theorem sc_meeting : FnScope ["rows", "known", "heres", "here", "there", "other", "row"] ["rows"] (defScope s_meeting) := ⟨rfl, rfl, rfl, by decide +kernel, rfl, by decide +kernel, by decide +kernel⟩
def b_meeting_1 : Ms := (seqM (ifM (cmpT notinV2 (tupM (Mn.bind (Mn.fr (callM den_common [] (Mn.bind (lv 3) fun d => Mn.bind (Mn.bind (lv 5) fun d => Mn.bind (Mn.ret []) fun ds => Mn.ret (d :: ds)) fun ds => Mn.ret (d :: ds)))) fun d => Mn.bind (Mn.bind (lv 4) fun d => Mn.bind (Mn.ret []) fun ds => Mn.ret (d :: ds)) fun ds => Mn.ret (d :: ds))) (lv 1)) (seqM (retM (Mn.val (tupM (Mn.bind (Mn.ret (D.str "meet")) fun d => Mn.bind (Mn.bind (tupM (Mn.bind (lv 3) fun d => Mn.bind (Mn.bind (lv 4) fun d => Mn.bind (Mn.ret []) fun ds => Mn.ret (d :: ds)) fun ds => Mn.ret (d :: ds))) fun d => Mn.bind (Mn.bind (tupM (Mn.bind (lv 5) fun d => Mn.bind (Mn.bind (lv 4) fun d => Mn.bind (Mn.ret []) fun ds => Mn.ret (d :: ds)) fun ds => Mn.ret (d :: ds))) fun d => Mn.bind (Mn.ret []) fun ds => Mn.ret (d :: ds)) fun ds => Mn.ret (d :: ds)) fun ds => Mn.ret (d :: ds)))))
    nxM) nxM)
    nxM)
def l_meeting_1 : Ms := forM' (walkM (Mn.fr (op2 ixV2 (lv 2) (lv 4)))) (gN 5) b_meeting_1
def b_meeting_2 : Ms := (seqM l_meeting_1
    nxM)
def l_meeting_2 : Ms := forM' (walkM (lv 0)) (gTp 2 (gCn (gN 3) (gCn (gN 4) gNl))) b_meeting_2
def m_meeting : Ms := (seqM (setM 1 (dcM (walkM (lv 0)) (gN 6) (Mn.ret true) (lv 6) (Mn.ret (D.bl true)) [6]))
    (seqM (setM 2 (callM den_by_there [] (Mn.bind (lv 0) fun d => Mn.bind (Mn.ret []) fun ds => Mn.ret (d :: ds))))
    (seqM l_meeting_2
    (seqM (retM (Mn.val (Mn.ret D.non)))
    nxM))))
def den_meeting : Den := denOf 6 m_meeting
theorem ok_meeting (T : Txt P w K mg A) : FnOk P w K mg base (L2.CX P w) 2 A.meeting A.fd_meeting ["rows"] (SpD ⟨K, mg, P, w⟩ 1 den_meeting) :=
  fn_data T.f_meeting sc_meeting fun cdv Ar outer s H E hr =>
    have hN := sc_meeting.nd
    show EvSs _ _ m_meeting from
      (es_cons (es_setDc (i := 1) hr rfl hN rfl rfl (swd_true rfl rfl rfl rfl) (own := [("row", 6)]) (ei_any (dv 0)) (blkOk_by (by show blkC ["rows", "known", "heres", "here", "there", "other", "row"] (defScope s_meeting) _ _ = true; decide +kernel)) (fun _ _ _ _ _ => (gv 6 hN)) (fun _ _ _ _ _ => ets_nil) (fun _ _ _ _ _ => (dv 6)) (fun _ _ _ _ _ => ed_bl) (by decide))
      (es_cons (sv 2 hN (ee_call (dd := []) (ok_by_there T) (hr.mono (by decide)) rfl T.g_by_there T.k_by_there T.b_by_there .nil (fun _ => .nil) (ea_cons (dv 0) ea_nil) (fun a b c h => by rw [List.append_nil, (la_cons la_nil) a b c h])))
      (es_cons (es_for (passes_of rfl) rfl (ei_any (dv 0)) (eg_tup rfl (egs_cons (gv 3 hN) (egs_cons (gv 4 hN) egs_nil))) (es_cons (es_for (passes_of rfl) rfl (ei_any (EvE.fr (ee_ix2 hr (dv 2) (dv 4) (fun _ _ => rfl)))) (gv 5 hN) (es_cons (es_if (tNotIn2 hr (ed_tup (ea_cons (EvE.fr (ee_call (dd := []) (ok_common T) (hr.mono (by decide)) rfl T.g_common T.k_common T.b_common .nil (fun _ => .nil) (ea_cons (dv 3) (ea_cons (dv 5) ea_nil)) (fun a b c h => by rw [List.append_nil, (la_cons (la_cons la_nil)) a b c h]))) (ea_cons (dv 4) ea_nil))) (dv 1)) (es_cons (es_ret (EvD.val (ed_tup (ea_cons ed_str (ea_cons (ed_tup (ea_cons (dv 3) (ea_cons (dv 4) ea_nil))) (ea_cons (ed_tup (ea_cons (dv 5) (ea_cons (dv 4) ea_nil))) ea_nil))))))
      es_nil) es_nil)
      es_nil))
      es_nil))
      (es_cons (es_ret (EvD.val ed_non))
      es_nil))))
/-! why_barred -/
abbrev s_why_barred : Stmt := top 35
theorem sc_why_barred : FnScope ["rows", "kind", "known", "found", "here", "there", "row"] ["rows", "kind"] (defScope s_why_barred) := ⟨rfl, rfl, rfl, by decide +kernel, rfl, by decide +kernel, by decide +kernel⟩
def b_why_barred_1 : Ms := (seqM (ifM (cmpT notinV2 (tupM (Mn.bind (lv 5) fun d => Mn.bind (Mn.bind (lv 5) fun d => Mn.bind (Mn.ret []) fun ds => Mn.ret (d :: ds)) fun ds => Mn.ret (d :: ds))) (lv 2)) (seqM (retM (Mn.val (tupM (Mn.bind (Mn.ret (D.str "total")) fun d => Mn.bind (Mn.bind (tupM (Mn.bind (lv 4) fun d => Mn.bind (Mn.bind (lv 5) fun d => Mn.bind (Mn.ret []) fun ds => Mn.ret (d :: ds)) fun ds => Mn.ret (d :: ds))) fun d => Mn.bind (Mn.ret []) fun ds => Mn.ret (d :: ds)) fun ds => Mn.ret (d :: ds)))))
    nxM) nxM)
    nxM)
def l_why_barred_1 : Ms := forM' (walkM (lv 0)) (gTp 2 (gCn (gN 4) (gCn (gN 5) gNl))) b_why_barred_1
def m_why_barred : Ms := (seqM (setM 2 (dcM (walkM (lv 0)) (gN 6) (Mn.ret true) (lv 6) (Mn.ret (D.bl true)) [6]))
    (seqM l_why_barred_1
    (seqM (ifM (cmpT eqVX (lv 1) (Mn.ret (D.str "any"))) (seqM (retM (Mn.val (Mn.ret D.non)))
    nxM) nxM)
    (seqM (setM 3 (callM den_upward [] (Mn.bind (lv 0) fun d => Mn.bind (Mn.ret []) fun ds => Mn.ret (d :: ds))))
    (seqM (ifM (andM (cmpT (isNV false) (lv 3) (Mn.ret D.non)) (cmpT eqVX (lv 1) (Mn.ret (D.str "single")))) (seqM (setM 3 (callM den_meeting [] (Mn.bind (lv 0) fun d => Mn.bind (Mn.ret []) fun ds => Mn.ret (d :: ds))))
    nxM) nxM)
    (seqM (retM (mv 3))
    nxM))))))
def den_why_barred : Den := denOf 5 m_why_barred
theorem ok_why_barred (T : Txt P w K mg A) : FnOk P w K mg base (L2.CX P w) 3 A.why_barred A.fd_why_barred ["rows", "kind"] (SpD ⟨K, mg, P, w⟩ 2 den_why_barred) :=
  fn_data T.f_why_barred sc_why_barred fun cdv Ar outer s H E hr =>
    have hN := sc_why_barred.nd
    show EvSs _ _ m_why_barred from
      (es_cons (es_setDc (i := 2) hr rfl hN rfl rfl (swd_true rfl rfl rfl rfl) (own := [("row", 6)]) (ei_any (dv 0)) (blkOk_by (by show blkC ["rows", "kind", "known", "found", "here", "there", "row"] (defScope s_why_barred) _ _ = true; decide +kernel)) (fun _ _ _ _ _ => (gv 6 hN)) (fun _ _ _ _ _ => ets_nil) (fun _ _ _ _ _ => (dv 6)) (fun _ _ _ _ _ => ed_bl) (by decide))
      (es_cons (es_for (passes_of rfl) rfl (ei_any (dv 0)) (eg_tup rfl (egs_cons (gv 4 hN) (egs_cons (gv 5 hN) egs_nil))) (es_cons (es_if (tNotIn2 hr (ed_tup (ea_cons (dv 5) (ea_cons (dv 5) ea_nil))) (dv 2)) (es_cons (es_ret (EvD.val (ed_tup (ea_cons ed_str (ea_cons (ed_tup (ea_cons (dv 4) (ea_cons (dv 5) ea_nil))) ea_nil)))))
      es_nil) es_nil)
      es_nil))
      (es_cons (es_if (tEqX hr (dv 1) ed_str) (es_cons (es_ret (EvD.val ed_non))
      es_nil) es_nil)
      (es_cons (sv 3 hN (ee_call (dd := []) (ok_upward T) (hr.mono (by decide)) rfl T.g_upward T.k_upward T.b_upward .nil (fun _ => .nil) (ea_cons (dv 0) ea_nil) (fun a b c h => by rw [List.append_nil, (la_cons la_nil) a b c h])))
      (es_cons (es_if (EvW.t (et_and (tIs (dv 3) ed_non) (et_and1 (tEqX hr (dv 1) ed_str)))) (es_cons (sv 3 hN (ee_call (dd := []) (ok_meeting T) (hr.mono (by decide)) rfl T.g_meeting T.k_meeting T.b_meeting .nil (fun _ => .nil) (ea_cons (dv 0) ea_nil) (fun a b c h => by rw [List.append_nil, (la_cons la_nil) a b c h])))
      es_nil) es_nil)
      (es_cons (es_ret (ev 3))
      es_nil))))))
/-! barred -/
abbrev s_barred : Stmt := top 36
theorem sc_barred : FnScope ["pairs", "names", "kind"] ["pairs", "names", "kind"] (defScope s_barred) := ⟨rfl, rfl, rfl, by decide +kernel, rfl, by decide +kernel, by decide +kernel⟩
def m_barred : Ms := (seqM (dropM (callM den_require_pairs [] (Mn.bind (lv 0) fun d => Mn.bind (Mn.bind (lv 1) fun d => Mn.bind (Mn.bind (lv 2) fun d => Mn.bind (Mn.ret []) fun ds => Mn.ret (d :: ds)) fun ds => Mn.ret (d :: ds)) fun ds => Mn.ret (d :: ds))))
    (seqM (retM (callM den_why_barred [] (Mn.bind (Mn.fr (call1 sortedV (Mn.bind (Mn.fr (call1 setV (Mn.bind (lv 0) fun d => Mn.bind (Mn.ret []) fun ds => Mn.ret (d :: ds)))) fun d => Mn.bind (Mn.ret []) fun ds => Mn.ret (d :: ds)))) fun d => Mn.bind (Mn.bind (lv 2) fun d => Mn.bind (Mn.ret []) fun ds => Mn.ret (d :: ds)) fun ds => Mn.ret (d :: ds))))
    nxM))
def den_barred : Den := denOf 0 m_barred
theorem ok_barred (T : Txt P w K mg A) : FnOk P w K mg base (L2.CX P w) 5 A.barred A.fd_barred ["pairs", "names", "kind"] (SpD ⟨K, mg, P, w⟩ 3 den_barred) :=
  fn_dataD T.f_barred sc_barred fun cdv Ar outer s H E hr =>
    have hN := sc_barred.nd
    show EvSs _ _ m_barred from
      (es_cons (es_expr (ee_call (dd := []) (ok_require_pairs T) (hr.mono (by decide)) rfl T.g_require_pairs T.k_require_pairs T.b_require_pairs .nil (fun _ => .nil) (ea_cons (dv 0) (ea_cons (dv 1) (ea_cons (dv 2) ea_nil))) (fun a b c h => by rw [List.append_nil, (la_cons (la_cons (la_cons la_nil))) a b c h])))
      (es_cons (es_ret (ee_call (dd := []) (ok_why_barred T) (hr.mono (by decide)) rfl T.g_why_barred T.k_why_barred T.b_why_barred .nil (fun _ => .nil) (ea_cons (EvE.fr (cSorted hr T.n_sorted (ea_cons (EvE.fr (cSet hr T.n_set (ea_cons (dv 0) ea_nil))) ea_nil))) (ea_cons (dv 2) ea_nil)) (fun a b c h => by rw [List.append_nil, (la_cons (la_cons la_nil)) a b c h])))
      es_nil))
/-! program_of -/
abbrev s_program_of : Stmt := top 38
theorem sc_program_of : FnScope ["pairs", "names", "kind", "rows", "why", "all_heres", "found", "there", "heres", "missing", "here"] ["pairs", "names", "kind"] (defScope s_program_of) := ⟨rfl, rfl, rfl, by decide +kernel, rfl, by decide +kernel, by decide +kernel⟩
def m_program_of : Ms := (seqM (dropM (callM den_require_pairs [] (Mn.bind (lv 0) fun d => Mn.bind (Mn.bind (lv 1) fun d => Mn.bind (Mn.bind (lv 2) fun d => Mn.bind (Mn.ret []) fun ds => Mn.ret (d :: ds)) fun ds => Mn.ret (d :: ds)) fun ds => Mn.ret (d :: ds))))
    (seqM (setM 3 (call1 sortedV (Mn.bind (Mn.fr (call1 setV (Mn.bind (lv 0) fun d => Mn.bind (Mn.ret []) fun ds => Mn.ret (d :: ds)))) fun d => Mn.bind (Mn.ret []) fun ds => Mn.ret (d :: ds))))
    (seqM (setM 4 (callM den_why_barred [] (Mn.bind (lv 3) fun d => Mn.bind (Mn.bind (lv 2) fun d => Mn.bind (Mn.ret []) fun ds => Mn.ret (d :: ds)) fun ds => Mn.ret (d :: ds))))
    (seqM (ifM (cmpT (isNV true) (lv 4) (Mn.ret D.non)) (seqM (raiseM "Barred" (lv 4))
    nxM) nxM)
    nvM))))
def den_program_of : Den := denOf 8 m_program_of
theorem ok_program_of (T : Txt P w K mg A) : FnOk P w K mg base (L2.CX P w) 5 A.program_of A.fd_program_of ["pairs", "names", "kind"] (SpD ⟨K, mg, P, w⟩ 3 den_program_of) :=
  fn_dataD T.f_program_of sc_program_of fun cdv Ar outer s H E hr =>
    have hN := sc_program_of.nd
    show EvSs _ _ m_program_of from
      (es_cons (es_expr (ee_call (dd := []) (ok_require_pairs T) (hr.mono (by decide)) rfl T.g_require_pairs T.k_require_pairs T.b_require_pairs .nil (fun _ => .nil) (ea_cons (dv 0) (ea_cons (dv 1) (ea_cons (dv 2) ea_nil))) (fun a b c h => by rw [List.append_nil, (la_cons (la_cons (la_cons la_nil))) a b c h])))
      (es_cons (sv 3 hN (cSorted hr T.n_sorted (ea_cons (EvE.fr (cSet hr T.n_set (ea_cons (dv 0) ea_nil))) ea_nil)))
      (es_cons (sv 4 hN (ee_call (dd := []) (ok_why_barred T) (hr.mono (by decide)) rfl T.g_why_barred T.k_why_barred T.b_why_barred .nil (fun _ => .nil) (ea_cons (dv 3) (ea_cons (dv 2) ea_nil)) (fun a b c h => by rw [List.append_nil, (la_cons (la_cons la_nil)) a b c h])))
      (es_cons (es_if (tIsNot (dv 4) ed_non) (es_cons (es_raise rfl T.x_Barred.facts (hr.mono (by decide)) rfl (dv 4))
      es_nil) es_nil)
      ess_unreached))))
/-! _law_at -/
abbrev s__law_at : Stmt := top 40
theorem sc__law_at : FnScope ["script", "k"] ["script", "k"] (defScope s__law_at) := ⟨rfl, rfl, rfl, by decide +kernel, rfl, by decide +kernel, by decide +kernel⟩
def m__law_at : Ms := (seqM (ifM (cmpT ltV (lv 1) (Mn.fr (call1 lenV (Mn.bind (lv 0) fun d => Mn.bind (Mn.ret []) fun ds => Mn.ret (d :: ds))))) (seqM (retM (op2 ixV2 (lv 0) (lv 1)))
    nxM) nxM)
    (seqM (retM (Mn.val (Mn.ret (D.int 0))))
    nxM))
def den__law_at : Den := denOf 0 m__law_at
theorem ok__law_at (T : Txt P w K mg A) : FnOk P w K mg base (L2.CX P w) 1 A._law_at A.fd__law_at ["script", "k"] (SpD ⟨K, mg, P, w⟩ 2 den__law_at) :=
  fn_data T.f__law_at sc__law_at fun cdv Ar outer s H E hr =>
    have hN := sc__law_at.nd
    show EvSs _ _ m__law_at from
      (es_cons (es_if (tLt (dv 1) (EvE.fr (cLen T.n_len (ea_cons (dv 0) ea_nil)))) (es_cons (es_ret (ee_ix2 hr (dv 0) (dv 1) (fun _ _ => rfl)))
      es_nil) es_nil)
      (es_cons (es_ret (EvD.val ed_int))
      es_nil))
/-! _law_mixed -/
abbrev s__law_mixed : Stmt := top 41
theorem sc__law_mixed : FnScope ["cell", "k", "number"] ["cell", "k"] (defScope s__law_mixed) := ⟨rfl, rfl, rfl, by decide +kernel, rfl, by decide +kernel, by decide +kernel⟩
def m__law_mixed : Ms := (seqM (setM 2 (op2 modV (Mn.fr (call1 intV (Mn.bind (Mn.fr (op2 addV (Mn.fr (op2 addV (Mn.fr (op2 addV (Mn.fr (op2 mulV (lv 0) (Mn.ret (D.int 1103515245)))) (Mn.fr (op2 mulV (Mn.fr (op2 mulV (Mn.ret (D.int 7919)) (lv 1))) (lv 1))))) (lv 1))) (Mn.ret (D.int 1)))) fun d => Mn.bind (Mn.ret []) fun ds => Mn.ret (d :: ds)))) (Mn.ret (D.int 2147483647))))
    (seqM (setM 2 (op2 modV (Mn.fr (call1 intV (Mn.bind (Mn.fr (op2 addV (Mn.fr (op2 mulV (lv 2) (lv 2))) (Mn.ret (D.int 69621)))) fun d => Mn.bind (Mn.ret []) fun ds => Mn.ret (d :: ds)))) (Mn.ret (D.int 2147483629))))
    (seqM (retM (op2 modV (Mn.fr (call1 intV (Mn.bind (Mn.fr (op2 mulV (lv 2) (Mn.ret (D.int 48271)))) fun d => Mn.bind (Mn.ret []) fun ds => Mn.ret (d :: ds)))) (Mn.ret (D.int 2147483587))))
    nxM)))
def den__law_mixed : Den := denOf 1 m__law_mixed
theorem ok__law_mixed (T : Txt P w K mg A) : FnOk P w K mg base (L2.CX P w) 1 A._law_mixed A.fd__law_mixed ["cell", "k"] (SpD ⟨K, mg, P, w⟩ 2 den__law_mixed) :=
  fn_data T.f__law_mixed sc__law_mixed fun cdv Ar outer s H E hr =>
    have hN := sc__law_mixed.nd
    show EvSs _ _ m__law_mixed from
      (es_cons (sv 2 hN (eMod (EvE.fr (cInt T.n_int (ea_cons (EvE.fr (eAdd (EvE.fr (eAdd (EvE.fr (eAdd (EvE.fr (eMul (dv 0) ed_int)) (EvE.fr (eMul (EvE.fr (eMul ed_int (dv 1))) (dv 1))))) (dv 1))) ed_int)) ea_nil))) ed_int))
      (es_cons (sv 2 hN (eMod (EvE.fr (cInt T.n_int (ea_cons (EvE.fr (eAdd (EvE.fr (eMul (dv 2) (dv 2))) ed_int)) ea_nil))) ed_int))
      (es_cons (es_ret (eMod (EvE.fr (cInt T.n_int (ea_cons (EvE.fr (eMul (dv 2) ed_int)) ea_nil))) ed_int))
      es_nil)))
/-! _law_purse -/
abbrev s__law_purse : Stmt := top 42
theorem sc__law_purse : FnScope ["script", "at", "cell"] ["script", "at"] (defScope s__law_purse) := ⟨rfl, rfl, rfl, by decide +kernel, rfl, by decide +kernel, by decide +kernel⟩
def m__law_purse : Ms := (seqM (setM 2 (callM den__law_at [] (Mn.bind (lv 0) fun d => Mn.bind (Mn.bind (lv 1) fun d => Mn.bind (Mn.ret []) fun ds => Mn.ret (d :: ds)) fun ds => Mn.ret (d :: ds))))
    (seqM (retM (lstM (Mn.bind (Mn.fr (op2 modV (Mn.fr (call1 intV (Mn.bind (Mn.fr (call1 maxV (Mn.bind (Mn.fr (op2 subV (lv 2) (Mn.fr (op2 powV (Mn.ret (D.int 10)) (Mn.ret (D.int 18)))))) fun d => Mn.bind (Mn.bind (Mn.ret (D.int 0)) fun d => Mn.bind (Mn.ret []) fun ds => Mn.ret (d :: ds)) fun ds => Mn.ret (d :: ds)))) fun d => Mn.bind (Mn.ret []) fun ds => Mn.ret (d :: ds)))) (Mn.fr (op2 powV (Mn.fr (op2 powV (Mn.ret (D.int 10)) (Mn.ret (D.int 60)))) (Mn.ret (D.int 10)))))) fun d => Mn.bind (Mn.bind (Mn.fr (op2 modV (Mn.fr (call1 intV (Mn.bind (lv 2) fun d => Mn.bind (Mn.ret []) fun ds => Mn.ret (d :: ds)))) (Mn.ret (D.int 2147483647)))) fun d => Mn.bind (Mn.bind (Mn.fr (op2 mulV (Mn.ret (D.int 1000)) (lv 1))) fun d => Mn.bind (Mn.ret []) fun ds => Mn.ret (d :: ds)) fun ds => Mn.ret (d :: ds)) fun ds => Mn.ret (d :: ds))))
    nxM))
def den__law_purse : Den := denOf 1 m__law_purse
theorem ok__law_purse (T : Txt P w K mg A) : FnOk P w K mg base (L2.CX P w) 2 A._law_purse A.fd__law_purse ["script", "at"] (SpD ⟨K, mg, P, w⟩ 2 den__law_purse) :=
  fn_data T.f__law_purse sc__law_purse fun cdv Ar outer s H E hr =>
    have hN := sc__law_purse.nd
    show EvSs _ _ m__law_purse from
      (es_cons (sv 2 hN (ee_call (dd := []) (ok__law_at T) (hr.mono (by decide)) rfl T.g__law_at T.k__law_at T.b__law_at .nil (fun _ => .nil) (ea_cons (dv 0) (ea_cons (dv 1) ea_nil)) (fun a b c h => by rw [List.append_nil, (la_cons (la_cons la_nil)) a b c h])))
      (es_cons (es_ret (ee_lst (ea_cons (EvE.fr (eMod (EvE.fr (cInt T.n_int (ea_cons (EvE.fr (cMax T.n_max (ea_cons (EvE.fr (eSub (dv 2) (EvE.fr (ePow ed_int ed_int)))) (ea_cons ed_int ea_nil)))) ea_nil))) (EvE.fr (ePow (EvE.fr (ePow ed_int ed_int)) ed_int)))) (ea_cons (EvE.fr (eMod (EvE.fr (cInt T.n_int (ea_cons (dv 2) ea_nil))) ed_int)) (ea_cons (EvE.fr (eMul ed_int (dv 1))) ea_nil)))))
      es_nil))
/-! _law_draw -/
abbrev s__law_draw : Stmt := top 43
theorem sc__law_draw : FnScope ["purse", "out_of", "drawn"] ["purse", "out_of"] (defScope s__law_draw) := ⟨rfl, rfl, rfl, by decide +kernel, rfl, by decide +kernel, by decide +kernel⟩
def m__law_draw : Ms := (seqM (ifM (cmpT gtV (Mn.fr (ixO 0 (Mn.ret (D.int 0)))) (Mn.ret (D.int 0))) (seqM (setM 2 (op2 modV (Mn.fr (call1 intV (Mn.bind (Mn.fr (ixO 0 (Mn.ret (D.int 0)))) fun d => Mn.bind (Mn.ret []) fun ds => Mn.ret (d :: ds)))) (lv 1)))
    (seqM (setI 0 (Mn.fr (op2 fdivV (Mn.fr (ixO 0 (Mn.ret (D.int 0)))) (lv 1))) (Mn.ret (D.int 0)))
    (seqM (retM (mv 2))
    nxM))) nxM)
    (seqM (setI 0 (Mn.fr (op2 addV (Mn.fr (ixO 0 (Mn.ret (D.int 2)))) (Mn.ret (D.int 1)))) (Mn.ret (D.int 2)))
    (seqM (retM (op2 modV (Mn.fr (call1 intV (Mn.bind (Mn.fr (callM den__law_mixed [] (Mn.bind (Mn.fr (ixO 0 (Mn.ret (D.int 1)))) fun d => Mn.bind (Mn.bind (Mn.fr (ixO 0 (Mn.ret (D.int 2)))) fun d => Mn.bind (Mn.ret []) fun ds => Mn.ret (d :: ds)) fun ds => Mn.ret (d :: ds)))) fun d => Mn.bind (Mn.ret []) fun ds => Mn.ret (d :: ds)))) (lv 1)))
    nxM)))
def den__law_draw : DenP := denP 1 m__law_draw
theorem ok__law_draw (T : Txt P w K mg A) : FnOk P w K mg base (L2.CX P w) 2 A._law_draw A.fd__law_draw ["purse", "out_of"] (SpP ⟨K, mg, P, w⟩ 2 den__law_draw) :=
  fn_lent T.f__law_draw sc__law_draw fun cdv Ar outer s H E hr =>
    have hN := sc__law_draw.nd
    show EvSs _ _ m__law_draw from
      (es_cons (es_if (tGt (EvE.fr (ee_ixO (nv 0) ed_int (fun _ _ => rfl))) ed_int) (es_cons (sv 2 hN (eMod (EvE.fr (cInt T.n_int (ea_cons (EvE.fr (ee_ixO (nv 0) ed_int (fun _ _ => rfl))) ea_nil))) (dv 1)))
      (es_cons (es_setI (nv 0) (EvE.fr (eFdiv (EvE.fr (ee_ixO (nv 0) ed_int (fun _ _ => rfl))) (dv 1))) ed_int)
      (es_cons (es_ret (ev 2))
      es_nil))) es_nil)
      (es_cons (es_setI (nv 0) (EvE.fr (eAdd (EvE.fr (ee_ixO (nv 0) ed_int (fun _ _ => rfl))) ed_int)) ed_int)
      (es_cons (es_ret (eMod (EvE.fr (cInt T.n_int (ea_cons (EvE.fr (ee_call (dd := []) (ok__law_mixed T) (hr.mono (by decide)) rfl T.g__law_mixed T.k__law_mixed T.b__law_mixed .nil (fun _ => .nil) (ea_cons (EvE.fr (ee_ixO (nv 0) ed_int (fun _ _ => rfl))) (ea_cons (EvE.fr (ee_ixO (nv 0) ed_int (fun _ _ => rfl))) ea_nil)) (fun a b c h => by rw [List.append_nil, (la_cons (la_cons la_nil)) a b c h]))) ea_nil))) (dv 1)))
      es_nil)))
theorem kwc_program_of_1_names_kind {X : Cx} {p pos pz0 pz1 : Pos} {e z0 z1 : Expr} {es : List Expr} {mz0 mz1 : Mn D} {ma : Mn (List D)} (T : Txt X.prog X.w X.K X.mg A) (hr : Room 5 X.A) (ha : EvA X (e :: es) ma) (la : LenA ma 1) (hz0 : EvD X z0 mz0) (hz1 : EvD X z1 mz1) (hg : Gl X "program_of" := by rfl)
    (he : starEach (e :: es) X.env = (false, eval e X.env) :: starEach es X.env := by rfl) (hpl : ((backTo pos (starEach (e :: es) X.env)).any (·.1) || (backToKw pos (keywordEach [⟨some "names", z0, pz0⟩, ⟨some "kind", z1, pz1⟩] X.env)).any (·.1.isNone)) = false := by rfl) :
    EvE X (.Call (.Name "program_of" p) (e :: es) [⟨some "names", z0, pz0⟩, ⟨some "kind", z1, pz1⟩] pos) (callX den_program_of (fun ds es => ds ++ (es ++ [])) ma (Mn.bind mz0 fun d => Mn.bind (Mn.bind mz1 fun d => Mn.bind (Mn.ret []) fun ds => Mn.ret (d :: ds)) fun ds => Mn.ret (d :: ds))) := by
  obtain ⟨its, hb⟩ := kb_program_of_1_names_kind T
  have hG : ∀ (F : Hp) (vs zs : List V) (ds es : List D), IsDs (cg X) F vs ds → IsDs (cg X) F zs es → IsDs (cg X) F (vs ++ (zs ++ List.drop 1 ([.str "any"] : List V))) (ds ++ (es ++ ([] : List D))) := (fun _ _ _ _ _ h1 h2 => IsDs.append (IsDs.append .nil h2) h1)
  have hkw : EvK X [⟨some "names", z0, pz0⟩, ⟨some "kind", z1, pz1⟩] (Mn.bind mz0 fun d => Mn.bind (Mn.bind mz1 fun d => Mn.bind (Mn.ret []) fun ds => Mn.ret (d :: ds)) fun ds => Mn.ret (d :: ds)) := (ek_cons hz0 (ek_cons hz1 ek_nil))
  have lkw : LenA (Mn.bind mz0 fun d => Mn.bind (Mn.bind mz1 fun d => Mn.bind (Mn.ret []) fun ds => Mn.ret (d :: ds)) fun ds => Mn.ret (d :: ds)) (["names", "kind"] : List Str).length := (la_cons (la_cons la_nil))
  exact ee_callX (n := 1) (ks := ["names", "kind"]) (x := "program_of") (den := den_program_of) (gD := (fun ds es => ds ++ (es ++ []))) (N := 3) (ok_program_of T) hr hg T.g_program_of T.k_program_of hb ha la hkw lkw hG (fun ds es h1 h2 => by simp [h1, h2]) rfl rfl (by decide) he hpl
/-! _law_asked -/
abbrev s__law_asked : Stmt := top 44
theorem sc__law_asked : FnScope ["way", "rows", "some", "word", "error", "told", "caught"] ["way", "rows", "some", "word"] (defScope s__law_asked) := ⟨rfl, rfl, rfl, by decide +kernel, rfl, by decide +kernel, by decide +kernel⟩
def m__law_asked : Ms := (seqM (setM 4 (Mn.val (Mn.ret D.non)))
    (seqM (setM 5 (Mn.val (Mn.ret D.non)))
    (seqM (tryM "RuleError" 6 4 (seqM (ifM (cmpT eqVX (lv 0) (Mn.ret (D.int 0))) (seqM (setM 5 (callM den_barred [] (Mn.bind (lv 1) fun d => Mn.bind (Mn.bind (lv 2) fun d => Mn.bind (Mn.bind (lv 3) fun d => Mn.bind (Mn.ret []) fun ds => Mn.ret (d :: ds)) fun ds => Mn.ret (d :: ds)) fun ds => Mn.ret (d :: ds))))
    nxM) (seqM (setM 5 (callX den_program_of (fun ds es => ds ++ (es ++ [])) (Mn.bind (lv 1) fun d => Mn.bind (Mn.ret []) fun ds => Mn.ret (d :: ds)) (Mn.bind (lv 2) fun d => Mn.bind (Mn.bind (lv 3) fun d => Mn.bind (Mn.ret []) fun ds => Mn.ret (d :: ds)) fun ds => Mn.ret (d :: ds))))
    nxM))
    nxM))
    (seqM (ifM (tstM (isiCM "InvalidWorld" (lv 4))) (seqM (retM (lstM (Mn.bind (Mn.ret (D.str "world")) fun d => Mn.bind (Mn.bind (Mn.fr (attrM "thing" (lv 4))) fun d => Mn.bind (Mn.ret []) fun ds => Mn.ret (d :: ds)) fun ds => Mn.ret (d :: ds))))
    nxM) nxM)
    (seqM (ifM (tstM (isiCM "InvalidPair" (lv 4))) (seqM (retM (lstM (Mn.bind (Mn.ret (D.str "pair")) fun d => Mn.bind (Mn.bind (Mn.fr (attrM "thing" (lv 4))) fun d => Mn.bind (Mn.ret []) fun ds => Mn.ret (d :: ds)) fun ds => Mn.ret (d :: ds))))
    nxM) nxM)
    (seqM (ifM (tstM (isiCM "InvalidKind" (lv 4))) (seqM (retM (lstM (Mn.bind (Mn.ret (D.str "kind")) fun d => Mn.bind (Mn.bind (Mn.fr (attrM "value" (lv 4))) fun d => Mn.bind (Mn.ret []) fun ds => Mn.ret (d :: ds)) fun ds => Mn.ret (d :: ds))))
    nxM) nxM)
    (seqM (retM (lstM (Mn.bind (Mn.ret (D.str "ok")) fun d => Mn.bind (Mn.bind (Mn.fr (orV (isiCM "Barred" (lv 4)) (orV (op2 (isNV false) (lv 5) (Mn.ret D.non)) (isiCM "Program" (lv 5))))) fun d => Mn.bind (Mn.ret []) fun ds => Mn.ret (d :: ds)) fun ds => Mn.ret (d :: ds))))
    nxM)))))))
def den__law_asked : Den := denOf 3 m__law_asked
theorem ok__law_asked (T : Txt P w K mg A) : FnOk P w K mg base (L2.CX P w) 6 A._law_asked A.fd__law_asked ["way", "rows", "some", "word"] (SpD ⟨K, mg, P, w⟩ 4 den__law_asked) :=
  fn_data T.f__law_asked sc__law_asked fun cdv Ar outer s H E hr =>
    have hN := sc__law_asked.nd
    show EvSs _ _ m__law_asked from
      (es_cons (sv 4 hN (EvD.val ed_non))
      (es_cons (sv 5 hN (EvD.val ed_non))
      (es_cons (es_try (i := 6) (j := 4) rfl rfl hN rfl rfl rfl rfl ⟨rfl, rfl, .inl T.cm_RuleError⟩ T.ck_RuleError (fun pn xe => (es_cons (es_if (tEqX hr (dv 0) ed_int) (es_cons (sv 5 hN (ee_call (dd := []) (ok_barred T) (hr.mono (by decide)) rfl T.g_barred T.k_barred (bbf_barred T) .nil (fun _ => .nil) (ea_cons (dv 1) (ea_cons (dv 2) (ea_cons (dv 3) ea_nil))) (fun a b c h => by rw [List.append_nil, (la_cons (la_cons (la_cons la_nil))) a b c h])))
      es_nil) (es_cons (sv 5 hN (kwc_program_of_1_names_kind T (hr.mono (by decide)) (ea_cons (dv 1) ea_nil) (la_cons la_nil) (dv 2) (dv 3)))
      es_nil))
      es_nil)) (by decide))
      (es_cons (es_if (tCall (ee_isiC T.own T.kc_InvalidWorld T.n_isinstance (dv 4))) (es_cons (es_ret (ee_lst (ea_cons ed_str (ea_cons (EvE.fr (ee_attr T.own T.nn_thing (dv 4))) ea_nil))))
      es_nil) es_nil)
      (es_cons (es_if (tCall (ee_isiC T.own T.kc_InvalidPair T.n_isinstance (dv 4))) (es_cons (es_ret (ee_lst (ea_cons ed_str (ea_cons (EvE.fr (ee_attr T.own T.nn_thing (dv 4))) ea_nil))))
      es_nil) es_nil)
      (es_cons (es_if (tCall (ee_isiC T.own T.kc_InvalidKind T.n_isinstance (dv 4))) (es_cons (es_ret (ee_lst (ea_cons ed_str (ea_cons (EvE.fr (ee_attr T.own T.nn_value (dv 4))) ea_nil))))
      es_nil) es_nil)
      (es_cons (es_ret (ee_lst (ea_cons ed_str (ea_cons (EvE.fr (ee_or (ee_isiC T.own T.kc_Barred T.n_isinstance (dv 4)) (ee_or (eIs (dv 5) ed_non) (ee_one (ee_isiC T.own T.kc_Program T.n_isinstance (dv 5)))))) ea_nil))))
      es_nil)))))))
/-! _law_items -/
abbrev s__law_items : Stmt := top 45
theorem sc__law_items : FnScope ["items"] [] (defScope s__law_items) := ⟨rfl, rfl, rfl, by decide +kernel, rfl, by decide +kernel, by decide +kernel⟩
def m__law_items : Ms := (seqM (setM 0 (lstM (Mn.bind (tupM (Mn.bind (tupM (Mn.bind (Mn.ret (D.str "b")) fun d => Mn.bind (Mn.bind (Mn.ret (D.str "a")) fun d => Mn.bind (Mn.ret []) fun ds => Mn.ret (d :: ds)) fun ds => Mn.ret (d :: ds))) fun d => Mn.bind (Mn.bind (tupM (Mn.bind (Mn.ret (D.str "a")) fun d => Mn.bind (Mn.bind (Mn.ret (D.str "b")) fun d => Mn.bind (Mn.ret []) fun ds => Mn.ret (d :: ds)) fun ds => Mn.ret (d :: ds))) fun d => Mn.bind (Mn.ret []) fun ds => Mn.ret (d :: ds)) fun ds => Mn.ret (d :: ds))) fun d => Mn.bind (Mn.bind (tupM (Mn.bind (tupM (Mn.bind (Mn.ret (D.str "a")) fun d => Mn.bind (Mn.bind (Mn.ret (D.str "a")) fun d => Mn.bind (Mn.ret []) fun ds => Mn.ret (d :: ds)) fun ds => Mn.ret (d :: ds))) fun d => Mn.bind (Mn.bind (tupM (Mn.bind (Mn.ret (D.str "a")) fun d => Mn.bind (Mn.ret []) fun ds => Mn.ret (d :: ds))) fun d => Mn.bind (Mn.ret []) fun ds => Mn.ret (d :: ds)) fun ds => Mn.ret (d :: ds))) fun d => Mn.bind (Mn.bind (tupM (Mn.bind (Mn.fr (lstM (Mn.bind (Mn.ret (D.str "a")) fun d => Mn.bind (Mn.ret []) fun ds => Mn.ret (d :: ds)))) fun d => Mn.bind (Mn.bind (tupM (Mn.bind (Mn.ret (D.str "a")) fun d => Mn.bind (Mn.ret []) fun ds => Mn.ret (d :: ds))) fun d => Mn.bind (Mn.ret []) fun ds => Mn.ret (d :: ds)) fun ds => Mn.ret (d :: ds))) fun d => Mn.bind (Mn.bind (tupM (Mn.bind (Mn.ret (D.str "a")) fun d => Mn.bind (Mn.bind (tupM (Mn.bind (Mn.ret (D.str "a")) fun d => Mn.bind (Mn.ret []) fun ds => Mn.ret (d :: ds))) fun d => Mn.bind (Mn.ret []) fun ds => Mn.ret (d :: ds)) fun ds => Mn.ret (d :: ds))) fun d => Mn.bind (Mn.bind (tupM (Mn.bind (Mn.ret D.non) fun d => Mn.bind (Mn.bind (tupM (Mn.bind (Mn.ret (D.str "a")) fun d => Mn.bind (Mn.ret []) fun ds => Mn.ret (d :: ds))) fun d => Mn.bind (Mn.ret []) fun ds => Mn.ret (d :: ds)) fun ds => Mn.ret (d :: ds))) fun d => Mn.bind (Mn.ret []) fun ds => Mn.ret (d :: ds)) fun ds => Mn.ret (d :: ds)) fun ds => Mn.ret (d :: ds)) fun ds => Mn.ret (d :: ds)) fun ds => Mn.ret (d :: ds))))
    (seqM (setM 0 (op2 addV (lv 0) (Mn.fr (lstM (Mn.bind (tupM (Mn.bind (tupM (Mn.bind (Mn.ret (D.str "A")) fun d => Mn.bind (Mn.ret []) fun ds => Mn.ret (d :: ds))) fun d => Mn.bind (Mn.bind (tupM (Mn.bind (Mn.ret (D.str "A")) fun d => Mn.bind (Mn.ret []) fun ds => Mn.ret (d :: ds))) fun d => Mn.bind (Mn.ret []) fun ds => Mn.ret (d :: ds)) fun ds => Mn.ret (d :: ds))) fun d => Mn.bind (Mn.bind (Mn.ret D.non) fun d => Mn.bind (Mn.bind (tupM (Mn.ret [])) fun d => Mn.bind (Mn.bind (tupM (Mn.bind (tupM (Mn.ret [])) fun d => Mn.bind (Mn.ret []) fun ds => Mn.ret (d :: ds))) fun d => Mn.bind (Mn.bind (tupM (Mn.bind (tupM (Mn.ret [])) fun d => Mn.bind (Mn.bind (tupM (Mn.ret [])) fun d => Mn.bind (Mn.bind (tupM (Mn.ret [])) fun d => Mn.bind (Mn.ret []) fun ds => Mn.ret (d :: ds)) fun ds => Mn.ret (d :: ds)) fun ds => Mn.ret (d :: ds))) fun d => Mn.bind (Mn.bind (tupM (Mn.bind (tupM (Mn.bind (Mn.ret (D.str "a")) fun d => Mn.bind (Mn.ret []) fun ds => Mn.ret (d :: ds))) fun d => Mn.bind (Mn.bind (tupM (Mn.ret [])) fun d => Mn.bind (Mn.ret []) fun ds => Mn.ret (d :: ds)) fun ds => Mn.ret (d :: ds))) fun d => Mn.bind (Mn.bind (tupM (Mn.bind (tupM (Mn.bind (Mn.ret (D.str "a")) fun d => Mn.bind (Mn.ret []) fun ds => Mn.ret (d :: ds))) fun d => Mn.bind (Mn.bind (tupM (Mn.bind (Mn.ret (D.str "b")) fun d => Mn.bind (Mn.ret []) fun ds => Mn.ret (d :: ds))) fun d => Mn.bind (Mn.ret []) fun ds => Mn.ret (d :: ds)) fun ds => Mn.ret (d :: ds))) fun d => Mn.bind (Mn.ret []) fun ds => Mn.ret (d :: ds)) fun ds => Mn.ret (d :: ds)) fun ds => Mn.ret (d :: ds)) fun ds => Mn.ret (d :: ds)) fun ds => Mn.ret (d :: ds)) fun ds => Mn.ret (d :: ds)) fun ds => Mn.ret (d :: ds))))))
    (seqM (setM 0 (op2 addV (lv 0) (Mn.fr (lstM (Mn.bind (Mn.fr (lstM (Mn.bind (tupM (Mn.ret [])) fun d => Mn.bind (Mn.bind (tupM (Mn.ret [])) fun d => Mn.bind (Mn.ret []) fun ds => Mn.ret (d :: ds)) fun ds => Mn.ret (d :: ds)))) fun d => Mn.bind (Mn.bind (tupM (Mn.bind (tupM (Mn.ret [])) fun d => Mn.bind (Mn.bind (tupM (Mn.bind (Mn.ret (D.str "c")) fun d => Mn.bind (Mn.ret []) fun ds => Mn.ret (d :: ds))) fun d => Mn.bind (Mn.ret []) fun ds => Mn.ret (d :: ds)) fun ds => Mn.ret (d :: ds))) fun d => Mn.bind (Mn.bind (tupM (Mn.bind (tupM (Mn.bind (Mn.ret (D.str "a")) fun d => Mn.bind (Mn.ret []) fun ds => Mn.ret (d :: ds))) fun d => Mn.bind (Mn.bind (tupM (Mn.bind (Mn.ret (D.str "ab")) fun d => Mn.bind (Mn.ret []) fun ds => Mn.ret (d :: ds))) fun d => Mn.bind (Mn.ret []) fun ds => Mn.ret (d :: ds)) fun ds => Mn.ret (d :: ds))) fun d => Mn.bind (Mn.bind (tupM (Mn.bind (tupM (Mn.bind (Mn.ret (D.str "a")) fun d => Mn.bind (Mn.bind (Mn.ret (D.str "b")) fun d => Mn.bind (Mn.ret []) fun ds => Mn.ret (d :: ds)) fun ds => Mn.ret (d :: ds))) fun d => Mn.bind (Mn.bind (tupM (Mn.bind (Mn.ret (D.str "a")) fun d => Mn.bind (Mn.ret []) fun ds => Mn.ret (d :: ds))) fun d => Mn.bind (Mn.ret []) fun ds => Mn.ret (d :: ds)) fun ds => Mn.ret (d :: ds))) fun d => Mn.bind (Mn.bind (tupM (Mn.bind (tupM (Mn.bind (Mn.ret (D.str "a")) fun d => Mn.bind (Mn.bind (Mn.ret (D.str "b")) fun d => Mn.bind (Mn.ret []) fun ds => Mn.ret (d :: ds)) fun ds => Mn.ret (d :: ds))) fun d => Mn.bind (Mn.bind (tupM (Mn.bind (Mn.ret (D.str "b")) fun d => Mn.bind (Mn.ret []) fun ds => Mn.ret (d :: ds))) fun d => Mn.bind (Mn.ret []) fun ds => Mn.ret (d :: ds)) fun ds => Mn.ret (d :: ds))) fun d => Mn.bind (Mn.ret []) fun ds => Mn.ret (d :: ds)) fun ds => Mn.ret (d :: ds)) fun ds => Mn.ret (d :: ds)) fun ds => Mn.ret (d :: ds)) fun ds => Mn.ret (d :: ds))))))
    (seqM (setM 0 (op2 addV (lv 0) (Mn.fr (lstM (Mn.bind (tupM (Mn.bind (tupM (Mn.ret [])) fun d => Mn.bind (Mn.bind (tupM (Mn.bind (Mn.ret (D.str "b")) fun d => Mn.bind (Mn.bind (Mn.ret (D.str "a")) fun d => Mn.bind (Mn.ret []) fun ds => Mn.ret (d :: ds)) fun ds => Mn.ret (d :: ds))) fun d => Mn.bind (Mn.ret []) fun ds => Mn.ret (d :: ds)) fun ds => Mn.ret (d :: ds))) fun d => Mn.bind (Mn.bind (tupM (Mn.bind (tupM (Mn.ret [])) fun d => Mn.bind (Mn.bind (tupM (Mn.bind (Mn.ret (D.str "a")) fun d => Mn.bind (Mn.bind (Mn.ret (D.str "a")) fun d => Mn.bind (Mn.ret []) fun ds => Mn.ret (d :: ds)) fun ds => Mn.ret (d :: ds))) fun d => Mn.bind (Mn.ret []) fun ds => Mn.ret (d :: ds)) fun ds => Mn.ret (d :: ds))) fun d => Mn.bind (Mn.bind (tupM (Mn.bind (tupM (Mn.ret [])) fun d => Mn.bind (Mn.bind (Mn.fr (lstM (Mn.bind (Mn.ret (D.str "a")) fun d => Mn.bind (Mn.ret []) fun ds => Mn.ret (d :: ds)))) fun d => Mn.bind (Mn.ret []) fun ds => Mn.ret (d :: ds)) fun ds => Mn.ret (d :: ds))) fun d => Mn.bind (Mn.bind (tupM (Mn.bind (tupM (Mn.bind (Mn.ret (D.str "a")) fun d => Mn.bind (Mn.ret []) fun ds => Mn.ret (d :: ds))) fun d => Mn.bind (Mn.bind (Mn.fr (lstM (Mn.bind (Mn.ret (D.str "a")) fun d => Mn.bind (Mn.ret []) fun ds => Mn.ret (d :: ds)))) fun d => Mn.bind (Mn.ret []) fun ds => Mn.ret (d :: ds)) fun ds => Mn.ret (d :: ds))) fun d => Mn.bind (Mn.bind (tupM (Mn.bind (tupM (Mn.ret [])) fun d => Mn.bind (Mn.bind (Mn.ret (D.str "a")) fun d => Mn.bind (Mn.ret []) fun ds => Mn.ret (d :: ds)) fun ds => Mn.ret (d :: ds))) fun d => Mn.bind (Mn.bind (tupM (Mn.bind (tupM (Mn.ret [])) fun d => Mn.bind (Mn.bind (Mn.ret D.non) fun d => Mn.bind (Mn.ret []) fun ds => Mn.ret (d :: ds)) fun ds => Mn.ret (d :: ds))) fun d => Mn.bind (Mn.ret []) fun ds => Mn.ret (d :: ds)) fun ds => Mn.ret (d :: ds)) fun ds => Mn.ret (d :: ds)) fun ds => Mn.ret (d :: ds)) fun ds => Mn.ret (d :: ds)) fun ds => Mn.ret (d :: ds))))))
    (seqM (setM 0 (op2 addV (lv 0) (Mn.fr (lstM (Mn.bind (tupM (Mn.bind (tupM (Mn.ret [])) fun d => Mn.bind (Mn.bind (tupM (Mn.bind (Mn.ret (D.str "A")) fun d => Mn.bind (Mn.ret []) fun ds => Mn.ret (d :: ds))) fun d => Mn.bind (Mn.ret []) fun ds => Mn.ret (d :: ds)) fun ds => Mn.ret (d :: ds))) fun d => Mn.bind (Mn.bind (tupM (Mn.bind (tupM (Mn.ret [])) fun d => Mn.bind (Mn.bind (Mn.ret dict0) fun d => Mn.bind (Mn.ret []) fun ds => Mn.ret (d :: ds)) fun ds => Mn.ret (d :: ds))) fun d => Mn.bind (Mn.bind (tupM (Mn.bind (tupM (Mn.ret [])) fun d => Mn.bind (Mn.bind (Mn.ret (D.int 7)) fun d => Mn.bind (Mn.ret []) fun ds => Mn.ret (d :: ds)) fun ds => Mn.ret (d :: ds))) fun d => Mn.bind (Mn.bind (tupM (Mn.bind (tupM (Mn.bind (Mn.ret (D.str "a")) fun d => Mn.bind (Mn.ret []) fun ds => Mn.ret (d :: ds))) fun d => Mn.bind (Mn.bind (tupM (Mn.bind (Mn.ret (D.str "a")) fun d => Mn.bind (Mn.bind (Mn.ret (D.str "c")) fun d => Mn.bind (Mn.ret []) fun ds => Mn.ret (d :: ds)) fun ds => Mn.ret (d :: ds))) fun d => Mn.bind (Mn.ret []) fun ds => Mn.ret (d :: ds)) fun ds => Mn.ret (d :: ds))) fun d => Mn.bind (Mn.bind (tupM (Mn.bind (tupM (Mn.ret [])) fun d => Mn.bind (Mn.bind (tupM (Mn.bind (Mn.ret (D.str "a")) fun d => Mn.bind (Mn.bind (Mn.ret (D.str "b")) fun d => Mn.bind (Mn.bind (Mn.ret (D.str "c")) fun d => Mn.bind (Mn.ret []) fun ds => Mn.ret (d :: ds)) fun ds => Mn.ret (d :: ds)) fun ds => Mn.ret (d :: ds))) fun d => Mn.bind (Mn.ret []) fun ds => Mn.ret (d :: ds)) fun ds => Mn.ret (d :: ds))) fun d => Mn.bind (Mn.ret []) fun ds => Mn.ret (d :: ds)) fun ds => Mn.ret (d :: ds)) fun ds => Mn.ret (d :: ds)) fun ds => Mn.ret (d :: ds)) fun ds => Mn.ret (d :: ds))))))
    (seqM (setM 0 (op2 addV (lv 0) (Mn.fr (lstM (Mn.bind (tupM (Mn.bind (tupM (Mn.ret [])) fun d => Mn.bind (Mn.bind (tupM (Mn.bind (Mn.ret (D.str "ab")) fun d => Mn.bind (Mn.ret []) fun ds => Mn.ret (d :: ds))) fun d => Mn.bind (Mn.ret []) fun ds => Mn.ret (d :: ds)) fun ds => Mn.ret (d :: ds))) fun d => Mn.bind (Mn.bind (tupM (Mn.bind (tupM (Mn.bind (Mn.ret (D.str "a")) fun d => Mn.bind (Mn.bind (Mn.ret (D.str "b")) fun d => Mn.bind (Mn.ret []) fun ds => Mn.ret (d :: ds)) fun ds => Mn.ret (d :: ds))) fun d => Mn.bind (Mn.bind (tupM (Mn.bind (Mn.ret (D.str "a")) fun d => Mn.bind (Mn.bind (Mn.ret (D.str "b")) fun d => Mn.bind (Mn.bind (Mn.ret (D.str "z")) fun d => Mn.bind (Mn.ret []) fun ds => Mn.ret (d :: ds)) fun ds => Mn.ret (d :: ds)) fun ds => Mn.ret (d :: ds))) fun d => Mn.bind (Mn.ret []) fun ds => Mn.ret (d :: ds)) fun ds => Mn.ret (d :: ds))) fun d => Mn.bind (Mn.bind (tupM (Mn.bind (tupM (Mn.ret [])) fun d => Mn.bind (Mn.bind (tupM (Mn.bind (Mn.ret (D.str "ab")) fun d => Mn.bind (Mn.bind (Mn.ret (D.str "b")) fun d => Mn.bind (Mn.ret []) fun ds => Mn.ret (d :: ds)) fun ds => Mn.ret (d :: ds))) fun d => Mn.bind (Mn.ret []) fun ds => Mn.ret (d :: ds)) fun ds => Mn.ret (d :: ds))) fun d => Mn.bind (Mn.bind (tupM (Mn.bind (tupM (Mn.bind (Mn.ret (D.str "b")) fun d => Mn.bind (Mn.ret []) fun ds => Mn.ret (d :: ds))) fun d => Mn.bind (Mn.bind (tupM (Mn.bind (Mn.ret (D.str "aa")) fun d => Mn.bind (Mn.bind (Mn.ret (D.str "b")) fun d => Mn.bind (Mn.ret []) fun ds => Mn.ret (d :: ds)) fun ds => Mn.ret (d :: ds))) fun d => Mn.bind (Mn.ret []) fun ds => Mn.ret (d :: ds)) fun ds => Mn.ret (d :: ds))) fun d => Mn.bind (Mn.ret []) fun ds => Mn.ret (d :: ds)) fun ds => Mn.ret (d :: ds)) fun ds => Mn.ret (d :: ds)) fun ds => Mn.ret (d :: ds))))))
    (seqM (retM (mv 0))
    nxM)))))))
def den__law_items : Den := denOf 1 m__law_items
theorem ok__law_items (T : Txt P w K mg A) : FnOk P w K mg base (L2.CX P w) 1 A._law_items A.fd__law_items [] (SpD ⟨K, mg, P, w⟩ 0 den__law_items) :=
  fn_data T.f__law_items sc__law_items fun cdv Ar outer s H E hr =>
    have hN := sc__law_items.nd
    show EvSs _ _ m__law_items from
      (es_cons (sv 0 hN (ee_lst (ea_cons (ed_tup (ea_cons (ed_tup (ea_cons ed_str (ea_cons ed_str ea_nil))) (ea_cons (ed_tup (ea_cons ed_str (ea_cons ed_str ea_nil))) ea_nil))) (ea_cons (ed_tup (ea_cons (ed_tup (ea_cons ed_str (ea_cons ed_str ea_nil))) (ea_cons (ed_tup (ea_cons ed_str ea_nil)) ea_nil))) (ea_cons (ed_tup (ea_cons (EvE.fr (ee_lst (ea_cons ed_str ea_nil))) (ea_cons (ed_tup (ea_cons ed_str ea_nil)) ea_nil))) (ea_cons (ed_tup (ea_cons ed_str (ea_cons (ed_tup (ea_cons ed_str ea_nil)) ea_nil))) (ea_cons (ed_tup (ea_cons ed_non (ea_cons (ed_tup (ea_cons ed_str ea_nil)) ea_nil))) ea_nil)))))))
      (es_cons (sv 0 hN (eAdd (dv 0) (EvE.fr (ee_lst (ea_cons (ed_tup (ea_cons (ed_tup (ea_cons ed_str ea_nil)) (ea_cons (ed_tup (ea_cons ed_str ea_nil)) ea_nil))) (ea_cons ed_non (ea_cons (ed_tup ea_nil) (ea_cons (ed_tup (ea_cons (ed_tup ea_nil) ea_nil)) (ea_cons (ed_tup (ea_cons (ed_tup ea_nil) (ea_cons (ed_tup ea_nil) (ea_cons (ed_tup ea_nil) ea_nil)))) (ea_cons (ed_tup (ea_cons (ed_tup (ea_cons ed_str ea_nil)) (ea_cons (ed_tup ea_nil) ea_nil))) (ea_cons (ed_tup (ea_cons (ed_tup (ea_cons ed_str ea_nil)) (ea_cons (ed_tup (ea_cons ed_str ea_nil)) ea_nil))) ea_nil)))))))))))
      (es_cons (sv 0 hN (eAdd (dv 0) (EvE.fr (ee_lst (ea_cons (EvE.fr (ee_lst (ea_cons (ed_tup ea_nil) (ea_cons (ed_tup ea_nil) ea_nil)))) (ea_cons (ed_tup (ea_cons (ed_tup ea_nil) (ea_cons (ed_tup (ea_cons ed_str ea_nil)) ea_nil))) (ea_cons (ed_tup (ea_cons (ed_tup (ea_cons ed_str ea_nil)) (ea_cons (ed_tup (ea_cons ed_str ea_nil)) ea_nil))) (ea_cons (ed_tup (ea_cons (ed_tup (ea_cons ed_str (ea_cons ed_str ea_nil))) (ea_cons (ed_tup (ea_cons ed_str ea_nil)) ea_nil))) (ea_cons (ed_tup (ea_cons (ed_tup (ea_cons ed_str (ea_cons ed_str ea_nil))) (ea_cons (ed_tup (ea_cons ed_str ea_nil)) ea_nil))) ea_nil)))))))))
      (es_cons (sv 0 hN (eAdd (dv 0) (EvE.fr (ee_lst (ea_cons (ed_tup (ea_cons (ed_tup ea_nil) (ea_cons (ed_tup (ea_cons ed_str (ea_cons ed_str ea_nil))) ea_nil))) (ea_cons (ed_tup (ea_cons (ed_tup ea_nil) (ea_cons (ed_tup (ea_cons ed_str (ea_cons ed_str ea_nil))) ea_nil))) (ea_cons (ed_tup (ea_cons (ed_tup ea_nil) (ea_cons (EvE.fr (ee_lst (ea_cons ed_str ea_nil))) ea_nil))) (ea_cons (ed_tup (ea_cons (ed_tup (ea_cons ed_str ea_nil)) (ea_cons (EvE.fr (ee_lst (ea_cons ed_str ea_nil))) ea_nil))) (ea_cons (ed_tup (ea_cons (ed_tup ea_nil) (ea_cons ed_str ea_nil))) (ea_cons (ed_tup (ea_cons (ed_tup ea_nil) (ea_cons ed_non ea_nil))) ea_nil))))))))))
      (es_cons (sv 0 hN (eAdd (dv 0) (EvE.fr (ee_lst (ea_cons (ed_tup (ea_cons (ed_tup ea_nil) (ea_cons (ed_tup (ea_cons ed_str ea_nil)) ea_nil))) (ea_cons (ed_tup (ea_cons (ed_tup ea_nil) (ea_cons ed_dict0 ea_nil))) (ea_cons (ed_tup (ea_cons (ed_tup ea_nil) (ea_cons ed_int ea_nil))) (ea_cons (ed_tup (ea_cons (ed_tup (ea_cons ed_str ea_nil)) (ea_cons (ed_tup (ea_cons ed_str (ea_cons ed_str ea_nil))) ea_nil))) (ea_cons (ed_tup (ea_cons (ed_tup ea_nil) (ea_cons (ed_tup (ea_cons ed_str (ea_cons ed_str (ea_cons ed_str ea_nil)))) ea_nil))) ea_nil)))))))))
      (es_cons (sv 0 hN (eAdd (dv 0) (EvE.fr (ee_lst (ea_cons (ed_tup (ea_cons (ed_tup ea_nil) (ea_cons (ed_tup (ea_cons ed_str ea_nil)) ea_nil))) (ea_cons (ed_tup (ea_cons (ed_tup (ea_cons ed_str (ea_cons ed_str ea_nil))) (ea_cons (ed_tup (ea_cons ed_str (ea_cons ed_str (ea_cons ed_str ea_nil)))) ea_nil))) (ea_cons (ed_tup (ea_cons (ed_tup ea_nil) (ea_cons (ed_tup (ea_cons ed_str (ea_cons ed_str ea_nil))) ea_nil))) (ea_cons (ed_tup (ea_cons (ed_tup (ea_cons ed_str ea_nil)) (ea_cons (ed_tup (ea_cons ed_str (ea_cons ed_str ea_nil))) ea_nil))) ea_nil))))))))
      (es_cons (es_ret (ev 0))
      es_nil)))))))
/-! _law_words -/
abbrev s__law_words : Stmt := top 46
theorem sc__law_words : FnScope ["words"] [] (defScope s__law_words) := ⟨rfl, rfl, rfl, by decide +kernel, rfl, by decide +kernel, by decide +kernel⟩
def m__law_words : Ms := (seqM (setM 0 (lstM (Mn.bind (Mn.ret D.non) fun d => Mn.bind (Mn.bind (Mn.ret (D.str "")) fun d => Mn.bind (Mn.bind (Mn.ret (D.str "Any")) fun d => Mn.bind (Mn.bind (Mn.ret (D.int 0)) fun d => Mn.bind (Mn.bind (tupM (Mn.bind (Mn.ret (D.str "any")) fun d => Mn.bind (Mn.ret []) fun ds => Mn.ret (d :: ds))) fun d => Mn.bind (Mn.bind (Mn.fr (lstM (Mn.bind (Mn.ret (D.str "plain")) fun d => Mn.bind (Mn.ret []) fun ds => Mn.ret (d :: ds)))) fun d => Mn.bind (Mn.bind (Mn.ret (D.str "many")) fun d => Mn.bind (Mn.bind (Mn.ret (D.bl true)) fun d => Mn.bind (Mn.bind (Mn.ret (D.str "basic")) fun d => Mn.bind (Mn.bind (Mn.ret (D.str "rules")) fun d => Mn.bind (Mn.bind (Mn.ret (D.str "all")) fun d => Mn.bind (Mn.bind (Mn.ret (D.str "total")) fun d => Mn.bind (Mn.bind (Mn.ret (D.str "plainly")) fun d => Mn.bind (Mn.ret []) fun ds => Mn.ret (d :: ds)) fun ds => Mn.ret (d :: ds)) fun ds => Mn.ret (d :: ds)) fun ds => Mn.ret (d :: ds)) fun ds => Mn.ret (d :: ds)) fun ds => Mn.ret (d :: ds)) fun ds => Mn.ret (d :: ds)) fun ds => Mn.ret (d :: ds)) fun ds => Mn.ret (d :: ds)) fun ds => Mn.ret (d :: ds)) fun ds => Mn.ret (d :: ds)) fun ds => Mn.ret (d :: ds)) fun ds => Mn.ret (d :: ds))))
    (seqM (setM 0 (op2 addV (lv 0) (Mn.fr (lstM (Mn.bind (Mn.ret (D.str "single ")) fun d => Mn.bind (Mn.bind (Mn.ret (D.str "any\n")) fun d => Mn.bind (Mn.bind (Mn.ret (D.str " any")) fun d => Mn.bind (Mn.bind (Mn.ret (D.str "plai")) fun d => Mn.bind (Mn.bind (Mn.ret (D.str "PLAIN")) fun d => Mn.bind (Mn.ret []) fun ds => Mn.ret (d :: ds)) fun ds => Mn.ret (d :: ds)) fun ds => Mn.ret (d :: ds)) fun ds => Mn.ret (d :: ds)) fun ds => Mn.ret (d :: ds))))))
    (seqM (retM (mv 0))
    nxM)))
def den__law_words : Den := denOf 1 m__law_words
theorem ok__law_words (T : Txt P w K mg A) : FnOk P w K mg base (L2.CX P w) 1 A._law_words A.fd__law_words [] (SpD ⟨K, mg, P, w⟩ 0 den__law_words) :=
  fn_data T.f__law_words sc__law_words fun cdv Ar outer s H E hr =>
    have hN := sc__law_words.nd
    show EvSs _ _ m__law_words from
      (es_cons (sv 0 hN (ee_lst (ea_cons ed_non (ea_cons ed_str (ea_cons ed_str (ea_cons ed_int (ea_cons (ed_tup (ea_cons ed_str ea_nil)) (ea_cons (EvE.fr (ee_lst (ea_cons ed_str ea_nil))) (ea_cons ed_str (ea_cons ed_bl (ea_cons ed_str (ea_cons ed_str (ea_cons ed_str (ea_cons ed_str (ea_cons ed_str ea_nil)))))))))))))))
      (es_cons (sv 0 hN (eAdd (dv 0) (EvE.fr (ee_lst (ea_cons ed_str (ea_cons ed_str (ea_cons ed_str (ea_cons ed_str (ea_cons ed_str ea_nil)))))))))
      (es_cons (es_ret (ev 0))
      es_nil)))
/-! law -/
abbrev s_law : Stmt := top 47
theorem sc_law : FnScope ["script", "at", "purse", "turn", "bads", "rows", "way", "bad", "odd", "word", "pair", "some"] ["script"] (defScope s_law) := ⟨rfl, rfl, rfl, by decide +kernel, rfl, by decide +kernel, by decide +kernel⟩
def b_law_1 : Ms := (seqM (ifM (cmpT neVX (Mn.fr (callM den__law_asked [] (Mn.bind (lv 6) fun d => Mn.bind (Mn.bind (lv 5) fun d => Mn.bind (Mn.bind (lv 7) fun d => Mn.bind (Mn.bind (lv 9) fun d => Mn.bind (Mn.ret []) fun ds => Mn.ret (d :: ds)) fun ds => Mn.ret (d :: ds)) fun ds => Mn.ret (d :: ds)) fun ds => Mn.ret (d :: ds)))) (Mn.fr (lstM (Mn.bind (Mn.ret (D.str "world")) fun d => Mn.bind (Mn.bind (lv 7) fun d => Mn.bind (Mn.ret []) fun ds => Mn.ret (d :: ds)) fun ds => Mn.ret (d :: ds))))) (seqM (retM (Mn.val (Mn.ret (D.bl false))))
    nxM) nxM)
    (seqM (ifM (cmpT neVX (Mn.fr (callM den__law_asked [] (Mn.bind (lv 6) fun d => Mn.bind (Mn.bind (lv 5) fun d => Mn.bind (Mn.bind (tupM (Mn.bind (Mn.ret (D.str "a")) fun d => Mn.bind (Mn.bind (Mn.ret (D.str "b")) fun d => Mn.bind (Mn.ret []) fun ds => Mn.ret (d :: ds)) fun ds => Mn.ret (d :: ds))) fun d => Mn.bind (Mn.bind (lv 9) fun d => Mn.bind (Mn.ret []) fun ds => Mn.ret (d :: ds)) fun ds => Mn.ret (d :: ds)) fun ds => Mn.ret (d :: ds)) fun ds => Mn.ret (d :: ds)))) (Mn.fr (lstM (Mn.bind (Mn.ret (D.str "pair")) fun d => Mn.bind (Mn.bind (lv 8) fun d => Mn.bind (Mn.ret []) fun ds => Mn.ret (d :: ds)) fun ds => Mn.ret (d :: ds))))) (seqM (retM (Mn.val (Mn.ret (D.bl false))))
    nxM) nxM)
    (seqM (ifM (cmpT neVX (Mn.fr (lcM (walkM (tupM (Mn.bind (Mn.fr (lstM (Mn.ret []))) fun d => Mn.bind (Mn.bind (tupM (Mn.ret [])) fun d => Mn.bind (Mn.ret []) fun ds => Mn.ret (d :: ds)) fun ds => Mn.ret (d :: ds)))) (gN 11) (Mn.ret true) (Mn.fr (callM den__law_asked [] (Mn.bind (lv 6) fun d => Mn.bind (Mn.bind (lv 11) fun d => Mn.bind (Mn.bind (lv 7) fun d => Mn.bind (Mn.bind (lv 9) fun d => Mn.bind (Mn.ret []) fun ds => Mn.ret (d :: ds)) fun ds => Mn.ret (d :: ds)) fun ds => Mn.ret (d :: ds)) fun ds => Mn.ret (d :: ds)))) [11])) (Mn.fr (repM (lstM (Mn.bind (Mn.fr (lstM (Mn.bind (Mn.ret (D.str "world")) fun d => Mn.bind (Mn.bind (lv 7) fun d => Mn.bind (Mn.ret []) fun ds => Mn.ret (d :: ds)) fun ds => Mn.ret (d :: ds)))) fun d => Mn.bind (Mn.ret []) fun ds => Mn.ret (d :: ds))) (Mn.ret (D.int 2))))) (seqM (retM (Mn.val (Mn.ret (D.bl false))))
    nxM) nxM)
    (seqM (ifM (cmpT neVX (Mn.fr (lcM (walkM (tupM (Mn.bind (Mn.fr (lstM (Mn.ret []))) fun d => Mn.bind (Mn.bind (tupM (Mn.ret [])) fun d => Mn.bind (Mn.bind (Mn.fr (lstM (Mn.bind (tupM (Mn.bind (tupM (Mn.ret [])) fun d => Mn.bind (Mn.bind (tupM (Mn.ret [])) fun d => Mn.bind (Mn.ret []) fun ds => Mn.ret (d :: ds)) fun ds => Mn.ret (d :: ds))) fun d => Mn.bind (Mn.ret []) fun ds => Mn.ret (d :: ds)))) fun d => Mn.bind (Mn.ret []) fun ds => Mn.ret (d :: ds)) fun ds => Mn.ret (d :: ds)) fun ds => Mn.ret (d :: ds)))) (gN 11) (Mn.ret true) (Mn.fr (callM den__law_asked [] (Mn.bind (lv 6) fun d => Mn.bind (Mn.bind (lv 11) fun d => Mn.bind (Mn.bind (tupM (Mn.bind (Mn.ret (D.str "a")) fun d => Mn.bind (Mn.ret []) fun ds => Mn.ret (d :: ds))) fun d => Mn.bind (Mn.bind (lv 9) fun d => Mn.bind (Mn.ret []) fun ds => Mn.ret (d :: ds)) fun ds => Mn.ret (d :: ds)) fun ds => Mn.ret (d :: ds)) fun ds => Mn.ret (d :: ds)))) [11])) (Mn.fr (repM (lstM (Mn.bind (Mn.fr (lstM (Mn.bind (Mn.ret (D.str "kind")) fun d => Mn.bind (Mn.bind (lv 9) fun d => Mn.bind (Mn.ret []) fun ds => Mn.ret (d :: ds)) fun ds => Mn.ret (d :: ds)))) fun d => Mn.bind (Mn.ret []) fun ds => Mn.ret (d :: ds))) (Mn.ret (D.int 3))))) (seqM (retM (Mn.val (Mn.ret (D.bl false))))
    nxM) nxM)
    (seqM (ifM (cmpT neVX (Mn.fr (callM den__law_asked [] (Mn.bind (lv 6) fun d => Mn.bind (Mn.bind (Mn.fr (lstM (Mn.bind (tupM (Mn.bind (tupM (Mn.ret [])) fun d => Mn.bind (Mn.bind (tupM (Mn.bind (Mn.ret (D.str "a")) fun d => Mn.bind (Mn.ret []) fun ds => Mn.ret (d :: ds))) fun d => Mn.bind (Mn.ret []) fun ds => Mn.ret (d :: ds)) fun ds => Mn.ret (d :: ds))) fun d => Mn.bind (Mn.ret []) fun ds => Mn.ret (d :: ds)))) fun d => Mn.bind (Mn.bind (tupM (Mn.bind (Mn.ret (D.str "a")) fun d => Mn.bind (Mn.ret []) fun ds => Mn.ret (d :: ds))) fun d => Mn.bind (Mn.bind (lv 9) fun d => Mn.bind (Mn.ret []) fun ds => Mn.ret (d :: ds)) fun ds => Mn.ret (d :: ds)) fun ds => Mn.ret (d :: ds)) fun ds => Mn.ret (d :: ds)))) (Mn.fr (lstM (Mn.bind (Mn.ret (D.str "kind")) fun d => Mn.bind (Mn.bind (lv 9) fun d => Mn.bind (Mn.ret []) fun ds => Mn.ret (d :: ds)) fun ds => Mn.ret (d :: ds))))) (seqM (retM (Mn.val (Mn.ret (D.bl false))))
    nxM) nxM)
    (seqM (setM 10 (Mn.val (tupM (Mn.bind (tupM (Mn.bind (Mn.ret (D.str "a")) fun d => Mn.bind (Mn.bind (Mn.ret (D.str "b")) fun d => Mn.bind (Mn.ret []) fun ds => Mn.ret (d :: ds)) fun ds => Mn.ret (d :: ds))) fun d => Mn.bind (Mn.bind (tupM (Mn.bind (Mn.ret (D.str "a")) fun d => Mn.bind (Mn.bind (Mn.ret (D.str "b")) fun d => Mn.bind (Mn.ret []) fun ds => Mn.ret (d :: ds)) fun ds => Mn.ret (d :: ds))) fun d => Mn.bind (Mn.ret []) fun ds => Mn.ret (d :: ds)) fun ds => Mn.ret (d :: ds)))))
    (seqM (ifM (cmpT neVX (Mn.fr (lcM (walkM (tupM (Mn.bind (tupM (Mn.bind (Mn.ret (D.str "a")) fun d => Mn.bind (Mn.ret []) fun ds => Mn.ret (d :: ds))) fun d => Mn.bind (Mn.bind (tupM (Mn.bind (Mn.ret (D.str "b")) fun d => Mn.bind (Mn.ret []) fun ds => Mn.ret (d :: ds))) fun d => Mn.bind (Mn.bind (tupM (Mn.ret [])) fun d => Mn.bind (Mn.ret []) fun ds => Mn.ret (d :: ds)) fun ds => Mn.ret (d :: ds)) fun ds => Mn.ret (d :: ds)))) (gN 11) (Mn.ret true) (Mn.fr (callM den__law_asked [] (Mn.bind (lv 6) fun d => Mn.bind (Mn.bind (Mn.fr (lstM (Mn.bind (lv 10) fun d => Mn.bind (Mn.ret []) fun ds => Mn.ret (d :: ds)))) fun d => Mn.bind (Mn.bind (lv 11) fun d => Mn.bind (Mn.bind (Mn.ret (D.str "any")) fun d => Mn.bind (Mn.ret []) fun ds => Mn.ret (d :: ds)) fun ds => Mn.ret (d :: ds)) fun ds => Mn.ret (d :: ds)) fun ds => Mn.ret (d :: ds)))) [11])) (Mn.fr (repM (lstM (Mn.bind (Mn.fr (lstM (Mn.bind (Mn.ret (D.str "pair")) fun d => Mn.bind (Mn.bind (lv 10) fun d => Mn.bind (Mn.ret []) fun ds => Mn.ret (d :: ds)) fun ds => Mn.ret (d :: ds)))) fun d => Mn.bind (Mn.ret []) fun ds => Mn.ret (d :: ds))) (Mn.ret (D.int 3))))) (seqM (retM (Mn.val (Mn.ret (D.bl false))))
    nxM) nxM)
    nxM)))))))
def l_law_1 : Ms := forM' (rng1M (Mn.bind (Mn.ret (D.int 2)) fun d => Mn.bind (Mn.ret []) fun ds => Mn.ret (d :: ds))) (gN 6) b_law_1
def b_law_2 : Ms := (seqM (setM 4 (lstM (Mn.bind (Mn.ret D.non) fun d => Mn.bind (Mn.bind (Mn.ret (D.str "a")) fun d => Mn.bind (Mn.bind (Mn.fr (lstM (Mn.bind (Mn.ret (D.str "a")) fun d => Mn.bind (Mn.ret []) fun ds => Mn.ret (d :: ds)))) fun d => Mn.bind (Mn.bind (tupM (Mn.bind (Mn.ret (D.str "b")) fun d => Mn.bind (Mn.bind (Mn.ret (D.str "a")) fun d => Mn.bind (Mn.ret []) fun ds => Mn.ret (d :: ds)) fun ds => Mn.ret (d :: ds))) fun d => Mn.bind (Mn.bind (tupM (Mn.bind (Mn.ret (D.str "a")) fun d => Mn.bind (Mn.bind (Mn.ret (D.str "a")) fun d => Mn.bind (Mn.ret []) fun ds => Mn.ret (d :: ds)) fun ds => Mn.ret (d :: ds))) fun d => Mn.bind (Mn.bind (tupM (Mn.bind (Mn.ret (D.str "A")) fun d => Mn.bind (Mn.ret []) fun ds => Mn.ret (d :: ds))) fun d => Mn.bind (Mn.bind (Mn.ret (D.int 7)) fun d => Mn.bind (Mn.bind (tupM (Mn.bind (Mn.ret (D.str "not")) fun d => Mn.bind (Mn.ret []) fun ds => Mn.ret (d :: ds))) fun d => Mn.bind (Mn.bind (Mn.ret dict0) fun d => Mn.bind (Mn.ret []) fun ds => Mn.ret (d :: ds)) fun ds => Mn.ret (d :: ds)) fun ds => Mn.ret (d :: ds)) fun ds => Mn.ret (d :: ds)) fun ds => Mn.ret (d :: ds)) fun ds => Mn.ret (d :: ds)) fun ds => Mn.ret (d :: ds)) fun ds => Mn.ret (d :: ds)) fun ds => Mn.ret (d :: ds))))
    (seqM (asgM (gTl 3 (gCn (gN 7) (gCn (gN 8) (gCn (gN 9) gNl)))) (Mn.fr (lctM (walkM (tupM (Mn.bind (lv 4) fun d => Mn.bind (Mn.bind (Mn.fr (callM den__law_items [] (Mn.ret []))) fun d => Mn.bind (Mn.bind (Mn.fr (callM den__law_words [] (Mn.ret []))) fun d => Mn.bind (Mn.ret []) fun ds => Mn.ret (d :: ds)) fun ds => Mn.ret (d :: ds)) fun ds => Mn.ret (d :: ds)))) (gN 11) (Mn.ret true) (Mn.fr (op2 ixV2 (lv 11) (Mn.fr (callP 2 den__law_draw (Mn.bind (Mn.fr (call1 lenV (Mn.bind (lv 11) fun d => Mn.bind (Mn.ret []) fun ds => Mn.ret (d :: ds)))) fun d => Mn.bind (Mn.ret []) fun ds => Mn.ret (d :: ds)))))) [11])))
    (seqM (setM 5 (lstM (Mn.bind (tupM (Mn.bind (tupM (Mn.ret [])) fun d => Mn.bind (Mn.bind (tupM (Mn.ret [])) fun d => Mn.bind (Mn.ret []) fun ds => Mn.ret (d :: ds)) fun ds => Mn.ret (d :: ds))) fun d => Mn.bind (Mn.bind (tupM (Mn.bind (tupM (Mn.ret [])) fun d => Mn.bind (Mn.bind (tupM (Mn.bind (Mn.ret (D.str "a")) fun d => Mn.bind (Mn.ret []) fun ds => Mn.ret (d :: ds))) fun d => Mn.bind (Mn.ret []) fun ds => Mn.ret (d :: ds)) fun ds => Mn.ret (d :: ds))) fun d => Mn.bind (Mn.bind (lv 8) fun d => Mn.bind (Mn.bind (Mn.ret D.non) fun d => Mn.bind (Mn.bind (tupM (Mn.bind (tupM (Mn.bind (Mn.ret (D.str "b")) fun d => Mn.bind (Mn.ret []) fun ds => Mn.ret (d :: ds))) fun d => Mn.bind (Mn.bind (tupM (Mn.bind (Mn.ret (D.str "b")) fun d => Mn.bind (Mn.ret []) fun ds => Mn.ret (d :: ds))) fun d => Mn.bind (Mn.ret []) fun ds => Mn.ret (d :: ds)) fun ds => Mn.ret (d :: ds))) fun d => Mn.bind (Mn.ret []) fun ds => Mn.ret (d :: ds)) fun ds => Mn.ret (d :: ds)) fun ds => Mn.ret (d :: ds)) fun ds => Mn.ret (d :: ds)) fun ds => Mn.ret (d :: ds))))
    (seqM (ifM (cmpT eqVX (Mn.fr (callP 2 den__law_draw (Mn.bind (Mn.ret (D.int 2)) fun d => Mn.bind (Mn.ret []) fun ds => Mn.ret (d :: ds)))) (Mn.ret (D.int 0))) (seqM (setM 5 (call1 tupleV (Mn.bind (lv 5) fun d => Mn.bind (Mn.ret []) fun ds => Mn.ret (d :: ds))))
    nxM) nxM)
    (seqM l_law_1
    nxM)))))
def l_law_2 : Ms := forM' (rng1M (Mn.bind (Mn.ret (D.int 4)) fun d => Mn.bind (Mn.ret []) fun ds => Mn.ret (d :: ds))) (gN 3) b_law_2
def b_law_3 : Ms := (seqM (setM 2 (callM den__law_purse [] (Mn.bind (lv 0) fun d => Mn.bind (Mn.bind (lv 1) fun d => Mn.bind (Mn.ret []) fun ds => Mn.ret (d :: ds)) fun ds => Mn.ret (d :: ds))))
    (seqM l_law_2
    nxM))
def l_law_3 : Ms := forM' (rng1M (Mn.bind (Mn.fr (op2 addV (Mn.ret (D.int 1)) (Mn.fr (call1 minV (Mn.bind (Mn.ret (D.int 5)) fun d => Mn.bind (Mn.bind (Mn.fr (call1 lenV (Mn.bind (lv 0) fun d => Mn.bind (Mn.ret []) fun ds => Mn.ret (d :: ds)))) fun d => Mn.bind (Mn.ret []) fun ds => Mn.ret (d :: ds)) fun ds => Mn.ret (d :: ds)))))) fun d => Mn.bind (Mn.ret []) fun ds => Mn.ret (d :: ds))) (gN 1) b_law_3
def m_law : Ms := (seqM l_law_3
    (seqM (ifM (cmpT neVX (Mn.fr (callM den__law_asked [] (Mn.bind (Mn.ret (D.int 1)) fun d => Mn.bind (Mn.bind (Mn.fr (lstM (Mn.bind (tupM (Mn.bind (tupM (Mn.ret [])) fun d => Mn.bind (Mn.bind (tupM (Mn.bind (Mn.ret (D.str "a")) fun d => Mn.bind (Mn.ret []) fun ds => Mn.ret (d :: ds))) fun d => Mn.bind (Mn.ret []) fun ds => Mn.ret (d :: ds)) fun ds => Mn.ret (d :: ds))) fun d => Mn.bind (Mn.ret []) fun ds => Mn.ret (d :: ds)))) fun d => Mn.bind (Mn.bind (tupM (Mn.bind (Mn.ret (D.str "a")) fun d => Mn.bind (Mn.ret []) fun ds => Mn.ret (d :: ds))) fun d => Mn.bind (Mn.bind (Mn.ret (D.str "any")) fun d => Mn.bind (Mn.ret []) fun ds => Mn.ret (d :: ds)) fun ds => Mn.ret (d :: ds)) fun ds => Mn.ret (d :: ds)) fun ds => Mn.ret (d :: ds)))) (Mn.fr (lstM (Mn.bind (Mn.ret (D.str "ok")) fun d => Mn.bind (Mn.bind (Mn.ret (D.bl true)) fun d => Mn.bind (Mn.ret []) fun ds => Mn.ret (d :: ds)) fun ds => Mn.ret (d :: ds))))) (seqM (retM (Mn.val (Mn.ret (D.bl false))))
    nxM) nxM)
    (seqM (retM (op2 eqVX (Mn.fr (callM den__law_asked [] (Mn.bind (Mn.ret (D.int 0)) fun d => Mn.bind (Mn.bind (Mn.fr (lstM (Mn.ret []))) fun d => Mn.bind (Mn.bind (tupM (Mn.ret [])) fun d => Mn.bind (Mn.bind (Mn.ret (D.str "plain")) fun d => Mn.bind (Mn.ret []) fun ds => Mn.ret (d :: ds)) fun ds => Mn.ret (d :: ds)) fun ds => Mn.ret (d :: ds)) fun ds => Mn.ret (d :: ds)))) (Mn.fr (lstM (Mn.bind (Mn.ret (D.str "ok")) fun d => Mn.bind (Mn.bind (Mn.ret (D.bl true)) fun d => Mn.bind (Mn.ret []) fun ds => Mn.ret (d :: ds)) fun ds => Mn.ret (d :: ds))))))
    nxM)))
def den_law : Den := denOf 11 m_law
theorem ok_law (T : Txt P w K mg A) : FnOk P w K mg base (L2.CX P w) 7 A.law A.fd_law ["script"] (SpD ⟨K, mg, P, w⟩ 1 den_law) :=
  fn_data T.f_law sc_law fun cdv Ar outer s H E hr =>
    have hN := sc_law.nd
    show EvSs _ _ m_law from
      (es_cons (es_for (passes_of rfl) rfl (ei_range1 rfl T.n_range (ea_cons (EvE.fr (eAdd ed_int (EvE.fr (cMin T.n_min (ea_cons ed_int (ea_cons (EvE.fr (cLen T.n_len (ea_cons (dv 0) ea_nil))) ea_nil)))))) ea_nil)) (gv 1 hN) (es_cons (sv 2 hN (ee_call (dd := []) (ok__law_purse T) (hr.mono (by decide)) rfl T.g__law_purse T.k__law_purse T.b__law_purse .nil (fun _ => .nil) (ea_cons (dv 0) (ea_cons (dv 1) ea_nil)) (fun a b c h => by rw [List.append_nil, (la_cons (la_cons la_nil)) a b c h])))
      (es_cons (es_for (passes_of rfl) rfl (ei_range1 rfl T.n_range (ea_cons ed_int ea_nil)) (gv 3 hN) (es_cons (sv 4 hN (ee_lst (ea_cons ed_non (ea_cons ed_str (ea_cons (EvE.fr (ee_lst (ea_cons ed_str ea_nil))) (ea_cons (ed_tup (ea_cons ed_str (ea_cons ed_str ea_nil))) (ea_cons (ed_tup (ea_cons ed_str (ea_cons ed_str ea_nil))) (ea_cons (ed_tup (ea_cons ed_str ea_nil)) (ea_cons ed_int (ea_cons (ed_tup (ea_cons ed_str ea_nil)) (ea_cons ed_dict0 ea_nil)))))))))))
      (es_cons (es_asg (EvE.fr (ee_lct rfl hN (own := [("some", 11)]) (ei_any (ed_tup (ea_cons (dv 4) (ea_cons (EvE.fr (ee_call0 (dd := []) (ok__law_items T) (hr.mono (by decide)) rfl T.g__law_items T.k__law_items T.b__law_items .nil (fun _ => .nil) rfl)) (ea_cons (EvE.fr (ee_call0 (dd := []) (ok__law_words T) (hr.mono (by decide)) rfl T.g__law_words T.k__law_words T.b__law_words .nil (fun _ => .nil) rfl)) ea_nil))))) (blkOk_by (by show blkC ["script", "at", "purse", "turn", "bads", "rows", "way", "bad", "odd", "word", "pair", "some"] (defScope s_law) _ _ = true; decide +kernel)) (fun _ _ _ _ _ => (gv 11 hN)) (fun _ _ _ _ _ => ets_nil) (fun _ _ _ _ _ => (EvE.fr (ee_ix2 hr (dv 11) (EvE.fr (ee_callP (ok__law_draw T) (hr.mono (by decide)) rfl T.g__law_draw T.k__law_draw T.b__law_draw (nv 2) (ea_cons (EvE.fr (cLen T.n_len (ea_cons (dv 11) ea_nil))) ea_nil) (fun a b c h => congrArg (· + 1) ((la_cons la_nil) a b c h)))) (fun _ _ => rfl)))) (by decide))) (eg_lst rfl (egs_cons (gv 7 hN) (egs_cons (gv 8 hN) (egs_cons (gv 9 hN) egs_nil)))))
      (es_cons (sv 5 hN (ee_lst (ea_cons (ed_tup (ea_cons (ed_tup ea_nil) (ea_cons (ed_tup ea_nil) ea_nil))) (ea_cons (ed_tup (ea_cons (ed_tup ea_nil) (ea_cons (ed_tup (ea_cons ed_str ea_nil)) ea_nil))) (ea_cons (dv 8) (ea_cons ed_non (ea_cons (ed_tup (ea_cons (ed_tup (ea_cons ed_str ea_nil)) (ea_cons (ed_tup (ea_cons ed_str ea_nil)) ea_nil))) ea_nil)))))))
      (es_cons (es_if (tEqX hr (EvE.fr (ee_callP (ok__law_draw T) (hr.mono (by decide)) rfl T.g__law_draw T.k__law_draw T.b__law_draw (nv 2) (ea_cons ed_int ea_nil) (fun a b c h => congrArg (· + 1) ((la_cons la_nil) a b c h)))) ed_int) (es_cons (sv 5 hN (cTuple T.n_tuple (ea_cons (dv 5) ea_nil)))
      es_nil) es_nil)
      (es_cons (es_for (passes_of rfl) rfl (ei_range1 rfl T.n_range (ea_cons ed_int ea_nil)) (gv 6 hN) (es_cons (es_if (tNeX hr (EvE.fr (ee_call (dd := []) (ok__law_asked T) (hr.mono (by decide)) rfl T.g__law_asked T.k__law_asked T.b__law_asked .nil (fun _ => .nil) (ea_cons (dv 6) (ea_cons (dv 5) (ea_cons (dv 7) (ea_cons (dv 9) ea_nil)))) (fun a b c h => by rw [List.append_nil, (la_cons (la_cons (la_cons (la_cons la_nil)))) a b c h]))) (EvE.fr (ee_lst (ea_cons ed_str (ea_cons (dv 7) ea_nil))))) (es_cons (es_ret (EvD.val ed_bl))
      es_nil) es_nil)
      (es_cons (es_if (tNeX hr (EvE.fr (ee_call (dd := []) (ok__law_asked T) (hr.mono (by decide)) rfl T.g__law_asked T.k__law_asked T.b__law_asked .nil (fun _ => .nil) (ea_cons (dv 6) (ea_cons (dv 5) (ea_cons (ed_tup (ea_cons ed_str (ea_cons ed_str ea_nil))) (ea_cons (dv 9) ea_nil)))) (fun a b c h => by rw [List.append_nil, (la_cons (la_cons (la_cons (la_cons la_nil)))) a b c h]))) (EvE.fr (ee_lst (ea_cons ed_str (ea_cons (dv 8) ea_nil))))) (es_cons (es_ret (EvD.val ed_bl))
      es_nil) es_nil)
      (es_cons (es_if (tNeX hr (EvE.fr (ee_lc rfl hN (own := [("some", 11)]) (ei_any (ed_tup (ea_cons (EvE.fr (ee_lst ea_nil)) (ea_cons (ed_tup ea_nil) ea_nil)))) (blkOk_by (by show blkC ["script", "at", "purse", "turn", "bads", "rows", "way", "bad", "odd", "word", "pair", "some"] (defScope s_law) _ _ = true; decide +kernel)) (fun _ _ _ _ _ => (gv 11 hN)) (fun _ _ _ _ _ => ets_nil) (fun _ _ _ _ _ => (EvE.fr (ee_call (dd := []) (ok__law_asked T) (hr.mono (by decide)) rfl T.g__law_asked T.k__law_asked T.b__law_asked .nil (fun _ => .nil) (ea_cons (dv 6) (ea_cons (dv 11) (ea_cons (dv 7) (ea_cons (dv 9) ea_nil)))) (fun a b c h => by rw [List.append_nil, (la_cons (la_cons (la_cons (la_cons la_nil)))) a b c h])))) (by decide))) (EvE.fr (ee_rep (ee_lst (ea_cons (EvE.fr (ee_lst (ea_cons ed_str (ea_cons (dv 7) ea_nil)))) ea_nil)) ed_int))) (es_cons (es_ret (EvD.val ed_bl))
      es_nil) es_nil)
      (es_cons (es_if (tNeX hr (EvE.fr (ee_lc rfl hN (own := [("some", 11)]) (ei_any (ed_tup (ea_cons (EvE.fr (ee_lst ea_nil)) (ea_cons (ed_tup ea_nil) (ea_cons (EvE.fr (ee_lst (ea_cons (ed_tup (ea_cons (ed_tup ea_nil) (ea_cons (ed_tup ea_nil) ea_nil))) ea_nil))) ea_nil))))) (blkOk_by (by show blkC ["script", "at", "purse", "turn", "bads", "rows", "way", "bad", "odd", "word", "pair", "some"] (defScope s_law) _ _ = true; decide +kernel)) (fun _ _ _ _ _ => (gv 11 hN)) (fun _ _ _ _ _ => ets_nil) (fun _ _ _ _ _ => (EvE.fr (ee_call (dd := []) (ok__law_asked T) (hr.mono (by decide)) rfl T.g__law_asked T.k__law_asked T.b__law_asked .nil (fun _ => .nil) (ea_cons (dv 6) (ea_cons (dv 11) (ea_cons (ed_tup (ea_cons ed_str ea_nil)) (ea_cons (dv 9) ea_nil)))) (fun a b c h => by rw [List.append_nil, (la_cons (la_cons (la_cons (la_cons la_nil)))) a b c h])))) (by decide))) (EvE.fr (ee_rep (ee_lst (ea_cons (EvE.fr (ee_lst (ea_cons ed_str (ea_cons (dv 9) ea_nil)))) ea_nil)) ed_int))) (es_cons (es_ret (EvD.val ed_bl))
      es_nil) es_nil)
      (es_cons (es_if (tNeX hr (EvE.fr (ee_call (dd := []) (ok__law_asked T) (hr.mono (by decide)) rfl T.g__law_asked T.k__law_asked T.b__law_asked .nil (fun _ => .nil) (ea_cons (dv 6) (ea_cons (EvE.fr (ee_lst (ea_cons (ed_tup (ea_cons (ed_tup ea_nil) (ea_cons (ed_tup (ea_cons ed_str ea_nil)) ea_nil))) ea_nil))) (ea_cons (ed_tup (ea_cons ed_str ea_nil)) (ea_cons (dv 9) ea_nil)))) (fun a b c h => by rw [List.append_nil, (la_cons (la_cons (la_cons (la_cons la_nil)))) a b c h]))) (EvE.fr (ee_lst (ea_cons ed_str (ea_cons (dv 9) ea_nil))))) (es_cons (es_ret (EvD.val ed_bl))
      es_nil) es_nil)
      (es_cons (sv 10 hN (EvD.val (ed_tup (ea_cons (ed_tup (ea_cons ed_str (ea_cons ed_str ea_nil))) (ea_cons (ed_tup (ea_cons ed_str (ea_cons ed_str ea_nil))) ea_nil)))))
      (es_cons (es_if (tNeX hr (EvE.fr (ee_lc rfl hN (own := [("some", 11)]) (ei_any (ed_tup (ea_cons (ed_tup (ea_cons ed_str ea_nil)) (ea_cons (ed_tup (ea_cons ed_str ea_nil)) (ea_cons (ed_tup ea_nil) ea_nil))))) (blkOk_by (by show blkC ["script", "at", "purse", "turn", "bads", "rows", "way", "bad", "odd", "word", "pair", "some"] (defScope s_law) _ _ = true; decide +kernel)) (fun _ _ _ _ _ => (gv 11 hN)) (fun _ _ _ _ _ => ets_nil) (fun _ _ _ _ _ => (EvE.fr (ee_call (dd := []) (ok__law_asked T) (hr.mono (by decide)) rfl T.g__law_asked T.k__law_asked T.b__law_asked .nil (fun _ => .nil) (ea_cons (dv 6) (ea_cons (EvE.fr (ee_lst (ea_cons (dv 10) ea_nil))) (ea_cons (dv 11) (ea_cons ed_str ea_nil)))) (fun a b c h => by rw [List.append_nil, (la_cons (la_cons (la_cons (la_cons la_nil)))) a b c h])))) (by decide))) (EvE.fr (ee_rep (ee_lst (ea_cons (EvE.fr (ee_lst (ea_cons ed_str (ea_cons (dv 10) ea_nil)))) ea_nil)) ed_int))) (es_cons (es_ret (EvD.val ed_bl))
      es_nil) es_nil)
      es_nil))))))))
      es_nil))))))
      es_nil)))
      (es_cons (es_if (tNeX hr (EvE.fr (ee_call (dd := []) (ok__law_asked T) (hr.mono (by decide)) rfl T.g__law_asked T.k__law_asked T.b__law_asked .nil (fun _ => .nil) (ea_cons ed_int (ea_cons (EvE.fr (ee_lst (ea_cons (ed_tup (ea_cons (ed_tup ea_nil) (ea_cons (ed_tup (ea_cons ed_str ea_nil)) ea_nil))) ea_nil))) (ea_cons (ed_tup (ea_cons ed_str ea_nil)) (ea_cons ed_str ea_nil)))) (fun a b c h => by rw [List.append_nil, (la_cons (la_cons (la_cons (la_cons la_nil)))) a b c h]))) (EvE.fr (ee_lst (ea_cons ed_str (ea_cons ed_bl ea_nil))))) (es_cons (es_ret (EvD.val ed_bl))
      es_nil) es_nil)
      (es_cons (es_ret (eEqX hr (EvE.fr (ee_call (dd := []) (ok__law_asked T) (hr.mono (by decide)) rfl T.g__law_asked T.k__law_asked T.b__law_asked .nil (fun _ => .nil) (ea_cons ed_int (ea_cons (EvE.fr (ee_lst ea_nil)) (ea_cons (ed_tup ea_nil) (ea_cons ed_str ea_nil)))) (fun a b c h => by rw [List.append_nil, (la_cons (la_cons (la_cons (la_cons la_nil)))) a b c h]))) (EvE.fr (ee_lst (ea_cons ed_str (ea_cons ed_bl ea_nil))))))
      es_nil)))
end
end RW

set_option Elab.async false
set_option linter.all false
set_option maxRecDepth 100000
set_option maxHeartbeats 400000
set_option exponentiation.threshold 1000
namespace RW
open PySem PySem.Spec PyProof.Rows L2

theorem ixV_nat {ds : List D} {k : Nat} {d : D} (h : ds[k]? = some d) : ixV (.lst ds) (.int (k : Int)) = some (.val d) := by
  simp only [ixV, atI_nat h, Option.map_some]
theorem at_ok (ns : List Int) (k : Nat) : ∃ z : Int, den__law_at [.lst (ns.map .int), .int k] = some (.ok (.val (.int z))) := by
  unfold den__law_at denOf m__law_at
  by_cases h : k < ns.length
  · have e : ixV (.lst (ns.map .int)) (.int (k : Int)) = some (.val (.int ns[k])) := ixV_nat (by simp [h])
    exact ⟨ns[k], by simp [seqM, ifM, thenS, cmpT, op2, Mn.bind, Mn.ret, Mn.lift, Mn.fr, Mn.val, frz, lv, mv, call1, lenV, vI, vB, ltV, boolOf, retM, nxM, setM, putSl, isLent, slOf, ixV2, intV, int2, int0, addV, mulV, modV, subV, fdivV, maxV, minV, gtV, cmp0, lstM, tupM, ixO, hasO, ownOf, setI, putO, reSl, callM, andM, orM, notM, tstM, ifE, sizeLine_eq, h, e]⟩
  · exact ⟨0, by simp [seqM, ifM, thenS, cmpT, op2, Mn.bind, Mn.ret, Mn.lift, Mn.fr, Mn.val, frz, lv, mv, call1, lenV, vI, vB, ltV, boolOf, retM, nxM, setM, putSl, isLent, slOf, ixV2, intV, int2, int0, addV, mulV, modV, subV, fdivV, maxV, minV, gtV, cmp0, lstM, tupM, ixO, hasO, ownOf, setI, putO, reSl, callM, andM, orM, notM, tstM, ifE, sizeLine_eq, h]⟩
theorem log_small {a : Int} {n : Nat} (h : a.natAbs < 2 ^ n) (hn : 0 < n) : a.natAbs.log2 < n := by
  by_cases z : a.natAbs = 0
  · rw [z]
    simpa using hn
  · exact (Nat.log2_lt z).mpr h
theorem mul_small {i j : Int} (h1 : i.natAbs < 2 ^ 400) (h2 : j.natAbs < 2 ^ 400) : CMulW i j := by
  have := log_small h1 (by decide)
  have := log_small h2 (by decide)
  unfold CMulW
  omega
theorem mixed_ok (c k : Int) (h1 : c.natAbs < 2 ^ 64) (h2 : k.natAbs < 2 ^ 64) : ∃ z : Int, den__law_mixed [.int c, .int k] = some (.ok (.val (.int z))) := by
  have p : (2 : Nat) ^ 64 ≤ 2 ^ 400 := Nat.pow_le_pow_right (by decide) (by decide)
  have c1 : CMulW c 1103515245 := mul_small (by omega) (by decide)
  have c2 : CMulW 7919 k := mul_small (by decide) (by omega)
  have c3 : CMulW (7919 * k) k := mul_small (by rw [Int.natAbs_mul]; exact Nat.lt_of_le_of_lt (Nat.mul_le_mul (by decide : (7919 : Int).natAbs ≤ 7919) (Nat.le_of_lt h2)) (by decide : 7919 * 2 ^ 64 < 2 ^ 400)) (by omega)
  generalize hn : (c * 1103515245 + 7919 * k * k + k + 1) % 2147483647 = n
  have nn : 0 ≤ n ∧ n < 2147483647 := by omega
  have q : (2147483648 : Nat) < 2 ^ 400 := by decide
  have c4 : CMulW n n := mul_small (by omega) (by omega)
  generalize hm : (n * n + 69621) % 2147483629 = m
  have mm : 0 ≤ m ∧ m < 2147483629 := by omega
  have c5 : CMulW m 48271 := mul_small (by omega) (by decide)
  refine ⟨m * 48271 % 2147483587, ?_⟩
  unfold den__law_mixed denOf m__law_mixed
  simp [seqM, ifM, thenS, cmpT, op2, Mn.bind, Mn.ret, Mn.lift, Mn.fr, Mn.val, frz, lv, mv, call1, lenV, vI, vB, ltV, boolOf, retM, nxM, setM, putSl, isLent, slOf, ixV2, intV, int2, int0, addV, mulV, modV, subV, fdivV, maxV, minV, gtV, cmp0, lstM, tupM, ixO, hasO, ownOf, setI, putO, reSl, callM, andM, orM, notM, tstM, ifE, sizeLine_eq, c1, c2, c3, hn, c4, hm, c5]
def PurseOk (n : Nat) (ps : List D) : Prop := ∃ a b c : Int, ps = [.int a, .int b, .int c] ∧ 0 ≤ a ∧ b.natAbs < 2 ^ 64 ∧ 0 ≤ c ∧ c ≤ n
theorem pow_is {i j : Int} {r : Int} (h : CPowI i j) (e : i ^ j.toNat = r) : powV (.int i) (.int j) = some (.val (.int r)) := by
  show (if CPowI i j then some (RV.val (.int (i ^ j.toNat))) else none) = _
  rw [if_pos h, e]
theorem purse_ok (ns : List Int) (k : Nat) (hk : k < 100) : ∃ ps, den__law_purse [.lst (ns.map .int), .int k] = some (.ok (.new ps)) ∧ PurseOk (1000 * k) ps := by
  obtain ⟨z, hz⟩ := at_ok ns k
  generalize hM : ((10 : Int) ^ 60) ^ 10 = M
  have hM0 : 0 < M := by rw [← hM]; exact Int.pow_pos (Int.pow_pos (by decide))
  have p1 : powV (.int 10) (.int 18) = some (.val (.int (10 ^ 18))) := pow_is (by decide +kernel) rfl
  have p2 : powV (.int 10) (.int 60) = some (.val (.int (10 ^ 60))) := pow_is (by decide +kernel) rfl
  have p3 : powV (.int (10 ^ 60)) (.int 10) = some (.val (.int M)) := pow_is (by decide +kernel) hM
  generalize hT : (10 : Int) ^ 18 = T18 at p1
  generalize hS : (10 : Int) ^ 60 = S60 at p2 p3
  have c1 : CMulW 1000 (k : Int) := mul_small (by decide) (by have : (2 : Nat) ^ 64 ≤ 2 ^ 400 := Nat.pow_le_pow_right (by decide) (by decide); omega)
  refine ⟨[.int ((if 0 > z - T18 then 0 else z - T18) % M), .int (z % 2147483647), .int (1000 * k)], ?_, _, _, _, rfl, Int.emod_nonneg _ (by omega), by omega, by omega, by omega⟩
  unfold den__law_purse denOf m__law_purse
  simp [seqM, ifM, thenS, cmpT, op2, Mn.bind, Mn.ret, Mn.lift, Mn.fr, Mn.val, frz, lv, mv, call1, lenV, vI, vB, ltV, boolOf, retM, nxM, setM, putSl, isLent, slOf, ixV2, intV, int2, int0, addV, mulV, modV, subV, fdivV, maxV, minV, gtV, cmp0, lstM, tupM, ixO, hasO, ownOf, setI, putO, reSl, callM, andM, orM, notM, tstM, ifE, sizeLine_eq, hz, p1, p2, p3, hM0, c1]
theorem draw_ok {n : Nat} {ps : List D} (h : PurseOk n ps) (hn : n < 2 ^ 40) (m : Nat) (hm : 0 < m) (hm2 : m < 2 ^ 60) : ∃ (d : Nat) (ps' : List D), d < m ∧ den__law_draw ps [.int m] = some (.ok (.val (.int d)), ps') ∧ PurseOk (n + 1) ps' := by
  obtain ⟨a, b, c, rfl, ha, hb, hc, hcn⟩ := h
  have i0 : ∀ x y z : D, ixV (.lst [x, y, z]) (.int 0) = some (.val x) := fun _ _ _ => rfl
  have i1 : ∀ x y z : D, ixV (.lst [x, y, z]) (.int 1) = some (.val y) := fun _ _ _ => rfl
  have i2 : ∀ x y z : D, ixV (.lst [x, y, z]) (.int 2) = some (.val z) := fun _ _ _ => rfl
  have j0 : ixN 3 0 = some 0 := rfl
  have j2 : ixN 3 2 = some 2 := rfl
  have hm' : (0 : Int) < m := by omega
  by_cases h0 : 0 < a
  · have cd : CDivW a m := ⟨hm', Nat.lt_trans (log_small (a := (m : Int)) (n := 60) (by simpa using hm2) (by decide)) (by decide)⟩
    refine ⟨(a % m).toNat, [.int (a / m), .int b, .int c], ?_, ?_, _, _, _, rfl, Int.ediv_nonneg ha (by omega), hb, hc, by omega⟩
    · have := Int.emod_lt_of_pos a hm'
      have := Int.emod_nonneg a (by omega : (m : Int) ≠ 0)
      omega
    · have e : ((a % m).toNat : Int) = a % m := Int.toNat_of_nonneg (Int.emod_nonneg a (by omega))
      rw [e]
      unfold den__law_draw denP m__law_draw
      simp [seqM, ifM, thenS, cmpT, op2, Mn.bind, Mn.ret, Mn.lift, Mn.fr, Mn.val, frz, lv, mv, call1, lenV, vI, vB, ltV, boolOf, retM, nxM, setM, putSl, isLent, slOf, ixV2, intV, int2, int0, addV, mulV, modV, subV, fdivV, maxV, minV, gtV, cmp0, lstM, tupM, ixO, hasO, ownOf, setI, putO, reSl, callM, andM, orM, notM, tstM, ifE, sizeLine_eq, i0, i1, i2, j0, j2, h0, hm', cd, hm]
  · obtain ⟨z, hz⟩ := mixed_ok b (c + 1) hb (by omega)
    refine ⟨(z % m).toNat, [.int a, .int b, .int (c + 1)], ?_, ?_, _, _, _, rfl, ha, hb, by omega, by omega⟩
    · have := Int.emod_lt_of_pos z hm'
      have := Int.emod_nonneg z (by omega : (m : Int) ≠ 0)
      omega
    · have e : ((z % m).toNat : Int) = z % m := Int.toNat_of_nonneg (Int.emod_nonneg z (by omega))
      rw [e]
      unfold den__law_draw denP m__law_draw
      simp [seqM, ifM, thenS, cmpT, op2, Mn.bind, Mn.ret, Mn.lift, Mn.fr, Mn.val, frz, lv, mv, call1, lenV, vI, vB, ltV, boolOf, retM, nxM, setM, putSl, isLent, slOf, ixV2, intV, int2, int0, addV, mulV, modV, subV, fdivV, maxV, minV, gtV, cmp0, lstM, tupM, ixO, hasO, ownOf, setI, putO, reSl, callM, andM, orM, notM, tstM, ifE, sizeLine_eq, i0, i1, i2, j0, j2, h0, hm', hz, hm]
end RW

set_option Elab.async false
set_option linter.all false
set_option maxRecDepth 100000
set_option maxHeartbeats 1000000
namespace RW
open PySem PySem.Spec PyProof.Rows L2

def chkX (r : Option (Rs RV)) (x : Str) (d : D) : Bool := match r with
  | some (.ex y (some e)) => decide (y = x) && decide (e = d)
  | _ => false
theorem chkX_ok {r : Option (Rs RV)} {x : Str} {d : D} (h : chkX r x d = true) : r = some (.ex x (some d)) := by
  unfold chkX at h
  split at h
  · rw [Bool.and_eq_true] at h
    rw [of_decide_eq_true h.1, of_decide_eq_true h.2]
  · cases h
def chkB (r : Option RV) (b : Bool) : Bool := match r with
  | some (.val (.bl c)) => c == b
  | _ => false
theorem chkB_ok {r : Option RV} {b : Bool} (h : chkB r b = true) : r = some (.val (.bl b)) := by
  unfold chkB at h
  split at h
  · rw [beq_iff_eq.mp h]
  · cases h
/-- the drawn things -/
def Bads : List D := [.non, .str "a", .lst [.str "a"], .tup [.str "b", .str "a"], .tup [.str "a", .str "a"], .tup [.str "A"], .int 7, .tup [.str "not"], dict0]
def newOf (r : Option (Rs RV)) : List D := match r with
  | some (.ok (.new l)) => l
  | _ => []
def It : List D := newOf (den__law_items [])
def Wd : List D := newOf (den__law_words [])
def isNew : Option (Rs RV) → Bool
  | some (.ok (.new _)) => true
  | _ => false
theorem newOf_ok {r : Option (Rs RV)} (h : isNew r = true) : r = some (.ok (.new (newOf r))) := by
  unfold isNew at h
  split at h
  · rfl
  · cases h
theorem items_is : den__law_items [] = some (.ok (.new It)) := newOf_ok (by decide +kernel)
theorem words_is : den__law_words [] = some (.ok (.new Wd)) := newOf_ok (by decide +kernel)
theorem few_is : decide (0 < It.length ∧ It.length < 64 ∧ 0 < Wd.length ∧ Wd.length < 64) = true := by decide +kernel
def rowsD (odd : D) : List D := [.tup [.tup [], .tup []], .tup [.tup [], .tup [.str "a"]], odd, .non, .tup [.tup [.str "b"], .tup [.str "b"]]]
def wAB : D := .tup [.str "a", .str "b"]
def wA : D := .tup [.str "a"]
def pAB : D := .tup [wAB, wAB]
theorem f_world : (Bads.all fun b => chkX (den_require_world [b]) "InvalidWorld" b) = true := by decide +kernel
theorem f_pair : (It.all fun o => Wd.all fun w => chkX (den_require_pairs [.lst (rowsD o), wAB, w]) "InvalidPair" o && chkX (den_require_pairs [.tup (rowsD o), wAB, w]) "InvalidPair" o) = true := by decide +kernel
def X4 : List D := [.lst [], .tup [], .lst [.tup [.tup [], .tup []]], .lst [.tup [.tup [], wA]]]
theorem f_kind : (X4.all fun x => Wd.all fun w => chkX (den_require_pairs [x, wA, w]) "InvalidKind" w) = true := by decide +kernel
theorem f_any : ([wA, .tup [.str "b"], .tup []].all fun n => chkX (den_require_pairs [.lst [pAB], n, .str "any"]) "InvalidPair" pAB) = true := by decide +kernel
theorem f_last1 : chkN (den__law_asked [.int 1, .lst [.tup [.tup [], wA]], wA, .str "any"]) [.str "ok", .bl true] = true := by
  unfold den__law_asked denOf m__law_asked den_program_of m_program_of
  rw [sortedV_i]
  decide +kernel
theorem f_last0 : chkN (den__law_asked [.int 0, .lst [], .tup [], .str "plain"]) [.str "ok", .bl true] = true := by
  decide +kernel
end RW

set_option Elab.async false
set_option linter.all false
set_option maxRecDepth 100000
set_option maxHeartbeats 1000000
namespace RW
open PySem PySem.Spec PyProof.Rows L2

theorem eqVX_plain {x y : D} (hx : plain x = true) (hy : plain y = true) (dx : dep x ≤ 64) (dy : dep y ≤ 64) : eqVX x y = some (.val (.bl (decide (x = y)))) ∧ neVX x y = some (.val (.bl (!decide (x = y)))) := by
  have h : eqBX x y = some (decide (x = y)) := by unfold eqBX; rw [eqB_plain hx hy dx dy]
  unfold eqVX neVX
  rw [h]
  exact ⟨rfl, rfl⟩
/-! what is raised goes on -/
theorem seq_ex {m1 m2 : Ms} {env env1 : En} {x : Str} {f : Option D} (h : m1 env = some (.ex x f, env1)) : seqM m1 m2 env = some (.ex x f, env1) := by unfold seqM; rw [h]
theorem drop_ex {m : Mn RV} {env env1 : En} {x : Str} {f : Option D} (h : m env = some (.ex x f, env1)) : dropM m env = some (.ex x f, env1) := by unfold dropM thenS; rw [h]
theorem set_ex {m : Mn RV} {i : Nat} {env env1 : En} {x : Str} {f : Option D} (h : m env = some (.ex x f, env1)) : setM i m env = some (.ex x f, env1) := by unfold setM thenS; rw [h]
theorem if_run {t : Mn Bool} {a b : Ms} {env env1 : En} {c : Bool} (h : t env = some (.ok c, env1)) : ifM t a b env = (if c then a else b) env1 := by unfold ifM thenS; rw [h]
theorem den_ex {k : Nat} {m : Ms} {ds : List D} {x : Str} {f : Option D} {env1 : En} (h : m (ds.map .val ++ List.replicate k .no) = some (.ex x f, env1)) : denOf k m ds = some (.ex x f) := by unfold denOf; rw [h]
theorem set_run {m : Mn RV} {i : Nat} {env env1 env2 : En} {r : RV} (h : m env = some (.ok r, env1)) (p : putSl i (slOf r) env1 = some env2) : setM i m env = some (.nx, env2) := by
  unfold setM thenS
  rw [h]
  simp only
  rw [p]
  rfl
theorem ret_run {m : Mn RV} {env env1 : En} {r : RV} (h : m env = some (.ok r, env1)) : retM m env = some (.ret r, env1) := by unfold retM thenS; rw [h]
theorem callX_ok {den : Den} {gD : List D → List D → List D} {ma mk : Mn (List D)} {env env1 env2 : En} {ds es : List D} {r : Rs RV} (h1 : ma env = some (.ok ds, env1)) (h2 : mk env1 = some (.ok es, env2)) (h3 : den (gD ds es) = some r) : callX den gD ma mk env = some (r, env2) := by
  unfold callX Mn.bind
  rw [h1]
  simp only
  rw [h2]
  simp only
  rw [h3]
  rfl
theorem den_ret {k : Nat} {m : Ms} {ds : List D} {r : RV} {env1 : En} (h : m (ds.map .val ++ List.replicate k .no) = some (.ret r, env1)) : denOf k m ds = some (.ok r) := by unfold denOf; rw [h]
/-- require_pairs's word is barred's, and program_of's -/
theorem both_ex {X N k : D} {x : Str} {f : Option D} (h : den_require_pairs [X, N, k] = some (.ex x f)) : den_barred [X, N, k] = some (.ex x f) ∧ den_program_of [X, N, k] = some (.ex x f) := by
  constructor
  · refine den_ex (env1 := [.val X, .val N, .val k]) ?_
    unfold m_barred
    exact seq_ex (drop_ex (callM_ok (ds := [X, N, k]) (dd := []) (a_cons (lv_at rfl) (a_cons (lv_at rfl) (a_cons (lv_at rfl) rt_ok))) h))
  · refine den_ex (env1 := [.val X, .val N, .val k, .no, .no, .no, .no, .no, .no, .no, .no]) ?_
    unfold m_program_of
    exact seq_ex (drop_ex (callM_ok (ds := [X, N, k]) (dd := []) (a_cons (lv_at rfl) (a_cons (lv_at rfl) (a_cons (lv_at rfl) rt_ok))) h))
/-- a thing that is no world is told first -/
theorem world_ex {X N k : D} {x : Str} {f : Option D} (h : den_require_world [N] = some (.ex x f)) : den_require_pairs [X, N, k] = some (.ex x f) := by
  refine den_ex (env1 := [.val X, .val N, .val k, .no]) ?_
  unfold m_require_pairs
  exact seq_ex (drop_ex (callM_ok (ds := [N]) (dd := []) (a_cons (lv_at rfl) rt_ok) h))
theorem at_world {d : D} : attrV "thing" (.ins "InvalidWorld" [d]) = some (.val d) := by
  show (if (("InvalidWorld" : Str)) = dictN then none else (fieldV "thing" (fieldsOf "InvalidWorld") [d]).map RV.val) = _
  rw [if_neg (by decide +kernel), show fieldsOf "InvalidWorld" = [("thing" : Str)] from (by decide +kernel)]
  rfl
theorem at_pair {d : D} : attrV "thing" (.ins "InvalidPair" [d]) = some (.val d) := by
  show (if (("InvalidPair" : Str)) = dictN then none else (fieldV "thing" (fieldsOf "InvalidPair") [d]).map RV.val) = _
  rw [if_neg (by decide +kernel), show fieldsOf "InvalidPair" = [("thing" : Str)] from (by decide +kernel)]
  rfl
theorem at_kind {d : D} : attrV "value" (.ins "InvalidKind" [d]) = some (.val d) := by
  show (if (("InvalidKind" : Str)) = dictN then none else (fieldV "value" (fieldsOf "InvalidKind") [d]).map RV.val) = _
  rw [if_neg (by decide +kernel), show fieldsOf "InvalidKind" = [("value" : Str)] from (by decide +kernel)]
  rfl
/-- what _law_asked tells of an exception -/
theorem asked_ex {way : Int} {X N k d : D} {x tag : Str} (hw : way = 0 ∨ way = 1) (hx : (x = "InvalidWorld" ∧ tag = "world") ∨ (x = "InvalidPair" ∧ tag = "pair") ∨ (x = "InvalidKind" ∧ tag = "kind")) (h : den_require_pairs [X, N, k] = some (.ex x (some d))) :
    den__law_asked [.int way, X, N, k] = some (.ok (.new [.str tag, d])) := by
  obtain ⟨h1, h2⟩ := both_ex h
  let e0 : En := [.val (.int way), .val X, .val N, .val k, .val .non, .val .non, .no]
  let e1 : En := [.val (.int way), .val X, .val N, .val k, .val (.ins x [d]), .val .non, .no]
  have body : (ifM (cmpT eqVX (lv 0) (Mn.ret (D.int 0))) (seqM (setM 5 (callM den_barred [] (Mn.bind (lv 1) fun d => Mn.bind (Mn.bind (lv 2) fun d => Mn.bind (Mn.bind (lv 3) fun d => Mn.bind (Mn.ret []) fun ds => Mn.ret (d :: ds)) fun ds => Mn.ret (d :: ds)) fun ds => Mn.ret (d :: ds)))) nxM)
      (seqM (setM 5 (callX den_program_of (fun ds es => ds ++ (es ++ [])) (Mn.bind (lv 1) fun d => Mn.bind (Mn.ret []) fun ds => Mn.ret (d :: ds)) (Mn.bind (lv 2) fun d => Mn.bind (Mn.bind (lv 3) fun d => Mn.bind (Mn.ret []) fun ds => Mn.ret (d :: ds)) fun ds => Mn.ret (d :: ds)))) nxM)) e0 = some (.ex x (some d), e0) := by
    have t : cmpT eqVX (lv 0) (Mn.ret (D.int 0)) e0 = some (.ok (decide (D.int way = .int 0)), e0) := cmp_ok (lv_at rfl) rt_ok (eqVX_plain rfl rfl (by simp [dep]) (by simp [dep])).1
    rw [if_run t]
    rcases hw with rfl | rfl
    · simp only [decide_true, if_true]
      exact seq_ex (set_ex (callM_ok (ds := [X, N, k]) (dd := []) (a_cons (lv_at rfl) (a_cons (lv_at rfl) (a_cons (lv_at rfl) rt_ok))) h1))
    · simp only [show decide (D.int 1 = D.int 0) = false by decide, Bool.false_eq_true, if_false]
      exact seq_ex (set_ex (callX_ok (ds := [X]) (es := [N, k]) (a_cons (lv_at rfl) rt_ok) (a_cons (lv_at rfl) (a_cons (lv_at rfl) rt_ok)) h2))
  have hmem : isSub x "RuleError" = true ∧ x ∈ excF := by
    rcases hx with ⟨e, _⟩ | ⟨e, _⟩ | ⟨e, _⟩ <;> rw [e] <;> decide +kernel
  have tr : tryM "RuleError" 6 4 (seqM (ifM (cmpT eqVX (lv 0) (Mn.ret (D.int 0))) (seqM (setM 5 (callM den_barred [] (Mn.bind (lv 1) fun d => Mn.bind (Mn.bind (lv 2) fun d => Mn.bind (Mn.bind (lv 3) fun d => Mn.bind (Mn.ret []) fun ds => Mn.ret (d :: ds)) fun ds => Mn.ret (d :: ds)) fun ds => Mn.ret (d :: ds)))) nxM)
      (seqM (setM 5 (callX den_program_of (fun ds es => ds ++ (es ++ [])) (Mn.bind (lv 1) fun d => Mn.bind (Mn.ret []) fun ds => Mn.ret (d :: ds)) (Mn.bind (lv 2) fun d => Mn.bind (Mn.bind (lv 3) fun d => Mn.bind (Mn.ret []) fun ds => Mn.ret (d :: ds)) fun ds => Mn.ret (d :: ds)))) nxM)) nxM) e0 = some (.nx, e1) := by
    unfold tryM
    rw [seq_ex body]
    simp only
    rw [if_pos ⟨hmem.1, .inl hmem.2, by show 6 < 7; decide, by show 4 < 7; decide, rfl, rfl⟩]
    rfl
  have ie : ∀ c : Str, tstM (isiCM c (lv 4)) e1 = some (.ok (isiC c (.ins x [d])), e1) := fun c => tst_ok' (by unfold isiCM Mn.bind; rw [lv_at (i := 4) (d := .ins x [d]) rfl]; rfl)
  have fin : ∀ {f : Str} {w : Str}, attrV f (.ins x [d]) = some (.val d) → retM (lstM (Mn.bind (Mn.ret (D.str w)) fun d => Mn.bind (Mn.bind (Mn.fr (attrM f (lv 4))) fun d => Mn.bind (Mn.ret []) fun ds => Mn.ret (d :: ds)) fun ds => Mn.ret (d :: ds))) e1 = some (.ret (.new [.str w, d]), e1) := fun {f w} ha =>
    ret_run (lst_ok (a_cons rt_ok (a_cons (frv_ok (r := .val d) (by unfold attrM Mn.bind; rw [lv_at (i := 4) (d := .ins x [d]) rfl]; simp only [Mn.lift, ha]; rfl)) rt_ok)) (by simp))
  refine den_ret (env1 := e1) ?_
  unfold m__law_asked
  rw [seq_nx (env1 := [.val (.int way), .val X, .val N, .val k, .val .non, .no, .no]) (set_run (vl_ok rt_ok) rfl), seq_nx (env1 := e0) (set_run (vl_ok rt_ok) rfl), seq_nx tr]
  rcases hx with e | e | e
  · obtain ⟨rfl, rfl⟩ := e
    rw [seq_ret (r := .new [.str "world", d]) (env1 := e1) (by rw [if_run (ie _), show isiC "InvalidWorld" (.ins "InvalidWorld" [d]) = true from (by show (decide ((("InvalidWorld" : Str)) ≠ dictN) && isSub "InvalidWorld" "InvalidWorld") = true; decide +kernel), if_pos rfl]; exact seq_ret (m2 := nxM) (fin (w := "world") at_world))]
  · obtain ⟨rfl, rfl⟩ := e
    rw [seq_nx (env1 := e1) (by rw [if_run (ie _), show isiC "InvalidWorld" (.ins "InvalidPair" [d]) = false from (by show (decide ((("InvalidPair" : Str)) ≠ dictN) && isSub "InvalidPair" "InvalidWorld") = false; decide +kernel)]; rfl)]
    rw [seq_ret (r := .new [.str "pair", d]) (env1 := e1) (by rw [if_run (ie _), show isiC "InvalidPair" (.ins "InvalidPair" [d]) = true from (by show (decide ((("InvalidPair" : Str)) ≠ dictN) && isSub "InvalidPair" "InvalidPair") = true; decide +kernel), if_pos rfl]; exact seq_ret (m2 := nxM) (fin (w := "pair") at_pair))]
  · obtain ⟨rfl, rfl⟩ := e
    rw [seq_nx (env1 := e1) (by rw [if_run (ie _), show isiC "InvalidWorld" (.ins "InvalidKind" [d]) = false from (by show (decide ((("InvalidKind" : Str)) ≠ dictN) && isSub "InvalidKind" "InvalidWorld") = false; decide +kernel)]; rfl)]
    rw [seq_nx (env1 := e1) (by rw [if_run (ie _), show isiC "InvalidPair" (.ins "InvalidKind" [d]) = false from (by show (decide ((("InvalidKind" : Str)) ≠ dictN) && isSub "InvalidKind" "InvalidPair") = false; decide +kernel)]; rfl)]
    rw [seq_ret (r := .new [.str "kind", d]) (env1 := e1) (by rw [if_run (ie _), show isiC "InvalidKind" (.ins "InvalidKind" [d]) = true from (by show (decide ((("InvalidKind" : Str)) ≠ dictN) && isSub "InvalidKind" "InvalidKind") = true; decide +kernel), if_pos rfl]; exact seq_ret (m2 := nxM) (fin (w := "kind") at_kind))]
end RW

set_option Elab.async false
set_option linter.all false
set_option maxRecDepth 100000
set_option maxHeartbeats 1000000
namespace RW
open PySem PySem.Spec PyProof.Rows L2

/-! ### the answers, and what is equal -/
def word2 (t : Str) (d : D) : D := .lst [.str t, d]
def Alls : List D := Bads ++ (It ++ (Wd ++ [pAB]))
def tags : List Str := ["world", "pair", "kind"]
theorem f_ne : (tags.all fun t => Alls.all fun d => chkB (neVX (word2 t d) (word2 t d)) false && (chkB (neVX (.lst [word2 t d, word2 t d]) (.lst [word2 t d, word2 t d])) false && chkB (neVX (.lst [word2 t d, word2 t d, word2 t d]) (.lst [word2 t d, word2 t d, word2 t d])) false)) = true := by decide +kernel
theorem ne_same {t : Str} {d : D} (ht : t ∈ tags) (hd : d ∈ Alls) : neVX (word2 t d) (word2 t d) = some (.val (.bl false)) ∧ neVX (.lst [word2 t d, word2 t d]) (.lst [word2 t d, word2 t d]) = some (.val (.bl false)) ∧ neVX (.lst [word2 t d, word2 t d, word2 t d]) (.lst [word2 t d, word2 t d, word2 t d]) = some (.val (.bl false)) := by
  have := List.all_eq_true.mp (List.all_eq_true.mp f_ne t ht) d hd
  rw [Bool.and_eq_true, Bool.and_eq_true] at this
  exact ⟨chkB_ok this.1, chkB_ok this.2.1, chkB_ok this.2.2⟩
section
variable {way : Int} {X N k d : D}
theorem a_world (hw : way = 0 ∨ way = 1) (hb : d ∈ Bads) : den__law_asked [.int way, X, d, k] = some (.ok (.new [.str "world", d])) :=
  asked_ex hw (.inl ⟨rfl, rfl⟩) (world_ex (chkX_ok (List.all_eq_true.mp f_world d hb)))
theorem a_pair (hw : way = 0 ∨ way = 1) (hd : d ∈ It) (hk : k ∈ Wd) (hX : X = .lst (rowsD d) ∨ X = .tup (rowsD d)) : den__law_asked [.int way, X, wAB, k] = some (.ok (.new [.str "pair", d])) := by
  have := List.all_eq_true.mp (List.all_eq_true.mp f_pair d hd) k hk
  rw [Bool.and_eq_true] at this
  rcases hX with rfl | rfl
  · exact asked_ex hw (.inr (.inl ⟨rfl, rfl⟩)) (chkX_ok this.1)
  · exact asked_ex hw (.inr (.inl ⟨rfl, rfl⟩)) (chkX_ok this.2)
theorem a_kind (hw : way = 0 ∨ way = 1) (hX : X ∈ X4) (hk : k ∈ Wd) : den__law_asked [.int way, X, wA, k] = some (.ok (.new [.str "kind", k])) :=
  asked_ex hw (.inr (.inr ⟨rfl, rfl⟩)) (chkX_ok (List.all_eq_true.mp (List.all_eq_true.mp f_kind X hX) k hk))
theorem a_any (hw : way = 0 ∨ way = 1) (hN : N ∈ [wA, .tup [.str "b"], .tup []]) : den__law_asked [.int way, .lst [pAB], N, .str "any"] = some (.ok (.new [.str "pair", pAB])) :=
  asked_ex hw (.inr (.inl ⟨rfl, rfl⟩)) (chkX_ok (List.all_eq_true.mp f_any N hN))
end
/-! ### one way -/
def WB (sc : D) (ps : List D) (X bad odd word : D) : List (Nat × Sl) := [(0, .val sc), (2, .own ps), (5, .val X), (7, .val bad), (8, .val odd), (9, .val word)]
theorem lv_five {X : D} {rows : List D} {s5 : Sl} {n : Nat} {l : List (Nat × Sl)} {env : En} (h : SN n l env) (hn : 5 < n) (hm : (5, s5) ∈ l) (e : s5 = .val X ∨ (s5 = .own rows ∧ X = .lst rows)) : ∃ env', lv 5 env = some (.ok X, env') ∧ SN n ((5, .val X) :: l.filter fun q => q.1 != 5) env' := by
  rcases e with rfl | ⟨rfl, rfl⟩
  · refine ⟨env, lv_at (h.at hm), h.less fun q hq => ?_⟩
    rcases List.mem_cons.mp hq with rfl | hq
    · exact hm
    · exact (List.mem_filter.mp hq).1
  · exact ⟨_, own_lv (h.at hm), h.set hn rfl⟩
def WS (sc : D) (ps : List D) (s5 : Sl) (bad odd word : D) : List (Nat × Sl) := [(0, .val sc), (2, .own ps), (5, s5), (7, .val bad), (8, .val odd), (9, .val word)]
theorem law_way {sc X bad odd word : D} {ps : List D} {way : Int} {env0 : En} {Q : RV → Prop} {s5 : Sl} (hw : way = 0 ∨ way = 1) (hX : X = .lst (rowsD odd) ∨ X = .tup (rowsD odd)) (hb : bad ∈ Bads) (ho : odd ∈ It) (hk : word ∈ Wd)
    (e5 : s5 = .val X ∨ (s5 = .own (rowsD odd) ∧ X = .lst (rowsD odd))) (h0 : SN 12 ((6, .val (.int way)) :: WS sc ps s5 bad odd word) env0) : Ends Q (fun e => SN 12 (WB sc ps X bad odd word) e) (b_law_1 env0) := by
  have v60 := lv_at (h0.at (i := 6) (s := .val (.int way)) (by simp [WS]))
  obtain ⟨env, v50, h1⟩ := lv_five h0 (by decide) (by simp [WS]) e5
  have h : SN 12 ((6, .val (.int way)) :: WB sc ps X bad odd word) env := h1.less (by simp [WS, WB])
  clear h1
  have mb : bad ∈ Alls := by unfold Alls; exact List.mem_append_left _ hb
  have mo : odd ∈ Alls := by unfold Alls; exact List.mem_append_right _ (List.mem_append_left _ ho)
  have mk : word ∈ Alls := by unfold Alls; exact List.mem_append_right _ (List.mem_append_right _ (List.mem_append_left _ hk))
  have mp : pAB ∈ Alls := by unfold Alls; exact List.mem_append_right _ (List.mem_append_right _ (List.mem_append_right _ List.mem_cons_self))
  have v : ∀ {i : Nat} {d : D}, (i, Sl.val d) ∈ ((6, .val (.int way)) :: WB sc ps X bad odd word) → lv i env = some (.ok d, env) := fun hm => lv_at (h.at hm)
  have v5 := v (i := 5) (d := X) (by simp [WB])
  have v6 := v (i := 6) (d := .int way) (by simp [WB])
  have v7 := v (i := 7) (d := bad) (by simp [WB])
  have v8 := v (i := 8) (d := odd) (by simp [WB])
  have v9 := v (i := 9) (d := word) (by simp [WB])
  -- in a comprehension's turn
  have turn : ∀ {e : En} {l : List (Nat × Sl)} {te : Mn D} {d r : D}, SN 12 l e → (te ((wipeE e [11]).set 11 (.val d)) = some (.ok r, (wipeE e [11]).set 11 (.val d))) → ∃ e1 e2, gN 11 d (wipeE e [11]) = some e1 ∧ te e1 = some (.ok r, e2) := fun {e l te d r} hs ht => by
    have ln : (wipeE e [11]).length = 12 := by unfold wipeE wipeE; rw [List.length_set, List.length_map]; exact hs.1.1
    refine ⟨_, _, ?_, ht⟩
    unfold gN putSl
    have : isLent (wipeE e [11])[11]? = false := by
      unfold wipeE
      rw [List.getElem?_set_self (by unfold wipeE; rw [List.length_map, hs.1.1]; decide)]
      rfl
    rw [if_pos (by rw [ln]; decide), if_neg (by rw [this]; exact Bool.false_ne_true)]
  have inT : ∀ {e : En} {l : List (Nat × Sl)} {i : Nat} {d x : D}, SN 12 l e → (i, Sl.val d) ∈ l → i ≠ 11 → lv i ((wipeE e [11]).set 11 (.val x)) = some (.ok d, (wipeE e [11]).set 11 (.val x)) := fun {e l i d x} hs hm hi => by
    refine lv_at ?_
    rw [List.getElem?_set_ne (Ne.symm hi)]
    exact wipe_at (hs.at hm) hi
  have inS : ∀ {e : En} {l : List (Nat × Sl)} {x : D}, SN 12 l e → lv 11 ((wipeE e [11]).set 11 (.val x)) = some (.ok x, (wipeE e [11]).set 11 (.val x)) := fun {e l x} hs => by
    refine lv_at (List.getElem?_set_self ?_)
    unfold wipeE wipeE
    rw [List.length_set, List.length_map, hs.1.1]
    decide
  have keep : ∀ {m : Ms} {a b : Mn D} {x : D} (s0 : En) (g : cmpT neVX a b s0 = some (.ok false, s0)), Ends Q (fun e => e = s0) (ifM (cmpT neVX a b) m nxM s0) := fun s0 g => en_if (c := false) g (fun z => by cases z) fun _ => en_nil rfl
  unfold b_law_1
  refine en_seq (P1 := fun e => e = env) (en_if (c := false) (cmp_ok2 (x := word2 "world" bad) (y := word2 "world" bad) (frv_ok (r := .new [.str "world", bad]) (callM_ok (dd := []) (ds := [.int way, X, bad, word]) (a_cons2 v60 (a_cons2 v50 (a_cons v7 (a_cons v9 rt_ok)))) (a_world hw hb))) (frv_ok (r := .new [.str "world", bad]) (lst_ok (a_cons rt_ok (a_cons v7 rt_ok)) (by simp))) (ne_same (by decide +kernel) mb).1) (fun z => by cases z) fun _ => en_nil rfl) fun e z => ?_
  subst z
  refine en_seq (P1 := fun e' => e' = e) (en_if (c := false) (cmp_ok (x := word2 "pair" odd) (y := word2 "pair" odd) (frv_ok (r := .new [.str "pair", odd]) (callM_ok (dd := []) (ds := [.int way, X, wAB, word]) (a_cons v6 (a_cons v5 (a_cons (tup_ok (a_cons rt_ok (a_cons rt_ok rt_ok)) (by simp)) (a_cons v9 rt_ok)))) (a_pair hw ho hk hX))) (frv_ok (r := .new [.str "pair", odd]) (lst_ok (a_cons rt_ok (a_cons v8 rt_ok)) (by simp))) (ne_same (by decide +kernel) mo).1) (fun z => by cases z) fun _ => en_nil rfl) fun e' z => ?_
  subst z
  -- [.. for some in ([], ())] of the bad names
  have c3 := lc_ok1 (src := walkM (tupM (Mn.bind (Mn.fr (lstM (Mn.ret []))) fun d => Mn.bind (Mn.bind (tupM (Mn.ret [])) fun d => Mn.bind (Mn.ret []) fun ds => Mn.ret (d :: ds)) fun ds => Mn.ret (d :: ds)))) (ds := [.lst [], .tup []]) (env := e') (env1 := e') (walk_ok (d := .tup [.lst [], .tup []]) (by rfl) rfl) (by simp)
    (lc_map (g := gN 11) (te := Mn.fr (callM den__law_asked [] (Mn.bind (lv 6) fun d => Mn.bind (Mn.bind (lv 11) fun d => Mn.bind (Mn.bind (lv 7) fun d => Mn.bind (Mn.bind (lv 9) fun d => Mn.bind (Mn.ret []) fun ds => Mn.ret (d :: ds)) fun ds => Mn.ret (d :: ds)) fun ds => Mn.ret (d :: ds)) fun ds => Mn.ret (d :: ds)))) (f := fun _ => word2 "world" bad) (acc := []) (ds := [.lst [], .tup []]) fun d hd => turn h (frv_ok (r := .new [.str "world", bad]) (callM_ok (dd := []) (ds := [.int way, d, bad, word]) (a_cons (inT h (i := 6) (by simp [WB]) (by decide)) (a_cons (inS h) (a_cons (inT h (i := 7) (d := bad) (by simp [WB]) (by decide)) (a_cons (inT h (i := 9) (d := word) (by simp [WB]) (by decide)) rt_ok)))) (a_world hw hb))))
  refine en_seq (P1 := fun e => e = e') (en_if (c := false) (cmp_ok (x := .lst [word2 "world" bad, word2 "world" bad]) (y := .lst [word2 "world" bad, word2 "world" bad]) (frv_ok c3) (frv_ok (r := .new [word2 "world" bad, word2 "world" bad]) (rep_ok (k := 2) (ds := [word2 "world" bad]) (lst_ok (a_cons (frv_ok (r := .new [.str "world", bad]) (lst_ok (a_cons rt_ok (a_cons v7 rt_ok)) (by simp))) rt_ok) (by simp)) rt_ok (by decide) (by simp))) (ne_same (by decide +kernel) mb).2.1) (fun z => by cases z) fun _ => en_nil rfl) fun e z => ?_
  subst z
  have c4 := lc_ok1 (src := walkM (tupM (Mn.bind (Mn.fr (lstM (Mn.ret []))) fun d => Mn.bind (Mn.bind (tupM (Mn.ret [])) fun d => Mn.bind (Mn.bind (Mn.fr (lstM (Mn.bind (tupM (Mn.bind (tupM (Mn.ret [])) fun d => Mn.bind (Mn.bind (tupM (Mn.ret [])) fun d => Mn.bind (Mn.ret []) fun ds => Mn.ret (d :: ds)) fun ds => Mn.ret (d :: ds))) fun d => Mn.bind (Mn.ret []) fun ds => Mn.ret (d :: ds)))) fun d => Mn.bind (Mn.ret []) fun ds => Mn.ret (d :: ds)) fun ds => Mn.ret (d :: ds)) fun ds => Mn.ret (d :: ds)))) (ds := [.lst [], .tup [], .lst [.tup [.tup [], .tup []]]]) (env := e) (env1 := e) (walk_ok (d := .tup [.lst [], .tup [], .lst [.tup [.tup [], .tup []]]]) (by rfl) rfl) (by simp)
    (lc_map (g := gN 11) (te := Mn.fr (callM den__law_asked [] (Mn.bind (lv 6) fun d => Mn.bind (Mn.bind (lv 11) fun d => Mn.bind (Mn.bind (tupM (Mn.bind (Mn.ret (D.str "a")) fun d => Mn.bind (Mn.ret []) fun ds => Mn.ret (d :: ds))) fun d => Mn.bind (Mn.bind (lv 9) fun d => Mn.bind (Mn.ret []) fun ds => Mn.ret (d :: ds)) fun ds => Mn.ret (d :: ds)) fun ds => Mn.ret (d :: ds)) fun ds => Mn.ret (d :: ds)))) (f := fun _ => word2 "kind" word) (acc := []) (ds := [.lst [], .tup [], .lst [.tup [.tup [], .tup []]]]) fun d hd => turn h (frv_ok (r := .new [.str "kind", word]) (callM_ok (dd := []) (ds := [.int way, d, wA, word]) (a_cons (inT h (i := 6) (by simp [WB]) (by decide)) (a_cons (inS h) (a_cons (tup_ok (a_cons rt_ok rt_ok) (by simp)) (a_cons (inT h (i := 9) (d := word) (by simp [WB]) (by decide)) rt_ok)))) (a_kind hw (by
      simp only [List.mem_cons, List.not_mem_nil, or_false] at hd
      simp only [X4, List.mem_cons, List.not_mem_nil, or_false]
      rcases hd with h | h | h
      · exact .inl h
      · exact .inr (.inl h)
      · exact .inr (.inr (.inl h))) hk))))
  refine en_seq (P1 := fun e' => e' = e) (en_if (c := false) (cmp_ok (x := .lst [word2 "kind" word, word2 "kind" word, word2 "kind" word]) (y := .lst [word2 "kind" word, word2 "kind" word, word2 "kind" word]) (frv_ok c4) (frv_ok (r := .new [word2 "kind" word, word2 "kind" word, word2 "kind" word]) (rep_ok (k := 3) (ds := [word2 "kind" word]) (lst_ok (a_cons (frv_ok (r := .new [.str "kind", word]) (lst_ok (a_cons rt_ok (a_cons v9 rt_ok)) (by simp))) rt_ok) (by simp)) rt_ok (by decide) (by simp))) (ne_same (by decide +kernel) mk).2.2) (fun z => by cases z) fun _ => en_nil rfl) fun e' z => ?_
  subst z
  refine en_seq (P1 := fun e => e = e') (en_if (c := false) (cmp_ok (x := word2 "kind" word) (y := word2 "kind" word) (frv_ok (r := .new [.str "kind", word]) (callM_ok (dd := []) (ds := [.int way, .lst [.tup [.tup [], wA]], wA, word]) (a_cons v6 (a_cons (by rfl) (a_cons (tup_ok (a_cons rt_ok rt_ok) (by simp)) (a_cons v9 rt_ok)))) (a_kind hw (by simp [X4]) hk))) (frv_ok (r := .new [.str "kind", word]) (lst_ok (a_cons rt_ok (a_cons v9 rt_ok)) (by simp))) (ne_same (by decide +kernel) mk).1) (fun z => by cases z) fun _ => en_nil rfl) fun e z => ?_
  subst z
  -- pair
  obtain ⟨env1, g1, _, h1⟩ := h.put (i := 10) (s := .val pAB) (by decide) rfl
  refine en_seq (P1 := fun e => e = env1) (en_set (r := .val pAB) (env1 := e) (by rfl) g1 rfl) fun e1 z => ?_
  subst z
  have v10 := lv_at (h1.at (i := 10) (s := .val pAB) (by simp [WB]))
  have c5 := lc_ok1 (src := walkM (tupM (Mn.bind (tupM (Mn.bind (Mn.ret (D.str "a")) fun d => Mn.bind (Mn.ret []) fun ds => Mn.ret (d :: ds))) fun d => Mn.bind (Mn.bind (tupM (Mn.bind (Mn.ret (D.str "b")) fun d => Mn.bind (Mn.ret []) fun ds => Mn.ret (d :: ds))) fun d => Mn.bind (Mn.bind (tupM (Mn.ret [])) fun d => Mn.bind (Mn.ret []) fun ds => Mn.ret (d :: ds)) fun ds => Mn.ret (d :: ds)) fun ds => Mn.ret (d :: ds)))) (ds := [wA, .tup [.str "b"], .tup []]) (env := e1) (env1 := e1) (walk_ok (d := .tup [wA, .tup [.str "b"], .tup []]) (by rfl) rfl) (by simp)
    (lc_map (g := gN 11) (te := Mn.fr (callM den__law_asked [] (Mn.bind (lv 6) fun d => Mn.bind (Mn.bind (Mn.fr (lstM (Mn.bind (lv 10) fun d => Mn.bind (Mn.ret []) fun ds => Mn.ret (d :: ds)))) fun d => Mn.bind (Mn.bind (lv 11) fun d => Mn.bind (Mn.bind (Mn.ret (D.str "any")) fun d => Mn.bind (Mn.ret []) fun ds => Mn.ret (d :: ds)) fun ds => Mn.ret (d :: ds)) fun ds => Mn.ret (d :: ds)) fun ds => Mn.ret (d :: ds)))) (f := fun _ => word2 "pair" pAB) (acc := []) (ds := [wA, .tup [.str "b"], .tup []]) fun d hd => turn h1 (frv_ok (r := .new [.str "pair", pAB]) (callM_ok (dd := []) (ds := [.int way, .lst [pAB], d, .str "any"]) (a_cons (inT h1 (i := 6) (by simp [WB]) (by decide)) (a_cons (frv_ok (r := .new [pAB]) (lst_ok (a_cons (inT h1 (i := 10) (by simp [WB]) (by decide)) rt_ok) (by simp))) (a_cons (inS h1) (a_cons rt_ok rt_ok)))) (a_any hw hd))))
  refine en_seq (P1 := fun e => e = e1) (en_if (c := false) (cmp_ok (x := .lst [word2 "pair" pAB, word2 "pair" pAB, word2 "pair" pAB]) (y := .lst [word2 "pair" pAB, word2 "pair" pAB, word2 "pair" pAB]) (frv_ok c5) (frv_ok (r := .new [word2 "pair" pAB, word2 "pair" pAB, word2 "pair" pAB]) (rep_ok (k := 3) (ds := [word2 "pair" pAB]) (lst_ok (a_cons (frv_ok (r := .new [.str "pair", pAB]) (lst_ok (a_cons rt_ok (a_cons v10 rt_ok)) (by simp))) rt_ok) (by simp)) rt_ok (by decide) (by simp))) (ne_same (by decide +kernel) mp).2.2) (fun z => by cases z) fun _ => en_nil rfl) fun e2 z => ?_
  subst z
  exact en_nil (h1.less (by simp [WB]))
end RW

set_option Elab.async false
set_option linter.all false
set_option maxRecDepth 100000
set_option maxHeartbeats 1000000
namespace RW
open PySem PySem.Spec PyProof.Rows L2

theorem okN_purse {N : Nat} {ps : List D} (h : PurseOk N ps) : okN (.own ps) = true := rfl
theorem PurseOk.mono {n m : Nat} {ps : List D} (h : PurseOk n ps) (k : n ≤ m) : PurseOk m ps := by
  obtain ⟨a, b, c, e, h1, h2, h3, h4⟩ := h
  exact ⟨a, b, c, e, h1, h2, h3, by omega⟩
theorem draw_sn {n N m : Nat} {l : List (Nat × Sl)} {ps : List D} {env : En} {ma : Mn (List D)} (h : SN n l env) (hn : 2 < n) (h2 : (2, Sl.own ps) ∈ l) (hp : PurseOk N ps) (hN : N < 2 ^ 40) (h0 : 0 < m) (h1 : m < 2 ^ 60) (ha : ma env = some (.ok [.int m], env)) :
    ∃ (d : Nat) (ps' : List D) (env' : En), d < m ∧ callP 2 den__law_draw ma env = some (.ok (.val (.int d)), env') ∧ SN n ((2, .own ps') :: l.filter fun q => q.1 != 2) env' ∧ PurseOk (N + 1) ps' := by
  obtain ⟨d, ps', hd, e, hp'⟩ := draw_ok hp hN m h0 h1
  exact ⟨d, ps', env.set 2 (.own ps'), hd, callP_own (h.at h2) ha (h.at h2) e, h.set hn rfl, hp'⟩
def pickM : Mn D := Mn.fr (op2 ixV2 (lv 11) (Mn.fr (callP 2 den__law_draw (Mn.bind (Mn.fr (call1 lenV (Mn.bind (lv 11) fun d => Mn.bind (Mn.ret []) fun ds => Mn.ret (d :: ds)))) fun d => Mn.bind (Mn.ret []) fun ds => Mn.ret (d :: ds)))))
/-- one of a list is drawn -/
theorem pick_step {L rest acc : List D} {sc : D} {ps : List D} {N : Nat} {env : En} (hL : 0 < L.length ∧ L.length < 64) (hp : PurseOk N ps) (hN : N < 2 ^ 40) (h : SN 12 [(0, .val sc), (2, .own ps)] env) :
    ∃ (d : D) (ps' : List D) (env' : En), d ∈ L ∧ lctGo (gN 11) (Mn.ret true) pickM [11] (.lst L :: rest) acc env = lctGo (gN 11) (Mn.ret true) pickM [11] rest (acc ++ [d]) env' ∧ SN 12 [(0, .val sc), (2, .own ps')] env' ∧ PurseOk (N + 1) ps' := by
  obtain ⟨env1, g1, _, h1⟩ := h.put (i := 11) (s := .val (.lst L)) (by decide) rfl
  have v := lv_at (h1.at (i := 11) (s := .val (.lst L)) (by simp))
  obtain ⟨k, ps', env2, hk, e2, h2, hp'⟩ := draw_sn (m := L.length) (ma := Mn.bind (Mn.fr (call1 lenV (Mn.bind (lv 11) fun d => Mn.bind (Mn.ret []) fun ds => Mn.ret (d :: ds)))) fun d => Mn.bind (Mn.ret []) fun ds => Mn.ret (d :: ds)) h1 (by decide) (by simp) hp hN hL.1 (by omega)
    (a_cons (frv_ok (r := .val (.int L.length)) (call1_ok (a_cons v rt_ok) rfl)) rt_ok)
  have ix : ixV2 (.lst L) (.int k) = some (.val L[k]) := ixV_nat (List.getElem?_eq_getElem hk)
  have te : pickM env1 = some (.ok L[k], env2) := frv_ok (r := .val L[k]) (op_ok2 v (frv_ok e2) ix)
  refine ⟨L[k], ps', clrE env2 [11], List.getElem_mem hk, ?_, (h2.set (i := 11) (s := .no) (by decide) rfl).less (by simp), hp'⟩
  have ck : chkE env env2 = true := h.chk h2
  conv => lhs; unfold lctGo
  rw [show gN 11 (.lst L) env = some env1 from g1]
  simp only [Mn.ret]
  rw [te]
  simp only
  rw [if_pos ck]
theorem lct_ok1 {src : Mn (List D)} {g : Bd} {tt : Mn Bool} {te : Mn D} {own : List Nat} {ds l : List D} {env env1 envf : En} (h : src env = some (.ok ds, env1)) (hl : ds.length ≤ 1000) (hn : noLents env1 own = true) (hr : env1.all (fun s => !isRd s) = true)
    (hg : lctGo g tt te own ds [] (clrE env1 own) = some (l, envf)) : lctM src g tt te own env = some (.ok (.new l), envf) := by
  have z : ds.length ≤ sizeLine := by rw [sizeLine_eq]; omega
  unfold lctM Mn.bind
  rw [h]
  simp only
  rw [if_pos ⟨z, hn, hr⟩, hg]
  rfl
theorem few_ok : 0 < It.length ∧ It.length < 64 ∧ 0 < Wd.length ∧ Wd.length < 64 := of_decide_eq_true few_is
def TB (sc : D) (N : Nat) (env : En) : Prop := ∃ ps, SN 12 [(0, .val sc), (2, .own ps)] env ∧ PurseOk N ps
theorem law_turn {sc : D} {N : Nat} {env : En} {Q : RV → Prop} (hN : N + 300 < 2 ^ 40) (h : TB sc N env) : Ends Q (TB sc (N + 8)) (b_law_2 env) := by
  obtain ⟨ps, h, hpu⟩ := h
  obtain ⟨f1, f2, f3, f4⟩ := few_ok
  unfold b_law_2
  obtain ⟨env1, g1, _, h1⟩ := h.put (i := 4) (s := .own Bads) (by decide) rfl
  refine en_seq (P1 := fun e => e = env1) (en_set (r := .new Bads) (env1 := env) (by rfl) g1 rfl) fun e z => ?_
  subst z
  -- three drawn
  have v4 := own_lv (h1.at (i := 4) (s := .own Bads) (by simp))
  have h2 := h1.set (i := 4) (s := .val (.lst Bads)) (by decide) rfl
  generalize hE : e.set 4 (.val (.lst Bads)) = e2 at v4 h2
  have src : walkM (tupM (Mn.bind (lv 4) fun d => Mn.bind (Mn.bind (Mn.fr (callM den__law_items [] (Mn.ret []))) fun d => Mn.bind (Mn.bind (Mn.fr (callM den__law_words [] (Mn.ret []))) fun d => Mn.bind (Mn.ret []) fun ds => Mn.ret (d :: ds)) fun ds => Mn.ret (d :: ds)) fun ds => Mn.ret (d :: ds))) e = some (.ok [.lst Bads, .lst It, .lst Wd], e2) :=
    walk_ok (d := .tup [.lst Bads, .lst It, .lst Wd]) (tup_ok (a_cons2 v4 (a_cons (frv_ok (r := .new It) (callM_ok (dd := []) (ds := []) rt_ok items_is)) (a_cons (frv_ok (r := .new Wd) (callM_ok (dd := []) (ds := []) rt_ok words_is)) rt_ok))) (by simp)) rfl
  have hc : SN 12 [(0, .val sc), (2, .own ps)] (clrE e2 [11]) := (h2.set (i := 11) (s := .no) (by decide) rfl).less (by simp)
  obtain ⟨bad, ps1, c1, hb, s1, k1, p1⟩ := pick_step (L := Bads) (rest := [.lst It, .lst Wd]) (acc := []) (by decide) hpu (by omega) hc
  obtain ⟨odd, ps2, c2, ho, s2, k2, p2⟩ := pick_step (L := It) (rest := [.lst Wd]) (acc := [] ++ [bad]) ⟨f1, f2⟩ p1 (by omega) k1
  obtain ⟨word, ps3, c3, hw, s3, k3, p3⟩ := pick_step (L := Wd) (rest := []) (acc := [] ++ [bad] ++ [odd]) ⟨f3, f4⟩ p2 (by omega) k2
  have lc : Mn.fr (lctM (walkM (tupM (Mn.bind (lv 4) fun d => Mn.bind (Mn.bind (Mn.fr (callM den__law_items [] (Mn.ret []))) fun d => Mn.bind (Mn.bind (Mn.fr (callM den__law_words [] (Mn.ret []))) fun d => Mn.bind (Mn.ret []) fun ds => Mn.ret (d :: ds)) fun ds => Mn.ret (d :: ds)) fun ds => Mn.ret (d :: ds)))) (gN 11) (Mn.ret true) pickM [11]) e = some (.ok (.lst [bad, odd, word]), c3) := by
    refine frv_ok (r := .new [bad, odd, word]) ?_
    exact lct_ok1 src (by simp) h2.noL h2.2 (by rw [s1, s2, s3]; rfl)
  obtain ⟨d1, q1, _, m1⟩ := k3.put (i := 7) (s := .val bad) (by decide) rfl
  obtain ⟨d2, q2, _, m2⟩ := m1.put (i := 8) (s := .val odd) (by decide) rfl
  obtain ⟨d3, q3, _, m3⟩ := m2.put (i := 9) (s := .val word) (by decide) rfl
  have asg : asgM (gTl 3 (gCn (gN 7) (gCn (gN 8) (gCn (gN 9) gNl)))) (Mn.fr (lctM (walkM (tupM (Mn.bind (lv 4) fun d => Mn.bind (Mn.bind (Mn.fr (callM den__law_items [] (Mn.ret []))) fun d => Mn.bind (Mn.bind (Mn.fr (callM den__law_words [] (Mn.ret []))) fun d => Mn.bind (Mn.ret []) fun ds => Mn.ret (d :: ds)) fun ds => Mn.ret (d :: ds)) fun ds => Mn.ret (d :: ds)))) (gN 11) (Mn.ret true) pickM [11])) e = some (.nx, d3) := by
    have tg : gTl 3 (gCn (gN 7) (gCn (gN 8) (gCn (gN 9) gNl))) (.lst [bad, odd, word]) c3 = some d3 := by
      show (if 3 = 3 then gCn (gN 7) (gCn (gN 8) (gCn (gN 9) gNl)) [bad, odd, word] c3 else none) = _
      rw [if_pos rfl]
      show ((gN 7 bad c3).bind fun x1 => (gN 8 odd x1).bind fun x2 => (gN 9 word x2).bind fun x3 => some x3) = _
      rw [show gN 7 bad c3 = some d1 from q1, Option.bind_some, show gN 8 odd d1 = some d2 from q2, Option.bind_some, show gN 9 word d2 = some d3 from q3, Option.bind_some]
    unfold asgM thenS
    rw [lc]
    simp only
    rw [tg]
    rfl
  refine en_seq (P1 := fun e => e = d3) (.inl ⟨d3, asg, rfl⟩) fun e z => ?_
  subst z
  have v8 := lv_at (m3.at (i := 8) (s := .val odd) (by simp))
  obtain ⟨x1, g2, _, n1⟩ := m3.put (i := 5) (s := .own (rowsD odd)) (by decide) rfl
  refine en_seq (P1 := fun e => e = x1) (en_set (r := .new (rowsD odd)) (env1 := e) (lst_ok (a_cons (by rfl) (a_cons (by rfl) (a_cons v8 (a_cons rt_ok (a_cons (by rfl) rt_ok))))) (by show 5 ≤ 1000; decide)) g2 rfl) fun e z => ?_
  subst z
  have n1' : SN 12 (WS sc ps3 (.own (rowsD odd)) bad odd word) e := n1.less (by simp [WS])
  -- as a tuple, or as it is
  refine en_seq (P1 := fun e => ∃ s5 X ps4, (s5 = .val X ∨ (s5 = .own (rowsD odd) ∧ X = .lst (rowsD odd))) ∧ (X = .lst (rowsD odd) ∨ X = .tup (rowsD odd)) ∧ SN 12 (WS sc ps4 s5 bad odd word) e ∧ PurseOk (N + 4) ps4) ?_ ?_
  · obtain ⟨d, ps', env', hd, e3, h', hp'⟩ := draw_sn (m := 2) (ma := Mn.bind (Mn.ret (D.int 2)) fun d => Mn.bind (Mn.ret []) fun ds => Mn.ret (d :: ds)) n1' (by decide) (by simp [WS]) p3 (by omega) (by decide) (by decide) (a_cons rt_ok rt_ok)
    have h'' : SN 12 (WS sc ps' (.own (rowsD odd)) bad odd word) env' := h'.less (by simp [WS])
    refine en_if (cmp_ok2 (frv_ok e3) rt_ok (eqVX_plain (x := .int d) (y := .int 0) rfl rfl (by simp [dep]) (by simp [dep])).1) (fun hc => ?_) fun hc => en_nil ⟨_, .lst (rowsD odd), ps', .inr ⟨rfl, rfl⟩, .inl rfl, h'', hp'⟩
    have v5 := own_lv (h''.at (i := 5) (s := .own (rowsD odd)) (by simp [WS]))
    have y1 := h''.set (i := 5) (s := .val (.lst (rowsD odd))) (by decide) rfl
    obtain ⟨x2, g3, _, y2⟩ := y1.put (i := 5) (s := .val (.tup (rowsD odd))) (by decide) rfl
    exact en_seq (P1 := fun e => ∃ s5 X ps4, (s5 = .val X ∨ (s5 = .own (rowsD odd) ∧ X = .lst (rowsD odd))) ∧ (X = .lst (rowsD odd) ∨ X = .tup (rowsD odd)) ∧ SN 12 (WS sc ps4 s5 bad odd word) e ∧ PurseOk (N + 4) ps4) (en_set (call1_ok (r := .val (.tup (rowsD odd))) (a_cons2 v5 rt_ok) rfl) g3 ⟨_, .tup (rowsD odd), ps', .inl rfl, .inr rfl, y2.less (by simp [WS]), hp'⟩) fun _ h => en_nil h
  rintro e4 ⟨s5, X, ps4, e5, hX, h4, p4⟩
  refine en_seq (P1 := TB sc (N + 8)) ?_ fun _ h => en_nil h
  unfold l_law_1
  refine en_imp (en_for (PI := fun _ e => ∃ s5, (s5 = .val X ∨ (s5 = .own (rowsD odd) ∧ X = .lst (rowsD odd))) ∧ SN 12 (WS sc ps4 s5 bad odd word) e) (rng1_ok (n := 2) (a_cons rt_ok rt_ok) (by decide)) ⟨s5, e5, h4⟩ fun don d rest env e hb5 => ?_) fun e ⟨s5, _, hh⟩ => ⟨ps4, hh.less (by simp [WS]), p4.mono (by omega)⟩
  obtain ⟨s5, e5, hh⟩ := hb5
  have hd : d ∈ rngD 0 2 := by rw [e]; simp
  obtain ⟨k, hk, rfl⟩ := rng_mem hd
  obtain ⟨env1, g1, _, z1⟩ := hh.put (i := 6) (s := .val (.int k)) (by decide) rfl
  refine ⟨env1, g1, en_imp (law_way (way := k) (s5 := s5) (by omega) hX hb ho hw e5 (z1.less (by simp [WS]))) fun e q => ⟨.val X, .inl rfl, q⟩⟩
end RW

set_option Elab.async false
set_option linter.all false
set_option maxRecDepth 100000
set_option maxHeartbeats 1000000
namespace RW
open PySem PySem.Spec PyProof.Rows L2

theorem law_pass {sc : D} {ns : List Int} {k : Nat} {env : En} {Q : RV → Prop} (hsc : sc = .lst (ns.map .int)) (hk : k < 100) (h : SN 12 [(0, .val sc), (1, .val (.int k))] env) : Ends Q (fun e => SN 12 [(0, .val sc)] e) (b_law_3 env) := by
  obtain ⟨ps, e, hpu⟩ := purse_ok ns k hk
  rw [← hsc] at e
  have v0 := lv_at (h.at (i := 0) (s := .val sc) (by simp))
  have v1 := lv_at (h.at (i := 1) (s := .val (.int k)) (by simp))
  obtain ⟨env1, pe, _, h1⟩ := h.put (i := 2) (s := .own ps) (by decide) rfl
  unfold b_law_3
  refine en_seq (P1 := TB sc (1000 * k)) (en_set (callM_ok (dd := []) (a_cons v0 (a_cons v1 rt_ok)) e) pe ⟨ps, h1.less (by simp), hpu⟩) fun env2 h2 => ?_
  unfold l_law_2
  refine en_seq (P1 := TB sc (1000 * k + 8 * (rngD 0 4).length)) (en_for (PI := fun don => TB sc (1000 * k + 8 * don.length)) (rng1_ok (n := 4) (a_cons rt_ok rt_ok) (by decide)) h2 fun don d rest env e hb => ?_) fun _ ⟨ps, h, _⟩ => en_nil (h.less (by simp))
  have l3 : don.length < 4 := by
    have := congrArg List.length e
    simp [rngD] at this
    omega
  obtain ⟨ps, h, hpu⟩ := hb
  obtain ⟨env1, g1, _, h1⟩ := h.put (i := 3) (s := .val d) (by decide) rfl
  refine ⟨env1, g1, ?_⟩
  have := law_turn (Q := Q) (sc := sc) (N := 1000 * k + 8 * don.length) (by omega) ⟨ps, h1.less (by simp), hpu⟩
  rw [List.length_append, List.length_singleton, Nat.mul_add, Nat.mul_one, ← Nat.add_assoc]
  exact this
def okD : D := .lst [.str "ok", .bl true]
theorem f_ok : (chkB (neVX okD okD) false && chkB (eqVX okD okD) true) = true := by decide +kernel
theorem law_holds : LawDen den_law := by
  intro ns hn
  have main : ∃ r, denOf 11 m_law [.lst (ns.map .int)] = some (.ok r) ∧ r = .val (.bl true) := by
    refine den_en ?_
    generalize hsc : D.lst (ns.map .int) = sc
    have s0 : SN 12 [(0, .val sc)] [.val sc, .no, .no, .no, .no, .no, .no, .no, .no, .no, .no, .no] := ⟨⟨rfl, by simp, fun i => by
      match i with
      | 0 => rfl
      | 1 => rfl
      | 2 => rfl
      | 3 => rfl
      | 4 => rfl
      | 5 => rfl
      | 6 => rfl
      | 7 => rfl
      | 8 => rfl
      | 9 => rfl
      | 10 => rfl
      | 11 => rfl
      | n + 12 => simp [isLent]⟩, rfl⟩
    have v0 : lv 0 [.val sc, .no, .no, .no, .no, .no, .no, .no, .no, .no, .no, .no] = _ := lv_at (d := sc) rfl
    have ln : lenV [sc] = some (.val (.int ns.length)) := by rw [← hsc]; show vI _ = _; rw [List.length_map]; rfl
    unfold m_law
    refine en_seq (P1 := fun e => SN 12 [(0, .val sc)] e) ?_ fun env h => ?_
    · unfold l_law_3
      have mn : minV [.int 5, .int ns.length] = some (.val (.int ((min 5 ns.length : Nat) : Int))) := by
        show vI _ = _
        by_cases z : ns.length < 5
        · rw [if_pos (by omega), Nat.min_eq_right (by omega)]; rfl
        · rw [if_neg (by omega), Nat.min_eq_left (by omega)]; rfl
      have ad : addV (.int 1) (.int ((min 5 ns.length : Nat) : Int)) = some (.val (.int ((1 + min 5 ns.length : Nat) : Int))) := by
        show vI _ = _
        rw [Int.natCast_add]
        rfl
      have m5 : 1 + min 5 ns.length < 10 := by omega
      generalize 1 + min 5 ns.length = n at ad m5
      refine en_imp (en_for (PI := fun _ e => SN 12 [(0, .val sc)] e) (rng1_ok (n := n) (a_cons (frv_ok (op_ok rt_ok (frv_ok (call1_ok (a_cons rt_ok (a_cons (frv_ok (call1_ok (a_cons v0 rt_ok) ln)) rt_ok)) mn)) ad)) rt_ok) (by omega)) s0 fun don d rest env e h => ?_) fun _ h => h
      have hd : d ∈ rngD 0 n := by rw [e]; simp
      obtain ⟨k, hk, rfl⟩ := rng_mem hd
      obtain ⟨env1, g1, _, h1⟩ := h.put (i := 1) (s := .val (.int k)) (by decide) rfl
      exact ⟨env1, g1, law_pass (k := k) hsc.symm (by omega) (h1.less (by simp))⟩
    · have ok2 := f_ok
      rw [Bool.and_eq_true] at ok2
      refine en_seq (P1 := fun e => e = env) (en_if (c := false) (cmp_ok (x := okD) (y := okD) (frv_ok (r := .new [.str "ok", .bl true]) (callM_ok (dd := []) (ds := [.int 1, .lst [.tup [.tup [], wA]], wA, .str "any"]) (by rfl) (chkN_ok f_last1))) (by rfl) (chkB_ok ok2.1)) (fun z => by cases z) fun _ => en_nil rfl) fun e z => ?_
      subst z
      exact en_seq (P1 := fun _ => False) (en_ret (r := .val (.bl true)) (env' := e) (op_ok (x := okD) (y := okD) (frv_ok (r := .new [.str "ok", .bl true]) (callM_ok (dd := []) (ds := [.int 0, .lst [], .tup [], .str "plain"]) (by rfl) (chkN_ok f_last0))) (by rfl) (chkB_ok ok2.2)) rfl) fun _ z => z.elim
  obtain ⟨r, e, rfl⟩ := main
  exact e
end RW

set_option Elab.async false
set_option linter.all false
set_option maxRecDepth 100000
set_option maxHeartbeats 4000000
namespace RW
open PySem PySem.Spec PyProof.Rows L2
theorem all_mk {P : Program} {w : World} {K : PySem.W.Frag} {h : Heap} {mg : Str → Option Value} {fa : Addr} (X : K.In h) (G : h.Ns mainGlobals mg) (hfa : mg "law" = some (.ref fa)) (hlaw : LawDen den_law)
    {F_is_name : Addr} {od_is_name an_is_name : Option Addr} {sl_is_name : Array (Option Value)} {oc_is_name kV_is_name dc_is_name pm_is_name cd_is_name ct_is_name : Value}
    {F_is_world : Addr} {od_is_world an_is_world : Option Addr} {sl_is_world : Array (Option Value)} {oc_is_world kV_is_world dc_is_world pm_is_world cd_is_world ct_is_world : Value}
    {F_is_within : Addr} {od_is_within an_is_within : Option Addr} {sl_is_within : Array (Option Value)} {oc_is_within kV_is_within dc_is_within pm_is_within cd_is_within ct_is_within : Value}
    {F_is_pair : Addr} {od_is_pair an_is_pair : Option Addr} {sl_is_pair : Array (Option Value)} {oc_is_pair kV_is_pair dc_is_pair pm_is_pair cd_is_pair ct_is_pair : Value}
    {F_require_world : Addr} {od_require_world an_require_world : Option Addr} {sl_require_world : Array (Option Value)} {oc_require_world kV_require_world dc_require_world pm_require_world cd_require_world ct_require_world : Value}
    {F_common : Addr} {od_common an_common : Option Addr} {sl_common : Array (Option Value)} {oc_common kV_common dc_common pm_common cd_common ct_common : Value}
    {F_require_pairs : Addr} {od_require_pairs an_require_pairs : Option Addr} {sl_require_pairs : Array (Option Value)} {oc_require_pairs kV_require_pairs dc_require_pairs pm_require_pairs cd_require_pairs ct_require_pairs : Value}
    {F_by_there : Addr} {od_by_there an_by_there : Option Addr} {sl_by_there : Array (Option Value)} {oc_by_there kV_by_there dc_by_there pm_by_there cd_by_there ct_by_there : Value}
    {F_upward : Addr} {od_upward an_upward : Option Addr} {sl_upward : Array (Option Value)} {oc_upward kV_upward dc_upward pm_upward cd_upward ct_upward : Value}
    {F_meeting : Addr} {od_meeting an_meeting : Option Addr} {sl_meeting : Array (Option Value)} {oc_meeting kV_meeting dc_meeting pm_meeting cd_meeting ct_meeting : Value}
    {F_why_barred : Addr} {od_why_barred an_why_barred : Option Addr} {sl_why_barred : Array (Option Value)} {oc_why_barred kV_why_barred dc_why_barred pm_why_barred cd_why_barred ct_why_barred : Value}
    {F_barred : Addr} {od_barred an_barred : Option Addr} {sl_barred : Array (Option Value)} {oc_barred kV_barred dc_barred pm_barred cd_barred ct_barred : Value}
    {T_barred : Addr} {oT_barred : Value} {dT_barred : Option Addr} {nT_barred : Nat} {sT_barred : Array (Option Value)} {tT_barred : Tok}
    {F_program_of : Addr} {od_program_of an_program_of : Option Addr} {sl_program_of : Array (Option Value)} {oc_program_of kV_program_of dc_program_of pm_program_of cd_program_of ct_program_of : Value}
    {T_program_of : Addr} {oT_program_of : Value} {dT_program_of : Option Addr} {nT_program_of : Nat} {sT_program_of : Array (Option Value)} {tT_program_of : Tok}
    {F__law_at : Addr} {od__law_at an__law_at : Option Addr} {sl__law_at : Array (Option Value)} {oc__law_at kV__law_at dc__law_at pm__law_at cd__law_at ct__law_at : Value}
    {F__law_mixed : Addr} {od__law_mixed an__law_mixed : Option Addr} {sl__law_mixed : Array (Option Value)} {oc__law_mixed kV__law_mixed dc__law_mixed pm__law_mixed cd__law_mixed ct__law_mixed : Value}
    {F__law_purse : Addr} {od__law_purse an__law_purse : Option Addr} {sl__law_purse : Array (Option Value)} {oc__law_purse kV__law_purse dc__law_purse pm__law_purse cd__law_purse ct__law_purse : Value}
    {F__law_draw : Addr} {od__law_draw an__law_draw : Option Addr} {sl__law_draw : Array (Option Value)} {oc__law_draw kV__law_draw dc__law_draw pm__law_draw cd__law_draw ct__law_draw : Value}
    {F__law_asked : Addr} {od__law_asked an__law_asked : Option Addr} {sl__law_asked : Array (Option Value)} {oc__law_asked kV__law_asked dc__law_asked pm__law_asked cd__law_asked ct__law_asked : Value}
    {F__law_items : Addr} {od__law_items an__law_items : Option Addr} {sl__law_items : Array (Option Value)} {oc__law_items kV__law_items dc__law_items pm__law_items cd__law_items ct__law_items : Value}
    {F__law_words : Addr} {od__law_words an__law_words : Option Addr} {sl__law_words : Array (Option Value)} {oc__law_words kV__law_words dc__law_words pm__law_words cd__law_words ct__law_words : Value}
    {F_law : Addr} {od_law an_law : Option Addr} {sl_law : Array (Option Value)} {oc_law kV_law dc_law pm_law cd_law ct_law : Value}
    {t_LETTERS : Tok}
    {t_MOST_LETTERS : Tok}
    {t_NOT : Tok}
    {C_KINDS : Addr} {oC_KINDS : Option Addr} {nC_KINDS : Nat} {sC_KINDS : Array (Option Value)} {tC_KINDS0 tC_KINDS1 tC_KINDS2 : Tok}
    {X_Program : Addr}
    {X_InvalidRule : Addr}
    {X_NotAProgram : Addr}
    {X_InvalidWorld : Addr}
    {X_InvalidPair : Addr}
    {X_Unreadable : Addr}
    {X_InvalidKind : Addr}
    {X_Barred : Addr}
    {X_RuleError : Addr}
    {r_nm_Barred r_q_Barred : Str} {r_N_Barred : Addr} {r_bs_Barred r_bm_Barred : List Value} {r_sn_Barred : List Str} {r_sub_Barred : List Value} {r_ab_Barred : Bool} {r_col_Barred : Option Bool} {r_dd_Barred : Option Addr} {r_k0_Barred r_k1_Barred r_k2_Barred r_k3_Barred r_k5_Barred : Option Value}
    {I_Barred J_Barred : Addr} {iod_Barred ian_Barred : Option Addr} {isl_Barred : Array (Option Value)} {ioc_Barred ikV_Barred idc_Barred ipm_Barred icd_Barred ict_Barred : Value} {joT_Barred : Value} {jd_Barred : Option Addr} {jn_Barred : Nat} {js_Barred : Array (Option Value)}
    {r_nm_InvalidKind r_q_InvalidKind : Str} {r_N_InvalidKind : Addr} {r_bs_InvalidKind r_bm_InvalidKind : List Value} {r_sn_InvalidKind : List Str} {r_sub_InvalidKind : List Value} {r_ab_InvalidKind : Bool} {r_col_InvalidKind : Option Bool} {r_dd_InvalidKind : Option Addr} {r_k0_InvalidKind r_k1_InvalidKind r_k2_InvalidKind r_k3_InvalidKind r_k5_InvalidKind : Option Value}
    {I_InvalidKind J_InvalidKind : Addr} {iod_InvalidKind ian_InvalidKind : Option Addr} {isl_InvalidKind : Array (Option Value)} {ioc_InvalidKind ikV_InvalidKind idc_InvalidKind ipm_InvalidKind icd_InvalidKind ict_InvalidKind : Value} {joT_InvalidKind : Value} {jd_InvalidKind : Option Addr} {jn_InvalidKind : Nat} {js_InvalidKind : Array (Option Value)}
    {r_nm_InvalidPair r_q_InvalidPair : Str} {r_N_InvalidPair : Addr} {r_bs_InvalidPair r_bm_InvalidPair : List Value} {r_sn_InvalidPair : List Str} {r_sub_InvalidPair : List Value} {r_ab_InvalidPair : Bool} {r_col_InvalidPair : Option Bool} {r_dd_InvalidPair : Option Addr} {r_k0_InvalidPair r_k1_InvalidPair r_k2_InvalidPair r_k3_InvalidPair r_k5_InvalidPair : Option Value}
    {I_InvalidPair J_InvalidPair : Addr} {iod_InvalidPair ian_InvalidPair : Option Addr} {isl_InvalidPair : Array (Option Value)} {ioc_InvalidPair ikV_InvalidPair idc_InvalidPair ipm_InvalidPair icd_InvalidPair ict_InvalidPair : Value} {joT_InvalidPair : Value} {jd_InvalidPair : Option Addr} {jn_InvalidPair : Nat} {js_InvalidPair : Array (Option Value)}
    {r_nm_InvalidWorld r_q_InvalidWorld : Str} {r_N_InvalidWorld : Addr} {r_bs_InvalidWorld r_bm_InvalidWorld : List Value} {r_sn_InvalidWorld : List Str} {r_sub_InvalidWorld : List Value} {r_ab_InvalidWorld : Bool} {r_col_InvalidWorld : Option Bool} {r_dd_InvalidWorld : Option Addr} {r_k0_InvalidWorld r_k1_InvalidWorld r_k2_InvalidWorld r_k3_InvalidWorld r_k5_InvalidWorld : Option Value}
    {I_InvalidWorld J_InvalidWorld : Addr} {iod_InvalidWorld ian_InvalidWorld : Option Addr} {isl_InvalidWorld : Array (Option Value)} {ioc_InvalidWorld ikV_InvalidWorld idc_InvalidWorld ipm_InvalidWorld icd_InvalidWorld ict_InvalidWorld : Value} {joT_InvalidWorld : Value} {jd_InvalidWorld : Option Addr} {jn_InvalidWorld : Nat} {js_InvalidWorld : Array (Option Value)}
    (a_is_name : PySem.W.nsIn K mainGlobals "is_name" = some (some (.ref F_is_name)))
    (l_is_name : K.lookup F_is_name = some ⟨oc_is_name, od_is_name, .func (PySem.W.fnOf "is_name" "is_name" (defArgs (top 14)) (defBody (top 14)) (defScope (top 14)) .none kV_is_name dc_is_name pm_is_name an_is_name cd_is_name ct_is_name), sl_is_name⟩)
    (c_is_name : PySem.W.codeIn K cd_is_name "is_name" = true)
    (k_is_name : PySem.W.keepIn K (.ref F_is_name) = true)
    (a_is_world : PySem.W.nsIn K mainGlobals "is_world" = some (some (.ref F_is_world)))
    (l_is_world : K.lookup F_is_world = some ⟨oc_is_world, od_is_world, .func (PySem.W.fnOf "is_world" "is_world" (defArgs (top 15)) (defBody (top 15)) (defScope (top 15)) .none kV_is_world dc_is_world pm_is_world an_is_world cd_is_world ct_is_world), sl_is_world⟩)
    (c_is_world : PySem.W.codeIn K cd_is_world "is_world" = true)
    (k_is_world : PySem.W.keepIn K (.ref F_is_world) = true)
    (a_is_within : PySem.W.nsIn K mainGlobals "is_within" = some (some (.ref F_is_within)))
    (l_is_within : K.lookup F_is_within = some ⟨oc_is_within, od_is_within, .func (PySem.W.fnOf "is_within" "is_within" (defArgs (top 24)) (defBody (top 24)) (defScope (top 24)) .none kV_is_within dc_is_within pm_is_within an_is_within cd_is_within ct_is_within), sl_is_within⟩)
    (c_is_within : PySem.W.codeIn K cd_is_within "is_within" = true)
    (k_is_within : PySem.W.keepIn K (.ref F_is_within) = true)
    (a_is_pair : PySem.W.nsIn K mainGlobals "is_pair" = some (some (.ref F_is_pair)))
    (l_is_pair : K.lookup F_is_pair = some ⟨oc_is_pair, od_is_pair, .func (PySem.W.fnOf "is_pair" "is_pair" (defArgs (top 23)) (defBody (top 23)) (defScope (top 23)) .none kV_is_pair dc_is_pair pm_is_pair an_is_pair cd_is_pair ct_is_pair), sl_is_pair⟩)
    (c_is_pair : PySem.W.codeIn K cd_is_pair "is_pair" = true)
    (k_is_pair : PySem.W.keepIn K (.ref F_is_pair) = true)
    (a_require_world : PySem.W.nsIn K mainGlobals "require_world" = some (some (.ref F_require_world)))
    (l_require_world : K.lookup F_require_world = some ⟨oc_require_world, od_require_world, .func (PySem.W.fnOf "require_world" "require_world" (defArgs (top 25)) (defBody (top 25)) (defScope (top 25)) .none kV_require_world dc_require_world pm_require_world an_require_world cd_require_world ct_require_world), sl_require_world⟩)
    (c_require_world : PySem.W.codeIn K cd_require_world "require_world" = true)
    (k_require_world : PySem.W.keepIn K (.ref F_require_world) = true)
    (a_common : PySem.W.nsIn K mainGlobals "common" = some (some (.ref F_common)))
    (l_common : K.lookup F_common = some ⟨oc_common, od_common, .func (PySem.W.fnOf "common" "common" (defArgs (top 29)) (defBody (top 29)) (defScope (top 29)) .none kV_common dc_common pm_common an_common cd_common ct_common), sl_common⟩)
    (c_common : PySem.W.codeIn K cd_common "common" = true)
    (k_common : PySem.W.keepIn K (.ref F_common) = true)
    (a_require_pairs : PySem.W.nsIn K mainGlobals "require_pairs" = some (some (.ref F_require_pairs)))
    (l_require_pairs : K.lookup F_require_pairs = some ⟨oc_require_pairs, od_require_pairs, .func (PySem.W.fnOf "require_pairs" "require_pairs" (defArgs (top 31)) (defBody (top 31)) (defScope (top 31)) .none kV_require_pairs dc_require_pairs pm_require_pairs an_require_pairs cd_require_pairs ct_require_pairs), sl_require_pairs⟩)
    (c_require_pairs : PySem.W.codeIn K cd_require_pairs "require_pairs" = true)
    (k_require_pairs : PySem.W.keepIn K (.ref F_require_pairs) = true)
    (a_by_there : PySem.W.nsIn K mainGlobals "by_there" = some (some (.ref F_by_there)))
    (l_by_there : K.lookup F_by_there = some ⟨oc_by_there, od_by_there, .func (PySem.W.fnOf "by_there" "by_there" (defArgs (top 32)) (defBody (top 32)) (defScope (top 32)) .none kV_by_there dc_by_there pm_by_there an_by_there cd_by_there ct_by_there), sl_by_there⟩)
    (c_by_there : PySem.W.codeIn K cd_by_there "by_there" = true)
    (k_by_there : PySem.W.keepIn K (.ref F_by_there) = true)
    (a_upward : PySem.W.nsIn K mainGlobals "upward" = some (some (.ref F_upward)))
    (l_upward : K.lookup F_upward = some ⟨oc_upward, od_upward, .func (PySem.W.fnOf "upward" "upward" (defArgs (top 33)) (defBody (top 33)) (defScope (top 33)) .none kV_upward dc_upward pm_upward an_upward cd_upward ct_upward), sl_upward⟩)
    (c_upward : PySem.W.codeIn K cd_upward "upward" = true)
    (k_upward : PySem.W.keepIn K (.ref F_upward) = true)
    (a_meeting : PySem.W.nsIn K mainGlobals "meeting" = some (some (.ref F_meeting)))
    (l_meeting : K.lookup F_meeting = some ⟨oc_meeting, od_meeting, .func (PySem.W.fnOf "meeting" "meeting" (defArgs (top 34)) (defBody (top 34)) (defScope (top 34)) .none kV_meeting dc_meeting pm_meeting an_meeting cd_meeting ct_meeting), sl_meeting⟩)
    (c_meeting : PySem.W.codeIn K cd_meeting "meeting" = true)
    (k_meeting : PySem.W.keepIn K (.ref F_meeting) = true)
    (a_why_barred : PySem.W.nsIn K mainGlobals "why_barred" = some (some (.ref F_why_barred)))
    (l_why_barred : K.lookup F_why_barred = some ⟨oc_why_barred, od_why_barred, .func (PySem.W.fnOf "why_barred" "why_barred" (defArgs (top 35)) (defBody (top 35)) (defScope (top 35)) .none kV_why_barred dc_why_barred pm_why_barred an_why_barred cd_why_barred ct_why_barred), sl_why_barred⟩)
    (c_why_barred : PySem.W.codeIn K cd_why_barred "why_barred" = true)
    (k_why_barred : PySem.W.keepIn K (.ref F_why_barred) = true)
    (a_barred : PySem.W.nsIn K mainGlobals "barred" = some (some (.ref F_barred)))
    (l_barred : K.lookup F_barred = some ⟨oc_barred, od_barred, .func (PySem.W.fnOf "barred" "barred" (defArgs (top 36)) (defBody (top 36)) (defScope (top 36)) (.ref T_barred) kV_barred dc_barred pm_barred an_barred cd_barred ct_barred), sl_barred⟩)
    (d_barred : K.lookup T_barred = some ⟨oT_barred, dT_barred, .seq #[.str "any" tT_barred] nT_barred, sT_barred⟩)
    (c_barred : PySem.W.codeIn K cd_barred "barred" = true)
    (k_barred : PySem.W.keepIn K (.ref F_barred) = true)
    (a_program_of : PySem.W.nsIn K mainGlobals "program_of" = some (some (.ref F_program_of)))
    (l_program_of : K.lookup F_program_of = some ⟨oc_program_of, od_program_of, .func (PySem.W.fnOf "program_of" "program_of" (defArgs (top 38)) (defBody (top 38)) (defScope (top 38)) (.ref T_program_of) kV_program_of dc_program_of pm_program_of an_program_of cd_program_of ct_program_of), sl_program_of⟩)
    (d_program_of : K.lookup T_program_of = some ⟨oT_program_of, dT_program_of, .seq #[.str "any" tT_program_of] nT_program_of, sT_program_of⟩)
    (c_program_of : PySem.W.codeIn K cd_program_of "program_of" = true)
    (k_program_of : PySem.W.keepIn K (.ref F_program_of) = true)
    (a__law_at : PySem.W.nsIn K mainGlobals "_law_at" = some (some (.ref F__law_at)))
    (l__law_at : K.lookup F__law_at = some ⟨oc__law_at, od__law_at, .func (PySem.W.fnOf "_law_at" "_law_at" (defArgs (top 40)) (defBody (top 40)) (defScope (top 40)) .none kV__law_at dc__law_at pm__law_at an__law_at cd__law_at ct__law_at), sl__law_at⟩)
    (c__law_at : PySem.W.codeIn K cd__law_at "_law_at" = true)
    (k__law_at : PySem.W.keepIn K (.ref F__law_at) = true)
    (a__law_mixed : PySem.W.nsIn K mainGlobals "_law_mixed" = some (some (.ref F__law_mixed)))
    (l__law_mixed : K.lookup F__law_mixed = some ⟨oc__law_mixed, od__law_mixed, .func (PySem.W.fnOf "_law_mixed" "_law_mixed" (defArgs (top 41)) (defBody (top 41)) (defScope (top 41)) .none kV__law_mixed dc__law_mixed pm__law_mixed an__law_mixed cd__law_mixed ct__law_mixed), sl__law_mixed⟩)
    (c__law_mixed : PySem.W.codeIn K cd__law_mixed "_law_mixed" = true)
    (k__law_mixed : PySem.W.keepIn K (.ref F__law_mixed) = true)
    (a__law_purse : PySem.W.nsIn K mainGlobals "_law_purse" = some (some (.ref F__law_purse)))
    (l__law_purse : K.lookup F__law_purse = some ⟨oc__law_purse, od__law_purse, .func (PySem.W.fnOf "_law_purse" "_law_purse" (defArgs (top 42)) (defBody (top 42)) (defScope (top 42)) .none kV__law_purse dc__law_purse pm__law_purse an__law_purse cd__law_purse ct__law_purse), sl__law_purse⟩)
    (c__law_purse : PySem.W.codeIn K cd__law_purse "_law_purse" = true)
    (k__law_purse : PySem.W.keepIn K (.ref F__law_purse) = true)
    (a__law_draw : PySem.W.nsIn K mainGlobals "_law_draw" = some (some (.ref F__law_draw)))
    (l__law_draw : K.lookup F__law_draw = some ⟨oc__law_draw, od__law_draw, .func (PySem.W.fnOf "_law_draw" "_law_draw" (defArgs (top 43)) (defBody (top 43)) (defScope (top 43)) .none kV__law_draw dc__law_draw pm__law_draw an__law_draw cd__law_draw ct__law_draw), sl__law_draw⟩)
    (c__law_draw : PySem.W.codeIn K cd__law_draw "_law_draw" = true)
    (k__law_draw : PySem.W.keepIn K (.ref F__law_draw) = true)
    (a__law_asked : PySem.W.nsIn K mainGlobals "_law_asked" = some (some (.ref F__law_asked)))
    (l__law_asked : K.lookup F__law_asked = some ⟨oc__law_asked, od__law_asked, .func (PySem.W.fnOf "_law_asked" "_law_asked" (defArgs (top 44)) (defBody (top 44)) (defScope (top 44)) .none kV__law_asked dc__law_asked pm__law_asked an__law_asked cd__law_asked ct__law_asked), sl__law_asked⟩)
    (c__law_asked : PySem.W.codeIn K cd__law_asked "_law_asked" = true)
    (k__law_asked : PySem.W.keepIn K (.ref F__law_asked) = true)
    (a__law_items : PySem.W.nsIn K mainGlobals "_law_items" = some (some (.ref F__law_items)))
    (l__law_items : K.lookup F__law_items = some ⟨oc__law_items, od__law_items, .func (PySem.W.fnOf "_law_items" "_law_items" (defArgs (top 45)) (defBody (top 45)) (defScope (top 45)) .none kV__law_items dc__law_items pm__law_items an__law_items cd__law_items ct__law_items), sl__law_items⟩)
    (c__law_items : PySem.W.codeIn K cd__law_items "_law_items" = true)
    (k__law_items : PySem.W.keepIn K (.ref F__law_items) = true)
    (a__law_words : PySem.W.nsIn K mainGlobals "_law_words" = some (some (.ref F__law_words)))
    (l__law_words : K.lookup F__law_words = some ⟨oc__law_words, od__law_words, .func (PySem.W.fnOf "_law_words" "_law_words" (defArgs (top 46)) (defBody (top 46)) (defScope (top 46)) .none kV__law_words dc__law_words pm__law_words an__law_words cd__law_words ct__law_words), sl__law_words⟩)
    (c__law_words : PySem.W.codeIn K cd__law_words "_law_words" = true)
    (k__law_words : PySem.W.keepIn K (.ref F__law_words) = true)
    (a_law : PySem.W.nsIn K mainGlobals "law" = some (some (.ref F_law)))
    (l_law : K.lookup F_law = some ⟨oc_law, od_law, .func (PySem.W.fnOf "law" "law" (defArgs (top 47)) (defBody (top 47)) (defScope (top 47)) .none kV_law dc_law pm_law an_law cd_law ct_law), sl_law⟩)
    (c_law : PySem.W.codeIn K cd_law "law" = true)
    (k_law : PySem.W.keepIn K (.ref F_law) = true)
    (n_all : PySem.W.nsIn K mainGlobals "all" = some none)
    (n_int : PySem.W.nsIn K mainGlobals "int" = some none)
    (n_isinstance : PySem.W.nsIn K mainGlobals "isinstance" = some none)
    (n_len : PySem.W.nsIn K mainGlobals "len" = some none)
    (n_max : PySem.W.nsIn K mainGlobals "max" = some none)
    (n_min : PySem.W.nsIn K mainGlobals "min" = some none)
    (n_range : PySem.W.nsIn K mainGlobals "range" = some none)
    (n_set : PySem.W.nsIn K mainGlobals "set" = some none)
    (n_sorted : PySem.W.nsIn K mainGlobals "sorted" = some none)
    (n_str : PySem.W.nsIn K mainGlobals "str" = some none)
    (n_tuple : PySem.W.nsIn K mainGlobals "tuple" = some none)
    (n_zip : PySem.W.nsIn K mainGlobals "zip" = some none)
    (m_LETTERS : PySem.W.nsIn K mainGlobals "LETTERS" = some (some (.str "abcdefghijklmnopqrstuvwxyz" t_LETTERS)))
    (m_MOST_LETTERS : PySem.W.nsIn K mainGlobals "MOST_LETTERS" = some (some (.int 8 t_MOST_LETTERS)))
    (m_NOT : PySem.W.nsIn K mainGlobals "NOT" = some (some (.str "not" t_NOT)))
    (m_KINDS : PySem.W.nsIn K mainGlobals "KINDS" = some (some (.ref C_KINDS)))
    (v_KINDS : K.lookup C_KINDS = some ⟨.type "tuple", oC_KINDS, .seq #[.str "any" tC_KINDS0, .str "plain" tC_KINDS1, .str "single" tC_KINDS2] nC_KINDS, sC_KINDS⟩)
    (xa_Program : PySem.W.nsIn K mainGlobals "Program" = some (some (.ref X_Program)))
    (xa_InvalidRule : PySem.W.nsIn K mainGlobals "InvalidRule" = some (some (.ref X_InvalidRule)))
    (xa_NotAProgram : PySem.W.nsIn K mainGlobals "NotAProgram" = some (some (.ref X_NotAProgram)))
    (xa_InvalidWorld : PySem.W.nsIn K mainGlobals "InvalidWorld" = some (some (.ref X_InvalidWorld)))
    (xa_InvalidPair : PySem.W.nsIn K mainGlobals "InvalidPair" = some (some (.ref X_InvalidPair)))
    (xa_Unreadable : PySem.W.nsIn K mainGlobals "Unreadable" = some (some (.ref X_Unreadable)))
    (xa_InvalidKind : PySem.W.nsIn K mainGlobals "InvalidKind" = some (some (.ref X_InvalidKind)))
    (xa_Barred : PySem.W.nsIn K mainGlobals "Barred" = some (some (.ref X_Barred)))
    (xa_RuleError : PySem.W.nsIn K mainGlobals "RuleError" = some (some (.ref X_RuleError)))
    (xa_Desk : PySem.W.nsIn K mainGlobals "Desk" = some none)
    (xa_InvalidNames : PySem.W.nsIn K mainGlobals "InvalidNames" = some none)
    (xa_NotBasic : PySem.W.nsIn K mainGlobals "NotBasic" = some none)
    (xa_NotASplit : PySem.W.nsIn K mainGlobals "NotASplit" = some none)
    (xa_NoSuchSheet : PySem.W.nsIn K mainGlobals "NoSuchSheet" = some none)
    (xa_InvalidDeed : PySem.W.nsIn K mainGlobals "InvalidDeed" = some none)
    (xa_NoAnswer : PySem.W.nsIn K mainGlobals "NoAnswer" = some none)
    (xa_NothingToUndo : PySem.W.nsIn K mainGlobals "NothingToUndo" = some none)
    (w_hn : PySem.W.specialIn K (.builtin "object.__class__") "__get__" = some (some (.builtin "getset_descriptor.__get__")))
    (w_ht : PySem.W.takesIn K (.builtin "object.__class__") = some true)
    (w_hd_Program : PySem.W.hasDictIn K X_Program = true)
    (w_ha_Program : PySem.W.findIn K (.ref X_Program) "__class__" = some (some (.builtin "object.__class__")))
    (w_hm_Program : PySem.W.mroIn K X_Program (.type "object") = some true)
    (w_pg_Program : PySem.W.plainGet K X_Program Str.empty = true)
    (w_po_Program : PySem.W.plainOver K X_Program = true)
    (w_sa_Program : PySem.W.findIn K (.ref X_Program) "__setattr__" = some (some (.builtin "object.__setattr__")))
    (w_hd_InvalidRule : PySem.W.hasDictIn K X_InvalidRule = true)
    (w_ha_InvalidRule : PySem.W.findIn K (.ref X_InvalidRule) "__class__" = some (some (.builtin "object.__class__")))
    (w_hm_InvalidRule : PySem.W.mroIn K X_InvalidRule (.type "object") = some true)
    (w_hg_InvalidRule : PySem.W.findIn K (.ref X_InvalidRule) "__getattribute__" = some (some (.builtin "BaseException.__getattribute__")))
    (w_hk_InvalidRule : PySem.W.findIn K (.ref X_InvalidRule) "__getattr__" = some none)
    (w_hs_InvalidRule : PySem.W.subIn K (.ref X_InvalidRule) (.type "BaseException") = some true)
    (w_hd_NotAProgram : PySem.W.hasDictIn K X_NotAProgram = true)
    (w_ha_NotAProgram : PySem.W.findIn K (.ref X_NotAProgram) "__class__" = some (some (.builtin "object.__class__")))
    (w_hm_NotAProgram : PySem.W.mroIn K X_NotAProgram (.type "object") = some true)
    (w_hg_NotAProgram : PySem.W.findIn K (.ref X_NotAProgram) "__getattribute__" = some (some (.builtin "BaseException.__getattribute__")))
    (w_hk_NotAProgram : PySem.W.findIn K (.ref X_NotAProgram) "__getattr__" = some none)
    (w_hs_NotAProgram : PySem.W.subIn K (.ref X_NotAProgram) (.type "BaseException") = some true)
    (w_hd_InvalidWorld : PySem.W.hasDictIn K X_InvalidWorld = true)
    (w_ha_InvalidWorld : PySem.W.findIn K (.ref X_InvalidWorld) "__class__" = some (some (.builtin "object.__class__")))
    (w_hm_InvalidWorld : PySem.W.mroIn K X_InvalidWorld (.type "object") = some true)
    (w_hg_InvalidWorld : PySem.W.findIn K (.ref X_InvalidWorld) "__getattribute__" = some (some (.builtin "BaseException.__getattribute__")))
    (w_hk_InvalidWorld : PySem.W.findIn K (.ref X_InvalidWorld) "__getattr__" = some none)
    (w_hs_InvalidWorld : PySem.W.subIn K (.ref X_InvalidWorld) (.type "BaseException") = some true)
    (w_hd_InvalidPair : PySem.W.hasDictIn K X_InvalidPair = true)
    (w_ha_InvalidPair : PySem.W.findIn K (.ref X_InvalidPair) "__class__" = some (some (.builtin "object.__class__")))
    (w_hm_InvalidPair : PySem.W.mroIn K X_InvalidPair (.type "object") = some true)
    (w_hg_InvalidPair : PySem.W.findIn K (.ref X_InvalidPair) "__getattribute__" = some (some (.builtin "BaseException.__getattribute__")))
    (w_hk_InvalidPair : PySem.W.findIn K (.ref X_InvalidPair) "__getattr__" = some none)
    (w_hs_InvalidPair : PySem.W.subIn K (.ref X_InvalidPair) (.type "BaseException") = some true)
    (w_hd_Unreadable : PySem.W.hasDictIn K X_Unreadable = true)
    (w_ha_Unreadable : PySem.W.findIn K (.ref X_Unreadable) "__class__" = some (some (.builtin "object.__class__")))
    (w_hm_Unreadable : PySem.W.mroIn K X_Unreadable (.type "object") = some true)
    (w_hg_Unreadable : PySem.W.findIn K (.ref X_Unreadable) "__getattribute__" = some (some (.builtin "BaseException.__getattribute__")))
    (w_hk_Unreadable : PySem.W.findIn K (.ref X_Unreadable) "__getattr__" = some none)
    (w_hs_Unreadable : PySem.W.subIn K (.ref X_Unreadable) (.type "BaseException") = some true)
    (w_hd_InvalidKind : PySem.W.hasDictIn K X_InvalidKind = true)
    (w_ha_InvalidKind : PySem.W.findIn K (.ref X_InvalidKind) "__class__" = some (some (.builtin "object.__class__")))
    (w_hm_InvalidKind : PySem.W.mroIn K X_InvalidKind (.type "object") = some true)
    (w_hg_InvalidKind : PySem.W.findIn K (.ref X_InvalidKind) "__getattribute__" = some (some (.builtin "BaseException.__getattribute__")))
    (w_hk_InvalidKind : PySem.W.findIn K (.ref X_InvalidKind) "__getattr__" = some none)
    (w_hs_InvalidKind : PySem.W.subIn K (.ref X_InvalidKind) (.type "BaseException") = some true)
    (w_hd_Barred : PySem.W.hasDictIn K X_Barred = true)
    (w_ha_Barred : PySem.W.findIn K (.ref X_Barred) "__class__" = some (some (.builtin "object.__class__")))
    (w_hm_Barred : PySem.W.mroIn K X_Barred (.type "object") = some true)
    (w_hg_Barred : PySem.W.findIn K (.ref X_Barred) "__getattribute__" = some (some (.builtin "BaseException.__getattribute__")))
    (w_hk_Barred : PySem.W.findIn K (.ref X_Barred) "__getattr__" = some none)
    (w_hs_Barred : PySem.W.subIn K (.ref X_Barred) (.type "BaseException") = some true)
    (w_hd_RuleError : PySem.W.hasDictIn K X_RuleError = true)
    (w_ha_RuleError : PySem.W.findIn K (.ref X_RuleError) "__class__" = some (some (.builtin "object.__class__")))
    (w_hm_RuleError : PySem.W.mroIn K X_RuleError (.type "object") = some true)
    (w_hg_RuleError : PySem.W.findIn K (.ref X_RuleError) "__getattribute__" = some (some (.builtin "BaseException.__getattribute__")))
    (w_hk_RuleError : PySem.W.findIn K (.ref X_RuleError) "__getattr__" = some none)
    (w_hs_RuleError : PySem.W.subIn K (.ref X_RuleError) (.type "BaseException") = some true)
    (q_k_Barred : PySem.W.keepIn K (.ref X_Barred) = true)
    (q_t_Barred_NoneType : PySem.W.kitOne K (.type "NoneType") (.ref X_Barred) = some false)
    (q_t_Barred_bool : PySem.W.kitOne K (.type "bool") (.ref X_Barred) = some false)
    (q_t_Barred_int : PySem.W.kitOne K (.type "int") (.ref X_Barred) = some false)
    (q_t_Barred_str : PySem.W.kitOne K (.type "str") (.ref X_Barred) = some false)
    (q_t_Barred_tuple : PySem.W.kitOne K (.type "tuple") (.ref X_Barred) = some false)
    (q_t_Barred_list : PySem.W.kitOne K (.type "list") (.ref X_Barred) = some false)
    (q_t_Barred_set : PySem.W.kitOne K (.type "set") (.ref X_Barred) = some false)
    (q_t_Barred_dict : PySem.W.kitOne K (.type "dict") (.ref X_Barred) = some false)
    (q_o_Barred_Program : PySem.W.kitOne K (.ref X_Program) (.ref X_Barred) = some false)
    (q_o_Barred_InvalidRule : PySem.W.kitOne K (.ref X_InvalidRule) (.ref X_Barred) = some false)
    (q_o_Barred_NotAProgram : PySem.W.kitOne K (.ref X_NotAProgram) (.ref X_Barred) = some false)
    (q_o_Barred_InvalidWorld : PySem.W.kitOne K (.ref X_InvalidWorld) (.ref X_Barred) = some false)
    (q_o_Barred_InvalidPair : PySem.W.kitOne K (.ref X_InvalidPair) (.ref X_Barred) = some false)
    (q_o_Barred_Unreadable : PySem.W.kitOne K (.ref X_Unreadable) (.ref X_Barred) = some false)
    (q_o_Barred_InvalidKind : PySem.W.kitOne K (.ref X_InvalidKind) (.ref X_Barred) = some false)
    (q_o_Barred_Barred : PySem.W.kitOne K (.ref X_Barred) (.ref X_Barred) = some true)
    (q_o_Barred_RuleError : PySem.W.kitOne K (.ref X_RuleError) (.ref X_Barred) = some false)
    (q_k_InvalidKind : PySem.W.keepIn K (.ref X_InvalidKind) = true)
    (q_t_InvalidKind_NoneType : PySem.W.kitOne K (.type "NoneType") (.ref X_InvalidKind) = some false)
    (q_t_InvalidKind_bool : PySem.W.kitOne K (.type "bool") (.ref X_InvalidKind) = some false)
    (q_t_InvalidKind_int : PySem.W.kitOne K (.type "int") (.ref X_InvalidKind) = some false)
    (q_t_InvalidKind_str : PySem.W.kitOne K (.type "str") (.ref X_InvalidKind) = some false)
    (q_t_InvalidKind_tuple : PySem.W.kitOne K (.type "tuple") (.ref X_InvalidKind) = some false)
    (q_t_InvalidKind_list : PySem.W.kitOne K (.type "list") (.ref X_InvalidKind) = some false)
    (q_t_InvalidKind_set : PySem.W.kitOne K (.type "set") (.ref X_InvalidKind) = some false)
    (q_t_InvalidKind_dict : PySem.W.kitOne K (.type "dict") (.ref X_InvalidKind) = some false)
    (q_o_InvalidKind_Program : PySem.W.kitOne K (.ref X_Program) (.ref X_InvalidKind) = some false)
    (q_o_InvalidKind_InvalidRule : PySem.W.kitOne K (.ref X_InvalidRule) (.ref X_InvalidKind) = some false)
    (q_o_InvalidKind_NotAProgram : PySem.W.kitOne K (.ref X_NotAProgram) (.ref X_InvalidKind) = some false)
    (q_o_InvalidKind_InvalidWorld : PySem.W.kitOne K (.ref X_InvalidWorld) (.ref X_InvalidKind) = some false)
    (q_o_InvalidKind_InvalidPair : PySem.W.kitOne K (.ref X_InvalidPair) (.ref X_InvalidKind) = some false)
    (q_o_InvalidKind_Unreadable : PySem.W.kitOne K (.ref X_Unreadable) (.ref X_InvalidKind) = some false)
    (q_o_InvalidKind_InvalidKind : PySem.W.kitOne K (.ref X_InvalidKind) (.ref X_InvalidKind) = some true)
    (q_o_InvalidKind_Barred : PySem.W.kitOne K (.ref X_Barred) (.ref X_InvalidKind) = some false)
    (q_o_InvalidKind_RuleError : PySem.W.kitOne K (.ref X_RuleError) (.ref X_InvalidKind) = some false)
    (q_k_InvalidPair : PySem.W.keepIn K (.ref X_InvalidPair) = true)
    (q_t_InvalidPair_NoneType : PySem.W.kitOne K (.type "NoneType") (.ref X_InvalidPair) = some false)
    (q_t_InvalidPair_bool : PySem.W.kitOne K (.type "bool") (.ref X_InvalidPair) = some false)
    (q_t_InvalidPair_int : PySem.W.kitOne K (.type "int") (.ref X_InvalidPair) = some false)
    (q_t_InvalidPair_str : PySem.W.kitOne K (.type "str") (.ref X_InvalidPair) = some false)
    (q_t_InvalidPair_tuple : PySem.W.kitOne K (.type "tuple") (.ref X_InvalidPair) = some false)
    (q_t_InvalidPair_list : PySem.W.kitOne K (.type "list") (.ref X_InvalidPair) = some false)
    (q_t_InvalidPair_set : PySem.W.kitOne K (.type "set") (.ref X_InvalidPair) = some false)
    (q_t_InvalidPair_dict : PySem.W.kitOne K (.type "dict") (.ref X_InvalidPair) = some false)
    (q_o_InvalidPair_Program : PySem.W.kitOne K (.ref X_Program) (.ref X_InvalidPair) = some false)
    (q_o_InvalidPair_InvalidRule : PySem.W.kitOne K (.ref X_InvalidRule) (.ref X_InvalidPair) = some false)
    (q_o_InvalidPair_NotAProgram : PySem.W.kitOne K (.ref X_NotAProgram) (.ref X_InvalidPair) = some false)
    (q_o_InvalidPair_InvalidWorld : PySem.W.kitOne K (.ref X_InvalidWorld) (.ref X_InvalidPair) = some false)
    (q_o_InvalidPair_InvalidPair : PySem.W.kitOne K (.ref X_InvalidPair) (.ref X_InvalidPair) = some true)
    (q_o_InvalidPair_Unreadable : PySem.W.kitOne K (.ref X_Unreadable) (.ref X_InvalidPair) = some false)
    (q_o_InvalidPair_InvalidKind : PySem.W.kitOne K (.ref X_InvalidKind) (.ref X_InvalidPair) = some false)
    (q_o_InvalidPair_Barred : PySem.W.kitOne K (.ref X_Barred) (.ref X_InvalidPair) = some false)
    (q_o_InvalidPair_RuleError : PySem.W.kitOne K (.ref X_RuleError) (.ref X_InvalidPair) = some false)
    (q_k_InvalidWorld : PySem.W.keepIn K (.ref X_InvalidWorld) = true)
    (q_t_InvalidWorld_NoneType : PySem.W.kitOne K (.type "NoneType") (.ref X_InvalidWorld) = some false)
    (q_t_InvalidWorld_bool : PySem.W.kitOne K (.type "bool") (.ref X_InvalidWorld) = some false)
    (q_t_InvalidWorld_int : PySem.W.kitOne K (.type "int") (.ref X_InvalidWorld) = some false)
    (q_t_InvalidWorld_str : PySem.W.kitOne K (.type "str") (.ref X_InvalidWorld) = some false)
    (q_t_InvalidWorld_tuple : PySem.W.kitOne K (.type "tuple") (.ref X_InvalidWorld) = some false)
    (q_t_InvalidWorld_list : PySem.W.kitOne K (.type "list") (.ref X_InvalidWorld) = some false)
    (q_t_InvalidWorld_set : PySem.W.kitOne K (.type "set") (.ref X_InvalidWorld) = some false)
    (q_t_InvalidWorld_dict : PySem.W.kitOne K (.type "dict") (.ref X_InvalidWorld) = some false)
    (q_o_InvalidWorld_Program : PySem.W.kitOne K (.ref X_Program) (.ref X_InvalidWorld) = some false)
    (q_o_InvalidWorld_InvalidRule : PySem.W.kitOne K (.ref X_InvalidRule) (.ref X_InvalidWorld) = some false)
    (q_o_InvalidWorld_NotAProgram : PySem.W.kitOne K (.ref X_NotAProgram) (.ref X_InvalidWorld) = some false)
    (q_o_InvalidWorld_InvalidWorld : PySem.W.kitOne K (.ref X_InvalidWorld) (.ref X_InvalidWorld) = some true)
    (q_o_InvalidWorld_InvalidPair : PySem.W.kitOne K (.ref X_InvalidPair) (.ref X_InvalidWorld) = some false)
    (q_o_InvalidWorld_Unreadable : PySem.W.kitOne K (.ref X_Unreadable) (.ref X_InvalidWorld) = some false)
    (q_o_InvalidWorld_InvalidKind : PySem.W.kitOne K (.ref X_InvalidKind) (.ref X_InvalidWorld) = some false)
    (q_o_InvalidWorld_Barred : PySem.W.kitOne K (.ref X_Barred) (.ref X_InvalidWorld) = some false)
    (q_o_InvalidWorld_RuleError : PySem.W.kitOne K (.ref X_RuleError) (.ref X_InvalidWorld) = some false)
    (q_k_Program : PySem.W.keepIn K (.ref X_Program) = true)
    (q_t_Program_NoneType : PySem.W.kitOne K (.type "NoneType") (.ref X_Program) = some false)
    (q_t_Program_bool : PySem.W.kitOne K (.type "bool") (.ref X_Program) = some false)
    (q_t_Program_int : PySem.W.kitOne K (.type "int") (.ref X_Program) = some false)
    (q_t_Program_str : PySem.W.kitOne K (.type "str") (.ref X_Program) = some false)
    (q_t_Program_tuple : PySem.W.kitOne K (.type "tuple") (.ref X_Program) = some false)
    (q_t_Program_list : PySem.W.kitOne K (.type "list") (.ref X_Program) = some false)
    (q_t_Program_set : PySem.W.kitOne K (.type "set") (.ref X_Program) = some false)
    (q_t_Program_dict : PySem.W.kitOne K (.type "dict") (.ref X_Program) = some false)
    (q_o_Program_Program : PySem.W.kitOne K (.ref X_Program) (.ref X_Program) = some true)
    (q_o_Program_InvalidRule : PySem.W.kitOne K (.ref X_InvalidRule) (.ref X_Program) = some false)
    (q_o_Program_NotAProgram : PySem.W.kitOne K (.ref X_NotAProgram) (.ref X_Program) = some false)
    (q_o_Program_InvalidWorld : PySem.W.kitOne K (.ref X_InvalidWorld) (.ref X_Program) = some false)
    (q_o_Program_InvalidPair : PySem.W.kitOne K (.ref X_InvalidPair) (.ref X_Program) = some false)
    (q_o_Program_Unreadable : PySem.W.kitOne K (.ref X_Unreadable) (.ref X_Program) = some false)
    (q_o_Program_InvalidKind : PySem.W.kitOne K (.ref X_InvalidKind) (.ref X_Program) = some false)
    (q_o_Program_Barred : PySem.W.kitOne K (.ref X_Barred) (.ref X_Program) = some false)
    (q_o_Program_RuleError : PySem.W.kitOne K (.ref X_RuleError) (.ref X_Program) = some false)
    (q_b_str_Program : PySem.W.kitOne K (.ref X_Program) (.type "str") = some false)
    (q_b_str_InvalidRule : PySem.W.kitOne K (.ref X_InvalidRule) (.type "str") = some false)
    (q_b_str_NotAProgram : PySem.W.kitOne K (.ref X_NotAProgram) (.type "str") = some false)
    (q_b_str_InvalidWorld : PySem.W.kitOne K (.ref X_InvalidWorld) (.type "str") = some false)
    (q_b_str_InvalidPair : PySem.W.kitOne K (.ref X_InvalidPair) (.type "str") = some false)
    (q_b_str_Unreadable : PySem.W.kitOne K (.ref X_Unreadable) (.type "str") = some false)
    (q_b_str_InvalidKind : PySem.W.kitOne K (.ref X_InvalidKind) (.type "str") = some false)
    (q_b_str_Barred : PySem.W.kitOne K (.ref X_Barred) (.type "str") = some false)
    (q_b_str_RuleError : PySem.W.kitOne K (.ref X_RuleError) (.type "str") = some false)
    (q_b_tuple_Program : PySem.W.kitOne K (.ref X_Program) (.type "tuple") = some false)
    (q_b_tuple_InvalidRule : PySem.W.kitOne K (.ref X_InvalidRule) (.type "tuple") = some false)
    (q_b_tuple_NotAProgram : PySem.W.kitOne K (.ref X_NotAProgram) (.type "tuple") = some false)
    (q_b_tuple_InvalidWorld : PySem.W.kitOne K (.ref X_InvalidWorld) (.type "tuple") = some false)
    (q_b_tuple_InvalidPair : PySem.W.kitOne K (.ref X_InvalidPair) (.type "tuple") = some false)
    (q_b_tuple_Unreadable : PySem.W.kitOne K (.ref X_Unreadable) (.type "tuple") = some false)
    (q_b_tuple_InvalidKind : PySem.W.kitOne K (.ref X_InvalidKind) (.type "tuple") = some false)
    (q_b_tuple_Barred : PySem.W.kitOne K (.ref X_Barred) (.type "tuple") = some false)
    (q_b_tuple_RuleError : PySem.W.kitOne K (.ref X_RuleError) (.type "tuple") = some false)
    (h_t_RuleError : PySem.W.typeIn K (.ref X_RuleError) = some (.type "type"))
    (h_s_RuleError_InvalidRule : PySem.W.subIn K (.ref X_InvalidRule) (.ref X_RuleError) = some true)
    (h_s_RuleError_NotAProgram : PySem.W.subIn K (.ref X_NotAProgram) (.ref X_RuleError) = some true)
    (h_s_RuleError_InvalidWorld : PySem.W.subIn K (.ref X_InvalidWorld) (.ref X_RuleError) = some true)
    (h_s_RuleError_InvalidPair : PySem.W.subIn K (.ref X_InvalidPair) (.ref X_RuleError) = some true)
    (h_s_RuleError_Unreadable : PySem.W.subIn K (.ref X_Unreadable) (.ref X_RuleError) = some true)
    (h_s_RuleError_InvalidKind : PySem.W.subIn K (.ref X_InvalidKind) (.ref X_RuleError) = some true)
    (h_s_RuleError_Barred : PySem.W.subIn K (.ref X_Barred) (.ref X_RuleError) = some true)
    (h_s_RuleError_RuleError : PySem.W.subIn K (.ref X_RuleError) (.ref X_RuleError) = some true)
    (nn_thing_NotAProgram : PySem.W.findIn K (.ref X_NotAProgram) "thing" = some none)
    (nn_thing_InvalidWorld : PySem.W.findIn K (.ref X_InvalidWorld) "thing" = some none)
    (nn_thing_InvalidPair : PySem.W.findIn K (.ref X_InvalidPair) "thing" = some none)
    (nn_value_InvalidKind : PySem.W.findIn K (.ref X_InvalidKind) "value" = some none)
    (r_c_Barred : K.lookup X_Barred = some (excClassObj r_nm_Barred r_q_Barred X_Barred r_N_Barred r_bs_Barred r_bm_Barred true r_sn_Barred r_sub_Barred r_ab_Barred r_col_Barred r_dd_Barred r_k0_Barred r_k1_Barred r_k2_Barred r_k3_Barred r_k5_Barred "ValueError.__new__"))
    (r_m_Barred : PySem.HandSPX.refsVE r_bm_Barred = true)
    (r_sa_Barred : PySem.W.findIn K (.ref X_Barred) "__setattr__" = some (some (.builtin "object.__setattr__")))
    (r_ty_Barred : PySem.W.typeIn K (.ref X_Barred) = some (.type "type"))
    (r_k_Barred : PySem.W.keepIn K (.ref X_Barred) = true)
    (i_a_Barred : PySem.W.findIn K (.ref X_Barred) "__init__" = some (some (.ref I_Barred)))
    (i_t_Barred : PySem.W.typeIn K (.ref I_Barred) = some (.type "function"))
    (i_n_Barred : PySem.W.findIn K (.ref X_Barred) "why" = some none)
    (i_l_Barred : K.lookup I_Barred = some ⟨ioc_Barred, iod_Barred, .func (PySem.W.fnOf "__init__" "Barred.__init__" (defArgs (clsDef (top 9) 0)) (defBody (clsDef (top 9) 0)) (defScope (clsDef (top 9) 0)) (.ref J_Barred) ikV_Barred idc_Barred ipm_Barred ian_Barred icd_Barred ict_Barred), isl_Barred⟩)
    (i_d_Barred : K.lookup J_Barred = some ⟨joT_Barred, jd_Barred, .seq #[.none] jn_Barred, js_Barred⟩)
    (i_c_Barred : PySem.W.codeIn K icd_Barred "Barred.__init__" = true)
    (i_k_Barred : PySem.W.keepIn K (.ref I_Barred) = true)
    (r_c_InvalidKind : K.lookup X_InvalidKind = some (excClassObj r_nm_InvalidKind r_q_InvalidKind X_InvalidKind r_N_InvalidKind r_bs_InvalidKind r_bm_InvalidKind true r_sn_InvalidKind r_sub_InvalidKind r_ab_InvalidKind r_col_InvalidKind r_dd_InvalidKind r_k0_InvalidKind r_k1_InvalidKind r_k2_InvalidKind r_k3_InvalidKind r_k5_InvalidKind "ValueError.__new__"))
    (r_m_InvalidKind : PySem.HandSPX.refsVE r_bm_InvalidKind = true)
    (r_sa_InvalidKind : PySem.W.findIn K (.ref X_InvalidKind) "__setattr__" = some (some (.builtin "object.__setattr__")))
    (r_ty_InvalidKind : PySem.W.typeIn K (.ref X_InvalidKind) = some (.type "type"))
    (r_k_InvalidKind : PySem.W.keepIn K (.ref X_InvalidKind) = true)
    (i_a_InvalidKind : PySem.W.findIn K (.ref X_InvalidKind) "__init__" = some (some (.ref I_InvalidKind)))
    (i_t_InvalidKind : PySem.W.typeIn K (.ref I_InvalidKind) = some (.type "function"))
    (i_n_InvalidKind : PySem.W.findIn K (.ref X_InvalidKind) "value" = some none)
    (i_l_InvalidKind : K.lookup I_InvalidKind = some ⟨ioc_InvalidKind, iod_InvalidKind, .func (PySem.W.fnOf "__init__" "InvalidKind.__init__" (defArgs (clsDef (top 8) 0)) (defBody (clsDef (top 8) 0)) (defScope (clsDef (top 8) 0)) (.ref J_InvalidKind) ikV_InvalidKind idc_InvalidKind ipm_InvalidKind ian_InvalidKind icd_InvalidKind ict_InvalidKind), isl_InvalidKind⟩)
    (i_d_InvalidKind : K.lookup J_InvalidKind = some ⟨joT_InvalidKind, jd_InvalidKind, .seq #[.none] jn_InvalidKind, js_InvalidKind⟩)
    (i_c_InvalidKind : PySem.W.codeIn K icd_InvalidKind "InvalidKind.__init__" = true)
    (i_k_InvalidKind : PySem.W.keepIn K (.ref I_InvalidKind) = true)
    (r_c_InvalidPair : K.lookup X_InvalidPair = some (excClassObj r_nm_InvalidPair r_q_InvalidPair X_InvalidPair r_N_InvalidPair r_bs_InvalidPair r_bm_InvalidPair true r_sn_InvalidPair r_sub_InvalidPair r_ab_InvalidPair r_col_InvalidPair r_dd_InvalidPair r_k0_InvalidPair r_k1_InvalidPair r_k2_InvalidPair r_k3_InvalidPair r_k5_InvalidPair "ValueError.__new__"))
    (r_m_InvalidPair : PySem.HandSPX.refsVE r_bm_InvalidPair = true)
    (r_sa_InvalidPair : PySem.W.findIn K (.ref X_InvalidPair) "__setattr__" = some (some (.builtin "object.__setattr__")))
    (r_ty_InvalidPair : PySem.W.typeIn K (.ref X_InvalidPair) = some (.type "type"))
    (r_k_InvalidPair : PySem.W.keepIn K (.ref X_InvalidPair) = true)
    (i_a_InvalidPair : PySem.W.findIn K (.ref X_InvalidPair) "__init__" = some (some (.ref I_InvalidPair)))
    (i_t_InvalidPair : PySem.W.typeIn K (.ref I_InvalidPair) = some (.type "function"))
    (i_n_InvalidPair : PySem.W.findIn K (.ref X_InvalidPair) "thing" = some none)
    (i_l_InvalidPair : K.lookup I_InvalidPair = some ⟨ioc_InvalidPair, iod_InvalidPair, .func (PySem.W.fnOf "__init__" "InvalidPair.__init__" (defArgs (clsDef (top 6) 0)) (defBody (clsDef (top 6) 0)) (defScope (clsDef (top 6) 0)) (.ref J_InvalidPair) ikV_InvalidPair idc_InvalidPair ipm_InvalidPair ian_InvalidPair icd_InvalidPair ict_InvalidPair), isl_InvalidPair⟩)
    (i_d_InvalidPair : K.lookup J_InvalidPair = some ⟨joT_InvalidPair, jd_InvalidPair, .seq #[.none] jn_InvalidPair, js_InvalidPair⟩)
    (i_c_InvalidPair : PySem.W.codeIn K icd_InvalidPair "InvalidPair.__init__" = true)
    (i_k_InvalidPair : PySem.W.keepIn K (.ref I_InvalidPair) = true)
    (r_c_InvalidWorld : K.lookup X_InvalidWorld = some (excClassObj r_nm_InvalidWorld r_q_InvalidWorld X_InvalidWorld r_N_InvalidWorld r_bs_InvalidWorld r_bm_InvalidWorld true r_sn_InvalidWorld r_sub_InvalidWorld r_ab_InvalidWorld r_col_InvalidWorld r_dd_InvalidWorld r_k0_InvalidWorld r_k1_InvalidWorld r_k2_InvalidWorld r_k3_InvalidWorld r_k5_InvalidWorld "ValueError.__new__"))
    (r_m_InvalidWorld : PySem.HandSPX.refsVE r_bm_InvalidWorld = true)
    (r_sa_InvalidWorld : PySem.W.findIn K (.ref X_InvalidWorld) "__setattr__" = some (some (.builtin "object.__setattr__")))
    (r_ty_InvalidWorld : PySem.W.typeIn K (.ref X_InvalidWorld) = some (.type "type"))
    (r_k_InvalidWorld : PySem.W.keepIn K (.ref X_InvalidWorld) = true)
    (i_a_InvalidWorld : PySem.W.findIn K (.ref X_InvalidWorld) "__init__" = some (some (.ref I_InvalidWorld)))
    (i_t_InvalidWorld : PySem.W.typeIn K (.ref I_InvalidWorld) = some (.type "function"))
    (i_n_InvalidWorld : PySem.W.findIn K (.ref X_InvalidWorld) "thing" = some none)
    (i_l_InvalidWorld : K.lookup I_InvalidWorld = some ⟨ioc_InvalidWorld, iod_InvalidWorld, .func (PySem.W.fnOf "__init__" "InvalidWorld.__init__" (defArgs (clsDef (top 5) 0)) (defBody (clsDef (top 5) 0)) (defScope (clsDef (top 5) 0)) (.ref J_InvalidWorld) ikV_InvalidWorld idc_InvalidWorld ipm_InvalidWorld ian_InvalidWorld icd_InvalidWorld ict_InvalidWorld), isl_InvalidWorld⟩)
    (i_d_InvalidWorld : K.lookup J_InvalidWorld = some ⟨joT_InvalidWorld, jd_InvalidWorld, .seq #[.none] jn_InvalidWorld, js_InvalidWorld⟩)
    (i_c_InvalidWorld : PySem.W.codeIn K icd_InvalidWorld "InvalidWorld.__init__" = true)
    (i_k_InvalidWorld : PySem.W.keepIn K (.ref I_InvalidWorld) = true)
    : ∃ fd : FuncData, (∀ (s : Shared) (u : Value), BindsTo s fd ⟨[u], []⟩ [("script", u)]) ∧ ∀ base : Heap, K.In base → base.Ns mainGlobals mg → FnOk P w K mg base (L2.CX P w) 7 fa fd ["script"] (spLaw K) := by
  have e := hfa.symm.trans (PySem.W.mg_of X G a_law)
  cases e
  have F_is_name' := fun_mk (st := top 14) l_is_name c_is_name k_is_name
  have F_is_world' := fun_mk (st := top 15) l_is_world c_is_world k_is_world
  have F_is_within' := fun_mk (st := top 24) l_is_within c_is_within k_is_within
  have F_is_pair' := fun_mk (st := top 23) l_is_pair c_is_pair k_is_pair
  have F_require_world' := fun_mk (st := top 25) l_require_world c_require_world k_require_world
  have F_common' := fun_mk (st := top 29) l_common c_common k_common
  have F_require_pairs' := fun_mk (st := top 31) l_require_pairs c_require_pairs k_require_pairs
  have F_by_there' := fun_mk (st := top 32) l_by_there c_by_there k_by_there
  have F_upward' := fun_mk (st := top 33) l_upward c_upward k_upward
  have F_meeting' := fun_mk (st := top 34) l_meeting c_meeting k_meeting
  have F_why_barred' := fun_mk (st := top 35) l_why_barred c_why_barred k_why_barred
  have F_barred' := fund_mk (dvs := [.str "any"]) (its := [.str "any" tT_barred]) l_barred c_barred k_barred d_barred rfl (.cons ⟨_, rfl⟩ .nil) (by simp)
  have F_program_of' := fund_mk (dvs := [.str "any"]) (its := [.str "any" tT_program_of]) l_program_of c_program_of k_program_of d_program_of rfl (.cons ⟨_, rfl⟩ .nil) (by simp)
  have F__law_at' := fun_mk (st := top 40) l__law_at c__law_at k__law_at
  have F__law_mixed' := fun_mk (st := top 41) l__law_mixed c__law_mixed k__law_mixed
  have F__law_purse' := fun_mk (st := top 42) l__law_purse c__law_purse k__law_purse
  have F__law_draw' := fun_mk (st := top 43) l__law_draw c__law_draw k__law_draw
  have F__law_asked' := fun_mk (st := top 44) l__law_asked c__law_asked k__law_asked
  have F__law_items' := fun_mk (st := top 45) l__law_items c__law_items k__law_items
  have F__law_words' := fun_mk (st := top 46) l__law_words c__law_words k__law_words
  have F_law' := fun_mk (st := top 47) l_law c_law k_law
  have mg_Program := PySem.W.mg_of X G xa_Program
  have mg_InvalidRule := PySem.W.mg_of X G xa_InvalidRule
  have mg_NotAProgram := PySem.W.mg_of X G xa_NotAProgram
  have mg_InvalidWorld := PySem.W.mg_of X G xa_InvalidWorld
  have mg_InvalidPair := PySem.W.mg_of X G xa_InvalidPair
  have mg_Unreadable := PySem.W.mg_of X G xa_Unreadable
  have mg_InvalidKind := PySem.W.mg_of X G xa_InvalidKind
  have mg_Barred := PySem.W.mg_of X G xa_Barred
  have mg_RuleError := PySem.W.mg_of X G xa_RuleError
  have mg_Desk := PySem.W.mg_none_of X G xa_Desk
  have mg_InvalidNames := PySem.W.mg_none_of X G xa_InvalidNames
  have mg_NotBasic := PySem.W.mg_none_of X G xa_NotBasic
  have mg_NotASplit := PySem.W.mg_none_of X G xa_NotASplit
  have mg_NoSuchSheet := PySem.W.mg_none_of X G xa_NoSuchSheet
  have mg_InvalidDeed := PySem.W.mg_none_of X G xa_InvalidDeed
  have mg_NoAnswer := PySem.W.mg_none_of X G xa_NoAnswer
  have mg_NothingToUndo := PySem.W.mg_none_of X G xa_NothingToUndo
  have q_own : OwnOk K mg := own_of (all_cons (at_of mg_Program (⟨⟨w_pg_Program, w_hd_Program, w_po_Program, w_sa_Program⟩, w_ha_Program, w_hn, w_ht, w_hm_Program⟩ : InsF K X_Program))
      (all_cons (at_none mg_Desk)
      all_nil)) (all_cons (at_of mg_InvalidRule (⟨w_hg_InvalidRule, w_hk_InvalidRule, w_hs_InvalidRule, w_hd_InvalidRule, w_ha_InvalidRule, w_hn, w_ht, w_hm_InvalidRule⟩ : ExcC K X_InvalidRule))
      (all_cons (at_of mg_NotAProgram (⟨w_hg_NotAProgram, w_hk_NotAProgram, w_hs_NotAProgram, w_hd_NotAProgram, w_ha_NotAProgram, w_hn, w_ht, w_hm_NotAProgram⟩ : ExcC K X_NotAProgram))
      (all_cons (at_of mg_InvalidWorld (⟨w_hg_InvalidWorld, w_hk_InvalidWorld, w_hs_InvalidWorld, w_hd_InvalidWorld, w_ha_InvalidWorld, w_hn, w_ht, w_hm_InvalidWorld⟩ : ExcC K X_InvalidWorld))
      (all_cons (at_of mg_InvalidPair (⟨w_hg_InvalidPair, w_hk_InvalidPair, w_hs_InvalidPair, w_hd_InvalidPair, w_ha_InvalidPair, w_hn, w_ht, w_hm_InvalidPair⟩ : ExcC K X_InvalidPair))
      (all_cons (at_none mg_InvalidNames)
      (all_cons (at_of mg_Unreadable (⟨w_hg_Unreadable, w_hk_Unreadable, w_hs_Unreadable, w_hd_Unreadable, w_ha_Unreadable, w_hn, w_ht, w_hm_Unreadable⟩ : ExcC K X_Unreadable))
      (all_cons (at_of mg_InvalidKind (⟨w_hg_InvalidKind, w_hk_InvalidKind, w_hs_InvalidKind, w_hd_InvalidKind, w_ha_InvalidKind, w_hn, w_ht, w_hm_InvalidKind⟩ : ExcC K X_InvalidKind))
      (all_cons (at_of mg_Barred (⟨w_hg_Barred, w_hk_Barred, w_hs_Barred, w_hd_Barred, w_ha_Barred, w_hn, w_ht, w_hm_Barred⟩ : ExcC K X_Barred))
      (all_cons (at_none mg_NotBasic)
      (all_cons (at_none mg_NotASplit)
      (all_cons (at_none mg_NoSuchSheet)
      (all_cons (at_none mg_InvalidDeed)
      all_nil)))))))))))) (all_cons (at_of mg_RuleError (⟨w_hg_RuleError, w_hk_RuleError, w_hs_RuleError, w_hd_RuleError, w_ha_RuleError, w_hn, w_ht, w_hm_RuleError⟩ : ExcC K X_RuleError))
      (all_cons (at_none mg_NoAnswer)
      (all_cons (at_none mg_NothingToUndo)
      all_nil)))
  have q_kt_str : KitT K mg "str" := kitT_of (all_cons (at_of mg_Program q_b_str_Program)
      (all_cons (at_none mg_Desk)
      all_nil)) (all_cons (at_of mg_InvalidRule q_b_str_InvalidRule)
      (all_cons (at_of mg_NotAProgram q_b_str_NotAProgram)
      (all_cons (at_of mg_InvalidWorld q_b_str_InvalidWorld)
      (all_cons (at_of mg_InvalidPair q_b_str_InvalidPair)
      (all_cons (at_none mg_InvalidNames)
      (all_cons (at_of mg_Unreadable q_b_str_Unreadable)
      (all_cons (at_of mg_InvalidKind q_b_str_InvalidKind)
      (all_cons (at_of mg_Barred q_b_str_Barred)
      (all_cons (at_none mg_NotBasic)
      (all_cons (at_none mg_NotASplit)
      (all_cons (at_none mg_NoSuchSheet)
      (all_cons (at_none mg_InvalidDeed)
      all_nil)))))))))))) (all_cons (at_of mg_RuleError q_b_str_RuleError)
      (all_cons (at_none mg_NoAnswer)
      (all_cons (at_none mg_NothingToUndo)
      all_nil)))
  have q_kt_tuple : KitT K mg "tuple" := kitT_of (all_cons (at_of mg_Program q_b_tuple_Program)
      (all_cons (at_none mg_Desk)
      all_nil)) (all_cons (at_of mg_InvalidRule q_b_tuple_InvalidRule)
      (all_cons (at_of mg_NotAProgram q_b_tuple_NotAProgram)
      (all_cons (at_of mg_InvalidWorld q_b_tuple_InvalidWorld)
      (all_cons (at_of mg_InvalidPair q_b_tuple_InvalidPair)
      (all_cons (at_none mg_InvalidNames)
      (all_cons (at_of mg_Unreadable q_b_tuple_Unreadable)
      (all_cons (at_of mg_InvalidKind q_b_tuple_InvalidKind)
      (all_cons (at_of mg_Barred q_b_tuple_Barred)
      (all_cons (at_none mg_NotBasic)
      (all_cons (at_none mg_NotASplit)
      (all_cons (at_none mg_NoSuchSheet)
      (all_cons (at_none mg_InvalidDeed)
      all_nil)))))))))))) (all_cons (at_of mg_RuleError q_b_tuple_RuleError)
      (all_cons (at_none mg_NoAnswer)
      (all_cons (at_none mg_NothingToUndo)
      all_nil)))
  have q_nn_thing : NoName K mg "thing" := noName_of (all_filter (m := ["NotAProgram", "InvalidWorld", "InvalidPair", "InvalidNames", "NotASplit"]) (by decide +kernel) (all_cons (at_of mg_NotAProgram nn_thing_NotAProgram)
      (all_cons (at_of mg_InvalidWorld nn_thing_InvalidWorld)
      (all_cons (at_of mg_InvalidPair nn_thing_InvalidPair)
      (all_cons (at_none mg_InvalidNames)
      (all_cons (at_none mg_NotASplit)
      all_nil))))))
  have q_nn_value : NoName K mg "value" := noName_of (all_filter (m := ["InvalidKind"]) (by decide +kernel) (all_cons (at_of mg_InvalidKind nn_value_InvalidKind)
      all_nil))
  have q_ty_Barred : ∀ n ∈ tyN, PySem.W.kitOne K (.type n) (.ref X_Barred) = some false := fun n hn => by
    simp only [tyN, List.mem_cons, List.not_mem_nil, or_false] at hn
    rcases hn with rfl | rfl | rfl | rfl | rfl | rfl | rfl | rfl
    · exact q_t_Barred_NoneType
    · exact q_t_Barred_bool
    · exact q_t_Barred_int
    · exact q_t_Barred_str
    · exact q_t_Barred_tuple
    · exact q_t_Barred_list
    · exact q_t_Barred_set
    · exact q_t_Barred_dict
  have q_kc_Barred : KitC K mg "Barred" X_Barred := kitC_of mg_Barred q_k_Barred q_ty_Barred (all_cons (at_of mg_Program (kit_b q_o_Barred_Program (by decide +kernel)))
      (all_cons (at_none mg_Desk)
      all_nil)) (all_cons (at_of mg_InvalidRule (kit_b q_o_Barred_InvalidRule (by decide +kernel)))
      (all_cons (at_of mg_NotAProgram (kit_b q_o_Barred_NotAProgram (by decide +kernel)))
      (all_cons (at_of mg_InvalidWorld (kit_b q_o_Barred_InvalidWorld (by decide +kernel)))
      (all_cons (at_of mg_InvalidPair (kit_b q_o_Barred_InvalidPair (by decide +kernel)))
      (all_cons (at_none mg_InvalidNames)
      (all_cons (at_of mg_Unreadable (kit_b q_o_Barred_Unreadable (by decide +kernel)))
      (all_cons (at_of mg_InvalidKind (kit_b q_o_Barred_InvalidKind (by decide +kernel)))
      (all_cons (at_of mg_Barred (kit_b q_o_Barred_Barred (by decide +kernel)))
      (all_cons (at_none mg_NotBasic)
      (all_cons (at_none mg_NotASplit)
      (all_cons (at_none mg_NoSuchSheet)
      (all_cons (at_none mg_InvalidDeed)
      all_nil)))))))))))) (all_cons (at_of mg_RuleError (kit_b q_o_Barred_RuleError (by decide +kernel)))
      (all_cons (at_none mg_NoAnswer)
      (all_cons (at_none mg_NothingToUndo)
      all_nil)))
  have q_ty_InvalidKind : ∀ n ∈ tyN, PySem.W.kitOne K (.type n) (.ref X_InvalidKind) = some false := fun n hn => by
    simp only [tyN, List.mem_cons, List.not_mem_nil, or_false] at hn
    rcases hn with rfl | rfl | rfl | rfl | rfl | rfl | rfl | rfl
    · exact q_t_InvalidKind_NoneType
    · exact q_t_InvalidKind_bool
    · exact q_t_InvalidKind_int
    · exact q_t_InvalidKind_str
    · exact q_t_InvalidKind_tuple
    · exact q_t_InvalidKind_list
    · exact q_t_InvalidKind_set
    · exact q_t_InvalidKind_dict
  have q_kc_InvalidKind : KitC K mg "InvalidKind" X_InvalidKind := kitC_of mg_InvalidKind q_k_InvalidKind q_ty_InvalidKind (all_cons (at_of mg_Program (kit_b q_o_InvalidKind_Program (by decide +kernel)))
      (all_cons (at_none mg_Desk)
      all_nil)) (all_cons (at_of mg_InvalidRule (kit_b q_o_InvalidKind_InvalidRule (by decide +kernel)))
      (all_cons (at_of mg_NotAProgram (kit_b q_o_InvalidKind_NotAProgram (by decide +kernel)))
      (all_cons (at_of mg_InvalidWorld (kit_b q_o_InvalidKind_InvalidWorld (by decide +kernel)))
      (all_cons (at_of mg_InvalidPair (kit_b q_o_InvalidKind_InvalidPair (by decide +kernel)))
      (all_cons (at_none mg_InvalidNames)
      (all_cons (at_of mg_Unreadable (kit_b q_o_InvalidKind_Unreadable (by decide +kernel)))
      (all_cons (at_of mg_InvalidKind (kit_b q_o_InvalidKind_InvalidKind (by decide +kernel)))
      (all_cons (at_of mg_Barred (kit_b q_o_InvalidKind_Barred (by decide +kernel)))
      (all_cons (at_none mg_NotBasic)
      (all_cons (at_none mg_NotASplit)
      (all_cons (at_none mg_NoSuchSheet)
      (all_cons (at_none mg_InvalidDeed)
      all_nil)))))))))))) (all_cons (at_of mg_RuleError (kit_b q_o_InvalidKind_RuleError (by decide +kernel)))
      (all_cons (at_none mg_NoAnswer)
      (all_cons (at_none mg_NothingToUndo)
      all_nil)))
  have q_ty_InvalidPair : ∀ n ∈ tyN, PySem.W.kitOne K (.type n) (.ref X_InvalidPair) = some false := fun n hn => by
    simp only [tyN, List.mem_cons, List.not_mem_nil, or_false] at hn
    rcases hn with rfl | rfl | rfl | rfl | rfl | rfl | rfl | rfl
    · exact q_t_InvalidPair_NoneType
    · exact q_t_InvalidPair_bool
    · exact q_t_InvalidPair_int
    · exact q_t_InvalidPair_str
    · exact q_t_InvalidPair_tuple
    · exact q_t_InvalidPair_list
    · exact q_t_InvalidPair_set
    · exact q_t_InvalidPair_dict
  have q_kc_InvalidPair : KitC K mg "InvalidPair" X_InvalidPair := kitC_of mg_InvalidPair q_k_InvalidPair q_ty_InvalidPair (all_cons (at_of mg_Program (kit_b q_o_InvalidPair_Program (by decide +kernel)))
      (all_cons (at_none mg_Desk)
      all_nil)) (all_cons (at_of mg_InvalidRule (kit_b q_o_InvalidPair_InvalidRule (by decide +kernel)))
      (all_cons (at_of mg_NotAProgram (kit_b q_o_InvalidPair_NotAProgram (by decide +kernel)))
      (all_cons (at_of mg_InvalidWorld (kit_b q_o_InvalidPair_InvalidWorld (by decide +kernel)))
      (all_cons (at_of mg_InvalidPair (kit_b q_o_InvalidPair_InvalidPair (by decide +kernel)))
      (all_cons (at_none mg_InvalidNames)
      (all_cons (at_of mg_Unreadable (kit_b q_o_InvalidPair_Unreadable (by decide +kernel)))
      (all_cons (at_of mg_InvalidKind (kit_b q_o_InvalidPair_InvalidKind (by decide +kernel)))
      (all_cons (at_of mg_Barred (kit_b q_o_InvalidPair_Barred (by decide +kernel)))
      (all_cons (at_none mg_NotBasic)
      (all_cons (at_none mg_NotASplit)
      (all_cons (at_none mg_NoSuchSheet)
      (all_cons (at_none mg_InvalidDeed)
      all_nil)))))))))))) (all_cons (at_of mg_RuleError (kit_b q_o_InvalidPair_RuleError (by decide +kernel)))
      (all_cons (at_none mg_NoAnswer)
      (all_cons (at_none mg_NothingToUndo)
      all_nil)))
  have q_ty_InvalidWorld : ∀ n ∈ tyN, PySem.W.kitOne K (.type n) (.ref X_InvalidWorld) = some false := fun n hn => by
    simp only [tyN, List.mem_cons, List.not_mem_nil, or_false] at hn
    rcases hn with rfl | rfl | rfl | rfl | rfl | rfl | rfl | rfl
    · exact q_t_InvalidWorld_NoneType
    · exact q_t_InvalidWorld_bool
    · exact q_t_InvalidWorld_int
    · exact q_t_InvalidWorld_str
    · exact q_t_InvalidWorld_tuple
    · exact q_t_InvalidWorld_list
    · exact q_t_InvalidWorld_set
    · exact q_t_InvalidWorld_dict
  have q_kc_InvalidWorld : KitC K mg "InvalidWorld" X_InvalidWorld := kitC_of mg_InvalidWorld q_k_InvalidWorld q_ty_InvalidWorld (all_cons (at_of mg_Program (kit_b q_o_InvalidWorld_Program (by decide +kernel)))
      (all_cons (at_none mg_Desk)
      all_nil)) (all_cons (at_of mg_InvalidRule (kit_b q_o_InvalidWorld_InvalidRule (by decide +kernel)))
      (all_cons (at_of mg_NotAProgram (kit_b q_o_InvalidWorld_NotAProgram (by decide +kernel)))
      (all_cons (at_of mg_InvalidWorld (kit_b q_o_InvalidWorld_InvalidWorld (by decide +kernel)))
      (all_cons (at_of mg_InvalidPair (kit_b q_o_InvalidWorld_InvalidPair (by decide +kernel)))
      (all_cons (at_none mg_InvalidNames)
      (all_cons (at_of mg_Unreadable (kit_b q_o_InvalidWorld_Unreadable (by decide +kernel)))
      (all_cons (at_of mg_InvalidKind (kit_b q_o_InvalidWorld_InvalidKind (by decide +kernel)))
      (all_cons (at_of mg_Barred (kit_b q_o_InvalidWorld_Barred (by decide +kernel)))
      (all_cons (at_none mg_NotBasic)
      (all_cons (at_none mg_NotASplit)
      (all_cons (at_none mg_NoSuchSheet)
      (all_cons (at_none mg_InvalidDeed)
      all_nil)))))))))))) (all_cons (at_of mg_RuleError (kit_b q_o_InvalidWorld_RuleError (by decide +kernel)))
      (all_cons (at_none mg_NoAnswer)
      (all_cons (at_none mg_NothingToUndo)
      all_nil)))
  have q_ty_Program : ∀ n ∈ tyN, PySem.W.kitOne K (.type n) (.ref X_Program) = some false := fun n hn => by
    simp only [tyN, List.mem_cons, List.not_mem_nil, or_false] at hn
    rcases hn with rfl | rfl | rfl | rfl | rfl | rfl | rfl | rfl
    · exact q_t_Program_NoneType
    · exact q_t_Program_bool
    · exact q_t_Program_int
    · exact q_t_Program_str
    · exact q_t_Program_tuple
    · exact q_t_Program_list
    · exact q_t_Program_set
    · exact q_t_Program_dict
  have q_kc_Program : KitC K mg "Program" X_Program := kitC_of mg_Program q_k_Program q_ty_Program (all_cons (at_of mg_Program (kit_b q_o_Program_Program (by decide +kernel)))
      (all_cons (at_none mg_Desk)
      all_nil)) (all_cons (at_of mg_InvalidRule (kit_b q_o_Program_InvalidRule (by decide +kernel)))
      (all_cons (at_of mg_NotAProgram (kit_b q_o_Program_NotAProgram (by decide +kernel)))
      (all_cons (at_of mg_InvalidWorld (kit_b q_o_Program_InvalidWorld (by decide +kernel)))
      (all_cons (at_of mg_InvalidPair (kit_b q_o_Program_InvalidPair (by decide +kernel)))
      (all_cons (at_none mg_InvalidNames)
      (all_cons (at_of mg_Unreadable (kit_b q_o_Program_Unreadable (by decide +kernel)))
      (all_cons (at_of mg_InvalidKind (kit_b q_o_Program_InvalidKind (by decide +kernel)))
      (all_cons (at_of mg_Barred (kit_b q_o_Program_Barred (by decide +kernel)))
      (all_cons (at_none mg_NotBasic)
      (all_cons (at_none mg_NotASplit)
      (all_cons (at_none mg_NoSuchSheet)
      (all_cons (at_none mg_InvalidDeed)
      all_nil)))))))))))) (all_cons (at_of mg_RuleError (kit_b q_o_Program_RuleError (by decide +kernel)))
      (all_cons (at_none mg_NoAnswer)
      (all_cons (at_none mg_NothingToUndo)
      all_nil)))
  have q_ck_RuleError : CatchOk K mg "RuleError" (.ref X_RuleError) := catch_of (all_cons (at_of mg_InvalidRule (exm_b (PySem.W.exm_ref w_hs_RuleError w_hd_RuleError h_t_RuleError h_s_RuleError_InvalidRule) (by decide +kernel)))
      (all_cons (at_of mg_NotAProgram (exm_b (PySem.W.exm_ref w_hs_RuleError w_hd_RuleError h_t_RuleError h_s_RuleError_NotAProgram) (by decide +kernel)))
      (all_cons (at_of mg_InvalidWorld (exm_b (PySem.W.exm_ref w_hs_RuleError w_hd_RuleError h_t_RuleError h_s_RuleError_InvalidWorld) (by decide +kernel)))
      (all_cons (at_of mg_InvalidPair (exm_b (PySem.W.exm_ref w_hs_RuleError w_hd_RuleError h_t_RuleError h_s_RuleError_InvalidPair) (by decide +kernel)))
      (all_cons (at_none mg_InvalidNames)
      (all_cons (at_of mg_Unreadable (exm_b (PySem.W.exm_ref w_hs_RuleError w_hd_RuleError h_t_RuleError h_s_RuleError_Unreadable) (by decide +kernel)))
      (all_cons (at_of mg_InvalidKind (exm_b (PySem.W.exm_ref w_hs_RuleError w_hd_RuleError h_t_RuleError h_s_RuleError_InvalidKind) (by decide +kernel)))
      (all_cons (at_of mg_Barred (exm_b (PySem.W.exm_ref w_hs_RuleError w_hd_RuleError h_t_RuleError h_s_RuleError_Barred) (by decide +kernel)))
      (all_cons (at_none mg_NotBasic)
      (all_cons (at_none mg_NotASplit)
      (all_cons (at_none mg_NoSuchSheet)
      (all_cons (at_none mg_InvalidDeed)
      all_nil)))))))))))) (all_cons (at_of mg_RuleError (exm_b (PySem.W.exm_ref w_hs_RuleError w_hd_RuleError h_t_RuleError h_s_RuleError_RuleError) (by decide +kernel)))
      (all_cons (at_none mg_NoAnswer)
      (all_cons (at_none mg_NothingToUndo)
      all_nil)))
  have q_f_Barred := fund_mk (dvs := [.non]) (its := [.none]) (st := (clsDef (top 9) 0)) i_l_Barred i_c_Barred i_k_Barred i_d_Barred rfl (.cons rfl .nil) (by simp)
  have q_b_Barred : Binds K (PySem.W.fnOf "__init__" "Barred.__init__" (defArgs (clsDef (top 9) 0)) (defBody (clsDef (top 9) 0)) (defScope (clsDef (top 9) 0)) (.ref J_Barred) ikV_Barred idc_Barred ipm_Barred ian_Barred icd_Barred ict_Barred) ["self", "why"] [] := by
    obtain ⟨ds, h1, h2⟩ := q_f_Barred.binds1 (ps := ["self", "why"]) 2 1 (by simp) rfl fun _ _ _ _ _ _ _ us its h1 h2 => match us, its, h1, h2 with | [_, _], [_], _, _ => ⟨_, rfl, rfl⟩
    cases h1
    exact h2
  have q_x_Barred : XBase K mg "Barred" := ⟨by decide +kernel, "why", X_Barred, I_Barred, _, _, _, _, _, _, _, _, _, _, by decide +kernel, mg_Barred, ⟨⟨_, _, _, _, _, _, _, _, _, _, _, _, _, _, _, r_c_Barred, r_m_Barred⟩, r_sa_Barred, w_hs_Barred, r_ty_Barred, r_k_Barred⟩, i_a_Barred, i_t_Barred, i_n_Barred, q_f_Barred, ⟨rfl, rfl, rfl, by decide +kernel, rfl, by decide +kernel, by decide +kernel⟩, rfl, rfl, q_b_Barred⟩
  have q_f_InvalidKind := fund_mk (dvs := [.non]) (its := [.none]) (st := (clsDef (top 8) 0)) i_l_InvalidKind i_c_InvalidKind i_k_InvalidKind i_d_InvalidKind rfl (.cons rfl .nil) (by simp)
  have q_b_InvalidKind : Binds K (PySem.W.fnOf "__init__" "InvalidKind.__init__" (defArgs (clsDef (top 8) 0)) (defBody (clsDef (top 8) 0)) (defScope (clsDef (top 8) 0)) (.ref J_InvalidKind) ikV_InvalidKind idc_InvalidKind ipm_InvalidKind ian_InvalidKind icd_InvalidKind ict_InvalidKind) ["self", "value"] [] := by
    obtain ⟨ds, h1, h2⟩ := q_f_InvalidKind.binds1 (ps := ["self", "value"]) 2 1 (by simp) rfl fun _ _ _ _ _ _ _ us its h1 h2 => match us, its, h1, h2 with | [_, _], [_], _, _ => ⟨_, rfl, rfl⟩
    cases h1
    exact h2
  have q_x_InvalidKind : XBase K mg "InvalidKind" := ⟨by decide +kernel, "value", X_InvalidKind, I_InvalidKind, _, _, _, _, _, _, _, _, _, _, by decide +kernel, mg_InvalidKind, ⟨⟨_, _, _, _, _, _, _, _, _, _, _, _, _, _, _, r_c_InvalidKind, r_m_InvalidKind⟩, r_sa_InvalidKind, w_hs_InvalidKind, r_ty_InvalidKind, r_k_InvalidKind⟩, i_a_InvalidKind, i_t_InvalidKind, i_n_InvalidKind, q_f_InvalidKind, ⟨rfl, rfl, rfl, by decide +kernel, rfl, by decide +kernel, by decide +kernel⟩, rfl, rfl, q_b_InvalidKind⟩
  have q_f_InvalidPair := fund_mk (dvs := [.non]) (its := [.none]) (st := (clsDef (top 6) 0)) i_l_InvalidPair i_c_InvalidPair i_k_InvalidPair i_d_InvalidPair rfl (.cons rfl .nil) (by simp)
  have q_b_InvalidPair : Binds K (PySem.W.fnOf "__init__" "InvalidPair.__init__" (defArgs (clsDef (top 6) 0)) (defBody (clsDef (top 6) 0)) (defScope (clsDef (top 6) 0)) (.ref J_InvalidPair) ikV_InvalidPair idc_InvalidPair ipm_InvalidPair ian_InvalidPair icd_InvalidPair ict_InvalidPair) ["self", "thing"] [] := by
    obtain ⟨ds, h1, h2⟩ := q_f_InvalidPair.binds1 (ps := ["self", "thing"]) 2 1 (by simp) rfl fun _ _ _ _ _ _ _ us its h1 h2 => match us, its, h1, h2 with | [_, _], [_], _, _ => ⟨_, rfl, rfl⟩
    cases h1
    exact h2
  have q_x_InvalidPair : XBase K mg "InvalidPair" := ⟨by decide +kernel, "thing", X_InvalidPair, I_InvalidPair, _, _, _, _, _, _, _, _, _, _, by decide +kernel, mg_InvalidPair, ⟨⟨_, _, _, _, _, _, _, _, _, _, _, _, _, _, _, r_c_InvalidPair, r_m_InvalidPair⟩, r_sa_InvalidPair, w_hs_InvalidPair, r_ty_InvalidPair, r_k_InvalidPair⟩, i_a_InvalidPair, i_t_InvalidPair, i_n_InvalidPair, q_f_InvalidPair, ⟨rfl, rfl, rfl, by decide +kernel, rfl, by decide +kernel, by decide +kernel⟩, rfl, rfl, q_b_InvalidPair⟩
  have q_f_InvalidWorld := fund_mk (dvs := [.non]) (its := [.none]) (st := (clsDef (top 5) 0)) i_l_InvalidWorld i_c_InvalidWorld i_k_InvalidWorld i_d_InvalidWorld rfl (.cons rfl .nil) (by simp)
  have q_b_InvalidWorld : Binds K (PySem.W.fnOf "__init__" "InvalidWorld.__init__" (defArgs (clsDef (top 5) 0)) (defBody (clsDef (top 5) 0)) (defScope (clsDef (top 5) 0)) (.ref J_InvalidWorld) ikV_InvalidWorld idc_InvalidWorld ipm_InvalidWorld ian_InvalidWorld icd_InvalidWorld ict_InvalidWorld) ["self", "thing"] [] := by
    obtain ⟨ds, h1, h2⟩ := q_f_InvalidWorld.binds1 (ps := ["self", "thing"]) 2 1 (by simp) rfl fun _ _ _ _ _ _ _ us its h1 h2 => match us, its, h1, h2 with | [_, _], [_], _, _ => ⟨_, rfl, rfl⟩
    cases h1
    exact h2
  have q_x_InvalidWorld : XBase K mg "InvalidWorld" := ⟨by decide +kernel, "thing", X_InvalidWorld, I_InvalidWorld, _, _, _, _, _, _, _, _, _, _, by decide +kernel, mg_InvalidWorld, ⟨⟨_, _, _, _, _, _, _, _, _, _, _, _, _, _, _, r_c_InvalidWorld, r_m_InvalidWorld⟩, r_sa_InvalidWorld, w_hs_InvalidWorld, r_ty_InvalidWorld, r_k_InvalidWorld⟩, i_a_InvalidWorld, i_t_InvalidWorld, i_n_InvalidWorld, q_f_InvalidWorld, ⟨rfl, rfl, rfl, by decide +kernel, rfl, by decide +kernel, by decide +kernel⟩, rfl, rfl, q_b_InvalidWorld⟩
  have T : Txt P w K mg ⟨F_is_name, PySem.W.fnOf "is_name" "is_name" (defArgs (top 14)) (defBody (top 14)) (defScope (top 14)) .none kV_is_name dc_is_name pm_is_name an_is_name cd_is_name ct_is_name,
    F_is_world, PySem.W.fnOf "is_world" "is_world" (defArgs (top 15)) (defBody (top 15)) (defScope (top 15)) .none kV_is_world dc_is_world pm_is_world an_is_world cd_is_world ct_is_world,
    F_is_within, PySem.W.fnOf "is_within" "is_within" (defArgs (top 24)) (defBody (top 24)) (defScope (top 24)) .none kV_is_within dc_is_within pm_is_within an_is_within cd_is_within ct_is_within,
    F_is_pair, PySem.W.fnOf "is_pair" "is_pair" (defArgs (top 23)) (defBody (top 23)) (defScope (top 23)) .none kV_is_pair dc_is_pair pm_is_pair an_is_pair cd_is_pair ct_is_pair,
    F_require_world, PySem.W.fnOf "require_world" "require_world" (defArgs (top 25)) (defBody (top 25)) (defScope (top 25)) .none kV_require_world dc_require_world pm_require_world an_require_world cd_require_world ct_require_world,
    F_common, PySem.W.fnOf "common" "common" (defArgs (top 29)) (defBody (top 29)) (defScope (top 29)) .none kV_common dc_common pm_common an_common cd_common ct_common,
    F_require_pairs, PySem.W.fnOf "require_pairs" "require_pairs" (defArgs (top 31)) (defBody (top 31)) (defScope (top 31)) .none kV_require_pairs dc_require_pairs pm_require_pairs an_require_pairs cd_require_pairs ct_require_pairs,
    F_by_there, PySem.W.fnOf "by_there" "by_there" (defArgs (top 32)) (defBody (top 32)) (defScope (top 32)) .none kV_by_there dc_by_there pm_by_there an_by_there cd_by_there ct_by_there,
    F_upward, PySem.W.fnOf "upward" "upward" (defArgs (top 33)) (defBody (top 33)) (defScope (top 33)) .none kV_upward dc_upward pm_upward an_upward cd_upward ct_upward,
    F_meeting, PySem.W.fnOf "meeting" "meeting" (defArgs (top 34)) (defBody (top 34)) (defScope (top 34)) .none kV_meeting dc_meeting pm_meeting an_meeting cd_meeting ct_meeting,
    F_why_barred, PySem.W.fnOf "why_barred" "why_barred" (defArgs (top 35)) (defBody (top 35)) (defScope (top 35)) .none kV_why_barred dc_why_barred pm_why_barred an_why_barred cd_why_barred ct_why_barred,
    F_barred, PySem.W.fnOf "barred" "barred" (defArgs (top 36)) (defBody (top 36)) (defScope (top 36)) (.ref T_barred) kV_barred dc_barred pm_barred an_barred cd_barred ct_barred,
    F_program_of, PySem.W.fnOf "program_of" "program_of" (defArgs (top 38)) (defBody (top 38)) (defScope (top 38)) (.ref T_program_of) kV_program_of dc_program_of pm_program_of an_program_of cd_program_of ct_program_of,
    F__law_at, PySem.W.fnOf "_law_at" "_law_at" (defArgs (top 40)) (defBody (top 40)) (defScope (top 40)) .none kV__law_at dc__law_at pm__law_at an__law_at cd__law_at ct__law_at,
    F__law_mixed, PySem.W.fnOf "_law_mixed" "_law_mixed" (defArgs (top 41)) (defBody (top 41)) (defScope (top 41)) .none kV__law_mixed dc__law_mixed pm__law_mixed an__law_mixed cd__law_mixed ct__law_mixed,
    F__law_purse, PySem.W.fnOf "_law_purse" "_law_purse" (defArgs (top 42)) (defBody (top 42)) (defScope (top 42)) .none kV__law_purse dc__law_purse pm__law_purse an__law_purse cd__law_purse ct__law_purse,
    F__law_draw, PySem.W.fnOf "_law_draw" "_law_draw" (defArgs (top 43)) (defBody (top 43)) (defScope (top 43)) .none kV__law_draw dc__law_draw pm__law_draw an__law_draw cd__law_draw ct__law_draw,
    F__law_asked, PySem.W.fnOf "_law_asked" "_law_asked" (defArgs (top 44)) (defBody (top 44)) (defScope (top 44)) .none kV__law_asked dc__law_asked pm__law_asked an__law_asked cd__law_asked ct__law_asked,
    F__law_items, PySem.W.fnOf "_law_items" "_law_items" (defArgs (top 45)) (defBody (top 45)) (defScope (top 45)) .none kV__law_items dc__law_items pm__law_items an__law_items cd__law_items ct__law_items,
    F__law_words, PySem.W.fnOf "_law_words" "_law_words" (defArgs (top 46)) (defBody (top 46)) (defScope (top 46)) .none kV__law_words dc__law_words pm__law_words an__law_words cd__law_words ct__law_words,
    fa, PySem.W.fnOf "law" "law" (defArgs (top 47)) (defBody (top 47)) (defScope (top 47)) .none kV_law dc_law pm_law an_law cd_law ct_law,
    C_KINDS,
    X_Barred,
    X_InvalidKind,
    X_InvalidPair,
    X_InvalidWorld,
    X_Program,
    X_RuleError⟩ := ⟨PySem.W.mg_none_of X G n_all,
    PySem.W.mg_none_of X G n_int,
    PySem.W.mg_none_of X G n_isinstance,
    PySem.W.mg_none_of X G n_len,
    PySem.W.mg_none_of X G n_max,
    PySem.W.mg_none_of X G n_min,
    PySem.W.mg_none_of X G n_range,
    PySem.W.mg_none_of X G n_set,
    PySem.W.mg_none_of X G n_sorted,
    PySem.W.mg_none_of X G n_str,
    PySem.W.mg_none_of X G n_tuple,
    PySem.W.mg_none_of X G n_zip,
    ⟨_, PySem.W.mg_of X G m_LETTERS⟩,
    ⟨_, PySem.W.mg_of X G m_MOST_LETTERS⟩,
    ⟨_, PySem.W.mg_of X G m_NOT⟩,
    PySem.W.mg_of X G m_KINDS,
    fun F => tup_known (vs := [.str "any", .str "plain", .str "single"]) v_KINDS rfl rfl (by show 3 ≤ sizeLine; decide) (.cons ⟨_, rfl⟩ (.cons ⟨_, rfl⟩ (.cons ⟨_, rfl⟩ .nil))) fun F => (.cons (.str _) (.cons (.str _) (.cons (.str _) .nil))),
    q_own,
    q_kt_str,
    q_kt_tuple,
    q_nn_thing,
    q_nn_value,
    q_kc_Barred,
    q_kc_InvalidKind,
    q_kc_InvalidPair,
    q_kc_InvalidWorld,
    q_kc_Program,
    mg_RuleError,
    q_ck_RuleError,
    q_x_Barred,
    q_x_InvalidKind,
    q_x_InvalidPair,
    q_x_InvalidWorld,
    F_is_name',
    PySem.W.mg_of X G a_is_name,
    k_is_name,
    F_is_name'.binds (ps := ["thing"]) fun _ _ _ _ _ _ us hl => match us, hl with | [_], _ => rfl,
    F_is_world',
    PySem.W.mg_of X G a_is_world,
    k_is_world,
    F_is_world'.binds (ps := ["thing"]) fun _ _ _ _ _ _ us hl => match us, hl with | [_], _ => rfl,
    F_is_within',
    PySem.W.mg_of X G a_is_within,
    k_is_within,
    F_is_within'.binds (ps := ["one", "other"]) fun _ _ _ _ _ _ us hl => match us, hl with | [_, _], _ => rfl,
    F_is_pair',
    PySem.W.mg_of X G a_is_pair,
    k_is_pair,
    F_is_pair'.binds (ps := ["thing"]) fun _ _ _ _ _ _ us hl => match us, hl with | [_], _ => rfl,
    F_require_world',
    PySem.W.mg_of X G a_require_world,
    k_require_world,
    F_require_world'.binds (ps := ["thing"]) fun _ _ _ _ _ _ us hl => match us, hl with | [_], _ => rfl,
    F_common',
    PySem.W.mg_of X G a_common,
    k_common,
    F_common'.binds (ps := ["one", "other"]) fun _ _ _ _ _ _ us hl => match us, hl with | [_, _], _ => rfl,
    F_require_pairs',
    PySem.W.mg_of X G a_require_pairs,
    k_require_pairs,
    F_require_pairs'.binds (ps := ["pairs", "names", "kind"]) fun _ _ _ _ _ _ us hl => match us, hl with | [_, _, _], _ => rfl,
    F_by_there',
    PySem.W.mg_of X G a_by_there,
    k_by_there,
    F_by_there'.binds (ps := ["rows"]) fun _ _ _ _ _ _ us hl => match us, hl with | [_], _ => rfl,
    F_upward',
    PySem.W.mg_of X G a_upward,
    k_upward,
    F_upward'.binds (ps := ["rows"]) fun _ _ _ _ _ _ us hl => match us, hl with | [_], _ => rfl,
    F_meeting',
    PySem.W.mg_of X G a_meeting,
    k_meeting,
    F_meeting'.binds (ps := ["rows"]) fun _ _ _ _ _ _ us hl => match us, hl with | [_], _ => rfl,
    F_why_barred',
    PySem.W.mg_of X G a_why_barred,
    k_why_barred,
    F_why_barred'.binds (ps := ["rows", "kind"]) fun _ _ _ _ _ _ us hl => match us, hl with | [_, _], _ => rfl,
    F_barred',
    PySem.W.mg_of X G a_barred,
    k_barred,
    F_program_of',
    PySem.W.mg_of X G a_program_of,
    k_program_of,
    F__law_at',
    PySem.W.mg_of X G a__law_at,
    k__law_at,
    F__law_at'.binds (ps := ["script", "k"]) fun _ _ _ _ _ _ us hl => match us, hl with | [_, _], _ => rfl,
    F__law_mixed',
    PySem.W.mg_of X G a__law_mixed,
    k__law_mixed,
    F__law_mixed'.binds (ps := ["cell", "k"]) fun _ _ _ _ _ _ us hl => match us, hl with | [_, _], _ => rfl,
    F__law_purse',
    PySem.W.mg_of X G a__law_purse,
    k__law_purse,
    F__law_purse'.binds (ps := ["script", "at"]) fun _ _ _ _ _ _ us hl => match us, hl with | [_, _], _ => rfl,
    F__law_draw',
    PySem.W.mg_of X G a__law_draw,
    k__law_draw,
    F__law_draw'.binds (ps := ["purse", "out_of"]) fun _ _ _ _ _ _ us hl => match us, hl with | [_, _], _ => rfl,
    F__law_asked',
    PySem.W.mg_of X G a__law_asked,
    k__law_asked,
    F__law_asked'.binds (ps := ["way", "rows", "some", "word"]) fun _ _ _ _ _ _ us hl => match us, hl with | [_, _, _, _], _ => rfl,
    F__law_items',
    PySem.W.mg_of X G a__law_items,
    k__law_items,
    F__law_items'.binds (ps := []) fun _ _ _ _ _ _ us hl => match us, hl with | [], _ => rfl,
    F__law_words',
    PySem.W.mg_of X G a__law_words,
    k__law_words,
    F__law_words'.binds (ps := []) fun _ _ _ _ _ _ us hl => match us, hl with | [], _ => rfl,
    F_law',
    PySem.W.mg_of X G a_law,
    k_law,
    F_law'.binds (ps := ["script"]) fun _ _ _ _ _ _ us hl => match us, hl with | [_], _ => rfl⟩
  exact ⟨_, fun s u => .of_eq rfl, fun base _ _ => law_end (ok_law T) hlaw⟩
end RW
open PySem PySem.W PyProof.Rows
set_option maxRecDepth 100000 in
set_option maxHeartbeats 0 in
theorem PySem.Challenge.cw_ruleworlds_k27_what_sets_of_pairs_refuse_holds : PySem.Challenge.rw_ruleworlds_k27_what_sets_of_pairs_refuse.Holds := by
  w_on; o_law; k_head; (case hw => w_witness2)
  k_fill
  refine RW.walk_law (l := PySem.Challenge.rw_ruleworlds_k27_what_sets_of_pairs_refuse) (k := 7) ⟨rfl, by decide, by decide⟩ rfl rfl (fun w h Y => PySem.W.kIn_of Y) ?F
  case F =>
    intro w mg fa h KX G hmg
    refine' RW.all_mk KX G hmg RW.law_holds ?a_is_name ?l_is_name ?c_is_name ?k_is_name ?a_is_world ?l_is_world ?c_is_world ?k_is_world ?a_is_within ?l_is_within ?c_is_within ?k_is_within ?a_is_pair ?l_is_pair ?c_is_pair ?k_is_pair ?a_require_world ?l_require_world ?c_require_world ?k_require_world ?a_common ?l_common ?c_common ?k_common ?a_require_pairs ?l_require_pairs ?c_require_pairs ?k_require_pairs ?a_by_there ?l_by_there ?c_by_there ?k_by_there ?a_upward ?l_upward ?c_upward ?k_upward ?a_meeting ?l_meeting ?c_meeting ?k_meeting ?a_why_barred ?l_why_barred ?c_why_barred ?k_why_barred ?a_barred ?l_barred ?d_barred ?c_barred ?k_barred ?a_program_of ?l_program_of ?d_program_of ?c_program_of ?k_program_of ?a__law_at ?l__law_at ?c__law_at ?k__law_at ?a__law_mixed ?l__law_mixed ?c__law_mixed ?k__law_mixed ?a__law_purse ?l__law_purse ?c__law_purse ?k__law_purse ?a__law_draw ?l__law_draw ?c__law_draw ?k__law_draw ?a__law_asked ?l__law_asked ?c__law_asked ?k__law_asked ?a__law_items ?l__law_items ?c__law_items ?k__law_items ?a__law_words ?l__law_words ?c__law_words ?k__law_words ?a_law ?l_law ?c_law ?k_law ?n_all ?n_int ?n_isinstance ?n_len ?n_max ?n_min ?n_range ?n_set ?n_sorted ?n_str ?n_tuple ?n_zip ?m_LETTERS ?m_MOST_LETTERS ?m_NOT ?m_KINDS ?v_KINDS ?xa_Program ?xa_InvalidRule ?xa_NotAProgram ?xa_InvalidWorld ?xa_InvalidPair ?xa_Unreadable ?xa_InvalidKind ?xa_Barred ?xa_RuleError ?xa_Desk ?xa_InvalidNames ?xa_NotBasic ?xa_NotASplit ?xa_NoSuchSheet ?xa_InvalidDeed ?xa_NoAnswer ?xa_NothingToUndo ?w_hn ?w_ht ?w_hd_Program ?w_ha_Program ?w_hm_Program ?w_pg_Program ?w_po_Program ?w_sa_Program ?w_hd_InvalidRule ?w_ha_InvalidRule ?w_hm_InvalidRule ?w_hg_InvalidRule ?w_hk_InvalidRule ?w_hs_InvalidRule ?w_hd_NotAProgram ?w_ha_NotAProgram ?w_hm_NotAProgram ?w_hg_NotAProgram ?w_hk_NotAProgram ?w_hs_NotAProgram ?w_hd_InvalidWorld ?w_ha_InvalidWorld ?w_hm_InvalidWorld ?w_hg_InvalidWorld ?w_hk_InvalidWorld ?w_hs_InvalidWorld ?w_hd_InvalidPair ?w_ha_InvalidPair ?w_hm_InvalidPair ?w_hg_InvalidPair ?w_hk_InvalidPair ?w_hs_InvalidPair ?w_hd_Unreadable ?w_ha_Unreadable ?w_hm_Unreadable ?w_hg_Unreadable ?w_hk_Unreadable ?w_hs_Unreadable ?w_hd_InvalidKind ?w_ha_InvalidKind ?w_hm_InvalidKind ?w_hg_InvalidKind ?w_hk_InvalidKind ?w_hs_InvalidKind ?w_hd_Barred ?w_ha_Barred ?w_hm_Barred ?w_hg_Barred ?w_hk_Barred ?w_hs_Barred ?w_hd_RuleError ?w_ha_RuleError ?w_hm_RuleError ?w_hg_RuleError ?w_hk_RuleError ?w_hs_RuleError ?q_k_Barred ?q_t_Barred_NoneType ?q_t_Barred_bool ?q_t_Barred_int ?q_t_Barred_str ?q_t_Barred_tuple ?q_t_Barred_list ?q_t_Barred_set ?q_t_Barred_dict ?q_o_Barred_Program ?q_o_Barred_InvalidRule ?q_o_Barred_NotAProgram ?q_o_Barred_InvalidWorld ?q_o_Barred_InvalidPair ?q_o_Barred_Unreadable ?q_o_Barred_InvalidKind ?q_o_Barred_Barred ?q_o_Barred_RuleError ?q_k_InvalidKind ?q_t_InvalidKind_NoneType ?q_t_InvalidKind_bool ?q_t_InvalidKind_int ?q_t_InvalidKind_str ?q_t_InvalidKind_tuple ?q_t_InvalidKind_list ?q_t_InvalidKind_set ?q_t_InvalidKind_dict ?q_o_InvalidKind_Program ?q_o_InvalidKind_InvalidRule ?q_o_InvalidKind_NotAProgram ?q_o_InvalidKind_InvalidWorld ?q_o_InvalidKind_InvalidPair ?q_o_InvalidKind_Unreadable ?q_o_InvalidKind_InvalidKind ?q_o_InvalidKind_Barred ?q_o_InvalidKind_RuleError ?q_k_InvalidPair ?q_t_InvalidPair_NoneType ?q_t_InvalidPair_bool ?q_t_InvalidPair_int ?q_t_InvalidPair_str ?q_t_InvalidPair_tuple ?q_t_InvalidPair_list ?q_t_InvalidPair_set ?q_t_InvalidPair_dict ?q_o_InvalidPair_Program ?q_o_InvalidPair_InvalidRule ?q_o_InvalidPair_NotAProgram ?q_o_InvalidPair_InvalidWorld ?q_o_InvalidPair_InvalidPair ?q_o_InvalidPair_Unreadable ?q_o_InvalidPair_InvalidKind ?q_o_InvalidPair_Barred ?q_o_InvalidPair_RuleError ?q_k_InvalidWorld ?q_t_InvalidWorld_NoneType ?q_t_InvalidWorld_bool ?q_t_InvalidWorld_int ?q_t_InvalidWorld_str ?q_t_InvalidWorld_tuple ?q_t_InvalidWorld_list ?q_t_InvalidWorld_set ?q_t_InvalidWorld_dict ?q_o_InvalidWorld_Program ?q_o_InvalidWorld_InvalidRule ?q_o_InvalidWorld_NotAProgram ?q_o_InvalidWorld_InvalidWorld ?q_o_InvalidWorld_InvalidPair ?q_o_InvalidWorld_Unreadable ?q_o_InvalidWorld_InvalidKind ?q_o_InvalidWorld_Barred ?q_o_InvalidWorld_RuleError ?q_k_Program ?q_t_Program_NoneType ?q_t_Program_bool ?q_t_Program_int ?q_t_Program_str ?q_t_Program_tuple ?q_t_Program_list ?q_t_Program_set ?q_t_Program_dict ?q_o_Program_Program ?q_o_Program_InvalidRule ?q_o_Program_NotAProgram ?q_o_Program_InvalidWorld ?q_o_Program_InvalidPair ?q_o_Program_Unreadable ?q_o_Program_InvalidKind ?q_o_Program_Barred ?q_o_Program_RuleError ?q_b_str_Program ?q_b_str_InvalidRule ?q_b_str_NotAProgram ?q_b_str_InvalidWorld ?q_b_str_InvalidPair ?q_b_str_Unreadable ?q_b_str_InvalidKind ?q_b_str_Barred ?q_b_str_RuleError ?q_b_tuple_Program ?q_b_tuple_InvalidRule ?q_b_tuple_NotAProgram ?q_b_tuple_InvalidWorld ?q_b_tuple_InvalidPair ?q_b_tuple_Unreadable ?q_b_tuple_InvalidKind ?q_b_tuple_Barred ?q_b_tuple_RuleError ?h_t_RuleError ?h_s_RuleError_InvalidRule ?h_s_RuleError_NotAProgram ?h_s_RuleError_InvalidWorld ?h_s_RuleError_InvalidPair ?h_s_RuleError_Unreadable ?h_s_RuleError_InvalidKind ?h_s_RuleError_Barred ?h_s_RuleError_RuleError ?nn_thing_NotAProgram ?nn_thing_InvalidWorld ?nn_thing_InvalidPair ?nn_value_InvalidKind ?r_c_Barred ?r_m_Barred ?r_sa_Barred ?r_ty_Barred ?r_k_Barred ?i_a_Barred ?i_t_Barred ?i_n_Barred ?i_l_Barred ?i_d_Barred ?i_c_Barred ?i_k_Barred ?r_c_InvalidKind ?r_m_InvalidKind ?r_sa_InvalidKind ?r_ty_InvalidKind ?r_k_InvalidKind ?i_a_InvalidKind ?i_t_InvalidKind ?i_n_InvalidKind ?i_l_InvalidKind ?i_d_InvalidKind ?i_c_InvalidKind ?i_k_InvalidKind ?r_c_InvalidPair ?r_m_InvalidPair ?r_sa_InvalidPair ?r_ty_InvalidPair ?r_k_InvalidPair ?i_a_InvalidPair ?i_t_InvalidPair ?i_n_InvalidPair ?i_l_InvalidPair ?i_d_InvalidPair ?i_c_InvalidPair ?i_k_InvalidPair ?r_c_InvalidWorld ?r_m_InvalidWorld ?r_sa_InvalidWorld ?r_ty_InvalidWorld ?r_k_InvalidWorld ?i_a_InvalidWorld ?i_t_InvalidWorld ?i_n_InvalidWorld ?i_l_InvalidWorld ?i_d_InvalidWorld ?i_c_InvalidWorld ?i_k_InvalidWorld
    (case a_is_name => k_is)
    (case l_is_name => k_is)
    (case c_is_name => k_is)
    (case k_is_name => k_is)
    (case a_is_world => k_is)
    (case l_is_world => k_is)
    (case c_is_world => k_is)
    (case k_is_world => k_is)
    (case a_is_within => k_is)
    (case l_is_within => k_is)
    (case c_is_within => k_is)
    (case k_is_within => k_is)
    (case a_is_pair => k_is)
    (case l_is_pair => k_is)
    (case c_is_pair => k_is)
    (case k_is_pair => k_is)
    (case a_require_world => k_is)
    (case l_require_world => k_is)
    (case c_require_world => k_is)
    (case k_require_world => k_is)
    (case a_common => k_is)
    (case l_common => k_is)
    (case c_common => k_is)
    (case k_common => k_is)
    (case a_require_pairs => k_is)
    (case l_require_pairs => k_is)
    (case c_require_pairs => k_is)
    (case k_require_pairs => k_is)
    (case a_by_there => k_is)
    (case l_by_there => k_is)
    (case c_by_there => k_is)
    (case k_by_there => k_is)
    (case a_upward => k_is)
    (case l_upward => k_is)
    (case c_upward => k_is)
    (case k_upward => k_is)
    (case a_meeting => k_is)
    (case l_meeting => k_is)
    (case c_meeting => k_is)
    (case k_meeting => k_is)
    (case a_why_barred => k_is)
    (case l_why_barred => k_is)
    (case c_why_barred => k_is)
    (case k_why_barred => k_is)
    (case a_barred => k_is)
    (case l_barred => k_is)
    (case d_barred => k_is)
    (case c_barred => k_is)
    (case k_barred => k_is)
    (case a_program_of => k_is)
    (case l_program_of => k_is)
    (case d_program_of => k_is)
    (case c_program_of => k_is)
    (case k_program_of => k_is)
    (case a__law_at => k_is)
    (case l__law_at => k_is)
    (case c__law_at => k_is)
    (case k__law_at => k_is)
    (case a__law_mixed => k_is)
    (case l__law_mixed => k_is)
    (case c__law_mixed => k_is)
    (case k__law_mixed => k_is)
    (case a__law_purse => k_is)
    (case l__law_purse => k_is)
    (case c__law_purse => k_is)
    (case k__law_purse => k_is)
    (case a__law_draw => k_is)
    (case l__law_draw => k_is)
    (case c__law_draw => k_is)
    (case k__law_draw => k_is)
    (case a__law_asked => k_is)
    (case l__law_asked => k_is)
    (case c__law_asked => k_is)
    (case k__law_asked => k_is)
    (case a__law_items => k_is)
    (case l__law_items => k_is)
    (case c__law_items => k_is)
    (case k__law_items => k_is)
    (case a__law_words => k_is)
    (case l__law_words => k_is)
    (case c__law_words => k_is)
    (case k__law_words => k_is)
    (case a_law => k_is)
    (case l_law => k_is)
    (case c_law => k_is)
    (case k_law => k_is)
    (case n_all => k_is)
    (case n_int => k_is)
    (case n_isinstance => k_is)
    (case n_len => k_is)
    (case n_max => k_is)
    (case n_min => k_is)
    (case n_range => k_is)
    (case n_set => k_is)
    (case n_sorted => k_is)
    (case n_str => k_is)
    (case n_tuple => k_is)
    (case n_zip => k_is)
    (case m_LETTERS => k_is)
    (case m_MOST_LETTERS => k_is)
    (case m_NOT => k_is)
    (case m_KINDS => k_is)
    (case v_KINDS => k_is)
    (case xa_Program => k_is)
    (case xa_InvalidRule => k_is)
    (case xa_NotAProgram => k_is)
    (case xa_InvalidWorld => k_is)
    (case xa_InvalidPair => k_is)
    (case xa_Unreadable => k_is)
    (case xa_InvalidKind => k_is)
    (case xa_Barred => k_is)
    (case xa_RuleError => k_is)
    (case xa_Desk => k_is)
    (case xa_InvalidNames => k_is)
    (case xa_NotBasic => k_is)
    (case xa_NotASplit => k_is)
    (case xa_NoSuchSheet => k_is)
    (case xa_InvalidDeed => k_is)
    (case xa_NoAnswer => k_is)
    (case xa_NothingToUndo => k_is)
    (case w_hn => k_is)
    (case w_ht => k_is)
    (case w_hd_Program => k_is)
    (case w_ha_Program => k_is)
    (case w_hm_Program => k_is)
    (case w_pg_Program => k_is)
    (case w_po_Program => k_is)
    (case w_sa_Program => k_is)
    (case w_hd_InvalidRule => k_is)
    (case w_ha_InvalidRule => k_is)
    (case w_hm_InvalidRule => k_is)
    (case w_hg_InvalidRule => k_is)
    (case w_hk_InvalidRule => k_is)
    (case w_hs_InvalidRule => k_is)
    (case w_hd_NotAProgram => k_is)
    (case w_ha_NotAProgram => k_is)
    (case w_hm_NotAProgram => k_is)
    (case w_hg_NotAProgram => k_is)
    (case w_hk_NotAProgram => k_is)
    (case w_hs_NotAProgram => k_is)
    (case w_hd_InvalidWorld => k_is)
    (case w_ha_InvalidWorld => k_is)
    (case w_hm_InvalidWorld => k_is)
    (case w_hg_InvalidWorld => k_is)
    (case w_hk_InvalidWorld => k_is)
    (case w_hs_InvalidWorld => k_is)
    (case w_hd_InvalidPair => k_is)
    (case w_ha_InvalidPair => k_is)
    (case w_hm_InvalidPair => k_is)
    (case w_hg_InvalidPair => k_is)
    (case w_hk_InvalidPair => k_is)
    (case w_hs_InvalidPair => k_is)
    (case w_hd_Unreadable => k_is)
    (case w_ha_Unreadable => k_is)
    (case w_hm_Unreadable => k_is)
    (case w_hg_Unreadable => k_is)
    (case w_hk_Unreadable => k_is)
    (case w_hs_Unreadable => k_is)
    (case w_hd_InvalidKind => k_is)
    (case w_ha_InvalidKind => k_is)
    (case w_hm_InvalidKind => k_is)
    (case w_hg_InvalidKind => k_is)
    (case w_hk_InvalidKind => k_is)
    (case w_hs_InvalidKind => k_is)
    (case w_hd_Barred => k_is)
    (case w_ha_Barred => k_is)
    (case w_hm_Barred => k_is)
    (case w_hg_Barred => k_is)
    (case w_hk_Barred => k_is)
    (case w_hs_Barred => k_is)
    (case w_hd_RuleError => k_is)
    (case w_ha_RuleError => k_is)
    (case w_hm_RuleError => k_is)
    (case w_hg_RuleError => k_is)
    (case w_hk_RuleError => k_is)
    (case w_hs_RuleError => k_is)
    (case q_k_Barred => k_is)
    (case q_t_Barred_NoneType => kit_is)
    (case q_t_Barred_bool => kit_is)
    (case q_t_Barred_int => kit_is)
    (case q_t_Barred_str => kit_is)
    (case q_t_Barred_tuple => kit_is)
    (case q_t_Barred_list => kit_is)
    (case q_t_Barred_set => kit_is)
    (case q_t_Barred_dict => kit_is)
    (case q_o_Barred_Program => kit_is)
    (case q_o_Barred_InvalidRule => kit_is)
    (case q_o_Barred_NotAProgram => kit_is)
    (case q_o_Barred_InvalidWorld => kit_is)
    (case q_o_Barred_InvalidPair => kit_is)
    (case q_o_Barred_Unreadable => kit_is)
    (case q_o_Barred_InvalidKind => kit_is)
    (case q_o_Barred_Barred => kit_is)
    (case q_o_Barred_RuleError => kit_is)
    (case q_k_InvalidKind => k_is)
    (case q_t_InvalidKind_NoneType => kit_is)
    (case q_t_InvalidKind_bool => kit_is)
    (case q_t_InvalidKind_int => kit_is)
    (case q_t_InvalidKind_str => kit_is)
    (case q_t_InvalidKind_tuple => kit_is)
    (case q_t_InvalidKind_list => kit_is)
    (case q_t_InvalidKind_set => kit_is)
    (case q_t_InvalidKind_dict => kit_is)
    (case q_o_InvalidKind_Program => kit_is)
    (case q_o_InvalidKind_InvalidRule => kit_is)
    (case q_o_InvalidKind_NotAProgram => kit_is)
    (case q_o_InvalidKind_InvalidWorld => kit_is)
    (case q_o_InvalidKind_InvalidPair => kit_is)
    (case q_o_InvalidKind_Unreadable => kit_is)
    (case q_o_InvalidKind_InvalidKind => kit_is)
    (case q_o_InvalidKind_Barred => kit_is)
    (case q_o_InvalidKind_RuleError => kit_is)
    (case q_k_InvalidPair => k_is)
    (case q_t_InvalidPair_NoneType => kit_is)
    (case q_t_InvalidPair_bool => kit_is)
    (case q_t_InvalidPair_int => kit_is)
    (case q_t_InvalidPair_str => kit_is)
    (case q_t_InvalidPair_tuple => kit_is)
    (case q_t_InvalidPair_list => kit_is)
    (case q_t_InvalidPair_set => kit_is)
    (case q_t_InvalidPair_dict => kit_is)
    (case q_o_InvalidPair_Program => kit_is)
    (case q_o_InvalidPair_InvalidRule => kit_is)
    (case q_o_InvalidPair_NotAProgram => kit_is)
    (case q_o_InvalidPair_InvalidWorld => kit_is)
    (case q_o_InvalidPair_InvalidPair => kit_is)
    (case q_o_InvalidPair_Unreadable => kit_is)
    (case q_o_InvalidPair_InvalidKind => kit_is)
    (case q_o_InvalidPair_Barred => kit_is)
    (case q_o_InvalidPair_RuleError => kit_is)
    (case q_k_InvalidWorld => k_is)
    (case q_t_InvalidWorld_NoneType => kit_is)
    (case q_t_InvalidWorld_bool => kit_is)
    (case q_t_InvalidWorld_int => kit_is)
    (case q_t_InvalidWorld_str => kit_is)
    (case q_t_InvalidWorld_tuple => kit_is)
    (case q_t_InvalidWorld_list => kit_is)
    (case q_t_InvalidWorld_set => kit_is)
    (case q_t_InvalidWorld_dict => kit_is)
    (case q_o_InvalidWorld_Program => kit_is)
    (case q_o_InvalidWorld_InvalidRule => kit_is)
    (case q_o_InvalidWorld_NotAProgram => kit_is)
    (case q_o_InvalidWorld_InvalidWorld => kit_is)
    (case q_o_InvalidWorld_InvalidPair => kit_is)
    (case q_o_InvalidWorld_Unreadable => kit_is)
    (case q_o_InvalidWorld_InvalidKind => kit_is)
    (case q_o_InvalidWorld_Barred => kit_is)
    (case q_o_InvalidWorld_RuleError => kit_is)
    (case q_k_Program => k_is)
    (case q_t_Program_NoneType => kit_is)
    (case q_t_Program_bool => kit_is)
    (case q_t_Program_int => kit_is)
    (case q_t_Program_str => kit_is)
    (case q_t_Program_tuple => kit_is)
    (case q_t_Program_list => kit_is)
    (case q_t_Program_set => kit_is)
    (case q_t_Program_dict => kit_is)
    (case q_o_Program_Program => kit_is)
    (case q_o_Program_InvalidRule => kit_is)
    (case q_o_Program_NotAProgram => kit_is)
    (case q_o_Program_InvalidWorld => kit_is)
    (case q_o_Program_InvalidPair => kit_is)
    (case q_o_Program_Unreadable => kit_is)
    (case q_o_Program_InvalidKind => kit_is)
    (case q_o_Program_Barred => kit_is)
    (case q_o_Program_RuleError => kit_is)
    (case q_b_str_Program => kit_is)
    (case q_b_str_InvalidRule => kit_is)
    (case q_b_str_NotAProgram => kit_is)
    (case q_b_str_InvalidWorld => kit_is)
    (case q_b_str_InvalidPair => kit_is)
    (case q_b_str_Unreadable => kit_is)
    (case q_b_str_InvalidKind => kit_is)
    (case q_b_str_Barred => kit_is)
    (case q_b_str_RuleError => kit_is)
    (case q_b_tuple_Program => kit_is)
    (case q_b_tuple_InvalidRule => kit_is)
    (case q_b_tuple_NotAProgram => kit_is)
    (case q_b_tuple_InvalidWorld => kit_is)
    (case q_b_tuple_InvalidPair => kit_is)
    (case q_b_tuple_Unreadable => kit_is)
    (case q_b_tuple_InvalidKind => kit_is)
    (case q_b_tuple_Barred => kit_is)
    (case q_b_tuple_RuleError => kit_is)
    (case h_t_RuleError => k_is)
    (case h_s_RuleError_InvalidRule => k_is)
    (case h_s_RuleError_NotAProgram => k_is)
    (case h_s_RuleError_InvalidWorld => k_is)
    (case h_s_RuleError_InvalidPair => k_is)
    (case h_s_RuleError_Unreadable => k_is)
    (case h_s_RuleError_InvalidKind => k_is)
    (case h_s_RuleError_Barred => k_is)
    (case h_s_RuleError_RuleError => k_is)
    (case nn_thing_NotAProgram => k_is)
    (case nn_thing_InvalidWorld => k_is)
    (case nn_thing_InvalidPair => k_is)
    (case nn_value_InvalidKind => k_is)
    (case r_c_Barred => k_is)
    (case r_m_Barred => rfl)
    (case r_sa_Barred => k_is)
    (case r_ty_Barred => k_is)
    (case r_k_Barred => k_is)
    (case i_a_Barred => k_is)
    (case i_t_Barred => k_is)
    (case i_n_Barred => k_is)
    (case i_l_Barred => k_is)
    (case i_d_Barred => k_is)
    (case i_c_Barred => k_is)
    (case i_k_Barred => k_is)
    (case r_c_InvalidKind => k_is)
    (case r_m_InvalidKind => rfl)
    (case r_sa_InvalidKind => k_is)
    (case r_ty_InvalidKind => k_is)
    (case r_k_InvalidKind => k_is)
    (case i_a_InvalidKind => k_is)
    (case i_t_InvalidKind => k_is)
    (case i_n_InvalidKind => k_is)
    (case i_l_InvalidKind => k_is)
    (case i_d_InvalidKind => k_is)
    (case i_c_InvalidKind => k_is)
    (case i_k_InvalidKind => k_is)
    (case r_c_InvalidPair => k_is)
    (case r_m_InvalidPair => rfl)
    (case r_sa_InvalidPair => k_is)
    (case r_ty_InvalidPair => k_is)
    (case r_k_InvalidPair => k_is)
    (case i_a_InvalidPair => k_is)
    (case i_t_InvalidPair => k_is)
    (case i_n_InvalidPair => k_is)
    (case i_l_InvalidPair => k_is)
    (case i_d_InvalidPair => k_is)
    (case i_c_InvalidPair => k_is)
    (case i_k_InvalidPair => k_is)
    (case r_c_InvalidWorld => k_is)
    (case r_m_InvalidWorld => rfl)
    (case r_sa_InvalidWorld => k_is)
    (case r_ty_InvalidWorld => k_is)
    (case r_k_InvalidWorld => k_is)
    (case i_a_InvalidWorld => k_is)
    (case i_t_InvalidWorld => k_is)
    (case i_n_InvalidWorld => k_is)
    (case i_l_InvalidWorld => k_is)
    (case i_d_InvalidWorld => k_is)
    (case i_c_InvalidWorld => k_is)
    (case i_k_InvalidWorld => k_is)

import PyProof.Rows.All
import HandS.TupSets
import KE.KeyNested
import HandS.ForMost
import HandS.Deep
import HandS.Conv
import HandS.Ends
import KE.KDictKeyed
import KE.SortData
import KE.DataCmp
import PyProof.ReprReads
import HandS.IsInst
import HandS.Text
import HandS.Dict
import HandS.TupMul
import HandS.Style
import HandS.TupAny
import PyProof.DictRoadsH
import PyProof.DictMoreH
import PyProof.TupleOfSeq
import HandS.TupLen
import HandS.SortInts
import PyProof.ReprRoads
import KE.KDictCopyH
import KE.KDictSum
import HandS.RaiseMore
import HandS.Iter
import HandS.SetFor
import HandS.Zip
import KE.GoesEnum
import KE.KDictWalk
import HandS.Exc
import HandS.Flow
import HandS.SetBool
import HandS.DictComp
import KE.KDictDisplayH
import HandS.Star
import HandS.Words
import HandS.ClsMeth
import HandS.Property
import HandS.FStr
import HandS.OwnEq
import KE.KFmtOwn
import HandS.More
import HandS.Strs
import PyProof.StrLawsTight
import PyProof.Rows.StrLawsPart
import PyProof.Rows.StrFirst
import PyProof.Rows.StrItems
import PyProof.Rows.ReprOcc
import KE.KIntText
import PySem.Challenge.RW_mustwait_k08_texts_of_kinds
import PyProof.StrLawsRepr
import KE.RegKIsAll
section
set_option Elab.async false
set_option linter.all false
set_option maxRecDepth 100000
set_option maxHeartbeats 4000000
/-! Ns1: sets of tuples of any depth up to eight: what is asked of a member, the search. -/
namespace Ns
open PySem PySem.Spec PyProof.Rows L2
section
variable {P : Program} {w : World} {A : Around} {E : Value → Shared → Prop} {s : Shared}

/-! ### what a search asks of its keys -/
/-- the answer of ofAClassStatement at v is no, n levels down -/
def NoCls (P : Program) (w : World) (n : Nat) (s : Shared) (v : Value) : Prop :=
  ∀ (A : Around) (E : Value → Shared → Prop) (Q : Bool → Shared → Prop), Q false s → wpAny (model P w) A (ofAClassStatement n v) Q E s
/-- hashByValue answers at v, whatever it may be -/
def HasHv (P : Program) (w : World) (n : Nat) (s : Shared) (v : Value) : Prop :=
  ∀ (A : Around) (E : Value → Shared → Prop) (Q : Bool → Shared → Prop), (∀ b, Q b s) → wpAny (model P w) A (hashByValue n v) Q E s
theorem noCls_tuple {n m : Nat} {a : Addr} {o : Obj} {vs : Array Value} (ho : s.heap.get? a = some o) (hc : o.cls = .type "tuple") (hd : o.data = .seq vs m) (hq : ∀ v ∈ vs.toList, NoCls P w n s v) : NoCls P w (n + 1) s (.ref a) := by
  intro A E Q q
  have ty : s.TypeIs (.ref a) "tuple" := ⟨o, ho, hc⟩
  unfold ofAClassStatement
  refine wpAny_bind (wpAny_typeOf ty ?_)
  have is : (("tuple" : String) == "tuple") = true := by decide
  simp only [is, if_true, Bool.not_true, Bool.false_eq_true, if_false]
  try exact wpAny_bind (wpAny_pure trivial)
  show wpAny _ _ (seqItems? (.ref a) >>= _) _ _ s
  refine wpAny_bind (wpAny_seqItems ho hd (wpAny_bind ?_))
  show wpAny _ _ (forIn vs _ _) _ _ s
  rw [← Array.forIn_toList]
  refine wpAny_forIn_list _ (fun left r s' => (r.1 = none ∧ s' = s) ∧ ∀ v ∈ left, NoCls P w n s v) _ (fun v left r s' hi => ?_) (fun r s' hi => ?_) _ _ ⟨⟨rfl, rfl⟩, hq⟩
  · obtain ⟨⟨_, rfl⟩, ha⟩ := hi
    refine wpAny_bind (ha v List.mem_cons_self _ _ _ ?_)
    simp only [Bool.false_eq_true, if_false]
    exact wpAny_pure ⟨⟨rfl, rfl⟩, fun u hu => ha u (List.mem_cons_of_mem _ hu)⟩
  · obtain ⟨r1, r2⟩ := r
    obtain ⟨⟨e, rfl⟩, _⟩ := hi
    simp only at e
    subst e
    exact wpAny_pure q
theorem hasHv_tuple {n m : Nat} {a : Addr} {o : Obj} {vs : Array Value} (ho : s.heap.get? a = some o) (hc : o.cls = .type "tuple") (hd : o.data = .seq vs m) (hq : ∀ v ∈ vs.toList, HasHv P w n s v) : HasHv P w (n + 1) s (.ref a) := by
  intro A E Q q
  have ty : s.TypeIs (.ref a) "tuple" := ⟨o, ho, hc⟩
  unfold hashByValue
  refine wpAny_bind (wpAny_specialOf ty F.slot_tuple_hash.lookup ?_)
  show wpAny _ _ (seqItems? (.ref a) >>= _) _ _ s
  refine wpAny_bind (wpAny_seqItems ho hd (wpAny_bind ?_))
  show wpAny _ _ (forIn vs _ _) _ _ s
  rw [← Array.forIn_toList]
  refine wpAny_forIn_list _ (fun left r s' => (r.1 = none ∧ s' = s) ∧ ∀ v ∈ left, HasHv P w n s v) _ (fun v left r s' hi => ?_) (fun r s' hi => ?_) _ _ ⟨⟨rfl, rfl⟩, hq⟩
  · obtain ⟨⟨_, rfl⟩, ha⟩ := hi
    refine wpAny_bind (ha v List.mem_cons_self _ _ _ fun b => ?_)
    cases b with
    | true => exact wpAny_pure ⟨⟨rfl, rfl⟩, fun u hu => ha u (List.mem_cons_of_mem _ hu)⟩
    | false => exact wpAny_pure (wpAny_pure (q _))
  · obtain ⟨r1, r2⟩ := r
    obtain ⟨⟨e, rfl⟩, _⟩ := hi
    simp only at e
    subst e
    exact wpAny_pure (q _)
mutual
theorem noCls_key : ∀ (k : NestedKey) (v : Value) (n : Nat), NestedIs s.heap k v → k.depth ≤ n → NoCls P w n s v
  | .none, _, n, x, _ => by cases x; intro A E Q q; cases n <;> exact wpAny_pure q
  | .num i, _, n, x, _ => by cases x <;> (intro A E Q q; cases n <;> exact wpAny_pure q)
  | .text y, _, n, x, _ => by cases x; intro A E Q q; cases n <;> exact wpAny_pure q
  | .tup ks, _, n, x, hn => by
    simp only [NestedKey.depth] at hn
    obtain ⟨m, rfl⟩ : ∃ m, n = m + 1 := ⟨n - 1, by omega⟩
    cases x with
    | tup hg hc hd hk => exact noCls_tuple hg hc hd (noCls_keys ks _ m hk (by omega))
theorem noCls_keys : ∀ (ks : List NestedKey) (vs : List Value) (n : Nat), NestedAll s.heap ks vs → NestedKey.depthAll ks ≤ n → ∀ v ∈ vs, NoCls P w n s v
  | [], _, n, x, _, v, hv => by cases x; cases hv
  | k :: ks, _, n, x, hn, v, hv => by
    simp only [NestedKey.depthAll] at hn
    cases x with
    | cons x1 x2 =>
      rcases List.mem_cons.mp hv with rfl | hv
      · exact noCls_key k _ n x1 (by omega)
      · exact noCls_keys ks _ n x2 (by omega) v hv
end
mutual
theorem hasHv_key : ∀ (k : NestedKey) (v : Value) (n : Nat), NestedIs s.heap k v → k.depth ≤ n → HasHv P w n s v
  | .none, _, n, x, _ => by cases x; intro A E Q q; cases n <;> exact wpAny_pure (q _)
  | .num i, _, n, x, _ => by cases x <;> (intro A E Q q; cases n <;> exact wpAny_pure (q _))
  | .text y, _, n, x, _ => by cases x; intro A E Q q; cases n <;> exact wpAny_pure (q _)
  | .tup ks, _, n, x, hn => by
    simp only [NestedKey.depth] at hn
    obtain ⟨m, rfl⟩ : ∃ m, n = m + 1 := ⟨n - 1, by omega⟩
    cases x with
    | tup hg hc hd hk => exact hasHv_tuple hg hc hd (hasHv_keys ks _ m hk (by omega))
theorem hasHv_keys : ∀ (ks : List NestedKey) (vs : List Value) (n : Nat), NestedAll s.heap ks vs → NestedKey.depthAll ks ≤ n → ∀ v ∈ vs, HasHv P w n s v
  | [], _, n, x, _, v, hv => by cases x; cases hv
  | k :: ks, _, n, x, hn, v, hv => by
    simp only [NestedKey.depthAll] at hn
    cases x with
    | cons x1 x2 =>
      rcases List.mem_cons.mp hv with rfl | hv
      · exact hasHv_key k _ n x1 (by omega)
      · exact hasHv_keys ks _ n x2 (by omega) v hv
end
/-- a member: a tuple at b that is the key k -/
def Mem (h : Heap) (k : NestedKey) (b : Addr) : Prop := NestedIs h k (.ref b) ∧ k.depth ≤ 8
/-- a search among such shows nothing of the table -/
theorem unseen {k : NestedKey} {b : Addr} {ys : List Value} (hk : Mem s.heap k b) (hy : ∀ y ∈ ys, ∃ k' c, y = .ref c ∧ Mem s.heap k' c) {Q : Bool → Shared → Prop} (q : Q false s) : wpAny (model P w) A (searchCouldBeSeen (.ref b) ys) Q E s := by
  unfold searchCouldBeSeen
  refine wpAny_bind (wpAny_forIn_list _ (fun left r s' => (r.1 = none ∧ s' = s) ∧ ∀ y ∈ left, ∃ k' c, y = .ref c ∧ Mem s.heap k' c) _ (fun v left r s' hi => ?_) (fun r s' hi => ?_) _ _ ⟨⟨rfl, rfl⟩, hy⟩)
  · obtain ⟨⟨_, rfl⟩, ha⟩ := hi
    have more : ∀ y ∈ left, ∃ k' c, y = .ref c ∧ Mem s'.heap k' c := fun u hu => ha u (List.mem_cons_of_mem _ hu)
    obtain ⟨k', c, rfl, hc⟩ := ha v List.mem_cons_self
    dsimp only
    by_cases hv : (b == c || (carriedByValue (.ref b) && carriedByValue (.ref c))) = true
    · exact wp_if_pos hv (wpAny_pure ⟨⟨rfl, rfl⟩, more⟩)
    · refine wp_if_neg hv (wpAny_bind (quiet_key k _ 8 s' hk.1 hk.2 _ _ _ ?_))
      simp only [Bool.not_true, Bool.false_eq_true, if_false]
      refine wpAny_bind (quiet_key k' _ 8 s' hc.1 hc.2 _ _ _ ?_)
      simp only [Bool.not_true, Bool.false_eq_true, if_false]
      refine wpAny_bind (noCls_key k _ 8 hk.1 hk.2 _ _ _ ?_)
      simp only [Bool.false_eq_true, if_false]
      refine wpAny_bind (noCls_key k' _ 8 hc.1 hc.2 _ _ _ ?_)
      simp only [Bool.false_eq_true, if_false]
      exact wpAny_pure ⟨⟨rfl, rfl⟩, more⟩
  · obtain ⟨r1, r2⟩ := r
    obtain ⟨⟨e, rfl⟩, _⟩ := hi
    simp only at e
    subst e
    exact wpAny_pure q
end
end Ns
end
section
set_option Elab.async false
set_option linter.all false
set_option maxRecDepth 100000
set_option maxHeartbeats 4000000
/-! Ns2: the set as an object; the search for a member. -/
namespace Ns
open PySem PySem.Spec PyProof.Rows L2
/-- the way of a hash through a table: its c-th stop -/
abbrev at0 (t : SetTable) (h : Int) : SetTable.Probe := runAt t.mask (SetTable.bits h % (t.mask + 1)) (SetTable.bits h)
abbrev stop (t : SetTable) (h : Int) (c : Nat) : SetTable.Probe := nth t.mask (at0 t h) c
theorem stop_dummy (t : SetTable) (h : Int) (c : Nat) : (stop t h c).dummy = none := by
  suffices key : ∀ (n : Nat) (p : SetTable.Probe), p.dummy = none → (nth t.mask p n).dummy = none from key c _ rfl
  intro n
  induction n with
  | zero => exact fun p e => e
  | succ n ih =>
    intro p e
    apply ih (adv t.mask p)
    unfold adv
    split <;> exact e
theorem stop_add (t : SetTable) (h : Int) (c q : Nat) : nth t.mask (stop t h c) q = stop t h (c + q) := (nth_add t.mask c _ q).symm
section
variable {P : Program} {w : World} {A : Around} {E : Value → Shared → Prop} {s : Shared}
/-- the rows of the table's members -/
def rws (w : World) (L : List (Addr × NestedKey)) : List (Int × Value) := L.map fun p => (p.2.hash w, .ref p.1)
/-- at a stands the set whose members are those of L, laid in its table -/
structure NS (w : World) (h : Heap) (a : Addr) (L : List (Addr × NestedKey)) (es : Array (Int × Value)) (ep : Nat) (t : SetTable) : Prop where
  ob : ∃ o, h.get? a = some o ∧ o.ExactSet ∧ o.data = .set es ep t
  rows : es.toList = rws w L
  tab : TabOk t (L.map fun p => p.2.hash w)
  nd : (L.map (·.2)).Nodup
  mem : ∀ p ∈ L, Mem h p.2 p.1
  led : w.params.followText "set-order" = true ∨ t.led = true
  room : L.length * 5 < t.mask * 3
  few : L.length < 64
variable {a : Addr} {L : List (Addr × NestedKey)} {es : Array (Int × Value)} {ep : Nat} {t : SetTable}
theorem rows_size (e : es.toList = rws w L) : es.size = L.length := by
  have := congrArg List.length e
  rwa [Array.length_toList, rws, List.length_map] at this
theorem rows_get (e : es.toList = rws w L) {i : Nat} {p : Addr × NestedKey} (h : L[i]? = some p) : es[i]? = some (p.2.hash w, .ref p.1) := by
  rw [← Array.getElem?_toList, e, rws, List.getElem?_map, h]
  rfl
theorem fits_of (hs : t.place.size = es.size) (hd : t.dummies = #[]) (hm : es.size ≤ t.mask) : t.fits es.size = true := by
  unfold SetTable.fits SetTable.fill
  rw [hd, Bool.and_eq_true, beq_iff_eq, decide_eq_true_eq]
  exact ⟨hs, by show t.place.size + 0 ≤ t.mask; omega⟩
theorem NS.fits (R : NS w s.heap a L es ep t) : t.fits es.size = true := by
  have h1 := R.tab.sz
  rw [List.length_map] at h1
  have h2 := rows_size R.rows
  have h3 := R.room
  exact fits_of (by omega) R.tab.dm (by omega)
theorem NS.gw (R : NS w s.heap a L es ep t) : t.gaveWay ≠ true := by
  unfold SetTable.gaveWay
  rw [mask_odd R.tab.mok]
  decide
theorem NS.placed (R : NS w s.heap a L es ep t) {i : Nat} {j : Nat} (h : t.place.toList[i]? = some j) : ∃ p, L[i]? = some p := by
  have h1 := (List.getElem?_eq_some_iff.mp h).1
  have h2 := R.tab.sz
  rw [List.length_map] at h2
  rw [Array.length_toList, h2] at h1
  exact ⟨_, List.getElem?_eq_getElem h1⟩
/-- the search from the c-th stop of the way, which comes to the free place K -/
theorem find_from (R : NS w s.heap a L es ep t) {x : Addr} {k : NestedKey} (hx : Mem s.heap k x) (hu : A.units + 8 < cLine) {K : Nat} (hKf : K < 10 * SetTable.turns t.mask)
    (hK : (stop t (k.hash w) K).j ∉ t.place.toList) (hb : ∀ c, c < K → (stop t (k.hash w) c).j ∈ t.place.toList) {Q : SetFound → Shared → Prop}
    (hin : k ∈ L.map (·.2) → Q (.there none) s) (hout : k ∉ L.map (·.2) → Q (.free (stop t (k.hash w) K).j false) s) : ∀ (f c : Nat) (stand : Option SetTable.Probe),
    stand.getD (t.probeStart (k.hash w)) = stop t (k.hash w) c → c ≤ K → K - c < f → (∀ (i : Nat) p, L[i]? = some p → p.2 = k → ∃ c', c ≤ c' ∧ c' < K ∧ t.place.toList[i]? = some (stop t (k.hash w) c').j) →
      wpAny (model P w) A (setSearchFrom a (.ref x) (k.hash w) true f stand) Q E s := by
  obtain ⟨o, ho, hex, hd⟩ := R.ob
  intro f
  induction f with
  | zero => intro c stand _ _ hf; exact absurd hf (Nat.not_lt_zero _)
  | succ f ih =>
    intro c stand hst hc hf hre
    rw [setSearchFrom_succ]
    refine wpAny_bind (wpAny_setState_of ho hd R.fits ?_)
    dsimp only
    refine wp_if_neg R.gw ?_
    try refine wpAny_bind (wpAny_pure ?_)
    have ha : ∀ (i : Nat) p, L[i]? = some p → (fun i => (es[i]?.map (·.1)).getD 0) i = p.2.hash w := fun i p hp => by
      show (es[i]?.map (·.1)).getD 0 = _
      rw [rows_get R.rows hp]; rfl
    have jq : ∀ q, (nth t.mask (stop t (k.hash w) c) q).j = (stop t (k.hash w) (c + q)).j := fun q => by rw [stop_add]
    rcases go_spec t R.tab.ris R.tab.dm (fun i => (es[i]?.map (·.1)).getD 0) (k.hash w) (10 * SetTable.turns t.mask) (K - c) _ (stop_dummy t (k.hash w) c) (by omega) (fun q hq => by rw [jq]; exact hb _ (by omega))
      (by rw [jq, show c + (K - c) = K by omega]; exact hK) with ⟨q, i, hq, hi, hh, hno, hpr⟩ | ⟨hno, hpr⟩
    · have pr : t.probe (fun i => (es[i]?.map (·.1)).getD 0) (k.hash w) (stand.getD (t.probeStart (k.hash w))) = some (.candidate (stop t (k.hash w) (c + q)).j i (stop t (k.hash w) (c + (q + 1)))) := by
        rw [hst, ← jq, ← stop_add]
        exact hpr
      rw [pr]
      dsimp only
      rw [jq] at hi
      obtain ⟨p, hp⟩ := R.placed hi
      have hm : p ∈ L := List.mem_of_getElem? hp
      have rest : wpAny (model P w) A (searchRest a (.ref x) (k.hash w) true f es t (stop t (k.hash w) (c + q)).j i (stop t (k.hash w) (c + (q + 1)))) Q E s := by
        unfold searchRest
        rw [rows_get R.rows hp]
        dsimp only
        refine wpAny_bind (wpAny_holding ((nestedKind P w).eqBool hu (R.mem p hm) hx ?_))
        refine wpAny_bind (wpAny_setState_of ho hd R.fits ?_)
        dsimp only
        by_cases e : p.2 = k
        · exact wp_if_pos (by simp [e]) (wpAny_pure (hin (List.mem_map.mpr ⟨p, hm, e⟩)))
        · refine wp_if_neg (by simp [e]) ?_
          try refine wpAny_bind (wpAny_pure ?_)
          rw [sameMem]
          dsimp only
          have live : t.slot (stop t (k.hash w) (c + q)).j = .live i := slot_live R.tab.ris hi
          simp only [if_true, live, rows_get R.rows hp]
          refine wpAny_bind (wpAny_isSame_ref_self (wpAny_bind (wpAny_pure ?_)))
          simp only [if_true]
          refine wp_if_neg (by simp [e]) ?_
          refine ih (c + (q + 1)) _ rfl (by omega) (by omega) fun i0 p0 h0 e0 => ?_
          obtain ⟨c', l1, l2, l3⟩ := hre i0 p0 h0 e0
          refine ⟨c', ?_, l2, l3⟩
          -- it lies behind what was passed
          by_cases lt : c' < c + q
          · exact (hno (c' - c) i0 (by omega) (by rw [jq, show c + (c' - c) = c' by omega]; exact l3) ((ha i0 p0 h0).trans (by rw [e0]))).elim
          · by_cases eq : c' = c + q
            · rw [eq] at l3
              have l4 := slot_live R.tab.ris l3
              rw [live] at l4
              injection l4 with l4
              rw [← l4, hp] at h0
              cases h0
              exact absurd e0 e
            · omega
      by_cases hl : t.led = true
      · refine wp_if_neg (by simp [hl]) ?_
        try refine wpAny_bind (wpAny_pure ?_)
        exact rest
      · refine wp_if_pos (by simp [hl]) (wpAny_bind (unseen hx (fun y hy => ?_) ?_))
        · obtain ⟨e, he, rfl⟩ := List.mem_map.mp hy
          have he1 : e ∈ es ∧ e.1 = k.hash w := by simpa using he
          have he2 : e ∈ es.toList := by simpa using he1.1
          rw [R.rows] at he2
          obtain ⟨p2, hp2, rfl⟩ := List.mem_map.mp he2
          exact ⟨p2.2, p2.1, rfl, R.mem p2 hp2⟩
        · refine wp_if_neg (by decide) ?_
          try refine wpAny_bind (wpAny_pure ?_)
          exact rest
    · have pr : t.probe (fun i => (es[i]?.map (·.1)).getD 0) (k.hash w) (stand.getD (t.probeStart (k.hash w))) = some (.empty (stop t (k.hash w) K).j none) := by
        have := jq (K - c)
        rw [show c + (K - c) = K by omega] at this
        rw [hst, ← this]
        exact hpr
      rw [pr]
      dsimp only
      refine wpAny_pure (hout fun hm => ?_)
      obtain ⟨p0, h0, e0⟩ := List.mem_map.mp hm
      obtain ⟨i0, hi0⟩ := List.mem_iff_getElem?.mp h0
      obtain ⟨c', l1, l2, l3⟩ := hre i0 p0 hi0 e0
      exact hno (c' - c) i0 (by omega) (by rw [jq, show c + (c' - c) = c' by omega]; exact l3) ((ha i0 p0 hi0).trans (by rw [e0]))
/-- the search that adding asks for -/
theorem find_add (R : NS w s.heap a L es ep t) {x : Addr} {k : NestedKey} (hx : Mem s.heap k x) (hu : A.units + 8 < cLine) {Q : SetFound → Shared → Prop} (hin : k ∈ L.map (·.2) → Q (.there none) s)
    (hout : ∀ K, k ∉ L.map (·.2) → (stop t (k.hash w) K).j ∉ t.place.toList → (∀ c, c < K → (stop t (k.hash w) c).j ∈ t.place.toList) → Q (.free (stop t (k.hash w) K).j false) s) : wpAny (model P w) A (setSearch a (.ref x) (k.hash w) true) Q E s := by
  have rm := R.room
  obtain ⟨K, hf, hK, hb⟩ := R.tab.first (by rw [List.length_map]; omega) (k.hash w)
  have big : 10 * SetTable.turns t.mask ≤ 1420 := by
    unfold SetTable.turns
    rcases R.tab.mok with e | e | e <;> omega
  unfold setSearch
  refine find_from R hx hu hf hK hb hin (fun n => hout K n hK hb) 100000 0 none rfl (Nat.zero_le _) (by omega) fun i p hp e => ?_
  have hi : (L.map fun p => p.2.hash w)[i]? = some (k.hash w) := by rw [List.getElem?_map, hp, ← e]; rfl
  have sz := R.tab.sz
  rw [List.length_map] at sz
  have hl : i < t.place.toList.length := by
    rw [Array.length_toList, sz]
    exact (List.getElem?_eq_some_iff.mp hp).1
  obtain ⟨c, hc, e2⟩ := R.tab.before hK hi (List.getElem?_eq_getElem hl)
  exact ⟨c, Nat.zero_le _, hc, (List.getElem?_eq_getElem hl).trans (congrArg some e2.symm)⟩
end
end Ns
end
section
set_option Elab.async false
set_option linter.all false
set_option maxRecDepth 100000
set_option maxHeartbeats 4000000
/-! Ns3: adding a tuple to a set; a new set. -/
namespace Ns
open PySem PySem.Spec PyProof.Rows L2
section
variable {P : Program} {w : World} {A : Around} {E : Value → Shared → Prop} {s : Shared}
/-- the set is none of a key's tuples -/
theorem set_ne {h : Heap} {a : Addr} {o : Obj} {es : Array (Int × Value)} {ep : Nat} {t : SetTable} (ho : h.get? a = some o) (hd : o.data = .set es ep t) {b : Addr} {o' : Obj} {vs : Array Value} {m : Nat} (hb : h.get? b = some o') (hd' : o'.data = .seq vs m) : b ≠ a := by
  rintro rfl
  obtain rfl : o' = o := Option.some.inj (hb.symm.trans ho)
  rw [hd] at hd'
  exact nomatch hd'
mutual
theorem nest_same {h h' : Heap} {a : Addr} {o : Obj} {es : Array (Int × Value)} {ep : Nat} {t : SetTable} (ho : h.get? a = some o) (hd : o.data = .set es ep t) (hs : Heap.SameBut a h h') : ∀ (k : NestedKey) (v : Value), NestedIs h k v → NestedIs h' k v
  | .none, _, x => by cases x; constructor
  | .num i, _, x => by cases x <;> (constructor; try assumption)
  | .text y, _, x => by cases x; constructor
  | .tup ks, _, x => by
    cases x with
    | tup hg hc hd' hk => exact .tup ((hs.2 _ (set_ne ho hd hg hd')).trans hg) hc hd' (nests_same ho hd hs ks _ hk)
theorem nests_same {h h' : Heap} {a : Addr} {o : Obj} {es : Array (Int × Value)} {ep : Nat} {t : SetTable} (ho : h.get? a = some o) (hd : o.data = .set es ep t) (hs : Heap.SameBut a h h') : ∀ (ks : List NestedKey) (vs : List Value), NestedAll h ks vs → NestedAll h' ks vs
  | [], _, x => by cases x; constructor
  | k :: ks, _, x => by
    cases x with
    | cons x1 x2 => exact .cons (nest_same ho hd hs k _ x1) (nests_same ho hd hs ks _ x2)
end
mutual
theorem nest_keep {h h' : Heap} (hk : ∀ c o, h.get? c = some o → h'.get? c = some o) : ∀ (k : NestedKey) (v : Value), NestedIs h k v → NestedIs h' k v
  | .none, _, x => by cases x; constructor
  | .num i, _, x => by cases x <;> (constructor; try assumption)
  | .text y, _, x => by cases x; constructor
  | .tup ks, _, x => by
    cases x with
    | tup hg hc hd' hz => exact .tup (hk _ _ hg) hc hd' (nests_keep hk ks _ hz)
theorem nests_keep {h h' : Heap} (hk : ∀ c o, h.get? c = some o → h'.get? c = some o) : ∀ (ks : List NestedKey) (vs : List Value), NestedAll h ks vs → NestedAll h' ks vs
  | [], _, x => by cases x; constructor
  | k :: ks, _, x => by
    cases x with
    | cons x1 x2 => exact .cons (nest_keep hk k _ x1) (nests_keep hk ks _ x2)
end
theorem Mem.same {h h' : Heap} {k : NestedKey} {b a : Addr} {o : Obj} {es : Array (Int × Value)} {ep : Nat} {t : SetTable} (hb : Mem h k b) (ho : h.get? a = some o) (hd : o.data = .set es ep t) (hs : Heap.SameBut a h h') : Mem h' k b :=
  ⟨nest_same ho hd hs k _ hb.1, hb.2⟩
theorem Mem.keep {h h' : Heap} {k : NestedKey} {b : Addr} (hb : Mem h k b) (hk : ∀ c o, h.get? c = some o → h'.get? c = some o) : Mem h' k b := ⟨nest_keep hk k _ hb.1, hb.2⟩
theorem rws_put (L : List (Addr × NestedKey)) (p : Nat) (x : Addr) (k : NestedKey) : rws w (L.take p ++ (x, k) :: L.drop p) = (rws w L).take p ++ (k.hash w, Value.ref x) :: (rws w L).drop p := by
  unfold rws
  rw [List.map_append, List.map_cons, List.map_take, List.map_drop]
theorem order_rws (L : List (Addr × NestedKey)) (es : Array (Int × Value)) (order : Array Nat) (hr : es.toList = rws w L) (hp : order.toList.Perm (List.range L.length)) :
    ∃ L2, (order.filterMap (es[·]?)).toList = rws w L2 ∧ L2.Perm L ∧ (L2.map fun p => p.2.hash w) = order.toList.map fun i => (es.map (·.1)).getD i 0 := by
  have hsz : es.size = L.length := rows_size hr
  have ent : ∀ i (h : i < L.length), es[i]? = some ((L[i]).2.hash w, Value.ref (L[i]).1) := fun i h => rows_get hr (List.getElem?_eq_getElem h)
  have key : ∀ l : List Nat, (∀ i ∈ l, i < L.length) → ∃ L2 : List (Addr × NestedKey), l.filterMap (fun i => es[i]?) = rws w L2 ∧ L2 = l.filterMap (fun i => L[i]?) ∧ (L2.map fun p => p.2.hash w) = l.map fun i => (es.map (·.1)).getD i 0 := by
    intro l
    induction l with
    | nil => intro _; exact ⟨[], rfl, rfl, rfl⟩
    | cons i l ih =>
      intro hl
      have hi := hl i List.mem_cons_self
      obtain ⟨L2, e1, e2, e3⟩ := ih fun j hj => hl j (List.mem_cons_of_mem _ hj)
      refine ⟨L[i] :: L2, ?_, ?_, ?_⟩
      · rw [List.filterMap_cons_some (ent i hi), e1] <;> rfl
      · rw [List.filterMap_cons_some (List.getElem?_eq_getElem hi), e2]
      · rw [List.map_cons, List.map_cons, e3]
        have e4 : (es.map (·.1)).getD i 0 = (L[i]).2.hash w := by
          have e5 : (es.map (·.1))[i]? = some ((L[i]).2.hash w) := by rw [Array.getElem?_map, ent i hi] <;> rfl
          simp [Array.getD_eq_getD_getElem?, e5]
        rw [e4]
  obtain ⟨L2, e1, e2, e3⟩ := key order.toList fun i hi => List.mem_range.mp (hp.mem_iff.mp hi)
  refine ⟨L2, by first | (rw [Array.toList_filterMap]; exact e1) | simpa using e1, ?_, e3⟩
  have h1 : L2.Perm ((List.range L.length).filterMap fun i => L[i]?) := by
    rw [e2]
    exact hp.filterMap _
  have h2 : (List.range L.length).filterMap (fun i => L[i]?) = L := by
    have key2 : ∀ n, n ≤ L.length → (List.range n).filterMap (fun i => L[i]?) = L.take n := by
      intro n
      induction n with
      | zero => intro _; rfl
      | succ n ih =>
        intro hn
        have hlt : n < L.length := hn
        rw [List.range_succ, List.filterMap_append, ih (Nat.le_of_lt hlt), List.take_succ, List.getElem?_eq_getElem hlt]
        rw [List.filterMap_cons_some (List.getElem?_eq_getElem hlt)] <;> rfl
    rw [key2 L.length (Nat.le_refl _), List.take_length]
  rw [h2] at h1
  exact h1
variable {a : Addr} {L : List (Addr × NestedKey)} {es : Array (Int × Value)} {ep : Nat} {t : SetTable}
/-- the table laid anew, larger -/
theorem relay_ns {o : Obj} (ho : s.heap.get? a = some o) (hex : o.ExactSet) (hd : o.data = .set es ep t) (hrows : es.toList = rws w L) (hsz : t.place.size = es.size) (hdm : t.dummies = #[]) (hfl : es.size ≤ t.mask)
    (nd : (L.map (·.2)).Nodup) (mem : ∀ p ∈ L, Mem s.heap p.2 p.1) (ld : w.params.followText "set-order" = true ∨ t.led = true) (few : L.length < 64) {wanted M : Nat}
    (hw : SetTable.sizeAbove wanted - 1 = M) (hM : MaskOk M) (hw2 : SetTable.sizeAbove wanted ≤ 128) (hn : L.length * 5 < M * 3) {Q : Unit → Shared → Prop}
    (hQ : ∀ h' L' es' ep' t', Heap.SameBut a s.heap h' → NS w h' a L' es' ep' t' → L'.Perm L → Q () { s with heap := h' }) : wpAny (model P w) A (setRelay a wanted) Q E s := by
  have hsl : es.size = L.length := rows_size hrows
  have hfits : t.fits es.size = true := fits_of hsz hdm hfl
  obtain ⟨t', order, e, hp, T, em, el, ep', ed⟩ := relaid_ok t (hs := es.map (·.1)) (wanted := wanted) hw hM (by rw [Array.size_map, hsl]; omega)
  rw [Array.size_map, hsl] at hp
  obtain ⟨L2, r1, r2, r3⟩ := order_rws L es order hrows hp
  rw [← r3] at T
  have hs2 : (order.filterMap (es[·]?)).size = es.size := by
    rw [rows_size r1, hsl, r2.length_eq]
  rw [setRelay_eq]
  refine wpAny_bind (wpAny_setState_of ho hd hfits ?_)
  dsimp only
  refine wp_if_neg (by rw [sizeLine_eq]; omega) ?_
  try refine wpAny_bind (wpAny_pure ?_)
  rw [e]
  dsimp only
  refine wpAny_bind ?_
  refine wp_if_neg (by rw [hs2]; simp) ?_
  try refine wpAny_bind (wpAny_pure ?_)
  refine wpAny_pure ?_
  dsimp only
  refine wpAny_storeSet_of ho hd ?_ (by rw [hs2, hsl, sizeLine_eq]; omega)
  have sb : Heap.SameBut a s.heap (s.heap.update a (Obj.putSet (order.filterMap (es[·]?)) t')) := Heap.SameBut.update ..
  refine hQ _ L2 (order.filterMap (es[·]?)) (ep + 1) t' sb ?_ r2
  refine ⟨⟨_, store_at ho hd, ⟨hex.1, hex.2.1, hex.2.2⟩, rfl⟩, r1, T, ?_, fun p hpm => (mem p (r2.mem_iff.mp hpm)).same ho hd sb, by rw [el]; exact ld, ?_, by rw [r2.length_eq]; exact few⟩
  · exact (r2.map (·.2)).nodup_iff.mpr nd
  · rw [r2.length_eq, em]
    exact hn
theorem TabOk.plainOff {t : SetTable} {hs : List Int} (T : TabOk t hs) (b : Bool) : TabOk { t with plain := b } hs := ⟨T.1, T.2, T.3, T.4, T.5, T.6⟩
/-- adding -/
theorem add_ns (R : NS w s.heap a L es ep t) {x : Addr} {k : NestedKey} (hx : Mem s.heap k x) (hu : A.units + 8 < cLine) (hfew : k ∉ L.map (·.2) → L.length + 1 < 64) {Q : Bool → Shared → Prop}
    (hQ : ∀ b h' L' es' ep' t', Heap.SameBut a s.heap h' → NS w h' a L' es' ep' t' → (k ∈ L.map (·.2) → L' = L) → (k ∉ L.map (·.2) → L'.Perm ((x, k) :: L)) → Q b { s with heap := h' }) :
    wpAny (model P w) A (setAddHashed a (.ref x) (k.hash w)) Q E s := by
  obtain ⟨o, ho, hex, hd⟩ := R.ob
  have hsl := rows_size R.rows
  have hroom := R.room
  unfold setAddHashed
  refine wpAny_holding ?_
  rw [show (100000 : Nat) = 99999 + 1 from rfl, setAddHashedIn_succ]
  refine wpAny_bind (wpAny_setState_of ho hd R.fits ?_)
  dsimp only
  refine wp_if_neg (by simp [byScan, Value.scannable]) ?_
  try refine wpAny_bind (wpAny_pure ?_)
  refine wpAny_bind (find_add R hx hu (fun hm => ?_) fun K hm hK hb => ?_)
  · dsimp only
    exact wpAny_pure (hQ false s.heap L es ep t (Heap.SameBut.refl a s.heap) R (fun _ => rfl) fun z => absurd hm z)
  · dsimp only
    have hfew := hfew hm
    refine wpAny_bind (wpAny_setState_of ho hd R.fits ?_)
    dsimp only
    obtain ⟨q1, q2, q3, q4, q5, q6, q7, q8, q9⟩ := R.tab.put hK hb
    have eway : way t.mask (k.hash w) K = (stop t (k.hash w) K).j := rfl
    rw [eway] at q1 q2 q3 q4 q5 q6 q7 q8 q9
    generalize hpt : t.put (stop t (k.hash w) K).j = pt at q1 q3 q4 q5 q6 q7 q8 q9 ⊢
    obtain ⟨t1, p⟩ := pt
    dsimp only at q1 q3 q4 q5 q6 q7 q8 q9 ⊢
    subst q1
    -- whatever the values say of themselves
    have go : ∀ byV : Bool, wpAny (model P w) A (do
        storeSet a (SetTable.insertAt es (SetTable.below t.place (stop t (k.hash w) K).j) (k.hash w, Value.ref x)) (if byV = true then t1 else { t1 with plain := false })
        if (!false && (if byV = true then t1 else { t1 with plain := false }).tooFull) = true then do
          setRelay a (SetTable.grown (es.size + 1))
          pure true
        else pure true) Q E s := by
      intro byV
      have e2 : ∃ t2 : SetTable, (if byV = true then t1 else { t1 with plain := false }) = t2 ∧ TabOk t2 ((L.map fun p => p.2.hash w).take (SetTable.below t.place (stop t (k.hash w) K).j) ++ k.hash w :: (L.map fun p => p.2.hash w).drop (SetTable.below t.place (stop t (k.hash w) K).j)) ∧
          t2.mask = t1.mask ∧ t2.led = t1.led ∧ t2.tooFull = t1.tooFull ∧ t2.place = t1.place ∧ t2.dummies = t1.dummies := by
        cases byV with
        | true => exact ⟨t1, rfl, q3, rfl, rfl, rfl, rfl, rfl⟩
        | false => exact ⟨{ t1 with plain := false }, rfl, TabOk.plainOff q3 false, rfl, rfl, rfl, rfl, rfl⟩
      obtain ⟨t2, et, T2, em2, el2, ef2, epl2, ed2⟩ := e2
      rw [et]
      have hin : (SetTable.insertAt es (SetTable.below t.place (stop t (k.hash w) K).j) (k.hash w, Value.ref x)).toList = rws w (L.take (SetTable.below t.place (stop t (k.hash w) K).j) ++ (x, k) :: L.drop (SetTable.below t.place (stop t (k.hash w) K).j)) := by
        rw [SetTable.toList_insertAt, rws_put, R.rows]
      generalize hpp : SetTable.below t.place (stop t (k.hash w) K).j = p at T2 hin ⊢
      have pm := put_perm L p (x, k)
      have hlen : (L.take p ++ (x, k) :: L.drop p).length = L.length + 1 := pm.length_eq
      have hhs : (L.take p ++ (x, k) :: L.drop p).map (fun p => p.2.hash w) = (L.map fun p => p.2.hash w).take p ++ k.hash w :: (L.map fun p => p.2.hash w).drop p := by
        rw [List.map_append, List.map_cons, List.map_take, List.map_drop]
      rw [← hhs] at T2
      have nd1 : ((L.take p ++ (x, k) :: L.drop p).map (·.2)).Nodup := by
        refine (pm.map (·.2)).nodup_iff.mpr ?_
        rw [List.map_cons]
        exact List.nodup_cons.mpr ⟨hm, R.nd⟩
      have hes : (SetTable.insertAt es p (k.hash w, Value.ref x)).size = L.length + 1 := by rw [rows_size hin, hlen]
      generalize SetTable.insertAt es p (k.hash w, Value.ref x) = es1 at hin hes ⊢
      generalize L.take p ++ (x, k) :: L.drop p = L1 at pm hlen T2 nd1 hin
      refine wpAny_bind (wpAny_storeSet_of ho hd ?_ (by rw [hes, sizeLine_eq]; omega))
      have sb : Heap.SameBut a s.heap (s.heap.update a (Obj.putSet es1 t2)) := Heap.SameBut.update ..
      have ho1 := store_at (es' := es1) (t' := t2) ho hd
      generalize s.heap.update a (Obj.putSet es1 t2) = h1 at sb ho1 ⊢
      have mem1 : ∀ p ∈ L1, Mem h1 p.2 p.1 := fun p hp => by
        rcases List.mem_cons.mp (pm.mem_iff.mp hp) with e | hp
        · rw [e]; exact hx.same ho hd sb
        · exact (R.mem p hp).same ho hd sb
      have ld1 : w.params.followText "set-order" = true ∨ t2.led = true := by rw [el2, q5]; exact R.led
      have sz2 := T2.sz
      rw [List.length_map, hlen] at sz2
      have hfull0 : t2.tooFull = decide ((L.length + 1) * 5 ≥ t2.mask * 3) := by
        have h9 := q9
        rw [List.length_map] at h9
        rw [ef2, em2]
        unfold SetTable.tooFull
        rw [h9]
      by_cases hf : t2.tooFull = true
      · refine wp_if_pos (by simp [hf]) ?_
        refine wpAny_bind ?_
        have hfull : (L.length + 1) * 5 ≥ t2.mask * 3 := by
          rw [hfull0] at hf
          exact of_decide_eq_true hf
        rw [hsl]
        have hsz1 : t2.place.size = es1.size := by rw [sz2, hes]
        have mk : t2.mask = t.mask := by rw [em2, q4]
        have cases2 : (t.mask = 7 ∧ L.length = 4) ∨ (t.mask = 31 ∧ L.length = 18) := by
          rcases R.tab.mok with e | e | e
          · left; rw [mk, e] at hfull; rw [e] at hroom; exact ⟨e, by omega⟩
          · right; rw [mk, e] at hfull; rw [e] at hroom; exact ⟨e, by omega⟩
          · exfalso; rw [mk, e] at hfull; omega
        have go : ∀ M, SetTable.sizeAbove (SetTable.grown (L.length + 1)) - 1 = M → MaskOk M → SetTable.sizeAbove (SetTable.grown (L.length + 1)) ≤ 128 → (L.length + 1) * 5 < M * 3 →
            wpAny (model P w) A (setRelay a (SetTable.grown (L.length + 1))) (fun _ s' => wpAny (model P w) A (pure true) Q E s') E { s with heap := h1 } := fun M h1' h2' h3' h4' => by
          refine relay_ns (s := { s with heap := h1 }) ho1 ⟨hex.1, hex.2.1, hex.2.2⟩ rfl hin hsz1 T2.dm (by rw [hes, mk]; rcases cases2 with ⟨e, e2⟩ | ⟨e, e2⟩ <;> omega) nd1 mem1 ld1 (by rw [hlen]; exact hfew) h1' h2' h3' (by rw [hlen]; exact h4') ?_
          intro h2 L2 es2 ep2 t2 sb2 R2 pm2
          refine wpAny_pure (hQ true h2 L2 es2 ep2 t2 (sb.trans sb2) R2 (fun z => absurd z hm) fun _ => pm2.trans pm)
        rcases cases2 with ⟨_, e2⟩ | ⟨_, e2⟩
        · exact go 31 (by rw [e2, size_20]) (.inr (.inl rfl)) (by rw [e2, size_20]; decide) (by omega)
        · exact go 127 (by rw [e2, size_76]) (.inr (.inr rfl)) (by rw [e2, size_76]; decide) (by omega)
      · refine wp_if_neg (by simp [hf]) ?_
        refine wpAny_pure (hQ true h1 L1 es1 (ep + 1) t2 sb ⟨⟨_, ho1, ⟨hex.1, hex.2.1, hex.2.2⟩, rfl⟩, hin, T2, nd1, mem1, ld1, ?_, by rw [hlen]; exact hfew⟩ (fun z => absurd z hm) fun _ => pm)
        rw [hfull0] at hf
        have := of_decide_eq_false (Bool.eq_false_iff.mpr hf)
        rw [hlen]
        omega
    by_cases hp1 : t1.plain = true
    · refine wp_if_pos hp1 (wpAny_bind ?_)
      exact hasHv_key k _ 8 hx.1 hx.2 _ _ _ go
    · refine wp_if_neg hp1 (wpAny_bind ?_)
      exact wpAny_pure (go true)
/-- a new set -/
theorem ns_fresh {h : Heap} {a : Addr} (ho : h.get? a = some { cls := .type "set", dict := none, data := .set #[] 0 (.fresh 0 0 (!w.params.followText "set-order")) }) : NS w h a [] #[] 0 (.fresh 0 0 (!w.params.followText "set-order")) where
  ob := ⟨_, ho, ⟨rfl, rfl, rfl⟩, rfl⟩
  rows := rfl
  tab := ⟨List.Pairwise.nil, rfl, rfl, .inl rfl, fun x hx => (by cases hx), fun i h j hi => (by simp at hi)⟩
  nd := List.nodup_nil
  mem := fun p hp => (by cases hp)
  led := by
    show _ ∨ (!w.params.followText "set-order") = true
    cases w.params.followText "set-order"
    · exact .inr rfl
    · exact .inl rfl
  room := by
    show 0 * 5 < 7 * 3
    decide
  few := by
    show 0 < 64
    decide
theorem NS.keep {h h' : Heap} {a : Addr} {L : List (Addr × NestedKey)} {es : Array (Int × Value)} {ep : Nat} {t : SetTable} (R : NS w h a L es ep t) (ha : ∀ o, h.get? a = some o → h'.get? a = some o) (ht : ∀ p ∈ L, Mem h' p.2 p.1) : NS w h' a L es ep t := by
  obtain ⟨o, ho, r⟩ := R.ob
  exact ⟨⟨o, ha o ho, r⟩, R.rows, R.tab, R.nd, ht, R.led, R.room, R.few⟩
/-- found.add(x) -/
theorem set_add_ns (R : NS w s.heap a L es ep t) {x : Addr} {k : NestedKey} (hx : Mem s.heap k x) (hu : A.units + 16 < cLine) (hfew : k ∉ L.map (·.2) → L.length + 1 < 64) {Q : Value → Shared → Prop}
    (hQ : ∀ h' tk L' es' ep' t', Heap.SameBut a s.heap h' → NS w h' a L' es' ep' t' → (k ∈ L.map (·.2) → L' = L) → (k ∉ L.map (·.2) → L'.Perm ((x, k) :: L)) → Q .none { s with heap := h', toks := tk }) :
    wpAny (model P w) A (call (.builtin "set.add") [.ref a, .ref x]) Q E s := by
  obtain ⟨o, ho, hex, hd⟩ := R.ob
  have hT : s.TypeIs (.ref a) "set" := ⟨o, ho, hex.1⟩
  refine wpAny_call_entry F.slot_set_add hT F.entry_set_add ?_ (F.args_set_add_2 _ _)
  unfold Builtin.«set.add» Builtin.Frozenset.oneOther
  simp only [List.isEmpty_nil, bind_assoc]
  unfold Builtin.Frozenset.addrOf setAdd
  refine wpAny_bind (wpAny_pure ?_)
  try dsimp only
  refine wpAny_bind (wpAny_pure ?_)
  try dsimp only
  refine wpAny_bind ?_
  refine wpAny_holding ?_
  refine wpAny_bind (pyHash_key k _ _ _ _ hx.1 (by have := hx.2; simp only [Around.in1_units]; omega) ?_)
  refine add_ns (s := { s with toks := s.toks + k.draws }) R hx (by simp only [Around.in1_units]; omega) hfew fun b h' L' es' ep' t' hsb hS2 c1 c2 => ?_
  show wpAny _ _ (ret Value.none) _ _ _
  exact wpAny_pure ⟨_, rfl, hQ _ _ L' es' ep' t' hsb hS2 c1 c2⟩
end
/-- the set at a, without the tuples themselves -/
def NS0 (w : World) (h : Heap) (a : Addr) (L : List (Addr × NestedKey)) : Prop :=
  ∃ (es : Array (Int × Value)) (ep : Nat) (t : SetTable), (∃ o, h.get? a = some o ∧ o.ExactSet ∧ o.data = .set es ep t) ∧ es.toList = rws w L ∧ TabOk t (L.map fun p => p.2.hash w) ∧ (L.map (·.2)).Nodup ∧
    (w.params.followText "set-order" = true ∨ t.led = true) ∧ L.length * 5 < t.mask * 3 ∧ L.length < 64
def SX (w : World) (a : Addr) (L : List (Addr × NestedKey)) : HO := .ext fun h => NS0 w h a L
theorem NS.ns0 {w : World} {h : Heap} {a : Addr} {L : List (Addr × NestedKey)} {es : Array (Int × Value)} {ep : Nat} {t : SetTable} (R : NS w h a L es ep t) : NS0 w h a L :=
  ⟨es, ep, t, R.ob, R.rows, R.tab, R.nd, R.led, R.room, R.few⟩
theorem NS0.full {w : World} {h : Heap} {a : Addr} {L : List (Addr × NestedKey)} (R : NS0 w h a L) (ht : ∀ p ∈ L, Mem h p.2 p.1) : ∃ es ep t, NS w h a L es ep t := by
  obtain ⟨es, ep, t, h1, h2, h3, h4, h6, h7, h8⟩ := R
  exact ⟨es, ep, t, h1, h2, h3, h4, ht, h6, h7, h8⟩
theorem sx_new {P : Program} {w w0 : World} {H : Hp} {h : Heap} {a : Addr} {L : List (Addr × NestedKey)} (R : NS0 w h a L) : ObjOk P w0 H h a (SX w a L) := by
  have ⟨es, ep, t, ⟨o, ho, r⟩, q⟩ := R
  refine ⟨R, ⟨o, ho⟩, fun h1 h2 p k => ?_⟩
  have ⟨es', ep', t', ⟨o', ho', r'⟩, q'⟩ := (show NS0 w h1 a L from p)
  exact ⟨es', ep', t', ⟨o', k o' ho', r'⟩, q'⟩
end Ns
end
section
set_option Elab.async false
set_option linter.all false
set_option maxRecDepth 100000
/-! Mw1: pure values, the abstract store of mutable objects, how a HandS heap bears it. -/
namespace Mw
open PySem PySem.Spec PyProof.Rows L2

/-- a pure value; ref i: the i-th mutable object of the abstract store; fl, fd, fs: a list, a dict, a set that nobody changes; scr: the script; st i: a class of the text; obj c fs: an instance of the c-th class that nobody changes -/
inductive PV where
  | non | bl (b : Bool) | int (i : Int) | str (s : Str) | tup (xs : List PV) | ref (i : Nat)
  | fl (xs : List PV) | scr (xs : List PV) | fd (kvs : List (PV × PV)) | fs (xs : List PV) | st (i : Nat) | obj (c : Nat) (fs : List (Str × PV))
  deriving Inhabited

mutual
def PV.beq : PV → PV → Bool
  | .non, .non => true
  | .bl a, .bl b => a == b
  | .int a, .int b => decide (a = b)
  | .str a, .str b => decide (a = b)
  | .tup a, .tup b => PV.beqs a b
  | .ref a, .ref b => decide (a = b)
  | .st a, .st b => decide (a = b)
  | .fl a, .fl b => PV.beqs a b
  | .scr a, .scr b => PV.beqs a b
  | .fs a, .fs b => PV.beqs a b
  | .fd a, .fd b => PV.beqp a b
  | .obj c a, .obj d b => decide (c = d) && PV.beqf a b
  | _, _ => false
termination_by structural a => a
def PV.beqf : List (Str × PV) → List (Str × PV) → Bool
  | [], [] => true
  | (a, c) :: as, (b, d) :: bs => (decide (a = b) && PV.beq c d) && PV.beqf as bs
  | _, _ => false
termination_by structural a => a
def PV.beqp : List (PV × PV) → List (PV × PV) → Bool
  | [], [] => true
  | (a, c) :: as, (b, d) :: bs => (PV.beq a b && PV.beq c d) && PV.beqp as bs
  | _, _ => false
termination_by structural a => a
def PV.beqs : List PV → List PV → Bool
  | [], [] => true
  | a :: as, b :: bs => PV.beq a b && PV.beqs as bs
  | _, _ => false
termination_by structural a => a
end
mutual
theorem PV.beq_refl : ∀ a : PV, PV.beq a a = true
  | .non => by simp [PV.beq]
  | .bl b => by simp [PV.beq]
  | .int _ => by simp [PV.beq]
  | .str _ => by simp [PV.beq]
  | .tup xs => by rw [PV.beq]; exact PV.beqs_refl xs
  | .ref _ => by simp [PV.beq]
  | .st _ => by simp [PV.beq]
  | .fl xs => by rw [PV.beq]; exact PV.beqs_refl xs
  | .scr xs => by rw [PV.beq]; exact PV.beqs_refl xs
  | .fs xs => by rw [PV.beq]; exact PV.beqs_refl xs
  | .fd xs => by rw [PV.beq]; exact PV.beqp_refl xs
  | .obj c xs => by rw [PV.beq, PV.beqf_refl xs]; simp
theorem PV.beqf_refl : ∀ a : List (Str × PV), PV.beqf a a = true
  | [] => by simp [PV.beqf]
  | (a, b) :: as => by rw [PV.beqf, PV.beq_refl b, PV.beqf_refl as]; simp
theorem PV.beqp_refl : ∀ a : List (PV × PV), PV.beqp a a = true
  | [] => by simp [PV.beqp]
  | (a, b) :: as => by rw [PV.beqp, PV.beq_refl a, PV.beq_refl b, PV.beqp_refl as]; rfl
theorem PV.beqs_refl : ∀ a : List PV, PV.beqs a a = true
  | [] => by simp [PV.beqs]
  | a :: as => by rw [PV.beqs, PV.beq_refl a, PV.beqs_refl as]; rfl
end
mutual
theorem PV.eq_of : ∀ a b : PV, PV.beq a b = true → a = b
  | .non, b, h => by cases b <;> first | rfl | simp [PV.beq] at h
  | .bl _, b, h => by cases b <;> simp [PV.beq] at h ⊢; exact h
  | .int _, b, h => by cases b <;> simp [PV.beq] at h ⊢; exact h
  | .str _, b, h => by cases b <;> simp [PV.beq] at h ⊢; exact h
  | .tup xs, b, h => by
    cases b with
    | tup ys => rw [PV.beq] at h; rw [PV.eqs_of xs ys h]
    | _ => simp [PV.beq] at h
  | .ref _, b, h => by cases b <;> simp [PV.beq] at h ⊢; exact h
  | .st _, b, h => by cases b <;> simp [PV.beq] at h ⊢; exact h
  | .fl xs, b, h => by
    cases b with
    | fl ys => rw [PV.beq] at h; rw [PV.eqs_of xs ys h]
    | _ => simp [PV.beq] at h
  | .scr xs, b, h => by
    cases b with
    | scr ys => rw [PV.beq] at h; rw [PV.eqs_of xs ys h]
    | _ => simp [PV.beq] at h
  | .fs xs, b, h => by
    cases b with
    | fs ys => rw [PV.beq] at h; rw [PV.eqs_of xs ys h]
    | _ => simp [PV.beq] at h
  | .fd xs, b, h => by
    cases b with
    | fd ys => rw [PV.beq] at h; rw [PV.eqp_of xs ys h]
    | _ => simp [PV.beq] at h
  | .obj c xs, b, h => by
    cases b with
    | obj d ys =>
      rw [PV.beq, Bool.and_eq_true, decide_eq_true_eq] at h
      rw [h.1, PV.eqf_of xs ys h.2]
    | _ => simp [PV.beq] at h
theorem PV.eqf_of : ∀ a b : List (Str × PV), PV.beqf a b = true → a = b
  | [], b, h => by cases b <;> first | rfl | simp [PV.beqf] at h
  | (a, c) :: as, b, h => by
    cases b with
    | nil => simp [PV.beqf] at h
    | cons b bs =>
      obtain ⟨b, d⟩ := b
      rw [PV.beqf, Bool.and_eq_true, Bool.and_eq_true, decide_eq_true_eq] at h
      rw [h.1.1, PV.eq_of c d h.1.2, PV.eqf_of as bs h.2]
theorem PV.eqp_of : ∀ a b : List (PV × PV), PV.beqp a b = true → a = b
  | [], b, h => by cases b <;> first | rfl | simp [PV.beqp] at h
  | (a, c) :: as, b, h => by
    cases b with
    | nil => simp [PV.beqp] at h
    | cons b bs =>
      obtain ⟨b, d⟩ := b
      rw [PV.beqp, Bool.and_eq_true, Bool.and_eq_true] at h
      rw [PV.eq_of a b h.1.1, PV.eq_of c d h.1.2, PV.eqp_of as bs h.2]
theorem PV.eqs_of : ∀ a b : List PV, PV.beqs a b = true → a = b
  | [], b, h => by cases b <;> first | rfl | simp [PV.beqs] at h
  | a :: as, b, h => by
    cases b with
    | nil => simp [PV.beqs] at h
    | cons b bs =>
      rw [PV.beqs, Bool.and_eq_true] at h
      rw [PV.eq_of a b h.1, PV.eqs_of as bs h.2]
end
instance : DecidableEq PV := fun a b =>
  if h : PV.beq a b = true then .isTrue (PV.eq_of a b h) else .isFalse fun e => h (e ▸ PV.beq_refl a)

/-- an object of the abstract store: a list, a dict (its pairs in order), a dict that is walked just now -/
inductive AO where
  | lst (xs : List PV)
  | dct (kvs : List (PV × PV))
  | ldct (kvs : List (PV × PV))
  deriving Inhabited, DecidableEq
abbrev AH := List AO

/-- a dict's key that is an int or a text -/
def keyOf : PV → Option Key
  | .int i => some (.inl i)
  | .str x => some (.inr x)
  | _ => none
mutual
/-- a dict's key of any depth, without lists -/
def nkOf : PV → Option NestedKey
  | .non => some .none
  | .bl b => some (.num (if b then 1 else 0))
  | .int i => some (.num i)
  | .str x => some (.text x)
  | .tup xs => (nksOf xs).map .tup
  | _ => none
def nksOf : List PV → Option (List NestedKey)
  | [] => some []
  | p :: ps => (nkOf p).bind fun k => (nksOf ps).map (k :: ·)
end

section
variable (P : Program) (w : World)
/-- the raw pairs of a dict with tuple keys -/
def RowsDX (h : Heap) (a : Addr) (L : List (NestedKey × Addr × V)) : Prop :=
  L.length ≤ sizeLine ∧ (a == sysModules) = false ∧ ∃ xs : List (NestedKey × Addr × Value),
    Paired (fun (p : NestedKey × Addr × V) (q : NestedKey × Addr × Value) => p.1 = q.1 ∧ p.2.1 = q.2.1 ∧ RelV p.2.2 q.2.2) L xs ∧
    ∃ o es ep, h.get? a = some o ∧ o.ExactDict ∧ o.data = .dict es ep ∧ es.toList = xs.map (entryOfKey (nestedKind P w)) ∧ (xs.map (·.1)).Nodup
def DX (a : Addr) (L : List (NestedKey × Addr × V)) : HO := .ext fun h => RowsDX P w h a L
abbrev SX := Ns.SX
end

/-! ### how values are borne -/
/-- the fixed part: the program, the world, the written part, where the text's defs and classes stand -/
structure Fx where
  P : Program
  w : World
  K : PySem.W.Frag
  τ : Nat → Addr
  fa : Nat → Addr := fun _ => 0
/-- a tuple of the written part -/
def SqW (K : PySem.W.Frag) (a : Addr) (xs : List V) : Prop :=
  ∃ (o : Obj) (its : Array Value) (n : Nat), K.lookup a = some o ∧ o.cls = .type "tuple" ∧ o.data = .seq its n ∧ its.size ≤ sizeLine ∧ Vals xs its.toList
/-- a locked list, or one of the written part -/
def SqF (K : PySem.W.Frag) (H : Hp) (a : Addr) (xs : List V) : Prop :=
  (∃ o, H a = some (.frz o (.lst xs))) ∨
    ∃ (o : Obj) (its : Array Value) (n : Nat), K.lookup a = some o ∧ o.cls = .type "list" ∧ o.dict = none ∧ o.data = .seq its n ∧ its.size ≤ sizeLine ∧ Vals xs its.toList
theorem SqF.sql {K : PySem.W.Frag} {H : Hp} {a : Addr} {xs : List V} (h : SqF K H a xs) : SqL K H a xs := h.elim (fun ⟨o, e⟩ => .inl (.inr ⟨o, e⟩)) .inr
/-- the zone: where the store's objects stand; what is put by for the while (no value of ours stands there) -/
structure Zn where
  on : List Addr
  off : List Addr
def Zn.no (μ : Zn) (a : Addr) : Prop := a ∉ μ.on ∧ a ∉ μ.off
mutual
inductive Rep (F : Fx) (μ : Zn) (H : Hp) : PV → V → Prop
  | non : Rep F μ H .non .non
  | bl (b : Bool) : Rep F μ H (.bl b) (.bl b)
  | int (i : Int) : Rep F μ H (.int i) (.int i)
  | str (x : Str) : Rep F μ H (.str x) (.str x)
  | tup {a : Addr} {xs : List PV} {vs : List V} : H a = some (.tup vs) → RepL F μ H xs vs → Rep F μ H (.tup xs) (.ref a)
  | tupW {a : Addr} {xs : List PV} {vs : List V} : SqW F.K a vs → RepL F μ H xs vs → Rep F μ H (.tup xs) (.ref a)
  | ref {i : Nat} {a : Addr} : μ.on[i]? = some a → Rep F μ H (.ref i) (.ref a)
  | fl {a : Addr} {xs : List PV} {vs : List V} : μ.no a → H a = some (.lst vs) → RepL F μ H xs vs → Rep F μ H (.fl xs) (.ref a)
  | scr {a : Addr} {xs : List PV} {vs : List V} : SqF F.K H a vs → RepL F μ H xs vs → Rep F μ H (.scr xs) (.ref a)
  | fdK {a : Addr} {ob : Obj} {kvs : List (PV × PV)} {ks : List (Key × V)} : μ.no a → H a = some (.frz ob (.dK ks)) → RepK F μ H kvs ks → Rep F μ H (.fd kvs) (.ref a)
  | fdX {a : Addr} {ob : Obj} {kvs : List (PV × PV)} {L : List (NestedKey × Addr × V)} : μ.no a → kvs ≠ [] → H a = some (.frz ob (DX F.P F.w a L)) → RepX F μ H kvs L → Rep F μ H (.fd kvs) (.ref a)
  | st (i : Nat) : Rep F μ H (.st i) (.ref (F.τ i))
  | obj {c : Nat} {a dx : Addr} {fs : List (Str × PV)} {vs : List (Str × V)} : μ.no a → μ.no dx → H a = some (.ins (F.τ c) dx vs) → H dx = some (.own a) → RepF F μ H fs vs → Rep F μ H (.obj c fs) (.ref a)
  | fs {a : Addr} {xs : List PV} {L M : List (Addr × NestedKey)} : μ.no a → H a = some (SX F.w a L) → L.Perm M → RepS F μ H xs M → Rep F μ H (.fs xs) (.ref a)
/-- a set's members -/
inductive RepS (F : Fx) (μ : Zn) (H : Hp) : List PV → List (Addr × NestedKey) → Prop
  | nil : RepS F μ H [] []
  | cons {ks : List PV} {q : NestedKey} {b : Addr} {ps : List PV} {vs : List (Addr × NestedKey)} : nkOf (.tup ks) = some q → q.depth ≤ 8 → Rep F μ H (.tup ks) (.ref b) → RepS F μ H ps vs → RepS F μ H (.tup ks :: ps) ((b, q) :: vs)
/-- fields by name -/
inductive RepF (F : Fx) (μ : Zn) (H : Hp) : List (Str × PV) → List (Str × V) → Prop
  | nil : RepF F μ H [] []
  | cons {f : Str} {p : PV} {v : V} {ps : List (Str × PV)} {vs : List (Str × V)} : Rep F μ H p v → RepF F μ H ps vs → RepF F μ H ((f, p) :: ps) ((f, v) :: vs)
inductive RepL (F : Fx) (μ : Zn) (H : Hp) : List PV → List V → Prop
  | nil : RepL F μ H [] []
  | cons {p : PV} {v : V} {ps : List PV} {vs : List V} : Rep F μ H p v → RepL F μ H ps vs → RepL F μ H (p :: ps) (v :: vs)
/-- pairs with int and text keys -/
inductive RepK (F : Fx) (μ : Zn) (H : Hp) : List (PV × PV) → List (Key × V) → Prop
  | nil : RepK F μ H [] []
  | cons {k p : PV} {q : Key} {v : V} {ps : List (PV × PV)} {vs : List (Key × V)} : keyOf k = some q → Rep F μ H p v → RepK F μ H ps vs → RepK F μ H ((k, p) :: ps) ((q, v) :: vs)
/-- pairs with tuple keys -/
inductive RepX (F : Fx) (μ : Zn) (H : Hp) : List (PV × PV) → List (NestedKey × Addr × V) → Prop
  | nil : RepX F μ H [] []
  | cons {ks : List PV} {p : PV} {q : NestedKey} {b : Addr} {v : V} {ps : List (PV × PV)} {vs : List (NestedKey × Addr × V)} : nkOf (.tup ks) = some q → q.depth ≤ 8 → Rep F μ H (.tup ks) (.ref b) → Rep F μ H p v → RepX F μ H ps vs →
      RepX F μ H ((.tup ks, p) :: ps) ((q, b, v) :: vs)
end

section
variable {F : Fx} {μ μ' : Zn} {H H' : Hp}
/-- what every value lives on: the objects' places, tuples, the script, and what is tracked, not of the store and not put by -/
structure Ext (F : Fx) (μ : Zn) (H : Hp) (μ' : Zn) (H' : Hp) : Prop where
  pre : ∃ t, μ'.on = μ.on ++ t
  tup : ∀ a vs, H a = some (.tup vs) → H' a = some (.tup vs)
  scr : ∀ a o vs, H a = some (.frz o (.lst vs)) → H' a = some (.frz o (.lst vs))
  no : ∀ a o, μ.no a → H a = some o → μ'.no a ∧ H' a = some o
theorem Ext.sqf (l : Ext F μ H μ' H') {a : Addr} {vs : List V} (h : SqF F.K H a vs) : SqF F.K H' a vs := h.elim (fun ⟨o, e⟩ => .inl ⟨o, l.scr a o vs e⟩) .inr
theorem Ext.at (l : Ext F μ H μ' H') {i : Nat} {a : Addr} (h : μ.on[i]? = some a) : μ'.on[i]? = some a := by
  obtain ⟨t, e⟩ := l.pre
  rw [e, List.getElem?_append_left (List.getElem?_eq_some_iff.mp h).1]
  exact h
mutual
theorem Rep.ext (l : Ext F μ H μ' H') : ∀ {p : PV} {v : V}, Rep F μ H p v → Rep F μ' H' p v
  | _, _, .non => .non
  | _, _, .bl b => .bl b
  | _, _, .int i => .int i
  | _, _, .str x => .str x
  | _, _, .tup h r => .tup (l.tup _ _ h) (RepL.ext l r)
  | _, _, .tupW h r => .tupW h (RepL.ext l r)
  | _, _, .ref h => .ref (l.at h)
  | _, _, .fl n h r => .fl (l.no _ _ n h).1 (l.no _ _ n h).2 (RepL.ext l r)
  | _, _, .scr h r => .scr (l.sqf h) (RepL.ext l r)
  | _, _, .fdK n h r => .fdK (l.no _ _ n h).1 (l.no _ _ n h).2 (RepK.ext l r)
  | _, _, .fdX n z h r => .fdX (l.no _ _ n h).1 z (l.no _ _ n h).2 (RepX.ext l r)
  | _, _, .st i => .st i
  | _, _, .obj n m h k r => .obj (l.no _ _ n h).1 (l.no _ _ m k).1 (l.no _ _ n h).2 (l.no _ _ m k).2 (RepF.ext l r)
  | _, _, .fs n h pm r => .fs (l.no _ _ n h).1 (l.no _ _ n h).2 pm (RepS.ext l r)
theorem RepS.ext (l : Ext F μ H μ' H') : ∀ {p : List PV} {v : List (Addr × NestedKey)}, RepS F μ H p v → RepS F μ' H' p v
  | _, _, .nil => .nil
  | _, _, .cons e d k b => .cons e d (Rep.ext l k) (RepS.ext l b)
theorem RepF.ext (l : Ext F μ H μ' H') : ∀ {p : List (Str × PV)} {v : List (Str × V)}, RepF F μ H p v → RepF F μ' H' p v
  | _, _, .nil => .nil
  | _, _, .cons a b => .cons (Rep.ext l a) (RepF.ext l b)
theorem RepL.ext (l : Ext F μ H μ' H') : ∀ {p : List PV} {v : List V}, RepL F μ H p v → RepL F μ' H' p v
  | _, _, .nil => .nil
  | _, _, .cons a b => .cons (Rep.ext l a) (RepL.ext l b)
theorem RepK.ext (l : Ext F μ H μ' H') : ∀ {p : List (PV × PV)} {v : List (Key × V)}, RepK F μ H p v → RepK F μ' H' p v
  | _, _, .nil => .nil
  | _, _, .cons e a b => .cons e (Rep.ext l a) (RepK.ext l b)
theorem RepX.ext (l : Ext F μ H μ' H') : ∀ {p : List (PV × PV)} {v : List (NestedKey × Addr × V)}, RepX F μ H p v → RepX F μ' H' p v
  | _, _, .nil => .nil
  | _, _, .cons e d k a b => .cons e d (Rep.ext l k) (Rep.ext l a) (RepX.ext l b)
end
/-- what every step keeps: that, and all that is tracked but not of the store; what is put by stays put by -/
structure Le (F : Fx) (μ : Zn) (H : Hp) (μ' : Zn) (H' : Hp) : Prop where
  ext : Ext F μ H μ' H'
  off : μ'.off = μ.off
  fr : ∀ a o, a ∉ μ.on → H a = some o → a ∉ μ'.on ∧ H' a = some o
  fz : ∀ a o u, H a = some (.frz o u) → H' a = some (.frz o u)
theorem Ext.refl (F : Fx) (μ : Zn) (H : Hp) : Ext F μ H μ H := ⟨⟨[], by simp⟩, fun _ _ h => h, fun _ _ _ h => h, fun _ _ h e => ⟨h, e⟩⟩
theorem Ext.trans {μ'' : Zn} {H'' : Hp} (a : Ext F μ H μ' H') (b : Ext F μ' H' μ'' H'') : Ext F μ H μ'' H'' := by
  obtain ⟨t, e⟩ := a.pre
  obtain ⟨u, f⟩ := b.pre
  refine ⟨⟨t ++ u, by rw [f, e, List.append_assoc]⟩, fun x vs h => b.tup x vs (a.tup x vs h), fun x o vs h => b.scr x o vs (a.scr x o vs h), fun x o h q => ?_⟩
  obtain ⟨h1, q1⟩ := a.no x o h q
  exact b.no x o h1 q1
theorem Le.refl (F : Fx) (μ : Zn) (H : Hp) : Le F μ H μ H := ⟨.refl F μ H, rfl, fun _ _ h e => ⟨h, e⟩, fun _ _ _ e => e⟩
theorem Le.trans {μ'' : Zn} {H'' : Hp} (a : Le F μ H μ' H') (b : Le F μ' H' μ'' H'') : Le F μ H μ'' H'' := by
  refine ⟨a.ext.trans b.ext, b.off.trans a.off, fun x o h q => ?_, fun x o u h => b.fz x o u (a.fz x o u h)⟩
  obtain ⟨h1, q1⟩ := a.fr x o h q
  exact b.fr x o h1 q1
theorem Rep.le (l : Le F μ H μ' H') {p : PV} {v : V} (r : Rep F μ H p v) : Rep F μ' H' p v := r.ext l.ext
theorem RepL.le (l : Le F μ H μ' H') {p : List PV} {v : List V} (r : RepL F μ H p v) : RepL F μ' H' p v := r.ext l.ext
theorem RepK.le (l : Le F μ H μ' H') {p : List (PV × PV)} {v : List (Key × V)} (r : RepK F μ H p v) : RepK F μ' H' p v := r.ext l.ext
theorem RepX.le (l : Le F μ H μ' H') {p : List (PV × PV)} {v : List (NestedKey × Addr × V)} (r : RepX F μ H p v) : RepX F μ' H' p v := r.ext l.ext
theorem RepF.le (l : Le F μ H μ' H') {p : List (Str × PV)} {v : List (Str × V)} (r : RepF F μ H p v) : RepF F μ' H' p v := r.ext l.ext
theorem no_join {on off : List Addr} {c a : Addr} (n : Zn.no ⟨on, c :: off⟩ a) : Zn.no ⟨on ++ [c], off⟩ a := by
  obtain ⟨h1, h2⟩ := n
  simp only [List.mem_cons, not_or] at h2
  refine ⟨?_, h2.2⟩
  show a ∉ on ++ [c]
  rw [List.mem_append, List.mem_singleton]
  rintro (h | h)
  · exact h1 h
  · exact h2.1 h
/-- fewer are put by -/
theorem Ext.fewer {on off off' : List Addr} (hs : ∀ a ∈ off', a ∈ off) : Ext F ⟨on, off⟩ H ⟨on, off'⟩ H :=
  ⟨⟨[], by simp⟩, fun _ _ h => h, fun _ _ _ h => h, fun _ _ n e => ⟨⟨n.1, fun m => n.2 (hs _ m)⟩, e⟩⟩
/-- what was put by joins the store -/
theorem Ext.join {on off : List Addr} {c : Addr} : Ext F ⟨on, c :: off⟩ H ⟨on ++ [c], off⟩ H :=
  ⟨⟨[c], rfl⟩, fun _ _ h => h, fun _ _ _ h => h, fun _ _ n e => ⟨no_join n, e⟩⟩
theorem RepL.length : ∀ {ps : List PV} {vs : List V}, RepL F μ H ps vs → ps.length = vs.length
  | _, _, .nil => rfl
  | _, _, .cons _ b => by simp [RepL.length b]
theorem RepL.get : ∀ {ps : List PV} {vs : List V} {i : Nat} {p : PV}, RepL F μ H ps vs → ps[i]? = some p → ∃ v, vs[i]? = some v ∧ Rep F μ H p v
  | _, _, _, _, .nil, h => by simp at h
  | _, _, 0, _, .cons a _, h => by simp at h; subst h; exact ⟨_, rfl, a⟩
  | _, _, i + 1, p, .cons _ b, h => by
    obtain ⟨v, h1, h2⟩ := RepL.get (i := i) b (by simpa using h)
    exact ⟨v, by simpa using h1, h2⟩
theorem RepL.append : ∀ {ps qs : List PV} {vs ws : List V}, RepL F μ H ps vs → RepL F μ H qs ws → RepL F μ H (ps ++ qs) (vs ++ ws)
  | _, _, _, _, .nil, s => s
  | _, _, _, _, .cons a b, s => .cons a (RepL.append b s)
theorem RepL.take : ∀ {ps : List PV} {vs : List V} (n : Nat), RepL F μ H ps vs → RepL F μ H (ps.take n) (vs.take n)
  | _, _, 0, _ => .nil
  | _, _, _ + 1, .nil => .nil
  | _, _, n + 1, .cons a b => .cons a (RepL.take n b)
theorem RepL.drop : ∀ {ps : List PV} {vs : List V} (n : Nat), RepL F μ H ps vs → RepL F μ H (ps.drop n) (vs.drop n)
  | _, _, 0, r => r
  | _, _, _ + 1, .nil => .nil
  | _, _, n + 1, .cons _ b => RepL.drop n b
theorem RepL.set {p : PV} {v : V} (r : Rep F μ H p v) : ∀ {ps : List PV} {vs : List V} (i : Nat), RepL F μ H ps vs → RepL F μ H (ps.set i p) (vs.set i v)
  | _, _, _, .nil => .nil
  | _, _, 0, .cons _ b => .cons r b
  | _, _, i + 1, .cons a b => .cons a (RepL.set r i b)
theorem RepL.erase : ∀ {ps : List PV} {vs : List V} (i : Nat), RepL F μ H ps vs → RepL F μ H (ps.eraseIdx i) (vs.eraseIdx i)
  | _, _, _, .nil => .nil
  | _, _, 0, .cons _ b => b
  | _, _, i + 1, .cons a b => .cons a (RepL.erase i b)
theorem RepL.reverse {ps : List PV} {vs : List V} (r : RepL F μ H ps vs) : RepL F μ H ps.reverse vs.reverse := by
  have go : ∀ {ps : List PV} {vs : List V}, RepL F μ H ps vs → RepL F μ H ps.reverse vs.reverse := by
    intro ps
    induction ps with
    | nil => intro vs r; cases r; exact .nil
    | cons p ps ih =>
      intro vs r
      cases r with
      | cons a b =>
        rw [List.reverse_cons, List.reverse_cons]
        exact (ih b).append (.cons a .nil)
  exact go r
theorem RepL.dropLast {ps : List PV} {vs : List V} (r : RepL F μ H ps vs) : RepL F μ H ps.dropLast vs.dropLast := by
  rw [List.dropLast_eq_take, List.dropLast_eq_take, r.length]
  exact r.take _
theorem RepL.rep {ps : List PV} {vs : List V} (r : RepL F μ H ps vs) : ∀ k : Nat, RepL F μ H (List.replicate k ps).flatten (List.replicate k vs).flatten
  | 0 => .nil
  | k + 1 => by
    rw [List.replicate_succ, List.replicate_succ, List.flatten_cons, List.flatten_cons]
    exact r.append (RepL.rep r k)

end

/-! ### the store -/
section
variable (F : Fx)
/-- how an object of the store is borne at a -/
def OR (μ : Zn) (H : Hp) (a : Addr) : AO → Prop
  | .lst xs => ∃ vs, H a = some (.lst vs) ∧ RepL F μ H xs vs
  | .dct kvs => (∃ ks, H a = some (.dK ks) ∧ RepK F μ H kvs ks) ∨ ∃ L, H a = some (DX F.P F.w a L) ∧ RepX F μ H kvs L
  | .ldct kvs => (∃ ob ks, H a = some (.frz ob (.dK ks)) ∧ RepK F μ H kvs ks) ∨ ∃ ob L, H a = some (.frz ob (DX F.P F.w a L)) ∧ RepX F μ H kvs L
structure Rel (μ : Zn) (α : AH) (H : Hp) : Prop where
  len : μ.on.length = α.length
  nd : μ.on.Nodup
  obj : ∀ (i : Nat) (a : Addr) (o : AO), μ.on[i]? = some a → α[i]? = some o → OR F μ H a o
  offs : ∀ b ∈ μ.off, b ∉ μ.on ∧ H b ≠ none
end

section
variable {F : Fx} {μ μ' : Zn} {H H' : Hp} {α α' : AH}
theorem Rel.place (r : Rel F μ α H) {i : Nat} {o : AO} (h : α[i]? = some o) : ∃ a, μ.on[i]? = some a ∧ OR F μ H a o := by
  have hi : i < μ.on.length := by rw [r.len]; exact (List.getElem?_eq_some_iff.mp h).1
  exact ⟨μ.on[i], List.getElem?_eq_getElem hi, r.obj i _ o (List.getElem?_eq_getElem hi) h⟩
theorem place_inj {l : List Addr} (nd : l.Nodup) {i j : Nat} {a : Addr} (h : l[i]? = some a) (h' : l[j]? = some a) : i = j :=
  (List.getElem?_inj (List.getElem?_eq_some_iff.mp h).1 nd).mp (h.trans h'.symm)
/-- an object of the store is no tuple, no locked thing, no instance's own dict -/
def Mv : HO → Prop
  | .lst _ => True
  | .dK _ => True
  | .ext _ => True
  | .frz _ (.dK _) => True
  | .frz _ (.ext _) => True
  | _ => False
theorem OR.mv {a : Addr} {o : AO} (h : OR F μ H a o) : ∃ x, H a = some x ∧ Mv x := by
  cases o with
  | lst xs => obtain ⟨vs, e, _⟩ := h; exact ⟨_, e, trivial⟩
  | dct kvs =>
    rcases h with ⟨ks, e, _⟩ | ⟨L, e, _⟩
    · exact ⟨_, e, trivial⟩
    · exact ⟨_, e, trivial⟩
  | ldct kvs =>
    rcases h with ⟨ob, ks, e, _⟩ | ⟨ob, L, e, _⟩
    · exact ⟨_, e, trivial⟩
    · exact ⟨_, e, trivial⟩
theorem Rel.mv (r : Rel F μ α H) {a : Addr} (h : a ∈ μ.on) : ∃ x, H a = some x ∧ Mv x := by
  obtain ⟨i, hi⟩ := List.mem_iff_getElem?.mp h
  have hl : i < α.length := by rw [← r.len]; exact (List.getElem?_eq_some_iff.mp hi).1
  exact (r.obj i a α[i] hi (List.getElem?_eq_getElem hl)).mv
theorem Rel.ntup (r : Rel F μ α H) {a : Addr} {vs : List V} (h : H a = some (.tup vs)) : a ∉ μ.on := fun hm => by
  obtain ⟨x, e, m⟩ := r.mv hm
  rw [h] at e; cases e; exact m
theorem Rel.nown (r : Rel F μ α H) {a b : Addr} (h : H a = some (.own b)) : a ∉ μ.on := fun hm => by
  obtain ⟨x, e, m⟩ := r.mv hm
  rw [h] at e; cases e; exact m
theorem Rel.nfrz (r : Rel F μ α H) {a : Addr} {o : Obj} {u : List V} (h : H a = some (.frz o (.lst u))) : a ∉ μ.on := fun hm => by
  obtain ⟨x, e, m⟩ := r.mv hm
  rw [h] at e; cases e; exact m
theorem Le.mk' (r : Rel F μ α H) (pre : ∃ t, μ'.on = μ.on ++ t) (off : μ'.off = μ.off) (fr : ∀ a o, a ∉ μ.on → H a = some o → a ∉ μ'.on ∧ H' a = some o) (fz : ∀ a o u, H a = some (.frz o u) → H' a = some (.frz o u)) : Le F μ H μ' H' :=
  ⟨⟨pre, fun a vs h => (fr a _ (r.ntup h) h).2, fun a o vs h => (fr a _ (r.nfrz h) h).2, fun a o n h => ⟨⟨(fr a o n.1 h).1, by rw [off]; exact n.2⟩, (fr a o n.1 h).2⟩⟩, off, fr, fz⟩
theorem OR.ext (l : Ext F μ H μ' H') {a : Addr} {o : AO} (h : OR F μ H a o) (k : H' a = H a) (hown : ∀ b x, H b = some (.own x) → H' b = some (.own x)) : OR F μ' H' a o := by
  cases o with
  | lst xs => obtain ⟨vs, e, q⟩ := h; exact ⟨vs, k.trans e, q.ext l⟩
  | dct kvs =>
    rcases h with ⟨ks, e, q⟩ | ⟨L, e, q⟩
    · exact .inl ⟨ks, k.trans e, q.ext l⟩
    · exact .inr ⟨L, k.trans e, q.ext l⟩
  | ldct kvs =>
    rcases h with ⟨ob, ks, e, q⟩ | ⟨ob, L, e, q⟩
    · exact .inl ⟨ob, ks, k.trans e, q.ext l⟩
    · exact .inr ⟨ob, L, k.trans e, q.ext l⟩
theorem OR.nf {a : Addr} {kvs : List (PV × PV)} (h : OR F μ H a (.dct kvs)) : ∀ o u, H a ≠ some (.frz o u) := fun o u e => by
  rcases h with ⟨ks, e1, _⟩ | ⟨L, e1, _⟩ <;> (rw [e1] at e; cases e)
theorem OR.le (l : Le F μ H μ' H') (r : Rel F μ α H) {a : Addr} {o : AO} (h : OR F μ H a o) (k : H' a = H a) : OR F μ' H' a o :=
  h.ext l.ext k fun b x e => (l.fr b _ (r.nown e) e).2
theorem Rel.fewer {on off off' : List Addr} (hs : ∀ a ∈ off', a ∈ off) (r : Rel F ⟨on, off⟩ α H) : Rel F ⟨on, off'⟩ α H :=
  ⟨r.len, r.nd, fun i a o h1 h2 => (r.obj i a o h1 h2).ext (.fewer hs) rfl fun _ _ e => e, fun b hb => r.offs b (hs b hb)⟩
end
end Mw
end
section
set_option Elab.async false
set_option linter.all false
set_option maxRecDepth 100000
set_option maxHeartbeats 1000000
/-! Mwg: what a call or a turn leaves behind is forgotten where nothing speaks of it. -/
namespace Mw
open PySem PySem.Spec PyProof.Rows L2

mutual
/-- it speaks of the first n objects alone -/
def closed (n : Nat) : PV → Bool
  | .ref k => decide (k < n)
  | .tup xs => closedL n xs
  | .fl xs => closedL n xs
  | .scr xs => closedL n xs
  | .fs xs => closedL n xs
  | .fd kvs => closedP n kvs
  | .obj _ fs => closedF n fs
  | .non => true
  | .bl _ => true
  | .int _ => true
  | .str _ => true
  | .st _ => true
termination_by structural p => p
def closedL (n : Nat) : List PV → Bool
  | [] => true
  | p :: ps => closed n p && closedL n ps
termination_by structural p => p
def closedP (n : Nat) : List (PV × PV) → Bool
  | [] => true
  | (k, p) :: ps => (closed n k && closed n p) && closedP n ps
termination_by structural p => p
def closedF (n : Nat) : List (Str × PV) → Bool
  | [] => true
  | (_, p) :: ps => closed n p && closedF n ps
termination_by structural p => p
end
def closedO (n : Nat) : AO → Bool
  | .lst xs => closedL n xs
  | .dct kvs => closedP n kvs
  | .ldct kvs => closedP n kvs
mutual
theorem closed_mono {m n : Nat} (h : m ≤ n) : ∀ p : PV, closed m p = true → closed n p = true
  | .ref k, q => by
    simp only [closed, decide_eq_true_eq] at q ⊢
    omega
  | .tup xs, q => by
    simp only [closed] at q ⊢
    exact closedL_mono h xs q
  | .fl xs, q => by
    simp only [closed] at q ⊢
    exact closedL_mono h xs q
  | .scr xs, q => by
    simp only [closed] at q ⊢
    exact closedL_mono h xs q
  | .fs xs, q => by
    simp only [closed] at q ⊢
    exact closedL_mono h xs q
  | .fd xs, q => by
    simp only [closed] at q ⊢
    exact closedP_mono h xs q
  | .obj _ xs, q => by
    simp only [closed] at q ⊢
    exact closedF_mono h xs q
  | .non, _ => rfl
  | .bl _, _ => rfl
  | .int _, _ => rfl
  | .str _, _ => rfl
  | .st _, _ => rfl
theorem closedL_mono {m n : Nat} (h : m ≤ n) : ∀ p : List PV, closedL m p = true → closedL n p = true
  | [], _ => rfl
  | p :: ps, q => by
    simp only [closedL, Bool.and_eq_true] at q ⊢
    exact ⟨closed_mono h p q.1, closedL_mono h ps q.2⟩
theorem closedP_mono {m n : Nat} (h : m ≤ n) : ∀ p : List (PV × PV), closedP m p = true → closedP n p = true
  | [], _ => rfl
  | (k, p) :: ps, q => by
    simp only [closedP, Bool.and_eq_true] at q ⊢
    exact ⟨⟨closed_mono h k q.1.1, closed_mono h p q.1.2⟩, closedP_mono h ps q.2⟩
theorem closedF_mono {m n : Nat} (h : m ≤ n) : ∀ p : List (Str × PV), closedF m p = true → closedF n p = true
  | [], _ => rfl
  | (k, p) :: ps, q => by
    simp only [closedF, Bool.and_eq_true] at q ⊢
    exact ⟨closed_mono h p q.1, closedF_mono h ps q.2⟩
end
theorem closedL_mem {n : Nat} : ∀ {ps : List PV}, (∀ p ∈ ps, closed n p = true) → closedL n ps = true
  | [], _ => rfl
  | p :: ps, h => by
    simp only [closedL, Bool.and_eq_true]
    exact ⟨h p List.mem_cons_self, closedL_mem fun q hq => h q (List.mem_cons_of_mem _ hq)⟩
theorem closedL_app {n : Nat} : ∀ {ps qs : List PV}, closedL n (ps ++ qs) = (closedL n ps && closedL n qs)
  | [], qs => by simp [closedL]
  | p :: ps, qs => by
    rw [List.cons_append]
    simp only [closedL]
    rw [closedL_app, Bool.and_assoc]
theorem closedP_app {n : Nat} : ∀ {ps qs : List (PV × PV)}, closedP n (ps ++ qs) = (closedP n ps && closedP n qs)
  | [], qs => by simp [closedP]
  | (k, p) :: ps, qs => by
    rw [List.cons_append]
    simp only [closedP]
    rw [closedP_app]
    simp only [Bool.and_assoc]
theorem closedL_map {β : Type} {n : Nat} {f : β → PV} (h : ∀ x, closed n (f x) = true) (xs : List β) : closedL n (xs.map f) = true := closedL_mem fun p hp => by
  obtain ⟨x, _, rfl⟩ := List.mem_map.mp hp
  exact h x
theorem closedP_mem {n : Nat} : ∀ {ps : List (PV × PV)}, (∀ e ∈ ps, closed n e.1 = true ∧ closed n e.2 = true) → closedP n ps = true
  | [], _ => rfl
  | (k, p) :: ps, h => by
    simp only [closedP, Bool.and_eq_true]
    exact ⟨h (k, p) List.mem_cons_self, closedP_mem fun q hq => h q (List.mem_cons_of_mem _ hq)⟩
theorem closedP_map {β : Type} {n : Nat} {f : β → PV × PV} (h : ∀ x, closed n (f x).1 = true ∧ closed n (f x).2 = true) (xs : List β) : closedP n (xs.map f) = true := closedP_mem fun e he => by
  obtain ⟨x, _, rfl⟩ := List.mem_map.mp he
  exact h x

/-- the old objects stand as they stood, or speak of the old ones alone -/
def gcOk (n : Nat) : AH → AH → Bool
  | [], _ => true
  | o0 :: r0, o :: r => (decide (o = o0) || closedO n o) && gcOk n r0 r
  | _ :: _, [] => false
theorem gcOk_refl (n : Nat) : ∀ (α g : AH), gcOk n α (α ++ g) = true
  | [], g => by cases g <;> rfl
  | o :: α, g => by
    rw [List.cons_append]
    simp only [gcOk, decide_true, Bool.true_or, Bool.true_and]
    exact gcOk_refl n α g
theorem gcOk_app (n : Nat) : ∀ (α a b : AH), gcOk n (α ++ a) (α ++ b) = gcOk n a b
  | [], a, b => rfl
  | o :: α, a, b => by
    rw [List.cons_append, List.cons_append]
    simp only [gcOk, decide_true, Bool.true_or, Bool.true_and]
    exact gcOk_app n α a b
/-- what a def hands back: a list or a dict of its own is nobody else's -/
def thaw (n : Nat) (α : AH) (p : PV) : PV := match p with
  | .ref k => if n ≤ k then (match α[k]? with
    | some (.lst xs) => .fl xs
    | some (.dct kvs) => .fd kvs
    | _ => p) else p
  | _ => p
/-- behind a call -/
def thawB (fz : Bool) (n : Nat) (α : AH) (p : PV) : PV := match fz with
  | true => thaw n α p
  | false => p
def gcV (α0 : AH) (fz : Bool) (p : PV) (α : AH) : PV × AH :=
  if α.length ≤ α0.length then (p, α)
  else if (closed α0.length (thawB fz α0.length α p) && gcOk α0.length α0 α) = true then (thawB fz α0.length α p, α.take α0.length) else (p, α)
/-- behind a turn -/
def gcL (α0 : AH) (ρ : List (Option PV)) (α : AH) : List (Option PV) × AH :=
  if α.length ≤ α0.length then (ρ, α)
  else if gcOk α0.length α0 α then (ρ.map fun o => o.filter (closed α0.length), α.take α0.length) else (ρ, α)

section
variable {F : Fx} {μ μ' : Zn} {H H' : Hp} {α α' : AH}
theorem on_lt (e : ∃ t, μ'.on = μ.on ++ t) {k : Nat} {a : Addr} (h : μ'.on[k]? = some a) (hk : k < μ.on.length) : μ.on[k]? = some a := by
  obtain ⟨t, e⟩ := e
  rwa [e, List.getElem?_append_left hk] at h
theorem no_less (e : ∃ t, μ'.on = μ.on ++ t) (f : μ'.off = μ.off) {a : Addr} (h : μ'.no a) : μ.no a := by
  obtain ⟨t, e⟩ := e
  exact ⟨fun m => h.1 (by rw [e]; exact List.mem_append_left _ m), fun m => h.2 (by rw [f]; exact m)⟩
section
variable (e : ∃ t, μ'.on = μ.on ++ t) (f : ∀ a, μ'.no a → μ.no a)
include e f
mutual
theorem Rep.trunc' : ∀ {p : PV} {v : V}, Rep F μ' H' p v → closed μ.on.length p = true → Rep F μ H' p v
  | _, _, .non, _ => .non
  | _, _, .bl b, _ => .bl b
  | _, _, .int i, _ => .int i
  | _, _, .str x, _ => .str x
  | _, _, .tup h r, c => .tup h (RepL.trunc' r (by simpa only [closed] using c))
  | _, _, .tupW h r, c => .tupW h (RepL.trunc' r (by simpa only [closed] using c))
  | _, _, .ref h, c => .ref (on_lt e h (by simpa only [closed, decide_eq_true_eq] using c))
  | _, _, .fl n h r, c => .fl (f _ n) h (RepL.trunc' r (by simpa only [closed] using c))
  | _, _, .scr h r, c => .scr h (RepL.trunc' r (by simpa only [closed] using c))
  | _, _, .fdK n h r, c => .fdK (f _ n) h (RepK.trunc' r (by simpa only [closed] using c))
  | _, _, .fdX n z h r, c => .fdX (f _ n) z h (RepX.trunc' r (by simpa only [closed] using c))
  | _, _, .st i, _ => .st i
  | _, _, .obj n m h k r, c => .obj (f _ n) (f _ m) h k (RepF.trunc' r (by simpa only [closed] using c))
  | _, _, .fs n h pm r, c => .fs (f _ n) h pm (RepS.trunc' r (by simpa only [closed] using c))
theorem RepS.trunc' : ∀ {p : List PV} {v : List (Addr × NestedKey)}, RepS F μ' H' p v → closedL μ.on.length p = true → RepS F μ H' p v
  | _, _, .nil, _ => .nil
  | _, _, .cons q d a b, c => by
    simp only [closedL, Bool.and_eq_true] at c
    exact .cons q d (Rep.trunc' a c.1) (RepS.trunc' b c.2)
theorem RepF.trunc' : ∀ {p : List (Str × PV)} {v : List (Str × V)}, RepF F μ' H' p v → closedF μ.on.length p = true → RepF F μ H' p v
  | _, _, .nil, _ => .nil
  | _, _, .cons a b, c => by
    simp only [closedF, Bool.and_eq_true] at c
    exact .cons (Rep.trunc' a c.1) (RepF.trunc' b c.2)
theorem RepL.trunc' : ∀ {p : List PV} {v : List V}, RepL F μ' H' p v → closedL μ.on.length p = true → RepL F μ H' p v
  | _, _, .nil, _ => .nil
  | _, _, .cons a b, c => by
    simp only [closedL, Bool.and_eq_true] at c
    exact .cons (Rep.trunc' a c.1) (RepL.trunc' b c.2)
theorem RepK.trunc' : ∀ {p : List (PV × PV)} {v : List (Key × V)}, RepK F μ' H' p v → closedP μ.on.length p = true → RepK F μ H' p v
  | _, _, .nil, _ => .nil
  | _, _, .cons q a b, c => by
    simp only [closedP, Bool.and_eq_true] at c
    exact .cons q (Rep.trunc' a c.1.2) (RepK.trunc' b c.2)
theorem RepX.trunc' : ∀ {p : List (PV × PV)} {v : List (NestedKey × Addr × V)}, RepX F μ' H' p v → closedP μ.on.length p = true → RepX F μ H' p v
  | _, _, .nil, _ => .nil
  | _, _, .cons q d k a b, c => by
    simp only [closedP, Bool.and_eq_true] at c
    exact .cons q d (Rep.trunc' k c.1.1) (Rep.trunc' a c.1.2) (RepX.trunc' b c.2)
end
theorem OR.trunc' {a : Addr} {o : AO} (h : OR F μ' H' a o) (c : closedO μ.on.length o = true) : OR F μ H' a o := by
  cases o with
  | lst xs => obtain ⟨vs, q, r⟩ := h; exact ⟨vs, q, r.trunc' e f c⟩
  | dct kvs =>
    rcases h with ⟨ks, q, r⟩ | ⟨L, q, r⟩
    · exact .inl ⟨ks, q, r.trunc' e f c⟩
    · exact .inr ⟨L, q, r.trunc' e f c⟩
  | ldct kvs =>
    rcases h with ⟨ob, ks, q, r⟩ | ⟨ob, L, q, r⟩
    · exact .inl ⟨ob, ks, q, r.trunc' e f c⟩
    · exact .inr ⟨ob, L, q, r.trunc' e f c⟩
end
section
variable (e : ∃ t, μ'.on = μ.on ++ t) (f : μ'.off = μ.off)
include e f
theorem Rep.trunc {p : PV} {v : V} (r : Rep F μ' H' p v) (c : closed μ.on.length p = true) : Rep F μ H' p v := r.trunc' e (fun _ n => no_less e f n) c
theorem RepL.trunc {p : List PV} {v : List V} (r : RepL F μ' H' p v) (c : closedL μ.on.length p = true) : RepL F μ H' p v := r.trunc' e (fun _ n => no_less e f n) c
theorem OR.trunc {a : Addr} {o : AO} (r : OR F μ' H' a o) (c : closedO μ.on.length o = true) : OR F μ H' a o := r.trunc' e (fun _ n => no_less e f n) c
end
mutual
theorem Rep.clo : ∀ {p : PV} {v : V}, Rep F μ H p v → closed μ.on.length p = true
  | _, _, .non => rfl
  | _, _, .bl b => rfl
  | _, _, .int i => rfl
  | _, _, .str x => rfl
  | _, _, .tup h r => by simp only [closed]; exact RepL.clo r
  | _, _, .tupW h r => by simp only [closed]; exact RepL.clo r
  | _, _, .ref h => by simp only [closed, decide_eq_true_eq]; exact (List.getElem?_eq_some_iff.mp h).1
  | _, _, .fl n h r => by simp only [closed]; exact RepL.clo r
  | _, _, .scr h r => by simp only [closed]; exact RepL.clo r
  | _, _, .fdK n h r => by simp only [closed]; exact RepK.clo r
  | _, _, .fdX n z h r => by simp only [closed]; exact RepX.clo r
  | _, _, .st i => rfl
  | _, _, .obj n m h k r => by simp only [closed]; exact RepF.clo r
  | _, _, .fs n h pm r => by simp only [closed]; exact RepS.clo r
theorem RepS.clo : ∀ {p : List PV} {v : List (Addr × NestedKey)}, RepS F μ H p v → closedL μ.on.length p = true
  | _, _, .nil => rfl
  | _, _, .cons q d a b => by simp only [closedL, Bool.and_eq_true]; exact ⟨Rep.clo a, RepS.clo b⟩
theorem RepF.clo : ∀ {p : List (Str × PV)} {v : List (Str × V)}, RepF F μ H p v → closedF μ.on.length p = true
  | _, _, .nil => rfl
  | _, _, .cons a b => by simp only [closedF, Bool.and_eq_true]; exact ⟨Rep.clo a, RepF.clo b⟩
theorem RepL.clo : ∀ {p : List PV} {v : List V}, RepL F μ H p v → closedL μ.on.length p = true
  | _, _, .nil => rfl
  | _, _, .cons a b => by simp only [closedL, Bool.and_eq_true]; exact ⟨Rep.clo a, RepL.clo b⟩
theorem RepK.clo : ∀ {p : List (PV × PV)} {v : List (Key × V)}, RepK F μ H p v → closedP μ.on.length p = true
  | _, _, .nil => rfl
  | _, _, .cons (k := k) q a b => by
    simp only [closedP, Bool.and_eq_true]
    refine ⟨⟨?_, Rep.clo a⟩, RepK.clo b⟩
    cases k <;> first | (simp [keyOf] at q; done) | rfl
theorem RepX.clo : ∀ {p : List (PV × PV)} {v : List (NestedKey × Addr × V)}, RepX F μ H p v → closedP μ.on.length p = true
  | _, _, .nil => rfl
  | _, _, .cons q d k a b => by simp only [closedP, Bool.and_eq_true]; exact ⟨⟨Rep.clo k, Rep.clo a⟩, RepX.clo b⟩
end
theorem OR.clo {a : Addr} {o : AO} (h : OR F μ H a o) : closedO μ.on.length o = true := by
  cases o with
  | lst xs => obtain ⟨vs, q, r⟩ := h; exact r.clo
  | dct kvs =>
    rcases h with ⟨ks, q, r⟩ | ⟨L, q, r⟩
    · exact r.clo
    · exact r.clo
  | ldct kvs =>
    rcases h with ⟨ob, ks, q, r⟩ | ⟨ob, L, q, r⟩
    · exact r.clo
    · exact r.clo
theorem gcOk_at {n : Nat} : ∀ {α0 α : AH}, gcOk n α0 α = true → ∀ (i : Nat) o, α[i]? = some o → i < α0.length → α0[i]? = some o ∨ closedO n o = true
  | [], _, _, i, o, _, hi => by simp at hi
  | o0 :: r0, [], h, _, _, _, _ => by simp [gcOk] at h
  | o0 :: r0, x :: r, h, i, o, ho, hi => by
    simp only [gcOk, Bool.and_eq_true, Bool.or_eq_true, decide_eq_true_eq] at h
    cases i with
    | zero =>
      simp at ho
      subst ho
      rcases h.1 with e | e
      · subst e; exact .inl rfl
      · exact .inr e
    | succ i => exact gcOk_at h.2 i o (by simpa using ho) (by simpa using hi)
/-- the new objects forgotten -/
theorem gc_step (l : Le F μ H μ' H') (r0 : Rel F μ α H) (r : Rel F μ' α' H') (ok : gcOk α.length α α' = true) (hl : α.length ≤ α'.length) : Le F μ H μ H' ∧ Rel F μ (α'.take α.length) H' := by
  have hn := r0.len
  refine ⟨⟨⟨⟨[], by simp⟩, l.ext.tup, l.ext.scr, fun a o n h => ⟨n, (l.ext.no a o n h).2⟩⟩, rfl, fun a o n h => ⟨n, (l.fr a o n h).2⟩, l.fz⟩, ?_⟩
  refine ⟨by rw [List.length_take]; omega, r0.nd, fun i a o h1 h2 => ?_, fun b hb => ?_⟩
  · have hi : i < μ.on.length := (List.getElem?_eq_some_iff.mp h1).1
    rw [List.getElem?_take_of_lt (by omega)] at h2
    have q := r.obj i a o (l.ext.at h1) h2
    refine q.trunc l.ext.pre l.off ?_
    rcases gcOk_at ok i o h2 (by omega) with z | z
    · obtain ⟨b, hb, ob⟩ := r0.place z
      exact ob.clo
    · rw [hn]; exact z
  · obtain ⟨h1, h2⟩ := r.offs b (by rw [l.off]; exact hb)
    exact ⟨fun m => h1 (by obtain ⟨t, e⟩ := l.ext.pre; rw [e]; exact List.mem_append_left _ m), h2⟩
/-- P of the heap, or of the heap with a dict locked for good -/
def LockP (F : Fx) (H : Hp) (P : Hp → Prop) : Prop :=
  P H ∨ (∃ a u, H a = some u ∧ ((∃ ks, u = .dK ks) ∨ ∃ L, u = DX F.P F.w a L) ∧ ∀ ob, P (upd H a (.frz ob u))) ∨ ∃ a, H a = some (DX F.P F.w a []) ∧ ∀ ob, P (upd H a (.frz ob (.dK [])))
/-- what is not of the store is locked -/
theorem lock_ext {a : Addr} {o : HO} {x : HO} (h : H a = some x) (hx : (∃ ks, x = .dK ks) ∨ ∃ L, x = DX F.P F.w a L) {on off : List Addr} (ho : a ∈ off) : Ext F ⟨on, off⟩ H ⟨on, off⟩ (upd H a o) := by
  have q1 : ∀ vs, x ≠ .tup vs := fun vs e => by subst e; rcases hx with ⟨_, z⟩ | ⟨_, z⟩ <;> cases z
  have q2 : ∀ b u, x ≠ .frz b u := fun b u e => by subst e; rcases hx with ⟨_, z⟩ | ⟨_, z⟩ <;> cases z
  refine ⟨⟨[], by simp⟩, fun b vs e => ?_, fun b ob vs e => ?_, fun b y n e => ⟨n, ?_⟩⟩
  · rw [upd_ne (fun z => by rw [z, h] at e; cases e; exact q1 _ rfl)]; exact e
  · rw [upd_ne (fun z => by rw [z, h] at e; cases e; exact q2 _ _ rfl)]; exact e
  · rw [upd_ne (fun z => n.2 (by rw [z]; exact ho))]; exact e
/-- a new dict that is put by is locked for good -/
theorem lock_new {H0 : Hp} {μ0 : Zn} {α0 : AH} {on off : List Addr} {a : Addr} {kvs : List (PV × PV)} (r0 : Rel F μ0 α0 H0) (l : Le F μ0 H0 ⟨on, off⟩ H) (r : Rel F ⟨on, a :: off⟩ α H) (h0 : H0 a = none) (hn : a ∉ on) (hna : a ∉ off)
    (o : OR F ⟨on, a :: off⟩ H a (.dct kvs)) {P : Hp → Prop} (h : ∀ H2, Le F μ0 H0 ⟨on, off⟩ H2 → Rel F ⟨on, off⟩ α H2 → Rep F ⟨on, off⟩ H2 (.fd kvs) (.ref a) → P H2) : LockP F H P := by
  have go : ∀ {x y : HO}, H a = some x → ((∃ ks, x = .dK ks) ∨ ∃ L, x = DX F.P F.w a L) → (∀ H2, H2 a = some y → Ext F ⟨on, a :: off⟩ H ⟨on, off⟩ H2 → Rep F ⟨on, off⟩ H2 (.fd kvs) (.ref a)) → P (upd H a y) := by
    intro x y hx kx hr
    have e1 : Ext F ⟨on, a :: off⟩ H ⟨on, a :: off⟩ (upd H a y) := lock_ext hx kx List.mem_cons_self
    have e2 : Ext F ⟨on, a :: off⟩ H ⟨on, off⟩ (upd H a y) := e1.trans (.fewer fun b hb => List.mem_cons_of_mem _ hb)
    refine h _ ?_ ?_ (hr _ upd_same e2)
    · refine Le.mk' r0 l.ext.pre l.off (fun b z n e => ?_) fun b z u e => ?_
      · obtain ⟨h1, h2⟩ := l.fr b z n e
        exact ⟨h1, by rw [upd_ne (fun q => by rw [q, h0] at e; cases e)]; exact h2⟩
      · rw [upd_ne (fun q => by rw [q, h0] at e; cases e)]; exact l.fz b z u e
    · refine ⟨r.len, r.nd, fun i b z h1 h2 => ?_, fun b hb => ?_⟩
      · refine (r.obj i b z h1 h2).ext e2 (upd_ne fun q => hn (by rw [← q]; exact List.mem_of_getElem? h1)) fun c w e => ?_
        rw [upd_ne (fun q => by rw [q, hx] at e; rcases kx with ⟨_, z⟩ | ⟨_, z⟩ <;> (subst z; cases e))]
        exact e
      · obtain ⟨h1, h2⟩ := r.offs b (List.mem_cons_of_mem _ hb)
        refine ⟨h1, ?_⟩
        show upd H a y b ≠ none
        by_cases q : b = a
        · subst q; rw [upd_same]; simp
        · rw [upd_ne q]; exact h2
  have hno : Zn.no ⟨on, off⟩ a := ⟨hn, hna⟩
  rcases o with ⟨ks, e, q⟩ | ⟨L, e, q⟩
  · exact .inr (.inl ⟨a, _, e, .inl ⟨ks, rfl⟩, fun ob => go e (.inl ⟨ks, rfl⟩) fun H2 h2 x => .fdK hno h2 (q.ext x)⟩)
  · cases q with
    | nil => exact .inr (.inr ⟨a, e, fun ob => go e (.inr ⟨[], rfl⟩) fun H2 h2 x => .fdK hno h2 .nil⟩)
    | cons z1 z2 z3 z4 z5 => exact .inr (.inl ⟨a, _, e, .inr ⟨_, rfl⟩, fun ob => go e (.inr ⟨_, rfl⟩) fun H2 h2 x => .fdX hno (by simp) h2 (RepX.ext x (.cons z1 z2 z3 z4 z5))⟩)
theorem gcV_ok (l : Le F μ H μ' H') (r0 : Rel F μ α H) (r : Rel F μ' α' H') {p : PV} {v : V} {fz : Bool} (rp : Rep F μ' H' p v) {P : Hp → Prop}
    (h : ∀ μ2 H2, Le F μ H μ2 H2 → Rel F μ2 (gcV α fz p α').2 H2 → Rep F μ2 H2 (gcV α fz p α').1 v → P H2) : LockP F H' P := by
  unfold gcV at h
  split at h
  · exact .inl (h μ' H' l r rp)
  · rename_i hl
    split at h
    · rename_i hc
      rw [Bool.and_eq_true] at hc
      obtain ⟨hc, hg⟩ := hc
      obtain ⟨a, b⟩ := gc_step l r0 r hg (by omega)
      have hn := r0.len
      cases fz with
      | false => exact .inl (h μ H' a b (rp.trunc l.ext.pre l.off (by rw [hn]; exact hc)))
      | true =>
        have hc : closed α.length (thaw α.length α' p) = true := hc
        have h : ∀ μ2 H2, Le F μ H μ2 H2 → Rel F μ2 (α'.take α.length) H2 → Rep F μ2 H2 (thaw α.length α' p) v → P H2 := h
        have plain : thaw α.length α' p = p → LockP F H' P := fun e => .inl (h μ H' a b (by rw [e] at hc ⊢; exact rp.trunc l.ext.pre l.off (by rw [hn]; exact hc)))
        cases p with
        | ref k =>
          by_cases hk : α.length ≤ k
          · cases rp with
            | ref hx =>
              rename_i c _
              have cnon : μ.no c := by
                refine ⟨fun m => ?_, fun m => ?_⟩
                · obtain ⟨i, hi⟩ := List.mem_iff_getElem?.mp m
                  have hi' := (List.getElem?_eq_some_iff.mp hi).1
                  have := place_inj r.nd hx (l.ext.at hi)
                  omega
                · exact (r.offs c (by rw [l.off]; exact m)).1 (List.mem_of_getElem? hx)
              have c0 : H c = none := by
                cases e : H c with
                | none => rfl
                | some o => exact absurd (List.mem_of_getElem? hx) (l.fr c o cnon.1 e).1
              cases ha : α'[k]? with
              | none =>
                exact plain (by simp [thaw, hk, ha])
              | some o =>
                have q := r.obj k c o hx ha
                cases o with
                | lst xs =>
                  have e : thaw α.length α' (.ref k) = .fl xs := by simp [thaw, hk, ha]
                  rw [e] at hc h
                  simp only [closed] at hc
                  obtain ⟨vs, e, rl⟩ := q
                  exact .inl (h μ H' a b (.fl cnon e (rl.trunc l.ext.pre l.off (by rw [hn]; exact hc))))
                | dct kvs =>
                  have e : thaw α.length α' (.ref k) = .fd kvs := by simp [thaw, hk, ha]
                  rw [e] at hc h
                  simp only [closed] at hc
                  have q' : OR F μ H' c (.dct kvs) := q.trunc l.ext.pre l.off (by rw [hn]; exact hc)
                  have bq : Rel F ⟨μ.on, c :: μ.off⟩ (α'.take α.length) H' := by
                    have xe : Ext F μ H' ⟨μ.on, c :: μ.off⟩ H' → Rel F ⟨μ.on, c :: μ.off⟩ (α'.take α.length) H' := fun xe => ⟨b.len, b.nd, fun i d z h1 h2 => (b.obj i d z h1 h2).ext xe rfl fun _ _ e => e, fun d hd => by
                      rcases List.mem_cons.mp hd with e | hd
                      · subst e
                        refine ⟨cnon.1, ?_⟩
                        obtain ⟨y, ey, _⟩ := q.mv
                        rw [ey]; simp
                      · exact b.offs d hd⟩
                    -- no value speaks of it: they are of the heap ahead of the call, or of what is closed
                    refine ⟨b.len, b.nd, fun i d z h1 h2 => ?_, fun d hd => ?_⟩
                    · have h1 : μ.on[i]? = some d := h1
                      have h3 := b.obj i d z h1 h2
                      have h2' : α'[i]? = some z := by
                        have := (List.getElem?_eq_some_iff.mp h1).1
                        rw [List.getElem?_take_of_lt (by omega)] at h2
                        exact h2
                      have h4 := r.obj i d z (l.ext.at h1) h2'
                      have clo : closedO μ.on.length z = true := by
                        rcases gcOk_at hg i z h2' (by have := (List.getElem?_eq_some_iff.mp h1).1; omega) with y | y
                        · obtain ⟨b', hb', ob'⟩ := r0.place y
                          exact ob'.clo
                        · rw [hn]; exact y
                      have e2 : ∃ t, μ'.on = (Zn.mk μ.on (c :: μ.off)).on ++ t := l.ext.pre
                      exact h4.trunc' (μ := ⟨μ.on, c :: μ.off⟩) e2 (fun d hd => ⟨fun m => hd.1 (by obtain ⟨t, e⟩ := l.ext.pre; rw [e]; exact List.mem_append_left _ m), fun m => by
                        rcases List.mem_cons.mp m with e | m
                        · exact hd.1 (by rw [e]; exact List.mem_of_getElem? hx)
                        · exact hd.2 (by rw [l.off]; exact m)⟩) clo
                    · rcases List.mem_cons.mp hd with e | hd
                      · subst e
                        refine ⟨cnon.1, ?_⟩
                        obtain ⟨y, ey, _⟩ := q.mv
                        rw [ey]; simp
                      · exact b.offs d hd
                  have q2 : OR F ⟨μ.on, c :: μ.off⟩ H' c (.dct kvs) := by
                    have e2 : ∃ t, μ'.on = (Zn.mk μ.on (c :: μ.off)).on ++ t := l.ext.pre
                    exact q.trunc' (μ := ⟨μ.on, c :: μ.off⟩) e2 (fun d hd => ⟨fun m => hd.1 (by obtain ⟨t, e⟩ := l.ext.pre; rw [e]; exact List.mem_append_left _ m), fun m => by
                        rcases List.mem_cons.mp m with e | m
                        · exact hd.1 (by rw [e]; exact List.mem_of_getElem? hx)
                        · exact hd.2 (by rw [l.off]; exact m)⟩) (by show closedP μ.on.length kvs = true; rw [hn]; exact hc)
                  exact lock_new (on := μ.on) (off := μ.off) r0 a bq c0 cnon.1 cnon.2 q2 fun H2 a2 b2 c2 => h μ H2 a2 b2 c2
                | ldct kvs => exact plain (by simp [thaw, hk, ha])
          · exact plain (by simp [thaw, hk])
        | _ => exact plain rfl
    · exact .inl (h μ' H' l r rp)
end
end Mw
end
section
set_option Elab.async false
set_option linter.all false
set_option maxRecDepth 100000
set_option maxHeartbeats 1000000
/-! Mw2: results, what a reading says of a denotation, the first judgements. -/
namespace Mw
open PySem PySem.Spec PyProof.Rows L2

/-- what an evaluation comes to: a value; an error of the c-th class with its arguments; nothing that is spoken of -/
inductive Res (β : Type) where
  | ok (a : β) (h : AH)
  | err (c : Nat) (xs : List PV) (h : AH)
  | bad
namespace Res
def bind {β γ : Type} (r : Res β) (f : β → AH → Res γ) : Res γ := match r with
  | .ok a h => f a h
  | .err c xs h => .err c xs h
  | .bad => .bad
@[simp] theorem ok_bind {β γ : Type} (a : β) (h : AH) (f : β → AH → Res γ) : (Res.ok a h).bind f = f a h := rfl
@[simp] theorem err_bind {β γ : Type} (c : Nat) (xs : List PV) (h : AH) (f : β → AH → Res γ) : (Res.err c xs h).bind f = .err c xs h := rfl
@[simp] theorem bad_bind {β γ : Type} (f : β → AH → Res γ) : (Res.bad : Res β).bind f = .bad := rfl
end Res
/-- the locals by slot -/
abbrev Loc' := List (Option PV)

section
variable (F : Fx)
def EnvR (μ : Zn) (H : Hp) (ρ : Loc') (σ : L2.St) : Prop :=
  ρ.length = σ.length ∧ ∀ (i : Nat) (p : PV), ρ[i]? = some (some p) → ∃ v, σ[i]? = some (some v) ∧ Rep F μ H p v
def Post {β γ : Type} (μ : Zn) (H : Hp) (r : Res β) (R : Zn → Hp → β → γ → Prop) (Q : γ → Hp → Prop) : Prop :=
  match r with
  | .ok p α' => ∀ μ' H' v, Le F μ H μ' H' → Rel F μ' α' H' → R μ' H' p v → Q v H'
  | .err _ _ _ => False
  | .bad => False
def At {β γ : Type} (μ : Zn) (ρ : Loc') (σ : L2.St) (α : AH) (H : Hp) (r : Res β) (R : Zn → Hp → β → γ → Prop) (Q : γ → Hp → Prop) : Prop :=
  Rel F μ α H ∧ EnvR F μ H ρ σ ∧ Post F μ H r R Q
/-- a reading by a denotation -/
def tR {β γ : Type} (R : Zn → Hp → β → γ → Prop) (m : Loc' → AH → Res β)   : L2.St → Hp → (γ → Hp → Prop) → Prop :=
  fun σ H Q => ∃ μ ρ α, At F μ ρ σ α H (m ρ α) R Q
abbrev Den := Loc' → AH → Res PV
abbrev tE (m : Den) : TE := tR F (Rep F) m
abbrev tAs (m : Loc' → AH → Res (List PV)) : TA := tR F (RepL F) m
abbrev tB' (m : Loc' → AH → Res Bool) : TT := tR F (fun _ _ b c => b = c) m
end

section
variable {F : Fx} {μ μ' : Zn} {H H' : Hp} {α α' : AH} {ρ : Loc'} {σ : L2.St}
theorem EnvR.le (l : Le F μ H μ' H') (e : EnvR F μ H ρ σ) : EnvR F μ' H' ρ σ :=
  ⟨e.1, fun i p h => let ⟨v, h1, h2⟩ := e.2 i p h; ⟨v, h1, h2.le l⟩⟩
theorem EnvR.set {p : PV} {v : V} {i : Nat} (e : EnvR F μ H ρ σ) (r : Rep F μ H p v) : EnvR F μ H (ρ.set i (some p)) (σ.set i (some v)) := by
  refine ⟨by simp [e.1], fun j q h => ?_⟩
  by_cases hj : i = j
  · subst hj
    by_cases hl : i < ρ.length
    · rw [List.getElem?_set_self hl] at h
      cases h
      exact ⟨v, List.getElem?_set_self (by rw [← e.1]; exact hl), r⟩
    · rw [List.getElem?_eq_none (by simpa using hl)] at h; cases h
  · rw [List.getElem?_set_ne hj] at h ⊢
    exact e.2 j q h
theorem EnvR.wipe {vs : List Nat} (e : EnvR F μ H ρ σ) : ∀ {ρ' : Loc'}, ρ'.length = ρ.length → (∀ i p, ρ'[i]? = some (some p) → ρ[i]? = some (some p) ∧ i ∉ vs) → EnvR F μ H ρ' (L2.wipe σ vs) := by
  intro ρ' hl h
  refine ⟨by rw [hl, L2.wipe_length, e.1], fun i p hp => ?_⟩
  obtain ⟨h1, h2⟩ := h i p hp
  obtain ⟨v, h3, h4⟩ := e.2 i p h1
  refine ⟨v, ?_, h4⟩
  rw [L2.wipe_out h2]; exact h3

theorem gcL_ok (l : Le F μ H μ' H') (r0 : Rel F μ α H) (r : Rel F μ' α' H') (e : EnvR F μ' H' ρ σ) : ∃ μ2, Le F μ H μ2 H' ∧ Rel F μ2 (gcL α ρ α').2 H' ∧ EnvR F μ2 H' (gcL α ρ α').1 σ := by
  unfold gcL
  split
  · exact ⟨μ', l, r, e⟩
  · rename_i hl
    split
    · rename_i h
      obtain ⟨a, b⟩ := gc_step l r0 r h (by omega)
      refine ⟨μ, a, b, by simp [e.1], fun i p hp => ?_⟩
      have hp : (ρ.map fun o => o.filter (closed α.length))[i]? = some (some p) := hp
      rw [List.getElem?_map] at hp
      cases hi : ρ[i]? with
      | none => rw [hi] at hp; cases hp
      | some o =>
        rw [hi, Option.map_some, Option.some.injEq] at hp
        cases o with
        | none => cases hp
        | some q =>
          have hq := Option.filter_eq_some_iff.mp hp
          obtain ⟨h1, h2⟩ := hq
          cases h1
          obtain ⟨v, h3, h4⟩ := e.2 i p hi
          exact ⟨v, h3, h4.trunc l.ext.pre l.off (by rw [r0.len]; exact h2)⟩
    · exact ⟨μ', l, r, e⟩
theorem Post.ok {β γ : Type} {R : Zn → Hp → β → γ → Prop} {Q : γ → Hp → Prop} {r : Res β} {p : β} (h : Post F μ H r R Q) (e : r = .ok p α') : ∀ μ' H' v, Le F μ H μ' H' → Rel F μ' α' H' → R μ' H' p v → Q v H' := by
  subst e; exact h
theorem Post.from {β γ : Type} {R : Zn → Hp → β → γ → Prop} {Q : γ → Hp → Prop} {r : Res β} (l : Le F μ H μ' H') (h : Post F μ H r R Q) : Post F μ' H' r R Q := by
  cases r with
  | ok p a => exact fun μ'' H'' v l' r' q => h μ'' H'' v (l.trans l') r' q
  | err c xs a => exact h
  | bad => exact h
theorem Post.imp {β γ : Type} {R : Zn → Hp → β → γ → Prop} {Q Q' : γ → Hp → Prop} {r : Res β} (h : Post F μ H r R Q) (hi : ∀ v H', Q v H' → Q' v H') : Post F μ H r R Q' := by
  cases r with
  | ok p a => exact fun μ'' H'' v l' r' q => hi _ _ (h μ'' H'' v l' r' q)
  | err c xs a => exact h
  | bad => exact h
/-- first m, then n -/
theorem At.bind {β γ δ ε : Type} {R1 : Zn → Hp → β → γ → Prop} {R2 : Zn → Hp → δ → ε → Prop} {r : Res β} {n : β → AH → Res δ} {Q : ε → Hp → Prop} (h : At F μ ρ σ α H (r.bind n) R2 Q) :
    At F μ ρ σ α H r R1 (fun v H1 => ∃ p μ1 α1, Le F μ H μ1 H1 ∧ R1 μ1 H1 p v ∧ At F μ1 ρ σ α1 H1 (n p α1) R2 Q) := by
  obtain ⟨rel, env, post⟩ := h
  refine ⟨rel, env, ?_⟩
  cases r with
  | ok p α1 => exact fun μ1 H1 v l r1 q => ⟨p, μ1, α1, l, q, r1, env.le l, Post.from l post⟩
  | err c xs a => exact post
  | bad => exact post

/-! ### weaker readings -/
variable {X : Cx} {e : Expr} {st : Stmt} {sts : List Stmt}
theorem pe_imp {t t' : TE} (h : PE X e t) (hi : ∀ σ H Q, t' σ H Q → t σ H Q) : PE X e t' := ⟨fun pins s σ H Q I q => h.run pins s σ H Q I (hi σ H Q q)⟩
theorem pt_imp {t t' : TT} (h : PT X e t) (hi : ∀ σ H Q, t' σ H Q → t σ H Q) : PT X e t' := ⟨fun pins s σ H Q I q => h.run pins s σ H Q I (hi σ H Q q)⟩
theorem pw_imp {t t' : TT} (h : PW X e t) (hi : ∀ σ H Q, t' σ H Q → t σ H Q) : PW X e t' := ⟨fun wh pins s σ H Q I q => h.run wh pins s σ H Q I (hi σ H Q q)⟩
theorem pa_imp {es : List Expr} {t t' : TA} (h : PA X es t) (hi : ∀ σ H Q, t' σ H Q → t σ H Q) : PA X es t' := ⟨fun pos pins s σ H Q I q => h.run pos pins s σ H Q I (hi σ H Q q)⟩
theorem ps_imp {t t' : TS} (h : PS X st t) (hi : ∀ D σ H, t' D σ H → t D σ H) : PS X st t' := ⟨fun pins s σ H D I q => h.run pins s σ H D I (hi D σ H q)⟩
theorem pss_imp {t t' : TS} (h : PSs X sts t) (hi : ∀ D σ H, t' D σ H → t D σ H) : PSs X sts t' := ⟨fun pins s σ H D I q => h.run pins s σ H D I (hi D σ H q)⟩
theorem op_imp {f : Value → Value → Sem Value} {r r' : R2} (h : OpR X f r) (hi : ∀ x y H Q, r' x y H Q → r x y H Q) : OpR X f r' :=
  fun pins s σ H x y v u Q I rx ry q => h pins s σ H x y v u Q I rx ry (hi x y H Q q)
theorem cr_imp {f : Value} {r r' : List V → Hp → VK → Prop} (h : CallR X f r) (hi : ∀ xs H Q, r' xs H Q → r xs H Q) : CallR X f r' :=
  fun pins s σ H vs us Q I rx q => h pins s σ H vs us Q I rx (hi vs H Q q)

/-! ### new things -/
theorem fresh_non (r : Rel F μ α H) {p : Addr} (hp : H p = none) : p ∉ μ.on := fun hm => by
  obtain ⟨x, e, _⟩ := r.mv hm
  rw [hp] at e; cases e
theorem upd_keep {p : Addr} {o : HO} (hp : H p = none) : ∀ a x, H a = some x → upd H p o a = some x := fun a x e => by
  rw [upd_ne (ne_of_none e hp)]; exact e
theorem upd_some {p b : Addr} {o : HO} (h : H b ≠ none) : upd H p o b ≠ none := by
  by_cases e : b = p
  · subst e; rw [upd_same]; simp
  · rw [upd_ne e]; exact h
/-- a new thing at p, not of the store -/
theorem new_step (r : Rel F μ α H) {p : Addr} {o : HO} (hp : H p = none) : Le F μ H μ (upd H p o) ∧ Rel F μ α (upd H p o) := by
  have hn := fresh_non r hp
  have l : Le F μ H μ (upd H p o) := Le.mk' r ⟨[], by simp⟩ rfl (fun a x n e => ⟨n, upd_keep hp a x e⟩) fun a o u e => upd_keep hp a _ e
  exact ⟨l, r.len, r.nd, fun i a ob h1 h2 => (r.obj i a ob h1 h2).le l r (upd_ne fun e => hn (e ▸ List.mem_of_getElem? h1)), fun b hb => ⟨(r.offs b hb).1, upd_some (r.offs b hb).2⟩⟩
/-- .. and put by -/
theorem by_step {on off : List Addr} (r : Rel F ⟨on, off⟩ α H) {p : Addr} {o : HO} (hp : H p = none) :
    Ext F ⟨on, off⟩ H ⟨on, p :: off⟩ (upd H p o) ∧ Rel F ⟨on, p :: off⟩ α (upd H p o) := by
  have hn := fresh_non r hp
  obtain ⟨l, _⟩ := new_step r hp
  have nx : ∀ a x, Zn.no ⟨on, off⟩ a → H a = some x → Zn.no ⟨on, p :: off⟩ a := fun a x n e => ⟨n.1, fun hm => by
    rcases List.mem_cons.mp hm with h | h
    · rw [h, hp] at e; cases e
    · exact n.2 h⟩
  have ex : Ext F ⟨on, off⟩ H ⟨on, p :: off⟩ (upd H p o) := by
    exact ⟨⟨[], by simp⟩, l.ext.tup, l.ext.scr, fun a x n e => ⟨nx a x n e, upd_keep hp a x e⟩⟩
  refine ⟨ex, r.len, r.nd, fun i a ob h1 h2 => (r.obj i a ob h1 h2).ext ex (upd_ne fun e => hn (e ▸ List.mem_of_getElem? h1)) fun b x e => upd_keep hp b _ e, fun b hb => ?_⟩
  rcases List.mem_cons.mp hb with e | hb
  · subst e; exact ⟨hn, by rw [upd_same]; simp⟩
  · exact ⟨(r.offs b hb).1, upd_some (r.offs b hb).2⟩
/-- what was put by joins the store -/
theorem join_step {H0 : Hp} {μ0 : Zn} {α0 : AH} {on off : List Addr} (r0 : Rel F μ0 α0 H0) {a : Addr} {ao : AO} (l : Le F μ0 H0 ⟨on, off⟩ H) (r : Rel F ⟨on, a :: off⟩ α H) (h0 : H0 a = none) (hn : a ∉ on) (hna : a ∉ off)
    (ho : OR F ⟨on, a :: off⟩ H a ao) : Le F μ0 H0 ⟨on ++ [a], off⟩ H ∧ Rel F ⟨on ++ [a], off⟩ (α ++ [ao]) H := by
  have rl : on.length = α.length := r.len
  have r' : Rel F ⟨on ++ [a], off⟩ (α ++ [ao]) H := by
    refine ⟨by simp [rl], ?_, fun i b o h1 h2 => ?_, fun b hb => ?_⟩
    · show (on ++ [a]).Nodup
      rw [List.nodup_append]
      exact ⟨r.nd, by simp, fun x hx y hy e => by simp at hy; subst hy; subst e; exact hn hx⟩
    · have h1 : (on ++ [a])[i]? = some b := h1
      by_cases hi : i < on.length
      · rw [List.getElem?_append_left hi] at h1
        rw [List.getElem?_append_left (by rw [← rl]; exact hi)] at h2
        exact (r.obj i b o h1 h2).ext .join rfl fun _ _ e => e
      · have hi' : i = on.length := by
          have := (List.getElem?_eq_some_iff.mp h1).1
          simp at this; omega
        subst hi'
        rw [List.getElem?_concat_length] at h1
        rw [rl, List.getElem?_concat_length] at h2
        cases h1; cases h2; exact ho.ext .join rfl fun _ _ e => e
    · have hb : b ∈ off := hb
      obtain ⟨h1, h2⟩ := r.offs b (List.mem_cons_of_mem _ hb)
      refine ⟨fun hm => ?_, h2⟩
      rcases List.mem_append.mp hm with hm | hm
      · exact h1 hm
      · simp at hm; subst hm; exact hna hb
  refine ⟨Le.mk' r0 ?_ l.off (fun b o n e => ?_) l.fz, r'⟩
  · obtain ⟨t, e⟩ := l.ext.pre
    exact ⟨t ++ [a], by show on ++ [a] = _; rw [show on = μ0.on ++ t from e, List.append_assoc]⟩
  · obtain ⟨h1, h2⟩ := l.fr b o n e
    refine ⟨fun hm => ?_, h2⟩
    rcases List.mem_append.mp hm with hm | hm
    · exact h1 hm
    · simp at hm; subst hm; rw [h0] at e; cases e
/-- an object of the store is changed -/
theorem put_step (r : Rel F μ α H) {i : Nat} {a : Addr} {o' : HO} {ao : AO} (hi : μ.on[i]? = some a) (hnf : ∀ o u, H a ≠ some (.frz o u))
    (ho : Le F μ H μ (upd H a o') → OR F μ (upd H a o') a ao) : Le F μ H μ (upd H a o') ∧ Rel F μ (α.set i ao) (upd H a o') := by
  have ham : a ∈ μ.on := List.mem_of_getElem? hi
  have l : Le F μ H μ (upd H a o') := Le.mk' r ⟨[], by simp⟩ rfl (fun b x n e => ⟨n, by rw [upd_ne (fun z => n (by rw [z]; exact ham))]; exact e⟩) fun b o u e => by rw [upd_ne (fun z => hnf o u (by rw [← z]; exact e))]; exact e
  refine ⟨l, by simp [r.len], r.nd, fun j b ob h1 h2 => ?_, fun b hb => ⟨(r.offs b hb).1, upd_some (r.offs b hb).2⟩⟩
  by_cases hj : j = i
  · subst hj
    rw [hi] at h1; cases h1
    have hl : j < α.length := by rw [← r.len]; exact (List.getElem?_eq_some_iff.mp hi).1
    rw [List.getElem?_set_self hl] at h2
    cases h2
    exact ho l
  · rw [List.getElem?_set_ne (fun e => hj e.symm)] at h2
    exact (r.obj j b ob h1 h2).le l r (upd_ne fun e => hj (place_inj r.nd (e ▸ h1) hi))
end
end Mw
end
section
set_option Elab.async false
set_option linter.all false
set_option maxRecDepth 100000
/-! Mw3: the operations on pure values, the small language, what its terms denote. -/
namespace Mw
open PySem PySem.Spec PyProof.Rows L2

/-! ### values as data -/
mutual
def toP : PV → Option PyData
  | .non => some .none
  | .bl b => some (.bool b)
  | .int i => some (.int i)
  | .str x => some (.str x)
  | .tup xs => (toPs xs).map .tuple
  | .fl xs => (toPs xs).map .list
  | .scr xs => (toPs xs).map .list
  | _ => none
termination_by structural p => p
def toPs : List PV → Option (List PyData)
  | [] => some []
  | p :: ps => (toP p).bind fun d => (toPs ps).map (d :: ·)
termination_by structural p => p
end
/-- .. a list of the store, too -/
def toA (α : AH) (p : PV) : Option PyData :=
  match p with
  | .ref k => match α[k]? with
    | some (.lst xs) => (toPs xs).map .list
    | _ => none
  | p => toP p
/-- data that may be compared -/
def toS (α : AH) (p : PV) : Option PyData := (toA α p).filter SeqAt.shaped
/-- a datum for sorting -/
def enc (p : PV) : PyData := (toP p).getD .none

/-- the items of a list that may be joined to others -/
def itemsL (α : AH) (p : PV) : Option (List PV) :=
  match p with
  | .fl xs => some xs
  | .ref k => match α[k]? with
    | some (.lst xs) => some xs
    | _ => none
  | _ => none
/-- the items of a list or a tuple that is read -/
def itemsS (α : AH) (p : PV) : Option (List PV) :=
  match p with
  | .tup xs => some xs
  | .scr xs => some xs
  | p => itemsL α p
/-- the pairs of a dict that is read -/
def pairsD (α : AH) (p : PV) : Option (List (PV × PV)) :=
  match p with
  | .fd kvs => some kvs
  | .ref k => match α[k]? with
    | some (.dct kvs) => some kvs
    | _ => none
  | _ => none

/-- a key's mode: false: an int or a text; true: a tuple -/
def kmode (k : PV) : Option Bool :=
  match k with
  | .int _ => some false
  | .str _ => some false
  | .tup xs => match nkOf (.tup xs) with
    | some q => if q.depth ≤ 8 then some true else none
    | none => none
  | _ => none
/-- the key may be asked of these pairs -/
def kok (kvs : List (PV × PV)) (k : PV) : Bool :=
  match kmode k with
  | none => false
  | some m => match kvs with
    | [] => true
    | e :: _ => kmode e.1 == some m
def dfind (kvs : List (PV × PV)) (k : PV) : Option PV := (kvs.find? fun e => decide (nkOf e.1 = nkOf k)).map (·.2)
def dput (kvs : List (PV × PV)) (k v : PV) : List (PV × PV) :=
  if (dfind kvs k).isSome then kvs.map fun e => if nkOf e.1 = nkOf k then (e.1, v) else e else kvs ++ [(k, v)]

def truth (p : PV) (α : AH) : Res Bool :=
  match p with
  | .bl b => .ok b α
  | _ => .bad
def ofO {β : Type} (o : Option β) (α : AH) : Res β :=
  match o with
  | some b => .ok b α
  | none => .bad
/-- go on where it holds -/
def need {β : Type} (c : Bool) (r : Res β) : Res β := match c with
  | true => r
  | false => .bad
@[simp] theorem need_true {β : Type} (r : Res β) : need true r = r := rfl
@[simp] theorem ofO_some {β : Type} (b : β) (α : AH) : ofO (some b) α = .ok b α := rfl

inductive Bop where | add | sub | mul | fdiv | mod | pow | bor
  deriving DecidableEq
inductive Cop where | eq | ne | lt | le | gt | ge | isin | notin | isn | notn
  deriving DecidableEq
inductive B1 where | len | list | tuple | sorted | all | any | repr | str | int | set | dict | min | max
  deriving DecidableEq
inductive B2 where | min | max
  deriving DecidableEq
/-- a method of a built-in type -/
inductive M where | pop | append | setdefault | extend | remove | index | get | update | join | partition | split
  deriving DecidableEq

def cutP (xs : List PV) (lo hi : Option Int) : List PV := (xs.drop (HT.sIx xs.length 0 lo)).take (HT.sIx xs.length xs.length hi - HT.sIx xs.length 0 lo)
def lineOk (n : Nat) : Bool := decide (n ≤ sizeLine)

def addP (p q : PV) (α : AH) : Res PV :=
  match p, q with
  | .int i, .int j => .ok (.int (i + j)) α
  | .str x, .str y => need (lineOk (x.length + y.length)) (.ok (.str (x ++ y)) α)
  | .tup xs, .tup ys => need (lineOk (xs.length + ys.length)) (.ok (.tup (xs ++ ys)) α)
  | p, q => match itemsL α p, itemsL α q with
    | some xs, some ys => need (lineOk (xs.length + ys.length)) (.ok (.fl (xs ++ ys)) α)
    | _, _ => .bad
def mulP (p q : PV) (α : AH) : Res PV :=
  match p, q with
  | .int i, .int j => need (decide ((-(2 ^ 64) < i ∧ i < 2 ^ 64) ∨ (-(2 ^ 64) < j ∧ j < 2 ^ 64))) (.ok (.int (i * j)) α)
  | .tup xs, .int k => need (!xs.isEmpty && decide (2 ≤ k ∧ k ≤ 1000 ∧ xs.length ≤ 1000)) (.ok (.tup (List.replicate k.toNat xs).flatten) α)
  | p, .int k => match itemsL α p with
    | some xs => need (decide (-(2 ^ 63) ≤ k ∧ k < 2 ^ 63) && lineOk (xs.length * k.toNat)) (.ok (.fl (List.replicate k.toNat xs).flatten) α)
    | none => .bad
  | _, _ => .bad
/-- equal as members of a set -/
def sameK (p q : PV) : Bool := decide (nkOf p = nkOf q)
def memK (xs : List PV) (p : PV) : Bool := xs.any fun q => sameK q p
/-- one more member -/
def addK (xs : List PV) (p : PV) : List PV := if memK xs p then xs else xs ++ [p]
def setOf (ps : List PV) : List PV := ps.foldl addK []
/-- they may be members of one set: tuples -/
def setOk (ps : List PV) : Bool := (ps.all fun p => kmode p == some true) && decide ((setOf ps).length < 64)
/-- two ints -/
def intsP (c : Int → Int → Bool) (f : Int → Int → Int) (p q : PV) (α : AH) : Res PV :=
  match p, q with
  | .int i, .int j => need (c i j) (.ok (.int (f i j)) α)
  | _, _ => .bad
def bop (o : Bop) (p q : PV) (α : AH) : Res PV :=
  match o with
  | .add => addP p q α
  | .sub => intsP (fun _ _ => true) (fun i j => i - j) p q α
  | .mul => mulP p q α
  | .fdiv => intsP (fun _ j => decide (0 < j ∧ j < 1073741824)) (fun i j => i / j) p q α
  | .mod => intsP (fun _ j => decide (0 < j)) (fun i j => i % j) p q α
  | .pow => intsP (fun i j => decide (0 ≤ j ∧ j ≤ 1000000 ∧ i.natAbs < 2 ^ 64)) (fun i j => i ^ j.toNat) p q α
  | .bor => match p, q with
    | .fs xs, .fs ys => need (setOk (xs ++ ys)) (.ok (.fs (setOf (xs ++ ys))) α)
    | _, _ => .bad

def scalP : PV → PV → Bool
  | .non, .non => true | .non, .int _ => true | .int _, .non => true | .non, .bl _ => true | .bl _, .non => true | .non, .str _ => true | .str _, .non => true
  | .int _, .int _ => true | .bl _, .bl _ => true | .str _, .str _ => true | .int _, .str _ => true | .str _, .int _ => true | .bl _, .str _ => true | .str _, .bl _ => true
  | _, _ => false
def eqP (p q : PV) (α : AH) : Res Bool :=
  match scalP p q with
  | true => .ok (decide (p = q)) α
  | false => match toS α p, toS α q with
    | some d, some e => .ok (PyData.eqv d e) α
    | _, _ => .bad
/-- x in c -/
def inP (p c : PV) (α : AH) : Res Bool :=
  match pairsD α c with
  | some kvs => need (kok kvs p) (.ok (dfind kvs p).isSome α)
  | none => match c, p with
    | .fs _, _ => .bad
    | .str y, .str x => .ok (!(Builtin.Str.occurrences y x 0 y.length 1).isEmpty) α
    | c, p => match itemsS α c, toS α c, toS α p with
      | some _, some (.list ds), some d => .ok (ds.any fun z => PyData.eqv z d) α
      | some _, some (.tuple ds), some d => .ok (ds.any fun z => PyData.eqv z d) α
      | _, _, _ => .bad
/-- two ints compared -/
def cmpI (f : Int → Int → Bool) (p q : PV) (α : AH) : Res PV :=
  match p, q with
  | .int i, .int j => .ok (.bl (f i j)) α
  | _, _ => .bad
/-- may be compared by <, <=, >, >= -/
def isSome' : PyData → Bool
  | .none => false
  | _ => true
def ordOk (d e : PyData) : Bool := PySem.W.alike d e && isSome' d && decide (d.depth ≤ 64)
def cmpO (f : Int → Int → Bool) (g : PyData → PyData → Bool) (p q : PV) (α : AH) : Res PV :=
  match p, q with
  | .int i, .int j => .ok (.bl (f i j)) α
  | p, q => match toA α p, toA α q with
    | some d, some e => need (ordOk d e) (.ok (.bl (g d e)) α)
    | _, _ => .bad
def cop (o : Cop) (p q : PV) (α : AH) : Res PV :=
  match o with
  | .eq => (eqP p q α).bind fun b α => .ok (.bl b) α
  | .ne => (eqP p q α).bind fun b α => .ok (.bl (!b)) α
  | .isin => (inP p q α).bind fun b α => .ok (.bl b) α
  | .notin => (inP p q α).bind fun b α => .ok (.bl (!b)) α
  | .isn => match q with
    | .non => .ok (.bl (decide (p = .non))) α
    | .bl b => match p with
      | .bl a => .ok (.bl (decide (a = b))) α
      | _ => .bad
    | _ => .bad
  | .notn => match q with
    | .non => .ok (.bl (!decide (p = .non))) α
    | .bl b => match p with
      | .bl a => .ok (.bl (!decide (a = b))) α
      | _ => .bad
    | _ => .bad
  | .lt => cmpO (fun i j => decide (i < j)) (fun d e => PySem.W.dataLt d e) p q α
  | .le => cmpO (fun i j => decide (i ≤ j)) (fun d e => !PySem.W.dataLt e d) p q α
  | .gt => cmpO (fun i j => decide (j < i)) (fun d e => PySem.W.dataLt e d) p q α
  | .ge => cmpO (fun i j => decide (j ≤ i)) (fun d e => !PySem.W.dataLt d e) p q α

def ixP (p i : PV) (α : AH) : Res PV :=
  match pairsD α p with
  | some kvs => need (kok kvs i) (ofO (dfind kvs i) α)
  | none => match p, i with
    | .str x, .int j => need (lineOk x.length) (match atI x.cps.toList j with
      | some c => .ok (.str ⟨#[c]⟩) α
      | none => .bad)
    | p, .int j => match itemsS α p with
      | some xs => ofO (atI xs j) α
      | none => .bad
    | _, _ => .bad
def slP (p : PV) (lo hi : Option Int) (α : AH) : Res PV :=
  match p with
  | .tup xs => .ok (.tup (cutP xs lo hi)) α
  | .str z => need (lineOk z.length) (.ok (.str (L2.cutS z lo hi)) α)
  | p => match itemsS α p with
    | some xs => .ok (.fl (cutP xs lo hi)) α
    | none => .bad
def revP (p : PV) (α : AH) : Res PV :=
  match p with
  | .tup _ => .bad
  | p => match itemsS α p with
    | some xs => .ok (.fl xs.reverse) α
    | none => .bad
/-- bools -/
def blsOf : List PV → Option (List Bool)
  | [] => some []
  | .bl b :: ps => (blsOf ps).map (b :: ·)
  | _ :: _ => none
/-- they may be sorted -/
def sortOk (ps : List PV) : Bool :=
  (ps.all fun p => (toP p).isSome && decide ((enc p).depth ≤ 64)) && (ps.all fun p => ps.all fun q => PySem.W.alike (enc p) (enc q)) &&
    ((ps.all fun p => match p with | .tup (_ :: _) => true | _ => false) || (ps.all fun p => match p with | .non => false | .tup _ => false | _ => true)) && lineOk ps.length
def sortP (ps : List PV) : List PV := ps.mergeSort (PySem.W.dataLe false enc)
/-- strictly ascending -/
def strictS : List PV → Bool
  | [] => true
  | p :: r => (r.all fun q => PySem.W.dataLt (enc p) (enc q)) && strictS r
/-- its text may be asked for -/
def reprOk (d : PyData) : Bool := !d.hasDict && d.showable && decide (d.depth ≤ 64) && lineOk d.shown.length
/-- the keys of a dict, or the items of a list or a tuple -/
def itemsK (α : AH) (p : PV) : Option (List PV) :=
  match pairsD α p with
  | some kvs => some (kvs.map (·.1))
  | none => itemsS α p
def strsOf : List PV → Option (List Str)
  | [] => some []
  | .str x :: ps => (strsOf ps).map (x :: ·)
  | _ :: _ => none
/-- pairs, a list's items -/
def prsOf : List PV → Option (List (PV × PV))
  | [] => some []
  | .tup [k, v] :: ps => (prsOf ps).map ((k, v) :: ·)
  | _ :: _ => none
def dictOf (kvs : List (PV × PV)) : List (PV × PV) := kvs.foldl (fun acc e => dput acc e.1 e.2) []
/-- the pairs may be laid one after the other -/
def putsOk : List (PV × PV) → List (PV × PV) → Bool
  | _, [] => true
  | acc, e :: r => kok acc e.1 && decide (acc.length < sizeLine) && putsOk (dput acc e.1 e.2) r
/-- one of a set's members -/
def setItems (p : PV) : Option (List PV) := match p with
  | .fs xs => some xs
  | _ => none
def b1 (f : B1) (p : PV) (α : AH) : Res PV :=
  match f with
  | .len => match pairsD α p with
    | some kvs => .ok (.int kvs.length) α
    | none => match p with
      | .fs xs => .ok (.int xs.length) α
      | .str x => need (lineOk x.length) (.ok (.int x.length) α)
      | p => match itemsS α p with
        | some xs => .ok (.int xs.length) α
        | none => .bad
  | .list => match itemsK α p with
    | some xs => .ok (.fl xs) α
    | none => .bad
  | .tuple => match itemsS α p with
    | some xs => .ok (.tup xs) α
    | none => .bad
  | .sorted => match setItems p with
    | some xs => need (sortOk xs && strictS (sortP xs)) (.ok (.fl (sortP xs)) α)
    | none => match itemsK α p with
      | some xs => need (sortOk xs) (.ok (.fl (sortP xs)) α)
      | none => .bad
  | .all => match p with
    | .tup _ => .bad
    | p => match (itemsS α p).bind blsOf with
      | some bs => .ok (.bl (bs.all id)) α
      | none => .bad
  | .any => match p with
    | .tup _ => .bad
    | p => match (itemsS α p).bind blsOf with
      | some bs => .ok (.bl (bs.any id)) α
      | none => .bad
  | .repr => match toA α p with
    | some d => need (reprOk d) (.ok (.str d.shown) α)
    | none => .bad
  | .str => match p with
    | .int i => need (decide (i.natAbs.log2 < 1920)) (.ok (.str (toString i)) α)
    | .str x => .ok (.str x) α
    | _ => .bad
  | .int => match p with
    | .int i => .ok (.int i) α
    | .bl b => .ok (.int (if b then 1 else 0)) α
    | .str x => match PySem.intText? x with
      | some n => need (decide (x.length ≤ 640)) (.ok (.int n) α)
      | none => .bad
    | _ => .bad
  | .set => match itemsK α p with
    | some xs => need (setOk xs) (.ok (.fs (setOf xs)) α)
    | none => .bad
  | .dict => match (itemsS α p).bind prsOf with
    | some kvs => need (putsOk [] kvs) (.ok (.fd (dictOf kvs)) α)
    | none => .bad
  | .min => match itemsS α p with
    | some (x :: xs) => need (sortOk (x :: xs)) (ofO ((sortP (x :: xs)).head?) α)
    | _ => .bad
  | .max => match itemsS α p with
    | some (x :: xs) => need (sortOk (x :: xs)) (ofO ((sortP (x :: xs)).getLast?) α)
    | _ => .bad
def b2 (f : B2) (p q : PV) (α : AH) : Res PV :=
  match f with
  | .min => intsP (fun _ _ => true) (fun i j => if j < i then j else i) p q α
  | .max => intsP (fun _ _ => true) (fun i j => if j > i then j else i) p q α
/-- a list of the store -/
def lstAt (α : AH) (p : PV) : Option (Nat × List PV) :=
  match p with
  | .ref k => match α[k]? with
    | some (.lst xs) => some (k, xs)
    | _ => none
  | _ => none
def dctAt (α : AH) (p : PV) : Option (Nat × List (PV × PV)) :=
  match p with
  | .ref k => match α[k]? with
    | some (.dct xs) => some (k, xs)
    | _ => none
  | _ => none
def M.ty : M → String
  | .pop => "list"
  | .append => "list"
  | .extend => "list"
  | .remove => "list"
  | .index => "list"
  | .setdefault => "dict"
  | .get => "dict"
  | .update => "dict"
  | .join => "str"
  | .partition => "str"
  | .split => "str"
/-- a value of a built-in type that has methods -/
def isTy (T : String) (p : PV) (α : AH) : Bool :=
  if T = "list" then (itemsL α p).isSome else if T = "dict" then (pairsD α p).isSome else if T = "str" then (match p with
    | .str _ => true
    | _ => false) else false
/-- ints -/
def intsOf : List PV → Option (List Int)
  | [] => some []
  | .int i :: ps => (intsOf ps).map (i :: ·)
  | _ :: _ => none
/-- the first place of a datum in a list of data -/
def findD (d : PyData) : List PyData → Nat → Option Nat
  | [], _ => none
  | e :: es, i => if PyData.eqv e d then some i else findD d es (i + 1)
/-- o.m(..) -/
def mP (m : M) (p : PV) (ps : List PV) (α : AH) : Res PV :=
  match m, ps with
  | .pop, [] => match lstAt α p with
    | some (k, xs) => match xs[xs.length - 1]? with
      | some y => .ok y (α.set k (.lst xs.dropLast))
      | none => .bad
    | none => .bad
  | .pop, [.int i] => match lstAt α p with
    | some (k, xs) => need (decide (-(2 ^ 63) ≤ i ∧ i < 2 ^ 63)) (match seqIndex? i xs.length with
      | some j => match xs[j]? with
        | some y => .ok y (α.set k (.lst (xs.eraseIdx j)))
        | none => .bad
      | none => .bad)
    | none => .bad
  | .append, [q] => match lstAt α p with
    | some (k, xs) => need (decide (xs.length < sizeLine)) (.ok .non (α.set k (.lst (xs ++ [q]))))
    | none => .bad
  | .extend, [q] => match lstAt α p, itemsL α q with
    | some (k, xs), some ys => need (decide (xs.length + ys.length ≤ sizeLine)) (.ok .non (α.set k (.lst (xs ++ ys))))
    | _, _ => .bad
  | .index, [q] => match toS α p, toS α q with
    | some (.list ds), some d => match findD d ds 0 with
      | some i => .ok (.int i) α
      | none => .bad
    | _, _ => .bad
  | .remove, [q] => match lstAt α p, q with
    | some (k, xs), .int i => match intsOf xs with
      | some ns => need (decide (i ∈ ns)) (.ok .non (α.set k (.lst (xs.eraseIdx (ns.idxOf i)))))
      | none => .bad
    | _, _ => .bad
  | .get, [q] => match pairsD α p with
    | some kvs => need (kok kvs q) (.ok ((dfind kvs q).getD .non) α)
    | none => .bad
  | .get, [q, r] => match pairsD α p with
    | some kvs => need (kok kvs q) (.ok ((dfind kvs q).getD r) α)
    | none => .bad
  | .update, [q] => match dctAt α p, pairsD α q with
    | some (k, kvs), some ls => need (putsOk kvs ls) (.ok .non (α.set k (.dct (ls.foldl (fun acc e => dput acc e.1 e.2) kvs))))
    | _, _ => .bad
  | .join, [q] => match p, (itemsS α q).bind strsOf with
    | .str a, some ys => need (decide ((ys.map (·.length)).sum + ys.length * a.length ≤ 16777216)) (.ok (.str (PySem.Txt.join a ys)) α)
    | _, _ => .bad
  | .partition, [q] => match p, q with
    | .str a, .str b => need (!(b.length == 0) && lineOk a.length) (.ok (.tup [.str (PySem.Txt.partition a b).1, .str (PySem.Txt.partition a b).2.1, .str (PySem.Txt.partition a b).2.2]) α)
    | _, _ => .bad
  | .split, [q] => match p, q with
    | .str a, .str b => need (!(b.length == 0) && decide (a.length + 2 ≤ sizeLine)) (.ok (.fl ((PySem.Txt.split a b).map .str)) α)
    | _, _ => .bad
  | .setdefault, [q, r] => match dctAt α p with
    | some (k, kvs) => need (kok kvs q && decide (kmode q = some true) && decide (kvs.length < sizeLine)) (match dfind kvs q with
      | some v => .ok v α
      | none => .ok r (α.set k (.dct (kvs ++ [(q, r)]))))
    | none => .bad
  | _, _ => .bad
/-- o[i] = v -/
def setP (p i v : PV) (α : AH) : Res Unit :=
  match dctAt α p with
  | some (k, kvs) => need (kok kvs i && decide (kvs.length < sizeLine)) (.ok () (α.set k (.dct (dput kvs i v))))
  | none => match lstAt α p, i with
    | some (k, xs), .int j => match ixN xs.length j with
      | some n => .ok () (α.set k (.lst (xs.set n v)))
      | none => .bad
    | _, _ => .bad
/-- a new thing joins the store -/
def joinP (p : PV) (α : AH) : Res PV :=
  match p with
  | .fl xs => .ok (.ref α.length) (α ++ [.lst xs])
  | .fd kvs => .ok (.ref α.length) (α ++ [.dct kvs])
  | p => .ok p α

/-! ### the small language -/
mutual
inductive E where
  | var (i : Nat) | non | bl (b : Bool) | int (i : Int) | str (s : Str)
  | tup (es : Es) | lst (es : Es) | dct (ps : Ps)
  | bin (o : Bop) (a b : E) | cmp (o : Cop) (a b : E) | chain (o p : Cop) (a b c : E)
  | neg (a : E) | and (a b : E) | or (a b : E) | not (a : E) | ife (c a b : E)
  | ix (a i : E) | sl (a : E) (lo hi : OE) | rev (a : E)
  | b1 (f : B1) (a : E) | b2 (f : B2) (a b : E)
  | mth (m : M) (o : E) (es : Es)
  | call (f : Nat) (es : Es) | callK (f n : Nat) (ks : List Str) (perm : List Nat) (es kes : Es)
  | comp (t : T) (own : List Nat) (it : It) (cond : OE) (elt : E)
  | join (a : E)
  /- what no run comes to -/
  | dead
  /- a constant of the module -/
  | gcon (x : Str) (i : Int)
  | gstr (x : Str) (s : Str)
  /- o.f, o of the c-th class -/
  | fld (c : Nat) (o : E) (f : Str)
  /- o.m(..), m the j-th def, o of the c-th class -/
  | meth (c j : Nat) (m : Str) (o : E) (es : Es)
  | methK (c j : Nat) (m : Str) (o : E) (n : Nat) (ks : List Str) (perm : List Nat) (es kes : Es)
  | prop (c j : Nat) (f : Str) (o : E)
  /- C.m(..) -/
  | cmeth (c j : Nat) (m : Str) (es : Es)
  | cmethK (c j : Nat) (m : Str) (n : Nat) (ks : List Str) (perm : List Nat) (es kes : Es)
  /- C(..), C( *a ), x( *a ) where x holds the class -/
  | mk (c j : Nat) (es : Es)
  | mkS (c j : Nat) (a : E)
  | mkV (c j i : Nat) (a : E)
  /- isinstance(a, T) -/
  | isT (a : E) (t : String)
  | isC (a : E) (c : Nat)
  /- a == b, a != b by the j-th def, len(a) -/
  | oeq (neg : Bool) (c j : Nat) (a b : E)
  | olen (c j : Nat) (a : E)
  /- f'..'; within: an expression's text -/
  | fstr (es : Es)
  | fmt (a : E)
  /- {elt for .. in .. if ..}, {elt for .. in .. for .. in ..}, {k: v for .. in .. if ..} -/
  | scomp (t : T) (own : List Nat) (it : It) (cond : OE) (elt : E)
  | scomp2 (t : T) (own : List Nat) (it : It) (t2 : T) (own2 : List Nat) (it2 : It) (elt : E)
  | dcomp (t : T) (own : List Nat) (it : It) (cond : OE) (k v : E)
  /- list(..), tuple(..) of something that is walked -/
  | listI (it : It)
  | tupI (it : It)
inductive OE where
  | none | some (a : E)
inductive Es where
  | nil | cons (a : E) (es : Es)
inductive Ps where
  | nil | cons (k v : E) (ps : Ps)
inductive T where
  | var (i : Nat) | tup (ts : Ts) | sub (o i : E)
inductive Ts where
  | nil | cons (t : T) (ts : Ts)
inductive It where
  | val (e : E) | range1 (e : E) | range2 (a b : E) | values (e : E) | items (e : E) | keys (e : E) | enum (e : E) | zip (a b : E)
end
mutual
inductive S where
  | pass | brk | cont | dead
  | expr (e : E) | asg (t : T) (e : E) | par (is : List Nat) (es : Es) | aug (i : Nat) (o : Bop) (e : E)
  | ret (e : E) | retN | ife (c : E) (a b : Ss) | whl (c : E) (b : Ss) | loop (t : T) (it : It) (b : Ss)
inductive Ss where
  | nil | cons (s : S) (ss : Ss)
end

/-! ### what the terms denote -/
/-- the source of a walk, and an object of the store that has to stay as it is (a dict is locked for the while) -/
structure Src where
  items : List PV
  src : Option (Nat × AO)
def Src.still (s : Src) (α : AH) : Bool := match s.src with
  | none => true
  | some (k, o) => decide (α[k]? = some o)
/-- at its beginning -/
def Src.lock (s : Src) (α : AH) : AH := match s.src with
  | some (k, .ldct kvs) => α.set k (.ldct kvs)
  | _ => α
/-- behind the walk -/
def Src.done {β : Type} (s : Src) (b : β) (α : AH) : Res β := match s.src with
  | some (k, .ldct kvs) => need (decide (α[k]? = some (.ldct kvs))) (.ok b (α.set k (.dct kvs)))
  | _ => .ok b α
def srcOf (p : PV) (α : AH) : Res Src :=
  match p with
  | .tup xs => .ok ⟨xs, none⟩ α
  | .fl xs => .ok ⟨xs, none⟩ α
  | .scr xs => .ok ⟨xs, none⟩ α
  | .str z => .ok ⟨z.cps.toList.map fun c => .str ⟨#[c]⟩, none⟩ α
  | .ref k => match α[k]? with
    | some (.lst xs) => .ok ⟨xs, some (k, .lst xs)⟩ α
    | _ => .bad
  | _ => .bad
/-- a dict, by f of its pairs -/
def srcDct (f : PV × PV → PV) (p : PV) (α : AH) : Res Src :=
  match p with
  | .fd kvs => .ok ⟨kvs.map f, none⟩ α
  | p => match dctAt α p with
    | some (k, kvs) => .ok ⟨kvs.map f, some (k, .ldct kvs)⟩ α
    | none => .bad
def rangeP (a b : Int) : List PV := (List.range (b - a).toNat).map fun i => .int (a + (i : Nat))
def srcRange (a b : PV) (α : AH) : Res Src :=
  match a, b with
  | .int i, .int j => need (decide (-(2 ^ 62) ≤ i ∧ i < 2 ^ 62 ∧ -(2 ^ 62) ≤ j ∧ j < 2 ^ 62)) (.ok ⟨rangeP i j, none⟩ α)
  | _, _ => .bad
def enumP : Nat → List PV → List PV
  | _, [] => []
  | i, x :: xs => .tup [.int i, x] :: enumP (i + 1) xs
/-- enumerate(p): a list or a tuple -/
def srcEnum (p : PV) (α : AH) : Res Src :=
  match p with
  | .tup xs => .ok ⟨enumP 0 xs, none⟩ α
  | .fl xs => .ok ⟨enumP 0 xs, none⟩ α
  | .scr xs => .ok ⟨enumP 0 xs, none⟩ α
  | .ref k => match α[k]? with
    | some (.lst xs) => .ok ⟨enumP 0 xs, some (k, .lst xs)⟩ α
    | _ => .bad
  | _ => .bad
def zipP : List PV → List PV → List PV
  | x :: xs, y :: ys => .tup [x, y] :: zipP xs ys
  | _, _ => []
/-- zip(p, q): two tuples, or two lists that nobody changes -/
def srcZip (p q : PV) (α : AH) : Res Src :=
  match p, q with
  | .tup xs, .tup ys => .ok ⟨zipP xs ys, none⟩ α
  | .fl xs, .fl ys => .ok ⟨zipP xs ys, none⟩ α
  | _, _ => .bad
/-- a comprehension's turns -/
def turns (still : AH → Bool) (step : PV → AH → Res (Option PV)) : List PV → AH → Res (List PV)
  | [], α => need (still α) (.ok [] α)
  | x :: r, α => need (still α) ((step x α).bind fun o α1 => (turns still step r α1).bind fun ys α2 => .ok (match o with
    | some y => y :: ys
    | none => ys) α2)
/-- .. one walk within the other -/
def turns2 (still : AH → Bool) (step : PV → AH → Res (List PV)) : List PV → AH → Res (List PV)
  | [], α => need (still α) (.ok [] α)
  | x :: r, α => need (still α) ((step x α).bind fun o α1 => (turns2 still step r α1).bind fun ys α2 => .ok (o ++ ys) α2)
/-- a dict comprehension's turns -/
def turnsD (still : AH → Bool) (step : PV → AH → Res (Option (PV × PV))) : List PV → AH → Res (List (PV × PV))
  | [], α => need (still α) (.ok [] α)
  | x :: r, α => need (still α) ((step x α).bind fun o α1 => (turnsD still step r α1).bind fun ys α2 => .ok (match o with
    | some y => y :: ys
    | none => ys) α2)
/-- the slots of a comprehension's own names forgotten -/
def wipeP (ρ : Loc') : List Nat → Loc'
  | [] => ρ
  | v :: vs => (wipeP ρ vs).set v none

/-- the parameters' values among those of the keywords -/
def permP {β : Type} (perm : List Nat) (qs : List β) : List β := perm.filterMap fun i => qs[i]?
abbrev Fn := Nat → List PV → AH → Res PV
def partO (p : PV) (α : AH) : Res (Option Int) := match p with
  | .int i => .ok (some i) α
  | _ => .bad
/-- o is an instance of the c-th class -/
def isObj (c : Nat) : PV → Bool
  | .obj d _ => decide (d = c)
  | _ => false
/-- it has no field of that name -/
def noFld (m : Str) : PV → Bool
  | .obj _ fs => (fs.lookup m).isNone
  | _ => false
def fldP (c : Nat) (p : PV) (f : Str) (α : AH) : Res PV := match p with
  | .obj d fs => need (decide (d = c)) (ofO (fs.lookup f) α)
  | _ => .bad
/-- what is starred: its items -/
def starP (p : PV) (α : AH) : Option (List PV) := itemsS α p
/-- the type's name of a value that is asked for it -/
def tyOf (α : AH) : PV → Option String
  | .non => some "NoneType"
  | .bl _ => some "bool"
  | .int _ => some "int"
  | .str _ => some "str"
  | .tup _ => some "tuple"
  | .fl _ => some "list"
  | .ref k => match α[k]? with
    | some (.lst _) => some "list"
    | _ => none
  | _ => none
/-- isinstance(p, t), t the name of a built-in type -/
def isTP (p : PV) (t : String) (α : AH) : Res PV := match tyOf α p with
  | some s => match L2.kitB s t with
    | some b => .ok (.bl b) α
    | none => .bad
  | none => .bad
/-- isinstance(p, C), C the c-th class -/
def isCP (p : PV) (c : Nat) (α : AH) : Res PV := match p with
  | .obj d _ => need (decide (d = c)) (.ok (.bl true) α)
  | p => match tyOf α p with
    | some _ => .ok (.bl false) α
    | none => .bad
def fmtP (p : PV) (α : AH) : Res PV := match p with
  | .str y => need (lineOk y.length) (.ok (.str y) α)
  | .int i => need (decide (i.natAbs.log2 < 1920)) (.ok (.str (toString i)) α)
  | _ => .bad
/-- texts, one behind the other -/
def catP : List PV → Str → Option Str
  | [], acc => some acc
  | .str y :: ps, acc => if lineOk (acc ++ y).length = true then catP ps (acc ++ y) else none
  | _ :: _, _ => none
mutual
def dE (F : Fn) : E → Loc' → AH → Res PV
  | .var i, ρ, α => match ρ[i]? with
    | some (some p) => .ok p α
    | _ => .bad
  | .non, _, α => .ok .non α
  | .bl b, _, α => .ok (.bl b) α
  | .int i, _, α => .ok (.int i) α
  | .str s, _, α => .ok (.str s) α
  | .tup es, ρ, α => (dEs F es ρ α).bind fun ps α => need (lineOk ps.length) (.ok (.tup ps) α)
  | .lst es, ρ, α => (dEs F es ρ α).bind fun ps α => need (lineOk ps.length) (.ok (.fl ps) α)
  | .dct ps, ρ, α => (dPs F ps ρ α).bind fun kvs α => need (putsOk [] kvs && decide (kvs.length ≤ 15)) (.ok (.fd (dictOf kvs)) α)
  | .bin o a b, ρ, α => (dE F a ρ α).bind fun p α => (dE F b ρ α).bind fun q α => bop o p q α
  | .cmp o a b, ρ, α => (dE F a ρ α).bind fun p α => (dE F b ρ α).bind fun q α => cop o p q α
  | .chain o o' a b c, ρ, α => (dE F a ρ α).bind fun p α => (dE F b ρ α).bind fun q α => (cop o p q α).bind fun z α => (truth z α).bind fun t α =>
      match t with
      | true => (dE F c ρ α).bind fun r α => cop o' q r α
      | false => .ok (.bl false) α
  | .neg a, ρ, α => (dE F a ρ α).bind fun p α => match p with
    | .int i => .ok (.int (-i)) α
    | _ => .bad
  | .and a b, ρ, α => (dE F a ρ α).bind fun p α => (truth p α).bind fun t α => match t with
    | true => dE F b ρ α
    | false => .ok (.bl false) α
  | .or a b, ρ, α => (dE F a ρ α).bind fun p α => (truth p α).bind fun t α => match t with
    | true => .ok (.bl true) α
    | false => dE F b ρ α
  | .not a, ρ, α => (dE F a ρ α).bind fun p α => (truth p α).bind fun t α => .ok (.bl (!t)) α
  | .ife c a b, ρ, α => (dE F c ρ α).bind fun p α => (truth p α).bind fun t α => match t with
    | true => dE F a ρ α
    | false => dE F b ρ α
  | .ix a i, ρ, α => (dE F a ρ α).bind fun p α => (dE F i ρ α).bind fun q α => ixP p q α
  | .sl a lo hi, ρ, α => (dE F a ρ α).bind fun p α => (dO F lo ρ α).bind fun l α => (dO F hi ρ α).bind fun h α => slP p l h α
  | .rev a, ρ, α => (dE F a ρ α).bind fun p α => revP p α
  | .b1 f a, ρ, α => (dE F a ρ α).bind fun p α => b1 f p α
  | .b2 f a b, ρ, α => (dE F a ρ α).bind fun p α => (dE F b ρ α).bind fun q α => b2 f p q α
  | .mth m o es, ρ, α => (dE F o ρ α).bind fun p α => need (isTy m.ty p α) ((dEs F es ρ α).bind fun ps α => mP m p ps α)
  | .call f es, ρ, α => (dEs F es ρ α).bind fun ps α => F f ps α
  | .callK f n ks perm es kes, ρ, α => (dEs F es ρ α).bind fun ps α => (dEs F kes ρ α).bind fun qs α => need (decide (ps.length = n ∧ qs.length = ks.length)) (F f (ps ++ permP perm qs) α)
  | .comp t own it cond elt, ρ, α => (dI F it ρ α).bind fun s α =>
      (turns s.still (fun x α => (dT F t x (wipeP ρ own) α).bind fun ρ' α => (dC F cond ρ' α).bind fun c α => match c with
        | true => (dE F elt ρ' α).bind fun y α => .ok (some y) α
        | false => .ok none α) s.items (s.lock α)).bind fun ys α => need (lineOk ys.length) (s.done (.fl ys) α)
  | .join a, ρ, α => (dE F a ρ α).bind fun p α => joinP p α
  | .dead, _, _ => .bad
  | .gcon _ i, _, α => .ok (.int i) α
  | .gstr _ s, _, α => .ok (.str s) α
  | .fld c o f, ρ, α => (dE F o ρ α).bind fun p α => fldP c p f α
  | .meth c j m o es, ρ, α => (dE F o ρ α).bind fun p α => need (isObj c p && noFld m p) ((dEs F es ρ α).bind fun ps α => F j (p :: ps) α)
  | .methK c j m o n ks perm es kes, ρ, α => (dE F o ρ α).bind fun p α => need (isObj c p && noFld m p) ((dEs F es ρ α).bind fun ps α => (dEs F kes ρ α).bind fun qs α =>
      need (decide (ps.length = n ∧ qs.length = ks.length)) (F j (p :: (ps ++ permP perm qs)) α))
  | .prop c j _ o, ρ, α => (dE F o ρ α).bind fun p α => need (isObj c p) (F j [p] α)
  | .cmeth c j _ es, ρ, α => (dEs F es ρ α).bind fun ps α => F j (.st c :: ps) α
  | .cmethK c j _ n ks perm es kes, ρ, α => (dEs F es ρ α).bind fun ps α => (dEs F kes ρ α).bind fun qs α => need (decide (ps.length = n ∧ qs.length = ks.length)) (F j (.st c :: (ps ++ permP perm qs)) α)
  | .mk _ j es, ρ, α => (dEs F es ρ α).bind fun ps α => F j ps α
  | .mkS _ j a, ρ, α => (dE F a ρ α).bind fun p α => match starP p α with
    | some xs => F j xs α
    | none => .bad
  | .mkV c j i a, ρ, α => match ρ[i]? with
    | some (some (.st d)) => need (decide (d = c)) ((dE F a ρ α).bind fun p α => match starP p α with
      | some xs => F j xs α
      | none => .bad)
    | _ => .bad
  | .isT a t, ρ, α => (dE F a ρ α).bind fun p α => isTP p t α
  | .isC a c, ρ, α => (dE F a ρ α).bind fun p α => isCP p c α
  | .oeq neg c j a b, ρ, α => (dE F a ρ α).bind fun p α => (dE F b ρ α).bind fun q α => need (isObj c p && isObj c q) ((F j [p, q] α).bind fun r α => (truth r α).bind fun t α => .ok (.bl (t != neg)) α)
  | .olen c j a, ρ, α => (dE F a ρ α).bind fun p α => need (isObj c p) ((F j [p] α).bind fun r α => match r with
    | .int i => need (decide (0 ≤ i ∧ i < 2 ^ 62)) (.ok (.int i) α)
    | _ => .bad)
  | .fstr es, ρ, α => (dEs F es ρ α).bind fun ps α => match catP ps Str.empty with
    | some z => .ok (.str z) α
    | none => .bad
  | .fmt a, ρ, α => (dE F a ρ α).bind fun p α => fmtP p α
  | .scomp t own it cond elt, ρ, α => (dI F it ρ α).bind fun s α =>
      (turns s.still (fun x α => (dT F t x (wipeP ρ own) α).bind fun ρ' α => (dC F cond ρ' α).bind fun c α => match c with
        | true => (dE F elt ρ' α).bind fun y α => .ok (some y) α
        | false => .ok none α) s.items (s.lock α)).bind fun ys α => need (setOk ys) (s.done (.fs (setOf ys)) α)
  | .scomp2 t own it t2 own2 it2 elt, ρ, α => (dI F it ρ α).bind fun s α =>
      (turns2 s.still (fun x α => (dT F t x (wipeP ρ own) α).bind fun ρ' α => (dI F it2 ρ' α).bind fun s2 α => need (decide (s2.src = none)) (turns s2.still (fun y α => (dT F t2 y (wipeP ρ' own2) α).bind fun ρ2 α => (dE F elt ρ2 α).bind fun z α => .ok (some z) α) s2.items α)) s.items (s.lock α)).bind fun ys α => need (setOk ys) (s.done (.fs (setOf ys)) α)
  | .dcomp t own it cond k v, ρ, α => (dI F it ρ α).bind fun s α =>
      (turnsD s.still (fun x α => (dT F t x (wipeP ρ own) α).bind fun ρ' α => (dC F cond ρ' α).bind fun c α => match c with
        | true => (dE F k ρ' α).bind fun y α => (dE F v ρ' α).bind fun z α => .ok (some (y, z)) α
        | false => .ok none α) s.items (s.lock α)).bind fun ys α => need (putsOk [] ys) (s.done (.fd (dictOf ys)) α)
  | .listI it, ρ, α => (dI F it ρ α).bind fun s α => need (lineOk s.items.length) (.ok (.fl s.items) α)
  | .tupI it, ρ, α => (dI F it ρ α).bind fun s α => need (lineOk s.items.length) (.ok (.tup s.items) α)
def dO (F : Fn) : OE → Loc' → AH → Res (Option Int)
  | .none, _, α => .ok none α
  | .some a, ρ, α => (dE F a ρ α).bind fun p α => partO p α
def dC (F : Fn) : OE → Loc' → AH → Res Bool
  | .none, _, α => .ok true α
  | .some a, ρ, α => (dE F a ρ α).bind fun p α => truth p α
def dEs (F : Fn) : Es → Loc' → AH → Res (List PV)
  | .nil, _, α => .ok [] α
  | .cons a es, ρ, α => (dE F a ρ α).bind fun p α => (dEs F es ρ α).bind fun ps α => .ok (p :: ps) α
def dPs (F : Fn) : Ps → Loc' → AH → Res (List (PV × PV))
  | .nil, _, α => .ok [] α
  | .cons k v ps, ρ, α => (dE F k ρ α).bind fun p α => (dE F v ρ α).bind fun q α => (dPs F ps ρ α).bind fun r α => .ok ((p, q) :: r) α
def dT (F : Fn) : T → PV → Loc' → AH → Res Loc'
  | .var i, x, ρ, α => .ok (ρ.set i (some x)) α
  | .tup ts, x, ρ, α => match x with
    | .tup xs => dTs F ts xs ρ α
    | _ => .bad
  | .sub o i, x, ρ, α => (dE F o ρ α).bind fun p α => (dE F i ρ α).bind fun q α => (setP p q x α).bind fun _ α => .ok ρ α
def dTs (F : Fn) : Ts → List PV → Loc' → AH → Res Loc'
  | .nil, [], ρ, α => .ok ρ α
  | .cons t ts, x :: xs, ρ, α => (dT F t x ρ α).bind fun ρ α => dTs F ts xs ρ α
  | _, _, _, _ => .bad
def dI (F : Fn) : It → Loc' → AH → Res Src
  | .val e, ρ, α => (dE F e ρ α).bind fun p α => srcOf p α
  | .range1 e, ρ, α => (dE F e ρ α).bind fun p α => srcRange (.int 0) p α
  | .range2 a b, ρ, α => (dE F a ρ α).bind fun p α => (dE F b ρ α).bind fun q α => srcRange p q α
  | .values e, ρ, α => (dE F e ρ α).bind fun p α => srcDct (fun e => e.2) p α
  | .items e, ρ, α => (dE F e ρ α).bind fun p α => srcDct (fun e => .tup [e.1, e.2]) p α
  | .keys e, ρ, α => (dE F e ρ α).bind fun p α => srcDct (fun e => e.1) p α
  | .enum e, ρ, α => (dE F e ρ α).bind fun p α => srcEnum p α
  | .zip a b, ρ, α => (dE F a ρ α).bind fun p α => (dE F b ρ α).bind fun q α => srcZip p q α
end

/-- how a statement ends -/
inductive Fl where
  | nx (ρ : Loc') | rt (p : PV) | bk (ρ : Loc') | ct (ρ : Loc')
abbrev SRes := Res Fl
/-- what a turn leaves behind, as it is kept -/
abbrev Gc := Loc' → AH → Loc' × AH
/-- a for's turns -/
def turnsF (g : Gc) (still : AH → Bool) (step : PV → Loc' → AH → SRes) : List PV → Loc' → AH → SRes
  | [], ρ, α => need (still α) (.ok (.nx ρ) α)
  | x :: r, ρ, α => need (still α) ((step x ρ α).bind fun f α1 => match f with
    | .nx ρ1 => turnsF g still step r (g ρ1 α1).1 (g ρ1 α1).2
    | .ct ρ1 => turnsF g still step r (g ρ1 α1).1 (g ρ1 α1).2
    | .bk ρ1 => .ok (.nx ρ1) α1
    | .rt p => .ok (.rt p) α1)
/-- a while's turns, at most n -/
def turnsW (g : Gc) (c : Loc' → AH → Res Bool) (b : Loc' → AH → SRes) : Nat → Loc' → AH → SRes
  | 0, _, _ => .bad
  | n + 1, ρ, α => (c ρ α).bind fun t α1 => match t with
    | false => .ok (.nx ρ) α1
    | true => (b ρ α1).bind fun f α2 => match f with
      | .nx ρ1 => turnsW g c b n (g ρ1 α2).1 (g ρ1 α2).2
      | .ct ρ1 => turnsW g c b n (g ρ1 α2).1 (g ρ1 α2).2
      | .bk ρ1 => .ok (.nx ρ1) α2
      | .rt p => .ok (.rt p) α2
open Classical in
/-- a while: by any number of turns that is enough -/
noncomputable def whileM (c : Loc' → AH → Res Bool) (b : Loc' → AH → SRes) (ρ : Loc') (α : AH) : SRes :=
  if h : ∃ n f α', turnsW (gcL α) c b n ρ α = .ok f α' then turnsW (gcL α) c b (Classical.choose h) ρ α else .bad
def setAll : List Nat → List PV → Loc' → Loc'
  | i :: is, p :: ps, ρ => setAll is ps (ρ.set i (some p))
  | _, _, ρ => ρ
mutual
noncomputable def dS (F : Fn) : S → Loc' → AH → SRes
  | .pass, ρ, α => .ok (.nx ρ) α
  | .brk, ρ, α => .ok (.bk ρ) α
  | .cont, ρ, α => .ok (.ct ρ) α
  | .dead, _, _ => .bad
  | .expr e, ρ, α => (dE F e ρ α).bind fun _ α => .ok (.nx ρ) α
  | .asg t e, ρ, α => (dE F e ρ α).bind fun p α => (dT F t p ρ α).bind fun ρ α => .ok (.nx ρ) α
  | .par is es, ρ, α => (dEs F es ρ α).bind fun ps α => need (decide (ps.length = is.length)) (.ok (.nx (setAll is ps ρ)) α)
  | .aug i o e, ρ, α => match ρ[i]? with
    | some (some p) => (dE F e ρ α).bind fun q α => match p, q with
      | .int _, .int _ => (bop o p q α).bind fun r α => .ok (.nx (ρ.set i (some r))) α
      | _, _ => .bad
    | _ => .bad
  | .ret e, ρ, α => (dE F e ρ α).bind fun p α => .ok (.rt p) α
  | .retN, _, α => .ok (.rt .non) α
  | .ife c a b, ρ, α => (dE F c ρ α).bind fun p α => (truth p α).bind fun t α => match t with
    | true => dSs F a ρ α
    | false => dSs F b ρ α
  | .whl c b, ρ, α => whileM (fun ρ α => (dE F c ρ α).bind fun p α => truth p α) (fun ρ α => dSs F b ρ α) ρ α
  | .loop t it b, ρ, α => (dI F it ρ α).bind fun s α => (turnsF (gcL (s.lock α)) s.still (fun x ρ α => (dT F t x ρ α).bind fun ρ α => dSs F b ρ α) s.items ρ (s.lock α)).bind fun f α => s.done f α
noncomputable def dSs (F : Fn) : Ss → Loc' → AH → SRes
  | .nil, ρ, α => .ok (.nx ρ) α
  | .cons s ss, ρ, α => (dS F s ρ α).bind fun f α => match f with
    | .nx ρ => dSs F ss ρ α
    | f => .ok f α
end
/-- the fields that an __init__ stores, one behind the other -/
def dF (F : Fn) : List (Str × E) → Loc' → AH → Res (List (Str × PV))
  | [], _, α => .ok [] α
  | (f, e) :: r, ρ, α => (dE F e ρ α).bind fun p α => (dF F r ρ α).bind fun ps α => .ok ((f, p) :: ps) α
/-- tests that must fail -/
def dG (F : Fn) : List E → Loc' → AH → Res Unit
  | [], _, α => .ok () α
  | g :: gs, ρ, α => (dE F g ρ α).bind fun p α => (truth p α).bind fun t α => match t with
    | true => .bad
    | false => dG F gs ρ α
/-- a def of the text: its name, qualified name, the names by slot, how many are parameters, its body; star: the last parameter takes what is left over; fz: its own list or dict that it hands back is nobody else's from then on;
init: an __init__ (its first name is the object's, and no parameter here): the class, the tests ahead (if .. : raise ..), the fields -/
structure FD where
  name : Str
  qual : Str
  N : List Str
  np : Nat
  body : Ss
  star : Bool := false
  fz : Bool := true
  init : Option (Nat × List E × List (Str × E)) := none
def startP (n : Nat) (ps : List PV) : Loc' := ps.map some ++ List.replicate (n - ps.length) none
/-- the parameters' values -/
def argsP (np : Nat) (star : Bool) (ps : List PV) : Option (List PV) := match star with
  | false => if ps.length = np then some ps else none
  | true => if np ≤ ps.length + 1 ∧ 0 < np ∧ lineOk (ps.length + 1 - np) = true then some (ps.take (np - 1) ++ [.tup (ps.drop (np - 1))]) else none
def gcR (α0 : AH) (fz : Bool) (p : PV) (α : AH) : Res PV := .ok (gcV α0 fz p α).1 (gcV α0 fz p α).2
/-- what a body's end hands back -/
def retP (α0 : AH) (fz : Bool) (r : Fl) (α : AH) : Res PV := match r with
  | .rt p => gcR α0 fz p α
  | .nx _ => gcR α0 fz .non α
  | _ => .bad
noncomputable def runFn (F : Fn) (f : FD) (ps : List PV) (α : AH) : Res PV := match argsP f.np f.star ps with
  | none => .bad
  | some qs => match f.init with
    | none => (dSs F f.body (startP f.N.length qs) α).bind (retP α f.fz)
    | some (c, gs, fe) => (dG F gs (none :: startP (f.N.length - 1) qs) α).bind fun _ α1 => (dF F fe (none :: startP (f.N.length - 1) qs) α1).bind fun fs α2 => gcR α f.fz (.obj c fs) α2
/-- calls, at most so many one within the other -/
noncomputable def callD (fs : List FD) : Nat → Fn
  | 0 => fun _ _ _ => .bad
  | d + 1 => fun j ps α => match fs[j]? with
    | some f => runFn (callD fs d) f ps α
    | none => .bad
end Mw
end
section
set_option Elab.async false
set_option linter.all false
set_option maxRecDepth 100000
set_option maxHeartbeats 2000000
/-! Mw4: the operations keep what they denote. -/
namespace Mw
open PySem PySem.Spec PyProof.Rows L2

section
variable {F : Fx} {μ μ' : Zn} {H H' H0 : Hp} {α α' : AH} {ρ : Loc'} {σ : L2.St} {Q : VK} {r : Res PV}

/-! ### results that may be new -/
/-- a new list or dict, not yet of the store; or any value -/
def NewR (F : Fx) (H0 : Hp) (α' : AH) (μ' : Zn) (H' : Hp) (p : PV) (v : V) : Prop :=
  match p with
  | .fl xs => ∃ a, v = .ref a ∧ H0 a = none ∧ a ∉ μ'.on ∧ a ∉ μ'.off ∧ Rel F ⟨μ'.on, a :: μ'.off⟩ α' H' ∧ OR F ⟨μ'.on, a :: μ'.off⟩ H' a (.lst xs)
  | .fd kvs => ∃ a, v = .ref a ∧ H0 a = none ∧ a ∉ μ'.on ∧ a ∉ μ'.off ∧ Rel F ⟨μ'.on, a :: μ'.off⟩ α' H' ∧ OR F ⟨μ'.on, a :: μ'.off⟩ H' a (.dct kvs)
  | p => Rep F μ' H' p v
theorem fewer1 {a : Addr} : Ext F ⟨μ.on, a :: μ.off⟩ H μ H := Ext.fewer (on := μ.on) (off := a :: μ.off) (off' := μ.off) fun _ h => List.mem_cons_of_mem _ h
def isFd : PV → Bool
  | .fd _ => true
  | _ => false
theorem NewR.rep {p : PV} {v : V} (hp : isFd p = false) (h : NewR F H0 α' μ' H' p v) : Rep F μ' H' p v := by
  unfold NewR at h
  split at h
  · obtain ⟨a, rfl, h0, h1, h2, _, vs, e, q⟩ := h
    exact .fl ⟨h1, h2⟩ e (q.ext fewer1)
  · cases hp
  · exact h
theorem NewR.lock {p : PV} {v : V} {P : Hp → Prop} (r0 : Rel F μ α H) (l : Le F μ H μ' H') (r : Rel F μ' α' H') (h : NewR F H α' μ' H' p v) (hP : ∀ H2, Le F μ H μ' H2 → Rel F μ' α' H2 → Rep F μ' H2 p v → P H2) : LockP F H' P := by
  by_cases hp : isFd p = true
  · cases p with
    | fd kvs =>
      obtain ⟨a, rfl, h0, h1, h2, r2, ho⟩ := h
      exact lock_new (on := μ'.on) (off := μ'.off) r0 l r2 h0 h1 h2 ho hP
    | _ => cases hp
  · exact .inl (hP H' l r (h.rep (by simpa using hp)))
def PostN (F : Fx) (μ : Zn) (H : Hp) (r : Res PV) (Q : VK) : Prop :=
  match r with
  | .ok p α' => ∀ μ' H' v, Le F μ H μ' H' → Rel F μ' α' H' → NewR F H α' μ' H' p v → Q v H'
  | .err _ _ _ => False
  | .bad => False
theorem Post.toN (r0 : Rel F μ α H) (h : Post F μ H r (Rep F) Q) : PostN F μ H r (fun v H' => LockP F H' (Q v)) := by
  cases r with
  | ok p a => exact fun μ' H' v l r q => q.lock r0 l r fun H2 l2 r2 q2 => h μ' H2 v l2 r2 q2
  | err c xs a => exact h
  | bad => exact h
theorem none_back (rel : Rel F μ' α' H') (l : Le F μ H μ' H') {a : Addr} (h : H' a = none) : H a = none := by
  cases e : H a with
  | none => rfl
  | some o =>
    by_cases ha : a ∈ μ.on
    · obtain ⟨t, et⟩ := l.ext.pre
      obtain ⟨x, ex, _⟩ := rel.mv (a := a) (by rw [et]; exact List.mem_append_left _ ha)
      rw [h] at ex; cases ex
    · have := (l.fr a o ha e).2
      rw [h] at this; cases this
theorem NewR.from {α1 : AH} (rel : Rel F μ α1 H) (l : Le F μ0 H0 μ H) {p : PV} {v : V} (h : NewR F H α' μ' H' p v) : NewR F H0 α' μ' H' p v := by
  unfold NewR at h ⊢
  split at h
  · obtain ⟨a, e, h0, r⟩ := h
    exact ⟨a, e, none_back rel l h0, r⟩
  · obtain ⟨a, e, h0, r⟩ := h
    exact ⟨a, e, none_back rel l h0, r⟩
  · exact h
theorem PostN.from {α1 : AH} (rel : Rel F μ' α1 H') (l : Le F μ H μ' H') (h : PostN F μ H r Q) : PostN F μ' H' r Q := by
  cases r with
  | ok p a => exact fun μ'' H'' v l' r' q => h μ'' H'' v (l.trans l') r' (q.from rel l)
  | err c xs a => exact h
  | bad => exact h
/-- a value that is there -/
theorem Post.here {p : PV} {v : V} (rel : Rel F μ α H) (h : Post F μ H (.ok p α) (Rep F) Q) (rp : Rep F μ H p v) : Q v H := h μ H v (.refl F μ H) rel rp
def plainV : PV → Bool
  | .fl _ => false
  | .fd _ => false
  | _ => true
theorem newR_plain {p : PV} {v : V} (hp : plainV p = true) (rp : Rep F μ' H' p v) : NewR F H0 α' μ' H' p v := by
  cases p <;> first | exact rp | cases hp
theorem PostN.here {p : PV} {v : V} (rel : Rel F μ α H) (h : PostN F μ H (.ok p α) Q) (rp : Rep F μ H p v) (hp : plainV p = true) : Q v H :=
  h μ H v (.refl F μ H) rel (newR_plain hp rp)
theorem fresh_noff (rel : Rel F μ α H) {p : Addr} (hp : H p = none) : p ∉ μ.off := fun hm => (rel.offs p hm).2 hp
theorem by1 (rel : Rel F μ α H) {p : Addr} {o : HO} (hp : H p = none) : Ext F μ H ⟨μ.on, p :: μ.off⟩ (upd H p o) ∧ Rel F ⟨μ.on, p :: μ.off⟩ α (upd H p o) :=
  by_step (on := μ.on) (off := μ.off) rel hp
/-- a new list -/
theorem PostN.newL {xs : List PV} {vs : List V} {p : Addr} (rel : Rel F μ α H) (h : PostN F μ H (.ok (.fl xs) α) Q) (hp : H p = none) (rl : RepL F μ H xs vs) : Q (.ref p) (upd H p (.lst vs)) := by
  obtain ⟨l, r'⟩ := new_step rel (o := .lst vs) hp
  obtain ⟨x, r2⟩ := by1 rel (o := .lst vs) hp
  exact h μ _ _ l r' ⟨p, rfl, hp, fresh_non rel hp, fresh_noff rel hp, r2, vs, upd_same, rl.ext x⟩
/-- a new tuple -/
theorem PostN.newT {xs : List PV} {vs : List V} {p : Addr} (rel : Rel F μ α H) (h : PostN F μ H (.ok (.tup xs) α) Q) (hp : H p = none) (rl : RepL F μ H xs vs) : Q (.ref p) (upd H p (.tup vs)) := by
  obtain ⟨l, r'⟩ := new_step rel (o := .tup vs) hp
  exact h μ _ _ l r' (.tup upd_same (rl.le l))

/-! ### what stands behind a value -/
theorem Rep.sqt {xs : List PV} {v : V} (h : Rep F μ H (.tup xs) v) : ∃ a vs, v = .ref a ∧ SqT F.K H a vs ∧ RepL F μ H xs vs := by
  cases h with
  | tup e q => exact ⟨_, _, rfl, .inl (.inl e), q⟩
  | tupW e q => exact ⟨_, _, rfl, .inr e, q⟩
theorem itemsL_at (rel : Rel F μ α H) {p : PV} {v : V} {xs : List PV} (h : itemsL α p = some xs) (rp : Rep F μ H p v) : ∃ a vs, v = .ref a ∧ H a = some (.lst vs) ∧ RepL F μ H xs vs := by
  cases rp with
  | fl n e q => cases h; exact ⟨_, _, rfl, e, q⟩
  | ref e =>
    rename_i i a
    unfold itemsL at h
    simp only at h
    split at h
    · rename_i ys hy
      cases h
      obtain ⟨vs, e1, q⟩ := rel.obj i a _ e hy
      exact ⟨a, vs, rfl, e1, q⟩
    · cases h
  | _ => simp [itemsL] at h
theorem itemsS_at (rel : Rel F μ α H) {p : PV} {v : V} {xs : List PV} (h : itemsS α p = some xs) (rp : Rep F μ H p v) : ∃ a vs, v = .ref a ∧ RepL F μ H xs vs ∧ ((p = .tup xs ∧ SqT F.K H a vs) ∨ SqL F.K H a vs) := by
  cases rp with
  | tup e q => cases h; exact ⟨_, _, rfl, q, .inl ⟨rfl, .inl (.inl e)⟩⟩
  | tupW e q => cases h; exact ⟨_, _, rfl, q, .inl ⟨rfl, .inr e⟩⟩
  | scr e q => cases h; exact ⟨_, _, rfl, q, .inr e.sql⟩
  | fl n e q =>
    obtain ⟨a, vs, e1, e2, e3⟩ := itemsL_at rel (by simpa [itemsS] using h) (.fl n e q)
    exact ⟨a, vs, e1, e3, .inr (.inl (.inl e2))⟩
  | ref e =>
    obtain ⟨a, vs, e1, e2, e3⟩ := itemsL_at rel (by simpa [itemsS] using h) (.ref e)
    exact ⟨a, vs, e1, e3, .inr (.inl (.inl e2))⟩
  | _ => simp [itemsS, itemsL] at h
mutual
theorem dp_of : ∀ {p : PV} {v : V} {d : PyData}, Rep F μ H p v → toP p = some d → Dp F.K H v d
  | _, _, _, .non, h => by simp [toP] at h; subst h; exact .non
  | _, _, _, .bl b, h => by simp [toP] at h; subst h; exact .bl b
  | _, _, _, .int i, h => by simp [toP] at h; subst h; exact .int i
  | _, _, _, .str x, h => by simp [toP] at h; subst h; exact .str x
  | _, _, _, .tup e q, h => by
    simp only [toP, Option.map_eq_some_iff] at h
    obtain ⟨ds, h, rfl⟩ := h
    exact .tup (.inl (.inl e)) (dps_of q h)
  | _, _, _, .tupW e q, h => by
    simp only [toP, Option.map_eq_some_iff] at h
    obtain ⟨ds, h, rfl⟩ := h
    exact .tup (.inr e) (dps_of q h)
  | _, _, _, .fl n e q, h => by
    simp only [toP, Option.map_eq_some_iff] at h
    obtain ⟨ds, h, rfl⟩ := h
    exact .lst (.inl (.inl e)) (dps_of q h)
  | _, _, _, .scr e q, h => by
    simp only [toP, Option.map_eq_some_iff] at h
    obtain ⟨ds, h, rfl⟩ := h
    exact .lst e.sql (dps_of q h)
  | _, _, _, .ref _, h => by simp [toP] at h
  | _, _, _, .fdK _ _ _, h => by simp [toP] at h
  | _, _, _, .fdX _ _ _ _, h => by simp [toP] at h
  | _, _, _, .obj _ _ _ _ _, h => by simp [toP] at h
  | _, _, _, .st _, h => by simp [toP] at h
theorem dps_of : ∀ {p : List PV} {v : List V} {d : List PyData}, RepL F μ H p v → toPs p = some d → DpAll F.K H v d
  | _, _, _, .nil, h => by simp [toPs] at h; subst h; exact .nil
  | _, _, _, .cons a b, h => by
    simp only [toPs, Option.bind_eq_some_iff, Option.map_eq_some_iff] at h
    obtain ⟨d, h1, ds, h2, rfl⟩ := h
    exact .cons (dp_of a h1) (dps_of b h2)
end
theorem dpA_of (rel : Rel F μ α H) {p : PV} {v : V} {d : PyData} (rp : Rep F μ H p v) (h : toA α p = some d) : Dp F.K H v d := by
  unfold toA at h
  split at h
  · split at h
    · rename_i k xs hk
      simp only [Option.map_eq_some_iff] at h
      obtain ⟨ds, h, rfl⟩ := h
      obtain ⟨a, vs, rfl, e, q⟩ := itemsL_at rel (xs := xs) (by simp [itemsL, hk]) rp
      exact .lst (.inl (.inl e)) (dps_of q h)
    · cases h
  · exact dp_of rp h
theorem toS_at (rel : Rel F μ α H) {p : PV} {v : V} {d : PyData} (rp : Rep F μ H p v) (h : toS α p = some d) : Dp F.K H v d ∧ SeqAt.shaped d = true := by
  simp only [toS, Option.filter_eq_some_iff] at h
  exact ⟨dpA_of rel rp h.1, h.2⟩
theorem lstAt_at (rel : Rel F μ α H) {p : PV} {v : V} {k : Nat} {xs : List PV} (h : lstAt α p = some (k, xs)) (rp : Rep F μ H p v) : ∃ a vs, v = .ref a ∧ μ.on[k]? = some a ∧ α[k]? = some (.lst xs) ∧ H a = some (.lst vs) ∧ RepL F μ H xs vs := by
  unfold lstAt at h
  split at h
  · split at h
    · rename_i i ys hy
      cases h
      cases rp with
      | ref e =>
        obtain ⟨vs, e1, q⟩ := rel.obj _ _ _ e hy
        exact ⟨_, vs, rfl, e, hy, e1, q⟩
    · cases h
  · cases h
/-- a list of the store is changed -/
theorem put_list (rel : Rel F μ α H) {k : Nat} {a : Addr} {xs : List PV} {vs : List V} {ws : List V} (hk : μ.on[k]? = some a) (hH : H a = some (.lst ws)) (q : RepL F μ H xs vs) : Le F μ H μ (upd H a (.lst vs)) ∧ Rel F μ (α.set k (.lst xs)) (upd H a (.lst vs)) :=
  put_step rel hk (fun o u e => by rw [hH] at e; cases e) fun l => ⟨vs, upd_same, q.le l⟩
end

/-! ### where a def's body runs -/
structure Fit (F : Fx) (X : Cx) : Prop where
  P : X.prog = F.P
  w : X.w = F.w
  K : X.K = F.K
  calm : X.calm = true
  gd : X.A.guards = some []
  room : X.A.units + 200 < cLine
  nd : X.N.Nodup

def bopS : Bop → Operator
  | .add => .Add
  | .sub => .Sub
  | .mul => .Mult
  | .fdiv => .FloorDiv
  | .mod => .Mod
  | .pow => .Pow
  | .bor => .BitOr
def copS : Cop → CmpOp
  | .eq => .Eq
  | .ne => .NotEq
  | .lt => .Lt
  | .le => .LtE
  | .gt => .Gt
  | .ge => .GtE
  | .isin => .In
  | .notin => .NotIn
  | .isn => .Is
  | .notn => .IsNot

section
variable {F : Fx} {X : Cx}
/-- an operation of two values, which may hand back something new -/
def OpN (F : Fx) (X : Cx) (f : Value → Value → Sem Value) (pr : PV → PV → AH → Res PV) : Prop :=
  OpR X f (fun x y H Q => ∃ p q μ α, Rel F μ α H ∧ Rep F μ H p x ∧ Rep F μ H q y ∧ PostN F μ H (pr p q α) Q)
theorem need_ok {c : Bool} {r : Res PV} {μ : Zn} {H : Hp} {Q : VK} (h : PostN F μ H (need c r) Q) : c = true ∧ PostN F μ H r Q := by
  cases c with
  | true => exact ⟨rfl, h⟩
  | false => exact h.elim
theorem op_addP (ft : Fit F X) : OpN F X (binaryOp .Add) addP := by
  refine op_imp ((op_add (X := X)).or ((op_add_str (X := X)).or ((op_catA (X := X)).or (op_cat (X := X))))) fun x y H Q h => ?_
  obtain ⟨p, q, μ, α, rel, rp, rq, h⟩ := h
  unfold addP at h
  split at h
  · cases rp; cases rq
    exact .inl ⟨_, _, rfl, rfl, h.here rel (.int _) rfl⟩
  · cases rp; cases rq
    obtain ⟨hc, h⟩ := need_ok h
    exact .inr (.inl ⟨_, _, rfl, rfl, of_decide_eq_true hc, h.here rel (.str _) rfl⟩)
  · obtain ⟨hc, h⟩ := need_ok h
    obtain ⟨a, vs, rfl, e1, q1⟩ := rp.sqt
    obtain ⟨b, ws, rfl, e2, q2⟩ := rq.sqt
    have hz : _ ≤ _ := of_decide_eq_true hc
    rw [q1.length, q2.length] at hz
    refine .inr (.inr (.inl ⟨a, b, vs, ws, rfl, rfl, by rw [ft.K]; exact e1, by rw [ft.K]; exact e2, hz, fun e => ?_, fun _ e => ?_, fun _ _ c hc' => h.newT rel hc' (q1.append q2)⟩))
    · subst e
      have := q1.length
      simp only [List.length_nil, List.length_eq_zero_iff] at this
      subst this
      rw [List.nil_append] at h
      exact h.here rel rq rfl
    · subst e
      have := q2.length
      simp only [List.length_nil, List.length_eq_zero_iff] at this
      subst this
      rw [List.append_nil] at h
      exact h.here rel rp rfl
  · split at h
    · rename_i xs ys hx hy
      obtain ⟨hc, h⟩ := need_ok h
      obtain ⟨a, vs, rfl, e1, q1⟩ := itemsL_at rel hx rp
      obtain ⟨b, ws, rfl, e2, q2⟩ := itemsL_at rel hy rq
      have hz : _ ≤ _ := of_decide_eq_true hc
      rw [q1.length, q2.length] at hz
      exact .inr (.inr (.inr ⟨a, b, vs, ws, rfl, rfl, e1, e2, hz, fun c hc' => h.newL rel hc' (q1.append q2)⟩))
    · exact False.elim h
theorem op_mulP (ft : Fit F X) : OpN F X (binaryOp .Mult) mulP := by
  refine op_imp ((op_mul (X := X)).or ((op_rep (X := X)).or (op_repT (X := X)))) fun x y H Q h => ?_
  obtain ⟨p, q, μ, α, rel, rp, rq, h⟩ := h
  unfold mulP at h
  split at h
  · cases rp; cases rq
    obtain ⟨hc, h⟩ := need_ok h
    have hc' := of_decide_eq_true hc
    exact .inl ⟨_, _, rfl, rfl, hc', h.here rel (.int _) rfl⟩
  · rename_i xs k
    obtain ⟨hc, h⟩ := need_ok h
    obtain ⟨a, vs, rfl, e1, q1⟩ := rp.sqt
    cases rq
    rw [Bool.and_eq_true] at hc
    obtain ⟨h1, h2, h3⟩ := of_decide_eq_true hc.2
    refine .inr (.inr ⟨a, _, vs, rfl, rfl, by rw [ft.K]; exact e1, fun e => ?_, h1, h2, by rw [← q1.length]; exact h3, fun c hc' => h.newT rel hc' (q1.rep _)⟩)
    subst e
    have := q1.length
    simp only [List.length_nil, List.length_eq_zero_iff] at this
    subst this
    cases hc.1
  · split at h
    · rename_i xs hx
      obtain ⟨hc, h⟩ := need_ok h
      obtain ⟨a, vs, rfl, e1, q1⟩ := itemsL_at rel hx rp
      cases rq
      rw [Bool.and_eq_true] at hc
      have h1 := of_decide_eq_true hc.1
      have hz : _ ≤ _ := of_decide_eq_true hc.2
      rw [q1.length] at hz
      exact .inr (.inl ⟨a, _, vs, rfl, rfl, e1, h1.1, h1.2, hz, fun c hc' => h.newL rel hc' (q1.rep _)⟩)
    · exact False.elim h
  · exact False.elim h
theorem op_intsP {f : Value → Value → Sem Value} {C : Int → Int → Prop} {c : Int → Int → Bool} {g : Int → Int → Int} (h : OpR X f (rI C fun i j => .int (g i j))) (hc : ∀ i j, c i j = true → C i j) : OpN F X f (intsP c g) := by
  refine op_imp h fun x y H Q h => ?_
  obtain ⟨p, q, μ, α, rel, rp, rq, h⟩ := h
  unfold intsP at h
  split at h
  · cases rp; cases rq
    obtain ⟨h1, h⟩ := need_ok h
    exact ⟨_, _, rfl, rfl, hc _ _ h1, h.here rel (.int _) rfl⟩
  · exact False.elim h
theorem op_bop (ft : Fit F X) : ∀ o, o ≠ .bor → OpN F X (binaryOp (bopS o)) (bop o) := by
  intro o hb
  cases o with
  | add => exact op_addP ft
  | sub => exact op_intsP (C := fun _ _ => True) (op_imp (op_sub (X := X)) fun x y H Q ⟨i, j, e1, e2, _, q⟩ => ⟨i, j, e1, e2, q⟩) fun _ _ _ => trivial
  | mul => exact op_mulP ft
  | bor => exact absurd rfl hb
  | fdiv => exact op_intsP (op_fdiv (X := X)) fun _ _ h => by have h' := of_decide_eq_true h; exact h'
  | mod => exact op_intsP (op_mod (X := X)) fun _ _ h => by have h' := of_decide_eq_true h; exact h'
  | pow => exact op_intsP (op_pow (X := X)) fun _ _ h => by have h' := of_decide_eq_true h; exact h'
end
end Mw
end
section
set_option Elab.async false
set_option linter.all false
set_option maxRecDepth 100000
set_option maxHeartbeats 2000000
/-! Mw5: dicts. -/
namespace Mw
open PySem PySem.Spec PyProof.Rows L2

section
variable {F : Fx} {X : Cx} {μ : Zn} {H : Hp} {α : AH}

/-! ### keys -/
mutual
theorem nested_of {pins : List (Addr × Obj)} {σ : L2.St} {s : Shared} (ft : Fit F X) (I : Inv X pins σ H s) : ∀ {p : PV} {v : V} {q : NestedKey} {u : Value}, Rep F μ H p v → nkOf p = some q → RelV v u → NestedIs s.heap q u
  | _, _, _, _, .non, h, r => by simp only [nkOf, Option.some.injEq] at h; subst h; cases r; exact .none
  | _, _, _, _, .bl b, h, r => by simp only [nkOf, Option.some.injEq] at h; subst h; cases r; exact .bool rfl
  | _, _, _, _, .int i, h, r => by simp only [nkOf, Option.some.injEq] at h; subst h; obtain ⟨t, rfl⟩ := r; exact .int _ t
  | _, _, _, _, .str x, h, r => by simp only [nkOf, Option.some.injEq] at h; subst h; obtain ⟨t, rfl⟩ := r; exact .text _ t
  | _, _, _, _, .tup e q, h, r => by
    simp only [nkOf, Option.map_eq_some_iff] at h
    obtain ⟨ks, h, rfl⟩ := h
    cases r
    obtain ⟨its, rv, ⟨o, ho, hc, n, hd⟩, _⟩ := I.tuple (.inl (.inl e))
    exact .tup ho hc hd (nesteds_of ft I q h (by simpa using rv))
  | _, _, _, _, .tupW e q, h, r => by
    simp only [nkOf, Option.map_eq_some_iff] at h
    obtain ⟨ks, h, rfl⟩ := h
    cases r
    obtain ⟨its, rv, ⟨o, ho, hc, n, hd⟩, _⟩ := I.tuple (.inr (by rw [ft.K]; exact e))
    exact .tup ho hc hd (nesteds_of ft I q h (by simpa using rv))
  | _, _, _, _, .ref _, h, _ => by simp [nkOf] at h
  | _, _, _, _, .fl _ _ _, h, _ => by simp [nkOf] at h
  | _, _, _, _, .scr _ _, h, _ => by simp [nkOf] at h
  | _, _, _, _, .fdK _ _ _, h, _ => by simp [nkOf] at h
  | _, _, _, _, .fdX _ _ _ _, h, _ => by simp [nkOf] at h
  | _, _, _, _, .obj _ _ _ _ _, h, _ => by simp [nkOf] at h
  | _, _, _, _, .st _, h, _ => by simp [nkOf] at h
theorem nesteds_of {pins : List (Addr × Obj)} {σ : L2.St} {s : Shared} (ft : Fit F X) (I : Inv X pins σ H s) : ∀ {p : List PV} {v : List V} {q : List NestedKey} {u : List Value}, RepL F μ H p v → nksOf p = some q → Vals v u → NestedAll s.heap q u
  | _, _, _, _, .nil, h, r => by simp only [nksOf, Option.some.injEq] at h; subst h; cases r; exact .nil
  | _, _, _, _, .cons a b, h, r => by
    simp only [nksOf, Option.bind_eq_some_iff, Option.map_eq_some_iff] at h
    obtain ⟨d, h1, ds, h2, rfl⟩ := h
    cases r with
    | cons r1 r2 => exact .cons (nested_of ft I a h1 r1) (nesteds_of ft I b h2 r2)
end
def nkK : Key → NestedKey
  | .inl i => .num i
  | .inr x => .text x
theorem nkK_inj {a b : Key} (h : nkK a = nkK b) : a = b := by
  cases a <;> cases b <;> simp [nkK] at h <;> rw [h]
theorem nk_key {k : PV} {q : Key} (h : keyOf k = some q) : nkOf k = some (nkK q) := by
  cases k <;> simp [keyOf] at h <;> subst h <;> rfl
theorem rep_key {k : PV} {q : Key} {y : V} (h : keyOf k = some q) (r : Rep F μ H k y) : y = kV q := by
  cases r <;> simp [keyOf] at h <;> subst h <;> rfl
theorem kmode_false {k : PV} (h : kmode k = some false) : ∃ q, keyOf k = some q := by
  cases k <;> simp [kmode] at h
  · exact ⟨_, rfl⟩
  · exact ⟨_, rfl⟩
  · split at h
    · split at h <;> simp at h
    · simp at h
theorem kmode_true {k : PV} (h : kmode k = some true) : ∃ ks q, k = .tup ks ∧ nkOf (.tup ks) = some q ∧ q.depth ≤ 8 := by
  cases k <;> simp [kmode] at h
  · rename_i ks
    split at h
    · rename_i q hq
      split at h
      · rename_i hd
        exact ⟨ks, q, rfl, hq, hd⟩
      · simp at h
    · simp at h
theorem mode_key {k : PV} {q : Key} (h : keyOf k = some q) : kmode k = some false := by
  cases k <;> simp [keyOf] at h <;> rfl
theorem mode_tup {ks : List PV} {q : NestedKey} (h : nkOf (.tup ks) = some q) (hd : q.depth ≤ 8) : kmode (.tup ks) = some true := by
  simp [kmode, h, hd]

/-! ### pairs -/
theorem dfind_cons (e : PV × PV) (r : List (PV × PV)) (k : PV) : dfind (e :: r) k = if nkOf e.1 = nkOf k then some e.2 else dfind r k := by
  unfold dfind
  rw [List.find?_cons]
  by_cases h : nkOf e.1 = nkOf k
  · simp [h]
  · simp [h]
theorem find_K {k : PV} {q : Key} (hk : keyOf k = some q) : ∀ {kvs : List (PV × PV)} {ks : List (Key × V)}, RepK F μ H kvs ks → (∀ p, dfind kvs k = some p → ∃ v, valV ks q = some v ∧ Rep F μ H p v) ∧ (dfind kvs k = none → valV ks q = none)
  | _, _, .nil => ⟨fun p h => by simp [dfind] at h, fun _ => rfl⟩
  | _, _, .cons (k := k1) (p := p1) (q := q1) (v := v1) (ps := ps) (vs := vs) e a b => by
    obtain ⟨h1, h2⟩ := find_K hk b
    rw [dfind_cons, nk_key e, nk_key hk]
    by_cases hq : q1 = q
    · subst hq
      rw [if_pos rfl]
      exact ⟨fun p h => by cases h; exact ⟨v1, valV_pos rfl, a⟩, fun h => by cases h⟩
    · have : ¬ (some (nkK q1) = some (nkK q)) := fun z => hq (nkK_inj (Option.some.inj z))
      rw [if_neg this]
      refine ⟨fun p h => ?_, fun h => ?_⟩
      · obtain ⟨v, e1, e2⟩ := h1 p h
        exact ⟨v, by rw [valV_neg (by exact hq)]; exact e1, e2⟩
      · rw [valV_neg (by exact hq)]; exact h2 h
theorem isSome_K {k : PV} {q : Key} (hk : keyOf k = some q) {kvs : List (PV × PV)} {ks : List (Key × V)} (r : RepK F μ H kvs ks) : (dfind kvs k).isSome = (valV ks q).isSome := by
  obtain ⟨h1, h2⟩ := find_K hk r
  cases e : dfind kvs k with
  | none => rw [h2 e]; rfl
  | some p => obtain ⟨v, e1, _⟩ := h1 p e; rw [e1]; rfl
theorem map_K {k : PV} {q : Key} (hk : keyOf k = some q) {p : PV} {v : V} (rp : Rep F μ H p v) : ∀ {kvs : List (PV × PV)} {ks : List (Key × V)}, RepK F μ H kvs ks →
    RepK F μ H (kvs.map fun e => if nkOf e.1 = nkOf k then (e.1, p) else e) (ks.map fun kv => if kv.1 = q then (kv.1, v) else kv)
  | _, _, .nil => .nil
  | _, _, .cons (k := k1) (p := p1) (q := q1) (v := v1) (ps := ps) (vs := vs) e a b => by
    rw [List.map_cons, List.map_cons]
    simp only [nk_key e, nk_key hk]
    by_cases hq : q1 = q
    · subst hq
      rw [if_pos rfl, if_pos rfl]
      exact .cons e rp (by simpa only [nk_key hk] using map_K hk rp b)
    · have : ¬ (some (nkK q1) = some (nkK q)) := fun z => hq (nkK_inj (Option.some.inj z))
      rw [if_neg this, if_neg hq]
      exact .cons e a (by simpa only [nk_key hk] using map_K hk rp b)
theorem app_K {kvs ls : List (PV × PV)} {ks ms : List (Key × V)} (a : RepK F μ H kvs ks) (b : RepK F μ H ls ms) : RepK F μ H (kvs ++ ls) (ks ++ ms) := by
  have go : ∀ {kvs : List (PV × PV)} {ks : List (Key × V)}, RepK F μ H kvs ks → RepK F μ H (kvs ++ ls) (ks ++ ms) := by
    intro kvs
    induction kvs with
    | nil => intro ks a; cases a; exact b
    | cons x xs ih => intro ks a; cases a with | cons e p q => exact .cons e p (ih q)
  exact go a
theorem put_K {k : PV} {q : Key} (hk : keyOf k = some q) {p : PV} {v : V} (rp : Rep F μ H p v) {kvs : List (PV × PV)} {ks : List (Key × V)} (r : RepK F μ H kvs ks) : RepK F μ H (dput kvs k p) (putK ks q v) := by
  unfold dput putK
  have e := isSome_K hk r
  rw [valV_any, ← e]
  split
  · exact map_K hk rp r
  · exact app_K r (.cons hk rp .nil)
theorem len_K : ∀ {kvs : List (PV × PV)} {ks : List (Key × V)}, RepK F μ H kvs ks → kvs.length = ks.length
  | _, _, .nil => rfl
  | _, _, .cons _ _ b => by simp [len_K b]

/-- the raw pairs beside the abstract ones -/
abbrev PL : List (NestedKey × Addr × V) → List (NestedKey × Addr × Value) → Prop := Paired (fun (p : NestedKey × Addr × V) (q : NestedKey × Addr × Value) => p.1 = q.1 ∧ p.2.1 = q.2.1 ∧ RelV p.2.2 q.2.2)
theorem atKey_cons (x : NestedKey × Addr × Value) (r : List (NestedKey × Addr × Value)) (q : NestedKey) : atKey (x :: r) q = if x.1 = q then some x.2 else atKey r q := by
  unfold atKey
  rw [List.find?_cons]
  by_cases h : x.1 = q
  · simp [h]
  · simp [h]
theorem find_X {k : PV} {q : NestedKey} (hk : nkOf k = some q) : ∀ {kvs : List (PV × PV)} {L : List (NestedKey × Addr × V)} {xs : List (NestedKey × Addr × Value)}, RepX F μ H kvs L → PL L xs →
    (∀ p, dfind kvs k = some p → ∃ v b u, atKey xs q = some (b, u) ∧ RelV v u ∧ Rep F μ H p v) ∧ (dfind kvs k = none → atKey xs q = none)
  | _, _, _, .nil, .nil => ⟨fun p h => by simp [dfind] at h, fun _ => rfl⟩
  | _, _, _, .cons (q := q1) (v := v1) e d c a b, .cons (b := x) (l₂ := xs) r rr => by
    obtain ⟨h1, h2⟩ := find_X hk b rr
    obtain ⟨r1, r2, r3⟩ := r
    rw [dfind_cons, atKey_cons, ← r1]
    simp only [e, hk]
    by_cases hq : q1 = q
    · subst hq
      rw [if_pos rfl, if_pos rfl]
      exact ⟨fun p h => by cases h; exact ⟨v1, x.2.1, x.2.2, rfl, r3, a⟩, fun h => by cases h⟩
    · have : ¬ (some q1 = some q) := fun z => hq (Option.some.inj z)
      rw [if_neg this, if_neg hq]
      exact ⟨h1, h2⟩
theorem isSome_X {k : PV} {q : NestedKey} (hk : nkOf k = some q) {kvs : List (PV × PV)} {L : List (NestedKey × Addr × V)} {xs : List (NestedKey × Addr × Value)} (r : RepX F μ H kvs L) (p : PL L xs) : (dfind kvs k).isSome = (atKey xs q).isSome := by
  obtain ⟨h1, h2⟩ := find_X hk r p
  cases e : dfind kvs k with
  | none => rw [h2 e]; rfl
  | some p => obtain ⟨v, b, u, e1, _⟩ := h1 p e; rw [e1]; rfl
def putX (L : List (NestedKey × Addr × V)) (there : Bool) (q : NestedKey) (b : Addr) (v : V) : List (NestedKey × Addr × V) :=
  if there then L.map (fun x => if x.1 = q then (x.1, x.2.1, v) else x) else L ++ [(q, b, v)]
theorem map_X {k : PV} {q : NestedKey} (hk : nkOf k = some q) {p : PV} {v : V} (rp : Rep F μ H p v) : ∀ {kvs : List (PV × PV)} {L : List (NestedKey × Addr × V)}, RepX F μ H kvs L →
    RepX F μ H (kvs.map fun e => if nkOf e.1 = nkOf k then (e.1, p) else e) (L.map fun x => if x.1 = q then (x.1, x.2.1, v) else x)
  | _, _, .nil => .nil
  | _, _, .cons (q := q1) (v := v1) e d c a b => by
    rw [List.map_cons, List.map_cons]
    simp only [e, hk]
    by_cases hq : q1 = q
    · subst hq
      rw [if_pos rfl, if_pos rfl]
      exact .cons e d c rp (by simpa only [hk] using map_X hk rp b)
    · have : ¬ (some q1 = some q) := fun z => hq (Option.some.inj z)
      rw [if_neg this, if_neg hq]
      exact .cons e d c a (by simpa only [hk] using map_X hk rp b)
theorem app_X {kvs ls : List (PV × PV)} {ks ms : List (NestedKey × Addr × V)} (a : RepX F μ H kvs ks) (b : RepX F μ H ls ms) : RepX F μ H (kvs ++ ls) (ks ++ ms) := by
  have go : ∀ {kvs : List (PV × PV)} {ks : List (NestedKey × Addr × V)}, RepX F μ H kvs ks → RepX F μ H (kvs ++ ls) (ks ++ ms) := by
    intro kvs
    induction kvs with
    | nil => intro ks a; cases a; exact b
    | cons x xs ih => intro ks a; cases a with | cons e d c p q => exact .cons e d c p (ih q)
  exact go a
theorem put_X {ks : List PV} {q : NestedKey} (hk : nkOf (.tup ks) = some q) (hd : q.depth ≤ 8) {c : Addr} (rc : Rep F μ H (.tup ks) (.ref c)) {p : PV} {v : V} (rp : Rep F μ H p v) {kvs : List (PV × PV)} {L : List (NestedKey × Addr × V)} (r : RepX F μ H kvs L) :
    RepX F μ H (dput kvs (.tup ks) p) (putX L (dfind kvs (.tup ks)).isSome q c v) := by
  unfold dput putX
  split
  · exact map_X hk rp r
  · exact app_X r (.cons hk hd rc rp .nil)
theorem len_X : ∀ {kvs : List (PV × PV)} {L : List (NestedKey × Addr × V)}, RepX F μ H kvs L → kvs.length = L.length
  | _, _, .nil => rfl
  | _, _, .cons _ _ _ _ b => by simp [len_X b]
theorem pl_map {q : NestedKey} {v : V} {u : Value} (rv : RelV v u) : ∀ {L : List (NestedKey × Addr × V)} {xs : List (NestedKey × Addr × Value)}, PL L xs → PL (L.map fun x => if x.1 = q then (x.1, x.2.1, v) else x) (xs.map (putAt q u))
  | _, _, .nil => .nil
  | _, _, .cons (a := y) (b := x) r rr => by
    obtain ⟨r1, r2, r3⟩ := r
    refine .cons ?_ (pl_map rv rr)
    unfold putAt
    dsimp only
    by_cases h : y.1 = q
    · rw [if_pos h, if_pos (by rw [← r1]; exact h)]
      exact ⟨r1, r2, rv⟩
    · rw [if_neg h, if_neg (by rw [← r1]; exact h)]
      exact ⟨r1, r2, r3⟩
theorem pl_app {L M : List (NestedKey × Addr × V)} {xs ys : List (NestedKey × Addr × Value)} (a : PL L xs) (b : PL M ys) : PL (L ++ M) (xs ++ ys) := by
  induction a with
  | nil => exact b
  | cons r _ ih => exact .cons r ih
theorem pl_put {q : NestedKey} {c : Addr} {v : V} {u : Value} (rv : RelV v u) {L : List (NestedKey × Addr × V)} {xs : List (NestedKey × Addr × Value)} (r : PL L xs) : PL (putX L (atKey xs q).isSome q c v) (storedH xs q c u) := by
  unfold putX storedH
  split
  · exact pl_map rv r
  · exact pl_app r (.cons ⟨rfl, rfl, rv⟩ .nil)
theorem len_putX (L : List (NestedKey × Addr × V)) (t : Bool) (q : NestedKey) (c : Addr) (v : V) : (putX L t q c v).length ≤ L.length + 1 := by
  unfold putX
  split <;> simp

/-! ### the raw dict -/
variable {pins : List (Addr × Obj)} {σ : L2.St} {s : Shared} {a : Addr}
theorem dx_raw (ft : Fit F X) (I : Inv X pins σ H s) {kvs : List (PV × PV)} {L : List (NestedKey × Addr × V)} (e : H a = some (DX F.P F.w a L)) (r : RepX F μ H kvs L) :
    L.length ≤ sizeLine ∧ (a == sysModules) = false ∧ ∃ xs, PL L xs ∧ s.heap.DictOfH (nestedKind F.P F.w) a xs := by
  obtain ⟨⟨hz, hd, xs, pl, o, es, ep, h1, h2, h3, h4, h5⟩, _⟩ := I.hok a _ e
  refine ⟨hz, hd, xs, pl, o, es, ep, h1, h2, h3, h4, ?_, h5⟩
  have all : ∀ {kvs : List (PV × PV)} {L : List (NestedKey × Addr × V)} {xs : List (NestedKey × Addr × Value)}, RepX F μ H kvs L → PL L xs → ∀ x ∈ xs, (nestedKind F.P F.w).is s.heap x.1 x.2.1 := by
    intro kvs L xs r p
    induction p generalizing kvs with
    | nil => intro x hx; cases hx
    | cons hq _ ih =>
      intro x hx
      cases r with
      | cons e d c a b =>
        rcases List.mem_cons.mp hx with ex | hx
        · subst ex
          obtain ⟨r1, r2, r3⟩ := hq
          exact ⟨nested_of ft I c (by rw [e]; exact congrArg some r1) (by show Value.ref _ = Value.ref _; rw [← r2]), by rw [← r1]; exact d⟩
        · exact ih b x hx
  exact all r pl
theorem dx_ok (ft : Fit F X) {h' : Heap} {H' : Hp} {L : List (NestedKey × Addr × V)} {xs : List (NestedKey × Addr × Value)} (hz : L.length ≤ sizeLine) (hd : (a == sysModules) = false) (pl : PL L xs) (dd : h'.DictOfH (nestedKind F.P F.w) a xs) :
    ObjOk X.prog X.w H' h' a (DX F.P F.w a L) := by
  obtain ⟨o, es, ep, h1, h2, h3, h4, _, h5⟩ := dd
  refine ⟨⟨hz, hd, xs, pl, o, es, ep, h1, h2, h3, h4, h5⟩, ⟨o, h1⟩, ?_⟩
  rintro g1 g2 ⟨z1, z2, ys, p, o', es', ep', k1, k2, k3, k4, k5⟩ st
  exact ⟨z1, z2, ys, p, o', es', ep', st _ k1, k2, k3, k4, k5⟩
theorem dx_empty (ft : Fit F X) (I : Inv X pins σ H s) (e : H a = some (.dK [])) : Inv X pins σ (upd H a (DX F.P F.w a [])) s := by
  obtain ⟨z, hd, vs, rel, o, es, ep, h1, h2, h3, h4, h5, h6⟩ := dk_rd I.hok (.inl e)
  cases rel
  have hes : es.toList = [] := by
    cases q : es.toList with
    | nil => rfl
    | cons x xs => rw [q] at h5; cases h5
  have I' : Inv X pins σ (upd H a (DX F.P F.w a [])) { s with heap := s.heap, toks := s.toks } := I.write (by rw [e]; trivial) (.inl rfl) (fun _ _ _ q => q) ⟨o, h1⟩
    ⟨⟨Nat.zero_le _, hd, [], .nil, o, es, ep, h1, h2, h3, by rw [hes]; rfl, List.nodup_nil⟩, ⟨o, h1⟩, by
      rintro g1 g2 ⟨z1, z2, ys, p, o', es', ep', k1, k2, k3, k4, k5⟩ st
      exact ⟨z1, z2, ys, p, o', es', ep', st _ k1, k2, k3, k4, k5⟩⟩
  exact I'
theorem dk_back (ft : Fit F X) (I : Inv X pins σ H s) (e : H a = some (DX F.P F.w a [])) : Inv X pins σ (upd H a (.dK [])) s := by
  obtain ⟨⟨hz, hd, xs, pl, o, es, ep, h1, h2, h3, h4, h5⟩, _⟩ := I.hok a _ e
  cases pl
  have I' : Inv X pins σ (upd H a (.dK [])) { s with heap := s.heap, toks := s.toks } := I.write (by rw [e]; trivial) (.inl rfl) (fun _ _ _ q => q) ⟨o, h1⟩
    ⟨Nat.zero_le _, hd, [], Paired.nil, o, es, ep, h1, h2, h3, (fun x hx => by rw [← Array.mem_toList_iff, h4] at hx; cases hx), (by rw [h4]; exact .nil), List.nodup_nil⟩
  exact I'

theorem lockP_ok (ft : Fit F X) (I : Inv X pins σ H s) {P : Hp → Prop} (h : LockP F H P) : ∃ H2, Inv X pins σ H2 s ∧ P H2 := by
  rcases h with h | ⟨a, u, e, k, h⟩ | ⟨a, e, h⟩
  · exact ⟨H, I, h⟩
  · obtain ⟨od, J⟩ := I.lock e (by rcases k with ⟨_, rfl⟩ | ⟨_, rfl⟩ <;> trivial)
    exact ⟨_, J, h od⟩
  · have I1 := dk_back ft I e
    obtain ⟨od, J⟩ := I1.lock (d := a) (u := .dK []) upd_same trivial
    rw [upd_upd] at J
    exact ⟨_, J, h od⟩
/-- a dict that may be read -/
def DctR (F : Fx) (μ : Zn) (H : Hp) (a : Addr) (kvs : List (PV × PV)) : Prop :=
  OR F μ H a (.dct kvs) ∨ (∃ ob ks, H a = some (.frz ob (.dK ks)) ∧ RepK F μ H kvs ks) ∨ ∃ ob L, kvs ≠ [] ∧ H a = some (.frz ob (DX F.P F.w a L)) ∧ RepX F μ H kvs L
theorem all_is (ft : Fit F X) (I : Inv X pins σ H s) : ∀ {kvs : List (PV × PV)} {L : List (NestedKey × Addr × V)} {xs : List (NestedKey × Addr × Value)}, RepX F μ H kvs L → PL L xs → ∀ x ∈ xs, (nestedKind F.P F.w).is s.heap x.1 x.2.1 := by
  intro kvs L xs r p
  induction p generalizing kvs with
  | nil => intro x hx; cases hx
  | cons hq _ ih =>
    intro x hx
    cases r with
    | cons e d c a b =>
      rcases List.mem_cons.mp hx with ex | hx
      · subst ex
        obtain ⟨r1, r2, r3⟩ := hq
        exact ⟨nested_of ft I c (by rw [e]; exact congrArg some r1) (by show Value.ref _ = Value.ref _; rw [← r2]), by rw [← r1]; exact d⟩
      · exact ih b x hx
/-- .. locked -/
theorem dx_rawF (ft : Fit F X) (I : Inv X pins σ H s) {ob : Obj} {kvs : List (PV × PV)} {L : List (NestedKey × Addr × V)} (e : H a = some (.frz ob (DX F.P F.w a L))) (r : RepX F μ H kvs L) :
    L.length ≤ sizeLine ∧ (a == sysModules) = false ∧ ∃ xs, PL L xs ∧ s.heap.DictOfH (nestedKind F.P F.w) a xs := by
  obtain ⟨_, ⟨hz, hd, xs, pl, o, es, ep, h1, h2, h3, h4, h5⟩, _⟩ := I.hok a _ e
  exact ⟨hz, hd, xs, pl, o, es, ep, h1, h2, h3, h4, all_is ft I r pl, h5⟩
/-- what a dict is, whichever keys it has -/
theorem dct_type (ft : Fit F X) (I : Inv X pins σ H s) {kvs : List (PV × PV)} (o : DctR F μ H a kvs) : s.TypeIs (.ref a) "dict" ∧ (∀ b, Value.ref a = .ref b → ∃ ob, s.heap.get? b = some ob ∧ ob.dict = none) ∧ (a == sysModules) = false := by
  have fin : ∀ {xs : List (NestedKey × Addr × Value)}, (a == sysModules) = false → s.heap.DictOfH (nestedKind F.P F.w) a xs → s.TypeIs (.ref a) "dict" ∧ (∀ b, Value.ref a = .ref b → ∃ ob, s.heap.get? b = some ob ∧ ob.dict = none) ∧ (a == sysModules) = false := fun hd dd => by
    refine ⟨dd.typeIs, fun b q => ?_, hd⟩
    cases q
    obtain ⟨ob, _, _, h1, h2, _⟩ := dd
    exact ⟨ob, h1, h2.2.1⟩
  rcases o with (⟨ks, e, r⟩ | ⟨L, e, r⟩) | ⟨ob, ks, e, r⟩ | ⟨ob, L, _, e, r⟩
  · exact isD_at I (.inl ⟨ks, .inl e⟩)
  · obtain ⟨hz, hd, xs, pl, dd⟩ := dx_raw ft I e r
    exact fin hd dd
  · exact isD_at I (.inl ⟨ks, .inr ⟨ob, e⟩⟩)
  · obtain ⟨hz, hd, xs, pl, dd⟩ := dx_rawF ft I e r
    exact fin hd dd
theorem kok_key {kvs : List (PV × PV)} {k : PV} (h : kok kvs k = true) : (∃ q, keyOf k = some q ∧ (∀ e r, kvs = e :: r → kmode e.1 = some false)) ∨
    ∃ ks q, k = .tup ks ∧ nkOf (.tup ks) = some q ∧ q.depth ≤ 8 ∧ (∀ e r, kvs = e :: r → kmode e.1 = some true) := by
  unfold kok at h
  split at h
  · cases h
  · rename_i m hm
    have hh : ∀ e r, kvs = e :: r → kmode e.1 = some m := fun e r he => by subst he; simpa using h
    cases m with
    | false => obtain ⟨q, hq⟩ := kmode_false hm; exact .inl ⟨q, hq, hh⟩
    | true => obtain ⟨ks, q, e1, e2, e3⟩ := kmode_true hm; exact .inr ⟨ks, q, e1, e2, e3, hh⟩
/-- the dict as one with int and text keys, or as one with tuple keys; an empty one as is wanted -/
theorem dct_as (ft : Fit F X) (I : Inv X pins σ H s) {kvs : List (PV × PV)} {k : PV} (hk : kok kvs k = true) (o : OR F μ H a (.dct kvs)) :
    (∃ q ks, keyOf k = some q ∧ RepK F μ H kvs ks ∧ (H a = some (.dK ks) ∨ (kvs = [] ∧ Inv X pins σ (upd H a (.dK ks)) s))) ∨
      ∃ ts q L, k = .tup ts ∧ nkOf (.tup ts) = some q ∧ q.depth ≤ 8 ∧ RepX F μ H kvs L ∧ (H a = some (DX F.P F.w a L) ∨ (kvs = [] ∧ Inv X pins σ (upd H a (DX F.P F.w a L)) s)) := by
  rcases kok_key hk with ⟨q, hq, hm⟩ | ⟨ts, q, e1, e2, e3, hm⟩
  · refine .inl ?_
    rcases o with ⟨ks, e, r⟩ | ⟨L, e, r⟩
    · exact ⟨q, ks, hq, r, .inl e⟩
    · cases r with
      | nil => exact ⟨q, [], hq, .nil, .inr ⟨rfl, dk_back ft I e⟩⟩
      | cons e1 d c p b => exact absurd (hm _ _ rfl) (by rw [mode_tup e1 d]; simp)
  · refine .inr ?_
    rcases o with ⟨ks, e, r⟩ | ⟨L, e, r⟩
    · cases r with
      | nil => exact ⟨ts, q, [], e1, e2, e3, .nil, .inr ⟨rfl, dx_empty ft I e⟩⟩
      | cons e4 p b => exact absurd (hm _ _ rfl) (by rw [mode_key e4]; simp)
    · exact ⟨ts, q, L, e1, e2, e3, r, .inl e⟩
end
end Mw
end
section
set_option Elab.async false
set_option linter.all false
set_option maxRecDepth 100000
set_option maxHeartbeats 2000000
/-! Mw6: dict rules by values; comparisons; subscripts; slices; built-ins; methods. -/
namespace Mw
open PySem PySem.Spec PyProof.Rows L2

section
variable {F : Fx} {X : Cx} {μ : Zn} {H : Hp} {α : AH} {pins : List (Addr × Obj)} {σ : L2.St} {s : Shared} {a : Addr}

theorem upd_eq {G : Hp} {b : Addr} {o : HO} (h : G b = some o) : upd G b o = G := by
  funext c
  by_cases e : c = b
  · subst e; rw [upd_same, h]
  · rw [upd_ne e]
/-- the dict as the key wants it, and back -/
theorem dct_see (ft : Fit F X) (I : Inv X pins σ H s) {kvs : List (PV × PV)} {k : PV} (hk : kok kvs k = true) (o : OR F μ H a (.dct kvs)) :
    ∃ H1, Inv X pins σ H1 s ∧ (∀ s', Inv X pins σ H1 s' → Inv X pins σ H s') ∧ (∀ o, upd H1 a o = upd H a o) ∧
      ((∃ q ks, keyOf k = some q ∧ RepK F μ H1 kvs ks ∧ RepK F μ H kvs ks ∧ H1 a = some (.dK ks)) ∨
        ∃ ts q L, k = .tup ts ∧ nkOf (.tup ts) = some q ∧ q.depth ≤ 8 ∧ RepX F μ H1 kvs L ∧ RepX F μ H kvs L ∧ H1 a = some (DX F.P F.w a L)) := by
  rcases kok_key hk with ⟨q, hq, hm⟩ | ⟨ts, q, e1, e2, e3, hm⟩
  · rcases o with ⟨ks, e, r⟩ | ⟨L, e, r⟩
    · exact ⟨H, I, fun _ h => h, fun _ => rfl, .inl ⟨q, ks, hq, r, r, e⟩⟩
    · cases r with
      | nil =>
        refine ⟨_, dk_back ft I e, fun s' I' => ?_, fun _ => upd_upd, .inl ⟨q, [], hq, .nil, .nil, upd_same⟩⟩
        have := dx_empty ft I' upd_same
        rw [upd_upd, upd_eq e] at this
        exact this
      | cons e1 d c p b => exact absurd (hm _ _ rfl) (by rw [mode_tup e1 d]; simp)
  · rcases o with ⟨ks, e, r⟩ | ⟨L, e, r⟩
    · cases r with
      | nil =>
        refine ⟨_, dx_empty ft I e, fun s' I' => ?_, fun _ => upd_upd, .inr ⟨ts, q, [], e1, e2, e3, .nil, .nil, upd_same⟩⟩
        have := dk_back ft I' upd_same
        rw [upd_upd, upd_eq e] at this
        exact this
      | cons e4 p b => exact absurd (hm _ _ rfl) (by rw [mode_key e4]; simp)
    · exact ⟨H, I, fun _ h => h, fun _ => rfl, .inr ⟨ts, q, L, e1, e2, e3, r, r, e⟩⟩
theorem rep_ref {ts : List PV} {y : V} (h : Rep F μ H (.tup ts) y) : ∃ b, y = .ref b := by
  cases h with
  | tup _ _ => exact ⟨_, rfl⟩
  | tupW _ _ => exact ⟨_, rfl⟩
theorem nroom {A : Around} (h : A.units + 200 < cLine) : (nestedKind F.P F.w).room A.in1 := by
  show A.units + 1 + 8 < cLine
  omega
variable {A : Around} {E : Value → Shared → Prop} {kvs : List (PV × PV)} {k : PV} {y : V} {u : Value}
/-- a dict that is read, as the key wants it -/
theorem dct_rd (ft : Fit F X) (I : Inv X pins σ H s) (hk : kok kvs k = true) (o : DctR F μ H a kvs) :
    ∃ H1, Inv X pins σ H1 s ∧ (∀ s', Inv X pins σ H1 s' → Inv X pins σ H s') ∧
      ((∃ q ks, keyOf k = some q ∧ RepK F μ H kvs ks ∧ Rd H1 a (.dK ks)) ∨
        ∃ ts q L xs, k = .tup ts ∧ nkOf (.tup ts) = some q ∧ q.depth ≤ 8 ∧ RepX F μ H kvs L ∧ PL L xs ∧ (a == sysModules) = false ∧ s.heap.DictOfH (nestedKind F.P F.w) a xs) := by
  rcases o with o | ⟨ob, ks, e, r⟩ | ⟨ob, L, hne, e, r⟩
  · obtain ⟨H1, I1, back, _, c⟩ := dct_see ft I hk o
    refine ⟨H1, I1, back, ?_⟩
    rcases c with ⟨q, ks, hq, _, r, e⟩ | ⟨ts, q, L, rfl, hq, hd, r1, r, e⟩
    · exact .inl ⟨q, ks, hq, r, .inl e⟩
    · obtain ⟨hz, hs, xs, pl, dd⟩ := dx_raw ft I1 e r1
      exact .inr ⟨ts, q, L, xs, rfl, hq, hd, r, pl, hs, dd⟩
  · rcases kok_key hk with ⟨q, hq, hm⟩ | ⟨ts, q, e1, e2, e3, hm⟩
    · exact ⟨H, I, fun _ h => h, .inl ⟨q, ks, hq, r, .inr ⟨ob, e⟩⟩⟩
    · cases r with
      | nil =>
        obtain ⟨z, hd, vs, rel, o, es, ep, h1, h2, h3, h4, h5, h6⟩ := dk_rd I.hok (.inr ⟨ob, e⟩)
        cases rel
        have hes : es.toList = [] := by
          cases q : es.toList with
          | nil => rfl
          | cons x xs => rw [q] at h5; cases h5
        exact ⟨H, I, fun _ h => h, .inr ⟨ts, q, [], [], e1, e2, e3, .nil, .nil, hd, o, es, ep, h1, h2, h3, by rw [hes]; rfl, (fun x hx => by cases hx), List.nodup_nil⟩⟩
      | cons e4 p b => exact absurd (hm _ _ rfl) (by rw [mode_key e4]; simp)
  · rcases kok_key hk with ⟨q, hq, hm⟩ | ⟨ts, q, e1, e2, e3, hm⟩
    · cases r with
      | nil => exact absurd rfl hne
      | cons e1 d c p b => exact absurd (hm _ _ rfl) (by rw [mode_tup e1 d]; simp)
    · obtain ⟨hz, hs, xs, pl, dd⟩ := dx_rawF ft I e r
      exact ⟨H, I, fun _ h => h, .inr ⟨ts, q, L, xs, e1, e2, e3, r, pl, hs, dd⟩⟩
theorem dget_rd {H : Hp} {ks : List (Key × V)} {q : Key} (e : Rd H a (.dK ks)) : DGet H a (kV q) (valV ks q) := .inl ⟨ks, q, e, rfl, rfl⟩
/-- d[k], there -/
theorem dx_get (ft : Fit F X) (hu : A.units + 200 < cLine) (I : Inv X pins σ H s) {Q : Value → Shared → Prop} (hk : kok kvs k = true) (o : DctR F μ H a kvs) (rk : Rep F μ H k y) (ry : RelV y u) {p : PV} (hp : dfind kvs k = some p)
    (h : ∀ v w' s', Inv X pins σ H s' → RelV v w' → Rep F μ H p v → Q w' s') : wpAny (model X.prog X.w) A (getItem (.ref a) u) Q E s := by
  obtain ⟨H1, I1, back, c⟩ := dct_rd ft I hk o
  rcases c with ⟨q, ks, hq, r, e⟩ | ⟨ts, q, L, xs, rfl, hq, hd, r, pl, hs, dd⟩
  · obtain ⟨v, e1, e2⟩ := (find_K hq r).1 p hp
    rw [rep_key hq rk] at ry
    exact d_getItem (by omega) I1 (by rw [← e1]; exact dget_rd e) ry fun w' s' I' rw' => h v w' s' (back s' I') rw' e2
  · obtain ⟨b, rfl⟩ := rep_ref rk
    cases ry
    obtain ⟨v, b', u', e1, e2, e3⟩ := (find_X hq r pl).1 p hp
    rw [ft.P, ft.w]
    exact wpAny_getItem_heap (nroom hu) ⟨nested_of ft I rk hq rfl, hd⟩ dd e1 (h v _ _ (back _ (I1.tok _)) e2 e3)
theorem dx_in (ft : Fit F X) (hu : A.units + 200 < cLine) (I : Inv X pins σ H s) {Q : Value → Shared → Prop} (hk : kok kvs k = true) (o : DctR F μ H a kvs) (rk : Rep F μ H k y) (ry : RelV y u)
    (h : ∀ s', Inv X pins σ H s' → Q (.bool (dfind kvs k).isSome) s') : wpAny (model X.prog X.w) A (compareOp .In u (.ref a)) Q E s := by
  obtain ⟨H1, I1, back, c⟩ := dct_rd ft I hk o
  rcases c with ⟨q, ks, hq, r, e⟩ | ⟨ts, q, L, xs, rfl, hq, hd, r, pl, hs, dd⟩
  · rw [rep_key hq rk] at ry
    rw [isSome_K hq r] at h
    exact d_in (by omega) I1 (dget_rd e) ry fun s' I' => h s' (back s' I')
  · obtain ⟨b, rfl⟩ := rep_ref rk
    cases ry
    rw [isSome_X hq r pl] at h
    rw [ft.P, ft.w]
    exact wpAny_in_heap (nroom hu) ⟨nested_of ft I rk hq rfl, hd⟩ hs dd (h _ (back _ (I1.tok _)))
theorem dx_notIn (ft : Fit F X) (hu : A.units + 200 < cLine) (I : Inv X pins σ H s) {Q : Value → Shared → Prop} (hk : kok kvs k = true) (o : DctR F μ H a kvs) (rk : Rep F μ H k y) (ry : RelV y u)
    (h : ∀ s', Inv X pins σ H s' → Q (.bool (!(dfind kvs k).isSome)) s') : wpAny (model X.prog X.w) A (compareOp .NotIn u (.ref a)) Q E s := by
  obtain ⟨H1, I1, back, c⟩ := dct_rd ft I hk o
  rcases c with ⟨q, ks, hq, r, e⟩ | ⟨ts, q, L, xs, rfl, hq, hd, r, pl, hs, dd⟩
  · rw [rep_key hq rk] at ry
    rw [isSome_K hq r] at h
    exact d_notIn (by omega) I1 (dget_rd e) ry fun s' I' => h s' (back s' I')
  · obtain ⟨b, rfl⟩ := rep_ref rk
    cases ry
    rw [isSome_X hq r pl] at h
    rw [ft.P, ft.w]
    exact wpAny_notIn_heap (nroom hu) ⟨nested_of ft I rk hq rfl, hd⟩ hs dd (h _ (back _ (I1.tok _)))
/-- d[k] = v, the dict of the store -/
theorem dx_set (ft : Fit F X) (hu : A.units + 200 < cLine) (I : Inv X pins σ H s) {Q : Unit → Shared → Prop} (rel : Rel F μ α H) {i : Nat} (hi : μ.on[i]? = some a) (ha : α[i]? = some (.dct kvs)) (hk : kok kvs k = true) (hl : kvs.length < sizeLine)
    (rk : Rep F μ H k y) (ry : RelV y u) {p : PV} {v : V} {w' : Value} (rp : Rep F μ H p v) (rv : RelV v w')
    (h : ∀ H' s', Inv X pins σ H' s' → Le F μ H μ H' → Rel F μ (α.set i (.dct (dput kvs k p))) H' → Q () s') : wpAny (model X.prog X.w) A (setItem (.ref a) u w') Q E s := by
  have o : OR F μ H a (.dct kvs) := rel.obj i a _ hi ha
  obtain ⟨H1, I1, back, hup, c⟩ := dct_see ft I hk o
  rcases c with ⟨q, ks, hq, _, r, e⟩ | ⟨ts, q, L, rfl, hq, hd, r1, r, e⟩
  · rw [rep_key hq rk] at ry
    rw [len_K r] at hl
    refine d_setItem (by omega) I1 (DPut.k e hl) ry rv fun s' I' => ?_
    rw [hup] at I'
    obtain ⟨l, rel'⟩ := put_step rel (o' := .dK (putK ks q v)) (ao := .dct (dput kvs k p)) hi o.nf fun l => .inl ⟨_, upd_same, (put_K hq rp r).le l⟩
    exact h _ s' I' l rel'
  · obtain ⟨b, rfl⟩ := rep_ref rk
    cases ry
    obtain ⟨hz, hs, xs, pl, dd⟩ := dx_raw ft I1 e r1
    rw [len_X r] at hl
    have hxs : xs.length ≤ sizeLine := by rw [← Paired.length pl]; exact hz
    have hL : (putX L (dfind kvs (.tup ts)).isSome q b v).length ≤ sizeLine := by have := len_putX L (dfind kvs (.tup ts)).isSome q b v; omega
    rw [ft.P, ft.w]
    refine wpAny_setItem_heap (hsz := hxs) (nroom hu) ⟨nested_of ft I rk hq rfl, hd⟩ dd fun h' dd' hsb => ?_
    have pl' := pl_put (q := q) (c := b) rv pl
    rw [← isSome_X hq r pl] at pl'
    have he : ∃ q, h'.get? a = some q := let ⟨q, _, _, hq, _⟩ := dd'; ⟨q, hq⟩
    have I' := d_write (t' := s.toks + (nestedKind F.P F.w).draws q) I1 (by rw [e]; exact True.intro) hsb he (dx_ok (H' := upd H1 a (DX F.P F.w a (putX L (dfind kvs (.tup ts)).isSome q b v))) ft hL hs pl' dd')
    rw [hup] at I'
    obtain ⟨l, rel'⟩ := put_step rel (o' := DX F.P F.w a (putX L (dfind kvs (.tup ts)).isSome q b v)) (ao := .dct (dput kvs (.tup ts) p)) hi o.nf fun l => .inr ⟨_, upd_same, (put_X hq hd rk rp r).le l⟩
    exact h _ _ I' l rel'
/-- d.setdefault(k, v), the dict of the store -/
theorem dx_setdefault (ft : Fit F X) (hu : A.units + 200 < cLine) (I : Inv X pins σ H s) {Q : Value → Shared → Prop} (rel : Rel F μ α H) {i : Nat} (hi : μ.on[i]? = some a) (ha : α[i]? = some (.dct kvs)) (hk : kok kvs k = true) (hl : kvs.length < sizeLine)
    (hkt : kmode k = some true) (rk : Rep F μ H k y) (ry : RelV y u) {p : PV} {v : V} {w' : Value} (rp : Rep F μ H p v) (rv : RelV v w')
    (h1 : ∀ x z r s', dfind kvs k = some x → Inv X pins σ H s' → RelV z r → Rep F μ H x z → Q r s')
    (h2 : dfind kvs k = none → ∀ H' s', Inv X pins σ H' s' → Le F μ H μ H' → Rel F μ (α.set i (.dct (kvs ++ [(k, p)]))) H' → Q w' s') : wpAny (model X.prog X.w) A (call (.builtin "dict.setdefault") [.ref a, u, w']) Q E s := by
  have o : OR F μ H a (.dct kvs) := rel.obj i a _ hi ha
  obtain ⟨H1, I1, back, hup, c⟩ := dct_see ft I hk o
  rcases c with ⟨q, ks, hq, _, r, e⟩ | ⟨ts, q, L, rfl, hq, hd, r1, r, e⟩
  · rw [mode_key hq] at hkt; cases hkt
  · obtain ⟨b, rfl⟩ := rep_ref rk
    cases ry
    obtain ⟨hz, hs, xs, pl, dd⟩ := dx_raw ft I1 e r1
    rw [len_X r] at hl
    have hxs : xs.length ≤ sizeLine := by rw [← Paired.length pl]; exact hz
    obtain ⟨f1, f2⟩ := find_X hq r pl
    rw [ft.P, ft.w]
    refine call_setdefault_heap (hsz := hxs) (nroom hu) ⟨nested_of ft I rk hq rfl, hd⟩ hs dd (fun pr hpr => ?_) fun hn h' dd' hsb => ?_
    · cases hx : dfind kvs (.tup ts) with
      | none => rw [f2 hx] at hpr; cases hpr
      | some x =>
        obtain ⟨z, b', u', e1, e2, e3⟩ := f1 x hx
        rw [e1] at hpr; cases hpr
        exact h1 x z _ _ hx (back _ (I1.tok _)) e2 e3
    · have hx : dfind kvs (.tup ts) = none := by
        cases hx : dfind kvs (.tup ts) with
        | none => rfl
        | some x => obtain ⟨z, b', u', e1, _⟩ := f1 x hx; rw [hn] at e1; cases e1
      have hL : (L ++ [(q, b, v)]).length ≤ sizeLine := by rw [List.length_append]; simp; omega
      have pl' : PL (L ++ [(q, b, v)]) (storedH xs q b w') := by rw [storedH_new hn]; exact pl_app pl (.cons ⟨rfl, rfl, rv⟩ .nil)
      have he : ∃ q, h'.get? a = some q := let ⟨q, _, _, hq, _⟩ := dd'; ⟨q, hq⟩
      have I' := d_write (t' := s.toks + (nestedKind F.P F.w).draws q) I1 (by rw [e]; exact True.intro) hsb he (dx_ok (H' := upd H1 a (DX F.P F.w a (L ++ [(q, b, v)]))) ft hL hs pl' dd')
      rw [hup] at I'
      obtain ⟨l, rel'⟩ := put_step rel (o' := DX F.P F.w a (L ++ [(q, b, v)])) (ao := .dct (kvs ++ [(.tup ts, p)])) hi o.nf fun l => .inr ⟨_, upd_same, (app_X r (.cons hq hd rk rp .nil)).le l⟩
      exact h2 hx _ _ I' l rel'
/-- a dict that is read: of the store or not -/
theorem pairsD_at (rel : Rel F μ α H) {p : PV} {v : V} {kvs : List (PV × PV)} (h : pairsD α p = some kvs) (rp : Rep F μ H p v) : ∃ a, v = .ref a ∧ DctR F μ H a kvs := by
  cases rp with
  | fdK n e q => cases h; exact ⟨_, rfl, .inr (.inl ⟨_, _, e, q⟩)⟩
  | fdX n z e q => cases h; exact ⟨_, rfl, .inr (.inr ⟨_, _, z, e, q⟩)⟩
  | ref e =>
    unfold pairsD at h
    simp only at h
    split at h
    · rename_i ys hy
      cases h
      exact ⟨_, rfl, .inl (rel.obj _ _ _ e hy)⟩
    · cases h
  | _ => simp [pairsD] at h
theorem dctAt_at (rel : Rel F μ α H) {p : PV} {v : V} {k : Nat} {kvs : List (PV × PV)} (h : dctAt α p = some (k, kvs)) (rp : Rep F μ H p v) : ∃ a, v = .ref a ∧ μ.on[k]? = some a ∧ α[k]? = some (.dct kvs) := by
  unfold dctAt at h
  split at h
  · split at h
    · rename_i i ys hy
      cases h
      cases rp with
      | ref e => exact ⟨_, rfl, e, hy⟩
    · cases h
  · cases h

/-! ### comparisons -/
theorem scalP_at {p q : PV} {x y : V} (h : scalP p q = true) (rp : Rep F μ H p x) (rq : Rep F μ H q y) : scal x y = true ∧ decide (x = y) = decide (p = q) := by
  cases p <;> cases q <;> simp only [scalP, Bool.false_eq_true] at h <;> (cases rp; cases rq; exact ⟨rfl, by simp⟩)
theorem eqP_at (rel : Rel F μ α H) {p q : PV} {x y : V} (rp : Rep F μ H p x) (rq : Rep F μ H q y) {Q : VK} {f : Bool → Bool} (h : PostN F μ H ((eqP p q α).bind fun b α => .ok (.bl (f b)) α) Q) :
    (scal x y = true ∧ Q (.bl (f (decide (x = y)))) H) ∨ ∃ d e, Dp F.K H x d ∧ Dp F.K H y e ∧ SeqAt.shaped d = true ∧ SeqAt.shaped e = true ∧ Q (.bl (f (PyData.eqv d e))) H := by
  unfold eqP at h
  cases hs : scalP p q with
  | true =>
    rw [hs] at h
    obtain ⟨h1, h2⟩ := scalP_at hs rp rq
    exact .inl ⟨h1, by rw [h2]; exact PostN.here rel h (.bl _) rfl⟩
  | false =>
    rw [hs] at h
    refine .inr ?_
    dsimp only at h
    split at h
    · rename_i d e hd he
      obtain ⟨d1, d2⟩ := toS_at rel rp hd
      obtain ⟨e1, e2⟩ := toS_at rel rq he
      exact ⟨d, e, d1, e1, d2, e2, PostN.here rel h (.bl _) rfl⟩
    · exact False.elim h
theorem ints_at {p q : PV} {x y : V} (rel : Rel F μ α H) (rp : Rep F μ H p x) (rq : Rep F μ H q y) {Q : VK} {f : Int → Int → Bool} (h : PostN F μ H (cmpI f p q α) Q) : ∃ i j, x = .int i ∧ y = .int j ∧ Q (.bl (f i j)) H := by
  unfold cmpI at h
  split at h
  · cases rp; cases rq
    exact ⟨_, _, rfl, rfl, PostN.here rel h (.bl _) rfl⟩
  · exact False.elim h
/-- x in c, by what c is -/
theorem in_core (ft : Fit F X) {op : CmpOp} {f : Bool → Bool} (hdct : ∀ {kvs : List (PV × PV)} {k : PV} {y : V} {u : Value} {H : Hp} {μ : Zn} {a : Addr} {pins : List (Addr × Obj)} {σ : L2.St} {s : Shared} {Q : Value → Shared → Prop}, Inv X pins σ H s → kok kvs k = true → DctR F μ H a kvs → Rep F μ H k y → RelV y u →
      (∀ s', Inv X pins σ H s' → Q (.bool (f (dfind kvs k).isSome)) s') → wpAny (model X.prog X.w) X.A (compareOp op u (.ref a)) Q X.xe s)
    (hstr : OpR X (compareOp op) (fun x y H Q => ∃ i j, x = .str i ∧ y = .str j ∧ Q (.bl (f (!(Builtin.Str.occurrences j i 0 j.length 1).isEmpty))) H))
    (hlst : OpR X (compareOp op) (fun x y H Q => ∃ d ds, Dp X.K H x d ∧ (Dp X.K H y (.list ds) ∨ Dp X.K H y (.tuple ds)) ∧ SeqAt.shaped d = true ∧ SeqAt.shaped (.list ds) = true ∧ Q (.bl (f (ds.any fun z => PyData.eqv z d))) H)) :
    OpN F X (compareOp op) (fun p q α => (inP p q α).bind fun b α => .ok (.bl (f b)) α) := by
  intro pins s σ H x y v u Q I rx ry h
  obtain ⟨p, q, μ, α, rel, rp, rq, h⟩ := h
  unfold inP at h
  dsimp only at h
  split at h
  · rename_i kvs hkv
    obtain ⟨a, rfl, o⟩ := pairsD_at rel hkv rq
    cases ry
    cases hk : kok kvs p with
    | false => rw [hk] at h; exact False.elim h
    | true =>
      rw [hk] at h
      exact hdct I hk o rp rx fun s' I' => ⟨.bl _, H, I', rfl, PostN.here rel h (.bl _) rfl⟩
  · split at h
    · exact False.elim h
    · cases rp; cases rq
      exact hstr pins s σ H _ _ v u Q I rx ry ⟨_, _, rfl, rfl, PostN.here rel h (.bl _) rfl⟩
    · split at h
      · rename_i xs ds d h1 h2 h3
        obtain ⟨e1, e2⟩ := toS_at rel rq h2
        obtain ⟨d1, d2⟩ := toS_at rel rp h3
        exact hlst pins s σ H x y v u Q I rx ry ⟨d, ds, by rw [ft.K]; exact d1, .inl (by rw [ft.K]; exact e1), d2, e2, PostN.here rel h (.bl _) rfl⟩
      · rename_i xs ds d h1 h2 h3
        obtain ⟨e1, e2⟩ := toS_at rel rq h2
        obtain ⟨d1, d2⟩ := toS_at rel rp h3
        have e2' : SeqAt.shaped (.list ds) = true := by
          unfold SeqAt.shaped at e2 ⊢
          simpa [PyData.canLay0, PyData.depth] using e2
        exact hlst pins s σ H x y v u Q I rx ry ⟨d, ds, by rw [ft.K]; exact d1, .inr (by rw [ft.K]; exact e1), d2, e2', PostN.here rel h (.bl _) rfl⟩
      · exact False.elim h
theorem op_inSeq (hu : X.A.units + 65 < cLine) : OpR X (compareOp .In) (fun x y H Q => ∃ d ds, Dp X.K H x d ∧ (Dp X.K H y (.list ds) ∨ Dp X.K H y (.tuple ds)) ∧ SeqAt.shaped d = true ∧ SeqAt.shaped (.list ds) = true ∧ Q (.bl (ds.any fun z => PyData.eqv z d)) H) := by
  intro pins s σ H x y v u Q I rx ry h
  obtain ⟨d, ds, hd, he, sd, se, q⟩ := h
  obtain ⟨as, r1⟩ := Dp.reads I d x v hd rx
  rcases he with he | he
  · obtain ⟨bs, r2⟩ := Dp.reads I _ y u he ry
    exact SeqAt.in_list_reads r2 r1 (SeqAt.canLay_of_shaped se) (SeqAt.canLay_of_shaped sd) (room_in_shaped sd hu) ⟨.bl _, H, I, rfl, q⟩
  · obtain ⟨bs, r2⟩ := Dp.reads I _ y u he ry
    exact SeqAt.in_tuple_reads r2 r1 (SeqAt.canLay_of_shaped se) (SeqAt.canLay_of_shaped sd) (room_in_shaped sd hu) ⟨.bl _, H, I, rfl, q⟩
theorem op_notInSeq (hu : X.A.units + 65 < cLine) : OpR X (compareOp .NotIn) (fun x y H Q => ∃ d ds, Dp X.K H x d ∧ (Dp X.K H y (.list ds) ∨ Dp X.K H y (.tuple ds)) ∧ SeqAt.shaped d = true ∧ SeqAt.shaped (.list ds) = true ∧ Q (.bl (!(ds.any fun z => PyData.eqv z d))) H) := by
  intro pins s σ H x y v u Q I rx ry h
  obtain ⟨d, ds, hd, he, sd, se, q⟩ := h
  obtain ⟨as, r1⟩ := Dp.reads I d x v hd rx
  rcases he with he | he
  · obtain ⟨bs, r2⟩ := Dp.reads I _ y u he ry
    exact SeqAt.notIn_list_reads r2 r1 (SeqAt.canLay_of_shaped se) (SeqAt.canLay_of_shaped sd) (room_in_shaped sd hu) ⟨.bl _, H, I, rfl, q⟩
  · obtain ⟨bs, r2⟩ := Dp.reads I _ y u he ry
    exact SeqAt.notIn_tuple_reads r2 r1 (SeqAt.canLay_of_shaped se) (SeqAt.canLay_of_shaped sd) (room_in_shaped sd hu) ⟨.bl _, H, I, rfl, q⟩
/-- data compared by their order -/
theorem op_ord (hu : X.A.units + 200 < cLine) {op : CmpOp} {g : PyData → PyData → Bool}
    (rule : ∀ {s : Shared} {a b : Value} {da db : PyData} {as bs : List Addr} {Q : Value → Shared → Prop}, PySem.Reads s.heap a da as → PySem.Reads s.heap b db bs → PySem.W.alike da db = true → da ≠ .none → X.A.units + min da.depth db.depth < cLine → Q (.bool (g da db)) s →
      wpAny (model X.prog X.w) X.A (compareOp op a b) Q X.xe s) :
    OpR X (compareOp op) (fun x y H Q => ∃ d e, Dp X.K H x d ∧ Dp X.K H y e ∧ ordOk d e = true ∧ Q (.bl (g d e)) H) := by
  intro pins s σ H x y v u Q I rx ry h
  obtain ⟨d, e, hd, he, ok, q⟩ := h
  simp only [ordOk, Bool.and_eq_true, decide_eq_true_eq] at ok
  obtain ⟨as, r1⟩ := Dp.reads I d x v hd rx
  obtain ⟨bs, r2⟩ := Dp.reads I e y u he ry
  refine rule r1 r2 ok.1.1 (fun z => by subst z; cases ok.1.2) (by have := ok.2; omega) ⟨.bl _, H, I, rfl, q⟩
theorem ord_at (rel : Rel F μ α H) {p q : PV} {x y : V} (rp : Rep F μ H p x) (rq : Rep F μ H q y) {Q : VK} {f : Int → Int → Bool} {g : PyData → PyData → Bool} (h : PostN F μ H (cmpO f g p q α) Q) :
    (∃ i j, x = .int i ∧ y = .int j ∧ Q (.bl (f i j)) H) ∨ ∃ d e, Dp F.K H x d ∧ Dp F.K H y e ∧ ordOk d e = true ∧ Q (.bl (g d e)) H := by
  unfold cmpO at h
  split at h
  · cases rp; cases rq
    exact .inl ⟨_, _, rfl, rfl, PostN.here rel h (.bl _) rfl⟩
  · split at h
    · rename_i d e h1 h2
      obtain ⟨hc, h⟩ := need_ok h
      exact .inr ⟨d, e, dpA_of rel rp h1, dpA_of rel rq h2, hc, PostN.here rel h (.bl _) rfl⟩
    · exact h.elim
theorem op_cop (ft : Fit F X) : ∀ o, OpN F X (compareOp (copS o)) (cop o) := by
  have hr := ft.room
  intro o
  cases o with
  | eq =>
    refine op_imp ((op_eq (X := X)).or (op_eqD (X := X) (by omega))) fun x y H Q ⟨p, q, μ, α, rel, rp, rq, h⟩ => ?_
    rw [rEqD, ft.K]
    exact eqP_at (f := fun b => b) rel rp rq h
  | ne =>
    refine op_imp ((op_ne (X := X)).or (op_neD (X := X) (by omega))) fun x y H Q ⟨p, q, μ, α, rel, rp, rq, h⟩ => ?_
    rw [rNeD, ft.K]
    exact eqP_at (f := fun b => !b) rel rp rq h
  | lt =>
    refine op_imp ((op_lt (X := X)).or (op_ord (X := X) hr fun ra rb h hn hu hq => PySem.W.lt_data ra rb h hn hu hq)) fun x y H Q ⟨p, q, μ, α, rel, rp, rq, h⟩ => ?_
    rw [ft.K]
    exact ord_at rel rp rq h
  | le =>
    refine op_imp ((op_le (X := X)).or (op_ord (X := X) hr fun ra rb h hn hu hq => PySem.W.le_data ra rb h hn hu hq)) fun x y H Q ⟨p, q, μ, α, rel, rp, rq, h⟩ => ?_
    rw [ft.K]
    exact ord_at rel rp rq h
  | gt =>
    refine op_imp ((op_gt (X := X)).or (op_ord (X := X) hr fun ra rb h hn hu hq => PySem.W.gt_data ra rb h hn hu hq)) fun x y H Q ⟨p, q, μ, α, rel, rp, rq, h⟩ => ?_
    rw [ft.K]
    exact ord_at rel rp rq h
  | ge =>
    refine op_imp ((op_ge (X := X)).or (op_ord (X := X) hr fun ra rb h hn hu hq => PySem.W.ge_data ra rb h hn hu hq)) fun x y H Q ⟨p, q, μ, α, rel, rp, rq, h⟩ => ?_
    rw [ft.K]
    exact ord_at rel rp rq h
  | isin =>
    exact in_core (op := .In) (f := fun b => b) ft (fun I hk o rk ry h => dx_in ft hr I hk o rk ry h) (op_in_str (X := X)) (op_inSeq (by omega))
  | notin =>
    exact in_core (op := .NotIn) (f := fun b => !b) ft (fun I hk o rk ry h => dx_notIn ft hr I hk o rk ry h) (op_notin_str (X := X)) (op_notInSeq (by omega))
  | isn =>
    refine op_imp ((op_isN (X := X)).or (op_isBl (X := X))) fun x y H Q ⟨p, q, μ, α, rel, rp, rq, h⟩ => ?_
    simp only [cop] at h
    split at h
    · cases rq
      refine .inl ⟨rfl, ?_⟩
      have e : decide (p = PV.non) = decide (x = V.non) := by cases rp <;> simp
      rw [← e]
      exact PostN.here rel h (.bl _) rfl
    · cases rq
      split at h
      · cases rp
        exact .inr ⟨_, _, rfl, rfl, PostN.here rel h (.bl _) rfl⟩
      · exact False.elim h
    · exact False.elim h
  | notn =>
    refine op_imp ((op_notN (X := X)).or (op_notBl (X := X))) fun x y H Q ⟨p, q, μ, α, rel, rp, rq, h⟩ => ?_
    simp only [cop] at h
    split at h
    · cases rq
      refine .inl ⟨rfl, ?_⟩
      have e : decide (p = PV.non) = decide (x = V.non) := by cases rp <;> simp
      rw [← e]
      exact PostN.here rel h (.bl _) rfl
    · cases rq
      split at h
      · cases rp
        exact .inr ⟨_, _, rfl, rfl, PostN.here rel h (.bl _) rfl⟩
      · exact False.elim h
    · exact False.elim h
end
end Mw
end
section
set_option Elab.async false
set_option linter.all false
set_option maxRecDepth 100000
set_option maxHeartbeats 2000000
/-! Mw7: subscripts, slices, stores, built-ins, methods. -/
namespace Mw
open PySem PySem.Spec PyProof.Rows L2

section
variable {F : Fx} {X : Cx} {μ : Zn} {H : Hp} {α : AH}

theorem need_okG {β : Type} {c : Bool} {r : Res β} {γ : Type} {R : Zn → Hp → β → γ → Prop} {Q : γ → Hp → Prop} (h : Post F μ H (need c r) R Q) : c = true ∧ Post F μ H r R Q := by
  cases c with
  | true => exact ⟨rfl, h⟩
  | false => exact h.elim
theorem rep_at : ∀ {ps : List PV} {vs : List V} {i : Int} {p : PV}, RepL F μ H ps vs → atI ps i = some p → ∃ v, atI vs i = some v ∧ Rep F μ H p v := by
  intro ps vs i p r h
  unfold atI at h ⊢
  rw [← r.length]
  cases e : ixN ps.length i with
  | none => rw [e] at h; cases h
  | some j =>
    rw [e] at h
    exact r.get h

/-! ### o[i] -/
theorem ix_all (ft : Fit F X) : IxR X (fun x y H Q => ∃ p q μ α, Rel F μ α H ∧ Rep F μ H p x ∧ Rep F μ H q y ∧ Post F μ H (ixP p q α) (Rep F) Q) := by
  intro value slice pins s σ H x y v u Q I rx ry h hs
  obtain ⟨p, q, μ, α, rel, rp, rq, h⟩ := h
  unfold ixP at h
  split at h
  · rename_i kvs hkv
    obtain ⟨a, rfl, o⟩ := pairsD_at rel hkv rp
    cases rx
    obtain ⟨hk, h⟩ := need_okG h
    cases hf : dfind kvs q with
    | none => rw [hf] at h; exact False.elim h
    | some z =>
      rw [hf] at h
      exact tail_any (ops := [.ref a, u]) (dct_type ft I o).1 PySem.F.slot_dict_getitem.lookup (dx_get ft ft.room I hk o rq ry hf fun zv w' s' I' rw' rz => ⟨zv, H, I', rw', Post.here rel h rz⟩) hs
  · split at h
    · rename_i str j
      cases rp; cases rq
      obtain ⟨hz, h⟩ := need_okG h
      split at h
      · rename_i c hc
        exact ix_str value slice pins s σ H _ _ v u Q I rx ry ⟨_, _, c, rfl, rfl, of_decide_eq_true hz, hc, Post.here rel h (.str _)⟩ hs
      · exact False.elim h
    · split at h
      · rename_i xs hx
        cases rq
        cases hp : atI xs _ with
        | none => rw [hp] at h; exact False.elim h
        | some z =>
          rw [hp] at h
          obtain ⟨a, vs, rfl, rl, c⟩ := itemsS_at rel hx rp
          obtain ⟨zv, e1, e2⟩ := rep_at rl hp
          rcases c with ⟨_, c⟩ | c
          · exact ix_tup value slice pins s σ H _ _ v u Q I rx ry ⟨a, vs, _, zv, rfl, rfl, by rw [ft.K]; exact c, e1, Post.here rel h e2⟩ hs
          · exact ix_list value slice pins s σ H _ _ v u Q I rx ry ⟨a, vs, _, zv, rfl, rfl, by rw [ft.K]; exact c, e1, Post.here rel h e2⟩ hs
      · exact False.elim h
    · exact False.elim h

/-! ### o[lo:hi], o[::-1] -/
theorem cut_rep {ps : List PV} {vs : List V} (r : RepL F μ H ps vs) (lo hi : Option Int) : RepL F μ H (cutP ps lo hi) (cutV vs lo hi) := by
  unfold cutP cutV
  rw [r.length]
  exact (r.drop _).take _
theorem sl_all (ft : Fit F X) : SlR X (fun x lo hi H Q => ∃ p μ α, Rel F μ α H ∧ Rep F μ H p x ∧ PostN F μ H (slP p lo hi α) Q) := by
  refine fun pins s σ H x v vl vu lo hi sl Q I rx hs pl pu h => ?_
  obtain ⟨p, μ, α, rel, rp, h⟩ := h
  unfold slP at h
  split at h
  · rename_i xs0
    obtain ⟨a, vs, rfl, e, q⟩ := rp.sqt
    refine sl_tupA pins s σ H _ v vl vu lo hi sl Q I rx hs pl pu ⟨a, vs, rfl, by rw [ft.K]; exact e, fun hw => ?_, fun _ c hc => h.newT rel hc (cut_rep q lo hi)⟩
    have : cutP xs0 lo hi = xs0 := by
      unfold cutP
      rw [q.length, hw.1, hw.2, List.drop_zero, Nat.sub_zero, ← q.length, List.take_length]
    rw [this] at h
    exact h.here rel rp rfl
  · obtain ⟨hz, h⟩ := need_ok h
    cases rp
    exact sl_str pins s σ H _ v vl vu lo hi sl Q I rx hs pl pu ⟨_, rfl, of_decide_eq_true hz, h.here rel (.str _) rfl⟩
  · rename_i hnt _
    split at h
    · rename_i xs hx
      obtain ⟨a, vs, rfl, rl, c⟩ := itemsS_at rel hx rp
      rcases c with ⟨e, _⟩ | c
      · exact absurd e (hnt xs)
      · exact sl_list pins s σ H _ v vl vu lo hi sl Q I rx hs pl pu ⟨a, vs, rfl, by rw [ft.K]; exact c, fun c hc => h.newL rel hc (cut_rep rl lo hi)⟩
    · exact False.elim h
theorem rev_at (ft : Fit F X) {p : PV} {x : V} {Q : VK} (rel : Rel F μ α H) (rp : Rep F μ H p x) (h : PostN F μ H (revP p α) Q) : ∃ a xs, x = .ref a ∧ SqL X.K H a xs ∧ ∀ p, H p = none → Q (.ref p) (upd H p (.lst xs.reverse)) := by
  unfold revP at h
  split at h
  · exact False.elim h
  · rename_i hnt
    split at h
    · rename_i xs hx
      obtain ⟨a, vs, rfl, rl, c⟩ := itemsS_at rel hx rp
      rcases c with ⟨e, _⟩ | c
      · exact absurd e (hnt xs)
      · exact ⟨a, vs, rfl, by rw [ft.K]; exact c, fun c hc => h.newL rel hc rl.reverse⟩
    · exact False.elim h

/-! ### o[i] = v -/
theorem set_all (ft : Fit F X) : PSet X (fun o i v H Q => ∃ p q r μ α, Rel F μ α H ∧ Rep F μ H p o ∧ Rep F μ H q i ∧ Rep F μ H r v ∧ Post F μ H (setP p q r α) (fun _ _ _ (_ : Unit) => True) (fun _ H' => Q H')) := by
  intro pins s σ H o i v ov iv u Q I ro ri rv h
  obtain ⟨p, q, r, μ, α, rel, rp, rq, rr, h⟩ := h
  unfold setP at h
  split at h
  · rename_i k kvs hk
    obtain ⟨a, rfl, hi, ha⟩ := dctAt_at rel hk rp
    cases ro
    obtain ⟨hc, h⟩ := need_okG h
    rw [Bool.and_eq_true] at hc
    exact dx_set ft ft.room I rel hi ha hc.1 (of_decide_eq_true hc.2) rq ri rr rv fun H' s' I' l rel' => ⟨H', I', h _ _ () l rel' trivial⟩
  · split at h
    · rename_i k xs j hk
      obtain ⟨a, vs, rfl, hi, ha, hH, rl⟩ := lstAt_at rel hk rp
      cases rq
      split at h
      · rename_i n hn
        obtain ⟨l, rel'⟩ := put_list rel hi hH (rl.set rr n)
        exact set_list pins s σ H _ _ v ov iv u Q I ro ri rv ⟨a, vs, _, n, rfl, rfl, hH, by rw [← rl.length]; exact hn, h _ _ () l rel' trivial⟩
      · exact False.elim h
    · exact False.elim h

/-! ### built-ins -/
theorem bls_at : ∀ {ps : List PV} {vs : List V} {bs : List Bool}, RepL F μ H ps vs → blsOf ps = some bs → vs = bs.map V.bl
  | _, _, _, .nil, h => by simp only [blsOf, Option.some.injEq] at h; subst h; rfl
  | _, _, _, .cons a b, h => by
    cases a <;> simp only [blsOf, Option.map_eq_some_iff, reduceCtorEq] at h
    obtain ⟨ds, h, rfl⟩ := h
    rw [bls_at b h]
    rfl
def b1I : B1 → Value
  | .len => .builtin "len"
  | .list => .type "list"
  | .tuple => .type "tuple"
  | .sorted => .builtin "sorted"
  | .all => .builtin "all"
  | .any => .builtin "any"
  | .repr => .builtin "repr"
  | .str => .type "str"
  | .int => .type "int"
  | .set => .type "set"
  | .dict => .type "dict"
  | .min => .builtin "min"
  | .max => .builtin "max"
def b2I : B2 → Value
  | .min => .builtin "min"
  | .max => .builtin "max"
/-- a built-in called with one value -/
def CrN (F : Fx) (X : Cx) (f : Value) (pr : PV → AH → Res PV) : Prop := CallR X f (fun xs H Q => ∃ x p μ α, xs = [x] ∧ Rel F μ α H ∧ Rep F μ H p x ∧ PostN F μ H (pr p α) Q)
/-- the raw entries of a dict: keys and values -/
structure RawD (d : Addr) (o : Obj) (es : Array DictEntry) (ep : Nat) (ks vs : List V) : Prop where
  ns : (d == sysModules) = false
  ex : o.ExactDict
  dat : o.data = .dict es ep
  lk : ks.length = es.size
  lv : vs.length = es.size
  key : ∀ (i : Nat) (e : DictEntry) (v : V), es[i]? = some e → ks[i]? = some v → RelV v e.key
  val : ∀ (i : Nat) (e : DictEntry) (v : V), es[i]? = some e → vs[i]? = some v → RelV v e.val
  sz : es.size ≤ sizeLine
theorem rawD_K {P : Program} {w : World} {h : Heap} {d : Addr} {ks : List (Key × V)} (hok : ObjOk P w H h d (.dK ks)) :
    ∃ ob es ep, h.get? d = some ob ∧ RawD d ob es ep (ks.map fun p => kV p.1) (ks.map (·.2)) := by
  obtain ⟨z, hd, vs, rel, ob, es, ep, h1, h2, h3, h4, h5, h6⟩ := hok
  have e1 : ks.length = vs.length := Paired.length rel
  have e2 : es.toList.length = vs.length := h5.length
  rw [Array.length_toList] at e2
  refine ⟨ob, es, ep, h1, hd, h2, h3, by rw [List.length_map]; omega, by rw [List.length_map]; omega, fun i e v he hv => ?_, fun i e v he hv => ?_, by omega⟩
  · rw [List.getElem?_map] at hv
    cases hk : ks[i]? with
    | none => rw [hk] at hv; cases hv
    | some p =>
      rw [hk] at hv
      cases hv
      obtain ⟨u, hu, ru⟩ := kv_get (k := p.1) (v := p.2) rel hk
      obtain ⟨e4, _⟩ := h5.get? (by rw [Array.getElem?_toList]; exact he) hu
      exact relV_key e4
  · rw [List.getElem?_map] at hv
    cases hk : ks[i]? with
    | none => rw [hk] at hv; cases hv
    | some p =>
      rw [hk] at hv
      cases hv
      obtain ⟨u, hu, ru⟩ := kv_get (k := p.1) (v := p.2) rel hk
      obtain ⟨_, e3⟩ := h5.get? (by rw [Array.getElem?_toList]; exact he) hu
      rw [e3]; exact ru
theorem rawD_X {P : Program} {w : World} {h : Heap} {d : Addr} {L : List (NestedKey × Addr × V)} (hok : ObjOk P w H h d (DX P w d L)) :
    ∃ ob es ep, h.get? d = some ob ∧ RawD d ob es ep (L.map fun p => .ref p.2.1) (L.map (·.2.2)) := by
  obtain ⟨⟨hz, hd, xs, pl, ob, es, ep, h1, h2, h3, h4, h5⟩, _⟩ := hok
  have e1 : L.length = xs.length := Paired.length pl
  have e2 := congrArg List.length h4
  rw [Array.length_toList, List.length_map] at e2
  refine ⟨ob, es, ep, h1, hd, h2, h3, by rw [List.length_map]; omega, by rw [List.length_map]; omega, fun i e v he hv => ?_, fun i e v he hv => ?_, by omega⟩
  · rw [List.getElem?_map] at hv
    cases hk : L[i]? with
    | none => rw [hk] at hv; cases hv
    | some p =>
      rw [hk] at hv
      cases hv
      obtain ⟨b, hb, q1, q2, q3⟩ := L2.paired_get pl hk
      have e3 : es.toList[i]? = some e := by rw [Array.getElem?_toList]; exact he
      rw [h4, List.getElem?_map, hb] at e3
      cases e3
      show Value.ref _ = Value.ref _
      rw [q2]
  · rw [List.getElem?_map] at hv
    cases hk : L[i]? with
    | none => rw [hk] at hv; cases hv
    | some p =>
      rw [hk] at hv
      cases hv
      obtain ⟨b, hb, q1, q2, q3⟩ := L2.paired_get pl hk
      have e3 : es.toList[i]? = some e := by rw [Array.getElem?_toList]; exact he
      rw [h4, List.getElem?_map, hb] at e3
      cases e3
      exact q3
theorem rep_of_key {k : PV} {q : Key} (h : keyOf k = some q) : Rep F μ H k (kV q) := by
  cases k <;> simp only [keyOf, Option.some.injEq, reduceCtorEq] at h
  · subst h; exact .int _
  · subst h; exact .str _
theorem repK_keys : ∀ {kvs : List (PV × PV)} {ks : List (Key × V)}, RepK F μ H kvs ks → RepL F μ H (kvs.map (·.1)) (ks.map fun p => kV p.1)
  | _, _, .nil => .nil
  | _, _, .cons e a b => .cons (rep_of_key e) (repK_keys b)
theorem repX_keys : ∀ {kvs : List (PV × PV)} {L : List (NestedKey × Addr × V)}, RepX F μ H kvs L → RepL F μ H (kvs.map (·.1)) (L.map fun p => .ref p.2.1)
  | _, _, .nil => .nil
  | _, _, .cons e d c a b => .cons c (repX_keys b)
theorem repK_vals : ∀ {kvs : List (PV × PV)} {ks : List (Key × V)}, RepK F μ H kvs ks → RepL F μ H (kvs.map (·.2)) (ks.map (·.2))
  | _, _, .nil => .nil
  | _, _, .cons e a b => .cons a (repK_vals b)
theorem repX_vals : ∀ {kvs : List (PV × PV)} {ks : List (NestedKey × Addr × V)}, RepX F μ H kvs ks → RepL F μ H (kvs.map (·.2)) (ks.map (·.2.2))
  | _, _, .nil => .nil
  | _, _, .cons e d c a b => .cons a (repX_vals b)
theorem dctR_raw {pins : List (Addr × Obj)} {σ : L2.St} {s : Shared} (ft : Fit F X) (I : Inv X pins σ H s) {a : Addr} {kvs : List (PV × PV)} (o : DctR F μ H a kvs) :
    ∃ ob es ep ks vs, s.heap.get? a = some ob ∧ RawD a ob es ep ks vs ∧ RepL F μ H (kvs.map (·.1)) ks ∧ RepL F μ H (kvs.map (·.2)) vs := by
  have hok : HOk F.P F.w H s.heap := by rw [← ft.P, ← ft.w]; exact I.hok
  rcases o with (⟨ks, e, r⟩ | ⟨L, e, r⟩) | ⟨ob, ks, e, r⟩ | ⟨ob, L, _, e, r⟩
  · obtain ⟨ob, es, ep, h1, h2⟩ := rawD_K (hok a _ e)
    exact ⟨ob, es, ep, _, _, h1, h2, repK_keys r, repK_vals r⟩
  · obtain ⟨ob, es, ep, h1, h2⟩ := rawD_X (hok a _ e)
    exact ⟨ob, es, ep, _, _, h1, h2, repX_keys r, repX_vals r⟩
  · obtain ⟨ob, es, ep, h1, h2⟩ := rawD_K (hok a _ e).2
    exact ⟨ob, es, ep, _, _, h1, h2, repK_keys r, repK_vals r⟩
  · obtain ⟨ob, es, ep, h1, h2⟩ := rawD_X (hok a _ e).2
    exact ⟨ob, es, ep, _, _, h1, h2, repX_keys r, repX_vals r⟩
theorem vals_of_get : ∀ {vs : List V} {us : List Value}, vs.length = us.length → (∀ (i : Nat) v u, vs[i]? = some v → us[i]? = some u → RelV v u) → Vals vs us
  | [], [], _, _ => .nil
  | [], _ :: _, h, _ => by cases h
  | _ :: _, [], h, _ => by cases h
  | v :: vs, u :: us, h, hi => .cons (hi 0 v u rfl rfl) (vals_of_get (by simpa using h) fun i x y hx hy => hi (i + 1) x y (by simpa using hx) (by simpa using hy))
/-- what a walk over the keys gives -/
theorem RawD.keys {d : Addr} {o : Obj} {es : Array DictEntry} {ep : Nat} {ks vs : List V} (R : RawD d o es ep ks vs) : Vals ks (es.toList.map (·.key)) := by
  refine vals_of_get (by rw [List.length_map, Array.length_toList]; exact R.lk) fun i v u hv hu => ?_
  rw [List.getElem?_map, Array.getElem?_toList] at hu
  cases he : es[i]? with
  | none => rw [he] at hu; cases hu
  | some e => rw [he] at hu; cases hu; exact R.key i e v he hv
theorem RawD.vals {d : Addr} {o : Obj} {es : Array DictEntry} {ep : Nat} {ks vs : List V} (R : RawD d o es ep ks vs) : Vals vs (es.toList.map (·.val)) := by
  refine vals_of_get (by rw [List.length_map, Array.length_toList]; exact R.lv) fun i v u hv hu => ?_
  rw [List.getElem?_map, Array.getElem?_toList] at hu
  cases he : es[i]? with
  | none => rw [he] at hu; cases hu
  | some e => rw [he] at hu; cases hu; exact R.val i e v he hv
theorem itemsOf_eq {es : Array DictEntry} {f : DictEntry → Value} {acc : Array Value} (h : ItemsOf (fun i v => ∃ hi : i < es.size, v = f es[i]) acc es.size) : acc.toList = es.toList.map f := by
  apply List.ext_getElem?
  intro i
  rw [Array.getElem?_toList, List.getElem?_map, Array.getElem?_toList]
  obtain ⟨h1, h2⟩ := h
  by_cases hi : i < es.size
  · have ha : i < acc.size := by omega
    obtain ⟨_, e⟩ := h2 i acc[i] (Array.getElem?_eq_getElem ha)
    rw [Array.getElem?_eq_getElem ha, Array.getElem?_eq_getElem hi, Option.map_some, e]
  · rw [Array.getElem?_eq_none (by omega), Array.getElem?_eq_none (by omega)]; rfl
/-! ### sets -/
theorem mems_of {pins : List (Addr × Obj)} {σ : L2.St} {s : Shared} (ft : Fit F X) (I : Inv X pins σ H s) : ∀ {xs : List PV} {M : List (Addr × NestedKey)}, RepS F μ H xs M → ∀ p ∈ M, Ns.Mem s.heap p.2 p.1
  | _, _, .nil, _, h => by cases h
  | _, _, .cons q d a b, p, h => by
    rcases List.mem_cons.mp h with e | h
    · subst e
      exact ⟨nested_of ft I a q rfl, d⟩
    · exact mems_of ft I b p h
theorem repS_len : ∀ {xs : List PV} {M : List (Addr × NestedKey)}, RepS F μ H xs M → xs.length = M.length
  | _, _, .nil => rfl
  | _, _, .cons q d a b => by simp [repS_len b]
theorem repS_L : ∀ {xs : List PV} {M : List (Addr × NestedKey)}, RepS F μ H xs M → RepL F μ H xs (M.map fun p => .ref p.1)
  | _, _, .nil => .nil
  | _, _, .cons q d a b => .cons a (repS_L b)
theorem repS_perm : ∀ {M M' : List (Addr × NestedKey)}, M.Perm M' → ∀ {xs : List PV}, RepS F μ H xs M' → ∃ ys, ys.Perm xs ∧ RepS F μ H ys M := by
  intro M M' p
  induction p with
  | nil => exact fun r => ⟨_, .refl _, r⟩
  | cons x p ih =>
    intro xs r
    cases r with
    | cons q d a b => obtain ⟨ys, h1, h2⟩ := ih b; exact ⟨_, h1.cons _, .cons q d a h2⟩
  | swap x y l =>
    intro xs r
    cases r with
    | cons q d a b =>
      cases b with
      | cons q' d' a' b' => exact ⟨_, .swap _ _ _, .cons q' d' a' (.cons q d a b')⟩
  | trans p1 p2 ih1 ih2 =>
    intro xs r
    obtain ⟨ys, h1, h2⟩ := ih2 r
    obtain ⟨zs, h3, h4⟩ := ih1 h2
    exact ⟨zs, h3.trans h1, h4⟩
theorem perm_unmap {β γ : Type} {f : β → γ} : ∀ {l1 l2 : List γ}, l1.Perm l2 → ∀ L : List β, l2 = L.map f → ∃ L1 : List β, L1.Perm L ∧ l1 = L1.map f := by
  intro l1 l2 p
  induction p with
  | nil => exact fun L e => ⟨L, .refl _, e⟩
  | cons x p ih =>
    intro L e
    cases L with
    | nil => cases e
    | cons y L => injection e with e1 e2; obtain ⟨L1, h1, h2⟩ := ih L e2; exact ⟨y :: L1, h1.cons _, by rw [List.map_cons, e1, h2]⟩
  | swap x y l =>
    intro L e
    cases L with
    | nil => cases e
    | cons a L =>
      cases L with
      | nil => cases e
      | cons b L => injection e with e1 e2; injection e2 with e2 e3; exact ⟨b :: a :: L, .swap _ _ _, by rw [List.map_cons, List.map_cons, e1, e2, e3]⟩
  | trans p1 p2 ih1 ih2 =>
    intro L e
    obtain ⟨L2, h1, h2⟩ := ih2 L e
    obtain ⟨L3, h3, h4⟩ := ih1 L2 h2
    exact ⟨L3, h3.trans h1, h4⟩
/-- the set as it stands in the heap -/
theorem set_raw {pins : List (Addr × Obj)} {σ : L2.St} {s : Shared} (ft : Fit F X) (I : Inv X pins σ H s) {a : Addr} {xs : List PV} {L M : List (Addr × NestedKey)} (e : H a = some (SX F.w a L)) (pm : L.Perm M) (r : RepS F μ H xs M) :
    ∃ es ep t, Ns.NS F.w s.heap a L es ep t := by
  have R0 : Ns.NS0 F.w s.heap a L := by have := (I.hok a _ e).1; exact this
  exact R0.full fun p hp => mems_of ft I r p (pm.mem_iff.mp hp)
theorem call_lenX (ft : Fit F X) : CrN F X (.builtin "len") (b1 .len) := by
  intro pins s σ H xs us Q I r h
  obtain ⟨x, p, μ, α, rfl, rel, rp, h⟩ := h
  simp only [b1] at h
  split at h
  · rename_i kvs hkv
    obtain ⟨a, rfl, o⟩ := pairsD_at rel hkv rp
    obtain ⟨u, rfl, r1⟩ := vals1 r
    cases r1
    have finX : ∀ {L : List (NestedKey × Addr × V)} {xs : List (NestedKey × Addr × Value)}, kvs.length = L.length → L.length ≤ sizeLine → (a == sysModules) = false → PL L xs → s.heap.DictOfH (nestedKind F.P F.w) a xs → wpAny (model X.prog X.w) X.A (call (.builtin "len") [.ref a]) (EP X pins σ Q) X.xe s := fun hl hz hd pl dd => by
      rw [hl, Paired.length pl] at h
      rw [ft.P, ft.w]
      refine call_len_dictH hd dd (by rw [← Paired.length pl]; rw [sizeLine_eq] at hz; omega) ?_
      exact ⟨.int _, H, I.tok _, ⟨_, rfl⟩, h.here rel (.int _) rfl⟩
    rcases o with (⟨ks, e, q⟩ | ⟨L, e, q⟩) | ⟨ob, ks, e, q⟩ | ⟨ob, L, _, e, q⟩
    · rw [len_K q] at h
      exact d_len I (.inl e) fun t s' I' => ⟨.int _, H, I', ⟨t, rfl⟩, h.here rel (.int _) rfl⟩
    · obtain ⟨hz, hd, xs, pl, dd⟩ := dx_raw ft I e q
      exact finX (len_X q) hz hd pl dd
    · rw [len_K q] at h
      exact d_len I (.inr ⟨ob, e⟩) fun t s' I' => ⟨.int _, H, I', ⟨t, rfl⟩, h.here rel (.int _) rfl⟩
    · obtain ⟨hz, hd, xs, pl, dd⟩ := dx_rawF ft I e q
      exact finX (len_X q) hz hd pl dd
  · split at h
    · cases rp with
      | fs n e pm q =>
        obtain ⟨u, rfl, r1⟩ := vals1 r
        cases r1
        obtain ⟨es, ep, t, R⟩ := set_raw ft I e pm q
        obtain ⟨o, ho, hex, hd⟩ := R.ob
        have hl := Ns.rows_size R.rows
        have hf := R.few
        have hx := repS_len q
        have hp := pm.length_eq
        refine call_len_set ho hex hd R.fits (by omega) ⟨.int _, H, I.tok _, ⟨_, rfl⟩, ?_⟩
        rw [hl, hp, ← hx]
        exact h.here rel (.int _) rfl
    · cases rp
      obtain ⟨hz, h⟩ := need_ok h
      exact call_len pins s σ H _ us Q I r ⟨_, _, rfl, ⟨of_decide_eq_true hz, rfl⟩, h.here rel (.int _) rfl⟩
    · split at h
      · rename_i xs hx
        obtain ⟨a, vs, rfl, rl, c⟩ := itemsS_at rel hx rp
        rw [rl.length] at h
        refine call_len pins s σ H _ us Q I r ⟨_, vs.length, rfl, ?_, h.here rel (.int _) rfl⟩
        rw [ft.K]
        rcases c with ⟨_, c⟩ | c
        · exact .inr ⟨vs, c, rfl⟩
        · exact .inl ⟨vs, c, rfl⟩
      · exact False.elim h
/-- what list, sorted, set make of a source of items -/
theorem itemsK_at (ft : Fit F X) {pins : List (Addr × Obj)} {σ : L2.St} {s : Shared} (I : Inv X pins σ H s) (rel : Rel F μ α H) {p : PV} {x : V} {xs : List PV} (h : itemsK α p = some xs) (rp : Rep F μ H p x) :
    (∃ a vs, x = .ref a ∧ RepL F μ H xs vs ∧ (SqL X.K H a vs ∨ SqT X.K H a vs)) ∨ ∃ a ob es ep ks vs, x = .ref a ∧ s.heap.get? a = some ob ∧ RawD a ob es ep ks vs ∧ RepL F μ H xs ks := by
  unfold itemsK at h
  split at h
  · rename_i kvs hkv
    cases h
    obtain ⟨a, rfl, o⟩ := pairsD_at rel hkv rp
    obtain ⟨ob, es, ep, ks, vs, h1, h2, h3, h4⟩ := dctR_raw ft I o
    exact .inr ⟨a, ob, es, ep, ks, vs, rfl, h1, h2, h3⟩
  · obtain ⟨a, vs, rfl, rl, c⟩ := itemsS_at rel h rp
    exact .inl ⟨a, vs, rfl, rl, by rw [ft.K]; exact c.elim (fun c => .inr c.2) .inl⟩
theorem call_listX (ft : Fit F X) : CrN F X (.type "list") (b1 .list) := by
  intro pins s σ H xs us Q I r h
  obtain ⟨x, p, μ, α, rfl, rel, rp, h⟩ := h
  simp only [b1] at h
  split at h
  · rename_i xs hx
    rcases itemsK_at ft I rel hx rp with ⟨a, vs, rfl, rl, c⟩ | ⟨a, ob, es, ep, ks, vs, rfl, ho, R, rl⟩
    · exact call_list_of pins s σ H _ us Q I r ⟨a, vs, rfl, c, fun l hl => h.newL rel hl rl⟩
    · obtain ⟨u, rfl, r1⟩ := vals1 r
      cases r1
      refine PySem.W.kdl_call (KdlSrc.rawDict R.ns) (I.ok.hd ft.calm) ⟨ob, ho, R.ex, R.dat⟩ R.sz fun h' tk acc c' hk hD hacc => ?_
      have I1 : Inv X pins σ H { s with heap := s.heap, toks := s.toks } := I
      have hf : H s.heap.objs.size = none := I.hok.fresh (Nat.le_refl _)
      have ea := itemsOf_eq (f := fun e => e.key) hacc
      refine ⟨.ref s.heap.objs.size, upd H s.heap.objs.size (.lst ks), I.laid (t' := tk) hk (Nat.le_refl _) ⟨?_, acc.toList, c', by rw [ea]; exact R.keys, by simpa using hD⟩, rfl, h.newL rel hf rl⟩
      rw [R.lk]; exact R.sz
  · exact False.elim h
theorem call_tupleX (ft : Fit F X) : CrN F X (.type "tuple") (b1 .tuple) := by
  refine cr_imp (call_tuple_of (X := X)) fun xs H Q h => ?_
  obtain ⟨x, p, μ, α, rfl, rel, rp, h⟩ := h
  simp only [b1] at h
  split at h
  · rename_i xs hx
    obtain ⟨a, vs, rfl, rl, c⟩ := itemsS_at rel hx rp
    refine ⟨a, vs, rfl, ?_⟩
    rcases c with ⟨e, c⟩ | c
    · refine .inr ⟨by rw [ft.K]; exact c, ?_⟩
      subst e
      exact h.here rel rp rfl
    · exact .inl ⟨by rw [ft.K]; exact c, fun l hl => h.newT rel hl rl⟩
  · exact False.elim h
theorem bools_src (rel : Rel F μ α H) {p : PV} {x : V} {bs : List Bool} (hnt : ∀ xs, p ≠ .tup xs) (rp : Rep F μ H p x) (h : (itemsS α p).bind blsOf = some bs) : ∃ a, x = .ref a ∧ SqL F.K H a (bs.map V.bl) := by
  obtain ⟨xs, hx, hb⟩ := Option.bind_eq_some_iff.mp h
  obtain ⟨a, vs, rfl, rl, c⟩ := itemsS_at rel hx rp
  rcases c with ⟨e, _⟩ | c
  · exact absurd e (hnt xs)
  · rw [bls_at rl hb] at c
    exact ⟨a, rfl, c⟩
theorem call_allX (ft : Fit F X) : CrN F X (.builtin "all") (b1 .all) := by
  refine cr_imp (cr_all (X := X) ft.calm) fun xs H Q h => ?_
  obtain ⟨x, p, μ, α, rfl, rel, rp, h⟩ := h
  simp only [b1] at h
  split at h
  · exact False.elim h
  · rename_i hnt
    split at h
    · rename_i bs hb
      obtain ⟨a, rfl, c⟩ := bools_src rel (fun xs e => hnt xs e) rp hb
      exact ⟨a, bs, rfl, by rw [ft.K]; exact c, h.here rel (.bl _) rfl⟩
    · exact False.elim h
theorem call_anyX (ft : Fit F X) : CrN F X (.builtin "any") (b1 .any) := by
  refine cr_imp (cr_any (X := X) ft.calm) fun xs H Q h => ?_
  obtain ⟨x, p, μ, α, rfl, rel, rp, h⟩ := h
  simp only [b1] at h
  split at h
  · exact False.elim h
  · rename_i hnt
    split at h
    · rename_i bs hb
      obtain ⟨a, rfl, c⟩ := bools_src rel (fun xs e => hnt xs e) rp hb
      exact ⟨a, bs, rfl, by rw [ft.K]; exact c, h.here rel (.bl _) rfl⟩
    · exact False.elim h
theorem call_strX : CrN F X (.type "str") (b1 .str) := by
  refine cr_imp ((call_str_int (X := X)).or (SkE.call_str_str (X := X))) fun xs H Q h => ?_
  obtain ⟨x, p, μ, α, rfl, rel, rp, h⟩ := h
  simp only [b1] at h
  split at h
  · cases rp
    obtain ⟨hz, h⟩ := need_ok h
    exact .inl ⟨_, rfl, of_decide_eq_true hz, h.here rel (.str _) rfl⟩
  · cases rp
    exact .inr ⟨_, rfl, h.here rel (.str _) rfl⟩
  · exact False.elim h
theorem call_intX : CrN F X (.type "int") (b1 .int) := by
  refine cr_imp ((call_int1 (X := X)).or (call_int_str (X := X))) fun xs H Q h => ?_
  obtain ⟨x, p, μ, α, rfl, rel, rp, h⟩ := h
  simp only [b1] at h
  split at h
  · cases rp
    exact .inl (.inl ⟨_, rfl, h.here rel (.int _) rfl⟩)
  · cases rp
    exact .inl (.inr ⟨_, rfl, h.here rel (.int _) rfl⟩)
  · cases rp
    split at h
    · rename_i n hn
      obtain ⟨hz, h⟩ := need_ok h
      exact .inr ⟨_, n, rfl, hn, of_decide_eq_true hz, h.here rel (.int _) rfl⟩
    · exact False.elim h
  · exact False.elim h
/-- a built-in called with two values -/
def CrN2 (F : Fx) (X : Cx) (f : Value) (pr : PV → PV → AH → Res PV) : Prop := CallR X f (fun xs H Q => ∃ x y p q μ α, xs = [x, y] ∧ Rel F μ α H ∧ Rep F μ H p x ∧ Rep F μ H q y ∧ PostN F μ H (pr p q α) Q)
theorem ints_two (rel : Rel F μ α H) {p q : PV} {x y : V} (rp : Rep F μ H p x) (rq : Rep F μ H q y) {Q : VK} {g : Int → Int → Int} (h : PostN F μ H (intsP (fun _ _ => true) g p q α) Q) : ∃ i j, [x, y] = [V.int i, V.int j] ∧ Q (.int (g i j)) H := by
  unfold intsP at h
  split at h
  · cases rp; cases rq
    exact ⟨_, _, rfl, PostN.here rel h (.int _) rfl⟩
  · exact False.elim h
theorem call_b2 (ft : Fit F X) : ∀ f, CrN2 F X (b2I f) (b2 f) := by
  intro f
  cases f with
  | min => exact cr_imp (call_min2 (X := X) ft.calm) fun xs H Q ⟨x, y, p, q, μ, α, e, rel, rp, rq, h⟩ => e ▸ ints_two rel rp rq h
  | max => exact cr_imp (call_max2 (X := X) ft.calm) fun xs H Q ⟨x, y, p, q, μ, α, e, rel, rp, rq, h⟩ => e ▸ ints_two rel rp rq h

/-! ### sorted -/
theorem sorted_src {P : Program} {w : World} {A : Around} {E : Value → Shared → Prop} {s : Shared} {u : Addr} {vs : List Value} {bs : List PV} {en : PV → PyData} {R : Value → PV → Prop} {Q : Value → Shared → Prop}
    (hcol : ∀ Q : List Value → Shared → Prop, (∀ h1 tk, (∀ b x, s.heap.get? b = some x → h1.get? b = some x) → Q vs { s with heap := h1, toks := tk }) → wpAny (model P w) A.in1 (collect (.ref u)) Q E s) (hL : vs.length ≤ sizeLine)
    (e : PySem.W.EachIs R vs bs) (er : PySem.W.EachIs (fun v b => ∃ as, Reads s.heap v (en b) as) vs bs) (hal : PySem.W.AllAlike (bs.map en)) (hk : PySem.W.Sortable (bs.map en)) (hu : ∀ b, b ∈ bs → A.units + 2 + (en b).depth < cLine)
    (h : ∀ (h1 h' : Heap) (tk : Nat) (out : List Value), (∀ b x, s.heap.get? b = some x → h1.get? b = some x) → (∀ b x, h1.get? b = some x → h'.get? b = some x) → PySem.W.EachIs R out (bs.mergeSort (PySem.W.dataLe false en)) → (∃ k, h'.get? h1.objs.size = some { cls := .type "list", data := .seq out.toArray k }) → out.length = bs.length → Q (.ref h1.objs.size) { s with heap := h', toks := tk }) :
    wpAny (model P w) A (call (.builtin "sorted") [.ref u]) Q E s := by
  refine PySem.Calls.call_function_entry PyProof.Rows.kind_sorted PyProof.Rows.plain_sorted PyProof.Rows.entry_sorted (PyProof.Rows.args_sorted1 _) ?_
  unfold Builtin.«sorted»
  refine wpAny_bind (m := checkCount "sorted" 1 1 _) (wpAny_pure ?_)
  refine wpAny_bind (hcol _ fun h1 tk k1 => ?_)
  refine wpAny_bind (wpAny_newList ?_ hL)
  have hD : (h1.push (seqObj "list" vs.toArray 0)).get? h1.objs.size = some (seqObj "list" vs.toArray 0) := Heap.get?_push_size _ rfl
  have hold : ∀ b x, s.heap.get? b = some x → b ≠ h1.objs.size ∧ (h1.push (seqObj "list" vs.toArray 0)).get? b = some x := fun b x q => ⟨Nat.ne_of_lt (Heap.lt_size (k1 b x q)), Heap.get?_push_of_some _ (k1 b x q)⟩
  show wpAny _ _ _ _ _ { s with heap := h1.push (seqObj "list" vs.toArray 0), toks := tk }
  have hso : ∀ b x, s.heap.get? b = some x → (PySem.W.sortingHeap (h1.push (seqObj "list" vs.toArray 0)) h1.objs.size vs).get? b = some x := fun b x q => by
    unfold PySem.W.sortingHeap
    refine Heap.get?_push_of_some _ (Heap.get?_push_of_some _ ?_)
    rw [Heap.get?_update_ne _ _ _ _ (hold b x q).1]
    exact (hold b x q).2
  have er' : PySem.W.EachIs (fun v b => ∃ as, Reads (PySem.W.sortingHeap (h1.push (seqObj "list" vs.toArray 0)) h1.objs.size vs) v (en b) as) vs bs := er.mono fun _ _ ⟨as, r⟩ => ⟨as, PyProof.Rows.Reads.keeps hso r⟩
  refine wpAny_bind (wpAny_holding (wpAny_call_entry PyProof.Rows.slot_list_sort ⟨_, hD, rfl⟩ PyProof.Rows.entry_list_sort
    (PySem.W.list_sort_vals (s := { s with heap := h1.push (seqObj "list" vs.toArray 0), toks := tk }) hD (PySem.W.SortsAt.data (s := { s with toks := tk, heap := PySem.W.sortingHeap (h1.push (seqObj "list" vs.toArray 0)) h1.objs.size vs }) (PySem.W.each_map (R := fun v d => ∃ as, Reads (PySem.W.sortingHeap (h1.push (seqObj "list" vs.toArray 0)) h1.objs.size vs) v d as) en er') hal hk (PySem.W.bound_map hu)) hL
      ⟨_, rfl, ?_⟩) (PyProof.Rows.args_list_sort _)))
  refine wpAny_pure ⟨_, rfl, ?_⟩
  have hs := PySem.W.sortVals_data (R := R) (enc := en) false e er' hal
  obtain ⟨k, hk'⟩ := PyProof.Rows.sortedHeap_at (vs := vs) (out := (PySem.W.sortVals (PySem.W.dataKind (PySem.W.sortingHeap (h1.push (seqObj "list" vs.toArray 0)) h1.objs.size vs) (bs.map en)) false vs vs).toArray) hD
  refine h h1 _ tk _ k1 (fun b x q => ?_) hs ⟨k, hk'⟩ ?_
  · have hb : b < h1.objs.size := Heap.lt_size q
    rw [PyProof.Rows.sortedHeap_old (Nat.ne_of_lt hb) (by rw [size_push']; exact Nat.lt_succ_of_lt hb)]
    exact Heap.get?_push_of_some _ q
  · rw [PySem.W.sortVals_length false rfl, e.length]

/-- .. whatever the gathering lays in which order -/
theorem sorted_srcS {P : Program} {w : World} {A : Around} {E : Value → Shared → Prop} {s : Shared} {u : Addr} {C : List Value → Shared → Prop} {en : PV → PyData} {R : Value → PV → Prop} {Q : Value → Shared → Prop}
    (hcol : ∀ Q : List Value → Shared → Prop, (∀ vs s1, C vs s1 → Q vs s1) → wpAny (model P w) A.in1 (collect (.ref u)) Q E s)
    (h : ∀ vs s1, C vs s1 → ∃ bs : List PV, vs.length ≤ sizeLine ∧ PySem.W.EachIs R vs bs ∧ PySem.W.EachIs (fun v b => ∃ as, Reads s1.heap v (en b) as) vs bs ∧ PySem.W.AllAlike (bs.map en) ∧ PySem.W.Sortable (bs.map en) ∧ (∀ b, b ∈ bs → A.units + 2 + (en b).depth < cLine) ∧
      ∀ (h' : Heap) (tk : Nat) (out : List Value), (∀ b x, s1.heap.get? b = some x → h'.get? b = some x) → PySem.W.EachIs R out (bs.mergeSort (PySem.W.dataLe false en)) → (∃ k, h'.get? s1.heap.objs.size = some { cls := .type "list", data := .seq out.toArray k }) → out.length = bs.length → Q (.ref s1.heap.objs.size) { s1 with heap := h', toks := tk }) :
    wpAny (model P w) A (call (.builtin "sorted") [.ref u]) Q E s := by
  refine PySem.Calls.call_function_entry PyProof.Rows.kind_sorted PyProof.Rows.plain_sorted PyProof.Rows.entry_sorted (PyProof.Rows.args_sorted1 _) ?_
  unfold Builtin.«sorted»
  refine wpAny_bind (m := checkCount "sorted" 1 1 _) (wpAny_pure ?_)
  refine wpAny_bind (hcol _ fun vs s1 hC => ?_)
  obtain ⟨bs, hL, e, er, hal, hk, hu, h⟩ := h vs s1 hC
  obtain ⟨h1, g1, d1, tk1, os1⟩ := s1
  dsimp only at er h
  refine wpAny_bind (wpAny_newList ?_ hL)
  have hD : (h1.push (seqObj "list" vs.toArray 0)).get? h1.objs.size = some (seqObj "list" vs.toArray 0) := Heap.get?_push_size _ rfl
  have hold : ∀ b x, h1.get? b = some x → b ≠ h1.objs.size ∧ (h1.push (seqObj "list" vs.toArray 0)).get? b = some x := fun b x q => ⟨Nat.ne_of_lt (Heap.lt_size q), Heap.get?_push_of_some _ q⟩
  have hso : ∀ b x, h1.get? b = some x → (PySem.W.sortingHeap (h1.push (seqObj "list" vs.toArray 0)) h1.objs.size vs).get? b = some x := fun b x q => by
    unfold PySem.W.sortingHeap
    refine Heap.get?_push_of_some _ (Heap.get?_push_of_some _ ?_)
    rw [Heap.get?_update_ne _ _ _ _ (hold b x q).1]
    exact (hold b x q).2
  have er' : PySem.W.EachIs (fun v b => ∃ as, Reads (PySem.W.sortingHeap (h1.push (seqObj "list" vs.toArray 0)) h1.objs.size vs) v (en b) as) vs bs := er.mono fun _ _ ⟨as, r⟩ => ⟨as, PyProof.Rows.Reads.keeps hso r⟩
  refine wpAny_bind (wpAny_holding (wpAny_call_entry PyProof.Rows.slot_list_sort ⟨_, hD, rfl⟩ PyProof.Rows.entry_list_sort
    (PySem.W.list_sort_vals (s := ⟨h1.push (seqObj "list" vs.toArray 0), g1, d1, tk1, os1⟩) hD (PySem.W.SortsAt.data (s := ⟨PySem.W.sortingHeap (h1.push (seqObj "list" vs.toArray 0)) h1.objs.size vs, g1, d1, tk1, os1⟩) (PySem.W.each_map (R := fun v d => ∃ as, Reads (PySem.W.sortingHeap (h1.push (seqObj "list" vs.toArray 0)) h1.objs.size vs) v d as) en er') hal hk (PySem.W.bound_map hu)) hL
      ⟨_, rfl, ?_⟩) (PyProof.Rows.args_list_sort _)))
  refine wpAny_pure ⟨_, rfl, ?_⟩
  have hs := PySem.W.sortVals_data (R := R) (enc := en) false e er' hal
  obtain ⟨k, hk'⟩ := PyProof.Rows.sortedHeap_at (vs := vs) (out := (PySem.W.sortVals (PySem.W.dataKind (PySem.W.sortingHeap (h1.push (seqObj "list" vs.toArray 0)) h1.objs.size vs) (bs.map en)) false vs vs).toArray) hD
  refine h _ tk1 _ (fun b x q => ?_) hs ⟨k, hk'⟩ ?_
  · have hb : b < h1.objs.size := Heap.lt_size q
    rw [PyProof.Rows.sortedHeap_old (Nat.ne_of_lt hb) (by rw [size_push']; exact Nat.lt_succ_of_lt hb)]
    exact Heap.get?_push_of_some _ q
  · rw [PySem.W.sortVals_length false rfl, e.length]
theorem dataLe_total {β : Type} (k : β → PyData) : PySem.W.TotalLe (PySem.W.dataLe false k) := PySem.W.sortLe_total _ _ _
theorem strict_pw : ∀ {l : List PV}, strictS l = true → l.Pairwise fun p q => PySem.W.dataLt (enc p) (enc q) = true
  | [], _ => .nil
  | p :: r, h => by
    simp only [strictS, Bool.and_eq_true, List.all_eq_true] at h
    exact .cons h.1 (strict_pw h.2)
theorem sortP_perm {xs ys : List PV} (h : strictS (sortP xs) = true) (p : ys.Perm xs) : sortP ys = sortP xs := by
  have T := dataLe_total enc
  have p1 : (sortP ys).Perm (sortP xs) := ((List.mergeSort_perm _ _).trans p).trans (List.mergeSort_perm _ _).symm
  have s1 : (sortP ys).Pairwise fun a b => PySem.W.dataLe false enc a b = true := List.pairwise_mergeSort T.trans (fun a b => by rw [Bool.or_eq_true]; exact T.total a b) ys
  have s2 : (sortP xs).Pairwise fun a b => PySem.W.dataLe false enc a b = true := List.pairwise_mergeSort T.trans (fun a b => by rw [Bool.or_eq_true]; exact T.total a b) xs
  have st := strict_pw h
  refine List.Perm.eq_of_pairwise (fun a b ha hb h1 h2 => ?_) s1 s2 p1
  have ha : a ∈ sortP xs := p1.mem_iff.mp ha
  obtain ⟨i, hi, rfl⟩ := List.mem_iff_getElem.mp ha
  obtain ⟨j, hj, rfl⟩ := List.mem_iff_getElem.mp hb
  have lt := List.pairwise_iff_getElem.mp st
  have le_of : ∀ x y : PV, PySem.W.dataLt (enc x) (enc y) = true → PySem.W.dataLe false enc y x = true → False := fun x y h1 h2 => by
    rw [PySem.W.dataLe_eq] at h2
    simp only [cond_false] at h2
    rw [h1] at h2
    cases h2
  rcases Nat.lt_trichotomy i j with c | c | c
  · exact (le_of _ _ (lt i j hi hj c) h2).elim
  · subst c; rfl
  · exact (le_of _ _ (lt j i hj hi c) h1).elim
theorem enc_of {p : PV} {d : PyData} (h : toP p = some d) : enc p = d := by rw [enc, h]; rfl
theorem each_of {pins : List (Addr × Obj)} {σ : L2.St} {s : Shared} (I : Inv X pins σ H s) (ft : Fit F X) : ∀ {ps : List PV} {vs : List V} {us : List Value}, RepL F μ H ps vs → Vals vs us → (∀ p ∈ ps, (toP p).isSome = true) →
    PySem.W.EachIs (fun u p => ∃ v, RelV v u ∧ Rep F μ H p v) us ps ∧ PySem.W.EachIs (fun u p => ∃ as, Reads s.heap u (enc p) as) us ps
  | _, _, _, .nil, .nil, _ => ⟨.nil, .nil⟩
  | _, _, _, .cons (p := p) a b, .cons r rr, h => by
    obtain ⟨h1, h2⟩ := each_of I ft b rr fun q hq => h q (List.mem_cons_of_mem _ hq)
    obtain ⟨d, hd⟩ := Option.isSome_iff_exists.mp (h p List.mem_cons_self)
    refine ⟨.cons ⟨_, r, a⟩ h1, .cons ?_ h2⟩
    rw [enc_of hd]
    exact Dp.reads I d _ _ (by rw [ft.K]; exact dp_of a hd) r
theorem each_back : ∀ {ps : List PV} {us : List Value}, PySem.W.EachIs (fun u p => ∃ v, RelV v u ∧ Rep F μ H p v) us ps → ∃ vs, Vals vs us ∧ RepL F μ H ps vs
  | _, _, .nil => ⟨[], .nil, .nil⟩
  | _, _, .cons ⟨v, r, q⟩ t => by
    obtain ⟨vs, h1, h2⟩ := each_back t
    exact ⟨v :: vs, .cons r h1, .cons q h2⟩
theorem sortOk_at {ps : List PV} (h : sortOk ps = true) : (∀ p ∈ ps, (toP p).isSome = true ∧ (enc p).depth ≤ 64) ∧ PySem.W.AllAlike (ps.map enc) ∧ PySem.W.Sortable (ps.map enc) ∧ ps.length ≤ sizeLine := by
  unfold sortOk at h
  simp only [Bool.and_eq_true, Bool.or_eq_true, List.all_eq_true, decide_eq_true_eq] at h
  obtain ⟨⟨⟨h1, h2⟩, h3⟩, h4⟩ := h
  refine ⟨h1, ?_, ?_, of_decide_eq_true h4⟩
  · intro d hd d' hd'
    obtain ⟨p, hp, rfl⟩ := List.mem_map.mp hd
    obtain ⟨q, hq, rfl⟩ := List.mem_map.mp hd'
    exact h2 p hp q hq
  · rcases h3 with h3 | h3
    · refine .inl fun d hd => ?_
      obtain ⟨p, hp, rfl⟩ := List.mem_map.mp hd
      have q := h3 p hp
      obtain ⟨e, he⟩ := Option.isSome_iff_exists.mp (h1 p hp).1
      rw [enc_of he]
      split at q
      · simp only [toP, toPs, Option.map_eq_some_iff, Option.bind_eq_some_iff] at he
        obtain ⟨ds, ⟨d1, _, ds', _, rfl⟩, rfl⟩ := he
        exact ⟨_, _, rfl⟩
      · cases q
    · refine .inr fun d hd => ?_
      obtain ⟨p, hp, rfl⟩ := List.mem_map.mp hd
      have q := h3 p hp
      obtain ⟨e, he⟩ := Option.isSome_iff_exists.mp (h1 p hp).1
      rw [enc_of he]
      cases p <;> simp only [toP, Option.map_eq_some_iff, Option.some.injEq, reduceCtorEq] at he q
      · subst he; exact ⟨by simp, by simp⟩
      · subst he; exact ⟨by simp, by simp⟩
      · subst he; exact ⟨by simp, by simp⟩
      · obtain ⟨ds, _, rfl⟩ := he; exact ⟨by simp, by simp⟩
      · obtain ⟨ds, _, rfl⟩ := he; exact ⟨by simp, by simp⟩
theorem vals_refs : ∀ L : List (Addr × NestedKey), Vals (L.map fun p => V.ref p.1) (L.map fun p => Value.ref p.1)
  | [] => .nil
  | p :: L => .cons rfl (vals_refs L)
/-- sorted(a set) -/
theorem sorted_fs (ft : Fit F X) {pins : List (Addr × Obj)} {s : Shared} {σ : L2.St} {Q : VK} {a : Addr} {xs : List PV} {L M : List (Addr × NestedKey)} (I : Inv X pins σ H s) (rel : Rel F μ α H) (e : H a = some (SX F.w a L)) (pm : L.Perm M) (q : RepS F μ H xs M)
    (hs : sortOk xs = true) (st : strictS (sortP xs) = true) (h : PostN F μ H (.ok (.fl (sortP xs)) α) Q) : wpAny (model X.prog X.w) X.A (call (.builtin "sorted") [.ref a]) (EP X pins σ Q) X.xe s := by
  obtain ⟨es, ep, t, R⟩ := set_raw ft I e pm q
  obtain ⟨o, ho, hex, hd⟩ := R.ob
  obtain ⟨h1, h2, h3, h4⟩ := sortOk_at hs
  have hf := R.few
  have hsz := Ns.rows_size R.rows
  refine sorted_srcS (C := fun vs s1 => (∀ b o, s.heap.get? b = some o → s1.heap.get? b = some o) ∧ s.heap.objs.size ≤ s1.heap.objs.size ∧ s1.gens = s.gens ∧ s1.os = s.os ∧ vs.Perm (es.toList.map (·.2))) (en := enc) (R := fun u p => ∃ v, RelV v u ∧ Rep F μ H p v)
    (fun Q' hq => collect_set (A := X.A.in1) (I.ok.hd ft.calm) ⟨o, ho, hex.1, hd⟩ R.fits (by unfold scanBound; omega) R.tab.ris (by rw [ft.w]; exact R.led) fun s' out a1 a2 a3 a4 a5 => hq out s' ⟨a1, a2, a3, a4, a5⟩) fun vs s1 ⟨k, hz, g, os, pv⟩ => ?_
  have hes : es.toList.map (·.2) = L.map fun p => Value.ref p.1 := by
    rw [R.rows]
    unfold Ns.rws
    rw [List.map_map] <;> rfl
  rw [hes] at pv
  obtain ⟨L1, p1, rfl⟩ := perm_unmap pv L rfl
  obtain ⟨ys, p2, q2⟩ := repS_perm (p1.trans pm) q
  have rl := repS_L q2
  have rv : Vals (L1.map fun p => V.ref p.1) (L1.map fun p => Value.ref p.1) := vals_refs L1
  have pe : (ys.map enc).Perm (xs.map enc) := p2.map enc
  obtain ⟨e1, e2⟩ := each_of I ft rl rv fun p hp => (h1 p (p2.mem_iff.mp hp)).1
  have e3 : PySem.W.EachIs (fun v b => ∃ as, Reads s1.heap v (enc b) as) (L1.map fun p => Value.ref p.1) ys := e2.mono fun _ _ ⟨as, r⟩ => ⟨as, PyProof.Rows.Reads.keeps k r⟩
  refine ⟨ys, by rw [List.length_map, p1.length_eq, sizeLine_eq]; omega, e1, e3, fun d hd' d' hd2 => h2 d (pe.mem_iff.mp hd') d' (pe.mem_iff.mp hd2), ?_, fun b hb => ?_, fun h' tk out k2 eo hk ho' => ?_⟩
  · rcases h3 with h3 | h3
    · exact .inl fun d hd' => h3 d (pe.mem_iff.mp hd')
    · exact .inr fun d hd' => h3 d (pe.mem_iff.mp hd')
  · have := (h1 b (p2.mem_iff.mp hb)).2
    have := ft.room
    omega
  · rw [show ys.mergeSort (PySem.W.dataLe false enc) = sortP ys from rfl, sortP_perm st p2] at eo
    obtain ⟨ws, rw', rl'⟩ := each_back eo
    have hf' : H s1.heap.objs.size = none := I.hok.fresh hz
    obtain ⟨k', hk⟩ := hk
    have hl2 : ws.length ≤ sizeLine := by
      rw [← rl'.length]
      show (sortP xs).length ≤ _
      rw [sortP, (List.mergeSort_perm _ _).length_eq]
      exact h4
    have k3 : ∀ b o, s.heap.get? b = some o → h'.get? b = some o := fun b o x => k2 b o (k b o x)
    have J : Inv X pins σ (upd H s1.heap.objs.size (.lst ws)) { s with heap := h', gens := s1.gens, drawn := s1.drawn, toks := tk } :=
      I.call (ch := []) (Un.laid k3 hz hf') (I.hok.laid k3 hz ⟨hl2, out, k', rw', hk⟩) (by rw [g]; exact I.bare) (fun _ z => nomatch z)
    have e : ({ s1 with heap := h', toks := tk } : Shared) = { s with heap := h', gens := s1.gens, drawn := s1.drawn, toks := tk } := by
      cases s1
      cases s
      cases os
      rfl
    rw [e]
    exact ⟨.ref s1.heap.objs.size, _, J, rfl, h.newL rel hf' rl'⟩
theorem call_sortedX (ft : Fit F X) : CrN F X (.builtin "sorted") (b1 .sorted) := by
  intro pins s σ H xs us Q I r h
  obtain ⟨x, p, μ, α, rfl, rel, rp, h⟩ := h
  simp only [b1] at h
  split at h
  · rename_i ps hp
    cases p <;> simp only [setItems, reduceCtorEq, Option.some.injEq] at hp
    subst hp
    cases rp with
    | fs n e pm q =>
      obtain ⟨u, rfl, r1⟩ := vals1 r
      cases r1
      obtain ⟨hc, h⟩ := need_ok h
      rw [Bool.and_eq_true] at hc
      exact sorted_fs ft I rel e pm q hc.1 hc.2 h
  split at h
  · rename_i ps hx
    obtain ⟨hs, h⟩ := need_ok h
    obtain ⟨h1, h2, h3, h4⟩ := sortOk_at hs
    obtain ⟨u, rfl, r1⟩ := vals1 r
    have go : ∀ {a : Addr} {vs : List V} {its : List Value}, (∀ Q' : List Value → Shared → Prop, (∀ g1 tk, (∀ b y, s.heap.get? b = some y → g1.get? b = some y) → Q' its { s with heap := g1, toks := tk }) → wpAny (model X.prog X.w) X.A.in1 (collect (.ref a)) Q' X.xe s) → Vals vs its → RepL F μ H ps vs →
        wpAny (model X.prog X.w) X.A (call (.builtin "sorted") [.ref a]) (EP X pins σ Q) X.xe s := fun {a vs its} hcol rv rl => by
      have hl : its.length = ps.length := by rw [← rv.length, rl.length]
      obtain ⟨e1, e2⟩ := each_of I ft rl rv fun p hp => (h1 p hp).1
      refine sorted_src (en := enc) hcol (by rw [hl]; exact h4) e1 e2 h2 h3 (fun b hb => ?_) fun g1 g2 tk out k1 k2 eo hk ho' => ?_
      · have := (h1 b hb).2
        have := ft.room
        omega
      · obtain ⟨ws, rw', rl'⟩ := each_back eo
        have I1 : Inv X pins σ H { s with heap := g1, toks := s.toks } := I.kept (t' := s.toks) k1
        have hf : H g1.objs.size = none := I1.hok.fresh (Nat.le_refl _)
        obtain ⟨k, hk⟩ := hk
        refine ⟨.ref g1.objs.size, upd H g1.objs.size (.lst ws), I1.laid (t' := tk) k2 (Nat.le_refl _) ⟨?_, out, k, rw', hk⟩, rfl, h.newL rel hf rl'⟩
        rw [← rl'.length]
        show (sortP ps).length ≤ _
        rw [sortP, (List.mergeSort_perm _ _).length_eq]
        exact h4
    · rcases itemsK_at ft I rel hx rp with ⟨a, vs, rfl, rl, c⟩ | ⟨a, ob, es, ep, ks, vs, rfl, ho, R, rl⟩
      · cases r1
        have hz : vs.length ≤ sizeLine := by rw [← rl.length]; exact h4
        rcases c with c | c
        · obtain ⟨its, rv, ⟨o, n, ho, hc, _, hd⟩, _⟩ := I.list c
          exact go (fun Q' hq => wpAny_collect_seq a (.inl rfl) ho hc hd (fun g1 k1 => by have := hq g1 s.toks k1; simpa using this) (by rw [List.size_toArray, ← rv.length]; exact hz)) rv rl
        · obtain ⟨its, rv, ⟨o, ho, hc, n, hd⟩, _⟩ := I.tuple c
          exact go (fun Q' hq => wpAny_collect_seq a (.inr rfl) ho hc hd (fun g1 k1 => by have := hq g1 s.toks k1; simpa using this) (by rw [List.size_toArray, ← rv.length]; exact hz)) rv rl
      · cases r1
        refine go (fun Q' hq => PySem.W.kdu_collect (KdlSrc.rawDict R.ns) (I.ok.hd ft.calm) ⟨ob, ho, R.ex, R.dat⟩ R.sz fun h' tk acc hk hacc => ?_) R.keys rl
        rw [itemsOf_eq (f := fun e => e.key) hacc]
        exact hq h' tk hk
  · exact False.elim h
theorem call_reprX (ft : Fit F X) : CrN F X (.builtin "repr") (b1 .repr) := by
  intro pins s σ H xs us Q I r h
  obtain ⟨x, p, μ, α, rfl, rel, rp, h⟩ := h
  simp only [b1] at h
  split at h
  · rename_i d hd
    obtain ⟨hs, h⟩ := need_ok h
    unfold reprOk at hs
    simp only [Bool.and_eq_true, Bool.not_eq_true', decide_eq_true_eq] at hs
    obtain ⟨⟨⟨h1, h2⟩, h3⟩, h4⟩ := hs
    have h4 : d.shown.length ≤ sizeLine := of_decide_eq_true h4
    have hu := ft.room
    obtain ⟨u, rfl, r1⟩ := vals1 r
    have dp : Dp X.K H x d := by rw [ft.K]; exact dpA_of rel rp hd
    obtain ⟨as, rd⟩ := Dp.reads I d x u dp r1
    have fin : ∀ h' tk t, (∀ b o, s.heap.get? b = some o → h'.get? b = some o) → EP X pins σ Q (.str d.shown t) { s with heap := h', toks := tk } :=
      fun h' tk t hk => ⟨.str _, H, I.kept (t' := tk) hk, ⟨t, rfl⟩, h.here rel (.str _) rfl⟩
    cases dp with
    | non => cases r1; exact PySem.P.repr_of_none (fin _ _ _ fun _ _ e => e)
    | bl b =>
      cases r1
      refine PySem.P.repr_of_bool ?_
      have := fin s.heap s.toks.succ s.toks fun _ _ e => e
      simpa only [PyData.shown] using this
    | int i =>
      obtain ⟨t, rfl⟩ := r1
      exact PySem.P.repr_of_int (by simpa [PyData.showable] using h2) (fin _ _ _ fun _ _ e => e)
    | str y =>
      obtain ⟨t, rfl⟩ := r1
      exact PySem.P.repr_of_str (fin _ _ _ fun _ _ e => e) h4
    | tup e q =>
      cases r1
      exact repr_of_reads' rd h2 (PyData.noDict_hsm h1) ft.gd (by omega) (fun _ _ e => e) (fun h' u tk hk => fin h' tk u hk) h4
    | lst e q =>
      cases r1
      exact repr_of_reads' rd h2 (PyData.noDict_hsm h1) ft.gd (by omega) (fun _ _ e => e) (fun h' u tk hk => fin h' tk u hk) h4
  · exact False.elim h
theorem call_b1 (ft : Fit F X) : ∀ f, f ≠ .set → f ≠ .dict → f ≠ .min → f ≠ .max → CrN F X (b1I f) (b1 f) := by
  intro f n1 n2 n3 n4
  cases f with
  | int => exact call_intX
  | set => exact absurd rfl n1
  | dict => exact absurd rfl n2
  | min => exact absurd rfl n3
  | max => exact absurd rfl n4
  | len => exact call_lenX ft
  | list => exact call_listX ft
  | tuple => exact call_tupleX ft
  | sorted => exact call_sortedX ft
  | all => exact call_allX ft
  | any => exact call_anyX ft
  | str => exact call_strX
  | repr => exact call_reprX ft
end
end Mw
end
section
set_option Elab.async false
set_option linter.all false
set_option maxRecDepth 100000
set_option maxHeartbeats 2000000
/-! Mw8: the readings of expressions. -/
namespace Mw
open PySem PySem.Spec PyProof.Rows L2

section
variable {F : Fx} {X : Cx} {μ μ' : Zn} {H H' : Hp} {α α' : AH} {ρ : Loc'} {σ : L2.St} {Q : VK}

/-- a reading by a denotation whose value may be new -/
def tN (F : Fx) (m : Den) : TE := fun σ H Q => ∃ μ ρ α, Rel F μ α H ∧ EnvR F μ H ρ σ ∧ PostN F μ H (m ρ α) Q
theorem At.imp {β γ : Type} {R : Zn → Hp → β → γ → Prop} {Q Q' : γ → Hp → Prop} {r : Res β} (h : At F μ ρ σ α H r R Q) (hi : ∀ v H', Q v H' → Q' v H') : At F μ ρ σ α H r R Q' := ⟨h.1, h.2.1, h.2.2.imp hi⟩
/-- first m, then n, whose value may be new -/
theorem At.bindN {β γ : Type} {R1 : Zn → Hp → β → γ → Prop} {r : Res β} {n : β → AH → Res PV} (rel : Rel F μ α H) (env : EnvR F μ H ρ σ) (post : PostN F μ H (r.bind n) Q) :
    At F μ ρ σ α H r R1 (fun v H1 => ∃ p μ1 α1, Le F μ H μ1 H1 ∧ R1 μ1 H1 p v ∧ Rel F μ1 α1 H1 ∧ EnvR F μ1 H1 ρ σ ∧ PostN F μ1 H1 (n p α1) Q) := by
  refine ⟨rel, env, ?_⟩
  cases r with
  | ok p α1 => exact fun μ1 H1 v l r1 q => ⟨p, μ1, α1, l, q, r1, env.le l, PostN.from r1 l post⟩
  | err c xs a => exact post
  | bad => exact post
theorem pe_lockP (ft : Fit F X) {e : Expr} {t : TE} (h : PE X e t) : PE X e (fun σ H Q => t σ H fun v H' => LockP F H' (Q v)) := by
  refine ⟨fun pins s σ H Q I q => thn (h.run pins s σ H _ I q) fun v s1 ⟨x, H1, I1, r, q1⟩ => ?_⟩
  obtain ⟨H2, I2, q2⟩ := lockP_ok ft I1 q1
  exact ⟨x, H2, I2, r, q2⟩
theorem tE_of_N (ft : Fit F X) {m : Den} {e : Expr} (h : PE X e (tN F m)) : PE X e (tE F m) :=
  pe_imp (pe_lockP ft h) fun σ H Q ⟨μ, ρ, α, r, e, p⟩ => ⟨μ, ρ, α, r, e, p.toN r⟩

/-! ### argument lists -/
def noStar : Expr → Bool
  | .Starred _ _ => false
  | _ => true
theorem star_cons {e : Expr} {es : List Expr} {env : Env} (h : noStar e = true) : starEach (e :: es) env = (false, eval e env) :: starEach es env := by
  cases e <;> first | rfl | cases h
theorem star_any {pos : Pos} {env : Env} : ∀ {es : List Expr}, es.all noStar = true → (backTo pos (starEach es env)).any (·.1) = false
  | [], _ => rfl
  | e :: es, h => by
    rw [List.all_cons, Bool.and_eq_true] at h
    rw [star_cons h.1]
    show (false || (backTo pos (starEach es env)).any (·.1)) = false
    rw [star_any h.2]; rfl
theorem star_all {pos : Pos} {env : Env} : ∀ {es : List Expr}, es.all noStar = true → (backTo pos (starEach es env)).all (fun x => !x.1) = true
  | [], _ => rfl
  | e :: es, h => by
    rw [List.all_cons, Bool.and_eq_true] at h
    rw [star_cons h.1]
    show (true && (backTo pos (starEach es env)).all (fun x => !x.1)) = true
    rw [star_all h.2]; rfl
theorem a_nil : PA X [] (tAs F fun _ α => .ok [] α) := pa_imp pa_nil fun σ H Q ⟨μ, ρ, α, rel, env, h⟩ => h μ H [] (.refl F μ H) rel .nil
theorem a_cons {e : Expr} {es : List Expr} {m : Den} {ms : Loc' → AH → Res (List PV)} (ha : PE X e (tE F m)) (hr : PA X es (tAs F ms)) (hs : noStar e = true) :
    PA X (e :: es) (tAs F fun ρ α => (m ρ α).bind fun p α => (ms ρ α).bind fun ps α => .ok (p :: ps) α) := by
  refine pa_imp (pa_cons ha hr (star_cons hs)) fun σ H Q ⟨μ, ρ, α, h⟩ => ?_
  refine ⟨μ, ρ, α, h.bind.imp fun x H1 ⟨p, μ1, α1, l, rp, h1⟩ => ⟨μ1, ρ, α1, h1.bind.imp fun xs H2 ⟨ps, μ2, α2, l2, rs, h2⟩ => ?_⟩⟩
  exact h2.2.2 μ2 H2 _ (.refl F μ2 H2) h2.1 (.cons (rp.le l2) rs)
/-- several values, then one more step -/
theorem tA_bindN {ms : Loc' → AH → Res (List PV)} {n : List PV → AH → Res PV} (h : tN F (fun ρ α => (ms ρ α).bind n) σ H Q) :
    tAs F ms σ H fun xs H1 => ∃ ps μ α, RepL F μ H1 ps xs ∧ Rel F μ α H1 ∧ PostN F μ H1 (n ps α) Q := by
  obtain ⟨μ, ρ, α, rel, env, h⟩ := h
  exact ⟨μ, ρ, α, (At.bindN rel env h).imp fun xs H1 ⟨ps, μ1, α1, _, rs, rel1, _, h1⟩ => ⟨ps, μ1, α1, rs, rel1, h1⟩⟩
theorem tA_bind {ms : Loc' → AH → Res (List PV)} {n : List PV → AH → Res PV} (h : tE F (fun ρ α => (ms ρ α).bind n) σ H Q) :
    tAs F ms σ H fun xs H1 => ∃ ps μ α, RepL F μ H1 ps xs ∧ Rel F μ α H1 ∧ Post F μ H1 (n ps α) (Rep F) Q := by
  obtain ⟨μ, ρ, α, h⟩ := h
  exact ⟨μ, ρ, α, h.bind.imp fun xs H1 ⟨ps, μ1, α1, _, rs, h1⟩ => ⟨ps, μ1, α1, rs, h1.1, h1.2.2⟩⟩
theorem tE_bindN {m : Den} {n : PV → AH → Res PV} (h : tN F (fun ρ α => (m ρ α).bind n) σ H Q) :
    tE F m σ H fun x H1 => ∃ p μ α, Rep F μ H1 p x ∧ Rel F μ α H1 ∧ PostN F μ H1 (n p α) Q := by
  obtain ⟨μ, ρ, α, rel, env, h⟩ := h
  exact ⟨μ, ρ, α, (At.bindN rel env h).imp fun xs H1 ⟨ps, μ1, α1, _, rs, rel1, _, h1⟩ => ⟨ps, μ1, α1, rs, rel1, h1⟩⟩
theorem tE_bind {m : Den} {n : PV → AH → Res PV} (h : tE F (fun ρ α => (m ρ α).bind n) σ H Q) :
    tE F m σ H fun x H1 => ∃ p μ α, Rep F μ H1 p x ∧ Rel F μ α H1 ∧ Post F μ H1 (n p α) (Rep F) Q := by
  obtain ⟨μ, ρ, α, h⟩ := h
  exact ⟨μ, ρ, α, h.bind.imp fun xs H1 ⟨ps, μ1, α1, _, rs, h1⟩ => ⟨ps, μ1, α1, rs, h1.1, h1.2.2⟩⟩
/-- two values, then a step -/
theorem tE2_bindN {ma mb : Den} {n : PV → PV → AH → Res PV} (h : tN F (fun ρ α => (ma ρ α).bind fun p α => (mb ρ α).bind fun q α => n p q α) σ H Q) :
    tE F ma σ H fun x H1 => tE F mb σ H1 fun y H2 => ∃ p q μ α, Rel F μ α H2 ∧ Rep F μ H2 p x ∧ Rep F μ H2 q y ∧ PostN F μ H2 (n p q α) Q := by
  obtain ⟨μ, ρ, α, rel, env, h⟩ := h
  exact ⟨μ, ρ, α, (At.bindN rel env h).imp fun x H1 ⟨p, μ1, α1, l1, rp, rel1, env1, h1⟩ => ⟨μ1, ρ, α1, (At.bindN rel1 env1 h1).imp fun y H2 ⟨q, μ2, α2, l2, rq, rel2, _, h2⟩ =>
    ⟨p, q, μ2, α2, rel2, rp.le l2, rq, h2⟩⟩⟩
theorem tE2_bind {ma mb : Den} {n : PV → PV → AH → Res PV} (h : tE F (fun ρ α => (ma ρ α).bind fun p α => (mb ρ α).bind fun q α => n p q α) σ H Q) :
    tE F ma σ H fun x H1 => tE F mb σ H1 fun y H2 => ∃ p q μ α, Rel F μ α H2 ∧ Rep F μ H2 p x ∧ Rep F μ H2 q y ∧ Post F μ H2 (n p q α) (Rep F) Q := by
  obtain ⟨μ, ρ, α, h⟩ := h
  exact ⟨μ, ρ, α, h.bind.imp fun x H1 ⟨p, μ1, α1, l1, rp, h1⟩ => ⟨μ1, ρ, α1, h1.bind.imp fun y H2 ⟨q, μ2, α2, l2, rq, h2⟩ => ⟨p, q, μ2, α2, h2.1, rp.le l2, rq, h2.2.2⟩⟩⟩

/-! ### nodes -/
variable {a b c e : Expr} {es : List Expr} {ma mb mc m : Den} {ms : Loc' → AH → Res (List PV)} {pos : Pos}
theorem k_const {p : PV} {v : V} (h : PE X e (tC v)) (rp : ∀ μ H, Rep F μ H p v) : PE X e (tE F fun _ α => .ok p α) :=
  pe_imp h fun σ H Q ⟨μ, ρ, α, rel, _, h⟩ => Post.here rel h (rp μ H)
theorem k_var {i : Nat} {x : Str} (hN : X.N[i]? = some x) (hv : Vis X.env.scope x) (hd : (x == ("__debug__" : Str)) = false) (hcd : (x == ("__classdict__" : Str)) = false) :
    PE X (.Name x pos) (tE F fun ρ α => match ρ[i]? with
      | some (some p) => .ok p α
      | _ => .bad) := by
  refine pe_imp (pe_var hN hv hd hcd) fun σ H Q ⟨μ, ρ, α, rel, env, h⟩ => ?_
  dsimp only at h
  split at h
  · rename_i p hp
    obtain ⟨v, e1, rp⟩ := env.2 i p hp
    exact ⟨v, e1, Post.here rel h rp⟩
  · exact False.elim h
theorem k_tup {k : Nat} (h : PA X es (tAs F ms)) : PE X (.Tuple es k pos) (tN F fun ρ α => (ms ρ α).bind fun ps α => need (lineOk ps.length) (.ok (.tup ps) α)) := by
  refine pe_imp (pe_tup h) fun σ H Q hq => ?_
  obtain ⟨μ, ρ, α, hq⟩ := tA_bindN hq
  refine ⟨μ, ρ, α, hq.imp fun xs H1 ⟨ps, μ1, α1, rs, rel, h1⟩ => ?_⟩
  obtain ⟨hz, h1⟩ := need_ok h1
  have hz : ps.length ≤ sizeLine := of_decide_eq_true hz
  exact ⟨by rw [← rs.length]; exact hz, fun p hp => h1.newT rel hp rs⟩
theorem k_lst (h : PA X es (tAs F ms)) : PE X (.List es pos) (tN F fun ρ α => (ms ρ α).bind fun ps α => need (lineOk ps.length) (.ok (.fl ps) α)) := by
  refine pe_imp (pe_lst h) fun σ H Q hq => ?_
  obtain ⟨μ, ρ, α, hq⟩ := tA_bindN hq
  refine ⟨μ, ρ, α, hq.imp fun xs H1 ⟨ps, μ1, α1, rs, rel, h1⟩ => ?_⟩
  obtain ⟨hz, h1⟩ := need_ok h1
  have hz : ps.length ≤ sizeLine := of_decide_eq_true hz
  exact ⟨by rw [← rs.length]; exact hz, fun p hp => h1.newL rel hp rs⟩
theorem k_bin (ft : Fit F X) {o : Bop} (ho : o ≠ .bor) (ha : PE X a (tE F ma)) (hb : PE X b (tE F mb)) : PE X (.BinOp a (bopS o) b pos) (tN F fun ρ α => (ma ρ α).bind fun p α => (mb ρ α).bind fun q α => bop o p q α) :=
  pe_imp (pe_op (op_bop ft o ho) ha hb) fun σ H Q h => tE2_bindN h
theorem k_cmp (ft : Fit F X) {o : Cop} (ha : PE X a (tE F ma)) (hb : PE X b (tE F mb)) (hm : behindInMarks (copS o) b = false) :
    PE X (.Compare a [copS o] [b] pos) (tN F fun ρ α => (ma ρ α).bind fun p α => (mb ρ α).bind fun q α => cop o p q α) :=
  pe_imp (pe_cmpR (op_cop ft o) ha hb hm) fun σ H Q h => tE2_bindN h
/-- a test of what a denotation comes to -/
def tst (m : Den) : Loc' → AH → Res Bool := fun ρ α => (m ρ α).bind fun p α => truth p α
theorem truth_at {p : PV} {v : V} {R : Bool → Hp → Prop} (rel : Rel F μ α H) (rp : Rep F μ H p v) (h : Post F μ H (truth p α) (fun _ _ b c => b = c) R) : ∃ k, v = .bl k ∧ R k H := by
  unfold truth at h
  split at h
  · cases rp
    exact ⟨_, rfl, h μ H _ (.refl F μ H) rel rfl⟩
  · exact False.elim h
theorem t_val (h : PE X e (tE F m)) (he : ∀ whole, isTrue e X.env whole = (do let v ← whole; standAt e.pos; holding [v] (truthy v))) : PT X e (tB' F (tst m)) := by
  refine pt_imp (pt_val h he) fun σ H Q ⟨μ, ρ, α, h⟩ => ?_
  exact ⟨μ, ρ, α, (At.bind (R1 := Rep F) h).imp fun x H1 ⟨p, μ1, α1, l, rp, h1⟩ => truth_at h1.1 rp h1.2.2⟩
theorem need_inv {β : Type} {c : Bool} {r : Res β} {x : β} {a : AH} (h : need c r = .ok x a) : c = true ∧ r = .ok x a := by
  cases c with
  | true => exact ⟨rfl, h⟩
  | false => cases h
theorem cop_bl {o : Cop} {p q r : PV} {α α' : AH} (h : cop o p q α = .ok r α') : ∃ k, r = .bl k ∧ α' = α := by
  have g : ∀ {f : Int → Int → Bool} {g : PyData → PyData → Bool}, cmpO f g p q α = .ok r α' → ∃ k, r = .bl k ∧ α' = α := by
    intro f g h
    unfold cmpO at h
    split at h
    · cases h; exact ⟨_, rfl, rfl⟩
    · split at h
      · obtain ⟨_, h⟩ := need_inv h
        cases h; exact ⟨_, rfl, rfl⟩
      · cases h
  have bb : ∀ {x : Res Bool} {f : Bool → Bool}, (∀ b a, x = .ok b a → a = α) → (x.bind fun b a => Res.ok (.bl (f b)) a) = .ok r α' → ∃ k, r = .bl k ∧ α' = α := by
    intro x f hx h
    cases x with
    | ok b a => cases h; exact ⟨_, rfl, hx _ _ rfl⟩
    | err c xs a => cases h
    | bad => cases h
  have he : ∀ b a, eqP p q α = .ok b a → a = α := by
    intro b a h
    unfold eqP at h
    cases hs : scalP p q with
    | true => rw [hs] at h; cases h; rfl
    | false =>
      rw [hs] at h
      dsimp only at h
      split at h
      · cases h; rfl
      · cases h
  have hi : ∀ b a, inP p q α = .ok b a → a = α := by
    intro b a h
    unfold inP at h
    split at h
    · obtain ⟨_, h⟩ := need_inv h
      cases h; rfl
    · split at h
      · cases h
      · cases h; rfl
      · split at h <;> cases h <;> rfl
  cases o <;> simp only [cop] at h
  · exact bb he h
  · exact bb he h
  · exact g h
  · exact g h
  · exact g h
  · exact g h
  · exact bb hi h
  · exact bb hi h
  · split at h
    · cases h; exact ⟨_, rfl, rfl⟩
    · split at h
      · cases h; exact ⟨_, rfl, rfl⟩
      · cases h
    · cases h
  · split at h
    · cases h; exact ⟨_, rfl, rfl⟩
    · split at h
      · cases h; exact ⟨_, rfl, rfl⟩
      · cases h
    · cases h
theorem tst_read {r : Res PV} {Q : Bool → Hp → Prop} (h : Post F μ H (r.bind fun p α => truth p α) (fun _ _ b c => b = c) Q) : PostN F μ H r (fun x H' => ∃ k, x = .bl k ∧ Q k H') := by
  cases r with
  | ok z α1 => exact fun μ1 H1 v l rel1 rz => truth_at (α := α1) rel1 (rz.rep (by cases z <;> first | rfl | exact h.elim)) (Post.from l h)
  | err c xs a => exact h
  | bad => exact h
theorem t_cmp (ft : Fit F X) {o : Cop} (ha : PE X a (tE F ma)) (hb : PE X b (tE F mb)) (hm : behindInMarks (copS o) b = false) :
    PT X (.Compare a [copS o] [b] pos) (tB' F (tst fun ρ α => (ma ρ α).bind fun p α => (mb ρ α).bind fun q α => cop o p q α)) := by
  refine pt_imp (pt_cmpR (op_cop ft o) ha hb hm) fun σ H Q ⟨μ, ρ, α, h⟩ => ?_
  refine tE2_bindN (n := fun p q α => cop o p q α) (Q := fun x H' => ∃ k, x = .bl k ∧ Q k H') ⟨μ, ρ, α, h.1, h.2.1, ?_⟩
  exact tst_read h.2.2
/-- the two forms of a chain -/
def chainD (o o' : Cop) (ma mb mc : Den) : Den := fun ρ α => (ma ρ α).bind fun p α => (mb ρ α).bind fun q α => (cop o p q α).bind fun z α => (truth z α).bind fun t α =>
  match t with
  | true => (mc ρ α).bind fun r α => cop o' q r α
  | false => .ok (.bl false) α
theorem chain_read (o o' : Cop) (h : tN F (chainD o o' ma mb mc) σ H Q) :
    tChain (fun x y H Q => ∃ p q μ α, Rel F μ α H ∧ Rep F μ H p x ∧ Rep F μ H q y ∧ PostN F μ H (cop o p q α) Q) (fun x y H Q => ∃ p q μ α, Rel F μ α H ∧ Rep F μ H p x ∧ Rep F μ H q y ∧ PostN F μ H (cop o' p q α) Q) (tE F ma) (tE F mb) (tE F mc) σ H Q := by
  obtain ⟨μ, ρ, α, rel, env, h⟩ := h
  refine ⟨μ, ρ, α, (At.bindN rel env h).imp fun x H1 ⟨p, μ1, α1, l1, rp, rel1, env1, h1⟩ => ⟨μ1, ρ, α1, (At.bindN rel1 env1 h1).imp fun y H2 ⟨q, μ2, α2, l2, rq, rel2, env2, h2⟩ => ⟨p, q, μ2, α2, rel2, rp.le l2, rq, ?_⟩⟩⟩
  cases hc : cop o p q α2 with
  | ok z α3 =>
    rw [hc] at h2
    obtain ⟨k, rfl, rfl⟩ := cop_bl hc
    intro μ3 H3 v l3 rel3 rz
    have env3 := env2.le l3
    cases rz
    refine ⟨k, rfl, ?_⟩
    have h3 := PostN.from rel3 l3 h2
    simp only [Res.ok_bind, truth] at h3
    cases k with
    | true =>
      rw [if_pos rfl]
      exact ⟨μ3, ρ, α3, (At.bindN rel3 env3 h3).imp fun w H4 ⟨r, μ4, α4, l4, rr, rel4, _, h4⟩ => ⟨q, r, μ4, α4, rel4, (rq.le l3).le l4, rr, h4⟩⟩
    | false =>
      rw [if_neg Bool.false_ne_true]
      exact h3.here rel3 (.bl _) rfl
  | err c xs a => rw [hc] at h2; exact h2.elim
  | bad => rw [hc] at h2; exact h2.elim
theorem k_chain (ft : Fit F X) {o o' : Cop} (ha : PE X a (tE F ma)) (hb : PE X b (tE F mb)) (hc : PE X c (tE F mc)) (hm : lastMarks [copS o, copS o'] [b, c] = false) :
    PE X (.Compare a [copS o, copS o'] [b, c] pos) (tN F (chainD o o' ma mb mc)) :=
  pe_imp (pe_chain (op_cop ft o) (op_cop ft o') ha hb hc hm) fun σ H Q h => chain_read o o' h
theorem t_chain (ft : Fit F X) {o o' : Cop} (ha : PE X a (tE F ma)) (hb : PE X b (tE F mb)) (hc : PE X c (tE F mc)) (hm : lastMarks [copS o, copS o'] [b, c] = false) :
    PT X (.Compare a [copS o, copS o'] [b, c] pos) (tB' F (tst (chainD o o' ma mb mc))) := by
  refine pt_imp (pt_chain (op_cop ft o) (op_cop ft o') ha hb hc hm) fun σ H Q ⟨μ, ρ, α, h⟩ => ?_
  refine chain_read o o' (Q := fun x H' => ∃ k, x = .bl k ∧ Q k H') ⟨μ, ρ, α, h.1, h.2.1, ?_⟩
  exact tst_read h.2.2
theorem k_neg (ha : PE X a (tE F ma)) : PE X (.UnaryOp .USub a pos) (tN F fun ρ α => (ma ρ α).bind fun p α => match p with
    | .int i => .ok (.int (-i)) α
    | _ => .bad) := by
  refine pe_imp (pe_un un_neg ha) fun σ H Q h => ?_
  obtain ⟨μ, ρ, α, h⟩ := tE_bindN h
  refine ⟨μ, ρ, α, h.imp fun x H1 ⟨p, μ1, α1, rp, rel, h1⟩ => ?_⟩
  split at h1
  · cases rp
    exact ⟨_, rfl, h1.here rel (.int _) rfl⟩
  · exact False.elim h1
theorem k_and {rest : List Expr} (ha : PE X a (tE F ma)) (hb : PE X (.BoolOp .And (b :: rest) pos) (tE F mb)) : PE X (.BoolOp .And (a :: b :: rest) pos) (tE F fun ρ α => (ma ρ α).bind fun p α => (truth p α).bind fun t α => match t with
    | true => mb ρ α
    | false => .ok (.bl false) α) := by
  refine pe_imp (pe_and ha hb) fun σ H Q ⟨μ, ρ, α, h⟩ => ?_
  refine ⟨μ, ρ, α, h.bind.imp fun x H1 ⟨p, μ1, α1, l, rp, h1⟩ => ?_⟩
  obtain ⟨rel1, env1, h1⟩ := h1
  cases p with
  | bl k =>
    cases rp
    refine ⟨k, rfl, ?_⟩
    simp only [Res.ok_bind, truth] at h1
    cases k with
    | true => exact ⟨μ1, ρ, α1, rel1, env1, h1⟩
    | false => exact Post.here rel1 h1 (.bl _)
  | _ => exact False.elim h1
theorem k_or {rest : List Expr} (ha : PE X a (tE F ma)) (hb : PE X (.BoolOp .Or (b :: rest) pos) (tE F mb)) : PE X (.BoolOp .Or (a :: b :: rest) pos) (tE F fun ρ α => (ma ρ α).bind fun p α => (truth p α).bind fun t α => match t with
    | true => .ok (.bl true) α
    | false => mb ρ α) := by
  refine pe_imp (pe_or ha hb) fun σ H Q ⟨μ, ρ, α, h⟩ => ?_
  refine ⟨μ, ρ, α, h.bind.imp fun x H1 ⟨p, μ1, α1, l, rp, h1⟩ => ?_⟩
  obtain ⟨rel1, env1, h1⟩ := h1
  cases p with
  | bl k =>
    cases rp
    refine ⟨k, rfl, ?_⟩
    simp only [Res.ok_bind, truth] at h1
    cases k with
    | true => exact Post.here rel1 h1 (.bl _)
    | false => exact ⟨μ1, ρ, α1, rel1, env1, h1⟩
  | _ => exact False.elim h1
theorem k_not (ha : PE X a (tE F ma)) : PE X (.UnaryOp .Not a pos) (tN F fun ρ α => (ma ρ α).bind fun p α => (truth p α).bind fun t α => .ok (.bl (!t)) α) := by
  refine pe_imp (pe_not ha) fun σ H Q h => ?_
  obtain ⟨μ, ρ, α, h⟩ := tE_bindN h
  refine ⟨μ, ρ, α, h.imp fun x H1 ⟨p, μ1, α1, rp, rel1, h1⟩ => ?_⟩
  cases p with
  | bl k =>
    cases rp
    exact ⟨k, rfl, h1.here rel1 (.bl _) rfl⟩
  | _ => exact False.elim h1
/-- a test, then one of two -/
theorem test_bind {β γ : Type} {R2 : Zn → Hp → β → γ → Prop} {mt : Loc' → AH → Res Bool} {n : Bool → AH → Res β} {Q : γ → Hp → Prop} (h : At F μ ρ σ α H ((mt ρ α).bind n) R2 Q) :
    tB' F mt σ H fun k H1 => ∃ μ1 α1, Le F μ H μ1 H1 ∧ At F μ1 ρ σ α1 H1 (n k α1) R2 Q :=
  ⟨μ, ρ, α, h.bind.imp fun k H1 ⟨b, μ1, α1, l, e, h1⟩ => ⟨μ1, α1, l, e ▸ h1⟩⟩
theorem bind_assoc {β γ δ : Type} (r : Res β) (f : β → AH → Res γ) (g : γ → AH → Res δ) : (r.bind f).bind g = r.bind fun p α => (f p α).bind g := by cases r <;> rfl
theorem k_ife {mt : Loc' → AH → Res Bool} (hc : PT X c (tB' F mt)) (ha : PE X a (tE F ma)) (hb : PE X b (tE F mb)) : PE X (.IfExp c a b pos) (tE F fun ρ α => (mt ρ α).bind fun t α => match t with
    | true => ma ρ α
    | false => mb ρ α) := by
  refine pe_imp (pe_ifExp hc ha hb) fun σ H Q ⟨μ, ρ, α, h⟩ => ?_
  obtain ⟨μ', ρ', α', h'⟩ := test_bind h
  refine ⟨μ', ρ', α', h'.imp fun k H1 ⟨μ1, α1, l, h1⟩ => ?_⟩
  cases k with
  | true => exact ⟨μ1, ρ, α1, h1⟩
  | false => exact ⟨μ1, ρ, α1, h1⟩
theorem t_not {mt : Loc' → AH → Res Bool} (hc : PT X c (tB' F mt)) : PT X (.UnaryOp .Not c pos) (tB' F fun ρ α => (mt ρ α).bind fun t α => .ok (!t) α) := by
  refine pt_imp (pt_not hc) fun σ H Q ⟨μ, ρ, α, h⟩ => ?_
  obtain ⟨μ', ρ', α', h'⟩ := test_bind h
  exact ⟨μ', ρ', α', h'.imp fun k H1 ⟨μ1, α1, l, h1⟩ => h1.2.2 μ1 H1 _ (.refl F μ1 H1) h1.1 rfl⟩
theorem w_one {op : BoolOp} {mt : Loc' → AH → Res Bool} (hc : PT X c (tB' F mt)) : PW X (.BoolOp op [c] pos) (tB' F mt) := by
  cases op with
  | And => exact pw_and1 hc
  | Or => exact pw_or1 hc
theorem w_and {mt mu : Loc' → AH → Res Bool} {rest : List Expr} (hc : PT X c (tB' F mt)) (hb : PW X (.BoolOp .And (b :: rest) pos) (tB' F mu)) : PW X (.BoolOp .And (c :: b :: rest) pos) (tB' F fun ρ α => (mt ρ α).bind fun t α => match t with
    | true => mu ρ α
    | false => .ok false α) := by
  refine pw_imp (pw_and hc hb) fun σ H Q ⟨μ, ρ, α, h⟩ => ?_
  obtain ⟨μ', ρ', α', h'⟩ := test_bind h
  refine ⟨μ', ρ', α', h'.imp fun k H1 ⟨μ1, α1, l, h1⟩ => ?_⟩
  cases k with
  | true => exact ⟨μ1, ρ, α1, h1⟩
  | false => exact h1.2.2 μ1 H1 _ (.refl F μ1 H1) h1.1 rfl
theorem w_or {mt mu : Loc' → AH → Res Bool} {rest : List Expr} (hc : PT X c (tB' F mt)) (hb : PW X (.BoolOp .Or (b :: rest) pos) (tB' F mu)) : PW X (.BoolOp .Or (c :: b :: rest) pos) (tB' F fun ρ α => (mt ρ α).bind fun t α => match t with
    | true => .ok true α
    | false => mu ρ α) := by
  refine pw_imp (pw_or hc hb) fun σ H Q ⟨μ, ρ, α, h⟩ => ?_
  obtain ⟨μ', ρ', α', h'⟩ := test_bind h
  refine ⟨μ', ρ', α', h'.imp fun k H1 ⟨μ1, α1, l, h1⟩ => ?_⟩
  cases k with
  | true => exact h1.2.2 μ1 H1 _ (.refl F μ1 H1) h1.1 rfl
  | false => exact ⟨μ1, ρ, α1, h1⟩
theorem k_ix (ft : Fit F X) (ha : PE X a (tE F ma)) (hb : PE X b (tE F mb)) (hs : PlainIx b) : PE X (.Subscript a b pos) (tE F fun ρ α => (ma ρ α).bind fun p α => (mb ρ α).bind fun q α => ixP p q α) :=
  pe_imp (pe_ix (ix_all ft) ha hb hs) fun σ H Q h => tE2_bind h
theorem k_rev (ft : Fit F X) {k : Nat} {p1 p2 p3 : Pos} (ha : PE X a (tE F ma)) : PE X (.Subscript a (.Slice none none (some (.UnaryOp .USub (.Constant (.int 1) k p1) p2)) p3) pos) (tN F fun ρ α => (ma ρ α).bind fun p α => revP p α) := by
  refine pe_imp (pe_revL ha) fun σ H Q h => ?_
  obtain ⟨μ, ρ, α, h⟩ := tE_bindN h
  exact ⟨μ, ρ, α, h.imp fun x H1 ⟨p, μ1, α1, rp, rel1, h1⟩ => rev_at ft rel1 rp h1⟩
/-- a slice's part -/
abbrev tO (F : Fx) (m : Loc' → AH → Res (Option Int)) : TO := tR F (fun _ _ b c => b = c) m
theorem o_none : PO X none (tO F fun _ α => .ok none α) := by
  refine ⟨fun pins s σ H Q I ⟨μ, ρ, α, rel, env, h⟩ => ?_⟩
  exact po_none.run pins s σ H Q I (h μ H _ (.refl F μ H) rel rfl)
theorem o_some (ha : PE X a (tE F ma)) : PO X (some a) (tO F fun ρ α => (ma ρ α).bind fun p α => partO p α) := by
  refine ⟨fun pins s σ H Q I ⟨μ, ρ, α, h⟩ => ?_⟩
  refine (po_some ha).run pins s σ H Q I ⟨μ, ρ, α, (At.bind (R1 := Rep F) h).imp fun x H1 ⟨p, μ1, α1, l, rp, h1⟩ => ?_⟩
  obtain ⟨rel1, _, h1⟩ := h1
  cases p with
  | int i => cases rp; exact ⟨i, rfl, h1 μ1 H1 _ (.refl F μ1 H1) rel1 rfl⟩
  | _ => exact False.elim h1
theorem k_sl (ft : Fit F X) {lo hi : Option Expr} {p2 : Pos} {ml mh : Loc' → AH → Res (Option Int)} (ha : PE X a (tE F ma)) (hl : PO X lo (tO F ml)) (hh : PO X hi (tO F mh)) :
    PE X (.Subscript a (.Slice lo hi none p2) pos) (tN F fun ρ α => (ma ρ α).bind fun p α => (ml ρ α).bind fun l α => (mh ρ α).bind fun h α => slP p l h α) := by
  refine pe_imp (pe_slice (sl_all ft) ha hl hh) fun σ H Q ⟨μ, ρ, α, rel, env, h⟩ => ?_
  refine ⟨μ, ρ, α, (At.bindN rel env h).imp fun x H1 ⟨p, μ1, α1, l1, rp, rel1, env1, h1⟩ => ⟨μ1, ρ, α1, (At.bindN rel1 env1 h1).imp fun lo' H2 ⟨lo, μ2, α2, l2, e2, rel2, env2, h2⟩ => ⟨μ2, ρ, α2, (At.bindN rel2 env2 h2).imp fun hi' H3 ⟨hi, μ3, α3, l3, e3, rel3, _, h3⟩ => ?_⟩⟩⟩
  subst e2; subst e3
  exact ⟨p, μ3, α3, rel3, (rp.le l2).le l3, h3⟩
/-- a built-in by its name -/
structure Blt (X : Cx) (x : Str) (u : Value) : Prop where
  gl : Gl X x
  mg : X.mg x = none
  bt : bootBuiltins x = some u
  nn : x ≠ "__name__"
  nd : (x == ("__debug__" : Str)) = false
theorem k_callB {u : Value} {x : Str} {p : Pos} {r : List V → Hp → VK → Prop} (hu : (∃ id, u = .builtin id) ∨ ∃ T, u = .type T) (hb : Blt X x u) (hc : CallR X u r) {t : TA} (ha : PA X (a :: es) t) (hs : (a :: es).all noStar = true) :
    PE X (.Call (.Name x p) (a :: es) [] pos) (tCB r t) := by
  rw [List.all_cons, Bool.and_eq_true] at hs
  rcases hu with ⟨id, rfl⟩ | ⟨T, rfl⟩
  · exact pe_callB hc hb.gl hb.mg hb.bt ha hb.nn hb.nd (star_cons hs.1) (star_any hs.2)
  · exact pe_callTy hc hb.gl hb.mg hb.bt ha hb.nn hb.nd (star_cons hs.1) (star_any hs.2)
/-- what has a rule -/
def okB1 : B1 → Bool
  | .set => false
  | .dict => false
  | .min => false
  | .max => false
  | _ => true
theorem b1I_kind (f : B1) : (∃ id, b1I f = .builtin id) ∨ ∃ T, b1I f = .type T := by cases f <;> first | exact .inl ⟨_, rfl⟩ | exact .inr ⟨_, rfl⟩
theorem b2I_kind (f : B2) : (∃ id, b2I f = .builtin id) ∨ ∃ T, b2I f = .type T := by cases f <;> first | exact .inl ⟨_, rfl⟩ | exact .inr ⟨_, rfl⟩
theorem k_b1 (ft : Fit F X) {f : B1} {x : Str} {p : Pos} (hf : okB1 f = true) (hb : Blt X x (b1I f)) (ha : PE X a (tE F ma)) (hs : noStar a = true) : PE X (.Call (.Name x p) [a] [] pos) (tN F fun ρ α => (ma ρ α).bind fun p α => b1 f p α) := by
  refine pe_imp (k_callB (b1I_kind f) hb (call_b1 ft f (fun z => by subst z; cases hf) (fun z => by subst z; cases hf) (fun z => by subst z; cases hf) fun z => by subst z; cases hf) (pa_cons ha pa_nil (star_cons hs)) (by simp [hs])) fun σ H Q h => ?_
  obtain ⟨μ, ρ, α, h⟩ := tE_bindN h
  exact ⟨μ, ρ, α, h.imp fun x H1 ⟨p, μ1, α1, rp, rel1, h1⟩ => ⟨x, p, μ1, α1, rfl, rel1, rp, h1⟩⟩
theorem k_b2 (ft : Fit F X) {f : B2} {x : Str} {p : Pos} (hb : Blt X x (b2I f)) (ha : PE X a (tE F ma)) (hc : PE X b (tE F mb)) (hs : noStar a = true) (hs2 : noStar b = true) :
    PE X (.Call (.Name x p) [a, b] [] pos) (tN F fun ρ α => (ma ρ α).bind fun p α => (mb ρ α).bind fun q α => b2 f p q α) := by
  refine pe_imp (k_callB (b2I_kind f) hb (call_b2 ft f) (pa_cons ha (pa_cons hc pa_nil (star_cons hs2)) (star_cons hs)) (by simp [hs, hs2])) fun σ H Q h => ?_
  obtain ⟨μ, ρ, α, h⟩ := tE2_bindN h
  exact ⟨μ, ρ, α, h.imp fun x H1 ⟨μ1, ρ1, α1, h1⟩ => ⟨μ1, ρ1, α1, h1.imp fun y H2 ⟨p, q, μ2, α2, rel2, rp, rq, h2⟩ => ⟨x, y, p, q, μ2, α2, rfl, rel2, rp, rq, h2⟩⟩⟩
/-- a new thing joins the store -/
theorem k_join (ha : PE X a (tN F ma)) : PE X a (tE F fun ρ α => (ma ρ α).bind fun p α => joinP p α) := by
  refine pe_imp ha fun σ H Q ⟨μ, ρ, α, rel, env, h⟩ => ⟨μ, ρ, α, rel, env, ?_⟩
  replace h : Post F μ H ((ma ρ α).bind fun p α => joinP p α) (Rep F) Q := h
  cases hr : ma ρ α with
  | ok p α1 =>
    rw [hr] at h
    intro μ1 H1 v l rel1 rn
    obtain ⟨on, off⟩ := μ1
    have fin : ∀ {x : Addr} {ao : AO}, H x = none → x ∉ on → x ∉ off → Rel F ⟨on, x :: off⟩ α1 H1 → OR F ⟨on, x :: off⟩ H1 x ao → Post F μ H (.ok (.ref α1.length) (α1 ++ [ao])) (Rep F) Q → Q (.ref x) H1 := by
      intro x ao h0 h1 h2 r3 o hp
      obtain ⟨l', r'⟩ := join_step rel l r3 h0 h1 h2 o
      refine hp _ H1 _ l' r' (.ref ?_)
      show (on ++ [x])[α1.length]? = some x
      have : on.length = α1.length := r3.len
      rw [← this, List.getElem?_concat_length]
    cases p with
    | fl xs => obtain ⟨x, rfl, h0, h1, h2, r3, o⟩ := rn; exact fin h0 h1 h2 r3 o h
    | fd kvs => obtain ⟨x, rfl, h0, h1, h2, r3, o⟩ := rn; exact fin h0 h1 h2 r3 o h
    | _ => exact h ⟨on, off⟩ H1 v l rel1 rn
  | err c xs a => rw [hr] at h; exact h
  | bad => rw [hr] at h; exact h
end
end Mw
end
section
set_option Elab.async false
set_option linter.all false
set_option maxRecDepth 100000
set_option maxHeartbeats 2000000
/-! Mw9: methods of built-in types. -/
namespace Mw
open PySem PySem.Spec PyProof.Rows L2

def M.name : M → Str
  | .pop => "pop"
  | .append => "append"
  | .setdefault => "setdefault"
  | .extend => "extend"
  | .remove => "remove"
  | .index => "index"
  | .get => "get"
  | .update => "update"
  | .join => "join"
  | .partition => "partition"
  | .split => "split"
def M.id : M → String
  | .pop => "list.pop"
  | .append => "list.append"
  | .setdefault => "dict.setdefault"
  | .extend => "list.extend"
  | .remove => "list.remove"
  | .index => "list.index"
  | .get => "dict.get"
  | .update => "dict.update"
  | .join => "str.join"
  | .partition => "str.partition"
  | .split => "str.split"
structure MthOk (m : M) : Prop where
  pa : PlainAttrs m.ty
  slot : Slot m.ty m.name m.id
  ty : typeOf (.builtin m.id) = pure (.type "method_descriptor")
theorem mth_ok : ∀ m, MthOk m := by
  intro m
  cases m with
  | pop => exact ⟨PySem.F.plainAttrs_list, PySem.F.slot_list_pop, PySem.F.type_list_pop⟩
  | append => exact ⟨PySem.F.plainAttrs_list, PySem.F.slot_list_append, PySem.F.type_list_append⟩
  | setdefault => exact ⟨PySem.F.plainAttrs_dict, PySem.F.slot_dict_setdefault, PySem.F.type_dict_setdefault⟩
  | extend => exact ⟨PySem.F.plainAttrs_list, PySem.F.slot_list_extend, PySem.F.type_list_extend⟩
  | remove => exact ⟨PySem.F.plainAttrs_list, PySem.F.slot_list_remove, PySem.F.type_list_remove⟩
  | index => exact ⟨PySem.F.plainAttrs_list, PySem.F.slot_list_index, PySem.F.type_list_index⟩
  | get => exact ⟨PySem.F.plainAttrs_dict, PySem.F.slot_dict_get, PySem.F.type_dict_get⟩
  | update => exact ⟨PySem.F.plainAttrs_dict, PySem.F.slot_dict_update, PySem.F.type_dict_update⟩
  | join => exact ⟨PySem.F.plainAttrs_str, PySem.F.slot_str_join, PySem.F.type_str_join⟩
  | partition => exact ⟨PySem.F.plainAttrs_str, PySem.F.slot_str_partition, PySem.F.type_str_partition⟩
  | split => exact ⟨PySem.F.plainAttrs_str, PySem.F.slot_str_split, PySem.F.type_str_split⟩

section
variable {F : Fx} {X : Cx} {μ μ' : Zn} {H H' : Hp} {α α' : AH} {ρ : Loc'} {σ : L2.St} {Q : VK}
theorem isTy_at (ft : Fit F X) {pins : List (Addr × Obj)} {s : Shared} (I : Inv X pins σ H s) (rel : Rel F μ α H) {T : String} {p : PV} {x : V} {v : Value} (h : isTy T p α = true) (rp : Rep F μ H p x) (rx : RelV x v) :
    s.TypeIs v T ∧ ∀ a, v = .ref a → ∃ ob, s.heap.get? a = some ob ∧ ob.dict = none := by
  unfold isTy at h
  split at h
  · rename_i e
    subst e
    obtain ⟨xs, hk⟩ := Option.isSome_iff_exists.mp h
    obtain ⟨a, vs, rfl, hH, _⟩ := itemsL_at rel hk rp
    cases rx
    obtain ⟨z, its, n, r, hl, e⟩ := I.lstM hH
    exact ⟨⟨_, e, rfl⟩, fun b q => by cases q; exact ⟨_, e, rfl⟩⟩
  · split at h
    · rename_i e
      subst e
      obtain ⟨kvs, hk⟩ := Option.isSome_iff_exists.mp h
      obtain ⟨a, rfl, o⟩ := pairsD_at rel hk rp
      cases rx
      obtain ⟨h1, h2, _⟩ := dct_type ft I o
      exact ⟨h1, h2⟩
    · split at h
      · rename_i e
        subst e
        split at h
        · cases rp
          obtain ⟨t, rfl⟩ := rx
          exact ⟨typeIs_str _ _ _, fun b q => by cases q⟩
        · cases h
      · cases h
theorem repL_strs : ∀ zs : List Str, RepL F μ H (zs.map PV.str) (zs.map V.str)
  | [] => .nil
  | z :: zs => .cons (.str z) (repL_strs zs)
theorem strs_at : ∀ {ps : List PV} {vs : List V} {ys : List Str}, RepL F μ H ps vs → strsOf ps = some ys → vs = ys.map V.str
  | [], _, ys, r, h => by cases r; simp [strsOf] at h; subst h; rfl
  | .str x :: ps, _, ys, r, h => by
    simp only [strsOf, Option.map_eq_some_iff] at h
    obtain ⟨zs, h, rfl⟩ := h
    cases r with
    | cons a b => cases a; rw [strs_at b h]; rfl
theorem ints_of_at : ∀ {ps : List PV} {vs : List V} {ys : List Int}, RepL F μ H ps vs → intsOf ps = some ys → vs = ys.map V.int ∧ ps = ys.map PV.int
  | [], _, ys, r, h => by cases r; simp [intsOf] at h; subst h; exact ⟨rfl, rfl⟩
  | .int x :: ps, _, ys, r, h => by
    simp only [intsOf, Option.map_eq_some_iff] at h
    obtain ⟨zs, h, rfl⟩ := h
    cases r with
    | cons a b => cases a; obtain ⟨e1, e2⟩ := ints_of_at b h; exact ⟨by rw [e1]; rfl, by rw [e2]; rfl⟩
theorem findD_spec (d : PyData) : ∀ {ds : List PyData} {i j : Nat}, findD d ds i = some j → ∃ k z, j = i + k ∧ ds[k]? = some z ∧ PyData.eqv z d = true ∧ ∀ m z', m < k → ds[m]? = some z' → PyData.eqv z' d = false
  | [], i, j, h => by cases h
  | e :: es, i, j, h => by
    unfold findD at h
    split at h
    · rename_i he
      cases h
      exact ⟨0, e, rfl, rfl, he, fun m z' hm => absurd hm (Nat.not_lt_zero _)⟩
    · rename_i he
      obtain ⟨k, z, e1, e2, e3, e4⟩ := findD_spec d h
      refine ⟨k + 1, z, by omega, by simpa using e2, e3, fun m z' hm hz => ?_⟩
      cases m with
      | zero => simp at hz; subst hz; simpa using he
      | succ m => exact e4 m z' (by omega) (by simpa using hz)
theorem idx_spec (i : Int) : ∀ {ns : List Int}, i ∈ ns → ns[ns.idxOf i]? = some i ∧ ∀ m : Nat, m < ns.idxOf i → ns[m]? ≠ some i
  | [], h => by cases h
  | n :: ns, h => by
    rw [List.idxOf_cons]
    by_cases e : n = i
    · subst e
      simp
    · have hb : (n == i) = false := by simpa using e
      rw [hb]
      rcases List.mem_cons.mp h with h | h
      · exact absurd h.symm e
      · obtain ⟨h1, h2⟩ := idx_spec i h
        refine ⟨by simpa using h1, fun m hm => ?_⟩
        cases m with
        | zero => simpa using e
        | succ m => simpa using h2 m (by simpa using hm)
theorem erase_map (f : Int → V) : ∀ (ns : List Int) (k : Nat), (ns.map f).eraseIdx k = (ns.eraseIdx k).map f
  | [], _ => rfl
  | _ :: _, 0 => rfl
  | n :: ns, k + 1 => by simp [erase_map f ns k]
/-- d.get(k), d.get(k, x) -/
theorem dx_get1 (ft : Fit F X) {pins : List (Addr × Obj)} {σ : L2.St} {s : Shared} {a : Addr} {kvs : List (PV × PV)} {k : PV} {y : V} {u : Value} {A : Around} {E : Value → Shared → Prop} (hu : A.units + 200 < cLine) (I : Inv X pins σ H s) {Q : Value → Shared → Prop} (hk : kok kvs k = true) (o : DctR F μ H a kvs) (rk : Rep F μ H k y) (ry : RelV y u)
    (h : ∀ v w' s', Inv X pins σ H s' → RelV v w' → Rep F μ H ((dfind kvs k).getD .non) v → Q w' s') : wpAny (model X.prog X.w) A (call (.builtin "dict.get") [.ref a, u]) Q E s := by
  obtain ⟨H1, I1, back, c⟩ := dct_rd ft I hk o
  rcases c with ⟨q, ks, hq, r, e⟩ | ⟨ts, q, L, xs, rfl, hq, hd, r, pl, hs, dd⟩
  · rw [rep_key hq rk] at ry
    refine d_get1 (by omega) I1 (dget_rd e) ry fun w' s' I' rw' => ?_
    cases hf : dfind kvs k with
    | none =>
      rw [(find_K hq r).2 hf] at rw'
      exact h .non w' s' (back s' I') rw' (by rw [hf]; exact .non)
    | some p =>
      obtain ⟨v, e1, e2⟩ := (find_K hq r).1 p hf
      rw [e1] at rw'
      exact h v w' s' (back s' I') rw' (by rw [hf]; exact e2)
  · obtain ⟨b, rfl⟩ := rep_ref rk
    cases ry
    refine call_meetsIn PySem.F.slot_dict_get dd.typeIs PySem.F.entry_dict_get (PySem.F.args_dict_get_2 _ _) (meetsH_dict_get (nestedKind X.prog X.w) a b hs) ⟨by rw [ft.P, ft.w]; exact nroom hu, q, xs, by rw [ft.P, ft.w]; exact ⟨nested_of ft I rk hq rfl, hd⟩, by rw [ft.P, ft.w]; exact dd, ?_⟩
    cases hf : dfind kvs (.tup ts) with
    | none =>
      rw [(find_X hq r pl).2 hf]
      exact h .non _ _ (back _ (I1.tok _)) rfl (by rw [hf]; exact .non)
    | some p =>
      obtain ⟨v, b', u', e1, e2, e3⟩ := (find_X hq r pl).1 p hf
      rw [e1]
      exact h v _ _ (back _ (I1.tok _)) e2 (by rw [hf]; exact e3)
theorem dx_get2 (ft : Fit F X) {pins : List (Addr × Obj)} {σ : L2.St} {s : Shared} {a : Addr} {kvs : List (PV × PV)} {k : PV} {y : V} {u : Value} {A : Around} {E : Value → Shared → Prop} (hu : A.units + 200 < cLine) (I : Inv X pins σ H s) {Q : Value → Shared → Prop} (hk : kok kvs k = true) (o : DctR F μ H a kvs) (rk : Rep F μ H k y) (ry : RelV y u)
    {dv : PV} {z : V} {w : Value} (rd : Rep F μ H dv z) (rz : RelV z w) (h : ∀ v w' s', Inv X pins σ H s' → RelV v w' → Rep F μ H ((dfind kvs k).getD dv) v → Q w' s') : wpAny (model X.prog X.w) A (call (.builtin "dict.get") [.ref a, u, w]) Q E s := by
  obtain ⟨H1, I1, back, c⟩ := dct_rd ft I hk o
  rcases c with ⟨q, ks, hq, r, e⟩ | ⟨ts, q, L, xs, rfl, hq, hd, r, pl, hs, dd⟩
  · rw [rep_key hq rk] at ry
    refine d_get2 (by omega) I1 (dget_rd e) ry rz fun w' s' I' rw' => ?_
    cases hf : dfind kvs k with
    | none =>
      rw [(find_K hq r).2 hf] at rw'
      exact h z w' s' (back s' I') rw' (by rw [hf]; exact rd)
    | some p =>
      obtain ⟨v, e1, e2⟩ := (find_K hq r).1 p hf
      rw [e1] at rw'
      exact h v w' s' (back s' I') rw' (by rw [hf]; exact e2)
  · obtain ⟨b, rfl⟩ := rep_ref rk
    cases ry
    refine call_meetsIn PySem.F.slot_dict_get dd.typeIs PySem.F.entry_dict_get (PySem.F.args_dict_get_3 _ _ _) (meetsH_dict_get_default (nestedKind X.prog X.w) a b hs w) ⟨by rw [ft.P, ft.w]; exact nroom hu, q, xs, by rw [ft.P, ft.w]; exact ⟨nested_of ft I rk hq rfl, hd⟩, by rw [ft.P, ft.w]; exact dd, ?_⟩
    cases hf : dfind kvs (.tup ts) with
    | none =>
      rw [(find_X hq r pl).2 hf]
      exact h z _ _ (back _ (I1.tok _)) rz (by rw [hf]; exact rd)
    | some p =>
      obtain ⟨v, b', u', e1, e2, e3⟩ := (find_X hq r pl).1 p hf
      rw [e1]
      exact h v _ _ (back _ (I1.tok _)) e2 (by rw [hf]; exact e3)
/-- what has a rule -/
def okM : M → Bool
  | .update => false
  | _ => true
theorem rep_erase : ∀ {ps : List PV} {vs : List V} (i : Nat), RepL F μ H ps vs → RepL F μ H (ps.eraseIdx i) (vs.eraseIdx i)
  | _, _, _, .nil => .nil
  | _, _, 0, .cons _ b => b
  | _, _, i + 1, .cons a b => .cons a (rep_erase i b)
theorem mP_run (ft : Fit F X) (m : M) (hm : okM m = true) : MtR X m.id (fun x xs H Q => ∃ p ps μ α, Rel F μ α H ∧ Rep F μ H p x ∧ RepL F μ H ps xs ∧ Post F μ H (mP m p ps α) (Rep F) Q) := by
  intro pins s σ H x xs v us Q I rx rv h
  obtain ⟨p, ps, μ, α, rel, rp, rs, h⟩ := h
  unfold mP at h
  split at h
  · cases rs
    split at h
    · rename_i k ys hk
      split at h
      · rename_i y hy
        obtain ⟨a, vs, rfl, hi, ha, hH, rl⟩ := lstAt_at rel hk rp
        obtain ⟨w, hw, rw'⟩ := rl.get hy
        obtain ⟨l, rel'⟩ := put_list rel hi hH (rl.dropLast)
        refine mt_pop pins s σ H _ _ v us Q I rx rv ⟨a, vs, w, rfl, rfl, hH, by rw [← rl.length]; exact hw, h _ _ _ l rel' (rw'.le l)⟩
      · exact False.elim h
    · exact False.elim h
  · cases rs with
    | cons r1 r2 =>
    cases r2; cases r1
    split at h
    · rename_i k ys hk
      obtain ⟨hc, h⟩ := need_okG h
      have hc := of_decide_eq_true hc
      split at h
      · rename_i j hj
        split at h
        · rename_i y hy
          obtain ⟨a, vs, rfl, hi, ha, hH, rl⟩ := lstAt_at rel hk rp
          obtain ⟨w, hw, rw'⟩ := rl.get hy
          obtain ⟨l, rel'⟩ := put_list rel hi hH (rep_erase j rl)
          refine mt_popAt pins s σ H _ _ v us Q I rx rv ⟨a, vs, _, j, w, rfl, rfl, hH, hc.1, hc.2, by rw [← rl.length]; exact hj, hw, h _ _ _ l rel' (rw'.le l)⟩
        · exact False.elim h
      · exact False.elim h
    · exact False.elim h
  · cases rs with
    | cons r1 r2 =>
    cases r2
    split at h
    · rename_i k ys hk
      obtain ⟨hc, h⟩ := need_okG h
      have hc := of_decide_eq_true hc
      obtain ⟨a, vs, rfl, hi, ha, hH, rl⟩ := lstAt_at rel hk rp
      obtain ⟨l, rel'⟩ := put_list rel hi hH (rl.append (.cons r1 .nil))
      refine mt_append pins s σ H _ _ v us Q I rx rv ⟨a, vs, _, rfl, rfl, hH, by rw [← rl.length]; exact hc, h _ _ _ l rel' .non⟩
    · exact False.elim h
  · -- extend
    cases rs with
    | cons r1 r2 =>
    cases r2
    split at h
    · rename_i k ys zs hk hz
      obtain ⟨hc, h⟩ := need_okG h
      have hc := of_decide_eq_true hc
      obtain ⟨a, vs, rfl, hi, ha, hH, rl⟩ := lstAt_at rel hk rp
      obtain ⟨b, ws, rfl, hB, rl2⟩ := itemsL_at rel hz r1
      obtain ⟨l, rel'⟩ := put_list rel hi hH (rl.append rl2)
      refine mt_extend pins s σ H _ _ v us Q I rx rv ⟨a, b, vs, ws, rfl, rfl, hH, hB, by rw [← rl.length, ← rl2.length]; exact hc, h _ _ _ l rel' .non⟩
    · exact False.elim h
  · -- index
    cases rs with
    | cons r1 r2 =>
    cases r2
    split at h
    · rename_i ds d h1 h2
      split at h
      · rename_i i hi
        obtain ⟨e1, e2⟩ := toS_at rel rp h1
        obtain ⟨d1, d2⟩ := toS_at rel r1 h2
        obtain ⟨k, z, rfl, f1, f2, f3⟩ := findD_spec d hi
        have ex : ∃ a, x = .ref a := by cases e1; exact ⟨_, rfl⟩
        obtain ⟨a, rfl⟩ := ex
        have hu := ft.room
        refine mt_indexD (by omega) pins s σ H _ _ v us Q I rx rv ⟨a, _, d, ds, k, z, rfl, rfl, by rw [ft.K]; exact e1, by rw [ft.K]; exact d1, e2, d2, f1, f2, f3, ?_⟩
        have := Post.here rel h (.int _)
        simpa using this
      · exact False.elim h
    · exact False.elim h
  · -- remove
    cases rs with
    | cons r1 r2 =>
    cases r2
    split at h
    · rename_i k ys i hk
      split at h
      · rename_i ns hn
        obtain ⟨hc, h⟩ := need_okG h
        have hc := of_decide_eq_true hc
        obtain ⟨a, vs, rfl, hi, ha, hH, rl⟩ := lstAt_at rel hk rp
        cases r1
        obtain ⟨e1, e2⟩ := ints_of_at rl hn
        obtain ⟨f1, f2⟩ := idx_spec i hc
        obtain ⟨l, rel'⟩ := put_list rel hi hH (rep_erase (ns.idxOf i) rl)
        subst e1
        refine mt_remove pins s σ H _ _ v us Q I rx rv ⟨a, ns, i, ns.idxOf i, rfl, rfl, hH, f1, f2, ?_⟩
        rw [← erase_map]
        exact h _ _ _ l rel' .non
      · exact False.elim h
    · exact False.elim h
  · -- get
    cases rs with
    | cons r1 r2 =>
    cases r2
    split at h
    · rename_i kvs hk
      obtain ⟨hc, h⟩ := need_okG h
      obtain ⟨a, rfl, o⟩ := pairsD_at rel hk rp
      cases rx
      cases rv with
      | cons v1 v2 =>
      cases v2
      exact dx_get1 ft ft.room I hc o r1 v1 fun z w' s' I' rz rw' => ⟨z, H, I', rz, Post.here rel h rw'⟩
    · exact False.elim h
  · cases rs with
    | cons r1 r2 =>
    cases r2 with
    | cons r2 r3 =>
    cases r3
    split at h
    · rename_i kvs hk
      obtain ⟨hc, h⟩ := need_okG h
      obtain ⟨a, rfl, o⟩ := pairsD_at rel hk rp
      cases rx
      cases rv with
      | cons v1 v2 =>
      cases v2 with
      | cons v2 v3 =>
      cases v3
      exact dx_get2 ft ft.room I hc o r1 v1 r2 v2 fun z w' s' I' rz rw' => ⟨z, H, I', rz, Post.here rel h rw'⟩
    · exact False.elim h
  · cases hm
  · -- join
    cases rs with
    | cons r1 r2 =>
    cases r2
    split at h
    · rename_i a ys hy
      obtain ⟨hc, h⟩ := need_okG h
      have hc := of_decide_eq_true hc
      obtain ⟨zs, hz, hy⟩ := Option.bind_eq_some_iff.mp hy
      obtain ⟨b, vs, rfl, rl, c⟩ := itemsS_at rel hz r1
      cases rp
      have e := strs_at rl hy
      subst e
      refine mt_join pins s σ H _ _ v us Q I rx rv ⟨a, b, ys, rfl, rfl, by rw [ft.K]; exact c.elim (fun c => .inr c.2) .inl, hc, Post.here rel h (.str _)⟩
    · exact False.elim h
  · -- partition
    cases rs with
    | cons r1 r2 =>
    cases r2
    split at h
    · obtain ⟨hc, h⟩ := need_okG h
      rw [Bool.and_eq_true, Bool.not_eq_true'] at hc
      cases rp; cases r1
      refine mt_partition pins s σ H _ _ v us Q I rx rv ⟨_, _, rfl, rfl, hc.1, of_decide_eq_true hc.2, fun p hp => ?_⟩
      obtain ⟨l, rel'⟩ := new_step rel (o := .tup [.str _, .str _, .str _]) hp
      exact h _ _ _ l rel' (.tup upd_same (.cons (.str _) (.cons (.str _) (.cons (.str _) .nil))))
    · exact False.elim h
  · -- split
    cases rs with
    | cons r1 r2 =>
    cases r2
    split at h
    · obtain ⟨hc, h⟩ := need_okG h
      rw [Bool.and_eq_true, Bool.not_eq_true'] at hc
      cases rp; cases r1
      refine mt_split pins s σ H _ _ v us Q I rx rv ⟨_, _, rfl, rfl, hc.1, of_decide_eq_true hc.2, fun p hp => ?_⟩
      obtain ⟨l, rel'⟩ := new_step rel (o := .lst _) hp
      refine h _ _ _ l rel' (.fl ⟨fresh_non rel hp, fresh_noff rel hp⟩ upd_same (repL_strs _))
    · exact False.elim h
  · cases rs with
    | cons r1 r2 =>
    cases r2 with
    | cons r2 r3 =>
    cases r3
    split at h
    · rename_i k kvs hk
      obtain ⟨hc, h⟩ := need_okG h
      simp only [Bool.and_eq_true, decide_eq_true_eq] at hc
      obtain ⟨⟨c1, c2⟩, c3⟩ := hc
      obtain ⟨a, rfl, hi, ha⟩ := dctAt_at rel hk rp
      cases rx
      cases rv with
      | cons v1 v2 =>
      cases v2 with
      | cons v2 v3 =>
      cases v3
      refine dx_setdefault ft ft.room I rel hi ha c1 c3 c2 r1 v1 r2 v2 (fun x z r s' hx I' rz rw' => ?_) fun hn H' s' I' l rel' => ?_
      · rw [hx] at h
        exact ⟨z, H, I', rz, Post.here rel h rw'⟩
      · rw [hn] at h
        exact ⟨_, H', I', v2, h _ _ _ l rel' (r2.le l)⟩
    · exact False.elim h
  · exact False.elim h

/-- o.m(..): o is no call without arguments by a name (of super) -/
def noCall : Expr → Bool
  | .Call (.Name _ _) [] [] _ => false
  | _ => true
theorem base_of {o : Expr} {f : Str} {env : Env} (h : noCall o = true) : attributeBase o f env (eval o env) = eval o env := by
  cases o <;> first | rfl | skip
  rename_i fn args kws pos
  cases fn <;> first | rfl | skip
  cases args <;> first | rfl | skip
  cases kws <;> first | rfl | cases h
variable {o e : Expr} {es : List Expr} {mo : Den} {ms : Loc' → AH → Res (List PV)} {apos cpos : Pos}
theorem mth_read {m : M} (h : tE F (fun ρ α => (mo ρ α).bind fun p α => need (isTy m.ty p α) ((ms ρ α).bind fun ps α => mP m p ps α)) σ H Q) :
    tE F mo σ H fun x H1 => (∃ p μ α, Rel F μ α H1 ∧ Rep F μ H1 p x ∧ isTy m.ty p α = true) ∧ tAs F ms σ H1 fun xs H2 => ∃ p ps μ α, Rel F μ α H2 ∧ Rep F μ H2 p x ∧ RepL F μ H2 ps xs ∧ Post F μ H2 (mP m p ps α) (Rep F) Q := by
  obtain ⟨μ, ρ, α, h⟩ := h
  refine ⟨μ, ρ, α, h.bind.imp fun x H1 ⟨p, μ1, α1, l1, rp, rel1, env1, h1⟩ => ?_⟩
  obtain ⟨ht, h1⟩ := need_okG h1
  refine ⟨⟨p, μ1, α1, rel1, rp, ht⟩, μ1, ρ, α1, (At.bind (R1 := RepL F) (n := fun ps α => mP m p ps α) ⟨rel1, env1, h1⟩).imp fun xs H2 ⟨ps, μ2, α2, l2, rs, h2⟩ => ⟨p, ps, μ2, α2, h2.1, rp.le l2, rs, h2.2.2⟩⟩
theorem k_mth0 (ft : Fit F X) (m : M) (hm : okM m = true) (ho : PE X o (tE F mo)) (hb : noCall o = true) (hline : (apos.endLine == cpos.line) = true) :
    PE X (.Call (.Attribute o m.name apos) [] [] cpos) (tE F fun ρ α => (mo ρ α).bind fun p α => need (isTy m.ty p α) ((Res.ok [] α).bind fun ps α => mP m p ps α)) := by
  refine ⟨fun pins s σ H Q I h => ?_⟩
  obtain ⟨μ0, ρ0, α0, h0⟩ := mth_read (ms := fun _ α => .ok [] α) h
  refine wpAny_Call_method0_late (base_of hb) hline (thn (ho.run pins s σ H _ I ⟨μ0, ρ0, α0, h0⟩) fun v s1 ⟨x, H1, I1, r1, ⟨p, μ, α, rel, rp, ht⟩, q1⟩ => ?_)
  obtain ⟨h1, h2⟩ := isTy_at ft I1 rel ht rp r1
  obtain ⟨μ, ρ, α, rel, env, q1⟩ := q1
  exact ⟨m.ty, m.id, (mth_ok m).pa, (mth_ok m).slot, (mth_ok m).ty, h1, h2, Calls.callWith_builtin rfl (PySem.evalArgs_none (mP_run ft m hm pins s1 σ H1 x [] v [] Q I1 r1 .nil (q1 μ H1 [] (.refl F μ H1) rel .nil)))⟩
theorem k_mth (ft : Fit F X) (m : M) (hm : okM m = true) (ho : PE X o (tE F mo)) (ha : PA X (e :: es) (tAs F ms)) (hb : noCall o = true) (hline : (apos.endLine == cpos.line) = true) (hs : (e :: es).all noStar = true) (hn : (e :: es).length < 30) :
    PE X (.Call (.Attribute o m.name apos) (e :: es) [] cpos) (tE F fun ρ α => (mo ρ α).bind fun p α => need (isTy m.ty p α) ((ms ρ α).bind fun ps α => mP m p ps α)) := by
  refine ⟨fun pins s σ H Q I h => ?_⟩
  obtain ⟨μ0, ρ0, α0, h0⟩ := mth_read h
  have hfew : ((backTo cpos (starEach (e :: es) X.env)).all (fun x => !x.1) && (backToKw cpos (keywordEach [] X.env)).all (fun x => x.1.isSome)
      && decide ((e :: es).length + ([] : List Keyword).length + (if ([] : List Keyword).isEmpty then 0 else 1) < 30)) = true := by
    rw [star_all hs, show backToKw cpos (keywordEach [] X.env) = [] from rfl]
    simpa using hn
  refine wpAny_Call_method_late (base_of hb) hfew hline rfl (thn (ho.run pins s σ H _ I ⟨μ0, ρ0, α0, h0⟩) fun v s1 ⟨x, H1, I1, r1, ⟨p, μ, α, rel, rp, ht⟩, q1⟩ => ?_)
  obtain ⟨h1, h2⟩ := isTy_at ft I1 rel ht rp r1
  refine ⟨m.ty, m.id, (mth_ok m).pa, (mth_ok m).slot, (mth_ok m).ty, h1, h2, ?_⟩
  have hA := ha.run cpos pins s1 σ H1 _ I1 q1
  have hs0 := hs
  rw [List.all_cons, Bool.and_eq_true] at hs
  rw [star_cons hs.1] at hA ⊢
  refine Calls.callWith_builtin (by show (false || (backTo cpos (starEach es X.env)).any (·.1)) = false; rw [star_any hs.2]; rfl) (Calls.evalArgs_plain ?_)
  exact thn hA fun us s2 ⟨vs, H2, I2, r2, q2⟩ => mP_run ft m hm pins s2 σ H2 x vs v us Q I2 r1 r2 q2
end
end Mw
end
section
set_option Elab.async false
set_option linter.all false
set_option maxRecDepth 100000
set_option maxHeartbeats 2000000
/-! Mw10: what is walked. -/
namespace Mw
open PySem PySem.Spec PyProof.Rows L2

section
variable {F : Fx} {X : Cx} {μ μ' : Zn} {H H' : Hp} {α α' : AH} {ρ : Loc'} {σ : L2.St} {Q : VK}
/-- locked things stay -/
def Kz (H H' : Hp) : Prop := ∀ a o u, H a = some (.frz o u) → H' a = some (.frz o u)
/-- an iterator yields the source's items, as long as the source stays -/
structure Walk (F : Fx) (μ : Zn) (H : Hp) (s : Src) (J : L2.It) : Prop where
  go : ∀ μ' H' α', Ext F μ H μ' H' → Kz H H' → Rel F μ' α' H' → s.still α' = true → ∀ i p, s.items[i]? = some p → J.go i H' ∧ ∀ x H'', J.yld i H' x H'' → ∃ μ'', Le F μ' H' μ'' H'' ∧ Rel F μ'' α' H'' ∧ Rep F μ'' H'' p x
  stop : ∀ μ' H' α', Ext F μ H μ' H' → Kz H H' → Rel F μ' α' H' → s.still α' = true → J.stop s.items.length H'
/-- never locked ahead of this body -/
def NoFz (X : Cx) (d : Addr) : Prop := ∀ o' u', X.H_0 d ≠ some (.frz o' u')
/-- an object that may be walked: the store's dict -/
def DctU (F : Fx) (μ : Zn) (H : Hp) (d : Addr) (kvs : List (PV × PV)) (u : HO) : Prop := (∃ ks, u = .dK ks ∧ RepK F μ H kvs ks) ∨ ∃ L, u = DX F.P F.w d L ∧ RepX F μ H kvs L
/-- the iterator, and the heap at its beginning: a dict is locked there -/
def SrcL (F : Fx) (X : Cx) (μ : Zn) (H : Hp) (s : Src) (JH : L2.It × Hp) : Prop :=
  ((∀ k kvs, s.src ≠ some (k, .ldct kvs)) ∧ JH.2 = H ∧ Walk F μ H s JH.1) ∨
    ∃ k kvs d u ob, s.src = some (k, .ldct kvs) ∧ μ.on[k]? = some d ∧ H d = some u ∧ DctU F μ H d kvs u ∧ JH.2 = upd H d (.frz ob u) ∧ NoFz X d ∧ Walk F μ JH.2 s JH.1
/-- a walk's reading -/
def tI (F : Fx) (X : Cx) (m : Loc' → AH → Res Src) : TI := fun σ H R => tR F (SrcL F X) m σ H fun JH _ => R JH.1 JH.2

theorem walk_list {items : List PV} {src : Option (Nat × AO)} {a : Addr}
    (h : ∀ μ' H' α', Ext F μ H μ' H' → Rel F μ' α' H' → Src.still ⟨items, src⟩ α' = true → ∃ vs, SqL F.K H' a vs ∧ RepL F μ' H' items vs) : Walk F μ H ⟨items, src⟩ (Itl F.K a) where
  go := fun μ' H' α' e _ r st i p hp => by
    obtain ⟨vs, hs, rl⟩ := h μ' H' α' e r st
    obtain ⟨v, hv, rv⟩ := rl.get hp
    refine ⟨⟨vs, v, hs, hv⟩, fun x H'' hy => ?_⟩
    obtain ⟨rfl, hy⟩ := hy
    have := hy vs hs
    rw [hv] at this; cases this
    exact ⟨μ', .refl F μ' H'', r, rv⟩
  stop := fun μ' H' α' e _ r st => by
    obtain ⟨vs, hs, rl⟩ := h μ' H' α' e r st
    exact ⟨vs, hs, Nat.le_of_eq rl.length.symm⟩
theorem walk_tup {items : List PV} {src : Option (Nat × AO)} {a : Addr}
    (h : ∀ μ' H' α', Ext F μ H μ' H' → Rel F μ' α' H' → Src.still ⟨items, src⟩ α' = true → ∃ vs, SqT F.K H' a vs ∧ RepL F μ' H' items vs) : Walk F μ H ⟨items, src⟩ (Itt F.K a) where
  go := fun μ' H' α' e _ r st i p hp => by
    obtain ⟨vs, hs, rl⟩ := h μ' H' α' e r st
    obtain ⟨v, hv, rv⟩ := rl.get hp
    refine ⟨⟨vs, v, hs, hv⟩, fun x H'' hy => ?_⟩
    obtain ⟨rfl, hy⟩ := hy
    have := hy vs hs
    rw [hv] at this; cases this
    exact ⟨μ', .refl F μ' H'', r, rv⟩
  stop := fun μ' H' α' e _ r st => by
    obtain ⟨vs, hs, rl⟩ := h μ' H' α' e r st
    exact ⟨vs, hs, Nat.le_of_eq rl.length.symm⟩
/-- what a list's or a tuple's walk needs -/
theorem walk_str (z : Str) : Walk F μ H ⟨z.cps.toList.map fun c => .str ⟨#[c]⟩, none⟩ (Its z) where
  go := fun μ' H' α' e _ r st i p hp => by
    simp only [List.getElem?_map, Option.map_eq_some_iff] at hp
    obtain ⟨c, hc, rfl⟩ := hp
    rw [Array.getElem?_toList] at hc
    refine ⟨(Array.getElem?_eq_some_iff.mp hc).1, fun x H'' hy => ?_⟩
    obtain ⟨rfl, d, hd, rfl⟩ := hy
    rw [hc] at hd; cases hd
    exact ⟨μ', .refl F μ' H'', r, .str _⟩
  stop := fun μ' H' α' e _ r st => by
    show z.cps.size ≤ _
    simp
theorem src_at (rel : Rel F μ α H) {p : PV} {v : V} {s : Src} {α1 : AH} (h : srcOf p α = .ok s α1) (rp : Rep F μ H p v) :
    α1 = α ∧ (∀ k kvs, s.src ≠ some (k, .ldct kvs)) ∧ ((∃ z, v = .str z ∧ Walk F μ H s (Its z)) ∨ ∃ a, v = .ref a ∧ ((∃ xs, SqL F.K H a xs) ∧ Walk F μ H s (Itl F.K a) ∨ (∃ xs, SqT F.K H a xs) ∧ Walk F μ H s (Itt F.K a))) := by
  unfold srcOf at h
  cases rp with
  | tup e q => cases h; exact ⟨rfl, (fun _ _ e => by cases e), .inr ⟨_, rfl, .inr ⟨⟨_, .inl (.inl e)⟩, walk_tup fun μ' H' α' x r _ => ⟨_, .inl (.inl (x.tup _ _ e)), q.ext x⟩⟩⟩⟩
  | tupW e q => cases h; exact ⟨rfl, (fun _ _ e => by cases e), .inr ⟨_, rfl, .inr ⟨⟨_, .inr e⟩, walk_tup fun μ' H' α' x r _ => ⟨_, .inr e, q.ext x⟩⟩⟩⟩
  | fl n e q => cases h; exact ⟨rfl, (fun _ _ e => by cases e), .inr ⟨_, rfl, .inl ⟨⟨_, .inl (.inl e)⟩, walk_list fun μ' H' α' x r _ => ⟨_, .inl (.inl (x.no _ _ n e).2), q.ext x⟩⟩⟩⟩
  | scr e q => cases h; exact ⟨rfl, (fun _ _ e => by cases e), .inr ⟨_, rfl, .inl ⟨⟨_, e.sql⟩, walk_list fun μ' H' α' x r _ => ⟨_, (x.sqf e).sql, q.ext x⟩⟩⟩⟩
  | str z => cases h; exact ⟨rfl, (fun _ _ e => by cases e), .inl ⟨z, rfl, walk_str z⟩⟩
  | @ref i a e =>
    simp only at h
    split at h
    · rename_i xs hx
      cases h
      obtain ⟨vs, e1, q⟩ := rel.obj _ _ _ e hx
      refine ⟨rfl, (fun _ _ e => by cases e), .inr ⟨_, rfl, .inl ⟨⟨_, .inl (.inl e1)⟩, walk_list fun μ' H' α' x r st => ?_⟩⟩⟩
      have st : decide (α'[i]? = some (AO.lst xs)) = true := st
      obtain ⟨ws, e2, q2⟩ := r.obj i a _ (x.at e) (of_decide_eq_true st)
      exact ⟨ws, .inl (.inl e2), q2⟩
    · cases h
  | _ => cases h
/-- for x in e: e a list or a tuple -/
theorem str_iter {tg : Expr} {pins : List (Addr × Obj)} {s : Shared} {z : Str} {v : Value} {R : L2.It → Hp → Prop} (I : Inv X pins σ H s) (r : RelV (.str z) v) (q : R (Its z) H) : wpAny (model X.prog X.w) X.A (pyIter v) (PIE X pins σ tg R) X.xe s := by
  obtain ⟨t, rfl⟩ := r
  have I2 : ∀ o : Obj, Inv X pins σ H { s with heap := s.heap.push o } := fun o => I.kept (t' := s.toks) fun b ob e => Heap.get?_push_of_some _ e
  cases ha : z.cps.all (· < 128)
  · exact wpAny_pyIter_wide ha (pi_one (tk := s.toks) I _ (turn_str _ z t "str_iterator" (.inr rfl)) ⟨_, Heap.get?_push_size _ rfl, rfl, rfl⟩ q)
  · exact wpAny_pyIter_ascii ha (pi_one (tk := s.toks) I _ (turn_str _ z t "str_ascii_iterator" (.inl rfl)) ⟨_, Heap.get?_push_size _ rfl, rfl, rfl⟩ q)
theorem pi_seq {tg l : Expr} {tl : TE} (hl : PE X l tl) : PI X tg l (fun σ H R => tl σ H fun x H1 => (∃ z, x = .str z ∧ R (Its z) H1) ∨ ∃ a, x = .ref a ∧ ((∃ xs, SqL X.K H1 a xs) ∧ R (Itl X.K a) H1 ∨ (∃ xs, SqT X.K H1 a xs) ∧ R (Itt X.K a) H1)) := by
  refine ⟨fun pins s σ H R I h => thn (hl.run pins s σ H _ I h) fun v s1 ⟨x, H1, I1, r1, q⟩ => ?_⟩
  rcases q with ⟨z, rfl, q⟩ | ⟨a, ex, q⟩
  · exact str_iter I1 r1 q
  subst ex
  obtain rfl : v = Value.ref a := r1
  have nb : ∀ b, b ∈ [s1.heap.objs.size] → FpOk X pins H1 b := fun b hb => by
    obtain rfl : b = s1.heap.objs.size := by simpa using hb
    exact I1.fpOk (Nat.le_refl _) (I1.hok.fresh (Nat.le_refl _))
  have keepI : ∀ o : Obj, Inv X pins σ H1 { s1 with heap := s1.heap.push o } := fun o => I1.kept (t' := s1.toks) fun b ob e => Heap.get?_push_of_some _ e
  rcases q with ⟨⟨xs, hq⟩, q⟩ | ⟨⟨xs, hq⟩, q⟩
  · obtain ⟨its, rv, p, hz⟩ := I1.list hq
    exact wpAny_pyIter_list p.isList ⟨_, [s1.heap.objs.size], _, _, H1, rfl, keepI _, turn_list a _, ⟨_, Heap.get?_push_size _ rfl, rfl, rfl⟩, nb, q⟩
  · obtain ⟨its, rv, p, hz⟩ := I1.tuple hq
    exact wpAny_pyIter_tuple (show s1.heap.IsTuple a its.toArray from p) ⟨_, [s1.heap.objs.size], _, _, H1, rfl, keepI _, turn_tuple a _, ⟨_, Heap.get?_push_size _ rfl, rfl, rfl⟩, nb, q⟩
theorem i_val (ft : Fit F X) {tg e : Expr} {m : Den} (he : PE X e (tE F m)) : PI X tg e (tI F X fun ρ α => (m ρ α).bind fun p α => srcOf p α) := by
  refine ⟨fun pins s σ H R I ⟨μ, ρ, α, h⟩ => ?_⟩
  refine (pi_seq he).run pins s σ H R I ⟨μ, ρ, α, (At.bind (R1 := Rep F) h).imp fun x H1 ⟨p, μ1, α1, l, rp, rel1, env1, h1⟩ => ?_⟩
  cases hs : srcOf p α1 with
  | ok sr α2 =>
    rw [hs] at h1
    obtain ⟨rfl, nl, c⟩ := src_at rel1 hs rp
    rcases c with ⟨z, rfl, w⟩ | ⟨a, rfl, c⟩
    · exact .inl ⟨z, rfl, h1 μ1 H1 (_, _) (.refl F μ1 H1) rel1 (.inl ⟨nl, rfl, w⟩)⟩
    refine .inr ⟨a, rfl, ?_⟩
    rw [ft.K]
    rcases c with ⟨c, w⟩ | ⟨c, w⟩
    · exact .inl ⟨c, h1 μ1 H1 (_, _) (.refl F μ1 H1) rel1 (.inl ⟨nl, rfl, w⟩)⟩
    · exact .inr ⟨c, h1 μ1 H1 (_, _) (.refl F μ1 H1) rel1 (.inl ⟨nl, rfl, w⟩)⟩
  | err c xs a => rw [hs] at h1; exact h1.elim
  | bad => rw [hs] at h1; exact h1.elim

/-! ### ranges -/
theorem walk_range (lo hi : Int) : Walk F μ H ⟨rangeP lo hi, none⟩ (Itr lo (hi - lo).toNat) where
  go := fun μ' H' α' e _ r st i p hp => by
    have hp : (rangeP lo hi)[i]? = some p := hp
    unfold rangeP at hp
    rw [List.getElem?_map] at hp
    have hi' : i < (hi - lo).toNat := by
      rcases Nat.lt_or_ge i (hi - lo).toNat with h | h
      · exact h
      · rw [List.getElem?_eq_none (by simpa using h)] at hp; cases hp
    rw [List.getElem?_range hi'] at hp
    cases hp
    refine ⟨hi', fun x H'' hy => ?_⟩
    obtain ⟨rfl, rfl⟩ := hy
    exact ⟨μ', .refl F μ' H'', r, .int _⟩
  stop := fun μ' H' α' e _ r st => by
    show (hi - lo).toNat ≤ (rangeP lo hi).length
    simp [rangeP]
theorem range_at {p q : PV} {x y : V} {R : L2.It → Hp → Prop} (rel : Rel F μ α H) (rp : Rep F μ H p x) (rq : Rep F μ H q y) (h : Post F μ H (srcRange p q α) (SrcL F X) (fun JH _ => R JH.1 JH.2)) :
    ∃ i j : Int, x = .int i ∧ y = .int j ∧ (-(2 ^ 62) ≤ i ∧ i < 2 ^ 62 ∧ -(2 ^ 62) ≤ j ∧ j < 2 ^ 62) ∧ R (Itr i (j - i).toNat) H := by
  unfold srcRange at h
  split at h
  · cases rp; cases rq
    obtain ⟨hc, h⟩ := need_okG h
    have hc := of_decide_eq_true hc
    exact ⟨_, _, rfl, rfl, hc, h μ H (_, _) (.refl F μ H) rel (.inl ⟨(fun _ _ e => by cases e), rfl, walk_range _ _⟩)⟩
  · exact False.elim h
theorem i_range1 {tg a : Expr} {m : Den} {p pos : Pos} (hb : Blt X "range" (.type "range")) (ha : PE X a (tE F m)) (hs : noStar a = true) : PI X tg (.Call (.Name "range" p) [a] [] pos) (tI F X fun ρ α => (m ρ α).bind fun p α => srcRange (.int 0) p α) := by
  refine ⟨fun pins s σ H R I ⟨μ, ρ, α, h⟩ => ?_⟩
  refine (pi_range1 hb.gl hb.mg (pa_cons ha pa_nil (star_cons hs)) (star_cons hs)).run pins s σ H R I ⟨μ, ρ, α, (At.bind (R1 := Rep F) h).imp fun x H1 ⟨p, μ1, α1, l, rp, rel1, env1, h1⟩ => ?_⟩
  obtain ⟨i, j, e1, rfl, hc, q⟩ := range_at (x := .int 0) rel1 (.int 0) rp h1
  cases e1
  exact ⟨j, rfl, hc.2.2.1, hc.2.2.2, by simpa using q⟩
theorem i_range2 {tg a b : Expr} {ma mb : Den} {p pos : Pos} (hb : Blt X "range" (.type "range")) (ha : PE X a (tE F ma)) (hc : PE X b (tE F mb)) (hs : noStar a = true) (hs2 : noStar b = true) :
    PI X tg (.Call (.Name "range" p) [a, b] [] pos) (tI F X fun ρ α => (ma ρ α).bind fun p α => (mb ρ α).bind fun q α => srcRange p q α) := by
  refine ⟨fun pins s σ H R I ⟨μ, ρ, α, h⟩ => ?_⟩
  refine (pi_range2 hb.gl hb.mg (pa_cons ha (pa_cons hc pa_nil (star_cons hs2)) (star_cons hs)) (by rw [star_cons hs, star_cons hs2]; rfl) (star_cons hs2)).run pins s σ H R I ?_
  refine ⟨μ, ρ, α, (At.bind (R1 := Rep F) h).imp fun x H1 ⟨p, μ1, α1, l, rp, rel1, env1, h1⟩ => ⟨μ1, ρ, α1, (At.bind (R1 := Rep F) ⟨rel1, env1, h1⟩).imp fun y H2 ⟨q, μ2, α2, l2, rq, rel2, env2, h2⟩ => ?_⟩⟩
  obtain ⟨i, j, rfl, rfl, hc, q⟩ := range_at rel2 (rp.le l2) rq h2
  exact ⟨i, j, rfl, hc, q⟩

end
end Mw
end
section
set_option Elab.async false
set_option linter.all false
set_option maxRecDepth 100000
set_option maxHeartbeats 2000000
/-! Mw10b: dicts walked by keys, values, items; enumerate; zip. -/
namespace Mw
open PySem PySem.Spec PyProof.Rows L2

section
variable {F : Fx} {X : Cx} {μ μ' : Zn} {H H' : Hp} {α α' : AH} {ρ : Loc'} {σ : L2.St} {Q : VK}
/-! ### a dict -/
/-- the values xs (keys or values) of the locked dict at d -/
def Itq (d : Addr) (o : Obj) (u : HO) (vs : List V) : L2.It :=
  ⟨fun i H => H d = some (.frz o u) ∧ i < vs.length, fun i H x H' => H' = H ∧ vs[i]? = some x, fun i H => H d = some (.frz o u) ∧ vs.length ≤ i⟩
/-- the pairs of the locked dict at d, each new -/
def Itqi (d : Addr) (o : Obj) (u : HO) (ks vs : List V) : L2.It :=
  ⟨fun i H => H d = some (.frz o u) ∧ i < vs.length, fun i H x H' => ∃ T k v, x = .ref T ∧ H T = none ∧ H' = upd H T (.tup [k, v]) ∧ ks[i]? = some k ∧ vs[i]? = some v, fun i H => H d = some (.frz o u) ∧ vs.length ≤ i⟩
theorem turn_valsQ {P : Program} {w : World} {K : PySem.W.Frag} {tg : Expr} {d : Addr} {o : Obj} {u : HO} {es : Array DictEntry} {ep : Nat} {ks vs : List V} (it : Addr) (R : RawD d o es ep ks vs) :
    Turn P w K tg (Itq d o u vs) [it] it (fun i h => h.IsValIter it d i vs.length ep) where
  mem := by simp
  obj := fun i h st b hb => by
    obtain rfl : b = it := by simpa using hb
    obtain ⟨oi, e, c, dd⟩ := st
    exact ⟨oi, e, fun v z => by rw [dd] at z; cases z⟩
  keep := fun i h h' st k => st.at fun oi e => k it (by simp) oi e
  item := by
    intro X hP hw hK hc i pins s σ H E I hf st hg
    subst hP hw hK
    obtain ⟨hd, hi⟩ := hg
    obtain ⟨f0, f1, f2, f3, f4, f5⟩ := hf it (by simp)
    obtain ⟨ho, _⟩ := I.hok d _ hd
    have hl := R.lv
    rw [hl] at st hi
    refine wpAny_pyNext_values_item_raw st ⟨o, ho, R.ex, R.dat⟩ hi fun h' st' sb => ?_
    have I1 : Inv X pins σ H { s with heap := h' } := I.turned (t' := s.toks) (fun b ob hb e => (sb.2 b hb).trans e) f0 f1 f3 f4 f5
    obtain ⟨oi, e, c, dd⟩ := id st'
    have hv : vs[i]? = some (vs[i]'(by omega)) := List.getElem?_eq_getElem (by omega)
    refine ⟨_, rfl, go_of (s := { s with heap := h' }) e c dd (by decide) ⟨vs[i]'(by omega), H, I1, R.val i _ _ (Array.getElem?_eq_getElem hi) hv, ⟨rfl, hv⟩, ?_, fun b hb => (hf b hb).1⟩⟩
    show h'.IsValIter it d (i + 1) vs.length _
    rw [hl]
    exact st'
  done := by
    intro X hP hw hK hc i pins s σ H E I hf st hg
    subst hP hw hK
    obtain ⟨hd, hi⟩ := hg
    obtain ⟨f0, f1, f2, f3, f4, f5⟩ := hf it (by simp)
    obtain ⟨ho, _⟩ := I.hok d _ hd
    rw [R.lv] at st hi
    exact wpAny_pyNext_values_end_raw (I.ok.hd hc) st ⟨o, ho, R.ex, R.dat⟩ hi fun h' eb => ⟨rfl, I.turned (t' := s.toks) (fun b ob hb e => eb b ob hb e) f0 f1 f3 f4 f5⟩
  self := fun A i s Q E st h => wpAny_pyIter_valiter st h
theorem turn_keysQ {P : Program} {w : World} {K : PySem.W.Frag} {tg : Expr} {d : Addr} {o : Obj} {u : HO} {es : Array DictEntry} {ep : Nat} {ks vs : List V} (it : Addr) (R : RawD d o es ep ks vs) :
    Turn P w K tg (Itq d o u ks) [it] it (fun i h => h.IsKeyIter it d i ks.length ep) where
  mem := by simp
  obj := fun i h st b hb => by
    obtain rfl : b = it := by simpa using hb
    obtain ⟨oi, e, c, dd⟩ := st
    exact ⟨oi, e, fun v z => by rw [dd] at z; cases z⟩
  keep := fun i h h' st k => st.at fun oi e => k it (by simp) oi e
  item := by
    intro X hP hw hK hc i pins s σ H E I hf st hg
    subst hP hw hK
    obtain ⟨hd, hi⟩ := hg
    obtain ⟨f0, f1, f2, f3, f4, f5⟩ := hf it (by simp)
    obtain ⟨ho, _⟩ := I.hok d _ hd
    have hl := R.lk
    rw [hl] at st hi
    refine wpAny_pyNext_keys_item_raw st ⟨o, ho, R.ex, R.dat⟩ hi fun h' st' sb => ?_
    have I1 : Inv X pins σ H { s with heap := h' } := I.turned (t' := s.toks) (fun b ob hb e => (sb.2 b hb).trans e) f0 f1 f3 f4 f5
    obtain ⟨oi, e, c, dd⟩ := id st'
    have hv : ks[i]? = some (ks[i]'(by omega)) := List.getElem?_eq_getElem (by omega)
    refine ⟨_, rfl, go_of (s := { s with heap := h' }) e c dd (by decide) ⟨ks[i]'(by omega), H, I1, R.key i _ _ (Array.getElem?_eq_getElem hi) hv, ⟨rfl, hv⟩, ?_, fun b hb => (hf b hb).1⟩⟩
    show h'.IsKeyIter it d (i + 1) ks.length _
    rw [hl]
    exact st'
  done := by
    intro X hP hw hK hc i pins s σ H E I hf st hg
    subst hP hw hK
    obtain ⟨hd, hi⟩ := hg
    obtain ⟨f0, f1, f2, f3, f4, f5⟩ := hf it (by simp)
    obtain ⟨ho, _⟩ := I.hok d _ hd
    rw [R.lk] at st hi
    exact wpAny_pyNext_keys_end_raw (I.ok.hd hc) st ⟨o, ho, R.ex, R.dat⟩ hi fun h' eb => ⟨rfl, I.turned (t' := s.toks) (fun b ob hb e => eb b ob hb e) f0 f1 f3 f4 f5⟩
  self := fun A i s Q E st h => wpAny_pyIter_keyiter st h
theorem turn_itemsQ {P : Program} {w : World} {K : PySem.W.Frag} {elts : List Expr} {kk : Nat} {tpos : Pos} {d : Addr} {o : Obj} {u : HO} {es : Array DictEntry} {ep : Nat} {ks vs : List V} (it : Addr) (R : RawD d o es ep ks vs) :
    Turn P w K (.Tuple elts kk tpos) (Itqi d o u ks vs) [it] it (fun i h => ∃ ok ov, IsItemIter h it d i vs.length ep ok ov) where
  mem := by simp
  obj := fun i h st b hb => by
    obtain rfl : b = it := by simpa using hb
    obtain ⟨ok, ov, e⟩ := st
    exact ⟨_, e, fun v z => nomatch z⟩
  keep := fun i h h' st k => let ⟨ok, ov, e⟩ := st; ⟨ok, ov, k it (by simp) _ e⟩
  item := by
    intro X hP hw hK hc i pins s σ H E I hf st hg
    subst hP hw hK
    obtain ⟨hd, hi⟩ := hg
    obtain ⟨ho, _⟩ := I.hok d _ hd
    have hl := R.lv
    have hk := R.lk
    obtain ⟨ok, ov, he⟩ := st
    rw [hl] at he hi
    have hlt : it < s.heap.objs.size := Heap.lt_size he
    have hkv : ks[i]? = some (ks[i]'(by omega)) := List.getElem?_eq_getElem (by omega)
    have hvv : vs[i]? = some (vs[i]'(by omega)) := List.getElem?_eq_getElem (by omega)
    refine wpAny_pyNext_items_item_raw he ⟨o, ho, R.ex, R.dat⟩ hi fun h' hout hT hz hk' => ?_
    refine ⟨_, rfl, wpAny_letOwnedTupleGo_items (s := { s with heap := h' }) hout fun h'' he' sb => ?_⟩
    have hT2 : h''.get? s.heap.objs.size = some { cls := .type "tuple", data := .seq #[es[i].key, es[i].val] } := (sb.2 _ (Nat.ne_of_gt hlt)).trans hT
    have new : ObjOk X.prog X.w (upd H s.heap.objs.size (.tup [ks[i]'(by omega), vs[i]'(by omega)])) h'' s.heap.objs.size (.tup [ks[i]'(by omega), vs[i]'(by omega)]) :=
      ⟨by show 2 ≤ sizeLine; decide, [es[i].key, es[i].val], .cons (R.key i _ _ (Array.getElem?_eq_getElem hi) hkv) (.cons (R.val i _ _ (Array.getElem?_eq_getElem hi) hvv) .nil), ⟨_, hT2, rfl, _, rfl⟩⟩
    have I1 : Inv X pins σ (upd H s.heap.objs.size (.tup [ks[i]'(by omega), vs[i]'(by omega)])) { s with heap := h'' } :=
      I.turnedNew (t' := s.toks) (ch := [it]) (fun b ob hb e => (sb.2 b (by simpa using hb)).trans (hk' b ob (by simpa using hb) e)) hf (Nat.le_refl _) new
    refine ⟨.ref s.heap.objs.size, _, I1, rfl, ⟨_, _, _, rfl, I.hok.fresh (Nat.le_refl _), rfl, hkv, hvv⟩, ⟨es[i].key, es[i].val, ?_⟩, fun b hb => ?_⟩
    · rw [hl]; exact he'
    · obtain rfl : b = it := by simpa using hb
      rw [upd_ne (Nat.ne_of_lt hlt)]
      exact (hf b (by simp)).1
  done := by
    intro X hP hw hK hc i pins s σ H E I hf st hg
    subst hP hw hK
    obtain ⟨hd, hi⟩ := hg
    obtain ⟨f0, f1, f2, f3, f4, f5⟩ := hf it (by simp)
    obtain ⟨ho, _⟩ := I.hok d _ hd
    obtain ⟨ok, ov, he⟩ := st
    rw [R.lv] at he hi
    exact wpAny_pyNext_items_end_raw (I.ok.hd hc) he ⟨o, ho, R.ex, R.dat⟩ hi fun h' eb => ⟨rfl, I.turned (t' := s.toks) (fun b ob hb e => eb b ob hb e) f0 f1 f3 f4 f5⟩
  self := fun A i s Q E st h => let ⟨_, _, e⟩ := st; PySem.W.kcp_self e h
/-- the ways to walk a dict -/
inductive DW where | keys | vals | items
def DW.J (w : DW) (d : Addr) (o : Obj) (u : HO) (ks vs : List V) : L2.It := match w with
  | .keys => Itq d o u ks
  | .vals => Itq d o u vs
  | .items => Itqi d o u ks vs
def DW.f (w : DW) : PV × PV → PV := match w with
  | .keys => fun e => e.1
  | .vals => fun e => e.2
  | .items => fun e => .tup [e.1, e.2]
/-- a dict that is walked: locked here, or locked for good -/
def tDW (F : Fx) (X : Cx) (w : DW) (te : TE) : TI := fun σ H R => te σ H fun x H1 => ∃ d μ kvs, x = .ref d ∧
  ((∃ u, H1 d = some u ∧ DctU F μ H1 d kvs u ∧ ∀ ob ks vs, NoFz X d → RepL F μ H1 (kvs.map (·.1)) ks → RepL F μ H1 (kvs.map (·.2)) vs → R (w.J d ob u ks vs) (upd H1 d (.frz ob u))) ∨
    ∃ ob u, H1 d = some (.frz ob u) ∧ DctU F μ H1 d kvs u ∧ ∀ ks vs, RepL F μ H1 (kvs.map (·.1)) ks → RepL F μ H1 (kvs.map (·.2)) vs → R (w.J d ob u ks vs) H1)
/-- the raw dict, locked now -/
theorem dw_open (ft : Fit F X) {w : DW} {pins : List (Addr × Obj)} {s : Shared} {d : Addr} {kvs : List (PV × PV)} {R : L2.It → Hp → Prop} (I : Inv X pins σ H s)
    (q : (∃ u, H d = some u ∧ DctU F μ H d kvs u ∧ ∀ ob ks vs, NoFz X d → RepL F μ H (kvs.map (·.1)) ks → RepL F μ H (kvs.map (·.2)) vs → R (w.J d ob u ks vs) (upd H d (.frz ob u))) ∨
      ∃ ob u, H d = some (.frz ob u) ∧ DctU F μ H d kvs u ∧ ∀ ks vs, RepL F μ H (kvs.map (·.1)) ks → RepL F μ H (kvs.map (·.2)) vs → R (w.J d ob u ks vs) H) :
    ∃ ob u es ep ks vs H2, s.heap.get? d = some ob ∧ RawD d ob es ep ks vs ∧ Inv X pins σ H2 s ∧ R (w.J d ob u ks vs) H2 := by
  have hP := ft.P
  have hw := ft.w
  rcases q with ⟨u, hu, du, q⟩ | ⟨ob, u, hu, du, q⟩
  · obtain ⟨ob, es, ep, ks, vs, mu, hob, raw, r1, r2⟩ : ∃ ob es ep ks vs, Mut (some u) ∧ s.heap.get? d = some ob ∧ RawD d ob es ep ks vs ∧ RepL F μ H (kvs.map (·.1)) ks ∧ RepL F μ H (kvs.map (·.2)) vs := by
      rcases du with ⟨ks, rfl, r⟩ | ⟨L, rfl, r⟩
      · obtain ⟨ob, es, ep, h1, h2⟩ := rawD_K (I.hok d _ hu)
        exact ⟨ob, es, ep, _, _, True.intro, h1, h2, repK_keys r, repK_vals r⟩
      · obtain ⟨ob, es, ep, h1, h2⟩ := rawD_X (P := X.prog) (w := X.w) (by have z := I.hok d _ hu; rw [← hP, ← hw] at z; exact z)
        exact ⟨ob, es, ep, _, _, True.intro, h1, h2, repX_keys r, repX_vals r⟩
    obtain ⟨od, I2⟩ := I.lock hu mu
    obtain rfl : od = ob := by
      obtain ⟨e1, _⟩ := I2.hok d _ upd_same
      rw [hob] at e1; cases e1; rfl
    exact ⟨od, u, es, ep, ks, vs, _, hob, raw, I2, q od ks vs (I.nofrz hu mu) r1 r2⟩
  · have hk := I.hok d _ hu
    obtain ⟨hob, hk⟩ := hk
    obtain ⟨es, ep, ks, vs, raw, r1, r2⟩ : ∃ es ep ks vs, RawD d ob es ep ks vs ∧ RepL F μ H (kvs.map (·.1)) ks ∧ RepL F μ H (kvs.map (·.2)) vs := by
      rcases du with ⟨ks, rfl, r⟩ | ⟨L, rfl, r⟩
      · obtain ⟨ob', es, ep, h1, h2⟩ := rawD_K hk
        rw [hob] at h1; cases h1
        exact ⟨es, ep, _, _, h2, repK_keys r, repK_vals r⟩
      · obtain ⟨ob', es, ep, h1, h2⟩ := rawD_X (P := X.prog) (w := X.w) (by rw [← hP, ← hw] at hk; exact hk)
        rw [hob] at h1; cases h1
        exact ⟨es, ep, _, _, h2, repX_keys r, repX_vals r⟩
    exact ⟨ob, u, es, ep, ks, vs, H, hob, raw, I, q ks vs r1 r2⟩
/-- for k in d -/
theorem pi_dkeys (ft : Fit F X) {tg e : Expr} {te : TE} (he : PE X e te) : PI X tg e (tDW F X .keys te) := by
  refine ⟨fun pins s σ H R I h => thn (he.run pins s σ H _ I h) fun v s1 ⟨x, H1, I1, rx, d, μ, kvs, ex, q⟩ => ?_⟩
  subst ex
  obtain rfl : v = Value.ref d := rx
  obtain ⟨ob, u, es, ep, ks, vs, H2, hob, raw, I2, q⟩ := dw_open ft I1 q
  have hm : s1.heap.DictRaw d es ep := ⟨ob, hob, raw.ex, raw.dat⟩
  refine wpAny_pyIter_dict_raw raw.ns hm (pi_one (tk := s1.toks) I2 _ (turn_keysQ _ raw) ⟨_, Heap.get?_push_size _ rfl, rfl, ?_⟩ q)
  rw [raw.lk]; rfl
/-- e.values() -/
theorem pi_dvals (ft : Fit F X) {tg e : Expr} {te : TE} {apos cpos : Pos} (he : PE X e te) (hb : noCall e = true) (hline : (apos.endLine == cpos.line) = true) : PI X tg (.Call (.Attribute e "values" apos) [] [] cpos) (tDW F X .vals te) := by
  refine ⟨fun pins s σ H R I h => ?_⟩
  refine wpAny_Call_method (T := "dict") (id := "dict.values") (base_of hb) rfl hline PySem.F.plainAttrs_dict PySem.F.slot_dict_values PySem.F.type_dict_values (thn (he.run pins s σ H _ I h) fun v s1 ⟨x, H1, I1, rx, d, μ, kvs, ex, q⟩ => ?_)
  subst ex
  obtain rfl : v = Value.ref d := rx
  obtain ⟨ob, u, es, ep, ks, vs, H2, hob, raw, I2, q⟩ := dw_open ft I1 q
  have hm : s1.heap.DictRaw d es ep := ⟨ob, hob, raw.ex, raw.dat⟩
  refine ⟨hm.typeIs, fun a e => by cases e; exact ⟨ob, hob, raw.ex.2.1⟩, ?_⟩
  have I3 : Inv X pins σ H2 { s1 with heap := s1.heap.push { cls := .type "dict_values", data := .fields #[.ref d] } } := I2.kept (t' := s1.toks) fun b ob q => Heap.get?_push_of_some _ q
  have fin : wpAny (model X.prog X.w) X.A (pyIter (.ref s1.heap.objs.size)) (PIE X pins σ tg R) X.xe { s1 with heap := s1.heap.push { cls := .type "dict_values", data := .fields #[.ref d] } } := by
    refine wpAny_pyIter_values_raw (d := d) ⟨_, Heap.get?_push_size _ rfl, rfl, rfl⟩ (hm.at fun o e => Heap.get?_push_of_some _ e) (pi_one (tk := s1.toks) I3 _ (turn_valsQ _ raw) ⟨_, Heap.get?_push_size _ rfl, rfl, ?_⟩ q)
    rw [raw.lv]; rfl
  show wpAny _ _ (callWith cpos (.builtin "dict.values") [.ref d] [] []) _ X.xe s1
  exact method_meetsIn PySem.F.slot_dict_values PySem.F.entry_dict_values rfl (PySem.evalArgs_none ⟨rfl, hm.typeIs, PySem.F.args_dict_values_1 _, _, meets_dict_values_raw d raw.ns, ⟨es, ep, hm⟩, fin⟩)
/-- e.items() -/
theorem pi_ditems (ft : Fit F X) {elts : List Expr} {kk : Nat} {tpos : Pos} {e : Expr} {te : TE} {apos cpos : Pos} (he : PE X e te) (hb : noCall e = true) (hline : (apos.endLine == cpos.line) = true) :
    PI X (.Tuple elts kk tpos) (.Call (.Attribute e "items" apos) [] [] cpos) (tDW F X .items te) := by
  refine ⟨fun pins s σ H R I h => ?_⟩
  refine wpAny_Call_method (T := "dict") (id := "dict.items") (base_of hb) rfl hline PySem.F.plainAttrs_dict PySem.F.slot_dict_items PySem.F.type_dict_items (thn (he.run pins s σ H _ I h) fun v s1 ⟨x, H1, I1, rx, d, μ, kvs, ex, q⟩ => ?_)
  subst ex
  obtain rfl : v = Value.ref d := rx
  obtain ⟨ob, u, es, ep, ks, vs, H2, hob, raw, I2, q⟩ := dw_open ft I1 q
  have hm : s1.heap.DictRaw d es ep := ⟨ob, hob, raw.ex, raw.dat⟩
  refine ⟨hm.typeIs, fun a e => by cases e; exact ⟨ob, hob, raw.ex.2.1⟩, ?_⟩
  have I3 : Inv X pins σ H2 { s1 with heap := s1.heap.push { cls := .type "dict_items", data := .fields #[.ref d] } } := I2.kept (t' := s1.toks) fun b ob q => Heap.get?_push_of_some _ q
  have fin : wpAny (model X.prog X.w) X.A (pyIter (.ref s1.heap.objs.size)) (PIE X pins σ (.Tuple elts kk tpos) R) X.xe { s1 with heap := s1.heap.push { cls := .type "dict_items", data := .fields #[.ref d] } } := by
    refine wpAny_pyIter_items_raw (d := d) ⟨_, Heap.get?_push_size _ rfl, rfl, rfl⟩ (hm.at fun o e => Heap.get?_push_of_some _ e) (pi_one (tk := s1.toks) I3 _ (turn_itemsQ _ raw) ⟨.none, .none, ?_⟩ q)
    rw [raw.lv]
    exact Heap.get?_push_size _ rfl
  show wpAny _ _ (callWith cpos (.builtin "dict.items") [.ref d] [] []) _ X.xe s1
  exact method_meetsIn PySem.F.slot_dict_items PySem.F.entry_dict_items rfl (PySem.evalArgs_none ⟨rfl, hm.typeIs, PySem.F.args_dict_items_1 _, _, meets_dict_items_raw d raw.ns, ⟨es, ep, hm⟩, fin⟩)
theorem pair_get {f : PV × PV → PV} {kvs : List (PV × PV)} {i : Nat} {p : PV} (h : (kvs.map f)[i]? = some p) : ∃ e, kvs[i]? = some e ∧ p = f e := by
  rw [List.getElem?_map, Option.map_eq_some_iff] at h
  obtain ⟨e, h1, h2⟩ := h
  exact ⟨e, h1, h2.symm⟩
/-- the walk of a locked dict -/
theorem walk_dct {w : DW} {d : Addr} {o : Obj} {u : HO} {ks vs : List V} {src : Option (Nat × AO)} {kvs : List (PV × PV)} (hf : H d = some (.frz o u)) (rk : RepL F μ H (kvs.map (·.1)) ks) (rv : RepL F μ H (kvs.map (·.2)) vs) : Walk F μ H ⟨kvs.map w.f, src⟩ (w.J d o u ks vs) where
  go := fun μ' H' α' e z r st i p hp => by
    obtain ⟨kv, hkv, rfl⟩ := pair_get hp
    have h1 : (kvs.map (·.1))[i]? = some kv.1 := by rw [List.getElem?_map, hkv]; rfl
    have h2 : (kvs.map (·.2))[i]? = some kv.2 := by rw [List.getElem?_map, hkv]; rfl
    obtain ⟨k, hk, rk'⟩ := (rk.ext e).get h1
    obtain ⟨v, hv, rv'⟩ := (rv.ext e).get h2
    have lk := (List.getElem?_eq_some_iff.mp hk).1
    have lv := (List.getElem?_eq_some_iff.mp hv).1
    cases w with
    | keys =>
      refine ⟨⟨z _ _ _ hf, lk⟩, fun x H'' hy => ?_⟩
      obtain ⟨rfl, hy⟩ := hy
      rw [hk] at hy; cases hy
      exact ⟨μ', .refl F μ' H'', r, rk'⟩
    | vals =>
      refine ⟨⟨z _ _ _ hf, lv⟩, fun x H'' hy => ?_⟩
      obtain ⟨rfl, hy⟩ := hy
      rw [hv] at hy; cases hy
      exact ⟨μ', .refl F μ' H'', r, rv'⟩
    | items =>
      refine ⟨⟨z _ _ _ hf, lv⟩, fun x H'' hy => ?_⟩
      obtain ⟨T, k', v', rfl, hT, rfl, e1, e2⟩ := hy
      rw [hk] at e1; cases e1
      rw [hv] at e2; cases e2
      obtain ⟨l, r'⟩ := new_step r (o := .tup [k, v]) hT
      exact ⟨μ', l, r', .tup upd_same (.cons (rk'.le l) (.cons (rv'.le l) .nil))⟩
  stop := fun μ' H' α' e z r st => by
    have l1 := rk.length
    have l2 := rv.length
    rw [List.length_map] at l1 l2
    cases w with
    | keys => exact ⟨z _ _ _ hf, by show ks.length ≤ (kvs.map _).length; rw [List.length_map]; omega⟩
    | vals => exact ⟨z _ _ _ hf, by show vs.length ≤ (kvs.map _).length; rw [List.length_map]; omega⟩
    | items => exact ⟨z _ _ _ hf, by show vs.length ≤ (kvs.map _).length; rw [List.length_map]; omega⟩
/-- what is read of a dict that is walked -/
theorem i_dct {w : DW} (ft : Fit F X) {tg e : Expr} {m : Den} (he : PI X tg e (tDW F X w (tE F m))) : PI X tg e (tI F X fun ρ α => (m ρ α).bind fun p α => srcDct w.f p α) := by
  refine ⟨fun pins s σ H R I ⟨μ, ρ, α, h⟩ => ?_⟩
  refine he.run pins s σ H R I ⟨μ, ρ, α, (At.bind (R1 := Rep F) h).imp fun x H1 ⟨p, μ1, α1, l, rp, rel1, env1, h1⟩ => ?_⟩
  have store : ∀ {k : Nat} {kvs : List (PV × PV)}, dctAt α1 p = some (k, kvs) → Post F μ1 H1 (.ok ⟨kvs.map w.f, some (k, .ldct kvs)⟩ α1) (SrcL F X) (fun JH _ => R JH.1 JH.2) → ∃ d μ kvs, x = .ref d ∧
      ((∃ u, H1 d = some u ∧ DctU F μ H1 d kvs u ∧ ∀ ob ks vs, NoFz X d → RepL F μ H1 (kvs.map (·.1)) ks → RepL F μ H1 (kvs.map (·.2)) vs → R (w.J d ob u ks vs) (upd H1 d (.frz ob u))) ∨
        ∃ ob u, H1 d = some (.frz ob u) ∧ DctU F μ H1 d kvs u ∧ ∀ ks vs, RepL F μ H1 (kvs.map (·.1)) ks → RepL F μ H1 (kvs.map (·.2)) vs → R (w.J d ob u ks vs) H1) := by
    intro k kvs hk h1
    obtain ⟨d, rfl, hi, ha⟩ := dctAt_at rel1 hk rp
    have o : OR F μ1 H1 d (.dct kvs) := rel1.obj _ _ _ hi ha
    obtain ⟨u, hu, du⟩ : ∃ u, H1 d = some u ∧ DctU F μ1 H1 d kvs u := by
      rcases o with ⟨ks, e, r⟩ | ⟨L, e, r⟩
      · exact ⟨_, e, .inl ⟨ks, rfl, r⟩⟩
      · exact ⟨_, e, .inr ⟨L, rfl, r⟩⟩
    refine ⟨d, μ1, kvs, rfl, .inl ⟨u, hu, du, fun ob ks vs nf rk rv => ?_⟩⟩
    have hnf : ∀ o u', H1 d ≠ some (.frz o u') := o.nf
    have l : Le F μ1 H1 μ1 (upd H1 d (.frz ob u)) := Le.mk' rel1 ⟨[], by simp⟩ rfl (fun b x n e => ⟨n, by rw [upd_ne (fun z => n (by rw [z]; exact List.mem_of_getElem? hi))]; exact e⟩) fun b o u e => by rw [upd_ne (fun z => hnf o u (by rw [← z]; exact e))]; exact e
    exact h1 μ1 H1 (_, _) (.refl F μ1 H1) rel1 (.inr ⟨k, kvs, d, u, ob, rfl, hi, hu, du, rfl, nf, walk_dct (w := w) upd_same (rk.le l) (rv.le l)⟩)
  unfold srcDct at h1
  split at h1
  · rename_i kvs
    cases rp with
    | fdK n e r =>
      refine ⟨_, μ1, kvs, rfl, .inr ⟨_, _, e, .inl ⟨_, rfl, r⟩, fun ks vs rk rv => ?_⟩⟩
      exact h1 μ1 H1 (_, _) (.refl F μ1 H1) rel1 (.inl ⟨(fun _ _ e => by cases e), rfl, walk_dct (w := w) e rk rv⟩)
    | fdX n z e r =>
      refine ⟨_, μ1, kvs, rfl, .inr ⟨_, _, e, .inr ⟨_, rfl, r⟩, fun ks vs rk rv => ?_⟩⟩
      exact h1 μ1 H1 (_, _) (.refl F μ1 H1) rel1 (.inl ⟨(fun _ _ e => by cases e), rfl, walk_dct (w := w) e rk rv⟩)
  · split at h1
    · rename_i hk
      exact store hk h1
    · exact h1.elim
end
end Mw
end
section
set_option Elab.async false
set_option linter.all false
set_option maxRecDepth 100000
set_option maxHeartbeats 2000000
/-! Mw10c: enumerate, zip. -/
namespace Mw
open PySem PySem.Spec PyProof.Rows L2

/-- enumerate(v): its iterator begins -/
theorem meets_enum1 {v : Value} {o : Obj} {H : Heap → Prop} (B : Begins v o H) :
    Meets (Builtin.«enumerate.__new__» ⟨[.type "enumerate", v], []⟩) (fun _ R s => H s.heap ∧
      R (.ok (.ret (.ref (s.heap.push o).objs.size))) { s with heap := (s.heap.push o).push { cls := .type "enumerate", data := .fields #[.none, .bool false, .ref s.heap.objs.size, rawInt 0, .none, .none] } }) :=
  .of_wp fun prog w A R s h => by
    obtain ⟨hp, g, d, tk, os⟩ := s; obtain ⟨h1, h⟩ := h
    have hsub := sub_enumerate
    have q1 : ∀ {A' : Around} {E : Value → Shared → Prop} {Q : Value → Shared → Prop}, Q (.ref hp.objs.size) ⟨hp.push o, g, d, tk, os⟩ → wpAny (model prog w) A' (pyIter v) Q E ⟨hp, g, d, tk, os⟩ :=
      fun q => B.iter prog w _ _ ⟨hp, g, d, tk, os⟩ _ h1 q
    wp_walk using q1
    refine wpAny_stack_any fun st => wpAny_pure ?_
    split
    · rename_i c _ _ _ _ _
      cases (c == Value.type "enumerate")
      · wp_walk using q1
        exact ⟨_, rfl, h⟩
      · wp_walk using q1
        exact ⟨_, rfl, h⟩
    · wp_walk using q1
      exact ⟨_, rfl, h⟩
section
variable {prog : Program} {w : World} {A : Around} {E : Value → Shared → Prop} {s : Shared}
theorem enum_begins1 {v : Value} {o : Obj} {H : Heap → Prop} {Q : Value → Shared → Prop} (B : Begins v o H) (h1 : H s.heap)
    (h : ∀ h', IsEnum h' (s.heap.objs.size + 1) s.heap.objs.size 0 .none → h'.get? s.heap.objs.size = some o → h'.objs.size = s.heap.objs.size + 2 →
      (∀ b o, s.heap.get? b = some o → h'.get? b = some o) → Q (.ref (s.heap.objs.size + 1)) { s with heap := h' }) :
    wpAny (model prog w) A (call (.type "enumerate") [v]) Q E s := by
  refine callType_new PySem.F.called_enumerate (by decide) (PySem.F.typeCall_enumerate_1 _) (PySem.F.newCall_enumerate_1 _) (fun obj => PySem.F.args_object_init_2 obj _) PySem.F.entry_enumerate_new
    (meets_enum1 B) ⟨h1, ?_⟩
  have hz : (s.heap.push o).objs.size = s.heap.objs.size + 1 := Heap.size_push ..
  show _ ∧ _
  rw [hz]
  have he : IsEnum ((s.heap.push o).push { cls := .type "enumerate", data := .fields #[.none, .bool false, .ref s.heap.objs.size, rawInt 0, .none, .none] }) (s.heap.objs.size + 1) s.heap.objs.size 0 .none := by
    have := Heap.get?_push_size (s.heap.push o) (o := { cls := .type "enumerate", data := .fields #[.none, .bool false, .ref s.heap.objs.size, rawInt 0, .none, .none] }) rfl
    rw [hz] at this; exact this
  refine ⟨⟨_, he, rfl⟩, h _ he (Heap.get?_push_of_some _ (Heap.get?_push_size _ B.free)) (by rw [Heap.size_push, hz]) fun b o x => Heap.get?_push_of_some _ (Heap.get?_push_of_some _ x)⟩
end
section
variable {prog : Program} {w : World} {A : Around} {E : Value → Shared → Prop} {s : Shared}
theorem enum_tuple_end {e it l : Addr} {i : Nat} {items : Array Value} {old : Value} {Q : Option Value → Shared → Prop} (hh : A.handled = none)
    (he : IsEnum s.heap e it i old) (hit : s.heap.IsTupleIter it l i) (hl : s.heap.IsTuple l items) (hx : items[i]? = none)
    (hQ : ∀ h', Heap.ExtBut it s.heap h' → Q none { s with heap := h' }) : wpAny (model prog w) A (pyNext (.ref e)) Q E s := by
  have hT : s.TypeIs (.ref e) "enumerate" := ⟨_, he, rfl⟩
  unfold pyNext
  refine wpAny_bind (wpAny_attempt (wpAny_callSpecial?_slot (name := Str.ofString "__next__") hT PySem.F.slot_enumerate_next
    (wpAny_call_entry PySem.F.slot_enumerate_next hT PySem.F.entry_enumerate_next ?_ (PySem.F.args_enumerate_next_1 _))))
  show wpAny _ _ (field (.ref e) 2 >>= _) _ _ _
  refine wpAny_bind (wpAny_field he rfl (x := .ref it) rfl ?_)
  refine wpAny_bind (wpAny_nextOf_tuple_end hh hit hl hx fun h' x he' hx' => ?_)
  obtain ⟨o, ho, hc⟩ := hx'
  refine wpAny_bind (wpAny_isInstance (T := "StopIteration") (b := true) ⟨o, ho, hc⟩ isSubtype_stop ?_)
  exact wpAny_pure (hQ _ he')
end
/-- the tuple at a, each item in a new pair -/
def IteT (K : PySem.W.Frag) (a : Addr) : L2.It :=
  ⟨fun i H => ∃ (xs : List V) (x : V), SqT K H a xs ∧ xs[i]? = some x, fun i H v H' => ∃ T x, v = .ref T ∧ H T = none ∧ H' = upd H T (.tup [.int (i : Nat), x]) ∧ ∀ xs, SqT K H a xs → xs[i]? = some x, fun i H => ∃ xs : List V, SqT K H a xs ∧ xs.length ≤ i⟩
theorem turn_enumT {P : Program} {w : World} {K : PySem.W.Frag} {elts : List Expr} {kk : Nat} {tpos : Pos} (a e it : Addr) :
    Turn P w K (.Tuple elts kk tpos) (IteT K a) [e, it] e (fun i h => (∃ old, IsEnum h e it ((i : Nat) : Int) old) ∧ h.IsTupleIter it a i ∧ e ≠ it ∧ a ≠ it ∧ e ≠ a) where
  mem := by simp
  obj := fun i h st b hb => by
    obtain ⟨⟨old, he⟩, ⟨o, ho, hc, hd⟩, _⟩ := st
    have e' : b = e ∨ b = it := by simpa using hb
    rcases e' with z | z
    · rw [z]; exact ⟨_, he, fun v q => nomatch q⟩
    · rw [z]; exact ⟨o, ho, fun v q => by rw [hd] at q; cases q⟩
  keep := fun i h h' st k => let ⟨⟨old, he⟩, hi, hne⟩ := st; ⟨⟨old, k e (by simp) _ he⟩, hi.at fun o q => k it (by simp) o q, hne⟩
  item := by
    intro X hP hw hK hc i pins s σ H E I hf st hg
    subst hP hw hK
    obtain ⟨⟨old, he⟩, hit, hne, hat, hea⟩ := st
    obtain ⟨xs, x, hq, hx⟩ := hg
    obtain ⟨its, rv, p, hz⟩ := I.tuple hq
    obtain ⟨u, hu, ru⟩ := rv.get hx
    have hel : e < s.heap.objs.size := Heap.lt_size he
    have hil : it < s.heap.objs.size := by obtain ⟨_, q, _⟩ := hit; exact Heap.lt_size q
    have hlt : i < its.toArray.size := by rw [List.size_toArray]; exact (List.getElem?_eq_some_iff.mp hu).1
    have p' : s.heap.IsTuple a its.toArray := p
    refine wpAny_pyNext_enum_itemD (Draws.tuple (A := X.A.in1) (I.ok.hd hc) it a hat its.toArray) he ⟨hit, p'⟩ hlt hne (by simp [hne, hea]) fun y h' tk hy hout hst hT hsz hk => ?_
    have ey : y = u := by rw [List.getElem?_toArray, hu] at hy; cases hy; rfl
    subst ey
    refine ⟨_, rfl, wpAny_letOwnedTupleGo_enum (s := { s with heap := h', toks := tk + 1 }) hout fun h'' he' sb => ?_⟩
    have hT2 : h''.get? s.heap.objs.size = some { cls := .type "tuple", data := .seq #[.int i tk, y] } := (sb.2 _ (Nat.ne_of_gt hel)).trans hT
    have new : ObjOk X.prog X.w (upd H s.heap.objs.size (.tup [.int (i : Nat), x])) h'' s.heap.objs.size (.tup [.int (i : Nat), x]) :=
      ⟨by show 2 ≤ sizeLine; decide, [.int i tk, y], .cons ⟨_, rfl⟩ (.cons ru .nil), ⟨_, hT2, rfl, _, rfl⟩⟩
    have I1 : Inv X pins σ (upd H s.heap.objs.size (.tup [.int (i : Nat), x])) { s with heap := h'', toks := tk + 1 } :=
      I.turnedNew (ch := [e, it]) (fun b ob hb q => (sb.2 b (fun z => hb (by simp [z]))).trans (hk b ob (fun z => hb (by simp [z])) (fun z => hb (by simp [z])) q)) hf (Nat.le_refl _) new
    refine ⟨.ref s.heap.objs.size, _, I1, rfl, ⟨_, x, rfl, I.hok.fresh (Nat.le_refl _), rfl, fun ys hy => by rw [I.tuple_inj hy hq]; exact hx⟩, ⟨⟨y, ?_⟩, hst.1.at fun o q => (sb.2 it (Ne.symm hne)).trans q, hne, hat, hea⟩, fun b hb => ?_⟩
    · have e1 : ((i + 1 : Nat) : Int) = (i : Int) + 1 := by omega
      rw [e1]; exact he'
    · have hb' : b < s.heap.objs.size := by
        have e' : b = e ∨ b = it := by simpa using hb
        rcases e' with z | z
        · rw [z]; exact hel
        · rw [z]; exact hil
      rw [upd_ne (Nat.ne_of_lt hb')]
      exact (hf b hb).1
  done := by
    intro X hP hw hK hc i pins s σ H E I hf st hg
    subst hP hw hK
    obtain ⟨⟨old, he⟩, hit, hne, hat, hea⟩ := st
    obtain ⟨xs, hq, hx⟩ := hg
    obtain ⟨its, rv, p, hz⟩ := I.tuple hq
    obtain ⟨f0, f1, f2, f3, f4, f5⟩ := hf it (by simp)
    have hl := rv.length
    have p' : s.heap.IsTuple a its.toArray := p
    exact enum_tuple_end (I.ok.hd hc) he hit p' (by simp; omega) fun h' eb => ⟨rfl, I.turned (t' := s.toks) (fun b o hb q => eb b o hb q) f0 f1 f3 f4 f5⟩
  self := fun A i s Q E st h => let ⟨⟨_, he⟩, _⟩ := st; wpAny_pyIter_enum he h
section
variable {F : Fx} {X : Cx} {μ μ' : Zn} {H H' : Hp} {α α' : AH} {ρ : Loc'} {σ : L2.St} {Q : VK}
theorem Rep.sqtX {xs : List PV} {v : V} (h : Rep F μ H (.tup xs) v) : ∃ a vs, v = .ref a ∧ (H a = some (.tup vs) ∨ SqW F.K a vs) ∧ RepL F μ H xs vs := by
  cases h with
  | tup e q => exact ⟨_, _, rfl, .inl e, q⟩
  | tupW e q => exact ⟨_, _, rfl, .inr e, q⟩
theorem rep_fl {xs : List PV} {v : V} (h : Rep F μ H (.fl xs) v) : ∃ a vs, v = .ref a ∧ μ.no a ∧ H a = some (.lst vs) ∧ RepL F μ H xs vs := by
  cases h with
  | fl n e q => exact ⟨_, _, rfl, n, e, q⟩
theorem sqt_of {a : Addr} {vs : List V} (h : H a = some (.tup vs) ∨ SqW F.K a vs) : SqT F.K H a vs := h.elim (fun h => .inl (.inl h)) .inr
theorem sqt_ext {a : Addr} {vs : List V} (x : Ext F μ H μ' H') (h : H a = some (.tup vs) ∨ SqW F.K a vs) : SqT F.K H' a vs := h.elim (fun h => .inl (.inl (x.tup _ _ h))) .inr
theorem pi_enumA {e : Expr} {te : TE} {p pos tpos : Pos} {elts : List Expr} {kk : Nat} (hb : Blt X "enumerate" (.type "enumerate")) (he : PE X e te) (hs : noStar e = true) :
    PI X (.Tuple elts kk tpos) (.Call (.Name "enumerate" p) [e] [] pos) (fun σ H R => tCons te tNil σ H fun vs H1 => ∃ a, vs = [.ref a] ∧ ((∃ xs, SqL X.K H1 a xs ∧ R (Ite X.K a) H1) ∨ ∃ xs, SqT X.K H1 a xs ∧ R (IteT X.K a) H1)) := by
  refine ⟨fun pins s σ H R I h => ?_⟩
  have ha : PA X [e] _ := pa_cons he pa_nil (star_cons hs)
  refine Call_ (ld_blt I hb.gl hb.mg boot_enumerate (PyProof.Rows.callWith_type1 (thn (ha.run pos pins s σ H (fun vs H1 => ∃ a, vs = [.ref a] ∧ ((∃ xs, SqL X.K H1 a xs ∧ R (Ite X.K a) H1) ∨ ∃ xs, SqT X.K H1 a xs ∧ R (IteT X.K a) H1)) I ?_) fun us s1 ⟨vs, H1, I1, r1, q1⟩ => ?_) (star_cons hs) rfl))
  · exact h
  obtain ⟨a, ex, q⟩ := q1
  subst ex
  cases r1 with
  | cons r rr =>
    cases rr
    cases r
    rcases q with ⟨xs, hq, q⟩ | ⟨xs, hq, q⟩
    · obtain ⟨its, rv, p', hz⟩ := I1.list hq
      refine call_enumerate_list p'.isList fun h' he hit hsz hk => wpAny_pyIter_enum he ?_
      have I2 : Inv X pins σ H1 { s1 with heap := h' } := I1.kept (t' := s1.toks) hk
      refine ⟨s1.heap.objs.size + 1, [s1.heap.objs.size + 1, s1.heap.objs.size], _, _, H1, rfl, I2, turn_enum a (s1.heap.objs.size + 1) s1.heap.objs.size, ⟨⟨.none, he⟩, hit, Nat.succ_ne_self _⟩, fun b hb => ?_, q⟩
      have e' : b = s1.heap.objs.size + 1 ∨ b = s1.heap.objs.size := by simpa using hb
      have hle : s1.heap.objs.size ≤ b := by
        rcases e' with z | z
        · rw [z]; exact Nat.le_succ _
        · rw [z]; exact Nat.le_refl _
      exact I1.fpOk hle (I1.hok.fresh hle)
    · obtain ⟨its, rv, p', hz⟩ := I1.tuple hq
      have pt : s1.heap.IsTuple a its.toArray := p'
      have hal : a < s1.heap.objs.size := by obtain ⟨o, ho, _⟩ := id pt; exact Heap.lt_size ho
      refine enum_begins1 (begins_tuple a its.toArray) pt fun h' he hit hsz hk => wpAny_pyIter_enum he ?_
      have I2 : Inv X pins σ H1 { s1 with heap := h' } := I1.kept (t' := s1.toks) hk
      refine ⟨s1.heap.objs.size + 1, [s1.heap.objs.size + 1, s1.heap.objs.size], _, _, H1, rfl, I2, turn_enumT a (s1.heap.objs.size + 1) s1.heap.objs.size, ⟨⟨.none, he⟩, ⟨_, hit, rfl, rfl⟩, Nat.succ_ne_self _, Nat.ne_of_lt hal, Nat.ne_of_gt (Nat.lt_succ_of_lt hal)⟩, fun b hb => ?_, q⟩
      have e' : b = s1.heap.objs.size + 1 ∨ b = s1.heap.objs.size := by simpa using hb
      have hle : s1.heap.objs.size ≤ b := by
        rcases e' with z | z
        · rw [z]; exact Nat.le_succ _
        · rw [z]; exact Nat.le_refl _
      exact I1.fpOk hle (I1.hok.fresh hle)
theorem enumP_get : ∀ (k : Nat) (xs : List PV) (i : Nat) (p : PV), (enumP k xs)[i]? = some p → ∃ x, xs[i]? = some x ∧ p = .tup [.int (k + i : Nat), x]
  | k, [], i, p, h => by simp [enumP] at h
  | k, x :: xs, 0, p, h => by simp [enumP] at h; exact ⟨x, rfl, h.symm⟩
  | k, x :: xs, i + 1, p, h => by
    obtain ⟨y, h1, h2⟩ := enumP_get (k + 1) xs i p (by simpa [enumP] using h)
    exact ⟨y, by simpa using h1, by rw [h2, show k + 1 + i = k + (i + 1) by omega]⟩
theorem enumP_len : ∀ (k : Nat) (xs : List PV), (enumP k xs).length = xs.length
  | k, [] => rfl
  | k, x :: xs => by simp [enumP, enumP_len (k + 1) xs]
theorem walk_enumL {items : List PV} {src : Option (Nat × AO)} {a : Addr}
    (h : ∀ μ' H' α', Ext F μ H μ' H' → Rel F μ' α' H' → Src.still ⟨items, src⟩ α' = true → ∃ vs, SqL F.K H' a vs ∧ RepL F μ' H' items vs) : Walk F μ H ⟨enumP 0 items, src⟩ (Ite F.K a) where
  go := fun μ' H' α' e _ r st i p hp => by
    obtain ⟨y, hy, rfl⟩ := enumP_get 0 items i p hp
    obtain ⟨vs, hs, rl⟩ := h μ' H' α' e r st
    obtain ⟨v, hv, rv⟩ := rl.get hy
    refine ⟨⟨vs, v, hs, hv⟩, fun x H'' hx => ?_⟩
    obtain ⟨T, z, rfl, hT, rfl, hz⟩ := hx
    have := hz vs hs
    rw [hv] at this; cases this
    obtain ⟨l, r'⟩ := new_step r (o := .tup [.int (i : Nat), v]) hT
    refine ⟨μ', l, r', .tup upd_same (.cons ?_ (.cons (rv.le l) .nil))⟩
    rw [Nat.zero_add]; exact .int _
  stop := fun μ' H' α' e _ r st => by
    obtain ⟨vs, hs, rl⟩ := h μ' H' α' e r st
    exact ⟨vs, hs, by show vs.length ≤ (enumP 0 items).length; rw [enumP_len, rl.length]; exact Nat.le_refl _⟩
theorem walk_enumT {items : List PV} {src : Option (Nat × AO)} {a : Addr}
    (h : ∀ μ' H' α', Ext F μ H μ' H' → Rel F μ' α' H' → Src.still ⟨items, src⟩ α' = true → ∃ vs, SqT F.K H' a vs ∧ RepL F μ' H' items vs) : Walk F μ H ⟨enumP 0 items, src⟩ (IteT F.K a) where
  go := fun μ' H' α' e _ r st i p hp => by
    obtain ⟨y, hy, rfl⟩ := enumP_get 0 items i p hp
    obtain ⟨vs, hs, rl⟩ := h μ' H' α' e r st
    obtain ⟨v, hv, rv⟩ := rl.get hy
    refine ⟨⟨vs, v, hs, hv⟩, fun x H'' hx => ?_⟩
    obtain ⟨T, z, rfl, hT, rfl, hz⟩ := hx
    have := hz vs hs
    rw [hv] at this; cases this
    obtain ⟨l, r'⟩ := new_step r (o := .tup [.int (i : Nat), v]) hT
    refine ⟨μ', l, r', .tup upd_same (.cons ?_ (.cons (rv.le l) .nil))⟩
    rw [Nat.zero_add]; exact .int _
  stop := fun μ' H' α' e _ r st => by
    obtain ⟨vs, hs, rl⟩ := h μ' H' α' e r st
    exact ⟨vs, hs, by show vs.length ≤ (enumP 0 items).length; rw [enumP_len, rl.length]; exact Nat.le_refl _⟩
theorem enum_at (rel : Rel F μ α H) {p : PV} {v : V} {s : Src} {α1 : AH} (h : srcEnum p α = .ok s α1) (rp : Rep F μ H p v) :
    α1 = α ∧ (∀ k kvs, s.src ≠ some (k, .ldct kvs)) ∧ ∃ a, v = .ref a ∧ ((∃ xs, SqL F.K H a xs ∧ Walk F μ H s (Ite F.K a)) ∨ ∃ xs, SqT F.K H a xs ∧ Walk F μ H s (IteT F.K a)) := by
  unfold srcEnum at h
  cases rp with
  | tup e q => cases h; exact ⟨rfl, (fun _ _ e => by cases e), _, rfl, .inr ⟨_, .inl (.inl e), walk_enumT fun μ' H' α' x r _ => ⟨_, .inl (.inl (x.tup _ _ e)), q.ext x⟩⟩⟩
  | tupW e q => cases h; exact ⟨rfl, (fun _ _ e => by cases e), _, rfl, .inr ⟨_, .inr e, walk_enumT fun μ' H' α' x r _ => ⟨_, .inr e, q.ext x⟩⟩⟩
  | fl n e q => cases h; exact ⟨rfl, (fun _ _ e => by cases e), _, rfl, .inl ⟨_, .inl (.inl e), walk_enumL fun μ' H' α' x r _ => ⟨_, .inl (.inl (x.no _ _ n e).2), q.ext x⟩⟩⟩
  | scr e q => cases h; exact ⟨rfl, (fun _ _ e => by cases e), _, rfl, .inl ⟨_, e.sql, walk_enumL fun μ' H' α' x r _ => ⟨_, (x.sqf e).sql, q.ext x⟩⟩⟩
  | @ref i a e =>
    simp only at h
    split at h
    · rename_i xs hx
      cases h
      obtain ⟨vs, e1, q⟩ := rel.obj _ _ _ e hx
      refine ⟨rfl, (fun _ _ e => by cases e), _, rfl, .inl ⟨_, .inl (.inl e1), walk_enumL fun μ' H' α' x r st => ?_⟩⟩
      have st : decide (α'[i]? = some (AO.lst xs)) = true := st
      obtain ⟨ws, e2, q2⟩ := r.obj i a _ (x.at e) (of_decide_eq_true st)
      exact ⟨ws, .inl (.inl e2), q2⟩
    · cases h
  | _ => cases h
theorem i_enum (ft : Fit F X) {e : Expr} {m : Den} {p pos tpos : Pos} {elts : List Expr} {kk : Nat} (hb : Blt X "enumerate" (.type "enumerate")) (he : PE X e (tE F m)) (hs : noStar e = true) :
    PI X (.Tuple elts kk tpos) (.Call (.Name "enumerate" p) [e] [] pos) (tI F X fun ρ α => (m ρ α).bind fun p α => srcEnum p α) := by
  refine ⟨fun pins s σ H R I ⟨μ, ρ, α, h⟩ => ?_⟩
  refine (pi_enumA hb he hs).run pins s σ H R I ⟨μ, ρ, α, (At.bind (R1 := Rep F) h).imp fun x H1 ⟨p, μ1, α1, l, rp, rel1, env1, h1⟩ => ?_⟩
  cases hs : srcEnum p α1 with
  | ok sr α2 =>
    rw [hs] at h1
    obtain ⟨rfl, nl, a, rfl, c⟩ := enum_at rel1 hs rp
    refine ⟨a, rfl, ?_⟩
    rw [ft.K]
    rcases c with ⟨xs, c, w⟩ | ⟨xs, c, w⟩
    · exact .inl ⟨xs, c, h1 μ1 H1 (_, _) (.refl F μ1 H1) rel1 (.inl ⟨nl, rfl, w⟩)⟩
    · exact .inr ⟨xs, c, h1 μ1 H1 (_, _) (.refl F μ1 H1) rel1 (.inl ⟨nl, rfl, w⟩)⟩
  | err c xs a => rw [hs] at h1; exact h1.elim
  | bad => rw [hs] at h1; exact h1.elim
theorem zipP_get : ∀ (xs ys : List PV) (i : Nat) (p : PV), (zipP xs ys)[i]? = some p → ∃ x y, xs[i]? = some x ∧ ys[i]? = some y ∧ p = .tup [x, y]
  | [], ys, i, p, h => by simp [zipP] at h
  | x :: xs, [], i, p, h => by simp [zipP] at h
  | x :: xs, y :: ys, 0, p, h => by simp [zipP] at h; exact ⟨x, y, rfl, rfl, h.symm⟩
  | x :: xs, y :: ys, i + 1, p, h => by
    obtain ⟨a, b, h1, h2, h3⟩ := zipP_get xs ys i p (by simpa [zipP] using h)
    exact ⟨a, b, by simpa using h1, by simpa using h2, h3⟩
theorem zipP_len : ∀ (xs ys : List PV), xs.length ≤ (zipP xs ys).length ∨ ys.length ≤ (zipP xs ys).length
  | [], ys => .inl (Nat.zero_le _)
  | x :: xs, [] => .inr (Nat.zero_le _)
  | x :: xs, y :: ys => by
    rcases zipP_len xs ys with h | h
    · exact .inl (by simp [zipP]; exact h)
    · exact .inr (by simp [zipP]; exact h)
theorem i_zip (ft : Fit F X) {e e2 : Expr} {ma mb : Den} {p pos tpos : Pos} {elts : List Expr} {kk : Nat} (hb : Blt X "zip" (.type "zip")) (he : PE X e (tE F ma)) (he2 : PE X e2 (tE F mb)) (hs : noStar e = true) (hs2 : noStar e2 = true) :
    PI X (.Tuple elts kk tpos) (.Call (.Name "zip" p) [e, e2] [] pos) (tI F X fun ρ α => (ma ρ α).bind fun p α => (mb ρ α).bind fun q α => srcZip p q α) := by
  refine ⟨fun pins s σ H R I ⟨μ, ρ, α, h⟩ => ?_⟩
  refine (RZ.pi_zipA hb.gl hb.mg (pa_cons he (pa_cons he2 pa_nil (star_cons hs2)) (star_cons hs)) (star_cons hs) (star_any (es := [e2]) (by simp [hs2]))).run pins s σ H R I ?_
  refine ⟨μ, ρ, α, (At.bind (R1 := Rep F) h).imp fun x H1 ⟨p, μ1, α1, l, rp, rel1, env1, h1⟩ => ⟨μ1, ρ, α1, (At.bind (R1 := Rep F) ⟨rel1, env1, h1⟩).imp fun y H2 ⟨q, μ2, α2, l2, rq, rel2, env2, h2⟩ => ?_⟩⟩
  have rp2 := rp.le l2
  unfold srcZip at h2
  split at h2
  · rename_i xs ys _
    obtain ⟨a, vs, rfl, e1, q1⟩ := rp2.sqtX
    obtain ⟨b, ws, rfl, f1, q2⟩ := rq.sqtX
    refine ⟨a, b, vs, ws, rfl, .inr ⟨by rw [ft.K]; exact sqt_of e1, by rw [ft.K]; exact sqt_of f1, ?_⟩⟩
    refine h2 μ2 H2 (_, _) (.refl F μ2 H2) rel2 (.inl ⟨(fun _ _ e => by cases e), rfl, ?_⟩)
    rw [ft.K]
    have st1 : ∀ μ' H', Ext F μ2 H2 μ' H' → SqT F.K H' a vs ∧ RepL F μ' H' xs vs := fun μ' H' x => ⟨sqt_ext x e1, q1.ext x⟩
    have st2 : ∀ μ' H', Ext F μ2 H2 μ' H' → SqT F.K H' b ws ∧ RepL F μ' H' ys ws := fun μ' H' x => ⟨sqt_ext x f1, q2.ext x⟩
    refine ⟨fun μ' H' α' x _ r st i p hp => ?_, fun μ' H' α' x _ r st => ?_⟩
    · obtain ⟨u, w, hu, hw, rfl⟩ := zipP_get xs ys i p hp
      obtain ⟨s1, r1⟩ := st1 μ' H' x
      obtain ⟨s2, r2⟩ := st2 μ' H' x
      obtain ⟨v1, hv1, rv1⟩ := r1.get hu
      obtain ⟨v2, hv2, rv2⟩ := r2.get hw
      refine ⟨⟨vs, ws, v1, v2, s1, s2, hv1, hv2⟩, fun z H'' hz => ?_⟩
      obtain ⟨T, z1, z2, rfl, hT, rfl, g1, g2⟩ := hz
      have := g1 vs s1; rw [hv1] at this; cases this
      have := g2 ws s2; rw [hv2] at this; cases this
      obtain ⟨l, r'⟩ := new_step r (o := .tup [v1, v2]) hT
      exact ⟨μ', l, r', .tup upd_same (.cons (rv1.le l) (.cons (rv2.le l) .nil))⟩
    · obtain ⟨s1, r1⟩ := st1 μ' H' x
      obtain ⟨s2, r2⟩ := st2 μ' H' x
      exact ⟨vs, ws, s1, s2, by rw [← r1.length, ← r2.length]; exact zipP_len xs ys⟩
  · rename_i xs ys _
    obtain ⟨a, vs, rfl, n1, e1, q1⟩ := rep_fl rp2
    obtain ⟨b, ws, rfl, n2, f1, q2⟩ := rep_fl rq
    refine ⟨a, b, vs, ws, rfl, .inl ⟨.inl (.inl e1), .inl (.inl f1), ?_⟩⟩
    refine h2 μ2 H2 (_, _) (.refl F μ2 H2) rel2 (.inl ⟨(fun _ _ e => by cases e), rfl, ?_⟩)
    rw [ft.K]
    have st1 : ∀ μ' H', Ext F μ2 H2 μ' H' → SqL F.K H' a vs ∧ RepL F μ' H' xs vs := fun μ' H' x => ⟨.inl (.inl (x.no _ _ n1 e1).2), q1.ext x⟩
    have st2 : ∀ μ' H', Ext F μ2 H2 μ' H' → SqL F.K H' b ws ∧ RepL F μ' H' ys ws := fun μ' H' x => ⟨.inl (.inl (x.no _ _ n2 f1).2), q2.ext x⟩
    refine ⟨fun μ' H' α' x _ r st i p hp => ?_, fun μ' H' α' x _ r st => ?_⟩
    · obtain ⟨u, w, hu, hw, rfl⟩ := zipP_get xs ys i p hp
      obtain ⟨s1, r1⟩ := st1 μ' H' x
      obtain ⟨s2, r2⟩ := st2 μ' H' x
      obtain ⟨v1, hv1, rv1⟩ := r1.get hu
      obtain ⟨v2, hv2, rv2⟩ := r2.get hw
      refine ⟨⟨vs, ws, v1, v2, s1, s2, hv1, hv2⟩, fun z H'' hz => ?_⟩
      obtain ⟨T, z1, z2, rfl, hT, rfl, g1, g2⟩ := hz
      have := g1 vs s1; rw [hv1] at this; cases this
      have := g2 ws s2; rw [hv2] at this; cases this
      obtain ⟨l, r'⟩ := new_step r (o := .tup [v1, v2]) hT
      exact ⟨μ', l, r', .tup upd_same (.cons (rv1.le l) (.cons (rv2.le l) .nil))⟩
    · obtain ⟨s1, r1⟩ := st1 μ' H' x
      obtain ⟨s2, r2⟩ := st2 μ' H' x
      exact ⟨vs, ws, s1, s2, by rw [← r1.length, ← r2.length]; exact zipP_len xs ys⟩
  · exact h2.elim
end
end Mw
end
section
set_option Elab.async false
set_option linter.all false
set_option maxRecDepth 100000
set_option maxHeartbeats 2000000
/-! Mw11: targets and statements. -/
namespace Mw
open PySem PySem.Spec PyProof.Rows L2

section
variable {F : Fx} {X : Cx} {μ μ' : Zn} {H H' : Hp} {α α' : AH} {ρ : Loc'} {σ : L2.St} {Q : VK}
/-! ### targets -/
/-- only these slots have changed -/
def Same (vs : List Nat) (σ σ' : L2.St) : Prop := σ'.length = σ.length ∧ ∀ j, j ∉ vs → σ'[j]? = σ[j]?
theorem Same.refl (vs : List Nat) (σ : L2.St) : Same vs σ σ := ⟨rfl, fun _ _ => rfl⟩
theorem Same.trans {vs ws : List Nat} {σ σ1 σ2 : L2.St} (a : Same vs σ σ1) (b : Same ws σ1 σ2) : Same (vs ++ ws) σ σ2 :=
  ⟨b.1.trans a.1, fun j h => by
    rw [List.mem_append, not_or] at h
    rw [b.2 j h.2, a.2 j h.1]⟩
theorem Same.set (i : Nat) (o : Option V) (σ : L2.St) : Same [i] σ (σ.set i o) := ⟨by simp, fun j h => by
  rw [List.getElem?_set_ne (fun e => h (by simp [e]))]⟩
def PostG (F : Fx) (μ : Zn) (H : Hp) (r : Res Loc') (vs : List Nat) (σ : L2.St) (Q : L2.St → Hp → Prop) : Prop :=
  match r with
  | .ok ρ' α' => ∀ μ' H' σ', Le F μ H μ' H' → Rel F μ' α' H' → EnvR F μ' H' ρ' σ' → Same vs σ σ' → Q σ' H'
  | .err _ _ _ => False
  | .bad => False
theorem PostG.from {r : Res Loc'} {vs ws : List Nat} {σ1 : L2.St} {Q : L2.St → Hp → Prop} (l : Le F μ H μ' H') (sm : Same ws σ σ1) (h : PostG F μ H r (ws ++ vs) σ Q) : PostG F μ' H' r vs σ1 Q := by
  cases r with
  | ok p a => exact fun μ'' H'' σ' l' r' e s => h μ'' H'' σ' (l.trans l') r' e (sm.trans s)
  | err c xs a => exact h
  | bad => exact h
def tG (F : Fx) (mt : PV → Loc' → AH → Res Loc') (vs : List Nat) : TG := fun v σ H Q => ∃ μ ρ α p, Rel F μ α H ∧ EnvR F μ H ρ σ ∧ Rep F μ H p v ∧ PostG F μ H (mt p ρ α) vs σ Q
def tGs (F : Fx) (mt : List PV → Loc' → AH → Res Loc') (vs : List Nat) : TGs := fun xs σ H Q => ∃ μ ρ α ps, Rel F μ α H ∧ EnvR F μ H ρ σ ∧ RepL F μ H ps xs ∧ PostG F μ H (mt ps ρ α) vs σ Q
theorem pg_imp {tg : Expr} {t t' : TG} (h : PG X tg t) (hi : ∀ v σ H Q, t' v σ H Q → t v σ H Q) : PG X tg t' := ⟨fun pins s σ H v u Q I r q => h.run pins s σ H v u Q I r (hi v σ H Q q)⟩
theorem pgs_imp {tg : List Expr} {t t' : TGs} (h : PGs X tg t) (hi : ∀ v σ H Q, t' v σ H Q → t v σ H Q) : PGs X tg t' := ⟨fun pins s σ H v u Q I r q => h.run pins s σ H v u Q I r (hi v σ H Q q)⟩
theorem g_var {i : Nat} {x : Str} {pos : Pos} (hN : X.N.Nodup) (hi : X.N[i]? = some x) (hx : Loc X.env.scope x) (hf : X.fn x = true ∨ X.env.scope.names.lookup x = some .local) : PG X (.Name x pos) (tG F (fun p ρ α => .ok (ρ.set i (some p)) α) [i]) :=
  pg_imp (pg_name hN hi hx hf) fun v σ H Q ⟨μ, ρ, α, p, rel, env, rp, h⟩ => h μ H _ (.refl F μ H) rel (env.set rp) (Same.set i _ σ)
theorem gs_nil {f : List PV → Loc' → AH → Res Loc'} (hf : ∀ ps ρ α, f ps ρ α = match ps with
    | [] => .ok ρ α
    | _ => .bad) : PGs X [] (tGs F f []) := by
  refine pgs_imp pgs_nil fun v σ H Q ⟨μ, ρ, α, ps, rel, env, rp, h⟩ => ?_
  rw [hf] at h
  cases rp with
  | nil => exact ⟨rfl, h μ H _ (.refl F μ H) rel env (.refl _ σ)⟩
  | cons a b => exact False.elim h
theorem asg_cons {e : Expr} {es : List Expr} {env : Env} (h : noStar e = true) : assignEach (e :: es) env = (false, assign e env) :: assignEach es env := by
  cases e <;> first | rfl | cases h
theorem asg_len {env : Env} : ∀ {es : List Expr}, es.all noStar = true → (assignEach es env).length = es.length ∧ (assignEach es env).findIdx? (·.1) = none
  | [], _ => ⟨rfl, rfl⟩
  | e :: es, h => by
    rw [List.all_cons, Bool.and_eq_true] at h
    obtain ⟨h1, h2⟩ := asg_len (env := env) h.2
    rw [asg_cons h.1]
    exact ⟨by simp [h1], by rw [List.findIdx?_cons]; simp [h2]⟩
theorem gs_cons {e : Expr} {es : List Expr} {mt : PV → Loc' → AH → Res Loc'} {mts f : List PV → Loc' → AH → Res Loc'} {vs ws : List Nat} (h1 : PG X e (tG F mt vs)) (h2 : PGs X es (tGs F mts ws)) (hs : noStar e = true)
    (hf : ∀ ps ρ α, f ps ρ α = match ps with
      | p :: ps => (mt p ρ α).bind fun ρ α => mts ps ρ α
      | [] => .bad) : PGs X (e :: es) (tGs F f (vs ++ ws)) := by
  refine pgs_imp (pgs_cons h1 h2 (by rw [asg_cons hs]; rfl)) fun v σ H Q ⟨μ, ρ, α, ps, rel, env, rp, h⟩ => ?_
  rw [hf] at h
  cases rp with
  | nil => exact False.elim h
  | @cons p v ps vs' a b =>
    refine ⟨v, vs', rfl, μ, ρ, α, p, rel, env, a, ?_⟩
    dsimp only at h
    cases hm : mt p ρ α with
    | ok ρ1 α1 =>
      rw [hm] at h
      exact fun μ1 H1 σ1 l r1 e1 s1 => ⟨μ1, ρ1, α1, ps, r1, e1, b.le l, PostG.from l s1 h⟩
    | err c xs a => rw [hm] at h; exact h
    | bad => rw [hm] at h; exact h
theorem g_tup (ft : Fit F X) {es : List Expr} {k : Nat} {pos : Pos} {mts : List PV → Loc' → AH → Res Loc'} {f : PV → Loc' → AH → Res Loc'} {vs : List Nat} (h : PGs X es (tGs F mts vs)) (hs : es.all noStar = true)
    (hl : ∀ ps ρ α ρ' α', mts ps ρ α = .ok ρ' α' → ps.length = es.length) (hf : ∀ x ρ α, f x ρ α = match x with
      | .tup xs => mts xs ρ α
      | _ => .bad) : PG X (.Tuple es k pos) (tG F f vs) := by
  obtain ⟨h1, h2⟩ := asg_len (env := X.env) hs
  refine pg_imp (pg_tup ft.calm h h1 h2) fun v σ H Q ⟨μ, ρ, α, p, rel, env, rp, h⟩ => ?_
  rw [hf] at h
  cases p with
  | tup xs =>
    obtain ⟨a, ws, rfl, e, rl⟩ := rp.sqt
    dsimp only at h
    refine ⟨a, ws, rfl, by rw [ft.K]; exact e, ?_, μ, ρ, α, xs, rel, env, rl, h⟩
    cases hm : mts xs ρ α with
    | ok ρ1 α1 => rw [← rl.length]; exact hl _ _ _ _ _ hm
    | err c xs a => rw [hm] at h; exact h.elim
    | bad => rw [hm] at h; exact h.elim
  | _ => exact False.elim h
def noSlice : Expr → Bool
  | .Slice _ _ _ _ => false
  | _ => true
theorem plainIx {b : Expr} (h : noSlice b = true) : PlainIx b := by
  intro o i
  cases b <;> first | rfl | cases h
theorem asg_sub {o i : Expr} {pos : Pos} {env : Env} (h : noSlice i = true) : ∀ v, assign (.Subscript o i pos) env v = (do
      let ov ← holding [v] (eval o env)
      let iv ← holding [v, ov] (eval i env)
      standAt pos
      holding [v, ov, iv] (setItem ov iv v)
      release [v, ov, iv] []) := by
  intro v
  cases i <;> first | rfl | cases h
theorem g_sub (ft : Fit F X) {o i : Expr} {mo mi : Den} {pos : Pos} (ho : PE X o (tE F mo)) (hi : PE X i (tE F mi)) (hs : noSlice i = true) :
    PG X (.Subscript o i pos) (tG F (fun x ρ α => (mo ρ α).bind fun p α => (mi ρ α).bind fun q α => (setP p q x α).bind fun _ α => .ok ρ α) []) := by
  refine pg_imp (pg_sub ho hi (set_all ft) (asg_sub hs)) fun v σ H Q ⟨μ, ρ, α, x, rel, env, rx, h⟩ => ?_
  dsimp only at h
  refine ⟨μ, ρ, α, rel, env, ?_⟩
  cases h1 : mo ρ α with
  | ok p α1 =>
    rw [h1] at h
    intro μ1 H1 v1 l1 rel1 rp
    refine ⟨μ1, ρ, α1, rel1, env.le l1, ?_⟩
    simp only [Res.ok_bind] at h
    cases h2 : mi ρ α1 with
    | ok q α2 =>
      rw [h2] at h
      intro μ2 H2 v2 l2 rel2 rq
      refine ⟨p, q, x, μ2, α2, rel2, rp.le l2, rq, (rx.le l1).le l2, ?_⟩
      simp only [Res.ok_bind] at h
      cases h3 : setP p q x α2 with
      | ok u α3 =>
        rw [h3] at h
        exact fun μ3 H3 _ l3 rel3 _ => h μ3 H3 σ ((l1.trans l2).trans l3) rel3 (((env.le l1).le l2).le l3) (.refl _ σ)
      | err c xs a => rw [h3] at h; exact h
      | bad => rw [h3] at h; exact h
    | err c xs a => rw [h2] at h; exact h
    | bad => rw [h2] at h; exact h
  | err c xs a => rw [h1] at h; exact h
  | bad => rw [h1] at h; exact h
end
end Mw
end
section
set_option Elab.async false
set_option linter.all false
set_option maxRecDepth 100000
set_option maxHeartbeats 2000000
/-! Mw12: statements. -/
namespace Mw
open PySem PySem.Spec PyProof.Rows L2

/-- a def's body -/
structure FitS (F : Fx) (X : Cx) : Prop extends Fit F X where
  po : PassesOwn (model X.prog X.w) X.A X.env X.xe
  kd : X.env.scope.kind = .function

section
variable {F : Fx} {X : Cx} {μ μ' : Zn} {H H' : Hp} {α α' : AH} {ρ : Loc'} {σ : L2.St} {Q : VK} {D : Ends}
def PostS (F : Fx) (μ : Zn) (H : Hp) (r : SRes) (D : Ends) : Prop :=
  match r with
  | .ok (.nx ρ') α' => ∀ μ' H' σ', Le F μ H μ' H' → Rel F μ' α' H' → EnvR F μ' H' ρ' σ' → D.nx σ' H'
  | .ok (.bk ρ') α' => ∀ μ' H' σ', Le F μ H μ' H' → Rel F μ' α' H' → EnvR F μ' H' ρ' σ' → D.bk σ' H'
  | .ok (.ct ρ') α' => ∀ μ' H' σ', Le F μ H μ' H' → Rel F μ' α' H' → EnvR F μ' H' ρ' σ' → D.ct σ' H'
  | .ok (.rt p) α' => ∀ μ' H' v, Le F μ H μ' H' → Rel F μ' α' H' → Rep F μ' H' p v → D.rt v H'
  | .err _ _ _ => False
  | .bad => False
def tS (F : Fx) (m : Loc' → AH → SRes) : TS := fun D σ H => ∃ μ ρ α, Rel F μ α H ∧ EnvR F μ H ρ σ ∧ PostS F μ H (m ρ α) D
theorem PostS.from {r : SRes} (l : Le F μ H μ' H') (h : PostS F μ H r D) : PostS F μ' H' r D := by
  cases r with
  | ok f a => cases f <;> exact fun μ'' H'' σ' l' r' e => h μ'' H'' σ' (l.trans l') r' e
  | err c xs a => exact h
  | bad => exact h
/-- what a way out is to reach -/
def DF (D : Ends) (σ : L2.St) (v : V) (H : Hp) : Fl → Prop
  | .nx _ => D.nx σ H
  | .bk _ => D.bk σ H
  | .ct _ => D.ct σ H
  | .rt _ => D.rt v H
/-- first m, then a statement -/
theorem At.bindS {β γ : Type} {R1 : Zn → Hp → β → γ → Prop} {r : Res β} {n : β → AH → SRes} (rel : Rel F μ α H) (env : EnvR F μ H ρ σ) (post : PostS F μ H (r.bind n) D) :
    At F μ ρ σ α H r R1 (fun v H1 => ∃ p μ1 α1, Le F μ H μ1 H1 ∧ R1 μ1 H1 p v ∧ Rel F μ1 α1 H1 ∧ EnvR F μ1 H1 ρ σ ∧ PostS F μ1 H1 (n p α1) D) := by
  refine ⟨rel, env, ?_⟩
  cases r with
  | ok p α1 => exact fun μ1 H1 v l r1 q => ⟨p, μ1, α1, l, q, r1, env.le l, PostS.from l post⟩
  | err c xs a => exact post
  | bad => exact post
theorem tE_bindS {m : Den} {n : PV → Loc' → AH → SRes} (h : tS F (fun ρ α => (m ρ α).bind fun p α => n p ρ α) D σ H) :
    tE F m σ H fun x H1 => ∃ p μ ρ α, Rep F μ H1 p x ∧ Rel F μ α H1 ∧ EnvR F μ H1 ρ σ ∧ PostS F μ H1 (n p ρ α) D := by
  obtain ⟨μ, ρ, α, rel, env, h⟩ := h
  exact ⟨μ, ρ, α, (At.bindS rel env h).imp fun xs H1 ⟨ps, μ1, α1, _, rs, rel1, e1, h1⟩ => ⟨ps, μ1, ρ, α1, rs, rel1, e1, h1⟩⟩
variable {st : Stmt} {sts : List Stmt} {a b c e : Expr} {m ma mb : Den} {ms mu mv : Loc' → AH → SRes} {pos : Pos}
theorem here_nx {ρ' : Loc'} (h : PostS F μ H (.ok (.nx ρ') α) D) (rel : Rel F μ α H) (env : EnvR F μ H ρ' σ) : D.nx σ H := h μ H σ (.refl F μ H) rel env
theorem s_nil : PSs X [] (tS F fun ρ α => .ok (.nx ρ) α) := pss_imp pss_nil fun D σ H ⟨μ, ρ, α, rel, env, h⟩ => here_nx h rel env
/-- the next statement behind a way out -/
def seqF (mv : Loc' → AH → SRes) (f : Fl) (α : AH) : SRes := match f with
  | .nx ρ => mv ρ α
  | f => .ok f α
theorem seq_post {r : SRes} (h : PostS F μ H (r.bind (seqF mv)) D) : PostS F μ H r { D with nx := tS F mv D } := by
  cases r with
  | ok f α1 =>
    cases f with
    | nx ρ1 => exact fun μ1 H1 σ1 l r1 e1 => ⟨μ1, ρ1, α1, r1, e1, PostS.from l h⟩
    | bk ρ1 => exact h
    | ct ρ1 => exact h
    | rt p => exact h
  | err c xs a => exact h
  | bad => exact h
theorem s_cons (h1 : PS X st (tS F mu)) (h2 : PSs X sts (tS F mv)) : PSs X (st :: sts) (tS F fun ρ α => (mu ρ α).bind (seqF mv)) :=
  pss_imp (pss_cons h1 h2) fun D σ H ⟨μ, ρ, α, rel, env, h⟩ => ⟨μ, ρ, α, rel, env, seq_post h⟩
theorem s_pass : PS X (.Pass pos) (tS F fun ρ α => .ok (.nx ρ) α) := ps_imp ps_pass fun D σ H ⟨μ, ρ, α, rel, env, h⟩ => here_nx h rel env
theorem s_dead : PS X st (tS F fun _ _ => .bad) := ⟨fun pins s σ H D I ⟨μ, ρ, α, rel, env, h⟩ => h.elim⟩
theorem s_brk : PS X (.Break pos) (tS F fun ρ α => .ok (.bk ρ) α) := ps_imp ps_break fun D σ H ⟨μ, ρ, α, rel, env, h⟩ => h μ H σ (.refl F μ H) rel env
theorem s_cont : PS X (.Continue pos) (tS F fun ρ α => .ok (.ct ρ) α) := ps_imp ps_continue fun D σ H ⟨μ, ρ, α, rel, env, h⟩ => h μ H σ (.refl F μ H) rel env
def noComp : Expr → Bool
  | .ListComp _ _ _ _ => false
  | .SetComp _ _ _ _ => false
  | .DictComp _ _ _ _ _ => false
  | _ => true
theorem swaps_no {e : Expr} {t : Option Expr} {n : Nat} {env : Env} (h : noComp e = true) : swapsWith e t n env = pure false := by
  cases e <;> first | rfl | cases h
theorem s_expr (he : PE X e (tE F m)) (hn : noComp e = true) : PS X (.Expr e pos) (tS F fun ρ α => (m ρ α).bind fun _ α => .ok (.nx ρ) α) := by
  refine ps_imp (ps_expr he (swaps_no hn)) fun D σ H h => ?_
  obtain ⟨μ, ρ, α, h⟩ := tE_bindS (n := fun _ ρ α => .ok (.nx ρ) α) h
  exact ⟨μ, ρ, α, h.imp fun x H1 ⟨p, μ1, ρ1, α1, _, rel1, e1, h1⟩ => here_nx h1 rel1 e1⟩
theorem s_ret (he : PE X e (tE F m)) : PS X (.Return (some e) pos) (tS F fun ρ α => (m ρ α).bind fun p α => .ok (.rt p) α) := by
  refine ps_imp (ps_ret he) fun D σ H h => ?_
  obtain ⟨μ, ρ, α, h⟩ := tE_bindS (n := fun p ρ α => .ok (.rt p) α) h
  exact ⟨μ, ρ, α, h.imp fun x H1 ⟨p, μ1, ρ1, α1, rp, rel1, e1, h1⟩ => h1 μ1 H1 x (.refl F μ1 H1) rel1 rp⟩
theorem s_retN : PS X (.Return none pos) (tS F fun _ α => .ok (.rt .non) α) := ps_imp ps_retN fun D σ H ⟨μ, ρ, α, rel, env, h⟩ => h μ H _ (.refl F μ H) rel .non
/-- a value, stored to a target -/
theorem asg_read {mt : PV → Loc' → AH → Res Loc'} {vs : List Nat} {g : TG} {x : V} {D : Ends} {p : PV} (hg : ∀ v σ H Q, tG F mt vs v σ H Q → g v σ H Q) (rel : Rel F μ α H) (env : EnvR F μ H ρ σ) (rp : Rep F μ H p x)
    (h : PostS F μ H ((mt p ρ α).bind fun ρ α => .ok (.nx ρ) α) D) : g x σ H D.nx := by
  refine hg x σ H D.nx ⟨μ, ρ, α, p, rel, env, rp, ?_⟩
  cases hm : mt p ρ α with
  | ok ρ1 α1 => rw [hm] at h; exact fun μ1 H1 σ1 l r1 e1 _ => h μ1 H1 σ1 l r1 e1
  | err c xs a => rw [hm] at h; exact h
  | bad => rw [hm] at h; exact h
theorem s_asg {tg : Expr} {mt : PV → Loc' → AH → Res Loc'} {vs : List Nat} (he : PE X e (tE F m)) (hg : PG X tg (tG F mt vs)) (hs : swapsWith e (some tg) pos.line X.env = pure false) (hw : swappedStores [tg] e X.env = pure none) (hn : noStar tg = true) :
    PS X (.Assign [tg] e pos) (tS F fun ρ α => (m ρ α).bind fun p α => (mt p ρ α).bind fun ρ α => .ok (.nx ρ) α) := by
  refine ps_imp (ps_asg he hg hs hw (by rw [asg_cons hn]; rfl)) fun D σ H h => ?_
  obtain ⟨μ, ρ, α, h⟩ := tE_bindS (n := fun p ρ α => (mt p ρ α).bind fun ρ α => .ok (.nx ρ) α) h
  exact ⟨μ, ρ, α, h.imp fun x H1 ⟨p, μ1, ρ1, α1, rp, rel1, e1, h1⟩ => asg_read (fun _ _ _ _ h => h) rel1 e1 rp h1⟩
/-- the stores of a, b = x, y -/
theorem par_read {ms : Loc' → AH → Res (List PV)} {is : List Nat} {D : Ends} (h : tS F (fun ρ α => (ms ρ α).bind fun ps α => need (decide (ps.length = is.length)) (.ok (.nx (setAll is ps ρ)) α)) D σ H) :
    tAs F ms σ H fun xs H1 => xs.length = is.length ∧ ∃ ps μ ρ α, RepL F μ H1 ps xs ∧ Rel F μ α H1 ∧ EnvR F μ H1 ρ σ ∧ PostS F μ H1 (.ok (.nx (setAll is ps ρ)) α) D := by
  obtain ⟨μ, ρ, α, rel, env, h⟩ := h
  refine ⟨μ, ρ, α, (At.bindS rel env h).imp fun xs H1 ⟨ps, μ1, α1, _, rs, rel1, e1, h1⟩ => ?_⟩
  cases hc : decide (ps.length = is.length) with
  | true =>
    rw [hc] at h1
    exact ⟨by rw [← rs.length]; exact of_decide_eq_true hc, ps, μ1, ρ, α1, rs, rel1, e1, h1⟩
  | false => rw [hc] at h1; exact h1.elim
theorem s_par2 (fs : FitS F X) {i j : Nat} {x y : Str} {px py pt : Pos} {kt k2 : Nat} {pt2 : Pos} {ms : Loc' → AH → Res (List PV)} (hi : X.N[i]? = some x) (hj : X.N[j]? = some y) (hij : i ≠ j) (hx : X.env.scope.names.lookup x = some .local) (hy : X.env.scope.names.lookup y = some .local)
    (ha : PA X [a, b] (tAs F ms)) (hw : swappedStores [.Tuple [.Name x px, .Name y py] kt pt] (.Tuple [a, b] k2 pt2) X.env = pure (some [x, y])) :
    PS X (.Assign [.Tuple [.Name x px, .Name y py] kt pt] (.Tuple [a, b] k2 pt2) pos) (tS F fun ρ α => (ms ρ α).bind fun ps α => need (decide (ps.length = [i, j].length)) (.ok (.nx (setAll [i, j] ps ρ)) α)) := by
  refine ps_imp (ps_par fs.calm fs.nd hi hj hij hx hy ha hw) fun D σ H h => ?_
  obtain ⟨μ, ρ, α, h⟩ := par_read h
  refine ⟨μ, ρ, α, h.imp fun xs H1 ⟨hl, ps, μ1, ρ1, α1, rs, rel1, e1, h1⟩ => ?_⟩
  cases rs with
  | nil => cases hl
  | cons r1 rs =>
  cases rs with
  | nil => cases hl
  | cons r2 rs =>
  cases rs with
  | nil => exact ⟨_, _, rfl, here_nx h1 rel1 ((e1.set r1).set r2)⟩
  | cons r3 rs => simp at hl
theorem s_par3 (fs : FitS F X) {i j l : Nat} {x y z : Str} {px py pz pt : Pos} {kt k2 : Nat} {pt2 : Pos} {ms : Loc' → AH → Res (List PV)} (hi : X.N[i]? = some x) (hj : X.N[j]? = some y) (hl : X.N[l]? = some z) (hij : i ≠ j) (hil : i ≠ l) (hjl : j ≠ l)
    (hx : X.env.scope.names.lookup x = some .local) (hy : X.env.scope.names.lookup y = some .local) (hz : X.env.scope.names.lookup z = some .local)
    (ha : PA X [a, b, c] (tAs F ms)) (hw : swappedStores [.Tuple [.Name x px, .Name y py, .Name z pz] kt pt] (.Tuple [a, b, c] k2 pt2) X.env = pure (some [x, y, z])) :
    PS X (.Assign [.Tuple [.Name x px, .Name y py, .Name z pz] kt pt] (.Tuple [a, b, c] k2 pt2) pos) (tS F fun ρ α => (ms ρ α).bind fun ps α => need (decide (ps.length = [i, j, l].length)) (.ok (.nx (setAll [i, j, l] ps ρ)) α)) := by
  refine ps_imp (ps_par3 fs.calm fs.nd hi hj hl hij hil hjl hx hy hz ha hw) fun D σ H h => ?_
  obtain ⟨μ, ρ, α, h⟩ := par_read h
  refine ⟨μ, ρ, α, h.imp fun xs H1 ⟨hl, ps, μ1, ρ1, α1, rs, rel1, e1, h1⟩ => ?_⟩
  cases rs with
  | nil => cases hl
  | cons r1 rs =>
  cases rs with
  | nil => cases hl
  | cons r2 rs =>
  cases rs with
  | nil => cases hl
  | cons r3 rs =>
  cases rs with
  | nil => exact ⟨_, _, _, rfl, here_nx h1 rel1 (((e1.set r1).set r2).set r3)⟩
  | cons r4 rs => simp at hl
/-- a op= e at an int -/
def augP (o : Bop) (p q : PV) (α : AH) : Res PV := match p, q with
  | .int _, .int _ => bop o p q α
  | _, _ => .bad
theorem s_aug (fs : FitS F X) {i : Nat} {x : Str} {o : Bop} {op : Operator} {g : Int → Int → Int} {px : Pos} (ho : PIp X op (ipI g)) (hop : ∀ i j α, bop o (.int i) (.int j) α = .ok (.int (g i j)) α) (hi : X.N[i]? = some x) (hx : Loc X.env.scope x)
    (hf : X.fn x = true ∨ X.env.scope.names.lookup x = some .local) (he : PE X e (tE F m)) :
    PS X (.AugAssign (.Name x px) op e pos) (tS F fun ρ α => match ρ[i]? with
      | some (some p) => (m ρ α).bind fun q α => match p, q with
        | .int _, .int _ => (bop o p q α).bind fun r α => .ok (.nx (ρ.set i (some r))) α
        | _, _ => .bad
      | _ => .bad) := by
  refine ps_imp (ps_aug fs.nd hi hx he ho hf) fun D σ H ⟨μ, ρ, α, rel, env, h⟩ => ?_
  dsimp only at h
  split at h
  · rename_i p hp
    obtain ⟨v, e1, rp⟩ := env.2 i p hp
    refine ⟨v, e1, μ, ρ, α, (At.bindS rel env h).imp fun y H1 ⟨q, μ1, α1, l, rq, rel1, env1, h1⟩ => ?_⟩
    split at h1
    · cases rp; cases rq
      rw [hop] at h1
      exact ⟨_, _, rfl, rfl, here_nx h1 rel1 (env1.set (.int _))⟩
    · exact False.elim h1
  · exact False.elim h
theorem s_if {mt : Loc' → AH → Res Bool} {p q : List Stmt} (hc : PT X c (tB' F mt)) (ha : PSs X p (tS F mu)) (hb : PSs X q (tS F mv)) : PS X (.If c p q pos) (tS F fun ρ α => (mt ρ α).bind fun t α => match t with
    | true => mu ρ α
    | false => mv ρ α) := by
  refine ps_imp (ps_if hc ha hb) fun D σ H ⟨μ, ρ, α, rel, env, h⟩ => ?_
  refine ⟨μ, ρ, α, (At.bindS (R1 := fun _ _ b c => b = c) rel env h).imp fun k H1 ⟨t, μ1, α1, l, ht, rel1, env1, h1⟩ => ?_⟩
  subst ht
  cases t with
  | true => rw [if_pos rfl]; exact ⟨μ1, ρ, α1, rel1, env1, h1⟩
  | false => rw [if_neg Bool.false_ne_true]; exact ⟨μ1, ρ, α1, rel1, env1, h1⟩

/-! ### while -/
theorem At.bindS0 {β γ : Type} {R1 : Zn → Hp → β → γ → Prop} {r : Res β} {n : β → AH → SRes} {μ0 : Zn} {H0 : Hp} (l0 : Le F μ0 H0 μ H) (rel : Rel F μ α H) (env : EnvR F μ H ρ σ) (post : PostS F μ0 H0 (r.bind n) D) :
    At F μ ρ σ α H r R1 (fun v H1 => ∃ p μ1 α1, Le F μ0 H0 μ1 H1 ∧ R1 μ1 H1 p v ∧ Rel F μ1 α1 H1 ∧ EnvR F μ1 H1 ρ σ ∧ PostS F μ0 H0 (n p α1) D) := by
  refine ⟨rel, env, ?_⟩
  cases r with
  | ok p α1 => exact fun μ1 H1 v l r1 q => ⟨p, μ1, α1, l0.trans l, q, r1, env.le l, post⟩
  | err c xs a => exact post
  | bad => exact post
/-- what holds ahead of a turn -/
def whW (F : Fx) (μ0 : Zn) (H0 : Hp) (α0 : AH) (mt : Loc' → AH → Res Bool) (mu : Loc' → AH → SRes) (D : Ends) (n : Nat) (σ : L2.St) (H : Hp) : Prop :=
  ∃ μ ρ α, Le F μ0 H0 μ H ∧ Rel F μ α H ∧ EnvR F μ H ρ σ ∧ PostS F μ0 H0 (turnsW (gcL α0) mt mu n ρ α) D
theorem whl_post {mt : Loc' → AH → Res Bool} {n : Nat} {r : SRes} {μ0 : Zn} {H0 : Hp} {α0 : AH} (r0 : Rel F μ0 α0 H0) (l0 : Le F μ0 H0 μ H) (h : PostS F μ0 H0 (r.bind fun f α2 => match f with
      | .nx ρ1 => turnsW (gcL α0) mt mu n (gcL α0 ρ1 α2).1 (gcL α0 ρ1 α2).2
      | .ct ρ1 => turnsW (gcL α0) mt mu n (gcL α0 ρ1 α2).1 (gcL α0 ρ1 α2).2
      | .bk ρ1 => .ok (.nx ρ1) α2
      | .rt p => .ok (.rt p) α2) D) : PostS F μ H r { D with nx := whW F μ0 H0 α0 mt mu D n, ct := whW F μ0 H0 α0 mt mu D n, bk := D.nx } := by
  have go : ∀ {ρ1 : Loc'} {α1 : AH}, PostS F μ0 H0 (turnsW (gcL α0) mt mu n (gcL α0 ρ1 α1).1 (gcL α0 ρ1 α1).2) D → ∀ μ1 H1 σ1, Le F μ H μ1 H1 → Rel F μ1 α1 H1 → EnvR F μ1 H1 ρ1 σ1 → whW F μ0 H0 α0 mt mu D n σ1 H1 := fun h μ1 H1 σ1 l r1 e1 => by
    obtain ⟨μ2, l2, r2, e2⟩ := gcL_ok (l0.trans l) r0 r1 e1
    exact ⟨μ2, _, _, l2, r2, e2, h⟩
  cases r with
  | ok f α1 =>
    cases f with
    | nx ρ1 => exact go h
    | bk ρ1 => exact fun μ1 H1 σ1 l r1 e1 => h μ1 H1 σ1 (l0.trans l) r1 e1
    | ct ρ1 => exact go h
    | rt p => exact fun μ1 H1 v l r1 e1 => h μ1 H1 v (l0.trans l) r1 e1
  | err c xs a => exact h
  | bad => exact h
theorem s_while (fs : FitS F X) {mt : Loc' → AH → Res Bool} {body : List Stmt} (hc : PT X c (tB' F mt)) (hb : PSs X body (tS F mu)) : PS X (.While c body [] pos) (tS F (whileM mt mu)) := by
  refine ps_imp (ps_while fs.po hc hb) fun D σ H ⟨μ, ρ, α, rel, env, h⟩ => ?_
  unfold whileM at h
  split at h
  · rename_i hx
    refine ⟨fun n σ' H' => whW F μ H α mt mu D n σ' H', ⟨_, μ, ρ, α, .refl F μ H, rel, env, h⟩, fun n σ1 H1 ⟨μ1, ρ1, α1, l1, rel1, env1, h1⟩ => ?_⟩
    cases n with
    | zero => exact False.elim h1
    | succ n =>
      unfold turnsW at h1
      refine ⟨μ1, ρ1, α1, (At.bindS0 (R1 := fun _ _ b c => b = c) l1 rel1 env1 h1).imp fun k H2 ⟨t, μ2, α2, l, ht, rel2, env2, h2⟩ => ?_⟩
      subst ht
      cases t with
      | true =>
        rw [if_pos rfl]
        exact ⟨whW F μ H α mt mu D n, fun σ' H' hh => ⟨n, Nat.lt_succ_self n, hh⟩, μ2, ρ1, α2, rel2, env2, whl_post rel l h2⟩
      | false =>
        rw [if_neg Bool.false_ne_true]
        exact h2 μ2 H2 _ l rel2 env2
  · exact False.elim h

/-! ### for -/
/-- the thing at d unlocked, if there is one locked -/
def Unl (X : Cx) (H : Hp) (P : Hp → Prop) : Prop := P H ∨ ∃ d od u, H d = some (.frz od u) ∧ NoFz X d ∧ P (upd H d u)
def unlD (X : Cx) (D : Ends) : Ends := ⟨fun σ H => Unl X H (D.nx σ), fun v H => Unl X H (D.rt v), fun σ H => Unl X H (D.bk σ), fun σ H => Unl X H (D.ct σ)⟩
theorem unl_ok {pins : List (Addr × Obj)} {s : Shared} {P : Hp → Prop} (I : Inv X pins σ H s) (h : Unl X H P) : ∃ H', Inv X pins σ H' s ∧ P H' := by
  rcases h with h | ⟨d, od, u, e, nf, h⟩
  · exact ⟨H, I, h⟩
  · exact ⟨_, I.unlock e nf, h⟩
theorem ps_unl {t : TS} (h : PS X st t) : PS X st (fun D σ H => t (unlD X D) σ H) := by
  refine ⟨fun pins s σ H D I q => thn (h.run pins s σ H (unlD X D) I q) fun f s1 q1 => ?_⟩
  cases f with
  | next => obtain ⟨σ1, H1, I1, q1⟩ := q1; obtain ⟨H2, I2, q2⟩ := unl_ok I1 q1; exact ⟨σ1, H2, I2, q2⟩
  | brk => obtain ⟨σ1, H1, I1, q1⟩ := q1; obtain ⟨H2, I2, q2⟩ := unl_ok I1 q1; exact ⟨σ1, H2, I2, q2⟩
  | cont => obtain ⟨σ1, H1, I1, q1⟩ := q1; obtain ⟨H2, I2, q2⟩ := unl_ok I1 q1; exact ⟨σ1, H2, I2, q2⟩
  | ret v => obtain ⟨x, σ1, H1, I1, r, q1⟩ := q1; obtain ⟨H2, I2, q2⟩ := unl_ok I1 q1; exact ⟨x, σ1, H2, I2, r, q2⟩
theorem pe_unl {t : TE} (h : PE X e t) : PE X e (fun σ H Q => t σ H fun v H' => Unl X H' (Q v)) := by
  refine ⟨fun pins s σ H Q I q => thn (h.run pins s σ H _ I q) fun v s1 ⟨x, H1, I1, r, q1⟩ => ?_⟩
  obtain ⟨H2, I2, q2⟩ := unl_ok I1 q1
  exact ⟨x, H2, I2, r, q2⟩
/-- a walk has begun: the base, the heap with what is locked -/
structure Begun (F : Fx) (X : Cx) (μ : Zn) (H : Hp) (α : AH) (s : Src) (J : L2.It) (H' : Hp) : Prop where
  le : Le F μ H μ H'
  rel : Rel F μ (s.lock α) H'
  walk : Walk F μ H' s J
  done : ∀ {β : Type} (b : β) μ2 off' H2 α2 r, Le F μ H μ2 H2 → Kz H' H2 → Rel F ⟨μ2.on, off'⟩ α2 H2 → s.done b α2 = r → r = .bad ∨ ∃ α3, r = .ok b α3 ∧
    ∀ P : Hp → Prop, (∀ H3, Le F μ H μ2 H3 → Rel F ⟨μ2.on, off'⟩ α3 H3 → Ext F ⟨μ2.on, off'⟩ H2 ⟨μ2.on, off'⟩ H3 → (∀ a, a ∉ μ2.on → H3 a = H2 a) → P H3) → Unl X H2 P
theorem dctU_nf {d : Addr} {kvs : List (PV × PV)} {u : HO} (du : DctU F μ H d kvs u) : (∀ o x, u ≠ .frz o x) ∧ (∀ vs, u ≠ .lst vs) ∧ (∀ vs, u ≠ .tup vs) ∧ (∀ b, u ≠ .own b) := by
  rcases du with ⟨ks, rfl, _⟩ | ⟨L, rfl, _⟩
  · exact ⟨fun _ _ e => (by cases e), fun _ e => (by cases e), fun _ e => (by cases e), fun _ e => (by cases e)⟩
  · exact ⟨fun _ _ e => (by cases e), fun _ e => (by cases e), fun _ e => (by cases e), fun _ e => (by cases e)⟩
theorem begun {s : Src} {JH : L2.It × Hp} (rel : Rel F μ α H) (h : SrcL F X μ H s JH) : Begun F X μ H α s JH.1 JH.2 := by
  rcases h with ⟨nl, e, w⟩ | ⟨k, kvs, d, u, ob, es, hk, hu, du, e, nf, w⟩
  · have hlock : ∀ α, s.lock α = α := fun α => by
      unfold Src.lock
      split
      · rename_i k kvs he; exact absurd he (nl k kvs)
      · rfl
    have hdone : ∀ {β : Type} (b : β) (α : AH), s.done b α = .ok b α := fun b α => by
      unfold Src.done
      split
      · rename_i k kvs he; exact absurd he (nl k kvs)
      · rfl
    refine ⟨by rw [e]; exact .refl F μ H, by rw [hlock, e]; exact rel, by rw [e]; exact w, fun b μ2 off' H2 α2 r l _ r2 hr => .inr ⟨α2, by rw [← hr, hdone], fun P hp => .inl (hp H2 l r2 (.refl F _ H2) fun _ _ => rfl)⟩⟩
  · obtain ⟨n1, n2, n3, n4⟩ := dctU_nf du
    have hdm : d ∈ μ.on := List.mem_of_getElem? hk
    have hnf : ∀ o x, H d ≠ some (.frz o x) := fun o x q => by rw [hu] at q; cases q; exact n1 _ _ rfl
    have mk : ∀ {H' : Hp}, Le F μ H μ H' → DctU F μ H' d kvs u := fun l => by
      rcases du with ⟨ks, rfl, r⟩ | ⟨L, rfl, r⟩
      · exact .inl ⟨ks, rfl, r.le l⟩
      · exact .inr ⟨L, rfl, r.le l⟩
    obtain ⟨l', rel'⟩ := put_step rel (o' := .frz ob u) (ao := .ldct kvs) hk hnf fun l => by
      rcases mk l with ⟨ks, rfl, r⟩ | ⟨L, rfl, r⟩
      · exact .inl ⟨ob, ks, upd_same, r⟩
      · exact .inr ⟨ob, L, upd_same, r⟩
    have hlock : s.lock α = α.set k (.ldct kvs) := by unfold Src.lock; rw [es]
    rw [e] at w ⊢
    refine ⟨l', by rw [hlock]; exact rel', w, fun {β} b μ2 off' H2 α2 r l2 kz r2 hr => ?_⟩
    unfold Src.done at hr
    rw [es] at hr
    dsimp only at hr
    cases hc : decide (α2[k]? = some (.ldct kvs)) with
    | false => rw [hc] at hr; exact .inl hr.symm
    | true =>
      rw [hc] at hr
      have hk2 : μ2.on[k]? = some d := l2.ext.at hk
      have hdm2 : d ∈ μ2.on := List.mem_of_getElem? hk2
      have hf2 : H2 d = some (.frz ob u) := kz d ob u upd_same
      have o2 : OR F ⟨μ2.on, off'⟩ H2 d (.ldct kvs) := r2.obj k d _ hk2 (of_decide_eq_true hc)
      have rlen : μ2.on.length = α2.length := r2.len
      refine .inr ⟨α2.set k (.dct kvs), hr.symm, fun P hp => .inr ⟨d, ob, u, hf2, nf, hp _ ?_ ?_ ?_ ?_⟩⟩
      all_goals
        have hx : ∀ off'', Ext F ⟨μ2.on, off''⟩ H2 ⟨μ2.on, off''⟩ (upd H2 d u) := fun off'' => ⟨⟨[], by simp⟩, fun a vs h => by rw [upd_ne (fun z => by rw [z, hf2] at h; cases h)]; exact h,
          fun a o vs h => by rw [upd_ne (fun z => by rw [z, hf2] at h; cases h; exact n2 _ rfl)]; exact h, fun a o n h => ⟨n, by rw [upd_ne (fun z => n.1 (by rw [z]; exact hdm2))]; exact h⟩⟩
      · refine ⟨l2.ext.trans (hx μ2.off), l2.off, fun a o n h => ?_, fun a o x h => ?_⟩
        · obtain ⟨q1, q2⟩ := l2.fr a o n h
          exact ⟨q1, by rw [upd_ne (fun z => q1 (by rw [z]; exact hdm2))]; exact q2⟩
        · rw [upd_ne (fun z => hnf o x (by rw [← z]; exact h))]; exact l2.fz a o x h
      · refine ⟨by simp [rlen], r2.nd, fun i a ob' h1 h2 => ?_, fun b hb => ⟨(r2.offs b hb).1, upd_some (r2.offs b hb).2⟩⟩
        have h1 : μ2.on[i]? = some a := h1
        by_cases hi : i = k
        · subst hi
          rw [hk2] at h1; cases h1
          have hl : i < α2.length := by rw [← rlen]; exact (List.getElem?_eq_some_iff.mp hk2).1
          rw [List.getElem?_set_self hl] at h2
          cases h2
          rcases o2 with ⟨ob2, ks, q, r⟩ | ⟨ob2, L, q, r⟩
          · rw [hf2] at q; cases q; exact .inl ⟨ks, upd_same, r.ext (hx _)⟩
          · rw [hf2] at q; cases q; exact .inr ⟨L, upd_same, r.ext (hx _)⟩
        · rw [List.getElem?_set_ne (fun e => hi e.symm)] at h2
          refine (r2.obj i a ob' h1 h2).ext (hx _) (upd_ne fun z => hi (place_inj r2.nd (by rw [← z]; exact h1) hk2)) fun b x q => ?_
          rw [upd_ne (fun z => by rw [z, hf2] at q; cases q)]; exact q
      · exact hx _
      · exact fun a ha => upd_ne fun z => ha (by rw [z]; exact hdm2)
theorem EnvR.ext (e : EnvR F μ H ρ σ) (l : Ext F μ H μ' H') : EnvR F μ' H' ρ σ := ⟨e.1, fun i p h => let ⟨v, h1, h2⟩ := e.2 i p h; ⟨v, h1, h2.ext l⟩⟩
theorem done_post {s : Src} {J : L2.It} {HJ : Hp} {f : Fl} {μ2 : Zn} {H2 : Hp} {α2 : AH} (B : Begun F X μ H α s J HJ) (l2 : Le F μ HJ μ2 H2) (h : PostS F μ H (s.done f α2) D) : PostS F μ2 H2 (.ok f α2) (unlD X D) := by
  have go : ∀ μ' H', Le F μ2 H2 μ' H' → Rel F μ' α2 H' → s.done f α2 = .bad ∨ ∃ α3, s.done f α2 = .ok f α3 ∧ ∀ P : Hp → Prop, (∀ H3, Le F μ H μ' H3 → Rel F μ' α3 H3 → Ext F μ' H' μ' H3 → P H3) → Unl X H' P := fun μ' H' l r => by
    have lt := l2.trans l
    rcases B.done f μ' μ'.off H' α2 _ (B.le.trans lt) lt.fz r rfl with q | ⟨α3, q, w⟩
    · exact .inl q
    · exact .inr ⟨α3, q, fun P hp => w P fun H3 a b c _ => hp H3 a b c⟩
  cases f with
  | nx ρ1 =>
    intro μ' H' σ' l r e
    rcases go μ' H' l r with q | ⟨α3, q, w⟩
    · rw [q] at h; exact h.elim
    · rw [q] at h; exact w (D.nx σ') fun H3 a b c => h μ' H3 σ' a b (e.ext c)
  | bk ρ1 =>
    intro μ' H' σ' l r e
    rcases go μ' H' l r with q | ⟨α3, q, w⟩
    · rw [q] at h; exact h.elim
    · rw [q] at h; exact w (D.bk σ') fun H3 a b c => h μ' H3 σ' a b (e.ext c)
  | ct ρ1 =>
    intro μ' H' σ' l r e
    rcases go μ' H' l r with q | ⟨α3, q, w⟩
    · rw [q] at h; exact h.elim
    · rw [q] at h; exact w (D.ct σ') fun H3 a b c => h μ' H3 σ' a b (e.ext c)
  | rt p =>
    intro μ' H' v l r e
    rcases go μ' H' l r with q | ⟨α3, q, w⟩
    · rw [q] at h; exact h.elim
    · rw [q] at h; exact w (D.rt v) fun H3 a b c => h μ' H3 v a b (e.ext c)
/-- the turns of a for -/
def forStep (g : Gc) (still : AH → Bool) (step : PV → Loc' → AH → SRes) (r : List PV) (f : Fl) (α1 : AH) : SRes := match f with
    | .nx ρ1 => turnsF g still step r (g ρ1 α1).1 (g ρ1 α1).2
    | .ct ρ1 => turnsF g still step r (g ρ1 α1).1 (g ρ1 α1).2
    | .bk ρ1 => .ok (.nx ρ1) α1
    | .rt p => .ok (.rt p) α1
theorem turnsF_cons (g : Gc) (still : AH → Bool) (step : PV → Loc' → AH → SRes) (x : PV) (r : List PV) (ρ : Loc') (α : AH) : turnsF g still step (x :: r) ρ α = need (still α) ((step x ρ α).bind (forStep g still step r)) := rfl
def noSet : Expr → Bool
  | .Set _ _ _ => false
  | _ => true
theorem folded_no {e : Expr} {env : Env} (h : noSet e = true) : ∀ x, foldedSetIterable e env x = pure x := by
  intro x
  cases e <;> first | rfl | cases h
def forD (mi : Loc' → AH → Res Src) (mt : PV → Loc' → AH → Res Loc') (mb : Loc' → AH → SRes) : Loc' → AH → SRes := fun ρ α => (mi ρ α).bind fun s α =>
  (turnsF (gcL (s.lock α)) s.still (fun x ρ α => (mt x ρ α).bind mb) s.items ρ (s.lock α)).bind fun f α => s.done f α
theorem need_S {β : Type} {c : Bool} {r : Res β} {n : β → AH → SRes} (h : PostS F μ H ((need c r).bind n) D) : c = true ∧ PostS F μ H (r.bind n) D := by
  cases c with
  | true => exact ⟨rfl, h⟩
  | false => exact h.elim
theorem s_for (fs : FitS F X) {tg iter : Expr} {body : List Stmt} {mi : Loc' → AH → Res Src} {mt : PV → Loc' → AH → Res Loc'} {vs : List Nat} {mb : Loc' → AH → SRes} (hi : PI X tg iter (tI F X mi)) (hg : PG X tg (tG F mt vs)) (hb : PSs X body (tS F mb))
    (hs : noSet iter = true) : PS X (.For tg iter body [] pos) (tS F (forD mi mt mb)) := by
  refine ps_imp (ps_unl (ps_for fs.po fs.calm hi hg hb (folded_no hs))) fun D σ H ⟨μ, ρ, α, rel, env, h⟩ => ?_
  refine ⟨μ, ρ, α, (At.bindS (R1 := SrcL F X) rel env h).imp fun JH H1 ⟨s, μ1, α1, l, sl, rel1, env1, h1⟩ => ?_⟩
  have B := begun rel1 sl
  obtain ⟨J, HJ⟩ := JH
  dsimp only at B ⊢
  let step : PV → Loc' → AH → SRes := fun x ρ α => (mt x ρ α).bind mb
  let W : Nat → Nat → L2.St → Hp → Prop := fun i m σ2 H2 => m = s.items.length - i ∧ i ≤ s.items.length ∧ ∃ μ2 ρ2 α2, Le F μ1 HJ μ2 H2 ∧ Rel F μ2 α2 H2 ∧ EnvR F μ2 H2 ρ2 σ2 ∧
    PostS F μ1 H1 ((turnsF (gcL (s.lock α1)) s.still step (s.items.drop i) ρ2 α2).bind fun f α => s.done f α) D
  refine ⟨W, ⟨_, rfl, Nat.zero_le _, μ1, ρ, s.lock α1, .refl F μ1 HJ, B.rel, env1.le B.le, by simpa using h1⟩, ?_⟩
  rintro i m σ2 H2 ⟨hm, hil, μ2, ρ2, α2, l2, r2, e2, h2⟩
  rcases Nat.lt_or_ge i s.items.length with hlt | hge
  · have hd : s.items.drop i = s.items[i] :: s.items.drop (i + 1) := (List.getElem_cons_drop hlt).symm
    rw [hd, turnsF_cons] at h2
    obtain ⟨hst, h2⟩ := need_S h2
    obtain ⟨g1, g2⟩ := B.walk.go μ2 H2 α2 l2.ext l2.fz r2 hst i _ (List.getElem?_eq_getElem hlt)
    refine .inr ⟨g1, W (i + 1) (s.items.length - (i + 1)), fun σ' H' w => ⟨_, by omega, w⟩, fun x H3 hy => ?_⟩
    obtain ⟨μ3, l3, r3, rp⟩ := g2 x H3 hy
    refine ⟨μ3, ρ2, α2, _, r3, e2.le l3, rp, ?_⟩
    cases hm : mt s.items[i] ρ2 α2 with
    | err c xs a => simp only [step, hm, Res.err_bind] at h2; exact h2
    | bad => simp only [step, hm, Res.bad_bind] at h2; exact h2
    | ok ρ4 α4 =>
      simp only [step, hm, Res.ok_bind] at h2
      intro μ4 H4 σ4 l4 r4 e4 _
      refine ⟨μ4, ρ4, α4, r4, e4, ?_⟩
      have l24 := (l2.trans l3).trans l4
      have next : ∀ (ρ5 : Loc') (α5 : AH), PostS F μ1 H1 ((turnsF (gcL (s.lock α1)) s.still step (s.items.drop (i + 1)) (gcL (s.lock α1) ρ5 α5).1 (gcL (s.lock α1) ρ5 α5).2).bind fun f α => s.done f α) D → ∀ μ5 H5 σ5, Le F μ4 H4 μ5 H5 → Rel F μ5 α5 H5 → EnvR F μ5 H5 ρ5 σ5 → W (i + 1) (s.items.length - (i + 1)) σ5 H5 :=
        fun ρ5 α5 h5 μ5 H5 σ5 l5 r5 e5 => by
          obtain ⟨μ6, l6, r6, e6⟩ := gcL_ok (l24.trans l5) B.rel r5 e5
          exact ⟨rfl, hlt, μ6, _, _, l6, r6, e6, h5⟩
      cases hb' : mb ρ4 α4 with
      | err c xs a => rw [hb'] at h2; exact h2
      | bad => rw [hb'] at h2; exact h2
      | ok f α5 =>
        rw [hb'] at h2
        cases f with
        | nx ρ5 => exact next ρ5 α5 h2
        | ct ρ5 => exact next ρ5 α5 h2
        | bk ρ5 => exact done_post (f := .nx ρ5) B l24 h2
        | rt p => exact done_post (f := .rt p) B l24 h2
  · have hi' : i = s.items.length := by omega
    subst hi'
    rw [List.drop_length] at h2
    obtain ⟨hst, h2⟩ := need_S (r := Res.ok (Fl.nx ρ2) α2) h2
    exact .inl ⟨B.walk.stop μ2 H2 α2 l2.ext l2.fz r2 hst, here_nx (done_post (f := .nx ρ2) B l2 h2) r2 e2⟩
end
end Mw
end
section
set_option Elab.async false
set_option linter.all false
set_option maxRecDepth 100000
set_option maxHeartbeats 2000000
/-! Mw13: list comprehensions, dict displays. -/
namespace Mw
open PySem PySem.Spec PyProof.Rows L2

section
variable {F : Fx} {X : Cx} {μ μ' : Zn} {H H' : Hp} {α α' : AH} {ρ : Loc'} {σ : L2.St} {Q : VK} {D : Addr}

/-! ### the slots of a block's own names -/
theorem wipe_get (σ : L2.St) (j : Nat) : ∀ vs : List Nat, (L2.wipe σ vs)[j]? = if j ∈ vs then (σ[j]?).map (fun _ => none) else σ[j]?
  | [] => by simp [L2.wipe]
  | v :: vs => by
    unfold L2.wipe
    by_cases h : v = j
    · subst h
      by_cases hl : v < σ.length
      · rw [List.getElem?_set_self (by rw [L2.wipe_length]; exact hl)]
        simp [hl]
      · rw [List.getElem?_eq_none (by rw [List.length_set, L2.wipe_length]; omega)]
        simp [List.getElem?_eq_none (Nat.le_of_not_lt hl)]
    · rw [List.getElem?_set_ne h, wipe_get σ j vs]
      have h' : ¬ j = v := fun e => h e.symm
      simp only [List.mem_cons, h', false_or]
theorem wipe_same {own : List Nat} {σ2 : L2.St} {vs : List Nat} (hs : ∀ j ∈ vs, j ∈ own) (sm : Same vs (L2.wipe σ own) σ2) : L2.wipe σ2 own = L2.wipe σ own := by
  refine List.ext_getElem? fun j => ?_
  rw [wipe_get, wipe_get]
  have hl : σ2.length = σ.length := by rw [sm.1, L2.wipe_length]
  by_cases hj : j ∈ own
  · rw [if_pos hj, if_pos hj]
    by_cases h : j < σ.length
    · rw [List.getElem?_eq_getElem h, List.getElem?_eq_getElem (by omega)]; rfl
    · rw [List.getElem?_eq_none (by omega), List.getElem?_eq_none (by omega)]
  · rw [if_neg hj, if_neg hj, sm.2 j (fun h => hj (hs j h)), wipe_get, if_neg hj]
theorem wipeP_length (ρ : Loc') : ∀ vs : List Nat, (wipeP ρ vs).length = ρ.length
  | [] => rfl
  | v :: vs => by unfold wipeP; rw [List.length_set, wipeP_length ρ vs]
theorem wipeP_some {i : Nat} {p : PV} : ∀ {vs : List Nat}, (wipeP ρ vs)[i]? = some (some p) → ρ[i]? = some (some p) ∧ i ∉ vs
  | [], h => ⟨h, by simp⟩
  | v :: vs, h => by
    unfold wipeP at h
    by_cases e : v = i
    · subst e
      by_cases hl : v < (wipeP ρ vs).length
      · rw [List.getElem?_set_self hl] at h; cases h
      · rw [List.getElem?_eq_none (by rw [List.length_set]; omega)] at h; cases h
    · rw [List.getElem?_set_ne e] at h
      obtain ⟨h1, h2⟩ := wipeP_some h
      exact ⟨h1, by simp [h2]; exact fun z => e z.symm⟩
theorem env_wipe (e : EnvR F μ H ρ σ) (vs : List Nat) : EnvR F μ H (wipeP ρ vs) (L2.wipe σ vs) := e.wipe (wipeP_length ρ vs) fun _ _ h => wipeP_some h

/-! ### what is put by -/
theorem Le.by (l : Le F μ H μ' H') (h : H D = none) {off : List Addr} (ho : μ'.off = off) : Ext F μ H ⟨μ'.on, D :: off⟩ H' := by
  refine ⟨l.ext.pre, l.ext.tup, l.ext.scr, fun a o n e => ?_⟩
  obtain ⟨n', e'⟩ := l.ext.no a o n e
  refine ⟨⟨n'.1, fun hm => ?_⟩, e'⟩
  rcases List.mem_cons.mp hm with z | z
  · rw [z, h] at e; cases e
  · exact n'.2 (by rw [ho]; exact z)
theorem le_unby {H0 : Hp} {μ0 ν ν' : Zn} {off : List Addr} (l : Le F μ0 H0 ⟨ν.on, off⟩ H) (l2 : Le F ν H ν' H') : Le F μ0 H0 ⟨ν'.on, off⟩ H' := by
  refine ⟨⟨?_, fun a vs h => l2.ext.tup a vs (l.ext.tup a vs h), fun a o vs h => l2.ext.scr a o vs (l.ext.scr a o vs h), fun a o n h => ?_⟩, l.off, fun a o n h => ?_, fun a o u h => l2.fz a o u (l.fz a o u h)⟩
  · obtain ⟨t, e⟩ := l.ext.pre
    obtain ⟨u, f⟩ := l2.ext.pre
    exact ⟨t ++ u, by show ν'.on = _; rw [f, show ν.on = μ0.on ++ t from e, List.append_assoc]⟩
  · obtain ⟨n', e'⟩ := l.ext.no a o n h
    obtain ⟨q1, q2⟩ := l2.fr a o n'.1 e'
    exact ⟨⟨q1, n'.2⟩, q2⟩
  · obtain ⟨q1, q2⟩ := l.fr a o n h
    exact l2.fr a o q1 q2
theorem le_new {H0 : Hp} {μ0 : Zn} {o : HO} (l : Le F μ0 H0 μ H) (h : H0 D = none) : Le F μ0 H0 μ (upd H D o) := by
  have k : ∀ {a x}, H0 a = some x → ∀ {y : Option HO}, H a = y → upd H D o a = y := fun {a x} e {y} e' => by rw [upd_ne (ne_of_none e h)]; exact e'
  exact ⟨⟨l.ext.pre, fun a vs e => k e (l.ext.tup a vs e), fun a ob vs e => k e (l.ext.scr a ob vs e), fun a ob n e => ⟨(l.ext.no a ob n e).1, k e (l.ext.no a ob n e).2⟩⟩, l.off,
    fun a ob n e => ⟨(l.fr a ob n e).1, k e (l.fr a ob n e).2⟩, fun a ob u e => k e (l.fz a ob u e)⟩
/-- what is put by is changed -/
theorem off_step {x0 x1 : HO} (r : Rel F μ α H) (hD : D ∈ μ.off) (hH : H D = some x0) (hm : Mv x0) : Ext F μ H μ (upd H D x1) ∧ Rel F μ α (upd H D x1) := by
  have k : ∀ {a : Addr} {x : HO}, H a = some x → ¬ Mv x → upd H D x1 a = some x := fun {a x} e n => by
    rw [upd_ne (fun z => by rw [z, hH] at e; cases e; exact n hm)]; exact e
  have x : Ext F μ H μ (upd H D x1) := ⟨⟨[], by simp⟩, fun a vs e => k e fun z => z, fun a o vs e => k e fun z => z, fun a o n e => ⟨n, by rw [upd_ne (fun z => n.2 (by rw [z]; exact hD))]; exact e⟩⟩
  refine ⟨x, r.len, r.nd, fun i a o h1 h2 => (r.obj i a o h1 h2).ext x (upd_ne fun z => (r.offs D hD).1 (by rw [← z]; exact List.mem_of_getElem? h1)) fun b y e => k e fun z => z, fun b hb => ⟨(r.offs b hb).1, upd_some (r.offs b hb).2⟩⟩
theorem RepL.ext' {ps : List PV} {vs : List V} (h : RepL F μ H ps vs) (x : Ext F μ H μ' H') : RepL F μ' H' ps vs := h.ext x

/-! ### [elt for .. in .. if ..] -/
def compStep (mt : PV → Loc' → AH → Res Loc') (mc : Loc' → AH → Res Bool) (me : Den) (ρw : Loc') (x : PV) (α : AH) : Res (Option PV) := (mt x ρw α).bind fun ρ' α => (mc ρ' α).bind fun c α => match c with
  | true => (me ρ' α).bind fun y α => .ok (some y) α
  | false => .ok none α
def compD (mi : Loc' → AH → Res Src) (mt : PV → Loc' → AH → Res Loc') (mc : Loc' → AH → Res Bool) (me : Den) (own : List Nat) : Den := fun ρ α => (mi ρ α).bind fun s α =>
  (turns s.still (compStep mt mc me (wipeP ρ own)) s.items (s.lock α)).bind fun ys α => need (lineOk ys.length) (s.done (.fl ys) α)
def consO (o : Option PV) (ys : List PV) : List PV := match o with
  | some y => y :: ys
  | none => ys
theorem turns_cons (still : AH → Bool) (step : PV → AH → Res (Option PV)) (x : PV) (r : List PV) (α : AH) : turns still step (x :: r) α = need (still α) ((step x α).bind fun o α1 => (turns still step r α1).bind fun ys α2 => .ok (consO o ys) α2) := by
  show need _ _ = _
  congr 2
theorem need_N {β : Type} {c : Bool} {r : Res β} {n : β → AH → Res PV} (h : PostN F μ H ((need c r).bind n) Q) : c = true ∧ PostN F μ H (r.bind n) Q := by
  cases c with
  | true => exact ⟨rfl, h⟩
  | false => exact h.elim
theorem comp_read {mi : Loc' → AH → Res Src} {mt : PV → Loc' → AH → Res Loc'} {mc : Loc' → AH → Res Bool} {me : Den} {own vs : List Nat} (hsub : ∀ j ∈ vs, j ∈ own) (h : tN F (compD mi mt mc me own) σ H Q) :
    tLc (tI F X mi) (tG F mt vs) (tB' F mc) (tE F me) own σ H (fun v H' => Unl X H' (Q v)) := by
  obtain ⟨μ, ρ, α, rel, env, h⟩ := h
  refine ⟨μ, ρ, α, (At.bindN (R1 := SrcL F X) rel env h).imp fun JH H1 ⟨s, μ1, α1, l, sl, rel1, env1, h1⟩ => ?_⟩
  have B := begun rel1 sl
  obtain ⟨J, HJ⟩ := JH
  dsimp only at B ⊢
  intro D hD
  have hD1 : H1 D = none := none_back B.rel B.le hD
  have hDoff : D ∉ μ1.off := fresh_noff B.rel hD
  let step : PV → AH → Res (Option PV) := compStep mt mc me (wipeP ρ own)
  let W : Nat → Nat → Hp → Prop := fun i m H2 => m = s.items.length - i ∧ i ≤ s.items.length ∧ ∃ (ν : Zn) (α2 : AH) (ys : List PV) (acc : List V), ν.off = D :: μ1.off ∧ Le F μ1 HJ ⟨ν.on, μ1.off⟩ H2 ∧ Rel F ν α2 H2 ∧ H2 D = some (.lst acc) ∧ RepL F ν H2 ys acc ∧
    EnvR F ν H2 (wipeP ρ own) (L2.wipe σ own) ∧ PostN F μ1 H1 ((turns s.still step (s.items.drop i) α2).bind fun zs α => need (lineOk (ys ++ zs).length) (s.done (.fl (ys ++ zs)) α)) Q
  obtain ⟨l0, _⟩ := new_step B.rel (o := .lst []) hD
  obtain ⟨x0, r0⟩ := by1 B.rel (o := .lst []) hD
  refine ⟨W, ⟨_, rfl, Nat.zero_le _, ⟨μ1.on, D :: μ1.off⟩, s.lock α1, [], [], rfl, l0, r0, upd_same, .nil, env_wipe ((env1.le B.le).ext x0) own, by simpa using h1⟩, ?_⟩
  rintro i m H2 ⟨hm, hil, ν, α2, ys, acc, hoff, l2, r2, hH, rl, e2, h2⟩
  obtain ⟨non, noff⟩ := ν
  dsimp only at hoff l2
  subst hoff
  have hDm : D ∈ (Zn.mk non (D :: μ1.off)).off := List.mem_cons_self
  have hDon : D ∉ non := (r2.offs D hDm).1
  have xJ : Ext F μ1 HJ ⟨non, D :: μ1.off⟩ H2 := l2.by hD rfl
  rcases Nat.lt_or_ge i s.items.length with hlt | hge
  · have hd : s.items.drop i = s.items[i] :: s.items.drop (i + 1) := (List.getElem_cons_drop hlt).symm
    rw [hd, turns_cons] at h2
    obtain ⟨hst, h2⟩ := need_N h2
    obtain ⟨g1, g2⟩ := B.walk.go _ H2 α2 xJ l2.fz r2 hst i _ (List.getElem?_eq_getElem hlt)
    refine .inr ⟨g1, W (i + 1) (s.items.length - (i + 1)), fun H' w => ⟨_, by omega, w⟩, fun x H3 hy => ?_⟩
    obtain ⟨μ3, l3, r3, rp⟩ := g2 x H3 hy
    refine ⟨μ3, wipeP ρ own, α2, _, r3, e2.le l3, rp, ?_⟩
    simp only [step, compStep, bind_assoc] at h2
    cases hm' : mt s.items[i] (wipeP ρ own) α2 with
    | err c xs a => rw [hm'] at h2; exact h2
    | bad => rw [hm'] at h2; exact h2
    | ok ρ4 α4 =>
      rw [hm'] at h2
      intro μ4 H4 σ4 l4 r4 e4 sm
      refine ⟨wipe_same hsub sm, μ4, ρ4, α4, r4, e4, ?_⟩
      simp only [Res.ok_bind] at h2
      have l24 := l3.trans l4
      -- the next turn
      have next : ∀ (o : Option PV) (α5 : AH) (μ5 : Zn) (H5 : Hp) (acc' : List V), PostN F μ1 H1 ((turns s.still step (s.items.drop (i + 1)) α5).bind fun zs α => need (lineOk ((ys ++ consO o []) ++ zs).length) (s.done (.fl ((ys ++ consO o []) ++ zs)) α)) Q →
          μ5.off = D :: μ1.off → Le F μ1 HJ ⟨μ5.on, μ1.off⟩ H5 → Rel F μ5 α5 H5 → H5 D = some (.lst acc') → RepL F μ5 H5 (ys ++ consO o []) acc' → EnvR F μ5 H5 (wipeP ρ own) (L2.wipe σ own) → W (i + 1) (s.items.length - (i + 1)) H5 :=
        fun o α5 μ5 H5 acc' h5 hoff5 l5 r5 hH5 rl5 e5 => ⟨rfl, hlt, μ5, α5, _, acc', hoff5, l5, r5, hH5, rl5, e5, h5⟩
      have keepD : ∀ {μ5 : Zn} {H5 : Hp}, Le F ⟨non, D :: μ1.off⟩ H2 μ5 H5 → H5 D = some (.lst acc) ∧ μ5.off = D :: μ1.off := fun l => ⟨(l.fr D _ hDon hH).2, l.off⟩
      cases hc : mc ρ4 α4 with
      | err c xs a => rw [hc] at h2; exact h2
      | bad => rw [hc] at h2; exact h2
      | ok k α5 =>
        rw [hc] at h2
        intro μ5 H5 k' l5 r5 ek
        subst ek
        simp only [Res.ok_bind] at h2
        have l25 := l24.trans l5
        obtain ⟨hH5, hoff5⟩ := keepD l25
        cases k with
        | false =>
          rw [if_neg Bool.false_ne_true]
          refine next none α5 μ5 H5 acc ?_ hoff5 (le_unby l2 l25) r5 hH5 (by simpa [consO] using rl.le l25) (e2.le l25)
          simpa [bind_assoc, consO, step] using h2
        | true =>
          rw [if_pos rfl]
          refine ⟨μ5, ρ4, α5, r5, (e4.le l5), ?_⟩
          cases he : me ρ4 α5 with
          | err c xs a => simp only [he, Res.err_bind] at h2; exact h2
          | bad => simp only [he, Res.bad_bind] at h2; exact h2
          | ok y α6 =>
            simp only [he, Res.ok_bind, bind_assoc] at h2
            intro μ6 H6 v l6 r6 ry
            have l26 := l25.trans l6
            obtain ⟨hH6, hoff6⟩ := keepD l26
            have hlen : acc.length < sizeLine := by
              rw [← rl.length]
              revert h2
              cases ht : turns s.still (compStep mt mc me (wipeP ρ own)) (s.items.drop (i + 1)) α6 with
              | err c xs a => exact fun h => h.elim
              | bad => exact fun h => h.elim
              | ok zs α7 =>
                intro h2
                simp only [Res.ok_bind, consO] at h2
                cases hz : lineOk (ys ++ y :: zs).length with
                | false => rw [hz] at h2; exact h2.elim
                | true =>
                  have := of_decide_eq_true hz
                  simp only [List.length_append, List.length_cons] at this
                  omega
            have hDm6 : D ∈ μ6.off := by rw [hoff6]; exact List.mem_cons_self
            obtain ⟨x7, r7⟩ := off_step (x1 := .lst (acc ++ [v])) r6 hDm6 hH6 trivial
            refine ⟨acc, hH6, hlen, next (some y) α6 μ6 _ (acc ++ [v]) ?_ hoff6 (le_new (le_unby l2 l26) hD) r7 upd_same (((rl.le l26).append (.cons ry .nil)).ext x7) ((e2.le l26).ext x7)⟩
            simpa [consO, step, List.append_assoc] using h2
  · have hi' : i = s.items.length := by omega
    subst hi'
    rw [List.drop_length] at h2
    obtain ⟨hst, h2⟩ := need_N (r := Res.ok ([] : List PV) α2) h2
    refine .inl ⟨B.walk.stop _ H2 α2 xJ l2.fz r2 hst, ?_⟩
    simp only [Res.ok_bind, List.append_nil] at h2
    cases hz : lineOk ys.length with
    | false => rw [hz] at h2; exact h2.elim
    | true =>
      rw [hz] at h2
      have h2 : PostN F μ1 H1 (s.done (.fl ys) α2) Q := h2
      have lt := B.le.trans l2
      rcases B.done (PV.fl ys) ⟨non, μ1.off⟩ (D :: μ1.off) H2 α2 _ lt l2.fz r2 rfl with q | ⟨α3, q, w⟩
      · rw [q] at h2; exact h2.elim
      · rw [q] at h2
        refine w (Q (.ref D)) fun H3 la ra xa ka => ?_
        have r3 : Rel F ⟨non, μ1.off⟩ α3 H3 := Rel.fewer (off := D :: μ1.off) (fun _ h => List.mem_cons_of_mem _ h) ra
        exact h2 ⟨non, μ1.off⟩ H3 (.ref D) la r3 ⟨D, rfl, hD1, hDon, hDoff, ra, acc, (ka D hDon).trans hH, rl.ext xa⟩

theorem k_comp (ft : Fit F X) {elt tg iter : Expr} {ifs : List Expr} {scope : Scope} {own : List (Str × Nat)} {pos : Pos} {mi : Loc' → AH → Res Src} {mt : PV → Loc' → AH → Res Loc'} {mc : Loc' → AH → Res Bool} {me : Den} {vs : List Nat}
    (hi : PI X tg iter (tI F X mi)) (ok : BlkOk X.N X.env.scope scope own)
    (hg : ∀ (s : Shared) (H : Hp) (C : Addr) (cl : List (Str × Addr)) (fp : List Addr), PG (X.blk s H scope (compEnvC scope cl C X.env) fp) tg (tG F mt vs)) (ht : ∀ (s : Shared) (H : Hp) (C : Addr) (cl : List (Str × Addr)) (fp : List Addr), PTs (X.blk s H scope (compEnvC scope cl C X.env) fp) ifs (tB' F mc))
    (he : ∀ (s : Shared) (H : Hp) (C : Addr) (cl : List (Str × Addr)) (fp : List Addr), PE (X.blk s H scope (compEnvC scope cl C X.env) fp) elt (tE F me)) (hs : noSet iter = true) (hsub : ∀ j ∈ vs, j ∈ own.map (·.2)) :
    PE X (.ListComp elt [⟨tg, iter, ifs, 0⟩] scope pos) (tN F (compD mi mt mc me (own.map (·.2)))) :=
  pe_imp (pe_unl (pe_lc ft.calm ft.nd hi ok hg ht he (folded_no hs))) fun σ H Q h => comp_read hsub h
theorem ts_nil : PTs X [] (tB' F fun _ α => .ok true α) := ⟨fun pins s σ H Q I ⟨μ, ρ, α, rel, env, h⟩ => pts_nil.run pins s σ H Q I (h μ H true (.refl F μ H) rel rfl)⟩
/-- a new thing joins the store -/
theorem join_new {α1 : AH} {p : PV} {v : V} {μ1 : Zn} {H1 : Hp} (l : Le F μ H μ1 H1) (rel1 : Rel F μ1 α1 H1) (rn : NewR F H α1 μ1 H1 p v) (rel : Rel F μ α H) : ∃ μ2 α2 q, joinP p α1 = .ok q α2 ∧ Le F μ H μ2 H1 ∧ Rel F μ2 α2 H1 ∧ Rep F μ2 H1 q v := by
  obtain ⟨on, off⟩ := μ1
  have fin : ∀ {x : Addr} {ao : AO}, H x = none → x ∉ on → x ∉ off → Rel F ⟨on, x :: off⟩ α1 H1 → OR F ⟨on, x :: off⟩ H1 x ao → ∃ μ2 : Zn, Le F μ H μ2 H1 ∧ Rel F μ2 (α1 ++ [ao]) H1 ∧ Rep F μ2 H1 (.ref α1.length) (.ref x) := by
    intro x ao h0 h1 h2 r3 o
    obtain ⟨l', r'⟩ := join_step rel l r3 h0 h1 h2 o
    refine ⟨_, l', r', .ref ?_⟩
    show (on ++ [x])[α1.length]? = some x
    have : on.length = α1.length := r3.len
    rw [← this, List.getElem?_concat_length]
  cases p with
  | fl xs => obtain ⟨x, rfl, h0, h1, h2, r3, o⟩ := rn; obtain ⟨μ2, a, b, c⟩ := fin h0 h1 h2 r3 o; exact ⟨μ2, _, _, rfl, a, b, c⟩
  | fd kvs => obtain ⟨x, rfl, h0, h1, h2, r3, o⟩ := rn; obtain ⟨μ2, a, b, c⟩ := fin h0 h1 h2 r3 o; exact ⟨μ2, _, _, rfl, a, b, c⟩
  | _ => exact ⟨⟨on, off⟩, α1, _, rfl, l, rel1, rn⟩
theorem compD_fd {mi : Loc' → AH → Res Src} {mt : PV → Loc' → AH → Res Loc'} {mc : Loc' → AH → Res Bool} {me : Den} {own : List Nat} {p : PV} {α1 : AH} (h : compD mi mt mc me own ρ α = .ok p α1) : isFd p = false := by
  unfold compD at h
  cases h1 : mi ρ α with
  | err c xs a => rw [h1] at h; cases h
  | bad => rw [h1] at h; cases h
  | ok s α2 =>
    rw [h1] at h
    simp only [Res.ok_bind] at h
    cases h2 : turns s.still (compStep mt mc me (wipeP ρ own)) s.items (s.lock α2) with
    | err c xs a => rw [h2] at h; cases h
    | bad => rw [h2] at h; cases h
    | ok ys α3 =>
      rw [h2] at h
      simp only [Res.ok_bind] at h
      cases h3 : lineOk ys.length with
      | false => rw [h3] at h; cases h
      | true =>
        rw [h3] at h
        unfold Src.done at h
        simp only [need_true] at h
        split at h
        · rename_i k kvs _
          cases h4 : decide (α3[k]? = some (.ldct kvs)) with
          | false => rw [h4] at h; cases h
          | true => rw [h4] at h; cases h; rfl
        · cases h; rfl
/-- name = [..] on one line; the list may join the store -/
theorem s_setLc (fs : FitS F X) {j : Bool} {i : Nat} {y : Str} {py : Pos} {elt tg iter : Expr} {ifs : List Expr} {scope : Scope} {own : List (Str × Nat)} {pos spos : Pos} {mi : Loc' → AH → Res Src} {mt : PV → Loc' → AH → Res Loc'} {mc : Loc' → AH → Res Bool} {me : Den} {vs : List Nat}
    (hy : X.N[i]? = some y) (hyl : X.env.scope.names.lookup y = some .local)
    (hsw : swapsWith (.ListComp elt [⟨tg, iter, ifs, 0⟩] scope pos) (some (.Name y py)) spos.line X.env = pure true) (hi : PI X tg iter (tI F X mi)) (ok : BlkOk X.N X.env.scope scope own)
    (hg : ∀ (s : Shared) (H : Hp) (C : Addr) (cl : List (Str × Addr)) (fp : List Addr), PG (X.blk s H scope (compEnvC scope cl C X.env) fp) tg (tG F mt vs)) (ht : ∀ (s : Shared) (H : Hp) (C : Addr) (cl : List (Str × Addr)) (fp : List Addr), PTs (X.blk s H scope (compEnvC scope cl C X.env) fp) ifs (tB' F mc))
    (he : ∀ (s : Shared) (H : Hp) (C : Addr) (cl : List (Str × Addr)) (fp : List Addr), PE (X.blk s H scope (compEnvC scope cl C X.env) fp) elt (tE F me)) (hs : noSet iter = true) (hsub : ∀ j ∈ vs, j ∈ own.map (·.2)) :
    PS X (.Assign [.Name y py] (.ListComp elt [⟨tg, iter, ifs, 0⟩] scope pos) spos) (tS F fun ρ α => (match j with
      | true => (compD mi mt mc me (own.map fun x : Str × Nat => x.2) ρ α).bind joinP
      | false => compD mi mt mc me (own.map fun x : Str × Nat => x.2) ρ α).bind fun p α => .ok (.nx (ρ.set i (some p))) α) := by
  refine ps_imp (ps_unl (ps_setLc fs.calm fs.nd hy hyl hsw hi ok hg ht he (folded_no hs))) fun D σ H ⟨μ, ρ, α, rel, env, h⟩ => ?_
  refine comp_read hsub ⟨μ, ρ, α, rel, env, ?_⟩
  cases hc : compD mi mt mc me (own.map (·.2)) ρ α with
  | err c xs a => cases j <;> (simp only [hc] at h; exact h)
  | bad => cases j <;> (simp only [hc] at h; exact h)
  | ok p α1 =>
    intro μ1 H1 v l rel1 rn
    cases j with
    | false => simp only [hc] at h; exact h μ1 H1 _ l rel1 ((env.le l).set (rn.rep (compD_fd hc)))
    | true =>
      simp only [hc, Res.ok_bind] at h
      obtain ⟨μ2, α2, q, e, l2, r2, rq⟩ := join_new l rel1 rn rel
      rw [e] at h
      exact h μ2 H1 _ l2 r2 ((env.le l2).set rq)

/-! ### {k: v, ..} -/
inductive RepPs (F : Fx) (μ : Zn) (H : Hp) : List (PV × PV) → List (V × V) → Prop
  | nil : RepPs F μ H [] []
  | cons {k p : PV} {x y : V} {ps : List (PV × PV)} {vs : List (V × V)} : Rep F μ H k x → Rep F μ H p y → RepPs F μ H ps vs → RepPs F μ H ((k, p) :: ps) ((x, y) :: vs)
structure KP (F : Fx) (X : Cx) (pos : Pos) (keys : List (Option Expr)) (values : List Expr) (mps : Loc' → AH → Res (List (PV × PV))) : Prop where
  run : ∃ trs, PPs X pos keys values trs ∧ ∀ σ H K, tR F (RepPs F) mps σ H K → tPairs trs σ H K
theorem RepPs.ext {kvs : List (PV × PV)} {vs : List (V × V)} (l : Ext F μ H μ' H') (h : RepPs F μ H kvs vs) : RepPs F μ' H' kvs vs := by
  induction h with
  | nil => exact .nil
  | cons a b _ ih => exact .cons (a.ext l) (b.ext l) ih
theorem RepPs.le {kvs : List (PV × PV)} {vs : List (V × V)} (l : Le F μ H μ' H') (h : RepPs F μ H kvs vs) : RepPs F μ' H' kvs vs := by
  induction h with
  | nil => exact .nil
  | cons a b _ ih => exact .cons (a.le l) (b.le l) ih
variable {pos : Pos}
theorem kp_nil : KP F X pos [] [] (fun _ α => .ok [] α) := ⟨[], pps_nil, fun σ H K ⟨μ, ρ, α, rel, env, h⟩ => h μ H [] (.refl F μ H) rel .nil⟩
theorem kp_cons {k v : Expr} {ks : List (Option Expr)} {vs : List Expr} {mk mv : Den} {mps : Loc' → AH → Res (List (PV × PV))} (hk : PE X k (tE F mk)) (hv : PE X v (tE F mv)) (hr : KP F X pos ks vs mps) :
    KP F X pos (some k :: ks) (v :: vs) (fun ρ α => (mk ρ α).bind fun p α => (mv ρ α).bind fun q α => (mps ρ α).bind fun r α => .ok ((p, q) :: r) α) := by
  obtain ⟨trs, h1, h2⟩ := hr.run
  refine ⟨_, pps_cons hk hv h1, fun σ H K ⟨μ, ρ, α, h⟩ => ?_⟩
  refine ⟨μ, ρ, α, (At.bind (R1 := Rep F) h).imp fun x H1 ⟨p, μ1, α1, l1, rp, h3⟩ => ⟨μ1, ρ, α1, (At.bind (R1 := Rep F) h3).imp fun y H2 ⟨q, μ2, α2, l2, rq, h4⟩ => h2 _ _ _ ⟨μ2, ρ, α2, (At.bind (R1 := RepPs F) h4).imp fun ps H3 ⟨r, μ3, α3, l3, rr, h5⟩ => ?_⟩⟩⟩
  exact h5.2.2 μ3 H3 _ (.refl F μ3 H3) h5.1 (.cons ((rp.le l2).le l3) (rq.le l3) rr)
theorem k_dnil : PE X (.Dict [] [] pos) (tN F fun _ α => .ok (.fd []) α) := by
  refine pe_imp pe_dnewK fun σ H Q ⟨μ, ρ, α, rel, env, h⟩ p hp => ?_
  obtain ⟨l, r'⟩ := new_step rel (o := .dK []) hp
  obtain ⟨x, r2⟩ := by1 rel (o := .dK []) hp
  exact h μ _ _ l r' ⟨p, rfl, hp, fresh_non rel hp, fresh_noff rel hp, r2, .inl ⟨[], upd_same, .nil⟩⟩
end
end Mw
end
section
set_option Elab.async false
set_option linter.all false
set_option maxRecDepth 100000
set_option maxHeartbeats 2000000
/-! Mw13a: set comprehensions of one and of two clauses, the members tuples (laid out by mk13a.py, after the kit's rules for lists and for sets of truth values). -/
namespace Mw
open PySem PySem.Spec PyProof.Rows L2
section
variable {F : Fx} {X : Cx} {H : Hp} {σ : L2.St}
theorem fit_blk (ft : Fit F X) {scope : Scope} {st : Shared} {H : Hp} {ce : Env} {fp : List Addr} : Fit F (X.blk st H scope ce fp) := ⟨ft.P, ft.w, ft.K, ft.calm, ft.gd, ft.room, ft.nd⟩
/-- a tuple that may be a member -/
def MemR (F : Fx) (H : Hp) (b : Addr) (q : NestedKey) : Prop := ∃ μ ks, Rep F μ H (.tup ks) (.ref b) ∧ nkOf (.tup ks) = some q ∧ q.depth ≤ 8
/-- y is added to the new set at D -/
def AddR (F : Fx) (D : Addr) (y : V) (H : Hp) (Nx : Hp → Prop) : Prop :=
  ∃ b q L, y = .ref b ∧ MemR F H b q ∧ H D = some (SX F.w D L) ∧ (∀ p ∈ L, MemR F H p.1 p.2) ∧ (q ∉ L.map (·.2) → L.length + 1 < 64) ∧
    ∀ L', (q ∈ L.map (·.2) → L' = L) → (q ∉ L.map (·.2) → L'.Perm ((b, q) :: L)) → Nx (upd H D (SX F.w D L'))
theorem memR_mem {pins : List (Addr × Obj)} {s : Shared} (ft : Fit F X) (I : Inv X pins σ H s) {b : Addr} {q : NestedKey} (h : MemR F H b q) : Ns.Mem s.heap q b := by
  obtain ⟨μ, ks, r, e, d⟩ := h
  exact ⟨nested_of ft I r e rfl, d⟩
theorem addS_ok (ft : Fit F X) {pins : List (Addr × Obj)} {s : Shared} {E : Value → Shared → Prop} {D : Addr} {y : V} {z : Value} {Nx : Hp → Prop} {Q : Value → Shared → Prop} (I : Inv X pins σ H s) (rz : RelV y z) (ad : AddR F D y H Nx)
    (h : ∀ s' H', Inv X pins σ H' s' → Nx H' → Q .none s') : wpAny (model X.prog X.w) X.A (call (.builtin "set.add") [.ref D, z]) Q E s := by
  obtain ⟨b, q, L, rfl, hm, hD, hL, hf, nx⟩ := ad
  cases rz
  have R0 : Ns.NS0 F.w s.heap D L := by have := (I.hok D _ hD).1; exact this
  obtain ⟨es, ep, t, R⟩ := R0.full fun p hp => memR_mem ft I (hL p hp)
  rw [← ft.w] at R
  refine Ns.set_add_ns R (memR_mem ft I hm) (by have := ft.room; omega) hf fun h' tk L' es' ep' t' sb new c1 c2 => ?_
  have he : ∃ u, h'.get? D = some u := by
    obtain ⟨o, ho, _⟩ := new.ob
    exact ⟨o, ho⟩
  rw [ft.w] at new
  exact h _ _ (I.write (e := D) (t' := tk) (by rw [hD]; trivial) (.inl rfl) (fun b u hb hu => (sb.2 b hb).trans hu) he (Ns.sx_new new.ns0)) (nx L' c1 c2)
end
section
variable {F : Fx} {X : Cx}
/-- {elt for target in iter if ..}: D the new set -/
def tScT (F : Fx) (wi : TI) (g : TG) (tt : TT) (te : TE) (vs : List Nat) : TE := fun σ H Q => wi σ H fun J H1 => ∀ D, H1 D = none → ∃ W : Nat → Nat → Hp → Prop, (∃ m, W 0 m (upd H1 D (SX F.w D []))) ∧ ∀ i m H, W i m H →
  (J.stop i H ∧ Q (.ref D) H) ∨ (J.go i H ∧ ∃ Nx : Hp → Prop, (∀ H', Nx H' → ∃ m', m' < m ∧ W (i + 1) m' H') ∧ ∀ x H', J.yld i H x H' → g x (L2.wipe σ vs) H' fun σ2 H2 => L2.wipe σ2 vs = L2.wipe σ vs ∧ tt σ2 H2 fun b H3 =>
    if b = true then te σ2 H3 fun y H4 => AddR F D y H4 Nx else Nx H3)
theorem scT_core {pins : List (Addr × Obj)} {s : Shared} {σ : L2.St} {H : Hp} {Q : VK} {elt tg iter : Expr} {ifs : List Expr} {scope : Scope} {own : List (PySem.Str × Nat)} {pos pos' : Pos} {wi : TI} {g : TG} {tt : TT} {te : TE} {use : Option (Value → Sem Unit)} {Qf : Value → Shared → Prop}
    (ft : Fit F X) (hc : X.calm = true) (hN : X.N.Nodup) (I : Inv X pins σ H s) (hi : PI X tg iter wi) (ok : BlkOk X.N X.env.scope scope own)
    (hg : ∀ (s : Shared) (H : Hp) (C : Addr) (cl : List (PySem.Str × Addr)) (fp : List Addr), PG (X.blk s H scope (compEnvC scope cl C X.env) fp) tg g) (ht : ∀ (s : Shared) (H : Hp) (C : Addr) (cl : List (PySem.Str × Addr)) (fp : List Addr), PTs (X.blk s H scope (compEnvC scope cl C X.env) fp) ifs tt)
    (he : ∀ (s : Shared) (H : Hp) (C : Addr) (cl : List (PySem.Str × Addr)) (fp : List Addr), PE (X.blk s H scope (compEnvC scope cl C X.env) fp) elt te) (hs : ∀ x, foldedSetIterable iter X.env x = pure x)
    (h : tScT F wi g tt te (own.map (·.2)) σ H Q)
    (hRR : ∀ D C s' m H', Inv X pins σ H' s' → Q (.ref D) H' → s'.heap.Ns C m → FpOk X pins H' C → compPost (model X.prog X.w) X.A X.xe use Qf (.ref D) C (.ok .next) s') :
    wpAny (model X.prog X.w) X.A (comprehension (.SetComp elt [⟨tg, iter, ifs, 0⟩] scope pos) scope X.env pos' (newSet (.type "set")) false (eval iter X.env) use) Qf X.xe s := by
  have hfree : ∀ y ∈ scope.names, y.2 = .free → ∃ c, X.env.cells.lookup y.1 = some c := fun y hy e => by
    rcases ok.free y hy e with k | k
    · exact I.ok.has _ (.inl k)
    · exact I.ok.has _ (.inr k)
  refine wpAny_comprehension_free (use := use) rfl hs (closure_ok hfree) ok.kind (fun y hy e => by rw [ok.uniq y hy, e])
    (thn (hi.run pins s σ H _ I h) fun xv s1 hx => thn hx fun itv s2 h2 => ?_)
  obtain ⟨it, fp, tn, J, H2, e, I2, T, st2, f2, q⟩ := h2
  subst e
  refine PpSet.newSet_ok (newEnv_comp ?_)
  generalize hD : s2.heap.objs.size = D
  have hDn : H2 D = none := I2.hok.fresh (Nat.le_of_eq hD)
  obtain ⟨W, ⟨m0, w0⟩, turn⟩ := q D hDn
  -- the new list
  generalize hs3 : ({ s2 with heap := s2.heap.push { cls := .type "set", dict := none, data := .set #[] 0 (.fresh 0 0 (!X.w.params.followText "set-order")) } } : Shared) = s3
  have I3 : Inv X pins σ (upd H2 D (SX F.w D [])) s3 := by
    rw [← hs3]
    refine I2.laid (t' := s2.toks) (fun b o e => Heap.get?_push_of_some _ e) (Nat.le_of_eq hD) ?_
    rw [← hD]
    refine Ns.sx_new (Ns.NS.ns0 (Ns.ns_fresh (w := F.w) ?_))
    rw [← ft.w]
    exact Heap.get?_push_size _ rfl
  have h3 : s3.heap = s2.heap.push { cls := .type "set", dict := none, data := .set #[] 0 (.fresh 0 0 (!X.w.params.followText "set-order")) } := by rw [← hs3]
  have sz : ∀ b ∈ fp, b < s2.heap.objs.size := fun b hb => by
    obtain ⟨o, e, _⟩ := T.obj _ _ st2 b hb
    exact Heap.lt_size e
  have f3 : ∀ b ∈ fp, FpOk X pins (upd H2 D (SX F.w D [])) b ∧ b < s3.heap.objs.size := fun b hb => by
    have hlt := sz b hb
    refine ⟨⟨?_, (f2 b hb).2⟩, by rw [h3, Heap.size_push]; exact Nat.lt_succ_of_lt hlt⟩
    rw [upd_ne (by rw [← hD]; exact Nat.ne_of_lt hlt)]
    exact (f2 b hb).1
  have st3 : tn 0 s3.heap := T.keep _ _ _ st2 fun b _ o e => by rw [h3]; exact Heap.get?_push_of_some _ e
  have I4 := block_start I3 ok hN f3
  have pg := hg s3 (upd H2 D (SX F.w D [])) s3.heap.objs.size (cellsFrom (s3.heap.objs.size + 1) scope.names (cloFrom X.env.cells scope.names [])) fp
  have pt := ht s3 (upd H2 D (SX F.w D [])) s3.heap.objs.size (cellsFrom (s3.heap.objs.size + 1) scope.names (cloFrom X.env.cells scope.names [])) fp
  have pe := he s3 (upd H2 D (SX F.w D [])) s3.heap.objs.size (cellsFrom (s3.heap.objs.size + 1) scope.names (cloFrom X.env.cells scope.names [])) fp
  show codeAny _ _ (.compStart (.SetComp elt [⟨tg, iter, ifs, 0⟩] scope pos) 0 (.ref it) (.ref D) (compEnvC scope (cellsFrom (s3.heap.objs.size + 1) scope.names (cloFrom X.env.cells scope.names [])) s3.heap.objs.size X.env)) (compPost (model X.prog X.w) X.A X.xe use Qf (.ref D) s3.heap.objs.size) { s3 with heap := pushCells (s3.heap.push { cls := .type "dict", data := .dict #[] }) scope.names }
  have nfp : ∀ b ∈ fp, (upd H2 D (SX F.w D [])) b = none := fun b hb => (f3 b hb).1.1
  generalize hce : compEnvC scope (cellsFrom (s3.heap.objs.size + 1) scope.names (cloFrom X.env.cells scope.names [])) s3.heap.objs.size X.env = ce at I4 pg pt pe ⊢
  have cL : ce.locals = s3.heap.objs.size := by subst hce; rfl
  generalize hH3 : upd H2 D (SX F.w D []) = H3 at I3 I4 pg pt pe w0 nfp f3
  generalize hs4 : ({ s3 with heap := pushCells (s3.heap.push { cls := .type "dict", data := .dict #[] }) scope.names } : Shared) = s4 at I4 ⊢
  have st4 : tn 0 s4.heap := T.keep _ _ _ st3 fun b _ o e => by rw [← hs4]; exact pushCells_keeps _ _ _ _ (Heap.get?_push_of_some _ e)
  have stat : ∀ {σ' : L2.St} {H' : Hp} {s' : Shared}, Inv (X.blk s3 H3 scope ce fp) [] σ' H' s' → (∀ b ∈ fp, H' b = none) → ∀ b ∈ fp, FpOk (X.blk s3 H3 scope ce fp) [] H' b := fun {σ' H' s'} I' hn b hb =>
    ⟨hn b hb, (I'.ok.exf b hb).1, I'.ok.exfs b hb, .inl hb, fun x c e => (I'.ok.exf b hb).2 x c e, fun p hp => absurd (show p ∈ ([] : List (Addr × Obj)) ++ [] from hp) (by simp)⟩
  have loop : codeAny (model X.prog X.w) X.A (.compLoop (.SetComp elt [⟨tg, iter, ifs, 0⟩] scope pos) 0 (.ref it) (.ref D) ce) (compPost (model X.prog X.w) X.A X.xe use Qf (.ref D) s3.heap.objs.size) s4 := by
    refine PpSet.compLoopS_any (fun n s' => ∃ i H', Inv (X.blk s3 H3 scope ce fp) [] (L2.wipe σ (own.map (·.2))) H' s' ∧ tn i s'.heap ∧ (∀ b ∈ fp, H' b = none) ∧ W i n H') ?_ m0 ⟨0, H3, I4, st4, nfp, w0⟩
    rintro n s5 ⟨i, H5, I5, st5, n5, w5⟩
    rcases turn i n H5 w5 with ⟨stop, qq⟩ | ⟨go, Nx, hNx, step⟩
    · have td := T.done (X.blk s3 H3 scope ce fp) rfl rfl rfl hc i [] s5 _ H5 (fun _ _ => False) I5 (stat I5 n5) st5 stop
      refine thnF td fun r s6 ⟨hr, I6⟩ => ?_
      subst hr
      -- back in the def's context
      have I7 : Inv X pins σ H5 s6 := I3.call' (ch := fp) I6.os I6.base I6.hok I6.bare fun b hb => ⟨(f3 b hb).1.2.2.2.1, (f3 b hb).1.2.1, (f3 b hb).1.2.2.2.2.1, (f3 b hb).1.2.2.2.2.2⟩
      have nC : H5 s3.heap.objs.size = none := by
        have z : H5 ce.locals = none := I6.free
        rw [cL] at z
        exact z
      obtain ⟨m, hn, _⟩ := I6.loc
      have hn : s6.heap.Ns ce.locals m := hn
      rw [cL] at hn
      exact hRR D s3.heap.objs.size s6 m H5 I7 qq hn (I3.fpOk (Nat.le_refl _) nC)
    · have ti := T.item (X.blk s3 H3 scope ce fp) rfl rfl rfl hc i [] s5 _ H5 (fun _ _ => False) I5 (stat I5 n5) st5 go
      refine thnF ti fun r s6 ⟨u, hr, h6⟩ => ?_
      subst hr
      refine thnF h6 fun _ s7 ⟨x, H7, I7, r7, y7, st7, n7⟩ => ?_
      have I7' := I7.pinned (stat I7 n7) (T.obj _ _ st7)
      refine thnF (pg.run _ s7 _ H7 x u _ I7' r7 (step x H7 y7)) fun _ s8 ⟨σ8, H8, I8, hw8, q8⟩ => ?_
      refine thnF (pt.run _ s8 σ8 H8 _ I8 q8) fun b s9 ⟨H9, I9, q9⟩ => ?_
      -- the turn's end
      have fin : ∀ {s' : Shared} {H' : Hp}, Inv (X.blk s3 H3 scope ce fp) ([] ++ pinsAt fp s7.heap) σ8 H' s' → Nx H' → ∃ m, m < n ∧ ∃ i H', Inv (X.blk s3 H3 scope ce fp) [] (L2.wipe σ (own.map (·.2))) H' s' ∧ tn i s'.heap ∧ (∀ b ∈ fp, H' b = none) ∧ W i m H' := fun {s' H'} I' nx => by
        obtain ⟨m', hm, w'⟩ := hNx H' nx
        have pin' : ∀ b ∈ fp, ∀ o, s7.heap.get? b = some o → s'.heap.get? b = some o ∧ H' b = none := fun b hb o e =>
          let z := I'.pin (b, o) (List.mem_append_right _ (List.mem_append_right _ (mem_pinsAt hb e)))
          ⟨z.1, z.2.1⟩
        have hl : (L2.wipe σ (own.map (·.2))).length = σ8.length := by rw [← hw8, L2.wipe_length]
        refine ⟨m', hm, i + 1, H', (I'.unpinned (pins := [])).weak hl (fun j v e => ?_), T.keep _ _ _ st7 fun b hb o e => (pin' b hb o e).1, fun b hb => ?_, w'⟩
        · rw [← hw8] at e
          exact (L2.wipe_some e).1
        · obtain ⟨o, e, _⟩ := T.obj _ _ st7 b hb
          exact (pin' b hb o e).2
      cases b with
      | false =>
        simp only [Bool.false_eq_true, if_false] at q9 ⊢
        exact fin I9 q9
      | true =>
        simp only [if_true] at q9 ⊢
        refine thnF (pe.run _ s9 σ8 H9 _ I9 q9) fun z s10 ⟨yv, H10, I10, r10, ad⟩ => ?_
        exact addS_ok (fit_blk ft) I10 r10 ad fun s11 H11 I11 nx => fin I11 nx
  exact PpSet.codeAny_compStart_set loop (T.self X.A 0 _ _ _ st4 loop)
/-- as a value -/
theorem pe_scT {elt tg iter : Expr} {ifs : List Expr} {scope : Scope} {own : List (PySem.Str × Nat)} {pos : Pos} {wi : TI} {g : TG} {tt : TT} {te : TE} (ft : Fit F X) (hc : X.calm = true) (hN : X.N.Nodup) (hi : PI X tg iter wi) (ok : BlkOk X.N X.env.scope scope own)
    (hg : ∀ (s : Shared) (H : Hp) (C : Addr) (cl : List (PySem.Str × Addr)) (fp : List Addr), PG (X.blk s H scope (compEnvC scope cl C X.env) fp) tg g) (ht : ∀ (s : Shared) (H : Hp) (C : Addr) (cl : List (PySem.Str × Addr)) (fp : List Addr), PTs (X.blk s H scope (compEnvC scope cl C X.env) fp) ifs tt)
    (he : ∀ (s : Shared) (H : Hp) (C : Addr) (cl : List (PySem.Str × Addr)) (fp : List Addr), PE (X.blk s H scope (compEnvC scope cl C X.env) fp) elt te) (hs : ∀ x, foldedSetIterable iter X.env x = pure x := by intro _; rfl) :
    PE X (.SetComp elt [⟨tg, iter, ifs, 0⟩] scope pos) (tScT F wi g tt te (own.map (·.2))) := by
  refine ⟨fun pins s σ H Q I h => ?_⟩
  rw [PpSet.eval_SetComp]
  refine scT_core ft hc hN I hi ok hg ht he hs h fun D C s' m H' I' q hn f => ⟨m, hn, fun h'' sb => ?_⟩
  obtain ⟨f0, f1, f2, f3, f4, f5⟩ := f
  exact ⟨.ref D, H', I'.turned (t' := s'.toks) (fun b o hb e => (sb.2 b hb).trans e) f0 f1 f3 f4 f5, rfl, q⟩
end

theorem compTurnS2_out (elt t0 i0 t1 i1 : Expr) (ifs0 ifs1 : List Expr) (scope : Scope) (pos : Pos) (it acc : Value) (env : Env) :
    compTurn (.SetComp elt [⟨t0, i0, ifs0, 0⟩, ⟨t1, i1, ifs1, 0⟩] scope pos) 0 it acc env = (do
      standAt i0.pos
      match ← pyNext it with
      | none => pure (.done .next)
      | some v =>
        letOwnedTupleGo t0 it v
        assign t0 env v
        let mut ok := true
        for c in ifs0 do
          if ok then ok ← isTrue c env (eval c env)
        if ok then
          let x ← eval i1 env
          standAt i1.pos
          let x ← foldedSetIterable i1 env x
          let _ ← runOwn (.compStart (.SetComp elt [⟨t0, i0, ifs0, 0⟩, ⟨t1, i1, ifs1, 0⟩] scope pos) 1 (← holding [x] (pyIter x)) acc env) env
        again (.compLoop (.SetComp elt [⟨t0, i0, ifs0, 0⟩, ⟨t1, i1, ifs1, 0⟩] scope pos) 0 it acc env)) := by rfl
theorem compTurnS2_in (elt t0 i0 t1 i1 : Expr) (ifs0 ifs1 : List Expr) (scope : Scope) (pos : Pos) (it acc : Value) (env : Env) :
    compTurn (.SetComp elt [⟨t0, i0, ifs0, 0⟩, ⟨t1, i1, ifs1, 0⟩] scope pos) 1 it acc env = (do
      standAt i1.pos
      match ← pyNext it with
      | none => pure (.done .next)
      | some v =>
        letOwnedTupleGo t1 it v
        assign t1 env v
        let mut ok := true
        for c in ifs1 do
          if ok then ok ← isTrue c env (eval c env)
        if ok then
          (do let v ← eval elt env; standAt elt.pos; let _ ← call (.builtin "set.add") [acc, v])
        again (.compLoop (.SetComp elt [⟨t0, i0, ifs0, 0⟩, ⟨t1, i1, ifs1, 0⟩] scope pos) 1 it acc env)) := by rfl

section
variable {prog : Program} {w : World} {A : Around} {R : Result → Shared → Prop} {s : Shared} {elt t0 i0 t1 i1 : Expr} {ifs0 ifs1 : List Expr} {scope : Scope} {pos : Pos} {it acc : Value} {env : Env}
/-- the loop of the first clause -/
theorem compLoopS2_out (hs : ∀ x, foldedSetIterable i1 env x = pure x) (I : Nat → Shared → Prop)
    (turn : ∀ n s, I n s → wpAny (model prog w) A (pyNext it) (fun r s₁ => match r with
      | none => R (.ok .next) s₁
      | some v => wpAny (model prog w) A (letOwnedTupleGo t0 it v) (fun _ s₁' => wpAny (model prog w) A (assign t0 env v) (fun _ s₂ =>
          wpAny (model prog w) A (forIn ifs0 true fun c r => if r = true then do let ok ← isTrue c env (eval c env); pure (ForInStep.yield ok) else pure (ForInStep.yield r)) (fun ok s₃ =>
            if ok = true then wpAny (model prog w) A (eval i1 env) (fun x s₄ => wpAny (model prog w) A (pyIter x) (fun it1 s₅ =>
              codeAny (model prog w) A (.compStart (.SetComp elt [⟨t0, i0, ifs0, 0⟩, ⟨t1, i1, ifs1, 0⟩] scope pos) 1 it1 acc env) (fun r s' => match r with
                | .ok _ => ∃ m, m < n ∧ I m s'
                | .error _ => False) s₅) (notedBy (model prog w) A env fun e s' => R (.error e) s') s₄) (notedBy (model prog w) A env fun e s' => R (.error e) s') s₃
            else ∃ m, m < n ∧ I m s₃) (notedBy (model prog w) A env fun e s' => R (.error e) s') s₂) (notedBy (model prog w) A env fun e s' => R (.error e) s') s₁') (notedBy (model prog w) A env fun e s' => R (.error e) s') s₁) (notedBy (model prog w) A env fun e s' => R (.error e) s') s)
    (n : Nat) (h : I n s) :
    codeAny (model prog w) A (.compLoop (.SetComp elt [⟨t0, i0, ifs0, 0⟩, ⟨t1, i1, ifs1, 0⟩] scope pos) 0 it acc env) R s := by
  refine codeAny_loop rfl I (fun n s hI => ?_) n h
  show wpAny _ A ((compTurn (.SetComp elt [⟨t0, i0, ifs0, 0⟩, ⟨t1, i1, ifs1, 0⟩] scope pos) 0 it acc env).onRaise (fun x => do noteFrame x env; theTreesLotGoes x)) _ _ s
  refine wpAny_noted ?_
  rw [compTurnS2_out]
  refine wpAny_bind (wpAny_standAt (wpAny_bind (wpAny_mono (turn n s hI) (fun r s₁ h₁ => ?_) fun _ _ h' => h')))
  cases r with
  | none => exact wpAny_pure h₁
  | some v =>
    refine wpAny_bind (wpAny_mono h₁ (fun _ s₁' h₁' => ?_) fun _ _ h' => h')
    refine wpAny_bind (wpAny_mono h₁' (fun _ s₂ h₂ => wpAny_bind (wpAny_mono h₂ (fun ok s₃ h₃ => ?_) fun _ _ h' => h')) fun _ _ h' => h')
    cases ok with
    | false => exact wpAny_pure ⟨rfl, h₃⟩
    | true =>
      refine wpAny_bind (wpAny_mono h₃ (fun x s₄ h₄ => ?_) fun _ _ h' => h')
      refine wpAny_bind (wpAny_standAt (wpAny_bind (wpAny_of_eq (hs x) (wpAny_bind (wpAny_holding (wpAny_mono h₄ (fun it1 s₅ h₅ => ?_) fun _ _ h' => h'))))))
      refine wpAny_bind (wpAny_runOwn ?_)
      rw [Around.mark_none]
      refine codeAny_mono h₅ fun r s' hr => ?_
      cases r with
      | ok f =>
        first
          | exact wpAny_pure ⟨rfl, hr⟩
          | exact wpAny_bind (wpAny_pure (wpAny_pure ⟨rfl, hr⟩))
      | error e => exact hr.elim
/-- the loop of the second -/
theorem compLoopS2_in (I : Nat → Shared → Prop)
    (turn : ∀ n s, I n s → wpAny (model prog w) A (pyNext it) (fun r s₁ => match r with
      | none => R (.ok .next) s₁
      | some v => wpAny (model prog w) A (letOwnedTupleGo t1 it v) (fun _ s₁' => wpAny (model prog w) A (assign t1 env v) (fun _ s₂ =>
          wpAny (model prog w) A (forIn ifs1 true fun c r => if r = true then do let ok ← isTrue c env (eval c env); pure (ForInStep.yield ok) else pure (ForInStep.yield r)) (fun ok s₃ =>
            if ok = true then wpAny (model prog w) A (eval elt env) (fun x s₄ =>
              wpAny (model prog w) A (call (.builtin "set.add") [acc, x]) (fun _ s₅ => ∃ m, m < n ∧ I m s₅) (notedBy (model prog w) A env fun e s' => R (.error e) s') s₄) (notedBy (model prog w) A env fun e s' => R (.error e) s') s₃
            else ∃ m, m < n ∧ I m s₃) (notedBy (model prog w) A env fun e s' => R (.error e) s') s₂) (notedBy (model prog w) A env fun e s' => R (.error e) s') s₁') (notedBy (model prog w) A env fun e s' => R (.error e) s') s₁) (notedBy (model prog w) A env fun e s' => R (.error e) s') s)
    (n : Nat) (h : I n s) :
    codeAny (model prog w) A (.compLoop (.SetComp elt [⟨t0, i0, ifs0, 0⟩, ⟨t1, i1, ifs1, 0⟩] scope pos) 1 it acc env) R s := by
  refine codeAny_loop rfl I (fun n s hI => ?_) n h
  show wpAny _ A ((compTurn (.SetComp elt [⟨t0, i0, ifs0, 0⟩, ⟨t1, i1, ifs1, 0⟩] scope pos) 1 it acc env).onRaise (fun x => do noteFrame x env; theTreesLotGoes x)) _ _ s
  refine wpAny_noted ?_
  rw [compTurnS2_in]
  refine wpAny_bind (wpAny_standAt (wpAny_bind (wpAny_mono (turn n s hI) (fun r s₁ h₁ => ?_) fun _ _ h' => h')))
  cases r with
  | none => exact wpAny_pure h₁
  | some v =>
    refine wpAny_bind (wpAny_mono h₁ (fun _ s₁' h₁' => ?_) fun _ _ h' => h')
    refine wpAny_bind (wpAny_mono h₁' (fun _ s₂ h₂ => wpAny_bind (wpAny_mono h₂ (fun ok s₃ h₃ => ?_) fun _ _ h' => h')) fun _ _ h' => h')
    cases ok with
    | false => exact wpAny_pure ⟨rfl, h₃⟩
    | true =>
      exact wpAny_bind (wpAny_bind (wpAny_mono h₃ (fun x s₄ h₄ => wpAny_bind (wpAny_standAt (wpAny_bind (wpAny_mono h₄ (fun _ s₅ h₅ => wpAny_pure (wpAny_pure ⟨rfl, h₅⟩)) fun _ _ h' => h')))) fun _ _ h' => h'))
/-- the second clause's start -/
theorem compStartS1_ok (h0 : codeAny (model prog w) A (.compLoop (.SetComp elt [⟨t0, i0, ifs0, 0⟩, ⟨t1, i1, ifs1, 0⟩] scope pos) 1 it acc env) R s)
    (h : wpAny (model prog w) A (pyIter it) (fun it' s' => codeAny (model prog w) A (.compLoop (.SetComp elt [⟨t0, i0, ifs0, 0⟩, ⟨t1, i1, ifs1, 0⟩] scope pos) 1 it' acc env) R s')
      (notedBy (model prog w) A env fun x s' => R (.error x) s') s) :
    codeAny (model prog w) A (.compStart (.SetComp elt [⟨t0, i0, ifs0, 0⟩, ⟨t1, i1, ifs1, 0⟩] scope pos) 1 it acc env) R s := by
  refine codeAny_of_tree ?_
  show wpAny _ _ ((compStart (.SetComp elt [⟨t0, i0, ifs0, 0⟩, ⟨t1, i1, ifs1, 0⟩] scope pos) 1 it acc env).onRaise (fun x => do noteFrame x env; standAt theWindowsPlace)) _ _ s
  refine wpAny_notedAt ?_
  unfold compStart
  show wpAny _ _ (ask >>= _) _ _ s
  refine wpAny_bind (wpAny_askSetting (wpAny_ite ?_))
  split
  · first
      | exact wpAny_bind (wpAny_pure (wpAny_pure (And.intro rfl h0)))
      | exact wpAny_pure (And.intro rfl h0)
  · first
      | exact wpAny_bind (wpAny_rule (wpAny_bind (wpAny_standAt (wpAny_bind (wpAny_mono h (fun it' s' h' => wpAny_pure (And.intro rfl h')) fun _ _ x => x)))))
      | (refine wpAny_bind (wpAny_rule ?_); show wpAny _ _ (standAt i1.pos >>= _) _ _ s; exact wpAny_bind (wpAny_standAt (wpAny_bind (wpAny_mono h (fun it' s' h' => wpAny_pure (And.intro rfl h')) fun _ _ x => x))))
end

section
variable {F : Fx} {X : Cx}
/-- [elt for tg in iter if .. for tg1 in iter1 if ..]: behind the first clause's store and tests the second source's own loop, from which Nx is reached. vs: the block's names; vs1: those of the second target -/
def tSc2 (F : Fx) (wi : TI) (g : TG) (tt : TT) (wi1 : TI) (g1 : TG) (tt1 : TT) (te : TE) (vs vs1 : List Nat) : TE := fun σ H Q => wi σ H fun J H1 => ∀ D, H1 D = none → ∃ W : Nat → Nat → Hp → Prop, (∃ m, W 0 m (upd H1 D (SX F.w D []))) ∧ ∀ i m H, W i m H →
  (J.stop i H ∧ Q (.ref D) H) ∨ (J.go i H ∧ ∃ Nx : Hp → Prop, (∀ H', Nx H' → ∃ m', m' < m ∧ W (i + 1) m' H') ∧ ∀ x H', J.yld i H x H' → g x (L2.wipe σ vs) H' fun σ2 H2 => L2.wipe σ2 vs = L2.wipe σ vs ∧ tt σ2 H2 fun b H3 =>
    if b = true then wi1 σ2 H3 fun J1 H4 => ∃ W1 : Nat → Nat → Hp → Prop, (∃ m, W1 0 m H4) ∧ ∀ j k H, W1 j k H →
      (J1.stop j H ∧ Nx H) ∨ (J1.go j H ∧ ∃ Nx1 : Hp → Prop, (∀ H', Nx1 H' → ∃ k', k' < k ∧ W1 (j + 1) k' H') ∧ ∀ x H', J1.yld j H x H' → g1 x (L2.wipe σ2 vs1) H' fun σ3 H5 => L2.wipe σ3 vs1 = L2.wipe σ2 vs1 ∧ tt1 σ3 H5 fun b H6 =>
        if b = true then te σ3 H6 fun y H7 => AddR F D y H7 Nx1 else Nx1 H6)
    else Nx H3)
theorem sc2_core {pins : List (Addr × Obj)} {s : Shared} {σ : L2.St} {H : Hp} {Q : VK} {elt tg iter tg1 iter1 : Expr} {ifs ifs1 : List Expr} {scope : Scope} {own : List (PySem.Str × Nat)} {vs1 : List Nat} {pos pos' : Pos} {wi wi1 : TI} {g g1 : TG} {tt tt1 : TT} {te : TE} {use : Option (Value → Sem Unit)} {Qf : Value → Shared → Prop}
    (ft : Fit F X) (hc : X.calm = true) (hN : X.N.Nodup) (I : Inv X pins σ H s) (hi : PI X tg iter wi) (ok : BlkOk X.N X.env.scope scope own) (hv : ∀ i ∈ vs1, i ∈ own.map (·.2))
    (hg : ∀ (s : Shared) (H : Hp) (C : Addr) (cl : List (PySem.Str × Addr)) (fp : List Addr), PG (X.blk s H scope (compEnvC scope cl C X.env) fp) tg g) (ht : ∀ (s : Shared) (H : Hp) (C : Addr) (cl : List (PySem.Str × Addr)) (fp : List Addr), PTs (X.blk s H scope (compEnvC scope cl C X.env) fp) ifs tt)
    (he : ∀ (s : Shared) (H : Hp) (C : Addr) (cl : List (PySem.Str × Addr)) (fp : List Addr), PE (X.blk s H scope (compEnvC scope cl C X.env) fp) elt te) (hs : ∀ x, foldedSetIterable iter X.env x = pure x)
    (hi1 : ∀ (s : Shared) (H : Hp) (C : Addr) (cl : List (PySem.Str × Addr)) (fp : List Addr), PI (X.blk s H scope (compEnvC scope cl C X.env) fp) tg1 iter1 wi1)
    (hg1 : ∀ (s : Shared) (H : Hp) (C : Addr) (cl : List (PySem.Str × Addr)) (fp : List Addr), PG (X.blk s H scope (compEnvC scope cl C X.env) fp) tg1 g1)
    (ht1 : ∀ (s : Shared) (H : Hp) (C : Addr) (cl : List (PySem.Str × Addr)) (fp : List Addr), PTs (X.blk s H scope (compEnvC scope cl C X.env) fp) ifs1 tt1)
    (hs1 : ∀ env x, foldedSetIterable iter1 env x = pure x)
    (h : tSc2 F wi g tt wi1 g1 tt1 te (own.map (·.2)) vs1 σ H Q)
    (hRR : ∀ D C s' m H', Inv X pins σ H' s' → Q (.ref D) H' → s'.heap.Ns C m → FpOk X pins H' C → compPost (model X.prog X.w) X.A X.xe use Qf (.ref D) C (.ok .next) s') :
    wpAny (model X.prog X.w) X.A (comprehension (.SetComp elt [⟨tg, iter, ifs, 0⟩, ⟨tg1, iter1, ifs1, 0⟩] scope pos) scope X.env pos' (newSet (.type "set")) false (eval iter X.env) use) Qf X.xe s := by
  have hfree : ∀ y ∈ scope.names, y.2 = .free → ∃ c, X.env.cells.lookup y.1 = some c := fun y hy e => by
    rcases ok.free y hy e with k | k
    · exact I.ok.has _ (.inl k)
    · exact I.ok.has _ (.inr k)
  refine wpAny_comprehension_free (use := use) rfl hs (closure_ok hfree) ok.kind (fun y hy e => by rw [ok.uniq y hy, e])
    (thn (hi.run pins s σ H _ I h) fun xv s1 hx => thn hx fun itv s2 h2 => ?_)
  obtain ⟨it, fp, tn, J, H2, e, I2, T, st2, f2, q⟩ := h2
  subst e
  refine PpSet.newSet_ok (newEnv_comp ?_)
  generalize hD : s2.heap.objs.size = D
  have hDn : H2 D = none := I2.hok.fresh (Nat.le_of_eq hD)
  obtain ⟨W, ⟨m0, w0⟩, turn⟩ := q D hDn
  -- the new list
  generalize hs3 : ({ s2 with heap := s2.heap.push { cls := .type "set", dict := none, data := .set #[] 0 (.fresh 0 0 (!X.w.params.followText "set-order")) } } : Shared) = s3
  have I3 : Inv X pins σ (upd H2 D (SX F.w D [])) s3 := by
    rw [← hs3]
    refine I2.laid (t' := s2.toks) (fun b o e => Heap.get?_push_of_some _ e) (Nat.le_of_eq hD) ?_
    rw [← hD]
    refine Ns.sx_new (Ns.NS.ns0 (Ns.ns_fresh (w := F.w) ?_))
    rw [← ft.w]
    exact Heap.get?_push_size _ rfl
  have h3 : s3.heap = s2.heap.push { cls := .type "set", dict := none, data := .set #[] 0 (.fresh 0 0 (!X.w.params.followText "set-order")) } := by rw [← hs3]
  have sz : ∀ b ∈ fp, b < s2.heap.objs.size := fun b hb => by
    obtain ⟨o, e, _⟩ := T.obj _ _ st2 b hb
    exact Heap.lt_size e
  have f3 : ∀ b ∈ fp, FpOk X pins (upd H2 D (SX F.w D [])) b ∧ b < s3.heap.objs.size := fun b hb => by
    have hlt := sz b hb
    refine ⟨⟨?_, (f2 b hb).2⟩, by rw [h3, Heap.size_push]; exact Nat.lt_succ_of_lt hlt⟩
    rw [upd_ne (by rw [← hD]; exact Nat.ne_of_lt hlt)]
    exact (f2 b hb).1
  have st3 : tn 0 s3.heap := T.keep _ _ _ st2 fun b _ o e => by rw [h3]; exact Heap.get?_push_of_some _ e
  have I4 := block_start I3 ok hN f3
  have pg := hg s3 (upd H2 D (SX F.w D [])) s3.heap.objs.size (cellsFrom (s3.heap.objs.size + 1) scope.names (cloFrom X.env.cells scope.names [])) fp
  have pt := ht s3 (upd H2 D (SX F.w D [])) s3.heap.objs.size (cellsFrom (s3.heap.objs.size + 1) scope.names (cloFrom X.env.cells scope.names [])) fp
  have pe := he s3 (upd H2 D (SX F.w D [])) s3.heap.objs.size (cellsFrom (s3.heap.objs.size + 1) scope.names (cloFrom X.env.cells scope.names [])) fp
  have pi1 := hi1 s3 (upd H2 D (SX F.w D [])) s3.heap.objs.size (cellsFrom (s3.heap.objs.size + 1) scope.names (cloFrom X.env.cells scope.names [])) fp
  have pg1 := hg1 s3 (upd H2 D (SX F.w D [])) s3.heap.objs.size (cellsFrom (s3.heap.objs.size + 1) scope.names (cloFrom X.env.cells scope.names [])) fp
  have pt1 := ht1 s3 (upd H2 D (SX F.w D [])) s3.heap.objs.size (cellsFrom (s3.heap.objs.size + 1) scope.names (cloFrom X.env.cells scope.names [])) fp
  show codeAny _ _ (.compStart (.SetComp elt [⟨tg, iter, ifs, 0⟩, ⟨tg1, iter1, ifs1, 0⟩] scope pos) 0 (.ref it) (.ref D) (compEnvC scope (cellsFrom (s3.heap.objs.size + 1) scope.names (cloFrom X.env.cells scope.names [])) s3.heap.objs.size X.env)) (compPost (model X.prog X.w) X.A X.xe use Qf (.ref D) s3.heap.objs.size) { s3 with heap := pushCells (s3.heap.push { cls := .type "dict", data := .dict #[] }) scope.names }
  have nfp : ∀ b ∈ fp, (upd H2 D (SX F.w D [])) b = none := fun b hb => (f3 b hb).1.1
  generalize hce : compEnvC scope (cellsFrom (s3.heap.objs.size + 1) scope.names (cloFrom X.env.cells scope.names [])) s3.heap.objs.size X.env = ce at I4 pg pt pe pi1 pg1 pt1 ⊢
  have cL : ce.locals = s3.heap.objs.size := by subst hce; rfl
  generalize hH3 : upd H2 D (SX F.w D []) = H3 at I3 I4 pg pt pe pi1 pg1 pt1 w0 nfp f3
  generalize hs4 : ({ s3 with heap := pushCells (s3.heap.push { cls := .type "dict", data := .dict #[] }) scope.names } : Shared) = s4 at I4 ⊢
  have st4 : tn 0 s4.heap := T.keep _ _ _ st3 fun b _ o e => by rw [← hs4]; exact pushCells_keeps _ _ _ _ (Heap.get?_push_of_some _ e)
  have stat : ∀ {σ' : L2.St} {H' : Hp} {s' : Shared}, Inv (X.blk s3 H3 scope ce fp) [] σ' H' s' → (∀ b ∈ fp, H' b = none) → ∀ b ∈ fp, FpOk (X.blk s3 H3 scope ce fp) [] H' b := fun {σ' H' s'} I' hn b hb =>
    ⟨hn b hb, (I'.ok.exf b hb).1, I'.ok.exfs b hb, .inl hb, fun x c e => (I'.ok.exf b hb).2 x c e, fun p hp => absurd (show p ∈ ([] : List (Addr × Obj)) ++ [] from hp) (by simp)⟩
  have loop : codeAny (model X.prog X.w) X.A (.compLoop (.SetComp elt [⟨tg, iter, ifs, 0⟩, ⟨tg1, iter1, ifs1, 0⟩] scope pos) 0 (.ref it) (.ref D) ce) (compPost (model X.prog X.w) X.A X.xe use Qf (.ref D) s3.heap.objs.size) s4 := by
    refine compLoopS2_out (hs1 ce) (fun n s' => ∃ i H', Inv (X.blk s3 H3 scope ce fp) [] (L2.wipe σ (own.map (·.2))) H' s' ∧ tn i s'.heap ∧ (∀ b ∈ fp, H' b = none) ∧ W i n H') ?_ m0 ⟨0, H3, I4, st4, nfp, w0⟩
    rintro n s5 ⟨i, H5, I5, st5, n5, w5⟩
    rcases turn i n H5 w5 with ⟨stop, qq⟩ | ⟨go, Nx, hNx, step⟩
    · have td := T.done (X.blk s3 H3 scope ce fp) rfl rfl rfl hc i [] s5 _ H5 (fun _ _ => False) I5 (stat I5 n5) st5 stop
      refine thnF td fun r s6 ⟨hr, I6⟩ => ?_
      subst hr
      -- back in the def's context
      have I7 : Inv X pins σ H5 s6 := I3.call' (ch := fp) I6.os I6.base I6.hok I6.bare fun b hb => ⟨(f3 b hb).1.2.2.2.1, (f3 b hb).1.2.1, (f3 b hb).1.2.2.2.2.1, (f3 b hb).1.2.2.2.2.2⟩
      have nC : H5 s3.heap.objs.size = none := by
        have z : H5 ce.locals = none := I6.free
        rw [cL] at z
        exact z
      obtain ⟨m, hn, _⟩ := I6.loc
      have hn : s6.heap.Ns ce.locals m := hn
      rw [cL] at hn
      exact hRR D s3.heap.objs.size s6 m H5 I7 qq hn (I3.fpOk (Nat.le_refl _) nC)
    · have ti := T.item (X.blk s3 H3 scope ce fp) rfl rfl rfl hc i [] s5 _ H5 (fun _ _ => False) I5 (stat I5 n5) st5 go
      refine thnF ti fun r s6 ⟨u, hr, h6⟩ => ?_
      subst hr
      refine thnF h6 fun _ s7 ⟨x, H7, I7, r7, y7, st7, n7⟩ => ?_
      have I7' := I7.pinned (stat I7 n7) (T.obj _ _ st7)
      refine thnF (pg.run _ s7 _ H7 x u _ I7' r7 (step x H7 y7)) fun _ s8 ⟨σ8, H8, I8, hw8, q8⟩ => ?_
      refine thnF (pt.run _ s8 σ8 H8 _ I8 q8) fun b s9 ⟨H9, I9, q9⟩ => ?_
      -- the turn's end, from any slots that know what the block knew at its start
      have fin : ∀ {σ9 : L2.St} {s' : Shared} {H' : Hp}, Inv (X.blk s3 H3 scope ce fp) ([] ++ pinsAt fp s7.heap) σ9 H' s' → (L2.wipe σ (own.map (·.2))).length = σ9.length → (∀ (j : Nat) v, (L2.wipe σ (own.map (·.2)))[j]? = some (some v) → σ9[j]? = some (some v)) → Nx H' →
          ∃ m, m < n ∧ ∃ i H', Inv (X.blk s3 H3 scope ce fp) [] (L2.wipe σ (own.map (·.2))) H' s' ∧ tn i s'.heap ∧ (∀ b ∈ fp, H' b = none) ∧ W i m H' := fun {σ9 s' H'} I' hl hk nx => by
        obtain ⟨m', hm, w'⟩ := hNx H' nx
        have pin' : ∀ b ∈ fp, ∀ o, s7.heap.get? b = some o → s'.heap.get? b = some o ∧ H' b = none := fun b hb o e =>
          let z := I'.pin (b, o) (List.mem_append_right _ (List.mem_append_right _ (mem_pinsAt hb e)))
          ⟨z.1, z.2.1⟩
        refine ⟨m', hm, i + 1, H', (I'.unpinned (pins := [])).weak hl hk, T.keep _ _ _ st7 fun b hb o e => (pin' b hb o e).1, fun b hb => ?_, w'⟩
        obtain ⟨o, e, _⟩ := T.obj _ _ st7 b hb
        exact (pin' b hb o e).2
      have hl8 : (L2.wipe σ (own.map (·.2))).length = σ8.length := by rw [← hw8, L2.wipe_length]
      have hk8 : ∀ (j : Nat) v, (L2.wipe σ (own.map (·.2)))[j]? = some (some v) → σ8[j]? = some (some v) := fun j v e => by
        rw [← hw8] at e
        exact (L2.wipe_some e).1
      have hk9 : ∀ (j : Nat) v, (L2.wipe σ (own.map (·.2)))[j]? = some (some v) → (L2.wipe σ8 vs1)[j]? = some (some v) := fun j v e => by
        rw [← hw8] at e
        obtain ⟨e1, e2⟩ := L2.wipe_some e
        rw [L2.wipe_out fun z => e2 (hv j z)]
        exact e1
      cases b with
      | false =>
        simp only [Bool.false_eq_true, if_false] at q9 ⊢
        exact fin I9 hl8 hk8 q9
      | true =>
        simp only [if_true] at q9 ⊢
        refine thnF (pi1.run _ s9 σ8 H9 _ I9 q9) fun xv s10 hx => thnF hx fun itv s11 h11 => ?_
        obtain ⟨it1, fp1, tn1, J1, H11, e1, I11, T1, st11, f11, W1, ⟨m1, w1⟩, turn1⟩ := h11
        subst e1
        -- the inner loop
        have stat1 : ∀ {H' : Hp}, (∀ b ∈ fp1, H' b = none) → ∀ b ∈ fp1, FpOk (X.blk s3 H3 scope ce fp) ([] ++ pinsAt fp s7.heap) H' b := fun hn b hb => ⟨hn b hb, (f11 b hb).2⟩
        have loop1 : codeAny (model X.prog X.w) X.A (.compLoop (.SetComp elt [⟨tg, iter, ifs, 0⟩, ⟨tg1, iter1, ifs1, 0⟩] scope pos) 1 (.ref it1) (.ref D) ce)
            (fun r s' => match r with
              | .ok _ => ∃ m, m < n ∧ ∃ i H', Inv (X.blk s3 H3 scope ce fp) [] (L2.wipe σ (own.map (·.2))) H' s' ∧ tn i s'.heap ∧ (∀ b ∈ fp, H' b = none) ∧ W i m H'
              | .error _ => False) s11 := by
          refine compLoopS2_in (fun k s' => ∃ j H', Inv (X.blk s3 H3 scope ce fp) ([] ++ pinsAt fp s7.heap) (L2.wipe σ8 vs1) H' s' ∧ tn1 j s'.heap ∧ (∀ b ∈ fp1, H' b = none) ∧ W1 j k H') ?_ m1 ⟨0, H11, I11.weak (L2.wipe_length _ _) (fun j v e => (L2.wipe_some e).1), st11, fun b hb => (f11 b hb).1, w1⟩
          rintro k s12 ⟨j, H12, I12, st12, n12, w12⟩
          rcases turn1 j k H12 w12 with ⟨stop1, nx1⟩ | ⟨go1, Nx1, hNx1, step1⟩
          · refine thnF (T1.done (X.blk s3 H3 scope ce fp) rfl rfl rfl hc j _ s12 (L2.wipe σ8 vs1) H12 (fun _ _ => False) I12 (stat1 n12) st12 stop1) fun r s13 ⟨hr, I13⟩ => ?_
            subst hr
            exact fin I13 (hl8.trans (L2.wipe_length σ8 vs1).symm) hk9 nx1
          · refine thnF (T1.item (X.blk s3 H3 scope ce fp) rfl rfl rfl hc j _ s12 (L2.wipe σ8 vs1) H12 (fun _ _ => False) I12 (stat1 n12) st12 go1) fun r s13 ⟨u1, hr, h13⟩ => ?_
            subst hr
            refine thnF h13 fun _ s14 ⟨x1, H14, I14, r14, y14, st14, n14⟩ => ?_
            have I14' := I14.pinned (stat1 n14) (T1.obj _ _ st14)
            refine thnF (pg1.run _ s14 (L2.wipe σ8 vs1) H14 x1 u1 _ I14' r14 (step1 x1 H14 y14)) fun _ s15 ⟨σ15, H15, I15, hw15, q15⟩ => ?_
            refine thnF (pt1.run _ s15 σ15 H15 _ I15 q15) fun b1 s16 ⟨H16, I16, q16⟩ => ?_
            have fin1 : ∀ {s' : Shared} {H' : Hp}, Inv (X.blk s3 H3 scope ce fp) (([] ++ pinsAt fp s7.heap) ++ pinsAt fp1 s14.heap) σ15 H' s' → Nx1 H' → ∃ m, m < k ∧ ∃ j H', Inv (X.blk s3 H3 scope ce fp) ([] ++ pinsAt fp s7.heap) (L2.wipe σ8 vs1) H' s' ∧ tn1 j s'.heap ∧ (∀ b ∈ fp1, H' b = none) ∧ W1 j m H' := fun {s' H'} I' nx => by
              obtain ⟨m', hm, w'⟩ := hNx1 H' nx
              have pin' : ∀ b ∈ fp1, ∀ o, s14.heap.get? b = some o → s'.heap.get? b = some o ∧ H' b = none := fun b hb o e =>
                let z := I'.pin (b, o) (List.mem_append_right _ (List.mem_append_right _ (mem_pinsAt hb e)))
                ⟨z.1, z.2.1⟩
              refine ⟨m', hm, j + 1, H', I'.unpinned.weak (by rw [← hw15, L2.wipe_length]) (fun j v e => by rw [← hw15] at e; exact (L2.wipe_some e).1), T1.keep _ _ _ st14 fun b hb o e => (pin' b hb o e).1, fun b hb => ?_, w'⟩
              obtain ⟨o, e, _⟩ := T1.obj _ _ st14 b hb
              exact (pin' b hb o e).2
            cases b1 with
            | false =>
              simp only [Bool.false_eq_true, if_false] at q16 ⊢
              exact fin1 I16 q16
            | true =>
              simp only [if_true] at q16 ⊢
              refine thnF (pe.run _ s16 σ15 H16 _ I16 q16) fun z s17 ⟨yv, H17, I17, r17, ad⟩ => ?_
              exact addS_ok (fit_blk ft) I17 r17 ad fun s18 H18 I18 nx => fin1 I18 nx
        exact compStartS1_ok loop1 (T1.self X.A 0 _ _ _ st11 loop1)
  exact PpSet.codeAny_compStart_set loop (T.self X.A 0 _ _ _ st4 loop)
/-- as a value -/
theorem pe_sc2 {elt tg iter tg1 iter1 : Expr} {ifs ifs1 : List Expr} {scope : Scope} {own : List (PySem.Str × Nat)} {vs1 : List Nat} {pos : Pos} {wi wi1 : TI} {g g1 : TG} {tt tt1 : TT} {te : TE} (ft : Fit F X) (hc : X.calm = true) (hN : X.N.Nodup) (hi : PI X tg iter wi) (ok : BlkOk X.N X.env.scope scope own) (hv : ∀ i ∈ vs1, i ∈ own.map (·.2))
    (hg : ∀ (s : Shared) (H : Hp) (C : Addr) (cl : List (PySem.Str × Addr)) (fp : List Addr), PG (X.blk s H scope (compEnvC scope cl C X.env) fp) tg g) (ht : ∀ (s : Shared) (H : Hp) (C : Addr) (cl : List (PySem.Str × Addr)) (fp : List Addr), PTs (X.blk s H scope (compEnvC scope cl C X.env) fp) ifs tt)
    (hi1 : ∀ (s : Shared) (H : Hp) (C : Addr) (cl : List (PySem.Str × Addr)) (fp : List Addr), PI (X.blk s H scope (compEnvC scope cl C X.env) fp) tg1 iter1 wi1)
    (hg1 : ∀ (s : Shared) (H : Hp) (C : Addr) (cl : List (PySem.Str × Addr)) (fp : List Addr), PG (X.blk s H scope (compEnvC scope cl C X.env) fp) tg1 g1) (ht1 : ∀ (s : Shared) (H : Hp) (C : Addr) (cl : List (PySem.Str × Addr)) (fp : List Addr), PTs (X.blk s H scope (compEnvC scope cl C X.env) fp) ifs1 tt1)
    (he : ∀ (s : Shared) (H : Hp) (C : Addr) (cl : List (PySem.Str × Addr)) (fp : List Addr), PE (X.blk s H scope (compEnvC scope cl C X.env) fp) elt te) (hs : ∀ x, foldedSetIterable iter X.env x = pure x := by intro _; rfl) (hs1 : ∀ env x, foldedSetIterable iter1 env x = pure x := by intro _ _; rfl) :
    PE X (.SetComp elt [⟨tg, iter, ifs, 0⟩, ⟨tg1, iter1, ifs1, 0⟩] scope pos) (tSc2 F wi g tt wi1 g1 tt1 te (own.map (·.2)) vs1) := by
  refine ⟨fun pins s σ H Q I h => ?_⟩
  rw [PpSet.eval_SetComp]
  refine sc2_core ft hc hN I hi ok hv hg ht he hs hi1 hg1 ht1 hs1 h fun D C s' m H' I' q hn f => ⟨m, hn, fun h'' sb => ?_⟩
  obtain ⟨f0, f1, f2, f3, f4, f5⟩ := f
  exact ⟨.ref D, H', I'.turned (t' := s'.toks) (fun b o hb e => (sb.2 b hb).trans e) f0 f1 f3 f4 f5, rfl, q⟩
end
end Mw
end
section
set_option Elab.async false
set_option linter.all false
set_option maxRecDepth 100000
set_option maxHeartbeats 2000000
/-! Mw13b: dict comprehensions, the keys ints or texts or tuples (laid out by mk13b.py, after the kit's rule for ints and texts). -/
namespace Mw
open PySem PySem.Spec PyProof.Rows L2
section
variable {F : Fx} {X : Cx} {H : Hp} {σ : L2.St}
/-- y: z is laid in the new dict at D -/
def PutR (F : Fx) (D : Addr) (y z : V) (H : Hp) (Nx : Hp → Prop) : Prop :=
  ∃ μ kvs k p, OR F μ H D (.dct kvs) ∧ kok kvs k = true ∧ kvs.length < sizeLine ∧ Rep F μ H k y ∧ Rep F μ H p z ∧
    ∀ o', (∀ {μ' H'}, H' D = some o' → Ext F μ H μ' H' → OR F μ' H' D (.dct (dput kvs k p))) → Mv o' → Nx (upd H D o')
theorem putR_ok (ft : Fit F X) {pins : List (Addr × Obj)} {s : Shared} {E : Value → Shared → Prop} {D : Addr} {y z : V} {u r : Value} {Nx : Hp → Prop} {Q : Unit → Shared → Prop} (I : Inv X pins σ H s) (ry : RelV y u) (rv : RelV z r) (pr : PutR F D y z H Nx)
    (h : ∀ s' H', Inv X pins σ H' s' → Nx H' → Q () s') : wpAny (model X.prog X.w) X.A (dictSet D u r) Q E s := by
  obtain ⟨μ, kvs, k, p, o, hk, hl, rk, rp, nx⟩ := pr
  obtain ⟨H1, I1, back, hup, c⟩ := dct_see ft I hk o
  rcases c with ⟨q, ks, hq, _, r1, e⟩ | ⟨ts, q, L, rfl, hq, hd, r1, r2, e⟩
  · rw [rep_key hq rk] at ry
    rw [len_K r1] at hl
    refine d_dictSet I1 e hl ry rv fun s' I' => ?_
    rw [hup] at I'
    exact h _ _ I' (nx _ (fun e x => .inl ⟨_, e, (put_K hq rp r1).ext x⟩) trivial)
  · obtain ⟨b, rfl⟩ := rep_ref rk
    cases ry
    obtain ⟨hz, hs, xs, pl, dd⟩ := dx_raw ft I1 e r1
    rw [len_X r2] at hl
    have hxs : xs.length ≤ sizeLine := by rw [← Paired.length pl]; exact hz
    have hL : (putX L (dfind kvs (.tup ts)).isSome q b z).length ≤ sizeLine := by have := len_putX L (dfind kvs (.tup ts)).isSome q b z; omega
    rw [ft.P, ft.w]
    have hu : (nestedKind F.P F.w).room X.A := by
      have := ft.room
      show X.A.units + 8 < cLine
      omega
    refine wpAny_dictSet_heap (hsz := hxs) hu ⟨nested_of ft I rk hq rfl, hd⟩ dd (fun h' dd' hsb => ?_)
    have pl' := pl_put (q := q) (c := b) rv pl
    rw [← isSome_X hq r2 pl] at pl'
    have he : ∃ q, h'.get? D = some q := let ⟨q, _, _, hq, _⟩ := dd'; ⟨q, hq⟩
    have I' := d_write (t' := s.toks + (nestedKind F.P F.w).draws q) I1 (by rw [e]; exact True.intro) hsb he (dx_ok (H' := upd H1 D (DX F.P F.w D (putX L (dfind kvs (.tup ts)).isSome q b z))) ft hL hs pl' dd')
    rw [hup] at I'
    exact h _ _ I' (nx _ (fun e x => .inr ⟨_, e, (put_X hq hd rk rp r2).ext x⟩) trivial)
end
section
variable {F : Fx} {X : Cx}
/-- {k: v for target in iter if ..}: D the new dict -/
def tDcT (F : Fx) (wi : TI) (g : TG) (tt : TT) (tk tv : TE) (vs : List Nat) : TE := fun σ H Q => wi σ H fun J H1 => ∀ D, H1 D = none → ∃ W : Nat → Nat → Hp → Prop, (∃ m, W 0 m (upd H1 D (.dK []))) ∧ ∀ i m H, W i m H →
  (J.stop i H ∧ Q (.ref D) H) ∨ (J.go i H ∧ ∃ Nx : Hp → Prop, (∀ H', Nx H' → ∃ m', m' < m ∧ W (i + 1) m' H') ∧ ∀ x H', J.yld i H x H' → g x (L2.wipe σ vs) H' fun σ2 H2 => L2.wipe σ2 vs = L2.wipe σ vs ∧ tt σ2 H2 fun b H3 =>
    if b = true then tk σ2 H3 fun y H4 => tv σ2 H4 fun z H5 => PutR F D y z H5 Nx else Nx H3)
theorem dcT_core {pins : List (Addr × Obj)} {s : Shared} {σ : L2.St} {H : Hp} {Q : VK} {kx vx tg iter : Expr} {ifs : List Expr} {scope : Scope} {own : List (Str × Nat)} {pos pos' : Pos} {wi : TI} {g : TG} {tt : TT} {tk tv : TE} {use : Option (Value → Sem Unit)} {Qf : Value → Shared → Prop}
    (ft : Fit F X) (hc : X.calm = true) (hN : X.N.Nodup) (I : Inv X pins σ H s) (hi : PI X tg iter wi) (ok : BlkOk X.N X.env.scope scope own)
    (hg : ∀ (s : Shared) (H : Hp) (C : Addr) (cl : List (Str × Addr)) (fp : List Addr), PG (X.blk s H scope (compEnvC scope cl C X.env) fp) tg g) (ht : ∀ (s : Shared) (H : Hp) (C : Addr) (cl : List (Str × Addr)) (fp : List Addr), PTs (X.blk s H scope (compEnvC scope cl C X.env) fp) ifs tt)
    (hk : ∀ (s : Shared) (H : Hp) (C : Addr) (cl : List (Str × Addr)) (fp : List Addr), PE (X.blk s H scope (compEnvC scope cl C X.env) fp) kx tk)
    (he : ∀ (s : Shared) (H : Hp) (C : Addr) (cl : List (Str × Addr)) (fp : List Addr), PE (X.blk s H scope (compEnvC scope cl C X.env) fp) vx tv) (hs : ∀ x, foldedSetIterable iter X.env x = pure x)
    (h : tDcT F wi g tt tk tv (own.map (·.2)) σ H Q)
    (hRR : ∀ D C s' m H', Inv X pins σ H' s' → Q (.ref D) H' → s'.heap.Ns C m → FpOk X pins H' C → compPost (model X.prog X.w) X.A X.xe use Qf (.ref D) C (.ok .next) s') :
    wpAny (model X.prog X.w) X.A (comprehension (.DictComp kx vx [⟨tg, iter, ifs, 0⟩] scope pos) scope X.env pos' newDict false (eval iter X.env) use) Qf X.xe s := by
  have hfree : ∀ y ∈ scope.names, y.2 = .free → ∃ c, X.env.cells.lookup y.1 = some c := fun y hy e => by
    rcases ok.free y hy e with k | k
    · exact I.ok.has _ (.inl k)
    · exact I.ok.has _ (.inr k)
  refine wpAny_comprehension_free (use := use) rfl hs (closure_ok hfree) ok.kind (fun y hy e => by rw [ok.uniq y hy, e])
    (thn (hi.run pins s σ H _ I h) fun xv s1 hx => thn hx fun itv s2 h2 => ?_)
  obtain ⟨it, fp, tn, J, H2, e, I2, T, st2, f2, q⟩ := h2
  subst e
  refine wpAny_newObj_type (newEnv_comp ?_)
  generalize hD : s2.heap.objs.size = D
  have hDn : H2 D = none := I2.hok.fresh (Nat.le_of_eq hD)
  obtain ⟨W, ⟨m0, w0⟩, turn⟩ := q D hDn
  -- the new list
  generalize hs3 : ({ s2 with heap := s2.heap.push { cls := .type "dict", data := .dict #[] } } : Shared) = s3
  have I3 : Inv X pins σ (upd H2 D (.dK [])) s3 := by
    rw [← hs3]
    refine I2.laid (t' := s2.toks) (fun b o e => Heap.get?_push_of_some _ e) (Nat.le_of_eq hD) ?_
    rw [← hD]
    exact dk_empty s2.heap I2.big
  have h3 : s3.heap = s2.heap.push { cls := .type "dict", data := .dict #[] } := by rw [← hs3]
  have sz : ∀ b ∈ fp, b < s2.heap.objs.size := fun b hb => by
    obtain ⟨o, e, _⟩ := T.obj _ _ st2 b hb
    exact Heap.lt_size e
  have f3 : ∀ b ∈ fp, FpOk X pins (upd H2 D (.dK [])) b ∧ b < s3.heap.objs.size := fun b hb => by
    have hlt := sz b hb
    refine ⟨⟨?_, (f2 b hb).2⟩, by rw [h3, Heap.size_push]; exact Nat.lt_succ_of_lt hlt⟩
    rw [upd_ne (by rw [← hD]; exact Nat.ne_of_lt hlt)]
    exact (f2 b hb).1
  have st3 : tn 0 s3.heap := T.keep _ _ _ st2 fun b _ o e => by rw [h3]; exact Heap.get?_push_of_some _ e
  have I4 := block_start I3 ok hN f3
  have pg := hg s3 (upd H2 D (.dK [])) s3.heap.objs.size (cellsFrom (s3.heap.objs.size + 1) scope.names (cloFrom X.env.cells scope.names [])) fp
  have pt := ht s3 (upd H2 D (.dK [])) s3.heap.objs.size (cellsFrom (s3.heap.objs.size + 1) scope.names (cloFrom X.env.cells scope.names [])) fp
  have pk := hk s3 (upd H2 D (.dK [])) s3.heap.objs.size (cellsFrom (s3.heap.objs.size + 1) scope.names (cloFrom X.env.cells scope.names [])) fp
  have pe := he s3 (upd H2 D (.dK [])) s3.heap.objs.size (cellsFrom (s3.heap.objs.size + 1) scope.names (cloFrom X.env.cells scope.names [])) fp
  show codeAny _ _ (.compStart (.DictComp kx vx [⟨tg, iter, ifs, 0⟩] scope pos) 0 (.ref it) (.ref D) (compEnvC scope (cellsFrom (s3.heap.objs.size + 1) scope.names (cloFrom X.env.cells scope.names [])) s3.heap.objs.size X.env)) (compPost (model X.prog X.w) X.A X.xe use Qf (.ref D) s3.heap.objs.size) { s3 with heap := pushCells (s3.heap.push { cls := .type "dict", data := .dict #[] }) scope.names }
  have nfp : ∀ b ∈ fp, (upd H2 D (.dK [])) b = none := fun b hb => (f3 b hb).1.1
  generalize hce : compEnvC scope (cellsFrom (s3.heap.objs.size + 1) scope.names (cloFrom X.env.cells scope.names [])) s3.heap.objs.size X.env = ce at I4 pg pt pk pe ⊢
  have cL : ce.locals = s3.heap.objs.size := by subst hce; rfl
  generalize hH3 : upd H2 D (.dK []) = H3 at I3 I4 pg pt pk pe w0 nfp f3
  generalize hs4 : ({ s3 with heap := pushCells (s3.heap.push { cls := .type "dict", data := .dict #[] }) scope.names } : Shared) = s4 at I4 ⊢
  have st4 : tn 0 s4.heap := T.keep _ _ _ st3 fun b _ o e => by rw [← hs4]; exact pushCells_keeps _ _ _ _ (Heap.get?_push_of_some _ e)
  have stat : ∀ {σ' : L2.St} {H' : Hp} {s' : Shared}, Inv (X.blk s3 H3 scope ce fp) [] σ' H' s' → (∀ b ∈ fp, H' b = none) → ∀ b ∈ fp, FpOk (X.blk s3 H3 scope ce fp) [] H' b := fun {σ' H' s'} I' hn b hb =>
    ⟨hn b hb, (I'.ok.exf b hb).1, I'.ok.exfs b hb, .inl hb, fun x c e => (I'.ok.exf b hb).2 x c e, fun p hp => absurd (show p ∈ ([] : List (Addr × Obj)) ++ [] from hp) (by simp)⟩
  have loop : codeAny (model X.prog X.w) X.A (.compLoop (.DictComp kx vx [⟨tg, iter, ifs, 0⟩] scope pos) 0 (.ref it) (.ref D) ce) (compPost (model X.prog X.w) X.A X.xe use Qf (.ref D) s3.heap.objs.size) s4 := by
    refine compLoop_anyD (fun n s' => ∃ i H', Inv (X.blk s3 H3 scope ce fp) [] (L2.wipe σ (own.map (·.2))) H' s' ∧ tn i s'.heap ∧ (∀ b ∈ fp, H' b = none) ∧ W i n H') ?_ m0 ⟨0, H3, I4, st4, nfp, w0⟩
    rintro n s5 ⟨i, H5, I5, st5, n5, w5⟩
    rcases turn i n H5 w5 with ⟨stop, qq⟩ | ⟨go, Nx, hNx, step⟩
    · have td := T.done (X.blk s3 H3 scope ce fp) rfl rfl rfl hc i [] s5 _ H5 (fun _ _ => False) I5 (stat I5 n5) st5 stop
      refine thnF td fun r s6 ⟨hr, I6⟩ => ?_
      subst hr
      -- back in the def's context
      have I7 : Inv X pins σ H5 s6 := I3.call' (ch := fp) I6.os I6.base I6.hok I6.bare fun b hb => ⟨(f3 b hb).1.2.2.2.1, (f3 b hb).1.2.1, (f3 b hb).1.2.2.2.2.1, (f3 b hb).1.2.2.2.2.2⟩
      have nC : H5 s3.heap.objs.size = none := by
        have z : H5 ce.locals = none := I6.free
        rw [cL] at z
        exact z
      obtain ⟨m, hn, _⟩ := I6.loc
      have hn : s6.heap.Ns ce.locals m := hn
      rw [cL] at hn
      exact hRR D s3.heap.objs.size s6 m H5 I7 qq hn (I3.fpOk (Nat.le_refl _) nC)
    · have ti := T.item (X.blk s3 H3 scope ce fp) rfl rfl rfl hc i [] s5 _ H5 (fun _ _ => False) I5 (stat I5 n5) st5 go
      refine thnF ti fun r s6 ⟨u, hr, h6⟩ => ?_
      subst hr
      refine thnF h6 fun _ s7 ⟨x, H7, I7, r7, y7, st7, n7⟩ => ?_
      have I7' := I7.pinned (stat I7 n7) (T.obj _ _ st7)
      refine thnF (pg.run _ s7 _ H7 x u _ I7' r7 (step x H7 y7)) fun _ s8 ⟨σ8, H8, I8, hw8, q8⟩ => ?_
      refine thnF (pt.run _ s8 σ8 H8 _ I8 q8) fun b s9 ⟨H9, I9, q9⟩ => ?_
      -- the turn's end
      have fin : ∀ {s' : Shared} {H' : Hp}, Inv (X.blk s3 H3 scope ce fp) ([] ++ pinsAt fp s7.heap) σ8 H' s' → Nx H' → ∃ m, m < n ∧ ∃ i H', Inv (X.blk s3 H3 scope ce fp) [] (L2.wipe σ (own.map (·.2))) H' s' ∧ tn i s'.heap ∧ (∀ b ∈ fp, H' b = none) ∧ W i m H' := fun {s' H'} I' nx => by
        obtain ⟨m', hm, w'⟩ := hNx H' nx
        have pin' : ∀ b ∈ fp, ∀ o, s7.heap.get? b = some o → s'.heap.get? b = some o ∧ H' b = none := fun b hb o e =>
          let z := I'.pin (b, o) (List.mem_append_right _ (List.mem_append_right _ (mem_pinsAt hb e)))
          ⟨z.1, z.2.1⟩
        have hl : (L2.wipe σ (own.map (·.2))).length = σ8.length := by rw [← hw8, L2.wipe_length]
        refine ⟨m', hm, i + 1, H', (I'.unpinned (pins := [])).weak hl (fun j v e => ?_), T.keep _ _ _ st7 fun b hb o e => (pin' b hb o e).1, fun b hb => ?_, w'⟩
        · rw [← hw8] at e
          exact (L2.wipe_some e).1
        · obtain ⟨o, e, _⟩ := T.obj _ _ st7 b hb
          exact (pin' b hb o e).2
      cases b with
      | false =>
        simp only [Bool.false_eq_true, if_false] at q9 ⊢
        exact fin I9 q9
      | true =>
        simp only [if_true] at q9 ⊢
        refine thnF (pk.run _ s9 σ8 H9 _ I9 q9) fun z s10 ⟨yk, H10, I10, r10, q10⟩ => ?_
        refine thnF (pe.run _ s10 σ8 H10 _ I10 q10) fun z2 s11 ⟨yv, H11, I11, r11, pr⟩ => ?_
        exact putR_ok (fit_blk ft) I11 r10 r11 pr fun s12 H12 I12 nx => fin I12 nx
  exact codeAny_compStart_dict loop (T.self X.A 0 _ _ _ st4 loop)
/-- as a value -/
theorem pe_dcT {kx vx tg iter : Expr} {ifs : List Expr} {scope : Scope} {own : List (Str × Nat)} {pos : Pos} {wi : TI} {g : TG} {tt : TT} {tk tv : TE} (ft : Fit F X) (hc : X.calm = true) (hN : X.N.Nodup) (hi : PI X tg iter wi) (ok : BlkOk X.N X.env.scope scope own)
    (hg : ∀ (s : Shared) (H : Hp) (C : Addr) (cl : List (Str × Addr)) (fp : List Addr), PG (X.blk s H scope (compEnvC scope cl C X.env) fp) tg g) (ht : ∀ (s : Shared) (H : Hp) (C : Addr) (cl : List (Str × Addr)) (fp : List Addr), PTs (X.blk s H scope (compEnvC scope cl C X.env) fp) ifs tt)
    (hk : ∀ (s : Shared) (H : Hp) (C : Addr) (cl : List (Str × Addr)) (fp : List Addr), PE (X.blk s H scope (compEnvC scope cl C X.env) fp) kx tk)
    (he : ∀ (s : Shared) (H : Hp) (C : Addr) (cl : List (Str × Addr)) (fp : List Addr), PE (X.blk s H scope (compEnvC scope cl C X.env) fp) vx tv) (hs : ∀ x, foldedSetIterable iter X.env x = pure x := by intro _; rfl) :
    PE X (.DictComp kx vx [⟨tg, iter, ifs, 0⟩] scope pos) (tDcT F wi g tt tk tv (own.map (·.2))) := by
  refine ⟨fun pins s σ H Q I h => ?_⟩
  rw [arm_eval_DictComp]
  refine dcT_core ft hc hN I hi ok hg ht hk he hs h fun D C s' m H' I' q hn f => ⟨m, hn, fun h'' sb => ?_⟩
  obtain ⟨f0, f1, f2, f3, f4, f5⟩ := f
  exact ⟨.ref D, H', I'.turned (t' := s'.toks) (fun b o hb e => (sb.2 b hb).trans e) f0 f1 f3 f4 f5, rfl, q⟩
end
end Mw
end
section
set_option Elab.async false
set_option linter.all false
set_option maxRecDepth 100000
set_option maxHeartbeats 2000000
/-! Mw13c: dict displays, comprehensions of sets and dicts, what is listed. -/
namespace Mw
open PySem PySem.Spec PyProof.Rows L2

section
variable {F : Fx} {X : Cx} {μ μ' : Zn} {H H' : Hp} {α α' : AH} {ρ : Loc'} {σ : L2.St} {Q : VK} {D : Addr}

/-! ### {k: v, ..} -/
/-- the pairs are laid one after the other -/
theorem store_all (ft : Fit F X) {pins : List (Addr × Obj)} {E : Value → Shared → Prop} {Q : PUnit → Shared → Prop} (hD : D ∈ μ.off) : ∀ {kvs : List (PV × PV)} {pvs : List (V × V)} {vs : List (Value × Value)} {acc : List (PV × PV)} {s : Shared} {H : Hp} {x0 : HO}, RepPs F μ H kvs pvs → VV pvs vs →
    OR F μ H D (.dct acc) → H D = some x0 → Mv x0 → putsOk acc kvs = true → Rel F μ α H → Inv X pins σ H s →
    (∀ s' H', Inv X pins σ H' s' → Ext F μ H μ H' → (∀ a, a ≠ D → H' a = H a) → Rel F μ α H' → OR F μ H' D (.dct (kvs.foldl (fun acc e => dput acc e.1 e.2) acc)) → Q PUnit.unit s') →
    wpAny (model X.prog X.w) X.A (forIn vs PUnit.unit fun (x : Value × Value) (_ : PUnit) => (do dictSet D x.1 x.2; pure (ForInStep.yield PUnit.unit) : Sem (ForInStep PUnit))) Q E s := by
  intro kvs
  induction kvs with
  | nil =>
    intro pvs vs acc s H x0 r v o hx hm hk rel I h
    cases r; cases v
    rw [List.forIn_nil]
    exact wpAny_pure (h s H I (.refl F μ H) (fun _ _ => rfl) rel o)
  | cons e kvs ih =>
    intro pvs vs acc s H x0 r v o hx hm hk rel I h
    cases r with
    | @cons k0 p0 x0' y0 _ _ a b c =>
      cases v with
      | @cons p q as bs r1 r2 =>
        rw [List.forIn_cons]
        simp only [putsOk, Bool.and_eq_true] at hk
        obtain ⟨⟨k1, k2⟩, k3⟩ := hk
        refine wpAny_bind (wpAny_bind ?_)
        refine putR_ok ft I r1.1 r1.2 (Nx := fun H' => Ext F μ H μ H' ∧ (∀ a, a ≠ D → H' a = H a) ∧ Rel F μ α H' ∧ OR F μ H' D (.dct (dput acc k0 p0)) ∧ ∃ x1, H' D = some x1 ∧ Mv x1) ⟨μ, acc, _, _, o, k1, of_decide_eq_true k2, a, b, fun o' ho' mo => ?_⟩ fun s1 H1 I1 ⟨x1, kp, rel1, o1, x1', e1, m1⟩ => ?_
        · obtain ⟨x1, rel1⟩ := off_step (x1 := o') rel hD hx hm
          exact ⟨x1, fun a ha => upd_ne ha, rel1, ho' upd_same x1, o', upd_same, mo⟩
        · refine wpAny_pure (ih (c.ext x1) r2 o1 e1 m1 k3 rel1 I1 fun s2 H2 I2 x2 kp2 rel2 o2 => ?_)
          exact h s2 H2 I2 (x1.trans x2) (fun a ha => (kp2 a ha).trans (kp a ha)) rel2 o2
variable {pos : Pos}
theorem k_disp (ft : Fit F X) {keys : List (Option Expr)} {values : List Expr} {mps : Loc' → AH → Res (List (PV × PV))} (h : KP F X pos keys values mps) (hall : keys.all (·.isSome) = true) (hl : keys.length = values.length) (h0 : keys ≠ []) (h15 : keys.length ≤ 15) :
    PE X (.Dict keys values pos) (tN F fun ρ α => (mps ρ α).bind fun kvs α => need (putsOk [] kvs && decide (kvs.length ≤ 15)) (.ok (.fd (dictOf kvs)) α)) := by
  obtain ⟨trs, h1, h2⟩ := h.run
  refine ⟨fun pins s σ H Q I ⟨μ, ρ, α, rel, env, h⟩ => ?_⟩
  have hn := I.hok.fresh (Nat.le_refl s.heap.objs.size)
  generalize hp : s.heap.objs.size = p at hn
  have I1 : Inv X pins σ (upd H p (.dK [])) { s with heap := s.heap.push { cls := .type "dict", data := .dict #[] } } := by
    rw [← hp]
    exact I.laid (a := s.heap.objs.size) (o := .dK []) (h' := s.heap.push { cls := .type "dict", data := .dict #[] }) (t' := s.toks) (fun _ _ q => Heap.get?_push_of_some _ q) (Nat.le_refl _) (dk_empty s.heap I.big)
  obtain ⟨l, r'⟩ := new_step rel (o := .dK []) hn
  obtain ⟨x, r2⟩ := by1 rel (o := .dK []) hn
  have hpl := pairTrees_length keys values X.env pos hall hl
  have hpn : pairTrees keys values X.env pos ≠ [] := fun he => by
    rw [he] at hpl
    exact h0 (List.eq_nil_of_length_eq_zero hpl.symm)
  rw [arm_eval_Dict, zip_pairTrees keys values X.env pos hall hl, dictDisplay_pairs _ hpn (by rw [hpl]; omega)]
  refine wpAny_bind (wpAny_standAt (wpAny_bind ?_))
  unfold subDict
  refine wpAny_bind (wpAny_alloc ?_)
  refine wpAny_bind (wpAny_holding ?_)
  rw [if_pos (by rw [hpl]; exact h15)]
  have rd : tR F (RepPs F) mps σ (upd H p (.dK [])) (fun ps H3 => ∃ kvs μ1 α1, RepPs F μ1 H3 kvs ps ∧ Rel F μ1 α1 H3 ∧ Le F ⟨μ.on, p :: μ.off⟩ (upd H p (.dK [])) μ1 H3 ∧ PostN F μ H (need (putsOk [] kvs && decide (kvs.length ≤ 15)) (.ok (.fd (dictOf kvs)) α1)) Q) := by
    refine ⟨⟨μ.on, p :: μ.off⟩, ρ, α, r2, env.ext x, ?_⟩
    dsimp only at h
    cases hm : mps ρ α with
    | err c xs a => rw [hm] at h; exact h
    | bad => rw [hm] at h; exact h
    | ok kvs α1 => rw [hm] at h; exact fun μ1 H1 ps l1 r1 rp => ⟨kvs, μ1, α1, rp, r1, l1, h⟩
  rw [hp]
  refine wpAny_bind (thn (h1.run pins _ σ _ _ I1 (h2 _ _ _ rd)) fun vs s2 ⟨ps, H2, I2, rel2, kvs, μ1, α1, rp, r1, l1, hq⟩ => ?_)
  obtain ⟨hc, hq⟩ := need_ok hq
  rw [Bool.and_eq_true] at hc
  have hpon : p ∉ μ.on := fresh_non rel hn
  have hoff : μ1.off = p :: μ.off := l1.off
  obtain ⟨hH1, hpon1⟩ : H2 p = some (.dK []) ∧ p ∉ μ1.on := ⟨(l1.fr p _ hpon upd_same).2, (l1.fr p _ hpon upd_same).1⟩
  have hpm : p ∈ μ1.off := by rw [hoff]; exact List.mem_cons_self
  refine wpAny_holding ?_
  refine wpAny_bind (store_all ft hpm rp rel2 (.inl ⟨[], hH1, .nil⟩) hH1 trivial hc.1 r1 I2 fun s3 H3 I3 x3 kp3 r3 o3 => ?_)
  have hl3 : Le F μ H ⟨μ1.on, μ.off⟩ H3 := by
    have l2 : Le F μ H ⟨μ1.on, μ.off⟩ H2 := le_unby (ν := ⟨μ.on, p :: μ.off⟩) l l1
    have kk : ∀ a y, H a = some y → ∀ {z}, H2 a = z → H3 a = z := fun a y e z e2 => by rw [kp3 a (ne_of_none e hn)]; exact e2
    exact ⟨⟨l2.ext.pre, fun a vs e => kk _ _ e (l2.ext.tup a vs e), fun a o vs e => kk _ _ e (l2.ext.scr a o vs e), fun a o n e => ⟨(l2.ext.no a o n e).1, kk _ _ e (l2.ext.no a o n e).2⟩⟩, l2.off, fun a o n e => ⟨(l2.fr a o n e).1, kk _ _ e (l2.fr a o n e).2⟩, fun a o u e => kk _ _ e (l2.fz a o u e)⟩
  obtain ⟨on1, off1⟩ := μ1
  dsimp only at hoff
  subst hoff
  refine wpAny_pure (wpAny_pure (wpAny_pure ?_))
  refine ⟨.ref p, H3, I3, rfl, ?_⟩
  exact hq ⟨on1, μ.off⟩ H3 (.ref p) hl3 (Rel.fewer (off := p :: μ.off) (fun _ h => List.mem_cons_of_mem _ h) r3) ⟨p, rfl, hn, hpon1, fresh_noff rel hn, r3, o3⟩
/-! ### what a comprehension gathers -/
theorem setOf_snoc (ys : List PV) (y : PV) : setOf (ys ++ [y]) = addK (setOf ys) y := by simp [setOf, List.foldl_append]
theorem addK_len (xs : List PV) (p : PV) : xs.length ≤ (addK xs p).length := by
  unfold addK
  split <;> simp
theorem fold_len : ∀ (zs xs : List PV), xs.length ≤ (zs.foldl addK xs).length
  | [], xs => Nat.le_refl _
  | z :: zs, xs => Nat.le_trans (addK_len xs z) (fold_len zs (addK xs z))
theorem setOk_mid {ys zs : List PV} {y : PV} (h : setOk (ys ++ y :: zs) = true) : kmode y = some true ∧ (addK (setOf ys) y).length < 64 := by
  unfold setOk at h
  rw [Bool.and_eq_true, List.all_eq_true] at h
  obtain ⟨h1, h2⟩ := h
  refine ⟨by simpa using h1 y (by simp), ?_⟩
  have e : setOf (ys ++ y :: zs) = zs.foldl addK (addK (setOf ys) y) := by simp [setOf, List.foldl_append]
  rw [e] at h2
  exact Nat.lt_of_le_of_lt (fold_len zs _) (of_decide_eq_true h2)
theorem memK_iff {y : PV} {q : NestedKey} (hq : nkOf y = some q) : ∀ {xs : List PV} {M : List (Addr × NestedKey)}, RepS F μ H xs M → (memK xs y = true ↔ q ∈ M.map (·.2))
  | _, _, .nil => by simp [memK]
  | _, _, .cons (ks := ks) (q := q') (ps := ps) (vs := vs) e d a b => by
    have ih := memK_iff hq b
    unfold memK at ih ⊢
    rw [List.any_cons, Bool.or_eq_true, List.map_cons, List.mem_cons, ih]
    unfold sameK
    rw [decide_eq_true_eq, e, hq]
    constructor
    · rintro (h | h)
      · injection h with h; exact .inl h.symm
      · exact .inr h
    · rintro (h | h)
      · exact .inl (by rw [h])
      · exact .inr h
theorem repS_snoc {ks : List PV} {q : NestedKey} {b : Addr} (e : nkOf (.tup ks) = some q) (d : q.depth ≤ 8) (r : Rep F μ H (.tup ks) (.ref b)) : ∀ {xs : List PV} {M : List (Addr × NestedKey)}, RepS F μ H xs M → RepS F μ H (xs ++ [.tup ks]) (M ++ [(b, q)])
  | _, _, .nil => .cons e d r .nil
  | _, _, .cons e' d' a' b' => .cons e' d' a' (repS_snoc e d r b')
theorem repS_mem {p : Addr × NestedKey} : ∀ {xs : List PV} {M : List (Addr × NestedKey)}, RepS F μ H xs M → p ∈ M → MemR F H p.1 p.2
  | _, _, .nil, h => by cases h
  | _, _, .cons e d a b, h => by
    rcases List.mem_cons.mp h with z | h
    · subst z; exact ⟨_, _, a, e, d⟩
    · exact repS_mem b h
/-- the new set at D, put by, with what it has got -/
structure SetSt (F : Fx) (D : Addr) (μ1 : Zn) (HJ : Hp) (ν : Zn) (α : AH) (ys : List PV) (H : Hp) : Prop where
  off : ν.off = D :: μ1.off
  le : Le F μ1 HJ ⟨ν.on, μ1.off⟩ H
  rel : Rel F ν α H
  ob : ∃ L M, H D = some (SX F.w D L) ∧ L.Perm M ∧ RepS F ν H (setOf ys) M
section
variable {μ1 ν ν' : Zn} {HJ : Hp} {ys zs : List PV}
theorem SetSt.on (S : SetSt F D μ1 HJ ν α ys H) : D ∈ ν.off ∧ D ∉ ν.on := by
  have h : D ∈ ν.off := by rw [S.off]; exact List.mem_cons_self
  exact ⟨h, (S.rel.offs D h).1⟩
theorem SetSt.step (S : SetSt F D μ1 HJ ν α ys H) (l : Le F ν H ν' H') (r : Rel F ν' α' H') : SetSt F D μ1 HJ ν' α' ys H' := by
  obtain ⟨L, M, e, pm, rs⟩ := S.ob
  obtain ⟨on, off⟩ := ν
  have ho := S.off
  dsimp only at ho
  subst ho
  refine ⟨l.off, le_unby S.le l, r, L, M, (l.fr D _ S.on.2 e).2, pm, rs.ext l.ext⟩
theorem SetSt.add (S : SetSt F D μ1 HJ ν α ys H) (h0 : HJ D = none) {y : PV} {v : V} (rv : Rep F ν H y v) (ok : setOk (ys ++ y :: zs) = true) {Nx : Hp → Prop} (h : ∀ H', SetSt F D μ1 HJ ν α (ys ++ [y]) H' → Ext F ν H ν H' → Kz H H' → Nx H') : AddR F D v H Nx := by
  obtain ⟨L, M, e, pm, rs⟩ := S.ob
  obtain ⟨k1, k2⟩ := setOk_mid ok
  obtain ⟨ks, q, rfl, hq, hd⟩ := kmode_true k1
  obtain ⟨b, rfl⟩ := rep_ref rv
  have mm := memK_iff hq rs
  have pq : (L.map (·.2)).Perm (M.map (·.2)) := pm.map (·.2)
  refine ⟨b, q, L, rfl, ⟨ν, ks, rv, hq, hd⟩, e, fun p hp => repS_mem rs (pm.mem_iff.mp hp), fun hn => ?_, fun L' c1 c2 => ?_⟩
  · have : memK (setOf ys) (.tup ks) = false := by
      cases hm : memK (setOf ys) (.tup ks) with
      | false => rfl
      | true => exact absurd (pq.mem_iff.mpr (mm.mp hm)) hn
    unfold addK at k2
    rw [this] at k2
    simp only [Bool.false_eq_true, if_false, List.length_append, List.length_cons, List.length_nil] at k2
    have := repS_len rs
    have := pm.length_eq
    omega
  · obtain ⟨x1, rel1⟩ := off_step (x1 := SX F.w D L') S.rel S.on.1 e trivial
    refine h _ ⟨S.off, le_new S.le h0, rel1, L', ?_⟩ x1 fun a o u hf => by rw [upd_ne (fun z => by rw [z, e] at hf; cases hf)]; exact hf
    rw [setOf_snoc]
    unfold addK
    cases hm : memK (setOf ys) (.tup ks) with
    | true =>
      rw [if_pos rfl]
      have := c1 (pq.mem_iff.mpr (mm.mp hm))
      subst this
      exact ⟨M, upd_same, pm, rs.ext x1⟩
    | false =>
      rw [if_neg Bool.false_ne_true]
      have hn : q ∉ L.map (·.2) := fun hx => by
        have := mm.mpr (pq.mem_iff.mp hx)
        rw [hm] at this; cases this
      refine ⟨M ++ [(b, q)], upd_same, (c2 hn).trans ?_, (repS_snoc hq hd rv rs).ext x1⟩
      exact (pm.cons _).trans (List.perm_append_singleton _ _).symm
theorem SetSt.new {α1 : AH} (rel : Rel F μ1 α1 HJ) (hD : HJ D = none) : SetSt F D μ1 HJ ⟨μ1.on, D :: μ1.off⟩ α1 [] (upd HJ D (SX F.w D [])) := by
  obtain ⟨l0, _⟩ := new_step rel (o := SX F.w D []) hD
  obtain ⟨x0, r0⟩ := by1 rel (o := SX F.w D []) hD
  exact ⟨rfl, l0, r0, [], [], upd_same, .refl _, .nil⟩
end
def scompD (mi : Loc' → AH → Res Src) (mt : PV → Loc' → AH → Res Loc') (mc : Loc' → AH → Res Bool) (me : Den) (own : List Nat) : Den := fun ρ α => (mi ρ α).bind fun s α =>
  (turns s.still (compStep mt mc me (wipeP ρ own)) s.items (s.lock α)).bind fun ys α => need (setOk ys) (s.done (.fs (setOf ys)) α)
/-- the set is handed back -/
theorem set_end {s : Src} {J : L2.It} {μ1 ν : Zn} {H1 HJ H2 : Hp} {α1 α2 : AH} {ys : List PV} (B : Begun F X μ1 H1 α1 s J HJ) (S : SetSt F D μ1 HJ ν α2 ys H2) (hD1 : H1 D = none) (hDoff : D ∉ μ1.off) (h : PostN F μ1 H1 (need (setOk ys) (s.done (.fs (setOf ys)) α2)) Q) : Unl X H2 (Q (.ref D)) := by
  obtain ⟨on, off⟩ := ν
  have ho := S.off
  dsimp only at ho
  subst ho
  obtain ⟨L, M, e, pm, rs⟩ := S.ob
  obtain ⟨hz, h⟩ := need_ok h
  have l2 := S.le
  have lt := B.le.trans l2
  rcases B.done (PV.fs (setOf ys)) ⟨on, μ1.off⟩ (D :: μ1.off) H2 α2 _ lt l2.fz S.rel rfl with q | ⟨α3, q, w⟩
  · rw [q] at h; exact h.elim
  · rw [q] at h
    refine w (Q (.ref D)) fun H3 la ra xa ka => ?_
    have r3 : Rel F ⟨on, μ1.off⟩ α3 H3 := Rel.fewer (off := D :: μ1.off) (fun _ h => List.mem_cons_of_mem _ h) ra
    refine h ⟨on, μ1.off⟩ H3 (.ref D) la r3 ?_
    show Rep F ⟨on, μ1.off⟩ H3 (.fs (setOf ys)) (.ref D)
    exact .fs ⟨S.on.2, hDoff⟩ ((ka D S.on.2).trans e) pm ((rs.ext xa).ext fewer1)
theorem scomp_read {mi : Loc' → AH → Res Src} {mt : PV → Loc' → AH → Res Loc'} {mc : Loc' → AH → Res Bool} {me : Den} {own vs : List Nat} (hsub : ∀ j ∈ vs, j ∈ own) (h : tN F (scompD mi mt mc me own) σ H Q) :
    tScT F (tI F X mi) (tG F mt vs) (tB' F mc) (tE F me) own σ H (fun v H' => Unl X H' (Q v)) := by
  obtain ⟨μ, ρ, α, rel, env, h⟩ := h
  refine ⟨μ, ρ, α, (At.bindN (R1 := SrcL F X) rel env h).imp fun JH H1 ⟨s, μ1, α1, l, sl, rel1, env1, h1⟩ => ?_⟩
  have B := begun rel1 sl
  obtain ⟨J, HJ⟩ := JH
  dsimp only at B ⊢
  intro D hD
  have hD1 : H1 D = none := none_back B.rel B.le hD
  have hDoff : D ∉ μ1.off := fresh_noff B.rel hD
  let step : PV → AH → Res (Option PV) := compStep mt mc me (wipeP ρ own)
  let W : Nat → Nat → Hp → Prop := fun i m H2 => m = s.items.length - i ∧ i ≤ s.items.length ∧ ∃ (ν : Zn) (α2 : AH) (ys : List PV), SetSt F D μ1 HJ ν α2 ys H2 ∧
    EnvR F ν H2 (wipeP ρ own) (L2.wipe σ own) ∧ PostN F μ1 H1 ((turns s.still step (s.items.drop i) α2).bind fun zs α => need (setOk (ys ++ zs)) (s.done (.fs (setOf (ys ++ zs))) α)) Q
  obtain ⟨x0, _⟩ := by1 B.rel (o := SX F.w D []) hD
  refine ⟨W, ⟨_, rfl, Nat.zero_le _, _, s.lock α1, [], SetSt.new B.rel hD, env_wipe ((env1.le B.le).ext x0) own, by simpa using h1⟩, ?_⟩
  rintro i m H2 ⟨hm, hil, ν, α2, ys, S, e2, h2⟩
  have xJ : Ext F μ1 HJ ν H2 := by
    obtain ⟨on, off⟩ := ν
    have ho := S.off
    dsimp only at ho
    subst ho
    exact S.le.by hD rfl
  rcases Nat.lt_or_ge i s.items.length with hlt | hge
  · have hd : s.items.drop i = s.items[i] :: s.items.drop (i + 1) := (List.getElem_cons_drop hlt).symm
    rw [hd, turns_cons] at h2
    obtain ⟨hst, h2⟩ := need_N h2
    obtain ⟨g1, g2⟩ := B.walk.go _ H2 α2 xJ S.le.fz S.rel hst i _ (List.getElem?_eq_getElem hlt)
    refine .inr ⟨g1, W (i + 1) (s.items.length - (i + 1)), fun H' w => ⟨_, by omega, w⟩, fun x H3 hy => ?_⟩
    obtain ⟨μ3, l3, r3, rp⟩ := g2 x H3 hy
    refine ⟨μ3, wipeP ρ own, α2, _, r3, e2.le l3, rp, ?_⟩
    simp only [step, compStep, bind_assoc] at h2
    cases hm' : mt s.items[i] (wipeP ρ own) α2 with
    | err c xs a => rw [hm'] at h2; exact h2
    | bad => rw [hm'] at h2; exact h2
    | ok ρ4 α4 =>
      rw [hm'] at h2
      intro μ4 H4 σ4 l4 r4 e4 sm
      refine ⟨wipe_same hsub sm, μ4, ρ4, α4, r4, e4, ?_⟩
      simp only [Res.ok_bind] at h2
      have l24 := l3.trans l4
      have next : ∀ (o : Option PV) (α5 : AH) (μ5 : Zn) (H5 : Hp), PostN F μ1 H1 ((turns s.still step (s.items.drop (i + 1)) α5).bind fun zs α => need (setOk ((ys ++ consO o []) ++ zs)) (s.done (.fs (setOf ((ys ++ consO o []) ++ zs))) α)) Q →
          SetSt F D μ1 HJ μ5 α5 (ys ++ consO o []) H5 → EnvR F μ5 H5 (wipeP ρ own) (L2.wipe σ own) → W (i + 1) (s.items.length - (i + 1)) H5 :=
        fun o α5 μ5 H5 h5 S5 e5 => ⟨rfl, hlt, μ5, α5, _, S5, e5, h5⟩
      cases hc : mc ρ4 α4 with
      | err c xs a => rw [hc] at h2; exact h2
      | bad => rw [hc] at h2; exact h2
      | ok k α5 =>
        rw [hc] at h2
        intro μ5 H5 k' l5 r5 ek
        subst ek
        simp only [Res.ok_bind] at h2
        have l25 := l24.trans l5
        cases k with
        | false =>
          rw [if_neg Bool.false_ne_true]
          refine next none α5 μ5 H5 ?_ (by simpa [consO] using S.step l25 r5) (e2.le l25)
          simpa [bind_assoc, consO, step] using h2
        | true =>
          rw [if_pos rfl]
          refine ⟨μ5, ρ4, α5, r5, (e4.le l5), ?_⟩
          cases he : me ρ4 α5 with
          | err c xs a => simp only [he, Res.err_bind] at h2; exact h2
          | bad => simp only [he, Res.bad_bind] at h2; exact h2
          | ok y α6 =>
            simp only [he, Res.ok_bind, bind_assoc] at h2
            intro μ6 H6 v l6 r6 ry
            have l26 := l25.trans l6
            have S6 := S.step l26 r6
            have hok : ∃ zs, setOk (ys ++ y :: zs) = true := by
              revert h2
              cases ht : turns s.still (compStep mt mc me (wipeP ρ own)) (s.items.drop (i + 1)) α6 with
              | err c xs a => exact fun h => h.elim
              | bad => exact fun h => h.elim
              | ok zs α7 =>
                intro h2
                simp only [Res.ok_bind, consO] at h2
                cases hz : setOk (ys ++ y :: zs) with
                | false => rw [hz] at h2; exact h2.elim
                | true => exact ⟨zs, hz⟩
            obtain ⟨zs, hok⟩ := hok
            refine S6.add hD ry hok fun H7 S7 x7 _ => next (some y) α6 μ6 H7 ?_ (by simpa [consO] using S7) ((e2.le l26).ext x7)
            simpa [consO, step, List.append_assoc] using h2
  · have hi' : i = s.items.length := by omega
    subst hi'
    rw [List.drop_length] at h2
    obtain ⟨hst, h2⟩ := need_N (r := Res.ok ([] : List PV) α2) h2
    refine .inl ⟨B.walk.stop _ H2 α2 xJ S.le.fz S.rel hst, ?_⟩
    simp only [Res.ok_bind, List.append_nil] at h2
    exact set_end B S hD1 hDoff h2
theorem k_scomp (ft : Fit F X) {elt tg iter : Expr} {ifs : List Expr} {scope : Scope} {own : List (Str × Nat)} {pos : Pos} {mi : Loc' → AH → Res Src} {mt : PV → Loc' → AH → Res Loc'} {mc : Loc' → AH → Res Bool} {me : Den} {vs : List Nat}
    (hi : PI X tg iter (tI F X mi)) (ok : BlkOk X.N X.env.scope scope own)
    (hg : ∀ (s : Shared) (H : Hp) (C : Addr) (cl : List (Str × Addr)) (fp : List Addr), PG (X.blk s H scope (compEnvC scope cl C X.env) fp) tg (tG F mt vs)) (ht : ∀ (s : Shared) (H : Hp) (C : Addr) (cl : List (Str × Addr)) (fp : List Addr), PTs (X.blk s H scope (compEnvC scope cl C X.env) fp) ifs (tB' F mc))
    (he : ∀ (s : Shared) (H : Hp) (C : Addr) (cl : List (Str × Addr)) (fp : List Addr), PE (X.blk s H scope (compEnvC scope cl C X.env) fp) elt (tE F me)) (hs : noSet iter = true) (hsub : ∀ j ∈ vs, j ∈ own.map (·.2)) :
    PE X (.SetComp elt [⟨tg, iter, ifs, 0⟩] scope pos) (tN F (scompD mi mt mc me (own.map (·.2)))) :=
  pe_imp (pe_unl (pe_scT ft ft.calm ft.nd hi ok hg ht he (folded_no hs))) fun σ H Q h => scomp_read hsub h
end
end Mw
end
section
set_option Elab.async false
set_option linter.all false
set_option maxRecDepth 100000
set_option maxHeartbeats 2000000
/-! Mw13d: dict comprehensions read by denotation; set comprehensions of two clauses. -/
namespace Mw
open PySem PySem.Spec PyProof.Rows L2

section
variable {F : Fx} {X : Cx} {μ μ' : Zn} {H H' : Hp} {α α' : AH} {ρ : Loc'} {σ : L2.St} {Q : VK} {D : Addr}
def compStepD (mt : PV → Loc' → AH → Res Loc') (mc : Loc' → AH → Res Bool) (mk me : Den) (ρw : Loc') (x : PV) (α : AH) : Res (Option (PV × PV)) := (mt x ρw α).bind fun ρ' α => (mc ρ' α).bind fun c α => match c with
  | true => (mk ρ' α).bind fun y α => (me ρ' α).bind fun z α => .ok (some (y, z)) α
  | false => .ok none α
def dcompD (mi : Loc' → AH → Res Src) (mt : PV → Loc' → AH → Res Loc') (mc : Loc' → AH → Res Bool) (mk me : Den) (own : List Nat) : Den := fun ρ α => (mi ρ α).bind fun s α =>
  (turnsD s.still (compStepD mt mc mk me (wipeP ρ own)) s.items (s.lock α)).bind fun ys α => need (putsOk [] ys) (s.done (.fd (dictOf ys)) α)
def consD (o : Option (PV × PV)) (ys : List (PV × PV)) : List (PV × PV) := match o with
  | some y => y :: ys
  | none => ys
theorem turnsD_cons (still : AH → Bool) (step : PV → AH → Res (Option (PV × PV))) (x : PV) (r : List PV) (α : AH) : turnsD still step (x :: r) α = need (still α) ((step x α).bind fun o α1 => (turnsD still step r α1).bind fun ys α2 => .ok (consD o ys) α2) := by
  show need _ _ = _
  congr 2
theorem dictOf_snoc (ys : List (PV × PV)) (y : PV × PV) : dictOf (ys ++ [y]) = dput (dictOf ys) y.1 y.2 := by simp [dictOf, List.foldl_append]
theorem puts_mid : ∀ {ys zs : List (PV × PV)} {y : PV × PV} {acc : List (PV × PV)}, putsOk acc (ys ++ y :: zs) = true → kok (ys.foldl (fun acc e => dput acc e.1 e.2) acc) y.1 = true ∧ (ys.foldl (fun acc e => dput acc e.1 e.2) acc).length < sizeLine
  | [], zs, y, acc, h => by
    simp only [List.nil_append, putsOk, Bool.and_eq_true] at h
    exact ⟨h.1.1, of_decide_eq_true h.1.2⟩
  | e :: ys, zs, y, acc, h => by
    simp only [List.cons_append, putsOk, Bool.and_eq_true] at h
    exact puts_mid (ys := ys) h.2
/-- the new dict at D, put by, with what it has got -/
structure DctSt (F : Fx) (D : Addr) (μ1 : Zn) (HJ : Hp) (ν : Zn) (α : AH) (ys : List (PV × PV)) (H : Hp) : Prop where
  off : ν.off = D :: μ1.off
  le : Le F μ1 HJ ⟨ν.on, μ1.off⟩ H
  rel : Rel F ν α H
  ob : OR F ν H D (.dct (dictOf ys))
section
variable {μ1 ν ν' : Zn} {HJ : Hp} {ys zs : List (PV × PV)}
theorem DctSt.on (S : DctSt F D μ1 HJ ν α ys H) : D ∈ ν.off ∧ D ∉ ν.on := by
  have h : D ∈ ν.off := by rw [S.off]; exact List.mem_cons_self
  exact ⟨h, (S.rel.offs D h).1⟩
theorem DctSt.step (S : DctSt F D μ1 HJ ν α ys H) (l : Le F ν H ν' H') (r : Rel F ν' α' H') : DctSt F D μ1 HJ ν' α' ys H' := by
  obtain ⟨x, e, _⟩ := S.ob.mv
  have k : H' D = H D := (l.fr D _ S.on.2 e).2.trans e.symm
  have o' := S.ob.le l S.rel k
  obtain ⟨on, off⟩ := ν
  have ho := S.off
  dsimp only at ho
  subst ho
  exact ⟨l.off, le_unby S.le l, r, o'⟩
theorem DctSt.add (S : DctSt F D μ1 HJ ν α ys H) (h0 : HJ D = none) {y z : PV} {v w : V} (rv : Rep F ν H y v) (rw' : Rep F ν H z w) (ok : putsOk [] (ys ++ (y, z) :: zs) = true) {Nx : Hp → Prop} (h : ∀ H', DctSt F D μ1 HJ ν α (ys ++ [(y, z)]) H' → Ext F ν H ν H' → Nx H') : PutR F D v w H Nx := by
  obtain ⟨x, e, m⟩ := S.ob.mv
  obtain ⟨k1, k2⟩ := puts_mid ok
  refine ⟨ν, dictOf ys, y, z, S.ob, k1, k2, rv, rw', fun o' ho' mo => ?_⟩
  obtain ⟨x1, rel1⟩ := off_step (x1 := o') S.rel S.on.1 e m
  exact h _ ⟨S.off, le_new S.le h0, rel1, by rw [dictOf_snoc]; exact ho' upd_same x1⟩ x1
theorem DctSt.new {α1 : AH} (rel : Rel F μ1 α1 HJ) (hD : HJ D = none) : DctSt F D μ1 HJ ⟨μ1.on, D :: μ1.off⟩ α1 [] (upd HJ D (.dK [])) := by
  obtain ⟨l0, _⟩ := new_step rel (o := .dK []) hD
  obtain ⟨x0, r0⟩ := by1 rel (o := .dK []) hD
  exact ⟨rfl, l0, r0, .inl ⟨[], upd_same, .nil⟩⟩
end
/-- the dict is handed back -/
theorem dct_end {s : Src} {J : L2.It} {μ1 ν : Zn} {H1 HJ H2 : Hp} {α1 α2 : AH} {ys : List (PV × PV)} (B : Begun F X μ1 H1 α1 s J HJ) (S : DctSt F D μ1 HJ ν α2 ys H2) (hD1 : H1 D = none) (hDoff : D ∉ μ1.off) (h : PostN F μ1 H1 (need (putsOk [] ys) (s.done (.fd (dictOf ys)) α2)) Q) : Unl X H2 (Q (.ref D)) := by
  have hx := S.ob.mv
  obtain ⟨x, e, _⟩ := hx
  obtain ⟨on, off⟩ := ν
  have ho := S.off
  dsimp only at ho
  subst ho
  obtain ⟨hz, h⟩ := need_ok h
  have l2 := S.le
  have lt := B.le.trans l2
  rcases B.done (PV.fd (dictOf ys)) ⟨on, μ1.off⟩ (D :: μ1.off) H2 α2 _ lt l2.fz S.rel rfl with q | ⟨α3, q, w⟩
  · rw [q] at h; exact h.elim
  · rw [q] at h
    refine w (Q (.ref D)) fun H3 la ra xa ka => ?_
    have r3 : Rel F ⟨on, μ1.off⟩ α3 H3 := Rel.fewer (off := D :: μ1.off) (fun _ h => List.mem_cons_of_mem _ h) ra
    have k : H3 D = H2 D := ka D S.on.2
    have o3 : OR F ⟨on, D :: μ1.off⟩ H3 D (.dct (dictOf ys)) := S.ob.ext xa k fun b x hb => (ka b (S.rel.nown hb)).trans hb
    exact h ⟨on, μ1.off⟩ H3 (.ref D) la r3 ⟨D, rfl, hD1, S.on.2, hDoff, ra, o3⟩
theorem dcomp_read {mi : Loc' → AH → Res Src} {mt : PV → Loc' → AH → Res Loc'} {mc : Loc' → AH → Res Bool} {mk me : Den} {own vs : List Nat} (hsub : ∀ j ∈ vs, j ∈ own) (h : tN F (dcompD mi mt mc mk me own) σ H Q) :
    tDcT F (tI F X mi) (tG F mt vs) (tB' F mc) (tE F mk) (tE F me) own σ H (fun v H' => Unl X H' (Q v)) := by
  obtain ⟨μ, ρ, α, rel, env, h⟩ := h
  refine ⟨μ, ρ, α, (At.bindN (R1 := SrcL F X) rel env h).imp fun JH H1 ⟨s, μ1, α1, l, sl, rel1, env1, h1⟩ => ?_⟩
  have B := begun rel1 sl
  obtain ⟨J, HJ⟩ := JH
  dsimp only at B ⊢
  intro D hD
  have hD1 : H1 D = none := none_back B.rel B.le hD
  have hDoff : D ∉ μ1.off := fresh_noff B.rel hD
  let step : PV → AH → Res (Option (PV × PV)) := compStepD mt mc mk me (wipeP ρ own)
  let W : Nat → Nat → Hp → Prop := fun i m H2 => m = s.items.length - i ∧ i ≤ s.items.length ∧ ∃ (ν : Zn) (α2 : AH) (ys : List (PV × PV)), DctSt F D μ1 HJ ν α2 ys H2 ∧
    EnvR F ν H2 (wipeP ρ own) (L2.wipe σ own) ∧ PostN F μ1 H1 ((turnsD s.still step (s.items.drop i) α2).bind fun zs α => need (putsOk [] (ys ++ zs)) (s.done (.fd (dictOf (ys ++ zs))) α)) Q
  obtain ⟨x0, _⟩ := by1 B.rel (o := .dK []) hD
  refine ⟨W, ⟨_, rfl, Nat.zero_le _, _, s.lock α1, [], DctSt.new B.rel hD, env_wipe ((env1.le B.le).ext x0) own, by simpa using h1⟩, ?_⟩
  rintro i m H2 ⟨hm, hil, ν, α2, ys, S, e2, h2⟩
  have xJ : Ext F μ1 HJ ν H2 := by
    obtain ⟨on, off⟩ := ν
    have ho := S.off
    dsimp only at ho
    subst ho
    exact S.le.by hD rfl
  rcases Nat.lt_or_ge i s.items.length with hlt | hge
  · have hd : s.items.drop i = s.items[i] :: s.items.drop (i + 1) := (List.getElem_cons_drop hlt).symm
    rw [hd, turnsD_cons] at h2
    obtain ⟨hst, h2⟩ := need_N h2
    obtain ⟨g1, g2⟩ := B.walk.go _ H2 α2 xJ S.le.fz S.rel hst i _ (List.getElem?_eq_getElem hlt)
    refine .inr ⟨g1, W (i + 1) (s.items.length - (i + 1)), fun H' w => ⟨_, by omega, w⟩, fun x H3 hy => ?_⟩
    obtain ⟨μ3, l3, r3, rp⟩ := g2 x H3 hy
    refine ⟨μ3, wipeP ρ own, α2, _, r3, e2.le l3, rp, ?_⟩
    simp only [step, compStepD, bind_assoc] at h2
    cases hm' : mt s.items[i] (wipeP ρ own) α2 with
    | err c xs a => rw [hm'] at h2; exact h2
    | bad => rw [hm'] at h2; exact h2
    | ok ρ4 α4 =>
      rw [hm'] at h2
      intro μ4 H4 σ4 l4 r4 e4 sm
      refine ⟨wipe_same hsub sm, μ4, ρ4, α4, r4, e4, ?_⟩
      simp only [Res.ok_bind] at h2
      have l24 := l3.trans l4
      have next : ∀ (o : Option (PV × PV)) (α5 : AH) (μ5 : Zn) (H5 : Hp), PostN F μ1 H1 ((turnsD s.still step (s.items.drop (i + 1)) α5).bind fun zs α => need (putsOk [] ((ys ++ consD o []) ++ zs)) (s.done (.fd (dictOf ((ys ++ consD o []) ++ zs))) α)) Q →
          DctSt F D μ1 HJ μ5 α5 (ys ++ consD o []) H5 → EnvR F μ5 H5 (wipeP ρ own) (L2.wipe σ own) → W (i + 1) (s.items.length - (i + 1)) H5 :=
        fun o α5 μ5 H5 h5 S5 e5 => ⟨rfl, hlt, μ5, α5, _, S5, e5, h5⟩
      cases hc : mc ρ4 α4 with
      | err c xs a => rw [hc] at h2; exact h2
      | bad => rw [hc] at h2; exact h2
      | ok k α5 =>
        rw [hc] at h2
        intro μ5 H5 k' l5 r5 ek
        subst ek
        simp only [Res.ok_bind] at h2
        have l25 := l24.trans l5
        cases k with
        | false =>
          rw [if_neg Bool.false_ne_true]
          refine next none α5 μ5 H5 ?_ (by simpa [consD] using S.step l25 r5) (e2.le l25)
          simpa [bind_assoc, consD, step] using h2
        | true =>
          rw [if_pos rfl]
          refine ⟨μ5, ρ4, α5, r5, (e4.le l5), ?_⟩
          cases hk : mk ρ4 α5 with
          | err c xs a => simp only [hk, Res.err_bind] at h2; exact h2
          | bad => simp only [hk, Res.bad_bind] at h2; exact h2
          | ok y α6 =>
            simp only [hk, Res.ok_bind, bind_assoc] at h2
            intro μ6 H6 v l6 r6 ry
            refine ⟨μ6, ρ4, α6, r6, (e4.le l5).le l6, ?_⟩
            cases he : me ρ4 α6 with
            | err c xs a => simp only [he, Res.err_bind] at h2; exact h2
            | bad => simp only [he, Res.bad_bind] at h2; exact h2
            | ok z α7 =>
              simp only [he, Res.ok_bind, bind_assoc] at h2
              intro μ7 H7 w l7 r7 rz
              have l27 := (l25.trans l6).trans l7
              have S7 := S.step l27 r7
              have hok : ∃ zs, putsOk [] (ys ++ (y, z) :: zs) = true := by
                revert h2
                cases ht : turnsD s.still (compStepD mt mc mk me (wipeP ρ own)) (s.items.drop (i + 1)) α7 with
                | err c xs a => exact fun h => h.elim
                | bad => exact fun h => h.elim
                | ok zs α8 =>
                  intro h2
                  simp only [Res.ok_bind, consD] at h2
                  cases hz : putsOk [] (ys ++ (y, z) :: zs) with
                  | false => rw [hz] at h2; exact h2.elim
                  | true => exact ⟨zs, hz⟩
              obtain ⟨zs, hok⟩ := hok
              refine S7.add hD (ry.le l7) rz hok fun H8 S8 x8 => next (some (y, z)) α7 μ7 H8 ?_ (by simpa [consD] using S8) ((e2.le l27).ext x8)
              simpa [consD, step, List.append_assoc] using h2
  · have hi' : i = s.items.length := by omega
    subst hi'
    rw [List.drop_length] at h2
    obtain ⟨hst, h2⟩ := need_N (r := Res.ok ([] : List (PV × PV)) α2) h2
    refine .inl ⟨B.walk.stop _ H2 α2 xJ S.le.fz S.rel hst, ?_⟩
    simp only [Res.ok_bind, List.append_nil] at h2
    exact dct_end B S hD1 hDoff h2
theorem k_dcomp (ft : Fit F X) {kx vx tg iter : Expr} {ifs : List Expr} {scope : Scope} {own : List (Str × Nat)} {pos : Pos} {mi : Loc' → AH → Res Src} {mt : PV → Loc' → AH → Res Loc'} {mc : Loc' → AH → Res Bool} {mk me : Den} {vs : List Nat}
    (hi : PI X tg iter (tI F X mi)) (ok : BlkOk X.N X.env.scope scope own)
    (hg : ∀ (s : Shared) (H : Hp) (C : Addr) (cl : List (Str × Addr)) (fp : List Addr), PG (X.blk s H scope (compEnvC scope cl C X.env) fp) tg (tG F mt vs)) (ht : ∀ (s : Shared) (H : Hp) (C : Addr) (cl : List (Str × Addr)) (fp : List Addr), PTs (X.blk s H scope (compEnvC scope cl C X.env) fp) ifs (tB' F mc))
    (hk : ∀ (s : Shared) (H : Hp) (C : Addr) (cl : List (Str × Addr)) (fp : List Addr), PE (X.blk s H scope (compEnvC scope cl C X.env) fp) kx (tE F mk))
    (he : ∀ (s : Shared) (H : Hp) (C : Addr) (cl : List (Str × Addr)) (fp : List Addr), PE (X.blk s H scope (compEnvC scope cl C X.env) fp) vx (tE F me)) (hs : noSet iter = true) (hsub : ∀ j ∈ vs, j ∈ own.map (·.2)) :
    PE X (.DictComp kx vx [⟨tg, iter, ifs, 0⟩] scope pos) (tN F (dcompD mi mt mc mk me (own.map (·.2)))) :=
  pe_imp (pe_unl (pe_dcT ft ft.calm ft.nd hi ok hg ht hk he (folded_no hs))) fun σ H Q h => dcomp_read hsub h
end
end Mw
end
section
set_option Elab.async false
set_option linter.all false
set_option maxRecDepth 100000
set_option maxHeartbeats 2000000
/-! Mw13e: set comprehensions of two clauses read by denotation; lists and tuples of what is walked. -/
namespace Mw
open PySem PySem.Spec PyProof.Rows L2

section
variable {F : Fx} {X : Cx} {μ μ' : Zn} {H H' : Hp} {α α' : AH} {ρ : Loc'} {σ : L2.St} {Q : VK} {D : Addr}
/-- a walk of nothing that has to be locked -/
def SrcN (F : Fx) (μ : Zn) (H : Hp) (s : Src) (JH : L2.It × Hp) : Prop := s.src = none ∧ JH.2 = H ∧ Walk F μ H s JH.1
def mi0 (mi : Loc' → AH → Res Src) : Loc' → AH → Res Src := fun ρ α => (mi ρ α).bind fun s α => need (decide (s.src = none)) (.ok s α)
def tI0 (F : Fx) (mi : Loc' → AH → Res Src) : TI := fun σ H R => tR F (SrcN F) (mi0 mi) σ H fun JH _ => R JH.1 JH.2
theorem pi_imp {tg iter : Expr} {t t' : TI} (h : PI X tg iter t) (hi : ∀ σ H R, t' σ H R → t σ H R) : PI X tg iter t' := ⟨fun pins s σ H R I q => h.run pins s σ H R I (hi σ H R q)⟩
theorem tI0_tI {mi : Loc' → AH → Res Src} {R : L2.It → Hp → Prop} (h : tI0 F mi σ H R) : tI F X mi σ H R := by
  obtain ⟨μ, ρ, α, rel, env, h⟩ := h
  refine ⟨μ, ρ, α, rel, env, ?_⟩
  unfold mi0 at h
  cases hm : mi ρ α with
  | err c xs a => rw [hm] at h; exact h
  | bad => rw [hm] at h; exact h
  | ok s α1 =>
    rw [hm] at h
    obtain ⟨hc, h⟩ := need_okG h
    have hc : s.src = none := of_decide_eq_true hc
    intro μ' H' JH l r sl
    refine h μ' H' JH l r ?_
    rcases sl with ⟨_, e, w⟩ | ⟨k, kvs, d, u, ob, e, _⟩
    · exact ⟨hc, e, w⟩
    · rw [hc] at e; cases e
def okT : Loc' → AH → Res Bool := fun _ α => .ok true α
def sc2Step (mt : PV → Loc' → AH → Res Loc') (mi2 : Loc' → AH → Res Src) (mt2 : PV → Loc' → AH → Res Loc') (me : Den) (own2 : List Nat) (ρw : Loc') (x : PV) (α : AH) : Res (List PV) :=
  (mt x ρw α).bind fun ρ' α => (mi0 mi2 ρ' α).bind fun s2 α => turns s2.still (compStep mt2 okT me (wipeP ρ' own2)) s2.items α
def scomp2D (mi : Loc' → AH → Res Src) (mt : PV → Loc' → AH → Res Loc') (mi2 : Loc' → AH → Res Src) (mt2 : PV → Loc' → AH → Res Loc') (me : Den) (own own2 : List Nat) : Den := fun ρ α => (mi ρ α).bind fun s α =>
  (turns2 s.still (sc2Step mt mi2 mt2 me own2 (wipeP ρ own)) s.items (s.lock α)).bind fun ys α => need (setOk ys) (s.done (.fs (setOf ys)) α)
theorem turns2_cons (still : AH → Bool) (step : PV → AH → Res (List PV)) (x : PV) (r : List PV) (α : AH) : turns2 still step (x :: r) α = need (still α) ((step x α).bind fun o α1 => (turns2 still step r α1).bind fun ys α2 => .ok (o ++ ys) α2) := rfl
theorem scomp2_read {mi mi2 : Loc' → AH → Res Src} {mt mt2 : PV → Loc' → AH → Res Loc'} {me : Den} {own own2 vs vs2 : List Nat} (hsub : ∀ j ∈ vs, j ∈ own) (hsub2 : ∀ j ∈ vs2, j ∈ own2) (h : tN F (scomp2D mi mt mi2 mt2 me own own2) σ H Q) :
    tSc2 F (tI F X mi) (tG F mt vs) (tB' F okT) (tI0 F mi2) (tG F mt2 vs2) (tB' F okT) (tE F me) own own2 σ H (fun v H' => Unl X H' (Q v)) := by
  obtain ⟨μ, ρ, α, rel, env, h⟩ := h
  refine ⟨μ, ρ, α, (At.bindN (R1 := SrcL F X) rel env h).imp fun JH H1 ⟨s, μ1, α1, l, sl, rel1, env1, h1⟩ => ?_⟩
  have B := begun rel1 sl
  obtain ⟨J, HJ⟩ := JH
  dsimp only at B ⊢
  intro D hD
  have hD1 : H1 D = none := none_back B.rel B.le hD
  have hDoff : D ∉ μ1.off := fresh_noff B.rel hD
  let step : PV → AH → Res (List PV) := sc2Step mt mi2 mt2 me own2 (wipeP ρ own)
  let fin : List PV → AH → Res PV := fun ys α => need (setOk ys) (s.done (.fs (setOf ys)) α)
  let W : Nat → Nat → Hp → Prop := fun i m H2 => m = s.items.length - i ∧ i ≤ s.items.length ∧ ∃ (ν : Zn) (α2 : AH) (ys : List PV), SetSt F D μ1 HJ ν α2 ys H2 ∧
    EnvR F ν H2 (wipeP ρ own) (L2.wipe σ own) ∧ PostN F μ1 H1 ((turns2 s.still step (s.items.drop i) α2).bind fun zs α => fin (ys ++ zs) α) Q
  obtain ⟨x0, _⟩ := by1 B.rel (o := SX F.w D []) hD
  refine ⟨W, ⟨_, rfl, Nat.zero_le _, _, s.lock α1, [], SetSt.new B.rel hD, env_wipe ((env1.le B.le).ext x0) own, by simpa [fin] using h1⟩, ?_⟩
  have ex : ∀ {ν α2 ys H2}, SetSt F D μ1 HJ ν α2 ys H2 → Ext F μ1 HJ ν H2 := fun {ν α2 ys H2} S => by
    obtain ⟨on, off⟩ := ν
    have ho := S.off
    dsimp only at ho
    subst ho
    exact S.le.by hD rfl
  rintro i m H2 ⟨hm, hil, ν, α2, ys, S, e2, h2⟩
  have xJ := ex S
  rcases Nat.lt_or_ge i s.items.length with hlt | hge
  · have hd : s.items.drop i = s.items[i] :: s.items.drop (i + 1) := (List.getElem_cons_drop hlt).symm
    rw [hd, turns2_cons] at h2
    obtain ⟨hst, h2⟩ := need_N h2
    obtain ⟨g1, g2⟩ := B.walk.go _ H2 α2 xJ S.le.fz S.rel hst i _ (List.getElem?_eq_getElem hlt)
    refine .inr ⟨g1, W (i + 1) (s.items.length - (i + 1)), fun H' w => ⟨_, by omega, w⟩, fun x H3 hy => ?_⟩
    obtain ⟨μ3, l3, r3, rp⟩ := g2 x H3 hy
    refine ⟨μ3, wipeP ρ own, α2, _, r3, e2.le l3, rp, ?_⟩
    simp only [step, sc2Step, bind_assoc] at h2
    cases hm' : mt s.items[i] (wipeP ρ own) α2 with
    | err c xs a => rw [hm'] at h2; exact h2
    | bad => rw [hm'] at h2; exact h2
    | ok ρ4 α4 =>
      rw [hm'] at h2
      intro μ4 H4 σ4 l4 r4 e4 sm
      refine ⟨wipe_same hsub sm, μ4, ρ4, α4, r4, e4, ?_⟩
      simp only [Res.ok_bind] at h2
      have l24 := l3.trans l4
      intro μ5 H5 k' l5 r5 ek
      cases ek
      rw [if_pos rfl]
      have l25 := l24.trans l5
      refine ⟨μ5, ρ4, α4, r5, e4.le l5, ?_⟩
      cases hi2 : mi0 mi2 ρ4 α4 with
      | err c xs a => simp only [hi2, Res.err_bind] at h2; exact h2
      | bad => simp only [hi2, Res.bad_bind] at h2; exact h2
      | ok s2 α6 =>
        simp only [hi2, Res.ok_bind] at h2
        intro μ6 H6 JH2 l6 r6 sl2
        obtain ⟨J2, HJ2⟩ := JH2
        obtain ⟨hsrc, ehj, w2⟩ := sl2
        dsimp only at ehj w2 ⊢
        subst ehj
        have l26 := l25.trans l6
        have S6 := S.step l26 r6
        have e6 : EnvR F μ6 HJ2 ρ4 σ4 := (e4.le l5).le l6
        let stp2 : PV → AH → Res (Option PV) := compStep mt2 okT me (wipeP ρ4 own2)
        let W1 : Nat → Nat → Hp → Prop := fun j k H7 => k = s2.items.length - j ∧ j ≤ s2.items.length ∧ ∃ (ν7 : Zn) (α7 : AH) (ys' : List PV), SetSt F D μ1 HJ ν7 α7 (ys ++ ys') H7 ∧ Ext F μ6 HJ2 ν7 H7 ∧ Kz HJ2 H7 ∧
          EnvR F ν7 H7 (wipeP ρ own) (L2.wipe σ own) ∧ EnvR F ν7 H7 (wipeP ρ4 own2) (L2.wipe σ4 own2) ∧
          PostN F μ1 H1 ((turns s2.still stp2 (s2.items.drop j) α7).bind fun zs α => (turns2 s.still step (s.items.drop (i + 1)) α).bind fun ws α => fin ((ys ++ ys') ++ (zs ++ ws)) α) Q
        refine ⟨W1, ⟨_, rfl, Nat.zero_le _, μ6, α6, [], by simpa using S6, .refl F μ6 HJ2, fun _ _ _ e => e, e2.le l26, env_wipe e6 own2, ?_⟩, ?_⟩
        · simpa [bind_assoc, stp2, fin, step] using h2
        rintro j k H7 ⟨hk, hjl, ν7, α7, ys', S7, x7, kz7, ew, e7, h7⟩
        have st2 : ∀ α, s2.still α = true := fun α => by unfold Src.still; rw [hsrc]
        rcases Nat.lt_or_ge j s2.items.length with jlt | jge
        · have hd2 : s2.items.drop j = s2.items[j] :: s2.items.drop (j + 1) := (List.getElem_cons_drop jlt).symm
          rw [hd2, turns_cons] at h7
          rw [st2, need_true] at h7
          obtain ⟨g1', g2'⟩ := w2.go ν7 H7 α7 x7 kz7 S7.rel (st2 _) j _ (List.getElem?_eq_getElem jlt)
          refine .inr ⟨g1', W1 (j + 1) (s2.items.length - (j + 1)), fun H' w => ⟨_, by omega, w⟩, fun x H8 hy8 => ?_⟩
          obtain ⟨μ8, l8, r8, rp8⟩ := g2' x H8 hy8
          refine ⟨μ8, wipeP ρ4 own2, α7, _, r8, e7.le l8, rp8, ?_⟩
          simp only [stp2, compStep, bind_assoc] at h7
          cases hm2 : mt2 s2.items[j] (wipeP ρ4 own2) α7 with
          | err c xs a => rw [hm2] at h7; exact h7
          | bad => rw [hm2] at h7; exact h7
          | ok ρ9 α9 =>
            rw [hm2] at h7
            intro μ9 H9 σ9 l9 r9 e9 sm9
            refine ⟨wipe_same hsub2 sm9, μ9, ρ9, α9, r9, e9, ?_⟩
            simp only [Res.ok_bind, okT, bind_assoc] at h7
            intro μ10 H10 k10 l10 r10 ek10
            cases ek10
            rw [if_pos rfl]
            refine ⟨μ10, ρ9, α9, r10, e9.le l10, ?_⟩
            cases he : me ρ9 α9 with
            | err c xs a => simp only [he, Res.err_bind] at h7; exact h7
            | bad => simp only [he, Res.bad_bind] at h7; exact h7
            | ok y α11 =>
              simp only [he, Res.ok_bind] at h7
              intro μ11 H11 v l11 r11 ry
              have l711 := ((l8.trans l9).trans l10).trans l11
              have S11 := S7.step l711 r11
              have hok : ∃ zs, setOk ((ys ++ ys') ++ y :: zs) = true := by
                revert h7
                cases ht : turns s2.still (compStep mt2 okT me (wipeP ρ4 own2)) (s2.items.drop (j + 1)) α11 with
                | err c xs a => exact fun h => h.elim
                | bad => exact fun h => h.elim
                | ok zs α12 =>
                  intro h7
                  simp only [Res.ok_bind, consO] at h7
                  cases ht2 : turns2 s.still step (s.items.drop (i + 1)) α12 with
                  | err c xs a => rw [ht2] at h7; exact h7.elim
                  | bad => rw [ht2] at h7; exact h7.elim
                  | ok ws α13 =>
                    rw [ht2] at h7
                    simp only [Res.ok_bind, fin] at h7
                    cases hz : setOk ((ys ++ ys') ++ (y :: zs ++ ws)) with
                    | false => rw [hz] at h7; exact h7.elim
                    | true => exact ⟨zs ++ ws, by simpa using hz⟩
              obtain ⟨zs, hok⟩ := hok
              refine S11.add hD ry hok fun H12 S12 x12 kz12 => ⟨rfl, jlt, μ11, α11, ys' ++ [y], by rw [← List.append_assoc]; exact S12, (x7.trans l711.ext).trans x12, fun a o u e => kz12 a o u (l711.fz a o u (kz7 a o u e)), (ew.le l711).ext x12, (e7.le l711).ext x12, ?_⟩
              · simpa [bind_assoc, consO, stp2, fin, List.append_assoc] using h7
        · have hj' : j = s2.items.length := by omega
          subst hj'
          rw [List.drop_length] at h7
          refine .inl ⟨w2.stop ν7 H7 α7 x7 kz7 S7.rel (st2 _), rfl, hlt, ν7, α7, ys ++ ys', S7, ew, ?_⟩
          simp only [turns, st2, need_true, Res.ok_bind, List.nil_append] at h7
          exact h7
  · have hi' : i = s.items.length := by omega
    subst hi'
    rw [List.drop_length] at h2
    obtain ⟨hst, h2⟩ := need_N (r := Res.ok ([] : List PV) α2) h2
    refine .inl ⟨B.walk.stop _ H2 α2 xJ S.le.fz S.rel hst, ?_⟩
    simp only [Res.ok_bind, List.append_nil] at h2
    exact set_end B S hD1 hDoff h2
theorem folded_noE {e : Expr} (h : noSet e = true) : ∀ env x, foldedSetIterable e env x = pure x := by
  intro env x
  cases e <;> first | rfl | cases h
theorem k_scomp2 (ft : Fit F X) {elt tg iter tg1 iter1 : Expr} {scope : Scope} {own : List (Str × Nat)} {own2 : List Nat} {pos : Pos} {mi mi2 : Loc' → AH → Res Src} {mt mt2 : PV → Loc' → AH → Res Loc'} {me : Den} {vs vs2 : List Nat}
    (hi : PI X tg iter (tI F X mi)) (ok : BlkOk X.N X.env.scope scope own) (hv : ∀ i ∈ own2, i ∈ own.map (·.2))
    (hg : ∀ (s : Shared) (H : Hp) (C : Addr) (cl : List (Str × Addr)) (fp : List Addr), PG (X.blk s H scope (compEnvC scope cl C X.env) fp) tg (tG F mt vs))
    (hi2 : ∀ (s : Shared) (H : Hp) (C : Addr) (cl : List (Str × Addr)) (fp : List Addr), PI (X.blk s H scope (compEnvC scope cl C X.env) fp) tg1 iter1 (tI F (X.blk s H scope (compEnvC scope cl C X.env) fp) mi2))
    (hg2 : ∀ (s : Shared) (H : Hp) (C : Addr) (cl : List (Str × Addr)) (fp : List Addr), PG (X.blk s H scope (compEnvC scope cl C X.env) fp) tg1 (tG F mt2 vs2))
    (he : ∀ (s : Shared) (H : Hp) (C : Addr) (cl : List (Str × Addr)) (fp : List Addr), PE (X.blk s H scope (compEnvC scope cl C X.env) fp) elt (tE F me)) (hs : noSet iter = true) (hs2 : noSet iter1 = true) (hsub : ∀ j ∈ vs, j ∈ own.map (·.2)) (hsub2 : ∀ j ∈ vs2, j ∈ own2) :
    PE X (.SetComp elt [⟨tg, iter, [], 0⟩, ⟨tg1, iter1, [], 0⟩] scope pos) (tN F (scomp2D mi mt mi2 mt2 me (own.map (·.2)) own2)) :=
  pe_imp (pe_unl (pe_sc2 ft ft.calm ft.nd hi ok hv hg (fun _ _ _ _ _ => ts_nil) (fun s H C cl fp => pi_imp (hi2 s H C cl fp) fun _ _ _ h => tI0_tI h) hg2 (fun _ _ _ _ _ => ts_nil) he (folded_no hs) fun env => folded_noE hs2 env)) fun σ H Q h => scomp2_read hsub hsub2 h
end
end Mw
end
section
set_option Elab.async false
set_option linter.all false
set_option maxRecDepth 100000
set_option maxHeartbeats 2000000
/-! Mw14: defs that run where nothing is being shown (so that they may ask for texts of lists), and their calls. -/
namespace Mw
open PySem PySem.Spec PyProof.Rows L2

theorem deeper_gd (A : Around) (env : Env) : (A.deeper env).guards = A.guards := by
  cases A; rfl
/-- a def's promise, where no text of a thing is under way -/
structure FnG (P : Program) (w : World) (K : PySem.W.Frag) (mg : Str → Option Value) (base : Heap) (k : Nat) (f : Addr) (fd : FuncData) (ps : List Str) (sp : Sp) : Prop where
  len : ∀ vs H Q E, sp vs H Q E → vs.length = ps.length
  run : ∀ (A : Around) (outer : List Env) (s : Shared) (H : Hp) (args : Args) (us : List Value) (vs : List V) (Q : VK) (E : XK), Room k A → A.guards = some [] → Env0 P w K mg base A outer s H → BindsTo s fd args (ps.zip us) → Vals vs us →
    sp vs H Q E → codeAny (model P w) A (.call (.ref f) args) (CR CX0 outer P w H s Q E) s
section
variable {P : Program} {w : World} {K : PySem.W.Frag} {mg : Str → Option Value} {base : Heap}
theorem FnG.never {k : Nat} {f : Addr} {fd : FuncData} {ps : List Str} {sp : Sp} (h : ∀ vs H Q E, ¬ sp vs H Q E) : FnG P w K mg base k f fd ps sp :=
  ⟨fun vs H Q E q => (h vs H Q E q).elim, fun A outer s H args us vs Q E _ _ _ _ _ q => (h vs H Q E q).elim⟩
/-- by its body -/
theorem fn_ofG {x qual : Str} {st : Stmt} {f : Addr} {fd : FuncData} {N ps : List Str} {k : Nat} {sp : Sp} (Fu : Fun K x qual st f fd) (S : FnScope N ps (defScope st)) (len : ∀ vs H Q E, sp vs H Q E → vs.length = ps.length)
    (hbody : ∀ (cdv : Value) (A : Around) (outer : List Env) (s : Shared) (H : Hp) (vs : List V) (Q : VK) (E : XK), Room k (A.deeper (envOfC qual (defScope st) s.heap.objs.size f cdv)) → A.guards = some [] → sp vs H Q E →
      PSs (cxOf CX0 P w K mg base N qual (defScope st) f cdv A outer s H E).nox (defBody st) (fun D σ H' => sp vs H Q E ∧ D = { nx := fun _ H' => Q .non H', rt := Q } ∧ σ = start N vs ∧ H' = H)) : FnG P w K mg base (k + 1) f fd ps sp := by
  obtain ⟨oc, od, kV, doc, pm, an, cdv, ct, osl, rfl, lk, hcd⟩ := Fu.ex
  constructor
  · exact len
  · intro A outer s H args us vs Q E hr hg e0 hb r hsp
    have nl : vs.length = ps.length := len vs H Q E hsp
    have inK : K.In s.heap := e0.mod.kin.keeps fun b o q => (e0.bs b o q).1
    have hkind : ∀ y ∈ ps.zip us, (defScope st).names.lookup y.1 = some .local ∨ ((defScope st).names.lookup y.1 = some .cell ∧ ((cellsFrom (s.heap.objs.size + 1) (defScope st).names []).lookup y.1).isSome = true) := by
      rintro ⟨n, v⟩ hy
      have hp := S.par n (List.of_mem_zip hy).1
      exact hp.imp id fun q => ⟨q, PySem.W.cellsFrom_some _ _ _ (.inl q)⟩
    refine codeAny_call_function hr.depth (inK _ _ lk) rfl S.co S.gen rfl (PySem.W.codeRec_of inK hcd) (hb _ _ _ _ (wpAny_newFunctionEnv_cells S.kind hkind fun env he s1 xx => ?_))
    subst he
    refine ⟨(e0.mod.nolimit.keeps fun b o q => (e0.bs b o q).1).keeps xx.toInCall.keep, codeAny_func ?_⟩
    have I := inv_start (E := E) (CX := CX0) S hr.hd e0 nl r xx
    have hps := (hbody cdv A outer s H vs Q E (hr.deeper _) hg hsp).nox
    refine wpAny_mono (hps.run [] s1 (start N vs) H _ I ⟨hsp, rfl, rfl, rfl⟩) (fun fl s' hs => ?_) fun e s' hs => hs
    cases fl with
    | ret u =>
      obtain ⟨v, σ', H', J, rv, q⟩ := hs
      exact ⟨v, H', J.os, J.bare, J.base, J.hok, rv, q⟩
    | next =>
      obtain ⟨σ', H', J, q⟩ := hs
      exact ⟨V.non, H', J.os, J.bare, J.base, J.hok, rfl, q⟩
    | brk => obtain ⟨_, _, _, q⟩ := hs; exact q.elim
    | cont => obtain ⟨_, _, _, q⟩ := hs; exact q.elim
end

/-- a promise by positional values, where no text of a thing is under way -/
def FnRG (P : Program) (w : World) (K : PySem.W.Frag) (mg : Str → Option Value) (base : Heap) (k : Nat) (f : Addr) (sp : Sp) : Prop :=
  ∀ (A : Around) (outer : List Env) (s : Shared) (H : Hp) (us : List Value) (vs : List V) (Q : VK) (E : XK), Room k A → A.guards = some [] → Env0 P w K mg base A outer s H → Vals vs us → sp vs H Q E →
    codeAny (model P w) A (.call (.ref f) ⟨us, []⟩) (CR CX0 outer P w H s Q E) s
section
variable {P : Program} {w : World} {K : PySem.W.Frag} {mg : Str → Option Value} {base : Heap}
theorem FnG.toR {k : Nat} {f : Addr} {fd : FuncData} {ps : List Str} {sp : Sp} (Fn : FnG P w K mg base k f fd ps sp) (hb : Binds K fd ps []) : FnRG P w K mg base k f sp := fun A outer s H us vs Q E hr hg e0 r h => by
  have inK : K.In s.heap := e0.mod.kin.keeps fun b o q => (e0.bs b o q).1
  have hl : us.length = ps.length := by rw [← r.length]; exact Fn.len _ _ _ _ h
  have b := hb s us inK (by simpa using hl)
  exact Fn.run A outer s H ⟨us, []⟩ us vs Q E hr hg e0 (by simpa using b) r h
theorem FnRG.never {k : Nat} {f : Addr} {sp : Sp} (h : ∀ vs H Q E, ¬ sp vs H Q E) : FnRG P w K mg base k f sp := fun A outer s H us vs Q E _ _ _ _ q => (h vs H Q E q).elim
theorem FnRG.imp {k : Nat} {f : Addr} {sp sp' : Sp} (Fn : FnRG P w K mg base k f sp) (h : ∀ vs H Q E, sp' vs H Q E → sp vs H Q E) : FnRG P w K mg base k f sp' := fun A outer s H us vs Q E hr hg e0 r q => Fn A outer s H us vs Q E hr hg e0 r (h vs H Q E q)
/-- def f(a, .., *v) by its body: what is left over is a new tuple -/
theorem fn_starG {x qual : Str} {st : Stmt} {f : Addr} {fd : FuncData} {N ps : List Str} {pv : Str} {k : Nat} {sp : Sp} (Fu : Fun K x qual st f fd) (S : FnScope N (ps ++ [pv]) (defScope st))
    (hb : ∀ us rest : List Value, us.length = ps.length → bindArgs fd ⟨us ++ rest, []⟩ = (newTuple rest >>= fun t => pure (ps.zip us ++ [(pv, t)])))
    (hbody : ∀ (cdv : Value) (A : Around) (outer : List Env) (s : Shared) (H : Hp) (vs : List V) (Q : VK) (E : XK), Room k (A.deeper (envOfC qual (defScope st) s.heap.objs.size f cdv)) → A.guards = some [] → sp vs H Q E →
      PSs (cxOf CX0 P w K mg base N qual (defScope st) f cdv A outer s H E).nox (defBody st) (fun D σ H' => sp vs H Q E ∧ D = { nx := fun _ H' => Q .non H', rt := Q } ∧ σ = start N vs ∧ H' = H)) :
    FnRG P w K mg base (k + 1) f (fun vs H Q E => ∃ ws rest, vs = ws ++ rest ∧ ws.length = ps.length ∧ rest.length ≤ sizeLine ∧ ∀ p, H p = Option.none → sp (ws ++ [V.ref p]) (upd H p (.tup rest)) Q E) := by
  obtain ⟨oc, od, kV, doc, pm, an, cdv, ct, osl, rfl, lk, hcd⟩ := Fu.ex
  intro A outer s H us vs Q E hr hg e0 r hsp
  obtain ⟨ws, rest, ev, hl, hz, hq⟩ := hsp
  subst ev
  obtain ⟨u1, u2, eu, r1, r2⟩ := StX.vals_split r
  subst eu
  have hn : H s.heap.objs.size = Option.none := e0.hok.fresh (Nat.le_refl _)
  have hl1 : u1.length = ps.length := by rw [← r1.length]; exact hl
  have hl2 : u2.length ≤ sizeLine := by rw [← r2.length]; exact hz
  refine StX.run_bnd lk hcd S hr e0 (G := fun xs H2 => ∃ p, H p = Option.none ∧ xs = ws ++ [V.ref p] ∧ H2 = upd H p (.tup rest)) (fun A' Ex Q' h => ?_) fun s2 H2 xs ⟨p, hp, ex, eH⟩ hr' => ?_
  · rw [hb u1 u2 hl1]
    refine wpAny_bind (wpAny_newTuple (wpAny_pure ?_) hl2)
    have new : ObjOk P w (upd H s.heap.objs.size (.tup rest)) (s.heap.push ({ cls := .type "tuple", data := .seq u2.toArray } : Obj)) s.heap.objs.size (.tup rest) := ⟨hz, u2, r2, ⟨_, Heap.get?_push_size _ rfl, rfl, _, rfl⟩⟩
    have un := StX.un_laid (fs := frs outer) (s := s) (o := ({ cls := .type "tuple", data := .seq u2.toArray } : Obj)) (u := .tup rest) hn
    have z := h _ _ (ws ++ [V.ref s.heap.objs.size]) (u1 ++ [Value.ref s.heap.objs.size]) (StX.env0_laid e0 new) un rfl (fun e s' q => q.elim) (r1.append (.cons rfl .nil))
      (by rw [List.length_append, List.length_append, hl] <;> rfl) ⟨_, hn, rfl, rfl⟩
    rw [List.zip_append hl1.symm] at z
    exact z
  · subst ex eH
    exact ⟨_, (hbody cdv A outer s2 _ _ Q E hr' hg (hq p hp)).nox, hq p hp, rfl, rfl, rfl⟩
end

section
variable {F : Fx} {X : Cx} {μ μ' : Zn} {H H' : Hp} {α α' : AH} {ρ : Loc'} {σ : L2.St} {Q : VK}
/-- what a def of the text promises: by its denotation -/
def spA (F : Fx) (m : List PV → AH → Res PV) : Sp := fun vs H Q _ => ∃ μ α ps, Rel F μ α H ∧ RepL F μ H ps vs ∧ Post F μ H (m ps α) (Rep F) Q
def spD (F : Fx) (np : Nat) (m : List PV → AH → Res PV) : Sp := fun vs H Q E => vs.length = np ∧ spA F m vs H Q E
/-- what an __init__ promises: the denotation makes the object -/
def spI (F : Fx) (C : Addr) (m : List PV → AH → Res PV) : Sp := fun vs H Q _ => ∃ x dx ws H0 Qv, vs = .ref x :: ws ∧ H0 x = none ∧ H0 dx = none ∧ dx ≠ x ∧ H = upd (upd H0 dx (.own x)) x (.ins C dx []) ∧
  (∃ μ α ps, Rel F μ α H0 ∧ RepL F μ H0 ps ws ∧ Post F μ H0 (m ps α) (Rep F) Qv) ∧ ∀ H2, Qv (.ref x) H2 → Q .non H2
/-- a def that may be called with keywords: n positional values, names, and where each parameter's value stands among theirs -/
structure CalK (F : Fx) (K : PySem.W.Frag) (mg : Str → Option Value) (base : Heap) (k : Nat) (f : Addr) (m : List PV → AH → Res PV) (n : Nat) (ks : List Str) (perm : List Nat) : Prop where
  ex : ∃ (fd : FuncData) (ps : List Str), FnG F.P F.w K mg base k f fd ps (spD F ps.length m) ∧ (∀ qs α, qs.length ≠ ps.length → m qs α = .bad) ∧
    ∀ (s : Shared) (us ws : List Value), us.length = n → ws.length = ks.length → BindsTo s fd ⟨us, ks.zip ws⟩ (ps.zip (us ++ permP perm ws))
theorem run_RG {k : Nat} {f : Addr} {sp : Sp} {E : XK} {pins : List (Addr × Obj)} {s : Shared} {us : List Value} {vs : List V} (Fn : FnRG X.prog X.w X.K X.mg X.base k f sp) (hr : Room k X.A) (hg : X.A.guards = some []) (I : Inv X pins σ H s) (r : Vals vs us) (h : sp vs H Q E) :
    wpAny (model X.prog X.w) X.A (call (.ref f) us) (EP X pins σ Q) X.xe s := by
  refine wpAny_call (codeAny_mono (Fn X.A X.stack s H us vs Q E hr hg I.env0 r h) (fun res s' hq => ?_))
  rcases res with e | fl
  · exact hq.elim
  · cases fl with
    | ret u => exact I.after hq
    | _ => exact hq.elim
theorem run_G {k : Nat} {f : Addr} {fd : FuncData} {ps : List Str} {sp : Sp} {E : XK} {us0 : List Value} {kw : List (Str × Value)} {pins : List (Addr × Obj)} {s : Shared} {us : List Value} {vs : List V} (Fn : FnG X.prog X.w X.K X.mg X.base k f fd ps sp) (hr : Room k X.A) (hg : X.A.guards = some [])
    (hb : BindsTo s fd ⟨us0, kw⟩ (ps.zip us)) (I : Inv X pins σ H s) (r : Vals vs us) (h : sp vs H Q E) : wpAny (model X.prog X.w) X.A (call (.ref f) us0 kw) (EP X pins σ Q) X.xe s := by
  refine wpAny_call (codeAny_mono (Fn.run X.A X.stack s H ⟨us0, kw⟩ us vs Q E hr hg I.env0 hb r h) fun res s' hq => ?_)
  rcases res with e | fl
  · exact hq.elim
  · cases fl with
    | ret u => exact I.after hq
    | _ => exact hq.elim
variable {e : Expr} {es : List Expr} {ms : Loc' → AH → Res (List PV)} {x : Str} {p pos : Pos} {k np : Nat} {m : List PV → AH → Res PV}
theorem run_A (ft : Fit F X) (hr : Room k X.A) {f : Addr} (Fn : FnRG F.P F.w X.K X.mg X.base k f (spA F m)) {pins : List (Addr × Obj)} {us : List Value} {vs : List V} {s1 : Shared} {H1 : Hp} (I1 : Inv X pins σ H1 s1) (r : Vals vs us)
    (h : ∃ qs μ α, RepL F μ H1 qs vs ∧ Rel F μ α H1 ∧ Post F μ H1 (m qs α) (Rep F) Q) : wpAny (model X.prog X.w) X.A (call (.ref f) us) (EP X pins σ Q) X.xe s1 := by
  obtain ⟨qs, μ, α, rq, rel, h1⟩ := h
  refine run_RG (E := E0) (sp := spA F m) ?_ hr ft.gd I1 r ⟨μ, α, qs, rel, rq, h1⟩
  rw [ft.P, ft.w]; exact Fn
theorem run_K (ft : Fit F X) (hr : Room k X.A) {f : Addr} {n : Nat} {ks : List Str} {perm : List Nat} (C : CalK F X.K X.mg X.base k f m n ks perm) {pins : List (Addr × Obj)} {us ws : List Value} {vs zs : List V} {s1 : Shared} {H1 : Hp} (I1 : Inv X pins σ H1 s1)
    (r : Vals vs us) (rz : Vals zs ws) (hp : Vals (permP perm zs) (permP perm ws)) (h1 : us.length = n) (h2 : ws.length = ks.length)
    (h : ∃ qs μ α, RepL F μ H1 qs (vs ++ permP perm zs) ∧ Rel F μ α H1 ∧ Post F μ H1 (m qs α) (Rep F) Q) : wpAny (model X.prog X.w) X.A (call (.ref f) us (ks.zip ws)) (EP X pins σ Q) X.xe s1 := by
  obtain ⟨fd, ps, Fn, hbad, hb⟩ := C.ex
  obtain ⟨qs, μ, α, rq, rel, h⟩ := h
  have hl : qs.length = ps.length := by
    by_cases e : qs.length = ps.length
    · exact e
    · rw [hbad qs α e] at h; exact h.elim
  refine run_G (E := E0) (sp := spD F ps.length m) ?_ hr ft.gd (hb s1 us ws h1 h2) I1 (r.append hp) ⟨by rw [← rq.length]; exact hl, μ, α, qs, rel, rq, h⟩
  rw [ft.P, ft.w]; exact Fn
theorem k_call0 (ft : Fit F X) (hr : Room k X.A) (hg : Gl X x) (hdb : (x == ("__debug__" : Str)) = false) {f : Addr} (hm : X.mg x = some (.ref f)) (hk : PySem.W.keepIn X.K (.ref f) = true) (Fn : FnRG F.P F.w X.K X.mg X.base k f (spA F m)) :
    PE X (.Call (.Name x p) [] [] pos) (tE F fun ρ α => (Res.ok [] α).bind fun ps α => m ps α) := by
  refine ⟨fun pins s σ H Q I ⟨μ, ρ, α, rel, env, h⟩ => ?_⟩
  refine wpAny_Call_Name_kw (ld_glob I hg hm ?_ hdb)
  exact PySem.W.callWith_K0 I.kIn hk (run_A ft hr Fn (us := []) (vs := []) I .nil ⟨[], μ, α, .nil, rel, h⟩)
theorem k_call (ft : Fit F X) (hr : Room k X.A) (hg : Gl X x) (hdb : (x == ("__debug__" : Str)) = false) {f : Addr} (hm : X.mg x = some (.ref f)) (hk : PySem.W.keepIn X.K (.ref f) = true) (Fn : FnRG F.P F.w X.K X.mg X.base k f (spA F m)) (ha : PA X (e :: es) (tAs F ms)) (hs : (e :: es).all noStar = true) :
    PE X (.Call (.Name x p) (e :: es) [] pos) (tE F fun ρ α => (ms ρ α).bind fun ps α => m ps α) := by
  rw [List.all_cons, Bool.and_eq_true] at hs
  refine ⟨fun pins s σ H Q I h => ?_⟩
  refine wpAny_Call_Name_kw (ld_glob I hg hm ?_ hdb)
  exact PySem.W.callWith_K (h₀ := X.base) I.ok.mod.kin hk (thn (ha.run pos pins s σ H _ I (tA_bind h)) fun us s1 ⟨vs, H1, I1, r, q⟩ => ⟨I1.kIn, run_A ft hr Fn I1 r q⟩) (star_cons hs.1) (star_any hs.2)
/-! ### keywords -/
abbrev tKs (F : Fx) (m : Loc' → AH → Res (List PV)) : TA := tR F (RepL F) m
theorem pk_imp {kws : List Keyword} {t t' : TA} (h : PK X kws t) (hi : ∀ σ H Q, t' σ H Q → t σ H Q) : PK X kws t' := ⟨fun pos pins s σ H Q I q => h.run pos pins s σ H Q I (hi σ H Q q)⟩
theorem kw_nil : PK X [] (tAs F fun _ α => .ok [] α) := pk_imp pk_nil fun σ H Q ⟨μ, ρ, α, rel, env, h⟩ => h μ H [] (.refl F μ H) rel .nil
theorem kw_cons {nm : Option Str} {kpos : Pos} {kws : List Keyword} {me : Den} {ms : Loc' → AH → Res (List PV)} (ha : PE X e (tE F me)) (hr : PK X kws (tAs F ms)) :
    PK X (⟨nm, e, kpos⟩ :: kws) (tAs F fun ρ α => (me ρ α).bind fun p α => (ms ρ α).bind fun ps α => .ok (p :: ps) α) := by
  refine pk_imp (pk_cons ha hr) fun σ H Q ⟨μ, ρ, α, h⟩ => ?_
  refine ⟨μ, ρ, α, h.bind.imp fun x H1 ⟨p, μ1, α1, l, rp, h1⟩ => ⟨μ1, ρ, α1, h1.bind.imp fun xs H2 ⟨ps, μ2, α2, l2, rs, h2⟩ => ?_⟩⟩
  exact h2.2.2 μ2 H2 _ (.refl F μ2 H2) h2.1 (.cons (rp.le l2) rs)
theorem kw_names {pos : Pos} {env : Env} : ∀ {kws : List Keyword} {ks : List Str}, kws.map (·.arg) = ks.map some → (backToKw pos (keywordEach kws env)).all (·.1.isSome) = true ∧ (backToKw pos (keywordEach kws env)).filterMap (·.1) = ks ∧
    (backToKw pos (keywordEach kws env)).any (·.1.isNone) = false
  | [], [], _ => ⟨rfl, rfl, rfl⟩
  | [], _ :: _, h => by simp at h
  | _ :: _, [], h => by simp at h
  | ⟨nm, e, kp⟩ :: kws, k :: ks, h => by
    rw [List.map_cons, List.map_cons, List.cons.injEq] at h
    obtain ⟨h1, h2, h3⟩ := kw_names (pos := pos) (env := env) h.2
    have hn : nm = some k := h.1
    subst hn
    refine ⟨?_, ?_, ?_⟩
    · show (true && (backToKw pos (keywordEach kws env)).all (·.1.isSome)) = true
      rw [h1]; rfl
    · show k :: (backToKw pos (keywordEach kws env)).filterMap (·.1) = k :: ks
      rw [h2]
    · show (false || (backToKw pos (keywordEach kws env)).any (·.1.isNone)) = false
      rw [h3]; rfl
theorem perm_rep {qs : List PV} {vs : List V} (r : RepL F μ H qs vs) : ∀ perm : List Nat, RepL F μ H (permP perm qs) (permP perm vs)
  | [] => .nil
  | i :: is => by
    have ih := perm_rep r is
    unfold permP at ih ⊢
    rw [List.filterMap_cons, List.filterMap_cons]
    cases h : qs[i]? with
    | none =>
      have : vs[i]? = none := by
        rw [List.getElem?_eq_none_iff] at h ⊢
        rw [← r.length]; exact h
      rw [this]
      exact ih
    | some q =>
      obtain ⟨v, hv, rv⟩ := r.get h
      rw [hv]
      exact .cons rv ih
theorem perm_vals {vs : List V} {us : List Value} (r : Vals vs us) : ∀ perm : List Nat, Vals (permP perm vs) (permP perm us)
  | [] => .nil
  | i :: is => by
    have ih := perm_vals r is
    unfold permP at ih ⊢
    rw [List.filterMap_cons, List.filterMap_cons]
    cases h : vs[i]? with
    | none =>
      have : us[i]? = none := by
        rw [List.getElem?_eq_none_iff] at h ⊢
        rw [← r.length]; exact h
      rw [this]
      exact ih
    | some q =>
      obtain ⟨v, hv, rv⟩ := r.get h
      rw [hv]
      exact .cons rv ih
def callKD (n : Nat) (ks : List Str) (perm : List Nat) (m : List PV → AH → Res PV) (ms mk : Loc' → AH → Res (List PV)) : Den := fun ρ α => (ms ρ α).bind fun ps α => (mk ρ α).bind fun qs α =>
  need (decide (ps.length = n ∧ qs.length = ks.length)) (m (ps ++ permP perm qs) α)
theorem need2 {c : Bool} {r : Res PV} (h : Post F μ H (need c r) (Rep F) Q) : c = true ∧ Post F μ H r (Rep F) Q := need_okG h
theorem k_callK0 (ft : Fit F X) (hr : Room k X.A) (hg : Gl X x) (hdb : (x == ("__debug__" : Str)) = false) {f : Addr} (hm : X.mg x = some (.ref f)) (hkk : PySem.W.keepIn X.K (.ref f) = true) {ks : List Str} {perm : List Nat} {kws : List Keyword} {mk : Loc' → AH → Res (List PV)} (C : CalK F X.K X.mg X.base k f m 0 ks perm)
    (hk : PK X kws (tAs F mk)) (hn : kws.map (·.arg) = ks.map some) : PE X (.Call (.Name x p) [] kws pos) (tE F (callKD 0 ks perm m (fun _ α => .ok [] α) mk)) := by
  obtain ⟨h1, h2, h3⟩ := kw_names (pos := pos) (env := X.env) hn
  refine ⟨fun pins s σ H Q I h => ?_⟩
  refine wpAny_Call_Name_kw (ld_glob I hg hm ?_ hdb)
  have h' : tE F (fun ρ α => (mk ρ α).bind fun qs α => need (decide (qs.length = ks.length)) (m (permP perm qs) α)) σ H Q := by
    obtain ⟨μ, ρ, α, rel, env, h⟩ := h
    refine ⟨μ, ρ, α, rel, env, ?_⟩
    simpa [callKD] using h
  refine PySem.W.callWith_KW0 (h₀ := X.base) I.ok.mod.kin hkk h1 (thn (hk.run pos pins s σ H _ I (tA_bind h')) fun ws s2 ⟨zs, H2, I2, rz, qs, μ, α, rq, rel, q⟩ => ⟨I2.kIn, ?_⟩) (by show (false || _) = false; rw [h3]; rfl)
  rw [h2]
  obtain ⟨c1, q⟩ := need2 q
  have c1 : qs.length = ks.length := of_decide_eq_true c1
  exact run_K ft hr C (us := []) (vs := []) I2 .nil rz (perm_vals rz perm) rfl (by rw [← rz.length, ← rq.length]; exact c1) ⟨_, μ, α, perm_rep rq perm, rel, q⟩
theorem k_callK (ft : Fit F X) (hr : Room k X.A) (hg : Gl X x) (hdb : (x == ("__debug__" : Str)) = false) {f : Addr} (hm : X.mg x = some (.ref f)) (hkk : PySem.W.keepIn X.K (.ref f) = true) {n : Nat} {ks : List Str} {perm : List Nat} {kws : List Keyword} {mk : Loc' → AH → Res (List PV)} (C : CalK F X.K X.mg X.base k f m n ks perm)
    (ha : PA X (e :: es) (tAs F ms)) (hs : (e :: es).all noStar = true) (hk : PK X kws (tAs F mk)) (hn : kws.map (·.arg) = ks.map some) : PE X (.Call (.Name x p) (e :: es) kws pos) (tE F (callKD n ks perm m ms mk)) := by
  obtain ⟨h1, h2, h3⟩ := kw_names (pos := pos) (env := X.env) hn
  refine ⟨fun pins s σ H Q I h => ?_⟩
  refine wpAny_Call_Name_kw (ld_glob I hg hm ?_ hdb)
  have hpl : ((backTo pos (starEach (e :: es) X.env)).any (·.1) || (backToKw pos (keywordEach kws X.env)).any (·.1.isNone)) = false := by rw [star_any hs, h3]; rfl
  have hs0 := hs
  rw [List.all_cons, Bool.and_eq_true] at hs0
  obtain ⟨μ, ρ, α, h⟩ := h
  refine PySem.W.callWith_KW (h₀ := X.base) I.ok.mod.kin hkk h1 (thn (ha.run pos pins s σ H _ I ⟨μ, ρ, α, (At.bind (R1 := RepL F) h)⟩) fun us s1 ⟨vs, H1, I1, r, qs, μ1, α1, l1, rq, h1'⟩ => ?_) hpl (star_cons hs0.1)
  refine thn (hk.run pos pins s1 σ H1 _ I1 ⟨μ1, ρ, α1, (At.bind (R1 := RepL F) h1')⟩) fun ws s2 ⟨zs, H2, I2, rz, ks', μ2, α2, l2, rk, rel2, env2, q⟩ => ⟨I2.kIn, ?_⟩
  rw [h2]
  obtain ⟨c1, q⟩ := need2 q
  have c1 := of_decide_eq_true c1
  exact run_K ft hr C (us := us) I2 r rz (perm_vals rz perm) (by rw [← r.length, ← rq.length]; exact c1.1) (by rw [← rz.length, ← rk.length]; exact c1.2) ⟨_, μ2, α2, (rq.le l2).append (perm_rep rk perm), rel2, q⟩
end
end Mw
end
section
set_option Elab.async false
set_option linter.all false
set_option maxRecDepth 100000
set_option maxHeartbeats 2000000
/-! Mw14b: instances: fields, properties, methods, classmethods, making. -/
namespace Mw
open PySem PySem.Spec PyProof.Rows L2 ClX

section
variable {F : Fx} {X : Cx} {μ μ' : Zn} {H H' : Hp} {α α' : AH} {ρ : Loc'} {σ : L2.St} {Q : VK}
variable {e o : Expr} {es : List Expr} {mo me : Den} {ms mk : Loc' → AH → Res (List PV)} {f nm x : Str} {p pos apos cpos : Pos} {k c : Nat} {m : List PV → AH → Res PV}
/-- no super() -/
def noSup : Expr → Bool
  | .Call (.Name _ _) [] [] _ => false
  | _ => true
theorem base_sup {o : Expr} {f : Str} {env : Env} (h : noSup o = true) : attributeBase o f env (eval o env) = eval o env := by
  cases o <;> first | rfl | skip
  rename_i fn args kws ps
  cases fn <;> first | rfl | skip
  cases args <;> first | rfl | skip
  cases kws <;> first | rfl | cases h
theorem isObj_at {q : PV} {v : V} (h : isObj c q = true) (rq : Rep F μ H q v) : ∃ fs a dx vs, q = .obj c fs ∧ v = .ref a ∧ H a = some (.ins (F.τ c) dx vs) ∧ RepF F μ H fs vs := by
  cases rq with
  | obj n n2 e1 e2 r =>
    have := of_decide_eq_true h
    subst this
    exact ⟨_, _, _, _, rfl, rfl, e1, r⟩
  | _ => cases h
theorem repF_get {fs : List (Str × PV)} {vs : List (Str × V)} {q : PV} (r : RepF F μ H fs vs) (h : fs.lookup f = some q) : ∃ v, vs.lookup f = some v ∧ Rep F μ H q v := by
  induction fs generalizing vs with
  | nil => cases h
  | cons a fs ih =>
    obtain ⟨g, y⟩ := a
    cases r with
    | cons a b =>
      rw [List.lookup_cons] at h ⊢
      cases hg : f == g with
      | true => rw [hg] at h; cases h; exact ⟨_, rfl, a⟩
      | false => rw [hg] at h; exact ih b h
theorem repF_none {fs : List (Str × PV)} {vs : List (Str × V)} (r : RepF F μ H fs vs) (h : fs.lookup f = none) : vs.lookup f = none := by
  induction fs generalizing vs with
  | nil => cases r; rfl
  | cons a fs ih =>
    obtain ⟨g, y⟩ := a
    cases r with
    | cons a b =>
      rw [List.lookup_cons] at h ⊢
      cases hg : f == g with
      | true => rw [hg] at h; cases h
      | false => rw [hg] at h; exact ih b h
/-- o.f -/
theorem k_fld (ft : Fit F X) (cl : Cls F.K (F.τ c)) (na : NoAttr F.K (F.τ c) f) (ho : PE X o (tE F mo)) (hb : noSup o = true) : PE X (.Attribute o f pos) (tE F fun ρ α => (mo ρ α).bind fun p α => fldP c p f α) := by
  refine pe_imp (pe_fld ho (base_sup hb)) fun σ H Q ⟨μ, ρ, α, h⟩ => ?_
  refine ⟨μ, ρ, α, (At.bind (R1 := Rep F) h).imp fun x H1 ⟨p, μ1, α1, l, rp, rel1, env1, h1⟩ => ?_⟩
  unfold fldP at h1
  cases p with
  | obj d fs =>
    obtain ⟨hc, h2⟩ := need_okG h1
    have hc := of_decide_eq_true hc
    subst hc
    cases rp with
    | obj n n2 e1 e2 r =>
      cases hf : fs.lookup f with
      | none => rw [hf] at h2; exact h2.elim
      | some q =>
        rw [hf] at h2
        obtain ⟨v, hv, rv⟩ := repF_get r hf
        exact ⟨_, _, _, _, v, rfl, e1, by rw [ft.K]; exact cl, by rw [ft.K]; exact na, hv, Post.here rel1 h2 rv⟩
  | _ => exact h1.elim
/-- o.f, a property: its getter -/
theorem getprop_G (ft : Fit F X) {pins : List (Addr × Obj)} {s : Shared} {E' : Value → Shared → Prop} {b : Bool} {C a dx p g : Addr} {fs : List (Str × V)} (hr : Room (k + 1) X.A) (I : Inv X pins σ H s) (ea : H a = some (.ins C dx fs)) (cl : Cls X.K C) (hp : PropOf X.K C f p g)
    (Fn : FnRG F.P F.w X.K X.mg X.base k g (spA F m)) (h : spA F m [.ref a] H Q E0) : wpAny (model X.prog X.w) X.A (getAttr (.ref a) f b) (EP X pins σ Q) E' s := by
  obtain ⟨mA, O, _, _, _, _⟩ := ins_get I.hok ea
  obtain ⟨od, J, _⟩ := O.look
  obtain ⟨rest, hrec⟩ := hp.rec_
  have I1 := I.tok (s.toks + 1)
  have hc : (PySem.W.clsIn X.K C).isSome = true := by
    obtain ⟨cd, hc, _⟩ := PySem.W.any_some cl.hd
    rw [hc]
    rfl
  rw [← ft.P, ← ft.w] at Fn
  refine PySem.W.get_bind I.kIn J (PySem.W.plainGet_of (cl.get f)).1 (PySem.W.findObj_data hc hp.at_ hp.get hp.tak) (PySem.W.plainGet_of (cl.get f)).2 (wpAny_call (PySem.W.prop_get (s := { s with toks := s.toks + 1 }) I.kIn hrec ?_))
  refine codeAny_mono (Fn X.A.in1 X.stack { s with toks := s.toks + 1 } H [.ref a] [.ref a] Q E0 hr.in1 ft.gd I1.env0.in1 (.cons rfl .nil) h) fun r s' hq => ?_
  cases r with
  | error er => exact hq.elim
  | ok fl =>
    cases fl with
    | ret u =>
      obtain ⟨v, H', I3, rv, q3⟩ := I1.after hq
      show wpAny _ _ (handedOut u) _ _ _
      rw [PySem.W.handedOut_of (handed_of rv)]
      exact wpAny_pure ⟨v, H', I3, rv, q3⟩
    | next => exact False.elim hq
    | brk => exact False.elim hq
    | cont => exact False.elim hq
theorem k_prop (ft : Fit F X) (hr : Room (k + 1) X.A) {pp g : Addr} (cl : Cls F.K (F.τ c)) (hp : PropOf F.K (F.τ c) f pp g) (Fn : FnRG F.P F.w X.K X.mg X.base k g (spA F m)) (ho : PE X o (tE F mo)) (hb : noSup o = true) :
    PE X (.Attribute o f pos) (tE F fun ρ α => (mo ρ α).bind fun p α => need (isObj c p) (m [p] α)) := by
  refine ⟨fun pins s σ H Q I ⟨μ, ρ, α, h⟩ => ?_⟩
  refine attr_of (base_sup hb) (thn (ho.run pins s σ H _ I ⟨μ, ρ, α, At.bind (R1 := Rep F) h⟩) fun u s1 ⟨x, H1, I1, rx, p, μ1, α1, l, rp, rel1, env1, h1⟩ => ?_)
  obtain ⟨hc, h1⟩ := need_okG h1
  obtain ⟨fs, a, dx, vs, rfl, rfl, e1, r⟩ := isObj_at hc rp
  cases rx
  exact getprop_G ft hr I1 e1 (by rw [ft.K]; exact cl) (by rw [ft.K]; exact hp) Fn ⟨μ1, α1, [.obj c fs], rel1, .cons rp .nil, h1⟩
/-- a call by attribute -/
theorem call_attr {prog : Program} {w : World} {A : Around} {E : Value → Shared → Prop} {s : Shared} {env : Env} {o : Expr} {name : Str} {apos pos : Pos} {args : List Expr} {kws : List Keyword} {Q : Value → Shared → Prop} (hbase : attributeBase o name env (eval o env) = eval o env)
    (hform : methodCallForm (args.length + kws.length) (backTo pos (starEach args env)) (backToKw pos (keywordEach kws env)) = true) (hline : (apos.endLine == pos.line) = true)
    (h : wpAny (model prog w) A (eval o env) (fun ov s₁ => ∀ pl : Sem Bool, wpAny (model prog w) A (getMethod ov name pl) (fun fx s₂ => wpAny (model prog w) A (callWith pos fx.1 fx.2 (backTo pos (starEach args env)) (backToKw pos (keywordEach kws env))) Q E s₂) E s₁) E s) :
    wpAny (model prog w) A (eval (.Call (.Attribute o name apos) args kws pos) env) Q E s := by
  rw [arm_eval_Call, hbase]
  refine wpAny_bind (wpAny_mono h (fun ov s₁ h₁ => ?_) fun _ _ e => e)
  refine wpAny_bind (wpAny_standAt ?_)
  have hpos : methodCallPos true o env apos pos = pure pos := by unfold methodCallPos; simp [hline]
  unfold methodCall
  rw [hform]
  refine wpAny_bind (wpAny_holding ?_)
  show wpAny _ _ (getMethod ov name _) _ _ _
  refine wpAny_mono (h₁ _) (fun fx s₂ h₂ => ?_) fun _ _ e => e
  exact wpAny_bind (wpAny_of_eq hpos h₂)
theorem form_of {args : List Expr} {kws : List Keyword} {env : Env} {ks : List Str} (hs : args.all noStar = true) (hn : kws.map (·.arg) = ks.map some) (hl : args.length + kws.length + 1 < 30) :
    methodCallForm (args.length + kws.length) (backTo pos (starEach args env)) (backToKw pos (keywordEach kws env)) = true := by
  obtain ⟨h1, h2, h3⟩ := kw_names (pos := pos) (env := env) hn
  unfold methodCallForm
  rw [star_all hs, h1]
  simp only [Bool.and_self, Bool.true_and, decide_eq_true_eq]
  split <;> omega
/-- what is asked of a method's call: its arguments by position -/
theorem run_args (hs : es.all noStar = true) {pins : List (Addr × Obj)} {s1 : Shared} {H1 : Hp} {fn : Addr} {first : List Value} {Qf : Value → Shared → Prop} (I1 : Inv X pins σ H1 s1) (hk : PySem.W.keepIn X.K (.ref fn) = true) (ha : PA X es (tAs F ms))
    (h : tAs F ms σ H1 fun vs H2 => ∀ us s2, Inv X pins σ H2 s2 → Vals vs us → wpAny (model X.prog X.w) X.A (call (.ref fn) (first ++ us)) Qf X.xe s2) :
    wpAny (model X.prog X.w) X.A (callWith cpos (.ref fn) first (backTo cpos (starEach es X.env)) (backToKw cpos (keywordEach [] X.env))) Qf X.xe s1 := by
  cases es with
  | nil =>
    have hA := ha.run cpos pins s1 σ H1 _ I1 h
    refine PySem.W.callWith_K0 I1.kIn hk ?_
    have : wpAny (model X.prog X.w) X.A (pure ([] : List Value)) (AP X pins σ fun vs H2 => ∀ us s2, Inv X pins σ H2 s2 → Vals vs us → wpAny (model X.prog X.w) X.A (call (.ref fn) (first ++ us)) Qf X.xe s2) X.xe s1 := hA
    have z : wpAny (model X.prog X.w) X.A (pure ([] : List Value)) (fun us s2 => wpAny (model X.prog X.w) X.A (call (.ref fn) (first ++ us)) Qf X.xe s2) X.xe s1 := thn this fun us s2 ⟨vs, H2, I2, r2, q⟩ => q us s2 I2 r2
    exact wpAny_bind (m := pure ([] : List Value)) z
  | cons e es =>
    have hs0 := hs
    rw [List.all_cons, Bool.and_eq_true] at hs
    exact PySem.W.callWith_K (h₀ := X.base) I1.ok.mod.kin hk (thn (ha.run cpos pins s1 σ H1 _ I1 h) fun us s2 ⟨vs, H2, I2, r2, q⟩ => ⟨I2.kIn, q us s2 I2 r2⟩) (star_cons hs.1) (star_any hs.2)
/-- o.m(..) -/
theorem k_meth (ft : Fit F X) (hr : Room k X.A) {g : Addr} (cl : Cls F.K (F.τ c)) (hm : Meth F.K (F.τ c) nm g) (Fn : FnRG F.P F.w X.K X.mg X.base k g (spA F m)) (ho : PE X o (tE F mo)) (ha : PA X es (tAs F ms)) (hb : noSup o = true) (hline : (apos.endLine == cpos.line) = true) (hs : es.all noStar = true)
    (hl : es.length + 1 < 30) : PE X (.Call (.Attribute o nm apos) es [] cpos) (tE F fun ρ α => (mo ρ α).bind fun p α => need (isObj c p && noFld nm p) ((ms ρ α).bind fun ps α => m (p :: ps) α)) := by
  refine ⟨fun pins s σ H Q I ⟨μ, ρ, α, h⟩ => ?_⟩
  refine call_attr (base_sup hb) (form_of (kws := []) (ks := []) hs rfl (by simpa using hl)) hline (thn (ho.run pins s σ H _ I ⟨μ, ρ, α, At.bind (R1 := Rep F) h⟩) fun u s1 ⟨x, H1, I1, rx, p, μ1, α1, l, rp, rel1, env1, h1⟩ pl => ?_)
  obtain ⟨hc, h1⟩ := need_okG h1
  rw [Bool.and_eq_true] at hc
  obtain ⟨fs, a, dx, vs, rfl, rfl, e1, r⟩ := isObj_at hc.1 rp
  cases rx
  have hn : fs.lookup nm = none := by simpa [noFld] using hc.2
  refine getmeth_ok I1 e1 (by rw [ft.K]; exact cl) (by rw [ft.K]; exact hm) (repF_none r hn) ?_
  refine run_args hs I1 (by rw [ft.K]; exact hm.kp) ha ⟨μ1, ρ, α1, (At.bind (R1 := RepL F) ⟨rel1, env1, h1⟩).imp fun ws H2 ⟨ps, μ2, α2, l2, rps, rel2, env2, h2⟩ us s2 I2 rv => ?_⟩
  exact run_A ft hr Fn (us := .ref a :: us) (vs := .ref a :: ws) I2 (.cons rfl rv) ⟨_, μ2, α2, .cons (rp.le l2) rps, rel2, h2⟩
/-- .. with keywords -/
theorem nil_here {Q' : List V → Hp → Prop} (h : tAs F (fun _ α => .ok [] α) σ H Q') : Q' [] H := by
  obtain ⟨μ, ρ, α, rel, env, h⟩ := h
  exact h μ H [] (.refl F μ H) rel .nil
theorem run_argsK {ks : List Str} {kws : List Keyword} (hnil : es = [] → ms = fun _ α => .ok [] α) (hs : es.all noStar = true) (hn : kws.map (·.arg) = ks.map some) {pins : List (Addr × Obj)} {s1 : Shared} {H1 : Hp} {fn : Addr} {first : List Value} {Qf : Value → Shared → Prop} (I1 : Inv X pins σ H1 s1) (hk : PySem.W.keepIn X.K (.ref fn) = true) (ha : PA X es (tAs F ms)) (hkw : PK X kws (tAs F mk))
    (h : tAs F ms σ H1 fun vs H2 => tAs F mk σ H2 fun zs H3 => ∀ us ws s3, Inv X pins σ H3 s3 → Vals vs us → Vals zs ws → wpAny (model X.prog X.w) X.A (call (.ref fn) (first ++ us) (ks.zip ws)) Qf X.xe s3) :
    wpAny (model X.prog X.w) X.A (callWith cpos (.ref fn) first (backTo cpos (starEach es X.env)) (backToKw cpos (keywordEach kws X.env))) Qf X.xe s1 := by
  obtain ⟨h1, h2, h3⟩ := kw_names (pos := cpos) (env := X.env) hn
  cases es with
  | nil =>
    have hms := hnil rfl
    subst hms
    refine PySem.W.callWith_KW0 (h₀ := X.base) I1.ok.mod.kin hk h1 ?_ (by show (false || _) = false; rw [h3]; rfl)
    rw [h2]
    exact thn (hkw.run cpos pins s1 σ H1 _ I1 (nil_here h)) fun ws s3 ⟨zs, H3, I3, r3, q3⟩ => ⟨I3.kIn, q3 [] ws s3 I3 .nil r3⟩
  | cons e es =>
    have hpl : ((backTo cpos (starEach (e :: es) X.env)).any (·.1) || (backToKw cpos (keywordEach kws X.env)).any (·.1.isNone)) = false := by rw [star_any hs, h3]; rfl
    have hs0 := hs
    rw [List.all_cons, Bool.and_eq_true] at hs0
    refine PySem.W.callWith_KW (h₀ := X.base) I1.ok.mod.kin hk h1 ?_ hpl (star_cons hs0.1)
    rw [h2]
    exact thn (ha.run cpos pins s1 σ H1 _ I1 h) fun us s2 ⟨vs, H2, I2, r2, q⟩ => thn (hkw.run cpos pins s2 σ H2 _ I2 q) fun ws s3 ⟨zs, H3, I3, r3, q3⟩ => ⟨I3.kIn, q3 us ws s3 I3 r2 r3⟩
theorem k_methK (ft : Fit F X) (hr : Room k X.A) {g : Addr} {n : Nat} {ks : List Str} {perm : List Nat} {kws : List Keyword} (cl : Cls F.K (F.τ c)) (hm : Meth F.K (F.τ c) nm g) (C : CalK F X.K X.mg X.base k g m (n + 1) ks perm) (hnil : es = [] → ms = fun _ α => .ok [] α) (ho : PE X o (tE F mo)) (ha : PA X es (tAs F ms)) (hkw : PK X kws (tAs F mk))
    (hn : kws.map (·.arg) = ks.map some) (hb : noSup o = true) (hline : (apos.endLine == cpos.line) = true) (hs : es.all noStar = true) (hl : es.length + kws.length + 1 < 30) :
    PE X (.Call (.Attribute o nm apos) es kws cpos) (tE F fun ρ α => (mo ρ α).bind fun p α => need (isObj c p && noFld nm p) ((ms ρ α).bind fun ps α => (mk ρ α).bind fun qs α => need (decide (ps.length = n ∧ qs.length = ks.length)) (m (p :: (ps ++ permP perm qs)) α))) := by
  refine ⟨fun pins s σ H Q I ⟨μ, ρ, α, h⟩ => ?_⟩
  refine call_attr (base_sup hb) (form_of hs hn hl) hline (thn (ho.run pins s σ H _ I ⟨μ, ρ, α, At.bind (R1 := Rep F) h⟩) fun u s1 ⟨x, H1, I1, rx, p, μ1, α1, l, rp, rel1, env1, h1⟩ pl => ?_)
  obtain ⟨hc, h1⟩ := need_okG h1
  rw [Bool.and_eq_true] at hc
  obtain ⟨fs, a, dx, vs, rfl, rfl, e1, r⟩ := isObj_at hc.1 rp
  cases rx
  have hn2 : fs.lookup nm = none := by simpa [noFld] using hc.2
  refine getmeth_ok I1 e1 (by rw [ft.K]; exact cl) (by rw [ft.K]; exact hm) (repF_none r hn2) ?_
  refine run_argsK hnil hs hn I1 (by rw [ft.K]; exact hm.kp) ha hkw ⟨μ1, ρ, α1, (At.bind (R1 := RepL F) ⟨rel1, env1, h1⟩).imp fun ws H2 ⟨ps, μ2, α2, l2, rps, rel2, env2, h2⟩ => ⟨μ2, ρ, α2, (At.bind (R1 := RepL F) ⟨rel2, env2, h2⟩).imp fun zs H3 ⟨qs, μ3, α3, l3, rqs, rel3, env3, h3⟩ us us2 s3 I3 rv rz => ?_⟩⟩
  obtain ⟨c1, h3⟩ := need2 h3
  have c1 := of_decide_eq_true c1
  exact run_K ft hr C (us := .ref a :: us) (vs := .ref a :: ws) I3 (.cons rfl rv) rz (perm_vals rz perm) (by rw [List.length_cons, ← rv.length, ← rps.length, c1.1]) (by rw [← rz.length, ← rqs.length]; exact c1.2) ⟨_, μ3, α3, .cons ((rp.le l2).le l3) ((rps.le l3).append (perm_rep rqs perm)), rel3, h3⟩
/-! ### classmethods -/
/-- C.m(..), C a class of the module -/
theorem k_cmeth (ft : Fit F X) (hr : Room k X.A) {g pp : Addr} {mc : Value} (hg : Gl X x) (hdb : (x == ("__debug__" : Str)) = false) (hm : X.mg x = some (.ref (F.τ c))) (rd : CRead F.K (F.τ c) mc) (cm : CMet F.K (F.τ c) mc nm pp g) (Fn : FnRG F.P F.w X.K X.mg X.base k g (spA F m)) (ha : PA X es (tAs F ms))
    (hline : (apos.endLine == cpos.line) = true) (hs : es.all noStar = true) (hl : es.length + 1 < 30) : PE X (.Call (.Attribute (.Name x p) nm apos) es [] cpos) (tE F fun ρ α => (ms ρ α).bind fun ps α => m (.st c :: ps) α) := by
  refine ⟨fun pins s σ H Q I h => ?_⟩
  obtain ⟨μ, ρ, α, h⟩ := h
  refine call_attr rfl (form_of (kws := []) (ks := []) hs rfl (by simpa using hl)) hline (ld_glob I hg hm (fun pl => ?_) hdb)
  rw [← ft.K] at rd cm
  refine getmethcm_ok I rd cm fun s2 I2 => ?_
  have fin : ∀ {ws : List V} {H2 : Hp} {us : List Value} {s3 : Shared} {μ2 : Zn} {α2 : AH} {ps : List PV}, Inv X ((s.heap.objs.size, PySem.W.methodObj (.ref g) (.ref (F.τ c))) :: pins) σ H2 s3 → Vals ws us → RepL F μ2 H2 ps ws → Rel F μ2 α2 H2 → Post F μ2 H2 (m (.st c :: ps) α2) (Rep F) Q →
      wpAny (model X.prog X.w) X.A (call (.ref s.heap.objs.size) us) (EP X pins σ Q) X.xe s3 := fun {ws H2 us s3 μ2 α2 ps} I3 rv rps rel2 h2 => by
    have z : wpAny (model X.prog X.w) X.A (call (.ref s.heap.objs.size) us) (EP X ((s.heap.objs.size, PySem.W.methodObj (.ref g) (.ref (F.τ c))) :: pins) σ Q) X.xe s3 := by
      refine wpAny_call (PySem.W.method_call (pin_at I3) ?_)
      have Fn' := Fn
      rw [← ft.P, ← ft.w] at Fn'
      refine codeAny_mono (Fn' X.A X.stack s3 H2 (.ref (F.τ c) :: us) (.ref (F.τ c) :: ws) Q E0 hr ft.gd I3.env0 (.cons rfl rv) ⟨μ2, α2, .st c :: ps, rel2, .cons (.st c) rps, h2⟩) fun res s' hq => ?_
      rcases res with e | fl
      · exact hq.elim
      · cases fl with
        | ret u => exact I3.after hq
        | _ => exact hq.elim
    exact thn z fun _ _ y => unpinE y
  have hA : tAs F ms σ H fun vs H2 => ∃ ps μ2 α2, RepL F μ2 H2 ps vs ∧ Rel F μ2 α2 H2 ∧ Post F μ2 H2 (m (.st c :: ps) α2) (Rep F) Q := ⟨μ, ρ, α, (At.bind (R1 := RepL F) h).imp fun ws H2 ⟨ps, μ2, α2, l2, rps, rel2, env2, h2⟩ => ⟨ps, μ2, α2, rps, rel2, h2⟩⟩
  cases es with
  | nil =>
    have q := ha.run cpos _ s2 σ H _ I2 hA
    refine PySem.W.callWith_M0 ⟨pin_at I2, I2.kIn⟩ cm.fi ?_
    have z : wpAny (model X.prog X.w) X.A (pure ([] : List Value)) (fun us s3 => wpAny (model X.prog X.w) X.A (call (.ref s.heap.objs.size) us) (EP X pins σ Q) X.xe s3) X.xe s2 := thn q fun us s3 ⟨vs, H2, I3, r2, ps, μ2, α2, rps, rel2, h2⟩ => fin I3 r2 rps rel2 h2
    exact wpAny_bind (m := pure ([] : List Value)) z
  | cons e es =>
    have hs0 := hs
    rw [List.all_cons, Bool.and_eq_true] at hs
    exact callwith_cm I2 (base_none I (Nat.le_refl _)) cm.fi (thn (ha.run cpos _ s2 σ H _ I2 hA) fun us s3 ⟨vs, H2, I3, r2, ps, μ2, α2, rps, rel2, h2⟩ => ⟨⟨pin_at I3, I3.kIn⟩, fin I3 r2 rps rel2 h2⟩) (star_cons hs.1) (star_any hs.2)
theorem k_cmethK (ft : Fit F X) (hr : Room k X.A) {g pp : Addr} {mc : Value} {n : Nat} {ks : List Str} {perm : List Nat} {kws : List Keyword} (hg : Gl X x) (hdb : (x == ("__debug__" : Str)) = false) (hm : X.mg x = some (.ref (F.τ c))) (rd : CRead F.K (F.τ c) mc) (cm : CMet F.K (F.τ c) mc nm pp g)
    (C : CalK F X.K X.mg X.base k g m (n + 1) ks perm) (hnil : es = [] → ms = fun _ α => .ok [] α) (ha : PA X es (tAs F ms)) (hkw : PK X kws (tAs F mk)) (hn : kws.map (·.arg) = ks.map some)
    (hline : (apos.endLine == cpos.line) = true) (hs : es.all noStar = true) (hl : es.length + kws.length + 1 < 30) :
    PE X (.Call (.Attribute (.Name x p) nm apos) es kws cpos) (tE F fun ρ α => (ms ρ α).bind fun ps α => (mk ρ α).bind fun qs α => need (decide (ps.length = n ∧ qs.length = ks.length)) (m (.st c :: (ps ++ permP perm qs)) α)) := by
  obtain ⟨k1, k2, k3⟩ := kw_names (pos := cpos) (env := X.env) hn
  refine ⟨fun pins s σ H Q I h => ?_⟩
  obtain ⟨μ, ρ, α, h⟩ := h
  refine call_attr rfl (form_of hs hn hl) hline (ld_glob I hg hm (fun pl => ?_) hdb)
  rw [← ft.K] at rd cm
  refine getmethcm_ok I rd cm fun s2 I2 => ?_
  obtain ⟨fd, pn, Fn, hbad, hb⟩ := C.ex
  have fin : ∀ {ws zs : List V} {H2 : Hp} {us us2 : List Value} {s3 : Shared} {μ2 : Zn} {α2 : AH} {ps qs : List PV}, Inv X ((s.heap.objs.size, PySem.W.methodObj (.ref g) (.ref (F.τ c))) :: pins) σ H2 s3 → Vals ws us → Vals zs us2 → RepL F μ2 H2 ps ws → RepL F μ2 H2 qs zs → Rel F μ2 α2 H2 →
      Post F μ2 H2 (need (decide (ps.length = n ∧ qs.length = ks.length)) (m (.st c :: (ps ++ permP perm qs)) α2)) (Rep F) Q → wpAny (model X.prog X.w) X.A (call (.ref s.heap.objs.size) us (ks.zip us2)) (EP X pins σ Q) X.xe s3 := fun {ws zs H2 us us2 s3 μ2 α2 ps qs} I3 rv rz rps rqs rel2 h2 => by
    obtain ⟨c1, h2⟩ := need2 h2
    have c1 := of_decide_eq_true c1
    have z : wpAny (model X.prog X.w) X.A (call (.ref s.heap.objs.size) us (ks.zip us2)) (EP X ((s.heap.objs.size, PySem.W.methodObj (.ref g) (.ref (F.τ c))) :: pins) σ Q) X.xe s3 := by
      refine wpAny_call (PySem.W.method_call (pin_at I3) ?_)
      have hl : (PV.st c :: (ps ++ permP perm qs)).length = pn.length := by
        by_cases e : (PV.st c :: (ps ++ permP perm qs)).length = pn.length
        · exact e
        · rw [hbad _ α2 e] at h2; exact h2.elim
      have Fn' := Fn
      rw [← ft.P, ← ft.w] at Fn'
      have rall : RepL F μ2 H2 (.st c :: (ps ++ permP perm qs)) (.ref (F.τ c) :: (ws ++ permP perm zs)) := .cons (.st c) (rps.append (perm_rep rqs perm))
      have b := hb s3 (.ref (F.τ c) :: us) us2 (by rw [List.length_cons, ← rv.length, ← rps.length, c1.1]) (by rw [← rz.length, ← rqs.length]; exact c1.2)
      refine codeAny_mono (Fn'.run X.A X.stack s3 H2 ⟨.ref (F.τ c) :: us, ks.zip us2⟩ (.ref (F.τ c) :: (us ++ permP perm us2)) (.ref (F.τ c) :: (ws ++ permP perm zs)) Q E0 hr ft.gd I3.env0 b (.cons rfl (rv.append (perm_vals rz perm))) ⟨by rw [← rall.length]; exact hl, μ2, α2, _, rel2, rall, h2⟩) fun res s' hq => ?_
      rcases res with e | fl
      · exact hq.elim
      · cases fl with
        | ret u => exact I3.after hq
        | _ => exact hq.elim
    exact thn z fun _ _ y => unpinE y
  have hA : tAs F ms σ H fun vs H2 => tAs F mk σ H2 fun zs H3 => ∃ ps qs μ3 α3, RepL F μ3 H3 ps vs ∧ RepL F μ3 H3 qs zs ∧ Rel F μ3 α3 H3 ∧ Post F μ3 H3 (need (decide (ps.length = n ∧ qs.length = ks.length)) (m (.st c :: (ps ++ permP perm qs)) α3)) (Rep F) Q :=
    ⟨μ, ρ, α, (At.bind (R1 := RepL F) h).imp fun ws H2 ⟨ps, μ2, α2, l2, rps, rel2, env2, h2⟩ => ⟨μ2, ρ, α2, (At.bind (R1 := RepL F) ⟨rel2, env2, h2⟩).imp fun zs H3 ⟨qs, μ3, α3, l3, rqs, rel3, env3, h3⟩ => ⟨ps, qs, μ3, α3, rps.le l3, rqs, rel3, h3⟩⟩⟩
  have hplain : ((backTo cpos (starEach es X.env)).any (·.1) || (backToKw cpos (keywordEach kws X.env)).any (·.1.isNone)) = false := by rw [star_any hs, k3]; rfl
  cases es with
  | nil =>
    have hms := hnil rfl
    subst hms
    refine PySem.W.callWith_of (P := PySem.W.MethP X.K s.heap.objs.size g (.ref (F.τ c))) hplain (PySem.W.keeps_M cm.fi) (evalArgs_kw2_nil k1 ?_)
    rw [k2]
    exact thn (hkw.run cpos _ s2 σ H _ I2 (nil_here hA)) fun ws s4 ⟨zs, H3, I4, r3, ps, qs, μ3, α3, rps, rqs, rel3, h3⟩ => ⟨⟨pin_at I4, I4.kIn⟩, fin I4 .nil r3 rps rqs rel3 h3⟩
  | cons e es =>
    have hs0 := hs
    rw [List.all_cons, Bool.and_eq_true] at hs
    refine PySem.W.callWith_of (P := PySem.W.MethP X.K s.heap.objs.size g (.ref (F.τ c))) hplain (PySem.W.keeps_M cm.fi) (evalArgs_kw2 k1 ?_ (star_cons hs.1))
    rw [k2]
    exact thn (ha.run cpos _ s2 σ H _ I2 hA) fun us s3 ⟨vs, H2, I3, r2, q3⟩ => thn (hkw.run cpos _ s3 σ H2 _ I3 q3) fun ws s4 ⟨zs, H3, I4, r3, ps, qs, μ3, α3, rps, rqs, rel3, h3⟩ => ⟨⟨pin_at I4, I4.kIn⟩, fin I4 r2 r3 rps rqs rel3 h3⟩
end
end Mw
end
section
set_option Elab.async false
set_option linter.all false
set_option maxRecDepth 100000
set_option maxHeartbeats 2000000
/-! Mw14c: making instances, isinstance, own == and len, f-strings, the module's constants. -/
namespace Mw
open PySem PySem.Spec PyProof.Rows L2 ClX

section
variable {F : Fx} {X : Cx} {μ μ' : Zn} {H H' : Hp} {α α' : AH} {ρ : Loc'} {σ : L2.St} {Q : VK}
variable {e o a b : Expr} {es : List Expr} {mo me ma mb : Den} {ms mk : Loc' → AH → Res (List PV)} {f nm x : Str} {p pos apos cpos : Pos} {k c : Nat} {m : List PV → AH → Res PV}
theorem make_gd (A : Around) (C : Addr) (us : List Value) (kw : List (Str × Value)) : (A.under (.builtin "type.__call__" ⟨.ref C :: us, kw⟩)).guards = A.guards := by
  cases A; rfl
/-- C(..), by the promise of its __init__ -/
theorem run_makeG (ft : Fit F X) (hr : Room (k + 1) X.A) {C fI : Addr} (M : Mk F.K C fI) (Fn : FnRG F.P F.w X.K X.mg X.base k fI (spI F C m)) {pins : List (Addr × Obj)} {s : Shared} {us : List Value} {vs : List V} (I : Inv X pins σ H s) (r : Vals vs us)
    (h : ∃ qs μ α, RepL F μ H qs vs ∧ Rel F μ α H ∧ Post F μ H (m qs α) (Rep F) Q) : wpAny (model X.prog X.w) X.A (call (.ref C) us) (EP X pins σ Q) X.xe s := by
  obtain ⟨qs, μ, α, rq, rel, h⟩ := h
  rw [← ft.K] at M
  rw [← ft.P, ← ft.w] at Fn
  have hq : spI F C m (V.ref (s.heap.objs.size + 1) :: vs) (upd (upd H s.heap.objs.size (.own (s.heap.objs.size + 1))) (s.heap.objs.size + 1) (.ins C s.heap.objs.size [])) (fun v H2 => v = .non ∧ Q (.ref (s.heap.objs.size + 1)) H2) E0 :=
    ⟨s.heap.objs.size + 1, s.heap.objs.size, vs, H, Q, rfl, I.hok.fresh (Nat.le_succ _), I.hok.fresh (Nat.le_refl _), Nat.ne_of_lt (Nat.lt_succ_self _), rfl, ⟨μ, α, qs, rel, rq, h⟩, fun H2 q => ⟨rfl, q⟩⟩
  have I2 := Inv.made (C := C) I
  have r2 : Vals (V.ref (s.heap.objs.size + 1) :: vs) (Value.ref (s.heap.objs.size + 1) :: us) := .cons rfl r
  refine wpAny_call (make_map (f := fI) I.kIn M.makes M.init (beq_iff_eq.mp M.fn) (codeAny_mono (Fn _ X.stack _ _ (Value.ref (s.heap.objs.size + 1) :: us) _ _ E0 (hr.make C us []) (by rw [make_gd]; exact ft.gd) (I2.env0.make C us []) r2 hq) fun r s' hq' => ?_))
  cases r with
  | error e => exact hq'.elim
  | ok fl =>
    cases fl with
    | ret u =>
      obtain ⟨v, H', I3, rv, ev, q3⟩ := I2.after hq'
      subst ev
      exact ⟨rv, ⟨V.ref (s.heap.objs.size + 1), H', I3, rfl, q3⟩⟩
    | next => exact False.elim hq'
    | brk => exact False.elim hq'
    | cont => exact False.elim hq'
theorem k_mk (ft : Fit F X) (hr : Room (k + 1) X.A) {fI : Addr} (hg : Gl X x) (hdb : (x == ("__debug__" : Str)) = false) (hm : X.mg x = some (.ref (F.τ c))) (M : Mk F.K (F.τ c) fI) (Fn : FnRG F.P F.w X.K X.mg X.base k fI (spI F (F.τ c) m)) (ha : PA X es (tAs F ms)) (hs : es.all noStar = true) :
    PE X (.Call (.Name x p) es [] pos) (tE F fun ρ α => (ms ρ α).bind fun ps α => m ps α) := by
  refine ⟨fun pins s σ H Q I h => ?_⟩
  refine wpAny_Call_Name_kw (ld_glob I hg hm ?_ hdb)
  refine run_args hs I (by rw [ft.K]; exact M.kp) ha ?_
  obtain ⟨μ, ρ, α, h⟩ := h
  exact ⟨μ, ρ, α, (At.bind (R1 := RepL F) h).imp fun vs H1 ⟨ps, μ1, α1, l, rp, rel1, env1, h1⟩ us s2 I2 rv => run_makeG ft hr M Fn I2 rv ⟨ps, μ1, α1, rp, rel1, h1⟩⟩
/-- what is starred -/
theorem star_at (ft : Fit F X) {pins : List (Addr × Obj)} {s : Shared} {E : Value → Shared → Prop} {R : List Value → Shared → Prop} {q : PV} {y : V} {u : Value} {xs : List PV} (I : Inv X pins σ H s) (rel : Rel F μ α H) (hx : starP q α = some xs) (rq : Rep F μ H q y) (ry : RelV y u)
    (h : ∀ us s' vs, Inv X pins σ H s' → Vals vs us → RepL F μ H xs vs → R us s') : PySem.W.StarOf (model X.prog X.w) X.A E u R s := by
  obtain ⟨a, vs, rfl, rl, cc⟩ := itemsS_at rel hx rq
  cases ry
  exact StX.star_any I (by rw [ft.K]; exact cc.elim (fun c => .inl c.2) .inr) fun us s2 I2 rv => h us s2 vs I2 rv rl
theorem starE_of {e : Expr} {sp : Pos} {env : Env} : starEach [.Starred e sp] env = [(true, eval e env)] := rfl
/-- C( *a) -/
theorem k_mkS (ft : Fit F X) (hr : Room (k + 1) X.A) {fI : Addr} {sp : Pos} (hg : Gl X x) (hdb : (x == ("__debug__" : Str)) = false) (hm : X.mg x = some (.ref (F.τ c))) (M : Mk F.K (F.τ c) fI) (Fn : FnRG F.P F.w X.K X.mg X.base k fI (spI F (F.τ c) m)) (he : PE X e (tE F me)) :
    PE X (.Call (.Name x p) [.Starred e sp] [] pos) (tE F fun ρ α => (me ρ α).bind fun p α => match starP p α with
      | some xs => m xs α
      | none => .bad) := by
  refine ⟨fun pins s σ H Q I ⟨μ, ρ, α, h⟩ => ?_⟩
  refine wpAny_Call_Name_kw (ld_glob I hg hm ?_ hdb)
  refine PySem.W.callWith_S (h₀ := X.base) I.ok.mod.kin (by rw [ft.K]; exact M.kp) (thn (he.run pins s σ H _ I ⟨μ, ρ, α, At.bind (R1 := Rep F) h⟩) fun v s1 ⟨y, H1, I1, ry, q, μ1, α1, l, rq, rel1, env1, h1⟩ => ?_) starE_of
  cases hx : starP q α1 with
  | none => rw [hx] at h1; exact h1.elim
  | some xs =>
    rw [hx] at h1
    exact star_at ft I1 rel1 hx rq ry fun us s2 vs I2 rv rl => ⟨I2.kIn, run_makeG ft hr M Fn I2 rv ⟨xs, μ1, α1, rl, rel1, h1⟩⟩
/-- x( *a), x a local name that holds the class -/
theorem k_mkV (ft : Fit F X) (hr : Room (k + 1) X.A) {fI : Addr} {sp : Pos} {i : Nat} (hN : X.N[i]? = some x) (hv : Vis X.env.scope x) (hdb : (x == ("__debug__" : Str)) = false) (hcd : (x == ("__classdict__" : Str)) = false) (M : Mk F.K (F.τ c) fI) (Fn : FnRG F.P F.w X.K X.mg X.base k fI (spI F (F.τ c) m)) (he : PE X e (tE F me)) :
    PE X (.Call (.Name x p) [.Starred e sp] [] pos) (tE F fun ρ α => match ρ[i]? with
      | some (some (.st d)) => need (decide (d = c)) ((me ρ α).bind fun p α => match starP p α with
        | some xs => m xs α
        | none => .bad)
      | _ => .bad) := by
  refine ⟨fun pins s σ H Q I ⟨μ, ρ, α, rel, env, h⟩ => ?_⟩
  dsimp only at h
  split at h
  · rename_i d hd
    obtain ⟨hc, h2⟩ := need_okG h
    have hc := of_decide_eq_true hc
    subst hc
    obtain ⟨v0, e1, rp⟩ := env.2 i _ hd
    cases rp
    refine wpAny_Call_Name_kw (thn ((pe_var hN hv hdb hcd (pos := p)).run pins s σ H (fun v H' => v = .ref (F.τ d) ∧ H' = H) I ⟨_, e1, rfl, rfl⟩) fun u s1 ⟨z, H1, I1, rz, ez, eH⟩ => ?_)
    subst ez eH
    cases rz
    refine PySem.W.callWith_S (h₀ := X.base) I1.ok.mod.kin (by rw [ft.K]; exact M.kp) (thn (he.run pins s1 σ H1 _ I1 ⟨μ, ρ, α, At.bind (R1 := Rep F) ⟨rel, env, h2⟩⟩) fun v s2 ⟨y, H2, I2, ry, q, μ1, α1, l, rq, rel1, env1, h1⟩ => ?_) starE_of
    cases hx : starP q α1 with
    | none => rw [hx] at h1; exact h1.elim
    | some xs =>
      rw [hx] at h1
      exact star_at ft I2 rel1 hx rq ry fun us s2 vs I2 rv rl => ⟨I2.kIn, run_makeG ft hr M Fn I2 rv ⟨xs, μ1, α1, rl, rel1, h1⟩⟩
  · exact h.elim
/-! ### isinstance -/
/-- what is asked of a class's text -/
structure ClsI (K : PySem.W.Frag) (C : Addr) : Prop where
  ha : PySem.W.findIn K (.ref C) "__class__" = some (some (.builtin "object.__class__"))
  hn : PySem.W.specialIn K (.builtin "object.__class__") "__get__" = some (some (.builtin "getset_descriptor.__get__"))
  htk : PySem.W.takesIn K (.builtin "object.__class__") = some true
  hm : PySem.W.mroIn K C (.type "object") = some true
  own : PySem.W.kitOne K (.ref C) (.ref C) = some true
  bi : ∀ t ∈ ["str", "int", "bool", "tuple", "list", "dict"], PySem.W.kitOne K (.ref C) (.type t) = some false
  ty : ∀ t ∈ ["NoneType", "bool", "int", "str", "tuple", "list"], PySem.W.kitOne K (.type t) (.ref C) = some false
theorem tyOf_at (rel : Rel F μ α H) {q : PV} {v : V} {t : String} (h : tyOf α q = some t) (rq : Rep F μ H q v) : TyX F.K H v (.type t) ∧ t ∈ ["NoneType", "bool", "int", "str", "tuple", "list"] := by
  cases rq with
  | non => cases h; exact ⟨.base .non, by decide⟩
  | bl _ => cases h; exact ⟨.base (.bl _), by decide⟩
  | int _ => cases h; exact ⟨.base (.int _), by decide⟩
  | str _ => cases h; exact ⟨.base (.str _), by decide⟩
  | tup e q => cases h; exact ⟨.base (.tup e), by decide⟩
  | tupW e q => cases h; obtain ⟨o, its, n, ho, hc, _⟩ := e; exact ⟨.kTuple ho hc, by decide⟩
  | fl n e q => cases h; exact ⟨.base (.lst e), by decide⟩
  | @ref i a e =>
    simp only [tyOf] at h
    split at h
    · rename_i xs hx
      cases h
      obtain ⟨vs, e1, q⟩ := rel.obj _ _ _ e hx
      exact ⟨.base (.lst e1), by decide⟩
    · cases h
  | _ => cases h
theorem clsV_ty {t : String} {u : Value} (h : (V.ty t) = V.ty t) : ClsV (.ty t) (.type t) := .ty t
/-- isinstance(a, T) -/
theorem k_isT (ft : Fit F X) {t : String} {y : Str} {p2 : Pos} (hb : Blt X "isinstance" (.builtin "isinstance")) (hy : Blt X y (.type t)) (ha : PE X a (tE F ma)) (hs : noStar a = true) :
    PE X (.Call (.Name "isinstance" p) [a, .Name y p2] [] pos) (tN F fun ρ α => (ma ρ α).bind fun p α => isTP p t α) := by
  refine ⟨fun pins s σ H Q I h => ?_⟩
  obtain ⟨μ, ρ, α, rel, env, h⟩ := h
  have hPA : PA X [a, .Name y p2] (tCons (tE F ma) (tCons (tC (.ty t)) tNil)) := pa_cons ha (pa_cons ⟨fun pins s σ H Q I h => ld_blt I hy.gl hy.mg hy.bt ⟨.ty t, H, I, rfl, h⟩ hy.nn hy.nd⟩ pa_nil rfl) (star_cons hs)
  have rd : tCons (tE F ma) (tCons (tC (.ty t)) tNil) σ H fun vs H1 => ∃ v q μ1 α1, vs = [v, .ty t] ∧ Rep F μ1 H1 q v ∧ Rel F μ1 α1 H1 ∧ PostN F μ1 H1 (isTP q t α1) Q :=
    ⟨μ, ρ, α, (At.bindN (R1 := Rep F) rel env h).imp fun v H1 ⟨q, μ1, α1, l, rq, rel1, env1, h1⟩ => ⟨v, q, μ1, α1, rfl, rq, rel1, h1⟩⟩
  refine Call_ (ld_blt I hb.gl hb.mg hb.bt (PyProof.Rows.callWith_builtin1 (thn (hPA.run pos pins s σ H _ I rd) fun us s1 ⟨vs, H1, I1, r1, v, q, μ1, α1, ev, rq, rel1, h1⟩ => ?_) (star_cons hs) rfl) hb.nn hb.nd)
  subst ev
  have go : ∀ (ty : Value) (bb : Bool), TyX X.K H1 v ty → PySem.W.kitOne X.K ty (.type t) = some bb → PostN F μ1 H1 (.ok (.bl bb) α1) Q → wpAny (model X.prog X.w) X.A (call (.builtin "isinstance") us) (EP X pins σ Q) X.xe s1 := fun ty bb h2 h3 h4 =>
    call_isi pins s1 σ H1 _ us Q I1 r1 ⟨v, .ty t, ty, .type t, bb, rfl, .ty t, h2, h3, h4.here rel1 (.bl _) rfl⟩
  unfold isTP at h1
  cases ht : tyOf α1 q with
  | none => rw [ht] at h1; exact h1.elim
  | some tt =>
    rw [ht] at h1
    dsimp only at h1
    cases hk : kitB tt t with
    | none => rw [hk] at h1; exact h1.elim
    | some bb =>
      rw [hk] at h1
      exact go _ bb (by rw [ft.K]; exact (tyOf_at rel1 ht rq).1) (kit_ty hk) h1
/-- isinstance(a, C) -/
theorem k_isC (ft : Fit F X) {y : Str} {p2 : Pos} (hb : Blt X "isinstance" (.builtin "isinstance")) (hg : Gl X y) (hdb : (y == ("__debug__" : Str)) = false) (hm : X.mg y = some (.ref (F.τ c))) (ha : PE X a (tE F ma)) (hs : noStar a = true) (ci : ClsI F.K (F.τ c)) (cl : Cls F.K (F.τ c)) :
    PE X (.Call (.Name "isinstance" p) [a, .Name y p2] [] pos) (tN F fun ρ α => (ma ρ α).bind fun p α => isCP p c α) := by
  refine ⟨fun pins s σ H Q I h => ?_⟩
  obtain ⟨μ, ρ, α, rel, env, h⟩ := h
  have hPA : PA X [a, .Name y p2] (tCons (tE F ma) (tCons (tC (.ref (F.τ c))) tNil)) := pa_cons ha (pa_cons (pe_glob hg hm rfl hdb) pa_nil rfl) (star_cons hs)
  have rd : tCons (tE F ma) (tCons (tC (.ref (F.τ c))) tNil) σ H fun vs H1 => ∃ v q μ1 α1, vs = [v, .ref (F.τ c)] ∧ Rep F μ1 H1 q v ∧ Rel F μ1 α1 H1 ∧ PostN F μ1 H1 (isCP q c α1) Q :=
    ⟨μ, ρ, α, (At.bindN (R1 := Rep F) rel env h).imp fun v H1 ⟨q, μ1, α1, l, rq, rel1, env1, h1⟩ => ⟨v, q, μ1, α1, rfl, rq, rel1, h1⟩⟩
  refine Call_ (ld_blt I hb.gl hb.mg hb.bt (PyProof.Rows.callWith_builtin1 (thn (hPA.run pos pins s σ H _ I rd) fun us s1 ⟨vs, H1, I1, r1, v, q, μ1, α1, ev, rq, rel1, h1⟩ => ?_) (star_cons hs) rfl) hb.nn hb.nd)
  subst ev
  rw [← ft.K] at ci cl
  have go : ∀ (ty : Value) (bb : Bool), TyX X.K H1 v ty → PySem.W.kitOne X.K ty (.ref (F.τ c)) = some bb → PostN F μ1 H1 (.ok (.bl bb) α1) Q → wpAny (model X.prog X.w) X.A (call (.builtin "isinstance") us) (EP X pins σ Q) X.xe s1 := fun ty bb h2 h3 h4 =>
    call_isi pins s1 σ H1 _ us Q I1 r1 ⟨v, .ref (F.τ c), ty, .ref (F.τ c), bb, rfl, .own _, h2, h3, h4.here rel1 (.bl _) rfl⟩
  unfold isCP at h1
  split at h1
  · rename_i d fs
    obtain ⟨hc, h2⟩ := need_ok h1
    have hc := of_decide_eq_true hc
    subst hc
    cases rq with
    | obj n n2 e1 e2 r => exact go _ true (.base (.ins e1 cl ci.ha ci.hn ci.htk ci.hm)) ci.own h2
  · cases ht : tyOf α1 q with
    | none => rw [ht] at h1; exact h1.elim
    | some tt =>
      rw [ht] at h1
      obtain ⟨t1, t2⟩ := tyOf_at rel1 ht rq
      exact go _ false (by rw [ft.K]; exact t1) (ci.ty tt t2) h1
/-! ### the module's constants -/
theorem k_gcon {i : Int} {t : Tok} (hg : Gl X x) (hdb : (x == ("__debug__" : Str)) = false) (hm : X.mg x = some (.int i t)) : PE X (.Name x pos) (tE F fun _ α => .ok (.int i) α) :=
  k_const (pe_glob (v := .int i) hg hm ⟨t, rfl⟩ hdb) fun _ _ => .int i
theorem k_gstr {y : Str} {t : Tok} (hg : Gl X x) (hdb : (x == ("__debug__" : Str)) = false) (hm : X.mg x = some (.str y t)) : PE X (.Name x pos) (tE F fun _ α => .ok (.str y) α) :=
  k_const (pe_glob (v := .str y) hg hm ⟨t, rfl⟩ hdb) fun _ _ => .str y
/-! ### f-strings -/
theorem k_fmt (he : PE X e (tE F me)) : PE X (.FormattedValue e (-1) none pos) (tE F fun ρ α => (me ρ α).bind fun p α => fmtP p α) := by
  refine pe_imp (pe_fmt he) fun σ H Q ⟨μ, ρ, α, h⟩ => ⟨μ, ρ, α, (At.bind (R1 := Rep F) h).imp fun v H1 ⟨q, μ1, α1, l, rq, rel1, env1, h1⟩ => ?_⟩
  cases rq with
  | str y =>
    obtain ⟨hz, h2⟩ := need_okG (show Post F μ1 H1 (need (lineOk y.length) (.ok (.str y) α1)) (Rep F) Q from h1)
    exact .inl ⟨y, rfl, of_decide_eq_true hz, Post.here rel1 h2 (.str y)⟩
  | int i =>
    obtain ⟨hz, h2⟩ := need_okG (show Post F μ1 H1 (need (decide (i.natAbs.log2 < 1920)) (.ok (.str (toString i)) α1)) (Rep F) Q from h1)
    exact .inr ⟨i, rfl, of_decide_eq_true hz, Post.here rel1 h2 (.str _)⟩
  | _ => exact h1.elim
/-- the parts of an f-string -/
structure JP (F : Fx) (X : Cx) (es : List Expr) (ms : Loc' → AH → Res (List PV)) : Prop where
  run : ∃ ts, PJ X es ts ∧ ∀ acc σ H (K : Str → Hp → Prop), tR F (fun _ _ z out => out = z) (fun ρ α => (ms ρ α).bind fun ps α => match catP ps acc with
    | some z => .ok z α
    | none => .bad) σ H K → tJs ts acc σ H K
theorem jp_nil : JP F X [] (fun _ α => .ok [] α) := ⟨[], .nil, fun acc σ H K ⟨μ, ρ, α, rel, env, h⟩ => h μ H acc (.refl F μ H) rel rfl⟩
theorem jp_cons (he : PE X e (tE F me)) (hr : JP F X es ms) : JP F X (e :: es) (fun ρ α => (me ρ α).bind fun p α => (ms ρ α).bind fun ps α => .ok (p :: ps) α) := by
  obtain ⟨ts, h1, h2⟩ := hr.run
  refine ⟨_, .cons he h1, fun acc σ H K ⟨μ, ρ, α, rel, env, h⟩ => ?_⟩
  simp only [bind_assoc] at h
  refine ⟨μ, ρ, α, (At.bind (R1 := Rep F) ⟨rel, env, h⟩).imp fun x H1 ⟨q, μ1, α1, l, rq, rel1, env1, h1⟩ => ?_⟩
  simp only [Res.ok_bind] at h1
  cases q with
  | str y =>
    cases rq
    by_cases hz : lineOk (acc ++ y).length = true
    · refine ⟨y, rfl, of_decide_eq_true hz, h2 _ _ _ _ ⟨μ1, ρ, α1, rel1, env1, ?_⟩⟩
      simpa only [catP, if_pos hz] using h1
    · exfalso
      revert h1
      simp only [catP, if_neg hz]
      cases ms ρ α1 with
      | ok ps α2 => exact fun h => h
      | err c xs a => exact fun h => h
      | bad => exact fun h => h
  | _ =>
    exfalso
    revert h1
    simp only [catP]
    cases ms ρ α1 with
    | ok ps α2 => exact fun h => h
    | err c xs a => exact fun h => h
    | bad => exact fun h => h
theorem k_fstr (h : JP F X es ms) (hl : 2 ≤ es.length) : PE X (.JoinedStr es pos) (tN F fun ρ α => (ms ρ α).bind fun ps α => match catP ps Str.empty with
    | some z => .ok (.str z) α
    | none => .bad) := by
  obtain ⟨ts, h1, h2⟩ := h.run
  match es, hl, h1 with
  | v1 :: v2 :: rest, _, h1 =>
    refine pe_imp (pe_joined h1) fun σ H Q ⟨μ, ρ, α, rel, env, h⟩ => h2 _ _ _ _ ⟨μ, ρ, α, rel, env, ?_⟩
    dsimp only at h
    cases hm : ms ρ α with
    | ok ps α1 =>
      rw [hm] at h
      simp only [Res.ok_bind] at h
      cases hc : catP ps Str.empty with
      | none => rw [hc] at h; exact h.elim
      | some z =>
        rw [hc] at h
        have eq : ((ms ρ α).bind fun ps α => match catP ps Str.empty with
          | some z => Res.ok z α
          | none => .bad) = .ok z α1 := by rw [hm, Res.ok_bind, hc]
        show Post F μ H ((ms ρ α).bind fun ps α => match catP ps Str.empty with
          | some z => Res.ok z α
          | none => .bad) _ _
        rw [eq]
        intro μ1 H1 out l r1 eo
        subst eo
        exact h μ1 H1 _ l r1 (.str _)
    | err c xs a => rw [hm] at h; exact h.elim
    | bad => rw [hm] at h; exact h.elim
/-! ### an own == -/
section
variable {prog : Program} {w : World} {A : Around} {E : Value → Shared → Prop} {s : Shared} {K : PySem.W.Frag} {x' C L fa : Addr} {h₀ : Heap} {mm : Str → Option Value} {ox : Obj} {od : Option Obj} {bv tb : Value}
open PySem.W in
theorem ifBound_ne {M : Model} {args : List Value} {Q : Option Value → Shared → Prop} (X : K.In s.heap) (I : PySem.W.InstAt s.heap x' ox C od) (hs : PySem.W.findIn K (.ref C) "__ne__" = some (some (.builtin "object.__ne__")))
    (h : wpAny M A (call (.builtin "object.__ne__") (.ref x' :: args)) (fun v => Q (some v)) E s) : wpAny M A (callSpecialIfBound? (.ref x') "__ne__" args) Q E s := by
  simp only [callSpecialIfBound?, bindSpecialIfBound?]
  refine wpAny_holding (wpAny_bind (wpAny_bind (wpAny_bind (I.type.here ((PySem.W.looks_findIn X hs).here ?_)))))
  refine wpAny_bind (wpAny_askSetting (wpAny_ite ?_))
  have fin : wpAny M A (call (.builtin "object.__ne__") ([.ref x'] ++ args) >>= fun v => pure (some v)) Q E s := wpAny_bind (wpAny_mono h (fun v s' h' => wpAny_pure h') fun _ _ h' => h')
  split
  · exact wpAny_bind (wpAny_of_eq (F.cmp_object.ne.bind _) (wpAny_pure (by exact fin)))
  · exact wpAny_tryCatch (wpAny_bind (wpAny_of_eq (F.cmp_object.ne.bind _) (wpAny_pure (by exact fin))))
theorem call_ne {Q : Value → Shared → Prop} (hu : A.in1.units < cLine) (X : K.In s.heap) (I : PySem.W.InstAt s.heap x' ox C od) (hm : PySem.W.mroIn K C (.type "object") = some true) (hs : PySem.W.findIn K (.ref C) "__eq__" = some (some (.ref fa))) (hf : PySem.W.isFn K (.ref fa) = true)
    (h : wpAny (model prog w) A.in1 (call (.ref fa) [.ref x', bv]) (fun v s' => ∃ t, v = .bool t ∧ Q (.bool (!t)) s') E s) : wpAny (model prog w) A (call (.builtin "object.__ne__") [.ref x', bv]) Q E s := by
  refine wpAny_call (codeAny_call_builtin F.cmp_object.ne.plain F.cmpEntry_ne (PySem.W.check_slot F.cmpKind_ne F.cmpSplit_ne (I.type.andThen (PySem.W.looks_mroIn X hm)) (F.cmpArgs_ne _ _) ?_))
  unfold Builtin.«object.__ne__»
  refine wpAny_bind (m := slotArgs "__ne__" 1 _) (wpAny_pure ?_)
  refine wpAny_bind (m := cRoomFor _ _) (wpAny_cRoomFor hu ?_)
  refine wpAny_bind (m := callSpecialIfBound? (.ref x') (Str.ofString "__eq__") _) (PySem.W.ifBound_K X I hs hf (wpAny_mono h (fun r s' hq => ?_) fun _ _ y => y))
  obtain ⟨t, rfl, q⟩ := hq
  exact wpAny_bind (wpAny_truthy_bool (wpAny_pure q))
theorem rich_ne {Q : Value → Shared → Prop} (hu : A.units + 1 < cLine) (Fr' : PyProof.Rows.Fr h₀ L s.heap mm) (X₀ : K.In h₀) (I : PySem.W.InstAt s.heap x' ox C od) (hb : PySem.W.Looks (model prog w) s.heap (typeOf bv) tb) (hn : PySem.W.notFirst K C tb = true)
    (hne : PySem.W.findIn K (.ref C) "__ne__" = some (some (.builtin "object.__ne__"))) (hm : PySem.W.mroIn K C (.type "object") = some true) (hs : PySem.W.findIn K (.ref C) "__eq__" = some (some (.ref fa))) (hf : PySem.W.isFn K (.ref fa) = true)
    (h : wpAny (model prog w) A.in1 (call (.ref fa) [.ref x', bv]) (fun v s' => ∃ t, v = .bool t ∧ Q (.bool (!t)) s') E s) : wpAny (model prog w) A (richCompare .NotEq (.ref x') bv) Q E s := by
  have X := X₀.keeps Fr'.keep
  have one : wpAny (model prog w) A (tryCompare (.ref x') (cmpInfo .NotEq).2.1 bv) (fun r s' => ∃ v, r = some v ∧ Q v s') E s := by
    unfold tryCompare
    refine wpAny_bind (ifBound_ne X I hne (call_ne (by simp only [Around.in1_units]; omega) X I hm hs hf (wpAny_mono h (fun v s' hv => ?_) fun _ _ e => e)))
    obtain ⟨t, rfl, q⟩ := hv
    exact ⟨t, rfl, wpAny_pure ⟨_, rfl, q⟩⟩
  unfold richCompare
  simp only [oneThing_ref]
  refine wpAny_holding (wpAny_bind (wpAny_cRoomFor (by omega) ?_))
  refine wpAny_bind (I.type.here (wpAny_bind (hb.here ?_)))
  split
  · rename_i q
    have e : PySem.W.subIn K tb (.ref C) = some false := by
      rcases Bool.or_eq_true_iff.mp hn with e | e
      · rw [beq_iff_eq.mp e] at q; simp at q
      · exact beq_iff_eq.mp e
    refine wpAny_bind ((PySem.W.looks_subIn X e).here ?_)
    simp only [Bool.false_eq_true, if_false]
    refine wpAny_bind (wpAny_mono one (fun r s' z => ?_) fun _ _ e => e)
    obtain ⟨v, rfl, hq⟩ := z
    exact wpAny_pure hq
  · refine wpAny_bind (wpAny_pure ?_)
    simp only [Bool.false_eq_true, if_false]
    refine wpAny_bind (wpAny_mono one (fun r s' z => ?_) fun _ _ e => e)
    obtain ⟨v, rfl, hq⟩ := z
    exact wpAny_pure hq
end
/-- what is asked of a class with an own == -/
structure ClsEq (K : PySem.W.Frag) (C fa : Addr) : Prop where
  eq : PySem.W.findIn K (.ref C) "__eq__" = some (some (.ref fa))
  fn : PySem.W.isFn K (.ref fa) = true
  ne : PySem.W.findIn K (.ref C) "__ne__" = some (some (.builtin "object.__ne__"))
  hm : PySem.W.mroIn K C (.type "object") = some true
def oeqP (neg : Bool) (c : Nat) (m : List PV → AH → Res PV) (p q : PV) (α : AH) : Res PV := need (isObj c p && isObj c q) ((m [p, q] α).bind fun r α => (truth r α).bind fun t α => .ok (.bl (t != neg)) α)
theorem op_oeq (ft : Fit F X) (hr : Room (k + 1) X.A) {g : Addr} (ce : ClsEq F.K (F.τ c) g) (Fn : FnRG F.P F.w X.K X.mg X.base k g (spA F m)) : ∀ neg : Bool, OpN F X (compareOp (cond neg .NotEq .Eq)) (oeqP neg c m) := by
  intro neg pins s σ H x y v u Q I rx ry h
  obtain ⟨p, q, μ, α, rel, rp, rq, h⟩ := h
  obtain ⟨hc, h⟩ := need_ok h
  rw [Bool.and_eq_true] at hc
  obtain ⟨fs, a1, dx, vs, rfl, rfl, e1, r1⟩ := isObj_at hc.1 rp
  obtain ⟨gs, b1, dy, ws, rfl, rfl, e2, r2⟩ := isObj_at hc.2 rq
  cases rx; cases ry
  obtain ⟨mA, O, _, _, _, _⟩ := ins_get I.hok e1
  obtain ⟨mB, O', _, _, _, _⟩ := ins_get I.hok e2
  obtain ⟨od, J, _⟩ := O.look
  obtain ⟨od', J', _⟩ := O'.look
  obtain ⟨mf, hF⟩ := I.fr
  have un := ft.room
  rw [← ft.K] at ce
  rw [← ft.P, ← ft.w] at Fn
  have post : Post F μ H (m [.obj c fs, .obj c gs] α) (Rep F) (fun z H' => ∃ t, z = .bl t ∧ Q (.bl (t != neg)) H') := by
    cases hm : m [.obj c fs, .obj c gs] α with
    | err e xs a => rw [hm] at h; exact h.elim
    | bad => rw [hm] at h; exact h.elim
    | ok r α1 =>
      rw [hm] at h
      intro μ1 H1 z l rel1 rz
      simp only [Res.ok_bind] at h
      cases r with
      | bl t =>
        cases rz
        exact ⟨t, rfl, h μ1 H1 _ l rel1 (.bl _)⟩
      | _ => exact h.elim
  have sp0 : spA F m [.ref a1, .ref b1] H (fun z H' => ∃ t, z = .bl t ∧ Q (.bl (t != neg)) H') E0 := ⟨μ, α, [.obj c fs, .obj c gs], rel, .cons rp (.cons rq .nil), post⟩
  have hn : PySem.W.notFirst X.K (F.τ c) (.ref (F.τ c)) = true := by simp [PySem.W.notFirst]
  cases neg with
  | false =>
    show wpAny _ _ (richCompare .Eq (.ref a1) (.ref b1)) _ _ _
    refine PySem.W.cmp_K (op := .Eq) (tb := .ref (F.τ c)) (by omega) hF I.ok.mod.kin J J'.type hn ce.eq ce.fn ?_
    refine wpAny_call (codeAny_mono (Fn X.A X.stack s H [.ref a1, .ref b1] [.ref a1, .ref b1] _ E0 (hr.mono (Nat.le_succ k)) ft.gd I.env0 (.cons rfl (.cons rfl .nil)) sp0) fun r s' hq => ?_)
    cases r with
    | error e => exact hq.elim
    | ok fl =>
      cases fl with
      | ret w =>
        obtain ⟨z, H', I', rz, t, ez, qz⟩ := I.after hq
        subst ez
        cases rz
        exact ⟨.bl t, H', I', rfl, by simpa using qz⟩
      | next => exact False.elim hq
      | brk => exact False.elim hq
      | cont => exact False.elim hq
  | true =>
    show wpAny _ _ (richCompare .NotEq (.ref a1) (.ref b1)) _ _ _
    refine rich_ne (tb := .ref (F.τ c)) (by omega) hF I.ok.mod.kin J J'.type hn ce.ne ce.hm ce.eq ce.fn ?_
    refine wpAny_call (codeAny_mono (Fn X.A.in1 X.stack s H [.ref a1, .ref b1] [.ref a1, .ref b1] _ E0 hr.in1 ft.gd I.env0.in1 (.cons rfl (.cons rfl .nil)) sp0) fun r s' hq => ?_)
    cases r with
    | error e => exact hq.elim
    | ok fl =>
      cases fl with
      | ret w =>
        obtain ⟨z, H', I', rz, t, ez, qz⟩ := I.after hq
        subst ez
        cases rz
        exact ⟨t, rfl, .bl _, H', I', rfl, by simpa using qz⟩
      | next => exact False.elim hq
      | brk => exact False.elim hq
      | cont => exact False.elim hq
def oeqS (neg : Bool) : CmpOp := cond neg .NotEq .Eq
theorem k_oeq (ft : Fit F X) (hr : Room (k + 1) X.A) {g : Addr} {neg : Bool} (ce : ClsEq F.K (F.τ c) g) (Fn : FnRG F.P F.w X.K X.mg X.base k g (spA F m)) (ha : PE X a (tE F ma)) (hb : PE X b (tE F mb)) (hm : behindInMarks (oeqS neg) b = false) :
    PE X (.Compare a [oeqS neg] [b] pos) (tN F fun ρ α => (ma ρ α).bind fun p α => (mb ρ α).bind fun q α => oeqP neg c m p q α) ∧
      PT X (.Compare a [oeqS neg] [b] pos) (tB' F (tst fun ρ α => (ma ρ α).bind fun p α => (mb ρ α).bind fun q α => oeqP neg c m p q α)) := by
  have e : PE X (.Compare a [oeqS neg] [b] pos) (tN F fun ρ α => (ma ρ α).bind fun p α => (mb ρ α).bind fun q α => oeqP neg c m p q α) := pe_imp (pe_cmpR (op_oeq ft hr ce Fn neg) ha hb hm) fun σ H Q h => tE2_bindN h
  refine ⟨e, pt_imp (pt_cmpR (op_oeq ft hr ce Fn neg) ha hb hm) fun σ H Q ⟨μ, ρ, α, h⟩ => ?_⟩
  refine tE2_bindN (n := fun p q α => oeqP neg c m p q α) (Q := fun x H' => ∃ k, x = .bl k ∧ Q k H') ⟨μ, ρ, α, h.1, h.2.1, ?_⟩
  have h3 := h.2.2
  unfold tst at h3
  dsimp only at h3 ⊢
  revert h3
  cases ma ρ α with
  | err c xs a => exact fun h => h.elim
  | bad => exact fun h => h.elim
  | ok p α1 =>
    simp only [Res.ok_bind]
    cases mb ρ α1 with
    | err c xs a => exact fun h => h.elim
    | bad => exact fun h => h.elim
    | ok q α2 =>
      simp only [Res.ok_bind, oeqP]
      cases hc : isObj c p && isObj c q with
      | false => exact fun h => h.elim
      | true =>
        simp only [need_true]
        cases hm : m [p, q] α2 with
        | err c xs a => exact fun h => h.elim
        | bad => exact fun h => h.elim
        | ok r α3 =>
          simp only [Res.ok_bind]
          cases r with
          | bl t =>
            intro h μ' H' v l rel' rv
            cases rv
            exact ⟨_, rfl, h μ' H' _ l rel' rfl⟩
          | _ => exact fun h => h.elim
end
end Mw
end
section
set_option Elab.async false
set_option linter.all false
set_option maxRecDepth 100000
set_option maxHeartbeats 2000000
/-! Mw15: the checker: a term of the small language against the program's text. -/
namespace Mw
open PySem PySem.Spec PyProof.Rows L2

/-- a class of the text: its name; the def of its __init__; fields; properties, methods, classmethods by their defs; the def of its == -/
structure Cl where
  name : Str
  init : Nat
  fields : List Str
  props : List (Str × Nat)
  meths : List (Str × Nat)
  cmeths : List (Str × Nat)
  eq : Option Nat
/-- the tables: the defs; the module's names of defs; the calls with keywords (def, positional values, names, where the parameters stand); the module's ints and texts; the classes -/
structure Tab where
  fs : List FD
  gn : List (Str × Nat)
  kw : List (Nat × Nat × List Str × List Nat)
  gi : List (Str × Int) := []
  gs : List (Str × Str) := []
  cls : List Cl := []
def Tab.cl (B : Tab) (c : Nat) (f : Cl → Bool) : Bool := match B.cls[c]? with
  | some k => f k
  | none => false
def isVis (sc : Scope) (x : Str) : Bool := match sc.names.lookup x with
  | some .local => true
  | some .cell => true
  | some .free => true
  | _ => false
def isLoc (sc : Scope) (x : Str) : Bool := match sc.names.lookup x with
  | some .local => true
  | some .cell => true
  | _ => false
def isGlb (sc : Scope) (x : Str) : Bool := match sc.names.lookup x with
  | some .globalImplicit => true
  | _ => false
def notDbg (x : Str) : Bool := !(x == ("__debug__" : Str)) && !(x == ("__classdict__" : Str))
def B1.nm : B1 → Str
  | .len => "len"
  | .list => "list"
  | .tuple => "tuple"
  | .sorted => "sorted"
  | .all => "all"
  | .any => "any"
  | .repr => "repr"
  | .str => "str"
  | .int => "int"
  | .set => "set"
  | .dict => "dict"
  | .min => "min"
  | .max => "max"
def B2.nm : B2 → Str
  | .min => "min"
  | .max => "max"
def bltNames : List Str := ["len", "list", "tuple", "sorted", "all", "any", "repr", "str", "min", "max", "range", "int", "isinstance", "bool", "dict", "enumerate", "zip"]
/-- the types that isinstance asks for -/
def isTypes : List String := ["str", "int", "bool", "tuple", "list", "dict"]
def isNew : E → Bool
  | .lst _ => true
  | .dct _ => true
  | .bin _ _ _ => true
  | .sl _ _ _ => true
  | .rev _ => true
  | .b1 _ _ => true
  | .comp _ _ _ _ _ => true
  | .dcomp _ _ _ _ _ _ => true
  | _ => false
def isTup : Expr → Bool
  | .Tuple _ _ _ => true
  | _ => false
mutual
def T.slots : T → List Nat
  | .var i => [i]
  | .tup ts => Ts.slots ts
  | .sub _ _ => []
def Ts.slots : Ts → List Nat
  | .nil => []
  | .cons t ts => T.slots t ++ Ts.slots ts
end
def ownOf (N : List Str) (own : List Nat) : List (Str × Nat) := own.filterMap fun i => (N[i]?).map fun x => (x, i)
mutual
def cE (B : Tab) (N : List Str) : E → Scope → Expr → Bool
  | .var i, sc, e => match e with
    | .Name x _ => decide (N[i]? = some x) && isVis sc x && notDbg x
    | _ => false
  | .non, _, e => match e with
    | .Constant c _ _ => match c with
      | .none => true
      | _ => false
    | _ => false
  | .bl b, _, e => match e with
    | .Constant c _ _ => match c with
      | .bool k => k == b
      | _ => false
    | _ => false
  | .int i, _, e => match e with
    | .Constant c _ _ => match c with
      | .int k => decide (k = i)
      | _ => false
    | _ => false
  | .str x, _, e => match e with
    | .Constant c _ _ => match c with
      | .str k => decide (k = x)
      | _ => false
    | _ => false
  | .tup es, sc, e => match e with
    | .Tuple es' _ _ => cEs B N es sc es'
    | _ => false
  | .lst es, sc, e => match e with
    | .List es' _ => cEs B N es sc es'
    | _ => false
  | .dct ps, sc, e => match e with
    | .Dict ks vs _ => cPs B N ps sc ks vs && decide (ks.length ≤ 15)
    | _ => false
  | .bin o a b, sc, e => match e with
    | .BinOp a' o' b' _ => decide (o' = bopS o) && decide (o ≠ .bor) && cE B N a sc a' && cE B N b sc b'
    | _ => false
  | .cmp o a b, sc, e => match e with
    | .Compare a' [o'] [b'] _ => decide (o' = copS o) && !behindInMarks (copS o) b' && cE B N a sc a' && cE B N b sc b'
    | _ => false
  | .chain o p a b c, sc, e => match e with
    | .Compare a' [o', p'] [b', c'] _ => decide (o' = copS o) && decide (p' = copS p) && !lastMarks [copS o, copS p] [b', c'] && cE B N a sc a' && cE B N b sc b' && cE B N c sc c'
    | _ => false
  | .neg a, sc, e => match e with
    | .UnaryOp o a' _ => match o with
      | .USub => cE B N a sc a'
      | _ => false
    | _ => false
  | .and a b, sc, e => match e with
    | .BoolOp .And (a' :: b' :: rest) pos => cE B N a sc a' && (match rest with
      | [] => cE B N b sc b'
      | _ => cE B N b sc (.BoolOp .And (b' :: rest) pos))
    | _ => false
  | .or a b, sc, e => match e with
    | .BoolOp .Or (a' :: b' :: rest) pos => cE B N a sc a' && (match rest with
      | [] => cE B N b sc b'
      | _ => cE B N b sc (.BoolOp .Or (b' :: rest) pos))
    | _ => false
  | .not a, sc, e => match e with
    | .UnaryOp o a' _ => match o with
      | .Not => cE B N a sc a'
      | _ => false
    | _ => false
  | .ife c a b, sc, e => match e with
    | .IfExp c' a' b' _ => cE B N c sc c' && cE B N a sc a' && cE B N b sc b'
    | _ => false
  | .ix a i, sc, e => match e with
    | .Subscript a' i' _ => noSlice i' && cE B N a sc a' && cE B N i sc i'
    | _ => false
  | .sl a lo hi, sc, e => match e with
    | .Subscript a' (.Slice lo' hi' none _) _ => cE B N a sc a' && cO B N lo sc lo' && cO B N hi sc hi'
    | _ => false
  | .rev a, sc, e => match e with
    | .Subscript a' (.Slice none none (some (.UnaryOp .USub (.Constant (.int j) _ _) _)) _) _ => decide (j = 1) && cE B N a sc a'
    | _ => false
  | .b1 f a, sc, e => match e with
    | .Call (.Name x _) [a'] [] _ => decide (x = f.nm) && isGlb sc x && noStar a' && cE B N a sc a' && okB1 f
    | _ => false
  | .b2 f a b, sc, e => match e with
    | .Call (.Name x _) [a', b'] [] _ => decide (x = f.nm) && isGlb sc x && noStar a' && noStar b' && cE B N a sc a' && cE B N b sc b'
    | _ => false
  | .mth m o es, sc, e => match e with
    | .Call (.Attribute o' nm apos) es' [] cpos => decide (nm = m.name) && noCall o' && (apos.endLine == cpos.line) && decide (es'.length < 30) && cE B N o sc o' && cEs B N es sc es' && okM m
    | _ => false
  | .call f es, sc, e => match e with
    | .Call (.Name x _) es' [] _ => decide ((x, f) ∈ B.gn) && isGlb sc x && notDbg x && cEs B N es sc es' && (B.fs[f]?).any (fun fd => fd.init.isNone)
    | _ => false
  | .callK f n ks perm es kes, sc, e => match e with
    | .Call (.Name x _) es' kws _ => decide ((x, f) ∈ B.gn) && isGlb sc x && notDbg x && decide ((f, n, ks, perm) ∈ B.kw) && decide (kws.map (·.arg) = ks.map some) && cEs B N es sc es' && cEs B N kes sc (kws.map (·.value)) &&
        (decide (n = 0) || !es'.isEmpty)
    | _ => false
  | .comp t own it cond elt, sc, e => match e with
    | .ListComp elt' [⟨tg, iter, ifs, asy⟩] scope _ => decide (asy = 0) && decide ((ownOf N own).map (·.2) = own) && blkC N sc scope (ownOf N own) && noSet iter && cI B N it sc tg iter && cT B N t scope tg && decide (∀ j ∈ t.slots, j ∈ own) &&
        cC B N cond scope ifs && cE B N elt scope elt'
    | _ => false
  | .join a, sc, e => isNew a && cE B N a sc e
  | .dead, _, _ => true
  | .gcon x i, sc, e => match e with
    | .Name y _ => decide (y = x) && isGlb sc y && notDbg y && decide ((x, i) ∈ B.gi)
    | _ => false
  | .gstr x z, sc, e => match e with
    | .Name y _ => decide (y = x) && isGlb sc y && notDbg y && decide ((x, z) ∈ B.gs)
    | _ => false
  | .fld c o f, sc, e => match e with
    | .Attribute o' nm _ => decide (nm = f) && noSup o' && B.cl c (fun k => decide (f ∈ k.fields)) && cE B N o sc o'
    | _ => false
  | .meth c j m o es, sc, e => match e with
    | .Call (.Attribute o' nm apos) es' [] cpos => decide (nm = m) && noSup o' && (apos.endLine == cpos.line) && decide (es'.length + 1 < 30) && B.cl c (fun k => decide ((m, j) ∈ k.meths)) && (B.fs[j]?).any (fun fd => fd.init.isNone) && cE B N o sc o' && cEs B N es sc es'
    | _ => false
  | .methK c j m o n ks perm es kes, sc, e => match e with
    | .Call (.Attribute o' nm apos) es' kws cpos => decide (nm = m) && noSup o' && (apos.endLine == cpos.line) && decide (es'.length + kws.length + 1 < 30) && B.cl c (fun k => decide ((m, j) ∈ k.meths)) && decide ((j, n + 1, ks, perm) ∈ B.kw) && decide (kws.map (·.arg) = ks.map some) && cE B N o sc o' &&
        cEs B N es sc es' && cEs B N kes sc (kws.map (·.value))
    | _ => false
  | .prop c j f o, sc, e => match e with
    | .Attribute o' nm _ => decide (nm = f) && noSup o' && B.cl c (fun k => decide ((f, j) ∈ k.props)) && (B.fs[j]?).any (fun fd => fd.init.isNone) && cE B N o sc o'
    | _ => false
  | .cmeth c j m es, sc, e => match e with
    | .Call (.Attribute (.Name x _) nm apos) es' [] cpos => decide (nm = m) && isGlb sc x && notDbg x && (apos.endLine == cpos.line) && decide (es'.length + 1 < 30) && B.cl c (fun k => decide (k.name = x) && decide ((m, j) ∈ k.cmeths)) && (B.fs[j]?).any (fun fd => fd.init.isNone) && cEs B N es sc es'
    | _ => false
  | .cmethK c j m n ks perm es kes, sc, e => match e with
    | .Call (.Attribute (.Name x _) nm apos) es' kws cpos => decide (nm = m) && isGlb sc x && notDbg x && (apos.endLine == cpos.line) && decide (es'.length + kws.length + 1 < 30) && B.cl c (fun k => decide (k.name = x) && decide ((m, j) ∈ k.cmeths)) && decide ((j, n + 1, ks, perm) ∈ B.kw) &&
        decide (kws.map (·.arg) = ks.map some) && cEs B N es sc es' && cEs B N kes sc (kws.map (·.value))
    | _ => false
  | .mk c j es, sc, e => match e with
    | .Call (.Name x _) es' [] _ => isGlb sc x && notDbg x && B.cl c (fun k => decide (k.name = x) && decide (k.init = j)) && (B.fs[j]?).any (fun fd => fd.init.map (·.1) == some c) && cEs B N es sc es'
    | _ => false
  | .mkS c j a, sc, e => match e with
    | .Call (.Name x _) [.Starred a' _] [] _ => isGlb sc x && notDbg x && B.cl c (fun k => decide (k.name = x) && decide (k.init = j)) && (B.fs[j]?).any (fun fd => fd.init.map (·.1) == some c) && cE B N a sc a'
    | _ => false
  | .mkV c j i a, sc, e => match e with
    | .Call (.Name x _) [.Starred a' _] [] _ => decide (N[i]? = some x) && isVis sc x && notDbg x && B.cl c (fun k => decide (k.init = j)) && (B.fs[j]?).any (fun fd => fd.init.map (·.1) == some c) && cE B N a sc a'
    | _ => false
  | .isT a t, sc, e => match e with
    | .Call (.Name x _) [a', .Name y _] [] _ => decide (x = "isinstance") && isGlb sc x && decide (y = Str.ofString t) && decide (t ∈ isTypes) && isGlb sc y && noStar a' && cE B N a sc a'
    | _ => false
  | .isC a c, sc, e => match e with
    | .Call (.Name x _) [a', .Name y _] [] _ => decide (x = "isinstance") && isGlb sc x && isGlb sc y && notDbg y && B.cl c (fun k => decide (k.name = y)) && noStar a' && cE B N a sc a'
    | _ => false
  | .oeq neg c j a b, sc, e => match e with
    | .Compare a' [o'] [b'] _ => decide (o' = oeqS neg) && !behindInMarks (oeqS neg) b' && B.cl c (fun k => decide (k.eq = some j)) && (B.fs[j]?).any (fun fd => fd.init.isNone) && cE B N a sc a' && cE B N b sc b'
    | _ => false
  | .olen _ _ _, _, _ => false
  | .fstr es, sc, e => match e with
    | .JoinedStr es' _ => decide (2 ≤ es'.length) && cEs B N es sc es'
    | _ => false
  | .fmt a, sc, e => match e with
    | .FormattedValue a' cv none _ => decide (cv = -1) && cE B N a sc a'
    | _ => false
  | .scomp t own it cond elt, sc, e => match e with
    | .SetComp elt' [⟨tg, iter, ifs, asy⟩] scope _ => decide (asy = 0) && decide ((ownOf N own).map (·.2) = own) && blkC N sc scope (ownOf N own) && noSet iter && cI B N it sc tg iter && cT B N t scope tg && decide (∀ j ∈ t.slots, j ∈ own) &&
        cC B N cond scope ifs && cE B N elt scope elt'
    | _ => false
  | .scomp2 t own it t2 own2 it2 elt, sc, e => match e with
    | .SetComp elt' [⟨tg, iter, ifs, asy⟩, ⟨tg2, iter2, ifs2, asy2⟩] scope _ => decide (asy = 0) && decide (asy2 = 0) && decide (ifs.isEmpty ∧ ifs2.isEmpty) && decide ((ownOf N own).map (·.2) = own) && blkC N sc scope (ownOf N own) && noSet iter && noSet iter2 && cI B N it sc tg iter &&
        cT B N t scope tg && decide (∀ j ∈ t.slots, j ∈ own) && decide (∀ j ∈ own2, j ∈ own) && cI B N it2 scope tg2 iter2 && cT B N t2 scope tg2 && decide (∀ j ∈ t2.slots, j ∈ own2) && cE B N elt scope elt'
    | _ => false
  | .dcomp t own it cond k v, sc, e => match e with
    | .DictComp k' v' [⟨tg, iter, ifs, asy⟩] scope _ => decide (asy = 0) && decide ((ownOf N own).map (·.2) = own) && blkC N sc scope (ownOf N own) && noSet iter && cI B N it sc tg iter && cT B N t scope tg && decide (∀ j ∈ t.slots, j ∈ own) &&
        cC B N cond scope ifs && cE B N k scope k' && cE B N v scope v'
    | _ => false
  | .listI _, _, _ => false
  | .tupI _, _, _ => false
def cO (B : Tab) (N : List Str) : OE → Scope → Option Expr → Bool
  | .none, _, e => match e with
    | none => true
    | _ => false
  | .some a, sc, e => match e with
    | some a' => cE B N a sc a'
    | _ => false
def cC (B : Tab) (N : List Str) : OE → Scope → List Expr → Bool
  | .none, _, e => match e with
    | [] => true
    | _ => false
  | .some a, sc, e => match e with
    | [a'] => cE B N a sc a'
    | _ => false
def cEs (B : Tab) (N : List Str) : Es → Scope → List Expr → Bool
  | .nil, _, es => match es with
    | [] => true
    | _ => false
  | .cons a r, sc, es => match es with
    | e :: es' => noStar e && cE B N a sc e && cEs B N r sc es'
    | _ => false
def cPs (B : Tab) (N : List Str) : Ps → Scope → List (Option Expr) → List Expr → Bool
  | .nil, _, ks, vs => match ks, vs with
    | [], [] => true
    | _, _ => false
  | .cons k v r, sc, ks, vs => match ks, vs with
    | some k' :: ks', v' :: vs' => cE B N k sc k' && cE B N v sc v' && cPs B N r sc ks' vs'
    | _, _ => false
def cT (B : Tab) (N : List Str) : T → Scope → Expr → Bool
  | .var i, sc, e => match e with
    | .Name x _ => decide (N[i]? = some x) && isLoc sc x
    | _ => false
  | .tup ts, sc, e => match e with
    | .Tuple es _ _ => cTs B N ts sc es
    | _ => false
  | .sub o i, sc, e => match e with
    | .Subscript o' i' _ => noSlice i' && cE B N o sc o' && cE B N i sc i'
    | _ => false
def cTs (B : Tab) (N : List Str) : Ts → Scope → List Expr → Bool
  | .nil, _, es => match es with
    | [] => true
    | _ => false
  | .cons t ts, sc, es => match es with
    | e :: es' => noStar e && cT B N t sc e && cTs B N ts sc es'
    | _ => false
def cI (B : Tab) (N : List Str) : It → Scope → Expr → Expr → Bool
  | .val a, sc, _, e => cE B N a sc e
  | .range1 a, sc, _, e => match e with
    | .Call (.Name x _) [a'] [] _ => decide (x = "range") && isGlb sc x && noStar a' && cE B N a sc a'
    | _ => false
  | .range2 a b, sc, _, e => match e with
    | .Call (.Name x _) [a', b'] [] _ => decide (x = "range") && isGlb sc x && noStar a' && noStar b' && cE B N a sc a' && cE B N b sc b'
    | _ => false
  | .values a, sc, _, e => match e with
    | .Call (.Attribute o nm apos) [] [] cpos => decide (nm = "values") && noCall o && (apos.endLine == cpos.line) && cE B N a sc o
    | _ => false
  | .items a, sc, tg, e => isTup tg && (match e with
    | .Call (.Attribute o nm apos) [] [] cpos => decide (nm = "items") && noCall o && (apos.endLine == cpos.line) && cE B N a sc o
    | _ => false)
  | .keys a, sc, _, e => cE B N a sc e
  | .enum a, sc, tg, e => isTup tg && (match e with
    | .Call (.Name x _) [a'] [] _ => decide (x = "enumerate") && isGlb sc x && noStar a' && cE B N a sc a'
    | _ => false)
  | .zip a b, sc, tg, e => isTup tg && (match e with
    | .Call (.Name x _) [a', b'] [] _ => decide (x = "zip") && isGlb sc x && noStar a' && noStar b' && cE B N a sc a' && cE B N b sc b'
    | _ => false)
end
/-- no two names' stores are exchanged -/
def notLoc (sc : Scope) : Expr → Bool
  | .Name x _ => decide (sc.names.lookup x = some .cell)
  | .Subscript _ _ _ => true
  | .Attribute _ _ _ => true
  | _ => false
def swNone (sc : Scope) (tg e : Expr) : Bool := match tg with
  | .Tuple ts _ _ => match e with
    | .Tuple vs _ _ => !(ts.length == 2 || ts.length == 3) || vs.length != ts.length || vs.all (foldedForSure 8) || ts.any (notLoc sc)
    | _ => true
  | .List _ _ => false
  | _ => true
/-- the stores are exchanged, these names -/
def parOk (N : List Str) (sc : Scope) : List Nat → List Expr → Nat → Bool
  | [], [], _ => true
  | i :: is, .Name x p :: ts, line => decide (N[i]? = some x) && decide (sc.names.lookup x = some .local) && (p.line == line) && parOk N sc is ts line
  | _, _, _ => false
def lineOf (ts : List Expr) : Nat := (ts.head?.map (·.pos.line)).getD 0
mutual
def cS (B : Tab) (N : List Str) (sc : Scope) : S → Stmt → Bool
  | .pass, st => match st with
    | .Pass _ => true
    | _ => false
  | .brk, st => match st with
    | .Break _ => true
    | _ => false
  | .cont, st => match st with
    | .Continue _ => true
    | _ => false
  | .dead, _ => true
  | .expr e, st => match st with
    | .Expr e' _ => noComp e' && cE B N e sc e'
    | _ => false
  | .asg t e, st => match st with
    | .Assign [tg] e' pos => noStar tg && cT B N t sc tg && cE B N e sc e' && swNone sc tg e' && (noComp e' || (match e' with
      | .ListComp _ _ scope vp => (match tg with
        | .Name y py => decide (sc.names.lookup y = some .cell) || (decide (sc.names.lookup y = some .local) && (py.line == vp.line) && !(scope.names.any fun (n, k) => n == y && (k == .local || k == .cell)) && (match e with
          | .comp _ _ _ _ _ => true
          | .join (.comp _ _ _ _ _) => true
          | _ => false))
        | .Subscript _ _ _ => true
        | _ => false)
      | _ => false))
    | _ => false
  | .par is es, st => match st with
    | .Assign [.Tuple ts _ _] (.Tuple es' _ _) _ => (is.length == 2 || is.length == 3) && (es'.length == is.length) && parOk N sc is ts (lineOf ts) && decide (is.Nodup) && !es'.all (foldedForSure 8) && !es'.all (constantsAlone 8) && cEs B N es sc es'
    | _ => false
  | .aug i o e, st => match st with
    | .AugAssign (.Name x _) o' e' _ => decide (N[i]? = some x) && isLoc sc x && ((decide (o = .add) && decide (o' = .Add)) || (decide (o = .sub) && decide (o' = .Sub))) && cE B N e sc e'
    | _ => false
  | .ret e, st => match st with
    | .Return (some e') _ => cE B N e sc e'
    | _ => false
  | .retN, st => match st with
    | .Return none _ => true
    | _ => false
  | .ife c a b, st => match st with
    | .If c' a' b' _ => cE B N c sc c' && cSs B N sc a a' && cSs B N sc b b'
    | _ => false
  | .whl c b, st => match st with
    | .While c' b' [] _ => cE B N c sc c' && cSs B N sc b b'
    | _ => false
  | .loop t it b, st => match st with
    | .For tg iter b' [] _ => noSet iter && cI B N it sc tg iter && cT B N t sc tg && cSs B N sc b b'
    | _ => false
def cSs (B : Tab) (N : List Str) (sc : Scope) : Ss → List Stmt → Bool
  | .nil, ss => match ss with
    | [] => true
    | _ => false
  | .cons s r, ss => match ss with
    | st :: ss' => cS B N sc s st && cSs B N sc r ss'
    | _ => false
end
end Mw
end
section
set_option Elab.async false
set_option linter.all false
set_option maxRecDepth 100000
set_option maxHeartbeats 4000000
/-! Mw16: what is checked keeps its denotation: expressions. -/
namespace Mw
open PySem PySem.Spec PyProof.Rows L2

/-- a scope of the text and the names of the frame -/
structure See (N : List Str) (sc : Scope) (X : Cx) : Prop where
  n : X.N = N
  loc : ∀ x, sc.names.lookup x = some .local → X.env.scope.names.lookup x = some .local
  cel : ∀ x, sc.names.lookup x = some .cell → X.env.scope.names.lookup x = some .cell ∧ X.fn x = true
  fre : ∀ x, sc.names.lookup x = some .free → X.env.scope.names.lookup x = some .cell ∨ X.env.scope.names.lookup x = some .free
  glb : ∀ x, sc.names.lookup x = some .globalImplicit → X.env.scope.names.lookup x = some .globalImplicit
/-- a class of the text -/
structure ClsT (F : Fx) (mg : Str → Option Value) (c : Nat) (k : Cl) : Prop where
  nm : mg k.name = some (.ref (F.τ c))
  cl : Cls F.K (F.τ c)
  mkr : Mk F.K (F.τ c) (F.fa k.init)
  fld : ∀ f ∈ k.fields, NoAttr F.K (F.τ c) f
  prop : ∀ f j, (f, j) ∈ k.props → ∃ p, PropOf F.K (F.τ c) f p (F.fa j)
  meth : ∀ m j, (m, j) ∈ k.meths → Meth F.K (F.τ c) m (F.fa j)
  cm : ∀ m j, (m, j) ∈ k.cmeths → ∃ mc p, ClX.CRead F.K (F.τ c) mc ∧ ClX.CMet F.K (F.τ c) mc m p (F.fa j)
  eq : ∀ j, k.eq = some j → ClsEq F.K (F.τ c) (F.fa j)
  ci : ClsI F.K (F.τ c)
/-- what a def promises: as a def, or as an __init__ -/
def spJ (F : Fx) (m : List PV → AH → Res PV) (fd : FD) : Sp := match fd.init with
  | none => spA F m
  | some (c, _) => spI F (F.τ c) m
/-- the defs that may be called, the constants, the classes, the built-ins -/
structure Wd (F : Fx) (B : Tab) (d : Nat) (X : Cx) : Prop where
  room : Room (2 * d + 1) X.A
  cal : ∀ (j : Nat) (fd : FD), B.fs[j]? = some fd → FnRG F.P F.w X.K X.mg X.base (2 * d) (F.fa j) (spJ F (callD B.fs d j) fd)
  kw : ∀ (j n : Nat) (ks : List Str) (perm : List Nat), (j, n, ks, perm) ∈ B.kw → CalK F X.K X.mg X.base (2 * d) (F.fa j) (callD B.fs d j) n ks perm
  gn : ∀ x j, (x, j) ∈ B.gn → X.mg x = some (.ref (F.fa j)) ∧ PySem.W.keepIn X.K (.ref (F.fa j)) = true
  gi : ∀ x i, (x, i) ∈ B.gi → ∃ t, X.mg x = some (.int i t)
  gs : ∀ x z, (x, z) ∈ B.gs → ∃ t, X.mg x = some (.str z t)
  cls : ∀ c k, B.cls[c]? = some k → ClsT F X.mg c k
  bl : ∀ x ∈ bltNames, X.mg x = none
structure Good (F : Fx) (B : Tab) (d : Nat) (N : List Str) (sc : Scope) (X : Cx) : Prop where
  ft : Fit F X
  see : See N sc X
  wd : Wd F B d X

section
variable {F : Fx} {B : Tab} {d : Nat} {N : List Str} {sc : Scope} {X : Cx}
theorem vis_of (s : See N sc X) {x : Str} (h : isVis sc x = true) : Vis X.env.scope x := by
  unfold isVis at h
  split at h
  · exact .inl (s.loc x (by assumption))
  · exact .inr (.inl (s.cel x (by assumption)).1)
  · exact .inr (s.fre x (by assumption))
  · cases h
theorem loc_of (s : See N sc X) {x : Str} (h : isLoc sc x = true) : Loc X.env.scope x ∧ (X.fn x = true ∨ X.env.scope.names.lookup x = some .local) := by
  unfold isLoc at h
  split at h
  · exact ⟨.inl (s.loc x (by assumption)), .inr (s.loc x (by assumption))⟩
  · exact ⟨.inr (s.cel x (by assumption)).1, .inl (s.cel x (by assumption)).2⟩
  · cases h
theorem glb_of (s : See N sc X) {x : Str} (h : isGlb sc x = true) : Gl X x := by
  unfold isGlb at h
  split at h
  · exact s.glb x (by assumption)
  · cases h
theorem dbg_of {x : Str} (h : notDbg x = true) : (x == ("__debug__" : Str)) = false ∧ (x == ("__classdict__" : Str)) = false := by
  unfold notDbg at h
  simpa using h
theorem blt_b1 (g : Good F B d N sc X) (f : B1) (hf : okB1 f = true) (h : isGlb sc f.nm = true) : Blt X f.nm (b1I f) := by
  have hg := glb_of g.see h
  cases f with
  | len => exact ⟨hg, g.wd.bl _ (by decide), boot_len, by decide, by decide⟩
  | list => exact ⟨hg, g.wd.bl _ (by decide), by decide +kernel, by decide, by decide⟩
  | tuple => exact ⟨hg, g.wd.bl _ (by decide), by decide +kernel, by decide, by decide⟩
  | sorted => exact ⟨hg, g.wd.bl _ (by decide), boot_sorted, by decide, by decide⟩
  | all => exact ⟨hg, g.wd.bl _ (by decide), by decide +kernel, by decide, by decide⟩
  | any => exact ⟨hg, g.wd.bl _ (by decide), by decide +kernel, by decide, by decide⟩
  | repr => exact ⟨hg, g.wd.bl _ (by decide), by decide +kernel, by decide, by decide⟩
  | str => exact ⟨hg, g.wd.bl _ (by decide), by decide +kernel, by decide, by decide⟩
  | int => exact ⟨hg, g.wd.bl _ (by decide), by decide +kernel, by decide, by decide⟩
  | set => cases hf
  | dict => cases hf
  | min => cases hf
  | max => cases hf
theorem blt_b2 (g : Good F B d N sc X) (f : B2) (h : isGlb sc f.nm = true) : Blt X f.nm (b2I f) := by
  have hg := glb_of g.see h
  cases f with
  | min => exact ⟨hg, g.wd.bl _ (by decide), by decide +kernel, by decide, by decide⟩
  | max => exact ⟨hg, g.wd.bl _ (by decide), by decide +kernel, by decide, by decide⟩
theorem blt_range (g : Good F B d N sc X) (h : isGlb sc "range" = true) : Blt X "range" (.type "range") :=
  ⟨glb_of g.see h, g.wd.bl _ (by decide), boot_range, by decide, by decide⟩
theorem blt_enum (g : Good F B d N sc X) (h : isGlb sc "enumerate" = true) : Blt X "enumerate" (.type "enumerate") :=
  ⟨glb_of g.see h, g.wd.bl _ (by decide), by decide +kernel, by decide, by decide⟩
theorem blt_zip (g : Good F B d N sc X) (h : isGlb sc "zip" = true) : Blt X "zip" (.type "zip") :=
  ⟨glb_of g.see h, g.wd.bl _ (by decide), by decide +kernel, by decide, by decide⟩
theorem blt_isi (g : Good F B d N sc X) (h : isGlb sc "isinstance" = true) : Blt X "isinstance" (.builtin "isinstance") :=
  ⟨glb_of g.see h, g.wd.bl _ (by decide), by decide +kernel, by decide, by decide⟩
theorem blt_ty (g : Good F B d N sc X) {t : String} (ht : t ∈ isTypes) (h : isGlb sc (Str.ofString t) = true) : Blt X (Str.ofString t) (.type t) := by
  have hg := glb_of g.see h
  simp only [isTypes, List.mem_cons, List.not_mem_nil, or_false] at ht
  rcases ht with rfl | rfl | rfl | rfl | rfl | rfl
  · exact ⟨hg, g.wd.bl _ (by decide), by decide +kernel, by decide, by decide⟩
  · exact ⟨hg, g.wd.bl _ (by decide), by decide +kernel, by decide, by decide⟩
  · exact ⟨hg, g.wd.bl _ (by decide), by decide +kernel, by decide, by decide⟩
  · exact ⟨hg, g.wd.bl _ (by decide), by decide +kernel, by decide, by decide⟩
  · exact ⟨hg, g.wd.bl _ (by decide), by decide +kernel, by decide, by decide⟩
  · exact ⟨hg, g.wd.bl _ (by decide), by decide +kernel, by decide, by decide⟩
theorem cl_of {c : Nat} {f : Cl → Bool} (h : B.cl c f = true) : ∃ k, B.cls[c]? = some k ∧ f k = true := by
  unfold Tab.cl at h
  cases e : B.cls[c]? with
  | none => rw [e] at h; cases h
  | some k => rw [e] at h; exact ⟨k, rfl, h⟩
theorem fs_none {j : Nat} (h : (B.fs[j]?).any (fun fd => fd.init.isNone) = true) (wd : Wd F B d X) : FnRG F.P F.w X.K X.mg X.base (2 * d) (F.fa j) (spA F (callD B.fs d j)) := by
  cases e : B.fs[j]? with
  | none => rw [e] at h; cases h
  | some fd =>
    rw [e] at h
    have hn : fd.init = none := by simpa using h
    have q := wd.cal j fd e
    unfold spJ at q
    rw [hn] at q
    exact q
theorem fs_init {j c : Nat} (h : (B.fs[j]?).any (fun fd => fd.init.map (·.1) == some c) = true) (wd : Wd F B d X) : FnRG F.P F.w X.K X.mg X.base (2 * d) (F.fa j) (spI F (F.τ c) (callD B.fs d j)) := by
  cases e : B.fs[j]? with
  | none => rw [e] at h; cases h
  | some fd =>
    rw [e] at h
    have hn : fd.init.map (·.1) = some c := by simpa using h
    have q := wd.cal j fd e
    unfold spJ at q
    cases hi : fd.init with
    | none => rw [hi] at hn; cases hn
    | some p =>
      obtain ⟨c', gs, fe⟩ := p
      rw [hi] at hn q
      cases hn
      exact q

/-! ### blocks -/
theorem lookup_map {g : Str × NameKind → Str × NameKind} (hg : ∀ p, (g p).1 = p.1) : ∀ {l : List (Str × NameKind)} {x : Str} {k : NameKind}, l.lookup x = some k → ∃ n, n == x ∧ (l.map g).lookup x = some (g (n, k)).2
  | [], x, k, h => by simp at h
  | (n, j) :: r, x, k, h => by
    rw [List.map_cons]
    have e : g (n, j) = (n, (g (n, j)).2) := Prod.ext (hg (n, j)) rfl
    rw [List.lookup_cons] at h
    cases hx : x == n with
    | true =>
      rw [hx] at h
      cases h
      have : x = n := by simpa using hx
      subst this
      refine ⟨x, by simp, ?_⟩
      rw [e, List.lookup_cons]
      simp
    | false =>
      rw [hx] at h
      obtain ⟨n', h1, h2⟩ := lookup_map hg h
      refine ⟨n', h1, ?_⟩
      rw [e, List.lookup_cons, hx]
      exact h2
theorem see_blk (s : See N sc X) {scope : Scope} {st : Shared} {H : Hp} {C : Addr} {cl : List (Str × Addr)} {fp : List Addr} : See N scope (X.blk st H scope (compEnvC scope cl C X.env) fp) := by
  let g : Str × NameKind → Str × NameKind := fun (n, k) => if (k == .free && X.env.scope.kind == .function && X.env.kindOf n == some .cell) then (n, .cell) else (n, k)
  have hg : ∀ p, (g p).1 = p.1 := by
    rintro ⟨n, k⟩
    show (if _ then _ else _ : Str × NameKind).1 = n
    split <;> rfl
  have look : ∀ {x k}, scope.names.lookup x = some k → ∃ n, n == x ∧ (scope.names.map g).lookup x = some (g (n, k)).2 := fun h => lookup_map hg h
  have keep : ∀ {x k}, k ≠ .free → scope.names.lookup x = some k → (scope.names.map g).lookup x = some k := by
    intro x k hk h
    obtain ⟨n, _, e⟩ := look h
    rw [e]
    have : (k == NameKind.free) = false := by
      cases k <;> first | rfl | exact absurd rfl hk
    show some (if (k == .free && _ && _) then _ else _ : Str × NameKind).2 = _
    rw [this]; rfl
  refine ⟨s.n, fun x h => keep (by decide) h, fun x h => ⟨keep (by decide) h, ?_⟩, fun x h => ?_, fun x h => keep (by decide) h⟩
  · show (scope.names.lookup x == some .cell) = true
    rw [h]; rfl
  · obtain ⟨n, _, e⟩ := look h
    have e2 : (g (n, NameKind.free)).2 = .cell ∨ (g (n, NameKind.free)).2 = .free := by
      show (if _ then _ else _ : Str × NameKind).2 = _ ∨ (if _ then _ else _ : Str × NameKind).2 = _
      split
      · exact .inl rfl
      · exact .inr rfl
    show (scope.names.map g).lookup x = _ ∨ (scope.names.map g).lookup x = _
    rw [e]
    exact e2.imp (congrArg some) (congrArg some)
theorem wd_blk (wd : Wd F B d X) {scope : Scope} {st : Shared} {H : Hp} {ce : Env} {fp : List Addr} : Wd F B d (X.blk st H scope ce fp) := ⟨wd.room, wd.cal, wd.kw, wd.gn, wd.gi, wd.gs, wd.cls, wd.bl⟩
theorem good_blk (g : Good F B d N sc X) {scope : Scope} {st : Shared} {H : Hp} {C : Addr} {cl : List (Str × Addr)} {fp : List Addr} : Good F B d N scope (X.blk st H scope (compEnvC scope cl C X.env) fp) := ⟨fit_blk g.ft, see_blk g.see, wd_blk g.wd⟩
theorem blk_ok (s : See N sc X) {scope : Scope} {own : List (Str × Nat)} (h : blkC N sc scope own = true) : BlkOk X.N X.env.scope scope own := by
  have b := blkOk_by h
  rw [s.n]
  exact ⟨b.kind, b.uniq, b.ix, fun y hy e => (b.free y hy e).elim (fun q => .inl (s.cel _ q).1) (fun q => s.fre _ q), b.own⟩

/-! ### one expression -/
/-- a checked expression keeps its denotation: as a value, as a new value, as a test -/
structure Snd (F : Fx) (X : Cx) (nw : Bool) (ex : Expr) (m : Den) : Prop where
  e : PE X ex (tE F m)
  n : nw = true → PE X ex (tN F m)
  t : PT X ex (tB' F (tst m))
def plainT : Expr → Bool
  | .UnaryOp .Not _ _ => false
  | .BoolOp _ _ _ => false
  | .IfExp _ _ _ _ => false
  | .Compare _ _ _ _ => false
  | _ => true
theorem plain_is {e : Expr} {env : Env} (h : plainT e = true) : ∀ whole, isTrue e env whole = (do let v ← whole; standAt e.pos; holding [v] (truthy v)) := by
  intro whole
  cases e <;> first | rfl | cases h | skip
  rename_i op x p
  cases op <;> first | rfl | cases h
theorem snd_e {nw : Bool} {e : Expr} {m : Den} (h : PE X e (tE F m)) (hn : nw = false) (hp : plainT e = true) : Snd F X nw e m := ⟨h, fun q => (by rw [hn] at q; cases q), t_val h (plain_is hp)⟩
theorem snd_n (ft : Fit F X) {nw : Bool} {e : Expr} {m : Den} (h : PE X e (tN F m)) (hp : plainT e = true) : Snd F X nw e m := ⟨tE_of_N ft h, fun _ => h, t_val (tE_of_N ft h) (plain_is hp)⟩
theorem tst_and {ma mb : Den} : tst (fun ρ α => (ma ρ α).bind fun p α => (truth p α).bind fun t α => match t with
    | true => mb ρ α
    | false => .ok (.bl false) α) = fun ρ α => (tst ma ρ α).bind fun t α => match t with
    | true => tst mb ρ α
    | false => .ok false α := by
  funext ρ α
  simp only [tst, bind_assoc]
  congr 1; funext p α1
  congr 1; funext t α2
  cases t <;> rfl
theorem tst_or {ma mb : Den} : tst (fun ρ α => (ma ρ α).bind fun p α => (truth p α).bind fun t α => match t with
    | true => .ok (.bl true) α
    | false => mb ρ α) = fun ρ α => (tst ma ρ α).bind fun t α => match t with
    | true => .ok true α
    | false => tst mb ρ α := by
  funext ρ α
  simp only [tst, bind_assoc]
  congr 1; funext p α1
  congr 1; funext t α2
  cases t <;> rfl
theorem tst_not {ma : Den} : tst (fun ρ α => (ma ρ α).bind fun p α => (truth p α).bind fun t α => .ok (.bl (!t)) α) = fun ρ α => (tst ma ρ α).bind fun t α => .ok (!t) α := by
  funext ρ α
  simp only [tst, bind_assoc]
  congr 1
theorem tst_ife {mc ma mb : Den} : tst (fun ρ α => (mc ρ α).bind fun p α => (truth p α).bind fun t α => match t with
    | true => ma ρ α
    | false => mb ρ α) = fun ρ α => (tst mc ρ α).bind fun t α => match t with
    | true => tst ma ρ α
    | false => tst mb ρ α := by
  funext ρ α
  simp only [tst, bind_assoc]
  congr 1; funext p α1
  congr 1; funext t α2
  cases t <;> rfl
theorem ife_tst {mc ma mb : Den} : (fun ρ α => (mc ρ α).bind fun p α => (truth p α).bind fun t α => match t with
    | true => ma ρ α
    | false => mb ρ α : Den) = fun ρ α => (tst mc ρ α).bind fun t α => match t with
    | true => ma ρ α
    | false => mb ρ α := by
  funext ρ α
  simp only [tst, bind_assoc]
theorem pw_bool {op : BoolOp} {vs : List Expr} {pos : Pos} {t : TT} (h : PT X (.BoolOp op vs pos) t) : PW X (.BoolOp op vs pos) t := ⟨fun wh pins s σ H Q I q => h.run pins s σ H Q I q⟩
theorem t_ife {c a b : Expr} {pos : Pos} {mt mu mv : Loc' → AH → Res Bool} (hc : PT X c (tB' F mt)) (ha : PT X a (tB' F mu)) (hb : PT X b (tB' F mv)) : PT X (.IfExp c a b pos) (tB' F fun ρ α => (mt ρ α).bind fun t α => match t with
    | true => mu ρ α
    | false => mv ρ α) := by
  refine ⟨fun pins s σ H Q I ⟨μ, ρ, α, h⟩ => ?_⟩
  show wpAny _ _ (isTrue c X.env (eval c X.env) >>= fun k => if k = true then isTrue a X.env (eval a X.env) else isTrue b X.env (eval b X.env)) _ _ s
  refine wpAny_bind (thn (hc.run pins s σ H _ I (test_bind h)) fun k s1 ⟨H1, I1, μ1, α1, l, h1⟩ => ?_)
  cases k with
  | true => exact ha.run pins s1 σ H1 Q I1 ⟨μ1, ρ, α1, h1⟩
  | false => exact hb.run pins s1 σ H1 Q I1 ⟨μ1, ρ, α1, h1⟩
example (fn : Fn) (o : Bop) (a b : E) : dE fn (.bin o a b) = fun ρ α => (dE fn a ρ α).bind fun p α => (dE fn b ρ α).bind fun q α => bop o p q α := rfl
example (fn : Fn) (t : T) (own : List Nat) (it : It) (c : OE) (b : E) : dE fn (.comp t own it c b) = compD (dI fn it) (dT fn t) (dC fn c) (dE fn b) own := rfl
end
end Mw
end
section
set_option Elab.async false
set_option linter.all false
set_option maxRecDepth 100000
set_option maxHeartbeats 4000000
/-! Mw17: what is checked keeps its denotation. -/
namespace Mw
open PySem PySem.Spec PyProof.Rows L2

section
variable {F : Fx} {B : Tab} {d : Nat} {N : List Str}
def OkE (F : Fx) (B : Tab) (d : Nat) (N : List Str) (ir : E) : Prop := ∀ sc X e, Good F B d N sc X → cE B N ir sc e = true → Snd F X (isNew ir) e (dE (callD B.fs d) ir)
def OkO (F : Fx) (B : Tab) (d : Nat) (N : List Str) (ir : OE) : Prop := ∀ sc X e, Good F B d N sc X → cO B N ir sc e = true → PO X e (tO F (dO (callD B.fs d) ir))
def OkC (F : Fx) (B : Tab) (d : Nat) (N : List Str) (ir : OE) : Prop := ∀ sc X e, Good F B d N sc X → cC B N ir sc e = true → PTs X e (tB' F (dC (callD B.fs d) ir))
def OkEs (F : Fx) (B : Tab) (d : Nat) (N : List Str) (ir : Es) : Prop := ∀ sc X, Good F B d N sc X → (∀ es, cEs B N ir sc es = true → PA X es (tAs F (dEs (callD B.fs d) ir)) ∧ es.all noStar = true) ∧
  (∀ kws : List Keyword, cEs B N ir sc (kws.map (·.value)) = true → PK X kws (tAs F (dEs (callD B.fs d) ir))) ∧ ∀ es, cEs B N ir sc es = true → JP F X es (dEs (callD B.fs d) ir)
def OkPs (F : Fx) (B : Tab) (d : Nat) (N : List Str) (ir : Ps) : Prop := ∀ sc X pos ks vs, Good F B d N sc X → cPs B N ir sc ks vs = true → KP F X pos ks vs (dPs (callD B.fs d) ir) ∧ ks.all (·.isSome) = true ∧ ks.length = vs.length
def OkT (F : Fx) (B : Tab) (d : Nat) (N : List Str) (ir : T) : Prop := ∀ sc X e, Good F B d N sc X → cT B N ir sc e = true → PG X e (tG F (dT (callD B.fs d) ir) ir.slots)
def OkTs (F : Fx) (B : Tab) (d : Nat) (N : List Str) (ir : Ts) : Prop := ∀ sc X es, Good F B d N sc X → cTs B N ir sc es = true → PGs X es (tGs F (dTs (callD B.fs d) ir) ir.slots) ∧ es.all noStar = true ∧
  ∀ ps ρ α ρ' α', dTs (callD B.fs d) ir ps ρ α = .ok ρ' α' → ps.length = es.length
def OkI (F : Fx) (B : Tab) (d : Nat) (N : List Str) (ir : It) : Prop := ∀ sc X tg e, Good F B d N sc X → cI B N ir sc tg e = true → PI X tg e (tI F X (dI (callD B.fs d) ir))

theorem ok_var (i : Nat) : OkE F B d N (.var i) := by
  intro sc X e g h
  simp only [cE] at h
  split at h
  · simp only [Bool.and_eq_true, decide_eq_true_eq] at h
    obtain ⟨⟨h1, h2⟩, h3⟩ := h
    exact snd_e (k_var (by rw [g.see.n]; exact h1) (vis_of g.see h2) (dbg_of h3).1 (dbg_of h3).2) rfl rfl
  · cases h
theorem ok_non : OkE F B d N .non := by
  intro sc X e g h
  simp only [cE] at h
  split at h
  · split at h
    · exact snd_e (k_const pe_non fun _ _ => .non) rfl rfl
    · cases h
  · cases h
theorem ok_bl (b : Bool) : OkE F B d N (.bl b) := by
  intro sc X e g h
  simp only [cE] at h
  split at h
  · split at h
    · have e := eq_of_beq h
      subst e
      exact snd_e (k_const pe_bl fun _ _ => .bl _) rfl rfl
    · cases h
  · cases h
theorem ok_int (b : Int) : OkE F B d N (.int b) := by
  intro sc X e g h
  simp only [cE] at h
  split at h
  · split at h
    · have e := of_decide_eq_true h
      subst e
      exact snd_e (k_const pe_int fun _ _ => .int _) rfl rfl
    · cases h
  · cases h
theorem ok_str (b : Str) : OkE F B d N (.str b) := by
  intro sc X e g h
  simp only [cE] at h
  split at h
  · split at h
    · have e := of_decide_eq_true h
      subst e
      exact snd_e (k_const pe_str fun _ _ => .str _) rfl rfl
    · cases h
  · cases h
theorem ok_tup {es : Es} (ih : OkEs F B d N es) : OkE F B d N (.tup es) := by
  intro sc X e g h
  simp only [cE] at h
  split at h
  · exact snd_n g.ft (k_tup ((ih sc X g).1 _ h).1) rfl
  · cases h
theorem ok_lst {es : Es} (ih : OkEs F B d N es) : OkE F B d N (.lst es) := by
  intro sc X e g h
  simp only [cE] at h
  split at h
  · exact snd_n g.ft (k_lst ((ih sc X g).1 _ h).1) rfl
  · cases h
theorem ok_dct {ps : Ps} (ih : OkPs F B d N ps) : OkE F B d N (.dct ps) := by
  intro sc X e g h
  simp only [cE] at h
  split at h
  · rename_i ks vs pos
    simp only [Bool.and_eq_true, decide_eq_true_eq] at h
    obtain ⟨h1, h2⟩ := h
    cases ps with
    | nil =>
      simp only [cPs] at h1
      split at h1
      · exact snd_n g.ft k_dnil rfl
      · cases h1
    | cons k v r =>
      obtain ⟨kp, a1, a2⟩ := ih sc X pos ks vs g h1
      refine snd_n g.ft (k_disp g.ft kp a1 a2 (fun e => ?_) h2) rfl
      subst e
      simp [cPs] at h1
  · cases h
theorem ok_bin {o : Bop} {a b : E} (iha : OkE F B d N a) (ihb : OkE F B d N b) : OkE F B d N (.bin o a b) := by
  intro sc X e g h
  simp only [cE] at h
  split at h
  · simp only [Bool.and_eq_true, decide_eq_true_eq] at h
    obtain ⟨⟨⟨rfl, h0⟩, h1⟩, h2⟩ := h
    exact snd_n g.ft (k_bin g.ft h0 (iha sc X _ g h1).e (ihb sc X _ g h2).e) rfl
  · cases h
theorem ok_cmp {o : Cop} {a b : E} (iha : OkE F B d N a) (ihb : OkE F B d N b) : OkE F B d N (.cmp o a b) := by
  intro sc X e g h
  simp only [cE] at h
  split at h
  · simp only [Bool.and_eq_true, decide_eq_true_eq, Bool.not_eq_true'] at h
    obtain ⟨⟨⟨rfl, h1⟩, h2⟩, h3⟩ := h
    have k := k_cmp (pos := by assumption) g.ft (iha sc X _ g h2).e (ihb sc X _ g h3).e h1
    exact ⟨tE_of_N g.ft k, fun _ => k, t_cmp g.ft (iha sc X _ g h2).e (ihb sc X _ g h3).e h1⟩
  · cases h
theorem ok_chain {o o' : Cop} {a b c : E} (iha : OkE F B d N a) (ihb : OkE F B d N b) (ihc : OkE F B d N c) : OkE F B d N (.chain o o' a b c) := by
  intro sc X e g h
  simp only [cE] at h
  split at h
  · simp only [Bool.and_eq_true, decide_eq_true_eq, Bool.not_eq_true'] at h
    obtain ⟨⟨⟨⟨⟨rfl, rfl⟩, h1⟩, h2⟩, h3⟩, h4⟩ := h
    have k := k_chain (pos := by assumption) g.ft (iha sc X _ g h2).e (ihb sc X _ g h3).e (ihc sc X _ g h4).e h1
    exact ⟨tE_of_N g.ft k, fun _ => k, t_chain g.ft (iha sc X _ g h2).e (ihb sc X _ g h3).e (ihc sc X _ g h4).e h1⟩
  · cases h
theorem ok_neg {a : E} (iha : OkE F B d N a) : OkE F B d N (.neg a) := by
  intro sc X e g h
  simp only [cE] at h
  split at h
  · split at h
    · exact snd_n g.ft (k_neg (iha sc X _ g h).e) rfl
    · cases h
  · cases h
theorem ok_and {a b : E} (iha : OkE F B d N a) (ihb : OkE F B d N b) : OkE F B d N (.and a b) := by
  intro sc X e g h
  simp only [cE] at h
  split at h
  · rename_i a' b' rest pos
    rw [Bool.and_eq_true] at h
    obtain ⟨h1, h2⟩ := h
    have A := iha sc X _ g h1
    have Bd : PE X (.BoolOp .And (b' :: rest) pos) (tE F (dE (callD B.fs d) b)) ∧ PW X (.BoolOp .And (b' :: rest) pos) (tB' F (tst (dE (callD B.fs d) b))) := by
      split at h2
      · have b0 := ihb sc X _ g h2
        exact ⟨pe_one b0.e, w_one b0.t⟩
      · have b0 := ihb sc X _ g h2
        exact ⟨b0.e, pw_bool b0.t⟩
    refine ⟨k_and A.e Bd.1, fun q => (by cases q), ?_⟩
    have q : tst (dE (callD B.fs d) (.and a b)) = _ := tst_and (ma := dE (callD B.fs d) a) (mb := dE (callD B.fs d) b)
    rw [q]
    exact (w_and A.t Bd.2).pt
  · cases h
theorem ok_or {a b : E} (iha : OkE F B d N a) (ihb : OkE F B d N b) : OkE F B d N (.or a b) := by
  intro sc X e g h
  simp only [cE] at h
  split at h
  · rename_i a' b' rest pos
    rw [Bool.and_eq_true] at h
    obtain ⟨h1, h2⟩ := h
    have A := iha sc X _ g h1
    have Bd : PE X (.BoolOp .Or (b' :: rest) pos) (tE F (dE (callD B.fs d) b)) ∧ PW X (.BoolOp .Or (b' :: rest) pos) (tB' F (tst (dE (callD B.fs d) b))) := by
      split at h2
      · have b0 := ihb sc X _ g h2
        exact ⟨pe_one b0.e, w_one b0.t⟩
      · have b0 := ihb sc X _ g h2
        exact ⟨b0.e, pw_bool b0.t⟩
    refine ⟨k_or A.e Bd.1, fun q => (by cases q), ?_⟩
    have q : tst (dE (callD B.fs d) (.or a b)) = _ := tst_or (ma := dE (callD B.fs d) a) (mb := dE (callD B.fs d) b)
    rw [q]
    exact (w_or A.t Bd.2).pt
  · cases h
theorem ok_not {a : E} (iha : OkE F B d N a) : OkE F B d N (.not a) := by
  intro sc X e g h
  simp only [cE] at h
  split at h
  · split at h
    · have A := iha sc X _ g h
      have k := k_not (pos := by assumption) A.e
      refine ⟨tE_of_N g.ft k, fun _ => k, ?_⟩
      have q : tst (dE (callD B.fs d) (.not a)) = _ := tst_not (ma := dE (callD B.fs d) a)
      rw [q]
      exact t_not A.t
    · cases h
  · cases h
theorem ok_ife {c a b : E} (ihc : OkE F B d N c) (iha : OkE F B d N a) (ihb : OkE F B d N b) : OkE F B d N (.ife c a b) := by
  intro sc X e g h
  simp only [cE] at h
  split at h
  · simp only [Bool.and_eq_true] at h
    obtain ⟨⟨h1, h2⟩, h3⟩ := h
    have C := ihc sc X _ g h1
    have A := iha sc X _ g h2
    have Bd := ihb sc X _ g h3
    refine ⟨?_, fun q => (by cases q), ?_⟩
    · have q : dE (callD B.fs d) (.ife c a b) = _ := ife_tst (mc := dE (callD B.fs d) c) (ma := dE (callD B.fs d) a) (mb := dE (callD B.fs d) b)
      rw [q]
      exact k_ife C.t A.e Bd.e
    · have q : tst (dE (callD B.fs d) (.ife c a b)) = _ := tst_ife (mc := dE (callD B.fs d) c) (ma := dE (callD B.fs d) a) (mb := dE (callD B.fs d) b)
      rw [q]
      exact t_ife C.t A.t Bd.t
  · cases h
theorem ok_ix {a i : E} (iha : OkE F B d N a) (ihi : OkE F B d N i) : OkE F B d N (.ix a i) := by
  intro sc X e g h
  simp only [cE] at h
  split at h
  · simp only [Bool.and_eq_true] at h
    obtain ⟨⟨h1, h2⟩, h3⟩ := h
    exact snd_e (k_ix g.ft (iha sc X _ g h2).e (ihi sc X _ g h3).e (plainIx h1)) rfl rfl
  · cases h
theorem ok_sl {a : E} {lo hi : OE} (iha : OkE F B d N a) (ihl : OkO F B d N lo) (ihh : OkO F B d N hi) : OkE F B d N (.sl a lo hi) := by
  intro sc X e g h
  simp only [cE] at h
  split at h
  · simp only [Bool.and_eq_true] at h
    obtain ⟨⟨h1, h2⟩, h3⟩ := h
    exact snd_n g.ft (k_sl g.ft (iha sc X _ g h1).e (ihl sc X _ g h2) (ihh sc X _ g h3)) rfl
  · cases h
theorem ok_rev {a : E} (iha : OkE F B d N a) : OkE F B d N (.rev a) := by
  intro sc X e g h
  simp only [cE] at h
  split at h
  · simp only [Bool.and_eq_true, decide_eq_true_eq] at h
    obtain ⟨rfl, h1⟩ := h
    exact snd_n g.ft (k_rev g.ft (iha sc X _ g h1).e) rfl
  · cases h
theorem ok_b1 {f : B1} {a : E} (iha : OkE F B d N a) : OkE F B d N (.b1 f a) := by
  intro sc X e g h
  simp only [cE] at h
  split at h
  · simp only [Bool.and_eq_true, decide_eq_true_eq] at h
    obtain ⟨⟨⟨⟨rfl, h1⟩, h2⟩, h3⟩, h4⟩ := h
    exact snd_n g.ft (k_b1 g.ft h4 (blt_b1 g f h4 h1) (iha sc X _ g h3).e h2) rfl
  · cases h
theorem ok_b2 {f : B2} {a b : E} (iha : OkE F B d N a) (ihb : OkE F B d N b) : OkE F B d N (.b2 f a b) := by
  intro sc X e g h
  simp only [cE] at h
  split at h
  · simp only [Bool.and_eq_true, decide_eq_true_eq] at h
    obtain ⟨⟨⟨⟨⟨rfl, h1⟩, h2⟩, h3⟩, h4⟩, h5⟩ := h
    exact snd_n g.ft (k_b2 g.ft (blt_b2 g f h1) (iha sc X _ g h4).e (ihb sc X _ g h5).e h2 h3) rfl
  · cases h
theorem ok_mth {m : M} {o : E} {es : Es} (iho : OkE F B d N o) (ihs : OkEs F B d N es) : OkE F B d N (.mth m o es) := by
  intro sc X e g h
  simp only [cE] at h
  split at h
  · rename_i o' nm apos es' cpos
    simp only [Bool.and_eq_true, decide_eq_true_eq] at h
    obtain ⟨⟨⟨⟨⟨⟨rfl, h1⟩, h2⟩, h3⟩, h4⟩, h5⟩, h6⟩ := h
    have O := (iho sc X _ g h4).e
    obtain ⟨A, hs⟩ := (ihs sc X g).1 _ h5
    cases es' with
    | nil =>
      cases es with
      | nil => exact snd_e (k_mth0 g.ft m h6 O h1 h2) rfl rfl
      | cons a r => simp [cEs] at h5
    | cons e1 es1 => exact snd_e (k_mth g.ft m h6 O A h1 h2 hs h3) rfl rfl
  · cases h
theorem room0 {X : Cx} (wd : Wd F B d X) : Room (2 * d) X.A := wd.room.mono (by omega)
theorem ok_call {f : Nat} {es : Es} (ihs : OkEs F B d N es) : OkE F B d N (.call f es) := by
  intro sc X e g h
  simp only [cE] at h
  split at h
  · rename_i x p es' pos
    simp only [Bool.and_eq_true, decide_eq_true_eq] at h
    obtain ⟨⟨⟨⟨h1, h2⟩, h3⟩, h4⟩, h5⟩ := h
    obtain ⟨A, hs⟩ := (ihs sc X g).1 _ h4
    obtain ⟨hm, hk⟩ := g.wd.gn _ _ h1
    have Fn := fs_none h5 g.wd
    cases es' with
    | nil =>
      cases es with
      | nil => exact snd_e (m := dE (callD B.fs d) (.call f .nil)) (k_call0 g.ft (room0 g.wd) (glb_of g.see h2) (dbg_of h3).1 hm hk Fn) rfl rfl
      | cons a r => simp [cEs] at h4
    | cons e1 es1 => exact snd_e (m := dE (callD B.fs d) (.call f es)) (k_call g.ft (room0 g.wd) (glb_of g.see h2) (dbg_of h3).1 hm hk Fn A hs) rfl rfl
  · cases h
theorem ok_callK {f n : Nat} {ks : List Str} {perm : List Nat} {es kes : Es} (ihs : OkEs F B d N es) (ihk : OkEs F B d N kes) : OkE F B d N (.callK f n ks perm es kes) := by
  intro sc X e g h
  simp only [cE] at h
  split at h
  · rename_i x p es' kws pos
    simp only [Bool.and_eq_true, decide_eq_true_eq] at h
    obtain ⟨⟨⟨⟨⟨⟨⟨h1, h2⟩, h3⟩, h4⟩, h5⟩, h6⟩, h7⟩, h8⟩ := h
    obtain ⟨A, hs⟩ := (ihs sc X g).1 _ h6
    have Kk := (ihk sc X g).2.1 _ h7
    obtain ⟨hm, hk⟩ := g.wd.gn _ _ h1
    have C := g.wd.kw f n ks perm h4
    cases es' with
    | nil =>
      cases es with
      | nil =>
        have hn : n = 0 := by simpa using h8
        subst hn
        exact snd_e (m := dE (callD B.fs d) (.callK f 0 ks perm .nil kes)) (k_callK0 g.ft (room0 g.wd) (glb_of g.see h2) (dbg_of h3).1 hm hk C Kk h5) rfl rfl
      | cons a r => simp [cEs] at h6
    | cons e1 es1 => exact snd_e (m := dE (callD B.fs d) (.callK f n ks perm es kes)) (k_callK g.ft (room0 g.wd) (glb_of g.see h2) (dbg_of h3).1 hm hk C A hs Kk h5) rfl rfl
  · cases h
theorem ok_dead : OkE F B d N .dead := by
  intro sc X e g h
  have p : PE X e (tE F (dE (callD B.fs d) .dead)) := ⟨fun pins s σ H Q I ⟨μ, ρ, α, rel, env, h⟩ => h.elim⟩
  exact ⟨p, fun q => (by cases q), ⟨fun pins s σ H Q I ⟨μ, ρ, α, rel, env, h⟩ => h.elim⟩⟩
theorem ok_gcon (x : Str) (i : Int) : OkE F B d N (.gcon x i) := by
  intro sc X e g h
  simp only [cE] at h
  split at h
  · simp only [Bool.and_eq_true, decide_eq_true_eq] at h
    obtain ⟨⟨⟨rfl, h1⟩, h2⟩, h3⟩ := h
    obtain ⟨t, hm⟩ := g.wd.gi _ _ h3
    exact snd_e (m := dE (callD B.fs d) (.gcon _ i)) (k_gcon (glb_of g.see h1) (dbg_of h2).1 hm) rfl rfl
  · cases h
theorem ok_gstr (x z : Str) : OkE F B d N (.gstr x z) := by
  intro sc X e g h
  simp only [cE] at h
  split at h
  · simp only [Bool.and_eq_true, decide_eq_true_eq] at h
    obtain ⟨⟨⟨rfl, h1⟩, h2⟩, h3⟩ := h
    obtain ⟨t, hm⟩ := g.wd.gs _ _ h3
    exact snd_e (m := dE (callD B.fs d) (.gstr _ z)) (k_gstr (glb_of g.see h1) (dbg_of h2).1 hm) rfl rfl
  · cases h
theorem ok_fld {c : Nat} {o : E} {f : Str} (iho : OkE F B d N o) : OkE F B d N (.fld c o f) := by
  intro sc X e g h
  simp only [cE] at h
  split at h
  · simp only [Bool.and_eq_true, decide_eq_true_eq] at h
    obtain ⟨⟨⟨rfl, h1⟩, h2⟩, h3⟩ := h
    obtain ⟨k, hk, hf⟩ := cl_of h2
    have C := g.wd.cls c k hk
    exact snd_e (m := dE (callD B.fs d) (.fld c o _)) (k_fld g.ft C.cl (C.fld _ (of_decide_eq_true hf)) (iho sc X _ g h3).e h1) rfl rfl
  · cases h
theorem ok_meth {c j : Nat} {m : Str} {o : E} {es : Es} (iho : OkE F B d N o) (ihs : OkEs F B d N es) : OkE F B d N (.meth c j m o es) := by
  intro sc X e g h
  simp only [cE] at h
  split at h
  · simp only [Bool.and_eq_true, decide_eq_true_eq] at h
    obtain ⟨⟨⟨⟨⟨⟨⟨rfl, h1⟩, h2⟩, h3⟩, h4⟩, h5⟩, h6⟩, h7⟩ := h
    obtain ⟨k, hk, hf⟩ := cl_of h4
    have C := g.wd.cls c k hk
    obtain ⟨A, hs⟩ := (ihs sc X g).1 _ h7
    exact snd_e (m := dE (callD B.fs d) (.meth c j _ o es)) (k_meth g.ft (room0 g.wd) C.cl (C.meth _ _ (of_decide_eq_true hf)) (fs_none h5 g.wd) (iho sc X _ g h6).e A h1 h2 hs h3) rfl rfl
  · cases h
theorem es_nil {es : Es} {sc : Scope} {es' : List Expr} (h : cEs B N es sc es' = true) (h0 : es' = []) : dEs (callD B.fs d) es = fun _ α => .ok [] α := by
  subst h0
  cases es with
  | nil => rfl
  | cons a r => simp [cEs] at h
theorem ok_methK {c j n : Nat} {m : Str} {o : E} {ks : List Str} {perm : List Nat} {es kes : Es} (iho : OkE F B d N o) (ihs : OkEs F B d N es) (ihk : OkEs F B d N kes) : OkE F B d N (.methK c j m o n ks perm es kes) := by
  intro sc X e g h
  simp only [cE] at h
  split at h
  · simp only [Bool.and_eq_true, decide_eq_true_eq] at h
    obtain ⟨⟨⟨⟨⟨⟨⟨⟨⟨rfl, h1⟩, h2⟩, h3⟩, h4⟩, h5⟩, h6⟩, h7⟩, h8⟩, h9⟩ := h
    obtain ⟨k, hk, hf⟩ := cl_of h4
    have C := g.wd.cls c k hk
    obtain ⟨A, hs⟩ := (ihs sc X g).1 _ h8
    have Kk := (ihk sc X g).2.1 _ h9
    exact snd_e (m := dE (callD B.fs d) (.methK c j _ o n ks perm es kes)) (k_methK g.ft (room0 g.wd) C.cl (C.meth _ _ (of_decide_eq_true hf)) (g.wd.kw j (n + 1) ks perm h5) (es_nil h8) (iho sc X _ g h7).e A Kk h6 h1 h2 hs h3) rfl rfl
  · cases h
theorem ok_prop {c j : Nat} {f : Str} {o : E} (iho : OkE F B d N o) : OkE F B d N (.prop c j f o) := by
  intro sc X e g h
  simp only [cE] at h
  split at h
  · simp only [Bool.and_eq_true, decide_eq_true_eq] at h
    obtain ⟨⟨⟨⟨rfl, h1⟩, h2⟩, h3⟩, h4⟩ := h
    obtain ⟨k, hk, hf⟩ := cl_of h2
    have C := g.wd.cls c k hk
    obtain ⟨p, hp⟩ := C.prop _ _ (of_decide_eq_true hf)
    exact snd_e (m := dE (callD B.fs d) (.prop c j _ o)) (k_prop g.ft g.wd.room C.cl hp (fs_none h3 g.wd) (iho sc X _ g h4).e h1) rfl rfl
  · cases h
theorem ok_cmeth {c j : Nat} {m : Str} {es : Es} (ihs : OkEs F B d N es) : OkE F B d N (.cmeth c j m es) := by
  intro sc X e g h
  simp only [cE] at h
  split at h
  · simp only [Bool.and_eq_true, decide_eq_true_eq] at h
    obtain ⟨⟨⟨⟨⟨⟨⟨rfl, h1⟩, h2⟩, h3⟩, h4⟩, h5⟩, h6⟩, h7⟩ := h
    obtain ⟨k, hk, hf⟩ := cl_of h5
    simp only [Bool.and_eq_true, decide_eq_true_eq] at hf
    obtain ⟨rfl, hf⟩ := hf
    have C := g.wd.cls c k hk
    obtain ⟨mc, p, rd, cm⟩ := C.cm _ _ hf
    obtain ⟨A, hs⟩ := (ihs sc X g).1 _ h7
    exact snd_e (m := dE (callD B.fs d) (.cmeth c j _ es)) (k_cmeth g.ft (room0 g.wd) (glb_of g.see h1) (dbg_of h2).1 C.nm rd cm (fs_none h6 g.wd) A h3 hs h4) rfl rfl
  · cases h
theorem ok_cmethK {c j n : Nat} {m : Str} {ks : List Str} {perm : List Nat} {es kes : Es} (ihs : OkEs F B d N es) (ihk : OkEs F B d N kes) : OkE F B d N (.cmethK c j m n ks perm es kes) := by
  intro sc X e g h
  simp only [cE] at h
  split at h
  · simp only [Bool.and_eq_true, decide_eq_true_eq] at h
    obtain ⟨⟨⟨⟨⟨⟨⟨⟨⟨rfl, h1⟩, h2⟩, h3⟩, h4⟩, h5⟩, h6⟩, h7⟩, h8⟩, h9⟩ := h
    obtain ⟨k, hk, hf⟩ := cl_of h5
    simp only [Bool.and_eq_true, decide_eq_true_eq] at hf
    obtain ⟨rfl, hf⟩ := hf
    have C := g.wd.cls c k hk
    obtain ⟨mc, p, rd, cm⟩ := C.cm _ _ hf
    obtain ⟨A, hs⟩ := (ihs sc X g).1 _ h8
    have Kk := (ihk sc X g).2.1 _ h9
    exact snd_e (m := dE (callD B.fs d) (.cmethK c j _ n ks perm es kes)) (k_cmethK g.ft (room0 g.wd) (glb_of g.see h1) (dbg_of h2).1 C.nm rd cm (g.wd.kw j (n + 1) ks perm h6) (es_nil h8) A Kk h7 h3 hs h4) rfl rfl
  · cases h
theorem ok_mk {c j : Nat} {es : Es} (ihs : OkEs F B d N es) : OkE F B d N (.mk c j es) := by
  intro sc X e g h
  simp only [cE] at h
  split at h
  · simp only [Bool.and_eq_true, decide_eq_true_eq] at h
    obtain ⟨⟨⟨⟨h1, h2⟩, h3⟩, h4⟩, h5⟩ := h
    obtain ⟨k, hk, hf⟩ := cl_of h3
    simp only [Bool.and_eq_true, decide_eq_true_eq] at hf
    obtain ⟨rfl, rfl⟩ := hf
    have C := g.wd.cls c k hk
    obtain ⟨A, hs⟩ := (ihs sc X g).1 _ h5
    exact snd_e (m := dE (callD B.fs d) (.mk c _ es)) (k_mk g.ft g.wd.room (glb_of g.see h1) (dbg_of h2).1 C.nm C.mkr (fs_init h4 g.wd) A hs) rfl rfl
  · cases h
theorem ok_mkS {c j : Nat} {a : E} (iha : OkE F B d N a) : OkE F B d N (.mkS c j a) := by
  intro sc X e g h
  simp only [cE] at h
  split at h
  · simp only [Bool.and_eq_true, decide_eq_true_eq] at h
    obtain ⟨⟨⟨⟨h1, h2⟩, h3⟩, h4⟩, h5⟩ := h
    obtain ⟨k, hk, hf⟩ := cl_of h3
    simp only [Bool.and_eq_true, decide_eq_true_eq] at hf
    obtain ⟨rfl, rfl⟩ := hf
    have C := g.wd.cls c k hk
    exact snd_e (m := dE (callD B.fs d) (.mkS c _ a)) (k_mkS g.ft g.wd.room (glb_of g.see h1) (dbg_of h2).1 C.nm C.mkr (fs_init h4 g.wd) (iha sc X _ g h5).e) rfl rfl
  · cases h
theorem ok_mkV {c j i : Nat} {a : E} (iha : OkE F B d N a) : OkE F B d N (.mkV c j i a) := by
  intro sc X e g h
  simp only [cE] at h
  split at h
  · simp only [Bool.and_eq_true, decide_eq_true_eq] at h
    obtain ⟨⟨⟨⟨⟨h0, h1⟩, h2⟩, h3⟩, h4⟩, h5⟩ := h
    obtain ⟨k, hk, hf⟩ := cl_of h3
    have hf := of_decide_eq_true hf
    subst hf
    have C := g.wd.cls c k hk
    exact snd_e (m := dE (callD B.fs d) (.mkV c _ i a)) (k_mkV g.ft g.wd.room (by rw [g.see.n]; exact h0) (vis_of g.see h1) (dbg_of h2).1 (dbg_of h2).2 C.mkr (fs_init h4 g.wd) (iha sc X _ g h5).e) rfl rfl
  · cases h
theorem ok_isT {a : E} {t : String} (iha : OkE F B d N a) : OkE F B d N (.isT a t) := by
  intro sc X e g h
  simp only [cE] at h
  split at h
  · simp only [Bool.and_eq_true, decide_eq_true_eq] at h
    obtain ⟨⟨⟨⟨⟨⟨rfl, h1⟩, rfl⟩, h2⟩, h3⟩, h4⟩, h5⟩ := h
    exact snd_n g.ft (m := dE (callD B.fs d) (.isT a t)) (k_isT g.ft (blt_isi g h1) (blt_ty g h2 h3) (iha sc X _ g h5).e h4) rfl
  · cases h
theorem ok_isC {a : E} {c : Nat} (iha : OkE F B d N a) : OkE F B d N (.isC a c) := by
  intro sc X e g h
  simp only [cE] at h
  split at h
  · simp only [Bool.and_eq_true, decide_eq_true_eq] at h
    obtain ⟨⟨⟨⟨⟨⟨rfl, h1⟩, h2⟩, h3⟩, h4⟩, h5⟩, h6⟩ := h
    obtain ⟨k, hk, hf⟩ := cl_of h4
    have hf := of_decide_eq_true hf
    subst hf
    have C := g.wd.cls c k hk
    exact snd_n g.ft (m := dE (callD B.fs d) (.isC a c)) (k_isC g.ft (blt_isi g h1) (glb_of g.see h2) (dbg_of h3).1 C.nm (iha sc X _ g h6).e h5 C.ci C.cl) rfl
  · cases h
theorem ok_oeq {neg : Bool} {c j : Nat} {a b : E} (iha : OkE F B d N a) (ihb : OkE F B d N b) : OkE F B d N (.oeq neg c j a b) := by
  intro sc X e g h
  simp only [cE] at h
  split at h
  · simp only [Bool.and_eq_true, decide_eq_true_eq, Bool.not_eq_true'] at h
    obtain ⟨⟨⟨⟨⟨rfl, h1⟩, h2⟩, h3⟩, h4⟩, h5⟩ := h
    obtain ⟨k, hk, hf⟩ := cl_of h2
    have C := g.wd.cls c k hk
    obtain ⟨q1, q2⟩ := k_oeq (pos := by assumption) g.ft g.wd.room (C.eq j (of_decide_eq_true hf)) (fs_none h3 g.wd) (iha sc X _ g h4).e (ihb sc X _ g h5).e h1
    exact ⟨tE_of_N g.ft q1, fun _ => q1, q2⟩
  · cases h
theorem ok_olen {c j : Nat} {a : E} : OkE F B d N (.olen c j a) := by
  intro sc X e g h
  simp only [cE, Bool.false_eq_true] at h
theorem ok_listI {it : It} : OkE F B d N (.listI it) := by
  intro sc X e g h
  simp only [cE, Bool.false_eq_true] at h
theorem ok_tupI {it : It} : OkE F B d N (.tupI it) := by
  intro sc X e g h
  simp only [cE, Bool.false_eq_true] at h
theorem ok_fmt {a : E} (iha : OkE F B d N a) : OkE F B d N (.fmt a) := by
  intro sc X e g h
  simp only [cE] at h
  split at h
  · simp only [Bool.and_eq_true, decide_eq_true_eq] at h
    obtain ⟨rfl, h1⟩ := h
    exact snd_e (m := dE (callD B.fs d) (.fmt a)) (k_fmt (iha sc X _ g h1).e) rfl rfl
  · cases h
theorem ok_fstr {es : Es} (ihs : OkEs F B d N es) : OkE F B d N (.fstr es) := by
  intro sc X e g h
  simp only [cE] at h
  split at h
  · simp only [Bool.and_eq_true, decide_eq_true_eq] at h
    exact snd_n g.ft (m := dE (callD B.fs d) (.fstr es)) (k_fstr ((ihs sc X g).2.2 _ h.2) h.1) rfl
  · cases h
theorem ok_comp {t : T} {own : List Nat} {it : It} {cond : OE} {elt : E} (iht : OkT F B d N t) (ihi : OkI F B d N it) (ihc : OkC F B d N cond) (ihe : OkE F B d N elt) : OkE F B d N (.comp t own it cond elt) := by
  intro sc X e g h
  simp only [cE] at h
  split at h
  · rename_i elt' tg iter ifs asy scope pos
    simp only [Bool.and_eq_true, decide_eq_true_eq] at h
    obtain ⟨⟨⟨⟨⟨⟨⟨⟨rfl, h1⟩, h2⟩, h3⟩, h4⟩, h5⟩, h6⟩, h7⟩, h8⟩ := h
    have k := k_comp (elt := elt') (tg := tg) (iter := iter) (ifs := ifs) (scope := scope) (pos := pos) g.ft (ihi sc X tg iter g h4) (blk_ok g.see h2) (fun s H C cl fp => iht scope _ _ (good_blk g) h5) (fun s H C cl fp => ihc scope _ _ (good_blk g) h7)
      (fun s H C cl fp => (ihe scope _ _ (good_blk g) h8).e) h3 (by rw [h1]; exact h6)
    rw [h1] at k
    exact snd_n g.ft k rfl
  · cases h
theorem ok_join {a : E} (iha : OkE F B d N a) : OkE F B d N (.join a) := by
  intro sc X e g h
  simp only [cE, Bool.and_eq_true] at h
  obtain ⟨h1, h2⟩ := h
  have A := iha sc X e g h2
  have hp : plainT e = true := by
    cases a <;> simp only [isNew, Bool.false_eq_true] at h1 <;> (simp only [cE] at h2; (repeat' split at h2) <;> first | rfl | cases h2)
  exact snd_e (k_join (A.n h1)) rfl hp
theorem ok_O : ∀ {oe : OE}, (∀ a, oe = .some a → OkE F B d N a) → OkO F B d N oe := by
  intro oe ih sc X e g h
  cases oe with
  | none =>
    simp only [cO] at h
    split at h
    · exact o_none
    · cases h
  | some a =>
    simp only [cO] at h
    split at h
    · exact o_some (ih a rfl sc X _ g h).e
    · cases h
theorem ok_C : ∀ {oe : OE}, (∀ a, oe = .some a → OkE F B d N a) → OkC F B d N oe := by
  intro oe ih sc X e g h
  cases oe with
  | none =>
    simp only [cC] at h
    split at h
    · exact ts_nil
    · cases h
  | some a =>
    simp only [cC] at h
    split at h
    · exact pts_one (ih a rfl sc X _ g h).t
    · cases h
theorem ok_nil : OkEs F B d N .nil := by
  intro sc X g
  refine ⟨fun es h => ?_, fun kws h => ?_, fun es h => ?_⟩
  · simp only [cEs] at h
    split at h
    · exact ⟨a_nil, rfl⟩
    · cases h
  · simp only [cEs] at h
    split at h
    · rename_i hk
      have : kws = [] := by simpa using hk
      subst this
      exact kw_nil
    · cases h
  · simp only [cEs] at h
    split at h
    · exact jp_nil
    · cases h
theorem ok_cons {a : E} {r : Es} (iha : OkE F B d N a) (ihr : OkEs F B d N r) : OkEs F B d N (.cons a r) := by
  intro sc X g
  refine ⟨fun es h => ?_, fun kws h => ?_, fun es h => ?_⟩
  · simp only [cEs] at h
    split at h
    · simp only [Bool.and_eq_true] at h
      obtain ⟨⟨h1, h2⟩, h3⟩ := h
      obtain ⟨A, hs⟩ := (ihr sc X g).1 _ h3
      exact ⟨a_cons (iha sc X _ g h2).e A h1, by rw [List.all_cons, h1, hs]; rfl⟩
    · cases h
  · simp only [cEs] at h
    cases kws with
    | nil => cases h
    | cons k ks =>
      simp only [List.map_cons, Bool.and_eq_true] at h
      obtain ⟨⟨h1, h2⟩, h3⟩ := h
      obtain ⟨nm, e, kp⟩ := k
      exact kw_cons (iha sc X _ g h2).e ((ihr sc X g).2.1 _ h3)
  · simp only [cEs] at h
    split at h
    · simp only [Bool.and_eq_true] at h
      obtain ⟨⟨h1, h2⟩, h3⟩ := h
      exact jp_cons (iha sc X _ g h2).e ((ihr sc X g).2.2 _ h3)
    · cases h
theorem ok_pnil : OkPs F B d N .nil := by
  intro sc X pos ks vs g h
  simp only [cPs] at h
  split at h
  · exact ⟨kp_nil, rfl, rfl⟩
  · cases h
theorem ok_pcons {k v : E} {r : Ps} (ihk : OkE F B d N k) (ihv : OkE F B d N v) (ihr : OkPs F B d N r) : OkPs F B d N (.cons k v r) := by
  intro sc X pos ks vs g h
  simp only [cPs] at h
  split at h
  · simp only [Bool.and_eq_true] at h
    obtain ⟨⟨h1, h2⟩, h3⟩ := h
    obtain ⟨K, a1, a2⟩ := ihr sc X pos _ _ g h3
    exact ⟨kp_cons (ihk sc X _ g h1).e (ihv sc X _ g h2).e K, by rw [List.all_cons, a1]; rfl, by rw [List.length_cons, List.length_cons, a2]⟩
  · cases h
theorem ok_tvar (i : Nat) : OkT F B d N (.var i) := by
  intro sc X e g h
  simp only [cT] at h
  split at h
  · simp only [Bool.and_eq_true, decide_eq_true_eq] at h
    exact g_var g.ft.nd (by rw [g.see.n]; exact h.1) (loc_of g.see h.2).1 (loc_of g.see h.2).2
  · cases h
theorem ok_ttup {ts : Ts} (ih : OkTs F B d N ts) : OkT F B d N (.tup ts) := by
  intro sc X e g h
  simp only [cT] at h
  split at h
  · obtain ⟨G, h1, h2⟩ := ih sc X _ g h
    exact g_tup g.ft G h1 h2 fun x ρ α => by cases x <;> rfl
  · cases h
theorem ok_tsub {o i : E} (iho : OkE F B d N o) (ihi : OkE F B d N i) : OkT F B d N (.sub o i) := by
  intro sc X e g h
  simp only [cT] at h
  split at h
  · simp only [Bool.and_eq_true] at h
    obtain ⟨⟨h1, h2⟩, h3⟩ := h
    exact g_sub g.ft (iho sc X _ g h2).e (ihi sc X _ g h3).e h1
  · cases h
theorem ok_tnil : OkTs F B d N .nil := by
  intro sc X es g h
  simp only [cTs] at h
  split at h
  · refine ⟨gs_nil fun ps ρ α => by cases ps <;> rfl, rfl, fun ps ρ α ρ' α' h => ?_⟩
    cases ps with
    | nil => rfl
    | cons p ps => cases h
  · cases h
theorem ok_tcons {t : T} {ts : Ts} (iht : OkT F B d N t) (ihs : OkTs F B d N ts) : OkTs F B d N (.cons t ts) := by
  intro sc X es g h
  simp only [cTs] at h
  split at h
  · simp only [Bool.and_eq_true] at h
    obtain ⟨⟨h1, h2⟩, h3⟩ := h
    obtain ⟨G, a1, a2⟩ := ihs sc X _ g h3
    refine ⟨gs_cons (iht sc X _ g h2) G h1 fun ps ρ α => by cases ps <;> rfl, by rw [List.all_cons, h1, a1]; rfl, fun ps ρ α ρ' α' h => ?_⟩
    cases ps with
    | nil => cases h
    | cons p ps =>
      have h : (dT (callD B.fs d) t p ρ α).bind (fun ρ α => dTs (callD B.fs d) ts ps ρ α) = .ok ρ' α' := h
      cases hd : dT (callD B.fs d) t p ρ α with
      | ok ρ1 α1 => rw [hd] at h; rw [List.length_cons, List.length_cons, a2 _ _ _ _ _ h]
      | err c xs a => rw [hd] at h; cases h
      | bad => rw [hd] at h; cases h
  · cases h
theorem ok_ival {a : E} (iha : OkE F B d N a) : OkI F B d N (.val a) := by
  intro sc X tg e g h
  simp only [cI] at h
  exact i_val g.ft (iha sc X e g h).e
theorem ok_irange1 {a : E} (iha : OkE F B d N a) : OkI F B d N (.range1 a) := by
  intro sc X tg e g h
  simp only [cI] at h
  split at h
  · simp only [Bool.and_eq_true, decide_eq_true_eq] at h
    obtain ⟨⟨⟨rfl, h1⟩, h2⟩, h3⟩ := h
    exact i_range1 (blt_range g h1) (iha sc X _ g h3).e h2
  · cases h
theorem ok_irange2 {a b : E} (iha : OkE F B d N a) (ihb : OkE F B d N b) : OkI F B d N (.range2 a b) := by
  intro sc X tg e g h
  simp only [cI] at h
  split at h
  · simp only [Bool.and_eq_true, decide_eq_true_eq] at h
    obtain ⟨⟨⟨⟨⟨rfl, h1⟩, h2⟩, h3⟩, h4⟩, h5⟩ := h
    exact i_range2 (blt_range g h1) (iha sc X _ g h4).e (ihb sc X _ g h5).e h2 h3
  · cases h
theorem ok_ivals {a : E} (iha : OkE F B d N a) : OkI F B d N (.values a) := by
  intro sc X tg e g h
  simp only [cI] at h
  split at h
  · simp only [Bool.and_eq_true, decide_eq_true_eq] at h
    obtain ⟨⟨⟨rfl, h1⟩, h2⟩, h3⟩ := h
    exact i_dct (w := .vals) g.ft (pi_dvals g.ft (iha sc X _ g h3).e h1 h2)
  · cases h
theorem tup_is {tg : Expr} (h : isTup tg = true) : ∃ es k p, tg = .Tuple es k p := by
  cases tg <;> first | exact ⟨_, _, _, rfl⟩ | cases h
theorem ok_ikeys {a : E} (iha : OkE F B d N a) : OkI F B d N (.keys a) := by
  intro sc X tg e g h
  simp only [cI] at h
  exact i_dct (w := .keys) g.ft (pi_dkeys g.ft (iha sc X e g h).e)
theorem ok_iitems {a : E} (iha : OkE F B d N a) : OkI F B d N (.items a) := by
  intro sc X tg e g h
  simp only [cI, Bool.and_eq_true] at h
  obtain ⟨h0, h⟩ := h
  obtain ⟨es, k, p, rfl⟩ := tup_is h0
  split at h
  · simp only [Bool.and_eq_true, decide_eq_true_eq] at h
    obtain ⟨⟨⟨rfl, h1⟩, h2⟩, h3⟩ := h
    exact i_dct (w := .items) g.ft (pi_ditems g.ft (iha sc X _ g h3).e h1 h2)
  · cases h
theorem ok_ienum {a : E} (iha : OkE F B d N a) : OkI F B d N (.enum a) := by
  intro sc X tg e g h
  simp only [cI, Bool.and_eq_true] at h
  obtain ⟨h0, h⟩ := h
  obtain ⟨es, k, p, rfl⟩ := tup_is h0
  split at h
  · simp only [Bool.and_eq_true, decide_eq_true_eq] at h
    obtain ⟨⟨⟨rfl, h1⟩, h2⟩, h3⟩ := h
    exact i_enum g.ft (blt_enum g h1) (iha sc X _ g h3).e h2
  · cases h
theorem ok_izip {a b : E} (iha : OkE F B d N a) (ihb : OkE F B d N b) : OkI F B d N (.zip a b) := by
  intro sc X tg e g h
  simp only [cI, Bool.and_eq_true] at h
  obtain ⟨h0, h⟩ := h
  obtain ⟨es, k, p, rfl⟩ := tup_is h0
  split at h
  · simp only [Bool.and_eq_true, decide_eq_true_eq] at h
    obtain ⟨⟨⟨⟨⟨rfl, h1⟩, h2⟩, h3⟩, h4⟩, h5⟩ := h
    exact i_zip g.ft (blt_zip g h1) (iha sc X _ g h4).e (ihb sc X _ g h5).e h2 h3
  · cases h
theorem ok_scomp {t : T} {own : List Nat} {it : It} {cond : OE} {elt : E} (iht : OkT F B d N t) (ihi : OkI F B d N it) (ihc : OkC F B d N cond) (ihe : OkE F B d N elt) : OkE F B d N (.scomp t own it cond elt) := by
  intro sc X e g h
  simp only [cE] at h
  split at h
  · rename_i elt' tg iter ifs asy scope pos
    simp only [Bool.and_eq_true, decide_eq_true_eq] at h
    obtain ⟨⟨⟨⟨⟨⟨⟨⟨rfl, h1⟩, h2⟩, h3⟩, h4⟩, h5⟩, h6⟩, h7⟩, h8⟩ := h
    have k := k_scomp (elt := elt') (tg := tg) (iter := iter) (ifs := ifs) (scope := scope) (pos := pos) g.ft (ihi sc X tg iter g h4) (blk_ok g.see h2) (fun s H C cl fp => iht scope _ _ (good_blk g) h5) (fun s H C cl fp => ihc scope _ _ (good_blk g) h7)
      (fun s H C cl fp => (ihe scope _ _ (good_blk g) h8).e) h3 (by rw [h1]; exact h6)
    rw [h1] at k
    exact snd_n g.ft k rfl
  · cases h
theorem ok_dcomp {t : T} {own : List Nat} {it : It} {cond : OE} {kx vx : E} (iht : OkT F B d N t) (ihi : OkI F B d N it) (ihc : OkC F B d N cond) (ihk : OkE F B d N kx) (ihe : OkE F B d N vx) : OkE F B d N (.dcomp t own it cond kx vx) := by
  intro sc X e g h
  simp only [cE] at h
  split at h
  · rename_i k' v' tg iter ifs asy scope pos
    simp only [Bool.and_eq_true, decide_eq_true_eq] at h
    obtain ⟨⟨⟨⟨⟨⟨⟨⟨⟨rfl, h1⟩, h2⟩, h3⟩, h4⟩, h5⟩, h6⟩, h7⟩, h8⟩, h9⟩ := h
    have k := k_dcomp (kx := k') (vx := v') (tg := tg) (iter := iter) (ifs := ifs) (scope := scope) (pos := pos) g.ft (ihi sc X tg iter g h4) (blk_ok g.see h2) (fun s H C cl fp => iht scope _ _ (good_blk g) h5) (fun s H C cl fp => ihc scope _ _ (good_blk g) h7)
      (fun s H C cl fp => (ihk scope _ _ (good_blk g) h8).e) (fun s H C cl fp => (ihe scope _ _ (good_blk g) h9).e) h3 (by rw [h1]; exact h6)
    rw [h1] at k
    exact snd_n g.ft k rfl
  · cases h
theorem ok_scomp2 {t t2 : T} {own own2 : List Nat} {it it2 : It} {elt : E} (iht : OkT F B d N t) (ihi : OkI F B d N it) (iht2 : OkT F B d N t2) (ihi2 : OkI F B d N it2) (ihe : OkE F B d N elt) : OkE F B d N (.scomp2 t own it t2 own2 it2 elt) := by
  intro sc X e g h
  simp only [cE] at h
  split at h
  · rename_i elt' tg iter ifs asy tg2 iter2 ifs2 asy2 scope pos
    simp only [Bool.and_eq_true, decide_eq_true_eq] at h
    obtain ⟨⟨⟨⟨⟨⟨⟨⟨⟨⟨⟨⟨⟨⟨rfl, rfl⟩, h0⟩, h1⟩, h2⟩, h3⟩, h4⟩, h5⟩, h6⟩, h7⟩, h8⟩, h9⟩, h10⟩, h11⟩, h12⟩ := h
    have e1 : ifs = [] := by simpa using h0.1
    have e2 : ifs2 = [] := by simpa using h0.2
    subst e1 e2
    have k := k_scomp2 (elt := elt') (tg := tg) (iter := iter) (tg1 := tg2) (iter1 := iter2) (scope := scope) (own2 := own2) (pos := pos) g.ft (ihi sc X tg iter g h5) (blk_ok g.see h2) (by rw [h1]; exact h8) (fun s H C cl fp => iht scope _ _ (good_blk g) h6)
      (fun s H C cl fp => ihi2 scope _ _ _ (good_blk g) h9) (fun s H C cl fp => iht2 scope _ _ (good_blk g) h10) (fun s H C cl fp => (ihe scope _ _ (good_blk g) h12).e) h3 h4 (by rw [h1]; exact h7) h11
    rw [h1] at k
    have eq : dE (callD B.fs d) (.scomp2 t own it t2 own2 it2 elt) = scomp2D (dI (callD B.fs d) it) (dT (callD B.fs d) t) (dI (callD B.fs d) it2) (dT (callD B.fs d) t2) (dE (callD B.fs d) elt) own own2 := by
      funext ρ α
      show (dI (callD B.fs d) it ρ α).bind _ = (dI (callD B.fs d) it ρ α).bind _
      congr 1
      funext s α1
      congr 1
      congr 1
      funext x α2
      show (dT (callD B.fs d) t x (wipeP ρ own) α2).bind _ = (dT (callD B.fs d) t x (wipeP ρ own) α2).bind _
      congr 1
      funext ρ' α3
      show _ = ((dI (callD B.fs d) it2 ρ' α3).bind _).bind _
      rw [bind_assoc]
      congr 1
      funext s2 α4
      cases hc : decide (s2.src = none) with
      | true => rfl
      | false => rfl
    refine snd_n g.ft (m := dE (callD B.fs d) (.scomp2 t own it t2 own2 it2 elt)) ?_ rfl
    rw [eq]
    exact k
  · cases h
/-- THE RULE for expressions -/
theorem ok_all : (∀ ir : E, OkE F B d N ir) ∧ (∀ t : T, OkT F B d N t) ∧ (∀ it : It, OkI F B d N it) ∧ (∀ es : Es, OkEs F B d N es) := by
  have k1 : ∀ (M1 : E → Prop) (M2 : OE → Prop) (M3 : Es → Prop) (M4 : Ps → Prop) (M5 : T → Prop) (M6 : Ts → Prop) (M7 : It → Prop), M1 = (fun ir => OkE F B d N ir) → M2 = (fun oe => ∀ a, oe = .some a → OkE F B d N a) → M3 = (fun es => OkEs F B d N es) → M4 = (fun ps => OkPs F B d N ps) → M5 = (fun t => OkT F B d N t) →
      M6 = (fun ts => OkTs F B d N ts) → M7 = (fun it => OkI F B d N it) → (∀ x, M1 x) ∧ (∀ x, M5 x) ∧ (∀ x, M7 x) ∧ (∀ x, M3 x) := by
    intro M1 M2 M3 M4 M5 M6 M7 e1 e2 e3 e4 e5 e6 e7
    subst e1 e2 e3 e4 e5 e6 e7
    refine ⟨fun x => E.rec (motive_1 := fun ir => OkE F B d N ir) (motive_2 := fun oe => ∀ a, oe = .some a → OkE F B d N a) (motive_3 := fun es => OkEs F B d N es) (motive_4 := fun ps => OkPs F B d N ps) (motive_5 := fun t => OkT F B d N t) (motive_6 := fun ts => OkTs F B d N ts) (motive_7 := fun it => OkI F B d N it)
        (fun i => ok_var i) (ok_non) (fun b => ok_bl b) (fun b => ok_int b) (fun b => ok_str b) (fun _ ih => ok_tup ih) (fun _ ih => ok_lst ih) (fun _ ih => ok_dct ih) (fun _ _ _ iha ihb => ok_bin iha ihb) (fun _ _ _ iha ihb => ok_cmp iha ihb) (fun _ _ _ _ _ iha ihb ihc => ok_chain iha ihb ihc) (fun _ iha => ok_neg iha) (fun _ _ iha ihb => ok_and iha ihb) (fun _ _ iha ihb => ok_or iha ihb) (fun _ iha => ok_not iha) (fun _ _ _ ihc iha ihb => ok_ife ihc iha ihb) (fun _ _ iha ihi => ok_ix iha ihi) (fun _ _ _ iha ihl ihh => ok_sl iha (ok_O ihl) (ok_O ihh)) (fun _ iha => ok_rev iha) (fun _ _ iha => ok_b1 iha) (fun _ _ _ iha ihb => ok_b2 iha ihb) (fun _ _ _ iho ihs => ok_mth iho ihs) (fun _ _ ihs => ok_call ihs) (fun _ _ _ _ _ _ ihs ihk => ok_callK ihs ihk) (fun _ _ _ _ _ iht ihi ihc ihe => ok_comp iht ihi (ok_C ihc) ihe) (fun _ iha => ok_join iha) (ok_dead) (fun x i => ok_gcon x i) (fun x z => ok_gstr x z) (fun _ _ _ iho => ok_fld iho) (fun _ _ _ _ _ iho ihs => ok_meth iho ihs) (fun _ _ _ _ _ _ _ _ _ iho ihs ihk => ok_methK iho ihs ihk) (fun _ _ _ _ iho => ok_prop iho) (fun _ _ _ _ ihs => ok_cmeth ihs) (fun _ _ _ _ _ _ _ _ ihs ihk => ok_cmethK ihs ihk) (fun _ _ _ ihs => ok_mk ihs) (fun _ _ _ iha => ok_mkS iha) (fun _ _ _ _ iha => ok_mkV iha) (fun _ _ iha => ok_isT iha) (fun _ _ iha => ok_isC iha) (fun _ _ _ _ _ iha ihb => ok_oeq iha ihb) (fun _ _ _ _ => ok_olen) (fun _ ihs => ok_fstr ihs) (fun _ iha => ok_fmt iha) (fun _ _ _ _ _ iht ihi ihc ihe => ok_scomp iht ihi (ok_C ihc) ihe) (fun _ _ _ _ _ _ _ iht ihi iht2 ihi2 ihe => ok_scomp2 iht ihi iht2 ihi2 ihe) (fun _ _ _ _ _ _ iht ihi ihc ihk ihe => ok_dcomp iht ihi (ok_C ihc) ihk ihe) (fun _ _ => ok_listI) (fun _ _ => ok_tupI) (fun a h => by cases h) (fun a iha b h => by cases h; exact iha) (ok_nil) (fun _ _ iha ihr => ok_cons iha ihr) (ok_pnil) (fun _ _ _ ihk ihv ihr => ok_pcons ihk ihv ihr) (fun i => ok_tvar i) (fun _ ih => ok_ttup ih) (fun _ _ iho ihi => ok_tsub iho ihi) (ok_tnil) (fun _ _ iht ihs => ok_tcons iht ihs) (fun _ iha => ok_ival iha) (fun _ iha => ok_irange1 iha) (fun _ _ iha ihb => ok_irange2 iha ihb) (fun _ iha => ok_ivals iha) (fun _ iha => ok_iitems iha) (fun _ iha => ok_ikeys iha) (fun _ iha => ok_ienum iha) (fun _ _ iha ihb => ok_izip iha ihb) x, fun x => T.rec (motive_1 := fun ir => OkE F B d N ir) (motive_2 := fun oe => ∀ a, oe = .some a → OkE F B d N a) (motive_3 := fun es => OkEs F B d N es) (motive_4 := fun ps => OkPs F B d N ps) (motive_5 := fun t => OkT F B d N t) (motive_6 := fun ts => OkTs F B d N ts) (motive_7 := fun it => OkI F B d N it)
        (fun i => ok_var i) (ok_non) (fun b => ok_bl b) (fun b => ok_int b) (fun b => ok_str b) (fun _ ih => ok_tup ih) (fun _ ih => ok_lst ih) (fun _ ih => ok_dct ih) (fun _ _ _ iha ihb => ok_bin iha ihb) (fun _ _ _ iha ihb => ok_cmp iha ihb) (fun _ _ _ _ _ iha ihb ihc => ok_chain iha ihb ihc) (fun _ iha => ok_neg iha) (fun _ _ iha ihb => ok_and iha ihb) (fun _ _ iha ihb => ok_or iha ihb) (fun _ iha => ok_not iha) (fun _ _ _ ihc iha ihb => ok_ife ihc iha ihb) (fun _ _ iha ihi => ok_ix iha ihi) (fun _ _ _ iha ihl ihh => ok_sl iha (ok_O ihl) (ok_O ihh)) (fun _ iha => ok_rev iha) (fun _ _ iha => ok_b1 iha) (fun _ _ _ iha ihb => ok_b2 iha ihb) (fun _ _ _ iho ihs => ok_mth iho ihs) (fun _ _ ihs => ok_call ihs) (fun _ _ _ _ _ _ ihs ihk => ok_callK ihs ihk) (fun _ _ _ _ _ iht ihi ihc ihe => ok_comp iht ihi (ok_C ihc) ihe) (fun _ iha => ok_join iha) (ok_dead) (fun x i => ok_gcon x i) (fun x z => ok_gstr x z) (fun _ _ _ iho => ok_fld iho) (fun _ _ _ _ _ iho ihs => ok_meth iho ihs) (fun _ _ _ _ _ _ _ _ _ iho ihs ihk => ok_methK iho ihs ihk) (fun _ _ _ _ iho => ok_prop iho) (fun _ _ _ _ ihs => ok_cmeth ihs) (fun _ _ _ _ _ _ _ _ ihs ihk => ok_cmethK ihs ihk) (fun _ _ _ ihs => ok_mk ihs) (fun _ _ _ iha => ok_mkS iha) (fun _ _ _ _ iha => ok_mkV iha) (fun _ _ iha => ok_isT iha) (fun _ _ iha => ok_isC iha) (fun _ _ _ _ _ iha ihb => ok_oeq iha ihb) (fun _ _ _ _ => ok_olen) (fun _ ihs => ok_fstr ihs) (fun _ iha => ok_fmt iha) (fun _ _ _ _ _ iht ihi ihc ihe => ok_scomp iht ihi (ok_C ihc) ihe) (fun _ _ _ _ _ _ _ iht ihi iht2 ihi2 ihe => ok_scomp2 iht ihi iht2 ihi2 ihe) (fun _ _ _ _ _ _ iht ihi ihc ihk ihe => ok_dcomp iht ihi (ok_C ihc) ihk ihe) (fun _ _ => ok_listI) (fun _ _ => ok_tupI) (fun a h => by cases h) (fun a iha b h => by cases h; exact iha) (ok_nil) (fun _ _ iha ihr => ok_cons iha ihr) (ok_pnil) (fun _ _ _ ihk ihv ihr => ok_pcons ihk ihv ihr) (fun i => ok_tvar i) (fun _ ih => ok_ttup ih) (fun _ _ iho ihi => ok_tsub iho ihi) (ok_tnil) (fun _ _ iht ihs => ok_tcons iht ihs) (fun _ iha => ok_ival iha) (fun _ iha => ok_irange1 iha) (fun _ _ iha ihb => ok_irange2 iha ihb) (fun _ iha => ok_ivals iha) (fun _ iha => ok_iitems iha) (fun _ iha => ok_ikeys iha) (fun _ iha => ok_ienum iha) (fun _ _ iha ihb => ok_izip iha ihb) x, fun x => It.rec (motive_1 := fun ir => OkE F B d N ir) (motive_2 := fun oe => ∀ a, oe = .some a → OkE F B d N a) (motive_3 := fun es => OkEs F B d N es) (motive_4 := fun ps => OkPs F B d N ps) (motive_5 := fun t => OkT F B d N t) (motive_6 := fun ts => OkTs F B d N ts) (motive_7 := fun it => OkI F B d N it)
        (fun i => ok_var i) (ok_non) (fun b => ok_bl b) (fun b => ok_int b) (fun b => ok_str b) (fun _ ih => ok_tup ih) (fun _ ih => ok_lst ih) (fun _ ih => ok_dct ih) (fun _ _ _ iha ihb => ok_bin iha ihb) (fun _ _ _ iha ihb => ok_cmp iha ihb) (fun _ _ _ _ _ iha ihb ihc => ok_chain iha ihb ihc) (fun _ iha => ok_neg iha) (fun _ _ iha ihb => ok_and iha ihb) (fun _ _ iha ihb => ok_or iha ihb) (fun _ iha => ok_not iha) (fun _ _ _ ihc iha ihb => ok_ife ihc iha ihb) (fun _ _ iha ihi => ok_ix iha ihi) (fun _ _ _ iha ihl ihh => ok_sl iha (ok_O ihl) (ok_O ihh)) (fun _ iha => ok_rev iha) (fun _ _ iha => ok_b1 iha) (fun _ _ _ iha ihb => ok_b2 iha ihb) (fun _ _ _ iho ihs => ok_mth iho ihs) (fun _ _ ihs => ok_call ihs) (fun _ _ _ _ _ _ ihs ihk => ok_callK ihs ihk) (fun _ _ _ _ _ iht ihi ihc ihe => ok_comp iht ihi (ok_C ihc) ihe) (fun _ iha => ok_join iha) (ok_dead) (fun x i => ok_gcon x i) (fun x z => ok_gstr x z) (fun _ _ _ iho => ok_fld iho) (fun _ _ _ _ _ iho ihs => ok_meth iho ihs) (fun _ _ _ _ _ _ _ _ _ iho ihs ihk => ok_methK iho ihs ihk) (fun _ _ _ _ iho => ok_prop iho) (fun _ _ _ _ ihs => ok_cmeth ihs) (fun _ _ _ _ _ _ _ _ ihs ihk => ok_cmethK ihs ihk) (fun _ _ _ ihs => ok_mk ihs) (fun _ _ _ iha => ok_mkS iha) (fun _ _ _ _ iha => ok_mkV iha) (fun _ _ iha => ok_isT iha) (fun _ _ iha => ok_isC iha) (fun _ _ _ _ _ iha ihb => ok_oeq iha ihb) (fun _ _ _ _ => ok_olen) (fun _ ihs => ok_fstr ihs) (fun _ iha => ok_fmt iha) (fun _ _ _ _ _ iht ihi ihc ihe => ok_scomp iht ihi (ok_C ihc) ihe) (fun _ _ _ _ _ _ _ iht ihi iht2 ihi2 ihe => ok_scomp2 iht ihi iht2 ihi2 ihe) (fun _ _ _ _ _ _ iht ihi ihc ihk ihe => ok_dcomp iht ihi (ok_C ihc) ihk ihe) (fun _ _ => ok_listI) (fun _ _ => ok_tupI) (fun a h => by cases h) (fun a iha b h => by cases h; exact iha) (ok_nil) (fun _ _ iha ihr => ok_cons iha ihr) (ok_pnil) (fun _ _ _ ihk ihv ihr => ok_pcons ihk ihv ihr) (fun i => ok_tvar i) (fun _ ih => ok_ttup ih) (fun _ _ iho ihi => ok_tsub iho ihi) (ok_tnil) (fun _ _ iht ihs => ok_tcons iht ihs) (fun _ iha => ok_ival iha) (fun _ iha => ok_irange1 iha) (fun _ _ iha ihb => ok_irange2 iha ihb) (fun _ iha => ok_ivals iha) (fun _ iha => ok_iitems iha) (fun _ iha => ok_ikeys iha) (fun _ iha => ok_ienum iha) (fun _ _ iha ihb => ok_izip iha ihb) x, fun x => Es.rec (motive_1 := fun ir => OkE F B d N ir) (motive_2 := fun oe => ∀ a, oe = .some a → OkE F B d N a) (motive_3 := fun es => OkEs F B d N es) (motive_4 := fun ps => OkPs F B d N ps) (motive_5 := fun t => OkT F B d N t) (motive_6 := fun ts => OkTs F B d N ts) (motive_7 := fun it => OkI F B d N it)
        (fun i => ok_var i) (ok_non) (fun b => ok_bl b) (fun b => ok_int b) (fun b => ok_str b) (fun _ ih => ok_tup ih) (fun _ ih => ok_lst ih) (fun _ ih => ok_dct ih) (fun _ _ _ iha ihb => ok_bin iha ihb) (fun _ _ _ iha ihb => ok_cmp iha ihb) (fun _ _ _ _ _ iha ihb ihc => ok_chain iha ihb ihc) (fun _ iha => ok_neg iha) (fun _ _ iha ihb => ok_and iha ihb) (fun _ _ iha ihb => ok_or iha ihb) (fun _ iha => ok_not iha) (fun _ _ _ ihc iha ihb => ok_ife ihc iha ihb) (fun _ _ iha ihi => ok_ix iha ihi) (fun _ _ _ iha ihl ihh => ok_sl iha (ok_O ihl) (ok_O ihh)) (fun _ iha => ok_rev iha) (fun _ _ iha => ok_b1 iha) (fun _ _ _ iha ihb => ok_b2 iha ihb) (fun _ _ _ iho ihs => ok_mth iho ihs) (fun _ _ ihs => ok_call ihs) (fun _ _ _ _ _ _ ihs ihk => ok_callK ihs ihk) (fun _ _ _ _ _ iht ihi ihc ihe => ok_comp iht ihi (ok_C ihc) ihe) (fun _ iha => ok_join iha) (ok_dead) (fun x i => ok_gcon x i) (fun x z => ok_gstr x z) (fun _ _ _ iho => ok_fld iho) (fun _ _ _ _ _ iho ihs => ok_meth iho ihs) (fun _ _ _ _ _ _ _ _ _ iho ihs ihk => ok_methK iho ihs ihk) (fun _ _ _ _ iho => ok_prop iho) (fun _ _ _ _ ihs => ok_cmeth ihs) (fun _ _ _ _ _ _ _ _ ihs ihk => ok_cmethK ihs ihk) (fun _ _ _ ihs => ok_mk ihs) (fun _ _ _ iha => ok_mkS iha) (fun _ _ _ _ iha => ok_mkV iha) (fun _ _ iha => ok_isT iha) (fun _ _ iha => ok_isC iha) (fun _ _ _ _ _ iha ihb => ok_oeq iha ihb) (fun _ _ _ _ => ok_olen) (fun _ ihs => ok_fstr ihs) (fun _ iha => ok_fmt iha) (fun _ _ _ _ _ iht ihi ihc ihe => ok_scomp iht ihi (ok_C ihc) ihe) (fun _ _ _ _ _ _ _ iht ihi iht2 ihi2 ihe => ok_scomp2 iht ihi iht2 ihi2 ihe) (fun _ _ _ _ _ _ iht ihi ihc ihk ihe => ok_dcomp iht ihi (ok_C ihc) ihk ihe) (fun _ _ => ok_listI) (fun _ _ => ok_tupI) (fun a h => by cases h) (fun a iha b h => by cases h; exact iha) (ok_nil) (fun _ _ iha ihr => ok_cons iha ihr) (ok_pnil) (fun _ _ _ ihk ihv ihr => ok_pcons ihk ihv ihr) (fun i => ok_tvar i) (fun _ ih => ok_ttup ih) (fun _ _ iho ihi => ok_tsub iho ihi) (ok_tnil) (fun _ _ iht ihs => ok_tcons iht ihs) (fun _ iha => ok_ival iha) (fun _ iha => ok_irange1 iha) (fun _ _ iha ihb => ok_irange2 iha ihb) (fun _ iha => ok_ivals iha) (fun _ iha => ok_iitems iha) (fun _ iha => ok_ikeys iha) (fun _ iha => ok_ienum iha) (fun _ _ iha ihb => ok_izip iha ihb) x⟩
  exact k1 _ _ _ _ _ _ _ rfl rfl rfl rfl rfl rfl rfl
end
end Mw
end
section
set_option Elab.async false
set_option linter.all false
set_option maxRecDepth 100000
set_option maxHeartbeats 4000000
/-! Mw18: what is checked keeps its denotation: statements. -/
namespace Mw
open PySem PySem.Spec PyProof.Rows L2

theorem filt_len {α β : Type} (f : α → Option β) : ∀ l : List α, (List.filterMap f l).length ≤ l.length ∧ ((∃ x ∈ l, f x = none) → (List.filterMap f l).length < l.length)
  | [] => ⟨Nat.le_refl _, fun ⟨x, hx, _⟩ => by cases hx⟩
  | y :: l => by
    obtain ⟨h1, h2⟩ := filt_len f l
    cases hy : f y with
    | none =>
      rw [List.filterMap_cons_none hy]
      exact ⟨by rw [List.length_cons]; omega, fun _ => by rw [List.length_cons]; omega⟩
    | some z =>
      rw [List.filterMap_cons_some hy]
      refine ⟨by rw [List.length_cons, List.length_cons]; omega, ?_⟩
      rintro ⟨x, hx, hn⟩
      rcases List.mem_cons.mp hx with e | hx
      · rw [e, hy] at hn; cases hn
      · have := h2 ⟨x, hx, hn⟩
        rw [List.length_cons, List.length_cons]; omega
theorem sw_none {sc : Scope} {tg e : Expr} {env : Env} (hc : ∀ x, sc.names.lookup x = some .cell → env.scope.names.lookup x = some .cell) (h : swNone sc tg e = true) : swappedStores [tg] e env = pure none := by
  unfold swNone at h
  split at h
  · rename_i ts k p
    split at h
    · rename_i vs k2 p2
      unfold swappedStores
      dsimp only
      by_cases c1 : (!(ts.length == 2 || ts.length == 3) || vs.length != ts.length || env.blockKind != .function) = true
      · rw [if_pos c1]
      · rw [if_neg c1]
        simp only [Bool.or_eq_true, not_or] at c1
        simp only [Bool.or_eq_true] at h
        split
        · rfl
        · rename_i c2
          split
          · rfl
          · rename_i c3
            rcases h with (h | h) | h
            · exact absurd h (by simpa using c1.1)
            · first | rfl | rw [if_pos h]
            · exfalso
              apply c3
              rw [Bool.or_eq_true]
              refine .inl ?_
              rw [bne_iff_ne]
              refine Nat.ne_of_lt ((filt_len _ ts).2 ?_)
              obtain ⟨t, ht, hn⟩ := List.any_eq_true.mp h
              refine ⟨t, ht, ?_⟩
              cases t <;> first | (simp only [notLoc, Bool.false_eq_true] at hn; done) | rfl | skip
              rename_i x px
              have q : env.kindOf x = some .cell := hc x (of_decide_eq_true hn)
              simp [q]
    · rename_i hn
      cases e <;> first | rfl | exact absurd rfl (hn _ _ _)
  · cases h
  · rename_i h1 h2
    cases tg <;> first | rfl | (cases e <;> first | rfl | exact absurd rfl (h1 _ _ _) | exact absurd rfl (h2 _ _))

theorem names_two {x y : Str} {px py : Pos} {n : Nat} {env : Env} (kx : env.kindOf x = some .local) (ky : env.kindOf y = some .local) (h1 : px.line = n) (h2 : py.line = n) :
    (List.filterMap (fun | Expr.Name id pos => if env.kindOf id == some .local && pos.line == n then some id else none | _ => none) [Expr.Name x px, Expr.Name y py]) = [x, y] := by
  simp [List.filterMap, kx, ky, h1, h2]
theorem names_three {x y z : Str} {px py pz : Pos} {n : Nat} {env : Env} (kx : env.kindOf x = some .local) (ky : env.kindOf y = some .local) (kz : env.kindOf z = some .local) (h1 : px.line = n) (h2 : py.line = n) (h3 : pz.line = n) :
    (List.filterMap (fun | Expr.Name id pos => if env.kindOf id == some .local && pos.line == n then some id else none | _ => none) [Expr.Name x px, Expr.Name y py, Expr.Name z pz]) = [x, y, z] := by
  simp [List.filterMap, kx, ky, kz, h1, h2, h3]
theorem dups_two {x y : Str} (hne : x ≠ y) : [x, y].eraseDups = [x, y] := by
  have hyx : (y == x) = false := by simpa using fun e : y = x => hne e.symm
  simp [List.eraseDups, List.eraseDupsBy, List.eraseDupsBy.loop, hyx]
theorem dups_three {x y z : Str} (hne : x ≠ y) (hne2 : x ≠ z) (hne3 : y ≠ z) : [x, y, z].eraseDups = [x, y, z] := by
  have hyx : (y == x) = false := by simpa using fun e : y = x => hne e.symm
  have hzx : (z == x) = false := by simpa using fun e : z = x => hne2 e.symm
  have hzy : (z == y) = false := by simpa using fun e : z = y => hne3 e.symm
  simp [List.eraseDups, List.eraseDupsBy, List.eraseDupsBy.loop, hyx, hzx, hzy]
theorem sw_two {x y : Str} {px py pt : Pos} {kt k2 : Nat} {pt2 : Pos} {a b : Expr} {env : Env} (hk : env.scope.kind = .function) (hx : env.scope.names.lookup x = some .local) (hy : env.scope.names.lookup y = some .local) (hl : py.line = px.line) (hne : x ≠ y)
    (hs : [a, b].all noStar = true) (hf : [a, b].all (foldedForSure 8) = false) (hc : [a, b].all (constantsAlone 8) = false) :
    swappedStores [.Tuple [.Name x px, .Name y py] kt pt] (.Tuple [a, b] k2 pt2) env = pure (some [x, y]) := by
  have hbk : env.blockKind = .function := by unfold Env.blockKind; rw [hk]; rfl
  have nm := names_two (px := px) (py := py) (n := px.line) (show env.kindOf x = some .local from hx) (show env.kindOf y = some .local from hy) rfl hl
  unfold swappedStores
  dsimp only
  rw [if_neg (by rw [hbk]; simp), if_neg, if_neg]
  · rw [if_neg (by rw [hf]; decide), if_neg (by rw [hc]; decide)]
    exact congrArg (fun l => (pure (some l) : Sem (Option (List Str)))) nm
  · intro q
    have q2 : (([x, y].length != [Expr.Name x px, Expr.Name y py].length) || ([x, y].eraseDups.length != [x, y].length)) = true := nm ▸ q
    rw [dups_two hne] at q2
    simp at q2
  · intro q
    rw [List.any_eq_true] at q
    obtain ⟨e, he, hm⟩ := q
    have := List.all_eq_true.mp hs e he
    cases e <;> first | (simp only [noStar, Bool.false_eq_true] at this; done) | (simp at hm; done)
theorem sw_three {x y z : Str} {px py pz pt : Pos} {kt k2 : Nat} {pt2 : Pos} {a b c : Expr} {env : Env} (hk : env.scope.kind = .function) (hx : env.scope.names.lookup x = some .local) (hy : env.scope.names.lookup y = some .local) (hz : env.scope.names.lookup z = some .local)
    (hl : py.line = px.line) (hl2 : pz.line = px.line) (hne : x ≠ y) (hne2 : x ≠ z) (hne3 : y ≠ z)
    (hs : [a, b, c].all noStar = true) (hf : [a, b, c].all (foldedForSure 8) = false) (hc : [a, b, c].all (constantsAlone 8) = false) :
    swappedStores [.Tuple [.Name x px, .Name y py, .Name z pz] kt pt] (.Tuple [a, b, c] k2 pt2) env = pure (some [x, y, z]) := by
  have hbk : env.blockKind = .function := by unfold Env.blockKind; rw [hk]; rfl
  have nm := names_three (px := px) (py := py) (pz := pz) (n := px.line) (show env.kindOf x = some .local from hx) (show env.kindOf y = some .local from hy) (show env.kindOf z = some .local from hz) rfl hl hl2
  unfold swappedStores
  dsimp only
  rw [if_neg (by rw [hbk]; simp), if_neg, if_neg]
  · rw [if_neg (by rw [hf]; decide), if_neg (by rw [hc]; decide)]
    exact congrArg (fun l => (pure (some l) : Sem (Option (List Str)))) nm
  · intro q
    have q2 : (([x, y, z].length != [Expr.Name x px, Expr.Name y py, Expr.Name z pz].length) || ([x, y, z].eraseDups.length != [x, y, z].length)) = true := nm ▸ q
    rw [dups_three hne hne2 hne3] at q2
    simp at q2
  · intro q
    rw [List.any_eq_true] at q
    obtain ⟨e, he, hm⟩ := q
    have := List.all_eq_true.mp hs e he
    cases e <;> first | (simp only [noStar, Bool.false_eq_true] at this; done) | (simp at hm; done)

section
variable {F : Fx} {B : Tab} {d : Nat} {N : List Str} {sc : Scope}
structure GoodS (F : Fx) (B : Tab) (d : Nat) (N : List Str) (sc : Scope) (X : Cx) : Prop where
  fs : FitS F X
  see : See N sc X
  wd : Wd F B d X
theorem GoodS.good {X : Cx} (g : GoodS F B d N sc X) : Good F B d N sc X := ⟨g.fs.toFit, g.see, g.wd⟩
def OkS (F : Fx) (B : Tab) (d : Nat) (N : List Str) (sc : Scope) (ir : S) : Prop := ∀ X st, GoodS F B d N sc X → cS B N sc ir st = true → PS X st (tS F (dS (callD B.fs d) ir))
def OkSs (F : Fx) (B : Tab) (d : Nat) (N : List Str) (sc : Scope) (ir : Ss) : Prop := ∀ X st, GoodS F B d N sc X → cSs B N sc ir st = true → PSs X st (tS F (dSs (callD B.fs d) ir))
theorem oke (ir : E) : OkE F B d N ir := ok_all.1 ir
theorem okt (ir : T) : OkT F B d N ir := ok_all.2.1 ir
theorem oki (ir : It) : OkI F B d N ir := ok_all.2.2.1 ir
theorem okes (ir : Es) : OkEs F B d N ir := ok_all.2.2.2 ir
theorem swaps_yes {elt : Expr} {gens : List Comprehension} {scope : Scope} {vp py : Pos} {y : Str} {n : Nat} {env : Env} (hk : env.scope.kind = .function) (hy : env.scope.names.lookup y = some .local) (hl : py.line = vp.line)
    (hn : (scope.names.any fun (n, k) => n == y && (k == .local || k == .cell)) = false) : swapsWith (.ListComp elt gens scope vp) (some (.Name y py)) n env = pure true := by
  have hbk : env.blockKind = .function := by unfold Env.blockKind; rw [hk]; rfl
  have ky : env.kindOf y = some .local := hy
  unfold swapsWith
  show (pure (env.blockKind == .function && env.kindOf y == some .local && py.line == vp.line && !(scope.names.any fun (n, k) => n == y && (k == .local || k == .cell))) : Sem Bool) = _
  rw [hbk, ky, hl, hn]
  simp
theorem swaps_cell {elt : Expr} {gens : List Comprehension} {scope : Scope} {vp py : Pos} {y : Str} {n : Nat} {env : Env} (hy : env.scope.names.lookup y = some .cell) : swapsWith (.ListComp elt gens scope vp) (some (.Name y py)) n env = pure false := by
  have ky : env.kindOf y = some .cell := hy
  show (pure (env.blockKind == .function && env.kindOf y == some .local && py.line == vp.line && !(scope.names.any fun (n, k) => n == y && (k == .local || k == .cell))) : Sem Bool) = _
  rw [ky, show (some NameKind.cell == some NameKind.local) = false from rfl]
  simp only [Bool.and_false, Bool.false_and]
theorem ok_setLc {X : Cx} {j : Bool} {i : Nat} {y : Str} {py vp spos : Pos} {elt' : Expr} {gens : List Comprehension} {scope : Scope} {t : T} {own : List Nat} {it : It} {cond : OE} {elt : E} (g : GoodS F B d N sc X) (hi : N[i]? = some y) (hy : sc.names.lookup y = some .local) (hl : py.line = vp.line)
    (hn : (scope.names.any fun (n, k) => n == y && (k == .local || k == .cell)) = false) (h : cE B N (.comp t own it cond elt) sc (.ListComp elt' gens scope vp) = true) :
    PS X (.Assign [.Name y py] (.ListComp elt' gens scope vp) spos) (tS F fun ρ α => (match j with
      | true => (compD (dI (callD B.fs d) it) (dT (callD B.fs d) t) (dC (callD B.fs d) cond) (dE (callD B.fs d) elt) own ρ α).bind joinP
      | false => compD (dI (callD B.fs d) it) (dT (callD B.fs d) t) (dC (callD B.fs d) cond) (dE (callD B.fs d) elt) own ρ α).bind fun p α => .ok (.nx (ρ.set i (some p))) α) := by
  simp only [cE] at h
  split at h
  · rename_i e1 elt2 tg iter ifs asy scope2 pos he
    cases he
    simp only [Bool.and_eq_true, decide_eq_true_eq] at h
    obtain ⟨⟨⟨⟨⟨⟨⟨⟨rfl, h1⟩, h2⟩, h3⟩, h4⟩, h5⟩, h6⟩, h7⟩, h8⟩ := h
    have G := g.good
    have k := s_setLc (j := j) (spos := spos) g.fs (by rw [g.see.n]; exact hi) (g.see.loc y hy) (swaps_yes g.fs.kd (g.see.loc y hy) hl hn) (oki it sc X tg iter G h4) (blk_ok g.see h2) (fun s H C cl fp => okt t scope _ _ (good_blk G) h5)
      (fun s H C cl fp => ok_C (fun a _ => oke a) scope _ _ (good_blk G) h7) (fun s H C cl fp => (oke elt scope _ _ (good_blk G) h8).e) h3 (by rw [h1]; exact h6)
    have h1' : (ownOf N own).map (fun x : Str × Nat => x.2) = own := h1
    rw [h1'] at k
    exact k
  · cases h
theorem s_asgOk (t : T) (e : E) : OkS F B d N sc (.asg t e) := by
  intro X st g h
  simp only [cS] at h
  split at h
  · rename_i tg e' pos
    simp only [Bool.and_eq_true] at h
    obtain ⟨⟨⟨⟨h1, h2⟩, h3⟩, h4⟩, h5⟩ := h
    have G := g.good
    have plain : swapsWith e' (some tg) pos.line X.env = pure false → PS X (.Assign [tg] e' pos) (tS F (dS (callD B.fs d) (.asg t e))) := fun hs =>
      s_asg (oke e sc X _ G h3).e (okt t sc X _ G h2) hs (sw_none (fun x q => (g.see.cel x q).1) h4) h1
    rw [Bool.or_eq_true] at h5
    rcases h5 with h5 | h5
    · exact plain (swaps_no h5)
    · split at h5
      · rename_i elt' gens scope vp
        split at h5
        · rename_i y py
          simp only [Bool.or_eq_true, Bool.and_eq_true, decide_eq_true_eq, Bool.not_eq_true'] at h5
          rcases h5 with h5 | h5
          · exact plain (swaps_cell (g.see.cel y h5).1)
          obtain ⟨⟨⟨h6, h7⟩, h8⟩, h9⟩ := h5
          have h7 : py.line = vp.line := by simpa using h7
          cases t with
          | var i =>
            simp only [cT, Bool.and_eq_true, decide_eq_true_eq] at h2
            split at h9
            · exact ok_setLc (j := false) g h2.1 h6 h7 h8 h3
            · simp only [cE, Bool.and_eq_true] at h3
              exact ok_setLc (j := true) g h2.1 h6 h7 h8 (by simpa only [cE] using h3.2)
            · cases h9
          | tup ts => simp [cT] at h2
          | sub o i => simp [cT] at h2
        · exact plain rfl
        · cases h5
      · cases h5
  · cases h
theorem parOk_cons {i : Nat} {is : List Nat} {ts : List Expr} {line : Nat} (h : parOk N sc (i :: is) ts line = true) : ∃ x p r, ts = .Name x p :: r ∧ N[i]? = some x ∧ sc.names.lookup x = some .local ∧ p.line = line ∧ parOk N sc is r line = true := by
  cases ts with
  | nil => simp [parOk] at h
  | cons e r =>
    cases e <;> simp only [parOk, Bool.and_eq_true, decide_eq_true_eq, Bool.false_eq_true] at h
    obtain ⟨⟨⟨a1, a2⟩, a3⟩, h⟩ := h
    exact ⟨_, _, r, rfl, a1, a2, by simpa using a3, h⟩
theorem parOk_nil {ts : List Expr} {line : Nat} (h : parOk N sc [] ts line = true) : ts = [] := by
  cases ts with
  | nil => rfl
  | cons e r => simp [parOk] at h
theorem ne_names {X : Cx} (nd : X.N.Nodup) {i j : Nat} {x y : Str} (hi : X.N[i]? = some x) (hj : X.N[j]? = some y) (hij : i ≠ j) : x ≠ y := fun e => hij (by
  subst e
  exact (List.getElem?_inj (List.getElem?_eq_some_iff.mp hi).1 nd).mp (hi.trans hj.symm))
theorem s_parOk (is : List Nat) (es : Es) : OkS F B d N sc (.par is es) := by
  intro X st g h
  simp only [cS] at h
  split at h
  · rename_i ts kt pt es' k2 pt2 pos
    simp only [Bool.and_eq_true, decide_eq_true_eq, Bool.not_eq_true', Bool.or_eq_true, beq_iff_eq] at h
    obtain ⟨⟨⟨⟨⟨⟨h1, h2⟩, h3⟩, h4⟩, h5⟩, h6⟩, h7⟩ := h
    have G := g.good
    obtain ⟨A, hs⟩ := (okes es sc X G).1 _ h7
    rcases h1 with h1 | h1
    · obtain ⟨i, j, rfl⟩ : ∃ i j, is = [i, j] := by
        match is, h1 with | [i, j], _ => exact ⟨i, j, rfl⟩
      obtain ⟨a, b, rfl⟩ : ∃ a b, es' = [a, b] := by
        match es', h2 with | [a, b], _ => exact ⟨a, b, rfl⟩
      obtain ⟨x, px, r, rfl, a1, a2, a3, h3⟩ := parOk_cons h3
      obtain ⟨y, py, r, rfl, b1, b2, b3, h3⟩ := parOk_cons h3
      have := parOk_nil h3
      subst this
      have hij : i ≠ j := by simpa using h4
      have hi : X.N[i]? = some x := by rw [g.see.n]; exact a1
      have hj : X.N[j]? = some y := by rw [g.see.n]; exact b1
      exact s_par2 g.fs hi hj hij (g.see.loc _ a2) (g.see.loc _ b2) A (sw_two g.fs.kd (g.see.loc _ a2) (g.see.loc _ b2) b3 (ne_names g.fs.nd hi hj hij) hs h5 h6)
    · obtain ⟨i, j, l, rfl⟩ : ∃ i j l, is = [i, j, l] := by
        match is, h1 with | [i, j, l], _ => exact ⟨i, j, l, rfl⟩
      obtain ⟨a, b, c, rfl⟩ : ∃ a b c, es' = [a, b, c] := by
        match es', h2 with | [a, b, c], _ => exact ⟨a, b, c, rfl⟩
      obtain ⟨x, px, r, rfl, a1, a2, a3, h3⟩ := parOk_cons h3
      obtain ⟨y, py, r, rfl, b1, b2, b3, h3⟩ := parOk_cons h3
      obtain ⟨z, pz, r, rfl, c1, c2, c3, h3⟩ := parOk_cons h3
      have := parOk_nil h3
      subst this
      simp only [List.nodup_cons, List.mem_cons, List.not_mem_nil, or_false, not_or, not_false_eq_true, and_true, List.nodup_nil] at h4
      obtain ⟨⟨hij, hil⟩, hjl⟩ := h4
      have hi : X.N[i]? = some x := by rw [g.see.n]; exact a1
      have hj : X.N[j]? = some y := by rw [g.see.n]; exact b1
      have hl : X.N[l]? = some z := by rw [g.see.n]; exact c1
      exact s_par3 g.fs hi hj hl hij hil hjl (g.see.loc _ a2) (g.see.loc _ b2) (g.see.loc _ c2) A
        (sw_three g.fs.kd (g.see.loc _ a2) (g.see.loc _ b2) (g.see.loc _ c2) b3 c3 (ne_names g.fs.nd hi hj hij) (ne_names g.fs.nd hi hl hil) (ne_names g.fs.nd hj hl hjl) hs h5 h6)
  · cases h
theorem s_augOk (i : Nat) (o : Bop) (e : E) : OkS F B d N sc (.aug i o e) := by
  intro X st g h
  simp only [cS] at h
  split at h
  · simp only [Bool.and_eq_true, decide_eq_true_eq, Bool.or_eq_true] at h
    obtain ⟨⟨⟨h1, h2⟩, h3⟩, h4⟩ := h
    have G := g.good
    have L := loc_of g.see h2
    rcases h3 with ⟨rfl, rfl⟩ | ⟨rfl, rfl⟩
    · exact s_aug g.fs ip_add (fun _ _ _ => rfl) (by rw [g.see.n]; exact h1) L.1 L.2 (oke e sc X _ G h4).e
    · exact s_aug g.fs ip_sub (fun _ _ _ => rfl) (by rw [g.see.n]; exact h1) L.1 L.2 (oke e sc X _ G h4).e
  · cases h
/-- THE RULE for statements -/
theorem ok_stmts : ∀ ss : Ss, OkSs F B d N sc ss := by
  refine Ss.rec (motive_1 := fun s => OkS F B d N sc s) (motive_2 := fun ss => OkSs F B d N sc ss) ?_ ?_ ?_ ?_ ?_ ?_ ?_ ?_ ?_ ?_ ?_ ?_ ?_ ?_ ?_
  · intro X st g h
    simp only [cS] at h
    split at h
    · exact s_pass
    · cases h
  · intro X st g h
    simp only [cS] at h
    split at h
    · exact s_brk
    · cases h
  · intro X st g h
    simp only [cS] at h
    split at h
    · exact s_cont
    · cases h
  · intro X st g h
    exact s_dead
  · intro e X st g h
    simp only [cS] at h
    split at h
    · rw [Bool.and_eq_true] at h
      exact s_expr (oke e sc X _ g.good h.2).e h.1
    · cases h
  · exact fun t e => s_asgOk t e
  · exact fun is es => s_parOk is es
  · exact fun i o e => s_augOk i o e
  · intro e X st g h
    simp only [cS] at h
    split at h
    · exact s_ret (oke e sc X _ g.good h).e
    · cases h
  · intro X st g h
    simp only [cS] at h
    split at h
    · exact s_retN
    · cases h
  · intro c a b iha ihb X st g h
    simp only [cS] at h
    split at h
    · simp only [Bool.and_eq_true] at h
      obtain ⟨⟨h1, h2⟩, h3⟩ := h
      have k := s_if (pos := by assumption) (oke c sc X _ g.good h1).t (iha X _ g h2) (ihb X _ g h3)
      have q : dS (callD B.fs d) (.ife c a b) = fun ρ α => (tst (dE (callD B.fs d) c) ρ α).bind fun t α => match t with
          | true => dSs (callD B.fs d) a ρ α
          | false => dSs (callD B.fs d) b ρ α := by
        funext ρ α
        simp only [tst, bind_assoc]
        rfl
      rw [q]
      exact k
    · cases h
  · intro c b ihb X st g h
    simp only [cS] at h
    split at h
    · simp only [Bool.and_eq_true] at h
      exact s_while g.fs (oke c sc X _ g.good h.1).t (ihb X _ g h.2)
    · cases h
  · intro t it b ihb X st g h
    simp only [cS] at h
    split at h
    · simp only [Bool.and_eq_true] at h
      obtain ⟨⟨⟨h1, h2⟩, h3⟩, h4⟩ := h
      exact s_for g.fs (oki it sc X _ _ g.good h2) (okt t sc X _ g.good h3) (ihb X _ g h4) h1
    · cases h
  · intro X st g h
    simp only [cSs] at h
    split at h
    · exact s_nil
    · cases h
  · intro s r ihs ihr X st g h
    simp only [cSs] at h
    split at h
    · rw [Bool.and_eq_true] at h
      exact s_cons (ihs X _ g h.1) (ihr X _ g h.2)
    · cases h
end
end Mw
end
section
set_option Elab.async false
set_option linter.all false
set_option maxRecDepth 100000
set_option maxHeartbeats 4000000
/-! Mw18b: the body of an __init__. -/
namespace Mw
open PySem PySem.Spec PyProof.Rows L2

/-- the text of an __init__: tests that raise, then fields -/
def cG (B : Tab) (N : List Str) (sc : Scope) : List E → List (Str × E) → List Stmt → Bool
  | g :: gs, fe, st :: ss => (match st with
    | .If c' _ [] _ => cE B N g sc c'
    | _ => false) && cG B N sc gs fe ss
  | [], (f, e) :: fe, st :: ss => (match st with
    | .Assign [.Attribute (.Name x _) nm _] e' _ => decide (N[0]? = some x) && isVis sc x && notDbg x && decide (nm = f) && noComp e' && cE B N e sc e'
    | _ => false) && cG B N sc [] fe ss
  | [], [], [] => true
  | _, _, _ => false
/-- the new object: its fields till now -/
structure InSt (F : Fx) (C x dx : Addr) (μ0 : Zn) (H0 : Hp) (ν : Zn) (α : AH) (fs : List (Str × PV)) (H : Hp) : Prop where
  off : ν.off = x :: dx :: μ0.off
  le : Le F μ0 H0 ⟨ν.on, μ0.off⟩ H
  rel : Rel F ν α H
  ne : dx ≠ x
  ob : ∃ vs, H x = some (.ins C dx vs) ∧ RepF F ν H fs vs
  own : H dx = some (.own x)
  h0 : H0 x = none
  h1 : H0 dx = none
section
variable {F : Fx} {B : Tab} {d : Nat} {N : List Str} {sc : Scope} {X : Cx} {μ μ' ν ν' μ0 : Zn} {H H' H0 : Hp} {α α' : AH} {ρ : Loc'} {σ : L2.St} {Q : VK} {C x dx : Addr} {fs : List (Str × PV)}
theorem InSt.on (S : InSt F C x dx μ0 H0 ν α fs H) : x ∈ ν.off ∧ x ∉ ν.on ∧ dx ∉ ν.on := by
  have h : x ∈ ν.off := by rw [S.off]; exact List.mem_cons_self
  have h2 : dx ∈ ν.off := by rw [S.off]; exact List.mem_cons_of_mem _ List.mem_cons_self
  exact ⟨h, (S.rel.offs x h).1, (S.rel.offs dx h2).1⟩
theorem InSt.step (S : InSt F C x dx μ0 H0 ν α fs H) (l : Le F ν H ν' H') (r : Rel F ν' α' H') : InSt F C x dx μ0 H0 ν' α' fs H' := by
  obtain ⟨vs, e, rf⟩ := S.ob
  obtain ⟨h1, h2, h3⟩ := S.on
  exact ⟨l.off.trans S.off, le_unby (off := μ0.off) S.le l, r, S.ne, ⟨vs, (l.fr x _ h2 e).2, rf.le l⟩, (l.fr dx _ h3 S.own).2, S.h0, S.h1⟩
theorem repF_len {fs : List (Str × PV)} {vs : List (Str × V)} (r : RepF F μ H fs vs) : fs.length = vs.length := by
  induction fs generalizing vs with
  | nil => cases r; rfl
  | cons a fs ih =>
    obtain ⟨g, y⟩ := a
    cases r with
    | cons a b => rw [List.length_cons, List.length_cons, ih b]
theorem repF_put {f : Str} {p : PV} {v : V} (rp : Rep F μ H p v) : ∀ {fs : List (Str × PV)} {vs : List (Str × V)}, RepF F μ H fs vs → fs.lookup f = none → RepF F μ H (fs ++ [(f, p)]) (putF f v vs)
  | [], _, .nil, _ => .cons rp .nil
  | (g, y) :: fs, _, .cons a b, h => by
    rw [List.lookup_cons] at h
    have hg : (f == g) = false := by
      cases e : f == g with
      | true => rw [e] at h; cases h
      | false => rfl
    rw [hg] at h
    have hne : ¬ g = f := fun e => by subst e; simp at hg
    show RepF F μ H ((g, y) :: (fs ++ [(f, p)])) (if g = f then _ else _)
    rw [if_neg hne]
    exact .cons a (repF_put rp b h)
/-- one more field -/
theorem InSt.put (S : InSt F C x dx μ0 H0 ν α fs H) {f : Str} {p : PV} {v : V} {vs : List (Str × V)} (hv : H x = some (.ins C dx vs)) (rp : Rep F ν H p v) (hf : fs.lookup f = none) :
    InSt F C x dx μ0 H0 ν α (fs ++ [(f, p)]) (upd H x (.ins C dx (putF f v vs))) ∧ Ext F ν H ν (upd H x (.ins C dx (putF f v vs))) := by
  obtain ⟨vs', e, rf⟩ := S.ob
  rw [hv] at e
  cases e
  obtain ⟨h1, h2, h3⟩ := S.on
  have k : ∀ {a : Addr} {y : HO}, H a = some y → (∀ C' d' w, y ≠ .ins C' d' w) → upd H x (.ins C dx (putF f v vs)) a = some y := fun {a y} e n => by
    rw [upd_ne (fun z => by rw [z, hv] at e; cases e; exact n _ _ _ rfl)]; exact e
  have ex : Ext F ν H ν (upd H x (.ins C dx (putF f v vs))) := ⟨⟨[], by simp⟩, fun a ws e => k e fun _ _ _ z => (by cases z), fun a o ws e => k e fun _ _ _ z => (by cases z), fun a o n e => ⟨n, by rw [upd_ne (fun z => n.2 (by rw [z]; exact h1))]; exact e⟩⟩
  have rel' : Rel F ν α (upd H x (.ins C dx (putF f v vs))) := ⟨S.rel.len, S.rel.nd, fun i a o h4 h5 => (S.rel.obj i a o h4 h5).ext ex (upd_ne fun z => h2 (by rw [← z]; exact List.mem_of_getElem? h4)) fun b y e => k e fun _ _ _ z => (by cases z),
    fun b hb => ⟨(S.rel.offs b hb).1, upd_some (S.rel.offs b hb).2⟩⟩
  refine ⟨⟨S.off, le_new S.le S.h0, rel', S.ne, ⟨_, upd_same, repF_put (rp.ext ex) (rf.ext ex) hf⟩, by rw [upd_ne S.ne]; exact S.own, S.h0, S.h1⟩, ex⟩
def PostI (F : Fx) (C x dx : Addr) (μ0 : Zn) (H0 : Hp) (r : Res (List (Str × PV))) (σ : L2.St) (D : Ends) : Prop := match r with
  | .ok fs α => ∀ ν H, InSt F C x dx μ0 H0 ν α fs H → D.nx σ H
  | .err _ _ _ => False
  | .bad => False
/-- the tests, then the fields behind those that stand already -/
def initD (Fn : Fn) (gs : List E) (fe : List (Str × E)) (fs : List (Str × PV)) (ρ : Loc') (α : AH) : Res (List (Str × PV)) := (dG Fn gs ρ α).bind fun _ α => (dF Fn fe ρ α).bind fun ps α => .ok (fs ++ ps) α
def tIn (F : Fx) (Fn : Fn) (C x dx : Addr) (μ0 : Zn) (H0 : Hp) (gs : List E) (fe : List (Str × E)) : TS := fun D σ H => ∃ ν ρ α fs, InSt F C x dx μ0 H0 ν α fs H ∧ σ[0]? = some (some (.ref x)) ∧ EnvR F ν H ρ σ ∧ (∀ p ∈ fe, fs.lookup p.1 = none) ∧ (fe.map (·.1)).Nodup ∧ fs.length + fe.length < 1000 ∧
  PostI F C x dx μ0 H0 (initD Fn gs fe fs ρ α) σ D
theorem ok_init (g : GoodS F B d N sc X) (cl : Cls F.K C) : ∀ (gs : List E) (fe : List (Str × E)) (ss : List Stmt), (∀ p ∈ fe, NoAttr F.K C p.1) → cG B N sc gs fe ss = true → PSs X ss (tIn F (callD B.fs d) C x dx μ0 H0 gs fe)
  | [], [], ss, _, h => by
    cases ss with
    | cons _ _ => simp [cG] at h
    | nil =>
      refine pss_imp pss_nil fun D σ H ⟨ν, ρ, α, fs, S, hσ, env, _, _, _, post⟩ => ?_
      exact post ν H (by simpa [initD, dG, dF] using S)
  | ge :: gs, fe, ss, na, h => by
    cases ss with
    | nil => simp [cG] at h
    | cons st ss =>
      simp only [cG, Bool.and_eq_true] at h
      obtain ⟨h1, h2⟩ := h
      split at h1
      · rename_i c' body pos
        have ih := ok_init g cl gs fe ss na h2
        have hc := (oke ge sc X _ g.good h1).t
        have hd : PSs X body (fun _ _ _ => False) := ⟨fun _ _ _ _ _ _ q => q.elim⟩
        refine pss_imp (pss_cons (ps_if (pos := pos) hc hd pss_nil) ih) fun D σ H ⟨ν, ρ, α, fs, S, hσ, env, n1, n2, n3, post⟩ => ?_
        show tB' F (tst (dE (callD B.fs d) ge)) σ H _
        refine ⟨ν, ρ, α, S.rel, env, ?_⟩
        have e : initD (callD B.fs d) (ge :: gs) fe fs ρ α = (tst (dE (callD B.fs d) ge) ρ α).bind fun t α => match t with
            | true => .bad
            | false => initD (callD B.fs d) gs fe fs ρ α := by
          unfold initD tst
          simp only [dG, bind_assoc]
          congr 1; funext p α1
          congr 1; funext t α2
          cases t <;> rfl
        rw [e] at post
        cases ht : tst (dE (callD B.fs d) ge) ρ α with
        | err c xs a => rw [ht] at post; exact post.elim
        | bad => rw [ht] at post; exact post.elim
        | ok t α1 =>
          rw [ht] at post
          intro ν1 H1 t' l r1 et
          subst et
          cases t with
          | true => exact post.elim
          | false =>
            rw [if_neg Bool.false_ne_true]
            exact ⟨ν1, ρ, α1, fs, S.step l r1, hσ, env.le l, n1, n2, n3, post⟩
      · cases h1
  | [], (f, e) :: fe, ss, na, h => by
    cases ss with
    | nil => simp [cG] at h
    | cons st ss =>
      simp only [cG, Bool.and_eq_true] at h
      obtain ⟨h1, h2⟩ := h
      split at h1
      · rename_i y py nm pa e' pos
        simp only [Bool.and_eq_true, decide_eq_true_eq] at h1
        obtain ⟨⟨⟨⟨⟨k1, k2⟩, k3⟩, rfl⟩, k4⟩, k5⟩ := h1
        have ih := ok_init g cl [] fe ss (fun p hp => na p (List.mem_cons_of_mem _ hp)) h2
        have hv := (oke e sc X _ g.good k5).e
        have hs : PE X (.Name y py) _ := pe_var (pos := py) (by rw [g.see.n]; exact k1) (vis_of g.see k2) (dbg_of k3).1 (dbg_of k3).2
        refine pss_imp (pss_cons (ps_fld (pos := pos) (pos' := pa) hs hv (swaps_no k4)) ih) fun D σ H ⟨ν, ρ, α, fs, S, hσ, env, n1, n2, n3, post⟩ => ?_
        show tE F (dE (callD B.fs d) e) σ H _
        refine ⟨ν, ρ, α, S.rel, env, ?_⟩
        have eq : initD (callD B.fs d) [] ((nm, e) :: fe) fs ρ α = (dE (callD B.fs d) e ρ α).bind fun p α => initD (callD B.fs d) [] fe (fs ++ [(nm, p)]) ρ α := by
          unfold initD
          simp only [dG, dF, bind_assoc, Res.ok_bind]
          congr 1; funext p α1
          congr 1; funext ps α2
          simp
        rw [eq] at post
        cases he : dE (callD B.fs d) e ρ α with
        | err c xs a => rw [he] at post; exact post.elim
        | bad => rw [he] at post; exact post.elim
        | ok p α1 =>
          rw [he] at post
          intro ν1 H1 v l r1 rp
          have S1 := S.step l r1
          obtain ⟨vs, ev, rf⟩ := S1.ob
          have hlen := repF_len rf
          obtain ⟨S2, ex⟩ := S1.put ev rp (n1 _ List.mem_cons_self)
          refine ⟨_, hσ, x, C, dx, vs, rfl, ev, by rw [g.fs.K]; exact cl, by rw [g.fs.K]; exact na _ List.mem_cons_self, by rw [← hlen]; simp only [List.length_cons] at n3; omega, ?_⟩
          rw [List.map_cons, List.nodup_cons] at n2
          refine ⟨ν1, ρ, α1, fs ++ [(nm, p)], S2, hσ, (env.le l).ext ex, fun q hq => ?_, n2.2, by simp only [List.length_append, List.length_cons, List.length_nil] at n3 ⊢; omega, post⟩
          have hne : q.1 ≠ nm := fun z => n2.1 (by rw [← z]; exact List.mem_map.mpr ⟨q, hq, rfl⟩)
          rw [List.lookup_append, n1 q (List.mem_cons_of_mem _ hq)]
          have : (q.1 == nm) = false := by simpa using hne
          simp [List.lookup, this]
      · cases h1
end
end Mw
end
section
set_option Elab.async false
set_option linter.all false
set_option maxRecDepth 100000
set_option maxHeartbeats 4000000
/-! Mw19: a text's defs, all together; the law's end. -/
namespace Mw
open PySem PySem.Spec PyProof.Rows L2

/-- an object's own name ahead of the parameters -/
def FD.nP (fd : FD) : Nat := match fd.init with
  | none => fd.np
  | some _ => fd.np + 1
/-- a def of the text, as it stands behind the top -/
structure DefAt (K : PySem.W.Frag) (B : Tab) (j : Nat) (fd : FD) (st : Stmt) (f : Addr) (fdt : FuncData) : Prop where
  fu : Fun K fd.name fd.qual st f fdt
  bi : fd.star = false → Binds K fdt (fd.N.take fd.nP) []
  bs : fd.star = true → ∀ us rest : List Value, us.length = fd.nP - 1 → bindArgs fdt ⟨us ++ rest, []⟩ = (newTuple rest >>= fun t => pure ((fd.N.take (fd.nP - 1)).zip us ++ [(fd.N.getD (fd.nP - 1) Str.empty, t)]))
  kw : ∀ n ks perm, (j, n, ks, perm) ∈ B.kw → ∀ (s : Shared) (us ws : List Value), us.length = n → ws.length = ks.length → BindsTo s fdt ⟨us, ks.zip ws⟩ ((fd.N.take fd.nP).zip (us ++ permP perm ws))
def cBody (B : Tab) (fd : FD) (st : Stmt) : Bool := match fd.init with
  | none => cSs B fd.N (defScope st) fd.body (defBody st)
  | some (c, gs, fe) => cG B fd.N (defScope st) gs fe (defBody st) && B.cl c (fun k => decide (∀ p ∈ fe, p.1 ∈ k.fields)) && decide ((fe.map (·.1)).Nodup) && decide (fe.length < 1000)
/-- what is seen of a def's text -/
structure DefOk (B : Tab) (fd : FD) (st : Stmt) : Prop where
  S : FnScope fd.N (fd.N.take fd.nP) (defScope st)
  np : fd.nP ≤ fd.N.length
  sp : fd.star = true → 0 < fd.np
  chk : cBody B fd st = true
structure Txt (F : Fx) (B : Tab) (mg : Str → Option Value) : Prop where
  fn : ∀ j fd, B.fs[j]? = some fd → ∃ st fdt, DefAt F.K B j fd st (F.fa j) fdt ∧ DefOk B fd st
  kw : B.kw.all (fun e => (B.fs[e.1]?).any fun fd => !fd.star && fd.init.isNone) = true
  gn : ∀ x j, (x, j) ∈ B.gn → mg x = some (.ref (F.fa j)) ∧ PySem.W.keepIn F.K (.ref (F.fa j)) = true
  gi : ∀ x i, (x, i) ∈ B.gi → ∃ t, mg x = some (.int i t)
  gs : ∀ x z, (x, z) ∈ B.gs → ∃ t, mg x = some (.str z t)
  cls : ∀ c k, B.cls[c]? = some k → ClsT F mg c k
  bl : ∀ x ∈ bltNames, mg x = none

section
variable {F : Fx} {B : Tab} {mg : Str → Option Value} {μ : Zn} {H : Hp} {α : AH} {Q : VK}
theorem start_env {n : Nat} {N : List Str} {ps : List PV} {vs : List V} (hn : N.length = n) (r : RepL F μ H ps vs) : EnvR F μ H (startP n ps) (L2.start N vs) := by
  have e := r.length
  refine ⟨?_, fun i p h => ?_⟩
  · unfold startP L2.start
    rw [List.length_append, List.length_append, List.length_map, List.length_map, List.length_replicate, List.length_replicate, hn, e]
  · unfold startP at h
    by_cases hi : i < ps.length
    · rw [List.getElem?_append_left (by simpa using hi), List.getElem?_map] at h
      cases hp : ps[i]? with
      | none => rw [hp] at h; cases h
      | some q =>
        rw [hp] at h; cases h
        obtain ⟨v, hv, rv⟩ := r.get hp
        refine ⟨v, ?_, rv⟩
        unfold L2.start
        rw [List.getElem?_append_left (by simpa [← e] using hi), List.getElem?_map, hv]
        rfl
    · rw [List.getElem?_append_right (by simpa using hi), List.getElem?_replicate] at h
      split at h <;> cases h
/-- a dict may be locked at the end -/
def lockD (F : Fx) (D : Ends) : Ends := ⟨fun σ H => LockP F H (D.nx σ), fun v H => LockP F H (D.rt v), fun σ H => LockP F H (D.bk σ), fun σ H => LockP F H (D.ct σ)⟩
theorem pss_lock {X : Cx} {ss : List Stmt} {t : TS} (ft : Fit F X) (h : PSs X ss t) : PSs X ss (fun D σ H => t (lockD F D) σ H) := by
  refine ⟨fun pins s σ H D I q => thn (h.run pins s σ H (lockD F D) I q) fun f s1 q1 => ?_⟩
  cases f with
  | next => obtain ⟨σ1, H1, I1, q1⟩ := q1; obtain ⟨H2, I2, q2⟩ := lockP_ok ft I1 q1; exact ⟨σ1, H2, I2, q2⟩
  | brk => obtain ⟨σ1, H1, I1, q1⟩ := q1; obtain ⟨H2, I2, q2⟩ := lockP_ok ft I1 q1; exact ⟨σ1, H2, I2, q2⟩
  | cont => obtain ⟨σ1, H1, I1, q1⟩ := q1; obtain ⟨H2, I2, q2⟩ := lockP_ok ft I1 q1; exact ⟨σ1, H2, I2, q2⟩
  | ret v => obtain ⟨x, σ1, H1, I1, r, q1⟩ := q1; obtain ⟨H2, I2, q2⟩ := lockP_ok ft I1 q1; exact ⟨x, σ1, H2, I2, r, q2⟩
theorem body_post {r : SRes} {fz : Bool} (r0 : Rel F μ α H) (h : Post F μ H (r.bind (retP α fz)) (Rep F) Q) : PostS F μ H r (lockD F { nx := fun _ H' => Q .non H', rt := Q }) := by
  cases r with
  | ok f α1 =>
    cases f with
    | nx ρ1 => exact fun μ' H' σ' l r' _ => gcV_ok (fz := fz) l r0 r' .non fun μ2 H2 l2 r2 rp => h μ2 H2 _ l2 r2 rp
    | rt p => exact fun μ' H' v l r' rp => gcV_ok (fz := fz) l r0 r' rp fun μ2 H2 l2 r2 rp => h μ2 H2 _ l2 r2 rp
    | bk ρ1 => exact h.elim
    | ct ρ1 => exact h.elim
  | err c xs a => exact h
  | bad => exact h
/-- what a body's values come to -/
noncomputable def bodyD (Fn : Fn) (fd : FD) (qs : List PV) (α : AH) : Res PV := match fd.init with
  | none => (dSs Fn fd.body (startP fd.N.length qs) α).bind (retP α fd.fz)
  | some (c, gs, fe) => (dG Fn gs (none :: startP (fd.N.length - 1) qs) α).bind fun _ α1 => (dF Fn fe (none :: startP (fd.N.length - 1) qs) α1).bind fun fs α2 => gcR α fd.fz (.obj c fs) α2
theorem runFn_eq (Fn : Fn) (fd : FD) (ps : List PV) (α : AH) : runFn Fn fd ps α = match argsP fd.np fd.star ps with
  | none => .bad
  | some qs => bodyD Fn fd qs α := rfl
/-- the promise of a body, its parameters bound -/
def spBody (F : Fx) (Fn : Fn) (fd : FD) : Sp := fun vs H Q _ => match fd.init with
  | none => ∃ μ α qs, Rel F μ α H ∧ RepL F μ H qs vs ∧ Post F μ H (bodyD Fn fd qs α) (Rep F) Q
  | some (c, _, _) => ∃ x dx ws μ0 H0 ν α qs Qv, vs = .ref x :: ws ∧ Rel F μ0 α H0 ∧ InSt F (F.τ c) x dx μ0 H0 ν α [] H ∧ RepL F ν H qs ws ∧ Post F μ0 H0 (bodyD Fn fd qs α) (Rep F) Qv ∧ ∀ H2, Qv (.ref x) H2 → Q .non H2
theorem run_body {X : Cx} {d : Nat} {fd : FD} {st : Stmt} (g : GoodS F B d fd.N (defScope st) X) (tx : Txt F B mg) (ok : DefOk B fd st) {vs : List V} {E : XK} (hl : vs.length ≤ fd.N.length) :
    PSs X (defBody st) (fun D σ H' => spBody F (callD B.fs d) fd vs H Q E ∧ D = { nx := fun _ H' => Q .non H', rt := Q } ∧ σ = start fd.N vs ∧ H' = H) := by
  have chk := ok.chk
  unfold cBody at chk
  cases hi : fd.init with
  | none =>
    rw [hi] at chk
    refine pss_imp (pss_lock g.fs.toFit (ok_stmts fd.body _ _ g chk)) fun D σ H' ⟨q, e1, e2, e3⟩ => ?_
    subst e1 e2 e3
    unfold spBody at q
    rw [hi] at q
    obtain ⟨μ, α, qs, rel, rq, post⟩ := q
    unfold bodyD at post
    rw [hi] at post
    exact ⟨μ, _, α, rel, start_env rfl rq, body_post rel post⟩
  | some p =>
    obtain ⟨c, gs, fe⟩ := p
    rw [hi] at chk
    simp only [Bool.and_eq_true, decide_eq_true_eq] at chk
    obtain ⟨⟨⟨c1, c2⟩, c3⟩, c4⟩ := chk
    obtain ⟨k, hk, hf⟩ := cl_of c2
    have C := tx.cls c k hk
    have hf := of_decide_eq_true hf
    refine ⟨fun pins s σ H' D I ⟨q, e1, e2, e3⟩ => ?_⟩
    subst e1 e2 e3
    unfold spBody at q
    rw [hi] at q
    obtain ⟨x, dx, ws, μ0, H0, ν, α, qs, Qv, rfl, r0, S, rq, post, hQ⟩ := q
    have ps := pss_lock g.fs.toFit (ok_init (x := x) (dx := dx) (μ0 := μ0) (H0 := H0) g C.cl gs fe _ (fun p hp => C.fld _ (hf p hp)) c1)
    refine ps.run pins s _ _ _ I ?_
    have hN : fd.N.length ≠ 0 := fun e => by rw [e] at hl; simp at hl
    have env : EnvR F ν H' (none :: startP (fd.N.length - 1) qs) (start fd.N (.ref x :: ws)) := by
      have e := start_env (F := F) (N := fd.N.tail) (n := fd.N.length - 1) (by simp) rq
      have e2 : start fd.N (.ref x :: ws) = some (.ref x) :: start fd.N.tail ws := by
        unfold L2.start
        simp only [List.map_cons, List.cons_append, List.length_cons, List.length_tail]
        congr 3
        omega
      rw [e2]
      refine ⟨by rw [List.length_cons, List.length_cons, e.1], fun i p hp => ?_⟩
      cases i with
      | zero => cases hp
      | succ i => exact e.2 i p hp
    refine ⟨ν, _, α, [], S, by simp [L2.start], env, fun p _ => rfl, c3, by simpa using c4, ?_⟩
    unfold bodyD at post
    rw [hi] at post
    dsimp only at post
    show PostI F (F.τ c) x dx μ0 H0 (initD (callD B.fs d) gs fe [] _ α) _ _
    unfold initD
    cases hg : dG (callD B.fs d) gs (none :: startP (fd.N.length - 1) qs) α with
    | err c xs a => rw [hg] at post; exact post.elim
    | bad => rw [hg] at post; exact post.elim
    | ok u α1 =>
      rw [hg] at post
      simp only [Res.ok_bind] at post ⊢
      cases hd : dF (callD B.fs d) fe (none :: startP (fd.N.length - 1) qs) α1 with
      | err c xs a => rw [hd] at post; exact post.elim
      | bad => rw [hd] at post; exact post.elim
      | ok fs α2 =>
        rw [hd] at post
        intro ν2 H2 S2
        obtain ⟨vs2, ev, rf⟩ := S2.ob
        obtain ⟨o1, o2, o3⟩ := S2.on
        obtain ⟨on2, off2⟩ := ν2
        have ho := S2.off
        dsimp only at ho
        subst ho
        have ef : Ext F ⟨on2, x :: dx :: μ0.off⟩ H2 ⟨on2, μ0.off⟩ H2 := Ext.fewer fun _ h => List.mem_cons_of_mem _ (List.mem_cons_of_mem _ h)
        have r2 : Rel F ⟨on2, μ0.off⟩ α2 H2 := Rel.fewer (off := x :: dx :: μ0.off) (fun _ h => List.mem_cons_of_mem _ (List.mem_cons_of_mem _ h)) S2.rel
        have rp : Rep F ⟨on2, μ0.off⟩ H2 (.obj c fs) (.ref x) := .obj ⟨o2, fresh_noff r0 S2.h0⟩ ⟨o3, fresh_noff r0 S2.h1⟩ ev S2.own (by simpa using rf.ext ef)
        exact gcV_ok (fz := fd.fz) S2.le r0 r2 rp fun μ3 H3 l3 r3 rp3 => hQ H3 (post μ3 H3 _ l3 r3 rp3)
/-- all defs, at every depth -/
theorem all_cal (tx : Txt F B mg) (base : Heap) : ∀ (d j : Nat) (fd : FD), B.fs[j]? = some fd → ∀ st fdt, DefAt F.K B j fd st (F.fa j) fdt → DefOk B fd st →
    FnRG F.P F.w F.K mg base (2 * d) (F.fa j) (spJ F (callD B.fs d j) fd) ∧ (fd.star = false → fd.init = none → FnG F.P F.w F.K mg base (2 * d) (F.fa j) fdt (fd.N.take fd.np) (spD F fd.np (callD B.fs d j))) := by
  intro d
  induction d with
  | zero =>
    intro j fd hj st fdt D ok
    refine ⟨.never fun vs H Q E q => ?_, fun _ _ => .never fun vs H Q E q => ?_⟩
    · unfold spJ at q
      cases hi : fd.init with
      | none => rw [hi] at q; obtain ⟨μ, α, ps, _, _, h⟩ := q; exact h
      | some p => obtain ⟨c, gs, fe⟩ := p; rw [hi] at q; obtain ⟨_, _, _, _, _, _, _, _, _, _, ⟨μ, α, ps, _, _, h⟩, _⟩ := q; exact h
    · obtain ⟨_, μ, α, ps, _, _, h⟩ := q
      exact h
  | succ d ih =>
    intro j fd hj st fdt D ok
    have e : ∀ qs α, callD B.fs (d + 1) j qs α = runFn (callD B.fs d) fd qs α := fun qs α => by
      show (match B.fs[j]? with
        | some f => runFn (callD B.fs d) f qs α
        | none => .bad) = _
      rw [hj]
    have gd : ∀ (cdv : Value) (A : Around) (outer : List Env) (s : Shared) (H : Hp) (E : XK), Room (2 * d + 1) (A.deeper (envOfC fd.qual (defScope st) s.heap.objs.size (F.fa j) cdv)) → A.guards = some [] →
        GoodS F B d fd.N (defScope st) (cxOf CX0 F.P F.w F.K mg base fd.N fd.qual (defScope st) (F.fa j) cdv A outer s H E).nox := fun cdv A outer s H E hr hg => by
      have wd : Wd F B d (cxOf CX0 F.P F.w F.K mg base fd.N fd.qual (defScope st) (F.fa j) cdv A outer s H E).nox := by
        refine ⟨hr, fun i fd' hi => ?_, fun i n ks perm hmem => ?_, tx.gn, tx.gi, tx.gs, tx.cls, tx.bl⟩
        · obtain ⟨st', fdt', a, b⟩ := tx.fn i fd' hi
          exact (ih i fd' hi st' fdt' a b).1
        · have hk := List.all_eq_true.mp tx.kw _ hmem
          cases hi : B.fs[i]? with
          | none => rw [show (B.fs[(i, n, ks, perm).1]?) = none from hi] at hk; cases hk
          | some fd' =>
            rw [show (B.fs[(i, n, ks, perm).1]?) = some fd' from hi] at hk
            simp only [Option.any_some, Bool.and_eq_true, Bool.not_eq_true', Option.isNone_iff_eq_none] at hk
            obtain ⟨st', fdt', a, b⟩ := tx.fn i fd' hi
            have enp : fd'.nP = fd'.np := by unfold FD.nP; rw [hk.2]
            have hl : (fd'.N.take fd'.np).length = fd'.np := by rw [List.length_take]; have := b.np; rw [enp] at this; omega
            have h2 := (ih i fd' hi st' fdt' a b).2 hk.1 hk.2
            refine ⟨fdt', fd'.N.take fd'.np, by rw [hl]; exact h2, fun qs α hne => ?_, fun s us ws e1 e2 => by have := a.kw n ks perm hmem s us ws e1 e2; rw [enp] at this; exact this⟩
            rw [hl] at hne
            have e' : callD B.fs d i qs α = .bad := by
              cases d with
              | zero => rfl
              | succ d =>
                show (match B.fs[i]? with
                  | some f => runFn (callD B.fs d) f qs α
                  | none => .bad) = _
                rw [hi]
                show runFn (callD B.fs d) fd' qs α = .bad
                rw [runFn_eq]
                have : argsP fd'.np fd'.star qs = none := by
                  unfold argsP
                  rw [hk.1]
                  simp [hne]
                rw [this]
            exact e'
      have fs : FitS F (cxOf CX0 F.P F.w F.K mg base fd.N fd.qual (defScope st) (F.fa j) cdv A outer s H E).nox := by
        refine { P := rfl, w := rfl, K := rfl, calm := rfl, gd := ?_, room := ?_, nd := ok.S.nd, po := PassesOwn.never, kd := ok.S.kind }
        · show (A.deeper _).guards = _
          rw [deeper_gd]; exact hg
        · have := hr.un
          show (A.deeper _).units + 200 < _
          omega
      exact ⟨fs, ⟨rfl, fun x h => h, fun x h => ⟨h, rfl⟩, fun x h => .inr h, fun x h => h⟩, wd⟩
    have hlen : (fd.N.take fd.nP).length = fd.nP := by rw [List.length_take]; have := ok.np; omega
    cases hs : fd.star with
    | false =>
      -- positions alone
      have key : FnG F.P F.w F.K mg base (2 * d + 1 + 1) (F.fa j) fdt (fd.N.take fd.nP) (fun vs H Q E => vs.length = fd.nP ∧ spBody F (callD B.fs d) fd vs H Q E) := by
        refine fn_ofG D.fu ok.S (fun vs H Q E q => by rw [hlen]; exact q.1) fun cdv A outer s H vs Q E hr hg hsp => ?_
        refine pss_imp (run_body (Q := Q) (H := H) (E := E) (gd cdv A outer s H E hr hg) tx ok (vs := vs) (by rw [hsp.1]; exact ok.np)) fun D' σ H' ⟨a, b, c, d'⟩ => ⟨a.2, b, c, d'⟩
      have argsE : ∀ qs : List PV, argsP fd.np fd.star qs = if qs.length = fd.np then some qs else none := fun qs => by unfold argsP; rw [hs]
      refine ⟨?_, fun _ hi => ?_⟩
      · refine FnRG.imp (key.toR (D.bi hs)) fun vs H Q E q => ?_
        unfold spJ at q
        cases hi : fd.init with
        | none =>
          have enp : fd.nP = fd.np := by unfold FD.nP; rw [hi]
          rw [hi] at q
          obtain ⟨μ, α, ps, rel, rp, post⟩ := q
          rw [e, runFn_eq, argsE] at post
          by_cases hl : ps.length = fd.np
          · rw [if_pos hl] at post
            refine ⟨by rw [← rp.length, hl, enp], ?_⟩
            unfold spBody
            rw [hi]
            exact ⟨μ, α, ps, rel, rp, post⟩
          · rw [if_neg hl] at post; exact post.elim
        | some p =>
          obtain ⟨c, gs, fe⟩ := p
          have enp : fd.nP = fd.np + 1 := by unfold FD.nP; rw [hi]
          rw [hi] at q
          obtain ⟨x, dx, ws, H0, Qv, rfl, h0, h1, hne, rfl, ⟨μ, α, ps, rel, rp, post⟩, hQ⟩ := q
          rw [e, runFn_eq, argsE] at post
          by_cases hl : ps.length = fd.np
          · rw [if_pos hl] at post
            refine ⟨by rw [List.length_cons, ← rp.length, hl, enp], ?_⟩
            unfold spBody
            rw [hi]
            obtain ⟨l1, _⟩ := new_step rel (o := .own x) h1
            obtain ⟨x1, r1⟩ := by1 rel (o := .own x) h1
            have h0' : upd H0 dx (.own x) x = none := by rw [upd_ne hne.symm]; exact h0
            obtain ⟨l2, _⟩ := new_step r1 (o := .ins (F.τ c) dx []) h0'
            obtain ⟨x2, r2⟩ := by1 r1 (o := .ins (F.τ c) dx []) h0'
            refine ⟨x, dx, ws, μ, H0, ⟨μ.on, x :: dx :: μ.off⟩, α, ps, Qv, rfl, rel, ⟨rfl, (show Le F μ H0 ⟨μ.on, μ.off⟩ _ from le_unby (off := μ.off) (ν := ⟨μ.on, dx :: μ.off⟩) (ν' := ⟨μ.on, dx :: μ.off⟩) l1 l2), r2, hne, ⟨[], upd_same, .nil⟩, by rw [upd_ne hne]; exact upd_same, h0, h1⟩, (rp.ext x1).ext x2, post, hQ⟩
          · rw [if_neg hl] at post; exact post.elim
      · have enp : fd.nP = fd.np := by unfold FD.nP; rw [hi]
        rw [← enp]
        constructor
        · intro vs H Q E q; rw [hlen]; exact q.1
        · intro A outer s H args us vs Q E hr hg e0 hb r q
          refine key.run A outer s H args us vs Q E hr hg e0 hb r ⟨q.1, ?_⟩
          obtain ⟨q1, μ, α, ps, rel, rp, post⟩ := q
          rw [e, runFn_eq, argsE, if_pos (by rw [rp.length, q1, enp])] at post
          unfold spBody
          rw [hi]
          exact ⟨μ, α, ps, rel, rp, post⟩
    | true =>
      have hp := ok.sp hs
      have hnp : fd.nP = (fd.nP - 1) + 1 := by unfold FD.nP; cases fd.init <;> (dsimp only; omega)
      have hlt : fd.nP - 1 < fd.N.length := by have := ok.np; omega
      have htk : fd.N.take fd.nP = fd.N.take (fd.nP - 1) ++ [fd.N.getD (fd.nP - 1) Str.empty] := by
        rw [hnp, List.take_succ, List.getElem?_eq_getElem (by simpa using hlt)]
        simp [List.getD_eq_getElem?_getD, hlt]
      have hl1 : (fd.N.take (fd.nP - 1)).length = fd.nP - 1 := by rw [List.length_take]; omega
      have S' := ok.S
      rw [htk] at S'
      have key := fn_starG (P := F.P) (w := F.w) (mg := mg) (base := base) (k := 2 * d + 1) (sp := fun vs H Q E => vs.length = fd.nP ∧ spBody F (callD B.fs d) fd vs H Q E) D.fu S' (fun us rest hl => D.bs hs us rest (by rw [hl, hl1]))
        fun cdv A outer s H vs Q E hr hg hsp => pss_imp (run_body (Q := Q) (H := H) (E := E) (gd cdv A outer s H E hr hg) tx ok (vs := vs) (by rw [hsp.1]; exact ok.np)) fun D' σ H' ⟨a, b, c, d'⟩ => ⟨a.2, b, c, d'⟩
      refine ⟨FnRG.imp key fun vs H Q E q => ?_, fun h _ => by cases h⟩
      have argsE : ∀ qs : List PV, argsP fd.np fd.star qs = if fd.np ≤ qs.length + 1 ∧ 0 < fd.np ∧ lineOk (qs.length + 1 - fd.np) = true then some (qs.take (fd.np - 1) ++ [.tup (qs.drop (fd.np - 1))]) else none := fun qs => by unfold argsP; rw [hs]
      unfold spJ at q
      cases hi : fd.init with
      | none =>
        have enp : fd.nP = fd.np := by unfold FD.nP; rw [hi]
        rw [hi] at q
        obtain ⟨μ, α, ps, rel, rp, post⟩ := q
        rw [e, runFn_eq, argsE] at post
        split at post
        · cases post
        · rename_i qs hqs
          split at hqs
          · rename_i hc
            cases hqs
            have hlp := rp.length
            refine ⟨vs.take (fd.np - 1), vs.drop (fd.np - 1), (List.take_append_drop _ _).symm, by rw [hl1, List.length_take, enp]; omega, by rw [List.length_drop]; have := of_decide_eq_true hc.2.2; omega, fun p hp => ?_⟩
            obtain ⟨l, r'⟩ := new_step rel (o := .tup (vs.drop (fd.np - 1))) hp
            refine ⟨by rw [List.length_append, List.length_take]; simp; omega, ?_⟩
            unfold spBody
            rw [hi]
            exact ⟨μ, α, _, r', ((rp.take _).le l).append (.cons (.tup upd_same ((rp.drop _).le l)) .nil), Post.from l post⟩
          · cases hqs
      | some p =>
        obtain ⟨c, gs, fe⟩ := p
        have enp : fd.nP = fd.np + 1 := by unfold FD.nP; rw [hi]
        rw [hi] at q
        obtain ⟨x, dx, ws, H0, Qv, rfl, h0, h1, hne, rfl, ⟨μ, α, ps, rel, rp, post⟩, hQ⟩ := q
        rw [e, runFn_eq, argsE] at post
        split at post
        · cases post
        · rename_i qs hqs
          split at hqs
          · rename_i hc
            cases hqs
            have hlp := rp.length
            obtain ⟨l1, _⟩ := new_step rel (o := .own x) h1
            obtain ⟨x1, r1⟩ := by1 rel (o := .own x) h1
            have h0' : upd H0 dx (.own x) x = none := by rw [upd_ne hne.symm]; exact h0
            obtain ⟨l2, _⟩ := new_step r1 (o := .ins (F.τ c) dx []) h0'
            obtain ⟨x2, r2⟩ := by1 r1 (o := .ins (F.τ c) dx []) h0'
            refine ⟨.ref x :: ws.take (fd.np - 1), ws.drop (fd.np - 1), by rw [List.cons_append, List.take_append_drop], by rw [List.length_cons, hl1, List.length_take, enp]; omega, by rw [List.length_drop]; have := of_decide_eq_true hc.2.2; omega, fun p hp => ?_⟩
            obtain ⟨l3, r3⟩ := new_step r2 (o := .tup (ws.drop (fd.np - 1))) hp
            refine ⟨by rw [List.length_append, List.length_cons, List.length_take]; simp; omega, ?_⟩
            unfold spBody
            rw [hi]
            have S0 : InSt F (F.τ c) x dx μ H0 ⟨μ.on, x :: dx :: μ.off⟩ α [] (upd (upd H0 dx (.own x)) x (.ins (F.τ c) dx [])) := ⟨rfl, (show Le F μ H0 ⟨μ.on, μ.off⟩ _ from le_unby (off := μ.off) (ν := ⟨μ.on, dx :: μ.off⟩) (ν' := ⟨μ.on, dx :: μ.off⟩) l1 l2), r2, hne, ⟨[], upd_same, .nil⟩, by rw [upd_ne hne]; exact upd_same, h0, h1⟩
            have rp2 := (rp.ext x1).ext x2
            exact ⟨x, dx, _, μ, H0, _, α, _, Qv, rfl, rel, S0.step l3 r3, ((rp2.take _).le l3).append (.cons (.tup upd_same ((rp2.drop _).le l3)) .nil), post, hQ⟩
          · cases hqs

/-! ### the end -/
theorem law_callG {P : Program} {w : World} {K : PySem.W.Frag} {mg mb : Str → Option Value} {k : Nat} {fa a : Addr} {fd : FuncData} {x : Str} {sp : Sp} {s₁ : Shared} {vs : List Value} {ns : List Int}
    (kin : K.In s₁.heap) (gns : s₁.heap.Ns mainGlobals mg) (bns : s₁.heap.Ns builtinsNs mb) (bbt : ∀ x : Str, x ≠ "__name__" → mb x = bootBuiltins x) (lim : s₁.heap.NoLimit) (gen : s₁.gens = #[])
    (ha : s₁.heap.get? a = some { cls := .type "list", data := .seq vs.toArray }) (hi : IntsAre vs ns) (hl : ns.length ≤ sizeLine) (room : Room k callerA)
    (Fn : ∀ base : Heap, K.In base → base.Ns mainGlobals mg → FnG P w K mg base k fa fd [x] sp) (bind1 : ∀ (s : Shared) (u : Value), BindsTo s fd ⟨[u], []⟩ [(x, u)])
    (hsp : ∀ H : Hp, Only H → SqL K H a (ns.map V.int) → sp [.ref a] H (fun v _ => v = .bl true) fun _ _ _ => False) :
    codeAny (model P w) callerA (.call (.ref fa) ⟨[.ref a], []⟩) (fun r s' => r = .ok (.ret (.bool true)) ∧ OldK s₁.heap s'.heap ∧ s'.os = s₁.os ∧ AllBare s'.gens) s₁ := by
  have nums : Vals (ns.map V.int) vs := vals_ints hi
  have core : ∀ G : Hp, Only G → SqL K G a (ns.map V.int) → HOk P w G s₁.heap → (∀ b, G b ≠ none → b = a) → (G a ≠ none → K.lookup a = none) →
      codeAny (model P w) callerA (.call (.ref fa) ⟨[.ref a], []⟩) (fun r s' => r = .ok (.ret (.bool true)) ∧ OldK s₁.heap s'.heap ∧ s'.os = s₁.os ∧ AllBare s'.gens) s₁ := by
    intro G only seqa hok onlyA notK
    -- what is there at the beginning, but for the script
    have vis : ∀ {b : Addr} {o : Obj}, s₁.heap.get? b = some o → (b = a → G b = none) → (hidT s₁.heap G).get? b = some o := by
      intro b o e n
      refine hidT_get e ?_
      cases q : G b with
      | none => rfl
      | some u =>
        have eb : b = a := onlyA b (by simp [q])
        rw [n eb] at q; cases q
    have dctG : ∀ {b : Addr} {o : Obj} {es : Array DictEntry} {ep : Nat}, s₁.heap.get? b = some o → o.data = .dict es ep → b = a → G b = none := by
      intro b o es ep e dd eb
      subst eb
      rw [ha] at e
      cases e
      cases (show Data.seq vs.toArray _ = Data.dict es ep from dd)
    have nsG : ∀ {b : Addr} {m : Str → Option Value}, s₁.heap.Ns b m → (hidT s₁.heap G).Ns b m := by
      rintro b m ⟨o, es, ep, e, dd, r⟩
      exact ⟨o, es, ep, vis e (dctG e dd), dd, r⟩
    have kinG : K.In (hidT s₁.heap G) := by
      intro b o e
      refine vis (kin b o e) fun eb => ?_
      cases q : G b with
      | none => rfl
      | some u =>
        subst eb
        rw [notK (by simp [q])] at e; cases e
    have limG : (hidT s₁.heap G).NoLimit := by
      obtain ⟨mc, q1, q2⟩ := lim
      exact ⟨mc, nsG q1, q2⟩
    have env0 : Env0 P w K mg (hidT s₁.heap G) callerA [] s₁ G := by
      refine ⟨rfl, ⟨kinG, nsG gns, ⟨mb, nsG bns, bbt⟩, limG⟩, ?_, Nat.le_of_eq (hidT_size _ _), trivial, ?_, hok, .of_eq gen⟩
      · exact fun b o e => of_hidT e
      · intro b hb; cases hb
    have go := (Fn _ kinG (nsG gns)).run callerA [] s₁ G ⟨[.ref a], []⟩ [.ref a] [.ref a] (fun v _ => v = .bl true) (fun _ _ _ => False) room rfl env0 (bind1 s₁ (.ref a)) (.cons rfl .nil) (hsp G only seqa)
    refine codeAny_mono go fun r s' h => ?_
    rcases r with e | fl
    · exact h.elim
    · cases fl with
      | ret u =>
        obtain ⟨v, G', os, bare, un, hok', rv, hv⟩ := h
        have hv : v = .bl true := hv
        subst hv
        have hu : u = Value.bool true := rv
        subst hu
        refine ⟨rfl, OldK.of_keep fun b o e => ?_, os, bare⟩
        cases q : G b with
        | none => exact un.keep b o e q (fun z => by cases z) (by simp)
        | some t =>
          rcases only b with z | ⟨ob, xs, z⟩
          · rw [q] at z; cases z
          · have z' := un.frzs b ob _ z
            have q1 := (hok b _ z).1
            have q2 := (hok' b _ z').1
            rw [e] at q1
            cases q1
            exact q2
      | _ => exact h.elim
  by_cases hk : K.lookup a = none
  · let T : Hp := fun b => if b = a then some (.frz { cls := .type "list", data := .seq vs.toArray } (.lst (ns.map V.int))) else none
    have ta : T a = some (.frz { cls := .type "list", data := .seq vs.toArray } (.lst (ns.map V.int))) := if_pos rfl
    have tn : ∀ {b}, b ≠ a → T b = none := fun n => if_neg n
    refine core T (fun b => ?_) (.inl (.inr ⟨_, ta⟩)) (fun b u e => ?_) (fun b n => ?_) fun _ => hk
    · by_cases eb : b = a
      · subst eb; exact .inr ⟨_, _, ta⟩
      · exact .inl (tn eb)
    · by_cases eb : b = a
      · subst eb
        rw [ta] at e
        cases e
        exact ⟨ha, by simpa using hl, vs, _, nums, ha⟩
      · rw [tn eb] at e; cases e
    · by_cases eb : b = a
      · exact eb
      · exact absurd (tn eb) n
  · obtain ⟨o, ho⟩ := Option.ne_none_iff_exists'.mp hk
    have e := kin a o ho
    rw [ha] at e
    cases e
    refine core (fun _ => none) (fun _ => .inl rfl) (.inr ⟨_, vs.toArray, _, ho, rfl, rfl, rfl, ?_, by simpa using nums⟩) (fun b u z => by cases z) (fun b z => absurd rfl z) fun z => absurd rfl z
    rw [List.size_toArray, hi.length]
    exact hl
/-- the script as a value -/
theorem law_sp {np : Nat} {m : List PV → AH → Res PV} {a : Addr} {ns : List Int} (hnp : np = 1) (hO : Only H) (hS : SqL F.K H a (ns.map V.int)) (h : ∃ α', m [.scr (ns.map PV.int)] [] = .ok (.bl true) α') :
    spD F np m [.ref a] H (fun v _ => v = .bl true) fun _ _ _ => False := by
  have rl : RepL F ⟨[], []⟩ H (ns.map PV.int) (ns.map V.int) := by
    clear hS h
    induction ns with
    | nil => exact .nil
    | cons n ns ih => exact .cons (.int n) ih
  have sq : SqF F.K H a (ns.map V.int) := by
    rcases hS with (q | q) | q
    · rcases hO a with z | ⟨o, xs, z⟩
      · rw [q] at z; cases z
      · rw [q] at z; cases z
    · exact .inl q
    · exact .inr q
  obtain ⟨α', e⟩ := h
  refine ⟨hnp.symm, ⟨[], []⟩, [], _, ⟨rfl, List.nodup_nil, fun i a o q => by simp at q, fun b q => by cases q⟩, .cons (.scr sq rl) .nil, ?_⟩
  rw [e]
  intro μ' H' v l r rv
  cases rv
  rfl
/-- the goal that k_head leaves, from the law's denotation -/
theorem walk_ofG {l : PySem.W.OpenLaw} {n k : Nat} {q : Program} {loose : List Str} {XP : (Str → Option Value) → Heap → Prop} {YP : World → Heap → Prop} {dr : DefRec} {K : Params → PySem.W.Frag} {m : List PV → AH → Res PV} {x : Str}
    (most : l.most = some n) (small : n ≤ sizeLine) (nodef : dr.params.defaults = []) (room : Room k callerA)
    (inK : ∀ (w : World) (h : Heap), YP w h → (K w.params).In h)
    (Fn : ∀ (w : World) (mg : Str → Option Value) (fa : Addr) (h : Heap), (K w.params).In h → h.Ns mainGlobals mg → mg dr.name = some (.ref fa) →
      ∃ fd : FuncData, (∀ (s : Shared) (u : Value), BindsTo s fd ⟨[u], []⟩ [(x, u)]) ∧ ∃ (τ fs : Nat → Addr),
        ∀ base : Heap, (K w.params).In base → base.Ns mainGlobals mg → FnG l.prog w (K w.params) mg base k fa fd [x] (spD ⟨l.prog, w, K w.params, τ, fs⟩ 1 m))
    (plain : ∀ ns : List Int, ns.length ≤ n → ∃ α', m [.scr (ns.map PV.int)] [] = .ok (.bl true) α') :
    PySem.W.WalkO q loose XP YP l.row.toRowW dr [] (fun f vs => PySem.call f vs) := by
  refine Att.attach_call most nodef fun w s₀ s₁ mg mb fa o pm cd doc a vs ns G Y ho hd hcd hmg hobj hints hlen hg => ?_
  obtain ⟨fd, hb, τ, fs, hF⟩ := Fn w mg fa _ (inK w _ Y) G.T.g hmg
  exact law_callG (inK w _ Y) G.T.g G.T.b G.T.builtins G.T.nolimit hg hobj hints (Nat.le_trans hlen small) room hF hb fun H hO hS => law_sp (F := ⟨l.prog, w, K w.params, τ, fs⟩) rfl hO hS (plain ns hlen)
end
end Mw
end
section
set_option Elab.async false
set_option linter.all false
set_option maxRecDepth 100000
set_option maxHeartbeats 4000000
/-! Mw20: what a denotation comes to, step by step. -/
namespace Mw
open PySem

/-- it comes to a value that is so -/
abbrev Tag {β : Type} (P : β → AH → Prop) : Type := Unit
/-- (u stands there so that simp leaves P alone until it is P's turn) -/
def Go {β : Type} (r : Res β) (P : β → AH → Prop) (u : Tag P := Unit.unit) : Prop := match r with
  | .ok b α => P b α
  | _ => False
theorem Go.ex {β : Type} {r : Res β} {P : β → AH → Prop} (h : Go r P) : ∃ b α, r = .ok b α ∧ P b α := by
  cases r with
  | ok b α => exact ⟨b, α, rfl, h⟩
  | err c xs a => exact h.elim
  | bad => exact h.elim
theorem Go.imp {β : Type} {r : Res β} {P P' : β → AH → Prop} (h : Go r P) (hi : ∀ b α, P b α → P' b α) : Go r P' := by
  cases r with
  | ok b α => exact hi _ _ h
  | err c xs a => exact h
  | bad => exact h
theorem go_of {β : Type} {r : Res β} {b : β} {α : AH} {P : β → AH → Prop} (e : r = .ok b α) (h : P b α) : Go r P := by rw [e]; exact h
theorem go_ext {β : Type} {r : Res β} {P P' : β → AH → Prop} (h : ∀ b α, P b α = P' b α) : Go r P = Go r P' := by
  have e : P = P' := funext fun b => funext fun α => h b α
  rw [e]
section
variable {β γ : Type} {P : β → AH → Prop} {α : AH} {ρ : Loc'} {F : Fn} {Q : PV → AH → Prop}
@[simp] theorem go_ok (b : β) : Go (.ok b α) P = P b α := rfl
@[simp] theorem go_bad : Go (.bad : Res β) P = False := rfl
@[simp] theorem go_bind (r : Res γ) (f : γ → AH → Res β) : Go (r.bind f) P = Go r (fun c α => Go (f c α) P) := by cases r <;> rfl
@[simp] theorem go_need (c : Bool) (r : Res β) : Go (need c r) P = (c = true ∧ Go r P) := by cases c <;> simp [need]
@[simp] theorem go_ofO_some (b : β) : Go (ofO (some b) α) P = P b α := rfl
@[simp] theorem go_truth (b : Bool) {P : Bool → AH → Prop} : Go (truth (.bl b) α) P = P b α := rfl
/-! expressions -/
@[simp] theorem go_var (i : Nat) : Go (dE F (.var i) ρ α) Q = (match ρ[i]? with
    | some (some p) => Q p α
    | _ => False) := by
  show Go (match ρ[i]? with
    | some (some p) => .ok p α
    | _ => .bad) Q = _
  split <;> rfl
@[simp] theorem go_non : Go (dE F .non ρ α) Q = Q .non α := rfl
@[simp] theorem go_bl (b : Bool) : Go (dE F (.bl b) ρ α) Q = Q (.bl b) α := rfl
@[simp] theorem go_int (b : Int) : Go (dE F (.int b) ρ α) Q = Q (.int b) α := rfl
@[simp] theorem go_str (b : Str) : Go (dE F (.str b) ρ α) Q = Q (.str b) α := rfl
@[simp] theorem go_tup (es : Es) : Go (dE F (.tup es) ρ α) Q = Go (dEs F es ρ α) (fun ps α => lineOk ps.length = true ∧ Q (.tup ps) α) := by
  show Go (Res.bind _ _) _ = _
  repeat (first | rfl | rw [go_bind] | rw [go_need, decide_eq_true_eq] | rw [go_need] | refine go_ext fun _ _ => ?_)
@[simp] theorem go_lst (es : Es) : Go (dE F (.lst es) ρ α) Q = Go (dEs F es ρ α) (fun ps α => lineOk ps.length = true ∧ Q (.fl ps) α) := by
  show Go (Res.bind _ _) _ = _
  repeat (first | rfl | rw [go_bind] | rw [go_need, decide_eq_true_eq] | rw [go_need] | refine go_ext fun _ _ => ?_)
@[simp] theorem go_dct (ps : Ps) : Go (dE F (.dct ps) ρ α) Q = Go (dPs F ps ρ α) (fun kvs α => (putsOk [] kvs && decide (kvs.length ≤ 15)) = true ∧ Q (.fd (dictOf kvs)) α) := by
  show Go (Res.bind _ _) _ = _
  repeat (first | rfl | rw [go_bind] | rw [go_need, decide_eq_true_eq] | rw [go_need] | refine go_ext fun _ _ => ?_)
@[simp] theorem go_bin (o : Bop) (a b : E) : Go (dE F (.bin o a b) ρ α) Q = Go (dE F a ρ α) (fun p α => Go (dE F b ρ α) fun q α => Go (bop o p q α) Q) := by
  show Go (Res.bind _ _) _ = _
  repeat (first | rfl | rw [go_bind] | rw [go_need, decide_eq_true_eq] | rw [go_need] | refine go_ext fun _ _ => ?_)
@[simp] theorem go_cmp (o : Cop) (a b : E) : Go (dE F (.cmp o a b) ρ α) Q = Go (dE F a ρ α) (fun p α => Go (dE F b ρ α) fun q α => Go (cop o p q α) Q) := by
  show Go (Res.bind _ _) _ = _
  repeat (first | rfl | rw [go_bind] | rw [go_need, decide_eq_true_eq] | rw [go_need] | refine go_ext fun _ _ => ?_)
@[simp] theorem go_neg (a : E) : Go (dE F (.neg a) ρ α) Q = Go (dE F a ρ α) (fun p α => match p with
    | .int i => Q (.int (-i)) α
    | _ => False) := by
  show Go (Res.bind _ _) _ = _
  rw [go_bind]
  exact go_ext fun p α => by cases p <;> rfl
@[simp] theorem go_not (a : E) : Go (dE F (.not a) ρ α) Q = Go (dE F a ρ α) (fun p α => Go (truth p α) fun t α => Q (.bl (!t)) α) := by
  show Go (Res.bind _ _) _ = _
  repeat (first | rfl | rw [go_bind] | rw [go_need, decide_eq_true_eq] | rw [go_need] | refine go_ext fun _ _ => ?_)
@[simp] theorem go_ix (a i : E) : Go (dE F (.ix a i) ρ α) Q = Go (dE F a ρ α) (fun p α => Go (dE F i ρ α) fun q α => Go (ixP p q α) Q) := by
  show Go (Res.bind _ _) _ = _
  repeat (first | rfl | rw [go_bind] | rw [go_need, decide_eq_true_eq] | rw [go_need] | refine go_ext fun _ _ => ?_)
@[simp] theorem go_sl (a : E) (lo hi : OE) : Go (dE F (.sl a lo hi) ρ α) Q = Go (dE F a ρ α) (fun p α => Go (dO F lo ρ α) fun l α => Go (dO F hi ρ α) fun h α => Go (slP p l h α) Q) := by
  show Go (Res.bind _ _) _ = _
  repeat (first | rfl | rw [go_bind] | rw [go_need, decide_eq_true_eq] | rw [go_need] | refine go_ext fun _ _ => ?_)
@[simp] theorem go_Onone {P : Option Int → AH → Prop} : Go (dO F .none ρ α) P = P none α := rfl
@[simp] theorem go_Osome (a : E) {P : Option Int → AH → Prop} : Go (dO F (.some a) ρ α) P = Go (dE F a ρ α) fun p α => Go (partO p α) P := by
  show Go (Res.bind _ _) _ = _
  repeat (first | rfl | rw [go_bind] | rw [go_need, decide_eq_true_eq] | rw [go_need] | refine go_ext fun _ _ => ?_)
@[simp] theorem go_rev (a : E) : Go (dE F (.rev a) ρ α) Q = Go (dE F a ρ α) (fun p α => Go (revP p α) Q) := by
  show Go (Res.bind _ _) _ = _
  repeat (first | rfl | rw [go_bind] | rw [go_need, decide_eq_true_eq] | rw [go_need] | refine go_ext fun _ _ => ?_)
@[simp] theorem go_b1 (f : B1) (a : E) : Go (dE F (.b1 f a) ρ α) Q = Go (dE F a ρ α) (fun p α => Go (b1 f p α) Q) := by
  show Go (Res.bind _ _) _ = _
  repeat (first | rfl | rw [go_bind] | rw [go_need, decide_eq_true_eq] | rw [go_need] | refine go_ext fun _ _ => ?_)
@[simp] theorem go_b2 (f : B2) (a b : E) : Go (dE F (.b2 f a b) ρ α) Q = Go (dE F a ρ α) (fun p α => Go (dE F b ρ α) fun q α => Go (b2 f p q α) Q) := by
  show Go (Res.bind _ _) _ = _
  repeat (first | rfl | rw [go_bind] | rw [go_need, decide_eq_true_eq] | rw [go_need] | refine go_ext fun _ _ => ?_)
@[simp] theorem go_mth (m : M) (o : E) (es : Es) : Go (dE F (.mth m o es) ρ α) Q = Go (dE F o ρ α) (fun p α => isTy m.ty p α = true ∧ Go (dEs F es ρ α) fun ps α => Go (mP m p ps α) Q) := by
  show Go (Res.bind _ _) _ = _
  repeat (first | rfl | rw [go_bind] | rw [go_need, decide_eq_true_eq] | rw [go_need] | refine go_ext fun _ _ => ?_)
@[simp] theorem go_call (f : Nat) (es : Es) : Go (dE F (.call f es) ρ α) Q = Go (dEs F es ρ α) (fun ps α => Go (F f ps α) Q) := by
  show Go (Res.bind _ _) _ = _
  repeat (first | rfl | rw [go_bind] | rw [go_need, decide_eq_true_eq] | rw [go_need] | refine go_ext fun _ _ => ?_)
@[simp] theorem go_callK (f n : Nat) (ks : List Str) (perm : List Nat) (es kes : Es) : Go (dE F (.callK f n ks perm es kes) ρ α) Q = Go (dEs F es ρ α) (fun ps α => Go (dEs F kes ρ α) fun qs α => (ps.length = n ∧ qs.length = ks.length) ∧ Go (F f (ps ++ permP perm qs) α) Q) := by
  show Go (Res.bind _ _) _ = _
  repeat (first | rfl | rw [go_bind] | rw [go_need, decide_eq_true_eq] | rw [go_need] | refine go_ext fun _ _ => ?_)
@[simp] theorem go_join (a : E) : Go (dE F (.join a) ρ α) Q = Go (dE F a ρ α) (fun p α => Go (joinP p α) Q) := by
  show Go (Res.bind _ _) _ = _
  repeat (first | rfl | rw [go_bind] | rw [go_need, decide_eq_true_eq] | rw [go_need] | refine go_ext fun _ _ => ?_)
@[simp] theorem go_Enil {P : List PV → AH → Prop} : Go (dEs F .nil ρ α) P = P [] α := rfl
@[simp] theorem go_Econs (a : E) (r : Es) {P : List PV → AH → Prop} : Go (dEs F (.cons a r) ρ α) P = Go (dE F a ρ α) fun p α => Go (dEs F r ρ α) fun ps α => P (p :: ps) α := by
  show Go (Res.bind _ _) _ = _
  repeat (first | rfl | rw [go_bind] | rw [go_need, decide_eq_true_eq] | rw [go_need] | refine go_ext fun _ _ => ?_)
@[simp] theorem go_Pnil {P : List (PV × PV) → AH → Prop} : Go (dPs F .nil ρ α) P = P [] α := rfl
@[simp] theorem go_Pcons (k v : E) (r : Ps) {P : List (PV × PV) → AH → Prop} : Go (dPs F (.cons k v r) ρ α) P = Go (dE F k ρ α) fun p α => Go (dE F v ρ α) fun q α => Go (dPs F r ρ α) fun ps α => P ((p, q) :: ps) α := by
  show Go (Res.bind _ _) _ = _
  repeat (first | rfl | rw [go_bind] | rw [go_need, decide_eq_true_eq] | rw [go_need] | refine go_ext fun _ _ => ?_)
@[simp] theorem go_comp (t : T) (own : List Nat) (it : It) (c : OE) (e : E) : Go (dE F (.comp t own it c e) ρ α) Q = Go (dI F it ρ α) (fun s α =>
    Go (turns s.still (compStep (dT F t) (dC F c) (dE F e) (wipeP ρ own)) s.items (s.lock α)) fun ys α => lineOk ys.length = true ∧ Go (s.done (.fl ys) α) Q) := by
  show Go (Res.bind _ _) _ = _
  repeat (first | rfl | rw [go_bind] | rw [go_need, decide_eq_true_eq] | rw [go_need] | refine go_ext fun _ _ => ?_)
@[simp] theorem go_Ival (e : E) {P : Src → AH → Prop} : Go (dI F (.val e) ρ α) P = Go (dE F e ρ α) fun p α => Go (srcOf p α) P := by
  show Go (Res.bind _ _) _ = _
  repeat (first | rfl | rw [go_bind] | rw [go_need, decide_eq_true_eq] | rw [go_need] | refine go_ext fun _ _ => ?_)
@[simp] theorem go_Ir1 (e : E) {P : Src → AH → Prop} : Go (dI F (.range1 e) ρ α) P = Go (dE F e ρ α) fun p α => Go (srcRange (.int 0) p α) P := by
  show Go (Res.bind _ _) _ = _
  repeat (first | rfl | rw [go_bind] | rw [go_need, decide_eq_true_eq] | rw [go_need] | refine go_ext fun _ _ => ?_)
@[simp] theorem go_Ir2 (a b : E) {P : Src → AH → Prop} : Go (dI F (.range2 a b) ρ α) P = Go (dE F a ρ α) fun p α => Go (dE F b ρ α) fun q α => Go (srcRange p q α) P := by
  show Go (Res.bind _ _) _ = _
  repeat (first | rfl | rw [go_bind] | rw [go_need, decide_eq_true_eq] | rw [go_need] | refine go_ext fun _ _ => ?_)
@[simp] theorem go_Ivals (e : E) {P : Src → AH → Prop} : Go (dI F (.values e) ρ α) P = Go (dE F e ρ α) fun p α => Go (srcDct (fun e => e.2) p α) P := by
  show Go (Res.bind _ _) _ = _
  repeat (first | rfl | rw [go_bind] | rw [go_need, decide_eq_true_eq] | rw [go_need] | refine go_ext fun _ _ => ?_)
@[simp] theorem go_Iitems (e : E) {P : Src → AH → Prop} : Go (dI F (.items e) ρ α) P = Go (dE F e ρ α) fun p α => Go (srcDct (fun e => .tup [e.1, e.2]) p α) P := by
  show Go (Res.bind _ _) _ = _
  repeat (first | rfl | rw [go_bind] | rw [go_need, decide_eq_true_eq] | rw [go_need] | refine go_ext fun _ _ => ?_)
@[simp] theorem go_Ikeys (e : E) {P : Src → AH → Prop} : Go (dI F (.keys e) ρ α) P = Go (dE F e ρ α) fun p α => Go (srcDct (fun e => e.1) p α) P := by
  show Go (Res.bind _ _) _ = _
  repeat (first | rfl | rw [go_bind] | rw [go_need, decide_eq_true_eq] | rw [go_need] | refine go_ext fun _ _ => ?_)
@[simp] theorem go_Ienum (e : E) {P : Src → AH → Prop} : Go (dI F (.enum e) ρ α) P = Go (dE F e ρ α) fun p α => Go (srcEnum p α) P := by
  show Go (Res.bind _ _) _ = _
  repeat (first | rfl | rw [go_bind] | rw [go_need, decide_eq_true_eq] | rw [go_need] | refine go_ext fun _ _ => ?_)
@[simp] theorem go_Izip (a b : E) {P : Src → AH → Prop} : Go (dI F (.zip a b) ρ α) P = Go (dE F a ρ α) fun p α => Go (dE F b ρ α) fun q α => Go (srcZip p q α) P := by
  show Go (Res.bind _ _) _ = _
  repeat (first | rfl | rw [go_bind] | rw [go_need, decide_eq_true_eq] | rw [go_need] | refine go_ext fun _ _ => ?_)
/-! classes, texts, sets -/
@[simp] theorem go_gcon (x : Str) (i : Int) : Go (dE F (.gcon x i) ρ α) Q = Q (.int i) α := rfl
@[simp] theorem go_gstr (x : Str) (s : Str) : Go (dE F (.gstr x s) ρ α) Q = Q (.str s) α := rfl
@[simp] theorem go_fld (c : Nat) (o : E) (f : Str) : Go (dE F (.fld c o f) ρ α) Q = Go (dE F o ρ α) fun p α => Go (fldP c p f α) Q := by
  show Go (Res.bind _ _) _ = _
  repeat (first | rfl | rw [go_bind] | rw [go_need, decide_eq_true_eq] | rw [go_need] | refine go_ext fun _ _ => ?_)
@[simp] theorem go_fldP (c : Nat) (fs : List (Str × PV)) (f : Str) : Go (fldP c (.obj c fs) f α) Q = Go (ofO (fs.lookup f) α) Q := by
  show Go (need _ _) _ = _
  rw [decide_eq_true rfl]; rfl
@[simp] theorem go_meth (c j : Nat) (m : Str) (o : E) (es : Es) : Go (dE F (.meth c j m o es) ρ α) Q = Go (dE F o ρ α) fun p α => (isObj c p && noFld m p) = true ∧ Go (dEs F es ρ α) fun ps α => Go (F j (p :: ps) α) Q := by
  show Go (Res.bind _ _) _ = _
  repeat (first | rfl | rw [go_bind] | rw [go_need, decide_eq_true_eq] | rw [go_need] | refine go_ext fun _ _ => ?_)
@[simp] theorem go_methK (c j : Nat) (m : Str) (o : E) (n : Nat) (ks : List Str) (perm : List Nat) (es kes : Es) : Go (dE F (.methK c j m o n ks perm es kes) ρ α) Q = Go (dE F o ρ α) fun p α => (isObj c p && noFld m p) = true ∧ Go (dEs F es ρ α) fun ps α => Go (dEs F kes ρ α) fun qs α => (ps.length = n ∧ qs.length = ks.length) ∧ Go (F j (p :: (ps ++ permP perm qs)) α) Q := by
  show Go (Res.bind _ _) _ = _
  rw [go_bind]
  refine go_ext fun p α => ?_
  rw [go_need, go_bind]
  refine congrArg _ (go_ext fun ps α => ?_)
  rw [go_bind]
  refine go_ext fun qs α => ?_
  rw [go_need, decide_eq_true_eq]
@[simp] theorem go_prop (c j : Nat) (f : Str) (o : E) : Go (dE F (.prop c j f o) ρ α) Q = Go (dE F o ρ α) fun p α => isObj c p = true ∧ Go (F j [p] α) Q := by
  show Go (Res.bind _ _) _ = _
  repeat (first | rfl | rw [go_bind] | rw [go_need, decide_eq_true_eq] | rw [go_need] | refine go_ext fun _ _ => ?_)
@[simp] theorem go_cmeth (c j : Nat) (m : Str) (es : Es) : Go (dE F (.cmeth c j m es) ρ α) Q = Go (dEs F es ρ α) fun ps α => Go (F j (.st c :: ps) α) Q := by
  show Go (Res.bind _ _) _ = _
  repeat (first | rfl | rw [go_bind] | rw [go_need, decide_eq_true_eq] | rw [go_need] | refine go_ext fun _ _ => ?_)
@[simp] theorem go_cmethK (c j : Nat) (m : Str) (n : Nat) (ks : List Str) (perm : List Nat) (es kes : Es) : Go (dE F (.cmethK c j m n ks perm es kes) ρ α) Q = Go (dEs F es ρ α) fun ps α => Go (dEs F kes ρ α) fun qs α => (ps.length = n ∧ qs.length = ks.length) ∧ Go (F j (.st c :: (ps ++ permP perm qs)) α) Q := by
  show Go (Res.bind _ _) _ = _
  repeat (first | rfl | rw [go_bind] | rw [go_need, decide_eq_true_eq] | rw [go_need] | refine go_ext fun _ _ => ?_)
@[simp] theorem go_mk (c j : Nat) (es : Es) : Go (dE F (.mk c j es) ρ α) Q = Go (dEs F es ρ α) fun ps α => Go (F j ps α) Q := by
  show Go (Res.bind _ _) _ = _
  repeat (first | rfl | rw [go_bind] | rw [go_need, decide_eq_true_eq] | rw [go_need] | refine go_ext fun _ _ => ?_)
@[simp] theorem go_mkS (c j : Nat) (a : E) : Go (dE F (.mkS c j a) ρ α) Q = Go (dE F a ρ α) fun p α => ∃ xs, starP p α = some xs ∧ Go (F j xs α) Q := by
  show Go (Res.bind _ _) _ = _
  rw [go_bind]
  refine go_ext fun p α => ?_
  cases starP p α <;> simp
theorem go_mkV {c j i : Nat} {a : E} (h : ρ[i]? = some (some (.st c))) : Go (dE F (.mkV c j i a) ρ α) Q = Go (dE F a ρ α) fun p α => ∃ xs, starP p α = some xs ∧ Go (F j xs α) Q := by
  show Go (match ρ[i]? with
    | some (some (.st d)) => need (decide (d = c)) ((dE F a ρ α).bind fun p α => match starP p α with
      | some xs => F j xs α
      | none => .bad)
    | _ => .bad) Q = _
  rw [h]
  show Go (need (decide (c = c)) _) _ = _
  rw [decide_eq_true rfl, need_true, go_bind]
  refine go_ext fun p α => ?_
  cases starP p α <;> simp
@[simp] theorem go_isT (a : E) (t : String) : Go (dE F (.isT a t) ρ α) Q = Go (dE F a ρ α) fun p α => Go (isTP p t α) Q := by
  show Go (Res.bind _ _) _ = _
  repeat (first | rfl | rw [go_bind] | rw [go_need, decide_eq_true_eq] | rw [go_need] | refine go_ext fun _ _ => ?_)
@[simp] theorem go_isC (a : E) (c : Nat) : Go (dE F (.isC a c) ρ α) Q = Go (dE F a ρ α) fun p α => Go (isCP p c α) Q := by
  show Go (Res.bind _ _) _ = _
  repeat (first | rfl | rw [go_bind] | rw [go_need, decide_eq_true_eq] | rw [go_need] | refine go_ext fun _ _ => ?_)
@[simp] theorem go_oeq (neg : Bool) (c j : Nat) (a b : E) : Go (dE F (.oeq neg c j a b) ρ α) Q = Go (dE F a ρ α) fun p α => Go (dE F b ρ α) fun q α => (isObj c p && isObj c q) = true ∧ Go (F j [p, q] α) fun r α => Go (truth r α) fun t α => Q (.bl (t != neg)) α := by
  show Go (Res.bind _ _) _ = _
  rw [go_bind]
  refine go_ext fun p α => ?_
  rw [go_bind]
  refine go_ext fun q α => ?_
  rw [go_need, go_bind]
  refine congrArg _ (go_ext fun r α => ?_)
  rw [go_bind]
  rfl
@[simp] theorem go_fmt (a : E) : Go (dE F (.fmt a) ρ α) Q = Go (dE F a ρ α) fun p α => Go (fmtP p α) Q := by
  show Go (Res.bind _ _) _ = _
  repeat (first | rfl | rw [go_bind] | rw [go_need, decide_eq_true_eq] | rw [go_need] | refine go_ext fun _ _ => ?_)
@[simp] theorem go_fstr (es : Es) : Go (dE F (.fstr es) ρ α) Q = Go (dEs F es ρ α) fun ps α => ∃ z, catP ps Str.empty = some z ∧ Q (.str z) α := by
  show Go (Res.bind _ _) _ = _
  rw [go_bind]
  refine go_ext fun p α => ?_
  cases catP p Str.empty <;> simp
@[simp] theorem go_chain (o o' : Cop) (a b c : E) : Go (dE F (.chain o o' a b c) ρ α) Q = Go (dE F a ρ α) fun p α => Go (dE F b ρ α) fun q α => Go (cop o p q α) fun z α => Go (truth z α) fun t α => Go (match t with
    | true => (dE F c ρ α).bind fun r α => cop o' q r α
    | false => .ok (.bl false) α) Q := by
  show Go (Res.bind _ _) _ = _
  repeat (first | rfl | rw [go_bind] | rw [go_need, decide_eq_true_eq] | rw [go_need] | refine go_ext fun _ _ => ?_)
@[simp] theorem go_and (a b : E) : Go (dE F (.and a b) ρ α) Q = Go (dE F a ρ α) fun p α => Go (truth p α) fun t α => Go (match t with
    | true => dE F b ρ α
    | false => .ok (.bl false) α) Q := by
  show Go (Res.bind _ _) _ = _
  repeat (first | rfl | rw [go_bind] | rw [go_need, decide_eq_true_eq] | rw [go_need] | refine go_ext fun _ _ => ?_)
@[simp] theorem go_or (a b : E) : Go (dE F (.or a b) ρ α) Q = Go (dE F a ρ α) fun p α => Go (truth p α) fun t α => Go (match t with
    | true => .ok (.bl true) α
    | false => dE F b ρ α) Q := by
  show Go (Res.bind _ _) _ = _
  repeat (first | rfl | rw [go_bind] | rw [go_need, decide_eq_true_eq] | rw [go_need] | refine go_ext fun _ _ => ?_)
@[simp] theorem go_Eife (c a b : E) : Go (dE F (.ife c a b) ρ α) Q = Go (dE F c ρ α) fun p α => Go (truth p α) fun t α => Go (match t with
    | true => dE F a ρ α
    | false => dE F b ρ α) Q := by
  show Go (Res.bind _ _) _ = _
  repeat (first | rfl | rw [go_bind] | rw [go_need, decide_eq_true_eq] | rw [go_need] | refine go_ext fun _ _ => ?_)
@[simp] theorem go_scomp (t : T) (own : List Nat) (it : It) (c : OE) (e : E) : Go (dE F (.scomp t own it c e) ρ α) Q = Go (dI F it ρ α) (fun s α =>
    Go (turns s.still (compStep (dT F t) (dC F c) (dE F e) (wipeP ρ own)) s.items (s.lock α)) fun ys α => setOk ys = true ∧ Go (s.done (.fs (setOf ys)) α) Q) := by
  show Go (Res.bind _ _) _ = _
  repeat (first | rfl | rw [go_bind] | rw [go_need, decide_eq_true_eq] | rw [go_need] | refine go_ext fun _ _ => ?_)
@[simp] theorem go_scomp2 (t : T) (own : List Nat) (it : It) (t2 : T) (own2 : List Nat) (it2 : It) (elt : E) : Go (dE F (.scomp2 t own it t2 own2 it2 elt) ρ α) Q = Go (dI F it ρ α) (fun s α =>
    Go (turns2 s.still (fun x α => (dT F t x (wipeP ρ own) α).bind fun ρ' α => (dI F it2 ρ' α).bind fun s2 α => need (decide (s2.src = none)) (turns s2.still (fun y α => (dT F t2 y (wipeP ρ' own2) α).bind fun ρ2 α => (dE F elt ρ2 α).bind fun z α => .ok (some z) α) s2.items α)) s.items (s.lock α)) fun ys α => setOk ys = true ∧ Go (s.done (.fs (setOf ys)) α) Q) := by
  show Go (Res.bind _ _) _ = _
  repeat (first | rfl | rw [go_bind] | rw [go_need, decide_eq_true_eq] | rw [go_need] | refine go_ext fun _ _ => ?_)
@[simp] theorem go_dcomp (t : T) (own : List Nat) (it : It) (c : OE) (k v : E) : Go (dE F (.dcomp t own it c k v) ρ α) Q = Go (dI F it ρ α) (fun s α =>
    Go (turnsD s.still (fun x α => (dT F t x (wipeP ρ own) α).bind fun ρ' α => (dC F c ρ' α).bind fun c α => match c with
        | true => (dE F k ρ' α).bind fun y α => (dE F v ρ' α).bind fun z α => .ok (some (y, z)) α
        | false => .ok none α) s.items (s.lock α)) fun ys α => putsOk [] ys = true ∧ Go (s.done (.fd (dictOf ys)) α) Q) := by
  show Go (Res.bind _ _) _ = _
  repeat (first | rfl | rw [go_bind] | rw [go_need, decide_eq_true_eq] | rw [go_need] | refine go_ext fun _ _ => ?_)
@[simp] theorem go_Cnone {P : Bool → AH → Prop} : Go (dC F .none ρ α) P = P true α := rfl
@[simp] theorem go_Csome (a : E) {P : Bool → AH → Prop} : Go (dC F (.some a) ρ α) P = Go (dE F a ρ α) fun p α => Go (truth p α) P := by
  show Go (Res.bind _ _) _ = _
  repeat (first | rfl | rw [go_bind] | rw [go_need, decide_eq_true_eq] | rw [go_need] | refine go_ext fun _ _ => ?_)
/-! ints -/
theorem go_addI (i j : Int) : Go (bop .add (.int i) (.int j) α) Q = Q (.int (i + j)) α := rfl
theorem go_subI (i j : Int) : Go (bop .sub (.int i) (.int j) α) Q = Q (.int (i - j)) α := rfl
theorem go_mulI (i j : Int) : Go (bop .mul (.int i) (.int j) α) Q = (((-(2 ^ 64) < i ∧ i < 2 ^ 64) ∨ (-(2 ^ 64) < j ∧ j < 2 ^ 64)) ∧ Q (.int (i * j)) α) := by
  show Go (need _ _) _ = _
  rw [go_need, decide_eq_true_eq]; rfl
theorem go_modI (i j : Int) : Go (bop .mod (.int i) (.int j) α) Q = (0 < j ∧ Q (.int (i % j)) α) := by
  show Go (need _ _) _ = _
  rw [go_need, decide_eq_true_eq]; rfl
theorem go_fdivI (i j : Int) : Go (bop .fdiv (.int i) (.int j) α) Q = ((0 < j ∧ j < 1073741824) ∧ Q (.int (i / j)) α) := by
  show Go (need _ _) _ = _
  rw [go_need, decide_eq_true_eq]; rfl
theorem go_powI (i j : Int) : Go (bop .pow (.int i) (.int j) α) Q = ((0 ≤ j ∧ j ≤ 1000000 ∧ i.natAbs < 2 ^ 64) ∧ Q (.int (i ^ j.toNat)) α) := by
  show Go (need _ _) _ = _
  rw [go_need, decide_eq_true_eq]; rfl
theorem go_geI (i j : Int) : Go (cop .ge (.int i) (.int j) α) Q = Q (.bl (decide (j ≤ i))) α := rfl
theorem go_ltI (i j : Int) : Go (cop .lt (.int i) (.int j) α) Q = Q (.bl (decide (i < j))) α := rfl
theorem go_gtI (i j : Int) : Go (cop .gt (.int i) (.int j) α) Q = Q (.bl (decide (j < i))) α := rfl
theorem go_leI (i j : Int) : Go (cop .le (.int i) (.int j) α) Q = Q (.bl (decide (i ≤ j))) α := rfl
/-! targets -/
@[simp] theorem go_Tvar (i : Nat) (x : PV) {P : Loc' → AH → Prop} : Go (dT F (.var i) x ρ α) P = P (ρ.set i (some x)) α := rfl
@[simp] theorem go_Ttup (ts : Ts) (xs : List PV) {P : Loc' → AH → Prop} : Go (dT F (.tup ts) (.tup xs) ρ α) P = Go (dTs F ts xs ρ α) P := rfl
@[simp] theorem go_Tsub (o i : E) (x : PV) {P : Loc' → AH → Prop} : Go (dT F (.sub o i) x ρ α) P = Go (dE F o ρ α) fun p α => Go (dE F i ρ α) fun q α => Go (setP p q x α) fun _ α => P ρ α := by
  show Go (Res.bind _ _) _ = _
  repeat (first | rfl | rw [go_bind] | rw [go_need, decide_eq_true_eq] | rw [go_need] | refine go_ext fun _ _ => ?_)
@[simp] theorem go_Tnil {P : Loc' → AH → Prop} : Go (dTs F .nil [] ρ α) P = P ρ α := rfl
@[simp] theorem go_Tcons (t : T) (ts : Ts) (x : PV) (xs : List PV) {P : Loc' → AH → Prop} : Go (dTs F (.cons t ts) (x :: xs) ρ α) P = Go (dT F t x ρ α) fun ρ α => Go (dTs F ts xs ρ α) P := by
  show Go (Res.bind _ _) _ = _
  repeat (first | rfl | rw [go_bind] | rw [go_need, decide_eq_true_eq] | rw [go_need] | refine go_ext fun _ _ => ?_)
/-! statements -/
variable {R : Fl → AH → Prop}
@[simp] theorem go_Snil : Go (dSs F .nil ρ α) R = R (.nx ρ) α := rfl
@[simp] theorem go_Scons (s : S) (ss : Ss) : Go (dSs F (.cons s ss) ρ α) R = Go (dS F s ρ α) (fun f α => match f with
    | .nx ρ => Go (dSs F ss ρ α) R
    | f => R f α) := by
  show Go (Res.bind _ _) _ = _
  rw [go_bind]
  exact go_ext fun f α => by cases f <;> rfl
@[simp] theorem go_Sexpr (e : E) : Go (dS F (.expr e) ρ α) R = Go (dE F e ρ α) fun _ α => R (.nx ρ) α := by
  show Go (Res.bind _ _) _ = _
  repeat (first | rfl | rw [go_bind] | rw [go_need, decide_eq_true_eq] | rw [go_need] | refine go_ext fun _ _ => ?_)
@[simp] theorem go_Sasg (t : T) (e : E) : Go (dS F (.asg t e) ρ α) R = Go (dE F e ρ α) fun p α => Go (dT F t p ρ α) fun ρ α => R (.nx ρ) α := by
  show Go (Res.bind _ _) _ = _
  repeat (first | rfl | rw [go_bind] | rw [go_need, decide_eq_true_eq] | rw [go_need] | refine go_ext fun _ _ => ?_)
@[simp] theorem go_Spar (is : List Nat) (es : Es) : Go (dS F (.par is es) ρ α) R = Go (dEs F es ρ α) fun ps α => ps.length = is.length ∧ R (.nx (setAll is ps ρ)) α := by
  show Go (Res.bind _ _) _ = _
  repeat (first | rfl | rw [go_bind] | rw [go_need, decide_eq_true_eq] | rw [go_need] | refine go_ext fun _ _ => ?_)
@[simp] theorem go_Sret (e : E) : Go (dS F (.ret e) ρ α) R = Go (dE F e ρ α) fun p α => R (.rt p) α := by
  show Go (Res.bind _ _) _ = _
  repeat (first | rfl | rw [go_bind] | rw [go_need, decide_eq_true_eq] | rw [go_need] | refine go_ext fun _ _ => ?_)
@[simp] theorem go_Sif (c : E) (a b : Ss) : Go (dS F (.ife c a b) ρ α) R = Go (dE F c ρ α) fun p α => Go (truth p α) fun t α => Go (match t with
    | true => dSs F a ρ α
    | false => dSs F b ρ α) R := by
  show Go (Res.bind _ _) _ = _
  repeat (first | rfl | rw [go_bind] | rw [go_need, decide_eq_true_eq] | rw [go_need] | refine go_ext fun _ _ => ?_)
@[simp] theorem go_Swhl (c : E) (b : Ss) : Go (dS F (.whl c b) ρ α) R = Go (whileM (fun ρ α => (dE F c ρ α).bind fun p α => truth p α) (fun ρ α => dSs F b ρ α) ρ α) R := rfl
@[simp] theorem go_Sloop (t : T) (it : It) (b : Ss) : Go (dS F (.loop t it b) ρ α) R = Go (dI F it ρ α) fun s α => Go (turnsF (gcL (s.lock α)) s.still (fun x ρ α => (dT F t x ρ α).bind fun ρ α => dSs F b ρ α) s.items ρ (s.lock α)) fun f α => Go (s.done f α) R := by
  show Go (Res.bind _ _) _ = _
  repeat (first | rfl | rw [go_bind] | rw [go_need, decide_eq_true_eq] | rw [go_need] | refine go_ext fun _ _ => ?_)
theorem call_eq {fs : List FD} {d j : Nat} {fd : FD} {ps : List PV} (h : fs[j]? = some fd) : callD fs (d + 1) j ps α = runFn (callD fs d) fd ps α := by
  show (match fs[j]? with
    | some f => runFn (callD fs d) f ps α
    | none => .bad) = _
  rw [h]
theorem go_run {fs : List FD} {d j : Nat} {fd : FD} {ps qs : List PV} (h : fs[j]? = some fd) (hi : fd.init = none) (ha : argsP fd.np fd.star ps = some qs) : Go (callD fs (d + 1) j ps α) Q = Go (dSs (callD fs d) fd.body (startP fd.N.length qs) α) (fun r α' => match r with
    | .rt p => Q (gcV α fd.fz p α').1 (gcV α fd.fz p α').2
    | .nx _ => Q (gcV α fd.fz .non α').1 (gcV α fd.fz .non α').2
    | _ => False) := by
  rw [call_eq h]
  unfold runFn
  rw [ha, hi]
  show Go (Res.bind _ _) _ = _
  rw [go_bind]
  exact go_ext fun r α => by cases r <;> rfl
theorem go_runI {fs : List FD} {d j c : Nat} {gs : List E} {fe : List (Str × E)} {fd : FD} {ps qs : List PV} (h : fs[j]? = some fd) (hi : fd.init = some (c, gs, fe)) (ha : argsP fd.np fd.star ps = some qs) : Go (callD fs (d + 1) j ps α) Q =
    Go (dG (callD fs d) gs (none :: startP (fd.N.length - 1) qs) α) (fun _ α1 => Go (dF (callD fs d) fe (none :: startP (fd.N.length - 1) qs) α1) fun xs α2 => Q (gcV α fd.fz (.obj c xs) α2).1 (gcV α fd.fz (.obj c xs) α2).2) := by
  rw [call_eq h]
  unfold runFn
  rw [ha, hi]
  show Go (Res.bind _ _) _ = _
  rw [go_bind]
  refine go_ext fun r α => ?_
  rw [go_bind]
  rfl
@[simp] theorem go_Fnil {P : List (Str × PV) → AH → Prop} : Go (dF F [] ρ α) P = P [] α := rfl
@[simp] theorem go_Fcons (f : Str) (e : E) (r : List (Str × E)) {P : List (Str × PV) → AH → Prop} : Go (dF F ((f, e) :: r) ρ α) P = Go (dE F e ρ α) fun p α => Go (dF F r ρ α) fun ps α => P ((f, p) :: ps) α := by
  show Go (Res.bind _ _) _ = _
  repeat (first | rfl | rw [go_bind] | rw [go_need, decide_eq_true_eq] | rw [go_need] | refine go_ext fun _ _ => ?_)
@[simp] theorem go_Gnil {P : Unit → AH → Prop} : Go (dG F [] ρ α) P = P () α := rfl
@[simp] theorem go_Gcons (g : E) (r : List E) {P : Unit → AH → Prop} : Go (dG F (g :: r) ρ α) P = Go (dE F g ρ α) fun p α => Go (truth p α) fun t α => t = false ∧ Go (dG F r ρ α) P := by
  show Go (Res.bind _ _) _ = _
  rw [go_bind]
  refine go_ext fun p α => ?_
  rw [go_bind]
  refine go_ext fun t α => ?_
  cases t <;> simp
/-! what is forgotten -/
theorem gcV_id {α0 α : AH} {fz : Bool} {p : PV} (h : α.length ≤ α0.length) : gcV α0 fz p α = (p, α) := if_pos h
theorem gcL_id {α0 α : AH} {ρ : Loc'} (h : α.length ≤ α0.length) : gcL α0 ρ α = (ρ, α) := if_pos h
theorem gcV_app {α0 g : AH} {fz : Bool} {p : PV} (h : closed α0.length (thawB fz α0.length (α0 ++ g) p) = true) (hp : thawB fz α0.length (α0 ++ g) p = p ∨ g ≠ []) : gcV α0 fz p (α0 ++ g) = (thawB fz α0.length (α0 ++ g) p, α0) := by
  unfold gcV
  by_cases hg : g = []
  · subst hg
    rw [if_pos (by simp)]
    rcases hp with hp | hp
    · rw [hp, List.append_nil]
    · exact absurd rfl hp
  · rw [if_neg (by
      have : 0 < g.length := List.length_pos_iff.mpr hg
      simp only [List.length_append]; omega), h, gcOk_refl]
    simp
theorem gcL_app {α0 g : AH} {ρ : Loc'} (h : g ≠ []) : gcL α0 ρ (α0 ++ g) = (ρ.map fun o => o.filter (closed α0.length), α0) := by
  unfold gcL
  rw [if_neg (by
      have : 0 < g.length := List.length_pos_iff.mpr h
      simp only [List.length_append]; omega), gcOk_refl]
  simp
/-! loops -/
theorem turnsF_inv {g : Gc} {still : AH → Bool} {step : PV → Loc' → AH → SRes} {I : List PV → Loc' → AH → Prop}
    (hs : ∀ x r ρ α, I (x :: r) ρ α → still α = true ∧ Go (step x ρ α) (fun f α' => match f with
      | .nx ρ' => I r (g ρ' α').1 (g ρ' α').2
      | .ct ρ' => I r (g ρ' α').1 (g ρ' α').2
      | .bk ρ' => R (.nx ρ') α'
      | .rt p => R (.rt p) α'))
    (he : ∀ ρ α, I [] ρ α → still α = true ∧ R (.nx ρ) α) : ∀ xs ρ α, I xs ρ α → Go (turnsF g still step xs ρ α) R := by
  intro xs
  induction xs with
  | nil =>
    intro ρ α h
    obtain ⟨h1, h2⟩ := he ρ α h
    show Go (need _ _) _
    rw [go_need]
    exact ⟨h1, h2⟩
  | cons x r ih =>
    intro ρ α h
    obtain ⟨h1, h2⟩ := hs x r ρ α h
    rw [turnsF_cons, go_need, go_bind]
    refine ⟨h1, h2.imp fun f α' h => ?_⟩
    cases f with
    | nx ρ' => exact ih _ _ h
    | ct ρ' => exact ih _ _ h
    | bk ρ' => exact h
    | rt p => exact h
theorem turns_inv {still : AH → Bool} {step : PV → AH → Res (Option PV)} {P : List PV → AH → Prop} {I : List PV → List PV → AH → Prop}
    (hs : ∀ x r ys α, I (x :: r) ys α → still α = true ∧ Go (step x α) (fun o α' => I r (ys ++ consO o []) α'))
    (he : ∀ ys α, I [] ys α → still α = true ∧ P ys α) : ∀ xs ys α, I xs ys α → Go (turns still step xs α) (fun zs α => P (ys ++ zs) α) := by
  intro xs
  induction xs with
  | nil =>
    intro ys α h
    obtain ⟨h1, h2⟩ := he ys α h
    show Go (need _ _) _
    rw [go_need, go_ok, List.append_nil]
    exact ⟨h1, h2⟩
  | cons x r ih =>
    intro ys α h
    obtain ⟨h1, h2⟩ := hs x r ys α h
    rw [turns_cons, go_need, go_bind]
    refine ⟨h1, h2.imp fun o α' h => ?_⟩
    rw [go_bind]
    refine (ih _ α' h).imp fun zs α2 q => ?_
    rw [go_ok]
    cases o with
    | none => simpa [consO] using q
    | some y => simpa [consO, List.append_assoc] using q
/-- a comprehension that changes nothing -/
theorem turns_pure {still : AH → Bool} {step : PV → AH → Res (Option PV)} {g : PV → Option PV} {α : AH} (hst : still α = true) : ∀ xs, (∀ x ∈ xs, step x α = .ok (g x) α) → turns still step xs α = .ok (xs.filterMap g) α
  | [], _ => by
    show need _ _ = _
    rw [hst]; rfl
  | x :: r, h => by
    rw [turns_cons, hst, h x List.mem_cons_self, need_true, Res.ok_bind, turns_pure hst r (fun y hy => h y (List.mem_cons_of_mem _ hy)), Res.ok_bind]
    cases hg : g x with
    | none => rw [List.filterMap_cons_none hg]; rfl
    | some y => rw [List.filterMap_cons_some hg]; rfl
theorem whl_inv {c : Loc' → AH → Res Bool} {b : Loc' → AH → SRes} {I : Nat → Loc' → AH → Prop}
    {α0 : AH} (h : ∀ n ρ α, I n ρ α → Go (c ρ α) fun t α1 => match t with
      | false => R (.nx ρ) α1
      | true => Go (b ρ α1) fun f α2 => match f with
        | .nx ρ1 => ∃ n', n' < n ∧ I n' (gcL α0 ρ1 α2).1 (gcL α0 ρ1 α2).2
        | .ct ρ1 => ∃ n', n' < n ∧ I n' (gcL α0 ρ1 α2).1 (gcL α0 ρ1 α2).2
        | .bk ρ1 => R (.nx ρ1) α2
        | .rt p => R (.rt p) α2) : ∀ n ρ, I n ρ α0 → Go (whileM c b ρ α0) R := by
  have fuel : ∀ n ρ α, I n ρ α → ∃ k f α', turnsW (gcL α0) c b k ρ α = .ok f α' ∧ R f α' := by
    intro n
    induction n using Nat.strongRecOn with
    | ind n ih =>
      intro ρ α hI
      obtain ⟨t, α1, e1, q⟩ := (h n ρ α hI).ex
      cases t with
      | false => exact ⟨1, .nx ρ, α1, by simp [turnsW, e1], q⟩
      | true =>
        obtain ⟨f, α2, e2, q⟩ := Go.ex q
        cases f with
        | nx ρ1 =>
          obtain ⟨n', hn, hI'⟩ := q
          obtain ⟨k, f, α', e3, hR⟩ := ih n' hn _ _ hI'
          exact ⟨k + 1, f, α', by simp [turnsW, e1, e2, e3], hR⟩
        | ct ρ1 =>
          obtain ⟨n', hn, hI'⟩ := q
          obtain ⟨k, f, α', e3, hR⟩ := ih n' hn _ _ hI'
          exact ⟨k + 1, f, α', by simp [turnsW, e1, e2, e3], hR⟩
        | bk ρ1 => exact ⟨1, .nx ρ1, α2, by simp [turnsW, e1, e2], q⟩
        | rt p => exact ⟨1, .rt p, α2, by simp [turnsW, e1, e2], q⟩
  -- any two numbers of turns that are enough tell the same
  have det : ∀ k ρ α f α', turnsW (gcL α0) c b k ρ α = .ok f α' → ∀ k' f' α'', turnsW (gcL α0) c b k' ρ α = .ok f' α'' → f = f' ∧ α' = α'' := by
    intro k
    induction k with
    | zero => intro ρ α f α' e; cases e
    | succ k ih =>
      intro ρ α f α' e k' f' α'' e'
      cases k' with
      | zero => cases e'
      | succ k' =>
        unfold turnsW at e e'
        cases hc : c ρ α with
        | err x y z => rw [hc] at e; cases e
        | bad => rw [hc] at e; cases e
        | ok t α1 =>
          rw [hc] at e e'
          simp only [Res.ok_bind] at e e'
          cases t with
          | false => cases e; cases e'; exact ⟨rfl, rfl⟩
          | true =>
            simp only at e e'
            cases hb : b ρ α1 with
            | err x y z => rw [hb] at e; cases e
            | bad => rw [hb] at e; cases e
            | ok g α2 =>
              rw [hb] at e e'
              simp only [Res.ok_bind] at e e'
              cases g with
              | nx ρ1 => exact ih _ _ f α' e k' f' α'' e'
              | ct ρ1 => exact ih _ _ f α' e k' f' α'' e'
              | bk ρ1 => cases e; cases e'; exact ⟨rfl, rfl⟩
              | rt p => cases e; cases e'; exact ⟨rfl, rfl⟩
  intro n ρ hI
  obtain ⟨k, f, α', e, hR⟩ := fuel n ρ α0 hI
  unfold whileM
  have hx : ∃ n f α', turnsW (gcL α0) c b n ρ α0 = .ok f α' := ⟨k, f, α', e⟩
  rw [dif_pos hx]
  obtain ⟨f', α'', e'⟩ := Classical.choose_spec hx
  rw [e']
  obtain ⟨rfl, rfl⟩ := det k ρ α0 f α' e _ f' α'' e'
  exact hR
end
end Mw
end
section
set_option Elab.async false
set_option linter.all false
set_option maxRecDepth 100000
set_option maxHeartbeats 4000000
/-! Mw21: small laws about the operations. -/
namespace Mw
open PySem
theorem eq_of_go {β : Type} {r : Res β} {b : β} {α : AH} (h : Go r (fun x a => x = b ∧ a = α)) : r = .ok b α := by
  obtain ⟨x, a, e, rfl, rfl⟩ := h.ex
  exact e
theorem go_eq {β : Type} {r : Res β} {b : β} {α : AH} {P : β → AH → Prop} (e : r = .ok b α) : Go r P = P b α := by rw [e]; rfl
theorem small {k : Nat} (h : k < 10000000) : k < sizeLine := by rw [PySem.sizeLine_eq]; omega
theorem l0 : lineOk 0 = true := by decide +kernel
theorem l1 : lineOk 1 = true := by decide +kernel
theorem l2 : lineOk 2 = true := by decide +kernel
theorem l3 : lineOk 3 = true := by decide +kernel
theorem l6 : lineOk 6 = true := by decide +kernel
theorem line_le {k : Nat} (h : k < 10000000) : lineOk k = true := decide_eq_true (Nat.le_of_lt (small h))
theorem dfind_map (k v k' : PV) : ∀ kvs : List (PV × PV), dfind (kvs.map fun e => if nkOf e.1 = nkOf k then (e.1, v) else e) k' = if nkOf k = nkOf k' then (if (dfind kvs k).isSome then some v else none) else dfind kvs k'
  | [] => by simp [dfind]
  | e :: r => by
    rw [List.map_cons, dfind_cons, dfind_map k v k' r, dfind_cons, dfind_cons]
    by_cases h1 : nkOf e.1 = nkOf k
    · simp only [h1, if_pos, Option.isSome_some]
      by_cases h2 : nkOf k = nkOf k'
      · simp [h2]
      · simp [h2]
    · rw [if_neg h1]
      by_cases h2 : nkOf k = nkOf k'
      · have h3 : ¬ nkOf e.1 = nkOf k' := fun z => h1 (z.trans h2.symm)
        simp [h2, h3]
      · simp [h2]
theorem dfind_app (kvs : List (PV × PV)) (k v k' : PV) : dfind (kvs ++ [(k, v)]) k' = match dfind kvs k' with
    | some x => some x
    | none => if nkOf k = nkOf k' then some v else none := by
  induction kvs with
  | nil => simp [dfind_cons]; rfl
  | cons e r ih =>
    rw [List.cons_append, dfind_cons, dfind_cons, ih]
    by_cases h : nkOf e.1 = nkOf k' <;> simp [h]
theorem dfind_cong (kvs : List (PV × PV)) {k k' : PV} (h : nkOf k = nkOf k') : dfind kvs k = dfind kvs k' := by
  unfold dfind; rw [h]
theorem dfind_dput (kvs : List (PV × PV)) (k v k' : PV) : dfind (dput kvs k v) k' = if nkOf k = nkOf k' then some v else dfind kvs k' := by
  unfold dput
  cases h : dfind kvs k with
  | some x =>
    simp only [Option.isSome_some, if_true]
    rw [dfind_map, h]
    rfl
  | none =>
    rw [if_neg (by simp), dfind_app]
    by_cases h2 : nkOf k = nkOf k'
    · rw [← dfind_cong kvs h2, h]
    · rw [if_neg h2]
      cases dfind kvs k' <;> simp [h2]
theorem dput_len (kvs : List (PV × PV)) (k v : PV) : (dput kvs k v).length ≤ kvs.length + 1 := by
  unfold dput
  split <;> simp
theorem dput_mode {kvs : List (PV × PV)} {k v : PV} (hk : kmode k = some true) (h : ∀ e ∈ kvs, kmode e.1 = some true) : ∀ e ∈ dput kvs k v, kmode e.1 = some true := by
  intro e he
  unfold dput at he
  split at he
  · obtain ⟨x, hx, rfl⟩ := List.mem_map.mp he
    split
    · exact h x hx
    · exact h x hx
  · rcases List.mem_append.mp he with he | he
    · exact h e he
    · simp at he; subst he; exact hk
theorem kok_of {kvs : List (PV × PV)} {k : PV} (hk : kmode k = some true) (h : ∀ e ∈ kvs, kmode e.1 = some true) : kok kvs k = true := by
  unfold kok
  rw [hk]
  cases kvs with
  | nil => rfl
  | cons e r => simp [h e List.mem_cons_self]
section
variable {cs : List Int} {t n : Int} {rest tl : AH} {A B C X : AO}
theorem setD {α : AH} {k : Nat} {kvs : List (PV × PV)} {i v : PV} (h : α[k]? = some (.dct kvs)) (hk : kok kvs i = true) (hl : kvs.length < sizeLine) : setP (.ref k) i v α = .ok () (α.set k (.dct (dput kvs i v))) := by
  have e : dctAt α (.ref k) = some (k, kvs) := by simp [dctAt, h]
  unfold setP
  rw [e]
  simp [hk, hl]
theorem ixD {α : AH} {k : Nat} {kvs : List (PV × PV)} {i v : PV} (h : α[k]? = some (.dct kvs)) (hk : kok kvs i = true) (hv : dfind kvs i = some v) : ixP (.ref k) i α = .ok v α := by
  have e : pairsD α (.ref k) = some kvs := by simp [pairsD, h]
  unfold ixP
  rw [e]
  simp [hk, hv]
theorem appL {α : AH} {k : Nat} {xs : List PV} {x : PV} (h : α[k]? = some (.lst xs)) (hl : xs.length < sizeLine) : isTy "list" (.ref k) α = true ∧ mP .append (.ref k) [x] α = .ok .non (α.set k (.lst (xs ++ [x]))) := by
  have e : lstAt α (.ref k) = some (k, xs) := by simp [lstAt, h]
  refine ⟨by simp [isTy, itemsL, h], ?_⟩
  unfold mP
  simp [e, hl]
theorem tupL {α : AH} {k : Nat} {xs : List PV} (h : α[k]? = some (.lst xs)) : b1 .tuple (.ref k) α = .ok (.tup xs) α := by
  simp [b1, itemsS, itemsL, h]
theorem ix_fl {xs : List PV} {i : Nat} {x : PV} {α : AH} (h : xs[i]? = some x) : ixP (.fl xs) (.int i) α = .ok x α := by
  have e : L2.atI xs ((i : Nat) : Int) = some x := L2.atI_nat h
  simp [ixP, pairsD, itemsS, itemsL, e]
/-- xs[i], a place that is there -/
theorem ix_at {xs : List PV} {r : Int} {α : AH} {p : PV} (h1 : 0 ≤ r) (h2 : r < xs.length) (hp : itemsS α p = some xs) (hd : pairsD α p = none) (hs : ∀ z, p ≠ .str z) : ∃ x, xs[r.toNat]? = some x ∧ ixP p (.int r) α = .ok x α := by
  obtain ⟨k, rfl⟩ := Int.eq_ofNat_of_zero_le h1
  have hk : k < xs.length := by omega
  refine ⟨xs[k], by simp [hk], ?_⟩
  have e : L2.atI xs ((k : Nat) : Int) = some xs[k] := L2.atI_nat (by simp [hk])
  unfold ixP
  rw [hd]
  dsimp only
  cases p <;> first | exact absurd rfl (hs _) | (simp only [hp, e, ofO_some])
end
theorem ix_tup {xs : List PV} {i : Nat} {x : PV} {α : AH} (h : xs[i]? = some x) : ixP (.tup xs) (.int i) α = .ok x α := by
  have e : L2.atI xs ((i : Nat) : Int) = some x := L2.atI_nat h
  simp [ixP, pairsD, itemsS, itemsL, e]
theorem setdefD {α : AH} {k : Nat} {kvs : List (PV × PV)} {q r : PV} (h : α[k]? = some (.dct kvs)) (hk : kok kvs q = true) (hm : kmode q = some true) (hl : kvs.length < sizeLine) :
    isTy "dict" (.ref k) α = true ∧ mP .setdefault (.ref k) [q, r] α = match dfind kvs q with
      | some v => .ok v α
      | none => .ok r (α.set k (.dct (kvs ++ [(q, r)]))) := by
  have e : dctAt α (.ref k) = some (k, kvs) := by simp [dctAt, h]
  refine ⟨by simp [isTy, pairsD, h], ?_⟩
  unfold mP
  simp only [e]
  rw [hk, hm, decide_eq_true rfl, decide_eq_true hl]
  rfl
@[simp] theorem go_doneN {β : Type} (xs : List PV) (b : β) (α : AH) {P : β → AH → Prop} : Go (Src.done ⟨xs, none⟩ b α) P = P b α := rfl
@[simp] theorem lockN (xs : List PV) (α : AH) : Src.lock ⟨xs, none⟩ α = α := rfl
/-- a comprehension's own law: nothing changes -/
theorem comp_map {β : Type} {still : AH → Bool} {step : PV → AH → Res (Option PV)} {f g : β → PV} {α : AH} {xs : List β} (hst : still α = true) (h : ∀ x ∈ xs, step (f x) α = .ok (some (g x)) α) : turns still step (xs.map f) α = .ok (xs.map g) α := by
  induction xs with
  | nil =>
    show need _ _ = _
    rw [hst]; rfl
  | cons x r ih =>
    rw [List.map_cons, turns_cons, hst, h x List.mem_cons_self, need_true, Res.ok_bind, ih fun y hy => h y (List.mem_cons_of_mem _ hy), Res.ok_bind]
    rfl
theorem enumP_map {β : Type} (f : β → PV) : ∀ (i : Nat) (xs : List β), enumP i (xs.map f) = (xs.zipIdx i).map fun e => .tup [.int e.2, f e.1]
  | _, [] => rfl
  | i, x :: xs => by
    rw [List.map_cons, List.zipIdx_cons, List.map_cons, ← enumP_map f (i + 1) xs]
    rfl
theorem zipP_map {β γ : Type} (f : β → PV) (g : γ → PV) : ∀ (xs : List β) (ys : List γ), zipP (xs.map f) (ys.map g) = (xs.zip ys).map fun e => .tup [f e.1, g e.2]
  | [], _ => by simp [zipP]
  | x :: xs, [] => by simp [zipP]
  | x :: xs, y :: ys => by simp [zipP, zipP_map f g xs ys]
theorem sl_tup {xs : List PV} {α : AH} {lo hi : Option Int} : slP (.tup xs) lo hi α = .ok (.tup (cutP xs lo hi)) α := rfl
theorem all_fl {bs : List Bool} {α : AH} : b1 .all (.fl (bs.map PV.bl)) α = .ok (.bl (bs.all id)) α := by
  have e : ∀ bs : List Bool, blsOf (bs.map PV.bl) = some bs := by
    intro bs
    induction bs with
    | nil => rfl
    | cons b r ih => simp [blsOf, ih]
  simp [b1, itemsS, itemsL, e]
theorem thaw_no {n : Nat} {α : AH} {p : PV} (h : ∀ k, p ≠ .ref k) : thaw n α p = p := by
  cases p <;> first | rfl | exact absurd rfl (h _)
/-- a def that hands back what is no object of the store, and has left nothing but new objects there -/
theorem gcV_new {α0 g : AH} {fz : Bool} {p : PV} (hp : ∀ k, p ≠ .ref k) (hc : closed α0.length p = true) : gcV α0 fz p (α0 ++ g) = (p, α0) := by
  have e : thawB fz α0.length (α0 ++ g) p = p := by
    cases fz
    · rfl
    · exact thaw_no hp
  rw [gcV_app (by rw [e]; exact hc) (.inl e), e]
/-- .. and the store is as it was -/
theorem gcV_same {α0 : AH} {fz : Bool} {p : PV} : gcV α0 fz p α0 = (p, α0) := gcV_id (Nat.le_refl _)
theorem gcL_same {α0 : AH} {ρ : Loc'} : gcL α0 ρ α0 = (ρ, α0) := gcL_id (Nat.le_refl _)
end Mw
end
section
set_option Elab.async false
set_option linter.all false
set_option maxRecDepth 100000
set_option maxHeartbeats 4000000
/-! Co1: the defs that every law over Kind begins with, and what the first of them come to. -/
namespace Core
open PySem Mw
def b_legal_events : Ss := (.cons (.ret (.b1 .tuple (.comp (.tup (.cons (.var 1) (.cons (.var 2) (.cons (.var 3) .nil)))) [1, 2, 3] (.val (.var 0)) .none (.tup (.cons (.var 1) (.cons (.var 2) .nil))))))
  .nil)
def f_legal_events : FD := ⟨"legal_events", "legal_events", ["state", "operation", "answer", "then"], 1, b_legal_events, false, true, none⟩
def b_numbered : Ss := (.cons (.asg (.var 1) (.join (.dct .nil)))
  (.cons (.loop (.tup (.cons (.var 2) (.cons (.var 3) .nil))) (.enum (.var 0)) (.cons (.expr (.mth .setdefault (.var 1) (.cons (.var 3) (.cons (.var 2) .nil))))
  .nil))
  (.cons (.ret (.b1 .tuple (.comp (.var 3) [3] (.val (.var 0)) .none (.ix (.var 1) (.var 3)))))
  .nil)))
def f_numbered : FD := ⟨"numbered", "numbered", ["values", "found", "index", "value"], 1, b_numbered, false, true, none⟩
def b_alike_classes : Ss := (.cons (.asg (.var 1) (.call 1 (.cons (.comp (.var 4) [4] (.val (.var 0)) .none (.call 0 (.cons (.var 4) .nil))) .nil)))
  (.cons (.whl (.bl true) (.cons (.asg (.var 2) (.join (.lst .nil)))
  (.cons (.loop (.tup (.cons (.var 4) (.cons (.var 5) .nil))) (.zip (.var 0) (.var 1)) (.cons (.expr (.mth .append (.var 2) (.cons (.tup (.cons (.var 5) (.cons (.b1 .tuple (.comp (.tup (.cons (.var 6) (.cons (.var 7) (.cons (.var 8) .nil)))) [6, 7, 8] (.val (.var 4)) .none (.ix (.var 1) (.var 8)))) .nil))) .nil)))
  .nil))
  (.cons (.asg (.var 3) (.call 1 (.cons (.var 2) .nil)))
  (.cons (.ife (.cmp .eq (.var 3) (.var 1)) (.cons (.ret (.var 1))
  .nil) .nil)
  (.cons (.asg (.var 1) (.var 3))
  .nil))))))
  .nil))
def f_alike_classes : FD := ⟨"alike_classes", "alike_classes", ["states", "classes", "views", "finer", "state", "own", "operation", "answer", "then"], 1, b_alike_classes, false, true, none⟩
def b_is_word : Ss := (.cons (.ife (.or (.not (.isT (.var 0) "str")) (.not (.chain .lt .le (.int 0) (.b1 .len (.var 0)) (.gcon "MOST_CHARACTERS" 12)))) (.cons (.ret (.bl false))
  .nil) .nil)
  (.cons (.ret (.b1 .all (.comp (.var 1) [1] (.val (.var 0)) .none (.cmp .isin (.var 1) (.gstr "CHARACTERS" "abcdefghijklmnopqrstuvwxyz0123456789")))))
  .nil))
def f_is_word : FD := ⟨"is_word", "is_word", ["thing", "character"], 1, b_is_word, false, true, none⟩
def b_is_integer : Ss := (.cons (.ret (.and (.isT (.var 0) "int") (.not (.isT (.var 0) "bool"))))
  .nil)
def f_is_integer : FD := ⟨"is_integer", "is_integer", ["thing"], 1, b_is_integer, false, true, none⟩
def b_is_state : Ss := (.cons (.ife (.not (.isT (.var 0) "tuple")) (.cons (.ret (.bl false))
  .nil) .nil)
  (.cons (.loop (.var 2) (.val (.var 0)) (.cons (.ife (.or (.not (.isT (.var 2) "tuple")) (.or (.cmp .ne (.b1 .len (.var 2)) (.int 3)) (.or (.not (.call 3 (.cons (.ix (.var 2) (.int 0)) .nil))) (.not (.call 3 (.cons (.ix (.var 2) (.int 1)) .nil)))))) (.cons (.ret (.bl false))
  .nil) .nil)
  (.cons (.ife (.or (.not (.call 4 (.cons (.ix (.var 2) (.int 2)) .nil))) (.not (.chain .le .lt (.int 0) (.ix (.var 2) (.int 2)) (.var 1)))) (.cons (.ret (.bl false))
  .nil) .nil)
  .nil)))
  (.cons (.asg (.var 3) (.call 0 (.cons (.var 0) .nil)))
  (.cons (.ret (.b1 .all (.comp (.tup (.cons (.var 4) (.cons (.var 5) .nil))) [4, 5] (.zip (.var 3) (.sl (.var 3) (.some (.int 1)) .none)) .none (.cmp .lt (.var 4) (.var 5)))))
  .nil))))
def f_is_state : FD := ⟨"is_state", "is_state", ["thing", "many", "part", "events", "one", "other"], 2, b_is_state, false, true, none⟩
def b_are_states : Ss := (.cons (.ife (.or (.not (.chain .lt .le (.int 0) (.b1 .len (.var 0)) (.gcon "MOST_STATES" 40))) (.not (.b1 .all (.comp (.var 1) [1] (.val (.var 0)) .none (.call 5 (.cons (.var 1) (.cons (.b1 .len (.var 0)) .nil))))))) (.cons (.ret (.bl false))
  .nil) .nil)
  (.cons (.ret (.cmp .le (.b1 .len (.scomp2 (.var 1) [1, 2] (.val (.var 0)) (.var 2) [2] (.val (.call 0 (.cons (.var 1) .nil))) (.var 2))) (.gcon "MOST_EVENTS" 24)))
  .nil))
def f_are_states : FD := ⟨"are_states", "are_states", ["states", "state", "event"], 1, b_are_states, false, true, none⟩
def g_Kind_init : List E := [(.not (.call 6 (.cons (.var 1) .nil)))]
def e_Kind_init : List (Str × E) := [("states", (.var 1)), ("moves", (.b1 .tuple (.comp (.var 2) [2] (.val (.var 1)) .none (.dcomp (.var 3) [3] (.val (.var 2)) .none (.tup (.cons (.ix (.var 3) (.int 0)) (.cons (.ix (.var 3) (.int 1)) .nil))) (.ix (.var 3) (.int 2)))))), ("firsts", (.call 2 (.cons (.var 1) .nil)))]
def f_Kind_init : FD := ⟨"__init__", "Kind.__init__", ["self", "states", "state", "part"], 1, .nil, true, true, some (0, g_Kind_init, e_Kind_init)⟩
def b_Kind_of : Ss := (.cons (.ife (.not (.isT (.var 1) "tuple")) (.cons .dead
  .nil) .nil)
  (.cons (.ret (.mkV 0 7 0 (.var 1)))
  .nil))
def f_Kind_of : FD := ⟨"of", "Kind.of", ["cls", "states"], 2, b_Kind_of, false, true, none⟩
def core : List FD := [f_legal_events, f_numbered, f_alike_classes, f_is_word, f_is_integer, f_is_state, f_are_states, f_Kind_init, f_Kind_of]

/-! ### values -/
abbrev Ev := Str × Str
abbrev Stp := Ev × Nat
abbrev St := List Stp
def pEv (e : Ev) : PV := .tup [.str e.1, .str e.2]
def pStp (s : Stp) : PV := .tup [.str s.1.1, .str s.1.2, .int s.2]
def pSt (st : St) : PV := .tup (st.map pStp)
def pSts (ss : List St) : PV := .tup (ss.map pSt)
def pNs (c : List Nat) : PV := .tup (c.map fun (n : Nat) => .int n)
variable {tl : List FD}
theorem legal_ok (d : Nat) (st : St) (hl : lineOk st.length = true) (α : AH) : callD (core ++ tl) (d + 1) 0 [pSt st] α = .ok (.tup (st.map fun s => pEv s.1)) α := by
  refine eq_of_go ?_
  rw [go_run (fd := f_legal_events) (qs := [pSt st]) rfl rfl rfl]
  show Go (dSs _ b_legal_events [some (pSt st), none, none, none] _) _
  unfold b_legal_events pSt
  simp only [go_Scons, go_Sret, go_b1, go_comp, go_Ival, go_var, List.getElem?_cons_zero, srcOf, go_ok]
  rw [go_eq (comp_map (g := fun s : Stp => pEv s.1) rfl fun s _ => ?h)]
  case h =>
    refine eq_of_go ?_
    unfold compStep pStp
    simp only [go_bind, go_Ttup, go_Tcons, go_Tvar, go_Tnil, go_Cnone, go_tup, go_Econs, go_Enil, go_var, wipeP, List.set_cons_succ, List.set_cons_zero, List.getElem?_cons_zero, List.getElem?_cons_succ, go_ok]
    exact ⟨l2, rfl, trivial⟩
  rw [List.length_map]
  refine ⟨hl, ?_⟩
  rw [lockN, go_doneN, go_eq (show b1 .tuple (.fl (st.map fun s => pEv s.1)) α = .ok (.tup (st.map fun s => pEv s.1)) α from rfl)]
  simp only [f_legal_events]
  rw [gcV_same]
  exact ⟨rfl, rfl⟩
end Core
end
section
set_option Elab.async false
set_option linter.all false
set_option maxRecDepth 100000
set_option maxHeartbeats 4000000
/-! Co2: numbered. -/
namespace Core
open PySem Mw
variable {tl : List FD}
/-- a list or a tuple of that line -/
def Lst (α : AH) (p : PV) (xs : List PV) : Prop := p = .fl xs ∨ p = .tup xs ∨ ∃ k, p = .ref k ∧ α[k]? = some (.lst xs)
theorem get_app {α g : AH} {k : Nat} {o : AO} (h : α[k]? = some o) : (α ++ g)[k]? = some o := by
  rw [List.getElem?_append_left (List.getElem?_eq_some_iff.mp h).1]; exact h
theorem Lst.src {α : AH} {p : PV} {xs : List PV} (h : Lst α p xs) : ∃ o, (∀ g, srcEnum p (α ++ g) = .ok ⟨enumP 0 xs, o⟩ (α ++ g)) ∧ (∀ g, srcOf p (α ++ g) = .ok ⟨xs, o⟩ (α ++ g)) ∧ (∀ ys g, Src.still ⟨ys, o⟩ (α ++ g) = true) ∧
    (∀ ys g, Src.lock ⟨ys, o⟩ g = g) ∧ (∀ {β : Type} ys (b : β) g, Src.done ⟨ys, o⟩ b g = .ok b g) := by
  rcases h with rfl | rfl | ⟨k, rfl, e⟩
  · exact ⟨none, fun _ => rfl, fun _ => rfl, fun _ _ => rfl, fun _ _ => rfl, fun _ _ _ => rfl⟩
  · exact ⟨none, fun _ => rfl, fun _ => rfl, fun _ _ => rfl, fun _ _ => rfl, fun _ _ _ => rfl⟩
  · refine ⟨some (k, .lst xs), fun g => ?_, fun g => ?_, fun ys g => ?_, fun _ _ => rfl, fun _ _ _ => rfl⟩
    · simp [srcEnum, get_app e]
    · simp [srcOf, get_app e]
    · simp [Src.still, get_app e]
theorem numbered_ok (d : Nat) {β : Type} [DecidableEq β] (enc : β → PV) (hk : ∀ b, kmode (enc b) = some true) (hi : ∀ a b, nkOf (enc a) = nkOf (enc b) ↔ a = b) (ks : List β) (hl : ks.length < 100000) (α : AH) (p : PV) (hp : Lst α p (ks.map enc)) :
    callD (core ++ tl) (d + 1) 1 [p] α = .ok (pNs (ks.map fun k => ks.idxOf k)) α := by
  obtain ⟨o, s1, s2, s3, s4, s5⟩ := hp.src
  refine eq_of_go ?_
  rw [go_run (fd := f_numbered) (qs := [p]) rfl rfl rfl]
  show Go (dSs _ b_numbered [some p, none, none, none] _) _
  unfold b_numbered
  obtain ⟨T1, hT1⟩ : ∃ T1 : Ss, T1 = (.cons (.ret (.b1 .tuple (.comp (.var 3) [3] (.val (.var 0)) .none (.ix (.var 1) (.var 3))))) .nil) := ⟨_, rfl⟩
  rw [← hT1]
  simp only [go_Scons, go_Sasg, go_join, go_dct, go_Pnil]
  refine ⟨rfl, ?_⟩
  show Go (joinP (.fd []) α) _
  rw [go_eq (show joinP (.fd []) α = .ok (.ref α.length) (α ++ [.dct []]) from rfl)]
  simp only [go_Tvar, List.set_cons_succ, List.set_cons_zero, go_Scons, go_Sloop, go_Ienum, go_var, List.getElem?_cons_zero]
  rw [go_eq (s1 _), s4, enumP_map]
  refine turnsF_inv (I := fun r ρ α' => ∃ (pre suf : List β) (x y : Option PV) (kvs : List (PV × PV)), ks = pre ++ suf ∧ r = (suf.zipIdx pre.length).map (fun e => PV.tup [.int e.2, enc e.1]) ∧ ρ = [some p, some (.ref α.length), x, y] ∧ α' = α ++ [.dct kvs] ∧
    (∀ e ∈ kvs, kmode e.1 = some true) ∧ kvs.length ≤ pre.length ∧ ∀ k, dfind kvs (enc k) = if k ∈ pre then some (.int (pre.idxOf k : Nat)) else none) ?_ ?_ _ _ _ ⟨[], ks, none, none, [], rfl, rfl, rfl, rfl, by simp, Nat.le_refl _, fun k => by simp [dfind]⟩
  · rintro v r ρ α' ⟨pre, suf, x, y, kvs, e1, e2, rfl, rfl, h1, h2, h3⟩
    cases suf with
    | nil => cases e2
    | cons i suf =>
      rw [List.zipIdx_cons, List.map_cons, List.cons.injEq] at e2
      obtain ⟨rfl, rfl⟩ := e2
      refine ⟨s3 _ _, ?_⟩
      have hget : (α ++ [AO.dct kvs])[α.length]? = some (.dct kvs) := by simp
      have hlen : kvs.length < sizeLine := by
        have := congrArg List.length e1
        rw [List.length_append] at this
        exact small (by omega)
      obtain ⟨q1, q2⟩ := setdefD (q := enc i) (r := .int (pre.length : Nat)) hget (kok_of (hk i) h1) (hk i) hlen
      simp only [go_bind, go_Ttup, go_Tcons, go_Tvar, go_Tnil, go_Scons, go_Sexpr, go_mth, go_Econs, go_Enil, go_var, go_Snil, List.set_cons_succ, List.set_cons_zero, List.getElem?_cons_zero, List.getElem?_cons_succ]
      refine ⟨q1, ?_⟩
      rw [q2, h3 i]
      by_cases hm : i ∈ pre
      · rw [if_pos hm]
        simp only [go_ok]
        rw [gcL_id (by simp)]
        refine ⟨pre ++ [i], suf, _, _, kvs, by rw [e1]; simp, by simp, rfl, rfl, h1, by simp; omega, fun k => ?_⟩
        rw [h3 k, List.idxOf_append]
        by_cases hk2 : k ∈ pre
        · simp [hk2]
        · have : k ≠ i := fun z => hk2 (z ▸ hm)
          simp [hk2, this]
      · rw [if_neg hm]
        simp only [go_ok]
        rw [gcL_id (by simp)]
        refine ⟨pre ++ [i], suf, _, _, kvs ++ [(enc i, .int (pre.length : Nat))], by rw [e1]; simp, by simp, rfl, by simp, ?_, by simp; omega, fun k => ?_⟩
        · intro e he
          rcases List.mem_append.mp he with he | he
          · exact h1 e he
          · simp at he; subst he; exact hk i
        · rw [dfind_app, h3 k, List.idxOf_append]
          by_cases hk2 : k ∈ pre
          · simp [hk2]
          · rw [if_neg hk2]
            by_cases e : i = k
            · subst e; simp [hk2]
            · have e' : ¬ k = i := fun z => e z.symm
              have : ¬ nkOf (enc i) = nkOf (enc k) := fun z => e ((hi i k).mp z)
              simp [this, hk2, e']
  · rintro ρ α' ⟨pre, suf, x, y, kvs, e1, e2, rfl, rfl, h1, h2, h3⟩
    have : suf = [] := by
      cases suf with
      | nil => rfl
      | cons i suf => rw [List.zipIdx_cons] at e2; cases e2
    subst this
    rw [List.append_nil] at e1
    subst e1
    refine ⟨s3 _ _, ?_⟩
    rw [s5, go_ok]
    subst hT1
    simp only [go_Scons, go_Sret, go_b1, go_comp, go_Ival, go_var, List.getElem?_cons_zero, List.getElem?_cons_succ]
    rw [go_eq (s2 _), s4]
    have hget : (α ++ [AO.dct kvs])[α.length]? = some (.dct kvs) := by simp
    rw [go_eq (comp_map (g := fun k : β => PV.int (ks.idxOf k : Nat)) (s3 _ _) fun k hkm => ?h)]
    case h =>
      refine eq_of_go ?_
      unfold compStep
      simp only [go_bind, go_Tvar, go_Cnone, go_ix, go_var, wipeP, List.set_cons_succ, List.set_cons_zero, List.getElem?_cons_zero, List.getElem?_cons_succ]
      rw [ixD hget (kok_of (hk k) h1) (by rw [h3 k, if_pos hkm])]
      exact ⟨rfl, rfl⟩
    rw [List.length_map]
    refine ⟨line_le (by omega), ?_⟩
    rw [s5, go_ok, go_eq (show b1 .tuple (.fl (ks.map fun k => PV.int (ks.idxOf k : Nat))) (α ++ [.dct kvs]) = .ok (.tup (ks.map fun k => PV.int (ks.idxOf k : Nat))) (α ++ [.dct kvs]) from rfl)]
    simp only [f_numbered]
    rw [gcV_new (fun _ => by simp) (by simp only [closed]; exact closedL_map (fun _ => rfl) _)]
    exact ⟨by simp [pNs, Function.comp_def], rfl⟩
end Core
end
section
set_option Elab.async false
set_option linter.all false
set_option maxRecDepth 100000
set_option maxHeartbeats 4000000
/-! Co3: words, ints, states. -/
namespace Core
open PySem Mw
variable {tl : List FD}
def chars : Str := "abcdefghijklmnopqrstuvwxyz0123456789"
structure Word (w : Str) : Prop where
  pos : 0 < w.length
  le : w.length ≤ 12
  all : ∀ c ∈ w.cps.toList, c ∈ chars.cps.toList
theorem char_in : ∀ c ∈ chars.cps.toList, (Builtin.Str.occurrences chars ⟨#[c]⟩ 0 chars.length 1).isEmpty = false := by decide +kernel
theorem isT_str (w : Str) (α : AH) : isTP (.str w) "str" α = .ok (.bl true) α := by rfl
theorem isT_tup (w : List PV) (α : AH) : isTP (.tup w) "tuple" α = .ok (.bl true) α := by rfl
theorem isT_int (w : Int) (α : AH) : isTP (.int w) "int" α = .ok (.bl true) α := by rfl
theorem isT_intb (w : Int) (α : AH) : isTP (.int w) "bool" α = .ok (.bl false) α := by rfl
theorem word_ok (d : Nat) {w : Str} (h : Word w) (α : AH) : callD (core ++ tl) (d + 1) 3 [.str w] α = .ok (.bl true) α := by
  have hp := h.pos
  have hle := h.le
  have hln : b1 .len (.str w) α = .ok (.int w.length) α := by
    show need _ _ = _
    rw [line_le (by omega)]; rfl
  refine eq_of_go ?_
  rw [go_run (fd := f_is_word) (qs := [.str w]) rfl rfl rfl]
  show Go (dSs _ b_is_word [some (.str w), none] _) _
  unfold b_is_word
  simp only [go_Scons, go_Sif, go_or, go_not, go_isT, go_var, List.getElem?_cons_zero, go_chain, go_int, go_b1, go_gcon]
  rw [go_eq (isT_str w α), go_truth, go_truth]
  simp only [go_not, go_chain, go_int, go_b1, go_var, List.getElem?_cons_zero, Bool.not_true]
  rw [go_eq hln]
  show Go (cop .lt (.int 0) (.int w.length) α) _
  rw [go_ltI, decide_eq_true (by omega : (0 : Int) < w.length), go_truth]
  simp only [go_bind, go_gcon]
  rw [go_leI, decide_eq_true (by omega : (w.length : Int) ≤ 12), go_truth]
  simp only [Bool.not_true, go_truth, go_Snil, go_Scons, go_Sret, go_b1, go_comp, go_Ival, go_var, List.getElem?_cons_zero, srcOf, go_ok]
  rw [go_eq (comp_map (g := fun _ : Nat => PV.bl true) rfl fun c hc => ?h)]
  case h =>
    refine eq_of_go ?_
    unfold compStep
    simp only [go_bind, go_Tvar, go_Cnone, go_cmp, go_var, go_gstr, wipeP, List.set_cons_succ, List.set_cons_zero, List.getElem?_cons_zero, List.getElem?_cons_succ]
    show Go (cop .isin (.str ⟨#[c]⟩) (.str chars) α) _
    rw [go_eq (show cop .isin (.str ⟨#[c]⟩) (.str chars) α = .ok (.bl true) α from ?hh)]
    · exact ⟨rfl, rfl⟩
    case hh =>
      show Res.ok (PV.bl (!(Builtin.Str.occurrences chars ⟨#[c]⟩ 0 chars.length 1).isEmpty)) α = _
      rw [char_in c (h.all c hc)]; rfl
  rw [List.length_map]
  refine ⟨line_le (by have : w.length = w.cps.toList.length := rfl; omega), ?_⟩
  rw [lockN, go_doneN, show (w.cps.toList.map fun _ => PV.bl true) = (w.cps.toList.map fun _ => true).map PV.bl by simp, go_eq all_fl]
  simp only [f_is_word]
  rw [gcV_same]
  exact ⟨by simp, rfl⟩
theorem integer_ok (d : Nat) (n : Int) (α : AH) : callD (core ++ tl) (d + 1) 4 [.int n] α = .ok (.bl true) α := by
  refine eq_of_go ?_
  rw [go_run (fd := f_is_integer) (qs := [.int n]) rfl rfl rfl]
  show Go (dSs _ b_is_integer [some (.int n)] _) _
  unfold b_is_integer
  simp only [go_Scons, go_Sret, go_and, go_isT, go_var, List.getElem?_cons_zero]
  rw [go_eq (isT_int n α), go_truth]
  simp only [go_not, go_isT, go_var, List.getElem?_cons_zero]
  rw [go_eq (isT_intb n α), go_truth]
  simp only [f_is_integer]
  rw [gcV_same]
  exact ⟨rfl, rfl⟩
end Core
end
section
set_option Elab.async false
set_option linter.all false
set_option maxRecDepth 100000
set_option maxHeartbeats 4000000
/-! Co4: states. -/
namespace Core
open PySem Mw
variable {tl : List FD}
def ltE (a b : Ev) : Bool := PySem.W.dataLt (enc (pEv a)) (enc (pEv b))
structure GoodSt (many : Nat) (st : St) : Prop where
  words : ∀ s ∈ st, Word s.1.1 ∧ Word s.1.2
  to : ∀ s ∈ st, s.2 < many
  asc : (st.map (·.1)).Pairwise fun a b => ltE a b = true
  len : st.length ≤ 24
theorem cut1 (xs : List PV) : cutP xs (some 1) none = xs.drop 1 := by
  cases xs with
  | nil => rfl
  | cons x r =>
    unfold cutP
    have e : HT.sIx (x :: r).length 0 (some 1) = 1 := by simp [HT.sIx]
    have e2 : HT.sIx (x :: r).length (x :: r).length none = (x :: r).length := by simp [HT.sIx]
    rw [e, e2]
    simp
theorem ltE_cop (a b : Ev) (α : AH) : cop .lt (pEv a) (pEv b) α = .ok (.bl (ltE a b)) α := by
  have h : ordOk (enc (pEv a)) (enc (pEv b)) = true := by rfl
  show need (ordOk (enc (pEv a)) (enc (pEv b))) _ = _
  rw [h]; rfl
theorem zip_asc : ∀ {L : List Ev}, (L.Pairwise fun a b => ltE a b = true) → ∀ e ∈ L.zip (L.drop 1), ltE e.1 e.2 = true
  | [], _ => by simp
  | a :: r, h => by
    intro e he
    cases r with
    | nil => simp at he
    | cons b r =>
      rw [List.pairwise_cons] at h
      simp only [List.drop_succ_cons, List.drop_zero, List.zip_cons_cons, List.mem_cons] at he
      rcases he with rfl | he
      · exact h.1 b List.mem_cons_self
      · exact zip_asc h.2 e (by simpa using he)
theorem state_ok (d : Nat) {many : Nat} {st : St} (h : GoodSt many st) (α : AH) : callD (core ++ tl) (d + 2) 5 [pSt st, .int many] α = .ok (.bl true) α := by
  refine eq_of_go ?_
  rw [go_run (fd := f_is_state) (qs := [pSt st, .int many]) rfl rfl rfl]
  show Go (dSs _ b_is_state [some (pSt st), some (.int many), none, none, none, none] _) _
  unfold b_is_state
  obtain ⟨T1, hT1⟩ : ∃ T1 : Ss, T1 = (.cons (.asg (.var 3) (.call 0 (.cons (.var 0) .nil)))
  (.cons (.ret (.b1 .all (.comp (.tup (.cons (.var 4) (.cons (.var 5) .nil))) [4, 5] (.zip (.var 3) (.sl (.var 3) (.some (.int 1)) .none)) .none (.cmp .lt (.var 4) (.var 5)))))
  .nil)) := ⟨_, rfl⟩
  rw [← hT1]
  simp only [go_Scons, go_Sif, go_not, go_isT, go_var, List.getElem?_cons_zero]
  rw [go_eq (show isTP (pSt st) "tuple" α = .ok (.bl true) α from rfl), go_truth, go_truth]
  simp only [Bool.not_true, go_Snil, go_Scons, go_Sloop, go_Ival, go_var, List.getElem?_cons_zero]
  rw [go_eq (show srcOf (pSt st) α = .ok ⟨st.map pStp, none⟩ α from rfl), lockN]
  refine turnsF_inv (I := fun r ρ α' => ∃ (suf : St) (x : Option PV), (∀ s ∈ suf, s ∈ st) ∧ r = suf.map pStp ∧ ρ = [some (pSt st), some (.int many), x, none, none, none] ∧ α' = α) ?_ ?_ _ _ _ ⟨st, none, fun _ h => h, rfl, rfl, rfl⟩
  · rintro v r ρ α' ⟨suf, x, e1, e2, rfl, rfl⟩
    cases suf with
    | nil => cases e2
    | cons s suf =>
      rw [List.map_cons, List.cons.injEq] at e2
      obtain ⟨rfl, rfl⟩ := e2
      refine ⟨rfl, ?_⟩
      have hs := e1 s List.mem_cons_self
      obtain ⟨w1, w2⟩ := h.words s hs
      have ht := h.to s hs
      have i0 : ixP (pStp s) (.int 0) α' = .ok (.str s.1.1) α' := ix_tup (i := 0) rfl
      have i1 : ixP (pStp s) (.int 1) α' = .ok (.str s.1.2) α' := ix_tup (i := 1) rfl
      have i2 : ixP (pStp s) (.int 2) α' = .ok (.int s.2) α' := ix_tup (i := 2) rfl
      simp only [go_bind, go_Tvar, go_Scons, go_Sif, go_or, go_not, go_isT, go_var, List.set_cons_succ, List.set_cons_zero, List.getElem?_cons_zero, List.getElem?_cons_succ]
      rw [go_eq (show isTP (pStp s) "tuple" α' = .ok (.bl true) α' from rfl), go_truth, go_truth]
      simp only [Bool.not_true, go_or, go_cmp, go_b1, go_int, go_var, List.getElem?_cons_zero, List.getElem?_cons_succ]
      rw [go_eq (show b1 .len (pStp s) α' = .ok (.int 3) α' from rfl), go_eq (show cop .ne (.int 3) (.int 3) α' = .ok (.bl false) α' from rfl), go_truth]
      simp only [go_or, go_not, go_call, go_Econs, go_Enil, go_ix, go_int, go_var, List.getElem?_cons_zero, List.getElem?_cons_succ]
      rw [go_eq i0, go_eq (word_ok d w1 α'), go_truth, go_truth]
      simp only [Bool.not_true, go_not, go_call, go_Econs, go_Enil, go_ix, go_int, go_var, List.getElem?_cons_zero, List.getElem?_cons_succ]
      rw [go_eq i1, go_eq (word_ok d w2 α'), go_truth, go_truth]
      simp only [Bool.not_true, go_Snil, go_Scons, go_Sif, go_or, go_not, go_call, go_Econs, go_Enil, go_ix, go_int, go_var, List.getElem?_cons_zero, List.getElem?_cons_succ]
      rw [go_eq i2, go_eq (integer_ok d _ α'), go_truth, go_truth]
      simp only [Bool.not_true, go_not, go_chain, go_ix, go_int, go_var, List.getElem?_cons_zero, List.getElem?_cons_succ]
      rw [go_eq i2, go_leI, decide_eq_true (by omega : (0 : Int) ≤ s.2), go_truth]
      simp only [go_bind, go_var, List.getElem?_cons_zero, List.getElem?_cons_succ]
      rw [go_ltI, decide_eq_true (by omega : (s.2 : Int) < many), go_truth]
      simp only [Bool.not_true, go_truth, go_Snil]
      rw [gcL_same]
      exact ⟨suf, _, fun y hy => e1 y (List.mem_cons_of_mem _ hy), rfl, rfl, rfl⟩
  · rintro ρ α' ⟨suf, x, e1, e2, rfl, rfl⟩
    refine ⟨rfl, ?_⟩
    rw [go_doneN]
    subst hT1
    have hl := h.len
    simp only [go_Scons, go_Sasg, go_call, go_Econs, go_Enil, go_var, List.getElem?_cons_zero, List.getElem?_cons_succ]
    rw [go_eq (legal_ok d st (line_le (by omega)) α')]
    simp only [go_Tvar, List.set_cons_succ, List.set_cons_zero, go_Sret, go_Scons, go_b1, go_comp, go_Izip, go_sl, go_Osome, go_Onone, go_int, go_var, List.getElem?_cons_zero, List.getElem?_cons_succ]
    rw [go_eq (show partO (.int 1) α' = .ok (some 1) α' from rfl), go_eq sl_tup, cut1]
    have ez : zipP (st.map fun s => pEv s.1) ((st.map fun s => pEv s.1).drop 1) = ((st.map (·.1)).zip ((st.map (·.1)).drop 1)).map fun e => PV.tup [pEv e.1, pEv e.2] := by
      rw [← zipP_map, List.map_drop, List.map_map]
      rfl
    show Go (Res.ok (⟨zipP (st.map fun s => pEv s.1) ((st.map fun s => pEv s.1).drop 1), none⟩ : Src) α') _
    rw [ez, go_ok]
    rw [go_eq (comp_map (g := fun _ : Ev × Ev => PV.bl true) rfl fun e he => ?hh)]
    case hh =>
      refine eq_of_go ?_
      unfold compStep
      simp only [go_bind, go_Ttup, go_Tcons, go_Tnil, go_Tvar, go_Cnone, go_cmp, go_var, wipeP, List.set_cons_succ, List.set_cons_zero, List.getElem?_cons_zero, List.getElem?_cons_succ]
      rw [lockN, ltE_cop, zip_asc h.asc e he]
      exact ⟨rfl, rfl⟩
    rw [List.length_map]
    refine ⟨line_le (by rw [List.length_zip, List.length_map]; omega), ?_⟩
    rw [lockN, go_doneN, show (((st.map (·.1)).zip ((st.map (·.1)).drop 1)).map fun _ => PV.bl true) = (((st.map (·.1)).zip ((st.map (·.1)).drop 1)).map fun _ => true).map PV.bl by simp, go_eq all_fl]
    simp only [f_is_state]
    rw [gcV_same]
    exact ⟨by simp, rfl⟩
end Core
end
section
set_option Elab.async false
set_option linter.all false
set_option maxRecDepth 100000
set_option maxHeartbeats 4000000
/-! Co5: all states; sets of events. -/
namespace Core
open PySem Mw
variable {tl : List FD}
theorem pEv_mode (e : Ev) : kmode (pEv e) = some true := by rfl
theorem pEv_key (a b : Ev) : nkOf (pEv a) = nkOf (pEv b) ↔ a = b := by
  have e : ∀ a : Ev, nkOf (pEv a) = some (.tup [.text a.1, .text a.2]) := fun _ => rfl
  rw [e, e]
  simp [Prod.ext_iff]
section
variable {β : Type} [DecidableEq β]
/-- each one once, as first met -/
def add1 (acc : List β) (x : β) : List β := if x ∈ acc then acc else acc ++ [x]
def dd (L : List β) : List β := L.foldl add1 []
theorem add1_nodup {acc : List β} {x : β} (h : acc.Nodup) : (add1 acc x).Nodup := by
  unfold add1
  split
  · exact h
  · rename_i hx
    rw [List.nodup_append]
    exact ⟨h, by simp, fun a ha b hb => by simp at hb; subst hb; exact fun z => hx (z ▸ ha)⟩
theorem add1_mem {acc : List β} {x y : β} : y ∈ add1 acc x ↔ y ∈ acc ∨ y = x := by
  unfold add1
  split
  · rename_i hx
    exact ⟨.inl, fun h => h.elim id fun z => z ▸ hx⟩
  · simp
theorem dd_aux : ∀ (L acc : List β), acc.Nodup → (L.foldl add1 acc).Nodup ∧ ∀ y, y ∈ L.foldl add1 acc ↔ y ∈ acc ∨ y ∈ L
  | [], acc, h => ⟨h, fun y => by simp⟩
  | x :: L, acc, h => by
    obtain ⟨h1, h2⟩ := dd_aux L (add1 acc x) (add1_nodup h)
    refine ⟨h1, fun y => ?_⟩
    rw [List.foldl_cons, h2, add1_mem, List.mem_cons, or_assoc]
theorem dd_nodup (L : List β) : (dd L).Nodup := (dd_aux L [] List.nodup_nil).1
theorem dd_mem (L : List β) (y : β) : y ∈ dd L ↔ y ∈ L := by
  have := (dd_aux L [] List.nodup_nil).2 y
  simp only [List.not_mem_nil, false_or] at this
  exact this
theorem nodup_le : ∀ (l M : List β), l.Nodup → (∀ x ∈ l, x ∈ M) → l.length ≤ M.length
  | [], _, _, _ => Nat.zero_le _
  | x :: l, M, h, hs => by
    rw [List.nodup_cons] at h
    have hx := hs x List.mem_cons_self
    have := nodup_le l (M.erase x) h.2 fun y hy => (List.mem_erase_of_ne (fun z : y = x => h.1 (by rw [← z]; exact hy))).mpr (hs y (List.mem_cons_of_mem _ hy))
    rw [List.length_erase_of_mem hx] at this
    have hp : 0 < M.length := List.length_pos_of_mem hx
    rw [List.length_cons]
    omega
end
theorem memK_ev (acc : List Ev) (x : Ev) : memK (acc.map pEv) (pEv x) = decide (x ∈ acc) := by
  rw [Bool.eq_iff_iff, decide_eq_true_eq]
  unfold memK sameK
  simp only [List.any_map, List.any_eq_true, Function.comp, decide_eq_true_eq, pEv_key]
  exact ⟨fun ⟨y, h1, h2⟩ => h2 ▸ h1, fun h => ⟨x, h, rfl⟩⟩
theorem setOf_aux : ∀ (L acc : List Ev), (L.map pEv).foldl addK (acc.map pEv) = (L.foldl add1 acc).map pEv
  | [], _ => rfl
  | x :: L, acc => by
    rw [List.map_cons, List.foldl_cons, List.foldl_cons, ← setOf_aux L (add1 acc x)]
    congr 1
    unfold addK add1
    rw [memK_ev]
    by_cases h : x ∈ acc <;> simp [h]
theorem setOf_ev (L : List Ev) : setOf (L.map pEv) = (dd L).map pEv := setOf_aux L []
theorem setOk_ev {L : List Ev} (h : (dd L).length < 64) : setOk (L.map pEv) = true := by
  unfold setOk
  rw [setOf_ev, List.length_map, decide_eq_true h, Bool.and_true, List.all_map, List.all_eq_true]
  intro x _
  simp [pEv_mode]
theorem turns2_map {β : Type} {still : AH → Bool} {step : PV → AH → Res (List PV)} {f : β → PV} {g : β → List PV} {α : AH} {xs : List β} (hst : still α = true) (h : ∀ x ∈ xs, step (f x) α = .ok (g x) α) : turns2 still step (xs.map f) α = .ok (xs.flatMap g) α := by
  induction xs with
  | nil =>
    show need _ _ = _
    rw [hst]; rfl
  | cons x r ih =>
    rw [List.map_cons, turns2_cons, hst, h x List.mem_cons_self, need_true, Res.ok_bind, ih fun y hy => h y (List.mem_cons_of_mem _ hy), Res.ok_bind, List.flatMap_cons]
/-- the events of some states, one after the other -/
def evs (ss : List St) : List Ev := ss.flatMap fun st => st.map (·.1)
structure GoodSts (ss : List St) : Prop where
  pos : 0 < ss.length
  le : ss.length ≤ 40
  st : ∀ st ∈ ss, GoodSt ss.length st
  ev : (dd (evs ss)).length ≤ 24
theorem states_ok (d : Nat) {ss : List St} (h : GoodSts ss) (α : AH) : callD (core ++ tl) (d + 3) 6 [pSts ss] α = .ok (.bl true) α := by
  have hp := h.pos
  have hle := h.le
  have hln : b1 .len (pSts ss) α = .ok (.int ss.length) α := by
    show Res.ok (PV.int ((ss.map pSt).length : Nat)) α = _
    rw [List.length_map]
  refine eq_of_go ?_
  rw [go_run (fd := f_are_states) (qs := [pSts ss]) rfl rfl rfl]
  show Go (dSs _ b_are_states [some (pSts ss), none, none] _) _
  unfold b_are_states
  simp only [go_Scons, go_Sif, go_or, go_not, go_var, List.getElem?_cons_zero, go_chain, go_int, go_b1, go_gcon]
  rw [go_eq hln, go_ltI, decide_eq_true (by omega : (0 : Int) < ss.length), go_truth]
  simp only [go_bind, go_gcon]
  rw [go_leI, decide_eq_true (by omega : (ss.length : Int) ≤ 40), go_truth, go_truth]
  simp only [Bool.not_true, go_not, go_b1, go_comp, go_Ival, go_var, List.getElem?_cons_zero]
  rw [go_eq (show srcOf (pSts ss) α = .ok ⟨ss.map pSt, none⟩ α from rfl), lockN]
  rw [go_eq (comp_map (g := fun _ : St => PV.bl true) rfl fun st hst => ?h)]
  case h =>
    refine eq_of_go ?_
    unfold compStep
    simp only [go_bind, go_Tvar, go_Cnone, go_call, go_Econs, go_Enil, go_b1, go_var, wipeP, List.set_cons_succ, List.set_cons_zero, List.getElem?_cons_zero, List.getElem?_cons_succ]
    rw [go_eq hln, go_eq (state_ok d (h.st st hst) α)]
    exact ⟨rfl, rfl⟩
  rw [List.length_map]
  refine ⟨line_le (by omega), ?_⟩
  rw [go_doneN, show (ss.map fun _ => PV.bl true) = (ss.map fun _ => true).map PV.bl by simp, go_eq all_fl, show (ss.map fun _ => true).all id = true by simp, go_truth, go_truth]
  simp only [Bool.not_true, go_Snil, go_Sret, go_Scons, go_cmp, go_b1, go_scomp2, go_Ival, go_var, List.getElem?_cons_zero]
  rw [go_eq (show srcOf (pSts ss) α = .ok ⟨ss.map pSt, none⟩ α from rfl), lockN]
  rw [go_eq (turns2_map (g := fun st : St => st.map fun s => pEv s.1) rfl fun st hst => ?h2)]
  case h2 =>
    refine eq_of_go ?_
    have hl := (h.st st hst).len
    simp only [go_bind, go_Tvar, go_Ival, go_call, go_Econs, go_Enil, go_var, wipeP, List.set_cons_succ, List.set_cons_zero, List.getElem?_cons_zero, List.getElem?_cons_succ]
    rw [go_eq (legal_ok (d + 1) st (line_le (by omega)) α)]
    rw [go_eq (show srcOf (.tup (st.map fun s => pEv s.1)) α = .ok ⟨st.map fun s => pEv s.1, none⟩ α from rfl), go_need, decide_eq_true rfl]
    refine ⟨rfl, ?_⟩
    rw [go_eq (comp_map (g := fun s : Stp => pEv s.1) rfl fun s hs => ?h3)]
    · exact ⟨rfl, rfl⟩
    case h3 =>
      refine eq_of_go ?_
      simp only [go_bind, go_Tvar, go_var, wipeP, List.set_cons_succ, List.set_cons_zero, List.getElem?_cons_zero, List.getElem?_cons_succ, go_ok]
      exact ⟨trivial, trivial⟩
  have ee : (ss.flatMap fun st : St => st.map fun s => pEv s.1) = (evs ss).map pEv := by
    unfold evs
    rw [List.map_flatMap]
    simp [Function.comp_def]
  rw [ee]
  have hev := h.ev
  refine ⟨setOk_ev (by omega), ?_⟩
  rw [go_doneN, setOf_ev, go_eq (show b1 .len (.fs ((dd (evs ss)).map pEv)) α = .ok (.int (dd (evs ss)).length) α by
    show Res.ok (PV.int (((dd (evs ss)).map pEv).length : Nat)) α = _
    rw [List.length_map])]
  simp only [go_gcon]
  rw [go_leI, decide_eq_true (by omega : ((dd (evs ss)).length : Int) ≤ 24)]
  simp only [f_are_states]
  rw [gcV_same]
  exact ⟨rfl, rfl⟩
end Core
end
section
set_option Elab.async false
set_option linter.all false
set_option maxRecDepth 100000
set_option maxHeartbeats 4000000
/-! Co6: classes of states, in plain terms. -/
namespace Core
open PySem Mw
section
variable {β : Type} [DecidableEq β]
theorem idxOf_le : ∀ (ks : List β) (j : Nat) (x : β), ks[j]? = some x → ks.idxOf x ≤ j
  | [], _, _, h => by simp at h
  | k :: ks, 0, x, h => by simp at h; subst h; simp
  | k :: ks, j + 1, x, h => by
    have := idxOf_le ks j x (by simpa using h)
    rw [List.idxOf_cons]
    cases k == x <;> simp; omega
theorem idxOf_get : ∀ (ks : List β) (x : β), x ∈ ks → ks[ks.idxOf x]? = some x
  | k :: ks, x, h => by
    rw [List.idxOf_cons]
    by_cases e : k = x
    · subst e; simp
    · have : x ∈ ks := by
        rcases List.mem_cons.mp h with h | h
        · exact absurd h.symm e
        · exact h
      have hb : (k == x) = false := by simpa using e
      rw [hb]
      simpa using idxOf_get ks x this
/-- each one's first place -/
def nums (ks : List β) : List Nat := ks.map fun k => ks.idxOf k
theorem nums_len (ks : List β) : (nums ks).length = ks.length := List.length_map ..
theorem nums_get {ks : List β} {j : Nat} {x : β} (h : ks[j]? = some x) : (nums ks)[j]? = some (ks.idxOf x) := by
  unfold nums
  rw [List.getElem?_map, h]; rfl
end
def Canon (c : List Nat) : Prop := ∀ j x : Nat, c[j]? = some x → x ≤ j
theorem nums_canon {β : Type} [DecidableEq β] (ks : List β) : Canon (nums ks) := by
  intro j x h
  have hj : j < ks.length := by
    have := (List.getElem?_eq_some_iff.mp h).1
    rwa [nums_len] at this
  have e : ks[j]? = some ks[j] := by simp [hj]
  rw [nums_get e] at h
  cases h
  exact idxOf_le ks j _ e
def cls0 (ss : List St) : List Nat := nums (ss.map fun st => st.map (·.1))
def view (c : List Nat) (e : St × Nat) : Nat × List Nat := (e.2, e.1.map fun s => c.getD s.2 0)
def next (ss : List St) (c : List Nat) : List Nat := nums ((ss.zip c).map (view c))
theorem cls0_len (ss : List St) : (cls0 ss).length = ss.length := by rw [cls0, nums_len, List.length_map]
theorem next_len {ss : List St} {c : List Nat} (h : c.length = ss.length) : (next ss c).length = ss.length := by rw [next, nums_len, List.length_map, List.length_zip, h, Nat.min_self]
theorem next_ge {ss : List St} {c : List Nat} (h : c.length = ss.length) (hc : Canon c) (j x y : Nat) (hx : c[j]? = some x) (hy : (next ss c)[j]? = some y) : x ≤ y := by
  have hj : j < c.length := (List.getElem?_eq_some_iff.mp hx).1
  have hj2 : j < ss.length := by omega
  have e1 : ss[j]? = some ss[j] := by simp [hj2]
  have e2 : ((ss.zip c).map (view c))[j]? = some (view c (ss[j], x)) := by
    rw [List.getElem?_map, (List.getElem?_zip_eq_some (z := (ss[j], x))).mpr ⟨e1, hx⟩]; rfl
  unfold next at hy
  rw [nums_get e2] at hy
  cases hy
  have hm : view c (ss[j], x) ∈ (ss.zip c).map (view c) := List.mem_of_getElem? e2
  have g := idxOf_get _ _ hm
  rw [List.getElem?_map, Option.map_eq_some_iff] at g
  obtain ⟨e, g1, g2⟩ := g
  have g3 := (List.getElem?_zip_eq_some.mp g1).2
  have : e.2 = x := congrArg Prod.fst g2
  rw [this] at g3
  exact hc _ x g3
theorem sum_lt : ∀ (a b : List Nat), a.length = b.length → (∀ j x y : Nat, a[j]? = some x → b[j]? = some y → x ≤ y) → a ≠ b → a.sum < b.sum
  | [], [], _, _, h => absurd rfl h
  | [], _ :: _, h, _, _ => by simp at h
  | _ :: _, [], h, _, _ => by simp at h
  | x :: a, y :: b, hl, h, hn => by
    have h0 : x ≤ y := h 0 x y rfl rfl
    have hr : ∀ j x y : Nat, a[j]? = some x → b[j]? = some y → x ≤ y := fun j u v h1 h2 => h (j + 1) u v (by simpa using h1) (by simpa using h2)
    rw [List.sum_cons, List.sum_cons]
    by_cases e : a = b
    · subst e
      have : x ≠ y := fun z => hn (by rw [z])
      omega
    · have := sum_lt a b (by simpa using hl) hr e
      omega
theorem sum_le : ∀ (a : List Nat) (n : Nat), (∀ x ∈ a, x ≤ n) → a.sum ≤ a.length * n
  | [], _, _ => by simp
  | x :: a, n, h => by
    have h1 := h x List.mem_cons_self
    have h2 := sum_le a n fun y hy => h y (List.mem_cons_of_mem _ hy)
    rw [List.sum_cons, List.length_cons, Nat.succ_mul]
    omega
theorem canon_sum {c : List Nat} (h : Canon c) : c.sum ≤ c.length * c.length := sum_le c c.length fun x hx => by
  obtain ⟨j, hj⟩ := List.getElem?_of_mem hx
  have h1 := h j x hj
  have h2 := (List.getElem?_eq_some_iff.mp hj).1
  omega
/-- c is what the numbering of the states ends at -/
structure Classes (ss : List St) (c : List Nat) : Prop where
  it : ∃ i, c = Nat.rec (cls0 ss) (fun _ c => next ss c) i
  fix : next ss c = c
end Core
end
section
set_option Elab.async false
set_option linter.all false
set_option maxRecDepth 100000
set_option maxHeartbeats 4000000
/-! Co7: keys of numbered; the class rounds. -/
namespace Core
open PySem Mw
variable {tl : List FD}
def pEs (L : List Ev) : PV := .tup (L.map pEv)
theorem nks_map {β : Type} (f : β → PV) (g : β → NestedKey) (h : ∀ b, nkOf (f b) = some (g b)) : ∀ L : List β, nksOf (L.map f) = some (L.map g)
  | [] => rfl
  | b :: L => by
    rw [List.map_cons, nksOf, h, Option.bind_some, nks_map f g h L]
    rfl
theorem depth_map {β : Type} (g : β → NestedKey) (n : Nat) (h : ∀ b, (g b).depth ≤ n) : ∀ L : List β, NestedKey.depthAll (L.map g) ≤ n
  | [] => by simp [NestedKey.depthAll]
  | b :: L => by
    rw [List.map_cons, NestedKey.depthAll]
    exact Nat.max_le.mpr ⟨h b, depth_map g n h L⟩
theorem kmode_of {xs : List PV} {q : NestedKey} (h : nkOf (.tup xs) = some q) (hd : q.depth ≤ 8) : kmode (.tup xs) = some true := by
  show (match nkOf (.tup xs) with
    | some q => if q.depth ≤ 8 then some true else none
    | none => none) = _
  rw [h]
  exact if_pos hd
def kEv (e : Ev) : NestedKey := .tup [.text e.1, .text e.2]
theorem nk_es (L : List Ev) : nkOf (pEs L) = some (.tup (L.map kEv)) := by
  unfold pEs
  rw [nkOf, nks_map pEv kEv (fun _ => rfl)]
  rfl
theorem es_mode (L : List Ev) : kmode (pEs L) = some true := by
  refine kmode_of (nk_es L) ?_
  have := depth_map kEv 2 (fun b => by simp [kEv, NestedKey.depth, NestedKey.depthAll]) L
  simp only [NestedKey.depth]
  omega
theorem es_key (a b : List Ev) : nkOf (pEs a) = nkOf (pEs b) ↔ a = b := by
  rw [nk_es, nk_es]
  refine ⟨fun h => ?_, fun h => by rw [h]⟩
  simp only [Option.some.injEq, NestedKey.tup.injEq] at h
  exact (List.map_inj_right fun x y e => by simp [kEv] at e; exact Prod.ext e.1 e.2).mp h
def pV (v : Nat × List Nat) : PV := .tup [.int v.1, pNs v.2]
def kV (v : Nat × List Nat) : NestedKey := .tup [.num v.1, .tup (v.2.map fun (n : Nat) => .num n)]
theorem nk_v (v : Nat × List Nat) : nkOf (pV v) = some (kV v) := by
  unfold pV pNs
  rw [nkOf, nksOf, nksOf, nkOf, nkOf, nks_map (fun (n : Nat) => PV.int n) (fun (n : Nat) => .num n) (fun _ => rfl)]
  rfl
theorem v_mode (v : Nat × List Nat) : kmode (pV v) = some true := by
  refine kmode_of (nk_v v) ?_
  have := depth_map (fun (n : Nat) => NestedKey.num n) 2 (fun b => by simp [NestedKey.depth]) v.2
  simp only [kV, NestedKey.depth, NestedKey.depthAll]
  omega
theorem v_key (a b : Nat × List Nat) : nkOf (pV a) = nkOf (pV b) ↔ a = b := by
  rw [nk_v, nk_v]
  refine ⟨fun h => ?_, fun h => by rw [h]⟩
  simp only [Option.some.injEq, kV, NestedKey.tup.injEq, List.cons.injEq, NestedKey.num.injEq, and_true] at h
  exact Prod.ext (by omega) ((List.map_inj_right fun x y e => by simp at e; omega).mp h.2)
theorem ns_toPs : ∀ cs : List Nat, toPs (cs.map fun (n : Nat) => PV.int n) = some (cs.map fun (n : Nat) => PyData.int n)
  | [] => rfl
  | c :: cs => by simp [toPs, toP, ns_toPs cs]
theorem ns_lay : ∀ cs : List Nat, PyData.canLayAll0 (cs.map fun (n : Nat) => PyData.int n) = true ∧ PyData.depthAll (cs.map fun (n : Nat) => PyData.int n) = 0
  | [] => ⟨rfl, rfl⟩
  | c :: cs => by
    obtain ⟨h1, h2⟩ := ns_lay cs
    exact ⟨by simp [PyData.canLayAll0, PyData.canLay0, h1], by simp [PyData.depthAll, PyData.depth, h2]⟩
theorem ns_eqv : ∀ a b : List Nat, PyData.eqvAll (a.map fun (n : Nat) => PyData.int n) (b.map fun (n : Nat) => PyData.int n) = decide (a = b)
  | [], [] => by simp [PyData.eqvAll]
  | [], _ :: _ => by simp [PyData.eqvAll]
  | _ :: _, [] => by simp [PyData.eqvAll]
  | x :: a, y :: b => by
    simp only [List.map_cons, PyData.eqvAll, ns_eqv a b, PyData.eqv]
    rw [Bool.eq_iff_iff]
    simp
    intro _
    omega
theorem ns_toS (c : List Nat) (α : AH) : toS α (pNs c) = some (.tuple (c.map fun (n : Nat) => PyData.int n)) := by
  obtain ⟨h1, h2⟩ := ns_lay c
  have e : toA α (pNs c) = some (.tuple (c.map fun (n : Nat) => PyData.int n)) := by simp [toA, pNs, toP, ns_toPs]
  unfold toS
  rw [e]
  have : SeqAt.shaped (.tuple (c.map fun (n : Nat) => PyData.int n)) = true := by
    show (PyData.canLayAll0 (c.map fun (n : Nat) => PyData.int n) && decide (PyData.depthAll (c.map fun (n : Nat) => PyData.int n) + 1 ≤ 64)) = true
    rw [h1, h2]
    rfl
  simp [this]
theorem ns_eq (a b : List Nat) (α : AH) : cop .eq (pNs a) (pNs b) α = .ok (.bl (decide (a = b))) α := by
  have e3 : eqP (pNs a) (pNs b) α = .ok (decide (a = b)) α := by
    show (match toS α (pNs a), toS α (pNs b) with
      | some d, some e => Res.ok (PyData.eqv d e) α
      | _, _ => .bad) = _
    rw [ns_toS, ns_toS]
    show Res.ok (PyData.eqvAll _ _) α = _
    rw [ns_eqv]
  show ((eqP (pNs a) (pNs b) α).bind fun b α => Res.ok (PV.bl b) α) = _
  rw [e3]
  rfl
end Core
end
section
set_option Elab.async false
set_option linter.all false
set_option maxRecDepth 100000
set_option maxHeartbeats 4000000
/-! Co8: alike_classes. -/
namespace Core
open PySem Mw
variable {tl : List FD}
theorem clo_ns (n : Nat) (c : List Nat) : closed n (pNs c) = true := by
  simp only [pNs, closed]
  exact closedL_map (fun _ => rfl) _
theorem clo_st (n : Nat) (st : St) : closed n (pSt st) = true := by
  simp only [pSt, closed]
  exact closedL_map (fun _ => rfl) _
theorem clo_sts (n : Nat) (ss : List St) : closed n (pSts ss) = true := by
  simp only [pSts, closed]
  exact closedL_map (fun st => clo_st n st) _
theorem nums_ok (d : Nat) {β : Type} [DecidableEq β] (enc : β → PV) (hk : ∀ b, kmode (enc b) = some true) (hi : ∀ a b, nkOf (enc a) = nkOf (enc b) ↔ a = b) (ks : List β) (hl : ks.length < 100000) (α : AH) (p : PV) (hp : Lst α p (ks.map enc)) :
    callD (core ++ tl) (d + 1) 1 [p] α = .ok (pNs (nums ks)) α := numbered_ok d enc hk hi ks hl α p hp
theorem alike_ok (d : Nat) {ss : List St} (hle : ss.length ≤ 40) (h1 : ∀ st ∈ ss, st.length ≤ 1000) (h2 : ∀ st ∈ ss, ∀ s ∈ st, s.2 < ss.length) (α : AH) :
    ∃ c, Classes ss c ∧ callD (core ++ tl) (d + 2) 2 [pSts ss] α = .ok (pNs c) α := by
  suffices hg : Go (callD (core ++ tl) (d + 2) 2 [pSts ss] α) (fun p α' => ∃ c, Classes ss c ∧ p = pNs c ∧ α' = α) by
    obtain ⟨p, a, e, c, h, rfl, rfl⟩ := hg.ex
    exact ⟨c, h, e⟩
  rw [go_run (fd := f_alike_classes) (qs := [pSts ss]) rfl rfl rfl]
  show Go (dSs _ b_alike_classes [some (pSts ss), none, none, none, none, none, none, none, none] _) _
  unfold b_alike_classes
  simp only [go_Scons, go_Sasg, go_call, go_Econs, go_Enil, go_comp, go_Ival, go_var, List.getElem?_cons_zero]
  rw [go_eq (show srcOf (pSts ss) α = .ok ⟨ss.map pSt, none⟩ α from rfl), lockN]
  rw [go_eq (comp_map (g := fun st : St => pEs (st.map (·.1))) rfl fun st hst => ?hc)]
  case hc =>
    refine eq_of_go ?_
    unfold compStep
    simp only [go_bind, go_Tvar, go_Cnone, go_call, go_Econs, go_Enil, go_var, wipeP, List.set_cons_succ, List.set_cons_zero, List.getElem?_cons_zero, List.getElem?_cons_succ]
    have := h1 st hst
    rw [go_eq (legal_ok d st (line_le (by omega)) α)]
    exact ⟨by simp [pEs, Function.comp_def], rfl⟩
  rw [List.length_map]
  refine ⟨line_le (by omega), ?_⟩
  rw [go_doneN, go_eq (nums_ok d pEs es_mode es_key (ss.map fun st => st.map (·.1)) (by rw [List.length_map]; omega) α _ (.inl (by rw [List.map_map]; rfl)))]
  simp only [go_Tvar, List.set_cons_succ, List.set_cons_zero, go_Swhl, go_Scons]
  refine whl_inv (I := fun n ρ α' => ∃ (c : List Nat) (i : Nat) (x2 x3 x4 x5 x6 x7 x8 : Option PV), c = Nat.rec (cls0 ss) (fun _ c => next ss c) i ∧ Canon c ∧ c.length = ss.length ∧ n = ss.length * ss.length - c.sum ∧ ρ = [some (pSts ss), some (pNs c), x2, x3, x4, x5, x6, x7, x8] ∧ α' = α) ?_ (ss.length * ss.length - (cls0 ss).sum) _ ⟨cls0 ss, 0, none, none, none, none, none, none, none, rfl, nums_canon _, cls0_len ss, rfl, rfl, rfl⟩
  rintro n ρ α' ⟨c, i, x2, x3, x4, x5, x6, x7, x8, ei, hcan, hlen, hn, rfl, rfl⟩
  simp only [go_bind, go_bl, go_truth]
  obtain ⟨T1, hT1⟩ : ∃ T1 : Ss, T1 = (.cons (.asg (.var 3) (.call 1 (.cons (.var 2) .nil)))
  (.cons (.ife (.cmp .eq (.var 3) (.var 1)) (.cons (.ret (.var 1))
  .nil) .nil)
  (.cons (.asg (.var 1) (.var 3))
  .nil))) := ⟨_, rfl⟩
  rw [← hT1]
  simp only [go_Scons, go_Sasg, go_join, go_lst, go_Enil]
  refine ⟨l0, ?_⟩
  rw [go_eq (show joinP (.fl []) α' = .ok (.ref α'.length) (α' ++ [.lst []]) from rfl)]
  simp only [go_Tvar, List.set_cons_succ, List.set_cons_zero, go_Scons, go_Sloop, go_Izip, go_var, List.getElem?_cons_zero, List.getElem?_cons_succ]
  rw [go_eq (show srcZip (pSts ss) (pNs c) (α' ++ [.lst []]) = .ok ⟨(ss.zip c).map fun e => PV.tup [pSt e.1, .int (e.2 : Nat)], none⟩ (α' ++ [.lst []]) by
    rw [← zipP_map pSt (fun (n : Nat) => PV.int n)]; rfl), lockN]
  refine turnsF_inv (I := fun r ρ a => ∃ (pre suf : List (St × Nat)) (x4 x5 x6 x7 x8 : Option PV), ss.zip c = pre ++ suf ∧ r = (suf.map fun e => PV.tup [pSt e.1, .int (e.2 : Nat)]) ∧ ρ = [some (pSts ss), some (pNs c), some (.ref α'.length), x3, x4, x5, x6, x7, x8] ∧
    a = α' ++ [.lst (pre.map fun e => pV (view c e))]) ?_ ?_ _ _ _ ⟨[], ss.zip c, x4, x5, x6, x7, x8, rfl, rfl, rfl, rfl⟩
  · rintro v r ρ a ⟨pre, suf, y4, y5, y6, y7, y8, e1, e2, rfl, rfl⟩
    cases suf with
    | nil => cases e2
    | cons e suf =>
      rw [List.map_cons, List.cons.injEq] at e2
      obtain ⟨rfl, rfl⟩ := e2
      refine ⟨rfl, ?_⟩
      have hmem : e ∈ ss.zip c := by rw [e1]; simp
      have hst : e.1 ∈ ss := (List.of_mem_zip (a := e.1) (b := e.2) hmem).1
      have hpl : pre.length ≤ 40 := by
        have := congrArg List.length e1
        rw [List.length_zip, List.length_append] at this
        omega
      have hget : (α' ++ [AO.lst (pre.map fun e => pV (view c e))])[α'.length]? = some (.lst (pre.map fun e => pV (view c e))) := by simp
      obtain ⟨q1, q2⟩ := appL (x := pV (view c e)) hget (small (by rw [List.length_map]; omega))
      simp only [go_bind, go_Ttup, go_Tcons, go_Tvar, go_Tnil, go_Scons, go_Sexpr, go_mth, go_Econs, go_Enil, go_tup, go_b1, go_comp, go_Ival, go_var, List.set_cons_succ, List.set_cons_zero, List.getElem?_cons_zero, List.getElem?_cons_succ]
      refine ⟨q1, ?_⟩
      rw [go_eq (show srcOf (pSt e.1) (α' ++ [.lst (pre.map fun e => pV (view c e))]) = .ok ⟨e.1.map pStp, none⟩ (α' ++ [.lst (pre.map fun e => pV (view c e))]) from rfl), lockN]
      rw [go_eq (comp_map (g := fun s : Stp => PV.int (c.getD s.2 0 : Nat)) rfl fun s hs => ?hh)]
      case hh =>
        refine eq_of_go ?_
        unfold compStep pStp
        have hlt : s.2 < c.length := by rw [hlen]; exact h2 e.1 hst s hs
        have hx : ixP (pNs c) (.int s.2) (α' ++ [.lst (pre.map fun e => pV (view c e))]) = .ok (.int (c.getD s.2 0 : Nat)) (α' ++ [.lst (pre.map fun e => pV (view c e))]) := ix_tup (by
          rw [List.getElem?_map, List.getD_eq_getElem?_getD]
          simp [hlt])
        simp only [go_bind, go_Ttup, go_Tcons, go_Tnil, go_Tvar, go_Cnone, go_ix, go_var, wipeP, List.set_cons_succ, List.set_cons_zero, List.getElem?_cons_zero, List.getElem?_cons_succ]
        rw [go_eq hx]
        exact ⟨rfl, rfl⟩
      have := h1 e.1 hst
      rw [List.length_map]
      refine ⟨line_le (by omega), ?_⟩
      rw [go_doneN, go_eq (show b1 .tuple (.fl (e.1.map fun s : Stp => PV.int (c.getD s.2 0 : Nat))) (α' ++ [.lst (pre.map fun e => pV (view c e))]) = .ok (pNs (view c e).2) (α' ++ [.lst (pre.map fun e => pV (view c e))]) by
        show Res.ok (PV.tup _) _ = _
        simp [pNs, view, Function.comp_def])]
      refine ⟨l2, ?_⟩
      show Go (mP .append (.ref α'.length) [pV (view c e)] _) _
      rw [q2, go_ok, go_Snil]
      dsimp only
      rw [gcL_id (by simp)]
      exact ⟨pre ++ [e], suf, _, _, _, _, _, by rw [e1]; simp, rfl, rfl, by simp⟩
  · rintro ρ a ⟨pre, suf, y4, y5, y6, y7, y8, e1, e2, rfl, rfl⟩
    have : suf = [] := by
      cases suf with
      | nil => rfl
      | cons i suf => cases e2
    subst this
    rw [List.append_nil] at e1
    subst e1
    refine ⟨rfl, ?_⟩
    rw [go_doneN]
    subst hT1
    have hzl : (ss.zip c).length ≤ 40 := by rw [List.length_zip]; omega
    simp only [go_Scons, go_Sasg, go_call, go_Econs, go_Enil, go_var, List.getElem?_cons_zero, List.getElem?_cons_succ]
    rw [go_eq (nums_ok d pV v_mode v_key ((ss.zip c).map (view c)) (by rw [List.length_map]; omega) _ _ (.inr (.inr ⟨_, rfl, by rw [List.map_map]; simp [Function.comp_def]⟩)))]
    simp only [go_Tvar, go_Scons, go_Sif, go_cmp, go_var, List.set_cons_succ, List.set_cons_zero, List.getElem?_cons_zero, List.getElem?_cons_succ]
    rw [show nums ((ss.zip c).map (view c)) = next ss c from rfl, ns_eq, go_ok, go_truth]
    by_cases hf : next ss c = c
    · rw [decide_eq_true hf]
      simp only [go_Scons, go_Sret, go_var, List.getElem?_cons_zero, List.getElem?_cons_succ, f_alike_classes]
      rw [gcV_new (fun _ => by simp [pNs]) (clo_ns _ _)]
      exact ⟨c, ⟨⟨i, ei⟩, hf⟩, rfl, rfl⟩
    · rw [decide_eq_false hf]
      simp only [go_Snil, go_Scons, go_Sasg, go_var, go_Tvar, List.set_cons_succ, List.set_cons_zero, List.getElem?_cons_zero, List.getElem?_cons_succ]
      rw [gcL_app (by simp)]
      have hnl := next_len hlen
      have hs1 := canon_sum (nums_canon ((ss.zip c).map (view c)))
      have hs2 := sum_lt c (next ss c) (by omega) (fun j x y => next_ge hlen hcan j x y) (fun z => hf z.symm)
      have hs3 : (next ss c).sum ≤ ss.length * ss.length := by
        have : (nums ((ss.zip c).map (view c))).length = ss.length := hnl
        rw [this] at hs1
        exact hs1
      have g1 : (some (pSts ss)).filter (closed α'.length) = some (pSts ss) := by simp [Option.filter, clo_sts]
      have g2 : (some (pNs (next ss c))).filter (closed α'.length) = some (pNs (next ss c)) := by simp [Option.filter, clo_ns]
      refine ⟨ss.length * ss.length - (next ss c).sum, by omega, next ss c, i + 1, (some (.ref α'.length)).filter (closed α'.length), (some (pNs (next ss c))).filter (closed α'.length), y4.filter (closed α'.length), y5.filter (closed α'.length), y6.filter (closed α'.length), y7.filter (closed α'.length), y8.filter (closed α'.length), by rw [ei], nums_canon _, hnl, rfl, ?_, rfl⟩
      show [(some (pSts ss)).filter (closed α'.length), (some (pNs (next ss c))).filter (closed α'.length), _, _, _, _, _, _, _] = _
      rw [g1, g2]
      show [_, _, _, Option.filter (closed α'.length) (some (pNs (next ss c))), _, _, _, _, _] = _
      rw [g2]
end Core
end
section
set_option Elab.async false
set_option linter.all false
set_option maxRecDepth 100000
set_option maxHeartbeats 4000000
/-! Co9: a Kind is made. -/
namespace Core
open PySem Mw
variable {tl : List FD}
def pMoves (st : St) : PV := .fd (dictOf (st.map fun s => (pEv s.1, .int (s.2 : Nat))))
def pKind (ss : List St) (c : List Nat) : PV := .obj 0 [("states", pSts ss), ("moves", .tup (ss.map pMoves)), ("firsts", pNs c)]
theorem turnsD_map {β : Type} {still : AH → Bool} {step : PV → AH → Res (Option (PV × PV))} {f : β → PV} {g : β → PV × PV} {α : AH} {xs : List β} (hst : still α = true) (h : ∀ x ∈ xs, step (f x) α = .ok (some (g x)) α) : turnsD still step (xs.map f) α = .ok (xs.map g) α := by
  induction xs with
  | nil =>
    show need _ _ = _
    rw [hst]; rfl
  | cons x r ih =>
    rw [List.map_cons, turnsD_cons, hst, h x List.mem_cons_self, need_true, Res.ok_bind, ih fun y hy => h y (List.mem_cons_of_mem _ hy), Res.ok_bind]
    rfl
theorem putsOk_of : ∀ (kvs acc : List (PV × PV)), (∀ e ∈ acc, kmode e.1 = some true) → (∀ e ∈ kvs, kmode e.1 = some true) → acc.length + kvs.length < sizeLine → putsOk acc kvs = true
  | [], _, _, _, _ => rfl
  | e :: r, acc, h1, h2, h3 => by
    have he := h2 e List.mem_cons_self
    have := dput_len acc e.1 e.2
    rw [List.length_cons] at h3
    rw [putsOk, kok_of he h1, decide_eq_true (by omega : acc.length < sizeLine), putsOk_of r (dput acc e.1 e.2) (dput_mode he h1) (fun x hx => h2 x (List.mem_cons_of_mem _ hx)) (by omega)]
    rfl
theorem dput_clo {n : Nat} {acc : List (PV × PV)} {k v : PV} (h : ∀ e ∈ acc, closed n e.1 = true ∧ closed n e.2 = true) (hk : closed n k = true) (hv : closed n v = true) : ∀ e ∈ dput acc k v, closed n e.1 = true ∧ closed n e.2 = true := by
  intro e he
  unfold dput at he
  split at he
  · obtain ⟨x, hx, rfl⟩ := List.mem_map.mp he
    split
    · exact ⟨(h x hx).1, hv⟩
    · exact h x hx
  · rcases List.mem_append.mp he with he | he
    · exact h e he
    · simp at he; subst he; exact ⟨hk, hv⟩
theorem args_star {ps : List PV} (h : lineOk ps.length = true) : argsP 1 true ps = some [.tup ps] := by simp [argsP, h]
theorem kind_ok (d : Nat) {ss : List St} (h : GoodSts ss) (α : AH) : ∃ c, Classes ss c ∧ callD (core ++ tl) (d + 4) 7 (ss.map pSt) α = .ok (pKind ss c) α := by
  have hle := h.le
  obtain ⟨c, hc, ec⟩ := alike_ok (tl := tl) (d + 1) hle (fun st hst => by have := (h.st st hst).len; omega) (fun st hst => (h.st st hst).to) α
  refine ⟨c, hc, eq_of_go ?_⟩
  rw [go_runI (fd := f_Kind_init) (qs := [pSts ss]) rfl rfl (args_star (line_le (by rw [List.length_map]; omega)))]
  show Go (dG _ g_Kind_init [none, some (pSts ss), none, none] _) _
  unfold g_Kind_init
  simp only [go_Gcons, go_Gnil, go_not, go_call, go_Econs, go_Enil, go_var, List.getElem?_cons_zero, List.getElem?_cons_succ]
  rw [go_eq (states_ok d h α), go_truth, go_truth]
  refine ⟨rfl, ?_⟩
  show Go (dF _ e_Kind_init [none, some (pSts ss), none, none] _) _
  unfold e_Kind_init
  simp only [go_Fcons, go_Fnil, go_b1, go_comp, go_Ival, go_call, go_Econs, go_Enil, go_var, List.getElem?_cons_zero, List.getElem?_cons_succ]
  rw [go_eq (show srcOf (pSts ss) α = .ok ⟨ss.map pSt, none⟩ α from rfl), lockN]
  rw [go_eq (comp_map (g := pMoves) rfl fun st hst => ?hh)]
  case hh =>
    refine eq_of_go ?_
    have hl := (h.st st hst).len
    unfold compStep
    simp only [go_bind, go_Tvar, go_Cnone, go_dcomp, go_Ival, go_var, wipeP, List.set_cons_succ, List.set_cons_zero, List.getElem?_cons_zero, List.getElem?_cons_succ]
    rw [go_eq (show srcOf (pSt st) α = .ok ⟨st.map pStp, none⟩ α from rfl), lockN]
    rw [go_eq (turnsD_map (g := fun s : Stp => (pEv s.1, PV.int (s.2 : Nat))) rfl fun s hs => ?h3)]
    case h3 =>
      refine eq_of_go ?_
      have i0 : ixP (pStp s) (.int 0) α = .ok (.str s.1.1) α := ix_tup (i := 0) rfl
      have i1 : ixP (pStp s) (.int 1) α = .ok (.str s.1.2) α := ix_tup (i := 1) rfl
      have i2 : ixP (pStp s) (.int 2) α = .ok (.int s.2) α := ix_tup (i := 2) rfl
      simp only [go_bind, go_Tvar, go_Cnone, go_tup, go_Econs, go_Enil, go_ix, go_int, go_var, wipeP, List.set_cons_succ, List.set_cons_zero, List.getElem?_cons_zero, List.getElem?_cons_succ]
      rw [go_eq i0]
      simp only [go_bind, go_Econs, go_Enil, go_ix, go_int, go_var, List.getElem?_cons_zero, List.getElem?_cons_succ]
      rw [go_eq i1]
      refine ⟨l2, ?_⟩
      simp only [go_bind, go_ix, go_int, go_var, List.getElem?_cons_zero, List.getElem?_cons_succ]
      rw [go_eq i2]
      exact ⟨rfl, rfl⟩
    refine ⟨putsOk_of _ _ (by simp) (fun e he => ?_) (small (by rw [List.length_map, List.length_nil]; omega)), ?_⟩
    · obtain ⟨s, _, rfl⟩ := List.mem_map.mp he
      exact pEv_mode _
    rw [go_doneN]
    exact ⟨rfl, rfl⟩
  rw [List.length_map]
  refine ⟨line_le (by omega), ?_⟩
  rw [go_doneN, go_eq (show b1 .tuple (.fl (ss.map pMoves)) α = .ok (.tup (ss.map pMoves)) α from rfl)]
  simp only [go_Fcons, go_Fnil, go_call, go_Econs, go_Enil, go_var, List.getElem?_cons_zero, List.getElem?_cons_succ]
  rw [go_eq ec, gcV_same]
  exact ⟨rfl, rfl⟩
theorem of_ok (d : Nat) {ss : List St} (h : GoodSts ss) (α : AH) : ∃ c, Classes ss c ∧ callD (core ++ tl) (d + 5) 8 [.st 0, pSts ss] α = .ok (pKind ss c) α := by
  obtain ⟨c, hc, ec⟩ := kind_ok (tl := tl) d h α
  refine ⟨c, hc, eq_of_go ?_⟩
  rw [go_run (fd := f_Kind_of) (qs := [.st 0, pSts ss]) rfl rfl rfl]
  show Go (dSs _ b_Kind_of [some (.st 0), some (pSts ss)] _) _
  unfold b_Kind_of
  simp only [go_Scons, go_Sif, go_not, go_isT, go_var, List.getElem?_cons_zero, List.getElem?_cons_succ]
  rw [go_eq (show isTP (pSts ss) "tuple" α = .ok (.bl true) α from rfl), go_truth, go_truth]
  simp only [Bool.not_true, go_Snil, go_Scons, go_Sret]
  rw [go_mkV rfl]
  simp only [go_var, List.getElem?_cons_zero, List.getElem?_cons_succ]
  refine ⟨ss.map pSt, rfl, ?_⟩
  rw [go_eq ec]
  simp only [f_Kind_of]
  rw [gcV_same]
  exact ⟨rfl, rfl⟩
end Core
end
section
set_option Elab.async false
set_option linter.all false
set_option maxRecDepth 100000
/-! Tx1: texts put together and taken apart again. -/
namespace Tx
open PySem
def tl (x : Str) : List Nat := x.cps.toList
theorem tl_inj {x y : Str} (h : tl x = tl y) : x = y := Str.ext' (Array.toList_inj.mp h)
theorem tl_app (x y : Str) : tl (x ++ y) = tl x ++ tl y := by simp [tl, Str.cps_append]
theorem tl_one (c : Nat) : tl ⟨#[c]⟩ = [c] := rfl
theorem cut_inj {c : Nat} : ∀ {a b r s : List Nat}, c ∉ a → c ∉ b → a ++ c :: r = b ++ c :: s → a = b ∧ r = s
  | [], [], r, s, _, _, h => by simp at h; exact ⟨rfl, h⟩
  | [], y :: b, r, s, _, hb, h => by
    simp at h
    exact absurd (by rw [h.1]; simp) hb
  | x :: a, [], r, s, ha, _, h => by
    simp at h
    exact absurd (by rw [h.1]; simp) ha
  | x :: a, y :: b, r, s, ha, hb, h => by
    simp only [List.cons_append, List.cons.injEq] at h
    obtain ⟨h1, h2⟩ := cut_inj (fun z => ha (List.mem_cons_of_mem _ z)) (fun z => hb (List.mem_cons_of_mem _ z)) h.2
    exact ⟨by rw [h.1, h1], h2⟩
theorem no_cut {c : Nat} {a b r : List Nat} (ha : c ∉ a) (h : a = b ++ c :: r) : False := ha (by rw [h]; simp)
theorem tl_join2 (c : Nat) (x y : Str) (r : List Str) : tl (Str.join ⟨#[c]⟩ (x :: y :: r)) = tl x ++ c :: tl (Str.join ⟨#[c]⟩ (y :: r)) := by
  show tl (x ++ ⟨#[c]⟩ ++ Str.join ⟨#[c]⟩ (y :: r)) = _
  rw [tl_app, tl_app, tl_one, List.append_assoc]
  rfl
theorem join_inj {c : Nat} : ∀ {a b : List Str}, a ≠ [] → b ≠ [] → (∀ x ∈ a, c ∉ tl x) → (∀ x ∈ b, c ∉ tl x) → Str.join ⟨#[c]⟩ a = Str.join ⟨#[c]⟩ b → a = b
  | [], _, h, _, _, _, _ => absurd rfl h
  | _, [], _, h, _, _, _ => absurd rfl h
  | [x], [y], _, _, _, _, h => by rw [show x = y from h]
  | [x], y :: z :: r, _, _, ha, _, h => (no_cut (ha x (by simp)) ((congrArg tl h).trans (tl_join2 c y z r))).elim
  | y :: z :: r, [x], _, _, _, hb, h => (no_cut (hb x (by simp)) ((congrArg tl h).symm.trans (tl_join2 c y z r))).elim
  | x :: x2 :: r, y :: y2 :: s, _, _, ha, hb, h => by
    have e := congrArg tl h
    rw [tl_join2, tl_join2] at e
    obtain ⟨e1, e2⟩ := cut_inj (ha x (by simp)) (hb y (by simp)) e
    rw [tl_inj e1, join_inj (a := x2 :: r) (b := y2 :: s) (by simp) (by simp) (fun z hz => ha z (List.mem_cons_of_mem _ hz)) (fun z hz => hb z (List.mem_cons_of_mem _ hz)) (tl_inj e2)]
theorem split_ne (x y : Str) (h : 1 ≤ (Txt.split x y).length) : Txt.split x y ≠ [] := fun e => by rw [e] at h; simp at h
/-- pieces that are free of the sign come back -/
theorem split_join {c : Nat} {a : List Str} (hn : a ≠ []) (ha : ∀ x ∈ a, c ∉ tl x) : Txt.split (Str.join ⟨#[c]⟩ a) ⟨#[c]⟩ = a := by
  refine join_inj (split_ne _ _ (PyProof.Rows.split_pos _ _)) hn (StrLaws.split_free _ c) ha ?_
  exact StrLaws.join_split _ _
end Tx
end
section
set_option Elab.async false
set_option linter.all false
set_option maxRecDepth 100000
/-! Tx2: partition. -/
namespace Tx
open PySem Builtin Builtin.Str
theorem sub_tl (x : Str) (i j : Nat) : tl (strSub x i j) = ((tl x).drop i).take (j - i) := StrLaws.strSub_toList x i j
theorem at_iff (x : Str) (c i : Nat) : StrLaws.At x ⟨#[c]⟩ x.length i ↔ (tl x)[i]? = some c := by
  unfold StrLaws.At
  rw [StrLaws.subAt_eq]
  show i + 1 ≤ x.length ∧ (((tl x).drop i).take 1 == [c]) = true ↔ _
  have hl : x.length = (tl x).length := by simp [tl, Str.length]
  rw [hl, beq_iff_eq]
  constructor
  · rintro ⟨h1, h2⟩
    have : (((tl x).drop i).take 1)[0]? = some c := by rw [h2]; rfl
    simpa [List.getElem?_take, List.getElem?_drop] using this
  · intro h
    have hi := (List.getElem?_eq_some_iff.mp h).1
    refine ⟨hi, ?_⟩
    rw [List.drop_eq_getElem_cons hi, (List.getElem?_eq_some_iff.mp h).2]
    rfl
theorem part_at {c : Nat} {a r : Str} (h : c ∉ tl a) : Txt.partition (a ++ ⟨#[c]⟩ ++ r) ⟨#[c]⟩ = (a, ⟨#[c]⟩, r) := by
  have hx : tl (a ++ ⟨#[c]⟩ ++ r) = tl a ++ c :: tl r := by
    rw [tl_app, tl_app, tl_one, List.append_assoc]; rfl
  generalize hxx : a ++ ⟨#[c]⟩ ++ r = x at hx
  have hlen : x.length = (tl x).length := by simp [tl, Str.length]
  have hat : (tl x)[(tl a).length]? = some c := by rw [hx]; simp
  have key : ∀ i, StrLaws.At x ⟨#[c]⟩ x.length i → (∀ k, k < i → ¬ StrLaws.At x ⟨#[c]⟩ x.length k) → i = (tl a).length := by
    intro i hi hn
    rcases Nat.lt_trichotomy i (tl a).length with hlt | he | hgt
    · have := (at_iff x c i).mp hi
      rw [hx, List.getElem?_append_left hlt] at this
      exact absurd (List.mem_of_getElem? this) h
    · exact he
    · exact absurd ((at_iff x c _).mpr hat) (hn _ hgt)
  unfold Txt.partition
  rcases StrLaws.occ_head x ⟨#[c]⟩ 1 (Nat.le_refl 1) with ⟨h0, hn⟩ | ⟨i, rr, h0, hi, hn⟩
  · exact absurd ((at_iff x c _).mpr hat) (hn _)
  · rw [h0]
    have e := key i hi hn
    subst e
    have e1 : strSub x 0 (tl a).length = a := tl_inj (by rw [sub_tl, hx]; simp)
    have e2 : strSub x ((tl a).length + 1) x.length = r := tl_inj (by
      rw [sub_tl, hlen, hx]
      simp
      exact List.take_of_length_le (by omega))
    show (strSub x 0 (tl a).length, (⟨#[c]⟩ : Str), strSub x ((tl a).length + 1) x.length) = _
    rw [e1, e2]
end Tx
end
section
set_option Elab.async false
set_option linter.all false
set_option maxRecDepth 100000
set_option maxHeartbeats 4000000
/-! Tx3: a state's text. -/
namespace Core
open PySem Mw Tx
def numS (n : Nat) : Str := Str.ofString (toString (n : Int))
theorem num_small : ∀ n, n < 64 → (0 < (numS n).length ∧ (numS n).length ≤ 2) ∧ ∀ c ∈ (numS n).cps.toList, c ∈ (Str.ofString "0123456789").cps.toList := by decide +kernel
theorem num_reads {n : Nat} (h : n < 64) : PySem.intText? (numS n) = some (n : Int) := PySem.W.KIN.num_reads (by omega) (by omega)
def stepT (s : Stp) : Str := Str.ofString " " ++ s.1.1 ++ Str.ofString " " ++ s.1.2 ++ Str.ofString " " ++ numS s.2
def lineT (n : Nat) (st : St) : Str := numS n ++ Str.ofString ":" ++ Str.join (Str.ofString ",") (st.map stepT)
def textT (ss : List St) : Str := Str.join (Str.ofString "\n") (ss.zipIdx.map fun e => lineT e.2 e.1)
theorem len_sp : (Str.ofString " ").length = 1 := by decide +kernel
theorem len_co : (Str.ofString ",").length = 1 := by decide +kernel
theorem len_cl : (Str.ofString ":").length = 1 := by decide +kernel
theorem len_nl : (Str.ofString "\n").length = 1 := by decide +kernel
/-- a state whose words are short -/
def Short (st : St) : Prop := st.length ≤ 24 ∧ ∀ s ∈ st, s.1.1.length ≤ 12 ∧ s.1.2.length ≤ 12 ∧ s.2 < 64
theorem step_len {s : Stp} (h : s.1.1.length ≤ 12 ∧ s.1.2.length ≤ 12 ∧ s.2 < 64) : (stepT s).length ≤ 29 := by
  have := (num_small s.2 h.2.2).1.2
  unfold stepT
  simp only [Str.length_append, len_sp]
  omega
theorem sum_len : ∀ (xs : List Str) (n : Nat), (∀ x ∈ xs, x.length ≤ n) → (xs.map (·.length)).sum ≤ xs.length * n
  | [], _, _ => by simp
  | x :: xs, n, h => by
    have h1 := h x List.mem_cons_self
    have h2 := sum_len xs n fun y hy => h y (List.mem_cons_of_mem _ hy)
    rw [List.map_cons, List.sum_cons, List.length_cons, Nat.succ_mul]
    omega
theorem join_len (sep : Str) : ∀ xs : List Str, (Str.join sep xs).length ≤ (xs.map (·.length)).sum + xs.length * sep.length
  | [] => by simp [Str.join, Str.empty, Str.length]
  | [x] => by simp [Str.join]
  | x :: y :: r => by
    have := join_len sep (y :: r)
    show (x ++ sep ++ Str.join sep (y :: r)).length ≤ _
    rw [Str.length_append, Str.length_append, List.map_cons, List.sum_cons, List.length_cons (a := x), Nat.succ_mul]
    omega
theorem strsOf_map (xs : List Str) : strsOf (xs.map PV.str) = some xs := by
  induction xs with
  | nil => rfl
  | cons x r ih => simp [strsOf, ih]
theorem join_ok {sep : Str} {xs : List Str} {p : PV} {α : AH} (hp : itemsS α p = some (xs.map PV.str)) (hs : sep.length ≤ 1) (hx : ∀ x ∈ xs, x.length ≤ 10000) (hl : xs.length ≤ 100) : mP .join (.str sep) [p] α = .ok (.str (Str.join sep xs)) α := by
  unfold mP
  simp only [hp, Option.bind_some, strsOf_map]
  have h1 := sum_len xs 10000 hx
  have h2 : xs.length * sep.length ≤ xs.length * 1 := Nat.mul_le_mul_left _ hs
  have h3 : xs.length * 10000 ≤ 100 * 10000 := Nat.mul_le_mul_right _ hl
  rw [decide_eq_true (by omega), need_true]
  show Res.ok (PV.str (Txt.join sep xs)) α = _
  rw [show Txt.join sep xs = Str.join sep xs from StrLaws.glued_eq_join sep xs]
theorem line_len {n : Nat} {st : St} (hn : n < 64) (h : Short st) : (lineT n st).length ≤ 1000 := by
  have h0 := (num_small n hn).1.2
  have h1 := join_len (Str.ofString ",") (st.map stepT)
  have h2 := sum_len (st.map stepT) 29 (fun x hx => by
    obtain ⟨s, hs, rfl⟩ := List.mem_map.mp hx
    exact step_len (h.2 s hs))
  have h3 := h.1
  unfold lineT
  rw [Str.length_append, Str.length_append, len_cl]
  rw [List.length_map, len_co] at h1
  rw [List.length_map] at h2
  omega
end Core
end
section
set_option Elab.async false
set_option linter.all false
set_option maxRecDepth 100000
set_option maxHeartbeats 4000000
/-! Tx4: state_text. -/
namespace Core
open PySem Mw Tx
def b_state_text : Ss := (.cons (.ret (.bin .add (.fstr (.cons (.fmt (.var 0)) (.cons (.str ":") .nil))) (.mth .join (.str ",") (.cons (.comp (.tup (.cons (.var 2) (.cons (.var 3) (.cons (.var 4) .nil)))) [2, 3, 4] (.val (.var 1)) .none (.fstr (.cons (.str " ") (.cons (.fmt (.var 2)) (.cons (.str " ") (.cons (.fmt (.var 3)) (.cons (.str " ") (.cons (.fmt (.var 4)) .nil)))))))) .nil))))
  .nil)
def f_state_text : FD := ⟨"state_text", "state_text", ["number", "state", "operation", "answer", "then"], 2, b_state_text, false, true, none⟩
theorem catP_of : ∀ (ys : List Str) (acc : Str), acc.length + (ys.map (·.length)).sum ≤ 10000 → catP (ys.map PV.str) acc = some (ys.foldl (· ++ ·) acc)
  | [], _, _ => rfl
  | y :: ys, acc, h => by
    rw [List.map_cons, List.sum_cons] at h
    rw [List.map_cons, catP, if_pos (line_le (by rw [Str.length_append]; omega)), catP_of ys (acc ++ y) (by rw [Str.length_append]; omega)]
    rfl
theorem fmt_str {w : Str} (h : w.length ≤ 10000) (α : AH) : fmtP (.str w) α = .ok (.str w) α := by
  show need _ _ = _
  rw [line_le (by omega)]; rfl
theorem log_small : ∀ n : Nat, n < 64 → decide ((n : Int).natAbs.log2 < 1920) = true := by decide +kernel
theorem fmt_num {n : Nat} (h : n < 64) (α : AH) : fmtP (.int n) α = .ok (.str (numS n)) α := by
  show need (decide ((n : Int).natAbs.log2 < 1920)) _ = _
  rw [log_small n h]; rfl
theorem str_num {n : Nat} (h : n < 64) (α : AH) : b1 .str (.int n) α = .ok (.str (numS n)) α := by
  show need (decide ((n : Int).natAbs.log2 < 1920)) _ = _
  rw [log_small n h]; rfl
theorem add_str {x y : Str} (h : x.length + y.length ≤ 100000) (α : AH) : bop .add (.str x) (.str y) α = .ok (.str (x ++ y)) α := by
  show need (lineOk (x.length + y.length)) _ = _
  rw [line_le (by omega)]; rfl
theorem stext_ok {fs : List FD} {j : Nat} (hj : fs[j]? = some f_state_text) (d : Nat) {n : Nat} {st : St} (hn : n < 64) (h : Short st) (α : AH) : callD fs (d + 1) j [.int n, pSt st] α = .ok (.str (lineT n st)) α := by
  refine eq_of_go ?_
  rw [go_run (fd := f_state_text) (qs := [.int n, pSt st]) hj rfl rfl]
  show Go (dSs _ b_state_text [some (.int n), some (pSt st), none, none, none] _) _
  unfold b_state_text
  have hs := h.1
  have n0 := (num_small n hn).1.2
  simp only [go_Scons, go_Sret, go_bin, go_fstr, go_fmt, go_Econs, go_Enil, go_var, go_str, go_mth, go_comp, go_Ival, List.getElem?_cons_zero, List.getElem?_cons_succ]
  rw [go_eq (fmt_num hn α)]
  refine ⟨numS n ++ Str.ofString ":", ?_, ?_⟩
  · have := catP_of [numS n, Str.ofString ":"] Str.empty (by
      simp only [List.map_cons, List.map_nil, List.sum_cons, List.sum_nil, len_cl]
      show 0 + _ ≤ _
      omega)
    simpa [Str.empty_append] using this
  simp only [go_mth, go_str, go_comp, go_Ival, go_Econs, go_Enil, go_var, List.getElem?_cons_zero, List.getElem?_cons_succ]
  refine ⟨rfl, ?_⟩
  rw [go_eq (show srcOf (pSt st) α = .ok ⟨st.map pStp, none⟩ α from rfl), lockN]
  rw [go_eq (comp_map (g := fun s : Stp => PV.str (stepT s)) rfl fun s hs => ?h)]
  case h =>
    refine eq_of_go ?_
    have hh := h.2 s hs
    have hnum := (num_small s.2 hh.2.2).1.2
    unfold compStep pStp
    simp only [go_bind, go_Ttup, go_Tcons, go_Tnil, go_Tvar, go_Cnone, go_fstr, go_fmt, go_str, go_Econs, go_Enil, go_var, wipeP, List.set_cons_succ, List.set_cons_zero, List.getElem?_cons_zero, List.getElem?_cons_succ]
    rw [go_eq (fmt_str (by omega) α)]
    simp only [go_fmt, go_str, go_Econs, go_Enil, go_var, List.getElem?_cons_zero, List.getElem?_cons_succ]
    rw [go_eq (fmt_str (by omega) α)]
    simp only [go_fmt, go_str, go_Econs, go_Enil, go_var, List.getElem?_cons_zero, List.getElem?_cons_succ]
    rw [go_eq (fmt_num hh.2.2 α)]
    refine ⟨stepT s, ?_, rfl, rfl⟩
    have := catP_of [Str.ofString " ", s.1.1, Str.ofString " ", s.1.2, Str.ofString " ", numS s.2] Str.empty (by
      simp only [List.map_cons, List.map_nil, List.sum_cons, List.sum_nil, len_sp]
      show 0 + _ ≤ _
      omega)
    simpa [Str.empty_append, stepT] using this
  rw [List.length_map]
  refine ⟨line_le (by omega), ?_⟩
  rw [go_doneN, go_eq (join_ok (xs := st.map stepT) (by rw [List.map_map]; rfl) (by rw [len_co]; omega) (fun x hx => by
      obtain ⟨s, hs, rfl⟩ := List.mem_map.mp hx
      have := step_len (h.2 s hs)
      omega) (by rw [List.length_map]; omega))]
  have hl := line_len hn h
  unfold lineT at hl
  rw [Str.length_append] at hl
  rw [go_eq (add_str (by omega) α)]
  simp only [f_state_text]
  rw [gcV_same]
  exact ⟨rfl, rfl⟩
end Core
end
section
set_option Elab.async false
set_option linter.all false
set_option maxRecDepth 100000
set_option maxHeartbeats 4000000
/-! Tx5: Kind.text. -/
namespace Core
open PySem Mw Tx
def b_Kind_text (k : Nat) : Ss := (.cons (.ret (.mth .join (.str "\n") (.cons (.comp (.tup (.cons (.var 1) (.cons (.var 2) .nil))) [1, 2] (.enum (.fld 0 (.var 0) "states")) .none (.call k (.cons (.var 1) (.cons (.var 2) .nil)))) .nil)))
  .nil)
def f_Kind_text (k : Nat) : FD := ⟨"text", "Kind.text", ["self", "number", "state"], 1, b_Kind_text k, false, true, none⟩
theorem GoodSt.short {many : Nat} {st : St} (hm : many ≤ 40) (h : GoodSt many st) : Short st :=
  ⟨h.len, fun s hs => ⟨(h.words s hs).1.le, (h.words s hs).2.le, by have := h.to s hs; omega⟩⟩
theorem GoodSts.short {ss : List St} (h : GoodSts ss) : ∀ st ∈ ss, Short st := fun st hst => (h.st st hst).short h.le
theorem lines_len {ss : List St} (hl : ss.length ≤ 40) (hs : ∀ st ∈ ss, Short st) : ∀ x ∈ ss.zipIdx.map (fun e => lineT e.2 e.1), x.length ≤ 1000 := by
  intro x hx
  obtain ⟨e, he, rfl⟩ := List.mem_map.mp hx
  have h1 := List.mem_zipIdx he
  exact line_len (by omega) (hs e.1 (by rw [h1.2.2]; exact List.getElem_mem _))
theorem text_ok {fs : List FD} {j k : Nat} (hj : fs[j]? = some (f_Kind_text k)) (hk : fs[k]? = some f_state_text) (d : Nat) {ss : List St} {c : List Nat} (hl : ss.length ≤ 40) (hs : ∀ st ∈ ss, Short st) (α : AH) :
    callD fs (d + 2) j [pKind ss c] α = .ok (.str (textT ss)) α := by
  refine eq_of_go ?_
  rw [go_run (fd := f_Kind_text k) (qs := [pKind ss c]) hj rfl rfl]
  show Go (dSs _ (b_Kind_text k) [some (pKind ss c), none, none] _) _
  unfold b_Kind_text
  simp only [go_Scons, go_Sret, go_mth, go_str, go_comp, go_Ienum, go_fld, go_Econs, go_Enil, go_var, List.getElem?_cons_zero, List.getElem?_cons_succ]
  refine ⟨rfl, ?_⟩
  rw [go_eq (show fldP 0 (pKind ss c) "states" α = .ok (pSts ss) α from rfl)]
  rw [go_eq (show srcEnum (pSts ss) α = .ok ⟨ss.zipIdx.map fun e => PV.tup [.int (e.2 : Nat), pSt e.1], none⟩ α by
    rw [← enumP_map]; rfl), lockN]
  rw [go_eq (comp_map (g := fun e : St × Nat => PV.str (lineT e.2 e.1)) rfl fun e he => ?h)]
  case h =>
    refine eq_of_go ?_
    have h1 := List.mem_zipIdx he
    unfold compStep
    simp only [go_bind, go_Ttup, go_Tcons, go_Tnil, go_Tvar, go_Cnone, go_call, go_Econs, go_Enil, go_var, wipeP, List.set_cons_succ, List.set_cons_zero, List.getElem?_cons_zero, List.getElem?_cons_succ]
    rw [go_eq (stext_ok hk d (by omega) (hs e.1 (by rw [h1.2.2]; exact List.getElem_mem _)) α)]
    exact ⟨rfl, rfl⟩
  rw [List.length_map]
  refine ⟨line_le (by rw [List.length_zipIdx]; omega), ?_⟩
  rw [go_doneN, go_eq (join_ok (xs := ss.zipIdx.map fun e => lineT e.2 e.1) (by rw [List.map_map]; rfl) (by rw [len_nl]; omega) (fun x hx => by
      have := lines_len hl hs x hx
      omega) (by rw [List.length_map, List.length_zipIdx]; omega))]
  simp only [f_Kind_text]
  rw [gcV_same]
  exact ⟨rfl, rfl⟩
end Core
end
section
set_option Elab.async false
set_option linter.all false
set_option maxRecDepth 100000
set_option maxHeartbeats 4000000
/-! Tx7: read_state. -/
namespace Core
open PySem Mw Tx
def b_read_state : Ss := (.cons (.asg (.tup (.cons (.var 3) (.cons (.var 4) (.cons (.var 5) .nil)))) (.mth .partition (.var 0) (.cons (.str ":") .nil)))
  (.cons (.asg (.var 1) (.join (.lst .nil)))
  (.cons (.loop (.var 2) (.val (.ife (.cmp .ne (.var 5) (.str "")) (.mth .split (.var 5) (.cons (.str ",") .nil)) (.lst .nil))) (.cons (.asg (.var 6) (.mth .split (.var 2) (.cons (.str " ") .nil)))
  (.cons (.ife (.or (.cmp .ne (.b1 .len (.var 6)) (.gcon "PARTS" 4)) (.or (.not (.chain .lt .le (.int 0) (.b1 .len (.ix (.var 6) (.int 3))) (.int 2))) (.not (.b1 .all (.comp (.var 7) [7] (.val (.ix (.var 6) (.int 3))) .none (.cmp .isin (.var 7) (.gstr "DIGITS" "0123456789"))))))) (.cons .dead
  .nil) .nil)
  (.cons (.expr (.mth .append (.var 1) (.cons (.tup (.cons (.ix (.var 6) (.int 1)) (.cons (.ix (.var 6) (.int 2)) (.cons (.b1 .int (.ix (.var 6) (.int 3))) .nil)))) .nil)))
  .nil))))
  (.cons (.ret (.b1 .tuple (.var 1)))
  .nil))))
def f_read_state : FD := ⟨"read_state", "read_state", ["line", "found", "piece", "head", "colon", "rest", "parts", "digit"], 1, b_read_state, false, true, none⟩
theorem co_eq : Str.ofString "," = ⟨#[44]⟩ := by decide +kernel
theorem sp_eq : Str.ofString " " = ⟨#[32]⟩ := by decide +kernel
theorem cl_eq : Str.ofString ":" = ⟨#[58]⟩ := by decide +kernel
theorem nl_eq : Str.ofString "\n" = ⟨#[10]⟩ := by decide +kernel
theorem em_eq : Str.ofString "" = Str.empty := by decide +kernel
theorem free_chars : ∀ k ∈ [10, 32, 44, 58], k ∉ chars.cps.toList := by decide +kernel
theorem word_free {w : Str} (h : Word w) {k : Nat} (hk : k ∈ [10, 32, 44, 58]) : k ∉ tl w := fun z => free_chars k hk (h.all k z)
theorem num_free : ∀ n, n < 64 → ∀ k ∈ [10, 32, 44, 58], k ∉ tl (numS n) := by decide +kernel
theorem step_join (s : Stp) : stepT s = Str.join (Str.ofString " ") [Str.ofString "", s.1.1, s.1.2, numS s.2] := by
  show _ = Str.ofString "" ++ Str.ofString " " ++ (s.1.1 ++ Str.ofString " " ++ (s.1.2 ++ Str.ofString " " ++ numS s.2))
  rw [em_eq, Str.empty_append]
  simp only [stepT, Str.append_assoc]
/-- what may be read back -/
structure Fine (st : St) : Prop where
  words : ∀ s ∈ st, Word s.1.1 ∧ Word s.1.2
  small : ∀ s ∈ st, s.2 < 64
  len : st.length ≤ 24
theorem Fine.short {st : St} (h : Fine st) : Short st := ⟨h.len, fun s hs => ⟨(h.words s hs).1.le, (h.words s hs).2.le, h.small s hs⟩⟩
theorem step_split {st : St} (h : Fine st) {s : Stp} (hs : s ∈ st) : Txt.split (stepT s) (Str.ofString " ") = [Str.ofString "", s.1.1, s.1.2, numS s.2] := by
  rw [step_join, sp_eq]
  refine split_join (by simp) fun x hx => ?_
  simp only [List.mem_cons, List.not_mem_nil, or_false] at hx
  rcases hx with rfl | rfl | rfl | rfl
  · rw [em_eq]; simp [tl, Str.empty]
  · exact word_free (h.words s hs).1 (by simp)
  · exact word_free (h.words s hs).2 (by simp)
  · exact num_free _ (h.small s hs) 32 (by simp)
theorem step_free {st : St} (h : Fine st) {s : Stp} (hs : s ∈ st) {k : Nat} (hk : k ∈ [10, 44, 58]) : k ∉ tl (stepT s) := by
  have hk' : k ∈ [10, 32, 44, 58] := by simp at hk ⊢; omega
  have h32 : k ∉ tl (Str.ofString " ") := by
    rw [sp_eq, tl_one]
    simp at hk ⊢; omega
  unfold stepT
  simp only [tl_app, List.mem_append, not_or]
  exact ⟨⟨⟨⟨⟨h32, word_free (h.words s hs).1 hk'⟩, h32⟩, word_free (h.words s hs).2 hk'⟩, h32⟩, num_free _ (h.small s hs) k hk'⟩
theorem steps_split {st : St} (h : Fine st) (hn : st ≠ []) : Txt.split (Str.join (Str.ofString ",") (st.map stepT)) (Str.ofString ",") = st.map stepT := by
  rw [co_eq]
  refine split_join (by simpa using hn) fun x hx => ?_
  obtain ⟨s, hs, rfl⟩ := List.mem_map.mp hx
  exact step_free h hs (by simp)
theorem line_part {n : Nat} (hn : n < 64) (st : St) : Txt.partition (lineT n st) (Str.ofString ":") = (numS n, Str.ofString ":", Str.join (Str.ofString ",") (st.map stepT)) := by
  unfold lineT
  rw [cl_eq]
  exact part_at (num_free n hn 58 (by simp))
end Core
end
section
set_option Elab.async false
set_option linter.all false
set_option maxRecDepth 100000
set_option maxHeartbeats 4000000
/-! Tx8: read_state reads a state's line back. -/
namespace Core
open PySem Mw Tx
theorem digit_in : ∀ c ∈ (Str.ofString "0123456789").cps.toList, (Builtin.Str.occurrences (Str.ofString "0123456789") ⟨#[c]⟩ 0 (Str.ofString "0123456789").length 1).isEmpty = false := by decide +kernel
theorem split_ok {x y : Str} (hy : (y.length == 0) = false) (hx : x.length ≤ 100000) (α : AH) : mP .split (.str x) [.str y] α = .ok (.fl ((Txt.split x y).map .str)) α := by
  unfold mP
  simp only
  have := PySem.sizeLine_eq
  rw [hy, decide_eq_true (by omega : x.length + 2 ≤ sizeLine)]
  rfl
theorem part_ok {x y : Str} (hy : (y.length == 0) = false) (hx : x.length ≤ 100000) (α : AH) : mP .partition (.str x) [.str y] α = .ok (.tup [.str (Txt.partition x y).1, .str (Txt.partition x y).2.1, .str (Txt.partition x y).2.2]) α := by
  unfold mP
  simp only
  rw [hy, line_le (by omega)]
  rfl
theorem ne_str (x y : Str) (α : AH) : cop .ne (.str x) (.str y) α = .ok (.bl (!decide (x = y))) α := by
  show Res.ok (PV.bl (!decide (PV.str x = PV.str y))) α = _
  simp
theorem join_ne {st : St} (h : st ≠ []) : Str.join (Str.ofString ",") (st.map stepT) ≠ Str.ofString "" := by
  intro e
  have hl : (Str.join (Str.ofString ",") (st.map stepT)).length = 0 := by rw [e]; decide +kernel
  have hst : ∀ s : Stp, 1 ≤ (stepT s).length := fun s => by
    unfold stepT
    simp only [Str.length_append, len_sp]
    omega
  match st, h with
  | [s], _ =>
    have : (stepT s).length = 0 := hl
    have := hst s
    omega
  | s :: t :: r, _ =>
    have : (stepT s ++ Str.ofString "," ++ Str.join (Str.ofString ",") ((t :: r).map stepT)).length = 0 := hl
    rw [Str.length_append, Str.length_append, len_co] at this
    omega
theorem read_ok {fs : List FD} {j : Nat} (hj : fs[j]? = some f_read_state) (d : Nat) {n : Nat} {st : St} (hn : n < 64) (h : Fine st) (α : AH) : callD fs (d + 1) j [.str (lineT n st)] α = .ok (pSt st) α := by
  have hll := line_len hn h.short
  refine eq_of_go ?_
  rw [go_run (fd := f_read_state) (qs := [.str (lineT n st)]) hj rfl rfl]
  show Go (dSs _ b_read_state [some (.str (lineT n st)), none, none, none, none, none, none, none] _) _
  unfold b_read_state
  obtain ⟨T1, hT1⟩ : ∃ T1 : Ss, T1 = (.cons (.ret (.b1 .tuple (.var 1))) .nil) := ⟨_, rfl⟩
  rw [← hT1]
  simp only [go_Scons, go_Sasg, go_mth, go_str, go_Econs, go_Enil, go_var, List.getElem?_cons_zero]
  refine ⟨rfl, ?_⟩
  rw [go_eq (part_ok (by decide +kernel) (by omega) α), line_part hn st]
  simp only [go_Ttup, go_Tcons, go_Tvar, go_Tnil, List.set_cons_succ, List.set_cons_zero, go_Scons, go_Sasg, go_join, go_lst, go_Enil]
  refine ⟨l0, ?_⟩
  rw [go_eq (show joinP (.fl []) α = .ok (.ref α.length) (α ++ [.lst []]) from rfl)]
  obtain ⟨J, hJ⟩ : ∃ J, J = Str.join (Str.ofString ",") (st.map stepT) := ⟨_, rfl⟩
  rw [← hJ]
  have hJl : J.length ≤ 1000 := by
    rw [hJ]
    unfold lineT at hll
    rw [Str.length_append] at hll
    omega
  have hitems : Go (dE (callD fs d) (.ife (.cmp .ne (.var 5) (.str (Str.ofString ""))) (.mth .split (.var 5) (.cons (.str (Str.ofString ",")) .nil)) (.lst .nil)) [some (.str (lineT n st)), some (.ref α.length), none, some (.str (numS n)), some (.str (Str.ofString ":")), some (.str J), none, none] (α ++ [.lst []]))
      (fun p a => p = .fl ((st.map stepT).map .str) ∧ a = α ++ [.lst []]) := by
    simp only [go_Eife, go_cmp, go_str, go_var, List.getElem?_cons_zero, List.getElem?_cons_succ]
    rw [go_eq (ne_str _ _ _), go_truth]
    by_cases hs : st = []
    · subst hs
      have : J = Str.ofString "" := by rw [hJ, em_eq]; rfl
      rw [decide_eq_true this]
      simp only [Bool.not_true, go_lst, go_Enil]
      exact ⟨l0, rfl, trivial⟩
    · have : J ≠ Str.ofString "" := by rw [hJ]; exact join_ne hs
      rw [decide_eq_false this]
      simp only [Bool.not_false, go_mth, go_str, go_Econs, go_Enil, go_var, List.getElem?_cons_zero, List.getElem?_cons_succ]
      refine ⟨rfl, ?_⟩
      rw [go_eq (split_ok (by decide +kernel) (by omega) _), hJ, steps_split h hs]
      exact ⟨rfl, rfl⟩
  simp only [go_Tvar, List.set_cons_succ, List.set_cons_zero, go_Scons, go_Sloop, go_Ival]
  rw [go_eq (eq_of_go hitems)]
  rw [go_eq (show srcOf (.fl ((st.map stepT).map .str)) (α ++ [.lst []]) = .ok ⟨st.map fun s => .str (stepT s), none⟩ (α ++ [.lst []]) by rw [List.map_map]; rfl), lockN]
  refine turnsF_inv (I := fun r ρ a => ∃ (pre suf : St) (x2 x6 x7 : Option PV), st = pre ++ suf ∧ r = (suf.map fun s => PV.str (stepT s)) ∧ ρ = [some (.str (lineT n st)), some (.ref α.length), x2, some (.str (numS n)), some (.str (Str.ofString ":")), some (.str J), x6, x7] ∧
    a = α ++ [.lst (pre.map pStp)]) ?_ ?_ _ _ _ ⟨[], st, none, none, none, rfl, rfl, rfl, rfl⟩
  · rintro v r ρ a ⟨pre, suf, y2, y6, y7, e1, e2, rfl, rfl⟩
    cases suf with
    | nil => cases e2
    | cons s suf =>
      rw [List.map_cons, List.cons.injEq] at e2
      obtain ⟨rfl, rfl⟩ := e2
      refine ⟨rfl, ?_⟩
      have hs : s ∈ st := by rw [e1]; simp
      have hsl := step_len (h.short.2 s hs)
      have hnm := num_small s.2 (h.small s hs)
      have hpl : pre.length ≤ 24 := by
        have h5 := h.len
        have := congrArg List.length e1
        rw [List.length_append] at this
        omega
      obtain ⟨A, hA⟩ : ∃ A : AH, A = α ++ [AO.lst (pre.map pStp)] := ⟨_, rfl⟩
      have hget : A[α.length]? = some (.lst (pre.map pStp)) := by rw [hA]; simp
      rw [← hA]
      obtain ⟨W, hW⟩ : ∃ W : PV, W = .fl [.str (Str.ofString ""), .str s.1.1, .str s.1.2, .str (numS s.2)] := ⟨_, rfl⟩
      have i1 : ixP W (.int 1) A = .ok (.str s.1.1) A := by rw [hW]; exact ix_fl (i := 1) rfl
      have i2 : ixP W (.int 2) A = .ok (.str s.1.2) A := by rw [hW]; exact ix_fl (i := 2) rfl
      have i3 : ixP W (.int 3) A = .ok (.str (numS s.2)) A := by rw [hW]; exact ix_fl (i := 3) rfl
      have hln : b1 .len (.str (numS s.2)) A = .ok (.int (numS s.2).length) A := by
        show need _ _ = _
        rw [line_le (by omega)]; rfl
      simp only [go_bind, go_Tvar, go_Scons, go_Sasg, go_mth, go_str, go_Econs, go_Enil, go_var, List.set_cons_succ, List.set_cons_zero, List.getElem?_cons_zero, List.getElem?_cons_succ]
      refine ⟨rfl, ?_⟩
      rw [go_eq (split_ok (by decide +kernel) (by omega) A), step_split h hs]
      rw [show (PV.fl ([Str.ofString "", s.1.1, s.1.2, numS s.2].map PV.str)) = W from hW.symm]
      simp only [go_Tvar, go_Scons, go_Sif, go_or, go_cmp, go_b1, go_gcon, go_var, List.set_cons_succ, List.set_cons_zero, List.getElem?_cons_zero, List.getElem?_cons_succ]
      rw [go_eq (show b1 .len W A = .ok (.int 4) A by rw [hW]; rfl), go_eq (show cop .ne (.int 4) (.int 4) A = .ok (.bl false) A from rfl), go_truth]
      simp only [go_or, go_not, go_chain, go_int, go_b1, go_ix, go_var, List.getElem?_cons_zero, List.getElem?_cons_succ]
      rw [go_eq i3, go_eq hln, go_ltI, decide_eq_true (by omega : (0 : Int) < (numS s.2).length), go_truth]
      simp only [go_bind, go_int]
      rw [go_leI, decide_eq_true (by omega : ((numS s.2).length : Int) ≤ 2), go_truth, go_truth]
      simp only [Bool.not_true, go_not, go_b1, go_comp, go_Ival, go_ix, go_int, go_var, List.getElem?_cons_zero, List.getElem?_cons_succ]
      rw [go_eq i3, go_eq (show srcOf (.str (numS s.2)) A = .ok ⟨(numS s.2).cps.toList.map fun c => .str ⟨#[c]⟩, none⟩ A from rfl), lockN]
      rw [go_eq (comp_map (g := fun _ : Nat => PV.bl true) rfl fun c hc => ?hh)]
      case hh =>
        refine eq_of_go ?_
        unfold compStep
        simp only [go_bind, go_Tvar, go_Cnone, go_cmp, go_var, go_gstr, wipeP, List.set_cons_succ, List.set_cons_zero, List.getElem?_cons_zero, List.getElem?_cons_succ]
        rw [go_eq (show cop .isin (.str ⟨#[c]⟩) (.str (Str.ofString "0123456789")) A = .ok (.bl true) A from ?h2)]
        · exact ⟨rfl, rfl⟩
        case h2 =>
          show Res.ok (PV.bl (!(Builtin.Str.occurrences (Str.ofString "0123456789") ⟨#[c]⟩ 0 (Str.ofString "0123456789").length 1).isEmpty)) A = _
          rw [digit_in c (hnm.2 c hc)]; rfl
      rw [List.length_map]
      refine ⟨line_le (by have : (numS s.2).length = (numS s.2).cps.toList.length := rfl; omega), ?_⟩
      rw [go_doneN, show ((numS s.2).cps.toList.map fun _ => PV.bl true) = ((numS s.2).cps.toList.map fun _ => true).map PV.bl by simp, go_eq all_fl, show ((numS s.2).cps.toList.map fun _ => true).all id = true by simp, go_truth, go_truth]
      obtain ⟨q1, q2⟩ := appL (x := pStp s) hget (small (by rw [List.length_map]; omega))
      simp only [Bool.not_true, go_Snil, go_Scons, go_Sexpr, go_mth, go_tup, go_b1, go_ix, go_int, go_Econs, go_Enil, go_var, List.getElem?_cons_zero, List.getElem?_cons_succ]
      refine ⟨q1, ?_⟩
      rw [go_eq i1]
      simp only [go_b1, go_ix, go_int, go_Econs, go_Enil, go_var, List.getElem?_cons_zero, List.getElem?_cons_succ]
      rw [go_eq i2]
      simp only [go_b1, go_ix, go_int, go_Econs, go_Enil, go_var, List.getElem?_cons_zero, List.getElem?_cons_succ]
      rw [go_eq i3, go_eq (show b1 .int (.str (numS s.2)) A = .ok (.int s.2) A by
        show (match PySem.intText? (numS s.2) with
          | some n => need (decide ((numS s.2).length ≤ 640)) (Res.ok (PV.int n) A)
          | none => .bad) = _
        rw [num_reads (h.small s hs)]
        show need _ _ = _
        rw [decide_eq_true (by omega : (numS s.2).length ≤ 640)]; rfl)]
      refine ⟨l3, ?_⟩
      rw [show PV.tup [PV.str s.1.1, PV.str s.1.2, PV.int s.2] = pStp s from rfl, q2, go_ok]
      rw [gcL_id (by rw [hA]; simp)]
      exact ⟨pre ++ [s], suf, _, _, _, by rw [e1]; simp, rfl, rfl, by rw [hA]; simp⟩
  · rintro ρ a ⟨pre, suf, y2, y6, y7, e1, e2, rfl, rfl⟩
    have : suf = [] := by
      cases suf with
      | nil => rfl
      | cons i suf => cases e2
    subst this
    rw [List.append_nil] at e1
    subst e1
    refine ⟨rfl, ?_⟩
    rw [go_doneN]
    subst hT1
    simp only [go_Scons, go_Sret, go_b1, go_var, List.getElem?_cons_zero, List.getElem?_cons_succ]
    rw [tupL (xs := st.map pStp) (by simp), go_ok]
    simp only [f_read_state]
    rw [show PV.tup (st.map pStp) = pSt st from rfl, gcV_new (fun _ => by simp [pSt]) (clo_st _ _)]
    exact ⟨rfl, rfl⟩
end Core
end
section
set_option Elab.async false
set_option linter.all false
set_option maxRecDepth 100000
namespace K08
open PySem PySem.Spec PyProof.Rows L2 Mw
def topS (i : Nat) : Stmt := PySem.Challenge.pw_mustwait_k08_texts_of_kinds.main.body.getD i (.Pass ⟨0, 0, 0, 0⟩)
def b_legal_events : Ss := (.cons (.ret (.b1 .tuple (.comp (.tup (.cons (.var 1) (.cons (.var 2) (.cons (.var 3) .nil)))) [1, 2, 3] (.val (.var 0)) .none (.tup (.cons (.var 1) (.cons (.var 2) .nil))))))
  .nil)
def f_legal_events : FD := ⟨"legal_events", "legal_events", ["state", "operation", "answer", "then"], 1, b_legal_events, false, true, none⟩
def b_numbered : Ss := (.cons (.asg (.var 1) (.join (.dct .nil)))
  (.cons (.loop (.tup (.cons (.var 2) (.cons (.var 3) .nil))) (.enum (.var 0)) (.cons (.expr (.mth .setdefault (.var 1) (.cons (.var 3) (.cons (.var 2) .nil))))
  .nil))
  (.cons (.ret (.b1 .tuple (.comp (.var 3) [3] (.val (.var 0)) .none (.ix (.var 1) (.var 3)))))
  .nil)))
def f_numbered : FD := ⟨"numbered", "numbered", ["values", "found", "index", "value"], 1, b_numbered, false, true, none⟩
def b_alike_classes : Ss := (.cons (.asg (.var 1) (.call 1 (.cons (.comp (.var 4) [4] (.val (.var 0)) .none (.call 0 (.cons (.var 4) .nil))) .nil)))
  (.cons (.whl (.bl true) (.cons (.asg (.var 2) (.join (.lst .nil)))
  (.cons (.loop (.tup (.cons (.var 4) (.cons (.var 5) .nil))) (.zip (.var 0) (.var 1)) (.cons (.expr (.mth .append (.var 2) (.cons (.tup (.cons (.var 5) (.cons (.b1 .tuple (.comp (.tup (.cons (.var 6) (.cons (.var 7) (.cons (.var 8) .nil)))) [6, 7, 8] (.val (.var 4)) .none (.ix (.var 1) (.var 8)))) .nil))) .nil)))
  .nil))
  (.cons (.asg (.var 3) (.call 1 (.cons (.var 2) .nil)))
  (.cons (.ife (.cmp .eq (.var 3) (.var 1)) (.cons (.ret (.var 1))
  .nil) .nil)
  (.cons (.asg (.var 1) (.var 3))
  .nil))))))
  .nil))
def f_alike_classes : FD := ⟨"alike_classes", "alike_classes", ["states", "classes", "views", "finer", "state", "own", "operation", "answer", "then"], 1, b_alike_classes, false, true, none⟩
def b_is_word : Ss := (.cons (.ife (.or (.not (.isT (.var 0) "str")) (.not (.chain .lt .le (.int 0) (.b1 .len (.var 0)) (.gcon "MOST_CHARACTERS" 12)))) (.cons (.ret (.bl false))
  .nil) .nil)
  (.cons (.ret (.b1 .all (.comp (.var 1) [1] (.val (.var 0)) .none (.cmp .isin (.var 1) (.gstr "CHARACTERS" "abcdefghijklmnopqrstuvwxyz0123456789")))))
  .nil))
def f_is_word : FD := ⟨"is_word", "is_word", ["thing", "character"], 1, b_is_word, false, true, none⟩
def b_is_integer : Ss := (.cons (.ret (.and (.isT (.var 0) "int") (.not (.isT (.var 0) "bool"))))
  .nil)
def f_is_integer : FD := ⟨"is_integer", "is_integer", ["thing"], 1, b_is_integer, false, true, none⟩
def b_is_state : Ss := (.cons (.ife (.not (.isT (.var 0) "tuple")) (.cons (.ret (.bl false))
  .nil) .nil)
  (.cons (.loop (.var 2) (.val (.var 0)) (.cons (.ife (.or (.not (.isT (.var 2) "tuple")) (.or (.cmp .ne (.b1 .len (.var 2)) (.int 3)) (.or (.not (.call 3 (.cons (.ix (.var 2) (.int 0)) .nil))) (.not (.call 3 (.cons (.ix (.var 2) (.int 1)) .nil)))))) (.cons (.ret (.bl false))
  .nil) .nil)
  (.cons (.ife (.or (.not (.call 4 (.cons (.ix (.var 2) (.int 2)) .nil))) (.not (.chain .le .lt (.int 0) (.ix (.var 2) (.int 2)) (.var 1)))) (.cons (.ret (.bl false))
  .nil) .nil)
  .nil)))
  (.cons (.asg (.var 3) (.call 0 (.cons (.var 0) .nil)))
  (.cons (.ret (.b1 .all (.comp (.tup (.cons (.var 4) (.cons (.var 5) .nil))) [4, 5] (.zip (.var 3) (.sl (.var 3) (.some (.int 1)) .none)) .none (.cmp .lt (.var 4) (.var 5)))))
  .nil))))
def f_is_state : FD := ⟨"is_state", "is_state", ["thing", "many", "part", "events", "one", "other"], 2, b_is_state, false, true, none⟩
def b_are_states : Ss := (.cons (.ife (.or (.not (.chain .lt .le (.int 0) (.b1 .len (.var 0)) (.gcon "MOST_STATES" 40))) (.not (.b1 .all (.comp (.var 1) [1] (.val (.var 0)) .none (.call 5 (.cons (.var 1) (.cons (.b1 .len (.var 0)) .nil))))))) (.cons (.ret (.bl false))
  .nil) .nil)
  (.cons (.ret (.cmp .le (.b1 .len (.scomp2 (.var 1) [1, 2] (.val (.var 0)) (.var 2) [2] (.val (.call 0 (.cons (.var 1) .nil))) (.var 2))) (.gcon "MOST_EVENTS" 24)))
  .nil))
def f_are_states : FD := ⟨"are_states", "are_states", ["states", "state", "event"], 1, b_are_states, false, true, none⟩
def g_Kind_init : List E := [(.not (.call 6 (.cons (.var 1) .nil)))]
def e_Kind_init : List (Str × E) := [("states", (.var 1)), ("moves", (.b1 .tuple (.comp (.var 2) [2] (.val (.var 1)) .none (.dcomp (.var 3) [3] (.val (.var 2)) .none (.tup (.cons (.ix (.var 3) (.int 0)) (.cons (.ix (.var 3) (.int 1)) .nil))) (.ix (.var 3) (.int 2)))))), ("firsts", (.call 2 (.cons (.var 1) .nil)))]
def f_Kind_init : FD := ⟨"__init__", "Kind.__init__", ["self", "states", "state", "part"], 1, .nil, true, true, some (0, g_Kind_init, e_Kind_init)⟩
def b_Kind_of : Ss := (.cons (.ife (.not (.isT (.var 1) "tuple")) (.cons .dead
  .nil) .nil)
  (.cons (.ret (.mkV 0 7 0 (.var 1)))
  .nil))
def f_Kind_of : FD := ⟨"of", "Kind.of", ["cls", "states"], 2, b_Kind_of, false, true, none⟩
def b_law : Ss := (.cons (.asg (.var 1) (.call 15 (.cons (.var 0) .nil)))
  (.cons (.loop (.var 2) (.range1 (.int 5)) (.cons (.par [4, 5] (.cons (.call 14 (.cons (.var 1) (.cons (.ife (.cmp .eq (.var 2) (.int 0)) (.int 40) (.int 12)) .nil))) (.cons (.call 14 (.cons (.var 1) (.cons (.int 12) .nil))) .nil)))
  (.cons (.par [6, 7] (.cons (.cmeth 0 8 "of" (.cons (.var 4) .nil)) (.cons (.call 13 (.cons (.var 4) .nil)) .nil)))
  (.cons (.ife (.cmp .ne (.b1 .repr (.lst (.cons (.prop 0 10 "text" (.var 6)) (.cons (.prop 0 10 "text" (.var 6)) .nil)))) (.b1 .repr (.lst (.cons (.var 7) (.cons (.var 7) .nil))))) (.cons (.ret (.bl false))
  .nil) .nil)
  (.cons (.loop (.var 3) (.val (.tup (.cons (.cmeth 0 11 "read" (.cons (.var 7) .nil)) (.cons (.cmethK 0 11 "read" 0 ["text"] [0] .nil (.cons (.var 7) .nil)) .nil)))) (.cons (.ife (.or (.not (.isC (.var 3) 0)) (.or (.cmp .ne (.b1 .repr (.fld 0 (.var 3) "states")) (.b1 .repr (.var 4))) (.oeq true 0 12 (.var 3) (.var 6)))) (.cons (.ret (.bl false))
  .nil) .nil)
  .nil))
  (.cons (.ife (.cmp .ne (.cmp .eq (.prop 0 10 "text" (.cmeth 0 8 "of" (.cons (.var 5) .nil))) (.var 7)) (.cmp .eq (.var 5) (.var 4))) (.cons (.ret (.bl false))
  .nil) .nil)
  .nil))))))
  (.cons (.ret (.bl true))
  .nil)))
def f_law : FD := ⟨"law", "law", ["_law_script", "_law_feed_here", "_law_turn", "_law_again", "_law_states", "_law_others", "_law_made", "_law_due"], 1, b_law, false, true, none⟩
def b_Kind_text : Ss := (.cons (.ret (.mth .join (.str "\n") (.cons (.comp (.tup (.cons (.var 1) (.cons (.var 2) .nil))) [1, 2] (.enum (.fld 0 (.var 0) "states")) .none (.call 16 (.cons (.var 1) (.cons (.var 2) .nil)))) .nil)))
  .nil)
def f_Kind_text : FD := ⟨"text", "Kind.text", ["self", "number", "state"], 1, b_Kind_text, false, true, none⟩
def b_Kind_read : Ss := (.cons (.ife (.not (.isT (.var 1) "str")) (.cons .dead
  .nil) .nil)
  (.cons (.asg (.var 2) (.b1 .tuple (.comp (.var 4) [4] (.val (.mth .split (.var 1) (.cons (.str "\n") .nil))) .none (.call 17 (.cons (.var 4) .nil)))))
  (.cons (.ife (.not (.call 6 (.cons (.var 2) .nil))) (.cons .dead
  .nil) .nil)
  (.cons (.asg (.var 3) (.mkV 0 7 0 (.var 2)))
  (.cons (.ife (.cmp .ne (.prop 0 10 "text" (.var 3)) (.var 1)) (.cons .dead
  .nil) .nil)
  (.cons (.ret (.var 3))
  .nil))))))
def f_Kind_read : FD := ⟨"read", "Kind.read", ["cls", "text", "states", "kind", "line"], 2, b_Kind_read, false, true, none⟩
def b_Kind_eq : Ss := (.cons (.ret (.and (.isC (.var 1) 0) (.cmp .eq (.fld 0 (.var 0) "states") (.fld 0 (.var 1) "states"))))
  .nil)
def f_Kind_eq : FD := ⟨"__eq__", "Kind.__eq__", ["self", "other"], 2, b_Kind_eq, false, true, none⟩
def b_law_written : Ss := (.cons (.asg (.var 1) (.join (.lst .nil)))
  (.cons (.loop (.tup (.cons (.var 2) (.cons (.var 3) .nil))) (.enum (.var 0)) (.cons (.asg (.var 4) (.bin .add (.b1 .str (.var 2)) (.str ":")))
  (.cons (.loop (.tup (.cons (.var 5) (.cons (.var 6) .nil))) (.enum (.var 3)) (.cons (.asg (.var 4) (.bin .add (.bin .add (.bin .add (.bin .add (.bin .add (.bin .add (.bin .add (.var 4) (.ix (.lst (.cons (.str "") (.cons (.str ",") .nil))) (.b1 .int (.cmp .gt (.var 5) (.int 0))))) (.str " ")) (.ix (.var 6) (.int 0))) (.str " ")) (.ix (.var 6) (.int 1))) (.str " ")) (.b1 .str (.ix (.var 6) (.int 2)))))
  .nil))
  (.cons (.expr (.mth .append (.var 1) (.cons (.var 4) .nil)))
  .nil))))
  (.cons (.ret (.mth .join (.str "\n") (.cons (.var 1) .nil)))
  .nil)))
def f_law_written : FD := ⟨"_law_written", "_law_written", ["_law_states", "_law_lines", "_law_at", "_law_state", "_law_line", "_law_k", "_law_step"], 1, b_law_written, false, true, none⟩
def b_law_drawn : Ss := (.cons (.par [3, 4] (.cons (.join (.lst .nil)) (.cons (.join (.dct .nil)) .nil)))
  (.cons (.loop (.var 2) (.range1 (.call 19 (.cons (.var 0) (.cons (.lst (.cons (.int 0) (.cons (.int 1) (.cons (.int 2) (.cons (.int 4) (.cons (.int 9) (.cons (.int 30) .nil))))))) .nil)))) (.cons (.asg (.sub (.var 4) (.tup (.cons (.call 20 (.cons (.var 0) .nil)) (.cons (.call 20 (.cons (.var 0) .nil)) .nil)))) (.bl true))
  .nil))
  (.cons (.asg (.tup (.cons (.var 5) (.cons (.var 6) .nil))) (.tup (.cons (.sl (.b1 .sorted (.var 4)) .none (.some (.int 24))) (.cons (.b2 .min (.call 19 (.cons (.var 0) (.cons (.lst (.cons (.int 1) (.cons (.int 2) (.cons (.int 3) (.cons (.int 5) (.cons (.int 12) (.cons (.int 40) .nil))))))) .nil))) (.var 1)) .nil))))
  (.cons (.loop (.var 2) (.range1 (.var 6)) (.cons (.asg (.var 7) (.comp (.var 8) [8] (.val (.var 5)) (.some (.cmp .gt (.call 18 (.cons (.var 0) (.cons (.int 3) .nil))) (.int 0))) (.bin .add (.var 8) (.tup (.cons (.call 18 (.cons (.var 0) (.cons (.var 6) .nil))) .nil)))))
  (.cons (.expr (.mth .append (.var 3) (.cons (.b1 .tuple (.var 7)) .nil)))
  .nil)))
  (.cons (.ret (.b1 .tuple (.var 3)))
  .nil)))))
def f_law_drawn : FD := ⟨"_law_drawn", "_law_drawn", ["_law_feed_here", "_law_most", "_law_k", "_law_found", "_law_menu", "_law_some", "_law_size", "_law_state", "_law_pair"], 2, b_law_drawn, false, true, none⟩
def b_law_feed : Ss := (.cons (.par [2, 3] (.cons (.b1 .list (.sl (.var 0) .none (.some (.int 62)))) (.cons (.int 40008) .nil)))
  (.cons (.loop (.var 1) (.val (.var 2)) (.cons (.asg (.var 3) (.bin .mod (.bin .add (.bin .add (.bin .mul (.var 3) (.int 40692)) (.bin .mod (.var 1) (.int 2147483549))) (.int 811)) (.int 2147483629)))
  .nil))
  (.cons (.ret (.join (.lst (.cons (.join (.rev (.var 2))) (.cons (.var 3) (.cons (.int 0) .nil))))))
  .nil)))
def f_law_feed : FD := ⟨"_law_feed", "_law_feed", ["_law_script", "_law_figure", "_law_cells", "_law_whole"], 1, b_law_feed, false, false, none⟩
def b_state_text : Ss := (.cons (.ret (.bin .add (.fstr (.cons (.fmt (.var 0)) (.cons (.str ":") .nil))) (.mth .join (.str ",") (.cons (.comp (.tup (.cons (.var 2) (.cons (.var 3) (.cons (.var 4) .nil)))) [2, 3, 4] (.val (.var 1)) .none (.fstr (.cons (.str " ") (.cons (.fmt (.var 2)) (.cons (.str " ") (.cons (.fmt (.var 3)) (.cons (.str " ") (.cons (.fmt (.var 4)) .nil)))))))) .nil))))
  .nil)
def f_state_text : FD := ⟨"state_text", "state_text", ["number", "state", "operation", "answer", "then"], 2, b_state_text, false, true, none⟩
def b_read_state : Ss := (.cons (.asg (.tup (.cons (.var 3) (.cons (.var 4) (.cons (.var 5) .nil)))) (.mth .partition (.var 0) (.cons (.str ":") .nil)))
  (.cons (.asg (.var 1) (.join (.lst .nil)))
  (.cons (.loop (.var 2) (.val (.ife (.cmp .ne (.var 5) (.str "")) (.mth .split (.var 5) (.cons (.str ",") .nil)) (.lst .nil))) (.cons (.asg (.var 6) (.mth .split (.var 2) (.cons (.str " ") .nil)))
  (.cons (.ife (.or (.cmp .ne (.b1 .len (.var 6)) (.gcon "PARTS" 4)) (.or (.not (.chain .lt .le (.int 0) (.b1 .len (.ix (.var 6) (.int 3))) (.int 2))) (.not (.b1 .all (.comp (.var 7) [7] (.val (.ix (.var 6) (.int 3))) .none (.cmp .isin (.var 7) (.gstr "DIGITS" "0123456789"))))))) (.cons .dead
  .nil) .nil)
  (.cons (.expr (.mth .append (.var 1) (.cons (.tup (.cons (.ix (.var 6) (.int 1)) (.cons (.ix (.var 6) (.int 2)) (.cons (.b1 .int (.ix (.var 6) (.int 3))) .nil)))) .nil)))
  .nil))))
  (.cons (.ret (.b1 .tuple (.var 1)))
  .nil))))
def f_read_state : FD := ⟨"read_state", "read_state", ["line", "found", "piece", "head", "colon", "rest", "parts", "digit"], 1, b_read_state, false, true, none⟩
def b_law_digit : Ss := (.cons (.asg (.sub (.var 0) (.int 2)) (.bin .add (.ix (.var 0) (.int 2)) (.int 1)))
  (.cons (.asg (.var 2) (.bin .add (.ix (.var 0) (.int 1)) (.bin .mul (.bin .mul (.int 61843) (.ix (.var 0) (.int 2))) (.ix (.var 0) (.int 2)))))
  (.cons (.ife (.cmp .ne (.ix (.var 0) (.int 0)) (.lst .nil)) (.cons (.asg (.var 3) (.mth .pop (.ix (.var 0) (.int 0)) .nil))
  (.cons (.ife (.cmp .ge (.var 3) (.bin .pow (.int 10) (.int 18))) (.cons (.expr (.mth .append (.ix (.var 0) (.int 0)) (.cons (.bin .fdiv (.var 3) (.var 1)) .nil)))
  (.cons (.ret (.bin .mod (.var 3) (.var 1)))
  .nil)) .nil)
  (.cons (.asg (.var 2) (.bin .add (.var 2) (.var 3)))
  .nil))) .nil)
  (.cons (.asg (.var 2) (.bin .mod (.bin .mul (.bin .mod (.var 2) (.int 2147483563)) (.int 48271)) (.int 2147483647)))
  (.cons (.asg (.var 2) (.bin .mod (.bin .add (.bin .add (.bin .mul (.var 2) (.var 2)) (.bin .mul (.int 39373) (.var 2))) (.int 811)) (.int 2147483587)))
  (.cons (.ret (.bin .mod (.bin .fdiv (.bin .mod (.bin .mul (.var 2) (.int 16807)) (.int 2147483579)) (.int 64)) (.var 1)))
  .nil))))))
def f_law_digit : FD := ⟨"_law_digit", "_law_digit", ["_law_feed_here", "_law_many", "_law_mix", "_law_figure"], 2, b_law_digit, false, true, none⟩
def b_law_pick : Ss := (.cons (.ret (.ix (.var 1) (.call 18 (.cons (.var 0) (.cons (.b1 .len (.var 1)) .nil)))))
  .nil)
def f_law_pick : FD := ⟨"_law_pick", "_law_pick", ["_law_feed_here", "_law_some"], 2, b_law_pick, false, true, none⟩
def b_law_word : Ss := (.cons (.asg (.var 1) (.str "abcdefghijklmnopqrstuvwxyz0123456789"))
  (.cons (.ret (.mth .join (.str "") (.cons (.comp (.var 2) [2] (.range1 (.bin .add (.int 1) (.call 19 (.cons (.var 0) (.cons (.lst (.cons (.int 0) (.cons (.int 0) (.cons (.int 1) (.cons (.int 2) (.cons (.int 5) (.cons (.int 11) .nil))))))) .nil))))) .none (.call 19 (.cons (.var 0) (.cons (.var 1) .nil)))) .nil)))
  .nil))
def f_law_word : FD := ⟨"_law_word", "_law_word", ["_law_feed_here", "_law_letters", "_law_k"], 1, b_law_word, false, true, none⟩
def fs : List FD := [f_legal_events, f_numbered, f_alike_classes, f_is_word, f_is_integer, f_is_state, f_are_states, f_Kind_init, f_Kind_of, f_law, f_Kind_text, f_Kind_read, f_Kind_eq, f_law_written, f_law_drawn, f_law_feed, f_state_text, f_read_state, f_law_digit, f_law_pick, f_law_word]
def tab : Tab := ⟨fs, [("legal_events", 0), ("numbered", 1), ("alike_classes", 2), ("is_word", 3), ("is_integer", 4), ("is_state", 5), ("are_states", 6), ("law", 9), ("_law_written", 13), ("_law_drawn", 14), ("_law_feed", 15), ("state_text", 16), ("read_state", 17), ("_law_digit", 18), ("_law_pick", 19), ("_law_word", 20)], [(11, 1, ["text"], [0])], [("MOST_CHARACTERS", 12), ("MOST_EVENTS", 24), ("MOST_STATES", 40), ("PARTS", 4)], [("CHARACTERS", "abcdefghijklmnopqrstuvwxyz0123456789"), ("DIGITS", "0123456789")], [⟨"Kind", 7, ["states", "moves", "firsts"], [("text", 10)], [], [("of", 8), ("read", 11)], some 12⟩]⟩
theorem ok_legal_events : DefOk tab f_legal_events (topS 6) := ⟨⟨rfl, rfl, rfl, by decide +kernel, rfl, by decide +kernel, by decide +kernel⟩, by decide, by decide, by decide +kernel⟩
theorem ok_numbered : DefOk tab f_numbered (topS 7) := ⟨⟨rfl, rfl, rfl, by decide +kernel, rfl, by decide +kernel, by decide +kernel⟩, by decide, by decide, by decide +kernel⟩
theorem ok_alike_classes : DefOk tab f_alike_classes (topS 8) := ⟨⟨rfl, rfl, rfl, by decide +kernel, rfl, by decide +kernel, by decide +kernel⟩, by decide, by decide, by decide +kernel⟩
theorem ok_is_word : DefOk tab f_is_word (topS 16) := ⟨⟨rfl, rfl, rfl, by decide +kernel, rfl, by decide +kernel, by decide +kernel⟩, by decide, by decide, by decide +kernel⟩
theorem ok_is_integer : DefOk tab f_is_integer (topS 17) := ⟨⟨rfl, rfl, rfl, by decide +kernel, rfl, by decide +kernel, by decide +kernel⟩, by decide, by decide, by decide +kernel⟩
theorem ok_is_state : DefOk tab f_is_state (topS 18) := ⟨⟨rfl, rfl, rfl, by decide +kernel, rfl, by decide +kernel, by decide +kernel⟩, by decide, by decide, by decide +kernel⟩
theorem ok_are_states : DefOk tab f_are_states (topS 19) := ⟨⟨rfl, rfl, rfl, by decide +kernel, rfl, by decide +kernel, by decide +kernel⟩, by decide, by decide, by decide +kernel⟩
theorem ok_Kind_init : DefOk tab f_Kind_init (inClass (topS 22) 0) := ⟨⟨rfl, rfl, rfl, by decide +kernel, rfl, by decide +kernel, by decide +kernel⟩, by decide, by decide, by decide +kernel⟩
theorem ok_Kind_of : DefOk tab f_Kind_of (inClass (topS 22) 1) := ⟨⟨rfl, rfl, rfl, by decide +kernel, rfl, by decide +kernel, by decide +kernel⟩, by decide, by decide, by decide +kernel⟩
theorem ok_law : DefOk tab f_law (topS 30) := ⟨⟨rfl, rfl, rfl, by decide +kernel, rfl, by decide +kernel, by decide +kernel⟩, by decide, by decide, by decide +kernel⟩
theorem ok_Kind_text : DefOk tab f_Kind_text (inClass (topS 22) 13) := ⟨⟨rfl, rfl, rfl, by decide +kernel, rfl, by decide +kernel, by decide +kernel⟩, by decide, by decide, by decide +kernel⟩
theorem ok_Kind_read : DefOk tab f_Kind_read (inClass (topS 22) 14) := ⟨⟨rfl, rfl, rfl, by decide +kernel, rfl, by decide +kernel, by decide +kernel⟩, by decide, by decide, by decide +kernel⟩
theorem ok_Kind_eq : DefOk tab f_Kind_eq (inClass (topS 22) 2) := ⟨⟨rfl, rfl, rfl, by decide +kernel, rfl, by decide +kernel, by decide +kernel⟩, by decide, by decide, by decide +kernel⟩
theorem ok_law_written : DefOk tab f_law_written (topS 29) := ⟨⟨rfl, rfl, rfl, by decide +kernel, rfl, by decide +kernel, by decide +kernel⟩, by decide, by decide, by decide +kernel⟩
theorem ok_law_drawn : DefOk tab f_law_drawn (topS 28) := ⟨⟨rfl, rfl, rfl, by decide +kernel, rfl, by decide +kernel, by decide +kernel⟩, by decide, by decide, by decide +kernel⟩
theorem ok_law_feed : DefOk tab f_law_feed (topS 24) := ⟨⟨rfl, rfl, rfl, by decide +kernel, rfl, by decide +kernel, by decide +kernel⟩, by decide, by decide, by decide +kernel⟩
theorem ok_state_text : DefOk tab f_state_text (topS 20) := ⟨⟨rfl, rfl, rfl, by decide +kernel, rfl, by decide +kernel, by decide +kernel⟩, by decide, by decide, by decide +kernel⟩
theorem ok_read_state : DefOk tab f_read_state (topS 21) := ⟨⟨rfl, rfl, rfl, by decide +kernel, rfl, by decide +kernel, by decide +kernel⟩, by decide, by decide, by decide +kernel⟩
theorem ok_law_digit : DefOk tab f_law_digit (topS 25) := ⟨⟨rfl, rfl, rfl, by decide +kernel, rfl, by decide +kernel, by decide +kernel⟩, by decide, by decide, by decide +kernel⟩
theorem ok_law_pick : DefOk tab f_law_pick (topS 26) := ⟨⟨rfl, rfl, rfl, by decide +kernel, rfl, by decide +kernel, by decide +kernel⟩, by decide, by decide, by decide +kernel⟩
theorem ok_law_word : DefOk tab f_law_word (topS 27) := ⟨⟨rfl, rfl, rfl, by decide +kernel, rfl, by decide +kernel, by decide +kernel⟩, by decide, by decide, by decide +kernel⟩
open PySem.W in
theorem all_mk {l : OpenLaw} {w : World} {K : Frag} {h : Heap} {mg : Str → Option Value} {fa : Addr} (kin : K.In h) (gns : h.Ns mainGlobals mg) (hfa : mg "law" = some (.ref fa))
    {f0 f1 f2 f3 f4 f5 f6 f7 f8 f9 f10 f11 f12 f13 f14 f15 f16 f17 f18 f19 f20 C0 P8 P10 P11 : Addr} {od0 an0 od1 an1 od2 an2 od3 an3 od4 an4 od5 an5 od6 an6 od7 an7 od8 an8 od9 an9 od10 an10 od11 an11 od12 an12 od13 an13 od14 an14 od15 an15 od16 an16 od17 an17 od18 an18 od19 an19 od20 an20 : Option Addr} {sl0 sl1 sl2 sl3 sl4 sl5 sl6 sl7 sl8 sl9 sl10 sl11 sl12 sl13 sl14 sl15 sl16 sl17 sl18 sl19 sl20 : Array (Option Value)}
    {oc0 kV0 dc0 pm0 cd0 ct0 oc1 kV1 dc1 pm1 cd1 ct1 oc2 kV2 dc2 pm2 cd2 ct2 oc3 kV3 dc3 pm3 cd3 ct3 oc4 kV4 dc4 pm4 cd4 ct4 oc5 kV5 dc5 pm5 cd5 ct5 oc6 kV6 dc6 pm6 cd6 ct6 oc7 kV7 dc7 pm7 cd7 ct7 oc8 kV8 dc8 pm8 cd8 ct8 oc9 kV9 dc9 pm9 cd9 ct9 oc10 kV10 dc10 pm10 cd10 ct10 oc11 kV11 dc11 pm11 cd11 ct11 oc12 kV12 dc12 pm12 cd12 ct12 oc13 kV13 dc13 pm13 cd13 ct13 oc14 kV14 dc14 pm14 cd14 ct14 oc15 kV15 dc15 pm15 cd15 ct15 oc16 kV16 dc16 pm16 cd16 ct16 oc17 kV17 dc17 pm17 cd17 ct17 oc18 kV18 dc18 pm18 cd18 ct18 oc19 kV19 dc19 pm19 cd19 ct19 oc20 kV20 dc20 pm20 cd20 ct20 : Value} {rs8 rs10 rs11 : List Value}
    {ti0 ti1 ti2 ti3 ts0 ts1 : Tok}
    (aC0 : nsIn K mainGlobals "Kind" = some (some (.ref C0)))
    (pg0 : plainGet K C0 Str.empty = true)
    (hd0 : hasDictIn K C0 = true)
    (po0 : plainOver K C0 = true)
    (sa0 : findIn K (.ref C0) "__setattr__" = some (some (.builtin "object.__setattr__")))
    (mk0 : makesIn K C0 = true)
    (kc0 : keepIn K (.ref C0) = true)
    (nf0_0 : findIn K (.ref C0) "states" = some none)
    (nf0_1 : findIn K (.ref C0) "moves" = some none)
    (nf0_2 : findIn K (.ref C0) "firsts" = some none)
    (ha0 : findIn K (.ref C0) "__class__" = some (some (.builtin "object.__class__")))
    (hn0 : specialIn K (.builtin "object.__class__") "__get__" = some (some (.builtin "getset_descriptor.__get__")))
    (ht0 : takesIn K (.builtin "object.__class__") = some true)
    (hm0 : mroIn K C0 (.type "object") = some true)
    (ow0 : kitOne K (.ref C0) (.ref C0) = some true)
    (tb0_str : kitOne K (.ref C0) (.type "str") = some false)
    (tb0_int : kitOne K (.ref C0) (.type "int") = some false)
    (tb0_bool : kitOne K (.ref C0) (.type "bool") = some false)
    (tb0_tuple : kitOne K (.ref C0) (.type "tuple") = some false)
    (tb0_list : kitOne K (.ref C0) (.type "list") = some false)
    (tb0_dict : kitOne K (.ref C0) (.type "dict") = some false)
    (tn0_NoneType : kitOne K (.type "NoneType") (.ref C0) = some false)
    (tn0_bool : kitOne K (.type "bool") (.ref C0) = some false)
    (tn0_int : kitOne K (.type "int") (.ref C0) = some false)
    (tn0_str : kitOne K (.type "str") (.ref C0) = some false)
    (tn0_tuple : kitOne K (.type "tuple") (.ref C0) = some false)
    (tn0_list : kitOne K (.type "list") (.ref C0) = some false)
    (rd0 : readsIn K C0 (.type "type") = true)
    (ga0 : specialIn K (.ref C0) "__getattribute__" = some (some (.builtin "type.__getattribute__")))
    (ne0 : findIn K (.ref C0) "__ne__" = some (some (.builtin "object.__ne__")))
    (a0 : nsIn K mainGlobals "legal_events" = some (some (.ref f0)))
    (l0 : K.lookup f0 = some ⟨oc0, od0, .func (fnOf "legal_events" "legal_events" (defArgs ((topS 6))) (defBody ((topS 6))) (defScope ((topS 6))) .none kV0 dc0 pm0 an0 cd0 ct0), sl0⟩)
    (c0 : codeIn K cd0 "legal_events" = true)
    (k0 : keepIn K (.ref f0) = true)
    (a1 : nsIn K mainGlobals "numbered" = some (some (.ref f1)))
    (l1 : K.lookup f1 = some ⟨oc1, od1, .func (fnOf "numbered" "numbered" (defArgs ((topS 7))) (defBody ((topS 7))) (defScope ((topS 7))) .none kV1 dc1 pm1 an1 cd1 ct1), sl1⟩)
    (c1 : codeIn K cd1 "numbered" = true)
    (k1 : keepIn K (.ref f1) = true)
    (a2 : nsIn K mainGlobals "alike_classes" = some (some (.ref f2)))
    (l2 : K.lookup f2 = some ⟨oc2, od2, .func (fnOf "alike_classes" "alike_classes" (defArgs ((topS 8))) (defBody ((topS 8))) (defScope ((topS 8))) .none kV2 dc2 pm2 an2 cd2 ct2), sl2⟩)
    (c2 : codeIn K cd2 "alike_classes" = true)
    (k2 : keepIn K (.ref f2) = true)
    (a3 : nsIn K mainGlobals "is_word" = some (some (.ref f3)))
    (l3 : K.lookup f3 = some ⟨oc3, od3, .func (fnOf "is_word" "is_word" (defArgs ((topS 16))) (defBody ((topS 16))) (defScope ((topS 16))) .none kV3 dc3 pm3 an3 cd3 ct3), sl3⟩)
    (c3 : codeIn K cd3 "is_word" = true)
    (k3 : keepIn K (.ref f3) = true)
    (a4 : nsIn K mainGlobals "is_integer" = some (some (.ref f4)))
    (l4 : K.lookup f4 = some ⟨oc4, od4, .func (fnOf "is_integer" "is_integer" (defArgs ((topS 17))) (defBody ((topS 17))) (defScope ((topS 17))) .none kV4 dc4 pm4 an4 cd4 ct4), sl4⟩)
    (c4 : codeIn K cd4 "is_integer" = true)
    (k4 : keepIn K (.ref f4) = true)
    (a5 : nsIn K mainGlobals "is_state" = some (some (.ref f5)))
    (l5 : K.lookup f5 = some ⟨oc5, od5, .func (fnOf "is_state" "is_state" (defArgs ((topS 18))) (defBody ((topS 18))) (defScope ((topS 18))) .none kV5 dc5 pm5 an5 cd5 ct5), sl5⟩)
    (c5 : codeIn K cd5 "is_state" = true)
    (k5 : keepIn K (.ref f5) = true)
    (a6 : nsIn K mainGlobals "are_states" = some (some (.ref f6)))
    (l6 : K.lookup f6 = some ⟨oc6, od6, .func (fnOf "are_states" "are_states" (defArgs ((topS 19))) (defBody ((topS 19))) (defScope ((topS 19))) .none kV6 dc6 pm6 an6 cd6 ct6), sl6⟩)
    (c6 : codeIn K cd6 "are_states" = true)
    (k6 : keepIn K (.ref f6) = true)
    (pa7 : findIn K (.ref C0) "__init__" = some (some (.ref f7)))
    (pe7 : isFn K (.ref f7) = true)
    (l7 : K.lookup f7 = some ⟨oc7, od7, .func (fnOf "__init__" "Kind.__init__" (defArgs ((inClass (topS 22) 0))) (defBody ((inClass (topS 22) 0))) (defScope ((inClass (topS 22) 0))) .none kV7 dc7 pm7 an7 cd7 ct7), sl7⟩)
    (c7 : codeIn K cd7 "Kind.__init__" = true)
    (k7 : keepIn K (.ref f7) = true)
    (pa8 : findCls K (.ref C0) (.type "type") "of" = some (.get (.builtin "classmethod.__get__") (.ref P8) .none (.ref C0)))
    (pd8 : recIn K P8 "classmethod" = some (.ref f8 :: rs8))
    (pe8 : fnIn K f8 = true)
    (l8 : K.lookup f8 = some ⟨oc8, od8, .func (fnOf "of" "Kind.of" (defArgs ((inClass (topS 22) 1))) (defBody ((inClass (topS 22) 1))) (defScope ((inClass (topS 22) 1))) .none kV8 dc8 pm8 an8 cd8 ct8), sl8⟩)
    (c8 : codeIn K cd8 "Kind.of" = true)
    (k8 : keepIn K (.ref f8) = true)
    (a9 : nsIn K mainGlobals "law" = some (some (.ref f9)))
    (l9 : K.lookup f9 = some ⟨oc9, od9, .func (fnOf "law" "law" (defArgs ((topS 30))) (defBody ((topS 30))) (defScope ((topS 30))) .none kV9 dc9 pm9 an9 cd9 ct9), sl9⟩)
    (c9 : codeIn K cd9 "law" = true)
    (k9 : keepIn K (.ref f9) = true)
    (pa10 : findIn K (.ref C0) "text" = some (some (.ref P10)))
    (pb10 : specialIn K (.ref P10) "__get__" = some (some (.builtin "property.__get__")))
    (pc10 : takesIn K (.ref P10) = some true)
    (pd10 : recIn K P10 "property" = some (.ref f10 :: rs10))
    (l10 : K.lookup f10 = some ⟨oc10, od10, .func (fnOf "text" "Kind.text" (defArgs ((inClass (topS 22) 13))) (defBody ((inClass (topS 22) 13))) (defScope ((inClass (topS 22) 13))) .none kV10 dc10 pm10 an10 cd10 ct10), sl10⟩)
    (c10 : codeIn K cd10 "Kind.text" = true)
    (k10 : keepIn K (.ref f10) = true)
    (pa11 : findCls K (.ref C0) (.type "type") "read" = some (.get (.builtin "classmethod.__get__") (.ref P11) .none (.ref C0)))
    (pd11 : recIn K P11 "classmethod" = some (.ref f11 :: rs11))
    (pe11 : fnIn K f11 = true)
    (l11 : K.lookup f11 = some ⟨oc11, od11, .func (fnOf "read" "Kind.read" (defArgs ((inClass (topS 22) 14))) (defBody ((inClass (topS 22) 14))) (defScope ((inClass (topS 22) 14))) .none kV11 dc11 pm11 an11 cd11 ct11), sl11⟩)
    (c11 : codeIn K cd11 "Kind.read" = true)
    (k11 : keepIn K (.ref f11) = true)
    (pa12 : findIn K (.ref C0) "__eq__" = some (some (.ref f12)))
    (pe12 : isFn K (.ref f12) = true)
    (l12 : K.lookup f12 = some ⟨oc12, od12, .func (fnOf "__eq__" "Kind.__eq__" (defArgs ((inClass (topS 22) 2))) (defBody ((inClass (topS 22) 2))) (defScope ((inClass (topS 22) 2))) .none kV12 dc12 pm12 an12 cd12 ct12), sl12⟩)
    (c12 : codeIn K cd12 "Kind.__eq__" = true)
    (k12 : keepIn K (.ref f12) = true)
    (a13 : nsIn K mainGlobals "_law_written" = some (some (.ref f13)))
    (l13 : K.lookup f13 = some ⟨oc13, od13, .func (fnOf "_law_written" "_law_written" (defArgs ((topS 29))) (defBody ((topS 29))) (defScope ((topS 29))) .none kV13 dc13 pm13 an13 cd13 ct13), sl13⟩)
    (c13 : codeIn K cd13 "_law_written" = true)
    (k13 : keepIn K (.ref f13) = true)
    (a14 : nsIn K mainGlobals "_law_drawn" = some (some (.ref f14)))
    (l14 : K.lookup f14 = some ⟨oc14, od14, .func (fnOf "_law_drawn" "_law_drawn" (defArgs ((topS 28))) (defBody ((topS 28))) (defScope ((topS 28))) .none kV14 dc14 pm14 an14 cd14 ct14), sl14⟩)
    (c14 : codeIn K cd14 "_law_drawn" = true)
    (k14 : keepIn K (.ref f14) = true)
    (a15 : nsIn K mainGlobals "_law_feed" = some (some (.ref f15)))
    (l15 : K.lookup f15 = some ⟨oc15, od15, .func (fnOf "_law_feed" "_law_feed" (defArgs ((topS 24))) (defBody ((topS 24))) (defScope ((topS 24))) .none kV15 dc15 pm15 an15 cd15 ct15), sl15⟩)
    (c15 : codeIn K cd15 "_law_feed" = true)
    (k15 : keepIn K (.ref f15) = true)
    (a16 : nsIn K mainGlobals "state_text" = some (some (.ref f16)))
    (l16 : K.lookup f16 = some ⟨oc16, od16, .func (fnOf "state_text" "state_text" (defArgs ((topS 20))) (defBody ((topS 20))) (defScope ((topS 20))) .none kV16 dc16 pm16 an16 cd16 ct16), sl16⟩)
    (c16 : codeIn K cd16 "state_text" = true)
    (k16 : keepIn K (.ref f16) = true)
    (a17 : nsIn K mainGlobals "read_state" = some (some (.ref f17)))
    (l17 : K.lookup f17 = some ⟨oc17, od17, .func (fnOf "read_state" "read_state" (defArgs ((topS 21))) (defBody ((topS 21))) (defScope ((topS 21))) .none kV17 dc17 pm17 an17 cd17 ct17), sl17⟩)
    (c17 : codeIn K cd17 "read_state" = true)
    (k17 : keepIn K (.ref f17) = true)
    (a18 : nsIn K mainGlobals "_law_digit" = some (some (.ref f18)))
    (l18 : K.lookup f18 = some ⟨oc18, od18, .func (fnOf "_law_digit" "_law_digit" (defArgs ((topS 25))) (defBody ((topS 25))) (defScope ((topS 25))) .none kV18 dc18 pm18 an18 cd18 ct18), sl18⟩)
    (c18 : codeIn K cd18 "_law_digit" = true)
    (k18 : keepIn K (.ref f18) = true)
    (a19 : nsIn K mainGlobals "_law_pick" = some (some (.ref f19)))
    (l19 : K.lookup f19 = some ⟨oc19, od19, .func (fnOf "_law_pick" "_law_pick" (defArgs ((topS 26))) (defBody ((topS 26))) (defScope ((topS 26))) .none kV19 dc19 pm19 an19 cd19 ct19), sl19⟩)
    (c19 : codeIn K cd19 "_law_pick" = true)
    (k19 : keepIn K (.ref f19) = true)
    (a20 : nsIn K mainGlobals "_law_word" = some (some (.ref f20)))
    (l20 : K.lookup f20 = some ⟨oc20, od20, .func (fnOf "_law_word" "_law_word" (defArgs ((topS 27))) (defBody ((topS 27))) (defScope ((topS 27))) .none kV20 dc20 pm20 an20 cd20 ct20), sl20⟩)
    (c20 : codeIn K cd20 "_law_word" = true)
    (k20 : keepIn K (.ref f20) = true)
    (gi0 : nsIn K mainGlobals "MOST_CHARACTERS" = some (some (.int 12 ti0)))
    (gi1 : nsIn K mainGlobals "MOST_EVENTS" = some (some (.int 24 ti1)))
    (gi2 : nsIn K mainGlobals "MOST_STATES" = some (some (.int 40 ti2)))
    (gi3 : nsIn K mainGlobals "PARTS" = some (some (.int 4 ti3)))
    (gs0 : nsIn K mainGlobals "CHARACTERS" = some (some (.str "abcdefghijklmnopqrstuvwxyz0123456789" ts0)))
    (gs1 : nsIn K mainGlobals "DIGITS" = some (some (.str "0123456789" ts1)))
    (z0 : nsIn K mainGlobals "len" = some none)
    (z1 : nsIn K mainGlobals "list" = some none)
    (z2 : nsIn K mainGlobals "tuple" = some none)
    (z3 : nsIn K mainGlobals "sorted" = some none)
    (z4 : nsIn K mainGlobals "all" = some none)
    (z5 : nsIn K mainGlobals "any" = some none)
    (z6 : nsIn K mainGlobals "repr" = some none)
    (z7 : nsIn K mainGlobals "str" = some none)
    (z8 : nsIn K mainGlobals "min" = some none)
    (z9 : nsIn K mainGlobals "max" = some none)
    (z10 : nsIn K mainGlobals "range" = some none)
    (z11 : nsIn K mainGlobals "int" = some none)
    (z12 : nsIn K mainGlobals "isinstance" = some none)
    (z13 : nsIn K mainGlobals "bool" = some none)
    (z14 : nsIn K mainGlobals "dict" = some none)
    (z15 : nsIn K mainGlobals "enumerate" = some none)
    (z16 : nsIn K mainGlobals "zip" = some none)
    (dep : Nat) :
    ∃ fd : FuncData, (∀ (s : Shared) (v : Value), BindsTo s fd ⟨[v], []⟩ [("_law_script", v)]) ∧ ∃ (τ fs' : Nat → Addr), ∀ base : Heap, K.In base → base.Ns mainGlobals mg → FnG l.prog w K mg base (2 * dep) fa fd ["_law_script"] (spD ⟨l.prog, w, K, τ, fs'⟩ 1 (callD fs dep 9)) := by
  have F0 := fun_mk (st := (topS 6)) l0 c0 k0
  have b0 := F0.binds (ps := ["state"]) fun _ _ _ _ _ _ us hl => match us, hl with | [_], _ => rfl
  have D0 : DefAt K tab 0 f_legal_events (topS 6) f0 _ := ⟨F0, (fun _ => b0), (fun z => (by cases z)), (fun n ks perm hm => (by simp [tab] at hm))⟩
  have F1 := fun_mk (st := (topS 7)) l1 c1 k1
  have b1 := F1.binds (ps := ["values"]) fun _ _ _ _ _ _ us hl => match us, hl with | [_], _ => rfl
  have D1 : DefAt K tab 1 f_numbered (topS 7) f1 _ := ⟨F1, (fun _ => b1), (fun z => (by cases z)), (fun n ks perm hm => (by simp [tab] at hm))⟩
  have F2 := fun_mk (st := (topS 8)) l2 c2 k2
  have b2 := F2.binds (ps := ["states"]) fun _ _ _ _ _ _ us hl => match us, hl with | [_], _ => rfl
  have D2 : DefAt K tab 2 f_alike_classes (topS 8) f2 _ := ⟨F2, (fun _ => b2), (fun z => (by cases z)), (fun n ks perm hm => (by simp [tab] at hm))⟩
  have F3 := fun_mk (st := (topS 16)) l3 c3 k3
  have b3 := F3.binds (ps := ["thing"]) fun _ _ _ _ _ _ us hl => match us, hl with | [_], _ => rfl
  have D3 : DefAt K tab 3 f_is_word (topS 16) f3 _ := ⟨F3, (fun _ => b3), (fun z => (by cases z)), (fun n ks perm hm => (by simp [tab] at hm))⟩
  have F4 := fun_mk (st := (topS 17)) l4 c4 k4
  have b4 := F4.binds (ps := ["thing"]) fun _ _ _ _ _ _ us hl => match us, hl with | [_], _ => rfl
  have D4 : DefAt K tab 4 f_is_integer (topS 17) f4 _ := ⟨F4, (fun _ => b4), (fun z => (by cases z)), (fun n ks perm hm => (by simp [tab] at hm))⟩
  have F5 := fun_mk (st := (topS 18)) l5 c5 k5
  have b5 := F5.binds (ps := ["thing", "many"]) fun _ _ _ _ _ _ us hl => match us, hl with | [_, _], _ => rfl
  have D5 : DefAt K tab 5 f_is_state (topS 18) f5 _ := ⟨F5, (fun _ => b5), (fun z => (by cases z)), (fun n ks perm hm => (by simp [tab] at hm))⟩
  have F6 := fun_mk (st := (topS 19)) l6 c6 k6
  have b6 := F6.binds (ps := ["states"]) fun _ _ _ _ _ _ us hl => match us, hl with | [_], _ => rfl
  have D6 : DefAt K tab 6 f_are_states (topS 19) f6 _ := ⟨F6, (fun _ => b6), (fun z => (by cases z)), (fun n ks perm hm => (by simp [tab] at hm))⟩
  have F7 := fun_mk (st := (inClass (topS 22) 0)) l7 c7 k7
  have D7 : DefAt K tab 7 f_Kind_init (inClass (topS 22) 0) f7 _ := ⟨F7, (fun z => (by cases z)), (fun _ us rest hl => match us, hl, rest with | [_], _, [] => rfl | [_], _, _ :: _ => rfl), (fun n ks perm hm => (by simp [tab] at hm))⟩
  have F8 := fun_mk (st := (inClass (topS 22) 1)) l8 c8 k8
  have b8 := F8.binds (ps := ["cls", "states"]) fun _ _ _ _ _ _ us hl => match us, hl with | [_, _], _ => rfl
  have D8 : DefAt K tab 8 f_Kind_of (inClass (topS 22) 1) f8 _ := ⟨F8, (fun _ => b8), (fun z => (by cases z)), (fun n ks perm hm => (by simp [tab] at hm))⟩
  have F9 := fun_mk (st := (topS 30)) l9 c9 k9
  have b9 := F9.binds (ps := ["_law_script"]) fun _ _ _ _ _ _ us hl => match us, hl with | [_], _ => rfl
  have D9 : DefAt K tab 9 f_law (topS 30) f9 _ := ⟨F9, (fun _ => b9), (fun z => (by cases z)), (fun n ks perm hm => (by simp [tab] at hm))⟩
  have F10 := fun_mk (st := (inClass (topS 22) 13)) l10 c10 k10
  have b10 := F10.binds (ps := ["self"]) fun _ _ _ _ _ _ us hl => match us, hl with | [_], _ => rfl
  have D10 : DefAt K tab 10 f_Kind_text (inClass (topS 22) 13) f10 _ := ⟨F10, (fun _ => b10), (fun z => (by cases z)), (fun n ks perm hm => (by simp [tab] at hm))⟩
  have F11 := fun_mk (st := (inClass (topS 22) 14)) l11 c11 k11
  have b11 := F11.binds (ps := ["cls", "text"]) fun _ _ _ _ _ _ us hl => match us, hl with | [_, _], _ => rfl
  have D11 : DefAt K tab 11 f_Kind_read (inClass (topS 22) 14) f11 _ := ⟨F11, (fun _ => b11), (fun z => (by cases z)), (fun n ks perm hm s us ws h1 h2 => by
    simp [tab] at hm
    obtain ⟨rfl, rfl, rfl⟩ := hm
    exact match us, ws, h1, h2 with | [_], [_], _, _ => .of_eq rfl)⟩
  have F12 := fun_mk (st := (inClass (topS 22) 2)) l12 c12 k12
  have b12 := F12.binds (ps := ["self", "other"]) fun _ _ _ _ _ _ us hl => match us, hl with | [_, _], _ => rfl
  have D12 : DefAt K tab 12 f_Kind_eq (inClass (topS 22) 2) f12 _ := ⟨F12, (fun _ => b12), (fun z => (by cases z)), (fun n ks perm hm => (by simp [tab] at hm))⟩
  have F13 := fun_mk (st := (topS 29)) l13 c13 k13
  have b13 := F13.binds (ps := ["_law_states"]) fun _ _ _ _ _ _ us hl => match us, hl with | [_], _ => rfl
  have D13 : DefAt K tab 13 f_law_written (topS 29) f13 _ := ⟨F13, (fun _ => b13), (fun z => (by cases z)), (fun n ks perm hm => (by simp [tab] at hm))⟩
  have F14 := fun_mk (st := (topS 28)) l14 c14 k14
  have b14 := F14.binds (ps := ["_law_feed_here", "_law_most"]) fun _ _ _ _ _ _ us hl => match us, hl with | [_, _], _ => rfl
  have D14 : DefAt K tab 14 f_law_drawn (topS 28) f14 _ := ⟨F14, (fun _ => b14), (fun z => (by cases z)), (fun n ks perm hm => (by simp [tab] at hm))⟩
  have F15 := fun_mk (st := (topS 24)) l15 c15 k15
  have b15 := F15.binds (ps := ["_law_script"]) fun _ _ _ _ _ _ us hl => match us, hl with | [_], _ => rfl
  have D15 : DefAt K tab 15 f_law_feed (topS 24) f15 _ := ⟨F15, (fun _ => b15), (fun z => (by cases z)), (fun n ks perm hm => (by simp [tab] at hm))⟩
  have F16 := fun_mk (st := (topS 20)) l16 c16 k16
  have b16 := F16.binds (ps := ["number", "state"]) fun _ _ _ _ _ _ us hl => match us, hl with | [_, _], _ => rfl
  have D16 : DefAt K tab 16 f_state_text (topS 20) f16 _ := ⟨F16, (fun _ => b16), (fun z => (by cases z)), (fun n ks perm hm => (by simp [tab] at hm))⟩
  have F17 := fun_mk (st := (topS 21)) l17 c17 k17
  have b17 := F17.binds (ps := ["line"]) fun _ _ _ _ _ _ us hl => match us, hl with | [_], _ => rfl
  have D17 : DefAt K tab 17 f_read_state (topS 21) f17 _ := ⟨F17, (fun _ => b17), (fun z => (by cases z)), (fun n ks perm hm => (by simp [tab] at hm))⟩
  have F18 := fun_mk (st := (topS 25)) l18 c18 k18
  have b18 := F18.binds (ps := ["_law_feed_here", "_law_many"]) fun _ _ _ _ _ _ us hl => match us, hl with | [_, _], _ => rfl
  have D18 : DefAt K tab 18 f_law_digit (topS 25) f18 _ := ⟨F18, (fun _ => b18), (fun z => (by cases z)), (fun n ks perm hm => (by simp [tab] at hm))⟩
  have F19 := fun_mk (st := (topS 26)) l19 c19 k19
  have b19 := F19.binds (ps := ["_law_feed_here", "_law_some"]) fun _ _ _ _ _ _ us hl => match us, hl with | [_, _], _ => rfl
  have D19 : DefAt K tab 19 f_law_pick (topS 26) f19 _ := ⟨F19, (fun _ => b19), (fun z => (by cases z)), (fun n ks perm hm => (by simp [tab] at hm))⟩
  have F20 := fun_mk (st := (topS 27)) l20 c20 k20
  have b20 := F20.binds (ps := ["_law_feed_here"]) fun _ _ _ _ _ _ us hl => match us, hl with | [_], _ => rfl
  have D20 : DefAt K tab 20 f_law_word (topS 27) f20 _ := ⟨F20, (fun _ => b20), (fun z => (by cases z)), (fun n ks perm hm => (by simp [tab] at hm))⟩
  let τ : Nat → Addr := fun i => match i with | 0 => C0 | _ => 0
  let fs' : Nat → Addr := fun i => match i with | 0 => f0 | 1 => f1 | 2 => f2 | 3 => f3 | 4 => f4 | 5 => f5 | 6 => f6 | 7 => f7 | 8 => f8 | 9 => f9 | 10 => f10 | 11 => f11 | 12 => f12 | 13 => f13 | 14 => f14 | 15 => f15 | 16 => f16 | 17 => f17 | 18 => f18 | 19 => f19 | 20 => f20 | _ => 0
  have T : Txt ⟨l.prog, w, K, τ, fs'⟩ tab mg := by
    constructor
    · intro j fd h
      match j, h with
      | 0, h => have h : some f_legal_events = some fd := h; cases h; exact ⟨_, _, D0, ok_legal_events⟩
      | 1, h => have h : some f_numbered = some fd := h; cases h; exact ⟨_, _, D1, ok_numbered⟩
      | 2, h => have h : some f_alike_classes = some fd := h; cases h; exact ⟨_, _, D2, ok_alike_classes⟩
      | 3, h => have h : some f_is_word = some fd := h; cases h; exact ⟨_, _, D3, ok_is_word⟩
      | 4, h => have h : some f_is_integer = some fd := h; cases h; exact ⟨_, _, D4, ok_is_integer⟩
      | 5, h => have h : some f_is_state = some fd := h; cases h; exact ⟨_, _, D5, ok_is_state⟩
      | 6, h => have h : some f_are_states = some fd := h; cases h; exact ⟨_, _, D6, ok_are_states⟩
      | 7, h => have h : some f_Kind_init = some fd := h; cases h; exact ⟨_, _, D7, ok_Kind_init⟩
      | 8, h => have h : some f_Kind_of = some fd := h; cases h; exact ⟨_, _, D8, ok_Kind_of⟩
      | 9, h => have h : some f_law = some fd := h; cases h; exact ⟨_, _, D9, ok_law⟩
      | 10, h => have h : some f_Kind_text = some fd := h; cases h; exact ⟨_, _, D10, ok_Kind_text⟩
      | 11, h => have h : some f_Kind_read = some fd := h; cases h; exact ⟨_, _, D11, ok_Kind_read⟩
      | 12, h => have h : some f_Kind_eq = some fd := h; cases h; exact ⟨_, _, D12, ok_Kind_eq⟩
      | 13, h => have h : some f_law_written = some fd := h; cases h; exact ⟨_, _, D13, ok_law_written⟩
      | 14, h => have h : some f_law_drawn = some fd := h; cases h; exact ⟨_, _, D14, ok_law_drawn⟩
      | 15, h => have h : some f_law_feed = some fd := h; cases h; exact ⟨_, _, D15, ok_law_feed⟩
      | 16, h => have h : some f_state_text = some fd := h; cases h; exact ⟨_, _, D16, ok_state_text⟩
      | 17, h => have h : some f_read_state = some fd := h; cases h; exact ⟨_, _, D17, ok_read_state⟩
      | 18, h => have h : some f_law_digit = some fd := h; cases h; exact ⟨_, _, D18, ok_law_digit⟩
      | 19, h => have h : some f_law_pick = some fd := h; cases h; exact ⟨_, _, D19, ok_law_pick⟩
      | 20, h => have h : some f_law_word = some fd := h; cases h; exact ⟨_, _, D20, ok_law_word⟩
      | _ + 21, h => cases h
    · decide
    · intro x j h
      simp only [tab, List.mem_cons, List.not_mem_nil, or_false, Prod.mk.injEq] at h
      rcases h with ⟨rfl, rfl⟩ | ⟨rfl, rfl⟩ | ⟨rfl, rfl⟩ | ⟨rfl, rfl⟩ | ⟨rfl, rfl⟩ | ⟨rfl, rfl⟩ | ⟨rfl, rfl⟩ | ⟨rfl, rfl⟩ | ⟨rfl, rfl⟩ | ⟨rfl, rfl⟩ | ⟨rfl, rfl⟩ | ⟨rfl, rfl⟩ | ⟨rfl, rfl⟩ | ⟨rfl, rfl⟩ | ⟨rfl, rfl⟩ | ⟨rfl, rfl⟩
      · exact ⟨mg_of kin gns a0, k0⟩
      · exact ⟨mg_of kin gns a1, k1⟩
      · exact ⟨mg_of kin gns a2, k2⟩
      · exact ⟨mg_of kin gns a3, k3⟩
      · exact ⟨mg_of kin gns a4, k4⟩
      · exact ⟨mg_of kin gns a5, k5⟩
      · exact ⟨mg_of kin gns a6, k6⟩
      · exact ⟨mg_of kin gns a9, k9⟩
      · exact ⟨mg_of kin gns a13, k13⟩
      · exact ⟨mg_of kin gns a14, k14⟩
      · exact ⟨mg_of kin gns a15, k15⟩
      · exact ⟨mg_of kin gns a16, k16⟩
      · exact ⟨mg_of kin gns a17, k17⟩
      · exact ⟨mg_of kin gns a18, k18⟩
      · exact ⟨mg_of kin gns a19, k19⟩
      · exact ⟨mg_of kin gns a20, k20⟩
    · intro x j h
      simp only [tab, List.mem_cons, List.not_mem_nil, or_false, Prod.mk.injEq] at h
      rcases h with ⟨rfl, rfl⟩ | ⟨rfl, rfl⟩ | ⟨rfl, rfl⟩ | ⟨rfl, rfl⟩
      · exact ⟨_, mg_of kin gns gi0⟩
      · exact ⟨_, mg_of kin gns gi1⟩
      · exact ⟨_, mg_of kin gns gi2⟩
      · exact ⟨_, mg_of kin gns gi3⟩
    · intro x j h
      simp only [tab, List.mem_cons, List.not_mem_nil, or_false, Prod.mk.injEq] at h
      rcases h with ⟨rfl, rfl⟩ | ⟨rfl, rfl⟩
      · exact ⟨_, mg_of kin gns gs0⟩
      · exact ⟨_, mg_of kin gns gs1⟩
    · intro c k h
      match c, h with
      | 0, h =>
        cases h
        constructor
        · exact mg_of kin gns aC0
        · exact ⟨pg0, hd0, po0, sa0⟩
        · exact ⟨mk0, pa7, pe7, kc0⟩
        · intro f hf
          simp only [List.mem_cons, List.not_mem_nil, or_false] at hf
          rcases hf with rfl | rfl | rfl
          · exact nf0_0
          · exact nf0_1
          · exact nf0_2
        · intro f j hf
          simp only [List.mem_cons, List.not_mem_nil, or_false, Prod.mk.injEq] at hf
          rcases hf with ⟨rfl, rfl⟩
          · exact ⟨P10, pa10, pb10, pc10, _, pd10⟩
        · intro f j hf
          simp at hf
        · intro f j hf
          simp only [List.mem_cons, List.not_mem_nil, or_false, Prod.mk.injEq] at hf
          rcases hf with ⟨rfl, rfl⟩ | ⟨rfl, rfl⟩
          · exact ⟨.type "type", P8, ⟨rd0, ga0⟩, ⟨pa8, ⟨_, pd8⟩, pe8⟩⟩
          · exact ⟨.type "type", P11, ⟨rd0, ga0⟩, ⟨pa11, ⟨_, pd11⟩, pe11⟩⟩
        · intro j hj
          cases hj
          exact ⟨pa12, pe12, ne0, hm0⟩
        · refine ⟨ha0, hn0, ht0, hm0, ow0, fun t ht => ?_, fun t ht => ?_⟩
          · simp only [List.mem_cons, List.not_mem_nil, or_false] at ht
            rcases ht with rfl | rfl | rfl | rfl | rfl | rfl
            · exact tb0_str
            · exact tb0_int
            · exact tb0_bool
            · exact tb0_tuple
            · exact tb0_list
            · exact tb0_dict
          · simp only [List.mem_cons, List.not_mem_nil, or_false] at ht
            rcases ht with rfl | rfl | rfl | rfl | rfl | rfl
            · exact tn0_NoneType
            · exact tn0_bool
            · exact tn0_int
            · exact tn0_str
            · exact tn0_tuple
            · exact tn0_list
      | _ + 1, h => cases h
    · intro x hx
      simp only [bltNames, List.mem_cons, List.not_mem_nil, or_false] at hx
      rcases hx with rfl | rfl | rfl | rfl | rfl | rfl | rfl | rfl | rfl | rfl | rfl | rfl | rfl | rfl | rfl | rfl | rfl
      · exact mg_none_of kin gns z0
      · exact mg_none_of kin gns z1
      · exact mg_none_of kin gns z2
      · exact mg_none_of kin gns z3
      · exact mg_none_of kin gns z4
      · exact mg_none_of kin gns z5
      · exact mg_none_of kin gns z6
      · exact mg_none_of kin gns z7
      · exact mg_none_of kin gns z8
      · exact mg_none_of kin gns z9
      · exact mg_none_of kin gns z10
      · exact mg_none_of kin gns z11
      · exact mg_none_of kin gns z12
      · exact mg_none_of kin gns z13
      · exact mg_none_of kin gns z14
      · exact mg_none_of kin gns z15
      · exact mg_none_of kin gns z16
  refine ⟨fnOf "law" "law" (defArgs ((topS 30))) (defBody ((topS 30))) (defScope ((topS 30))) .none kV9 dc9 pm9 an9 cd9 ct9, fun s v => .of_eq rfl, τ, fs', fun base _ _ => ?_⟩
  have e : f9 = fa := by have q := (mg_of kin gns a9).symm.trans hfa; cases q; rfl
  subst e
  exact (all_cal T base dep 9 f_law rfl _ _ D9 ok_law).2 rfl rfl
end K08
end
section
set_option Elab.async false
set_option linter.all false
set_option maxRecDepth 100000
namespace K08
def rest : List Mw.FD := [f_law, f_Kind_text, f_Kind_read, f_Kind_eq, f_law_written, f_law_drawn, f_law_feed, f_state_text, f_read_state, f_law_digit, f_law_pick, f_law_word]
theorem fs_core : fs = Core.core ++ rest := rfl
end K08
end
section
set_option Elab.async false
set_option linter.all false
set_option maxRecDepth 100000
set_option maxHeartbeats 4000000
/-! Tx6: the law's own writing of a text. -/
namespace K08
open PySem Mw Tx Core
/-- the steps so far, as they are laid behind one another -/
def tailT (l : List Stp) : List Str := l.map stepT
theorem join_snoc (sep : Str) : ∀ (l : List Str) (a : Str), l ≠ [] → Str.join sep (l ++ [a]) = Str.join sep l ++ sep ++ a
  | [], _, h => absurd rfl h
  | [x], a, _ => rfl
  | x :: y :: r, a, _ => by
    show x ++ sep ++ Str.join sep ((y :: r) ++ [a]) = x ++ sep ++ Str.join sep (y :: r) ++ sep ++ a
    rw [join_snoc sep (y :: r) a (by simp)]
    simp only [Str.append_assoc]
theorem written_ok (d : Nat) {ss : List St} (hl : ss.length ≤ 40) (hs : ∀ st ∈ ss, Short st) (α : AH) : callD fs (d + 1) 13 [pSts ss] α = .ok (.str (textT ss)) α := by
  refine eq_of_go ?_
  rw [go_run (fd := f_law_written) (qs := [pSts ss]) rfl rfl rfl]
  show Go (dSs _ b_law_written [some (pSts ss), none, none, none, none, none, none] _) _
  unfold b_law_written
  obtain ⟨T1, hT1⟩ : ∃ T1 : Ss, T1 = (.cons (.ret (.mth .join (.str "\n") (.cons (.var 1) .nil))) .nil) := ⟨_, rfl⟩
  rw [← hT1]
  simp only [go_Scons, go_Sasg, go_join, go_lst, go_Enil]
  refine ⟨l0, ?_⟩
  rw [go_eq (show joinP (.fl []) α = .ok (.ref α.length) (α ++ [.lst []]) from rfl)]
  simp only [go_Tvar, List.set_cons_succ, List.set_cons_zero, go_Scons, go_Sloop, go_Ienum, go_var, List.getElem?_cons_zero, List.getElem?_cons_succ]
  rw [go_eq (show srcEnum (pSts ss) (α ++ [.lst []]) = .ok ⟨ss.zipIdx.map fun e => PV.tup [.int (e.2 : Nat), pSt e.1], none⟩ (α ++ [.lst []]) by
    rw [← enumP_map]; rfl), lockN]
  refine turnsF_inv (I := fun r ρ a => ∃ (pre suf : List (St × Nat)) (x2 x3 x4 x5 x6 : Option PV), ss.zipIdx = pre ++ suf ∧ r = (suf.map fun e => PV.tup [.int (e.2 : Nat), pSt e.1]) ∧ ρ = [some (pSts ss), some (.ref α.length), x2, x3, x4, x5, x6] ∧
    a = α ++ [.lst (pre.map fun e => PV.str (lineT e.2 e.1))]) ?_ ?_ _ _ _ ⟨[], ss.zipIdx, none, none, none, none, none, rfl, rfl, rfl, rfl⟩
  · rintro v r ρ a ⟨pre, suf, y2, y3, y4, y5, y6, e1, e2, rfl, rfl⟩
    cases suf with
    | nil => cases e2
    | cons e suf =>
      rw [List.map_cons, List.cons.injEq] at e2
      obtain ⟨rfl, rfl⟩ := e2
      refine ⟨rfl, ?_⟩
      have hmem : e ∈ ss.zipIdx := by rw [e1]; simp
      have h1 := List.mem_zipIdx hmem
      have hsh : Short e.1 := hs e.1 (by rw [h1.2.2]; exact List.getElem_mem _)
      have he : e.2 < 64 := by omega
      have hpl : pre.length ≤ 40 := by
        have := congrArg List.length e1
        rw [List.length_zipIdx, List.length_append] at this
        omega
      have hn0 := (num_small e.2 he).1.2
      obtain ⟨A, hA⟩ : ∃ A : AH, A = α ++ [AO.lst (pre.map fun e => PV.str (lineT e.2 e.1))] := ⟨_, rfl⟩
      have hget : A[α.length]? = some (.lst (pre.map fun e => PV.str (lineT e.2 e.1))) := by rw [hA]; simp
      rw [← hA]
      simp only [go_bind, go_Ttup, go_Tcons, go_Tvar, go_Tnil, go_Scons, go_Sasg, go_bin, go_b1, go_str, go_Sloop, go_Ienum, go_var, List.set_cons_succ, List.set_cons_zero, List.getElem?_cons_zero, List.getElem?_cons_succ]
      rw [go_eq (str_num he A), go_eq (add_str (by rw [len_cl]; omega) A)]
      simp only [go_Tvar, List.set_cons_succ, List.set_cons_zero, go_Scons, go_Sloop, go_Ienum, go_var, List.getElem?_cons_zero, List.getElem?_cons_succ]
      rw [go_eq (show srcEnum (pSt e.1) A = .ok ⟨e.1.zipIdx.map fun f => PV.tup [.int (f.2 : Nat), pStp f.1], none⟩ A by
        rw [← enumP_map]; rfl), lockN]
      refine turnsF_inv (I := fun r ρ a => ∃ (p2 s2 : List Stp) (x5 x6 : Option PV), e.1 = p2 ++ s2 ∧ r = ((s2.zipIdx p2.length).map fun f => PV.tup [.int (f.2 : Nat), pStp f.1]) ∧
        ρ = [some (pSts ss), some (.ref α.length), some (.int (e.2 : Nat)), some (pSt e.1), some (.str (numS e.2 ++ Str.ofString ":" ++ Str.join (Str.ofString ",") (p2.map stepT))), x5, x6] ∧ a = A) ?_ ?_ _ _ _ ⟨[], e.1, y5, y6, rfl, rfl, by
          show _ = [_, _, _, _, some (PV.str (numS e.2 ++ Str.ofString ":" ++ Str.empty)), _, _]
          rw [Str.append_empty], rfl⟩
      · rintro v r ρ a ⟨p2, s2, z5, z6, f1, f2, rfl, rfl⟩
        cases s2 with
        | nil => cases f2
        | cons s s2 =>
          rw [List.zipIdx_cons, List.map_cons, List.cons.injEq] at f2
          obtain ⟨rfl, rfl⟩ := f2
          refine ⟨rfl, ?_⟩
          have hss := hsh.2 s (by rw [f1]; simp)
          have hns := (num_small s.2 hss.2.2).1.2
          have hp2 : p2.length ≤ 24 := by
            have h5 := hsh.1
            have := congrArg List.length f1
            rw [List.length_append] at this
            omega
          have hjl : (Str.join (Str.ofString ",") (p2.map stepT)).length ≤ 1000 := by
            have h6 := join_len (Str.ofString ",") (p2.map stepT)
            have h7 := sum_len (p2.map stepT) 29 (fun x hx => by
              obtain ⟨t, ht, rfl⟩ := List.mem_map.mp hx
              exact step_len (hsh.2 t (by rw [f1]; exact List.mem_append_left _ ht)))
            rw [List.length_map, len_co] at h6
            rw [List.length_map] at h7
            omega
          have i0 : ixP (pStp s) (.int 0) a = .ok (.str s.1.1) a := ix_tup (i := 0) rfl
          have i1 : ixP (pStp s) (.int 1) a = .ok (.str s.1.2) a := ix_tup (i := 1) rfl
          have i2 : ixP (pStp s) (.int 2) a = .ok (.int s.2) a := ix_tup (i := 2) rfl
          obtain ⟨sep, hsep, hsl, hsj⟩ : ∃ sep : Str, ((b1 .int (.bl (decide ((0 : Int) < (p2.length : Nat)))) a).bind fun q α => ixP (.fl [.str (Str.ofString ""), .str (Str.ofString ",")]) q α) = .ok (.str sep) a ∧ sep.length ≤ 1 ∧ Str.join (Str.ofString ",") (p2.map stepT) ++ sep ++ stepT s = Str.join (Str.ofString ",") ((p2 ++ [s]).map stepT) := by
            cases p2 with
            | nil => exact ⟨Str.ofString "", rfl, by decide +kernel, by
                have e : Str.ofString "" = Str.empty := by decide +kernel
                show Str.empty ++ Str.ofString "" ++ stepT s = stepT s
                rw [e, Str.empty_append, Str.empty_append]⟩
            | cons t p2 =>
              refine ⟨Str.ofString ",", ?_, by rw [len_co]; omega, ?_⟩
              · rw [decide_eq_true (by rw [List.length_cons]; omega)]; rfl
              · rw [List.map_append]
                exact (join_snoc _ _ _ (by simp)).symm
          simp only [go_bind, go_Ttup, go_Tcons, go_Tvar, go_Tnil, go_Scons, go_Sasg, go_bin, go_b1, go_str, go_ix, go_lst, go_Econs, go_Enil, go_cmp, go_int, go_var, go_Snil, List.set_cons_succ, List.set_cons_zero, List.getElem?_cons_zero, List.getElem?_cons_succ]
          refine ⟨l2, ?_⟩
          rw [go_gtI, ← go_bind, hsep, go_ok]
          rw [go_eq (add_str (by simp only [Str.length_append, len_cl]; omega) a), go_eq (add_str (by simp only [Str.length_append, len_cl, len_sp]; omega) a)]
          simp only [go_ix, go_b1, go_int, go_var, List.getElem?_cons_zero, List.getElem?_cons_succ]
          rw [go_eq i0]
          rw [go_eq (add_str (by simp only [Str.length_append, len_cl, len_sp]; omega) a), go_eq (add_str (by simp only [Str.length_append, len_cl, len_sp]; omega) a)]
          simp only [go_ix, go_b1, go_int, go_var, List.getElem?_cons_zero, List.getElem?_cons_succ]
          rw [go_eq i1]
          rw [go_eq (add_str (by simp only [Str.length_append, len_cl, len_sp]; omega) a), go_eq (add_str (by simp only [Str.length_append, len_cl, len_sp]; omega) a)]
          simp only [go_ix, go_b1, go_int, go_var, List.getElem?_cons_zero, List.getElem?_cons_succ]
          rw [go_eq i2, go_eq (str_num hss.2.2 a)]
          rw [go_eq (add_str (by simp only [Str.length_append, len_cl, len_sp]; omega) a)]
          rw [gcL_same]
          refine ⟨p2 ++ [s], s2, some (.int (p2.length : Nat)), some (pStp s), by rw [f1]; simp, by simp, ?_, rfl⟩
          rw [← hsj]
          simp only [stepT, Str.append_assoc]
      · rintro ρ a ⟨p2, s2, z5, z6, f1, f2, rfl, rfl⟩
        have : s2 = [] := by
          cases s2 with
          | nil => rfl
          | cons i s2 => rw [List.zipIdx_cons] at f2; cases f2
        subst this
        rw [List.append_nil] at f1
        refine ⟨rfl, ?_⟩
        rw [go_doneN]
        obtain ⟨q1, q2⟩ := appL (x := PV.str (lineT e.2 e.1)) hget (small (by rw [List.length_map]; omega))
        simp only [go_Scons, go_Sexpr, go_mth, go_Econs, go_Enil, go_var, go_Snil, List.getElem?_cons_zero, List.getElem?_cons_succ]
        refine ⟨q1, ?_⟩
        rw [← f1, show numS e.2 ++ Str.ofString ":" ++ Str.join (Str.ofString ",") (e.1.map stepT) = lineT e.2 e.1 from rfl, q2, go_ok]
        rw [gcL_id (by rw [hA]; simp)]
        exact ⟨pre ++ [e], suf, _, _, _, _, _, by rw [e1]; simp, rfl, rfl, by rw [hA]; simp⟩
  · rintro ρ a ⟨pre, suf, y2, y3, y4, y5, y6, e1, e2, rfl, rfl⟩
    have : suf = [] := by
      cases suf with
      | nil => rfl
      | cons i suf => cases e2
    subst this
    rw [List.append_nil] at e1
    refine ⟨rfl, ?_⟩
    rw [go_doneN]
    subst hT1
    simp only [go_Scons, go_Sret, go_mth, go_str, go_Econs, go_Enil, go_var, List.getElem?_cons_zero, List.getElem?_cons_succ]
    refine ⟨rfl, ?_⟩
    rw [go_eq (join_ok (xs := ss.zipIdx.map fun e => lineT e.2 e.1) (by rw [e1, List.map_map]; simp [itemsS, itemsL, Function.comp_def]) (by rw [len_nl]; omega) (fun x hx => by
      have := lines_len hl hs x hx
      omega) (by rw [List.length_map, List.length_zipIdx]; omega))]
    simp only [f_law_written]
    rw [gcV_new (fun _ => by simp) rfl]
    exact ⟨rfl, rfl⟩
end K08
end
section
set_option Elab.async false
set_option linter.all false
set_option maxRecDepth 100000
set_option maxHeartbeats 4000000
/-! Tx9: Kind.read reads a Kind's text. -/
namespace K08
open PySem Mw Tx Core
theorem GoodSts.fine {ss : List St} (h : GoodSts ss) : ∀ st ∈ ss, Fine st := fun st hst =>
  ⟨(h.st st hst).words, fun s hs => by have := (h.st st hst).to s hs; have := h.le; omega, (h.st st hst).len⟩
theorem line_free {n : Nat} (hn : n < 64) {st : St} (h : Fine st) : 10 ∉ tl (lineT n st) := by
  unfold lineT
  rw [tl_app, tl_app, List.mem_append, List.mem_append, cl_eq, tl_one]
  have hj : ∀ l : List Stp, (∀ s ∈ l, s ∈ st) → 10 ∉ tl (Str.join (Str.ofString ",") (l.map stepT)) := by
    intro l
    induction l with
    | nil => intro _; simp [Str.join, Str.empty, tl]
    | cons s r ih =>
      intro hl
      have hs := step_free h (hl s List.mem_cons_self) (k := 10) (by simp)
      cases r with
      | nil => exact hs
      | cons t r =>
        have hr := ih fun x hx => hl x (List.mem_cons_of_mem _ hx)
        have e : tl (Str.join (Str.ofString ",") ((s :: t :: r).map stepT)) = tl (stepT s) ++ 44 :: tl (Str.join (Str.ofString ",") ((t :: r).map stepT)) := by
          rw [co_eq]; exact tl_join2 44 (stepT s) (stepT t) (r.map stepT)
        rw [e, List.mem_append, List.mem_cons]
        rintro (z | z | z)
        · exact hs z
        · omega
        · exact hr z
  rintro ((z | z) | z)
  · exact num_free n hn 10 (by simp) z
  · simp at z
  · exact hj st (fun _ h => h) z
theorem lines_split {ss : List St} (h : GoodSts ss) : Txt.split (textT ss) (Str.ofString "\n") = ss.zipIdx.map fun e => lineT e.2 e.1 := by
  have hp := h.pos
  have hle := h.le
  unfold textT
  rw [nl_eq]
  refine split_join (fun e => ?_) fun x hx => ?_
  · have := congrArg List.length e
    rw [List.length_map, List.length_zipIdx, List.length_nil] at this
    omega
  · obtain ⟨e, he, rfl⟩ := List.mem_map.mp hx
    have h1 := List.mem_zipIdx he
    exact line_free (by omega) (GoodSts.fine h e.1 (by rw [h1.2.2]; exact List.getElem_mem _))
theorem text_len {ss : List St} (h : GoodSts ss) : (textT ss).length ≤ 50000 := by
  have h1 := join_len (Str.ofString "\n") (ss.zipIdx.map fun e => lineT e.2 e.1)
  have h2 := sum_len _ 1000 (lines_len h.le h.short)
  have := h.le
  rw [List.length_map, List.length_zipIdx] at h1 h2
  rw [len_nl] at h1
  unfold textT
  omega
theorem read_kind (d : Nat) {ss : List St} (h : GoodSts ss) (α : AH) : ∃ c, Classes ss c ∧ callD fs (d + 5) 11 [.st 0, .str (textT ss)] α = .ok (pKind ss c) α := by
  have hle := h.le
  have htl := text_len h
  rw [fs_core]
  obtain ⟨c, hc, ec⟩ := kind_ok (tl := rest) d h α
  refine ⟨c, hc, eq_of_go ?_⟩
  rw [go_run (fd := f_Kind_read) (qs := [.st 0, .str (textT ss)]) rfl rfl rfl]
  show Go (dSs _ b_Kind_read [some (.st 0), some (.str (textT ss)), none, none, none] _) _
  unfold b_Kind_read
  simp only [go_Scons, go_Sif, go_not, go_isT, go_var, List.getElem?_cons_zero, List.getElem?_cons_succ]
  rw [go_eq (isT_str _ α), go_truth, go_truth]
  simp only [Bool.not_true, go_Snil, go_Scons, go_Sasg, go_b1, go_comp, go_Ival, go_mth, go_str, go_Econs, go_Enil, go_var, List.getElem?_cons_zero, List.getElem?_cons_succ]
  refine ⟨rfl, ?_⟩
  rw [go_eq (split_ok (by decide +kernel) (by omega) α), lines_split h]
  rw [go_eq (show srcOf (.fl ((ss.zipIdx.map fun e => lineT e.2 e.1).map .str)) α = .ok ⟨ss.zipIdx.map fun e => .str (lineT e.2 e.1), none⟩ α by rw [List.map_map]; rfl), lockN]
  rw [go_eq (comp_map (g := fun e : St × Nat => pSt e.1) rfl fun e he => ?hh)]
  case hh =>
    refine eq_of_go ?_
    have h1 := List.mem_zipIdx he
    unfold compStep
    simp only [go_bind, go_Tvar, go_Cnone, go_call, go_Econs, go_Enil, go_var, wipeP, List.set_cons_succ, List.set_cons_zero, List.getElem?_cons_zero, List.getElem?_cons_succ]
    rw [go_eq (Core.read_ok (fs := core ++ rest) (j := 17) rfl (d + 3) (by omega) (GoodSts.fine h e.1 (by rw [h1.2.2]; exact List.getElem_mem _)) α)]
    exact ⟨rfl, rfl⟩
  rw [List.length_map]
  refine ⟨line_le (by rw [List.length_zipIdx]; omega), ?_⟩
  have em : (ss.zipIdx.map fun e : St × Nat => pSt e.1) = ss.map pSt := by
    rw [show (fun e : St × Nat => pSt e.1) = pSt ∘ Prod.fst from rfl, ← List.map_map, List.zipIdx_map_fst]
  rw [go_doneN, em, go_eq (show b1 .tuple (.fl (ss.map pSt)) α = .ok (pSts ss) α from rfl)]
  simp only [go_Tvar, List.set_cons_succ, List.set_cons_zero, go_Scons, go_Sif, go_not, go_call, go_Econs, go_Enil, go_var, List.getElem?_cons_zero, List.getElem?_cons_succ]
  rw [go_eq (states_ok (d + 1) h α), go_truth, go_truth]
  simp only [Bool.not_true, go_Snil, go_Scons, go_Sasg]
  rw [go_mkV rfl]
  simp only [go_var, List.getElem?_cons_zero, List.getElem?_cons_succ]
  refine ⟨ss.map pSt, rfl, ?_⟩
  rw [go_eq ec]
  simp only [go_Tvar, List.set_cons_succ, List.set_cons_zero, go_Scons, go_Sif, go_cmp, go_prop, go_var, List.getElem?_cons_zero, List.getElem?_cons_succ]
  refine ⟨rfl, ?_⟩
  rw [go_eq (Core.text_ok (fs := core ++ rest) (j := 10) (k := 16) rfl rfl (d + 2) hle h.short α)]
  simp only [go_var, List.getElem?_cons_zero, List.getElem?_cons_succ]
  rw [go_eq (ne_str _ _ α), decide_eq_true rfl, go_truth]
  simp only [Bool.not_true, go_Snil, go_Scons, go_Sret, go_var, List.getElem?_cons_zero, List.getElem?_cons_succ, f_Kind_read]
  rw [gcV_same]
  exact ⟨rfl, rfl⟩
end K08
end
section
set_option Elab.async false
set_option linter.all false
set_option maxRecDepth 100000
set_option maxHeartbeats 4000000
/-! Kd1: states compared; Kind.__eq__. -/
namespace Core
open PySem Mw Tx
def dStp (s : Stp) : PyData := .tuple [.str s.1.1, .str s.1.2, .int s.2]
def dSt (st : St) : PyData := .tuple (st.map dStp)
def dSts (ss : List St) : PyData := .tuple (ss.map dSt)
theorem toPs_map {β : Type} (f : β → PV) (g : β → PyData) (h : ∀ b, toP (f b) = some (g b)) : ∀ L : List β, toPs (L.map f) = some (L.map g)
  | [] => rfl
  | b :: L => by simp only [List.map_cons, toPs, h, toPs_map f g h L]; rfl
theorem stp_toP (s : Stp) : toP (pStp s) = some (dStp s) := rfl
theorem st_toP (st : St) : toP (pSt st) = some (dSt st) := by
  simp only [pSt, toP, toPs_map pStp dStp stp_toP]; rfl
theorem sts_toP (ss : List St) : toP (pSts ss) = some (dSts ss) := by
  simp only [pSts, toP, toPs_map pSt dSt st_toP]; rfl
theorem lay_map {β : Type} (g : β → PyData) (n : Nat) : ∀ L : List β, (∀ b ∈ L, (g b).canLay0 = true ∧ (g b).depth ≤ n) → PyData.canLayAll0 (L.map g) = true ∧ PyData.depthAll (L.map g) ≤ n
  | [], _ => ⟨rfl, Nat.zero_le _⟩
  | b :: L, h => by
    obtain ⟨h1, h2⟩ := lay_map g n L fun x hx => h x (List.mem_cons_of_mem _ hx)
    obtain ⟨h3, h4⟩ := h b List.mem_cons_self
    exact ⟨by simp [PyData.canLayAll0, h1, h3], by simp only [List.map_cons, PyData.depthAll]; omega⟩
theorem eqv_map {β : Type} [DecidableEq β] (g : β → PyData) (h : ∀ a b, PyData.eqv (g a) (g b) = decide (a = b)) : ∀ L M : List β, PyData.eqvAll (L.map g) (M.map g) = decide (L = M)
  | [], [] => by simp [PyData.eqvAll]
  | [], _ :: _ => by simp [PyData.eqvAll]
  | _ :: _, [] => by simp [PyData.eqvAll]
  | x :: a, y :: b => by
    simp only [List.map_cons, PyData.eqvAll, eqv_map g h a b, h]
    rw [Bool.eq_iff_iff]
    simp
theorem stp_eqv (a b : Stp) : PyData.eqv (dStp a) (dStp b) = decide (a = b) := by
  simp only [dStp, PyData.eqv, PyData.eqvAll, Bool.and_true]
  rw [Bool.eq_iff_iff]
  simp only [Bool.and_eq_true, decide_eq_true_eq, beq_iff_eq, Prod.ext_iff]
  constructor
  · rintro ⟨h1, h2, h3⟩
    exact ⟨⟨h1, h2⟩, by omega⟩
  · rintro ⟨⟨h1, h2⟩, h3⟩
    exact ⟨h1, h2, by omega⟩
theorem st_eqv (a b : St) : PyData.eqv (dSt a) (dSt b) = decide (a = b) := eqv_map dStp stp_eqv a b
theorem sts_eqv (a b : List St) : PyData.eqv (dSts a) (dSts b) = decide (a = b) := eqv_map dSt st_eqv a b
def StrOk (st : St) : Prop := ∀ s ∈ st, PyData.strOk s.1.1 = true ∧ PyData.strOk s.1.2 = true
theorem stp_lay (s : Stp) (h : PyData.strOk s.1.1 = true ∧ PyData.strOk s.1.2 = true) : (dStp s).canLay0 = true ∧ (dStp s).depth ≤ 1 := by
  constructor
  · simp [dStp, PyData.canLay0, PyData.canLayAll0, h]
  · simp [dStp, PyData.depth, PyData.depthAll]
theorem st_lay (st : St) (h : StrOk st) : (dSt st).canLay0 = true ∧ (dSt st).depth ≤ 2 := by
  obtain ⟨h1, h2⟩ := lay_map dStp 1 st fun s hs => stp_lay s (h s hs)
  exact ⟨h1, by show PyData.depthAll (st.map dStp) + 1 ≤ 2; omega⟩
theorem sts_toS (ss : List St) (h : ∀ st ∈ ss, StrOk st) (α : AH) : toS α (pSts ss) = some (dSts ss) := by
  obtain ⟨h1, h2⟩ := lay_map dSt 2 ss fun st hst => st_lay st (h st hst)
  have e : toA α (pSts ss) = some (dSts ss) := sts_toP ss
  unfold toS
  rw [e]
  have : SeqAt.shaped (dSts ss) = true := by
    show (PyData.canLayAll0 (ss.map dSt) && decide (PyData.depthAll (ss.map dSt) + 1 ≤ 64)) = true
    rw [h1, Bool.true_and]
    exact decide_eq_true (by omega)
  simp [this]
theorem sts_eq (a b : List St) (ha : ∀ st ∈ a, StrOk st) (hb : ∀ st ∈ b, StrOk st) (α : AH) : cop .eq (pSts a) (pSts b) α = .ok (.bl (decide (a = b))) α := by
  have e3 : eqP (pSts a) (pSts b) α = .ok (decide (a = b)) α := by
    show (match toS α (pSts a), toS α (pSts b) with
      | some d, some e => Res.ok (PyData.eqv d e) α
      | _, _ => .bad) = _
    rw [sts_toS a ha, sts_toS b hb]
    show Res.ok (PyData.eqv (dSts a) (dSts b)) α = _
    rw [sts_eqv]
  show ((eqP (pSts a) (pSts b) α).bind fun b α => Res.ok (PV.bl b) α) = _
  rw [e3]
  rfl
end Core
end
section
set_option Elab.async false
set_option linter.all false
set_option maxRecDepth 100000
set_option maxHeartbeats 4000000
/-! Kd2: Kind.__eq__. -/
namespace K08
open PySem Mw Tx Core
theorem chars_small : ∀ c ∈ chars.cps.toList, c < 0x110000 := by decide +kernel
theorem word_strOk {w : Str} (h : Word w) : PyData.strOk w = true := by
  unfold PyData.strOk
  rw [Array.all_eq_true_iff_forall_mem]
  intro c hc
  exact decide_eq_true (chars_small c (h.all c (by simpa using hc)))
theorem good_strOk {ss : List St} (h : GoodSts ss) : ∀ st ∈ ss, StrOk st := fun st hst s hs => ⟨word_strOk ((h.st st hst).words s hs).1, word_strOk ((h.st st hst).words s hs).2⟩
theorem keq_ok (d : Nat) {ss tt : List St} (hs : GoodSts ss) (ht : GoodSts tt) (c e : List Nat) (α : AH) : callD fs (d + 1) 12 [pKind ss c, pKind tt e] α = .ok (.bl (decide (ss = tt))) α := by
  refine eq_of_go ?_
  rw [go_run (fd := f_Kind_eq) (qs := [pKind ss c, pKind tt e]) rfl rfl rfl]
  show Go (dSs _ b_Kind_eq [some (pKind ss c), some (pKind tt e)] _) _
  unfold b_Kind_eq
  simp only [go_Scons, go_Sret, go_and, go_isC, go_var, List.getElem?_cons_zero, List.getElem?_cons_succ]
  rw [go_eq (show isCP (pKind tt e) 0 α = .ok (.bl true) α from rfl), go_truth]
  simp only [go_cmp, go_fld, go_var, List.getElem?_cons_zero, List.getElem?_cons_succ]
  rw [go_eq (show fldP 0 (pKind ss c) "states" α = .ok (pSts ss) α from rfl)]
  simp only [go_fld, go_var, List.getElem?_cons_zero, List.getElem?_cons_succ]
  rw [go_eq (show fldP 0 (pKind tt e) "states" α = .ok (pSts tt) α from rfl), go_eq (sts_eq ss tt (good_strOk hs) (good_strOk ht) α)]
  simp only [f_Kind_eq]
  rw [gcV_same]
  exact ⟨rfl, rfl⟩
end K08
end
section
set_option Elab.async false
set_option linter.all false
set_option maxRecDepth 100000
set_option maxHeartbeats 4000000
/-! Fd1: the feed: its cells, its whole, how often it was drawn. -/
namespace Fd
open PySem Mw
def fd (cs : List Int) (w n : Int) (rest : AH) : AH := .lst (cs.map .int) :: .lst [.ref 0, .int w, .int n] :: rest
section
variable {cs : List Int} {w n : Int} {rest : AH} {x : PV}
theorem fd_get0 : ixP (.ref 1) (.int 0) (fd cs w n rest) = .ok (.ref 0) (fd cs w n rest) := by rfl
theorem fd_get1 : ixP (.ref 1) (.int 1) (fd cs w n rest) = .ok (.int w) (fd cs w n rest) := by rfl
theorem fd_get2 : ixP (.ref 1) (.int 2) (fd cs w n rest) = .ok (.int n) (fd cs w n rest) := by rfl
theorem fd_set {m : Int} : setP (.ref 1) (.int 2) (.int m) (fd cs w n rest) = .ok () (fd cs w m rest) := by rfl
theorem ints_toPs : ∀ cs : List Int, toPs (cs.map PV.int) = some (cs.map PyData.int)
  | [] => rfl
  | c :: cs => by simp [toPs, toP, ints_toPs cs]
theorem ints_lay : ∀ cs : List Int, PyData.canLayAll0 (cs.map PyData.int) = true ∧ PyData.depthAll (cs.map PyData.int) = 0
  | [] => ⟨rfl, rfl⟩
  | c :: cs => by
    obtain ⟨h1, h2⟩ := ints_lay cs
    exact ⟨by simp [PyData.canLayAll0, PyData.canLay0, h1], by simp [PyData.depthAll, PyData.depth, h2]⟩
theorem fd_ne : cop .ne (.ref 0) (.fl []) (fd cs w n rest) = .ok (.bl (!cs.isEmpty)) (fd cs w n rest) := by
  obtain ⟨h1, h2⟩ := ints_lay cs
  have e : toS (fd cs w n rest) (.ref 0) = some (.list (cs.map PyData.int)) := by
    simp [toS, toA, fd, ints_toPs, SeqAt.shaped, PyData.canLay0, PyData.depth, h1, h2]
  have e2 : toS (fd cs w n rest) (.fl []) = some (.list []) := by rfl
  have e3 : eqP (.ref 0) (.fl []) (fd cs w n rest) = .ok cs.isEmpty (fd cs w n rest) := by
    show (match toS (fd cs w n rest) (.ref 0), toS (fd cs w n rest) (.fl []) with
      | some d, some e => Res.ok (PyData.eqv d e) (fd cs w n rest)
      | _, _ => .bad) = _
    rw [e, e2]
    cases cs <;> simp [PyData.eqv, PyData.eqvAll]
  show ((eqP (.ref 0) (.fl []) (fd cs w n rest)).bind fun b α => Res.ok (PV.bl (!b)) α) = _
  rw [e3]
  rfl
theorem fd_isTy : isTy "list" (.ref 0) (fd cs w n rest) = true := by rfl
theorem fd_pop {c : Int} : mP .pop (.ref 0) [] (fd (cs ++ [c]) w n rest) = .ok (.int c) (fd cs w n rest) := by
  simp [mP, lstAt, fd]
theorem fd_append {c : Int} (h : cs.length < sizeLine) : mP .append (.ref 0) [.int c] (fd cs w n rest) = .ok .non (fd (cs ++ [c]) w n rest) := by
  simp [mP, lstAt, fd, h]
end
end Fd
end
section
set_option Elab.async false
set_option linter.all false
set_option maxRecDepth 100000
set_option maxHeartbeats 4000000
/-! Fd2: a digit is drawn. -/
namespace Fd
open PySem Mw
def b_digit (c : Int) : Ss := (.cons (.asg (.sub (.var 0) (.int 2)) (.bin .add (.ix (.var 0) (.int 2)) (.int 1)))
  (.cons (.asg (.var 2) (.bin .add (.ix (.var 0) (.int 1)) (.bin .mul (.bin .mul (.int 61843) (.ix (.var 0) (.int 2))) (.ix (.var 0) (.int 2)))))
  (.cons (.ife (.cmp .ne (.ix (.var 0) (.int 0)) (.lst .nil)) (.cons (.asg (.var 3) (.mth .pop (.ix (.var 0) (.int 0)) .nil))
  (.cons (.ife (.cmp .ge (.var 3) (.bin .pow (.int 10) (.int 18))) (.cons (.expr (.mth .append (.ix (.var 0) (.int 0)) (.cons (.bin .fdiv (.var 3) (.var 1)) .nil)))
  (.cons (.ret (.bin .mod (.var 3) (.var 1)))
  .nil)) .nil)
  (.cons (.asg (.var 2) (.bin .add (.var 2) (.var 3)))
  .nil))) .nil)
  (.cons (.asg (.var 2) (.bin .mod (.bin .mul (.bin .mod (.var 2) (.int 2147483563)) (.int 48271)) (.int 2147483647)))
  (.cons (.asg (.var 2) (.bin .mod (.bin .add (.bin .add (.bin .mul (.var 2) (.var 2)) (.bin .mul (.int 39373) (.var 2))) (.int c)) (.int 2147483587)))
  (.cons (.ret (.bin .mod (.bin .fdiv (.bin .mod (.bin .mul (.var 2) (.int 16807)) (.int 2147483579)) (.int 64)) (.var 1)))
  .nil))))))
def f_digit (c : Int) : FD := ⟨"_law_digit", "_law_digit", ["_law_feed_here", "_law_many", "_law_mix", "_law_figure"], 2, b_digit c, false, true, none⟩
theorem digit_ok {fs : List FD} {c0 : Int} {jd : Nat} (hj : fs[jd]? = some (f_digit c0)) (d : Nat) (cs : List Int) (w n m : Int) (rest : AH) (hm : 0 < m) (hm2 : m < 1073741824) (hn : 0 ≤ n) (hn2 : n < 2 ^ 60) (hc : cs.length ≤ 62) {P : PV → AH → Prop}
    (h : ∀ r cs', 0 ≤ r → r < m → cs'.length ≤ 62 → P (.int r) (fd cs' w (n + 1) rest)) : Go (callD fs (d + 1) jd [.ref 1, .int m] (fd cs w n rest)) P := by
  rw [go_run (fd := f_digit c0) (qs := [.ref 1, .int m]) hj rfl rfl]
  show Go (dSs _ (b_digit c0) [some (.ref 1), some (.int m), none, none] _) _
  unfold b_digit
  obtain ⟨T0, hT⟩ : ∃ T0 : Ss, T0 = (.cons (.asg (.var 2) (.bin .mod (.bin .mul (.bin .mod (.var 2) (.int 2147483563)) (.int 48271)) (.int 2147483647)))
  (.cons (.asg (.var 2) (.bin .mod (.bin .add (.bin .add (.bin .mul (.var 2) (.var 2)) (.bin .mul (.int 39373) (.var 2))) (.int c0)) (.int 2147483587)))
  (.cons (.ret (.bin .mod (.bin .fdiv (.bin .mod (.bin .mul (.var 2) (.int 16807)) (.int 2147483579)) (.int 64)) (.var 1)))
  .nil))) := ⟨_, rfl⟩
  rw [← hT]
  have hR : ∀ r cs', 0 ≤ r → r < m → cs'.length ≤ 62 → P (gcV (fd cs w n rest) (f_digit c0).fz (.int r) (fd cs' w (n + 1) rest)).1 (gcV (fd cs w n rest) (f_digit c0).fz (.int r) (fd cs' w (n + 1) rest)).2 := by
    intro r cs' h1 h2 h3
    rw [gcV_id (by simp [fd])]
    exact h r cs' h1 h2 h3
  have tail : ∀ {R : Fl → AH → Prop} (F : Fn) (α : AH) (v : Int) (y : Option PV), (∀ r, 0 ≤ r → r < m → R (.rt (.int r)) α) → Go (dSs F T0 [some (.ref 1), some (.int m), some (.int v), y] α) R := by
    intro R F α v y h
    subst hT
    simp only [go_Scons, go_Sasg, go_bin, go_var, go_int, List.getElem?_cons_zero, List.getElem?_cons_succ, go_modI, go_addI, go_mulI, go_Tvar, List.set_cons_succ, List.set_cons_zero]
    refine ⟨by decide, .inr (by decide), by decide, ?_⟩
    generalize hx : v % 2147483563 * 48271 % 2147483647 = x
    have hx1 : 0 ≤ x := by rw [← hx]; exact Int.emod_nonneg _ (by decide)
    have hx2 : x < 2147483647 := by rw [← hx]; exact Int.emod_lt_of_pos _ (by decide)
    refine ⟨.inl (by omega), .inl (by decide), by decide, ?_⟩
    simp only [go_Sret, go_bin, go_var, go_int, List.getElem?_cons_zero, List.getElem?_cons_succ, go_modI, go_addI, go_mulI, go_fdivI]
    exact ⟨.inr (by decide), by decide, ⟨by decide, by decide⟩, hm, h _ (Int.emod_nonneg _ (by omega)) (Int.emod_lt_of_pos _ hm)⟩
  simp only [go_Scons, go_Sasg, go_bin, go_ix, go_int, go_var, List.getElem?_cons_zero, List.getElem?_cons_succ]
  rw [go_eq fd_get2, go_addI]
  simp only [go_Tsub, go_var, go_int, List.getElem?_cons_zero, List.getElem?_cons_succ]
  rw [go_eq fd_set]
  simp only [go_Scons, go_Sasg, go_bin, go_ix, go_int, go_var, List.getElem?_cons_zero, List.getElem?_cons_succ]
  rw [go_eq fd_get1]
  simp only [go_bin, go_ix, go_int, go_var, List.getElem?_cons_zero, List.getElem?_cons_succ]
  rw [go_eq fd_get2, go_mulI]
  refine ⟨.inl (by decide), ?_⟩
  simp only [go_bin, go_ix, go_int, go_var, List.getElem?_cons_zero, List.getElem?_cons_succ]
  rw [go_eq fd_get2, go_mulI]
  refine ⟨.inr (by omega), ?_⟩
  rw [go_addI]
  simp only [go_Tvar, List.set_cons_succ, List.set_cons_zero, go_Scons, go_Sif, go_cmp, go_ix, go_int, go_lst, go_Enil, go_var, List.getElem?_cons_zero, List.getElem?_cons_succ]
  rw [go_eq fd_get0]
  simp only [go_lst, go_Enil]
  refine ⟨l0, ?_⟩
  rw [go_eq fd_ne, go_truth]
  rcases List.eq_nil_or_concat cs with rfl | ⟨cs', c, rfl⟩
  · simp only [List.isEmpty_nil, Bool.not_true, go_Snil]
    exact tail _ _ _ _ fun r h1 h2 => hR r _ h1 h2 (by simp)
  · rw [List.concat_eq_append] at *
    simp only [List.length_append, List.length_singleton] at hc
    rw [show (!(cs' ++ [c]).isEmpty) = true by simp]
    simp only [go_Scons, go_Sasg, go_mth, go_ix, go_int, go_var, List.getElem?_cons_zero, List.getElem?_cons_succ]
    rw [go_eq fd_get0]
    refine ⟨rfl, ?_⟩
    rw [go_Enil, go_eq fd_pop]
    simp only [go_Tvar, List.set_cons_succ, List.set_cons_zero, go_Scons, go_Sif, go_cmp, go_bin, go_int, go_var, List.getElem?_cons_zero, List.getElem?_cons_succ, go_powI]
    refine ⟨⟨by decide, by decide, by decide⟩, ?_⟩
    rw [go_geI, go_truth]
    by_cases hbig : (10 : Int) ^ (Int.toNat 18) ≤ c
    · rw [decide_eq_true hbig]
      simp only [go_Scons, go_Sexpr, go_mth, go_ix, go_int, go_var, List.getElem?_cons_zero, List.getElem?_cons_succ]
      rw [go_eq fd_get0]
      refine ⟨rfl, ?_⟩
      simp only [go_Econs, go_Enil, go_bin, go_var, List.getElem?_cons_zero, List.getElem?_cons_succ, go_fdivI]
      refine ⟨⟨hm, hm2⟩, ?_⟩
      rw [go_eq (fd_append (by rw [PySem.sizeLine_eq]; omega))]
      simp only [go_Scons, go_Sret, go_bin, go_var, List.getElem?_cons_zero, List.getElem?_cons_succ, go_modI]
      exact ⟨hm, hR _ _ (Int.emod_nonneg _ (by omega)) (Int.emod_lt_of_pos _ hm) (by simp; omega)⟩
    · rw [decide_eq_false hbig]
      simp only [go_Snil, go_Scons, go_Sasg, go_bin, go_var, List.getElem?_cons_zero, List.getElem?_cons_succ, go_addI, go_Tvar, List.set_cons_succ, List.set_cons_zero]
      exact tail _ _ _ _ fun r h1 h2 => hR r cs' h1 h2 (by omega)
end Fd
end
section
set_option Elab.async false
set_option linter.all false
set_option maxRecDepth 100000
set_option maxHeartbeats 4000000
/-! Fd3: a feed that was drawn k times at most; a digit, a pick, a word. -/
namespace Fd
open PySem Mw
/-- the feed stands at the head of the store, drawn k times at most; behind it stands rest -/
def Fed (w : Int) (rest : AH) (k : Nat) (α : AH) : Prop := ∃ cs n, α = fd cs w n rest ∧ cs.length ≤ 62 ∧ 0 ≤ n ∧ n ≤ k
theorem Fed.mono {w : Int} {rest : AH} {k k' : Nat} {α : AH} (h : Fed w rest k α) (hk : k ≤ k') : Fed w rest k' α := by
  obtain ⟨cs, n, h1, h2, h3, h4⟩ := h
  exact ⟨cs, n, h1, h2, h3, by omega⟩
theorem Fed.len {w : Int} {rest : AH} {k : Nat} {α : AH} (h : Fed w rest k α) : α.length = rest.length + 2 := by
  obtain ⟨cs, n, rfl, _⟩ := h
  simp [fd]
section
variable {fs : List FD} {c0 w : Int} {jd jp k : Nat} {rest α : AH} {P : PV → AH → Prop}
theorem digit (hj : fs[jd]? = some (f_digit c0)) (d : Nat) {m : Int} (hf : Fed w rest k α) (hk : k < 2 ^ 59) (hm : 0 < m) (hm2 : m < 1073741824)
    (h : ∀ r α', 0 ≤ r → r < m → Fed w rest (k + 1) α' → P (.int r) α') : Go (callD fs (d + 1) jd [.ref 1, .int m] α) P := by
  obtain ⟨cs, n, rfl, h2, h3, h4⟩ := hf
  exact digit_ok hj d cs w n m rest hm hm2 h3 (by omega) h2 fun r cs' a b c => h r _ a b ⟨cs', n + 1, rfl, c, by omega, by omega⟩
def b_pick (jd : Nat) : Ss := (.cons (.ret (.ix (.var 1) (.call jd (.cons (.var 0) (.cons (.b1 .len (.var 1)) .nil)))))
  .nil)
def f_pick (jd : Nat) : FD := ⟨"_law_pick", "_law_pick", ["_law_feed_here", "_law_some"], 2, b_pick jd, false, true, none⟩
theorem pick_of (hj : fs[jd]? = some (f_digit c0)) (hp : fs[jp]? = some (f_pick jd)) (d : Nat) {p : PV} {m : Nat} (hf : Fed w rest k α) (hk : k < 2 ^ 59) (hm : 0 < m) (hm2 : m < 1073741824)
    (hl : ∀ α, b1 .len p α = .ok (.int m) α) (hi : ∀ (r : Int) α, 0 ≤ r → r < m → ∃ x, ixP p (.int r) α = .ok x α ∧ ∀ α', Fed w rest (k + 1) α' → P x α') : Go (callD fs (d + 2) jp [.ref 1, p] α) P := by
  rw [go_run (fd := f_pick jd) (qs := [.ref 1, p]) hp rfl rfl]
  show Go (dSs _ (b_pick jd) [some (.ref 1), some p] _) _
  unfold b_pick
  simp only [go_Scons, go_Sret, go_ix, go_var, List.getElem?_cons_zero, List.getElem?_cons_succ, go_call, go_Econs, go_b1]
  rw [go_eq (hl α), go_Enil]
  refine digit hj d hf hk (by omega) (by omega) fun r α' h1 h2 h3 => ?_
  obtain ⟨x, e, hx⟩ := hi r α' h1 h2
  rw [go_eq e]
  rw [gcV_id (by rw [h3.len, hf.len]; exact Nat.le_refl _)]
  exact hx _ h3
theorem pick (hj : fs[jd]? = some (f_digit c0)) (hp : fs[jp]? = some (f_pick jd)) (d : Nat) {p : PV} {xs : List PV} (hf : Fed w rest k α) (hk : k < 2 ^ 59) (hx : xs ≠ []) (hx2 : xs.length < 1073741824)
    (hp1 : p = .fl xs ∨ p = .tup xs) (h : ∀ x α', x ∈ xs → Fed w rest (k + 1) α' → P x α') : Go (callD fs (d + 2) jp [.ref 1, p] α) P := by
  have hs : ∀ z, p ≠ .str z := by
    intro z e
    rcases hp1 with rfl | rfl <;> cases e
  have hi : ∀ α, itemsS α p = some xs ∧ pairsD α p = none ∧ b1 .len p α = .ok (.int xs.length) α := by
    intro α
    rcases hp1 with rfl | rfl <;> exact ⟨rfl, rfl, rfl⟩
  refine pick_of hj hp d hf hk (List.length_pos_iff.mpr hx) hx2 (fun α => (hi α).2.2) fun r α' h1 h2 => ?_
  obtain ⟨x, hx1, hx2⟩ := ix_at (α := α') (p := p) h1 h2 (hi α').1 (hi α').2.1 hs
  exact ⟨x, hx2, fun α'' hf => h x α'' (List.mem_of_getElem? hx1) hf⟩
theorem pick_str (hj : fs[jd]? = some (f_digit c0)) (hp : fs[jp]? = some (f_pick jd)) (d : Nat) {z : Str} (hf : Fed w rest k α) (hk : k < 2 ^ 59) (hx : 0 < z.length) (hx2 : z.length < 1000000)
    (h : ∀ c α', c ∈ z.cps.toList → Fed w rest (k + 1) α' → P (.str ⟨#[c]⟩) α') : Go (callD fs (d + 2) jp [.ref 1, .str z] α) P := by
  have hln : lineOk z.length = true := line_le (by omega)
  have hlen : z.cps.toList.length = z.length := by simp [Str.length]
  refine pick_of hj hp d hf hk hx (by omega) (fun α => ?_) fun r α' h1 h2 => ?_
  · show need _ _ = _
    rw [hln]; rfl
  · obtain ⟨j, rfl⟩ := Int.eq_ofNat_of_zero_le h1
    have hj : j < z.cps.toList.length := by omega
    refine ⟨.str ⟨#[z.cps.toList[j]]⟩, ?_, fun α'' hf => h _ α'' (List.getElem_mem _) hf⟩
    have e : L2.atI z.cps.toList ((j : Nat) : Int) = some z.cps.toList[j] := L2.atI_nat (by simp [hj])
    show need _ _ = _
    rw [hln, need_true, e]
end
end Fd
end
section
set_option Elab.async false
set_option linter.all false
set_option maxRecDepth 100000
set_option maxHeartbeats 4000000
/-! Srt1: events sorted. -/
namespace Core
open PySem Mw Tx
def ltL (a b : Str) : Prop := a.cps.toList < b.cps.toList
instance (a b : Str) : Decidable (ltL a b) := inferInstanceAs (Decidable (a.cps.toList < b.cps.toList))
theorem ltL_tri {a b : Str} (h : ¬ ltL a b) (h2 : ¬ ltL b a) : a = b := Tx.tl_inj (List.le_antisymm (show b.cps.toList ≥ a.cps.toList from List.not_lt.mp h2) (List.not_lt.mp h))
theorem ltL_irr (a : Str) : ¬ ltL a a := List.lt_irrefl _
theorem ltL_trans {a b c : Str} (h : ltL a b) (h2 : ltL b c) : ltL a c := List.lt_trans h h2
def LtE (a b : Ev) : Prop := ltL a.1 b.1 ∨ (a.1 = b.1 ∧ ltL a.2 b.2)
theorem ltE_iff (a b : Ev) : ltE a b = true ↔ LtE a b := by
  unfold ltE LtE
  have e : ∀ a : Ev, enc (pEv a) = .tuple [.str a.1, .str a.2] := fun _ => rfl
  rw [e, e, W.dataLt_pair (by simp [W.alike]) (by simp [W.alike]), W.dataLt_str, W.dataLt_str]
  simp only [PyData.eqv, beq_iff_eq]
  show _ ↔ (a.1.cps.toList < b.1.cps.toList ∨ (a.1 = b.1 ∧ a.2.cps.toList < b.2.cps.toList))
  by_cases h1 : a.1 = b.1
  · rw [if_pos h1]
    have n1 : ¬ a.1.cps.toList < b.1.cps.toList := by rw [h1]; exact List.lt_irrefl _
    by_cases h2 : a.2 = b.2
    · rw [if_pos h2]
      have n2 : ¬ a.2.cps.toList < b.2.cps.toList := by rw [h2]; exact List.lt_irrefl _
      simp [n1, n2]
    · rw [if_neg h2, decide_eq_true_eq]
      exact ⟨fun z => .inr ⟨h1, z⟩, fun z => z.elim (fun q => absurd q n1) fun q => q.2⟩
  · rw [if_neg h1, decide_eq_true_eq]
    exact ⟨.inl, fun z => z.elim id fun q => absurd q.1 h1⟩
theorem LtE_tri {a b : Ev} (h : ¬ LtE a b) (h2 : ¬ LtE b a) : a = b := by
  have e1 : a.1 = b.1 := ltL_tri (fun z => h (.inl z)) (fun z => h2 (.inl z))
  have e2 : a.2 = b.2 := ltL_tri (fun z => h (.inr ⟨e1, z⟩)) (fun z => h2 (.inr ⟨e1.symm, z⟩))
  exact Prod.ext e1 e2
theorem LtE_irr (a : Ev) : ¬ LtE a a := fun h => h.elim (ltL_irr _) fun h => ltL_irr _ h.2
theorem LtE_trans {a b c : Ev} (h : LtE a b) (h2 : LtE b c) : LtE a c := by
  rcases h with h | ⟨e, h⟩ <;> rcases h2 with h2 | ⟨e2, h2⟩
  · exact .inl (ltL_trans h h2)
  · exact .inl (e2 ▸ h)
  · exact .inl (e ▸ h2)
  · exact .inr ⟨e.trans e2, ltL_trans h h2⟩
def srtE (m : List Ev) : List Ev := m.mergeSort fun a b => !ltE b a
theorem srtE_P (m : List Ev) : sortP (m.map pEv) = (srtE m).map pEv := by
  unfold sortP srtE
  exact (List.map_mergeSort fun a _ b _ => by rw [W.dataLe_eq]; rfl).symm
theorem srtE_perm (m : List Ev) : (srtE m).Perm m := List.mergeSort_perm _ _
theorem srtE_asc {m : List Ev} (h : m.Nodup) : (srtE m).Pairwise fun a b => ltE a b = true := by
  have h1 : (srtE m).Pairwise fun a b => (!ltE b a) = true := List.pairwise_mergeSort (le := fun a b => !ltE b a) (fun a b c h1 h2 => by
    simp only [Bool.not_eq_true', Bool.eq_false_iff, ne_eq, ltE_iff] at *
    intro h
    by_cases q : LtE a b
    · exact h2 (LtE_trans h q)
    · have := LtE_tri q h1
      subst this
      exact h2 h) (fun a b => by
    simp only [Bool.or_eq_true, Bool.not_eq_true', Bool.eq_false_iff, ne_eq, ltE_iff]
    by_cases q : LtE b a
    · exact .inr fun z => LtE_irr _ (LtE_trans q z)
    · exact .inl q) m
  have h2 : (srtE m).Nodup := (srtE_perm m).nodup_iff.mpr h
  refine (h1.and h2).imp fun ⟨q1, q2⟩ => ?_
  simp only [Bool.not_eq_true', Bool.eq_false_iff, ne_eq, ltE_iff] at q1
  rw [ltE_iff]
  exact Classical.byContradiction fun z => q2 (LtE_tri z q1)
theorem sortOk_ev {m : List Ev} (h : m.length < 1000000) : sortOk (m.map pEv) = true := by
  unfold sortOk
  simp only [Bool.and_eq_true, Bool.or_eq_true, List.all_eq_true, decide_eq_true_eq, List.mem_map, forall_exists_index, and_imp, forall_apply_eq_imp_iff₂]
  have e : ∀ a : Ev, enc (pEv a) = .tuple [.str a.1, .str a.2] := fun _ => rfl
  refine ⟨⟨⟨fun i _ => ⟨rfl, ?_⟩, fun i _ j _ => ?_⟩, .inl fun i _ => rfl⟩, ?_⟩
  · rw [e]; simp [PyData.depth, PyData.depthAll]
  · rfl
  · exact line_le (by rw [List.length_map]; omega)
theorem sorted_ev {m : List Ev} {p : PV} {α : AH} (hs : setItems p = none) (hp : itemsK α p = some (m.map pEv)) (h : m.length < 1000000) : b1 .sorted p α = .ok (.fl ((srtE m).map pEv)) α := by
  unfold b1
  simp only [hs, hp]
  rw [sortOk_ev h, need_true, srtE_P]
theorem GoodSt.of_sub {many : Nat} {M : List Ev} {st : St} (hM : M.Pairwise fun a b => ltE a b = true) (hl : M.length ≤ 24) (hw : ∀ e ∈ M, Word e.1 ∧ Word e.2) (hs : (st.map (·.1)).Sublist M) (ht : ∀ s ∈ st, s.2 < many) : GoodSt many st :=
  ⟨fun s h => hw _ (hs.subset (List.mem_map_of_mem h)), ht, hM.sublist hs, by
    have := hs.length_le
    rw [List.length_map] at this
    omega⟩
theorem GoodSts.of_sub {M : List Ev} {ss : List St} (hM : M.Pairwise fun a b => ltE a b = true) (hl : M.length ≤ 24) (hw : ∀ e ∈ M, Word e.1 ∧ Word e.2) (h1 : 0 < ss.length) (h2 : ss.length ≤ 40) (hs : ∀ st ∈ ss, (st.map (·.1)).Sublist M ∧ ∀ s ∈ st, s.2 < ss.length) : GoodSts ss :=
  ⟨h1, h2, fun st h => .of_sub hM hl hw (hs st h).1 (hs st h).2, by
    refine Nat.le_trans (nodup_le _ M (dd_nodup _) fun e he => ?_) hl
    rw [dd_mem] at he
    obtain ⟨st, h1, h2⟩ := List.mem_flatMap.mp he
    exact (hs st h1).1.subset h2⟩
end Core
end
section
set_option Elab.async false
set_option linter.all false
set_option maxRecDepth 100000
set_option maxHeartbeats 4000000
/-! Dr1: a word is drawn. -/
namespace K08
open PySem Mw Tx Core Fd
theorem hDig : fs[18]? = some (f_digit 811) := rfl
theorem hPick : fs[19]? = some (f_pick 18) := rfl
theorem join_chars : ∀ cs : List Nat, tl (Str.join Str.empty (cs.map fun c => ⟨#[c]⟩)) = cs
  | [] => rfl
  | [c] => rfl
  | c :: e :: r => by
    show tl ((⟨#[c]⟩ : Str) ++ Str.empty ++ Str.join Str.empty ((e :: r).map fun c => ⟨#[c]⟩)) = _
    rw [tl_app, tl_app, join_chars (e :: r), tl_one]
    rfl
theorem rangeP_len (m : Nat) : (rangeP 0 m).length = m := by
  simp [rangeP]
theorem int_pick {p : PV} {is : List Int} (h : p ∈ is.map PV.int) : ∃ i ∈ is, p = .int i := by
  obtain ⟨i, h1, rfl⟩ := List.mem_map.mp h
  exact ⟨i, h1, rfl⟩
theorem range1 (m : Nat) (hm : m < 1000000) (α : AH) : srcRange (.int 0) (.int m) α = .ok ⟨rangeP 0 m, none⟩ α := by
  unfold srcRange
  dsimp only
  rw [decide_eq_true (by omega), need_true]
theorem drawn_word (d : Nat) {w : Int} {rest α : AH} {k : Nat} {P : PV → AH → Prop} (hf : Fed w rest k α) (hk : k < 2 ^ 58)
    (h : ∀ x α', Word x → Fed w rest (k + 13) α' → P (.str x) α') : Go (callD fs (d + 3) 20 [.ref 1] α) P := by
  rw [go_run (fd := f_law_word) (qs := [.ref 1]) rfl rfl rfl]
  show Go (dSs _ b_law_word [some (.ref 1), none, none] _) _
  unfold b_law_word
  simp only [go_Scons, go_Sasg, go_str, go_Tvar, List.set_cons_zero, List.set_cons_succ, go_Sret, go_mth, go_Econs, go_Enil, go_comp, go_Ir1, go_bin, go_int, go_call, go_var, go_lst, List.getElem?_cons_zero, List.getElem?_cons_succ]
  refine ⟨rfl, l6, ?_⟩
  refine pick hDig hPick d (xs := [0, 0, 1, 2, 5, 11].map PV.int) hf (by omega) (by simp) (by simp) (.inl rfl) fun p α1 hp hf1 => ?_
  obtain ⟨i, hi, rfl⟩ := int_pick hp
  obtain ⟨m, hm, hm2⟩ : ∃ m : Nat, (i + 1 : Int) = m + 1 ∧ m ≤ 11 := by
    refine ⟨i.toNat, ?_, ?_⟩ <;> (simp only [List.mem_cons, List.not_mem_nil, or_false] at hi; omega)
  rw [go_addI, show (1 + i : Int) = ((m + 1 : Nat) : Int) by omega, go_eq (range1 (m + 1) (by omega) α1)]
  simp only [lockN, wipeP, List.set_cons_zero, List.set_cons_succ]
  refine (turns_inv (P := fun ys α => ∃ cs : List Nat, ys = cs.map (fun c => PV.str ⟨#[c]⟩) ∧ (∀ c ∈ cs, c ∈ chars.cps.toList) ∧ cs.length = m + 1 ∧ Fed w rest (k + 13) α)
    (I := fun r ys α => ∃ cs : List Nat, ys = cs.map (fun c => PV.str ⟨#[c]⟩) ∧ (∀ c ∈ cs, c ∈ chars.cps.toList) ∧ cs.length + r.length = m + 1 ∧ Fed w rest (k + 1 + cs.length) α) ?_ ?_ (rangeP 0 ((m + 1 : Nat) : Int)) [] α1 ⟨[], rfl, by simp, by rw [rangeP_len]; simp, hf1⟩).imp ?_
  · rintro x r ys α ⟨cs, rfl, h1, h2, h3⟩
    refine ⟨rfl, ?_⟩
    unfold compStep
    simp only [List.length_cons] at h2
    simp only [go_bind, go_Tvar, go_Cnone, go_call, go_Econs, go_Enil, go_var, List.set_cons_zero, List.set_cons_succ, List.getElem?_cons_zero, List.getElem?_cons_succ]
    refine pick_str hDig hPick d h3 (by omega) (by decide) (by decide) fun c α' hc hf' => ?_
    refine ⟨cs ++ [c], by simp [consO], ?_, by simp; omega, by simpa [Nat.add_assoc] using hf'⟩
    intro e he
    rcases List.mem_append.mp he with he | he
    · exact h1 e he
    · rw [List.mem_singleton.mp he]
      exact hc
  · rintro ys α ⟨cs, rfl, h1, h2, h3⟩
    simp only [List.length_nil, Nat.add_zero] at h2
    exact ⟨rfl, cs, rfl, h1, h2, h3.mono (by omega)⟩
  · rintro ys α ⟨cs, h0, h1, h2, h3⟩
    rw [List.nil_append] at h0
    subst h0
    refine ⟨by rw [List.length_map, h2]; exact line_le (by omega), ?_⟩
    rw [go_doneN]
    have e : cs.map (fun c => PV.str ⟨#[c]⟩) = (cs.map fun c => (⟨#[c]⟩ : Str)).map PV.str := by rw [List.map_map]; rfl
    rw [e, go_eq (join_ok (sep := Str.ofString "") (p := .fl ((cs.map fun c => (⟨#[c]⟩ : Str)).map PV.str)) (xs := cs.map fun c => (⟨#[c]⟩ : Str)) rfl (by decide) (fun x hx => by
      obtain ⟨c, _, rfl⟩ := List.mem_map.mp hx
      show (1 : Nat) ≤ _
      omega) (by rw [List.length_map]; omega))]

    have hle : α.length ≤ _ := Nat.le_of_eq (h3.len.trans hf.len.symm)
    rw [gcV_id hle]
    have hj : tl (Str.join (Str.ofString "") (cs.map fun c => ⟨#[c]⟩)) = cs := join_chars cs
    have hlen : (Str.join (Str.ofString "") (cs.map fun c => (⟨#[c]⟩ : Str))).length = cs.length := by
      rw [← congrArg List.length hj]
      simp [tl, Str.length]
    refine h _ α ⟨by rw [hlen]; omega, by rw [hlen]; omega, fun c hc => h1 c ?_⟩ h3
    have hc : c ∈ tl (Str.join (Str.ofString "") (cs.map fun c => (⟨#[c]⟩ : Str))) := hc
    rw [hj] at hc
    exact hc
end K08
end
section
set_option Elab.async false
set_option linter.all false
set_option maxRecDepth 100000
set_option maxHeartbeats 4000000
/-! Fd4: the feed is made. -/
namespace Fd
open PySem Mw
theorem fd_app {cs : List Int} {w n : Int} {r : AH} {x : AO} : fd cs w n r ++ [x] = fd cs w n (r ++ [x]) := rfl
theorem Fed.app {w : Int} {rest : AH} {k : Nat} {α : AH} (h : Fed w rest k α) (x : AO) : Fed w (rest ++ [x]) k (α ++ [x]) := by
  obtain ⟨cs, n, rfl, h⟩ := h
  exact ⟨cs, n, rfl, h⟩
theorem Fed.at2 {w : Int} {x : AO} {rest : AH} {k : Nat} {α : AH} (h : Fed w (x :: rest) k α) : α[2]? = some x := by
  obtain ⟨cs, n, rfl, h⟩ := h
  rfl
theorem Fed.at3 {w : Int} {x y : AO} {rest : AH} {k : Nat} {α : AH} (h : Fed w (x :: y :: rest) k α) : α[3]? = some y := by
  obtain ⟨cs, n, rfl, h⟩ := h
  rfl
theorem Fed.set2 {w : Int} {x y : AO} {rest : AH} {k : Nat} {α : AH} (h : Fed w (x :: rest) k α) : Fed w (y :: rest) k (α.set 2 y) := by
  obtain ⟨cs, n, rfl, h⟩ := h
  exact ⟨cs, n, rfl, h⟩
theorem Fed.set3 {w : Int} {x y z : AO} {rest : AH} {k : Nat} {α : AH} (h : Fed w (x :: y :: rest) k α) : Fed w (x :: z :: rest) k (α.set 3 z) := by
  obtain ⟨cs, n, rfl, h⟩ := h
  exact ⟨cs, n, rfl, h⟩
theorem closedL_ints (n : Nat) (cs : List Int) : closedL n (cs.map .int) = true := closedL_map (fun _ => rfl) cs
/-- a def that leaves nothing behind but the feed -/
theorem Fed.gc {w : Int} {rest : AH} {k k' : Nat} {α α' : AH} {fz : Bool} {p : PV} (h : Fed w [] k α) (h' : Fed w rest k' α') (hr : rest ≠ []) (hp : ∀ k, p ≠ .ref k) (hc : closed 2 p = true) : (Mw.gcV α fz p α').1 = p ∧ Fed w [] k' (Mw.gcV α fz p α').2 := by
  obtain ⟨cs, n, rfl, h⟩ := h
  obtain ⟨cs', n', rfl, h'⟩ := h'
  have e : thawB fz (fd cs w n []).length (fd cs' w n' rest) p = p := by
    cases fz
    · rfl
    · exact thaw_no hp
  have e2 : Mw.gcV (fd cs w n []) fz p (fd cs' w n' rest) = (p, fd cs' w n' []) := by
    unfold Mw.gcV
    have hl : 0 < rest.length := List.length_pos_iff.mpr hr
    rw [if_neg (by simp [fd]; omega), e]
    have hc2 : closed (fd cs w n []).length p = true := hc
    have ho : gcOk (fd cs w n []).length (fd cs w n []) (fd cs' w n' rest) = true := by
      show gcOk 2 [_, _] (_ :: _ :: rest) = true
      have h1 : closedO 2 (.lst (cs'.map .int)) = true := closedL_ints 2 cs'
      have h2 : closedO 2 (.lst [.ref 0, .int w, .int n']) = true := rfl
      unfold gcOk gcOk gcOk
      rw [h1, h2]
      simp
    rw [hc2, ho]
    rfl
  rw [e2]
  exact ⟨rfl, cs', n', rfl, h'⟩
theorem cut_fst (xs : List PV) (n : Nat) : cutP xs none (some (n : Int)) = xs.take n := by
  unfold cutP
  have e : HT.sIx xs.length 0 none = 0 := by simp [HT.sIx]
  rw [e, List.drop_zero, Nat.sub_zero]
  have e2 : HT.sIx xs.length xs.length (some (n : Int)) = min n xs.length := HT.sIx_nat _ _ _
  rw [e2]
  by_cases h : n ≤ xs.length
  · rw [Nat.min_eq_left h]
  · rw [Nat.min_eq_right (by omega), List.take_of_length_le (Nat.le_refl _), List.take_of_length_le (by omega)]
def b_feed (a c : Int) : Ss := (.cons (.par [2, 3] (.cons (.b1 .list (.sl (.var 0) .none (.some (.int 62)))) (.cons (.int a) .nil)))
  (.cons (.loop (.var 1) (.val (.var 2)) (.cons (.asg (.var 3) (.bin .mod (.bin .add (.bin .add (.bin .mul (.var 3) (.int 40692)) (.bin .mod (.var 1) (.int 2147483549))) (.int c)) (.int 2147483629)))
  .nil))
  (.cons (.ret (.join (.lst (.cons (.join (.rev (.var 2))) (.cons (.var 3) (.cons (.int 0) .nil))))))
  .nil)))
def f_feed (a c : Int) : FD := ⟨"_law_feed", "_law_feed", ["_law_script", "_law_figure", "_law_cells", "_law_whole"], 1, b_feed a c, false, false, none⟩
theorem feed_ok {fs : List FD} {a c : Int} {j : Nat} (hj : fs[j]? = some (f_feed a c)) (d : Nat) (ns : List Int) {P : PV → AH → Prop} (h : ∀ w α, Fed w [] 0 α → P (.ref 1) α) : Go (callD fs (d + 1) j [.scr (ns.map PV.int)] []) P := by
  rw [go_run (fd := f_feed a c) (qs := [.scr (ns.map PV.int)]) hj rfl rfl]
  show Go (dSs _ (b_feed a c) [some (.scr (ns.map PV.int)), none, none, none] _) _
  unfold b_feed
  obtain ⟨cs, hcs⟩ : ∃ cs, cs = ns.take 62 := ⟨_, rfl⟩
  have hcl : cs.length ≤ 62 := by rw [hcs]; exact List.length_take_le _ _
  have e1 : cutP (ns.map PV.int) none (some 62) = cs.map PV.int := by
    rw [hcs, List.map_take]
    exact cut_fst _ 62
  simp only [go_Scons, go_Spar, go_Econs, go_Enil, go_b1, go_sl, go_var, List.getElem?_cons_zero, go_Onone, go_Osome, go_int, partO, go_ok]
  rw [go_eq (show slP (.scr (ns.map PV.int)) none (some 62) [] = .ok (.fl (cs.map PV.int)) [] by rw [← e1]; rfl),
    go_eq (show b1 .list (.fl (cs.map PV.int)) [] = .ok (.fl (cs.map PV.int)) [] from rfl)]
  refine ⟨rfl, ?_⟩
  show Go (dSs _ _ [some (.scr (ns.map PV.int)), none, some (.fl (cs.map PV.int)), some (.int a)] _) _
  simp only [go_Scons, go_Sloop, go_Ival, go_var, List.getElem?_cons_zero, List.getElem?_cons_succ, srcOf, go_ok, lockN]
  refine turnsF_inv (I := fun r ρ α => α = [] ∧ ∃ (ms : List Int) (z : Option PV) (v : Int), r = ms.map PV.int ∧ ρ = [some (.scr (ns.map PV.int)), z, some (.fl (cs.map PV.int)), some (.int v)]) ?_ ?_ _ _ _ ⟨rfl, cs, none, a, rfl, rfl⟩
  · rintro x r ρ α ⟨rfl, ms, z, v, e, rfl⟩
    cases ms with
    | nil => cases e
    | cons i ms =>
      rw [List.map_cons, List.cons.injEq] at e
      obtain ⟨rfl, rfl⟩ := e
      refine ⟨rfl, ?_⟩
      simp only [go_bind, go_Tvar, List.set_cons_zero, List.set_cons_succ, go_Scons, go_Sasg, go_bin, go_var, go_int, List.getElem?_cons_zero, List.getElem?_cons_succ, go_mulI, go_modI, go_addI, go_Snil]
      refine ⟨.inr (by decide), by decide, by decide, ?_⟩
      rw [gcL_same]
      exact ⟨rfl, ms, _, _, rfl, rfl⟩
  · rintro ρ α ⟨rfl, ms, z, v, e, rfl⟩
    refine ⟨rfl, ?_⟩
    rw [go_doneN]
    simp only [go_Scons, go_Sret, go_join, go_lst, go_Econs, go_Enil, go_rev, go_var, go_int, List.getElem?_cons_zero, List.getElem?_cons_succ]
    rw [go_eq (show revP (.fl (cs.map PV.int)) [] = .ok (.fl (cs.reverse.map PV.int)) [] by rw [List.map_reverse]; rfl),
      go_eq (show joinP (.fl (cs.reverse.map PV.int)) [] = .ok (.ref 0) [.lst (cs.reverse.map PV.int)] from rfl)]
    refine ⟨l3, ?_⟩
    rw [go_eq (show joinP (.fl [.ref 0, .int v, .int 0]) [.lst (cs.reverse.map PV.int)] = .ok (.ref 1) [.lst (cs.reverse.map PV.int), .lst [.ref 0, .int v, .int 0]] from rfl)]
    have e : gcV [] (f_feed a c).fz (.ref 1) [.lst (cs.reverse.map PV.int), .lst [.ref 0, .int v, .int 0]] = (.ref 1, [.lst (cs.reverse.map PV.int), .lst [.ref 0, .int v, .int 0]]) := by
      unfold gcV
      rw [if_neg (by simp), if_neg (by rw [show thawB (f_feed a c).fz ([] : AH).length [AO.lst (cs.reverse.map PV.int), .lst [.ref 0, .int v, .int 0]] (.ref 1) = .ref 1 from rfl]; simp [closed])]
    rw [e]
    exact h v _ ⟨cs.reverse, 0, rfl, by rw [List.length_reverse]; exact hcl, Int.le_refl _, Int.le_refl _⟩
end Fd
end
section
set_option Elab.async false
set_option linter.all false
set_option maxRecDepth 100000
set_option maxHeartbeats 4000000
/-! Dr2: states are drawn. -/
namespace K08
open PySem Mw Tx Core Fd
def pMenu (m : List Ev) : List (PV × PV) := m.map fun e => (pEv e, .bl true)
theorem pMenu_find (m : List Ev) (e : Ev) : dfind (pMenu m) (pEv e) = if e ∈ m then some (.bl true) else none := by
  induction m with
  | nil => rfl
  | cons x m ih =>
    unfold dfind pMenu at *
    rw [List.map_cons, List.find?_cons]
    simp only [pEv_key]
    by_cases h : x = e
    · subst h; simp
    · rw [decide_eq_false h]
      dsimp only
      rw [ih]
      have h' : ¬ e = x := fun z => h z.symm
      simp [h']
theorem pMenu_put (m : List Ev) (e : Ev) : dput (pMenu m) (pEv e) (.bl true) = pMenu (add1 m e) := by
  unfold dput add1
  rw [pMenu_find]
  by_cases h : e ∈ m
  · rw [if_pos h, if_pos h]
    simp only [Option.isSome_some, if_true]
    unfold pMenu
    rw [List.map_map]
    refine List.map_congr_left fun x _ => ?_
    simp only [Function.comp]
    split <;> rfl
  · rw [if_neg h, if_neg h]
    simp [pMenu]
theorem closed_ev (n : Nat) (e : Ev) : closed n (pEv e) = true := rfl
theorem closed_sts (n : Nat) (ss : List St) : closed n (.tup (ss.map pSt)) = true := closedL_map (f := pSt) (fun st => show closedL n (st.map pStp) = true from closedL_map (f := pStp) (fun s => rfl) st) ss
theorem cut24 (xs : List PV) (α : AH) : slP (.fl xs) none (some 24) α = .ok (.fl (xs.take 24)) α := by
  show Res.ok (PV.fl (cutP xs none (some 24))) α = _
  rw [show cutP xs none (some 24) = xs.take 24 from cut_fst xs 24]
def rowE : E := (.comp (.var 8) [8] (.val (.var 5)) (.some (.cmp .gt (.call 18 (.cons (.var 0) (.cons (.int 3) .nil))) (.int 0))) (.bin .add (.var 8) (.tup (.cons (.call 18 (.cons (.var 0) (.cons (.var 6) .nil))) .nil))))
theorem row_ok (d : Nat) {w : Int} {rest α : AH} {K s : Nat} {M : List Ev} {p1 z2 z3 z4 z7 : Option PV} {Q : PV → AH → Prop} (h1 : Fed w rest K α) (hk : K < 2 ^ 58) (hs1 : 0 < s) (hs2 : s ≤ 40) (hMl : M.length ≤ 24)
    (h : ∀ (st : St) α', (st.map (·.1)).Sublist M → (∀ x ∈ st, x.2 < s) → Fed w rest (K + 48) α' → Q (.fl (st.map pStp)) α') : Go (dE (callD fs (d + 3)) rowE [some (.ref 1), p1, z2, z3, z4, some (.fl (M.map pEv)), some (.int s), z7, none] α) Q := by
  unfold rowE
  simp only [go_ok, go_bind, go_need, go_ofO_some, go_truth, go_var, go_non, go_bl, go_int, go_str, go_tup, go_lst, go_dct, go_bin, go_cmp, go_neg, go_not, go_ix, go_sl, go_Onone, go_Osome, go_rev, go_b1, go_b2, go_mth, go_call, go_callK, go_join, go_Enil, go_Econs, go_Pnil, go_Pcons, go_comp, go_Ival, go_Ir1, go_Ir2, go_Ivals, go_Iitems, go_Ikeys, go_Ienum, go_Izip, go_gcon, go_gstr, go_fld, go_meth, go_methK, go_prop, go_cmeth, go_cmethK, go_mk, go_mkS, go_isT, go_isC, go_oeq, go_fmt, go_fstr, go_chain, go_and, go_or, go_Eife, go_scomp, go_scomp2, go_dcomp, go_Cnone, go_Csome, go_Tvar, go_Ttup, go_Tsub, go_Tnil, go_Tcons, go_Snil, go_Scons, go_Sexpr, go_Sasg, go_Spar, go_Sret, go_Sif, go_Sloop, go_Swhl, go_doneN, lockN, partO, srcOf, go_addI, go_subI, go_ltI, go_gtI, go_leI, go_geI, List.getElem?_cons_zero, List.getElem?_cons_succ, List.set_cons_zero, List.set_cons_succ, Bool.not_true, Bool.not_false, wipeP]
  refine (turns_inv (P := fun ys α' => ∃ st : St, ys = st.map pStp ∧ (st.map (·.1)).Sublist M ∧ (∀ x ∈ st, x.2 < s) ∧ Fed w rest (K + 48) α')
    (I := fun r ys α' => ∃ (pre suf : List Ev) (st : St), M = pre ++ suf ∧ r = suf.map pEv ∧ ys = st.map pStp ∧ (st.map (·.1)).Sublist pre ∧ (∀ x ∈ st, x.2 < s) ∧ Fed w rest (K + 2 * pre.length) α')
    ?_ ?_ (M.map pEv) [] α ⟨[], M, [], rfl, rfl, rfl, .slnil, by simp, h1⟩).imp ?_
  · rintro x r ys α' ⟨pre, suf, st, e1, e2, rfl, e3, e4, e5⟩
    cases suf with
    | nil => cases e2
    | cons e suf =>
      rw [List.map_cons, List.cons.injEq] at e2
      obtain ⟨rfl, rfl⟩ := e2
      have hpl : pre.length + 1 ≤ 24 := by
        have := congrArg List.length e1
        simp only [List.length_append, List.length_cons] at this
        omega
      refine ⟨rfl, ?_⟩
      unfold compStep
      simp only [go_bind, go_Tvar, List.set_cons_zero, List.set_cons_succ, go_Csome, go_cmp, go_call, go_Econs, go_var, go_int, go_Enil, List.getElem?_cons_zero, List.getElem?_cons_succ]
      refine digit hDig (d + 2) e5 (by omega) (by decide) (by decide) fun r' α3 a1 a2 hf3 => ?_
      rw [go_gtI]
      simp only [go_truth]
      cases hb : decide ((0 : Int) < r') with
      | true =>
        simp only [go_bind, go_bin, go_tup, go_call, go_Econs, go_Enil, go_var, List.getElem?_cons_zero, List.getElem?_cons_succ]
        refine digit hDig (d + 2) hf3 (by omega) (by omega) (by omega) fun r2 α4 b1 b2 hf4 => ?_
        refine ⟨l1, ?_⟩
        rw [go_eq (show bop .add (pEv e) (.tup [.int r2]) α4 = .ok (pStp (e, r2.toNat)) α4 by
          show need (lineOk 3) (Res.ok (PV.tup [.str e.1, .str e.2, .int r2]) α4) = _
          rw [l3, need_true]
          show _ = Res.ok (PV.tup [.str e.1, .str e.2, .int (r2.toNat : Int)]) α4
          rw [Int.toNat_of_nonneg b1])]
        simp only [go_ok]
        refine ⟨pre ++ [e], suf, st ++ [(e, r2.toNat)], by rw [e1]; simp, rfl, by simp [consO], ?_, ?_, hf4.mono (by rw [List.length_append]; simp; omega)⟩
        · rw [List.map_append]
          exact e3.append (List.Sublist.refl _)
        · intro y hy
          rcases List.mem_append.mp hy with hy | hy
          · exact e4 y hy
          · rw [List.mem_singleton.mp hy]
            show r2.toNat < s
            omega
      | false =>
        simp only [go_ok]
        exact ⟨pre ++ [e], suf, st, by rw [e1]; simp, rfl, by simp [consO], e3.trans (List.sublist_append_left _ _), e4, hf3.mono (by rw [List.length_append]; simp; omega)⟩
  · rintro ys α' ⟨pre, suf, st, e1, e2, rfl, e3, e4, e5⟩
    have : suf = [] := by simpa using e2.symm
    subst this
    rw [List.append_nil] at e1
    subst e1
    exact ⟨rfl, st, rfl, e3, e4, e5.mono (by omega)⟩
  · rintro ys α' ⟨st, e0, e1, e2, e3⟩
    rw [List.nil_append] at e0
    subst e0
    have hsl : st.length ≤ 24 := by
      have := e1.length_le
      rw [List.length_map] at this
      omega
    refine ⟨line_le (by rw [List.length_map]; omega), ?_⟩
    exact h st α' e1 e2 e3
def drawnT : Ss := (.cons (.asg (.tup (.cons (.var 5) (.cons (.var 6) .nil))) (.tup (.cons (.sl (.b1 .sorted (.var 4)) .none (.some (.int 24))) (.cons (.b2 .min (.call 19 (.cons (.var 0) (.cons (.lst (.cons (.int 1) (.cons (.int 2) (.cons (.int 3) (.cons (.int 5) (.cons (.int 12) (.cons (.int 40) .nil))))))) .nil))) (.var 1)) .nil))))
  (.cons (.loop (.var 2) (.range1 (.var 6)) (.cons (.asg (.var 7) rowE)
  (.cons (.expr (.mth .append (.var 3) (.cons (.b1 .tuple (.var 7)) .nil)))
  .nil)))
  (.cons (.ret (.b1 .tuple (.var 3)))
  .nil)))
theorem second_ok (d : Nat) {w : Int} {α0 α : AH} {k0 k most : Nat} {m : List Ev} {z : Option PV} {P : PV → AH → Prop} (hf : Fed w [] k0 α0) (h1 : Fed w [.lst [], .dct (pMenu m)] k α) (hk : k < 2 ^ 58 - 3000) (hm : 0 < most) (hm2 : most ≤ 40)
    (h3 : m.length ≤ 100) (h4 : m.Nodup) (h5 : ∀ e ∈ m, Word e.1 ∧ Word e.2)
    (h : ∀ ss α', GoodSts ss → Fed w [] (k + 2000) α' → P (pSts ss) α') : Go (dSs (callD fs (d + 3)) drawnT [some (.ref 1), some (.int most), z, some (.ref 2), some (.ref 3), none, none, none, none] α) (fun r α' => match r with
      | .rt p => P (gcV α0 f_law_drawn.fz p α').1 (gcV α0 f_law_drawn.fz p α').2
      | .nx _ => P (gcV α0 f_law_drawn.fz .non α').1 (gcV α0 f_law_drawn.fz .non α').2
      | _ => False) := by
  obtain ⟨E, hE, hM1, hM3⟩ : ∃ E : List Ev, b1 .sorted (.ref 3) α = .ok (.fl (E.map pEv)) α ∧ (E.Pairwise fun a b => ltE a b = true) ∧ ∀ e ∈ E, Word e.1 ∧ Word e.2 :=
    ⟨srtE m, sorted_ev (m := m) (p := .ref 3) rfl (by simp [itemsK, pairsD, h1.at3, pMenu, List.map_map, Function.comp_def]) (by omega), srtE_asc h4, fun e he => h5 e ((srtE_perm m).mem_iff.mp he)⟩
  obtain ⟨M, hM, hMl, hMa, hMw⟩ : ∃ M : List Ev, slP (.fl (E.map pEv)) none (some 24) α = .ok (.fl (M.map pEv)) α ∧ M.length ≤ 24 ∧ (M.Pairwise fun a b => ltE a b = true) ∧ ∀ e ∈ M, Word e.1 ∧ Word e.2 :=
    ⟨E.take 24, by rw [cut24, List.map_take], List.length_take_le _ _, hM1.sublist (List.take_sublist 24 E), fun e he => hM3 e ((List.take_sublist _ _).subset he)⟩
  unfold drawnT
  simp only [go_Scons, go_Sasg, go_tup, go_Econs, go_Enil, go_sl, go_b1, go_var, List.getElem?_cons_zero, List.getElem?_cons_succ, go_Onone, go_Osome, go_int, go_b2, go_call, go_lst]
  rw [go_eq hE]
  simp only [go_ok, go_bind, go_need, go_ofO_some, go_truth, go_var, go_non, go_bl, go_int, go_str, go_tup, go_lst, go_dct, go_bin, go_cmp, go_neg, go_not, go_ix, go_sl, go_Onone, go_Osome, go_rev, go_b1, go_b2, go_mth, go_call, go_callK, go_join, go_Enil, go_Econs, go_Pnil, go_Pcons, go_comp, go_Ival, go_Ir1, go_Ir2, go_Ivals, go_Iitems, go_Ikeys, go_Ienum, go_Izip, go_gcon, go_gstr, go_fld, go_meth, go_methK, go_prop, go_cmeth, go_cmethK, go_mk, go_mkS, go_isT, go_isC, go_oeq, go_fmt, go_fstr, go_chain, go_and, go_or, go_Eife, go_scomp, go_scomp2, go_dcomp, go_Cnone, go_Csome, go_Tvar, go_Ttup, go_Tsub, go_Tnil, go_Tcons, go_Snil, go_Scons, go_Sexpr, go_Sasg, go_Spar, go_Sret, go_Sif, go_Sloop, go_Swhl, go_doneN, lockN, partO, srcOf, go_addI, go_subI, go_ltI, go_gtI, go_leI, go_geI, List.getElem?_cons_zero, List.getElem?_cons_succ, List.set_cons_zero, List.set_cons_succ, Bool.not_true, Bool.not_false, wipeP]
  rw [go_eq hM]
  simp only [go_ok, go_bind, go_need, go_ofO_some, go_truth, go_var, go_non, go_bl, go_int, go_str, go_tup, go_lst, go_dct, go_bin, go_cmp, go_neg, go_not, go_ix, go_sl, go_Onone, go_Osome, go_rev, go_b1, go_b2, go_mth, go_call, go_callK, go_join, go_Enil, go_Econs, go_Pnil, go_Pcons, go_comp, go_Ival, go_Ir1, go_Ir2, go_Ivals, go_Iitems, go_Ikeys, go_Ienum, go_Izip, go_gcon, go_gstr, go_fld, go_meth, go_methK, go_prop, go_cmeth, go_cmethK, go_mk, go_mkS, go_isT, go_isC, go_oeq, go_fmt, go_fstr, go_chain, go_and, go_or, go_Eife, go_scomp, go_scomp2, go_dcomp, go_Cnone, go_Csome, go_Tvar, go_Ttup, go_Tsub, go_Tnil, go_Tcons, go_Snil, go_Scons, go_Sexpr, go_Sasg, go_Spar, go_Sret, go_Sif, go_Sloop, go_Swhl, go_doneN, lockN, partO, srcOf, go_addI, go_subI, go_ltI, go_gtI, go_leI, go_geI, List.getElem?_cons_zero, List.getElem?_cons_succ, List.set_cons_zero, List.set_cons_succ, Bool.not_true, Bool.not_false, wipeP]
  refine ⟨l6, ?_⟩
  refine pick hDig hPick (d + 1) (xs := [1, 2, 3, 5, 12, 40].map PV.int) h1 (by omega) (by simp) (by simp) (.inl rfl) fun p α2 hp hf2 => ?_
  obtain ⟨i, hi, rfl⟩ := int_pick hp
  obtain ⟨s, hs, hs1, hs2⟩ : ∃ s : Nat, b2 .min (.int i) (.int most) α2 = .ok (.int s) α2 ∧ 0 < s ∧ s ≤ 40 := by
    have hi' : 0 < i ∧ i ≤ 40 := by
      simp only [List.mem_cons, List.not_mem_nil, or_false] at hi
      omega
    refine ⟨(if (most : Int) < i then (most : Int) else i).toNat, ?_, ?_, ?_⟩
    · show Res.ok (PV.int (if (most : Int) < i then (most : Int) else i)) α2 = _
      congr 2
      split <;> omega
    · split <;> omega
    · split <;> omega
  simp only [go_ok, go_bind, go_need, go_ofO_some, go_truth, go_var, go_non, go_bl, go_int, go_str, go_tup, go_lst, go_dct, go_bin, go_cmp, go_neg, go_not, go_ix, go_sl, go_Onone, go_Osome, go_rev, go_b1, go_b2, go_mth, go_call, go_callK, go_join, go_Enil, go_Econs, go_Pnil, go_Pcons, go_comp, go_Ival, go_Ir1, go_Ir2, go_Ivals, go_Iitems, go_Ikeys, go_Ienum, go_Izip, go_gcon, go_gstr, go_fld, go_meth, go_methK, go_prop, go_cmeth, go_cmethK, go_mk, go_mkS, go_isT, go_isC, go_oeq, go_fmt, go_fstr, go_chain, go_and, go_or, go_Eife, go_scomp, go_scomp2, go_dcomp, go_Cnone, go_Csome, go_Tvar, go_Ttup, go_Tsub, go_Tnil, go_Tcons, go_Snil, go_Scons, go_Sexpr, go_Sasg, go_Spar, go_Sret, go_Sif, go_Sloop, go_Swhl, go_doneN, lockN, partO, srcOf, go_addI, go_subI, go_ltI, go_gtI, go_leI, go_geI, List.getElem?_cons_zero, List.getElem?_cons_succ, List.set_cons_zero, List.set_cons_succ, Bool.not_true, Bool.not_false, wipeP]
  rw [go_eq hs]
  refine ⟨Mw.l2, ?_⟩
  rw [go_Tcons, go_Tvar, go_Tcons, go_Tvar, go_Tnil]
  show Go (dSs _ _ [some (.ref 1), some (.int most), z, some (.ref 2), some (.ref 3), some (.fl (M.map pEv)), some (.int s), none, none] α2) _
  rw [go_Scons, go_Sloop, go_Ir1, go_var]
  simp only [List.getElem?_cons_zero, List.getElem?_cons_succ]
  rw [go_eq (range1 s (by omega) α2)]
  simp only [lockN]
  have hf2' : Fed w [.lst [], .dct (pMenu m)] (k + 2) α2 := hf2.mono (by omega)
  refine turnsF_inv (I := fun r ρ α => ∃ (ss : List St) (z7 z : Option PV), ρ = [some (.ref 1), some (.int most), z, some (.ref 2), some (.ref 3), some (.fl (M.map pEv)), some (.int s), z7, none] ∧ Fed w [.lst (ss.map pSt), .dct (pMenu m)] (k + 2 + 48 * ss.length) α ∧ ss.length + r.length = s ∧ ∀ st ∈ ss, (st.map (·.1)).Sublist M ∧ ∀ x ∈ st, x.2 < s)
    ?_ ?_ (rangeP 0 s) _ α2 ⟨[], none, z, rfl, hf2', by rw [rangeP_len]; simp, by simp⟩
  · rintro x r ρ α ⟨ss, z7, z, rfl, h1, h2, h3⟩
    simp only [List.length_cons] at h2
    refine ⟨rfl, ?_⟩
    simp only [go_ok, go_bind, go_need, go_ofO_some, go_truth, go_var, go_non, go_bl, go_int, go_str, go_tup, go_lst, go_dct, go_bin, go_cmp, go_neg, go_not, go_ix, go_sl, go_Onone, go_Osome, go_rev, go_b1, go_b2, go_mth, go_call, go_callK, go_join, go_Enil, go_Econs, go_Pnil, go_Pcons, go_comp, go_Ival, go_Ir1, go_Ir2, go_Ivals, go_Iitems, go_Ikeys, go_Ienum, go_Izip, go_gcon, go_gstr, go_fld, go_meth, go_methK, go_prop, go_cmeth, go_cmethK, go_mk, go_mkS, go_isT, go_isC, go_oeq, go_fmt, go_fstr, go_chain, go_and, go_or, go_Eife, go_scomp, go_scomp2, go_dcomp, go_Cnone, go_Csome, go_Tvar, go_Ttup, go_Tsub, go_Tnil, go_Tcons, go_Snil, go_Scons, go_Sexpr, go_Sasg, go_Spar, go_Sret, go_Sif, go_Sloop, go_Swhl, go_doneN, lockN, partO, srcOf, go_addI, go_subI, go_ltI, go_gtI, go_leI, go_geI, List.getElem?_cons_zero, List.getElem?_cons_succ, List.set_cons_zero, List.set_cons_succ, Bool.not_true, Bool.not_false, wipeP]
    refine row_ok d h1 (by omega) hs1 hs2 hMl fun st α' e1 e2 e3 => ?_
    have hsl : st.length ≤ 24 := by
      have := e1.length_le
      rw [List.length_map] at this
      omega
    simp only [go_ok, go_bind, go_need, go_ofO_some, go_truth, go_var, go_non, go_bl, go_int, go_str, go_tup, go_lst, go_dct, go_bin, go_cmp, go_neg, go_not, go_ix, go_sl, go_Onone, go_Osome, go_rev, go_b1, go_b2, go_mth, go_call, go_callK, go_join, go_Enil, go_Econs, go_Pnil, go_Pcons, go_comp, go_Ival, go_Ir1, go_Ir2, go_Ivals, go_Iitems, go_Ikeys, go_Ienum, go_Izip, go_gcon, go_gstr, go_fld, go_meth, go_methK, go_prop, go_cmeth, go_cmethK, go_mk, go_mkS, go_isT, go_isC, go_oeq, go_fmt, go_fstr, go_chain, go_and, go_or, go_Eife, go_scomp, go_scomp2, go_dcomp, go_Cnone, go_Csome, go_Tvar, go_Ttup, go_Tsub, go_Tnil, go_Tcons, go_Snil, go_Scons, go_Sexpr, go_Sasg, go_Spar, go_Sret, go_Sif, go_Sloop, go_Swhl, go_doneN, lockN, partO, srcOf, go_addI, go_subI, go_ltI, go_gtI, go_leI, go_geI, List.getElem?_cons_zero, List.getElem?_cons_succ, List.set_cons_zero, List.set_cons_succ, Bool.not_true, Bool.not_false, wipeP]
    have hap := appL (x := .tup (st.map pStp)) e3.at2 (by rw [List.length_map]; exact small (by omega))
    refine ⟨hap.1, ?_⟩
    rw [go_eq (show b1 .tuple (.fl (st.map pStp)) α' = .ok (.tup (st.map pStp)) α' from rfl), go_eq hap.2]
    rw [gcL_id (by rw [List.length_set, e3.len, hf2'.len]; exact Nat.le_refl _)]
    refine ⟨ss ++ [st], some (.fl (st.map pStp)), some x, rfl, ?_, by rw [List.length_append]; simp; omega, ?_⟩
    · rw [List.map_append, List.length_append]
      exact (Fed.set2 e3).mono (by simp; omega)
    · intro y hy
      rcases List.mem_append.mp hy with hy | hy
      · exact h3 y hy
      · rw [List.mem_singleton.mp hy]
        exact ⟨e1, e2⟩
  · rintro ρ α' ⟨ss, z7, z, rfl, h1, h2, h3⟩
    simp only [List.length_nil, Nat.add_zero] at h2
    subst h2
    refine ⟨rfl, ?_⟩
    rw [go_doneN]
    simp only [go_Scons, go_Sret, go_b1, go_var, List.getElem?_cons_zero, List.getElem?_cons_succ]
    rw [go_eq (tupL h1.at2)]
    obtain ⟨g1, g2⟩ := Fed.gc (fz := f_law_drawn.fz) (p := .tup (ss.map pSt)) hf h1 (by simp) (fun _ => by simp) (closed_sts 2 ss)
    rw [g1]
    exact h ss _ (.of_sub hMa hMl hMw hs1 hs2 h3) (g2.mono (by omega))
theorem drawn_ok (d : Nat) {w : Int} {α : AH} {k most : Nat} {P : PV → AH → Prop} (hf : Fed w [] k α) (hk : k < 2 ^ 57) (hm : 0 < most) (hm2 : most ≤ 40)
    (h : ∀ ss α', GoodSts ss → Fed w [] (k + 3000) α' → P (pSts ss) α') : Go (callD fs (d + 4) 14 [.ref 1, .int most] α) P := by
  rw [go_run (fd := f_law_drawn) (qs := [.ref 1, .int most]) rfl rfl rfl]
  show Go (dSs _ b_law_drawn [some (.ref 1), some (.int most), none, none, none, none, none, none, none] _) _
  unfold b_law_drawn
  obtain ⟨T1, hT1⟩ : ∃ T1 : Ss, T1 = drawnT := ⟨_, rfl⟩
  unfold drawnT rowE at hT1
  rw [← hT1]
  have hl2 : α.length = 2 := hf.len
  simp only [go_Scons, go_Spar, go_Econs, go_Enil, go_join, go_lst, go_dct, go_Pnil]
  refine ⟨l0, ?_⟩
  rw [go_eq (show joinP (.fl []) α = .ok (.ref 2) (α ++ [.lst []]) by rw [← hl2]; rfl)]
  refine ⟨rfl, ?_⟩
  rw [show (α ++ [AO.lst []]).length = 3 by rw [List.length_append, hl2]; rfl]
  have hf1 := (hf.app (.lst [])).app (.dct [])
  change Fed w [.lst [], .dct []] k (α ++ [AO.lst []] ++ [AO.dct (dictOf [])]) at hf1
  generalize α ++ [AO.lst []] ++ [AO.dct (dictOf [])] = α1 at hf1 ⊢
  show Go (dSs _ _ [some (.ref 1), some (.int most), none, some (.ref 2), some (.ref 3), none, none, none, none] _) _
  simp only [go_Scons, go_Sloop, go_Ir1, go_call, go_Econs, go_Enil, go_var, go_lst, go_int, List.getElem?_cons_zero, List.getElem?_cons_succ]
  refine ⟨l6, ?_⟩
  refine pick hDig hPick (d + 1) (xs := [0, 1, 2, 4, 9, 30].map PV.int) hf1 (by omega) (by simp) (by simp) (.inl rfl) fun p α2 hp hf2 => ?_
  obtain ⟨i, hi, rfl⟩ := int_pick hp
  obtain ⟨m0, hm0, hm1⟩ : ∃ m0 : Nat, i = m0 ∧ m0 ≤ 30 := by
    refine ⟨i.toNat, ?_, ?_⟩ <;> (simp only [List.mem_cons, List.not_mem_nil, or_false] at hi; omega)
  subst hm0
  rw [go_eq (range1 m0 (by omega) α2)]
  simp only [lockN]
  refine turnsF_inv (I := fun r ρ α => ∃ (m : List Ev) (z : Option PV), ρ = [some (.ref 1), some (.int most), z, some (.ref 2), some (.ref 3), none, none, none, none] ∧ Fed w [.lst [], .dct (pMenu m)] (k + 1 + 26 * (m0 - r.length)) α ∧ r.length ≤ m0 ∧ m.length ≤ m0 - r.length ∧ m.Nodup ∧ ∀ e ∈ m, Word e.1 ∧ Word e.2)
    ?_ ?_ (rangeP 0 m0) _ α2 ⟨[], none, rfl, by rw [rangeP_len, Nat.sub_self]; exact hf2, by rw [rangeP_len]; exact Nat.le_refl _, by simp, List.nodup_nil, by simp⟩
  · rintro x r ρ α ⟨m, z, rfl, h1, h2, h3, h4, h5⟩
    simp only [List.length_cons] at h1 h2 h3
    refine ⟨rfl, ?_⟩
    simp only [go_bind, go_Tvar, List.set_cons_zero, List.set_cons_succ, go_Scons, go_Sasg, go_bl, go_Tsub, go_var, List.getElem?_cons_zero, List.getElem?_cons_succ, go_tup, go_Econs, go_Enil, go_call]
    refine drawn_word d h1 (by omega) fun x1 α3 hx1 hf3 => ?_
    simp only [go_ok, go_bind, go_need, go_ofO_some, go_truth, go_var, go_non, go_bl, go_int, go_str, go_tup, go_lst, go_dct, go_bin, go_cmp, go_neg, go_not, go_ix, go_sl, go_Onone, go_Osome, go_rev, go_b1, go_b2, go_mth, go_call, go_callK, go_join, go_Enil, go_Econs, go_Pnil, go_Pcons, go_comp, go_Ival, go_Ir1, go_Ir2, go_Ivals, go_Iitems, go_Ikeys, go_Ienum, go_Izip, go_gcon, go_gstr, go_fld, go_meth, go_methK, go_prop, go_cmeth, go_cmethK, go_mk, go_mkS, go_isT, go_isC, go_oeq, go_fmt, go_fstr, go_chain, go_and, go_or, go_Eife, go_scomp, go_scomp2, go_dcomp, go_Cnone, go_Csome, go_Tvar, go_Ttup, go_Tsub, go_Tnil, go_Tcons, go_Snil, go_Scons, go_Sexpr, go_Sasg, go_Spar, go_Sret, go_Sif, go_Sloop, go_Swhl, go_doneN, lockN, partO, srcOf, go_addI, go_subI, go_ltI, go_gtI, go_leI, go_geI, List.getElem?_cons_zero, List.getElem?_cons_succ, List.set_cons_zero, List.set_cons_succ, Bool.not_true, Bool.not_false, wipeP]
    refine drawn_word d hf3 (by omega) fun x2 α4 hx2 hf4 => ?_
    refine ⟨Mw.l2, ?_⟩
    have hkk : kok (pMenu m) (pEv (x1, x2)) = true := kok_of rfl fun e he => by
      obtain ⟨a, _, rfl⟩ := List.mem_map.mp he
      rfl
    have hset := setD (i := pEv (x1, x2)) (v := .bl true) hf4.at3 hkk (by unfold pMenu; rw [List.length_map]; exact small (by omega))
    rw [pMenu_put] at hset
    rw [go_eq (show setP (.ref 3) (.tup [.str x1, .str x2]) (.bl true) α4 = _ from hset)]
    rw [gcL_id (by rw [List.length_set, hf4.len, hf2.len]; exact Nat.le_refl _)]
    have hal : (add1 m (x1, x2)).length ≤ m.length + 1 := by
      unfold add1; split <;> simp
    refine ⟨add1 m (x1, x2), some x, rfl, (hf4.set3).mono (by omega), by omega, by omega, add1_nodup h4, fun e he => ?_⟩
    rcases add1_mem.mp he with he | rfl
    · exact h5 e he
    · exact ⟨hx1, hx2⟩
  · rintro ρ α ⟨m, z, rfl, h1, h2, h3, h4, h5⟩
    refine ⟨rfl, ?_⟩
    rw [go_doneN]
    simp only [List.length_nil, Nat.sub_zero] at h1 h3
    dsimp only
    rw [hT1]
    exact second_ok d hf h1 (by omega) hm hm2 (by omega) h4 h5 fun ss α' a b => h ss α' a (b.mono (by omega))
end K08
end
section
set_option Elab.async false
set_option linter.all false
set_option maxRecDepth 100000
set_option maxHeartbeats 4000000
/-! Rp1: what may be asked for its text. -/
namespace Core
open PySem Mw Tx
structure Sh (d : PyData) (k n : Nat) : Prop where
  nd : d.hasDict = false
  sh : d.showable = true
  dp : d.depth ≤ k
  ln : d.shown.length ≤ n
theorem Sh.mono {d : PyData} {k n k' n' : Nat} (h : Sh d k n) (hk : k ≤ k') (hn : n ≤ n') : Sh d k' n' := ⟨h.nd, h.sh, Nat.le_trans h.dp hk, Nat.le_trans h.ln hn⟩
theorem Sh.ok {d : PyData} {k n : Nat} (h : Sh d k n) (hk : k ≤ 64) (hn : n < 10000000) : reprOk d = true := by
  unfold reprOk
  rw [h.nd, h.sh, decide_eq_true (Nat.le_trans h.dp hk), line_le (Nat.lt_of_le_of_lt h.ln hn)]
  rfl
/-- its signs are signs -/
def Ok (x : Str) : Prop := ∀ c ∈ tl x, c < 16 ^ 8
theorem Ok.app {x y : Str} (h : Ok x) (h2 : Ok y) : Ok (x ++ y) := fun c hc => by
  rw [tl_app, List.mem_append] at hc
  exact hc.elim (h c) (h2 c)
theorem Ok.join {sep : Str} (hs : Ok sep) : ∀ {xs : List Str}, (∀ x ∈ xs, Ok x) → Ok (Str.join sep xs)
  | [], _ => fun c hc => by simp [Str.join, Str.empty, tl] at hc
  | [x], h => h x (by simp)
  | x :: y :: r, h => by
    show Ok (x ++ sep ++ Str.join sep (y :: r))
    exact ((h x (by simp)).app hs).app (Ok.join hs fun z hz => h z (List.mem_cons_of_mem _ hz))
theorem Ok.word {w : Str} (h : Word w) : Ok w := fun c hc => Nat.lt_trans (K08.chars_small c (h.all c hc)) (by decide)
theorem Ok.num {n : Nat} (h : n < 64) : Ok (numS n) := fun c hc => by
  have h1 := (num_small n h).2 c hc
  have h2 : ∀ c ∈ (Str.ofString "0123456789").cps.toList, c < 16 ^ 8 := by decide +kernel
  exact h2 c h1
theorem Ok.lit1 : Ok (Str.ofString " ") ∧ Ok (Str.ofString ",") ∧ Ok (Str.ofString ":") ∧ Ok (Str.ofString "\n") := by
  refine ⟨?_, ?_, ?_, ?_⟩ <;> (unfold Ok; decide +kernel)
theorem Ok.text {ss : List St} (h : GoodSts ss) : Ok (textT ss) := by
  obtain ⟨l1, l2, l3, l4⟩ := Ok.lit1
  have hle := h.le
  refine Ok.join l4 fun x hx => ?_
  obtain ⟨⟨st, n⟩, he, rfl⟩ := List.mem_map.mp hx
  obtain ⟨hst, hn⟩ : st ∈ ss ∧ n < 40 := by
    obtain ⟨q1, q2, q3⟩ := List.mem_zipIdx he
    refine ⟨by rw [q3]; exact List.getElem_mem _, by omega⟩
  have hg := h.st st hst
  refine ((Ok.num (by omega)).app l3).app (Ok.join l2 fun x hx => ?_)
  obtain ⟨s, hs, rfl⟩ := List.mem_map.mp hx
  have ht := hg.to s hs
  exact ((((l1.app (Ok.word (hg.words s hs).1)).app l1).app (Ok.word (hg.words s hs).2)).app l1).app (Ok.num (by omega))
theorem Sh.str {x : Str} {m : Nat} (h : Ok x) (hl : x.length ≤ m) : Sh (.str x) 0 (10 * m + 2) := by
  refine ⟨rfl, rfl, Nat.le_refl _, ?_⟩
  have := StrLaws.reprText_len x h
  show (reprText x).length ≤ _
  omega
theorem Sh.int {i : Int} (h : i.natAbs < 2 ^ 62) : Sh (.int i) 0 64 := by
  have hl : i.natAbs.log2 < 62 := by
    by_cases h0 : i.natAbs = 0
    · rw [h0]; decide
    · exact (Nat.log2_lt h0).mpr h
  refine ⟨rfl, ?_, Nat.le_refl _, ?_⟩
  · show decide _ = true
    exact decide_eq_true (by omega)
  · have := int_text_length_le (a := i) (k := 62) (by decide) hl
    show (Str.ofString (toString i)).length ≤ _
    rw [PySem.ofString_length]
    omega
theorem textFrom_up : ∀ (ts : List Str) (k : Nat) (acc : Str), (textFrom k acc ts).length ≤ acc.length + piled ts
  | [], k, acc => by simp [textFrom]
  | t :: r, k, acc => by
    have h1 := textFrom_up r (k + 1) (acc ++ (if k > 0 then ", " else "" : String) ++ t)
    show (textFrom (k + 1) (acc ++ (if k > 0 then ", " else "" : String) ++ t) r).length ≤ _
    rw [piled_cons]
    have e : ((if k > 0 then ", " else "" : String) : Str).length ≤ 2 := by split <;> decide
    simp only [Str.length_append] at h1
    omega
theorem all_sh {k n : Nat} : ∀ xs : List PyData, (∀ x ∈ xs, Sh x k n) → PyData.hasDictAll xs = false ∧ PyData.showableAll xs = true ∧ PyData.depthAll xs ≤ k ∧ piled (PyData.shownAll xs) ≤ xs.length * (n + 2) ∧ (PyData.shownAll xs).length = xs.length
  | [], _ => ⟨rfl, rfl, Nat.zero_le _, by simp [PyData.shownAll, piled], rfl⟩
  | x :: xs, h => by
    obtain ⟨h1, h2, h3, h4, h5⟩ := all_sh xs fun y hy => h y (List.mem_cons_of_mem _ hy)
    have hx := h x List.mem_cons_self
    have hl := hx.ln
    have hd := hx.dp
    refine ⟨by simp [PyData.hasDictAll, hx.nd, h1], by simp [PyData.showableAll, hx.sh, h2], ?_, ?_, by simp [PyData.shownAll, h5]⟩
    · show max x.depth (PyData.depthAll xs) ≤ k
      omega
    · show piled (x.shown :: PyData.shownAll xs) ≤ _
      rw [piled_cons, List.length_cons, Nat.succ_mul]
      omega
theorem Sh.tup {xs : List PyData} {k n m : Nat} (h : ∀ x ∈ xs, Sh x k n) (hl : xs.length ≤ m) : Sh (.tuple xs) (k + 1) (3 + m * (n + 2)) := by
  obtain ⟨h1, h2, h3, h4, h5⟩ := all_sh xs h
  refine ⟨h1, h2, Nat.succ_le_succ h3, ?_⟩
  have hm : xs.length * (n + 2) ≤ m * (n + 2) := Nat.mul_le_mul_right _ hl
  show (tupleText (PyData.shownAll xs)).length ≤ _
  unfold tupleText
  have e1 : (("(" : String) : Str).length = 1 := rfl
  have e3 : (((if (PyData.shownAll xs).length == 1 then ",)" else ")" : String) : Str)).length ≤ 2 := by split <;> decide
  have e2 : (Str.join ", " (PyData.shownAll xs)).length ≤ piled (PyData.shownAll xs) := by
    by_cases e : PyData.shownAll xs = []
    · rw [e]; simp [Str.join, Str.empty, Str.length]
    · have := join_length_add _ e
      omega
  simp only [Str.length_append]
  omega
theorem Sh.lst {xs : List PyData} {k n m : Nat} (h : ∀ x ∈ xs, Sh x k n) (hl : xs.length ≤ m) : Sh (.list xs) (k + 1) (3 + m * (n + 2)) := by
  obtain ⟨h1, h2, h3, h4, h5⟩ := all_sh xs h
  refine ⟨h1, h2, Nat.succ_le_succ h3, ?_⟩
  have hm : xs.length * (n + 2) ≤ m * (n + 2) := Nat.mul_le_mul_right _ hl
  show (listText (PyData.shownAll xs)).length ≤ _
  unfold listText
  have e1 : (("[" : String) : Str).length = 1 := rfl
  have e2 : (("]" : String) : Str).length = 1 := rfl
  have e3 := textFrom_up (PyData.shownAll xs) 0 "["
  simp only [Str.length_append]
  omega
theorem Sh.sts {ss : List St} (h : GoodSts ss) : Sh (dSts ss) 3 400000 := by
  have hle := h.le
  refine (Sh.tup (k := 2) (n := 9100) (m := 40) (fun x hx => ?_) (by rw [List.length_map]; exact hle)).mono (by decide) (by decide)
  obtain ⟨st, hst, rfl⟩ := List.mem_map.mp hx
  have hg := h.st st hst
  refine (Sh.tup (k := 1) (n := 375) (m := 24) (fun x hx => ?_) (by rw [List.length_map]; exact hg.len)).mono (by decide) (by decide)
  obtain ⟨s, hs, rfl⟩ := List.mem_map.mp hx
  have hw := hg.words s hs
  have ht := hg.to s hs
  refine (Sh.tup (k := 0) (n := 122) (m := 3) (fun x hx => ?_) (by simp)).mono (by decide) (by decide)
  simp only [List.mem_cons, List.not_mem_nil, or_false] at hx
  rcases hx with rfl | rfl | rfl
  · exact Sh.str (Ok.word hw.1) hw.1.le
  · exact Sh.str (Ok.word hw.2) hw.2.le
  · exact (Sh.int (by simp; omega)).mono (by decide) (by decide)
theorem repr_of {p : PV} {d : PyData} {α : AH} (h : toA α p = some d) {k n : Nat} (hs : Sh d k n) (hk : k ≤ 64) (hn : n < 10000000) : b1 .repr p α = .ok (.str d.shown) α := by
  unfold b1
  simp only [h, hs.ok hk hn, need_true]
theorem repr_sts {ss : List St} (h : GoodSts ss) (α : AH) : b1 .repr (pSts ss) α = .ok (.str (dSts ss).shown) α := repr_of (show toA α (pSts ss) = some (dSts ss) from sts_toP ss) (Sh.sts h) (by decide) (by decide)
end Core
end
section
set_option Elab.async false
set_option linter.all false
set_option maxRecDepth 100000
set_option maxHeartbeats 4000000
/-! Lw1: the law. -/
namespace K08
open PySem Mw Tx Core Fd
theorem text_inj {ss tt : List St} (h : GoodSts ss) (h2 : GoodSts tt) (e : textT ss = textT tt) : ss = tt := by
  obtain ⟨c, _, e1⟩ := read_kind 0 h []
  obtain ⟨c', _, e2⟩ := read_kind 0 h2 []
  rw [e, e2] at e1
  injection e1 with e1 _
  injection e1 with _ e1
  injection e1 with e1 _
  injection e1 with _ e1
  have e3 : dSts tt = dSts ss := Option.some.inj (by rw [← sts_toP, ← sts_toP, e1])
  have e4 := sts_eqv tt ss
  rw [e3, sts_eqv ss ss] at e4
  simp at e4
  exact e4.symm
theorem two_texts {ss : List St} (h : GoodSts ss) (α : AH) : b1 .repr (.fl [.str (textT ss), .str (textT ss)]) α = .ok (.str (PyData.list [.str (textT ss), .str (textT ss)]).shown) α := by
  refine repr_of (by rfl) (Sh.lst (k := 0) (n := 10 * 50000 + 2) (m := 2) (fun x hx => ?_) (by simp)) (by decide) (by decide)
  have e : x = .str (textT ss) := by simpa using hx
  rw [e]
  exact Sh.str (Ok.text h) (text_len h)
theorem law_ok (ns : List Int) : Go (callD fs 8 9 [.scr (ns.map PV.int)] []) (fun p _ => p = .bl true) := by
  rw [go_run (fd := f_law) (qs := [.scr (ns.map PV.int)]) rfl rfl rfl]
  show Go (dSs _ b_law [some (.scr (ns.map PV.int)), none, none, none, none, none, none, none] _) _
  unfold b_law
  simp only [go_Scons, go_Sasg, go_call, go_Econs, go_Enil, go_var, List.getElem?_cons_zero]
  refine feed_ok (a := 40008) (c := 811) rfl 6 ns fun w α0 hf0 => ?_
  simp only [go_Tvar, List.set_cons_succ, List.set_cons_zero, go_Scons, go_Sloop, go_Ir1, go_int]
  rw [go_eq (show srcRange (.int 0) (.int 5) α0 = .ok ⟨[0, 1, 2, 3, 4].map PV.int, none⟩ α0 from rfl)]
  simp only [lockN]
  refine turnsF_inv (I := fun r ρ α => ∃ (l : List Int) (o2 o3 o4 o5 o6 o7 : Option PV), r = l.map PV.int ∧ l.length ≤ 5 ∧ Fed w [] (6000 * (5 - l.length)) α ∧ ρ = [some (.scr (ns.map PV.int)), some (.ref 1), o2, o3, o4, o5, o6, o7]) ?_ ?_ ([0, 1, 2, 3, 4].map PV.int) _ α0
    ⟨[0, 1, 2, 3, 4], none, none, none, none, none, none, rfl, by decide, hf0.mono (Nat.zero_le _), rfl⟩
  · rintro x r ρ α ⟨l, o2, o3, o4, o5, o6, o7, e, h1, h2, rfl⟩
    cases l with
    | nil => cases e
    | cons i l =>
      rw [List.map_cons, List.cons.injEq] at e
      obtain ⟨rfl, rfl⟩ := e
      simp only [List.length_cons] at h1 h2
      refine ⟨rfl, ?_⟩
      have most : ∀ {F : Fn} {ρ : Loc'} {α : AH} {P : PV → AH → Prop}, ρ[2]? = some (some (.int i)) → (∀ m : Nat, 0 < m → m ≤ 40 → P (.int m) α) → Go (dE F (.ife (.cmp .eq (.var 2) (.int 0)) (.int 40) (.int 12)) ρ α) P := by
        intro F ρ α P hr h
        simp only [go_Eife, go_cmp, go_var, hr, go_int]
        rw [go_eq (show cop .eq (.int i) (.int 0) α = .ok (.bl (decide (PV.int i = PV.int 0))) α from rfl), go_truth]
        cases decide (PV.int i = PV.int 0)
        · simp only [go_int]; exact h 12 (by decide) (by decide)
        · simp only [go_int]; exact h 40 (by decide) (by decide)
      simp only [go_bind, go_Tvar, List.set_cons_zero, List.set_cons_succ, go_Scons, go_Spar, go_Econs, go_Enil, go_call, go_var, List.getElem?_cons_zero, List.getElem?_cons_succ]
      refine most rfl fun m hm1 hm2 => ?_
      refine drawn_ok 3 h2 (by omega) hm1 hm2 fun ss α1 hss hf1 => ?_
      simp only [go_ok, go_bind, go_need, go_ofO_some, go_truth, go_var, go_non, go_bl, go_int, go_str, go_tup, go_lst, go_dct, go_bin, go_cmp, go_neg, go_not, go_ix, go_sl, go_Onone, go_Osome, go_rev, go_b1, go_b2, go_mth, go_call, go_callK, go_join, go_Enil, go_Econs, go_Pnil, go_Pcons, go_comp, go_Ival, go_Ir1, go_Ir2, go_Ivals, go_Iitems, go_Ikeys, go_Ienum, go_Izip, go_gcon, go_gstr, go_fld, go_meth, go_methK, go_prop, go_cmeth, go_cmethK, go_mk, go_mkS, go_isT, go_isC, go_oeq, go_fmt, go_fstr, go_chain, go_and, go_or, go_Eife, go_scomp, go_scomp2, go_dcomp, go_Cnone, go_Csome, go_Tvar, go_Ttup, go_Tsub, go_Tnil, go_Tcons, go_Snil, go_Scons, go_Sexpr, go_Sasg, go_Spar, go_Sret, go_Sif, go_Sloop, go_Swhl, go_doneN, lockN, partO, srcOf, go_addI, go_subI, go_ltI, go_gtI, go_leI, go_geI, List.getElem?_cons_zero, List.getElem?_cons_succ, List.set_cons_zero, List.set_cons_succ, Bool.not_true, Bool.not_false, wipeP]
      refine drawn_ok 3 (most := 12) hf1 (by omega) (by decide) (by decide) fun tt α2 htt hf2 => ?_
      refine ⟨rfl, ?_⟩
      show Go (dSs _ _ [some (.scr (ns.map PV.int)), some (.ref 1), some (.int i), o3, some (pSts ss), some (pSts tt), o6, o7] α2) _
      have hlen : α2.length ≤ α0.length := by rw [hf2.len, hf0.len]; exact Nat.le_refl _
      obtain ⟨c, hc, ec⟩ := of_ok (tl := rest) 2 hss α2
      rw [← fs_core] at ec
      obtain ⟨c1, hc1, ec1⟩ := read_kind 2 hss α2
      obtain ⟨c2, hc2, ec2⟩ := of_ok (tl := rest) 2 htt α2
      rw [← fs_core] at ec2
      have hsh : ∀ {ss : List St}, GoodSts ss → ∀ st ∈ ss, Short st := fun h st hst => (K08.GoodSts.fine h st hst).short
      have etx : ∀ {ss : List St} (c : List Nat), GoodSts ss → callD fs 7 10 [pKind ss c] α2 = .ok (.str (textT ss)) α2 := fun c h => text_ok (k := 16) rfl rfl 5 h.le (hsh h) α2
      simp only [go_Scons, go_Spar, go_Econs, go_Enil, go_cmeth, go_call, go_var, List.getElem?_cons_zero, List.getElem?_cons_succ]
      rw [go_eq ec]
      simp only [go_Econs, go_Enil, go_call, go_var, List.getElem?_cons_zero, List.getElem?_cons_succ]
      rw [go_eq (written_ok 6 hss.le (hsh hss) α2)]
      refine ⟨rfl, ?_⟩
      show Go (dSs _ _ [some (.scr (ns.map PV.int)), some (.ref 1), some (.int i), o3, some (pSts ss), some (pSts tt), some (pKind ss c), some (.str (textT ss))] α2) _
      simp only [go_Scons, go_Sif, go_cmp, go_b1, go_lst, go_Econs, go_Enil, go_prop, go_var, List.getElem?_cons_zero, List.getElem?_cons_succ]
      refine ⟨rfl, ?_⟩
      rw [go_eq (etx c hss)]
      simp only [go_Econs, go_Enil, go_prop, go_var, List.getElem?_cons_zero, List.getElem?_cons_succ]
      refine ⟨rfl, ?_⟩
      rw [go_eq (etx c hss)]
      refine ⟨Mw.l2, ?_⟩
      rw [go_eq (two_texts hss α2)]
      simp only [go_b1, go_lst, go_Econs, go_Enil, go_var, List.getElem?_cons_zero, List.getElem?_cons_succ]
      refine ⟨Mw.l2, ?_⟩
      rw [go_eq (two_texts hss α2)]
      have nes : ∀ x : Str, cop .ne (.str x) (.str x) α2 = .ok (.bl false) α2 := fun x => by
        show Res.ok (PV.bl (!decide (PV.str x = PV.str x))) α2 = _
        simp
      rw [go_eq (nes _), go_truth]
      simp only [go_Snil, go_Scons, go_Sloop, go_Ival, go_tup, go_Econs, go_Enil, go_cmeth, go_var, List.getElem?_cons_zero, List.getElem?_cons_succ]
      rw [go_eq ec1]
      simp only [go_Econs, go_Enil, go_cmethK, go_var, List.getElem?_cons_zero, List.getElem?_cons_succ]
      refine ⟨⟨rfl, rfl⟩, ?_⟩
      rw [go_eq (show callD fs 7 11 (.st 0 :: ([] ++ permP [0] [PV.str (textT ss)])) α2 = .ok (pKind ss c1) α2 from ec1)]
      refine ⟨Mw.l2, ?_⟩
      simp only [srcOf, go_ok, lockN]
      refine turnsF_inv (I := fun r ρ α => α2 = α ∧ ∃ (cs : List (List Nat)) (z : Option PV), r = cs.map (pKind ss) ∧ ρ = [some (.scr (ns.map PV.int)), some (.ref 1), some (.int i), z, some (pSts ss), some (pSts tt), some (pKind ss c), some (.str (textT ss))]) ?_ ?_ _ _ _ ⟨rfl, [c1, c1], o3, rfl, rfl⟩
      · rintro x r ρ _ ⟨rfl, cs, z, e, rfl⟩
        cases cs with
        | nil => cases e
        | cons c3 cs =>
          rw [List.map_cons, List.cons.injEq] at e
          obtain ⟨rfl, rfl⟩ := e
          refine ⟨rfl, ?_⟩
          simp only [go_bind, go_Tvar, List.set_cons_zero, List.set_cons_succ, go_Scons, go_Sif, go_or, go_not, go_isC, go_var, List.getElem?_cons_zero, List.getElem?_cons_succ]
          rw [go_eq (show isCP (pKind ss c3) 0 α2 = .ok (.bl true) α2 from rfl), go_truth, go_truth]
          simp only [Bool.not_true, go_or, go_cmp, go_b1, go_fld, go_var, List.getElem?_cons_zero, List.getElem?_cons_succ]
          rw [go_eq (show fldP 0 (pKind ss c3) "states" α2 = .ok (pSts ss) α2 from rfl), go_eq (repr_sts hss α2)]
          simp only [go_b1, go_var, List.getElem?_cons_zero, List.getElem?_cons_succ]
          rw [go_eq (repr_sts hss α2), go_eq (nes _), go_truth]
          simp only [go_oeq, go_var, List.getElem?_cons_zero, List.getElem?_cons_succ]
          refine ⟨rfl, ?_⟩
          rw [go_eq (keq_ok 6 hss hss c3 c α2), go_truth]
          simp only [decide_true, Bool.bne_true, Bool.not_true, go_truth, go_Snil]
          rw [gcL_same]
          exact ⟨rfl, cs, _, rfl, rfl⟩
      · rintro ρ _ ⟨rfl, cs, z, e, rfl⟩
        refine ⟨rfl, ?_⟩
        rw [go_doneN]
        simp only [go_Scons, go_Sif, go_cmp, go_prop, go_cmeth, go_Econs, go_Enil, go_var, List.getElem?_cons_zero, List.getElem?_cons_succ]
        rw [go_eq ec2]
        refine ⟨rfl, ?_⟩
        rw [go_eq (etx c2 htt)]
        simp only [go_cmp, go_var, List.getElem?_cons_zero, List.getElem?_cons_succ]
        rw [go_eq (show cop .eq (.str (textT tt)) (.str (textT ss)) α2 = .ok (.bl (decide (PV.str (textT tt) = PV.str (textT ss)))) α2 from rfl)]
        simp only [go_cmp, go_var, List.getElem?_cons_zero, List.getElem?_cons_succ]
        rw [go_eq (sts_eq tt ss (good_strOk htt) (good_strOk hss) α2)]
        have hb : decide (PV.str (textT tt) = PV.str (textT ss)) = decide (tt = ss) := by
          rw [Bool.eq_iff_iff, decide_eq_true_eq, decide_eq_true_eq]
          exact ⟨fun e => text_inj htt hss (PV.str.inj e), fun e => by rw [e]⟩
        rw [hb, go_eq (show cop .ne (.bl (decide (tt = ss))) (.bl (decide (tt = ss))) α2 = .ok (.bl false) α2 by
          show Res.ok (PV.bl (!decide (PV.bl (decide (tt = ss)) = PV.bl (decide (tt = ss))))) α2 = _
          simp), go_truth]
        simp only [go_Snil]
        rw [gcL_id hlen]
        exact ⟨l, _, _, _, _, _, _, rfl, by omega, hf2.mono (by omega), rfl⟩
  · rintro ρ α ⟨l, o2, o3, o4, o5, o6, o7, e, h1, h2, rfl⟩
    refine ⟨rfl, ?_⟩
    rw [go_doneN]
    simp only [go_Scons, go_Sret, go_bl]
    unfold gcV
    split
    · rfl
    · split <;> rfl
theorem plain (ns : List Int) (_ : ns.length ≤ 63) : ∃ α', Mw.callD K08.fs 8 9 [.scr (ns.map Mw.PV.int)] [] = .ok (.bl true) α' := by
  obtain ⟨b, α, e, rfl⟩ := (law_ok ns).ex
  exact ⟨α, e⟩
end K08
end
section
set_option Elab.async false
set_option linter.all false
set_option maxRecDepth 100000
open PySem PySem.W PyProof.Rows
set_option maxHeartbeats 0 in
theorem PySem.Challenge.cw_mustwait_k08_texts_of_kinds_holds : PySem.Challenge.rw_mustwait_k08_texts_of_kinds.Holds := by
  w_on; o_law; k_head; (case hw => w_witness2)
  k_fill
  refine Mw.walk_ofG (l := PySem.Challenge.rw_mustwait_k08_texts_of_kinds) (n := 63) (k := 16) (x := "_law_script") (m := Mw.callD K08.fs 8 9) rfl (by decide) rfl ⟨rfl, by decide, by decide⟩ (fun w h Y => kIn_of Y) ?F K08.plain
  case F =>
    intro w mg fa h KX G hmg
    refine' K08.all_mk KX G hmg ?aC0 ?pg0 ?hd0 ?po0 ?sa0 ?mk0 ?kc0 ?nf0_0 ?nf0_1 ?nf0_2 ?ha0 ?hn0 ?ht0 ?hm0 ?ow0 ?tb0_str ?tb0_int ?tb0_bool ?tb0_tuple ?tb0_list ?tb0_dict ?tn0_NoneType ?tn0_bool ?tn0_int ?tn0_str ?tn0_tuple ?tn0_list ?rd0 ?ga0 ?ne0 ?a0 ?l0 ?c0 ?k0 ?a1 ?l1 ?c1 ?k1 ?a2 ?l2 ?c2 ?k2 ?a3 ?l3 ?c3 ?k3 ?a4 ?l4 ?c4 ?k4 ?a5 ?l5 ?c5 ?k5 ?a6 ?l6 ?c6 ?k6 ?pa7 ?pe7 ?l7 ?c7 ?k7 ?pa8 ?pd8 ?pe8 ?l8 ?c8 ?k8 ?a9 ?l9 ?c9 ?k9 ?pa10 ?pb10 ?pc10 ?pd10 ?l10 ?c10 ?k10 ?pa11 ?pd11 ?pe11 ?l11 ?c11 ?k11 ?pa12 ?pe12 ?l12 ?c12 ?k12 ?a13 ?l13 ?c13 ?k13 ?a14 ?l14 ?c14 ?k14 ?a15 ?l15 ?c15 ?k15 ?a16 ?l16 ?c16 ?k16 ?a17 ?l17 ?c17 ?k17 ?a18 ?l18 ?c18 ?k18 ?a19 ?l19 ?c19 ?k19 ?a20 ?l20 ?c20 ?k20 ?gi0 ?gi1 ?gi2 ?gi3 ?gs0 ?gs1 ?z0 ?z1 ?z2 ?z3 ?z4 ?z5 ?z6 ?z7 ?z8 ?z9 ?z10 ?z11 ?z12 ?z13 ?z14 ?z15 ?z16 8
    (case aC0 => k_is); (case pg0 => k_is); (case hd0 => k_is); (case po0 => k_is); (case sa0 => k_is); (case mk0 => k_is); (case kc0 => k_is); (case nf0_0 => k_is); (case nf0_1 => k_is); (case nf0_2 => k_is); (case ha0 => k_is); (case hn0 => k_is); (case ht0 => k_is); (case hm0 => k_is); (case ow0 => kit_is); (case tb0_str => kit_is); (case tb0_int => kit_is); (case tb0_bool => kit_is); (case tb0_tuple => kit_is); (case tb0_list => kit_is); (case tb0_dict => kit_is); (case tn0_NoneType => kit_is); (case tn0_bool => kit_is); (case tn0_int => kit_is); (case tn0_str => kit_is); (case tn0_tuple => kit_is); (case tn0_list => kit_is); (case rd0 => k_is); (case ga0 => k_is); (case ne0 => k_is); (case a0 => k_is); (case l0 => k_is); (case c0 => k_is); (case k0 => k_is); (case a1 => k_is); (case l1 => k_is); (case c1 => k_is); (case k1 => k_is); (case a2 => k_is); (case l2 => k_is); (case c2 => k_is); (case k2 => k_is); (case a3 => k_is); (case l3 => k_is); (case c3 => k_is); (case k3 => k_is); (case a4 => k_is); (case l4 => k_is); (case c4 => k_is); (case k4 => k_is); (case a5 => k_is); (case l5 => k_is); (case c5 => k_is); (case k5 => k_is); (case a6 => k_is); (case l6 => k_is); (case c6 => k_is); (case k6 => k_is); (case pa7 => k_is); (case pe7 => k_is); (case l7 => k_is); (case c7 => k_is); (case k7 => k_is); (case pa8 => k_is); (case pd8 => k_is); (case pe8 => k_is); (case l8 => k_is); (case c8 => k_is); (case k8 => k_is); (case a9 => k_is); (case l9 => k_is); (case c9 => k_is); (case k9 => k_is); (case pa10 => k_is); (case pb10 => k_is); (case pc10 => k_is); (case pd10 => k_is); (case l10 => k_is); (case c10 => k_is); (case k10 => k_is); (case pa11 => k_is); (case pd11 => k_is); (case pe11 => k_is); (case l11 => k_is); (case c11 => k_is); (case k11 => k_is); (case pa12 => k_is); (case pe12 => k_is); (case l12 => k_is); (case c12 => k_is); (case k12 => k_is); (case a13 => k_is); (case l13 => k_is); (case c13 => k_is); (case k13 => k_is); (case a14 => k_is); (case l14 => k_is); (case c14 => k_is); (case k14 => k_is); (case a15 => k_is); (case l15 => k_is); (case c15 => k_is); (case k15 => k_is); (case a16 => k_is); (case l16 => k_is); (case c16 => k_is); (case k16 => k_is); (case a17 => k_is); (case l17 => k_is); (case c17 => k_is); (case k17 => k_is); (case a18 => k_is); (case l18 => k_is); (case c18 => k_is); (case k18 => k_is); (case a19 => k_is); (case l19 => k_is); (case c19 => k_is); (case k19 => k_is); (case a20 => k_is); (case l20 => k_is); (case c20 => k_is); (case k20 => k_is); (case gi0 => k_is); (case gi1 => k_is); (case gi2 => k_is); (case gi3 => k_is); (case gs0 => k_is); (case gs1 => k_is); (case z0 => k_is); (case z1 => k_is); (case z2 => k_is); (case z3 => k_is); (case z4 => k_is); (case z5 => k_is); (case z6 => k_is); (case z7 => k_is); (case z8 => k_is); (case z9 => k_is); (case z10 => k_is); (case z11 => k_is); (case z12 => k_is); (case z13 => k_is); (case z14 => k_is); (case z15 => k_is); (case z16 => k_is)
end

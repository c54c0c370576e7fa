import PyProof.Rows.All
import HandS.TupSets
import KE.KDictKeyed
import HandS.ForMost
import HandS.IsInst
import HandS.Wide
import HandS.Style
import HandS.TupAny
import HandS.TupMul
import HandS.Small
import HandS.Deep
import HandS.Conv
import HandS.Flow
import HandS.ForExc
import HandS.Lambda
import HandS.HeadHook4
import KE.GoesEnum
import KE.LtData
import KE.SortData
import KE.SortKeyHeap
import HandS.SortKw
import KE.DataCmp
import HandS.TryOnly
import HandS.Text
import HandS.DictComp
import KE.GoesSet
import KE.KDictSum
import KE.KMinBuiltin
import PyProof.ReprLen
import HandS.Zip
import PyProof.Rows.TupDisplay
import KE.KDictPairs
import PyProof.Rows.SeqRoads
import HandS.SetTxt0
import KE.KEqNest
import KE.DataEq
import PySem.Challenge.RW_jarvisits_k27_readings_by_hand
import HandS.Defaults
import HandS.Head0
import HandS.Head1
import HandS.Head2
import HandS.HeadEnd
import HandS.HeadHook1
import HandS.HeadHook2
import KE.KStateDown
set_option Elab.async false
set_option linter.all false
set_option maxRecDepth 100000
set_option maxHeartbeats 4000000
set_option autoImplicit false
section
/-! sets whose members are tuples of any depth -/
namespace NS
open PySem PySem.Spec PyProof.Rows L2

/-- the key that stands at an address -/
abbrev KAt (h : Heap) (k : NestedKey) (b : Addr) : Prop := NestedIs h k (.ref b) ∧ k.depth ≤ 8
section
variable {P : Program} {w : World} {A : Around} {E : Value → Shared → Prop} {s : Shared}
/-- what is asked of a value, n levels down, answers false -/
def NoClass (P : Program) (w : World) (n : Nat) (s : Shared) (v : Value) : Prop := ∀ (A : Around) (E : Value → Shared → Prop) (Q : Bool → Shared → Prop), Q false s → wpAny (model P w) A (ofAClassStatement n v) Q E s
def SomeHash (P : Program) (w : World) (n : Nat) (s : Shared) (v : Value) : Prop := ∀ (A : Around) (E : Value → Shared → Prop) (Q : Bool → Shared → Prop), (∀ b, Q b s) → wpAny (model P w) A (hashByValue n v) Q E s
theorem NoClass.flat {n : Nat} {v : Value} (h : ofAClassStatement n v = pure false) : NoClass P w n s v := fun A E Q q => by
  rw [h]; exact wpAny_pure q
theorem SomeHash.flat {n : Nat} {v : Value} {b : Bool} (h : hashByValue n v = pure b) : SomeHash P w n s v := fun A E Q q => by
  rw [h]; exact wpAny_pure (q b)
theorem NoClass.tup {n : Nat} {b : Addr} {o : Obj} {vs : Array Value} {m : Nat} (e1 : s.heap.get? b = some o) (e2 : o.cls = .type "tuple") (e3 : o.data = .seq vs m) (each : ∀ v ∈ vs.toList, NoClass P w n s v) : NoClass P w (n + 1) s (.ref b) := fun A E Q q => by
  have ty : s.TypeIs (.ref b) "tuple" := ⟨o, e1, e2⟩
  unfold ofAClassStatement
  refine wpAny_bind (wpAny_typeOf ty ?_)
  dsimp only
  have te : (("tuple" : String) == "tuple") = true := by decide
  simp only [te, if_true, Bool.not_true, Bool.false_eq_true, if_false]
  try refine wpAny_bind (wpAny_pure ?_)
  try simp only [Bool.not_true, Bool.false_eq_true, if_false]
  show wpAny _ _ (seqItems? (.ref b) >>= _) _ _ s
  refine wpAny_bind (wpAny_seqItems e1 e3 ?_)
  dsimp only
  refine wpAny_bind ?_
  show wpAny _ _ (forIn vs _ _) _ _ s
  rw [← Array.forIn_toList]
  refine wpAny_forIn_list _ (fun left r z => (r.1 = none ∧ z = s) ∧ ∀ v ∈ left, NoClass P w n s v) _ ?_ ?_ _ _ ⟨⟨rfl, rfl⟩, each⟩
  · rintro v left r z ⟨⟨hr, rfl⟩, all⟩
    refine wpAny_bind (all v List.mem_cons_self A _ _ ?_)
    simp only [Bool.false_eq_true, if_false]
    exact wpAny_pure ⟨⟨rfl, rfl⟩, fun u hu => all u (List.mem_cons_of_mem _ hu)⟩
  · rintro ⟨r1, r2⟩ z ⟨⟨hr, rfl⟩, _⟩
    simp only at hr
    subst hr
    exact wpAny_pure q
theorem SomeHash.tup {n : Nat} {b : Addr} {o : Obj} {vs : Array Value} {m : Nat} (e1 : s.heap.get? b = some o) (e2 : o.cls = .type "tuple") (e3 : o.data = .seq vs m) (each : ∀ v ∈ vs.toList, SomeHash P w n s v) : SomeHash P w (n + 1) s (.ref b) := fun A E Q q => by
  have ty : s.TypeIs (.ref b) "tuple" := ⟨o, e1, e2⟩
  unfold hashByValue
  refine wpAny_bind (wpAny_specialOf ty F.slot_tuple_hash.lookup ?_)
  show wpAny _ _ (seqItems? (.ref b) >>= _) _ _ s
  refine wpAny_bind (wpAny_seqItems e1 e3 ?_)
  refine wpAny_bind ?_
  show wpAny _ _ (forIn vs _ _) _ _ s
  rw [← Array.forIn_toList]
  refine wpAny_forIn_list _ (fun left r z => (r.1 = none ∧ z = s) ∧ ∀ v ∈ left, SomeHash P w n s v) _ ?_ ?_ _ _ ⟨⟨rfl, rfl⟩, each⟩
  · rintro v left r z ⟨⟨hr, rfl⟩, all⟩
    refine wpAny_bind (all v List.mem_cons_self A _ _ fun b => ?_)
    cases b with
    | true =>
      simp only [Bool.not_true, Bool.false_eq_true, if_false]
      exact wpAny_pure ⟨⟨rfl, rfl⟩, fun u hu => all u (List.mem_cons_of_mem _ hu)⟩
    | false =>
      simp only [Bool.not_false, if_true]
      exact wpAny_pure (wpAny_pure (q false))
  · rintro ⟨r1, r2⟩ z ⟨⟨hr, rfl⟩, _⟩
    simp only at hr
    subst hr
    exact wpAny_pure (q _)
mutual
theorem noClass : ∀ (k : NestedKey) (v : Value) (n : Nat), NestedIs s.heap k v → k.depth ≤ n → NoClass P w n s v
  | .none, _, n, x, _ => by cases x; exact .flat (by cases n <;> rfl)
  | .num i, _, n, x, _ => by cases x <;> exact .flat (by cases n <;> rfl)
  | .text y, _, n, x, _ => by cases x; exact .flat (by cases n <;> rfl)
  | .tup ks, _, n, x, hn => by
    cases x with
    | tup e1 e2 e3 e4 =>
      simp only [NestedKey.depth] at hn
      cases n with
      | zero => omega
      | succ n => exact .tup e1 e2 e3 (noClasses ks _ n e4 (by omega))
theorem noClasses : ∀ (ks : List NestedKey) (vs : List Value) (n : Nat), NestedAll s.heap ks vs → NestedKey.depthAll ks ≤ n → ∀ v ∈ vs, NoClass P w n s v
  | [], _, n, x, _, v, hv => by cases x; cases hv
  | k :: ks, _, n, x, hn, v, hv => by
    cases x with
    | cons x1 x2 =>
      simp only [NestedKey.depthAll] at hn
      rcases List.mem_cons.mp hv with rfl | hv
      · exact noClass k _ n x1 (by omega)
      · exact noClasses ks _ n x2 (by omega) v hv
end
mutual
theorem someHash : ∀ (k : NestedKey) (v : Value) (n : Nat), NestedIs s.heap k v → k.depth ≤ n → SomeHash P w n s v
  | .none, _, n, x, _ => by cases x; exact .flat (b := true) (by cases n <;> rfl)
  | .num i, _, n, x, _ => by cases x <;> exact .flat (b := true) (by cases n <;> rfl)
  | .text y, _, n, x, _ => by cases x; exact .flat (b := false) (by cases n <;> rfl)
  | .tup ks, _, n, x, hn => by
    cases x with
    | tup e1 e2 e3 e4 =>
      simp only [NestedKey.depth] at hn
      cases n with
      | zero => omega
      | succ n => exact .tup e1 e2 e3 (someHashes ks _ n e4 (by omega))
theorem someHashes : ∀ (ks : List NestedKey) (vs : List Value) (n : Nat), NestedAll s.heap ks vs → NestedKey.depthAll ks ≤ n → ∀ v ∈ vs, SomeHash P w n s v
  | [], _, n, x, _, v, hv => by cases x; cases hv
  | k :: ks, _, n, x, hn, v, hv => by
    cases x with
    | cons x1 x2 =>
      simp only [NestedKey.depthAll] at hn
      rcases List.mem_cons.mp hv with rfl | hv
      · exact someHash k _ n x1 (by omega)
      · exact someHashes ks _ n x2 (by omega) v hv
end
/-- looking for such a key among such keys is seen by nobody -/
theorem unseen {k : NestedKey} {b : Addr} {Q : Bool → Shared → Prop} (kb : KAt s.heap k b) {ys : List Value} (ky : ∀ y ∈ ys, ∃ k' c, y = Value.ref c ∧ KAt s.heap k' c) (q : Q false s) :
    wpAny (model P w) A (searchCouldBeSeen (.ref b) ys) Q E s := by
  unfold searchCouldBeSeen
  refine wpAny_bind ?_
  refine wpAny_forIn_list _ (fun left r z => (r.1 = none ∧ z = s) ∧ ∀ y ∈ left, ∃ k' c, y = Value.ref c ∧ KAt s.heap k' c) _ ?_ ?_ _ _ ⟨⟨rfl, rfl⟩, ky⟩
  · rintro v left r z ⟨⟨hr, rfl⟩, all⟩
    obtain ⟨k', c, rfl, kc⟩ := all v List.mem_cons_self
    have more : ∀ y ∈ left, ∃ k' c, y = Value.ref c ∧ KAt z.heap k' c := fun u hu => all u (List.mem_cons_of_mem _ hu)
    dsimp only
    by_cases hv : (b == c || (carriedByValue (.ref b) && carriedByValue (.ref c))) = true
    · exact wp_if_pos hv (wpAny_pure ⟨⟨rfl, rfl⟩, more⟩)
    · refine wp_if_neg hv ?_
      refine wpAny_bind (quiet_key k _ 8 z kb.1 kb.2 A _ _ ?_)
      simp only [Bool.not_true, Bool.false_eq_true, if_false]
      refine wpAny_bind (quiet_key k' _ 8 z kc.1 kc.2 A _ _ ?_)
      simp only [Bool.not_true, Bool.false_eq_true, if_false]
      refine wpAny_bind (noClass k _ 8 kb.1 kb.2 A _ _ ?_)
      simp only [Bool.false_eq_true, if_false]
      refine wpAny_bind (noClass k' _ 8 kc.1 kc.2 A _ _ ?_)
      simp only [Bool.false_eq_true, if_false]
      exact wpAny_pure ⟨⟨rfl, rfl⟩, more⟩
  · rintro ⟨r1, r2⟩ z ⟨⟨hr, rfl⟩, _⟩
    simp only at hr
    subst hr
    exact wpAny_pure q
/-- u == v of two keys -/
theorem eqKeys {k k' : NestedKey} {b c : Addr} {Q : Bool → Shared → Prop} (hu : A.units + 8 < cLine) (kb : KAt s.heap k b) (kc : KAt s.heap k' c) (q : Q (decide (k = k')) s) : wpAny (model P w) A (eqBool (.ref b) (.ref c)) Q E s :=
  (nestedKind P w).eqBool hu kb kc q

/-! ### the set -/
abbrev Mem := List (Addr × NestedKey)
def rows (w : World) (L : Mem) : List (Int × Value) := L.map fun p => (p.2.hash w, Value.ref p.1)
def hashes (w : World) (L : Mem) : List Int := L.map fun p => p.2.hash w
/-- the set's own object -/
structure SOb (w : World) (h : Heap) (a : Addr) (L : Mem) (es : Array (Int × Value)) (ep : Nat) (t : SetTable) : Prop where
  ob : ∃ o, h.get? a = some o ∧ o.ExactSet ∧ o.data = .set es ep t
  rw : es.toList = rows w L
  tb : TabOk t (hashes w L)
  nd : (L.map (·.2)).Nodup
  ld : w.params.followText "set-order" = true ∨ t.led = true
  rm : L.length * 5 < t.mask * 3
  fw : L.length < 64
variable {a : Addr} {L : Mem} {es : Array (Int × Value)} {ep : Nat} {t : SetTable} {h : Heap}
theorem rows_len {es : Array (Int × Value)} (e : es.toList = rows w L) : es.size = L.length := by
  have := congrArg List.length e
  simpa [rows] using this
theorem SOb.size (R : SOb w h a L es ep t) : es.size = L.length := rows_len R.rw
theorem SOb.psize (R : SOb w h a L es ep t) : t.place.size = L.length := by simpa [hashes] using R.tb.sz
theorem fits_of {t : SetTable} {n : Nat} (h1 : t.place.size = n) (h2 : t.dummies = #[]) (h3 : n ≤ t.mask) : t.fits n = true := by
  unfold SetTable.fits SetTable.fill
  simp [h2, h1, h3]
theorem SOb.fits (R : SOb w h a L es ep t) : t.fits es.size = true := by
  have := R.rm
  exact fits_of (R.psize.trans R.size.symm) R.tb.dm (by rw [R.size]; omega)
theorem SOb.entry (R : SOb w h a L es ep t) {i : Nat} {p : Addr × NestedKey} (e : L[i]? = some p) : es[i]? = some (p.2.hash w, Value.ref p.1) := by
  rw [← Array.getElem?_toList, R.rw]
  simp [rows, e]
theorem SOb.gw (R : SOb w h a L es ep t) : ¬ t.gaveWay = true := by
  have := mask_odd R.tb.mok
  unfold SetTable.gaveWay
  simp [this]
abbrev stepAt (t : SetTable) (h : Int) (c : Nat) : SetTable.Probe := nth t.mask (runAt t.mask (SetTable.bits h % (t.mask + 1)) (SetTable.bits h)) c
theorem no_dummy (m : Nat) : ∀ (n : Nat) (p : SetTable.Probe), p.dummy = none → (nth m p n).dummy = none
  | 0, p, e => e
  | n + 1, p, e => no_dummy m n (adv m p) (by unfold adv; split <;> exact e)
/-- the search, from the c-th step of its way on -/
theorem look_from (R : SOb w s.heap a L es ep t) (all : ∀ p ∈ L, KAt s.heap p.2 p.1) {x : Addr} {k : NestedKey} (kx : KAt s.heap k x) (hu : A.units + 8 < cLine) {K : Nat} (hKf : K < 10 * SetTable.turns t.mask)
    (hK : way t.mask (k.hash w) K ∉ t.place.toList) (hKb : ∀ c, c < K → way t.mask (k.hash w) c ∈ t.place.toList) {Q : SetFound → Shared → Prop}
    (hin : k ∈ L.map (·.2) → Q (.there none) s) (hout : k ∉ L.map (·.2) → Q (.free (way t.mask (k.hash w) K) false) s) :
    ∀ (f c : Nat) (stand : Option SetTable.Probe), stand.getD (t.probeStart (k.hash w)) = stepAt t (k.hash w) c → c ≤ K → K - c < f →
      (∀ (i : Nat) p, L[i]? = some p → p.2 = k → ∃ c', c ≤ c' ∧ c' < K ∧ t.place.toList[i]? = some (way t.mask (k.hash w) c')) →
      wpAny (model P w) A (setSearchFrom a (.ref x) (k.hash w) true f stand) Q E s
  | 0, c, stand, _, _, hf, _ => absurd hf (Nat.not_lt_zero _)
  | f + 1, c, stand, hst, hc, hf, hre => by
    obtain ⟨o, ho, hex, hd⟩ := R.ob
    rw [setSearchFrom_succ]
    refine wpAny_bind (wpAny_setState_of ho hd R.fits ?_)
    dsimp only
    refine wp_if_neg R.gw ?_
    try refine wpAny_bind (wpAny_pure ?_)
    have sh : ∀ q, nth t.mask (stepAt t (k.hash w) c) q = stepAt t (k.hash w) (c + q) := fun q => (nth_add t.mask c _ q).symm
    have jw : ∀ q, (nth t.mask (stepAt t (k.hash w) c) q).j = way t.mask (k.hash w) (c + q) := fun q => congrArg SetTable.Probe.j (sh q)
    have back : c + (K - c) = K := Nat.add_sub_cancel' hc
    have spec := go_spec t R.tb.ris R.tb.dm (fun i => (es[i]?.map (·.1)).getD 0) (k.hash w) (10 * SetTable.turns t.mask) (K - c) (stepAt t (k.hash w) c) (no_dummy _ c _ rfl) (by omega)
      (fun q hq => by rw [jw]; exact hKb _ (by omega)) (by rw [jw, back]; exact hK)
    have hashAt : ∀ (i : Nat) p, L[i]? = some p → (es[i]?.map (·.1)).getD 0 = p.2.hash w := fun i p hp => by
      simp [R.entry hp]
    rcases spec with ⟨q, i, hq, hi, hh, hno, hpr⟩ | ⟨hno, hpr⟩
    · have hpr' : t.probe (fun i => (es[i]?.map (·.1)).getD 0) (k.hash w) (stand.getD (t.probeStart (k.hash w))) = some (.candidate (way t.mask (k.hash w) (c + q)) i (stepAt t (k.hash w) (c + (q + 1)))) := by
        rw [hst, ← jw, ← sh]; exact hpr
      rw [hpr']
      dsimp only
      rw [jw] at hi
      have hil : i < L.length := by
        have h1 := (List.getElem?_eq_some_iff.mp hi).1
        rw [Array.length_toList, R.psize] at h1
        exact h1
      obtain ⟨p, hp⟩ : ∃ p, L[i]? = some p := ⟨_, List.getElem?_eq_getElem hil⟩
      have hmem : p ∈ L := List.mem_of_getElem? hp
      have tail : wpAny (model P w) A (searchRest a (.ref x) (k.hash w) true f es t (way t.mask (k.hash w) (c + q)) i (stepAt t (k.hash w) (c + (q + 1)))) Q E s := by
        unfold searchRest
        rw [R.entry hp]
        dsimp only
        refine wpAny_bind (wpAny_holding (eqKeys hu (all p hmem) kx ?_))
        refine wpAny_bind (wpAny_setState_of ho hd R.fits ?_)
        dsimp only
        by_cases same : p.2 = k
        · exact wp_if_pos (by simp [same]) (wpAny_pure (hin (List.mem_map.mpr ⟨p, hmem, same⟩)))
        · refine wp_if_neg (by simp [same]) ?_
          try refine wpAny_bind (wpAny_pure ?_)
          rw [sameMem]
          dsimp only
          have hsl : t.slot (way t.mask (k.hash w) (c + q)) = .live i := slot_live R.tb.ris hi
          simp only [if_true, hsl, R.entry hp]
          refine wpAny_bind (wpAny_isSame_ref_self (wpAny_bind (wpAny_pure ?_)))
          simp only [if_true]
          refine wp_if_neg (by simp [same]) ?_
          refine look_from R all kx hu hKf hK hKb hin hout f (c + (q + 1)) _ rfl (by omega) (by omega) fun i0 p0 h0 hk0 => ?_
          obtain ⟨c', a1, a2, a3⟩ := hre i0 p0 h0 hk0
          refine ⟨c', ?_, a2, a3⟩
          apply Classical.byContradiction
          intro late
          by_cases ec : c' = c + q
          · rw [ec] at a3
            have s0 := slot_live R.tb.ris a3
            rw [hsl] at s0
            cases s0
            rw [hp] at h0
            cases h0
            exact same hk0
          · refine hno (c' - c) i0 (by omega) (by rw [jw, Nat.add_sub_cancel' a1]; exact a3) ?_
            rw [hashAt i0 p0 h0, hk0]
      by_cases hl : t.led = true
      · refine wp_if_neg (by simp [hl]) ?_
        try refine wpAny_bind (wpAny_pure ?_)
        exact tail
      · refine wp_if_pos (by simp [hl]) ?_
        refine wpAny_bind (unseen kx (fun y hy => ?_) ?_)
        · obtain ⟨e, he, rfl⟩ := List.mem_map.mp hy
          have he2 : e ∈ es.toList := by simpa using (show e ∈ es ∧ e.1 = k.hash w by simpa using he).1
          rw [R.rw] at he2
          obtain ⟨p2, hp2, rfl⟩ := List.mem_map.mp he2
          exact ⟨p2.2, p2.1, rfl, all p2 hp2⟩
        · refine wp_if_neg (by decide) ?_
          try refine wpAny_bind (wpAny_pure ?_)
          exact tail
    · have hpr' : t.probe (fun i => (es[i]?.map (·.1)).getD 0) (k.hash w) (stand.getD (t.probeStart (k.hash w))) = some (.empty (way t.mask (k.hash w) K) none) := by
        rw [jw, back] at hpr
        rw [hst]
        exact hpr
      rw [hpr']
      dsimp only
      refine wpAny_pure (hout fun hm => ?_)
      obtain ⟨p0, h0, hk0⟩ := List.mem_map.mp hm
      obtain ⟨i0, hi0, rfl⟩ := List.getElem_of_mem h0
      have h00 : L[i0]? = some L[i0] := List.getElem?_eq_getElem hi0
      obtain ⟨c', a1, a2, a3⟩ := hre i0 _ h00 hk0
      refine hno (c' - c) i0 (by omega) (by rw [jw, Nat.add_sub_cancel' a1]; exact a3) ?_
      rw [hashAt i0 _ h00, hk0]
theorem look_at (R : SOb w s.heap a L es ep t) (all : ∀ p ∈ L, KAt s.heap p.2 p.1) {x : Addr} {k : NestedKey} (kx : KAt s.heap k x) (hu : A.units + 8 < cLine) {Q : SetFound → Shared → Prop}
    (hin : k ∈ L.map (·.2) → Q (.there none) s)
    (hout : ∀ K, k ∉ L.map (·.2) → way t.mask (k.hash w) K ∉ t.place.toList → (∀ c, c < K → way t.mask (k.hash w) c ∈ t.place.toList) → Q (.free (way t.mask (k.hash w) K) false) s) :
    wpAny (model P w) A (setSearch a (.ref x) (k.hash w) true) Q E s := by
  have hrm := R.rm
  obtain ⟨K, hKf, hK, hKb⟩ := R.tb.first (by simp only [hashes, List.length_map]; omega) (k.hash w)
  have big : K < 100000 := by
    refine Nat.lt_trans hKf ?_
    unfold SetTable.turns
    rcases R.tb.mok with e | e | e <;> rw [e] <;> omega
  unfold setSearch
  refine look_from R all kx hu hKf hK hKb hin (fun hn => hout K hn hK hKb) 100000 0 none rfl (Nat.zero_le _) (by omega) fun i p hp hk => ?_
  have hi : (hashes w L)[i]? = some (k.hash w) := by simp [hashes, hp, hk]
  have hil : i < t.place.toList.length := by
    rw [Array.length_toList, R.psize]
    exact (List.getElem?_eq_some_iff.mp hp).1
  have hj := List.getElem?_eq_getElem hil
  obtain ⟨c, hc, e⟩ := R.tb.before hK hi hj
  exact ⟨c, Nat.zero_le _, hc, by rw [hj, e]⟩
end

/-! ### the set grows -/
theorem KAt.other {h h' : Heap} {k : NestedKey} {b a : Addr} {o : Obj} {es : Array (Int × Value)} {ep : Nat} {t : SetTable} (kb : KAt h k b) (ho : h.get? a = some o) (hd : o.data = .set es ep t) (hs : Heap.SameBut a h h') : KAt h' k b :=
  ⟨NestedIs.at (fun c u vs n hc hu => (hs.2 c fun e => by
    rw [e, ho] at hc
    cases hc
    rw [hd] at hu
    cases hu).trans hc) k _ kb.1, kb.2⟩
theorem picks {α β : Type} (f : α → β) (L : List α) (g : Nat → Option β) (hg : ∀ i, g i = (L[i]?).map f) : ∀ l : List Nat, l.filterMap g = (l.filterMap fun i => L[i]?).map f
  | [] => rfl
  | i :: l => by
    have ih := picks f L g hg l
    cases e : L[i]? with
    | none => simp [List.filterMap_cons, hg, e, ih]
    | some x => simp [List.filterMap_cons, hg, e, ih]
theorem few_picks {α : Type} (L : List α) : ∀ n, (List.range n).filterMap (fun i => L[i]?) = L.take n
  | 0 => rfl
  | n + 1 => by
    rw [List.range_succ, List.filterMap_append, few_picks L n, List.take_succ]
    cases e : L[n]? <;> simp [List.filterMap_cons, e]
theorem all_picks {α : Type} (L : List α) : (List.range L.length).filterMap (fun i => L[i]?) = L := by
  rw [few_picks, List.take_length]
theorem picks_hash (w : World) (L : Mem) (es : Array (Int × Value)) (e : es.toList = rows w L) : ∀ l : List Nat, (∀ i ∈ l, i < L.length) → hashes w (l.filterMap fun i => L[i]?) = l.map fun i => (es.map (·.1)).getD i 0
  | [], _ => rfl
  | i :: l, hl => by
    have hi := hl i List.mem_cons_self
    have ih := picks_hash w L es e l fun j hj => hl j (List.mem_cons_of_mem _ hj)
    have ee : es[i]? = some ((L[i]).2.hash w, Value.ref (L[i]).1) := by
      rw [← Array.getElem?_toList, e]
      simp [rows, hi]
    simp only [hashes] at ih
    simp [List.filterMap_cons, hi, hashes, ih, Array.getD_eq_getD_getElem?, ee]
section
variable {P : Program} {w : World} {A : Around} {E : Value → Shared → Prop} {s : Shared} {a : Addr} {L : Mem} {es : Array (Int × Value)} {ep : Nat} {t : SetTable}
/-- laid anew, larger -/
theorem regrow {o : Obj} (ho : s.heap.get? a = some o) (hex : o.ExactSet) (hd : o.data = .set es ep t) (er : es.toList = rows w L) (hps : t.place.size = L.length) (hdm : t.dummies = #[]) (hfl : L.length ≤ t.mask)
    (nd : (L.map (·.2)).Nodup) (ld : w.params.followText "set-order" = true ∨ t.led = true) (fw : L.length < 64) {wanted M : Nat}
    (hw : SetTable.sizeAbove wanted = M + 1) (hM : MaskOk M) (hn : L.length * 5 < M * 3) {Q : Unit → Shared → Prop}
    (hQ : ∀ h' L' es' ep' t', Heap.SameBut a s.heap h' → SOb w h' a L' es' ep' t' → L'.Perm L → Q () { s with heap := h' }) : wpAny (model P w) A (setRelay a wanted) Q E s := by
  have hsl := rows_len er
  have hM' : M ≤ 127 := by rcases hM with e | e | e <;> omega
  obtain ⟨t', order, e, hp, T, em, el, _, ed⟩ := relaid_ok t (hs := es.map (·.1)) (wanted := wanted) (M := M) (by omega) hM (by rw [Array.size_map, hsl]; omega)
  rw [Array.size_map, hsl] at hp
  have below : ∀ i ∈ order.toList, i < L.length := fun i hi => List.mem_range.mp (hp.mem_iff.mp hi)
  have pm : (order.toList.filterMap fun i => L[i]?).Perm L := by
    have := hp.filterMap fun i => L[i]?
    rwa [all_picks] at this
  have r1 : (order.filterMap (es[·]?)).toList = rows w (order.toList.filterMap fun i => L[i]?) := by
    rw [Array.toList_filterMap]
    refine picks _ L _ (fun i => ?_) _
    rw [← Array.getElem?_toList, er]
    simp [rows]
  rw [← picks_hash w L es er _ below] at T
  generalize (order.toList.filterMap fun i => L[i]?) = L2 at pm r1 T
  have hs2 : (order.filterMap (es[·]?)).size = es.size := by rw [rows_len r1, hsl, pm.length_eq]
  rw [setRelay_eq]
  refine wpAny_bind (wpAny_setState_of ho hd (fits_of (hps.trans hsl.symm) hdm (by omega)) ?_)
  dsimp only
  refine wp_if_neg (by rw [sizeLine_eq, hw]; omega) ?_
  try refine wpAny_bind (wpAny_pure ?_)
  rw [e]
  dsimp only
  refine wpAny_bind ?_
  refine wp_if_neg (by simp [hs2]) ?_
  try refine wpAny_bind (wpAny_pure ?_)
  refine wpAny_pure ?_
  dsimp only
  refine wpAny_storeSet_of ho hd ?_ (by rw [hs2, hsl, sizeLine_eq]; omega)
  have sb : Heap.SameBut a s.heap (s.heap.update a (Obj.putSet (order.filterMap (es[·]?)) t')) := Heap.SameBut.update ..
  refine hQ _ L2 _ (ep + 1) t' sb ⟨⟨_, store_at ho hd, ⟨hex.1, hex.2.1, hex.2.2⟩, rfl⟩, r1, T, (pm.map (·.2)).nodup_iff.mpr nd, by rw [el]; exact ld, ?_, by rw [pm.length_eq]; exact fw⟩ pm
  rw [pm.length_eq, em]
  exact hn
theorem sizeA : SetTable.sizeAbove (SetTable.grown (4 + 1)) = 31 + 1 := by decide +kernel
theorem sizeB : SetTable.sizeAbove (SetTable.grown (18 + 1)) = 127 + 1 := by decide +kernel
/-- a member more, or none -/
theorem grow_by (R : SOb w s.heap a L es ep t) (all : ∀ p ∈ L, KAt s.heap p.2 p.1) {x : Addr} {k : NestedKey} (kx : KAt s.heap k x) (hu : A.units + 8 < cLine) (fw : L.length + 1 < 64) {Q : Bool → Shared → Prop}
    (hQ : ∀ b h' L' es' ep' t', Heap.SameBut a s.heap h' → SOb w h' a L' es' ep' t' → (k ∈ L.map (·.2) → L' = L) → (k ∉ L.map (·.2) → L'.Perm ((x, k) :: L)) → Q b { s with heap := h' }) :
    wpAny (model P w) A (setAddHashed a (.ref x) (k.hash w)) Q E s := by
  obtain ⟨o, ho, hex, hd⟩ := R.ob
  have hsl := R.size
  have hrm := R.rm
  unfold setAddHashed
  refine wpAny_holding ?_
  rw [show (100000 : Nat) = 99999 + 1 from rfl, setAddHashedIn_succ]
  refine wpAny_bind (wpAny_setState_of ho hd R.fits ?_)
  dsimp only
  refine wp_if_neg (by simp [byScan, Value.scannable]) ?_
  try refine wpAny_bind (wpAny_pure ?_)
  refine wpAny_bind (look_at R all kx hu (fun hm => ?_) fun K hm hK hb => ?_)
  · dsimp only
    exact wpAny_pure (hQ false s.heap L es ep t (Heap.SameBut.refl a s.heap) R (fun _ => rfl) fun z => absurd hm z)
  · dsimp only
    refine wpAny_bind (wpAny_setState_of ho hd R.fits ?_)
    dsimp only
    obtain ⟨q1, q2, q3, q4, q5, q6, q7, q8, q9⟩ := R.tb.put hK hb
    generalize hpt : t.put (way t.mask (k.hash w) K) = pt at q1 q3 q4 q5 q6 q7 q8 q9 ⊢
    obtain ⟨t1, p⟩ := pt
    dsimp only at q1 q3 q4 q5 q6 q7 q8 q9 ⊢
    subst q1
    have fill1 : t1.tooFull = decide ((L.length + 1) * 5 ≥ t1.mask * 3) := by
      unfold SetTable.tooFull
      rw [q9]
      simp [hashes]
    have hin : (SetTable.insertAt es (SetTable.below t.place (way t.mask (k.hash w) K)) (k.hash w, Value.ref x)).toList = rows w (L.take (SetTable.below t.place (way t.mask (k.hash w) K)) ++ (x, k) :: L.drop (SetTable.below t.place (way t.mask (k.hash w) K))) := by
      rw [SetTable.toList_insertAt, R.rw]
      simp [rows, List.map_take, List.map_drop]
    generalize hpp : SetTable.below t.place (way t.mask (k.hash w) K) = p at q2 q3 hin ⊢
    have pm := put_perm L p (x, k)
    have hlen : (L.take p ++ (x, k) :: L.drop p).length = L.length + 1 := pm.length_eq
    have hhs : (hashes w L).take p ++ k.hash w :: (hashes w L).drop p = hashes w (L.take p ++ (x, k) :: L.drop p) := by
      simp [hashes, List.map_take, List.map_drop]
    rw [hhs] at q3
    have nd1 : ((L.take p ++ (x, k) :: L.drop p).map (·.2)).Nodup := by
      refine (pm.map (·.2)).nodup_iff.mpr ?_
      rw [List.map_cons]
      exact List.nodup_cons.mpr ⟨hm, R.nd⟩
    have hes := rows_len hin
    rw [hlen] at hes
    generalize SetTable.insertAt es p (k.hash w, Value.ref x) = es1 at hin hes ⊢
    generalize L.take p ++ (x, k) :: L.drop p = L1 at pm hlen q3 nd1 hin
    -- behind the question whether hashes are values' own
    have go : ∀ t2 : SetTable, TabOk t2 (hashes w L1) → t2.mask = t1.mask → t2.led = t1.led → t2.tooFull = t1.tooFull →
        wpAny (model P w) A (do
          storeSet a es1 t2
          if !false && t2.tooFull then setRelay a (SetTable.grown (es.size + 1))
          return true) Q E s := fun t2 T m2 l2 f2 => by
      refine wpAny_bind (wpAny_storeSet_of ho hd ?_ (by rw [hes, sizeLine_eq]; omega))
      have sb : Heap.SameBut a s.heap (s.heap.update a (Obj.putSet es1 t2)) := Heap.SameBut.update ..
      have ho1 := store_at (es' := es1) (t' := t2) ho hd
      generalize s.heap.update a (Obj.putSet es1 t2) = h1 at sb ho1 ⊢
      have ld1 : w.params.followText "set-order" = true ∨ t2.led = true := by rw [l2, q5]; exact R.ld
      by_cases hf : t2.tooFull = true
      · first
          | (refine wpAny_bind ?_; refine wp_if_pos (by simp [hf]) ?_)
          | (refine wp_if_pos (by simp [hf]) ?_; refine wpAny_bind ?_)
        have full : (L.length + 1) * 5 ≥ t1.mask * 3 := by
          rw [f2, fill1] at hf
          exact of_decide_eq_true hf
        have two : (t.mask = 7 ∧ L.length = 4) ∨ (t.mask = 31 ∧ L.length = 18) := by
          rw [q4] at full
          rcases R.tb.mok with e | e | e <;> rw [e] at full hrm
          · exact .inl ⟨e, by omega⟩
          · exact .inr ⟨e, by omega⟩
          · omega
        have psz : t2.place.size = L1.length := by simpa [hashes] using T.sz
        have lay : ∀ M, SetTable.sizeAbove (SetTable.grown (L.length + 1)) = M + 1 → MaskOk M → (L.length + 1) * 5 < M * 3 →
            wpAny (model P w) A (setRelay a (SetTable.grown (L.length + 1))) (fun _ s' => wpAny (model P w) A (pure true) Q E s') E { s with heap := h1 } := fun M g1 g2 g3 => by
          refine regrow (s := { s with heap := h1 }) ho1 ⟨hex.1, hex.2.1, hex.2.2⟩ rfl hin psz T.dm (by rw [hlen, m2, q4]; rcases two with ⟨e, e2⟩ | ⟨e, e2⟩ <;> omega) nd1 ld1 (by rw [hlen]; exact fw) g1 g2 (by rw [hlen]; exact g3) ?_
          intro h2 L2 es2 ep2 t2 sb2 R2 pm2
          exact wpAny_pure (hQ true h2 L2 es2 ep2 t2 (sb.trans sb2) R2 (fun z => absurd z hm) fun _ => pm2.trans pm)
        rw [hsl]
        rcases two with ⟨_, e2⟩ | ⟨_, e2⟩
        · exact lay 31 (by rw [e2]; exact sizeA) (.inr (.inl rfl)) (by omega)
        · exact lay 127 (by rw [e2]; exact sizeB) (.inr (.inr rfl)) (by omega)
      · first
          | refine wp_if_neg (by simp [hf]) ?_
          | (refine wpAny_bind ?_; refine wp_if_neg (by simp [hf]) ?_; refine wpAny_pure ?_)
        refine wpAny_pure (hQ true h1 L1 es1 (ep + 1) t2 sb ⟨⟨_, ho1, ⟨hex.1, hex.2.1, hex.2.2⟩, rfl⟩, hin, T, nd1, ld1, ?_, by rw [hlen]; exact fw⟩ (fun z => absurd z hm) fun _ => pm)
        rw [f2, fill1, decide_eq_true_eq] at hf
        rw [hlen, m2]
        omega
    by_cases hpl : t1.plain = true
    · first
        | (refine wpAny_bind ?_; refine wp_if_pos hpl ?_; refine someHash k _ 8 kx.1 kx.2 A _ _ fun b => ?_)
        | refine wp_if_pos hpl (wpAny_bind (someHash k _ 8 kx.1 kx.2 A _ _ fun b => ?_))
      cases b with
      | true => simp only [if_true]; exact go t1 q3 rfl rfl rfl
      | false => simp only [Bool.false_eq_true, if_false]; exact go { t1 with plain := false } ⟨q3.ris, q3.dm, q3.sz, q3.mok, q3.bd, q3.reach⟩ rfl rfl rfl
    · first
        | (refine wpAny_bind ?_; refine wp_if_neg hpl ?_; refine wpAny_pure ?_)
        | refine wp_if_neg hpl (wpAny_bind (wpAny_pure ?_))
      simp only [if_true]
      exact go t1 q3 rfl rfl rfl
end
end NS
end
section
/-! Jv: trees as values, a store for what changes, denotations of Python's expressions and statements over the layer HandS. -/
namespace Jv
open PySem L2

abbrev St := L2.St
/-- the fragment that is known, and the world -/
structure KW where
  K : PySem.W.Frag
  w : World
  mg : Str → Option Value
instance : Coe KW PySem.W.Frag := ⟨KW.K⟩
abbrev KW.lookup (K : KW) (a : Addr) : Option Obj := K.K.lookup a
end Jv
abbrev L2.Cx.kw (X : L2.Cx) : Jv.KW := ⟨X.K, X.w, X.mg⟩
namespace Jv
open PySem L2
/-! ### trees, objects that change, results -/
/-- a tree -/
inductive D where
  | non | bl (b : Bool) | int (i : Int) | str (x : Str)
  | tup (xs : List D) | lst (xs : List D) | dct (kvs : List (D × D))
  | ty (n : String)
  /-- a dict whose keys are tuples, no longer one that changes -/
  | kd (kvs : List (D × D))
  /-- a code object of the name q -/
  | cod (q : Str)
  /-- a dict whose keys are ints, texts, None, no longer one that changes -/
  | ld (kvs : List (D × D))
  /-- some object, by its address -/
  | adr (a : Addr)
  /-- a tuple whose very object is known: it has no dict of its own -/
  | tupx (xs : List D)
  /-- an exception of the class that the module calls n, its fields -/
  | exc (n : Str) (fs : List (Str × D))
  deriving Inhabited
/-- a value: a tree, or the number of an object that changes -/
inductive W where
  | v (d : D) | r (l : Nat)
  deriving Inhabited

inductive Ob where
  | dead
  | lst (xs : List D)
  | dct (kvs : List (Str × W))
  /-- a dict whose keys are tuples -/
  | kd (kvs : List (D × D))
  /-- a set of tuples, in the order in which they came -/
  | set (ds : List D)
  /-- a dict whose keys are ints, texts, None -/
  | ld (kvs : List (D × D))
  /-- a def's table of code objects, each of the name q -/
  | tab (p : Str × Option Str) (q : Str)
  deriving Inhabited

/-- where the objects that change stand, by their numbers (none: given up), and addresses that are being filled -/
structure Rho where
  lc : List (Option Addr)
  hid : List Addr
def Rho.mut (ρ : Rho) (a : Addr) : Prop := some a ∈ ρ.lc ∨ a ∈ ρ.hid
abbrev Sto := List Ob
abbrev Env := List (Option W)
/-- an exception: the name of its class, its fields -/
structure Xc where
  cls : Str
  fs : List (Str × D)

inductive R (α : Type) where
  | ok (a : α) (st : Sto) | exc (x : Xc) (st : Sto) | bad

def R.bind {α β : Type} (r : R α) (k : α → Sto → R β) : R β := match r with
  | .ok a st => k a st
  | .exc x st => .exc x st
  | .bad => .bad
@[simp] theorem R.bind_ok {α β : Type} (a : α) (st : Sto) (k : α → Sto → R β) : (R.ok a st).bind k = k a st := rfl
@[simp] theorem R.bind_exc {α β : Type} (x : Xc) (st : Sto) (k : α → Sto → R β) : (R.exc x st : R α).bind k = .exc x st := rfl
@[simp] theorem R.bind_bad {α β : Type} (k : α → Sto → R β) : (R.bad : R α).bind k = .bad := rfl

/-! ### the relation of values and trees -/
/-- the entries of a dict at a whose keys are tuples -/
def KdAt (w : World) (a : Addr) (xs : List (NestedKey × Addr × Value)) : Heap → Prop := fun h => ∃ o es ep, h.get? a = some o ∧ o.ExactDict ∧ o.data = .dict es ep ∧ es.toList = xs.map (fun x => ({ hash := x.1.hash w, key := .ref x.2.1, val := x.2.2 } : DictEntry))
mutual
def D.nk : D → NestedKey
  | .non => .none
  | .bl b => .num (if b = true then 1 else 0)
  | .int i => .num i
  | .str x => .text x
  | .tup xs => .tup (D.nkL xs)
  | .lst _ => .none
  | .dct _ => .none
  | .ty _ => .none
  | .kd _ => .none
  | .cod _ => .none
  | .ld _ => .none
  | .adr _ => .none
  | .tupx _ => .none
  | .exc _ _ => .none
def D.nkL : List D → List NestedKey
  | [] => []
  | x :: xs => x.nk :: D.nkL xs
end
mutual
def D.hb : D → Bool
  | .non => true
  | .bl _ => true
  | .int _ => true
  | .str _ => true
  | .tup xs => D.hbL xs
  | .lst _ => false
  | .dct _ => false
  | .ty _ => false
  | .kd _ => false
  | .cod _ => false
  | .ld _ => false
  | .adr _ => false
  | .tupx _ => false
  | .exc _ _ => false
def D.hbL : List D → Bool
  | [] => true
  | x :: xs => x.hb && D.hbL xs
end
/-- the dict at a, its very object -/
def KoAt (a : Addr) (o : Obj) : Heap → Prop := fun h => h.get? a = some o
def KdO (w : World) (o : Obj) (xs : List (NestedKey × Addr × Value)) : Prop := ∃ es ep, o.ExactDict ∧ o.data = .dict es ep ∧ es.toList = xs.map (fun x => ({ hash := x.1.hash w, key := .ref x.2.1, val := x.2.2 } : DictEntry))
/-- the rows of such a dict, its values, its tree -/
structure KdOk (xs : List (NestedKey × Addr × Value)) (vs : List V) (kvs : List (D × D)) : Prop where
  keys : xs.map (·.1) = kvs.map (·.1.nk)
  vals : Vals vs (xs.map (·.2.2))
  hb : ∀ p ∈ kvs, p.1.hb = true ∧ p.1.nk.depth ≤ 8
  nd : (kvs.map (·.1.nk)).Nodup
/-- ints, texts, None as keys -/
def D.lf : D → Option Leaf
  | .non => some .none
  | .int i => some (.num i)
  | .str x => some (.text x)
  | _ => none
/-- the entries of a dict at a whose keys are ints, texts, None -/
def LdAt (w : World) (a : Addr) (kvs : List (Leaf × Value)) : Heap → Prop := fun h => ∃ prog : Program, h.DictOf (leafKind prog w) a kvs
def LdO (w : World) (o : Obj) (kvs : List (Leaf × Value)) : Prop := ∃ prog : Program, o.IsDictOf (leafKind prog w) kvs
structure LdOk (xs : List (Leaf × Value)) (vs : List V) (kvs : List (D × D)) : Prop where
  keys : kvs.map (·.1.lf) = xs.map fun x => some x.1
  vals : Vals vs (xs.map (·.2))
/-- at a: an exception -/
def ExcO (a : Addr) (cls : Value) (od : Option Addr) : HO := .ext fun h => ∃ (oe : Obj) (vs : Array Value), h.get? a = some oe ∧ oe.cls = cls ∧ oe.dict = od ∧ oe.data = .fields vs
def LsR (K : KW) (ρ : Rho) (H : Hp) (a : Addr) (xs : List V) : Prop :=
  (Rd H a (.lst xs) ∧ ¬ ρ.mut a) ∨
    ∃ (o : Obj) (its : Array Value) (n : Nat), K.lookup a = some o ∧ o.cls = .type "list" ∧ o.dict = none ∧ o.data = .seq its n ∧ its.size ≤ sizeLine ∧ Vals xs its.toList
theorem LsR.sql {K : KW} {ρ : Rho} {H : Hp} {a : Addr} {xs : List V} (h : LsR K ρ H a xs) : SqL K H a xs := h.imp (fun z => z.1) id
mutual
inductive Rl (K : KW) (ρ : Rho) (H : Hp) : V → D → Prop
  | non : Rl K ρ H .non .non
  | bl (b : Bool) : Rl K ρ H (.bl b) (.bl b)
  | int (i : Int) : Rl K ρ H (.int i) (.int i)
  | str (x : Str) : Rl K ρ H (.str x) (.str x)
  | ty (n : String) : Rl K ρ H (.ty n) (.ty n)
  | tup {a : Addr} {xs : List V} {ds : List D} : Rd H a (.tup xs) → ¬ ρ.mut a → RlAll K ρ H xs ds → Rl K ρ H (.ref a) (.tup ds)
  | lst {a : Addr} {xs : List V} {ds : List D} : LsR K ρ H a xs → RlAll K ρ H xs ds → Rl K ρ H (.ref a) (.lst ds)
  | dct0 {a : Addr} : H a = some (.dK []) → ¬ ρ.mut a → Rl K ρ H (.ref a) (.dct [])
  | cod {a : Addr} {q : Str} : H a = some (LamX.CodeO a q) → ¬ ρ.mut a → Rl K ρ H (.ref a) (.cod q)
  | kd {a : Addr} {o : Obj} {xs : List (NestedKey × Addr × Value)} {vs : List V} {kvs : List (D × D)} : H a = some (.ext (KoAt a o)) → ¬ ρ.mut a → KdO K.w o xs ∧ KdOk xs vs kvs → (a == sysModules) = false →
      RlAll K ρ H (xs.map (fun x => V.ref x.2.1) ++ vs) (kvs.map (·.1) ++ kvs.map (·.2)) → Rl K ρ H (.ref a) (.kd kvs)
  | ld {a : Addr} {o : Obj} {xs : List (Leaf × Value)} {vs : List V} {kvs : List (D × D)} : H a = some (.ext (KoAt a o)) → ¬ ρ.mut a → LdO K.w o xs ∧ LdOk xs vs kvs → (a == sysModules) = false → RlAll K ρ H vs (kvs.map (·.2)) → Rl K ρ H (.ref a) (.ld kvs)
  | adr (a : Addr) : Rl K ρ H (.ref a) (.adr a)
  | tupx {a : Addr} {o : Obj} {xs : List V} {ds : List D} : H a = some (.frz o (.tup xs)) → ¬ ρ.mut a → o.dict = none → RlAll K ρ H xs ds → Rl K ρ H (.ref a) (.tupx ds)
  | exc0 {a : Addr} {n : Str} {cls : Value} : H a = some (ExcO a cls none) → ¬ ρ.mut a → K.mg n = some cls → Rl K ρ H (.ref a) (.exc n [])
  | excd {a d : Addr} {n : Str} {cls : Value} {vs : List (Str × V)} {fs : List (Str × D)} : H a = some (ExcO a cls (some d)) → ¬ ρ.mut a → K.mg n = some cls → H d = some (.xd vs) → ¬ ρ.mut d → vs.map (·.1) = fs.map (·.1) → RlAll K ρ H (vs.map (·.2)) (fs.map (·.2)) → Rl K ρ H (.ref a) (.exc n fs)
inductive RlAll (K : KW) (ρ : Rho) (H : Hp) : List V → List D → Prop
  | nil : RlAll K ρ H [] []
  | cons {v : V} {vs : List V} {d : D} {ds : List D} : Rl K ρ H v d → RlAll K ρ H vs ds → RlAll K ρ H (v :: vs) (d :: ds)
end

inductive Rw (K : KW) (ρ : Rho) (H : Hp) : V → W → Prop
  | v {x : V} {d : D} : Rl K ρ H x d → Rw K ρ H x (.v d)
  | r {l : Nat} {x : V} : l < ρ.lc.length → (∀ a, ρ.lc[l]? = some (some a) → x = .ref a) → Rw K ρ H x (.r l)
inductive RwAll (K : KW) (ρ : Rho) (H : Hp) : List V → List W → Prop
  | nil : RwAll K ρ H [] []
  | cons {v : V} {vs : List V} {d : W} {ds : List W} : Rw K ρ H v d → RwAll K ρ H vs ds → RwAll K ρ H (v :: vs) (d :: ds)

structure Grow (ρ : Rho) (H : Hp) (ρ' : Rho) (H' : Hp) : Prop where
  len : ρ.lc.length ≤ ρ'.lc.length
  hid : ρ'.hid = ρ.hid
  ref : ∀ (l : Nat) (a : Addr), l < ρ.lc.length → ρ'.lc[l]? = some (some a) → ρ.lc[l]? = some (some a)
  obj : ∀ a o, H a = some o → some a ∉ ρ.lc → H' a = some o ∧ some a ∉ ρ'.lc

theorem Grow.refl (ρ : Rho) (H : Hp) : Grow ρ H ρ H := ⟨Nat.le_refl _, rfl, fun _ _ _ h => h, fun _ _ h n => ⟨h, n⟩⟩
theorem Grow.trans {ρ ρ1 ρ2 : Rho} {H H1 H2 : Hp} (a : Grow ρ H ρ1 H1) (b : Grow ρ1 H1 ρ2 H2) : Grow ρ H ρ2 H2 :=
  ⟨Nat.le_trans a.len b.len, b.hid.trans a.hid, fun l x h e => a.ref l x h (b.ref l x (Nat.lt_of_lt_of_le h a.len) e), fun x o h n => let ⟨h1, n1⟩ := a.obj x o h n; b.obj x o h1 n1⟩
theorem Grow.same {ρ : Rho} {H H' : Hp} (s : Same H H') : Grow ρ H ρ H' := ⟨Nat.le_refl _, rfl, fun _ _ _ h => h, fun a o h n => ⟨s a o h, n⟩⟩

section
variable {K : KW} {ρ ρ' : Rho} {H H' : Hp}
theorem Grow.keep (g : Grow ρ H ρ' H') {a : Addr} {o : HO} (h : H a = some o) (n : ¬ ρ.mut a) : H' a = some o ∧ ¬ ρ'.mut a := by
  obtain ⟨h1, h2⟩ := g.obj a o h fun z => n (.inl z)
  exact ⟨h1, fun z => z.elim h2 fun z => n (.inr (g.hid ▸ z))⟩
theorem Grow.keepR (g : Grow ρ H ρ' H') {a : Addr} {o : HO} (h : Rd H a o) (n : ¬ ρ.mut a) : Rd H' a o ∧ ¬ ρ'.mut a := by
  rcases h with h | ⟨ob, h⟩
  · obtain ⟨h1, h2⟩ := g.keep h n; exact ⟨.inl h1, h2⟩
  · obtain ⟨h1, h2⟩ := g.keep h n; exact ⟨.inr ⟨ob, h1⟩, h2⟩
theorem _root_.L2.Rd.ne {a b : Addr} {o : HO} (h : Rd H a o) (h' : H b = none) : a ≠ b := by
  rcases h with h | ⟨ob, h⟩
  · exact ne_of_none h h'
  · exact ne_of_none h h'
theorem _root_.L2.Rd.to {a : Addr} {o : HO} (h : Rd H a o) (e : H' a = H a) : Rd H' a o := by
  unfold Rd at h ⊢
  rw [e]
  exact h
theorem _root_.L2.Rd.up {a p : Addr} {o u : HO} (h : Rd H a o) (hp : H p = none) : Rd (upd H p u) a o := h.to (upd_ne (h.ne hp))
theorem Grow.lsr (g : Grow ρ H ρ' H') {a : Addr} {xs : List V} (h : LsR K ρ H a xs) : LsR K ρ' H' a xs := by
  rcases h with ⟨h | ⟨o, h⟩, n⟩ | h
  · obtain ⟨h1, h2⟩ := g.keep h n; exact .inl ⟨.inl h1, h2⟩
  · obtain ⟨h1, h2⟩ := g.keep h n; exact .inl ⟨.inr ⟨o, h1⟩, h2⟩
  · exact .inr h
mutual
theorem Rl.grow (g : Grow ρ H ρ' H') : ∀ {v : V} {d : D}, Rl K ρ H v d → Rl K ρ' H' v d
  | _, _, .non => .non
  | _, _, .bl b => .bl b
  | _, _, .int i => .int i
  | _, _, .str x => .str x
  | _, _, .ty n => .ty n
  | _, _, .tup h n r => let ⟨h', n'⟩ := g.keepR h n; .tup h' n' (RlAll.grow g r)
  | _, _, .lst h r => .lst (g.lsr h) (RlAll.grow g r)
  | _, _, .dct0 h n => let ⟨h', n'⟩ := g.keep h n; .dct0 h' n'
  | _, _, .cod h n => let ⟨h', n'⟩ := g.keep h n; .cod h' n'
  | _, _, .kd h n o m r => let ⟨h', n'⟩ := g.keep h n; .kd h' n' o m (RlAll.grow g r)
  | _, _, .ld h n o m r => let ⟨h', n'⟩ := g.keep h n; .ld h' n' o m (RlAll.grow g r)
  | _, _, .adr a => .adr a
  | _, _, .tupx h n e r => let ⟨h', n'⟩ := g.keep h n; .tupx h' n' e (RlAll.grow g r)
  | _, _, .exc0 h n m => let ⟨h', n'⟩ := g.keep h n; .exc0 h' n' m
  | _, _, .excd h n m k k' e r => let ⟨h', n'⟩ := g.keep h n; let ⟨k1, k1'⟩ := g.keep k k'; .excd h' n' m k1 k1' e (RlAll.grow g r)
theorem RlAll.grow (g : Grow ρ H ρ' H') : ∀ {vs : List V} {ds : List D}, RlAll K ρ H vs ds → RlAll K ρ' H' vs ds
  | _, _, .nil => .nil
  | _, _, .cons r t => .cons (Rl.grow g r) (RlAll.grow g t)
end
theorem Rw.grow (g : Grow ρ H ρ' H') {v : V} {w : W} : Rw K ρ H v w → Rw K ρ' H' v w
  | .v q => .v (q.grow g)
  | .r h e => .r (Nat.lt_of_lt_of_le h g.len) fun a q => e a (g.ref _ a h q)
theorem RwAll.grow (g : Grow ρ H ρ' H') : ∀ {vs : List V} {ds : List W}, RwAll K ρ H vs ds → RwAll K ρ' H' vs ds
  | _, _, .nil => .nil
  | _, _, .cons r t => .cons (r.grow g) (RwAll.grow g t)
theorem RwAll.length : ∀ {vs : List V} {ds : List W}, RwAll K ρ H vs ds → vs.length = ds.length
  | _, _, .nil => rfl
  | _, _, .cons _ t => by simp [RwAll.length t]
theorem RwAll.getD : ∀ {vs : List V} {ds : List W} {i : Nat} {d : W}, RwAll K ρ H vs ds → ds[i]? = some d → ∃ v, vs[i]? = some v ∧ Rw K ρ H v d
  | _, _, _, _, .nil, e => by simp at e
  | _, _, 0, _, .cons r _, e => by simp at e; subst e; exact ⟨_, rfl, r⟩
  | _, _, i + 1, v, .cons _ t, e => by
    obtain ⟨d, h1, h2⟩ := RwAll.getD (i := i) (d := v) t (by simpa using e)
    exact ⟨d, by simpa using h1, h2⟩
/-- trees alone -/
def allV : List W → Option (List D)
  | [] => some []
  | .v d :: r => (allV r).map (d :: ·)
  | .r _ :: _ => none
theorem RwAll.trees : ∀ {vs : List V} {ws : List W} {ds : List D}, RwAll K ρ H vs ws → allV ws = some ds → RlAll K ρ H vs ds
  | _, _, _, .nil, e => by simp [allV] at e; subst e; exact .nil
  | _, .v d :: r, ds, .cons h t, e => by
    simp only [allV] at e
    cases q : allV r with
    | none => rw [q] at e; cases e
    | some es =>
      rw [q] at e
      cases e
      cases h with
      | v h => exact .cons h (RwAll.trees t q)
  | _, .r l :: r, ds, .cons h t, e => by simp [allV] at e
theorem allV_length : ∀ {ws : List W} {ds : List D}, allV ws = some ds → ws.length = ds.length
  | [], _, e => by simp [allV] at e; subst e; rfl
  | .v d :: r, ds, e => by
    simp only [allV] at e
    cases q : allV r with
    | none => rw [q] at e; cases e
    | some es => rw [q] at e; cases e; simp [allV_length q]
  | .r l :: r, ds, e => by simp [allV] at e
/-- an address more that is being filled -/
def Rho.hide (ρ : Rho) (a : Addr) : Rho := ⟨ρ.lc, a :: ρ.hid⟩
theorem LsR.hide {p : Addr} {o : HO} (hp : H p = none) {a : Addr} {xs : List V} (h : LsR K ρ H a xs) : LsR K (ρ.hide p) (upd H p o) a xs := by
  have ne : ∀ u, H a = some u → ¬ ρ.mut a → ¬ (ρ.hide p).mut a := fun u e n z => by
    rcases z with z | z
    · exact n (.inl z)
    · rcases List.mem_cons.mp z with z | z
      · exact ne_of_none e hp z
      · exact n (.inr z)
  rcases h with ⟨h | ⟨o, h⟩, n⟩ | h
  · exact .inl ⟨.inl (by rw [upd_ne (ne_of_none h hp)]; exact h), ne _ h n⟩
  · exact .inl ⟨.inr ⟨o, by rw [upd_ne (ne_of_none h hp)]; exact h⟩, ne _ h n⟩
  · exact .inr h
mutual
theorem Rl.hide {p : Addr} {o : HO} (hp : H p = none) : ∀ {v : V} {d : D}, Rl K ρ H v d → Rl K (ρ.hide p) (upd H p o) v d
  | _, _, .non => .non
  | _, _, .bl b => .bl b
  | _, _, .int i => .int i
  | _, _, .str x => .str x
  | _, _, .ty n => .ty n
  | _, _, .tup h n r => .tup (h.up hp) (fun z => by
      rcases z with z | z
      · exact n (.inl z)
      · rcases List.mem_cons.mp z with z | z
        · exact h.ne hp z
        · exact n (.inr z)) (RlAll.hide hp r)
  | _, _, .lst h r => .lst (h.hide hp) (RlAll.hide hp r)
  | _, _, .dct0 h n => .dct0 (by rw [upd_ne (ne_of_none h hp)]; exact h) (fun z => by
      rcases z with z | z
      · exact n (.inl z)
      · rcases List.mem_cons.mp z with z | z
        · exact ne_of_none h hp z
        · exact n (.inr z))
  | _, _, .cod h n => .cod (by rw [upd_ne (ne_of_none h hp)]; exact h) (fun z => by
      rcases z with z | z
      · exact n (.inl z)
      · rcases List.mem_cons.mp z with z | z
        · exact ne_of_none h hp z
        · exact n (.inr z))
  | _, _, .kd h n o m r => .kd (by rw [upd_ne (ne_of_none h hp)]; exact h) (fun z => by
      rcases z with z | z
      · exact n (.inl z)
      · rcases List.mem_cons.mp z with z | z
        · exact ne_of_none h hp z
        · exact n (.inr z)) o m (RlAll.hide hp r)
  | _, _, .ld h n o m r => .ld (by rw [upd_ne (ne_of_none h hp)]; exact h) (fun z => by
      rcases z with z | z
      · exact n (.inl z)
      · rcases List.mem_cons.mp z with z | z
        · exact ne_of_none h hp z
        · exact n (.inr z)) o m (RlAll.hide hp r)
  | _, _, .adr a => .adr a
  | _, _, .tupx h n e r => .tupx (by rw [upd_ne (ne_of_none h hp)]; exact h) (fun z => by
      rcases z with z | z
      · exact n (.inl z)
      · rcases List.mem_cons.mp z with z | z
        · exact ne_of_none h hp z
        · exact n (.inr z)) e (RlAll.hide hp r)
  | _, _, .exc0 h n m => .exc0 (by rw [upd_ne (ne_of_none h hp)]; exact h) (fun z => by
      rcases z with z | z
      · exact n (.inl z)
      · rcases List.mem_cons.mp z with z | z
        · exact ne_of_none h hp z
        · exact n (.inr z)) m
  | _, _, .excd h n m k k' e r => .excd (by rw [upd_ne (ne_of_none h hp)]; exact h) (fun z => by
      rcases z with z | z
      · exact n (.inl z)
      · rcases List.mem_cons.mp z with z | z
        · exact ne_of_none h hp z
        · exact n (.inr z)) m (by rw [upd_ne (ne_of_none k hp)]; exact k) (fun z => by
      rcases z with z | z
      · exact k' (.inl z)
      · rcases List.mem_cons.mp z with z | z
        · exact ne_of_none k hp z
        · exact k' (.inr z)) e (RlAll.hide hp r)
theorem RlAll.hide {p : Addr} {o : HO} (hp : H p = none) : ∀ {vs : List V} {ds : List D}, RlAll K ρ H vs ds → RlAll K (ρ.hide p) (upd H p o) vs ds
  | _, _, .nil => .nil
  | _, _, .cons r t => .cons (Rl.hide hp r) (RlAll.hide hp t)
end
theorem Rw.hide {p : Addr} {o : HO} (hp : H p = none) {v : V} {w : W} : Rw K ρ H v w → Rw K (ρ.hide p) (upd H p o) v w
  | .v q => .v (q.hide hp)
  | .r h e => .r h e
/-- .. it is filled on, or let go: what is related doesn't lean on it -/
theorem LsR.unhide {p : Addr} (h' : ∀ b, b ≠ p → H' b = H b) {a : Addr} {xs : List V} (h : LsR K (ρ.hide p) H a xs) : LsR K ρ H' a xs ∧ (¬ a = p ∨ ∃ o, K.lookup a = some o) := by
  rcases h with ⟨h, n⟩ | h
  · have ne : a ≠ p := fun z => n (.inr (z ▸ List.mem_cons_self))
    refine ⟨.inl ⟨?_, fun z => n (z.imp id (List.mem_cons_of_mem _))⟩, .inl ne⟩
    rcases h with h | ⟨o, h⟩
    · exact .inl (by rw [h' a ne]; exact h)
    · exact .inr ⟨o, by rw [h' a ne]; exact h⟩
  · exact ⟨.inr h, .inr (let ⟨o, _, _, e, _⟩ := h; ⟨o, e⟩)⟩
mutual
theorem Rl.unhide {p : Addr} (h' : ∀ b, b ≠ p → H' b = H b) : ∀ {v : V} {d : D}, Rl K (ρ.hide p) H v d → Rl K ρ H' v d
  | _, _, .non => .non
  | _, _, .bl b => .bl b
  | _, _, .int i => .int i
  | _, _, .str x => .str x
  | _, _, .ty n => .ty n
  | _, _, .tup h n r => .tup (h.to (h' _ fun z => n (.inr (z ▸ List.mem_cons_self)))) (fun z => n (z.imp id (List.mem_cons_of_mem _))) (RlAll.unhide h' r)
  | _, _, .lst h r => .lst (h.unhide h').1 (RlAll.unhide h' r)
  | _, _, .dct0 h n => .dct0 (by rw [h' _ fun z => n (.inr (z ▸ List.mem_cons_self))]; exact h) (fun z => n (z.imp id (List.mem_cons_of_mem _)))
  | _, _, .cod h n => .cod (by rw [h' _ fun z => n (.inr (z ▸ List.mem_cons_self))]; exact h) (fun z => n (z.imp id (List.mem_cons_of_mem _)))
  | _, _, .kd h n o m r => .kd (by rw [h' _ fun z => n (.inr (z ▸ List.mem_cons_self))]; exact h) (fun z => n (z.imp id (List.mem_cons_of_mem _))) o m (RlAll.unhide h' r)
  | _, _, .ld h n o m r => .ld (by rw [h' _ fun z => n (.inr (z ▸ List.mem_cons_self))]; exact h) (fun z => n (z.imp id (List.mem_cons_of_mem _))) o m (RlAll.unhide h' r)
  | _, _, .adr a => .adr a
  | _, _, .tupx h n e r => .tupx (by rw [h' _ fun z => n (.inr (z ▸ List.mem_cons_self))]; exact h) (fun z => n (z.imp id (List.mem_cons_of_mem _))) e (RlAll.unhide h' r)
  | _, _, .exc0 h n m => .exc0 (by rw [h' _ fun z => n (.inr (z ▸ List.mem_cons_self))]; exact h) (fun z => n (z.imp id (List.mem_cons_of_mem _))) m
  | _, _, .excd h n m k k' e r => .excd (by rw [h' _ fun z => n (.inr (z ▸ List.mem_cons_self))]; exact h) (fun z => n (z.imp id (List.mem_cons_of_mem _))) m (by rw [h' _ fun z => k' (.inr (z ▸ List.mem_cons_self))]; exact k) (fun z => k' (z.imp id (List.mem_cons_of_mem _))) e (RlAll.unhide h' r)
theorem RlAll.unhide {p : Addr} (h' : ∀ b, b ≠ p → H' b = H b) : ∀ {vs : List V} {ds : List D}, RlAll K (ρ.hide p) H vs ds → RlAll K ρ H' vs ds
  | _, _, .nil => .nil
  | _, _, .cons r t => .cons (Rl.unhide h' r) (RlAll.unhide h' t)
end
theorem Rw.unhide {p : Addr} (h' : ∀ b, b ≠ p → H' b = H b) {v : V} {w : W} : Rw K (ρ.hide p) H v w → Rw K ρ H' v w
  | .v q => .v (q.unhide h')
  | .r h e => .r h e
mutual
theorem Rl.refill {p : Addr} (h' : ∀ b, b ≠ p → H' b = H b) : ∀ {v : V} {d : D}, Rl K (ρ.hide p) H v d → Rl K (ρ.hide p) H' v d
  | _, _, .non => .non
  | _, _, .bl b => .bl b
  | _, _, .int i => .int i
  | _, _, .str x => .str x
  | _, _, .ty n => .ty n
  | _, _, .tup h n r => .tup (h.to (h' _ fun z => n (.inr (z ▸ List.mem_cons_self)))) n (RlAll.refill h' r)
  | _, _, .lst h r => .lst (by
      rcases h with ⟨h, n⟩ | h
      · refine .inl ⟨?_, n⟩
        rcases h with h | ⟨o, h⟩
        · exact .inl (by rw [h' _ fun z => n (.inr (z ▸ List.mem_cons_self))]; exact h)
        · exact .inr ⟨o, by rw [h' _ fun z => n (.inr (z ▸ List.mem_cons_self))]; exact h⟩
      · exact .inr h) (RlAll.refill h' r)
  | _, _, .dct0 h n => .dct0 (by rw [h' _ fun z => n (.inr (z ▸ List.mem_cons_self))]; exact h) n
  | _, _, .cod h n => .cod (by rw [h' _ fun z => n (.inr (z ▸ List.mem_cons_self))]; exact h) n
  | _, _, .kd h n o m r => .kd (by rw [h' _ fun z => n (.inr (z ▸ List.mem_cons_self))]; exact h) n o m (RlAll.refill h' r)
  | _, _, .ld h n o m r => .ld (by rw [h' _ fun z => n (.inr (z ▸ List.mem_cons_self))]; exact h) n o m (RlAll.refill h' r)
  | _, _, .adr a => .adr a
  | _, _, .tupx h n e r => .tupx (by rw [h' _ fun z => n (.inr (z ▸ List.mem_cons_self))]; exact h) n e (RlAll.refill h' r)
  | _, _, .exc0 h n m => .exc0 (by rw [h' _ fun z => n (.inr (z ▸ List.mem_cons_self))]; exact h) n m
  | _, _, .excd h n m k k' e r => .excd (by rw [h' _ fun z => n (.inr (z ▸ List.mem_cons_self))]; exact h) n m (by rw [h' _ fun z => k' (.inr (z ▸ List.mem_cons_self))]; exact k) k' e (RlAll.refill h' r)
theorem RlAll.refill {p : Addr} (h' : ∀ b, b ≠ p → H' b = H b) : ∀ {vs : List V} {ds : List D}, RlAll K (ρ.hide p) H vs ds → RlAll K (ρ.hide p) H' vs ds
  | _, _, .nil => .nil
  | _, _, .cons r t => .cons (Rl.refill h' r) (RlAll.refill h' t)
end
theorem Rw.refill {p : Addr} (h' : ∀ b, b ≠ p → H' b = H b) {v : V} {w : W} : Rw K (ρ.hide p) H v w → Rw K (ρ.hide p) H' v w
  | .v q => .v (q.refill h')
  | .r h e => .r h e
theorem RlAll.length : ∀ {vs : List V} {ds : List D}, RlAll K ρ H vs ds → vs.length = ds.length
  | _, _, .nil => rfl
  | _, _, .cons _ t => by simp [RlAll.length t]
theorem RlAll.append : ∀ {vs vs' : List V} {ds ds' : List D}, RlAll K ρ H vs ds → RlAll K ρ H vs' ds' → RlAll K ρ H (vs ++ vs') (ds ++ ds')
  | _, _, _, _, .nil, s => s
  | _, _, _, _, .cons r t, s => .cons r (RlAll.append t s)
theorem RlAll.get : ∀ {vs : List V} {ds : List D} {i : Nat} {v : V}, RlAll K ρ H vs ds → vs[i]? = some v → ∃ d, ds[i]? = some d ∧ Rl K ρ H v d
  | _, _, _, _, .nil, e => by simp at e
  | _, _, 0, _, .cons r _, e => by simp at e; subst e; exact ⟨_, rfl, r⟩
  | _, _, i + 1, v, .cons _ t, e => by
    obtain ⟨d, h1, h2⟩ := RlAll.get (i := i) (v := v) t (by simpa using e)
    exact ⟨d, by simpa using h1, h2⟩
theorem RlAll.getD : ∀ {vs : List V} {ds : List D} {i : Nat} {d : D}, RlAll K ρ H vs ds → ds[i]? = some d → ∃ v, vs[i]? = some v ∧ Rl K ρ H v d
  | _, _, _, _, .nil, e => by simp at e
  | _, _, 0, _, .cons r _, e => by simp at e; subst e; exact ⟨_, rfl, r⟩
  | _, _, i + 1, v, .cons _ t, e => by
    obtain ⟨d, h1, h2⟩ := RlAll.getD (i := i) (d := v) t (by simpa using e)
    exact ⟨d, by simpa using h1, h2⟩
theorem RlAll.take (n : Nat) : ∀ {vs : List V} {ds : List D}, RlAll K ρ H vs ds → RlAll K ρ H (vs.take n) (ds.take n) := by
  induction n with
  | zero => intro vs ds _; exact .nil
  | succ n ih =>
    intro vs ds h
    cases h with
    | nil => exact .nil
    | cons r t => exact .cons r (ih t)
theorem RlAll.drop (n : Nat) : ∀ {vs : List V} {ds : List D}, RlAll K ρ H vs ds → RlAll K ρ H (vs.drop n) (ds.drop n) := by
  induction n with
  | zero => intro vs ds h; exact h
  | succ n ih =>
    intro vs ds h
    cases h with
    | nil => exact .nil
    | cons r t => exact ih t
theorem RlAll.set {v : V} {d : D} (r : Rl K ρ H v d) : ∀ {vs : List V} {ds : List D} (i : Nat), RlAll K ρ H vs ds → RlAll K ρ H (vs.set i v) (ds.set i d)
  | _, _, _, .nil => .nil
  | _, _, 0, .cons _ t => .cons r t
  | _, _, i + 1, .cons q t => .cons q (RlAll.set r i t)
theorem RlAll.reverse : ∀ {vs : List V} {ds : List D}, RlAll K ρ H vs ds → RlAll K ρ H vs.reverse ds.reverse
  | _, _, .nil => .nil
  | _, _, .cons r t => by
    rw [List.reverse_cons, List.reverse_cons]
    exact (RlAll.reverse t).append (.cons r .nil)
theorem RlAll.flat (n : Nat) {vs : List V} {ds : List D} (h : RlAll K ρ H vs ds) : RlAll K ρ H (List.replicate n vs).flatten (List.replicate n ds).flatten := by
  induction n with
  | zero => exact .nil
  | succ n ih => simpa [List.replicate_succ] using h.append ih
end

/-! ### the store -/
section
variable (K : KW) (ρ : Rho) (H : Hp)
inductive RlD : List (Key × V) → List (Str × W) → Prop
  | nil : RlD [] []
  | cons {k : Str} {v : V} {d : W} {kvs : List (Key × V)} {ds : List (Str × W)} : Rw K ρ H v d → RlD kvs ds → RlD ((.inr k, v) :: kvs) ((k, d) :: ds)
inductive KdR : List (NestedKey × Addr × Value) → List (D × D) → Prop
  | nil : KdR [] []
  | cons {b : Addr} {u : Value} {v : V} {k d : D} {xs : List (NestedKey × Addr × Value)} {ds : List (D × D)} : Rl K ρ H (.ref b) k → RelV v u → Rl K ρ H v d → KdR xs ds → KdR ((k.nk, b, u) :: xs) ((k, d) :: ds)
inductive LdR : List (Leaf × Value) → List (D × D) → Prop
  | nil : LdR [] []
  | cons {l : Leaf} {u : Value} {v : V} {k d : D} {xs : List (Leaf × Value)} {ds : List (D × D)} : k.lf = some l → RelV v u → Rl K ρ H v d → LdR xs ds → LdR ((l, u) :: xs) ((k, d) :: ds)
/-- the set at a, its members as they came -/
def SetO (w : World) (a : Addr) (L0 : NS.Mem) : HO := .ext fun h => ∃ L es ep t, L.Perm L0 ∧ NS.SOb w h a L es ep t
def ObR (a : Addr) : Ob → Prop
  | .dead => False
  | .tab p q => a = (He.cT K.K p).2 ∧ ∃ (ps : Array Value) (cs : List Addr), H a = some (.tbl ps) ∧ TriplesOk ps.toList ∧ (∀ (pos : Pos) (cv : Value), codeAmong pos ps.toList = some cv → ∃ c ∈ cs, cv = .ref c) ∧ RlAll K ρ H (cs.map V.ref) (cs.map fun _ => D.cod q)
  | .set ds => ∃ L0 : NS.Mem, H a = some (SetO K.w a L0) ∧ RlAll K ρ H (L0.map fun p => V.ref p.1) ds ∧ L0.map (·.2) = ds.map D.nk ∧ ∀ d ∈ ds, d.hb = true ∧ d.nk.depth ≤ 8
  | .kd ds => ∃ xs, H a = some (.ext (KdAt K.w a xs)) ∧ KdR K ρ H xs ds ∧ (∀ p ∈ ds, p.1.hb = true ∧ p.1.nk.depth ≤ 8) ∧ (ds.map (·.1.nk)).Nodup ∧ (a == sysModules) = false
  | .ld ds => ∃ xs, H a = some (.ext (LdAt K.w a xs)) ∧ LdR K ρ H xs ds ∧ (a == sysModules) = false
  | .lst ds => ∃ xs, H a = some (.lst xs) ∧ RlAll K ρ H xs ds
  | .dct ds => ∃ kvs, H a = some (.dK kvs) ∧ RlD K ρ H kvs ds
def W.under (n : Nat) : W → Prop
  | .v _ => True
  | .r l => l < n
def Ob.under (n : Nat) : Ob → Prop
  | .dct ds => ∀ p ∈ ds, W.under n p.2
  | _ => True
structure RelSt (st : Sto) : Prop where
  len : ρ.lc.length = st.length
  inj : ∀ (l l' : Nat) (a : Addr), ρ.lc[l]? = some (some a) → ρ.lc[l']? = some (some a) → l = l'
  obj : ∀ (l : Nat) (ob : Ob), st[l]? = some ob → (ob = .dead ∧ ρ.lc[l]? = some none) ∨ ∃ a, ρ.lc[l]? = some (some a) ∧ ObR K ρ H a ob
  hidt : ∀ a, a ∈ ρ.hid → ∃ o, H a = some o
  apart : ∀ a, some a ∈ ρ.lc → a ∉ ρ.hid
  ord : ∀ (l : Nat) (ob : Ob), st[l]? = some ob → ob.under l
structure RelEnv (σ : St) (env : Env) : Prop where
  len : σ.length = env.length
  get : ∀ (i : Nat) (d : W), env[i]? = some (some d) → ∃ v, σ[i]? = some (some v) ∧ Rw K ρ H v d
end
section
variable {K : KW} {ρ ρ' : Rho} {H H' : Hp} {st st' : Sto} {σ : St} {env : Env}
theorem RelSt.there (r : RelSt K ρ H st) {a : Addr} (h : some a ∈ ρ.lc) : ∃ o, H a = some o := by
  obtain ⟨l, hl, e⟩ := List.getElem_of_mem h
  have e' : ρ.lc[l]? = some (some a) := by rw [List.getElem?_eq_getElem hl, e]
  have hl' : l < st.length := by rw [← r.len]; exact hl
  rcases r.obj l st[l] (List.getElem?_eq_getElem hl') with ⟨_, q⟩ | ⟨b, q, o⟩
  · rw [e'] at q; cases q
  · rw [e'] at q; cases q
    cases hob : st[l] with
    | dead => rw [hob] at o; exact o.elim
    | lst ds => rw [hob] at o; obtain ⟨xs, h, _⟩ := o; exact ⟨_, h⟩
    | dct ds => rw [hob] at o; obtain ⟨xs, h, _⟩ := o; exact ⟨_, h⟩
    | kd ds => rw [hob] at o; obtain ⟨xs, h, _⟩ := o; exact ⟨_, h⟩
    | ld ds => rw [hob] at o; obtain ⟨xs, h, _⟩ := o; exact ⟨_, h⟩
    | set ds => rw [hob] at o; obtain ⟨xs, h, _⟩ := o; exact ⟨_, h⟩
    | tab P q => rw [hob] at o; obtain ⟨_, xs, _, h, _⟩ := o; exact ⟨_, h⟩
theorem RelSt.fresh (r : RelSt K ρ H st) {a : Addr} (h : H a = none) : ¬ ρ.mut a := fun q => by
  rcases q with q | q
  · obtain ⟨o, e⟩ := r.there q
    rw [h] at e; cases e
  · obtain ⟨o, e⟩ := r.hidt a q
    rw [h] at e; cases e
theorem RlD.mono {L : List (Key × V)} {ds : List (Str × W)} (f : ∀ v d, Rw K ρ H v d → Rw K ρ' H' v d) (h : RlD K ρ H L ds) : RlD K ρ' H' L ds := by
  induction h with
  | nil => exact .nil
  | cons r _ ih => exact .cons (f _ _ r) ih
theorem same_upd {a : Addr} {o : HO} (h : H a = none) : Same H (upd H a o) := fun b u e => by rw [upd_ne (ne_of_none e h)]; exact e
theorem Rl.same (s : Same H H') {v : V} {d : D} (r : Rl K ρ H v d) : Rl K ρ H' v d := r.grow (.same s)
theorem Rw.same (s : Same H H') {v : V} {d : W} (r : Rw K ρ H v d) : Rw K ρ H' v d := r.grow (.same s)
theorem RwAll.same (s : Same H H') {v : List V} {d : List W} (r : RwAll K ρ H v d) : RwAll K ρ H' v d := r.grow (.same s)
theorem RlAll.same (s : Same H H') {v : List V} {d : List D} (r : RlAll K ρ H v d) : RlAll K ρ H' v d := r.grow (.same s)
theorem KdR.mono {L : List (NestedKey × Addr × Value)} {ds : List (D × D)} (f : ∀ v d, Rl K ρ H v d → Rl K ρ' H' v d) (h : KdR K ρ H L ds) : KdR K ρ' H' L ds := by
  induction h with
  | nil => exact .nil
  | cons r e q _ ih => exact .cons (f _ _ r) e (f _ _ q) ih
theorem LdR.mono {L : List (Leaf × Value)} {ds : List (D × D)} (f : ∀ v d, Rl K ρ H v d → Rl K ρ' H' v d) (h : LdR K ρ H L ds) : LdR K ρ' H' L ds := by
  induction h with
  | nil => exact .nil
  | cons e r q _ ih => exact .cons e r (f _ _ q) ih
theorem ObR.mono {a : Addr} {ob : Ob} (e : ∀ o, H a = some o → H' a = some o) (f : ∀ v d, Rw K ρ H v d → Rw K ρ' H' v d) (fa : ∀ v d, RlAll K ρ H v d → RlAll K ρ' H' v d) (o : ObR K ρ H a ob) : ObR K ρ' H' a ob := by
  cases ob with
  | dead => exact o
  | lst ds => obtain ⟨xs, h1, h2⟩ := o; exact ⟨xs, e _ h1, fa _ _ h2⟩
  | dct ds => obtain ⟨xs, h1, h2⟩ := o; exact ⟨xs, e _ h1, h2.mono f⟩
  | set ds => obtain ⟨xs, h1, h2, h3⟩ := o; exact ⟨xs, e _ h1, fa _ _ h2, h3⟩
  | tab P q => obtain ⟨z, xs, cs, h1, h2, h3, h4⟩ := o; exact ⟨z, xs, cs, e _ h1, h2, h3, fa _ _ h4⟩
  | ld ds =>
    obtain ⟨xs, h1, h2, h3⟩ := o
    exact ⟨xs, e _ h1, h2.mono (fun v d r => by cases fa [v] [d] (.cons r .nil) with | cons r _ => exact r), h3⟩
  | kd ds =>
    obtain ⟨xs, h1, h2, h3⟩ := o
    exact ⟨xs, e _ h1, h2.mono (fun v d r => by cases fa [v] [d] (.cons r .nil) with | cons r _ => exact r), h3⟩
theorem RelSt.same (r : RelSt K ρ H st) (s : Same H H') : RelSt K ρ H' st := by
  refine ⟨r.len, r.inj, fun l ob e => ?_, fun a h => let ⟨o, q⟩ := r.hidt a h; ⟨o, s _ _ q⟩, r.apart, r.ord⟩
  rcases r.obj l ob e with h | ⟨a, h, o⟩
  · exact .inl h
  · exact .inr ⟨a, h, o.mono (fun _ q => s _ _ q) (fun _ _ q => q.same s) fun _ _ q => q.same s⟩
theorem RelSt.hide {p : Addr} {o : HO} (hp : H p = none) (r : RelSt K ρ H st) : RelSt K (ρ.hide p) (upd H p o) st := by
  refine ⟨r.len, r.inj, fun l ob e => ?_, fun a h => ?_, fun a h z => (List.mem_cons.mp z).elim (fun e => r.fresh hp (.inl (e ▸ h))) (r.apart a h), r.ord⟩
  · rcases r.obj l ob e with h | ⟨a, h, ob'⟩
    · exact .inl h
    · exact .inr ⟨a, h, ob'.mono (fun _ q => by rw [upd_ne (ne_of_none q hp)]; exact q) (fun _ _ q => q.hide hp) fun _ _ q => q.hide hp⟩
  · rcases List.mem_cons.mp h with rfl | h
    · exact ⟨_, upd_same⟩
    · obtain ⟨u, q⟩ := r.hidt a h
      exact ⟨u, by rw [upd_ne (ne_of_none q hp)]; exact q⟩
theorem RelSt.refill {p : Addr} (h' : ∀ b, b ≠ p → H' b = H b) (hn : some p ∉ ρ.lc) (hq : ∃ o, H' p = some o) (r : RelSt K (ρ.hide p) H st) : RelSt K (ρ.hide p) H' st := by
  refine ⟨r.len, r.inj, fun l ob e => ?_, fun a h => ?_, r.apart, r.ord⟩
  · rcases r.obj l ob e with h | ⟨a, h, ob'⟩
    · exact .inl h
    · have ne : a ≠ p := fun z => hn (z ▸ List.mem_of_getElem? h)
      exact .inr ⟨a, h, ob'.mono (fun _ q => by rw [h' _ ne]; exact q) (fun _ _ q => q.refill h') fun _ _ q => q.refill h'⟩
  · by_cases e : a = p
    · rw [e]; exact hq
    · obtain ⟨u, q⟩ := r.hidt a h
      exact ⟨u, by rw [h' _ e]; exact q⟩
theorem RelSt.unhide {p : Addr} (h' : ∀ b, b ≠ p → H' b = H b) (hn : some p ∉ ρ.lc) (hq : p ∉ ρ.hid ∨ ∃ o, H' p = some o) (r : RelSt K (ρ.hide p) H st) : RelSt K ρ H' st := by
  refine ⟨r.len, r.inj, fun l ob e => ?_, fun a h => ?_, fun a h z => r.apart a h (List.mem_cons_of_mem _ z), r.ord⟩
  · rcases r.obj l ob e with h | ⟨a, h, ob'⟩
    · exact .inl h
    · have ne : a ≠ p := fun z => hn (z ▸ List.mem_of_getElem? h)
      exact .inr ⟨a, h, ob'.mono (fun _ q => by rw [h' _ ne]; exact q) (fun _ _ q => q.unhide h') fun _ _ q => q.unhide h'⟩
  · by_cases e : a = p
    · rcases hq with hq | hq
      · exact absurd (e ▸ h) hq
      · rw [e]; exact hq
    · obtain ⟨u, q⟩ := r.hidt a (List.mem_cons_of_mem _ h)
      exact ⟨u, by rw [h' _ e]; exact q⟩
/-- the objects from n on given up -/
def Rho.cut (ρ : Rho) (n : Nat) : Rho := ⟨ρ.lc.take n, ρ.hid⟩
theorem cut_mut {n : Nat} {a : Addr} (h : (ρ.cut n).mut a) : ρ.mut a := h.imp (fun z => List.mem_of_mem_take z) id
theorem cut_get {n l : Nat} {a : Addr} (h : (ρ.cut n).lc[l]? = some (some a)) : ρ.lc[l]? = some (some a) ∧ l < n := by
  simp only [Rho.cut, List.getElem?_take] at h
  split at h
  · exact ⟨h, by assumption⟩
  · cases h
mutual
theorem Rl.cut (n : Nat) : ∀ {v : V} {d : D}, Rl K ρ H v d → Rl K (ρ.cut n) H v d
  | _, _, .non => .non
  | _, _, .bl b => .bl b
  | _, _, .int i => .int i
  | _, _, .str x => .str x
  | _, _, .ty n => .ty n
  | _, _, .tup h m r => .tup h (fun z => m (cut_mut z)) (RlAll.cut n r)
  | _, _, .lst h r => .lst (h.imp (fun z => ⟨z.1, fun y => z.2 (cut_mut y)⟩) id) (RlAll.cut n r)
  | _, _, .dct0 h m => .dct0 h (fun z => m (cut_mut z))
  | _, _, .cod h m => .cod h (fun z => m (cut_mut z))
  | _, _, .kd h m o b r => .kd h (fun z => m (cut_mut z)) o b (RlAll.cut n r)
  | _, _, .ld h m o b r => .ld h (fun z => m (cut_mut z)) o b (RlAll.cut n r)
  | _, _, .adr a => .adr a
  | _, _, .tupx h m e r => .tupx h (fun z => m (cut_mut z)) e (RlAll.cut n r)
  | _, _, .exc0 h m e => .exc0 h (fun z => m (cut_mut z)) e
  | _, _, .excd h m e k k' f r => .excd h (fun z => m (cut_mut z)) e k (fun z => k' (cut_mut z)) f (RlAll.cut n r)
theorem RlAll.cut (n : Nat) : ∀ {vs : List V} {ds : List D}, RlAll K ρ H vs ds → RlAll K (ρ.cut n) H vs ds
  | _, _, .nil => .nil
  | _, _, .cons r t => .cons (Rl.cut n r) (RlAll.cut n t)
end
theorem Rw.cut {n : Nat} {v : V} {w : W} (u : W.under n w) : Rw K ρ H v w → Rw K (ρ.cut n) H v w
  | .v q => .v (q.cut n)
  | .r h e => .r (by simp only [Rho.cut, List.length_take]; exact Nat.lt_min.mpr ⟨u, h⟩) fun a q => e a (cut_get q).1
theorem RelSt.cut (n : Nat) (s : RelSt K ρ H st) : RelSt K (ρ.cut n) H (st.take n) := by
  refine ⟨by simp [Rho.cut, s.len], fun l l' a e1 e2 => s.inj l l' a (cut_get e1).1 (cut_get e2).1, fun l ob e => ?_, s.hidt, fun a h => s.apart a (List.mem_of_mem_take h), fun l ob e => ?_⟩
  · rw [List.getElem?_take] at e
    split at e
    · rename_i hl
      have up : ∀ x, ρ.lc[l]? = some x → (ρ.cut n).lc[l]? = some x := fun x q => by simp only [Rho.cut, List.getElem?_take]; rw [if_pos hl]; exact q
      rcases s.obj l ob e with ⟨z, q⟩ | ⟨a, q, o⟩
      · exact .inl ⟨z, up _ q⟩
      · refine .inr ⟨a, up _ q, ?_⟩
        cases ob with
        | dead => exact o
        | lst ds => obtain ⟨xs, h1, h2⟩ := o; exact ⟨xs, h1, h2.cut n⟩
        | set ds => obtain ⟨xs, h1, h2, h3⟩ := o; exact ⟨xs, h1, h2.cut n, h3⟩
        | tab P q => obtain ⟨z, xs, cs, h1, h2, h3, h4⟩ := o; exact ⟨z, xs, cs, h1, h2, h3, h4.cut n⟩
        | kd ds => obtain ⟨xs, h1, h2, h3⟩ := o; exact ⟨xs, h1, h2.mono (fun v d r => r.cut n), h3⟩
        | ld ds => obtain ⟨xs, h1, h2, h3⟩ := o; exact ⟨xs, h1, h2.mono (fun v d r => r.cut n), h3⟩
        | dct ds =>
          obtain ⟨xs, h1, h2⟩ := o
          refine ⟨xs, h1, ?_⟩
          have u : ∀ p ∈ ds, W.under n p.2 := fun p hp => by
            have := s.ord l _ e p hp
            cases q2 : p.2 with
            | v d => exact trivial
            | r l2 => rw [q2] at this; exact Nat.lt_trans this hl
          clear h1 q e up
          induction h2 with
          | nil => exact .nil
          | cons r _ ih => exact .cons (r.cut (u _ List.mem_cons_self)) (ih fun p hp => u p (List.mem_cons_of_mem _ hp))
    · cases e
  · rw [List.getElem?_take] at e
    split at e
    · exact s.ord l ob e
    · cases e
theorem Grow.cut {n : Nat} (g : Grow ρ H ρ' H') (hn : ρ.lc.length ≤ n) : Grow ρ H (ρ'.cut n) H' := by
  refine ⟨by simp only [Rho.cut, List.length_take]; exact Nat.le_min.mpr ⟨hn, g.len⟩, g.hid, fun l a h e => g.ref l a h (cut_get e).1, fun a o e h => ?_⟩
  obtain ⟨h1, h2⟩ := g.obj a o e h
  exact ⟨h1, fun z => h2 (List.mem_of_mem_take z)⟩
theorem RelEnv.grow (g : Grow ρ H ρ' H') (r : RelEnv K ρ H σ env) : RelEnv K ρ' H' σ env :=
  ⟨r.len, fun i d e => let ⟨v, h1, h2⟩ := r.get i d e; ⟨v, h1, h2.grow g⟩⟩
theorem RelEnv.hide {p : Addr} {o : HO} (hp : H p = none) (r : RelEnv K ρ H σ env) : RelEnv K (ρ.hide p) (upd H p o) σ env :=
  ⟨r.len, fun i d e => let ⟨v, h1, h2⟩ := r.get i d e; ⟨v, h1, h2.hide hp⟩⟩
theorem RelEnv.set (r : RelEnv K ρ H σ env) {v : V} {d : W} (h : Rw K ρ H v d) (i : Nat) : RelEnv K ρ H (σ.set i (some v)) (env.set i (some d)) := by
  refine ⟨by simp [r.len], fun j e q => ?_⟩
  by_cases hj : i = j
  · subst hj
    by_cases hl : i < env.length
    · rw [List.getElem?_set_self hl] at q
      cases q
      exact ⟨v, by rw [List.getElem?_set_self (by rw [r.len]; exact hl)], h⟩
    · rw [List.getElem?_eq_none (by simp; omega)] at q; cases q
  · rw [List.getElem?_set_ne hj] at q ⊢
    exact r.get j e q
theorem RelEnv.wipe1 (r : RelEnv K ρ H σ env) (i : Nat) : RelEnv K ρ H (σ.set i none) (env.set i none) := by
  refine ⟨by simp [r.len], fun j e q => ?_⟩
  by_cases hj : i = j
  · subst hj
    by_cases hl : i < env.length
    · rw [List.getElem?_set_self hl] at q; cases q
    · rw [List.getElem?_eq_none (by simp; omega)] at q; cases q
  · rw [List.getElem?_set_ne hj] at q ⊢
    exact r.get j e q
end

/-! ### what is wanted behind a result -/
def XRl (K : KW) (_ : Nat → Value) (ρ : Rho) (H : Hp) (cv : Value) (od : Option Addr) (x : Xc) : Prop :=
  K.mg x.cls = some cv ∧ match od with
    | none => x.fs = []
    | some d => ∃ vs : List (Str × V), H d = some (.xd vs) ∧ vs.map (·.1) = x.fs.map (·.1) ∧ RlAll K ρ H (vs.map (·.2)) (x.fs.map (·.2))
section
variable (K : KW) (ct : Nat → Value)
abbrev Rel (β α : Type) := KW → Rho → Hp → β → α → Prop
def okG {α β : Type} (rel : Rel β α) (ρ : Rho) (H : Hp) (E : XK) (Q : β → Hp → Prop) : R α → Prop
  | .ok a st' => ∀ ρ' H' b, Grow ρ H ρ' H' → RelSt K ρ' H' st' → rel K ρ' H' b a → Q b H'
  | .exc x st' => ∀ ρ' H' cv od, Grow ρ H ρ' H' → RelSt K ρ' H' st' → XRl K ct ρ' H' cv od x → E cv od H'
  | .bad => False
def At (ρ : Rho) (H : Hp) (st : Sto) (σ : St) (env : Env) : Prop := RelSt K ρ H st ∧ RelEnv K ρ H σ env
def tG {α β : Type} (rel : Rel β α) (E : St → XK) (f : Env → Sto → R α) : St → Hp → (β → Hp → Prop) → Prop :=
  fun σ H Q => ∃ ρ st env, At K ρ H st σ env ∧ okG K ct rel ρ H (E σ) Q (f env st)
end
abbrev RlB : Rel Bool Bool := fun _ _ _ b c => b = c
abbrev tE (K : KW) (ct : Nat → Value) (E : St → XK) (f : Env → Sto → R W) : TE := tG K ct Rw E f
abbrev tT (K : KW) (ct : Nat → Value) (E : St → XK) (f : Env → Sto → R Bool) : TT := tG K ct RlB E f
abbrev tA (K : KW) (ct : Nat → Value) (E : St → XK) (f : Env → Sto → R (List W)) : TA := tG K ct RwAll E f

section
variable {K : KW} {ct : Nat → Value} {α β γ δ : Type} {rel : Rel β α} {rel' : Rel δ γ} {E : St → XK} {σ : St} {ρ ρ' : Rho} {H H' : Hp} {st : Sto} {env : Env}
theorem okG.grow {Q : β → Hp → Prop} {E : XK} {r : R α} (g : Grow ρ H ρ' H') (h : okG K ct rel ρ H E Q r) : okG K ct rel ρ' H' E Q r := by
  cases r with
  | ok a st' => exact fun ρ2 H2 b g2 => h ρ2 H2 b (g.trans g2)
  | exc x st' => exact fun ρ2 H2 cv od g2 => h ρ2 H2 cv od (g.trans g2)
  | bad => exact h
theorem okG.mono {Q Q' : β → Hp → Prop} {E : XK} {r : R α} (h : okG K ct rel ρ H E Q r) (f : ∀ b H, Q b H → Q' b H) : okG K ct rel ρ H E Q' r := by
  cases r with
  | ok a st' => exact fun ρ2 H2 b g2 s r => f _ _ (h ρ2 H2 b g2 s r)
  | exc x st' => exact h
  | bad => exact h
/-- where we stand behind a first part -/
theorem okG.bind {Q : δ → Hp → Prop} {f : R α} {k : α → Sto → R γ} {E : XK} (h : okG K ct rel' ρ H E Q (f.bind k)) (he : RelEnv K ρ H σ env) :
    okG K ct rel ρ H E (fun b H1 => ∃ ρ1 st1 a, At K ρ1 H1 st1 σ env ∧ Grow ρ H ρ1 H1 ∧ rel K ρ1 H1 b a ∧ okG K ct rel' ρ1 H1 E Q (k a st1)) f := by
  cases f with
  | ok a st' => exact fun ρ1 H1 b g s r => ⟨ρ1, st', a, ⟨s, he.grow g⟩, g, r, okG.grow g h⟩
  | exc x st' => exact h
  | bad => exact h.elim
theorem tG.bind {Q : δ → Hp → Prop} {f : Env → Sto → R α} {k : α → Env → Sto → R γ} (h : tG K ct rel' E (fun env st => (f env st).bind fun a st => k a env st) σ H Q) :
    tG K ct rel E f σ H (fun b H1 => ∃ ρ1 st1 env a, At K ρ1 H1 st1 σ env ∧ rel K ρ1 H1 b a ∧ okG K ct rel' ρ1 H1 (E σ) Q (k a env st1)) := by
  obtain ⟨ρ, st, env, a, h⟩ := h
  refine ⟨ρ, st, env, a, (okG.bind (rel := rel) h a.2).mono fun b H1 ⟨ρ1, st1, x, a1, _, r, q⟩ => ⟨ρ1, st1, env, x, a1, r, q⟩⟩
end
end Jv
end
section
namespace Jv
open PySem L2 PyProof.Rows
abbrev ED := Env → Sto → R W
abbrev BD := Env → Sto → R Bool
abbrev AD := Env → Sto → R (List W)
abbrev LD := Env → Sto → R (List D)

theorem PE.of {X : Cx} {e : Expr} {t t' : TE} (h : PE X e t) (i : ∀ σ H Q, t' σ H Q → t σ H Q) : PE X e t' := ⟨fun pins s σ H Q I q => h.run pins s σ H Q I (i σ H Q q)⟩
theorem PT.of {X : Cx} {e : Expr} {t t' : TT} (h : PT X e t) (i : ∀ σ H Q, t' σ H Q → t σ H Q) : PT X e t' := ⟨fun pins s σ H Q I q => h.run pins s σ H Q I (i σ H Q q)⟩
theorem PW.of {X : Cx} {e : Expr} {t t' : TT} (h : PW X e t) (i : ∀ σ H Q, t' σ H Q → t σ H Q) : PW X e t' := ⟨fun wh pins s σ H Q I q => h.run wh pins s σ H Q I (i σ H Q q)⟩
theorem PA.of {X : Cx} {e : List Expr} {t t' : TA} (h : PA X e t) (i : ∀ σ H Q, t' σ H Q → t σ H Q) : PA X e t' := ⟨fun pos pins s σ H Q I q => h.run pos pins s σ H Q I (i σ H Q q)⟩

section
variable {K : KW} {ct : Nat → Value} {E : St → XK} {α β : Type} {rel : Rel β α} {σ : St} {H : Hp}
theorem tG.mono {f : Env → Sto → R α} {Q Q' : β → Hp → Prop} (h : tG K ct rel E f σ H Q) (i : ∀ b H, Q b H → Q' b H) : tG K ct rel E f σ H Q' := by
  obtain ⟨ρ, st, env, a, h⟩ := h
  exact ⟨ρ, st, env, a, h.mono i⟩
theorem okG.here {ρ : Rho} {st : Sto} {EE : XK} {Q : β → Hp → Prop} {a : α} {b : β} (h : okG K ct rel ρ H EE Q (.ok a st)) (s : RelSt K ρ H st) (r : rel K ρ H b a) : Q b H := h ρ H b (.refl ρ H) s r
theorem okG.up {ρ : Rho} {st : Sto} {EE : XK} {Q : β → Hp → Prop} {a : α} {b : β} {H' : Hp} (h : okG K ct rel ρ H EE Q (.ok a st)) (s : RelSt K ρ H st) (e : Same H H') (r : rel K ρ H' b a) : Q b H' := h ρ H' b (.same e) (s.same e) r
end

/-! ### names, constants -/
def eVar (i : Nat) : ED := fun env st => match env[i]? with
  | some (some d) => .ok d st
  | _ => .bad
def eCon (d : D) : ED := fun _ st => .ok (.v d) st
section
variable {X : Cx} {ct : Nat → Value} {E : St → XK}
theorem de_var (i : Nat) {x : Str} {pos : Pos} (hN : X.N[i]? = some x := by rfl) (hv : Vis X.env.scope x := by first | exact Or.inl rfl | exact Or.inr (Or.inl rfl) | exact Or.inr (Or.inr rfl)) (hd : (x == ("__debug__" : Str)) = false := by decide)
    (hcd : (x == ("__classdict__" : Str)) = false := by decide) : PE X (.Name x pos) (tE X.kw ct E (eVar i)) := PE.of (pe_var hN hv hd hcd) fun σ H Q ⟨ρ, st, env, a, h⟩ => by
  unfold eVar at h
  split at h
  · rename_i d e
    obtain ⟨v, e1, r⟩ := a.2.get i d e
    exact ⟨v, e1, h.here a.1 r⟩
  · exact h.elim
theorem de_con {e : Expr} {v : V} {d : D} (h : PE X e (tC v)) (r : ∀ ρ H, Rl X.kw ρ H v d) : PE X e (tE X.kw ct E (eCon d)) := PE.of h fun σ H Q ⟨ρ, st, env, a, h⟩ => h.here a.1 (.v (r ρ H))
theorem de_int {i j pos} : PE X (.Constant (.int i) j pos) (tE X.kw ct E (eCon (.int i))) := de_con pe_int fun _ _ => .int i
theorem de_bl {b j pos} : PE X (.Constant (.bool b) j pos) (tE X.kw ct E (eCon (.bl b))) := de_con pe_bl fun _ _ => .bl b
theorem de_non {j pos} : PE X (.Constant .none j pos) (tE X.kw ct E (eCon .non)) := de_con pe_non fun _ _ => .non
theorem de_str {x j pos} : PE X (.Constant (.str x) j pos) (tE X.kw ct E (eCon (.str x))) := de_con pe_str fun _ _ => .str x
theorem de_globS {x : Str} {y : Str} {t : Tok} {pos : Pos} (hg : Gl X x) (hm : X.mg x = some (.str y t)) (hd : (x == ("__debug__" : Str)) = false := by decide) : PE X (.Name x pos) (tE X.kw ct E (eCon (.str y))) :=
  de_con (pe_glob hg hm (v := .str y) ⟨t, rfl⟩ hd) fun _ _ => .str y
theorem de_globI {x : Str} {y : Int} {t : Tok} {pos : Pos} (hg : Gl X x) (hm : X.mg x = some (.int y t)) (hd : (x == ("__debug__" : Str)) = false := by decide) : PE X (.Name x pos) (tE X.kw ct E (eCon (.int y))) :=
  de_con (pe_glob hg hm (v := .int y) ⟨t, rfl⟩ hd) fun _ _ => .int y
theorem de_ty {x : Str} {n : String} {pos : Pos} (hg : Gl X x) (hm : X.mg x = none) (hv : bootBuiltins x = some (.type n)) (hn : x ≠ "__name__" := by decide) (hd : (x == ("__debug__" : Str)) = false := by decide) : PE X (.Name x pos) (tE X.kw ct E (eCon (.ty n))) :=
  de_con (pe_bltn hg hm hv (v := .ty n) rfl hn hd) fun _ _ => .ty n
end

/-! ### operators by values -/
abbrev O2 := Sto → W → W → Option D
def ofOp (st : Sto) : Option D → R W
  | some d => .ok (.v d) st
  | none => .bad
@[simp] theorem ofOp_some (st : Sto) (d : D) : ofOp st (some d) = .ok (.v d) st := rfl
@[simp] theorem ofOp_none (st : Sto) : ofOp st none = .bad := rfl
def eBin (g : O2) (f1 f2 : ED) : ED := fun env st => (f1 env st).bind fun a st => (f2 env st).bind fun b st => ofOp st (g st a b)
/-- what an operator is asked for -/
def rOf (K : KW) (g : O2) : R2 := fun x y H Q => ∃ ρ st w1 w2 d, RelSt K ρ H st ∧ Rw K ρ H x w1 ∧ Rw K ρ H y w2 ∧ g st w1 w2 = some d ∧ ∀ H' v, Same H H' → Rl K ρ H' v d → Q v H'
section
variable {X : Cx} {ct : Nat → Value} {E : St → XK} {a b : Expr} {fa fb : ED}
theorem two_read {K : KW} {g : O2} {σ : St} {H : Hp} {Q : VK} (h : tE K ct E (eBin g fa fb) σ H Q) : tOp (rOf K g) (tE K ct E fa) (tE K ct E fb) σ H Q := by
  refine (tG.bind (rel := Rw) (k := fun a env st => (fb env st).bind fun b st => ofOp st (g st a b)) h).mono fun v H1 ⟨ρ1, st1, env, d1, a1, r1, q1⟩ => ?_
  refine ⟨ρ1, st1, env, a1, (okG.bind (rel := Rw) q1 a1.2).mono fun u H2 ⟨ρ2, st2, d2, a2, g2, r2, q2⟩ => ?_⟩
  cases e : g st2 d1 d2 with
  | none => rw [e] at q2; exact q2.elim
  | some d =>
    rw [e] at q2
    exact ⟨ρ2, st2, d1, d2, d, a2.1, r1.grow g2, r2, e, fun H' w s r => okG.up q2 a2.1 s (.v r)⟩
theorem de_bin {op : Operator} {pos : Pos} {g : O2} (ho : OpR X (binaryOp op) (rOf X.kw g)) (ha : PE X a (tE X.kw ct E fa)) (hb : PE X b (tE X.kw ct E fb)) : PE X (.BinOp a op b pos) (tE X.kw ct E (eBin g fa fb)) :=
  PE.of (pe_op ho ha hb) fun σ H Q h => two_read h
theorem de_cmp {op : CmpOp} {pos : Pos} {g : O2} (ho : OpR X (compareOp op) (rOf X.kw g)) (ha : PE X a (tE X.kw ct E fa)) (hb : PE X b (tE X.kw ct E fb)) (hm : behindInMarks op b = false := by first | exact nomark _ | rfl) : PE X (.Compare a [op] [b] pos) (tE X.kw ct E (eBin g fa fb)) :=
  PE.of (pe_cmpR ho ha hb hm) fun σ H Q h => two_read h
end

/-! ### reading lists and tuples -/
def asLst (st : Sto) : W → Option (List D)
  | .v (.lst ds) => some ds
  | .r l => match st[l]? with
    | some (.lst ds) => some ds
    | _ => none
  | _ => none
theorem lst_of {K : KW} {ρ : Rho} {H : Hp} {st : Sto} {v : V} {d : W} {ds : List D} (s : RelSt K ρ H st) (r : Rw K ρ H v d) (e : asLst st d = some ds) : ∃ a xs, v = .ref a ∧ SqL K H a xs ∧ RlAll K ρ H xs ds := by
  cases r with
  | v r =>
    cases r with
    | lst h q => cases e; exact ⟨_, _, rfl, h.sql, q⟩
    | _ => cases e
  | @r l _ hl hq =>
    simp only [asLst] at e
    split at e
    · rename_i xs he
      cases e
      rcases s.obj l _ he with ⟨z, _⟩ | ⟨a, e1, xs', h1, h2⟩
      · cases z
      · exact ⟨a, xs', hq a e1, .of h1, h2⟩
    · cases e
/-- an operator of trees -/
abbrev T2 := D → D → Option D
def onV (g : T2) : O2
  | _, .v a, .v b => g a b
  | _, _, _ => none
def rOfV (K : KW) (g : T2) : R2 := fun x y H Q => ∃ ρ st d1 d2 d, RelSt K ρ H st ∧ Rl K ρ H x d1 ∧ Rl K ρ H y d2 ∧ g d1 d2 = some d ∧ ∀ H' v, Same H H' → Rl K ρ H' v d → Q v H'
theorem OpR.v {X : Cx} {f : Value → Value → Sem Value} {g : T2} (h : OpR X f (rOfV X.kw g)) : OpR X f (rOf X.kw (onV g)) := by
  intro pins s σ H x y v u Q I rx ry hh
  obtain ⟨ρ, st, w1, w2, d, rs, r1, r2, e, q⟩ := hh
  unfold onV at e
  split at e
  · cases r1; cases r2
    exact h pins s σ H x y v u Q I rx ry ⟨ρ, st, _, _, d, rs, by assumption, by assumption, e, q⟩
  · cases e
/-! ### operators -/
def addT : T2
  | .int i, .int j => some (.int (i + j))
  | .str x, .str y => if x.length + y.length ≤ 100000 then some (.str (x ++ y)) else none
  | .tup xs, .tup ys => if xs.length + ys.length ≤ 100000 then some (.tup (xs ++ ys)) else none
  | _, _ => none
abbrev addD : O2 := onV addT
theorem sl5 {n : Nat} (h : n ≤ 100000) : n ≤ sizeLine := Nat.le_trans h (by decide)
section
variable {X : Cx}
theorem op_addD : OpR X (binaryOp .Add) (rOf X.kw addD) := OpR.v <| by
  intro pins s σ H x y v u Q I rx ry h
  obtain ⟨ρ, st, d1, d2, d, rs, r1, r2, e, q⟩ := h
  unfold addT at e
  split at e
  · cases e; cases r1; cases r2
    exact op_add pins s σ H _ _ v u Q I rx ry ⟨_, _, rfl, rfl, q _ _ (.refl _) (.int _)⟩
  · split at e
    · rename_i hl
      cases e; cases r1; cases r2
      exact op_add_str pins s σ H _ _ v u Q I rx ry ⟨_, _, rfl, rfl, sl5 hl, q _ _ (.refl _) (.str _)⟩
    · cases e
  · split at e
    · rename_i hl
      cases e
      cases r1 with
      | tup h1 n1 q1 =>
        cases r2 with
        | tup h2 n2 q2 =>
          refine op_catA pins s σ H _ _ v u Q I rx ry ⟨_, _, _, _, rfl, rfl, .inl h1, .inl h2, sl5 (by rw [q1.length, q2.length]; exact hl), fun z => ?_, fun z1 z2 => ?_, fun _ _ p hp => ?_⟩
          · subst z; cases q1; exact q _ _ (.refl _) (.tup h2 n2 q2)
          · subst z2; cases q2; exact q _ _ (.refl _) (.tup h1 n1 (by simpa using q1))
          · exact q _ _ (same_upd hp) (.tup (.inl upd_same) (rs.fresh hp) ((q1.append q2).same (same_upd hp)))
    · cases e
  · cases e
/-- ints alone: the operation, where it is served -/
def int2 (c : Int → Int → Bool) (f : Int → Int → D) : T2
  | .int i, .int j => if c i j then some (f i j) else none
  | _, _ => none
theorem op_int2 {f : Value → Value → Sem Value} {c : Int → Int → Bool} {C : Int → Int → Prop} {g : Int → Int → D} {gv : Int → Int → V} (h : OpR X f (rI C gv)) (hc : ∀ i j, c i j = true → C i j) (hg : ∀ i j ρ H, Rl X.kw ρ H (gv i j) (g i j)) : OpR X f (rOf X.kw (onV (int2 c g))) := OpR.v <| by
  intro pins s σ H x y v u Q I rx ry hh
  obtain ⟨ρ, st, d1, d2, d, rs, r1, r2, e, q⟩ := hh
  unfold int2 at e
  split at e
  · split at e
    · rename_i hcc
      cases e; cases r1; cases r2
      exact h pins s σ H _ _ v u Q I rx ry ⟨_, _, rfl, rfl, hc _ _ hcc, q _ _ (.refl _) (hg _ _ _ _)⟩
    · cases e
  · cases e
theorem op_int0 {f : Value → Value → Sem Value} {g : Int → Int → D} {gv : Int → Int → V} (h : OpR X f (rI0 gv)) (hg : ∀ i j ρ H, Rl X.kw ρ H (gv i j) (g i j)) : OpR X f (rOf X.kw (onV (int2 (fun _ _ => true) g))) := OpR.v <| by
  intro pins s σ H x y v u Q I rx ry hh
  obtain ⟨ρ, st, d1, d2, d, rs, r1, r2, e, q⟩ := hh
  unfold int2 at e
  split at e
  · simp only [if_true] at e
    cases e; cases r1; cases r2
    exact h pins s σ H _ _ v u Q I rx ry ⟨_, _, rfl, rfl, q _ _ (.refl _) (hg _ _ _ _)⟩
  · cases e
abbrev subD : O2 := onV (int2 (fun _ _ => true) fun i j => .int (i - j))
theorem op_subD : OpR X (binaryOp .Sub) (rOf X.kw subD) := op_int0 op_sub fun _ _ _ _ => .int _
abbrev modD : O2 := onV (int2 (fun _ j => decide (0 < j)) fun i j => .int (i % j))
theorem op_modD : OpR X (binaryOp .Mod) (rOf X.kw modD) := op_int2 op_mod (fun _ _ h => of_decide_eq_true h) fun _ _ _ _ => .int _
abbrev fdivD : O2 := onV (int2 (fun _ j => decide (0 < j ∧ j < 1073741824)) fun i j => .int (i / j))
theorem op_fdivD : OpR X (binaryOp .FloorDiv) (rOf X.kw fdivD) := op_int2 op_fdiv (fun i j h => show 0 < j ∧ j < 1073741824 from of_decide_eq_true h) fun _ _ _ _ => .int _
theorem op_powD0 : OpR X (binaryOp .Pow) (rI (fun i j => 0 ≤ j ∧ (Builtin.Int.intBits i : Int) * j ≤ 2 ^ 27) fun i j => .int (i ^ j.toNat)) := opI fun _ _ _ _ _ _ _ hc q => pow_int hc.1 hc.2 q
abbrev powD : O2 := onV (int2 (fun i j => decide (0 ≤ j ∧ (Builtin.Int.intBits i : Int) * j ≤ 2 ^ 27)) fun i j => .int (i ^ j.toNat))
theorem op_powD : OpR X (binaryOp .Pow) (rOf X.kw powD) := op_int2 op_powD0 (fun _ _ h => of_decide_eq_true h) fun _ _ _ _ => .int _
/-- ints below a million bits together; a tuple told so often -/
def mulT : T2
  | .int i, .int j => if i.natAbs.log2 + j.natAbs.log2 < 1000000 then some (.int (i * j)) else none
  | .tup xs, .int k => if 2 ≤ k ∧ k ≤ 1000 ∧ 0 < xs.length ∧ xs.length ≤ 1000 then some (.tup (List.replicate k.toNat xs).flatten) else none
  | _, _ => none
abbrev mulD : O2 := onV mulT
theorem op_mulD : OpR X (binaryOp .Mult) (rOf X.kw mulD) := OpR.v <| by
  intro pins s σ H x y v u Q I rx ry h
  obtain ⟨ρ, st, d1, d2, d, rs, r1, r2, e, q⟩ := h
  unfold mulT at e
  split at e
  · split at e
    · rename_i hl
      cases e; cases r1; cases r2
      exact op_mulW pins s σ H _ _ v u Q I rx ry ⟨_, _, rfl, rfl, hl, q _ _ (.refl _) (.int _)⟩
    · cases e
  · split at e
    · rename_i hl
      cases e
      cases r2
      cases r1 with
      | tup h1 n1 q1 =>
        refine op_repT pins s σ H _ _ v u Q I rx ry ⟨_, _, _, rfl, rfl, .inl h1, fun z => ?_, hl.1, hl.2.1, by rw [q1.length]; exact hl.2.2.2, fun p hp => ?_⟩
        · have := q1.length
          rw [z] at this
          simp only [List.length_nil] at this
          omega
        · exact q _ _ (same_upd hp) (.tup (.inl upd_same) (rs.fresh hp) ((q1.flat _).same (same_upd hp)))
    · cases e
  · cases e
abbrev ltD : O2 := onV (int2 (fun _ _ => true) fun i j => .bl (decide (i < j)))
abbrev leD : O2 := onV (int2 (fun _ _ => true) fun i j => .bl (decide (i ≤ j)))
abbrev gtD : O2 := onV (int2 (fun _ _ => true) fun i j => .bl (decide (j < i)))
abbrev geD : O2 := onV (int2 (fun _ _ => true) fun i j => .bl (decide (j ≤ i)))
theorem op_ltD : OpR X (compareOp .Lt) (rOf X.kw ltD) := op_int0 op_lt fun _ _ _ _ => .bl _
theorem op_leD : OpR X (compareOp .LtE) (rOf X.kw leD) := op_int0 op_le fun _ _ _ _ => .bl _
theorem op_gtD : OpR X (compareOp .Gt) (rOf X.kw gtD) := op_int0 op_gt fun _ _ _ _ => .bl _
theorem op_geD : OpR X (compareOp .GtE) (rOf X.kw geD) := op_int0 op_ge fun _ _ _ _ => .bl _
end

/-! ### == -/
mutual
def D.py : D → PyData
  | .non => .none
  | .bl b => .bool b
  | .int i => .int i
  | .str x => .str x
  | .tup xs => .tuple (D.pyL xs)
  | .lst xs => .list (D.pyL xs)
  | .dct _ => .dict []
  | .ty _ => .dict []
  | .kd _ => .dict []
  | .cod _ => .dict []
  | .ld _ => .dict []
  | .adr _ => .dict []
  | .tupx _ => .dict []
  | .exc _ _ => .dict []
def D.pyL : List D → List PyData
  | [] => []
  | x :: xs => x.py :: D.pyL xs
end
/-- the tree that a value is now -/
def deref (st : Sto) : W → D
  | .v d => d
  | .r l => match st[l]? with
    | some (.lst ds) => .lst ds
    | _ => .dct []
section
variable {K : KW} {ρ : Rho} {H : Hp}
mutual
theorem Rl.dp : ∀ {v : V} {d : D}, Rl K ρ H v d → d.py.canLay0 = true → Dp K H v d.py
  | _, _, .non, _ => .non
  | _, _, .bl b, _ => .bl b
  | _, _, .int i, _ => .int i
  | _, _, .str x, _ => .str x
  | _, _, .ty n, h => by simp [D.py, PyData.canLay0] at h
  | _, _, .kd _ _ _ _ _, h => by simp [D.py, PyData.canLay0] at h
  | _, _, .ld _ _ _ _ _, h => by simp [D.py, PyData.canLay0] at h
  | _, _, .adr _, h => by simp [D.py, PyData.canLay0] at h
  | _, _, .tupx _ _ _ _, h => by simp [D.py, PyData.canLay0] at h
  | _, _, .exc0 _ _ _, h => by simp [D.py, PyData.canLay0] at h
  | _, _, .excd _ _ _ _ _ _ _, h => by simp [D.py, PyData.canLay0] at h
  | _, _, .tup h n r, c => by
    simp only [D.py]
    exact .tup (.inl h) (RlAll.dp r (by simpa [D.py, PyData.canLay0] using c))
  | _, _, .lst h r, c => by
    simp only [D.py]
    exact .lst h.sql (RlAll.dp r (by simpa [D.py, PyData.canLay0] using c))
  | _, _, .dct0 h n, c => by simp [D.py, PyData.canLay0] at c
  | _, _, .cod h n, c => by simp [D.py, PyData.canLay0] at c
theorem RlAll.dp : ∀ {vs : List V} {ds : List D}, RlAll K ρ H vs ds → PyData.canLayAll0 (D.pyL ds) = true → DpAll K H vs (D.pyL ds)
  | _, _, .nil, _ => .nil
  | _, _, .cons r t, c => by
    simp only [D.pyL, PyData.canLayAll0, Bool.and_eq_true] at c
    exact .cons (Rl.dp r c.1) (RlAll.dp t c.2)
end
theorem deref_dp {st : Sto} {v : V} {d : W} (s : RelSt K ρ H st) (r : Rw K ρ H v d) (c : SeqAt.shaped (deref st d).py = true) : Dp K H v (deref st d).py := by
  have c := SeqAt.canLay_of_shaped c
  cases d with
  | v d => cases r with | v r => exact r.dp c
  | r l =>
    simp only [deref] at c ⊢
    cases e : st[l]? with
    | none => simp [e, D.py, PyData.canLay0] at c
    | some ob =>
      cases ob with
      | lst ds =>
        simp only [e] at c ⊢
        obtain ⟨a, xs, rfl, h1, h2⟩ := lst_of s r (d := .r l) (ds := ds) (by simp only [asLst, e])
        simp only [D.py] at c ⊢
        exact .lst h1 (h2.dp (by simpa [PyData.canLay0] using c))
      | dead => simp [e, D.py, PyData.canLay0] at c
      | dct kvs => simp [e, D.py, PyData.canLay0] at c
      | kd kvs => simp [e, D.py, PyData.canLay0] at c
      | ld kvs => simp [e, D.py, PyData.canLay0] at c
      | set kvs => simp [e, D.py, PyData.canLay0] at c
      | tab P q => simp [e, D.py, PyData.canLay0] at c
end
def eqD : O2 := fun st a b => if SeqAt.shaped (deref st a).py && SeqAt.shaped (deref st b).py then some (.bl (PyData.eqv (deref st a).py (deref st b).py)) else none
def neD : O2 := fun st a b => if SeqAt.shaped (deref st a).py && SeqAt.shaped (deref st b).py then some (.bl (!PyData.eqv (deref st a).py (deref st b).py)) else none
section
variable {X : Cx}
theorem op_eqDD (hu : X.A.units + 64 < cLine) : OpR X (compareOp .Eq) (rOf X.kw eqD) := by
  intro pins s σ H x y v u Q I rx ry h
  obtain ⟨ρ, st, d1, d2, d, rs, r1, r2, e, q⟩ := h
  unfold eqD at e
  split at e
  · rename_i c
    rw [Bool.and_eq_true] at c
    cases e
    exact op_eqD hu pins s σ H _ _ v u Q I rx ry ⟨_, _, deref_dp rs r1 c.1, deref_dp rs r2 c.2, c.1, c.2, q _ _ (.refl _) (.bl _)⟩
  · cases e
theorem op_neDD (hu : X.A.units + 64 < cLine) : OpR X (compareOp .NotEq) (rOf X.kw neD) := by
  intro pins s σ H x y v u Q I rx ry h
  obtain ⟨ρ, st, d1, d2, d, rs, r1, r2, e, q⟩ := h
  unfold neD at e
  split at e
  · rename_i c
    rw [Bool.and_eq_true] at c
    cases e
    exact op_neD hu pins s σ H _ _ v u Q I rx ry ⟨_, _, deref_dp rs r1 c.1, deref_dp rs r2 c.2, c.1, c.2, q _ _ (.refl _) (.bl _)⟩
  · cases e
end

/-! ### is -/
def D.isNon : D → Bool
  | .non => true
  | _ => false
def D.isBl (b : Bool) : D → Bool
  | .bl c => c == b
  | _ => false
def isT : T2 := fun a b => match b with
  | .non => some (.bl a.isNon)
  | .bl c => some (.bl (a.isBl c))
  | _ => none
def isNotT : T2 := fun a b => match b with
  | .non => some (.bl (!a.isNon))
  | .bl c => some (.bl (!a.isBl c))
  | _ => none
abbrev isD : O2 := onV isT
abbrev isNotD : O2 := onV isNotT
theorem isNon_of {K : KW} {ρ : Rho} {H : Hp} {v : V} {d : D} (r : Rl K ρ H v d) : decide (v = .non) = d.isNon := by
  cases r <;> first | rfl | simp [D.isNon]
theorem isBl_of {K : KW} {ρ : Rho} {H : Hp} {v : V} {d : D} {b : Bool} (r : Rl K ρ H v d) : decide (v = .bl b) = d.isBl b := by
  cases r <;> first | (simp [D.isBl]; done) | (rename_i c; cases b <;> cases c <;> rfl)
section
variable {X : Cx}
theorem plainBool (v : Value) (b : Bool) (x : V) (r : RelV x v) : plainIs v (.bool b) = true := by
  cases x with
  | non => cases r; rfl
  | bl _ => cases r; rfl
  | int _ => obtain ⟨t, rfl⟩ := r; rfl
  | str _ => obtain ⟨t, rfl⟩ := r; rfl
  | byt _ => obtain ⟨t, rfl⟩ := r; rfl
  | flt _ => obtain ⟨t, rfl⟩ := r; rfl
  | ref _ => cases r; rfl
  | ty _ => cases r; rfl
theorem op_isDD : OpR X (compareOp .Is) (rOf X.kw isD) := OpR.v <| by
  intro pins s σ H x y v u Q I rx ry h
  obtain ⟨ρ, st, d1, d2, d, rs, r1, r2, e, q⟩ := h
  unfold isT at e
  split at e
  · cases e
    cases r2
    exact op_isN pins s σ H _ _ v u Q I rx ry ⟨rfl, by rw [isNon_of r1]; exact q _ _ (.refl _) (.bl _)⟩
  · rename_i c
    cases e
    cases r2
    cases ry
    by_cases hx : x = .bl c
    · subst hx
      cases rx
      have q' : d1.isBl c = true := by rw [← isBl_of r1]; simp
      exact wpAny_is_self rfl ⟨.bl true, H, I, rfl, by have := q H (.bl (d1.isBl c)) (.refl _) (.bl _); rw [q'] at this; exact this⟩
    · have q' : d1.isBl c = false := by rw [← isBl_of r1]; simp [hx]
      refine wpAny_is_other (plainBool v c x rx) (fun z => hx ?_) ⟨.bl false, H, I, rfl, by have := q H (.bl (d1.isBl c)) (.refl _) (.bl _); rw [q'] at this; exact this⟩
      subst z
      exact rx.inj rfl
  · cases e
theorem op_isNotDD : OpR X (compareOp .IsNot) (rOf X.kw isNotD) := OpR.v <| by
  intro pins s σ H x y v u Q I rx ry h
  obtain ⟨ρ, st, d1, d2, d, rs, r1, r2, e, q⟩ := h
  unfold isNotT at e
  split at e
  · cases e
    cases r2
    exact op_notN pins s σ H _ _ v u Q I rx ry ⟨rfl, by rw [isNon_of r1]; exact q _ _ (.refl _) (.bl _)⟩
  · rename_i c
    cases e
    cases r2
    cases ry
    by_cases hx : x = .bl c
    · subst hx
      cases rx
      have q' : d1.isBl c = true := by rw [← isBl_of r1]; simp
      exact wpAny_isNot_self rfl ⟨.bl false, H, I, rfl, by have := q H (.bl (!d1.isBl c)) (.refl _) (.bl _); rw [q'] at this; exact this⟩
    · have q' : d1.isBl c = false := by rw [← isBl_of r1]; simp [hx]
      refine wpAny_isNot_other (plainBool v c x rx) (fun z => hx ?_) ⟨.bl true, H, I, rfl, by have := q H (.bl (!d1.isBl c)) (.refl _) (.bl _); rw [q'] at this; exact this⟩
      subst z
      exact rx.inj rfl
  · cases e
/-! ### in -/
/-- one sign in a text; a value in a list -/
def inD : O2
  | _, .v (.str x), .v (.str z) => match x.cps.toList with
    | [c] => some (.bl (decide (c ∈ z.cps.toList)))
    | _ => none
  | st, .v a, b => match asLst st b with
    | some ds => if SeqAt.shaped a.py && SeqAt.shaped (.list (D.pyL ds)) then some (.bl ((D.pyL ds).any fun z => PyData.eqv z a.py)) else none
    | none => none
  | _, _, _ => none
def notInD : O2 := fun st a b => match inD st a b with
  | some (.bl c) => some (.bl (!c))
  | _ => none
theorem toList_one {x : Str} {c : Nat} (h : x.cps.toList = [c]) : x = ⟨#[c]⟩ := by
  obtain ⟨⟨l⟩⟩ := x
  simp only at h
  subst h
  rfl
theorem op_inDD (hu : X.A.units + 65 < cLine) : OpR X (compareOp .In) (rOf X.kw inD) := by
  intro pins s σ H x y v u Q I rx ry h
  obtain ⟨ρ, st, d1, d2, d, rs, r1, r2, e, q⟩ := h
  unfold inD at e
  split at e
  · split at e
    · rename_i c hc
      cases e
      cases r1 with | v r1 => cases r2 with | v r2 => cases r1; cases r2; exact op_in_sign pins s σ H _ _ v u Q I rx ry ⟨c, _, by rw [toList_one hc], rfl, q _ _ (.refl _) (.bl _)⟩
    · cases e
  · split at e
    · rename_i ds hds
      split at e
      · rename_i c
        rw [Bool.and_eq_true] at c
        cases e
        obtain ⟨a, xs, rfl, h1, h2⟩ := lst_of rs r2 hds
        cases r1 with | v r1 => exact op_inD hu pins s σ H _ _ v u Q I rx ry ⟨_, _, r1.dp (SeqAt.canLay_of_shaped c.1), .lst h1 (h2.dp (by simpa [PyData.canLay0] using SeqAt.canLay_of_shaped c.2)), c.1, c.2, q _ _ (.refl _) (.bl _)⟩
      · cases e
    · cases e
  · cases e
theorem op_notInDD (hu : X.A.units + 65 < cLine) : OpR X (compareOp .NotIn) (rOf X.kw notInD) := by
  intro pins s σ H x y v u Q I rx ry h
  obtain ⟨ρ, st, d1, d2, d, rs, r1, r2, e, q⟩ := h
  unfold notInD at e
  split at e
  rotate_left
  · cases e
  rename_i c0 e0
  cases e
  unfold inD at e0
  split at e0
  · split at e0
    · rename_i c hc
      cases e0
      cases r1 with | v r1 => cases r2 with | v r2 => cases r1; cases r2; exact op_notIn_sign pins s σ H _ _ v u Q I rx ry ⟨c, _, by rw [toList_one hc], rfl, q _ _ (.refl _) (.bl _)⟩
    · cases e0
  · split at e0
    · rename_i ds hds
      split at e0
      · rename_i c
        rw [Bool.and_eq_true] at c
        cases e0
        obtain ⟨a, xs, rfl, h1, h2⟩ := lst_of rs r2 hds
        cases r1 with | v r1 => exact op_notInD hu pins s σ H _ _ v u Q I rx ry ⟨_, _, r1.dp (SeqAt.canLay_of_shaped c.1), .lst h1 (h2.dp (by simpa [PyData.canLay0] using SeqAt.canLay_of_shaped c.2)), c.1, c.2, q _ _ (.refl _) (.bl _)⟩
      · cases e0
    · cases e0
  · cases e0
end
end Jv
end
section
namespace Jv
open PySem L2 PyProof.Rows

/-! ### tests -/
def tVal (f : ED) : BD := fun env st => (f env st).bind fun d st => match d with
  | .v (.bl b) => .ok b st
  | _ => .bad
def bNot (f : BD) : BD := fun env st => (f env st).bind fun b st => .ok (!b) st
def bAnd (f g : BD) : BD := fun env st => (f env st).bind fun b st => if b then g env st else .ok false st
def bOr (f g : BD) : BD := fun env st => (f env st).bind fun b st => if b then .ok true st else g env st
def eIf (c : BD) (f g : ED) : ED := fun env st => (c env st).bind fun b st => if b then f env st else g env st
def eNot (f : ED) : ED := fun env st => (f env st).bind fun d st => match d with
  | .v (.bl b) => .ok (.v (.bl (!b))) st
  | _ => .bad
def eAnd (f g : ED) : ED := fun env st => (f env st).bind fun d st => match d with
  | .v (.bl true) => g env st
  | .v (.bl false) => .ok (.v (.bl false)) st
  | _ => .bad
def eOr (f g : ED) : ED := fun env st => (f env st).bind fun d st => match d with
  | .v (.bl true) => .ok (.v (.bl true)) st
  | .v (.bl false) => g env st
  | _ => .bad
def eChain (g g' : O2) (f1 f2 f3 : ED) : ED := fun env st => (f1 env st).bind fun a st => (f2 env st).bind fun b st => match g st a b with
  | some (.bl true) => (f3 env st).bind fun c st => ofOp st (g' st b c)
  | some (.bl false) => .ok (.v (.bl false)) st
  | _ => .bad
section
variable {X : Cx} {ct : Nat → Value} {E : St → XK} {a b c : Expr} {fa fb fc : ED} {ta tb : BD} {pos : Pos} {rest : List Expr}
theorem rl_bl {K : KW} {ρ : Rho} {H : Hp} {v : V} {b : Bool} (r : Rw K ρ H v (.v (.bl b))) : v = .bl b := by cases r with | v r => cases r; rfl
theorem rl_bl' {K : KW} {ρ : Rho} {H : Hp} {v : V} {b : Bool} (r : Rl K ρ H v (.bl b)) : v = .bl b := by cases r; rfl
theorem val_read {K : KW} {σ : St} {H : Hp} {Q : Bool → Hp → Prop} (h : tT K ct E (tVal fa) σ H Q) : tB (tE K ct E fa) σ H Q := by
  refine (tG.bind (rel := Rw) (k := fun d _ st => match d with | .v (.bl b) => R.ok b st | _ => R.bad) h).mono fun v H1 ⟨ρ1, st1, env, d, a1, r1, q1⟩ => ?_
  cases d with
  | r l => exact q1.elim
  | v d =>
  cases d with
  | bl k => cases rl_bl r1; exact ⟨k, rfl, q1.here a1.1 rfl⟩
  | _ => exact q1.elim
theorem dt_val (h : PE X a (tE X.kw ct E fa)) (he : ∀ whole, isTrue a X.env whole = (do let v ← whole; standAt a.pos; holding [v] (truthy v)) := by intro _; rfl) : PT X a (tT X.kw ct E (tVal fa)) :=
  PT.of (pt_val h he) fun σ H Q q => val_read q
theorem dt_not (h : PT X a (tT X.kw ct E ta)) : PT X (.UnaryOp .Not a pos) (tT X.kw ct E (bNot ta)) := PT.of (pt_not h) fun σ H Q q => by
  refine (tG.bind (rel := RlB) (k := fun b _ st => R.ok (!b) st) q).mono fun v H1 ⟨ρ1, st1, env, d, a1, r1, q1⟩ => ?_
  cases r1
  exact q1.here a1.1 rfl
theorem dw_and1 (h : PT X a (tT X.kw ct E ta)) : PW X (.BoolOp .And [a] pos) (tT X.kw ct E ta) := pw_and1 h
theorem dw_or1 (h : PT X a (tT X.kw ct E ta)) : PW X (.BoolOp .Or [a] pos) (tT X.kw ct E ta) := pw_or1 h
theorem dw_and (ha : PT X a (tT X.kw ct E ta)) (hb : PW X (.BoolOp .And (b :: rest) pos) (tT X.kw ct E tb)) : PW X (.BoolOp .And (a :: b :: rest) pos) (tT X.kw ct E (bAnd ta tb)) := PW.of (pw_and ha hb) fun σ H Q q => by
  refine (tG.bind (rel := RlB) (k := fun b env st => if b then tb env st else R.ok false st) q).mono fun v H1 ⟨ρ1, st1, env, d, a1, r1, q1⟩ => ?_
  cases r1
  cases v with
  | true => simp only [if_true] at q1 ⊢; exact ⟨ρ1, st1, env, a1, q1⟩
  | false => simp only [Bool.false_eq_true, if_false] at q1 ⊢; exact q1.here a1.1 rfl
theorem dw_or (ha : PT X a (tT X.kw ct E ta)) (hb : PW X (.BoolOp .Or (b :: rest) pos) (tT X.kw ct E tb)) : PW X (.BoolOp .Or (a :: b :: rest) pos) (tT X.kw ct E (bOr ta tb)) := PW.of (pw_or ha hb) fun σ H Q q => by
  refine (tG.bind (rel := RlB) (k := fun b env st => if b then R.ok true st else tb env st) q).mono fun v H1 ⟨ρ1, st1, env, d, a1, r1, q1⟩ => ?_
  cases r1
  cases v with
  | true => simp only [if_true] at q1 ⊢; exact q1.here a1.1 rfl
  | false => simp only [Bool.false_eq_true, if_false] at q1 ⊢; exact ⟨ρ1, st1, env, a1, q1⟩
theorem de_if (hc : PT X c (tT X.kw ct E ta)) (ha : PE X a (tE X.kw ct E fa)) (hb : PE X b (tE X.kw ct E fb)) : PE X (.IfExp c a b pos) (tE X.kw ct E (eIf ta fa fb)) := PE.of (pe_ifExp hc ha hb) fun σ H Q q => by
  refine (tG.bind (rel := RlB) (k := fun b env st => if b then fa env st else fb env st) q).mono fun v H1 ⟨ρ1, st1, env, d, a1, r1, q1⟩ => ?_
  cases r1
  cases v with
  | true => simp only [if_true] at q1 ⊢; exact ⟨ρ1, st1, env, a1, q1⟩
  | false => simp only [Bool.false_eq_true, if_false] at q1 ⊢; exact ⟨ρ1, st1, env, a1, q1⟩
theorem de_not (h : PE X a (tE X.kw ct E fa)) : PE X (.UnaryOp .Not a pos) (tE X.kw ct E (eNot fa)) := PE.of (pe_not h) fun σ H Q q => by
  refine (tG.bind (rel := Rw) (k := fun d _ st => match d with | .v (.bl b) => R.ok (W.v (D.bl (!b))) st | _ => R.bad) q).mono fun v H1 ⟨ρ1, st1, env, d, a1, r1, q1⟩ => ?_
  cases d with
  | r l => exact q1.elim
  | v d =>
  cases d with
  | bl k => cases rl_bl r1; exact ⟨k, rfl, q1.here a1.1 (.v (.bl _))⟩
  | _ => exact q1.elim
theorem de_one {op : BoolOp} (h : PE X a (tE X.kw ct E fa)) : PE X (.BoolOp op [a] pos) (tE X.kw ct E fa) := pe_one h
theorem de_and (ha : PE X a (tE X.kw ct E fa)) (hb : PE X (.BoolOp .And (b :: rest) pos) (tE X.kw ct E fb)) : PE X (.BoolOp .And (a :: b :: rest) pos) (tE X.kw ct E (eAnd fa fb)) := PE.of (pe_and ha hb) fun σ H Q q => by
  refine (tG.bind (rel := Rw) (k := fun d env st => match d with | .v (.bl true) => fb env st | .v (.bl false) => R.ok (W.v (D.bl false)) st | _ => R.bad) q).mono fun v H1 ⟨ρ1, st1, env, d, a1, r1, q1⟩ => ?_
  cases d with
  | r l => exact q1.elim
  | v d =>
  cases d with
  | bl k =>
    cases rl_bl r1
    refine ⟨k, rfl, ?_⟩
    cases k with
    | true => simp only [if_true] at q1 ⊢; exact ⟨ρ1, st1, env, a1, q1⟩
    | false => simp only [Bool.false_eq_true, if_false] at q1 ⊢; exact q1.here a1.1 (.v (.bl _))
  | _ => exact q1.elim
theorem de_or (ha : PE X a (tE X.kw ct E fa)) (hb : PE X (.BoolOp .Or (b :: rest) pos) (tE X.kw ct E fb)) : PE X (.BoolOp .Or (a :: b :: rest) pos) (tE X.kw ct E (eOr fa fb)) := PE.of (pe_or ha hb) fun σ H Q q => by
  refine (tG.bind (rel := Rw) (k := fun d env st => match d with | .v (.bl true) => R.ok (W.v (D.bl true)) st | .v (.bl false) => fb env st | _ => R.bad) q).mono fun v H1 ⟨ρ1, st1, env, d, a1, r1, q1⟩ => ?_
  cases d with
  | r l => exact q1.elim
  | v d =>
  cases d with
  | bl k =>
    cases rl_bl r1
    refine ⟨k, rfl, ?_⟩
    cases k with
    | true => simp only [if_true] at q1 ⊢; exact q1.here a1.1 (.v (.bl _))
    | false => simp only [Bool.false_eq_true, if_false] at q1 ⊢; exact ⟨ρ1, st1, env, a1, q1⟩
  | _ => exact q1.elim
theorem chain_read {K : KW} {g g' : O2} {σ : St} {H : Hp} {Q : VK} (h : tE K ct E (eChain g g' fa fb fc) σ H Q) : tChain (rOf K g) (rOf K g') (tE K ct E fa) (tE K ct E fb) (tE K ct E fc) σ H Q := by
  refine (tG.bind (rel := Rw) (k := fun a env st => (fb env st).bind fun b st => match g st a b with
    | some (.bl true) => (fc env st).bind fun c st => ofOp st (g' st b c)
    | some (.bl false) => R.ok (W.v (D.bl false)) st
    | _ => R.bad) h).mono fun v H1 ⟨ρ1, st1, env, d1, a1, r1, q1⟩ => ?_
  refine ⟨ρ1, st1, env, a1, (okG.bind (rel := Rw) q1 a1.2).mono fun u H2 ⟨ρ2, st2, d2, a2, g2, r2, q2⟩ => ?_⟩
  cases e : g st2 d1 d2 with
  | none => rw [e] at q2; exact q2.elim
  | some d =>
    rw [e] at q2
    refine ⟨ρ2, st2, d1, d2, d, a2.1, r1.grow g2, r2, e, fun H3 w s r => ?_⟩
    cases d with
    | bl k =>
      cases rl_bl' r
      refine ⟨k, rfl, ?_⟩
      cases k with
      | false =>
        simp only [Bool.false_eq_true, if_false] at q2 ⊢
        exact okG.up q2 a2.1 s (.v (.bl _))
      | true =>
        simp only [if_true] at q2 ⊢
        have a3 : At K ρ2 H3 st2 σ env := ⟨a2.1.same s, a2.2.grow (.same s)⟩
        have q3 := okG.grow (.same s) q2
        refine ⟨ρ2, st2, env, a3, (okG.bind (rel := Rw) q3 a3.2).mono fun u3 H4 ⟨ρ4, st4, d4, a4, g4, r4, q4⟩ => ?_⟩
        cases e4 : g' st4 d2 d4 with
        | none => rw [e4] at q4; exact q4.elim
        | some d5 =>
          rw [e4] at q4
          exact ⟨ρ4, st4, d2, d4, d5, a4.1, (r2.same s).grow g4, r4, e4, fun H' w' s' r' => okG.up q4 a4.1 s' (.v r')⟩
    | _ => exact q2.elim
theorem de_chain {op op' : CmpOp} {g g' : O2} (ho : OpR X (compareOp op) (rOf X.kw g)) (ho' : OpR X (compareOp op') (rOf X.kw g')) (ha : PE X a (tE X.kw ct E fa)) (hb : PE X b (tE X.kw ct E fb)) (hc : PE X c (tE X.kw ct E fc))
    (hm : lastMarks [op, op'] [b, c] = false := by with_unfolding_all rfl) : PE X (.Compare a [op, op'] [b, c] pos) (tE X.kw ct E (eChain g g' fa fb fc)) :=
  PE.of (pe_chain ho ho' ha hb hc hm) fun σ H Q q => chain_read q
theorem tTest_of {K : KW} {t : TE} {σ : St} {H : Hp} {Q : Bool → Hp → Prop} (h : tB t σ H Q) (f : ∀ Q Q' : VK, (∀ v H, Q v H → Q' v H) → t σ H Q → t σ H Q') : tTest t σ H Q := by
  refine f _ _ ?_ h
  intro v H ⟨c, e, q⟩
  exact ⟨c, e, q⟩
theorem dt_cmp {op : CmpOp} {g : O2} (ho : OpR X (compareOp op) (rOf X.kw g)) (ha : PE X a (tE X.kw ct E fa)) (hb : PE X b (tE X.kw ct E fb)) (hm : behindInMarks op b = false := by first | exact nomark _ | rfl) : PT X (.Compare a [op] [b] pos) (tT X.kw ct E (tVal (eBin g fa fb))) :=
  PT.of (pt_cmpR ho ha hb hm) fun σ H Q q => by
    have h := val_read q
    exact two_read (h.mono fun v H ⟨c, e, q⟩ => ⟨c, e, q⟩)
theorem dt_chain {op op' : CmpOp} {g g' : O2} (ho : OpR X (compareOp op) (rOf X.kw g)) (ho' : OpR X (compareOp op') (rOf X.kw g')) (ha : PE X a (tE X.kw ct E fa)) (hb : PE X b (tE X.kw ct E fb)) (hc : PE X c (tE X.kw ct E fc))
    (hm : lastMarks [op, op'] [b, c] = false := by with_unfolding_all rfl) : PT X (.Compare a [op, op'] [b, c] pos) (tT X.kw ct E (tVal (eChain g g' fa fb fc))) :=
  PT.of (pt_chain ho ho' ha hb hc hm) fun σ H Q q => by
    have h := val_read q
    exact chain_read (h.mono fun v H ⟨c, e, q⟩ => ⟨c, e, q⟩)
end

/-! ### arguments -/
def aNil : AD := fun _ st => .ok [] st
def aCons (f : ED) (g : AD) : AD := fun env st => (f env st).bind fun d st => (g env st).bind fun ds st => .ok (d :: ds) st
section
variable {X : Cx} {ct : Nat → Value} {E : St → XK} {e : Expr} {es : List Expr} {f : ED} {g : AD}
theorem da_nil : PA X [] (tA X.kw ct E aNil) := PA.of pa_nil fun σ H Q ⟨ρ, st, env, a, h⟩ => h.here a.1 .nil
theorem da_cons (ha : PE X e (tE X.kw ct E f)) (hr : PA X es (tA X.kw ct E g)) (hs : starEach (e :: es) X.env = (false, eval e X.env) :: starEach es X.env := by rfl) : PA X (e :: es) (tA X.kw ct E (aCons f g)) :=
  PA.of (pa_cons ha hr hs) fun σ H Q q => by
    refine (tG.bind (rel := Rw) (k := fun d env st => (g env st).bind fun ds st => R.ok (d :: ds) st) q).mono fun v H1 ⟨ρ1, st1, env, d, a1, r1, q1⟩ => ?_
    exact ⟨ρ1, st1, env, a1, (okG.bind (rel := RwAll) q1 a1.2).mono fun u H2 ⟨ρ2, st2, d2, a2, g2, r2, q2⟩ => q2.here a2.1 (.cons (r1.grow g2) r2)⟩
end

/-! ### tuples, lists that come anew -/
def eTup (f : AD) : ED := fun env st => (f env st).bind fun ws st => match allV ws with
  | some ds => if ds.length ≤ 100000 then .ok (.v (.tup ds)) st else .bad
  | none => .bad
/-- a new list -/
def okF (K : KW) (ct : Nat → Value) (ρ : Rho) (H : Hp) (E : XK) (Q : VK) : R (List D) → Prop
  | .ok ds st' => ∀ ρ' H' p xs, Grow ρ H ρ' H' → RelSt K ρ' H' st' → H' p = none → RlAll K ρ' H' xs ds → Q (.ref p) (upd H' p (.lst xs))
  | .exc x st' => ∀ ρ' H' cv od, Grow ρ H ρ' H' → RelSt K ρ' H' st' → XRl K ct ρ' H' cv od x → E cv od H'
  | .bad => False
def tF (K : KW) (ct : Nat → Value) (E : St → XK) (f : LD) : TE := fun σ H Q => ∃ ρ st env, At K ρ H st σ env ∧ okF K ct ρ H (E σ) Q (f env st)
def eLst (f : LD) : ED := fun env st => (f env st).bind fun ds st => .ok (.v (.lst ds)) st
/-- .. as an object that changes -/
def eNew (f : LD) : ED := fun env st => (f env st).bind fun ds st => .ok (.r st.length) (st ++ [.lst ds])
/-- an object that changed is given up: a list as it stands -/
def frz (d : W) (st : Sto) : R W := match d with
  | .r l => match st[l]? with
    | some (.lst ds) => .ok (.v (.lst ds)) (st.set l .dead)
    | _ => .bad
  | d => .ok d st
def eFrz (f : ED) : ED := fun env st => (f env st).bind frz
section
variable {K : KW} {ρ : Rho} {H : Hp} {st : Sto}
def Rho.push (ρ : Rho) (p : Addr) : Rho := ⟨ρ.lc ++ [some p], ρ.hid⟩
theorem Grow.push {p : Addr} {o : HO} (hp : H p = none) : Grow ρ H (ρ.push p) (upd H p o) := by
  refine ⟨by simp [Rho.push], rfl, fun l a hl e => ?_, fun a u e n => ⟨by rw [upd_ne (ne_of_none e hp)]; exact e, fun z => ?_⟩⟩
  · simpa [Rho.push, List.getElem?_append_left hl] using e
  · rcases List.mem_append.mp z with z | z
    · exact n z
    · have := List.mem_singleton.mp z
      cases this
      exact ne_of_none e hp rfl
theorem RelSt.push {p : Addr} {xs : List V} {ds : List D} (s : RelSt K ρ H st) (hp : H p = none) (r : RlAll K ρ H xs ds) : RelSt K (ρ.push p) (upd H p (.lst xs)) (st ++ [.lst ds]) := by
  have hf := s.fresh hp
  have g : Grow ρ H (ρ.push p) (upd H p (.lst xs)) := .push hp
  refine ⟨by simp [Rho.push, s.len], fun l l' a e1 e2 => ?_, fun l ob e => ?_, fun a h => ?_, fun a h z => ?_, fun l ob e => ?_⟩
  · simp only [Rho.push] at e1 e2
    by_cases h1 : l < ρ.lc.length
    · rw [List.getElem?_append_left h1] at e1
      by_cases h2 : l' < ρ.lc.length
      · rw [List.getElem?_append_left h2] at e2
        exact s.inj l l' a e1 e2
      · rw [List.getElem?_append_right (by omega)] at e2
        have : a = p := by
          cases q : l' - ρ.lc.length with
          | zero => rw [q] at e2; simp at e2; exact e2.symm
          | succ n => rw [q] at e2; simp at e2
        subst this
        exact absurd (.inl (List.mem_of_getElem? e1)) hf
    · rw [List.getElem?_append_right (by omega)] at e1
      have : a = p := by
        cases q : l - ρ.lc.length with
        | zero => rw [q] at e1; simp at e1; exact e1.symm
        | succ n => rw [q] at e1; simp at e1
      subst this
      by_cases h2 : l' < ρ.lc.length
      · rw [List.getElem?_append_left h2] at e2
        exact absurd (.inl (List.mem_of_getElem? e2)) hf
      · rw [List.getElem?_append_right (by omega)] at e2
        have q1 : l - ρ.lc.length = 0 := by
          cases q : l - ρ.lc.length with
          | zero => rfl
          | succ n => rw [q] at e1; simp at e1
        have q2 : l' - ρ.lc.length = 0 := by
          cases q : l' - ρ.lc.length with
          | zero => rfl
          | succ n => rw [q] at e2; simp at e2
        omega
  · by_cases h1 : l < st.length
    · rw [List.getElem?_append_left h1] at e
      rcases s.obj l ob e with ⟨z, q⟩ | ⟨a, q, o⟩
      · exact .inl ⟨z, by simp only [Rho.push]; rw [List.getElem?_append_left (by rw [s.len]; exact h1)]; exact q⟩
      · refine .inr ⟨a, by simp only [Rho.push]; rw [List.getElem?_append_left (by rw [s.len]; exact h1)]; exact q, ?_⟩
        obtain ⟨u, hu⟩ := s.there (List.mem_of_getElem? q)
        exact o.mono (fun _ z => by rw [upd_ne (ne_of_none z hp)]; exact z) (fun _ _ z => z.grow g) fun _ _ z => z.grow g
    · rw [List.getElem?_append_right (by omega)] at e
      have q1 : l - st.length = 0 := by
        cases q : l - st.length with
        | zero => rfl
        | succ n => rw [q] at e; simp at e
      have : l = st.length := by omega
      subst this
      simp at e
      subst e
      exact .inr ⟨p, by simp only [Rho.push]; rw [← s.len]; simp, xs, upd_same, r.grow g⟩
  · obtain ⟨o, q⟩ := s.hidt a h
    exact ⟨o, by rw [upd_ne (ne_of_none q hp)]; exact q⟩
  · rcases List.mem_append.mp h with h | h
    · exact s.apart a h z
    · have := List.mem_singleton.mp h
      cases this
      exact hf (.inr z)
  · by_cases h1 : l < st.length
    · rw [List.getElem?_append_left h1] at e
      exact s.ord l ob e
    · rw [List.getElem?_append_right (by omega)] at e
      have e := List.mem_of_getElem? e
      rw [List.mem_singleton] at e
      subst e
      exact trivial
def Rho.drop (ρ : Rho) (l : Nat) : Rho := ⟨ρ.lc.set l none, ρ.hid⟩
theorem Grow.drop {l : Nat} : Grow ρ H (ρ.drop l) H := by
  refine ⟨by simp [Rho.drop], rfl, fun i a hi e => ?_, fun a o e n => ⟨e, fun z => n ?_⟩⟩
  · simp only [Rho.drop] at e
    by_cases h : l = i
    · subst h
      rw [List.getElem?_set_self hi] at e; cases e
    · rw [List.getElem?_set_ne h] at e; exact e
  · simp only [Rho.drop] at z
    obtain ⟨i, hi, e⟩ := List.getElem_of_mem z
    have e' : (ρ.lc.set l none)[i]? = some (some a) := by rw [List.getElem?_eq_getElem hi, e]
    by_cases h : l = i
    · subst h
      rw [List.getElem?_set_self (by simpa using hi)] at e'; cases e'
    · rw [List.getElem?_set_ne h] at e'; exact List.mem_of_getElem? e'
theorem RelSt.drop {l : Nat} (s : RelSt K ρ H st) : RelSt K (ρ.drop l) H (st.set l .dead) := by
  refine ⟨by simp [Rho.drop, s.len], fun i j a e1 e2 => ?_, fun i ob e => ?_, s.hidt, fun a h => s.apart a ?_, fun i ob e => ?_⟩
  · have f : ∀ i, (ρ.lc.set l none)[i]? = some (some a) → ρ.lc[i]? = some (some a) := fun i e => by
      by_cases h : l = i
      · subst h
        by_cases hi : l < ρ.lc.length
        · rw [List.getElem?_set_self hi] at e; cases e
        · rw [List.getElem?_eq_none (by simpa using hi)] at e; cases e
      · rw [List.getElem?_set_ne h] at e; exact e
    exact s.inj i j a (f i e1) (f j e2)
  · by_cases h : l = i
    · subst h
      by_cases hi : l < st.length
      · rw [List.getElem?_set_self hi] at e
        cases e
        exact .inl ⟨rfl, by simp only [Rho.drop]; rw [List.getElem?_set_self (by rw [s.len]; exact hi)]⟩
      · rw [List.getElem?_eq_none (by simpa using hi)] at e; cases e
    · rw [List.getElem?_set_ne h] at e
      rcases s.obj i ob e with ⟨z, q⟩ | ⟨a, q, o⟩
      · exact .inl ⟨z, by simp only [Rho.drop]; rw [List.getElem?_set_ne h]; exact q⟩
      · exact .inr ⟨a, by simp only [Rho.drop]; rw [List.getElem?_set_ne h]; exact q, o.mono (fun _ z => z) (fun _ _ z => z.grow .drop) fun _ _ z => z.grow .drop⟩
  · obtain ⟨i, hi, e⟩ := List.getElem_of_mem (show some a ∈ ρ.lc.set l none from h)
    have e' : (ρ.lc.set l none)[i]? = some (some a) := by rw [List.getElem?_eq_getElem hi, e]
    by_cases h : l = i
    · subst h
      rw [List.getElem?_set_self (by simpa using hi)] at e'; cases e'
    · rw [List.getElem?_set_ne h] at e'; exact List.mem_of_getElem? e'
  · by_cases h : l = i
    · subst h
      by_cases hi : l < st.length
      · rw [List.getElem?_set_self hi] at e
        cases e
        exact trivial
      · rw [List.getElem?_eq_none (by simpa using hi)] at e; cases e
    · rw [List.getElem?_set_ne h] at e
      exact s.ord i ob e
theorem RelSt.dropped {l : Nat} {p : Addr} (s : RelSt K ρ H st) (hp : ρ.lc[l]? = some (some p)) : ¬ (ρ.drop l).mut p := fun z => by
  have hll : l < ρ.lc.length := (List.getElem?_eq_some_iff.mp hp).1
  rcases z with z | z
  · obtain ⟨j, hj, ej⟩ := List.getElem_of_mem z
    have ej' : (ρ.lc.set l none)[j]? = some (some p) := by
      have q := List.getElem?_eq_getElem hj
      rw [ej] at q
      exact q
    by_cases hlj : l = j
    · subst hlj
      rw [List.getElem?_set_self hll] at ej'
      cases ej'
    · rw [List.getElem?_set_ne hlj] at ej'
      exact hlj (s.inj l j p hp ej')
  · exact s.apart p (List.mem_of_getElem? hp) z
theorem KdR.rows {xs : List (NestedKey × Addr × Value)} {kvs : List (D × D)} (r : KdR K ρ H xs kvs) : ∃ vs, xs.map (·.1) = kvs.map (·.1.nk) ∧ Vals vs (xs.map (·.2.2)) ∧ RlAll K ρ H (xs.map fun x => V.ref x.2.1) (kvs.map (·.1)) ∧ RlAll K ρ H vs (kvs.map (·.2)) := by
  induction r with
  | nil => exact ⟨[], rfl, .nil, .nil, .nil⟩
  | @cons b u v k d xs ds r q1 q2 _ ih =>
    obtain ⟨vs, h1, h2, h3, h4⟩ := ih
    exact ⟨v :: vs, by simp [h1], .cons q1 h2, .cons r h3, .cons q2 h4⟩
end
section
variable {X : Cx} {ct : Nat → Value} {E : St → XK} {e : Expr} {es : List Expr} {f : ED} {g : AD} {gl : LD}
theorem de_tup {x1 pos} (h : PA X es (tA X.kw ct E g)) : PE X (.Tuple es x1 pos) (tE X.kw ct E (eTup g)) := PE.of (pe_tup h) fun σ H Q q => by
  refine (tG.bind (rel := RwAll) (k := fun ws env st => match allV ws with | some ds => if ds.length ≤ 100000 then R.ok (W.v (D.tup ds)) st else R.bad | none => R.bad) q).mono fun v H1 ⟨ρ1, st1, env, ws, a1, r1, q1⟩ => ?_
  cases ew : allV ws with
  | none => simp only [ew] at q1; exact q1.elim
  | some ds =>
    simp only [ew] at q1
    have r2 := r1.trees ew
    split at q1
    · rename_i hl
      refine ⟨sl5 (by rw [r2.length]; exact hl), fun p hp => ?_⟩
      exact okG.up q1 a1.1 (same_upd hp) (.v (.tup (.inl upd_same) (a1.1.fresh hp) (r2.same (same_upd hp))))
    · exact q1.elim
def aLim (g : AD) : LD := fun env st => (g env st).bind fun ws st => match allV ws with
  | some ds => if ds.length ≤ 100000 then .ok ds st else .bad
  | none => .bad
theorem df_lst {pos} (h : PA X es (tA X.kw ct E g)) : PE X (.List es pos) (tF X.kw ct E (aLim g)) := PE.of (pe_lst h) fun σ H Q ⟨ρ, st, env, a, q⟩ => by
  refine ⟨ρ, st, env, a, ?_⟩
  unfold aLim at q
  cases e : g env st with
  | ok ws st' =>
    rw [e] at q
    simp only [R.bind_ok] at q
    cases ew : allV ws with
    | none => simp only [ew] at q; exact q.elim
    | some ds =>
      simp only [ew] at q
      split at q
      · rename_i hl
        intro ρ' H' b gr s r
        have r2 := r.trees ew
        exact ⟨sl5 (by rw [r2.length]; exact hl), fun p hp => q ρ' H' p b gr s hp r2⟩
      · exact q.elim
  | exc x st' => rw [e] at q; exact q
  | bad => rw [e] at q; exact q.elim
theorem de_val (h : PE X e (tF X.kw ct E gl)) : PE X e (tE X.kw ct E (eLst gl)) := PE.of h fun σ H Q ⟨ρ, st, env, a, q⟩ => by
  refine ⟨ρ, st, env, a, ?_⟩
  unfold eLst at q
  cases e : gl env st with
  | ok ds st' =>
    rw [e] at q
    intro ρ' H' p xs gr s hp r
    exact q ρ' _ _ (gr.trans (.same (same_upd hp))) (s.same (same_upd hp)) (.v (.lst (.inl ⟨.inl upd_same, s.fresh hp⟩) (r.same (same_upd hp))))
  | exc x st' => rw [e] at q; exact q
  | bad => rw [e] at q; exact q.elim
theorem de_new (h : PE X e (tF X.kw ct E gl)) : PE X e (tE X.kw ct E (eNew gl)) := PE.of h fun σ H Q ⟨ρ, st, env, a, q⟩ => by
  refine ⟨ρ, st, env, a, ?_⟩
  unfold eNew at q
  cases e : gl env st with
  | ok ds st' =>
    rw [e] at q
    intro ρ' H' p xs gr s hp r
    refine q (ρ'.push p) _ _ (gr.trans (.push hp)) (s.push hp r) (.r (by rw [← s.len]; simp [Rho.push]) fun a ea => ?_)
    rw [← s.len] at ea
    simp [Rho.push] at ea
    rw [ea]
  | exc x st' => rw [e] at q; exact q
  | bad => rw [e] at q; exact q.elim
theorem frz_read {K : KW} {f : ED} {σ : St} {H : Hp} {Q : VK} (q : tE K ct E (eFrz f) σ H Q) : tE K ct E f σ H Q := by
  refine (tG.bind (rel := Rw) (k := fun d _ st => frz d st) q).mono fun v H1 ⟨ρ1, st1, env, d, a1, r1, q1⟩ => ?_
  cases d with
  | v d => exact q1.here a1.1 r1
  | r l =>
    simp only [frz] at q1
    cases e : st1[l]? with
    | none => rw [e] at q1; exact q1.elim
    | some ob =>
      rw [e] at q1
      cases ob with
      | lst ds =>
        rcases a1.1.obj l _ e with ⟨z, _⟩ | ⟨p, hp, xs, h1, h2⟩
        · cases z
        · cases r1 with
          | r hl hv =>
            cases hv p hp
            have n : ¬ (ρ1.drop l).mut p := fun z => by
              rcases z with z | z
              · obtain ⟨i, hi, ei⟩ := List.getElem_of_mem z
                have ei' : (ρ1.lc.set l none)[i]? = some (some p) := by
                  have q := List.getElem?_eq_getElem hi
                  rw [ei] at q
                  exact q
                by_cases hli : l = i
                · subst hli
                  rw [List.getElem?_set_self hl] at ei'; cases ei'
                · rw [List.getElem?_set_ne hli] at ei'
                  exact hli (a1.1.inj l i p hp ei')
              · exact a1.1.apart p (List.mem_of_getElem? hp) z
            exact q1 (ρ1.drop l) H1 _ .drop a1.1.drop (.v (.lst (.inl ⟨.inl h1, n⟩) (h2.grow .drop)))
      | dead => exact q1.elim
      | dct _ => exact q1.elim
      | kd kvs => exact q1.elim
      | ld kvs => exact q1.elim
      | set kvs => exact q1.elim
      | tab P q => exact q1.elim
theorem de_frz (h : PE X e (tE X.kw ct E f)) : PE X e (tE X.kw ct E (eFrz f)) := PE.of h fun σ H Q q => frz_read q
end
end Jv
end
section
namespace Jv
open PySem PySem.Spec L2 PyProof.Rows

/-! ### a def that is called where no repr is under way -/
structure FnG (P : Program) (w : World) (K : PySem.W.Frag) (mg : Str → Option Value) (base : Heap) (CX : CXT) (k : Nat) (f : Addr) (fd : FuncData) (ps : List Str) (sp : Sp) : Prop where
  len : ∀ vs H Q E, sp vs H Q E → vs.length = ps.length
  run : ∀ (A : Around) (outer : List PySem.Env) (s : Shared) (H : Hp) (args : Args) (us : List Value) (vs : List V) (Q : VK) (E : XK),
    A.guards = some [] → Room k A → Env0 P w K mg base A outer s H → BindsTo s fd args (ps.zip us) → Vals vs us → sp vs H Q E →
    codeAny (model P w) A (.call (.ref f) args) (CR CX outer P w H s Q E) s
theorem FnG.mono {P : Program} {w : World} {K : PySem.W.Frag} {mg : Str → Option Value} {base : Heap} {CX : CXT} {j k : Nat} {f : Addr} {fd : FuncData} {ps : List Str} {sp : Sp} (F : FnG P w K mg base CX j f fd ps sp) (h : j ≤ k) :
    FnG P w K mg base CX k f fd ps sp := ⟨F.len, fun A outer s H args us vs Q E hg hr => F.run A outer s H args us vs Q E hg (Room.mono hr h)⟩
section
variable {X : Cx} {CX : CXT} {k : Nat} {f : Addr} {fd : FuncData} {ps : List Str} {sp : Sp} {E : XK} {x : Str} {p pos : Pos} {e : Expr} {es : List Expr} {t : TA}
theorem run_g {pins : List (Addr × Obj)} {σ : St} {H : Hp} {s : Shared} {Q : VK} {us : List Value} {vs : List V} (F : FnG X.prog X.w X.K X.mg X.base CX k f fd ps sp)
    (gd : X.A.guards = some []) (hr : Room k X.A) (hb : Binds X.K fd ps []) (hx : PassesAt CX X σ E) (I : Inv X pins σ H s) (r : Vals vs us) (h : sp vs H Q E) :
    wpAny (model X.prog X.w) X.A (call (.ref f) us) (EP X pins σ Q) X.xe s := by
  have n : us.length = ps.length := r.length.symm.trans (F.len _ _ _ _ h)
  have b := hb s us I.kIn (by rw [List.append_nil]; exact n)
  rw [List.append_nil] at b
  apply wpAny_call
  refine codeAny_mono (F.run X.A X.stack s H ⟨us, []⟩ us vs Q E gd hr I.env0 b r h) ?_
  rintro (e | (_ | _ | _ | u)) s' q
  · exact hx pins H s e s' I q
  · exact q.elim
  · exact q.elim
  · exact q.elim
  · exact I.after q
/-- f(..) -/
def tCallG (sp : Sp) (E : St → XK) (t : TA) : TE := fun σ H Q => t σ H fun vs H1 => sp vs H1 Q (E σ)
theorem pe_callG {E : St → XK} (F : FnG X.prog X.w X.K X.mg X.base CX k f fd ps sp) (gd : X.A.guards = some []) (hr : Room k X.A) (hg : Gl X x) (hm : X.mg x = some (.ref f)) (hk : PySem.W.keepIn X.K (.ref f) = true)
    (hb : Binds X.K fd ps []) (hx : ∀ σ, PassesAt CX X σ (E σ)) (ha : PA X (e :: es) t) (hdb : (x == ("__debug__" : Str)) = false := by decide)
    (he : starEach (e :: es) X.env = (false, eval e X.env) :: starEach es X.env := by rfl) (hpl : (backTo pos (starEach es X.env)).any (·.1) = false := by rfl) :
    PE X (.Call (.Name x p) (e :: es) [] pos) (tCallG sp E t) := ⟨fun pins s σ H Q I h => by
  apply wpAny_Call_Name_kw
  refine ld_glob I hg hm ?_ hdb
  refine PySem.W.callWith_K (h₀ := X.base) I.ok.mod.kin hk ?_ he hpl
  refine thn (ha.run pos pins s σ H _ I h) ?_
  rintro us s1 ⟨vs, H1, I1, r, q⟩
  exact ⟨I1.kIn, run_g F gd hr hb (hx σ) I1 r q⟩⟩
theorem pe_callG0 {E : St → XK} (F : FnG X.prog X.w X.K X.mg X.base CX k f fd ps sp) (gd : X.A.guards = some []) (hr : Room k X.A) (hg : Gl X x) (hm : X.mg x = some (.ref f)) (hk : PySem.W.keepIn X.K (.ref f) = true)
    (hb : Binds X.K fd ps []) (hx : ∀ σ, PassesAt CX X σ (E σ)) (hdb : (x == ("__debug__" : Str)) = false := by decide) :
    PE X (.Call (.Name x p) [] [] pos) (tCallG sp E tNil) := ⟨fun pins s σ H Q I h => by
  apply wpAny_Call_Name_kw
  refine ld_glob I hg hm ?_ hdb
  exact PySem.W.callWith_K0 I.kIn hk (run_g (us := []) F gd hr hb (hx σ) I .nil h)⟩
end

/-- a def by its body -/
theorem fnG_of {CX : CXT} {P : Program} {w : World} {K : PySem.W.Frag} {mg : Str → Option Value} {base : Heap} {k : Nat} {f : Addr} {x qual : Str} {st : Stmt} {fd : FuncData} {N ps : List Str} {sp : Sp}
    (F : Fun K x qual st f fd) (S : FnScope N ps (defScope st)) (len : ∀ vs H Q E, sp vs H Q E → vs.length = ps.length)
    (hbody : ∀ (cdv : Value) (A : Around) (outer : List PySem.Env) (s : Shared) (H : Hp) (vs : List V) (Q : VK) (E : XK), A.guards = some [] → Room k (A.deeper (envOfC qual (defScope st) s.heap.objs.size f cdv)) → sp vs H Q E →
      ∃ t, PSs (cxOf CX P w K mg base N qual (defScope st) f cdv A outer s H E) (defBody st) t ∧ t { nx := fun _ H' => Q .non H', rt := Q } (start N vs) H) :
    FnG P w K mg base CX (k + 1) f fd ps sp := by
  obtain ⟨oc, od, kV, doc, pm, an, cdv, ct, osl, rfl, lk, hcd⟩ := F.ex
  refine ⟨len, fun A outer s H args us vs Q E gd hr e0 hb r hsp => ?_⟩
  have hl := len _ _ _ _ hsp
  have KX : K.In s.heap := e0.mod.kin.keeps (fun b o e => (e0.bs b o e).1)
  have lim : s.heap.NoLimit := e0.mod.nolimit.keeps (fun b o e => (e0.bs b o e).1)
  refine codeAny_call_function hr.depth (KX _ _ lk) rfl S.co S.gen rfl (PySem.W.codeRec_of KX hcd) (hb _ _ _ _ ?_)
  refine wpAny_newFunctionEnv_cells S.kind ?_ (fun env he s1 y => ?_)
  · rintro ⟨n, v⟩ hy
    rcases S.par n (List.of_mem_zip hy).1 with q | q
    · exact .inl q
    · exact .inr ⟨q, PySem.W.cellsFrom_some _ _ _ (.inl q)⟩
  · subst he
    refine ⟨lim.keeps y.toInCall.keep, codeAny_func ?_⟩
    obtain ⟨t, ht, hq⟩ := hbody cdv A outer s H vs Q E gd (hr.deeper _) hsp
    have I : Inv (cxOf CX P w K mg base N qual (defScope st) f cdv A outer s H E) [] (start N vs) H s1 := inv_start S hr.hd e0 hl r y
    refine wpAny_mono (ht.run [] s1 (start N vs) H _ I hq) ?_ (fun e s' hs => hs)
    rintro (_ | _ | _ | u) s' hs
    · obtain ⟨σ', H', J, q⟩ := hs
      exact ⟨.non, H', J.os, J.bare, J.base, J.hok, rfl, q⟩
    · obtain ⟨_, _, _, q⟩ := hs
      exact q.elim
    · obtain ⟨_, _, _, q⟩ := hs
      exact q.elim
    · obtain ⟨v, σ', H', J, rv, q⟩ := hs
      exact ⟨v, H', J.os, J.bare, J.base, J.hok, rv, q⟩

/-- the law's own call, from the promise of its def -/
theorem law_callG {P : Program} {w : World} {K : PySem.W.Frag} {mg mb : Str → Option Value} {CX : CXT} {k : Nat} {fa a : Addr} {fd : FuncData} {x : Str} {sp : Sp} {s₁ : Shared} {vs : List Value} {ns : List Int}
    (KX : K.In s₁.heap) (hns : s₁.heap.Ns mainGlobals mg) (hb : s₁.heap.Ns builtinsNs mb) (hbb : ∀ x : Str, x ≠ "__name__" → mb x = bootBuiltins x) (hlim : s₁.heap.NoLimit) (hg : s₁.gens = #[])
    (ha : s₁.heap.get? a = some { cls := .type "list", data := .seq vs.toArray }) (hi : IntsAre vs ns) (hl : ns.length ≤ sizeLine) (hr : Room k callerA)
    (F : ∀ base : Heap, K.In base → base.Ns mainGlobals mg → FnG P w K mg base CX k fa fd [x] sp) (hbind : ∀ (s : Shared) (u : Value), BindsTo s fd ⟨[u], []⟩ [(x, u)])
    (hsp : ∀ H : Hp, Only H → SqL K H a (ns.map V.int) → sp [.ref a] H (fun v _ => v = .bl true) fun _ _ _ => False) (hCX : ∀ H e s', CX [] H s₁ (fun _ _ _ => False) e s' → False) :
    codeAny (model P w) callerA (.call (.ref fa) ⟨[.ref a], []⟩) (fun r s' => r = .ok (.ret (.bool true)) ∧ OldK s₁.heap s'.heap ∧ s'.os = s₁.os ∧ AllBare s'.gens) s₁ := by
  -- a heap that tracks the script at most
  have go : ∀ H : Hp, Only H → SqL K H a (ns.map V.int) → HOk P w H s₁.heap → (∀ b, H b ≠ none → b = a) → (H a ≠ none → K.lookup a = none) →
      codeAny (model P w) callerA (.call (.ref fa) ⟨[.ref a], []⟩) (fun r s' => r = .ok (.ret (.bool true)) ∧ OldK s₁.heap s'.heap ∧ s'.os = s₁.os ∧ AllBare s'.gens) s₁ := by
    intro H hO hS hok hA hK
    have free : ∀ b : Addr, b ≠ a → H b = none := fun b h => Classical.byContradiction fun q => h (hA b q)
    have ns' : ∀ {b : Addr} {m : Str → Option Value}, s₁.heap.Ns b m → (hidT s₁.heap H).Ns b m := by
      rintro b m ⟨o, es, ep, e, d, r⟩
      refine ⟨o, es, ep, hidT_get e (free b ?_), d, r⟩
      rintro rfl
      rw [ha] at e
      cases e
      cases d
    have hKb : K.In (hidT s₁.heap H) := by
      intro b o e
      refine hidT_get (KX b o e) ?_
      by_cases q : b = a
      · subst q
        exact Classical.byContradiction fun z => by rw [hK z] at e; cases e
      · exact free b q
    have hM : Mod K mg (hidT s₁.heap H) := ⟨hKb, ns' hns, ⟨mb, ns' hb, hbb⟩, let ⟨mc, h1, h2⟩ := hlim; ⟨mc, ns' h1, h2⟩⟩
    have e0 : Env0 P w K mg (hidT s₁.heap H) callerA [] s₁ H := ⟨rfl, hM, fun b o e => of_hidT e, Nat.le_of_eq (hidT_size _ _), trivial, fun b z => absurd (show b ∈ ([] : List Addr) from z) (by simp), hok, .of_eq hg⟩
    refine codeAny_mono ((F _ hKb (ns' hns)).run callerA [] s₁ H ⟨[.ref a], []⟩ [.ref a] [.ref a] _ _ rfl hr e0 (hbind s₁ (.ref a)) (.cons rfl .nil) (hsp H hO hS)) ?_
    rintro (e | (_ | _ | _ | u)) s' h
    · exact (hCX H e s' h).elim
    · exact h.elim
    · exact h.elim
    · exact h.elim
    · obtain ⟨v, H', os, bare, un, hok', r', q⟩ := h
      cases (show v = .bl true from q)
      cases (show u = Value.bool true from r')
      refine ⟨rfl, OldK.of_keep fun b o e => ?_, os, bare⟩
      rcases hO b with z | ⟨ob, xs, z⟩
      · exact un.keep b o e z (fun y => absurd (show b ∈ ([] : List Addr) from y) (by simp)) (by simp)
      · obtain ⟨e1, _⟩ := hok b _ z
        obtain ⟨e2, _⟩ := hok' b _ (un.frzs b ob _ z)
        rw [e] at e1
        cases e1
        exact e2
  have rv := vals_ints hi
  cases hk : K.lookup a with
  | some o =>
    have e := KX a o hk
    rw [ha] at e
    cases e
    refine go (fun _ => none) (fun _ => .inl rfl) (.inr ⟨_, vs.toArray, _, hk, rfl, rfl, rfl, ?_, by simpa using rv⟩) (fun b u z => nomatch z) (fun b z => absurd rfl z) (fun z => absurd rfl z)
    rw [List.size_toArray, hi.length]
    exact hl
  | none =>
    refine go (upd (fun _ => none) a (.frz { cls := .type "list", data := .seq vs.toArray } (.lst (ns.map V.int)))) (fun b => ?_) (.inl (.inr ⟨_, upd_same⟩)) (fun b u z => ?_) (fun b z => ?_) (fun _ => hk)
    · by_cases q : b = a
      · subst q; exact .inr ⟨_, _, upd_same⟩
      · exact .inl (upd_ne q)
    · by_cases q : b = a
      · subst q
        rw [upd_same] at z
        cases z
        exact ⟨ha, by rw [List.length_map]; exact hl, vs, _, rv, ha⟩
      · rw [upd_ne q] at z
        cases z
    · exact Classical.byContradiction fun q => z (upd_ne q)

theorem walkG {l : PySem.W.OpenLaw} {n k : Nat} {q : Program} {loose : List Str} {XP : (Str → Option Value) → Heap → Prop} {YP : World → Heap → Prop} {d : DefRec} {CX : CXT} {x : Str}
    (hn : l.most = some n) (hn2 : n ≤ sizeLine) (hdf : d.params.defaults = []) (hr : Room k callerA)
    (F : ∀ (w : World) (mg : Str → Option Value) (fa : Addr) (h : Heap), YP w h → h.Ns mainGlobals mg → mg d.name = some (.ref fa) →
      ∃ (K : PySem.W.Frag) (fd : FuncData) (sp : Sp), K.In h ∧ (∀ (s : Shared) (u : Value), BindsTo s fd ⟨[u], []⟩ [(x, u)]) ∧
        (∀ (H : Hp) (a : Addr) (ns : List Int), ns.length ≤ n → Only H → SqL K H a (ns.map V.int) → sp [.ref a] H (fun v _ => v = .bl true) fun _ _ _ => False) ∧
        ∀ base : Heap, K.In base → base.Ns mainGlobals mg → FnG l.prog w K mg base CX k fa fd [x] sp)
    (hCX : ∀ (H : Hp) (s : Shared) (e : Value) (s' : Shared), CX [] H s (fun _ _ _ => False) e s' → False) :
    PySem.W.WalkO q loose XP YP l.row.toRowW d [] (fun f vs => PySem.call f vs) := by
  refine Att.attach_call hn hdf ?_
  intro w s₀ s₁ mg mb fa o pm cd doc a vs ns G Y ho hd hcd hmg hobj hints hlen hg
  obtain ⟨K, fd, sp, KX, hb, hsp, hF⟩ := F w mg fa _ Y G.T.g hmg
  exact law_callG KX G.T.g G.T.b G.T.builtins G.T.nolimit hg hobj hints (Nat.le_trans hlen hn2) hr hF hb (fun H hO hS => hsp H a ns hlen hO hS) (fun H e s' => hCX H s₁ e s')
end Jv
end
section
namespace Jv
open PySem PySem.Spec L2 PyProof.Rows

/-! ### statements: what they come to -/
inductive Fl where
  | nx (env : Env) (st : Sto) | rt (w : W) (st : Sto) | bk (env : Env) (st : Sto) | ct (env : Env) (st : Sto) | exc (env : Env) (x : Xc) (st : Sto) | bad
abbrev SD := Env → Sto → Fl
def okS (K : KW) (ct : Nat → Value) (ρ : Rho) (H : Hp) (E : St → XK) (Dn : Ends) : Fl → Prop
  | .nx env' st' => ∀ ρ' H' σ', Grow ρ H ρ' H' → At K ρ' H' st' σ' env' → Dn.nx σ' H'
  | .rt w st' => ∀ ρ' H' v, Grow ρ H ρ' H' → RelSt K ρ' H' st' → Rw K ρ' H' v w → Dn.rt v H'
  | .bk env' st' => ∀ ρ' H' σ', Grow ρ H ρ' H' → At K ρ' H' st' σ' env' → Dn.bk σ' H'
  | .ct env' st' => ∀ ρ' H' σ', Grow ρ H ρ' H' → At K ρ' H' st' σ' env' → Dn.ct σ' H'
  | .exc env' x st' => ∀ ρ' H' σ' cv od, Grow ρ H ρ' H' → At K ρ' H' st' σ' env' → XRl K ct ρ' H' cv od x → E σ' cv od H'
  | .bad => False
def tS (K : KW) (ct : Nat → Value) (E : St → XK) (f : SD) : TS := fun Dn σ H => ∃ ρ st env, At K ρ H st σ env ∧ okS K ct ρ H E Dn (f env st)
theorem okS.grow {K : KW} {ct : Nat → Value} {ρ ρ1 : Rho} {H H1 : Hp} {E : St → XK} {Dn : Ends} {r : Fl} (g : Grow ρ H ρ1 H1) (h : okS K ct ρ H E Dn r) : okS K ct ρ1 H1 E Dn r := by
  cases r with
  | nx e s => exact fun ρ' H' σ' g' => h ρ' H' σ' (g.trans g')
  | rt e s => exact fun ρ' H' σ' g' => h ρ' H' σ' (g.trans g')
  | bk e s => exact fun ρ' H' σ' g' => h ρ' H' σ' (g.trans g')
  | ct e s => exact fun ρ' H' σ' g' => h ρ' H' σ' (g.trans g')
  | exc e x s => exact fun ρ' H' σ' cv od g' => h ρ' H' σ' cv od (g.trans g')
  | bad => exact h
/-- an expression first -/
def R.thenS {α : Type} (r : R α) (env : Env) (k : α → Sto → Fl) : Fl := match r with
  | .ok a st => k a st
  | .exc x st => .exc env x st
  | .bad => .bad
@[simp] theorem R.thenS_ok {α : Type} (a : α) (st : Sto) (env : Env) (k : α → Sto → Fl) : (R.ok a st).thenS env k = k a st := rfl
@[simp] theorem R.thenS_exc {α : Type} (x : Xc) (st : Sto) (env : Env) (k : α → Sto → Fl) : (R.exc x st : R α).thenS env k = .exc env x st := rfl
@[simp] theorem R.thenS_bad {α : Type} (env : Env) (k : α → Sto → Fl) : (R.bad : R α).thenS env k = .bad := rfl
theorem okS.first {K : KW} {ct : Nat → Value} {α β : Type} {rel : Rel β α} {ρ : Rho} {H : Hp} {E : St → XK} {Dn : Ends} {r : R α} {env : Env} {σ : St} {k : α → Sto → Fl} (h : okS K ct ρ H E Dn (r.thenS env k)) (he : RelEnv K ρ H σ env) :
    okG K ct rel ρ H (E σ) (fun b H1 => ∃ ρ1 st1 a, At K ρ1 H1 st1 σ env ∧ Grow ρ H ρ1 H1 ∧ rel K ρ1 H1 b a ∧ okS K ct ρ1 H1 E Dn (k a st1)) r := by
  cases r with
  | ok a st' => exact fun ρ1 H1 b g s r => ⟨ρ1, st', a, ⟨s, he.grow g⟩, g, r, okS.grow g h⟩
  | exc x st' => exact fun ρ1 H1 cv od g s r => h ρ1 H1 σ cv od g ⟨s, he.grow g⟩ r
  | bad => exact h.elim

/-! ### defs -/
def noX {α : Type} : R α → R α
  | .exc _ _ => .bad
  | r => r
@[simp] theorem noX_ok {α : Type} (a : α) (st : Sto) : noX (.ok a st) = .ok a st := rfl
@[simp] theorem noX_bad {α : Type} : noX (.bad : R α) = .bad := rfl
def fin (n : Nat) : Fl → R W
  | .nx _ st' => .ok (.v .non) (st'.take n)
  | .rt (.v d) st' => .ok (.v d) (st'.take n)
  | .rt (.r l) st' => if l < n then .ok (.r l) (st'.take n) else .ok (.r l) st'
  | .exc _ x st' => .exc x (st'.take n)
  | _ => .bad
def envOf (n : Nat) (ws : List W) : Env := ws.map some ++ List.replicate (n - ws.length) none
def runS (n : Nat) (f : SD) : List W → Sto → R W := fun ws st => fin st.length (f (envOf n ws) st)
def spG (K : KW) (ct : Nat → Value) (n : Nat) (run : List W → Sto → R W) : Sp := fun vs H Q E => ∃ ρ st ws, RelSt K ρ H st ∧ RwAll K ρ H vs ws ∧ vs.length = n ∧ okG K ct Rw ρ H E Q (run ws st)
theorem relEnv_start {K : KW} {ρ : Rho} {H : Hp} {N : List Str} {vs : List V} {ws : List W} (r : RwAll K ρ H vs ws) : RelEnv K ρ H (start N vs) (envOf N.length ws) := by
  have hl := r.length
  refine ⟨by simp [L2.start, envOf, hl], fun i d e => ?_⟩
  unfold envOf at e
  by_cases hi : i < ws.length
  · rw [List.getElem?_append_left (by simpa using hi), List.getElem?_map] at e
    cases q : ws[i]? with
    | none => rw [q] at e; cases e
    | some w =>
      rw [q] at e
      cases e
      obtain ⟨v, hv, rv⟩ := r.getD q
      refine ⟨v, ?_, rv⟩
      unfold L2.start
      rw [List.getElem?_append_left (by simpa [hl] using hi), List.getElem?_map, hv]
      rfl
  · rw [List.getElem?_append_right (by simpa using hi), List.getElem?_replicate] at e
    split at e <;> cases e
theorem fin_ok {K : KW} {ct : Nat → Value} {ρ : Rho} {H : Hp} {st : Sto} {E : XK} {Q : VK} {r : Fl} (s : RelSt K ρ H st) (h : okG K ct Rw ρ H E Q (fin st.length r)) :
    okS K ct ρ H (fun _ => E) { nx := fun _ H' => Q .non H', rt := Q } r := by
  have hn : ρ.lc.length ≤ st.length := Nat.le_of_eq s.len
  cases r with
  | nx env' st' => exact fun ρ' H' σ' g a => h (ρ'.cut st.length) H' .non (g.cut hn) (a.1.cut _) (.v .non)
  | rt w st' =>
    intro ρ' H' v g s' r
    cases w with
    | v d => exact h (ρ'.cut st.length) H' v (g.cut hn) (s'.cut _) (r.cut trivial)
    | r l =>
      simp only [fin] at h
      split at h
      · rename_i hl
        exact h (ρ'.cut st.length) H' v (g.cut hn) (s'.cut _) (r.cut hl)
      · exact h ρ' H' v g s' r
  | exc env' x st' =>
    intro ρ' H' σ' cv od g a r
    refine h (ρ'.cut st.length) H' cv od (g.cut hn) (a.1.cut _) ⟨r.1, ?_⟩
    have r2 := r.2
    cases od with
    | none => exact r2
    | some d => obtain ⟨vs, h1, h2, h3⟩ := r2; exact ⟨vs, h1, h2, h3.cut _⟩
  | bk _ _ => exact h.elim
  | ct _ _ => exact h.elim
  | bad => exact h.elim
/-- a def of which errors may leave -/
theorem fn_den {CX : CXT} {P : Program} {w : World} {K : PySem.W.Frag} {mg : Str → Option Value} {base : Heap} {ct : Nat → Value} {k : Nat} {f : Addr} {x qual : Str} {st : Stmt} {fd : FuncData} {N ps : List Str} {den : SD}
    (F : Fun K x qual st f fd) (S : FnScope N ps (defScope st))
    (body : ∀ (cdv : Value) (A : Around) (outer : List PySem.Env) (s : Shared) (H : Hp) (E : XK), A.guards = some [] → Room k (A.deeper (envOfC qual (defScope st) s.heap.objs.size f cdv)) →
      PSs (cxOf CX P w K mg base N qual (defScope st) f cdv A outer s H E) (defBody st) (tS ⟨K, w, mg⟩ ct (fun _ => E) den)) :
    FnG P w K mg base CX (k + 1) f fd ps (spG ⟨K, w, mg⟩ ct ps.length (runS N.length den)) := by
  refine fnG_of F S (fun vs H Q E ⟨_, _, _, _, _, h, _⟩ => h) fun cdv A outer s H vs Q E gd hr ⟨ρ, st', ws, rs, rw', hl, h⟩ => ⟨_, body cdv A outer s H E gd hr, ?_⟩
  exact ⟨ρ, st', _, ⟨rs, relEnv_start rw'⟩, fin_ok rs h⟩
/-- a def that lets no error out -/
theorem fn_den0 {P : Program} {w : World} {K : PySem.W.Frag} {mg : Str → Option Value} {base : Heap} {ct : Nat → Value} {k : Nat} {f : Addr} {x qual : Str} {st : Stmt} {fd : FuncData} {N ps : List Str} {den : SD}
    (F : Fun K x qual st f fd) (S : FnScope N ps (defScope st))
    (body : ∀ (cdv : Value) (A : Around) (outer : List PySem.Env) (s : Shared) (H : Hp) (E : XK), A.guards = some [] → Room k (A.deeper (envOfC qual (defScope st) s.heap.objs.size f cdv)) →
      PSs (cxOf CX0 P w K mg base N qual (defScope st) f cdv A outer s H E).nox (defBody st) (tS ⟨K, w, mg⟩ ct (fun _ => E0) den)) :
    FnG P w K mg base CX0 (k + 1) f fd ps (spG ⟨K, w, mg⟩ ct ps.length fun ws st => noX (runS N.length den ws st)) := by
  refine fnG_of F S (fun vs H Q E ⟨_, _, _, _, _, h, _⟩ => h) fun cdv A outer s H vs Q E gd hr ⟨ρ, st', ws, rs, rw', hl, h⟩ => ⟨_, (body cdv A outer s H E gd hr).nox, ?_⟩
  refine ⟨ρ, st', _, ⟨rs, relEnv_start rw'⟩, fin_ok rs ?_⟩
  show okG ⟨K, w, mg⟩ ct Rw ρ H E0 Q (runS N.length den ws st')
  replace h : okG ⟨K, w, mg⟩ ct Rw ρ H E Q (noX (runS N.length den ws st')) := h
  cases e : runS N.length den ws st' with
  | ok a b => rw [e] at h; exact h
  | exc a b => rw [e] at h; exact h.elim
  | bad => rw [e] at h; exact h.elim

/-! ### calls -/
def eCall (run : List W → Sto → R W) (g : AD) : ED := fun env st => (g env st).bind run
section
variable {X : Cx} {ct : Nat → Value} {E : St → XK} {CX : CXT} {k : Nat} {f : Addr} {fd : FuncData} {ps : List Str} {n : Nat} {run : List W → Sto → R W} {x : Str} {p pos : Pos} {e : Expr} {es : List Expr} {g : AD}
theorem len_of {K : KW} {σ : St} {H : Hp} {Q : VK} (hn : ∀ env st ws st', g env st = .ok ws st' → ws.length = n) (h : tE K ct E (eCall run g) σ H Q) : tCallG (spG K ct n run) E (tA K ct E g) σ H Q := by
  obtain ⟨ρ, st, env, a, h⟩ := h
  refine ⟨ρ, st, env, a, ?_⟩
  unfold eCall at h
  cases eg : g env st with
  | ok ws st1 =>
    rw [eg] at h
    exact fun ρ1 H1 vs gr s r => ⟨ρ1, st1, ws, s, r, r.length.trans (hn _ _ _ _ eg), okG.grow gr h⟩
  | exc x st' => rw [eg] at h; exact h
  | bad => rw [eg] at h; exact h.elim
theorem de_call (F : FnG X.prog X.w X.K X.mg X.base CX k f fd ps (spG X.kw ct n run)) (gd : X.A.guards = some []) (hr : Room k X.A) (hg : Gl X x) (hm : X.mg x = some (.ref f)) (hk : PySem.W.keepIn X.K (.ref f) = true)
    (hb : Binds X.K fd ps []) (hx : ∀ σ, PassesAt CX X σ (E σ)) (hn : ∀ env st ws st', g env st = .ok ws st' → ws.length = n) (ha : PA X (e :: es) (tA X.kw ct E g)) (hdb : (x == ("__debug__" : Str)) = false := by decide)
    (he : starEach (e :: es) X.env = (false, eval e X.env) :: starEach es X.env := by rfl) (hpl : (backTo pos (starEach es X.env)).any (·.1) = false := by rfl) :
    PE X (.Call (.Name x p) (e :: es) [] pos) (tE X.kw ct E (eCall run g)) := PE.of (pe_callG F gd hr hg hm hk hb hx ha hdb he hpl) fun σ H Q h => len_of hn h
theorem de_call0 (F : FnG X.prog X.w X.K X.mg X.base CX k f fd ps (spG X.kw ct 0 run)) (gd : X.A.guards = some []) (hr : Room k X.A) (hg : Gl X x) (hm : X.mg x = some (.ref f)) (hk : PySem.W.keepIn X.K (.ref f) = true)
    (hb : Binds X.K fd ps []) (hx : ∀ σ, PassesAt CX X σ (E σ)) (hdb : (x == ("__debug__" : Str)) = false := by decide) :
    PE X (.Call (.Name x p) [] [] pos) (tE X.kw ct E (eCall run aNil)) := PE.of (pe_callG0 F gd hr hg hm hk hb hx hdb) fun σ H Q ⟨ρ, st, env, a, h⟩ => ⟨ρ, st, [], a.1, .nil, rfl, h⟩
theorem pass00 {X : Cx} {E : St → XK} : ∀ σ, PassesAt CX0 X σ (E σ) := fun _ _ _ _ _ _ _ h => h.elim
end
theorem aNil_len : ∀ env st ws st', aNil env st = .ok ws st' → ws.length = 0 := fun env st ws st' e => by unfold aNil at e; cases e; rfl
theorem aCons_len {f : ED} {g : AD} {n : Nat} (h : ∀ env st ws st', g env st = .ok ws st' → ws.length = n) : ∀ env st ws st', aCons f g env st = .ok ws st' → ws.length = n + 1 := fun env st ws st' e => by
  unfold aCons at e
  cases e1 : f env st with
  | ok w st1 =>
    rw [e1] at e
    simp only [R.bind_ok] at e
    cases e2 : g env st1 with
    | ok ws2 st2 => rw [e2] at e; cases e; simp [h _ _ _ _ e2]
    | exc x s => rw [e2] at e; cases e
    | bad => rw [e2] at e; cases e
  | exc x s => rw [e1] at e; cases e
  | bad => rw [e1] at e; cases e

/-! ### built-ins by values -/
abbrev B1 := Sto → List W → Option D
def eBlt (g : B1) (f : AD) : ED := fun env st => (f env st).bind fun ws st => ofOp st (g st ws)
def rA (K : KW) (g : B1) : List V → Hp → VK → Prop := fun xs H Q => ∃ ρ st ws d, RelSt K ρ H st ∧ RwAll K ρ H xs ws ∧ g st ws = some d ∧ ∀ H' v, Same H H' → Rl K ρ H' v d → Q v H'
abbrev BF := Sto → List W → Option (List D)
def lBlt (g : BF) (f : AD) : LD := fun env st => (f env st).bind fun ws st => match g st ws with
  | some ds => .ok ds st
  | none => .bad
def rF (K : KW) (g : BF) : List V → Hp → VK → Prop := fun xs H Q => ∃ ρ st ws ds, RelSt K ρ H st ∧ RwAll K ρ H xs ws ∧ g st ws = some ds ∧ ∀ p ys, H p = none → RlAll K ρ H ys ds → Q (.ref p) (upd H p (.lst ys))
section
variable {X : Cx} {ct : Nat → Value} {E : St → XK} {x : Str} {p pos : Pos} {e : Expr} {es : List Expr} {g : AD} {id T : String} {b : B1} {bf : BF}
theorem blt_read {K : KW} {σ : St} {H : Hp} {Q : VK} (h : tE K ct E (eBlt b g) σ H Q) : tCB (rA K b) (tA K ct E g) σ H Q := by
  refine (tG.bind (rel := RwAll) (k := fun ws _ st => ofOp st (b st ws)) h).mono fun vs H1 ⟨ρ1, st1, env, ws, a1, r1, q1⟩ => ?_
  cases e : b st1 ws with
  | none => rw [e] at q1; exact q1.elim
  | some d => rw [e] at q1; exact ⟨ρ1, st1, ws, d, a1.1, r1, e, fun H' v s r => okG.up q1 a1.1 s (.v r)⟩
theorem bltF_read {K : KW} {σ : St} {H : Hp} {Q : VK} (h : tF K ct E (lBlt bf g) σ H Q) : tCB (rF K bf) (tA K ct E g) σ H Q := by
  obtain ⟨ρ, st, env, a, h⟩ := h
  refine ⟨ρ, st, env, a, ?_⟩
  unfold lBlt at h
  cases eg : g env st with
  | ok ws st1 =>
    rw [eg] at h
    intro ρ1 H1 vs gr s r
    simp only [R.bind_ok] at h
    cases e : bf st1 ws with
    | none => simp only [e] at h; exact h.elim
    | some ds => simp only [e] at h; exact ⟨ρ1, st1, ws, ds, s, r, e, fun p ys hp ry => h ρ1 H1 p ys gr s hp ry⟩
  | exc x st' => rw [eg] at h; exact h
  | bad => rw [eg] at h; exact h.elim
theorem de_callB (hc : CallR X (.builtin id) (rA X.kw b)) (hg : Gl X x) (hm : X.mg x = none) (hv : bootBuiltins x = some (.builtin id)) (ha : PA X (e :: es) (tA X.kw ct E g)) (hn : x ≠ "__name__" := by decide) (hdb : (x == ("__debug__" : Str)) = false := by decide)
    (he : starEach (e :: es) X.env = (false, eval e X.env) :: starEach es X.env := by rfl) (hpl : (backTo pos (starEach es X.env)).any (·.1) = false := by rfl) : PE X (.Call (.Name x p) (e :: es) [] pos) (tE X.kw ct E (eBlt b g)) :=
  PE.of (pe_callB hc hg hm hv ha hn hdb he hpl) fun σ H Q h => blt_read h
theorem de_callT (hc : CallR X (.type T) (rA X.kw b)) (hg : Gl X x) (hm : X.mg x = none) (hv : bootBuiltins x = some (.type T)) (ha : PA X (e :: es) (tA X.kw ct E g)) (hn : x ≠ "__name__" := by decide) (hdb : (x == ("__debug__" : Str)) = false := by decide)
    (he : starEach (e :: es) X.env = (false, eval e X.env) :: starEach es X.env := by rfl) (hpl : (backTo pos (starEach es X.env)).any (·.1) = false := by rfl) : PE X (.Call (.Name x p) (e :: es) [] pos) (tE X.kw ct E (eBlt b g)) :=
  PE.of (pe_callTy hc hg hm hv ha hn hdb he hpl) fun σ H Q h => blt_read h
theorem df_callT (hc : CallR X (.type T) (rF X.kw bf)) (hg : Gl X x) (hm : X.mg x = none) (hv : bootBuiltins x = some (.type T)) (ha : PA X (e :: es) (tA X.kw ct E g)) (hn : x ≠ "__name__" := by decide) (hdb : (x == ("__debug__" : Str)) = false := by decide)
    (he : starEach (e :: es) X.env = (false, eval e X.env) :: starEach es X.env := by rfl) (hpl : (backTo pos (starEach es X.env)).any (·.1) = false := by rfl) : PE X (.Call (.Name x p) (e :: es) [] pos) (tF X.kw ct E (lBlt bf g)) :=
  PE.of (pe_callTy hc hg hm hv ha hn hdb he hpl) fun σ H Q h => bltF_read h
theorem df_callB (hc : CallR X (.builtin id) (rF X.kw bf)) (hg : Gl X x) (hm : X.mg x = none) (hv : bootBuiltins x = some (.builtin id)) (ha : PA X (e :: es) (tA X.kw ct E g)) (hn : x ≠ "__name__" := by decide) (hdb : (x == ("__debug__" : Str)) = false := by decide)
    (he : starEach (e :: es) X.env = (false, eval e X.env) :: starEach es X.env := by rfl) (hpl : (backTo pos (starEach es X.env)).any (·.1) = false := by rfl) : PE X (.Call (.Name x p) (e :: es) [] pos) (tF X.kw ct E (lBlt bf g)) :=
  PE.of (pe_callB hc hg hm hv ha hn hdb he hpl) fun σ H Q h => bltF_read h
end
/-- len -/
def lenB : B1
  | st, [w] => match w with
    | .v (.str x) => if x.length ≤ 100000 then some (.int x.length) else none
    | .v (.tup ds) => some (.int ds.length)
    | w => (asLst st w).map fun ds => .int ds.length
  | _, _ => none
def tyN (st : Sto) : W → Option String
  | .v .non => some "NoneType"
  | .v (.bl _) => some "bool"
  | .v (.int _) => some "int"
  | .v (.str _) => some "str"
  | .v (.tup _) => some "tuple"
  | .v (.lst _) => some "list"
  | .v (.dct []) => some "dict"
  | .r l => match st[l]? with
    | some (.lst _) => some "list"
    | some (.dct _) => some "dict"
    | _ => none
  | _ => none
def isSub (t n : String) : Option Bool :=
  if n ∈ ["str", "tuple", "bool", "int", "list", "dict"] then some (t == n || (t == "bool" && n == "int")) else none
/-- isinstance(x, T) -/
def isiB : B1
  | st, [w, .v (.ty n)] => (tyN st w).bind fun t => (isSub t n).map .bl
  | _, _ => none
def allBl : List D → Option (List Bool)
  | [] => some []
  | .bl b :: r => (allBl r).map (b :: ·)
  | _ :: _ => none
def allB : B1
  | st, [w] => (asLst st w).bind fun ds => (allBl ds).map fun bs => .bl (bs.all id)
  | _, _ => none
def anyB : B1
  | st, [w] => (asLst st w).bind fun ds => (allBl ds).map fun bs => .bl (bs.any id)
  | _, _ => none
def intB : B1
  | _, [.v (.int i)] => some (.int i)
  | _, [.v (.bl b)] => some (.int (if b then 1 else 0))
  | _, _ => none
def minB : B1
  | _, [.v (.int i), .v (.int j)] => some (.int (if j < i then j else i))
  | _, _ => none
def tupleB : B1
  | st, [w] => match w with
    | .v (.tup ds) => some (.tup ds)
    | w => (asLst st w).map .tup
  | _, _ => none
/-- list(x) -/
def listF : BF
  | st, [w] => match w with
    | .v (.tup ds) => some ds
    | w => asLst st w
  | _, _ => none
/-- repr(x) of data -/
def reprB : B1
  | st, [w] => if SeqAt.shaped (deref st w).py && (deref st w).py.showable && decide ((deref st w).py.shown.length ≤ 1000000) then some (.str (deref st w).py.shown) else none
  | _, _ => none
section
variable {X : Cx} {K : KW} {ρ : Rho} {H : Hp}
theorem RwAll.one {xs : List V} {w : W} (h : RwAll K ρ H xs [w]) : ∃ v, xs = [v] ∧ Rw K ρ H v w := by
  cases h with | cons r t => cases t; exact ⟨_, rfl, r⟩
theorem RwAll.two {xs : List V} {w w' : W} (h : RwAll K ρ H xs [w, w']) : ∃ v v', xs = [v, v'] ∧ Rw K ρ H v w ∧ Rw K ρ H v' w' := by
  cases h with | cons r t => cases t with | cons r' t' => cases t'; exact ⟨_, _, rfl, r, r'⟩
theorem cb_len : CallR X (.builtin "len") (rA X.kw lenB) := by
  intro pins s σ H xs us Q I rr h
  obtain ⟨ρ, st, ws, d, rs, r, e, q⟩ := h
  unfold lenB at e
  split at e
  · rename_i w0
    obtain ⟨v, rfl, rv⟩ := r.one
    split at e
    · split at e
      · rename_i hl
        cases e
        cases rv with | v rv => cases rv; exact call_len_str pins s σ H _ us Q I rr ⟨_, rfl, sl5 hl, q _ _ (.refl _) (.int _)⟩
      · cases e
    · cases e
      cases rv with
      | v rv =>
        cases rv with
        | tup h1 n1 q1 => exact call_len_seq pins s σ H _ us Q I rr ⟨_, _, rfl, .inr (.inl h1), by rw [q1.length]; exact q _ _ (.refl _) (.int _)⟩
    · cases ea : asLst st w0 with
      | none => rw [ea] at e; cases e
      | some ds =>
        rw [ea] at e
        cases e
        obtain ⟨a, ys, rfl, h1, h2⟩ := lst_of rs rv ea
        exact call_len_seq pins s σ H _ us Q I rr ⟨_, _, rfl, .inl h1, by rw [h2.length]; exact q _ _ (.refl _) (.int _)⟩
  · cases e
theorem tyX_of {st : Sto} {v : V} {w : W} {t : String} (s : RelSt K ρ H st) (r : Rw K ρ H v w) (e : tyN st w = some t) : TyX K H v (.type t) := by
  cases r with
  | v r =>
    cases r with
    | non => cases e; exact .base .non
    | bl b => cases e; exact .base (.bl b)
    | int i => cases e; exact .base (.int i)
    | str x => cases e; exact .base (.str x)
    | ty n => cases e
    | tup h n q =>
      cases e
      rcases h with h | ⟨o, h⟩
      · exact .base (.tup h)
      · exact .fTuple h
    | lst h q =>
      cases e
      rcases h with ⟨h | ⟨o, h⟩, n⟩ | ⟨o, its, n, h1, h2, _⟩
      · exact .base (.lst h)
      · exact .base (.frz h)
      · exact .kList h1 h2
    | dct0 h n => cases e; exact .base (.dK h)
    | kd h n o m r => cases e
    | ld h n o m r => cases e
    | adr a => cases e
    | tupx _ _ _ _ => cases e
    | exc0 h n m => cases e
    | excd h n m k k' f r => cases e
    | cod h n => cases e
  | @r l _ hl hq =>
    simp only [tyN] at e
    split at e
    · rename_i xs he
      cases e
      rcases s.obj l _ he with ⟨z, _⟩ | ⟨a, e1, xs', h1, h2⟩
      · cases z
      · cases hq a e1; exact .base (.lst h1)
    · rename_i xs he
      cases e
      rcases s.obj l _ he with ⟨z, _⟩ | ⟨a, e1, xs', h1, h2⟩
      · cases z
      · cases hq a e1; exact .base (.dK h1)
    · cases e
theorem kit_sub {t n : String} {b : Bool} (ht : t ∈ ["NoneType", "bool", "int", "str", "tuple", "list", "dict"]) (h : isSub t n = some b) : kitB t n = some b := by
  unfold isSub at h
  split at h
  · rename_i hn
    have all : ∀ t ∈ ["NoneType", "bool", "int", "str", "tuple", "list", "dict"], ∀ n ∈ ["str", "tuple", "bool", "int", "list", "dict"], kitB t n = some (t == n || (t == "bool" && n == "int")) := by decide +kernel
    rw [all t ht n hn]
    exact h
  · cases h
theorem tyN_mem {st : Sto} {w : W} {t : String} (e : tyN st w = some t) : t ∈ ["NoneType", "bool", "int", "str", "tuple", "list", "dict"] := by
  unfold tyN at e
  split at e
  any_goals (cases e; simp)
  all_goals try (split at e)
  any_goals (cases e; simp)
  all_goals cases e
theorem cb_isi : CallR X (.builtin "isinstance") (rA X.kw isiB) := by
  intro pins s σ H xs us Q I rr h
  obtain ⟨ρ, st, ws, d, rs, r, e, q⟩ := h
  unfold isiB at e
  split at e
  · rename_i w n
    obtain ⟨v, v', rfl, rv, rv'⟩ := r.two
    cases rv' with | v rv' =>
    cases rv'
    cases et : tyN st w with
    | none => rw [et] at e; cases e
    | some t =>
      rw [et] at e
      simp only [Option.bind_some] at e
      cases eb : isSub t n with
      | none => rw [eb] at e; cases e
      | some b =>
        rw [eb] at e
        cases e
        exact call_isi pins s σ H _ us Q I rr ⟨v, .ty n, .type t, .type n, b, rfl, .ty n, tyX_of rs rv et, kit_ty (kit_sub (tyN_mem et) eb), q _ _ (.refl _) (.bl _)⟩
  · cases e
theorem allBl_rl : ∀ {vs : List V} {ds : List D} {bs : List Bool}, RlAll K ρ H vs ds → allBl ds = some bs → vs = bs.map V.bl
  | _, _, _, .nil, e => by cases e; rfl
  | _, .bl b :: r, bs, .cons h t, e => by
    simp only [allBl] at e
    cases q : allBl r with
    | none => rw [q] at e; cases e
    | some bs' => rw [q] at e; cases e; cases h; rw [allBl_rl t q]; rfl
  | _, .non :: r, bs, .cons h t, e => by cases e
  | _, .int _ :: r, bs, .cons h t, e => by cases e
  | _, .str _ :: r, bs, .cons h t, e => by cases e
  | _, .tup _ :: r, bs, .cons h t, e => by cases e
  | _, .lst _ :: r, bs, .cons h t, e => by cases e
  | _, .dct _ :: r, bs, .cons h t, e => by cases e
  | _, .ty _ :: r, bs, .cons h t, e => by cases e
theorem cb_all (hc : X.calm = true) : CallR X (.builtin "all") (rA X.kw allB) := by
  intro pins s σ H xs us Q I rr h
  obtain ⟨ρ, st, ws, d, rs, r, e, q⟩ := h
  unfold allB at e
  split at e
  · rename_i w
    obtain ⟨v, rfl, rv⟩ := r.one
    cases ea : asLst st w with
    | none => rw [ea] at e; cases e
    | some ds =>
      rw [ea] at e
      simp only [Option.bind_some] at e
      cases eb : allBl ds with
      | none => rw [eb] at e; cases e
      | some bs =>
        rw [eb] at e
        cases e
        obtain ⟨a, ys, rfl, h1, h2⟩ := lst_of rs rv ea
        cases allBl_rl h2 eb
        exact cr_all hc pins s σ H _ us Q I rr ⟨a, bs, rfl, h1, q _ _ (.refl _) (.bl _)⟩
  · cases e
theorem cb_any (hc : X.calm = true) : CallR X (.builtin "any") (rA X.kw anyB) := by
  intro pins s σ H xs us Q I rr h
  obtain ⟨ρ, st, ws, d, rs, r, e, q⟩ := h
  unfold anyB at e
  split at e
  · rename_i w
    obtain ⟨v, rfl, rv⟩ := r.one
    cases ea : asLst st w with
    | none => rw [ea] at e; cases e
    | some ds =>
      rw [ea] at e
      simp only [Option.bind_some] at e
      cases eb : allBl ds with
      | none => rw [eb] at e; cases e
      | some bs =>
        rw [eb] at e
        cases e
        obtain ⟨a, ys, rfl, h1, h2⟩ := lst_of rs rv ea
        cases allBl_rl h2 eb
        exact cr_any hc pins s σ H _ us Q I rr ⟨a, bs, rfl, h1, q _ _ (.refl _) (.bl _)⟩
  · cases e
theorem cb_int : CallR X (.type "int") (rA X.kw intB) := by
  intro pins s σ H xs us Q I rr h
  obtain ⟨ρ, st, ws, d, rs, r, e, q⟩ := h
  unfold intB at e
  split at e
  · obtain ⟨v, rfl, rv⟩ := r.one
    cases e
    cases rv with | v rv => cases rv; exact call_int1 pins s σ H _ us Q I rr (.inl ⟨_, rfl, q _ _ (.refl _) (.int _)⟩)
  · obtain ⟨v, rfl, rv⟩ := r.one
    cases e
    cases rv with | v rv => cases rv; exact call_int1 pins s σ H _ us Q I rr (.inr ⟨_, rfl, q _ _ (.refl _) (.int _)⟩)
  · cases e
theorem cb_min (hc : X.calm = true) : CallR X (.builtin "min") (rA X.kw minB) := by
  intro pins s σ H xs us Q I rr h
  obtain ⟨ρ, st, ws, d, rs, r, e, q⟩ := h
  unfold minB at e
  split at e
  · obtain ⟨v, v', rfl, rv, rv'⟩ := r.two
    cases e
    cases rv with | v rv => cases rv' with | v rv' => cases rv; cases rv'; exact call_min2 hc pins s σ H _ us Q I rr ⟨_, _, rfl, q _ _ (.refl _) (.int _)⟩
  · cases e
theorem cb_tuple : CallR X (.type "tuple") (rA X.kw tupleB) := by
  intro pins s σ H xs us Q I rr h
  obtain ⟨ρ, st, ws, d, rs, r, e, q⟩ := h
  unfold tupleB at e
  split at e
  · rename_i w0
    obtain ⟨v, rfl, rv⟩ := r.one
    split at e
    · cases e
      cases rv with
      | v rv =>
        cases rv with
        | tup h1 n1 q1 => exact call_tuple_of pins s σ H _ us Q I rr ⟨_, _, rfl, .inr ⟨.inl h1, q _ _ (.refl _) (.tup h1 n1 q1)⟩⟩
    · cases ea : asLst st w0 with
      | none => rw [ea] at e; cases e
      | some ds =>
        rw [ea] at e
        cases e
        obtain ⟨a, ys, rfl, h1, h2⟩ := lst_of rs rv ea
        exact call_tuple_of pins s σ H _ us Q I rr ⟨_, _, rfl, .inl ⟨h1, fun p hp => q _ _ (same_upd hp) (.tup (.inl upd_same) (rs.fresh hp) (h2.same (same_upd hp)))⟩⟩
  · cases e
theorem cf_list : CallR X (.type "list") (rF X.kw listF) := by
  intro pins s σ H xs us Q I rr h
  obtain ⟨ρ, st, ws, d, rs, r, e, q⟩ := h
  unfold listF at e
  split at e
  · obtain ⟨v, rfl, rv⟩ := r.one
    split at e
    · cases e
      cases rv with
      | v rv =>
        cases rv with
        | tup h1 n1 q1 => exact call_list_of pins s σ H _ us Q I rr ⟨_, _, rfl, .inr (.inl h1), fun p hp => q p _ hp q1⟩
    · obtain ⟨a, ys, rfl, h1, h2⟩ := lst_of rs rv e
      exact call_list_of pins s σ H _ us Q I rr ⟨_, _, rfl, .inl h1, fun p hp => q p _ hp h2⟩
  · cases e
theorem hasDict_of {d : PyData} (h : SeqAt.shaped d = true) : d.hasDict = false := PyData.hasDict_of_canLay d (SeqAt.canLay_of_shaped h)
theorem cb_repr (gd : X.A.guards = some []) (hu : X.A.units + 65 < cLine) : CallR X (.builtin "repr") (rA X.kw reprB) := by
  intro pins s σ H xs us Q I rr h
  obtain ⟨ρ, st, ws, d, rs, r, e, q⟩ := h
  unfold reprB at e
  split at e
  · rename_i w
    obtain ⟨v, rfl, rv⟩ := r.one
    split at e
    · rename_i c
      rw [Bool.and_eq_true, Bool.and_eq_true] at c
      obtain ⟨⟨c1, c2⟩, c3⟩ := c
      have c3 := of_decide_eq_true c3
      have c4 : (deref st w).py.shown.length ≤ sizeLine := Nat.le_trans c3 (by decide)
      cases e
      have dp := deref_dp rs rv c1
      have q' := q H (.str (deref st w).py.shown) (.refl _) (.str _)
      have hd := SeqAt.depth_of_shaped c1
      obtain ⟨u, rfl, ru⟩ := vals1 rr
      obtain ⟨as, rd⟩ := Dp.reads I _ _ u dp ru
      have nd := hasDict_of c1
      generalize (deref st w).py = dd at *
      cases dp with
      | non =>
        cases ru
        exact PySem.P.repr_of_none ⟨.str _, H, I.tok _, ⟨_, rfl⟩, by simpa [PyData.shown] using q'⟩
      | bl b =>
        cases ru
        exact PySem.P.repr_of_bool ⟨.str _, H, I.tok _, ⟨_, rfl⟩, by simpa [PyData.shown] using q'⟩
      | int i =>
        obtain ⟨t, rfl⟩ := ru
        exact PySem.P.repr_of_int (by simpa [PyData.showable] using c2) ⟨.str _, H, I.tok _, ⟨_, rfl⟩, by simpa [PyData.shown] using q'⟩
      | str x =>
        obtain ⟨t, rfl⟩ := ru
        exact PySem.P.repr_of_str ⟨.str _, H, I.tok _, ⟨_, rfl⟩, by simpa [PyData.shown] using q'⟩ (by simpa [PyData.shown] using c4)
      | lst h1 h2 =>
        cases ru
        exact repr_of_reads' rd c2 (PyData.noDict_hsm nd) gd (by omega) (fun _ _ z => z) (fun h' u tk hk => ⟨.str _, H, I.kept hk, ⟨_, rfl⟩, q'⟩) c4
      | tup h1 h2 =>
        cases ru
        exact repr_of_reads' rd c2 (PyData.noDict_hsm nd) gd (by omega) (fun _ _ z => z) (fun h' u tk hk => ⟨.str _, H, I.kept hk, ⟨_, rfl⟩, q'⟩) c4
    · cases e
  · cases e
end
end Jv
end
section
namespace Jv
open PySem PySem.Spec L2 PyProof.Rows

/-! ### a[i] -/
def ixD : O2
  | _, .v (.str x), .v (.int i) => if x.length ≤ 100000 then (atI x.cps.toList i).map fun c => .str ⟨#[c]⟩ else none
  | _, .v (.tup ds), .v (.int i) => atI ds i
  | st, w, .v (.int i) => (asLst st w).bind fun ds => atI ds i
  | _, _, _ => none
theorem RlAll.atI {K : KW} {ρ : Rho} {H : Hp} {xs : List V} {ds : List D} {i : Int} {d : D} (r : RlAll K ρ H xs ds) (e : L2.atI ds i = some d) : ∃ v, L2.atI xs i = some v ∧ Rl K ρ H v d := by
  unfold L2.atI at e ⊢
  rw [r.length]
  cases q : ixN ds.length i with
  | none => rw [q] at e; cases e
  | some j =>
    rw [q] at e
    exact r.getD e
section
variable {X : Cx} {ct : Nat → Value} {E : St → XK} {a b : Expr} {fa fb : ED} {pos : Pos}
theorem ix_D : IxR X (rOf X.kw ixD) := by
  intro value slice pins s σ H x y v u Q I rx ry h hs
  obtain ⟨ρ, st, w1, w2, d, rs, r1, r2, e, q⟩ := h
  unfold ixD at e
  split at e
  · split at e
    · rename_i hl
      cases r1 with | v r1 => cases r2 with | v r2 =>
      cases r1; cases r2
      rename_i i x
      cases ec : L2.atI i.cps.toList x with
      | none => rw [ec] at e; cases e
      | some c => rw [ec] at e; cases e; exact ix_str value slice pins s σ H _ _ v u Q I rx ry ⟨_, _, c, rfl, rfl, sl5 hl, ec, q _ _ (.refl _) (.str _)⟩ hs
    · cases e
  · cases r1 with | v r1 => cases r2 with | v r2 =>
    cases r2
    cases r1 with
    | tup h1 n1 q1 =>
      obtain ⟨v', e1, r'⟩ := q1.atI e
      exact ix_tup value slice pins s σ H _ _ v u Q I rx ry ⟨_, _, _, _, rfl, rfl, .inl h1, e1, q _ _ (.refl _) r'⟩ hs
  · cases r2 with | v r2 =>
    cases r2
    cases ea : asLst st w1 with
    | none => rw [ea] at e; cases e
    | some ds =>
      rw [ea] at e
      obtain ⟨p, ys, rfl, h1, h2⟩ := lst_of rs r1 ea
      obtain ⟨v', e1, r'⟩ := h2.atI e
      exact ix_list value slice pins s σ H _ _ v u Q I rx ry ⟨_, _, _, _, rfl, rfl, h1, e1, q _ _ (.refl _) r'⟩ hs
  · cases e
theorem de_ix (ha : PE X a (tE X.kw ct E fa)) (hb : PE X b (tE X.kw ct E fb)) (hs : PlainIx b := by exact fun _ _ => rfl) : PE X (.Subscript a b pos) (tE X.kw ct E (eBin ixD fa fb)) :=
  PE.of (pe_ix ix_D ha hb hs) fun σ H Q h => two_read h
/-! ### d["x"] of an object -/
def lookS (kvs : List (Str × W)) (k : Str) : Option W := (kvs.find? fun p => decide (p.1 = k)).map (·.2)
def dGet (st : Sto) (w k : W) : R W := match w, k with
  | .r l, .v (.str k) => match st[l]? with
    | some (.dct kvs) => match lookS kvs k with
      | some w => .ok w st
      | none => .bad
    | _ => .bad
  | _, _ => .bad
def eDGet (f g : ED) : ED := fun env st => (f env st).bind fun w st => (g env st).bind fun k st => dGet st w k
theorem RlD.look {K : KW} {ρ : Rho} {H : Hp} {L : List (Key × V)} {kvs : List (Str × W)} {k : Str} {w : W} (r : RlD K ρ H L kvs) (e : lookS kvs k = some w) : ∃ v, valV L (.inr k) = some v ∧ Rw K ρ H v w := by
  induction r with
  | nil => cases e
  | @cons k' v' d kvs ds rv _ ih =>
    unfold lookS at e
    unfold valV
    by_cases hk : k' = k
    · subst hk
      simp at e ⊢
      subst e
      exact rv
    · have h2 : ¬ ((Sum.inr k' : Key) = Sum.inr k) := fun z => hk (Sum.inr.inj z)
      rw [List.find?_cons_of_neg (by simpa using hk)] at e
      rw [List.find?_cons_of_neg (by simpa using h2)]
      exact ih e
theorem de_dget (hu : X.A.units + 1 < cLine) (ha : PE X a (tE X.kw ct E fa)) (hb : PE X b (tE X.kw ct E fb)) (hs : NoSl b := by exact fun _ _ => rfl) : PE X (.Subscript a b pos) (tE X.kw ct E (eDGet fa fb)) :=
  PE.of (pe_dget hu ha hb hs) fun σ H Q h => by
    refine (tG.bind (rel := Rw) (k := fun w env st => (fb env st).bind fun k st => dGet st w k) h).mono fun v H1 ⟨ρ1, st1, env, w1, a1, r1, q1⟩ => ?_
    refine ⟨ρ1, st1, env, a1, (okG.bind (rel := Rw) q1 a1.2).mono fun u H2 ⟨ρ2, st2, w2, a2, g2, r2, q2⟩ => ?_⟩
    replace r1 := r1.grow g2
    unfold dGet at q2
    split at q2
    · rename_i l k r1
      split at q2
      · rename_i kvs ek
        split at q2
        · rename_i w el
          rcases a2.1.obj l _ ek with ⟨z, _⟩ | ⟨p, hp, L, h1, h2⟩
          · cases z
          · cases r1 with | r hl hv =>
            cases r2 with | v r2 =>
            cases r2
            cases hv p hp
            obtain ⟨v', e1, rv'⟩ := h2.look el
            exact ⟨p, v', rfl, by have := DGet.k (k := Sum.inr k) h1; rw [e1] at this; exact this, q2.here a2.1 rv'⟩
        · exact q2.elim
      · exact q2.elim
    · exact q2.elim
end
/-! ### slices -/
def cutD {α : Type} (xs : List α) (lo hi : Option Int) : List α := (xs.drop (HT.sIx xs.length 0 lo)).take (HT.sIx xs.length xs.length hi - HT.sIx xs.length 0 lo)
def slcD (st : Sto) (w : W) (lo hi : Option Int) : Option D := match w with
  | .v (.str x) => if x.length ≤ 100000 then some (.str (cutS x lo hi)) else none
  | .v (.tup ds) => some (.tup (cutD ds lo hi))
  | w => (asLst st w).map fun ds => .lst (cutD ds lo hi)
abbrev PD := Env → Sto → R (Option Int)
def pNo : PD := fun _ st => .ok none st
def pSo (f : ED) : PD := fun env st => (f env st).bind fun w st => match w with
  | .v (.int i) => .ok (some i) st
  | _ => .bad
def eSlc (f : ED) (lo hi : PD) : ED := fun env st => (f env st).bind fun w st => (lo env st).bind fun l st => (hi env st).bind fun h st => ofOp st (slcD st w l h)
abbrev RlP : Rel (Option Int) (Option Int) := fun _ _ _ b c => b = c
abbrev tP (K : KW) (ct : Nat → Value) (E : St → XK) (f : PD) : TO := tG K ct RlP E f
theorem PO.of {X : Cx} {e : Option Expr} {t t' : TO} (h : PO X e t) (i : ∀ σ H Q, t' σ H Q → t σ H Q) : PO X e t' := ⟨fun pins s σ H Q I q => h.run pins s σ H Q I (i σ H Q q)⟩
def rSl (K : KW) : V → Option Int → Option Int → Hp → VK → Prop := fun x lo hi H Q => ∃ ρ st w d, RelSt K ρ H st ∧ Rw K ρ H x w ∧ slcD st w lo hi = some d ∧ ∀ H' v, Same H H' → Rl K ρ H' v d → Q v H'
section
variable {X : Cx} {ct : Nat → Value} {E : St → XK} {a b : Expr} {fa fb : ED} {pos p2 : Pos}
theorem dp_no : PO X none (tP X.kw ct E pNo) := PO.of po_none fun σ H Q ⟨ρ, st, env, a, h⟩ => h.here a.1 rfl
theorem dp_so (h : PE X a (tE X.kw ct E fa)) : PO X (some a) (tP X.kw ct E (pSo fa)) := PO.of (po_some h) fun σ H Q q => by
  refine (tG.bind (rel := Rw) (k := fun w _ st => match w with | .v (.int i) => R.ok (some i) st | _ => R.bad) q).mono fun v H1 ⟨ρ1, st1, env, w, a1, r1, q1⟩ => ?_
  split at q1
  · cases r1 with | v r1 => cases r1; exact ⟨_, rfl, q1.here a1.1 rfl⟩
  · exact q1.elim
theorem RlAll.cutV {K : KW} {ρ : Rho} {H : Hp} {xs : List V} {ds : List D} {lo hi : Option Int} (r : RlAll K ρ H xs ds) : RlAll K ρ H (L2.cutV xs lo hi) (cutD ds lo hi) := by
  unfold L2.cutV cutD
  rw [r.length]
  exact (r.drop _).take _
theorem cutD_all {α : Type} {xs : List α} {lo hi : Option Int} (h : HT.sIx xs.length 0 lo = 0 ∧ HT.sIx xs.length xs.length hi = xs.length) : cutD xs lo hi = xs := by
  unfold cutD
  rw [h.1, h.2]
  simp
theorem sl_D : SlR X (rSl X.kw) := by
  intro pins s σ H x v vl vu lo hi sl Q I rx hs pl pu h
  obtain ⟨ρ, st, w, d, rs, r1, e, q⟩ := h
  unfold slcD at e
  split at e
  · split at e
    · rename_i hl
      cases e
      cases r1 with | v r1 =>
      cases r1
      exact sl_str pins s σ H _ v vl vu lo hi sl Q I rx hs pl pu ⟨_, rfl, sl5 hl, q _ _ (.refl _) (.str _)⟩
    · cases e
  · cases e
    cases r1 with | v r1 =>
    cases r1 with
    | tup h1 n1 q1 =>
      refine sl_tupA pins s σ H _ v vl vu lo hi sl Q I rx hs pl pu ⟨_, _, rfl, .inl h1, fun z => ?_, fun _ p hp => ?_⟩
      · rw [q1.length] at z
        rw [cutD_all z] at q
        exact q _ _ (.refl _) (.tup h1 n1 q1)
      · exact q _ _ (same_upd hp) (.tup (.inl upd_same) (rs.fresh hp) (q1.cutV.same (same_upd hp)))
  · cases ea : asLst st w with
    | none => rw [ea] at e; cases e
    | some ds =>
      rw [ea] at e
      cases e
      obtain ⟨p, ys, rfl, h1, h2⟩ := lst_of rs r1 ea
      exact sl_list pins s σ H _ v vl vu lo hi sl Q I rx hs pl pu ⟨_, _, rfl, h1, fun p hp => q _ _ (same_upd hp) (.lst (.inl ⟨.inl upd_same, rs.fresh hp⟩) (h2.cutV.same (same_upd hp)))⟩
theorem de_slc {lo hi : Option Expr} {fl fh : PD} (ha : PE X a (tE X.kw ct E fa)) (hl : PO X lo (tP X.kw ct E fl)) (hh : PO X hi (tP X.kw ct E fh)) : PE X (.Subscript a (.Slice lo hi none p2) pos) (tE X.kw ct E (eSlc fa fl fh)) :=
  PE.of (pe_slice sl_D ha hl hh) fun σ H Q q => by
    refine (tG.bind (rel := Rw) (k := fun w env st => (fl env st).bind fun l st => (fh env st).bind fun h st => ofOp st (slcD st w l h)) q).mono fun v H1 ⟨ρ1, st1, env, w, a1, r1, q1⟩ => ?_
    refine ⟨ρ1, st1, env, a1, (okG.bind (rel := RlP) q1 a1.2).mono fun l H2 ⟨ρ2, st2, l', a2, g2, r2, q2⟩ => ?_⟩
    cases r2
    refine ⟨ρ2, st2, env, a2, (okG.bind (rel := RlP) q2 a2.2).mono fun h H3 ⟨ρ3, st3, h', a3, g3, r3, q3⟩ => ?_⟩
    cases r3
    cases e : slcD st3 w l h with
    | none => rw [e] at q3; exact q3.elim
    | some d => rw [e] at q3; exact ⟨ρ3, st3, w, d, a3.1, (r1.grow g2).grow g3, e, fun H' v s r => okG.up q3 a3.1 s (.v r)⟩
end

/-! ### what holds of trees where nothing of theirs is touched -/
def Ext (ρ : Rho) (H : Hp) (ρ' : Rho) (H' : Hp) : Prop := ∀ a o, H a = some o → ¬ ρ.mut a → H' a = some o ∧ ¬ ρ'.mut a
theorem Grow.ext {ρ ρ' : Rho} {H H' : Hp} (g : Grow ρ H ρ' H') : Ext ρ H ρ' H' := fun _ _ h n => g.keep h n
theorem Ext.keepR {ρ ρ' : Rho} {H H' : Hp} (g : Ext ρ H ρ' H') {a : Addr} {o : HO} (h : Rd H a o) (n : ¬ ρ.mut a) : Rd H' a o ∧ ¬ ρ'.mut a := by
  rcases h with h | ⟨ob, h⟩
  · obtain ⟨h1, h2⟩ := g _ _ h n; exact ⟨.inl h1, h2⟩
  · obtain ⟨h1, h2⟩ := g _ _ h n; exact ⟨.inr ⟨ob, h1⟩, h2⟩
theorem Ext.trans {ρ ρ1 ρ2 : Rho} {H H1 H2 : Hp} (a : Ext ρ H ρ1 H1) (b : Ext ρ1 H1 ρ2 H2) : Ext ρ H ρ2 H2 := fun x o h n => let ⟨h1, n1⟩ := a x o h n; b x o h1 n1
theorem Ext.hide {ρ : Rho} {H : Hp} {p : Addr} {o : HO} (hp : H p = none) : Ext ρ H (ρ.hide p) (upd H p o) := fun a u h n => by
  have ne := ne_of_none h hp
  refine ⟨by rw [upd_ne ne]; exact h, fun z => ?_⟩
  rcases z with z | z
  · exact n (.inl z)
  · rcases List.mem_cons.mp z with z | z
    · exact ne z
    · exact n (.inr z)
section
variable {K : KW} {ρ ρ' : Rho} {H H' : Hp}
mutual
theorem Rl.ext (g : Ext ρ H ρ' H') : ∀ {v : V} {d : D}, Rl K ρ H v d → Rl K ρ' H' v d
  | _, _, .non => .non
  | _, _, .bl b => .bl b
  | _, _, .int i => .int i
  | _, _, .str x => .str x
  | _, _, .ty n => .ty n
  | _, _, .tup h n r => let ⟨h', n'⟩ := Ext.keepR g h n; .tup h' n' (RlAll.ext g r)
  | _, _, .lst h r => .lst (by
      rcases h with ⟨h | ⟨o, h⟩, n⟩ | h
      · obtain ⟨h1, h2⟩ := g _ _ h n; exact .inl ⟨.inl h1, h2⟩
      · obtain ⟨h1, h2⟩ := g _ _ h n; exact .inl ⟨.inr ⟨o, h1⟩, h2⟩
      · exact .inr h) (RlAll.ext g r)
  | _, _, .dct0 h n => let ⟨h', n'⟩ := g _ _ h n; .dct0 h' n'
  | _, _, .cod h n => let ⟨h', n'⟩ := g _ _ h n; .cod h' n'
  | _, _, .kd h n o m r => let ⟨h', n'⟩ := g _ _ h n; .kd h' n' o m (RlAll.ext g r)
  | _, _, .ld h n o m r => let ⟨h', n'⟩ := g _ _ h n; .ld h' n' o m (RlAll.ext g r)
  | _, _, .adr a => .adr a
  | _, _, .tupx h n e r => let ⟨h', n'⟩ := g _ _ h n; .tupx h' n' e (RlAll.ext g r)
  | _, _, .exc0 h n m => let ⟨h', n'⟩ := g _ _ h n; .exc0 h' n' m
  | _, _, .excd h n m k k' e r => let ⟨h', n'⟩ := g _ _ h n; let ⟨k1, k2⟩ := g _ _ k k'; .excd h' n' m k1 k2 e (RlAll.ext g r)
theorem RlAll.ext (g : Ext ρ H ρ' H') : ∀ {vs : List V} {ds : List D}, RlAll K ρ H vs ds → RlAll K ρ' H' vs ds
  | _, _, .nil => .nil
  | _, _, .cons r t => .cons (Rl.ext g r) (RlAll.ext g t)
end
end

/-! ### what is walked -/
def ItOk (K : KW) (J : It) (ρ0 : Rho) (H0 : Hp) (ds : List D) : Prop := ∀ ρ H st, Ext ρ0 H0 ρ H → RelSt K ρ H st →
  (∀ (i : Nat) (d : D), ds[i]? = some d → J.go i H ∧ ∀ x H', J.yld i H x H' → Same H H' ∧ Rl K ρ H' x d) ∧ J.stop ds.length H
def okI (K : KW) (ct : Nat → Value) (ρ : Rho) (H : Hp) (E : XK) (R' : It → Hp → Prop) : R (List D) → Prop
  | .ok ds st' => ∀ ρ' H' J, Grow ρ H ρ' H' → RelSt K ρ' H' st' → ItOk K J ρ' H' ds → R' J H'
  | .exc x st' => ∀ ρ' H' cv od, Grow ρ H ρ' H' → RelSt K ρ' H' st' → XRl K ct ρ' H' cv od x → E cv od H'
  | .bad => False
def iR (K : KW) (ct : Nat → Value) (E : St → XK) (f : LD) : TI := fun σ H R' => ∃ ρ st env, At K ρ H st σ env ∧ okI K ct ρ H (E σ) R' (f env st)
theorem PI.of {X : Cx} {tg e : Expr} {w w' : TI} (h : PI X tg e w) (i : ∀ σ H R, w' σ H R → w σ H R) : PI X tg e w' := ⟨fun pins s σ H R I q => h.run pins s σ H R I (i σ H R q)⟩
theorem PI.or {X : Cx} {tg e : Expr} {w w' : TI} (h : PI X tg e w) (h' : PI X tg e w') : PI X tg e (fun σ H R => w σ H R ∨ w' σ H R) := ⟨fun pins s σ H R I q => q.elim (h.run pins s σ H R I) (h'.run pins s σ H R I)⟩
def signs (x : Str) : List D := x.cps.toList.map fun c => .str ⟨#[c]⟩
def items (w : W) (st : Sto) : R (List D) := match w with
  | .v (.lst ds) => .ok ds st
  | .v (.tup ds) => .ok ds st
  | .v (.str x) => .ok (signs x) st
  | _ => .bad
def itE (f : ED) : LD := fun env st => (f env st).bind items
def rangeL (lo n : Nat) : List D := (List.range n).map fun i => .int ((lo + i : Nat) : Int)
def ranges (ws : List W) (st : Sto) : R (List D) := match ws with
  | [.v (.int n)] => if -100000 ≤ n ∧ n ≤ 100000 then .ok (rangeL 0 n.toNat) st else .bad
  | [.v (.int a), .v (.int b)] => if 0 ≤ a ∧ a ≤ 100000 ∧ b ≤ 100000 then .ok (rangeL a.toNat (b - a).toNat) st else .bad
  | _ => .bad
def itRange (g : AD) : LD := fun env st => (g env st).bind ranges
section
variable {K : KW} {ρ : Rho} {H : Hp}
theorem itOk_list {a : Addr} {xs : List V} {ds : List D} (h : LsR K ρ H a xs) (r : RlAll K ρ H xs ds) : ItOk K (Itl K a) ρ H ds := by
  intro ρ' H' st g s
  have h' : SqL K H' a xs := by
    rcases h with ⟨h | ⟨o, h⟩, n⟩ | h
    · exact .inl (.inl (g _ _ h n).1)
    · exact .inl (.inr ⟨o, (g _ _ h n).1⟩)
    · exact .inr h
  refine ⟨fun i d e => ?_, xs, h', Nat.le_of_eq r.length⟩
  obtain ⟨v, e1, rv⟩ := r.getD e
  refine ⟨⟨xs, v, h', e1⟩, ?_⟩
  rintro x H2 ⟨rfl, y⟩
  have := y xs h'
  rw [e1] at this
  cases this
  exact ⟨.refl _, rv.ext g⟩
theorem itOk_tup {a : Addr} {xs : List V} {ds : List D} (h : Rd H a (.tup xs)) (n : ¬ ρ.mut a) (r : RlAll K ρ H xs ds) : ItOk K (Itt K a) ρ H ds := by
  intro ρ' H' st g s
  have h' : SqT K H' a xs := .inl (Ext.keepR g h n).1
  refine ⟨fun i d e => ?_, xs, h', Nat.le_of_eq r.length⟩
  obtain ⟨v, e1, rv⟩ := r.getD e
  refine ⟨⟨xs, v, h', e1⟩, ?_⟩
  rintro x H2 ⟨rfl, y⟩
  have := y xs h'
  rw [e1] at this
  cases this
  exact ⟨.refl _, rv.ext g⟩
theorem itOk_str (x : Str) : ItOk K (Its x) ρ H (signs x) := by
  intro ρ' H' st g s
  refine ⟨fun i d e => ?_, ?_⟩
  · unfold signs at e
    rw [List.getElem?_map] at e
    cases q : x.cps.toList[i]? with
    | none => rw [q] at e; cases e
    | some c =>
      rw [q] at e
      cases e
      have q' : x.cps[i]? = some c := by simpa using q
      refine ⟨?_, ?_⟩
      · show i < x.cps.size
        exact (Array.getElem?_eq_some_iff.mp q').1
      · rintro y H2 ⟨rfl, c', e1, rfl⟩
        rw [q'] at e1
        cases e1
        exact ⟨.refl _, .str _⟩
  · show x.cps.size ≤ _
    simp [signs]
theorem itOk_range (lo : Nat) (n : Nat) : ItOk K (Itr (lo : Int) n) ρ H (rangeL lo n) := by
  intro ρ' H' st g s
  refine ⟨fun i d e => ?_, ?_⟩
  · unfold rangeL at e
    by_cases hi : i < n
    · rw [List.getElem?_map, List.getElem?_range hi] at e
      cases e
      refine ⟨hi, ?_⟩
      rintro y H2 ⟨rfl, rfl⟩
      refine ⟨.refl _, ?_⟩
      have : ((lo : Int) + (i : Nat)) = ((lo + i : Nat) : Int) := by omega
      rw [this]
      exact .int _
    · rw [List.getElem?_eq_none (by simpa using hi)] at e
      cases e
  · show n ≤ _
    simp [rangeL]
end
section
variable {X : Cx} {ct : Nat → Value} {E : St → XK} {tg e : Expr} {f : ED} {es : List Expr} {g : AD} {p pos : Pos}
theorem di_e (h : PE X e (tE X.kw ct E f)) : PI X tg e (iR X.kw ct E (itE f)) := PI.of (PI.or (pi_list h) (PI.or (pi_tup h) (pi_str h))) fun σ H R' ⟨ρ, st, env, a, q⟩ => by
  unfold itE at q
  cases ef : f env st with
  | ok w st1 =>
    rw [ef] at q
    simp only [R.bind_ok, items] at q
    split at q
    · refine .inl ⟨ρ, st, env, a, ?_⟩
      rw [ef]
      intro ρ1 H1 v g s r
      cases r with | v r =>
      cases r with
      | lst h1 r1 => exact ⟨_, rfl, ⟨_, h1.sql⟩, q ρ1 H1 _ g s (itOk_list h1 r1)⟩
    · refine .inr (.inl ⟨ρ, st, env, a, ?_⟩)
      rw [ef]
      intro ρ1 H1 v g s r
      cases r with | v r =>
      cases r with
      | tup h1 n1 r1 => exact ⟨_, rfl, ⟨_, .inl h1⟩, q ρ1 H1 _ g s (itOk_tup h1 n1 r1)⟩
    · refine .inr (.inr ⟨ρ, st, env, a, ?_⟩)
      rw [ef]
      intro ρ1 H1 v g s r
      cases r with | v r =>
      cases r
      exact ⟨_, rfl, q ρ1 H1 _ g s (itOk_str _)⟩
    · exact q.elim
  | exc x st1 =>
    rw [ef] at q
    refine .inl ⟨ρ, st, env, a, ?_⟩
    rw [ef]
    exact q
  | bad => rw [ef] at q; exact q.elim
theorem di_range1 (hg : Gl X "range") (hm : X.mg "range" = none) (h : PE X e (tE X.kw ct E f)) (hs : starEach [e] X.env = [(false, eval e X.env)] := by rfl) :
    PI X tg (.Call (.Name "range" p) [e] [] pos) (iR X.kw ct E (itRange (aCons f aNil))) := by
  have ha : PA X [e] (tA X.kw ct E (aCons f aNil)) := da_cons h da_nil hs
  refine PI.of (pi_range1 hg hm ha hs) fun σ H R' ⟨ρ, st, env, a, q⟩ => ⟨ρ, st, env, a, ?_⟩
  unfold itRange at q
  cases ef : aCons f aNil env st with
  | ok ws st1 =>
    rw [ef] at q
    simp only [R.bind_ok, ranges] at q
    intro ρ1 H1 vs g s r
    split at q
    · rename_i n
      split at q
      · rename_i hn
        obtain ⟨v, rfl, rv⟩ := r.one
        cases rv with | v rv =>
        cases rv
        exact ⟨n, rfl, Int.le_trans (by decide) hn.1, Int.lt_of_le_of_lt hn.2 (by decide), q ρ1 H1 _ g s (by have := itOk_range (K := X.kw) (ρ := ρ1) (H := H1) 0 n.toNat; simpa using this)⟩
      · exact q.elim
    · have l2 := aCons_len (f := f) aNil_len _ _ _ _ ef
      simp at l2
    · exact q.elim
  | exc x st1 => rw [ef] at q; exact q
  | bad => rw [ef] at q; exact q.elim
end
end Jv
end
section
namespace Jv
open PySem PySem.Spec L2 PyProof.Rows

/-! ### targets -/
abbrev GD := W → Env → Option Env
abbrev GsD := List W → Env → Option Env
def gNm (i : Nat) : GD := fun w env => some (env.set i (some w))
def gsNil : GsD := fun ws env => match ws with
  | [] => some env
  | _ => none
def gsCons (g : GD) (gs : GsD) : GsD := fun ws env => match ws with
  | w :: r => (g w env).bind (gs r)
  | [] => none
def gTp (n : Nat) (gs : GsD) : GD := fun w env => match w with
  | .v (.tup ds) => if ds.length = n then gs (ds.map .v) env else none
  | _ => none
/-- the slots vs at most have changed -/
def Agree (vs : List Nat) (σ σ' : St) : Prop := σ'.length = σ.length ∧ ∀ i, i ∉ vs → σ'[i]? = σ[i]?
theorem Agree.refl (vs : List Nat) (σ : St) : Agree vs σ σ := ⟨rfl, fun _ _ => rfl⟩
theorem Agree.trans {vs : List Nat} {σ σ1 σ2 : St} (a : Agree vs σ σ1) (b : Agree vs σ1 σ2) : Agree vs σ σ2 := ⟨b.1.trans a.1, fun i h => (b.2 i h).trans (a.2 i h)⟩
theorem Agree.mono {vs vs' : List Nat} {σ σ' : St} (h : ∀ i ∈ vs, i ∈ vs') (a : Agree vs σ σ') : Agree vs' σ σ' := ⟨a.1, fun i n => a.2 i fun z => n (h i z)⟩
theorem wipe_get (σ : St) : ∀ (vs : List Nat) (i : Nat), (wipe σ vs)[i]? = if i ∈ vs ∧ i < σ.length then some none else σ[i]?
  | [], i => by simp [wipe]
  | v :: vs, i => by
    unfold wipe
    by_cases h : v = i
    · subst h
      by_cases hl : v < σ.length
      · rw [List.getElem?_set_self (by rw [wipe_length]; exact hl), if_pos ⟨List.mem_cons_self, hl⟩]
      · rw [List.getElem?_eq_none (by rw [List.length_set, wipe_length]; omega), if_neg (fun z => hl z.2), List.getElem?_eq_none (by omega)]
    · rw [List.getElem?_set_ne h, wipe_get σ vs i]
      have : (i ∈ v :: vs ∧ i < σ.length) ↔ (i ∈ vs ∧ i < σ.length) := by
        constructor
        · rintro ⟨z, y⟩
          rcases List.mem_cons.mp z with z | z
          · exact absurd z.symm h
          · exact ⟨z, y⟩
        · rintro ⟨z, y⟩
          exact ⟨List.mem_cons_of_mem _ z, y⟩
      by_cases q : i ∈ vs ∧ i < σ.length
      · rw [if_pos q, if_pos (this.mpr q)]
      · rw [if_neg q, if_neg fun z => q (this.mp z)]
theorem Agree.wipe {vs : List Nat} {σ σ' : St} (a : Agree vs (L2.wipe σ vs) σ') : L2.wipe σ' vs = L2.wipe σ vs := by
  refine List.ext_getElem? fun i => ?_
  have hl : σ'.length = σ.length := by rw [a.1, wipe_length]
  rw [wipe_get, wipe_get, hl]
  by_cases h : i ∈ vs ∧ i < σ.length
  · rw [if_pos h, if_pos h]
  · rw [if_neg h, if_neg h]
    by_cases hi : i ∈ vs
    · have : ¬ i < σ.length := fun z => h ⟨hi, z⟩
      rw [List.getElem?_eq_none (by omega), List.getElem?_eq_none (by omega)]
    · rw [a.2 i hi, wipe_get, if_neg h]
def gR (K : KW) (vs : List Nat) (g : GD) : TG := fun v σ H Q => ∃ ρ st env w env', At K ρ H st σ env ∧ Rw K ρ H v w ∧ g w env = some env' ∧ ∀ σ', At K ρ H st σ' env' → Agree vs σ σ' → Q σ' H
def gsR (K : KW) (vs : List Nat) (g : GsD) : TGs := fun v σ H Q => ∃ ρ st env ws env', At K ρ H st σ env ∧ RwAll K ρ H v ws ∧ g ws env = some env' ∧ ∀ σ', At K ρ H st σ' env' → Agree vs σ σ' → Q σ' H
theorem PG.of {X : Cx} {e : Expr} {t t' : TG} (h : PG X e t) (i : ∀ v σ H Q, t' v σ H Q → t v σ H Q) : PG X e t' := ⟨fun pins s σ H v u Q I r q => h.run pins s σ H v u Q I r (i v σ H Q q)⟩
theorem PGs.of {X : Cx} {e : List Expr} {t t' : TGs} (h : PGs X e t) (i : ∀ v σ H Q, t' v σ H Q → t v σ H Q) : PGs X e t' := ⟨fun pins s σ H v u Q I r q => h.run pins s σ H v u Q I r (i v σ H Q q)⟩
theorem RlAll.toW {K : KW} {ρ : Rho} {H : Hp} : ∀ {vs : List V} {ds : List D}, RlAll K ρ H vs ds → RwAll K ρ H vs (ds.map .v)
  | _, _, .nil => .nil
  | _, _, .cons r t => .cons (.v r) (RlAll.toW t)
theorem agree_set (σ : St) (i : Nat) (o : Option V) : Agree [i] σ (σ.set i o) := ⟨by simp, fun j h => by rw [List.getElem?_set_ne]; intro z; exact h (by simp [z])⟩
section
variable {X : Cx}
theorem dg_name {i : Nat} {x : Str} {pos : Pos} (hN : X.N.Nodup) (hi : X.N[i]? = some x := by rfl) (hx : Loc X.env.scope x := by first | exact Or.inl rfl | exact Or.inr rfl)
    (hf : X.fn x = true ∨ X.env.scope.names.lookup x = some .local := by first | exact .inl rfl | exact .inr rfl | assumption) : PG X (.Name x pos) (gR X.kw [i] (gNm i)) :=
  PG.of (pg_name hN hi hx hf) fun v σ H Q ⟨ρ, st, env, w, env', a, r, e, q⟩ => by
    cases e
    exact q _ ⟨a.1, a.2.set r i⟩ (agree_set σ i _)
theorem dgs_nil : PGs X [] (gsR X.kw [] gsNil) := PGs.of pgs_nil fun v σ H Q ⟨ρ, st, env, ws, env', a, r, e, q⟩ => by
  cases r with
  | nil => cases e; exact ⟨rfl, q _ a (.refl _ _)⟩
  | cons _ _ => cases e
theorem dgs_cons {e : Expr} {es : List Expr} {g : GD} {gs : GsD} {vs vs' : List Nat} (h1 : PG X e (gR X.kw vs g)) (h2 : PGs X es (gsR X.kw vs' gs))
    (hs : (assignEach (e :: es) X.env).map (·.2) = assign e X.env :: (assignEach es X.env).map (·.2) := by rfl) : PGs X (e :: es) (gsR X.kw (vs ++ vs') (gsCons g gs)) := PGs.of (pgs_cons h1 h2 hs) fun v σ H Q ⟨ρ, st, env, ws, env', a, r, e, q⟩ => by
  cases r with
  | nil => cases e
  | @cons v vs w ws rv rt =>
    simp only [gsCons] at e
    cases e1 : g w env with
    | none => rw [e1] at e; cases e
    | some env1 =>
      rw [e1] at e
      exact ⟨v, vs, rfl, ρ, st, env, w, env1, a, rv, e1, fun σ' a' g1 => ⟨ρ, st, env1, ws, env', a', rt, e, fun σ2 a2 g2 => q σ2 a2 ((g1.mono fun i => List.mem_append_left _).trans (g2.mono fun i => List.mem_append_right _))⟩⟩
theorem dg_tup {es : List Expr} {k n : Nat} {pos : Pos} {gs : GsD} {vs : List Nat} (hc : X.calm = true) (h : PGs X es (gsR X.kw vs gs)) (hn : (assignEach es X.env).length = n := by rfl) (hst : (assignEach es X.env).findIdx? (·.1) = none := by rfl) :
    PG X (.Tuple es k pos) (gR X.kw vs (gTp n gs)) := PG.of (pg_tup hc h hn hst) fun v σ H Q ⟨ρ, st, env, w, env', a, r, e, q⟩ => by
  unfold gTp at e
  split at e
  · split at e
    · rename_i hl
      cases r with | v r =>
      cases r with
      | tup h1 n1 r1 => exact ⟨_, _, rfl, .inl h1, by rw [r1.length]; exact hl, ρ, st, env, _, env', a, r1.toW, e, q⟩
    · cases e
  · cases e
end

/-! ### list comprehensions -/
def wipeE (env : Env) : List Nat → Env
  | [] => env
  | v :: vs => (wipeE env vs).set v none
def lcGo (g : GD) (t : BD) (e : ED) (env : Env) : List D → Sto → List D → R (List D)
  | [], st, acc => .ok acc st
  | d :: r, st, acc => match g (.v d) env with
    | none => .bad
    | some env1 => (noX (t env1 st)).bind fun b st => if b then (noX (e env1 st)).bind fun y st => (match y with
        | .v d => lcGo g t e env r st (acc ++ [d])
        | .r _ => .bad) else lcGo g t e env r st acc
def lLc (vs : List Nat) (it : LD) (g : GD) (t : BD) (e : ED) : LD := fun env st => (it env st).bind fun ds st => if ds.length ≤ 100000 then lcGo g t e (wipeE env vs) ds st [] else .bad
def bYes : BD := fun _ st => .ok true st
theorem PTs.of {X : Cx} {e : List Expr} {t t' : TT} (h : PTs X e t) (i : ∀ σ H Q, t' σ H Q → t σ H Q) : PTs X e t' := ⟨fun pins s σ H Q I q => h.run pins s σ H Q I (i σ H Q q)⟩
section
variable {X : Cx} {ct : Nat → Value} {E : St → XK}
theorem dts_nil : PTs X [] (tT X.kw ct E bYes) := PTs.of pts_nil fun σ H Q ⟨ρ, st, env, a, h⟩ => h.here a.1 rfl
theorem dts_one {c : Expr} {t : BD} (h : PT X c (tT X.kw ct E t)) : PTs X [c] (tT X.kw ct E t) := pts_one h
end
section
variable {K : KW} {ct : Nat → Value} {E : St → XK} {ρ : Rho} {H : Hp} {σ : St} {env : Env}
theorem RelEnv.wipes (r : RelEnv K ρ H σ env) : ∀ vs : List Nat, RelEnv K ρ H (wipe σ vs) (wipeE env vs)
  | [] => r
  | v :: vs => (RelEnv.wipes r vs).wipe1 v
def unD (H : Hp) (p : Addr) : Hp := fun b => if b = p then none else H b
theorem unD_ne {p b : Addr} (h : b ≠ p) : unD H p b = H b := if_neg h
theorem unD_upd {p : Addr} {o : HO} (h : H p = some o) : upd (unD H p) p o = H := by
  funext b
  by_cases hb : b = p
  · subst hb; rw [upd_same, h]
  · rw [upd_ne hb, unD_ne hb]
theorem noX_okG {α β : Type} {rel : Rel β α} {Q : β → Hp → Prop} {EE EE' : XK} {r : R α} (h : okG K ct rel ρ H EE Q (noX r)) : okG K ct rel ρ H EE' Q r := by
  cases r with
  | ok a st => exact h
  | exc x st => exact h.elim
  | bad => exact h
/-- behind something that keeps what is hidden -/
theorem Grow.shown {ρ1 : Rho} {H1 : Hp} {p : Addr} (g : Grow (ρ.hide p) H ρ1 H1) : ρ1 = (Rho.mk ρ1.lc ρ.hid).hide p := by
  obtain ⟨lc, hid⟩ := ρ1
  have := g.hid
  simp only [Rho.hide] at this ⊢
  rw [this]
theorem Grow.under {ρ0 ρ1 : Rho} {H0 H1 : Hp} {p : Addr} (hp : H0 p = none) (a : Grow ρ0 H0 ρ (unD H p)) (g : Grow (ρ.hide p) H ρ1 H1) : Grow ρ0 H0 ⟨ρ1.lc, ρ.hid⟩ (unD H1 p) := by
  refine ⟨Nat.le_trans a.len g.len, a.hid, fun l x h e => a.ref l x h (g.ref l x (Nat.lt_of_lt_of_le h a.len) e), fun x o h n => ?_⟩
  have ne := ne_of_none h hp
  obtain ⟨h1, n1⟩ := a.obj x o h n
  rw [unD_ne ne] at h1 ⊢
  exact g.obj x o h1 n1
theorem lc_read {vs : List Nat} {it : LD} {g : GD} {t : BD} {e : ED} {Q : VK} (h : tF K ct E (lLc vs it g t e) σ H Q) :
    tLc (iR K ct E it) (gR K vs g) (tT K ct (fun _ => E0) t) (tE K ct (fun _ => E0) e) vs σ H Q := by
  obtain ⟨ρ, st, env, a, h⟩ := h
  refine ⟨ρ, st, env, a, ?_⟩
  unfold lLc at h
  cases ei : it env st with
  | exc x st' => rw [ei] at h; exact h
  | bad => rw [ei] at h; exact h.elim
  | ok ds st1 =>
  rw [ei] at h
  simp only [R.bind_ok] at h
  split at h
  rotate_left
  · exact h.elim
  rename_i hlen
  intro ρ1 H1 J gr1 s1 itk p hp
  have he1 : RelEnv K ρ1 H1 (wipe σ vs) (wipeE env vs) := (a.2.grow gr1).wipes vs
  have hph : p ∉ ρ1.hid := fun z => by obtain ⟨o, q⟩ := s1.hidt p z; rw [hp] at q; cases q
  have h' : okF K ct ρ1 H1 (E σ) Q (lcGo g t e (wipeE env vs) ds st1 []) := by
    revert h
    cases lcGo g t e (wipeE env vs) ds st1 [] with
    | ok x y => exact fun h ρ' H' p' xs g' => h ρ' H' p' xs (gr1.trans g')
    | exc x y => exact fun h ρ' H' cv od g' => h ρ' H' cv od (gr1.trans g')
    | bad => exact id
  refine ⟨fun i m Hc => m = ds.length - i ∧ i ≤ ds.length ∧ ∃ ρ2 st2 acc accD, RelSt K (ρ2.hide p) Hc st2 ∧ Hc p = some (.lst acc) ∧ RlAll K (ρ2.hide p) Hc acc accD ∧ RelEnv K (ρ2.hide p) Hc (wipe σ vs) (wipeE env vs) ∧
      Grow ρ1 H1 ρ2 (unD Hc p) ∧ accD.length ≤ i ∧ okF K ct ρ1 H1 (E σ) Q (lcGo g t e (wipeE env vs) (ds.drop i) st2 accD), ?_, ?_⟩
  · refine ⟨_, rfl, Nat.zero_le _, ρ1, st1, [], [], s1.hide hp, upd_same, .nil, he1.hide hp, ?_, Nat.le_refl _, h'⟩
    refine ⟨Nat.le_refl _, rfl, fun _ _ _ z => z, fun x o hx n => ⟨?_, n⟩⟩
    rw [unD_ne (ne_of_none hx hp), upd_ne (ne_of_none hx hp)]
    exact hx
  · rintro i m Hc ⟨rfl, hi, ρ2, st2, acc, accD, s2, hacc, racc, he2, gr2, hal, hq⟩
    have hpl : some p ∉ ρ2.lc := fun z => s2.apart p z List.mem_cons_self
    have ext : Ext ρ1 H1 (ρ2.hide p) Hc := fun x o hx n => by
      have ne := ne_of_none hx hp
      obtain ⟨h1, n1⟩ := gr2.keep hx n
      rw [unD_ne ne] at h1
      refine ⟨h1, fun z => ?_⟩
      rcases z with z | z
      · exact n1 (.inl z)
      · rcases List.mem_cons.mp z with z | z
        · exact ne z
        · exact n1 (.inr z)
    obtain ⟨turn, stop⟩ := itk (ρ2.hide p) Hc st2 ext s2
    by_cases hlt : i < ds.length
    rotate_left
    · have ei : i = ds.length := by omega
      subst ei
      refine .inl ⟨stop, ?_⟩
      rw [List.drop_length] at hq
      simp only [lcGo] at hq
      have q := hq ρ2 (unD Hc p) p acc gr2 (s2.unhide (H' := unD Hc p) (fun b hb => unD_ne hb) hpl (.inl (by rw [gr2.hid]; exact hph))) (if_pos rfl) (racc.unhide fun b hb => unD_ne hb)
      rw [unD_upd hacc] at q
      exact q
    · obtain ⟨go, yl⟩ := turn i ds[i] (List.getElem?_eq_getElem hlt)
      refine .inr ⟨go, fun Hn => ∃ ρ3 st3 acc' accD', RelSt K (ρ3.hide p) Hn st3 ∧ Hn p = some (.lst acc') ∧ RlAll K (ρ3.hide p) Hn acc' accD' ∧ RelEnv K (ρ3.hide p) Hn (wipe σ vs) (wipeE env vs) ∧
        Grow ρ1 H1 ρ3 (unD Hn p) ∧ accD'.length ≤ i + 1 ∧ okF K ct ρ1 H1 (E σ) Q (lcGo g t e (wipeE env vs) (ds.drop (i + 1)) st3 accD'), ?_, ?_⟩
      · rintro Hn ⟨ρ3, st3, acc', accD', q⟩
        exact ⟨ds.length - (i + 1), by omega, rfl, hlt, ρ3, st3, acc', accD', q⟩
      · intro x H' hy
        obtain ⟨sm, rx⟩ := yl x H' hy
        rw [List.drop_eq_getElem_cons hlt] at hq
        simp only [lcGo] at hq
        cases eg : g (.v ds[i]) (wipeE env vs) with
        | none => rw [eg] at hq; exact hq.elim
        | some env1 =>
          rw [eg] at hq
          simp only at hq
          refine ⟨ρ2.hide p, st2, wipeE env vs, .v ds[i], env1, ⟨s2.same sm, he2.grow (.same sm)⟩, .v rx, eg, fun σ2 a2 ag => ⟨ag.wipe, ?_⟩⟩
          have gr2' : Grow ρ1 H1 ρ2 (unD H' p) := by
            refine ⟨gr2.len, gr2.hid, gr2.ref, fun y o hy n => ?_⟩
            have ne := ne_of_none hy hp
            obtain ⟨h1, n1⟩ := gr2.obj y o hy n
            rw [unD_ne ne] at h1 ⊢
            exact ⟨sm _ _ h1, n1⟩
          have racc2 := racc.same sm
          have he2' := he2.grow (.same sm)
          have hacc2 := sm _ _ hacc
          refine ⟨ρ2.hide p, st2, env1, a2, ?_⟩
          cases et : t env1 st2 with
          | exc x y => rw [et] at hq; exact hq.elim
          | bad => rw [et] at hq; exact hq.elim
          | ok b st3 =>
            rw [et] at hq
            simp only [noX_ok, R.bind_ok] at hq
            intro ρ3 H3 b' g3 s3 eb
            cases eb
            have e3 := g3.shown
            have gr3 := Grow.under hp gr2' g3
            have hacc3 := (g3.obj _ _ hacc2 hpl).1
            have racc3 := racc2.grow g3
            have he3 := he2'.grow g3
            have env3 := a2.2.grow g3
            cases b with
            | false =>
              simp only [Bool.false_eq_true, if_false] at hq ⊢
              rw [e3] at s3 racc3 he3
              exact ⟨⟨ρ3.lc, ρ2.hid⟩, st3, acc, accD, s3, hacc3, racc3, he3, gr3, by omega, hq⟩
            | true =>
              simp only [if_true] at hq ⊢
              refine ⟨ρ3, st3, env1, ⟨s3, env3⟩, ?_⟩
              cases ee : e env1 st3 with
              | exc x y => rw [ee] at hq; exact hq.elim
              | bad => rw [ee] at hq; exact hq.elim
              | ok w st4 =>
                rw [ee] at hq
                simp only [noX_ok, R.bind_ok] at hq
                intro ρ4 H4 y g4 s4 ry
                cases w with
                | r l => exact hq.elim
                | v d =>
                  simp only at hq
                  cases ry with | v ry =>
                  have hpl3 : some p ∉ ρ3.lc := (g3.obj _ _ hacc2 hpl).2
                  have hacc4 := (g4.obj _ _ hacc3 hpl3).1
                  have g34 := g3.trans g4
                  have e4 := g34.shown
                  have gr4 := Grow.under hp gr2' g34
                  have racc4 := racc3.grow g4
                  have he4 := he3.grow g4
                  have hpl4 : some p ∉ ρ4.lc := (g4.obj _ _ hacc3 hpl3).2
                  have hup : ∀ b, b ≠ p → upd H4 p (.lst (acc ++ [y])) b = H4 b := fun b hb => upd_ne hb
                  rw [e4] at s4 racc4 he4 ry
                  refine ⟨acc, hacc4, Nat.lt_of_lt_of_le (show acc.length < 100001 by rw [racc.length]; omega) (by decide), ⟨ρ4.lc, ρ2.hid⟩, st4, acc ++ [y], accD ++ [d], s4.refill hup hpl4 ⟨_, upd_same⟩, upd_same, (racc4.append (.cons ry .nil)).refill hup, ?_, ?_, ?_, hq⟩
                  · exact ⟨he4.len, fun j w' ej => let ⟨v, h1, h2⟩ := he4.get j w' ej; ⟨v, h1, h2.refill hup⟩⟩
                  · refine ⟨gr4.len, gr4.hid, gr4.ref, fun z o hz n => ?_⟩
                    have ne := ne_of_none hz hp
                    obtain ⟨h1, n1⟩ := gr4.obj z o hz n
                    rw [unD_ne ne] at h1 ⊢
                    exact ⟨by rw [upd_ne ne]; exact h1, n1⟩
                  · rw [List.length_append, List.length_singleton]
                    omega
end
section
variable {X : Cx} {ct : Nat → Value} {E : St → XK} {elt tg iter : Expr} {ifs : List Expr} {scope : Scope} {own : List (Str × Nat)} {pos : Pos} {it : LD} {g : GD} {t : BD} {f : ED}
theorem df_lc (hc : X.calm = true) (hN : X.N.Nodup) (hi : PI X tg iter (iR X.kw ct E it)) (ok : BlkOk X.N X.env.scope scope own)
    (hg : ∀ (s : Shared) (H : Hp) (C : Addr) (cl : List (Str × Addr)) (fp : List Addr), PG (X.blk s H scope (compEnvC scope cl C X.env) fp) tg (gR X.kw (own.map (·.2)) g))
    (ht : ∀ (s : Shared) (H : Hp) (C : Addr) (cl : List (Str × Addr)) (fp : List Addr), PTs (X.blk s H scope (compEnvC scope cl C X.env) fp) ifs (tT X.kw ct (fun _ => E0) t))
    (he : ∀ (s : Shared) (H : Hp) (C : Addr) (cl : List (Str × Addr)) (fp : List Addr), PE (X.blk s H scope (compEnvC scope cl C X.env) fp) elt (tE X.kw ct (fun _ => E0) f)) (hs : ∀ x, foldedSetIterable iter X.env x = pure x := by intro _; rfl) :
    PE X (.ListComp elt [⟨tg, iter, ifs, 0⟩] scope pos) (tF X.kw ct E (lLc (own.map (·.2)) it g t f)) := PE.of (pe_lc hc hN hi ok hg ht he hs) fun σ H Q h => lc_read h
end
end Jv
end
section
namespace Jv
open PySem PySem.Spec L2 PyProof.Rows

theorem PS.of {X : Cx} {e : Stmt} {t t' : TS} (h : PS X e t) (i : ∀ D σ H, t' D σ H → t D σ H) : PS X e t' := ⟨fun pins s σ H D I q => h.run pins s σ H D I (i D σ H q)⟩
theorem PSs.of {X : Cx} {e : List Stmt} {t t' : TS} (h : PSs X e t) (i : ∀ D σ H, t' D σ H → t D σ H) : PSs X e t' := ⟨fun pins s σ H D I q => h.run pins s σ H D I (i D σ H q)⟩
/-! ### blocks -/
def sNil : SD := fun env st => .nx env st
def sSeq (f g : SD) : SD := fun env st => match f env st with
  | .nx env st => g env st
  | r => r
def sPass : SD := sNil
def sBrk : SD := fun env st => .bk env st
def sCnt : SD := fun env st => .ct env st
def sExpr (f : ED) : SD := fun env st => (f env st).thenS env fun _ st => .nx env st
def sRet (f : ED) : SD := fun env st => (f env st).thenS env fun w st => .rt w st
def sRetN : SD := fun _ st => .rt (.v .non) st
def sIf (c : BD) (f g : SD) : SD := fun env st => (c env st).thenS env fun b st => if b then f env st else g env st
def sAsg (f : ED) (g : GD) : SD := fun env st => (f env st).thenS env fun w st => match g w env with
  | some env' => .nx env' st
  | none => .bad
abbrev sSet (i : Nat) (f : ED) : SD := sAsg f (gNm i)
/-- what can't be reached -/
def sNo : SD := fun _ _ => .bad
section
variable {X : Cx} {ct : Nat → Value} {E : St → XK} {s1 : Stmt} {ss a b : List Stmt} {f g : SD} {e tg : Expr} {fe : ED} {c : Expr} {fc : BD} {pos : Pos}
theorem dss_nil : PSs X [] (tS X.kw ct E sNil) := PSs.of pss_nil fun D σ H ⟨ρ, st, env, a, h⟩ => h ρ H σ (.refl _ _) a
theorem dss_cons (h1 : PS X s1 (tS X.kw ct E f)) (h2 : PSs X ss (tS X.kw ct E g)) : PSs X (s1 :: ss) (tS X.kw ct E (sSeq f g)) := PSs.of (pss_cons h1 h2) fun D σ H ⟨ρ, st, env, a, h⟩ => by
  refine ⟨ρ, st, env, a, ?_⟩
  unfold sSeq at h
  cases ef : f env st with
  | nx env' st' =>
    rw [ef] at h
    exact fun ρ' H' σ' g' a' => ⟨ρ', st', env', a', okS.grow g' h⟩
  | rt w st' => rw [ef] at h; exact h
  | bk _ _ => rw [ef] at h; exact h
  | ct _ _ => rw [ef] at h; exact h
  | exc _ _ _ => rw [ef] at h; exact h
  | bad => rw [ef] at h; exact h
theorem dss_one (h1 : PS X s1 (tS X.kw ct E f)) : PSs X [s1] (tS X.kw ct E f) := pss_one h1
theorem ds_pass : PS X (.Pass pos) (tS X.kw ct E sPass) := PS.of ps_pass fun D σ H ⟨ρ, st, env, a, h⟩ => h ρ H σ (.refl _ _) a
theorem ds_brk : PS X (.Break pos) (tS X.kw ct E sBrk) := PS.of ps_break fun D σ H ⟨ρ, st, env, a, h⟩ => h ρ H σ (.refl _ _) a
theorem ds_cnt : PS X (.Continue pos) (tS X.kw ct E sCnt) := PS.of ps_continue fun D σ H ⟨ρ, st, env, a, h⟩ => h ρ H σ (.refl _ _) a
theorem ds_no : PS X s1 (tS X.kw ct E sNo) := PS.of ps_never fun D σ H ⟨ρ, st, env, a, h⟩ => h
theorem ds_expr (h : PE X e (tE X.kw ct E fe)) (hs : swapsWith e none pos.line X.env = pure false := by rfl) : PS X (.Expr e pos) (tS X.kw ct E (sExpr fe)) := PS.of (ps_expr h hs) fun D σ H ⟨ρ, st, env, a, h⟩ =>
  ⟨ρ, st, env, a, (okS.first (rel := Rw) h a.2).mono fun v H1 ⟨ρ1, st1, w, a1, g1, r1, q1⟩ => q1 ρ1 H1 σ (.refl _ _) a1⟩
theorem ds_ret (h : PE X e (tE X.kw ct E fe)) : PS X (.Return (some e) pos) (tS X.kw ct E (sRet fe)) := PS.of (ps_ret h) fun D σ H ⟨ρ, st, env, a, h⟩ =>
  ⟨ρ, st, env, a, (okS.first (rel := Rw) h a.2).mono fun v H1 ⟨ρ1, st1, w, a1, g1, r1, q1⟩ => q1 ρ1 H1 v (.refl _ _) a1.1 r1⟩
theorem ds_retN : PS X (.Return none pos) (tS X.kw ct E sRetN) := PS.of ps_retN fun D σ H ⟨ρ, st, env, a, h⟩ => h ρ H .non (.refl _ _) a.1 (.v .non)
theorem ds_if (hc : PT X c (tT X.kw ct E fc)) (ha : PSs X a (tS X.kw ct E f)) (hb : PSs X b (tS X.kw ct E g)) : PS X (.If c a b pos) (tS X.kw ct E (sIf fc f g)) := PS.of (ps_if hc ha hb) fun D σ H ⟨ρ, st, env, a, h⟩ =>
  ⟨ρ, st, env, a, (okS.first (rel := RlB) h a.2).mono fun v H1 ⟨ρ1, st1, w, a1, g1, r1, q1⟩ => by
    cases r1
    cases v with
    | true => simp only [if_true] at q1 ⊢; exact ⟨ρ1, st1, env, a1, q1⟩
    | false => simp only [Bool.false_eq_true, if_false] at q1 ⊢; exact ⟨ρ1, st1, env, a1, q1⟩⟩
theorem asg_read {K : KW} {gd : GD} {vs : List Nat} {D : Ends} {σ : St} {H : Hp} (h : tS K ct E (sAsg fe gd) D σ H) : tAsg (tE K ct E fe) (gR K vs gd) D σ H := by
  obtain ⟨ρ, st, env, a, h⟩ := h
  refine ⟨ρ, st, env, a, (okS.first (rel := Rw) h a.2).mono fun v H1 ⟨ρ1, st1, w, a1, g1, r1, q1⟩ => ?_⟩
  cases eg : gd w env with
  | none => rw [eg] at q1; exact q1.elim
  | some env' =>
    rw [eg] at q1
    exact ⟨ρ1, st1, env, w, env', a1, r1, eg, fun σ' a' _ => q1 ρ1 H1 σ' (.refl _ _) a'⟩
theorem ds_asg {gd : GD} {vs : List Nat} (he : PE X e (tE X.kw ct E fe)) (hg : PG X tg (gR X.kw vs gd)) (hs : swapsWithSole [tg] e pos.line X.env = pure false := by rfl) (hw : swappedStores [tg] e X.env = pure none := by rfl)
    (h1 : (assignEach [tg] X.env).map (·.2) = [assign tg X.env] := by rfl) : PS X (.Assign [tg] e pos) (tS X.kw ct E (sAsg fe gd)) := PS.of (ps_asg he hg hs hw h1) fun D σ H h => asg_read h
theorem ds_set {i : Nat} {x : Str} {pos' : Pos} (hN : X.N.Nodup) (he : PE X e (tE X.kw ct E fe)) (hi : X.N[i]? = some x := by rfl) (hx : Loc X.env.scope x := by first | exact Or.inl rfl | exact Or.inr rfl) (hs : swapsWith e (some (.Name x pos')) pos.line X.env = pure false := by rfl)
    (hf : X.fn x = true ∨ X.env.scope.names.lookup x = some .local := by first | exact .inl rfl | exact .inr rfl | assumption) : PS X (.Assign [.Name x pos'] e pos) (tS X.kw ct E (sSet i fe)) :=
  PS.of (ps_set hN hi hx he hs hf) fun D σ H ⟨ρ, st, env, a, h⟩ => by
    refine ⟨ρ, st, env, a, (okS.first (rel := Rw) h a.2).mono fun v H1 ⟨ρ1, st1, w, a1, g1, r1, q1⟩ => ?_⟩
    exact q1 ρ1 H1 _ (.refl _ _) ⟨a1.1, a1.2.set r1 i⟩
end
/-! ### y = [..] on one line -/
section
variable {X : Cx} {ct : Nat → Value} {E : St → XK} {elt tg iter : Expr} {ifs : List Expr} {scope : Scope} {own : List (Str × Nat)} {pos spos py : Pos} {it : LD} {g : GD} {t : BD} {f : ED} {i : Nat} {y : Str}
theorem setF_read {K : KW} {l : LD} {D : Ends} {σ : St} {H : Hp} (h : tS K ct E (sSet i (eLst l)) D σ H) : tF K ct E l σ H (fun x H1 => gName i x σ H1 D.nx) := by
  obtain ⟨ρ, st, env, a, h⟩ := h
  refine ⟨ρ, st, env, a, ?_⟩
  simp only [sAsg, eLst] at h
  cases el : l env st with
  | ok ds st' =>
    rw [el] at h
    intro ρ' H' p xs gr s hp r
    have ag : At K ρ' (upd H' p (.lst xs)) st' σ env := ⟨s.same (same_upd hp), (a.2.grow gr).grow (.same (same_upd hp))⟩
    exact h ρ' _ _ (gr.trans (.same (same_upd hp))) ⟨ag.1, ag.2.set (.v (.lst (.inl ⟨.inl upd_same, s.fresh hp⟩) (r.same (same_upd hp)))) i⟩
  | exc x st' => rw [el] at h; exact fun ρ' H' cv od gr s x => h ρ' H' σ cv od gr ⟨s, a.2.grow gr⟩ x
  | bad => rw [el] at h; exact h.elim
theorem setN_read {K : KW} {l : LD} {D : Ends} {σ : St} {H : Hp} (h : tS K ct E (sSet i (eNew l)) D σ H) : tF K ct E l σ H (fun x H1 => gName i x σ H1 D.nx) := by
  obtain ⟨ρ, st, env, a, h⟩ := h
  refine ⟨ρ, st, env, a, ?_⟩
  simp only [sAsg, eNew] at h
  cases el : l env st with
  | ok ds st' =>
    rw [el] at h
    intro ρ' H' p xs gr s hp r
    have gp : Grow ρ' H' (ρ'.push p) (upd H' p (.lst xs)) := .push hp
    refine h (ρ'.push p) _ _ (gr.trans gp) ⟨s.push hp r, ((a.2.grow gr).grow gp).set (.r (by rw [← s.len]; simp [Rho.push]) fun a ea => ?_) i⟩
    rw [← s.len] at ea
    simp [Rho.push] at ea
    rw [ea]
  | exc x st' => rw [el] at h; exact fun ρ' H' cv od gr s x => h ρ' H' σ cv od gr ⟨s, a.2.grow gr⟩ x
  | bad => rw [el] at h; exact h.elim
theorem ds_setLc (hc : X.calm = true) (hN : X.N.Nodup) (hy : X.N[i]? = some y) (hyl : X.env.scope.names.lookup y = some .local) (hsw : swapsWith (.ListComp elt [⟨tg, iter, ifs, 0⟩] scope pos) (some (.Name y py)) spos.line X.env = pure true)
    (hi : PI X tg iter (iR X.kw ct E it)) (ok : BlkOk X.N X.env.scope scope own)
    (hg : ∀ (s : Shared) (H : Hp) (C : Addr) (cl : List (Str × Addr)) (fp : List Addr), PG (X.blk s H scope (compEnvC scope cl C X.env) fp) tg (gR X.kw (own.map (·.2)) g))
    (ht : ∀ (s : Shared) (H : Hp) (C : Addr) (cl : List (Str × Addr)) (fp : List Addr), PTs (X.blk s H scope (compEnvC scope cl C X.env) fp) ifs (tT X.kw ct (fun _ => E0) t))
    (he : ∀ (s : Shared) (H : Hp) (C : Addr) (cl : List (Str × Addr)) (fp : List Addr), PE (X.blk s H scope (compEnvC scope cl C X.env) fp) elt (tE X.kw ct (fun _ => E0) f)) (hs : ∀ x, foldedSetIterable iter X.env x = pure x := by intro _; rfl) :
    PS X (.Assign [.Name y py] (.ListComp elt [⟨tg, iter, ifs, 0⟩] scope pos) spos) (tS X.kw ct E (sSet i (eLst (lLc (own.map (·.2)) it g t f)))) :=
  PS.of (ps_setLc hc hN hy hyl hsw hi ok hg ht he hs) fun D σ H h => lc_read (setF_read h)
theorem ds_setLcN (hc : X.calm = true) (hN : X.N.Nodup) (hy : X.N[i]? = some y) (hyl : X.env.scope.names.lookup y = some .local) (hsw : swapsWith (.ListComp elt [⟨tg, iter, ifs, 0⟩] scope pos) (some (.Name y py)) spos.line X.env = pure true)
    (hi : PI X tg iter (iR X.kw ct E it)) (ok : BlkOk X.N X.env.scope scope own)
    (hg : ∀ (s : Shared) (H : Hp) (C : Addr) (cl : List (Str × Addr)) (fp : List Addr), PG (X.blk s H scope (compEnvC scope cl C X.env) fp) tg (gR X.kw (own.map (·.2)) g))
    (ht : ∀ (s : Shared) (H : Hp) (C : Addr) (cl : List (Str × Addr)) (fp : List Addr), PTs (X.blk s H scope (compEnvC scope cl C X.env) fp) ifs (tT X.kw ct (fun _ => E0) t))
    (he : ∀ (s : Shared) (H : Hp) (C : Addr) (cl : List (Str × Addr)) (fp : List Addr), PE (X.blk s H scope (compEnvC scope cl C X.env) fp) elt (tE X.kw ct (fun _ => E0) f)) (hs : ∀ x, foldedSetIterable iter X.env x = pure x := by intro _; rfl) :
    PS X (.Assign [.Name y py] (.ListComp elt [⟨tg, iter, ifs, 0⟩] scope pos) spos) (tS X.kw ct E (sSet i (eNew (lLc (own.map (·.2)) it g t f)))) :=
  PS.of (ps_setLc hc hN hy hyl hsw hi ok hg ht he hs) fun D σ H h => lc_read (setN_read h)
end
/-! ### a, b = x, y -/
def sPar (i j : Nat) (g : AD) : SD := fun env st => (g env st).thenS env fun ws st => match ws with
  | [a, b] => .nx ((env.set i (some a)).set j (some b)) st
  | _ => .bad
theorem ds_par {X : Cx} {ct : Nat → Value} {E : St → XK} {i j : Nat} {x y : Str} {a b : Expr} {ta : AD} {px py pt pos : Pos} {kt k2 pt2} (hc : X.calm = true) (hN : X.N.Nodup) (hi : X.N[i]? = some x) (hj : X.N[j]? = some y) (hij : i ≠ j)
    (hx : X.env.scope.names.lookup x = some .local) (hy : X.env.scope.names.lookup y = some .local) (ha : PA X [a, b] (tA X.kw ct E ta))
    (hw : swappedStores [.Tuple [.Name x px, .Name y py] kt pt] (.Tuple [a, b] k2 pt2) X.env = pure (some [x, y])) (hs : swapsWithSole [.Tuple [.Name x px, .Name y py] kt pt] (.Tuple [a, b] k2 pt2) pos.line X.env = pure false := by rfl) :
    PS X (.Assign [.Tuple [.Name x px, .Name y py] kt pt] (.Tuple [a, b] k2 pt2) pos) (tS X.kw ct E (sPar i j ta)) := PS.of (ps_par hc hN hi hj hij hx hy ha hw hs) fun D σ H ⟨ρ, st, env, a, h⟩ => by
  refine ⟨ρ, st, env, a, (okS.first (rel := RwAll) h a.2).mono fun vs H1 ⟨ρ1, st1, ws, a1, g1, r1, q1⟩ => ?_⟩
  split at q1
  · obtain ⟨v, v', rfl, rv, rv'⟩ := r1.two
    exact ⟨v, v', rfl, q1 ρ1 H1 _ (.refl _ _) ⟨a1.1, (a1.2.set rv i).set rv' j⟩⟩
  · exact q1.elim

/-! ### for -/
def forGo (g : GD) (body : SD) : List D → Env → Sto → Fl
  | [], env, st => .nx env st
  | d :: r, env, st => match g (.v d) env with
    | none => .bad
    | some env1 => match body env1 st with
      | .nx env st => forGo g body r env st
      | .ct env st => forGo g body r env st
      | .bk env st => .nx env st
      | r => r
def sFor (it : LD) (g : GD) (body : SD) : SD := fun env st => (it env st).thenS env fun ds st => forGo g body ds env st
theorem ds_for {X : Cx} {ct : Nat → Value} {E : St → XK} {tg iter : Expr} {bd : List Stmt} {it : LD} {g : GD} {vs : List Nat} {body : SD} {pos : Pos} (hp : PassesOwn (model X.prog X.w) X.A X.env X.xe) (hc : X.calm = true) (hi : PI X tg iter (iR X.kw ct E it)) (hg : PG X tg (gR X.kw vs g)) (hb : PSs X bd (tS X.kw ct E body))
    (hs : ∀ x, foldedSetIterable iter X.env x = pure x := by intro _; rfl) : PS X (.For tg iter bd [] pos) (tS X.kw ct E (sFor it g body)) := PS.of (ps_for hp hc hi hg hb hs) fun D σ H ⟨ρ, st, env, a, h⟩ => by
  refine ⟨ρ, st, env, a, ?_⟩
  unfold sFor at h
  cases ei : it env st with
  | exc x st' => rw [ei] at h; exact fun ρ' H' cv od gr s x => h ρ' H' σ cv od gr ⟨s, a.2.grow gr⟩ x
  | bad => rw [ei] at h; exact h.elim
  | ok ds st1 =>
  rw [ei] at h
  simp only [R.thenS_ok] at h
  intro ρ1 H1 J gr1 s1 itk
  refine ⟨fun i m σ' H' => m = ds.length - i ∧ i ≤ ds.length ∧ ∃ ρ2 st2 env2, At X.kw ρ2 H' st2 σ' env2 ∧ Grow ρ1 H1 ρ2 H' ∧ okS X.kw ct ρ2 H' E D (forGo g body (ds.drop i) env2 st2), ?_, ?_⟩
  · exact ⟨_, rfl, Nat.zero_le _, ρ1, st1, env, ⟨s1, a.2.grow gr1⟩, .refl _ _, okS.grow gr1 h⟩
  · rintro i m σ' H' ⟨rfl, hi', ρ2, st2, env2, a2, gr2, hq⟩
    obtain ⟨turn, stop⟩ := itk ρ2 H' st2 gr2.ext a2.1
    by_cases hlt : i < ds.length
    rotate_left
    · have ei : i = ds.length := by omega
      subst ei
      refine .inl ⟨stop, ?_⟩
      rw [List.drop_length] at hq
      simp only [forGo] at hq
      exact hq ρ2 H' σ' (.refl _ _) a2
    · obtain ⟨go, yl⟩ := turn i ds[i] (List.getElem?_eq_getElem hlt)
      refine .inr ⟨go, fun σn Hn => ∃ ρ3 st3 env3, At X.kw ρ3 Hn st3 σn env3 ∧ Grow ρ1 H1 ρ3 Hn ∧ okS X.kw ct ρ3 Hn E D (forGo g body (ds.drop (i + 1)) env3 st3), ?_, ?_⟩
      · rintro σn Hn ⟨ρ3, st3, env3, q⟩
        exact ⟨ds.length - (i + 1), by omega, rfl, hlt, ρ3, st3, env3, q⟩
      · intro x H'' hy
        obtain ⟨sm, rx⟩ := yl x H'' hy
        rw [List.drop_eq_getElem_cons hlt] at hq
        simp only [forGo] at hq
        cases eg : g (.v ds[i]) env2 with
        | none => rw [eg] at hq; exact hq.elim
        | some env3 =>
          rw [eg] at hq
          simp only at hq
          have gs : Grow ρ2 H' ρ2 H'' := .same sm
          refine ⟨ρ2, st2, env2, .v ds[i], env3, ⟨a2.1.same sm, a2.2.grow gs⟩, .v rx, eg, fun σ3 a3 _ => ⟨ρ2, st2, env3, a3, ?_⟩⟩
          have hq := okS.grow gs hq
          have gr3 := gr2.trans gs
          cases eb : body env3 st2 with
          | nx env4 st4 =>
            rw [eb] at hq
            exact fun ρ4 H4 σ4 g4 a4 => ⟨ρ4, st4, env4, a4, gr3.trans g4, okS.grow g4 hq⟩
          | ct env4 st4 =>
            rw [eb] at hq
            exact fun ρ4 H4 σ4 g4 a4 => ⟨ρ4, st4, env4, a4, gr3.trans g4, okS.grow g4 hq⟩
          | bk env4 st4 => rw [eb] at hq; exact hq
          | rt w st4 => rw [eb] at hq; exact hq
          | exc e x st4 => rw [eb] at hq; exact hq
          | bad => rw [eb] at hq; exact hq

/-! ### while -/
def whileGo (c : BD) (body : SD) : Nat → Env → Sto → Fl
  | 0, _, _ => .bad
  | n + 1, env, st => (c env st).thenS env fun b st => if b then (match body env st with
      | .nx env st => whileGo c body n env st
      | .ct env st => whileGo c body n env st
      | .bk env st => .nx env st
      | r => r) else .nx env st
def sWhile (n : Nat) (c : BD) (body : SD) : SD := fun env st => whileGo c body n env st
theorem ds_while (n : Nat) {X : Cx} {ct : Nat → Value} {E : St → XK} {c : Expr} {bd : List Stmt} {fc : BD} {body : SD} {pos : Pos} (hp : PassesOwn (model X.prog X.w) X.A X.env X.xe) (hc : PT X c (tT X.kw ct E fc)) (hb : PSs X bd (tS X.kw ct E body)) :
    PS X (.While c bd [] pos) (tS X.kw ct E (sWhile n fc body)) := PS.of (ps_while hp hc hb) fun D σ H ⟨ρ, st, env, a, h⟩ => by
  refine ⟨fun m σ' H' => ∃ ρ2 st2 env2, At X.kw ρ2 H' st2 σ' env2 ∧ okS X.kw ct ρ2 H' E D (whileGo fc body m env2 st2), ⟨n, ρ, st, env, a, h⟩, ?_⟩
  rintro m σ' H' ⟨ρ2, st2, env2, a2, hq⟩
  cases m with
  | zero => exact hq.elim
  | succ m =>
    simp only [whileGo] at hq
    refine ⟨ρ2, st2, env2, a2, (okS.first (rel := RlB) hq a2.2).mono fun b H1 ⟨ρ3, st3, b', a3, g3, r3, q3⟩ => ?_⟩
    cases r3
    cases b with
    | false => simp only [Bool.false_eq_true, if_false] at q3 ⊢; exact q3 ρ3 H1 σ' (.refl _ _) a3
    | true =>
      simp only [if_true] at q3 ⊢
      refine ⟨fun σn Hn => ∃ ρ4 st4 env4, At X.kw ρ4 Hn st4 σn env4 ∧ okS X.kw ct ρ4 Hn E D (whileGo fc body m env4 st4), fun σn Hn q => ⟨m, Nat.lt_succ_self m, q⟩, ρ3, st3, env2, a3, ?_⟩
      cases eb : body env2 st3 with
      | nx env4 st4 => rw [eb] at q3; exact fun ρ4 H4 σ4 g4 a4 => ⟨ρ4, st4, env4, a4, okS.grow g4 q3⟩
      | ct env4 st4 => rw [eb] at q3; exact fun ρ4 H4 σ4 g4 a4 => ⟨ρ4, st4, env4, a4, okS.grow g4 q3⟩
      | bk env4 st4 => rw [eb] at q3; exact q3
      | rt w st4 => rw [eb] at q3; exact q3
      | exc e x st4 => rw [eb] at q3; exact q3
      | bad => rw [eb] at q3; exact q3
end Jv
end
section
namespace Jv
open PySem PySem.Spec L2 PyProof.Rows

/-! ### objects that change -/
section
variable {K : KW} {ρ : Rho} {H : Hp} {st : Sto}
theorem Grow.write {l : Nat} {a : Addr} {o : HO} (e : ρ.lc[l]? = some (some a)) : Grow ρ H ρ (upd H a o) :=
  ⟨Nat.le_refl _, rfl, fun _ _ _ z => z, fun b u h n => ⟨by rw [upd_ne (show b ≠ a from fun z => n (by rw [z]; exact List.mem_of_getElem? e))]; exact h, n⟩⟩
theorem RelSt.write {l : Nat} {a : Addr} {o : HO} {ob : Ob} (s : RelSt K ρ H st) (e : ρ.lc[l]? = some (some a)) (r : ObR K ρ (upd H a o) a ob) (u : ob.under l) : RelSt K ρ (upd H a o) (st.set l ob) := by
  have g : Grow ρ H ρ (upd H a o) := .write e
  refine ⟨by rw [List.length_set]; exact s.len, s.inj, fun j ob' ej => ?_, fun b hb => ?_, s.apart, fun j ob' ej => ?_⟩
  · by_cases h : l = j
    · subst h
      have hl : l < st.length := by rw [← s.len]; exact (List.getElem?_eq_some_iff.mp e).1
      rw [List.getElem?_set_self hl] at ej
      cases ej
      exact .inr ⟨a, e, r⟩
    · rw [List.getElem?_set_ne h] at ej
      rcases s.obj j ob' ej with z | ⟨b, hb, ob2⟩
      · exact .inl z
      · have ne : b ≠ a := fun z => h (s.inj l j a e (z ▸ hb))
        exact .inr ⟨b, hb, ob2.mono (fun _ z => by rw [upd_ne ne]; exact z) (fun _ _ z => z.grow g) fun _ _ z => z.grow g⟩
  · obtain ⟨u, q⟩ := s.hidt b hb
    have ne : b ≠ a := fun z => s.apart a (List.mem_of_getElem? e) (z ▸ hb)
    exact ⟨u, by rw [upd_ne ne]; exact q⟩
  · by_cases h : l = j
    · subst h
      have hl : l < st.length := by rw [← s.len]; exact (List.getElem?_eq_some_iff.mp e).1
      rw [List.getElem?_set_self hl] at ej
      cases ej
      exact u
    · rw [List.getElem?_set_ne h] at ej
      exact s.ord j ob' ej
end
/-- x.append(y) -/
def appG (w : W) (ws : List W) (st : Sto) : R W := match w, ws with
  | .r l, [.v d] => match st[l]? with
    | some (.lst ds) => if ds.length < 100000 then .ok (.v .non) (st.set l (.lst (ds ++ [d]))) else .bad
    | _ => .bad
  | _, _ => .bad
def isLst (st : Sto) : W → Bool
  | .r l => match st[l]? with
    | some (.lst _) => true
    | _ => false
  | _ => false
def eApp (f : ED) (g : AD) : ED := fun env st => (f env st).bind fun w st => if isLst st w then (g env st).bind fun ws st => appG w ws st else .bad
/-- o["x"] = y -/
def putS (kvs : List (Str × W)) (k : Str) (w : W) : Option (List (Str × W)) := if kvs.any fun p => decide (p.1 = k) then some (kvs.map fun p => if p.1 = k then (p.1, w) else p) else none
def dPut (w k v : W) (env : Env) (st : Sto) : Fl := match w, k, v with
  | .r l, .v (.str k), .v d => match st[l]? with
    | some (.dct kvs) => match putS kvs k (.v d) with
      | some kvs' => if kvs.length ≤ 1000 then .nx env (st.set l (.dct kvs')) else .bad
      | none => .bad
    | _ => .bad
  | _, _, _ => .bad
def sDPut (fo fi fv : ED) : SD := fun env st => (fv env st).thenS env fun v st => (fo env st).thenS env fun w st => (fi env st).thenS env fun k st => dPut w k v env st
/-- x[i] = y -/
def lPut (w k v : W) (env : Env) (st : Sto) : Fl := match w, k, v with
  | .r l, .v (.int i), .v d => match st[l]? with
    | some (.lst ds) => match ixN ds.length i with
      | some j => .nx env (st.set l (.lst (ds.set j d)))
      | none => .bad
    | _ => .bad
  | _, _, _ => .bad
def sLPut (fo fi fv : ED) : SD := fun env st => (fv env st).thenS env fun v st => (fo env st).thenS env fun w st => (fi env st).thenS env fun k st => lPut w k v env st
section
variable {X : Cx} {ct : Nat → Value} {E : St → XK} {o e i v : Expr} {es : List Expr} {f fi fv fo : ED} {g : AD} {apos cpos pos pos' : Pos}
theorem app_read {K : KW} {σ : St} {H : Hp} {Q : VK} (h : tE K ct E (eApp f g) σ H Q) : tBM K "list" rAppend (tE K ct E f) (tA K ct E g) σ H Q := by
  refine (tG.bind (rel := Rw) (k := fun w env st => if isLst st w then (g env st).bind fun ws st => appG w ws st else R.bad) h).mono fun x H1 ⟨ρ1, st1, env, w, a1, r1, q1⟩ => ?_
  split at q1
  rotate_left
  · exact q1.elim
  rename_i hw
  cases r1 with
  | v r1 => cases hw
  | @r l _ hl hv =>
    simp only [isLst] at hw
    split at hw
    rotate_left
    · cases hw
    rename_i ds0 e0
    rcases a1.1.obj l _ e0 with ⟨z, _⟩ | ⟨p, hp, xs, h1, h2⟩
    · cases z
    cases hv p hp
    refine ⟨.inl ⟨rfl, xs, .of h1⟩, ρ1, st1, env, a1, (okG.bind (rel := RwAll) q1 a1.2).mono fun vs H2 ⟨ρ2, st2, ws, a2, g2, r2, q2⟩ => ?_⟩
    unfold appG at q2
    split at q2
    · rename_i l' d heq
      cases heq
      split at q2
      · rename_i ds e2
        split at q2
        · rename_i hlen
          rcases a2.1.obj l _ e2 with ⟨z, _⟩ | ⟨p', hp', xs', h1', h2'⟩
          · cases z
          have ep : p' = p := by
            have := g2.ref l p' hl hp'
            rw [hp] at this
            cases this
            rfl
          subst ep
          obtain ⟨y, rfl, ry⟩ := r2.one
          cases ry with | v ry =>
          refine ⟨p', xs', y, rfl, rfl, h1', Nat.lt_of_lt_of_le (show xs'.length < 100001 by rw [h2'.length]; omega) (by decide), ?_⟩
          have gw : Grow ρ2 H2 ρ2 (upd H2 p' (.lst (xs' ++ [y]))) := .write hp'
          exact q2 ρ2 _ .non gw (a2.1.write hp' ⟨_, upd_same, (h2'.append (.cons ry .nil)).grow gw⟩ trivial) (.v .non)
        · exact q2.elim
      · exact q2.elim
    · exact q2.elim
theorem de_app (ho : PE X o (tE X.kw ct E f)) (ha : PA X (e :: es) (tA X.kw ct E g)) (hbase : attributeBase o "append" X.env (eval o X.env) = eval o X.env := by rfl)
    (hfew : ((backTo cpos (starEach (e :: es) X.env)).all (fun x => !x.1) && (backToKw cpos (keywordEach [] X.env)).all (fun x => x.1.isSome)
      && decide ((e :: es).length + ([] : List Keyword).length + (if ([] : List Keyword).isEmpty then 0 else 1) < 30)) = true := by rfl)
    (hline : (apos.endLine == cpos.line) = true := by rfl) (hs : starEach (e :: es) X.env = (false, eval e X.env) :: starEach es X.env := by rfl) (hplain : (backTo cpos (starEach es X.env)).any (·.1) = false := by rfl) :
    PE X (.Call (.Attribute o "append" apos) (e :: es) [] cpos) (tE X.kw ct E (eApp f g)) :=
  PE.of (pe_bm PySem.F.plainAttrs_list PySem.F.slot_list_append PySem.F.type_list_append mt_append ho ha hbase hfew hline hs hplain) fun σ H Q h => app_read h
theorem RlD.length {K : KW} {ρ : Rho} {H : Hp} {L : List (Key × V)} {kvs : List (Str × W)} (r : RlD K ρ H L kvs) : L.length = kvs.length := by
  induction r with
  | nil => rfl
  | cons _ _ ih => simp [ih]
theorem RlD.map {K : KW} {ρ : Rho} {H : Hp} {L : List (Key × V)} {kvs : List (Str × W)} {k : Str} {v : V} {w : W} (r : RlD K ρ H L kvs) (rv : Rw K ρ H v w) :
    RlD K ρ H (L.map fun kv => if kv.1 = (Sum.inr k : Key) then (kv.1, v) else kv) (kvs.map fun p => if p.1 = k then (p.1, w) else p) := by
  induction r with
  | nil => exact .nil
  | @cons k' v' d L ds rv' _ ih =>
    simp only [List.map_cons]
    by_cases hk : k' = k
    · subst hk
      simp only [if_true]
      exact .cons rv ih
    · have h2 : ¬ ((Sum.inr k' : Key) = Sum.inr k) := fun z => hk (Sum.inr.inj z)
      rw [if_neg h2, if_neg hk]
      exact .cons rv' ih
theorem RlD.any {K : KW} {ρ : Rho} {H : Hp} {L : List (Key × V)} {kvs : List (Str × W)} {k : Str} (r : RlD K ρ H L kvs) : (L.any fun kv => decide (kv.1 = (Sum.inr k : Key))) = kvs.any fun p => decide (p.1 = k) := by
  induction r with
  | nil => rfl
  | @cons k' v' d L ds rv' _ ih =>
    simp only [List.any_cons, ih]
    congr 1
    by_cases hk : k' = k
    · subst hk; simp
    · have h2 : ¬ ((Sum.inr k' : Key) = Sum.inr k) := fun z => hk (Sum.inr.inj z)
      rw [decide_eq_false hk, decide_eq_false h2]
theorem RlD.put {K : KW} {ρ : Rho} {H : Hp} {L : List (Key × V)} {kvs kvs' : List (Str × W)} {k : Str} {v : V} {w : W} (r : RlD K ρ H L kvs) (rv : Rw K ρ H v w) (e : Jv.putS kvs k w = some kvs') : RlD K ρ H (putK L (.inr k) v) kvs' := by
  unfold Jv.putS at e
  split at e
  · rename_i h
    cases e
    unfold putK
    rw [if_pos (by rw [r.any]; exact h)]
    exact r.map rv
  · cases e
theorem ds_dput (hu : X.A.units + 1 < cLine) (ho : PE X o (tE X.kw ct E fo)) (hi : PE X i (tE X.kw ct E fi)) (hv : PE X v (tE X.kw ct E fv)) (hs : swapsWith v (some (.Subscript o i pos')) pos.line X.env = pure false := by rfl) :
    PS X (.Assign [.Subscript o i pos'] v pos) (tS X.kw ct E (sDPut fo fi fv)) := PS.of (ps_dput hu ho hi hv hs) fun D σ H ⟨ρ, st, env, a, h⟩ => by
  refine ⟨ρ, st, env, a, (okS.first (rel := Rw) h a.2).mono fun v1 H1 ⟨ρ1, st1, w1, a1, g1, r1, q1⟩ => ?_⟩
  refine ⟨ρ1, st1, env, a1, (okS.first (rel := Rw) q1 a1.2).mono fun v2 H2 ⟨ρ2, st2, w2, a2, g2, r2, q2⟩ => ?_⟩
  refine ⟨ρ2, st2, env, a2, (okS.first (rel := Rw) q2 a2.2).mono fun v3 H3 ⟨ρ3, st3, w3, a3, g3, r3, q3⟩ => ?_⟩
  cases w2 with
  | v _ => exact q3.elim
  | r l =>
  cases w3 with
  | r _ => exact q3.elim
  | v d3 =>
  cases d3 with
  | str k =>
    cases w1 with
    | r _ => exact q3.elim
    | v d =>
    simp only [dPut] at q3
    split at q3
    · rename_i kvs ek
      split at q3
      · rename_i kvs' ep
        split at q3
        · rename_i hlen
          cases r2 with | r hl hv2 =>
          cases r3 with | v r3 =>
          cases r3
          rcases a3.1.obj l _ ek with ⟨z, _⟩ | ⟨p, hp, L, h1, h2⟩
          · cases z
          have e2 := hv2 p (g3.ref l p hl hp)
          subst e2
          have rv := (r1.grow g2).grow g3
          refine ⟨p, _, rfl, DPut.k (k := Sum.inr k) h1 (Nat.lt_of_le_of_lt (show L.length ≤ 1000 by rw [h2.length]; exact hlen) (by decide)), ?_⟩
          have gw : Grow ρ3 H3 ρ3 (upd H3 p (.dK (putK L (.inr k) v1))) := .write hp
          refine q3 ρ3 _ σ gw ⟨a3.1.write hp ⟨_, upd_same, (h2.put rv ep).mono fun _ _ z => z.grow gw⟩ ?_, a3.2.grow gw⟩
          have ord := a3.1.ord l _ ek
          unfold Jv.putS at ep
          split at ep
          · cases ep
            intro q hq
            obtain ⟨q0, hq0, rfl⟩ := List.mem_map.mp hq
            split
            · exact trivial
            · exact ord q0 hq0
          · cases ep
        · exact q3.elim
      · exact q3.elim
    · exact q3.elim
  | _ => exact q3.elim
theorem ds_lput (ho : PE X o (tE X.kw ct E fo)) (hi : PE X i (tE X.kw ct E fi)) (hv : PE X v (tE X.kw ct E fv)) (hs : swapsWithSole [.Subscript o i pos'] v pos.line X.env = pure false := by rfl) (hw : swappedStores [.Subscript o i pos'] v X.env = pure none := by rfl)
    (h1 : (assignEach [.Subscript o i pos'] X.env).map (·.2) = [assign (.Subscript o i pos') X.env] := by rfl)
    (ha : ∀ v, assign (.Subscript o i pos') X.env v = (do
      let ov ← holding [v] (eval o X.env)
      let iv ← holding [v, ov] (eval i X.env)
      standAt pos'
      holding [v, ov, iv] (setItem ov iv v)
      release [v, ov, iv] []) := by intro _; rfl) :
    PS X (.Assign [.Subscript o i pos'] v pos) (tS X.kw ct E (sLPut fo fi fv)) := PS.of (ps_asg hv (pg_sub ho hi set_list ha) hs hw h1) fun D σ H ⟨ρ, st, env, a, h⟩ => by
  refine ⟨ρ, st, env, a, (okS.first (rel := Rw) h a.2).mono fun v1 H1 ⟨ρ1, st1, w1, a1, g1, r1, q1⟩ => ?_⟩
  refine ⟨ρ1, st1, env, a1, (okS.first (rel := Rw) q1 a1.2).mono fun v2 H2 ⟨ρ2, st2, w2, a2, g2, r2, q2⟩ => ?_⟩
  refine ⟨ρ2, st2, env, a2, (okS.first (rel := Rw) q2 a2.2).mono fun v3 H3 ⟨ρ3, st3, w3, a3, g3, r3, q3⟩ => ?_⟩
  cases w2 with
  | v _ => exact q3.elim
  | r l =>
  cases w3 with
  | r _ => exact q3.elim
  | v d3 =>
  cases d3 with
  | int k =>
    cases w1 with
    | r _ => exact q3.elim
    | v d =>
    simp only [lPut] at q3
    split at q3
    · rename_i ds ek
      split at q3
      · rename_i j ej
        cases r2 with | r hl hv2 =>
        cases r3 with | v r3 =>
        cases r3
        rcases a3.1.obj l _ ek with ⟨z, _⟩ | ⟨p, hp, xs, h1, h2⟩
        · cases z
        have e2 := hv2 p (g3.ref l p hl hp)
        subst e2
        have rv := (r1.grow g2).grow g3
        cases rv with | v rv =>
        refine ⟨p, xs, k, j, rfl, rfl, h1, by rw [h2.length]; exact ej, ?_⟩
        have gw : Grow ρ3 H3 ρ3 (upd H3 p (.lst (xs.set j v1))) := .write hp
        exact q3 ρ3 _ σ gw ⟨a3.1.write hp ⟨_, upd_same, (RlAll.set rv j h2).grow gw⟩ trivial, a3.2.grow gw⟩
      · exact q3.elim
    · exact q3.elim
  | _ => exact q3.elim
end
/-! ### {"a": x, ..} as an object that changes -/
abbrev KD := Env → Sto → R (List (Str × W))
def kNil : KD := fun _ st => .ok [] st
def kCons (k : Str) (f : ED) (g : KD) : KD := fun env st => (f env st).bind fun w st => (g env st).bind fun kvs st => .ok ((k, w) :: kvs) st
def nodupK : List (Str × W) → Bool
  | [] => true
  | p :: r => !(r.any fun q => decide (q.1 = p.1)) && nodupK r
def eDct (g : KD) : ED := fun env st => (noX (g env st)).bind fun kvs st => if nodupK kvs && decide (kvs.length ≤ 15) then .ok (.r st.length) (st ++ [.dct kvs]) else .bad
/-- the readings of a display's pairs, as the layer has them -/
def trsOf (K : KW) (ct : Nat → Value) (E : St → XK) : List (Str × ED) → List (TE × TE)
  | [] => []
  | p :: r => (tC (.str p.1), tE K ct E p.2) :: trsOf K ct E r
def kOf : List (Str × ED) → KD
  | [] => kNil
  | p :: r => kCons p.1 p.2 (kOf r)
section
variable {K : KW} {ct : Nat → Value} {E : St → XK} {ρ : Rho} {H : Hp} {σ : St} {env : Env} {st : Sto}
inductive RlP' (K : KW) (ρ : Rho) (H : Hp) : List (V × V) → List (Str × W) → Prop
  | nil : RlP' K ρ H [] []
  | cons {k : Str} {v : V} {w : W} {ps : List (V × V)} {kvs : List (Str × W)} : Rw K ρ H v w → RlP' K ρ H ps kvs → RlP' K ρ H ((.str k, v) :: ps) ((k, w) :: kvs)
theorem RlP'.grow {ρ' : Rho} {H' : Hp} (g : Grow ρ H ρ' H') {ps : List (V × V)} {kvs : List (Str × W)} (r : RlP' K ρ H ps kvs) : RlP' K ρ' H' ps kvs := by
  induction r with
  | nil => exact .nil
  | cons r _ ih => exact .cons (r.grow g) ih
theorem pairs_read : ∀ (fs : List (Str × ED)) {ρ : Rho} {H : Hp} {st : Sto} {EE : XK} {Q : List (V × V) → Hp → Prop}, EE = E σ → At K ρ H st σ env → okG K ct RlP' ρ H EE Q (kOf fs env st) → tPairs (trsOf K ct E fs) σ H Q
  | [], ρ, H, st, EE, Q, _, a, h => h.here a.1 .nil
  | p :: r, ρ, H, st, EE, Q, ee, a, h => by
    subst ee
    refine ⟨ρ, st, env, a, (okG.bind (rel := Rw) h a.2).mono fun v H1 ⟨ρ1, st1, w, a1, g1, r1, q1⟩ => ?_⟩
    refine pairs_read r rfl a1 ((okG.bind (rel := RlP') q1 a1.2).mono fun ps H2 ⟨ρ2, st2, kvs, a2, g2, r2, q2⟩ => ?_)
    exact q2.here a2.1 (.cons (r1.grow g2) r2)
theorem RlP'.keys {ps : List (V × V)} {kvs : List (Str × W)} (r : RlP' K ρ H ps kvs) : ∃ L : List (Key × V), ps = L.map (fun kv => (kV kv.1, kv.2)) ∧ RlD K ρ H L kvs := by
  induction r with
  | nil => exact ⟨[], rfl, .nil⟩
  | @cons k v w ps kvs rv _ ih =>
    obtain ⟨L, e, rd⟩ := ih
    exact ⟨(.inr k, v) :: L, by rw [e]; rfl, .cons rv rd⟩
theorem putK_new {L : List (Key × V)} {k : Key} {v : V} (h : (L.any fun kv => decide (kv.1 = k)) = false) : putK L k v = L ++ [(k, v)] := by
  unfold putK
  rw [h]
  rfl
theorem merge_nodup : ∀ (more L : List (Key × V)), (L ++ more).map (·.1) |>.Nodup → mergeK L more = L ++ more
  | [], L, _ => by simp [mergeK]
  | p :: r, L, h => by
    have hn : (L.any fun kv => decide (kv.1 = p.1)) = false := by
      rw [Bool.eq_false_iff]
      intro z
      obtain ⟨q, hq, e⟩ := List.any_eq_true.mp z
      have e := of_decide_eq_true e
      rw [List.map_append, List.map_cons] at h
      have := (List.nodup_append.mp h).2.2 q.1 (List.mem_map_of_mem hq) p.1 List.mem_cons_self
      exact this e
    have := merge_nodup r (L ++ [p]) (by simpa using h)
    show mergeK (putK L p.1 p.2) r = L ++ p :: r
    rw [putK_new hn, this]
    simp
theorem nodupK_of {L : List (Key × V)} {kvs : List (Str × W)} (r : RlD K ρ H L kvs) (h : nodupK kvs = true) : (L.map (·.1)).Nodup := by
  induction r with
  | nil => exact List.nodup_nil
  | @cons k v w L kvs rv rd ih =>
    simp only [nodupK, Bool.and_eq_true, Bool.not_eq_true'] at h
    rw [List.map_cons, List.nodup_cons]
    refine ⟨fun z => ?_, ih h.2⟩
    obtain ⟨q, hq, e⟩ := List.mem_map.mp z
    have := rd.any (k := k)
    rw [h.1] at this
    have h3 : (L.any fun kv => decide (kv.1 = (Sum.inr k : Key))) = true := List.any_eq_true.mpr ⟨q, hq, decide_eq_true e⟩
    rw [this] at h3
    cases h3
end
theorem pps_ind {X : Cx} {ct : Nat → Value} {E : St → XK} {pos : Pos} {k : Str} {j} {kp : Pos} {v : Expr} {f : ED} {ks : List (Option Expr)} {vs : List Expr} {fs : List (Str × ED)} (hv : PE X v (tE X.kw ct E f)) (hr : PPs X pos ks vs (trsOf X.kw ct E fs)) :
    PPs X pos (some (.Constant (.str k) j kp) :: ks) (v :: vs) (trsOf X.kw ct E ((k, f) :: fs)) := pps_cons pe_str hv hr
theorem pushD {K : KW} {ρ : Rho} {H : Hp} {st : Sto} {p : Addr} {L : List (Key × V)} {kvs : List (Str × W)} (s : RelSt K ρ H st) (hp : H p = none) (r : RlD K ρ H L kvs) : RelSt K (ρ.push p) (upd H p (.dK L)) (st ++ [.dct kvs]) := by
  have s1 := s.push (xs := []) (ds := []) hp .nil
  have hl : (ρ.push p).lc[st.length]? = some (some p) := by rw [← s.len]; simp [Rho.push]
  have g1 : Grow ρ H (ρ.push p) (upd H p (.dK L)) := .push hp
  have g2 : Grow ρ H (ρ.push p) (upd H p (.lst [])) := .push hp
  have u : Ob.under st.length (.dct kvs) := by
    clear s1 hl g1 g2
    induction r with
    | nil => intro q hq; cases hq
    | @cons k v w L kvs rv _ ih =>
      intro q hq
      rcases List.mem_cons.mp hq with rfl | hq
      · cases rv with
        | v _ => exact trivial
        | r h _ => rw [s.len] at h; exact h
      · exact ih q hq
  have := s1.write (o := .dK L) (ob := .dct kvs) hl ⟨L, upd_same, ?_⟩ u
  · rw [upd_upd] at this
    rwa [List.set_append_right _ _ (Nat.le_refl _), Nat.sub_self] at this
  · rw [upd_upd]
    exact r.mono fun _ _ z => z.grow g1
theorem de_dct {X : Cx} {ct : Nat → Value} {E : St → XK} {pos : Pos} {keys : List (Option Expr)} {values : List Expr} {fs : List (Str × ED)} (h : PPs X pos keys values (trsOf X.kw ct E fs)) (hall : keys.all (·.isSome) = true := by rfl) (hl : keys.length = values.length := by rfl) (h0 : keys ≠ [] := by exact fun z => by cases z)
    (h15 : keys.length ≤ 15 := by decide) : PE X (.Dict keys values pos) (tE X.kw ct E (eDct (kOf fs))) := PE.of (pe_disp h hall hl h0 h15) fun σ H Q ⟨ρ, st, env, a, q⟩ => by
  intro p hp
  have ap : At X.kw (ρ.hide p) (upd H p (.dK [])) st σ env := ⟨a.1.hide hp, a.2.hide hp⟩
  unfold eDct at q
  refine pairs_read fs (EE := E σ) rfl ap ?_
  cases ek : kOf fs env st with
  | exc x st' => rw [ek] at q; exact q.elim
  | bad => rw [ek] at q; exact q.elim
  | ok kvs st' =>
    rw [ek] at q
    simp only [noX_ok, R.bind_ok] at q
    split at q
    rotate_left
    · exact q.elim
    rename_i c
    rw [Bool.and_eq_true] at c
    intro ρ1 H1 ps g1 s1 r1
    have hpl : some p ∉ ρ.lc := fun z => a.1.fresh hp (.inl z)
    obtain ⟨h1, n1⟩ := g1.obj _ _ upd_same hpl
    obtain ⟨L, rfl, rd⟩ := r1.keys
    have e1 := g1.shown
    have gr : Grow ρ H ⟨ρ1.lc, ρ.hid⟩ (unD H1 p) := Grow.under hp (by
      refine ⟨Nat.le_refl _, rfl, fun _ _ _ z => z, fun x o hx n => ⟨?_, n⟩⟩
      rw [unD_ne (ne_of_none hx hp), upd_ne (ne_of_none hx hp)]
      exact hx) g1
    have hph : p ∉ ρ.hid := fun z => by obtain ⟨o, w⟩ := a.1.hidt p z; rw [hp] at w; cases w
    rw [e1] at s1 rd
    have un : ∀ b, b ≠ p → unD H1 p b = H1 b := fun b hb => unD_ne hb
    have s2 : RelSt X.kw ⟨ρ1.lc, ρ.hid⟩ (unD H1 p) st' := s1.unhide un n1 (.inl hph)
    have rd2 : RlD X.kw ⟨ρ1.lc, ρ.hid⟩ (unD H1 p) L kvs := rd.mono fun _ _ z => z.unhide un
    refine ⟨h1, L, rfl, by rw [rd2.length]; exact of_decide_eq_true c.2, ?_⟩
    rw [merge_nodup L [] (by simpa using nodupK_of rd2 c.1), List.nil_append]
    have e2 : upd H1 p (.dK L) = upd (unD H1 p) p (.dK L) := by
      funext b
      by_cases hb : b = p
      · subst hb; rw [upd_same, upd_same]
      · rw [upd_ne hb, upd_ne hb, unD_ne hb]
    rw [e2]
    refine q _ _ _ (gr.trans (.push (if_pos rfl))) (pushD s2 (if_pos rfl) rd2) (.r ?_ fun x hx => ?_)
    · rw [← s2.len]; simp [Rho.push]
    · rw [← s2.len] at hx
      simp [Rho.push] at hx
      rw [hx]

/-! ### {} -/
section
variable {X : Cx} {ct : Nat → Value} {E : St → XK}
theorem de_dnew {pos : Pos} : PE X (.Dict [] [] pos) (tE X.kw ct E (eCon (.dct []))) := PE.of pe_dnewK fun σ H Q ⟨ρ, st, env, a, h⟩ p hp =>
  okG.up h a.1 (same_upd hp) (.v (.dct0 upd_same (a.1.fresh hp)))
end

/-! ### t[::-1] of a tuple -/
theorem adjust_rev (n : Nat) : Builtin.Slice.sliceAdjust none none (-1) (n : Int) = ((n : Int) - 1, -1) := by
  unfold Builtin.Slice.sliceAdjust
  simp
theorem places_rev (n : Nat) : Builtin.Slice.slicePlaces ((n : Int) - 1) (-1) (-1) = n := by
  unfold Builtin.Slice.slicePlaces
  have h1 : ¬ ((-1 : Int) > 0) := by omega
  simp only [h1, if_false, Int.neg_neg, Int.ediv_one]
  split <;> omega
theorem fm_congr {α β : Type} {f g : α → Option β} : ∀ {l : List α}, (∀ x ∈ l, f x = g x) → l.filterMap f = l.filterMap g
  | [], _ => rfl
  | x :: r, h => by rw [List.filterMap_cons, List.filterMap_cons, h x List.mem_cons_self, fm_congr fun y hy => h y (List.mem_cons_of_mem _ hy)]
theorem pick_rev (xs : Array Value) : ((List.range xs.size).filterMap fun (m : Nat) => xs[(((xs.size : Nat) : Int) - 1 + (m : Int) * (-1)).toNat]?).toArray = xs.toList.reverse.toArray := by
  have e : (List.range xs.size).filterMap (fun (m : Nat) => xs[(((xs.size : Nat) : Int) - 1 + (m : Int) * (-1)).toNat]?) = (List.range xs.size).filterMap (fun (m : Nat) => xs[xs.size - 1 - m]?) := by
    refine fm_congr fun m hm => ?_
    have hm := List.mem_range.mp hm
    have : (((xs.size : Nat) : Int) - 1 + (m : Int) * (-1)).toNat = xs.size - 1 - m := by omega
    rw [this]
  rw [e]
  have e2 : (List.range xs.size).filterMap (fun (m : Nat) => xs[xs.size - 1 - m]?) = ((List.range xs.size).map fun k => xs.size - 1 - k).filterMap (xs[·]?) := by rw [List.filterMap_map]; rfl
  rw [e2, PySem.W.krv_range, List.filterMap_reverse, PySem.W.krv_all]
section
variable {prog : Program} {w : World} {A : Around} {E : Value → Shared → Prop} {s : Shared}
theorem applied_rev {sl : Addr} {vl vu vs : Value} {n : Nat} {Q : Int × Int × Nat → Shared → Prop} (hs : s.heap.IsSliceOf sl vl vu vs) (pl : IsPart vl none) (pu : IsPart vu none) (ps : IsPart vs (some (-1)))
    (h : Q ((n : Int) - 1, -1, n) s) : wpAny (model prog w) A (Builtin.Slice.sliceApplied (.ref sl) (pure (n : Int))) Q E s := by
  obtain ⟨os, hos, hcs, hds⟩ := id hs
  unfold Builtin.Slice.sliceApplied Builtin.Slice.sliceFields
  refine wpAny_bind (wpAny_bind (wpAny_field hos hds (x := vl) rfl (wpAny_bind (wpAny_field hos hds (x := vu) rfl (wpAny_bind (wpAny_field hos hds (x := vs) rfl (wpAny_pure ?_)))))))
  refine wpAny_bind (HT.slicePart_ ps ?_)
  show wpAny _ _ (if ((-1 : Int) == 0) = true then _ else _) _ _ s
  rw [if_neg (by decide)]
  refine wpAny_bind (HT.slicePart_ pl (wpAny_bind (HT.slicePart_ pu (wpAny_bind (wpAny_pure ?_)))))
  show wpAny _ _ (match Builtin.Slice.sliceAdjust none none (-1) (n : Int) with | (lo, hi) => pure (lo, (-1 : Int), Builtin.Slice.slicePlaces lo hi (-1))) _ _ s
  rw [adjust_rev n]
  show wpAny _ _ (pure ((n : Int) - 1, (-1 : Int), Builtin.Slice.slicePlaces ((n : Int) - 1) (-1) (-1))) _ _ s
  rw [places_rev]
  exact wpAny_pure h
theorem getItem_tuple_rev {t sl : Addr} {items : Array Value} {vl vu vs : Value} {Q : Value → Shared → Prop} (ht : IsTup s.heap t items) (hs : s.heap.IsSliceOf sl vl vu vs) (pl : IsPart vl none) (pu : IsPart vu none) (ps : IsPart vs (some (-1)))
    (h : Q (.ref s.heap.objs.size) { s with heap := s.heap.push { cls := .type "tuple", data := .seq items.toList.reverse.toArray } }) (hsz : items.size ≤ sizeLine) : wpAny (model prog w) A (getItem (.ref t) (.ref sl)) Q E s := by
  have hz : sizeOk (.seq items.toList.reverse.toArray) := by
    show items.toList.reverse.toArray.size ≤ sizeLine
    rw [List.size_toArray, List.length_reverse, Array.length_toList]
    exact hsz
  obtain ⟨os, hos, hcs, hds⟩ := id hs
  have hTs : s.TypeIs (.ref sl) "slice" := ⟨os, hos, hcs⟩
  unfold getItem
  try with_reducible refine wpAny_holding ?_
  first | refine wpAny_bind (wpAny_pure ?_) | skip
  refine wpAny_bind (wpAny_sequenceKey ht.typeIs (by decide) ?_)
  refine wpAny_bind (wpAny_callSpecial?_slot (name := Str.ofString "__getitem__") ht.typeIs PyProof.Rows.slot_tuple_getitem (wpAny_call_entry PyProof.Rows.slot_tuple_getitem ht.typeIs entry_tuple_getitem ?_ (args_tuple_getitem _ _)))
  show wpAny _ _ (Builtin.Tuple.tupleItemsOf (.ref t) >>= _) _ _ s
  refine wpAny_bind (tupleItemsOf_ ht ?_)
  refine wpAny_bind (wpAny_typeOf hTs ?_)
  rw [if_pos (by decide)]
  refine wpAny_bind (applied_rev hs pl pu ps ?_)
  have hno : ¬ ((((items.size : Nat) : Int) - 1 == 0 && (-1 : Int) == 1 && items.size == items.size) = true) := by simp
  show wpAny _ _ (if (((items.size : Nat) : Int) - 1 == 0 && (-1 : Int) == 1 && items.size == items.size) = true then _ else _) _ _ s
  rw [if_neg hno, pick_rev]
  first
    | exact wpAny_bind (m := Builtin.Tuple.tupleExact _) (wpAny_newObj_type (wpAny_pure ⟨_, rfl, wpAny_pure h⟩) hz)
    | exact wpAny_bind (m := Builtin.Tuple.tupleExact _) (wpAny_newObj_type (wpAny_bind (wpAny_pure (wpAny_pure ⟨_, rfl, wpAny_pure h⟩))) hz)
    | exact wpAny_bind (wpAny_bind (m := Builtin.Tuple.tupleExact _) (wpAny_newObj_type (wpAny_pure (wpAny_pure ⟨_, rfl, wpAny_pure h⟩)) hz))
    | exact wpAny_bind (wpAny_bind (m := Builtin.Tuple.tupleExact _) (wpAny_newObj_type (wpAny_pure ⟨_, rfl, wpAny_pure h⟩) hz))
end
def tRevT (K : KW) (te : TE) : TE := fun σ H Q => te σ H fun x H1 => ∃ a xs, x = .ref a ∧ SqT K H1 a xs ∧ ∀ p, H1 p = none → Q (.ref p) (upd H1 p (.tup xs.reverse))
theorem pe_revT {X : Cx} {e : Expr} {te : TE} {k : Nat} {p1 p2 p3 pos : Pos} (he : PE X e te) : PE X (.Subscript e (.Slice none none (some (.UnaryOp .USub (.Constant (.int 1) k p1) p2)) p3) pos) (tRevT X.kw te) := ⟨fun pins s σ H Q I h => by
  refine Subscript_ (thn (he.run pins s σ H _ I h) ?_)
  rintro v s1 ⟨x, H1, I1, r1, a, xs, rfl, hx, q⟩
  cases r1
  have hst : PO X (some (.UnaryOp .USub (.Constant (.int 1) k p1) p2)) (tPart (tUn (rU fun i => .int (-i)) (tC (.int 1)))) := po_some (pe_un un_neg pe_int)
  refine wpAny_Slice (thn (po_none.run pins s1 σ H1 (fun o H2 => o = none ∧ H2 = H1) I1 ⟨rfl, rfl⟩) ?_)
  rintro vl s2 ⟨l, H2, I2, pl, rfl, rfl⟩
  refine thn (po_none.run pins s2 σ H2 (fun o H3 => o = none ∧ H3 = H2) I2 ⟨rfl, rfl⟩) ?_
  rintro vu s3 ⟨u, H3, I3, pu, rfl, rfl⟩
  refine thn (hst.run pins s3 σ H3 (fun o H4 => o = some (-1) ∧ H4 = H3) I3 ⟨1, rfl, -1, rfl, rfl, rfl⟩) ?_
  rintro vs s4 ⟨o, H4, I4, ps, rfl, rfl⟩
  have I5 : Inv X pins σ H4 { s4 with heap := s4.heap.push { cls := .type "slice", data := .fields #[vl, vu, vs] } } := I4.kept (t' := s4.toks) fun b ob q => Heap.get?_push_of_some _ q
  obtain ⟨its, r, ht, hz⟩ := I5.tuple hx
  have hlen := r.length
  show wpAny (model X.prog X.w) X.A (subscriptTail e (.Slice none none (some (.UnaryOp .USub (.Constant (.int 1) k p1) p2)) p3) (.ref a) (.ref s4.heap.objs.size)) (EP X pins σ Q) X.xe { s4 with heap := s4.heap.push { cls := .type "slice", data := .fields #[vl, vu, vs] } }
  refine tail_any (ops := [.ref a, .ref s4.heap.objs.size]) ht.typeIs (PyProof.Rows.slot_tuple_getitem.lookup) ?_ (by with_unfolding_all rfl)
  refine getItem_tuple_rev ht (Heap.IsSliceOf.new _ vl vu vs) pl pu ps ?_ (by rw [List.size_toArray]; omega)
  refine ⟨.ref _, _, I5.laid (t' := s4.toks) (o := .tup xs.reverse) (fun b ob q => Heap.get?_push_of_some _ q) (Nat.le_refl _) ?_, rfl, q _ (I5.hok.fresh (Nat.le_refl _))⟩
  exact ⟨by rw [List.length_reverse]; exact hz, _, r.reverse, IsTup.new _ _⟩⟩
def eRevT (f : ED) : ED := fun env st => (f env st).bind fun w st => match w with
  | .v (.tup ds) => .ok (.v (.tup ds.reverse)) st
  | _ => .bad
theorem de_revT {X : Cx} {ct : Nat → Value} {E : St → XK} {e : Expr} {f : ED} {k : Nat} {p1 p2 p3 pos : Pos} (h : PE X e (tE X.kw ct E f)) : PE X (.Subscript e (.Slice none none (some (.UnaryOp .USub (.Constant (.int 1) k p1) p2)) p3) pos) (tE X.kw ct E (eRevT f)) :=
  PE.of (pe_revT h) fun σ H Q q => by
    refine (tG.bind (rel := Rw) (k := fun w _ st => match w with | .v (.tup ds) => R.ok (W.v (D.tup ds.reverse)) st | _ => R.bad) q).mono fun v H1 ⟨ρ1, st1, env, w, a1, r1, q1⟩ => ?_
    split at q1
    · cases r1 with | v r1 =>
      cases r1 with
      | tup h1 n1 r2 => exact ⟨_, _, rfl, .inl h1, fun p hp => okG.up q1 a1.1 (same_upd hp) (.v (.tup (.inl upd_same) (a1.1.fresh hp) (r2.reverse.same (same_upd hp))))⟩
    · exact q1.elim
end Jv
end
section
namespace Jv
open PySem PySem.Spec L2 PyProof.Rows
/-! ### list + list: a new list -/
def lCat (f1 f2 : ED) : LD := fun env st => (f1 env st).bind fun a st => (f2 env st).bind fun b st => match asLst st a, asLst st b with
  | some xs, some ys => if xs.length + ys.length ≤ 100000 then .ok (xs ++ ys) st else .bad
  | _, _ => .bad
section
variable {X : Cx} {ct : Nat → Value} {E : St → XK} {a b : Expr} {fa fb : ED} {pos : Pos}
theorem op_catL : OpR X (binaryOp .Add) (fun x y H Q => ∃ l b xs zs, x = .ref l ∧ y = .ref b ∧ SqL X.kw H l xs ∧ SqL X.kw H b zs ∧ xs.length + zs.length ≤ sizeLine ∧ ∀ p, H p = none → Q (.ref p) (upd H p (.lst (xs ++ zs)))) := by
  intro pins s σ H x y v u Q I rx ry h
  obtain ⟨l, b, xs, zs, rfl, rfl, h1, h2, hz, q⟩ := h
  cases rx
  cases ry
  obtain ⟨its, r1, ⟨⟨cls, dd, data, sl⟩, n, ho, hc, _, hd⟩, _⟩ := I.list h1
  obtain ⟨its2, r2, ⟨⟨cls2, dd2, data2, sl2⟩, n2, ho2, hc2, _, hd2⟩, _⟩ := I.list h2
  simp only at hc hd hc2 hd2
  subst hc hd hc2 hd2
  have l1 := r1.length
  have l2 := r2.length
  have e : its.toArray ++ its2.toArray = (its ++ its2).toArray := by simp
  have sz : its.toArray.size + its2.toArray.size ≤ sizeLine := by rw [List.size_toArray, List.size_toArray]; omega
  have meets := list_addW l b its.toArray its2.toArray n n2 dd dd2 sl sl2 sz
  refine concat_meets ⟨_, ho, rfl⟩ ⟨_, ho2, rfl⟩ noFill_list_add seq_list_add PySem.F.slot_list_add PySem.F.entry_list_add (PySem.F.args_list_add_2 _ _) meets ⟨ho, ho2, ?_⟩
  rw [e]
  exact ⟨.ref _, _, I.lnew (t' := s.toks) (r1.append r2) (by rw [List.length_append]; exact hz), rfl, q _ I.fresh⟩
theorem df_cat (ha : PE X a (tE X.kw ct E fa)) (hb : PE X b (tE X.kw ct E fb)) : PE X (.BinOp a .Add b pos) (tF X.kw ct E (lCat fa fb)) := PE.of (pe_op op_catL ha hb) fun σ H Q ⟨ρ, st, env, at', h⟩ => by
  refine ⟨ρ, st, env, at', ?_⟩
  unfold lCat at h
  cases e1 : fa env st with
  | exc x st' => rw [e1] at h; exact h
  | bad => rw [e1] at h; exact h.elim
  | ok w1 st1 =>
    rw [e1] at h
    simp only [R.bind_ok] at h
    intro ρ1 H1 v g1 s1 r1
    refine ⟨ρ1, st1, env, ⟨s1, at'.2.grow g1⟩, ?_⟩
    cases e2 : fb env st1 with
    | exc x st' => rw [e2] at h; exact fun ρ' H' cv od g => h ρ' H' cv od (g1.trans g)
    | bad => rw [e2] at h; exact h.elim
    | ok w2 st2 =>
      rw [e2] at h
      simp only [R.bind_ok] at h
      intro ρ2 H2 u g2 s2 r2
      split at h
      · rename_i xs ys ex ey
        split at h
        · rename_i hl
          obtain ⟨p, vs, rfl, h1, h2⟩ := lst_of s2 (r1.grow g2) ex
          obtain ⟨p', vs', rfl, h1', h2'⟩ := lst_of s2 r2 ey
          exact ⟨_, _, _, _, rfl, rfl, h1, h1', sl5 (by rw [h2.length, h2'.length]; exact hl), fun q hq => h ρ2 H2 q _ (g1.trans g2) s2 hq (h2.append h2')⟩
        · exact h.elim
      · exact h.elim
end
end Jv
end
section
namespace Jv
open PySem PySem.Spec L2 PyProof.Rows
theorem hu64 {A : Around} {k : Nat} (hr : Room k A) : A.units + 64 < cLine := by have := hr.un; omega
theorem hu65 {A : Around} {k : Nat} (hr : Room k A) : A.units + 65 < cLine := by have := hr.un; omega
theorem bt_len : bootBuiltins "len" = some (.builtin "len") := by decide +kernel
theorem bt_isinstance : bootBuiltins "isinstance" = some (.builtin "isinstance") := by decide +kernel
theorem bt_all : bootBuiltins "all" = some (.builtin "all") := by decide +kernel
theorem bt_any : bootBuiltins "any" = some (.builtin "any") := by decide +kernel
theorem bt_min : bootBuiltins "min" = some (.builtin "min") := by decide +kernel
theorem bt_max : bootBuiltins "max" = some (.builtin "max") := by decide +kernel
theorem bt_repr : bootBuiltins "repr" = some (.builtin "repr") := by decide +kernel
theorem bt_sorted : bootBuiltins "sorted" = some (.builtin "sorted") := by decide +kernel
theorem bt_str : bootBuiltins "str" = some (.type "str") := by decide +kernel
theorem bt_int : bootBuiltins "int" = some (.type "int") := by decide +kernel
theorem bt_bool : bootBuiltins "bool" = some (.type "bool") := by decide +kernel
theorem bt_list : bootBuiltins "list" = some (.type "list") := by decide +kernel
theorem bt_tuple : bootBuiltins "tuple" = some (.type "tuple") := by decide +kernel
theorem bt_dict : bootBuiltins "dict" = some (.type "dict") := by decide +kernel
/-- a def of the text, by its name -/
structure Cal (P : Program) (w : World) (K : PySem.W.Frag) (mg : Str → Option Value) (base : Heap) (ct : Nat → Value) (x : Str) (n k : Nat) (run : List W → Sto → R W) : Prop where
  ex : ∃ (f : Addr) (fd : FuncData) (ps : List Str), FnG P w K mg base CX0 k f fd ps (spG ⟨K, w, mg⟩ ct n run) ∧ mg x = some (.ref f) ∧ PySem.W.keepIn K (.ref f) = true ∧ Binds K fd ps []
theorem cal_mk {P : Program} {w : World} {K : PySem.W.Frag} {mg : Str → Option Value} {base : Heap} {ct : Nat → Value} {x y qual : Str} {st : Stmt} {n k : Nat} {run : List W → Sto → R W} {f : Addr} {fd : FuncData} {ps : List Str}
    (F : Fun K y qual st f fd) (g : mg x = some (.ref f)) (b : Binds K fd ps []) (G : FnG P w K mg base CX0 k f fd ps (spG ⟨K, w, mg⟩ ct n run)) : Cal P w K mg base ct x n k run := ⟨f, fd, ps, G, g, F.kp, b⟩
section
variable {X : Cx} {ct : Nat → Value} {E : St → XK} {k : Nat} {n : Nat} {run : List W → Sto → R W} {x : Str} {p pos : Pos} {e : Expr} {es : List Expr} {g : AD}
theorem de_calC (C : Cal X.prog X.w X.K X.mg X.base ct x n k run) (gd : X.A.guards = some []) (hr : Room k X.A) (hg : Gl X x) (hn : ∀ env st ws st', g env st = .ok ws st' → ws.length = n) (ha : PA X (e :: es) (tA X.kw ct E g)) (hdb : (x == ("__debug__" : Str)) = false := by decide)
    (he : starEach (e :: es) X.env = (false, eval e X.env) :: starEach es X.env := by rfl) (hpl : (backTo pos (starEach es X.env)).any (·.1) = false := by rfl) : PE X (.Call (.Name x p) (e :: es) [] pos) (tE X.kw ct E (eCall run g)) := by
  obtain ⟨f, fd, ps, G, m, kp, b⟩ := C.ex
  exact de_call G gd hr hg m kp b pass00 hn ha hdb he hpl
theorem de_calC0 (C : Cal X.prog X.w X.K X.mg X.base ct x 0 k run) (gd : X.A.guards = some []) (hr : Room k X.A) (hg : Gl X x) (hdb : (x == ("__debug__" : Str)) = false := by decide) : PE X (.Call (.Name x p) [] [] pos) (tE X.kw ct E (eCall run aNil)) := by
  obtain ⟨f, fd, ps, G, m, kp, b⟩ := C.ex
  exact de_call0 G gd hr hg m kp b pass00 hdb
end
end Jv
end
section
namespace Jv
open PySem PySem.Spec L2 PyProof.Rows
/-! ### -x -/
def eNeg (f : ED) : ED := fun env st => (f env st).bind fun w st => match w with
  | .v (.int i) => .ok (.v (.int (-i))) st
  | _ => .bad
theorem de_neg {X : Cx} {ct : Nat → Value} {E : St → XK} {a : Expr} {fa : ED} {pos : Pos} (h : PE X a (tE X.kw ct E fa)) : PE X (.UnaryOp .USub a pos) (tE X.kw ct E (eNeg fa)) := PE.of (pe_un un_neg h) fun σ H Q q => by
  refine (tG.bind (rel := Rw) (k := fun w _ st => match w with | .v (.int i) => R.ok (W.v (D.int (-i))) st | _ => R.bad) q).mono fun v H1 ⟨ρ1, st1, env, w, a1, r1, q1⟩ => ?_
  split at q1
  · cases r1 with | v r1 => cases r1; exact ⟨_, rfl, q1.here a1.1 (.v (.int _))⟩
  · exact q1.elim

/-! ### enumerate of a tuple -/
theorem meets_enumT {v : Value} {o : Obj} {Hh : Heap → Prop} (B : Begins v o Hh) : Meets (Builtin.«enumerate.__new__» ⟨[.type "enumerate", v], []⟩) (fun _ R s => Hh s.heap ∧
      R (.ok (.ret (.ref (s.heap.push o).objs.size))) { s with heap := (s.heap.push o).push { cls := .type "enumerate", data := .fields #[.none, .bool false, .ref s.heap.objs.size, rawInt 0, .none, .none] } }) :=
  .of_wp fun prog w A R s hyp => by
    obtain ⟨hp, g, d, tk, os⟩ := s
    obtain ⟨h1, h⟩ := hyp
    have hsub := sub_enumerate
    have q1 : ∀ {A' : Around} {E : Value → Shared → Prop} {Q : Value → Shared → Prop}, Q (.ref hp.objs.size) ⟨hp.push o, g, d, tk, os⟩ → wpAny (model prog w) A' (pyIter v) Q E ⟨hp, g, d, tk, os⟩ := fun q => B.iter prog w _ _ ⟨hp, g, d, tk, os⟩ _ h1 q
    wp_walk using q1
    refine wpAny_stack_any fun st => wpAny_pure ?_
    split
    · rename_i c _ _ _ _ _
      cases (c == Value.type "enumerate") <;> (wp_walk using q1; exact ⟨_, rfl, h⟩)
    · wp_walk using q1
      exact ⟨_, rfl, h⟩
theorem call_enumT {prog : Program} {w : World} {A : Around} {E : Value → Shared → Prop} {s : Shared} {v : Value} {o : Obj} {Hh : Heap → Prop} {Q : Value → Shared → Prop} (B : Begins v o Hh) (h1 : Hh s.heap)
    (h : ∀ h', IsEnum h' (s.heap.objs.size + 1) s.heap.objs.size 0 .none → h'.get? s.heap.objs.size = some o → h'.objs.size = s.heap.objs.size + 2 → (∀ b o, s.heap.get? b = some o → h'.get? b = some o) → Q (.ref (s.heap.objs.size + 1)) { s with heap := h' }) :
    wpAny (model prog w) A (call (.type "enumerate") [v]) Q E s := by
  have hz : (s.heap.push o).objs.size = s.heap.objs.size + 1 := Heap.size_push ..
  refine callType_new F.called_enumerate (by decide) (F.typeCall_enumerate_1 _) (F.newCall_enumerate_1 _) (fun obj => F.args_object_init_2 obj _) F.entry_enumerate_new (meets_enumT B) ⟨h1, ?_⟩
  show _ ∧ _
  rw [hz]
  have he := Heap.get?_push_size (s.heap.push o) (o := { cls := .type "enumerate", data := .fields #[.none, .bool false, .ref s.heap.objs.size, rawInt 0, .none, .none] }) rfl
  rw [hz] at he
  exact ⟨⟨_, he, rfl⟩, h _ he (Heap.get?_push_of_some _ (Heap.get?_push_size _ B.free)) (by rw [Heap.size_push, hz]) fun b o x => Heap.get?_push_of_some _ (Heap.get?_push_of_some _ x)⟩
def IteT (K : PySem.W.Frag) (a : Addr) : It where
  go := fun i H => ∃ (xs : List V) (x : V), SqT K H a xs ∧ xs[i]? = some x
  yld := fun i H v H' => ∃ T x, v = .ref T ∧ H T = none ∧ H' = upd H T (.tup [.int (i : Nat), x]) ∧ ∀ xs, SqT K H a xs → xs[i]? = some x
  stop := fun i H => ∃ xs : List V, SqT K H a xs ∧ xs.length = i
theorem turn_enumT {P : Program} {w : World} {K : PySem.W.Frag} {elts : List Expr} {kk : Nat} {tpos : Pos} (a e it : Addr) : Turn P w K (.Tuple elts kk tpos) (IteT K a) [e, it] e (fun i h => (∃ old, IsEnum h e it ((i : Nat) : Int) old) ∧ h.IsTupleIter it a i ∧ e ≠ it ∧ a ≠ it ∧ e ≠ a) where
  mem := by simp
  obj := by
    rintro i h ⟨⟨old, he⟩, ⟨o, ho, hc, hd⟩, _⟩ b hb
    rcases (show b = e ∨ b = it by simpa using hb) with rfl | rfl
    · exact ⟨_, he, fun v q => nomatch q⟩
    · exact ⟨o, ho, fun v q => by rw [hd] at q; cases q⟩
  keep := by
    rintro i h h' ⟨⟨old, he⟩, hi, hne⟩ k
    exact ⟨⟨old, k e (by simp) _ he⟩, hi.at fun o q => k it (by simp) o q, hne⟩
  item := by
    intro X hP hw hK hc i pins s σ H E I hf st hg
    subst hP hw hK
    obtain ⟨⟨old, he⟩, hit, hne, hai, hea⟩ := st
    obtain ⟨xs, x, hq, hx⟩ := hg
    obtain ⟨its, rv, p, hz⟩ := I.tuple hq
    obtain ⟨u, hu, ru⟩ := rv.get hx
    have hel : e < s.heap.objs.size := Heap.lt_size he
    have hil : it < s.heap.objs.size := by obtain ⟨_, q, _⟩ := hit; exact Heap.lt_size q
    have hlt : i < its.toArray.size := by rw [List.size_toArray]; exact (List.getElem?_eq_some_iff.mp hu).1
    refine wpAny_pyNext_enum_itemD (Draws.tuple (A := X.A.in1) (I.ok.hd hc) it a hai its.toArray) he ⟨hit, p⟩ hlt hne (by simp [hne, hea]) fun x' h' tk hP ho hit' hT hsz hk => ?_
    have ex : x' = u := by
      have h1 : its.toArray[i]? = some x' := hP
      have h2 : its.toArray[i]? = some u := by simpa using hu
      rw [h1] at h2
      exact Option.some.inj h2
    subst ex
    refine ⟨_, rfl, wpAny_letOwnedTupleGo_enum (s := { s with heap := h', toks := tk + 1 }) ho fun h'' he' sb => ?_⟩
    have hT2 : h''.get? s.heap.objs.size = some { cls := .type "tuple", data := .seq #[.int i tk, x'] } := (sb.2 _ (Nat.ne_of_gt hel)).trans hT
    have new : ObjOk X.prog X.w (upd H s.heap.objs.size (.tup [.int (i : Nat), x])) h'' s.heap.objs.size (.tup [.int (i : Nat), x]) := ⟨by show 2 ≤ sizeLine; decide, [.int i tk, x'], .cons ⟨_, rfl⟩ (.cons ru .nil), ⟨_, hT2, rfl, _, rfl⟩⟩
    have I1 : Inv X pins σ (upd H s.heap.objs.size (.tup [.int (i : Nat), x])) { s with heap := h'', toks := tk + 1 } :=
      I.turnedNew (ch := [e, it]) (fun b ob hb q => (sb.2 b (fun z => hb (by simp [z]))).trans (hk b ob (fun z => hb (by simp [z])) (fun z => hb (by simp [z])) q)) hf (Nat.le_refl _) new
    refine ⟨.ref s.heap.objs.size, _, I1, rfl, ⟨_, x, rfl, I.hok.fresh (Nat.le_refl _), rfl, fun ys hy => by rw [I.tuple_inj hy hq]; exact hx⟩, ⟨⟨x', ?_⟩, hit'.1.at fun o q => (sb.2 it (Ne.symm hne)).trans q, hne, hai, hea⟩, fun b hb => ?_⟩
    · have e1 : ((i + 1 : Nat) : Int) = (i : Int) + 1 := by omega
      rw [e1]
      exact he'
    · have hb' : b < s.heap.objs.size := by
        rcases (show b = e ∨ b = it by simpa using hb) with rfl | rfl
        · exact hel
        · exact hil
      rw [upd_ne (Nat.ne_of_lt hb')]
      exact (hf b hb).1
  done := by
    intro X hP hw hK hc i pins s σ H E I hf st hg
    subst hP hw hK
    obtain ⟨⟨old, he⟩, hit, hne, hai, hea⟩ := st
    obtain ⟨xs, hq, hx⟩ := hg
    obtain ⟨its, rv, p, hz⟩ := I.tuple hq
    obtain ⟨f0, f1, f2, f3, f4, f5⟩ := hf it (by simp)
    have hl : xs.length = its.length := rv.length
    have hi : i = its.toArray.size := by simp; omega
    subst hi
    exact wpAny_pyNext_enum_endD (Draws.tuple (A := X.A.in1) (I.ok.hd hc) it a hai its.toArray) he ⟨hit, p⟩ fun h' eb => ⟨rfl, I.turned (t' := s.toks) (fun b o hb q => eb b o hb q) f0 f1 f3 f4 f5⟩
  self := fun A i s Q E st h => let ⟨⟨_, he⟩, _⟩ := st; wpAny_pyIter_enum he h

def iEnumT (K : KW) (ta : TA) : TI := fun σ H R => ta σ H fun vs H1 => ∃ a xs, vs = [.ref a] ∧ SqT K H1 a xs ∧ R (IteT K a) H1
theorem pi_enumT {X : Cx} {e : Expr} {ta : TA} {p pos tpos : Pos} {elts : List Expr} {kk : Nat} (hg : Gl X "enumerate") (hm : X.mg "enumerate" = none) (ha : PA X [e] ta) (hs : starEach [e] X.env = [(false, eval e X.env)] := by rfl) :
    PI X (.Tuple elts kk tpos) (.Call (.Name "enumerate" p) [e] [] pos) (iEnumT X.kw ta) := by
  constructor
  intro pins s σ H R I h
  refine Call_ (ld_blt I hg hm boot_enumerate (PyProof.Rows.callWith_type1 (thn (ha.run pos pins s σ H _ I h) ?_) hs rfl))
  rintro us s1 ⟨vs, H1, I1, r1, a, xs, rfl, hq, q⟩
  cases r1 with
  | cons r rr =>
    cases rr
    cases r
    obtain ⟨its, rv, p', hz⟩ := I1.tuple hq
    have hal : a < s1.heap.objs.size := by obtain ⟨_, z, _⟩ := p'; exact Heap.lt_size z
    refine call_enumT (begins_tuple a its.toArray) p' fun h' he hit hsz hk => wpAny_pyIter_enum he ?_
    have I2 : Inv X pins σ H1 { s1 with heap := h' } := I1.kept (t' := s1.toks) hk
    refine ⟨s1.heap.objs.size + 1, [s1.heap.objs.size + 1, s1.heap.objs.size], _, _, H1, rfl, I2, turn_enumT a (s1.heap.objs.size + 1) s1.heap.objs.size, ⟨⟨.none, he⟩, ⟨_, hit, rfl, rfl⟩, Nat.succ_ne_self _, Nat.ne_of_lt hal, Nat.ne_of_gt (Nat.lt_succ_of_lt hal)⟩, fun b hb => ?_, q⟩
    have hle : s1.heap.objs.size ≤ b := by
      rcases (show b = s1.heap.objs.size + 1 ∨ b = s1.heap.objs.size by simpa using hb) with rfl | rfl
      · exact Nat.le_add_right _ _
      · exact Nat.le_refl _
    exact I1.fpOk hle (I1.hok.fresh hle)
/-! ### enumerate -/
def enumF (k : Nat) : List D → List D
  | [] => []
  | d :: r => .tup [.int (k : Nat), d] :: enumF (k + 1) r
theorem enumF_get : ∀ (ds : List D) (k i : Nat), (enumF k ds)[i]? = (ds[i]?).map fun d => D.tup [.int ((k + i : Nat) : Int), d]
  | [], k, i => by simp [enumF]
  | d :: r, k, 0 => by simp [enumF]
  | d :: r, k, i + 1 => by
    simp only [enumF, List.getElem?_cons_succ, enumF_get r (k + 1) i]
    rw [show k + 1 + i = k + (i + 1) by omega]
theorem enumF_len : ∀ (ds : List D) (k : Nat), (enumF k ds).length = ds.length
  | [], _ => rfl
  | _ :: r, k => by simp [enumF, enumF_len r]
def enums (ws : List W) (st : Sto) : R (List D) := match ws with
  | [.v (.lst ds)] => .ok (enumF 0 ds) st
  | [.v (.tup ds)] => .ok (enumF 0 ds) st
  | _ => .bad
def itEnum (g : AD) : LD := fun env st => (g env st).bind enums
section
variable {K : KW} {ρ : Rho} {H : Hp}
theorem pair_rel {st : Sto} (s : RelSt K ρ H st) {T : Addr} {i : Nat} {x : V} {d : D} (hT : H T = none) (r : Rl K ρ H x d) :
    Same H (upd H T (.tup [.int (i : Nat), x])) ∧ Rl K ρ (upd H T (.tup [.int (i : Nat), x])) (.ref T) (.tup [.int (i : Nat), d]) := by
  have sm : Same H (upd H T (.tup [.int (i : Nat), x])) := fun b o hb => by rw [upd_ne (ne_of_none hb hT)]; exact hb
  exact ⟨sm, .tup (.inl upd_same) (s.fresh hT) (.cons (.int _) (.cons (r.same sm) .nil))⟩
theorem itOk_enumL {a : Addr} {xs : List V} {ds : List D} (h : LsR K ρ H a xs) (r : RlAll K ρ H xs ds) : ItOk K (Ite K a) ρ H (enumF 0 ds) := by
  intro ρ' H' st g s
  have h' : SqL K H' a xs := by
    rcases h with ⟨h | ⟨o, h⟩, n⟩ | h
    · exact .inl (.inl (g _ _ h n).1)
    · exact .inl (.inr ⟨o, (g _ _ h n).1⟩)
    · exact .inr h
  refine ⟨fun i d e => ?_, xs, h', by rw [enumF_len]; exact Nat.le_of_eq r.length⟩
  rw [enumF_get] at e
  cases q : ds[i]? with
  | none => rw [q] at e; cases e
  | some d0 =>
  rw [q] at e
  cases e
  obtain ⟨v, e1, rv⟩ := r.getD q
  refine ⟨⟨xs, v, h', e1⟩, ?_⟩
  rintro x H2 ⟨T, y, rfl, hT, rfl, hy⟩
  have := hy xs h'
  rw [e1] at this
  cases this
  rw [Nat.zero_add]
  exact pair_rel s hT (rv.ext g)
theorem itOk_enumT {a : Addr} {xs : List V} {ds : List D} (h : Rd H a (.tup xs)) (n : ¬ ρ.mut a) (r : RlAll K ρ H xs ds) : ItOk K (IteT K a) ρ H (enumF 0 ds) := by
  intro ρ' H' st g s
  have h' : SqT K H' a xs := .inl (Ext.keepR g h n).1
  refine ⟨fun i d e => ?_, xs, h', by rw [enumF_len]; exact r.length⟩
  rw [enumF_get] at e
  cases q : ds[i]? with
  | none => rw [q] at e; cases e
  | some d0 =>
  rw [q] at e
  cases e
  obtain ⟨v, e1, rv⟩ := r.getD q
  refine ⟨⟨xs, v, h', e1⟩, ?_⟩
  rintro x H2 ⟨T, y, rfl, hT, rfl, hy⟩
  have := hy xs h'
  rw [e1] at this
  cases this
  rw [Nat.zero_add]
  exact pair_rel s hT (rv.ext g)
end
section
variable {X : Cx} {ct : Nat → Value} {E : St → XK} {e : Expr} {f : ED} {p pos tpos : Pos} {elts : List Expr} {kk : Nat}
theorem di_enum (hg : Gl X "enumerate") (hm : X.mg "enumerate" = none) (h : PE X e (tE X.kw ct E f)) (hs : starEach [e] X.env = [(false, eval e X.env)] := by rfl) :
    PI X (.Tuple elts kk tpos) (.Call (.Name "enumerate" p) [e] [] pos) (iR X.kw ct E (itEnum (aCons f aNil))) := by
  have ha : PA X [e] (tA X.kw ct E (aCons f aNil)) := da_cons h da_nil hs
  refine PI.of (PI.or (pi_enum hg hm ha hs) (pi_enumT hg hm ha hs)) ?_
  rintro σ H R' ⟨ρ, st, env, a, q⟩
  unfold itEnum at q
  cases ef : aCons f aNil env st with
  | exc x st1 => rw [ef] at q; exact .inl ⟨ρ, st, env, a, by rw [ef]; exact q⟩
  | bad => rw [ef] at q; exact q.elim
  | ok ws st1 =>
    rw [ef] at q
    simp only [R.bind_ok, enums] at q
    split at q
    · refine .inl ⟨ρ, st, env, a, ?_⟩
      rw [ef]
      intro ρ1 H1 vs g s r
      obtain ⟨v, rfl, rv⟩ := r.one
      cases rv with | v rv =>
      cases rv with
      | lst h1 r1 => exact ⟨_, _, rfl, h1.sql, q ρ1 H1 _ g s (itOk_enumL h1 r1)⟩
    · refine .inr ⟨ρ, st, env, a, ?_⟩
      rw [ef]
      intro ρ1 H1 vs g s r
      obtain ⟨v, rfl, rv⟩ := r.one
      cases rv with | v rv =>
      cases rv with
      | tup h1 n1 r1 => exact ⟨_, _, rfl, .inl h1, q ρ1 H1 _ g s (itOk_enumT h1 n1 r1)⟩
    · exact q.elim
end
end Jv
end
section
/-! comprehensions over a list that may change: the items are read turn by turn -/
namespace Jv
open PySem PySem.Spec L2 PyProof.Rows
abbrev Nth := Nat → Sto → Option (Option D)
def ExtR (ρ : Rho) (H : Hp) (ρ' : Rho) (H' : Hp) : Prop := Ext ρ H ρ' H' ∧ ∀ (l : Nat) (a : Addr), l < ρ.lc.length → ρ'.lc[l]? = some (some a) → ρ.lc[l]? = some (some a)
def ItN (K : KW) (J : It) (ρ0 : Rho) (H0 : Hp) (nth : Nth) : Prop := ∀ ρ H st, ExtR ρ0 H0 ρ H → RelSt K ρ H st → ∀ i : Nat,
  (∀ d, nth i st = some (some d) → J.go i H ∧ ∀ x H', J.yld i H x H' → Same H H' ∧ Rl K ρ H' x d) ∧ (nth i st = some none → J.stop i H)
abbrev ND := Env → Sto → R Nth
def okN (K : KW) (ct : Nat → Value) (ρ : Rho) (H : Hp) (E : XK) (R' : It → Hp → Prop) : R Nth → Prop
  | .ok nth st' => ∀ ρ' H' J, Grow ρ H ρ' H' → RelSt K ρ' H' st' → ItN K J ρ' H' nth → R' J H'
  | .exc x st' => ∀ ρ' H' cv od, Grow ρ H ρ' H' → RelSt K ρ' H' st' → XRl K ct ρ' H' cv od x → E cv od H'
  | .bad => False
def nR (K : KW) (ct : Nat → Value) (E : St → XK) (f : ND) : TI := fun σ H R' => ∃ ρ st env, At K ρ H st σ env ∧ okN K ct ρ H (E σ) R' (f env st)
def lcN (nth : Nth) (g : GD) (t : BD) (e : ED) (env : Env) : Nat → Nat → Sto → List D → R (List D)
  | 0, _, _, _ => .bad
  | n + 1, i, st, acc => match nth i st with
    | none => .bad
    | some none => .ok acc st
    | some (some d) => match g (.v d) env with
      | none => .bad
      | some env1 => (noX (t env1 st)).bind fun b st => if b then (noX (e env1 st)).bind fun y st => (match y with
        | .v d => lcN nth g t e env n (i + 1) st (acc ++ [d])
        | .r _ => .bad) else lcN nth g t e env n (i + 1) st acc
def lLcR (vs : List Nat) (it : ND) (g : GD) (t : BD) (e : ED) : LD := fun env st => (it env st).bind fun nth st => lcN nth g t e (wipeE env vs) 100001 0 st []
section
variable {K : KW} {ct : Nat → Value} {E : St → XK} {ρ : Rho} {H : Hp} {σ : St} {env : Env}
theorem lcR_read {vs : List Nat} {it : ND} {g : GD} {t : BD} {e : ED} {Q : VK} (h : tF K ct E (lLcR vs it g t e) σ H Q) :
    tLc (nR K ct E it) (gR K vs g) (tT K ct (fun _ => E0) t) (tE K ct (fun _ => E0) e) vs σ H Q := by
  obtain ⟨ρ, st, env, a, h⟩ := h
  refine ⟨ρ, st, env, a, ?_⟩
  unfold lLcR at h
  cases ei : it env st with
  | exc x st' => rw [ei] at h; exact h
  | bad => rw [ei] at h; exact h.elim
  | ok nth st1 =>
  rw [ei] at h
  simp only [R.bind_ok] at h
  intro ρ1 H1 J gr1 s1 itk p hp
  have he1 : RelEnv K ρ1 H1 (wipe σ vs) (wipeE env vs) := (a.2.grow gr1).wipes vs
  have hph : p ∉ ρ1.hid := fun z => by obtain ⟨o, q⟩ := s1.hidt p z; rw [hp] at q; cases q
  have h' : okF K ct ρ1 H1 (E σ) Q (lcN nth g t e (wipeE env vs) 100001 0 st1 []) := by
    revert h
    cases lcN nth g t e (wipeE env vs) 100001 0 st1 [] with
    | ok x y => exact fun h ρ' H' p' xs g' => h ρ' H' p' xs (gr1.trans g')
    | exc x y => exact fun h ρ' H' cv od g' => h ρ' H' cv od (gr1.trans g')
    | bad => exact id
  refine ⟨fun i m Hc => m + i = 100001 ∧ ∃ ρ2 st2 acc accD, RelSt K (ρ2.hide p) Hc st2 ∧ Hc p = some (.lst acc) ∧ RlAll K (ρ2.hide p) Hc acc accD ∧ RelEnv K (ρ2.hide p) Hc (wipe σ vs) (wipeE env vs) ∧
      Grow ρ1 H1 ρ2 (unD Hc p) ∧ accD.length ≤ i ∧ okF K ct ρ1 H1 (E σ) Q (lcN nth g t e (wipeE env vs) m i st2 accD), ?_, ?_⟩
  · refine ⟨100001, rfl, ρ1, st1, [], [], s1.hide hp, upd_same, .nil, he1.hide hp, ?_, Nat.le_refl _, h'⟩
    refine ⟨Nat.le_refl _, rfl, fun _ _ _ z => z, fun x o hx n => ⟨?_, n⟩⟩
    rw [unD_ne (ne_of_none hx hp), upd_ne (ne_of_none hx hp)]
    exact hx
  · rintro i m Hc ⟨hmi, ρ2, st2, acc, accD, s2, hacc, racc, he2, gr2, hal, hq⟩
    have hpl : some p ∉ ρ2.lc := fun z => s2.apart p z List.mem_cons_self
    have ext : Ext ρ1 H1 (ρ2.hide p) Hc := fun x o hx n => by
      have ne := ne_of_none hx hp
      obtain ⟨h1, n1⟩ := gr2.keep hx n
      rw [unD_ne ne] at h1
      refine ⟨h1, fun z => ?_⟩
      rcases z with z | z
      · exact n1 (.inl z)
      · rcases List.mem_cons.mp z with z | z
        · exact ne z
        · exact n1 (.inr z)
    obtain ⟨turn, stop⟩ := itk (ρ2.hide p) Hc st2 ⟨ext, fun l b hl q => gr2.ref l b hl q⟩ s2 i
    cases m with
    | zero => exact hq.elim
    | succ m =>
    simp only [lcN] at hq
    cases en : nth i st2 with
    | none => rw [en] at hq; exact hq.elim
    | some on =>
    rw [en] at hq
    cases on with
    | none =>
      refine .inl ⟨stop en, ?_⟩
      simp only at hq
      have q := hq ρ2 (unD Hc p) p acc gr2 (s2.unhide (H' := unD Hc p) (fun b hb => unD_ne hb) hpl (.inl (by rw [gr2.hid]; exact hph))) (if_pos rfl) (racc.unhide fun b hb => unD_ne hb)
      rw [unD_upd hacc] at q
      exact q
    | some d0 =>
      obtain ⟨go, yl⟩ := turn d0 en
      refine .inr ⟨go, fun Hn => ∃ ρ3 st3 acc' accD', RelSt K (ρ3.hide p) Hn st3 ∧ Hn p = some (.lst acc') ∧ RlAll K (ρ3.hide p) Hn acc' accD' ∧ RelEnv K (ρ3.hide p) Hn (wipe σ vs) (wipeE env vs) ∧
        Grow ρ1 H1 ρ3 (unD Hn p) ∧ accD'.length ≤ i + 1 ∧ okF K ct ρ1 H1 (E σ) Q (lcN nth g t e (wipeE env vs) m (i + 1) st3 accD'), ?_, ?_⟩
      · rintro Hn ⟨ρ3, st3, acc', accD', q⟩
        exact ⟨m, by omega, by omega, ρ3, st3, acc', accD', q⟩
      · intro x H' hy
        obtain ⟨sm, rx⟩ := yl x H' hy
        simp only at hq
        cases eg : g (.v d0) (wipeE env vs) with
        | none => rw [eg] at hq; exact hq.elim
        | some env1 =>
          rw [eg] at hq
          simp only at hq
          refine ⟨ρ2.hide p, st2, wipeE env vs, .v d0, env1, ⟨s2.same sm, he2.grow (.same sm)⟩, .v rx, eg, fun σ2 a2 ag => ⟨ag.wipe, ?_⟩⟩
          have gr2' : Grow ρ1 H1 ρ2 (unD H' p) := by
            refine ⟨gr2.len, gr2.hid, gr2.ref, fun y o hy n => ?_⟩
            have ne := ne_of_none hy hp
            obtain ⟨h1, n1⟩ := gr2.obj y o hy n
            rw [unD_ne ne] at h1 ⊢
            exact ⟨sm _ _ h1, n1⟩
          have racc2 := racc.same sm
          have he2' := he2.grow (.same sm)
          have hacc2 := sm _ _ hacc
          refine ⟨ρ2.hide p, st2, env1, a2, ?_⟩
          cases et : t env1 st2 with
          | exc x y => rw [et] at hq; exact hq.elim
          | bad => rw [et] at hq; exact hq.elim
          | ok b st3 =>
            rw [et] at hq
            simp only [noX_ok, R.bind_ok] at hq
            intro ρ3 H3 b' g3 s3 eb
            cases eb
            have e3 := g3.shown
            have gr3 := Grow.under hp gr2' g3
            have hacc3 := (g3.obj _ _ hacc2 hpl).1
            have racc3 := racc2.grow g3
            have he3 := he2'.grow g3
            have env3 := a2.2.grow g3
            cases b with
            | false =>
              simp only [Bool.false_eq_true, if_false] at hq ⊢
              rw [e3] at s3 racc3 he3
              exact ⟨⟨ρ3.lc, ρ2.hid⟩, st3, acc, accD, s3, hacc3, racc3, he3, gr3, by omega, hq⟩
            | true =>
              simp only [if_true] at hq ⊢
              refine ⟨ρ3, st3, env1, ⟨s3, env3⟩, ?_⟩
              cases ee : e env1 st3 with
              | exc x y => rw [ee] at hq; exact hq.elim
              | bad => rw [ee] at hq; exact hq.elim
              | ok w st4 =>
                rw [ee] at hq
                simp only [noX_ok, R.bind_ok] at hq
                intro ρ4 H4 y g4 s4 ry
                cases w with
                | r l => exact hq.elim
                | v d =>
                  simp only at hq
                  cases ry with | v ry =>
                  have hpl3 : some p ∉ ρ3.lc := (g3.obj _ _ hacc2 hpl).2
                  have hacc4 := (g4.obj _ _ hacc3 hpl3).1
                  have g34 := g3.trans g4
                  have e4 := g34.shown
                  have gr4 := Grow.under hp gr2' g34
                  have racc4 := racc3.grow g4
                  have he4 := he3.grow g4
                  have hpl4 : some p ∉ ρ4.lc := (g4.obj _ _ hacc3 hpl3).2
                  have hup : ∀ b, b ≠ p → upd H4 p (.lst (acc ++ [y])) b = H4 b := fun b hb => upd_ne hb
                  rw [e4] at s4 racc4 he4 ry
                  refine ⟨acc, hacc4, Nat.lt_of_lt_of_le (show acc.length < 100001 by rw [racc.length]; omega) (by decide), ⟨ρ4.lc, ρ2.hid⟩, st4, acc ++ [y], accD ++ [d], s4.refill hup hpl4 ⟨_, upd_same⟩, upd_same, (racc4.append (.cons ry .nil)).refill hup, ?_, ?_, ?_, hq⟩
                  · exact ⟨he4.len, fun j w' ej => let ⟨v, h1, h2⟩ := he4.get j w' ej; ⟨v, h1, h2.refill hup⟩⟩
                  · refine ⟨gr4.len, gr4.hid, gr4.ref, fun z o hz n => ?_⟩
                    have ne := ne_of_none hz hp
                    obtain ⟨h1, n1⟩ := gr4.obj z o hz n
                    rw [unD_ne ne] at h1 ⊢
                    exact ⟨by rw [upd_ne ne]; exact h1, n1⟩
                  · rw [List.length_append, List.length_singleton]
                    omega
end
/-! enumerate of a list that may change -/
def nthEnum (l : Nat) : Nth := fun i st => match st[l]? with
  | some (.lst es) => some ((es[i]?).map fun d => .tup [.int (i : Nat), d])
  | _ => none
def enumsN (ws : List W) (st : Sto) : R Nth := match ws with
  | [.r l] => match st[l]? with
    | some (.lst _) => .ok (nthEnum l) st
    | _ => .bad
  | _ => .bad
def nEnum (g : AD) : ND := fun env st => (g env st).bind enumsN
theorem itN_enum {K : KW} {ρ : Rho} {H : Hp} {l : Nat} {a : Addr} (hl : ρ.lc[l]? = some (some a)) : ItN K (Ite K a) ρ H (nthEnum l) := by
  intro ρ' H' st ⟨g, gl⟩ s i
  have key : ∀ es, st[l]? = some (.lst es) → ∃ xs, H' a = some (.lst xs) ∧ RlAll K ρ' H' xs es := fun es q => by
    rcases s.obj l _ q with ⟨z, _⟩ | ⟨b, hb, ob⟩
    · cases z
    · have := gl l b (List.getElem?_eq_some_iff.mp hl).1 hb
      rw [hl] at this
      cases this
      exact ob
  unfold nthEnum
  cases q : st[l]? with
  | none => exact ⟨fun d e => by simp at e, fun e => by simp at e⟩
  | some ob =>
    cases ob with
    | dead => exact ⟨fun d e => by simp at e, fun e => by simp at e⟩
    | dct _ => exact ⟨fun d e => by simp at e, fun e => by simp at e⟩
    | kd _ => exact ⟨fun d e => by simp at e, fun e => by simp at e⟩
    | ld _ => exact ⟨fun d e => by simp at e, fun e => by simp at e⟩
    | set _ => exact ⟨fun d e => by simp at e, fun e => by simp at e⟩
    | tab _ _ => exact ⟨fun d e => by simp at e, fun e => by simp at e⟩
    | lst es =>
      obtain ⟨xs, h1, r1⟩ := key es q
      have h' : SqL K H' a xs := .inl (.inl h1)
      refine ⟨fun d e => ?_, fun e => ⟨xs, h', ?_⟩⟩
      · simp only [Option.some.injEq] at e
        cases q2 : es[i]? with
        | none => rw [q2] at e; cases e
        | some d0 =>
          rw [q2] at e
          cases e
          obtain ⟨v, e1, rv⟩ := r1.getD q2
          refine ⟨⟨xs, v, h', e1⟩, ?_⟩
          rintro x H2 ⟨T, y, rfl, hT, rfl, hy⟩
          have := hy xs h'
          rw [e1] at this
          cases this
          exact pair_rel s hT rv
      · simp only [Option.some.injEq, Option.map_eq_none_iff, List.getElem?_eq_none_iff] at e
        rw [r1.length]
        exact e
section
variable {X : Cx} {ct : Nat → Value} {E : St → XK}
theorem dn_enum {e : Expr} {f : ED} {p pos tpos : Pos} {elts : List Expr} {kk : Nat} (hg : Gl X "enumerate") (hm : X.mg "enumerate" = none) (h : PE X e (tE X.kw ct E f)) (hs : starEach [e] X.env = [(false, eval e X.env)] := by rfl) :
    PI X (.Tuple elts kk tpos) (.Call (.Name "enumerate" p) [e] [] pos) (nR X.kw ct E (nEnum (aCons f aNil))) := by
  have ha : PA X [e] (tA X.kw ct E (aCons f aNil)) := da_cons h da_nil hs
  refine PI.of (pi_enum hg hm ha hs) ?_
  rintro σ H R' ⟨ρ, st, env, a, q⟩
  unfold nEnum at q
  refine ⟨ρ, st, env, a, ?_⟩
  cases ef : aCons f aNil env st with
  | exc x st1 => rw [ef] at q; exact q
  | bad => rw [ef] at q; exact q.elim
  | ok ws st1 =>
    rw [ef] at q
    simp only [R.bind_ok, enumsN] at q
    split at q
    · rename_i l
      split at q
      · rename_i es hes
        intro ρ1 H1 vs g s r
        obtain ⟨v, rfl, rv⟩ := r.one
        rcases s.obj l _ hes with ⟨z, _⟩ | ⟨b, hb, xs, ob, _⟩
        · cases z
        · cases rv with
          | r hl hx =>
            have := hx b hb
            subst this
            exact ⟨_, xs, rfl, .inl (.inl ob), q ρ1 H1 _ g s (itN_enum hb)⟩
      · exact q.elim
    · exact q.elim
variable {elt tg iter : Expr} {ifs : List Expr} {scope : Scope} {own : List (Str × Nat)} {pos : Pos} {it : ND} {g : GD} {t : BD} {f : ED}
theorem df_lcR (hc : X.calm = true) (hN : X.N.Nodup) (hi : PI X tg iter (nR X.kw ct E it)) (ok : BlkOk X.N X.env.scope scope own)
    (hg : ∀ (s : Shared) (H : Hp) (C : Addr) (cl : List (Str × Addr)) (fp : List Addr), PG (X.blk s H scope (compEnvC scope cl C X.env) fp) tg (gR X.kw (own.map (·.2)) g))
    (ht : ∀ (s : Shared) (H : Hp) (C : Addr) (cl : List (Str × Addr)) (fp : List Addr), PTs (X.blk s H scope (compEnvC scope cl C X.env) fp) ifs (tT X.kw ct (fun _ => E0) t))
    (he : ∀ (s : Shared) (H : Hp) (C : Addr) (cl : List (Str × Addr)) (fp : List Addr), PE (X.blk s H scope (compEnvC scope cl C X.env) fp) elt (tE X.kw ct (fun _ => E0) f)) (hs : ∀ x, foldedSetIterable iter X.env x = pure x := by intro _; rfl) :
    PE X (.ListComp elt [⟨tg, iter, ifs, 0⟩] scope pos) (tF X.kw ct E (lLcR (own.map (·.2)) it g t f)) := PE.of (pe_lc hc hN hi ok hg ht he hs) fun σ H Q h => lcR_read h
theorem ds_setLcR {spos py : Pos} {i : Nat} {y : Str} (hc : X.calm = true) (hN : X.N.Nodup) (hy : X.N[i]? = some y) (hyl : X.env.scope.names.lookup y = some .local) (hsw : swapsWith (.ListComp elt [⟨tg, iter, ifs, 0⟩] scope pos) (some (.Name y py)) spos.line X.env = pure true)
    (hi : PI X tg iter (nR X.kw ct E it)) (ok : BlkOk X.N X.env.scope scope own)
    (hg : ∀ (s : Shared) (H : Hp) (C : Addr) (cl : List (Str × Addr)) (fp : List Addr), PG (X.blk s H scope (compEnvC scope cl C X.env) fp) tg (gR X.kw (own.map (·.2)) g))
    (ht : ∀ (s : Shared) (H : Hp) (C : Addr) (cl : List (Str × Addr)) (fp : List Addr), PTs (X.blk s H scope (compEnvC scope cl C X.env) fp) ifs (tT X.kw ct (fun _ => E0) t))
    (he : ∀ (s : Shared) (H : Hp) (C : Addr) (cl : List (Str × Addr)) (fp : List Addr), PE (X.blk s H scope (compEnvC scope cl C X.env) fp) elt (tE X.kw ct (fun _ => E0) f)) (hs : ∀ x, foldedSetIterable iter X.env x = pure x := by intro _; rfl) :
    PS X (.Assign [.Name y py] (.ListComp elt [⟨tg, iter, ifs, 0⟩] scope pos) spos) (tS X.kw ct E (sSet i (eLst (lLcR (own.map (·.2)) it g t f)))) :=
  PS.of (ps_setLc hc hN hy hyl hsw hi ok hg ht he hs) fun D σ H h => lcR_read (setF_read h)
end
end Jv
end
section
/-! sorted(xs, key=f), f a def of the text -/
namespace Jv
open PySem PySem.Spec L2 PyProof.Rows PySem.W
section
variable {prog : Program} {w : World} {A : Around} {E : Value → Shared → Prop} {s : Shared} {a kS : Addr} {b : Bool} {vs : List Value} {e1 : Nat} {P : PySem.Fin → Shared → Prop}
theorem keyJ_rest {f : Value} (J : Nat → Array Value → Shared → Prop) (hZ : vs.length ≤ sizeLine) (J0 : J 0 #[] s)
    (turn : ∀ i v kA s', vs[i]? = some v → J i kA s' → wpAny (model prog w) A (call f [v])
      (fun u s'' => (∃ e, s''.heap.get? kS = some (seqObj "list" kA e)) ∧ kA.size ≤ vs.length ∧ J (i + 1) (kA.push u) { s'' with heap := s''.heap.update kS (Obj.mapSeq (·.push u)) }) (fun _ _ => False) s')
    (fin : ∀ kA s', J vs.length kA s' → (∃ e, s'.heap.get? kS = some (seqObj "list" kA e)) ∧ wpAny (model prog w) A (ksk_end a b vs.toArray e1 (.ref kS) kA) P E s') :
    wpAny (model prog w) A (ksk_rest a f b vs.toArray e1 (.ref kS)) P E s := by
  unfold ksk_rest
  refine wpAny_bind (wpAny_rule ?_)
  first
    | rw [List.forIn_toArray]
    | (rw [← Array.forIn_toList]; simp only [List.toList_toArray])
    | rw [← Array.forIn_toList]
  refine wpAny_bind (ksk_fold (fun i s' => ∃ kA, J i kA s') vs 0 s ⟨#[], J0⟩ ?_ ?_)
  · rintro j x s' hx ⟨kA, hJ⟩
    simp only [Nat.zero_add] at hJ ⊢
    refine wpAny_bind (wpAny_attempt (wpAny_mono (turn j x kA s' hx hJ) ?_ fun _ _ hF => hF.elim))
    rintro u s'' ⟨⟨e, hk⟩, hz, hJ'⟩
    try dsimp only
    exact wpAny_bind (listUpdate_at hk rfl (wpAny_pure ⟨rfl, _, hJ'⟩) (Nat.le_trans hz hZ) (Nat.le_trans (Nat.le_of_eq (Array.size_push ..)) (Nat.succ_le_succ (Nat.le_trans hz hZ))))
  · rintro s' ⟨kA, hJ⟩
    rw [Nat.zero_add] at hJ
    obtain ⟨⟨e, hk⟩, q⟩ := fin kA s' hJ
    try dsimp only
    exact wpAny_bind (listItems_at hk rfl q)
theorem keyJ_tree {f : Value} {n : Nat} (ho : s.heap.get? a = some (seqObj "list" vs.toArray n)) (hZ : vs.length ≤ sizeLine)
    (rest : ∀ e1, (sortingHeap s.heap a vs).get? a = some (seqObj "list" #[] e1) → (sortingHeap s.heap a vs).get? (s.heap.objs.size + 1) = some (seqObj "list" #[] 0) →
      wpAny (model prog w) A (ksk_rest a f b vs.toArray e1 (.ref (s.heap.objs.size + 1))) P E { s with heap := sortingHeap s.heap a vs }) :
    wpAny (model prog w) A (ksk_tree a f b) P E s := by
  obtain ⟨e1, ho1⟩ : ∃ e1, (s.heap.update a (Obj.mapSeq fun _ => (#[] : Array Value))).get? a = some (seqObj "list" #[] e1) := ⟨_, get?_update_seq ho fun _ => #[]⟩
  have hkS : ((s.heap.update a (Obj.mapSeq fun _ => (#[] : Array Value))).push (seqObj "tuple" vs.toArray 0)).objs.size = s.heap.objs.size + 1 := by rw [size_push', Heap.size_update]
  unfold ksk_tree
  refine wpAny_bind (listItems_at ho rfl ?_)
  refine wpAny_bind (listUpdate_at ho rfl ?_ (by rw [List.size_toArray]; exact hZ) (Nat.zero_le _))
  refine wpAny_bind (seqEpoch_at ho1 rfl ?_)
  refine wpAny_bind (wpAny_newTuple ?_ (by show vs.length ≤ _; exact hZ))
  refine wpAny_bind (wpAny_newList ?_ (Nat.zero_le _))
  refine wpAny_holding ?_
  have r := rest e1 (Heap.get?_push_of_some _ (Heap.get?_push_of_some _ ho1)) (by rw [← hkS]; exact Heap.get?_push_size _ rfl)
  rw [← hkS] at r
  exact r
end
/-- the object at a is gone -/
def without (h : Heap) (a : Addr) : Heap := h.update a fun o => { o with data := .freed }
theorem without_self (h : Heap) (a : Addr) : (without h a).get? a = none := by
  obtain ⟨objs, l⟩ := h
  simp only [without, Heap.update, Heap.get?, Array.getElem?_modify]
  cases objs[a]? <;> rfl
theorem without_ne {h : Heap} {a b : Addr} (n : b ≠ a) : (without h a).get? b = h.get? b := Heap.get?_update_other h _ (Ne.symm n)
/-- an object of our own is tracked from here on -/
theorem adopt {X : Cx} {pins : List (Addr × Obj)} {σ : St} {H : Hp} {s : Shared} {h' : Heap} {t' : Nat} {ch : List Addr} {T : Addr} {ob : HO} (I : Inv X pins σ H s) (k : ∀ b o, b ∉ ch → s.heap.get? b = some o → h'.get? b = some o)
    (hf : ∀ b ∈ ch, FpOk X pins H b) (hT : T ∈ ch) (new : ObjOk X.prog X.w (upd H T ob) h' T ob) : Inv X pins σ (upd H T ob) { s with heap := h', toks := t' } := by
  have hn : H T = none := (hf T hT).1
  have nit : ∀ b u, H b = some u → b ∉ ch := fun b u e z => by
    have q := (hf b z).1
    rw [q] at e
    cases e
  refine I.step (g' := s.gens) (d' := s.drawn) (ch := ch) (fun b hb => ?_) (fun b o _ _ hc e _ => k b o hc e) (fun b o _ _ hc e _ => ⟨o.slots, k b o hc e⟩) (fun b o hc e n => ?_) (fun b o hc e => ⟨o, k b o hc e⟩) (fun b xs e => ?_) (fun b o u e => ?_)
    (fun b ps e => ⟨#[], ?_⟩) (fun m hm => ?_) (fun b u e => ?_) I.bare
  · obtain ⟨_, f1, _, f3, f4, f5⟩ := hf b hb
    exact ⟨f3, f1, f4, f5⟩
  · rw [upd_ne (show b ≠ T from fun z => hc (by rw [z]; exact hT))]
    exact n
  · rw [upd_ne (ne_of_none e hn)]
    exact e
  · rw [upd_ne (ne_of_none e hn)]
    exact e
  · rw [upd_ne (ne_of_none e hn), e]
    simp
  · obtain ⟨o, es, ep, ho, r⟩ := hm
    exact ⟨o, es, ep, k _ o (fun z => (hf _ z).2.1 rfl) ho, r⟩
  · by_cases hb : b = T
    · subst hb
      rw [upd_same] at e
      cases e
      exact new
    · rw [upd_ne hb] at e
      refine (I.hok b u e).stay (fun c v hc q => k c v ?_ q) (fun c q => ?_) fun c xs q => ?_
      · rcases hc with z | z
        · rw [z]
          exact nit b u e
        · exact nit c _ z
      · rw [upd_ne (ne_of_none q hn)]
        exact q
      · rw [upd_ne (ne_of_none q hn)]
        exact q
/-! what it gives -/
def keysOf (run : List W → Sto → R W) : List D → Sto → R (List D)
  | [], st => .ok [] st
  | d :: r, st => (noX (run [.v d] st)).bind fun y st => match y with
    | .v k => (keysOf run r st).bind fun ks st => .ok (k :: ks) st
    | .r _ => .bad
def isRow : PyData → Bool
  | .tuple (_ :: _) => true
  | _ => false
def alikes (ks : List PyData) : Bool := ks.all fun x => ks.all fun y => alike x y
def keysOk (ks : List D) : Bool := alikes (ks.map D.py) && (ks.map D.py).all isRow && ks.all (fun k => decide (k.py.depth ≤ 60) && k.py.canLay0)
/-- a stable sort that computes -/
def ins {α : Type} (le : α → α → Bool) (x : α) : List α → List α
  | [] => [x]
  | y :: r => if le x y then x :: y :: r else y :: ins le x r
def isort {α : Type} (le : α → α → Bool) : List α → List α
  | [] => []
  | x :: r => ins le x (isort le r)
theorem ins_mem {α : Type} {le : α → α → Bool} {x : α} : ∀ {l : List α} {z : α}, z ∈ ins le x l → z = x ∨ z ∈ l
  | [], z, h => .inl (List.mem_singleton.mp h)
  | y :: r, z, h => by
    unfold ins at h
    split at h
    · exact List.mem_cons.mp h
    · rcases List.mem_cons.mp h with h | h
      · exact .inr (h ▸ List.mem_cons_self)
      · exact (ins_mem h).imp id (List.mem_cons_of_mem _)
theorem ins_sorted {α : Type} {le : α → α → Bool} (h : TotalLe le) {x : α} : ∀ {l : List α}, l.Pairwise (fun a b => le a b = true) → (ins le x l).Pairwise fun a b => le a b = true
  | [], _ => List.pairwise_singleton _ _
  | y :: r, p => by
    rw [List.pairwise_cons] at p
    unfold ins
    split
    · rename_i c
      rw [List.pairwise_cons]
      refine ⟨fun z hz => ?_, List.pairwise_cons.mpr p⟩
      rcases List.mem_cons.mp hz with rfl | hz
      · exact c
      · exact h.trans _ _ _ c (p.1 z hz)
    · rename_i c
      rw [List.pairwise_cons]
      refine ⟨fun z hz => ?_, ins_sorted h p.2⟩
      rcases ins_mem hz with rfl | hz
      · exact (h.total y z).resolve_right c
      · exact p.1 z hz
theorem ins_stable {α : Type} {le : α → α → Bool} (h : TotalLe le) {x c : α} : ∀ {l : List α}, (ins le x l).filter (sameRank le c) = (x :: l).filter (sameRank le c)
  | [] => rfl
  | y :: r => by
    unfold ins
    split
    · rfl
    · rename_i n
      rw [List.filter_cons, ins_stable h (l := r)]
      simp only [List.filter_cons]
      cases hx : sameRank le c x with
      | false => simp
      | true =>
        cases hy : sameRank le c y with
        | false => simp
        | true =>
          simp only [sameRank, Bool.and_eq_true] at hx hy
          exact absurd (h.trans _ _ _ hx.2 hy.1) n
theorem isort_eq {α : Type} {le : α → α → Bool} (h : TotalLe le) (l : List α) : isort le l = l.mergeSort le := by
  refine sort_unique h ?_ fun c => ?_
  · induction l with
    | nil => exact .nil
    | cons x r ih => exact ins_sorted h ih
  · induction l with
    | nil => rfl
    | cons x r ih =>
      show (ins le x (isort le r)).filter _ = _
      rw [ins_stable h, List.filter_cons, List.filter_cons, ih]
def sortD (ds ks : List D) : List D := (isort (dataLe false fun p => p.2.py) (ds.zip ks)).map (·.1)
def sortFin (ds ks : List D) (st : Sto) : R (List D) := if keysOk ks && decide (ds.length ≤ 100000) then .ok (sortD ds ks) st else .bad
def sortK (run : List W → Sto → R W) (ds : List D) (st : Sto) : R (List D) := (keysOf run ds st).bind fun ks st => sortFin ds ks st
def lSortK (run : List W → Sto → R W) (g : AD) : LD := fun env st => (g env st).bind fun ws st => match ws with
  | [w] => match asLst st w with
    | some ds => sortK run ds st
    | none => .bad
  | _ => .bad

/-! the call -/
theorem alikes_of {ks : List PyData} (h : alikes ks = true) : AllAlike ks := fun d hd d' hd' => by
  have h1 := List.all_eq_true.mp h d hd
  exact List.all_eq_true.mp h1 d' hd'
theorem sortable_of {ks : List PyData} (h : ks.all isRow = true) : PySem.W.Sortable ks := .inl fun d hd => by
  have h1 := List.all_eq_true.mp h d hd
  unfold isRow at h1
  split at h1
  · exact ⟨_, _, rfl⟩
  · cases h1
theorem each_of : ∀ {xs : List V} {us : List Value} {bs : List (V × D × D)}, Vals xs us → bs.map (·.1) = xs → EachIs (fun u b => RelV b.1 u) us bs
  | _, _, [], .nil, e => .nil
  | _, _, [], .cons _ _, e => by cases e
  | _, _, b :: bs, .nil, e => by cases e
  | _, _, b :: bs, .cons r t, e => by
    simp only [List.map_cons, List.cons.injEq] at e
    obtain ⟨e1, e2⟩ := e
    subst e1
    exact .cons r (each_of t e2)
theorem of_each : ∀ {us : List Value} {bs : List (V × D × D)}, EachIs (fun u b => RelV b.1 u) us bs → Vals (bs.map (·.1)) us
  | _, _, .nil => .nil
  | _, _, .cons r t => .cons r (of_each t)
section
variable {K : KW} {ρ : Rho} {H : Hp}
theorem RlAll.zips : ∀ {xs : List V} {ds : List D} (ks : List D), RlAll K ρ H xs ds → ∀ b ∈ xs.zip (ds.zip ks), Rl K ρ H b.1 b.2.1
  | _, _, [], .cons _ _, b, hb => by simp at hb
  | _, _, _, .nil, b, hb => by simp at hb
  | _, _, k :: ks, .cons r t, b, hb => by
    simp only [List.zip_cons_cons, List.mem_cons] at hb
    rcases hb with rfl | hb
    · exact r
    · exact RlAll.zips ks t b hb
theorem RlAll.ofMem : ∀ {bs : List (V × D × D)}, (∀ b ∈ bs, Rl K ρ H b.1 b.2.1) → RlAll K ρ H (bs.map (·.1)) (bs.map (·.2.1))
  | [], _ => .nil
  | b :: bs, h => .cons (h b List.mem_cons_self) (RlAll.ofMem fun c hc => h c (List.mem_cons_of_mem _ hc))
end
theorem sortD_eq (xs : List V) (ds ks : List D) (h1 : xs.length = ds.length) (h2 : ks.length = ds.length) : ((xs.zip (ds.zip ks)).mergeSort (dataLe false fun b => b.2.2.py)).map (·.2.1) = sortD ds ks := by
  unfold sortD
  rw [isort_eq (show TotalLe (dataLe false fun p : D × D => p.2.py) from sortLe_total _ _ _)]
  have e : (xs.zip (ds.zip ks)).map (·.2) = ds.zip ks := by
    rw [List.map_snd_zip]
    simp [h1, h2]
  have m := List.map_mergeSort (l := xs.zip (ds.zip ks)) (r := dataLe false fun b : V × D × D => b.2.2.py) (s := dataLe false fun p : D × D => p.2.py) (f := fun b : V × D × D => b.2) (fun a _ b _ => rfl)
  rw [e] at m
  rw [← m, List.map_map]
  rfl
def rSortK (K : KW) (f : Addr) (run : List W → Sto → R W) : List V → List V → Hp → VK → Prop := fun vs zs H Q => ∃ (ρ : Rho) (st : Sto) (a : Addr) (xs : List V) (ds : List D),
  vs = [.ref a] ∧ zs = [.ref f] ∧ SqL K H a xs ∧ RlAll K ρ H xs ds ∧ RelSt K ρ H st ∧ okF K (fun _ => .none) ρ H E0 Q (sortK run ds st)
theorem keysOf_len {run : List W → Sto → R W} : ∀ {ds : List D} {st st' : Sto} {ks : List D}, keysOf run ds st = .ok ks st' → ks.length = ds.length
  | [], _, _, _, e => by cases e; rfl
  | d :: r, st, st', ks, e => by
    simp only [keysOf] at e
    cases e1 : noX (run [.v d] st) with
    | exc x y => rw [e1] at e; cases e
    | bad => rw [e1] at e; cases e
    | ok y st1 =>
      rw [e1] at e
      simp only [R.bind_ok] at e
      cases y with
      | r l => cases e
      | v k =>
        simp only at e
        cases e2 : keysOf run r st1 with
        | exc x y => rw [e2] at e; cases e
        | bad => rw [e2] at e; cases e
        | ok ks1 st2 =>
          rw [e2] at e
          simp only [R.bind_ok, R.ok.injEq] at e
          rw [← e.1, List.length_cons, keysOf_len e2, List.length_cons]
theorem okF.grow {K : KW} {ct : Nat → Value} {ρ ρ1 : Rho} {H H1 : Hp} {E : XK} {Q : VK} {r : R (List D)} (g : Grow ρ H ρ1 H1) (h : okF K ct ρ H E Q r) : okF K ct ρ1 H1 E Q r := by
  cases r with
  | ok ds st' => exact fun ρ' H' p xs g' => h ρ' H' p xs (g.trans g')
  | exc x st' => exact fun ρ' H' cv od g' => h ρ' H' cv od (g.trans g')
  | bad => exact h
/-- what a key's function does at every state from here on -/
def CallsTo (X : Cx) (ρ0 : Rho) (H0 : Hp) (pins0 : List (Addr × Obj)) (f : Addr) (run : List W → Sto → R W) : Prop :=
  ∀ (pins : List (Addr × Obj)) (σ : St) (s' : Shared) (H' : Hp) (ρ' : Rho) (st' st2 : Sto) (v : Value) (x : V) (d kd : D), (∀ p ∈ pins0, p ∈ pins) → Inv X pins σ H' s' → Grow ρ0 H0 ρ' H' → RelSt X.kw ρ' H' st' → RelV x v → Rl X.kw ρ' H' x d → run [.v d] st' = .ok (.v kd) st2 →
    codeAny (model X.prog X.w) X.A.in1.in1 (.call (.ref f) ⟨[v], []⟩) (CR CX0 X.stack X.prog X.w H' s' (fun y2 H2 => ∃ ρ2, Grow ρ' H' ρ2 H2 ∧ RelSt X.kw ρ2 H2 st2 ∧ Rw X.kw ρ2 H2 y2 (.v kd)) E0) s'
theorem calls_fn {X : Cx} {ct : Nat → Value} {k : Nat} {f : Addr} {fd : FuncData} {ps : List Str} {run : List W → Sto → R W} (F : FnG X.prog X.w X.K X.mg X.base CX0 k f fd ps (spG X.kw ct 1 run)) (gd : X.A.guards = some []) (hr : Room (k + 1) X.A) (hb : Binds X.K fd ps []) (ρ0 : Rho) (H0 : Hp) (pins0 : List (Addr × Obj)) :
    CallsTo X ρ0 H0 pins0 f run := fun pins σ s' H' ρ' st' st2 v x d kd _ I' _ rs' ru rd er => by
  have hb1 := hb s' [v] I'.kIn (by
    have := F.len [x] H' (fun _ _ => True) E0 ⟨ρ', st', [.v d], rs', .cons (.v rd) .nil, rfl, by rw [er]; exact fun _ _ _ _ _ _ => trivial⟩
    simpa using this)
  rw [List.append_nil] at hb1
  refine F.run X.A.in1.in1 X.stack s' H' ⟨[v], []⟩ [v] [x] (fun y2 H2 => ∃ ρ2, Grow ρ' H' ρ2 H2 ∧ RelSt X.kw ρ2 H2 st2 ∧ Rw X.kw ρ2 H2 y2 (.v kd)) E0 gd ?_ ?_ hb1 (.cons ru .nil) ⟨ρ', st', [.v d], rs', .cons (.v rd) .nil, rfl, ?_⟩
  · have h1 := hr.hd
    have h2 := hr.dp
    have h3 := hr.un
    exact ⟨h1, by show X.A.depth + 3 * k + 5 < _; omega, by show X.A.units + 1 + 1 + 16 * k + 200 < _; omega⟩
  · obtain ⟨q1, q2, q3, q4, q5, q6, q7, q8⟩ := I'.env0
    exact ⟨q1, q2, q3, q4, q5, q6, q7, q8⟩
  · rw [er]
    exact fun ρ2 H2 y2 g2 s2 r2 => ⟨ρ2, g2, s2, r2⟩
theorem sort_by {X : Cx} {f : Addr} {run : List W → Sto → R W} {pins : List (Addr × Obj)} {s : Shared} {σ : St} {H : Hp} {l : Addr} {xs : List V} {ds : List D} {ρ1 : Rho} {st1 : Sto} {Q : VK} (hu : X.A.units + 65 < cLine) (I : Inv X pins σ H s) (hq : SqL X.K H l xs) (rds : RlAll X.kw ρ1 H xs ds) (rs : RelSt X.kw ρ1 H st1) (C : CallsTo X ρ1 H pins f run)
    (hok : okF X.kw (fun _ => .none) ρ1 H E0 Q (sortK run ds st1)) : wpAny (model X.prog X.w) X.A (call (.builtin "sorted") [.ref l] [(Str.ofString "key", .ref f)]) (EP X pins σ Q) X.xe s := by
  obtain ⟨its, rv, hl, hz⟩ := I.list hq
  have hlx : xs.length = ds.length := rds.length
  have hli : xs.length = its.length := rv.length
  have hZ : its.length ≤ sizeLine := by rw [← hli]; exact hz
  refine sorted_of_sort hl.isList hZ (ksk_s1 _ _) (fun x => ksk_l1 _ _) fun E' => ?_
  show wpAny _ _ (Builtin.«list.sort» ⟨[.ref (s.heap.objs.size + 1)], [(Str.ofString "key", .ref f)]⟩) _ _ _
  rw [ksk_t1]
  have hcs : (copyHeap s.heap its).objs.size = s.heap.objs.size + 2 := by
    unfold copyHeap
    rw [size_push', Heap.size_update, size_push']
  refine keyJ_tree (copyHeap_at s.heap its) hZ fun e1 ha hk => ?_
  show wpAny _ _ (ksk_rest _ _ _ _ _ (.ref ((copyHeap s.heap its).objs.size + 1))) _ _ _
  have keep0 : ∀ b o, s.heap.get? b = some o → (sortingHeap (copyHeap s.heap its) (s.heap.objs.size + 1) its).get? b = some o := fun b o e =>
    sortingHeap_old (Nat.ne_of_lt (Nat.lt_succ_of_lt (Heap.lt_size e))) (copyHeap_old e)
  generalize hkk : (copyHeap s.heap its).objs.size + 1 = kS at *
  generalize haa : s.heap.objs.size + 1 = a at *
  have hsk : s.heap.objs.size ≤ kS := by omega
  have hsa : s.heap.objs.size ≤ a := by omega
  have hka : kS ≠ a := by omega
  have fk : ∀ {H' : Hp}, H' kS = none → FpOk X pins H' kS := fun hn => I.fpOk hsk hn
  have fa : ∀ {H' : Hp}, H' a = none → FpOk X pins H' a := fun hn => I.fpOk hsa hn
  have repin : ∀ {H' : Hp} {s' : Shared} {kA : Array Value} {e : Nat}, Inv X pins σ H' s' → s'.heap.get? kS = some (seqObj "list" kA e) → s'.heap.get? a = some (seqObj "list" #[] e1) → H' kS = none → H' a = none →
      Inv X ((kS, seqObj "list" kA e) :: (a, seqObj "list" #[] e1) :: pins) σ H' s' := fun I' h1 h2 n1 n2 => I'.pins_of fun p hp => by
    rcases List.mem_cons.mp hp with z | hp
    · subst z
      exact ⟨h1, n1, (fk n1).2.1, (fk n1).2.2.1, fun v q => nomatch q⟩
    · rcases List.mem_cons.mp hp with z | hp
      · subst z
        exact ⟨h2, n2, (fa n2).2.1, (fa n2).2.2.1, fun v q => nomatch q⟩
      · exact I'.pin p (List.mem_append_right _ hp)
  have I0 : Inv X pins σ H { s with heap := sortingHeap (copyHeap s.heap its) a its } := I.kept (t' := s.toks) keep0
  refine keyJ_rest (fun i kA s' => ∃ (ρ' : Rho) (H' : Hp) (st' : Sto) (ks : List D) (kvs : List V) (e : Nat), Inv X ((kS, seqObj "list" kA e) :: (a, seqObj "list" #[] e1) :: pins) σ H' s' ∧ Grow ρ1 H ρ' H' ∧ RelSt X.kw ρ' H' st' ∧
    Vals kvs kA.toList ∧ RlAll X.kw ρ' H' kvs ks ∧ ks.length = i ∧ i ≤ ds.length ∧ okF X.kw (fun _ => .none) ρ1 H E0 Q ((keysOf run (ds.drop i) st').bind fun ks' st => sortFin ds (ks ++ ks') st)) hZ ?_ ?_ ?_
  · exact ⟨ρ1, H, st1, [], [], 0, repin I0 hk ha (I.hok.fresh hsk) (I.hok.fresh hsa), .refl _ _, rs, .nil, .nil, rfl, Nat.zero_le _, hok⟩
  · rintro i v kA s' hv ⟨ρ', H', st', ks, kvs, e, I', gr, rs', rk, rks, hlen, hi, hq'⟩
    have hil : i < ds.length := by
      rw [← hlx, hli]
      exact (List.getElem?_eq_some_iff.mp hv).1
    obtain ⟨x, hx⟩ : ∃ x, xs[i]? = some x := ⟨_, List.getElem?_eq_getElem (by omega)⟩
    obtain ⟨u0, hu0, ru0⟩ := rv.get hx
    rw [hv] at hu0
    cases hu0
    obtain ⟨d, hd, rd⟩ := rds.get hx
    have hd' : ds[i] = d := by
      rw [List.getElem?_eq_getElem hil] at hd
      exact Option.some.inj hd
    have dr : ds.drop i = d :: ds.drop (i + 1) := by rw [List.drop_eq_getElem_cons hil, hd']
    rw [dr] at hq'
    simp only [keysOf] at hq'
    cases er : run [.v d] st' with
    | exc x y => rw [er] at hq'; exact hq'.elim
    | bad => rw [er] at hq'; exact hq'.elim
    | ok y st2 =>
    rw [er] at hq'
    simp only [noX_ok, R.bind_ok] at hq'
    cases y with
    | r l' => exact hq'.elim
    | v kd =>
    simp only at hq'
    apply wpAny_call
    refine codeAny_mono (C _ σ s' H' ρ' st' st2 v x d kd (fun p hp => List.mem_cons_of_mem _ (List.mem_cons_of_mem _ hp)) I' gr rs' ru0 (rd.grow gr) er) ?_
    · rintro (er' | (_ | _ | _ | u)) s'' q
      · exact q.elim
      · exact q.elim
      · exact q.elim
      · exact q.elim
      · obtain ⟨y2, H2, I2, ry, ρ2, g2, rs2, rw2⟩ := I'.after q
        have pk := (I2.pin _ (List.mem_append_right _ List.mem_cons_self))
        have pa := (I2.pin _ (List.mem_append_right _ (List.mem_cons_of_mem _ List.mem_cons_self)))
        have I3 : Inv X pins σ H2 s'' := I2.pins_of fun p hp => I2.pin p (List.mem_append_right _ (List.mem_cons_of_mem _ (List.mem_cons_of_mem _ hp)))
        cases rw2 with | v rw2 =>
        have hz' : kA.size = ks.length := by
          rw [← Array.length_toList, ← rk.length, rks.length]
        have sb := Heap.SameBut.update s''.heap kS (Obj.mapSeq (·.push u))
        have I4 : Inv X pins σ H2 { s'' with heap := s''.heap.update kS (Obj.mapSeq (·.push u)) } := I3.turnedL (t' := s''.toks) (ch := [kS]) (fun b o hc e => (sb.2 b (fun z => hc (by simp [z]))).trans e) fun b hb => by
          obtain rfl : b = kS := by simpa using hb
          exact fk pk.2.1
        refine ⟨⟨e, pk.1⟩, by omega, ρ2, H2, st2, ks ++ [kd], kvs ++ [y2], _, repin I4 (get?_update_seq pk.1 (·.push u)) ((sb.2 a (Ne.symm hka)).trans pa.1) pk.2.1 pa.2.1, gr.trans g2, rs2, ?_, (rks.grow g2).append (.cons rw2 .nil), by simp [hlen], hil, ?_⟩
        · rw [show (kA.push u).toList = kA.toList ++ [u] by simp]
          exact Paired.snoc rk ry
        · revert hq'
          cases keysOf run (ds.drop (i + 1)) st2 with
          | ok ks' st3 =>
            simp only [R.bind_ok, List.append_assoc, List.singleton_append]
            exact id
          | exc x y => exact id
          | bad => exact id
  · rintro kA s' ⟨ρ', H', st', ks, kvs, e, I', gr, rs', rk, rks, hlen, hi, hq'⟩
    have pk := (I'.pin _ (List.mem_append_right _ List.mem_cons_self))
    have pa := (I'.pin _ (List.mem_append_right _ (List.mem_cons_of_mem _ List.mem_cons_self)))
    refine ⟨⟨e, pk.1⟩, ?_⟩
    have I3 : Inv X pins σ H' s' := I'.pins_of fun p hp => I'.pin p (List.mem_append_right _ (List.mem_cons_of_mem _ (List.mem_cons_of_mem _ hp)))
    rw [List.drop_of_length_le (by omega)] at hq'
    simp only [keysOf, R.bind_ok, List.append_nil, sortFin] at hq'
    split at hq'
    rotate_left
    · exact hq'.elim
    rename_i hc
    simp only [Bool.and_eq_true, decide_eq_true_eq, keysOk] at hc
    obtain ⟨⟨⟨hal, hrow⟩, hdp⟩, hlim⟩ := hc
    have hal' := alikes_of hal
    have hsr := sortable_of hrow
    have hlk : ks.length = ds.length := by omega
    have hks : EachIs (fun v d => ∃ as, Reads s'.heap v d as) kA.toList (ks.map D.py) := by
      have gen : ∀ {kvs : List V} {us : List Value} {ks : List D}, Vals kvs us → RlAll X.kw ρ' H' kvs ks → (ks.all fun k => decide (k.py.depth ≤ 60) && k.py.canLay0) = true → EachIs (fun v d => ∃ as, Reads s'.heap v d as) us (ks.map D.py) := by
        intro kvs us ks r1 r2
        induction r1 generalizing ks with
        | nil => intro _; cases r2; exact .nil
        | cons r _ ih =>
          intro hc
          cases r2 with
          | cons q t =>
            simp only [List.all_cons, Bool.and_eq_true] at hc
            exact .cons (Dp.reads I3 _ _ _ (q.dp hc.1.2) r) (ih t hc.2)
      exact gen rk rks hdp
    have hksz : kA.size = its.length := by
      have := hks.length
      rw [Array.length_toList, List.length_map] at this
      omega
    have hun : ∀ d, d ∈ ks.map D.py → X.A.in1.in1.units + d.depth < cLine := fun d hd => by
      obtain ⟨k0, hk0, rfl⟩ := List.mem_map.mp hd
      have := List.all_eq_true.mp hdp k0 hk0
      simp only [Bool.and_eq_true, decide_eq_true_eq] at this
      show X.A.units + 1 + 1 + _ < _
      omega
    refine keyH_end (κ := dataKind s'.heap (ks.map D.py)) (h₁ := without s'.heap kS) (a := a) (e := e) (fun b o hb eb => ?_) (without_self _ _) pk.1 pa.1 hka (SortsAt.data hks hal' hsr hun) hksz hZ fun h3 tk3 c k3 n3 => ⟨rfl, ?_⟩
    · by_cases hbk : b = kS
      · subst hbk
        rw [without_self] at eb
        cases eb
      · rw [without_ne hbk] at eb
        exact eb
    let bs := xs.zip (ds.zip ks)
    have hzl : (ds.zip ks).length = ds.length := by simp [hlk]
    have eb1 : bs.map (·.1) = xs := by
      show (xs.zip (ds.zip ks)).map Prod.fst = xs
      rw [List.map_fst_zip]
      omega
    have eb2 : bs.map (fun b => b.2.2.py) = ks.map D.py := by
      show (xs.zip (ds.zip ks)).map (fun b => b.2.2.py) = _
      have h1 : (xs.zip (ds.zip ks)).map (·.2) = ds.zip ks := by rw [List.map_snd_zip]; omega
      have h2 : (ds.zip ks).map (·.2) = ks := by rw [List.map_snd_zip]; omega
      calc (xs.zip (ds.zip ks)).map (fun b => b.2.2.py) = (((xs.zip (ds.zip ks)).map (·.2)).map (·.2)).map D.py := by simp [List.map_map, Function.comp_def]
        _ = _ := by rw [h1, h2]
    have ko : KeyedOut false (bs.map fun b => b.2.2.py) its (sortVals (dataKind s'.heap (ks.map D.py)) false kA.toList its) := by
      rw [eb2]
      exact ⟨s'.heap, kA.toList, hal', rfl, hks⟩
    have each := keyedOut_each (R := fun u (b : V × D × D) => RelV b.1 u) (fun b => b.2.2.py) ko (each_of rv eb1)
    have vout := of_each each
    have hmem : ∀ b ∈ bs.mergeSort (dataLe false fun b => b.2.2.py), Rl X.kw ρ' H' b.1 b.2.1 := fun b hb => (RlAll.zips ks rds b ((List.mergeSort_perm bs _).mem_iff.mp hb)).grow gr
    have rout := RlAll.ofMem hmem
    rw [sortD_eq xs ds ks hlx hlk] at rout
    have hk3 : ∀ b o, b ∉ [kS, a] → s'.heap.get? b = some o → h3.get? b = some o := fun b o hb q => by
      simp only [List.mem_cons, List.not_mem_nil, or_false, not_or] at hb
      exact k3 b o hb.2 (by rw [without_ne hb.1]; exact q)
    have hl3 : (List.map (fun b => b.1) (bs.mergeSort (dataLe false fun b => b.2.2.py))).length ≤ sizeLine := by
      rw [List.length_map, List.length_mergeSort]
      show (xs.zip (ds.zip ks)).length ≤ _
      rw [List.length_zip]
      omega
    have new : ObjOk X.prog X.w (upd H' a (.lst (List.map (fun b => b.1) (bs.mergeSort (dataLe false fun b => b.2.2.py))))) h3 a (.lst (List.map (fun b => b.1) (bs.mergeSort (dataLe false fun b => b.2.2.py)))) := ⟨hl3, _, c, vout, n3⟩
    refine ⟨.ref a, _, adopt (t' := tk3) I3 hk3 (fun b hb => ?_) (by simp) new, rfl, hq' ρ' H' a _ gr rs' pa.2.1 rout⟩
    rcases (show b = kS ∨ b = a by simpa using hb) with rfl | rfl
    · exact fk pk.2.1
    · exact fa pa.2.1
theorem cr_sortK {X : Cx} {ct : Nat → Value} {k : Nat} {f : Addr} {fd : FuncData} {ps : List Str} {run : List W → Sto → R W} (F : FnG X.prog X.w X.K X.mg X.base CX0 k f fd ps (spG X.kw ct 1 run)) (gd : X.A.guards = some []) (hr : Room (k + 1) X.A) (hb : Binds X.K fd ps []) :
    CallRK X (.builtin "sorted") [Str.ofString "key"] (rSortK X.kw f run) := by
  intro pins s σ H vs zs us ws Q I r rz h
  obtain ⟨ρ1, st1, l, xs, ds, rfl, rfl, hq, rds, rs, hok⟩ := h
  obtain rfl := Vals.ref1 r
  obtain rfl := Vals.ref1 rz
  exact sort_by (by have := hr.un; omega) I hq rds rs (calls_fn F gd hr hb ρ1 H pins) hok
section
variable {X : Cx} {ct : Nat → Value} {E : St → XK} {k : Nat} {run : List W → Sto → R W} {x : Str} {p pos xpos kpos : Pos} {e : Expr} {f : ED}
theorem okF_ct {K : KW} {ct : Nat → Value} {ρ : Rho} {H : Hp} {E : XK} {Q : VK} {run : List W → Sto → R W} {ds : List D} {st : Sto} (h : okF K ct ρ H E Q (sortK run ds st)) : okF K (fun _ => .none) ρ H E0 Q (sortK run ds st) := by
  have nx : ∀ (ds : List D) (st : Sto) (x : Xc) (y : Sto), keysOf run ds st ≠ .exc x y := by
    intro ds
    induction ds with
    | nil => intro st x y h; cases h
    | cons d r ih =>
      intro st x y h
      simp only [keysOf] at h
      cases e1 : run [.v d] st with
      | exc x y => rw [e1] at h; cases h
      | bad => rw [e1] at h; cases h
      | ok w st1 =>
        rw [e1] at h
        simp only [noX_ok, R.bind_ok] at h
        cases w with
        | r l => cases h
        | v k0 =>
          simp only at h
          cases e2 : keysOf run r st1 with
          | exc x' y' => exact ih _ _ _ e2
          | bad => rw [e2] at h; cases h
          | ok ks st2 => rw [e2] at h; cases h
  cases q : sortK run ds st with
  | ok es st' => rw [q] at h; exact h
  | bad => rw [q] at h; exact h.elim
  | exc x y =>
    exfalso
    unfold sortK at q
    cases e2 : keysOf run ds st with
    | exc x' y' => exact nx _ _ _ _ e2
    | bad => rw [e2] at q; cases q
    | ok ks st2 =>
      rw [e2] at q
      simp only [R.bind_ok, sortFin] at q
      split at q <;> cases q
theorem df_sortK (C : Cal X.prog X.w X.K X.mg X.base ct x 1 k run) (gd : X.A.guards = some []) (hr : Room (k + 1) X.A) (hgs : Gl X "sorted") (hm : X.mg "sorted" = none) (hg : Gl X x) (h : PE X e (tE X.kw ct E f)) (hdb : (x == ("__debug__" : Str)) = false := by decide)
    (hs : starEach [e] X.env = [(false, eval e X.env)] := by rfl)
    (he : backTo pos (starEach [e] X.env) = (false, eval e X.env) :: backTo pos (starEach [] X.env) := by rfl) (hpl : (backTo pos (starEach [e] X.env)).any (·.1) = false := by rfl)
    (hall : (backToKw pos (keywordEach [⟨some (Str.ofString "key"), .Name x xpos, kpos⟩] X.env)).all (·.1.isSome) = true := by rfl) (hnone : (backToKw pos (keywordEach [⟨some (Str.ofString "key"), .Name x xpos, kpos⟩] X.env)).any (·.1.isNone) = false := by rfl) (hks : (backToKw pos (keywordEach [⟨some (Str.ofString "key"), .Name x xpos, kpos⟩] X.env)).filterMap (·.1) = [Str.ofString "key"] := by rfl) :
    PE X (.Call (.Name "sorted" p) [e] [⟨some (Str.ofString "key"), .Name x xpos, kpos⟩] pos) (tF X.kw ct E (lSortK run (aCons f aNil))) := by
  obtain ⟨fa, fd, ps, G, m, kp, b⟩ := C.ex
  have ha : PA X [e] (tA X.kw ct E (aCons f aNil)) := da_cons h da_nil hs
  refine PE.of (pe_callBK (cr_sortK G gd hr b) hgs hm bt_sorted ha (pk_cons (pe_glob hg m (v := .ref fa) rfl hdb) pk_nil) (by decide) (by decide) he hpl hall hnone hks) ?_
  rintro σ H Q ⟨ρ, st, env, a, q⟩
  refine ⟨ρ, st, env, a, ?_⟩
  unfold lSortK at q
  cases ef : aCons f aNil env st with
  | exc x st1 => rw [ef] at q; exact q
  | bad => rw [ef] at q; exact q.elim
  | ok ws st1 =>
    rw [ef] at q
    simp only [R.bind_ok] at q
    split at q
    · rename_i w
      intro ρ1 H1 vs g s r
      cases ea : asLst st1 w with
      | none => rw [ea] at q; exact q.elim
      | some ds =>
        rw [ea] at q
        simp only at q
        obtain ⟨v, rfl, rv⟩ := r.one
        obtain ⟨l, xs, rfl, h1, h2⟩ := lst_of s rv ea
        exact ⟨ρ1, st1, l, xs, ds, rfl, rfl, h1, h2, s, okF_ct (q.grow g)⟩
    · exact q.elim
end
end Jv
end
section
/-! dicts whose keys are tuples; tuples by <; join; a list unpacked -/
namespace Jv
open PySem PySem.Spec L2 PyProof.Rows PySem.W
section
variable {X : Cx} {pins : List (Addr × Obj)} {σ : St} {H : Hp} {s : Shared} {ρ : Rho}
mutual
theorem nested_of (I : Inv X pins σ H s) : ∀ (d : D) (v : V) (u : Value), Rl X.kw ρ H v d → RelV v u → d.hb = true → NestedIs s.heap d.nk u
  | .non, _, _, r, q, _ => by cases r; cases q; exact .none
  | .bl b, _, _, r, q, _ => by cases r; cases q; exact .bool rfl
  | .int i, _, _, r, q, _ => by cases r; obtain ⟨t, rfl⟩ := q; exact .int i t
  | .str x, _, _, r, q, _ => by cases r; obtain ⟨t, rfl⟩ := q; exact .text x t
  | .tup ds, v, u, r, q, c => by
    cases r with
    | tup h n r1 =>
      cases q
      obtain ⟨its, rv, ⟨o, e1, e2, m, e3⟩, _⟩ := I.tuple (.inl h)
      simp only [D.nk]
      exact .tup e1 e2 e3 (nesteds_of I ds _ _ r1 rv (by simpa [D.hb] using c))
  | .lst _, _, _, _, _, c => by simp [D.hb] at c
  | .dct _, _, _, _, _, c => by simp [D.hb] at c
  | .ty _, _, _, _, _, c => by simp [D.hb] at c
  | .kd _, _, _, _, _, c => by simp [D.hb] at c
  | .cod _, _, _, _, _, c => by simp [D.hb] at c
  | .ld _, _, _, _, _, c => by simp [D.hb] at c
  | .adr _, _, _, _, _, c => by simp [D.hb] at c
  | .tupx _, _, _, _, _, c => by simp [D.hb] at c
  | .exc _ _, _, _, _, _, c => by simp [D.hb] at c
theorem nesteds_of (I : Inv X pins σ H s) : ∀ (ds : List D) (vs : List V) (us : List Value), RlAll X.kw ρ H vs ds → Vals vs us → D.hbL ds = true → NestedAll s.heap (D.nkL ds) us
  | [], _, _, r, q, _ => by cases r; cases q; exact .nil
  | d :: ds, _, _, r, q, c => by
    cases r with
    | cons r rs =>
      cases q with
      | cons q qs =>
        simp only [D.hbL, Bool.and_eq_true] at c
        exact .cons (nested_of I d _ _ r q c.1) (nesteds_of I ds _ _ rs qs c.2)
end
theorem KdR.keys {K : KW} {xs : List (NestedKey × Addr × Value)} {ds : List (D × D)} (h : KdR K ρ H xs ds) : xs.map (·.1) = ds.map (·.1.nk) := by
  induction h with
  | nil => rfl
  | cons _ _ _ _ ih => simp [ih]
theorem kd_dict (I : Inv X pins σ H s) {a : Addr} {kvs : List (D × D)} (o : ObR X.kw ρ H a (.kd kvs)) :
    ∃ xs, H a = some (.ext (KdAt X.w a xs)) ∧ KdR X.kw ρ H xs kvs ∧ s.heap.DictOfH (nestedKind X.prog X.w) a xs ∧ (a == sysModules) = false := by
  obtain ⟨xs, h1, h2, h3, h4, h5⟩ := o
  obtain ⟨⟨o, es, ep, e1, e2, e3, e4⟩, hx⟩ := I.hok a _ h1
  clear hx
  refine ⟨xs, h1, h2, ⟨o, es, ep, e1, e2, e3, e4, ?_, by rw [h2.keys]; exact h4⟩, h5⟩
  clear h1 e4 h4
  induction h2 with
  | nil => intro x hx; cases hx
  | cons r q1 q2 _ ih =>
    intro x hx
    rcases List.mem_cons.mp hx with rfl | hx
    · have := h3 _ List.mem_cons_self
      exact ⟨nested_of I _ _ _ r rfl this.1, this.2⟩
    · exact ih (fun p hp => h3 p (List.mem_cons_of_mem _ hp)) x hx
end
/-! k in d -/
def hasK (kvs : List (D × D)) (k : D) : Bool := kvs.any fun p => decide (p.1.nk = k.nk)
def okK (k : D) : Bool := k.hb && decide (k.nk.depth ≤ 8)
def inKD : O2 := fun st a b => match a, b with
  | .v (.tup ds), .r l => match st[l]? with
    | some (.kd kvs) => if okK (.tup ds) then some (.bl (hasK kvs (.tup ds))) else none
    | _ => none
  | _, _ => none
theorem has_value {K : KW} {ρ : Rho} {H : Hp} {xs : List (NestedKey × Addr × Value)} {ds : List (D × D)} (k : D) (h : KdR K ρ H xs ds) : (valueAt (pairsH xs) k.nk).isSome = hasK ds k := by
  induction h with
  | nil => rfl
  | @cons b u v k0 d xs ds r q1 q2 t ih =>
    simp only [pairsH, List.map_cons, hasK, List.any_cons] at ih ⊢
    by_cases e : k0.nk = k.nk
    · simp [valueAt, e]
    · simp only [valueAt, e, if_false, decide_false, Bool.false_or] at ih ⊢
      rw [← ih]
      simp [valueAt, e]
theorem op_inK {X : Cx} (hu : X.A.units + 65 < cLine) : OpR X (compareOp .In) (rOf X.kw inKD) := by
  intro pins s σ H x y v u Q I rx ry h
  obtain ⟨ρ, st, d1, d2, d, rs, r1, r2, e, q⟩ := h
  unfold inKD at e
  split at e
  · rename_i ds l
    split at e
    · rename_i kvs hl
      · split at e
        · rename_i c
          cases e
          simp only [okK, Bool.and_eq_true, decide_eq_true_eq] at c
          rcases rs.obj l _ hl with ⟨z, _⟩ | ⟨a, ha, ob⟩
          · cases z
          obtain ⟨xs, h1, h2, h3, h4⟩ := kd_dict I ob
          cases r2 with | r hl2 hv =>
          have := hv a ha
          subst this
          cases ry
          cases r1 with | v r1 =>
          cases r1 with
          | tup t1 t2 t3 =>
            cases rx
            refine in_keyed (knd := nestedKind X.prog X.w) (k := (D.tup ds).nk) (show X.A.units + 1 + 8 < cLine by omega) ⟨nested_of I _ _ _ (.tup t1 t2 t3) rfl c.1, c.2⟩ h4 ⟨xs, h3, rfl⟩ ?_
            rw [has_value _ h2]
            exact ⟨.bl _, H, I.kept fun _ _ z => z, rfl, q H _ (.refl _) (.bl _)⟩
        · cases e
    · cases e
  · cases e
/-! {} -/
def eKNew : ED := fun env st => .ok (.r st.length) (st ++ [.kd []])
theorem pushK {K : KW} {ρ : Rho} {H : Hp} {st : Sto} {p : Addr} {o : HO} {ob : Ob} (s : RelSt K ρ H st) (hp : H p = none) (r : ObR K (ρ.push p) (upd H p o) p ob) (u : ob.under st.length) : RelSt K (ρ.push p) (upd H p o) (st ++ [ob]) := by
  have s1 := s.push (xs := []) (ds := []) hp .nil
  have hl : (ρ.push p).lc[st.length]? = some (some p) := by rw [← s.len]; simp [Rho.push]
  have := s1.write (o := o) (ob := ob) hl (by rw [upd_upd]; exact r) u
  rw [upd_upd] at this
  rwa [List.set_append_right _ _ (Nat.le_refl _), Nat.sub_self] at this
theorem de_knew {X : Cx} {ct : Nat → Value} {E : St → XK} {pos : Pos} : PE X (.Dict [] [] pos) (tE X.kw ct E eKNew) := ⟨fun pins s σ H Q I ⟨ρ, st, env, a, h⟩ => by
  have hp : H s.heap.objs.size = none := I.hok.fresh (Nat.le_refl _)
  have hk : KdAt X.w s.heap.objs.size [] (s.heap.push { cls := .type "dict", data := .dict #[] }) := ⟨_, _, _, Heap.get?_push_size _ rfl, ⟨rfl, rfl, rfl⟩, rfl, rfl⟩
  have new : ObjOk X.prog X.w (upd H s.heap.objs.size (.ext (KdAt X.w s.heap.objs.size []))) (s.heap.push { cls := .type "dict", data := .dict #[] }) s.heap.objs.size (.ext (KdAt X.w s.heap.objs.size [])) := by
    refine ⟨hk, ⟨_, Heap.get?_push_size _ rfl⟩, ?_⟩
    rintro h1 h2 ⟨o, es, ep, e1, e2⟩ st
    exact ⟨o, es, ep, st o e1, e2⟩
  refine wpAny_Dict_empty ⟨.ref s.heap.objs.size, _, I.laid (t' := s.toks) (fun _ _ q => Heap.get?_push_of_some _ q) (Nat.le_refl _) new, rfl, ?_⟩
  have hb : (s.heap.objs.size == sysModules) = false := beq_eq_false_iff_ne.mpr (Ne.symm (Nat.ne_of_lt I.big))
  refine h (ρ.push s.heap.objs.size) _ _ (.push hp) (pushK a.1 hp ⟨[], upd_same, .nil, (fun p hp => nomatch hp), List.nodup_nil, hb⟩ trivial) (.r (by rw [← a.1.len]; simp [Rho.push]) fun x hx => ?_)
  rw [← a.1.len] at hx
  simp [Rho.push] at hx
  rw [hx]⟩
/-! d[k] = v -/
def storeK (kvs : List (D × D)) (k d : D) : List (D × D) := if hasK kvs k then kvs.map fun p => if p.1.nk = k.nk then (p.1, d) else p else kvs ++ [(k, d)]
def kPut (o k v : W) (env : Env) (st : Sto) : Fl := match o, k, v with
  | .r l, .v (.tup ds), .v d => match st[l]? with
    | some (.kd kvs) => if okK (.tup ds) && decide (kvs.length ≤ 1000) then .nx env (st.set l (.kd (storeK kvs (.tup ds) d))) else .bad
    | _ => .bad
  | _, _, _ => .bad
def sKPut (fo fi fv : ED) : SD := fun env st => (fv env st).thenS env fun v st => (fo env st).thenS env fun o st => (fi env st).thenS env fun k st => kPut o k v env st
theorem KdR.length {K : KW} {ρ : Rho} {H : Hp} {xs : List (NestedKey × Addr × Value)} {ds : List (D × D)} (h : KdR K ρ H xs ds) : xs.length = ds.length := by
  induction h with
  | nil => rfl
  | cons _ _ _ _ ih => simp [ih]
theorem KdR.append {K : KW} {ρ : Rho} {H : Hp} {xs ys : List (NestedKey × Addr × Value)} {ds es : List (D × D)} (h : KdR K ρ H xs ds) (h2 : KdR K ρ H ys es) : KdR K ρ H (xs ++ ys) (ds ++ es) := by
  induction h with
  | nil => exact h2
  | cons r q1 q2 _ ih => exact .cons r q1 q2 ih
theorem KdR.maps {K : KW} {ρ : Rho} {H : Hp} {xs : List (NestedKey × Addr × Value)} {ds : List (D × D)} {k d : D} {v : V} {u : Value} (h : KdR K ρ H xs ds) (ru : RelV v u) (rv : Rl K ρ H v d) :
    KdR K ρ H (xs.map (putAt k.nk u)) (ds.map fun p => if p.1.nk = k.nk then (p.1, d) else p) := by
  induction h with
  | nil => exact .nil
  | @cons b u0 v0 k0 d0 xs ds r q1 q2 t ih =>
    simp only [List.map_cons]
    by_cases z : k0.nk = k.nk
    · rw [if_pos z]
      have : putAt k.nk u (k0.nk, b, u0) = (k0.nk, b, u) := if_pos z
      rw [this]
      exact .cons r ru rv ih
    · rw [if_neg z]
      have : putAt k.nk u (k0.nk, b, u0) = (k0.nk, b, u0) := if_neg z
      rw [this]
      exact .cons r q1 q2 ih
theorem KdR.put {K : KW} {ρ : Rho} {H : Hp} {xs : List (NestedKey × Addr × Value)} {ds : List (D × D)} {k d : D} {a : Addr} {v : V} {u : Value} (h : KdR K ρ H xs ds) (rk : Rl K ρ H (.ref a) k) (ru : RelV v u) (rv : Rl K ρ H v d) :
    KdR K ρ H (storedH xs k.nk a u) (storeK ds k d) := by
  have e : (atKey xs k.nk).isSome = hasK ds k := by
    rw [← has_value k h, valueAt_pairsH, Option.isSome_map]
  unfold storedH storeK
  rw [e]
  split
  · exact h.maps ru rv
  · exact h.append (.cons rk ru rv .nil)
theorem storeK_mem {ds : List (D × D)} {k d : D} (h : ∀ p ∈ ds, p.1.hb = true ∧ p.1.nk.depth ≤ 8) (hk : k.hb = true ∧ k.nk.depth ≤ 8) : ∀ p ∈ storeK ds k d, p.1.hb = true ∧ p.1.nk.depth ≤ 8 := by
  intro p hp
  unfold storeK at hp
  split at hp
  · obtain ⟨q, hq, rfl⟩ := List.mem_map.mp hp
    split
    · exact h q hq
    · exact h q hq
  · rcases List.mem_append.mp hp with hp | hp
    · exact h p hp
    · obtain rfl := List.mem_singleton.mp hp
      exact hk
theorem storeK_nodup {ds : List (D × D)} {k d : D} (h : (ds.map (·.1.nk)).Nodup) : ((storeK ds k d).map (·.1.nk)).Nodup := by
  unfold storeK
  split
  · rw [List.map_map]
    have e : ((fun p : D × D => p.1.nk) ∘ fun p : D × D => if p.1.nk = k.nk then (p.1, d) else p) = fun p => p.1.nk := by
      funext p
      simp only [Function.comp]
      split <;> rfl
    rw [e]
    exact h
  · rename_i hn
    rw [List.map_append, List.nodup_append]
    refine ⟨h, by simp, fun x hx y hy => ?_⟩
    simp only [List.map_cons, List.map_nil, List.mem_singleton] at hy
    subst hy
    obtain ⟨q, hq, rfl⟩ := List.mem_map.mp hx
    intro z
    exact hn (List.any_eq_true.mpr ⟨q, hq, decide_eq_true z⟩)
section
variable {X : Cx} {ct : Nat → Value} {E : St → XK} {o e i v : Expr} {fi fv fo : ED} {pos pos' : Pos}
theorem ds_kput (hu : X.A.units + 65 < cLine) (ho : PE X o (tE X.kw ct E fo)) (hi : PE X i (tE X.kw ct E fi)) (hv : PE X v (tE X.kw ct E fv)) (hs : swapsWith v (some (.Subscript o i pos')) pos.line X.env = pure false := by rfl) :
    PS X (.Assign [.Subscript o i pos'] v pos) (tS X.kw ct E (sKPut fo fi fv)) := by
  constructor
  rintro pins s σ H D I ⟨ρ, st, env, a, h⟩
  refine wpAny_Assign_Subscript (thn (hv.run pins s σ H _ I ⟨ρ, st, env, a, okS.first (rel := Rw) h a.2⟩) ?_) hs
  rintro u1 s1 ⟨v1, H1, I1, ru1, ρ1, st1, w1, a1, g1, r1, q1⟩
  refine thn (ho.run pins s1 σ H1 _ I1 ⟨ρ1, st1, env, a1, okS.first (rel := Rw) q1 a1.2⟩) ?_
  rintro u2 s2 ⟨v2, H2, I2, ru2, ρ2, st2, w2, a2, g2, r2, q2⟩
  refine thn (hi.run pins s2 σ H2 _ I2 ⟨ρ2, st2, env, a2, okS.first (rel := Rw) q2 a2.2⟩) ?_
  rintro u3 s3 ⟨v3, H3, I3, ru3, ρ3, st3, w3, a3, g3, r3, q3⟩
  unfold kPut at q3
  split at q3
  · rename_i l ds d
    split at q3
    · rename_i kvs hl
      · split at q3
        · rename_i c
          simp only [okK, Bool.and_eq_true, decide_eq_true_eq] at c
          rcases a3.1.obj l _ hl with ⟨z, _⟩ | ⟨p, hp, ob⟩
          · cases z
          obtain ⟨xs, h1, h2, h3, h4⟩ := kd_dict I3 ob
          obtain ⟨_, h1', h2', hd1, hd2, _⟩ := ob
          rw [h1] at h1'
          cases r2 with | r hl2 hv2 =>
          have := hv2 p (g3.ref l p hl2 hp)
          subst this
          cases ru2
          cases r1 with | v r1 =>
          cases r3 with | v r3 =>
          have rd := (r1.grow g2).grow g3
          cases r3 with
          | @tup ka _ _ t1 t2 t3 =>
            cases ru3
            have hxl : xs.length ≤ sizeLine := by
              rw [h2.length]
              exact Nat.le_trans c.2 (by decide)
            refine wpAny_setItem_heap (knd := nestedKind X.prog X.w) (k := (Jv.D.tup ds).nk) (hsz := hxl) (show X.A.units + 1 + 8 < cLine by omega) ⟨nested_of I3 _ _ _ (.tup t1 t2 t3) rfl c.1.1, c.1.2⟩ h3 fun h' hm sb => ?_
            obtain ⟨o', es', ep', e1, e2, e3, e4, _⟩ := hm
            have new : ObjOk X.prog X.w (upd H3 p (.ext (KdAt X.w p (storedH xs (Jv.D.tup ds).nk ka u1)))) h' p (.ext (KdAt X.w p (storedH xs (Jv.D.tup ds).nk ka u1))) := by
              refine ⟨⟨o', es', ep', e1, e2, e3, e4⟩, ⟨_, e1⟩, ?_⟩
              rintro g1 g2 ⟨o, es, ep, f1, f2⟩ stt
              exact ⟨o, es, ep, stt o f1, f2⟩
            have gw : Grow ρ3 H3 ρ3 (upd H3 p (.ext (KdAt X.w p (storedH xs (Jv.D.tup ds).nk ka u1)))) := .write hp
            refine ⟨σ, _, I3.write (e := p) (t' := s3.toks + (nestedKind X.prog X.w).draws (Jv.D.tup ds).nk) (by rw [h1]; trivial) (.inl rfl) (fun b o hb q => (sb.2 b hb).trans q) ⟨_, e1⟩ new, ?_⟩
            refine q3 ρ3 _ σ gw ⟨a3.1.write hp ⟨_, upd_same, ((h2.put (.tup t1 t2 t3) ru1 rd)).mono (fun _ _ z => z.grow gw), storeK_mem hd1 c.1, storeK_nodup hd2, h4⟩ trivial, a3.2.grow gw⟩
        · exact q3.elim
    · exact q3.elim
  · exact q3.elim
end
/-! ### tuples by < -/
def ltT : O2 := onV fun a b => if alike a.py b.py && isRow a.py && (decide (a.py.depth ≤ 60) && a.py.canLay0 && b.py.canLay0) then some (.bl (dataLt a.py b.py)) else none
theorem op_ltTT {X : Cx} (hu : X.A.units + 65 < cLine) : OpR X (compareOp .Lt) (rOf X.kw ltT) := by
  refine OpR.v ?_
  intro pins s σ H x y v u Q I rx ry h
  obtain ⟨ρ, st, d1, d2, d, rs, r1, r2, e, q⟩ := h
  simp only at e
  split at e
  · rename_i c
    simp only [Bool.and_eq_true, decide_eq_true_eq] at c
    cases e
    obtain ⟨as, ra⟩ := Dp.reads I _ _ _ (r1.dp c.2.1.2) rx
    obtain ⟨bs, rb⟩ := Dp.reads I _ _ _ (r2.dp c.2.2) ry
    refine lt_data ra rb c.1.1 (fun z => ?_) ?_ ⟨.bl _, H, I, rfl, q H _ (.refl _) (.bl _)⟩
    · have := c.1.2
      rw [z] at this
      cases this
    · have := c.2.1.1
      have := Nat.min_le_left d1.py.depth d2.py.depth
      omega
  · cases e
/-! ### join -/
def txtsD : List D → Option (List Str)
  | [] => some []
  | .str x :: r => (txtsD r).map (x :: ·)
  | _ => none
def joinG (a : Str) (w : W) (st : Sto) : R W := match asLst st w with
  | some ds => match txtsD ds with
    | some ys => if (ys.map (·.length)).sum + ys.length * a.length ≤ 1000000 then .ok (.v (.str (Txt.join a ys))) st else .bad
    | none => .bad
  | none => .bad
def eJoin (f g : ED) : ED := fun env st => (f env st).bind fun w st => match w with
  | .v (.str a) => (g env st).bind fun w st => joinG a w st
  | _ => .bad
theorem txts_rel {K : KW} {ρ : Rho} {H : Hp} : ∀ {xs : List V} {ds : List D} {ys : List Str}, RlAll K ρ H xs ds → txtsD ds = some ys → xs = ys.map V.str
  | _, [], _, .nil, e => by cases e; rfl
  | _, d :: ds, ys, .cons r t, e => by
    cases d with
    | str x =>
      simp only [txtsD] at e
      cases q : txtsD ds with
      | none => rw [q] at e; cases e
      | some zs =>
        rw [q] at e
        cases e
        cases r
        rw [txts_rel t q]
        rfl
    | _ => cases e
section
variable {X : Cx} {ct : Nat → Value} {E : St → XK} {o e : Expr} {f g : ED} {apos pos : Pos}
theorem de_join (ho : PE X o (tE X.kw ct E f)) (he : PE X e (tE X.kw ct E g)) (hs : starEach [e] X.env = [(false, eval e X.env)] := by rfl) (hbase : attributeBase o "join" X.env (eval o X.env) = eval o X.env := by rfl) (hline : (apos.endLine == pos.line) = true := by rfl) :
    PE X (.Call (.Attribute o "join" apos) [e] [] pos) (tE X.kw ct E (eJoin f g)) := PE.of (pe_join ho he hs hbase hline) fun σ H Q h => by
  refine (tG.bind (rel := Rw) (k := fun w env st => match w with | .v (.str a) => (g env st).bind fun w st => joinG a w st | _ => .bad) h).mono fun v H1 ⟨ρ1, st1, env, w1, a1, r1, q1⟩ => ?_
  split at q1
  · rename_i a
    cases r1 with | v r1 =>
    cases r1
    refine ⟨⟨a, rfl⟩, ρ1, st1, env, a1, (okG.bind (rel := Rw) q1 a1.2).mono fun v2 H2 ⟨ρ2, st2, w2, a2, g2, r2, q2⟩ => ?_⟩
    unfold joinG at q2
    split at q2
    · rename_i ds hds
      split at q2
      · rename_i ys hys
        split at q2
        · rename_i hl
          obtain ⟨p, xs, rfl, h1, h2⟩ := lst_of a2.1 r2 hds
          refine ⟨a, p, ys, rfl, rfl, .inl ?_, Nat.le_trans hl (by decide), q2.here a2.1 (.v (.str _))⟩
          rw [← txts_rel h2 hys]
          exact h1
        · exact q2.elim
      · exact q2.elim
    · exact q2.elim
  · exact q1.elim
end
/-! ### a, b, .. = a list -/
def gTl (n : Nat) (gs : GsD) : GD := fun w env => match w with
  | .v (.lst ds) => if ds.length = n then gs (ds.map .v) env else none
  | _ => none
theorem dg_lst {X : Cx} {es : List Expr} {k n : Nat} {pos : Pos} {gs : GsD} {vs : List Nat} (hc : X.calm = true) (h : PGs X es (gsR X.kw vs gs)) (hn : (assignEach es X.env).length = n := by rfl) (hst : (assignEach es X.env).findIdx? (·.1) = none := by rfl) :
    PG X (.Tuple es k pos) (gR X.kw vs (gTl n gs)) := PG.of (pg_lst hc h hn hst) fun v σ H Q ⟨ρ, st, env, w, env', a, r, e, q⟩ => by
  unfold gTl at e
  split at e
  · split at e
    · rename_i hl
      cases r with | v r =>
      cases r with
      | lst h1 r1 => exact ⟨_, _, rfl, h1.sql, by rw [r1.length]; exact hl, ρ, st, env, _, env', a, r1.toW, e, q⟩
    · cases e
  · cases e
theorem bt_enumerate : bootBuiltins "enumerate" = some (.type "enumerate") := by decide +kernel
end Jv
end
section
namespace Jv
open PySem PySem.Spec L2 PyProof.Rows
/-- a name's list, no longer one that changes, from here on -/
def sFrzV (i : Nat) (den : SD) : SD := fun env st => match env[i]? with
  | some (some (.r l)) => match st[l]? with
    | some (.lst ds) => den (env.set i (some (.v (.lst ds)))) (st.set l .dead)
    | _ => .bad
  | _ => den env st
theorem ds_frzV {X : Cx} {ct : Nat → Value} {E : St → XK} {s : Stmt} {den : SD} (i : Nat) (h : PS X s (tS X.kw ct E den)) : PS X s (tS X.kw ct E (sFrzV i den)) := PS.of h fun D σ H ⟨ρ, st, env, a, q⟩ => by
  unfold sFrzV at q
  split at q
  · rename_i l hi
    split at q
    · rename_i ds hl
      rcases a.1.obj l _ hl with ⟨z, _⟩ | ⟨p, hp, xs, h1, h2⟩
      · cases z
      have hll : l < ρ.lc.length := (List.getElem?_eq_some_iff.mp hp).1
      have n : ¬ (ρ.drop l).mut p := fun z => by
        rcases z with z | z
        · obtain ⟨j, hj, ej⟩ := List.getElem_of_mem z
          have ej' : (ρ.lc.set l none)[j]? = some (some p) := by
            have q := List.getElem?_eq_getElem hj
            rw [ej] at q
            exact q
          by_cases hlj : l = j
          · subst hlj
            rw [List.getElem?_set_self hll] at ej'
            cases ej'
          · rw [List.getElem?_set_ne hlj] at ej'
            exact hlj (a.1.inj l j p hp ej')
        · exact a.1.apart p (List.mem_of_getElem? hp) z
      have r : Rw X.kw (ρ.drop l) H (.ref p) (.v (.lst ds)) := .v (.lst (.inl ⟨.inl h1, n⟩) (h2.grow .drop))
      have e1 := a.2.grow (Grow.drop (l := l))
      refine ⟨ρ.drop l, st.set l .dead, env.set i (some (.v (.lst ds))), ⟨a.1.drop, ⟨by simp [e1.len], fun j w ej => ?_⟩⟩, okS.grow .drop q⟩
      obtain ⟨v0, hv0, rv0⟩ := a.2.get i _ hi
      by_cases hij : i = j
      · subst hij
        have hil : i < env.length := (List.getElem?_eq_some_iff.mp hi).1
        rw [List.getElem?_set_self hil] at ej
        cases ej
        cases rv0 with | r _ hv => 
        rw [hv p hp] at hv0
        exact ⟨_, hv0, r⟩
      · rw [List.getElem?_set_ne hij] at ej
        exact e1.get j w ej
    · exact q.elim
  · exact ⟨ρ, st, env, a, q⟩
/-- a, b = x, y by way of the pair itself -/
theorem ds_parC {X : Cx} {ct : Nat → Value} {E : St → XK} {i j : Nat} {x y : Str} {a b : Expr} {ta : AD} {px py pt pos : Pos} {kt k2 pt2} (hc : X.calm = true) (hN : X.N.Nodup) (hi : X.N[i]? = some x) (hj : X.N[j]? = some y)
    (ha : PA X [a, b] (tA X.kw ct E ta)) (hx : Loc X.env.scope x := by first | exact Or.inl rfl | exact Or.inr rfl) (hy : Loc X.env.scope y := by first | exact Or.inl rfl | exact Or.inr rfl)
    (hfx : X.fn x = true ∨ X.env.scope.names.lookup x = some .local := by first | exact .inl rfl | exact .inr rfl | assumption) (hfy : X.fn y = true ∨ X.env.scope.names.lookup y = some .local := by first | exact .inl rfl | exact .inr rfl | assumption)
    (hs : swapsWithSole [.Tuple [.Name x px, .Name y py] kt pt] (.Tuple [a, b] k2 pt2) pos.line X.env = pure false := by rfl) (hw : swappedStores [.Tuple [.Name x px, .Name y py] kt pt] (.Tuple [a, b] k2 pt2) X.env = pure none := by rfl)
    (h1 : (assignEach [.Tuple [.Name x px, .Name y py] kt pt] X.env).map (·.2) = [assign (.Tuple [.Name x px, .Name y py] kt pt) X.env] := by rfl) (hn : (assignEach [.Name x px, .Name y py] X.env).length = 2 := by rfl) (hst : (assignEach [.Name x px, .Name y py] X.env).findIdx? (·.1) = none := by rfl)
    (hs1 : (assignEach [.Name x px, .Name y py] X.env).map (·.2) = assign (.Name x px) X.env :: (assignEach [.Name y py] X.env).map (·.2) := by rfl) (hs2 : (assignEach [.Name y py] X.env).map (·.2) = assign (.Name y py) X.env :: (assignEach [] X.env).map (·.2) := by rfl) :
    PS X (.Assign [.Tuple [.Name x px, .Name y py] kt pt] (.Tuple [a, b] k2 pt2) pos) (tS X.kw ct E (sPar i j ta)) :=
  PS.of (ps_asg (pe_tup ha) (pg_tup hc (pgs_cons (pg_name hN hi hx hfx) (pgs_cons (pg_name hN hj hy hfy) pgs_nil hs2) hs1) hn hst) hs hw h1) fun D σ H ⟨ρ, st, env, a, h⟩ => by
  refine ⟨ρ, st, env, a, (okS.first (rel := RwAll) h a.2).mono fun vs H1 ⟨ρ1, st1, ws, a1, g1, r1, q1⟩ => ?_⟩
  split at q1
  · obtain ⟨v, v', rfl, rv, rv'⟩ := r1.two
    refine ⟨by show 2 ≤ sizeLine; decide, fun p hp => ⟨p, [v, v'], rfl, .of upd_same, rfl, v, [v'], rfl, v', [], rfl, rfl, ?_⟩⟩
    have sm : Same H1 (upd H1 p (.tup [v, v'])) := same_upd hp
    exact q1 ρ1 _ _ (.same sm) ⟨a1.1.same sm, ((a1.2.grow (.same sm)).set (rv.same sm) i).set (rv'.same sm) j⟩
  · exact q1.elim
end Jv
end
section
/-! comprehensions of any kind: what a turn does with its value is a step of its own -/
namespace Jv
open PySem PySem.Spec L2 PyProof.Rows
abbrev Stp := Addr → PySem.Env → Sem Unit
abbrev Tests (ifs : List Expr) (env : PySem.Env) : Sem Bool := forIn ifs true fun c r => if r = true then do let ok ← isTrue c env (eval c env); pure (ForInStep.yield ok) else pure (ForInStep.yield r)
/-- the loop of clause d: tests, then the step -/
structure LoopOk (E0 : Expr) (d : Nat) (tg : Expr) (ifs : List Expr) (stp : Stp) : Prop where
  loop : ∀ {P : Program} {w : World} {A : Around} {R : Result → Shared → Prop} {s : Shared} {it : Value} {D : Addr} {env : PySem.Env} (I : Nat → Shared → Prop)
    (turn : ∀ n s, I n s → wpAny (model P w) A (pyNext it) (fun r s₁ => match r with
      | none => R (.ok .next) s₁
      | some v => wpAny (model P w) A (letOwnedTupleGo tg it v) (fun _ s₂ => wpAny (model P w) A (assign tg env v) (fun _ s₃ => wpAny (model P w) A (Tests ifs env) (fun ok s₄ =>
            if ok = true then wpAny (model P w) A (stp D env) (fun _ s₅ => ∃ m, m < n ∧ I m s₅) (fun _ _ => False) s₄ else ∃ m, m < n ∧ I m s₄) (fun _ _ => False) s₃) (fun _ _ => False) s₂) (fun _ _ => False) s₁) (fun _ _ => False) s)
    (n : Nat), I n s → codeAny (model P w) A (.compLoop E0 d it (.ref D) env) R s
  start : ∀ {P : Program} {w : World} {A : Around} {R : Result → Shared → Prop} {s : Shared} {it : Value} {D : Addr} {env : PySem.Env}, codeAny (model P w) A (.compLoop E0 d it (.ref D) env) R s →
    wpAny (model P w) A (pyIter it) (fun it' s' => codeAny (model P w) A (.compLoop E0 d it' (.ref D) env) R s') (notedBy (model P w) A env fun x s' => R (.error x) s') s → codeAny (model P w) A (.compStart E0 d it (.ref D) env) R s
theorem wpF {α : Type} {t : Sem α} {Q Q' : α → Shared → Prop} {M : Model} {A : Around} {E : Value → Shared → Prop} {s : Shared} (h : wpAny M A t Q (fun _ _ => False) s) (hQ : ∀ a s, Q a s → Q' a s) : wpAny M A t Q' E s := thnF h hQ
/-- {k: v for ..} -/
def stpDict (kx vx : Expr) : Stp := fun D env => do
  let kv ← eval kx env
  let vv ← holding [kv] (eval vx env)
  standAt { kx.pos with endLine := vx.pos.endLine, endCol := vx.pos.endCol }
  holding [kv, vv] (dictSet D kv vv)
/-- {x for ..} -/
def stpSet (elt : Expr) : Stp := fun D env => do
  let v ← eval elt env
  standAt elt.pos
  let _ ← call (.builtin "set.add") [.ref D, v]
theorem loop_dict {kx vx tg iter : Expr} {ifs : List Expr} {scope : Scope} {pos : Pos} : LoopOk (.DictComp kx vx [⟨tg, iter, ifs, 0⟩] scope pos) 0 tg ifs (stpDict kx vx) where
  loop := by
    intro P w A R s it D env I turn n h
    refine codeAny_loop rfl I (fun n s hI => ?_) n h
    show wpAny _ A ((compTurn (.DictComp kx vx [⟨tg, iter, ifs, 0⟩] scope pos) 0 it (.ref D) env).onRaise (fun x => do noteFrame x env; theTreesLotGoes x)) _ _ s
    refine wpAny_noted ?_
    have e : compTurn (.DictComp kx vx [⟨tg, iter, ifs, 0⟩] scope pos) 0 it (.ref D) env = (do
      standAt iter.pos
      match ← pyNext it with
      | none => pure (.done .next)
      | some v =>
        letOwnedTupleGo tg it v
        assign tg env v
        let ok ← Tests ifs env
        if ok then
          stpDict kx vx D env
        again (.compLoop (.DictComp kx vx [⟨tg, iter, ifs, 0⟩] scope pos) 0 it (.ref D) env)) := by rfl
    rw [e]
    refine wpAny_bind (wpAny_standAt (wpAny_bind (wpF (turn n s hI) fun r s₁ h₁ => ?_)))
    cases r with
    | none => exact wpAny_pure h₁
    | some v =>
      refine wpAny_bind (wpF h₁ fun _ s₂ h₂ => wpAny_bind (wpF h₂ fun _ s₃ h₃ => wpAny_bind (wpF h₃ fun ok s₄ h₄ => ?_)))
      cases ok with
      | false => exact wpAny_pure ⟨rfl, h₄⟩
      | true => exact wpAny_bind (wpF h₄ fun _ s₅ h₅ => wpAny_pure ⟨rfl, h₅⟩)
  start := fun h0 h => codeAny_compStart_dict h0 h
theorem loop_set {elt tg iter : Expr} {ifs : List Expr} {scope : Scope} {pos : Pos} : LoopOk (.SetComp elt [⟨tg, iter, ifs, 0⟩] scope pos) 0 tg ifs (stpSet elt) where
  loop := by
    intro P w A R s it D env I turn n h
    refine codeAny_loop rfl I (fun n s hI => ?_) n h
    show wpAny _ A ((compTurn (.SetComp elt [⟨tg, iter, ifs, 0⟩] scope pos) 0 it (.ref D) env).onRaise (fun x => do noteFrame x env; theTreesLotGoes x)) _ _ s
    refine wpAny_noted ?_
    have e : compTurn (.SetComp elt [⟨tg, iter, ifs, 0⟩] scope pos) 0 it (.ref D) env = (do
      standAt iter.pos
      match ← pyNext it with
      | none => pure (.done .next)
      | some v =>
        letOwnedTupleGo tg it v
        assign tg env v
        let ok ← Tests ifs env
        if ok then
          stpSet elt D env
        again (.compLoop (.SetComp elt [⟨tg, iter, ifs, 0⟩] scope pos) 0 it (.ref D) env)) := by rfl
    rw [e]
    refine wpAny_bind (wpAny_standAt (wpAny_bind (wpF (turn n s hI) fun r s₁ h₁ => ?_)))
    cases r with
    | none => exact wpAny_pure h₁
    | some v =>
      refine wpAny_bind (wpF h₁ fun _ s₂ h₂ => wpAny_bind (wpF h₂ fun _ s₃ h₃ => wpAny_bind (wpF h₃ fun ok s₄ h₄ => ?_)))
      cases ok with
      | false => exact wpAny_pure ⟨rfl, h₄⟩
      | true => exact wpAny_bind (wpF h₄ fun _ s₅ h₅ => wpAny_pure ⟨rfl, h₅⟩)
  start := fun h0 h => codeAny_compStart_set h0 h
/-- the second clause as a step of the first -/
def stpIn (E0 iter1 : Expr) : Stp := fun D env => do
  let x ← eval iter1 env
  standAt iter1.pos
  let x ← foldedSetIterable iter1 env x
  let _ ← runOwn (.compStart E0 1 (← holding [x] (pyIter x)) (.ref D) env) env
theorem loop_set2 {elt tg iter tg1 iter1 : Expr} {ifs ifs1 : List Expr} {scope : Scope} {pos : Pos} : LoopOk (.SetComp elt [⟨tg, iter, ifs, 0⟩, ⟨tg1, iter1, ifs1, 0⟩] scope pos) 0 tg ifs (stpIn (.SetComp elt [⟨tg, iter, ifs, 0⟩, ⟨tg1, iter1, ifs1, 0⟩] scope pos) iter1) where
  loop := by
    intro P w A R s it D env I turn n h
    refine codeAny_loop rfl I (fun n s hI => ?_) n h
    show wpAny _ A ((compTurn (.SetComp elt [⟨tg, iter, ifs, 0⟩, ⟨tg1, iter1, ifs1, 0⟩] scope pos) 0 it (.ref D) env).onRaise (fun x => do noteFrame x env; theTreesLotGoes x)) _ _ s
    refine wpAny_noted ?_
    have e : compTurn (.SetComp elt [⟨tg, iter, ifs, 0⟩, ⟨tg1, iter1, ifs1, 0⟩] scope pos) 0 it (.ref D) env = (do
      standAt iter.pos
      match ← pyNext it with
      | none => pure (.done .next)
      | some v =>
        letOwnedTupleGo tg it v
        assign tg env v
        let ok ← Tests ifs env
        if ok then
          let x ← eval iter1 env
          standAt iter1.pos
          let x ← foldedSetIterable iter1 env x
          let _ ← runOwn (.compStart (.SetComp elt [⟨tg, iter, ifs, 0⟩, ⟨tg1, iter1, ifs1, 0⟩] scope pos) 1 (← holding [x] (pyIter x)) (.ref D) env) env
        again (.compLoop (.SetComp elt [⟨tg, iter, ifs, 0⟩, ⟨tg1, iter1, ifs1, 0⟩] scope pos) 0 it (.ref D) env)) := by rfl
    rw [e]
    refine wpAny_bind (wpAny_standAt (wpAny_bind (wpF (turn n s hI) fun r s₁ h₁ => ?_)))
    cases r with
    | none => exact wpAny_pure h₁
    | some v =>
      refine wpAny_bind (wpF h₁ fun _ s₂ h₂ => wpAny_bind (wpF h₂ fun _ s₃ h₃ => wpAny_bind (wpF h₃ fun ok s₄ h₄ => ?_)))
      cases ok with
      | false => exact wpAny_pure ⟨rfl, h₄⟩
      | true =>
        simp only [if_true] at h₄ ⊢
        suffices h₆ : wpAny (model P w) A (stpIn (.SetComp elt [⟨tg, iter, ifs, 0⟩, ⟨tg1, iter1, ifs1, 0⟩] scope pos) iter1 D env >>= fun _ => again (.compLoop (.SetComp elt [⟨tg, iter, ifs, 0⟩, ⟨tg1, iter1, ifs1, 0⟩] scope pos) 0 it (.ref D) env)) _ _ s₄ by
          unfold stpIn at h₆
          simp only [bind_assoc, pure_bind] at h₆ ⊢
          exact h₆
        exact wpAny_bind (wpF h₄ fun _ s₅ h₅ => wpAny_pure ⟨rfl, h₅⟩)
  start := fun h0 h => codeAny_compStart_set h0 h
theorem loop_set21 {elt tg iter tg1 iter1 : Expr} {ifs ifs1 : List Expr} {scope : Scope} {pos : Pos} : LoopOk (.SetComp elt [⟨tg, iter, ifs, 0⟩, ⟨tg1, iter1, ifs1, 0⟩] scope pos) 1 tg1 ifs1 (stpSet elt) where
  loop := by
    intro P w A R s it D env I turn n h
    refine codeAny_loop rfl I (fun n s hI => ?_) n h
    show wpAny _ A ((compTurn (.SetComp elt [⟨tg, iter, ifs, 0⟩, ⟨tg1, iter1, ifs1, 0⟩] scope pos) 1 it (.ref D) env).onRaise (fun x => do noteFrame x env; theTreesLotGoes x)) _ _ s
    refine wpAny_noted ?_
    have e : compTurn (.SetComp elt [⟨tg, iter, ifs, 0⟩, ⟨tg1, iter1, ifs1, 0⟩] scope pos) 1 it (.ref D) env = (do
      standAt iter1.pos
      match ← pyNext it with
      | none => pure (.done .next)
      | some v =>
        letOwnedTupleGo tg1 it v
        assign tg1 env v
        let ok ← Tests ifs1 env
        if ok then
          stpSet elt D env
        again (.compLoop (.SetComp elt [⟨tg, iter, ifs, 0⟩, ⟨tg1, iter1, ifs1, 0⟩] scope pos) 1 it (.ref D) env)) := by rfl
    rw [e]
    refine wpAny_bind (wpAny_standAt (wpAny_bind (wpF (turn n s hI) fun r s₁ h₁ => ?_)))
    cases r with
    | none => exact wpAny_pure h₁
    | some v =>
      refine wpAny_bind (wpF h₁ fun _ s₂ h₂ => wpAny_bind (wpF h₂ fun _ s₃ h₃ => wpAny_bind (wpF h₃ fun ok s₄ h₄ => ?_)))
      cases ok with
      | false => exact wpAny_pure ⟨rfl, h₄⟩
      | true => exact wpAny_bind (wpF h₄ fun _ s₅ h₅ => wpAny_pure ⟨rfl, h₅⟩)
  start := by
    intro P w A R s it D env h0 h
    refine codeAny_of_tree ?_
    show wpAny _ _ ((compStart (.SetComp elt [⟨tg, iter, ifs, 0⟩, ⟨tg1, iter1, ifs1, 0⟩] scope pos) 1 it (.ref D) env).onRaise (fun x => do noteFrame x env; standAt theWindowsPlace)) _ _ s
    refine wpAny_notedAt ?_
    unfold compStart
    show wpAny _ _ (ask >>= _) _ _ s
    refine wpAny_bind (wpAny_askSetting (wpAny_ite ?_))
    split
    · first
        | exact wpAny_bind (wpAny_pure (wpAny_pure (And.intro rfl h0)))
        | exact wpAny_pure (And.intro rfl h0)
    · first
        | exact wpAny_bind (wpAny_rule (wpAny_bind (wpAny_standAt (wpAny_bind (wpAny_mono h (fun it' s' h' => wpAny_pure (And.intro rfl h')) fun _ _ x => x)))))
        | (refine wpAny_bind (wpAny_rule ?_); show wpAny _ _ (standAt iter1.pos >>= _) _ _ s; exact wpAny_bind (wpAny_standAt (wpAny_bind (wpAny_mono h (fun it' s' h' => wpAny_pure (And.intro rfl h')) fun _ _ x => x))))

/-! ### the step by transformers -/
abbrev TU := Addr → St → Hp → (Hp → Prop) → Prop
/-- what a step leaves: the slots vs may be anything -/
structure PStp (X : Cx) (vs : List Nat) (stp : Stp) (T : TU) : Prop where
  run : ∀ (D : Addr) (pins : List (Addr × Obj)) (s : Shared) (σ : St) (H : Hp) (Q : Hp → Prop), Inv X pins σ H s → T D σ H Q →
    wpAny (model X.prog X.w) X.A (stp D X.env) (fun _ s' => ∃ σ' H', Inv X pins σ' H' s' ∧ σ'.length = σ.length ∧ (∀ (j : Nat) v, j ∉ vs → σ[j]? = some (some v) → σ'[j]? = some (some v)) ∧ Q H') (fun _ _ => False) s
/-- a turn's word, from the item on -/
def tTurn (g : TG) (tt : TT) (T : TU) (vs : List Nat) (D : Addr) (σ : St) (Nx : Hp → Prop) (x : V) (H : Hp) : Prop :=
  g x (wipe σ vs) H fun σ2 H2 => wipe σ2 vs = wipe σ vs ∧ tt σ2 H2 fun b H3 => if b = true then T D σ2 H3 Nx else Nx H3
def tLoop (J : It) (g : TG) (tt : TT) (T : TU) (vs : List Nat) (D : Addr) (σ : St) (H1 : Hp) (Q : Hp → Prop) : Prop :=
  ∃ W : Nat → Nat → Hp → Prop, (∃ m, W 0 m H1) ∧ ∀ i m H, W i m H → (J.stop i H ∧ Q H) ∨ (J.go i H ∧ ∃ Nx : Hp → Prop, (∀ H', Nx H' → ∃ m', m' < m ∧ W (i + 1) m' H') ∧ ∀ x H', J.yld i H x H' → tTurn g tt T vs D σ Nx x H')
/-- a comprehension whose new object is ho D -/
def tCp (wi : TI) (ho : Addr → HO) (g : TG) (tt : TT) (T : TU) (vs : List Nat) : TE := fun σ H Q => wi σ H fun J H1 => ∀ D, H1 D = none → (D == sysModules) = false → tLoop J g tt T vs D σ (upd H1 D (ho D)) (Q (.ref D))
/-- a second clause -/
def tIn (wi : TI) (g : TG) (tt : TT) (T : TU) (vs : List Nat) : TU := fun D σ H Q => wi σ H fun J H1 => tLoop J g tt T vs D σ H1 Q
section
variable {X : Cx} {vs : List Nat} {stp : Stp} {T : TU} {tg : Expr} {ifs : List Expr} {g : TG} {tt : TT} {E0 : Expr} {d : Nat}
/-- the loop, in the block's own context, its iterator standing -/
theorem loop_run (hc : X.calm = true) (hx : X.xe = fun _ _ => False) (LO : LoopOk E0 d tg ifs stp) (pg : PG X tg g) (pt : PTs X ifs tt) (ps : PStp X vs stp T)
    {pins : List (Addr × Obj)} {σ : St} {H : Hp} {s : Shared} {D : Addr} {it : Addr} {fp : List Addr} {tn : Nat → Heap → Prop} {J : It} {Q : Hp → Prop} {R : Result → Shared → Prop}
    (T1 : Turn X.prog X.w X.K tg J fp it tn) (I : Inv X pins σ H s) (st : tn 0 s.heap) (f : ∀ b ∈ fp, FpOk X pins H b) (hl : tLoop J g tt T vs D σ H Q)
    (hR : ∀ H' s', Inv X pins (wipe σ vs) H' s' → Q H' → R (.ok .next) s') :
    codeAny (model X.prog X.w) X.A (.compLoop E0 d (.ref it) (.ref D) X.env) R s := by
  obtain ⟨W, ⟨m0, w0⟩, turn⟩ := hl
  have xx : ∀ {α : Type} {t : Sem α} {Q : α → Shared → Prop} {s : Shared}, wpAny (model X.prog X.w) X.A t Q X.xe s → wpAny (model X.prog X.w) X.A t Q (fun _ _ => False) s := fun h => by rw [hx] at h; exact h
  have stat : ∀ {H' : Hp}, (∀ b ∈ fp, H' b = none) → ∀ b ∈ fp, FpOk X pins H' b := fun hn b hb => ⟨hn b hb, (f b hb).2⟩
  refine LO.loop (fun n s' => ∃ i H', Inv X pins (wipe σ vs) H' s' ∧ tn i s'.heap ∧ (∀ b ∈ fp, H' b = none) ∧ W i n H') ?_ m0 ⟨0, H, I.weak (wipe_length _ _) (fun j v e => (wipe_some e).1), st, fun b hb => (f b hb).1, w0⟩
  rintro n s5 ⟨i, H5, I5, st5, n5, w5⟩
  rcases turn i n H5 w5 with ⟨stop, qq⟩ | ⟨go, Nx, hNx, step⟩
  · refine thnF (T1.done X rfl rfl rfl hc i _ s5 _ H5 (fun _ _ => False) I5 (stat n5) st5 stop) fun r s6 ⟨hr, I6⟩ => ?_
    subst hr
    exact hR H5 s6 I6 qq
  · refine thnF (T1.item X rfl rfl rfl hc i _ s5 _ H5 (fun _ _ => False) I5 (stat n5) st5 go) fun r s6 ⟨u, hr, h6⟩ => ?_
    subst hr
    refine thnF h6 fun _ s7 ⟨x, H7, I7, r7, y7, st7, n7⟩ => ?_
    have I7' := I7.pinned (stat n7) (T1.obj _ _ st7)
    refine thnF (xx (pg.run _ s7 _ H7 x u _ I7' r7 (step x H7 y7))) fun _ s8 ⟨σ8, H8, I8, hw8, q8⟩ => ?_
    refine thnF (xx (pt.run _ s8 σ8 H8 _ I8 q8)) fun b s9 ⟨H9, I9, q9⟩ => ?_
    have hl8 : (wipe σ vs).length = σ8.length := by rw [← hw8, wipe_length]
    have fin : ∀ {σ9 : St} {s' : Shared} {H' : Hp}, Inv X (pins ++ pinsAt fp s7.heap) σ9 H' s' → σ9.length = σ8.length → (∀ (j : Nat) v, j ∉ vs → σ8[j]? = some (some v) → σ9[j]? = some (some v)) → Nx H' →
        ∃ m, m < n ∧ ∃ i H', Inv X pins (wipe σ vs) H' s' ∧ tn i s'.heap ∧ (∀ b ∈ fp, H' b = none) ∧ W i m H' := fun {σ9 s' H'} I' hl hk nx => by
      obtain ⟨m', hm, w'⟩ := hNx H' nx
      have pin' : ∀ b ∈ fp, ∀ o, s7.heap.get? b = some o → s'.heap.get? b = some o ∧ H' b = none := fun b hb o e =>
        let z := I'.pin (b, o) (List.mem_append_right _ (List.mem_append_right _ (mem_pinsAt hb e)))
        ⟨z.1, z.2.1⟩
      refine ⟨m', hm, i + 1, H', I'.unpinned.weak (hl8.trans hl.symm) (fun j v e => ?_), T1.keep _ _ _ st7 fun b hb o e => (pin' b hb o e).1, fun b hb => ?_, w'⟩
      · rw [← hw8] at e
        obtain ⟨e1, e2⟩ := wipe_some e
        exact hk j v e2 e1
      · obtain ⟨o, e, _⟩ := T1.obj _ _ st7 b hb
        exact (pin' b hb o e).2
    cases b with
    | false =>
      simp only [Bool.false_eq_true, if_false] at q9 ⊢
      exact fin I9 rfl (fun _ _ _ e => e) q9
    | true =>
      simp only [if_true] at q9 ⊢
      exact thnF (ps.run D _ s9 σ8 H9 Nx I9 q9) fun _ s10 ⟨σ10, H10, I10, hl10, hk10, nx⟩ => fin I10 hl10 hk10 nx
/-- the second clause -/
theorem ps_in {vs1 : List Nat} {iter1 : Expr} {wi : TI} (hc : X.calm = true) (hx : X.xe = fun _ _ => False) (LO : LoopOk E0 1 tg ifs stp) (pi : PI X tg iter1 wi) (pg : PG X tg g) (pt : PTs X ifs tt) (ps : PStp X vs1 stp T) (hv : ∀ i ∈ vs1, i ∈ vs)
    (hs : ∀ x, foldedSetIterable iter1 X.env x = pure x) : PStp X vs (stpIn E0 iter1) (tIn wi g tt T vs1) := ⟨fun D pins s σ H Q I h => by
  unfold stpIn
  have r := pi.run pins s σ H _ I h
  rw [hx] at r
  refine wpAny_bind (thnF r fun xv s1 h1 => ?_)
  refine wpAny_bind (wpAny_standAt (wpAny_bind (wpAny_of_eq (hs xv) (wpAny_bind (wpAny_holding (thnF h1 fun itv s2 h2 => ?_))))))
  obtain ⟨it, fp, tn, J, H2, e, I2, T1, st2, f2, q⟩ := h2
  subst e
  have go : codeAny (model X.prog X.w) X.A (.compLoop E0 1 (.ref it) (.ref D) X.env) (fun r s' => match r with
      | .ok _ => ∃ σ' H', Inv X pins σ' H' s' ∧ σ'.length = σ.length ∧ (∀ (j : Nat) v, j ∉ vs → σ[j]? = some (some v) → σ'[j]? = some (some v)) ∧ Q H'
      | .error _ => False) s2 := by
    refine loop_run hc hx LO pg pt ps T1 I2 st2 f2 q fun H' s' I' q' => ⟨_, H', I', wipe_length _ _, fun j v hj e => ?_, q'⟩
    rw [wipe_out fun z => hj (hv j z)]
    exact e
  refine wpAny_bind (wpAny_runOwn ?_)
  rw [Around.mark_none]
  refine codeAny_mono (LO.start go (T1.self X.A 0 _ _ _ st2 go)) fun r s' hr => ?_
  cases r with
  | ok fl => exact wpAny_pure hr
  | error e => exact hr.elim⟩
end
theorem wipe_twice (σ : St) (vs : List Nat) : wipe (wipe σ vs) vs = wipe σ vs := by
  apply List.ext_getElem?
  intro i
  simp only [wipe_get, wipe_length]
  split <;> rfl
section
variable {X : Cx} {stp : Stp} {T : TU} {tg iter : Expr} {ifs : List Expr} {g : TG} {tt : TT} {wi : TI} {E0 : Expr} {scope : Scope} {own : List (Str × Nat)} {newAcc : Sem Value} {ob : Obj} {ho : Addr → HO}
theorem cp_core {pins : List (Addr × Obj)} {s : Shared} {σ : St} {H : Hp} {Q : VK} {pos' : Pos} {k : Nat} {gs : List Comprehension} {Qf : Value → Shared → Prop} {use : Option (Value → Sem Unit)}
    (hc : X.calm = true) (hN : X.N.Nodup) (LO : LoopOk E0 0 tg ifs stp) (hcl : clausesOf E0 = ⟨tg, iter, ifs, k⟩ :: gs)
    (hnew : ∀ (s : Shared) (Q : Value → Shared → Prop) (E : Value → Shared → Prop), Q (.ref s.heap.objs.size) { s with heap := s.heap.push ob } → wpAny (model X.prog X.w) X.A newAcc Q E s)
    (hob : ∀ (H : Hp) (h : Heap), sysModules < h.objs.size → ObjOk X.prog X.w (upd H h.objs.size (ho h.objs.size)) (h.push ob) h.objs.size (ho h.objs.size))
    (I : Inv X pins σ H s) (hi : PI X tg iter wi) (ok : BlkOk X.N X.env.scope scope own)
    (hg : ∀ (s : Shared) (H : Hp) (C : Addr) (cl : List (Str × Addr)) (fp : List Addr), PG (X.blk s H scope (compEnvC scope cl C X.env) fp) tg g)
    (ht : ∀ (s : Shared) (H : Hp) (C : Addr) (cl : List (Str × Addr)) (fp : List Addr), PTs (X.blk s H scope (compEnvC scope cl C X.env) fp) ifs tt)
    (hp : ∀ (s : Shared) (H : Hp) (C : Addr) (cl : List (Str × Addr)) (fp : List Addr), PStp (X.blk s H scope (compEnvC scope cl C X.env) fp) (own.map (·.2)) stp T) (hs : ∀ x, foldedSetIterable iter X.env x = pure x)
    (h : tCp wi ho g tt T (own.map (·.2)) σ H Q)
    (hRR : ∀ D C s' m H', Inv X pins σ H' s' → Q (.ref D) H' → s'.heap.Ns C m → FpOk X pins H' C → compPost (model X.prog X.w) X.A X.xe use Qf (.ref D) C (.ok .next) s') :
    wpAny (model X.prog X.w) X.A (comprehension E0 scope X.env pos' newAcc false (eval iter X.env) use) Qf X.xe s := by
  have hfree : ∀ y ∈ scope.names, y.2 = .free → ∃ c, X.env.cells.lookup y.1 = some c := fun y hy e => by
    rcases ok.free y hy e with k | k
    · exact I.ok.has _ (.inl k)
    · exact I.ok.has _ (.inr k)
  refine wpAny_comprehension_free (use := use) hcl hs (closure_ok hfree) ok.kind (fun y hy e => by rw [ok.uniq y hy, e])
    (thn (hi.run pins s σ H _ I h) fun xv s1 hx => thn hx fun itv s2 h2 => ?_)
  obtain ⟨it, fp, tn, J, H2, e, I2, T1, st2, f2, q⟩ := h2
  subst e
  refine hnew s2 _ _ (newEnv_comp ?_)
  have big := I2.big
  generalize hD : s2.heap.objs.size = D at big
  have hDn : H2 D = none := I2.hok.fresh (Nat.le_of_eq hD)
  have q := q D hDn (beq_eq_false_iff_ne.mpr (Ne.symm (Nat.ne_of_lt big)))
  have kb := hob H2 s2.heap (by rw [hD]; exact big)
  rw [hD] at kb
  generalize hs3 : ({ s2 with heap := s2.heap.push ob } : Shared) = s3
  have h3 : s3.heap = s2.heap.push ob := by rw [← hs3]
  have I3 : Inv X pins σ (upd H2 D (ho D)) s3 := by
    rw [← hs3]
    exact I2.laid (t' := s2.toks) (fun b o e => Heap.get?_push_of_some _ e) (Nat.le_of_eq hD) kb
  have sz : ∀ b ∈ fp, b < s2.heap.objs.size := fun b hb => by
    obtain ⟨o, e, _⟩ := T1.obj _ _ st2 b hb
    exact Heap.lt_size e
  have f3 : ∀ b ∈ fp, FpOk X pins (upd H2 D (ho D)) b ∧ b < s3.heap.objs.size := fun b hb => by
    have hlt := sz b hb
    refine ⟨⟨?_, (f2 b hb).2⟩, by rw [h3, Heap.size_push]; exact Nat.lt_succ_of_lt hlt⟩
    rw [upd_ne (by rw [← hD]; exact Nat.ne_of_lt hlt)]
    exact (f2 b hb).1
  have st3 : tn 0 s3.heap := T1.keep _ _ _ st2 fun b _ o e => by rw [h3]; exact Heap.get?_push_of_some _ e
  have I4 := block_start I3 ok hN f3
  have pg := hg s3 (upd H2 D (ho D)) s3.heap.objs.size (cellsFrom (s3.heap.objs.size + 1) scope.names (cloFrom X.env.cells scope.names [])) fp
  have pt := ht s3 (upd H2 D (ho D)) s3.heap.objs.size (cellsFrom (s3.heap.objs.size + 1) scope.names (cloFrom X.env.cells scope.names [])) fp
  have pp := hp s3 (upd H2 D (ho D)) s3.heap.objs.size (cellsFrom (s3.heap.objs.size + 1) scope.names (cloFrom X.env.cells scope.names [])) fp
  show codeAny _ _ (.compStart E0 0 (.ref it) (.ref D) (compEnvC scope (cellsFrom (s3.heap.objs.size + 1) scope.names (cloFrom X.env.cells scope.names [])) s3.heap.objs.size X.env)) (compPost (model X.prog X.w) X.A X.xe use Qf (.ref D) s3.heap.objs.size) { s3 with heap := pushCells (s3.heap.push { cls := .type "dict", data := .dict #[] }) scope.names }
  have nfp : ∀ b ∈ fp, (upd H2 D (ho D)) b = none := fun b hb => (f3 b hb).1.1
  generalize hce : compEnvC scope (cellsFrom (s3.heap.objs.size + 1) scope.names (cloFrom X.env.cells scope.names [])) s3.heap.objs.size X.env = ce at I4 pg pt pp ⊢
  have cL : ce.locals = s3.heap.objs.size := by subst hce; rfl
  generalize hH3 : upd H2 D (ho D) = H3 at I3 I4 pg pt pp nfp f3 q
  generalize hs4 : ({ s3 with heap := pushCells (s3.heap.push { cls := .type "dict", data := .dict #[] }) scope.names } : Shared) = s4 at I4 ⊢
  have st4 : tn 0 s4.heap := T1.keep _ _ _ st3 fun b _ o e => by rw [← hs4]; exact pushCells_keeps _ _ _ _ (Heap.get?_push_of_some _ e)
  have f4 : ∀ b ∈ fp, FpOk (X.blk s3 H3 scope ce fp) [] H3 b := fun b hb =>
    ⟨nfp b hb, (I4.ok.exf b hb).1, I4.ok.exfs b hb, .inl hb, fun x c e => (I4.ok.exf b hb).2 x c e, fun p hp => absurd (show p ∈ ([] : List (Addr × Obj)) ++ [] from hp) (by simp)⟩
  have q' : tLoop J g tt T (own.map (·.2)) D (wipe σ (own.map (·.2))) H3 (Q (.ref D)) := by
    unfold tLoop tTurn at q ⊢
    rw [wipe_twice]
    exact q
  have loop : codeAny (model X.prog X.w) X.A (.compLoop E0 0 (.ref it) (.ref D) ce) (compPost (model X.prog X.w) X.A X.xe use Qf (.ref D) s3.heap.objs.size) s4 := by
    refine loop_run (X := X.blk s3 H3 scope ce fp) hc rfl LO pg pt pp T1 I4 st4 f4 q' fun H5 s6 I6 qq => ?_
    have I7 : Inv X pins σ H5 s6 := I3.call' (ch := fp) I6.os I6.base I6.hok I6.bare fun b hb => ⟨(f3 b hb).1.2.2.2.1, (f3 b hb).1.2.1, (f3 b hb).1.2.2.2.2.1, (f3 b hb).1.2.2.2.2.2⟩
    have nC : H5 s3.heap.objs.size = none := by
      have z : H5 ce.locals = none := I6.free
      rw [cL] at z
      exact z
    obtain ⟨m, hn, _⟩ := I6.loc
    have hn : s6.heap.Ns ce.locals m := hn
    rw [cL] at hn
    exact hRR D s3.heap.objs.size s6 m H5 I7 qq hn (I3.fpOk (Nat.le_refl _) nC)
  exact LO.start loop (T1.self X.A 0 _ _ _ st4 loop)
end
end Jv
end
section
/-! dict and set comprehensions over trees -/
namespace Jv
open PySem PySem.Spec L2 PyProof.Rows PySem.W
abbrev UD := Env → Sto → R Unit
abbrev RlU : Rel Unit Unit := fun _ _ _ _ _ => True
def cpGo (g : GD) (t : BD) (f : UD) (env : Env) : List D → Sto → R Unit
  | [], st => .ok () st
  | d :: r, st => match g (.v d) env with
    | none => .bad
    | some env1 => (noX (t env1 st)).bind fun b st => if b then (noX (f env1 st)).bind fun _ st => cpGo g t f env r st else cpGo g t f env r st
def eCp (new : Ob) (vs : List Nat) (it : LD) (g : GD) (t : BD) (f : Nat → UD) : ED := fun env st => (it env st).bind fun ds st =>
  if ds.length ≤ 100000 then (noX (cpGo g t (f st.length) (wipeE env vs) ds (st ++ [new]))).bind fun _ st' => .ok (.r st.length) st' else .bad
/-- a second clause as a step -/
def uIn (vs : List Nat) (it : LD) (g : GD) (t : BD) (f : Nat → UD) : Nat → UD := fun l env st => (noX (it env st)).bind fun ds st => if ds.length ≤ 100000 then cpGo g t (f l) (wipeE env vs) ds st else .bad
def tStp (K : KW) (ct : Nat → Value) (f : Nat → UD) : TU := fun D σ H Q => ∃ ρ st env l, At K ρ H st σ env ∧ Rw K ρ H (.ref D) (.r l) ∧ okG K ct RlU ρ H E0 (fun _ H' => Q H') (f l env st)
section
variable {K : KW} {ct : Nat → Value} {E : St → XK} {ρ : Rho} {H : Hp} {σ : St} {env : Env}
theorem cp_loop {vs : List Nat} {g : GD} {t : BD} {f : Nat → UD} {J : It} {ρ1 : Rho} {H1 : Hp} {ds : List D} {st : Sto} {D : Addr} {l : Nat} {Q : Hp → Prop} (itk : ItOk K J ρ1 H1 ds) (ex : Ext ρ1 H1 ρ H) (rs : RelSt K ρ H st)
    (re : RelEnv K ρ H (wipe σ vs) (wipeE env vs)) (rl : Rw K ρ H (.ref D) (.r l)) (h : okG K ct RlU ρ H E0 (fun _ H' => Q H') (cpGo g t (f l) (wipeE env vs) ds st)) :
    tLoop J (gR K vs g) (tT K ct (fun _ => E0) t) (tStp K ct f) vs D σ H Q := by
  refine ⟨fun i m Hc => m = ds.length - i ∧ i ≤ ds.length ∧ ∃ ρ2 st2, RelSt K ρ2 Hc st2 ∧ RelEnv K ρ2 Hc (wipe σ vs) (wipeE env vs) ∧ Ext ρ1 H1 ρ2 Hc ∧ Rw K ρ2 Hc (.ref D) (.r l) ∧
    okG K ct RlU ρ2 Hc E0 (fun _ H' => Q H') (cpGo g t (f l) (wipeE env vs) (ds.drop i) st2), ⟨_, rfl, Nat.zero_le _, ρ, st, rs, re, ex, rl, h⟩, ?_⟩
  rintro i m Hc ⟨rfl, hi, ρ2, st2, s2, e2, x2, l2, hq⟩
  obtain ⟨turn, stop⟩ := itk ρ2 Hc st2 x2 s2
  by_cases hlt : i < ds.length
  rotate_left
  · have ei : i = ds.length := by omega
    subst ei
    rw [List.drop_length] at hq
    exact .inl ⟨stop, hq.here s2 (b := ()) trivial⟩
  obtain ⟨go, yl⟩ := turn i ds[i] (List.getElem?_eq_getElem hlt)
  refine .inr ⟨go, fun Hn => ∃ ρ3 st3, RelSt K ρ3 Hn st3 ∧ RelEnv K ρ3 Hn (wipe σ vs) (wipeE env vs) ∧ Ext ρ1 H1 ρ3 Hn ∧ Rw K ρ3 Hn (.ref D) (.r l) ∧
    okG K ct RlU ρ3 Hn E0 (fun _ H' => Q H') (cpGo g t (f l) (wipeE env vs) (ds.drop (i + 1)) st3), ?_, ?_⟩
  · rintro Hn ⟨ρ3, st3, q⟩
    exact ⟨ds.length - (i + 1), by omega, rfl, hlt, ρ3, st3, q⟩
  · intro x H' hy
    obtain ⟨sm, rx⟩ := yl x H' hy
    rw [List.drop_eq_getElem_cons hlt] at hq
    simp only [cpGo] at hq
    cases eg : g (.v ds[i]) (wipeE env vs) with
    | none => rw [eg] at hq; exact hq.elim
    | some env1 =>
      rw [eg] at hq
      simp only at hq
      have gs : Grow ρ2 Hc ρ2 H' := .same sm
      refine ⟨ρ2, st2, wipeE env vs, .v ds[i], env1, ⟨s2.same sm, e2.grow gs⟩, .v rx, eg, fun σ2 a2 ag => ⟨ag.wipe, ?_⟩⟩
      refine ⟨ρ2, st2, env1, a2, ?_⟩
      cases et : t env1 st2 with
      | exc x y => rw [et] at hq; exact hq.elim
      | bad => rw [et] at hq; exact hq.elim
      | ok b st3 =>
        rw [et] at hq
        simp only [noX_ok, R.bind_ok] at hq
        intro ρ3 H3 b' g3 s3 eb
        cases eb
        have g03 := gs.trans g3
        cases b with
        | false =>
          simp only [Bool.false_eq_true, if_false] at hq ⊢
          exact ⟨ρ3, st3, s3, e2.grow g03, x2.trans g03.ext, l2.grow g03, hq.grow g03⟩
        | true =>
          simp only [if_true] at hq ⊢
          refine ⟨ρ3, st3, env1, l, ⟨s3, a2.2.grow g3⟩, l2.grow g03, ?_⟩
          cases ef : f l env1 st3 with
          | exc x y => rw [ef] at hq; exact hq.elim
          | bad => rw [ef] at hq; exact hq.elim
          | ok u st4 =>
            rw [ef] at hq
            simp only [noX_ok, R.bind_ok] at hq
            intro ρ4 H4 _ g4 s4 _
            have g04 := g03.trans g4
            exact ⟨ρ4, st4, s4, e2.grow g04, x2.trans g04.ext, l2.grow g04, hq.grow g04⟩
theorem cp_read {vs : List Nat} {it : LD} {g : GD} {t : BD} {f : Nat → UD} {Q : VK} {new : Ob} {ho : Addr → HO} (hnew : ∀ (ρ : Rho) (H : Hp) (D : Addr), (D == sysModules) = false → ObR K (ρ.push D) (upd H D (ho D)) D new) (hun : ∀ n, new.under n)
    (h : tE K ct E (eCp new vs it g t f) σ H Q) : tCp (iR K ct E it) ho (gR K vs g) (tT K ct (fun _ => E0) t) (tStp K ct f) vs σ H Q := by
  obtain ⟨ρ, st, env, a, h⟩ := h
  refine ⟨ρ, st, env, a, ?_⟩
  unfold eCp at h
  cases ei : it env st with
  | exc x st' => rw [ei] at h; exact h
  | bad => rw [ei] at h; exact h.elim
  | ok ds st1 =>
  rw [ei] at h
  simp only [R.bind_ok] at h
  split at h
  rotate_left
  · exact h.elim
  intro ρ1 H1 J gr1 s1 itk D hD hsys
  have gp : Grow ρ1 H1 (ρ1.push D) (upd H1 D (ho D)) := .push hD
  have rl : Rw K (ρ1.push D) (upd H1 D (ho D)) (.ref D) (.r st1.length) := .r (by rw [← s1.len]; simp [Rho.push]) fun x hx => by
    rw [← s1.len] at hx
    simp [Rho.push] at hx
    rw [hx]
  refine cp_loop itk gp.ext (pushK s1 hD (hnew _ _ _ hsys) (hun _)) (((a.2.grow gr1).grow gp).wipes vs) rl ?_
  cases eg : cpGo g t (f st1.length) (wipeE env vs) ds (st1 ++ [new]) with
  | exc x y => rw [eg] at h; exact h.elim
  | bad => rw [eg] at h; exact h.elim
  | ok u st2 =>
    rw [eg] at h
    simp only [noX_ok, R.bind_ok] at h
    intro ρ3 H3 _ g3 s3 _
    exact h ρ3 H3 _ ((gr1.trans gp).trans g3) s3 (rl.grow g3)
theorem in_read {vs : List Nat} {it : LD} {g : GD} {t : BD} {f : Nat → UD} {Q : Hp → Prop} {D : Addr} (h : tStp K ct (uIn vs it g t f) D σ H Q) : tIn (iR K ct (fun _ => E0) it) (gR K vs g) (tT K ct (fun _ => E0) t) (tStp K ct f) vs D σ H Q := by
  obtain ⟨ρ, st, env, l, a, rl, h⟩ := h
  refine ⟨ρ, st, env, a, ?_⟩
  unfold uIn at h
  cases ei : it env st with
  | exc x st' => rw [ei] at h; exact h.elim
  | bad => rw [ei] at h; exact h.elim
  | ok ds st1 =>
  rw [ei] at h
  simp only [noX_ok, R.bind_ok] at h
  split at h
  rotate_left
  · exact h.elim
  intro ρ1 H1 J gr1 s1 itk
  exact cp_loop itk (Grow.refl _ _).ext s1 ((a.2.grow gr1).wipes vs) (rl.grow gr1) (h.grow gr1)
end
/-! ### d[k] = v by a comprehension -/
def kPutR (l : Nat) (k v : W) (st : Sto) : R Unit := match k, v with
  | .v (.tup ds), .v d => match st[l]? with
    | some (.kd kvs) => if okK (.tup ds) && decide (kvs.length ≤ 1000) then .ok () (st.set l (.kd (storeK kvs (.tup ds) d))) else .bad
    | _ => .bad
  | _, _ => .bad
def uPut (fk fv : ED) : Nat → UD := fun l env st => (noX (fk env st)).bind fun k st => (noX (fv env st)).bind fun v st => kPutR l k v st
theorem okE {K : KW} {ct : Nat → Value} {f : ED} {σ : St} {env : Env} {ρ : Rho} {H : Hp} {st : Sto} {k : W → Sto → R Unit} {Q : Hp → Prop} {E : St → XK} (a : At K ρ H st σ env) (h : okG K ct RlU ρ H E0 (fun _ H' => Q H') ((noX (f env st)).bind k)) :
    tE K ct E f σ H (fun v H1 => ∃ ρ1 st1 w, At K ρ1 H1 st1 σ env ∧ Grow ρ H ρ1 H1 ∧ Rw K ρ1 H1 v w ∧ okG K ct RlU ρ1 H1 E0 (fun _ H' => Q H') (k w st1)) := by
  refine ⟨ρ, st, env, a, ?_⟩
  cases e : f env st with
  | exc x y => rw [e] at h; exact h.elim
  | bad => rw [e] at h; exact h.elim
  | ok w st1 =>
    rw [e] at h
    simp only [noX_ok, R.bind_ok] at h
    exact fun ρ1 H1 b g s r => ⟨ρ1, st1, w, ⟨s, a.2.grow g⟩, g, r, h.grow g⟩
theorem xF {X : Cx} (hx : X.xe = fun _ _ => False) {α : Type} {t : Sem α} {Q : α → Shared → Prop} {s : Shared} (h : wpAny (model X.prog X.w) X.A t Q X.xe s) : wpAny (model X.prog X.w) X.A t Q (fun _ _ => False) s := by
  rw [hx] at h; exact h
section
variable {X : Cx} {ct : Nat → Value} {E : St → XK} {kx vx elt : Expr} {fk fv fe : ED} {vs : List Nat}
theorem ps_put (hx : X.xe = fun _ _ => False) (hu : X.A.units + 65 < cLine) (hk : PE X kx (tE X.kw ct (fun _ => E0) fk)) (hv : PE X vx (tE X.kw ct (fun _ => E0) fv)) : PStp X vs (stpDict kx vx) (tStp X.kw ct (uPut fk fv)) := ⟨fun D pins s σ H Q I ⟨ρ, st, env, l, a, rl, h⟩ => by
  unfold stpDict
  refine wpAny_bind (thnF (xF hx (hk.run pins s σ H _ I (okE a h))) ?_)
  rintro u1 s1 ⟨v1, H1, I1, ru1, ρ1, st1, w1, a1, g1, r1, q1⟩
  refine wpAny_bind (wpAny_holding (thnF (xF hx (hv.run pins s1 σ H1 _ I1 (okE a1 q1))) ?_))
  rintro u2 s2 ⟨v2, H2, I2, ru2, ρ2, st2, w2, a2, g2, r2, q2⟩
  refine wpAny_bind (wpAny_standAt (wpAny_holding ?_))
  have rl2 := (rl.grow g1).grow g2
  have r1 := r1.grow g2
  cases w1 with
  | r _ => exact (show False from q2).elim
  | v k1 =>
  cases w2 with
  | r _ => cases k1 <;> exact (show False from q2).elim
  | v d =>
  obtain ⟨ds, rfl⟩ : ∃ ds, k1 = .tup ds := by cases k1 <;> first | exact ⟨_, rfl⟩ | exact (show False from q2).elim
  simp only [kPutR] at q2
  split at q2
  rotate_left
  · exact q2.elim
  rename_i kvs hl
  split at q2
  rotate_left
  · exact q2.elim
  rename_i c
  simp only [okK, Bool.and_eq_true, decide_eq_true_eq] at c
  rcases a2.1.obj l _ hl with ⟨z, _⟩ | ⟨p, hp, ob⟩
  · cases z
  obtain ⟨xs, h1, h2, h3, h4⟩ := kd_dict I2 ob
  obtain ⟨_, h1', h2', hd1, hd2, _⟩ := ob
  rw [h1] at h1'
  cases rl2 with | r hl2 hv2 =>
  have := hv2 p hp
  cases this
  cases r2 with | v rd =>
  cases r1 with | v r1 =>
  cases r1 with
  | @tup ka _ _ t1 t2 t3 =>
    cases ru1
    have hxl : xs.length ≤ sizeLine := by
      rw [h2.length]
      exact Nat.le_trans c.2 (by decide)
    refine wpAny_dictSet_heap (knd := nestedKind X.prog X.w) (k := (Jv.D.tup ds).nk) (hsz := hxl) (show X.A.units + 8 < cLine by omega) ⟨nested_of I2 _ _ _ (.tup t1 t2 t3) rfl c.1.1, c.1.2⟩ h3 fun h' hm sb => ?_
    obtain ⟨o', es', ep', e1, e2, e3, e4, _⟩ := hm
    have new : ObjOk X.prog X.w (upd H2 D (.ext (KdAt X.w D (storedH xs (Jv.D.tup ds).nk ka u2)))) h' D (.ext (KdAt X.w D (storedH xs (Jv.D.tup ds).nk ka u2))) := by
      refine ⟨⟨o', es', ep', e1, e2, e3, e4⟩, ⟨_, e1⟩, ?_⟩
      rintro g1 g2 ⟨o, es, ep, f1, f2⟩ stt
      exact ⟨o, es, ep, stt o f1, f2⟩
    have gw : Grow ρ2 H2 ρ2 (upd H2 D (.ext (KdAt X.w D (storedH xs (Jv.D.tup ds).nk ka u2)))) := .write hp
    refine ⟨σ, _, I2.write (e := D) (t' := s2.toks + (nestedKind X.prog X.w).draws (Jv.D.tup ds).nk) (by rw [h1]; trivial) (.inl rfl) (fun b o hb q => (sb.2 b hb).trans q) ⟨_, e1⟩ new, rfl, fun _ _ _ e => e, ?_⟩
    exact q2 ρ2 _ () gw (a2.1.write hp ⟨_, upd_same, ((h2.put (.tup t1 t2 t3) ru2 rd)).mono (fun _ _ z => z.grow gw), storeK_mem hd1 c.1, storeK_nodup hd2, h4⟩ trivial) trivial⟩
theorem okD_new {P : Program} {w : World} (H : Hp) (h : Heap) : ObjOk P w (upd H h.objs.size (.ext (KdAt w h.objs.size []))) (h.push { cls := .type "dict", data := .dict #[] }) h.objs.size (.ext (KdAt w h.objs.size [])) := by
  refine ⟨⟨_, _, _, Heap.get?_push_size _ rfl, ⟨rfl, rfl, rfl⟩, rfl, rfl⟩, ⟨_, Heap.get?_push_size _ rfl⟩, ?_⟩
  rintro h1 h2 ⟨o, es, ep, e1, e2⟩ st
  exact ⟨o, es, ep, st o e1, e2⟩
variable {tg iter : Expr} {ifs : List Expr} {scope : Scope} {own : List (Str × Nat)} {pos : Pos} {it : LD} {g : GD} {t : BD}
/-- {k: v for ..}: a dict that may change on -/
theorem de_dc (hc : X.calm = true) (hu : X.A.units + 65 < cLine) (hN : X.N.Nodup) (hi : PI X tg iter (iR X.kw ct E it)) (ok : BlkOk X.N X.env.scope scope own)
    (hg : ∀ (s : Shared) (H : Hp) (C : Addr) (cl : List (Str × Addr)) (fp : List Addr), PG (X.blk s H scope (compEnvC scope cl C X.env) fp) tg (gR X.kw (own.map (·.2)) g))
    (ht : ∀ (s : Shared) (H : Hp) (C : Addr) (cl : List (Str × Addr)) (fp : List Addr), PTs (X.blk s H scope (compEnvC scope cl C X.env) fp) ifs (tT X.kw ct (fun _ => E0) t))
    (hk : ∀ (s : Shared) (H : Hp) (C : Addr) (cl : List (Str × Addr)) (fp : List Addr), PE (X.blk s H scope (compEnvC scope cl C X.env) fp) kx (tE X.kw ct (fun _ => E0) fk))
    (hv : ∀ (s : Shared) (H : Hp) (C : Addr) (cl : List (Str × Addr)) (fp : List Addr), PE (X.blk s H scope (compEnvC scope cl C X.env) fp) vx (tE X.kw ct (fun _ => E0) fv)) (hs : ∀ x, foldedSetIterable iter X.env x = pure x := by intro _; rfl) :
    PE X (.DictComp kx vx [⟨tg, iter, ifs, 0⟩] scope pos) (tE X.kw ct E (eCp (.kd []) (own.map (·.2)) it g t (uPut fk fv))) := ⟨fun pins s σ H Q I h => by
  rw [arm_eval_DictComp]
  refine cp_core (ho := fun D => .ext (KdAt X.w D [])) (ob := { cls := .type "dict", data := .dict #[] }) hc hN loop_dict rfl (fun s Q E q => wpAny_newObj_type q) (fun H h _ => okD_new H h) I hi ok hg ht
    (fun s H C cl fp => ps_put (X := X.blk s H scope (compEnvC scope cl C X.env) fp) rfl hu (hk s H C cl fp) (hv s H C cl fp)) hs (cp_read (new := .kd []) (fun ρ H D hD => ⟨[], upd_same, .nil, (fun p hp => nomatch hp), List.nodup_nil, hD⟩) (fun n => trivial) h) fun D C s' m H' I' q hn f => ⟨m, hn, fun h'' sb => ?_⟩
  obtain ⟨f0, f1, f2, f3, f4, f5⟩ := f
  exact ⟨.ref D, H', I'.turned (t' := s'.toks) (fun b o hb e => (sb.2 b hb).trans e) f0 f1 f3 f4 f5, rfl, q⟩⟩
end
end Jv
end
section
/-! set comprehensions; dicts frozen; what a frozen dict answers -/
namespace Jv
open PySem PySem.Spec L2 PyProof.Rows PySem.W
/-! ### {x for ..} -/
def addS (es : List D) (d : D) : List D := if es.any (fun e => decide (e.nk = d.nk)) then es else es ++ [d]
def sAddR (l : Nat) (w : W) (st : Sto) : R Unit := match w with
  | .v (.tup ds) => match st[l]? with
    | some (.set es) => if okK (.tup ds) && decide (es.length ≤ 60) then .ok () (st.set l (.set (addS es (.tup ds)))) else .bad
    | _ => .bad
  | _ => .bad
def uAdd (fe : ED) : Nat → UD := fun l env st => (noX (fe env st)).bind fun w st => sAddR l w st
section
variable {X : Cx} {ct : Nat → Value} {E : St → XK} {elt : Expr} {fe : ED} {vs : List Nat}
theorem setO_stays {w : World} {a : Addr} {L0 : NS.Mem} {h1 h2 : Heap} (p : ∃ L es ep t, L.Perm L0 ∧ NS.SOb w h1 a L es ep t) (k : ∀ o, h1.get? a = some o → h2.get? a = some o) : ∃ L es ep t, L.Perm L0 ∧ NS.SOb w h2 a L es ep t := by
  obtain ⟨L, es, ep, t, pm, R⟩ := p
  obtain ⟨o, e1, e2, e3⟩ := R.ob
  exact ⟨L, es, ep, t, pm, ⟨o, k o e1, e2, e3⟩, R.rw, R.tb, R.nd, R.ld, R.rm, R.fw⟩
theorem setO_ok {P : Program} {w : World} {H : Hp} {h : Heap} {a : Addr} {L0 : NS.Mem} (p : ∃ L es ep t, L.Perm L0 ∧ NS.SOb w h a L es ep t) : ObjOk P w H h a (SetO w a L0) := by
  refine ⟨p, ?_, fun h1 h2 q k => setO_stays q k⟩
  obtain ⟨L, es, ep, t, pm, R⟩ := p
  obtain ⟨o, e1, _⟩ := R.ob
  exact ⟨o, e1⟩
theorem set_new (w : World) (h : Heap) : NS.SOb w (h.push { cls := .type "set", dict := none, data := .set #[] 0 (.fresh 0 0 (!w.params.followText "set-order")) }) h.objs.size [] #[] 0 (.fresh 0 0 (!w.params.followText "set-order")) where
  ob := ⟨_, Heap.get?_push_size _ rfl, ⟨rfl, rfl, rfl⟩, rfl⟩
  rw := rfl
  tb := ⟨List.Pairwise.nil, rfl, rfl, .inl rfl, (fun x hx => nomatch hx), (fun i h j hi => by simp [NS.hashes] at hi)⟩
  nd := List.nodup_nil
  ld := by cases e : w.params.followText "set-order" <;> simp [SetTable.fresh, e]
  rm := by show 0 * 5 < 7 * 3; decide
  fw := by show 0 < 64; decide
/-- the members are what they are told to be -/
theorem mem_keys {pins : List (Addr × Obj)} {σ : St} {H : Hp} {s : Shared} {ρ : Rho} (I : Inv X pins σ H s) : ∀ {L0 : NS.Mem} {ds : List D}, RlAll X.kw ρ H (L0.map fun p => V.ref p.1) ds → L0.map (·.2) = ds.map D.nk → (∀ d ∈ ds, d.hb = true ∧ d.nk.depth ≤ 8) → ∀ p ∈ L0, NS.KAt s.heap p.2 p.1
  | [], _, _, _, _, p, hp => nomatch hp
  | (b, k) :: L0, [], r, _, _, p, hp => nomatch r
  | (b, k) :: L0, d :: ds, .cons r rs, e, c, p, hp => by
    simp only [List.map_cons, List.cons.injEq] at e
    rcases List.mem_cons.mp hp with rfl | hp
    · have := c d List.mem_cons_self
      rw [show k = d.nk from e.1]
      exact ⟨nested_of I _ _ _ r rfl this.1, this.2⟩
    · exact mem_keys I rs e.2 (fun x hx => c x (List.mem_cons_of_mem _ hx)) p hp
theorem RlAll.snoc {K : KW} {ρ : Rho} {H : Hp} {vs : List V} {ds : List D} {v : V} {d : D} (h : RlAll K ρ H vs ds) (r : Rl K ρ H v d) : RlAll K ρ H (vs ++ [v]) (ds ++ [d]) := h.append (.cons r .nil)
theorem ps_add (hx : X.xe = fun _ _ => False) (hu : X.A.units + 65 < cLine) (he : PE X elt (tE X.kw ct (fun _ => E0) fe)) : PStp X vs (stpSet elt) (tStp X.kw ct (uAdd fe)) := ⟨fun D pins s σ H Q I ⟨ρ, st, env, l, a, rl, h⟩ => by
  unfold stpSet
  refine wpAny_bind (thnF (xF hx (he.run pins s σ H _ I (okE a h))) ?_)
  rintro u1 s1 ⟨v1, H1, I1, ru1, ρ1, st1, w1, a1, g1, r1, q1⟩
  refine wpAny_bind (wpAny_standAt ?_)
  have rl1 := rl.grow g1
  cases w1 with
  | r _ => exact (show False from q1).elim
  | v k1 =>
  obtain ⟨ds, rfl⟩ : ∃ ds, k1 = .tup ds := by cases k1 <;> first | exact ⟨_, rfl⟩ | exact (show False from q1).elim
  simp only [sAddR] at q1
  split at q1
  rotate_left
  · exact q1.elim
  rename_i es hl
  split at q1
  rotate_left
  · exact q1.elim
  rename_i c
  simp only [okK, Bool.and_eq_true, decide_eq_true_eq] at c
  rcases a1.1.obj l _ hl with ⟨z, _⟩ | ⟨p, hp, ob⟩
  · cases z
  obtain ⟨L0, h1, h2, h3, h4⟩ := ob
  cases rl1 with | r hl2 hv2 =>
  have := hv2 p hp
  cases this
  cases r1 with | v r1 =>
  cases r1 with
  | @tup ka _ _ t1 t2 t3 =>
    cases ru1
    obtain ⟨⟨L, es0, ep, t, pm, R⟩, _, _⟩ := I1.hok D _ h1
    have all := mem_keys I1 h2 h3 h4
    have allL : ∀ p ∈ L, NS.KAt s1.heap p.2 p.1 := fun p hp => all p (pm.mem_iff.mp hp)
    have kx : NS.KAt s1.heap (Jv.D.tup ds).nk ka := ⟨nested_of I1 _ _ _ (.tup t1 t2 t3) rfl c.1.1, c.1.2⟩
    obtain ⟨ob, eo, ec, ed⟩ := R.ob
    have ty : s1.TypeIs (.ref D) "set" := ⟨ob, eo, ec.1⟩
    have few : L.length + 1 < 64 := by
      have e1 := pm.length_eq
      have e2 := h2.length
      rw [List.length_map] at e2
      omega
    have hmem : ((Jv.D.tup ds).nk ∈ L.map (·.2)) ↔ (es.any fun e => decide (e.nk = (Jv.D.tup ds).nk)) = true := by
      rw [(pm.map (·.2)).mem_iff, h3]
      simp [List.any_eq_true, List.mem_map]
    refine wpAny_bind (wpAny_call_entry F.slot_set_add ty F.entry_set_add ?_ (F.args_set_add_2 _ _))
    unfold Builtin.«set.add» Builtin.Frozenset.oneOther
    simp only [List.isEmpty_nil, bind_assoc]
    unfold Builtin.Frozenset.addrOf setAdd
    refine wpAny_bind (wpAny_pure ?_)
    try dsimp only
    refine wpAny_bind (wpAny_pure ?_)
    try dsimp only
    refine wpAny_bind ?_
    refine wpAny_holding ?_
    refine wpAny_bind (pyHash_key _ _ _ _ _ kx.1 ?_ ?_)
    · have := kx.2
      first
        | (simp only [Around.in1_units]; omega)
        | omega
    refine NS.grow_by (s := { s1 with toks := s1.toks + (Jv.D.tup ds).nk.draws }) R allL kx ?_ few ?_
    · first
        | (simp only [Around.in1_units]; omega)
        | omega
    intro b h' L' es' ep' t' sb R' hin hout
    show wpAny _ _ (ret Value.none) _ _ _
    refine wpAny_pure ⟨_, rfl, wpAny_pure ?_⟩
    have gw : ∀ o, Grow ρ1 H1 ρ1 (upd H1 D o) := fun o => .write hp
    by_cases inn : (es.any fun e => decide (e.nk = (Jv.D.tup ds).nk)) = true
    · have e' := hin (hmem.mpr inn)
      have new : ObjOk X.prog X.w (upd H1 D (SetO X.w D L0)) h' D (SetO X.w D L0) := setO_ok ⟨L', es', ep', t', by rw [e']; exact pm, R'⟩
      refine ⟨σ, _, I1.write (e := D) (t' := s1.toks + (Jv.D.tup ds).nk.draws) (by rw [h1]; trivial) (.inl rfl) (fun b o hb q => (sb.2 b hb).trans q) (let ⟨o, e, _⟩ := R'.ob; ⟨o, e⟩) new, rfl, fun _ _ _ e => e, ?_⟩
      refine q1 ρ1 _ () (gw _) (a1.1.write hp ?_ trivial) trivial
      rw [show addS es (.tup ds) = es from if_pos inn]
      exact ⟨L0, upd_same, h2.grow (gw _), h3, h4⟩
    · have pm' := hout (fun z => inn (hmem.mp z))
      have new : ObjOk X.prog X.w (upd H1 D (SetO X.w D (L0 ++ [(ka, (Jv.D.tup ds).nk)]))) h' D (SetO X.w D (L0 ++ [(ka, (Jv.D.tup ds).nk)])) :=
        setO_ok ⟨L', es', ep', t', pm'.trans ((pm.cons _).trans (List.perm_append_singleton _ _).symm), R'⟩
      refine ⟨σ, _, I1.write (e := D) (t' := s1.toks + (Jv.D.tup ds).nk.draws) (by rw [h1]; trivial) (.inl rfl) (fun b o hb q => (sb.2 b hb).trans q) (let ⟨o, e, _⟩ := R'.ob; ⟨o, e⟩) new, rfl, fun _ _ _ e => e, ?_⟩
      refine q1 ρ1 _ () (gw _) (a1.1.write hp ?_ trivial) trivial
      rw [show addS es (.tup ds) = es ++ [.tup ds] from if_neg inn]
      refine ⟨_, upd_same, ?_, ?_, ?_⟩
      · rw [List.map_append]
        exact (h2.snoc (.tup t1 t2 t3)).grow (gw _)
      · simp [h3]
      · intro x hx
        rcases List.mem_append.mp hx with hx | hx
        · exact h4 x hx
        · obtain rfl := List.mem_singleton.mp hx
          exact c.1⟩
variable {tg iter tg1 iter1 : Expr} {ifs ifs1 : List Expr} {scope : Scope} {own : List (Str × Nat)} {vs1 : List Nat} {pos : Pos} {it it1 : LD} {g g1 : GD} {t t1 : BD}
theorem set_alloc (s : Shared) (Q : Value → Shared → Prop) (E : Value → Shared → Prop) (h : Q (.ref s.heap.objs.size) { s with heap := s.heap.push { cls := .type "set", dict := none, data := .set #[] 0 (.fresh 0 0 (!X.w.params.followText "set-order")) } }) : wpAny (model X.prog X.w) X.A (newSet (.type "set")) Q E s :=
  wpAny_newSet_raw fun led hl => by rw [hl]; exact h
/-- {x for ..} -/
theorem de_sc (hc : X.calm = true) (hu : X.A.units + 65 < cLine) (hN : X.N.Nodup) (hi : PI X tg iter (iR X.kw ct E it)) (ok : BlkOk X.N X.env.scope scope own)
    (hg : ∀ (s : Shared) (H : Hp) (C : Addr) (cl : List (Str × Addr)) (fp : List Addr), PG (X.blk s H scope (compEnvC scope cl C X.env) fp) tg (gR X.kw (own.map (·.2)) g))
    (ht : ∀ (s : Shared) (H : Hp) (C : Addr) (cl : List (Str × Addr)) (fp : List Addr), PTs (X.blk s H scope (compEnvC scope cl C X.env) fp) ifs (tT X.kw ct (fun _ => E0) t))
    (he : ∀ (s : Shared) (H : Hp) (C : Addr) (cl : List (Str × Addr)) (fp : List Addr), PE (X.blk s H scope (compEnvC scope cl C X.env) fp) elt (tE X.kw ct (fun _ => E0) fe)) (hs : ∀ x, foldedSetIterable iter X.env x = pure x := by intro _; rfl) :
    PE X (.SetComp elt [⟨tg, iter, ifs, 0⟩] scope pos) (tE X.kw ct E (eCp (.set []) (own.map (·.2)) it g t (uAdd fe))) := ⟨fun pins s σ H Q I h => by
  rw [arm_eval_SetComp]
  refine cp_core (ho := fun D => SetO X.w D []) hc hN loop_set rfl set_alloc (fun H h _ => setO_ok ⟨[], _, _, _, .refl _, set_new X.w h⟩) I hi ok hg ht
    (fun s H C cl fp => ps_add (X := X.blk s H scope (compEnvC scope cl C X.env) fp) rfl hu (he s H C cl fp)) hs (cp_read (new := .set []) (fun ρ H D hD => ⟨[], upd_same, .nil, rfl, fun d hd => nomatch hd⟩) (fun n => trivial) h) fun D C s' m H' I' q hn f => ⟨m, hn, fun h'' sb => ?_⟩
  obtain ⟨f0, f1, f2, f3, f4, f5⟩ := f
  exact ⟨.ref D, H', I'.turned (t' := s'.toks) (fun b o hb e => (sb.2 b hb).trans e) f0 f1 f3 f4 f5, rfl, q⟩⟩
/-- {x for .. for ..} -/
theorem de_sc2 (hc : X.calm = true) (hu : X.A.units + 65 < cLine) (hN : X.N.Nodup) (hi : PI X tg iter (iR X.kw ct E it)) (ok : BlkOk X.N X.env.scope scope own) (hv : ∀ i ∈ vs1, i ∈ own.map (·.2))
    (hg : ∀ (s : Shared) (H : Hp) (C : Addr) (cl : List (Str × Addr)) (fp : List Addr), PG (X.blk s H scope (compEnvC scope cl C X.env) fp) tg (gR X.kw (own.map (·.2)) g))
    (ht : ∀ (s : Shared) (H : Hp) (C : Addr) (cl : List (Str × Addr)) (fp : List Addr), PTs (X.blk s H scope (compEnvC scope cl C X.env) fp) ifs (tT X.kw ct (fun _ => E0) t))
    (hi1 : ∀ (s : Shared) (H : Hp) (C : Addr) (cl : List (Str × Addr)) (fp : List Addr), PI (X.blk s H scope (compEnvC scope cl C X.env) fp) tg1 iter1 (iR X.kw ct (fun _ => E0) it1))
    (hg1 : ∀ (s : Shared) (H : Hp) (C : Addr) (cl : List (Str × Addr)) (fp : List Addr), PG (X.blk s H scope (compEnvC scope cl C X.env) fp) tg1 (gR X.kw vs1 g1))
    (ht1 : ∀ (s : Shared) (H : Hp) (C : Addr) (cl : List (Str × Addr)) (fp : List Addr), PTs (X.blk s H scope (compEnvC scope cl C X.env) fp) ifs1 (tT X.kw ct (fun _ => E0) t1))
    (he : ∀ (s : Shared) (H : Hp) (C : Addr) (cl : List (Str × Addr)) (fp : List Addr), PE (X.blk s H scope (compEnvC scope cl C X.env) fp) elt (tE X.kw ct (fun _ => E0) fe)) (hs : ∀ x, foldedSetIterable iter X.env x = pure x := by intro _; rfl)
    (hs1 : ∀ env x, foldedSetIterable iter1 env x = pure x := by intro _ _; rfl) :
    PE X (.SetComp elt [⟨tg, iter, ifs, 0⟩, ⟨tg1, iter1, ifs1, 0⟩] scope pos) (tE X.kw ct E (eCp (.set []) (own.map (·.2)) it g t (uIn vs1 it1 g1 t1 (uAdd fe)))) := ⟨fun pins s σ H Q I h => by
  rw [arm_eval_SetComp]
  refine cp_core (ho := fun D => SetO X.w D []) hc hN loop_set2 rfl set_alloc (fun H h _ => setO_ok ⟨[], _, _, _, .refl _, set_new X.w h⟩) I hi ok hg ht
    (fun s H C cl fp => ⟨fun D pins s' σ' H' Q' I' h' => (ps_in (X := X.blk s H scope (compEnvC scope cl C X.env) fp) hc rfl loop_set21 (hi1 s H C cl fp) (hg1 s H C cl fp) (ht1 s H C cl fp) (ps_add (X := X.blk s H scope (compEnvC scope cl C X.env) fp) rfl hu (he s H C cl fp)) hv (hs1 _)).run D pins s' σ' H' Q' I' (in_read h')⟩)
    hs (cp_read (new := .set []) (fun ρ H D hD => ⟨[], upd_same, .nil, rfl, fun d hd => nomatch hd⟩) (fun n => trivial) h) fun D C s' m H' I' q hn f => ⟨m, hn, fun h'' sb => ?_⟩
  obtain ⟨f0, f1, f2, f3, f4, f5⟩ := f
  exact ⟨.ref D, H', I'.turned (t' := s'.toks) (fun b o hb e => (sb.2 b hb).trans e) f0 f1 f3 f4 f5, rfl, q⟩⟩
end
end Jv
end
section
/-! dicts frozen and asked; sorted -/
namespace Jv
open PySem PySem.Spec L2 PyProof.Rows PySem.W
/-! ### frozen -/
def frzK (w : W) (st : Sto) : R W := match w with
  | .r l => match st[l]? with
    | some (.kd kvs) => .ok (.v (.kd kvs)) (st.set l .dead)
    | _ => .bad
  | w => .ok w st
def eFrzK (f : ED) : ED := fun env st => (f env st).bind frzK
theorem RelSt.alter {K : KW} {ρ : Rho} {H : Hp} {st : Sto} {l : Nat} {a : Addr} {o : HO} (s : RelSt K ρ H st) (hp : ρ.lc[l]? = some (some a)) : RelSt K (ρ.drop l) (upd H a o) (st.set l .dead) := by
  have g : Grow ρ H (ρ.drop l) (upd H a o) := (Grow.write hp).trans .drop
  have d := s.drop (l := l)
  refine ⟨d.len, d.inj, fun i ob e => ?_, fun b hb => ?_, d.apart, d.ord⟩
  · by_cases h : l = i
    · subst h
      rcases d.obj l ob e with z | ⟨b, hb, _⟩
      · exact .inl z
      · simp only [Rho.drop] at hb
        rw [List.getElem?_set_self (List.getElem?_eq_some_iff.mp hp).1] at hb
        cases hb
    · have e' := e
      rw [List.getElem?_set_ne h] at e'
      rcases s.obj i ob e' with ⟨z, q⟩ | ⟨b, q, ob'⟩
      · exact .inl ⟨z, by simp only [Rho.drop]; rw [List.getElem?_set_ne h]; exact q⟩
      · have ne : b ≠ a := fun z => h (s.inj l i a hp (z ▸ q))
        exact .inr ⟨b, by simp only [Rho.drop]; rw [List.getElem?_set_ne h]; exact q, ob'.mono (fun _ z => by rw [upd_ne ne]; exact z) (fun _ _ z => z.grow g) fun _ _ z => z.grow g⟩
  · by_cases h : b = a
    · subst h; exact ⟨_, upd_same⟩
    · obtain ⟨u, q⟩ := s.hidt b hb
      exact ⟨u, by rw [upd_ne h]; exact q⟩
section
variable {X : Cx} {ct : Nat → Value} {E : St → XK} {e : Expr} {f : ED}
theorem de_frzK (h : PE X e (tE X.kw ct E f)) : PE X e (tE X.kw ct E (eFrzK f)) := ⟨fun pins s σ H Q I q => by
  refine thn (h.run pins s σ H _ I (tG.bind (rel := Rw) (k := fun w _ st => frzK w st) q)) ?_
  rintro u s1 ⟨v, H1, I1, ru, ρ1, st1, env, w, a1, r1, q1⟩
  cases w with
  | v d => exact ⟨v, H1, I1, ru, q1.here a1.1 r1⟩
  | r l =>
    cases el : st1[l]? with
    | none => simp only [frzK, el] at q1; exact q1.elim
    | some ob =>
      cases ob with
      | kd kvs =>
        simp only [frzK, el] at q1
        rcases a1.1.obj l _ el with ⟨z, _⟩ | ⟨a, hp, ob⟩
        · cases z
        obtain ⟨xs, h1, h2, h3, h4, h5⟩ := ob
        obtain ⟨⟨o, es, ep, e1, e2, e3, e4⟩, _⟩ := I1.hok a _ h1
        cases r1 with | r hl hv =>
        cases hv a hp
        have gr : Grow ρ1 H1 (ρ1.drop l) (upd H1 a (.ext (KoAt a o))) := (Grow.write hp).trans .drop
        obtain ⟨vs, k1, k2, k3, k4⟩ := h2.rows
        refine ⟨.ref a, upd H1 a (.ext (KoAt a o)), I1.write (e := a) (t' := s1.toks) (h' := s1.heap) (by rw [h1]; trivial) (.inl rfl) (fun b o _ z => z) ⟨_, e1⟩ ⟨e1, ⟨_, e1⟩, fun h1 h2 p k => k _ p⟩, ru, ?_⟩
        exact q1 (ρ1.drop l) _ _ gr (a1.1.alter hp) (.v (.kd upd_same (a1.1.dropped hp) ⟨⟨es, ep, e2, e3, e4⟩, k1, k2, h3, h4⟩ h5 ((k3.append k4).grow gr)))
      | dead => simp only [frzK, el] at q1; exact q1.elim
      | lst _ => simp only [frzK, el] at q1; exact q1.elim
      | dct _ => simp only [frzK, el] at q1; exact q1.elim
      | set _ => simp only [frzK, el] at q1; exact q1.elim
      | ld _ => simp only [frzK, el] at q1; exact q1.elim
      | tab _ _ => simp only [frzK, el] at q1; exact q1.elim⟩
end
/-! ### asked -/
theorem RlAll.apart {K : KW} {ρ : Rho} {H : Hp} : ∀ {as bs : List V} {cs ds : List D}, as.length = cs.length → RlAll K ρ H (as ++ bs) (cs ++ ds) → RlAll K ρ H as cs ∧ RlAll K ρ H bs ds
  | [], _, [], _, _, r => ⟨.nil, r⟩
  | a :: as, _, c :: cs, _, e, .cons q r => by
    have e' : as.length = cs.length := by simpa using e
    obtain ⟨r1, r2⟩ := RlAll.apart e' r
    exact ⟨.cons q r1, r2⟩
theorem kdR_of {K : KW} {ρ : Rho} {H : Hp} : ∀ {xs : List (NestedKey × Addr × Value)} {vs : List V} {kvs : List (D × D)}, xs.map (·.1) = kvs.map (·.1.nk) → Vals vs (xs.map (·.2.2)) → RlAll K ρ H (xs.map fun x => V.ref x.2.1) (kvs.map (·.1)) → RlAll K ρ H vs (kvs.map (·.2)) → KdR K ρ H xs kvs
  | [], _, [], _, _, _, _ => .nil
  | [], _, _ :: _, e, _, _, _ => by simp at e
  | _ :: _, _, [], e, _, _, _ => by simp at e
  | (k, a, u) :: xs, _, (kd, d) :: kvs, e, .cons q qs, .cons r rs, r2 => by
    simp only [List.map_cons, List.cons.injEq] at e
    cases r2 with
    | cons r2 rs2 =>
      have : k = kd.nk := e.1
      subst this
      exact .cons r q r2 (kdR_of e.2 qs rs rs2)
def asKd (st : Sto) : W → Option (List (D × D))
  | .v (.kd kvs) => some kvs
  | .r l => match st[l]? with
    | some (.kd kvs) => some kvs
    | _ => none
  | _ => none
theorem kd_of {X : Cx} {pins : List (Addr × Obj)} {σ : St} {H : Hp} {s : Shared} {ρ : Rho} {st : Sto} {v : V} {w : W} {kvs : List (D × D)} (I : Inv X pins σ H s) (rs : RelSt X.kw ρ H st) (r : Rw X.kw ρ H v w) (e : asKd st w = some kvs) :
    ∃ a xs, v = .ref a ∧ KdR X.kw ρ H xs kvs ∧ s.heap.DictOfH (nestedKind X.prog X.w) a xs ∧ (a == sysModules) = false := by
  cases r with
  | v r =>
    cases r with
    | @kd a o xs vs _ h n k m r =>
      cases e
      obtain ⟨⟨es, ep, k1, k2, k3⟩, k4, k5, k6, k7⟩ := k
      have hl : (xs.map fun x => V.ref x.2.1).length = (kvs.map (·.1)).length := by
        have := congrArg List.length k4
        simpa using this
      obtain ⟨r1, r2⟩ := RlAll.apart hl r
      have kr := kdR_of k4 k5 r1 r2
      refine ⟨a, xs, rfl, kr, ⟨o, es, ep, (I.hok a _ h).1, k1, k2, k3, ?_, by rw [k4]; exact k7⟩, m⟩
      clear k3 k4 k7 hl r1 r2 r k5
      induction kr with
      | nil => intro x hx; cases hx
      | cons r q1 q2 _ ih =>
        intro x hx
        rcases List.mem_cons.mp hx with rfl | hx
        · have := k6 _ List.mem_cons_self
          exact ⟨nested_of I _ _ _ r rfl this.1, this.2⟩
        · exact ih (fun p hp => k6 p (List.mem_cons_of_mem _ hp)) x hx
    | _ => cases e
  | @r l _ hl hv =>
    simp only [asKd] at e
    split at e
    · rename_i kvs' he
      cases e
      rcases rs.obj l _ he with ⟨z, _⟩ | ⟨a, ha, ob⟩
      · cases z
      obtain ⟨xs, h1, h2, h3, h4⟩ := kd_dict I ob
      exact ⟨a, xs, hv a ha, h2, h3, h4⟩
    · cases e
def orO (g1 g2 : O2) : O2 := fun st a b => match g1 st a b with
  | some d => some d
  | none => g2 st a b
theorem OpR.or {X : Cx} {f : Value → Value → Sem Value} {g1 g2 : O2} (h1 : OpR X f (rOf X.kw g1)) (h2 : OpR X f (rOf X.kw g2)) : OpR X f (rOf X.kw (orO g1 g2)) := by
  intro pins s σ H x y v u Q I rx ry h
  obtain ⟨ρ, st, d1, d2, d, rs, r1, r2, e, q⟩ := h
  unfold orO at e
  cases e1 : g1 st d1 d2 with
  | some d' => rw [e1] at e; cases e; exact h1 pins s σ H x y v u Q I rx ry ⟨ρ, st, d1, d2, d, rs, r1, r2, e1, q⟩
  | none => rw [e1] at e; exact h2 pins s σ H x y v u Q I rx ry ⟨ρ, st, d1, d2, d, rs, r1, r2, e, q⟩
theorem IxR.or {X : Cx} {g1 g2 : O2} (h1 : IxR X (rOf X.kw g1)) (h2 : IxR X (rOf X.kw g2)) : IxR X (rOf X.kw (orO g1 g2)) := by
  intro value slice pins s σ H x y v u Q I rx ry h hs
  obtain ⟨ρ, st, d1, d2, d, rs, r1, r2, e, q⟩ := h
  unfold orO at e
  cases e1 : g1 st d1 d2 with
  | some d' => rw [e1] at e; cases e; exact h1 value slice pins s σ H x y v u Q I rx ry ⟨ρ, st, d1, d2, d, rs, r1, r2, e1, q⟩ hs
  | none => rw [e1] at e; exact h2 value slice pins s σ H x y v u Q I rx ry ⟨ρ, st, d1, d2, d, rs, r1, r2, e, q⟩ hs
def inK2 : O2 := fun st a b => match a with
  | .v (.tup ds) => (asKd st b).bind fun kvs => if okK (.tup ds) then some (.bl (hasK kvs (.tup ds))) else none
  | _ => none
def notInK2 : O2 := fun st a b => match a with
  | .v (.tup ds) => (asKd st b).bind fun kvs => if okK (.tup ds) then some (.bl (!hasK kvs (.tup ds))) else none
  | _ => none
def lookK (kvs : List (D × D)) (k : D) : Option D := (kvs.find? fun p => decide (p.1.nk = k.nk)).map (·.2)
def ixK : O2 := fun st a b => match b with
  | .v (.tup ds) => (asKd st a).bind fun kvs => if okK (.tup ds) then lookK kvs (.tup ds) else none
  | _ => none
theorem look_value {K : KW} {ρ : Rho} {H : Hp} {xs : List (NestedKey × Addr × Value)} {ds : List (D × D)} {k d : D} (h : KdR K ρ H xs ds) (e : lookK ds k = some d) : ∃ u v, valueAt (pairsH xs) k.nk = some u ∧ RelV v u ∧ Rl K ρ H v d := by
  induction h with
  | nil => cases e
  | @cons b u v k0 d0 xs ds r q1 q2 t ih =>
    simp only [lookK, List.find?_cons] at e
    by_cases z : k0.nk = k.nk
    · simp only [z, decide_true, Option.map_some, Option.some.injEq] at e
      subst e
      exact ⟨u, v, by simp [pairsH, valueAt, z], q1, q2⟩
    · simp only [z, decide_false] at e
      obtain ⟨u', v', h1, h2, h3⟩ := ih e
      exact ⟨u', v', by simpa [pairsH, valueAt, z] using h1, h2, h3⟩
section
variable {X : Cx}
theorem op_inK2 (hu : X.A.units + 65 < cLine) : OpR X (compareOp .In) (rOf X.kw inK2) := by
  intro pins s σ H x y v u Q I rx ry h
  obtain ⟨ρ, st, d1, d2, d, rs, r1, r2, e, q⟩ := h
  unfold inK2 at e
  split at e
  rotate_left
  · cases e
  cases ek : asKd st d2 with
  | none => rw [ek] at e; cases e
  | some kvs =>
  rw [ek] at e
  simp only [Option.bind_some] at e
  split at e
  rotate_left
  · cases e
  rename_i c
  cases e
  simp only [okK, Bool.and_eq_true, decide_eq_true_eq] at c
  obtain ⟨a, xs, rfl, h2, h3, h4⟩ := kd_of I rs r2 ek
  cases ry
  cases r1 with | v r1 =>
  cases r1 with
  | tup t1 t2 t3 =>
    cases rx
    refine in_keyed (knd := nestedKind X.prog X.w) (show X.A.units + 1 + 8 < cLine by omega) ⟨nested_of I _ _ _ (.tup t1 t2 t3) rfl c.1, c.2⟩ h4 ⟨xs, h3, rfl⟩ ?_
    rw [has_value _ h2]
    exact ⟨.bl _, H, I.kept fun _ _ z => z, rfl, q H _ (.refl _) (.bl _)⟩
theorem op_notInK2 (hu : X.A.units + 65 < cLine) : OpR X (compareOp .NotIn) (rOf X.kw notInK2) := by
  intro pins s σ H x y v u Q I rx ry h
  obtain ⟨ρ, st, d1, d2, d, rs, r1, r2, e, q⟩ := h
  unfold notInK2 at e
  split at e
  rotate_left
  · cases e
  cases ek : asKd st d2 with
  | none => rw [ek] at e; cases e
  | some kvs =>
  rw [ek] at e
  simp only [Option.bind_some] at e
  split at e
  rotate_left
  · cases e
  rename_i c
  cases e
  simp only [okK, Bool.and_eq_true, decide_eq_true_eq] at c
  obtain ⟨a, xs, rfl, h2, h3, h4⟩ := kd_of I rs r2 ek
  cases ry
  cases r1 with | v r1 =>
  cases r1 with
  | tup t1 t2 t3 =>
    cases rx
    refine notIn_keyed (knd := nestedKind X.prog X.w) (show X.A.units + 1 + 8 < cLine by omega) ⟨nested_of I _ _ _ (.tup t1 t2 t3) rfl c.1, c.2⟩ h4 ⟨xs, h3, rfl⟩ ?_
    rw [has_value _ h2]
    exact ⟨.bl _, H, I.kept fun _ _ z => z, rfl, q H _ (.refl _) (.bl _)⟩
theorem ix_K (hu : X.A.units + 65 < cLine) : IxR X (rOf X.kw ixK) := by
  intro value slice pins s σ H x y v u Q I rx ry h hs
  obtain ⟨ρ, st, d1, d2, d, rs, r1, r2, e, q⟩ := h
  unfold ixK at e
  split at e
  rotate_left
  · cases e
  cases ek : asKd st d1 with
  | none => rw [ek] at e; cases e
  | some kvs =>
  rw [ek] at e
  simp only [Option.bind_some] at e
  split at e
  rotate_left
  · cases e
  rename_i c
  simp only [okK, Bool.and_eq_true, decide_eq_true_eq] at c
  obtain ⟨a, xs, rfl, h2, h3, h4⟩ := kd_of I rs r1 ek
  cases rx
  cases r2 with | v r2 =>
  cases r2 with
  | tup t1 t2 t3 =>
    cases ry
    obtain ⟨u', v', e1, e2, e3⟩ := look_value h2 e
    exact subscriptTail_builtinR (x := u') h3.typeIs F.slot_dict_getitem.lookup
      (getItem_keyed (knd := nestedKind X.prog X.w) (Q := fun r s' => r = u' ∧ EP X pins σ Q r s') (show X.A.units + 1 + 8 < cLine by omega) ⟨nested_of I _ _ _ (.tup t1 t2 t3) rfl c.1, c.2⟩ ⟨xs, h3, rfl⟩ e1 ⟨rfl, v', H, I.kept fun _ _ z => z, e2, q H _ (.refl _) e3⟩) hs
end
end Jv
end
section
/-! tuples, an empty one among them, can be sorted -/
namespace Jv
open PySem PySem.Spec PyProof.Rows PySem.W
def isTup0 : PyData → Bool
  | .tuple _ => true
  | _ => false
section
variable {prog : Program} {w : World} {A : Around} {E : Value → Shared → Prop} {s : Shared}
theorem keyLt'_general (x y : Value) : keyLt' general' x y = oneLt' false x y := rfl
open SeqAt in
theorem call_tuple_lt {Q : Value → Shared → Prop} {l b : Addr} {items items2 : Array Value} {e r : Nat → Bool} (hl : IsTup s.heap l items) (hb : IsTup s.heap b items2)
    (he : ∀ j (h1 : j < items.size) (h2 : j < items2.size), EqAt A.in1 s items[j] items2[j] (e j)) (hr : ∀ j (h1 : j < items.size) (h2 : j < items2.size), e j = false → RcLt A.in1 s items[j] items2[j] (r j))
    (h : Q (.bool (firstLt e r (decide (items.size < items2.size)) (List.range (min items.size items2.size)))) s) : wpAny (model prog w) A (call (.builtin "tuple.__lt__") [.ref l, .ref b]) Q E s := by
  obtain ⟨⟨cls, dd, data, sl⟩, ho, hc, n, hd⟩ := id hl
  obtain ⟨⟨cls2, dd2, data2, sl2⟩, ho2, hc2, n2, hd2⟩ := id hb
  simp only at hc hd hc2 hd2
  subst hc hd hc2 hd2
  exact call_meets F.slot_tuple_lt ⟨_, ho, rfl⟩ F.entry_tuple_lt (F.args_tuple_lt_2 _ _) (tuple_ltAt l b items items2 n n2 dd dd2 sl sl2 e r) ⟨ho, ho2, he, hr, h⟩
open SeqAt in
theorem oneLt_tup {xs ys : List PyData} {a b : Value} {as bs : List Addr} {Q : Bool → Shared → Prop} (ra : Reads s.heap a (.tuple xs) as) (rb : Reads s.heap b (.tuple ys) bs) (h : alike (.tuple xs) (.tuple ys) = true)
    (hu : A.units + min (PyData.tuple xs).depth (PyData.tuple ys).depth < cLine) (hq : Q (dataLt (.tuple xs) (.tuple ys)) s) : wpAny (model prog w) A (oneLt' true a b) Q E s := by
  have hal : alikeAll xs ys = true := by simpa [alike] using h
  cases ra with
  | @tuple l o vs n _ as₁ h1 h2 h3 h4 =>
    cases rb with
    | @tuple l' o' vs' n' _ bs₁ k1 k2 k3 k4 =>
      have n1 : vs.size = xs.length := by simpa using ReadsAll.length _ _ _ h4
      have n2 : vs'.size = ys.length := by simpa using ReadsAll.length _ _ _ k4
      rw [dataLt_tuple, ← firstLt_toks xs ys hal, ← n1, ← n2] at hq
      rw [oneLt'_eq]
      simp only [if_true]
      refine wpAny_bind (wpAny_cRoomFor (room_here hu) ?_)
      refine wpAny_bind (wpAny_callSpecialIfBound?_slot (T := "tuple") ⟨_, h1, h2⟩ F.slot_tuple_lt (call_tuple_lt (e := pairEq xs ys) (r := fun j => dataLt (xs.getD j .none) (ys.getD j .none)) ⟨_, h1, h2, _, h3⟩ ⟨_, k1, k2, _, k3⟩ (fun j j1 j2 => ?_) (fun j j1 j2 hj => ?_) ?_))
      · have := eqAt_alikeAll xs ys A.in1 s vs.toList vs'.toList _ _ h4 k4 hal (room_in hu) j (by simpa using j1) (by simpa using j2)
        simpa using this
      · have := rcLt_alikeAll xs ys A.in1 s vs.toList vs'.toList _ _ h4 k4 hal (room_in hu) j (by simpa using j1) (by simpa using j2) hj
        simpa using this
      · exact wpAny_truthy_bool hq
def firstSome : PyData → Bool
  | .tuple (_ :: _) => true
  | _ => false
theorem firsts_of {M : Model} : ∀ {vs : List Value} {ds : List PyData} {Q : List (Option Value) → Shared → Prop}, EachIs (fun v d => ∃ as, Reads s.heap v d as) vs ds → (∀ d ∈ ds, isTup0 d = true) → (∀ fs : List (Option Value), fs.map (·.isSome) = ds.map firstSome → Q fs s) → wpAny M A (vs.mapM firstOfTuple') Q E s
  | _, _, Q, .nil, _, h => by rw [List.mapM_nil]; exact wpAny_pure (h [] rfl)
  | _, _, Q, .cons (a := v) (b := d) (as := vs) (bs := ds) ⟨as, r⟩ t, ht, h => by
    have hd := ht d (List.mem_cons_self ..)
    cases d with
    | tuple xs =>
      cases r with
      | @tuple a o its n _ _ h1 h2 h3 h4 =>
        have n1 : its.size = xs.length := by simpa using SeqAt.ReadsAll.length _ _ _ h4
        rw [List.mapM_cons]
        refine wpAny_bind ?_
        rw [kas_first_eq]
        refine wpAny_bind (Looks.here (show Looks M s.heap (typeOf (.ref a)) o.cls from (Looks.ld h1).andThen .now) ?_)
        rw [h2, if_neg (by first | decide | simp)]
        refine wpAny_bind (listItems_at h1 h3 (wpAny_pure ?_))
        refine wpAny_bind (firsts_of t (fun x hx => ht x (List.mem_cons_of_mem _ hx)) fun fs hf => wpAny_pure (h (its[0]? :: fs) ?_))
        simp only [List.map_cons, hf, List.cons.injEq, and_true]
        cases xs with
        | nil =>
          have : its[0]? = none := Array.getElem?_eq_none (by rw [n1]; exact Nat.le_refl _)
          rw [this]; rfl
        | cons x r =>
          have : its[0]? = some (its[0]'(by simp at n1; omega)) := Array.getElem?_eq_getElem _
          rw [this]; rfl
    | _ => cases hd
theorem sorts_tup0 {vs : List Value} {ds : List PyData} (e : EachIs (fun v d => ∃ as, Reads s.heap v d as) vs ds) (hal : AllAlike ds) (ht : ∀ d ∈ ds, isTup0 d = true) (hu : ∀ d, d ∈ ds → A.units + d.depth < cLine) : SortsAt prog w A s (dataKind s.heap ds) vs := by
  by_cases hall : ∀ d ∈ ds, firstSome d = true
  · refine SortsAt.data e hal (.inl fun d hd => ?_) hu
    have := hall d hd
    unfold firstSome at this
    split at this
    · exact ⟨_, _, rfl⟩
    · cases this
  have room : ∀ {d d' : PyData}, d ∈ ds → A.units + min d.depth d'.depth < cLine := fun {d d'} hd => Nat.lt_of_le_of_lt (Nat.add_le_add_left (Nat.min_le_left _ _) _) (hu d hd)
  refine ⟨fun v hv => ?_, ?_⟩
  · obtain ⟨d, hd, as, r⟩ := e.left v hv
    exact ⟨_, dataKind_some hal hd r⟩
  cases ds with
  | nil => exact absurd (fun d hd => nomatch hd) hall
  | cons d₀ ds₀ =>
    refine ⟨if firstSome d₀ then general' else oneType', ?_, fun h2 E Q hq => ?_⟩
    · intro E x y a b Q ha hb hq
      obtain ⟨d, as, hd, ra, rfl⟩ := dataKind_inv ha
      obtain ⟨d', as', hd', rb, rfl⟩ := dataKind_inv hb
      have h1 := ht d hd
      have h2 := ht d' hd'
      cases d with
      | tuple xs =>
        cases d' with
        | tuple ys =>
          split
          · rw [keyLt'_general]
            exact oneLt_alike (f := false) (fun z => nomatch z) ra rb (hal _ hd _ hd') (fun z => nomatch z) (room hd) hq
          · rw [keyLt'_oneType]
            exact oneLt_tup ra rb (hal _ hd _ hd') (room hd) hq
        | _ => cases h2
      | _ => cases h1
    · rw [kat_kind_eq, List.mapM_toArray, map_eq_pure_bind]
      refine wpAny_bind (wpAny_bind (firsts_of e ht fun fs hf => wpAny_pure ?_))
      have hna : ¬ (fs.toArray.all fun x => x.isSome) = true := by
        rw [List.all_toArray]
        intro z
        refine hall fun d hd => ?_
        have h3 : ∀ b ∈ fs.map (·.isSome), b = true := fun b hb => by
          obtain ⟨x, hx, rfl⟩ := List.mem_map.mp hb
          exact List.all_eq_true.mp z x hx
        rw [hf] at h3
        exact h3 _ (List.mem_map.mpr ⟨d, hd, rfl⟩)
      rw [if_neg hna]
      cases fs with
      | nil => simp at hf
      | cons f0 fr =>
      simp only [List.map_cons, List.cons.injEq] at hf
      have h0 : ((f0 :: fr).toArray[0]?.bind id) = f0 := by simp
      rw [h0]
      by_cases hf0 : firstSome d₀ = true
      · rw [hf0] at hf
        rw [if_pos hf0] at hq
        rw [if_pos hf.1]
        exact wpAny_pure hq
      · have hff : firstSome d₀ = false := by simpa using hf0
        rw [if_neg hf0] at hq
        rw [hff] at hf
        rw [if_neg (by rw [hf.1]; exact Bool.false_ne_true)]
        rw [oneTypeOnly'_eq, List.mapM_toArray, map_eq_pure_bind]
        refine wpAny_bind (wpAny_bind (wpAny_bind (kas_mapM (r := Value.type "tuple") _ (fun v hv Q' hq => ?_) (wpAny_pure ?_))))
        · obtain ⟨d, hd, as, r⟩ := e.left v hv
          have h1 := ht d hd
          cases d with
          | tuple xs => exact (looks_reads r).here hq
          | _ => cases h1
        · obtain ⟨v₁, rest, rfl⟩ : ∃ v₁ rest, vs = v₁ :: rest := by
            cases vs with
            | nil => simp at h2
            | cons v r => exact ⟨v, r, rfl⟩
          have hall2 : ((List.map (fun _ => Value.type "tuple") (v₁ :: rest)).toArray.all fun x => x == Value.type "tuple") = true := by
            simp only [List.all_toArray, List.all_map, List.all_eq_true]
            intro _ _
            rfl
          have h00 : (List.map (fun _ => Value.type "tuple") (v₁ :: rest)).toArray[0]? = some (Value.type "tuple") := by simp
          rw [h00]
          simp only [hall2, if_true]
          refine wpAny_pure (wpAny_pure ?_)
          exact hq
end
end Jv
end
section
/-! dicts walked; sorted -/
namespace Jv
open PySem PySem.Spec L2 PyProof.Rows PySem.W
/-! ### for k in d -/
def Itn (a : Addr) (o : Obj) (ks : List Addr) : It where
  go := fun i H => H a = some (.ext (KoAt a o)) ∧ i < ks.length
  yld := fun i H v H' => H' = H ∧ ∃ k, ks[i]? = some k ∧ v = .ref k
  stop := fun i H => H a = some (.ext (KoAt a o)) ∧ ks.length ≤ i
theorem turn_n {P : Program} {w : World} {K : PySem.W.Frag} {tg : Expr} {a it : Addr} {o : Obj} {ks : List Addr} {es : Array DictEntry} {ep : Nat} (hd : o.data = .dict es ep) (hk : es.toList.map (·.key) = ks.map Value.ref) :
    Turn P w K tg (Itn a o ks) [it] it (fun i h => h.IsKeyIter it a i ks.length ep) where
  mem := by simp
  obj := fun i h st b hb => by
    have e : b = it := by simpa using hb
    subst e
    obtain ⟨oi, e, c, dd⟩ := st
    exact ⟨oi, e, fun v z => by rw [dd] at z; cases z⟩
  keep := fun i h h' st k => st.at fun oi e => k it (by simp) oi e
  item := by
    intro X hP hw hK hc i pins s σ H E I hf st hg
    obtain ⟨ha, hi⟩ := hg
    obtain ⟨f0, f1, f2, f3, f4, f5⟩ := hf it (by simp)
    have hsz : es.size = ks.length := by simpa using congrArg List.length hk
    have ho : s.heap.get? a = some o := (I.hok a _ ha).1
    obtain ⟨en, hen⟩ : ∃ en, es[i]? = some en := ⟨es[i]'(by omega), Array.getElem?_eq_getElem _⟩
    obtain ⟨k, hki⟩ : ∃ k, ks[i]? = some k := ⟨ks[i], List.getElem?_eq_getElem hi⟩
    have hkey : en.key = .ref k := by
      have e1 : (es.toList.map (·.key))[i]? = some en.key := by simp [hen]
      rw [hk, List.getElem?_map, hki] at e1
      simpa using e1.symm
    subst hP hw hK
    refine next_key_item st ho hd hsz hen fun h' st' sb => ?_
    have I1 : Inv X pins σ H { s with heap := h' } := I.turned (t' := s.toks) (fun b ob hb e => (sb.2 b hb).trans e) f0 f1 f3 f4 f5
    obtain ⟨oi, e, c, dd⟩ := id st'
    exact ⟨en.key, rfl, go_of (s := { s with heap := h' }) e c dd (by decide) ⟨.ref k, H, I1, hkey, ⟨rfl, k, hki, rfl⟩, st', fun b hb => (hf b hb).1⟩⟩
  done := by
    intro X hP hw hK hc i pins s σ H E I hf st hg
    obtain ⟨ha, hi⟩ := hg
    obtain ⟨f0, f1, f2, f3, f4, f5⟩ := hf it (by simp)
    have hsz : es.size = ks.length := by simpa using congrArg List.length hk
    have ho : s.heap.get? a = some o := (I.hok a _ ha).1
    subst hP hw hK
    exact next_key_end (I.ok.hd hc) st ho hd hsz hi fun h' eb => ⟨rfl, I.turned (t' := s.toks) (fun b ob hb e => eb b ob hb e) f0 f1 f3 f4 f5⟩
  self := fun A i s Q E st h => by
    refine wpAny_pyIter_slot st.typeIs F.slot_dict_keyiterator_iter (wpAny_call_entry F.slot_dict_keyiterator_iter st.typeIs F.entry_dict_keyiterator_iter ?_ (F.args_dict_keyiterator_iter_1 _))
    show wpAny _ _ (ret (.ref it)) _ _ s
    exact wpAny_pure ⟨_, rfl, "dict_keyiterator", _, st.typeIs, F.slot_dict_keyiterator_next.lookup, h⟩
def iKd (w : World) (te : TE) : TI := fun σ H R => te σ H fun x H1 => ∃ a o xs, x = .ref a ∧ H1 a = some (.ext (KoAt a o)) ∧ KdO w o xs ∧ (a == sysModules) = false ∧ R (Itn a o (xs.map (·.2.1))) H1
theorem pi_kd {X : Cx} {tg e : Expr} {te : TE} (he : PE X e te) : PI X tg e (iKd X.w te) := ⟨fun pins s σ H R I h => by
  refine thn (he.run pins s σ H _ I h) ?_
  rintro u s1 ⟨x, H1, I1, ru, a, o, xs, rfl, ha, ⟨es, ep, k1, k2, k3⟩, hs, q⟩
  cases ru
  have ho : s1.heap.get? a = some o := (I1.hok a _ ha).1
  have hk : es.toList.map (·.key) = (xs.map (·.2.1)).map Value.ref := by rw [k3]; simp [Function.comp_def]
  have hn : es.size = (xs.map (·.2.1)).length := by simpa using congrArg List.length hk
  exact iter_keys hs ho k1 k2 (pi_one (tk := s1.toks) I1 _ (turn_n k2 hk) ⟨_, Heap.get?_push_size _ rfl, rfl, by rw [hn]; rfl⟩ q)⟩
def itemsK (w : W) (st : Sto) : R (List D) := match w with
  | .v (.kd kvs) => .ok (kvs.map (·.1)) st
  | w => items w st
def itK (f : ED) : LD := fun env st => (f env st).bind itemsK
theorem itOk_kd {K : KW} {ρ : Rho} {H : Hp} {a : Addr} {o : Obj} {xs : List (NestedKey × Addr × Value)} {ds : List D} (h : H a = some (.ext (KoAt a o))) (n : ¬ ρ.mut a) (r : RlAll K ρ H (xs.map fun x => V.ref x.2.1) ds) : ItOk K (Itn a o (xs.map (·.2.1))) ρ H ds := by
  intro ρ' H' st g s
  obtain ⟨h', n'⟩ := g _ _ h n
  have r' := r.ext g
  have hl : (xs.map (·.2.1)).length = ds.length := by have := r.length; simpa using this
  refine ⟨fun i d e => ?_, h', Nat.le_of_eq hl⟩
  have hi : i < ds.length := (List.getElem?_eq_some_iff.mp e).1
  refine ⟨⟨h', by omega⟩, ?_⟩
  rintro x H2 ⟨rfl, k, hk, rfl⟩
  refine ⟨.refl _, ?_⟩
  obtain ⟨v, e1, rv⟩ := r'.getD e
  have : (xs.map fun x => V.ref x.2.1) = (xs.map (·.2.1)).map V.ref := by simp [Function.comp_def]
  rw [this, List.getElem?_map, hk] at e1
  cases e1
  exact rv
theorem di_k {X : Cx} {ct : Nat → Value} {E : St → XK} {tg e : Expr} {f : ED} (h : PE X e (tE X.kw ct E f)) : PI X tg e (iR X.kw ct E (itK f)) := PI.of (PI.or (pi_kd h) (di_e h)) fun σ H R' ⟨ρ, st, env, a, q⟩ => by
  cases ef : f env st with
  | exc x y => exact .inr ⟨ρ, st, env, a, by simp only [itK, itE, ef] at q ⊢; exact q⟩
  | bad => exact .inr ⟨ρ, st, env, a, by simp only [itK, itE, ef] at q ⊢; exact q⟩
  | ok w st1 =>
    by_cases hk : ∃ kvs, w = .v (.kd kvs)
    · obtain ⟨kvs, rfl⟩ := hk
      refine .inl ⟨ρ, st, env, a, ?_⟩
      rw [ef]
      intro ρ1 H1 b g1 s1 r1
      cases r1 with | v r1 =>
      cases r1 with
      | @kd p o xs vs _ hh n k m r =>
        obtain ⟨k0, k4, k5, k6, k7⟩ := k
        have hl : (xs.map fun x => V.ref x.2.1).length = (kvs.map (·.1)).length := by
          have := congrArg List.length k4
          simpa using this
        obtain ⟨ra, _⟩ := RlAll.apart hl r
        refine ⟨p, o, xs, rfl, hh, k0, m, ?_⟩
        simp only [itK, ef, R.bind_ok, itemsK] at q
        exact q ρ1 H1 _ g1 s1 (itOk_kd hh n ra)
    · refine .inr ⟨ρ, st, env, a, ?_⟩
      simp only [itK, itE, ef, R.bind_ok] at q ⊢
      have : itemsK w st1 = items w st1 := by
        unfold itemsK
        split
        · exact absurd ⟨_, rfl⟩ hk
        · rfl
      rw [this] at q
      exact q
/-! ### sorted -/
def notTup : PyData → Bool
  | .tuple _ => false
  | .none => false
  | _ => true
def keysOk2 (ks : List D) : Bool := alikes (ks.map D.py) && ((ks.map D.py).all isTup0 || (ks.map D.py).all notTup) && ks.all (fun k => decide (k.py.depth ≤ 60) && k.py.canLay0) && decide (ks.length ≤ 100000)
def unlike : List D → Bool
  | [] => true
  | k :: r => r.all (fun x => dataLt k.py x.py || dataLt x.py k.py) && unlike r
def sortL (ds : List D) : List D := isort (dataLe false D.py) ds
theorem sorts2 {prog : Program} {w : World} {A : Around} {s : Shared} {vs : List Value} {ks : List PyData} (e : EachIs (fun v d => ∃ as, Reads s.heap v d as) vs ks) (hal : AllAlike ks) (h : (ks.all isTup0 || ks.all notTup) = true) (hu : ∀ d, d ∈ ks → A.units + d.depth < cLine) : SortsAt prog w A s (dataKind s.heap ks) vs := by
  rw [Bool.or_eq_true] at h
  rcases h with h | h
  · exact sorts_tup0 e hal (fun d hd => List.all_eq_true.mp h d hd) hu
  · refine SortsAt.data e hal (.inr fun d hd => ?_) hu
    have h1 := List.all_eq_true.mp h d hd
    refine ⟨fun z => ?_, fun xs z => ?_⟩ <;> rw [z] at h1 <;> cases h1
theorem dataLe_total {β : Type} (k : β → PyData) : TotalLe (dataLe false k) := show TotalLe (dataLe false k) from sortLe_total _ _ _
section
variable {X : Cx} {pins : List (Addr × Obj)} {σ : St} {H : Hp} {s : Shared} {ρ : Rho}
theorem vals_each : ∀ {us : List Value} {bs : List (V × D)}, EachIs (fun u b => RelV b.1 u) us bs → Vals (bs.map (·.1)) us
  | _, _, .nil => .nil
  | _, _, .cons r t => .cons r (vals_each t)
theorem sortedV (I : Inv X pins σ H s) {x : Value} {Pm : List (V × D) → Prop} {Q : VK} (hu : X.A.units + 65 < cLine)
    (hb : ∀ bs, Pm bs → (∀ b ∈ bs, Rl X.kw ρ H b.1 b.2) ∧ keysOk2 (bs.map (·.2)) = true)
    (hcol : ∀ (R : List Value → Shared → Prop) (E : Value → Shared → Prop), (∀ s1 vs bs, Inv X pins σ H s1 → Pm bs → EachIs (fun u b => RelV b.1 u) vs bs → R vs s1) → wpAny (model X.prog X.w) X.A.in1 (collect x) R E s)
    (hQ : ∀ bs, Pm bs → ∀ p, H p = none → Q (.ref p) (upd H p (.lst ((bs.mergeSort (dataLe false fun b => b.2.py)).map (·.1))))) :
    wpAny (model X.prog X.w) X.A (call (.builtin "sorted") [x]) (EP X pins σ Q) X.xe s := by
  refine Calls.call_function_entry kind_sorted plain_sorted entry_sorted (args_sorted1 _) ?_
  unfold Builtin.«sorted»
  refine wpAny_bind (m := checkCount "sorted" 1 1 _) (wpAny_pure ?_)
  refine wpAny_bind (hcol _ _ fun s1 vs bs I1 pm e => ?_)
  obtain ⟨hr, ok⟩ := hb bs pm
  simp only [keysOk2, Bool.and_eq_true] at ok
  obtain ⟨⟨⟨o1, o2⟩, o3⟩, o4⟩ := ok
  have emap : (bs.map (·.2)).map D.py = bs.map fun b => b.2.py := by simp [Function.comp_def]
  rw [emap] at o1 o2
  have hlen : bs.length ≤ 100000 := by simpa using o4
  have hZ : vs.length ≤ sizeLine := by rw [e.length]; exact sl5 hlen
  refine wpAny_bind (wpAny_newList ?_ hZ)
  have hoL : (s1.heap.push (seqObj "list" vs.toArray 0)).get? s1.heap.objs.size = some (seqObj "list" vs.toArray 0) := Heap.get?_push_size _ rfl
  have kp : ∀ b o, s1.heap.get? b = some o → (sortingHeap (s1.heap.push (seqObj "list" vs.toArray 0)) s1.heap.objs.size vs).get? b = some o := fun b o q => sortingHeap_old (Nat.ne_of_lt (Heap.lt_size q)) (Heap.get?_push_of_some _ q)
  have d60 : ∀ b ∈ bs, b.2.py.depth ≤ 60 ∧ b.2.py.canLay0 = true := fun b hb => by
    have := List.all_eq_true.mp o3 b.2 (List.mem_map.mpr ⟨b, hb, rfl⟩)
    simpa using this
  have er : EachIs (fun v (b : V × D) => ∃ as, Reads (sortingHeap (s1.heap.push (seqObj "list" vs.toArray 0)) s1.heap.objs.size vs) v b.2.py as) vs bs :=
    (each_mem e).mono fun u b ⟨ru, hb⟩ => by
      obtain ⟨as, r⟩ := Dp.reads I1 _ _ _ ((hr b hb).dp (d60 b hb).2) ru
      exact ⟨as, PyProof.Rows.Reads.keeps kp r⟩
  have hal : AllAlike (bs.map fun b => b.2.py) := alikes_of o1
  refine wpAny_bind (wpAny_holding (wpAny_call_entry slot_list_sort ⟨_, hoL, rfl⟩ entry_list_sort (list_sort_vals (s := { s1 with heap := s1.heap.push (seqObj "list" vs.toArray 0) }) (κ := dataKind (sortingHeap (s1.heap.push (seqObj "list" vs.toArray 0)) s1.heap.objs.size vs) (bs.map fun b => b.2.py)) hoL
    (sorts2 (s := { s1 with heap := sortingHeap (s1.heap.push (seqObj "list" vs.toArray 0)) s1.heap.objs.size vs }) (each_map (R := fun v d => ∃ as, Reads (sortingHeap (s1.heap.push (seqObj "list" vs.toArray 0)) s1.heap.objs.size vs) v d as) (fun b : V × D => b.2.py) er) hal o2 ?_) hZ ⟨.none, rfl, ?_⟩) (args_list_sort _)))
  · intro d hd
    obtain ⟨b, hb, rfl⟩ := List.mem_map.mp hd
    have := (d60 b hb).1
    simp only [Around.in1_units]
    omega
  have eo := sortVals_data false e er hal
  generalize sortVals (dataKind (sortingHeap (s1.heap.push (seqObj "list" vs.toArray 0)) s1.heap.objs.size vs) (bs.map fun b => b.2.py)) false vs vs = out at eo
  obtain ⟨c, hc⟩ := sortedHeap_at (vs := vs) (out := out.toArray) hoL
  have vo := vals_each eo
  have hlo : ((bs.mergeSort (dataLe false fun b => b.2.py)).map (·.1)).length ≤ sizeLine := by
    rw [List.length_map, List.length_mergeSort]
    exact sl5 hlen
  refine wpAny_pure ⟨_, rfl, .ref s1.heap.objs.size, upd H s1.heap.objs.size (.lst ((bs.mergeSort (dataLe false fun b => b.2.py)).map (·.1))), I1.laid (t' := s1.toks) (fun b u q => ?_) (Nat.le_refl _) ⟨hlo, out, c, vo, hc⟩, rfl, hQ bs pm _ (I1.hok.fresh (Nat.le_refl _))⟩
  have hlt := Heap.lt_size q
  show (sortedHeap (s1.heap.push (seqObj "list" vs.toArray 0)) s1.heap.objs.size vs out.toArray).get? b = some u
  rw [sortedHeap_old (Nat.ne_of_lt hlt) (by rw [size_push']; exact Nat.lt_succ_of_lt hlt)]
  exact Heap.get?_push_of_some _ q
end
/-- unlike ones have one order -/
theorem filter_one {α : Type} {le : α → α → Bool} (h : TotalLe le) (c : α) : ∀ {l : List α}, l.Pairwise (fun a b => sameRank le a b = false) → (l.filter (sameRank le c)).length ≤ 1
  | [], _ => by simp
  | a :: l, p => by
    obtain ⟨p1, p2⟩ := List.pairwise_cons.mp p
    have ih := filter_one h c p2
    rw [List.filter_cons]
    split
    · rename_i ca
      have : l.filter (sameRank le c) = [] := by
        rw [List.filter_eq_nil_iff]
        intro b hb cb
        have := p1 b hb
        simp only [sameRank, Bool.and_eq_true] at ca cb
        have e : sameRank le a b = true := by
          simp only [sameRank, Bool.and_eq_true]
          exact ⟨h.trans _ _ _ ca.2 cb.1, h.trans _ _ _ cb.2 ca.1⟩
        rw [e] at this
        cases this
      simp [this]
    · exact ih
theorem perm_short {α : Type} {l m : List α} (p : l.Perm m) (h : l.length ≤ 1) : l = m := by
  have e := p.length_eq
  match l, m, h, e, p with
  | [], [], _, _, _ => rfl
  | [a], [b], _, _, p =>
    have := p.mem_iff.mp (List.mem_singleton.mpr rfl)
    rw [List.mem_singleton.mp this]
theorem sort_perm {α : Type} {le : α → α → Bool} (h : TotalLe le) {l m : List α} (p : m.Perm l) (u : l.Pairwise (fun a b => sameRank le a b = false)) : m.mergeSort le = l.mergeSort le := by
  refine sort_unique h (sort_pairwise h m) fun c => ?_
  rw [sort_stable h m c]
  exact (perm_short (p.filter _).symm (filter_one h c u)).symm
theorem unlike_pw {bs : List (V × D)} (h : unlike (bs.map (·.2)) = true) : bs.Pairwise fun a b => sameRank (dataLe false fun b : V × D => b.2.py) a b = false := by
  induction bs with
  | nil => exact .nil
  | cons a bs ih =>
    simp only [List.map_cons, unlike, Bool.and_eq_true] at h
    refine List.pairwise_cons.mpr ⟨fun b hb => ?_, ih h.2⟩
    have := List.all_eq_true.mp h.1 b.2 (List.mem_map.mpr ⟨b, hb, rfl⟩)
    rw [Bool.or_eq_true] at this
    simp only [sameRank, dataLe_eq, cond_false]
    rcases this with z | z <;> simp [z]
theorem sortL_pairs {xs : List V} {ds : List D} (hl : xs.length = ds.length) : ((xs.zip ds).mergeSort (dataLe false fun b => b.2.py)).map (·.2) = sortL ds := by
  unfold sortL
  rw [isort_eq (dataLe_total _), sort_maps (r := dataLe false fun b : V × D => b.2.py) (s := dataLe false D.py) (·.2) (fun a _ b _ => rfl), List.map_snd_zip (by omega)]
theorem RlAll.ofPairs {K : KW} {ρ : Rho} {H : Hp} : ∀ {bs : List (V × D)}, (∀ b ∈ bs, Rl K ρ H b.1 b.2) → RlAll K ρ H (bs.map (·.1)) (bs.map (·.2))
  | [], _ => .nil
  | b :: bs, h => .cons (h b List.mem_cons_self) (RlAll.ofPairs fun x hx => h x (List.mem_cons_of_mem _ hx))
theorem RlAll.pairs {K : KW} {ρ : Rho} {H : Hp} : ∀ {xs : List V} {ds : List D}, RlAll K ρ H xs ds → ∀ b ∈ xs.zip ds, Rl K ρ H b.1 b.2
  | _, _, .nil, b, hb => by simp at hb
  | _, _, .cons r t, b, hb => by
    rcases List.mem_cons.mp (by simpa using hb) with rfl | hb
    · exact r
    · exact RlAll.pairs t b hb
theorem each_zip : ∀ {xs : List V} {us : List Value} {ds : List D}, Vals xs us → xs.length = ds.length → EachIs (fun u (b : V × D) => RelV b.1 u) us (xs.zip ds)
  | [], _, [], .nil, _ => .nil
  | x :: xs, _, d :: ds, .cons r t, e => .cons r (each_zip t (by simpa using e))
theorem inv_after {X : Cx} {pins : List (Addr × Obj)} {σ : St} {H : Hp} {s s' : Shared} (I : Inv X pins σ H s) (k : ∀ b o, s.heap.get? b = some o → s'.heap.get? b = some o) (g : s'.gens = s.gens) (o : s'.os = s.os) : Inv X pins σ H s' :=
  I.call' (ch := []) o (Un.kept k) (I.hok.kept k) (by rw [g]; exact I.bare) (fun _ z => nomatch z)
/-- what sorted is asked of, and whether its order is nobody's -/
def sortSrc (st : Sto) : W → Option (List D × Bool)
  | .v (.kd kvs) => some (kvs.map (·.1), false)
  | .r l => match st[l]? with
    | some (.set ds) => some (ds, true)
    | some (.lst ds) => some (ds, false)
    | some (.kd kvs) => some (kvs.map (·.1), false)
    | _ => none
  | .v (.lst ds) => some (ds, false)
  | _ => none
def sortF : BF
  | st, [w] => (sortSrc st w).bind fun p => if keysOk2 p.1 && (!p.2 || unlike p.1) then some (sortL p.1) else none
  | _, _ => none
section
variable {X : Cx}
theorem sort_end {K : KW} {ρ : Rho} {H : Hp} {xs : List V} {ds : List D} (r : RlAll K ρ H xs ds) : RlAll K ρ H (((xs.zip ds).mergeSort (dataLe false fun b => b.2.py)).map (·.1)) (sortL ds) := by
  rw [← sortL_pairs r.length]
  exact RlAll.ofPairs fun b hb => r.pairs b ((List.mergeSort_perm _ _).mem_iff.mp hb)
theorem vals_rows : ∀ (xs : List (NestedKey × Addr × Value)), Vals (xs.map fun x => V.ref x.2.1) (xs.map fun x => Value.ref x.2.1)
  | [] => .nil
  | _ :: xs => .cons rfl (vals_rows xs)
theorem vals_mem : ∀ (xs : NS.Mem), Vals (xs.map fun x => V.ref x.1) (xs.map fun x => Value.ref x.1)
  | [] => .nil
  | _ :: xs => .cons rfl (vals_mem xs)
theorem each_perm {β : Type} {R : Value → β → Prop} {out us : List Value} (p : out.Perm us) : ∀ {bs : List β}, EachIs R us bs → ∃ bs', bs'.Perm bs ∧ EachIs R out bs' := by
  induction p with
  | nil => intro bs e; exact ⟨bs, .refl _, e⟩
  | cons x _ ih =>
    intro bs e
    cases e with
    | cons r t =>
      obtain ⟨bs', p', e'⟩ := ih t
      exact ⟨_ :: bs', p'.cons _, .cons r e'⟩
  | swap x y l =>
    intro bs e
    cases e with
    | cons r t =>
      cases t with
      | cons r2 t2 => exact ⟨_ :: _ :: _, .swap _ _ _, .cons r2 (.cons r t2)⟩
  | trans _ _ ih1 ih2 =>
    intro bs e
    obtain ⟨b1, p1, e1⟩ := ih2 e
    obtain ⟨b2, p2, e2⟩ := ih1 e1
    exact ⟨b2, p2.trans p1, e2⟩
theorem zip_snd {xs : List V} {ds : List D} (h : xs.length = ds.length) : (xs.zip ds).map (·.2) = ds := List.map_snd_zip (by omega)
theorem cf_sorted (hc : X.calm = true) (hu : X.A.units + 65 < cLine) : CallR X (.builtin "sorted") (rF X.kw sortF) := by
  intro pins s σ H vs us Q I r h
  obtain ⟨ρ, st, ws, ds, rs, rw', e, q⟩ := h
  have one : ∃ w, ws = [w] := by
    match ws, e with
    | [w], _ => exact ⟨w, rfl⟩
    | [], e => cases e
    | _ :: _ :: _, e => cases e
  obtain ⟨w, rfl⟩ := one
  obtain ⟨v, rfl, rv⟩ := rw'.one
  simp only [sortF] at e
  cases es : sortSrc st w with
  | none => rw [es] at e; cases e
  | some pr =>
  obtain ⟨ds0, fl⟩ := pr
  rw [es] at e
  simp only [Option.bind_some] at e
  split at e
  rotate_left
  · cases e
  rename_i c
  cases e
  rw [Bool.and_eq_true] at c
  -- a list
  have list : ∀ {a : Addr} {xs : List V}, v = .ref a → SqL X.K H a xs → RlAll X.kw ρ H xs ds0 → wpAny (model X.prog X.w) X.A (call (.builtin "sorted") us) (EP X pins σ Q) X.xe s := fun {a xs} ev hs hr => by
    subst ev
    rw [Vals.ref1 r]
    obtain ⟨its, ri, hl, hz⟩ := I.list hs
    refine sortedV (ρ := ρ) (Pm := fun bs => bs = xs.zip ds0) I hu (fun bs e => ?_) (fun R E k => ?_) fun bs e p hp => ?_
    · subst e; exact ⟨hr.pairs, by rw [zip_snd hr.length]; exact c.1⟩
    · refine collect_list hl.isList ?_ (by rw [← ri.length]; exact hz)
      refine k _ _ _ (inv_after I (fun b o q => ?_) rfl rfl) rfl (each_zip ri hr.length)
      have hlt := Heap.lt_size q
      show ((s.heap.push (seqObj "list" #[] 0)).update s.heap.objs.size _).get? b = some o
      rw [Heap.get?_update_ne _ _ _ _ (Nat.ne_of_lt hlt)]
      exact Heap.get?_push_of_some _ q
    · subst e; exact q _ _ hp (sort_end hr)
  -- a dict
  have dict : ∀ {kvs : List (D × D)}, asKd st w = some kvs → ds0 = kvs.map (·.1) → wpAny (model X.prog X.w) X.A (call (.builtin "sorted") us) (EP X pins σ Q) X.xe s := fun {kvs} ek ed => by
    subst ed
    obtain ⟨a, xs, ev, h2, h3, h4⟩ := kd_of I rs rv ek
    subst ev
    rw [Vals.ref1 r]
    obtain ⟨vs', k1, k2, k3, k4⟩ := h2.rows
    obtain ⟨o, es', ep, e1, e2, e3, e4, e5, e6⟩ := id h3
    have hk : es'.toList.map (·.key) = xs.map fun x => Value.ref x.2.1 := by rw [e4]; simp [entryOfKey, Function.comp_def]
    have hn : es'.size = xs.length := by simpa using congrArg List.length hk
    have hlk : (xs.map fun x => V.ref x.2.1).length = (kvs.map (·.1)).length := k3.length
    have small : es'.size ≤ sizeLine := by
      have := c.1
      simp only [keysOk2, Bool.and_eq_true, decide_eq_true_eq] at this
      have h := this.2
      rw [hn]
      have : xs.length = kvs.length := by simpa using hlk
      rw [this]
      exact sl5 (by simpa using h)
    refine sortedV (ρ := ρ) (Pm := fun bs => bs = (xs.map fun x => V.ref x.2.1).zip (kvs.map (·.1))) I hu (fun bs e => ?_) (fun R E k => ?_) fun bs e p hp => ?_
    · subst e; exact ⟨k3.pairs, by rw [zip_snd hlk]; exact c.1⟩
    · refine kdu_collect (KdlSrc.rawDict (es := es') (ep := ep) h4) (I.ok.hd hc) ⟨o, e1, e2, e3⟩ small fun h' tk acc kp it => ?_
      have hacc : acc.toList = xs.map fun x => Value.ref x.2.1 := by
        rw [← hk]
        apply List.ext_getElem?
        intro j
        by_cases hj : j < es'.size
        · have hja : j < acc.size := by rw [it.1]; exact hj
          obtain ⟨_, hv⟩ := it.2 j acc[j] (Array.getElem?_eq_getElem hja)
          simp [hja, hj, hv]
        · rw [List.getElem?_eq_none (by simp [it.1]; omega), List.getElem?_eq_none (by simp; omega)]
      rw [hacc]
      exact k _ _ _ (inv_after I kp rfl rfl) rfl (each_zip (vals_rows xs) hlk)
    · subst e; exact q _ _ hp (sort_end k3)
  cases w with
  | v d =>
    cases d with
    | kd kvs => cases es; exact dict rfl rfl
    | lst ds' =>
      cases es
      cases rv with | v rv =>
      cases rv with
      | lst hh rr => exact list rfl hh.sql rr
    | _ => cases es
  | r l =>
    simp only [sortSrc] at es
    split at es
    · rename_i dsx he
      cases es
      rcases rs.obj l _ he with ⟨z, _⟩ | ⟨a, ha, ob⟩
      · cases z
      obtain ⟨L0, h1, h2, h3, h4⟩ := ob
      cases rv with | r hl hv =>
      have ev := hv a ha
      subst ev
      rw [Vals.ref1 r]
      obtain ⟨⟨L, es0, ep, t, pm, R⟩, _, _⟩ := I.hok a _ h1
      obtain ⟨ob, eo, ec, ed⟩ := R.ob
      have hl0 : (L0.map fun p => V.ref p.1).length = ds0.length := h2.length
      refine sortedV (ρ := ρ) (Pm := fun bs => bs.Perm ((L0.map fun p => V.ref p.1).zip ds0)) I hu (fun bs e => ?_) (fun R' E k => ?_) fun bs e p hp => ?_
      · refine ⟨fun b hb => h2.pairs b (e.mem_iff.mp hb), ?_⟩
        have pm2 : (bs.map (·.2)).Perm ds0 := by
          have := e.map (·.2)
          rwa [zip_snd hl0] at this
        have c1 := c.1
        simp only [keysOk2, Bool.and_eq_true, decide_eq_true_eq] at c1 ⊢
        have pm3 := pm2.map D.py
        refine ⟨⟨⟨?_, ?_⟩, ?_⟩, by rw [pm2.length_eq]; exact c1.2⟩
        · refine List.all_eq_true.mpr fun x hx => List.all_eq_true.mpr fun y hy => ?_
          exact alikes_of c1.1.1.1 x (pm3.mem_iff.mp hx) y (pm3.mem_iff.mp hy)
        · have := c1.1.1.2
          rw [Bool.or_eq_true] at this ⊢
          exact this.imp (fun z => List.all_eq_true.mpr fun x hx => List.all_eq_true.mp z x (pm3.mem_iff.mp hx)) fun z => List.all_eq_true.mpr fun x hx => List.all_eq_true.mp z x (pm3.mem_iff.mp hx)
        · exact List.all_eq_true.mpr fun x hx => List.all_eq_true.mp c1.1.2 x (pm2.mem_iff.mp hx)
      · refine collect_set (A := X.A.in1) (I.ok.hd hc) ⟨ob, eo, ec.1, ed⟩ R.fits (by have := R.fw; rw [R.size]; unfold scanBound; omega) R.tb.ris R.ld fun s1 out k1 hz g1 o1 po => ?_
        have hes : es0.toList.map (·.2) = L.map fun q => Value.ref q.1 := by
          rw [R.rw]
          simp [NS.rows, Function.comp_def]
        rw [hes] at po
        obtain ⟨bs, pb, eb⟩ := each_perm (po.trans (pm.map fun q => Value.ref q.1)) (each_zip (vals_mem L0) hl0)
        exact k s1 _ bs (inv_after I k1 g1 o1) pb eb
      · have u := unlike_pw (bs := (L0.map fun p => V.ref p.1).zip ds0) (by rw [zip_snd hl0]; simpa using c.2)
        rw [sort_perm (dataLe_total _) e u]
        exact q _ _ hp (sort_end h2)
    · rename_i ds' he
      cases es
      obtain ⟨a, xs, ev, h1, h2⟩ := lst_of rs rv (show asLst st (.r l) = some ds0 by simp only [asLst, he])
      exact list ev h1 h2
    · rename_i kvs he
      cases es
      exact dict (show asKd st (.r l) = some kvs by simp only [asKd, he]) rfl
    · cases es
end
end Jv
end
section
/-! list comprehensions of several clauses -/
namespace Jv
open PySem PySem.Spec L2 PyProof.Rows PySem.W
def stpList (elt : Expr) : Stp := fun D env => do
  let _ ← call (.builtin "list.append") [.ref D, ← eval elt env]
def stpInN (d : Nat) (E0 iter1 : Expr) : Stp := fun D env => do
  let x ← eval iter1 env
  standAt iter1.pos
  let x ← foldedSetIterable iter1 env x
  let _ ← runOwn (.compStart E0 d (← holding [x] (pyIter x)) (.ref D) env) env
theorem loop_l20 {elt tg0 iter0 tg1 iter1 : Expr} {ifs0 ifs1 : List Expr} {scope : Scope} {pos : Pos} : LoopOk (.ListComp elt [⟨tg0, iter0, ifs0, 0⟩, ⟨tg1, iter1, ifs1, 0⟩] scope pos) 0 tg0 ifs0 (stpInN 1 (.ListComp elt [⟨tg0, iter0, ifs0, 0⟩, ⟨tg1, iter1, ifs1, 0⟩] scope pos) iter1) where
  loop := by
    intro P w A R s it D env I turn n h
    refine codeAny_loop rfl I (fun n s hI => ?_) n h
    show wpAny _ A ((compTurn (.ListComp elt [⟨tg0, iter0, ifs0, 0⟩, ⟨tg1, iter1, ifs1, 0⟩] scope pos) 0 it (.ref D) env).onRaise (fun x => do noteFrame x env; theTreesLotGoes x)) _ _ s
    refine wpAny_noted ?_
    have e : compTurn (.ListComp elt [⟨tg0, iter0, ifs0, 0⟩, ⟨tg1, iter1, ifs1, 0⟩] scope pos) 0 it (.ref D) env = (do
      standAt iter0.pos
      match ← pyNext it with
      | none => pure (.done .next)
      | some v =>
        letOwnedTupleGo tg0 it v
        assign tg0 env v
        let ok ← Tests ifs0 env
        if ok then
          let x ← eval iter1 env
          standAt iter1.pos
          let x ← foldedSetIterable iter1 env x
          let _ ← runOwn (.compStart (.ListComp elt [⟨tg0, iter0, ifs0, 0⟩, ⟨tg1, iter1, ifs1, 0⟩] scope pos) 1 (← holding [x] (pyIter x)) (.ref D) env) env
        again (.compLoop (.ListComp elt [⟨tg0, iter0, ifs0, 0⟩, ⟨tg1, iter1, ifs1, 0⟩] scope pos) 0 it (.ref D) env)) := by rfl
    rw [e]
    refine wpAny_bind (wpAny_standAt (wpAny_bind (wpF (turn n s hI) fun r s₁ h₁ => ?_)))
    cases r with
    | none => exact wpAny_pure h₁
    | some v =>
      refine wpAny_bind (wpF h₁ fun _ s₂ h₂ => wpAny_bind (wpF h₂ fun _ s₃ h₃ => wpAny_bind (wpF h₃ fun ok s₄ h₄ => ?_)))
      cases ok with
      | false => exact wpAny_pure ⟨rfl, h₄⟩
      | true =>
        simp only [if_true] at h₄ ⊢
        suffices h₆ : wpAny (model P w) A ((stpInN 1 (.ListComp elt [⟨tg0, iter0, ifs0, 0⟩, ⟨tg1, iter1, ifs1, 0⟩] scope pos) iter1) D env >>= fun _ => again (.compLoop (.ListComp elt [⟨tg0, iter0, ifs0, 0⟩, ⟨tg1, iter1, ifs1, 0⟩] scope pos) 0 it (.ref D) env)) _ _ s₄ by
          unfold stpInN at h₆
          simp only [bind_assoc, pure_bind] at h₆ ⊢
          exact h₆
        exact wpAny_bind (wpF h₄ fun _ s₅ h₅ => wpAny_pure ⟨rfl, h₅⟩)
  start := fun h0 h => codeAny_compStart_list h0 h
theorem loop_l21 {elt tg0 iter0 tg1 iter1 : Expr} {ifs0 ifs1 : List Expr} {scope : Scope} {pos : Pos} : LoopOk (.ListComp elt [⟨tg0, iter0, ifs0, 0⟩, ⟨tg1, iter1, ifs1, 0⟩] scope pos) 1 tg1 ifs1 (stpList elt) where
  loop := by
    intro P w A R s it D env I turn n h
    refine codeAny_loop rfl I (fun n s hI => ?_) n h
    show wpAny _ A ((compTurn (.ListComp elt [⟨tg0, iter0, ifs0, 0⟩, ⟨tg1, iter1, ifs1, 0⟩] scope pos) 1 it (.ref D) env).onRaise (fun x => do noteFrame x env; theTreesLotGoes x)) _ _ s
    refine wpAny_noted ?_
    have e : compTurn (.ListComp elt [⟨tg0, iter0, ifs0, 0⟩, ⟨tg1, iter1, ifs1, 0⟩] scope pos) 1 it (.ref D) env = (do
      standAt iter1.pos
      match ← pyNext it with
      | none => pure (.done .next)
      | some v =>
        letOwnedTupleGo tg1 it v
        assign tg1 env v
        let ok ← Tests ifs1 env
        if ok then
          stpList elt D env
        again (.compLoop (.ListComp elt [⟨tg0, iter0, ifs0, 0⟩, ⟨tg1, iter1, ifs1, 0⟩] scope pos) 1 it (.ref D) env)) := by rfl
    rw [e]
    refine wpAny_bind (wpAny_standAt (wpAny_bind (wpF (turn n s hI) fun r s₁ h₁ => ?_)))
    cases r with
    | none => exact wpAny_pure h₁
    | some v =>
      refine wpAny_bind (wpF h₁ fun _ s₂ h₂ => wpAny_bind (wpF h₂ fun _ s₃ h₃ => wpAny_bind (wpF h₃ fun ok s₄ h₄ => ?_)))
      cases ok with
      | false => exact wpAny_pure ⟨rfl, h₄⟩
      | true => exact wpAny_bind (wpF h₄ fun _ s₅ h₅ => wpAny_pure ⟨rfl, h₅⟩)
  start := by
    intro P w A R s it D env h0 h
    refine codeAny_of_tree ?_
    show wpAny _ _ ((compStart (.ListComp elt [⟨tg0, iter0, ifs0, 0⟩, ⟨tg1, iter1, ifs1, 0⟩] scope pos) 1 it (.ref D) env).onRaise (fun x => do noteFrame x env; standAt theWindowsPlace)) _ _ s
    refine wpAny_notedAt ?_
    unfold compStart
    show wpAny _ _ (ask >>= _) _ _ s
    refine wpAny_bind (wpAny_askSetting (wpAny_ite ?_))
    split
    · first
        | exact wpAny_bind (wpAny_pure (wpAny_pure (And.intro rfl h0)))
        | exact wpAny_pure (And.intro rfl h0)
    · first
        | exact wpAny_bind (wpAny_rule (wpAny_bind (wpAny_standAt (wpAny_bind (wpAny_mono h (fun it' s' h' => wpAny_pure (And.intro rfl h')) fun _ _ x => x)))))
        | (refine wpAny_bind (wpAny_rule ?_); show wpAny _ _ (standAt iter1.pos >>= _) _ _ s; exact wpAny_bind (wpAny_standAt (wpAny_bind (wpAny_mono h (fun it' s' h' => wpAny_pure (And.intro rfl h')) fun _ _ x => x))))
theorem loop_l30 {elt tg0 iter0 tg1 iter1 tg2 iter2 : Expr} {ifs0 ifs1 ifs2 : List Expr} {scope : Scope} {pos : Pos} : LoopOk (.ListComp elt [⟨tg0, iter0, ifs0, 0⟩, ⟨tg1, iter1, ifs1, 0⟩, ⟨tg2, iter2, ifs2, 0⟩] scope pos) 0 tg0 ifs0 (stpInN 1 (.ListComp elt [⟨tg0, iter0, ifs0, 0⟩, ⟨tg1, iter1, ifs1, 0⟩, ⟨tg2, iter2, ifs2, 0⟩] scope pos) iter1) where
  loop := by
    intro P w A R s it D env I turn n h
    refine codeAny_loop rfl I (fun n s hI => ?_) n h
    show wpAny _ A ((compTurn (.ListComp elt [⟨tg0, iter0, ifs0, 0⟩, ⟨tg1, iter1, ifs1, 0⟩, ⟨tg2, iter2, ifs2, 0⟩] scope pos) 0 it (.ref D) env).onRaise (fun x => do noteFrame x env; theTreesLotGoes x)) _ _ s
    refine wpAny_noted ?_
    have e : compTurn (.ListComp elt [⟨tg0, iter0, ifs0, 0⟩, ⟨tg1, iter1, ifs1, 0⟩, ⟨tg2, iter2, ifs2, 0⟩] scope pos) 0 it (.ref D) env = (do
      standAt iter0.pos
      match ← pyNext it with
      | none => pure (.done .next)
      | some v =>
        letOwnedTupleGo tg0 it v
        assign tg0 env v
        let ok ← Tests ifs0 env
        if ok then
          let x ← eval iter1 env
          standAt iter1.pos
          let x ← foldedSetIterable iter1 env x
          let _ ← runOwn (.compStart (.ListComp elt [⟨tg0, iter0, ifs0, 0⟩, ⟨tg1, iter1, ifs1, 0⟩, ⟨tg2, iter2, ifs2, 0⟩] scope pos) 1 (← holding [x] (pyIter x)) (.ref D) env) env
        again (.compLoop (.ListComp elt [⟨tg0, iter0, ifs0, 0⟩, ⟨tg1, iter1, ifs1, 0⟩, ⟨tg2, iter2, ifs2, 0⟩] scope pos) 0 it (.ref D) env)) := by rfl
    rw [e]
    refine wpAny_bind (wpAny_standAt (wpAny_bind (wpF (turn n s hI) fun r s₁ h₁ => ?_)))
    cases r with
    | none => exact wpAny_pure h₁
    | some v =>
      refine wpAny_bind (wpF h₁ fun _ s₂ h₂ => wpAny_bind (wpF h₂ fun _ s₃ h₃ => wpAny_bind (wpF h₃ fun ok s₄ h₄ => ?_)))
      cases ok with
      | false => exact wpAny_pure ⟨rfl, h₄⟩
      | true =>
        simp only [if_true] at h₄ ⊢
        suffices h₆ : wpAny (model P w) A ((stpInN 1 (.ListComp elt [⟨tg0, iter0, ifs0, 0⟩, ⟨tg1, iter1, ifs1, 0⟩, ⟨tg2, iter2, ifs2, 0⟩] scope pos) iter1) D env >>= fun _ => again (.compLoop (.ListComp elt [⟨tg0, iter0, ifs0, 0⟩, ⟨tg1, iter1, ifs1, 0⟩, ⟨tg2, iter2, ifs2, 0⟩] scope pos) 0 it (.ref D) env)) _ _ s₄ by
          unfold stpInN at h₆
          simp only [bind_assoc, pure_bind] at h₆ ⊢
          exact h₆
        exact wpAny_bind (wpF h₄ fun _ s₅ h₅ => wpAny_pure ⟨rfl, h₅⟩)
  start := fun h0 h => codeAny_compStart_list h0 h
theorem loop_l31 {elt tg0 iter0 tg1 iter1 tg2 iter2 : Expr} {ifs0 ifs1 ifs2 : List Expr} {scope : Scope} {pos : Pos} : LoopOk (.ListComp elt [⟨tg0, iter0, ifs0, 0⟩, ⟨tg1, iter1, ifs1, 0⟩, ⟨tg2, iter2, ifs2, 0⟩] scope pos) 1 tg1 ifs1 (stpInN 2 (.ListComp elt [⟨tg0, iter0, ifs0, 0⟩, ⟨tg1, iter1, ifs1, 0⟩, ⟨tg2, iter2, ifs2, 0⟩] scope pos) iter2) where
  loop := by
    intro P w A R s it D env I turn n h
    refine codeAny_loop rfl I (fun n s hI => ?_) n h
    show wpAny _ A ((compTurn (.ListComp elt [⟨tg0, iter0, ifs0, 0⟩, ⟨tg1, iter1, ifs1, 0⟩, ⟨tg2, iter2, ifs2, 0⟩] scope pos) 1 it (.ref D) env).onRaise (fun x => do noteFrame x env; theTreesLotGoes x)) _ _ s
    refine wpAny_noted ?_
    have e : compTurn (.ListComp elt [⟨tg0, iter0, ifs0, 0⟩, ⟨tg1, iter1, ifs1, 0⟩, ⟨tg2, iter2, ifs2, 0⟩] scope pos) 1 it (.ref D) env = (do
      standAt iter1.pos
      match ← pyNext it with
      | none => pure (.done .next)
      | some v =>
        letOwnedTupleGo tg1 it v
        assign tg1 env v
        let ok ← Tests ifs1 env
        if ok then
          let x ← eval iter2 env
          standAt iter2.pos
          let x ← foldedSetIterable iter2 env x
          let _ ← runOwn (.compStart (.ListComp elt [⟨tg0, iter0, ifs0, 0⟩, ⟨tg1, iter1, ifs1, 0⟩, ⟨tg2, iter2, ifs2, 0⟩] scope pos) 2 (← holding [x] (pyIter x)) (.ref D) env) env
        again (.compLoop (.ListComp elt [⟨tg0, iter0, ifs0, 0⟩, ⟨tg1, iter1, ifs1, 0⟩, ⟨tg2, iter2, ifs2, 0⟩] scope pos) 1 it (.ref D) env)) := by rfl
    rw [e]
    refine wpAny_bind (wpAny_standAt (wpAny_bind (wpF (turn n s hI) fun r s₁ h₁ => ?_)))
    cases r with
    | none => exact wpAny_pure h₁
    | some v =>
      refine wpAny_bind (wpF h₁ fun _ s₂ h₂ => wpAny_bind (wpF h₂ fun _ s₃ h₃ => wpAny_bind (wpF h₃ fun ok s₄ h₄ => ?_)))
      cases ok with
      | false => exact wpAny_pure ⟨rfl, h₄⟩
      | true =>
        simp only [if_true] at h₄ ⊢
        suffices h₆ : wpAny (model P w) A ((stpInN 2 (.ListComp elt [⟨tg0, iter0, ifs0, 0⟩, ⟨tg1, iter1, ifs1, 0⟩, ⟨tg2, iter2, ifs2, 0⟩] scope pos) iter2) D env >>= fun _ => again (.compLoop (.ListComp elt [⟨tg0, iter0, ifs0, 0⟩, ⟨tg1, iter1, ifs1, 0⟩, ⟨tg2, iter2, ifs2, 0⟩] scope pos) 1 it (.ref D) env)) _ _ s₄ by
          unfold stpInN at h₆
          simp only [bind_assoc, pure_bind] at h₆ ⊢
          exact h₆
        exact wpAny_bind (wpF h₄ fun _ s₅ h₅ => wpAny_pure ⟨rfl, h₅⟩)
  start := by
    intro P w A R s it D env h0 h
    refine codeAny_of_tree ?_
    show wpAny _ _ ((compStart (.ListComp elt [⟨tg0, iter0, ifs0, 0⟩, ⟨tg1, iter1, ifs1, 0⟩, ⟨tg2, iter2, ifs2, 0⟩] scope pos) 1 it (.ref D) env).onRaise (fun x => do noteFrame x env; standAt theWindowsPlace)) _ _ s
    refine wpAny_notedAt ?_
    unfold compStart
    show wpAny _ _ (ask >>= _) _ _ s
    refine wpAny_bind (wpAny_askSetting (wpAny_ite ?_))
    split
    · first
        | exact wpAny_bind (wpAny_pure (wpAny_pure (And.intro rfl h0)))
        | exact wpAny_pure (And.intro rfl h0)
    · first
        | exact wpAny_bind (wpAny_rule (wpAny_bind (wpAny_standAt (wpAny_bind (wpAny_mono h (fun it' s' h' => wpAny_pure (And.intro rfl h')) fun _ _ x => x)))))
        | (refine wpAny_bind (wpAny_rule ?_); show wpAny _ _ (standAt iter1.pos >>= _) _ _ s; exact wpAny_bind (wpAny_standAt (wpAny_bind (wpAny_mono h (fun it' s' h' => wpAny_pure (And.intro rfl h')) fun _ _ x => x))))
theorem loop_l32 {elt tg0 iter0 tg1 iter1 tg2 iter2 : Expr} {ifs0 ifs1 ifs2 : List Expr} {scope : Scope} {pos : Pos} : LoopOk (.ListComp elt [⟨tg0, iter0, ifs0, 0⟩, ⟨tg1, iter1, ifs1, 0⟩, ⟨tg2, iter2, ifs2, 0⟩] scope pos) 2 tg2 ifs2 (stpList elt) where
  loop := by
    intro P w A R s it D env I turn n h
    refine codeAny_loop rfl I (fun n s hI => ?_) n h
    show wpAny _ A ((compTurn (.ListComp elt [⟨tg0, iter0, ifs0, 0⟩, ⟨tg1, iter1, ifs1, 0⟩, ⟨tg2, iter2, ifs2, 0⟩] scope pos) 2 it (.ref D) env).onRaise (fun x => do noteFrame x env; theTreesLotGoes x)) _ _ s
    refine wpAny_noted ?_
    have e : compTurn (.ListComp elt [⟨tg0, iter0, ifs0, 0⟩, ⟨tg1, iter1, ifs1, 0⟩, ⟨tg2, iter2, ifs2, 0⟩] scope pos) 2 it (.ref D) env = (do
      standAt iter2.pos
      match ← pyNext it with
      | none => pure (.done .next)
      | some v =>
        letOwnedTupleGo tg2 it v
        assign tg2 env v
        let ok ← Tests ifs2 env
        if ok then
          stpList elt D env
        again (.compLoop (.ListComp elt [⟨tg0, iter0, ifs0, 0⟩, ⟨tg1, iter1, ifs1, 0⟩, ⟨tg2, iter2, ifs2, 0⟩] scope pos) 2 it (.ref D) env)) := by rfl
    rw [e]
    refine wpAny_bind (wpAny_standAt (wpAny_bind (wpF (turn n s hI) fun r s₁ h₁ => ?_)))
    cases r with
    | none => exact wpAny_pure h₁
    | some v =>
      refine wpAny_bind (wpF h₁ fun _ s₂ h₂ => wpAny_bind (wpF h₂ fun _ s₃ h₃ => wpAny_bind (wpF h₃ fun ok s₄ h₄ => ?_)))
      cases ok with
      | false => exact wpAny_pure ⟨rfl, h₄⟩
      | true => exact wpAny_bind (wpF h₄ fun _ s₅ h₅ => wpAny_pure ⟨rfl, h₅⟩)
  start := by
    intro P w A R s it D env h0 h
    refine codeAny_of_tree ?_
    show wpAny _ _ ((compStart (.ListComp elt [⟨tg0, iter0, ifs0, 0⟩, ⟨tg1, iter1, ifs1, 0⟩, ⟨tg2, iter2, ifs2, 0⟩] scope pos) 2 it (.ref D) env).onRaise (fun x => do noteFrame x env; standAt theWindowsPlace)) _ _ s
    refine wpAny_notedAt ?_
    unfold compStart
    show wpAny _ _ (ask >>= _) _ _ s
    refine wpAny_bind (wpAny_askSetting (wpAny_ite ?_))
    split
    · first
        | exact wpAny_bind (wpAny_pure (wpAny_pure (And.intro rfl h0)))
        | exact wpAny_pure (And.intro rfl h0)
    · first
        | exact wpAny_bind (wpAny_rule (wpAny_bind (wpAny_standAt (wpAny_bind (wpAny_mono h (fun it' s' h' => wpAny_pure (And.intro rfl h')) fun _ _ x => x)))))
        | (refine wpAny_bind (wpAny_rule ?_); show wpAny _ _ (standAt iter2.pos >>= _) _ _ s; exact wpAny_bind (wpAny_standAt (wpAny_bind (wpAny_mono h (fun it' s' h' => wpAny_pure (And.intro rfl h')) fun _ _ x => x))))
section
variable {X : Cx} {vs : List Nat} {stp : Stp} {T : TU} {tg : Expr} {ifs : List Expr} {g : TG} {tt : TT} {E0 : Expr} {d : Nat}
theorem ps_inN {vs1 : List Nat} {iter1 : Expr} {wi : TI} (hc : X.calm = true) (hx : X.xe = fun _ _ => False) (LO : LoopOk E0 d tg ifs stp) (pi : PI X tg iter1 wi) (pg : PG X tg g) (pt : PTs X ifs tt) (ps : PStp X vs1 stp T) (hv : ∀ i ∈ vs1, i ∈ vs)
    (hs : ∀ x, foldedSetIterable iter1 X.env x = pure x) : PStp X vs (stpInN d E0 iter1) (tIn wi g tt T vs1) := ⟨fun D pins s σ H Q I h => by
  unfold stpInN
  have r := pi.run pins s σ H _ I h
  rw [hx] at r
  refine wpAny_bind (thnF r fun xv s1 h1 => ?_)
  refine wpAny_bind (wpAny_standAt (wpAny_bind (wpAny_of_eq (hs xv) (wpAny_bind (wpAny_holding (thnF h1 fun itv s2 h2 => ?_))))))
  obtain ⟨it, fp, tn, J, H2, e, I2, T1, st2, f2, q⟩ := h2
  subst e
  have go : codeAny (model X.prog X.w) X.A (.compLoop E0 d (.ref it) (.ref D) X.env) (fun r s' => match r with
      | .ok _ => ∃ σ' H', Inv X pins σ' H' s' ∧ σ'.length = σ.length ∧ (∀ (j : Nat) v, j ∉ vs → σ[j]? = some (some v) → σ'[j]? = some (some v)) ∧ Q H'
      | .error _ => False) s2 := by
    refine loop_run hc hx LO pg pt ps T1 I2 st2 f2 q fun H' s' I' q' => ⟨_, H', I', wipe_length _ _, fun j v hj e => ?_, q'⟩
    rw [wipe_out fun z => hj (hv j z)]
    exact e
  refine wpAny_bind (wpAny_runOwn ?_)
  rw [Around.mark_none]
  refine codeAny_mono (LO.start go (T1.self X.A 0 _ _ _ st2 go)) fun r s' hr => ?_
  cases r with
  | ok fl => exact wpAny_pure hr
  | error e => exact hr.elim⟩
end
def lAppR (l : Nat) (w : W) (st : Sto) : R Unit := match w with
  | .v d => match st[l]? with
    | some (.lst ds) => if ds.length ≤ 100000 then .ok () (st.set l (.lst (ds ++ [d]))) else .bad
    | _ => .bad
  | _ => .bad
def uApp (fe : ED) : Nat → UD := fun l env st => (noX (fe env st)).bind fun w st => lAppR l w st
section
variable {X : Cx} {ct : Nat → Value} {E : St → XK} {elt : Expr} {fe : ED} {vs : List Nat}
theorem ps_app (hx : X.xe = fun _ _ => False) (he : PE X elt (tE X.kw ct (fun _ => E0) fe)) : PStp X vs (stpList elt) (tStp X.kw ct (uApp fe)) := ⟨fun D pins s σ H Q I ⟨ρ, st, env, l, a, rl, h⟩ => by
  unfold stpList
  refine wpAny_bind (thnF (xF hx (he.run pins s σ H _ I (okE a h))) ?_)
  rintro u1 s1 ⟨v1, H1, I1, ru1, ρ1, st1, w1, a1, g1, r1, q1⟩
  have rl1 := rl.grow g1
  cases w1 with
  | r _ => exact (show False from q1).elim
  | v d =>
  simp only [lAppR] at q1
  split at q1
  rotate_left
  · exact q1.elim
  rename_i ds hl
  split at q1
  rotate_left
  · exact q1.elim
  rename_i c
  rcases a1.1.obj l _ hl with ⟨z, _⟩ | ⟨p, hp, ob⟩
  · cases z
  obtain ⟨xs, h1, h2⟩ := ob
  cases rl1 with | r hl2 hv2 =>
  cases hv2 p hp
  cases r1 with | v r1 =>
  have hz : xs.length < sizeLine := by rw [h2.length]; exact Nat.lt_of_le_of_lt c (by decide)
  refine wpAny_bind (app_ok I1 h1 hz ru1 fun s2 I2 => wpAny_pure ?_)
  have gw : Grow ρ1 H1 ρ1 (upd H1 D (.lst (xs ++ [v1]))) := .write hp
  exact ⟨σ, _, I2, rfl, fun _ _ _ e => e, q1 ρ1 _ () gw (a1.1.write hp ⟨_, upd_same, (h2.append (.cons r1 .nil)).grow gw⟩ trivial) trivial⟩⟩
theorem okL_new {P : Program} {w : World} (H : Hp) (h : Heap) : ObjOk P w (upd H h.objs.size (.lst [])) (h.push { cls := .type "list", data := .seq ([] : List Value).toArray }) h.objs.size (.lst []) :=
  ⟨Nat.zero_le _, [], 0, .nil, Heap.get?_push_size _ rfl⟩
theorem de_lc2 {elt tg0 iter0 tg1 iter1 : Expr} {ifs0 ifs1 : List Expr} {scope : Scope} {own : List (Str × Nat)} {vs1 : List Nat} {pos : Pos} {it0 it1 : LD} {g0 g1 : GD} {t0 t1 : BD} {fe : ED} (hc : X.calm = true) (hN : X.N.Nodup) (hi : PI X tg0 iter0 (iR X.kw ct E it0)) (ok : BlkOk X.N X.env.scope scope own)
    (hv1 : ∀ i ∈ vs1, i ∈ own.map (·.2))
    (hg0 : ∀ (s : Shared) (H : Hp) (C : Addr) (cl : List (Str × Addr)) (fp : List Addr), PG (X.blk s H scope (compEnvC scope cl C X.env) fp) tg0 (gR X.kw (own.map (·.2)) g0))
    (ht0 : ∀ (s : Shared) (H : Hp) (C : Addr) (cl : List (Str × Addr)) (fp : List Addr), PTs (X.blk s H scope (compEnvC scope cl C X.env) fp) ifs0 (tT X.kw ct (fun _ => E0) t0))
    (hi1 : ∀ (s : Shared) (H : Hp) (C : Addr) (cl : List (Str × Addr)) (fp : List Addr), PI (X.blk s H scope (compEnvC scope cl C X.env) fp) tg1 iter1 (iR X.kw ct (fun _ => E0) it1))
    (hg1 : ∀ (s : Shared) (H : Hp) (C : Addr) (cl : List (Str × Addr)) (fp : List Addr), PG (X.blk s H scope (compEnvC scope cl C X.env) fp) tg1 (gR X.kw vs1 g1))
    (ht1 : ∀ (s : Shared) (H : Hp) (C : Addr) (cl : List (Str × Addr)) (fp : List Addr), PTs (X.blk s H scope (compEnvC scope cl C X.env) fp) ifs1 (tT X.kw ct (fun _ => E0) t1))
    (he : ∀ (s : Shared) (H : Hp) (C : Addr) (cl : List (Str × Addr)) (fp : List Addr), PE (X.blk s H scope (compEnvC scope cl C X.env) fp) elt (tE X.kw ct (fun _ => E0) fe)) (hs : ∀ x, foldedSetIterable iter0 X.env x = pure x := by intro _; rfl)
    (hs1 : ∀ env x, foldedSetIterable iter1 env x = pure x := by intro _ _; rfl)
    : PE X (.ListComp elt [⟨tg0, iter0, ifs0, 0⟩, ⟨tg1, iter1, ifs1, 0⟩] scope pos) (tE X.kw ct E (eCp (.lst []) (own.map (·.2)) it0 g0 t0 (uIn vs1 it1 g1 t1 (uApp fe)))) := ⟨fun pins s σ H Q I h => by
  rw [arm_eval_ListComp]
  refine cp_core (ho := fun _ => .lst []) (ob := { cls := .type "list", data := .seq ([] : List Value).toArray }) hc hN loop_l20 rfl (fun s Q E q => wpAny_newObj_type q (by show 0 ≤ sizeLine; decide)) (fun H h _ => okL_new H h) I hi ok hg0 ht0
    (fun s H C cl fp => ⟨fun D pins s' σ' H' Q' I' h' => (ps_inN (X := (X.blk s H scope (compEnvC scope cl C X.env) fp)) hc rfl loop_l21 (hi1 s H C cl fp) (hg1 s H C cl fp) (ht1 s H C cl fp) (ps_app (X := (X.blk s H scope (compEnvC scope cl C X.env) fp)) rfl (he s H C cl fp)) hv1 (hs1 _)).run D pins s' σ' H' Q' I' (in_read h')⟩)
    hs (cp_read (new := .lst []) (fun ρ H D hD => ⟨[], upd_same, .nil⟩) (fun n => trivial) h) fun D C s' m H' I' q hn f => ⟨m, hn, fun h'' sb => ?_⟩
  obtain ⟨f0, f1, f2, f3, f4, f5⟩ := f
  exact ⟨.ref D, H', I'.turned (t' := s'.toks) (fun b o hb e => (sb.2 b hb).trans e) f0 f1 f3 f4 f5, rfl, q⟩⟩
theorem de_lc3 {elt tg0 iter0 tg1 iter1 tg2 iter2 : Expr} {ifs0 ifs1 ifs2 : List Expr} {scope : Scope} {own : List (Str × Nat)} {vs1 vs2 : List Nat} {pos : Pos} {it0 it1 it2 : LD} {g0 g1 g2 : GD} {t0 t1 t2 : BD} {fe : ED} (hc : X.calm = true) (hN : X.N.Nodup) (hi : PI X tg0 iter0 (iR X.kw ct E it0)) (ok : BlkOk X.N X.env.scope scope own)
    (hv1 : ∀ i ∈ vs1, i ∈ own.map (·.2))
    (hv2 : ∀ i ∈ vs2, i ∈ vs1)
    (hg0 : ∀ (s : Shared) (H : Hp) (C : Addr) (cl : List (Str × Addr)) (fp : List Addr), PG (X.blk s H scope (compEnvC scope cl C X.env) fp) tg0 (gR X.kw (own.map (·.2)) g0))
    (ht0 : ∀ (s : Shared) (H : Hp) (C : Addr) (cl : List (Str × Addr)) (fp : List Addr), PTs (X.blk s H scope (compEnvC scope cl C X.env) fp) ifs0 (tT X.kw ct (fun _ => E0) t0))
    (hi1 : ∀ (s : Shared) (H : Hp) (C : Addr) (cl : List (Str × Addr)) (fp : List Addr), PI (X.blk s H scope (compEnvC scope cl C X.env) fp) tg1 iter1 (iR X.kw ct (fun _ => E0) it1))
    (hg1 : ∀ (s : Shared) (H : Hp) (C : Addr) (cl : List (Str × Addr)) (fp : List Addr), PG (X.blk s H scope (compEnvC scope cl C X.env) fp) tg1 (gR X.kw vs1 g1))
    (ht1 : ∀ (s : Shared) (H : Hp) (C : Addr) (cl : List (Str × Addr)) (fp : List Addr), PTs (X.blk s H scope (compEnvC scope cl C X.env) fp) ifs1 (tT X.kw ct (fun _ => E0) t1))
    (hi2 : ∀ (s : Shared) (H : Hp) (C : Addr) (cl : List (Str × Addr)) (fp : List Addr), PI (X.blk s H scope (compEnvC scope cl C X.env) fp) tg2 iter2 (iR X.kw ct (fun _ => E0) it2))
    (hg2 : ∀ (s : Shared) (H : Hp) (C : Addr) (cl : List (Str × Addr)) (fp : List Addr), PG (X.blk s H scope (compEnvC scope cl C X.env) fp) tg2 (gR X.kw vs2 g2))
    (ht2 : ∀ (s : Shared) (H : Hp) (C : Addr) (cl : List (Str × Addr)) (fp : List Addr), PTs (X.blk s H scope (compEnvC scope cl C X.env) fp) ifs2 (tT X.kw ct (fun _ => E0) t2))
    (he : ∀ (s : Shared) (H : Hp) (C : Addr) (cl : List (Str × Addr)) (fp : List Addr), PE (X.blk s H scope (compEnvC scope cl C X.env) fp) elt (tE X.kw ct (fun _ => E0) fe)) (hs : ∀ x, foldedSetIterable iter0 X.env x = pure x := by intro _; rfl)
    (hs1 : ∀ env x, foldedSetIterable iter1 env x = pure x := by intro _ _; rfl)
    (hs2 : ∀ env x, foldedSetIterable iter2 env x = pure x := by intro _ _; rfl)
    : PE X (.ListComp elt [⟨tg0, iter0, ifs0, 0⟩, ⟨tg1, iter1, ifs1, 0⟩, ⟨tg2, iter2, ifs2, 0⟩] scope pos) (tE X.kw ct E (eCp (.lst []) (own.map (·.2)) it0 g0 t0 (uIn vs1 it1 g1 t1 (uIn vs2 it2 g2 t2 (uApp fe))))) := ⟨fun pins s σ H Q I h => by
  rw [arm_eval_ListComp]
  refine cp_core (ho := fun _ => .lst []) (ob := { cls := .type "list", data := .seq ([] : List Value).toArray }) hc hN loop_l30 rfl (fun s Q E q => wpAny_newObj_type q (by show 0 ≤ sizeLine; decide)) (fun H h _ => okL_new H h) I hi ok hg0 ht0
    (fun s H C cl fp => ⟨fun D pins s' σ' H' Q' I' h' => (ps_inN (X := (X.blk s H scope (compEnvC scope cl C X.env) fp)) hc rfl loop_l31 (hi1 s H C cl fp) (hg1 s H C cl fp) (ht1 s H C cl fp) (show PStp (X.blk s H scope (compEnvC scope cl C X.env) fp) vs1 _ _ from ⟨fun D pins s' σ' H' Q' I' h' => (ps_inN (X := (X.blk s H scope (compEnvC scope cl C X.env) fp)) hc rfl loop_l32 (hi2 s H C cl fp) (hg2 s H C cl fp) (ht2 s H C cl fp) (ps_app (X := (X.blk s H scope (compEnvC scope cl C X.env) fp)) rfl (he s H C cl fp)) hv2 (hs2 _)).run D pins s' σ' H' Q' I' (in_read h')⟩) hv1 (hs1 _)).run D pins s' σ' H' Q' I' (in_read h')⟩)
    hs (cp_read (new := .lst []) (fun ρ H D hD => ⟨[], upd_same, .nil⟩) (fun n => trivial) h) fun D C s' m H' I' q hn f => ⟨m, hn, fun h'' sb => ?_⟩
  obtain ⟨f0, f1, f2, f3, f4, f5⟩ := f
  exact ⟨.ref D, H', I'.turned (t' := s'.toks) (fun b o hb e => (sb.2 b hb).trans e) f0 f1 f3 f4 f5, rfl, q⟩⟩
end
end Jv
end
section
/-! max(.., key=len); list.pop, list.index, list.extend; a comprehension over a list that may change; xs[::-1] -/
namespace Jv
open PySem PySem.Spec L2 PyProof.Rows PySem.W
/-! ### max by len -/
def lenT : D → Nat
  | .tup xs => xs.length
  | _ => 0
def isTupD : D → Bool
  | .tup _ => true
  | _ => false
def maxLen (ds : List D) : Option D := if ds.all isTupD then ds.find? (fun d => ds.all fun e => decide (lenT e ≤ lenT d)) else none
def maxB : B1
  | st, [w] => (asLst st w).bind maxLen
  | _, _ => none
def newsOf (h : Heap) (L : Addr) : List (Addr × Obj) := (List.range h.objs.size).filterMap fun b => if b = L then none else (h.get? b).map fun o => (b, o)
theorem mem_newsOf {h : Heap} {L : Addr} {p : Addr × Obj} : p ∈ newsOf h L ↔ h.get? p.1 = some p.2 ∧ p.1 ≠ L := by
  unfold newsOf
  rw [List.mem_filterMap]
  constructor
  · rintro ⟨b, hb, e⟩
    split at e
    · cases e
    · rename_i n
      cases q : h.get? b with
      | none => rw [q] at e; cases e
      | some o => rw [q] at e; cases e; exact ⟨q, n⟩
  · rintro ⟨h1, h2⟩
    refine ⟨p.1, List.mem_range.mpr (Heap.lt_size h1), ?_⟩
    rw [if_neg h2, h1]
    rfl
theorem ns_inj {h : Heap} {a : Addr} {m m' : Str → Option Value} (x : h.Ns a m) (y : h.Ns a m') : m = m' := by
  obtain ⟨o, es, ep, h1, h2, h3, h4⟩ := x
  obtain ⟨o', es', ep', g1, g2, g3, g4⟩ := y
  rw [h1] at g1
  cases g1
  rw [h2] at g2
  cases g2
  funext n
  rw [← h4, ← g4]
theorem inv_news {X : Cx} {pins : List (Addr × Obj)} {σ : St} {H : Hp} {s : Shared} {h' : Heap} {t' : Nat} {m : Str → Option Value} (I : Inv X pins σ H s) (hm : s.heap.Ns X.env.locals m) (hn : h'.Ns X.env.locals m) (N : ∀ p ∈ newsOf s.heap X.env.locals, h'.get? p.1 = some p.2) : Inv X pins σ H { s with heap := h', toks := t' } := by
  have k : ∀ b o, b ≠ X.env.locals → s.heap.get? b = some o → h'.get? b = some o := fun b o hb e => N (b, o) (mem_newsOf.mpr ⟨e, hb⟩)
  refine I.step (g' := s.gens) (d' := s.drawn) (ch := []) (fun b hb => absurd hb (by simp)) (fun b o hb _ _ e _ => k b o hb e) (fun b o hb _ _ e _ => ⟨o.slots, k b o hb e⟩) (fun b o _ _ n => n) (fun b o _ e => ?_) (fun b xs e => e) (fun b o u e => e) (fun b ps e => ⟨#[], by simpa using e⟩) (fun m' hm' => by rw [← ns_inj hm hm']; exact hn) (fun a o e => ?_) I.bare
  · by_cases hb : b = X.env.locals
    · rw [hb]
      obtain ⟨o', _, _, q, _⟩ := hn
      exact ⟨o', q⟩
    · exact ⟨o, k b o hb e⟩
  · refine (I.hok a o e).stay (fun b u hb q => k b u (fun z => ?_) q) (fun _ q => q) fun _ _ q => q
    have := I.free
    rcases hb with rfl | hb
    · rw [z, this] at e; cases e
    · rw [z, this] at hb; cases hb
section
variable {X : Cx} {ct : Nat → Value} {E : St → XK} {e : Expr} {f : ED} {p pos xpos kpos : Pos}
theorem max_len_run (hc : X.calm = true) {pins : List (Addr × Obj)} {s : Shared} {σ : St} {H : Hp} {vs : List V} {us : List Value} {Q : VK} (I : Inv X pins σ H s) (r : Vals vs us) (h : rA X.kw maxB vs H Q) :
    wpAny (model X.prog X.w) X.A (call (.builtin "max") us [(Str.ofString "key", .builtin "len")]) (EP X pins σ Q) X.xe s := by
  obtain ⟨ρ, st, ws, d, rs, rw', e, q⟩ := h
  have one : ∃ w, ws = [w] := by
    match ws, e with
    | [w], _ => exact ⟨w, rfl⟩
    | [], e => cases e
    | _ :: _ :: _, e => cases e
  obtain ⟨w, rfl⟩ := one
  obtain ⟨v, rfl, rv⟩ := rw'.one
  simp only [maxB] at e
  cases ea : asLst st w with
  | none => rw [ea] at e; cases e
  | some ds =>
  rw [ea] at e
  simp only [Option.bind_some, maxLen] at e
  split at e
  rotate_left
  · cases e
  rename_i ht
  obtain ⟨a, xs, rfl, hs, hr⟩ := lst_of rs rv ea
  rw [Vals.ref1 r]
  obtain ⟨its, ri, hl, hz⟩ := I.list hs
  obtain ⟨m, hm, _⟩ := I.loc
  have hlen : its.length = ds.length := by rw [← ri.length, hr.length]
  have neL : ∀ b o (dd : Array Value) n, s.heap.get? b = some o → o.data = .seq dd n → b ≠ X.env.locals := fun b o dd n e1 e2 z => by
    obtain ⟨o', es, ep, g1, g2, _⟩ := hm
    rw [z, g1] at e1
    cases e1
    rw [g2] at e2
    cases e2
  have F0 : Fr ⟨#[], {}⟩ X.env.locals s.heap m := ⟨hm, fun b o z => by simp [Heap.get?] at z, Nat.zero_le _⟩
  have N0 : News ⟨#[], {}⟩ X.env.locals s.heap (newsOf s.heap X.env.locals) := fun p hp => ⟨(mem_newsOf.mp hp).1, (mem_newsOf.mp hp).2, by simp [Heap.get?]⟩
  have find : ∀ i, i < ds.length → (∀ j, j < ds.length → (lenT (ds.getD i .non) : Int) ≥ lenT (ds.getD j .non) ∧ (j < i → (lenT (ds.getD i .non) : Int) > lenT (ds.getD j .non))) → ds[i]? = some d := fun i hi hb => by
    have e2 : ds.find? (fun d => ds.all fun e => decide (lenT e ≤ lenT d)) = ds[i]? := by
      rw [List.getElem?_eq_getElem hi, List.find?_eq_some_iff_getElem]
      have gd : ∀ j (hj : j < ds.length), ds.getD j .non = ds[j] := fun j hj => by simp [hj]
      refine ⟨List.all_eq_true.mpr fun x hx => ?_, i, hi, rfl, fun j hj => ?_⟩
      · obtain ⟨j, hj, rfl⟩ := List.getElem_of_mem hx
        have := (hb j hj).1
        rw [gd i hi, gd j hj] at this
        exact decide_eq_true (by omega)
      · have hj' : j < ds.length := Nat.lt_trans hj hi
        have := (hb j hj').2 hj
        rw [gd i hi, gd j hj'] at this
        rw [Bool.not_eq_true', List.all_eq_false]
        exact ⟨ds[i], List.getElem_mem hi, by simp; omega⟩
    rw [← e2]
    exact e
  have hpos : 0 < its.length := by
    rw [hlen]
    cases ds with
    | nil => cases e
    | cons _ _ => exact Nat.succ_pos _
  obtain ⟨ol, nl, hol, hcl, _, hdl⟩ := id hl
  have al : a ≠ X.env.locals := neL a ol _ _ hol hdl
  refine kmb_max (h₀ := ⟨#[], {}⟩) (L := X.env.locals) (m := m) (news := newsOf s.heap X.env.locals) (l := a) (vs := its) (kid := "len") (fun i => (lenT (ds.getD i .non) : Int)) (I.ok.hd hc) F0 N0 (fun h F N => ⟨ol, (N (a, ol) (mem_newsOf.mpr ⟨hol, al⟩)).1, hcl, nl, hdl⟩) hpos (fun i v hv h tk own F N => ?_) (fun i v h' tk' hv hb F N => ?_)
  · obtain ⟨hi, _⟩ := List.getElem?_eq_some_iff.mp hv
    have hid : i < ds.length := by omega
    obtain ⟨x, hx, rx⟩ := hr.getD (List.getElem?_eq_getElem hid)
    obtain ⟨u, hu, ru⟩ := ri.get hx
    rw [hv] at hu
    cases hu
    have htu := List.all_eq_true.mp ht ds[i] (List.getElem_mem hid)
    have gd : ds.getD i .non = ds[i] := by simp [hid]
    rw [gd]
    cases ed : ds[i] with
    | tup es =>
      rw [ed] at rx
      cases rx with
      | tup h1 n1 q1 =>
        cases ru
        obtain ⟨its2, r2, ht2, hz2⟩ := I.tuple (.inl h1)
        obtain ⟨o2, g1, g2, n2, g3⟩ := id ht2
        have ne := neL _ o2 _ _ g1 g3
        have ht3 : IsTup h _ its2.toArray := ⟨o2, (N (_, o2) (List.mem_append_left _ (mem_newsOf.mpr ⟨g1, ne⟩))).1, g2, n2, g3⟩
        refine len_tuple (s := { s with heap := h, toks := tk }) ht3 ?_ ?_
        · have := r2.length
          have := sizeLine_eq
          simp only [List.size_toArray]
          omega
        · have e1 : (its2.toArray.size : Int) = ((lenT (.tup es) : Nat) : Int) := by
            have := r2.length
            have := q1.length
            simp only [List.size_toArray, lenT]
            omega
          rw [e1]
          exact ⟨h, _, _, rfl, rfl, F, N⟩
    | _ => rw [ed] at htu; cases htu
  · obtain ⟨hi, _⟩ := List.getElem?_eq_some_iff.mp hv
    have hd := find i (by omega) (fun j hj => hb j (by omega))
    obtain ⟨x, hx, rx⟩ := hr.getD hd
    obtain ⟨u, hu, ru⟩ := ri.get hx
    rw [hv] at hu
    cases hu
    exact ⟨x, H, inv_news I hm F.ns (fun p hp => (N p hp).1), ru, q _ _ (.refl _) rx⟩
theorem de_maxLen (hc : X.calm = true) (hg : Gl X "max") (hm : X.mg "max" = none) (hgl : Gl X "len") (hml : X.mg "len" = none) (h : PE X e (tE X.kw ct E f))
    (hs : starEach [e] X.env = [(false, eval e X.env)] := by rfl)
    (he : backTo pos (starEach [e] X.env) = (false, eval e X.env) :: backTo pos (starEach [] X.env) := by rfl) (hpl : (backTo pos (starEach [e] X.env)).any (·.1) = false := by rfl)
    (hall : (backToKw pos (keywordEach [⟨some (Str.ofString "key"), .Name "len" xpos, kpos⟩] X.env)).all (·.1.isSome) = true := by rfl) (hnone : (backToKw pos (keywordEach [⟨some (Str.ofString "key"), .Name "len" xpos, kpos⟩] X.env)).any (·.1.isNone) = false := by rfl) (hks : (backToKw pos (keywordEach [⟨some (Str.ofString "key"), .Name "len" xpos, kpos⟩] X.env)).filterMap (·.1) = [Str.ofString "key"] := by rfl) :
    PE X (.Call (.Name "max" p) [e] [⟨some (Str.ofString "key"), .Name "len" xpos, kpos⟩] pos) (tE X.kw ct E (eBlt maxB (aCons f aNil))) := by
  have ha : PA X [e] (tA X.kw ct E (aCons f aNil)) := da_cons h da_nil hs
  refine ⟨fun pins s σ H Q I hq => ?_⟩
  refine wpAny_Call_Name_kw (ld_blt I hg hm bt_max ?_ (by decide) (by decide))
  refine PyProof.Rows.callWith_kw (thn (ha.run pos pins s σ H _ I (blt_read hq)) fun us s1 ⟨vs, H1, I1, r1, q1⟩ => ?_) he hpl hall hnone
  show wpAny _ _ (evalAll ((do let v ← eval (.Name "len" xpos) X.env; standAt pos; pure v) :: [])) _ _ s1
  refine wpAny_evalAll_cons (wpAny_bind (ld_blt I1 hgl hml bt_len (wpAny_bind (wpAny_standAt (wpAny_pure (wpAny_evalAll_nil ?_)))) (by decide) (by decide)))
  rw [hks]
  exact max_len_run hc I1 r1 q1
end
end Jv
end
section
namespace Jv
open PySem PySem.Spec L2 PyProof.Rows PySem.W
section
variable {X : Cx} {ct : Nat → Value} {E : St → XK}
theorem dg_mono {tg : Expr} {g : GD} {vs vs' : List Nat} (h : PG X tg (gR X.kw vs g)) (hv : ∀ i ∈ vs, i ∈ vs') : PG X tg (gR X.kw vs' g) :=
  PG.of h fun v σ H Q ⟨ρ, st, env, w, env', a, r, e, q⟩ => ⟨ρ, st, env, w, env', a, r, e, fun σ' a' ag => q σ' a' (ag.mono hv)⟩
abbrev ix2 : O2 := orO ixD ixK
theorem de_ix2 {a b : Expr} {fa fb : ED} {pos : Pos} (hu : X.A.units + 65 < cLine) (ha : PE X a (tE X.kw ct E fa)) (hb : PE X b (tE X.kw ct E fb)) (hs : PlainIx b := by exact fun _ _ => rfl) : PE X (.Subscript a b pos) (tE X.kw ct E (eBin ix2 fa fb)) :=
  PE.of (pe_ix (IxR.or ix_D (ix_K hu)) ha hb hs) fun σ H Q h => two_read h
abbrev in2 : O2 := orO inD inK2
abbrev notIn2 : O2 := orO notInD notInK2
theorem op_in2 (hu : X.A.units + 65 < cLine) : OpR X (compareOp .In) (rOf X.kw in2) := OpR.or (op_inDD hu) (op_inK2 hu)
theorem op_notIn2 (hu : X.A.units + 65 < cLine) : OpR X (compareOp .NotIn) (rOf X.kw notIn2) := OpR.or (op_notInDD hu) (op_notInK2 hu)
/-! ### a list that may change, walked by a comprehension -/
def nthL (l : Nat) : Nth := fun i st => match st[l]? with
  | some (.lst es) => some (es[i]?)
  | _ => none
def listsN (w : W) (st : Sto) : R Nth := match w with
  | .r l => match st[l]? with
    | some (.lst _) => .ok (nthL l) st
    | _ => .bad
  | _ => .bad
def nLst (f : ED) : ND := fun env st => (f env st).bind listsN
theorem itN_list {K : KW} {ρ : Rho} {H : Hp} {l : Nat} {a : Addr} (hl : ρ.lc[l]? = some (some a)) : ItN K (Itl K a) ρ H (nthL l) := by
  intro ρ' H' st ⟨g, gl⟩ s i
  have key : ∀ es, st[l]? = some (.lst es) → ∃ xs, H' a = some (.lst xs) ∧ RlAll K ρ' H' xs es := fun es q => by
    rcases s.obj l _ q with ⟨z, _⟩ | ⟨b, hb, ob⟩
    · cases z
    · have := gl l b (List.getElem?_eq_some_iff.mp hl).1 hb
      rw [hl] at this
      cases this
      exact ob
  unfold nthL
  cases q : st[l]? with
  | none => exact ⟨fun d e => by simp at e, fun e => by simp at e⟩
  | some ob =>
    cases ob with
    | dead => exact ⟨fun d e => by simp at e, fun e => by simp at e⟩
    | dct _ => exact ⟨fun d e => by simp at e, fun e => by simp at e⟩
    | kd _ => exact ⟨fun d e => by simp at e, fun e => by simp at e⟩
    | ld _ => exact ⟨fun d e => by simp at e, fun e => by simp at e⟩
    | set _ => exact ⟨fun d e => by simp at e, fun e => by simp at e⟩
    | tab _ _ => exact ⟨fun d e => by simp at e, fun e => by simp at e⟩
    | lst es =>
      obtain ⟨xs, h1, r1⟩ := key es q
      have h' : SqL K H' a xs := .inl (.inl h1)
      refine ⟨fun d e => ?_, fun e => ⟨xs, h', ?_⟩⟩
      · simp only [Option.some.injEq] at e
        obtain ⟨v, e1, rv⟩ := r1.getD e
        refine ⟨⟨xs, v, h', e1⟩, ?_⟩
        rintro x H2 ⟨rfl, hy⟩
        have := hy xs h'
        rw [e1] at this
        cases this
        exact ⟨.refl _, rv⟩
      · simp only [Option.some.injEq, List.getElem?_eq_none_iff] at e
        rw [r1.length]
        exact e
theorem dn_list {tg e : Expr} {f : ED} (h : PE X e (tE X.kw ct E f)) : PI X tg e (nR X.kw ct E (nLst f)) := by
  refine PI.of (pi_list h) ?_
  rintro σ H R' ⟨ρ, st, env, a, q⟩
  unfold nLst at q
  refine ⟨ρ, st, env, a, ?_⟩
  cases ef : f env st with
  | exc x st1 => rw [ef] at q; exact q
  | bad => rw [ef] at q; exact q.elim
  | ok w st1 =>
    rw [ef] at q
    simp only [R.bind_ok, listsN] at q
    split at q
    · rename_i l
      split at q
      · rename_i es hes
        intro ρ1 H1 v g s rv
        rcases s.obj l _ hes with ⟨z, _⟩ | ⟨b, hb, xs, ob, _⟩
        · cases z
        · cases rv with
          | r hl hx =>
            have := hx b hb
            subst this
            exact ⟨_, rfl, ⟨xs, .inl (.inl ob)⟩, q ρ1 H1 _ g s (itN_list hb)⟩
      · exact q.elim
    · exact q.elim
/-! ### xs[::-1] of a list -/
def lRev (f : ED) : LD := fun env st => (f env st).bind fun w st => match asLst st w with
  | some ds => .ok ds.reverse st
  | none => .bad
theorem df_revL {e : Expr} {f : ED} {k : Nat} {p1 p2 p3 pos : Pos} (h : PE X e (tE X.kw ct E f)) : PE X (.Subscript e (.Slice none none (some (.UnaryOp .USub (.Constant (.int 1) k p1) p2)) p3) pos) (tF X.kw ct E (lRev f)) :=
  PE.of (pe_revL h) fun σ H Q ⟨ρ, st, env, a, q⟩ => by
    refine ⟨ρ, st, env, a, ?_⟩
    unfold lRev at q
    cases ef : f env st with
    | exc x y => rw [ef] at q; exact q
    | bad => rw [ef] at q; exact q.elim
    | ok w st1 =>
      rw [ef] at q
      simp only [R.bind_ok] at q
      cases ea : asLst st1 w with
      | none => rw [ea] at q; exact q.elim
      | some ds =>
        rw [ea] at q
        intro ρ1 H1 v g s r
        obtain ⟨l, xs, rfl, h1, h2⟩ := lst_of s r ea
        exact ⟨l, xs, rfl, h1, fun p hp => q ρ1 H1 p _ g s hp h2.reverse⟩
/-! ### l.pop(i), l.extend(x), l.index(x) -/
def popG (w : W) (ws : List W) (st : Sto) : R W := match w, ws with
  | .r l, [.v (.int i)] => match st[l]? with
    | some (.lst ds) => if -(2 ^ 63) ≤ i ∧ i < 2 ^ 63 then (match seqIndex? i ds.length with
      | some j => (match ds[j]? with
        | some d => .ok (.v d) (st.set l (.lst (ds.eraseIdx j)))
        | none => .bad)
      | none => .bad) else .bad
    | _ => .bad
  | _, _ => .bad
def extG (w : W) (ws : List W) (st : Sto) : R W := match w, ws with
  | .r l, [w2] => match st[l]?, asLst st w2 with
    | some (.lst ds), some es => if ds.length + es.length ≤ 100000 then .ok (.v .non) (st.set l (.lst (ds ++ es))) else .bad
    | _, _ => .bad
  | _, _ => .bad
/-- l.m(..), l a list that changes -/
def eMeth (m : W → List W → Sto → R W) (f : ED) (g : AD) : ED := fun env st => (f env st).bind fun w st => if isLst st w then (g env st).bind fun ws st => m w ws st else .bad
theorem RlAll.erase {K : KW} {ρ : Rho} {H : Hp} : ∀ {vs : List V} {ds : List D} (i : Nat), RlAll K ρ H vs ds → RlAll K ρ H (vs.eraseIdx i) (ds.eraseIdx i)
  | _, _, _, .nil => .nil
  | _, _, 0, .cons _ t => t
  | _, _, i + 1, .cons q t => .cons q (RlAll.erase i t)
theorem meth_read {K : KW} {f : ED} {g : AD} {m : W → List W → Sto → R W} {rM : V → List V → Hp → VK → Prop} {σ : St} {H : Hp} {Q : VK}
    (hm : ∀ {ρ2 : Rho} {H2 : Hp} {st2 : Sto} {l : Nat} {p : Addr} {vs : List V} {ws : List W} {EE : XK} {xs : List V} {ds : List D}, RelSt K ρ2 H2 st2 → RwAll K ρ2 H2 vs ws → ρ2.lc[l]? = some (some p) → st2[l]? = some (.lst ds) → H2 p = some (.lst xs) → RlAll K ρ2 H2 xs ds →
      okG K ct Rw ρ2 H2 EE Q (m (.r l) ws st2) → rM (.ref p) vs H2 Q)
    (hb : ∀ {l : Nat} {ws : List W} {st2 : Sto}, (∀ ds, st2[l]? ≠ some (.lst ds)) → m (.r l) ws st2 = .bad)
    (h : tE K ct E (eMeth m f g) σ H Q) : tBM K "list" rM (tE K ct E f) (tA K ct E g) σ H Q := by
  refine (tG.bind (rel := Rw) (k := fun w env st => if isLst st w then (g env st).bind fun ws st => m w ws st else R.bad) h).mono fun x H1 ⟨ρ1, st1, env, w, a1, r1, q1⟩ => ?_
  split at q1
  rotate_left
  · exact q1.elim
  rename_i hw
  cases r1 with
  | v r1 => cases hw
  | @r l _ hl hv =>
    simp only [isLst] at hw
    split at hw
    rotate_left
    · cases hw
    rename_i ds0 e0
    rcases a1.1.obj l _ e0 with ⟨z, _⟩ | ⟨p, hp, xs, h1, h2⟩
    · cases z
    cases hv p hp
    refine ⟨.inl ⟨rfl, xs, .of h1⟩, ρ1, st1, env, a1, (okG.bind (rel := RwAll) q1 a1.2).mono fun vs H2 ⟨ρ2, st2, ws, a2, g2, r2, q2⟩ => ?_⟩
    by_cases hds : ∃ ds, st2[l]? = some (.lst ds)
    · obtain ⟨ds, e2⟩ := hds
      rcases a2.1.obj l _ e2 with ⟨z, _⟩ | ⟨p', hp', xs', h1', h2'⟩
      · cases z
      have ep : p' = p := by
        have := g2.ref l p' hl hp'
        rw [hp] at this
        cases this
        rfl
      subst ep
      exact hm a2.1 r2 hp' e2 h1' h2' q2
    · rw [hb fun ds z => hds ⟨ds, z⟩] at q2
      exact q2.elim
variable {o e : Expr} {es : List Expr} {f : ED} {g : AD} {apos cpos : Pos}
theorem de_pop (ho : PE X o (tE X.kw ct E f)) (ha : PA X (e :: es) (tA X.kw ct E g)) (hbase : attributeBase o "pop" X.env (eval o X.env) = eval o X.env := by rfl)
    (hfew : ((backTo cpos (starEach (e :: es) X.env)).all (fun x => !x.1) && (backToKw cpos (keywordEach [] X.env)).all (fun x => x.1.isSome)
      && decide ((e :: es).length + ([] : List Keyword).length + (if ([] : List Keyword).isEmpty then 0 else 1) < 30)) = true := by rfl)
    (hline : (apos.endLine == cpos.line) = true := by rfl) (hs : starEach (e :: es) X.env = (false, eval e X.env) :: starEach es X.env := by rfl) (hplain : (backTo cpos (starEach es X.env)).any (·.1) = false := by rfl) :
    PE X (.Call (.Attribute o "pop" apos) (e :: es) [] cpos) (tE X.kw ct E (eMeth popG f g)) :=
  PE.of (pe_bm PySem.F.plainAttrs_list PySem.F.slot_list_pop PySem.F.type_list_pop mt_popAt ho ha hbase hfew hline hs hplain) fun σ H Q h => meth_read (fun {ρ2 H2 st2 l p vs ws EE xs ds} s2 r2 hp e2 h1 h2 q2 => by
    unfold popG at q2
    split at q2
    · rename_i l' i heq
      cases heq
      rw [e2] at q2
      simp only at q2
      split at q2
      · rename_i hi
        split at q2
        · rename_i j hj
          split at q2
          · rename_i d hd
            obtain ⟨y, rfl, ry⟩ := r2.one
            cases ry with | v ry =>
            cases ry
            obtain ⟨v, hv, rv⟩ := h2.getD hd
            refine ⟨p, xs, i, j, v, rfl, rfl, h1, hi.1, hi.2, by rw [h2.length]; exact hj, hv, ?_⟩
            have gw : Grow ρ2 H2 ρ2 (upd H2 p (.lst (xs.eraseIdx j))) := .write hp
            exact q2 ρ2 _ v gw (s2.write hp ⟨_, upd_same, (h2.erase j).grow gw⟩ trivial) (.v (rv.grow gw))
          · exact q2.elim
        · exact q2.elim
      · exact q2.elim
    · exact q2.elim) (fun {l ws st2} hn => by
    unfold popG
    split
    · rename_i l' i heq
      cases heq
      split
      · rename_i ds e2
        exact absurd e2 (hn ds)
      · rfl
    · rfl) h
def indexO (st : Sto) (w : W) (ws : List W) : Option D := match asLst st w, ws with
  | some ds, [.v d] => if SeqAt.shaped d.py && SeqAt.shaped (.list (D.pyL ds)) then (match (D.pyL ds).findIdx? fun z => PyData.eqv z d.py with
    | some j => some (.int (j : Nat))
    | none => none) else none
  | _, _ => none
def eIndex (f : ED) (g : AD) : ED := fun env st => (f env st).bind fun w st => match asLst st w with
  | some _ => (g env st).bind fun ws st => ofOp st (indexO st w ws)
  | none => .bad
theorem de_index (hu : X.A.units + 65 < cLine) (ho : PE X o (tE X.kw ct E f)) (ha : PA X (e :: es) (tA X.kw ct E g)) (hbase : attributeBase o "index" X.env (eval o X.env) = eval o X.env := by rfl)
    (hfew : ((backTo cpos (starEach (e :: es) X.env)).all (fun x => !x.1) && (backToKw cpos (keywordEach [] X.env)).all (fun x => x.1.isSome)
      && decide ((e :: es).length + ([] : List Keyword).length + (if ([] : List Keyword).isEmpty then 0 else 1) < 30)) = true := by rfl)
    (hline : (apos.endLine == cpos.line) = true := by rfl) (hs : starEach (e :: es) X.env = (false, eval e X.env) :: starEach es X.env := by rfl) (hplain : (backTo cpos (starEach es X.env)).any (·.1) = false := by rfl) :
    PE X (.Call (.Attribute o "index" apos) (e :: es) [] cpos) (tE X.kw ct E (eIndex f g)) :=
  PE.of (pe_bm PySem.F.plainAttrs_list PySem.F.slot_list_index PySem.F.type_list_index (mt_indexD hu) ho ha hbase hfew hline hs hplain) fun σ H Q h => by
  refine (tG.bind (rel := Rw) (k := fun w env st => match asLst st w with
    | some _ => (g env st).bind fun ws st => ofOp st (indexO st w ws)
    | none => R.bad) h).mono fun x H1 ⟨ρ1, st1, env, w, a1, r1, q1⟩ => ?_
  cases ea : asLst st1 w with
  | none => rw [ea] at q1; exact q1.elim
  | some ds0 =>
  rw [ea] at q1
  simp only at q1
  obtain ⟨a, xs, rfl, h1, h2⟩ := lst_of a1.1 r1 ea
  refine ⟨.inl ⟨rfl, xs, h1⟩, ρ1, st1, env, a1, (okG.bind (rel := RwAll) q1 a1.2).mono fun vs H2 ⟨ρ2, st2, ws, a2, g2, r2, q2⟩ => ?_⟩
  cases ei : indexO st2 w ws with
  | none => rw [ei] at q2; exact q2.elim
  | some d =>
  rw [ei] at q2
  unfold indexO at ei
  split at ei
  · rename_i ds d0 hds
    split at ei
    · rename_i c
      rw [Bool.and_eq_true] at c
      split at ei
      · rename_i j hj
        cases ei
        obtain ⟨y, rfl, ry⟩ := r2.one
        cases ry with | v ry =>
        obtain ⟨a', xs', ea', h1', h2'⟩ := lst_of a2.1 (r1.grow g2) hds
        cases ea'
        obtain ⟨hlt, hp1, hp2⟩ := List.findIdx?_eq_some_iff_getElem.mp hj
        refine ⟨a, y, d0.py, D.pyL ds, j, (D.pyL ds)[j], rfl, rfl, .lst h1' (h2'.dp (by simpa [PyData.canLay0] using SeqAt.canLay_of_shaped c.2)), ry.dp (SeqAt.canLay_of_shaped c.1), c.2, c.1, List.getElem?_eq_getElem hlt, hp1, fun m z' hm hz => ?_, okG.here q2 a2.1 (.v (.int _))⟩
        obtain ⟨hm', rfl⟩ := List.getElem?_eq_some_iff.mp hz
        have := hp2 m hm
        simpa using this
      · cases ei
    · cases ei
  · cases ei
end
end Jv
end
section
/-! repr(x) != repr(y), without looking into the texts where the trees are equal -/
namespace Jv
open PySem PySem.Spec L2 PyProof.Rows PySem.W
def okRepr (d : PyData) : Bool := SeqAt.shaped d && d.showable && PyData.layable0 d && d.intsShort 13
def reprB2 : B1
  | st, [w] => if okRepr (deref st w).py then some (.str (deref st w).py.shown) else none
  | _, _ => none
def neStr : O2
  | _, .v (.str x), .v (.str y) => some (.bl (!decide (x = y)))
  | _, _, _ => none
def eqStr : O2
  | _, .v (.str x), .v (.str y) => some (.bl (decide (x = y)))
  | _, _, _ => none
section
variable {X : Cx} {K : KW} {ρ : Rho} {H : Hp} {ct : Nat → Value} {E : St → XK}
theorem cb_repr2 (gd : X.A.guards = some []) (hu : X.A.units + 65 < cLine) : CallR X (.builtin "repr") (rA X.kw reprB2) := by
  intro pins s σ H xs us Q I rr h
  obtain ⟨ρ, st, ws, d, rs, r, e, q⟩ := h
  unfold reprB2 at e
  split at e
  · rename_i w
    obtain ⟨v, rfl, rv⟩ := r.one
    split at e
    · rename_i c
      simp only [okRepr, Bool.and_eq_true] at c
      obtain ⟨⟨⟨c1, c2⟩, c3⟩, c3'⟩ := c
      have c4 : (deref st w).py.shown.length ≤ sizeLine := PyData.shown_fits_of_layable0 (B := 13) (by decide) (by decide) c3 c3'
      cases e
      have dp := deref_dp rs rv c1
      have q' := q H (.str (deref st w).py.shown) (.refl _) (.str _)
      have hd := SeqAt.depth_of_shaped c1
      obtain ⟨u, rfl, ru⟩ := vals1 rr
      obtain ⟨as, rd⟩ := Dp.reads I _ _ u dp ru
      have nd := hasDict_of c1
      generalize (deref st w).py = dd at *
      cases dp with
      | non =>
        cases ru
        exact PySem.P.repr_of_none ⟨.str _, H, I.tok _, ⟨_, rfl⟩, by simpa [PyData.shown] using q'⟩
      | bl b =>
        cases ru
        exact PySem.P.repr_of_bool ⟨.str _, H, I.tok _, ⟨_, rfl⟩, by simpa [PyData.shown] using q'⟩
      | int i =>
        obtain ⟨t, rfl⟩ := ru
        exact PySem.P.repr_of_int (by simpa [PyData.showable] using c2) ⟨.str _, H, I.tok _, ⟨_, rfl⟩, by simpa [PyData.shown] using q'⟩
      | str x =>
        obtain ⟨t, rfl⟩ := ru
        exact PySem.P.repr_of_str ⟨.str _, H, I.tok _, ⟨_, rfl⟩, by simpa [PyData.shown] using q'⟩ (by simpa [PyData.shown] using c4)
      | lst h1 h2 =>
        cases ru
        exact repr_of_reads' rd c2 (PyData.noDict_hsm nd) gd (by omega) (fun _ _ z => z) (fun h' u tk hk => ⟨.str _, H, I.kept hk, ⟨_, rfl⟩, q'⟩) c4
      | tup h1 h2 =>
        cases ru
        exact repr_of_reads' rd c2 (PyData.noDict_hsm nd) gd (by omega) (fun _ _ z => z) (fun h' u tk hk => ⟨.str _, H, I.kept hk, ⟨_, rfl⟩, q'⟩) c4
    · cases e
  · cases e

theorem op_neStr : OpR X (compareOp .NotEq) (rOf X.kw neStr) := by
  intro pins s σ H x y v u Q I rx ry h
  obtain ⟨ρ, st, d1, d2, d, rs, r1, r2, e, q⟩ := h
  unfold neStr at e
  split at e
  · cases e
    cases r1 with | v r1 => cases r2 with | v r2 => cases r1; cases r2; exact op_ne pins s σ H _ _ v u Q I rx ry ⟨rfl, by have := q _ _ (.refl _) (.bl _); simpa using this⟩
  · cases e
end
mutual
def dEq : D → D → Bool
  | .non, .non => true
  | .bl a, .bl b => a == b
  | .int i, .int j => decide (i = j)
  | .str x, .str y => x.cps.toList == y.cps.toList
  | .tup xs, .tup ys => dEqL xs ys
  | .lst xs, .lst ys => dEqL xs ys
  | _, _ => false
def dEqL : List D → List D → Bool
  | [], [] => true
  | x :: xs, y :: ys => dEq x y && dEqL xs ys
  | _, _ => false
end
mutual
theorem dEq_eq : ∀ {a b : D}, dEq a b = true → a = b
  | .non, b, h => by cases b <;> first | rfl | (simp [dEq] at h; done)
  | .bl a, b, h => by cases b <;> first | (simp [dEq] at h; done) | (simp [dEq] at h; rw [h])
  | .int a, b, h => by cases b <;> first | (simp [dEq] at h; done) | (simp [dEq] at h; rw [h])
  | .str x, b, h => by
    cases b with
    | str y =>
      simp only [dEq, beq_iff_eq] at h
      obtain ⟨⟨x⟩⟩ := x
      obtain ⟨⟨y⟩⟩ := y
      simp only at h
      rw [h]
    | _ => simp [dEq] at h
  | .tup xs, b, h => by
    cases b with
    | tup ys => simp only [dEq] at h; rw [dEqL_eq h]
    | _ => simp [dEq] at h
  | .lst xs, b, h => by
    cases b with
    | lst ys => simp only [dEq] at h; rw [dEqL_eq h]
    | _ => simp [dEq] at h
  | .dct _, b, h => by cases b <;> simp [dEq] at h
  | .ty _, b, h => by cases b <;> simp [dEq] at h
  | .kd _, b, h => by cases b <;> simp [dEq] at h
  | .cod _, b, h => by cases b <;> simp [dEq] at h
  | .ld _, b, h => by cases b <;> simp [dEq] at h
  | .adr _, b, h => by cases b <;> simp [dEq] at h
  | .tupx _, b, h => by cases b <;> simp [dEq] at h
  | .exc _ _, b, h => by cases b <;> simp [dEq] at h
theorem dEqL_eq : ∀ {a b : List D}, dEqL a b = true → a = b
  | [], [], _ => rfl
  | x :: xs, y :: ys, h => by
    simp only [dEqL, Bool.and_eq_true] at h
    rw [dEq_eq h.1, dEqL_eq h.2]
  | [], _ :: _, h | _ :: _, [], h => by simp [dEqL] at h
end
def rne (a b : D) : Bool := if dEq a b then false else !decide (a.py.shown = b.py.shown)
def eRNe (f g : ED) : ED := fun env st => (f env st).bind fun a st => if okRepr (deref st a).py then (let A := deref st a
  (g env st).bind fun b st => if okRepr (deref st b).py then .ok (.v (.bl (rne A (deref st b)))) st else .bad) else .bad
theorem rne_eq (a b : D) : rne a b = !decide (a.py.shown = b.py.shown) := by
  unfold rne
  split
  · rename_i h
    rw [dEq_eq h]
    simp
  · rfl
theorem eRNe_eq (f g : ED) : eRNe f g = eBin neStr (eBlt reprB2 (aCons f aNil)) (eBlt reprB2 (aCons g aNil)) := by
  funext env st
  simp only [eRNe, eBin, eBlt, aCons, aNil]
  cases f env st with
  | exc x y => rfl
  | bad => rfl
  | ok a st1 =>
    simp only [R.bind_ok, reprB2]
    split
    · simp only [ofOp_some, R.bind_ok]
      cases g env st1 with
      | exc x y => rfl
      | bad => rfl
      | ok b st2 =>
        simp only [R.bind_ok]
        split
        · simp only [ofOp_some, R.bind_ok, neStr, rne_eq]
        · rfl
    · rfl
section
variable {X : Cx} {ct : Nat → Value} {E : St → XK} {a b : Expr} {fa fb : ED} {p1 p2 c1 c2 pos : Pos}
theorem de_rep2 {e : Expr} {f : ED} {p c : Pos} (gd : X.A.guards = some []) (hu : X.A.units + 65 < cLine) (hg : Gl X "repr") (hm : X.mg "repr" = none) (h : PE X e (tE X.kw ct E f)) (hs : starEach [e] X.env = [(false, eval e X.env)] := by rfl) :
    PE X (.Call (.Name "repr" p) [e] [] c) (tE X.kw ct E (eBlt reprB2 (aCons f aNil))) := de_callB (cb_repr2 gd hu) hg hm bt_repr (da_cons h da_nil hs) (by decide) (by decide) hs
theorem de_rne (gd : X.A.guards = some []) (hu : X.A.units + 65 < cLine) (hg : Gl X "repr") (hm : X.mg "repr" = none) (ha : PE X a (tE X.kw ct E fa)) (hb : PE X b (tE X.kw ct E fb)) (hs1 : starEach [a] X.env = [(false, eval a X.env)] := by rfl) (hs2 : starEach [b] X.env = [(false, eval b X.env)] := by rfl) :
    PE X (.Compare (.Call (.Name "repr" p1) [a] [] c1) [.NotEq] [.Call (.Name "repr" p2) [b] [] c2] pos) (tE X.kw ct E (eRNe fa fb)) := by
  rw [eRNe_eq]
  exact de_cmp op_neStr (de_rep2 gd hu hg hm ha hs1) (de_rep2 gd hu hg hm hb hs2)
theorem dt_rne (gd : X.A.guards = some []) (hu : X.A.units + 65 < cLine) (hg : Gl X "repr") (hm : X.mg "repr" = none) (ha : PE X a (tE X.kw ct E fa)) (hb : PE X b (tE X.kw ct E fb)) (hs1 : starEach [a] X.env = [(false, eval a X.env)] := by rfl) (hs2 : starEach [b] X.env = [(false, eval b X.env)] := by rfl) :
    PT X (.Compare (.Call (.Name "repr" p1) [a] [] c1) [.NotEq] [.Call (.Name "repr" p2) [b] [] c2] pos) (tT X.kw ct E (tVal (eRNe fa fb))) := by
  rw [eRNe_eq]
  exact dt_cmp op_neStr (de_rep2 gd hu hg hm ha hs1) (de_rep2 gd hu hg hm hb hs2)
end
end Jv
end
section
/-! sorted(.., key=lambda x: ..), the lambda without captured names -/
namespace Jv
open PySem PySem.Spec L2 PyProof.Rows PySem.W
section
variable {X : Cx} {pins : List (Addr × Obj)} {σ : St} {H : Hp} {s : Shared}
/-- the lambda is made -/
theorem lam_make3 {q : Str} {c P : Addr} {params : Arguments} {body : Expr} {scope : Scope} {lpos : Pos} {ps : Array Value} {cs : List Addr} {E : Value → Shared → Prop} {Q : Value → Shared → Prop} (I : Inv X pins σ H s) (TB : LamX.TabB X.base X.mg c P) (hcode : X.env.code = .ref c) (hq : X.env.qual ++ "<lambda>" = q)
    (hP : H P = some (.tbl ps)) (ht : TriplesOk ps.toList) (ha : ∀ (pos : Pos) (cv : Value), codeAmong pos ps.toList = some cv → ∃ c ∈ cs, cv = .ref c) (hdef : defaultsOf params X.env = ([], [])) (hfree : ∀ y ∈ scope.names, y.2 ≠ .free)
    (hnew : ∀ (f c' : Addr) (pm ctv : Value) (s' : Shared), H c' = none → s.heap.objs.size ≤ f → Inv X pins σ (upd (upd H P (.tbl (ps ++ #[rawInt lpos.line, rawInt lpos.col, .ref c']))) c' (LamX.CodeO c' q)) s' → f ≠ c' → f ≠ P →
      s'.heap.get? f = some (kla_obj "<lambda>" q params body scope [] pm c' ctv) → Q (.ref f) s')
    (hhit : ∀ (f c' : Addr) (pm ctv : Value) (s' : Shared), c' ∈ cs → s.heap.objs.size ≤ f → Inv X pins σ H s' → s'.heap.get? f = some (kla_obj "<lambda>" q params body scope [] pm c' ctv) → Q (.ref f) s') :
    wpAny (model X.prog X.w) X.A (eval (.Lambda params body scope lpos) X.env) Q E s := by
  subst hq
  have clo : cloFrom X.env.cells scope.names [] = [] := by
    have gen : ∀ (ns : List (Str × NameKind)), (∀ y ∈ ns, y.2 ≠ .free) → ∀ acc, cloFrom X.env.cells ns acc = acc := by
      intro ns
      induction ns with
      | nil => intro _ acc; rfl
      | cons y r ih =>
        intro h acc
        obtain ⟨n, k⟩ := y
        have hk := h _ List.mem_cons_self
        have hr := ih (fun z hz => h z (List.mem_cons_of_mem _ hz)) acc
        cases k <;> first | exact hr | exact absurd rfl hk
    exact gen _ hfree []
  have hcl : closureFor scope X.env = pure [] := by
    rw [closure_ok fun y hy e => absurd e (hfree y hy), clo]
  refine kla_eval hdef ?_
  have bP : s.heap.BuiltinsAt X.mg P := TB.bm.keeps I.bk
  have hP' : s.heap.get? P = some (tabObj ps) := I.hok P _ hP
  have gl := I.mod.glob.keeps I.bk
  have cd := TB.code.keeps I.bk
  cases hc : codeAmong lpos ps.toList with
  | none =>
    refine kla_makeFunction (mg := X.mg) (c := c) (P := P) (ps := ps) hcl I.ok.glob gl hcode cd hP' ht hc TB.gP bP fun c' ctv h' tk hx hge hlt hrec htb => ?_
    obtain ⟨c2, oc, vs, t, e2, hoc, hd, hv⟩ := hrec
    cases e2
    have sz : s.heap.objs.size ≤ h'.objs.size := by omega
    refine hnew h'.objs.size c' ((X.mg "__name__").getD .none) ctv _ (I.hok.fresh hge) sz ?_ (Nat.ne_of_gt hlt) (Nat.ne_of_gt (Nat.lt_of_lt_of_le (Heap.lt_size hP') sz)) (Heap.get?_push_size _ rfl)
    exact LamX.inv_table (t' := tk) I hP (fun b o hb e => Heap.get?_push_of_some _ (hx b o hb e)) (Heap.get?_push_of_some _ htb) hge ⟨oc, vs, t, Heap.get?_push_of_some _ hoc, hd, hv⟩
  | some cv =>
    obtain ⟨c', hm, rfl⟩ := ha lpos cv hc
    refine kla_makeFunctionHit (mg := X.mg) (c := c) (P := P) (ps := ps) hcl I.ok.glob gl hcode cd hP' ht hc bP fun ctv h' tk hx hsz => ?_
    exact hhit h'.objs.size c' ((X.mg "__name__").getD .none) ctv _ hm hsz (I.kept fun b o e => Heap.get?_push_of_some _ (hx b o e)) (Heap.get?_push_size _ rfl)
end
/-- what the lambda computes -/
def runL (fe : ED) : List W → Sto → R W := fun ws st => noX (runS 1 (sRet fe) ws st)
theorem lam_calls {X : Cx} {ct : Nat → Value} {k : Nat} {pins0 : List (Addr × Obj)} {ρ0 : Rho} {H0 : Hp} {f c' : Addr} {params : Arguments} {body : Expr} {scope : Scope} {pm ctv : Value} {x q : Str} {fe : ED}
    (S : FnScope [x] [x] scope) (gd : X.A.guards = some []) (hr : Room (k + 2) X.A) (hpin : (f, kla_obj "<lambda>" q params body scope [] pm c' ctv) ∈ pins0) (hc : H0 c' = some (LamX.CodeO c' q)) (nc : some c' ∉ ρ0.lc)
    (hbind : ∀ u : Value, bindArgs (kla_fn "<lambda>" q params body scope [] pm (.ref c') ctv) ⟨[u], []⟩ = pure [(x, u)])
    (hbody : ∀ (A : Around) (outer : List PySem.Env) (s : Shared) (H : Hp) (E : XK), A.guards = some [] → Room k (A.deeper (envOfC q scope s.heap.objs.size f (.ref c'))) →
      PE (cxOf CX0 X.prog X.w X.K X.mg X.base [x] q scope f (.ref c') A outer s H E).nox body (tE X.kw ct (fun _ => E0) fe)) :
    CallsTo X ρ0 H0 pins0 f (runL fe) := fun pins σ s' H' ρ' st' st2 v xv d kd hp I' gr rs' ru rd er => by
  have hf := (I'.pin _ (List.mem_append_right _ (hp _ hpin))).1
  obtain ⟨hc', _⟩ := gr.obj c' _ hc nc
  obtain ⟨⟨oc, vs, t, hoc, hdc, hvc⟩, _, _⟩ := I'.hok c' _ hc'
  have hr1 : Room (k + 1) X.A.in1.in1 := by
    have h1 := hr.hd
    have h2 := hr.dp
    have h3 := hr.un
    exact ⟨h1, by show X.A.depth + 3 * (k + 1) + 5 < _; omega, by show X.A.units + 1 + 1 + 16 * (k + 1) + 200 < _; omega⟩
  have e0 : Env0 X.prog X.w X.K X.mg X.base X.A.in1.in1 X.stack s' H' := by
    obtain ⟨q1, q2, q3, q4, q5, q6, q7, q8⟩ := I'.env0
    exact ⟨q1, q2, q3, q4, q5, q6, q7, q8⟩
  have lim : s'.heap.NoLimit := I'.nolimit
  refine kla_callFunE hr1.depth hf rfl S.co S.gen rfl ⟨c', oc, vs, t, rfl, hoc, hdc, hvc⟩ ?_
  rw [hbind]
  refine wpAny_pure (wpAny_newFunctionEnv_cells S.kind ?_ fun env he s1 y => ?_)
  · rintro ⟨n, u⟩ hy
    obtain ⟨rfl, rfl⟩ : n = x ∧ u = v := by simpa using hy
    rcases S.par n (by simp) with z | z
    · exact .inl z
    · exact .inr ⟨z, cellsFrom_some _ _ _ (.inl z)⟩
  · subst he
    refine ⟨lim.keeps y.toInCall.keep, kla_codeExpr ?_⟩
    have I : Inv (cxOf CX0 X.prog X.w X.K X.mg X.base [x] q scope f (.ref c') X.A.in1.in1 X.stack s' H' E0) [] (start [x] [xv]) H' s1 := inv_start (us := [v]) S hr1.hd e0 rfl (.cons ru .nil) y
    have hb := (hbody X.A.in1.in1 X.stack s' H' E0 gd (hr1.deeper _)).nox
    have er' : okS X.kw ct ρ' H' (fun _ => E0) { nx := fun _ H' => False, rt := fun y2 H2 => ∃ ρ2, Grow ρ' H' ρ2 H2 ∧ RelSt X.kw ρ2 H2 st2 ∧ Rw X.kw ρ2 H2 y2 (.v kd) } (sRet fe [some (.v d)] st') := by
      have fo := fin_ok (K := X.kw) (ct := ct) (E := E0) (Q := fun y2 H2 => ∃ ρ2, Grow ρ' H' ρ2 H2 ∧ RelSt X.kw ρ2 H2 st2 ∧ Rw X.kw ρ2 H2 y2 (.v kd)) (r := sRet fe [some (.v d)] st') rs' (by
        have er2 : noX (fin st'.length (sRet fe [some (.v d)] st')) = .ok (.v kd) st2 := er
        cases ef : fin st'.length (sRet fe [some (.v d)] st') with
        | ok a b =>
          rw [ef] at er2
          simp only [noX_ok, R.ok.injEq] at er2
          obtain ⟨rfl, rfl⟩ := er2
          exact fun ρ2 H2 y2 g2 s2 r2 => ⟨ρ2, g2, s2, r2⟩
        | exc a b => rw [ef] at er2; cases er2
        | bad => rw [ef] at er2; cases er2)
      unfold sRet R.thenS at fo ⊢
      cases ee : fe [some (.v d)] st' with
      | ok w st3 => rw [ee] at fo; exact fo
      | exc a b => rw [ee] at fo; exact fo
      | bad => rw [ee] at fo; exact fo
    have re : RelEnv X.kw ρ' H' (start [x] [xv]) [some (.v d)] := relEnv_start (N := [x]) (ws := [.v d]) (.cons (.v rd) .nil)
    have h1 : tE X.kw ct (fun _ => E0) fe (start [x] [xv]) H' (fun y2 H2 => ∃ ρ2, Grow ρ' H' ρ2 H2 ∧ RelSt X.kw ρ2 H2 st2 ∧ Rw X.kw ρ2 H2 y2 (.v kd)) :=
      ⟨ρ', st', _, ⟨rs', re⟩, (okS.first (rel := Rw) er' re).mono fun v H1 ⟨ρ1, st1, w, a1, g1, r1, q1⟩ => q1 ρ1 H1 v (.refl _ _) a1.1 r1⟩
    refine wpAny_mono (hb.run [] s1 (start [x] [xv]) H' _ I h1) (fun u s2 hq => ?_) fun e s2 hq => hq
    obtain ⟨w', H2, J, rv, qq⟩ := hq
    exact ⟨w', H2, J.os, J.bare, J.base, J.hok, rv, qq⟩
end Jv
namespace Jv
open PySem PySem.Spec L2 PyProof.Rows PySem.W
def tabAt (st : Sto) (l : Nat) (p : Str × Option Str) (q : Str) : Bool := match st[l]? with
  | some (.tab p' q') => decide (p' = p) && decide (q' = q)
  | _ => false
def lSortL (l : Nat) (p : Str × Option Str) (q : Str) (fe : ED) (g : AD) : LD := fun env st => (g env st).bind fun ws st => match ws with
  | [w] => match asLst st w with
    | some ds => if tabAt st l p q then sortK (runL fe) ds st else .bad
    | none => .bad
  | _ => .bad
section
variable {X : Cx} {ct : Nat → Value} {E : St → XK} {p pos lpos kpos : Pos} {e : Expr} {f : ED}
/-- behind the making: the table is known as before -/
theorem grow_lam {K : KW} {ρ : Rho} {H : Hp} {st : Sto} {l : Nat} {P c' : Addr} {pn : Str × Option Str} {q : Str} {ps more : Array Value} {cs : List Addr} (s : RelSt K ρ H st) (hl : st[l]? = some (.tab pn q)) (hp : ρ.lc[l]? = some (some P)) (hP : P = (He.cT K.K pn).2) (nC : H c' = none)
    (hT : H P = some (.tbl ps)) (ht : TriplesOk (ps ++ more).toList) (ha : ∀ (pos : Pos) (cv : Value), codeAmong pos (ps ++ more).toList = some cv → ∃ c ∈ c' :: cs, cv = .ref c) (rc : RlAll K ρ H (cs.map V.ref) (cs.map fun _ => D.cod q)) :
    Grow ρ H ρ (upd (upd H P (.tbl (ps ++ more))) c' (LamX.CodeO c' q)) ∧ RelSt K ρ (upd (upd H P (.tbl (ps ++ more))) c' (LamX.CodeO c' q)) st := by
  have nP : P ≠ c' := ne_of_none hT nC
  have g1 : Grow ρ H ρ (upd H P (.tbl (ps ++ more))) := .write hp
  have nC1 : (upd H P (.tbl (ps ++ more))) c' = none := by rw [upd_ne (Ne.symm nP)]; exact nC
  have sm : Same (upd H P (.tbl (ps ++ more))) (upd (upd H P (.tbl (ps ++ more))) c' (LamX.CodeO c' q)) := same_upd nC1
  have g2 : Grow ρ H ρ (upd (upd H P (.tbl (ps ++ more))) c' (LamX.CodeO c' q)) := g1.trans (.same sm)
  have nm : ¬ ρ.mut c' := s.fresh nC
  refine ⟨g2, ⟨s.len, s.inj, fun i ob ei => ?_, fun a h => ?_, s.apart, s.ord⟩⟩
  · rcases s.obj i ob ei with z | ⟨a, e1, o⟩
    · exact .inl z
    · refine .inr ⟨a, e1, ?_⟩
      by_cases hi : i = l
      · subst hi
        rw [hl] at ei
        cases ei
        rw [hp] at e1
        cases e1
        refine ⟨hP, ps ++ more, c' :: cs, by rw [upd_ne nP, upd_same], ht, ha, ?_⟩
        exact .cons (.cod upd_same nm) (rc.grow g2)
      · have na : a ≠ P := fun z => hi (s.inj i l P (z ▸ e1) hp)
        refine o.mono (fun u hu => ?_) (fun _ _ z => z.grow g2) fun _ _ z => z.grow g2
        have nc : a ≠ c' := ne_of_none hu nC
        rw [upd_ne nc, upd_ne na]
        exact hu
  · obtain ⟨u, hu⟩ := s.hidt a h
    have nc : a ≠ c' := ne_of_none hu nC
    have na : a ≠ P := fun z => s.apart P (List.mem_of_getElem? hp) (z ▸ h)
    exact ⟨u, by rw [upd_ne nc, upd_ne na]; exact hu⟩
theorem df_sortLam {l k : Nat} {pn : Str × Option Str} {q x : Str} {params : Arguments} {body : Expr} {scope : Scope} {fe : ED} (gd : X.A.guards = some []) (hr : Room (k + 2) X.A) (TB : LamX.TabB X.base X.mg (He.cT X.K pn).1 (He.cT X.K pn).2) (hcode : X.env.code = .ref (He.cT X.K pn).1) (hq : X.env.qual ++ "<lambda>" = q)
    (S : FnScope [x] [x] scope) (hdef : defaultsOf params X.env = ([], [])) (hbind : ∀ (pm ctv : Value) (c' : Addr) (u : Value), bindArgs (kla_fn "<lambda>" q params body scope [] pm (.ref c') ctv) ⟨[u], []⟩ = pure [(x, u)])
    (hbody : ∀ (f c' : Addr) (A : Around) (outer : List PySem.Env) (s : Shared) (H : Hp) (E : XK), A.guards = some [] → Room k (A.deeper (envOfC q scope s.heap.objs.size f (.ref c'))) →
      PE (cxOf CX0 X.prog X.w X.K X.mg X.base [x] q scope f (.ref c') A outer s H E).nox body (tE X.kw ct (fun _ => E0) fe))
    (hgs : Gl X "sorted") (hm : X.mg "sorted" = none) (h : PE X e (tE X.kw ct E f))
    (hs : starEach [e] X.env = [(false, eval e X.env)] := by rfl)
    (he : backTo pos (starEach [e] X.env) = (false, eval e X.env) :: backTo pos (starEach [] X.env) := by rfl) (hpl : (backTo pos (starEach [e] X.env)).any (·.1) = false := by rfl)
    (hall : (backToKw pos (keywordEach [⟨some (Str.ofString "key"), .Lambda params body scope lpos, kpos⟩] X.env)).all (·.1.isSome) = true := by rfl) (hnone : (backToKw pos (keywordEach [⟨some (Str.ofString "key"), .Lambda params body scope lpos, kpos⟩] X.env)).any (·.1.isNone) = false := by rfl) (hks : (backToKw pos (keywordEach [⟨some (Str.ofString "key"), .Lambda params body scope lpos, kpos⟩] X.env)).filterMap (·.1) = [Str.ofString "key"] := by rfl) :
    PE X (.Call (.Name "sorted" p) [e] [⟨some (Str.ofString "key"), .Lambda params body scope lpos, kpos⟩] pos) (tF X.kw ct E (lSortL l pn q fe (aCons f aNil))) := by
  have ha : PA X [e] (tA X.kw ct E (aCons f aNil)) := da_cons h da_nil hs
  refine ⟨fun pins s σ H Q I hq0 => ?_⟩
  obtain ⟨ρ, st, env, at0, hok⟩ := hq0
  refine wpAny_Call_Name_kw (ld_blt I hgs hm bt_sorted ?_ (by decide) (by decide))
  have hA : tA X.kw ct E (aCons f aNil) σ H (fun vs H1 => ∃ ρ1 st1 w ds v, vs = [v] ∧ At X.kw ρ1 H1 st1 σ env ∧ Grow ρ H ρ1 H1 ∧ Rw X.kw ρ1 H1 v w ∧ asLst st1 w = some ds ∧ tabAt st1 l pn q = true ∧ okF X.kw ct ρ1 H1 (E σ) Q (sortK (runL fe) ds st1)) := by
    refine ⟨ρ, st, env, at0, ?_⟩
    unfold lSortL at hok
    cases ef : aCons f aNil env st with
    | exc y st1 => rw [ef] at hok; exact hok
    | bad => rw [ef] at hok; exact hok.elim
    | ok ws st1 =>
      rw [ef] at hok
      simp only [R.bind_ok] at hok
      intro ρ1 H1 vs g1 s1 r1
      split at hok
      · rename_i w
        cases ea : asLst st1 w with
        | none => rw [ea] at hok; exact hok.elim
        | some ds =>
          rw [ea] at hok
          simp only at hok
          split at hok
          · rename_i ht
            obtain ⟨v, rfl, rv⟩ := r1.one
            exact ⟨ρ1, st1, w, ds, v, rfl, ⟨s1, at0.2.grow g1⟩, g1, rv, ea, ht, hok.grow g1⟩
          · exact hok.elim
      · exact hok.elim
  refine PyProof.Rows.callWith_kw (thn (ha.run pos pins s σ H _ I hA) fun us s1 ⟨vs, H1, I1, r1, ρ1, st1, w, ds, v, ev, a1, g1, rv, ea, ht, hok1⟩ => ?_) he hpl hall hnone
  subst ev
  obtain ⟨la, xs, rfl, hS, hR⟩ := lst_of a1.1 rv ea
  rw [Vals.ref1 r1]
  unfold tabAt at ht
  split at ht
  rotate_left
  · cases ht
  rename_i p' q' hl
  simp only [Bool.and_eq_true, decide_eq_true_eq] at ht
  obtain ⟨rfl, rfl⟩ := ht
  rcases a1.1.obj l _ hl with ⟨z, _⟩ | ⟨P, hp, hP, ps, cs, hT, htr, hcs, rc⟩
  · cases z
  subst hP
  have nlc : ∀ {b : Addr} {u : HO}, H1 b = some u → (∀ qs, u ≠ .tbl qs) → b ≠ (He.cT X.K p').2 := fun {b u} hb hu z => by
    rw [z, hT] at hb
    cases hb
    exact hu _ rfl
  have fin : ∀ (f c' : Addr) (pm ctv : Value) (s2 : Shared) (H2 : Hp), Grow ρ1 H1 ρ1 H2 → RelSt X.kw ρ1 H2 st1 → Inv X pins σ H2 s2 → H2 f = none → s1.heap.objs.size ≤ f → H2 c' = some (LamX.CodeO c' q') → some c' ∉ ρ1.lc → SqL X.K H2 la xs →
      s2.heap.get? f = some (kla_obj "<lambda>" q' params body scope [] pm c' ctv) → wpAny (model X.prog X.w) X.A (call (.builtin "sorted") [.ref la] [(Str.ofString "key", .ref f)]) (EP X pins σ Q) X.xe s2 := fun f c' pm ctv s2 H2 g2 s2' I2 hfn szf hc2 nc hS2 ho => by
    have fp : FpOk X pins H2 f := I1.fpOk szf hfn
    have I3 : Inv X ((f, kla_obj "<lambda>" q' params body scope [] pm c' ctv) :: pins) σ H2 s2 := I2.pins_of fun pp hpp => by
      rcases List.mem_cons.mp hpp with z | hpp
      · subst z
        exact ⟨ho, hfn, fp.2.1, fp.2.2.1, fun v z => nomatch z⟩
      · exact I2.pin pp (List.mem_append_right _ hpp)
    have C : CallsTo X ρ1 H2 ((f, kla_obj "<lambda>" q' params body scope [] pm c' ctv) :: pins) f (runL fe) := lam_calls (ct := ct) S gd hr List.mem_cons_self hc2 nc (hbind pm ctv c') (hbody f c')
    refine thn (sort_by (by have := hr.un; omega) I3 hS2 (hR.grow g2) s2' C ((okF_ct hok1).grow g2)) fun u s4 ⟨v4, H4, I4, r4, q4⟩ => ⟨v4, H4, I4.pins_of fun pp hpp => I4.pin pp (List.mem_append_right _ (List.mem_cons_of_mem _ hpp)), r4, q4⟩
  show wpAny _ _ (evalAll ((do let v ← eval (.Lambda params body scope lpos) X.env; standAt pos; pure v) :: [])) _ _ s1
  refine wpAny_evalAll_cons (wpAny_bind (lam_make3 I1 TB hcode hq hT htr hcs hdef S.nofree (fun f c' pm ctv s2 nC szf I2 nfc nfP ho => ?_) (fun f c' pm ctv s2 hmc szf I2 ho => ?_)))
  · refine wpAny_bind (wpAny_standAt (wpAny_pure (wpAny_evalAll_nil ?_)))
    rw [hks]
    have hTr' : TriplesOk (ps ++ #[rawInt lpos.line, rawInt lpos.col, .ref c']).toList := by
      have : (ps ++ #[rawInt lpos.line, rawInt lpos.col, .ref c']).toList = ps.toList ++ [rawInt lpos.line, rawInt lpos.col, .ref c'] := by simp
      rw [this]
      exact PySem.TriplesOk_snoc _ _ _ _ htr
    have hcs' : ∀ (pos : Pos) (cv : Value), codeAmong pos (ps ++ #[rawInt lpos.line, rawInt lpos.col, .ref c']).toList = some cv → ∃ c ∈ c' :: cs, cv = .ref c := fun pos' cv hc => by
      have ee : (ps ++ #[rawInt lpos.line, rawInt lpos.col, .ref c']).toList = ps.toList ++ [rawInt lpos.line, rawInt lpos.col, .ref c'] := by simp
      rw [ee] at hc
      rcases LamX.among_app _ htr hc with z | z
      · obtain ⟨c0, m0, e0⟩ := hcs pos' cv z
        exact ⟨c0, List.mem_cons_of_mem _ m0, e0⟩
      · exact ⟨c', List.mem_cons_self, z⟩
    obtain ⟨g2, s2'⟩ := grow_lam a1.1 hl hp rfl nC hT hTr' hcs' rc
    refine fin f c' pm ctv s2 _ g2 s2' I2 (by rw [upd_ne nfc, upd_ne nfP]; exact I1.hok.fresh szf) szf upd_same (fun z => a1.1.fresh nC (.inl z)) ?_ ho
    rcases hS with h | h
    · rcases h with h | ⟨o, h⟩
      · exact .inl (.inl (by rw [upd_ne (ne_of_none h nC), upd_ne (nlc h fun qs z => nomatch z)]; exact h))
      · exact .inl (.inr ⟨o, by rw [upd_ne (ne_of_none h nC), upd_ne (nlc h fun qs z => nomatch z)]; exact h⟩)
    · exact .inr h
  · refine wpAny_bind (wpAny_standAt (wpAny_pure (wpAny_evalAll_nil ?_)))
    rw [hks]
    obtain ⟨hcO, ncm⟩ : H1 c' = some (LamX.CodeO c' q') ∧ ¬ ρ1.mut c' := by
      have gen : ∀ cs : List Addr, RlAll X.kw ρ1 H1 (cs.map V.ref) (cs.map fun _ => D.cod q') → c' ∈ cs → H1 c' = some (LamX.CodeO c' q') ∧ ¬ ρ1.mut c' := by
        intro cs
        induction cs with
        | nil => intro _ hm; cases hm
        | cons c0 r ih =>
          intro rr hm
          cases rr with
          | cons r0 rs =>
            rcases List.mem_cons.mp hm with z | hm
            · subst z
              cases r0 with
              | cod h n => exact ⟨h, n⟩
            · exact ih rs hm
      exact gen cs rc hmc
    exact fin f c' pm ctv s2 H1 (.refl _ _) a1.1 I2 (I1.hok.fresh szf) szf hcO (fun z => ncm (.inl z)) hS ho
end
end Jv
end
section
/-! a def whose code object is told; the law's call where tables of code objects are filled -/
namespace Jv
open PySem PySem.Spec L2 PyProof.Rows PySem.W
theorem fnG_ofT {CX : CXT} {P : Program} {w : World} {K : PySem.W.Frag} {mg : Str → Option Value} {base : Heap} {k : Nat} {pn : Str × Option Str} {x qual : Str} {st : Stmt} {fd : FuncData} {N ps : List Str} {sp : Sp}
    (F : Fun K x qual st (He.fAd K pn) fd) (S : FnScope N ps (defScope st)) (len : ∀ vs H Q E, sp vs H Q E → vs.length = ps.length)
    (hbody : ∀ (A : Around) (outer : List PySem.Env) (s : Shared) (H : Hp) (vs : List V) (Q : VK) (E : XK), A.guards = some [] → Room k (A.deeper (envOfC qual (defScope st) s.heap.objs.size (He.fAd K pn) (.ref (He.cT K pn).1))) → sp vs H Q E →
      ∃ t, PSs (cxOf CX P w K mg base N qual (defScope st) (He.fAd K pn) (.ref (He.cT K pn).1) A outer s H E) (defBody st) t ∧ t { nx := fun _ H' => Q .non H', rt := Q } (start N vs) H) :
    FnG P w K mg base CX (k + 1) (He.fAd K pn) fd ps sp := by
  obtain ⟨oc, od, kV, doc, pm, an, cdv, ct, osl, rfl, lk, hcd⟩ := F.ex
  have ec : cdv = .ref (He.cT K pn).1 := by
    obtain ⟨c, rfl⟩ := He.codeIn_ref hcd
    show Value.ref c = .ref (He.codeOf K pn)
    rw [He.codeOf_eq lk rfl]
  subst ec
  refine ⟨len, fun A outer s H args us vs Q E gd hr e0 hb r hsp => ?_⟩
  have hl := len _ _ _ _ hsp
  have KX : K.In s.heap := e0.mod.kin.keeps (fun b o e => (e0.bs b o e).1)
  have lim : s.heap.NoLimit := e0.mod.nolimit.keeps (fun b o e => (e0.bs b o e).1)
  refine codeAny_call_function hr.depth (KX _ _ lk) rfl S.co S.gen rfl (PySem.W.codeRec_of KX hcd) (hb _ _ _ _ ?_)
  refine wpAny_newFunctionEnv_cells S.kind ?_ (fun env he s1 y => ?_)
  · rintro ⟨n, v⟩ hy
    rcases S.par n (List.of_mem_zip hy).1 with q | q
    · exact .inl q
    · exact .inr ⟨q, PySem.W.cellsFrom_some _ _ _ (.inl q)⟩
  · subst he
    refine ⟨lim.keeps y.toInCall.keep, codeAny_func ?_⟩
    obtain ⟨t, ht, hq⟩ := hbody A outer s H vs Q E gd (hr.deeper _) hsp
    have I : Inv (cxOf CX P w K mg base N qual (defScope st) (He.fAd K pn) (.ref (He.cT K pn).1) A outer s H E) [] (start N vs) H s1 := inv_start S hr.hd e0 hl r y
    refine wpAny_mono (ht.run [] s1 (start N vs) H _ I hq) ?_ (fun e s' hs => hs)
    rintro (_ | _ | _ | u) s' hs
    · obtain ⟨σ', H', J, q⟩ := hs
      exact ⟨.non, H', J.os, J.bare, J.base, J.hok, rfl, q⟩
    · obtain ⟨_, _, _, q⟩ := hs
      exact q.elim
    · obtain ⟨_, _, _, q⟩ := hs
      exact q.elim
    · obtain ⟨v, σ', H', J, rv, q⟩ := hs
      exact ⟨v, H', J.os, J.bare, J.base, J.hok, rv, q⟩
/-- a def that lets no error out, its code object told -/
theorem fn_den0T {P : Program} {w : World} {K : PySem.W.Frag} {mg : Str → Option Value} {base : Heap} {ct : Nat → Value} {k : Nat} {pn : Str × Option Str} {x qual : Str} {st : Stmt} {fd : FuncData} {N ps : List Str} {den : SD}
    (F : Fun K x qual st (He.fAd K pn) fd) (S : FnScope N ps (defScope st))
    (body : ∀ (A : Around) (outer : List PySem.Env) (s : Shared) (H : Hp) (E : XK), A.guards = some [] → Room k (A.deeper (envOfC qual (defScope st) s.heap.objs.size (He.fAd K pn) (.ref (He.cT K pn).1))) →
      PSs (cxOf CX0 P w K mg base N qual (defScope st) (He.fAd K pn) (.ref (He.cT K pn).1) A outer s H E).nox (defBody st) (tS ⟨K, w, mg⟩ ct (fun _ => E0) den)) :
    FnG P w K mg base CX0 (k + 1) (He.fAd K pn) fd ps (spG ⟨K, w, mg⟩ ct ps.length fun ws st => noX (runS N.length den ws st)) := by
  refine fnG_ofT F S (fun vs H Q E ⟨_, _, _, _, _, h, _⟩ => h) fun A outer s H vs Q E gd hr ⟨ρ, st', ws, rs, rw', hl, h⟩ => ⟨_, (body A outer s H E gd hr).nox, ?_⟩
  refine ⟨ρ, st', _, ⟨rs, relEnv_start rw'⟩, fin_ok rs ?_⟩
  show okG ⟨K, w, mg⟩ ct Rw ρ H E0 Q (runS N.length den ws st')
  replace h : okG ⟨K, w, mg⟩ ct Rw ρ H E Q (noX (runS N.length den ws st')) := h
  cases e : runS N.length den ws st' with
  | ok a b => rw [e] at h; exact h
  | exc a b => rw [e] at h; exact h.elim
  | bad => rw [e] at h; exact h.elim
/-- the abstract heap at the law's start: the script, the tables -/
def H0 (a : Addr) (vs : List Value) (ns : List Int) (fz : Bool) (tb : List Addr) : Hp := fun b =>
  if fz = true ∧ b = a then some (.frz { cls := .type "list", data := .seq vs.toArray } (.lst (ns.map V.int))) else if b ∈ tb then some (.tbl #[]) else none
theorem law_callTG {P : Program} {w : World} {K : PySem.W.Frag} {mg mb : Str → Option Value} {k : Nat} {fa a : Addr} {cs : List (Addr × Addr)} {fd : FuncData} {x : Str} {sp : Sp} {s₁ : Shared} {vs : List Value} {ns : List Int}
    (KX : K.In s₁.heap) (hns : s₁.heap.Ns mainGlobals mg) (hb : s₁.heap.Ns builtinsNs mb) (hbb : ∀ x : Str, x ≠ "__name__" → mb x = bootBuiltins x) (hlim : s₁.heap.NoLimit) (hg : s₁.gens = #[])
    (hT : ∀ p ∈ cs, s₁.heap.get? p.2 = some (tabObj #[])) (nT : ∀ p ∈ cs, K.lookup p.2 = none) (C : ∀ p ∈ cs, CodeHd s₁.heap p.1 p.2)
    (hbm : ∃ (bm : Addr) (ob : Obj), mg "__builtins__" = some (.ref bm) ∧ bm ≠ builtinsNs ∧ s₁.heap.get? bm = some ob ∧ ob.cls = .type "module" ∧ ob.dict = some builtinsNs ∧ ob.data = .plain)
    (ha : s₁.heap.get? a = some { cls := .type "list", data := .seq vs.toArray }) (hi : IntsAre vs ns) (hl : ns.length ≤ sizeLine) (hr : Room k callerA)
    (F : ∀ base : Heap, K.In base → base.Ns mainGlobals mg → (∀ p ∈ cs, LamX.TabB base mg p.1 p.2) → FnG P w K mg base CX0 k fa fd [x] sp) (hbind : ∀ (s : Shared) (u : Value), BindsTo s fd ⟨[u], []⟩ [(x, u)])
    (hsp : ∀ H : Hp, (∀ p ∈ cs, H p.2 = some (.tbl #[])) → a ∉ cs.map (·.2) → SqL K H a (ns.map V.int) → sp [.ref a] H (fun v _ => v = .bl true) fun _ _ _ => False) :
    codeAny (model P w) callerA (.call (.ref fa) ⟨[.ref a], []⟩) (fun r s' => r = .ok (.ret (.bool true)) ∧ OldK s₁.heap s'.heap ∧ s'.os = s₁.os ∧ AllBare s'.gens) s₁ := by
  have rv := vals_ints hi
  have tabs : ∀ b : Addr, b ∈ cs.map (·.2) → s₁.heap.get? b = some (tabObj #[]) ∧ K.lookup b = none := by
    intro b h
    obtain ⟨p, hp, rfl⟩ := List.mem_map.mp h
    exact ⟨hT p hp, nT p hp⟩
  have aT : a ∉ cs.map (·.2) := fun z => by
    have := (tabs a z).1
    rw [ha] at this
    cases this
  have go : ∀ fz : Bool, (fz = true → K.lookup a = none) → SqL K (H0 a vs ns fz (cs.map (·.2))) a (ns.map V.int) →
      codeAny (model P w) callerA (.call (.ref fa) ⟨[.ref a], []⟩) (fun r s' => r = .ok (.ret (.bool true)) ∧ OldK s₁.heap s'.heap ∧ s'.os = s₁.os ∧ AllBare s'.gens) s₁ := by
    intro fz hfz hS
    generalize eH : H0 a vs ns fz (cs.map (·.2)) = H at hS
    have atT : ∀ p ∈ cs, H p.2 = some (.tbl #[]) := fun p hp => by
      have m : p.2 ∈ cs.map (·.2) := List.mem_map.mpr ⟨p, hp, rfl⟩
      rw [← eH]
      unfold H0
      rw [if_neg (show ¬ (fz = true ∧ p.2 = a) from fun z => aT (z.2 ▸ m)), if_pos m]
    have what : ∀ b u, H b = some u → (b = a ∧ K.lookup a = none ∧ u = .frz { cls := .type "list", data := .seq vs.toArray } (.lst (ns.map V.int))) ∨ (b ∈ cs.map (·.2) ∧ u = .tbl #[]) := fun b u e => by
      rw [← eH] at e
      unfold H0 at e
      split at e
      · rename_i z
        cases e
        exact .inl ⟨z.2, hfz z.1, rfl⟩
      · split at e
        · rename_i m
          cases e
          exact .inr ⟨m, rfl⟩
        · cases e
    have hok : HOk P w H s₁.heap := fun b u e => by
      rcases what b u e with ⟨rfl, _, rfl⟩ | ⟨m, rfl⟩
      · exact ⟨ha, by rw [List.length_map]; exact hl, vs, _, rv, ha⟩
      · exact (tabs b m).1
    have off : ∀ {b : Addr} {o : Obj}, s₁.heap.get? b = some o → (∀ us n, o.data ≠ .seq us n) → o.data ≠ .fields #[] → H b = none := fun {b o} e n1 n2 => by
      cases q : H b with
      | none => rfl
      | some u =>
        exfalso
        rcases what b u q with ⟨rfl, _, _⟩ | ⟨m, _⟩
        · rw [ha] at e
          cases e
          exact n1 _ _ rfl
        · rw [(tabs b m).1] at e
          cases e
          exact n2 rfl
    have ns' : ∀ {b : Addr} {m : Str → Option Value}, s₁.heap.Ns b m → (hidT s₁.heap H).Ns b m := by
      rintro b m ⟨o, es, ep, e, d, r⟩
      refine ⟨o, es, ep, hidT_get e (off e (fun us n z => ?_) fun z => ?_), d, r⟩ <;> rw [d] at z <;> cases z
    have hKb : K.In (hidT s₁.heap H) := by
      intro b o e
      refine hidT_get (KX b o e) ?_
      cases q : H b with
      | none => rfl
      | some u =>
        exfalso
        rcases what b u q with ⟨rfl, z, _⟩ | ⟨m, _⟩
        · rw [z] at e; cases e
        · rw [(tabs b m).2] at e; cases e
    have hM : Mod K mg (hidT s₁.heap H) := ⟨hKb, ns' hns, ⟨mb, ns' hb, hbb⟩, let ⟨mc, h1, h2⟩ := hlim; ⟨mc, ns' h1, h2⟩⟩
    have TB : ∀ p ∈ cs, LamX.TabB (hidT s₁.heap H) mg p.1 p.2 := fun p hp => by
      refine ⟨?_, ?_, fun z => ?_⟩
      · obtain ⟨o, us, fl, t1, fg, t2, inF, tx, t3, e1, c1, c2, c3, more⟩ := C p hp
        refine ⟨o, us, fl, t1, fg, t2, inF, tx, t3, hidT_get e1 (off e1 (fun us n z => ?_) fun z => ?_), c1, c2, c3, more⟩
        · rw [c2] at z; cases z
        · rw [c2] at z; cases z; simp at c3
      · obtain ⟨bm, ob, b1, b2, b3, b4, b5, b6⟩ := hbm
        refine ⟨bm, ob, b1, b2, ?_, ?_, hidT_get b3 (off b3 (fun us n z => ?_) fun z => ?_), b4, b5, b6⟩
        · rintro rfl
          obtain ⟨o, es, ep, e, d, _⟩ := hns
          rw [e] at b3; cases b3
          rw [d] at b6; cases b6
        · rintro rfl
          rw [hT p hp] at b3; cases b3; cases b6
        · rw [b6] at z; cases z
        · rw [b6] at z; cases z
      · obtain ⟨o, es, ep, e, d, _⟩ := hns
        rw [z, hT p hp] at e
        cases e; cases d
    have e0 : Env0 P w K mg (hidT s₁.heap H) callerA [] s₁ H := ⟨rfl, hM, fun b o e => of_hidT e, Nat.le_of_eq (hidT_size _ _), trivial, fun b z => absurd (show b ∈ ([] : List Addr) from z) (by simp), hok, .of_eq hg⟩
    refine codeAny_mono ((F _ hKb (ns' hns) TB).run callerA [] s₁ H ⟨[.ref a], []⟩ [.ref a] [.ref a] _ _ rfl hr e0 (hbind s₁ (.ref a)) (.cons rfl .nil) (hsp H atT aT hS)) ?_
    rintro (e | (_ | _ | _ | u)) s' h
    · exact h.elim
    · exact h.elim
    · exact h.elim
    · exact h.elim
    · obtain ⟨v, H', os, bare, un, hok', r', q⟩ := h
      cases (show v = .bl true from q)
      cases (show u = Value.bool true from r')
      have grown : ∀ b ∈ cs.map (·.2), ∃ more : Array Value, s'.heap.get? b = some (tabObj more) := fun b m => by
        obtain ⟨p, hp, rfl⟩ := List.mem_map.mp m
        obtain ⟨more, z⟩ := un.tbls p.2 #[] (atT p hp)
        exact ⟨_, hok' p.2 _ z⟩
      have same : ∀ b o, b ∉ cs.map (·.2) → s₁.heap.get? b = some o → s'.heap.get? b = some o := fun b o nb e => by
        cases qb : H b with
        | none => exact un.keep b o e qb (fun y => absurd (show b ∈ ([] : List Addr) from y) (by simp)) (by simp)
        | some u =>
          rcases what b u qb with ⟨rfl, _, rfl⟩ | ⟨m, _⟩
          · obtain ⟨e2, _⟩ := hok' b _ (un.frzs b _ _ qb)
            rw [ha] at e; cases e
            exact e2
          · exact absurd m nb
      refine ⟨rfl, ⟨fun b o e => ?_, fun b o e => ?_⟩, os, bare⟩
      · by_cases m : b ∈ cs.map (·.2)
        · obtain ⟨more, hm⟩ := grown b m
          obtain ⟨p, hp, rfl⟩ := List.mem_map.mp m
          rw [hT p hp] at e
          cases e
          exact .inr (.inl ⟨((C p hp).tab (hT p hp)).isCodeTable, rfl, #[], more, rfl, by rw [Array.empty_append]; exact hm⟩)
        · exact .inl (same b o m e)
      · by_cases m : b ∈ cs.map (·.2)
        · exact let ⟨more, hm⟩ := grown b m; ⟨_, hm⟩
        · exact ⟨o, same b o m e⟩
  cases hk : K.lookup a with
  | some o =>
    have e := KX a o hk
    rw [ha] at e
    cases e
    exact go false (fun z => nomatch z) (.inr ⟨_, vs.toArray, _, hk, rfl, rfl, rfl, by rw [List.size_toArray, hi.length]; exact hl, by simpa using rv⟩)
  | none => exact go true (fun _ => hk) (.inl (.inr ⟨_, if_pos ⟨rfl, rfl⟩⟩))
theorem walkTG {l : PySem.W.OpenLaw} {n k : Nat} {q : Program} {loose : List Str} {XP : (Str → Option Value) → Heap → Prop} {YP : World → Heap → Prop} {d : DefRec} {x : Str}
    (hn : l.most = some n) (hn2 : n ≤ sizeLine) (hdf : d.params.defaults = []) (hr : Room k callerA)
    (F : ∀ (w : World) (mg : Str → Option Value) (fa : Addr) (h : Heap), YP w h → h.Ns mainGlobals mg → mg d.name = some (.ref fa) →
      ∃ (K : PySem.W.Frag) (cs : List (Addr × Addr)) (fd : FuncData) (sp : Sp), K.In h ∧ (∀ p ∈ cs, h.get? p.2 = some (tabObj #[])) ∧ (∀ p ∈ cs, K.lookup p.2 = none) ∧ (∀ p ∈ cs, CodeHd h p.1 p.2) ∧ (∀ (s : Shared) (u : Value), BindsTo s fd ⟨[u], []⟩ [(x, u)]) ∧
        (∀ (H : Hp) (a : Addr) (ns : List Int), ns.length ≤ n → (∀ p ∈ cs, H p.2 = some (.tbl #[])) → a ∉ cs.map (·.2) → SqL K H a (ns.map V.int) → sp [.ref a] H (fun v _ => v = .bl true) fun _ _ _ => False) ∧
        ∀ base : Heap, K.In base → base.Ns mainGlobals mg → (∀ p ∈ cs, LamX.TabB base mg p.1 p.2) → FnG l.prog w K mg base CX0 k fa fd [x] sp) :
    PySem.W.WalkO q loose XP YP l.row.toRowW d [] (fun f vs => PySem.call f vs) := by
  refine Att.attach_call hn hdf ?_
  intro w s₀ s₁ mg mb fa o pm cd doc a vs ns G Y ho hd hcd hmg hobj hints hlen hg
  obtain ⟨K, cs, fd, sp, KX, hT, nT, C, hb, hsp, hF⟩ := F w mg fa _ Y G.T.g hmg
  exact law_callTG KX G.T.g G.T.b G.T.builtins G.T.nolimit hg hT nT C G.T.bmain hobj hints (Nat.le_trans hlen hn2) hr hF hb (fun H hH hA hS => hsp H a ns hlen hH hA hS)
end Jv
end
section
namespace Jv
open PySem PySem.Spec L2 PyProof.Rows PySem.W
/-! ### zip of two tuples -/
def zipF : List D → List D → List D
  | a :: r, b :: t => .tup [a, b] :: zipF r t
  | _, _ => []
theorem zipF_get : ∀ (xs ys : List D) (i : Nat) (d : D), (zipF xs ys)[i]? = some d → ∃ a b, xs[i]? = some a ∧ ys[i]? = some b ∧ d = .tup [a, b]
  | [], _, i, d, e => by simp [zipF] at e
  | _ :: _, [], i, d, e => by simp [zipF] at e
  | a :: r, b :: t, 0, d, e => by simp [zipF] at e; exact ⟨a, b, rfl, rfl, e.symm⟩
  | a :: r, b :: t, i + 1, d, e => by
    simp only [zipF, List.getElem?_cons_succ] at e ⊢
    exact zipF_get r t i d e
theorem zipF_len : ∀ (xs ys : List D), xs.length ≤ (zipF xs ys).length ∨ ys.length ≤ (zipF xs ys).length
  | [], _ => .inl (Nat.zero_le _)
  | _ :: _, [] => .inr (Nat.zero_le _)
  | a :: r, b :: t => by
    rcases zipF_len r t with h | h
    · exact .inl (by simp only [zipF, List.length_cons]; omega)
    · exact .inr (by simp only [zipF, List.length_cons]; omega)
def zips (ws : List W) (st : Sto) : R (List D) := match ws with
  | [.v (.tup xs), .v (.tup ys)] => .ok (zipF xs ys) st
  | _ => .bad
def itZip (g : AD) : LD := fun env st => (g env st).bind zips
section
variable {K : KW} {ρ : Rho} {H : Hp}
theorem itOk_zipT {a b : Addr} {xs ys : List V} {ds es : List D} (h : Rd H a (.tup xs)) (n : ¬ ρ.mut a) (r : RlAll K ρ H xs ds) (h2 : Rd H b (.tup ys)) (n2 : ¬ ρ.mut b) (r2 : RlAll K ρ H ys es) : ItOk K (RZ.ItzT K a b) ρ H (zipF ds es) := by
  intro ρ' H' st g s
  have h' : SqT K H' a xs := .inl (Ext.keepR g h n).1
  have h2' : SqT K H' b ys := .inl (Ext.keepR g h2 n2).1
  refine ⟨fun i d e => ?_, xs, ys, h', h2', by rw [r.length, r2.length]; exact zipF_len ds es⟩
  obtain ⟨d1, d2, e1, e2, rfl⟩ := zipF_get ds es i d e
  obtain ⟨v1, f1, q1⟩ := r.getD e1
  obtain ⟨v2, f2, q2⟩ := r2.getD e2
  refine ⟨⟨xs, ys, v1, v2, h', h2', f1, f2⟩, ?_⟩
  rintro x H2 ⟨T, y1, y2, rfl, hT, rfl, hy1, hy2⟩
  have := hy1 xs h'
  rw [f1] at this
  cases this
  have := hy2 ys h2'
  rw [f2] at this
  cases this
  have sm : Same H' (upd H' T (.tup [v1, v2])) := fun b o hb => by rw [upd_ne (ne_of_none hb hT)]; exact hb
  exact ⟨sm, .tup (.inl upd_same) (s.fresh hT) (.cons ((q1.ext g).same sm) (.cons ((q2.ext g).same sm) .nil))⟩
end
section
variable {X : Cx} {ct : Nat → Value} {E : St → XK} {e e2 : Expr} {f f2 : ED} {p pos tpos : Pos} {elts : List Expr} {kk : Nat}
theorem di_zip {g : AD} (hg : Gl X "zip") (hm : X.mg "zip" = none) (ha : PA X [e, e2] (tA X.kw ct E g))
    (hs : starEach [e, e2] X.env = (false, eval e X.env) :: starEach [e2] X.env := by rfl) (hpl : (backTo pos (starEach [e2] X.env)).any (·.1) = false := by rfl) :
    PI X (.Tuple elts kk tpos) (.Call (.Name "zip" p) [e, e2] [] pos) (iR X.kw ct E (itZip g)) := by
  refine PI.of (RZ.pi_zipA hg hm ha hs hpl) ?_
  rintro σ H R' ⟨ρ, st, env, a, q⟩
  unfold itZip at q
  refine ⟨ρ, st, env, a, ?_⟩
  cases ef : g env st with
  | exc x st1 => rw [ef] at q; exact q
  | bad => rw [ef] at q; exact q.elim
  | ok ws st1 =>
    rw [ef] at q
    simp only [R.bind_ok, zips] at q
    split at q
    · intro ρ1 H1 vs g s r
      cases r with | cons rv rr =>
      cases rr with | cons rv2 rr =>
      cases rr
      cases rv with | v rv =>
      cases rv2 with | v rv2 =>
      cases rv with | tup h1 n1 r1 =>
      cases rv2 with | tup h2 n2 r2 =>
      exact ⟨_, _, _, _, rfl, .inr ⟨.inl h1, .inl h2, q ρ1 H1 _ g s (itOk_zipT h1 n1 r1 h2 n2 r2)⟩⟩
    · exact q.elim
end
end Jv
end
section
namespace Jv
open PySem PySem.Spec L2 PyProof.Rows PySem.W
section
variable {X : Cx} {ct : Nat → Value} {E : St → XK}
/-! ### {k: v}, k a nested tuple -/
def eK1 (fk fv : ED) : ED := fun env st => (fk env (st ++ [.kd []])).bind fun k st1 => (fv env st1).bind fun v st2 => (kPutR st.length k v st2).bind fun _ st3 => .ok (.r st.length) st3
theorem de_k1 {kx vx : Expr} {fk fv : ED} {pos : Pos} (hu : X.A.units + 65 < cLine) (hk : PE X kx (tE X.kw ct E fk)) (hv : PE X vx (tE X.kw ct E fv)) : PE X (.Dict [some kx] [vx] pos) (tE X.kw ct E (eK1 fk fv)) := ⟨fun pins s σ H Q I ⟨ρ, st, env, a, h⟩ => by
  have hp : H s.heap.objs.size = none := I.hok.fresh (Nat.le_refl _)
  have I0 : Inv X pins σ (upd H s.heap.objs.size (.ext (KdAt X.w s.heap.objs.size []))) { s with heap := s.heap.push { cls := .type "dict", data := .dict #[] } } :=
    I.laid (t' := s.toks) (fun _ _ q => Heap.get?_push_of_some _ q) (Nat.le_refl _) (okD_new H s.heap)
  have hb : (s.heap.objs.size == sysModules) = false := beq_eq_false_iff_ne.mpr (Ne.symm (Nat.ne_of_lt I.big))
  have gp : Grow ρ H (ρ.push s.heap.objs.size) (upd H s.heap.objs.size (.ext (KdAt X.w s.heap.objs.size []))) := .push hp
  have s0 : RelSt X.kw (ρ.push s.heap.objs.size) (upd H s.heap.objs.size (.ext (KdAt X.w s.heap.objs.size []))) (st ++ [.kd []]) := pushK a.1 hp ⟨[], upd_same, .nil, (fun p hp => nomatch hp), List.nodup_nil, hb⟩ trivial
  have rl : Rw X.kw (ρ.push s.heap.objs.size) (upd H s.heap.objs.size (.ext (KdAt X.w s.heap.objs.size []))) (.ref s.heap.objs.size) (.r st.length) := .r (by rw [← a.1.len]; simp [Rho.push]) fun x hx => by
    rw [← a.1.len] at hx
    simp [Rho.push] at hx
    rw [hx]
  refine wpAny_Dict_any rfl rfl (by simp) (by simp) ?_
  show wpAny _ _ (evalPairs [(eval kx X.env, do let x ← eval vx X.env; standAt pos; pure x)]) _ _ _
  generalize s.heap.objs.size = D at *
  unfold evalPairs
  refine wpAny_bind (thn (hk.run pins _ σ _ _ I0 ⟨_, _, env, ⟨s0, a.2.grow gp⟩, okG.bind (rel := Rw) (h.grow gp) (a.2.grow gp)⟩) ?_)
  rintro u1 s1 ⟨v1, H1, I1, ru1, ρ1, st1, w1, a1, g1, r1, q1⟩
  refine wpAny_bind (wpAny_holding (wpAny_bind (thn (hv.run pins s1 σ H1 _ I1 ⟨ρ1, st1, env, a1, okG.bind (rel := Rw) q1 a1.2⟩) ?_)))
  rintro u2 s2 ⟨v2, H2, I2, ru2, ρ2, st2, w2, a2, g2, r2, q2⟩
  refine wpAny_bind (wpAny_standAt (wpAny_pure ?_))
  refine wpAny_bind (wpAny_holding (wpAny_pure (wpAny_pure ?_)))
  unfold storeAll
  simp only [List.forIn_cons, List.forIn_nil]
  refine wpAny_bind (wpAny_bind ?_)
  have rl2 := (rl.grow g1).grow g2
  have r1 := r1.grow g2
  cases w1 with
  | r _ => exact (show False from q2).elim
  | v k1 =>
  cases w2 with
  | r _ => cases k1 <;> exact (show False from q2).elim
  | v d =>
  obtain ⟨ds, rfl⟩ : ∃ ds, k1 = .tup ds := by cases k1 <;> first | exact ⟨_, rfl⟩ | exact (show False from q2).elim
  cases hl : st2[st.length]? with
  | none => simp only [kPutR, hl] at q2; exact q2.elim
  | some ob0 =>
  obtain ⟨kvs, rfl⟩ : ∃ kvs, ob0 = .kd kvs := by cases ob0 <;> first | exact ⟨_, rfl⟩ | (simp only [kPutR, hl] at q2; exact q2.elim)
  simp only [kPutR, hl] at q2
  split at q2
  rotate_left
  · exact q2.elim
  rename_i c
  simp only [okK, Bool.and_eq_true, decide_eq_true_eq] at c
  rcases a2.1.obj st.length _ hl with ⟨z, _⟩ | ⟨p, hpl, ob⟩
  · cases z
  obtain ⟨xs, h1, h2, h3, h4⟩ := kd_dict I2 ob
  obtain ⟨_, h1', h2', hd1, hd2, _⟩ := ob
  rw [h1] at h1'
  have hpD : p = D := by
    cases rl2 with | r hl2 hv2 =>
    have := hv2 p hpl
    cases this
    rfl
  subst hpD
  cases r2 with | v rd =>
  cases r1 with | v r1 =>
  cases r1 with
  | @tup ka _ _ t1 t2 t3 =>
    cases ru1
    have hxl : xs.length ≤ sizeLine := by
      rw [h2.length]
      exact Nat.le_trans c.2 (by decide)
    refine wpAny_dictSet_heap (knd := nestedKind X.prog X.w) (k := (Jv.D.tup ds).nk) (hsz := hxl) (show X.A.units + 8 < cLine by omega) ⟨nested_of I2 _ _ _ (.tup t1 t2 t3) rfl c.1.1, c.1.2⟩ h3 fun h' hm sb => ?_
    obtain ⟨o', es', ep', e1, e2, e3, e4, _⟩ := hm
    have new : ObjOk X.prog X.w (upd H2 p (.ext (KdAt X.w p (storedH xs (Jv.D.tup ds).nk ka u2)))) h' p (.ext (KdAt X.w p (storedH xs (Jv.D.tup ds).nk ka u2))) := by
      refine ⟨⟨o', es', ep', e1, e2, e3, e4⟩, ⟨_, e1⟩, ?_⟩
      rintro g1 g2 ⟨o, es, ep, f1, f2⟩ stt
      exact ⟨o, es, ep, stt o f1, f2⟩
    have gw : Grow ρ2 H2 ρ2 (upd H2 p (.ext (KdAt X.w p (storedH xs (Jv.D.tup ds).nk ka u2)))) := .write hpl
    refine wpAny_pure (wpAny_pure ⟨.ref p, _, I2.write (e := p) (t' := s2.toks + (nestedKind X.prog X.w).draws (Jv.D.tup ds).nk) (by rw [h1]; trivial) (.inl rfl) (fun b o hb q => (sb.2 b hb).trans q) ⟨_, e1⟩ new, rfl, ?_⟩)
    exact q2 ρ2 _ _ gw (a2.1.write hpl ⟨_, upd_same, ((h2.put (.tup t1 t2 t3) ru2 rd)).mono (fun _ _ z => z.grow gw), storeK_mem hd1 c.1, storeK_nodup hd2, h4⟩ trivial) (rl2.grow gw)⟩
end
end Jv
end
section
/-! set(xs), xs a list of nested tuples -/
namespace NS
open PySem PySem.Spec PyProof.Rows L2
def addM (L : Mem) (p : Addr × NestedKey) : Mem := if p.2 ∈ L.map (·.2) then L else L ++ [p]
theorem addM_len (L : Mem) (p : Addr × NestedKey) : (addM L p).length ≤ L.length + 1 := by
  unfold addM
  split
  · omega
  · simp
theorem fold_len : ∀ (ks L : Mem), (ks.foldl addM L).length ≤ L.length + ks.length
  | [], L => by simp
  | p :: r, L => by
    have h1 := fold_len r (addM L p)
    have h2 := addM_len L p
    simp only [List.foldl_cons, List.length_cons]
    omega
theorem fold_sub : ∀ (ks L : Mem), ∀ p ∈ ks.foldl addM L, p ∈ L ∨ p ∈ ks
  | [], L, p, h => .inl h
  | q :: r, L, p, h => by
    rcases fold_sub r (addM L q) p h with h | h
    · unfold addM at h
      split at h
      · exact .inl h
      · rcases List.mem_append.mp h with h | h
        · exact .inl h
        · exact .inr (by rw [List.mem_singleton.mp h]; exact List.mem_cons_self)
    · exact .inr (List.mem_cons_of_mem _ h)
section
variable {P : Program} {w : World} {A : Around} {E : Value → Shared → Prop} {s : Shared}
theorem KAt.keep {h h' : Heap} {k : NestedKey} {b : Addr} (x : KAt h k b) (hk : ∀ c o, h.get? c = some o → h'.get? c = some o) : KAt h' k b := ⟨NestedIs.at (fun c u vs n hc _ => hk c u hc) k _ x.1, x.2⟩
theorem SOb.keep {h h' : Heap} {a : Addr} {L : Mem} {es : Array (Int × Value)} {ep : Nat} {t : SetTable} (R : SOb w h a L es ep t) (ha : ∀ o, h.get? a = some o → h'.get? a = some o) : SOb w h' a L es ep t := by
  obtain ⟨o, ho, r⟩ := R.ob
  exact ⟨⟨o, ha o ho, r⟩, R.rw, R.tb, R.nd, R.ld, R.rm, R.fw⟩
theorem upd_loop {I : Addr} {fp wr : List Addr} {G : Array GenState → Array GenState → Prop} {n : Nat} {Pv : Nat → Value → Prop} {St : Nat → Shared → Prop} {R : Result → Shared → Prop}
    (W : WalksS P w A.in1 I fp wr G n Pv St) (S : Addr) (hSf : S ∉ fp) (ks : Mem) (hn : n = ks.length) (hfew : ks.length < 63) (hval : ∀ i v, Pv i v → ∃ p, ks[i]? = some p ∧ v = .ref p.1)
    (h0 : Heap) (hk : ∀ p ∈ ks, KAt h0 p.2 p.1) (hS0 : h0.get? S = none) (hw0 : ∀ b ∈ wr, h0.get? b = none) (hu : A.in1.units + 20 < cLine) :
    ∀ (k i : Nat) (s : Shared), n - i = k → i ≤ n → St i s → (∀ b o, h0.get? b = some o → s.heap.get? b = some o) → (∃ L es ep t, SOb w s.heap S L es ep t ∧ L.Perm ((ks.take i).foldl addM [])) →
      (∀ s' L es ep t, Moved (S :: wr) G s s' → SOb w s'.heap S L es ep t → L.Perm (ks.foldl addM []) → (∀ b o, h0.get? b = some o → s'.heap.get? b = some o) → R (.ok (.ret .none)) s') →
      codeAny (model P w) A (.builtin "set.update.loop" ⟨[.ref S, .ref I], []⟩) R s := by
  have hSw : S ∉ wr := fun h => hSf (W.sub _ h)
  have hsub : ∀ b ∈ wr, b ∈ S :: wr := fun b hb => List.mem_cons_of_mem _ hb
  have keepM : ∀ {s s' : Shared}, Moved wr G s s' → (∀ b o, h0.get? b = some o → s.heap.get? b = some o) → ∀ b o, h0.get? b = some o → s'.heap.get? b = some o := fun hm hkp b o e =>
    hm.heap b o (fun hb => by rw [hw0 b hb] at e; cases e) (hkp b o e)
  intro k
  induction k with
  | zero =>
    intro i s hk' hi hst hkp ⟨L, es, ep, t, hS, g⟩ hR
    have hin : i = n := by omega
    subst hin
    refine codeAny_builtin F.entry_set_update_loop ?_
    rw [Around.under_plainId F.plain_set_update_loop _]
    show wpAny _ A.in1 (pyNext (.ref I) >>= _) _ _ s
    refine wpAny_bind (W.done s _ _ hst fun s' hm => ?_)
    show wpAny _ A.in1 (ret Value.none) _ _ s'
    rw [hn, List.take_length] at g
    exact wpAny_pure (hR s' L es ep t (hm.mono hsub) (hS.keep fun o e => hm.heap S o hSw e) g (keepM hm hkp))
  | succ k ih =>
    intro i s hk' hi hst hkp ⟨L, es, ep, t, hS, g⟩ hR
    have hlt : i < n := by omega
    refine codeAny_builtin F.entry_set_update_loop ?_
    rw [Around.under_plainId F.plain_set_update_loop _]
    show wpAny _ A.in1 (pyNext (.ref I) >>= _) _ _ s
    refine wpAny_bind (W.item i s _ _ hlt hst fun v s' hP hst' hm => ?_)
    obtain ⟨p, hp, rfl⟩ := hval i v hP
    have hkp' := keepM hm hkp
    have hS' : SOb w s'.heap S L es ep t := hS.keep fun o e => hm.heap S o hSw e
    have all : ∀ q ∈ L, KAt s'.heap q.2 q.1 := fun q hq => by
      rcases fold_sub (ks.take i) [] q (g.mem_iff.mp hq) with z | z
      · cases z
      · exact (hk q (List.mem_of_mem_take z)).keep hkp'
    have hx : KAt s'.heap p.2 p.1 := (hk p (List.mem_of_getElem? hp)).keep hkp'
    have hL : L.length ≤ i := by
      have e1 := g.length_eq
      have e2 := fold_len (ks.take i) []
      have e3 : (ks.take i).length ≤ i := by rw [List.length_take]; omega
      simp only [List.length_nil] at e2
      omega
    show wpAny _ A.in1 (holding [Value.ref p.1] (setAdd S (.ref p.1)) >>= _) _ _ s'
    refine wpAny_bind (wpAny_holding ?_)
    unfold setAdd
    refine wpAny_holding ?_
    refine wpAny_bind (pyHash_key _ _ _ _ _ hx.1 (by have := hx.2; omega) ?_)
    refine grow_by (s := { s' with toks := s'.toks + p.2.draws }) hS' all hx (by omega) (by omega) fun b h' L' es' ep' t' hsb hS2 c1 c2 => ?_
    have g' : L'.Perm ((ks.take (i + 1)).foldl addM []) := by
      have et : ks.take (i + 1) = ks.take i ++ [p] := by
        rw [List.take_add_one, hp]
        rfl
      rw [et, List.foldl_append]
      simp only [List.foldl_cons, List.foldl_nil]
      generalize (ks.take i).foldl addM [] = M at g ⊢
      have im : p.2 ∈ L.map (·.2) ↔ p.2 ∈ M.map (·.2) := (g.map (·.2)).mem_iff
      unfold addM
      by_cases c : p.2 ∈ L.map (·.2)
      · rw [if_pos (im.mp c), c1 c]
        exact g
      · rw [if_neg (fun z => c (im.mpr z))]
        exact (c2 c).trans ((g.cons _).trans (List.perm_append_singleton _ _).symm)
    have hkp2 : ∀ b o, h0.get? b = some o → h'.get? b = some o := fun b o e => (hsb.2 b (fun z => by rw [z, hS0] at e; cases e)).trans (hkp' b o e)
    refine wpAny_pure ⟨plainId_quiet F.plain_set_update_loop _, ih (i + 1) _ (by omega) hlt (W.frame _ s' _ _ hst' (Nat.le_add_right _ _) fun b hb o e => ?_) hkp2 ⟨L', es', ep', t', hS2, g'⟩ fun s'' L2 es2 ep2 t2 hm'' hS'' g'' hkp'' => ?_⟩
    · rw [hsb.2 b (fun h : b = S => hSf (by rw [← h]; exact hb))]; exact e
    · refine hR s'' L2 es2 ep2 t2 (Moved.trans W.gtrans ((hm.mono hsub).then_heap (Nat.le_add_right _ _) fun b o hb e => ?_) hm'') hS'' g'' hkp''
      rw [hsb.2 b (fun h : b = S => hb (by rw [h]; exact List.mem_cons_self))]; exact e
end
end NS
end
section
namespace NS
open PySem PySem.Spec PyProof.Rows L2
section
variable {P : Program} {w : World} {A : Around} {E : Value → Shared → Prop} {s : Shared}
/-- set(xs), xs a list of nested tuples -/
theorem call_set {l : Addr} {items : Array Value} (ks : Mem) {Q : Value → Shared → Prop} (hh : A.handled = none) (hl : s.heap.IsList l items) (hit : items.toList = ks.map fun p => Value.ref p.1)
    (hk : ∀ p ∈ ks, KAt s.heap p.2 p.1) (hfew : ks.length < 63) (hu : A.units + 40 < cLine)
    (h : ∀ (h' : Heap) (tk : Nat) L es ep t, SOb w h' s.heap.objs.size L es ep t → L.Perm (ks.foldl addM []) → (∀ b o, s.heap.get? b = some o → h'.get? b = some o) → Q (.ref s.heap.objs.size) { s with heap := h', toks := tk }) :
    wpAny (model P w) A (call (.type "set") [.ref l]) Q E s := by
  have len : items.size = ks.length := by
    have q := congrArg List.length hit
    simpa using q
  obtain ⟨c, tl, hmro⟩ := F.called_set.mro
  have hmade := F.called_set.made
  have hsub := F.called_set.sub
  have nt := F.called_set.notType
  have cc := F.called_set.canCreate
  have tc := F.typeCall_set_1 (.ref l)
  refine wpAny_call (codeAny_of_tree ?_)
  show wpAny _ _ (callAny (.type "set") _) _ _ _
  refine wpAny_pure ⟨Code.quiet_builtin _ (by decide +kernel), codeAny_builtin F.entry_type_call ?_⟩
  rw [Around.under_plain (weight_type_call_type "set" [.ref l] []) rfl]
  repeat (any_goals (first | assumption | wp_step))
  refine codeAny_mono (code_set_led1 (.ref l) (E := E) (Q₁ := fun obj s1 => obj = .ref s.heap.objs.size ∧ s1 = { s with heap := s.heap.push { cls := .type "set", dict := none, data := .set #[] 0 (.fresh 0 0 (!w.params.followText "set-order")) } }) ⟨rfl, rfl⟩) ?_
  intro r s1 hr
  cases r with
  | error e => exact hr
  | ok fl =>
    cases fl with
    | ret obj =>
      obtain ⟨rfl, rfl⟩ := hr
      have at0 : (s.heap.push { cls := .type "set", dict := none, data := .set #[] 0 (.fresh 0 0 (!w.params.followText "set-order")) }).get? s.heap.objs.size = some { cls := .type "set", dict := none, data := .set #[] 0 (.fresh 0 0 (!w.params.followText "set-order")) } := Heap.get?_push_size _ rfl
      have ty : Shared.TypeIs { s with heap := s.heap.push { cls := .type "set", dict := none, data := .set #[] 0 (.fresh 0 0 (!w.params.followText "set-order")) } } (.ref s.heap.objs.size) "set" := ⟨_, at0, rfl⟩
      have li := F.called_set.init.lookup
      have bi := F.called_set.init.bind (.ref s.heap.objs.size)
      repeat (any_goals (first | assumption | wp_step))
      refine codeAny_mono (codeAny_call_builtin (R := wants (fun r s2 => r = .none ∧ ∃ h' tk L es ep t, s2 = { s with heap := h', toks := tk } ∧ SOb w h' s.heap.objs.size L es ep t ∧ L.Perm (ks.foldl addM []) ∧
          (∀ b o, s.heap.get? b = some o → h'.get? b = some o)) E) F.called_set.init.plain F.entry_set_init (check_set_init_1 ty ?_)) ?_
      · obtain ⟨ol, hol, hcl, nl, hdl⟩ := hl
        obtain ⟨ocls, odict, odata, oslots⟩ := ol
        simp only at hcl hdl
        subst hcl
        subst hdl
        have hol' : (s.heap.push { cls := .type "set", dict := none, data := .set #[] 0 (.fresh 0 0 (!w.params.followText "set-order")) }).get? l = some { cls := .type "list", dict := odict, data := .seq items nl, slots := oslots } := Heap.get?_push_of_some _ hol
        have n1 := F.sub_list_set
        have n2 := F.sub_list_frozenset
        have n3 : (Value.type "list" == Value.type "dict") = false := by decide
        have hl1 : (s.heap.push { cls := .type "set", dict := none, data := .set #[] 0 (.fresh 0 0 (!w.params.followText "set-order")) }).IsList l items := ⟨_, hol', rfl, nl, rfl⟩
        unfold Builtin.«set.__init__» noKeywords Builtin.Frozenset.updateFrom
        generalize hPI : pyIter = PI
        wp_walk
        subst hPI
        refine wpAny_pyIter_list hl1 ?_
        refine wpAny_bind (wpAny_runValue ?_)
        have hlS : l < s.heap.objs.size := Heap.lt_size hol
        have hh3 : A.in1.in1.in1.handled = none := by simp [hh]
        have neI : l ≠ (s.heap.push { cls := .type "set", dict := none, data := .set #[] 0 (.fresh 0 0 (!w.params.followText "set-order")) }).objs.size := by
          rw [Heap.size_push]; exact Nat.ne_of_lt (Nat.lt_succ_of_lt hlS)
        have out : s.heap.objs.size ∉ [(s.heap.push { cls := .type "set", dict := none, data := .set #[] 0 (.fresh 0 0 (!w.params.followText "set-order")) }).objs.size, l] := by
          rw [Heap.size_push]
          simp only [List.mem_cons, List.not_mem_nil, or_false, not_or]
          exact ⟨Nat.ne_of_lt (Nat.lt_succ_self _), Nat.ne_of_gt hlS⟩
        have val : ∀ (i : Nat) (v : Value), items[i]? = some v → ∃ p, ks[i]? = some p ∧ v = .ref p.1 := fun i v hv => by
          have q : items.toList[i]? = some v := by rw [Array.getElem?_toList]; exact hv
          rw [hit, List.getElem?_map] at q
          cases hq : ks[i]? with
          | none => rw [hq] at q; cases q
          | some p => rw [hq] at q; exact ⟨p, rfl, (Option.some.inj q).symm⟩
        have nothing : ∀ b, s.heap.objs.size ≤ b → s.heap.get? b = none := fun b hb => by
          cases q : s.heap.get? b with
          | none => rfl
          | some o => exact absurd (Nat.lt_of_lt_of_le (Heap.lt_size q) hb) (Nat.lt_irrefl _)
        refine upd_loop ((Walks.list hh3 _ l neI items).toS) s.heap.objs.size out ks len hfew val s.heap hk (nothing _ (Nat.le_refl _)) (fun b hb => nothing b (by
            rw [List.mem_singleton.mp hb, Heap.size_push]
            exact Nat.le_succ _)) (by simp only [Around.in1_units]; omega) (items.size - 0) 0 _ (by omega) (Nat.zero_le _)
          ⟨⟨_, Heap.get?_push_size _ rfl, rfl, rfl⟩, (hl1.push _)⟩ (fun b o e => Heap.get?_push_of_some _ (Heap.get?_push_of_some _ e)) ?_ ?_
        · exact ⟨[], #[], 0, _, (Jv.set_new w s.heap).keep fun o e => Heap.get?_push_of_some _ e, .refl _⟩
        · intro s' L es ep t hm hS' g' hkp
          obtain ⟨h', g2, d', tk', os'⟩ := s'
          have eg : g2 = s.gens := hm.gens
          have ed : d' = s.drawn := hm.drawn
          have eo : os' = s.os := hm.os
          subst eg ed eo
          show wpAny _ _ _ _ _ _
          refine wpAny_pure ?_
          show wpAny _ _ (ret Value.none) _ _ _
          exact wpAny_pure ⟨rfl, h', tk', L, es, ep, t, rfl, hS', g', hkp⟩
      · intro r2 s2 hr2
        cases r2 with
        | error e => exact hr2
        | ok fl2 =>
          cases fl2 with
          | ret r =>
            obtain ⟨rfl, h', tk, L, es, ep, t, rfl, hS', g', hk'⟩ := hr2
            repeat (any_goals (first | assumption | wp_step))
            exact h _ _ _ _ _ _ hS' g' hk'
          | _ => exact hr2.elim
    | _ => exact hr.elim
end
end NS
end
section
namespace Jv
open PySem PySem.Spec L2 PyProof.Rows PySem.W
theorem bt_set : bootBuiltins "set" = some (.type "set") := by decide +kernel
def isTp : D → Bool
  | .tup _ => true
  | _ => false
theorem refs_of : ∀ {ks : NS.Mem} {us : List Value}, Vals (ks.map fun p => V.ref p.1) us → us = ks.map fun p => Value.ref p.1
  | [], _, .nil => rfl
  | p :: r, _, .cons h t => by
    cases h
    simp [refs_of t]
def setG (ws : List W) (st : Sto) : R W := match ws with
  | [w] => match asLst st w with
    | some ds => if ds.all (fun d => isTp d && okK d) && decide (ds.length ≤ 60) then .ok (.r st.length) (st ++ [.set (ds.foldl addS [])]) else .bad
    | none => .bad
  | _ => .bad
def eSetOf (g : AD) : ED := fun env st => (g env st).bind setG
def rSet (K : KW) (ct : Nat → Value) : List V → Hp → VK → Prop := fun vs H Q => ∃ ρ st ws, RelSt K ρ H st ∧ RwAll K ρ H vs ws ∧ okG K ct Rw ρ H E0 Q (setG ws st)
theorem keys_of {K : KW} {ρ : Rho} {H : Hp} : ∀ {xs : List V} {ds : List D}, RlAll K ρ H xs ds → (∀ d ∈ ds, isTp d = true) → ∃ ks : NS.Mem, xs = ks.map (fun p => V.ref p.1) ∧ ks.map (·.2) = ds.map D.nk
  | _, _, .nil, _ => ⟨[], rfl, rfl⟩
  | _, d :: ds, .cons r t, c => by
    obtain ⟨ks, e1, e2⟩ := keys_of t fun x hx => c x (List.mem_cons_of_mem _ hx)
    have := c d List.mem_cons_self
    cases r with
    | @tup a _ es h1 h2 h3 => exact ⟨(a, (D.tup es).nk) :: ks, by rw [e1]; rfl, by simp [e2]⟩
    | _ => cases this
theorem fold_rel {K : KW} {ρ : Rho} {H : Hp} : ∀ {ks M : NS.Mem} {ds es : List D}, RlAll K ρ H (ks.map fun p => V.ref p.1) ds → ks.map (·.2) = ds.map D.nk → RlAll K ρ H (M.map fun p => V.ref p.1) es → M.map (·.2) = es.map D.nk →
    RlAll K ρ H ((ks.foldl NS.addM M).map fun p => V.ref p.1) (ds.foldl addS es) ∧ (ks.foldl NS.addM M).map (·.2) = (ds.foldl addS es).map D.nk
  | [], M, [], es, _, _, r2, e2 => ⟨r2, e2⟩
  | [], M, d :: ds, es, r, _, _, _ => nomatch r
  | p :: ks, M, [], es, r, _, _, _ => nomatch r
  | p :: ks, M, d :: ds, es, .cons r t, e, r2, e2 => by
    simp only [List.map_cons, List.cons.injEq] at e
    simp only [List.foldl_cons]
    have im : p.2 ∈ M.map (·.2) ↔ (es.any fun e => decide (e.nk = d.nk)) = true := by
      rw [e2, e.1]
      simp [List.any_eq_true, List.mem_map]
    unfold NS.addM addS
    by_cases c : p.2 ∈ M.map (·.2)
    · rw [if_pos c, if_pos (im.mp c)]
      exact fold_rel t e.2 r2 e2
    · rw [if_neg c, if_neg (fun z => c (im.mpr z))]
      exact fold_rel t e.2 (by rw [List.map_append]; exact r2.snoc r) (by simp [e2, e.1])
theorem addS_mem : ∀ (ds es : List D), ∀ d ∈ ds.foldl addS es, d ∈ es ∨ d ∈ ds
  | [], es, d, h => .inl h
  | x :: r, es, d, h => by
    rcases addS_mem r (addS es x) d h with h | h
    · unfold addS at h
      split at h
      · exact .inl h
      · rcases List.mem_append.mp h with h | h
        · exact .inl h
        · exact .inr (by rw [List.mem_singleton.mp h]; exact List.mem_cons_self)
    · exact .inr (List.mem_cons_of_mem _ h)
section
variable {X : Cx} {ct : Nat → Value} {E : St → XK}
theorem cr_set (hc : X.calm = true) (hu : X.A.units + 65 < cLine) : CallR X (.type "set") (rSet X.kw ct) := by
  intro pins s σ H vs us Q I r h
  obtain ⟨ρ, st, ws, rs, rw', q⟩ := h
  unfold setG at q
  split at q
  rotate_left
  · exact q.elim
  rename_i w
  cases ea : asLst st w with
  | none => rw [ea] at q; exact q.elim
  | some ds =>
  rw [ea] at q
  simp only at q
  split at q
  rotate_left
  · exact q.elim
  rename_i c
  simp only [Bool.and_eq_true, decide_eq_true_eq, List.all_eq_true, okK] at c
  obtain ⟨v, rfl, rv⟩ := rw'.one
  obtain ⟨a, xs, rfl, h1, h2⟩ := lst_of rs rv ea
  obtain ⟨ks, rfl, ek⟩ := keys_of h2 fun d hd => (c.1 d hd).1
  rw [Vals.ref1 r]
  obtain ⟨its, rv2, pl, hz⟩ := I.list h1
  have hn : H s.heap.objs.size = none := I.hok.fresh (Nat.le_refl _)
  have kl : ks.length = ds.length := by have := congrArg List.length ek; simpa using this
  refine NS.call_set (P := X.prog) (w := X.w) ks (I.ok.hd hc) pl.isList (by simpa using refs_of rv2) (mem_keys I h2 ek fun d hd => (c.1 d hd).2) (by omega) (by omega) fun h' tk L es ep t R g k => ?_
  have pr := fold_rel h2 ek (M := []) (es := []) .nil rfl
  have new : ObjOk X.prog X.w (upd H s.heap.objs.size (SetO X.w s.heap.objs.size (ks.foldl NS.addM []))) h' s.heap.objs.size (SetO X.w s.heap.objs.size (ks.foldl NS.addM [])) := setO_ok ⟨L, es, ep, t, g, R⟩
  have gp : Grow ρ H (ρ.push s.heap.objs.size) (upd H s.heap.objs.size (SetO X.w s.heap.objs.size (ks.foldl NS.addM []))) := .push hn
  refine ⟨.ref s.heap.objs.size, _, I.laid (t' := tk) k (Nat.le_refl _) new, rfl, ?_⟩
  refine q (ρ.push s.heap.objs.size) _ _ gp (pushK rs hn ⟨_, upd_same, pr.1.grow gp, pr.2, fun d hd => ?_⟩ trivial) (.r (by rw [← rs.len]; simp [Rho.push]) fun x hx => ?_)
  · rcases addS_mem ds [] d hd with z | z
    · cases z
    · exact (c.1 d z).2
  · rw [← rs.len] at hx
    simp [Rho.push] at hx
    rw [hx]
theorem de_setOf {e : Expr} {g : AD} {p pos : Pos} (hc : X.calm = true) (hu : X.A.units + 65 < cLine) (hg : Gl X "set") (hm : X.mg "set" = none) (ha : PA X [e] (tA X.kw ct E g))
    (he : starEach [e] X.env = (false, eval e X.env) :: starEach [] X.env := by rfl) (hpl : (backTo pos (starEach [] X.env)).any (·.1) = false := by rfl) : PE X (.Call (.Name "set" p) [e] [] pos) (tE X.kw ct E (eSetOf g)) :=
  PE.of (pe_callTy (cr_set (ct := ct) hc hu) hg hm bt_set ha (by decide) (by decide) he hpl) fun σ H Q h => by
    refine (tG.bind (rel := RwAll) (k := fun ws _ st => setG ws st) h).mono fun vs H1 ⟨ρ1, st1, env, ws, a1, r1, q1⟩ => ⟨ρ1, st1, ws, a1.1, r1, ?_⟩
    unfold setG at q1 ⊢
    split at q1
    · split at q1
      · split at q1
        · rename_i c
          simp only [c, if_true]
          exact q1
        · exact q1.elim
      · exact q1.elim
    · exact q1.elim
end
end Jv
end
section
namespace Jv
open PySem PySem.Spec L2 PyProof.Rows PySem.W
/-! ### a, b, c = x, y, z -/
def sPar3 (i j l : Nat) (g : AD) : SD := fun env st => (g env st).thenS env fun ws st => match ws with
  | [a, b, c] => .nx (((env.set i (some a)).set j (some b)).set l (some c)) st
  | _ => .bad
theorem RwAll.three {K : KW} {ρ : Rho} {H : Hp} {xs : List V} {w w' w'' : W} (h : RwAll K ρ H xs [w, w', w'']) : ∃ v v' v'', xs = [v, v', v''] ∧ Rw K ρ H v w ∧ Rw K ρ H v' w' ∧ Rw K ρ H v'' w'' := by
  cases h with
  | cons h1 t => 
    obtain ⟨v, v', e, r1, r2⟩ := t.two
    subst e
    exact ⟨_, v, v', rfl, h1, r1, r2⟩
theorem ds_par3 {X : Cx} {ct : Nat → Value} {E : St → XK} {i j l : Nat} {x y z : Str} {a b c : Expr} {ta : AD} {px py pz pt pos : Pos} {kt k2 pt2} (hc : X.calm = true) (hN : X.N.Nodup) (hi : X.N[i]? = some x) (hj : X.N[j]? = some y) (hl : X.N[l]? = some z) (hij : i ≠ j) (hil : i ≠ l) (hjl : j ≠ l)
    (hx : X.env.scope.names.lookup x = some .local) (hy : X.env.scope.names.lookup y = some .local) (hz : X.env.scope.names.lookup z = some .local) (ha : PA X [a, b, c] (tA X.kw ct E ta))
    (hw : swappedStores [.Tuple [.Name x px, .Name y py, .Name z pz] kt pt] (.Tuple [a, b, c] k2 pt2) X.env = pure (some [x, y, z])) (hs : swapsWithSole [.Tuple [.Name x px, .Name y py, .Name z pz] kt pt] (.Tuple [a, b, c] k2 pt2) pos.line X.env = pure false := by rfl) :
    PS X (.Assign [.Tuple [.Name x px, .Name y py, .Name z pz] kt pt] (.Tuple [a, b, c] k2 pt2) pos) (tS X.kw ct E (sPar3 i j l ta)) := PS.of (ps_par3 hc hN hi hj hl hij hil hjl hx hy hz ha hw hs) fun D σ H ⟨ρ, st, env, a, h⟩ => by
  refine ⟨ρ, st, env, a, (okS.first (rel := RwAll) h a.2).mono fun vs H1 ⟨ρ1, st1, ws, a1, g1, r1, q1⟩ => ?_⟩
  split at q1
  · obtain ⟨v, v', v'', rfl, rv, rv', rv''⟩ := r1.three
    exact ⟨v, v', v'', rfl, q1 ρ1 H1 _ (.refl _ _) ⟨a1.1, ((a1.2.set rv i).set rv' j).set rv'' l⟩⟩
  · exact q1.elim
end Jv
end
section
namespace Jv
open PySem PySem.Spec L2 PyProof.Rows PySem.W
/-! ### [..] * k: a new list told so often -/
def lRep (l : LD) (f : ED) : LD := fun env st => (l env st).bind fun ds st => (f env st).bind fun w st => match w with
  | .v (.int k) => if 0 ≤ k ∧ k ≤ 1000 ∧ ds.length ≤ 1000 then .ok (List.replicate k.toNat ds).flatten st else .bad
  | _ => .bad
theorem RlAll.rep {K : KW} {ρ : Rho} {H : Hp} {xs : List V} {ds : List D} (h : RlAll K ρ H xs ds) : ∀ k : Nat, RlAll K ρ H (List.replicate k xs).flatten (List.replicate k ds).flatten
  | 0 => .nil
  | k + 1 => by
    simp only [List.replicate_succ, List.flatten_cons]
    exact h.append (RlAll.rep h k)
section
variable {X : Cx} {ct : Nat → Value} {E : St → XK} {a b : Expr} {la : LD} {fb : ED} {pos : Pos}
theorem df_rep (ha : PE X a (tF X.kw ct E la)) (hb : PE X b (tE X.kw ct E fb)) : PE X (.BinOp a .Mult b pos) (tF X.kw ct E (lRep la fb)) := PE.of (pe_op op_rep ha hb) fun σ H Q ⟨ρ, st, env, at', h⟩ => by
  refine ⟨ρ, st, env, at', ?_⟩
  unfold lRep at h
  cases e1 : la env st with
  | exc x st' => rw [e1] at h; exact h
  | bad => rw [e1] at h; exact h.elim
  | ok ds st1 =>
    rw [e1] at h
    simp only [R.bind_ok] at h
    intro ρ1 H1 p xs g1 s1 hp r1
    have sm : Same H1 (upd H1 p (.lst xs)) := same_upd hp
    have g1' := g1.trans (.same sm)
    refine ⟨ρ1, st1, env, ⟨s1.same sm, at'.2.grow g1'⟩, ?_⟩
    cases e2 : fb env st1 with
    | exc x st' => rw [e2] at h; exact fun ρ' H' cv od g => h ρ' H' cv od (g1'.trans g)
    | bad => rw [e2] at h; exact h.elim
    | ok w2 st2 =>
      rw [e2] at h
      simp only [R.bind_ok] at h
      intro ρ2 H2 u g2 s2 r2
      split at h
      · rename_i k
        split at h
        · rename_i hl
          cases r2 with | v r2 => 
          cases r2
          have hl2 := r1.length
          have hz : xs.length * k.toNat ≤ 1000 * 1000 := Nat.mul_le_mul (by rw [hl2]; exact hl.2.2) (by omega)
          refine ⟨_, _, _, rfl, rfl, (g2.obj p _ upd_same ?_).1, by omega, by omega, by rw [sizeLine_eq]; omega, fun q hq => h ρ2 H2 q _ (g1'.trans g2) s2 hq (((r1.same sm).grow g2).rep _)⟩
          exact fun z => s1.fresh hp (.inl z)
        · exact h.elim
      · exact h.elim
end
end Jv
end
section
/-! l.extend(x), d.get(k), list(range(n)), t[::2] of three, x in a tuple of flat values -/
namespace Jv
open PySem PySem.Spec L2 PyProof.Rows PySem.W
theorem list_extend_any (l : Addr) (items : Array Value) (n : Nat) (b : Addr) (items2 : Array Value) (n2 : Nat) (sl : Array (Option Value)) (hc0 : ¬(!items.isEmpty && Builtin.List.listTooLong (items.size + items2.size)) = true) (hc1 : items.size ≤ sizeLine) (hs2 : items.size + items2.size ≤ sizeLine + 1) :
    Meets (Builtin.«list.extend» ⟨[.ref l, .ref b], []⟩) (fun _ R s => s.heap.get? l = some { cls := .type "list", dict := none, data := .seq items n, slots := #[] } ∧ s.heap.get? b = some { cls := .type "list", dict := none, data := .seq items2 n2, slots := sl } ∧
      R (.ok (.ret Value.none)) { s with heap := s.heap.update l (Obj.mapSeq fun x => x ++ items2) }) :=
  .of_wp fun prog w A R s h => by
    obtain ⟨hp, g, d, tk, os⟩ := s; obtain ⟨hl, hb, h⟩ := h; have f1 := AutoSeq1.idx_int; have f2 := AutoSeq1.sub_tuple_tuple; have f3 := AutoSeq1.sub_list_list; have f4 := AutoSeq1.sub_tuple_list; have f5 := AutoSeq1.sub_list_tuple;
    have hz' : (items ++ items2).size ≤ sizeLine + 1 := by rw [Array.size_append]; exact hs2
    wp_walk using (wpAny_updateSeq hl rfl (hz := hc1) (_hz' := hz')), AutoSeq1.wpAny_loadPart' hl, AutoSeq1.wpAny_loadPart' hb; exact ⟨_, rfl, h⟩
def rExtendL (K : PySem.W.Frag) : V → List V → Hp → VK → Prop := fun x vs H Q => ∃ l b xs zs, x = .ref l ∧ vs = [.ref b] ∧ H l = some (.lst xs) ∧ SqL K H b zs ∧ xs.length + zs.length ≤ sizeLine ∧ Q .non (upd H l (.lst (xs ++ zs)))
theorem mt_extendL {X : Cx} : MtM X "list.extend" (rExtendL X.K) := by
  intro pins s σ H x vs v us Q I rx rv h
  obtain ⟨l, b, xs, zs, rfl, rfl, hH, hB, hz, q⟩ := h
  cases rx
  obtain ⟨u, rfl, ru⟩ := rv.one
  cases ru
  obtain ⟨z, its, n, r, hl, e⟩ := I.lstM hH
  obtain ⟨its2, r2, ⟨o2, n2, e2, c1, c2, c3⟩, hz2⟩ := I.list hB
  have hl2 := r2.length
  obtain ⟨oc, od, oda, osl⟩ := o2
  simp only at c1 c2 c3
  subst c1 c2 c3
  have hsz : its.toArray.size + its2.toArray.size ≤ sizeLine := by rw [List.size_toArray, List.size_toArray]; omega
  have hlong : ¬ (!its.toArray.isEmpty && Builtin.List.listTooLong (its.toArray.size + its2.toArray.size)) = true := by
    rw [notLongL hsz, Bool.and_false]
    exact Bool.false_ne_true
  refine call_meets F.slot_list_extend ⟨_, e, rfl⟩ F.entry_list_extend (F.args_list_extend_2 _ _)
    (list_extend_any l its.toArray n b its2.toArray n2 osl hlong (by rw [List.size_toArray]; omega) (by omega)) ⟨e, e2, ?_⟩
  refine ⟨.non, _, I.lset (its' := its ++ its2) hH e (by simp) (r.append r2) ?_, rfl, q⟩
  rw [List.length_append]
  omega
section
variable {X : Cx} {ct : Nat → Value} {E : St → XK} {o e : Expr} {es : List Expr} {f : ED} {g : AD} {apos cpos : Pos}
theorem de_ext (ho : PE X o (tE X.kw ct E f)) (ha : PA X (e :: es) (tA X.kw ct E g)) (hbase : attributeBase o "extend" X.env (eval o X.env) = eval o X.env := by rfl)
    (hfew : ((backTo cpos (starEach (e :: es) X.env)).all (fun x => !x.1) && (backToKw cpos (keywordEach [] X.env)).all (fun x => x.1.isSome)
      && decide ((e :: es).length + ([] : List Keyword).length + (if ([] : List Keyword).isEmpty then 0 else 1) < 30)) = true := by rfl)
    (hline : (apos.endLine == cpos.line) = true := by rfl) (hs : starEach (e :: es) X.env = (false, eval e X.env) :: starEach es X.env := by rfl) (hplain : (backTo cpos (starEach es X.env)).any (·.1) = false := by rfl) :
    PE X (.Call (.Attribute o "extend" apos) (e :: es) [] cpos) (tE X.kw ct E (eMeth extG f g)) :=
  PE.of (pe_bm PySem.F.plainAttrs_list PySem.F.slot_list_extend PySem.F.type_list_extend mt_extendL ho ha hbase hfew hline hs hplain) fun σ H Q h => meth_read (fun {ρ2 H2 st2 l p vs ws EE xs ds} s2 r2 hp e2 h1 h2 q2 => by
    unfold extG at q2
    split at q2
    · rename_i l' w2 heq
      cases heq
      split at q2
      · rename_i ds' es' hd he
        rw [e2] at hd
        cases hd
        split at q2
        · rename_i hl
          obtain ⟨y, rfl, ry⟩ := r2.one
          obtain ⟨b, zs, rfl, hb1, hb2⟩ := lst_of s2 ry he
          have gw : Grow ρ2 H2 ρ2 (upd H2 p (.lst (xs ++ zs))) := .write hp
          refine ⟨p, b, xs, zs, rfl, rfl, h1, hb1, sl5 (by rw [h2.length, hb2.length]; exact hl), ?_⟩
          exact q2 ρ2 _ _ gw (s2.write hp ⟨_, upd_same, (h2.append hb2).grow gw⟩ trivial) (.v .non)
        · exact q2.elim
      · exact q2.elim
    · exact q2.elim) (fun {l ws st2} hn => by
    unfold extG
    split
    · rename_i l' w2 heq
      cases heq
      split
      · rename_i ds es hd _
        exact absurd hd (hn ds)
      · rfl
    · rfl) h
/-! d.get(k) -/
def getK (st : Sto) (w k : W) : Option D := match k with
  | .v (.tup ds) => (asKd st w).bind fun kvs => if okK (.tup ds) then some ((lookK kvs (.tup ds)).getD .non) else none
  | _ => none
def eKGet (f g : ED) : ED := fun env st => (f env st).bind fun w st => match asKd st w with
  | some _ => (g env st).bind fun k st => ofOp st (getK st w k)
  | none => .bad
theorem look_none {K : KW} {ρ : Rho} {H : Hp} {xs : List (NestedKey × Addr × Value)} {ds : List (D × D)} {k : D} (h : KdR K ρ H xs ds) (e : lookK ds k = none) : valueAt (pairsH xs) k.nk = none := by
  induction h with
  | nil => rfl
  | @cons b u v k0 d0 xs ds r q1 q2 t ih =>
    simp only [lookK, List.find?_cons] at e
    by_cases z : k0.nk = k.nk
    · simp [z] at e
    · simp only [z, decide_false] at e
      simpa [pairsH, valueAt, z] using ih e
theorem de_kget {g : ED} (hu : X.A.units + 65 < cLine) (ho : PE X o (tE X.kw ct E f)) (ha : PE X e (tE X.kw ct E g)) (hbase : attributeBase o "get" X.env (eval o X.env) = eval o X.env := by rfl)
    (hfew : ((backTo cpos (starEach [e] X.env)).all (fun x => !x.1) && (backToKw cpos (keywordEach [] X.env)).all (fun x => x.1.isSome)
      && decide ([e].length + ([] : List Keyword).length + (if ([] : List Keyword).isEmpty then 0 else 1) < 30)) = true := by rfl)
    (hline : (apos.endLine == cpos.line) = true := by rfl) (hs : starEach [e] X.env = (false, eval e X.env) :: starEach [] X.env := by rfl) (hplain : (backTo cpos (starEach [] X.env)).any (·.1) = false := by rfl) :
    PE X (.Call (.Attribute o "get" apos) [e] [] cpos) (tE X.kw ct E (eKGet f g)) := by
  have pa : PA X [e] (tA X.kw ct E (aCons g aNil)) := da_cons ha da_nil hs
  refine ⟨fun pins s σ H Q I h => ?_⟩
  refine wpAny_Call_method_late hbase hfew hline rfl (thn (ho.run pins s σ H _ I (tG.bind (rel := Rw) (k := fun w env st => match asKd st w with
    | some _ => (g env st).bind fun k st => ofOp st (getK st w k)
    | none => R.bad) h)) ?_)
  rintro v s1 ⟨x, H1, I1, rx, ρ1, st1, env, w, a1, r1, q1⟩
  cases ek : asKd st1 w with
  | none => rw [ek] at q1; exact q1.elim
  | some kvs =>
  rw [ek] at q1
  obtain ⟨d, xs, rfl, h2, h3, h4⟩ := kd_of I1 a1.1 r1 ek
  cases rx
  refine ⟨"dict", "dict.get", PySem.F.plainAttrs_dict, PySem.F.slot_dict_get, PySem.F.type_dict_get, h3.typeIs, fun a ea => ?_, ?_⟩
  · cases ea
    obtain ⟨ob, _, _, e1, e2, _⟩ := h3
    exact ⟨ob, e1, e2.2.1⟩
  have hA := pa.run cpos pins s1 σ H1 (fun us H2 => ∃ ρ2 st2 k v, us = [v] ∧ At X.kw ρ2 H2 st2 σ env ∧ Grow ρ1 H1 ρ2 H2 ∧ Rw X.kw ρ2 H2 v k ∧ okG X.kw ct Rw ρ2 H2 (E σ) Q (ofOp st2 (getK st2 w k))) I1 ⟨ρ1, st1, env, a1, by
    unfold aCons aNil
    cases eg : g env st1 with
    | exc y z => simp only at q1; rw [eg] at q1; exact q1
    | bad => simp only at q1; rw [eg] at q1; exact q1.elim
    | ok k st2 =>
      simp only at q1
      rw [eg] at q1
      simp only [R.bind_ok] at q1 ⊢
      intro ρ2 H2 vs g2 s2 r2
      obtain ⟨v, rfl, rv⟩ := r2.one
      exact ⟨ρ2, st2, k, v, rfl, ⟨s2, a1.2.grow g2⟩, g2, rv, q1.grow g2⟩⟩
  rw [hs] at hA ⊢
  refine Calls.callWith_builtin (by show (false || (backTo cpos (starEach [] X.env)).any (·.1)) = false; rw [hplain] <;> rfl) (Calls.evalArgs_plain ?_)
  refine thn hA fun us s2 ⟨vs, H2, I2, r2, ρ2, st2, k, v, ev, a2, g2, rv, q2⟩ => ?_
  subst ev
  obtain ⟨u, rfl, ru⟩ := Vals.one r2
  cases eg : getK st2 w k with
  | none => rw [eg] at q2; exact q2.elim
  | some dd =>
  rw [eg] at q2
  unfold getK at eg
  split at eg
  rotate_left
  · cases eg
  rename_i ks
  cases ek2 : asKd st2 w with
  | none => rw [ek2] at eg; cases eg
  | some kvs2 =>
  rw [ek2] at eg
  simp only [Option.bind_some] at eg
  split at eg
  rotate_left
  · cases eg
  rename_i c
  simp only [okK, Bool.and_eq_true, decide_eq_true_eq] at c
  obtain ⟨d', xs2, ed, h2', h3', h4'⟩ := kd_of I2 a2.1 (r1.grow g2) ek2
  cases ed
  cases rv with | v rv =>
  cases rv with
  | tup t1 t2 t3 =>
    cases ru
    refine get_keyed (knd := nestedKind X.prog X.w) (show X.A.units + 1 + 8 < cLine by omega) ⟨nested_of I2 _ _ _ (.tup t1 t2 t3) rfl c.1, c.2⟩ h4' ⟨xs2, h3', rfl⟩ ?_
    cases el : lookK kvs2 (.tup ks) with
    | none =>
      rw [el] at eg
      cases eg
      rw [look_none h2' el]
      exact ⟨.non, H2, I2.kept fun _ _ z => z, rfl, okG.here q2 a2.1 (.v .non)⟩
    | some d2 =>
      rw [el] at eg
      cases eg
      obtain ⟨u', v', e1, e2, e3⟩ := look_value h2' el
      rw [e1]
      exact ⟨v', H2, I2.kept fun _ _ z => z, e2, okG.here q2 a2.1 (.v e3)⟩
/-! list(range(n)) -/
def lRange (f : ED) : LD := fun env st => (f env st).bind fun w st => match w with
  | .v (.int n) => if 0 ≤ n ∧ n ≤ 16777216 then .ok ((List.range n.toNat).map fun (i : Nat) => D.int i) st else .bad
  | _ => .bad
theorem rl_rg {K : KW} {ρ : Rho} {H : Hp} (l : List Nat) : RlAll K ρ H (l.map fun i : Nat => V.int (0 + (i : Nat))) (l.map fun (i : Nat) => D.int i) := by
  induction l with
  | nil => exact .nil
  | cons a r ih =>
    simp only [List.map_cons, Int.zero_add] at ih ⊢
    exact .cons (.int _) ih
theorem df_range {p q p2 pos : Pos} (hc : X.calm = true) (hg : Gl X "list") (hm : X.mg "list" = none) (hg2 : Gl X "range") (hm2 : X.mg "range" = none) (h : PE X e (tE X.kw ct E f))
    (na : starEach [e] X.env = (false, eval e X.env) :: starEach [] X.env := by rfl) (na2 : starEach [.Call (.Name "range" q) [e] [] p2] X.env = (false, eval (.Call (.Name "range" q) [e] [] p2) X.env) :: starEach [] X.env := by rfl) :
    PE X (.Call (.Name "list" p) [.Call (.Name "range" q) [e] [] p2] [] pos) (tF X.kw ct E (lRange f)) :=
  PE.of (pe_listRg hc hg hm (prg_1 hg2 hm2 h na) na2) fun σ H Q ⟨ρ, st, env, a, h⟩ => by
    refine ⟨ρ, st, env, a, ?_⟩
    unfold lRange at h
    cases ef : f env st with
    | exc x y => rw [ef] at h; exact h
    | bad => rw [ef] at h; exact h.elim
    | ok w st1 =>
      rw [ef] at h
      simp only [R.bind_ok] at h
      split at h
      rotate_left
      · exact h.elim
      rename_i n
      split at h
      rotate_left
      · exact h.elim
      rename_i hn
      intro ρ1 H1 b g1 s1 r1
      cases r1 with | v r1 =>
      cases r1
      refine ⟨n, rfl, .of_le (by omega) hn.2 (by omega) hn.1, fun q hq => h ρ1 H1 q _ g1 s1 hq ?_⟩
      unfold rgV
      rw [Int.sub_zero]
      exact rl_rg _
/-! t[::2] of three -/
theorem adjust_two : Builtin.Slice.sliceAdjust none none 2 ((3 : Nat) : Int) = (0, 3) := by decide
theorem places_two : Builtin.Slice.slicePlaces 0 3 2 = 2 := by decide
end
section
variable {prog : Program} {w : World} {A : Around} {E : Value → Shared → Prop} {s : Shared}
theorem applied_two {sl : Addr} {vl vu vs : Value} {Q : Int × Int × Nat → Shared → Prop} (hs : s.heap.IsSliceOf sl vl vu vs) (pl : IsPart vl none) (pu : IsPart vu none) (ps : IsPart vs (some 2))
    (h : Q (0, 2, 2) s) : wpAny (model prog w) A (Builtin.Slice.sliceApplied (.ref sl) (pure ((3 : Nat) : Int))) Q E s := by
  obtain ⟨os, hos, hcs, hds⟩ := id hs
  unfold Builtin.Slice.sliceApplied Builtin.Slice.sliceFields
  refine wpAny_bind (wpAny_bind (wpAny_field hos hds (x := vl) rfl (wpAny_bind (wpAny_field hos hds (x := vu) rfl (wpAny_bind (wpAny_field hos hds (x := vs) rfl (wpAny_pure ?_)))))))
  refine wpAny_bind (HT.slicePart_ ps ?_)
  show wpAny _ _ (if ((2 : Int) == 0) = true then _ else _) _ _ s
  rw [if_neg (by decide)]
  refine wpAny_bind (HT.slicePart_ pl (wpAny_bind (HT.slicePart_ pu (wpAny_bind (wpAny_pure ?_)))))
  show wpAny _ _ (match Builtin.Slice.sliceAdjust none none 2 ((3 : Nat) : Int) with | (lo, hi) => pure (lo, (2 : Int), Builtin.Slice.slicePlaces lo hi 2)) _ _ s
  rw [adjust_two]
  show wpAny _ _ (pure ((0 : Int), (2 : Int), Builtin.Slice.slicePlaces 0 3 2)) _ _ s
  rw [places_two]
  exact wpAny_pure h
theorem getItem_tuple_two {t sl : Addr} {x y z vl vu vs : Value} {Q : Value → Shared → Prop} (ht : IsTup s.heap t #[x, y, z]) (hs : s.heap.IsSliceOf sl vl vu vs) (pl : IsPart vl none) (pu : IsPart vu none) (ps : IsPart vs (some 2))
    (h : Q (.ref s.heap.objs.size) { s with heap := s.heap.push { cls := .type "tuple", data := .seq #[x, z] } }) : wpAny (model prog w) A (getItem (.ref t) (.ref sl)) Q E s := by
  have hz : sizeOk (.seq #[x, z]) := by show 2 ≤ sizeLine; rw [sizeLine_eq]; decide
  obtain ⟨os, hos, hcs, hds⟩ := id hs
  have hTs : s.TypeIs (.ref sl) "slice" := ⟨os, hos, hcs⟩
  unfold getItem
  try with_reducible refine wpAny_holding ?_
  first | refine wpAny_bind (wpAny_pure ?_) | skip
  refine wpAny_bind (wpAny_sequenceKey ht.typeIs (by decide) ?_)
  refine wpAny_bind (wpAny_callSpecial?_slot (name := Str.ofString "__getitem__") ht.typeIs PyProof.Rows.slot_tuple_getitem (wpAny_call_entry PyProof.Rows.slot_tuple_getitem ht.typeIs entry_tuple_getitem ?_ (args_tuple_getitem _ _)))
  show wpAny _ _ (Builtin.Tuple.tupleItemsOf (.ref t) >>= _) _ _ s
  refine wpAny_bind (tupleItemsOf_ ht ?_)
  refine wpAny_bind (wpAny_typeOf hTs ?_)
  rw [if_pos (by decide)]
  refine wpAny_bind (applied_two hs pl pu ps ?_)
  show wpAny _ _ (if (((0 : Int) == 0 && (2 : Int) == 1 && (2 : Nat) == 3)) = true then _ else _) _ _ s
  rw [if_neg (by decide)]
  have ep : ((List.range 2).filterMap fun (m : Nat) => (#[x, y, z] : Array Value)[((0 : Int) + (m : Int) * 2).toNat]?).toArray = #[x, z] := rfl
  rw [ep]
  first
    | exact wpAny_bind (m := Builtin.Tuple.tupleExact _) (wpAny_newObj_type (wpAny_pure ⟨_, rfl, wpAny_pure h⟩) hz)
    | exact wpAny_bind (m := Builtin.Tuple.tupleExact _) (wpAny_newObj_type (wpAny_bind (wpAny_pure (wpAny_pure ⟨_, rfl, wpAny_pure h⟩))) hz)
    | exact wpAny_bind (wpAny_bind (m := Builtin.Tuple.tupleExact _) (wpAny_newObj_type (wpAny_pure (wpAny_pure ⟨_, rfl, wpAny_pure h⟩)) hz))
    | exact wpAny_bind (wpAny_bind (m := Builtin.Tuple.tupleExact _) (wpAny_newObj_type (wpAny_pure ⟨_, rfl, wpAny_pure h⟩) hz))
end
def tTwo (K : KW) (te : TE) : TE := fun σ H Q => te σ H fun x H1 => ∃ a u v z, x = .ref a ∧ SqT K H1 a [u, v, z] ∧ ∀ p, H1 p = none → Q (.ref p) (upd H1 p (.tup [u, z]))
theorem pe_two {X : Cx} {e : Expr} {te : TE} {k : Nat} {p1 p3 pos : Pos} (he : PE X e te) : PE X (.Subscript e (.Slice none none (some (.Constant (.int 2) k p1)) p3) pos) (tTwo X.kw te) := ⟨fun pins s σ H Q I h => by
  refine Subscript_ (thn (he.run pins s σ H _ I h) ?_)
  rintro v s1 ⟨x, H1, I1, r1, a, x1, x2, x3, rfl, hx, q⟩
  cases r1
  have hst : PO X (some (.Constant (.int 2) k p1)) (tPart (tC (.int 2))) := po_some pe_int
  refine wpAny_Slice (thn (po_none.run pins s1 σ H1 (fun o H2 => o = none ∧ H2 = H1) I1 ⟨rfl, rfl⟩) ?_)
  rintro vl s2 ⟨l, H2, I2, pl, rfl, rfl⟩
  refine thn (po_none.run pins s2 σ H2 (fun o H3 => o = none ∧ H3 = H2) I2 ⟨rfl, rfl⟩) ?_
  rintro vu s3 ⟨u, H3, I3, pu, rfl, rfl⟩
  refine thn (hst.run pins s3 σ H3 (fun o H4 => o = some 2 ∧ H4 = H3) I3 ⟨2, rfl, rfl, rfl⟩) ?_
  rintro vs s4 ⟨o, H4, I4, ps, rfl, rfl⟩
  have I5 : Inv X pins σ H4 { s4 with heap := s4.heap.push { cls := .type "slice", data := .fields #[vl, vu, vs] } } := I4.kept (t' := s4.toks) fun b ob q => Heap.get?_push_of_some _ q
  obtain ⟨its, r, ht, hz⟩ := I5.tuple hx
  cases r with | cons ra r => cases r with | cons rb r => cases r with | cons rc r => cases r with | nil =>
  show wpAny (model X.prog X.w) X.A (subscriptTail e (.Slice none none (some (.Constant (.int 2) k p1)) p3) (.ref a) (.ref s4.heap.objs.size)) (EP X pins σ Q) X.xe { s4 with heap := s4.heap.push { cls := .type "slice", data := .fields #[vl, vu, vs] } }
  refine tail_any (ops := [.ref a, .ref s4.heap.objs.size]) ht.typeIs (PyProof.Rows.slot_tuple_getitem.lookup) ?_ (by with_unfolding_all rfl)
  refine getItem_tuple_two ht (Heap.IsSliceOf.new _ vl vu vs) pl pu ps ?_
  refine ⟨.ref _, _, I5.laid (t' := s4.toks) (o := .tup [x1, x3]) (fun b ob q => Heap.get?_push_of_some _ q) (Nat.le_refl _) ?_, rfl, q _ (I5.hok.fresh (Nat.le_refl _))⟩
  exact ⟨by show 2 ≤ sizeLine; rw [sizeLine_eq]; decide, _, .cons ra (.cons rc .nil), IsTup.new _ _⟩⟩
def eTwo (f : ED) : ED := fun env st => (f env st).bind fun w st => match w with
  | .v (.tup [a, _, c]) => .ok (.v (.tup [a, c])) st
  | _ => .bad
theorem de_two {X : Cx} {ct : Nat → Value} {E : St → XK} {e : Expr} {f : ED} {k : Nat} {p1 p3 pos : Pos} (h : PE X e (tE X.kw ct E f)) : PE X (.Subscript e (.Slice none none (some (.Constant (.int 2) k p1)) p3) pos) (tE X.kw ct E (eTwo f)) :=
  PE.of (pe_two h) fun σ H Q q => by
    refine (tG.bind (rel := Rw) (k := fun w _ st => match w with | .v (.tup [a, _, c]) => R.ok (W.v (D.tup [a, c])) st | _ => R.bad) q).mono fun v H1 ⟨ρ1, st1, env, w, a1, r1, q1⟩ => ?_
    split at q1
    · cases r1 with | v r1 =>
      cases r1 with
      | tup h1 n1 r2 =>
        cases r2 with | cons ra r2 => cases r2 with | cons rb r2 => cases r2 with | cons rc r2 => cases r2 with | nil =>
        exact ⟨_, _, _, _, rfl, .inl h1, fun p hp => okG.up q1 a1.1 (same_upd hp) (.v (.tup (.inl upd_same) (a1.1.fresh hp) (.cons (ra.same (same_upd hp)) (.cons (rc.same (same_upd hp)) .nil))))⟩
    · exact q1.elim
/-! x in a tuple of flat values -/
def D.fv : D → Option V
  | .non => some .non
  | .bl b => some (.bl b)
  | .int i => some (.int i)
  | .str x => some (.str x)
  | _ => none
def fvs : List D → Option (List V)
  | [] => some []
  | d :: r => (d.fv).bind fun v => (fvs r).map (v :: ·)
theorem fv_of {K : KW} {ρ : Rho} {H : Hp} {v u : V} {d : D} (r : Rl K ρ H v d) (e : d.fv = some u) : v = u ∧ flatV u = true := by
  cases r <;> simp [D.fv] at e <;> subst e <;> exact ⟨rfl, rfl⟩
theorem fvs_of {K : KW} {ρ : Rho} {H : Hp} : ∀ {vs us : List V} {ds : List D}, RlAll K ρ H vs ds → fvs ds = some us → vs = us ∧ us.all flatV = true
  | _, _, _, .nil, e => by simp [fvs] at e; subst e; exact ⟨rfl, rfl⟩
  | _, us, _, .cons (d := d) (ds := ds) r t, e => by
    simp only [fvs] at e
    cases e1 : d.fv with
    | none => rw [e1] at e; cases e
    | some u =>
      rw [e1] at e
      simp only [Option.bind_some] at e
      cases e2 : fvs ds with
      | none => rw [e2] at e; cases e
      | some us' =>
        rw [e2] at e
        cases e
        obtain ⟨rfl, h1⟩ := fv_of r e1
        obtain ⟨rfl, h2⟩ := fvs_of t e2
        exact ⟨rfl, by rw [List.all_cons, h1, h2]; rfl⟩
def inT (neg : Bool) : T2
  | a, .tup ds => a.fv.bind fun x => (fvs ds).map fun xs => .bl (if neg then !inV x xs else inV x xs)
  | _, _ => none
theorem inT_read {X : Cx} {neg : Bool} {f : Value → Value → Sem Value} (h : OpR X f (rIn X.K neg)) : OpR X f (rOf X.kw (onV (inT neg))) := OpR.v <| by
  intro pins s σ H x y v u Q I rx ry hh
  obtain ⟨ρ, st, d1, d2, d, rs, r1, r2, e, q⟩ := hh
  unfold inT at e
  split at e
  rotate_left
  · cases e
  rename_i ds
  cases e1 : d1.fv with
  | none => rw [e1] at e; cases e
  | some a =>
  rw [e1] at e
  simp only [Option.bind_some] at e
  cases e2 : fvs ds with
  | none => rw [e2] at e; cases e
  | some xs =>
  rw [e2] at e
  cases e
  obtain ⟨rfl, f1⟩ := fv_of r1 e1
  cases r2 with
  | tup h1 n1 r3 =>
    obtain ⟨rfl, f2⟩ := fvs_of r3 e2
    exact h pins s σ H _ _ v u Q I rx ry ⟨_, _, rfl, .inr (.inl h1), f1, f2, q _ _ (.refl _) (.bl _)⟩
abbrev in3 : O2 := orO in2 (onV (inT false))
abbrev notIn3 : O2 := orO notIn2 (onV (inT true))
theorem op_in3 {X : Cx} (hu : X.A.units + 65 < cLine) : OpR X (compareOp .In) (rOf X.kw in3) := OpR.or (op_in2 hu) (inT_read op_in_seq)
theorem op_notIn3 {X : Cx} (hu : X.A.units + 65 < cLine) : OpR X (compareOp .NotIn) (rOf X.kw notIn3) := OpR.or (op_notIn2 hu) (inT_read op_notIn_seq)
end Jv
end
section
/-! dict(list or tuple of pairs); len of such -/
namespace Jv
open PySem PySem.Spec L2 PyProof.Rows PySem.W
def pairsOf : List D → Option (List (D × D))
  | [] => some []
  | .tup [k, d] :: r => (pairsOf r).map ((k, d) :: ·)
  | _ :: _ => none
def seqOf (st : Sto) : W → Option (List D)
  | .v (.tupx ds) => some ds
  | w => asLst st w
def hasL (kvs : List (D × D)) (k : Leaf) : Bool := kvs.any fun p => decide (p.1.lf = some k)
def storeL (kvs : List (D × D)) (k d : D) (l : Leaf) : List (D × D) := if hasL kvs l then kvs.map fun p => if p.1.lf = some l then (p.1, d) else p else kvs ++ [(k, d)]
def storeAllL : List (D × D) → List (D × D) → List (D × D)
  | acc, [] => acc
  | acc, (k, d) :: r => match k.lf with
    | some l => storeAllL (storeL acc k d l) r
    | none => acc
def dictB : B1
  | st, [w] => (seqOf st w).bind fun ds => (pairsOf ds).bind fun ps =>
    if ps.length ≤ 1000 then (if ps.all fun p => isTp p.1 && okK p.1 then some (.kd (ps.foldl (fun acc p => storeK acc p.1 p.2) []))
      else if ps.all fun p => (p.1.lf).isSome then some (.ld (storeAllL [] ps)) else none) else none
  | _, _ => none
section
variable {K : KW} {ρ : Rho} {H : Hp}
theorem KdR.putAll {ps : List (NestedKey × Addr × Value)} {kvs : List (D × D)} (q : KdR K ρ H ps kvs) : ∀ {xs : List (NestedKey × Addr × Value)} {es : List (D × D)}, KdR K ρ H xs es → KdR K ρ H (storedAllH xs ps) (kvs.foldl (fun acc p => storeK acc p.1 p.2) es) := by
  induction q with
  | nil => intro xs es h; exact h
  | cons r q1 q2 t ih => intro xs es h; exact ih (h.put r q1 q2)
theorem LdR.has {xs : List (Leaf × Value)} {ds : List (D × D)} (l : Leaf) (h : LdR K ρ H xs ds) : (xs.any fun kv => decide (kv.1 = l)) = hasL ds l := by
  induction h with
  | nil => rfl
  | @cons l0 u v k d xs ds e r q t ih =>
    simp only [hasL, List.any_cons] at ih ⊢
    rw [ih, e]
    simp
theorem LdR.append {xs ys : List (Leaf × Value)} {ds es : List (D × D)} (h : LdR K ρ H xs ds) (h2 : LdR K ρ H ys es) : LdR K ρ H (xs ++ ys) (ds ++ es) := by
  induction h with
  | nil => exact h2
  | cons r q1 q2 _ ih => exact .cons r q1 q2 ih
theorem LdR.maps {xs : List (Leaf × Value)} {ds : List (D × D)} {l : Leaf} {d : D} {v : V} {u : Value} (h : LdR K ρ H xs ds) (ru : RelV v u) (rv : Rl K ρ H v d) :
    LdR K ρ H (xs.map fun kv => if kv.1 = l then (kv.1, u) else kv) (ds.map fun p => if p.1.lf = some l then (p.1, d) else p) := by
  induction h with
  | nil => exact .nil
  | @cons l0 u0 v0 k0 d0 xs ds e q1 q2 t ih =>
    simp only [List.map_cons]
    by_cases z : l0 = l
    · rw [if_pos z, if_pos (by rw [e, z])]
      exact .cons e ru rv ih
    · rw [if_neg z, if_neg (by rw [e]; exact fun y => z (Option.some.inj y))]
      exact .cons e q1 q2 ih
theorem LdR.put {xs : List (Leaf × Value)} {ds : List (D × D)} {k d : D} {l : Leaf} {v : V} {u : Value} (h : LdR K ρ H xs ds) (e : k.lf = some l) (ru : RelV v u) (rv : Rl K ρ H v d) : LdR K ρ H (stored xs l u) (storeL ds k d l) := by
  unfold stored storeL
  rw [h.has l]
  split
  · exact h.maps ru rv
  · exact h.append (.cons e ru rv .nil)
theorem LdR.putAll {ps : List (Leaf × Value)} {kvs : List (D × D)} (q : LdR K ρ H ps kvs) : ∀ {xs : List (Leaf × Value)} {es : List (D × D)}, LdR K ρ H xs es → LdR K ρ H (merged xs ps) (storeAllL es kvs) := by
  induction q with
  | nil => intro xs es h; exact h
  | cons e q1 q2 t ih =>
    intro xs es h
    simp only [storeAllL, e]
    exact ih (h.put e q1 q2)
theorem LdR.rows {xs : List (Leaf × Value)} {kvs : List (D × D)} (r : LdR K ρ H xs kvs) : ∃ vs, LdOk xs vs kvs ∧ RlAll K ρ H vs (kvs.map (·.2)) := by
  induction r with
  | nil => exact ⟨[], ⟨rfl, .nil⟩, .nil⟩
  | @cons l u v k d xs ds e q1 q2 _ ih =>
    obtain ⟨vs, h1, h2⟩ := ih
    exact ⟨v :: vs, ⟨by simp [e, h1.keys], .cons q1 h1.vals⟩, .cons q2 h2⟩
theorem leaf_is {k : D} {v : V} {u : Value} {l : Leaf} (r : Rl K ρ H v k) (q : RelV v u) (e : k.lf = some l) : Leaf.isOf l u = true := by
  cases k with
  | non => cases e; cases r; cases q; rfl
  | int i => cases e; cases r; obtain ⟨t, rfl⟩ := q; exact decide_eq_true rfl
  | str x => cases e; cases r; obtain ⟨t, rfl⟩ := q; show (x == x) = true; simp
  | _ => cases e
/-- the pairs' rows: keys, values -/
inductive PrR (K : KW) (ρ : Rho) (H : Hp) : List (Value × Value) → List (D × D) → Prop
  | nil : PrR K ρ H [] []
  | cons {a u : Value} {va vu : V} {k d : D} {xs : List (Value × Value)} {ds : List (D × D)} : RelV va a → Rl K ρ H va k → RelV vu u → Rl K ρ H vu d → PrR K ρ H xs ds → PrR K ρ H ((a, u) :: xs) ((k, d) :: ds)
theorem PrR.length {xs : List (Value × Value)} {ds : List (D × D)} (h : PrR K ρ H xs ds) : xs.length = ds.length := by
  induction h with
  | nil => rfl
  | cons _ _ _ _ _ ih => simp [ih]
theorem PrR.kd {ps : List (Value × Value)} {ds : List (D × D)} (h : PrR K ρ H ps ds) (c : ∀ p ∈ ds, isTp p.1 = true) : ∃ xs : List (NestedKey × Addr × Value), KdR K ρ H xs ds ∧ ps = xs.map fun x => (Value.ref x.2.1, x.2.2) := by
  induction h with
  | nil => exact ⟨[], .nil, rfl⟩
  | @cons a u va vu k d xs ds q1 r1 q2 r2 t ih =>
    obtain ⟨ys, h1, h2⟩ := ih fun p hp => c p (List.mem_cons_of_mem _ hp)
    have ck := c _ List.mem_cons_self
    cases r1 with
    | tup h n r => cases q1; exact ⟨_, .cons (.tup h n r) q2 r2 h1, by rw [h2]; rfl⟩
    | _ => cases ck
theorem PrR.ld {ps : List (Value × Value)} {ds : List (D × D)} (h : PrR K ρ H ps ds) (c : ∀ p ∈ ds, (p.1.lf).isSome = true) : ∃ xs : List (Leaf × Value), LdR K ρ H xs ds ∧ xs.length = ps.length ∧ ∀ (i : Nat) (key v : Value), ps[i]? = some (key, v) → ∃ k, xs[i]? = some (k, v) ∧ Leaf.isOf k key = true := by
  induction h with
  | nil => exact ⟨[], .nil, rfl, fun i key v e => by simp at e⟩
  | @cons a u va vu k d xs ds q1 r1 q2 r2 t ih =>
    obtain ⟨ys, h1, h2, h3⟩ := ih fun p hp => c p (List.mem_cons_of_mem _ hp)
    obtain ⟨l, el⟩ := Option.isSome_iff_exists.mp (c _ List.mem_cons_self)
    refine ⟨(l, u) :: ys, .cons el q2 r2 h1, by simp [h2], fun i key v e => ?_⟩
    cases i with
    | zero => simp at e; obtain ⟨rfl, rfl⟩ := e; exact ⟨l, rfl, leaf_is r1 q1 el⟩
    | succ i => simpa using h3 i key v (by simpa using e)
end
section
variable {X : Cx} {pins : List (Addr × Obj)} {σ : St} {H : Hp} {s : Shared} {ρ : Rho}
theorem pairs_laid (I : Inv X pins σ H s) : ∀ {vs : List V} {its : List Value} {ds : List D} {ps : List (D × D)}, RlAll X.kw ρ H vs ds → Vals vs its → pairsOf ds = some ps →
    ∃ (Tl : List Addr) (rs : List (Value × Value)), its = Tl.map Value.ref ∧ PrR X.kw ρ H rs ps ∧ Tl.length = rs.length ∧ ∀ (j : Nat) (T : Addr) (k v : Value), Tl[j]? = some T → rs[j]? = some (k, v) → PairAt s.heap T k v
  | _, _, _, ps, .nil, .nil, e => by
    simp [pairsOf] at e
    subst e
    exact ⟨[], [], rfl, .nil, rfl, fun j T k v h => by simp at h⟩
  | _, _, _, ps, .cons (d := d) (ds := ds) r t, .cons q qs, e => by
    unfold pairsOf at e
    split at e
    · rename_i z; cases z
    · rename_i k d' r' z
      cases z
      cases ep : pairsOf ds with
      | none => rw [ep] at e; cases e
      | some ps' =>
        rw [ep] at e
        cases e
        obtain ⟨Tl, rs, h1, h2, h3, h4⟩ := pairs_laid I t qs ep
        cases r with
        | @tup a _ _ t1 t2 t3 =>
          cases q
          cases t3 with | cons ra t3 => cases t3 with | cons rb t3 => cases t3 with | nil =>
          obtain ⟨its2, rv, pl, _⟩ := I.tuple (.inl t1)
          cases rv with | cons qa rv => cases rv with | cons qb rv => cases rv with | nil =>
          obtain ⟨o, e1, e2, m, e3⟩ := pl
          refine ⟨a :: Tl, _ :: rs, by rw [h1]; rfl, .cons qa ra qb rb h2, by simp [h3], fun j T kk vv hT hr => ?_⟩
          cases j with
          | zero =>
            simp at hT hr
            obtain ⟨rfl, rfl⟩ := hr
            subst hT
            exact .inl ⟨o, e1, e2, m, e3⟩
          | succ j => exact h4 j T kk vv (by simpa using hT) (by simpa using hr)
    · cases e
end
theorem dict_raw {X : Cx} {pins : List (Addr × Obj)} {σ : St} {H : Hp} {s : Shared} {ρ : Rho} {st : Sto} {E : Value → Shared → Prop} {Q : Value → Shared → Prop} {v : V} {w : W} {ds : List D} {ps : List (D × D)} (hc : X.calm = true) (hu : X.A.units + 65 < cLine) (I : Inv X pins σ H s) (rs : RelSt X.kw ρ H st) (r : Rw X.kw ρ H v w)
    (e : seqOf st w = some ds) (ep : pairsOf ds = some ps) (hl : ps.length ≤ 1000) (u : Value) (ru : RelV v u)
    (hk : (∀ p ∈ ps, isTp p.1 = true ∧ okK p.1 = true) → ∀ (xs : List (NestedKey × Addr × Value)) (h' : Heap) (tk : Nat), KdR X.kw ρ H xs ps → h'.DictOfH (nestedKind X.prog X.w) s.heap.objs.size (storedAllH [] xs) → (∀ b o, s.heap.get? b = some o → h'.get? b = some o) → Q (.ref s.heap.objs.size) { s with heap := h', toks := tk })
    (hf : (∀ p ∈ ps, (p.1.lf).isSome = true) → ∀ (xs : List (Leaf × Value)) (h' : Heap) (tk : Nat), LdR X.kw ρ H xs ps → h'.DictOf (leafKind X.prog X.w) s.heap.objs.size (merged [] xs) → (∀ b o, s.heap.get? b = some o → h'.get? b = some o) → Q (.ref s.heap.objs.size) { s with heap := h', toks := tk })
    (c : (∀ p ∈ ps, isTp p.1 = true ∧ okK p.1 = true) ∨ ∀ p ∈ ps, (p.1.lf).isSome = true) :
    wpAny (model X.prog X.w) X.A (call (.type "dict") [u]) Q E s := by
  have hh := I.ok.hd hc
  -- both kinds of argument
  have go : ∀ {T : String} {a : Addr} {its : List Value} {OK : Heap → Prop} (Tl : List Addr) (prs : List (Value × Value)), its = Tl.map Value.ref → PrR X.kw ρ H prs ps → Tl.length = prs.length →
      PairArg X.prog X.w T a (a :: (List.range prs.length).map fun j => Tl.getD j 0) [] prs.length (PairRel prs) OK → OK s.heap → wpAny (model X.prog X.w) X.A (call (.type "dict") [.ref a]) Q E s := by
    intro T a its OK Tl prs h1 h2 h3 PA ok
    have hn : prs.length ≤ sizeLine := by rw [h2.length]; exact Nat.le_trans hl (by decide)
    rcases c with c | c
    · obtain ⟨xs, k1, k2⟩ := h2.kd fun p hp => (c p hp).1
      have his : ∀ x ∈ xs, (nestedKind X.prog X.w).is s.heap x.1 x.2.1 := by
        clear k2 hk hf h2 PA ep
        induction k1 with
        | nil => intro x hx; cases hx
        | cons r q1 q2 _ ih =>
          intro x hx
          rcases List.mem_cons.mp hx with rfl | hx
          · have := (c _ List.mem_cons_self).2
            simp only [okK, Bool.and_eq_true, decide_eq_true_eq] at this
            exact ⟨nested_of I _ _ _ r rfl this.1, this.2⟩
          · exact ih (by simp at hl ⊢; omega) (fun p hp => c p (List.mem_cons_of_mem _ hp)) x hx
      refine call_dict_pairsH (knd := nestedKind X.prog X.w) (ps := xs) PA hh (show X.A.units + 1 + 1 + 8 < cLine by omega) ok ⟨by rw [k2]; simp, fun i key vv hi => ?_⟩ (fun h' hk' x hx => ?_) hn fun h' tk hd' hk' => hk c xs h' tk k1 hd' fun b o hb => hk' b o (fun z => nomatch z) hb
      · have hi : prs[i]? = some (key, vv) := hi
        rw [k2, List.getElem?_map] at hi
        obtain ⟨y, hy, ey⟩ := Option.map_eq_some_iff.mp hi
        cases ey
        exact ⟨y.1, y.2.1, hy, rfl⟩
      · exact nestedKind_stays.stays (fun b o vs n eb _ => hk' b o (Nat.ne_of_lt (Heap.lt_size eb)) (fun z => nomatch z) eb) (his x hx)
    · obtain ⟨xs, k1, k2, k3⟩ := h2.ld c
      exact call_dict_pairs (knd := leafKind X.prog X.w) (kvs := xs) PA hh ok ⟨k2, fun i key vv hi => k3 i key vv hi⟩ hn fun h' tk hd' hk' => hf c xs h' tk k1 hd' fun b o hb => hk' b o (fun z => nomatch z) hb
  have items : ∀ {vs : List V} {its : List Value} {a : Addr}, RlAll X.kw ρ H vs ds → Vals vs its → ∃ (Tl : List Addr) (prs : List (Value × Value)), its = Tl.map Value.ref ∧ PrR X.kw ρ H prs ps ∧ Tl.length = prs.length ∧ PairItems s.heap its.toArray (fun j => Tl.getD j 0) prs := by
    intro vs its a h1 h2
    obtain ⟨Tl, prs, k1, k2, k3, k4⟩ := pairs_laid I h1 h2 ep
    refine ⟨Tl, prs, k1, k2, k3, by rw [k1]; simp [k3], fun j k v hj => ?_⟩
    have hlt : j < Tl.length := by rw [k3]; exact (List.getElem?_eq_some_iff.mp hj).1
    have eT : Tl.getD j 0 = Tl[j] := by simp [List.getD, hlt]
    show its.toArray[j]? = some (Value.ref (Tl.getD j 0)) ∧ PairAt s.heap (Tl.getD j 0) k v
    rw [eT]
    exact ⟨by rw [k1]; simp [hlt], k4 j Tl[j] k v (List.getElem?_eq_getElem hlt) hj⟩
  have list : ∀ {a : Addr} {vs : List V}, v = .ref a → SqL X.K H a vs → RlAll X.kw ρ H vs ds → wpAny (model X.prog X.w) X.A (call (.type "dict") [u]) Q E s := by
    intro a vs ev h1 h2
    subst ev
    cases ru
    obtain ⟨its, rv, ⟨o, n, e1, e2, e3, e4⟩, hz⟩ := I.list h1
    obtain ⟨Tl, prs, k1, k2, k3, k4⟩ := items (a := a) h2 rv
    exact go Tl prs k1 k2 k3 (PairArg.list a its.toArray (fun j => Tl.getD j 0) prs) ⟨⟨o, n, e1, e2, e3, e4⟩, k4⟩
  cases w with
  | r l =>
    obtain ⟨a, vs, ev, h1, h2⟩ := lst_of rs r (show asLst st (.r l) = some ds from e)
    exact list ev h1 h2
  | v d =>
    cases d with
    | tupx ds' =>
      cases e
      cases r with | v r =>
      cases r with
      | @tupx a o vs _ t1 t2 hd t3 =>
        cases ru
        obtain ⟨e1, hz, its, rv, ⟨o', e1', e2, n, e3⟩⟩ := I.hok a _ t1
        rw [e1] at e1'
        cases e1'
        obtain ⟨Tl, prs, k1, k2, k3, k4⟩ := items (a := a) t3 rv
        exact go Tl prs k1 k2 k3 (PairArg.tuple a its.toArray (fun j => Tl.getD j 0) prs) ⟨⟨o, n, e1, e2, hd, e3⟩, k4⟩
    | lst ds' =>
      obtain ⟨a, vs, ev, h1, h2⟩ := lst_of rs r (show asLst st (.v (.lst ds')) = some ds from e)
      exact list ev h1 h2
    | _ => cases e
section
variable {X : Cx}
theorem stores_ok : ∀ (ps acc : List (D × D)), (∀ p ∈ acc, p.1.hb = true ∧ p.1.nk.depth ≤ 8) → (acc.map (·.1.nk)).Nodup → (∀ p ∈ ps, isTp p.1 = true ∧ okK p.1 = true) →
    (∀ p ∈ ps.foldl (fun acc p => storeK acc p.1 p.2) acc, p.1.hb = true ∧ p.1.nk.depth ≤ 8) ∧ ((ps.foldl (fun acc p => storeK acc p.1 p.2) acc).map (·.1.nk)).Nodup
  | [], acc, h1, h2, _ => ⟨h1, h2⟩
  | p :: r, acc, h1, h2, c => by
    have := (c p List.mem_cons_self).2
    simp only [okK, Bool.and_eq_true, decide_eq_true_eq] at this
    exact stores_ok r _ (storeK_mem h1 this) (storeK_nodup h2) fun q hq => c q (List.mem_cons_of_mem _ hq)
theorem cb_dict (hc : X.calm = true) (hu : X.A.units + 65 < cLine) : CallR X (.type "dict") (rA X.kw dictB) := by
  intro pins s σ H xs us Q I rr h
  obtain ⟨ρ, st, ws, d, rs, r, e, q⟩ := h
  unfold dictB at e
  split at e
  rotate_left
  · cases e
  rename_i w
  obtain ⟨v, rfl, rv⟩ := r.one
  obtain ⟨u, rfl, ru⟩ := Vals.one rr
  cases es : seqOf st w with
  | none => rw [es] at e; cases e
  | some ds =>
  rw [es] at e
  simp only [Option.bind_some] at e
  cases ep : pairsOf ds with
  | none => rw [ep] at e; cases e
  | some ps =>
  rw [ep] at e
  simp only [Option.bind_some] at e
  split at e
  rotate_left
  · cases e
  rename_i hl
  have hp : H s.heap.objs.size = none := I.hok.fresh (Nat.le_refl _)
  have hb : (s.heap.objs.size == sysModules) = false := beq_eq_false_iff_ne.mpr (Ne.symm (Nat.ne_of_lt I.big))
  have nm := rs.fresh hp
  have lay : ∀ {h' : Heap} {o : Obj} {tk : Nat}, (∀ b ob, s.heap.get? b = some ob → h'.get? b = some ob) → h'.get? s.heap.objs.size = some o → Inv X pins σ (upd H s.heap.objs.size (.ext (KoAt s.heap.objs.size o))) { s with heap := h', toks := tk } := fun {h' o tk} k e => by
    refine I.laid (t' := tk) k (Nat.le_refl _) ⟨e, ⟨_, e⟩, fun h1 h2 p k => k _ p⟩
  have kcase : (∀ p ∈ ps, isTp p.1 = true ∧ okK p.1 = true) → d = .kd (ps.foldl (fun acc p => storeK acc p.1 p.2) []) → ∀ (xs : List (NestedKey × Addr × Value)) (h' : Heap) (tk : Nat), KdR X.kw ρ H xs ps → h'.DictOfH (nestedKind X.prog X.w) s.heap.objs.size (storedAllH [] xs) → (∀ b o, s.heap.get? b = some o → h'.get? b = some o) →
      EP X pins σ Q (.ref s.heap.objs.size) { s with heap := h', toks := tk } := by
    rintro c rfl xs h' tk k1 ⟨o, es', ep', ho, hc', hd, he, his, hn⟩ kp
    have sm : Same H (upd H s.heap.objs.size (.ext (KoAt s.heap.objs.size o))) := same_upd hp
    obtain ⟨h1, h2⟩ := stores_ok ps [] (fun p hp => nomatch hp) List.nodup_nil c
    obtain ⟨vs, r1, r2, r3, r4⟩ := (k1.putAll .nil).rows
    refine ⟨.ref s.heap.objs.size, _, lay kp ho, rfl, q _ _ sm (.kd upd_same nm ⟨⟨es', ep', hc', hd, he⟩, r1, r2, h1, h2⟩ hb ((r3.append r4).same sm))⟩
  have lcase : d = .ld (storeAllL [] ps) → ∀ (xs : List (Leaf × Value)) (h' : Heap) (tk : Nat), LdR X.kw ρ H xs ps → h'.DictOf (leafKind X.prog X.w) s.heap.objs.size (merged [] xs) → (∀ b o, s.heap.get? b = some o → h'.get? b = some o) →
      EP X pins σ Q (.ref s.heap.objs.size) { s with heap := h', toks := tk } := by
    rintro rfl xs h' tk k1 hd kp
    obtain ⟨o, ho, hi⟩ := Heap.dictOf_iff.mp hd
    have sm : Same H (upd H s.heap.objs.size (.ext (KoAt s.heap.objs.size o))) := same_upd hp
    obtain ⟨vs, r1, r2⟩ := (k1.putAll .nil).rows
    exact ⟨.ref s.heap.objs.size, _, lay kp ho, rfl, q _ _ sm (.ld upd_same nm ⟨⟨_, hi⟩, r1⟩ hb (r2.same sm))⟩
  split at e
  · rename_i c
    cases e
    have c' : ∀ p ∈ ps, isTp p.1 = true ∧ okK p.1 = true := fun p hp => by
      have := List.all_eq_true.mp c p hp
      simpa using this
    refine dict_raw hc hu I rs rv es ep hl u ru (fun c2 => kcase c' rfl) (fun c2 => ?_) (.inl c')
    -- both: the list is empty
    intro xs h' tk k1 hd kp
    cases ps with
    | cons p r =>
      have a := (c' p List.mem_cons_self).1
      have b := c2 p List.mem_cons_self
      cases hk : p.1 <;> rw [hk] at a b <;> first | (cases a; done) | (cases b; done)
    | nil =>
      cases k1
      obtain ⟨o, ho, hi⟩ := Heap.dictOf_iff.mp hd
      obtain ⟨es', ep', z1, z2, z3, z4, z5⟩ := hi
      have : es' = #[] := by
        have hl := z4.length
        have : (merged ([] : List (Leaf × Value)) []).length = 0 := rfl
        rw [this] at hl
        exact Array.eq_empty_of_size_eq_zero (by simpa using hl)
      subst this
      exact kcase c' rfl [] h' tk .nil ⟨o, #[], ep', ho, z1, z2, rfl, (fun x hx => nomatch hx), List.nodup_nil⟩ kp
  · rename_i c
    split at e
    · rename_i c2
      cases e
      have c2' : ∀ p ∈ ps, (p.1.lf).isSome = true := fun p hp => List.all_eq_true.mp c2 p hp
      refine dict_raw hc hu I rs rv es ep hl u ru (fun c3 => absurd (List.all_eq_true.mpr fun p hp => by simpa using c3 p hp) c) (fun c3 => lcase rfl) (.inr c2')
    · cases e
/-! len of a frozen dict -/
theorem len_raw {P : Program} {w : World} {A : Around} {E : Value → Shared → Prop} {Q : Value → Shared → Prop} {s : Shared} {d : Addr} {es : Array DictEntry} {ep : Nat} (hd : (d == sysModules) = false) (hm : s.heap.DictRaw d es ep) (hz : es.size ≤ 100000)
    (h : ∀ tk t, Q (.int es.size t) { s with toks := tk }) : wpAny (model P w) A (call (.builtin "len") [.ref d]) Q E s :=
  PyProof.Rows.call_len_slot (n := es.size) hm.typeIs F.slot_dict_len (fun Q' hq => call_len_raw hd hm hq) (by omega) (by omega) (h _ _)
def lenK : B1
  | _, [.v (.kd kvs)] => if kvs.length ≤ 100000 then some (.int (kvs.length : Nat)) else none
  | _, [.v (.ld kvs)] => if kvs.length ≤ 100000 then some (.int (kvs.length : Nat)) else none
  | _, _ => none
theorem cb_lenK : CallR X (.builtin "len") (rA X.kw lenK) := by
  intro pins s σ H xs us Q I rr h
  obtain ⟨ρ, st, ws, d, rs, r, e, q⟩ := h
  unfold lenK at e
  split at e
  · rename_i kvs
    split at e
    rotate_left
    · cases e
    rename_i hl
    cases e
    obtain ⟨v, rfl, rv⟩ := r.one
    obtain ⟨u, rfl, ru⟩ := Vals.one rr
    obtain ⟨a, xs, rfl, h1, h2, h3⟩ := kd_of I rs rv rfl
    cases ru
    obtain ⟨o, es, ep, e1, e2, e3, e4, _⟩ := h2
    have hz : es.size = kvs.length := by rw [size_of_entries e4, h1.length]
    refine len_raw h3 ⟨o, e1, e2, e3⟩ (by omega) fun tk t => ⟨.int es.size, H, I.tok _, ⟨_, rfl⟩, ?_⟩
    rw [hz]
    exact q _ _ (.refl _) (.int _)
  · rename_i kvs
    split at e
    rotate_left
    · cases e
    rename_i hl
    cases e
    obtain ⟨v, rfl, rv⟩ := r.one
    obtain ⟨u, rfl, ru⟩ := Vals.one rr
    cases rv with | v rv =>
    cases rv with
    | @ld a o xs vs _ h n m y rl =>
      cases ru
      obtain ⟨⟨pg, es, ep, k1, k2, k3, k4, k5⟩, m2⟩ := m
      have hz : es.size = kvs.length := by
        have h1 := k4.length
        have h2 := congrArg List.length m2.keys
        simp at h1 h2
        omega
      refine len_raw y ⟨o, (I.hok a _ h).1, k1, k2⟩ (by omega) fun tk t => ⟨.int es.size, H, I.tok _, ⟨_, rfl⟩, ?_⟩
      rw [hz]
      exact q _ _ (.refl _) (.int _)
  · cases e
def lenA : B1 := fun st ws => match lenB st ws with
  | some d => some d
  | none => lenK st ws
theorem cb_lenA : CallR X (.builtin "len") (rA X.kw lenA) := by
  intro pins s σ H xs us Q I rr h
  obtain ⟨ρ, st, ws, d, rs, r, e, q⟩ := h
  unfold lenA at e
  cases e1 : lenB st ws with
  | some d' => rw [e1] at e; cases e; exact cb_len pins s σ H xs us Q I rr ⟨ρ, st, ws, _, rs, r, e1, q⟩
  | none => rw [e1] at e; exact cb_lenK pins s σ H xs us Q I rr ⟨ρ, st, ws, d, rs, r, e, q⟩
end
end Jv
end
section
/-! tuples whose very object is known: displays, parts, forgotten again -/
namespace Jv
open PySem PySem.Spec L2 PyProof.Rows PySem.W
theorem laidX {X : Cx} {pins : List (Addr × Obj)} {σ : St} {H : Hp} {s : Shared} {xs : List V} {us : List Value} (I : Inv X pins σ H s) (r : Vals xs us) (z : xs.length ≤ sizeLine) :
    Inv X pins σ (upd H s.heap.objs.size (.frz { cls := .type "tuple", data := .seq us.toArray } (.tup xs))) { s with heap := s.heap.push { cls := .type "tuple", data := .seq us.toArray } } :=
  I.laid (t' := s.toks) (fun b u e => Heap.get?_push_of_some _ e) (Nat.le_refl _) ⟨Heap.get?_push_size _ rfl, z, us, r, ⟨_, Heap.get?_push_size _ rfl, rfl, _, rfl⟩⟩
def tTupX (t : TA) : TE := fun σ H Q => t σ H fun xs H1 => xs.length ≤ sizeLine ∧ ∀ p o, H1 p = none → o.dict = none → Q (.ref p) (upd H1 p (.frz o (.tup xs)))
theorem pe_tupX {X : Cx} {es : List Expr} {t : TA} {x1 : Nat} {pos : Pos} (h : PA X es t) : PE X (.Tuple es x1 pos) (tTupX t) := by
  refine ⟨fun pins s σ H Q I hq => ?_⟩
  refine wpAny_Tuple_spliced (thn (h.run pos pins s σ H _ I hq) fun us s1 ⟨xs, H1, I1, r, z, q⟩ => ⟨by rw [← r.length]; exact z, ?_⟩)
  exact ⟨.ref s1.heap.objs.size, _, laidX I1 r z, rfl, q _ _ (I1.hok.fresh (Nat.le_refl _)) rfl⟩
def eTupX (f : AD) : ED := fun env st => (f env st).bind fun ws st => match allV ws with
  | some ds => if ds.length ≤ 100000 then .ok (.v (.tupx ds)) st else .bad
  | none => .bad
section
variable {X : Cx} {ct : Nat → Value} {E : St → XK} {e : Expr} {es : List Expr} {f : ED} {g : AD}
theorem de_tupX {x1 pos} (h : PA X es (tA X.kw ct E g)) : PE X (.Tuple es x1 pos) (tE X.kw ct E (eTupX g)) := PE.of (pe_tupX h) fun σ H Q q => by
  refine (tG.bind (rel := RwAll) (k := fun ws env st => match allV ws with | some ds => if ds.length ≤ 100000 then R.ok (W.v (D.tupx ds)) st else R.bad | none => R.bad) q).mono fun v H1 ⟨ρ1, st1, env, ws, a1, r1, q1⟩ => ?_
  cases ew : allV ws with
  | none => simp only [ew] at q1; exact q1.elim
  | some ds =>
    simp only [ew] at q1
    split at q1
    · rename_i hl
      have r2 := r1.trees ew
      refine ⟨sl5 (by rw [r2.length]; exact hl), fun p o hp ho => ?_⟩
      exact okG.up q1 a1.1 (same_upd hp) (.v (.tupx upd_same (a1.1.fresh hp) ho (r2.same (same_upd hp))))
    · exact q1.elim
/-- forgotten -/
def tx : W → W
  | .v (.tupx ds) => .v (.tup ds)
  | w => w
theorem tx_ok {K : KW} {ρ : Rho} {H : Hp} {v : V} {w : W} (r : Rw K ρ H v w) : Rw K ρ H v (tx w) := by
  unfold tx
  split
  · cases r with | v r =>
    cases r with
    | tupx h n o q => exact .v (.tup (.inr ⟨_, h⟩) n q)
  · exact r
def eTx (f : ED) : ED := fun env st => (f env st).bind fun w st => .ok (tx w) st
theorem de_tx (h : PE X e (tE X.kw ct E f)) : PE X e (tE X.kw ct E (eTx f)) := PE.of h fun σ H Q q => by
  refine (tG.bind (rel := Rw) (k := fun w env st => R.ok (tx w) st) q).mono fun v H1 ⟨ρ1, st1, env, w, a1, r1, q1⟩ => ?_
  exact q1.here a1.1 (tx_ok r1)
/-! parts -/
def rSlX (K : PySem.W.Frag) : V → Option Int → Option Int → Hp → VK → Prop := fun x lo hi H Q => ∃ a xs, x = .ref a ∧ SqT K H a xs ∧
  ¬ (HT.sIx xs.length 0 lo = 0 ∧ HT.sIx xs.length xs.length hi = xs.length) ∧ ∀ p o, H p = none → o.dict = none → Q (.ref p) (upd H p (.frz o (.tup (cutV xs lo hi))))
theorem sl_tupX : SlR X (rSlX X.K) := by
  intro pins s σ H x v vl vu lo hi sl Q I rx hs pl pu h
  obtain ⟨a, xs, rfl, hx, hw, q⟩ := h
  cases rx
  obtain ⟨its, r, ht, hz⟩ := I.tuple hx
  have hlen : its.toArray.size = xs.length := by rw [List.size_toArray]; exact r.length.symm
  refine ⟨"tuple", _, PyProof.Rows.slot_tuple_getitem.lookup, ht.typeIs, ?_⟩
  refine HT.getItem_tuple_cut ht hs pl pu (by rw [hlen]; exact hw) ?_ (by rw [hlen]; exact hz)
  rw [hlen]
  exact ⟨.ref s.heap.objs.size, _, laidX I ((r.drop (HT.sIx xs.length 0 lo)).take (HT.sIx xs.length xs.length hi - HT.sIx xs.length 0 lo)) (Nat.le_trans (cutV_length xs lo hi) hz), rfl, q _ _ (I.hok.fresh (Nat.le_refl _)) rfl⟩
def slcX : W → Option Int → Option Int → Option D
  | .v (.tupx ds), lo, hi => if HT.sIx ds.length 0 lo = 0 ∧ HT.sIx ds.length ds.length hi = ds.length then none else some (.tupx (cutD ds lo hi))
  | _, _, _ => none
def eSlcX (fa : ED) (fl fh : PD) : ED := fun env st => (fa env st).bind fun w st => (fl env st).bind fun l st => (fh env st).bind fun h st => ofOp st (slcX w l h)
theorem de_slcX {a : Expr} {fa : ED} {lo hi : Option Expr} {fl fh : PD} {p2 pos : Pos} (ha : PE X a (tE X.kw ct E fa)) (hl : PO X lo (tP X.kw ct E fl)) (hh : PO X hi (tP X.kw ct E fh)) : PE X (.Subscript a (.Slice lo hi none p2) pos) (tE X.kw ct E (eSlcX fa fl fh)) :=
  PE.of (pe_slice sl_tupX ha hl hh) fun σ H Q q => by
    refine (tG.bind (rel := Rw) (k := fun w env st => (fl env st).bind fun l st => (fh env st).bind fun h st => ofOp st (slcX w l h)) q).mono fun v H1 ⟨ρ1, st1, env, w, a1, r1, q1⟩ => ?_
    refine ⟨ρ1, st1, env, a1, (okG.bind (rel := RlP) q1 a1.2).mono fun l H2 ⟨ρ2, st2, l', a2, g2, r2, q2⟩ => ?_⟩
    cases r2
    refine ⟨ρ2, st2, env, a2, (okG.bind (rel := RlP) q2 a2.2).mono fun h H3 ⟨ρ3, st3, h', a3, g3, r3, q3⟩ => ?_⟩
    cases r3
    cases e : slcX w l h with
    | none => rw [e] at q3; exact q3.elim
    | some d =>
      rw [e] at q3
      unfold slcX at e
      split at e
      rotate_left
      · cases e
      split at e
      · cases e
      rename_i hw
      cases e
      have r4 := (r1.grow g2).grow g3
      cases r4 with | v r4 =>
      cases r4 with
      | tupx h1 n1 o1 q4 =>
        exact ⟨_, _, rfl, .inl (.inr ⟨_, h1⟩), by rw [q4.length]; exact hw, fun p o hp ho => okG.up q3 a3.1 (same_upd hp) (.v (.tupx upd_same (a3.1.fresh hp) ho (q4.cutV.same (same_upd hp))))⟩
def tTwoX (K : KW) (te : TE) : TE := fun σ H Q => te σ H fun x H1 => ∃ a u v z, x = .ref a ∧ SqT K H1 a [u, v, z] ∧ ∀ p o, H1 p = none → o.dict = none → Q (.ref p) (upd H1 p (.frz o (.tup [u, z])))
theorem pe_twoX {te : TE} {k : Nat} {p1 p3 pos : Pos} (he : PE X e te) : PE X (.Subscript e (.Slice none none (some (.Constant (.int 2) k p1)) p3) pos) (tTwoX X.kw te) := ⟨fun pins s σ H Q I h => by
  refine Subscript_ (thn (he.run pins s σ H _ I h) ?_)
  rintro v s1 ⟨x, H1, I1, r1, a, x1, x2, x3, rfl, hx, q⟩
  cases r1
  have hst : PO X (some (.Constant (.int 2) k p1)) (tPart (tC (.int 2))) := po_some pe_int
  refine wpAny_Slice (thn (po_none.run pins s1 σ H1 (fun o H2 => o = none ∧ H2 = H1) I1 ⟨rfl, rfl⟩) ?_)
  rintro vl s2 ⟨l, H2, I2, pl, rfl, rfl⟩
  refine thn (po_none.run pins s2 σ H2 (fun o H3 => o = none ∧ H3 = H2) I2 ⟨rfl, rfl⟩) ?_
  rintro vu s3 ⟨u, H3, I3, pu, rfl, rfl⟩
  refine thn (hst.run pins s3 σ H3 (fun o H4 => o = some 2 ∧ H4 = H3) I3 ⟨2, rfl, rfl, rfl⟩) ?_
  rintro vs s4 ⟨o, H4, I4, ps, rfl, rfl⟩
  have I5 : Inv X pins σ H4 { s4 with heap := s4.heap.push { cls := .type "slice", data := .fields #[vl, vu, vs] } } := I4.kept (t' := s4.toks) fun b ob q => Heap.get?_push_of_some _ q
  obtain ⟨its, r, ht, hz⟩ := I5.tuple hx
  cases r with | cons ra r => cases r with | cons rb r => cases r with | cons rc r => cases r with | nil =>
  show wpAny (model X.prog X.w) X.A (subscriptTail e (.Slice none none (some (.Constant (.int 2) k p1)) p3) (.ref a) (.ref s4.heap.objs.size)) (EP X pins σ Q) X.xe { s4 with heap := s4.heap.push { cls := .type "slice", data := .fields #[vl, vu, vs] } }
  refine tail_any (ops := [.ref a, .ref s4.heap.objs.size]) ht.typeIs (PyProof.Rows.slot_tuple_getitem.lookup) ?_ (by with_unfolding_all rfl)
  refine getItem_tuple_two ht (Heap.IsSliceOf.new _ vl vu vs) pl pu ps ?_
  exact ⟨.ref _, _, laidX I5 (.cons ra (.cons rc .nil)) (by show 2 ≤ sizeLine; rw [sizeLine_eq]; decide), rfl, q _ _ (I5.hok.fresh (Nat.le_refl _)) rfl⟩⟩
def eTwoX (f : ED) : ED := fun env st => (f env st).bind fun w st => match w with
  | .v (.tupx [a, _, c]) => .ok (.v (.tupx [a, c])) st
  | _ => .bad
theorem de_twoX {k : Nat} {p1 p3 pos : Pos} (h : PE X e (tE X.kw ct E f)) : PE X (.Subscript e (.Slice none none (some (.Constant (.int 2) k p1)) p3) pos) (tE X.kw ct E (eTwoX f)) :=
  PE.of (pe_twoX h) fun σ H Q q => by
    refine (tG.bind (rel := Rw) (k := fun w _ st => match w with | .v (.tupx [a, _, c]) => R.ok (W.v (D.tupx [a, c])) st | _ => R.bad) q).mono fun v H1 ⟨ρ1, st1, env, w, a1, r1, q1⟩ => ?_
    split at q1
    · cases r1 with | v r1 =>
      cases r1 with
      | tupx h1 n1 o1 r2 =>
        cases r2 with | cons ra r2 => cases r2 with | cons rb r2 => cases r2 with | cons rc r2 => cases r2 with | nil =>
        exact ⟨_, _, _, _, rfl, .inl (.inr ⟨_, h1⟩), fun p o hp ho => okG.up q1 a1.1 (same_upd hp) (.v (.tupx upd_same (a1.1.fresh hp) ho (.cons (ra.same (same_upd hp)) (.cons (rc.same (same_upd hp)) .nil))))⟩
    · exact q1.elim
end
section
variable {X : Cx} {ct : Nat → Value} {E : St → XK}
/-- name = [.. for .. for ..], the name a local on the same line -/
theorem ds_setLc2 {i : Nat} {y : Str} {py : Pos} {elt tg0 iter0 tg1 iter1 : Expr} {ifs0 ifs1 : List Expr} {scope : Scope} {own : List (Str × Nat)} {vs1 : List Nat} {pos spos : Pos} {it0 it1 : LD} {g0 g1 : GD} {t0 t1 : BD} {fe : ED} (hc : X.calm = true) (hN : X.N.Nodup)
    (hy : X.N[i]? = some y) (hyl : X.env.scope.names.lookup y = some .local) (hsw : swapsWith (.ListComp elt [⟨tg0, iter0, ifs0, 0⟩, ⟨tg1, iter1, ifs1, 0⟩] scope pos) (some (.Name y py)) spos.line X.env = pure true) (hi : PI X tg0 iter0 (iR X.kw ct E it0)) (ok : BlkOk X.N X.env.scope scope own)
    (hv1 : ∀ i ∈ vs1, i ∈ own.map (·.2))
    (hg0 : ∀ (s : Shared) (H : Hp) (C : Addr) (cl : List (Str × Addr)) (fp : List Addr), PG (X.blk s H scope (compEnvC scope cl C X.env) fp) tg0 (gR X.kw (own.map (·.2)) g0))
    (ht0 : ∀ (s : Shared) (H : Hp) (C : Addr) (cl : List (Str × Addr)) (fp : List Addr), PTs (X.blk s H scope (compEnvC scope cl C X.env) fp) ifs0 (tT X.kw ct (fun _ => E0) t0))
    (hi1 : ∀ (s : Shared) (H : Hp) (C : Addr) (cl : List (Str × Addr)) (fp : List Addr), PI (X.blk s H scope (compEnvC scope cl C X.env) fp) tg1 iter1 (iR X.kw ct (fun _ => E0) it1))
    (hg1 : ∀ (s : Shared) (H : Hp) (C : Addr) (cl : List (Str × Addr)) (fp : List Addr), PG (X.blk s H scope (compEnvC scope cl C X.env) fp) tg1 (gR X.kw vs1 g1))
    (ht1 : ∀ (s : Shared) (H : Hp) (C : Addr) (cl : List (Str × Addr)) (fp : List Addr), PTs (X.blk s H scope (compEnvC scope cl C X.env) fp) ifs1 (tT X.kw ct (fun _ => E0) t1))
    (he : ∀ (s : Shared) (H : Hp) (C : Addr) (cl : List (Str × Addr)) (fp : List Addr), PE (X.blk s H scope (compEnvC scope cl C X.env) fp) elt (tE X.kw ct (fun _ => E0) fe)) (hs : ∀ x, foldedSetIterable iter0 X.env x = pure x := by intro _; rfl)
    (hs1 : ∀ env x, foldedSetIterable iter1 env x = pure x := by intro _ _; rfl) :
    PS X (.Assign [.Name y py] (.ListComp elt [⟨tg0, iter0, ifs0, 0⟩, ⟨tg1, iter1, ifs1, 0⟩] scope pos) spos) (tS X.kw ct E (sSet i (eFrz (eCp (.lst []) (own.map (·.2)) it0 g0 t0 (uIn vs1 it1 g1 t1 (uApp fe)))))) := by
  refine ⟨fun pins s σ H D I h => ?_⟩
  rw [exec_Assign_Name_used _ _ _ _ hsw]
  refine wpAny_bind (wpAny_standAt (wpAny_bind ?_))
  show wpAny _ X.A (do let _ ← comprehension (.ListComp elt [⟨tg0, iter0, ifs0, 0⟩, ⟨tg1, iter1, ifs1, 0⟩] scope pos) scope X.env (firstIterPos [⟨tg0, iter0, ifs0, 0⟩, ⟨tg1, iter1, ifs1, 0⟩] pos) (newList []) false (eval iter0 X.env) (some (assign (.Name y py) X.env))) _ _ s
  have h1 : tE X.kw ct E (eCp (.lst []) (own.map (·.2)) it0 g0 t0 (uIn vs1 it1 g1 t1 (uApp fe))) σ H (fun x H1 => gName i x σ H1 D.nx) := by
    refine frz_read ?_
    obtain ⟨ρ, st, env, a, h⟩ := h
    refine ⟨ρ, st, env, a, (okS.first (rel := Rw) h a.2).mono fun v H1 ⟨ρ1, st1, w, a1, g1, r1, q1⟩ => ?_⟩
    exact q1 ρ1 H1 _ (.refl _ _) ⟨a1.1, a1.2.set r1 i⟩
  refine wpAny_bind (thn (cp_core (Qf := fun _ s' => SP X pins D .next s') (ho := fun _ => .lst []) (ob := { cls := .type "list", data := .seq ([] : List Value).toArray }) hc hN loop_l20 rfl (fun s Q E q => wpAny_newObj_type q (by show 0 ≤ sizeLine; decide)) (fun H h _ => okL_new H h) I hi ok hg0 ht0
    (fun s H C cl fp => ⟨fun D pins s' σ' H' Q' I' h' => (ps_inN (X := (X.blk s H scope (compEnvC scope cl C X.env) fp)) hc rfl loop_l21 (hi1 s H C cl fp) (hg1 s H C cl fp) (ht1 s H C cl fp) (ps_app (X := (X.blk s H scope (compEnvC scope cl C X.env) fp)) rfl (he s H C cl fp)) hv1 (hs1 _)).run D pins s' σ' H' Q' I' (in_read h')⟩)
    hs (cp_read (new := .lst []) (fun ρ H D hD => ⟨[], upd_same, .nil⟩) (fun n => trivial) h1) fun L C s' m H' I' q hn f => ?_) fun _ s' hq => wpAny_pure (wpAny_pure hq))
  show wpAny _ _ (assign (.Name y py) X.env (.ref L)) _ _ _
  refine wpAny_assign_Name (store_ok2 (v := V.ref L) I' hN hy (.inl hyl) rfl (fun s2 I2 ⟨a, sb, ha⟩ => ?_) (.inr hyl))
  obtain ⟨f0, f1, f2, f3, f4, f5⟩ := f
  have haC : C ≠ a := by
    rcases ha with z | z
    · rw [z]; exact f1
    · exact fun e => f4 y a z e.symm
  refine ⟨m, hn.sameBut sb haC, fun h3 sb3 => ?_⟩
  exact ⟨_, H', I2.turned (t' := s2.toks) (fun b o hb e => (sb3.2 b hb).trans e) f0 f1 f3 f4 f5, q⟩
end
/-! ### tuples by <= -/
def leT : O2 := onV fun a b => if alike a.py b.py && isRow a.py && (decide (a.py.depth ≤ 60) && a.py.canLay0 && b.py.canLay0) then some (.bl (!dataLt b.py a.py)) else none
theorem op_leTT {X : Cx} (hu : X.A.units + 65 < cLine) : OpR X (compareOp .LtE) (rOf X.kw leT) := by
  refine OpR.v ?_
  intro pins s σ H x y v u Q I rx ry h
  obtain ⟨ρ, st, d1, d2, d, rs, r1, r2, e, q⟩ := h
  simp only at e
  split at e
  · rename_i c
    simp only [Bool.and_eq_true, decide_eq_true_eq] at c
    cases e
    obtain ⟨as, ra⟩ := Dp.reads I _ _ _ (r1.dp c.2.1.2) rx
    obtain ⟨bs, rb⟩ := Dp.reads I _ _ _ (r2.dp c.2.2) ry
    refine le_data ra rb c.1.1 (fun z => ?_) ?_ ⟨.bl _, H, I, rfl, q H _ (.refl _) (.bl _)⟩
    · have := c.1.2
      rw [z] at this
      cases this
    · have := c.2.1.1
      have := Nat.min_le_left d1.py.depth d2.py.depth
      omega
  · cases e
end Jv
end
section
/-! dicts whose keys are ints, texts, None -/
namespace Jv
open PySem PySem.Spec L2 PyProof.Rows PySem.W
theorem leaf_pairs {p p' : Program} {w : World} {es : List DictEntry} {kvs : List (Leaf × Value)} (h : Pairs (leafKind p w) es kvs) : Pairs (leafKind p' w) es kvs := by
  induction h with
  | nil => exact .nil
  | cons a b _ ih => exact .cons a b ih
theorem leaf_conv {p p' : Program} {w : World} {h : Heap} {a : Addr} {kvs : List (Leaf × Value)} (x : h.DictOf (leafKind p w) a kvs) : h.DictOf (leafKind p' w) a kvs := by
  obtain ⟨o, es, ep, h1, h2, h3, h4, h5, h6⟩ := x
  exact ⟨o, es, ep, h1, h2, h3, h4, leaf_pairs h5, h6⟩
def asLd (st : Sto) : W → Option (List (D × D))
  | .v (.ld kvs) => some kvs
  | .r l => match st[l]? with
    | some (.ld kvs) => some kvs
    | _ => none
  | _ => none
theorem ldR_of {K : KW} {ρ : Rho} {H : Hp} : ∀ {xs : List (Leaf × Value)} {vs : List V} {kvs : List (D × D)}, LdOk xs vs kvs → RlAll K ρ H vs (kvs.map (·.2)) → LdR K ρ H xs kvs
  | [], _, [], _, _ => .nil
  | [], _, _ :: _, ⟨e, _⟩, _ => by simp at e
  | _ :: _, _, [], ⟨e, _⟩, _ => by simp at e
  | (l, u) :: xs, vs, (k, d) :: kvs, ⟨e, q⟩, r => by
    simp only [List.map_cons, List.cons.injEq] at e
    cases q with
    | cons q qs =>
      cases r with
      | cons r rs => exact .cons e.1 q r (ldR_of ⟨e.2, qs⟩ rs)
theorem ld_of {X : Cx} {pins : List (Addr × Obj)} {σ : St} {H : Hp} {s : Shared} {ρ : Rho} {st : Sto} {v : V} {w : W} {kvs : List (D × D)} (I : Inv X pins σ H s) (rs : RelSt X.kw ρ H st) (r : Rw X.kw ρ H v w) (e : asLd st w = some kvs) :
    ∃ a xs, v = .ref a ∧ LdR X.kw ρ H xs kvs ∧ s.heap.DictOf (leafKind X.prog X.w) a xs ∧ (a == sysModules) = false := by
  cases r with
  | v r =>
    cases r with
    | @ld a o xs vs _ h n m y r =>
      cases e
      obtain ⟨⟨p, hd⟩, m2⟩ := m
      exact ⟨a, xs, rfl, ldR_of m2 r, leaf_conv (Heap.dictOf_iff.mpr ⟨o, (I.hok a _ h).1, hd⟩), y⟩
    | _ => cases e
  | @r l _ hl hv =>
    simp only [asLd] at e
    split at e
    · rename_i kvs' he
      cases e
      rcases rs.obj l _ he with ⟨z, _⟩ | ⟨a, ha, xs, h1, h2, h3⟩
      · cases z
      obtain ⟨⟨p, hd⟩, _⟩ := I.hok a _ h1
      exact ⟨a, xs, hv a ha, h2, leaf_conv hd, h3⟩
    · cases e
/-! {} -/
def eLNew : ED := fun env st => .ok (.r st.length) (st ++ [.ld []])
theorem okL0_new {P : Program} {w : World} (H : Hp) (h : Heap) : ObjOk P w (upd H h.objs.size (.ext (LdAt w h.objs.size []))) (h.push { cls := .type "dict", data := .dict #[] }) h.objs.size (.ext (LdAt w h.objs.size [])) := by
  refine ⟨⟨P, Heap.DictOf.new h⟩, ⟨_, Heap.get?_push_size _ rfl⟩, ?_⟩
  rintro h1 h2 ⟨p, hd⟩ st
  exact ⟨p, hd.at' fun o e => st o e⟩
theorem okL_of {P : Program} {w : World} {H : Hp} {h : Heap} {a : Addr} {xs : List (Leaf × Value)} (hd : h.DictOf (leafKind P w) a xs) : ObjOk P w H h a (.ext (LdAt w a xs)) := by
  obtain ⟨o, es, ep, e, r⟩ := id hd
  refine ⟨⟨P, hd⟩, ⟨o, e⟩, ?_⟩
  rintro h1 h2 ⟨p, hd⟩ st
  exact ⟨p, hd.at' fun o e => st o e⟩
section
variable {X : Cx} {ct : Nat → Value} {E : St → XK}
theorem de_lnew {pos : Pos} : PE X (.Dict [] [] pos) (tE X.kw ct E eLNew) := ⟨fun pins s σ H Q I ⟨ρ, st, env, a, h⟩ => by
  have hp : H s.heap.objs.size = none := I.hok.fresh (Nat.le_refl _)
  refine wpAny_Dict_empty ⟨.ref s.heap.objs.size, _, I.laid (t' := s.toks) (fun _ _ q => Heap.get?_push_of_some _ q) (Nat.le_refl _) (okL0_new H s.heap), rfl, ?_⟩
  have hb : (s.heap.objs.size == sysModules) = false := beq_eq_false_iff_ne.mpr (Ne.symm (Nat.ne_of_lt I.big))
  refine h (ρ.push s.heap.objs.size) _ _ (.push hp) (pushK a.1 hp ⟨[], upd_same, .nil, hb⟩ trivial) (.r (by rw [← a.1.len]; simp [Rho.push]) fun x hx => ?_)
  rw [← a.1.len] at hx
  simp [Rho.push] at hx
  rw [hx]⟩
/-! k in d, d[k] -/
def inL : O2 := fun st a b => match a with
  | .v k => (asLd st b).bind fun kvs => (k.lf).map fun l => .bl (hasL kvs l)
  | _ => none
def notInL : O2 := fun st a b => match a with
  | .v k => (asLd st b).bind fun kvs => (k.lf).map fun l => .bl (!hasL kvs l)
  | _ => none
def lookL (kvs : List (D × D)) (l : Leaf) : Option D := (kvs.find? fun p => decide (p.1.lf = some l)).map (·.2)
def ixL : O2 := fun st a b => match b with
  | .v k => (asLd st a).bind fun kvs => (k.lf).bind fun l => lookL kvs l
  | _ => none
theorem hasL_value {K : KW} {ρ : Rho} {H : Hp} {xs : List (Leaf × Value)} {ds : List (D × D)} (l : Leaf) (h : LdR K ρ H xs ds) : (valueAt xs l).isSome = hasL ds l := by
  induction h with
  | nil => rfl
  | @cons l0 u v k d xs ds e r q t ih =>
    simp only [hasL, List.any_cons] at ih ⊢
    by_cases z : l0 = l
    · simp [valueAt, z, e]
    · rw [← ih]
      simp [valueAt, z, e]
theorem lookL_value {K : KW} {ρ : Rho} {H : Hp} {xs : List (Leaf × Value)} {ds : List (D × D)} {l : Leaf} {d : D} (h : LdR K ρ H xs ds) (e : lookL ds l = some d) : ∃ u v, valueAt xs l = some u ∧ RelV v u ∧ Rl K ρ H v d := by
  induction h with
  | nil => cases e
  | @cons l0 u v k0 d0 xs ds ek q1 q2 t ih =>
    simp only [lookL, List.find?_cons] at e
    by_cases z : l0 = l
    · rw [ek, z] at e
      simp only [decide_true, Option.map_some, Option.some.injEq] at e
      subst e
      exact ⟨u, v, by simp [valueAt, z], q1, q2⟩
    · have : decide (k0.lf = some l) = false := by rw [ek]; exact decide_eq_false fun y => z (Option.some.inj y)
      rw [this] at e
      obtain ⟨u', v', h1, h2, h3⟩ := ih e
      exact ⟨u', v', by simpa [valueAt, z] using h1, h2, h3⟩
theorem op_inL : OpR X (compareOp .In) (rOf X.kw inL) := by
  intro pins s σ H x y v u Q I rx ry h
  obtain ⟨ρ, st, d1, d2, d, rs, r1, r2, e, q⟩ := h
  unfold inL at e
  split at e
  rotate_left
  · cases e
  rename_i k
  cases ek : asLd st d2 with
  | none => rw [ek] at e; cases e
  | some kvs =>
  rw [ek] at e
  simp only [Option.bind_some] at e
  cases el : k.lf with
  | none => rw [el] at e; cases e
  | some l =>
  rw [el] at e
  cases e
  obtain ⟨a, xs, rfl, h2, h3, h4⟩ := ld_of I rs r2 ek
  cases ry
  cases r1 with | v r1 =>
  refine wpAny_in_of (knd := leafKind X.prog X.w) (leaf_is r1 rx el) h4 h3.mapOf ?_
  rw [hasL_value l h2]
  exact ⟨.bl _, H, I.tok _, rfl, q H _ (.refl _) (.bl _)⟩
theorem op_notInL : OpR X (compareOp .NotIn) (rOf X.kw notInL) := by
  intro pins s σ H x y v u Q I rx ry h
  obtain ⟨ρ, st, d1, d2, d, rs, r1, r2, e, q⟩ := h
  unfold notInL at e
  split at e
  rotate_left
  · cases e
  rename_i k
  cases ek : asLd st d2 with
  | none => rw [ek] at e; cases e
  | some kvs =>
  rw [ek] at e
  simp only [Option.bind_some] at e
  cases el : k.lf with
  | none => rw [el] at e; cases e
  | some l =>
  rw [el] at e
  cases e
  obtain ⟨a, xs, rfl, h2, h3, h4⟩ := ld_of I rs r2 ek
  cases ry
  cases r1 with | v r1 =>
  refine wpAny_notIn_of (knd := leafKind X.prog X.w) (leaf_is r1 rx el) h4 h3.mapOf ?_
  rw [hasL_value l h2]
  exact ⟨.bl _, H, I.tok _, rfl, q H _ (.refl _) (.bl _)⟩
theorem ix_L : IxR X (rOf X.kw ixL) := by
  intro value slice pins s σ H x y v u Q I rx ry h hs
  obtain ⟨ρ, st, d1, d2, d, rs, r1, r2, e, q⟩ := h
  unfold ixL at e
  split at e
  rotate_left
  · cases e
  rename_i k
  cases ek : asLd st d1 with
  | none => rw [ek] at e; cases e
  | some kvs =>
  rw [ek] at e
  simp only [Option.bind_some] at e
  cases el : k.lf with
  | none => rw [el] at e; cases e
  | some l =>
  rw [el] at e
  simp only [Option.bind_some] at e
  obtain ⟨a, xs, rfl, h2, h3, h4⟩ := ld_of I rs r1 ek
  cases rx
  cases r2 with | v r2 =>
  obtain ⟨u', v', e1, e2, e3⟩ := lookL_value h2 e
  exact subscriptTail_builtinR (x := u') h3.typeIs F.slot_dict_getitem.lookup
    (wpAny_getItem_of (knd := leafKind X.prog X.w) (Q := fun r s' => r = u' ∧ EP X pins σ Q r s') (leaf_is r2 ry el) h3.mapOf e1 ⟨rfl, v', H, I.tok _, e2, q H _ (.refl _) e3⟩) hs
abbrev in4 : O2 := orO in3 inL
abbrev notIn4 : O2 := orO notIn3 notInL
abbrev ix4 : O2 := orO ix2 ixL
theorem op_in4 (hu : X.A.units + 65 < cLine) : OpR X (compareOp .In) (rOf X.kw in4) := OpR.or (op_in3 hu) op_inL
theorem op_notIn4 (hu : X.A.units + 65 < cLine) : OpR X (compareOp .NotIn) (rOf X.kw notIn4) := OpR.or (op_notIn3 hu) op_notInL
theorem de_ix4 {a b : Expr} {fa fb : ED} {pos : Pos} (hu : X.A.units + 65 < cLine) (ha : PE X a (tE X.kw ct E fa)) (hb : PE X b (tE X.kw ct E fb)) (hs : PlainIx b := by exact fun _ _ => rfl) : PE X (.Subscript a b pos) (tE X.kw ct E (eBin ix4 fa fb)) :=
  PE.of (pe_ix (IxR.or (IxR.or ix_D (ix_K hu)) ix_L) ha hb hs) fun σ H Q h => two_read h
end
end Jv
end
section
/-! dicts whose keys are ints, texts, None: stored, frozen, walked, displayed -/
namespace Jv
open PySem PySem.Spec L2 PyProof.Rows PySem.W
/-! d[k] = v -/
def ldPut (o k v : W) (env : Env) (st : Sto) : Fl := match o, k, v with
  | .r l, .v k, .v d => match st[l]?, k.lf with
    | some (.ld kvs), some lf => if kvs.length ≤ 1000 then .nx env (st.set l (.ld (storeL kvs k d lf))) else .bad
    | _, _ => .bad
  | _, _, _ => .bad
def sLdPut (fo fi fv : ED) : SD := fun env st => (fv env st).thenS env fun v st => (fo env st).thenS env fun o st => (fi env st).thenS env fun k st => ldPut o k v env st
theorem LdR.length {K : KW} {ρ : Rho} {H : Hp} {xs : List (Leaf × Value)} {ds : List (D × D)} (h : LdR K ρ H xs ds) : xs.length = ds.length := by
  induction h with
  | nil => rfl
  | cons _ _ _ _ ih => simp [ih]
section
variable {X : Cx} {ct : Nat → Value} {E : St → XK} {o e i v : Expr} {fi fv fo : ED} {pos pos' : Pos}
theorem ds_ldput (ho : PE X o (tE X.kw ct E fo)) (hi : PE X i (tE X.kw ct E fi)) (hv : PE X v (tE X.kw ct E fv)) (hs : swapsWith v (some (.Subscript o i pos')) pos.line X.env = pure false := by rfl) :
    PS X (.Assign [.Subscript o i pos'] v pos) (tS X.kw ct E (sLdPut fo fi fv)) := by
  constructor
  rintro pins s σ H D I ⟨ρ, st, env, a, h⟩
  refine wpAny_Assign_Subscript (thn (hv.run pins s σ H _ I ⟨ρ, st, env, a, okS.first (rel := Rw) h a.2⟩) ?_) hs
  rintro u1 s1 ⟨v1, H1, I1, ru1, ρ1, st1, w1, a1, g1, r1, q1⟩
  refine thn (ho.run pins s1 σ H1 _ I1 ⟨ρ1, st1, env, a1, okS.first (rel := Rw) q1 a1.2⟩) ?_
  rintro u2 s2 ⟨v2, H2, I2, ru2, ρ2, st2, w2, a2, g2, r2, q2⟩
  refine thn (hi.run pins s2 σ H2 _ I2 ⟨ρ2, st2, env, a2, okS.first (rel := Rw) q2 a2.2⟩) ?_
  rintro u3 s3 ⟨v3, H3, I3, ru3, ρ3, st3, w3, a3, g3, r3, q3⟩
  unfold ldPut at q3
  split at q3
  · rename_i l k d
    split at q3
    · rename_i kvs lf hl ek
      split at q3
      · rename_i c
        rcases a3.1.obj l _ hl with ⟨z, _⟩ | ⟨p, hp, xs, h1, h2, h4⟩
        · cases z
        obtain ⟨⟨pg, hd⟩, _⟩ := I3.hok p _ h1
        cases r2 with | r hl2 hv2 =>
        have := hv2 p (g3.ref l p hl2 hp)
        subst this
        cases ru2
        cases r1 with | v r1 =>
        cases r3 with | v r3 =>
        have rd := (r1.grow g2).grow g3
        have hxl : xs.length ≤ sizeLine := by
          rw [h2.length]
          exact Nat.le_trans c (by decide)
        refine wpAny_setItem_pairs (knd := leafKind X.prog X.w) (hsz := hxl) (leaf_is r3 ru3 ek) (leaf_conv hd) fun h' hm sb => ?_
        have gw : Grow ρ3 H3 ρ3 (upd H3 p (.ext (LdAt X.w p (stored xs lf u1)))) := .write hp
        obtain ⟨o', _, _, e1, _⟩ := id hm
        refine ⟨σ, _, I3.write (e := p) (t' := s3.toks + 1) (by rw [h1]; trivial) (.inl rfl) (fun b o hb q => (sb.2 b hb).trans q) ⟨_, e1⟩ (okL_of hm), ?_⟩
        exact q3 ρ3 _ σ gw ⟨a3.1.write hp ⟨_, upd_same, (h2.put ek ru1 rd).mono (fun _ _ z => z.grow gw), h4⟩ trivial, a3.2.grow gw⟩
      · exact q3.elim
    · exact q3.elim
  · exact q3.elim
end
/-! ### frozen -/
def frzL (w : W) (st : Sto) : R W := match w with
  | .r l => match st[l]? with
    | some (.ld kvs) => .ok (.v (.ld kvs)) (st.set l .dead)
    | _ => .bad
  | w => .ok w st
def eFrzL (f : ED) : ED := fun env st => (f env st).bind frzL
/-- the step itself -/
theorem frzL_step {X : Cx} {pins : List (Addr × Obj)} {σ : St} {H : Hp} {s : Shared} {ρ : Rho} {st : Sto} {env : Env} {l : Nat} {kvs : List (D × D)} (I : Inv X pins σ H s) (a : At X.kw ρ H st σ env) (hl : st[l]? = some (.ld kvs)) :
    ∃ (p : Addr) (H' : Hp), ρ.lc[l]? = some (some p) ∧ Inv X pins σ H' s ∧ Grow ρ H (ρ.drop l) H' ∧ RelSt X.kw (ρ.drop l) H' (st.set l .dead) ∧ Rl X.kw (ρ.drop l) H' (.ref p) (.ld kvs) := by
  rcases a.1.obj l _ hl with ⟨z, _⟩ | ⟨p, hp, xs, h1, h2, h5⟩
  · cases z
  obtain ⟨⟨pg, hd⟩, _⟩ := I.hok p _ h1
  obtain ⟨o, e1, hi⟩ := Heap.dictOf_iff.mp hd
  have gr : Grow ρ H (ρ.drop l) (upd H p (.ext (KoAt p o))) := (Grow.write hp).trans .drop
  obtain ⟨vs, k1, k2⟩ := h2.rows
  refine ⟨p, upd H p (.ext (KoAt p o)), hp, I.write (e := p) (t' := s.toks) (h' := s.heap) (by rw [h1]; trivial) (.inl rfl) (fun b o _ z => z) ⟨_, e1⟩ ⟨e1, ⟨_, e1⟩, fun h1 h2 p k => k _ p⟩, gr, a.1.alter hp, ?_⟩
  exact .ld upd_same (a.1.dropped hp) ⟨⟨pg, hi⟩, k1⟩ h5 (k2.grow gr)
section
variable {X : Cx} {ct : Nat → Value} {E : St → XK} {e : Expr} {f : ED}
theorem de_frzL (h : PE X e (tE X.kw ct E f)) : PE X e (tE X.kw ct E (eFrzL f)) := ⟨fun pins s σ H Q I q => by
  refine thn (h.run pins s σ H _ I (tG.bind (rel := Rw) (k := fun w _ st => frzL w st) q)) ?_
  rintro u s1 ⟨v, H1, I1, ru, ρ1, st1, env, w, a1, r1, q1⟩
  cases w with
  | v d => exact ⟨v, H1, I1, ru, q1.here a1.1 r1⟩
  | r l =>
    simp only [frzL] at q1
    split at q1
    · rename_i kvs el
      obtain ⟨p, H', hp, I2, gr, rs, rl⟩ := frzL_step I1 a1 el
      cases r1 with | r hl hv =>
      cases hv p hp
      exact ⟨.ref p, H', I2, ru, q1 (ρ1.drop l) H' _ gr rs (.v rl)⟩
    · exact q1.elim⟩
/-- a name's dict, no longer one that changes, from here on -/
def sFrzL (i : Nat) (den : SD) : SD := fun env st => match env[i]? with
  | some (some (.r l)) => match st[l]? with
    | some (.ld kvs) => den (env.set i (some (.v (.ld kvs)))) (st.set l .dead)
    | _ => .bad
  | _ => den env st
theorem ds_frzL {s0 : Stmt} {den : SD} (i : Nat) (h : PS X s0 (tS X.kw ct E den)) : PS X s0 (tS X.kw ct E (sFrzL i den)) := ⟨fun pins s σ H D I ⟨ρ, st, env, a, q⟩ => by
  unfold sFrzL at q
  split at q
  · rename_i l hi
    split at q
    · rename_i kvs hl
      obtain ⟨p, H', hp, I2, gr, rs, rl⟩ := frzL_step I a hl
      have e1 := a.2.grow gr
      refine h.run pins s σ H' D I2 ⟨ρ.drop l, st.set l .dead, env.set i (some (.v (.ld kvs))), ⟨rs, ⟨by simp [e1.len], fun j w ej => ?_⟩⟩, okS.grow gr q⟩
      obtain ⟨v0, hv0, rv0⟩ := a.2.get i _ hi
      by_cases hij : i = j
      · subst hij
        have hil : i < env.length := (List.getElem?_eq_some_iff.mp hi).1
        rw [List.getElem?_set_self hil] at ej
        cases ej
        cases rv0 with | r _ hv =>
        rw [hv p hp] at hv0
        exact ⟨_, hv0, .v rl⟩
      · rw [List.getElem?_set_ne hij] at ej
        exact e1.get j w ej
    · exact q.elim
  · exact h.run pins s σ H D I ⟨ρ, st, env, a, q⟩⟩
end
/-! ### for k in d, d frozen, its keys texts and None -/
def D.kv : D → Option V
  | .non => some .non
  | .str x => some (.str x)
  | _ => none
def kvsOf : List D → Option (List V)
  | [] => some []
  | d :: r => (d.kv).bind fun v => (kvsOf r).map (v :: ·)
def Itd (a : Addr) (o : Obj) (ks : List V) : It where
  go := fun i H => H a = some (.ext (KoAt a o)) ∧ i < ks.length
  yld := fun i H v H' => H' = H ∧ ks[i]? = some v
  stop := fun i H => H a = some (.ext (KoAt a o)) ∧ ks.length ≤ i
theorem turn_d {P : Program} {w : World} {K : PySem.W.Frag} {tg : Expr} {a it : Addr} {o : Obj} {ks : List V} {es : Array DictEntry} {ep : Nat} (hd : o.data = .dict es ep) (hsz : es.size = ks.length) (hk : ∀ (i : Nat) (en : DictEntry) (v : V), es[i]? = some en → ks[i]? = some v → RelV v en.key) :
    Turn P w K tg (Itd a o ks) [it] it (fun i h => h.IsKeyIter it a i ks.length ep) where
  mem := by simp
  obj := fun i h st b hb => by
    have e : b = it := by simpa using hb
    subst e
    obtain ⟨oi, e, c, dd⟩ := st
    exact ⟨oi, e, fun v z => by rw [dd] at z; cases z⟩
  keep := fun i h h' st k => st.at fun oi e => k it (by simp) oi e
  item := by
    intro X hP hw hK hc i pins s σ H E I hf st hg
    obtain ⟨ha, hi⟩ := hg
    obtain ⟨f0, f1, f2, f3, f4, f5⟩ := hf it (by simp)
    have ho : s.heap.get? a = some o := (I.hok a _ ha).1
    obtain ⟨en, hen⟩ : ∃ en, es[i]? = some en := ⟨es[i]'(by omega), Array.getElem?_eq_getElem _⟩
    obtain ⟨k, hki⟩ : ∃ k, ks[i]? = some k := ⟨ks[i], List.getElem?_eq_getElem hi⟩
    have hkey := hk i en k hen hki
    subst hP hw hK
    refine next_key_item st ho hd hsz hen fun h' st' sb => ?_
    have I1 : Inv X pins σ H { s with heap := h' } := I.turned (t' := s.toks) (fun b ob hb e => (sb.2 b hb).trans e) f0 f1 f3 f4 f5
    obtain ⟨oi, e, c, dd⟩ := id st'
    exact ⟨en.key, rfl, go_of (s := { s with heap := h' }) e c dd (by decide) ⟨k, H, I1, hkey, ⟨rfl, hki⟩, st', fun b hb => (hf b hb).1⟩⟩
  done := by
    intro X hP hw hK hc i pins s σ H E I hf st hg
    obtain ⟨ha, hi⟩ := hg
    obtain ⟨f0, f1, f2, f3, f4, f5⟩ := hf it (by simp)
    have ho : s.heap.get? a = some o := (I.hok a _ ha).1
    subst hP hw hK
    exact next_key_end (I.ok.hd hc) st ho hd hsz hi fun h' eb => ⟨rfl, I.turned (t' := s.toks) (fun b ob hb e => eb b ob hb e) f0 f1 f3 f4 f5⟩
  self := fun A i s Q E st h => by
    refine wpAny_pyIter_slot st.typeIs F.slot_dict_keyiterator_iter (wpAny_call_entry F.slot_dict_keyiterator_iter st.typeIs F.entry_dict_keyiterator_iter ?_ (F.args_dict_keyiterator_iter_1 _))
    show wpAny _ _ (ret (.ref it)) _ _ s
    exact wpAny_pure ⟨_, rfl, "dict_keyiterator", _, st.typeIs, F.slot_dict_keyiterator_next.lookup, h⟩
/-- a key that is a text or None: its value -/
theorem key_rel {l : Leaf} {k : D} {v : V} {u : Value} (e : k.lf = some l) (ev : k.kv = some v) (h : Leaf.isOf l u = true) : RelV v u := by
  cases k with
  | non =>
    cases e; cases ev
    cases u <;> first | rfl | exact absurd h Bool.false_ne_true
  | str x =>
    cases e; cases ev
    obtain ⟨t, rfl⟩ := Value.isStrOf_shape (show Value.isStrOf x u = true from h)
    exact ⟨t, rfl⟩
  | _ => cases ev
theorem keys_rel {p : Program} {w : World} : ∀ {es : List DictEntry} {xs : List (Leaf × Value)} {ds : List D} {ks : List V}, Pairs (leafKind p w) es xs → ds.map D.lf = xs.map (fun x => some x.1) → kvsOf ds = some ks → es.length = ks.length ∧ ∀ (i : Nat) (en : DictEntry) (v : V), es[i]? = some en → ks[i]? = some v → RelV v en.key
  | _, _, [], ks, .nil, _, e => by simp [kvsOf] at e; subst e; exact ⟨rfl, fun i en v z => by simp at z⟩
  | _, _, _ :: _, _, .nil, e, _ => by simp at e
  | _, _, [], _, .cons _ _ _, e, _ => by simp at e
  | e0 :: es, x :: xs, d :: ds, ks, .cons h1 h2 t, e, ek => by
    simp only [List.map_cons, List.cons.injEq] at e
    simp only [kvsOf] at ek
    cases ev : d.kv with
    | none => rw [ev] at ek; cases ek
    | some v =>
    rw [ev] at ek
    simp only [Option.bind_some] at ek
    cases ev2 : kvsOf ds with
    | none => rw [ev2] at ek; cases ek
    | some vs =>
    rw [ev2] at ek
    cases ek
    obtain ⟨k1, k2⟩ := keys_rel t e.2 ev2
    refine ⟨by simp [k1], fun i en u hen hu => ?_⟩
    cases i with
    | zero => simp at hen hu; subst hen hu; exact key_rel e.1 ev h1
    | succ i => exact k2 i en u (by simpa using hen) (by simpa using hu)
def iLd (w : World) (te : TE) : TI := fun σ H R => te σ H fun x H1 => ∃ (a : Addr) (o : Obj) (xs : List (Leaf × Value)) (ds : List D) (ks : List V), x = .ref a ∧ H1 a = some (.ext (KoAt a o)) ∧ LdO w o xs ∧ ds.map D.lf = xs.map (fun x => some x.1) ∧ kvsOf ds = some ks ∧ (a == sysModules) = false ∧ R (Itd a o ks) H1
theorem pi_ld {X : Cx} {tg e : Expr} {te : TE} (he : PE X e te) : PI X tg e (iLd X.w te) := ⟨fun pins s σ H R I h => by
  refine thn (he.run pins s σ H _ I h) ?_
  rintro u s1 ⟨x, H1, I1, ru, a, o, xs, ds, ks, rfl, ha, ⟨pg, es, ep, k1, k2, k3, k4, k5⟩, e1, e2, hs, q⟩
  cases ru
  have ho : s1.heap.get? a = some o := (I1.hok a _ ha).1
  obtain ⟨hl, hr⟩ := keys_rel k4 e1 e2
  have hn : es.size = ks.length := by simpa using hl
  exact iter_keys hs ho k1 k2 (pi_one (tk := s1.toks) I1 _ (turn_d k2 hn fun i en v h1 h2 => hr i en v (by simpa using h1) h2) ⟨_, Heap.get?_push_size _ rfl, rfl, by rw [hn]; rfl⟩ q)⟩
def itemsL (w : W) (st : Sto) : R (List D) := match w with
  | .v (.ld kvs) => if (kvsOf (kvs.map (·.1))).isSome then .ok (kvs.map (·.1)) st else .bad
  | w => itemsK w st
def itL (f : ED) : LD := fun env st => (f env st).bind itemsL
theorem kvs_rl {K : KW} {ρ : Rho} {H : Hp} : ∀ {ds : List D} {ks : List V}, kvsOf ds = some ks → RlAll K ρ H ks ds
  | [], ks, e => by simp [kvsOf] at e; subst e; exact .nil
  | d :: ds, ks, e => by
    simp only [kvsOf] at e
    cases ev : d.kv with
    | none => rw [ev] at e; cases e
    | some v =>
    rw [ev] at e
    simp only [Option.bind_some] at e
    cases ev2 : kvsOf ds with
    | none => rw [ev2] at e; cases e
    | some vs =>
    rw [ev2] at e
    cases e
    refine .cons ?_ (kvs_rl ev2)
    cases d <;> first | (cases ev; first | exact .non | exact .str _) | cases ev
theorem itOk_ld {K : KW} {ρ : Rho} {H : Hp} {a : Addr} {o : Obj} {ks : List V} {ds : List D} (h : H a = some (.ext (KoAt a o))) (n : ¬ ρ.mut a) (e : kvsOf ds = some ks) : ItOk K (Itd a o ks) ρ H ds := by
  intro ρ' H' st g s
  obtain ⟨h', n'⟩ := g _ _ h n
  have r' : RlAll K ρ' H' ks ds := kvs_rl e
  have hl : ks.length = ds.length := r'.length
  refine ⟨fun i d e => ?_, h', Nat.le_of_eq hl⟩
  have hi : i < ds.length := (List.getElem?_eq_some_iff.mp e).1
  refine ⟨⟨h', by omega⟩, ?_⟩
  rintro x H2 ⟨rfl, hk⟩
  refine ⟨.refl _, ?_⟩
  obtain ⟨v, e1, rv⟩ := r'.getD e
  rw [hk] at e1
  cases e1
  exact rv
theorem di_l {X : Cx} {ct : Nat → Value} {E : St → XK} {tg e : Expr} {f : ED} (h : PE X e (tE X.kw ct E f)) : PI X tg e (iR X.kw ct E (itL f)) := PI.of (PI.or (pi_ld h) (di_k h)) fun σ H R' ⟨ρ, st, env, a, q⟩ => by
  cases ef : f env st with
  | exc x y => exact .inr ⟨ρ, st, env, a, by simp only [itL, itK, ef] at q ⊢; exact q⟩
  | bad => exact .inr ⟨ρ, st, env, a, by simp only [itL, itK, ef] at q ⊢; exact q⟩
  | ok w st1 =>
    by_cases hk : ∃ kvs, w = .v (.ld kvs)
    · obtain ⟨kvs, rfl⟩ := hk
      refine .inl ⟨ρ, st, env, a, ?_⟩
      rw [ef]
      intro ρ1 H1 b g1 s1 r1
      cases r1 with | v r1 =>
      cases r1 with
      | @ld p o xs vs _ hh n m y r =>
        simp only [itL, ef, R.bind_ok, itemsL] at q
        split at q
        · rename_i c
          obtain ⟨ks, ek⟩ := Option.isSome_iff_exists.mp c
          refine ⟨p, o, xs, kvs.map (·.1), ks, rfl, hh, m.1, ?_, ek, y, ?_⟩
          · have := m.2.keys
            rw [List.map_map]
            exact this
          · exact q ρ1 H1 _ g1 s1 (itOk_ld hh n ek)
        · exact q.elim
    · refine .inr ⟨ρ, st, env, a, ?_⟩
      have e : itemsL w st1 = itemsK w st1 := by
        unfold itemsL
        split
        · rename_i kvs
          exact absurd ⟨kvs, rfl⟩ hk
        · rfl
      simp only [itL, itK, ef, R.bind_ok] at q ⊢
      rw [e] at q
      exact q
end Jv
end
section
/-! dicts whose keys are ints, texts, None: comprehensions, displays -/
namespace Jv
open PySem PySem.Spec L2 PyProof.Rows PySem.W
/-! {k: v for ..} -/
def ldPutR (l : Nat) (k v : W) (st : Sto) : R Unit := match k, v with
  | .v k, .v d => match st[l]?, k.lf with
    | some (.ld kvs), some lf => if kvs.length ≤ 1000 then .ok () (st.set l (.ld (storeL kvs k d lf))) else .bad
    | _, _ => .bad
  | _, _ => .bad
def uLdPut (fk fv : ED) : Nat → UD := fun l env st => (noX (fk env st)).bind fun k st => (noX (fv env st)).bind fun v st => ldPutR l k v st
section
variable {X : Cx} {ct : Nat → Value} {E : St → XK} {kx vx : Expr} {fk fv : ED} {vs : List Nat}
theorem ps_ldput (hx : X.xe = fun _ _ => False) (hk : PE X kx (tE X.kw ct (fun _ => E0) fk)) (hv : PE X vx (tE X.kw ct (fun _ => E0) fv)) : PStp X vs (stpDict kx vx) (tStp X.kw ct (uLdPut fk fv)) := ⟨fun D pins s σ H Q I ⟨ρ, st, env, l, a, rl, h⟩ => by
  unfold stpDict
  refine wpAny_bind (thnF (xF hx (hk.run pins s σ H _ I (okE a h))) ?_)
  rintro u1 s1 ⟨v1, H1, I1, ru1, ρ1, st1, w1, a1, g1, r1, q1⟩
  refine wpAny_bind (wpAny_holding (thnF (xF hx (hv.run pins s1 σ H1 _ I1 (okE a1 q1))) ?_))
  rintro u2 s2 ⟨v2, H2, I2, ru2, ρ2, st2, w2, a2, g2, r2, q2⟩
  refine wpAny_bind (wpAny_standAt (wpAny_holding ?_))
  have rl2 := (rl.grow g1).grow g2
  have r1 := r1.grow g2
  unfold ldPutR at q2
  split at q2
  rotate_left
  · exact q2.elim
  rename_i k d
  split at q2
  rotate_left
  · exact q2.elim
  rename_i kvs lf hl ek
  split at q2
  rotate_left
  · exact q2.elim
  rename_i c
  rcases a2.1.obj l _ hl with ⟨z, _⟩ | ⟨p, hp, xs, h1, h2, h4⟩
  · cases z
  obtain ⟨⟨pg, hd⟩, _⟩ := I2.hok p _ h1
  cases rl2 with | r hl2 hv2 =>
  have := hv2 p hp
  cases this
  cases r2 with | v rd =>
  cases r1 with | v r1 =>
  have hxl : xs.length ≤ sizeLine := by
    rw [h2.length]
    exact Nat.le_trans c (by decide)
  refine wpAny_dictSet_pairs (knd := leafKind X.prog X.w) (hsz := hxl) (leaf_is r1 ru1 ek) (leaf_conv hd) fun h' hm sb => ?_
  have gw : Grow ρ2 H2 ρ2 (upd H2 D (.ext (LdAt X.w D (stored xs lf u2)))) := .write hp
  obtain ⟨o', _, _, e1, _⟩ := id hm
  refine ⟨σ, _, I2.write (e := D) (t' := s2.toks + 1) (by rw [h1]; trivial) (.inl rfl) (fun b o hb q => (sb.2 b hb).trans q) ⟨_, e1⟩ (okL_of hm), rfl, fun _ _ _ e => e, ?_⟩
  exact q2 ρ2 _ () gw (a2.1.write hp ⟨_, upd_same, (h2.put ek ru2 rd).mono (fun _ _ z => z.grow gw), h4⟩ trivial) trivial⟩
variable {tg iter : Expr} {ifs : List Expr} {scope : Scope} {own : List (Str × Nat)} {pos : Pos} {it : LD} {g : GD} {t : BD}
theorem de_dcL (hc : X.calm = true) (hN : X.N.Nodup) (hi : PI X tg iter (iR X.kw ct E it)) (ok : BlkOk X.N X.env.scope scope own)
    (hg : ∀ (s : Shared) (H : Hp) (C : Addr) (cl : List (Str × Addr)) (fp : List Addr), PG (X.blk s H scope (compEnvC scope cl C X.env) fp) tg (gR X.kw (own.map (·.2)) g))
    (ht : ∀ (s : Shared) (H : Hp) (C : Addr) (cl : List (Str × Addr)) (fp : List Addr), PTs (X.blk s H scope (compEnvC scope cl C X.env) fp) ifs (tT X.kw ct (fun _ => E0) t))
    (hk : ∀ (s : Shared) (H : Hp) (C : Addr) (cl : List (Str × Addr)) (fp : List Addr), PE (X.blk s H scope (compEnvC scope cl C X.env) fp) kx (tE X.kw ct (fun _ => E0) fk))
    (hv : ∀ (s : Shared) (H : Hp) (C : Addr) (cl : List (Str × Addr)) (fp : List Addr), PE (X.blk s H scope (compEnvC scope cl C X.env) fp) vx (tE X.kw ct (fun _ => E0) fv)) (hs : ∀ x, foldedSetIterable iter X.env x = pure x := by intro _; rfl) :
    PE X (.DictComp kx vx [⟨tg, iter, ifs, 0⟩] scope pos) (tE X.kw ct E (eCp (.ld []) (own.map (·.2)) it g t (uLdPut fk fv))) := ⟨fun pins s σ H Q I h => by
  rw [arm_eval_DictComp]
  refine cp_core (ho := fun D => .ext (LdAt X.w D [])) (ob := { cls := .type "dict", data := .dict #[] }) hc hN loop_dict rfl (fun s Q E q => wpAny_newObj_type q) (fun H h _ => okL0_new H h) I hi ok hg ht
    (fun s H C cl fp => ps_ldput (X := X.blk s H scope (compEnvC scope cl C X.env) fp) rfl (hk s H C cl fp) (hv s H C cl fp)) hs (cp_read (new := .ld []) (fun ρ H D hD => ⟨[], upd_same, .nil, hD⟩) (fun n => trivial) h) fun D C s' m H' I' q hn f => ⟨m, hn, fun h'' sb => ?_⟩
  obtain ⟨f0, f1, f2, f3, f4, f5⟩ := f
  exact ⟨.ref D, H', I'.turned (t' := s'.toks) (fun b o hb e => (sb.2 b hb).trans e) f0 f1 f3 f4 f5, rfl, q⟩⟩
end
/-! {k: v, ..}, the keys written down -/
def ldE : List (D × ED) → Env → Sto → R (List (D × D))
  | [], _, st => .ok [] st
  | (k, f) :: r, env, st => (f env st).bind fun w st => match w with
    | .v d => (ldE r env st).bind fun kvs st => .ok ((k, d) :: kvs) st
    | .r _ => .bad
def eLdD (fs : List (D × ED)) : ED := fun env st => (ldE fs env (st ++ [.ld []])).bind fun kvs st' =>
  match st'[st.length]? with
  | some (.ld []) => if (kvs.all fun p => (p.1.lf).isSome) && decide (kvs.length ≤ 15) then .ok (.r st.length) (st'.set st.length (.ld (storeAllL [] kvs))) else .bad
  | _ => .bad
theorem PrR.mono {K : KW} {ρ ρ' : Rho} {H H' : Hp} {xs : List (Value × Value)} {ds : List (D × D)} (f : ∀ v d, Rl K ρ H v d → Rl K ρ' H' v d) (h : PrR K ρ H xs ds) : PrR K ρ' H' xs ds := by
  induction h with
  | nil => exact .nil
  | cons a b c d _ ih => exact .cons a (f _ _ b) c (f _ _ d) ih
abbrev RlPr : Rel (List (Value × Value)) (List (D × D)) := fun K ρ H a b => PrR K ρ H a b
section
variable {X : Cx} {ct : Nat → Value} {E : St → XK}
/-- the pairs of a display -/
inductive PLd (X : Cx) (ct : Nat → Value) (E : St → XK) : List (Option Expr) → List Expr → List (D × ED) → Prop
  | nil : PLd X ct E [] [] []
  | cons {kx vx : Expr} {k : D} {f : ED} {ks : List (Option Expr)} {vs : List Expr} {fs : List (D × ED)} : PE X kx (tE X.kw ct E (eCon k)) → PE X vx (tE X.kw ct E f) → PLd X ct E ks vs fs → PLd X ct E (some kx :: ks) (vx :: vs) ((k, f) :: fs)
theorem ld_pairs {pos : Pos} {ks : List (Option Expr)} {vs : List Expr} {fs : List (D × ED)} (h : PLd X ct E ks vs fs) : ∀ {pins : List (Addr × Obj)} {s : Shared} {σ : St} {H : Hp} {ρ : Rho} {st : Sto} {env : Env} {Q : List (Value × Value) → Hp → Prop}, Inv X pins σ H s → At X.kw ρ H st σ env →
    okG X.kw ct RlPr ρ H (E σ) Q (ldE fs env st) → wpAny (model X.prog X.w) X.A (evalPairs (pairTrees ks vs X.env pos)) (fun us s' => ∃ H', Inv X pins σ H' s' ∧ Q us H') X.xe s := by
  induction h with
  | nil =>
    intro pins s σ H ρ st env Q I a q
    exact wpAny_pure ⟨H, I, q.here a.1 .nil⟩
  | @cons kx vx k f ks vs fs hk hv t ih =>
    intro pins s σ H ρ st env Q I a q
    show wpAny _ _ (evalPairs ((eval kx X.env, do let x ← eval vx X.env; standAt pos; pure x) :: pairTrees ks vs X.env pos)) _ _ _
    unfold evalPairs
    refine wpAny_bind (thn (hk.run pins s σ H (fun v H1 => ∃ ρ1, Grow ρ H ρ1 H1 ∧ At X.kw ρ1 H1 st σ env ∧ Rl X.kw ρ1 H1 v k) I ⟨ρ, st, env, a, fun ρ1 H1 b g s r => ⟨ρ1, g, ⟨s, a.2.grow g⟩, by cases r with | v r => exact r⟩⟩) ?_)
    rintro u1 s1 ⟨v1, H1, I1, ru1, ρ1, g1, a1, r1⟩
    have q1 := okG.grow g1 q
    unfold ldE at q1
    refine wpAny_bind (wpAny_holding (wpAny_bind (thn (hv.run pins s1 σ H1 _ I1 ⟨ρ1, st, env, a1, okG.bind (rel := Rw) q1 a1.2⟩) ?_)))
    rintro u2 s2 ⟨v2, H2, I2, ru2, ρ2, st2, w2, a2, g2, r2, q2⟩
    refine wpAny_bind (wpAny_standAt (wpAny_pure ?_))
    cases w2 with
    | r l => exact q2.elim
    | v d =>
      cases r2 with | v r2 =>
      have q3 := okG.bind (rel := RlPr) q2 a2.2
      refine wpAny_bind (wpAny_holding (wpAny_mono (ih I2 a2 q3) ?_ fun _ _ z => z))
      rintro us s3 ⟨H3, I3, ρ3, st3, kvs, a3, g3, r3, q4⟩
      exact wpAny_pure ⟨H3, I3, q4.here a3.1 (.cons ru1 ((r1.grow g2).grow g3) ru2 (r2.grow g3) r3)⟩
theorem store_all {pins : List (Addr × Obj)} {σ : St} {p l : Nat} {Q : Shared → Prop} : ∀ {us : List (Value × Value)} {kvs : List (D × D)} {xs : List (Leaf × Value)} {ds : List (D × D)} {s : Shared} {H : Hp} {ρ : Rho} {st : Sto}, Inv X pins σ H s → RelSt X.kw ρ H st → ρ.lc[l]? = some (some p) → H p = some (.ext (LdAt X.w p xs)) → LdR X.kw ρ H xs ds → (p == sysModules) = false →
    PrR X.kw ρ H us kvs → (∀ q ∈ kvs, (q.1.lf).isSome = true) → ds.length + kvs.length ≤ 1000 →
    (∀ s' H', Inv X pins σ H' s' → Grow ρ H ρ H' → RelSt X.kw ρ H' (st.set l (.ld (storeAllL ds kvs))) → Q s') → wpAny (model X.prog X.w) X.A (storeAll p us) (fun _ s' => Q s') X.xe s
  | _, _, xs, ds, s, H, ρ, st, I, rs, hp, h1, h2, hs, .nil, c, hl, k => by
    refine wpAny_pure (k s H I (.refl _ _) ?_)
    have := rs.write (o := .ext (LdAt X.w p xs)) (ob := .ld ds) hp ⟨xs, upd_same, h2.mono fun _ _ z => z.grow (.write hp), hs⟩ trivial
    have e : upd H p (.ext (LdAt X.w p xs)) = H := by
      funext b
      by_cases hb : b = p
      · rw [hb, upd_same, h1]
      · rw [upd_ne hb]
    rw [e] at this
    exact this
  | _, _, xs, ds, s, H, ρ, st, I, rs, hp, h1, h2, hs, .cons (a := a) (u := u) (k := kd) (d := d) (xs := us) (ds := kvs) ra ka ru du t, c, hl, k => by
    obtain ⟨lf, ek⟩ := Option.isSome_iff_exists.mp (c _ List.mem_cons_self)
    obtain ⟨⟨pg, hd⟩, _⟩ := I.hok p _ h1
    have hxl : xs.length ≤ sizeLine := by
      rw [h2.length]
      simp only [List.length_cons] at hl
      exact Nat.le_trans (by omega : ds.length ≤ 1000) (by decide)
    unfold storeAll
    rw [List.forIn_cons]
    refine wpAny_bind (wpAny_bind (wpAny_dictSet_pairs (knd := leafKind X.prog X.w) (hsz := hxl) (leaf_is ka ra ek) (leaf_conv hd) fun h' hm sb => wpAny_pure ?_))
    have gw : Grow ρ H ρ (upd H p (.ext (LdAt X.w p (stored xs lf u)))) := .write hp
    obtain ⟨o', _, _, e1, _⟩ := id hm
    have I2 : Inv X pins σ (upd H p (.ext (LdAt X.w p (stored xs lf u)))) { s with heap := h', toks := s.toks + 1 } := I.write (e := p) (t' := s.toks + 1) (by rw [h1]; trivial) (.inl rfl) (fun b o hb q => (sb.2 b hb).trans q) ⟨_, e1⟩ (okL_of hm)
    have h2' := (h2.put (d := d) ek ru du).mono (fun _ _ z => z.grow gw)
    have rs2 := rs.write (o := .ext (LdAt X.w p (stored xs lf u))) (ob := .ld (storeL ds kd d lf)) hp ⟨_, upd_same, h2', hs⟩ trivial
    have hlen : (storeL ds kd d lf).length ≤ ds.length + 1 := by
      unfold storeL
      split
      · simp
      · simp
    refine store_all I2 rs2 hp upd_same h2' hs (t.mono fun _ _ z => z.grow gw) (fun q hq => c q (List.mem_cons_of_mem _ hq)) (by
      have := hlen
      simp only [List.length_cons] at hl
      show (storeL ds kd d lf).length + kvs.length ≤ 1000
      omega) fun s' H' I' g' r' => ?_
    refine k s' H' I' (gw.trans g') ?_
    rw [List.set_set] at r'
    simpa [storeAllL, ek] using r'
theorem de_ldD {pos : Pos} {keys : List (Option Expr)} {values : List Expr} {fs : List (D × ED)} (h : PLd X ct E keys values fs) (hall : keys.all (·.isSome) = true := by rfl) (hl : keys.length = values.length := by rfl) (h0 : keys ≠ [] := by exact fun z => by cases z) (h15 : keys.length ≤ 15 := by decide) :
    PE X (.Dict keys values pos) (tE X.kw ct E (eLdD fs)) := ⟨fun pins s σ H Q I ⟨ρ, st, env, a, q⟩ => by
  have hp : H s.heap.objs.size = none := I.hok.fresh (Nat.le_refl _)
  have I0 : Inv X pins σ (upd H s.heap.objs.size (.ext (LdAt X.w s.heap.objs.size []))) { s with heap := s.heap.push { cls := .type "dict", data := .dict #[] } } :=
    I.laid (t' := s.toks) (fun _ _ q => Heap.get?_push_of_some _ q) (Nat.le_refl _) (okL0_new H s.heap)
  have hb : (s.heap.objs.size == sysModules) = false := beq_eq_false_iff_ne.mpr (Ne.symm (Nat.ne_of_lt I.big))
  have gp : Grow ρ H (ρ.push s.heap.objs.size) (upd H s.heap.objs.size (.ext (LdAt X.w s.heap.objs.size []))) := .push hp
  have s0 : RelSt X.kw (ρ.push s.heap.objs.size) (upd H s.heap.objs.size (.ext (LdAt X.w s.heap.objs.size []))) (st ++ [.ld []]) := pushK a.1 hp ⟨[], upd_same, .nil, hb⟩ trivial
  have hpl0 : (ρ.push s.heap.objs.size).lc[st.length]? = some (some s.heap.objs.size) := by rw [← a.1.len]; simp [Rho.push]
  refine wpAny_Dict_any hall hl h0 h15 ?_
  refine wpAny_mono (ld_pairs h I0 ⟨s0, a.2.grow gp⟩ (okG.bind (rel := RlPr) (okG.grow gp q) (a.2.grow gp))) ?_ fun _ _ z => z
  rintro us s1 ⟨H1, I1, ρ1, st1, kvs, a1, g1, r1, q1⟩
  split at q1
  rotate_left
  · exact q1.elim
  rename_i ho
  split at q1
  rotate_left
  · exact q1.elim
  rename_i c
  simp only [Bool.and_eq_true, decide_eq_true_eq, List.all_eq_true] at c
  rcases a1.1.obj _ _ ho with ⟨z, _⟩ | ⟨p, hpl, xs, h1, h2, h3⟩
  · cases z
  have e0 := g1.ref st.length p (by rw [← a.1.len]; simp [Rho.push]) hpl
  rw [hpl0] at e0
  cases e0
  refine store_all I1 a1.1 hpl h1 h2 h3 r1 c.1 (by simp; omega) fun s' H' I' g' r' => ?_
  refine ⟨.ref s.heap.objs.size, H', I', rfl, q1 ρ1 H' _ g' r' (.r (List.getElem?_eq_some_iff.mp hpl).1 fun x hx => ?_)⟩
  rw [hpl] at hx
  cases hx
  rfl⟩
end
end Jv
end
section
/-! sorted(set(xs)), xs a list of texts -/
namespace TS
open PySem PySem.Spec PyProof.Rows L2
def addT (l : List Str) (k : Str) : List Str := if k ∈ l then l else k :: l
theorem addT_len (l : List Str) (k : Str) : (addT l k).length ≤ l.length + 1 := by
  unfold addT
  split <;> simp <;> omega
theorem addT_nd {l : List Str} (k : Str) (h : l.Nodup) : (addT l k).Nodup := by
  unfold addT
  split
  · exact h
  · rename_i c; exact List.nodup_cons.mpr ⟨c, h⟩
def dedup (xs : List Str) : List Str := xs.foldl addT []
theorem fold_len : ∀ (xs l : List Str), (xs.foldl addT l).length ≤ l.length + xs.length
  | [], l => by simp
  | k :: r, l => by
    have h1 := fold_len r (addT l k)
    have h2 := addT_len l k
    simp only [List.foldl_cons, List.length_cons]
    omega
/-- the set of the texts l -/
def TxR (w : World) (h : Heap) (a : Addr) (l : List Str) : Prop :=
  ∃ D : Froz.SD, h.get? a = some (Froz.sObj "set" D) ∧ (∃ rows : List (Str × Tok), D.1.toList.Perm (rows.map fun p => (hashStr w p.1, Value.str p.1 p.2)) ∧ rows.map (·.1) = l) ∧ D.2.2.fits D.1.size = true ∧ Ris D.2.2.place.toList ∧ (w.params.followText "set-order" = true ∨ D.2.2.led = true) ∧ l.Nodup ∧ l.length < 64
section
variable {P : Program} {w : World} {A : Around} {E : Value → Shared → Prop} {s : Shared} {a : Addr} {l : List Str}
theorem TxR.keep {h h' : Heap} (R : TxR w h a l) (k : ∀ o, h.get? a = some o → h'.get? a = some o) : TxR w h' a l := by
  obtain ⟨D, ho, r⟩ := R
  exact ⟨D, k _ ho, r⟩
theorem txOk {D : Froz.SD} {rows : List (Str × Tok)} (p : D.1.toList.Perm (rows.map fun p => (hashStr w p.1, Value.str p.1 p.2))) (e : rows.map (·.1) = l) (f : D.2.2.fits D.1.size = true) : Froz.TxOk P w D l where
  el := fun e he => by
    obtain ⟨q, _, rfl⟩ := List.mem_map.mp (p.mem_iff.mp he)
    exact ⟨⟨q.1, Froz.is_str _ _, rfl⟩, rfl⟩
  mem := fun k => by
    constructor
    · intro hk
      rw [← e] at hk
      obtain ⟨q, hq, rfl⟩ := List.mem_map.mp hk
      exact ⟨_, p.mem_iff.mpr (List.mem_map.mpr ⟨q, hq, rfl⟩), Froz.is_str _ _⟩
    · rintro ⟨z, hz, hk⟩
      obtain ⟨q, hq, rfl⟩ := List.mem_map.mp (p.mem_iff.mp hz)
      rw [(strKind P w).inj _ k q.1 hk (Froz.is_str _ _), ← e]
      exact List.mem_map.mpr ⟨q, hq, rfl⟩
  sz := by
    rw [← Array.length_toList, p.length_eq, ← e]
    simp
  fit := f
theorem tail_perm {ep : Nat} {es1 : Array (Int × Value)} {t2 : SetTable} {wd : Bool} : (Froz.tailTx ep es1 t2 wd).1.toList.Perm es1.toList := by
  unfold Froz.tailTx
  split
  · exact relayAll_perm _ _ _
  · exact .refl _
theorem tail_ris {ep : Nat} {es1 : Array (Int × Value)} {t2 : SetTable} {wd : Bool} (r : Ris t2.place.toList) : Ris (Froz.tailTx ep es1 t2 wd).2.2.place.toList := by
  unfold Froz.tailTx
  split
  · exact relayAll_ris _ _ _
  · exact r
theorem tail_led (ep : Nat) (es1 : Array (Int × Value)) (t2 : SetTable) (wd : Bool) : (Froz.tailTx ep es1 t2 wd).2.2.led = t2.led := by
  unfold Froz.tailTx
  split
  · exact relayAll_led _ _ _
  · rfl
theorem off_ris {t : SetTable} (r : Ris t.place.toList) : Ris (if t.plain = true then { t with plain := false } else t).place.toList := by split <;> exact r
theorem off_led (t : SetTable) : (if t.plain = true then { t with plain := false } else t).led = t.led := by split <;> rfl
theorem add_old {D : Froz.SD} {k : Str} {u : Tok} {Q : Bool → Shared → Prop} (ho : s.heap.get? a = some (Froz.sObj "set" D)) (F : Froz.TxOk P w D l) (hk : k ∈ l) (hb : l.length + 1 < scanBound) (h : Q false s) :
    wpAny (model P w) A (setAddHashed a (.str k u) (hashStr w k)) Q E s := by
  obtain ⟨es, ep, t⟩ := D
  have hd : (Froz.sObj "set" (es, ep, t)).data = .set es ep t := rfl
  have hf : t.fits es.size = true := F.fit
  have hel : ElemsOf (strKind P w) es.toList := F.el
  have hsz : es.size = l.length := F.sz
  have hb0 : es.size < scanBound := by omega
  have hkey : (strKind P w).is k (.str k u) = true := Froz.is_str k u
  unfold setAddHashed setAddHashedIn
  refine wpAny_holding (wpAny_bind (wpAny_setState_of ho hd hf ?_))
  dsimp only
  rw [byScan_of rfl hb0 hel]
  simp only [↓reduceIte]
  unfold setAddByScan
  refine wpAny_bind ?_
  refine wpAny_bind (wpAny_rule ?_)
  refine wpAny_bind (wpAny_setScan_of (knd := strKind P w) (k := k) hkey ho hd hf hel ?_)
  cases hfi : List.findIdx? (fun e => (strKind P w).is k e.2) es.toList with
  | some j =>
    dsimp only
    exact wpAny_pure (wpAny_pure h)
  | none =>
    obtain ⟨z, hz, c⟩ := (F.mem k).mp hk
    have c' := List.findIdx?_eq_none_iff.mp hfi z hz
    rw [c] at c'
    cases c'
theorem grow_by {k : Str} {u : Tok} {Q : Bool → Shared → Prop} (R : TxR w s.heap a l) (fw : l.length + 1 < 64)
    (hQ : ∀ b h', Heap.SameBut a s.heap h' → TxR w h' a (addT l k) → Q b { s with heap := h' }) : wpAny (model P w) A (setAddHashed a (.str k u) (hashStr w k)) Q E s := by
  have R0 := R
  obtain ⟨D, ho, ⟨rows, p, e⟩, f, ri, ld, nd, few⟩ := R
  have F : Froz.TxOk P w D l := txOk p e f
  have hb : l.length + 1 < scanBound := by unfold scanBound; omega
  by_cases hk : k ∈ l
  · refine add_old ho F hk hb ?_
    have q := hQ false s.heap (Heap.SameBut.refl a s.heap) (by unfold addT; rw [if_pos hk]; exact R0)
    exact q
  · refine Froz.add_x ho F hk hb (hQ true _ (Heap.SameBut.update ..) ?_)
    have F2 := Froz.add_ok (P := P) u F (k := k)
    unfold addT
    rw [if_neg hk]
    refine ⟨_, Froz.get_upd _ ho rfl, ⟨(k, u) :: rows, ?_, by simp [e]⟩, F2.fit, ?_, ?_, List.nodup_cons.mpr ⟨hk, nd⟩, fw⟩
    · have pm := layNew_perm D.2.2 D.1 (hashStr w k) (.str k u)
      rw [Array.toList_push] at pm
      exact tail_perm.trans ((pm.trans (List.perm_append_singleton _ _)).trans (p.cons (hashStr w k, Value.str k u)))
    · exact tail_ris (off_ris (layNew_ris D.2.2 D.1 (hashStr w k) (.str k u) ri))
    · exact ld.imp id fun z => (tail_led ..).trans ((off_led _).trans ((layNew_led D.2.2 D.1 (hashStr w k) (.str k u)).trans z))
theorem tx_fresh {h : Heap} (w : World) : TxR w (h.push { cls := .type "set", dict := none, data := .set #[] 0 (.fresh 0 0 (!w.params.followText "set-order")) }) h.objs.size [] :=
  ⟨(#[], 0, .fresh 0 0 (!w.params.followText "set-order")), Heap.get?_push_size _ rfl, ⟨[], .refl _, rfl⟩, rfl, List.Pairwise.nil, by
    show _ ∨ (!w.params.followText "set-order") = true
    cases w.params.followText "set-order"
    · exact .inr rfl
    · exact .inl rfl, .nil, by decide⟩
theorem upd_loop {I : Addr} {fp wr : List Addr} {G : Array GenState → Array GenState → Prop} {n : Nat} {Pv : Nat → Value → Prop} {St : Nat → Shared → Prop} {R : Result → Shared → Prop}
    (W : WalksS P w A.in1 I fp wr G n Pv St) (S : Addr) (hSf : S ∉ fp) (ks : List Str) (hn : n = ks.length) (hfew : ks.length < 63) (hval : ∀ i v, Pv i v → ∃ k u, ks[i]? = some k ∧ v = .str k u)
    (h0 : Heap) (hS0 : h0.get? S = none) (hw0 : ∀ b ∈ wr, h0.get? b = none) :
    ∀ (k i : Nat) (s : Shared), n - i = k → i ≤ n → St i s → (∀ b o, h0.get? b = some o → s.heap.get? b = some o) → TxR w s.heap S ((ks.take i).foldl addT []) →
      (∀ s', Moved (S :: wr) G s s' → TxR w s'.heap S (dedup ks) → (∀ b o, h0.get? b = some o → s'.heap.get? b = some o) → R (.ok (.ret .none)) s') →
      codeAny (model P w) A (.builtin "set.update.loop" ⟨[.ref S, .ref I], []⟩) R s := by
  have hSw : S ∉ wr := fun h => hSf (W.sub _ h)
  have hsub : ∀ b ∈ wr, b ∈ S :: wr := fun b hb => List.mem_cons_of_mem _ hb
  have keepM : ∀ {s s' : Shared}, Moved wr G s s' → (∀ b o, h0.get? b = some o → s.heap.get? b = some o) → ∀ b o, h0.get? b = some o → s'.heap.get? b = some o := fun hm hkp b o e =>
    hm.heap b o (fun hb => by rw [hw0 b hb] at e; cases e) (hkp b o e)
  intro k
  induction k with
  | zero =>
    intro i s hk' hi hst hkp hS hR
    have hin : i = n := by omega
    subst hin
    refine codeAny_builtin F.entry_set_update_loop ?_
    rw [Around.under_plainId F.plain_set_update_loop _]
    show wpAny _ A.in1 (pyNext (.ref I) >>= _) _ _ s
    refine wpAny_bind (W.done s _ _ hst fun s' hm => ?_)
    show wpAny _ A.in1 (ret Value.none) _ _ s'
    rw [hn, List.take_length] at hS
    exact wpAny_pure (hR s' (hm.mono hsub) (hS.keep fun o e => hm.heap S o hSw e) (keepM hm hkp))
  | succ k ih =>
    intro i s hk' hi hst hkp hS hR
    have hlt : i < n := by omega
    refine codeAny_builtin F.entry_set_update_loop ?_
    rw [Around.under_plainId F.plain_set_update_loop _]
    show wpAny _ A.in1 (pyNext (.ref I) >>= _) _ _ s
    refine wpAny_bind (W.item i s _ _ hlt hst fun v s' hP hst' hm => ?_)
    obtain ⟨kx, ux, hp, rfl⟩ := hval i v hP
    have hkp' := keepM hm hkp
    have hS' := hS.keep fun o e => hm.heap S o hSw e
    have hL : ((ks.take i).foldl addT []).length ≤ i := by
      have e2 := fold_len (ks.take i) []
      have e3 : (ks.take i).length ≤ i := by rw [List.length_take]; omega
      simp only [List.length_nil] at e2
      omega
    show wpAny _ A.in1 (holding [Value.str kx ux] (setAdd S (.str kx ux)) >>= _) _ _ s'
    refine wpAny_bind (wpAny_holding ?_)
    unfold setAdd
    refine wpAny_holding ?_
    refine wpAny_bind ((strKind P w).pyHash (Froz.is_str kx ux) ?_)
    refine grow_by (s := { s' with toks := s'.toks + 1 }) hS' (by omega) fun b h' hsb hS2 => ?_
    have et : ks.take (i + 1) = ks.take i ++ [kx] := by
      rw [List.take_add_one, hp]
      rfl
    have hS3 : TxR w h' S ((ks.take (i + 1)).foldl addT []) := by
      rw [et, List.foldl_append]
      exact hS2
    have hkp2 : ∀ b o, h0.get? b = some o → h'.get? b = some o := fun b o e => (hsb.2 b (fun z => by rw [z, hS0] at e; cases e)).trans (hkp' b o e)
    refine wpAny_pure ⟨plainId_quiet F.plain_set_update_loop _, ih (i + 1) _ (by omega) hlt (W.frame _ s' _ _ hst' (Nat.le_add_right _ _) fun b hb o e => ?_) hkp2 hS3 fun s'' hm'' hS'' hkp'' => ?_⟩
    · rw [hsb.2 b (fun h : b = S => hSf (by rw [← h]; exact hb))]; exact e
    · refine hR s'' (Moved.trans W.gtrans ((hm.mono hsub).then_heap (Nat.le_add_right _ _) fun b o hb e => ?_) hm'') hS'' hkp''
      rw [hsb.2 b (fun h : b = S => hb (by rw [h]; exact List.mem_cons_self))]; exact e
theorem txt_at : ∀ {us : List Value} {xs : List Str}, StrsAre us xs → ∀ (i : Nat) (v : Value), us[i]? = some v → ∃ t, v = .str (xs.getD i Str.empty) t
  | _, _, .nil, i, v, h => by simp at h
  | _, _, .cons n t hr, 0, v, h => by simp at h; exact ⟨t, by rw [← h] <;> rfl⟩
  | _, _, .cons n t hr, i + 1, v, h => by
    simp only [List.getElem?_cons_succ] at h
    obtain ⟨t', e⟩ := txt_at hr i v h
    exact ⟨t', by rw [e]; rfl⟩
/-- set(xs), xs a list of texts -/
theorem call_set {l : Addr} {items : Array Value} (ks : List Str) {Q : Value → Shared → Prop} (hh : A.handled = none) (hl : s.heap.IsList l items) (hit : StrsAre items.toList ks)
    (hfew : ks.length < 63)
    (h : ∀ (h' : Heap) (tk : Nat), TxR w h' s.heap.objs.size (dedup ks) → (∀ b o, s.heap.get? b = some o → h'.get? b = some o) → Q (.ref s.heap.objs.size) { s with heap := h', toks := tk }) :
    wpAny (model P w) A (call (.type "set") [.ref l]) Q E s := by
  have len : items.size = ks.length := by
    have q := hit.length
    simpa using q
  obtain ⟨c, tl, hmro⟩ := F.called_set.mro
  have hmade := F.called_set.made
  have hsub := F.called_set.sub
  have nt := F.called_set.notType
  have cc := F.called_set.canCreate
  have tc := F.typeCall_set_1 (.ref l)
  refine wpAny_call (codeAny_of_tree ?_)
  show wpAny _ _ (callAny (.type "set") _) _ _ _
  refine wpAny_pure ⟨Code.quiet_builtin _ (by decide +kernel), codeAny_builtin F.entry_type_call ?_⟩
  rw [Around.under_plain (weight_type_call_type "set" [.ref l] []) rfl]
  repeat (any_goals (first | assumption | wp_step))
  refine codeAny_mono (code_set_led1 (.ref l) (E := E) (Q₁ := fun obj s1 => obj = .ref s.heap.objs.size ∧ s1 = { s with heap := s.heap.push { cls := .type "set", dict := none, data := .set #[] 0 (.fresh 0 0 (!w.params.followText "set-order")) } }) ⟨rfl, rfl⟩) ?_
  intro r s1 hr
  cases r with
  | error e => exact hr
  | ok fl =>
    cases fl with
    | ret obj =>
      obtain ⟨rfl, rfl⟩ := hr
      have at0 : (s.heap.push { cls := .type "set", dict := none, data := .set #[] 0 (.fresh 0 0 (!w.params.followText "set-order")) }).get? s.heap.objs.size = some { cls := .type "set", dict := none, data := .set #[] 0 (.fresh 0 0 (!w.params.followText "set-order")) } := Heap.get?_push_size _ rfl
      have ty : Shared.TypeIs { s with heap := s.heap.push { cls := .type "set", dict := none, data := .set #[] 0 (.fresh 0 0 (!w.params.followText "set-order")) } } (.ref s.heap.objs.size) "set" := ⟨_, at0, rfl⟩
      have li := F.called_set.init.lookup
      have bi := F.called_set.init.bind (.ref s.heap.objs.size)
      repeat (any_goals (first | assumption | wp_step))
      refine codeAny_mono (codeAny_call_builtin (R := wants (fun r s2 => r = .none ∧ ∃ h' tk, s2 = { s with heap := h', toks := tk } ∧ TxR w h' s.heap.objs.size (dedup ks) ∧
          (∀ b o, s.heap.get? b = some o → h'.get? b = some o)) E) F.called_set.init.plain F.entry_set_init (check_set_init_1 ty ?_)) ?_
      · obtain ⟨ol, hol, hcl, nl, hdl⟩ := hl
        obtain ⟨ocls, odict, odata, oslots⟩ := ol
        simp only at hcl hdl
        subst hcl
        subst hdl
        have hol' : (s.heap.push { cls := .type "set", dict := none, data := .set #[] 0 (.fresh 0 0 (!w.params.followText "set-order")) }).get? l = some { cls := .type "list", dict := odict, data := .seq items nl, slots := oslots } := Heap.get?_push_of_some _ hol
        have n1 := F.sub_list_set
        have n2 := F.sub_list_frozenset
        have n3 : (Value.type "list" == Value.type "dict") = false := by decide
        have hl1 : (s.heap.push { cls := .type "set", dict := none, data := .set #[] 0 (.fresh 0 0 (!w.params.followText "set-order")) }).IsList l items := ⟨_, hol', rfl, nl, rfl⟩
        unfold Builtin.«set.__init__» noKeywords Builtin.Frozenset.updateFrom
        generalize hPI : pyIter = PI
        wp_walk
        subst hPI
        refine wpAny_pyIter_list hl1 ?_
        refine wpAny_bind (wpAny_runValue ?_)
        have hlS : l < s.heap.objs.size := Heap.lt_size hol
        have hh3 : A.in1.in1.in1.handled = none := by simp [hh]
        have neI : l ≠ (s.heap.push { cls := .type "set", dict := none, data := .set #[] 0 (.fresh 0 0 (!w.params.followText "set-order")) }).objs.size := by
          rw [Heap.size_push]; exact Nat.ne_of_lt (Nat.lt_succ_of_lt hlS)
        have out : s.heap.objs.size ∉ [(s.heap.push { cls := .type "set", dict := none, data := .set #[] 0 (.fresh 0 0 (!w.params.followText "set-order")) }).objs.size, l] := by
          rw [Heap.size_push]
          simp only [List.mem_cons, List.not_mem_nil, or_false, not_or]
          exact ⟨Nat.ne_of_lt (Nat.lt_succ_self _), Nat.ne_of_gt hlS⟩
        have val : ∀ (i : Nat) (v : Value), items[i]? = some v → ∃ k u, ks[i]? = some k ∧ v = .str k u := fun i v hv => by
          have q : items.toList[i]? = some v := by rw [Array.getElem?_toList]; exact hv
          obtain ⟨t, e⟩ := txt_at hit i v q
          have hi : i < ks.length := by
            have := (List.getElem?_eq_some_iff.mp q).1
            rw [Array.length_toList, len] at this
            exact this
          exact ⟨ks[i], t, List.getElem?_eq_getElem hi, by rw [e]; simp [hi]⟩
        have nothing : ∀ b, s.heap.objs.size ≤ b → s.heap.get? b = none := fun b hb => by
          cases q : s.heap.get? b with
          | none => rfl
          | some o => exact absurd (Nat.lt_of_lt_of_le (Heap.lt_size q) hb) (Nat.lt_irrefl _)
        refine upd_loop ((Walks.list hh3 _ l neI items).toS) s.heap.objs.size out ks len hfew val s.heap (nothing _ (Nat.le_refl _)) (fun b hb => nothing b (by
            rw [List.mem_singleton.mp hb, Heap.size_push]
            exact Nat.le_succ _)) (items.size - 0) 0 _ (by omega) (Nat.zero_le _)
          ⟨⟨_, Heap.get?_push_size _ rfl, rfl, rfl⟩, (hl1.push _)⟩ (fun b o e => Heap.get?_push_of_some _ (Heap.get?_push_of_some _ e)) ?_ ?_
        · exact (tx_fresh w).keep fun o e => Heap.get?_push_of_some _ e
        · intro s' hm hS' hkp
          obtain ⟨h', g2, d', tk', os'⟩ := s'
          have eg : g2 = s.gens := hm.gens
          have ed : d' = s.drawn := hm.drawn
          have eo : os' = s.os := hm.os
          subst eg ed eo
          show wpAny _ _ _ _ _ _
          refine wpAny_pure ?_
          show wpAny _ _ (ret Value.none) _ _ _
          exact wpAny_pure ⟨rfl, h', tk', rfl, hS', hkp⟩
      · intro r2 s2 hr2
        cases r2 with
        | error e => exact hr2
        | ok fl2 =>
          cases fl2 with
          | ret r =>
            obtain ⟨rfl, h', tk, rfl, hS', hk'⟩ := hr2
            repeat (any_goals (first | assumption | wp_step))
            exact h _ _ hS' hk'
          | _ => exact hr2.elim
    | _ => exact hr.elim
end
end TS
end
section
/-! sorted(set(texts)); list(d), d == e of dicts whose keys are ints, texts, None -/
namespace Jv
open PySem PySem.Spec L2 PyProof.Rows PySem.W
def texts : List D → Option (List Str)
  | [] => some []
  | .str x :: r => (texts r).map (x :: ·)
  | _ :: _ => none
def SetTO (w : World) (a : Addr) (l : List Str) : HO := .ext fun h => TS.TxR w h a l
theorem setTO_ok {P : Program} {w : World} {H : Hp} {h : Heap} {a : Addr} {l : List Str} (p : TS.TxR w h a l) : ObjOk P w H h a (SetTO w a l) := by
  refine ⟨p, ?_, fun h1 h2 q k => TS.TxR.keep q k⟩
  obtain ⟨D, ho, _⟩ := p
  exact ⟨_, ho⟩
theorem texts_rl {K : KW} {ρ : Rho} {H : Hp} : ∀ {ds : List D} {xs : List V} {ts : List Str}, RlAll K ρ H xs ds → texts ds = some ts → xs = ts.map V.str
  | [], _, _, .nil, e => by cases e; rfl
  | d :: ds, _, ts, .cons r t, e => by
    cases d with
    | str x =>
      simp only [texts] at e
      cases ev : texts ds with
      | none => rw [ev] at e; cases e
      | some u =>
        rw [ev] at e
        cases e
        cases r
        rw [texts_rl t ev]
        rfl
    | _ => cases e
theorem strs_of : ∀ {ts : List Str} {us : List Value}, Vals (ts.map V.str) us → StrsAre us ts
  | [], _, .nil => .nil
  | x :: r, _, .cons h t => by
    obtain ⟨u, rfl⟩ := h
    exact .cons x u (strs_of t)
def rSetT (X : Cx) : List V → Hp → VK → Prop := fun vs H Q => ∃ a ts, vs = [.ref a] ∧ SqL X.K H a (ts.map V.str) ∧ ts.length ≤ 60 ∧ ∀ p, H p = none → Q (.ref p) (upd H p (SetTO X.w p (TS.dedup ts)))
def sortTV (l : List Str) : List V := (((l.map V.str).zip (l.map D.str)).mergeSort (dataLe false fun b => b.2.py)).map (·.1)
def rSortT (X : Cx) : List V → Hp → VK → Prop := fun vs H Q => ∃ a l, vs = [.ref a] ∧ H a = some (SetTO X.w a l) ∧ keysOk2 (l.map D.str) = true ∧ unlike (l.map D.str) = true ∧ ∀ p, H p = none → Q (.ref p) (upd H p (.lst (sortTV l)))
theorem keysOk2_perm {ds ds' : List D} (pm2 : ds'.Perm ds) (c1 : keysOk2 ds = true) : keysOk2 ds' = true := by
  simp only [keysOk2, Bool.and_eq_true, decide_eq_true_eq] at c1 ⊢
  have pm3 := pm2.map D.py
  refine ⟨⟨⟨?_, ?_⟩, ?_⟩, by rw [pm2.length_eq]; exact c1.2⟩
  · refine List.all_eq_true.mpr fun x hx => List.all_eq_true.mpr fun y hy => ?_
    exact alikes_of c1.1.1.1 x (pm3.mem_iff.mp hx) y (pm3.mem_iff.mp hy)
  · have := c1.1.1.2
    rw [Bool.or_eq_true] at this ⊢
    exact this.imp (fun z => List.all_eq_true.mpr fun x hx => List.all_eq_true.mp z x (pm3.mem_iff.mp hx)) fun z => List.all_eq_true.mpr fun x hx => List.all_eq_true.mp z x (pm3.mem_iff.mp hx)
  · exact List.all_eq_true.mpr fun x hx => List.all_eq_true.mp c1.1.2 x (pm2.mem_iff.mp hx)
theorem strs_rl {K : KW} {ρ : Rho} {H : Hp} : ∀ (l : List Str), RlAll K ρ H (l.map V.str) (l.map D.str)
  | [] => .nil
  | x :: r => .cons (.str x) (strs_rl r)
theorem strs_vals : ∀ (rows : List (Str × Tok)), Vals ((rows.map (·.1)).map V.str) (rows.map fun p => Value.str p.1 p.2)
  | [] => .nil
  | p :: r => .cons ⟨p.2, rfl⟩ (strs_vals r)
section
variable {X : Cx} {ct : Nat → Value} {E : St → XK}
theorem cr_setT (hc : X.calm = true) : CallR X (.type "set") (rSetT X) := by
  intro pins s σ H vs us Q I r h
  obtain ⟨a, ts, rfl, h1, few, q⟩ := h
  rw [Vals.ref1 r]
  obtain ⟨its, rv, pl, hz⟩ := I.list h1
  have hn : H s.heap.objs.size = none := I.hok.fresh (Nat.le_refl _)
  refine TS.call_set (P := X.prog) (w := X.w) ts (I.ok.hd hc) pl.isList (by simpa using strs_of rv) (by omega) fun h' tk R k => ?_
  exact ⟨.ref s.heap.objs.size, _, I.laid (t' := tk) k (Nat.le_refl _) (setTO_ok R), rfl, q _ hn⟩
theorem cr_sortT (hc : X.calm = true) (hu : X.A.units + 65 < cLine) : CallR X (.builtin "sorted") (rSortT X) := by
  intro pins s σ H vs us Q I r h
  obtain ⟨a, l, rfl, h1, c1, c2, q⟩ := h
  rw [Vals.ref1 r]
  obtain ⟨D0, ho, ⟨rows, pm, e⟩, f, ri, ld, nd, few⟩ : TS.TxR X.w s.heap a l := (I.hok a _ h1).1
  have hr : RlAll X.kw (⟨[], []⟩ : Rho) H (l.map V.str) (l.map D.str) := strs_rl l
  refine sortedV (ρ := ⟨[], []⟩) (Pm := fun bs => bs.Perm ((l.map V.str).zip (l.map D.str))) I hu (fun bs e => ?_) (fun R' E k => ?_) fun bs e p hp => ?_
  · refine ⟨fun b hb => hr.pairs b (e.mem_iff.mp hb), keysOk2_perm ?_ c1⟩
    have := e.map (·.2)
    rwa [zip_snd hr.length] at this
  · have hsz : D0.1.size = l.length := by
      rw [← Array.length_toList, pm.length_eq, ← ‹rows.map (·.1) = l›]
      simp
    refine collect_set (A := X.A.in1) (I.ok.hd hc) ⟨_, ho, rfl, rfl⟩ f (by rw [hsz]; unfold scanBound; omega) ri ld fun s1 out k1 hz g1 o1 po => ?_
    have po2 := po.trans (pm.map (·.2))
    rw [List.map_map] at po2
    have hv : Vals (l.map V.str) (rows.map fun p => Value.str p.1 p.2) := by rw [← e]; exact strs_vals rows
    obtain ⟨bs, pb, eb⟩ := each_perm po2 (each_zip hv hr.length)
    exact k s1 _ bs (inv_after I k1 g1 o1) pb eb
  · have u := unlike_pw (bs := (l.map V.str).zip (l.map D.str)) (by rw [zip_snd hr.length]; exact c2)
    rw [sort_perm (dataLe_total _) e u]
    exact q _ hp
def sortSetR (st : Sto) (w : W) : R (List D) := match asLst st w with
  | some ds => match texts ds with
    | some ts => if decide (ts.length ≤ 60) && keysOk2 ((TS.dedup ts).map D.str) && unlike ((TS.dedup ts).map D.str) then .ok (sortL ((TS.dedup ts).map D.str)) st else .bad
    | none => .bad
  | none => .bad
def lSortSet (f : ED) : LD := fun env st => (f env st).bind fun w st => sortSetR st w
theorem df_sortSet {e : Expr} {f : ED} {p p2 pos pos2 : Pos} (hc : X.calm = true) (hu : X.A.units + 65 < cLine) (hg : Gl X "sorted") (hm : X.mg "sorted" = none) (hg2 : Gl X "set") (hm2 : X.mg "set" = none) (h : PE X e (tE X.kw ct E f))
    (hs1 : starEach [e] X.env = (false, eval e X.env) :: starEach [] X.env := by rfl) (hpl1 : (backTo pos2 (starEach [] X.env)).any (·.1) = false := by rfl)
    (hs : starEach [.Call (.Name "set" p2) [e] [] pos2] X.env = (false, eval (.Call (.Name "set" p2) [e] [] pos2) X.env) :: starEach [] X.env := by rfl) (hpl : (backTo pos (starEach [] X.env)).any (·.1) = false := by rfl) :
    PE X (.Call (.Name "sorted" p) [.Call (.Name "set" p2) [e] [] pos2] [] pos) (tF X.kw ct E (lSortSet f)) :=
  PE.of (pe_callB (cr_sortT hc hu) hg hm bt_sorted (pa_cons (pe_callTy (cr_setT hc) hg2 hm2 bt_set (da_cons h da_nil hs1) (by decide) (by decide) hs1 hpl1) pa_nil hs) (by decide) (by decide) hs hpl) fun σ H Q ⟨ρ, st, env, a, q⟩ => by
    refine ⟨ρ, st, env, a, ?_⟩
    unfold lSortSet at q
    cases ef : f env st with
    | exc x st' =>
      rw [ef] at q
      simp only [aCons, ef]
      exact q
    | bad => rw [ef] at q; exact q.elim
    | ok w st1 =>
      rw [ef] at q
      simp only [R.bind_ok] at q
      unfold sortSetR at q
      cases ea : asLst st1 w with
      | none => rw [ea] at q; exact q.elim
      | some ds =>
      rw [ea] at q
      simp only at q
      cases et : texts ds with
      | none => rw [et] at q; exact q.elim
      | some ts =>
      rw [et] at q
      simp only at q
      split at q
      rotate_left
      · exact q.elim
      rename_i c
      simp only [Bool.and_eq_true, decide_eq_true_eq] at c
      have e1 : aCons f aNil env st = .ok [w] st1 := by simp [aCons, ef, aNil]
      rw [e1]
      intro ρ1 H1 vs gr s r
      obtain ⟨v, rfl, rv⟩ := r.one
      obtain ⟨b, xs, rfl, k1, k2⟩ := lst_of s rv ea
      have ex := texts_rl k2 et
      subst ex
      refine ⟨b, ts, rfl, k1, c.1.1, fun p1 hp1 => ⟨p1, TS.dedup ts, rfl, upd_same, c.1.2, c.2, fun p2 hp2 => ?_⟩⟩
      have sm : Same H1 (upd H1 p1 (SetTO X.w p1 (TS.dedup ts))) := same_upd hp1
      exact q ρ1 _ p2 _ (gr.trans (Grow.same sm)) (s.same sm) hp2 (sort_end (strs_rl _))
/-! list(d) -/
theorem vals_ofK : ∀ {ks : List V} {us : List Value}, us.length = ks.length → (∀ (i : Nat) (v : V) (u : Value), ks[i]? = some v → us[i]? = some u → RelV v u) → Vals ks us
  | [], [], _, _ => .nil
  | [], _ :: _, e, _ => by simp at e
  | _ :: _, [], e, _ => by simp at e
  | k :: ks, u :: us, e, h => .cons (h 0 k u rfl rfl) (vals_ofK (by simpa using e) fun i v u hv hu => h (i + 1) v u (by simpa using hv) (by simpa using hu))
def keysF : BF
  | _, [.v (.ld kvs)] => if (kvsOf (kvs.map (·.1))).isSome && decide (kvs.length ≤ 1000) then some (kvs.map (·.1)) else none
  | st, ws => listF st ws
theorem cf_keys (hc : X.calm = true) : CallR X (.type "list") (rF X.kw keysF) := by
  intro pins s σ H vs us Q I rr h
  obtain ⟨ρ, st, ws, ds, rs, rw', e, q⟩ := h
  unfold keysF at e
  split at e
  rotate_left
  · exact cf_list pins s σ H vs us Q I rr ⟨ρ, st, ws, ds, rs, rw', e, q⟩
  rename_i kvs
  split at e
  rotate_left
  · cases e
  rename_i c
  cases e
  rw [Bool.and_eq_true, decide_eq_true_eq] at c
  obtain ⟨c, c2⟩ := c
  obtain ⟨ks, ek⟩ := Option.isSome_iff_exists.mp c
  obtain ⟨v, rfl, rv⟩ := rw'.one
  cases rv with | v rv =>
  cases rv with
  | @ld a o xs vs _ hh n m y r =>
    rw [Vals.ref1 rr]
    have ho : s.heap.get? a = some o := (I.hok a _ hh).1
    obtain ⟨pg, es, ep, k1, k2, k3, k4, k5⟩ := m.1
    have e1 : (kvs.map (·.1)).map D.lf = xs.map fun x => some x.1 := by rw [List.map_map]; exact m.2.keys
    obtain ⟨hl, hr⟩ := keys_rel k4 e1 ek
    have hn : es.size = ks.length := by simpa using hl
    have hlk : ks.length ≤ sizeLine := by
      have e3 := (kvs_rl (K := X.kw) (ρ := ρ) (H := H) ek).length
      have e4 : (kvs.map (·.1)).length = kvs.length := List.length_map ..
      exact Nat.le_trans (by omega : ks.length ≤ 1000) (by decide)
    refine kdl_call (KdlSrc.rawDict (es := es) (ep := ep) y) (I.ok.hd hc) ⟨o, ho, k1, k2⟩ (by rw [hn]; exact hlk) fun h' tk acc' c' kp e2 it => ?_
    have rv : Vals ks acc'.toList := vals_ofK (by rw [Array.length_toList, it.1]; exact hn) fun i v u hv hu => by
      obtain ⟨hi, eu⟩ := it.2 i u (by rw [← Array.getElem?_toList]; exact hu)
      exact hr i es[i] v (by simp [hi]) hv |> fun z => by rw [eu]; exact z
    exact ⟨.ref s.heap.objs.size, _, I.laid (t' := tk) (o := .lst ks) kp (Nat.le_refl _) ⟨hlk, acc'.toList, c', rv, by rw [Array.toArray_toList]; exact e2⟩, rfl, q _ _ (I.hok.fresh (Nat.le_refl _)) (kvs_rl ek)⟩
/-! d == e, of one key each -/
def eqL : O2 := fun _ a b => match a, b with
  | .v (.ld [(k, d)]), .v (.ld [(k2, d2)]) => match k.lf, k2.lf with
    | some l, some l2 => if SeqAt.shaped d.py && SeqAt.shaped d2.py && d.py.plain && d2.py.plain then some (.bl (decide (l = l2) && PyData.eqv d.py d2.py)) else none
    | _, _ => none
  | _, _ => none
theorem op_eqL (hu : X.A.units + 65 < cLine) : OpR X (compareOp .Eq) (rOf X.kw eqL) := by
  intro pins s σ H x y v u Q I rx ry h
  obtain ⟨ρ, st, d1, d2, d, rs, r1, r2, e, q⟩ := h
  unfold eqL at e
  split at e
  rotate_left
  · cases e
  rename_i k a k2 b
  split at e
  rotate_left
  · cases e
  rename_i l l2 ek ek2
  split at e
  rotate_left
  · cases e
  rename_i c
  simp only [Bool.and_eq_true] at c
  obtain ⟨⟨⟨c1, c2⟩, c3⟩, c4⟩ := c
  cases e
  obtain ⟨p, xs, rfl, h2, h3, h4⟩ := ld_of I rs r1 (kvs := [(k, a)]) rfl
  obtain ⟨p2, xs2, rfl, h22, h32, h42⟩ := ld_of I rs r2 (kvs := [(k2, b)]) rfl
  cases rx
  cases ry
  cases h2 with
  | @cons l0 u1 v1 _ _ _ _ el rv1 rl1 t =>
  cases t
  cases h22 with
  | @cons l02 u2 v2 _ _ _ _ el2 rv2 rl2 t =>
  cases t
  rw [ek] at el
  rw [ek2] at el2
  cases el
  cases el2
  obtain ⟨as, g1⟩ := Dp.reads I _ _ _ (rl1.dp (SeqAt.canLay_of_shaped c1)) rv1
  obtain ⟨bs, g2⟩ := Dp.reads I _ _ _ (rl2.dp (SeqAt.canLay_of_shaped c2)) rv2
  have d1 := SeqAt.depth_of_shaped c1
  refine eq_dictsT (n := 64) (e := fun _ => PyData.eqv a.py b.py) h4 h42 h3 h32 (fun k v y hm hv => ?_) hu ?_
  · cases List.mem_singleton.mp hm
    have : y = u2 := by
      simp only [valueAt, List.find?_cons] at hv
      split at hv <;> simp_all
    subst this
    exact .leaf fun A hA => SeqAt.eqAt_plain _ _ A s _ _ _ _ g1 g2 c3 c4 (Nat.lt_of_le_of_lt (Nat.add_le_add_left (Nat.le_trans (Nat.min_le_left _ _) d1) _) hA)
  · have ev : ((valueAt [(l2, u2)] l).isSome) = decide (l = l2) := by
      by_cases z : l2 = l
      · simp [valueAt, z]
      · simp [valueAt, z, Ne.symm z]
    refine ⟨.bl _, H, I, ?_, q H _ (.refl _) (.bl _)⟩
    show Value.bool _ = Value.bool _
    simp [ev]
abbrev eqD4 : O2 := orO eqD eqL
theorem op_eqD4 (hu : X.A.units + 65 < cLine) : OpR X (compareOp .Eq) (rOf X.kw eqD4) := OpR.or (op_eqDD (by omega)) (op_eqL hu)
end
end Jv
end
section
/-! t * 1, t a tuple -/
namespace Jv
open PySem PySem.Spec L2 PyProof.Rows PySem.W
theorem tuple_mul1 (l : Addr) (items : Array Value) (n : Nat) (dd : Option Addr) (sl : Array (Option Value)) (u : Tok) :
    Meets (Builtin.«tuple.__mul__» ⟨[.ref l, .int 1 u], []⟩) (fun _ R s => s.heap.get? l = some { cls := .type "tuple", dict := dd, data := .seq items n, slots := sl } ∧ R (.ok (.ret (Value.ref l))) s) :=
  .of_wp fun prog w A R s h => by
    obtain ⟨hp, g, d, tk, os⟩ := s
    obtain ⟨hl, h⟩ := h
    have f1 := AutoSeq1.idx_int
    have c1 : (items.isEmpty || (1 : Int) == 1) = true := by simp
    wp_walk using wpAny_loadPart' hl
    repeat (first
      | (refine wpAny_ite_false (by decide) ?_; wp_walk using wpAny_loadPart' hl)
      | (refine wpAny_ite_true (decide_eq_true c1) ?_; wp_walk using wpAny_loadPart' hl)
      | (refine wpAny_ite_true (by decide) ?_; wp_walk using wpAny_loadPart' hl))
    exact ⟨_, rfl, h⟩
section
variable {X : Cx}
def rRep1 (K : PySem.W.Frag) : R2 := fun x y H Q => ∃ l xs, x = .ref l ∧ y = .int 1 ∧ SqT K H l xs ∧ Q (.ref l) H
theorem op_rep1 : OpR X (binaryOp .Mult) (rRep1 X.K) := by
  intro pins s σ H x y v u Q I rx ry h
  obtain ⟨l, xs, rfl, rfl, hT, q⟩ := h
  cases rx
  obtain ⟨t, rfl⟩ := ry
  obtain ⟨its, r, ⟨⟨cls, dd, data, sl⟩, ho, hc, n, hd⟩, hs⟩ := I.tuple hT
  simp only at hc hd
  subst hc hd
  exact wpAny_binaryOp_repeat_ref (T := "tuple") (U := "int") (by decide) ⟨_, ho, rfl⟩ (fun s' => typeIs_int s' 1 t) noFill_tuple_mul F.fills_int_mul F.slot_int_rmul repeat_tuple F.slot_int_index.lookup
    (call_meets F.slot_int_rmul (typeIs_int s 1 t) F.entry_int_rmul (F.args_int_rmul_2 _ _) (int_rmul_tuple 1 t l its.toArray n dd sl)
      ⟨ho, rfl, ⟨_, ho, rfl⟩, call_meets F.slot_tuple_mul ⟨_, ho, rfl⟩ F.entry_tuple_mul (F.args_tuple_mul_2 _ _) (tuple_mul1 l its.toArray n dd sl t) ⟨ho, .ref l, H, I, rfl, q⟩⟩)
def mul1 : O2 := fun _ a b => match a, b with
  | .v (.tup ds), .v (.int 1) => some (.tup ds)
  | _, _ => none
theorem op_mul1 : OpR X (binaryOp .Mult) (rOf X.kw mul1) := by
  intro pins s σ H x y v u Q I rx ry h
  obtain ⟨ρ, st, d1, d2, d, rs, r1, r2, e, q⟩ := h
  unfold mul1 at e
  split at e
  · cases e
    cases r1 with | v r1 =>
    cases r2 with | v r2 =>
    cases r2
    cases r1 with
    | tup h1 n1 q1 => exact op_rep1 pins s σ H _ _ v u Q I rx ry ⟨_, _, rfl, rfl, .inl h1, q H _ (.refl _) (.tup h1 n1 q1)⟩
  · cases e
abbrev mul2 : O2 := orO mulD mul1
theorem op_mul2 : OpR X (binaryOp .Mult) (rOf X.kw mul2) := OpR.or op_mulD op_mul1
end
end Jv
end
section
/-! the objects of a block are forgotten behind it -/
namespace Jv
open PySem PySem.Spec L2 PyProof.Rows PySem.W
def cutW (n : Nat) : Option W → Option W
  | some (.r l) => if l < n then some (.r l) else none
  | w => w
def cutE (n : Nat) (env : Env) : Env := env.map (cutW n)
def cutF (n : Nat) : Fl → Fl
  | .nx env st => .nx (cutE n env) (st.take n)
  | .ct env st => .ct (cutE n env) (st.take n)
  | .bk env st => .bk (cutE n env) (st.take n)
  | .rt (.v d) st => .rt (.v d) (st.take n)
  | r => r
def sCut (den : SD) : SD := fun env st => cutF st.length (den env st)
theorem RelEnv.cut {K : KW} {ρ : Rho} {H : Hp} {σ : St} {env : Env} (n : Nat) (a : RelEnv K ρ H σ env) : RelEnv K (ρ.cut n) H σ (cutE n env) := by
  refine ⟨by simp [cutE, a.len], fun i d e => ?_⟩
  unfold cutE at e
  rw [List.getElem?_map] at e
  cases ei : env[i]? with
  | none => rw [ei] at e; cases e
  | some o =>
    rw [ei] at e
    cases o with
    | none => cases e
    | some w =>
      obtain ⟨v, h1, h2⟩ := a.get i w ei
      cases w with
      | v x => cases e; exact ⟨v, h1, h2.cut trivial⟩
      | r l =>
        simp only [Option.map_some, cutW] at e
        split at e
        · rename_i hl
          cases e
          exact ⟨v, h1, h2.cut hl⟩
        · cases e
section
variable {X : Cx} {ct : Nat → Value} {E : St → XK}
theorem At.cut {K : KW} {ρ : Rho} {H : Hp} {st : Sto} {σ : St} {env : Env} (n : Nat) (a : At K ρ H st σ env) : At K (ρ.cut n) H (st.take n) σ (cutE n env) := ⟨a.1.cut n, a.2.cut n⟩
theorem dss_cut {ss : List Stmt} {den : SD} (h : PSs X ss (tS X.kw ct E den)) : PSs X ss (tS X.kw ct E (sCut den)) := PSs.of h fun D σ H ⟨ρ, st, env, a, q⟩ => by
  refine ⟨ρ, st, env, a, ?_⟩
  have hn : ρ.lc.length ≤ st.length := Nat.le_of_eq a.1.len
  unfold sCut at q
  cases ef : den env st with
  | nx env' st' => rw [ef] at q; exact fun ρ' H' σ' g a' => q (ρ'.cut st.length) H' σ' (g.cut hn) (a'.cut _)
  | ct env' st' => rw [ef] at q; exact fun ρ' H' σ' g a' => q (ρ'.cut st.length) H' σ' (g.cut hn) (a'.cut _)
  | bk env' st' => rw [ef] at q; exact fun ρ' H' σ' g a' => q (ρ'.cut st.length) H' σ' (g.cut hn) (a'.cut _)
  | rt w st' =>
    rw [ef] at q
    cases w with
    | v d => exact fun ρ' H' v g s' r => q (ρ'.cut st.length) H' v (g.cut hn) (s'.cut _) (r.cut trivial)
    | r l => exact q
  | exc env' x st' => rw [ef] at q; exact q
  | bad => rw [ef] at q; exact q
end
end Jv
end
section
namespace K27
open PySem PySem.Spec L2 PyProof.Rows Jv
abbrev D := Jv.D
abbrev W := Jv.W
def top (i : Nat) : Stmt := PySem.Challenge.pw_jarvisits_k27_readings_by_hand.main.body.getD i (.Pass ⟨0, 0, 0, 0⟩)
abbrev s_is_of : Stmt := top 7
theorem sc_is_of : FnScope ["thing", "signs", "sign"] ["thing", "signs"] (defScope s_is_of) := ⟨rfl, rfl, rfl, by decide +kernel, rfl, by decide +kernel, by decide +kernel⟩
def dn_is_of : SD := (sSeq (sIf (bOr (bNot (tVal (eBlt isiB (aCons (eVar 0) (aCons (eCon (.ty "str")) aNil))))) (bNot (tVal (eChain leD leD (eCon (.int 1)) (eBlt lenA (aCons (eVar 0) aNil)) (eCon (.int 6)))))) (sRet (eCon (.bl false))) sNil) (sRet (eBlt allB (aCons (eLst (lLc [2] (itK (eVar 0)) (gNm 2) bYes (eBin in3 (eVar 2) (eVar 1)))) aNil))))
def rn_is_of : List W → Sto → R W := fun ws st => noX (runS 3 dn_is_of ws st)
theorem ok_is_of {P : Program} {w : World} {K : PySem.W.Frag} {mg : Str → Option Value} {base : Heap} {ct : Nat → Value} {f : Addr} {fd : FuncData} (F : Fun K "is_of" "is_of" s_is_of f fd) (z_len : mg "len" = none) (m_MOST_SIGNS : ∃ t, mg "MOST_SIGNS" = some (.int 6 t)) (z_str : mg "str" = none) (z_isinstance : mg "isinstance" = none) (z_all : mg "all" = none) :
    FnG P w K mg base CX0 1 f fd ["thing", "signs"] (spG ⟨K, w, mg⟩ ct 2 rn_is_of) := by
  refine fn_den0 F sc_is_of (fun cdv A outer s H E gd hr => ?_)
  exact (dss_cons (ds_if (PW.pt (dw_or (dt_not (dt_val (de_callB cb_isi (by rfl) z_isinstance bt_isinstance (da_cons (de_var 0) (da_cons (de_ty (by rfl) z_str bt_str) da_nil))))) (dw_or1 (dt_not (dt_chain op_leD op_leD de_int (de_callB cb_lenA (by rfl) z_len bt_len (da_cons (de_var 0) da_nil)) (de_globI (by rfl) m_MOST_SIGNS.choose_spec)))))) (dss_one (ds_ret de_bl)) dss_nil) (dss_one (ds_ret (de_callB (cb_all rfl) (by rfl) z_all bt_all (da_cons (de_val (df_lc (own := [("sign", 2)]) rfl sc_is_of.nd (di_k (de_var 0)) (blkOk_by (own := [("sign", 2)]) (N := ["thing", "signs", "sign"]) (sc := defScope s_is_of) (by decide +kernel)) (fun _ _ _ _ _ => (dg_name (i := 2) sc_is_of.nd)) (fun _ _ _ _ _ => dts_nil) (fun _ _ _ _ _ => (de_cmp (op_in3 (hu65 hr)) (de_var 2) (de_var 1))))) da_nil)))))

abbrev s_is_name : Stmt := top 8
theorem sc_is_name : FnScope ["thing"] ["thing"] (defScope s_is_name) := ⟨rfl, rfl, rfl, by decide +kernel, rfl, by decide +kernel, by decide +kernel⟩
def dn_is_name : SD := (sRet (eCall rn_is_of (aCons (eVar 0) (aCons (eCon (.str "abcdefghijklmnopqrstuvwxyz")) aNil))))
def rn_is_name : List W → Sto → R W := fun ws st => noX (runS 1 dn_is_name ws st)
theorem ok_is_name {P : Program} {w : World} {K : PySem.W.Frag} {mg : Str → Option Value} {base : Heap} {ct : Nat → Value} {f : Addr} {fd : FuncData} (F : Fun K "is_name" "is_name" s_is_name f fd) (m_LETTERS : ∃ t, mg "LETTERS" = some (.str "abcdefghijklmnopqrstuvwxyz" t)) (C_is_of : Cal P w K mg base ct "is_of" 2 1 rn_is_of) :
    FnG P w K mg base CX0 2 f fd ["thing"] (spG ⟨K, w, mg⟩ ct 1 rn_is_name) := by
  refine fn_den0 F sc_is_name (fun cdv A outer s H E gd hr => ?_)
  exact (dss_one (ds_ret (de_calC C_is_of gd (Room.mono hr (by decide)) (by rfl) (aCons_len (aCons_len aNil_len)) (da_cons (de_var 0) (da_cons (de_globS (by rfl) m_LETTERS.choose_spec) da_nil)))))

abbrev s_are_words : Stmt := top 9
theorem sc_are_words : FnScope ["thing", "least", "most", "word"] ["thing", "least", "most"] (defScope s_are_words) := ⟨rfl, rfl, rfl, by decide +kernel, rfl, by decide +kernel, by decide +kernel⟩
def dn_are_words : SD := (sSeq (sIf (bOr (bNot (tVal (eBlt isiB (aCons (eVar 0) (aCons (eCon (.ty "tuple")) aNil))))) (bNot (tVal (eChain leD leD (eVar 1) (eBlt lenA (aCons (eVar 0) aNil)) (eVar 2))))) (sRet (eCon (.bl false))) sNil) (sRet (eBlt allB (aCons (eLst (lLc [3] (itK (eVar 0)) (gNm 3) bYes (eCall rn_is_of (aCons (eVar 3) (aCons (eCon (.str "abcdefghijklmnopqrstuvwxyz0123456789")) aNil))))) aNil))))
def rn_are_words : List W → Sto → R W := fun ws st => noX (runS 4 dn_are_words ws st)
theorem ok_are_words {P : Program} {w : World} {K : PySem.W.Frag} {mg : Str → Option Value} {base : Heap} {ct : Nat → Value} {f : Addr} {fd : FuncData} (F : Fun K "are_words" "are_words" s_are_words f fd) (z_len : mg "len" = none) (z_tuple : mg "tuple" = none) (z_isinstance : mg "isinstance" = none) (m_SIGNS : ∃ t, mg "SIGNS" = some (.str "abcdefghijklmnopqrstuvwxyz0123456789" t)) (C_is_of : Cal P w K mg base ct "is_of" 2 1 rn_is_of) (z_all : mg "all" = none) :
    FnG P w K mg base CX0 2 f fd ["thing", "least", "most"] (spG ⟨K, w, mg⟩ ct 3 rn_are_words) := by
  refine fn_den0 F sc_are_words (fun cdv A outer s H E gd hr => ?_)
  exact (dss_cons (ds_if (PW.pt (dw_or (dt_not (dt_val (de_callB cb_isi (by rfl) z_isinstance bt_isinstance (da_cons (de_var 0) (da_cons (de_ty (by rfl) z_tuple bt_tuple) da_nil))))) (dw_or1 (dt_not (dt_chain op_leD op_leD (de_var 1) (de_callB cb_lenA (by rfl) z_len bt_len (da_cons (de_var 0) da_nil)) (de_var 2)))))) (dss_one (ds_ret de_bl)) dss_nil) (dss_one (ds_ret (de_callB (cb_all rfl) (by rfl) z_all bt_all (da_cons (de_val (df_lc (own := [("word", 3)]) rfl sc_are_words.nd (di_k (de_var 0)) (blkOk_by (own := [("word", 3)]) (N := ["thing", "least", "most", "word"]) (sc := defScope s_are_words) (by decide +kernel)) (fun _ _ _ _ _ => (dg_name (i := 3) sc_are_words.nd)) (fun _ _ _ _ _ => dts_nil) (fun _ _ _ _ _ => (de_calC C_is_of gd (Room.mono hr (by decide)) (by rfl) (aCons_len (aCons_len aNil_len)) (da_cons (de_var 3) (da_cons (de_globS (by rfl) m_SIGNS.choose_spec) da_nil)))))) da_nil)))))

abbrev s_is_host : Stmt := top 10
theorem sc_is_host : FnScope ["thing"] ["thing"] (defScope s_is_host) := ⟨rfl, rfl, rfl, by decide +kernel, rfl, by decide +kernel, by decide +kernel⟩
def dn_is_host : SD := (sRet (eCall rn_are_words (aCons (eVar 0) (aCons (eCon (.int 2)) (aCons (eCon (.int 5)) aNil)))))
def rn_is_host : List W → Sto → R W := fun ws st => noX (runS 1 dn_is_host ws st)
theorem ok_is_host {P : Program} {w : World} {K : PySem.W.Frag} {mg : Str → Option Value} {base : Heap} {ct : Nat → Value} {f : Addr} {fd : FuncData} (F : Fun K "is_host" "is_host" s_is_host f fd) (m_MOST_LABELS : ∃ t, mg "MOST_LABELS" = some (.int 5 t)) (m_LEAST_LABELS : ∃ t, mg "LEAST_LABELS" = some (.int 2 t)) (C_are_words : Cal P w K mg base ct "are_words" 3 2 rn_are_words) :
    FnG P w K mg base CX0 3 f fd ["thing"] (spG ⟨K, w, mg⟩ ct 1 rn_is_host) := by
  refine fn_den0 F sc_is_host (fun cdv A outer s H E gd hr => ?_)
  exact (dss_one (ds_ret (de_calC C_are_words gd (Room.mono hr (by decide)) (by rfl) (aCons_len (aCons_len (aCons_len aNil_len))) (da_cons (de_var 0) (da_cons (de_globI (by rfl) m_LEAST_LABELS.choose_spec) (da_cons (de_globI (by rfl) m_MOST_LABELS.choose_spec) da_nil))))))

abbrev s_is_path : Stmt := top 11
theorem sc_is_path : FnScope ["thing"] ["thing"] (defScope s_is_path) := ⟨rfl, rfl, rfl, by decide +kernel, rfl, by decide +kernel, by decide +kernel⟩
def dn_is_path : SD := (sRet (eCall rn_are_words (aCons (eVar 0) (aCons (eCon (.int 0)) (aCons (eCon (.int 4)) aNil)))))
def rn_is_path : List W → Sto → R W := fun ws st => noX (runS 1 dn_is_path ws st)
theorem ok_is_path {P : Program} {w : World} {K : PySem.W.Frag} {mg : Str → Option Value} {base : Heap} {ct : Nat → Value} {f : Addr} {fd : FuncData} (F : Fun K "is_path" "is_path" s_is_path f fd) (m_MOST_SEGMENTS : ∃ t, mg "MOST_SEGMENTS" = some (.int 4 t)) (C_are_words : Cal P w K mg base ct "are_words" 3 2 rn_are_words) :
    FnG P w K mg base CX0 3 f fd ["thing"] (spG ⟨K, w, mg⟩ ct 1 rn_is_path) := by
  refine fn_den0 F sc_is_path (fun cdv A outer s H E gd hr => ?_)
  exact (dss_one (ds_ret (de_calC C_are_words gd (Room.mono hr (by decide)) (by rfl) (aCons_len (aCons_len (aCons_len aNil_len))) (da_cons (de_var 0) (da_cons de_int (da_cons (de_globI (by rfl) m_MOST_SEGMENTS.choose_spec) da_nil))))))

abbrev s_is_address : Stmt := top 12
theorem sc_is_address : FnScope ["thing"] ["thing"] (defScope s_is_address) := ⟨rfl, rfl, rfl, by decide +kernel, rfl, by decide +kernel, by decide +kernel⟩
def dn_is_address : SD := (sSeq (sIf (bOr (bNot (tVal (eBlt isiB (aCons (eVar 0) (aCons (eCon (.ty "tuple")) aNil))))) (tVal (eBin neD (eBlt lenA (aCons (eVar 0) aNil)) (eCon (.int 3))))) (sRet (eCon (.bl false))) sNil) (sRet (eAnd (eCall rn_is_host (aCons (eBin ixD (eVar 0) (eCon (.int 0))) aNil)) (eAnd (eCall rn_is_path (aCons (eBin ixD (eVar 0) (eCon (.int 1))) aNil)) (eBlt isiB (aCons (eBin ixD (eVar 0) (eCon (.int 2))) (aCons (eCon (.ty "bool")) aNil)))))))
def rn_is_address : List W → Sto → R W := fun ws st => noX (runS 1 dn_is_address ws st)
theorem ok_is_address {P : Program} {w : World} {K : PySem.W.Frag} {mg : Str → Option Value} {base : Heap} {ct : Nat → Value} {f : Addr} {fd : FuncData} (F : Fun K "is_address" "is_address" s_is_address f fd) (z_len : mg "len" = none) (z_tuple : mg "tuple" = none) (z_isinstance : mg "isinstance" = none) (z_bool : mg "bool" = none) (C_is_path : Cal P w K mg base ct "is_path" 1 3 rn_is_path) (C_is_host : Cal P w K mg base ct "is_host" 1 3 rn_is_host) :
    FnG P w K mg base CX0 4 f fd ["thing"] (spG ⟨K, w, mg⟩ ct 1 rn_is_address) := by
  refine fn_den0 F sc_is_address (fun cdv A outer s H E gd hr => ?_)
  exact (dss_cons (ds_if (PW.pt (dw_or (dt_not (dt_val (de_callB cb_isi (by rfl) z_isinstance bt_isinstance (da_cons (de_var 0) (da_cons (de_ty (by rfl) z_tuple bt_tuple) da_nil))))) (dw_or1 (dt_cmp (op_neDD (hu64 hr)) (de_callB cb_lenA (by rfl) z_len bt_len (da_cons (de_var 0) da_nil)) de_int)))) (dss_one (ds_ret de_bl)) dss_nil) (dss_one (ds_ret (de_and (de_calC C_is_host gd (Room.mono hr (by decide)) (by rfl) (aCons_len aNil_len) (da_cons (de_ix (de_var 0) de_int) da_nil)) (de_and (de_calC C_is_path gd (Room.mono hr (by decide)) (by rfl) (aCons_len aNil_len) (da_cons (de_ix (de_var 0) de_int) da_nil)) (de_one (de_callB cb_isi (by rfl) z_isinstance bt_isinstance (da_cons (de_ix (de_var 0) de_int) (da_cons (de_ty (by rfl) z_bool bt_bool) da_nil)))))))))

abbrev s_is_within : Stmt := top 13
theorem sc_is_within : FnScope ["host", "other"] ["host", "other"] (defScope s_is_within) := ⟨rfl, rfl, rfl, by decide +kernel, rfl, by decide +kernel, by decide +kernel⟩
def dn_is_within : SD := (sRet (eAnd (eBin leD (eBlt lenA (aCons (eVar 1) aNil)) (eBlt lenA (aCons (eVar 0) aNil))) (eBin eqD (eSlc (eVar 0) (pSo (eBin subD (eBlt lenA (aCons (eVar 0) aNil)) (eBlt lenA (aCons (eVar 1) aNil)))) pNo) (eVar 1))))
def rn_is_within : List W → Sto → R W := fun ws st => noX (runS 2 dn_is_within ws st)
theorem ok_is_within {P : Program} {w : World} {K : PySem.W.Frag} {mg : Str → Option Value} {base : Heap} {ct : Nat → Value} {f : Addr} {fd : FuncData} (F : Fun K "is_within" "is_within" s_is_within f fd) (z_len : mg "len" = none) :
    FnG P w K mg base CX0 1 f fd ["host", "other"] (spG ⟨K, w, mg⟩ ct 2 rn_is_within) := by
  refine fn_den0 F sc_is_within (fun cdv A outer s H E gd hr => ?_)
  exact (dss_one (ds_ret (de_and (de_cmp op_leD (de_callB cb_lenA (by rfl) z_len bt_len (da_cons (de_var 1) da_nil)) (de_callB cb_lenA (by rfl) z_len bt_len (da_cons (de_var 0) da_nil))) (de_one (de_cmp (op_eqDD (hu64 hr)) (de_slc (de_var 0) (dp_so (de_bin op_subD (de_callB cb_lenA (by rfl) z_len bt_len (da_cons (de_var 0) da_nil)) (de_callB cb_lenA (by rfl) z_len bt_len (da_cons (de_var 1) da_nil)))) dp_no) (de_var 1))))))

abbrev s_is_below : Stmt := top 14
theorem sc_is_below : FnScope ["path", "other"] ["path", "other"] (defScope s_is_below) := ⟨rfl, rfl, rfl, by decide +kernel, rfl, by decide +kernel, by decide +kernel⟩
def dn_is_below : SD := (sRet (eBin eqD (eSlc (eVar 0) pNo (pSo (eBlt lenA (aCons (eVar 1) aNil)))) (eVar 1)))
def rn_is_below : List W → Sto → R W := fun ws st => noX (runS 2 dn_is_below ws st)
theorem ok_is_below {P : Program} {w : World} {K : PySem.W.Frag} {mg : Str → Option Value} {base : Heap} {ct : Nat → Value} {f : Addr} {fd : FuncData} (F : Fun K "is_below" "is_below" s_is_below f fd) (z_len : mg "len" = none) :
    FnG P w K mg base CX0 1 f fd ["path", "other"] (spG ⟨K, w, mg⟩ ct 2 rn_is_below) := by
  refine fn_den0 F sc_is_below (fun cdv A outer s H E gd hr => ?_)
  exact (dss_one (ds_ret (de_cmp (op_eqDD (hu64 hr)) (de_slc (de_var 0) dp_no (dp_so (de_callB cb_lenA (by rfl) z_len bt_len (da_cons (de_var 1) da_nil)))) (de_var 1))))

abbrev s_is_whole : Stmt := top 25
theorem sc_is_whole : FnScope ["thing", "least", "most"] ["thing", "least", "most"] (defScope s_is_whole) := ⟨rfl, rfl, rfl, by decide +kernel, rfl, by decide +kernel, by decide +kernel⟩
def dn_is_whole : SD := (sRet (eAnd (eBlt isiB (aCons (eVar 0) (aCons (eCon (.ty "int")) aNil))) (eAnd (eNot (eBlt isiB (aCons (eVar 0) (aCons (eCon (.ty "bool")) aNil)))) (eChain leD leD (eVar 1) (eVar 0) (eVar 2)))))
def rn_is_whole : List W → Sto → R W := fun ws st => noX (runS 3 dn_is_whole ws st)
theorem ok_is_whole {P : Program} {w : World} {K : PySem.W.Frag} {mg : Str → Option Value} {base : Heap} {ct : Nat → Value} {f : Addr} {fd : FuncData} (F : Fun K "is_whole" "is_whole" s_is_whole f fd) (z_bool : mg "bool" = none) (z_isinstance : mg "isinstance" = none) (z_int : mg "int" = none) :
    FnG P w K mg base CX0 1 f fd ["thing", "least", "most"] (spG ⟨K, w, mg⟩ ct 3 rn_is_whole) := by
  refine fn_den0 F sc_is_whole (fun cdv A outer s H E gd hr => ?_)
  exact (dss_one (ds_ret (de_and (de_callB cb_isi (by rfl) z_isinstance bt_isinstance (da_cons (de_var 0) (da_cons (de_ty (by rfl) z_int bt_int) da_nil))) (de_and (de_not (de_callB cb_isi (by rfl) z_isinstance bt_isinstance (da_cons (de_var 0) (da_cons (de_ty (by rfl) z_bool bt_bool) da_nil)))) (de_one (de_chain op_leD op_leD (de_var 1) (de_var 0) (de_var 2)))))))

abbrev s_is_value : Stmt := top 26
theorem sc_is_value : FnScope ["thing"] ["thing"] (defScope s_is_value) := ⟨rfl, rfl, rfl, by decide +kernel, rfl, by decide +kernel, by decide +kernel⟩
def dn_is_value : SD := (sRet (eCall rn_is_of (aCons (eVar 0) (aCons (eCon (.str "abcdefghijklmnopqrstuvwxyz0123456789")) aNil))))
def rn_is_value : List W → Sto → R W := fun ws st => noX (runS 1 dn_is_value ws st)
theorem ok_is_value {P : Program} {w : World} {K : PySem.W.Frag} {mg : Str → Option Value} {base : Heap} {ct : Nat → Value} {f : Addr} {fd : FuncData} (F : Fun K "is_value" "is_value" s_is_value f fd) (m_SIGNS : ∃ t, mg "SIGNS" = some (.str "abcdefghijklmnopqrstuvwxyz0123456789" t)) (C_is_of : Cal P w K mg base ct "is_of" 2 1 rn_is_of) :
    FnG P w K mg base CX0 2 f fd ["thing"] (spG ⟨K, w, mg⟩ ct 1 rn_is_value) := by
  refine fn_den0 F sc_is_value (fun cdv A outer s H E gd hr => ?_)
  exact (dss_one (ds_ret (de_calC C_is_of gd (Room.mono hr (by decide)) (by rfl) (aCons_len (aCons_len aNil_len)) (da_cons (de_var 0) (da_cons (de_globS (by rfl) m_SIGNS.choose_spec) da_nil)))))

abbrev s_is_write : Stmt := top 27
theorem sc_is_write : FnScope ["thing"] ["thing"] (defScope s_is_write) := ⟨rfl, rfl, rfl, by decide +kernel, rfl, by decide +kernel, by decide +kernel⟩
def dn_is_write : SD := (sSeq (sIf (bOr (bNot (tVal (eBlt isiB (aCons (eVar 0) (aCons (eCon (.ty "tuple")) aNil))))) (bOr (tVal (eBin neD (eBlt lenA (aCons (eVar 0) aNil)) (eCon (.int 5)))) (bNot (tVal (eCall rn_is_name (aCons (eBin ixD (eVar 0) (eCon (.int 0))) aNil)))))) (sRet (eCon (.bl false))) sNil) (sSeq (sIf (bAnd (tVal (eBin isNotD (eBin ixD (eVar 0) (eCon (.int 1))) (eCon .non))) (bNot (tVal (eCall rn_is_value (aCons (eBin ixD (eVar 0) (eCon (.int 1))) aNil))))) (sRet (eCon (.bl false))) sNil) (sSeq (sIf (bAnd (tVal (eBin isNotD (eBin ixD (eVar 0) (eCon (.int 2))) (eCon .non))) (bNot (tVal (eCall rn_is_host (aCons (eBin ixD (eVar 0) (eCon (.int 2))) aNil))))) (sRet (eCon (.bl false))) sNil) (sSeq (sIf (bAnd (tVal (eBin isNotD (eBin ixD (eVar 0) (eCon (.int 3))) (eCon .non))) (bNot (tVal (eCall rn_is_path (aCons (eBin ixD (eVar 0) (eCon (.int 3))) aNil))))) (sRet (eCon (.bl false))) sNil) (sRet (eBlt isiB (aCons (eBin ixD (eVar 0) (eCon (.int 4))) (aCons (eCon (.ty "bool")) aNil))))))))
def rn_is_write : List W → Sto → R W := fun ws st => noX (runS 1 dn_is_write ws st)
theorem ok_is_write {P : Program} {w : World} {K : PySem.W.Frag} {mg : Str → Option Value} {base : Heap} {ct : Nat → Value} {f : Addr} {fd : FuncData} (F : Fun K "is_write" "is_write" s_is_write f fd) (C_is_name : Cal P w K mg base ct "is_name" 1 2 rn_is_name) (z_len : mg "len" = none) (z_tuple : mg "tuple" = none) (z_isinstance : mg "isinstance" = none) (C_is_value : Cal P w K mg base ct "is_value" 1 2 rn_is_value) (C_is_host : Cal P w K mg base ct "is_host" 1 3 rn_is_host) (C_is_path : Cal P w K mg base ct "is_path" 1 3 rn_is_path) (z_bool : mg "bool" = none) :
    FnG P w K mg base CX0 4 f fd ["thing"] (spG ⟨K, w, mg⟩ ct 1 rn_is_write) := by
  refine fn_den0 F sc_is_write (fun cdv A outer s H E gd hr => ?_)
  exact (dss_cons (ds_if (PW.pt (dw_or (dt_not (dt_val (de_callB cb_isi (by rfl) z_isinstance bt_isinstance (da_cons (de_var 0) (da_cons (de_ty (by rfl) z_tuple bt_tuple) da_nil))))) (dw_or (dt_cmp (op_neDD (hu64 hr)) (de_callB cb_lenA (by rfl) z_len bt_len (da_cons (de_var 0) da_nil)) de_int) (dw_or1 (dt_not (dt_val (de_calC C_is_name gd (Room.mono hr (by decide)) (by rfl) (aCons_len aNil_len) (da_cons (de_ix (de_var 0) de_int) da_nil)))))))) (dss_one (ds_ret de_bl)) dss_nil) (dss_cons (ds_if (PW.pt (dw_and (dt_cmp op_isNotDD (de_ix (de_var 0) de_int) de_non) (dw_and1 (dt_not (dt_val (de_calC C_is_value gd (Room.mono hr (by decide)) (by rfl) (aCons_len aNil_len) (da_cons (de_ix (de_var 0) de_int) da_nil))))))) (dss_one (ds_ret de_bl)) dss_nil) (dss_cons (ds_if (PW.pt (dw_and (dt_cmp op_isNotDD (de_ix (de_var 0) de_int) de_non) (dw_and1 (dt_not (dt_val (de_calC C_is_host gd (Room.mono hr (by decide)) (by rfl) (aCons_len aNil_len) (da_cons (de_ix (de_var 0) de_int) da_nil))))))) (dss_one (ds_ret de_bl)) dss_nil) (dss_cons (ds_if (PW.pt (dw_and (dt_cmp op_isNotDD (de_ix (de_var 0) de_int) de_non) (dw_and1 (dt_not (dt_val (de_calC C_is_path gd (Room.mono hr (by decide)) (by rfl) (aCons_len aNil_len) (da_cons (de_ix (de_var 0) de_int) da_nil))))))) (dss_one (ds_ret de_bl)) dss_nil) (dss_one (ds_ret (de_callB cb_isi (by rfl) z_isinstance bt_isinstance (da_cons (de_ix (de_var 0) de_int) (da_cons (de_ty (by rfl) z_bool bt_bool) da_nil)))))))))

abbrev s_need_site : Stmt := top 28
theorem sc_need_site : FnScope ["thing", "number", "page", "place", "write"] ["thing"] (defScope s_need_site) := ⟨rfl, rfl, rfl, by decide +kernel, rfl, by decide +kernel, by decide +kernel⟩
def dn_need_site : SD := (sSeq (sIf (bOr (bNot (tVal (eBlt isiB (aCons (eVar 0) (aCons (eCon (.ty "tuple")) aNil))))) (bNot (tVal (eChain leD leD (eCon (.int 1)) (eBlt lenA (aCons (eVar 0) aNil)) (eCon (.int 5)))))) sNo sNil) (sSeq (sFor (itEnum (aCons (eVar 0) aNil)) (gTp 2 (gsCons (gNm 1) (gsCons (gNm 2) gsNil))) (sSeq (sIf (bOr (bNot (tVal (eBlt isiB (aCons (eVar 2) (aCons (eCon (.ty "tuple")) aNil))))) (bOr (tVal (eBin neD (eBlt lenA (aCons (eVar 2) aNil)) (eCon (.int 2)))) (bNot (tVal (eCall rn_is_address (aCons (eBin ixD (eVar 2) (eCon (.int 0))) aNil)))))) sNo sNil) (sSeq (sIf (bOr (bNot (tVal (eBlt isiB (aCons (eBin ixD (eVar 2) (eCon (.int 1))) (aCons (eCon (.ty "tuple")) aNil))))) (tVal (eBin gtD (eBlt lenA (aCons (eBin ixD (eVar 2) (eCon (.int 1))) aNil)) (eCon (.int 5))))) sNo sNil) (sFor (itEnum (aCons (eBin ixD (eVar 2) (eCon (.int 1))) aNil)) (gTp 2 (gsCons (gNm 3) (gsCons (gNm 4) gsNil))) (sIf (bNot (tVal (eCall rn_is_write (aCons (eVar 4) aNil)))) sNo sNil))))) (sRet (eVar 0))))
def rn_need_site : List W → Sto → R W := fun ws st => noX (runS 5 dn_need_site ws st)
theorem ok_need_site {P : Program} {w : World} {K : PySem.W.Frag} {mg : Str → Option Value} {base : Heap} {ct : Nat → Value} {f : Addr} {fd : FuncData} (F : Fun K "need_site" "need_site" s_need_site f fd) (z_len : mg "len" = none) (m_MOST_PAGES : ∃ t, mg "MOST_PAGES" = some (.int 5 t)) (z_tuple : mg "tuple" = none) (z_isinstance : mg "isinstance" = none) (z_enumerate : mg "enumerate" = none) (C_is_address : Cal P w K mg base ct "is_address" 1 4 rn_is_address) (m_MOST_WRITES : ∃ t, mg "MOST_WRITES" = some (.int 5 t)) (C_is_write : Cal P w K mg base ct "is_write" 1 4 rn_is_write) :
    FnG P w K mg base CX0 5 f fd ["thing"] (spG ⟨K, w, mg⟩ ct 1 rn_need_site) := by
  refine fn_den0 F sc_need_site (fun cdv A outer s H E gd hr => ?_)
  exact (dss_cons (ds_if (PW.pt (dw_or (dt_not (dt_val (de_callB cb_isi (by rfl) z_isinstance bt_isinstance (da_cons (de_var 0) (da_cons (de_ty (by rfl) z_tuple bt_tuple) da_nil))))) (dw_or1 (dt_not (dt_chain op_leD op_leD de_int (de_callB cb_lenA (by rfl) z_len bt_len (da_cons (de_var 0) da_nil)) (de_globI (by rfl) m_MOST_PAGES.choose_spec)))))) (dss_one ds_no) dss_nil) (dss_cons (ds_for PassesOwn.never rfl (di_enum (by rfl) z_enumerate (de_var 0)) (dg_tup (n := 2) rfl (dgs_cons (dg_name (i := 1) sc_need_site.nd) (dgs_cons (dg_name (i := 2) sc_need_site.nd) dgs_nil))) (dss_cons (ds_if (PW.pt (dw_or (dt_not (dt_val (de_callB cb_isi (by rfl) z_isinstance bt_isinstance (da_cons (de_var 2) (da_cons (de_ty (by rfl) z_tuple bt_tuple) da_nil))))) (dw_or (dt_cmp (op_neDD (hu64 hr)) (de_callB cb_lenA (by rfl) z_len bt_len (da_cons (de_var 2) da_nil)) de_int) (dw_or1 (dt_not (dt_val (de_calC C_is_address gd (Room.mono hr (by decide)) (by rfl) (aCons_len aNil_len) (da_cons (de_ix (de_var 2) de_int) da_nil)))))))) (dss_one ds_no) dss_nil) (dss_cons (ds_if (PW.pt (dw_or (dt_not (dt_val (de_callB cb_isi (by rfl) z_isinstance bt_isinstance (da_cons (de_ix (de_var 2) de_int) (da_cons (de_ty (by rfl) z_tuple bt_tuple) da_nil))))) (dw_or1 (dt_cmp op_gtD (de_callB cb_lenA (by rfl) z_len bt_len (da_cons (de_ix (de_var 2) de_int) da_nil)) (de_globI (by rfl) m_MOST_WRITES.choose_spec))))) (dss_one ds_no) dss_nil) (dss_one (ds_for PassesOwn.never rfl (di_enum (by rfl) z_enumerate (de_ix (de_var 2) de_int)) (dg_tup (n := 2) rfl (dgs_cons (dg_name (i := 3) sc_need_site.nd) (dgs_cons (dg_name (i := 4) sc_need_site.nd) dgs_nil))) (dss_one (ds_if (dt_not (dt_val (de_calC C_is_write gd (Room.mono hr (by decide)) (by rfl) (aCons_len aNil_len) (da_cons (de_var 4) da_nil)))) (dss_one ds_no) dss_nil))))))) (dss_one (ds_ret (de_var 0)))))

abbrev s_need_page : Stmt := top 29
theorem sc_need_page : FnScope ["site", "page"] ["site", "page"] (defScope s_need_page) := ⟨rfl, rfl, rfl, by decide +kernel, rfl, by decide +kernel, by decide +kernel⟩
def dn_need_page : SD := (sSeq (sIf (bNot (tVal (eCall rn_is_whole (aCons (eVar 1) (aCons (eCon (.int 0)) (aCons (eBin subD (eBlt lenA (aCons (eVar 0) aNil)) (eCon (.int 1))) aNil)))))) sNo sNil) (sRet (eVar 1)))
def rn_need_page : List W → Sto → R W := fun ws st => noX (runS 2 dn_need_page ws st)
theorem ok_need_page {P : Program} {w : World} {K : PySem.W.Frag} {mg : Str → Option Value} {base : Heap} {ct : Nat → Value} {f : Addr} {fd : FuncData} (F : Fun K "need_page" "need_page" s_need_page f fd) (z_len : mg "len" = none) (C_is_whole : Cal P w K mg base ct "is_whole" 3 1 rn_is_whole) :
    FnG P w K mg base CX0 2 f fd ["site", "page"] (spG ⟨K, w, mg⟩ ct 2 rn_need_page) := by
  refine fn_den0 F sc_need_page (fun cdv A outer s H E gd hr => ?_)
  exact (dss_cons (ds_if (dt_not (dt_val (de_calC C_is_whole gd (Room.mono hr (by decide)) (by rfl) (aCons_len (aCons_len (aCons_len aNil_len))) (da_cons (de_var 1) (da_cons de_int (da_cons (de_bin op_subD (de_callB cb_lenA (by rfl) z_len bt_len (da_cons (de_var 0) da_nil)) de_int) da_nil)))))) (dss_one ds_no) dss_nil) (dss_one (ds_ret (de_var 1))))

abbrev s_need_name : Stmt := top 30
theorem sc_need_name : FnScope ["thing"] ["thing"] (defScope s_need_name) := ⟨rfl, rfl, rfl, by decide +kernel, rfl, by decide +kernel, by decide +kernel⟩
def dn_need_name : SD := (sSeq (sIf (bNot (tVal (eCall rn_is_name (aCons (eVar 0) aNil)))) sNo sNil) (sRet (eVar 0)))
def rn_need_name : List W → Sto → R W := fun ws st => noX (runS 1 dn_need_name ws st)
theorem ok_need_name {P : Program} {w : World} {K : PySem.W.Frag} {mg : Str → Option Value} {base : Heap} {ct : Nat → Value} {f : Addr} {fd : FuncData} (F : Fun K "need_name" "need_name" s_need_name f fd) (C_is_name : Cal P w K mg base ct "is_name" 1 2 rn_is_name) :
    FnG P w K mg base CX0 3 f fd ["thing"] (spG ⟨K, w, mg⟩ ct 1 rn_need_name) := by
  refine fn_den0 F sc_need_name (fun cdv A outer s H E gd hr => ?_)
  exact (dss_cons (ds_if (dt_not (dt_val (de_calC C_is_name gd (Room.mono hr (by decide)) (by rfl) (aCons_len aNil_len) (da_cons (de_var 0) da_nil)))) (dss_one ds_no) dss_nil) (dss_one (ds_ret (de_var 0))))

abbrev s_key_in : Stmt := top 31
theorem sc_key_in : FnScope ["address", "write", "own", "host", "path", "is_secure", "name", "value", "domain", "folder", "is_guarded"] ["address", "write"] (defScope s_key_in) := ⟨rfl, rfl, rfl, by decide +kernel, rfl, by decide +kernel, by decide +kernel⟩
def dn_key_in : SD := (sSeq (sAsg (eVar 0) (gTp 3 (gsCons (gNm 3) (gsCons (gNm 4) (gsCons (gNm 5) gsNil))))) (sSeq (sAsg (eVar 1) (gTp 5 (gsCons (gNm 6) (gsCons (gNm 7) (gsCons (gNm 8) (gsCons (gNm 9) (gsCons (gNm 10) gsNil))))))) (sSeq (sIf (bOr (bAnd (tVal (eVar 10)) (bNot (tVal (eVar 5)))) (bAnd (tVal (eBin isNotD (eVar 8) (eCon .non))) (bNot (tVal (eCall rn_is_within (aCons (eVar 3) (aCons (eVar 8) aNil))))))) (sRet (eCon .non)) sNil) (sSeq (sSet 2 (eIf (tVal (eBin isD (eVar 9) (eCon .non))) (eSlc (eVar 4) pNo (pSo (eNeg (eCon (.int 1))))) (eVar 9))) (sRet (eTup (aCons (eVar 6) (aCons (eIf (tVal (eBin isD (eVar 8) (eCon .non))) (eVar 3) (eVar 8)) (aCons (eVar 2) (aCons (eBin isD (eVar 8) (eCon .non)) aNil))))))))))
def rn_key_in : List W → Sto → R W := fun ws st => noX (runS 11 dn_key_in ws st)
theorem ok_key_in {P : Program} {w : World} {K : PySem.W.Frag} {mg : Str → Option Value} {base : Heap} {ct : Nat → Value} {f : Addr} {fd : FuncData} (F : Fun K "key_in" "key_in" s_key_in f fd) (C_is_within : Cal P w K mg base ct "is_within" 2 1 rn_is_within) :
    FnG P w K mg base CX0 2 f fd ["address", "write"] (spG ⟨K, w, mg⟩ ct 2 rn_key_in) := by
  refine fn_den0 F sc_key_in (fun cdv A outer s H E gd hr => ?_)
  exact (dss_cons (ds_asg (de_var 0) (dg_tup (n := 3) rfl (dgs_cons (dg_name (i := 3) sc_key_in.nd) (dgs_cons (dg_name (i := 4) sc_key_in.nd) (dgs_cons (dg_name (i := 5) sc_key_in.nd) dgs_nil))))) (dss_cons (ds_asg (de_var 1) (dg_tup (n := 5) rfl (dgs_cons (dg_name (i := 6) sc_key_in.nd) (dgs_cons (dg_name (i := 7) sc_key_in.nd) (dgs_cons (dg_name (i := 8) sc_key_in.nd) (dgs_cons (dg_name (i := 9) sc_key_in.nd) (dgs_cons (dg_name (i := 10) sc_key_in.nd) dgs_nil))))))) (dss_cons (ds_if (PW.pt (dw_or (PW.pt (dw_and (dt_val (de_var 10)) (dw_and1 (dt_not (dt_val (de_var 5)))))) (dw_or1 (PW.pt (dw_and (dt_cmp op_isNotDD (de_var 8) de_non) (dw_and1 (dt_not (dt_val (de_calC C_is_within gd (Room.mono hr (by decide)) (by rfl) (aCons_len (aCons_len aNil_len)) (da_cons (de_var 3) (da_cons (de_var 8) da_nil))))))))))) (dss_one (ds_ret de_non)) dss_nil) (dss_cons (ds_set (i := 2) sc_key_in.nd (de_if (dt_cmp op_isDD (de_var 9) de_non) (de_slc (de_var 4) dp_no (dp_so (de_neg de_int))) (de_var 9))) (dss_one (ds_ret (de_tup (da_cons (de_var 6) (da_cons (de_if (dt_cmp op_isDD (de_var 8) de_non) (de_var 3) (de_var 8)) (da_cons (de_var 2) (da_cons (de_cmp op_isDD (de_var 8) de_non) da_nil)))))))))))

abbrev s_taken_in : Stmt := top 32
theorem sc_taken_in : FnScope ["page", "found", "write", "key"] ["page"] (defScope s_taken_in) := ⟨rfl, rfl, rfl, by decide +kernel, rfl, by decide +kernel, by decide +kernel⟩
def dn_taken_in : SD := (sSeq (sSet 1 (eNew (aLim aNil))) (sSeq (sFor (itK (eBin ixD (eVar 0) (eCon (.int 1)))) (gNm 2) (sSeq (sSet 3 (eCall rn_key_in (aCons (eBin ixD (eVar 0) (eCon (.int 0))) (aCons (eVar 2) aNil)))) (sIf (tVal (eBin isNotD (eVar 3) (eCon .non))) (sExpr (eApp (eVar 1) (aCons (eTup (aCons (eVar 3) (aCons (eBin ixD (eVar 2) (eCon (.int 1))) (aCons (eBin ixD (eVar 2) (eCon (.int 4))) aNil)))) aNil))) sNil))) (sRet (eFrz (eVar 1)))))
def rn_taken_in : List W → Sto → R W := fun ws st => noX (runS 4 dn_taken_in ws st)
theorem ok_taken_in {P : Program} {w : World} {K : PySem.W.Frag} {mg : Str → Option Value} {base : Heap} {ct : Nat → Value} {f : Addr} {fd : FuncData} (F : Fun K "taken_in" "taken_in" s_taken_in f fd) (C_key_in : Cal P w K mg base ct "key_in" 2 2 rn_key_in) :
    FnG P w K mg base CX0 3 f fd ["page"] (spG ⟨K, w, mg⟩ ct 1 rn_taken_in) := by
  refine fn_den0 F sc_taken_in (fun cdv A outer s H E gd hr => ?_)
  exact (dss_cons (ds_set (i := 1) sc_taken_in.nd (de_new (df_lst da_nil))) (dss_cons (ds_for PassesOwn.never rfl (di_k (de_ix (de_var 0) de_int)) (dg_name (i := 2) sc_taken_in.nd) (dss_cons (ds_set (i := 3) sc_taken_in.nd (de_calC C_key_in gd (Room.mono hr (by decide)) (by rfl) (aCons_len (aCons_len aNil_len)) (da_cons (de_ix (de_var 0) de_int) (da_cons (de_var 2) da_nil)))) (dss_one (ds_if (dt_cmp op_isNotDD (de_var 3) de_non) (dss_one (ds_expr (de_app (de_var 1) (da_cons (de_tup (da_cons (de_var 3) (da_cons (de_ix (de_var 2) de_int) (da_cons (de_ix (de_var 2) de_int) da_nil)))) da_nil)))) dss_nil)))) (dss_one (ds_ret (de_frz (de_var 1))))))

abbrev s_effects_in : Stmt := top 33
theorem sc_effects_in : FnScope ["page", "found", "key", "value", "is_guarded"] ["page"] (defScope s_effects_in) := ⟨rfl, rfl, rfl, by decide +kernel, rfl, by decide +kernel, by decide +kernel⟩
def dn_effects_in : SD := (sSeq (sSet 1 (eFrzK (eCp (.kd []) [2, 3, 4] (itK (eCall rn_taken_in (aCons (eVar 0) aNil))) (gTp 3 (gsCons (gNm 2) (gsCons (gNm 3) (gsCons (gNm 4) gsNil)))) bYes (uPut (eVar 2) (eIf (tVal (eBin isD (eVar 3) (eCon .non))) (eCon .non) (eTup (aCons (eVar 3) (aCons (eVar 4) aNil)))))))) (sRet (eFrzK (eCp (.kd []) [2] (itK (eLst (lBlt sortF (aCons (eVar 1) aNil)))) (gNm 2) bYes (uPut (eVar 2) (eBin ix2 (eVar 1) (eVar 2)))))))
def rn_effects_in : List W → Sto → R W := fun ws st => noX (runS 5 dn_effects_in ws st)
theorem ok_effects_in {P : Program} {w : World} {K : PySem.W.Frag} {mg : Str → Option Value} {base : Heap} {ct : Nat → Value} {f : Addr} {fd : FuncData} (F : Fun K "effects_in" "effects_in" s_effects_in f fd) (C_taken_in : Cal P w K mg base ct "taken_in" 1 3 rn_taken_in) (z_sorted : mg "sorted" = none) :
    FnG P w K mg base CX0 4 f fd ["page"] (spG ⟨K, w, mg⟩ ct 1 rn_effects_in) := by
  refine fn_den0 F sc_effects_in (fun cdv A outer s H E gd hr => ?_)
  exact (dss_cons (ds_set (i := 1) sc_effects_in.nd (de_frzK (de_dc (own := [("key", 2), ("value", 3), ("is_guarded", 4)])  rfl (hu65 hr) sc_effects_in.nd (di_k (de_calC C_taken_in gd (Room.mono hr (by decide)) (by rfl) (aCons_len aNil_len) (da_cons (de_var 0) da_nil))) (blkOk_by (own := [("key", 2), ("value", 3), ("is_guarded", 4)]) (N := ["page", "found", "key", "value", "is_guarded"]) (sc := defScope s_effects_in) (by decide +kernel))  (fun _ _ _ _ _ => (dg_tup (n := 3) rfl (dgs_cons (dg_name (i := 2) sc_effects_in.nd) (dgs_cons (dg_name (i := 3) sc_effects_in.nd) (dgs_cons (dg_name (i := 4) sc_effects_in.nd) dgs_nil))))) (fun _ _ _ _ _ => dts_nil) (fun _ _ _ _ _ => (de_var 2)) (fun _ _ _ _ _ => (de_if (dt_cmp op_isDD (de_var 3) de_non) de_non (de_tup (da_cons (de_var 3) (da_cons (de_var 4) da_nil)))))))) (dss_one (ds_ret (de_frzK (de_dc (own := [("key", 2)])  rfl (hu65 hr) sc_effects_in.nd (di_k (de_val (df_callB (cf_sorted rfl (hu65 hr)) (by rfl) z_sorted bt_sorted (da_cons (de_var 1) da_nil)))) (blkOk_by (own := [("key", 2)]) (N := ["page", "found", "key", "value", "is_guarded"]) (sc := defScope s_effects_in) (by decide +kernel))  (fun _ _ _ _ _ => (dg_name (i := 2) sc_effects_in.nd)) (fun _ _ _ _ _ => dts_nil) (fun _ _ _ _ _ => (de_var 2)) (fun _ _ _ _ _ => (de_ix2 (hu65 hr) (de_var 1) (de_var 2))))))))

abbrev s_keys_in : Stmt := top 34
theorem sc_keys_in : FnScope ["site", "page", "key"] ["site"] (defScope s_keys_in) := ⟨rfl, rfl, rfl, by decide +kernel, rfl, by decide +kernel, by decide +kernel⟩
def dn_keys_in : SD := (sRet (eLst (lBlt sortF (aCons (eCp (.set []) [1, 2] (itK (eVar 0)) (gNm 1) bYes (uIn [2] (itK (eCall rn_effects_in (aCons (eVar 1) aNil))) (gNm 2) bYes (uAdd (eVar 2)))) aNil))))
def rn_keys_in : List W → Sto → R W := fun ws st => noX (runS 3 dn_keys_in ws st)
theorem ok_keys_in {P : Program} {w : World} {K : PySem.W.Frag} {mg : Str → Option Value} {base : Heap} {ct : Nat → Value} {f : Addr} {fd : FuncData} (F : Fun K "keys_in" "keys_in" s_keys_in f fd) (C_effects_in : Cal P w K mg base ct "effects_in" 1 4 rn_effects_in) (z_sorted : mg "sorted" = none) :
    FnG P w K mg base CX0 5 f fd ["site"] (spG ⟨K, w, mg⟩ ct 1 rn_keys_in) := by
  refine fn_den0 F sc_keys_in (fun cdv A outer s H E gd hr => ?_)
  exact (dss_one (ds_ret (de_val (df_callB (cf_sorted rfl (hu65 hr)) (by rfl) z_sorted bt_sorted (da_cons (de_sc2 (own := [("page", 1), ("key", 2)]) (vs1 := [2]) rfl (hu65 hr) sc_keys_in.nd (di_k (de_var 0)) (blkOk_by (own := [("page", 1), ("key", 2)]) (N := ["site", "page", "key"]) (sc := defScope s_keys_in) (by decide +kernel)) (by decide) (fun _ _ _ _ _ => (dg_mono (dg_name (i := 1) sc_keys_in.nd) (by decide))) (fun _ _ _ _ _ => dts_nil) (fun _ _ _ _ _ => (di_k (de_calC C_effects_in gd (Room.mono hr (by decide)) (by rfl) (aCons_len aNil_len) (da_cons (de_var 1) da_nil)))) (fun _ _ _ _ _ => (dg_mono (dg_name (i := 2) sc_keys_in.nd) (by decide))) (fun _ _ _ _ _ => dts_nil) (fun _ _ _ _ _ => (de_var 2))) da_nil)))))

abbrev s_rank : Stmt := top 36
theorem sc_rank : FnScope ["kept", "name", "host", "folder", "is_alone"] ["kept"] (defScope s_rank) := ⟨rfl, rfl, rfl, by decide +kernel, rfl, by decide +kernel, by decide +kernel⟩
def dn_rank : SD := (sSeq (sAsg (eBin ixD (eVar 0) (eCon (.int 0))) (gTp 4 (gsCons (gNm 1) (gsCons (gNm 2) (gsCons (gNm 3) (gsCons (gNm 4) gsNil)))))) (sRet (eTup (aCons (eVar 1) (aCons (eNeg (eBlt lenA (aCons (eVar 3) aNil))) (aCons (eVar 3) aNil))))))
def rn_rank : List W → Sto → R W := fun ws st => noX (runS 5 dn_rank ws st)
theorem ok_rank {P : Program} {w : World} {K : PySem.W.Frag} {mg : Str → Option Value} {base : Heap} {ct : Nat → Value} {f : Addr} {fd : FuncData} (F : Fun K "rank" "rank" s_rank f fd) (z_len : mg "len" = none) :
    FnG P w K mg base CX0 1 f fd ["kept"] (spG ⟨K, w, mg⟩ ct 1 rn_rank) := by
  refine fn_den0 F sc_rank (fun cdv A outer s H E gd hr => ?_)
  exact (dss_cons (ds_asg (de_ix (de_var 0) de_int) (dg_tup (n := 4) rfl (dgs_cons (dg_name (i := 1) sc_rank.nd) (dgs_cons (dg_name (i := 2) sc_rank.nd) (dgs_cons (dg_name (i := 3) sc_rank.nd) (dgs_cons (dg_name (i := 4) sc_rank.nd) dgs_nil)))))) (dss_one (ds_ret (de_tup (da_cons (de_var 1) (da_cons (de_neg (de_callB cb_lenA (by rfl) z_len bt_len (da_cons (de_var 3) da_nil))) (da_cons (de_var 3) da_nil)))))))

abbrev s_need_address : Stmt := top 37
theorem sc_need_address : FnScope ["thing"] ["thing"] (defScope s_need_address) := ⟨rfl, rfl, rfl, by decide +kernel, rfl, by decide +kernel, by decide +kernel⟩
def dn_need_address : SD := (sSeq (sIf (bNot (tVal (eCall rn_is_address (aCons (eVar 0) aNil)))) sNo sNil) (sRet (eVar 0)))
def rn_need_address : List W → Sto → R W := fun ws st => noX (runS 1 dn_need_address ws st)
theorem ok_need_address {P : Program} {w : World} {K : PySem.W.Frag} {mg : Str → Option Value} {base : Heap} {ct : Nat → Value} {f : Addr} {fd : FuncData} (F : Fun K "need_address" "need_address" s_need_address f fd) (C_is_address : Cal P w K mg base ct "is_address" 1 4 rn_is_address) :
    FnG P w K mg base CX0 5 f fd ["thing"] (spG ⟨K, w, mg⟩ ct 1 rn_need_address) := by
  refine fn_den0 F sc_need_address (fun cdv A outer s H E gd hr => ?_)
  exact (dss_cons (ds_if (dt_not (dt_val (de_calC C_is_address gd (Room.mono hr (by decide)) (by rfl) (aCons_len aNil_len) (da_cons (de_var 0) da_nil)))) (dss_one ds_no) dss_nil) (dss_one (ds_ret (de_var 0))))

abbrev s_after : Stmt := top 38
theorem sc_after : FnScope ["jar", "page", "found", "key", "value", "is_guarded", "places", "place", "kept"] ["jar", "page"] (defScope s_after) := ⟨rfl, rfl, rfl, by decide +kernel, rfl, by decide +kernel, by decide +kernel⟩
def dn_after : SD := (sSeq (sSet 2 (eNew (lBlt listF (aCons (eVar 0) aNil)))) (sSeq (sFor (itK (eCall rn_taken_in (aCons (eVar 1) aNil))) (gTp 3 (gsCons (gNm 3) (gsCons (gNm 4) (gsCons (gNm 5) gsNil)))) (sSeq (sSet 6 (eLst (lLcR [7, 8] (nEnum (aCons (eVar 2) aNil)) (gTp 2 (gsCons (gNm 7) (gsCons (gNm 8) gsNil))) (tVal (eBin eqD (eBin ixD (eVar 8) (eCon (.int 0))) (eVar 3))) (eVar 7)))) (sIf (tVal (eBin isD (eVar 4) (eCon .non))) (sSet 2 (eNew (lLc [8] (itE (eFrz (eVar 2))) (gNm 8) (tVal (eBin neD (eBin ixD (eVar 8) (eCon (.int 0))) (eVar 3))) (eVar 8)))) (sIf (tVal (eBin neD (eVar 6) (eLst (aLim aNil)))) (sLPut (eVar 2) (eBin ixD (eVar 6) (eCon (.int 0))) (eTup (aCons (eVar 3) (aCons (eVar 4) (aCons (eVar 5) aNil))))) (sSet 2 (eNew (lSortK rn_rank (aCons (eLst (lCat (eVar 2) (eLst (aLim (aCons (eTup (aCons (eVar 3) (aCons (eVar 4) (aCons (eVar 5) aNil)))) aNil))))) aNil)))))))) (sRet (eBlt tupleB (aCons (eVar 2) aNil)))))
def rn_after : List W → Sto → R W := fun ws st => noX (runS 9 dn_after ws st)
theorem ok_after {P : Program} {w : World} {K : PySem.W.Frag} {mg : Str → Option Value} {base : Heap} {ct : Nat → Value} {f : Addr} {fd : FuncData} (F : Fun K "after" "after" s_after f fd) (z_list : mg "list" = none) (C_taken_in : Cal P w K mg base ct "taken_in" 1 3 rn_taken_in) (z_enumerate : mg "enumerate" = none) (z_sorted : mg "sorted" = none) (C_rank : Cal P w K mg base ct "rank" 1 1 rn_rank) (z_tuple : mg "tuple" = none) :
    FnG P w K mg base CX0 4 f fd ["jar", "page"] (spG ⟨K, w, mg⟩ ct 2 rn_after) := by
  refine fn_den0 F sc_after (fun cdv A outer s H E gd hr => ?_)
  exact (dss_cons (ds_set (i := 2) sc_after.nd (de_new (df_callT cf_list (by rfl) z_list bt_list (da_cons (de_var 0) da_nil)))) (dss_cons (ds_for PassesOwn.never rfl (di_k (de_calC C_taken_in gd (Room.mono hr (by decide)) (by rfl) (aCons_len aNil_len) (da_cons (de_var 1) da_nil))) (dg_tup (n := 3) rfl (dgs_cons (dg_name (i := 3) sc_after.nd) (dgs_cons (dg_name (i := 4) sc_after.nd) (dgs_cons (dg_name (i := 5) sc_after.nd) dgs_nil)))) (dss_cons (ds_setLcR (i := 6) (own := [("place", 7), ("kept", 8)]) rfl sc_after.nd rfl rfl (sw_true rfl rfl rfl (by decide +kernel)) (dn_enum (by rfl) z_enumerate (de_var 2)) (blkOk_by (own := [("place", 7), ("kept", 8)]) (N := ["jar", "page", "found", "key", "value", "is_guarded", "places", "place", "kept"]) (sc := defScope s_after) (by decide +kernel)) (fun _ _ _ _ _ => (dg_tup (n := 2) rfl (dgs_cons (dg_name (i := 7) sc_after.nd) (dgs_cons (dg_name (i := 8) sc_after.nd) dgs_nil)))) (fun _ _ _ _ _ => (dts_one (dt_cmp (op_eqDD (hu64 hr)) (de_ix (de_var 8) de_int) (de_var 3)))) (fun _ _ _ _ _ => (de_var 7))) (dss_one (ds_if (dt_cmp op_isDD (de_var 4) de_non) (dss_one (ds_setLcN (i := 2) (own := [("kept", 8)]) rfl sc_after.nd rfl rfl (sw_true rfl rfl rfl (by decide +kernel)) (di_e (de_frz (de_var 2))) (blkOk_by (own := [("kept", 8)]) (N := ["jar", "page", "found", "key", "value", "is_guarded", "places", "place", "kept"]) (sc := defScope s_after) (by decide +kernel)) (fun _ _ _ _ _ => (dg_name (i := 8) sc_after.nd)) (fun _ _ _ _ _ => (dts_one (dt_cmp (op_neDD (hu64 hr)) (de_ix (de_var 8) de_int) (de_var 3)))) (fun _ _ _ _ _ => (de_var 8)))) (dss_one (ds_if (dt_cmp (op_neDD (hu64 hr)) (de_var 6) (de_val (df_lst da_nil))) (dss_one (ds_lput (de_var 2) (de_ix (de_var 6) de_int) (de_tup (da_cons (de_var 3) (da_cons (de_var 4) (da_cons (de_var 5) da_nil)))))) (dss_one (ds_set (i := 2) sc_after.nd (de_new (df_sortK C_rank gd (Room.mono hr (by decide)) (by rfl) z_sorted (by rfl) (de_val (df_cat (de_var 2) (de_val (df_lst (da_cons (de_tup (da_cons (de_var 3) (da_cons (de_var 4) (da_cons (de_var 5) da_nil)))) da_nil))))))))))))))) (dss_one (ds_ret (de_callT cb_tuple (by rfl) z_tuple bt_tuple (da_cons (de_var 2) da_nil))))))

abbrev s_goes : Stmt := top 39
theorem sc_goes : FnScope ["kept", "address", "name", "own", "folder", "is_alone", "host", "path", "is_secure"] ["kept", "address"] (defScope s_goes) := ⟨rfl, rfl, rfl, by decide +kernel, rfl, by decide +kernel, by decide +kernel⟩
def dn_goes : SD := (sSeq (sAsg (eBin ixD (eVar 0) (eCon (.int 0))) (gTp 4 (gsCons (gNm 2) (gsCons (gNm 3) (gsCons (gNm 4) (gsCons (gNm 5) gsNil)))))) (sSeq (sAsg (eVar 1) (gTp 3 (gsCons (gNm 6) (gsCons (gNm 7) (gsCons (gNm 8) gsNil))))) (sSeq (sIf (bOr (bAnd (tVal (eBin ixD (eVar 0) (eCon (.int 2)))) (bNot (tVal (eVar 8)))) (bNot (tVal (eCall rn_is_below (aCons (eVar 7) (aCons (eVar 4) aNil)))))) (sRet (eCon (.bl false))) sNil) (sRet (eOr (eBin eqD (eVar 6) (eVar 3)) (eAnd (eNot (eVar 5)) (eCall rn_is_within (aCons (eVar 6) (aCons (eVar 3) aNil)))))))))
def rn_goes : List W → Sto → R W := fun ws st => noX (runS 9 dn_goes ws st)
theorem ok_goes {P : Program} {w : World} {K : PySem.W.Frag} {mg : Str → Option Value} {base : Heap} {ct : Nat → Value} {f : Addr} {fd : FuncData} (F : Fun K "goes" "goes" s_goes f fd) (C_is_below : Cal P w K mg base ct "is_below" 2 1 rn_is_below) (C_is_within : Cal P w K mg base ct "is_within" 2 1 rn_is_within) :
    FnG P w K mg base CX0 2 f fd ["kept", "address"] (spG ⟨K, w, mg⟩ ct 2 rn_goes) := by
  refine fn_den0 F sc_goes (fun cdv A outer s H E gd hr => ?_)
  exact (dss_cons (ds_asg (de_ix (de_var 0) de_int) (dg_tup (n := 4) rfl (dgs_cons (dg_name (i := 2) sc_goes.nd) (dgs_cons (dg_name (i := 3) sc_goes.nd) (dgs_cons (dg_name (i := 4) sc_goes.nd) (dgs_cons (dg_name (i := 5) sc_goes.nd) dgs_nil)))))) (dss_cons (ds_asg (de_var 1) (dg_tup (n := 3) rfl (dgs_cons (dg_name (i := 6) sc_goes.nd) (dgs_cons (dg_name (i := 7) sc_goes.nd) (dgs_cons (dg_name (i := 8) sc_goes.nd) dgs_nil))))) (dss_cons (ds_if (PW.pt (dw_or (PW.pt (dw_and (dt_val (de_ix (de_var 0) de_int)) (dw_and1 (dt_not (dt_val (de_var 8)))))) (dw_or1 (dt_not (dt_val (de_calC C_is_below gd (Room.mono hr (by decide)) (by rfl) (aCons_len (aCons_len aNil_len)) (da_cons (de_var 7) (da_cons (de_var 4) da_nil)))))))) (dss_one (ds_ret de_bl)) dss_nil) (dss_one (ds_ret (de_or (de_cmp (op_eqDD (hu64 hr)) (de_var 6) (de_var 3)) (de_one (de_and (de_not (de_var 5)) (de_one (de_calC C_is_within gd (Room.mono hr (by decide)) (by rfl) (aCons_len (aCons_len aNil_len)) (da_cons (de_var 6) (da_cons (de_var 3) da_nil))))))))))))

abbrev s_sent_in : Stmt := top 40
theorem sc_sent_in : FnScope ["jar", "address", "kept"] ["jar", "address"] (defScope s_sent_in) := ⟨rfl, rfl, rfl, by decide +kernel, rfl, by decide +kernel, by decide +kernel⟩
def dn_sent_in : SD := (sRet (eBlt tupleB (aCons (eLst (lLc [2] (itK (eVar 0)) (gNm 2) (tVal (eCall rn_goes (aCons (eVar 2) (aCons (eVar 1) aNil)))) (eTup (aCons (eBin ixD (eBin ixD (eVar 2) (eCon (.int 0))) (eCon (.int 0))) (aCons (eBin ixD (eVar 2) (eCon (.int 1))) aNil))))) aNil)))
def rn_sent_in : List W → Sto → R W := fun ws st => noX (runS 3 dn_sent_in ws st)
theorem ok_sent_in {P : Program} {w : World} {K : PySem.W.Frag} {mg : Str → Option Value} {base : Heap} {ct : Nat → Value} {f : Addr} {fd : FuncData} (F : Fun K "sent_in" "sent_in" s_sent_in f fd) (C_goes : Cal P w K mg base ct "goes" 2 2 rn_goes) (z_tuple : mg "tuple" = none) :
    FnG P w K mg base CX0 3 f fd ["jar", "address"] (spG ⟨K, w, mg⟩ ct 2 rn_sent_in) := by
  refine fn_den0 F sc_sent_in (fun cdv A outer s H E gd hr => ?_)
  exact (dss_one (ds_ret (de_callT cb_tuple (by rfl) z_tuple bt_tuple (da_cons (de_val (df_lc (own := [("kept", 2)]) rfl sc_sent_in.nd (di_k (de_var 0)) (blkOk_by (own := [("kept", 2)]) (N := ["jar", "address", "kept"]) (sc := defScope s_sent_in) (by decide +kernel)) (fun _ _ _ _ _ => (dg_name (i := 2) sc_sent_in.nd)) (fun _ _ _ _ _ => (dts_one (dt_val (de_calC C_goes gd (Room.mono hr (by decide)) (by rfl) (aCons_len (aCons_len aNil_len)) (da_cons (de_var 2) (da_cons (de_var 1) da_nil)))))) (fun _ _ _ _ _ => (de_tup (da_cons (de_ix (de_ix (de_var 2) de_int) de_int) (da_cons (de_ix (de_var 2) de_int) da_nil)))))) da_nil))))

abbrev s_read_in : Stmt := top 41
theorem sc_read_in : FnScope ["jar", "address", "name", "found", "own", "value"] ["jar", "address", "name"] (defScope s_read_in) := ⟨rfl, rfl, rfl, by decide +kernel, rfl, by decide +kernel, by decide +kernel⟩
def dn_read_in : SD := (sSeq (sSet 3 (eLst (lLc [4, 5] (itK (eCall rn_sent_in (aCons (eVar 0) (aCons (eVar 1) aNil)))) (gTp 2 (gsCons (gNm 4) (gsCons (gNm 5) gsNil))) (tVal (eBin eqD (eVar 4) (eVar 2))) (eVar 5)))) (sRet (eIf (tVal (eBin neD (eVar 3) (eLst (aLim aNil)))) (eBin ixD (eVar 3) (eCon (.int 0))) (eCon .non))))
def rn_read_in : List W → Sto → R W := fun ws st => noX (runS 6 dn_read_in ws st)
theorem ok_read_in {P : Program} {w : World} {K : PySem.W.Frag} {mg : Str → Option Value} {base : Heap} {ct : Nat → Value} {f : Addr} {fd : FuncData} (F : Fun K "read_in" "read_in" s_read_in f fd) (C_sent_in : Cal P w K mg base ct "sent_in" 2 3 rn_sent_in) :
    FnG P w K mg base CX0 4 f fd ["jar", "address", "name"] (spG ⟨K, w, mg⟩ ct 3 rn_read_in) := by
  refine fn_den0 F sc_read_in (fun cdv A outer s H E gd hr => ?_)
  exact (dss_cons (ds_setLc (i := 3) (own := [("own", 4), ("value", 5)]) rfl sc_read_in.nd rfl rfl (sw_true rfl rfl rfl (by decide +kernel)) (di_k (de_calC C_sent_in gd (Room.mono hr (by decide)) (by rfl) (aCons_len (aCons_len aNil_len)) (da_cons (de_var 0) (da_cons (de_var 1) da_nil)))) (blkOk_by (own := [("own", 4), ("value", 5)]) (N := ["jar", "address", "name", "found", "own", "value"]) (sc := defScope s_read_in) (by decide +kernel)) (fun _ _ _ _ _ => (dg_tup (n := 2) rfl (dgs_cons (dg_name (i := 4) sc_read_in.nd) (dgs_cons (dg_name (i := 5) sc_read_in.nd) dgs_nil)))) (fun _ _ _ _ _ => (dts_one (dt_cmp (op_eqDD (hu64 hr)) (de_var 4) (de_var 2)))) (fun _ _ _ _ _ => (de_var 5))) (dss_one (ds_ret (de_if (dt_cmp (op_neDD (hu64 hr)) (de_var 3) (de_val (df_lst da_nil))) (de_ix (de_var 3) de_int) de_non))))

abbrev s_behind_in : Stmt := top 42
theorem sc_behind_in : FnScope ["site", "row", "jar", "page"] ["site", "row"] (defScope s_behind_in) := ⟨rfl, rfl, rfl, by decide +kernel, rfl, by decide +kernel, by decide +kernel⟩
def dn_behind_in : SD := (sSeq (sSet 2 (eTup aNil)) (sSeq (sFor (itK (eVar 1)) (gNm 3) (sSet 2 (eCall rn_after (aCons (eVar 2) (aCons (eBin ix2 (eVar 0) (eVar 3)) aNil))))) (sRet (eVar 2))))
def rn_behind_in : List W → Sto → R W := fun ws st => noX (runS 4 dn_behind_in ws st)
theorem ok_behind_in {P : Program} {w : World} {K : PySem.W.Frag} {mg : Str → Option Value} {base : Heap} {ct : Nat → Value} {f : Addr} {fd : FuncData} (F : Fun K "behind_in" "behind_in" s_behind_in f fd) (C_after : Cal P w K mg base ct "after" 2 4 rn_after) :
    FnG P w K mg base CX0 5 f fd ["site", "row"] (spG ⟨K, w, mg⟩ ct 2 rn_behind_in) := by
  refine fn_den0 F sc_behind_in (fun cdv A outer s H E gd hr => ?_)
  exact (dss_cons (ds_set (i := 2) sc_behind_in.nd (de_tup da_nil)) (dss_cons (ds_for PassesOwn.never rfl (di_k (de_var 1)) (dg_name (i := 3) sc_behind_in.nd) (dss_one (ds_set (i := 2) sc_behind_in.nd (de_calC C_after gd (Room.mono hr (by decide)) (by rfl) (aCons_len (aCons_len aNil_len)) (da_cons (de_var 2) (da_cons (de_ix2 (hu65 hr) (de_var 0) (de_var 3)) da_nil)))))) (dss_one (ds_ret (de_var 2)))))

abbrev s_need_few : Stmt := top 45
theorem sc_need_few : FnScope ["keys"] ["keys"] (defScope s_need_few) := ⟨rfl, rfl, rfl, by decide +kernel, rfl, by decide +kernel, by decide +kernel⟩
def dn_need_few : SD := (sIf (tVal (eBin gtD (eBlt lenA (aCons (eVar 0) aNil)) (eCon (.int 6)))) sNo sNil)
def rn_need_few : List W → Sto → R W := fun ws st => noX (runS 1 dn_need_few ws st)
theorem ok_need_few {P : Program} {w : World} {K : PySem.W.Frag} {mg : Str → Option Value} {base : Heap} {ct : Nat → Value} {f : Addr} {fd : FuncData} (F : Fun K "need_few" "need_few" s_need_few f fd) (z_len : mg "len" = none) (m_MOST_KEYS : ∃ t, mg "MOST_KEYS" = some (.int 6 t)) :
    FnG P w K mg base CX0 1 f fd ["keys"] (spG ⟨K, w, mg⟩ ct 1 rn_need_few) := by
  refine fn_den0 F sc_need_few (fun cdv A outer s H E gd hr => ?_)
  exact (dss_one (ds_if (dt_cmp op_gtD (de_callB cb_lenA (by rfl) z_len bt_len (da_cons (de_var 0) da_nil)) (de_globI (by rfl) m_MOST_KEYS.choose_spec)) (dss_one ds_no) dss_nil))

abbrev s_layers : Stmt := top 46
theorem sc_layers : FnScope ["sites", "begin", "found", "layer", "further", "jars_now", "page", "more", "jar", "site"] ["sites"] (defScope s_layers) := ⟨rfl, rfl, rfl, by decide +kernel, rfl, by decide +kernel, by decide +kernel⟩
def dn_layers : SD := (sSeq (sSet 1 (eBin mul2 (eTup (aCons (eTup aNil) aNil)) (eBlt lenA (aCons (eVar 0) aNil)))) (sSeq (sPar 2 3 (aCons (eK1 (eVar 1) (eTup aNil)) (aCons (eLst (aLim (aCons (eVar 1) aNil))) aNil))) (sSeq (sWhile 100000 (tVal (eBin neD (eVar 3) (eLst (aLim aNil)))) (sSeq (sSet 4 (eNew (aLim aNil))) (sSeq (sFor (itK (eVar 3)) (gNm 5) (sFor (itRange (aCons (eBlt lenA (aCons (eBin ixD (eVar 0) (eCon (.int 0))) aNil)) aNil)) (gNm 6) (sSeq (sSet 7 (eBlt tupleB (aCons (eLst (lLc [8, 9] (itZip (aCons (eVar 5) (aCons (eVar 0) aNil))) (gTp 2 (gsCons (gNm 8) (gsCons (gNm 9) gsNil))) bYes (eCall rn_after (aCons (eVar 8) (aCons (eBin ix2 (eVar 9) (eVar 6)) aNil))))) aNil))) (sIf (tVal (eBin notIn3 (eVar 7) (eVar 2))) (sSeq (sKPut (eVar 2) (eVar 7) (eBin addD (eBin ix2 (eVar 2) (eVar 5)) (eTup (aCons (eVar 6) aNil)))) (sExpr (eApp (eVar 4) (aCons (eVar 7) aNil)))) sNil)))) (sSet 3 (eFrz (eVar 4)))))) (sRet (eFrzK (eVar 2))))))
def rn_layers : List W → Sto → R W := fun ws st => noX (runS 10 dn_layers ws st)
theorem ok_layers {P : Program} {w : World} {K : PySem.W.Frag} {mg : Str → Option Value} {base : Heap} {ct : Nat → Value} {f : Addr} {fd : FuncData} (F : Fun K "layers" "layers" s_layers f fd) (z_len : mg "len" = none) (z_range : mg "range" = none) (z_zip : mg "zip" = none) (C_after : Cal P w K mg base ct "after" 2 4 rn_after) (z_tuple : mg "tuple" = none) :
    FnG P w K mg base CX0 5 f fd ["sites"] (spG ⟨K, w, mg⟩ ct 1 rn_layers) := by
  refine fn_den0 F sc_layers (fun cdv A outer s H E gd hr => ?_)
  exact (dss_cons (ds_set (i := 1) sc_layers.nd (de_bin op_mul2 (de_tup (da_cons (de_tup da_nil) da_nil)) (de_callB cb_lenA (by rfl) z_len bt_len (da_cons (de_var 0) da_nil)))) (dss_cons (ds_par (i := 2) (j := 3) rfl sc_layers.nd rfl rfl (by decide) rfl rfl (da_cons (de_k1 (hu65 hr) (de_var 1) (de_tup da_nil)) (da_cons (de_val (df_lst (da_cons (de_var 1) da_nil))) da_nil)) rfl) (dss_cons (ds_while 100000 PassesOwn.never (dt_cmp (op_neDD (hu64 hr)) (de_var 3) (de_val (df_lst da_nil))) (dss_cons (ds_set (i := 4) sc_layers.nd (de_new (df_lst da_nil))) (dss_cons (ds_for PassesOwn.never rfl (di_k (de_var 3)) (dg_name (i := 5) sc_layers.nd) (dss_one (ds_for PassesOwn.never rfl (di_range1 (by rfl) z_range (de_callB cb_lenA (by rfl) z_len bt_len (da_cons (de_ix (de_var 0) de_int) da_nil))) (dg_name (i := 6) sc_layers.nd) (dss_cons (ds_set (i := 7) sc_layers.nd (de_callT cb_tuple (by rfl) z_tuple bt_tuple (da_cons (de_val (df_lc (own := [("jar", 8), ("site", 9)]) rfl sc_layers.nd (di_zip (by rfl) z_zip (da_cons (de_var 5) (da_cons (de_var 0) da_nil))) (blkOk_by (own := [("jar", 8), ("site", 9)]) (N := ["sites", "begin", "found", "layer", "further", "jars_now", "page", "more", "jar", "site"]) (sc := defScope s_layers) (by decide +kernel)) (fun _ _ _ _ _ => (dg_tup (n := 2) rfl (dgs_cons (dg_name (i := 8) sc_layers.nd) (dgs_cons (dg_name (i := 9) sc_layers.nd) dgs_nil)))) (fun _ _ _ _ _ => dts_nil) (fun _ _ _ _ _ => (de_calC C_after gd (Room.mono hr (by decide)) (by rfl) (aCons_len (aCons_len aNil_len)) (da_cons (de_var 8) (da_cons (de_ix2 (hu65 hr) (de_var 9) (de_var 6)) da_nil)))))) da_nil))) (dss_one (ds_if (dt_cmp (op_notIn3 (hu65 hr)) (de_var 7) (de_var 2)) (dss_cons (ds_kput (hu65 hr) (de_var 2) (de_var 7) (de_bin op_addD (de_ix2 (hu65 hr) (de_var 2) (de_var 5)) (de_tup (da_cons (de_var 6) da_nil)))) (dss_one (ds_expr (de_app (de_var 4) (da_cons (de_var 7) da_nil))))) dss_nil)))))) (dss_one (ds_set (i := 3) sc_layers.nd (de_frz (de_var 4))))))) (dss_one (ds_ret (de_frzK (de_var 2)))))))

abbrev s_rows_in : Stmt := top 47
theorem sc_rows_in : FnScope ["site", "found", "both"] ["site"] (defScope s_rows_in) := ⟨rfl, rfl, rfl, by decide +kernel, rfl, by decide +kernel, by decide +kernel⟩
def dn_rows_in : SD := (sSeq (sSet 1 (eCall rn_layers (aCons (eTup (aCons (eVar 0) aNil)) aNil))) (sRet (eFrzK (eCp (.kd []) [2] (itK (eVar 1)) (gNm 2) bYes (uPut (eBin ixD (eVar 2) (eCon (.int 0))) (eBin ix2 (eVar 1) (eVar 2)))))))
def rn_rows_in : List W → Sto → R W := fun ws st => noX (runS 3 dn_rows_in ws st)
theorem ok_rows_in {P : Program} {w : World} {K : PySem.W.Frag} {mg : Str → Option Value} {base : Heap} {ct : Nat → Value} {f : Addr} {fd : FuncData} (F : Fun K "rows_in" "rows_in" s_rows_in f fd) (C_layers : Cal P w K mg base ct "layers" 1 5 rn_layers) :
    FnG P w K mg base CX0 6 f fd ["site"] (spG ⟨K, w, mg⟩ ct 1 rn_rows_in) := by
  refine fn_den0 F sc_rows_in (fun cdv A outer s H E gd hr => ?_)
  exact (dss_cons (ds_set (i := 1) sc_rows_in.nd (de_calC C_layers gd (Room.mono hr (by decide)) (by rfl) (aCons_len aNil_len) (da_cons (de_tup (da_cons (de_var 0) da_nil)) da_nil))) (dss_one (ds_ret (de_frzK (de_dc (own := [("both", 2)])  rfl (hu65 hr) sc_rows_in.nd (di_k (de_var 1)) (blkOk_by (own := [("both", 2)]) (N := ["site", "found", "both"]) (sc := defScope s_rows_in) (by decide +kernel))  (fun _ _ _ _ _ => (dg_name (i := 2) sc_rows_in.nd)) (fun _ _ _ _ _ => dts_nil) (fun _ _ _ _ _ => (de_ix (de_var 2) de_int)) (fun _ _ _ _ _ => (de_ix2 (hu65 hr) (de_var 1) (de_var 2))))))))

abbrev s_jars : Stmt := top 48
theorem sc_jars : FnScope ["site"] ["site"] (defScope s_jars) := ⟨rfl, rfl, rfl, by decide +kernel, rfl, by decide +kernel, by decide +kernel⟩
def dn_jars : SD := (sSeq (sExpr (eCall rn_need_few (aCons (eCall rn_keys_in (aCons (eCall rn_need_site (aCons (eVar 0) aNil)) aNil)) aNil))) (sRet (eCall rn_rows_in (aCons (eVar 0) aNil))))
def rn_jars : List W → Sto → R W := fun ws st => noX (runS 1 dn_jars ws st)
theorem ok_jars {P : Program} {w : World} {K : PySem.W.Frag} {mg : Str → Option Value} {base : Heap} {ct : Nat → Value} {f : Addr} {fd : FuncData} (F : Fun K "jars" "jars" s_jars f fd) (C_need_site : Cal P w K mg base ct "need_site" 1 5 rn_need_site) (C_keys_in : Cal P w K mg base ct "keys_in" 1 5 rn_keys_in) (C_need_few : Cal P w K mg base ct "need_few" 1 1 rn_need_few) (C_rows_in : Cal P w K mg base ct "rows_in" 1 6 rn_rows_in) :
    FnG P w K mg base CX0 7 f fd ["site"] (spG ⟨K, w, mg⟩ ct 1 rn_jars) := by
  refine fn_den0 F sc_jars (fun cdv A outer s H E gd hr => ?_)
  exact (dss_cons (ds_expr (de_calC C_need_few gd (Room.mono hr (by decide)) (by rfl) (aCons_len aNil_len) (da_cons (de_calC C_keys_in gd (Room.mono hr (by decide)) (by rfl) (aCons_len aNil_len) (da_cons (de_calC C_need_site gd (Room.mono hr (by decide)) (by rfl) (aCons_len aNil_len) (da_cons (de_var 0) da_nil)) da_nil)) da_nil))) (dss_one (ds_ret (de_calC C_rows_in gd (Room.mono hr (by decide)) (by rfl) (aCons_len aNil_len) (da_cons (de_var 0) da_nil)))))

abbrev s_readings : Stmt := top 50
theorem sc_readings : FnScope ["site", "page", "address", "name", "jar", "values", "found", "told", "worth", "row"] ["site", "page", "address", "name"] (defScope s_readings) := ⟨rfl, rfl, rfl, by decide +kernel, rfl, by decide +kernel, by decide +kernel⟩
def dn_readings : SD := (sSeq (sExpr (eCall rn_need_page (aCons (eCall rn_need_site (aCons (eVar 0) aNil)) (aCons (eVar 1) aNil)))) (sSeq (sExpr (eCall rn_need_address (aCons (eVar 2) aNil))) (sSeq (sExpr (eCall rn_need_name (aCons (eVar 3) aNil))) (sSeq (sPar 6 7 (aCons eLNew (aCons (eCall rn_jars (aCons (eVar 0) aNil)) aNil))) (sSeq (sFor (itL (eVar 7)) (gNm 4) (sSeq (sPar 8 9 (aCons (eCall rn_read_in (aCons (eCall rn_after (aCons (eVar 4) (aCons (eBin ix4 (eVar 0) (eVar 1)) aNil))) (aCons (eVar 2) (aCons (eVar 3) aNil)))) (aCons (eBin addD (eBin ix4 (eVar 7) (eVar 4)) (eTup (aCons (eVar 1) aNil))) aNil))) (sIf (bOr (tVal (eBin notIn4 (eVar 8) (eVar 6))) (tVal (eBin ltD (eBlt lenA (aCons (eVar 9) aNil)) (eBlt lenA (aCons (eBin ix4 (eVar 6) (eVar 8)) aNil))))) (sLdPut (eVar 6) (eVar 8) (eVar 9)) sNil))) (sSeq (sFrzL 6 (sSet 5 (eLst (lBlt sortF (aCons (eLst (lLc [8] (itL (eVar 6)) (gNm 8) (tVal (eBin isNotD (eVar 8) (eCon .non))) (eVar 8))) aNil))))) (sRet (eFrzL (eCp (.ld []) [8] (itL (eLst (lCat (eIf (tVal (eBin in4 (eCon .non) (eVar 6))) (eLst (aLim (aCons (eCon .non) aNil))) (eLst (aLim aNil))) (eVar 5)))) (gNm 8) bYes (uLdPut (eVar 8) (eBin ix4 (eVar 6) (eVar 8))))))))))))
def rn_readings : List W → Sto → R W := fun ws st => noX (runS 10 dn_readings ws st)
theorem ok_readings {P : Program} {w : World} {K : PySem.W.Frag} {mg : Str → Option Value} {base : Heap} {ct : Nat → Value} {f : Addr} {fd : FuncData} (F : Fun K "readings" "readings" s_readings f fd) (C_need_site : Cal P w K mg base ct "need_site" 1 5 rn_need_site) (C_need_page : Cal P w K mg base ct "need_page" 2 2 rn_need_page) (C_need_address : Cal P w K mg base ct "need_address" 1 5 rn_need_address) (C_need_name : Cal P w K mg base ct "need_name" 1 3 rn_need_name) (C_jars : Cal P w K mg base ct "jars" 1 7 rn_jars) (C_after : Cal P w K mg base ct "after" 2 4 rn_after) (C_read_in : Cal P w K mg base ct "read_in" 3 4 rn_read_in) (z_len : mg "len" = none) (z_sorted : mg "sorted" = none) :
    FnG P w K mg base CX0 8 f fd ["site", "page", "address", "name"] (spG ⟨K, w, mg⟩ ct 4 rn_readings) := by
  refine fn_den0 F sc_readings (fun cdv A outer s H E gd hr => ?_)
  exact (dss_cons (ds_expr (de_calC C_need_page gd (Room.mono hr (by decide)) (by rfl) (aCons_len (aCons_len aNil_len)) (da_cons (de_calC C_need_site gd (Room.mono hr (by decide)) (by rfl) (aCons_len aNil_len) (da_cons (de_var 0) da_nil)) (da_cons (de_var 1) da_nil)))) (dss_cons (ds_expr (de_calC C_need_address gd (Room.mono hr (by decide)) (by rfl) (aCons_len aNil_len) (da_cons (de_var 2) da_nil))) (dss_cons (ds_expr (de_calC C_need_name gd (Room.mono hr (by decide)) (by rfl) (aCons_len aNil_len) (da_cons (de_var 3) da_nil))) (dss_cons (ds_parC (i := 6) (j := 7) rfl sc_readings.nd rfl rfl (da_cons de_lnew (da_cons (de_calC C_jars gd (Room.mono hr (by decide)) (by rfl) (aCons_len aNil_len) (da_cons (de_var 0) da_nil)) da_nil))) (dss_cons (ds_for PassesOwn.never rfl (di_l (de_var 7)) (dg_name (i := 4) sc_readings.nd) (dss_cons (ds_par (i := 8) (j := 9) rfl sc_readings.nd rfl rfl (by decide) rfl rfl (da_cons (de_calC C_read_in gd (Room.mono hr (by decide)) (by rfl) (aCons_len (aCons_len (aCons_len aNil_len))) (da_cons (de_calC C_after gd (Room.mono hr (by decide)) (by rfl) (aCons_len (aCons_len aNil_len)) (da_cons (de_var 4) (da_cons (de_ix4 (hu65 hr) (de_var 0) (de_var 1)) da_nil))) (da_cons (de_var 2) (da_cons (de_var 3) da_nil)))) (da_cons (de_bin op_addD (de_ix4 (hu65 hr) (de_var 7) (de_var 4)) (de_tup (da_cons (de_var 1) da_nil))) da_nil)) rfl) (dss_one (ds_if (PW.pt (dw_or (dt_cmp (op_notIn4 (hu65 hr)) (de_var 8) (de_var 6)) (dw_or1 (dt_cmp op_ltD (de_callB cb_lenA (by rfl) z_len bt_len (da_cons (de_var 9) da_nil)) (de_callB cb_lenA (by rfl) z_len bt_len (da_cons (de_ix4 (hu65 hr) (de_var 6) (de_var 8)) da_nil)))))) (dss_one (ds_ldput (de_var 6) (de_var 8) (de_var 9))) dss_nil)))) (dss_cons (ds_frzL 6 (ds_set (i := 5) sc_readings.nd (de_val (df_callB (cf_sorted rfl (hu65 hr)) (by rfl) z_sorted bt_sorted (da_cons (de_val (df_lc (own := [("worth", 8)]) rfl sc_readings.nd (di_l (de_var 6)) (blkOk_by (own := [("worth", 8)]) (N := ["site", "page", "address", "name", "jar", "values", "found", "told", "worth", "row"]) (sc := defScope s_readings) (by decide +kernel)) (fun _ _ _ _ _ => (dg_name (i := 8) sc_readings.nd)) (fun _ _ _ _ _ => (dts_one (dt_cmp op_isNotDD (de_var 8) de_non))) (fun _ _ _ _ _ => (de_var 8)))) da_nil))))) (dss_one (ds_ret (de_frzL (de_dcL (own := [("worth", 8)])  rfl sc_readings.nd (di_l (de_val (df_cat (de_if (dt_cmp (op_in4 (hu65 hr)) de_non (de_var 6)) (de_val (df_lst (da_cons de_non da_nil))) (de_val (df_lst da_nil))) (de_var 5)))) (blkOk_by (own := [("worth", 8)]) (N := ["site", "page", "address", "name", "jar", "values", "found", "told", "worth", "row"]) (sc := defScope s_readings) (by decide +kernel))  (fun _ _ _ _ _ => (dg_name (i := 8) sc_readings.nd)) (fun _ _ _ _ _ => dts_nil) (fun _ _ _ _ _ => (de_var 8)) (fun _ _ _ _ _ => (de_ix4 (hu65 hr) (de_var 6) (de_var 8)))))))))))))

abbrev s_sure : Stmt := top 51
theorem sc_sure : FnScope ["site", "page", "address", "name", "value"] ["site", "page", "address"] (defScope s_sure) := ⟨rfl, rfl, rfl, by decide +kernel, rfl, by decide +kernel, by decide +kernel⟩
def dn_sure : SD := (sSeq (sExpr (eCall rn_need_page (aCons (eCall rn_need_site (aCons (eVar 0) aNil)) (aCons (eVar 1) aNil)))) (sSeq (sExpr (eCall rn_need_address (aCons (eVar 2) aNil))) (sSeq (sExpr (eCall rn_need_few (aCons (eCall rn_keys_in (aCons (eVar 0) aNil)) aNil))) (sRet (eBlt tupleB (aCons (eLst (lSortSet (eLst (lLc [3, 4] (itK (eCall rn_sent_in (aCons (eCall rn_behind_in (aCons (eVar 0) (aCons (eTup (aCons (eVar 1) aNil)) aNil))) (aCons (eVar 2) aNil)))) (gTp 2 (gsCons (gNm 3) (gsCons (gNm 4) gsNil))) bYes (eVar 3))))) aNil))))))
def rn_sure : List W → Sto → R W := fun ws st => noX (runS 5 dn_sure ws st)
theorem ok_sure {P : Program} {w : World} {K : PySem.W.Frag} {mg : Str → Option Value} {base : Heap} {ct : Nat → Value} {f : Addr} {fd : FuncData} (F : Fun K "sure" "sure" s_sure f fd) (C_need_site : Cal P w K mg base ct "need_site" 1 5 rn_need_site) (C_need_page : Cal P w K mg base ct "need_page" 2 2 rn_need_page) (C_need_address : Cal P w K mg base ct "need_address" 1 5 rn_need_address) (C_keys_in : Cal P w K mg base ct "keys_in" 1 5 rn_keys_in) (C_need_few : Cal P w K mg base ct "need_few" 1 1 rn_need_few) (C_behind_in : Cal P w K mg base ct "behind_in" 2 5 rn_behind_in) (C_sent_in : Cal P w K mg base ct "sent_in" 2 3 rn_sent_in) (z_sorted : mg "sorted" = none) (z_set : mg "set" = none) (z_tuple : mg "tuple" = none) :
    FnG P w K mg base CX0 6 f fd ["site", "page", "address"] (spG ⟨K, w, mg⟩ ct 3 rn_sure) := by
  refine fn_den0 F sc_sure (fun cdv A outer s H E gd hr => ?_)
  exact (dss_cons (ds_expr (de_calC C_need_page gd (Room.mono hr (by decide)) (by rfl) (aCons_len (aCons_len aNil_len)) (da_cons (de_calC C_need_site gd (Room.mono hr (by decide)) (by rfl) (aCons_len aNil_len) (da_cons (de_var 0) da_nil)) (da_cons (de_var 1) da_nil)))) (dss_cons (ds_expr (de_calC C_need_address gd (Room.mono hr (by decide)) (by rfl) (aCons_len aNil_len) (da_cons (de_var 2) da_nil))) (dss_cons (ds_expr (de_calC C_need_few gd (Room.mono hr (by decide)) (by rfl) (aCons_len aNil_len) (da_cons (de_calC C_keys_in gd (Room.mono hr (by decide)) (by rfl) (aCons_len aNil_len) (da_cons (de_var 0) da_nil)) da_nil))) (dss_one (ds_ret (de_callT cb_tuple (by rfl) z_tuple bt_tuple (da_cons (de_val (df_sortSet rfl (hu65 hr) (by rfl) z_sorted (by rfl) z_set (de_val (df_lc (own := [("name", 3), ("value", 4)]) rfl sc_sure.nd (di_k (de_calC C_sent_in gd (Room.mono hr (by decide)) (by rfl) (aCons_len (aCons_len aNil_len)) (da_cons (de_calC C_behind_in gd (Room.mono hr (by decide)) (by rfl) (aCons_len (aCons_len aNil_len)) (da_cons (de_var 0) (da_cons (de_tup (da_cons (de_var 1) da_nil)) da_nil))) (da_cons (de_var 2) da_nil)))) (blkOk_by (own := [("name", 3), ("value", 4)]) (N := ["site", "page", "address", "name", "value"]) (sc := defScope s_sure) (by decide +kernel)) (fun _ _ _ _ _ => (dg_tup (n := 2) rfl (dgs_cons (dg_name (i := 3) sc_sure.nd) (dgs_cons (dg_name (i := 4) sc_sure.nd) dgs_nil)))) (fun _ _ _ _ _ => dts_nil) (fun _ _ _ _ _ => (de_var 3)))))) da_nil)))))))

abbrev s__law_mixed : Stmt := top 53
theorem sc__law_mixed : FnScope ["cell", "k"] ["cell", "k"] (defScope s__law_mixed) := ⟨rfl, rfl, rfl, by decide +kernel, rfl, by decide +kernel, by decide +kernel⟩
def dn__law_mixed : SD := (sSeq (sSet 0 (eBin modD (eBlt intB (aCons (eVar 0) aNil)) (eCon (.int 2147483647)))) (sRet (eBin modD (eBin mulD (eBin modD (eBin addD (eBin addD (eBin mulD (eVar 0) (eBin addD (eCon (.int 48271)) (eBin mulD (eBin mulD (eCon (.int 2)) (eVar 1)) (eVar 1)))) (eBin mulD (eCon (.int 69621)) (eVar 1))) (eCon (.int 11))) (eCon (.int 2147483647))) (eCon (.int 69621))) (eCon (.int 2147483629)))))
def rn__law_mixed : List W → Sto → R W := fun ws st => noX (runS 2 dn__law_mixed ws st)
theorem ok__law_mixed {P : Program} {w : World} {K : PySem.W.Frag} {mg : Str → Option Value} {base : Heap} {ct : Nat → Value} {f : Addr} {fd : FuncData} (F : Fun K "_law_mixed" "_law_mixed" s__law_mixed f fd) (z_int : mg "int" = none) :
    FnG P w K mg base CX0 1 f fd ["cell", "k"] (spG ⟨K, w, mg⟩ ct 2 rn__law_mixed) := by
  refine fn_den0 F sc__law_mixed (fun cdv A outer s H E gd hr => ?_)
  exact (dss_cons (ds_set (i := 0) sc__law_mixed.nd (de_bin op_modD (de_callT cb_int (by rfl) z_int bt_int (da_cons (de_var 0) da_nil)) de_int)) (dss_one (ds_ret (de_bin op_modD (de_bin op_mulD (de_bin op_modD (de_bin op_addD (de_bin op_addD (de_bin op_mulD (de_var 0) (de_bin op_addD de_int (de_bin op_mulD (de_bin op_mulD de_int (de_var 1)) (de_var 1)))) (de_bin op_mulD de_int (de_var 1))) de_int) de_int) de_int) de_int))))

abbrev s__law_begin : Stmt := top 54
theorem sc__law_begin : FnScope ["script", "cells", "cell"] ["script"] (defScope s__law_begin) := ⟨rfl, rfl, rfl, by decide +kernel, rfl, by decide +kernel, by decide +kernel⟩
def dn__law_begin : SD := (sSeq (sSet 1 (eIf (tVal (eBin neD (eVar 0) (eLst (aLim aNil)))) (eLst (lBlt listF (aCons (eVar 0) aNil))) (eLst (aLim (aCons (eCon (.int 0)) aNil))))) (sRet (eDct (kOf [("cells", (eVar 1)), ("lefts", (eNew (lLc [2] (itK (eVar 1)) (gNm 2) bYes (eIf (tVal (eBin geD (eVar 2) (eBin powD (eCon (.int 10)) (eCon (.int 18))))) (eVar 2) (eCon (.int 0)))))), ("at", (eCon (.int 0))), ("room", (eCon (.int 0)))]))))
def rn__law_begin : List W → Sto → R W := fun ws st => noX (runS 3 dn__law_begin ws st)
theorem ok__law_begin {P : Program} {w : World} {K : PySem.W.Frag} {mg : Str → Option Value} {base : Heap} {ct : Nat → Value} {f : Addr} {fd : FuncData} (F : Fun K "_law_begin" "_law_begin" s__law_begin f fd) (z_list : mg "list" = none) :
    FnG P w K mg base CX0 1 f fd ["script"] (spG ⟨K, w, mg⟩ ct 1 rn__law_begin) := by
  refine fn_den0 F sc__law_begin (fun cdv A outer s H E gd hr => ?_)
  exact (dss_cons (ds_set (i := 1) sc__law_begin.nd (de_if (dt_cmp (op_neDD (hu64 hr)) (de_var 0) (de_val (df_lst da_nil))) (de_val (df_callT cf_list (by rfl) z_list bt_list (da_cons (de_var 0) da_nil))) (de_val (df_lst (da_cons de_int da_nil))))) (dss_one (ds_ret (de_dct (fs := [("cells", (eVar 1)), ("lefts", (eNew (lLc [2] (itK (eVar 1)) (gNm 2) bYes (eIf (tVal (eBin geD (eVar 2) (eBin powD (eCon (.int 10)) (eCon (.int 18))))) (eVar 2) (eCon (.int 0)))))), ("at", (eCon (.int 0))), ("room", (eCon (.int 0)))]) (pps_ind (de_var 1) (pps_ind (de_new (df_lc (own := [("cell", 2)]) rfl sc__law_begin.nd (di_k (de_var 1)) (blkOk_by (own := [("cell", 2)]) (N := ["script", "cells", "cell"]) (sc := defScope s__law_begin) (by decide +kernel)) (fun _ _ _ _ _ => (dg_name (i := 2) sc__law_begin.nd)) (fun _ _ _ _ _ => dts_nil) (fun _ _ _ _ _ => (de_if (dt_cmp op_geD (de_var 2) (de_bin op_powD de_int de_int)) (de_var 2) de_int)))) (pps_ind de_int (pps_ind de_int pps_nil))))))))

abbrev s__law_draw : Stmt := top 55
theorem sc__law_draw : FnScope ["state", "many", "at", "place", "left", "number"] ["state", "many"] (defScope s__law_draw) := ⟨rfl, rfl, rfl, by decide +kernel, rfl, by decide +kernel, by decide +kernel⟩
def dn__law_draw : SD := (sSeq (sSet 2 (eDGet (eVar 0) (eCon (.str "at")))) (sSeq (sDPut (eVar 0) (eCon (.str "at")) (eBin addD (eVar 2) (eCon (.int 1)))) (sSeq (sSet 3 (eBin modD (eBlt intB (aCons (eVar 2) aNil)) (eBlt lenA (aCons (eDGet (eVar 0) (eCon (.str "cells"))) aNil)))) (sSeq (sSet 4 (eBin ix2 (eDGet (eVar 0) (eCon (.str "lefts"))) (eVar 3))) (sSeq (sIf (tVal (eBin gtD (eVar 4) (eCon (.int 0)))) (sSeq (sLPut (eDGet (eVar 0) (eCon (.str "lefts"))) (eVar 3) (eBin fdivD (eVar 4) (eVar 1))) (sRet (eBin modD (eBlt intB (aCons (eVar 4) aNil)) (eVar 1)))) sNil) (sSeq (sSet 5 (eCall rn__law_mixed (aCons (eCall rn__law_mixed (aCons (eBin ix2 (eDGet (eVar 0) (eCon (.str "cells"))) (eVar 3)) (aCons (eVar 2) aNil))) (aCons (eBin addD (eCon (.int 40)) (eVar 2)) aNil)))) (sRet (eBin modD (eBin fdivD (eBlt intB (aCons (eBin addD (eBin mulD (eVar 5) (eCon (.int 2147483647))) (eCall rn__law_mixed (aCons (eVar 5) (aCons (eBin addD (eCon (.int 7)) (eVar 2)) aNil)))) aNil)) (eCon (.int 64))) (eVar 1)))))))))
def rn__law_draw : List W → Sto → R W := fun ws st => noX (runS 6 dn__law_draw ws st)
theorem ok__law_draw {P : Program} {w : World} {K : PySem.W.Frag} {mg : Str → Option Value} {base : Heap} {ct : Nat → Value} {f : Addr} {fd : FuncData} (F : Fun K "_law_draw" "_law_draw" s__law_draw f fd) (z_int : mg "int" = none) (z_len : mg "len" = none) (C__law_mixed : Cal P w K mg base ct "_law_mixed" 2 1 rn__law_mixed) :
    FnG P w K mg base CX0 2 f fd ["state", "many"] (spG ⟨K, w, mg⟩ ct 2 rn__law_draw) := by
  refine fn_den0 F sc__law_draw (fun cdv A outer s H E gd hr => ?_)
  exact (dss_cons (ds_set (i := 2) sc__law_draw.nd (de_dget (hu_of hr) (de_var 0) de_str)) (dss_cons (ds_dput (hu_of hr) (de_var 0) de_str (de_bin op_addD (de_var 2) de_int)) (dss_cons (ds_set (i := 3) sc__law_draw.nd (de_bin op_modD (de_callT cb_int (by rfl) z_int bt_int (da_cons (de_var 2) da_nil)) (de_callB cb_lenA (by rfl) z_len bt_len (da_cons (de_dget (hu_of hr) (de_var 0) de_str) da_nil)))) (dss_cons (ds_set (i := 4) sc__law_draw.nd (de_ix2 (hu65 hr) (de_dget (hu_of hr) (de_var 0) de_str) (de_var 3))) (dss_cons (ds_if (dt_cmp op_gtD (de_var 4) de_int) (dss_cons (ds_lput (de_dget (hu_of hr) (de_var 0) de_str) (de_var 3) (de_bin op_fdivD (de_var 4) (de_var 1))) (dss_one (ds_ret (de_bin op_modD (de_callT cb_int (by rfl) z_int bt_int (da_cons (de_var 4) da_nil)) (de_var 1))))) dss_nil) (dss_cons (ds_set (i := 5) sc__law_draw.nd (de_calC C__law_mixed gd (Room.mono hr (by decide)) (by rfl) (aCons_len (aCons_len aNil_len)) (da_cons (de_calC C__law_mixed gd (Room.mono hr (by decide)) (by rfl) (aCons_len (aCons_len aNil_len)) (da_cons (de_ix2 (hu65 hr) (de_dget (hu_of hr) (de_var 0) de_str) (de_var 3)) (da_cons (de_var 2) da_nil))) (da_cons (de_bin op_addD de_int (de_var 2)) da_nil)))) (dss_one (ds_ret (de_bin op_modD (de_bin op_fdivD (de_callT cb_int (by rfl) z_int bt_int (da_cons (de_bin op_addD (de_bin op_mulD (de_var 5) de_int) (de_calC C__law_mixed gd (Room.mono hr (by decide)) (by rfl) (aCons_len (aCons_len aNil_len)) (da_cons (de_var 5) (da_cons (de_bin op_addD de_int (de_var 2)) da_nil)))) da_nil)) de_int) (de_var 1))))))))))

abbrev s__law_of : Stmt := top 56
theorem sc__law_of : FnScope ["state", "some"] ["state", "some"] (defScope s__law_of) := ⟨rfl, rfl, rfl, by decide +kernel, rfl, by decide +kernel, by decide +kernel⟩
def dn__law_of : SD := (sRet (eBin ix2 (eVar 1) (eCall rn__law_draw (aCons (eVar 0) (aCons (eBlt lenA (aCons (eVar 1) aNil)) aNil)))))
def rn__law_of : List W → Sto → R W := fun ws st => noX (runS 2 dn__law_of ws st)
theorem ok__law_of {P : Program} {w : World} {K : PySem.W.Frag} {mg : Str → Option Value} {base : Heap} {ct : Nat → Value} {f : Addr} {fd : FuncData} (F : Fun K "_law_of" "_law_of" s__law_of f fd) (z_len : mg "len" = none) (C__law_draw : Cal P w K mg base ct "_law_draw" 2 2 rn__law_draw) :
    FnG P w K mg base CX0 3 f fd ["state", "some"] (spG ⟨K, w, mg⟩ ct 2 rn__law_of) := by
  refine fn_den0 F sc__law_of (fun cdv A outer s H E gd hr => ?_)
  exact (dss_one (ds_ret (de_ix2 (hu65 hr) (de_var 1) (de_calC C__law_draw gd (Room.mono hr (by decide)) (by rfl) (aCons_len (aCons_len aNil_len)) (da_cons (de_var 0) (da_cons (de_callB cb_lenA (by rfl) z_len bt_len (da_cons (de_var 1) da_nil)) da_nil))))))

abbrev s__law_key : Stmt := top 57
theorem sc__law_key : FnScope ["page", "write", "writes", "name", "value", "domain", "folder", "guarded", "host", "path", "secure"] ["page", "write"] (defScope s__law_key) := ⟨rfl, rfl, rfl, by decide +kernel, rfl, by decide +kernel, by decide +kernel⟩
def dn__law_key : SD := (sSeq (sAsg (eVar 0) (gTp 2 (gsCons (gTp 3 (gsCons (gNm 8) (gsCons (gNm 9) (gsCons (gNm 10) gsNil)))) (gsCons (gNm 2) gsNil)))) (sSeq (sAsg (eVar 1) (gTp 5 (gsCons (gNm 3) (gsCons (gNm 4) (gsCons (gNm 5) (gsCons (gNm 6) (gsCons (gNm 7) gsNil))))))) (sSeq (sIf (bOr (bAnd (tVal (eVar 7)) (bNot (tVal (eVar 10)))) (bAnd (tVal (eBin isNotD (eVar 5) (eCon .non))) (tVal (eBin neD (eSlc (eVar 8) (pSo (eNeg (eBlt lenA (aCons (eVar 5) aNil)))) pNo) (eVar 5))))) (sRet (eCon .non)) sNil) (sRet (eTup (aCons (eVar 3) (aCons (eIf (tVal (eBin isD (eVar 5) (eCon .non))) (eVar 8) (eVar 5)) (aCons (eIf (tVal (eBin isD (eVar 6) (eCon .non))) (eSlc (eVar 9) pNo (pSo (eNeg (eCon (.int 1))))) (eVar 6)) (aCons (eBin isD (eVar 5) (eCon .non)) aNil)))))))))
def rn__law_key : List W → Sto → R W := fun ws st => noX (runS 11 dn__law_key ws st)
theorem ok__law_key {P : Program} {w : World} {K : PySem.W.Frag} {mg : Str → Option Value} {base : Heap} {ct : Nat → Value} {f : Addr} {fd : FuncData} (F : Fun K "_law_key" "_law_key" s__law_key f fd) (z_len : mg "len" = none) :
    FnG P w K mg base CX0 1 f fd ["page", "write"] (spG ⟨K, w, mg⟩ ct 2 rn__law_key) := by
  refine fn_den0 F sc__law_key (fun cdv A outer s H E gd hr => ?_)
  exact (dss_cons (ds_asg (de_var 0) (dg_tup (n := 2) rfl (dgs_cons (dg_tup (n := 3) rfl (dgs_cons (dg_name (i := 8) sc__law_key.nd) (dgs_cons (dg_name (i := 9) sc__law_key.nd) (dgs_cons (dg_name (i := 10) sc__law_key.nd) dgs_nil)))) (dgs_cons (dg_name (i := 2) sc__law_key.nd) dgs_nil)))) (dss_cons (ds_asg (de_var 1) (dg_tup (n := 5) rfl (dgs_cons (dg_name (i := 3) sc__law_key.nd) (dgs_cons (dg_name (i := 4) sc__law_key.nd) (dgs_cons (dg_name (i := 5) sc__law_key.nd) (dgs_cons (dg_name (i := 6) sc__law_key.nd) (dgs_cons (dg_name (i := 7) sc__law_key.nd) dgs_nil))))))) (dss_cons (ds_if (PW.pt (dw_or (PW.pt (dw_and (dt_val (de_var 7)) (dw_and1 (dt_not (dt_val (de_var 10)))))) (dw_or1 (PW.pt (dw_and (dt_cmp op_isNotDD (de_var 5) de_non) (dw_and1 (dt_cmp (op_neDD (hu64 hr)) (de_slc (de_var 8) (dp_so (de_neg (de_callB cb_lenA (by rfl) z_len bt_len (da_cons (de_var 5) da_nil)))) dp_no) (de_var 5)))))))) (dss_one (ds_ret de_non)) dss_nil) (dss_one (ds_ret (de_tup (da_cons (de_var 3) (da_cons (de_if (dt_cmp op_isDD (de_var 5) de_non) (de_var 8) (de_var 5)) (da_cons (de_if (dt_cmp op_isDD (de_var 6) de_non) (de_slc (de_var 9) dp_no (dp_so (de_neg de_int))) (de_var 6)) (da_cons (de_cmp op_isDD (de_var 5) de_non) da_nil))))))))))

abbrev s__law_visited : Stmt := top 58
theorem sc__law_visited : FnScope ["kept", "page", "found", "write", "term", "known", "one", "worth"] ["kept", "page"] (defScope s__law_visited) := ⟨rfl, rfl, rfl, by decide +kernel, rfl, by decide +kernel, by decide +kernel⟩
def dn__law_visited : SD := (sSeq (sSet 2 (eNew (lBlt listF (aCons (eVar 0) aNil)))) (sSeq (sFor (itK (eBin ixD (eVar 1) (eCon (.int 1)))) (gNm 3) (sSeq (sSet 4 (eCall rn__law_key (aCons (eVar 1) (aCons (eVar 3) aNil)))) (sSeq (sSet 5 (eLst (lLcR [6, 7] (nLst (eVar 2)) (gTp 2 (gsCons (gNm 6) (gsCons (gNm 7) gsNil))) bYes (eVar 6)))) (sSeq (sIf (bOr (tVal (eBin isD (eVar 4) (eCon .non))) (bAnd (tVal (eBin notIn3 (eVar 4) (eVar 5))) (tVal (eBin isD (eBin ixD (eVar 3) (eCon (.int 1))) (eCon .non))))) sCnt sNil) (sIf (tVal (eBin notIn3 (eVar 4) (eVar 5))) (sExpr (eApp (eVar 2) (aCons (eTup (aCons (eVar 4) (aCons (eTup (aCons (eBin ixD (eVar 3) (eCon (.int 1))) (aCons (eBin ixD (eVar 3) (eCon (.int 4))) aNil))) aNil))) aNil))) (sIf (tVal (eBin isD (eBin ixD (eVar 3) (eCon (.int 1))) (eCon .non))) (sExpr (eMeth popG (eVar 2) (aCons (eIndex (eVar 5) (aCons (eVar 4) aNil)) aNil))) (sLPut (eVar 2) (eIndex (eVar 5) (aCons (eVar 4) aNil)) (eTup (aCons (eVar 4) (aCons (eTup (aCons (eBin ixD (eVar 3) (eCon (.int 1))) (aCons (eBin ixD (eVar 3) (eCon (.int 4))) aNil))) aNil)))))))))) (sRet (eFrz (eVar 2)))))
def rn__law_visited : List W → Sto → R W := fun ws st => noX (runS 8 dn__law_visited ws st)
theorem ok__law_visited {P : Program} {w : World} {K : PySem.W.Frag} {mg : Str → Option Value} {base : Heap} {ct : Nat → Value} {f : Addr} {fd : FuncData} (F : Fun K "_law_visited" "_law_visited" s__law_visited f fd) (z_list : mg "list" = none) (C__law_key : Cal P w K mg base ct "_law_key" 2 1 rn__law_key) :
    FnG P w K mg base CX0 2 f fd ["kept", "page"] (spG ⟨K, w, mg⟩ ct 2 rn__law_visited) := by
  refine fn_den0 F sc__law_visited (fun cdv A outer s H E gd hr => ?_)
  exact (dss_cons (ds_set (i := 2) sc__law_visited.nd (de_new (df_callT cf_list (by rfl) z_list bt_list (da_cons (de_var 0) da_nil)))) (dss_cons (ds_for PassesOwn.never rfl (di_k (de_ix (de_var 1) de_int)) (dg_name (i := 3) sc__law_visited.nd) (dss_cons (ds_set (i := 4) sc__law_visited.nd (de_calC C__law_key gd (Room.mono hr (by decide)) (by rfl) (aCons_len (aCons_len aNil_len)) (da_cons (de_var 1) (da_cons (de_var 3) da_nil)))) (dss_cons (ds_setLcR (i := 5) (own := [("one", 6), ("worth", 7)]) rfl sc__law_visited.nd rfl rfl (sw_true rfl rfl rfl (by decide +kernel)) (dn_list (de_var 2)) (blkOk_by (own := [("one", 6), ("worth", 7)]) (N := ["kept", "page", "found", "write", "term", "known", "one", "worth"]) (sc := defScope s__law_visited) (by decide +kernel)) (fun _ _ _ _ _ => (dg_tup (n := 2) rfl (dgs_cons (dg_name (i := 6) sc__law_visited.nd) (dgs_cons (dg_name (i := 7) sc__law_visited.nd) dgs_nil)))) (fun _ _ _ _ _ => dts_nil) (fun _ _ _ _ _ => (de_var 6))) (dss_cons (ds_if (PW.pt (dw_or (dt_cmp op_isDD (de_var 4) de_non) (dw_or1 (PW.pt (dw_and (dt_cmp (op_notIn3 (hu65 hr)) (de_var 4) (de_var 5)) (dw_and1 (dt_cmp op_isDD (de_ix (de_var 3) de_int) de_non))))))) (dss_one ds_cnt) dss_nil) (dss_one (ds_if (dt_cmp (op_notIn3 (hu65 hr)) (de_var 4) (de_var 5)) (dss_one (ds_expr (de_app (de_var 2) (da_cons (de_tup (da_cons (de_var 4) (da_cons (de_tup (da_cons (de_ix (de_var 3) de_int) (da_cons (de_ix (de_var 3) de_int) da_nil))) da_nil))) da_nil)))) (dss_one (ds_if (dt_cmp op_isDD (de_ix (de_var 3) de_int) de_non) (dss_one (ds_expr (de_pop (de_var 2) (da_cons (de_index (hu65 hr) (de_var 5) (da_cons (de_var 4) da_nil)) da_nil)))) (dss_one (ds_lput (de_var 2) (de_index (hu65 hr) (de_var 5) (da_cons (de_var 4) da_nil)) (de_tup (da_cons (de_var 4) (da_cons (de_tup (da_cons (de_ix (de_var 3) de_int) (da_cons (de_ix (de_var 3) de_int) da_nil))) da_nil))))))))))))) (dss_one (ds_ret (de_frz (de_var 2))))))

abbrev s__law_behind : Stmt := top 59
theorem sc__law_behind : FnScope ["site", "row", "kept", "number"] ["site", "row"] (defScope s__law_behind) := ⟨rfl, rfl, rfl, by decide +kernel, rfl, by decide +kernel, by decide +kernel⟩
def dn__law_behind : SD := (sSeq (sSet 2 (eLst (aLim aNil))) (sSeq (sFor (itK (eVar 1)) (gNm 3) (sSet 2 (eCall rn__law_visited (aCons (eVar 2) (aCons (eBin ix2 (eVar 0) (eVar 3)) aNil))))) (sRet (eVar 2))))
def rn__law_behind : List W → Sto → R W := fun ws st => noX (runS 4 dn__law_behind ws st)
theorem ok__law_behind {P : Program} {w : World} {K : PySem.W.Frag} {mg : Str → Option Value} {base : Heap} {ct : Nat → Value} {f : Addr} {fd : FuncData} (F : Fun K "_law_behind" "_law_behind" s__law_behind f fd) (C__law_visited : Cal P w K mg base ct "_law_visited" 2 2 rn__law_visited) :
    FnG P w K mg base CX0 3 f fd ["site", "row"] (spG ⟨K, w, mg⟩ ct 2 rn__law_behind) := by
  refine fn_den0 F sc__law_behind (fun cdv A outer s H E gd hr => ?_)
  exact (dss_cons (ds_set (i := 2) sc__law_behind.nd (de_val (df_lst da_nil))) (dss_cons (ds_for PassesOwn.never rfl (di_k (de_var 1)) (dg_name (i := 3) sc__law_behind.nd) (dss_one (ds_set (i := 2) sc__law_behind.nd (de_calC C__law_visited gd (Room.mono hr (by decide)) (by rfl) (aCons_len (aCons_len aNil_len)) (da_cons (de_var 2) (da_cons (de_ix2 (hu65 hr) (de_var 0) (de_var 3)) da_nil)))))) (dss_one (ds_ret (de_var 2)))))

abbrev s__law_goes : Stmt := top 60
theorem sc__law_goes : FnScope ["term", "worth", "address", "host", "path", "secure", "name", "domain", "folder", "alone"] ["term", "worth", "address"] (defScope s__law_goes) := ⟨rfl, rfl, rfl, by decide +kernel, rfl, by decide +kernel, by decide +kernel⟩
def dn__law_goes : SD := (sSeq (sAsg (eTup (aCons (eVar 2) (aCons (eVar 0) aNil))) (gTp 2 (gsCons (gTp 3 (gsCons (gNm 3) (gsCons (gNm 4) (gsCons (gNm 5) gsNil)))) (gsCons (gTp 4 (gsCons (gNm 6) (gsCons (gNm 7) (gsCons (gNm 8) (gsCons (gNm 9) gsNil))))) gsNil)))) (sSeq (sIf (bOr (bAnd (tVal (eBin ixD (eVar 1) (eCon (.int 1)))) (bNot (tVal (eVar 5)))) (tVal (eBin neD (eSlc (eVar 4) pNo (pSo (eBlt lenA (aCons (eVar 8) aNil)))) (eVar 8)))) (sRet (eCon (.bl false))) sNil) (sRet (eIf (tVal (eVar 9)) (eBin eqD (eVar 3) (eVar 7)) (eBin eqD (eSlc (eVar 3) (pSo (eNeg (eBlt lenA (aCons (eVar 7) aNil)))) pNo) (eVar 7))))))
def rn__law_goes : List W → Sto → R W := fun ws st => noX (runS 10 dn__law_goes ws st)
theorem ok__law_goes {P : Program} {w : World} {K : PySem.W.Frag} {mg : Str → Option Value} {base : Heap} {ct : Nat → Value} {f : Addr} {fd : FuncData} (F : Fun K "_law_goes" "_law_goes" s__law_goes f fd) (z_len : mg "len" = none) :
    FnG P w K mg base CX0 1 f fd ["term", "worth", "address"] (spG ⟨K, w, mg⟩ ct 3 rn__law_goes) := by
  refine fn_den0 F sc__law_goes (fun cdv A outer s H E gd hr => ?_)
  exact (dss_cons (ds_asg (de_tup (da_cons (de_var 2) (da_cons (de_var 0) da_nil))) (dg_tup (n := 2) rfl (dgs_cons (dg_tup (n := 3) rfl (dgs_cons (dg_name (i := 3) sc__law_goes.nd) (dgs_cons (dg_name (i := 4) sc__law_goes.nd) (dgs_cons (dg_name (i := 5) sc__law_goes.nd) dgs_nil)))) (dgs_cons (dg_tup (n := 4) rfl (dgs_cons (dg_name (i := 6) sc__law_goes.nd) (dgs_cons (dg_name (i := 7) sc__law_goes.nd) (dgs_cons (dg_name (i := 8) sc__law_goes.nd) (dgs_cons (dg_name (i := 9) sc__law_goes.nd) dgs_nil))))) dgs_nil)))) (dss_cons (ds_if (PW.pt (dw_or (PW.pt (dw_and (dt_val (de_ix (de_var 1) de_int)) (dw_and1 (dt_not (dt_val (de_var 5)))))) (dw_or1 (dt_cmp (op_neDD (hu64 hr)) (de_slc (de_var 4) dp_no (dp_so (de_callB cb_lenA (by rfl) z_len bt_len (da_cons (de_var 8) da_nil)))) (de_var 8))))) (dss_one (ds_ret de_bl)) dss_nil) (dss_one (ds_ret (de_if (dt_val (de_var 9)) (de_cmp (op_eqDD (hu64 hr)) (de_var 3) (de_var 7)) (de_cmp (op_eqDD (hu64 hr)) (de_slc (de_var 3) (dp_so (de_neg (de_callB cb_lenA (by rfl) z_len bt_len (da_cons (de_var 7) da_nil)))) dp_no) (de_var 7)))))))

abbrev s__law_sent : Stmt := top 61
theorem sc__law_sent : FnScope ["kept", "address", "some", "pair", "term", "worth"] ["kept", "address"] (defScope s__law_sent) := ⟨rfl, rfl, rfl, by decide +kernel, rfl, by decide +kernel, by decide +kernel⟩
def dn__law_sent : SD := (sSeq (sSet 2 (eLst (lLc [3] (itK (eVar 0)) (gNm 3) (tVal (eCall rn__law_goes (aCons (eBin ixD (eVar 3) (eCon (.int 0))) (aCons (eBin ixD (eVar 3) (eCon (.int 1))) (aCons (eVar 1) aNil))))) (eVar 3)))) (sSeq (sSet 2 (eLst (lSortL 0 ("_law_sent", none) "_law_sent.<locals>.<lambda>" (eTup (aCons (eBin ixD (eBin ixD (eVar 0) (eCon (.int 0))) (eCon (.int 0))) (aCons (eBin subD (eCon (.int 0)) (eBlt lenA (aCons (eBin ixD (eBin ixD (eVar 0) (eCon (.int 0))) (eCon (.int 2))) aNil))) (aCons (eBin ixD (eBin ixD (eVar 0) (eCon (.int 0))) (eCon (.int 2))) aNil)))) (aCons (eVar 2) aNil)))) (sRet (eBlt tupleB (aCons (eLst (lLc [4, 5] (itK (eVar 2)) (gTp 2 (gsCons (gNm 4) (gsCons (gNm 5) gsNil))) bYes (eTup (aCons (eBin ixD (eVar 4) (eCon (.int 0))) (aCons (eBin ixD (eVar 5) (eCon (.int 0))) aNil))))) aNil)))))
def rn__law_sent : List W → Sto → R W := fun ws st => noX (runS 6 dn__law_sent ws st)
theorem ok__law_sent {P : Program} {w : World} {K : PySem.W.Frag} {mg : Str → Option Value} {base : Heap} {ct : Nat → Value} {fd : FuncData} (F : Fun K "_law_sent" "_law_sent" s__law_sent (He.fAd K ("_law_sent", none)) fd) (TB : LamX.TabB base mg (He.cT K ("_law_sent", none)).1 (He.cT K ("_law_sent", none)).2) (C__law_goes : Cal P w K mg base ct "_law_goes" 3 1 rn__law_goes) (z_sorted : mg "sorted" = none) (z_len : mg "len" = none) (z_tuple : mg "tuple" = none) :
    FnG P w K mg base CX0 3 (He.fAd K ("_law_sent", none)) fd ["kept", "address"] (spG ⟨K, w, mg⟩ ct 2 rn__law_sent) := by
  refine fn_den0T F sc__law_sent (fun A outer s H E gd hr => ?_)
  exact (dss_cons (ds_setLc (i := 2) (own := [("pair", 3)]) rfl sc__law_sent.nd rfl rfl (sw_true rfl rfl rfl (by decide +kernel)) (di_k (de_var 0)) (blkOk_by (own := [("pair", 3)]) (N := ["kept", "address", "some", "pair", "term", "worth"]) (sc := defScope s__law_sent) (by decide +kernel)) (fun _ _ _ _ _ => (dg_name (i := 3) sc__law_sent.nd)) (fun _ _ _ _ _ => (dts_one (dt_val (de_calC C__law_goes gd (Room.mono hr (by decide)) (by rfl) (aCons_len (aCons_len (aCons_len aNil_len))) (da_cons (de_ix (de_var 3) de_int) (da_cons (de_ix (de_var 3) de_int) (da_cons (de_var 1) da_nil))))))) (fun _ _ _ _ _ => (de_var 3))) (dss_cons (ds_set (i := 2) sc__law_sent.nd (de_val (df_sortLam (l := 0) (pn := ("_law_sent", none)) (x := "pair") (k := 0) gd (Room.mono hr (by decide)) TB rfl (by kernel_rfl) ⟨rfl, rfl, rfl, by decide +kernel, rfl, by decide +kernel, by decide +kernel⟩ rfl (fun _ _ _ _ => rfl) (fun _ _ _ _ _ _ _ gd hr => (de_tup (da_cons (de_ix (de_ix (de_var 0) de_int) de_int) (da_cons (de_bin op_subD de_int (de_callB cb_lenA (by rfl) z_len bt_len (da_cons (de_ix (de_ix (de_var 0) de_int) de_int) da_nil))) (da_cons (de_ix (de_ix (de_var 0) de_int) de_int) da_nil))))) (by rfl) z_sorted (de_var 2)))) (dss_one (ds_ret (de_callT cb_tuple (by rfl) z_tuple bt_tuple (da_cons (de_val (df_lc (own := [("term", 4), ("worth", 5)]) rfl sc__law_sent.nd (di_k (de_var 2)) (blkOk_by (own := [("term", 4), ("worth", 5)]) (N := ["kept", "address", "some", "pair", "term", "worth"]) (sc := defScope s__law_sent) (by decide +kernel)) (fun _ _ _ _ _ => (dg_tup (n := 2) rfl (dgs_cons (dg_name (i := 4) sc__law_sent.nd) (dgs_cons (dg_name (i := 5) sc__law_sent.nd) dgs_nil)))) (fun _ _ _ _ _ => dts_nil) (fun _ _ _ _ _ => (de_tup (da_cons (de_ix (de_var 4) de_int) (da_cons (de_ix (de_var 5) de_int) da_nil)))))) da_nil))))))

abbrev s__law_parts : Stmt := top 62
theorem sc__law_parts : FnScope ["rows", "up", "low", "here", "deep", "bare", "one", "two", "three"] [] (defScope s__law_parts) := ⟨rfl, rfl, rfl, by decide +kernel, rfl, by decide +kernel, by decide +kernel⟩
def dn__law_parts : SD := (sSeq (sAsg (eTup (aCons (eTup (aCons (eCon (.str "b")) (aCons (eCon (.str "c")) aNil))) (aCons (eTup (aCons (eCon (.str "a")) (aCons (eCon (.str "b")) (aCons (eCon (.str "c")) aNil)))) aNil))) (gTp 2 (gsCons (gNm 1) (gsCons (gNm 2) gsNil)))) (sSeq (sPar3 3 4 5 (aCons (eTup (aCons (eVar 2) (aCons (eTup aNil) (aCons (eCon (.bl true)) aNil)))) (aCons (eTup (aCons (eVar 2) (aCons (eTup (aCons (eCon (.str "p")) (aCons (eCon (.str "q")) aNil))) (aCons (eCon (.bl true)) aNil)))) (aCons (eTup (aCons (eVar 2) (aCons (eTup aNil) (aCons (eCon (.bl false)) aNil)))) aNil)))) (sSeq (sPar3 6 7 8 (aCons (eTup (aCons (eCon (.str "u")) (aCons (eVar 1) (aCons (eTup aNil) (aCons (eCon (.bl false)) aNil))))) (aCons (eTup (aCons (eCon (.str "v")) (aCons (eVar 2) (aCons (eTup aNil) (aCons (eCon (.bl false)) aNil))))) (aCons (eTup (aCons (eCon (.str "w")) (aCons (eVar 1) (aCons (eTup (aCons (eCon (.str "p")) aNil)) (aCons (eCon (.bl false)) aNil))))) aNil)))) (sSeq (sSet 0 (eLst (aLim (aCons (eTup (aCons (eLst (aLim (aCons (eTup (aCons (eVar 2) (aCons (eLst (aLim (aCons (eVar 6) aNil))) aNil))) aNil))) (aCons (eCon (.int 0)) (aCons (eVar 3) (aCons (eFrzL (eLdD [((.str "u"), (eCon (.int 1)))])) (aCons (eCon (.bl true)) aNil)))))) (aCons (eTup (aCons (eLst (aLim (aCons (eTup (aCons (eVar 2) (aCons (eLst (aLim (aCons (eVar 6) aNil))) aNil))) aNil))) (aCons (eCon (.int 0)) (aCons (eTup (aCons (eTup (aCons (eCon (.str "d")) (aCons (eCon (.str "c")) aNil))) (aCons (eTup aNil) (aCons (eCon (.bl true)) aNil)))) (aCons (eFrzL (eLdD [(.non, (eCon (.int 1)))])) (aCons (eCon (.bl false)) aNil)))))) aNil))))) (sSeq (sSet 0 (eLst (lCat (eVar 0) (eLst (aLim (aCons (eTup (aCons (eLst (aLim (aCons (eTup (aCons (eVar 2) (aCons (eLst (aLim (aCons (eVar 6) aNil))) aNil))) (aCons (eTup (aCons (eVar 2) (aCons (eLst (aLim (aCons (eVar 7) aNil))) aNil))) aNil)))) (aCons (eCon (.int 0)) (aCons (eVar 3) (aCons (eFrzL (eLdD [((.str "u"), (eCon (.int 1))), ((.str "v"), (eCon (.int 2)))])) (aCons (eCon (.bl true)) aNil)))))) aNil)))))) (sSeq (sSet 0 (eLst (lCat (eVar 0) (eLst (aLim (aCons (eTup (aCons (eLst (aLim (aCons (eTup (aCons (eVar 2) (aCons (eLst (aLim (aCons (eVar 6) aNil))) aNil))) (aCons (eTup (aCons (eVar 2) (aCons (eLst (aLim (aCons (eVar 7) aNil))) aNil))) aNil)))) (aCons (eCon (.int 1)) (aCons (eVar 3) (aCons (eFrzL (eLdD [((.str "u"), (eCon (.int 2))), ((.str "v"), (eCon (.int 1)))])) (aCons (eCon (.bl true)) aNil)))))) aNil)))))) (sSeq (sSet 0 (eLst (lCat (eVar 0) (eLst (aLim (aCons (eTup (aCons (eLst (aLim (aCons (eTup (aCons (eVar 2) (aCons (eLst (aLim (aCons (eVar 6) aNil))) aNil))) (aCons (eTup (aCons (eVar 2) (aCons (eLst (aLim (aCons (eVar 8) aNil))) aNil))) aNil)))) (aCons (eCon (.int 0)) (aCons (eVar 4) (aCons (eFrzL (eLdD [((.str "u"), (eCon (.int 1))), ((.str "w"), (eCon (.int 2)))])) (aCons (eCon (.bl true)) aNil)))))) aNil)))))) (sSeq (sSet 0 (eLst (lCat (eVar 0) (eLst (aLim (aCons (eTup (aCons (eLst (aLim (aCons (eTup (aCons (eVar 2) (aCons (eLst (aLim (aCons (eVar 6) aNil))) aNil))) (aCons (eTup (aCons (eVar 2) (aCons (eLst (aLim (aCons (eVar 8) aNil))) aNil))) aNil)))) (aCons (eCon (.int 1)) (aCons (eVar 4) (aCons (eFrzL (eLdD [((.str "w"), (eCon (.int 1)))])) (aCons (eCon (.bl true)) aNil)))))) aNil)))))) (sSeq (sSet 0 (eLst (lCat (eVar 0) (eLst (aLim (aCons (eTup (aCons (eLst (aLim (aCons (eTup (aCons (eVar 2) (aCons (eLst (aLim (aCons (eVar 6) aNil))) aNil))) (aCons (eTup (aCons (eVar 2) (aCons (eLst (aLim (aCons (eVar 8) aNil))) aNil))) aNil)))) (aCons (eCon (.int 1)) (aCons (eVar 3) (aCons (eFrzL (eLdD [(.non, (eCon (.int 1))), ((.str "u"), (eCon (.int 2)))])) (aCons (eCon (.bl false)) aNil)))))) aNil)))))) (sSeq (sSet 0 (eLst (lCat (eVar 0) (eLst (aLim (aCons (eTup (aCons (eLst (aLim (aCons (eTup (aCons (eVar 2) (aCons (eLst (aLim (aCons (eVar 6) aNil))) aNil))) (aCons (eTup (aCons (eVar 2) (aCons (eLst (aLim (aCons (eTup (aCons (eCon (.str "x")) (aCons (eVar 1) (aCons (eTup aNil) (aCons (eCon (.bl false)) aNil))))) aNil))) aNil))) aNil)))) (aCons (eCon (.int 1)) (aCons (eVar 3) (aCons (eFrzL (eLdD [((.str "x"), (eCon (.int 1)))])) (aCons (eCon (.bl true)) aNil)))))) aNil)))))) (sSeq (sSet 0 (eLst (lCat (eVar 0) (eLst (aLim (aCons (eTup (aCons (eLst (aLim (aCons (eTup (aCons (eVar 2) (aCons (eLst (aLim (aCons (eVar 6) aNil))) aNil))) (aCons (eTup (aCons (eVar 2) (aCons (eLst (aLim (aCons (eTup (aCons (eCon .non) (aCons (eVar 1) (aCons (eTup aNil) (aCons (eCon (.bl false)) aNil))))) aNil))) aNil))) aNil)))) (aCons (eCon (.int 1)) (aCons (eVar 3) (aCons (eFrzL (eLdD [(.non, (eCon (.int 1)))])) (aCons (eCon (.bl false)) aNil)))))) aNil)))))) (sSeq (sSet 0 (eLst (lCat (eVar 0) (eLst (aLim (aCons (eTup (aCons (eLst (aLim (aCons (eTup (aCons (eVar 2) (aCons (eLst (aLim (aCons (eVar 6) aNil))) aNil))) (aCons (eTup (aCons (eVar 2) (aCons (eLst (aLim aNil)) aNil))) (aCons (eTup (aCons (eVar 2) (aCons (eLst (aLim (aCons (eVar 7) aNil))) aNil))) aNil))))) (aCons (eCon (.int 1)) (aCons (eVar 3) (aCons (eFrzL (eLdD [(.non, (eCon (.int 1))), ((.str "u"), (eCon (.int 2))), ((.str "v"), (eCon (.int 2)))])) (aCons (eCon (.bl false)) aNil)))))) aNil)))))) (sSeq (sSet 0 (eLst (lCat (eVar 0) (eLst (aLim (aCons (eTup (aCons (eLst (aLim (aCons (eTup (aCons (eVar 2) (aCons (eLst (aLim (aCons (eVar 6) (aCons (eVar 7) aNil)))) aNil))) aNil))) (aCons (eCon (.int 0)) (aCons (eVar 3) (aCons (eFrzL (eLdD [((.str "u"), (eCon (.int 1)))])) (aCons (eCon (.bl true)) aNil)))))) (aCons (eTup (aCons (eLst (aLim (aCons (eTup (aCons (eVar 2) (aCons (eLst (aLim (aCons (eVar 7) (aCons (eVar 6) aNil)))) aNil))) aNil))) (aCons (eCon (.int 0)) (aCons (eVar 3) (aCons (eFrzL (eLdD [((.str "v"), (eCon (.int 1)))])) (aCons (eCon (.bl true)) aNil)))))) aNil))))))) (sSeq (sSet 0 (eLst (lCat (eVar 0) (eLst (aLim (aCons (eTup (aCons (eLst (aLim (aCons (eTup (aCons (eVar 2) (aCons (eLst (aLim (aCons (eVar 7) (aCons (eVar 6) aNil)))) aNil))) (aCons (eTup (aCons (eVar 2) (aCons (eLst (aLim (aCons (eTup (aCons (eCon .non) (aCons (eVar 2) (aCons (eTup aNil) (aCons (eCon (.bl false)) aNil))))) aNil))) aNil))) aNil)))) (aCons (eCon (.int 0)) (aCons (eVar 3) (aCons (eFrzL (eLdD [((.str "v"), (eCon (.int 1))), ((.str "u"), (eCon (.int 3)))])) (aCons (eCon (.bl true)) aNil)))))) aNil)))))) (sSeq (sSet 0 (eLst (lCat (eVar 0) (eLst (aLim (aCons (eTup (aCons (eLst (aLim (aCons (eTup (aCons (eVar 2) (aCons (eLst (aLim (aCons (eTup (aCons (eCon (.str "u")) (aCons (eVar 1) (aCons (eTup aNil) (aCons (eCon (.bl true)) aNil))))) aNil))) aNil))) aNil))) (aCons (eCon (.int 0)) (aCons (eVar 5) (aCons (eFrzL (eLdD [(.non, (eCon (.int 1)))])) (aCons (eCon (.bl false)) aNil)))))) aNil)))))) (sSeq (sSet 0 (eLst (lCat (eVar 0) (eLst (aLim (aCons (eTup (aCons (eLst (aLim (aCons (eTup (aCons (eVar 2) (aCons (eLst (aLim (aCons (eTup (aCons (eCon (.str "u")) (aCons (eVar 1) (aCons (eTup aNil) (aCons (eCon (.bl true)) aNil))))) aNil))) aNil))) aNil))) (aCons (eCon (.int 0)) (aCons (eVar 3) (aCons (eFrzL (eLdD [((.str "u"), (eCon (.int 1)))])) (aCons (eCon (.bl true)) aNil)))))) aNil)))))) (sSeq (sSet 0 (eLst (lCat (eVar 0) (eLst (aLim (aCons (eTup (aCons (eLst (aLim (aCons (eTup (aCons (eVar 2) (aCons (eLst (aLim (aCons (eTup (aCons (eCon (.str "u")) (aCons (eVar 1) (aCons (eTup aNil) (aCons (eCon (.bl true)) aNil))))) (aCons (eVar 7) aNil)))) aNil))) aNil))) (aCons (eCon (.int 0)) (aCons (eVar 5) (aCons (eFrzL (eLdD [((.str "v"), (eCon (.int 1)))])) (aCons (eCon (.bl true)) aNil)))))) aNil)))))) (sRet (eLst (lCat (eVar 0) (eLst (aLim (aCons (eTup (aCons (eLst (aLim (aCons (eTup (aCons (eVar 2) (aCons (eLst (aLim (aCons (eVar 6) (aCons (eTup (aCons (eCon .non) (aCons (eVar 1) (aCons (eTup aNil) (aCons (eCon (.bl false)) aNil))))) (aCons (eVar 6) (aCons (eVar 7) aNil)))))) aNil))) aNil))) (aCons (eCon (.int 0)) (aCons (eVar 3) (aCons (eFrzL (eLdD [((.str "u"), (eCon (.int 1))), ((.str "v"), (eCon (.int 2)))])) (aCons (eCon (.bl true)) aNil)))))) aNil)))))))))))))))))))))))
def rn__law_parts : List W → Sto → R W := fun ws st => noX (runS 9 dn__law_parts ws st)
theorem ok__law_parts {P : Program} {w : World} {K : PySem.W.Frag} {mg : Str → Option Value} {base : Heap} {ct : Nat → Value} {f : Addr} {fd : FuncData} (F : Fun K "_law_parts" "_law_parts" s__law_parts f fd)  :
    FnG P w K mg base CX0 1 f fd [] (spG ⟨K, w, mg⟩ ct 0 rn__law_parts) := by
  refine fn_den0 F sc__law_parts (fun cdv A outer s H E gd hr => ?_)
  exact (dss_cons (ds_asg (de_tup (da_cons (de_tup (da_cons de_str (da_cons de_str da_nil))) (da_cons (de_tup (da_cons de_str (da_cons de_str (da_cons de_str da_nil)))) da_nil))) (dg_tup (n := 2) rfl (dgs_cons (dg_name (i := 1) sc__law_parts.nd) (dgs_cons (dg_name (i := 2) sc__law_parts.nd) dgs_nil)))) (dss_cons (ds_par3 (i := 3) (j := 4) (l := 5) rfl sc__law_parts.nd rfl rfl rfl (by decide) (by decide) (by decide) rfl rfl rfl (da_cons (de_tup (da_cons (de_var 2) (da_cons (de_tup da_nil) (da_cons de_bl da_nil)))) (da_cons (de_tup (da_cons (de_var 2) (da_cons (de_tup (da_cons de_str (da_cons de_str da_nil))) (da_cons de_bl da_nil)))) (da_cons (de_tup (da_cons (de_var 2) (da_cons (de_tup da_nil) (da_cons de_bl da_nil)))) da_nil))) rfl) (dss_cons (ds_par3 (i := 6) (j := 7) (l := 8) rfl sc__law_parts.nd rfl rfl rfl (by decide) (by decide) (by decide) rfl rfl rfl (da_cons (de_tup (da_cons de_str (da_cons (de_var 1) (da_cons (de_tup da_nil) (da_cons de_bl da_nil))))) (da_cons (de_tup (da_cons de_str (da_cons (de_var 2) (da_cons (de_tup da_nil) (da_cons de_bl da_nil))))) (da_cons (de_tup (da_cons de_str (da_cons (de_var 1) (da_cons (de_tup (da_cons de_str da_nil)) (da_cons de_bl da_nil))))) da_nil))) rfl) (dss_cons (ds_set (i := 0) sc__law_parts.nd (de_val (df_lst (da_cons (de_tup (da_cons (de_val (df_lst (da_cons (de_tup (da_cons (de_var 2) (da_cons (de_val (df_lst (da_cons (de_var 6) da_nil))) da_nil))) da_nil))) (da_cons de_int (da_cons (de_var 3) (da_cons (de_frzL (de_ldD (fs := [((.str "u"), (eCon (.int 1)))]) (.cons de_str de_int .nil))) (da_cons de_bl da_nil)))))) (da_cons (de_tup (da_cons (de_val (df_lst (da_cons (de_tup (da_cons (de_var 2) (da_cons (de_val (df_lst (da_cons (de_var 6) da_nil))) da_nil))) da_nil))) (da_cons de_int (da_cons (de_tup (da_cons (de_tup (da_cons de_str (da_cons de_str da_nil))) (da_cons (de_tup da_nil) (da_cons de_bl da_nil)))) (da_cons (de_frzL (de_ldD (fs := [(.non, (eCon (.int 1)))]) (.cons de_non de_int .nil))) (da_cons de_bl da_nil)))))) da_nil))))) (dss_cons (ds_set (i := 0) sc__law_parts.nd (de_val (df_cat (de_var 0) (de_val (df_lst (da_cons (de_tup (da_cons (de_val (df_lst (da_cons (de_tup (da_cons (de_var 2) (da_cons (de_val (df_lst (da_cons (de_var 6) da_nil))) da_nil))) (da_cons (de_tup (da_cons (de_var 2) (da_cons (de_val (df_lst (da_cons (de_var 7) da_nil))) da_nil))) da_nil)))) (da_cons de_int (da_cons (de_var 3) (da_cons (de_frzL (de_ldD (fs := [((.str "u"), (eCon (.int 1))), ((.str "v"), (eCon (.int 2)))]) (.cons de_str de_int (.cons de_str de_int .nil)))) (da_cons de_bl da_nil)))))) da_nil)))))) (dss_cons (ds_set (i := 0) sc__law_parts.nd (de_val (df_cat (de_var 0) (de_val (df_lst (da_cons (de_tup (da_cons (de_val (df_lst (da_cons (de_tup (da_cons (de_var 2) (da_cons (de_val (df_lst (da_cons (de_var 6) da_nil))) da_nil))) (da_cons (de_tup (da_cons (de_var 2) (da_cons (de_val (df_lst (da_cons (de_var 7) da_nil))) da_nil))) da_nil)))) (da_cons de_int (da_cons (de_var 3) (da_cons (de_frzL (de_ldD (fs := [((.str "u"), (eCon (.int 2))), ((.str "v"), (eCon (.int 1)))]) (.cons de_str de_int (.cons de_str de_int .nil)))) (da_cons de_bl da_nil)))))) da_nil)))))) (dss_cons (ds_set (i := 0) sc__law_parts.nd (de_val (df_cat (de_var 0) (de_val (df_lst (da_cons (de_tup (da_cons (de_val (df_lst (da_cons (de_tup (da_cons (de_var 2) (da_cons (de_val (df_lst (da_cons (de_var 6) da_nil))) da_nil))) (da_cons (de_tup (da_cons (de_var 2) (da_cons (de_val (df_lst (da_cons (de_var 8) da_nil))) da_nil))) da_nil)))) (da_cons de_int (da_cons (de_var 4) (da_cons (de_frzL (de_ldD (fs := [((.str "u"), (eCon (.int 1))), ((.str "w"), (eCon (.int 2)))]) (.cons de_str de_int (.cons de_str de_int .nil)))) (da_cons de_bl da_nil)))))) da_nil)))))) (dss_cons (ds_set (i := 0) sc__law_parts.nd (de_val (df_cat (de_var 0) (de_val (df_lst (da_cons (de_tup (da_cons (de_val (df_lst (da_cons (de_tup (da_cons (de_var 2) (da_cons (de_val (df_lst (da_cons (de_var 6) da_nil))) da_nil))) (da_cons (de_tup (da_cons (de_var 2) (da_cons (de_val (df_lst (da_cons (de_var 8) da_nil))) da_nil))) da_nil)))) (da_cons de_int (da_cons (de_var 4) (da_cons (de_frzL (de_ldD (fs := [((.str "w"), (eCon (.int 1)))]) (.cons de_str de_int .nil))) (da_cons de_bl da_nil)))))) da_nil)))))) (dss_cons (ds_set (i := 0) sc__law_parts.nd (de_val (df_cat (de_var 0) (de_val (df_lst (da_cons (de_tup (da_cons (de_val (df_lst (da_cons (de_tup (da_cons (de_var 2) (da_cons (de_val (df_lst (da_cons (de_var 6) da_nil))) da_nil))) (da_cons (de_tup (da_cons (de_var 2) (da_cons (de_val (df_lst (da_cons (de_var 8) da_nil))) da_nil))) da_nil)))) (da_cons de_int (da_cons (de_var 3) (da_cons (de_frzL (de_ldD (fs := [(.non, (eCon (.int 1))), ((.str "u"), (eCon (.int 2)))]) (.cons de_non de_int (.cons de_str de_int .nil)))) (da_cons de_bl da_nil)))))) da_nil)))))) (dss_cons (ds_set (i := 0) sc__law_parts.nd (de_val (df_cat (de_var 0) (de_val (df_lst (da_cons (de_tup (da_cons (de_val (df_lst (da_cons (de_tup (da_cons (de_var 2) (da_cons (de_val (df_lst (da_cons (de_var 6) da_nil))) da_nil))) (da_cons (de_tup (da_cons (de_var 2) (da_cons (de_val (df_lst (da_cons (de_tup (da_cons de_str (da_cons (de_var 1) (da_cons (de_tup da_nil) (da_cons de_bl da_nil))))) da_nil))) da_nil))) da_nil)))) (da_cons de_int (da_cons (de_var 3) (da_cons (de_frzL (de_ldD (fs := [((.str "x"), (eCon (.int 1)))]) (.cons de_str de_int .nil))) (da_cons de_bl da_nil)))))) da_nil)))))) (dss_cons (ds_set (i := 0) sc__law_parts.nd (de_val (df_cat (de_var 0) (de_val (df_lst (da_cons (de_tup (da_cons (de_val (df_lst (da_cons (de_tup (da_cons (de_var 2) (da_cons (de_val (df_lst (da_cons (de_var 6) da_nil))) da_nil))) (da_cons (de_tup (da_cons (de_var 2) (da_cons (de_val (df_lst (da_cons (de_tup (da_cons de_non (da_cons (de_var 1) (da_cons (de_tup da_nil) (da_cons de_bl da_nil))))) da_nil))) da_nil))) da_nil)))) (da_cons de_int (da_cons (de_var 3) (da_cons (de_frzL (de_ldD (fs := [(.non, (eCon (.int 1)))]) (.cons de_non de_int .nil))) (da_cons de_bl da_nil)))))) da_nil)))))) (dss_cons (ds_set (i := 0) sc__law_parts.nd (de_val (df_cat (de_var 0) (de_val (df_lst (da_cons (de_tup (da_cons (de_val (df_lst (da_cons (de_tup (da_cons (de_var 2) (da_cons (de_val (df_lst (da_cons (de_var 6) da_nil))) da_nil))) (da_cons (de_tup (da_cons (de_var 2) (da_cons (de_val (df_lst da_nil)) da_nil))) (da_cons (de_tup (da_cons (de_var 2) (da_cons (de_val (df_lst (da_cons (de_var 7) da_nil))) da_nil))) da_nil))))) (da_cons de_int (da_cons (de_var 3) (da_cons (de_frzL (de_ldD (fs := [(.non, (eCon (.int 1))), ((.str "u"), (eCon (.int 2))), ((.str "v"), (eCon (.int 2)))]) (.cons de_non de_int (.cons de_str de_int (.cons de_str de_int .nil))))) (da_cons de_bl da_nil)))))) da_nil)))))) (dss_cons (ds_set (i := 0) sc__law_parts.nd (de_val (df_cat (de_var 0) (de_val (df_lst (da_cons (de_tup (da_cons (de_val (df_lst (da_cons (de_tup (da_cons (de_var 2) (da_cons (de_val (df_lst (da_cons (de_var 6) (da_cons (de_var 7) da_nil)))) da_nil))) da_nil))) (da_cons de_int (da_cons (de_var 3) (da_cons (de_frzL (de_ldD (fs := [((.str "u"), (eCon (.int 1)))]) (.cons de_str de_int .nil))) (da_cons de_bl da_nil)))))) (da_cons (de_tup (da_cons (de_val (df_lst (da_cons (de_tup (da_cons (de_var 2) (da_cons (de_val (df_lst (da_cons (de_var 7) (da_cons (de_var 6) da_nil)))) da_nil))) da_nil))) (da_cons de_int (da_cons (de_var 3) (da_cons (de_frzL (de_ldD (fs := [((.str "v"), (eCon (.int 1)))]) (.cons de_str de_int .nil))) (da_cons de_bl da_nil)))))) da_nil))))))) (dss_cons (ds_set (i := 0) sc__law_parts.nd (de_val (df_cat (de_var 0) (de_val (df_lst (da_cons (de_tup (da_cons (de_val (df_lst (da_cons (de_tup (da_cons (de_var 2) (da_cons (de_val (df_lst (da_cons (de_var 7) (da_cons (de_var 6) da_nil)))) da_nil))) (da_cons (de_tup (da_cons (de_var 2) (da_cons (de_val (df_lst (da_cons (de_tup (da_cons de_non (da_cons (de_var 2) (da_cons (de_tup da_nil) (da_cons de_bl da_nil))))) da_nil))) da_nil))) da_nil)))) (da_cons de_int (da_cons (de_var 3) (da_cons (de_frzL (de_ldD (fs := [((.str "v"), (eCon (.int 1))), ((.str "u"), (eCon (.int 3)))]) (.cons de_str de_int (.cons de_str de_int .nil)))) (da_cons de_bl da_nil)))))) da_nil)))))) (dss_cons (ds_set (i := 0) sc__law_parts.nd (de_val (df_cat (de_var 0) (de_val (df_lst (da_cons (de_tup (da_cons (de_val (df_lst (da_cons (de_tup (da_cons (de_var 2) (da_cons (de_val (df_lst (da_cons (de_tup (da_cons de_str (da_cons (de_var 1) (da_cons (de_tup da_nil) (da_cons de_bl da_nil))))) da_nil))) da_nil))) da_nil))) (da_cons de_int (da_cons (de_var 5) (da_cons (de_frzL (de_ldD (fs := [(.non, (eCon (.int 1)))]) (.cons de_non de_int .nil))) (da_cons de_bl da_nil)))))) da_nil)))))) (dss_cons (ds_set (i := 0) sc__law_parts.nd (de_val (df_cat (de_var 0) (de_val (df_lst (da_cons (de_tup (da_cons (de_val (df_lst (da_cons (de_tup (da_cons (de_var 2) (da_cons (de_val (df_lst (da_cons (de_tup (da_cons de_str (da_cons (de_var 1) (da_cons (de_tup da_nil) (da_cons de_bl da_nil))))) da_nil))) da_nil))) da_nil))) (da_cons de_int (da_cons (de_var 3) (da_cons (de_frzL (de_ldD (fs := [((.str "u"), (eCon (.int 1)))]) (.cons de_str de_int .nil))) (da_cons de_bl da_nil)))))) da_nil)))))) (dss_cons (ds_set (i := 0) sc__law_parts.nd (de_val (df_cat (de_var 0) (de_val (df_lst (da_cons (de_tup (da_cons (de_val (df_lst (da_cons (de_tup (da_cons (de_var 2) (da_cons (de_val (df_lst (da_cons (de_tup (da_cons de_str (da_cons (de_var 1) (da_cons (de_tup da_nil) (da_cons de_bl da_nil))))) (da_cons (de_var 7) da_nil)))) da_nil))) da_nil))) (da_cons de_int (da_cons (de_var 5) (da_cons (de_frzL (de_ldD (fs := [((.str "v"), (eCon (.int 1)))]) (.cons de_str de_int .nil))) (da_cons de_bl da_nil)))))) da_nil)))))) (dss_one (ds_ret (de_val (df_cat (de_var 0) (de_val (df_lst (da_cons (de_tup (da_cons (de_val (df_lst (da_cons (de_tup (da_cons (de_var 2) (da_cons (de_val (df_lst (da_cons (de_var 6) (da_cons (de_tup (da_cons de_non (da_cons (de_var 1) (da_cons (de_tup da_nil) (da_cons de_bl da_nil))))) (da_cons (de_var 6) (da_cons (de_var 7) da_nil)))))) da_nil))) da_nil))) (da_cons de_int (da_cons (de_var 3) (da_cons (de_frzL (de_ldD (fs := [((.str "u"), (eCon (.int 1))), ((.str "v"), (eCon (.int 2)))]) (.cons de_str de_int (.cons de_str de_int .nil)))) (da_cons de_bl da_nil)))))) da_nil))))))))))))))))))))))))

abbrev s__law_right : Stmt := top 63
theorem sc__law_right : FnScope ["site", "page", "address", "name", "due", "is_sure", "found", "first", "worth", "row", "some", "pair"] ["site", "page", "address", "name", "due", "is_sure"] (defScope s__law_right) := ⟨rfl, rfl, rfl, by decide +kernel, rfl, by decide +kernel, by decide +kernel⟩
def dn__law_right : SD := (sSeq (sSet 6 (eCall rn_readings (aCons (eVar 0) (aCons (eVar 1) (aCons (eVar 2) (aCons (eVar 3) aNil)))))) (sSeq (sSet 7 (eIf (tVal (eBin in4 (eCon .non) (eVar 4))) (eLst (aLim (aCons (eCon .non) aNil))) (eLst (aLim aNil)))) (sSeq (sIf (tVal (eBin neD (eLst (lBlt keysF (aCons (eVar 6) aNil))) (eLst (lCat (eVar 7) (eLst (lBlt sortF (aCons (eLst (lLc [8] (itL (eVar 4)) (gNm 8) (tVal (eBin isNotD (eVar 8) (eCon .non))) (eVar 8))) aNil))))))) (sRet (eCon (.bl false))) sNil) (sSeq (sFor (itL (eVar 4)) (gNm 8) (sSeq (sSet 9 (eBin ix4 (eVar 6) (eVar 8))) (sSeq (sIf (bOr (tVal (eBin neD (eBlt lenA (aCons (eVar 9) aNil)) (eBin ix4 (eVar 4) (eVar 8)))) (tVal (eBin neD (eBin ixD (eVar 9) (eNeg (eCon (.int 1)))) (eVar 1)))) (sRet (eCon (.bl false))) sNil) (sSeq (sSet 10 (eLst (lLc [11] (itL (eCall rn__law_sent (aCons (eCall rn__law_behind (aCons (eVar 0) (aCons (eVar 9) aNil))) (aCons (eVar 2) aNil)))) (gNm 11) (tVal (eBin eqD (eBin ixD (eVar 11) (eCon (.int 0))) (eVar 3))) (eBin ixD (eVar 11) (eCon (.int 1)))))) (sIf (tVal (eBin neD (eIf (tVal (eBin neD (eVar 10) (eLst (aLim aNil)))) (eBin ixD (eVar 10) (eCon (.int 0))) (eCon .non)) (eVar 8))) (sRet (eCon (.bl false))) sNil))))) (sRet (eBin eqD (eBin in4 (eVar 3) (eCall rn_sure (aCons (eVar 0) (aCons (eVar 1) (aCons (eVar 2) aNil))))) (eVar 5)))))))
def rn__law_right : List W → Sto → R W := fun ws st => noX (runS 12 dn__law_right ws st)
theorem ok__law_right {P : Program} {w : World} {K : PySem.W.Frag} {mg : Str → Option Value} {base : Heap} {ct : Nat → Value} {f : Addr} {fd : FuncData} (F : Fun K "_law_right" "_law_right" s__law_right f fd) (C_readings : Cal P w K mg base ct "readings" 4 8 rn_readings) (z_list : mg "list" = none) (z_sorted : mg "sorted" = none) (z_len : mg "len" = none) (C__law_behind : Cal P w K mg base ct "_law_behind" 2 3 rn__law_behind) (C__law_sent : Cal P w K mg base ct "_law_sent" 2 3 rn__law_sent) (C_sure : Cal P w K mg base ct "sure" 3 6 rn_sure) :
    FnG P w K mg base CX0 9 f fd ["site", "page", "address", "name", "due", "is_sure"] (spG ⟨K, w, mg⟩ ct 6 rn__law_right) := by
  refine fn_den0 F sc__law_right (fun cdv A outer s H E gd hr => ?_)
  exact (dss_cons (ds_set (i := 6) sc__law_right.nd (de_calC C_readings gd (Room.mono hr (by decide)) (by rfl) (aCons_len (aCons_len (aCons_len (aCons_len aNil_len)))) (da_cons (de_var 0) (da_cons (de_var 1) (da_cons (de_var 2) (da_cons (de_var 3) da_nil)))))) (dss_cons (ds_set (i := 7) sc__law_right.nd (de_if (dt_cmp (op_in4 (hu65 hr)) de_non (de_var 4)) (de_val (df_lst (da_cons de_non da_nil))) (de_val (df_lst da_nil)))) (dss_cons (ds_if (dt_cmp (op_neDD (hu64 hr)) (de_val (df_callT (cf_keys rfl) (by rfl) z_list bt_list (da_cons (de_var 6) da_nil))) (de_val (df_cat (de_var 7) (de_val (df_callB (cf_sorted rfl (hu65 hr)) (by rfl) z_sorted bt_sorted (da_cons (de_val (df_lc (own := [("worth", 8)]) rfl sc__law_right.nd (di_l (de_var 4)) (blkOk_by (own := [("worth", 8)]) (N := ["site", "page", "address", "name", "due", "is_sure", "found", "first", "worth", "row", "some", "pair"]) (sc := defScope s__law_right) (by decide +kernel)) (fun _ _ _ _ _ => (dg_name (i := 8) sc__law_right.nd)) (fun _ _ _ _ _ => (dts_one (dt_cmp op_isNotDD (de_var 8) de_non))) (fun _ _ _ _ _ => (de_var 8)))) da_nil)))))) (dss_one (ds_ret de_bl)) dss_nil) (dss_cons (ds_for PassesOwn.never rfl (di_l (de_var 4)) (dg_name (i := 8) sc__law_right.nd) (dss_cons (ds_set (i := 9) sc__law_right.nd (de_ix4 (hu65 hr) (de_var 6) (de_var 8))) (dss_cons (ds_if (PW.pt (dw_or (dt_cmp (op_neDD (hu64 hr)) (de_callB cb_lenA (by rfl) z_len bt_len (da_cons (de_var 9) da_nil)) (de_ix4 (hu65 hr) (de_var 4) (de_var 8))) (dw_or1 (dt_cmp (op_neDD (hu64 hr)) (de_ix (de_var 9) (de_neg de_int)) (de_var 1))))) (dss_one (ds_ret de_bl)) dss_nil) (dss_cons (ds_setLc (i := 10) (own := [("pair", 11)]) rfl sc__law_right.nd rfl rfl (sw_true rfl rfl rfl (by decide +kernel)) (di_l (de_calC C__law_sent gd (Room.mono hr (by decide)) (by rfl) (aCons_len (aCons_len aNil_len)) (da_cons (de_calC C__law_behind gd (Room.mono hr (by decide)) (by rfl) (aCons_len (aCons_len aNil_len)) (da_cons (de_var 0) (da_cons (de_var 9) da_nil))) (da_cons (de_var 2) da_nil)))) (blkOk_by (own := [("pair", 11)]) (N := ["site", "page", "address", "name", "due", "is_sure", "found", "first", "worth", "row", "some", "pair"]) (sc := defScope s__law_right) (by decide +kernel)) (fun _ _ _ _ _ => (dg_name (i := 11) sc__law_right.nd)) (fun _ _ _ _ _ => (dts_one (dt_cmp (op_eqDD (hu64 hr)) (de_ix (de_var 11) de_int) (de_var 3)))) (fun _ _ _ _ _ => (de_ix (de_var 11) de_int))) (dss_one (ds_if (dt_cmp (op_neDD (hu64 hr)) (de_if (dt_cmp (op_neDD (hu64 hr)) (de_var 10) (de_val (df_lst da_nil))) (de_ix (de_var 10) de_int) de_non) (de_var 8)) (dss_one (ds_ret de_bl)) dss_nil)))))) (dss_one (ds_ret (de_cmp (op_eqDD (hu64 hr)) (de_cmp (op_in4 (hu65 hr)) (de_var 3) (de_calC C_sure gd (Room.mono hr (by decide)) (by rfl) (aCons_len (aCons_len (aCons_len aNil_len))) (da_cons (de_var 0) (da_cons (de_var 1) (da_cons (de_var 2) da_nil))))) (de_var 5))))))))

abbrev s_law : Stmt := top 64
theorem sc_law : FnScope ["script", "state", "turn", "writes", "pages", "site", "due", "host", "values", "name", "is_turned", "page", "address", "is_sure", "number", "rows", "k", "value", "domain", "folder", "guarded", "write"] ["script"] (defScope s_law) := ⟨rfl, rfl, rfl, by decide +kernel, rfl, by decide +kernel, by decide +kernel⟩
def dn_law : SD := (sSeq (sSet 1 (eCall rn__law_begin (aCons (eVar 0) aNil))) (sSeq (sFor (itRange (aCons (eBin addD (eCon (.int 2)) (eBlt minB (aCons (eCon (.int 2)) (aCons (eBlt lenA (aCons (eVar 0) aNil)) aNil)))) aNil)) (gNm 2) (sSeq (sAsg (eTup (aCons (eCall rn__law_of (aCons (eVar 1) (aCons (eLst (aLim (aCons (eCon (.str "id")) (aCons (eCon (.str "a")) (aCons (eCon (.str "longer")) aNil))))) aNil))) (aCons (eBin eqD (eCall rn__law_draw (aCons (eVar 1) (aCons (eCon (.int 2)) aNil))) (eCon (.int 0))) aNil))) (gTp 2 (gsCons (gNm 9) (gsCons (gNm 10) gsNil)))) (sFor (itL (eCall rn__law_parts aNil)) (gTp 5 (gsCons (gNm 4) (gsCons (gNm 11) (gsCons (gNm 12) (gsCons (gNm 6) (gsCons (gNm 13) gsNil)))))) (sCut (sSeq (sSet 5 (eNew (aLim aNil))) (sSeq (sFor (itL (eVar 4)) (gTp 2 (gsCons (gNm 7) (gsCons (gNm 3) gsNil))) (sSeq (sSet 15 (eLst (lLc [17, 18, 19, 20] (itL (eVar 3)) (gTp 4 (gsCons (gNm 17) (gsCons (gNm 18) (gsCons (gNm 19) (gsCons (gNm 20) gsNil))))) bYes (eTup (aCons (eVar 9) (aCons (eVar 17) (aCons (eVar 18) (aCons (eVar 19) (aCons (eVar 20) aNil))))))))) (sExpr (eApp (eVar 5) (aCons (eTup (aCons (eTup (aCons (eVar 7) (aCons (eTup (aCons (eCon (.str "p")) aNil)) (aCons (eCon (.bl true)) aNil)))) (aCons (eBlt tupleB (aCons (eVar 15) aNil)) aNil))) aNil))))) (sSeq (sSet 14 (eIf (tVal (eVar 10)) (eBin subD (eBin subD (eBlt lenA (aCons (eVar 5) aNil)) (eCon (.int 1))) (eVar 11)) (eVar 11))) (sIf (bNot (tVal (eCall rn__law_right (aCons (eBlt tupleB (aCons (eIf (tVal (eVar 10)) (eLst (lRev (eVar 5))) (eVar 5)) aNil)) (aCons (eVar 14) (aCons (eVar 12) (aCons (eVar 9) (aCons (eVar 6) (aCons (eVar 13) aNil))))))))) (sRet (eCon (.bl false))) sNil)))))))) (sSeq (sAsg (eTup (aCons (eTup (aCons (eCon (.str "y")) (aCons (eCon (.str "x")) (aCons (eCon (.str "a")) (aCons (eCon (.str "b")) (aCons (eCon (.str "c")) aNil)))))) (aCons (eTup (aCons (eCon (.str "a1")) (aCons (eCon (.str "b2")) (aCons (eCon (.str "c3")) (aCons (eCon (.str "d4")) (aCons (eCon (.str "e5")) aNil)))))) aNil))) (gTp 2 (gsCons (gNm 7) (gsCons (gNm 8) gsNil)))) (sSeq (sSet 3 (eLst (lCat (eLst (lLc [16] (itRange (aCons (eCon (.int 4)) aNil)) (gNm 16) bYes (eTup (aCons (eBin ix4 (eVar 8) (eVar 16)) (aCons (eSlc (eVar 7) (pSo (eVar 16)) pNo) (aCons (eTup aNil) (aCons (eCon (.bl false)) aNil))))))) (eLst (aLim (aCons (eTup (aCons (eBin ixD (eVar 8) (eCon (.int 4))) (aCons (eCon .non) (aCons (eTup aNil) (aCons (eCon (.bl false)) aNil))))) aNil)))))) (sSeq (sSet 4 (eLst (lCat (eLst (aLim (aCons (eVar 3) aNil))) (eLst (lLc [16] (itRange (aCons (eCon (.int 4)) aNil)) (gNm 16) bYes (eLst (aLim (aCons (eTup (aCons (eCon .non) (aCons (eSlc (eVar 7) (pSo (eVar 16)) pNo) (aCons (eTup aNil) (aCons (eCon (.bl false)) aNil))))) aNil)))))))) (sSeq (sSet 5 (eBlt tupleB (aCons (eLst (lLc [15] (itL (eVar 4)) (gNm 15) bYes (eTup (aCons (eTup (aCons (eVar 7) (aCons (eTup aNil) (aCons (eCon (.bl true)) aNil)))) (aCons (eBlt tupleB (aCons (eLst (lLc [21] (itL (eVar 15)) (gNm 21) bYes (eBin addD (eTup (aCons (eCon (.str "id")) aNil)) (eVar 21)))) aNil)) aNil))))) aNil))) (sSeq (sSet 6 (eFrzL (eLdD [((.str "a1"), (eCon (.int 1))), ((.str "b2"), (eCon (.int 3))), ((.str "c3"), (eCon (.int 4))), ((.str "d4"), (eCon (.int 5))), ((.str "e5"), (eCon (.int 6)))]))) (sSeq (sIf (bNot (tVal (eCall rn__law_right (aCons (eVar 5) (aCons (eCon (.int 0)) (aCons (eTup (aCons (eVar 7) (aCons (eTup aNil) (aCons (eCon (.bl true)) aNil)))) (aCons (eCon (.str "id")) (aCons (eVar 6) (aCons (eCon (.bl true)) aNil))))))))) (sRet (eCon (.bl false))) sNil) (sSeq (sSet 5 (eTup (aCons (eTup (aCons (eTup (aCons (eTup (aCons (eCon (.str "b")) (aCons (eCon (.str "c")) aNil))) (aCons (eTup aNil) (aCons (eCon (.bl true)) aNil)))) (aCons (eTup (aCons (eTup (aCons (eCon (.str "b")) (aCons (eCon (.str "1")) (aCons (eCon .non) (aCons (eTup aNil) (aCons (eCon (.bl false)) aNil)))))) (aCons (eTup (aCons (eCon (.str "a")) (aCons (eCon (.str "2")) (aCons (eCon .non) (aCons (eTup aNil) (aCons (eCon (.bl false)) aNil)))))) aNil))) aNil))) aNil))) (sSeq (sIf (bOr (tVal (eBin neD (eCall rn_sure (aCons (eVar 5) (aCons (eCon (.int 0)) (aCons (eTup (aCons (eTup (aCons (eCon (.str "b")) (aCons (eCon (.str "c")) aNil))) (aCons (eTup (aCons (eCon (.str "p")) aNil)) (aCons (eCon (.bl false)) aNil)))) aNil)))) (eTup (aCons (eCon (.str "a")) (aCons (eCon (.str "b")) aNil))))) (tVal (eBin neD (eCall rn_sure (aCons (eVar 5) (aCons (eCon (.int 0)) (aCons (eTup (aCons (eTup (aCons (eCon (.str "a")) (aCons (eCon (.str "b")) (aCons (eCon (.str "c")) aNil)))) (aCons (eTup aNil) (aCons (eCon (.bl true)) aNil)))) aNil)))) (eTup aNil)))) (sRet (eCon (.bl false))) sNil) (sRet (eBin eqD4 (eCall rn_readings (aCons (eVar 5) (aCons (eCon (.int 0)) (aCons (eTup (aCons (eTup (aCons (eCon (.str "b")) (aCons (eCon (.str "c")) aNil))) (aCons (eTup aNil) (aCons (eCon (.bl true)) aNil)))) (aCons (eCon (.str "none")) aNil))))) (eFrzL (eLdD [(.non, (eTup (aCons (eCon (.int 0)) aNil)))]))))))))))))))
def rn_law : List W → Sto → R W := fun ws st => noX (runS 22 dn_law ws st)
theorem ok_law {P : Program} {w : World} {K : PySem.W.Frag} {mg : Str → Option Value} {base : Heap} {ct : Nat → Value} {f : Addr} {fd : FuncData} (F : Fun K "law" "law" s_law f fd) (C__law_begin : Cal P w K mg base ct "_law_begin" 1 1 rn__law_begin) (z_len : mg "len" = none) (z_min : mg "min" = none) (z_range : mg "range" = none) (C__law_draw : Cal P w K mg base ct "_law_draw" 2 2 rn__law_draw) (C__law_of : Cal P w K mg base ct "_law_of" 2 3 rn__law_of) (C__law_parts : Cal P w K mg base ct "_law_parts" 0 1 rn__law_parts) (z_tuple : mg "tuple" = none) (C__law_right : Cal P w K mg base ct "_law_right" 6 9 rn__law_right) (C_sure : Cal P w K mg base ct "sure" 3 6 rn_sure) (C_readings : Cal P w K mg base ct "readings" 4 8 rn_readings) :
    FnG P w K mg base CX0 10 f fd ["script"] (spG ⟨K, w, mg⟩ ct 1 rn_law) := by
  refine fn_den0 F sc_law (fun cdv A outer s H E gd hr => ?_)
  exact (dss_cons (ds_set (i := 1) sc_law.nd (de_calC C__law_begin gd (Room.mono hr (by decide)) (by rfl) (aCons_len aNil_len) (da_cons (de_var 0) da_nil))) (dss_cons (ds_for PassesOwn.never rfl (di_range1 (by rfl) z_range (de_bin op_addD de_int (de_callB (cb_min rfl) (by rfl) z_min bt_min (da_cons de_int (da_cons (de_callB cb_lenA (by rfl) z_len bt_len (da_cons (de_var 0) da_nil)) da_nil))))) (dg_name (i := 2) sc_law.nd) (dss_cons (ds_asg (de_tup (da_cons (de_calC C__law_of gd (Room.mono hr (by decide)) (by rfl) (aCons_len (aCons_len aNil_len)) (da_cons (de_var 1) (da_cons (de_val (df_lst (da_cons de_str (da_cons de_str (da_cons de_str da_nil))))) da_nil))) (da_cons (de_cmp (op_eqDD (hu64 hr)) (de_calC C__law_draw gd (Room.mono hr (by decide)) (by rfl) (aCons_len (aCons_len aNil_len)) (da_cons (de_var 1) (da_cons de_int da_nil))) de_int) da_nil))) (dg_tup (n := 2) rfl (dgs_cons (dg_name (i := 9) sc_law.nd) (dgs_cons (dg_name (i := 10) sc_law.nd) dgs_nil)))) (dss_one (ds_for PassesOwn.never rfl (di_l (de_calC0 C__law_parts gd (Room.mono hr (by decide)) (by rfl))) (dg_tup (n := 5) rfl (dgs_cons (dg_name (i := 4) sc_law.nd) (dgs_cons (dg_name (i := 11) sc_law.nd) (dgs_cons (dg_name (i := 12) sc_law.nd) (dgs_cons (dg_name (i := 6) sc_law.nd) (dgs_cons (dg_name (i := 13) sc_law.nd) dgs_nil)))))) (dss_cut (dss_cons (ds_set (i := 5) sc_law.nd (de_new (df_lst da_nil))) (dss_cons (ds_for PassesOwn.never rfl (di_l (de_var 4)) (dg_tup (n := 2) rfl (dgs_cons (dg_name (i := 7) sc_law.nd) (dgs_cons (dg_name (i := 3) sc_law.nd) dgs_nil))) (dss_cons (ds_setLc (i := 15) (own := [("value", 17), ("domain", 18), ("folder", 19), ("guarded", 20)]) rfl sc_law.nd rfl rfl (sw_true rfl rfl rfl (by decide +kernel)) (di_l (de_var 3)) (blkOk_by (own := [("value", 17), ("domain", 18), ("folder", 19), ("guarded", 20)]) (N := ["script", "state", "turn", "writes", "pages", "site", "due", "host", "values", "name", "is_turned", "page", "address", "is_sure", "number", "rows", "k", "value", "domain", "folder", "guarded", "write"]) (sc := defScope s_law) (by decide +kernel)) (fun _ _ _ _ _ => (dg_tup (n := 4) rfl (dgs_cons (dg_name (i := 17) sc_law.nd) (dgs_cons (dg_name (i := 18) sc_law.nd) (dgs_cons (dg_name (i := 19) sc_law.nd) (dgs_cons (dg_name (i := 20) sc_law.nd) dgs_nil)))))) (fun _ _ _ _ _ => dts_nil) (fun _ _ _ _ _ => (de_tup (da_cons (de_var 9) (da_cons (de_var 17) (da_cons (de_var 18) (da_cons (de_var 19) (da_cons (de_var 20) da_nil)))))))) (dss_one (ds_expr (de_app (de_var 5) (da_cons (de_tup (da_cons (de_tup (da_cons (de_var 7) (da_cons (de_tup (da_cons de_str da_nil)) (da_cons de_bl da_nil)))) (da_cons (de_callT cb_tuple (by rfl) z_tuple bt_tuple (da_cons (de_var 15) da_nil)) da_nil))) da_nil)))))) (dss_cons (ds_set (i := 14) sc_law.nd (de_if (dt_val (de_var 10)) (de_bin op_subD (de_bin op_subD (de_callB cb_lenA (by rfl) z_len bt_len (da_cons (de_var 5) da_nil)) de_int) (de_var 11)) (de_var 11))) (dss_one (ds_if (dt_not (dt_val (de_calC C__law_right gd (Room.mono hr (by decide)) (by rfl) (aCons_len (aCons_len (aCons_len (aCons_len (aCons_len (aCons_len aNil_len)))))) (da_cons (de_callT cb_tuple (by rfl) z_tuple bt_tuple (da_cons (de_if (dt_val (de_var 10)) (de_val (df_revL (de_var 5))) (de_var 5)) da_nil)) (da_cons (de_var 14) (da_cons (de_var 12) (da_cons (de_var 9) (da_cons (de_var 6) (da_cons (de_var 13) da_nil))))))))) (dss_one (ds_ret de_bl)) dss_nil)))))))))) (dss_cons (ds_asg (de_tup (da_cons (de_tup (da_cons de_str (da_cons de_str (da_cons de_str (da_cons de_str (da_cons de_str da_nil)))))) (da_cons (de_tup (da_cons de_str (da_cons de_str (da_cons de_str (da_cons de_str (da_cons de_str da_nil)))))) da_nil))) (dg_tup (n := 2) rfl (dgs_cons (dg_name (i := 7) sc_law.nd) (dgs_cons (dg_name (i := 8) sc_law.nd) dgs_nil)))) (dss_cons (ds_set (i := 3) sc_law.nd (de_val (df_cat (de_val (df_lc (own := [("k", 16)]) rfl sc_law.nd (di_range1 (by rfl) z_range de_int) (blkOk_by (own := [("k", 16)]) (N := ["script", "state", "turn", "writes", "pages", "site", "due", "host", "values", "name", "is_turned", "page", "address", "is_sure", "number", "rows", "k", "value", "domain", "folder", "guarded", "write"]) (sc := defScope s_law) (by decide +kernel)) (fun _ _ _ _ _ => (dg_name (i := 16) sc_law.nd)) (fun _ _ _ _ _ => dts_nil) (fun _ _ _ _ _ => (de_tup (da_cons (de_ix4 (hu65 hr) (de_var 8) (de_var 16)) (da_cons (de_slc (de_var 7) (dp_so (de_var 16)) dp_no) (da_cons (de_tup da_nil) (da_cons de_bl da_nil)))))))) (de_val (df_lst (da_cons (de_tup (da_cons (de_ix (de_var 8) de_int) (da_cons de_non (da_cons (de_tup da_nil) (da_cons de_bl da_nil))))) da_nil)))))) (dss_cons (ds_set (i := 4) sc_law.nd (de_val (df_cat (de_val (df_lst (da_cons (de_var 3) da_nil))) (de_val (df_lc (own := [("k", 16)]) rfl sc_law.nd (di_range1 (by rfl) z_range de_int) (blkOk_by (own := [("k", 16)]) (N := ["script", "state", "turn", "writes", "pages", "site", "due", "host", "values", "name", "is_turned", "page", "address", "is_sure", "number", "rows", "k", "value", "domain", "folder", "guarded", "write"]) (sc := defScope s_law) (by decide +kernel)) (fun _ _ _ _ _ => (dg_name (i := 16) sc_law.nd)) (fun _ _ _ _ _ => dts_nil) (fun _ _ _ _ _ => (de_val (df_lst (da_cons (de_tup (da_cons de_non (da_cons (de_slc (de_var 7) (dp_so (de_var 16)) dp_no) (da_cons (de_tup da_nil) (da_cons de_bl da_nil))))) da_nil))))))))) (dss_cons (ds_set (i := 5) sc_law.nd (de_callT cb_tuple (by rfl) z_tuple bt_tuple (da_cons (de_val (df_lc (own := [("rows", 15)]) rfl sc_law.nd (di_l (de_var 4)) (blkOk_by (own := [("rows", 15)]) (N := ["script", "state", "turn", "writes", "pages", "site", "due", "host", "values", "name", "is_turned", "page", "address", "is_sure", "number", "rows", "k", "value", "domain", "folder", "guarded", "write"]) (sc := defScope s_law) (by decide +kernel)) (fun _ _ _ _ _ => (dg_name (i := 15) sc_law.nd)) (fun _ _ _ _ _ => dts_nil) (fun _ _ _ _ _ => (de_tup (da_cons (de_tup (da_cons (de_var 7) (da_cons (de_tup da_nil) (da_cons de_bl da_nil)))) (da_cons (de_callT cb_tuple (by rfl) z_tuple bt_tuple (da_cons (de_val (df_lc (own := [("write", 21)]) rfl sc_law.nd (di_l (de_var 15)) (blkOk_by (own := [("write", 21)]) (N := ["script", "state", "turn", "writes", "pages", "site", "due", "host", "values", "name", "is_turned", "page", "address", "is_sure", "number", "rows", "k", "value", "domain", "folder", "guarded", "write"]) (by kernel_rfl)) (fun _ _ _ _ _ => (dg_name (i := 21) sc_law.nd)) (fun _ _ _ _ _ => dts_nil) (fun _ _ _ _ _ => (de_bin op_addD (de_tup (da_cons de_str da_nil)) (de_var 21))))) da_nil)) da_nil)))))) da_nil))) (dss_cons (ds_set (i := 6) sc_law.nd (de_frzL (de_ldD (fs := [((.str "a1"), (eCon (.int 1))), ((.str "b2"), (eCon (.int 3))), ((.str "c3"), (eCon (.int 4))), ((.str "d4"), (eCon (.int 5))), ((.str "e5"), (eCon (.int 6)))]) (.cons de_str de_int (.cons de_str de_int (.cons de_str de_int (.cons de_str de_int (.cons de_str de_int .nil)))))))) (dss_cons (ds_if (dt_not (dt_val (de_calC C__law_right gd (Room.mono hr (by decide)) (by rfl) (aCons_len (aCons_len (aCons_len (aCons_len (aCons_len (aCons_len aNil_len)))))) (da_cons (de_var 5) (da_cons de_int (da_cons (de_tup (da_cons (de_var 7) (da_cons (de_tup da_nil) (da_cons de_bl da_nil)))) (da_cons de_str (da_cons (de_var 6) (da_cons de_bl da_nil))))))))) (dss_one (ds_ret de_bl)) dss_nil) (dss_cons (ds_set (i := 5) sc_law.nd (de_tup (da_cons (de_tup (da_cons (de_tup (da_cons (de_tup (da_cons de_str (da_cons de_str da_nil))) (da_cons (de_tup da_nil) (da_cons de_bl da_nil)))) (da_cons (de_tup (da_cons (de_tup (da_cons de_str (da_cons de_str (da_cons de_non (da_cons (de_tup da_nil) (da_cons de_bl da_nil)))))) (da_cons (de_tup (da_cons de_str (da_cons de_str (da_cons de_non (da_cons (de_tup da_nil) (da_cons de_bl da_nil)))))) da_nil))) da_nil))) da_nil))) (dss_cons (ds_if (PW.pt (dw_or (dt_cmp (op_neDD (hu64 hr)) (de_calC C_sure gd (Room.mono hr (by decide)) (by rfl) (aCons_len (aCons_len (aCons_len aNil_len))) (da_cons (de_var 5) (da_cons de_int (da_cons (de_tup (da_cons (de_tup (da_cons de_str (da_cons de_str da_nil))) (da_cons (de_tup (da_cons de_str da_nil)) (da_cons de_bl da_nil)))) da_nil)))) (de_tup (da_cons de_str (da_cons de_str da_nil)))) (dw_or1 (dt_cmp (op_neDD (hu64 hr)) (de_calC C_sure gd (Room.mono hr (by decide)) (by rfl) (aCons_len (aCons_len (aCons_len aNil_len))) (da_cons (de_var 5) (da_cons de_int (da_cons (de_tup (da_cons (de_tup (da_cons de_str (da_cons de_str (da_cons de_str da_nil)))) (da_cons (de_tup da_nil) (da_cons de_bl da_nil)))) da_nil)))) (de_tup da_nil))))) (dss_one (ds_ret de_bl)) dss_nil) (dss_one (ds_ret (de_cmp (op_eqD4 (hu65 hr)) (de_calC C_readings gd (Room.mono hr (by decide)) (by rfl) (aCons_len (aCons_len (aCons_len (aCons_len aNil_len)))) (da_cons (de_var 5) (da_cons de_int (da_cons (de_tup (da_cons (de_tup (da_cons de_str (da_cons de_str da_nil))) (da_cons (de_tup da_nil) (da_cons de_bl da_nil)))) (da_cons de_str da_nil))))) (de_frzL (de_ldD (fs := [(.non, (eTup (aCons (eCon (.int 0)) aNil)))]) (.cons de_non (de_tup (da_cons de_int da_nil)) .nil))))))))))))))))

end K27
end
section
namespace K27
open PySem Jv
abbrev T (xs : List D) : D := .tup xs
abbrev tt (st : Sto) : R W := .ok (.v (.bl true)) st
theorem neS (st : Sto) (d : D) (h : SeqAt.shaped d.py = true) : neD st (.v d) (.v d) = some (.bl false) := by
  have e : PyData.eqv d.py d.py = true := SeqAt.eqv_refl d.py (SeqAt.canLay_of_shaped h)
  simp [neD, deref, h, e]
theorem eqS (st : Sto) (d : D) (h : SeqAt.shaped d.py = true) : eqD st (.v d) (.v d) = some (.bl true) := by
  have e : PyData.eqv d.py d.py = true := SeqAt.eqv_refl d.py (SeqAt.canLay_of_shaped h)
  simp [eqD, deref, h, e]
/-! what is drawn -/
theorem lg64 {i : Int} (h : i.natAbs < 18446744073709551616) : i.natAbs.log2 < 64 := by
  by_cases z : i.natAbs = 0
  · rw [z]; decide
  · exact (Nat.log2_lt z).mpr h
theorem mul_ok {i j : Int} (st : Sto) (h1 : i.natAbs < 18446744073709551616) (h2 : j.natAbs < 18446744073709551616) : mulD st (.v (.int i)) (.v (.int j)) = some (.int (i * j)) := by
  have a := lg64 h1
  have b := lg64 h2
  show mulT (.int i) (.int j) = _
  simp only [mulT]
  rw [if_pos (by omega)]
theorem mod_ok {i j : Int} (st : Sto) (h : 0 < j) : modD st (.v (.int i)) (.v (.int j)) = some (.int (i % j)) := by
  simp [onV, int2, h]
theorem fdiv_ok {i j : Int} (st : Sto) (h : 0 < j) (h2 : j < 1073741824) : fdivD st (.v (.int i)) (.v (.int j)) = some (.int (i / j)) := by
  simp [onV, int2, h, h2]
theorem add_ok {i j : Int} (st : Sto) : addD st (.v (.int i)) (.v (.int j)) = some (.int (i + j)) := rfl
theorem int_ok {i : Int} (st : Sto) : intB st [.v (.int i)] = some (.int i) := rfl
theorem gt_ok {i j : Int} (st : Sto) : gtD st (.v (.int i)) (.v (.int j)) = some (.bl (decide (j < i))) := rfl
theorem mixed_ok (c k : Int) (h0 : 0 ≤ k) (h1 : k ≤ 1000000) (st : Sto) : ∃ m : Int, 0 ≤ m ∧ m < 2147483629 ∧ rn__law_mixed [.v (.int c), .v (.int k)] st = .ok (.v (.int m)) st := by
  have c0 : 0 ≤ c % 2147483647 := Int.emod_nonneg _ (by decide)
  have c1 : c % 2147483647 < 2147483647 := Int.emod_lt_of_pos _ (by decide)
  have kk : 2 * k * k ≤ 2000000 * 1000000 := Int.mul_le_mul (by omega) h1 h0 (by decide)
  have kk0 : 0 ≤ 2 * k * k := Int.mul_nonneg (by omega) h0
  generalize e1 : c % 2147483647 = c' at *
  have m1 := mul_ok (i := 2) (j := k) st (by decide) (by omega)
  have m2 := mul_ok (i := 2 * k) (j := k) st (by omega) (by omega)
  have m3 := mul_ok (i := c') (j := 48271 + 2 * k * k) st (by omega) (by omega)
  have m4 := mul_ok (i := 69621) (j := k) st (by decide) (by omega)
  have d0 : 0 ≤ (c' * (48271 + 2 * k * k) + 69621 * k + 11) % 2147483647 := Int.emod_nonneg _ (by decide)
  have d1 : (c' * (48271 + 2 * k * k) + 69621 * k + 11) % 2147483647 < 2147483647 := Int.emod_lt_of_pos _ (by decide)
  have m5 := mul_ok (i := (c' * (48271 + 2 * k * k) + 69621 * k + 11) % 2147483647) (j := 69621) st (by omega) (by decide)
  have q1 := mod_ok (i := c) (j := 2147483647) st (by decide)
  have q2 := mod_ok (i := c' * (48271 + 2 * k * k) + 69621 * k + 11) (j := 2147483647) st (by decide)
  have q3 := mod_ok (i := (c' * (48271 + 2 * k * k) + 69621 * k + 11) % 2147483647 * 69621) (j := 2147483629) st (by decide)
  rw [e1] at q1
  refine ⟨(c' * (48271 + 2 * k * k) + 69621 * k + 11) % 2147483647 * 69621 % 2147483629, Int.emod_nonneg _ (by decide), Int.emod_lt_of_pos _ (by decide), ?_⟩
  simp [runS, Jv.envOf, fin, noX, sSeq, sAsg, sIf, sPar, sSet, sRet, sNil, sExpr, sNo, tVal, bOr, bNot, bAnd, bYes, eAnd, eOr, eNot, eIf, eBin, eCall, eTup, eCon, eVar, eBlt, eLst, eNeg, eChain, aCons, aNil, aLim, itK, itemsK, gTp, gNm, gsCons, gsNil, allV, ofOp, R.thenS, R.bind, List.replicate, rn__law_mixed, dn__law_mixed, int_ok, add_ok, m1, m2, m3, m4, m5, q1, q2, q3]
abbrev tb : Ob := .tab ("_law_sent", none) "_law_sent.<locals>.<lambda>"
def stA (ls cs : List Int) (at' : Int) : Sto := [tb, .lst (ls.map .int), .dct [("cells", .v (.lst (cs.map .int))), ("lefts", .r 1), ("at", .v (.int at')), ("room", .v (.int 0))]]
theorem at_nat {α : Type} {xs : List α} {i : Int} (h0 : 0 ≤ i) (h1 : i < xs.length) : L2.ixN xs.length i = some i.toNat := by
  unfold L2.ixN
  rw [if_pos h0, if_pos h1]
theorem at_int {xs : List Int} {i : Int} (h0 : 0 ≤ i) (h1 : i < xs.length) : ∃ v : Int, xs[i.toNat]? = some v ∧ L2.atI (xs.map D.int) i = some (.int v) := by
  have hl : i.toNat < xs.length := by omega
  refine ⟨xs[i.toNat], List.getElem?_eq_getElem hl, ?_⟩
  unfold L2.atI
  rw [at_nat h0 (by simpa using h1)]
  simp [hl]
theorem draw_ok {ls cs : List Int} {a m : Int} (hn : cs.length = ls.length) (hp : 0 < ls.length) (h0 : 0 ≤ a) (h1 : a ≤ 900000) (hm : 0 < m) (hm2 : m < 1073741824) :
    ∃ r ls', 0 ≤ r ∧ r < m ∧ ls'.length = ls.length ∧ rn__law_draw [.r 2, .v (.int m)] (stA ls cs a) = .ok (.v (.int r)) (stA ls' cs (a + 1)) := by
  have i0 : 0 ≤ a % (ls.length : Int) := Int.emod_nonneg _ (by omega)
  have i1 : a % (ls.length : Int) < ls.length := Int.emod_lt_of_pos _ (by omega)
  have g1 : dGet (stA ls cs a) (.r 2) (.v (.str "at")) = .ok (.v (.int a)) (stA ls cs a) := by kernel_rfl
  have g2 : ∀ env, dPut (.r 2) (.v (.str "at")) (.v (.int (a + 1))) env (stA ls cs a) = .nx env (stA ls cs (a + 1)) := fun env => by kernel_rfl
  have g3 : dGet (stA ls cs (a + 1)) (.r 2) (.v (.str "cells")) = .ok (.v (.lst (cs.map .int))) (stA ls cs (a + 1)) := by kernel_rfl
  have g4 : dGet (stA ls cs (a + 1)) (.r 2) (.v (.str "lefts")) = .ok (.r 1) (stA ls cs (a + 1)) := by kernel_rfl
  have g5 : lenA (stA ls cs (a + 1)) [.v (.lst (cs.map .int))] = some (.int ls.length) := by simp [lenA, lenB, asLst, hn]
  have g6 := mod_ok (i := a) (j := (ls.length : Int)) (stA ls cs (a + 1)) (by omega)
  obtain ⟨lv, e1, e2⟩ := at_int i0 i1
  obtain ⟨cv, _, c2⟩ := at_int (xs := cs) i0 (by rw [hn]; exact i1)
  generalize hi : a % (ls.length : Int) = i at *
  have g7 : ixD (stA ls cs (a + 1)) (.r 1) (.v (.int i)) = some (.int lv) := by
    have : asLst (stA ls cs (a + 1)) (.r 1) = some (ls.map .int) := rfl
    simp [ixD, this, e2]
  have g7' : ix2 (stA ls cs (a + 1)) (.r 1) (.v (.int i)) = some (.int lv) := by simp [orO, g7]
  have g8 : ixD (stA ls cs (a + 1)) (.v (.lst (cs.map .int))) (.v (.int i)) = some (.int cv) := by
    simp [ixD, asLst, c2]
  have g8' : ix2 (stA ls cs (a + 1)) (.v (.lst (cs.map .int))) (.v (.int i)) = some (.int cv) := by simp [orO, g8]
  have g9 := gt_ok (i := lv) (j := 0) (stA ls cs (a + 1))
  have st2 : List.length (stA ls cs a) = 3 := rfl
  have tk : ∀ ls', List.take 3 (stA ls' cs (a + 1)) = stA ls' cs (a + 1) := fun _ => rfl
  by_cases hl : 0 < lv
  · have q1 := fdiv_ok (i := lv) (j := m) (stA ls cs (a + 1)) hm hm2
    have q2 : ∀ env, lPut (.r 1) (.v (.int i)) (.v (.int (lv / m))) env (stA ls cs (a + 1)) = .nx env (stA (ls.set i.toNat (lv / m)) cs (a + 1)) := fun env => by
      have hx : L2.ixN (ls.map D.int).length i = some i.toNat := at_nat i0 (by simpa using i1)
      simp only [lPut, stA, List.getElem?_cons_zero, List.getElem?_cons_succ, hx, List.set_cons_zero, List.set_cons_succ, List.map_set]
    have q3 := mod_ok (i := lv) (j := m) (stA (ls.set i.toNat (lv / m)) cs (a + 1)) hm
    refine ⟨lv % m, ls.set i.toNat (lv / m), Int.emod_nonneg _ (by omega), Int.emod_lt_of_pos _ hm, by simp, ?_⟩
    simp [runS, Jv.envOf, fin, noX, sSeq, sAsg, sIf, sPar, sSet, sRet, sNil, sExpr, sNo, tVal, bOr, bNot, bAnd, bYes, eAnd, eOr, eNot, eIf, eBin, eCall, eTup, eCon, eVar, eBlt, eLst, eNeg, eChain, aCons, aNil, aLim, itK, itemsK, gTp, gNm, gsCons, gsNil, allV, ofOp, R.thenS, R.bind, List.replicate, rn__law_draw, dn__law_draw, eDGet, sDPut, sLPut, g1, g2, g3, g4, g5, g6, g7', g8', g9, hl, int_ok, add_ok, q1, q2, q3, st2, tk]
  · obtain ⟨n1, n10, n11, n1e⟩ := mixed_ok cv a h0 (by omega) (stA ls cs (a + 1))
    obtain ⟨n2, n20, n21, n2e⟩ := mixed_ok n1 (40 + a) (by omega) (by omega) (stA ls cs (a + 1))
    obtain ⟨n3, n30, n31, n3e⟩ := mixed_ok n2 (7 + a) (by omega) (by omega) (stA ls cs (a + 1))
    have q1 := mul_ok (i := n2) (j := 2147483647) (stA ls cs (a + 1)) (by omega) (by decide)
    have q2 := fdiv_ok (i := n2 * 2147483647 + n3) (j := 64) (stA ls cs (a + 1)) (by decide) (by decide)
    have q3 := mod_ok (i := (n2 * 2147483647 + n3) / 64) (j := m) (stA ls cs (a + 1)) hm
    refine ⟨(n2 * 2147483647 + n3) / 64 % m, ls, Int.emod_nonneg _ (by omega), Int.emod_lt_of_pos _ hm, rfl, ?_⟩
    simp [runS, Jv.envOf, fin, noX, sSeq, sAsg, sIf, sPar, sSet, sRet, sNil, sExpr, sNo, tVal, bOr, bNot, bAnd, bYes, eAnd, eOr, eNot, eIf, eBin, eCall, eTup, eCon, eVar, eBlt, eLst, eNeg, eChain, aCons, aNil, aLim, itK, itemsK, gTp, gNm, gsCons, gsNil, allV, ofOp, R.thenS, R.bind, List.replicate, rn__law_draw, dn__law_draw, eDGet, sDPut, sLPut, g1, g2, g3, g4, g5, g6, g7', g8', g9, hl, int_ok, add_ok, n1e, n2e, n3e, q1, q2, q3, st2, tk]
theorem ints_lay : ∀ ns : List Int, PyData.canLayAll0 (D.pyL (ns.map D.int)) = true ∧ PyData.depthAll (D.pyL (ns.map D.int)) = 0
  | [] => ⟨rfl, rfl⟩
  | n :: r => by
    have h := ints_lay r
    simp [D.pyL, D.py, PyData.canLayAll0, PyData.depthAll, PyData.canLay0, PyData.depth, h.1, h.2]
theorem ints_shaped (ns : List Int) : SeqAt.shaped (D.lst (ns.map D.int)).py = true := by
  have h := ints_lay ns
  simp [SeqAt.shaped, D.py, PyData.canLay0, PyData.depth, h.1, h.2]
theorem lc_lefts {env : Jv.Env} {st : Sto} {g : GD} {e : ED} (he : ∀ c : Int, ∃ env1, g (.v (.int c)) env = some env1 ∧ ∃ l : Int, e env1 st = .ok (.v (.int l)) st) : ∀ (cs : List Int) (acc : List D), ∃ ls : List Int, ls.length = cs.length ∧ lcGo g bYes e env (cs.map D.int) st acc = .ok (acc ++ ls.map D.int) st
  | [], acc => ⟨[], rfl, by simp [lcGo]⟩
  | c :: r, acc => by
    obtain ⟨env1, e1, l, e2⟩ := he c
    obtain ⟨ls, h1, h2⟩ := lc_lefts he r (acc ++ [.int l])
    refine ⟨l :: ls, by simp [h1], ?_⟩
    simp only [List.map_cons, lcGo, e1, bYes, noX_ok, R.bind_ok, if_true, e2, h2]
    simp
theorem begin_ok (ns : List Int) (hl : ns.length ≤ 63) : ∃ ls cs : List Int, cs.length = ls.length ∧ 0 < ls.length ∧ rn__law_begin [.v (.lst (ns.map .int))] [tb] = .ok (.r 2) (stA ls cs 0) := by
  have pw : ∀ st : Sto, powD st (.v (.int 10)) (.v (.int 18)) = some (.int 1000000000000000000) := fun st => by kernel_rfl
  have lf : ∀ (x : D) (cs : List Int), ∃ ls : List Int, ls.length = cs.length ∧ lcGo (gNm 2) bYes (eIf (tVal (eBin geD (eVar 2) (eBin powD (eCon (.int 10)) (eCon (.int 18))))) (eVar 2) (eCon (.int 0))) [some (.v x), some (.v (.lst (cs.map .int))), none] (cs.map D.int) [tb] [] = .ok (ls.map D.int) [tb] := by
    intro x cs
    obtain ⟨ls, h1, h2⟩ := lc_lefts (env := [some (.v x), some (.v (.lst (cs.map .int))), none]) (st := [tb]) (g := gNm 2) (e := eIf (tVal (eBin geD (eVar 2) (eBin powD (eCon (.int 10)) (eCon (.int 18))))) (eVar 2) (eCon (.int 0))) (fun c => by
      refine ⟨_, rfl, if 1000000000000000000 ≤ c then c else 0, ?_⟩
      by_cases h : (1000000000000000000 : Int) ≤ c
      · simp [runS, Jv.envOf, fin, noX, sSeq, sAsg, sIf, sPar, sSet, sRet, sNil, sExpr, sNo, tVal, bOr, bNot, bAnd, bYes, eAnd, eOr, eNot, eIf, eBin, eCall, eTup, eCon, eVar, eBlt, eLst, eNeg, eChain, aCons, aNil, aLim, itK, itemsK, gTp, gNm, gsCons, gsNil, allV, ofOp, R.thenS, R.bind, List.replicate, pw, onV, int2, h]
      · simp [runS, Jv.envOf, fin, noX, sSeq, sAsg, sIf, sPar, sSet, sRet, sNil, sExpr, sNo, tVal, bOr, bNot, bAnd, bYes, eAnd, eOr, eNot, eIf, eBin, eCall, eTup, eCon, eVar, eBlt, eLst, eNeg, eChain, aCons, aNil, aLim, itK, itemsK, gTp, gNm, gsCons, gsNil, allV, ofOp, R.thenS, R.bind, List.replicate, pw, onV, int2, h]) cs []
    exact ⟨ls, h1, by simpa using h2⟩
  have nd : ∀ x y z u : W, nodupK [("cells", x), ("lefts", y), ("at", z), ("room", u)] = true := fun x y z u => by kernel_rfl
  cases ns with
  | nil =>
    obtain ⟨ls, h1, h2⟩ := lf (.lst []) [0]
    refine ⟨ls, [0], h1.symm, by rw [h1]; decide, ?_⟩
    have ne := neS [tb] (.lst []) (by kernel_rfl)
    simp only [List.map_cons, List.map_nil] at h2
    simp [runS, Jv.envOf, fin, noX, sSeq, sAsg, sIf, sPar, sSet, sRet, sNil, sExpr, sNo, tVal, bOr, bNot, bAnd, bYes, eAnd, eOr, eNot, eIf, eBin, eCall, eTup, eCon, eVar, eBlt, eLst, eNeg, eChain, aCons, aNil, aLim, itK, itemsK, gTp, gNm, gsCons, gsNil, allV, ofOp, R.thenS, R.bind, List.replicate, rn__law_begin, dn__law_begin, ne, eDct, kOf, kCons, kNil, eNew, lLc, itE, items, wipeE, h2, nd, stA]
  | cons n r =>
    obtain ⟨ls, h1, h2⟩ := lf (.lst ((n :: r).map .int)) (n :: r)
    refine ⟨ls, n :: r, h1.symm, by rw [h1]; simp, ?_⟩
    have ne : neD [tb] (.v (.lst (.int n :: r.map .int))) (.v (.lst [])) = some (.bl true) := by
      have e0 := ints_shaped (n :: r)
      have e : PyData.eqv (D.lst (.int n :: r.map .int)).py (D.lst []).py = false := by simp [D.py, D.pyL, PyData.eqv, PyData.eqvAll]
      have e2 : SeqAt.shaped (D.lst []).py = true := by kernel_rfl
      simp only [List.map_cons] at e0
      simp [neD, deref, e0, e, e2]
    have hl' : r.length + 1 ≤ 100000 := by simp at hl; omega
    simp only [List.map_cons] at h2
    simp [runS, Jv.envOf, fin, noX, sSeq, sAsg, sIf, sPar, sSet, sRet, sNil, sExpr, sNo, tVal, bOr, bNot, bAnd, bYes, eAnd, eOr, eNot, eIf, eBin, eCall, eTup, eCon, eVar, eBlt, eLst, eNeg, eChain, aCons, aNil, aLim, itK, itemsK, gTp, gNm, gsCons, gsNil, allV, ofOp, R.thenS, R.bind, List.replicate, rn__law_begin, dn__law_begin, ne, eDct, kOf, kCons, kNil, eNew, lLc, lBlt, listF, asLst, itE, items, wipeE, h2, nd, stA, hl']

/-- a draw of few: one of them -/
theorem few2 {r : Int} (h0 : 0 ≤ r) (h1 : r < 2) : r = 0 ∨ r = 1 := by omega
theorem few3 {r : Int} (h0 : 0 ≤ r) (h1 : r < 3) : r = 0 ∨ r = 1 ∨ r = 2 := by omega
theorem few6 {r : Int} (h0 : 0 ≤ r) (h1 : r < 6) : r = 0 ∨ r = 1 ∨ r = 2 ∨ r = 3 ∨ r = 4 ∨ r = 5 := by omega
end K27
end
section
namespace K27
open PySem Jv

def law_it : LD := (itRange (aCons (eBin addD (eCon (.int 2)) (eBlt minB (aCons (eCon (.int 2)) (aCons (eBlt lenA (aCons (eVar 0) aNil)) aNil)))) aNil))
def law_d1 : SD := (sAsg (eTup (aCons (eCall rn__law_of (aCons (eVar 1) (aCons (eLst (aLim (aCons (eCon (.str "id")) (aCons (eCon (.str "a")) (aCons (eCon (.str "longer")) aNil))))) aNil))) (aCons (eBin eqD (eCall rn__law_draw (aCons (eVar 1) (aCons (eCon (.int 2)) aNil))) (eCon (.int 0))) aNil))) (gTp 2 (gsCons (gNm 9) (gsCons (gNm 10) gsNil))))
def row_g : GD := (gTp 5 (gsCons (gNm 4) (gsCons (gNm 11) (gsCons (gNm 12) (gsCons (gNm 6) (gsCons (gNm 13) gsNil))))))
def row_b : SD := (sCut (sSeq (sSet 5 (eNew (aLim aNil))) (sSeq (sFor (itL (eVar 4)) (gTp 2 (gsCons (gNm 7) (gsCons (gNm 3) gsNil))) (sSeq (sSet 15 (eLst (lLc [17, 18, 19, 20] (itL (eVar 3)) (gTp 4 (gsCons (gNm 17) (gsCons (gNm 18) (gsCons (gNm 19) (gsCons (gNm 20) gsNil))))) bYes (eTup (aCons (eVar 9) (aCons (eVar 17) (aCons (eVar 18) (aCons (eVar 19) (aCons (eVar 20) aNil))))))))) (sExpr (eApp (eVar 5) (aCons (eTup (aCons (eTup (aCons (eVar 7) (aCons (eTup (aCons (eCon (.str "p")) aNil)) (aCons (eCon (.bl true)) aNil)))) (aCons (eBlt tupleB (aCons (eVar 15) aNil)) aNil))) aNil))))) (sSeq (sSet 14 (eIf (tVal (eVar 10)) (eBin subD (eBin subD (eBlt lenA (aCons (eVar 5) aNil)) (eCon (.int 1))) (eVar 11)) (eVar 11))) (sIf (bNot (tVal (eCall rn__law_right (aCons (eBlt tupleB (aCons (eIf (tVal (eVar 10)) (eLst (lRev (eVar 5))) (eVar 5)) aNil)) (aCons (eVar 14) (aCons (eVar 12) (aCons (eVar 9) (aCons (eVar 6) (aCons (eVar 13) aNil))))))))) (sRet (eCon (.bl false))) sNil)))))
def law_loop : SD := sFor (itL (eCall rn__law_parts aNil)) row_g row_b
def law_rest : SD := (sSeq (sAsg (eTup (aCons (eTup (aCons (eCon (.str "y")) (aCons (eCon (.str "x")) (aCons (eCon (.str "a")) (aCons (eCon (.str "b")) (aCons (eCon (.str "c")) aNil)))))) (aCons (eTup (aCons (eCon (.str "a1")) (aCons (eCon (.str "b2")) (aCons (eCon (.str "c3")) (aCons (eCon (.str "d4")) (aCons (eCon (.str "e5")) aNil)))))) aNil))) (gTp 2 (gsCons (gNm 7) (gsCons (gNm 8) gsNil)))) (sSeq (sSet 3 (eLst (lCat (eLst (lLc [16] (itRange (aCons (eCon (.int 4)) aNil)) (gNm 16) bYes (eTup (aCons (eBin ix4 (eVar 8) (eVar 16)) (aCons (eSlc (eVar 7) (pSo (eVar 16)) pNo) (aCons (eTup aNil) (aCons (eCon (.bl false)) aNil))))))) (eLst (aLim (aCons (eTup (aCons (eBin ixD (eVar 8) (eCon (.int 4))) (aCons (eCon .non) (aCons (eTup aNil) (aCons (eCon (.bl false)) aNil))))) aNil)))))) (sSeq (sSet 4 (eLst (lCat (eLst (aLim (aCons (eVar 3) aNil))) (eLst (lLc [16] (itRange (aCons (eCon (.int 4)) aNil)) (gNm 16) bYes (eLst (aLim (aCons (eTup (aCons (eCon .non) (aCons (eSlc (eVar 7) (pSo (eVar 16)) pNo) (aCons (eTup aNil) (aCons (eCon (.bl false)) aNil))))) aNil)))))))) (sSeq (sSet 5 (eBlt tupleB (aCons (eLst (lLc [15] (itL (eVar 4)) (gNm 15) bYes (eTup (aCons (eTup (aCons (eVar 7) (aCons (eTup aNil) (aCons (eCon (.bl true)) aNil)))) (aCons (eBlt tupleB (aCons (eLst (lLc [21] (itL (eVar 15)) (gNm 21) bYes (eBin addD (eTup (aCons (eCon (.str "id")) aNil)) (eVar 21)))) aNil)) aNil))))) aNil))) (sSeq (sSet 6 (eFrzL (eLdD [ ((.str "a1") , (eCon (.int 1))) , ((.str "b2") , (eCon (.int 3))) , ((.str "c3") , (eCon (.int 4))) , ((.str "d4") , (eCon (.int 5))) , ((.str "e5") , (eCon (.int 6))) ]))) (sSeq (sIf (bNot (tVal (eCall rn__law_right (aCons (eVar 5) (aCons (eCon (.int 0)) (aCons (eTup (aCons (eVar 7) (aCons (eTup aNil) (aCons (eCon (.bl true)) aNil)))) (aCons (eCon (.str "id")) (aCons (eVar 6) (aCons (eCon (.bl true)) aNil))))))))) (sRet (eCon (.bl false))) sNil) (sSeq (sSet 5 (eTup (aCons (eTup (aCons (eTup (aCons (eTup (aCons (eCon (.str "b")) (aCons (eCon (.str "c")) aNil))) (aCons (eTup aNil) (aCons (eCon (.bl true)) aNil)))) (aCons (eTup (aCons (eTup (aCons (eCon (.str "b")) (aCons (eCon (.str "1")) (aCons (eCon .non) (aCons (eTup aNil) (aCons (eCon (.bl false)) aNil)))))) (aCons (eTup (aCons (eCon (.str "a")) (aCons (eCon (.str "2")) (aCons (eCon .non) (aCons (eTup aNil) (aCons (eCon (.bl false)) aNil)))))) aNil))) aNil))) aNil))) (sSeq (sIf (bOr (tVal (eBin neD (eCall rn_sure (aCons (eVar 5) (aCons (eCon (.int 0)) (aCons (eTup (aCons (eTup (aCons (eCon (.str "b")) (aCons (eCon (.str "c")) aNil))) (aCons (eTup (aCons (eCon (.str "p")) aNil)) (aCons (eCon (.bl false)) aNil)))) aNil)))) (eTup (aCons (eCon (.str "a")) (aCons (eCon (.str "b")) aNil))))) (tVal (eBin neD (eCall rn_sure (aCons (eVar 5) (aCons (eCon (.int 0)) (aCons (eTup (aCons (eTup (aCons (eCon (.str "a")) (aCons (eCon (.str "b")) (aCons (eCon (.str "c")) aNil)))) (aCons (eTup aNil) (aCons (eCon (.bl true)) aNil)))) aNil)))) (eTup aNil)))) (sRet (eCon (.bl false))) sNil) (sRet (eBin eqD4 (eCall rn_readings (aCons (eVar 5) (aCons (eCon (.int 0)) (aCons (eTup (aCons (eTup (aCons (eCon (.str "b")) (aCons (eCon (.str "c")) aNil))) (aCons (eTup aNil) (aCons (eCon (.bl true)) aNil)))) (aCons (eCon (.str "none")) aNil))))) (eFrzL (eLdD [ (.non, (eTup (aCons (eCon (.int 0)) aNil))) ]))))))))))))
theorem dn_law_eq : dn_law = sSeq (sSet 1 (eCall rn__law_begin (aCons (eVar 0) aNil))) (sSeq (sFor law_it (gNm 2) (sSeq law_d1 law_loop)) law_rest) := by kernel_rfl
abbrev pg0 : Jv.D := (.lst [(T [(T [(.str "a"), (.str "b"), (.str "c")]), (.lst [(T [(.str "u"), (T [(.str "b"), (.str "c")]), (T []), (.bl false)])])])])
abbrev nu0 : Jv.D := (.int 0)
abbrev ad0 : Jv.D := (T [(T [(.str "a"), (.str "b"), (.str "c")]), (T []), (.bl true)])
abbrev du0 : Jv.D := (.ld [((.str "u"), (.int 1))])
abbrev su0 : Jv.D := (.bl true)
abbrev part0 : Jv.D := T [pg0, nu0, ad0, du0, su0]
abbrev pg1 : Jv.D := (.lst [(T [(T [(.str "a"), (.str "b"), (.str "c")]), (.lst [(T [(.str "u"), (T [(.str "b"), (.str "c")]), (T []), (.bl false)])])])])
abbrev nu1 : Jv.D := (.int 0)
abbrev ad1 : Jv.D := (T [(T [(.str "d"), (.str "c")]), (T []), (.bl true)])
abbrev du1 : Jv.D := (.ld [(.non, (.int 1))])
abbrev su1 : Jv.D := (.bl false)
abbrev part1 : Jv.D := T [pg1, nu1, ad1, du1, su1]
abbrev pg2 : Jv.D := (.lst [(T [(T [(.str "a"), (.str "b"), (.str "c")]), (.lst [(T [(.str "u"), (T [(.str "b"), (.str "c")]), (T []), (.bl false)])])]), (T [(T [(.str "a"), (.str "b"), (.str "c")]), (.lst [(T [(.str "v"), (T [(.str "a"), (.str "b"), (.str "c")]), (T []), (.bl false)])])])])
abbrev nu2 : Jv.D := (.int 0)
abbrev ad2 : Jv.D := (T [(T [(.str "a"), (.str "b"), (.str "c")]), (T []), (.bl true)])
abbrev du2 : Jv.D := (.ld [((.str "u"), (.int 1)), ((.str "v"), (.int 2))])
abbrev su2 : Jv.D := (.bl true)
abbrev part2 : Jv.D := T [pg2, nu2, ad2, du2, su2]
abbrev pg3 : Jv.D := (.lst [(T [(T [(.str "a"), (.str "b"), (.str "c")]), (.lst [(T [(.str "u"), (T [(.str "b"), (.str "c")]), (T []), (.bl false)])])]), (T [(T [(.str "a"), (.str "b"), (.str "c")]), (.lst [(T [(.str "v"), (T [(.str "a"), (.str "b"), (.str "c")]), (T []), (.bl false)])])])])
abbrev nu3 : Jv.D := (.int 1)
abbrev ad3 : Jv.D := (T [(T [(.str "a"), (.str "b"), (.str "c")]), (T []), (.bl true)])
abbrev du3 : Jv.D := (.ld [((.str "u"), (.int 2)), ((.str "v"), (.int 1))])
abbrev su3 : Jv.D := (.bl true)
abbrev part3 : Jv.D := T [pg3, nu3, ad3, du3, su3]
abbrev pg4 : Jv.D := (.lst [(T [(T [(.str "a"), (.str "b"), (.str "c")]), (.lst [(T [(.str "u"), (T [(.str "b"), (.str "c")]), (T []), (.bl false)])])]), (T [(T [(.str "a"), (.str "b"), (.str "c")]), (.lst [(T [(.str "w"), (T [(.str "b"), (.str "c")]), (T [(.str "p")]), (.bl false)])])])])
abbrev nu4 : Jv.D := (.int 0)
abbrev ad4 : Jv.D := (T [(T [(.str "a"), (.str "b"), (.str "c")]), (T [(.str "p"), (.str "q")]), (.bl true)])
abbrev du4 : Jv.D := (.ld [((.str "u"), (.int 1)), ((.str "w"), (.int 2))])
abbrev su4 : Jv.D := (.bl true)
abbrev part4 : Jv.D := T [pg4, nu4, ad4, du4, su4]
abbrev pg5 : Jv.D := (.lst [(T [(T [(.str "a"), (.str "b"), (.str "c")]), (.lst [(T [(.str "u"), (T [(.str "b"), (.str "c")]), (T []), (.bl false)])])]), (T [(T [(.str "a"), (.str "b"), (.str "c")]), (.lst [(T [(.str "w"), (T [(.str "b"), (.str "c")]), (T [(.str "p")]), (.bl false)])])])])
abbrev nu5 : Jv.D := (.int 1)
abbrev ad5 : Jv.D := (T [(T [(.str "a"), (.str "b"), (.str "c")]), (T [(.str "p"), (.str "q")]), (.bl true)])
abbrev du5 : Jv.D := (.ld [((.str "w"), (.int 1))])
abbrev su5 : Jv.D := (.bl true)
abbrev part5 : Jv.D := T [pg5, nu5, ad5, du5, su5]
abbrev pg6 : Jv.D := (.lst [(T [(T [(.str "a"), (.str "b"), (.str "c")]), (.lst [(T [(.str "u"), (T [(.str "b"), (.str "c")]), (T []), (.bl false)])])]), (T [(T [(.str "a"), (.str "b"), (.str "c")]), (.lst [(T [(.str "w"), (T [(.str "b"), (.str "c")]), (T [(.str "p")]), (.bl false)])])])])
abbrev nu6 : Jv.D := (.int 1)
abbrev ad6 : Jv.D := (T [(T [(.str "a"), (.str "b"), (.str "c")]), (T []), (.bl true)])
abbrev du6 : Jv.D := (.ld [(.non, (.int 1)), ((.str "u"), (.int 2))])
abbrev su6 : Jv.D := (.bl false)
abbrev part6 : Jv.D := T [pg6, nu6, ad6, du6, su6]
abbrev pg7 : Jv.D := (.lst [(T [(T [(.str "a"), (.str "b"), (.str "c")]), (.lst [(T [(.str "u"), (T [(.str "b"), (.str "c")]), (T []), (.bl false)])])]), (T [(T [(.str "a"), (.str "b"), (.str "c")]), (.lst [(T [(.str "x"), (T [(.str "b"), (.str "c")]), (T []), (.bl false)])])])])
abbrev nu7 : Jv.D := (.int 1)
abbrev ad7 : Jv.D := (T [(T [(.str "a"), (.str "b"), (.str "c")]), (T []), (.bl true)])
abbrev du7 : Jv.D := (.ld [((.str "x"), (.int 1))])
abbrev su7 : Jv.D := (.bl true)
abbrev part7 : Jv.D := T [pg7, nu7, ad7, du7, su7]
abbrev pg8 : Jv.D := (.lst [(T [(T [(.str "a"), (.str "b"), (.str "c")]), (.lst [(T [(.str "u"), (T [(.str "b"), (.str "c")]), (T []), (.bl false)])])]), (T [(T [(.str "a"), (.str "b"), (.str "c")]), (.lst [(T [.non, (T [(.str "b"), (.str "c")]), (T []), (.bl false)])])])])
abbrev nu8 : Jv.D := (.int 1)
abbrev ad8 : Jv.D := (T [(T [(.str "a"), (.str "b"), (.str "c")]), (T []), (.bl true)])
abbrev du8 : Jv.D := (.ld [(.non, (.int 1))])
abbrev su8 : Jv.D := (.bl false)
abbrev part8 : Jv.D := T [pg8, nu8, ad8, du8, su8]
abbrev pg9 : Jv.D := (.lst [(T [(T [(.str "a"), (.str "b"), (.str "c")]), (.lst [(T [(.str "u"), (T [(.str "b"), (.str "c")]), (T []), (.bl false)])])]), (T [(T [(.str "a"), (.str "b"), (.str "c")]), (.lst [])]), (T [(T [(.str "a"), (.str "b"), (.str "c")]), (.lst [(T [(.str "v"), (T [(.str "a"), (.str "b"), (.str "c")]), (T []), (.bl false)])])])])
abbrev nu9 : Jv.D := (.int 1)
abbrev ad9 : Jv.D := (T [(T [(.str "a"), (.str "b"), (.str "c")]), (T []), (.bl true)])
abbrev du9 : Jv.D := (.ld [(.non, (.int 1)), ((.str "u"), (.int 2)), ((.str "v"), (.int 2))])
abbrev su9 : Jv.D := (.bl false)
abbrev part9 : Jv.D := T [pg9, nu9, ad9, du9, su9]
abbrev pg10 : Jv.D := (.lst [(T [(T [(.str "a"), (.str "b"), (.str "c")]), (.lst [(T [(.str "u"), (T [(.str "b"), (.str "c")]), (T []), (.bl false)]), (T [(.str "v"), (T [(.str "a"), (.str "b"), (.str "c")]), (T []), (.bl false)])])])])
abbrev nu10 : Jv.D := (.int 0)
abbrev ad10 : Jv.D := (T [(T [(.str "a"), (.str "b"), (.str "c")]), (T []), (.bl true)])
abbrev du10 : Jv.D := (.ld [((.str "u"), (.int 1))])
abbrev su10 : Jv.D := (.bl true)
abbrev part10 : Jv.D := T [pg10, nu10, ad10, du10, su10]
abbrev pg11 : Jv.D := (.lst [(T [(T [(.str "a"), (.str "b"), (.str "c")]), (.lst [(T [(.str "v"), (T [(.str "a"), (.str "b"), (.str "c")]), (T []), (.bl false)]), (T [(.str "u"), (T [(.str "b"), (.str "c")]), (T []), (.bl false)])])])])
abbrev nu11 : Jv.D := (.int 0)
abbrev ad11 : Jv.D := (T [(T [(.str "a"), (.str "b"), (.str "c")]), (T []), (.bl true)])
abbrev du11 : Jv.D := (.ld [((.str "v"), (.int 1))])
abbrev su11 : Jv.D := (.bl true)
abbrev part11 : Jv.D := T [pg11, nu11, ad11, du11, su11]
abbrev pg12 : Jv.D := (.lst [(T [(T [(.str "a"), (.str "b"), (.str "c")]), (.lst [(T [(.str "v"), (T [(.str "a"), (.str "b"), (.str "c")]), (T []), (.bl false)]), (T [(.str "u"), (T [(.str "b"), (.str "c")]), (T []), (.bl false)])])]), (T [(T [(.str "a"), (.str "b"), (.str "c")]), (.lst [(T [.non, (T [(.str "a"), (.str "b"), (.str "c")]), (T []), (.bl false)])])])])
abbrev nu12 : Jv.D := (.int 0)
abbrev ad12 : Jv.D := (T [(T [(.str "a"), (.str "b"), (.str "c")]), (T []), (.bl true)])
abbrev du12 : Jv.D := (.ld [((.str "v"), (.int 1)), ((.str "u"), (.int 3))])
abbrev su12 : Jv.D := (.bl true)
abbrev part12 : Jv.D := T [pg12, nu12, ad12, du12, su12]
abbrev pg13 : Jv.D := (.lst [(T [(T [(.str "a"), (.str "b"), (.str "c")]), (.lst [(T [(.str "u"), (T [(.str "b"), (.str "c")]), (T []), (.bl true)])])])])
abbrev nu13 : Jv.D := (.int 0)
abbrev ad13 : Jv.D := (T [(T [(.str "a"), (.str "b"), (.str "c")]), (T []), (.bl false)])
abbrev du13 : Jv.D := (.ld [(.non, (.int 1))])
abbrev su13 : Jv.D := (.bl false)
abbrev part13 : Jv.D := T [pg13, nu13, ad13, du13, su13]
abbrev pg14 : Jv.D := (.lst [(T [(T [(.str "a"), (.str "b"), (.str "c")]), (.lst [(T [(.str "u"), (T [(.str "b"), (.str "c")]), (T []), (.bl true)])])])])
abbrev nu14 : Jv.D := (.int 0)
abbrev ad14 : Jv.D := (T [(T [(.str "a"), (.str "b"), (.str "c")]), (T []), (.bl true)])
abbrev du14 : Jv.D := (.ld [((.str "u"), (.int 1))])
abbrev su14 : Jv.D := (.bl true)
abbrev part14 : Jv.D := T [pg14, nu14, ad14, du14, su14]
abbrev pg15 : Jv.D := (.lst [(T [(T [(.str "a"), (.str "b"), (.str "c")]), (.lst [(T [(.str "u"), (T [(.str "b"), (.str "c")]), (T []), (.bl true)]), (T [(.str "v"), (T [(.str "a"), (.str "b"), (.str "c")]), (T []), (.bl false)])])])])
abbrev nu15 : Jv.D := (.int 0)
abbrev ad15 : Jv.D := (T [(T [(.str "a"), (.str "b"), (.str "c")]), (T []), (.bl false)])
abbrev du15 : Jv.D := (.ld [((.str "v"), (.int 1))])
abbrev su15 : Jv.D := (.bl true)
abbrev part15 : Jv.D := T [pg15, nu15, ad15, du15, su15]
abbrev pg16 : Jv.D := (.lst [(T [(T [(.str "a"), (.str "b"), (.str "c")]), (.lst [(T [(.str "u"), (T [(.str "b"), (.str "c")]), (T []), (.bl false)]), (T [.non, (T [(.str "b"), (.str "c")]), (T []), (.bl false)]), (T [(.str "u"), (T [(.str "b"), (.str "c")]), (T []), (.bl false)]), (T [(.str "v"), (T [(.str "a"), (.str "b"), (.str "c")]), (T []), (.bl false)])])])])
abbrev nu16 : Jv.D := (.int 0)
abbrev ad16 : Jv.D := (T [(T [(.str "a"), (.str "b"), (.str "c")]), (T []), (.bl true)])
abbrev du16 : Jv.D := (.ld [((.str "u"), (.int 1)), ((.str "v"), (.int 2))])
abbrev su16 : Jv.D := (.bl true)
abbrev part16 : Jv.D := T [pg16, nu16, ad16, du16, su16]
abbrev PARTS : List Jv.D := [part0, part1, part2, part3, part4, part5, part6, part7, part8, part9, part10, part11, part12, part13, part14, part15, part16]
theorem parts_ok (o1 o2 : Ob) : rn__law_parts [] [tb, o1, o2] = .ok (.v (.lst PARTS)) [tb, o1, o2] := by kernel_rfl
/-- of a run that goes on: what is asked further -/
def nxK : Fl → Option (Nat × Option (Option Jv.W) × Option (Option Jv.W) × Option (Option Jv.W) × Sto)
  | .nx env st => some (env.length, env[1]?, env[9]?, env[10]?, st)
  | _ => none
def PartOk (n : Str) (t : Bool) (pg nu ad du su : Jv.D) : Prop := ∀ (o1 o2 : Ob) (a0 a2 a3 a5 a7 a8 a14 a15 a16 a17 a18 a19 a20 a21 : Option Jv.W),
  nxK (row_b [a0, some (.r 2), a2, a3, some (.v pg), a5, some (.v du), a7, a8, some (.v (.str n)), some (.v (.bl t)), some (.v nu), some (.v ad), some (.v su), a14, a15, a16, a17, a18, a19, a20, a21] [tb, o1, o2]) =
    some (22, some (some (.r 2)), some (some (.v (.str n))), some (some (.v (.bl t))), [tb, o1, o2])
end K27
end
section
namespace K27
open PySem Jv
theorem p_longer_true_9 : PartOk "longer" true pg9 nu9 ad9 du9 su9 := fun _ _ _ _ _ _ _ _ _ _ _ _ _ _ _ _ => by kernel_rfl
theorem p_a_true_9 : PartOk "a" true pg9 nu9 ad9 du9 su9 := fun _ _ _ _ _ _ _ _ _ _ _ _ _ _ _ _ => by kernel_rfl
theorem p_longer_false_8 : PartOk "longer" false pg8 nu8 ad8 du8 su8 := fun _ _ _ _ _ _ _ _ _ _ _ _ _ _ _ _ => by kernel_rfl
theorem p_longer_false_4 : PartOk "longer" false pg4 nu4 ad4 du4 su4 := fun _ _ _ _ _ _ _ _ _ _ _ _ _ _ _ _ => by kernel_rfl
theorem p_id_true_8 : PartOk "id" true pg8 nu8 ad8 du8 su8 := fun _ _ _ _ _ _ _ _ _ _ _ _ _ _ _ _ => by kernel_rfl
theorem p_id_true_4 : PartOk "id" true pg4 nu4 ad4 du4 su4 := fun _ _ _ _ _ _ _ _ _ _ _ _ _ _ _ _ => by kernel_rfl
theorem p_id_false_8 : PartOk "id" false pg8 nu8 ad8 du8 su8 := fun _ _ _ _ _ _ _ _ _ _ _ _ _ _ _ _ => by kernel_rfl
theorem p_id_false_4 : PartOk "id" false pg4 nu4 ad4 du4 su4 := fun _ _ _ _ _ _ _ _ _ _ _ _ _ _ _ _ => by kernel_rfl
theorem p_a_true_8 : PartOk "a" true pg8 nu8 ad8 du8 su8 := fun _ _ _ _ _ _ _ _ _ _ _ _ _ _ _ _ => by kernel_rfl
theorem p_a_true_4 : PartOk "a" true pg4 nu4 ad4 du4 su4 := fun _ _ _ _ _ _ _ _ _ _ _ _ _ _ _ _ => by kernel_rfl
theorem p_a_false_8 : PartOk "a" false pg8 nu8 ad8 du8 su8 := fun _ _ _ _ _ _ _ _ _ _ _ _ _ _ _ _ => by kernel_rfl
theorem p_a_false_4 : PartOk "a" false pg4 nu4 ad4 du4 su4 := fun _ _ _ _ _ _ _ _ _ _ _ _ _ _ _ _ => by kernel_rfl
theorem p_longer_true_16 : PartOk "longer" true pg16 nu16 ad16 du16 su16 := fun _ _ _ _ _ _ _ _ _ _ _ _ _ _ _ _ => by kernel_rfl
theorem p_longer_true_11 : PartOk "longer" true pg11 nu11 ad11 du11 su11 := fun _ _ _ _ _ _ _ _ _ _ _ _ _ _ _ _ => by kernel_rfl
theorem p_longer_false_16 : PartOk "longer" false pg16 nu16 ad16 du16 su16 := fun _ _ _ _ _ _ _ _ _ _ _ _ _ _ _ _ => by kernel_rfl
theorem p_longer_false_11 : PartOk "longer" false pg11 nu11 ad11 du11 su11 := fun _ _ _ _ _ _ _ _ _ _ _ _ _ _ _ _ => by kernel_rfl
theorem p_id_true_16 : PartOk "id" true pg16 nu16 ad16 du16 su16 := fun _ _ _ _ _ _ _ _ _ _ _ _ _ _ _ _ => by kernel_rfl
theorem p_id_true_11 : PartOk "id" true pg11 nu11 ad11 du11 su11 := fun _ _ _ _ _ _ _ _ _ _ _ _ _ _ _ _ => by kernel_rfl
theorem p_id_false_16 : PartOk "id" false pg16 nu16 ad16 du16 su16 := fun _ _ _ _ _ _ _ _ _ _ _ _ _ _ _ _ => by kernel_rfl
theorem p_id_false_11 : PartOk "id" false pg11 nu11 ad11 du11 su11 := fun _ _ _ _ _ _ _ _ _ _ _ _ _ _ _ _ => by kernel_rfl
theorem p_a_true_16 : PartOk "a" true pg16 nu16 ad16 du16 su16 := fun _ _ _ _ _ _ _ _ _ _ _ _ _ _ _ _ => by kernel_rfl
theorem p_a_true_11 : PartOk "a" true pg11 nu11 ad11 du11 su11 := fun _ _ _ _ _ _ _ _ _ _ _ _ _ _ _ _ => by kernel_rfl
theorem p_a_false_16 : PartOk "a" false pg16 nu16 ad16 du16 su16 := fun _ _ _ _ _ _ _ _ _ _ _ _ _ _ _ _ => by kernel_rfl
theorem p_a_false_11 : PartOk "a" false pg11 nu11 ad11 du11 su11 := fun _ _ _ _ _ _ _ _ _ _ _ _ _ _ _ _ => by kernel_rfl
end K27
end
section
namespace K27
open PySem Jv
theorem p_longer_false_9 : PartOk "longer" false pg9 nu9 ad9 du9 su9 := fun _ _ _ _ _ _ _ _ _ _ _ _ _ _ _ _ => by kernel_rfl
theorem p_a_false_9 : PartOk "a" false pg9 nu9 ad9 du9 su9 := fun _ _ _ _ _ _ _ _ _ _ _ _ _ _ _ _ => by kernel_rfl
theorem p_longer_false_7 : PartOk "longer" false pg7 nu7 ad7 du7 su7 := fun _ _ _ _ _ _ _ _ _ _ _ _ _ _ _ _ => by kernel_rfl
theorem p_longer_false_3 : PartOk "longer" false pg3 nu3 ad3 du3 su3 := fun _ _ _ _ _ _ _ _ _ _ _ _ _ _ _ _ => by kernel_rfl
theorem p_id_true_7 : PartOk "id" true pg7 nu7 ad7 du7 su7 := fun _ _ _ _ _ _ _ _ _ _ _ _ _ _ _ _ => by kernel_rfl
theorem p_id_true_3 : PartOk "id" true pg3 nu3 ad3 du3 su3 := fun _ _ _ _ _ _ _ _ _ _ _ _ _ _ _ _ => by kernel_rfl
theorem p_id_false_7 : PartOk "id" false pg7 nu7 ad7 du7 su7 := fun _ _ _ _ _ _ _ _ _ _ _ _ _ _ _ _ => by kernel_rfl
theorem p_id_false_3 : PartOk "id" false pg3 nu3 ad3 du3 su3 := fun _ _ _ _ _ _ _ _ _ _ _ _ _ _ _ _ => by kernel_rfl
theorem p_a_true_7 : PartOk "a" true pg7 nu7 ad7 du7 su7 := fun _ _ _ _ _ _ _ _ _ _ _ _ _ _ _ _ => by kernel_rfl
theorem p_a_true_3 : PartOk "a" true pg3 nu3 ad3 du3 su3 := fun _ _ _ _ _ _ _ _ _ _ _ _ _ _ _ _ => by kernel_rfl
theorem p_a_false_7 : PartOk "a" false pg7 nu7 ad7 du7 su7 := fun _ _ _ _ _ _ _ _ _ _ _ _ _ _ _ _ => by kernel_rfl
theorem p_a_false_3 : PartOk "a" false pg3 nu3 ad3 du3 su3 := fun _ _ _ _ _ _ _ _ _ _ _ _ _ _ _ _ => by kernel_rfl
theorem p_longer_true_15 : PartOk "longer" true pg15 nu15 ad15 du15 su15 := fun _ _ _ _ _ _ _ _ _ _ _ _ _ _ _ _ => by kernel_rfl
theorem p_longer_true_10 : PartOk "longer" true pg10 nu10 ad10 du10 su10 := fun _ _ _ _ _ _ _ _ _ _ _ _ _ _ _ _ => by kernel_rfl
theorem p_longer_false_15 : PartOk "longer" false pg15 nu15 ad15 du15 su15 := fun _ _ _ _ _ _ _ _ _ _ _ _ _ _ _ _ => by kernel_rfl
theorem p_longer_false_10 : PartOk "longer" false pg10 nu10 ad10 du10 su10 := fun _ _ _ _ _ _ _ _ _ _ _ _ _ _ _ _ => by kernel_rfl
theorem p_id_true_15 : PartOk "id" true pg15 nu15 ad15 du15 su15 := fun _ _ _ _ _ _ _ _ _ _ _ _ _ _ _ _ => by kernel_rfl
theorem p_id_true_10 : PartOk "id" true pg10 nu10 ad10 du10 su10 := fun _ _ _ _ _ _ _ _ _ _ _ _ _ _ _ _ => by kernel_rfl
theorem p_id_false_15 : PartOk "id" false pg15 nu15 ad15 du15 su15 := fun _ _ _ _ _ _ _ _ _ _ _ _ _ _ _ _ => by kernel_rfl
theorem p_id_false_10 : PartOk "id" false pg10 nu10 ad10 du10 su10 := fun _ _ _ _ _ _ _ _ _ _ _ _ _ _ _ _ => by kernel_rfl
theorem p_a_true_15 : PartOk "a" true pg15 nu15 ad15 du15 su15 := fun _ _ _ _ _ _ _ _ _ _ _ _ _ _ _ _ => by kernel_rfl
theorem p_a_true_10 : PartOk "a" true pg10 nu10 ad10 du10 su10 := fun _ _ _ _ _ _ _ _ _ _ _ _ _ _ _ _ => by kernel_rfl
theorem p_a_false_15 : PartOk "a" false pg15 nu15 ad15 du15 su15 := fun _ _ _ _ _ _ _ _ _ _ _ _ _ _ _ _ => by kernel_rfl
theorem p_a_false_10 : PartOk "a" false pg10 nu10 ad10 du10 su10 := fun _ _ _ _ _ _ _ _ _ _ _ _ _ _ _ _ => by kernel_rfl
end K27
end
section
namespace K27
open PySem Jv
theorem p_id_true_9 : PartOk "id" true pg9 nu9 ad9 du9 su9 := fun _ _ _ _ _ _ _ _ _ _ _ _ _ _ _ _ => by kernel_rfl
theorem p_longer_true_8 : PartOk "longer" true pg8 nu8 ad8 du8 su8 := fun _ _ _ _ _ _ _ _ _ _ _ _ _ _ _ _ => by kernel_rfl
theorem p_longer_true_6 : PartOk "longer" true pg6 nu6 ad6 du6 su6 := fun _ _ _ _ _ _ _ _ _ _ _ _ _ _ _ _ => by kernel_rfl
theorem p_longer_true_4 : PartOk "longer" true pg4 nu4 ad4 du4 su4 := fun _ _ _ _ _ _ _ _ _ _ _ _ _ _ _ _ => by kernel_rfl
theorem p_longer_true_2 : PartOk "longer" true pg2 nu2 ad2 du2 su2 := fun _ _ _ _ _ _ _ _ _ _ _ _ _ _ _ _ => by kernel_rfl
theorem p_longer_false_6 : PartOk "longer" false pg6 nu6 ad6 du6 su6 := fun _ _ _ _ _ _ _ _ _ _ _ _ _ _ _ _ => by kernel_rfl
theorem p_longer_false_2 : PartOk "longer" false pg2 nu2 ad2 du2 su2 := fun _ _ _ _ _ _ _ _ _ _ _ _ _ _ _ _ => by kernel_rfl
theorem p_id_true_6 : PartOk "id" true pg6 nu6 ad6 du6 su6 := fun _ _ _ _ _ _ _ _ _ _ _ _ _ _ _ _ => by kernel_rfl
theorem p_id_true_2 : PartOk "id" true pg2 nu2 ad2 du2 su2 := fun _ _ _ _ _ _ _ _ _ _ _ _ _ _ _ _ => by kernel_rfl
theorem p_id_false_6 : PartOk "id" false pg6 nu6 ad6 du6 su6 := fun _ _ _ _ _ _ _ _ _ _ _ _ _ _ _ _ => by kernel_rfl
theorem p_id_false_2 : PartOk "id" false pg2 nu2 ad2 du2 su2 := fun _ _ _ _ _ _ _ _ _ _ _ _ _ _ _ _ => by kernel_rfl
theorem p_a_true_6 : PartOk "a" true pg6 nu6 ad6 du6 su6 := fun _ _ _ _ _ _ _ _ _ _ _ _ _ _ _ _ => by kernel_rfl
theorem p_a_true_2 : PartOk "a" true pg2 nu2 ad2 du2 su2 := fun _ _ _ _ _ _ _ _ _ _ _ _ _ _ _ _ => by kernel_rfl
theorem p_a_false_6 : PartOk "a" false pg6 nu6 ad6 du6 su6 := fun _ _ _ _ _ _ _ _ _ _ _ _ _ _ _ _ => by kernel_rfl
theorem p_a_false_2 : PartOk "a" false pg2 nu2 ad2 du2 su2 := fun _ _ _ _ _ _ _ _ _ _ _ _ _ _ _ _ => by kernel_rfl
theorem p_longer_true_14 : PartOk "longer" true pg14 nu14 ad14 du14 su14 := fun _ _ _ _ _ _ _ _ _ _ _ _ _ _ _ _ => by kernel_rfl
theorem p_longer_true_1 : PartOk "longer" true pg1 nu1 ad1 du1 su1 := fun _ _ _ _ _ _ _ _ _ _ _ _ _ _ _ _ => by kernel_rfl
theorem p_longer_false_14 : PartOk "longer" false pg14 nu14 ad14 du14 su14 := fun _ _ _ _ _ _ _ _ _ _ _ _ _ _ _ _ => by kernel_rfl
theorem p_longer_false_1 : PartOk "longer" false pg1 nu1 ad1 du1 su1 := fun _ _ _ _ _ _ _ _ _ _ _ _ _ _ _ _ => by kernel_rfl
theorem p_id_true_14 : PartOk "id" true pg14 nu14 ad14 du14 su14 := fun _ _ _ _ _ _ _ _ _ _ _ _ _ _ _ _ => by kernel_rfl
theorem p_id_true_1 : PartOk "id" true pg1 nu1 ad1 du1 su1 := fun _ _ _ _ _ _ _ _ _ _ _ _ _ _ _ _ => by kernel_rfl
theorem p_id_false_14 : PartOk "id" false pg14 nu14 ad14 du14 su14 := fun _ _ _ _ _ _ _ _ _ _ _ _ _ _ _ _ => by kernel_rfl
theorem p_id_false_1 : PartOk "id" false pg1 nu1 ad1 du1 su1 := fun _ _ _ _ _ _ _ _ _ _ _ _ _ _ _ _ => by kernel_rfl
theorem p_a_true_14 : PartOk "a" true pg14 nu14 ad14 du14 su14 := fun _ _ _ _ _ _ _ _ _ _ _ _ _ _ _ _ => by kernel_rfl
theorem p_a_true_1 : PartOk "a" true pg1 nu1 ad1 du1 su1 := fun _ _ _ _ _ _ _ _ _ _ _ _ _ _ _ _ => by kernel_rfl
theorem p_a_false_14 : PartOk "a" false pg14 nu14 ad14 du14 su14 := fun _ _ _ _ _ _ _ _ _ _ _ _ _ _ _ _ => by kernel_rfl
theorem p_a_false_1 : PartOk "a" false pg1 nu1 ad1 du1 su1 := fun _ _ _ _ _ _ _ _ _ _ _ _ _ _ _ _ => by kernel_rfl
end K27
end
section
namespace K27
open PySem Jv
theorem p_id_false_9 : PartOk "id" false pg9 nu9 ad9 du9 su9 := fun _ _ _ _ _ _ _ _ _ _ _ _ _ _ _ _ => by kernel_rfl
theorem p_longer_true_7 : PartOk "longer" true pg7 nu7 ad7 du7 su7 := fun _ _ _ _ _ _ _ _ _ _ _ _ _ _ _ _ => by kernel_rfl
theorem p_longer_true_5 : PartOk "longer" true pg5 nu5 ad5 du5 su5 := fun _ _ _ _ _ _ _ _ _ _ _ _ _ _ _ _ => by kernel_rfl
theorem p_longer_true_3 : PartOk "longer" true pg3 nu3 ad3 du3 su3 := fun _ _ _ _ _ _ _ _ _ _ _ _ _ _ _ _ => by kernel_rfl
theorem p_longer_true_12 : PartOk "longer" true pg12 nu12 ad12 du12 su12 := fun _ _ _ _ _ _ _ _ _ _ _ _ _ _ _ _ => by kernel_rfl
theorem p_longer_false_5 : PartOk "longer" false pg5 nu5 ad5 du5 su5 := fun _ _ _ _ _ _ _ _ _ _ _ _ _ _ _ _ => by kernel_rfl
theorem p_longer_false_12 : PartOk "longer" false pg12 nu12 ad12 du12 su12 := fun _ _ _ _ _ _ _ _ _ _ _ _ _ _ _ _ => by kernel_rfl
theorem p_id_true_5 : PartOk "id" true pg5 nu5 ad5 du5 su5 := fun _ _ _ _ _ _ _ _ _ _ _ _ _ _ _ _ => by kernel_rfl
theorem p_id_true_12 : PartOk "id" true pg12 nu12 ad12 du12 su12 := fun _ _ _ _ _ _ _ _ _ _ _ _ _ _ _ _ => by kernel_rfl
theorem p_id_false_5 : PartOk "id" false pg5 nu5 ad5 du5 su5 := fun _ _ _ _ _ _ _ _ _ _ _ _ _ _ _ _ => by kernel_rfl
theorem p_id_false_12 : PartOk "id" false pg12 nu12 ad12 du12 su12 := fun _ _ _ _ _ _ _ _ _ _ _ _ _ _ _ _ => by kernel_rfl
theorem p_a_true_5 : PartOk "a" true pg5 nu5 ad5 du5 su5 := fun _ _ _ _ _ _ _ _ _ _ _ _ _ _ _ _ => by kernel_rfl
theorem p_a_true_12 : PartOk "a" true pg12 nu12 ad12 du12 su12 := fun _ _ _ _ _ _ _ _ _ _ _ _ _ _ _ _ => by kernel_rfl
theorem p_a_false_5 : PartOk "a" false pg5 nu5 ad5 du5 su5 := fun _ _ _ _ _ _ _ _ _ _ _ _ _ _ _ _ => by kernel_rfl
theorem p_a_false_12 : PartOk "a" false pg12 nu12 ad12 du12 su12 := fun _ _ _ _ _ _ _ _ _ _ _ _ _ _ _ _ => by kernel_rfl
theorem p_longer_true_13 : PartOk "longer" true pg13 nu13 ad13 du13 su13 := fun _ _ _ _ _ _ _ _ _ _ _ _ _ _ _ _ => by kernel_rfl
theorem p_longer_true_0 : PartOk "longer" true pg0 nu0 ad0 du0 su0 := fun _ _ _ _ _ _ _ _ _ _ _ _ _ _ _ _ => by kernel_rfl
theorem p_longer_false_13 : PartOk "longer" false pg13 nu13 ad13 du13 su13 := fun _ _ _ _ _ _ _ _ _ _ _ _ _ _ _ _ => by kernel_rfl
theorem p_longer_false_0 : PartOk "longer" false pg0 nu0 ad0 du0 su0 := fun _ _ _ _ _ _ _ _ _ _ _ _ _ _ _ _ => by kernel_rfl
theorem p_id_true_13 : PartOk "id" true pg13 nu13 ad13 du13 su13 := fun _ _ _ _ _ _ _ _ _ _ _ _ _ _ _ _ => by kernel_rfl
theorem p_id_true_0 : PartOk "id" true pg0 nu0 ad0 du0 su0 := fun _ _ _ _ _ _ _ _ _ _ _ _ _ _ _ _ => by kernel_rfl
theorem p_id_false_13 : PartOk "id" false pg13 nu13 ad13 du13 su13 := fun _ _ _ _ _ _ _ _ _ _ _ _ _ _ _ _ => by kernel_rfl
theorem p_id_false_0 : PartOk "id" false pg0 nu0 ad0 du0 su0 := fun _ _ _ _ _ _ _ _ _ _ _ _ _ _ _ _ => by kernel_rfl
theorem p_a_true_13 : PartOk "a" true pg13 nu13 ad13 du13 su13 := fun _ _ _ _ _ _ _ _ _ _ _ _ _ _ _ _ => by kernel_rfl
theorem p_a_true_0 : PartOk "a" true pg0 nu0 ad0 du0 su0 := fun _ _ _ _ _ _ _ _ _ _ _ _ _ _ _ _ => by kernel_rfl
theorem p_a_false_13 : PartOk "a" false pg13 nu13 ad13 du13 su13 := fun _ _ _ _ _ _ _ _ _ _ _ _ _ _ _ _ => by kernel_rfl
theorem p_a_false_0 : PartOk "a" false pg0 nu0 ad0 du0 su0 := fun _ _ _ _ _ _ _ _ _ _ _ _ _ _ _ _ => by kernel_rfl
end K27
end
section
namespace K27
open PySem Jv
theorem rest_ok (o1 o2 : Ob) (a0 a2 a3 a4 a5 a6 a7 a8 a9 a10 a11 a12 a13 a14 a15 a16 a17 a18 a19 a20 a21 : Option Jv.W) : noX (fin 1 (law_rest [a0, some (.r 2), a2, a3, a4, a5, a6, a7, a8, a9, a10, a11, a12, a13, a14, a15, a16, a17, a18, a19, a20, a21] [tb, o1, o2])) = .ok (.v (.bl true)) [tb] := by kernel_rfl
end K27
end
section
namespace K27
open PySem Jv
theorem of_ok {ls cs : List Int} {a : Int} (hn : cs.length = ls.length) (hp : 0 < ls.length) (h0 : 0 ≤ a) (h1 : a ≤ 900000) : ∃ (n : Str) (ls' : List Int), (n = "id" ∨ n = "a" ∨ n = "longer") ∧ ls'.length = ls.length ∧
    rn__law_of [.r 2, .v (.lst [.str "id", .str "a", .str "longer"])] (stA ls cs a) = .ok (.v (.str n)) (stA ls' cs (a + 1)) := by
  obtain ⟨r, ls', r0, r1, hl, e⟩ := draw_ok (m := 3) hn hp h0 h1 (by decide) (by decide)
  have go : ∀ (i : Int) (x : Str), ix2 (stA ls' cs (a + 1)) (.v (.lst [.str "id", .str "a", .str "longer"])) (.v (.int i)) = some (.str x) → r = i → rn__law_of [.r 2, .v (.lst [.str "id", .str "a", .str "longer"])] (stA ls cs a) = .ok (.v (.str x)) (stA ls' cs (a + 1)) := fun i x hx hr => by
    subst hr
    simp [runS, Jv.envOf, fin, noX, sSeq, sAsg, sIf, sPar, sSet, sRet, sNil, sExpr, sNo, tVal, bOr, bNot, bAnd, bYes, eAnd, eOr, eNot, eIf, eBin, eCall, eTup, eCon, eVar, eBlt, eLst, eNeg, eChain, aCons, aNil, aLim, itK, itemsK, gTp, gNm, gsCons, gsNil, allV, ofOp, R.thenS, R.bind, List.replicate, rn__law_of, dn__law_of, lenA, lenB, asLst, e, hx]
    all_goals rfl
  rcases few3 r0 r1 with h | h | h
  · exact ⟨_, ls', .inl rfl, hl, go 0 _ (by kernel_rfl) h⟩
  · exact ⟨_, ls', .inr (.inl rfl), hl, go 1 _ (by kernel_rfl) h⟩
  · exact ⟨_, ls', .inr (.inr rfl), hl, go 2 _ (by kernel_rfl) h⟩
theorem env22 (env : Jv.Env) (h : env.length = 22) : ∃ a0 a1 a2 a3 a4 a5 a6 a7 a8 a9 a10 a11 a12 a13 a14 a15 a16 a17 a18 a19 a20 a21 : Option Jv.W, env = [a0, a1, a2, a3, a4, a5, a6, a7, a8, a9, a10, a11, a12, a13, a14, a15, a16, a17, a18, a19, a20, a21] := by
  match env, h with
  | [a0, a1, a2, a3, a4, a5, a6, a7, a8, a9, a10, a11, a12, a13, a14, a15, a16, a17, a18, a19, a20, a21], _ => exact ⟨a0, a1, a2, a3, a4, a5, a6, a7, a8, a9, a10, a11, a12, a13, a14, a15, a16, a17, a18, a19, a20, a21, rfl⟩
/-- the slots as they are asked further -/
def KE (n : Str) (t : Bool) (env : Jv.Env) : Prop := env.length = 22 ∧ env[1]? = some (some (.r 2)) ∧ env[9]? = some (some (.v (.str n))) ∧ env[10]? = some (some (.v (.bl t)))
def RowOk (n : Str) (t : Bool) (d : Jv.D) : Prop := ∀ (o1 o2 : Ob) (env : Jv.Env), KE n t env → ∃ env1 env2, row_g (.v d) env = some env1 ∧ row_b env1 [tb, o1, o2] = .nx env2 [tb, o1, o2] ∧ KE n t env2
theorem row_of {n : Str} {t : Bool} {pg nu ad du su : Jv.D} (h : PartOk n t pg nu ad du su) : RowOk n t (T [pg, nu, ad, du, su]) := by
  rintro o1 o2 env ⟨k0, k1, k9, k10⟩
  obtain ⟨a0, a1, a2, a3, a4, a5, a6, a7, a8, a9, a10, a11, a12, a13, a14, a15, a16, a17, a18, a19, a20, a21, rfl⟩ := env22 env k0
  cases k1
  cases k9
  cases k10
  have := h o1 o2 a0 a2 a3 a5 a7 a8 a14 a15 a16 a17 a18 a19 a20 a21
  refine ⟨[a0, some (.r 2), a2, a3, some (.v pg), a5, some (.v du), a7, a8, some (.v (.str n)), some (.v (.bl t)), some (.v nu), some (.v ad), some (.v su), a14, a15, a16, a17, a18, a19, a20, a21], ?_⟩
  cases hr : row_b [a0, some (.r 2), a2, a3, some (.v pg), a5, some (.v du), a7, a8, some (.v (.str n)), some (.v (.bl t)), some (.v nu), some (.v ad), some (.v su), a14, a15, a16, a17, a18, a19, a20, a21] [tb, o1, o2] with
  | nx env st =>
    rw [hr] at this
    simp only [nxK, Option.some.injEq, Prod.mk.injEq] at this
    obtain ⟨q0, q1, q9, q10, rfl⟩ := this
    exact ⟨env, rfl, rfl, q0, q1, q9, q10⟩
  | _ => rw [hr] at this; cases this
theorem rows_ok {n : Str} {t : Bool} {o1 o2 : Ob} : ∀ {ds : List Jv.D}, (∀ d ∈ ds, RowOk n t d) → ∀ (env : Jv.Env), KE n t env → ∃ env2, forGo row_g row_b ds env [tb, o1, o2] = .nx env2 [tb, o1, o2] ∧ KE n t env2
  | [], _, env, k => ⟨env, rfl, k⟩
  | d :: r, h, env, k => by
    obtain ⟨env1, env2, e1, e2, k2⟩ := h d List.mem_cons_self o1 o2 env k
    obtain ⟨env3, e3, k3⟩ := rows_ok (fun x hx => h x (List.mem_cons_of_mem _ hx)) env2 k2
    refine ⟨env3, ?_, k3⟩
    simp only [forGo, e1, e2]
    exact e3
theorem all_rows {n : Str} {t : Bool} (hn : n = "id" ∨ n = "a" ∨ n = "longer") : ∀ d ∈ PARTS, RowOk n t d := by
  rcases hn with rfl | rfl | rfl <;> cases t
  · simp only [List.forall_mem_cons, List.forall_mem_nil]
    exact ⟨row_of p_id_false_0, row_of p_id_false_1, row_of p_id_false_2, row_of p_id_false_3, row_of p_id_false_4, row_of p_id_false_5, row_of p_id_false_6, row_of p_id_false_7, row_of p_id_false_8, row_of p_id_false_9, row_of p_id_false_10, row_of p_id_false_11, row_of p_id_false_12, row_of p_id_false_13, row_of p_id_false_14, row_of p_id_false_15, row_of p_id_false_16, fun _ h => nomatch h⟩
  · simp only [List.forall_mem_cons, List.forall_mem_nil]
    exact ⟨row_of p_id_true_0, row_of p_id_true_1, row_of p_id_true_2, row_of p_id_true_3, row_of p_id_true_4, row_of p_id_true_5, row_of p_id_true_6, row_of p_id_true_7, row_of p_id_true_8, row_of p_id_true_9, row_of p_id_true_10, row_of p_id_true_11, row_of p_id_true_12, row_of p_id_true_13, row_of p_id_true_14, row_of p_id_true_15, row_of p_id_true_16, fun _ h => nomatch h⟩
  · simp only [List.forall_mem_cons, List.forall_mem_nil]
    exact ⟨row_of p_a_false_0, row_of p_a_false_1, row_of p_a_false_2, row_of p_a_false_3, row_of p_a_false_4, row_of p_a_false_5, row_of p_a_false_6, row_of p_a_false_7, row_of p_a_false_8, row_of p_a_false_9, row_of p_a_false_10, row_of p_a_false_11, row_of p_a_false_12, row_of p_a_false_13, row_of p_a_false_14, row_of p_a_false_15, row_of p_a_false_16, fun _ h => nomatch h⟩
  · simp only [List.forall_mem_cons, List.forall_mem_nil]
    exact ⟨row_of p_a_true_0, row_of p_a_true_1, row_of p_a_true_2, row_of p_a_true_3, row_of p_a_true_4, row_of p_a_true_5, row_of p_a_true_6, row_of p_a_true_7, row_of p_a_true_8, row_of p_a_true_9, row_of p_a_true_10, row_of p_a_true_11, row_of p_a_true_12, row_of p_a_true_13, row_of p_a_true_14, row_of p_a_true_15, row_of p_a_true_16, fun _ h => nomatch h⟩
  · simp only [List.forall_mem_cons, List.forall_mem_nil]
    exact ⟨row_of p_longer_false_0, row_of p_longer_false_1, row_of p_longer_false_2, row_of p_longer_false_3, row_of p_longer_false_4, row_of p_longer_false_5, row_of p_longer_false_6, row_of p_longer_false_7, row_of p_longer_false_8, row_of p_longer_false_9, row_of p_longer_false_10, row_of p_longer_false_11, row_of p_longer_false_12, row_of p_longer_false_13, row_of p_longer_false_14, row_of p_longer_false_15, row_of p_longer_false_16, fun _ h => nomatch h⟩
  · simp only [List.forall_mem_cons, List.forall_mem_nil]
    exact ⟨row_of p_longer_true_0, row_of p_longer_true_1, row_of p_longer_true_2, row_of p_longer_true_3, row_of p_longer_true_4, row_of p_longer_true_5, row_of p_longer_true_6, row_of p_longer_true_7, row_of p_longer_true_8, row_of p_longer_true_9, row_of p_longer_true_10, row_of p_longer_true_11, row_of p_longer_true_12, row_of p_longer_true_13, row_of p_longer_true_14, row_of p_longer_true_15, row_of p_longer_true_16, fun _ h => nomatch h⟩
theorem loop_ok {n : Str} {t : Bool} (hn : n = "id" ∨ n = "a" ∨ n = "longer") {ls cs : List Int} {a : Int} {env : Jv.Env} (k : KE n t env) : ∃ env2, law_loop env (stA ls cs a) = .nx env2 (stA ls cs a) ∧ KE n t env2 := by
  obtain ⟨env2, e, k2⟩ := rows_ok (o1 := .lst (ls.map .int)) (o2 := .dct [("cells", .v (.lst (cs.map .int))), ("lefts", .r 1), ("at", .v (.int a)), ("room", .v (.int 0))]) (all_rows (t := t) hn) env k
  refine ⟨env2, ?_, k2⟩
  have p := parts_ok (.lst (ls.map .int)) (.dct [("cells", .v (.lst (cs.map .int))), ("lefts", .r 1), ("at", .v (.int a)), ("room", .v (.int 0))])
  have it : itL (eCall rn__law_parts aNil) env (stA ls cs a) = .ok PARTS (stA ls cs a) := by
    unfold itL eCall
    simp only [aNil, R.bind_ok]
    show R.bind (rn__law_parts [] [tb, .lst (ls.map .int), .dct [("cells", .v (.lst (cs.map .int))), ("lefts", .r 1), ("at", .v (.int a)), ("room", .v (.int 0))]]) itemsL = _
    rw [p]
    rfl
  unfold law_loop sFor
  rw [it]
  exact e
theorem turn_ok {ls cs : List Int} {a : Int} (hn : cs.length = ls.length) (hp : 0 < ls.length) (h0 : 0 ≤ a) (h1 : a ≤ 800000) {env : Jv.Env} (hl : env.length = 22) (hs : env[1]? = some (some (.r 2))) :
    ∃ (ls' : List Int) (env2 : Jv.Env), ls'.length = ls.length ∧ (sSeq law_d1 law_loop) env (stA ls cs a) = .nx env2 (stA ls' cs (a + 2)) ∧ env2.length = 22 ∧ env2[1]? = some (some (.r 2)) := by
  obtain ⟨a0, a1, a2, a3, a4, a5, a6, a7, a8, a9, a10, a11, a12, a13, a14, a15, a16, a17, a18, a19, a20, a21, rfl⟩ := env22 env hl
  cases hs
  obtain ⟨n, ls1, hnm, l1, e1⟩ := of_ok hn hp h0 (by omega)
  obtain ⟨r2, ls2, r20, r21, l2, e2⟩ := draw_ok (ls := ls1) (cs := cs) (a := a + 1) (m := 2) (by omega) (by omega) (by omega) (by omega) (by decide) (by decide)
  have ea : a + 1 + 1 = a + 2 := by omega
  rw [ea] at e2
  obtain ⟨t, ht⟩ : ∃ t : Bool, eqD (stA ls2 cs (a + 2)) (.v (.int r2)) (.v (.int 0)) = some (.bl t) := by
    rcases few2 r20 r21 with h | h
    · subst h; exact ⟨true, by kernel_rfl⟩
    · subst h; exact ⟨false, by kernel_rfl⟩
  have d1 : law_d1 [a0, some (.r 2), a2, a3, a4, a5, a6, a7, a8, a9, a10, a11, a12, a13, a14, a15, a16, a17, a18, a19, a20, a21] (stA ls cs a) = .nx [a0, some (.r 2), a2, a3, a4, a5, a6, a7, a8, some (.v (.str n)), some (.v (.bl t)), a11, a12, a13, a14, a15, a16, a17, a18, a19, a20, a21] (stA ls2 cs (a + 2)) := by
    simp [runS, Jv.envOf, fin, noX, sSeq, sAsg, sIf, sPar, sSet, sRet, sNil, sExpr, sNo, tVal, bOr, bNot, bAnd, bYes, eAnd, eOr, eNot, eIf, eBin, eCall, eTup, eCon, eVar, eBlt, eLst, eNeg, eChain, aCons, aNil, aLim, itK, itemsK, gTp, gNm, gsCons, gsNil, allV, ofOp, R.thenS, R.bind, List.replicate, law_d1, e1, e2, ht]
  obtain ⟨env2, e3, k⟩ := loop_ok (t := t) hnm (ls := ls2) (cs := cs) (a := a + 2) (env := [a0, some (.r 2), a2, a3, a4, a5, a6, a7, a8, some (.v (.str n)), some (.v (.bl t)), a11, a12, a13, a14, a15, a16, a17, a18, a19, a20, a21]) ⟨rfl, rfl, rfl, rfl⟩
  refine ⟨ls2, env2, by omega, ?_, k.1, k.2.1⟩
  simp only [sSeq, d1]
  exact e3
theorem turns_ok {cs : List Int} : ∀ (ds : List Jv.D) (ls : List Int) (a : Int) (env : Jv.Env), cs.length = ls.length → 0 < ls.length → 0 ≤ a → a + 2 * ds.length ≤ 800000 → env.length = 22 → env[1]? = some (some (.r 2)) →
    ∃ (ls' : List Int) (a' : Int) (env2 : Jv.Env), forGo (gNm 2) (sSeq law_d1 law_loop) ds env (stA ls cs a) = .nx env2 (stA ls' cs a') ∧ env2.length = 22 ∧ env2[1]? = some (some (.r 2))
  | [], ls, a, env, _, _, _, _, k1, k2 => ⟨ls, a, env, rfl, k1, k2⟩
  | d :: r, ls, a, env, h1, h2, h3, h4, k1, k2 => by
    simp only [List.length_cons, Int.natCast_add] at h4
    have gn : gNm 2 (.v d) env = some (env.set 2 (some (.v d))) := by
      obtain ⟨a0, a1, a2, a3, a4, a5, a6, a7, a8, a9, a10, a11, a12, a13, a14, a15, a16, a17, a18, a19, a20, a21, rfl⟩ := env22 env k1
      rfl
    obtain ⟨ls1, env1, hl, e, q1, q2⟩ := turn_ok (ls := ls) (cs := cs) (a := a) h1 h2 h3 (by omega) (env := env.set 2 (some (.v d))) (by simpa using k1) (by rw [List.getElem?_set_ne (by decide)]; exact k2)
    obtain ⟨ls', a', env2, e', q3, q4⟩ := turns_ok (cs := cs) r ls1 (a + 2) env1 (by omega) (by omega) (by omega) (by omega) q1 q2
    refine ⟨ls', a', env2, ?_, q3, q4⟩
    simp only [forGo, gn, e]
    exact e'
theorem law_ok (ns : List Int) (hl : ns.length ≤ 63) : rn_law [.v (.lst (ns.map .int))] [tb] = tt [tb] := by
  obtain ⟨ls, cs, h1, h2, e⟩ := begin_ok ns hl
  have ln : lenA (stA ls cs 0) [.v (.lst (ns.map .int))] = some (.int ns.length) := by simp [lenA, lenB, asLst]
  have mn : minB (stA ls cs 0) [.v (.int 2), .v (.int ns.length)] = some (.int (if (ns.length : Int) < (2 : Int) then (ns.length : Int) else 2)) := rfl
  obtain ⟨m, hm⟩ : ∃ m : Int, (if (ns.length : Int) < (2 : Int) then (ns.length : Int) else 2) = m := ⟨_, rfl⟩
  have m0 : 0 ≤ m ∧ m ≤ 2 := by rw [← hm]; split <;> omega
  rw [hm] at mn
  have rg : ranges [.v (.int (2 + m))] (stA ls cs 0) = .ok (rangeL 0 (2 + m).toNat) (stA ls cs 0) := by
    simp only [ranges]
    rw [if_pos (by omega)]
  obtain ⟨ls', a', env2, lp, q1, q2⟩ := turns_ok (cs := cs) (rangeL 0 (2 + m).toNat) ls 0 [some (.v (.lst (ns.map .int))), some (.r 2), none, none, none, none, none, none, none, none, none, none, none, none, none, none, none, none, none, none, none, none] h1 h2 (by decide) (by simp [rangeL]; omega) rfl rfl
  have it : law_it [some (.v (.lst (ns.map .int))), some (.r 2), none, none, none, none, none, none, none, none, none, none, none, none, none, none, none, none, none, none, none, none] (stA ls cs 0) = .ok (rangeL 0 (2 + m).toNat) (stA ls cs 0) := by
    simp [runS, Jv.envOf, fin, noX, sSeq, sAsg, sIf, sPar, sSet, sRet, sNil, sExpr, sNo, tVal, bOr, bNot, bAnd, bYes, eAnd, eOr, eNot, eIf, eBin, eCall, eTup, eCon, eVar, eBlt, eLst, eNeg, eChain, aCons, aNil, aLim, itK, itemsK, gTp, gNm, gsCons, gsNil, allV, ofOp, R.thenS, R.bind, List.replicate, law_it, itRange, ln, mn, add_ok, rg]
  obtain ⟨a0, a1, a2, a3, a4, a5, a6, a7, a8, a9, a10, a11, a12, a13, a14, a15, a16, a17, a18, a19, a20, a21, rfl⟩ := env22 env2 q1
  cases q2
  have rs : noX (fin 1 (law_rest [a0, some (.r 2), a2, a3, a4, a5, a6, a7, a8, a9, a10, a11, a12, a13, a14, a15, a16, a17, a18, a19, a20, a21] (stA ls' cs a'))) = .ok (.v (.bl true)) [tb] := rest_ok _ _ _ _ _ _ _ _ _ _ _ _ _ _ _ _ _ _ _ _ _ _ _
  obtain ⟨st2, hr, ht⟩ : ∃ st2, law_rest [a0, some (.r 2), a2, a3, a4, a5, a6, a7, a8, a9, a10, a11, a12, a13, a14, a15, a16, a17, a18, a19, a20, a21] (stA ls' cs a') = .rt (.v (.bl true)) st2 ∧ st2.take 1 = [tb] := by
    generalize law_rest [a0, some (.r 2), a2, a3, a4, a5, a6, a7, a8, a9, a10, a11, a12, a13, a14, a15, a16, a17, a18, a19, a20, a21] (stA ls' cs a') = z at rs ⊢
    cases z with
    | rt w st =>
      cases w with
      | v d =>
        simp only [fin, noX, R.ok.injEq, Jv.W.v.injEq] at rs
        exact ⟨st, by rw [rs.1], rs.2⟩
      | r l =>
        simp only [fin] at rs
        split at rs <;> simp [noX] at rs
    | nx e s => simp [fin, noX] at rs
    | _ => simp [fin, noX] at rs
  unfold rn_law
  rw [dn_law_eq]
  simp [runS, Jv.envOf, fin, noX, sSeq, sAsg, sIf, sPar, sSet, sRet, sNil, sExpr, sNo, tVal, bOr, bNot, bAnd, bYes, eAnd, eOr, eNot, eIf, eBin, eCall, eTup, eCon, eVar, eBlt, eLst, eNeg, eChain, aCons, aNil, aLim, itK, itemsK, gTp, gNm, gsCons, gsNil, allV, ofOp, R.thenS, R.bind, List.replicate, sFor, e, it, lp, hr, ht]
end K27
end
section
namespace K27
open PySem PySem.Spec L2 PyProof.Rows Jv
def D_is_of : He.DefD := ⟨("is_of", none), "is_of", "is_of", defArgs s_is_of, defBody s_is_of, defScope s_is_of, [], []⟩
def D_is_name : He.DefD := ⟨("is_name", none), "is_name", "is_name", defArgs s_is_name, defBody s_is_name, defScope s_is_name, [], []⟩
def D_are_words : He.DefD := ⟨("are_words", none), "are_words", "are_words", defArgs s_are_words, defBody s_are_words, defScope s_are_words, [], []⟩
def D_is_host : He.DefD := ⟨("is_host", none), "is_host", "is_host", defArgs s_is_host, defBody s_is_host, defScope s_is_host, [], []⟩
def D_is_path : He.DefD := ⟨("is_path", none), "is_path", "is_path", defArgs s_is_path, defBody s_is_path, defScope s_is_path, [], []⟩
def D_is_address : He.DefD := ⟨("is_address", none), "is_address", "is_address", defArgs s_is_address, defBody s_is_address, defScope s_is_address, [], []⟩
def D_is_within : He.DefD := ⟨("is_within", none), "is_within", "is_within", defArgs s_is_within, defBody s_is_within, defScope s_is_within, [], []⟩
def D_is_below : He.DefD := ⟨("is_below", none), "is_below", "is_below", defArgs s_is_below, defBody s_is_below, defScope s_is_below, [], []⟩
def D_is_whole : He.DefD := ⟨("is_whole", none), "is_whole", "is_whole", defArgs s_is_whole, defBody s_is_whole, defScope s_is_whole, [], []⟩
def D_is_value : He.DefD := ⟨("is_value", none), "is_value", "is_value", defArgs s_is_value, defBody s_is_value, defScope s_is_value, [], []⟩
def D_is_write : He.DefD := ⟨("is_write", none), "is_write", "is_write", defArgs s_is_write, defBody s_is_write, defScope s_is_write, [], []⟩
def D_need_site : He.DefD := ⟨("need_site", none), "need_site", "need_site", defArgs s_need_site, defBody s_need_site, defScope s_need_site, [], []⟩
def D_need_page : He.DefD := ⟨("need_page", none), "need_page", "need_page", defArgs s_need_page, defBody s_need_page, defScope s_need_page, [], []⟩
def D_need_name : He.DefD := ⟨("need_name", none), "need_name", "need_name", defArgs s_need_name, defBody s_need_name, defScope s_need_name, [], []⟩
def D_key_in : He.DefD := ⟨("key_in", none), "key_in", "key_in", defArgs s_key_in, defBody s_key_in, defScope s_key_in, [], []⟩
def D_taken_in : He.DefD := ⟨("taken_in", none), "taken_in", "taken_in", defArgs s_taken_in, defBody s_taken_in, defScope s_taken_in, [], []⟩
def D_effects_in : He.DefD := ⟨("effects_in", none), "effects_in", "effects_in", defArgs s_effects_in, defBody s_effects_in, defScope s_effects_in, [], []⟩
def D_keys_in : He.DefD := ⟨("keys_in", none), "keys_in", "keys_in", defArgs s_keys_in, defBody s_keys_in, defScope s_keys_in, [], []⟩
def D_rank : He.DefD := ⟨("rank", none), "rank", "rank", defArgs s_rank, defBody s_rank, defScope s_rank, [], []⟩
def D_need_address : He.DefD := ⟨("need_address", none), "need_address", "need_address", defArgs s_need_address, defBody s_need_address, defScope s_need_address, [], []⟩
def D_after : He.DefD := ⟨("after", none), "after", "after", defArgs s_after, defBody s_after, defScope s_after, [], []⟩
def D_goes : He.DefD := ⟨("goes", none), "goes", "goes", defArgs s_goes, defBody s_goes, defScope s_goes, [], []⟩
def D_sent_in : He.DefD := ⟨("sent_in", none), "sent_in", "sent_in", defArgs s_sent_in, defBody s_sent_in, defScope s_sent_in, [], []⟩
def D_read_in : He.DefD := ⟨("read_in", none), "read_in", "read_in", defArgs s_read_in, defBody s_read_in, defScope s_read_in, [], []⟩
def D_behind_in : He.DefD := ⟨("behind_in", none), "behind_in", "behind_in", defArgs s_behind_in, defBody s_behind_in, defScope s_behind_in, [], []⟩
def D_need_few : He.DefD := ⟨("need_few", none), "need_few", "need_few", defArgs s_need_few, defBody s_need_few, defScope s_need_few, [], []⟩
def D_layers : He.DefD := ⟨("layers", none), "layers", "layers", defArgs s_layers, defBody s_layers, defScope s_layers, [], []⟩
def D_rows_in : He.DefD := ⟨("rows_in", none), "rows_in", "rows_in", defArgs s_rows_in, defBody s_rows_in, defScope s_rows_in, [], []⟩
def D_jars : He.DefD := ⟨("jars", none), "jars", "jars", defArgs s_jars, defBody s_jars, defScope s_jars, [], []⟩
def D_readings : He.DefD := ⟨("readings", none), "readings", "readings", defArgs s_readings, defBody s_readings, defScope s_readings, [], []⟩
def D_sure : He.DefD := ⟨("sure", none), "sure", "sure", defArgs s_sure, defBody s_sure, defScope s_sure, [], []⟩
def D__law_mixed : He.DefD := ⟨("_law_mixed", none), "_law_mixed", "_law_mixed", defArgs s__law_mixed, defBody s__law_mixed, defScope s__law_mixed, [], []⟩
def D__law_begin : He.DefD := ⟨("_law_begin", none), "_law_begin", "_law_begin", defArgs s__law_begin, defBody s__law_begin, defScope s__law_begin, [], []⟩
def D__law_draw : He.DefD := ⟨("_law_draw", none), "_law_draw", "_law_draw", defArgs s__law_draw, defBody s__law_draw, defScope s__law_draw, [], []⟩
def D__law_of : He.DefD := ⟨("_law_of", none), "_law_of", "_law_of", defArgs s__law_of, defBody s__law_of, defScope s__law_of, [], []⟩
def D__law_key : He.DefD := ⟨("_law_key", none), "_law_key", "_law_key", defArgs s__law_key, defBody s__law_key, defScope s__law_key, [], []⟩
def D__law_visited : He.DefD := ⟨("_law_visited", none), "_law_visited", "_law_visited", defArgs s__law_visited, defBody s__law_visited, defScope s__law_visited, [], []⟩
def D__law_behind : He.DefD := ⟨("_law_behind", none), "_law_behind", "_law_behind", defArgs s__law_behind, defBody s__law_behind, defScope s__law_behind, [], []⟩
def D__law_goes : He.DefD := ⟨("_law_goes", none), "_law_goes", "_law_goes", defArgs s__law_goes, defBody s__law_goes, defScope s__law_goes, [], []⟩
def D__law_sent : He.DefD := ⟨("_law_sent", none), "_law_sent", "_law_sent", defArgs s__law_sent, defBody s__law_sent, defScope s__law_sent, [], []⟩
def D__law_parts : He.DefD := ⟨("_law_parts", none), "_law_parts", "_law_parts", defArgs s__law_parts, defBody s__law_parts, defScope s__law_parts, [], []⟩
def D__law_right : He.DefD := ⟨("_law_right", none), "_law_right", "_law_right", defArgs s__law_right, defBody s__law_right, defScope s__law_right, [], []⟩
def D_law : He.DefD := ⟨("law", none), "law", "law", defArgs s_law, defBody s_law, defScope s_law, [], []⟩
def fn : List He.DefD := [D_is_of, D_is_name, D_are_words, D_is_host, D_is_path, D_is_address, D_is_within, D_is_below, D_is_whole, D_is_value, D_is_write, D_need_site, D_need_page, D_need_name, D_key_in, D_taken_in, D_effects_in, D_keys_in, D_rank, D_need_address, D_after] ++ [D_goes, D_sent_in, D_read_in, D_behind_in, D_need_few, D_layers, D_rows_in, D_jars, D_readings, D_sure, D__law_mixed, D__law_begin, D__law_draw, D__law_of, D__law_key, D__law_visited, D__law_behind, D__law_goes, D__law_sent, D__law_parts, D__law_right, D_law]
def fa1 : List He.Fa := [.glo "is_of", .glo "is_name", .glo "are_words", .glo "is_host", .glo "is_path", .glo "is_address", .glo "is_within", .glo "is_below", .glo "is_whole", .glo "is_value", .glo "is_write", .glo "need_site", .glo "need_page", .glo "need_name", .glo "key_in", .glo "taken_in", .glo "effects_in", .glo "keys_in", .glo "rank", .glo "need_address", .glo "after", .glo "goes", .glo "sent_in", .glo "read_in", .glo "behind_in", .glo "need_few", .glo "layers", .glo "rows_in", .glo "jars", .glo "readings", .glo "sure", .glo "_law_mixed"]
def fa2 : List He.Fa := [.glo "_law_begin", .glo "_law_draw", .glo "_law_of", .glo "_law_key", .glo "_law_visited", .glo "_law_behind", .glo "_law_goes", .glo "_law_sent", .glo "_law_parts", .glo "_law_right", .glo "law", .free "len", .int "MOST_SIGNS" 6, .free "str", .free "isinstance", .free "all", .str "LETTERS" "abcdefghijklmnopqrstuvwxyz", .free "tuple", .str "SIGNS" "abcdefghijklmnopqrstuvwxyz0123456789", .int "MOST_LABELS" 5, .int "LEAST_LABELS" 2, .int "MOST_SEGMENTS" 4, .free "bool", .free "int", .int "MOST_PAGES" 5, .free "enumerate", .int "MOST_WRITES" 5, .free "sorted", .free "list", .int "MOST_KEYS" 6, .free "range", .free "zip", .free "set", .free "min"]
def fa : List He.Fa := fa1 ++ fa2
abbrev Rw5 : PySem.W.OpenRow := PySem.W.OpenLaw.row PySem.Challenge.rw_jarvisits_k27_readings_by_hand
def tf : List He.Defn := [("_law_sent", none)]
def ex : PySem.W.Frag → Bool := fun _ => true
abbrev hk : PySem.W.Hook := He.hookX 4 fa fn [] tf ex
def ob (s : PySem.W.SharedT) : He.AlX := He.obsX 4 fa fn [] tf ex (HandSHeadRun.getT s)
theorem ob_eq (s : PySem.W.SharedT) : ob s = hk.obs s.abs := He.obsX_eq (HandSHeadRun.getT_eq s)
def nm1 : List PySem.Str := ["LETTERS", "SIGNS", "MOST_SIGNS", "LEAST_LABELS", "MOST_LABELS", "MOST_SEGMENTS", "is_of", "is_name", "are_words", "is_host", "is_path", "is_address", "is_within", "is_below", "JarError", "BadSite", "BadAddress", "BadName", "BadPage", "TooMany", "MOST_PAGES", "MOST_WRITES", "is_whole", "is_value", "is_write", "need_site", "need_page", "need_name", "key_in", "taken_in"]
def nm2 : List PySem.Str := ["effects_in", "keys_in", "rank", "need_address", "after", "goes", "sent_in", "read_in", "behind_in", "MOST_KEYS", "need_few", "layers", "rows_in", "jars", "readings", "sure", "_law_mixed", "_law_begin", "_law_draw", "_law_of", "_law_key", "_law_visited", "_law_behind", "_law_goes", "_law_sent", "_law_parts", "_law_right"]
def names : List PySem.Str := nm1 ++ nm2
theorem run (w : World) : HandSHeadRun.RunEq Rw5 (PySem.W.view Rw5.prog [64]) hk ob 20000 names w := by
  intro os
  kernel_rfl
theorem funD_fun {K : PySem.W.Frag} {x qual : Str} {st : Stmt} {f : Addr} {fd : FuncData} (F : FunD K x qual (defArgs st) (defBody st) (defScope st) [] [] f fd) : Fun K x qual st f fd := by
  obtain ⟨oc, od, dV, kV, doc, pm, an, cdv, ct, osl, e, lk, hcd, hd, _⟩ := F.ex
  have hd' : dV = .none := hd.elim (fun z => z.2) (fun z => absurd rfl z.1)
  subst hd'
  exact ⟨⟨oc, od, kV, doc, pm, an, cdv, ct, osl, e, lk, hcd⟩, F.kp⟩
abbrev ct0 : Nat → Value := fun _ => .none
theorem facts {P : Program} {w : World} {K : PySem.W.Frag} {h : Heap} {mg : Str → Option Value} {f : Addr} (X : K.In h) (G : h.Ns mainGlobals mg) (hfa : mg ("law" : Str) = some (.ref f)) (c : He.SaysD fa fn K) :
    ∃ fd : FuncData, (∀ (s : Shared) (v : Value), BindsTo s fd ⟨[v], []⟩ [("script", v)]) ∧ ∀ base : Heap, K.In base → base.Ns mainGlobals mg → (∀ p ∈ (tf.map (He.cT K)), LamX.TabB base mg p.1 p.2) → FnG P w K mg base CX0 10 f fd ["script"] (spG ⟨K, w, mg⟩ ct0 1 rn_law) := by
  have z_len := He.free_ok X G (c.fact 43 (f := .free "len") rfl)
  have m_MOST_SIGNS := He.int_ok X G (c.fact 44 (f := .int "MOST_SIGNS" 6) rfl)
  have z_str := He.free_ok X G (c.fact 45 (f := .free "str") rfl)
  have z_isinstance := He.free_ok X G (c.fact 46 (f := .free "isinstance") rfl)
  have z_all := He.free_ok X G (c.fact 47 (f := .free "all") rfl)
  have m_LETTERS := He.str_ok X G (c.fact 48 (f := .str "LETTERS" "abcdefghijklmnopqrstuvwxyz") rfl)
  have z_tuple := He.free_ok X G (c.fact 49 (f := .free "tuple") rfl)
  have m_SIGNS := He.str_ok X G (c.fact 50 (f := .str "SIGNS" "abcdefghijklmnopqrstuvwxyz0123456789") rfl)
  have m_MOST_LABELS := He.int_ok X G (c.fact 51 (f := .int "MOST_LABELS" 5) rfl)
  have m_LEAST_LABELS := He.int_ok X G (c.fact 52 (f := .int "LEAST_LABELS" 2) rfl)
  have m_MOST_SEGMENTS := He.int_ok X G (c.fact 53 (f := .int "MOST_SEGMENTS" 4) rfl)
  have z_bool := He.free_ok X G (c.fact 54 (f := .free "bool") rfl)
  have z_int := He.free_ok X G (c.fact 55 (f := .free "int") rfl)
  have m_MOST_PAGES := He.int_ok X G (c.fact 56 (f := .int "MOST_PAGES" 5) rfl)
  have z_enumerate := He.free_ok X G (c.fact 57 (f := .free "enumerate") rfl)
  have m_MOST_WRITES := He.int_ok X G (c.fact 58 (f := .int "MOST_WRITES" 5) rfl)
  have z_sorted := He.free_ok X G (c.fact 59 (f := .free "sorted") rfl)
  have z_list := He.free_ok X G (c.fact 60 (f := .free "list") rfl)
  have m_MOST_KEYS := He.int_ok X G (c.fact 61 (f := .int "MOST_KEYS" 6) rfl)
  have z_range := He.free_ok X G (c.fact 62 (f := .free "range") rfl)
  have z_zip := He.free_ok X G (c.fact 63 (f := .free "zip") rfl)
  have z_set := He.free_ok X G (c.fact 64 (f := .free "set") rfl)
  have z_min := He.free_ok X G (c.fact 65 (f := .free "min") rfl)
  obtain ⟨fd_is_of, E_is_of⟩ := c.def_ 0 (d := D_is_of) rfl
  have g_is_of := He.glo_ok X G (c.fact 0 (f := .glo "is_of") rfl)
  have F_is_of : Fun K "is_of" "is_of" s_is_of _ fd_is_of := funD_fun E_is_of
  have b_is_of : Binds K fd_is_of ["thing", "signs"] [] := FunD.bindsN E_is_of fun _ _ _ _ _ _ us hl => match us, hl with | [_, _], _ => rfl
  obtain ⟨fd_is_name, E_is_name⟩ := c.def_ 1 (d := D_is_name) rfl
  have g_is_name := He.glo_ok X G (c.fact 1 (f := .glo "is_name") rfl)
  have F_is_name : Fun K "is_name" "is_name" s_is_name _ fd_is_name := funD_fun E_is_name
  have b_is_name : Binds K fd_is_name ["thing"] [] := FunD.bindsN E_is_name fun _ _ _ _ _ _ us hl => match us, hl with | [_], _ => rfl
  obtain ⟨fd_are_words, E_are_words⟩ := c.def_ 2 (d := D_are_words) rfl
  have g_are_words := He.glo_ok X G (c.fact 2 (f := .glo "are_words") rfl)
  have F_are_words : Fun K "are_words" "are_words" s_are_words _ fd_are_words := funD_fun E_are_words
  have b_are_words : Binds K fd_are_words ["thing", "least", "most"] [] := FunD.bindsN E_are_words fun _ _ _ _ _ _ us hl => match us, hl with | [_, _, _], _ => rfl
  obtain ⟨fd_is_host, E_is_host⟩ := c.def_ 3 (d := D_is_host) rfl
  have g_is_host := He.glo_ok X G (c.fact 3 (f := .glo "is_host") rfl)
  have F_is_host : Fun K "is_host" "is_host" s_is_host _ fd_is_host := funD_fun E_is_host
  have b_is_host : Binds K fd_is_host ["thing"] [] := FunD.bindsN E_is_host fun _ _ _ _ _ _ us hl => match us, hl with | [_], _ => rfl
  obtain ⟨fd_is_path, E_is_path⟩ := c.def_ 4 (d := D_is_path) rfl
  have g_is_path := He.glo_ok X G (c.fact 4 (f := .glo "is_path") rfl)
  have F_is_path : Fun K "is_path" "is_path" s_is_path _ fd_is_path := funD_fun E_is_path
  have b_is_path : Binds K fd_is_path ["thing"] [] := FunD.bindsN E_is_path fun _ _ _ _ _ _ us hl => match us, hl with | [_], _ => rfl
  obtain ⟨fd_is_address, E_is_address⟩ := c.def_ 5 (d := D_is_address) rfl
  have g_is_address := He.glo_ok X G (c.fact 5 (f := .glo "is_address") rfl)
  have F_is_address : Fun K "is_address" "is_address" s_is_address _ fd_is_address := funD_fun E_is_address
  have b_is_address : Binds K fd_is_address ["thing"] [] := FunD.bindsN E_is_address fun _ _ _ _ _ _ us hl => match us, hl with | [_], _ => rfl
  obtain ⟨fd_is_within, E_is_within⟩ := c.def_ 6 (d := D_is_within) rfl
  have g_is_within := He.glo_ok X G (c.fact 6 (f := .glo "is_within") rfl)
  have F_is_within : Fun K "is_within" "is_within" s_is_within _ fd_is_within := funD_fun E_is_within
  have b_is_within : Binds K fd_is_within ["host", "other"] [] := FunD.bindsN E_is_within fun _ _ _ _ _ _ us hl => match us, hl with | [_, _], _ => rfl
  obtain ⟨fd_is_below, E_is_below⟩ := c.def_ 7 (d := D_is_below) rfl
  have g_is_below := He.glo_ok X G (c.fact 7 (f := .glo "is_below") rfl)
  have F_is_below : Fun K "is_below" "is_below" s_is_below _ fd_is_below := funD_fun E_is_below
  have b_is_below : Binds K fd_is_below ["path", "other"] [] := FunD.bindsN E_is_below fun _ _ _ _ _ _ us hl => match us, hl with | [_, _], _ => rfl
  obtain ⟨fd_is_whole, E_is_whole⟩ := c.def_ 8 (d := D_is_whole) rfl
  have g_is_whole := He.glo_ok X G (c.fact 8 (f := .glo "is_whole") rfl)
  have F_is_whole : Fun K "is_whole" "is_whole" s_is_whole _ fd_is_whole := funD_fun E_is_whole
  have b_is_whole : Binds K fd_is_whole ["thing", "least", "most"] [] := FunD.bindsN E_is_whole fun _ _ _ _ _ _ us hl => match us, hl with | [_, _, _], _ => rfl
  obtain ⟨fd_is_value, E_is_value⟩ := c.def_ 9 (d := D_is_value) rfl
  have g_is_value := He.glo_ok X G (c.fact 9 (f := .glo "is_value") rfl)
  have F_is_value : Fun K "is_value" "is_value" s_is_value _ fd_is_value := funD_fun E_is_value
  have b_is_value : Binds K fd_is_value ["thing"] [] := FunD.bindsN E_is_value fun _ _ _ _ _ _ us hl => match us, hl with | [_], _ => rfl
  obtain ⟨fd_is_write, E_is_write⟩ := c.def_ 10 (d := D_is_write) rfl
  have g_is_write := He.glo_ok X G (c.fact 10 (f := .glo "is_write") rfl)
  have F_is_write : Fun K "is_write" "is_write" s_is_write _ fd_is_write := funD_fun E_is_write
  have b_is_write : Binds K fd_is_write ["thing"] [] := FunD.bindsN E_is_write fun _ _ _ _ _ _ us hl => match us, hl with | [_], _ => rfl
  obtain ⟨fd_need_site, E_need_site⟩ := c.def_ 11 (d := D_need_site) rfl
  have g_need_site := He.glo_ok X G (c.fact 11 (f := .glo "need_site") rfl)
  have F_need_site : Fun K "need_site" "need_site" s_need_site _ fd_need_site := funD_fun E_need_site
  have b_need_site : Binds K fd_need_site ["thing"] [] := FunD.bindsN E_need_site fun _ _ _ _ _ _ us hl => match us, hl with | [_], _ => rfl
  obtain ⟨fd_need_page, E_need_page⟩ := c.def_ 12 (d := D_need_page) rfl
  have g_need_page := He.glo_ok X G (c.fact 12 (f := .glo "need_page") rfl)
  have F_need_page : Fun K "need_page" "need_page" s_need_page _ fd_need_page := funD_fun E_need_page
  have b_need_page : Binds K fd_need_page ["site", "page"] [] := FunD.bindsN E_need_page fun _ _ _ _ _ _ us hl => match us, hl with | [_, _], _ => rfl
  obtain ⟨fd_need_name, E_need_name⟩ := c.def_ 13 (d := D_need_name) rfl
  have g_need_name := He.glo_ok X G (c.fact 13 (f := .glo "need_name") rfl)
  have F_need_name : Fun K "need_name" "need_name" s_need_name _ fd_need_name := funD_fun E_need_name
  have b_need_name : Binds K fd_need_name ["thing"] [] := FunD.bindsN E_need_name fun _ _ _ _ _ _ us hl => match us, hl with | [_], _ => rfl
  obtain ⟨fd_key_in, E_key_in⟩ := c.def_ 14 (d := D_key_in) rfl
  have g_key_in := He.glo_ok X G (c.fact 14 (f := .glo "key_in") rfl)
  have F_key_in : Fun K "key_in" "key_in" s_key_in _ fd_key_in := funD_fun E_key_in
  have b_key_in : Binds K fd_key_in ["address", "write"] [] := FunD.bindsN E_key_in fun _ _ _ _ _ _ us hl => match us, hl with | [_, _], _ => rfl
  obtain ⟨fd_taken_in, E_taken_in⟩ := c.def_ 15 (d := D_taken_in) rfl
  have g_taken_in := He.glo_ok X G (c.fact 15 (f := .glo "taken_in") rfl)
  have F_taken_in : Fun K "taken_in" "taken_in" s_taken_in _ fd_taken_in := funD_fun E_taken_in
  have b_taken_in : Binds K fd_taken_in ["page"] [] := FunD.bindsN E_taken_in fun _ _ _ _ _ _ us hl => match us, hl with | [_], _ => rfl
  obtain ⟨fd_effects_in, E_effects_in⟩ := c.def_ 16 (d := D_effects_in) rfl
  have g_effects_in := He.glo_ok X G (c.fact 16 (f := .glo "effects_in") rfl)
  have F_effects_in : Fun K "effects_in" "effects_in" s_effects_in _ fd_effects_in := funD_fun E_effects_in
  have b_effects_in : Binds K fd_effects_in ["page"] [] := FunD.bindsN E_effects_in fun _ _ _ _ _ _ us hl => match us, hl with | [_], _ => rfl
  obtain ⟨fd_keys_in, E_keys_in⟩ := c.def_ 17 (d := D_keys_in) rfl
  have g_keys_in := He.glo_ok X G (c.fact 17 (f := .glo "keys_in") rfl)
  have F_keys_in : Fun K "keys_in" "keys_in" s_keys_in _ fd_keys_in := funD_fun E_keys_in
  have b_keys_in : Binds K fd_keys_in ["site"] [] := FunD.bindsN E_keys_in fun _ _ _ _ _ _ us hl => match us, hl with | [_], _ => rfl
  obtain ⟨fd_rank, E_rank⟩ := c.def_ 18 (d := D_rank) rfl
  have g_rank := He.glo_ok X G (c.fact 18 (f := .glo "rank") rfl)
  have F_rank : Fun K "rank" "rank" s_rank _ fd_rank := funD_fun E_rank
  have b_rank : Binds K fd_rank ["kept"] [] := FunD.bindsN E_rank fun _ _ _ _ _ _ us hl => match us, hl with | [_], _ => rfl
  obtain ⟨fd_need_address, E_need_address⟩ := c.def_ 19 (d := D_need_address) rfl
  have g_need_address := He.glo_ok X G (c.fact 19 (f := .glo "need_address") rfl)
  have F_need_address : Fun K "need_address" "need_address" s_need_address _ fd_need_address := funD_fun E_need_address
  have b_need_address : Binds K fd_need_address ["thing"] [] := FunD.bindsN E_need_address fun _ _ _ _ _ _ us hl => match us, hl with | [_], _ => rfl
  obtain ⟨fd_after, E_after⟩ := c.def_ 20 (d := D_after) rfl
  have g_after := He.glo_ok X G (c.fact 20 (f := .glo "after") rfl)
  have F_after : Fun K "after" "after" s_after _ fd_after := funD_fun E_after
  have b_after : Binds K fd_after ["jar", "page"] [] := FunD.bindsN E_after fun _ _ _ _ _ _ us hl => match us, hl with | [_, _], _ => rfl
  obtain ⟨fd_goes, E_goes⟩ := c.def_ 21 (d := D_goes) rfl
  have g_goes := He.glo_ok X G (c.fact 21 (f := .glo "goes") rfl)
  have F_goes : Fun K "goes" "goes" s_goes _ fd_goes := funD_fun E_goes
  have b_goes : Binds K fd_goes ["kept", "address"] [] := FunD.bindsN E_goes fun _ _ _ _ _ _ us hl => match us, hl with | [_, _], _ => rfl
  obtain ⟨fd_sent_in, E_sent_in⟩ := c.def_ 22 (d := D_sent_in) rfl
  have g_sent_in := He.glo_ok X G (c.fact 22 (f := .glo "sent_in") rfl)
  have F_sent_in : Fun K "sent_in" "sent_in" s_sent_in _ fd_sent_in := funD_fun E_sent_in
  have b_sent_in : Binds K fd_sent_in ["jar", "address"] [] := FunD.bindsN E_sent_in fun _ _ _ _ _ _ us hl => match us, hl with | [_, _], _ => rfl
  obtain ⟨fd_read_in, E_read_in⟩ := c.def_ 23 (d := D_read_in) rfl
  have g_read_in := He.glo_ok X G (c.fact 23 (f := .glo "read_in") rfl)
  have F_read_in : Fun K "read_in" "read_in" s_read_in _ fd_read_in := funD_fun E_read_in
  have b_read_in : Binds K fd_read_in ["jar", "address", "name"] [] := FunD.bindsN E_read_in fun _ _ _ _ _ _ us hl => match us, hl with | [_, _, _], _ => rfl
  obtain ⟨fd_behind_in, E_behind_in⟩ := c.def_ 24 (d := D_behind_in) rfl
  have g_behind_in := He.glo_ok X G (c.fact 24 (f := .glo "behind_in") rfl)
  have F_behind_in : Fun K "behind_in" "behind_in" s_behind_in _ fd_behind_in := funD_fun E_behind_in
  have b_behind_in : Binds K fd_behind_in ["site", "row"] [] := FunD.bindsN E_behind_in fun _ _ _ _ _ _ us hl => match us, hl with | [_, _], _ => rfl
  obtain ⟨fd_need_few, E_need_few⟩ := c.def_ 25 (d := D_need_few) rfl
  have g_need_few := He.glo_ok X G (c.fact 25 (f := .glo "need_few") rfl)
  have F_need_few : Fun K "need_few" "need_few" s_need_few _ fd_need_few := funD_fun E_need_few
  have b_need_few : Binds K fd_need_few ["keys"] [] := FunD.bindsN E_need_few fun _ _ _ _ _ _ us hl => match us, hl with | [_], _ => rfl
  obtain ⟨fd_layers, E_layers⟩ := c.def_ 26 (d := D_layers) rfl
  have g_layers := He.glo_ok X G (c.fact 26 (f := .glo "layers") rfl)
  have F_layers : Fun K "layers" "layers" s_layers _ fd_layers := funD_fun E_layers
  have b_layers : Binds K fd_layers ["sites"] [] := FunD.bindsN E_layers fun _ _ _ _ _ _ us hl => match us, hl with | [_], _ => rfl
  obtain ⟨fd_rows_in, E_rows_in⟩ := c.def_ 27 (d := D_rows_in) rfl
  have g_rows_in := He.glo_ok X G (c.fact 27 (f := .glo "rows_in") rfl)
  have F_rows_in : Fun K "rows_in" "rows_in" s_rows_in _ fd_rows_in := funD_fun E_rows_in
  have b_rows_in : Binds K fd_rows_in ["site"] [] := FunD.bindsN E_rows_in fun _ _ _ _ _ _ us hl => match us, hl with | [_], _ => rfl
  obtain ⟨fd_jars, E_jars⟩ := c.def_ 28 (d := D_jars) rfl
  have g_jars := He.glo_ok X G (c.fact 28 (f := .glo "jars") rfl)
  have F_jars : Fun K "jars" "jars" s_jars _ fd_jars := funD_fun E_jars
  have b_jars : Binds K fd_jars ["site"] [] := FunD.bindsN E_jars fun _ _ _ _ _ _ us hl => match us, hl with | [_], _ => rfl
  obtain ⟨fd_readings, E_readings⟩ := c.def_ 29 (d := D_readings) rfl
  have g_readings := He.glo_ok X G (c.fact 29 (f := .glo "readings") rfl)
  have F_readings : Fun K "readings" "readings" s_readings _ fd_readings := funD_fun E_readings
  have b_readings : Binds K fd_readings ["site", "page", "address", "name"] [] := FunD.bindsN E_readings fun _ _ _ _ _ _ us hl => match us, hl with | [_, _, _, _], _ => rfl
  obtain ⟨fd_sure, E_sure⟩ := c.def_ 30 (d := D_sure) rfl
  have g_sure := He.glo_ok X G (c.fact 30 (f := .glo "sure") rfl)
  have F_sure : Fun K "sure" "sure" s_sure _ fd_sure := funD_fun E_sure
  have b_sure : Binds K fd_sure ["site", "page", "address"] [] := FunD.bindsN E_sure fun _ _ _ _ _ _ us hl => match us, hl with | [_, _, _], _ => rfl
  obtain ⟨fd__law_mixed, E__law_mixed⟩ := c.def_ 31 (d := D__law_mixed) rfl
  have g__law_mixed := He.glo_ok X G (c.fact 31 (f := .glo "_law_mixed") rfl)
  have F__law_mixed : Fun K "_law_mixed" "_law_mixed" s__law_mixed _ fd__law_mixed := funD_fun E__law_mixed
  have b__law_mixed : Binds K fd__law_mixed ["cell", "k"] [] := FunD.bindsN E__law_mixed fun _ _ _ _ _ _ us hl => match us, hl with | [_, _], _ => rfl
  obtain ⟨fd__law_begin, E__law_begin⟩ := c.def_ 32 (d := D__law_begin) rfl
  have g__law_begin := He.glo_ok X G (c.fact 32 (f := .glo "_law_begin") rfl)
  have F__law_begin : Fun K "_law_begin" "_law_begin" s__law_begin _ fd__law_begin := funD_fun E__law_begin
  have b__law_begin : Binds K fd__law_begin ["script"] [] := FunD.bindsN E__law_begin fun _ _ _ _ _ _ us hl => match us, hl with | [_], _ => rfl
  obtain ⟨fd__law_draw, E__law_draw⟩ := c.def_ 33 (d := D__law_draw) rfl
  have g__law_draw := He.glo_ok X G (c.fact 33 (f := .glo "_law_draw") rfl)
  have F__law_draw : Fun K "_law_draw" "_law_draw" s__law_draw _ fd__law_draw := funD_fun E__law_draw
  have b__law_draw : Binds K fd__law_draw ["state", "many"] [] := FunD.bindsN E__law_draw fun _ _ _ _ _ _ us hl => match us, hl with | [_, _], _ => rfl
  obtain ⟨fd__law_of, E__law_of⟩ := c.def_ 34 (d := D__law_of) rfl
  have g__law_of := He.glo_ok X G (c.fact 34 (f := .glo "_law_of") rfl)
  have F__law_of : Fun K "_law_of" "_law_of" s__law_of _ fd__law_of := funD_fun E__law_of
  have b__law_of : Binds K fd__law_of ["state", "some"] [] := FunD.bindsN E__law_of fun _ _ _ _ _ _ us hl => match us, hl with | [_, _], _ => rfl
  obtain ⟨fd__law_key, E__law_key⟩ := c.def_ 35 (d := D__law_key) rfl
  have g__law_key := He.glo_ok X G (c.fact 35 (f := .glo "_law_key") rfl)
  have F__law_key : Fun K "_law_key" "_law_key" s__law_key _ fd__law_key := funD_fun E__law_key
  have b__law_key : Binds K fd__law_key ["page", "write"] [] := FunD.bindsN E__law_key fun _ _ _ _ _ _ us hl => match us, hl with | [_, _], _ => rfl
  obtain ⟨fd__law_visited, E__law_visited⟩ := c.def_ 36 (d := D__law_visited) rfl
  have g__law_visited := He.glo_ok X G (c.fact 36 (f := .glo "_law_visited") rfl)
  have F__law_visited : Fun K "_law_visited" "_law_visited" s__law_visited _ fd__law_visited := funD_fun E__law_visited
  have b__law_visited : Binds K fd__law_visited ["kept", "page"] [] := FunD.bindsN E__law_visited fun _ _ _ _ _ _ us hl => match us, hl with | [_, _], _ => rfl
  obtain ⟨fd__law_behind, E__law_behind⟩ := c.def_ 37 (d := D__law_behind) rfl
  have g__law_behind := He.glo_ok X G (c.fact 37 (f := .glo "_law_behind") rfl)
  have F__law_behind : Fun K "_law_behind" "_law_behind" s__law_behind _ fd__law_behind := funD_fun E__law_behind
  have b__law_behind : Binds K fd__law_behind ["site", "row"] [] := FunD.bindsN E__law_behind fun _ _ _ _ _ _ us hl => match us, hl with | [_, _], _ => rfl
  obtain ⟨fd__law_goes, E__law_goes⟩ := c.def_ 38 (d := D__law_goes) rfl
  have g__law_goes := He.glo_ok X G (c.fact 38 (f := .glo "_law_goes") rfl)
  have F__law_goes : Fun K "_law_goes" "_law_goes" s__law_goes _ fd__law_goes := funD_fun E__law_goes
  have b__law_goes : Binds K fd__law_goes ["term", "worth", "address"] [] := FunD.bindsN E__law_goes fun _ _ _ _ _ _ us hl => match us, hl with | [_, _, _], _ => rfl
  obtain ⟨fd__law_sent, E__law_sent⟩ := c.def_ 39 (d := D__law_sent) rfl
  have g__law_sent := He.glo_ok X G (c.fact 39 (f := .glo "_law_sent") rfl)
  have F__law_sent : Fun K "_law_sent" "_law_sent" s__law_sent _ fd__law_sent := funD_fun E__law_sent
  have b__law_sent : Binds K fd__law_sent ["kept", "address"] [] := FunD.bindsN E__law_sent fun _ _ _ _ _ _ us hl => match us, hl with | [_, _], _ => rfl
  obtain ⟨fd__law_parts, E__law_parts⟩ := c.def_ 40 (d := D__law_parts) rfl
  have g__law_parts := He.glo_ok X G (c.fact 40 (f := .glo "_law_parts") rfl)
  have F__law_parts : Fun K "_law_parts" "_law_parts" s__law_parts _ fd__law_parts := funD_fun E__law_parts
  have b__law_parts : Binds K fd__law_parts [] [] := FunD.bindsN E__law_parts fun _ _ _ _ _ _ us hl => match us, hl with | [], _ => rfl
  obtain ⟨fd__law_right, E__law_right⟩ := c.def_ 41 (d := D__law_right) rfl
  have g__law_right := He.glo_ok X G (c.fact 41 (f := .glo "_law_right") rfl)
  have F__law_right : Fun K "_law_right" "_law_right" s__law_right _ fd__law_right := funD_fun E__law_right
  have b__law_right : Binds K fd__law_right ["site", "page", "address", "name", "due", "is_sure"] [] := FunD.bindsN E__law_right fun _ _ _ _ _ _ us hl => match us, hl with | [_, _, _, _, _, _], _ => rfl
  obtain ⟨fd_law, E_law⟩ := c.def_ 42 (d := D_law) rfl
  have g_law := He.glo_ok X G (c.fact 42 (f := .glo "law") rfl)
  have F_law : Fun K "law" "law" s_law _ fd_law := funD_fun E_law
  have e := hfa.symm.trans g_law
  cases e
  have bl := FunD.bindsA (ps := ["script"]) E_law fun _ _ _ _ _ _ us hl => match us, hl with | [_], _ => rfl
  refine ⟨fd_law, fun s v => bl s [v] rfl, fun base hb1 hb2 hTB => ?_⟩
  have TB__law_sent := hTB (He.cT K ("_law_sent", none)) (List.mem_map.mpr ⟨("_law_sent", none), by simp [tf], rfl⟩)
  have C_is_of : Cal P w K mg base ct0 "is_of" 2 1 rn_is_of := cal_mk F_is_of g_is_of b_is_of (ok_is_of F_is_of z_len m_MOST_SIGNS z_str z_isinstance z_all)
  have C_is_name : Cal P w K mg base ct0 "is_name" 1 2 rn_is_name := cal_mk F_is_name g_is_name b_is_name (ok_is_name F_is_name m_LETTERS C_is_of)
  have C_are_words : Cal P w K mg base ct0 "are_words" 3 2 rn_are_words := cal_mk F_are_words g_are_words b_are_words (ok_are_words F_are_words z_len z_tuple z_isinstance m_SIGNS C_is_of z_all)
  have C_is_host : Cal P w K mg base ct0 "is_host" 1 3 rn_is_host := cal_mk F_is_host g_is_host b_is_host (ok_is_host F_is_host m_MOST_LABELS m_LEAST_LABELS C_are_words)
  have C_is_path : Cal P w K mg base ct0 "is_path" 1 3 rn_is_path := cal_mk F_is_path g_is_path b_is_path (ok_is_path F_is_path m_MOST_SEGMENTS C_are_words)
  have C_is_address : Cal P w K mg base ct0 "is_address" 1 4 rn_is_address := cal_mk F_is_address g_is_address b_is_address (ok_is_address F_is_address z_len z_tuple z_isinstance z_bool C_is_path C_is_host)
  have C_is_within : Cal P w K mg base ct0 "is_within" 2 1 rn_is_within := cal_mk F_is_within g_is_within b_is_within (ok_is_within F_is_within z_len)
  have C_is_below : Cal P w K mg base ct0 "is_below" 2 1 rn_is_below := cal_mk F_is_below g_is_below b_is_below (ok_is_below F_is_below z_len)
  have C_is_whole : Cal P w K mg base ct0 "is_whole" 3 1 rn_is_whole := cal_mk F_is_whole g_is_whole b_is_whole (ok_is_whole F_is_whole z_bool z_isinstance z_int)
  have C_is_value : Cal P w K mg base ct0 "is_value" 1 2 rn_is_value := cal_mk F_is_value g_is_value b_is_value (ok_is_value F_is_value m_SIGNS C_is_of)
  have C_is_write : Cal P w K mg base ct0 "is_write" 1 4 rn_is_write := cal_mk F_is_write g_is_write b_is_write (ok_is_write F_is_write C_is_name z_len z_tuple z_isinstance C_is_value C_is_host C_is_path z_bool)
  have C_need_site : Cal P w K mg base ct0 "need_site" 1 5 rn_need_site := cal_mk F_need_site g_need_site b_need_site (ok_need_site F_need_site z_len m_MOST_PAGES z_tuple z_isinstance z_enumerate C_is_address m_MOST_WRITES C_is_write)
  have C_need_page : Cal P w K mg base ct0 "need_page" 2 2 rn_need_page := cal_mk F_need_page g_need_page b_need_page (ok_need_page F_need_page z_len C_is_whole)
  have C_need_name : Cal P w K mg base ct0 "need_name" 1 3 rn_need_name := cal_mk F_need_name g_need_name b_need_name (ok_need_name F_need_name C_is_name)
  have C_key_in : Cal P w K mg base ct0 "key_in" 2 2 rn_key_in := cal_mk F_key_in g_key_in b_key_in (ok_key_in F_key_in C_is_within)
  have C_taken_in : Cal P w K mg base ct0 "taken_in" 1 3 rn_taken_in := cal_mk F_taken_in g_taken_in b_taken_in (ok_taken_in F_taken_in C_key_in)
  have C_effects_in : Cal P w K mg base ct0 "effects_in" 1 4 rn_effects_in := cal_mk F_effects_in g_effects_in b_effects_in (ok_effects_in F_effects_in C_taken_in z_sorted)
  have C_keys_in : Cal P w K mg base ct0 "keys_in" 1 5 rn_keys_in := cal_mk F_keys_in g_keys_in b_keys_in (ok_keys_in F_keys_in C_effects_in z_sorted)
  have C_rank : Cal P w K mg base ct0 "rank" 1 1 rn_rank := cal_mk F_rank g_rank b_rank (ok_rank F_rank z_len)
  have C_need_address : Cal P w K mg base ct0 "need_address" 1 5 rn_need_address := cal_mk F_need_address g_need_address b_need_address (ok_need_address F_need_address C_is_address)
  have C_after : Cal P w K mg base ct0 "after" 2 4 rn_after := cal_mk F_after g_after b_after (ok_after F_after z_list C_taken_in z_enumerate z_sorted C_rank z_tuple)
  have C_goes : Cal P w K mg base ct0 "goes" 2 2 rn_goes := cal_mk F_goes g_goes b_goes (ok_goes F_goes C_is_below C_is_within)
  have C_sent_in : Cal P w K mg base ct0 "sent_in" 2 3 rn_sent_in := cal_mk F_sent_in g_sent_in b_sent_in (ok_sent_in F_sent_in C_goes z_tuple)
  have C_read_in : Cal P w K mg base ct0 "read_in" 3 4 rn_read_in := cal_mk F_read_in g_read_in b_read_in (ok_read_in F_read_in C_sent_in)
  have C_behind_in : Cal P w K mg base ct0 "behind_in" 2 5 rn_behind_in := cal_mk F_behind_in g_behind_in b_behind_in (ok_behind_in F_behind_in C_after)
  have C_need_few : Cal P w K mg base ct0 "need_few" 1 1 rn_need_few := cal_mk F_need_few g_need_few b_need_few (ok_need_few F_need_few z_len m_MOST_KEYS)
  have C_layers : Cal P w K mg base ct0 "layers" 1 5 rn_layers := cal_mk F_layers g_layers b_layers (ok_layers F_layers z_len z_range z_zip C_after z_tuple)
  have C_rows_in : Cal P w K mg base ct0 "rows_in" 1 6 rn_rows_in := cal_mk F_rows_in g_rows_in b_rows_in (ok_rows_in F_rows_in C_layers)
  have C_jars : Cal P w K mg base ct0 "jars" 1 7 rn_jars := cal_mk F_jars g_jars b_jars (ok_jars F_jars C_need_site C_keys_in C_need_few C_rows_in)
  have C_readings : Cal P w K mg base ct0 "readings" 4 8 rn_readings := cal_mk F_readings g_readings b_readings (ok_readings F_readings C_need_site C_need_page C_need_address C_need_name C_jars C_after C_read_in z_len z_sorted)
  have C_sure : Cal P w K mg base ct0 "sure" 3 6 rn_sure := cal_mk F_sure g_sure b_sure (ok_sure F_sure C_need_site C_need_page C_need_address C_keys_in C_need_few C_behind_in C_sent_in z_sorted z_set z_tuple)
  have C__law_mixed : Cal P w K mg base ct0 "_law_mixed" 2 1 rn__law_mixed := cal_mk F__law_mixed g__law_mixed b__law_mixed (ok__law_mixed F__law_mixed z_int)
  have C__law_begin : Cal P w K mg base ct0 "_law_begin" 1 1 rn__law_begin := cal_mk F__law_begin g__law_begin b__law_begin (ok__law_begin F__law_begin z_list)
  have C__law_draw : Cal P w K mg base ct0 "_law_draw" 2 2 rn__law_draw := cal_mk F__law_draw g__law_draw b__law_draw (ok__law_draw F__law_draw z_int z_len C__law_mixed)
  have C__law_of : Cal P w K mg base ct0 "_law_of" 2 3 rn__law_of := cal_mk F__law_of g__law_of b__law_of (ok__law_of F__law_of z_len C__law_draw)
  have C__law_key : Cal P w K mg base ct0 "_law_key" 2 1 rn__law_key := cal_mk F__law_key g__law_key b__law_key (ok__law_key F__law_key z_len)
  have C__law_visited : Cal P w K mg base ct0 "_law_visited" 2 2 rn__law_visited := cal_mk F__law_visited g__law_visited b__law_visited (ok__law_visited F__law_visited z_list C__law_key)
  have C__law_behind : Cal P w K mg base ct0 "_law_behind" 2 3 rn__law_behind := cal_mk F__law_behind g__law_behind b__law_behind (ok__law_behind F__law_behind C__law_visited)
  have C__law_goes : Cal P w K mg base ct0 "_law_goes" 3 1 rn__law_goes := cal_mk F__law_goes g__law_goes b__law_goes (ok__law_goes F__law_goes z_len)
  have C__law_sent : Cal P w K mg base ct0 "_law_sent" 2 3 rn__law_sent := cal_mk F__law_sent g__law_sent b__law_sent (ok__law_sent F__law_sent TB__law_sent C__law_goes z_sorted z_len z_tuple)
  have C__law_parts : Cal P w K mg base ct0 "_law_parts" 0 1 rn__law_parts := cal_mk F__law_parts g__law_parts b__law_parts (ok__law_parts F__law_parts )
  have C__law_right : Cal P w K mg base ct0 "_law_right" 6 9 rn__law_right := cal_mk F__law_right g__law_right b__law_right (ok__law_right F__law_right C_readings z_list z_sorted z_len C__law_behind C__law_sent C_sure)
  exact ok_law F_law C__law_begin z_len z_min z_range C__law_draw C__law_of C__law_parts z_tuple C__law_right C_sure C_readings
theorem rl_ints {K : KW} {ρ : Rho} {H : Hp} : ∀ ns : List Int, RlAll K ρ H (ns.map V.int) (ns.map Jv.D.int)
  | [] => .nil
  | n :: r => .cons (.int n) (rl_ints r)
theorem law_sp {w : World} {K : PySem.W.Frag} {mg : Str → Option Value} {H : Hp} {a : Addr} {ns : List Int} (hl : ns.length ≤ 63) (hT : ∀ p ∈ tf.map (He.cT K), H p.2 = some (.tbl #[])) (hA : a ∉ (tf.map (He.cT K)).map (·.2)) (hS : SqL K H a (ns.map V.int)) : spG ⟨K, w, mg⟩ ct0 1 rn_law [.ref a] H (fun v _ => v = .bl true) fun _ _ _ => False := by
  have hP : H (He.cT K ("_law_sent", none)).2 = some (.tbl #[]) := hT _ (List.mem_map.mpr ⟨("_law_sent", none), by simp [tf], rfl⟩)
  have nm : ∀ b : Addr, H b = none ∨ b = a → ¬ (Rho.mk [some (He.cT K ("_law_sent", none)).2] []).mut b := fun b hb z => by
    rcases z with z | z
    · have e : b = (He.cT K ("_law_sent", none)).2 := by simpa using z
      rcases hb with hb | rfl
      · rw [e, hP] at hb; cases hb
      · exact hA (by rw [e]; simp [tf])
    · cases z
  refine ⟨⟨[some (He.cT K ("_law_sent", none)).2], []⟩, [.tab ("_law_sent", none) "_law_sent.<locals>.<lambda>"], [.v (.lst (ns.map Jv.D.int))], ⟨rfl, ?_, ?_, (fun a h => nomatch h), (fun a _ h => nomatch h), ?_⟩, .cons (.v (.lst ?_ (rl_ints ns))) .nil, rfl, ?_⟩
  · intro l l' b e1 e2
    cases l with
    | zero => cases l' with
      | zero => rfl
      | succ n => simp at e2
    | succ n => simp at e1
  · intro l o e
    cases l with
    | zero =>
      cases e
      exact .inr ⟨_, rfl, rfl, #[], [], hP, True.intro, (fun pos cv hc => by
        have z : codeAmong pos [] = some cv := hc
        simp [codeAmong] at z), .nil⟩
    | succ n => simp at e
  · intro l o e
    cases l with
    | zero => cases e; exact True.intro
    | succ n => simp at e
  · rcases hS with h | h
    · exact .inl ⟨h, nm a (.inr rfl)⟩
    · exact .inr h
  · rw [law_ok ns hl]
    intro ρ' H' b g s r
    cases r with | v r =>
    cases r
    rfl
end K27
open PySem PySem.W PySem.Calls PyProof.Rows
theorem PySem.Challenge.cw_jarvisits_k27_readings_by_hand_holds : PySem.Challenge.rw_jarvisits_k27_readings_by_hand.Holds := by
  w_on; o_law
  refine HandSHeadRun.head_any (r := OpenLaw.row PySem.Challenge.rw_jarvisits_k27_readings_by_hand) (q := view (OpenLaw.row PySem.Challenge.rw_jarvisits_k27_readings_by_hand).prog [64]) (H := K27.hk) (ob := K27.ob) (M := 20000) (loose := K27.names) (d := HandSHeadRun.topDef (OpenLaw.row PySem.Challenge.rw_jarvisits_k27_readings_by_hand).prog 64) (kwd := []) K27.ob_eq
    (by kernel_rfl) (fun s => by kernel_rfl) K27.run (by kernel_rfl) (by kernel_rfl) (by kernel_rfl) (by rfl) (by first | assumption | decide +kernel) (by decide +kernel) ⟨rfl, rfl, rfl, rfl, rfl, by decide +kernel⟩ ?hw ?hc
  case hw => w_witness2
  case hc =>
    refine Jv.walkTG (l := PySem.Challenge.rw_jarvisits_k27_readings_by_hand) (n := 63) (k := 10) (x := "script") rfl (by decide) (by kernel_rfl) ⟨rfl, by decide, by decide⟩ ?F
    intro w mg fa h Y G hmg0
    obtain ⟨K, KX, c⟩ := Y
    have hmg : mg ("law" : PySem.Str) = some (.ref fa) := by
      have e : (HandSHeadRun.topDef (OpenLaw.row PySem.Challenge.rw_jarvisits_k27_readings_by_hand).prog 64).name = ("law" : PySem.Str) := by kernel_rfl
      rw [← e]
      exact hmg0
    obtain ⟨fd, hb, hF⟩ := K27.facts (P := (PySem.Challenge.rw_jarvisits_k27_readings_by_hand).prog) (w := w) KX G hmg c.t.d
    refine ⟨K, K27.tf.map (He.cT K), fd, Jv.spG ⟨K, w, mg⟩ K27.ct0 1 K27.rn_law, KX, ?_, ?_, ?_, hb, fun H a ns hl hT hA hS => K27.law_sp hl hT hA hS, hF⟩
    · intro p hp
      obtain ⟨q, hq, rfl⟩ := List.mem_map.mp hp
      exact c.empty q hq
    · intro p hp
      obtain ⟨q, hq, rfl⟩ := List.mem_map.mp hp
      exact c.out q hq
    · intro p hp
      obtain ⟨q, hq, rfl⟩ := List.mem_map.mp hp
      exact PySem.W.codeHd_of_K KX (c.hd q hq)
end

import PyProof.Rows.All
import Wide.All
import OpenK.AllK
import Wide.FinOn
import HandS.ForMost
import HandS.TupSets
import KE.KeyNested
import HandS.SetBool
import HandS.Base
import HandS.Exc
import HandS.ExcOwn
import HandS.TryOnly
import HandS.CallSlots
import HandS.Deep
import HandS.TupAny
import HandS.Wide
import HandS.Steps
import HandS.Flow
import KE.LtData
import KE.SortData
import KE.KDictKeyed
import HandS.SortInts
import HandS.Iter
import HandS.WordsExc
import HandS.Nested
import HandS.ExcInit
import KE.KExcSuper
import HandS.ExcField
import HandS.ExcIs
import KE.KExcIs
import HandS.IsInst
import HandS.Dict
import HandS.Text
import HandS.Head3
import HandS.HeadHook3
import HandS.HeadEnd
import HandS.Ends
import HandS.More
import HandS.Words
import HandS.Defaults
import HandS.FStr
import HandS.Strs
import HandS.IterVal
import HandS.OwnIter
import PySem.Challenge.RW_redopages_k03_catalogs_and_their_groups
section
set_option Elab.async false
set_option linter.all false
set_option maxRecDepth 100000
set_option maxHeartbeats 4000000
/-! S1: a set whose members are nested tuples: what the model asks of a member, the search, the relay, the adding. -/
namespace DN
open PySem PySem.Spec PyProof.Rows L2
/-- the tuple at b is the key k -/
def TKey (h : Heap) (k : NestedKey) (b : Addr) : Prop := NestedIs h k (.ref b) ∧ k.depth ≤ 8
section
variable {P : Program} {w : World}
def NoCls (P : Program) (w : World) (n : Nat) (s : Shared) (v : Value) : Prop := ∀ (A : Around) (E : Value → Shared → Prop) (Q : Bool → Shared → Prop), Q false s → wpAny (model P w) A (ofAClassStatement n v) Q E s
def SomeHash (P : Program) (w : World) (n : Nat) (s : Shared) (v : Value) : Prop := ∀ (A : Around) (E : Value → Shared → Prop) (Q : Bool → Shared → Prop), (∀ b, Q b s) → wpAny (model P w) A (hashByValue n v) Q E s
theorem NoCls.tup {n : Nat} {s : Shared} {a : Addr} {o : Obj} {vs : Array Value} {m : Nat} (ho : s.heap.get? a = some o) (hc : o.cls = .type "tuple") (hd : o.data = .seq vs m) (hq : ∀ v ∈ vs.toList, NoCls P w n s v) : NoCls P w (n + 1) s (.ref a) := fun A E Q h => by
  have hT : s.TypeIs (.ref a) "tuple" := ⟨o, ho, hc⟩
  have te : (("tuple" : String) == "tuple") = true := by decide
  unfold ofAClassStatement
  refine wpAny_bind (wpAny_typeOf hT ?_)
  dsimp only
  simp only [te, if_true, Bool.not_true, Bool.false_eq_true, if_false]
  try refine wpAny_bind (wpAny_pure ?_)
  try simp only [Bool.not_true, Bool.false_eq_true, if_false]
  show wpAny _ _ (seqItems? (.ref a) >>= _) _ _ s
  refine wpAny_bind (wpAny_seqItems ho hd ?_)
  dsimp only
  refine wpAny_bind ?_
  show wpAny _ _ (forIn vs _ _) _ _ s
  rw [← Array.forIn_toList]
  refine wpAny_forIn_list _ (fun left r s2 => r.1 = none ∧ s2 = s ∧ ∀ v ∈ left, NoCls P w n s v) _ ?_ ?_ _ _ ⟨rfl, rfl, hq⟩
  · rintro v left r s2 ⟨hr, rfl, all⟩
    refine wpAny_bind (all v List.mem_cons_self _ _ _ ?_)
    simp only [Bool.false_eq_true, if_false]
    exact wpAny_pure ⟨rfl, rfl, fun u hu => all u (List.mem_cons_of_mem _ hu)⟩
  · rintro ⟨r1, r2⟩ s2 ⟨hr, rfl, _⟩
    simp only at hr
    subst hr
    exact wpAny_pure h
theorem SomeHash.tup {n : Nat} {s : Shared} {a : Addr} {o : Obj} {vs : Array Value} {m : Nat} (ho : s.heap.get? a = some o) (hc : o.cls = .type "tuple") (hd : o.data = .seq vs m) (hq : ∀ v ∈ vs.toList, SomeHash P w n s v) : SomeHash P w (n + 1) s (.ref a) := fun A E Q h => by
  have hT : s.TypeIs (.ref a) "tuple" := ⟨o, ho, hc⟩
  unfold hashByValue
  refine wpAny_bind (wpAny_specialOf hT F.slot_tuple_hash.lookup ?_)
  show wpAny _ _ (seqItems? (.ref a) >>= _) _ _ s
  refine wpAny_bind (wpAny_seqItems ho hd ?_)
  refine wpAny_bind ?_
  show wpAny _ _ (forIn vs _ _) _ _ s
  rw [← Array.forIn_toList]
  refine wpAny_forIn_list _ (fun left r s2 => s2 = s ∧ ∀ v ∈ left, SomeHash P w n s v) _ ?_ ?_ _ _ ⟨rfl, hq⟩
  · rintro v left r s2 ⟨rfl, all⟩
    refine wpAny_bind (all v List.mem_cons_self _ _ _ fun b => ?_)
    cases b
    · simp only [Bool.not_false, if_true]
      exact wpAny_pure (show wpAny _ _ (pure false) _ _ _ from wpAny_pure (h _))
    · simp only [Bool.not_true, Bool.false_eq_true, if_false]
      exact wpAny_pure ⟨rfl, fun u hu => all u (List.mem_cons_of_mem _ hu)⟩
  · rintro ⟨r1, r2⟩ s2 ⟨rfl, _⟩
    cases r1 <;> exact wpAny_pure (h _)
mutual
theorem noCls_key : ∀ (k : NestedKey) (v : Value) (n : Nat) (s : Shared), NestedIs s.heap k v → k.depth ≤ n → NoCls P w n s v
  | .none, _, n, s, x, _ => by cases x; intro A E Q h; cases n <;> exact wpAny_pure h
  | .num i, _, n, s, x, _ => by cases x <;> (intro A E Q h; cases n <;> exact wpAny_pure h)
  | .text y, _, n, s, x, _ => by cases x; intro A E Q h; cases n <;> exact wpAny_pure h
  | .tup ks, _, n, s, x, hn => by
    cases x with
    | tup h1 h2 h3 h4 =>
      simp only [NestedKey.depth] at hn
      cases n with
      | zero => omega
      | succ n => exact .tup h1 h2 h3 (noCls_keys ks _ n s h4 (by omega))
theorem noCls_keys : ∀ (ks : List NestedKey) (vs : List Value) (n : Nat) (s : Shared), NestedAll s.heap ks vs → NestedKey.depthAll ks ≤ n → ∀ v ∈ vs, NoCls P w n s v
  | [], _, n, s, x, _, v, hv => by cases x; cases hv
  | k :: ks, _, n, s, x, hn, v, hv => by
    cases x with
    | cons x1 x2 =>
      simp only [NestedKey.depthAll] at hn
      rcases List.mem_cons.mp hv with e | hv
      · rw [e]; exact noCls_key k _ n s x1 (by omega)
      · exact noCls_keys ks _ n s x2 (by omega) v hv
end
mutual
theorem hash_key : ∀ (k : NestedKey) (v : Value) (n : Nat) (s : Shared), NestedIs s.heap k v → k.depth ≤ n → SomeHash P w n s v
  | .none, _, n, s, x, _ => by cases x; intro A E Q h; cases n <;> exact wpAny_pure (h _)
  | .num i, _, n, s, x, _ => by cases x <;> (intro A E Q h; cases n <;> exact wpAny_pure (h _))
  | .text y, _, n, s, x, _ => by cases x; intro A E Q h; cases n <;> exact wpAny_pure (h _)
  | .tup ks, _, n, s, x, hn => by
    cases x with
    | tup h1 h2 h3 h4 =>
      simp only [NestedKey.depth] at hn
      cases n with
      | zero => omega
      | succ n => exact .tup h1 h2 h3 (hash_keys ks _ n s h4 (by omega))
theorem hash_keys : ∀ (ks : List NestedKey) (vs : List Value) (n : Nat) (s : Shared), NestedAll s.heap ks vs → NestedKey.depthAll ks ≤ n → ∀ v ∈ vs, SomeHash P w n s v
  | [], _, n, s, x, _, v, hv => by cases x; cases hv
  | k :: ks, _, n, s, x, hn, v, hv => by
    cases x with
    | cons x1 x2 =>
      simp only [NestedKey.depthAll] at hn
      rcases List.mem_cons.mp hv with e | hv
      · rw [e]; exact hash_key k _ n s x1 (by omega)
      · exact hash_keys ks _ n s x2 (by omega) v hv
end
variable {A : Around} {E : Value → Shared → Prop} {s : Shared}
/-- a search among such tuples shows nothing -/
theorem seen_no {k : NestedKey} {b : Addr} {Q : Bool → Shared → Prop} (hk : TKey s.heap k b) {ys : List Value} (hy : ∀ y ∈ ys, ∃ k' c, y = Value.ref c ∧ TKey s.heap k' c) (h : Q false s) : wpAny (model P w) A (searchCouldBeSeen (.ref b) ys) Q E s := by
  unfold searchCouldBeSeen
  refine wpAny_bind ?_
  refine wpAny_forIn_list _ (fun left r s2 => r.1 = none ∧ s2 = s ∧ ∀ y ∈ left, ∃ k' c, y = Value.ref c ∧ TKey s.heap k' c) _ ?_ ?_ _ _ ⟨rfl, rfl, hy⟩
  · rintro v left r s2 ⟨hr, rfl, all⟩
    obtain ⟨k', c, rfl, hc⟩ := all v List.mem_cons_self
    have more : ∀ y ∈ left, ∃ k' c, y = Value.ref c ∧ TKey s2.heap k' c := fun u hu => all u (List.mem_cons_of_mem _ hu)
    dsimp only
    by_cases hv : (b == c || (carriedByValue (.ref b) && carriedByValue (.ref c))) = true
    · exact wp_if_pos hv (wpAny_pure ⟨rfl, rfl, more⟩)
    · refine wp_if_neg hv ?_
      refine wpAny_bind (quiet_key k _ 8 s2 hk.1 hk.2 _ _ _ ?_)
      simp only [Bool.not_true, Bool.false_eq_true, if_false]
      refine wpAny_bind (quiet_key k' _ 8 s2 hc.1 hc.2 _ _ _ ?_)
      simp only [Bool.not_true, Bool.false_eq_true, if_false]
      refine wpAny_bind (noCls_key k _ 8 s2 hk.1 hk.2 _ _ _ ?_)
      simp only [Bool.false_eq_true, if_false]
      refine wpAny_bind (noCls_key k' _ 8 s2 hc.1 hc.2 _ _ _ ?_)
      simp only [Bool.false_eq_true, if_false]
      exact wpAny_pure ⟨rfl, rfl, more⟩
  · rintro ⟨r1, r2⟩ s2 ⟨hr, rfl, _⟩
    simp only at hr
    subst hr
    exact wpAny_pure h
/-! ### the set -/
abbrev Mem := Addr × NestedKey
def hsh (w : World) (L : List Mem) : List Int := L.map fun p => p.2.hash w
def rowN (w : World) (L : List Mem) : List (Int × Value) := L.map fun p => (p.2.hash w, Value.ref p.1)
/-- the set at a: its members in the table's order -/
structure SetT (w : World) (h : Heap) (a : Addr) (L : List Mem) (es : Array (Int × Value)) (ep : Nat) (t : SetTable) : Prop where
  ob : ∃ o, h.get? a = some o ∧ o.ExactSet ∧ o.data = .set es ep t
  rows : es.toList = rowN w L
  tab : TabOk t (hsh w L)
  nd : (L.map (·.2)).Nodup
  key : ∀ p ∈ L, TKey h p.2 p.1
  led : w.params.followText "set-order" = true ∨ t.led = true
  room : L.length * 5 < t.mask * 3
  few : L.length < 64
variable {a : Addr} {L : List Mem} {es : Array (Int × Value)} {ep : Nat} {t : SetTable}
theorem rowN_len : (rowN w L).length = L.length := List.length_map _
theorem SetT.size (R : SetT w s.heap a L es ep t) : es.size = L.length := by rw [← Array.length_toList, R.rows, rowN_len]
theorem fits_by (hd : t.dummies = #[]) (h1 : t.place.size = es.size) (h2 : es.size ≤ t.mask) : t.fits es.size = true := by
  unfold SetTable.fits SetTable.fill
  rw [hd, Bool.and_eq_true, beq_iff_eq, decide_eq_true_eq]
  show t.place.size = es.size ∧ t.place.size + 0 ≤ t.mask
  omega
theorem SetT.places (R : SetT w s.heap a L es ep t) : t.place.size = L.length := by have := R.tab.sz; unfold hsh at this; rwa [List.length_map] at this
theorem SetT.fits (R : SetT w s.heap a L es ep t) : t.fits es.size = true := by
  have h1 := R.places
  have h2 := R.size
  have h3 := R.room
  exact fits_by R.tab.dm (by omega) (by omega)
theorem SetT.entry (R : SetT w s.heap a L es ep t) {i : Nat} {p : Mem} (h : L[i]? = some p) : es[i]? = some (p.2.hash w, Value.ref p.1) := by
  rw [← Array.getElem?_toList, R.rows, rowN, List.getElem?_map, h]
  rfl
theorem SetT.stays (R : SetT w s.heap a L es ep t) : ¬ t.gaveWay = true := by
  unfold SetTable.gaveWay
  rw [mask_odd R.tab.mok]
  decide
/-- the way of a hash -/
abbrev prb (m : Nat) (h : Int) : SetTable.Probe := runAt m (SetTable.bits h % (m + 1)) (SetTable.bits h)
theorem prb_dummy (m : Nat) : ∀ (n : Nat) (p : SetTable.Probe), p.dummy = none → (nth m p n).dummy = none
  | 0, _, h => h
  | n + 1, p, h => prb_dummy m n (adv m p) (by unfold adv; split <;> exact h)
/-- THE SEARCH, from the c-th slot of the way on; at K the first empty slot -/
theorem SetT.from_ (R : SetT w s.heap a L es ep t) {x : Addr} {k : NestedKey} (hx : TKey s.heap k x) (hu : A.units + 8 < cLine) {K : Nat} (hKf : K < 10 * SetTable.turns t.mask)
    (hK : way t.mask (k.hash w) K ∉ t.place.toList) (hKb : ∀ c, c < K → way t.mask (k.hash w) c ∈ t.place.toList) {Q : SetFound → Shared → Prop}
    (hin : k ∈ L.map (·.2) → Q (.there none) s) (hout : k ∉ L.map (·.2) → Q (.free (way t.mask (k.hash w) K) false) s) :
    ∀ (f c : Nat) (stand : Option SetTable.Probe), stand.getD (t.probeStart (k.hash w)) = nth t.mask (prb t.mask (k.hash w)) c → c ≤ K → K - c < f →
      (∀ (i : Nat) p, L[i]? = some p → p.2 = k → ∃ c', c ≤ c' ∧ c' < K ∧ t.place.toList[i]? = some (way t.mask (k.hash w) c')) →
      wpAny (model P w) A (setSearchFrom a (.ref x) (k.hash w) true f stand) Q E s := by
  intro f
  induction f with
  | zero => intro c stand _ _ hf _; exact absurd hf (Nat.not_lt_zero _)
  | succ f ih =>
    intro c stand hst hc hf hre
    obtain ⟨o, ho, hex, hd⟩ := R.ob
    rw [setSearchFrom_succ]
    refine wpAny_bind (wpAny_setState_of ho hd R.fits ?_)
    dsimp only
    refine wp_if_neg R.stays ?_
    try refine wpAny_bind (wpAny_pure ?_)
    have sh : ∀ q, nth t.mask (nth t.mask (prb t.mask (k.hash w)) c) q = nth t.mask (prb t.mask (k.hash w)) (c + q) := fun q => (nth_add t.mask c _ q).symm
    have jq : ∀ q, (nth t.mask (nth t.mask (prb t.mask (k.hash w)) c) q).j = way t.mask (k.hash w) (c + q) := fun q => congrArg SetTable.Probe.j (sh q)
    have hK2 : c + (K - c) = K := by omega
    have hashAt : ∀ (i : Nat) p, L[i]? = some p → (es[i]?.map (·.1)).getD 0 = p.2.hash w := fun i p hp => by rw [R.entry hp]; rfl
    have spec := go_spec t R.tab.ris R.tab.dm (fun i => (es[i]?.map (·.1)).getD 0) (k.hash w) (10 * SetTable.turns t.mask) (K - c) _ (prb_dummy t.mask c _ rfl) (by omega) (fun q hq => by rw [jq]; exact hKb (c + q) (by omega)) (by rw [jq, hK2]; exact hK)
    rcases spec with ⟨q, i, hq, hi, hh, hno, hpr⟩ | ⟨hno, hpr⟩
    · have hpr2 : t.probe (fun i => (es[i]?.map (·.1)).getD 0) (k.hash w) (stand.getD (t.probeStart (k.hash w))) = some (.candidate (way t.mask (k.hash w) (c + q)) i (nth t.mask (prb t.mask (k.hash w)) (c + (q + 1)))) := by
        rw [hst, ← jq, ← sh]
        exact hpr
      rw [hpr2]
      dsimp only
      rw [jq] at hi
      have hil : i < L.length := by
        have h1 : i < t.place.toList.length := (List.getElem?_eq_some_iff.mp hi).1
        rw [Array.length_toList, R.places] at h1
        exact h1
      obtain ⟨p, hp⟩ : ∃ p, L[i]? = some p := ⟨L[i], List.getElem?_eq_getElem hil⟩
      have hmem : p ∈ L := List.mem_of_getElem? hp
      have back : wpAny (model P w) A (searchRest a (.ref x) (k.hash w) true f es t (way t.mask (k.hash w) (c + q)) i (nth t.mask (prb t.mask (k.hash w)) (c + (q + 1)))) Q E s := by
        unfold searchRest
        rw [R.entry hp]
        dsimp only
        refine wpAny_bind (wpAny_holding ((nestedKind P w).eqBool hu (R.key p hmem) hx ?_))
        refine wpAny_bind (wpAny_setState_of ho hd R.fits ?_)
        dsimp only
        by_cases hkk : p.2 = k
        · refine wp_if_pos (by simp [hkk]) ?_
          exact wpAny_pure (hin (List.mem_map.mpr ⟨p, hmem, hkk⟩))
        · refine wp_if_neg (by simp [hkk]) ?_
          try refine wpAny_bind (wpAny_pure ?_)
          rw [sameMem]
          dsimp only
          have hsl : t.slot (way t.mask (k.hash w) (c + q)) = .live i := slot_live R.tab.ris hi
          simp only [if_true, hsl, R.entry hp]
          refine wpAny_bind (wpAny_isSame_ref_self (wpAny_bind (wpAny_pure ?_)))
          simp only [if_true]
          refine wp_if_neg (by simp [hkk]) ?_
          refine ih (c + (q + 1)) _ rfl (by omega) (by omega) fun i0 p0 h0 hk0 => ?_
          obtain ⟨c', a1, a2, a3⟩ := hre i0 p0 h0 hk0
          refine ⟨c', ?_, a2, a3⟩
          have neq : c' ≠ c + q := fun ec => by
            rw [ec] at a3
            have s0 := slot_live R.tab.ris a3
            rw [hsl] at s0
            injection s0 with s0
            rw [← s0, hp] at h0
            exact hkk ((congrArg Prod.snd (Option.some.inj h0)).trans hk0)
          rcases Nat.lt_or_ge c' (c + q) with z | z
          · exact absurd ((hashAt i0 p0 h0).trans (congrArg (NestedKey.hash w) hk0)) (hno (c' - c) i0 (by omega) (by rw [jq, show c + (c' - c) = c' by omega]; exact a3))
          · omega
      by_cases hl : t.led = true
      · refine wp_if_neg (by simp [hl]) ?_
        try refine wpAny_bind (wpAny_pure ?_)
        exact back
      · refine wp_if_pos (by simp [hl]) ?_
        refine wpAny_bind (seen_no hx (fun y hy => ?_) ?_)
        · obtain ⟨e, he, ee⟩ := List.mem_map.mp hy
          have he1 : e ∈ es.toList := by
            have : e ∈ es ∧ e.1 = k.hash w := by simpa using he
            simpa using this.1
          rw [R.rows] at he1
          obtain ⟨p2, hp2, e2⟩ := List.mem_map.mp he1
          exact ⟨p2.2, p2.1, by rw [← ee, ← e2], R.key p2 hp2⟩
        · refine wp_if_neg (by decide) ?_
          try refine wpAny_bind (wpAny_pure ?_)
          exact back
    · have hpr2 : t.probe (fun i => (es[i]?.map (·.1)).getD 0) (k.hash w) (stand.getD (t.probeStart (k.hash w))) = some (.empty (way t.mask (k.hash w) K) none) := by
        have e2 : way t.mask (k.hash w) K = (nth t.mask (nth t.mask (prb t.mask (k.hash w)) c) (K - c)).j := by rw [jq, hK2]
        rw [hst, e2]
        exact hpr
      rw [hpr2]
      dsimp only
      refine wpAny_pure (hout fun hm => ?_)
      obtain ⟨p0, h0, hk0⟩ := List.mem_map.mp hm
      obtain ⟨i0, hi0, e0⟩ := List.getElem_of_mem h0
      have h00 : L[i0]? = some p0 := by rw [List.getElem?_eq_getElem hi0, e0]
      obtain ⟨c', a1, a2, a3⟩ := hre i0 p0 h00 hk0
      exact hno (c' - c) i0 (by omega) (by rw [jq, show c + (c' - c) = c' by omega]; exact a3) ((hashAt i0 p0 h00).trans (congrArg (NestedKey.hash w) hk0))
theorem SetT.search (R : SetT w s.heap a L es ep t) {x : Addr} {k : NestedKey} (hx : TKey s.heap k x) (hu : A.units + 8 < cLine) {Q : SetFound → Shared → Prop} (hin : k ∈ L.map (·.2) → Q (.there none) s)
    (hout : ∀ K, k ∉ L.map (·.2) → way t.mask (k.hash w) K ∉ t.place.toList → (∀ c, c < K → way t.mask (k.hash w) c ∈ t.place.toList) → Q (.free (way t.mask (k.hash w) K) false) s) : wpAny (model P w) A (setSearch a (.ref x) (k.hash w) true) Q E s := by
  have hroom := R.room
  obtain ⟨K, hKf, hK, hKb⟩ := R.tab.first (by unfold hsh; rw [List.length_map]; omega) (k.hash w)
  have hbig : K < 100000 := by
    have : 10 * SetTable.turns t.mask ≤ 1420 := by
      unfold SetTable.turns
      rcases R.tab.mok with e | e | e <;> omega
    omega
  unfold setSearch
  refine R.from_ hx hu hKf hK hKb hin (fun hn => hout K hn hK hKb) 100000 0 none rfl (Nat.zero_le _) (by omega) fun i p hp hk => ?_
  have hi : (hsh w L)[i]? = some (k.hash w) := by unfold hsh; rw [List.getElem?_map, hp, ← hk]; rfl
  have hil : i < t.place.toList.length := by rw [Array.length_toList, R.places]; exact (List.getElem?_eq_some_iff.mp hp).1
  have hj := List.getElem?_eq_getElem hil
  obtain ⟨c, hc, e⟩ := R.tab.before hK hi hj
  exact ⟨c, Nat.zero_le _, hc, by rw [hj, e]⟩
theorem TKey.keep {h h' : Heap} {k : NestedKey} {b : Addr} (x : TKey h k b) (hk : ∀ c o vs n, h.get? c = some o → o.data = .seq vs n → h'.get? c = some o) : TKey h' k b := ⟨NestedIs.at hk _ _ x.1, x.2⟩
theorem TKey.but {h h' : Heap} {k : NestedKey} {a b : Addr} {o : Obj} {es : Array (Int × Value)} {ep : Nat} {t : SetTable} (x : TKey h k b) (ho : h.get? a = some o) (hd : o.data = .set es ep t) (hs : Heap.SameBut a h h') : TKey h' k b := x.keep fun c oc vs n hc hq => by
  refine (hs.2 c fun e => ?_).trans hc
  rw [e, ho] at hc
  cases hc
  rw [hd] at hq
  cases hq
/-- the entries picked by an order of all places -/
theorem picked {es : Array (Int × Value)} {order : Array Nat} (hr : es.toList = rowN w L) (hp : order.toList.Perm (List.range L.length)) :
    ∃ L2 : List Mem, (order.filterMap (es[·]?)).toList = rowN w L2 ∧ L2.Perm L ∧ hsh w L2 = order.toList.map fun i => (es.map (·.1)).getD i 0 := by
  have hsz : es.size = L.length := by rw [← Array.length_toList, hr, rowN_len]
  have ent : ∀ i (h : i < L.length), es[i]? = some ((L[i]).2.hash w, Value.ref (L[i]).1) := fun i h => by
    rw [← Array.getElem?_toList, hr, rowN, List.getElem?_map, List.getElem?_eq_getElem h]
    rfl
  have key : ∀ l : List Nat, (∀ i ∈ l, i < L.length) → l.filterMap (fun i => es[i]?) = rowN w (l.filterMap fun i => L[i]?) ∧ hsh w (l.filterMap fun i => L[i]?) = l.map fun i => (es.map (·.1)).getD i 0 := by
    intro l
    induction l with
    | nil => intro _; exact ⟨rfl, rfl⟩
    | cons i l ih =>
      intro hl
      have hi := hl i List.mem_cons_self
      obtain ⟨e1, e3⟩ := ih fun j hj => hl j (List.mem_cons_of_mem _ hj)
      have e5 : (es.map (·.1))[i]? = some ((L[i]).2.hash w) := by rw [Array.getElem?_map, ent i hi]; rfl
      have e4 : (es.map (·.1)).getD i 0 = (L[i]).2.hash w := by simp [Array.getD_eq_getD_getElem?, e5]
      rw [List.filterMap_cons_some (ent i hi), List.filterMap_cons_some (List.getElem?_eq_getElem hi), List.map_cons, e1, ← e3, e4]
      exact ⟨rfl, rfl⟩
  obtain ⟨e1, e3⟩ := key order.toList fun i hi => List.mem_range.mp (hp.mem_iff.mp hi)
  have all : ∀ n, n ≤ L.length → (List.range n).filterMap (fun i => L[i]?) = L.take n := by
    intro n
    induction n with
    | zero => intro _; rfl
    | succ n ih =>
      intro hn
      rw [List.range_succ, List.filterMap_append, ih (Nat.le_of_lt hn), List.take_succ, List.getElem?_eq_getElem hn, List.filterMap_cons_some (List.getElem?_eq_getElem hn)]
      rfl
  refine ⟨_, by first | (rw [Array.toList_filterMap]; exact e1) | simpa using e1, ?_, e3⟩
  have h1 := hp.filterMap fun i => L[i]?
  rw [all L.length (Nat.le_refl _), List.take_length] at h1
  exact h1
theorem fold_len {es : Array (Int × Value)} (hr : es.toList = rowN w L) : es.size = L.length := by rw [← Array.length_toList, hr, rowN_len]
/-- the table is laid anew, larger -/
theorem SetT.relay {o : Obj} (ho : s.heap.get? a = some o) (hex : o.ExactSet) (hd : o.data = .set es ep t) (hr : es.toList = rowN w L) (hsz : t.place.size = es.size) (hdm : t.dummies = #[]) (hfl : es.size ≤ t.mask)
    (nd : (L.map (·.2)).Nodup) (key : ∀ p ∈ L, TKey s.heap p.2 p.1) (ld : w.params.followText "set-order" = true ∨ t.led = true) (few : L.length < 64) {wanted M : Nat}
    (hw : SetTable.sizeAbove wanted - 1 = M) (hM : MaskOk M) (hw2 : SetTable.sizeAbove wanted ≤ 128) (hn : L.length * 5 < M * 3) {Q : Unit → Shared → Prop}
    (hQ : ∀ h' L' es' ep' t', Heap.SameBut a s.heap h' → SetT w h' a L' es' ep' t' → L'.Perm L → Q () { s with heap := h' }) : wpAny (model P w) A (setRelay a wanted) Q E s := by
  have hsl := fold_len hr
  obtain ⟨t', order, e, hp, T, em, el, _, ed⟩ := relaid_ok t (hs := es.map (·.1)) (wanted := wanted) hw hM (by rw [Array.size_map, hsl]; omega)
  rw [Array.size_map, hsl] at hp
  obtain ⟨L2, r1, r2, r3⟩ := picked hr hp
  rw [← r3] at T
  have hs2 : (order.filterMap (es[·]?)).size = es.size := by rw [fold_len r1, r2.length_eq, hsl]
  rw [setRelay_eq]
  refine wpAny_bind (wpAny_setState_of ho hd (fits_by hdm hsz hfl) ?_)
  dsimp only
  refine wp_if_neg (by rw [sizeLine_eq]; omega) ?_
  try refine wpAny_bind (wpAny_pure ?_)
  rw [e]
  dsimp only
  refine wpAny_bind ?_
  refine wp_if_neg (by rw [hs2]; simp) ?_
  try refine wpAny_bind (wpAny_pure ?_)
  refine wpAny_pure ?_
  dsimp only
  refine wpAny_storeSet_of ho hd ?_ (by rw [hs2, hsl, sizeLine_eq]; omega)
  have sb : Heap.SameBut a s.heap (s.heap.update a (Obj.putSet (order.filterMap (es[·]?)) t')) := Heap.SameBut.update ..
  refine hQ _ L2 _ (ep + 1) t' sb ⟨⟨_, store_at ho hd, ⟨hex.1, hex.2.1, hex.2.2⟩, rfl⟩, r1, T, (r2.map (·.2)).nodup_iff.mpr nd, fun p hpm => (key p (r2.mem_iff.mp hpm)).but ho hd sb, by rw [el]; exact ld, ?_, by rw [r2.length_eq]; exact few⟩ r2
  rw [r2.length_eq, em]
  exact hn
theorem tab_plain {t : SetTable} {hs : List Int} (T : TabOk t hs) : TabOk { t with plain := false } hs := ⟨T.ris, T.dm, T.sz, T.mok, T.bd, T.reach⟩
/-- ADDING -/
theorem SetT.add (R : SetT w s.heap a L es ep t) {x : Addr} {k : NestedKey} (hx : TKey s.heap k x) (hu : A.units + 8 < cLine) (hfew : L.length + 1 < 64) {Q : Bool → Shared → Prop}
    (hQ : ∀ b h' L' es' ep' t', Heap.SameBut a s.heap h' → SetT w h' a L' es' ep' t' → (k ∈ L.map (·.2) → L' = L) → (k ∉ L.map (·.2) → L'.Perm ((x, k) :: L)) → Q b { s with heap := h' }) :
    wpAny (model P w) A (setAddHashed a (.ref x) (k.hash w)) Q E s := by
  obtain ⟨o, ho, hex, hd⟩ := R.ob
  have hsl := R.size
  have hroom := R.room
  unfold setAddHashed
  refine wpAny_holding ?_
  rw [show (100000 : Nat) = 99999 + 1 from rfl, setAddHashedIn_succ]
  refine wpAny_bind (wpAny_setState_of ho hd R.fits ?_)
  dsimp only
  refine wp_if_neg (by simp [byScan, Value.scannable]) ?_
  try refine wpAny_bind (wpAny_pure ?_)
  refine wpAny_bind (R.search hx hu (fun hm => ?_) fun K hm hK hb => ?_)
  · exact wpAny_pure (hQ false s.heap L es ep t (Heap.SameBut.refl a s.heap) R (fun _ => rfl) fun z => absurd hm z)
  · dsimp only
    refine wpAny_bind (wpAny_setState_of ho hd R.fits ?_)
    dsimp only
    obtain ⟨q1, q2, q3, q4, q5, q6, q7, q8, q9⟩ := R.tab.put hK hb
    generalize hpt : t.put (way t.mask (k.hash w) K) = pt at q1 q3 q4 q5 q6 q7 q8 q9 ⊢
    obtain ⟨t1, p⟩ := pt
    dsimp only at q1 q3 q4 q5 q6 q7 q8 q9 ⊢
    subst q1
    -- the members with the new one in its place
    have hin : (SetTable.insertAt es (SetTable.below t.place (way t.mask (k.hash w) K)) (k.hash w, Value.ref x)).toList = rowN w (L.take (SetTable.below t.place (way t.mask (k.hash w) K)) ++ (x, k) :: L.drop (SetTable.below t.place (way t.mask (k.hash w) K))) := by
      rw [SetTable.toList_insertAt, R.rows]
      unfold rowN
      rw [List.map_append, List.map_cons, List.map_take, List.map_drop]
    have hhs : hsh w (L.take (SetTable.below t.place (way t.mask (k.hash w) K)) ++ (x, k) :: L.drop (SetTable.below t.place (way t.mask (k.hash w) K))) = (hsh w L).take (SetTable.below t.place (way t.mask (k.hash w) K)) ++ k.hash w :: (hsh w L).drop (SetTable.below t.place (way t.mask (k.hash w) K)) := by
      unfold hsh
      rw [List.map_append, List.map_cons, List.map_take, List.map_drop]
    rw [← hhs] at q3
    have pm := put_perm L (SetTable.below t.place (way t.mask (k.hash w) K)) (x, k)
    generalize L.take (SetTable.below t.place (way t.mask (k.hash w) K)) ++ (x, k) :: L.drop (SetTable.below t.place (way t.mask (k.hash w) K)) = L1 at hin q3 pm
    generalize SetTable.insertAt es (SetTable.below t.place (way t.mask (k.hash w) K)) (k.hash w, Value.ref x) = es1 at hin ⊢
    have hlen : L1.length = L.length + 1 := pm.length_eq
    have hes : es1.size = L.length + 1 := by rw [fold_len hin, hlen]
    have nd1 : (L1.map (·.2)).Nodup := (pm.map (·.2)).nodup_iff.mpr (by rw [List.map_cons]; exact List.nodup_cons.mpr ⟨hm, R.nd⟩)
    have ld1 : w.params.followText "set-order" = true ∨ t1.led = true := by rw [q5]; exact R.led
    have hfill : t1.fill = L.length + 1 := by rw [q9]; unfold hsh; rw [List.length_map]
    -- what follows, whatever the table says of its members
    have fin : ∀ t2 : SetTable, TabOk t2 (hsh w L1) → t2.mask = t.mask → t2.fill = L.length + 1 → (w.params.followText "set-order" = true ∨ t2.led = true) → wpAny (model P w) A (do
        storeSet a es1 t2
        if (!false && t2.tooFull) = true then setRelay a (SetTable.grown (es.size + 1))
        return true) Q E s := fun t2 T2 m2 f2 l2 => by
      refine wpAny_bind (wpAny_storeSet_of ho hd ?_ (by rw [hes, sizeLine_eq]; omega))
      have sb : Heap.SameBut a s.heap (s.heap.update a (Obj.putSet es1 t2)) := Heap.SameBut.update ..
      have ho1 := store_at (es' := es1) (t' := t2) ho hd
      generalize s.heap.update a (Obj.putSet es1 t2) = h1 at sb ho1 ⊢
      have key1 : ∀ p ∈ L1, TKey h1 p.2 p.1 := fun p hp => by
        rcases List.mem_cons.mp (pm.mem_iff.mp hp) with e | hp
        · rw [e]; exact hx.but ho hd sb
        · exact (R.key p hp).but ho hd sb
      by_cases hf : t2.tooFull = true
      · first
          | (refine wpAny_bind ?_; refine wp_if_pos (by simp [hf]) ?_)
          | (refine wp_if_pos (by simp [hf]) ?_; refine wpAny_bind ?_)
        have hfull : (L.length + 1) * 5 ≥ t2.mask * 3 := by
          have h := hf
          unfold SetTable.tooFull at h
          rw [decide_eq_true_eq, f2] at h
          exact h
        rw [hsl]
        have hsz1 : t2.place.size = es1.size := by
          have h := T2.sz
          unfold hsh at h
          rw [List.length_map, hlen] at h
          rw [h, hes]
        have two : (t.mask = 7 ∧ L.length = 4) ∨ (t.mask = 31 ∧ L.length = 18) := by
          rw [m2] at hfull
          rcases R.tab.mok with e | e | e
          · left; rw [e] at hfull hroom; exact ⟨e, by omega⟩
          · right; rw [e] at hfull hroom; exact ⟨e, by omega⟩
          · exfalso; rw [e] at hfull; omega
        have go : ∀ M, SetTable.sizeAbove (SetTable.grown (L.length + 1)) - 1 = M → MaskOk M → SetTable.sizeAbove (SetTable.grown (L.length + 1)) ≤ 128 → (L.length + 1) * 5 < M * 3 →
            wpAny (model P w) A (setRelay a (SetTable.grown (L.length + 1))) (fun _ s' => wpAny (model P w) A (pure true) Q E s') E { s with heap := h1 } := fun M g1 g2 g3 g4 => by
          refine SetT.relay (s := { s with heap := h1 }) ho1 ⟨hex.1, hex.2.1, hex.2.2⟩ rfl hin hsz1 T2.dm (by rw [hes, m2]; rcases two with ⟨e, e2⟩ | ⟨e, e2⟩ <;> omega) nd1 key1 l2 (by rw [hlen]; exact hfew) g1 g2 g3 (by rw [hlen]; exact g4) ?_
          intro h2 L2 es2 ep2 t3 sb2 R2 pm2
          exact wpAny_pure (hQ true h2 L2 es2 ep2 t3 (sb.trans sb2) R2 (fun z => absurd z hm) fun _ => pm2.trans pm)
        rcases two with ⟨_, e2⟩ | ⟨_, e2⟩
        · exact go 31 (by rw [e2, size_20]) (.inr (.inl rfl)) (by rw [e2, size_20]; decide) (by omega)
        · exact go 127 (by rw [e2, size_76]) (.inr (.inr rfl)) (by rw [e2, size_76]; decide) (by omega)
      · first
          | refine wp_if_neg (by simp [hf]) ?_
          | (refine wpAny_bind ?_; refine wp_if_neg (by simp [hf]) ?_; refine wpAny_pure ?_)
        refine wpAny_pure (hQ true h1 L1 es1 (ep + 1) t2 sb ⟨⟨_, ho1, ⟨hex.1, hex.2.1, hex.2.2⟩, rfl⟩, hin, T2, nd1, key1, l2, ?_, by rw [hlen]; exact hfew⟩ (fun z => absurd z hm) fun _ => pm)
        have h := hf
        unfold SetTable.tooFull at h
        rw [decide_eq_true_eq, f2] at h
        rw [hlen]
        omega
    have plain : ∀ b : Bool, wpAny (model P w) A (do
        let t2 := if b = true then t1 else { t1 with plain := false }
        storeSet a es1 t2
        if (!false && t2.tooFull) = true then setRelay a (SetTable.grown (es.size + 1))
        return true) Q E s := fun b => by
      cases b with
      | true => exact fin t1 q3 q4 hfill ld1
      | false => exact fin { t1 with plain := false } (tab_plain q3) q4 hfill ld1
    by_cases hpl : t1.plain = true
    · first
        | (refine wpAny_bind ?_; refine wp_if_pos hpl ?_; exact hash_key k _ 8 s hx.1 hx.2 _ _ _ plain)
        | (refine wp_if_pos hpl (wpAny_bind ?_); exact hash_key k _ 8 s hx.1 hx.2 _ _ _ plain)
    · first
        | (refine wpAny_bind ?_; refine wp_if_neg hpl ?_; exact wpAny_pure (plain true))
        | (refine wp_if_neg hpl ?_; exact plain true)
/-- a new set -/
theorem SetT.new {h : Heap} {a : Addr} (ho : h.get? a = some { cls := .type "set", dict := none, data := .set #[] 0 (.fresh 0 0 (!w.params.followText "set-order")) }) : SetT w h a [] #[] 0 (.fresh 0 0 (!w.params.followText "set-order")) where
  ob := ⟨_, ho, ⟨rfl, rfl, rfl⟩, rfl⟩
  rows := rfl
  tab := ⟨List.Pairwise.nil, rfl, rfl, .inl rfl, fun x hx => (by cases hx), fun i h j hi => (by simp [hsh] at hi)⟩
  nd := List.nodup_nil
  key := fun p hp => (by cases hp)
  led := by
    show _ ∨ (!w.params.followText "set-order") = true
    cases w.params.followText "set-order"
    · exact .inr rfl
    · exact .inl rfl
  room := show 0 * 5 < 7 * 3 by decide
  few := show 0 < 64 by decide
end
end DN

end
section
set_option Elab.async false
set_option linter.all false
set_option maxRecDepth 100000
set_option maxHeartbeats 4000000
/-! S2: a set whose members are texts. -/
namespace DN
open PySem PySem.Spec PyProof.Rows L2
def txOf (e : Int × Value) : Str := match e.2 with
  | .str x _ => x
  | _ => Str.empty
def IsTx (w : World) (e : Int × Value) : Prop := ∃ x tk, e.2 = Value.str x tk ∧ e.1 = hashStr w x
structure SetS (w : World) (h : Heap) (a : Addr) (xs : List Str) (es : Array (Int × Value)) (ep : Nat) (t : SetTable) : Prop where
  ob : ∃ o, h.get? a = some o ∧ o.ExactSet ∧ o.data = .set es ep t
  good : ∀ e ∈ es.toList, IsTx w e
  key : es.toList.map txOf = xs
  nd : xs.Nodup
  fits : t.fits es.size = true
  ris : Ris t.place.toList
  led : w.params.followText "set-order" = true ∨ t.led = true
  few : xs.length < 64
section
variable {P : Program} {w : World} {A : Around} {E : Value → Shared → Prop} {s : Shared} {a : Addr} {xs : List Str} {es : Array (Int × Value)} {ep : Nat} {t : SetTable}
theorem txs_elems {l : List (Int × Value)} (g : ∀ e ∈ l, IsTx w e) : ElemsOf (PySem.strKind P w) l := fun e he => by
  obtain ⟨x, tk, h1, h2⟩ := g e he
  exact ⟨⟨x, by rw [h1]; exact strKind_is P w x tk, h2⟩, by rw [h1]; rfl⟩
theorem txs_is {e : Int × Value} (g : IsTx w e) (x : Str) : (PySem.strKind P w).is x e.2 = true ↔ txOf e = x := by
  obtain ⟨y, tk, h1, _⟩ := g
  unfold txOf
  rw [h1]
  constructor
  · intro h
    exact (PySem.strKind P w).inj _ _ _ (strKind_is P w y tk) h
  · intro h
    rw [← h]
    exact strKind_is P w y tk
theorem txs_mem {l : List (Int × Value)} (g : ∀ e ∈ l, IsTx w e) (x : Str) : x ∈ l.map txOf ↔ ∃ e ∈ l, (PySem.strKind P w).is x e.2 = true := by
  rw [List.mem_map]
  constructor
  · rintro ⟨e, he, q⟩
    exact ⟨e, he, (txs_is (g e he) x).2 q⟩
  · rintro ⟨e, he, q⟩
    exact ⟨e, he, (txs_is (g e he) x).1 q⟩
theorem SetS.size (R : SetS w s.heap a xs es ep t) : es.size = xs.length := by rw [← R.key, List.length_map, Array.length_toList]
/-- the entry is laid, the table perhaps anew -/
theorem tx_tail {g : Bool → Sem Unit} (hg : ∀ (b : Bool) (s₁ : Shared) (Q' : Unit → Shared → Prop), Q' () s₁ → wpAny (model P w) A (g b) Q' E s₁)
    {o : Obj} (ho : s.heap.get? a = some o) (hex : o.ExactSet) (hd : o.data = .set es ep t) {es1 : Array (Int × Value)} {t2 : SetTable} {ys : List Str} (g1 : ∀ e ∈ es1.toList, IsTx w e) (k1 : (es1.toList.map txOf).Perm ys) (nd1 : ys.Nodup) (few1 : ys.length < 64)
    (hf2 : t2.fits es1.size = true) (hr : Ris t2.place.toList) (hl : w.params.followText "set-order" = true ∨ t2.led = true) {wd : Bool} {R : Option Bool → Shared → Prop}
    (hR : ∀ h' zs es' ep' t', Heap.SameBut a s.heap h' → SetS w h' a zs es' ep' t' → zs.Perm ys → R (some true) { s with heap := h' }) :
    wpAny (model P w) A (do
        storeSet a es1 t2
        if (!wd && t2.tooFull) = true then do
            g (relayAll t2 es1 (SetTable.grown es1.size)).2.2
            storeSet a (relayAll t2 es1 (SetTable.grown es1.size)).1 (relayAll t2 es1 (SetTable.grown es1.size)).2.1
            pure (some true)
          else pure (some true)) R E s := by
  have hs1 : es1.size < 64 := by rw [← Array.length_toList, ← List.length_map (f := txOf), k1.length_eq]; exact few1
  refine wpAny_bind (wpAny_storeSet_of ho hd ?_ (by rw [sizeLine_eq]; omega))
  have ho1 := store_at (es' := es1) (t' := t2) ho hd
  have sb1 := Heap.SameBut.update s.heap a (Obj.putSet es1 t2)
  split
  · have pm := relayAll_perm t2 es1 (SetTable.grown es1.size)
    have hf3 := relayAll_fits t2 es1 (SetTable.grown es1.size)
    have hr3 := relayAll_ris t2 es1 (SetTable.grown es1.size)
    have hl3 := relayAll_led t2 es1 (SetTable.grown es1.size)
    generalize relayAll t2 es1 (SetTable.grown es1.size) = Z at pm hf3 hr3 hl3 ⊢
    obtain ⟨es2, t3, gave⟩ := Z
    dsimp only at pm hf3 hr3 hl3 ⊢
    have hs2 : es2.size < 64 := by rw [← Array.length_toList, pm.length_eq, Array.length_toList]; exact hs1
    refine wpAny_bind (hg _ _ _ ?_)
    refine wpAny_bind (wpAny_storeSet_of ho1 rfl ?_ (by rw [sizeLine_eq]; omega))
    have ho2 := store_at (es' := es2) (t' := t3) ho1 rfl
    have pk := (pm.map txOf).trans k1
    exact wpAny_pure (hR _ _ es2 _ t3 (sb1.trans (Heap.SameBut.update _ a _)) ⟨⟨_, ho2, hex, rfl⟩, fun e he => g1 e (pm.mem_iff.mp he), rfl, pk.nodup_iff.mpr nd1, hf3, hr3, hl.imp id fun z => by rw [hl3]; exact z, by rw [pk.length_eq]; exact few1⟩ pk)
  · exact wpAny_pure (hR _ _ es1 _ t2 sb1 ⟨⟨_, ho1, hex, rfl⟩, g1, rfl, k1.nodup_iff.mpr nd1, hf2, hr, hl, by rw [k1.length_eq]; exact few1⟩ k1)
theorem SetS.add (R : SetS w s.heap a xs es ep t) {x : Str} {tk : Tok} (hfew : xs.length + 1 < 64) {Q : Bool → Shared → Prop}
    (hQ : ∀ b h' ys es' ep' t', Heap.SameBut a s.heap h' → SetS w h' a ys es' ep' t' → (x ∈ xs → ys = xs) → (x ∉ xs → ys.Perm (x :: xs)) → Q b { s with heap := h' }) :
    wpAny (model P w) A (setAddHashed a (.str x tk) (hashStr w x)) Q E s := by
  obtain ⟨⟨o, ho, hex, hd⟩, g, hk, nd, hf, hr, hl, few⟩ := R
  have hkey : (PySem.strKind P w).is x (.str x tk) = true := strKind_is P w x tk
  have hsc : (Value.str x tk).scannable = true := rfl
  have hel : ElemsOf (PySem.strKind P w) es.toList := txs_elems g
  have hsz : es.size = xs.length := by rw [← hk, List.length_map, Array.length_toList]
  have hb : es.size < scanBound := by unfold scanBound; omega
  show wpAny (model P w) A (setAddHashed a (.str x tk) ((PySem.strKind P w).hash x)) Q E s
  unfold setAddHashed setAddHashedIn
  refine wpAny_holding (wpAny_bind (wpAny_setState_of ho hd hf ?_))
  dsimp only
  rw [byScan_of hsc hb hel]
  simp only [↓reduceIte]
  unfold setAddByScan
  refine wpAny_bind ?_
  refine wpAny_bind (wpAny_rule ?_)
  refine wpAny_bind (wpAny_setScan_of hkey ho hd hf hel ?_)
  cases hfi : List.findIdx? (fun e => (PySem.strKind P w).is x e.2) es.toList with
  | some j =>
    dsimp only
    obtain ⟨hj, pj, _⟩ := List.findIdx?_eq_some_iff_getElem.mp hfi
    have hin : x ∈ xs := by rw [← hk]; exact (txs_mem (P := P) g x).2 ⟨es.toList[j], List.getElem_mem hj, pj⟩
    refine wpAny_pure (wpAny_pure ?_)
    exact hQ _ s.heap xs es ep t (Heap.SameBut.refl a s.heap) ⟨⟨o, ho, hex, hd⟩, g, hk, nd, hf, hr, hl, few⟩ (fun _ => rfl) fun z => absurd hin z
  | none =>
    dsimp only
    have hnk : x ∉ xs := fun z => by
      rw [← hk] at z
      obtain ⟨e, he, q⟩ := (txs_mem (P := P) g x).1 z
      have c := List.findIdx?_eq_none_iff.mp hfi e he
      rw [q] at c
      cases c
    have pm := layNew_perm t es ((PySem.strKind P w).hash x) (.str x tk)
    have hf1 := layNew_fits t es ((PySem.strKind P w).hash x) (.str x tk)
    have hr1 := layNew_ris t es ((PySem.strKind P w).hash x) (.str x tk) hr
    have hl1 := layNew_led t es ((PySem.strKind P w).hash x) (.str x tk)
    generalize layNew t es ((PySem.strKind P w).hash x) (.str x tk) = Z at pm hf1 hr1 hl1 ⊢
    obtain ⟨es1, t1, wd, gave⟩ := Z
    dsimp only at pm hf1 hr1 hl1 ⊢
    rw [Array.toList_push] at pm
    have pc : es1.toList.Perm (((PySem.strKind P w).hash x, Value.str x tk) :: es.toList) := pm.trans (List.perm_append_singleton _ _)
    have pk : (es1.toList.map txOf).Perm (x :: xs) := by
      have := pc.map txOf
      rw [List.map_cons, hk] at this
      exact this
    have g1 : ∀ e ∈ es1.toList, IsTx w e := fun e he => by
      rcases List.mem_cons.mp (pc.mem_iff.mp he) with z | z
      · rw [z]; exact ⟨x, tk, rfl, rfl⟩
      · exact g e z
    have nd1 : (x :: xs).Nodup := List.nodup_cons.mpr ⟨hnk, nd⟩
    have hled : w.params.followText "set-order" = true ∨ t1.led = true := hl.imp id fun z => by rw [hl1]; exact z
    have fin : ∀ h' ys es' ep' t', Heap.SameBut a s.heap h' → SetS w h' a ys es' ep' t' → ys.Perm (x :: xs) → Q true { s with heap := h' } := fun h' ys es' ep' t' sb r p => hQ true h' ys es' ep' t' sb r (fun z => absurd z hnk) fun _ => p
    have hgw : ∀ (b : Bool) {s₁ : Shared} {Q' : Unit → Shared → Prop}, Q' () s₁ → wpAny (model P w) A (match b with | true => rule "set.scan.the-table-gave-way" | false => pure ()) Q' E s₁ :=
      fun b s₁ Q' q => by cases b <;> first | exact wpAny_pure q | exact wpAny_rule q
    refine wpAny_bind (hgw _ ?_)
    split
    · refine wpAny_bind ?_
      rw [hashByValue_scannable 8 hsc]
      refine wpAny_pure ?_
      refine tx_tail ?_ ho hex hd g1 pk nd1 (by rw [List.length_cons]; exact hfew) ?_ ?_ ?_ ?_
      · intro b s₁ Q' q; cases b <;> first | exact wpAny_pure q | exact wpAny_rule q
      · first | (split <;> first | exact hf1 | exact SetTable.fits_plain_off hf1) | exact hf1
      · first | (split <;> exact hr1) | exact hr1
      · first | (split <;> exact hled) | exact hled
      · intro h' ys es' ep' t' sb r p; dsimp only; exact wpAny_pure (fin h' ys es' ep' t' sb r p)
    · refine wpAny_bind (wpAny_pure ?_)
      simp only [↓reduceIte]
      refine tx_tail ?_ ho hex hd g1 pk nd1 (by rw [List.length_cons]; exact hfew) hf1 hr1 hled ?_
      · intro b s₁ Q' q; cases b <;> first | exact wpAny_pure q | exact wpAny_rule q
      · intro h' ys es' ep' t' sb r p; dsimp only; exact wpAny_pure (fin h' ys es' ep' t' sb r p)
theorem SetS.new {h : Heap} {a : Addr} (ho : h.get? a = some { cls := .type "set", dict := none, data := .set #[] 0 (.fresh 0 0 (!w.params.followText "set-order")) }) : SetS w h a [] #[] 0 (.fresh 0 0 (!w.params.followText "set-order")) where
  ob := ⟨_, ho, ⟨rfl, rfl, rfl⟩, rfl⟩
  good := fun e he => by simp at he
  key := by simp
  nd := List.nodup_nil
  fits := by rfl
  ris := List.Pairwise.nil
  led := by
    show _ ∨ (!w.params.followText "set-order") = true
    cases w.params.followText "set-order"
    · exact .inr rfl
    · exact .inl rfl
  few := show 0 < 64 by decide
end
/-! ### a set by its members: all tuples, or all texts -/
structure SetT0 (w : World) (h : Heap) (a : Addr) (L : List Mem) (es : Array (Int × Value)) (ep : Nat) (t : SetTable) : Prop where
  ob : ∃ o, h.get? a = some o ∧ o.ExactSet ∧ o.data = .set es ep t
  rows : es.toList = rowN w L
  tab : TabOk t (hsh w L)
  nd : (L.map (·.2)).Nodup
  led : w.params.followText "set-order" = true ∨ t.led = true
  room : L.length * 5 < t.mask * 3
  few : L.length < 64
theorem SetT.t0 {w : World} {h : Heap} {a : Addr} {L : List Mem} {es : Array (Int × Value)} {ep : Nat} {t : SetTable} (R : SetT w h a L es ep t) : SetT0 w h a L es ep t := ⟨R.ob, R.rows, R.tab, R.nd, R.led, R.room, R.few⟩
theorem SetT0.full {w : World} {h : Heap} {a : Addr} {L : List Mem} {es : Array (Int × Value)} {ep : Nat} {t : SetTable} (R : SetT0 w h a L es ep t) (k : ∀ p ∈ L, TKey h p.2 p.1) : SetT w h a L es ep t := ⟨R.ob, R.rows, R.tab, R.nd, k, R.led, R.room, R.few⟩
abbrev VK2 := Value × NestedKey
def SetPhi (w : World) (a : Addr) (ms : List VK2) (h : Heap) : Prop :=
  (∃ L es ep t, SetT0 w h a L es ep t ∧ ms = L.map fun p => (Value.ref p.1, p.2)) ∨ ∃ xs es ep t, SetS w h a xs es ep t ∧ xs ≠ [] ∧ ms = es.toList.map fun e => (e.2, NestedKey.text (txOf e))
/-- as a thing that is kept track of -/
def SetHO (w : World) (a : Addr) (ms : List VK2) : HO := .ext (SetPhi w a ms)
section
variable {P : Program} {w : World} {A : Around} {E : Value → Shared → Prop} {s : Shared} {a : Addr} {ms : List VK2}
theorem SetPhi.at {h0 h' : Heap} (h : SetPhi w a ms h0) (k : ∀ o, h0.get? a = some o → h'.get? a = some o) : SetPhi w a ms h' := by
  rcases h with ⟨L, es, ep, t, R, e⟩ | ⟨xs, es, ep, t, R, ne, e⟩
  · obtain ⟨o, ho, r⟩ := R.ob
    exact .inl ⟨L, es, ep, t, ⟨⟨o, k o ho, r⟩, R.rows, R.tab, R.nd, R.led, R.room, R.few⟩, e⟩
  · obtain ⟨o, ho, r⟩ := R.ob
    exact .inr ⟨xs, es, ep, t, ⟨⟨o, k o ho, r⟩, R.good, R.key, R.nd, R.fits, R.ris, R.led, R.few⟩, ne, e⟩
theorem SetPhi.there {h : Heap} (x : SetPhi w a ms h) : ∃ o, h.get? a = some o := by
  rcases x with ⟨L, es, ep, t, R, e⟩ | ⟨xs, es, ep, t, R, ne, e⟩
  · obtain ⟨o, ho, _⟩ := R.ob; exact ⟨o, ho⟩
  · obtain ⟨o, ho, _⟩ := R.ob; exact ⟨o, ho⟩
theorem SetPhi.nd {h : Heap} (x : SetPhi w a ms h) : (ms.map (·.2)).Nodup := by
  rcases x with ⟨L, es, ep, t, R, e⟩ | ⟨xs, es, ep, t, R, ne, e⟩
  · rw [e, List.map_map]
    exact R.nd
  · rw [e, List.map_map]
    have h1 := R.nd
    rw [← R.key] at h1
    have : es.toList.map ((fun m : VK2 => m.2) ∘ fun e => (e.2, NestedKey.text (txOf e))) = (es.toList.map txOf).map NestedKey.text := by rw [List.map_map]; rfl
    rw [this]
    exact List.Pairwise.map _ (fun x y hne e => hne (by injection e)) h1
theorem setHO_new {H : Hp} {h : Heap} (R : SetPhi w a ms h) : ObjOk P w H h a (SetHO w a ms) :=
  ⟨R, R.there, fun h1 h2 p k => SetPhi.at p k⟩
/-- a new set -/
theorem SetPhi.new {h : Heap} {a : Addr} (ho : h.get? a = some { cls := .type "set", dict := none, data := .set #[] 0 (.fresh 0 0 (!w.params.followText "set-order")) }) : SetPhi w a [] h := .inl ⟨[], #[], 0, _, (SetT.new ho).t0, rfl⟩
theorem SetPhi.str_of_nil (h : SetPhi w a [] s.heap) : ∃ es ep t, SetS w s.heap a [] es ep t := by
  rcases h with ⟨L, es, ep, t, R, e⟩ | ⟨xs, es, ep, t, R, ne, e⟩
  · have hL : L = [] := by cases L with
      | nil => rfl
      | cons x L => cases e
    subst hL
    have he : es.toList = [] := R.rows
    have hs : es.size = 0 := by rw [← Array.length_toList, he]; rfl
    have hp : t.place.size = 0 := R.tab.sz
    refine ⟨es, ep, t, R.ob, fun e h => (by rw [he] at h; cases h), by rw [he]; rfl, List.nodup_nil, fits_by R.tab.dm (by omega) (by omega), R.tab.ris, R.led, show 0 < 64 by decide⟩
  · exact absurd (by have := R.key; rw [← this]; cases h2 : es.toList with
      | nil => rfl
      | cons x l => rw [h2] at e; cases e) ne
def allTup (ms : List VK2) : Prop := ∀ m ∈ ms, ∃ b, m.1 = Value.ref b
def allStr (ms : List VK2) : Prop := ∀ m ∈ ms, ∃ x tk, m.1 = Value.str x tk
/-- set.add of a tuple -/
theorem SetPhi.addT (h : SetPhi w a ms s.heap) (hm : allTup ms) (hk : ∀ m ∈ ms, NestedIs s.heap m.2 m.1 ∧ m.2.depth ≤ 8) {x : Addr} {k : NestedKey} (hx : TKey s.heap k x) (hu : A.units + 8 < cLine) (hfew : ms.length + 1 < 64) {Q : Bool → Shared → Prop}
    (hQ : ∀ b h' ms', Heap.SameBut a s.heap h' → SetPhi w a ms' h' → (k ∈ ms.map (·.2) → ms' = ms) → (k ∉ ms.map (·.2) → ms'.Perm ((.ref x, k) :: ms)) → Q b { s with heap := h' }) :
    wpAny (model P w) A (setAddHashed a (.ref x) (k.hash w)) Q E s := by
  rcases h with ⟨L, es, ep, t, R, rfl⟩ | ⟨xs, es, ep, t, R, ne, rfl⟩
  · have R' := R.full fun p hp => by
      have := hk (.ref p.1, p.2) (List.mem_map.mpr ⟨p, hp, rfl⟩)
      exact this
    rw [List.length_map] at hfew
    refine R'.add hx hu hfew fun b h' L' es' ep' t' sb R2 c1 c2 => hQ b h' _ sb (.inl ⟨L', es', ep', t', R2.t0, rfl⟩) (fun z => ?_) fun z => ?_
    · rw [List.map_map] at z
      rw [c1 z]
    · rw [List.map_map] at z
      exact (c2 z).map fun p => (Value.ref p.1, p.2)
  · exfalso
    cases he : es.toList with
    | nil => exact ne (by rw [← R.key, he]; rfl)
    | cons e l =>
      obtain ⟨x, tk, h1, _⟩ := R.good e (by rw [he]; exact List.mem_cons_self)
      obtain ⟨b, h2⟩ := hm (e.2, NestedKey.text (txOf e)) (by rw [he]; exact List.mem_cons_self)
      rw [h1] at h2
      cases h2
theorem SetPhi.addS (h : SetPhi w a ms s.heap) (hm : allStr ms) {x : Str} {tk : Tok} (hfew : ms.length + 1 < 64) {Q : Bool → Shared → Prop}
    (hQ : ∀ b h' ms', Heap.SameBut a s.heap h' → SetPhi w a ms' h' → (NestedKey.text x ∈ ms.map (·.2) → ms'.map (·.2) = ms.map (·.2)) → (NestedKey.text x ∉ ms.map (·.2) → (ms'.map (·.2)).Perm (.text x :: ms.map (·.2))) → allStr ms' → (∀ m ∈ ms', ∃ y tk, m = (.str y tk, .text y)) → Q b { s with heap := h' }) :
    wpAny (model P w) A (setAddHashed a (.str x tk) (hashStr w x)) Q E s := by
  have key : ∀ {xs es ep t}, SetS w s.heap a xs es ep t → ms = es.toList.map (fun e => (e.2, NestedKey.text (txOf e))) → wpAny (model P w) A (setAddHashed a (.str x tk) (hashStr w x)) Q E s := fun {xs es ep t} R e => by
    have mk : ∀ {es : Array (Int × Value)} {xs}, es.toList.map txOf = xs → (es.toList.map fun e => (e.2, NestedKey.text (txOf e))).map (·.2) = xs.map NestedKey.text := fun {es xs} h => by rw [← h, List.map_map, List.map_map]; rfl
    have mi : ∀ {xs : List Str} {y : Str}, NestedKey.text y ∈ xs.map NestedKey.text ↔ y ∈ xs := fun {xs y} => by
      rw [List.mem_map]
      exact ⟨fun ⟨z, hz, e⟩ => by injection e with e; rw [← e]; exact hz, fun h => ⟨y, h, rfl⟩⟩
    have hl : xs.length + 1 < 64 := by
      rw [e, List.length_map] at hfew
      rw [← R.key, List.length_map]
      exact hfew
    refine R.add (tk := tk) hl fun b h' ys es' ep' t' sb R2 c1 c2 => ?_
    have gd : ∀ m ∈ es'.toList.map (fun e => (e.2, NestedKey.text (txOf e))), ∃ y tk, m = (Value.str y tk, NestedKey.text y) := fun m hm2 => by
      obtain ⟨e, he, rfl⟩ := List.mem_map.mp hm2
      obtain ⟨y, tk', h1, _⟩ := R2.good e he
      exact ⟨y, tk', by rw [show txOf e = y by unfold txOf; rw [h1], h1]⟩
    have hne : ys ≠ [] := fun z => by
      by_cases hin : x ∈ xs
      · rw [c1 hin] at z; rw [z] at hin; cases hin
      · have := (c2 hin).length_eq; rw [z] at this; cases this
    refine hQ b h' _ sb (.inr ⟨ys, es', ep', t', R2, hne, rfl⟩) (fun z => ?_) (fun z => ?_) (fun m hm2 => ?_) gd
    · rw [e, mk R.key, mi] at z
      rw [e, mk R.key, mk R2.key, c1 z]
    · rw [e, mk R.key, mi] at z
      rw [e, mk R.key, mk R2.key]
      exact (c2 z).map NestedKey.text
    · obtain ⟨y, tk', rfl⟩ := gd m hm2
      exact ⟨y, tk', rfl⟩
  rcases h with ⟨L, es, ep, t, R, e⟩ | ⟨xs, es, ep, t, R, ne, e⟩
  · cases L with
    | nil =>
      have he : es.toList = [] := R.rows
      obtain ⟨es2, ep2, t2, R2⟩ := SetPhi.str_of_nil (s := s) (w := w) (a := a) (.inl ⟨[], es, ep, t, R, rfl⟩)
      exact key R2 (by rw [e]; have := R2.key; cases h2 : es2.toList with
        | nil => rfl
        | cons x l => rw [h2] at this; cases this)
    | cons p L =>
      obtain ⟨y, tk', h1⟩ := hm (Value.ref p.1, p.2) (by rw [e]; exact List.mem_cons_self)
      cases h1
  · exact key R e
/-- the members, gathered -/
theorem SetPhi.collect (h : SetPhi w a ms s.heap) {Q : List Value → Shared → Prop} (hh : A.handled = none)
    (hQ : ∀ s' out, (∀ b o, s.heap.get? b = some o → s'.heap.get? b = some o) → s.heap.objs.size ≤ s'.heap.objs.size → s'.gens = s.gens → s'.os = s.os → out.Perm (ms.map (·.1)) → Q out s') :
    wpAny (model P w) A (collect (.ref a)) Q E s := by
  rcases h with ⟨L, es, ep, t, R, rfl⟩ | ⟨xs, es, ep, t, R, ne, rfl⟩
  · obtain ⟨o, ho, hex, hd⟩ := R.ob
    have hs : es.size = L.length := fold_len R.rows
    have h1 := R.tab.sz
    unfold hsh at h1
    rw [List.length_map] at h1
    have h2 := R.room
    have h3 := R.few
    refine collect_set hh ⟨o, ho, hex.1, hd⟩ (fits_by R.tab.dm (by omega) (by omega)) (by unfold scanBound; omega) R.tab.ris R.led fun s' out k1 k2 k3 k4 k5 => hQ s' out k1 k2 k3 k4 ?_
    rw [R.rows] at k5
    unfold rowN at k5
    rw [List.map_map] at k5 ⊢
    exact k5
  · obtain ⟨o, ho, hex, hd⟩ := R.ob
    have h3 := R.few
    rw [← R.key, List.length_map, Array.length_toList] at h3
    refine collect_set hh ⟨o, ho, hex.1, hd⟩ R.fits (by unfold scanBound; omega) R.ris R.led fun s' out k1 k2 k3 k4 k5 => hQ s' out k1 k2 k3 k4 ?_
    rw [List.map_map]
    exact k5
theorem SetPhi.len (h : SetPhi w a ms s.heap) {Q : Value → Shared → Prop} (hq : Q (.int ms.length (s.toks + 1)) { s with toks := s.toks + 1 + 1 }) : wpAny (model P w) A (call (.builtin "len") [.ref a]) Q E s := by
  rcases h with ⟨L, es, ep, t, R, rfl⟩ | ⟨xs, es, ep, t, R, ne, rfl⟩
  · obtain ⟨o, ho, hex, hd⟩ := R.ob
    have hs : es.size = L.length := fold_len R.rows
    have h1 := R.tab.sz
    unfold hsh at h1
    rw [List.length_map] at h1
    have h2 := R.room
    have h3 := R.few
    refine call_len_set ho hex hd (fits_by R.tab.dm (by omega) (by omega)) (by omega) ?_
    rw [hs]
    rw [List.length_map] at hq
    exact hq
  · obtain ⟨o, ho, hex, hd⟩ := R.ob
    have h3 := R.few
    rw [← R.key, List.length_map, Array.length_toList] at h3
    refine call_len_set ho hex hd R.fits (by omega) ?_
    rw [List.length_map, Array.length_toList] at hq
    exact hq
end
end DN

end
section
set_option linter.all false
/-! DT: the classes of the program by number, their attributes by number, the attributes' names. -/
namespace DN
open PySem
/-- 0 Role 1 Read 2 Made 3 Fresh 4 Both 5 Renewed 6 Kind 7 Catalog 8 Waits 9 Contents 10 Step 11 Log 12 Disk 13 Store 14 State 15 Price 16 Backup; errors: 20 RedoError 21 BadName 22 BadKind 23 NoKind 24 NoRole 25 BadStep 26 NoStep 27 BadFormula 28 BadStamp 29 BadWait 30 Held 31 Newer 32 Broken 33 MutualWait 34 BadSlot 35 BadSize 36 BadOrder 37 OutOfTurn (an error's fields: the last one first) -/
def flT : Nat → List Nat
  | 0 | 1 | 2 | 3 | 4 | 5 => [0, 1]
  | 6 => [0, 2]
  | 7 => [3]
  | 8 => [4]
  | 9 => [5, 6]
  | 10 => [7, 8, 9]
  | 11 => [10, 11]
  | 12 => [4]
  | 13 => [10, 12, 13, 14]
  | 14 => [15, 16]
  | 15 => [17, 18]
  | 16 => [19, 20, 21, 22, 23]
  | 21 | 22 | 23 | 24 => [0]
  | 25 => [24, 8]
  | 26 | 27 => [7]
  | 28 => [26, 25]
  | 29 | 34 => [27]
  | 30 => [28, 25]
  | 31 => [31, 30, 25, 29]
  | 32 => [34, 33, 32, 25]
  | 33 => [8]
  | 35 => [1]
  | 36 => [20]
  | 37 => [25]
  | _ => []
def nmT : Nat → Str
  | 0 => "name" | 1 => "group" | 2 => "roles" | 3 => "kinds" | 4 => "rows" | 5 => "formulas" | 6 => "numbers" | 7 => "number" | 8 => "kind" | 9 => "pages"
  | 10 => "catalog" | 11 => "steps" | 12 => "waits" | 13 => "log" | 14 => "disk" | 15 => "contents" | 16 => "pages_held" | 17 => "size" | 18 => "images" | 19 => "store"
  | 20 => "order" | 21 => "turn" | 22 => "seen" | 23 => "held" | 24 => "at" | 25 => "page" | 26 => "version" | 27 => "row" | 28 => "behind" | 29 => "step"
  | 30 => "stood" | 31 => "stamp" | 32 => "due" | 33 => "found" | 34 => "newer"
  | _ => ""
theorem nmT_inj : ∀ i j, i < 35 → j < 35 → nmT i = nmT j → i = j := by
  have h : ((List.range 35).all fun i => (List.range 35).all fun j => decide (nmT i = nmT j → i = j)) = true := by decide +kernel
  intro i j hi hj
  exact of_decide_eq_true (List.all_eq_true.mp (List.all_eq_true.mp h i (List.mem_range.mpr hi)) j (List.mem_range.mpr hj))
end DN

end
section
set_option Elab.async false
set_option linter.all false
set_option maxRecDepth 100000
set_option maxHeartbeats 4000000
/-! D0: data, ledgers, the state relation, the denotations' readings. -/
namespace DN
open PySem L2

/-! ### data -/
inductive P where
  | non | bl (b : Bool) | int (i : Int) | str (x : Str)
  | tup (xs : List P) | lst (xs : List P)
  | ins (c : Nat) (fs : List P)
  | dk (es : List P) | dn (es : List P) | set (xs : List P)
  | exn (c : Nat) (fs : List P) | scr (ns : List Int)
  deriving Inhabited
inductive D where
  | v (p : P) | r (n : Nat)
inductive MO where
  | lst (xs : List P)
  | dk (es : List (Key × P)) | dn (es : List (P × P))
  | ins (c : Nat) (fs : List (Nat × D))
  | set (xs : List P)
  | dead
inductive Res (α : Type) where
  | ok (a : α) | ex (c : Nat) (fs : List P)
def M (α : Type) := List MO → Option (Res α × List MO)
namespace M
def ret {α : Type} (a : α) : M α := fun L => some (.ok a, L)
def bnd {α β : Type} (m : M α) (f : α → M β) : M β := fun L => match m L with
  | none => none
  | some (.ok a, L1) => f a L1
  | some (.ex c fs, L1) => some (.ex c fs, L1)
def stuck {α : Type} : M α := fun _ => none
def throw {α : Type} (c : Nat) (fs : List P) : M α := fun L => some (.ex c fs, L)
end M
instance : Monad M where
  pure := M.ret
  bind := M.bnd

/-- what is fixed: the written part, the world, classes by number, their attributes -/
structure G where
  K : PySem.W.Frag
  w : World
  cl : Nat → Addr

/-- the facts of a class whose instances we read -/
structure ClsF (g : G) (c : Nat) : Prop where
  cls : Cls g.K (g.cl c)
  att : ∀ f ∈ flT c, NoAttr g.K (g.cl c) (nmT f)
  nd : ((flT c).map nmT).Nodup
  few : (flT c).length < 1000

/-! ### a nested key -/
mutual
inductive NK : P → NestedKey → Prop where
  | non : NK .non .none
  | int (i : Int) : NK (.int i) (.num i)
  | str (x : Str) : NK (.str x) (.text x)
  | tup {ps : List P} {ks : List NestedKey} : NKs ps ks → NK (.tup ps) (.tup ks)
inductive NKs : List P → List NestedKey → Prop where
  | nil : NKs [] []
  | cons {p : P} {k : NestedKey} {ps : List P} {ks : List NestedKey} : NK p k → NKs ps ks → NKs (p :: ps) (k :: ks)
end

/-- a raw dict at d whose entries are the rows (key's number, its address, the value) -/
def DicPhi (w : World) (d : Addr) (rows : List (NestedKey × Addr × Value)) (h : Heap) : Prop :=
  ∃ o es ep, h.get? d = some o ∧ o.ExactDict ∧ o.data = .dict es ep ∧
    es.toList = rows.map (fun x => (⟨x.1.hash w, .ref x.2.1, x.2.2⟩ : DictEntry))

/-! ### what a value is -/
mutual
inductive Is (g : G) (F : Hp) : V → P → Prop where
  | non : Is g F .non .non
  | bl (b : Bool) : Is g F (.bl b) (.bl b)
  | int (i : Int) : Is g F (.int i) (.int i)
  | str (x : Str) : Is g F (.str x) (.str x)
  | tup {a : Addr} {vs : List V} {ps : List P} : SqT g.K F a vs → IsA g F vs ps → Is g F (.ref a) (.tup ps)
  | lst {a : Addr} {vs : List V} {ps : List P} : F a = some (.lst vs) → IsA g F vs ps → Is g F (.ref a) (.lst ps)
  | scr {a : Addr} {ns : List Int} : SqL g.K F a (ns.map V.int) → Is g F (.ref a) (.scr ns)
  | ins {a dx : Addr} {c : Nat} {vs : List V} {ps : List P} : F a = some (.ins (g.cl c) dx (((flT c).map nmT).zip vs)) →
      vs.length = (flT c).length → IsA g F vs ps → ClsF g c → Is g F (.ref a) (.ins c ps)
  | exn {a dx : Nat} {c : Nat} {vs : List V} {ps : List P} : F dx = some (.xd (((flT c).map nmT).zip vs)) → vs.length = (flT c).length → IsA g F vs ps → Is g F (.ref a) (.exn c (.int a :: .int dx :: ps))
inductive IsA (g : G) (F : Hp) : List V → List P → Prop where
  | nil : IsA g F [] []
  | cons {v : V} {p : P} {vs : List V} {ps : List P} : Is g F v p → IsA g F vs ps → IsA g F (v :: vs) (p :: ps)
end
def Sub (F F' : Hp) : Prop := ∀ a o, F a = some o → F' a = some o
theorem Sub.refl (F : Hp) : Sub F F := fun _ _ h => h
theorem Sub.trans {F F' F2 : Hp} (h : Sub F F') (h' : Sub F' F2) : Sub F F2 := fun a o e => h' a o (h a o e)
theorem Sub.sqL {K : PySem.W.Frag} {F F' : Hp} (s : Sub F F') {a : Addr} {xs : List V} (h : SqL K F a xs) : SqL K F' a xs := by
  rcases h with (h | ⟨o, h⟩) | h
  · exact .inl (.inl (s _ _ h))
  · exact .inl (.inr ⟨o, s _ _ h⟩)
  · exact .inr h
theorem Sub.sqT {K : PySem.W.Frag} {F F' : Hp} (s : Sub F F') {a : Addr} {xs : List V} (h : SqT K F a xs) : SqT K F' a xs := by
  rcases h with (h | ⟨o, h⟩) | h
  · exact .inl (.inl (s _ _ h))
  · exact .inl (.inr ⟨o, s _ _ h⟩)
  · exact .inr h
mutual
theorem Is.mono {g : G} {F F' : Hp} (s : Sub F F') {v : V} {p : P} (h : Is g F v p) : Is g F' v p := match h with
  | .non => .non
  | .bl b => .bl b
  | .int i => .int i
  | .str x => .str x
  | .tup h1 h2 => .tup (s.sqT h1) (IsA.mono s h2)
  | .lst h1 h2 => .lst (s _ _ h1) (IsA.mono s h2)
  | .scr h1 => .scr (s.sqL h1)
  | .ins h1 h2 h3 h4 => .ins (s _ _ h1) h2 (IsA.mono s h3) h4
  | .exn h1 h2 h3 => .exn (s _ _ h1) h2 (IsA.mono s h3)
theorem IsA.mono {g : G} {F F' : Hp} (s : Sub F F') {vs : List V} {ps : List P} (h : IsA g F vs ps) : IsA g F' vs ps := match h with
  | .nil => .nil
  | .cons h1 h2 => .cons (Is.mono s h1) (IsA.mono s h2)
end
theorem IsA.len {g : G} {F : Hp} : ∀ {vs : List V} {ps : List P}, IsA g F vs ps → vs.length = ps.length
  | _, _, .nil => rfl
  | _, _, .cons _ h => congrArg (· + 1) (IsA.len h)

def IsD (g : G) (F : Hp) (ρ : Nat → Addr) (n : Nat) (v : V) : D → Prop
  | .v p => Is g F v p
  | .r k => k < n ∧ v = .ref (ρ k)
def MoIs (g : G) (F : Hp) (ρ : Nat → Addr) (n : Nat) (H : Hp) (a : Addr) : MO → Prop
  | .lst xs => ∃ vs, H a = some (.lst vs) ∧ IsA g F vs xs
  | .dk es => ∃ kvs, H a = some (.dK kvs) ∧ Paired (fun (x : Key × V) (y : Key × P) => x.1 = y.1 ∧ Is g F x.2 y.2) kvs es ∧ (es.map (·.1)).Nodup
  | .dn es => ∃ rows : List (NestedKey × Addr × Value), H a = some (.ext (DicPhi g.w a rows)) ∧ (a == sysModules) = false ∧ (rows.map (·.1)).Nodup ∧
      Paired (fun (x : NestedKey × Addr × Value) (y : P × P) => NK y.1 x.1 ∧ x.1.depth ≤ 8 ∧ Is g F (.ref x.2.1) y.1 ∧ ∃ v, RelV v x.2.2 ∧ Is g F v y.2) rows es
  | .ins c fs => ∃ dx vs, H a = some (.ins (g.cl c) dx vs) ∧ Paired (fun (x : Str × V) (y : Nat × D) => x.1 = nmT y.1 ∧ IsD g F ρ n x.2 y.2) vs fs ∧
      ClsF g c ∧ (∀ y ∈ fs, y.1 ∈ flT c) ∧ (fs.map (·.1)).Nodup
  | .set xs => ∃ ms, H a = some (SetHO g.w a ms) ∧ ∃ ms', ms'.Perm ms ∧ Paired (fun (m : VK2) (p : P) => NK p m.2 ∧ m.2.depth ≤ 8 ∧ ∃ v, RelV v m.1 ∧ Is g F v p) ms' xs
  | .dead => True

/-- the state: F what is frozen, ρ where the ledger's objects stand -/
structure R (g : G) (F : Hp) (ρ : Nat → Addr) (L : List MO) (H : Hp) : Prop where
  sub : Sub F H
  ent : ∀ i m, L[i]? = some m → m ≠ .dead → F (ρ i) = none ∧ MoIs g F ρ L.length H (ρ i) m
  inj : ∀ i j m m', L[i]? = some m → L[j]? = some m' → m ≠ .dead → m' ≠ .dead → ρ i = ρ j → i = j
/-- the slots -/
def Sl (g : G) (F : Hp) (ρ : Nat → Addr) (n : Nat) (σ : St) (τ : List (Option D)) : Prop :=
  τ.length = σ.length ∧ ∀ (i : Nat) (d : D), τ[i]? = some (some d) → ∃ v, σ[i]? = some (some v) ∧ IsD g F ρ n v d
/-- what grows -/
structure Ext (F : Hp) (ρ : Nat → Addr) (n : Nat) (F' : Hp) (ρ' : Nat → Addr) (n' : Nat) : Prop where
  sub : Sub F F'
  rho : ∀ i, i < n → ρ' i = ρ i
  len : n ≤ n'
theorem Ext.refl {F : Hp} {ρ : Nat → Addr} {n : Nat} : Ext F ρ n F ρ n := ⟨Sub.refl _, fun _ _ => rfl, Nat.le_refl _⟩
theorem Ext.trans {F F' F2 : Hp} {ρ ρ' ρ2 : Nat → Addr} {n n' n2 : Nat} (a : Ext F ρ n F' ρ' n') (b : Ext F' ρ' n' F2 ρ2 n2) : Ext F ρ n F2 ρ2 n2 :=
  ⟨a.sub.trans b.sub, fun i h => (b.rho i (Nat.lt_of_lt_of_le h a.len)).trans (a.rho i h), Nat.le_trans a.len b.len⟩
theorem IsD.ext {g : G} {F F' : Hp} {ρ ρ' : Nat → Addr} {n n' : Nat} {v : V} {d : D} (e : Ext F ρ n F' ρ' n') (h : IsD g F ρ n v d) : IsD g F' ρ' n' v d := by
  cases d with
  | v p => exact Is.mono e.sub h
  | r k => exact ⟨Nat.lt_of_lt_of_le h.1 e.len, by rw [e.rho k h.1]; exact h.2⟩
theorem Sl.ext {g : G} {F F' : Hp} {ρ ρ' : Nat → Addr} {n n' : Nat} {σ : St} {τ : List (Option D)} (e : Ext F ρ n F' ρ' n') (h : Sl g F ρ n σ τ) : Sl g F' ρ' n' σ τ :=
  ⟨h.1, fun i d q => let ⟨v, a, b⟩ := h.2 i d q; ⟨v, a, b.ext e⟩⟩

/-! ### readings -/
abbrev Tau := List (Option D)
/-- the end of a run from F, ρ, n: what must hold -/
def Post {α β : Type} (g : G) (rel : Hp → (Nat → Addr) → Nat → β → α → Prop) (F : Hp) (ρ : Nat → Addr) (n : Nat) (W : Value → Option Addr → Hp → Prop) (Q : β → Hp → Prop) : Option (Res α × List MO) → Prop
  | none => False
  | some (.ok d, L) => ∀ F' ρ' b H', Ext F ρ n F' ρ' L.length → R g F' ρ' L H' → rel F' ρ' L.length b d → Q b H'
  | some (.ex c fs, L) => ∀ F' ρ' dx vs H', Ext F ρ n F' ρ' L.length → R g F' ρ' L H' → F' dx = some (.xd (((flT c).map nmT).zip vs)) → vs.length = (flT c).length → IsA g F' vs fs →
      W (.ref (g.cl c)) (some dx) H'
theorem Post.ext {α β : Type} {g : G} {rel : Hp → (Nat → Addr) → Nat → β → α → Prop} {F F1 : Hp} {ρ ρ1 : Nat → Addr} {n n1 : Nat} {W : Value → Option Addr → Hp → Prop} {Q : β → Hp → Prop} {o : Option (Res α × List MO)}
    (e : Ext F ρ n F1 ρ1 n1) (h : Post g rel F ρ n W Q o) : Post g rel F1 ρ1 n1 W Q o := by
  match o, h with
  | some (.ok d, L), h => exact fun F' ρ' b H' x => h F' ρ' b H' (e.trans x)
  | some (.ex c fs, L), h => exact fun F' ρ' dx vs H' x => h F' ρ' dx vs H' (e.trans x)
/-- a state, some values at hand (ctx), and a run from there that ends well -/
def Sat {α β : Type} (g : G) (rel : Hp → (Nat → Addr) → Nat → β → α → Prop) (W : WX) (ctx : List (V × D)) (f : Tau → M α) (σ : St) (H : Hp) (Q : β → Hp → Prop) : Prop :=
  ∃ F ρ τ L, R g F ρ L H ∧ Sl g F ρ L.length σ τ ∧ (∀ x ∈ ctx, IsD g F ρ L.length x.1 x.2) ∧ Post g rel F ρ L.length (fun c d H' => W c d σ H') Q (f τ L)
abbrev relV (g : G) (F : Hp) (ρ : Nat → Addr) (n : Nat) (v : V) (d : D) : Prop := IsD g F ρ n v d
abbrev relB (_ : Hp) (_ : Nat → Addr) (_ : Nat) (b : Bool) (c : Bool) : Prop := b = c
abbrev relU (_ : Hp) (_ : Nat → Addr) (_ : Nat) (_ : Unit) (_ : Unit) : Prop := True
def relA (g : G) (F : Hp) (ρ : Nat → Addr) (n : Nat) : List V → List D → Prop := Paired fun v d => IsD g F ρ n v d
def tE (g : G) (W : WX) (f : Tau → M D) : TE := fun σ H Q => Sat g (relV g) W [] f σ H Q
def tT (g : G) (W : WX) (f : Tau → M Bool) : TT := fun σ H Q => Sat g relB W [] f σ H Q
def tA (g : G) (W : WX) (f : Tau → M (List D)) : TA := fun σ H Q => Sat g (relA g) W [] f σ H Q

/-- THE STEP: what is bound runs first, the rest waits with its value at hand -/
theorem Sat.bind {α β γ δ : Type} {g : G} {ra : Hp → (Nat → Addr) → Nat → γ → α → Prop} {rb : Hp → (Nat → Addr) → Nat → δ → β → Prop} {W : WX} {ctx : List (V × D)} {fa : Tau → M α} {k : Tau → α → M β} {σ : St} {H : Hp} {Q : δ → Hp → Prop}
    (h : Sat g rb W ctx (fun τ => fa τ >>= k τ) σ H Q) :
    Sat g ra W [] fa σ H fun x H1 => ∃ F ρ τ L d, R g F ρ L H1 ∧ Sl g F ρ L.length σ τ ∧ (∀ y ∈ ctx, IsD g F ρ L.length y.1 y.2) ∧ ra F ρ L.length x d ∧ Post g rb F ρ L.length (fun c d H' => W c d σ H') Q (k τ d L) := by
  obtain ⟨F, ρ, τ, L, hR, hS, hc, hp⟩ := h
  refine ⟨F, ρ, τ, L, hR, hS, (fun y hy => by cases hy), ?_⟩
  have hp' : Post g rb F ρ L.length (fun c d H' => W c d σ H') Q (match fa τ L with | none => none | some (.ok a, L1) => k τ a L1 | some (.ex c fs, L1) => some (.ex c fs, L1)) := hp
  match e : fa τ L with
  | none =>
    rw [e] at hp'
    exact hp'
  | some (.ex c fs, L1) =>
    rw [e] at hp'
    exact hp'
  | some (.ok d, L1) =>
    rw [e] at hp'
    intro F1 ρ1 x H1 he hR1 hx
    exact ⟨F1, ρ1, τ, L1, d, hR1, hS.ext he, fun y hy => (hc y hy).ext he, hx, hp'.ext he⟩
/-- .. an expression's value -/
theorem Sat.bindV {β δ : Type} {g : G} {rb : Hp → (Nat → Addr) → Nat → δ → β → Prop} {W : WX} {ctx : List (V × D)} {fa : Tau → M D} {k : Tau → D → M β} {σ : St} {H : Hp} {Q : δ → Hp → Prop}
    (h : Sat g rb W ctx (fun τ => fa τ >>= k τ) σ H Q) :
    tE g W fa σ H fun x H1 => ∃ d, Sat g rb W ((x, d) :: ctx) (fun τ => k τ d) σ H1 Q := by
  obtain ⟨F, ρ, τ, L, hR, hS, hc, hp⟩ := Sat.bind (ra := relV g) h
  refine ⟨F, ρ, τ, L, hR, hS, hc, ?_⟩
  match e : fa τ L with
  | none =>
    rw [e] at hp
    exact hp
  | some (.ex c fs, L1) =>
    rw [e] at hp
    exact hp
  | some (.ok d, L1) =>
    rw [e] at hp
    intro F1 ρ1 x H1 he hR1 hx
    obtain ⟨F2, ρ2, τ2, L2, d2, a1, a2, a3, a4, a5⟩ := hp F1 ρ1 x H1 he hR1 hx
    refine ⟨d2, F2, ρ2, τ2, L2, a1, a2, fun y hy => ?_, a5⟩
    rcases List.mem_cons.mp hy with z | z
    · rw [z]; exact a4
    · exact a3 y z

theorem Post.mono {α β : Type} {g : G} {rel : Hp → (Nat → Addr) → Nat → β → α → Prop} {F : Hp} {ρ : Nat → Addr} {n : Nat} {W : Value → Option Addr → Hp → Prop} {Q Q' : β → Hp → Prop} {o : Option (Res α × List MO)}
    (h : Post g rel F ρ n W Q o) (w : ∀ b H, Q b H → Q' b H) : Post g rel F ρ n W Q' o := by
  match o, h with
  | some (.ok d, L), h => exact fun F' ρ' b H' a1 a2 a3 => w _ _ (h F' ρ' b H' a1 a2 a3)
  | some (.ex c fs, L), h => exact h
theorem Sat.mono {α β : Type} {g : G} {rel : Hp → (Nat → Addr) → Nat → β → α → Prop} {W : WX} {ctx : List (V × D)} {f : Tau → M α} {σ : St} {H : Hp} {Q Q' : β → Hp → Prop}
    (h : Sat g rel W ctx f σ H Q) (w : ∀ b H, Q b H → Q' b H) : Sat g rel W ctx f σ H Q' := by
  obtain ⟨F, ρ, τ, L, hR, hS, hc, hp⟩ := h
  exact ⟨F, ρ, τ, L, hR, hS, hc, hp.mono w⟩

theorem PE.weak {X : Cx} {e : Expr} {t t' : TE} (h : PE X e t) (w : ∀ σ H Q, t' σ H Q → t σ H Q) : PE X e t' := ⟨fun pins s σ H Q I q => h.run pins s σ H Q I (w σ H Q q)⟩
theorem PT.weak {X : Cx} {e : Expr} {t t' : TT} (h : PT X e t) (w : ∀ σ H Q, t' σ H Q → t σ H Q) : PT X e t' := ⟨fun pins s σ H Q I q => h.run pins s σ H Q I (w σ H Q q)⟩
theorem PA.weak {X : Cx} {e : List Expr} {t t' : TA} (h : PA X e t) (w : ∀ σ H Q, t' σ H Q → t σ H Q) : PA X e t' := ⟨fun pos pins s σ H Q I q => h.run pos pins s σ H Q I (w σ H Q q)⟩
theorem PS.weak {X : Cx} {e : Stmt} {t t' : TS} (h : PS X e t) (w : ∀ D σ H, t' D σ H → t D σ H) : PS X e t' := ⟨fun pins s σ H D I q => h.run pins s σ H D I (w D σ H q)⟩
theorem PSs.weak {X : Cx} {e : List Stmt} {t t' : TS} (h : PSs X e t) (w : ∀ D σ H, t' D σ H → t D σ H) : PSs X e t' := ⟨fun pins s σ H D I q => h.run pins s σ H D I (w D σ H q)⟩

/-! ### names, constants, operators -/
section
variable {X : Cx} {g : G} {W : WX}
def varD (i : Nat) (τ : Tau) : M D := fun L => match τ[i]? with
  | some (some d) => some (.ok d, L)
  | _ => none
def retD (d : D) (_ : Tau) : M D := pure d
theorem Sat.ret {α β : Type} {rel : Hp → (Nat → Addr) → Nat → β → α → Prop} {ctx : List (V × D)} {σ : St} {H : Hp} {Q : β → Hp → Prop} {f : Tau → M α} {a : α} {b : β}
    (h : Sat g rel W ctx f σ H Q) (hf : ∀ τ L, f τ L = some (.ok a, L)) (hr : ∀ F ρ n, (∀ x ∈ ctx, IsD g F ρ n x.1 x.2) → rel F ρ n b a) : Q b H := by
  obtain ⟨F, ρ, τ, L, hR, hS, hc, hp⟩ := h
  rw [hf] at hp
  exact hp F ρ b H Ext.refl hR (hr _ _ _ hc)
theorem de_int {i j pos} : PE X (.Constant (.int i) j pos) (tE g W (retD (.v (.int i)))) :=
  PE.weak pe_int fun σ H Q h => Sat.ret h (fun _ _ => rfl) fun _ _ _ _ => Is.int i
theorem de_bl {b j pos} : PE X (.Constant (.bool b) j pos) (tE g W (retD (.v (.bl b)))) :=
  PE.weak pe_bl fun σ H Q h => Sat.ret h (fun _ _ => rfl) fun _ _ _ _ => Is.bl b
theorem de_non {j pos} : PE X (.Constant .none j pos) (tE g W (retD (.v .non))) :=
  PE.weak pe_non fun σ H Q h => Sat.ret h (fun _ _ => rfl) fun _ _ _ _ => Is.non
theorem de_str {x j pos} : PE X (.Constant (.str x) j pos) (tE g W (retD (.v (.str x)))) :=
  PE.weak pe_str fun σ H Q h => Sat.ret h (fun _ _ => rfl) fun _ _ _ _ => Is.str x
theorem de_var {i : Nat} {x : Str} {pos : Pos} (hN : X.N[i]? = some x) (hv : Vis X.env.scope x) (hd : (x == ("__debug__" : Str)) = false := by decide) (hcd : (x == ("__classdict__" : Str)) = false := by decide) : PE X (.Name x pos) (tE g W (varD i)) := by
  refine PE.weak (pe_var hN hv hd hcd) fun σ H Q h => ?_
  obtain ⟨F, ρ, τ, L, hR, hS, hc, hp⟩ := h
  unfold varD at hp
  match e : τ[i]? with
  | none =>
    rw [e] at hp
    exact hp.elim
  | some none =>
    rw [e] at hp
    exact hp.elim
  | some (some d) =>
    rw [e] at hp
    obtain ⟨v, e1, e2⟩ := hS.2 i d e
    exact ⟨v, e1, hp F ρ v H Ext.refl hR e2⟩
def bin (op : D → D → M D) (fa fb : Tau → M D) (τ : Tau) : M D := do
  let x ← fa τ
  let y ← fb τ
  op x y
/-- what an operator's rule must give -/
def OpD (g : G) (op : D → D → M D) (r : R2) : Prop := ∀ (F : Hp) (ρ : Nat → Addr) (L : List MO) (H : Hp) (x y : V) (d e : D) (W : Value → Option Addr → Hp → Prop) (Q : VK),
  R g F ρ L H → IsD g F ρ L.length x d → IsD g F ρ L.length y e → Post g (relV g) F ρ L.length W Q (op d e L) → r x y H Q
theorem de_op {op : Operator} {r : R2} {od : D → D → M D} {a b : Expr} {fa fb : Tau → M D} {pos : Pos} (ho : OpR X (binaryOp op) r) (hd : OpD g od r) (ha : PE X a (tE g W fa)) (hb : PE X b (tE g W fb)) :
    PE X (.BinOp a op b pos) (tE g W (bin od fa fb)) := by
  refine PE.weak (pe_op ho ha hb) fun σ H Q h => ?_
  refine (Sat.bindV h).mono fun x H1 h1 => ?_
  obtain ⟨d, h1⟩ := h1
  refine (Sat.bindV h1).mono fun y H2 h2 => ?_
  obtain ⟨e, F, ρ, τ, L, hR, hS, hc, hp⟩ := h2
  exact hd F ρ L H2 x y d e _ Q hR (hc (x, d) (by simp)) (hc (y, e) (by simp)) hp
end
end DN

end
section
set_option Elab.async false
set_option linter.all false
set_option maxRecDepth 100000
set_option maxHeartbeats 4000000
/-! D1: the state grows; operators. -/
namespace DN
open PySem L2
section
variable {g : G} {F : Hp} {ρ : Nat → Addr} {n : Nat} {L : List MO} {H : Hp} {a p : Addr} {m : MO} {o : HO}
theorem MoIs.some (h : MoIs g F ρ n H a m) (nd : m ≠ .dead) : ∃ o, H a = some o := by
  cases m with
  | lst xs => obtain ⟨vs, e, _⟩ := h; exact ⟨_, e⟩
  | dk es => obtain ⟨vs, e, _⟩ := h; exact ⟨_, e⟩
  | dn es => obtain ⟨vs, e, _⟩ := h; exact ⟨_, e⟩
  | ins c fs => obtain ⟨dx, vs, e, _⟩ := h; exact ⟨_, e⟩
  | set xs => obtain ⟨ms, e, _⟩ := h; exact ⟨_, e⟩
  | dead => exact absurd rfl nd
theorem MoIs.congr {H' : Hp} (h : MoIs g F ρ n H a m) (e : H' a = H a) : MoIs g F ρ n H' a m := by
  cases m with
  | lst xs => obtain ⟨vs, q, r⟩ := h; exact ⟨vs, e.trans q, r⟩
  | dk es => obtain ⟨vs, q, r⟩ := h; exact ⟨vs, e.trans q, r⟩
  | dn es => obtain ⟨vs, q, r⟩ := h; exact ⟨vs, e.trans q, r⟩
  | ins c fs => obtain ⟨dx, vs, q, r⟩ := h; exact ⟨dx, vs, e.trans q, r⟩
  | set xs => obtain ⟨ms, q, r⟩ := h; exact ⟨ms, e.trans q, r⟩
  | dead => trivial
theorem prd_mono {α β : Type} {A B : α → β → Prop} : ∀ {xs : List α} {ys : List β}, Paired A xs ys → (∀ x y, A x y → B x y) → Paired B xs ys
  | _, _, .nil, _ => .nil
  | _, _, .cons h t, f => .cons (f _ _ h) (prd_mono t f)
theorem prd_len {α β : Type} {A : α → β → Prop} : ∀ {xs : List α} {ys : List β}, Paired A xs ys → xs.length = ys.length
  | _, _, .nil => rfl
  | _, _, .cons _ t => congrArg (· + 1) (prd_len t)
theorem MoIs.ext {F' : Hp} {ρ' : Nat → Addr} {n' : Nat} (x : Ext F ρ n F' ρ' n') (h : MoIs g F ρ n H a m) : MoIs g F' ρ' n' H a m := by
  cases m with
  | lst xs => obtain ⟨vs, q, r⟩ := h; exact ⟨vs, q, IsA.mono x.sub r⟩
  | dk es => obtain ⟨vs, q, r, nd⟩ := h; exact ⟨vs, q, prd_mono r fun _ _ z => ⟨z.1, Is.mono x.sub z.2⟩, nd⟩
  | dn es =>
    obtain ⟨vs, q, sm, nd, r⟩ := h
    exact ⟨vs, q, sm, nd, prd_mono r fun _ _ z => ⟨z.1, z.2.1, Is.mono x.sub z.2.2.1, let ⟨v, r1, r2⟩ := z.2.2.2; ⟨v, r1, Is.mono x.sub r2⟩⟩⟩
  | ins c fs => obtain ⟨dx, vs, q, r, s⟩ := h; exact ⟨dx, vs, q, prd_mono r fun _ _ z => ⟨z.1, z.2.ext x⟩, s⟩
  | set xs => obtain ⟨ms, q, ms', p, r⟩ := h; exact ⟨ms, q, ms', p, prd_mono r fun _ _ z => ⟨z.1, z.2.1, let ⟨v, r1, r2⟩ := z.2.2; ⟨v, r1, Is.mono x.sub r2⟩⟩⟩
  | dead => trivial
theorem R.live (h : R g F ρ L H) {i : Nat} (e : L[i]? = some m) (nd : m ≠ .dead) : ∃ o, H (ρ i) = some o := (h.ent i m e nd).2.some nd
/-- something new is frozen at once -/
theorem R.frz (h : R g F ρ L H) (hp : H p = none) (o : HO) : R g (upd F p o) ρ L (upd H p o) where
  sub := fun a q e => by
    by_cases z : a = p
    · subst z
      rw [upd_same] at e ⊢
      exact e
    · rw [upd_ne z] at e ⊢
      exact h.sub a q e
  ent := fun i m e nd => by
    obtain ⟨q, hq⟩ := h.live e nd
    have ne : ρ i ≠ p := fun z => by rw [z, hp] at hq; cases hq
    obtain ⟨h1, h2⟩ := h.ent i m e nd
    refine ⟨by rw [upd_ne ne]; exact h1, (h2.congr (upd_ne ne)).ext (F' := upd F p o) (ρ' := ρ) ⟨fun b q eb => ?_, fun _ _ => rfl, Nat.le_refl _⟩⟩
    have nb : b ≠ p := fun z => by
      have := h.sub b q eb
      rw [z, hp] at this
      cases this
    rw [upd_ne nb]
    exact eb
  inj := h.inj
theorem Sub.frz (h : R g F ρ L H) (hp : H p = none) (o : HO) : Sub F (upd F p o) := fun b q eb => by
  have nb : b ≠ p := fun z => by
    have := h.sub b q eb
    rw [z, hp] at this
    cases this
  rw [upd_ne nb]
  exact eb
theorem R.fnone (h : R g F ρ L H) (hp : H p = none) : F p = none := by
  cases e : F p with
  | none => rfl
  | some q =>
    have := h.sub p q e
    rw [hp] at this
    cases this
def rput (ρ : Nat → Addr) (n : Nat) (p : Addr) : Nat → Addr := fun i => if i = n then p else ρ i
theorem rput_new {q : Addr} : rput ρ n q n = q := if_pos rfl
theorem rput_old {q : Addr} {i : Nat} (h : i < n) : rput ρ n q i = ρ i := if_neg (Nat.ne_of_lt h)
/-- .. is laid into the ledger -/
theorem Ext.new {q : Addr} : Ext F ρ n F (rput ρ n q) (n + 1) := ⟨Sub.refl _, fun i h => rput_old h, Nat.le_succ _⟩
theorem R.new (h : R g F ρ L H) (hp : H p = none) (o : HO) (m : MO) (hm : MoIs g F (rput ρ L.length p) (L.length + 1) (upd H p o) p m) : R g F (rput ρ L.length p) (L ++ [m]) (upd H p o) where
  sub := fun a q e => by
    have nb : a ≠ p := fun z => by
      have := h.sub a q e
      rw [z, hp] at this
      cases this
    rw [upd_ne nb]
    exact h.sub a q e
  ent := fun i m' e nd => by
    rw [List.length_append, List.length_singleton]
    by_cases hi : i < L.length
    · rw [List.getElem?_append_left hi] at e
      obtain ⟨q, hq⟩ := h.live e nd
      have ne : ρ i ≠ p := fun z => by rw [z, hp] at hq; cases hq
      obtain ⟨h1, h2⟩ := h.ent i m' e nd
      rw [rput_old hi]
      exact ⟨h1, (h2.congr (upd_ne ne)).ext Ext.new⟩
    · have hi' : i = L.length := by
        have := (List.getElem?_eq_some_iff.mp e).1
        rw [List.length_append, List.length_singleton] at this
        omega
      subst hi'
      rw [List.getElem?_append_right (Nat.le_refl _), Nat.sub_self] at e
      cases e
      rw [rput_new]
      exact ⟨h.fnone hp, hm⟩
  inj := by
    have key : ∀ (i : Nat) (m' : MO), (L ++ [m])[i]? = some m' → m' ≠ .dead → (i < L.length ∧ L[i]? = some m' ∧ rput ρ L.length p i = ρ i ∧ ρ i ≠ p) ∨ (i = L.length ∧ rput ρ L.length p i = p) := fun i m' e nd => by
      by_cases hi : i < L.length
      · rw [List.getElem?_append_left hi] at e
        obtain ⟨q, hq⟩ := h.live e nd
        exact .inl ⟨hi, e, rput_old hi, fun z => by rw [z, hp] at hq; cases hq⟩
      · have := (List.getElem?_eq_some_iff.mp e).1
        rw [List.length_append, List.length_singleton] at this
        have e2 : i = L.length := by omega
        exact .inr ⟨e2, by rw [e2]; exact rput_new⟩
    intro i j m1 m2 e1 e2 n1 n2 er
    rcases key i m1 e1 n1 with ⟨a1, a2, a3, a4⟩ | ⟨a1, a2⟩
    · rcases key j m2 e2 n2 with ⟨b1, b2, b3, b4⟩ | ⟨b1, b2⟩
      · rw [a3, b3] at er
        exact h.inj i j m1 m2 a2 b2 n1 n2 er
      · rw [a3, b2] at er
        exact absurd er a4
    · rcases key j m2 e2 n2 with ⟨b1, b2, b3, b4⟩ | ⟨b1, b2⟩
      · rw [a2, b3] at er
        exact absurd er.symm b4
      · rw [a1, b1]
/-- an entry is changed -/
theorem R.put (h : R g F ρ L H) {i : Nat} {m0 : MO} (e0 : L[i]? = some m0) (n0 : m0 ≠ .dead) (o : HO) (m : MO) (hm : MoIs g F ρ L.length (upd H (ρ i) o) (ρ i) m) : R g F ρ (L.set i m) (upd H (ρ i) o) where
  sub := fun a q e => by
    have nb : a ≠ ρ i := fun z => by
      have := (h.ent i m0 e0 n0).1
      rw [z, this] at e
      cases e
    rw [upd_ne nb]
    exact h.sub a q e
  ent := fun j m' e nd => by
    rw [List.length_set]
    by_cases hj : i = j
    · subst hj
      have hl : i < L.length := (List.getElem?_eq_some_iff.mp e0).1
      rw [List.getElem?_set_self hl] at e
      cases e
      exact ⟨(h.ent i m0 e0 n0).1, hm⟩
    · rw [List.getElem?_set_ne hj] at e
      obtain ⟨h1, h2⟩ := h.ent j m' e nd
      exact ⟨h1, h2.congr (upd_ne fun z => hj (h.inj i j m0 m' e0 e n0 nd z.symm))⟩
  inj := by
    have key : ∀ (j : Nat) (m' : MO), (L.set i m)[j]? = some m' → m' ≠ .dead → ∃ m2, L[j]? = some m2 ∧ m2 ≠ .dead := fun j m' e nd => by
      by_cases hj : i = j
      · subst hj
        exact ⟨m0, e0, n0⟩
      · rw [List.getElem?_set_ne hj] at e
        exact ⟨m', e, nd⟩
    intro j k m1 m2 e1 e2 n1 n2 er
    obtain ⟨x1, q1, r1⟩ := key j m1 e1 n1
    obtain ⟨x2, q2, r2⟩ := key k m2 e2 n2
    exact h.inj j k x1 x2 q1 q2 r1 r2 er
/-- an entry is taken off (its object may be frozen) -/
theorem R.kill (h : R g F ρ L H) (i : Nat) : R g F ρ (L.set i .dead) H where
  sub := h.sub
  ent := fun j m' e nd => by
    rw [List.length_set]
    by_cases hj : i = j
    · subst hj
      have hl : i < L.length := by
        have := (List.getElem?_eq_some_iff.mp e).1
        rwa [List.length_set] at this
      rw [List.getElem?_set_self hl] at e
      cases e
      exact absurd rfl nd
    · rw [List.getElem?_set_ne hj] at e
      exact h.ent j m' e nd
  inj := by
    have key : ∀ (j : Nat) (m' : MO), (L.set i .dead)[j]? = some m' → m' ≠ .dead → L[j]? = some m' := fun j m' e nd => by
      by_cases hj : i = j
      · subst hj
        have hl : i < L.length := by
          have := (List.getElem?_eq_some_iff.mp e).1
          rwa [List.length_set] at this
        rw [List.getElem?_set_self hl] at e
        cases e
        exact absurd rfl nd
      · rwa [List.getElem?_set_ne hj] at e
    exact fun j k m1 m2 e1 e2 n1 n2 er => h.inj j k m1 m2 (key j m1 e1 n1) (key k m2 e2 n2) n1 n2 er
theorem R.freeze (h : R g F ρ L H) {i : Nat} {m0 : MO} (e0 : L[i]? = some m0) (n0 : m0 ≠ .dead) {o : HO} (ho : H (ρ i) = some o) : R g (upd F (ρ i) o) ρ (L.set i .dead) H := by
  have h' := h.kill i
  have f0 := (h.ent i m0 e0 n0).1
  have sb : Sub F (upd F (ρ i) o) := fun b q eb => by
    have nb : b ≠ ρ i := fun z => by rw [z, f0] at eb; cases eb
    rw [upd_ne nb]
    exact eb
  refine ⟨fun a q e => ?_, fun j m' e nd => ?_, h'.inj⟩
  · by_cases z : a = ρ i
    · subst z
      rw [upd_same] at e
      rw [ho]
      exact e
    · rw [upd_ne z] at e
      exact h.sub a q e
  · obtain ⟨h1, h2⟩ := h'.ent j m' e nd
    have hj : i ≠ j := fun z => by
      subst z
      have hl : i < L.length := (List.getElem?_eq_some_iff.mp e0).1
      rw [List.getElem?_set_self hl] at e
      cases e
      exact nd rfl
    rw [List.getElem?_set_ne hj] at e
    have nr : ρ j ≠ ρ i := fun z => hj (h.inj i j m0 m' e0 e n0 nd z.symm)
    exact ⟨by rw [upd_ne nr]; exact h1, h2.ext ⟨sb, fun _ _ => rfl, Nat.le_refl _⟩⟩
end

/-! ### lists and tuples by their items -/
def asM (L : List MO) : D → Option (List P)
  | .v (.lst xs) => some xs
  | .r n => match L[n]? with
    | some (.lst xs) => some xs
    | _ => none
  | _ => none
def asL (L : List MO) : D → Option (List P)
  | .v (.scr ns) => some (ns.map P.int)
  | d => asM L d
def asT : D → Option (List P)
  | .v (.tup xs) => some xs
  | _ => none
theorem Is.inv_lst {g : G} {F : Hp} {v : V} {xs : List P} (h : Is g F v (.lst xs)) : ∃ a vs, v = .ref a ∧ F a = some (.lst vs) ∧ IsA g F vs xs := by
  cases h with
  | lst h1 h2 => exact ⟨_, _, rfl, h1, h2⟩
theorem Is.inv_tup {g : G} {F : Hp} {v : V} {xs : List P} (h : Is g F v (.tup xs)) : ∃ a vs, v = .ref a ∧ SqT g.K F a vs ∧ IsA g F vs xs := by
  cases h with
  | tup h1 h2 => exact ⟨_, _, rfl, h1, h2⟩
theorem Is.inv_int {g : G} {F : Hp} {v : V} {i : Int} (h : Is g F v (.int i)) : v = .int i := by cases h; rfl
theorem Is.inv_str {g : G} {F : Hp} {v : V} {i : Str} (h : Is g F v (.str i)) : v = .str i := by cases h; rfl
theorem Is.inv_bl {g : G} {F : Hp} {v : V} {i : Bool} (h : Is g F v (.bl i)) : v = .bl i := by cases h; rfl
theorem Is.inv_non {g : G} {F : Hp} {v : V} (h : Is g F v .non) : v = .non := by cases h; rfl
section
variable {g : G} {F : Hp} {ρ : Nat → Addr} {L : List MO} {H : Hp} {x y : V} {d e : D} {W : Value → Option Addr → Hp → Prop} {Q : VK}
theorem asM_at (hR : R g F ρ L H) (hx : IsD g F ρ L.length x d) {xs : List P} (h : asM L d = some xs) : ∃ a vs, x = .ref a ∧ H a = some (.lst vs) ∧ IsA g F vs xs := by
  match d, h, hx with
  | .v (.lst ys), h, hx =>
    cases h
    obtain ⟨a, vs, e, h1, h2⟩ := Is.inv_lst hx
    exact ⟨a, vs, e, hR.sub _ _ h1, h2⟩
  | .r n, h, hx =>
    unfold asM at h
    dsimp only at h
    match e : L[n]?, h with
    | some (.lst ys), h =>
      cases h
      obtain ⟨h1, vs, h2, h3⟩ := hR.ent n _ e (by intro z; cases z)
      exact ⟨ρ n, vs, hx.2, h2, h3⟩
theorem isA_ints (g : G) (F : Hp) : ∀ ns : List Int, IsA g F (ns.map V.int) (ns.map P.int)
  | [] => .nil
  | n :: ns => .cons (.int n) (isA_ints g F ns)
theorem asL_sq (hR : R g F ρ L H) (hx : IsD g F ρ L.length x d) {xs : List P} (h : asL L d = some xs) : ∃ a vs, x = .ref a ∧ SqL g.K H a vs ∧ IsA g F vs xs := by
  have key : asM L d = some xs → ∃ a vs, x = .ref a ∧ SqL g.K H a vs ∧ IsA g F vs xs := fun h => by
    obtain ⟨a, vs, e, h1, h2⟩ := asM_at hR hx h
    exact ⟨a, vs, e, SqL.of h1, h2⟩
  match d, h, hx, key with
  | .v (.scr ns), h, hx, _ =>
    cases h
    cases hx with
    | scr h1 => exact ⟨_, _, rfl, hR.sub.sqL h1, isA_ints g F ns⟩
  | .v .non, h, _, key => exact key h
  | .v (.bl _), h, _, key => exact key h
  | .v (.int _), h, _, key => exact key h
  | .v (.str _), h, _, key => exact key h
  | .v (.tup _), h, _, key => exact key h
  | .v (.lst _), h, _, key => exact key h
  | .v (.ins _ _), h, _, key => exact key h
  | .v (.dk _), h, _, key => exact key h
  | .v (.dn _), h, _, key => exact key h
  | .v (.set _), h, _, key => exact key h
  | .v (.exn _ _), h, _, key => exact key h
  | .r n, h, _, key => exact key h
theorem asT_sq (hR : R g F ρ L H) (hx : IsD g F ρ L.length x d) {xs : List P} (h : asT d = some xs) : ∃ a vs, x = .ref a ∧ SqT g.K H a vs ∧ IsA g F vs xs := by
  match d, h, hx with
  | .v (.tup ys), h, hx =>
    cases h
    obtain ⟨a, vs, e, h1, h2⟩ := Is.inv_tup hx
    exact ⟨a, vs, e, hR.sub.sqT h1, h2⟩
/-- a value that needs no object -/
theorem Post.val {p : P} {v : V} (hR : R g F ρ L H) (h : Post g (relV g) F ρ L.length W Q (some (.ok (.v p), L))) (hv : Is g F v p) : Q v H := h F ρ v H Ext.refl hR hv
theorem Post.tup {ps : List P} {vs : List V} (hR : R g F ρ L H) (h : Post g (relV g) F ρ L.length W Q (some (.ok (.v (.tup ps)), L))) (hv : IsA g F vs ps) {p : Addr} (hp : H p = none) : Q (.ref p) (upd H p (.tup vs)) := by
  refine h (upd F p (.tup vs)) ρ (.ref p) _ ⟨Sub.frz hR hp _, fun _ _ => rfl, Nat.le_refl _⟩ (hR.frz hp _) ?_
  exact Is.tup (SqT.of upd_same) (IsA.mono (Sub.frz hR hp _) hv)
theorem Post.lst {ps : List P} {vs : List V} (hR : R g F ρ L H) (h : Post g (relV g) F ρ L.length W Q (some (.ok (.v (.lst ps)), L))) (hv : IsA g F vs ps) {p : Addr} (hp : H p = none) : Q (.ref p) (upd H p (.lst vs)) := by
  refine h (upd F p (.lst vs)) ρ (.ref p) _ ⟨Sub.frz hR hp _, fun _ _ => rfl, Nat.le_refl _⟩ (hR.frz hp _) ?_
  exact Is.lst upd_same (IsA.mono (Sub.frz hR hp _) hv)
theorem Post.newL {ps : List P} {vs : List V} (hR : R g F ρ L H) (h : Post g (relV g) F ρ L.length W Q (some (.ok (.r L.length), L ++ [.lst ps]))) (hv : IsA g F vs ps) {p : Addr} (hp : H p = none) : Q (.ref p) (upd H p (.lst vs)) := by
  have e1 : (L ++ [MO.lst ps]).length = L.length + 1 := by rw [List.length_append, List.length_singleton]
  refine h F (rput ρ L.length p) (.ref p) _ (by rw [e1]; exact Ext.new) (hR.new hp _ _ ⟨vs, upd_same, hv⟩) ?_
  exact ⟨by rw [e1]; exact Nat.lt_succ_self _, by rw [rput_new]⟩
end

/-! ### plus, minus, times .. -/
def addD : D → D → M D := fun x y L => match x, y with
  | .v (.int a), .v (.int b) => some (.ok (.v (.int (a + b))), L)
  | .v (.str a), .v (.str b) => if a.length + b.length ≤ sizeLine then some (.ok (.v (.str (a ++ b))), L) else none
  | .v (.tup a), .v (.tup b) => if a.length + b.length ≤ sizeLine then some (.ok (.v (.tup (a ++ b))), L) else none
  | x, y => match asM L x, asM L y with
    | some a, some b => if a.length + b.length ≤ sizeLine then some (.ok (.v (.lst (a ++ b))), L) else none
    | _, _ => none
def intOp (C : Int → Int → Bool) (f : Int → Int → Int) : D → D → M D := fun x y L => match x, y with
  | .v (.int a), .v (.int b) => if C a b = true then some (.ok (.v (.int (f a b))), L) else none
  | _, _ => none
theorem opd_int {C : Int → Int → Prop} {Cb : Int → Int → Bool} {f : Int → Int → Int} {g : G} (hC : ∀ a b, Cb a b = true → C a b) : OpD g (intOp Cb f) (rI C fun i j => .int (f i j)) := by
  intro F ρ L H x y d e W Q hR hx hy hp
  unfold intOp at hp
  match d, e, hx, hy, hp with
  | .v (.int a), .v (.int b), hx, hy, hp =>
    dsimp only at hp
    by_cases hc : Cb a b = true
    · rw [if_pos hc] at hp
      exact ⟨a, b, Is.inv_int hx, Is.inv_int hy, hC _ _ hc, hp.val hR (.int _)⟩
    · rw [if_neg hc] at hp
      exact hp.elim
def subD : D → D → M D := intOp (fun _ _ => true) fun a b => a - b
def mulOkB (a b : Int) : Bool := (decide (-(2 ^ 64) < a) && decide (a < 2 ^ 64)) || (decide (-(2 ^ 64) < b) && decide (b < 2 ^ 64))
def mulD : D → D → M D := intOp mulOkB fun a b => a * b
def modD : D → D → M D := intOp (fun _ b => decide (0 < b)) fun a b => a % b
def powD : D → D → M D := intOp (fun a b => decide (0 ≤ b) && decide (b ≤ 1000000) && decide (a.natAbs < 2 ^ 64)) fun a b => a ^ b.toNat
theorem opd_sub {g : G} : OpD g subD (rI (fun _ _ => True) fun i j => .int (i - j)) := opd_int fun _ _ _ => trivial
theorem opd_mul {g : G} : OpD g mulD (rI CMul fun i j => .int (i * j)) := opd_int fun a b h => by
  unfold mulOkB at h
  unfold CMul
  simpa using h
theorem opd_mod {g : G} : OpD g modD (rI (fun _ j => 0 < j) fun i j => .int (i % j)) := opd_int fun a b h => by simpa using h
theorem opd_pow {g : G} : OpD g powD (rI CPow fun i j => .int (i ^ j.toNat)) := opd_int fun a b h => by
  unfold CPow
  simpa [and_assoc] using h
section
variable {X : Cx} {g : G} {W : WX} {a b : Expr} {fa fb : Tau → M D} {pos : Pos}
theorem op_subT : OpR X (binaryOp .Sub) (rI (fun _ _ => True) fun i j => .int (i - j)) := fun pins s σ H x y v u Q I r1 r2 ⟨i, j, e1, e2, _, q⟩ => op_sub pins s σ H x y v u Q I r1 r2 ⟨i, j, e1, e2, q⟩
theorem de_sub (ha : PE X a (tE g W fa)) (hb : PE X b (tE g W fb)) : PE X (.BinOp a .Sub b pos) (tE g W (bin subD fa fb)) := de_op op_subT opd_sub ha hb
theorem de_mul (ha : PE X a (tE g W fa)) (hb : PE X b (tE g W fb)) : PE X (.BinOp a .Mult b pos) (tE g W (bin mulD fa fb)) := de_op op_mul opd_mul ha hb
theorem de_mod (ha : PE X a (tE g W fa)) (hb : PE X b (tE g W fb)) : PE X (.BinOp a .Mod b pos) (tE g W (bin modD fa fb)) := de_op op_mod opd_mod ha hb
theorem de_pow (ha : PE X a (tE g W fa)) (hb : PE X b (tE g W fb)) : PE X (.BinOp a .Pow b pos) (tE g W (bin powD fa fb)) := de_op op_pow opd_pow ha hb
end
end DN

end
section
set_option Elab.async false
set_option linter.all false
set_option maxRecDepth 100000
set_option maxHeartbeats 4000000
/-! D2: plus, comparisons, in, subscripts, slices, displays, tests. -/
namespace DN
open PySem L2
theorem IsA.append {g : G} {F : Hp} : ∀ {vs ws : List V} {ps qs : List P}, IsA g F vs ps → IsA g F ws qs → IsA g F (vs ++ ws) (ps ++ qs)
  | _, _, _, _, .nil, h => h
  | _, _, _, _, .cons h t, h' => .cons h (IsA.append t h')
theorem IsA.get {g : G} {F : Hp} : ∀ {vs : List V} {ps : List P} {i : Nat} {p : P}, IsA g F vs ps → ps[i]? = some p → ∃ v, vs[i]? = some v ∧ Is g F v p
  | _, _, _, _, .nil, e => by simp at e
  | _, _, 0, _, .cons h _, e => by simp at e; subst e; exact ⟨_, rfl, h⟩
  | _, _, i + 1, p, .cons _ t, e => by
    obtain ⟨v, h1, h2⟩ := IsA.get (i := i) (p := p) t (by simpa using e)
    exact ⟨v, by simpa using h1, h2⟩
theorem IsA.take {g : G} {F : Hp} : ∀ {vs : List V} {ps : List P} (n : Nat), IsA g F vs ps → IsA g F (vs.take n) (ps.take n)
  | _, _, 0, _ => .nil
  | _, _, _ + 1, .nil => .nil
  | _, _, n + 1, .cons h t => .cons h (IsA.take n t)
theorem IsA.drop {g : G} {F : Hp} : ∀ {vs : List V} {ps : List P} (n : Nat), IsA g F vs ps → IsA g F (vs.drop n) (ps.drop n)
  | _, _, 0, h => h
  | _, _, _ + 1, .nil => .nil
  | _, _, n + 1, .cons _ t => IsA.drop n t
theorem IsA.set {g : G} {F : Hp} {v : V} {p : P} (hv : Is g F v p) : ∀ {vs : List V} {ps : List P} (n : Nat), IsA g F vs ps → IsA g F (vs.set n v) (ps.set n p)
  | _, _, _, .nil => .nil
  | _, _, 0, .cons _ t => .cons hv t
  | _, _, n + 1, .cons h t => .cons h (IsA.set hv n t)
theorem IsA.erase {g : G} {F : Hp} : ∀ {vs : List V} {ps : List P} (n : Nat), IsA g F vs ps → IsA g F (vs.eraseIdx n) (ps.eraseIdx n)
  | _, _, _, .nil => .nil
  | _, _, 0, .cons _ t => t
  | _, _, n + 1, .cons h t => .cons h (IsA.erase n t)

/-! ### plus -/
theorem opd_addI {g : G} {K : PySem.W.Frag} (hK : K = g.K) : OpD g addD (fun x y H Q => (∃ i j, x = .int i ∧ y = .int j ∧ Q (.int (i + j)) H) ∨ (∃ i j, x = .str i ∧ y = .str j ∧ i.length + j.length ≤ sizeLine ∧ Q (.str (i ++ j)) H) ∨ rCatA K x y H Q ∨ rCat x y H Q) := by
  subst hK
  intro F ρ L H x y d e W Q hR hx hy hp
  have lists : (match asM L d, asM L e with
      | some a, some b => if a.length + b.length ≤ sizeLine then (some (Res.ok (D.v (.lst (a ++ b))), L) : Option (Res D × List MO)) else none
      | _, _ => none) = addD d e L → rCat x y H Q := fun eq => by
    rw [← eq] at hp
    match e1 : asM L d, e2 : asM L e with
    | some a, some b =>
      rw [e1, e2] at hp
      dsimp only at hp
      by_cases hz : a.length + b.length ≤ sizeLine
      · rw [if_pos hz] at hp
        obtain ⟨p, vs, r1, h1, i1⟩ := asM_at hR hx e1
        obtain ⟨q, ws, r2, h2, i2⟩ := asM_at hR hy e2
        refine ⟨p, q, vs, ws, r1, r2, h1, h2, by rw [i1.len, i2.len]; exact hz, fun n hn => hp.lst hR (i1.append i2) hn⟩
      · rw [if_neg hz] at hp
        exact hp.elim
    | none, _ =>
      rw [e1] at hp
      exact hp.elim
    | some a, none =>
      rw [e1, e2] at hp
      exact hp.elim
  have hI : ∀ a b : Int, IsD g F ρ L.length x (.v (.int a)) → IsD g F ρ L.length y (.v (.int b)) → Post g (relV g) F ρ L.length W Q (addD (.v (.int a)) (.v (.int b)) L) → ∃ i j, x = .int i ∧ y = .int j ∧ Q (.int (i + j)) H :=
    fun a b hx hy hp => ⟨a, b, Is.inv_int hx, Is.inv_int hy, hp.val hR (.int _)⟩
  have hS : ∀ a b : Str, IsD g F ρ L.length x (.v (.str a)) → IsD g F ρ L.length y (.v (.str b)) → Post g (relV g) F ρ L.length W Q (addD (.v (.str a)) (.v (.str b)) L) → ∃ i j, x = .str i ∧ y = .str j ∧ i.length + j.length ≤ sizeLine ∧ Q (.str (i ++ j)) H := fun a b hx hy hp => by
    unfold addD at hp
    dsimp only at hp
    by_cases hz : a.length + b.length ≤ sizeLine
    · rw [if_pos hz] at hp
      exact ⟨a, b, Is.inv_str hx, Is.inv_str hy, hz, hp.val hR (.str _)⟩
    · rw [if_neg hz] at hp
      exact False.elim hp
  have hT : ∀ a b : List P, IsD g F ρ L.length x (.v (.tup a)) → IsD g F ρ L.length y (.v (.tup b)) → Post g (relV g) F ρ L.length W Q (addD (.v (.tup a)) (.v (.tup b)) L) → rCatA g.K x y H Q := fun a b hx hy hp => by
    unfold addD at hp
    dsimp only at hp
    by_cases hz : a.length + b.length ≤ sizeLine
    · rw [if_pos hz] at hp
      obtain ⟨p, vs, rfl, h1, i1⟩ := Is.inv_tup hx
      obtain ⟨q, ws, rfl, h2, i2⟩ := Is.inv_tup hy
      refine ⟨p, q, vs, ws, rfl, rfl, hR.sub.sqT h1, hR.sub.sqT h2, by rw [i1.len, i2.len]; exact hz, fun z => ?_, fun _ z => ?_, fun _ _ n hn => hp.tup hR (i1.append i2) hn⟩
      · subst z
        cases i1
        exact hp.val hR hy
      · subst z
        cases i2
        rw [List.append_nil] at hp
        exact hp.val hR hx
    · rw [if_neg hz] at hp
      exact False.elim hp
  cases d with
  | r n => exact .inr (.inr (.inr (lists rfl)))
  | v p =>
    cases p with
    | int a =>
      cases e with
      | r n => exact False.elim hp
      | v q =>
        cases q with
        | int b => exact .inl (hI a b hx hy hp)
        | _ => exact False.elim hp
    | str a =>
      cases e with
      | r n => exact False.elim hp
      | v q =>
        cases q with
        | str b => exact .inr (.inl (hS a b hx hy hp))
        | _ => exact False.elim hp
    | tup a =>
      cases e with
      | r n => exact False.elim hp
      | v q =>
        cases q with
        | tup b => exact .inr (.inr (.inl (hT a b hx hy hp)))
        | _ => exact False.elim hp
    | _ => exact .inr (.inr (.inr (lists rfl)))
section
variable {X : Cx} {g : G} {W : WX} {a b c : Expr} {fa fb fc : Tau → M D} {pos : Pos}
theorem de_add (hK : X.K = g.K) (ha : PE X a (tE g W fa)) (hb : PE X b (tE g W fb)) : PE X (.BinOp a .Add b pos) (tE g W (bin addD fa fb)) :=
  de_op (op_add.or (op_add_str.or (op_catA.or op_cat))) (opd_addI hK) ha hb
def fdivD : D → D → M D := intOp (fun _ b => decide (0 < b) && decide (b < 1073741824)) fun a b => a / b
theorem de_fdiv (ha : PE X a (tE g W fa)) (hb : PE X b (tE g W fb)) : PE X (.BinOp a .FloorDiv b pos) (tE g W (bin fdivD fa fb)) :=
  de_op op_fdiv (opd_int fun a b h => by unfold CDiv; simpa using h) ha hb
end

/-! ### data -/
mutual
def toD : P → Option PyData
  | .non => some .none
  | .bl b => some (.bool b)
  | .int i => some (.int i)
  | .str x => some (.str x)
  | .tup xs => (toDs xs).map .tuple
  | .lst xs => (toDs xs).map .list
  | _ => none
def toDs : List P → Option (List PyData)
  | [] => some []
  | x :: xs => match toD x, toDs xs with
    | some d, some ds => some (d :: ds)
    | _, _ => none
end
mutual
theorem dp_of {g : G} {F H : Hp} (s : Sub F H) {v : V} {p : P} (h : Is g F v p) {d : PyData} (e : toD p = some d) : Dp g.K H v d := match h with
  | .non => by simp only [toD, Option.some.injEq] at e; subst e; exact .non
  | .bl b => by simp only [toD, Option.some.injEq] at e; subst e; exact .bl b
  | .int i => by simp only [toD, Option.some.injEq] at e; subst e; exact .int i
  | .str x => by simp only [toD, Option.some.injEq] at e; subst e; exact .str x
  | .tup h1 h2 => by
    simp only [toD, Option.map_eq_some_iff] at e
    obtain ⟨ds, e1, rfl⟩ := e
    exact .tup (s.sqT h1) (dps_of s h2 e1)
  | .lst h1 h2 => by
    simp only [toD, Option.map_eq_some_iff] at e
    obtain ⟨ds, e1, rfl⟩ := e
    exact .lst (SqL.of (s _ _ h1)) (dps_of s h2 e1)
  | .scr _ => by simp only [toD] at e; cases e
  | .ins _ _ _ _ => by simp only [toD] at e; cases e
theorem dps_of {g : G} {F H : Hp} (s : Sub F H) {vs : List V} {ps : List P} (h : IsA g F vs ps) {ds : List PyData} (e : toDs ps = some ds) : DpAll g.K H vs ds := match h with
  | .nil => by simp only [toDs, Option.some.injEq] at e; subst e; exact .nil
  | .cons (p := p) (ps := ps) h1 h2 => by
    simp only [toDs] at e
    match e1 : toD p, e2 : toDs ps with
    | some d, some ds' =>
      rw [e1, e2] at e
      cases e
      exact .cons (dp_of s h1 e1) (dps_of s h2 e2)
    | none, _ => rw [e1] at e; cases e
    | some _, none => rw [e1, e2] at e; cases e
end
/-- a value as data, lists of the ledger too -/
def dOf (L : List MO) : D → Option PyData
  | .v p => toD p
  | .r n => match L[n]? with
    | some (.lst xs) => (toDs xs).map .list
    | _ => none
theorem dOf_dp {g : G} {F H : Hp} {ρ : Nat → Addr} {L : List MO} {x : V} {d : D} (hR : R g F ρ L H) (hx : IsD g F ρ L.length x d) {y : PyData} (h : dOf L d = some y) : Dp g.K H x y := by
  match d, h, hx with
  | .v p, h, hx => exact dp_of hR.sub hx h
  | .r n, h, hx =>
    unfold dOf at h
    dsimp only at h
    match e : L[n]?, h with
    | some (.lst ys), h =>
      simp only [Option.map_eq_some_iff] at h
      obtain ⟨ds, e1, rfl⟩ := h
      obtain ⟨h1, vs, h2, h3⟩ := hR.ent n _ e (by intro z; cases z)
      rw [hx.2]
      exact .lst (SqL.of h2) (dps_of hR.sub h3 e1)
def okD (d : PyData) : Bool := SeqAt.shaped d
def eqD (neg : Bool) : D → D → M D := fun x y L => match dOf L x, dOf L y with
  | some a, some b => if (okD a && okD b) = true then some (.ok (.v (.bl (if neg = true then !PyData.eqv a b else PyData.eqv a b))), L) else none
  | _, _ => none
section
variable {X : Cx} {g : G} {W : WX} {a b c : Expr} {fa fb fc : Tau → M D} {pos : Pos}
theorem opd_eq : OpD g (eqD false) (rEqD g.K) := by
  intro F ρ L H x y d e W Q hR hx hy hp
  unfold eqD at hp
  match e1 : dOf L d, e2 : dOf L e with
  | some p, some q =>
    rw [e1, e2] at hp
    dsimp only at hp
    by_cases hk : (okD p && okD q) = true
    · rw [if_pos hk] at hp
      rw [Bool.and_eq_true] at hk
      exact ⟨p, q, dOf_dp hR hx e1, dOf_dp hR hy e2, hk.1, hk.2, hp.val hR (.bl _)⟩
    · rw [if_neg hk] at hp
      exact hp.elim
  | none, _ => rw [e1] at hp; exact hp.elim
  | some _, none => rw [e1, e2] at hp; exact hp.elim
theorem opd_ne : OpD g (eqD true) (rNeD g.K) := by
  intro F ρ L H x y d e W Q hR hx hy hp
  unfold eqD at hp
  match e1 : dOf L d, e2 : dOf L e with
  | some p, some q =>
    rw [e1, e2] at hp
    dsimp only at hp
    by_cases hk : (okD p && okD q) = true
    · rw [if_pos hk] at hp
      rw [Bool.and_eq_true] at hk
      exact ⟨p, q, dOf_dp hR hx e1, dOf_dp hR hy e2, hk.1, hk.2, hp.val hR (.bl _)⟩
    · rw [if_neg hk] at hp
      exact hp.elim
  | none, _ => rw [e1] at hp; exact hp.elim
  | some _, none => rw [e1, e2] at hp; exact hp.elim
theorem opd_eqK {K : PySem.W.Frag} (hK : K = g.K) : OpD g (eqD false) (rEqD K) := by subst hK; exact opd_eq
theorem opd_neK {K : PySem.W.Frag} (hK : K = g.K) : OpD g (eqD true) (rNeD K) := by subst hK; exact opd_ne
/-- a comparison -/
theorem de_cmp {op : CmpOp} {r : R2} {od : D → D → M D} (ho : OpR X (compareOp op) r) (hd : OpD g od r) (ha : PE X a (tE g W fa)) (hb : PE X b (tE g W fb)) (hm : behindInMarks op b = false) :
    PE X (.Compare a [op] [b] pos) (tE g W (bin od fa fb)) := by
  refine PE.weak (pe_cmpR ho ha hb hm) fun σ H Q h => ?_
  refine (Sat.bindV h).mono fun x H1 h1 => ?_
  obtain ⟨d, h1⟩ := h1
  refine (Sat.bindV h1).mono fun y H2 h2 => ?_
  obtain ⟨e, F, ρ, τ, L, hR, hS, hc, hp⟩ := h2
  exact hd F ρ L H2 x y d e _ Q hR (hc (x, d) (by simp)) (hc (y, e) (by simp)) hp
theorem de_eq (hK : X.K = g.K) (hu : X.A.units + 64 < cLine) (ha : PE X a (tE g W fa)) (hb : PE X b (tE g W fb)) : PE X (.Compare a [.Eq] [b] pos) (tE g W (bin (eqD false) fa fb)) := de_cmp (op_eqD hu) (opd_eqK hK) ha hb (nomark _)
theorem de_ne (hK : X.K = g.K) (hu : X.A.units + 64 < cLine) (ha : PE X a (tE g W fa)) (hb : PE X b (tE g W fb)) : PE X (.Compare a [.NotEq] [b] pos) (tE g W (bin (eqD true) fa fb)) := de_cmp (op_neD hu) (opd_neK hK) ha hb (nomark _)
/-- order: ints; texts and data that are alike -/
def ordI (f : Int → Int → Bool) : D → D → M D := fun x y L => match x, y with
  | .v (.int a), .v (.int b) => some (.ok (.v (.bl (f a b))), L)
  | _, _ => none
def ltOk (a : PyData) : Bool := decide (a.depth ≤ 64) && (match a with | .none => false | _ => true)
def ltD : D → D → M D := fun x y L => match x, y with
  | .v (.int a), .v (.int b) => some (.ok (.v (.bl (decide (a < b)))), L)
  | x, y => match dOf L x, dOf L y with
    | some a, some b => if (PySem.W.alike a b && ltOk a) = true then some (.ok (.v (.bl (PySem.W.dataLt a b))), L) else none
    | _, _ => none
theorem opd_ordI {f : Int → Int → Bool} : OpD g (ordI f) (rI0 fun i j => .bl (f i j)) := by
  intro F ρ L H x y d e W Q hR hx hy hp
  unfold ordI at hp
  match d, e, hx, hy, hp with
  | .v (.int p), .v (.int q), hx, hy, hp => exact ⟨p, q, Is.inv_int hx, Is.inv_int hy, hp.val hR (.bl _)⟩
theorem de_le (ha : PE X a (tE g W fa)) (hb : PE X b (tE g W fb)) : PE X (.Compare a [.LtE] [b] pos) (tE g W (bin (ordI fun i j => decide (i ≤ j)) fa fb)) := de_cmp op_le opd_ordI ha hb (nomark _)
theorem de_ge (ha : PE X a (tE g W fa)) (hb : PE X b (tE g W fb)) : PE X (.Compare a [.GtE] [b] pos) (tE g W (bin (ordI fun i j => decide (j ≤ i)) fa fb)) := de_cmp op_ge opd_ordI ha hb (nomark _)
theorem de_gt (ha : PE X a (tE g W fa)) (hb : PE X b (tE g W fb)) : PE X (.Compare a [.Gt] [b] pos) (tE g W (bin (ordI fun i j => decide (j < i)) fa fb)) := de_cmp op_gt opd_ordI ha hb (nomark _)
theorem de_ltI (ha : PE X a (tE g W fa)) (hb : PE X b (tE g W fb)) : PE X (.Compare a [.Lt] [b] pos) (tE g W (bin (ordI fun i j => decide (i < j)) fa fb)) := de_cmp op_lt opd_ordI ha hb (nomark _)
end
end DN

end
section
set_option Elab.async false
set_option linter.all false
set_option maxRecDepth 100000
set_option maxHeartbeats 4000000
/-! D3: tests, and, or, not; order; in; is None; subscripts, slices, displays. -/
namespace DN
open PySem L2
section
variable {g : G} {F : Hp} {ρ : Nat → Addr} {L : List MO} {H : Hp} {x y : V} {d e : D}
/-- a leaf: the value at hand is used up -/
theorem Sat.leaf1 {α β : Type} {rel : Hp → (Nat → Addr) → Nat → β → α → Prop} {W : WX} {ctx : List (V × D)} {k : D → M α} {σ : St} {Q : β → Hp → Prop} (h : Sat g rel W ((x, d) :: ctx) (fun _ => k d) σ H Q) :
    ∃ F ρ L, R g F ρ L H ∧ IsD g F ρ L.length x d ∧ Post g rel F ρ L.length (fun c d H' => W c d σ H') Q (k d L) := by
  obtain ⟨F, ρ, τ, L, hR, hS, hc, hp⟩ := h
  exact ⟨F, ρ, L, hR, hc (x, d) (by simp), hp⟩
theorem Post.bool {b : Bool} {n : Nat} {W : Value → Option Addr → Hp → Prop} {Q : Bool → Hp → Prop} (hR : R g F ρ L H) (h : Post g relB F ρ L.length W Q (some (.ok b, L))) : Q b H := h F ρ b H Ext.refl hR rfl
theorem Post.bnd {α β γ δ : Type} {ra : Hp → (Nat → Addr) → Nat → γ → α → Prop} {rb : Hp → (Nat → Addr) → Nat → δ → β → Prop} {m : M α} {k : α → M β} {n : Nat} {W : Value → Option Addr → Hp → Prop} {Q : δ → Hp → Prop} {Qa : γ → Hp → Prop}
    (h : Post g rb F ρ n W Q ((m >>= k) L)) (w : ∀ a L1 F1 ρ1 b H1, m L = some (.ok a, L1) → Ext F ρ n F1 ρ1 L1.length → R g F1 ρ1 L1 H1 → ra F1 ρ1 L1.length b a → Post g rb F1 ρ1 L1.length W Q (k a L1) → Qa b H1) : Post g ra F ρ n W Qa (m L) := by
  have h' : Post g rb F ρ n W Q (match m L with | none => none | some (.ok a, L1) => k a L1 | some (.ex c fs, L1) => some (.ex c fs, L1)) := h
  match e : m L with
  | none => rw [e] at h'; exact h'
  | some (.ex c fs, L1) => rw [e] at h'; exact h'
  | some (.ok a, L1) =>
    rw [e] at h'
    exact fun F1 ρ1 b H1 x1 x2 x3 => w a L1 F1 ρ1 b H1 e x1 x2 x3 (h'.ext x1)
end
def asB : D → M Bool := fun x L => match x with
  | .v (.bl b) => some (.ok b, L)
  | _ => none
def tstD (f : Tau → M D) (τ : Tau) : M Bool := f τ >>= asB
theorem asB_post {g : G} {F : Hp} {ρ : Nat → Addr} {L : List MO} {H : Hp} {x : V} {d : D} {W : Value → Option Addr → Hp → Prop} {Q : Bool → Hp → Prop} (hR : R g F ρ L H) (hx : IsD g F ρ L.length x d) (hp : Post g relB F ρ L.length W Q (asB d L)) : ∃ c, x = .bl c ∧ Q c H := by
  match d, hx, hp with
  | .v (.bl b), hx, hp => exact ⟨b, Is.inv_bl hx, Post.bool (n := 0) hR hp⟩
section
variable {X : Cx} {g : G} {W : WX} {a b c e : Expr} {fa fb fc f : Tau → M D} {ta tb : Tau → M Bool} {pos : Pos}
theorem tst_of {σ : St} {H : Hp} {Q : Bool → Hp → Prop} (h : tT g W (tstD f) σ H Q) : tE g W f σ H fun x H1 => ∃ c, x = .bl c ∧ Q c H1 := by
  refine (Sat.bindV h).mono fun x H1 h1 => ?_
  obtain ⟨d, F, ρ, τ, L, hR, hS, hc, hp⟩ := h1
  exact asB_post hR (hc (x, d) (by simp)) hp
theorem dt_val (h : PE X e (tE g W f)) (he : ∀ whole, isTrue e X.env whole = (do let v ← whole; standAt e.pos; holding [v] (truthy v)) := by intro _; rfl) : PT X e (tT g W (tstD f)) :=
  PT.weak (pt_val h he) fun σ H Q q => tst_of q
theorem dt_cmp {op : CmpOp} {r : R2} {od : D → D → M D} (ho : OpR X (compareOp op) r) (hd : OpD g od r) (ha : PE X a (tE g W fa)) (hb : PE X b (tE g W fb)) (hm : behindInMarks op b = false) :
    PT X (.Compare a [op] [b] pos) (tT g W (tstD (bin od fa fb))) := by
  refine PT.weak (pt_cmpR ho ha hb hm) fun σ H Q h => ?_
  have h0 := tst_of h
  refine (Sat.bindV h0).mono fun x H1 h1 => ?_
  obtain ⟨d, h1⟩ := h1
  refine (Sat.bindV h1).mono fun y H2 h2 => ?_
  obtain ⟨e, F, ρ, τ, L, hR, hS, hc, hp⟩ := h2
  exact hd F ρ L H2 x y d e _ _ hR (hc (x, d) (by simp)) (hc (y, e) (by simp)) hp
theorem dt_eq (hK : X.K = g.K) (hu : X.A.units + 64 < cLine) (ha : PE X a (tE g W fa)) (hb : PE X b (tE g W fb)) : PT X (.Compare a [.Eq] [b] pos) (tT g W (tstD (bin (eqD false) fa fb))) := dt_cmp (op_eqD hu) (opd_eqK hK) ha hb (nomark _)
theorem dt_ne (hK : X.K = g.K) (hu : X.A.units + 64 < cLine) (ha : PE X a (tE g W fa)) (hb : PE X b (tE g W fb)) : PT X (.Compare a [.NotEq] [b] pos) (tT g W (tstD (bin (eqD true) fa fb))) := dt_cmp (op_neD hu) (opd_neK hK) ha hb (nomark _)
theorem dt_le (ha : PE X a (tE g W fa)) (hb : PE X b (tE g W fb)) : PT X (.Compare a [.LtE] [b] pos) (tT g W (tstD (bin (ordI fun i j => decide (i ≤ j)) fa fb))) := dt_cmp op_le opd_ordI ha hb (nomark _)
theorem dt_ge (ha : PE X a (tE g W fa)) (hb : PE X b (tE g W fb)) : PT X (.Compare a [.GtE] [b] pos) (tT g W (tstD (bin (ordI fun i j => decide (j ≤ i)) fa fb))) := dt_cmp op_ge opd_ordI ha hb (nomark _)
theorem dt_gt (ha : PE X a (tE g W fa)) (hb : PE X b (tE g W fb)) : PT X (.Compare a [.Gt] [b] pos) (tT g W (tstD (bin (ordI fun i j => decide (j < i)) fa fb))) := dt_cmp op_gt opd_ordI ha hb (nomark _)
theorem dt_ltI (ha : PE X a (tE g W fa)) (hb : PE X b (tE g W fb)) : PT X (.Compare a [.Lt] [b] pos) (tT g W (tstD (bin (ordI fun i j => decide (i < j)) fa fb))) := dt_cmp op_lt opd_ordI ha hb (nomark _)

/-! ### less than, for data -/
def rLtD (K : PySem.W.Frag) : R2 := fun x y H Q => ∃ d e, Dp K H x d ∧ Dp K H y e ∧ PySem.W.alike d e = true ∧ ltOk d = true ∧ Q (.bl (PySem.W.dataLt d e)) H
theorem op_ltD (hu : X.A.units + 64 < cLine) : OpR X (compareOp .Lt) (rLtD X.K) := by
  intro pins s σ H x y v u Q I rx ry h
  obtain ⟨d, e, hd, he, al, ok, q⟩ := h
  obtain ⟨as, r1⟩ := Dp.reads I d x v hd rx
  obtain ⟨bs, r2⟩ := Dp.reads I e y u he ry
  unfold ltOk at ok
  rw [Bool.and_eq_true] at ok
  have hdep : d.depth ≤ 64 := of_decide_eq_true ok.1
  have hm : min d.depth e.depth ≤ d.depth := Nat.min_le_left _ _
  refine PySem.W.rcLt_alike d e X.A s v u as bs r1 r2 al (fun z => ?_) (by omega) X.prog X.w X.xe _ ⟨.bl _, H, I, rfl, q⟩
  rw [z] at ok
  exact absurd ok.2 (by decide)
theorem opd_lt {K : PySem.W.Frag} (hK : K = g.K) : OpD g ltD (fun x y H Q => rI0 (fun i j => .bl (decide (i < j))) x y H Q ∨ rLtD K x y H Q) := by
  subst hK
  intro F ρ L H x y d e W Q hR hx hy hp
  have dat : (match dOf L d, dOf L e with
    | some a, some b => if (PySem.W.alike a b && ltOk a) = true then (some (Res.ok (D.v (.bl (PySem.W.dataLt a b))), L) : Option (Res D × List MO)) else none
    | _, _ => none) = ltD d e L → rLtD g.K x y H Q := fun eq => by
    rw [← eq] at hp
    match e1 : dOf L d, e2 : dOf L e with
    | some p, some q =>
      rw [e1, e2] at hp
      dsimp only at hp
      by_cases hk : (PySem.W.alike p q && ltOk p) = true
      · rw [if_pos hk] at hp
        rw [Bool.and_eq_true] at hk
        exact ⟨p, q, dOf_dp hR hx e1, dOf_dp hR hy e2, hk.1, hk.2, hp.val hR (.bl _)⟩
      · rw [if_neg hk] at hp
        exact False.elim hp
    | none, _ => rw [e1] at hp; exact False.elim hp
    | some _, none => rw [e1, e2] at hp; exact False.elim hp
  cases d with
  | r n => exact .inr (dat rfl)
  | v p =>
    cases p with
    | int a =>
      cases e with
      | r n => exact .inr (dat rfl)
      | v q =>
        cases q with
        | int b => exact .inl ⟨a, b, Is.inv_int hx, Is.inv_int hy, hp.val hR (.bl _)⟩
        | _ => exact .inr (dat rfl)
    | _ => exact .inr (dat rfl)
theorem de_lt (hK : X.K = g.K) (hu : X.A.units + 64 < cLine) (ha : PE X a (tE g W fa)) (hb : PE X b (tE g W fb)) : PE X (.Compare a [.Lt] [b] pos) (tE g W (bin ltD fa fb)) := de_cmp (op_lt.or (op_ltD hu)) (opd_lt hK) ha hb (nomark _)
theorem dt_lt (hK : X.K = g.K) (hu : X.A.units + 64 < cLine) (ha : PE X a (tE g W fa)) (hb : PE X b (tE g W fb)) : PT X (.Compare a [.Lt] [b] pos) (tT g W (tstD (bin ltD fa fb))) := dt_cmp (op_lt.or (op_ltD hu)) (opd_lt hK) ha hb (nomark _)

/-! ### in -/
def inD (neg : Bool) : D → D → M D := fun x y L => match dOf L x, dOf L y with
  | some a, some (.list bs) => if (okD a && okD (.list bs)) = true then some (.ok (.v (.bl (xor neg (bs.any fun z => PyData.eqv z a)))), L) else none
  | some a, some (.tuple bs) => if (okD a && okD (.list bs)) = true then some (.ok (.v (.bl (xor neg (bs.any fun z => PyData.eqv z a)))), L) else none
  | some (.str ⟨cs⟩), some (.str z) => if cs.size = 1 then some (.ok (.v (.bl (xor neg (decide (cs.getD 0 0 ∈ z.cps.toList))))), L) else none
  | _, _ => none
def rInD2 (K : PySem.W.Frag) (neg : Bool) : R2 := fun x y H Q => ∃ d ds, Dp K H x d ∧ (Dp K H y (.list ds) ∨ Dp K H y (.tuple ds)) ∧ SeqAt.shaped d = true ∧ SeqAt.shaped (.list ds) = true ∧ Q (.bl (xor neg (ds.any fun z => PyData.eqv z d))) H
theorem room_shp {A : Around} {d : PyData} {ds : List PyData} (h : SeqAt.shaped d = true) (hu : A.units + 65 < cLine) : A.units + 1 + min (PyData.depthAll ds) d.depth < cLine := by
  have h1 := SeqAt.depth_of_shaped h
  have h2 : min (PyData.depthAll ds) d.depth ≤ d.depth := Nat.min_le_right _ _
  omega
theorem op_in2 (hu : X.A.units + 65 < cLine) : OpR X (compareOp .In) (rInD2 X.K false) := by
  intro pins s σ H x y v u Q I rx ry h
  obtain ⟨d, ds, hd, he, sd, se, q⟩ := h
  obtain ⟨as, r1⟩ := Dp.reads I d x v hd rx
  rw [Bool.false_xor] at q
  rcases he with he | he
  · obtain ⟨bs, r2⟩ := Dp.reads I (.list ds) y u he ry
    exact SeqAt.in_list_reads r2 r1 (SeqAt.canLay_of_shaped se) (SeqAt.canLay_of_shaped sd) (room_shp sd hu) ⟨.bl _, H, I, rfl, q⟩
  · obtain ⟨bs, r2⟩ := Dp.reads I (.tuple ds) y u he ry
    exact SeqAt.in_tuple_reads r2 r1 (SeqAt.canLay_of_shaped se) (SeqAt.canLay_of_shaped sd) (room_shp sd hu) ⟨.bl _, H, I, rfl, q⟩
theorem op_nin2 (hu : X.A.units + 65 < cLine) : OpR X (compareOp .NotIn) (rInD2 X.K true) := by
  intro pins s σ H x y v u Q I rx ry h
  obtain ⟨d, ds, hd, he, sd, se, q⟩ := h
  obtain ⟨as, r1⟩ := Dp.reads I d x v hd rx
  rw [Bool.true_xor] at q
  rcases he with he | he
  · obtain ⟨bs, r2⟩ := Dp.reads I (.list ds) y u he ry
    exact SeqAt.notIn_list_reads r2 r1 (SeqAt.canLay_of_shaped se) (SeqAt.canLay_of_shaped sd) (room_shp sd hu) ⟨.bl _, H, I, rfl, q⟩
  · obtain ⟨bs, r2⟩ := Dp.reads I (.tuple ds) y u he ry
    exact SeqAt.notIn_tuple_reads r2 r1 (SeqAt.canLay_of_shaped se) (SeqAt.canLay_of_shaped sd) (room_shp sd hu) ⟨.bl _, H, I, rfl, q⟩
def rInS2 (neg : Bool) : R2 := fun x y H Q => ∃ (c : Nat) (z : Str), x = .str ⟨#[c]⟩ ∧ y = .str z ∧ Q (.bl (xor neg (decide (c ∈ z.cps.toList)))) H
theorem op_inS2 : OpR X (compareOp .In) (rInS2 false) := fun pins s σ H x y v u Q I rx ry ⟨c, z, e1, e2, q⟩ => op_in_sign pins s σ H x y v u Q I rx ry ⟨c, z, e1, e2, by rwa [Bool.false_xor] at q⟩
theorem op_ninS2 : OpR X (compareOp .NotIn) (rInS2 true) := fun pins s σ H x y v u Q I rx ry ⟨c, z, e1, e2, q⟩ => op_notIn_sign pins s σ H x y v u Q I rx ry ⟨c, z, e1, e2, by rwa [Bool.true_xor] at q⟩
theorem arr_one {cs : Array Nat} (h : cs.size = 1) : cs = #[cs.getD 0 0] := by
  obtain ⟨l⟩ := cs
  match l, h with
  | [a], _ => rfl
theorem dp_str {K : PySem.W.Frag} {H : Hp} {x : V} {z : Str} (h : Dp K H x (.str z)) : x = .str z := by cases h; rfl
theorem opd_in {K : PySem.W.Frag} {neg : Bool} (hK : K = g.K) : OpD g (inD neg) (fun x y H Q => rInD2 K neg x y H Q ∨ rInS2 neg x y H Q) := by
  subst hK
  intro F ρ L H x y d e W Q hR hx hy hp
  unfold inD at hp
  match e1 : dOf L d, e2 : dOf L e with
  | some p, some (.list bs) =>
    rw [e1, e2] at hp
    dsimp only at hp
    by_cases hk : (okD p && okD (.list bs)) = true
    · rw [if_pos hk] at hp
      rw [Bool.and_eq_true] at hk
      exact .inl ⟨p, bs, dOf_dp hR hx e1, .inl (dOf_dp hR hy e2), hk.1, hk.2, hp.val hR (.bl _)⟩
    · rw [if_neg hk] at hp
      exact False.elim hp
  | some p, some (.tuple bs) =>
    rw [e1, e2] at hp
    dsimp only at hp
    by_cases hk : (okD p && okD (.list bs)) = true
    · rw [if_pos hk] at hp
      rw [Bool.and_eq_true] at hk
      exact .inl ⟨p, bs, dOf_dp hR hx e1, .inr (dOf_dp hR hy e2), hk.1, hk.2, hp.val hR (.bl _)⟩
    · rw [if_neg hk] at hp
      exact False.elim hp
  | some (.str ⟨cs⟩), some (.str z) =>
    rw [e1, e2] at hp
    dsimp only at hp
    by_cases hk : cs.size = 1
    · rw [if_pos hk] at hp
      exact .inr ⟨cs.getD 0 0, z, (dp_str (dOf_dp hR hx e1)).trans (by rw [← arr_one hk]), dp_str (dOf_dp hR hy e2), hp.val hR (.bl _)⟩
    · rw [if_neg hk] at hp
      exact False.elim hp
  | none, _ => rw [e1] at hp; exact False.elim hp
  | some p, none => rw [e1, e2] at hp; cases p <;> exact False.elim hp
  | some p, some .none => rw [e1, e2] at hp; cases p <;> exact False.elim hp
  | some p, some (.bool _) => rw [e1, e2] at hp; cases p <;> exact False.elim hp
  | some p, some (.int _) => rw [e1, e2] at hp; cases p <;> exact False.elim hp
  | some p, some (.dict _) => rw [e1, e2] at hp; cases p <;> exact False.elim hp
  | some .none, some (.str z) => rw [e1, e2] at hp; exact False.elim hp
  | some (.bool _), some (.str z) => rw [e1, e2] at hp; exact False.elim hp
  | some (.int _), some (.str z) => rw [e1, e2] at hp; exact False.elim hp
  | some (.list _), some (.str z) => rw [e1, e2] at hp; exact False.elim hp
  | some (.tuple _), some (.str z) => rw [e1, e2] at hp; exact False.elim hp
  | some (.dict _), some (.str z) => rw [e1, e2] at hp; exact False.elim hp
theorem de_in (hK : X.K = g.K) (hu : X.A.units + 65 < cLine) (hm : behindInMarks .In b = false) (ha : PE X a (tE g W fa)) (hb : PE X b (tE g W fb)) : PE X (.Compare a [.In] [b] pos) (tE g W (bin (inD false) fa fb)) := de_cmp ((op_in2 hu).or op_inS2) (opd_in hK) ha hb hm
theorem de_nin (hK : X.K = g.K) (hu : X.A.units + 65 < cLine) (hm : behindInMarks .NotIn b = false) (ha : PE X a (tE g W fa)) (hb : PE X b (tE g W fb)) : PE X (.Compare a [.NotIn] [b] pos) (tE g W (bin (inD true) fa fb)) := de_cmp ((op_nin2 hu).or op_ninS2) (opd_in hK) ha hb hm
theorem dt_in (hK : X.K = g.K) (hu : X.A.units + 65 < cLine) (hm : behindInMarks .In b = false) (ha : PE X a (tE g W fa)) (hb : PE X b (tE g W fb)) : PT X (.Compare a [.In] [b] pos) (tT g W (tstD (bin (inD false) fa fb))) := dt_cmp ((op_in2 hu).or op_inS2) (opd_in hK) ha hb hm
theorem dt_nin (hK : X.K = g.K) (hu : X.A.units + 65 < cLine) (hm : behindInMarks .NotIn b = false) (ha : PE X a (tE g W fa)) (hb : PE X b (tE g W fb)) : PT X (.Compare a [.NotIn] [b] pos) (tT g W (tstD (bin (inD true) fa fb))) := dt_cmp ((op_nin2 hu).or op_ninS2) (opd_in hK) ha hb hm

/-! ### is None -/
def isNon : D → Bool
  | .v .non => true
  | _ => false
def isN (neg : Bool) : D → D → M D := fun x y L => match y with
  | .v .non => some (.ok (.v (.bl (xor neg (isNon x)))), L)
  | _ => none
theorem Is.ne_non {F : Hp} {v : V} {p : P} (h : Is g F v p) (hp : p ≠ .non) : v ≠ .non := by
  cases h <;> first | exact absurd rfl hp | (intro z; cases z)
theorem isN_dec {F : Hp} {ρ : Nat → Addr} {n : Nat} {x : V} {d : D} (hx : IsD g F ρ n x d) : decide (x = .non) = isNon d := by
  cases d with
  | r n =>
    rw [hx.2]
    rfl
  | v p =>
    by_cases z : p = .non
    · subst z
      rw [Is.inv_non hx]
      rfl
    · rw [decide_eq_false (Is.ne_non hx z)]
      cases p <;> first | rfl | exact absurd rfl z
theorem opd_isN : OpD g (isN false) (fun x y H Q => y = .non ∧ Q (.bl (decide (x = .non))) H) := by
  intro F ρ L H x y d e W Q hR hx hy hp
  unfold isN at hp
  match e, hy, hp with
  | .v .non, hy, hp =>
    refine ⟨Is.inv_non hy, ?_⟩
    rw [isN_dec hx]
    have q := hp.val hR (.bl _)
    rwa [Bool.false_xor] at q
theorem opd_notN : OpD g (isN true) (fun x y H Q => y = .non ∧ Q (.bl (!decide (x = .non))) H) := by
  intro F ρ L H x y d e W Q hR hx hy hp
  unfold isN at hp
  match e, hy, hp with
  | .v .non, hy, hp =>
    refine ⟨Is.inv_non hy, ?_⟩
    rw [isN_dec hx]
    have q := hp.val hR (.bl _)
    rwa [Bool.true_xor] at q
theorem de_is (ha : PE X a (tE g W fa)) (hb : PE X b (tE g W fb)) : PE X (.Compare a [.Is] [b] pos) (tE g W (bin (isN false) fa fb)) := de_cmp op_isN opd_isN ha hb (nomark _)
theorem de_isnt (ha : PE X a (tE g W fa)) (hb : PE X b (tE g W fb)) : PE X (.Compare a [.IsNot] [b] pos) (tE g W (bin (isN true) fa fb)) := de_cmp op_notN opd_notN ha hb (nomark _)
theorem dt_is (ha : PE X a (tE g W fa)) (hb : PE X b (tE g W fb)) : PT X (.Compare a [.Is] [b] pos) (tT g W (tstD (bin (isN false) fa fb))) := dt_cmp op_isN opd_isN ha hb (nomark _)
theorem dt_isnt (ha : PE X a (tE g W fa)) (hb : PE X b (tE g W fb)) : PT X (.Compare a [.IsNot] [b] pos) (tT g W (tstD (bin (isN true) fa fb))) := dt_cmp op_notN opd_notN ha hb (nomark _)
end
end DN

end
section
set_option Elab.async false
set_option linter.all false
set_option maxRecDepth 100000
set_option maxHeartbeats 4000000
/-! D4: and, or, not, if-else; chains; subscripts; slices; arguments, displays; truth; built-ins by name. -/
namespace DN
open PySem L2
section
variable {X : Cx} {g : G} {W : WX} {a b c e : Expr} {fa fb fc f : Tau → M D} {ta tb : Tau → M Bool} {pos : Pos} {rest : List Expr}
/-! ### and, or, not as tests -/
theorem Sat.bindB {β δ : Type} {rb : Hp → (Nat → Addr) → Nat → δ → β → Prop} {ctx : List (V × D)} {k : Tau → Bool → M β} {σ : St} {H : Hp} {Q : δ → Hp → Prop}
    (h : Sat g rb W ctx (fun τ => ta τ >>= k τ) σ H Q) : tT g W ta σ H fun b H1 => Sat g rb W ctx (fun τ => k τ b) σ H1 Q := by
  obtain ⟨F, ρ, τ, L, hR, hS, hc, hp⟩ := Sat.bind (ra := relB) h
  refine ⟨F, ρ, τ, L, hR, hS, hc, ?_⟩
  refine hp.mono fun b H1 ⟨F2, ρ2, τ2, L2, d2, a1, a2, a3, a4, a5⟩ => ?_
  subst a4
  exact ⟨F2, ρ2, τ2, L2, a1, a2, a3, a5⟩
def andB (ta tb : Tau → M Bool) (τ : Tau) : M Bool := do
  let b ← ta τ
  if b then tb τ else pure false
def orB (ta tb : Tau → M Bool) (τ : Tau) : M Bool := do
  let b ← ta τ
  if b then pure true else tb τ
def notB (ta : Tau → M Bool) (τ : Tau) : M Bool := do
  let b ← ta τ
  pure (!b)
theorem Sat.retB {ctx : List (V × D)} {σ : St} {H : Hp} {Q : Bool → Hp → Prop} {b : Bool} (h : Sat g relB W ctx (fun _ => pure b) σ H Q) : Q b H := by
  obtain ⟨F, ρ, τ, L, hR, hS, hc, hp⟩ := h
  exact hp F ρ b H Ext.refl hR rfl
theorem dw_and1 (ha : PT X a (tT g W ta)) : PW X (.BoolOp .And [a] pos) (tT g W ta) := pw_and1 ha
theorem dw_or1 (ha : PT X a (tT g W ta)) : PW X (.BoolOp .Or [a] pos) (tT g W ta) := pw_or1 ha
theorem PW.weak {t t' : TT} (h : PW X e t) (w : ∀ σ H Q, t' σ H Q → t σ H Q) : PW X e t' := ⟨fun wh pins s σ H Q I q => h.run wh pins s σ H Q I (w σ H Q q)⟩
theorem dw_and (ha : PT X a (tT g W ta)) (hb : PW X (.BoolOp .And (b :: rest) pos) (tT g W tb)) : PW X (.BoolOp .And (a :: b :: rest) pos) (tT g W (andB ta tb)) := by
  refine PW.weak (pw_and ha hb) fun σ H Q h => (Sat.bindB h).mono fun b H1 h1 => ?_
  cases b with
  | true => exact h1
  | false => exact Sat.retB h1
theorem dw_or (ha : PT X a (tT g W ta)) (hb : PW X (.BoolOp .Or (b :: rest) pos) (tT g W tb)) : PW X (.BoolOp .Or (a :: b :: rest) pos) (tT g W (orB ta tb)) := by
  refine PW.weak (pw_or ha hb) fun σ H Q h => (Sat.bindB h).mono fun b H1 h1 => ?_
  cases b with
  | true => exact Sat.retB h1
  | false => exact h1
theorem dt_not (ha : PT X a (tT g W ta)) : PT X (.UnaryOp .Not a pos) (tT g W (notB ta)) := by
  refine PT.weak (pt_not ha) fun σ H Q h => (Sat.bindB h).mono fun b H1 h1 => ?_
  exact Sat.retB h1
/-- .. as values of True, False -/
def valB (ta : Tau → M Bool) (τ : Tau) : M D := do
  let b ← ta τ
  pure (.v (.bl b))
theorem Sat.bindVal {β δ : Type} {rb : Hp → (Nat → Addr) → Nat → δ → β → Prop} {ctx : List (V × D)} {k : Tau → Bool → M β} {σ : St} {H : Hp} {Q : δ → Hp → Prop}
    (h : Sat g rb W ctx (fun τ => ta τ >>= k τ) σ H Q) : tE g W (valB ta) σ H fun x H1 => ∃ c, x = .bl c ∧ Sat g rb W ctx (fun τ => k τ c) σ H1 Q := by
  obtain ⟨F, ρ, τ, L, hR, hS, hc, hp⟩ := Sat.bind (ra := relB) h
  refine ⟨F, ρ, τ, L, hR, hS, hc, ?_⟩
  show Post g (relV g) F ρ L.length _ _ (M.bnd (ta τ) (fun b => M.ret (D.v (P.bl b))) L)
  unfold M.bnd M.ret
  match e : ta τ L with
  | none => rw [e] at hp; exact hp
  | some (.ex c fs, L1) => rw [e] at hp; exact hp
  | some (.ok d, L1) =>
    rw [e] at hp
    intro F1 ρ1 x H1 x1 x2 x3
    obtain ⟨F2, ρ2, τ2, L2, d2, a1, a2, a3, a4, a5⟩ := hp F1 ρ1 d H1 x1 x2 rfl
    subst a4
    exact ⟨d, Is.inv_bl x3, F2, ρ2, τ2, L2, a1, a2, a3, a5⟩
theorem de_one {op} (h : PE X a (tE g W f)) : PE X (.BoolOp op [a] pos) (tE g W f) := pe_one h
def andV (ta : Tau → M Bool) (fb : Tau → M D) (τ : Tau) : M D := do
  let b ← ta τ
  if b then fb τ else pure (.v (.bl false))
def orV (ta : Tau → M Bool) (fb : Tau → M D) (τ : Tau) : M D := do
  let b ← ta τ
  if b then pure (.v (.bl true)) else fb τ
def notV (ta : Tau → M Bool) (τ : Tau) : M D := do
  let b ← ta τ
  pure (.v (.bl (!b)))
theorem Sat.retV {ctx : List (V × D)} {σ : St} {H : Hp} {Q : V → Hp → Prop} {b : Bool} (h : Sat g (relV g) W ctx (fun _ => pure (D.v (.bl b))) σ H Q) : Q (.bl b) H := by
  obtain ⟨F, ρ, τ, L, hR, hS, hc, hp⟩ := h
  exact hp F ρ _ H Ext.refl hR (Is.bl b)
/-- an expression that gives True or False only: the value of its test -/
theorem tE_tst {σ : St} {H : Hp} {Q : VK} (h : tE g W (valB (tstD f)) σ H Q) : tE g W f σ H Q := by
  have h0 : Sat g (relV g) W [] (fun τ => f τ >>= fun d => asB d >>= fun b => pure (.v (.bl b))) σ H Q := by
    obtain ⟨F, ρ, τ, L, hR, hS, hc, hp⟩ := h
    refine ⟨F, ρ, τ, L, hR, hS, hc, ?_⟩
    have e : (valB (tstD f) τ : M D) L = (f τ >>= fun d => asB d >>= fun b => (pure (D.v (.bl b)) : M D)) L := by
      show M.bnd (M.bnd (f τ) asB) _ L = M.bnd (f τ) _ L
      unfold M.bnd
      match e : f τ L with
      | none => rfl
      | some (.ex c fs, L1) => rfl
      | some (.ok d, L1) => rfl
    exact Eq.mp (congrArg (fun o => Post g (relV g) F ρ L.length (fun c d H' => W c d σ H') Q o) e) hp
  refine (Sat.bindV h0).mono fun x H1 h1 => ?_
  obtain ⟨d, F, ρ, τ, L, hR, hS, hc, hp⟩ := h1
  have hx := hc (x, d) (by simp)
  match d, hx, hp with
  | .v (.bl b), hx, hp =>
    have e : x = .bl b := Is.inv_bl hx
    subst e
    exact hp F ρ _ H1 Ext.refl hR (Is.bl b)
theorem de_and (ha : PE X a (tE g W fa)) (hb : PE X (.BoolOp .And (b :: rest) pos) (tE g W fb)) : PE X (.BoolOp .And (a :: b :: rest) pos) (tE g W (andV (tstD fa) fb)) := by
  refine PE.weak (pe_and ha hb) fun σ H Q h => tE_tst ((Sat.bindVal h).mono fun x H1 h1 => ?_)
  obtain ⟨c, rfl, h1⟩ := h1
  refine ⟨c, rfl, ?_⟩
  cases c with
  | true => exact h1
  | false => exact Sat.retV h1
theorem de_or (ha : PE X a (tE g W fa)) (hb : PE X (.BoolOp .Or (b :: rest) pos) (tE g W fb)) : PE X (.BoolOp .Or (a :: b :: rest) pos) (tE g W (orV (tstD fa) fb)) := by
  refine PE.weak (pe_or ha hb) fun σ H Q h => tE_tst ((Sat.bindVal h).mono fun x H1 h1 => ?_)
  obtain ⟨c, rfl, h1⟩ := h1
  refine ⟨c, rfl, ?_⟩
  cases c with
  | true => exact Sat.retV h1
  | false => exact h1
theorem de_not (ha : PE X a (tE g W fa)) : PE X (.UnaryOp .Not a pos) (tE g W (notV (tstD fa))) := by
  refine PE.weak (pe_not ha) fun σ H Q h => tE_tst ((Sat.bindVal h).mono fun x H1 h1 => ?_)
  obtain ⟨c, rfl, h1⟩ := h1
  exact ⟨c, rfl, Sat.retV h1⟩
def ifE (t : Tau → M Bool) (fa fb : Tau → M D) (τ : Tau) : M D := do
  let b ← t τ
  if b then fa τ else fb τ
theorem de_if (hc : PT X c (tT g W ta)) (ha : PE X a (tE g W fa)) (hb : PE X b (tE g W fb)) : PE X (.IfExp c a b pos) (tE g W (ifE ta fa fb)) := by
  refine PE.weak (pe_ifExp hc ha hb) fun σ H Q h => (Sat.bindB h).mono fun b H1 h1 => ?_
  cases b with
  | true => exact h1
  | false => exact h1
/-! ### a < b < c -/
def chn (o1 o2 : D → D → M D) (fa fb fc : Tau → M D) (τ : Tau) : M D := do
  let x ← fa τ
  let y ← fb τ
  let z ← o1 x y
  let k ← asB z
  if k then (do let w ← fc τ; o2 y w) else pure (.v (.bl false))
theorem chn_sat {r r' : R2} {o1 o2 : D → D → M D} (h1 : OpD g o1 r) (h2 : OpD g o2 r') {σ : St} {H : Hp} {Q : VK} (h : tE g W (chn o1 o2 fa fb fc) σ H Q) : tChain r r' (tE g W fa) (tE g W fb) (tE g W fc) σ H Q := by
  refine (Sat.bindV h).mono fun x H1 q1 => ?_
  obtain ⟨d, q1⟩ := q1
  refine (Sat.bindV q1).mono fun y H2 q2 => ?_
  obtain ⟨e, F, ρ, τ, L, hR, hS, hc, hp⟩ := q2
  have hx := hc (x, d) (by simp)
  have hy := hc (y, e) (by simp)
  refine h1 F ρ L H2 x y d e (fun c d H' => W c d σ H') _ hR hx hy (Post.bnd (ra := relV g) hp fun z L1 F1 ρ1 v H3 ez x1 hR1 hz hp1 => ?_)
  have hy1 := hy.ext x1
  have hS1 := hS.ext x1
  match z, hz, hp1 with
  | .v (.bl k), hz, hp1 =>
    refine ⟨k, Is.inv_bl hz, ?_⟩
    cases k with
    | false =>
      rw [if_neg Bool.false_ne_true]
      exact hp1 F1 ρ1 _ H3 Ext.refl hR1 (Is.bl false)
    | true =>
      rw [if_pos rfl]
      have q3 : Sat g (relV g) W [(y, e)] (fun τ => fc τ >>= o2 e) σ H3 Q := ⟨F1, ρ1, τ, L1, hR1, hS1, fun p hp => by rw [List.mem_singleton.mp hp]; exact hy1, hp1⟩
      refine (Sat.bindV q3).mono fun w H4 q4 => ?_
      obtain ⟨dw, F2, ρ2, τ2, L2, hR2, hS2, hc2, hp2⟩ := q4
      exact h2 F2 ρ2 L2 H4 y w e dw _ _ hR2 (hc2 (y, e) (by simp)) (hc2 (w, dw) (by simp)) hp2
theorem de_chain {op op' : CmpOp} {r r' : R2} {o1 o2 : D → D → M D} (ho : OpR X (compareOp op) r) (ho' : OpR X (compareOp op') r') (h1 : OpD g o1 r) (h2 : OpD g o2 r') (ha : PE X a (tE g W fa)) (hb : PE X b (tE g W fb)) (hc : PE X c (tE g W fc))
    (hm : lastMarks [op, op'] [b, c] = false := by with_unfolding_all rfl) : PE X (.Compare a [op, op'] [b, c] pos) (tE g W (chn o1 o2 fa fb fc)) :=
  PE.weak (pe_chain ho ho' ha hb hc hm) fun σ H Q h => chn_sat h1 h2 h
theorem dt_chain {op op' : CmpOp} {r r' : R2} {o1 o2 : D → D → M D} (ho : OpR X (compareOp op) r) (ho' : OpR X (compareOp op') r') (h1 : OpD g o1 r) (h2 : OpD g o2 r') (ha : PE X a (tE g W fa)) (hb : PE X b (tE g W fb)) (hc : PE X c (tE g W fc))
    (hm : lastMarks [op, op'] [b, c] = false := by with_unfolding_all rfl) : PT X (.Compare a [op, op'] [b, c] pos) (tT g W (tstD (chn o1 o2 fa fb fc))) :=
  PT.weak (pt_chain ho ho' ha hb hc hm) fun σ H Q h => chn_sat h1 h2 (tst_of h)

/-! ### subscripts -/
def ixD : D → D → M D := fun x y L => match y with
  | .v (.int i) => match x with
    | .v (.tup xs) => (atI xs i).map fun p => (.ok (.v p), L)
    | .v (.str z) => if z.length ≤ sizeLine then (atI z.cps.toList i).map fun c => (.ok (.v (.str ⟨#[c]⟩)), L) else none
    | x => (asL L x).bind fun xs => (atI xs i).map fun p => (.ok (.v p), L)
  | _ => none
theorem atI_is {F : Hp} {vs : List V} {ps : List P} {i : Int} {p : P} (h : IsA g F vs ps) (e : atI ps i = some p) : ∃ v, atI vs i = some v ∧ Is g F v p := by
  unfold atI at e ⊢
  rw [h.len]
  cases q : ixN ps.length i with
  | none => rw [q] at e; cases e
  | some j =>
    rw [q] at e
    exact h.get e
theorem opd_ix {K : PySem.W.Frag} (hK : K = g.K) : OpD g ixD (rIx K) := by
  subst hK
  intro F ρ L H x y d e W Q hR hx hy hp
  unfold ixD at hp
  match e, hy, hp with
  | .v (.int i), hy, hp =>
    have ey := Is.inv_int hy
    have lists : Post g (relV g) F ρ L.length W Q ((asL L d).bind fun xs => (atI xs i).map fun p => (Res.ok (D.v p), L)) → rIxL g.K x y H Q := fun hp => by
      match e1 : asL L d with
      | none => rw [e1] at hp; exact False.elim hp
      | some xs =>
        rw [e1] at hp
        dsimp only [Option.bind] at hp
        match e2 : atI xs i with
        | none => rw [e2] at hp; exact False.elim hp
        | some p =>
          rw [e2] at hp
          obtain ⟨a, vs, h1, h2, h3⟩ := asL_sq hR hx e1
          obtain ⟨v, h4, h5⟩ := atI_is h3 e2
          exact ⟨a, vs, i, v, h1, ey, h2, h4, hp.val hR h5⟩
    cases d with
    | r n => exact .inl (lists hp)
    | v q =>
      cases q with
      | tup xs =>
        dsimp only at hp
        match e2 : atI xs i with
        | none => rw [e2] at hp; exact False.elim hp
        | some p =>
          rw [e2] at hp
          obtain ⟨a, vs, h1, h2, h3⟩ := Is.inv_tup hx
          obtain ⟨v, h4, h5⟩ := atI_is h3 e2
          exact .inr (.inl ⟨a, vs, i, v, h1, ey, hR.sub.sqT h2, h4, hp.val hR h5⟩)
      | str z =>
        dsimp only at hp
        by_cases hz : z.length ≤ sizeLine
        · rw [if_pos hz] at hp
          match e2 : atI z.cps.toList i with
          | none => rw [e2] at hp; exact False.elim hp
          | some c =>
            rw [e2] at hp
            exact .inr (.inr ⟨z, i, c, Is.inv_str hx, ey, hz, e2, hp.val hR (.str _)⟩)
        · rw [if_neg hz] at hp
          exact False.elim hp
      | _ => exact .inl (lists hp)
theorem de_ix (hK : X.K = g.K) (ha : PE X a (tE g W fa)) (hb : PE X b (tE g W fb)) (hs : PlainIx b) : PE X (.Subscript a b pos) (tE g W (bin ixD fa fb)) := by
  refine PE.weak (pe_ix ix_seq ha hb hs) fun σ H Q h => ?_
  refine (Sat.bindV h).mono fun x H1 h1 => ?_
  obtain ⟨d, h1⟩ := h1
  refine (Sat.bindV h1).mono fun y H2 h2 => ?_
  obtain ⟨e, F, ρ, τ, L, hR, hS, hc, hp⟩ := h2
  exact opd_ix hK F ρ L H2 x y d e _ Q hR (hc (x, d) (by simp)) (hc (y, e) (by simp)) hp
/-! ### slices -/
abbrev relO (_ : Hp) (_ : Nat → Addr) (_ : Nat) (b : Option Int) (c : Option Int) : Prop := b = c
def tO (g : G) (W : WX) (f : Tau → M (Option Int)) : TO := fun σ H Q => Sat g relO W [] f σ H Q
def noP (_ : Tau) : M (Option Int) := pure none
def asI : D → M (Option Int) := fun x L => match x with
  | .v (.int i) => some (.ok (some i), L)
  | .v .non => some (.ok none, L)
  | _ => none
def asJ : D → M (Option Int) := fun x L => match x with
  | .v (.int i) => some (.ok (some i), L)
  | _ => none
def part (f : Tau → M D) (τ : Tau) : M (Option Int) := f τ >>= asJ
theorem PO.weak {o : Option Expr} {t t' : TO} (h : PO X o t) (w : ∀ σ H Q, t' σ H Q → t σ H Q) : PO X o t' := ⟨fun pins s σ H Q I q => h.run pins s σ H Q I (w σ H Q q)⟩
theorem do_none : PO X none (tO g W noP) := PO.weak po_none fun σ H Q h => by
  obtain ⟨F, ρ, τ, L, hR, hS, hc, hp⟩ := h
  exact hp F ρ none H Ext.refl hR rfl
theorem do_some (h : PE X e (tE g W f)) : PO X (some e) (tO g W (part f)) := PO.weak (po_some h) fun σ H Q q => by
  refine (Sat.bindV q).mono fun x H1 h1 => ?_
  obtain ⟨d, F, ρ, τ, L, hR, hS, hc, hp⟩ := h1
  have hx := hc (x, d) (by simp)
  match d, hx, hp with
  | .v (.int i), hx, hp => exact ⟨i, Is.inv_int hx, hp F ρ (some i) H1 Ext.refl hR rfl⟩
def cutL {α : Type} (xs : List α) (lo hi : Option Int) : List α := (xs.drop (HT.sIx xs.length 0 lo)).take (HT.sIx xs.length xs.length hi - HT.sIx xs.length 0 lo)
def slD (x : D) (lo hi : Option Int) : M D := fun L => match x with
  | .v (.tup xs) => some (.ok (.v (.tup (cutL xs lo hi))), L)
  | .v (.str z) => if z.length ≤ sizeLine then some (.ok (.v (.str (cutS z lo hi))), L) else none
  | x => (asL L x).map fun xs => (.ok (.v (.lst (cutL xs lo hi))), L)
def slice (fa : Tau → M D) (fl fh : Tau → M (Option Int)) (τ : Tau) : M D := do
  let x ← fa τ
  let lo ← fl τ
  let hi ← fh τ
  slD x lo hi
theorem cutL_is {F : Hp} {vs : List V} {ps : List P} (h : IsA g F vs ps) (lo hi : Option Int) : IsA g F (cutV vs lo hi) (cutL ps lo hi) := by
  unfold cutV cutL
  rw [h.len]
  exact (h.drop _).take _
theorem cutL_all {α : Type} (xs : List α) {lo hi : Option Int} (h : HT.sIx xs.length 0 lo = 0 ∧ HT.sIx xs.length xs.length hi = xs.length) : cutL xs lo hi = xs := by
  unfold cutL
  rw [h.1, h.2]
  simp
def rSl2 (K : PySem.W.Frag) : V → Option Int → Option Int → Hp → VK → Prop := fun x lo hi H Q => rSlL K x lo hi H Q ∨ rSlA K x lo hi H Q ∨ rSlS x lo hi H Q
theorem sl_2 : SlR X (rSl2 X.K) := sl_list.or (sl_tupA.or sl_str)
theorem sld_ok {F : Hp} {ρ : Nat → Addr} {L : List MO} {H : Hp} {x : V} {d : D} {lo hi : Option Int} {W : Value → Option Addr → Hp → Prop} {Q : VK} (hR : R g F ρ L H) (hx : IsD g F ρ L.length x d) (hp : Post g (relV g) F ρ L.length W Q (slD d lo hi L)) : rSl2 g.K x lo hi H Q := by
  unfold slD at hp
  have lists : Post g (relV g) F ρ L.length W Q ((asL L d).map fun xs => (Res.ok (D.v (.lst (cutL xs lo hi))), L)) → rSlL g.K x lo hi H Q := fun hp => by
    match e1 : asL L d with
    | none => rw [e1] at hp; exact False.elim hp
    | some xs =>
      rw [e1] at hp
      obtain ⟨a, vs, h1, h2, h3⟩ := asL_sq hR hx e1
      exact ⟨a, vs, h1, h2, fun p hp' => hp.lst hR (cutL_is h3 lo hi) hp'⟩
  cases d with
  | r n => exact .inl (lists hp)
  | v q =>
    cases q with
    | tup xs =>
      obtain ⟨a, vs, h1, h2, h3⟩ := Is.inv_tup hx
      refine .inr (.inl ⟨a, vs, h1, hR.sub.sqT h2, fun z => ?_, fun _ p hp' => hp.tup hR (cutL_is h3 lo hi) hp'⟩)
      rw [h3.len] at z
      dsimp only at hp
      rw [cutL_all xs z] at hp
      rw [← h1]
      exact hp.val hR hx
    | str z =>
      dsimp only at hp
      by_cases hz : z.length ≤ sizeLine
      · rw [if_pos hz] at hp
        exact .inr (.inr ⟨z, Is.inv_str hx, hz, hp.val hR (.str _)⟩)
      · rw [if_neg hz] at hp
        exact False.elim hp
    | _ => exact .inl (lists hp)
theorem de_slice {lo hi : Option Expr} {fl fh : Tau → M (Option Int)} {p2 : Pos} (hK : X.K = g.K) (he : PE X e (tE g W f)) (hl : PO X lo (tO g W fl)) (hh : PO X hi (tO g W fh)) : PE X (.Subscript e (.Slice lo hi none p2) pos) (tE g W (slice f fl fh)) := by
  refine PE.weak (pe_slice sl_2 he hl hh) fun σ H Q h => ?_
  refine (Sat.bindV h).mono fun x H1 h1 => ?_
  obtain ⟨d, h1⟩ := h1
  refine (Sat.bind (ra := relO) h1).mono fun l H2 h2 => ?_
  obtain ⟨F, ρ, τ, L, l', hR, hS, hc, rfl, hp⟩ := h2
  have h3 : Sat g (relV g) W [(x, d)] (fun τ => fh τ >>= slD d l) σ H2 Q := ⟨F, ρ, τ, L, hR, hS, hc, hp⟩
  refine (Sat.bind (ra := relO) h3).mono fun u H3 h4 => ?_
  obtain ⟨F, ρ, τ, L, u', hR, hS, hc, rfl, hp⟩ := h4
  rw [hK]
  exact sld_ok hR (hc (x, d) (by simp)) hp
end
end DN

end
section
set_option Elab.async false
set_option linter.all false
set_option maxRecDepth 100000
set_option maxHeartbeats 4000000
/-! D5: statements; arguments, displays, built-ins by name, methods of lists. -/
namespace DN
open PySem L2
inductive Out where
  | nx (τ : Tau) | rt (d : D) | bk (τ : Tau) | ct (τ : Tau) | ex (τ : Tau) (c : Nat) (fs : List P)
abbrev SX := Tau → List MO → Option (Out × List MO)
/-- the end of a statement's run -/
def PostS (g : G) (F : Hp) (ρ : Nat → Addr) (n : Nat) (W : WX) (D : Ends) : Option (Out × List MO) → Prop
  | none => False
  | some (.nx τ, L) => ∀ F' ρ' H' σ', Ext F ρ n F' ρ' L.length → R g F' ρ' L H' → Sl g F' ρ' L.length σ' τ → D.nx σ' H'
  | some (.rt d, L) => ∀ F' ρ' H' v, Ext F ρ n F' ρ' L.length → R g F' ρ' L H' → IsD g F' ρ' L.length v d → D.rt v H'
  | some (.bk τ, L) => ∀ F' ρ' H' σ', Ext F ρ n F' ρ' L.length → R g F' ρ' L H' → Sl g F' ρ' L.length σ' τ → D.bk σ' H'
  | some (.ct τ, L) => ∀ F' ρ' H' σ', Ext F ρ n F' ρ' L.length → R g F' ρ' L H' → Sl g F' ρ' L.length σ' τ → D.ct σ' H'
  | some (.ex τ c fs, L) => ∀ F' ρ' dx vs H' σ', Ext F ρ n F' ρ' L.length → R g F' ρ' L H' → Sl g F' ρ' L.length σ' τ → F' dx = some (.xd (((flT c).map nmT).zip vs)) → vs.length = (flT c).length → IsA g F' vs fs →
      W (.ref (g.cl c)) (some dx) σ' H'
theorem PostS.ext {g : G} {F F1 : Hp} {ρ ρ1 : Nat → Addr} {n n1 : Nat} {W : WX} {D : Ends} {o : Option (Out × List MO)} (e : Ext F ρ n F1 ρ1 n1) (h : PostS g F ρ n W D o) : PostS g F1 ρ1 n1 W D o := by
  match o, h with
  | some (.nx τ, L), h => exact fun F' ρ' H' σ' x => h F' ρ' H' σ' (e.trans x)
  | some (.rt d, L), h => exact fun F' ρ' H' v x => h F' ρ' H' v (e.trans x)
  | some (.bk τ, L), h => exact fun F' ρ' H' σ' x => h F' ρ' H' σ' (e.trans x)
  | some (.ct τ, L), h => exact fun F' ρ' H' σ' x => h F' ρ' H' σ' (e.trans x)
  | some (.ex τ c fs, L), h => exact fun F' ρ' dx vs H' σ' x => h F' ρ' dx vs H' σ' (e.trans x)
def SatS (g : G) (W : WX) (ctx : List (V × D)) (f : SX) (E : Ends) (σ : St) (H : Hp) : Prop :=
  ∃ F ρ τ L, R g F ρ L H ∧ Sl g F ρ L.length σ τ ∧ (∀ x ∈ ctx, IsD g F ρ L.length x.1 x.2) ∧ PostS g F ρ L.length W E (f τ L)
def tS (g : G) (W : WX) (f : SX) : TS := fun D σ H => SatS g W [] f D σ H
/-- an expression, then what is done with its value -/
def eThen {α : Type} (m : Tau → M α) (k : α → SX) : SX := fun τ L => match m τ L with
  | none => none
  | some (.ok a, L1) => k a τ L1
  | some (.ex c fs, L1) => some (.ex τ c fs, L1)
theorem SatS.bind {α γ : Type} {g : G} {ra : Hp → (Nat → Addr) → Nat → γ → α → Prop} {W : WX} {ctx : List (V × D)} {m : Tau → M α} {k : α → SX} {E : Ends} {σ : St} {H : Hp} (h : SatS g W ctx (eThen m k) E σ H) :
    Sat g ra W [] m σ H fun x H1 => ∃ F ρ τ L d, R g F ρ L H1 ∧ Sl g F ρ L.length σ τ ∧ (∀ y ∈ ctx, IsD g F ρ L.length y.1 y.2) ∧ ra F ρ L.length x d ∧ PostS g F ρ L.length W E (k d τ L) := by
  obtain ⟨F, ρ, τ, L, hR, hS, hc, hp⟩ := h
  refine ⟨F, ρ, τ, L, hR, hS, (fun y hy => by cases hy), ?_⟩
  unfold eThen at hp
  match e : m τ L with
  | none =>
    rw [e] at hp
    exact hp
  | some (.ex c fs, L1) =>
    rw [e] at hp
    exact fun F' ρ' dx vs H' x1 x2 x3 x4 x5 => hp F' ρ' dx vs H' σ x1 x2 (hS.ext x1) x3 x4 x5
  | some (.ok d, L1) =>
    rw [e] at hp
    intro F1 ρ1 x H1 he hR1 hx
    exact ⟨F1, ρ1, τ, L1, d, hR1, hS.ext he, fun y hy => (hc y hy).ext he, hx, hp.ext he⟩
theorem SatS.bindV {g : G} {W : WX} {ctx : List (V × D)} {m : Tau → M D} {k : D → SX} {E : Ends} {σ : St} {H : Hp} (h : SatS g W ctx (eThen m k) E σ H) :
    tE g W m σ H fun x H1 => ∃ d, SatS g W ((x, d) :: ctx) (k d) E σ H1 := by
  refine (SatS.bind (ra := relV g) h).mono fun x H1 ⟨F, ρ, τ, L, d, a1, a2, a3, a4, a5⟩ => ⟨d, F, ρ, τ, L, a1, a2, fun y hy => ?_, a5⟩
  rcases List.mem_cons.mp hy with z | z
  · rw [z]; exact a4
  · exact a3 y z
theorem SatS.bindB {g : G} {W : WX} {ctx : List (V × D)} {m : Tau → M Bool} {k : Bool → SX} {E : Ends} {σ : St} {H : Hp} (h : SatS g W ctx (eThen m k) E σ H) :
    tT g W m σ H fun b H1 => SatS g W ctx (k b) E σ H1 := by
  refine (SatS.bind (ra := relB) h).mono fun x H1 ⟨F, ρ, τ, L, d, a1, a2, a3, a4, a5⟩ => ?_
  subst a4
  exact ⟨F, ρ, τ, L, a1, a2, a3, a5⟩
theorem Sl.set {g : G} {F : Hp} {ρ : Nat → Addr} {n : Nat} {σ : St} {τ : Tau} (h : Sl g F ρ n σ τ) {v : V} {d : D} (hv : IsD g F ρ n v d) (i : Nat) : Sl g F ρ n (σ.set i (some v)) (τ.set i (some d)) := by
  refine ⟨by rw [List.length_set, List.length_set]; exact h.1, fun j e q => ?_⟩
  by_cases hj : i = j
  · subst hj
    by_cases hl : i < τ.length
    · rw [List.getElem?_set_self hl] at q
      cases q
      exact ⟨v, List.getElem?_set_self (by rw [← h.1]; exact hl), hv⟩
    · rw [List.getElem?_eq_none (by rw [List.length_set]; omega)] at q
      cases q
  · rw [List.getElem?_set_ne hj] at q ⊢
    exact h.2 j e q
def killT : List Nat → Tau → Tau
  | [], τ => τ
  | i :: is, τ => killT is (τ.set i none)
theorem Sl.unset {g : G} {F : Hp} {ρ : Nat → Addr} {n : Nat} {σ : St} {τ : Tau} (h : Sl g F ρ n σ τ) (i : Nat) : Sl g F ρ n σ (τ.set i none) := by
  refine ⟨by rw [List.length_set]; exact h.1, fun j e q => ?_⟩
  by_cases hj : i = j
  · subst hj
    by_cases hl : i < τ.length
    · rw [List.getElem?_set_self hl] at q
      cases q
    · rw [List.getElem?_eq_none (by rw [List.length_set]; omega)] at q
      cases q
  · rw [List.getElem?_set_ne hj] at q
    exact h.2 j e q
theorem Sl.kill {g : G} {F : Hp} {ρ : Nat → Addr} {n : Nat} {σ : St} : ∀ (is : List Nat) {τ : Tau}, Sl g F ρ n σ τ → Sl g F ρ n σ (killT is τ)
  | [], _, h => h
  | i :: is, _, h => Sl.kill is (h.unset i)

section
variable {X : Cx} {g : G} {W : WX} {a b c e : Expr} {fa fb fc f : Tau → M D} {ta tb : Tau → M Bool} {pos : Pos} {rest : List Expr} {st : Stmt} {sts : List Stmt} {s1 s2 : SX}
def nxS : SX := fun τ L => some (.nx τ, L)
def seqS (f1 f2 : SX) : SX := fun τ L => match f1 τ L with
  | some (.nx τ1, L1) => f2 τ1 L1
  | o => o
def killS (is : List Nat) (f : SX) : SX := fun τ L => f (killT is τ) L
theorem tS.kill {is : List Nat} {D : Ends} {σ : St} {H : Hp} (h : tS g W (killS is s1) D σ H) : tS g W s1 D σ H := by
  obtain ⟨F, ρ, τ, L, hR, hS, hc, hp⟩ := h
  exact ⟨F, ρ, killT is τ, L, hR, hS.kill is, hc, hp⟩
theorem ds_kill (is : List Nat) (h : PSs X sts (tS g W s1)) : PSs X sts (tS g W (killS is s1)) := PSs.weak h fun D σ H q => tS.kill q
theorem dss_nil : PSs X [] (tS g W nxS) := PSs.weak pss_nil fun D σ H h => by
  obtain ⟨F, ρ, τ, L, hR, hS, hc, hp⟩ := h
  exact hp F ρ H σ Ext.refl hR hS
theorem seq_sat {D : Ends} {σ : St} {H : Hp} (h : tS g W (seqS s1 s2) D σ H) : tSeq (tS g W s1) (tS g W s2) D σ H := by
  obtain ⟨F, ρ, τ, L, hR, hS, hc, hp⟩ := h
  refine ⟨F, ρ, τ, L, hR, hS, hc, ?_⟩
  unfold seqS at hp
  match e : s1 τ L with
  | none => rw [e] at hp; exact hp
  | some (.nx τ1, L1) =>
    rw [e] at hp
    exact fun F' ρ' H' σ' x1 x2 x3 => ⟨F', ρ', τ1, L1, x2, x3, (fun y hy => by cases hy), hp.ext x1⟩
  | some (.rt d, L1) => rw [e] at hp; exact hp
  | some (.bk _, L1) => rw [e] at hp; exact hp
  | some (.ct _, L1) => rw [e] at hp; exact hp
  | some (.ex _ _ _, L1) => rw [e] at hp; exact hp
theorem dss_cons (h1 : PS X st (tS g W s1)) (h2 : PSs X sts (tS g W s2)) : PSs X (st :: sts) (tS g W (seqS s1 s2)) := PSs.weak (pss_cons h1 h2) fun D σ H h => seq_sat h
theorem dss_one (h1 : PS X st (tS g W s1)) : PSs X [st] (tS g W s1) := pss_one h1
theorem ds_pass : PS X (.Pass pos) (tS g W nxS) := PS.weak ps_pass fun D σ H h => by
  obtain ⟨F, ρ, τ, L, hR, hS, hc, hp⟩ := h
  exact hp F ρ H σ Ext.refl hR hS
def bkS : SX := fun τ L => some (.bk τ, L)
def ctS : SX := fun τ L => some (.ct τ, L)
theorem ds_break : PS X (.Break pos) (tS g W bkS) := PS.weak ps_break fun D σ H h => by
  obtain ⟨F, ρ, τ, L, hR, hS, hc, hp⟩ := h
  exact hp F ρ H σ Ext.refl hR hS
theorem ds_continue : PS X (.Continue pos) (tS g W ctS) := PS.weak ps_continue fun D σ H h => by
  obtain ⟨F, ρ, τ, L, hR, hS, hc, hp⟩ := h
  exact hp F ρ H σ Ext.refl hR hS
def setS (i : Nat) (f : Tau → M D) : SX := eThen f fun d τ L => some (.nx (τ.set i (some d)), L)
theorem setS_sat {i : Nat} {D : Ends} {σ : St} {H : Hp} (h : tS g W (setS i f) D σ H) : tAsg (tE g W f) (gName i) D σ H := by
  refine (SatS.bindV h).mono fun x H1 h1 => ?_
  obtain ⟨d, F, ρ, τ, L, hR, hS, hc, hp⟩ := h1
  exact hp F ρ H1 _ Ext.refl hR (hS.set (hc (x, d) (by simp)) i)
theorem ds_set {i : Nat} {x : Str} {pos' : Pos} (hN : X.N.Nodup) (hi : X.N[i]? = some x) (hx : Loc X.env.scope x) (he : PE X e (tE g W f)) (hs : swapsWith e (some (.Name x pos')) pos.line X.env = pure false := by rfl) (hf : X.fn x = true ∨ X.env.scope.names.lookup x = some .local := by first | exact .inl rfl | exact .inr rfl | assumption) :
    PS X (.Assign [.Name x pos'] e pos) (tS g W (setS i f)) := PS.weak (ps_set hN hi hx he hs hf) fun D σ H h => setS_sat h
def exprS (f : Tau → M D) : SX := eThen f fun _ τ L => some (.nx τ, L)
theorem ds_expr (he : PE X e (tE g W f)) (hs : swapsWith e none pos.line X.env = pure false := by rfl) : PS X (.Expr e pos) (tS g W (exprS f)) := PS.weak (ps_expr he hs) fun D σ H h => by
  refine (SatS.bindV h).mono fun x H1 h1 => ?_
  obtain ⟨d, F, ρ, τ, L, hR, hS, hc, hp⟩ := h1
  exact hp F ρ H1 σ Ext.refl hR hS
def retS (f : Tau → M D) : SX := eThen f fun d _ L => some (.rt d, L)
theorem ds_ret (he : PE X e (tE g W f)) : PS X (.Return (some e) pos) (tS g W (retS f)) := PS.weak (ps_ret he) fun D σ H h => by
  refine (SatS.bindV h).mono fun x H1 h1 => ?_
  obtain ⟨d, F, ρ, τ, L, hR, hS, hc, hp⟩ := h1
  exact hp F ρ H1 x Ext.refl hR (hc (x, d) (by simp))
def retN : SX := fun _ L => some (.rt (.v .non), L)
theorem ds_retN : PS X (.Return none pos) (tS g W retN) := PS.weak ps_retN fun D σ H h => by
  obtain ⟨F, ρ, τ, L, hR, hS, hc, hp⟩ := h
  exact hp F ρ H _ Ext.refl hR Is.non
def ifS (t : Tau → M Bool) (s1 s2 : SX) : SX := eThen t fun b => if b then s1 else s2
theorem ds_if {p q : List Stmt} (hc : PT X c (tT g W ta)) (ha : PSs X p (tS g W s1)) (hb : PSs X q (tS g W s2)) : PS X (.If c p q pos) (tS g W (ifS ta s1 s2)) := PS.weak (ps_if hc ha hb) fun D σ H h => by
  refine (SatS.bindB h).mono fun b H1 h1 => ?_
  cases b with
  | true => exact h1
  | false => exact h1

/-! ### arguments, displays -/
def nilA (_ : Tau) : M (List D) := pure []
def consA (f : Tau → M D) (fs : Tau → M (List D)) (τ : Tau) : M (List D) := do
  let d ← f τ
  let ds ← fs τ
  pure (d :: ds)
variable {es : List Expr} {fs : Tau → M (List D)}
theorem da_nil : PA X [] (tA g W nilA) := PA.weak pa_nil fun σ H Q h => by
  obtain ⟨F, ρ, τ, L, hR, hS, hc, hp⟩ := h
  exact hp F ρ _ H Ext.refl hR .nil
theorem da_cons (ha : PE X e (tE g W f)) (hr : PA X es (tA g W fs)) (hs : starEach (e :: es) X.env = (false, eval e X.env) :: starEach es X.env := by rfl) : PA X (e :: es) (tA g W (consA f fs)) := PA.weak (pa_cons ha hr hs) fun σ H Q h => by
  refine (Sat.bindV h).mono fun x H1 h1 => ?_
  obtain ⟨d, h1⟩ := h1
  refine (Sat.bind (ra := relA g) h1).mono fun xs H2 h2 => ?_
  obtain ⟨F, ρ, τ, L, ds, hR, hS, hc, hr, hp⟩ := h2
  exact hp F ρ _ H2 Ext.refl hR (.cons (hc (x, d) (by simp)) hr)
/-- plain values -/
def asP : D → Option P
  | .v p => some p
  | .r _ => none
def asPs : List D → Option (List P)
  | [] => some []
  | d :: ds => match asP d, asPs ds with
    | some p, some ps => some (p :: ps)
    | _, _ => none
theorem asPs_is {F : Hp} {ρ : Nat → Addr} {n : Nat} : ∀ {vs : List V} {ds : List D} {ps : List P}, relA g F ρ n vs ds → asPs ds = some ps → IsA g F vs ps
  | _, _, _, .nil, e => by cases e; exact .nil
  | _, d :: ds, _, .cons h t, e => by
    unfold asPs at e
    match e1 : asP d, e2 : asPs ds with
    | some p, some ps =>
      rw [e1, e2] at e
      cases e
      cases d with
      | v q =>
        cases e1
        exact .cons h (asPs_is t e2)
      | r n => cases e1
    | none, _ => rw [e1] at e; cases e
    | some _, none => rw [e1, e2] at e; cases e
def tupD (ds : List D) : M D := fun L => match asPs ds with
  | some ps => if ps.length ≤ sizeLine then some (.ok (.v (.tup ps)), L) else none
  | none => none
/-- a list frozen at once; a list that will change -/
def lstD (ds : List D) : M D := fun L => match asPs ds with
  | some ps => if ps.length ≤ sizeLine then some (.ok (.v (.lst ps)), L) else none
  | none => none
def newD (ds : List D) : M D := fun L => match asPs ds with
  | some ps => if ps.length ≤ sizeLine then some (.ok (.r L.length), L ++ [.lst ps]) else none
  | none => none
def appA (op : List D → M D) (fs : Tau → M (List D)) (τ : Tau) : M D := fs τ >>= op
def CallD (g : G) (op : List D → M D) (r : List V → Hp → VK → Prop) : Prop := ∀ (F : Hp) (ρ : Nat → Addr) (L : List MO) (H : Hp) (vs : List V) (ds : List D) (W : Value → Option Addr → Hp → Prop) (Q : VK),
  R g F ρ L H → relA g F ρ L.length vs ds → Post g (relV g) F ρ L.length W Q (op ds L) → r vs H Q
theorem app_sat {op : List D → M D} {r : List V → Hp → VK → Prop} (hr : CallD g op r) {σ : St} {H : Hp} {Q : VK} (h : tE g W (appA op fs) σ H Q) : tCB r (tA g W fs) σ H Q := by
  refine (Sat.bind (ra := relA g) h).mono fun xs H2 h2 => ?_
  obtain ⟨F, ρ, τ, L, ds, hR, hS, hc, ha, hp⟩ := h2
  exact hr F ρ L H2 xs ds _ Q hR ha hp
theorem cd_tup : CallD g tupD (fun xs H1 Q => xs.length ≤ sizeLine ∧ ∀ p, H1 p = none → Q (.ref p) (upd H1 p (.tup xs))) := by
  intro F ρ L H vs ds W Q hR ha hp
  unfold tupD at hp
  match e : asPs ds with
  | none => rw [e] at hp; exact False.elim hp
  | some ps =>
    rw [e] at hp
    dsimp only at hp
    have hi := asPs_is ha e
    by_cases hz : ps.length ≤ sizeLine
    · rw [if_pos hz] at hp
      exact ⟨by rw [hi.len]; exact hz, fun p hp' => hp.tup hR hi hp'⟩
    · rw [if_neg hz] at hp
      exact False.elim hp
theorem cd_lst : CallD g lstD (fun xs H1 Q => xs.length ≤ sizeLine ∧ ∀ p, H1 p = none → Q (.ref p) (upd H1 p (.lst xs))) := by
  intro F ρ L H vs ds W Q hR ha hp
  unfold lstD at hp
  match e : asPs ds with
  | none => rw [e] at hp; exact False.elim hp
  | some ps =>
    rw [e] at hp
    dsimp only at hp
    have hi := asPs_is ha e
    by_cases hz : ps.length ≤ sizeLine
    · rw [if_pos hz] at hp
      exact ⟨by rw [hi.len]; exact hz, fun p hp' => hp.lst hR hi hp'⟩
    · rw [if_neg hz] at hp
      exact False.elim hp
theorem cd_new : CallD g newD (fun xs H1 Q => xs.length ≤ sizeLine ∧ ∀ p, H1 p = none → Q (.ref p) (upd H1 p (.lst xs))) := by
  intro F ρ L H vs ds W Q hR ha hp
  unfold newD at hp
  match e : asPs ds with
  | none => rw [e] at hp; exact False.elim hp
  | some ps =>
    rw [e] at hp
    dsimp only at hp
    have hi := asPs_is ha e
    by_cases hz : ps.length ≤ sizeLine
    · rw [if_pos hz] at hp
      exact ⟨by rw [hi.len]; exact hz, fun p hp' => hp.newL hR hi hp'⟩
    · rw [if_neg hz] at hp
      exact False.elim hp
theorem de_tup {x1} (h : PA X es (tA g W fs)) : PE X (.Tuple es x1 pos) (tE g W (appA tupD fs)) := PE.weak (pe_tup h) fun σ H Q q => app_sat cd_tup q
theorem de_lst (h : PA X es (tA g W fs)) : PE X (.List es pos) (tE g W (appA lstD fs)) := PE.weak (pe_lst h) fun σ H Q q => app_sat cd_lst q
theorem de_new (h : PA X es (tA g W fs)) : PE X (.List es pos) (tE g W (appA newD fs)) := PE.weak (pe_lst h) fun σ H Q q => app_sat cd_new q
/-! ### built-ins by name -/
theorem de_callB {x : Str} {p : Pos} {id : String} {r : List V → Hp → VK → Prop} {op : List D → M D} (hc : CallR X (.builtin id) r) (hr : CallD g op r) (hg : Gl X x) (hm : X.mg x = none) (hv : bootBuiltins x = some (.builtin id)) (ha : PA X (e :: es) (tA g W fs)) (hn : x ≠ "__name__" := by decide) (hdb : (x == ("__debug__" : Str)) = false := by decide)
    (he : starEach (e :: es) X.env = (false, eval e X.env) :: starEach es X.env := by rfl) (hpl : (backTo pos (starEach es X.env)).any (·.1) = false := by rfl) : PE X (.Call (.Name x p) (e :: es) [] pos) (tE g W (appA op fs)) :=
  PE.weak (pe_callB hc hg hm hv ha hn hdb he hpl) fun σ H Q h => app_sat hr h
theorem de_callTy {x : Str} {p : Pos} {T : String} {r : List V → Hp → VK → Prop} {op : List D → M D} (hc : CallR X (.type T) r) (hr : CallD g op r) (hg : Gl X x) (hm : X.mg x = none) (hv : bootBuiltins x = some (.type T)) (ha : PA X (e :: es) (tA g W fs)) (hn : x ≠ "__name__" := by decide) (hdb : (x == ("__debug__" : Str)) = false := by decide)
    (he : starEach (e :: es) X.env = (false, eval e X.env) :: starEach es X.env := by rfl) (hpl : (backTo pos (starEach es X.env)).any (·.1) = false := by rfl) : PE X (.Call (.Name x p) (e :: es) [] pos) (tE g W (appA op fs)) :=
  PE.weak (pe_callTy hc hg hm hv ha hn hdb he hpl) fun σ H Q h => app_sat hr h
end
end DN

end
section
set_option Elab.async false
set_option linter.all false
set_option maxRecDepth 100000
set_option maxHeartbeats 4000000
/-! D6: len, int, sum, any, all, tuple, list, max; methods of lists and texts; xs[i] = v; sorted of data; freezing. -/
namespace DN
open PySem L2
section
variable {X : Cx} {g : G} {W : WX} {a b c e o : Expr} {fa fb fc f : Tau → M D} {pos : Pos} {es : List Expr} {fs : Tau → M (List D)}
theorem rel1 {F : Hp} {ρ : Nat → Addr} {n : Nat} {vs : List V} {d : D} (h : relA g F ρ n vs [d]) : ∃ v, vs = [v] ∧ IsD g F ρ n v d := by
  cases h with
  | cons h t => cases t; exact ⟨_, rfl, h⟩
theorem rel2 {F : Hp} {ρ : Nat → Addr} {n : Nat} {vs : List V} {d e : D} (h : relA g F ρ n vs [d, e]) : ∃ v w, vs = [v, w] ∧ IsD g F ρ n v d ∧ IsD g F ρ n w e := by
  cases h with
  | cons h t =>
    obtain ⟨w, rfl, h2⟩ := rel1 t
    exact ⟨_, w, rfl, h, h2⟩
theorem rel0 {F : Hp} {ρ : Nat → Addr} {n : Nat} {vs : List V} (h : relA g F ρ n vs []) : vs = [] := by
  cases h; rfl
def oneD (k : D → M D) : List D → M D
  | [d] => k d
  | _ => M.stuck
theorem cd_one {k : D → M D} {r : List V → Hp → VK → Prop} (h : ∀ (F : Hp) (ρ : Nat → Addr) (L : List MO) (H : Hp) (x : V) (d : D) (W : Value → Option Addr → Hp → Prop) (Q : VK),
    R g F ρ L H → IsD g F ρ L.length x d → Post g (relV g) F ρ L.length W Q (k d L) → r [x] H Q) : CallD g (oneD k) r := by
  intro F ρ L H vs ds W Q hR ha hp
  match ds, ha, hp with
  | [], _, hp => exact False.elim hp
  | _ :: _ :: _, _, hp => exact False.elim hp
  | [d], ha, hp =>
    obtain ⟨x, rfl, hx⟩ := rel1 ha
    exact h F ρ L H x d W Q hR hx hp
/-- lists, tuples by their items -/
def asS (L : List MO) : D → Option (List P)
  | .v (.tup xs) => some xs
  | d => asL L d
theorem asS_sq {F : Hp} {ρ : Nat → Addr} {L : List MO} {H : Hp} {x : V} {d : D} {xs : List P} (hR : R g F ρ L H) (hx : IsD g F ρ L.length x d) (h : asS L d = some xs) : ∃ a vs, x = .ref a ∧ (SqL g.K H a vs ∨ (SqT g.K H a vs ∧ d = .v (.tup xs))) ∧ IsA g F vs xs := by
  have lists : asL L d = some xs → ∃ a vs, x = .ref a ∧ (SqL g.K H a vs ∨ (SqT g.K H a vs ∧ d = .v (.tup xs))) ∧ IsA g F vs xs := fun h => by
    obtain ⟨a, vs, e, h1, h2⟩ := asL_sq hR hx h
    exact ⟨a, vs, e, .inl h1, h2⟩
  cases d with
  | r n => exact lists h
  | v p =>
    cases p with
    | tup ys =>
      cases h
      obtain ⟨a, vs, e, h1, h2⟩ := Is.inv_tup hx
      exact ⟨a, vs, e, .inr ⟨hR.sub.sqT h1, rfl⟩, h2⟩
    | _ => exact lists h
/-! ### len -/
def lenD : List D → M D := oneD fun d L => match d with
  | .v (.str z) => if z.length ≤ sizeLine then some (.ok (.v (.int z.length)), L) else none
  | d => (asS L d).map fun xs => (.ok (.v (.int xs.length)), L)
theorem cd_len {K : PySem.W.Frag} (hK : K = g.K) : CallD g lenD (fun xs H Q => ∃ x n, xs = [x] ∧ LenV K x H n ∧ Q (.int n) H) := by
  subst hK
  refine cd_one fun F ρ L H x d W Q hR hx hp => ?_
  · skip
    have seqs : Post g (relV g) F ρ L.length W Q ((asS L d).map fun xs => (Res.ok (D.v (.int xs.length)), L)) → ∃ y n, [x] = [y] ∧ LenV g.K y H n ∧ Q (.int n) H := fun hp => by
      match e1 : asS L d with
      | none => rw [e1] at hp; exact False.elim hp
      | some xs =>
        rw [e1] at hp
        obtain ⟨p, ws, rfl, h1, h2⟩ := asS_sq hR hx e1
        refine ⟨_, xs.length, rfl, ?_, hp.val hR (.int _)⟩
        rcases h1 with h1 | ⟨h1, _⟩
        · exact .inl ⟨ws, h1, h2.len.symm⟩
        · exact .inr ⟨ws, h1, h2.len.symm⟩
    cases d with
    | r n => exact seqs hp
    | v p =>
      cases p with
      | str z =>
        dsimp only at hp
        by_cases hz : z.length ≤ sizeLine
        · rw [if_pos hz] at hp
          refine ⟨x, z.length, rfl, ?_, hp.val hR (.int _)⟩
          rw [Is.inv_str hx]
          exact ⟨hz, rfl⟩
        · rw [if_neg hz] at hp
          exact False.elim hp
      | _ => exact seqs hp
/-! ### int, sum, any, all -/
def intD : List D → M D := oneD fun d L => match d with
  | .v (.int i) => some (.ok (.v (.int i)), L)
  | _ => none
theorem cd_int : CallD g intD (fun xs H Q => (∃ i, xs = [.int i] ∧ Q (.int i) H) ∨ ∃ k, xs = [.bl k] ∧ Q (.int (if k then 1 else 0)) H) := by
  refine cd_one fun F ρ L H x d W Q hR hx hp => ?_
  cases d with
  | r n => exact False.elim hp
  | v p =>
    cases p with
    | int i => exact .inl ⟨i, by rw [Is.inv_int hx], hp.val hR (.int _)⟩
    | _ => exact False.elim hp
def intsOf : List P → Option (List Int)
  | [] => some []
  | .int i :: ps => (intsOf ps).map (i :: ·)
  | _ => none
theorem ints_is {F : Hp} : ∀ {vs : List V} {ps : List P} {ns : List Int}, IsA g F vs ps → intsOf ps = some ns → vs = ns.map V.int
  | _, [], _, h, e => by cases e; cases h; rfl
  | _, .int i :: ps, _, .cons h t, e => by
    unfold intsOf at e
    match e1 : intsOf ps with
    | none => rw [e1] at e; cases e
    | some ms =>
      rw [e1] at e
      cases e
      rw [Is.inv_int h, ints_is t e1]
      rfl
def blsOf : List P → Option (List Bool)
  | [] => some []
  | .bl i :: ps => (blsOf ps).map (i :: ·)
  | _ => none
theorem bls_is {F : Hp} : ∀ {vs : List V} {ps : List P} {ns : List Bool}, IsA g F vs ps → blsOf ps = some ns → vs = ns.map V.bl
  | _, [], _, h, e => by cases e; cases h; rfl
  | _, .bl i :: ps, _, .cons h t, e => by
    unfold blsOf at e
    match e1 : blsOf ps with
    | none => rw [e1] at e; cases e
    | some ms =>
      rw [e1] at e
      cases e
      rw [Is.inv_bl h, bls_is t e1]
      rfl
def sumD : List D → M D := oneD fun d L => ((asL L d).bind intsOf).map fun ns => (.ok (.v (.int ns.sum)), L)
theorem cd_sum {K : PySem.W.Frag} (hK : K = g.K) : CallD g sumD (rSum K) := by
  subst hK
  refine cd_one fun F ρ L H x d W Q hR hx hp => ?_
  · skip
    match e1 : asL L d with
    | none => rw [e1] at hp; exact False.elim hp
    | some xs =>
      rw [e1] at hp
      dsimp only [Option.bind] at hp
      match e2 : intsOf xs with
      | none => rw [e2] at hp; exact False.elim hp
      | some ns =>
        rw [e2] at hp
        obtain ⟨p, ws, rfl, h1, h2⟩ := asL_sq hR hx e1
        rw [ints_is h2 e2] at h1
        exact ⟨p, ns, rfl, h1, hp.val hR (.int _)⟩
def maxI : List Int → Int
  | [] => 0
  | x :: xs => xs.foldl max x
theorem foldl_max : ∀ (xs : List Int) (a : Int), (xs.foldl max a = a ∨ xs.foldl max a ∈ xs) ∧ a ≤ xs.foldl max a ∧ ∀ y ∈ xs, y ≤ xs.foldl max a
  | [], a => ⟨.inl rfl, Int.le_refl _, by simp⟩
  | x :: xs, a => by
    obtain ⟨h1, h2, h3⟩ := foldl_max xs (max a x)
    rw [List.foldl_cons]
    refine ⟨?_, Int.le_trans (Int.le_max_left _ _) h2, fun y hy => ?_⟩
    · rcases h1 with h1 | h1
      · by_cases q : x ≤ a
        · exact .inl (by rw [h1]; exact Int.max_eq_left q)
        · exact .inr (by rw [h1, Int.max_eq_right (by omega)]; exact List.mem_cons_self)
      · exact .inr (List.mem_cons_of_mem _ h1)
    · rcases List.mem_cons.mp hy with e | hy
      · rw [e]; exact Int.le_trans (Int.le_max_right _ _) h2
      · exact h3 y hy
theorem maxI_spec {xs : List Int} (h : 0 < xs.length) : maxI xs ∈ xs ∧ ∀ y ∈ xs, y ≤ maxI xs := by
  cases xs with
  | nil => exact absurd h (by simp)
  | cons x xs =>
    obtain ⟨h1, h2, h3⟩ := foldl_max xs x
    refine ⟨?_, fun y hy => ?_⟩
    · rcases h1 with h1 | h1
      · exact List.mem_cons.mpr (.inl h1)
      · exact List.mem_cons.mpr (.inr h1)
    · rcases List.mem_cons.mp hy with e | hy
      · rw [e]; exact h2
      · exact h3 y hy
def maxD : List D → M D := oneD fun d L => match (asL L d).bind intsOf with
    | some ns => if 0 < ns.length then some (.ok (.v (.int (maxI ns))), L) else none
    | none => none
theorem cd_max {K : PySem.W.Frag} (hK : K = g.K) : CallD g maxD (rMax K) := by
  subst hK
  refine cd_one fun F ρ L H x d W Q hR hx hp => ?_
  · skip
    match e1 : asL L d with
    | none => rw [e1] at hp; exact False.elim hp
    | some xs =>
      rw [e1] at hp
      dsimp only [Option.bind] at hp
      match e2 : intsOf xs with
      | none => rw [e2] at hp; exact False.elim hp
      | some ns =>
        rw [e2] at hp
        dsimp only at hp
        by_cases hz : 0 < ns.length
        · rw [if_pos hz] at hp
          obtain ⟨p, ws, rfl, h1, h2⟩ := asL_sq hR hx e1
          rw [ints_is h2 e2] at h1
          refine ⟨p, ns, rfl, h1, hz, fun m hm hle => ?_⟩
          obtain ⟨q1, q2⟩ := maxI_spec hz
          have : m = maxI ns := by
            have a1 := q2 m hm
            have a2 := hle _ q1
            omega
          rw [this]
          exact hp.val hR (.int _)
        · rw [if_neg hz] at hp
          exact False.elim hp
def anyD : List D → M D := oneD fun d L => ((asL L d).bind blsOf).map fun ns => (.ok (.v (.bl (ns.any id))), L)
theorem cd_any {K : PySem.W.Frag} (hK : K = g.K) : CallD g anyD (rAny K) := by
  subst hK
  refine cd_one fun F ρ L H x d W Q hR hx hp => ?_
  · skip
    match e1 : asL L d with
    | none => rw [e1] at hp; exact False.elim hp
    | some xs =>
      rw [e1] at hp
      dsimp only [Option.bind] at hp
      match e2 : blsOf xs with
      | none => rw [e2] at hp; exact False.elim hp
      | some ns =>
        rw [e2] at hp
        obtain ⟨p, ws, rfl, h1, h2⟩ := asL_sq hR hx e1
        rw [bls_is h2 e2] at h1
        exact ⟨p, ns, rfl, h1, hp.val hR (.bl _)⟩
def allD : List D → M D := oneD fun d L => ((asL L d).bind blsOf).map fun ns => (.ok (.v (.bl (ns.all id))), L)
theorem cd_all {K : PySem.W.Frag} (hK : K = g.K) : CallD g allD (rAll K) := by
  subst hK
  refine cd_one fun F ρ L H x d W Q hR hx hp => ?_
  · skip
    match e1 : asL L d with
    | none => rw [e1] at hp; exact False.elim hp
    | some xs =>
      rw [e1] at hp
      dsimp only [Option.bind] at hp
      match e2 : blsOf xs with
      | none => rw [e2] at hp; exact False.elim hp
      | some ns =>
        rw [e2] at hp
        obtain ⟨p, ws, rfl, h1, h2⟩ := asL_sq hR hx e1
        rw [bls_is h2 e2] at h1
        exact ⟨p, ns, rfl, h1, hp.val hR (.bl _)⟩
/-! ### tuple, list -/
def tupleD : List D → M D := oneD fun d L => (asS L d).map fun xs => (.ok (.v (.tup xs)), L)
theorem cd_tuple {K : PySem.W.Frag} (hK : K = g.K) : CallD g tupleD (fun xs H Q => ∃ p ys, xs = [.ref p] ∧ ((SqL K H p ys ∧ ∀ l, H l = none → Q (.ref l) (upd H l (.tup ys))) ∨ (SqT K H p ys ∧ Q (.ref p) H))) := by
  subst hK
  refine cd_one fun F ρ L H x d W Q hR hx hp => ?_
  · skip
    match e1 : asS L d with
    | none => rw [e1] at hp; exact False.elim hp
    | some xs =>
      rw [e1] at hp
      obtain ⟨p, ws, rfl, h1, h2⟩ := asS_sq hR hx e1
      refine ⟨p, ws, rfl, ?_⟩
      rcases h1 with h1 | ⟨h1, e2⟩
      · exact .inl ⟨h1, fun l hl => hp.tup hR h2 hl⟩
      · subst e2
        exact .inr ⟨h1, hp.val hR hx⟩
/-- list(..): mu: one that will change -/
def listD (mu : Bool) : List D → M D := oneD fun d L => (asS L d).map fun xs => if mu = true then (.ok (.r L.length), L ++ [.lst xs]) else (.ok (.v (.lst xs)), L)
theorem cd_list {mu : Bool} {K : PySem.W.Frag} (hK : K = g.K) : CallD g (listD mu) (fun xs H Q => ∃ p ys, xs = [.ref p] ∧ (SqL K H p ys ∨ SqT K H p ys) ∧ ∀ l, H l = none → Q (.ref l) (upd H l (.lst ys))) := by
  subst hK
  refine cd_one fun F ρ L H x d W Q hR hx hp => ?_
  · skip
    match e1 : asS L d with
    | none => rw [e1] at hp; exact False.elim hp
    | some xs =>
      rw [e1] at hp
      obtain ⟨p, ws, rfl, h1, h2⟩ := asS_sq hR hx e1
      refine ⟨p, ws, rfl, h1.imp id (·.1), fun l hl => ?_⟩
      cases mu with
      | true => exact hp.newL hR h2 hl
      | false => exact hp.lst hR h2 hl
/-! ### sorted of data -/
def sortOk (ds : List PyData) : Bool := ds.all fun d => ds.all fun e => PySem.W.alike d e
def sortTag (ds : List PyData) : Bool := ds.all (fun d => match d with | .tuple (_ :: _) => true | _ => false) || ds.all fun d => match d with | .none => false | .tuple _ => false | _ => true
/-- sorted by the data -/
def sortP (ps : List P) : List P := (ps.mergeSort fun p q => PySem.W.dataLe false (fun x => (toD x).getD .none) p q)
def sortedD : List D → M D := fun ds L => match ds with
  | [d] => match (asL L d), (asL L d).bind toDs with
    | some ps, some qs => if (sortOk qs && sortTag qs && qs.all fun d => decide (d.depth ≤ 50)) = true then some (.ok (.v (.lst (sortP ps))), L) else none
    | _, _ => none
  | _ => none
end
end DN

end
section
set_option Elab.async false
set_option linter.all false
set_option maxRecDepth 100000
set_option maxHeartbeats 4000000
/-! D7: sorted of data; methods of lists and texts; xs[i] = v; freezing. -/
namespace DN
open PySem L2
section
variable {X : Cx} {g : G} {W : WX} {a b c e o : Expr} {fa fb fc f : Tau → M D} {pos : Pos} {es : List Expr} {fs : Tau → M (List D)}
/-! ### sorted of data -/
def rSortB (K : PySem.W.Frag) : List V → Hp → VK → Prop := fun vs H Q => ∃ (a : Addr) (bs : List (V × P)) (k : V × P → PyData), vs = [V.ref a] ∧ SqL K H a (bs.map (·.1)) ∧ (∀ b ∈ bs, Dp K H b.1 (k b)) ∧
  PySem.W.AllAlike (bs.map k) ∧ PySem.W.Sortable (bs.map k) ∧ (∀ b ∈ bs, (k b).depth ≤ 50) ∧ ∀ p, H p = none → Q (.ref p) (upd H p (.lst ((bs.mergeSort (PySem.W.dataLe false k)).map (·.1))))
theorem each_of_vals {R : Value → V × P → Prop} : ∀ {bs : List (V × P)} {us : List Value}, Vals (bs.map (·.1)) us → (∀ b ∈ bs, ∀ u, RelV b.1 u → R u b) → PySem.W.EachIs R us bs
  | [], _, r, _ => by cases r; exact .nil
  | b :: bs, _, r, h => by
    cases r with
    | cons r1 r2 => exact .cons (h b List.mem_cons_self _ r1) (each_of_vals r2 fun c hc => h c (List.mem_cons_of_mem _ hc))
theorem vals_of_each : ∀ {bs : List (V × P)} {us : List Value}, PySem.W.EachIs (fun u b => RelV b.1 u) us bs → Vals (bs.map (·.1)) us
  | _, _, .nil => .nil
  | _, _, .cons h t => .cons h (vals_of_each t)
theorem cr_sortB (hu : X.A.units + 64 < cLine) : CallR X (.builtin "sorted") (rSortB X.K) := by
  intro pins s σ H vs us Q I r h
  obtain ⟨a, bs, k, rfl, hs, hd, hal, hso, hdp, q⟩ := h
  obtain ⟨its, rv, hl, hz⟩ := I.list hs
  rw [Vals.ref1 r]
  have e1 : PySem.W.EachIs (fun u (b : V × P) => RelV b.1 u) its bs := each_of_vals rv fun b _ u h => h
  have e2 : PySem.W.EachIs (fun v (b : V × P) => ∃ as, Reads s.heap v (k b) as) its bs := each_of_vals rv fun b hb u h => Dp.reads I (k b) b.1 u (hd b hb) h
  have hlen : bs.length ≤ sizeLine := by rw [List.length_map] at hz; exact hz
  refine PySem.W.sorted_data (enc := k) hl.isList e1 e2 hal hso hlen (fun b hb => ?_) fun out ho he => ?_
  · have := hdp b hb
    omega
  · obtain ⟨ep, he'⟩ := PyProof.Rows.sortedAll_at s.heap its out.toArray
    have hl2 : ((bs.mergeSort (PySem.W.dataLe false k)).map (·.1)).length ≤ sizeLine := by
      rw [List.length_map, (List.mergeSort_perm _ _).length_eq]
      exact hlen
    exact ⟨.ref _, upd H (s.heap.objs.size + 1) (.lst ((bs.mergeSort (PySem.W.dataLe false k)).map (·.1))), I.laid (t' := s.toks) (fun _ _ => PyProof.Rows.sortedAll_old) (Nat.le_succ _) ⟨hl2, out, ep, vals_of_each he, he'⟩, rfl, q _ (I.hok.fresh (Nat.le_succ _))⟩
def keyP (p : P) : PyData := (toD p).getD .none
theorem toDs_all : ∀ {ps : List P} {qs : List PyData}, toDs ps = some qs → qs = ps.map keyP ∧ ∀ p ∈ ps, toD p = some (keyP p)
  | [], _, e => by
    simp only [toDs, Option.some.injEq] at e
    subst e
    exact ⟨rfl, by simp⟩
  | p :: ps, _, e => by
    simp only [toDs] at e
    match e1 : toD p, e2 : toDs ps with
    | some d, some ds =>
      rw [e1, e2] at e
      cases e
      obtain ⟨h1, h2⟩ := toDs_all e2
      have hk : keyP p = d := by unfold keyP; rw [e1]; rfl
      refine ⟨by rw [List.map_cons, hk, h1], fun q hq => ?_⟩
      rcases List.mem_cons.mp hq with z | hq
      · rw [z, hk, e1]
      · exact h2 q hq
    | none, _ => rw [e1] at e; cases e
    | some _, none => rw [e1, e2] at e; cases e
theorem isA_zip {F : Hp} : ∀ {vs : List V} {ps : List P}, IsA g F vs ps → (vs.zip ps).map (·.1) = vs ∧ (vs.zip ps).map (·.2) = ps ∧ ∀ b ∈ vs.zip ps, Is g F b.1 b.2
  | _, _, .nil => ⟨rfl, rfl, by simp⟩
  | _, _, .cons h t => by
    obtain ⟨h1, h2, h3⟩ := isA_zip t
    refine ⟨by rw [List.zip_cons_cons, List.map_cons, h1], by rw [List.zip_cons_cons, List.map_cons, h2], fun b hb => ?_⟩
    rcases List.mem_cons.mp hb with z | hb
    · rw [z]; exact h
    · exact h3 b hb
theorem isA_of {F : Hp} : ∀ {bs : List (V × P)}, (∀ b ∈ bs, Is g F b.1 b.2) → IsA g F (bs.map (·.1)) (bs.map (·.2))
  | [], _ => .nil
  | b :: bs, h => .cons (h b List.mem_cons_self) (isA_of fun c hc => h c (List.mem_cons_of_mem _ hc))
theorem sort_alike {qs : List PyData} (h : sortOk qs = true) : PySem.W.AllAlike qs := by
  intro d hd d' hd'
  unfold sortOk at h
  exact List.all_eq_true.mp (List.all_eq_true.mp h d hd) d' hd'
theorem sort_able {qs : List PyData} (h : sortTag qs = true) : PySem.W.Sortable qs := by
  unfold sortTag at h
  rcases Bool.or_eq_true_iff.mp h with h | h
  · refine .inl fun d hd => ?_
    have q := List.all_eq_true.mp h d hd
    match d, q with
    | .tuple (x :: r), _ => exact ⟨x, r, rfl⟩
  · refine .inr fun d hd => ?_
    have q := List.all_eq_true.mp h d hd
    match d, q with
    | .bool _, _ => exact ⟨(by intro z; cases z), (by intro xs z; cases z)⟩
    | .int _, _ => exact ⟨(by intro z; cases z), (by intro xs z; cases z)⟩
    | .str _, _ => exact ⟨(by intro z; cases z), (by intro xs z; cases z)⟩
    | .list _, _ => exact ⟨(by intro z; cases z), (by intro xs z; cases z)⟩
    | .dict _, _ => exact ⟨(by intro z; cases z), (by intro xs z; cases z)⟩
def sortQ (ps : List P) : List P := ps.mergeSort (PySem.W.dataLe false keyP)
/-- sorted(xs), mu: one that will change -/
def sortD (mu : Bool) : List D → M D := oneD fun d L => match asL L d with
  | some ps => match toDs ps with
    | some qs => if (sortOk qs && sortTag qs && qs.all fun d => decide (d.depth ≤ 50)) = true then some (if mu = true then (.ok (.r L.length), L ++ [.lst (sortQ ps)]) else (.ok (.v (.lst (sortQ ps))), L)) else none
    | none => none
  | none => none
theorem cd_sort {mu : Bool} {K : PySem.W.Frag} (hK : K = g.K) : CallD g (sortD mu) (rSortB K) := by
  subst hK
  refine cd_one fun F ρ L H x d W Q hR hx hp => ?_
  match e1 : asL L d with
  | none => rw [e1] at hp; exact False.elim hp
  | some ps =>
    rw [e1] at hp
    dsimp only at hp
    match e2 : toDs ps with
    | none => rw [e2] at hp; exact False.elim hp
    | some qs =>
      rw [e2] at hp
      dsimp only at hp
      by_cases hk : (sortOk qs && sortTag qs && qs.all fun d => decide (d.depth ≤ 50)) = true
      · rw [if_pos hk] at hp
        rw [Bool.and_eq_true, Bool.and_eq_true] at hk
        obtain ⟨⟨k1, k2⟩, k3⟩ := hk
        obtain ⟨p, ws, rfl, h1, h2⟩ := asL_sq hR hx e1
        obtain ⟨z1, z2, z3⟩ := isA_zip h2
        obtain ⟨t1, t2⟩ := toDs_all e2
        have km : (ws.zip ps).map (fun b => keyP b.2) = qs := by
          rw [t1, ← z2, List.map_map, z2]
          rfl
        have mem2 : ∀ b ∈ ws.zip ps, b.2 ∈ ps := fun b hb => by
          have := List.mem_map_of_mem (f := (·.2)) hb
          rw [z2] at this
          exact this
        have srt : ((ws.zip ps).mergeSort (PySem.W.dataLe false fun b => keyP b.2)).map (·.2) = sortQ ps := by
          have q := List.map_mergeSort (r := PySem.W.dataLe false fun b : V × P => keyP b.2) (s := PySem.W.dataLe false keyP) (f := fun b : V × P => b.2) (l := ws.zip ps) (fun a _ b _ => rfl)
          rw [z2] at q
          exact q
        refine ⟨p, ws.zip ps, fun b => keyP b.2, rfl, by rw [z1]; exact h1, fun b hb => dp_of hR.sub (z3 b hb) (t2 _ (mem2 b hb)), by rw [km]; exact sort_alike k1, by rw [km]; exact sort_able k2, fun b hb => ?_, fun n hn => ?_⟩
        · have : keyP b.2 ∈ qs := by
            rw [t1]
            exact List.mem_map_of_mem (mem2 b hb)
          exact of_decide_eq_true (List.all_eq_true.mp k3 _ this)
        · have hA : IsA g F (((ws.zip ps).mergeSort (PySem.W.dataLe false fun b => keyP b.2)).map (·.1)) (sortQ ps) := by
            rw [← srt]
            exact isA_of fun b hb => z3 b (List.mem_mergeSort.mp hb)
          cases mu with
          | true => exact hp.newL hR hA hn
          | false => exact hp.lst hR hA hn
      · rw [if_neg hk] at hp
        exact False.elim hp

/-! ### methods -/
def mthD (ty : List MO → D → Bool) (op : D → List D → M D) (f : Tau → M D) (fs : Tau → M (List D)) (τ : Tau) : M D := do
  let x ← f τ
  let _ ← (fun L => if ty L x = true then some (.ok (), L) else none : M Unit)
  let ds ← fs τ
  op x ds
def MtD (g : G) (op : D → List D → M D) (r : V → List V → Hp → VK → Prop) : Prop := ∀ (F : Hp) (ρ : Nat → Addr) (L : List MO) (H : Hp) (x : V) (d : D) (vs : List V) (ds : List D) (W : Value → Option Addr → Hp → Prop) (Q : VK),
  R g F ρ L H → IsD g F ρ L.length x d → relA g F ρ L.length vs ds → Post g (relV g) F ρ L.length W Q (op d ds L) → r x vs H Q
def TyD (g : G) (ty : List MO → D → Bool) (T : String) : Prop := ∀ (F : Hp) (ρ : Nat → Addr) (L : List MO) (H : Hp) (x : V) (d : D), R g F ρ L H → IsD g F ρ L.length x d → ty L d = true → tyV g.K T x H
def tyL (L : List MO) (d : D) : Bool := (asL L d).isSome
theorem td_list : TyD g tyL "list" := by
  intro F ρ L H x d hR hx h
  unfold tyL at h
  obtain ⟨xs, e⟩ := Option.isSome_iff_exists.mp h
  obtain ⟨a, vs, rfl, h1, _⟩ := asL_sq hR hx e
  exact .inl ⟨rfl, vs, h1⟩
def tyS (_ : List MO) : D → Bool
  | .v (.str _) => true
  | _ => false
theorem td_str : TyD g tyS "str" := by
  intro F ρ L H x d hR hx h
  cases d with
  | r n => cases h
  | v p =>
    cases p with
    | str z => rw [Is.inv_str hx]; rfl
    | _ => cases h
theorem mth_sat {ty : List MO → D → Bool} {T : String} {op : D → List D → M D} {r : V → List V → Hp → VK → Prop} (ht : TyD g ty T) (hr : MtD g op r) {σ : St} {H : Hp} {Q : VK} (h : tE g W (mthD ty op f fs) σ H Q) : tBM g.K T r (tE g W f) (tA g W fs) σ H Q := by
  refine (Sat.bindV h).mono fun x H1 h1 => ?_
  obtain ⟨d, F, ρ, τ, L, hR, hS, hc, hp⟩ := h1
  have hx := hc (x, d) (by simp)
  by_cases hty : ty L d = true
  · have hp2 : Post g (relV g) F ρ L.length (fun c d H' => W c d σ H') Q ((fs τ >>= op d) L) := by
      refine Eq.mp (congrArg (fun o => Post g (relV g) F ρ L.length (fun c d H' => W c d σ H') Q o) ?_) hp
      show M.bnd (fun L => if ty L d = true then some (Res.ok (), L) else none) _ L = _
      unfold M.bnd
      dsimp only
      rw [if_pos hty]
    have h2 : Sat g (relV g) W [(x, d)] (fun τ => fs τ >>= op d) σ H1 Q := ⟨F, ρ, τ, L, hR, hS, hc, hp2⟩
    refine ⟨ht F ρ L H1 x d hR hx hty, (Sat.bind (ra := relA g) h2).mono fun xs H2 h3 => ?_⟩
    obtain ⟨F, ρ, τ, L, ds, hR, hS, hc, ha, hp⟩ := h3
    exact hr F ρ L H2 x d xs ds _ Q hR (hc (x, d) (by simp)) ha hp
  · exfalso
    have hp2 : Post g (relV g) F ρ L.length (fun c d H' => W c d σ H') Q none := by
      refine Eq.mp (congrArg (fun o => Post g (relV g) F ρ L.length (fun c d H' => W c d σ H') Q o) ?_) hp
      show M.bnd (fun L => if ty L d = true then some (Res.ok (), L) else none) _ L = none
      unfold M.bnd
      dsimp only
      rw [if_neg hty]
    exact hp2
theorem de_mth {T id : String} {name : Str} {apos : Pos} {ty : List MO → D → Bool} {op : D → List D → M D} {r : V → List V → Hp → VK → Prop} (hK : X.K = g.K) (pa : PlainAttrs T) (slot : Slot T name id) (hty : typeOf (.builtin id) = pure (.type "method_descriptor")) (hm : MtR X id r) (ht : TyD g ty T) (hr : MtD g op r) (ho : PE X o (tE g W f)) (ha : PA X (e :: es) (tA g W fs))
    (hbase : attributeBase o name X.env (eval o X.env) = eval o X.env := by rfl)
    (hfew : ((backTo pos (starEach (e :: es) X.env)).all (fun x => !x.1) && (backToKw pos (keywordEach [] X.env)).all (fun x => x.1.isSome)
      && decide ((e :: es).length + ([] : List Keyword).length + (if ([] : List Keyword).isEmpty then 0 else 1) < 30)) = true := by rfl)
    (hline : (apos.endLine == pos.line) = true := by rfl) (hs : starEach (e :: es) X.env = (false, eval e X.env) :: starEach es X.env := by rfl) (hplain : (backTo pos (starEach es X.env)).any (·.1) = false := by rfl) :
    PE X (.Call (.Attribute o name apos) (e :: es) [] pos) (tE g W (mthD ty op f fs)) :=
  PE.weak (pe_bm pa slot hty hm ho ha hbase hfew hline hs hplain) fun σ H Q h => by
    rw [hK]
    exact mth_sat ht hr h
theorem de_mth0 {T id : String} {name : Str} {apos : Pos} {ty : List MO → D → Bool} {op : D → List D → M D} {r : V → List V → Hp → VK → Prop} (hK : X.K = g.K) (pa : PlainAttrs T) (slot : Slot T name id) (hty : typeOf (.builtin id) = pure (.type "method_descriptor")) (hm : MtR X id r) (ht : TyD g ty T) (hr : MtD g op r) (ho : PE X o (tE g W f))
    (hbase : attributeBase o name X.env (eval o X.env) = eval o X.env := by rfl) (hline : (apos.endLine == pos.line) = true := by rfl) : PE X (.Call (.Attribute o name apos) [] [] pos) (tE g W (mthD ty op f nilA)) :=
  PE.weak (pe_bm0 pa slot hty hm ho hbase hline) fun σ H Q h => by
    rw [hK]
    have h' := mth_sat (W := W) (fs := nilA) ht hr h
    refine Sat.mono h' fun x H1 ⟨q1, q2⟩ => ⟨q1, ?_⟩
    obtain ⟨F, ρ, τ, L, hR, hS, hc, hp⟩ := q2
    exact hp F ρ [] H1 Ext.refl hR .nil
/-- an entry of the ledger that is a list -/
theorem Post.putL {F : Hp} {ρ : Nat → Addr} {L : List MO} {H : Hp} {x : V} {n : Nat} {xs ys : List P} {p : P} {v : V} {us vs : List V} {W : Value → Option Addr → Hp → Prop} {Q : VK} (hR : R g F ρ L H) (e : L[n]? = some (.lst xs))
    (hp : Post g (relV g) F ρ L.length W Q (some (.ok (.v p), L.set n (.lst ys)))) (hv : Is g F v p) (hy : IsA g F vs ys) : Q v (upd H (ρ n) (.lst vs)) := by
  have e1 : (L.set n (MO.lst ys)).length = L.length := by rw [List.length_set]
  refine hp F ρ v _ (by rw [e1]; exact Ext.refl) (hR.put e (by intro z; cases z) _ _ ⟨vs, upd_same, hy⟩) ?_
  exact hv
theorem R.lstAt {F : Hp} {ρ : Nat → Addr} {L : List MO} {H : Hp} {n : Nat} {xs : List P} (hR : R g F ρ L H) (e : L[n]? = some (.lst xs)) : ∃ vs, H (ρ n) = some (.lst vs) ∧ IsA g F vs xs :=
  (hR.ent n _ e (by intro z; cases z)).2
def mutL (k : Nat → List P → List D → M D) : D → List D → M D := fun x ds L => match x with
  | .r n => match L[n]? with
    | some (.lst xs) => k n xs ds L
    | _ => none
  | _ => none
theorem md_mut {k : Nat → List P → List D → M D} {r : V → List V → Hp → VK → Prop} (h : ∀ (F : Hp) (ρ : Nat → Addr) (L : List MO) (H : Hp) (n : Nat) (xs : List P) (us vs : List V) (ds : List D) (W : Value → Option Addr → Hp → Prop) (Q : VK),
    R g F ρ L H → L[n]? = some (.lst xs) → H (ρ n) = some (.lst us) → IsA g F us xs → relA g F ρ L.length vs ds → Post g (relV g) F ρ L.length W Q (k n xs ds L) → r (.ref (ρ n)) vs H Q) : MtD g (mutL k) r := by
  intro F ρ L H x d vs ds W Q hR hx ha hp
  unfold mutL at hp
  cases d with
  | v p => exact False.elim hp
  | r n =>
    dsimp only at hp
    match e : L[n]? with
    | some (.lst xs) =>
      rw [e] at hp
      obtain ⟨us, h1, h2⟩ := hR.lstAt e
      rw [hx.2]
      exact h F ρ L H n xs us vs ds W Q hR e h1 h2 ha hp
    | none => rw [e] at hp; exact False.elim hp
    | some (.dk _) => rw [e] at hp; exact False.elim hp
    | some (.dn _) => rw [e] at hp; exact False.elim hp
    | some (.ins _ _) => rw [e] at hp; exact False.elim hp
    | some (.set _) => rw [e] at hp; exact False.elim hp
    | some .dead => rw [e] at hp; exact False.elim hp
def appendD : D → List D → M D := mutL fun n xs ds L => match ds with
  | [.v p] => if xs.length < sizeLine then some (.ok (.v .non), L.set n (.lst (xs ++ [p]))) else none
  | _ => none
theorem md_append : MtD g appendD rAppend := md_mut fun F ρ L H n xs us vs ds W Q hR e h1 h2 ha hp => by
  match ds, ha, hp with
  | [.v p], ha, hp =>
    obtain ⟨v, rfl, hv⟩ := rel1 ha
    dsimp only at hp
    by_cases hz : xs.length < sizeLine
    · rw [if_pos hz] at hp
      exact ⟨ρ n, us, v, rfl, rfl, h1, by rw [h2.len]; exact hz, hp.putL (us := us) (x := v) hR e Is.non (h2.append (.cons hv .nil))⟩
    · rw [if_neg hz] at hp
      exact False.elim hp
  | [], _, hp => exact False.elim hp
  | [.r _], _, hp => exact False.elim hp
  | .v _ :: _ :: _, _, hp => exact False.elim hp
  | .r _ :: _ :: _, _, hp => exact False.elim hp
end
end DN

end
section
set_option Elab.async false
set_option linter.all false
set_option maxRecDepth 100000
set_option maxHeartbeats 4000000
/-! D8: what is walked; for, while. -/
namespace DN
open PySem L2
abbrev Itm := List P × (List MO → Prop)
/-- a source that yields the items xs while ok stands -/
def relI (g : G) (F0 : Hp) (ρ0 : Nat → Addr) (n0 : Nat) (J : It) (s : Itm) : Prop := ∀ (F : Hp) (ρ : Nat → Addr) (L : List MO) (H : Hp), Ext F0 ρ0 n0 F ρ L.length → R g F ρ L H → s.2 L →
  (∀ i p, s.1[i]? = some p → J.go i H ∧ ∀ x H', J.yld i H x H' → ∃ F', Sub F F' ∧ R g F' ρ L H' ∧ Is g F' x p) ∧ J.stop s.1.length H
def tI (g : G) (W : WX) (f : Tau → M Itm) : TI := fun σ H R' => Sat g (relI g) W [] f σ H R'
theorem PI.weak {X : Cx} {tg e : Expr} {t t' : TI} (h : PI X tg e t) (w : ∀ σ H Q, t' σ H Q → t σ H Q) : PI X tg e t' := ⟨fun pins s σ H Q I q => h.run pins s σ H Q I (w σ H Q q)⟩
theorem PI.or {X : Cx} {tg e : Expr} {t t' : TI} (h : PI X tg e t) (h' : PI X tg e t') : PI X tg e (fun σ H Q => t σ H Q ∨ t' σ H Q) := ⟨fun pins s σ H Q I q => by
  rcases q with q | q
  · exact h.run pins s σ H Q I q
  · exact h'.run pins s σ H Q I q⟩
def chars (z : Str) : List P := z.cps.toList.map fun c => P.str ⟨#[c]⟩
/-- lists, tuples, texts -/
def itmD : D → M Itm := fun d L => match d with
  | .v (.tup xs) => some (.ok (xs, fun _ => True), L)
  | .v (.str z) => some (.ok (chars z, fun _ => True), L)
  | .v (.lst xs) => some (.ok (xs, fun _ => True), L)
  | .v (.scr ns) => some (.ok (ns.map P.int, fun _ => True), L)
  | .r n => match L[n]? with
    | some (.lst xs) => some (.ok (xs, fun L' => L'[n]? = some (.lst xs)), L)
    | _ => none
  | _ => none
section
variable {X : Cx} {g : G} {W : WX} {a b c e o tg : Expr} {fa fb fc f : Tau → M D} {ta : Tau → M Bool} {pos : Pos} {es : List Expr} {fs : Tau → M (List D)} {s1 s2 : SX}
theorem relI_list {F0 : Hp} {ρ0 : Nat → Addr} {n0 : Nat} {ad : Addr} {ok : List MO → Prop} {xs : List P} (h : ∀ (F : Hp) (ρ : Nat → Addr) (L : List MO) (H : Hp), Ext F0 ρ0 n0 F ρ L.length → R g F ρ L H → ok L → ∃ vs, SqL g.K H ad vs ∧ IsA g F vs xs) : relI g F0 ρ0 n0 (Itl g.K ad) (xs, ok) := by
  intro F ρ L H hE hR hk
  obtain ⟨vs, h1, h2⟩ := h F ρ L H hE hR hk
  refine ⟨fun i p hp => ?_, vs, h1, by rw [h2.len]; exact Nat.le_refl _⟩
  obtain ⟨v, h3, h4⟩ := h2.get hp
  refine ⟨⟨vs, v, h1, h3⟩, fun x H' hy => ?_⟩
  obtain ⟨rfl, hy⟩ := hy
  have e1 := hy vs h1
  rw [h3] at e1
  cases e1
  exact ⟨F, Sub.refl _, hR, h4⟩
theorem relI_tup {F0 : Hp} {ρ0 : Nat → Addr} {n0 : Nat} {ad : Addr} {ok : List MO → Prop} {xs : List P} (h : ∀ (F : Hp) (ρ : Nat → Addr) (L : List MO) (H : Hp), Ext F0 ρ0 n0 F ρ L.length → R g F ρ L H → ok L → ∃ vs, SqT g.K H ad vs ∧ IsA g F vs xs) : relI g F0 ρ0 n0 (Itt g.K ad) (xs, ok) := by
  intro F ρ L H hE hR hk
  obtain ⟨vs, h1, h2⟩ := h F ρ L H hE hR hk
  refine ⟨fun i p hp => ?_, vs, h1, by rw [h2.len]; exact Nat.le_refl _⟩
  obtain ⟨v, h3, h4⟩ := h2.get hp
  refine ⟨⟨vs, v, h1, h3⟩, fun x H' hy => ?_⟩
  obtain ⟨rfl, hy⟩ := hy
  have e1 := hy vs h1
  rw [h3] at e1
  cases e1
  exact ⟨F, Sub.refl _, hR, h4⟩
theorem relI_str {F0 : Hp} {ρ0 : Nat → Addr} {n0 : Nat} {ok : List MO → Prop} (z : Str) : relI g F0 ρ0 n0 (Its z) (chars z, ok) := by
  intro F ρ L H hE hR hk
  have hl : (chars z).length = z.cps.size := by unfold chars; rw [List.length_map, Array.length_toList]
  refine ⟨fun i p hp => ?_, by rw [hl]; exact Nat.le_refl _⟩
  have hi : i < z.cps.size := by rw [← hl]; exact (List.getElem?_eq_some_iff.mp hp).1
  refine ⟨hi, fun x H' hy => ?_⟩
  obtain ⟨rfl, c, hc, rfl⟩ := hy
  refine ⟨F, Sub.refl _, hR, ?_⟩
  unfold chars at hp
  rw [List.getElem?_map, Array.getElem?_toList, hc] at hp
  cases hp
  exact .str _
theorem relI_range {F0 : Hp} {ρ0 : Nat → Addr} {n0 : Nat} {ok : List MO → Prop} (lo : Int) (n : Nat) : relI g F0 ρ0 n0 (Itr lo n) ((List.range n).map (fun i : Nat => P.int (lo + i)), ok) := by
  intro F ρ L H hE hR hk
  have hl : ((List.range n).map (fun i : Nat => P.int (lo + i))).length = n := by rw [List.length_map, List.length_range]
  refine ⟨fun i p hp => ?_, by show n ≤ _; rw [hl]; exact Nat.le_refl _⟩
  have hi : i < n := by rw [← hl]; exact (List.getElem?_eq_some_iff.mp hp).1
  refine ⟨hi, fun x H' hy => ?_⟩
  obtain ⟨rfl, rfl⟩ := hy
  refine ⟨F, Sub.refl _, hR, ?_⟩
  rw [List.getElem?_map, List.getElem?_range hi] at hp
  cases hp
  exact .int _
/-- lists, tuples, texts -/
def seqI (f : Tau → M D) (τ : Tau) : M Itm := f τ >>= itmD
theorem itm_list {F : Hp} {ρ : Nat → Addr} {L : List MO} {H : Hp} {x : V} {d : D} {Wq : Value → Option Addr → Hp → Prop} {Q : It → Hp → Prop} (hR : R g F ρ L H) (hx : IsD g F ρ L.length x d) (h1 : ∀ xs, d ≠ .v (.tup xs)) (h2 : ∀ z, d ≠ .v (.str z)) (hp : Post g (relI g) F ρ L.length Wq Q (itmD d L)) :
    ∃ a, x = .ref a ∧ (∃ xs, SqL g.K H a xs) ∧ Q (Itl g.K a) H := by
  cases d with
  | r n =>
    unfold itmD at hp
    dsimp only at hp
    match e : L[n]? with
    | some (.lst xs) =>
      rw [e] at hp
      obtain ⟨us, h1, h2⟩ := hR.lstAt e
      refine ⟨ρ n, hx.2, ⟨us, SqL.of h1⟩, hp F ρ _ H Ext.refl hR (relI_list fun F' ρ' L' H' hE hR' hk => ?_)⟩
      obtain ⟨vs, q1, q2⟩ := hR'.lstAt hk
      exact ⟨vs, by rw [← hE.rho n hx.1]; exact SqL.of q1, q2⟩
    | none => rw [e] at hp; exact False.elim hp
    | some (.dk _) => rw [e] at hp; exact False.elim hp
    | some (.dn _) => rw [e] at hp; exact False.elim hp
    | some (.ins _ _) => rw [e] at hp; exact False.elim hp
    | some (.set _) => rw [e] at hp; exact False.elim hp
    | some .dead => rw [e] at hp; exact False.elim hp
  | v p =>
    cases p with
    | tup xs => exact absurd rfl (h1 xs)
    | lst xs =>
      obtain ⟨a, vs, e1, h1, h2⟩ := Is.inv_lst hx
      refine ⟨a, e1, ⟨vs, SqL.of (hR.sub _ _ h1)⟩, hp F ρ _ H Ext.refl hR (relI_list fun F' ρ' L' H' hE hR' hk => ⟨vs, SqL.of (hR'.sub _ _ (hE.sub _ _ h1)), IsA.mono hE.sub h2⟩)⟩
    | scr ns =>
      cases hx with
      | scr h1 => exact ⟨_, rfl, ⟨_, hR.sub.sqL h1⟩, hp F ρ _ H Ext.refl hR (relI_list fun F' ρ' L' H' hE hR' hk => ⟨_, hR'.sub.sqL (hE.sub.sqL h1), isA_ints g F' ns⟩)⟩
    | str z => exact absurd rfl (h2 z)
    | _ => exact False.elim hp
theorem itm_tup {F : Hp} {ρ : Nat → Addr} {L : List MO} {H : Hp} {x : V} {xs : List P} {Wq : Value → Option Addr → Hp → Prop} {Q : It → Hp → Prop} (hR : R g F ρ L H) (hx : IsD g F ρ L.length x (.v (.tup xs))) (hp : Post g (relI g) F ρ L.length Wq Q (itmD (.v (.tup xs)) L)) :
    ∃ a, x = .ref a ∧ (∃ xs, SqT g.K H a xs) ∧ Q (Itt g.K a) H := by
  obtain ⟨a, vs, e1, h1, h2⟩ := Is.inv_tup hx
  exact ⟨a, e1, ⟨vs, hR.sub.sqT h1⟩, hp F ρ _ H Ext.refl hR (relI_tup fun F' ρ' L' H' hE hR' hk => ⟨vs, hR'.sub.sqT (hE.sub.sqT h1), IsA.mono hE.sub h2⟩)⟩
theorem itm_str {F : Hp} {ρ : Nat → Addr} {L : List MO} {H : Hp} {x : V} {z : Str} {Wq : Value → Option Addr → Hp → Prop} {Q : It → Hp → Prop} (hR : R g F ρ L H) (hx : IsD g F ρ L.length x (.v (.str z))) (hp : Post g (relI g) F ρ L.length Wq Q (itmD (.v (.str z)) L)) :
    ∃ z, x = .str z ∧ Q (Its z) H := ⟨z, Is.inv_str hx, hp F ρ _ H Ext.refl hR (relI_str z)⟩
theorem di_seq (hK : X.K = g.K) (he : PE X e (tE g W f)) : PI X tg e (tI g W (seqI f)) := by
  refine PI.weak (PI.or (pi_list he) (PI.or (pi_tup he) (pi_str he))) fun σ H Q h => ?_
  obtain ⟨F, ρ, τ, L, hR, hS, hc, hp⟩ := h
  have hp' : Post g (relI g) F ρ L.length (fun c d H' => W c d σ H') Q (M.bnd (f τ) itmD L) := hp
  unfold M.bnd at hp'
  rw [hK]
  match e : f τ L with
  | none => rw [e] at hp'; exact False.elim hp'
  | some (.ex c fs, L1) =>
    rw [e] at hp'
    exact .inl ⟨F, ρ, τ, L, hR, hS, hc, by rw [e]; exact hp'⟩
  | some (.ok d, L1) =>
    rw [e] at hp'
    by_cases h1 : ∃ xs, d = .v (.tup xs)
    · obtain ⟨xs, rfl⟩ := h1
      refine .inr (.inl ⟨F, ρ, τ, L, hR, hS, hc, ?_⟩)
      rw [e]
      exact fun F1 ρ1 x H1 a1 a2 a3 => itm_tup a2 a3 (hp'.ext a1)
    · by_cases h2 : ∃ z, d = .v (.str z)
      · obtain ⟨z, rfl⟩ := h2
        refine .inr (.inr ⟨F, ρ, τ, L, hR, hS, hc, ?_⟩)
        rw [e]
        exact fun F1 ρ1 x H1 a1 a2 a3 => itm_str a2 a3 (hp'.ext a1)
      · refine .inl ⟨F, ρ, τ, L, hR, hS, hc, ?_⟩
        rw [e]
        exact fun F1 ρ1 x H1 a1 a2 a3 => itm_list a2 a3 (fun xs z => h1 ⟨xs, z⟩) (fun z q => h2 ⟨z, q⟩) (hp'.ext a1)
/-! ### range -/
noncomputable def rng1 : List D → M Itm := fun ds L => match ds with
  | [.v (.int j)] => @ite _ (-(2 ^ 62) ≤ j ∧ j < 2 ^ 62) (Classical.propDecidable _) (some (.ok ((List.range j.toNat).map (fun i : Nat => P.int (0 + i)), fun _ => True), L)) none
  | _ => none
noncomputable def rng2 : List D → M Itm := fun ds L => match ds with
  | [.v (.int i), .v (.int j)] => @ite _ ((-(2 ^ 62) ≤ i ∧ i < 2 ^ 62) ∧ -(2 ^ 62) ≤ j ∧ j < 2 ^ 62) (Classical.propDecidable _) (some (.ok ((List.range (j - i).toNat).map (fun k : Nat => P.int (i + k)), fun _ => True), L)) none
  | _ => none
def argI (op : List D → M Itm) (fs : Tau → M (List D)) (τ : Tau) : M Itm := fs τ >>= op
theorem di_range1 {p : Pos} (hg : Gl X "range") (hm : X.mg "range" = none) (ha : PA X [a] (tA g W fs)) (hs : starEach [a] X.env = [(false, eval a X.env)] := by rfl) : PI X tg (.Call (.Name "range" p) [a] [] pos) (tI g W (argI rng1 fs)) := by
  refine PI.weak (pi_range1 hg hm ha hs) fun σ H Q h => ?_
  refine (Sat.bind (ra := relA g) h).mono fun xs H2 h2 => ?_
  obtain ⟨F, ρ, τ, L, ds, hR, hS, hc, hr, hp⟩ := h2
  unfold rng1 at hp
  match ds, hr, hp with
  | [.v (.int j)], hr, hp =>
    obtain ⟨v, rfl, hv⟩ := rel1 hr
    dsimp only at hp
    by_cases hz : -(2 ^ 62) ≤ j ∧ j < 2 ^ 62
    · rw [if_pos hz] at hp
      exact ⟨j, by rw [Is.inv_int hv], hz.1, hz.2, hp F ρ _ H2 Ext.refl hR (relI_range 0 j.toNat)⟩
    · rw [if_neg hz] at hp
      exact False.elim hp
theorem di_range2 {p : Pos} (hg : Gl X "range") (hm : X.mg "range" = none) (ha : PA X [a, b] (tA g W fs)) (hs : starEach [a, b] X.env = [(false, eval a X.env), (false, eval b X.env)] := by rfl) (hs2 : starEach [b] X.env = [(false, eval b X.env)] := by rfl) : PI X tg (.Call (.Name "range" p) [a, b] [] pos) (tI g W (argI rng2 fs)) := by
  refine PI.weak (pi_range2 hg hm ha hs hs2) fun σ H Q h => ?_
  refine (Sat.bind (ra := relA g) h).mono fun xs H2 h2 => ?_
  obtain ⟨F, ρ, τ, L, ds, hR, hS, hc, hr, hp⟩ := h2
  unfold rng2 at hp
  match ds, hr, hp with
  | [.v (.int i), .v (.int j)], hr, hp =>
    obtain ⟨v, w, rfl, hv, hw⟩ := rel2 hr
    dsimp only at hp
    by_cases hz : (-(2 ^ 62) ≤ i ∧ i < 2 ^ 62) ∧ -(2 ^ 62) ≤ j ∧ j < 2 ^ 62
    · rw [if_pos hz] at hp
      exact ⟨i, j, by rw [Is.inv_int hv, Is.inv_int hw], ⟨hz.1.1, hz.1.2, hz.2.1, hz.2.2⟩, hp F ρ _ H2 Ext.refl hR (relI_range i (j - i).toNat)⟩
    · rw [if_neg hz] at hp
      exact False.elim hp
/-! ### targets -/
abbrev TgD := P → Tau → Option Tau
def TgOk (g : G) (t : TG) (tg : TgD) : Prop := ∀ (F : Hp) (ρ : Nat → Addr) (n : Nat) (L : List MO) (H : Hp) (v : V) (p : P) (σ : St) (τ τ' : Tau) (Q : St → Hp → Prop), R g F ρ L H → Sl g F ρ L.length σ τ → Is g F v p → tg p τ = some τ' →
  (∀ σ', Sl g F ρ L.length σ' τ' → Q σ' H) → t v σ H Q
def tgN (i : Nat) : TgD := fun p τ => some (τ.set i (some (.v p)))
theorem tg_name (i : Nat) : TgOk g (gName i) (tgN i) := by
  intro F ρ n L H v p σ τ τ' Q hR hS hv e hQ
  cases e
  exact hQ _ (hS.set (v := v) (d := .v p) hv i)
def tgs : List TgD → List P → Tau → Option Tau
  | [], [], τ => some τ
  | t :: ts, p :: ps, τ => (t p τ).bind (tgs ts ps)
  | _, _, _ => none
def TgsOk (g : G) (t : TGs) (ts : List TgD) : Prop := ∀ (F : Hp) (ρ : Nat → Addr) (L : List MO) (H : Hp) (vs : List V) (ps : List P) (σ : St) (τ τ' : Tau) (Q : St → Hp → Prop), R g F ρ L H → Sl g F ρ L.length σ τ → IsA g F vs ps → tgs ts ps τ = some τ' →
  (∀ σ', Sl g F ρ L.length σ' τ' → Q σ' H) → t vs σ H Q
theorem tgs_nil : TgsOk g gNil [] := by
  intro F ρ L H vs ps σ τ τ' Q hR hS hv e hQ
  cases hv with
  | nil =>
    cases e
    exact ⟨rfl, hQ _ hS⟩
  | cons _ _ => cases e
theorem tgs_cons {t : TG} {u : TGs} {x : TgD} {xs : List TgD} (h1 : TgOk g t x) (h2 : TgsOk g u xs) : TgsOk g (gCons t u) (x :: xs) := by
  intro F ρ L H vs ps σ τ τ' Q hR hS hv e hQ
  cases hv with
  | nil => cases e
  | cons hv ht =>
    unfold tgs at e
    rename_i v p vs ps
    match e1 : x p τ with
    | none => rw [e1] at e; cases e
    | some τ1 =>
      rw [e1] at e
      exact ⟨v, vs, rfl, h1 F ρ 0 L H v p σ τ τ1 _ hR hS hv e1 fun σ1 hS1 => h2 F ρ L H vs ps σ1 τ1 τ' Q hR hS1 ht e hQ⟩
def tgT (ts : List TgD) : TgD := fun p τ => match p with
  | .tup ps => if ps.length = ts.length then tgs ts ps τ else none
  | _ => none
theorem tg_tup {K : PySem.W.Frag} {n : Nat} {t : TGs} {ts : List TgD} (hK : K = g.K) (h : TgsOk g t ts) (hn : ts.length = n) : TgOk g (gTup K n t) (tgT ts) := by
  subst hK
  intro F ρ m L H v p σ τ τ' Q hR hS hv e hQ
  unfold tgT at e
  cases p with
  | tup ps =>
    dsimp only at e
    by_cases hz : ps.length = ts.length
    · rw [if_pos hz] at e
      obtain ⟨a, vs, e1, h1, h2⟩ := Is.inv_tup hv
      exact ⟨a, vs, e1, hR.sub.sqT h1, by rw [h2.len, hz, hn], h F ρ L H vs ps σ τ τ' Q hR hS h2 e hQ⟩
    · rw [if_neg hz] at e
      cases e
  | _ => cases e
/-! ### for -/
open Classical in
noncomputable def forG (ok : List MO → Prop) (tg : TgD) (body : SX) : List P → SX
  | [] => fun τ L => if ok L then some (.nx τ, L) else none
  | p :: ps => fun τ L => if ok L then (match tg p τ with
      | none => none
      | some τ1 => match body τ1 L with
        | some (.nx τ2, L2) => forG ok tg body ps τ2 L2
        | some (.ct τ2, L2) => forG ok tg body ps τ2 L2
        | some (.bk τ2, L2) => some (.nx τ2, L2)
        | o => o) else none
noncomputable def forS (src : Tau → M Itm) (tg : TgD) (body : SX) : SX := eThen src fun it => forG it.2 tg body it.1
theorem for_sat {wi : Tau → M Itm} {t : TG} {tg : TgD} (ht : TgOk g t tg) {D : Ends} {σ : St} {H : Hp} (h : tS g W (forS wi tg s1) D σ H) : tFor (tI g W wi) t (tS g W s1) D σ H := by
  refine (SatS.bind (ra := relI g) h).mono fun J H1 h1 => ?_
  obtain ⟨F0, ρ0, τ0, L0, it, hR0, hS0, _, hsrc, hp0⟩ := h1
  obtain ⟨xs, ok⟩ := it
  refine ⟨fun i m σ H => m = xs.length - i ∧ i ≤ xs.length ∧ ∃ F ρ τ L, Ext F0 ρ0 L0.length F ρ L.length ∧ R g F ρ L H ∧ Sl g F ρ L.length σ τ ∧ PostS g F ρ L.length W D (forG ok tg s1 (xs.drop i) τ L),
    ⟨xs.length, by simp, Nat.zero_le _, F0, ρ0, τ0, L0, Ext.refl, hR0, hS0, hp0⟩, ?_⟩
  rintro i m σ2 H2 ⟨rfl, hi, F, ρ, τ, L, hE, hR, hS, hp⟩
  by_cases hlt : i < xs.length
  · refine .inr ?_
    have e0 : xs[i]? = some xs[i] := List.getElem?_eq_getElem hlt
    rw [List.drop_eq_getElem_cons hlt] at hp
    unfold forG at hp
    by_cases hk : ok L
    · rw [if_pos hk] at hp
      obtain ⟨go, yl⟩ := (hsrc F ρ L H2 hE hR hk).1 i _ e0
      refine ⟨go, fun σ' H' => i + 1 ≤ xs.length ∧ ∃ F ρ τ L, Ext F0 ρ0 L0.length F ρ L.length ∧ R g F ρ L H' ∧ Sl g F ρ L.length σ' τ ∧ PostS g F ρ L.length W D (forG ok tg s1 (xs.drop (i + 1)) τ L), fun σ' H' q => ⟨xs.length - (i + 1), by omega, rfl, q⟩, fun x H' hy => ?_⟩
      obtain ⟨F', sb, hR', hx⟩ := yl x H' hy
      have e1 : Ext F ρ L.length F' ρ L.length := ⟨sb, fun _ _ => rfl, Nat.le_refl _⟩
      match et : tg xs[i] τ with
      | none => rw [et] at hp; exact False.elim hp
      | some τ1 =>
        rw [et] at hp
        dsimp only at hp
        refine ht F' ρ 0 L H' x _ σ2 τ τ1 _ hR' (hS.ext e1) hx et fun σ3 hS3 => ⟨F', ρ, τ1, L, hR', hS3, (fun y hy => by cases hy), ?_⟩
        match eb : s1 τ1 L with
        | none => rw [eb] at hp; exact hp
        | some (.nx τ2, L2) =>
          rw [eb] at hp
          exact fun F3 ρ3 H3 σ4 x1 x2 x3 => ⟨hlt, F3, ρ3, τ2, L2, hE.trans (e1.trans x1), x2, x3, hp.ext (e1.trans x1)⟩
        | some (.ct τ2, L2) =>
          rw [eb] at hp
          exact fun F3 ρ3 H3 σ4 x1 x2 x3 => ⟨hlt, F3, ρ3, τ2, L2, hE.trans (e1.trans x1), x2, x3, hp.ext (e1.trans x1)⟩
        | some (.bk τ2, L2) =>
          rw [eb] at hp
          exact fun F3 ρ3 H3 σ4 x1 x2 x3 => hp F3 ρ3 H3 σ4 (e1.trans x1) x2 x3
        | some (.rt d, L2) =>
          rw [eb] at hp
          exact PostS.ext (D := D) (W := W) e1 hp
        | some (.ex τ2 c fs, L2) =>
          rw [eb] at hp
          exact PostS.ext (D := D) (W := W) e1 hp
    · rw [if_neg hk] at hp
      exact False.elim hp
  · have e : i = xs.length := by omega
    subst e
    rw [List.drop_length] at hp
    unfold forG at hp
    by_cases hk : ok L
    · rw [if_pos hk] at hp
      exact .inl ⟨(hsrc F ρ L H2 hE hR hk).2, hp F ρ H2 σ2 Ext.refl hR hS⟩
    · rw [if_neg hk] at hp
      exact False.elim hp
theorem ds_for {iter : Expr} {body : List Stmt} {wi : Tau → M Itm} {t : TG} {td : TgD} (hp : PassesOwn (model X.prog X.w) X.A X.env X.xe) (hc : X.calm = true) (hi : PI X tg iter (tI g W wi)) (hg : PG X tg t) (ht : TgOk g t td) (hb : PSs X body (tS g W s1))
    (hs : ∀ x, foldedSetIterable iter X.env x = pure x := by intro _; rfl) : PS X (.For tg iter body [] pos) (tS g W (forS wi td s1)) := PS.weak (ps_for hp hc hi hg hb hs) fun D σ H h => for_sat ht h
/-! ### while -/
def iterW (c : Tau → M Bool) (b : SX) : Nat → SX
  | 0 => fun _ _ => none
  | n + 1 => fun τ L => match c τ L with
    | none => none
    | some (.ex k fs, L1) => some (.ex τ k fs, L1)
    | some (.ok false, L1) => some (.nx τ, L1)
    | some (.ok true, L1) => match b τ L1 with
      | some (.nx τ2, L2) => iterW c b n τ2 L2
      | some (.ct τ2, L2) => iterW c b n τ2 L2
      | some (.bk τ2, L2) => some (.nx τ2, L2)
      | o => o
theorem iterW_more {c : Tau → M Bool} {b : SX} : ∀ {n : Nat} {τ : Tau} {L : List MO} {r : Out × List MO}, iterW c b n τ L = some r → iterW c b (n + 1) τ L = some r
  | 0, _, _, _, h => by cases h
  | n + 1, τ, L, r, h => by
    unfold iterW at h ⊢
    match e : c τ L with
    | none => rw [e] at h; cases h
    | some (.ex k fs, L1) => rw [e] at h; exact h
    | some (.ok false, L1) => rw [e] at h; exact h
    | some (.ok true, L1) =>
      rw [e] at h
      dsimp only at h ⊢
      match eb : b τ L1 with
      | none => rw [eb] at h; cases h
      | some (.nx τ2, L2) => rw [eb] at h; exact iterW_more h
      | some (.ct τ2, L2) => rw [eb] at h; exact iterW_more h
      | some (.bk τ2, L2) => rw [eb] at h; exact h
      | some (.rt d, L2) => rw [eb] at h; exact h
      | some (.ex τ2 k fs, L2) => rw [eb] at h; exact h
theorem iterW_le {c : Tau → M Bool} {b : SX} {τ : Tau} {L : List MO} {r : Out × List MO} {n m : Nat} (hm : n ≤ m) (h : iterW c b n τ L = some r) : iterW c b m τ L = some r := by
  induction hm with
  | refl => exact h
  | step _ ih => exact iterW_more ih
open Classical in
noncomputable def whileS (c : Tau → M Bool) (b : SX) : SX := fun τ L => if h : ∃ n, (iterW c b n τ L).isSome = true then iterW c b h.choose τ L else none
theorem whileS_of {c : Tau → M Bool} {b : SX} {τ : Tau} {L : List MO} {r : Out × List MO} (n : Nat) (h : iterW c b n τ L = some r) : whileS c b τ L = some r := by
  have hx : ∃ n, (iterW c b n τ L).isSome = true := ⟨n, by rw [h]; rfl⟩
  unfold whileS
  rw [dif_pos hx]
  obtain ⟨r', e⟩ := Option.isSome_iff_exists.mp hx.choose_spec
  rw [e]
  have e1 := iterW_le (Nat.le_max_left n hx.choose) h
  have e2 := iterW_le (Nat.le_max_right n hx.choose) e
  rw [e1] at e2
  exact e2.symm
theorem while_sat {D : Ends} {σ : St} {H : Hp} (h : tS g W (whileS ta s1) D σ H) : tWhile (tT g W ta) (tS g W s1) D σ H := by
  obtain ⟨F, ρ, τ, L, hR, hS, hc, hp⟩ := h
  unfold whileS at hp
  by_cases hx : ∃ n, (iterW ta s1 n τ L).isSome = true
  · rw [dif_pos hx] at hp
    refine ⟨fun m σ H => ∃ F ρ τ L, R g F ρ L H ∧ Sl g F ρ L.length σ τ ∧ PostS g F ρ L.length W D (iterW ta s1 m τ L), ⟨hx.choose, F, ρ, τ, L, hR, hS, hp⟩, ?_⟩
    rintro m σ H ⟨F, ρ, τ, L, hR, hS, hp⟩
    cases m with
    | zero => exact False.elim hp
    | succ m =>
      have hp' : SatS g W [] (eThen ta fun b => if b then (fun τ L1 => match s1 τ L1 with
          | some (.nx τ2, L2) => iterW ta s1 m τ2 L2
          | some (.ct τ2, L2) => iterW ta s1 m τ2 L2
          | some (.bk τ2, L2) => some (.nx τ2, L2)
          | o => o) else nxS) D σ H := by
        refine ⟨F, ρ, τ, L, hR, hS, (fun y hy => by cases hy), ?_⟩
        unfold iterW at hp
        unfold eThen
        match e : ta τ L with
        | none => rw [e] at hp; exact hp
        | some (.ex k fs, L1) => rw [e] at hp; exact hp
        | some (.ok false, L1) => rw [e] at hp; exact hp
        | some (.ok true, L1) => rw [e] at hp; exact hp
      refine (SatS.bindB hp').mono fun b H1 h1 => ?_
      cases b with
      | false =>
        obtain ⟨F, ρ, τ, L, hR, hS, hc, hp⟩ := h1
        exact hp F ρ H1 σ Ext.refl hR hS
      | true =>
        rw [if_pos rfl]
        obtain ⟨F, ρ, τ, L, hR, hS, hc, hp⟩ := h1
        refine ⟨fun σ' H' => ∃ F ρ τ L, R g F ρ L H' ∧ Sl g F ρ L.length σ' τ ∧ PostS g F ρ L.length W D (iterW ta s1 m τ L), fun σ' H' q => ⟨m, Nat.lt_succ_self m, q⟩, F, ρ, τ, L, hR, hS, (fun y hy => by cases hy), ?_⟩
        have hp2 : PostS g F ρ L.length W D (match s1 τ L with
          | some (.nx τ2, L2) => iterW ta s1 m τ2 L2
          | some (.ct τ2, L2) => iterW ta s1 m τ2 L2
          | some (.bk τ2, L2) => some (.nx τ2, L2)
          | o => o) := hp
        match eb : s1 τ L with
        | none => rw [eb] at hp2; exact hp2
        | some (.nx τ2, L2) =>
          rw [eb] at hp2
          exact fun F3 ρ3 H3 σ4 x1 x2 x3 => ⟨F3, ρ3, τ2, L2, x2, x3, hp2.ext x1⟩
        | some (.ct τ2, L2) =>
          rw [eb] at hp2
          exact fun F3 ρ3 H3 σ4 x1 x2 x3 => ⟨F3, ρ3, τ2, L2, x2, x3, hp2.ext x1⟩
        | some (.bk τ2, L2) =>
          rw [eb] at hp2
          exact hp2
        | some (.rt d, L2) => rw [eb] at hp2; exact hp2
        | some (.ex τ2 c fs, L2) => rw [eb] at hp2; exact hp2
  · rw [dif_neg hx] at hp
    exact False.elim hp
theorem ds_while {body : List Stmt} (hp : PassesOwn (model X.prog X.w) X.A X.env X.xe) (hc : PT X c (tT g W ta)) (hb : PSs X body (tS g W s1)) : PS X (.While c body [] pos) (tS g W (whileS ta s1)) := PS.weak (ps_while hp hc hb) fun D σ H h => while_sat h
end
end DN

end
section
set_option Elab.async false
set_option linter.all false
set_option maxRecDepth 100000
set_option maxHeartbeats 4000000
/-! D9: defs, calls, methods, instances, attributes. -/
namespace DN
open PySem PySem.Spec PyProof.Rows L2
/-! ### a def's promise -/
def spF (g : G) (n : Nat) (f : List D → M D) : Sp := fun vs H Q E => ∃ F ρ L ds, R g F ρ L H ∧ relA g F ρ L.length vs ds ∧ ds.length = n ∧ Post g (relV g) F ρ L.length E Q (f ds L)
def bodyF (N : Nat) (s : SX) (ds : List D) : M D := fun L => match s (ds.map some ++ List.replicate (N - ds.length) none) L with
  | some (.nx _, L1) => some (.ok (.v .non), L1)
  | some (.rt d, L1) => some (.ok d, L1)
  | some (.ex _ c fs, L1) => some (.ex c fs, L1)
  | _ => none
theorem Sl.start {g : G} {F : Hp} {ρ : Nat → Addr} {n m : Nat} : ∀ {vs : List V} {ds : List D}, relA g F ρ n vs ds → Sl g F ρ n (vs.map some ++ List.replicate m none) (ds.map some ++ List.replicate m none) := by
  intro vs ds h
  have hl := prd_len h
  refine ⟨by simp [hl], fun i d q => ?_⟩
  by_cases hi : i < ds.length
  · rw [List.getElem?_append_left (by simpa using hi), List.getElem?_map] at q
    rw [List.getElem?_append_left (by simp [hl]; exact hi), List.getElem?_map]
    have key : ∀ {vs : List V} {ds : List D} {i : Nat} {d : D}, Paired (fun v d => IsD g F ρ n v d) vs ds → ds[i]? = some d → ∃ v, vs[i]? = some v ∧ IsD g F ρ n v d := by
      intro vs ds i d h
      induction h generalizing i with
      | nil => intro q; simp at q
      | cons h t ih =>
        cases i with
        | zero => intro q; simp at q; subst q; exact ⟨_, rfl, h⟩
        | succ i => intro q; simpa using ih (by simpa using q)
    cases e : ds[i]? with
    | none => rw [e] at q; cases q
    | some d' =>
      rw [e] at q
      cases q
      obtain ⟨v, h1, h2⟩ := key h e
      exact ⟨v, by rw [h1]; rfl, h2⟩
  · rw [List.getElem?_append_right (by simpa using Nat.not_lt.mp hi), List.getElem?_replicate] at q
    split at q <;> cases q
section
variable {P0 : Program} {w : World} {K : PySem.W.Frag} {mg : Str → Option Value} {base : Heap} {g : G}
/-- THE RULE for a def -/
theorem fn_ok {x qual : Str} {st : Stmt} {f : Addr} {fd : FuncData} {N ps : List Str} {k m n : Nat} {s : SX} (F : Fun K x qual st f fd) (S : FnScope N ps (defScope st)) (hm : N.length = m) (hn : ps.length = n)
    (hb : ∀ (cdv : Value) (A : Around) (outer : List Env) (s0 : Shared) (H : Hp) (E : XK), Room k (A.deeper (envOfC qual (defScope st) s0.heap.objs.size f cdv)) →
      Takes (cxOf (L2.CX P0 w) P0 w K mg base N qual (defScope st) f cdv A outer s0 H E) (fun cls d _ H => E cls d H) →
      PassesOwn (model P0 w) (A.deeper (envOfC qual (defScope st) s0.heap.objs.size f cdv)) (envOfC qual (defScope st) s0.heap.objs.size f cdv) (cxOf (L2.CX P0 w) P0 w K mg base N qual (defScope st) f cdv A outer s0 H E).xe →
      PSs (cxOf (L2.CX P0 w) P0 w K mg base N qual (defScope st) f cdv A outer s0 H E) (defBody st) (tS g (fun cls d _ H => E cls d H) s)) :
    FnOk P0 w K mg base (L2.CX P0 w) (k + 1) f fd ps (spF g n (bodyF m s)) := by
  refine F.okX S (fun vs H Q E h => ?_) (fun cdv A outer s0 H vs Q E hr h => ?_)
  · obtain ⟨_, _, _, ds, _, ha, hl, _⟩ := h
    rw [prd_len ha, hl, hn]
  · obtain ⟨F0, ρ, L, ds, hR, ha, hl, hp⟩ := h
    refine ⟨_, hb cdv A outer s0 H E hr (takes_of rfl rfl rfl rfl) PassesOwn.leaving, F0, ρ, ds.map some ++ List.replicate (m - ds.length) none, L, hR, ?_, (fun y hy => by cases hy), ?_⟩
    · unfold L2.start
      rw [hm, prd_len ha]
      exact Sl.start ha
    · unfold bodyF at hp
      match e : s (ds.map some ++ List.replicate (m - ds.length) none) L with
      | none => rw [e] at hp; exact hp
      | some (.nx _, L1) =>
        rw [e] at hp
        exact fun F' ρ' H' σ' x1 x2 x3 => hp F' ρ' _ H' x1 x2 Is.non
      | some (.rt d, L1) =>
        rw [e] at hp
        exact fun F' ρ' H' v x1 x2 x3 => hp F' ρ' v H' x1 x2 x3
      | some (.ex _ c fs, L1) =>
        rw [e] at hp
        exact fun F' ρ' dx vs' H' σ' x1 x2 x3 x4 x5 x6 => hp F' ρ' dx vs' H' x1 x2 x4 x5 x6
      | some (.bk _, L1) => rw [e] at hp; exact False.elim hp
      | some (.ct _, L1) => rw [e] at hp; exact False.elim hp
/-! ### a call's own objects are let go -/
def okR (n : Nat) : D → Prop
  | .v _ => True
  | .r k => k < n
def MO.okR (n : Nat) : MO → Prop
  | .ins _ fs => ∀ y ∈ fs, DN.okR n y.2
  | _ => True
def Older (L L' : List MO) : Prop := L.length ≤ L'.length ∧ ∀ i m, i < L.length → L'[i]? = some m → L[i]? = some m ∨ MO.okR L.length m
theorem IsD.okR {F : Hp} {ρ : Nat → Addr} {n : Nat} {v : V} {d : D} (h : IsD g F ρ n v d) : DN.okR n d := by
  cases d with
  | v p => trivial
  | r k => exact h.1
theorem prd_right {α β : Type} {A : α → β → Prop} {B : β → Prop} (f : ∀ x y, A x y → B y) : ∀ {xs : List α} {ys : List β}, Paired A xs ys → ∀ y ∈ ys, B y
  | _, _, .nil, _, h => by cases h
  | _, _, .cons h t, y, hy => by
    rcases List.mem_cons.mp hy with z | hy
    · rw [z]; exact f _ _ h
    · exact prd_right f t y hy
theorem MoIs.okR {F : Hp} {ρ : Nat → Addr} {n : Nat} {H : Hp} {a : Addr} {m : MO} (h : MoIs g F ρ n H a m) : MO.okR n m := by
  cases m with
  | ins c fs =>
    obtain ⟨dx, vs, _, h1, _⟩ := h
    exact prd_right (fun x y z => IsD.okR z.2) h1
  | _ => trivial
theorem R.okR {F : Hp} {ρ : Nat → Addr} {L : List MO} {H : Hp} (h : R g F ρ L H) {i : Nat} {m : MO} (e : L[i]? = some m) : MO.okR L.length m := by
  by_cases nd : m = .dead
  · subst nd; trivial
  · exact (h.ent i m e nd).2.okR
theorem IsD.down {F : Hp} {ρ ρ' : Nat → Addr} {n n' : Nat} {v : V} {d : D} (hr : ∀ i, i < n → ρ' i = ρ i) (h : IsD g F ρ' n' v d) (ho : DN.okR n d) : IsD g F ρ n v d := by
  cases d with
  | v p => exact h
  | r k => exact ⟨ho, by rw [← hr k ho]; exact h.2⟩
theorem prd_and {α β : Type} {A B : α → β → Prop} {C : β → Prop} (f : ∀ x y, A x y → C y → B x y) : ∀ {xs : List α} {ys : List β}, Paired A xs ys → (∀ y ∈ ys, C y) → Paired B xs ys
  | _, _, .nil, _ => .nil
  | _, _, .cons h t, k => .cons (f _ _ h (k _ List.mem_cons_self)) (prd_and f t fun y hy => k y (List.mem_cons_of_mem _ hy))
theorem MoIs.down {F : Hp} {ρ ρ' : Nat → Addr} {n n' : Nat} {H : Hp} {a : Addr} {m : MO} (hr : ∀ i, i < n → ρ' i = ρ i) (h : MoIs g F ρ' n' H a m) (ho : MO.okR n m) : MoIs g F ρ n H a m := by
  cases m with
  | lst xs => exact h
  | dk es => exact h
  | dn es => exact h
  | set xs => exact h
  | dead => trivial
  | ins c fs =>
    obtain ⟨dx, vs, h0, h1, h2⟩ := h
    exact ⟨dx, vs, h0, prd_and (fun x y z k => ⟨z.1, z.2.down hr k⟩) h1 ho, h2⟩
theorem R.trunc {F : Hp} {ρ ρ' : Nat → Addr} {L' : List MO} {H : Hp} {n : Nat} (h : R g F ρ' L' H) (hn : n ≤ L'.length) (hr : ∀ i, i < n → ρ' i = ρ i) (ho : ∀ i m, i < n → L'[i]? = some m → MO.okR n m) : R g F ρ (L'.take n) H := by
  have hl : (L'.take n).length = n := by rw [List.length_take]; omega
  have get : ∀ i m, (L'.take n)[i]? = some m → i < n ∧ L'[i]? = some m := fun i m e => by
    have hi : i < n := by
      have := (List.getElem?_eq_some_iff.mp e).1
      rwa [hl] at this
    rw [List.getElem?_take_of_lt hi] at e
    exact ⟨hi, e⟩
  refine ⟨h.sub, fun i m e nd => ?_, fun i j m m' e1 e2 n1 n2 er => ?_⟩
  · obtain ⟨hi, e'⟩ := get i m e
    obtain ⟨h1, h2⟩ := h.ent i m e' nd
    rw [hl, ← hr i hi]
    exact ⟨h1, h2.down hr (ho i m hi e')⟩
  · obtain ⟨hi, e1'⟩ := get i m e1
    obtain ⟨hj, e2'⟩ := get j m' e2
    rw [← hr i hi, ← hr j hj] at er
    exact h.inj i j m m' e1' e2' n1 n2 er
/-- what may be frozen: lists -/
def frzMO : MO → Option P
  | .lst xs => some (.lst xs)
  | _ => none
open Classical in
/-- what the call made is let go; a list that it hands back: kept (keep) or frozen -/
noncomputable def scopeF (keep : Bool) (f : List D → M D) (ds : List D) : M D := fun L => match f ds L with
  | some (.ok (.v p), L1) => if Older L L1 then some (.ok (.v p), L1.take L.length) else none
  | some (.ok (.r n), L1) => if Older L L1 then
      (if n < L.length then some (.ok (.r n), L1.take L.length) else
        match L1[n]? with
        | some (.lst xs) => if keep = true then some (.ok (.r L.length), L1.take L.length ++ [.lst xs]) else some (.ok (.v (.lst xs)), L1.take L.length)
        | _ => none) else none
  | some (.ex c fs, L1) => if Older L L1 then some (.ex c fs, L1.take L.length) else none
  | none => none
theorem scope_post {keep : Bool} {f : List D → M D} {ds : List D} {F : Hp} {ρ : Nat → Addr} {L : List MO} {H : Hp} {W : Value → Option Addr → Hp → Prop} {Q : VK} (hR : R g F ρ L H) (hp : Post g (relV g) F ρ L.length W Q (scopeF keep f ds L)) : Post g (relV g) F ρ L.length W Q (f ds L) := by
  unfold scopeF at hp
  have down : ∀ {L1 : List MO} {F' : Hp} {ρ' : Nat → Addr} {H' : Hp}, Older L L1 → Ext F ρ L.length F' ρ' L1.length → R g F' ρ' L1 H' → R g F' ρ (L1.take L.length) H' ∧ (L1.take L.length).length = L.length := fun {L1 F' ρ' H'} ho he hR' => by
    refine ⟨hR'.trunc he.len he.rho fun i m hi e => ?_, by rw [List.length_take]; have := he.len; omega⟩
    rcases ho.2 i m hi e with q | q
    · exact hR.okR q
    · exact q
  match e : f ds L with
  | none => rw [e] at hp; exact hp
  | some (.ok (.v p), L1) =>
    rw [e] at hp
    dsimp only at hp
    by_cases ho : Older L L1
    · rw [if_pos ho] at hp
      intro F' ρ' v H' he hR' hv
      obtain ⟨q1, q2⟩ := down ho he hR'
      exact hp F' ρ v H' (by rw [q2]; exact ⟨he.sub, fun _ _ => rfl, Nat.le_refl _⟩) q1 hv
    · rw [if_neg ho] at hp; exact False.elim hp
  | some (.ex c fs, L1) =>
    rw [e] at hp
    dsimp only at hp
    by_cases ho : Older L L1
    · rw [if_pos ho] at hp
      intro F' ρ' dx vs H' he hR' hx h1 h2
      obtain ⟨q1, q2⟩ := down ho he hR'
      exact hp F' ρ dx vs H' (by rw [q2]; exact ⟨he.sub, fun _ _ => rfl, Nat.le_refl _⟩) q1 hx h1 h2
    · rw [if_neg ho] at hp; exact False.elim hp
  | some (.ok (.r n), L1) =>
    rw [e] at hp
    dsimp only at hp
    by_cases ho : Older L L1
    · rw [if_pos ho] at hp
      by_cases hn : n < L.length
      · rw [if_pos hn] at hp
        intro F' ρ' v H' he hR' hv
        obtain ⟨q1, q2⟩ := down ho he hR'
        exact hp F' ρ v H' (by rw [q2]; exact ⟨he.sub, fun _ _ => rfl, Nat.le_refl _⟩) q1 (by rw [q2]; exact IsD.down he.rho hv hn)
      · rw [if_neg hn] at hp
        intro F' ρ' v H' he hR' hv
        obtain ⟨q1, q2⟩ := down ho he hR'
        match em : L1[n]? with
        | some (.lst xs) =>
          rw [em] at hp
          dsimp only at hp
          obtain ⟨us, h1, h2⟩ := hR'.lstAt em
          cases keep with
          | true =>
            rw [if_pos rfl] at hp
            have hlen : (L1.take L.length ++ [MO.lst xs]).length = L.length + 1 := by rw [List.length_append, q2, List.length_singleton]
            refine hp F' (rput ρ L.length (ρ' n)) v H' ⟨he.sub, fun i hi => rput_old hi, by rw [hlen]; omega⟩ ?_ ⟨by rw [hlen]; omega, by rw [rput_new]; exact hv.2⟩
            refine ⟨q1.sub, fun i m ei nd => ?_, fun i j m m' e1 e2 n1 n2 er => ?_⟩
            · rw [hlen]
              by_cases hi : i < L.length
              · rw [List.getElem?_append_left (by rw [q2]; exact hi)] at ei
                obtain ⟨a1, a2⟩ := q1.ent i m ei nd
                rw [rput_old hi]
                rw [q2] at a2
                exact ⟨a1, a2.ext ⟨Sub.refl _, fun i hi => rput_old hi, Nat.le_succ _⟩⟩
              · have hi' : i = L.length := by
                  have := (List.getElem?_eq_some_iff.mp ei).1
                  rw [hlen] at this
                  omega
                subst hi'
                rw [List.getElem?_append_right (by rw [q2]; exact Nat.le_refl _), q2, Nat.sub_self] at ei
                cases ei
                rw [rput_new]
                exact ⟨(hR'.ent n _ em (by intro z; cases z)).1, us, h1, h2⟩
            · have key : ∀ (i : Nat) (m : MO), (L1.take L.length ++ [MO.lst xs])[i]? = some m → (i < L.length ∧ L1[i]? = some m ∧ rput ρ L.length (ρ' n) i = ρ' i) ∨ (i = L.length ∧ m = .lst xs ∧ rput ρ L.length (ρ' n) i = ρ' n) := fun i m ei => by
                by_cases hi : i < L.length
                · rw [List.getElem?_append_left (by rw [q2]; exact hi), List.getElem?_take_of_lt hi] at ei
                  exact .inl ⟨hi, ei, by rw [rput_old hi, he.rho i hi]⟩
                · have hi' : i = L.length := by
                    have := (List.getElem?_eq_some_iff.mp ei).1
                    rw [hlen] at this
                    omega
                  subst hi'
                  rw [List.getElem?_append_right (by rw [q2]; exact Nat.le_refl _), q2, Nat.sub_self] at ei
                  cases ei
                  exact .inr ⟨rfl, rfl, rput_new⟩
              rcases key i m e1 with ⟨a1, a2, a3⟩ | ⟨a1, a2, a3⟩
              · rcases key j m' e2 with ⟨b1, b2, b3⟩ | ⟨b1, b2, b3⟩
                · rw [a3, b3] at er
                  exact hR'.inj i j m m' a2 b2 n1 n2 er
                · rw [a3, b3] at er
                  have := hR'.inj i n m _ a2 em n1 (by intro z; cases z) er
                  omega
              · rcases key j m' e2 with ⟨b1, b2, b3⟩ | ⟨b1, b2, b3⟩
                · rw [a3, b3] at er
                  have := hR'.inj n j _ m' em b2 (by intro z; cases z) n2 er
                  omega
                · omega
          | false =>
            rw [if_neg Bool.false_ne_true] at hp
            have hf := hR'.freeze em (by intro z; cases z) h1
            have sb : Sub F' (upd F' (ρ' n) (.lst us)) := fun b q eb => by
              have nb : b ≠ ρ' n := fun z => by rw [z, (hR'.ent n _ em (by intro z; cases z)).1] at eb; cases eb
              rw [upd_ne nb]
              exact eb
            have e2 : (L1.set n MO.dead).take L.length = L1.take L.length := by
              rw [List.take_set, List.set_eq_of_length_le (by rw [q2]; omega)]
            have q3 : R g (upd F' (ρ' n) (.lst us)) ρ (L1.take L.length) H' := by
              rw [← e2]
              refine hf.trunc (by rw [List.length_set]; exact he.len) he.rho fun i m hi e => ?_
              rw [List.getElem?_set_ne (by omega)] at e
              rcases ho.2 i m hi e with q | q
              · exact hR.okR q
              · exact q
            refine hp _ ρ v H' ⟨he.sub.trans sb, fun _ _ => rfl, by rw [q2]; exact Nat.le_refl _⟩ q3 ?_
            have ev : v = .ref (ρ' n) := hv.2
            rw [ev]
            exact Is.lst upd_same (IsA.mono sb h2)
        | none => rw [em] at hp; exact False.elim hp
        | some (.dk _) => rw [em] at hp; exact False.elim hp
        | some (.dn _) => rw [em] at hp; exact False.elim hp
        | some (.ins _ _) => rw [em] at hp; exact False.elim hp
        | some (.set _) => rw [em] at hp; exact False.elim hp
        | some .dead => rw [em] at hp; exact False.elim hp
    · rw [if_neg ho] at hp; exact False.elim hp
theorem fn_scope {f : Addr} {fd : FuncData} {ps : List Str} {k n : Nat} {fn : List D → M D} (keep : Bool) (h : FnOk P0 w K mg base (L2.CX P0 w) k f fd ps (spF g n fn)) : FnOk P0 w K mg base (L2.CX P0 w) k f fd ps (spF g n (scopeF keep fn)) :=
  h.imp fun vs H Q E ⟨F, ρ, L, ds, hR, ha, hl, hp⟩ => ⟨F, ρ, L, ds, hR, ha, hl, scope_post hR hp⟩
end
end DN

end
section
set_option Elab.async false
set_option linter.all false
set_option maxRecDepth 100000
set_option maxHeartbeats 4000000
/-! D10: calls of defs, methods (by the receiver's class), instances made, attributes. -/
namespace DN
open PySem PySem.Spec PyProof.Rows L2
section
variable {X : Cx} {g : G} {W : WX} {a b c e o : Expr} {fa fb fc f : Tau → M D} {pos p apos : Pos} {es : List Expr} {fs : Tau → M (List D)} {k n : Nat} {fn : List D → M D}
def arN (n : Nat) (fn : List D → M D) (ds : List D) : M D := if ds.length = n then fn ds else M.stuck
theorem call_sat {fad : Addr} {fd : FuncData} {ps : List Str} {σ : L2.St} {H : Hp} {Q : VK} (h : tE g W (appA (arN n fn) fs) σ H Q) : (tA g W fs) σ H fun vs H1 => spF g n fn (vs ++ []) H1 Q (WE W σ) := by
  refine (Sat.bind (ra := relA g) h).mono fun xs H2 h2 => ?_
  obtain ⟨F, ρ, τ, L, ds, hR, hS, hc, ha, hp⟩ := h2
  unfold arN at hp
  rw [List.append_nil]
  by_cases hz : ds.length = n
  · rw [if_pos hz] at hp
    exact ⟨F, ρ, L, ds, hR, ha, hz, hp⟩
  · rw [if_neg hz] at hp
    exact False.elim hp
/-- f(e, ..) -/
theorem de_call {x : Str} {fad : Addr} {fd : FuncData} {ps : List Str} (FO : FnOk X.prog X.w X.K X.mg X.base (L2.CX X.prog X.w) k fad fd ps (spF g n fn)) (hr : Room k X.A) (hg : Gl X x) (hm : X.mg x = some (.ref fad)) (hk : PySem.W.keepIn X.K (.ref fad) = true) (hb : Binds X.K fd ps []) (tk : Takes X W)
    (ha : PA X (e :: es) (tA g W fs)) (hdb : (x == ("__debug__" : Str)) = false := by decide) (he : starEach (e :: es) X.env = (false, eval e X.env) :: starEach es X.env := by rfl) (hpl : (backTo pos (starEach es X.env)).any (·.1) = false := by rfl) :
    PE X (.Call (.Name x p) (e :: es) [] pos) (tE g W (appA (arN n fn) fs)) :=
  PE.weak (pe_callSD FO hr hg hm hk hb .nil (fun σ => passAt tk σ) ha hdb he hpl) fun σ H Q h => call_sat (fad := fad) (fd := fd) (ps := ps) h

/-! ### methods -/
def clsOf (L : List MO) : D → Option Nat
  | .v (.ins c _) => some c
  | .r n => match L[n]? with
    | some (.ins c _) => some c
    | _ => none
  | _ => none
theorem clsOf_at {F : Hp} {ρ : Nat → Addr} {L : List MO} {H : Hp} {x : V} {d : D} {c : Nat} (hR : R g F ρ L H) (hx : IsD g F ρ L.length x d) (h : clsOf L d = some c) :
    ∃ a dx fs, x = .ref a ∧ H a = some (.ins (g.cl c) dx fs) ∧ ClsF g c ∧ ∀ y ∈ fs, ∃ i ∈ flT c, y.1 = nmT i := by
  cases d with
  | v p =>
    cases p with
    | ins c' qs =>
      cases h
      cases hx with
      | ins h1 h2 h3 h4 =>
        refine ⟨_, _, _, rfl, hR.sub _ _ h1, h4, fun y hy => ?_⟩
        have := (List.of_mem_zip (a := y.1) (b := y.2) hy).1
        obtain ⟨i, hi, e⟩ := List.mem_map.mp this
        exact ⟨i, hi, e.symm⟩
    | _ => cases h
  | r n =>
    unfold clsOf at h
    dsimp only at h
    match e : L[n]?, h with
    | some (.ins c' fs'), h =>
      cases h
      obtain ⟨_, dx, vs, h1, h2, h3, h4, _⟩ := hR.ent n _ e (by intro z; cases z)
      refine ⟨_, dx, vs, hx.2, h1, h3, fun y hy => ?_⟩
      have key : ∀ {xs : List (Str × V)} {ys : List (Nat × D)}, Paired (fun (x : Str × V) (y : Nat × D) => x.1 = nmT y.1 ∧ IsD g F ρ L.length x.2 y.2) xs ys → (∀ y ∈ ys, y.1 ∈ flT c) → ∀ y ∈ xs, ∃ i ∈ flT c, y.1 = nmT i := by
        intro xs ys h
        induction h with
        | nil => intro _ y hy; cases hy
        | cons h t ih =>
          intro hh y hy
          rcases List.mem_cons.mp hy with z | hy
          · rw [z]; exact ⟨_, hh _ List.mem_cons_self, h.1⟩
          · exact ih (fun y hy => hh y (List.mem_cons_of_mem _ hy)) y hy
      exact key h2 h4 y hy
theorem lookup_none {m : Str} : ∀ {fs : List (Str × V)}, (∀ y ∈ fs, y.1 ≠ m) → fs.lookup m = none
  | [], _ => rfl
  | (k, v) :: fs, h => by
    have hk : (m == k) = false := beq_eq_false_iff_ne.mpr fun z => h (k, v) List.mem_cons_self z.symm
    rw [List.lookup_cons, hk]
    exact lookup_none fun y hy => h y (List.mem_cons_of_mem _ hy)
/-- a class's method -/
structure MOk (P0 : Program) (w : World) (K : PySem.W.Frag) (mg : Str → Option Value) (base : Heap) (g : G) (m : Str) (k : Nat) (c : Nat) (n : Nat) (fn : List D → M D) : Prop where
  ex : ∃ (fad : Addr) (fd : FuncData) (ps : List Str), Meth K (g.cl c) m fad ∧ FnOk P0 w K mg base (L2.CX P0 w) k fad fd ps (spF g n fn) ∧ Binds K fd ps []
  no : ∀ i ∈ flT c, nmT i ≠ m
def methF (n : Nat) (tab : Nat → Option (List D → M D)) (f : Tau → M D) (fs : Tau → M (List D)) (τ : Tau) : M D := do
  let x ← f τ
  let fn ← (fun L => match (clsOf L x).bind tab with | some fn => some (.ok fn, L) | none => none : M (List D → M D))
  let ds ← fs τ
  arN n fn (x :: ds)
/-- one class's way -/
def tM1 (g : G) (W : WX) (n c : Nat) (m : Str) (fn : List D → M D) (ta : TE) (t : TA) : TE := fun σ H Q => ta σ H fun x H1 => ∃ a dx fs, x = .ref a ∧ H1 a = some (.ins (g.cl c) dx fs) ∧ Cls g.K (g.cl c) ∧ fs.lookup m = none ∧ t σ H1 fun vs H2 => spF g n fn (x :: vs) H2 Q (WE W σ)
theorem run_sd {CX : CXT} {fad : Addr} {fd : FuncData} {ps : List Str} {sp : Sp} {pins : List (Addr × Obj)} {σ : L2.St} {H : Hp} {s : Shared} {Q : VK} {E : XK} {us : List Value} {vs : List V} (FO : FnOk X.prog X.w X.K X.mg X.base CX k fad fd ps sp) (hr : Room k X.A) (hb : Binds X.K fd ps [])
    (hx : PassesAt CX X σ E) (I : Inv X pins σ H s) (r : Vals vs us) (h : sp vs H Q E) : wpAny (model X.prog X.w) X.A (call (.ref fad) us) (EP X pins σ Q) X.xe s := by
  have h' : sp (vs ++ []) H Q E := by rw [List.append_nil]; exact h
  exact run_fnSD (E := fun _ => E) FO hr hb .nil hx I r h'
theorem pe_meth1 {c n : Nat} {m : Str} {ta : TE} {t : TA} {pl : Sem Bool} (hK : X.K = g.K) (MO : MOk X.prog X.w X.K X.mg X.base g m k c n fn) (hr : Room k X.A) (tk : Takes X W) (he : PE X o ta) (ha : PA X (e :: es) t)
    (hst : starEach (e :: es) X.env = (false, eval e X.env) :: starEach es X.env := by rfl) (hpl : (backTo pos (starEach es X.env)).any (·.1) = false := by rfl)
    (ht : eval (.Call (.Attribute o m apos) (e :: es) [] pos) X.env = (do
      let v ← eval o X.env
      standAt apos.atName
      let (mf, first) ← holding [v] (getMethod v m pl)
      callWith pos mf first (backTo pos (starEach (e :: es) X.env)) (backToKw pos (keywordEach [] X.env))) := by rfl) :
    PE X (.Call (.Attribute o m apos) (e :: es) [] pos) (tM1 g W n c m fn ta t) := by
  obtain ⟨⟨fad, fd, ps, hm, FO, hb⟩, _⟩ := MO
  refine ⟨fun pins s σ H Q I h => PySem.W.methodCall_KW (pl := pl) (thn (he.run pins s σ H _ I h) fun u s1 hu => ?_) ht⟩
  obtain ⟨x, H1, I1, rx, ad, dx, fl, ex, ea, cl, lk, q⟩ := hu
  subst ex
  obtain rfl : u = Value.ref ad := rx
  rw [← hK] at cl
  refine getmeth_ok I1 ea cl hm lk (PySem.W.callWith_K (first := [.ref ad]) (h₀ := X.base) I.ok.mod.kin hm.kp (thn (ha.run pos pins s1 σ H1 _ I1 q) fun us s2 hus => ?_) hst hpl)
  obtain ⟨ws, H2, I2, r, q2⟩ := hus
  exact ⟨I2.kIn, run_sd (us := .ref ad :: us) (vs := .ref ad :: ws) FO hr hb (passAt tk σ) I2 (.cons rfl r) q2⟩
theorem pe_meth10 {c n : Nat} {m : Str} {ta : TE} {pl : Sem Bool} (hK : X.K = g.K) (MO : MOk X.prog X.w X.K X.mg X.base g m k c n fn) (hr : Room k X.A) (tk : Takes X W) (he : PE X o ta)
    (ht : eval (.Call (.Attribute o m apos) [] [] pos) X.env = (do
      let v ← eval o X.env
      standAt apos.atName
      let (mf, first) ← holding [v] (getMethod v m pl)
      callWith pos mf first (backTo pos (starEach [] X.env)) (backToKw pos (keywordEach [] X.env))) := by rfl) :
    PE X (.Call (.Attribute o m apos) [] [] pos) (tM1 g W n c m fn ta tNil) := by
  obtain ⟨⟨fad, fd, ps, hm, FO, hb⟩, _⟩ := MO
  refine ⟨fun pins s σ H Q I h => PySem.W.methodCall_KW (pl := pl) (thn (he.run pins s σ H _ I h) fun u s1 hu => ?_) ht⟩
  obtain ⟨x, H1, I1, rx, ad, dx, fl, ex, ea, cl, lk, q⟩ := hu
  subst ex
  obtain rfl : u = Value.ref ad := rx
  rw [← hK] at cl
  exact getmeth_ok I1 ea cl hm lk (PySem.W.callWith_K0 (first := [.ref ad]) I1.kIn hm.kp (run_sd (us := [.ref ad]) (vs := [.ref ad]) FO hr hb (passAt tk σ) I1 (.cons rfl .nil) q))
/-- any of several ways -/
theorem PE.ex {ι : Type} {t : ι → TE} {A : ι → Prop} (h : ∀ i, A i → PE X e (t i)) : PE X e (fun σ H Q => ∃ i, A i ∧ t i σ H Q) := ⟨fun pins s σ H Q I q => by
  obtain ⟨i, ai, q⟩ := q
  exact (h i ai).run pins s σ H Q I q⟩
theorem meth_sat {tab : Nat → Option (List D → M D)} {m : Str} {σ : L2.St} {H : Hp} {Q : VK} (hno : ∀ c fn, tab c = some fn → ∀ i ∈ flT c, nmT i ≠ m) (hsome : ∃ c fn, tab c = some fn)
    (h : tE g W (methF n tab f fs) σ H Q) : ∃ i : Nat × (List D → M D), tab i.1 = some i.2 ∧ tM1 g W n i.1 m i.2 (tE g W f) (tA g W fs) σ H Q := by
  obtain ⟨F, ρ, τ, L, hR, hS, hc, hp⟩ := h
  have hp' : Post g (relV g) F ρ L.length (fun c d H' => W c d σ H') Q (M.bnd (f τ) (fun x => M.bnd (fun L => match (clsOf L x).bind tab with | some fn => some (.ok fn, L) | none => none : M (List D → M D)) fun fn => M.bnd (fs τ) fun ds => arN n fn (x :: ds)) L) := hp
  unfold M.bnd at hp'
  match e : f τ L with
  | none => rw [e] at hp'; exact False.elim hp'
  | some (.ex c xs, L1) =>
    rw [e] at hp'
    obtain ⟨c0, fn0, h0⟩ := hsome
    exact ⟨(c0, fn0), h0, F, ρ, τ, L, hR, hS, hc, by rw [e]; exact hp'⟩
  | some (.ok d, L1) =>
    rw [e] at hp'
    dsimp only at hp'
    match e2 : clsOf L1 d with
    | none => rw [e2] at hp'; exact False.elim hp'
    | some c =>
      rw [e2] at hp'
      dsimp only [Option.bind] at hp'
      match e3 : tab c with
      | none => rw [e3] at hp'; exact False.elim hp'
      | some fn =>
        rw [e3] at hp'
        refine ⟨(c, fn), e3, F, ρ, τ, L, hR, hS, hc, ?_⟩
        rw [e]
        intro F1 ρ1 x H1 x1 hR1 hx
        obtain ⟨ad, dx, fl, ex, ea, cf, hfl⟩ := clsOf_at hR1 hx e2
        refine ⟨ad, dx, fl, ex, ea, cf.cls, lookup_none fun y hy z => ?_, ?_⟩
        · obtain ⟨i, hi, q⟩ := hfl y hy
          exact hno c fn e3 i hi (q.symm.trans z)
        · have h2 : Sat g (relV g) W [(x, d)] (fun τ => fs τ >>= fun ds => arN n fn (d :: ds)) σ H1 Q := ⟨F1, ρ1, τ, L1, hR1, hS.ext x1, (fun y hy => by rw [List.mem_singleton.mp hy]; exact hx), hp'.ext x1⟩
          refine (Sat.bind (ra := relA g) h2).mono fun xs H2 h3 => ?_
          obtain ⟨F, ρ, τ, L, ds, hR, hS, hc, ha, hp⟩ := h3
          unfold arN at hp
          by_cases hz : (d :: ds).length = n
          · rw [if_pos hz] at hp
            exact ⟨F, ρ, L, d :: ds, hR, .cons (hc (x, d) (by simp)) ha, hz, hp⟩
          · rw [if_neg hz] at hp
            exact False.elim hp
/-- o.m(e, ..): by the class of o -/
theorem de_meth {tab : Nat → Option (List D → M D)} {m : Str} {pl : Sem Bool} (hK : X.K = g.K) (MT : ∀ c fn, tab c = some fn → MOk X.prog X.w X.K X.mg X.base g m k c n fn) (hsome : ∃ c fn, tab c = some fn) (hr : Room k X.A) (tk : Takes X W) (he : PE X o (tE g W f)) (ha : PA X (e :: es) (tA g W fs))
    (hst : starEach (e :: es) X.env = (false, eval e X.env) :: starEach es X.env := by rfl) (hpl : (backTo pos (starEach es X.env)).any (·.1) = false := by rfl)
    (ht : eval (.Call (.Attribute o m apos) (e :: es) [] pos) X.env = (do
      let v ← eval o X.env
      standAt apos.atName
      let (mf, first) ← holding [v] (getMethod v m pl)
      callWith pos mf first (backTo pos (starEach (e :: es) X.env)) (backToKw pos (keywordEach [] X.env))) := by rfl) :
    PE X (.Call (.Attribute o m apos) (e :: es) [] pos) (tE g W (methF n tab f fs)) :=
  PE.weak (PE.ex (A := fun i : Nat × (List D → M D) => tab i.1 = some i.2) fun i hi => pe_meth1 (pl := pl) hK (MT i.1 i.2 hi) hr tk he ha hst hpl ht) fun σ H Q h => meth_sat (fun c fn e => (MT c fn e).no) hsome h
theorem de_meth0 {tab : Nat → Option (List D → M D)} {m : Str} {pl : Sem Bool} (hK : X.K = g.K) (MT : ∀ c fn, tab c = some fn → MOk X.prog X.w X.K X.mg X.base g m k c n fn) (hsome : ∃ c fn, tab c = some fn) (hr : Room k X.A) (tk : Takes X W) (he : PE X o (tE g W f))
    (ht : eval (.Call (.Attribute o m apos) [] [] pos) X.env = (do
      let v ← eval o X.env
      standAt apos.atName
      let (mf, first) ← holding [v] (getMethod v m pl)
      callWith pos mf first (backTo pos (starEach [] X.env)) (backToKw pos (keywordEach [] X.env))) := by rfl) :
    PE X (.Call (.Attribute o m apos) [] [] pos) (tE g W (methF n tab f nilA)) :=
  PE.weak (PE.ex (A := fun i : Nat × (List D → M D) => tab i.1 = some i.2) fun i hi => pe_meth10 (pl := pl) hK (MT i.1 i.2 hi) hr tk he ht) fun σ H Q h => by
    obtain ⟨i, hi, q⟩ := meth_sat (fun c fn e => (MT c fn e).no) hsome h
    refine ⟨i, hi, q.mono fun x H1 ⟨ad, dx, fl, e1, e2, e3, e4, q2⟩ => ⟨ad, dx, fl, e1, e2, e3, e4, ?_⟩⟩
    obtain ⟨F, ρ, τ, L, hR, hS, hc, hp⟩ := q2
    exact hp F ρ [] H1 Ext.refl hR .nil
end
end DN

end
section
set_option Elab.async false
set_option linter.all false
set_option maxRecDepth 100000
set_option maxHeartbeats 4000000
/-! D11: instances made; attributes read and stored; class constants; xs[i] = v. -/
namespace DN
open PySem PySem.Spec PyProof.Rows L2
section
variable {X : Cx} {g : G} {W : WX} {a b c e o : Expr} {fa fb fc f : Tau → M D} {pos p apos : Pos} {es : List Expr} {fs : Tau → M (List D)} {k n : Nat} {fn : List D → M D} {cn : Nat}
/-! ### C(..) -/
def tMk (g : G) (W : WX) (cn n : Nat) (fn : List D → M D) (t : TA) : TE := fun σ H Q => t σ H fun vs H1 => ∀ x dx, H1 x = none → H1 dx = none → dx ≠ x →
  spF g n fn (.ref x :: vs) (upd (upd H1 dx (.own x)) x (.ins (g.cl cn) dx [])) (fun v H2 => v = .non ∧ Q (.ref x) H2) (WE W σ)
theorem run_mk {fad : Addr} {fd : FuncData} {ps : List Str} {sp : Sp} {C : Addr} {pins : List (Addr × Obj)} {σ : L2.St} {H : Hp} {s : Shared} {Q : VK} {E : XK} {us : List Value} {vs : List V} (MK : Mk X.K C fad) (FO : FnOk X.prog X.w X.K X.mg X.base (L2.CX X.prog X.w) k fad fd ps sp) (hr : Room (k + 1) X.A) (hb : Binds X.K fd ps [])
    (hx : PassesAt (L2.CX X.prog X.w) X σ E) (I : Inv X pins σ H s) (r : Vals vs us)
    (h : ∀ x dx, H x = none → H dx = none → dx ≠ x → sp (.ref x :: vs) (upd (upd H dx (.own x)) x (.ins C dx [])) (fun v H2 => v = .non ∧ Q (.ref x) H2) E) :
    wpAny (model X.prog X.w) X.A (call (.ref C) us) (EP X pins σ Q) X.xe s := by
  let d0 := s.heap.objs.size
  let x0 := s.heap.objs.size + 1
  have n1 : H x0 = none := I.hok.fresh (Nat.le_succ _)
  have n2 : H d0 = none := I.hok.fresh (Nat.le_refl _)
  have hq := h x0 d0 n1 n2 (Nat.ne_of_lt (Nat.lt_succ_self _))
  have J := Inv.made (C := C) I
  have rr : Vals (V.ref x0 :: vs) (Value.ref x0 :: us) := .cons rfl r
  have ln : (Value.ref x0 :: us).length = ps.length := by rw [← rr.length]; exact FO.len _ _ _ _ hq
  have bt := hb _ (Value.ref x0 :: us) J.kIn (by rw [List.append_nil]; exact ln)
  rw [List.append_nil] at bt
  have run := FO.run (X.A.under (.builtin "type.__call__" ⟨.ref C :: us, []⟩)) X.stack _ _ ⟨Value.ref x0 :: us, []⟩ (Value.ref x0 :: us) (V.ref x0 :: vs) _ E (hr.make C us []) (J.env0.make C us []) bt rr hq
  refine wpAny_call (make_map I.kIn MK.makes MK.init (beq_iff_eq.mp MK.fn) (codeAny_mono run fun z s' hz => ?_))
  match z, hz with
  | .error er, hz => exact hx pins _ _ er s' J hz
  | .ok (.ret u), hz =>
    obtain ⟨v, H3, J3, rv, ev, q3⟩ := J.after hz
    subst ev
    exact ⟨rv, V.ref x0, H3, J3, rfl, q3⟩
  | .ok .next, hz => exact False.elim hz
  | .ok .brk, hz => exact False.elim hz
  | .ok .cont, hz => exact False.elim hz
theorem pe_mk {x : Str} {fad : Addr} {fd : FuncData} {ps : List Str} {t : TA} (hK : X.K = g.K) (MK : Mk X.K (g.cl cn) fad) (FO : FnOk X.prog X.w X.K X.mg X.base (L2.CX X.prog X.w) k fad fd ps (spF g n fn)) (hr : Room (k + 1) X.A) (hg : Gl X x) (hm : X.mg x = some (.ref (g.cl cn))) (hb : Binds X.K fd ps []) (tk : Takes X W)
    (ha : PA X (e :: es) t) (hdb : (x == ("__debug__" : Str)) = false := by decide) (he : starEach (e :: es) X.env = (false, eval e X.env) :: starEach es X.env := by rfl) (hpl : (backTo pos (starEach es X.env)).any (·.1) = false := by rfl) :
    PE X (.Call (.Name x p) (e :: es) [] pos) (tMk g W cn n fn t) := ⟨fun pins s σ H Q I h =>
  wpAny_Call_Name_kw (ld_glob I hg hm (PySem.W.callWith_K (h₀ := X.base) I.ok.mod.kin MK.kp (thn (ha.run pos pins s σ H _ I h) fun us s1 ⟨vs, H1, I1, r, q⟩ => ⟨I1.kIn, run_mk MK FO hr hb (passAt tk σ) I1 r q⟩) he hpl) hdb)⟩
theorem pe_mk0 {x : Str} {fad : Addr} {fd : FuncData} {ps : List Str} (hK : X.K = g.K) (MK : Mk X.K (g.cl cn) fad) (FO : FnOk X.prog X.w X.K X.mg X.base (L2.CX X.prog X.w) k fad fd ps (spF g n fn)) (hr : Room (k + 1) X.A) (hg : Gl X x) (hm : X.mg x = some (.ref (g.cl cn))) (hb : Binds X.K fd ps []) (tk : Takes X W)
    (hdb : (x == ("__debug__" : Str)) = false := by decide) :
    PE X (.Call (.Name x p) [] [] pos) (tMk g W cn n fn tNil) := ⟨fun pins s σ H Q I h =>
  wpAny_Call_Name_kw (ld_glob I hg hm (PySem.W.callWith_K0 I.kIn MK.kp (run_mk (us := []) MK FO hr hb (passAt tk σ) I .nil h)) hdb)⟩
/-- a new instance, then its __init__; frozen when it is whole (frz) -/
def insP (c : Nat) : List (Nat × D) → Option (List P)
  | fs => if fs.map (·.1) = flT c then asPs (fs.map (·.2)) else none
open Classical in
noncomputable def makF (frz : Bool) (cn n : Nat) (fn : List D → M D) (ds : List D) : M D := fun L =>
  if (D.r L.length :: ds).length = n then (match fn (.r L.length :: ds) (L ++ [.ins cn []]) with
    | some (.ok (.v .non), L1) => if frz = true then (match L1[L.length]? with
        | some (.ins c' fs') => if c' = cn ∧ Older L L1 then (match insP cn fs' with
          | some ps => some (.ok (.v (.ins cn ps)), L1.take L.length)
          | none => none) else none
        | _ => none) else some (.ok (.r L.length), L1)
    | some (.ex c fs, L1) => if frz = true then (if Older L L1 then some (.ex c fs, L1.take L.length) else none) else some (.ex c fs, L1)
    | _ => none) else none
theorem prd_insP {F : Hp} {ρ : Nat → Addr} {m : Nat} : ∀ {vs : List (Str × V)} {fs : List (Nat × D)} {ps : List P}, Paired (fun (x : Str × V) (y : Nat × D) => x.1 = nmT y.1 ∧ IsD g F ρ m x.2 y.2) vs fs → asPs (fs.map (·.2)) = some ps →
    vs = ((fs.map (·.1)).map nmT).zip (vs.map (·.2)) ∧ IsA g F (vs.map (·.2)) ps ∧ vs.length = fs.length
  | _, _, _, .nil, e => by cases e; exact ⟨rfl, .nil, rfl⟩
  | x :: vs, y :: fs, ps, .cons h t, e => by
    rw [List.map_cons] at e
    unfold asPs at e
    match e1 : asP y.2, e2 : asPs (fs.map (·.2)) with
    | some q, some qs =>
      rw [e1, e2] at e
      cases e
      obtain ⟨h1, h2, h3⟩ := prd_insP t e2
      refine ⟨?_, ?_, by rw [List.length_cons, List.length_cons, h3]⟩
      · rw [List.map_cons, List.map_cons, List.map_cons, List.zip_cons_cons, ← h1, ← h.1]
      · have hq := h.2
        cases ey : y.2 with
        | v q' =>
          rw [ey] at e1 hq
          cases e1
          exact .cons hq h2
        | r m' => rw [ey] at e1; cases e1
    | none, _ => rw [e1] at e; cases e
    | some _, none => rw [e1, e2] at e; cases e
theorem mak_sat {frz : Bool} {σ : L2.St} {H : Hp} {Q : VK} (hC : ClsF g cn) (h : tE g W (appA (makF frz cn n fn) fs) σ H Q) : tMk g W cn n fn (tA g W fs) σ H Q := by
  refine (Sat.bind (ra := relA g) h).mono fun xs H1 h2 => ?_
  obtain ⟨F, ρ, τ, L, ds, hR, hS, hc, ha, hp⟩ := h2
  intro x dx nx ndx ne
  unfold makF at hp
  by_cases hz : (D.r L.length :: ds).length = n
  · rw [if_pos hz] at hp
    -- the new state
    have R1 := hR.frz ndx (.own x)
    have nx1 : upd H1 dx (.own x) x = none := by rw [upd_ne (Ne.symm ne)]; exact nx
    have R2 : R g (upd F dx (.own x)) (rput ρ L.length x) (L ++ [.ins cn []]) (upd (upd H1 dx (.own x)) x (.ins (g.cl cn) dx [])) :=
      R1.new nx1 (.ins (g.cl cn) dx []) (.ins cn []) ⟨dx, [], upd_same, .nil, hC, (fun y hy => by cases hy), List.nodup_nil⟩
    have sbF : Sub F (upd F dx (.own x)) := Sub.frz hR ndx _
    have len1 : (L ++ [MO.ins cn []]).length = L.length + 1 := by rw [List.length_append, List.length_singleton]
    have E1 : Ext F ρ L.length (upd F dx (.own x)) (rput ρ L.length x) (L ++ [MO.ins cn []]).length := by
      rw [len1]
      exact ⟨sbF, fun i hi => rput_old hi, Nat.le_succ _⟩
    have hx0 : IsD g (upd F dx (.own x)) (rput ρ L.length x) (L ++ [MO.ins cn []]).length (.ref x) (.r L.length) := ⟨by rw [len1]; exact Nat.lt_succ_self _, by rw [rput_new]⟩
    refine ⟨_, _, _, _, R2, .cons hx0 (prd_mono ha fun v d z => z.ext E1), hz, ?_⟩
    match e : fn (.r L.length :: ds) (L ++ [.ins cn []]) with
    | none => rw [e] at hp; exact False.elim hp
    | some (.ok (.v .non), L1) =>
      rw [e] at hp ⊢
      dsimp only at hp
      intro F' ρ' v H' x1 hR' hv
      refine ⟨Is.inv_non hv, ?_⟩
      have x2 := E1.trans x1
      have rx : ρ' L.length = x := by rw [x1.rho L.length (by rw [len1]; exact Nat.lt_succ_self _), rput_new]
      have ln : L.length < L1.length := by have := x1.len; rw [len1] at this; omega
      cases frz with
      | false =>
        rw [if_neg Bool.false_ne_true] at hp
        exact hp F' ρ' _ H' x2 hR' ⟨ln, by rw [rx]⟩
      | true =>
        rw [if_pos rfl] at hp
        match e2 : L1[L.length]? with
        | some (.ins c' fs') =>
          rw [e2] at hp
          dsimp only at hp
          by_cases ho : c' = cn ∧ Older L L1
          · rw [if_pos ho] at hp
            obtain ⟨rfl, ho⟩ := ho
            match e3 : insP c' fs' with
            | none => rw [e3] at hp; exact False.elim hp
            | some ps =>
              rw [e3] at hp
              dsimp only at hp
              unfold insP at e3
              by_cases hk : fs'.map (·.1) = flT c'
              · rw [if_pos hk] at e3
                obtain ⟨d2, vs2, a1, a2, a3, a4, a5⟩ := (hR'.ent L.length _ e2 (by intro z; cases z)).2
                obtain ⟨b1, b2, b3⟩ := prd_insP a2 e3
                rw [rx] at a1
                have hf := hR'.freeze e2 (by intro z; cases z) (o := .ins (g.cl c') d2 vs2) (by rw [rx]; exact a1)
                rw [rx] at hf
                have fx : F' x = none := by
                  have := (hR'.ent L.length _ e2 (by intro z; cases z)).1
                  rwa [rx] at this
                have sb : Sub F' (upd F' x (.ins (g.cl c') d2 vs2)) := fun b q eb => by
                  have nb : b ≠ x := fun z => by rw [z, fx] at eb; cases eb
                  rw [upd_ne nb]
                  exact eb
                have e4 : (L1.set L.length MO.dead).take L.length = L1.take L.length := by
                  rw [List.take_set, List.set_eq_of_length_le (by rw [List.length_take]; omega)]
                have q2 : (L1.take L.length).length = L.length := by rw [List.length_take]; omega
                have q3 : R g (upd F' x (.ins (g.cl c') d2 vs2)) ρ (L1.take L.length) H' := by
                  rw [← e4]
                  refine hf.trunc (by rw [List.length_set]; omega) x2.rho fun i m hi e => ?_
                  rw [List.getElem?_set_ne (by omega)] at e
                  rcases ho.2 i m hi e with q | q
                  · exact hR.okR q
                  · exact q
                refine hp _ ρ (.ref x) H' ⟨x2.sub.trans sb, fun _ _ => rfl, by rw [q2]; exact Nat.le_refl _⟩ q3 ?_
                refine Is.ins (dx := d2) (vs := vs2.map (·.2)) ?_ (by rw [List.length_map, b3, ← hk, List.length_map]) (IsA.mono sb b2) a3
                rw [upd_same, ← hk, ← b1]
              · rw [if_neg hk] at e3
                cases e3
          · rw [if_neg ho] at hp; exact False.elim hp
        | none => rw [e2] at hp; exact False.elim hp
        | some (.lst _) => rw [e2] at hp; exact False.elim hp
        | some (.dk _) => rw [e2] at hp; exact False.elim hp
        | some (.dn _) => rw [e2] at hp; exact False.elim hp
        | some (.set _) => rw [e2] at hp; exact False.elim hp
        | some .dead => rw [e2] at hp; exact False.elim hp
    | some (.ex c xs', L1) =>
      rw [e] at hp ⊢
      dsimp only at hp
      intro F' ρ' d vs' H' x1 hR' hd h1 h2
      have x2 := E1.trans x1
      cases frz with
      | false =>
        rw [if_neg Bool.false_ne_true] at hp
        exact hp F' ρ' d vs' H' x2 hR' hd h1 h2
      | true =>
        rw [if_pos rfl] at hp
        by_cases ho : Older L L1
        · rw [if_pos ho] at hp
          have ln := x2.len
          have q2 : (L1.take L.length).length = L.length := by rw [List.length_take]; omega
          refine hp F' ρ d vs' H' ⟨x2.sub, fun _ _ => rfl, by rw [q2]; exact Nat.le_refl _⟩ (hR'.trunc ln x2.rho fun i m hi e => ?_) hd h1 h2
          rcases ho.2 i m hi e with q | q
          · exact hR.okR q
          · exact q
        · rw [if_neg ho] at hp; exact False.elim hp
    | some (.ok (.r _), L1) => rw [e] at hp; exact False.elim hp
    | some (.ok (.v (.bl _)), L1) => rw [e] at hp; exact False.elim hp
    | some (.ok (.v (.int _)), L1) => rw [e] at hp; exact False.elim hp
    | some (.ok (.v (.str _)), L1) => rw [e] at hp; exact False.elim hp
    | some (.ok (.v (.tup _)), L1) => rw [e] at hp; exact False.elim hp
    | some (.ok (.v (.lst _)), L1) => rw [e] at hp; exact False.elim hp
    | some (.ok (.v (.ins _ _)), L1) => rw [e] at hp; exact False.elim hp
    | some (.ok (.v (.dk _)), L1) => rw [e] at hp; exact False.elim hp
    | some (.ok (.v (.dn _)), L1) => rw [e] at hp; exact False.elim hp
    | some (.ok (.v (.set _)), L1) => rw [e] at hp; exact False.elim hp
    | some (.ok (.v (.exn _ _)), L1) => rw [e] at hp; exact False.elim hp
    | some (.ok (.v (.scr _)), L1) => rw [e] at hp; exact False.elim hp
  · rw [if_neg hz] at hp
    exact False.elim hp
theorem de_make {x : Str} {fad : Addr} {fd : FuncData} {ps : List Str} {frz : Bool} (hK : X.K = g.K) (hC : ClsF g cn) (MK : Mk X.K (g.cl cn) fad) (FO : FnOk X.prog X.w X.K X.mg X.base (L2.CX X.prog X.w) k fad fd ps (spF g n fn)) (hr : Room (k + 1) X.A) (hg : Gl X x) (hm : X.mg x = some (.ref (g.cl cn))) (hb : Binds X.K fd ps []) (tk : Takes X W)
    (ha : PA X (e :: es) (tA g W fs)) (hdb : (x == ("__debug__" : Str)) = false := by decide) (he : starEach (e :: es) X.env = (false, eval e X.env) :: starEach es X.env := by rfl) (hpl : (backTo pos (starEach es X.env)).any (·.1) = false := by rfl) :
    PE X (.Call (.Name x p) (e :: es) [] pos) (tE g W (appA (makF frz cn n fn) fs)) := PE.weak (pe_mk hK MK FO hr hg hm hb tk ha hdb he hpl) fun σ H Q h => mak_sat hC h
theorem de_make0 {x : Str} {fad : Addr} {fd : FuncData} {ps : List Str} {frz : Bool} (hK : X.K = g.K) (hC : ClsF g cn) (MK : Mk X.K (g.cl cn) fad) (FO : FnOk X.prog X.w X.K X.mg X.base (L2.CX X.prog X.w) k fad fd ps (spF g n fn)) (hr : Room (k + 1) X.A) (hg : Gl X x) (hm : X.mg x = some (.ref (g.cl cn))) (hb : Binds X.K fd ps []) (tk : Takes X W)
    (hdb : (x == ("__debug__" : Str)) = false := by decide) :
    PE X (.Call (.Name x p) [] [] pos) (tE g W (appA (makF frz cn n fn) nilA)) := PE.weak (pe_mk0 hK MK FO hr hg hm hb tk hdb) fun σ H Q h => by
  have q := mak_sat (fs := nilA) hC h
  obtain ⟨F, ρ, τ, L, hR, hS, hc, hp⟩ := q
  exact hp F ρ [] H Ext.refl hR .nil
end
end DN

end
section
set_option Elab.async false
set_option linter.all false
set_option maxRecDepth 100000
set_option maxHeartbeats 4000000
/-! D12: attributes read and stored; class constants; xs[i] = v; list comprehensions. -/
namespace DN
open PySem PySem.Spec PyProof.Rows L2
section
variable {X : Cx} {g : G} {W : WX} {a b c e o : Expr} {fa fb fc f : Tau → M D} {ta tb : Tau → M Bool} {pos p apos : Pos} {es : List Expr} {fs : Tau → M (List D)} {k n : Nat} {fn : List D → M D} {s1 : SX}
/-! ### o.f -/
def fget : List Nat → List P → Nat → Option P
  | i :: is, p :: ps, j => if i = j then some p else fget is ps j
  | _, _, _ => none
def flook : List (Nat × D) → Nat → Option D
  | [], _ => none
  | (i, d) :: fs, j => if i = j then some d else flook fs j
def attD (i : Nat) : D → M D := fun d L => match d with
  | .v (.ins c ps) => (fget (flT c) ps i).map fun p => (.ok (.v p), L)
  | .r n => match L[n]? with
    | some (.ins _ fs) => (flook fs i).map fun d => (.ok d, L)
    | _ => none
  | _ => none
theorem fget_is {F : Hp} : ∀ {is : List Nat} {vs : List V} {ps : List P} {j : Nat} {q : P}, IsA g F vs ps → (is.map nmT).Nodup → j ∈ is → fget is ps j = some q → ∃ v, ((is.map nmT).zip vs).lookup (nmT j) = some v ∧ Is g F v q
  | [], _, _, _, _, _, _, h, _ => by cases h
  | i :: is, _, _, j, q, .nil, nd, h, e => by cases e
  | i :: is, _, _, j, q, .cons (v := v) (vs := vs) hv ht, nd, h, e => by
    unfold fget at e
    rw [List.map_cons, List.zip_cons_cons, List.lookup_cons]
    by_cases hij : i = j
    · rw [if_pos hij] at e
      cases e
      subst hij
      rw [beq_self_eq_true]
      exact ⟨v, rfl, hv⟩
    · rw [if_neg hij] at e
      have hj : j ∈ is := by
        rcases List.mem_cons.mp h with z | z
        · exact absurd z.symm hij
        · exact z
      rw [List.map_cons, List.nodup_cons] at nd
      have hk : (nmT j == nmT i) = false := beq_eq_false_iff_ne.mpr fun z => nd.1 (List.mem_map.mpr ⟨j, hj, z⟩)
      rw [hk]
      exact fget_is ht nd.2 hj e
theorem fget_mem : ∀ {is : List Nat} {ps : List P} {j : Nat} {q : P}, fget is ps j = some q → j ∈ is
  | [], _, _, _, h => by cases h
  | i :: is, [], _, _, h => by cases h
  | i :: is, p :: ps, j, q, h => by
    unfold fget at h
    by_cases hij : i = j
    · rw [hij]; exact List.mem_cons_self
    · rw [if_neg hij] at h
      exact List.mem_cons_of_mem _ (fget_mem h)
theorem flook_is {F : Hp} {ρ : Nat → Addr} {n : Nat} {L0 : List Nat} (nd : (L0.map nmT).Nodup) : ∀ {vs : List (Str × V)} {fs : List (Nat × D)} {j : Nat} {d : D}, Paired (fun (x : Str × V) (y : Nat × D) => x.1 = nmT y.1 ∧ IsD g F ρ n x.2 y.2) vs fs → (∀ y ∈ fs, y.1 ∈ L0) → j ∈ L0 → flook fs j = some d →
    ∃ v, vs.lookup (nmT j) = some v ∧ IsD g F ρ n v d
  | _, _, _, _, .nil, _, _, e => by cases e
  | (x1, x2) :: vs, (i, d') :: fs, j, d, .cons h t, hm, hj, e => by
    unfold flook at e
    rw [List.lookup_cons]
    have hx : x1 = nmT i := h.1
    by_cases hij : i = j
    · rw [if_pos hij] at e
      cases e
      subst hij
      rw [hx, beq_self_eq_true]
      exact ⟨x2, rfl, h.2⟩
    · rw [if_neg hij] at e
      have hk : (nmT j == x1) = false := beq_eq_false_iff_ne.mpr fun z => by
        rw [hx] at z
        have hi := hm (i, d') List.mem_cons_self
        have : ∀ {l : List Nat}, (l.map nmT).Nodup → i ∈ l → j ∈ l → nmT j = nmT i → i = j := by
          intro l
          induction l with
          | nil => intro _ h; cases h
          | cons a l ih =>
            intro nd hi hj z
            rw [List.map_cons, List.nodup_cons] at nd
            rcases List.mem_cons.mp hi with q1 | q1
            · rcases List.mem_cons.mp hj with q2 | q2
              · rw [q1, q2]
              · exact absurd (List.mem_map.mpr ⟨j, q2, by rw [z, q1]⟩) nd.1
            · rcases List.mem_cons.mp hj with q2 | q2
              · exact absurd (List.mem_map.mpr ⟨i, q1, by rw [← z, q2]⟩) nd.1
              · exact ih nd.2 q1 q2 z
        exact hij (this nd hi hj z)
      rw [hk]
      exact flook_is nd t (fun y hy => hm y (List.mem_cons_of_mem _ hy)) hj e
theorem flook_mem : ∀ {fs : List (Nat × D)} {j : Nat} {d : D}, flook fs j = some d → ∃ y ∈ fs, y.1 = j
  | [], _, _, h => by cases h
  | (i, d') :: fs, j, d, h => by
    unfold flook at h
    by_cases hij : i = j
    · exact ⟨(i, d'), List.mem_cons_self, hij⟩
    · rw [if_neg hij] at h
      obtain ⟨y, hy, e⟩ := flook_mem h
      exact ⟨y, List.mem_cons_of_mem _ hy, e⟩
theorem att_ok {F : Hp} {ρ : Nat → Addr} {L : List MO} {H : Hp} {x : V} {d : D} {i : Nat} {Wq : Value → Option Addr → Hp → Prop} {Q : VK} (hR : R g F ρ L H) (hx : IsD g F ρ L.length x d) (hp : Post g (relV g) F ρ L.length Wq Q (attD i d L)) :
    ∃ a C dx fs v, x = .ref a ∧ H a = some (.ins C dx fs) ∧ Cls g.K C ∧ NoAttr g.K C (nmT i) ∧ fs.lookup (nmT i) = some v ∧ Q v H := by
  cases d with
  | v q =>
    cases q with
    | ins c ps =>
      unfold attD at hp
      dsimp only at hp
      match e : fget (flT c) ps i with
      | none => rw [e] at hp; exact False.elim hp
      | some q =>
        rw [e] at hp
        cases hx with
        | ins h1 h2 h3 h4 =>
          obtain ⟨v, e1, e2⟩ := fget_is h3 h4.nd (fget_mem e) e
          exact ⟨_, _, _, _, v, rfl, hR.sub _ _ h1, h4.cls, h4.att i (fget_mem e), e1, hp.val hR e2⟩
    | _ => exact False.elim hp
  | r n =>
    unfold attD at hp
    dsimp only at hp
    match e : L[n]? with
    | some (.ins c fs) =>
      rw [e] at hp
      dsimp only at hp
      match e2 : flook fs i with
      | none => rw [e2] at hp; exact False.elim hp
      | some d =>
        rw [e2] at hp
        obtain ⟨_, dx, vs, h1, h2, h3, h4, _⟩ := hR.ent n _ e (by intro z; cases z)
        obtain ⟨y, hy, ey⟩ := flook_mem e2
        have hi : i ∈ flT c := by rw [← ey]; exact h4 y hy
        obtain ⟨v, e3, e4⟩ := flook_is h3.nd h2 h4 hi e2
        exact ⟨ρ n, _, dx, vs, v, hx.2, h1, h3.cls, h3.att i hi, e3, hp F ρ v H Ext.refl hR e4⟩
    | none => rw [e] at hp; exact False.elim hp
    | some (.lst _) => rw [e] at hp; exact False.elim hp
    | some (.dk _) => rw [e] at hp; exact False.elim hp
    | some (.dn _) => rw [e] at hp; exact False.elim hp
    | some (.set _) => rw [e] at hp; exact False.elim hp
    | some .dead => rw [e] at hp; exact False.elim hp
def un (op : D → M D) (f : Tau → M D) (τ : Tau) : M D := f τ >>= op
theorem de_att {x : Str} (i : Nat) (hK : X.K = g.K) (hi : x = nmT i) (he : PE X e (tE g W f)) (hb : attributeBase e x X.env (eval e X.env) = eval e X.env := by rfl) : PE X (.Attribute e x pos) (tE g W (un (attD i) f)) := by
  subst hi
  refine PE.weak (pe_fld he hb) fun σ H Q h => ?_
  refine (Sat.bindV h).mono fun x H1 h1 => ?_
  obtain ⟨d, F, ρ, τ, L, hR, hS, hc, hp⟩ := h1
  rw [hK]
  exact att_ok hR (hc (x, d) (by simp)) hp
/-- a constant of the classes: by class -/
def conD (tab : Nat → Option P) : D → M D := fun d L => match (clsOf L d).bind tab with
  | some p => some (.ok (.v p), L)
  | none => none
theorem de_con {x : Str} {tab : Nat → Option P} (hK : X.K = g.K) (hc : ∀ c p, tab c = some p → (∃ v u, Con g.K (g.cl c) x v u ∧ ∀ F, Is g F v p) ∧ ∀ i ∈ flT c, nmT i ≠ x) (he : PE X e (tE g W f)) (hb : attributeBase e x X.env (eval e X.env) = eval e X.env := by rfl) : PE X (.Attribute e x pos) (tE g W (un (conD tab) f)) := by
  refine PE.weak (pe_con he hb) fun σ H Q h => ?_
  refine (Sat.bindV h).mono fun y H1 h1 => ?_
  obtain ⟨d, F, ρ, τ, L, hR, hS, hcx, hp⟩ := h1
  unfold conD at hp
  dsimp only at hp
  match e1 : (clsOf L d).bind tab with
  | none => rw [e1] at hp; exact False.elim hp
  | some q =>
    rw [e1] at hp
    obtain ⟨c', e2, e3⟩ := Option.bind_eq_some_iff.mp e1
    obtain ⟨ad, dx, fl, ex, ea, cf, hfl⟩ := clsOf_at hR (hcx (y, d) (by simp)) e2
    obtain ⟨⟨v, u, k1, k2⟩, k3⟩ := hc c' q e3
    rw [hK]
    refine ⟨ad, _, dx, fl, v, u, ex, ea, cf.cls, k1, lookup_none fun z hz q' => ?_, hp.val hR (k2 F)⟩
    obtain ⟨i, hi, q2⟩ := hfl z hz
    exact k3 i hi (q2.symm.trans q')
/-! ### o.f = e -/
def fput (i : Nat) (d : D) : List (Nat × D) → List (Nat × D)
  | [] => [(i, d)]
  | (j, e) :: fs => if j = i then (j, d) :: fs else (j, e) :: fput i d fs
def sattD (i : Nat) (d x : D) : M Unit := fun L => match x with
  | .r n => match L[n]? with
    | some (.ins c fs) => if i ∈ flT c then some (.ok (), L.set n (.ins c (fput i d fs))) else none
    | _ => none
  | _ => none
def sattS (i : Nat) (fo fv : Tau → M D) : SX := eThen (fun τ => do let d ← fv τ; let x ← fo τ; sattD i d x) fun _ τ L => some (.nx τ, L)
theorem fput_is {F : Hp} {ρ : Nat → Addr} {n : Nat} {L0 : List Nat} (nd : (L0.map nmT).Nodup) {v : V} {d : D} {i : Nat} (hv : IsD g F ρ n v d) (hi : i ∈ L0) : ∀ {vs : List (Str × V)} {fs : List (Nat × D)}, Paired (fun (x : Str × V) (y : Nat × D) => x.1 = nmT y.1 ∧ IsD g F ρ n x.2 y.2) vs fs → (∀ y ∈ fs, y.1 ∈ L0) →
    Paired (fun (x : Str × V) (y : Nat × D) => x.1 = nmT y.1 ∧ IsD g F ρ n x.2 y.2) (putF (nmT i) v vs) (fput i d fs)
  | _, _, .nil, _ => .cons ⟨rfl, hv⟩ .nil
  | (x1, x2) :: vs, (j, e) :: fs, .cons h t, hm => by
    have hx : x1 = nmT j := h.1
    have inj : ∀ {l : List Nat}, (l.map nmT).Nodup → i ∈ l → j ∈ l → nmT j = nmT i → j = i := by
      intro l
      induction l with
      | nil => intro _ h; cases h
      | cons a l ih =>
        intro nd hi hj z
        rw [List.map_cons, List.nodup_cons] at nd
        rcases List.mem_cons.mp hi with q1 | q1
        · rcases List.mem_cons.mp hj with q2 | q2
          · rw [q1, q2]
          · exact absurd (List.mem_map.mpr ⟨j, q2, by rw [z, q1]⟩) nd.1
        · rcases List.mem_cons.mp hj with q2 | q2
          · exact absurd (List.mem_map.mpr ⟨i, q1, by rw [← z, q2]⟩) nd.1
          · exact ih nd.2 q1 q2 z
    unfold putF fput
    by_cases hij : j = i
    · subst hij
      rw [if_pos hx, if_pos rfl]
      exact .cons ⟨hx, hv⟩ t
    · have hne : ¬ x1 = nmT i := fun z => hij (inj nd hi (hm (j, e) List.mem_cons_self) (hx.symm.trans z))
      rw [if_neg hne, if_neg hij]
      exact .cons h (fput_is nd hv hi t fun y hy => hm y (List.mem_cons_of_mem _ hy))
theorem fput_keys {i : Nat} {d : D} : ∀ {fs : List (Nat × D)}, (fs.map (·.1)).Nodup → (∀ y ∈ fput i d fs, y.1 = i ∨ ∃ z ∈ fs, z.1 = y.1) ∧ ((fput i d fs).map (·.1)).Nodup
  | [], _ => ⟨fun y hy => by
      unfold fput at hy
      rw [List.mem_singleton.mp hy]
      exact .inl rfl, by unfold fput; simp⟩
  | (j, e) :: fs, nd => by
    unfold fput
    by_cases hij : j = i
    · rw [if_pos hij]
      refine ⟨fun y hy => ?_, by simpa using nd⟩
      rcases List.mem_cons.mp hy with z | z
      · rw [z]; exact .inl hij
      · exact .inr ⟨y, List.mem_cons_of_mem _ z, rfl⟩
    · rw [if_neg hij]
      rw [List.map_cons, List.nodup_cons] at nd
      obtain ⟨h1, h2⟩ := fput_keys (i := i) (d := d) nd.2
      refine ⟨fun y hy => ?_, ?_⟩
      · rcases List.mem_cons.mp hy with z | z
        · rw [z]; exact .inr ⟨(j, e), List.mem_cons_self, rfl⟩
        · rcases h1 y z with q | ⟨w, hw, q⟩
          · exact .inl q
          · exact .inr ⟨w, List.mem_cons_of_mem _ hw, q⟩
      · rw [List.map_cons, List.nodup_cons]
        refine ⟨fun hm => ?_, h2⟩
        obtain ⟨y, hy, q⟩ := List.mem_map.mp hm
        rcases h1 y hy with q2 | ⟨w, hw, q2⟩
        · exact hij (q.symm.trans q2)
        · exact nd.1 (List.mem_map.mpr ⟨w, hw, q2.trans q⟩)
theorem nodup_sub_len : ∀ {xs ys : List Nat}, xs.Nodup → (∀ x ∈ xs, x ∈ ys) → xs.length ≤ ys.length
  | [], _, _, _ => Nat.zero_le _
  | x :: xs, ys, nd, h => by
    rw [List.nodup_cons] at nd
    have hx := h x List.mem_cons_self
    have := nodup_sub_len (xs := xs) (ys := ys.erase x) nd.2 fun y hy => by
      have ne : y ≠ x := fun z => nd.1 (by rw [← z]; exact hy)
      exact (List.mem_erase_of_ne ne).mpr (h y (List.mem_cons_of_mem _ hy))
    rw [List.length_erase_of_mem hx] at this
    have hl : 0 < ys.length := List.length_pos_of_mem hx
    rw [List.length_cons]
    omega
theorem ds_satt {x : Str} {pos' : Pos} {value : Expr} (i : Nat) (hK : X.K = g.K) (hi : x = nmT i) (ho : PE X o (tE g W fa)) (hv : PE X value (tE g W fb)) (hs : swapsWith value (some (.Attribute o x pos')) pos.line X.env = pure false := by rfl) : PS X (.Assign [.Attribute o x pos'] value pos) (tS g W (sattS i fa fb)) := by
  subst hi
  refine PS.weak (ps_fld ho hv hs) fun D σ H h => ?_
  -- the value, the object, the store
  obtain ⟨F, ρ, τ, L, hR, hS, hc, hp⟩ := h
  have h1 : SatS g W [] (eThen fb fun d => eThen fa fun x => eThen (fun _ => sattD i d x) fun _ τ L => some (.nx τ, L)) D σ H := by
    refine ⟨F, ρ, τ, L, hR, hS, hc, ?_⟩
    refine Eq.mp (congrArg (fun o => PostS g F ρ L.length W D o) ?_) hp
    show eThen (fun τ => M.bnd (fb τ) fun d => M.bnd (fa τ) fun x => sattD i d x) _ τ L = _
    unfold eThen M.bnd
    dsimp only
    cases fb τ L with
    | none => rfl
    | some z =>
      obtain ⟨r, L1⟩ := z
      cases r with
      | ex _ _ => rfl
      | ok d =>
        dsimp only
        cases fa τ L1 with
        | none => rfl
        | some z =>
          obtain ⟨r, L2⟩ := z
          cases r with
          | ex _ _ => rfl
          | ok y => rfl
  refine (SatS.bindV h1).mono fun v H1 q1 => ?_
  obtain ⟨d, q1⟩ := q1
  refine (SatS.bindV q1).mono fun y H2 q2 => ?_
  obtain ⟨dx0, F, ρ, τ, L, hR, hS, hc, hp⟩ := q2
  have hv := hc (v, d) (by simp)
  have hy := hc (y, dx0) (by simp)
  unfold eThen sattD at hp
  cases dx0 with
  | v q => exact False.elim hp
  | r n =>
    dsimp only at hp
    match e : L[n]? with
    | some (.ins c fs) =>
      rw [e] at hp
      dsimp only at hp
      by_cases him : i ∈ flT c
      · rw [if_pos him] at hp
        obtain ⟨_, dx, vs, a1, a2, a3, a4, a5⟩ := hR.ent n _ e (by intro z; cases z)
        have hl : vs.length < 1000 := by
          have l1 := prd_len a2
          have l2 := nodup_sub_len a5 fun x hx => by
            obtain ⟨z, hz, e⟩ := List.mem_map.mp hx
            rw [← e]
            exact a4 z hz
          rw [List.length_map] at l2
          have := a3.few
          omega
        rw [hK]
        refine ⟨ρ n, _, dx, vs, hy.2, a1, a3.cls, a3.att i him, hl, ?_⟩
        obtain ⟨k1, k2⟩ := fput_keys (i := i) (d := d) a5
        have le : (L.set n (MO.ins c (fput i d fs))).length = L.length := by rw [List.length_set]
        refine hp F ρ _ σ (by rw [le]; exact Ext.refl) (hR.put e (by intro z; cases z) _ _ ⟨dx, _, upd_same, fput_is a3.nd hv him a2 a4, a3, fun z hz => ?_, k2⟩) (by rw [le]; exact hS)
        rcases k1 z hz with q | ⟨w, hw, q⟩
        · rw [q]; exact him
        · rw [← q]; exact a4 w hw
      · rw [if_neg him] at hp
        exact False.elim hp
    | none => rw [e] at hp; exact False.elim hp
    | some (.lst _) => rw [e] at hp; exact False.elim hp
    | some (.dk _) => rw [e] at hp; exact False.elim hp
    | some (.dn _) => rw [e] at hp; exact False.elim hp
    | some (.set _) => rw [e] at hp; exact False.elim hp
    | some .dead => rw [e] at hp; exact False.elim hp
end
end DN

end
section
set_option Elab.async false
set_option linter.all false
set_option maxRecDepth 100000
set_option maxHeartbeats 4000000
/-! D13: list comprehensions; xs[i] = v; further methods. -/
namespace DN
open PySem PySem.Spec PyProof.Rows L2
theorem wipe_comm (σ : L2.St) (i : Nat) (y : Option V) : ∀ vs : List Nat, i ∈ vs → wipe (σ.set i y) vs = wipe σ vs
  | [], h => by cases h
  | v :: vs, h => by
    show (wipe (σ.set i y) vs).set v none = (wipe σ vs).set v none
    by_cases hi : i ∈ vs
    · rw [wipe_comm σ i y vs hi]
    · have hv : i = v := by
        rcases List.mem_cons.mp h with z | z
        · exact z
        · exact absurd z hi
      subst hv
      have key : ∀ (ws : List Nat) (σ : L2.St), i ∉ ws → wipe (σ.set i y) ws = (wipe σ ws).set i y := by
        intro ws
        induction ws with
        | nil => intro σ _; rfl
        | cons u ws ih =>
          intro σ hu
          show (wipe (σ.set i y) ws).set u none = ((wipe σ ws).set u none).set i y
          rw [ih σ (fun z => hu (List.mem_cons_of_mem _ z))]
          exact List.set_comm _ _ fun z => hu (by rw [z]; exact List.mem_cons_self)
      rw [key vs σ hi, List.set_set]
theorem wipe_idem (σ : L2.St) (vs : List Nat) : wipe (wipe σ vs) vs = wipe σ vs := by
  have key : ∀ (us : List Nat) (σ : L2.St), (∀ u ∈ us, u ∈ vs) → wipe (wipe σ us) vs = wipe σ vs := by
    intro us
    induction us with
    | nil => intro σ _; rfl
    | cons u us ih =>
      intro σ h
      show wipe ((wipe σ us).set u none) vs = wipe σ vs
      rw [wipe_comm _ _ _ _ (h u List.mem_cons_self)]
      exact ih σ fun z hz => h z (List.mem_cons_of_mem _ hz)
  exact key vs σ fun _ h => h
section
variable {X : Cx} {g : G} {W : WX} {a b c e o tg elt iter : Expr} {fa fb fc f fe : Tau → M D} {ta tb tt : Tau → M Bool} {pos p apos : Pos} {es ifs : List Expr} {fs : Tau → M (List D)} {k n : Nat} {fn : List D → M D} {s1 : SX}
abbrev W0 : WX := fun _ _ _ _ => False
/-- a target that stores the block's names alone -/
def TgW (g : G) (vs : List Nat) (t : TG) (tg : TgD) : Prop := ∀ (F : Hp) (ρ : Nat → Addr) (L : List MO) (H : Hp) (v : V) (p : P) (σ : L2.St) (τ τ' : Tau) (Q : L2.St → Hp → Prop), R g F ρ L H → Sl g F ρ L.length σ τ → Is g F v p → tg p τ = some τ' →
  (∀ σ', Sl g F ρ L.length σ' τ' → wipe σ' vs = wipe σ vs → Q σ' H) → t v σ H Q
theorem tw_name {vs : List Nat} (i : Nat) (h : i ∈ vs) : TgW g vs (gName i) (tgN i) := by
  intro F ρ L H v p σ τ τ' Q hR hS hv e hQ
  cases e
  exact hQ _ (hS.set (v := v) (d := .v p) hv i) (wipe_comm σ i _ vs h)
def TgsW (g : G) (vs0 : List Nat) (t : TGs) (ts : List TgD) : Prop := ∀ (F : Hp) (ρ : Nat → Addr) (L : List MO) (H : Hp) (vs : List V) (ps : List P) (σ : L2.St) (τ τ' : Tau) (Q : L2.St → Hp → Prop), R g F ρ L H → Sl g F ρ L.length σ τ → IsA g F vs ps → tgs ts ps τ = some τ' →
  (∀ σ', Sl g F ρ L.length σ' τ' → wipe σ' vs0 = wipe σ vs0 → Q σ' H) → t vs σ H Q
theorem tws_nil {vs0 : List Nat} : TgsW g vs0 gNil [] := by
  intro F ρ L H vs ps σ τ τ' Q hR hS hv e hQ
  cases hv with
  | nil => cases e; exact ⟨rfl, hQ _ hS rfl⟩
  | cons _ _ => cases e
theorem tws_cons {vs0 : List Nat} {t : TG} {u : TGs} {x : TgD} {xs : List TgD} (h1 : TgW g vs0 t x) (h2 : TgsW g vs0 u xs) : TgsW g vs0 (gCons t u) (x :: xs) := by
  intro F ρ L H vs ps σ τ τ' Q hR hS hv e hQ
  cases hv with
  | nil => cases e
  | cons hv ht =>
    unfold tgs at e
    rename_i v p vs ps
    match e1 : x p τ with
    | none => rw [e1] at e; cases e
    | some τ1 =>
      rw [e1] at e
      exact ⟨v, vs, rfl, h1 F ρ L H v p σ τ τ1 _ hR hS hv e1 fun σ1 hS1 w1 => h2 F ρ L H vs ps σ1 τ1 τ' Q hR hS1 ht e fun σ2 hS2 w2 => hQ σ2 hS2 (w2.trans w1)⟩
theorem tw_tup {vs0 : List Nat} {K : PySem.W.Frag} {n : Nat} {t : TGs} {ts : List TgD} (hK : K = g.K) (h : TgsW g vs0 t ts) (hn : ts.length = n) : TgW g vs0 (gTup K n t) (tgT ts) := by
  subst hK
  intro F ρ L H v p σ τ τ' Q hR hS hv e hQ
  unfold tgT at e
  cases p with
  | tup ps =>
    dsimp only at e
    by_cases hz : ps.length = ts.length
    · rw [if_pos hz] at e
      obtain ⟨a, vs, e1, h1, h2⟩ := Is.inv_tup hv
      exact ⟨a, vs, e1, hR.sub.sqT h1, by rw [h2.len, hz, hn], h F ρ L H vs ps σ τ τ' Q hR hS h2 e hQ⟩
    · rw [if_neg hz] at e
      cases e
  | _ => cases e
/-- one item of a comprehension: its test, its element -/
def lcT (tg : TgD) (tt : Tau → M Bool) (fe : Tau → M D) (p : P) (τ : Tau) : M (Option P) := fun L => match tg p τ with
  | none => none
  | some τ1 => match tt τ1 L with
    | some (.ok false, L1) => some (.ok none, L1)
    | some (.ok true, L1) => match fe τ1 L1 with
      | some (.ok (.v q), L2) => some (.ok (some q), L2)
      | _ => none
    | _ => none
open Classical in
noncomputable def lcG (ok : List MO → Prop) (turn : P → Tau → M (Option P)) (n : Nat) (τ : Tau) : List P → List MO → Option (List MO)
  | [], L => if ok L then some L else none
  | p :: ps, L => if ok L then (match turn p τ L with
    | some (.ok none, L1) => lcG ok turn n τ ps L1
    | some (.ok (some q), L1) => (match L1[n]? with
      | some (.lst acc) => if acc.length < sizeLine then lcG ok turn n τ ps (L1.set n (.lst (acc ++ [q]))) else none
      | _ => none)
    | _ => none) else none

open Classical in
noncomputable def lcFin (mu : Bool) (L : List MO) : Option (List MO) → Option (Res D × List MO)
  | some L1 => if mu = true then some (.ok (.r L.length), L1) else (match L1[L.length]? with
      | some (.lst xs) => if Older L L1 then some (.ok (.v (.lst xs)), L1.take L.length) else none
      | _ => none)
  | none => none
noncomputable def lcE (mu : Bool) (turn : P → Tau → M (Option P)) (τ : Tau) (it : Itm) : M D := fun L => lcFin mu L (lcG it.2 turn L.length τ it.1 (L ++ [.lst []]))
noncomputable def lcS (mu : Bool) (src : Tau → M Itm) (vs : List Nat) (tg : TgD) (tt : Tau → M Bool) (fe : Tau → M D) (τ : Tau) : M D := do
  let it ← src τ
  lcE mu (lcT tg tt fe) (killT vs τ) it
theorem Sl.wipe {F : Hp} {ρ : Nat → Addr} {n : Nat} {σ : L2.St} {τ : Tau} (h : Sl g F ρ n σ τ) : ∀ vs : List Nat, Sl g F ρ n (wipe σ vs) (killT vs τ) := by
  have set1 : ∀ {σ : L2.St} {τ : Tau}, Sl g F ρ n σ τ → ∀ v, Sl g F ρ n (σ.set v none) (τ.set v none) := fun {σ τ} h v => by
    refine ⟨by rw [List.length_set, List.length_set]; exact h.1, fun j d q => ?_⟩
    by_cases hj : v = j
    · subst hj
      by_cases hl : v < τ.length
      · rw [List.getElem?_set_self hl] at q; cases q
      · rw [List.getElem?_eq_none (by rw [List.length_set]; omega)] at q; cases q
    · rw [List.getElem?_set_ne hj] at q ⊢
      exact h.2 j d q
  intro vs
  -- forgetting in any order
  have key : ∀ (vs : List Nat) {τ : Tau}, ∀ (i : Nat) (d : D), (killT vs τ)[i]? = some (some d) → τ[i]? = some (some d) ∧ i ∉ vs := by
    intro vs
    induction vs with
    | nil => intro τ i d q; exact ⟨q, by simp⟩
    | cons v vs ih =>
      intro τ i d q
      obtain ⟨q1, q2⟩ := ih (τ := τ.set v none) i d q
      by_cases hv : v = i
      · subst hv
        by_cases hl : v < τ.length
        · rw [List.getElem?_set_self hl] at q1; cases q1
        · rw [List.getElem?_eq_none (by rw [List.length_set]; omega)] at q1; cases q1
      · rw [List.getElem?_set_ne hv] at q1
        exact ⟨q1, fun z => by
          rcases List.mem_cons.mp z with z | z
          · exact hv z.symm
          · exact q2 z⟩
  have klen : ∀ (vs : List Nat) (τ : Tau), (killT vs τ).length = τ.length := by
    intro vs
    induction vs with
    | nil => intro τ; rfl
    | cons v vs ih =>
      intro τ
      show (killT vs (τ.set v none)).length = τ.length
      rw [ih, List.length_set]
  refine ⟨by rw [klen, wipe_length]; exact h.1, fun i d q => ?_⟩
  obtain ⟨q1, q2⟩ := key vs i d q
  obtain ⟨v, h1, h2⟩ := h.2 i d q1
  exact ⟨v, by rw [wipe_out q2]; exact h1, h2⟩
theorem lc_sat {mu : Bool} {src : Tau → M Itm} {vs : List Nat} {t : TG} {tg : TgD} (ht : TgW g vs t tg) {σ : L2.St} {H : Hp} {Q : VK} (h : tE g W (lcS mu src vs tg tt fe) σ H Q) : tLc (tI g W src) t (tT g W0 tt) (tE g W0 fe) vs σ H Q := by
  refine (Sat.bind (ra := relI g) h).mono fun J H1 h1 => ?_
  obtain ⟨F0, ρ0, τ, L0, it, hR0, hS0, _, hsrc, hp0⟩ := h1
  obtain ⟨xs, ok⟩ := it
  intro D hD
  -- the new list in the ledger
  have R1 := hR0.new hD (.lst []) (.lst []) ⟨[], upd_same, .nil⟩
  have len1 : (L0 ++ [MO.lst []]).length = L0.length + 1 := by rw [List.length_append, List.length_singleton]
  have E1 : Ext F0 ρ0 L0.length F0 (rput ρ0 L0.length D) (L0 ++ [MO.lst []]).length := by rw [len1]; exact Ext.new
  have hp1 : Post g (relV g) F0 ρ0 L0.length (fun c d H' => W c d σ H') Q (lcFin mu L0 (lcG ok (lcT tg tt fe) L0.length (killT vs τ) xs (L0 ++ [.lst []]))) := hp0
  refine ⟨fun i m H => m = xs.length - i ∧ i ≤ xs.length ∧ ∃ F ρ L, Ext F0 (rput ρ0 L0.length D) (L0.length + 1) F ρ L.length ∧ R g F ρ L H ∧ Post g (relV g) F0 ρ0 L0.length (fun c d H' => W c d σ H') Q (lcFin mu L0 (lcG ok (lcT tg tt fe) L0.length (killT vs τ) (xs.drop i) L)), ⟨xs.length, by simp, Nat.zero_le _, F0, _, _, by rw [len1]; exact Ext.refl, R1, hp1⟩, ?_⟩
  rintro i m H2 ⟨rfl, hi, F, ρ, L, hE, hR, hp⟩
  have hE0 : Ext F0 ρ0 L0.length F ρ L.length := by
    have := Ext.trans E1 (by rw [len1]; exact hE)
    exact this
  have hSl : Sl g F ρ L.length σ τ := hS0.ext hE0
  by_cases hlt : i < xs.length
  · refine .inr ?_
    have e0 : xs[i]? = some xs[i] := List.getElem?_eq_getElem hlt
    rw [List.drop_eq_getElem_cons hlt] at hp
    unfold lcG at hp
    by_cases hk : ok L
    · rw [if_pos hk] at hp
      obtain ⟨go, yl⟩ := (hsrc F ρ L H2 hE0 hR hk).1 i _ e0
      refine ⟨go, fun H' => i + 1 ≤ xs.length ∧ ∃ F ρ L, Ext F0 (rput ρ0 L0.length D) (L0.length + 1) F ρ L.length ∧ R g F ρ L H' ∧ Post g (relV g) F0 ρ0 L0.length (fun c d H' => W c d σ H') Q (lcFin mu L0 (lcG ok (lcT tg tt fe) L0.length (killT vs τ) (xs.drop (i + 1)) L)), fun H' q => ⟨xs.length - (i + 1), by omega, rfl, q⟩, fun x H' hy => ?_⟩
      obtain ⟨F', sb, hR', hx⟩ := yl x H' hy
      have e1 : Ext F ρ L.length F' ρ L.length := ⟨sb, fun _ _ => rfl, Nat.le_refl _⟩
      have hS2 : Sl g F' ρ L.length (wipe σ vs) (killT vs τ) := (hSl.ext e1).wipe vs
      unfold lcT at hp
      match et : tg xs[i] (killT vs τ) with
      | none => rw [et] at hp; exact False.elim hp
      | some τ1 =>
        rw [et] at hp
        dsimp only at hp
        refine ht F' ρ L H' x _ (wipe σ vs) (killT vs τ) τ1 _ hR' hS2 hx et fun σ3 hS3 hw => ⟨by rw [hw, wipe_idem], F', ρ, τ1, L, hR', hS3, (fun y hy => by cases hy), ?_⟩
        match eb : tt τ1 L with
        | none => rw [eb] at hp; exact False.elim hp
        | some (.ex _ _, _) => rw [eb] at hp; exact False.elim hp
        | some (.ok false, L1) =>
          rw [eb] at hp
          dsimp only at hp
          intro F3 ρ3 b3 H3 x1 x2 x3
          subst x3
          rw [if_neg Bool.false_ne_true]
          exact ⟨hlt, F3, ρ3, L1, hE.trans (e1.trans x1), x2, hp⟩
        | some (.ok true, L1) =>
          rw [eb] at hp
          dsimp only at hp
          intro F3 ρ3 b3 H3 x1 x2 x3
          subst x3
          rw [if_pos rfl]
          refine ⟨F3, ρ3, τ1, L1, x2, hS3.ext x1, (fun y hy => by cases hy), ?_⟩
          match ee : fe τ1 L1 with
          | none => rw [ee] at hp; exact False.elim hp
          | some (.ex _ _, _) => rw [ee] at hp; exact False.elim hp
          | some (.ok (.r _), _) => rw [ee] at hp; exact False.elim hp
          | some (.ok (.v q), L2) =>
            rw [ee] at hp
            dsimp only at hp
            intro F4 ρ4 v4 H4 y1 y2 y3
            match el : L2[L0.length]? with
            | some (.lst acc) =>
              rw [el] at hp
              dsimp only at hp
              by_cases hz : acc.length < sizeLine
              · rw [if_pos hz] at hp
                obtain ⟨us, h1, h2⟩ := y2.lstAt el
                have hEE := hE.trans (e1.trans (x1.trans y1))
                have hrho : ρ4 L0.length = D := by rw [hEE.rho _ (Nat.lt_succ_self _), rput_new]
                refine ⟨us, by rw [← hrho]; exact h1, by rw [h2.len]; exact hz, hlt, F4, ρ4, L2.set L0.length (.lst (acc ++ [q])), by rw [List.length_set]; exact hEE, ?_, hp⟩
                rw [← hrho]
                exact y2.put el (by intro z; cases z) _ _ ⟨_, upd_same, h2.append (.cons y3 .nil)⟩
              · rw [if_neg hz] at hp; exact False.elim hp
            | none => rw [el] at hp; exact False.elim hp
            | some (.dk _) => rw [el] at hp; exact False.elim hp
            | some (.dn _) => rw [el] at hp; exact False.elim hp
            | some (.ins _ _) => rw [el] at hp; exact False.elim hp
            | some (.set _) => rw [el] at hp; exact False.elim hp
            | some .dead => rw [el] at hp; exact False.elim hp
    · rw [if_neg hk] at hp
      exact False.elim hp
  · have e : i = xs.length := by omega
    subst e
    rw [List.drop_length] at hp
    unfold lcG at hp
    by_cases hk : ok L
    · rw [if_pos hk] at hp
      refine .inl ⟨(hsrc F ρ L H2 hE0 hR hk).2, ?_⟩
      unfold lcFin at hp
      dsimp only at hp
      have ln : L0.length < L.length := by have := hE.len; omega
      have hrho : ρ L0.length = D := by rw [hE.rho _ (Nat.lt_succ_self _), rput_new]
      cases mu with
      | true =>
        rw [if_pos rfl] at hp
        exact hp F ρ _ H2 hE0 hR ⟨ln, by rw [hrho]⟩
      | false =>
        rw [if_neg Bool.false_ne_true] at hp
        match el : L[L0.length]? with
        | some (.lst ys) =>
          rw [el] at hp
          dsimp only at hp
          by_cases ho : Older L0 L
          · rw [if_pos ho] at hp
            obtain ⟨us, h1, h2⟩ := hR.lstAt el
            have hf := hR.freeze el (by intro z; cases z) h1
            have sb : Sub F (upd F (ρ L0.length) (.lst us)) := fun b q eb => by
              have nb : b ≠ ρ L0.length := fun z => by rw [z, (hR.ent _ _ el (by intro z; cases z)).1] at eb; cases eb
              rw [upd_ne nb]
              exact eb
            have e4 : (L.set L0.length MO.dead).take L0.length = L.take L0.length := by
              rw [List.take_set, List.set_eq_of_length_le (by rw [List.length_take]; omega)]
            have q2 : (L.take L0.length).length = L0.length := by rw [List.length_take]; omega
            have q3 : R g (upd F (ρ L0.length) (.lst us)) ρ0 (L.take L0.length) H2 := by
              rw [← e4]
              refine hf.trunc (by rw [List.length_set]; omega) hE0.rho fun i m hi e => ?_
              rw [List.getElem?_set_ne (by omega)] at e
              rcases ho.2 i m hi e with q | q
              · exact hR0.okR q
              · exact q
            refine hp _ ρ0 _ H2 ⟨hE0.sub.trans sb, fun _ _ => rfl, by rw [q2]; exact Nat.le_refl _⟩ q3 ?_
            refine Is.lst ?_ (IsA.mono sb h2)
            rw [← hrho]
            exact upd_same
          · rw [if_neg ho] at hp; exact False.elim hp
        | none => rw [el] at hp; exact False.elim hp
        | some (.dk _) => rw [el] at hp; exact False.elim hp
        | some (.dn _) => rw [el] at hp; exact False.elim hp
        | some (.ins _ _) => rw [el] at hp; exact False.elim hp
        | some (.set _) => rw [el] at hp; exact False.elim hp
        | some .dead => rw [el] at hp; exact False.elim hp
    · rw [if_neg hk] at hp
      exact False.elim hp
def yesB (_ : Tau) : M Bool := pure true
theorem PTs.weak {t t' : TT} (h : PTs X ifs t) (w : ∀ σ H Q, t' σ H Q → t σ H Q) : PTs X ifs t' := ⟨fun pins s σ H Q I q => h.run pins s σ H Q I (w σ H Q q)⟩
theorem dts_nil : PTs X [] (tT g W yesB) := PTs.weak pts_nil fun σ H Q h => by
  obtain ⟨F, ρ, τ, L, hR, hS, hc, hp⟩ := h
  exact hp F ρ true H Ext.refl hR rfl
theorem dts_one (h : PT X c (tT g W ta)) : PTs X [c] (tT g W ta) := pts_one h
theorem de_lc {scope : Scope} {own : List (Str × Nat)} {mu : Bool} {src : Tau → M Itm} {t : TG} {td : TgD} (hc : X.calm = true) (hN : X.N.Nodup) (hi : PI X tg iter (tI g W src)) (ok : BlkOk X.N X.env.scope scope own)
    (hg : ∀ (s : Shared) (H : Hp) (C : Addr) (cl : List (Str × Addr)) (fp : List Addr), PG (X.blk s H scope (compEnvC scope cl C X.env) fp) tg t) (ht : TgW g (own.map (·.2)) t td)
    (hts : ∀ (s : Shared) (H : Hp) (C : Addr) (cl : List (Str × Addr)) (fp : List Addr), PTs (X.blk s H scope (compEnvC scope cl C X.env) fp) ifs (tT g W0 tt))
    (he : ∀ (s : Shared) (H : Hp) (C : Addr) (cl : List (Str × Addr)) (fp : List Addr), PE (X.blk s H scope (compEnvC scope cl C X.env) fp) elt (tE g W0 fe)) (hs : ∀ x, foldedSetIterable iter X.env x = pure x := by intro _; rfl) :
    PE X (.ListComp elt [⟨tg, iter, ifs, 0⟩] scope pos) (tE g W (lcS mu src (own.map (·.2)) td tt fe)) := PE.weak (pe_lc hc hN hi ok hg hts he hs) fun σ H Q h => lc_sat ht h
theorem ds_setLc {i : Nat} {y : Str} {py spos : Pos} {scope : Scope} {own : List (Str × Nat)} {mu : Bool} {src : Tau → M Itm} {t : TG} {td : TgD} (hc : X.calm = true) (hN : X.N.Nodup) (hy : X.N[i]? = some y) (hyl : X.env.scope.names.lookup y = some .local)
    (hsw : swapsWith (.ListComp elt [⟨tg, iter, ifs, 0⟩] scope pos) (some (.Name y py)) spos.line X.env = pure true) (hi : PI X tg iter (tI g W src)) (ok : BlkOk X.N X.env.scope scope own)
    (hg : ∀ (s : Shared) (H : Hp) (C : Addr) (cl : List (Str × Addr)) (fp : List Addr), PG (X.blk s H scope (compEnvC scope cl C X.env) fp) tg t) (ht : TgW g (own.map (·.2)) t td)
    (hts : ∀ (s : Shared) (H : Hp) (C : Addr) (cl : List (Str × Addr)) (fp : List Addr), PTs (X.blk s H scope (compEnvC scope cl C X.env) fp) ifs (tT g W0 tt))
    (he : ∀ (s : Shared) (H : Hp) (C : Addr) (cl : List (Str × Addr)) (fp : List Addr), PE (X.blk s H scope (compEnvC scope cl C X.env) fp) elt (tE g W0 fe)) (hs : ∀ x, foldedSetIterable iter X.env x = pure x := by intro _; rfl) :
    PS X (.Assign [.Name y py] (.ListComp elt [⟨tg, iter, ifs, 0⟩] scope pos) spos) (tS g W (setS i (lcS mu src (own.map (·.2)) td tt fe))) := by
  refine PS.weak (ps_setLc hc hN hy hyl hsw hi ok hg hts he hs) fun D σ H h => ?_
  have q := setS_sat h
  exact lc_sat ht q
end
end DN

end
section
set_option Elab.async false
set_option linter.all false
set_option maxRecDepth 100000
set_option maxHeartbeats 4000000
/-! E1: an own exception class over another own one over ValueError; its __init__ says super().__init__('..'), then stores its parameters. -/
namespace DN
open PySem PySem.Spec PyProof.Rows PySem.W PySem.Calls L2 NdefX

/-- the built-in's __init__, bound, called: nothing of the object is told but its args -/
theorem call_mwV {prog : Program} {w : World} {A : Around} {E : Value → Shared → Prop} {h : Heap} {g : Array GenState} {d : Drawn} {t : Nat} {os : OsState}
    {nm q : Str} {C N : Addr} {bs bm : List Value} {hdct : Bool} {sn : List Str} {sub : List Value} {ab : Bool} {col : Option Bool} {dd : Option Addr} {k0 k1 k2 k3 k5 : Option Value} {u e t0 : Addr} {rest : List Value} {Q : Value → Shared → Prop}
    (hC : h.get? C = some (excClassObj nm q C N bs bm hdct sn sub ab col dd k0 k1 k2 k3 k5 "ValueError.__new__")) (he : h.get? e = some (excObj C t0 none .none)) (hu : h.get? u = some (kxs_mw "ValueError.__init__" e)) (hrest : rest.length ≤ sizeLine)
    (hq : ∀ h' t1, (∀ b o, b ≠ e → h.get? b = some o → h'.get? b = some o) → h'.get? e = some (excObj C t1 none .none) → Q .none ⟨h', g, d, t, os⟩) :
    wpAny (model prog w) A (call (.ref u) rest) Q E ⟨h, g, d, t, os⟩ := by
  refine wpAny_call (codeAny_of_tree ?_)
  show wpAny _ A.in1 (callAny (.ref u) ⟨rest, []⟩) _ _ _
  simp only [callAny]
  refine wpAny_bind (wpAny_load hu ?_)
  simp only [kxs_mw, show (Value.type "method-wrapper" == Value.type "method" || Value.type "method-wrapper" == Value.type "builtin_function_or_method" || Value.type "method-wrapper" == Value.type "method-wrapper") = true by decide, if_true]
  refine KFB.if_so (by decide) ?_
  refine wpAny_bind (check_bound_init F.excBase_ValueError.toExcCallFacts hC he rfl ?_)
  refine wpAny_bind (wpAny_pure (wpAny_pure ?_))
  refine ⟨plainId_quiet F.excBase_ValueError.init.plain _, codeAny_builtin F.excBase_ValueError.initEntry ?_⟩
  exact exc_init_tree (cls := .ref C) (t0 := t0) (dv := none) (c2 := .none) (c3 := .none) (b4 := .bool false) he hrest fun h' k e' _ => hq h' _ k e'

theorem sup_eq {env : Env} {p1 p2 p3 p4 p5 : Pos} {msg : Str} {j : Nat} (hln : (p3.endLine == p5.line) = true) : eval (.Call (.Attribute (.Call (.Name "super" p1) [] [] p2) "__init__" p3) [.Constant (.str msg) j p4] [] p5) env = (do
      let ov ← attributeBase (.Call (.Name "super" p1) [] [] p2) "__init__" env (eval (.Call (.Name "super" p1) [] [] p2) env)
      standAt p3.atName
      let (f, first) ← holding [ov] (getMethod ov "__init__" (do return (← importBound (.Call (.Name "super" p1) [] [] p2) env).getD true))
      callWith p5 f first (backTo p5 (starEach [.Constant (.str msg) j p4] env)) []) := by
  have e2 : methodCallPos true (.Call (.Name "super" p1) [] [] p2) env p3 p5 = pure p5 := by unfold methodCallPos; simp [hln]
  show (do
    let ov ← attributeBase (.Call (.Name "super" p1) [] [] p2) "__init__" env (eval (.Call (.Name "super" p1) [] [] p2) env)
    standAt p3.atName
    let (f, first) ← holding [ov] (getMethod ov "__init__" (do return (← importBound (.Call (.Name "super" p1) [] [] p2) env).getD true))
    let callPos ← methodCallPos true (.Call (.Name "super" p1) [] [] p2) env p3 p5
    callWith callPos f first (backTo p5 (starEach [.Constant (.str msg) j p4] env)) []) = _
  rw [e2]
  rfl

/-- the words self.n = n, .. -/
abbrev P4 := Pos × Pos × Pos × Pos
def stoOf (l : List (Nat × P4)) : List Stmt := l.map fun x => .Assign [.Attribute (.Name "self" x.2.1) (nmT x.1) x.2.2.1] (.Name (nmT x.1) x.2.2.2.1) x.2.2.2.2
/-- an exception's promise: what was passed is laid into its dict, the last one first -/
def spX (C : Addr) (fs : List Nat) : Sp := fun vs H Q _ => ∃ (a : Addr) (ws : List V), vs = .ref a :: ws ∧ ws.length = fs.length ∧ H a = some (exo a C none) ∧
  ∀ d, H d = none → d ≠ a → Q .non (upd (upd H d (exd d ((fs.map nmT).zip ws).reverse)) a (exo a C (some d)))

/-- what the written part says of such a class -/
structure ExFacts (K : PySem.W.Frag) (C fI cc cda : Addr) (prog : Program) (qual : Str) (params : Arguments) (scope : Scope) (fs : List Nat) : Prop where
  T : OexC K C
  iC : findIn K (.ref C) "__init__" = some (some (.ref fI))
  tI : typeIn K (.ref fI) = some (.type "function")
  no : ∀ i ∈ fs, findIn K (.ref C) (nmT i) = some none
  sc : NScope (("self" : Str) :: (fs.map nmT ++ [("__class__" : Str)])) (("self" : Str) :: fs.map nmT) [("__class__" : Str)] scope
  sup : scope.names.lookup ("super" : Str) = some .globalImplicit
  fewer : fs.length < 500
  hcell : ∃ cl cld csl, K.lookup cc = some ⟨cl, cld, .cell (some (.ref C)), csl⟩
  hcode : ∃ (ccl : Value) (cdd : Option Addr) (vs : Array Value) (ccs : Array (Option Value)) (file : Str) (tf : Tok), K.lookup cda = some ⟨ccl, cdd, .fields vs, ccs⟩ ∧ vs[2]? = some (.str file tf) ∧ ((prog.main.file : Str) == file) = true
  htop : (prog.main.scope.names.lookup ("super" : Str)).isSome = false
  hps : (params.posonlyargs ++ params.args).head?.map (·.arg) = some "self"
  hsub : mroIn K C (.ref C) = some true
  hany : nsIn K cStatics "thirdparty.any" = some none
  hal : ks_superIn K C C "__init__" = some (some (.builtin "ValueError.__init__"))
  hVE : subIn K (.ref C) (.type "ValueError") = some true

theorem nmT_plain (i : Nat) : (nmT i == ("__debug__" : Str)) = false ∧ (nmT i == ("__classdict__" : Str)) = false := by
  unfold nmT
  split <;> exact ⟨by decide, by decide⟩
/-- the stores, from the slot off on: no dict as yet | a dict -/
def tSt (K : PySem.W.Frag) (C : Addr) (off : Nat) (fs : List Nat) : TS := fun D σ H => ∃ a d acc ws, σ[0]? = some (some (.ref a)) ∧ (∀ m w, ws[m]? = some w → σ[off + m]? = some (some w)) ∧ ws.length = fs.length ∧ H a = some (exo a C (some d)) ∧
  H d = some (exd d acc) ∧ d ≠ a ∧ acc.length + fs.length ≤ 900 ∧ D.nx σ (upd H d (exd d (((fs.map nmT).zip ws).reverse ++ acc)))
theorem upd_self {H : Hp} {a : Addr} {o : HO} (e : H a = some o) : upd H a o = H := by
  funext b
  by_cases hb : b = a
  · rw [hb, upd_same, e]
  · rw [upd_ne hb]
theorem upd_upd {H : Hp} {a : Addr} {o u : HO} : upd (upd H a o) a u = upd H a u := by
  funext b
  by_cases hb : b = a
  · rw [hb, upd_same, upd_same]
  · rw [upd_ne hb, upd_ne hb, upd_ne hb]
theorem upd_swap {H : Hp} {a b : Addr} {o u : HO} (h : a ≠ b) : upd (upd H a o) b u = upd (upd H b u) a o := by
  funext c
  by_cases ha : c = a
  · rw [ha, upd_ne h, upd_same, upd_same]
  · by_cases hb : c = b
    · rw [hb, upd_same, upd_ne (Ne.symm h), upd_same]
    · rw [upd_ne hb, upd_ne ha, upd_ne ha, upd_ne hb]
section
variable {X : Cx} {C : Addr}
theorem pss_sto (T : OexC X.K C) (h0 : X.N[0]? = some ("self" : Str)) (v0 : Vis X.env.scope "self") : ∀ (l : List (Nat × P4)) (off : Nat), (∀ m x, l[m]? = some x → X.N[off + m]? = some (nmT x.1) ∧ Vis X.env.scope (nmT x.1) ∧ findIn X.K (.ref C) (nmT x.1) = some none) →
    PSs X (stoOf l) (tSt X.K C off (l.map (·.1)))
  | [], off, _ => PSs.weak pss_nil fun D σ H ⟨a, d, acc, ws, e1, e2, e3, e4, e5, e6, e7, q⟩ => by
    have hw : ws = [] := List.eq_nil_of_length_eq_zero e3
    subst hw
    have q' : D.nx σ (upd H d (exd d acc)) := q
    rw [upd_self e5] at q'
    exact q'
  | (i, p1, p2, p3, p4) :: l, off, hl => by
    obtain ⟨n1, n2, n3⟩ := hl 0 _ rfl
    have ih := pss_sto T h0 v0 l (off + 1) fun m x e => by
      have := hl (m + 1) x e
      rw [Nat.add_assoc, Nat.add_comm 1 m]
      exact this
    refine PSs.weak (pss_cons (ps_ost (f := nmT i) (pe_var h0 v0) (pe_var n1 n2 (nmT_plain i).1 (nmT_plain i).2)) ih) fun D σ H ⟨a, d, acc, ws, e1, e2, e3, e4, e5, e6, e7, q⟩ => ?_
    cases ws with
    | nil => cases e3
    | cons w ws =>
      refine ⟨w, e2 0 w rfl, .ref a, e1, a, C, rfl, T, n3, .inr ⟨d, acc, e4, e5, by rw [List.length_map, List.length_cons] at e7; omega, ?_⟩⟩
      refine ⟨a, d, (nmT i, w) :: acc, ws, e1, fun m w' e => ?_, by simpa using e3, by rw [upd_ne (Ne.symm e6)]; exact e4, upd_same, e6, by rw [List.length_map, List.length_cons] at e7; rw [List.length_cons, List.length_map]; omega, ?_⟩
      · have := e2 (m + 1) w' e
        rw [Nat.add_assoc, Nat.add_comm 1 m]
        exact this
      · rw [upd_upd]
        have e8 : ((List.map nmT (List.map (·.1) ((i, p1, p2, p3, p4) :: l))).zip (w :: ws)).reverse ++ acc = ((List.map nmT (List.map (·.1) l)).zip ws).reverse ++ (nmT i, w) :: acc := by simp
        rw [e8] at q
        exact q
/-- .. the first one makes the dict -/
theorem pss_sto0 (T : OexC X.K C) (h0 : X.N[0]? = some ("self" : Str)) (v0 : Vis X.env.scope "self") {l : List (Nat × P4)} (hne : l ≠ []) (hl : ∀ m x, l[m]? = some x → X.N[1 + m]? = some (nmT x.1) ∧ Vis X.env.scope (nmT x.1) ∧ findIn X.K (.ref C) (nmT x.1) = some none) (hn : l.length < 500) :
    PSs X (stoOf l) (fun D σ H => ∃ a ws, σ[0]? = some (some (.ref a)) ∧ (∀ m w, ws[m]? = some w → σ[1 + m]? = some (some w)) ∧ ws.length = l.length ∧ H a = some (exo a C none) ∧
      ∀ d, H d = none → d ≠ a → D.nx σ (upd (upd H d (exd d (((l.map (·.1)).map nmT).zip ws).reverse)) a (exo a C (some d)))) := by
  cases l with
  | nil => exact absurd rfl hne
  | cons x l =>
    obtain ⟨i, p1, p2, p3, p4⟩ := x
    obtain ⟨n1, n2, n3⟩ := hl 0 _ rfl
    have ih := pss_sto T h0 v0 l 2 fun m x e => by
      have := hl (m + 1) x e
      rw [show 1 + (m + 1) = 2 + m by omega] at this
      exact this
    refine PSs.weak (pss_cons (ps_ost (f := nmT i) (pe_var h0 v0) (pe_var n1 n2 (nmT_plain i).1 (nmT_plain i).2)) ih) fun D σ H ⟨a, ws, e1, e2, e3, e4, q⟩ => ?_
    cases ws with
    | nil => cases e3
    | cons w ws =>
      refine ⟨w, e2 0 w rfl, .ref a, e1, a, C, rfl, T, n3, .inl ⟨e4, fun d hd hda => ?_⟩⟩
      refine ⟨a, d, [(nmT i, w)], ws, e1, fun m w' e => ?_, by simpa using e3, upd_same, by rw [upd_ne hda]; exact upd_same, hda, by rw [List.length_map]; rw [List.length_cons] at hn; show 1 + l.length ≤ 900; omega, ?_⟩
      · have := e2 (m + 1) w' e
        rw [show 1 + (m + 1) = 2 + m by omega] at this
        exact this
      · have e8 : ((List.map nmT (List.map (·.1) ((i, p1, p2, p3, p4) :: l))).zip (w :: ws)).reverse = ((List.map nmT (List.map (·.1) l)).zip ws).reverse ++ [(nmT i, w)] := by simp
        have q' := q d hd hda
        rw [e8] at q'
        rw [upd_swap (Ne.symm hda), upd_upd]
        exact q'
end
section
variable {P : Program} {w : World} {K : PySem.W.Frag} {mg : Str → Option Value} {base : Heap} {CX : CXT} {k : Nat} {C fI cc cda : Addr} {nm qual : Str} {params : Arguments} {body : List Stmt} {scope : Scope} {dV kV doc pm ct oc : Value} {an od : Option Addr} {osl : Array (Option Value)} {fs : List Nat}
  {msg : Str} {j : Nat} {p1 p2 p3 p4 p5 p6 : Pos} {sto : List (Nat × P4)}
theorem fn_exc (EF : ExFacts K C fI cc cda P qual params scope fs) (lk : K.lookup fI = some ⟨oc, od, .func (ksFn nm qual params body scope dV kV doc pm an (.ref cda) ct cc), osl⟩) (hcd : codeIn K (.ref cda) qual = true)
    (hb : body = .Expr (.Call (.Attribute (.Call (.Name "super" p1) [] [] p2) "__init__" p3) [.Constant (.str msg) j p4] [] p5) p6 :: stoOf sto) (hln : (p3.endLine == p5.line) = true) (hs : sto.map (·.1) = fs) (hne : fs ≠ []) (hnd : fs.Nodup) (hms : mg "super" = none) (hbt : bootBuiltins "super" = some (.type "super")) :
    FnOk P w K mg base CX (k + 1) fI (ksFn nm qual params body scope dV kV doc pm an (.ref cda) ct cc) (("self" : Str) :: fs.map nmT) (spX C fs) := by
  subst hb
  have len : ∀ {vs : List V} {H : Hp} {Q : VK} {E : XK}, spX C fs vs H Q E → vs.length = (("self" : Str) :: fs.map nmT).length := fun {vs H Q E} ⟨a, ws, e1, e2, _⟩ => by rw [e1, List.length_cons, List.length_cons, List.length_map, e2]
  refine ⟨fun vs H Q E h => len h, fun A outer s H args us vs Q E hr e0 hbd r hsp => ?_⟩
  have KX : K.In s.heap := e0.mod.kin.keeps fun b o e => (e0.bs b o e).1
  have lim : s.heap.NoLimit := e0.mod.nolimit.keeps fun b o e => (e0.bs b o e).1
  have hl := len hsp
  have S := EF.sc
  obtain ⟨cl, cld, csl, hcell⟩ := EF.hcell
  obtain ⟨ccl, cdd, cvs, ccs, file, tf, hcode, hvs, hfile⟩ := EF.hcode
  obtain ⟨a, ws, ev, hlw, ea, hq⟩ := hsp
  let NFv : NF := ⟨nm, qual, params, .Expr (.Call (.Attribute (.Call (.Name "super" p1) [] [] p2) "__init__" p3) [.Constant (.str msg) j p4] [] p5) p6 :: stoOf sto, scope, [("__class__", cc)], cda⟩
  refine codeAny_call_function hr.depth (KX _ _ lk) rfl S.co S.gen rfl (codeRec_of KX hcd) (hbd _ _ _ _ ?_)
  refine wpAny_newFunctionEnv S.nocell (fun ⟨n, _⟩ hy => S.par n (List.of_mem_zip hy).1) (fun h₁ hns hsb => ⟨lim.fresh _ hsb, ?_⟩) S.kind
  have kp : ∀ b o, s.heap.get? b = some o → h₁.get? b = some o := fun b o e => hsb.extBut b o (Nat.ne_of_lt (Heap.lt_size e)) (Heap.get?_push_of_some _ e)
  have clk : ∀ y c, ([(("__class__" : Str), cc)] : List (Str × Addr)).lookup y = some c → y = "__class__" ∧ c = cc := fun y c e => by
    by_cases hy : y = "__class__"
    · subst hy
      rw [List.lookup_cons, beq_self_eq_true] at e
      exact ⟨rfl, (Option.some.inj e).symm⟩
    · rw [List.lookup_cons, beq_eq_false_iff_ne.mpr hy] at e
      cases e
  have cbase : base.get? cc = some ⟨cl, cld, .cell (some (.ref C)), csl⟩ := e0.mod.kin _ _ hcell
  have CA : CellsAt [(("__class__" : Str), cc)] [("__class__" : Str)] [some (.ref C)] s.heap H := by
    refine ⟨rfl, fun y c e => ?_, fun x y c e1 e2 => (clk x c e1).1.trans (clk y c e2).1.symm, fun i y e => ?_⟩
    · obtain ⟨_, rfl⟩ := clk y c e
      exact ⟨(e0.bs _ _ cbase).2, _, _, KX _ _ hcell, rfl⟩
    · cases i with
      | zero =>
        cases e
        refine ⟨cc, by rw [List.lookup_cons, beq_self_eq_true], fun v ev => ?_⟩
        cases ev
        exact ⟨.ref C, rfl, _, KX _ _ hcell, rfl⟩
      | succ i => simp at e
  let X : Cx := ncx CX P w K mg base (("self" : Str) :: (fs.map nmT ++ [("__class__" : Str)])) NFv fI A outer s H E
  have I : Inv X [] (startF X.N vs [some (.ref C)]) H { s with heap := h₁, toks := s.toks + (((("self" : Str) :: fs.map nmT).zip us).length) } := inv_startN (F := NFv) S hr.hd e0 hl r CA hns kp
  have KX1 : K.In h₁ := I.kIn
  obtain ⟨t1, hx⟩ := exo_at I.hok ea
  have IA : PySem.W.InstAt h₁ a (excObj C t1 none .none) C none := ⟨hx, rfl, rfl, trivial⟩
  obtain ⟨u0, us', eu⟩ : ∃ u0 us', us = u0 :: us' ∧ u0 = .ref a := by
    rw [ev] at r
    cases r with
    | cons h t => exact ⟨_, _, rfl, h⟩
  obtain ⟨eu, eu0⟩ := eu
  subst eu0
  obtain ⟨ar, har, hself⟩ : ∃ ar, (params.posonlyargs ++ params.args).head? = some ar ∧ ar.arg = "self" := by
    have := EF.hps
    cases e : (params.posonlyargs ++ params.args).head? with
    | none => rw [e] at this; cases this
    | some ar => rw [e] at this; exact ⟨ar, rfl, Option.some.inj this⟩
  have kself : scope.names.lookup ("self" : Str) = some .local := S.par _ List.mem_cons_self
  have kcls : scope.names.lookup ("__class__" : Str) = some .free := S.frk _ List.mem_cons_self
  refine ks_codeAny_funcAt ?_
  show PySem.wpAt (model X.prog X.w) X.A (.func (_ :: stoOf sto) X.env) (execs (_ :: stoOf sto) X.env) _ _ _
  refine ks_wpAt_execs_cons (ks_wpAt_Expr_any (ks_wpAt_MethodCall (pl := do return (← importBound (.Call (.Name "super" p1) [] [] p2) X.env).getD true) (ks_wpAt_super_base (env := X.env) (fd := ksFn nm qual params (.Expr (.Call (.Attribute (.Call (.Name "super" p1) [] [] p2) "__init__" p3) [.Constant (.str msg) j p4] [] p5) p6 :: stoOf sto) scope dV kV doc pm an (.ref cda) ct cc) EF.sup kcls (by decide) rfl (KX1 _ _ lk) rfl har rfl (KX1 _ _ hcode) rfl hvs hfile EF.htop ?_) (sup_eq hln)) I.quiet)
  obtain ⟨mb, hb1, hb2⟩ := I.mod.blt
  obtain ⟨cd, hcd2⟩ : ∃ cd, clsIn K C = some cd := by
    have h := EF.hsub
    unfold mroIn at h
    cases e : clsIn K C with
    | none => rw [e] at h; cases h
    | some cd => exact ⟨cd, rfl⟩
  obtain ⟨oD, hD1, hD2⟩ : ∃ oD, h₁.get? C = some oD ∧ oD.data = .cls cd := by
    have h := hcd2
    unfold clsIn at h
    split at h
    · rename_i c d cd' sl ho
      cases h
      exact ⟨_, KX1 _ _ ho, rfl⟩
    · cases h
  refine ks_loadName_global I.ok.kind EF.sup (Calls.loadGlobal_builtin (by rw [I.ok.glob]; exact I.mod.glob.keeps I.bk) hms (by rw [I.ok.blt]; exact hb1.keeps I.bk) ((hb2 _ (by decide)).trans hbt) ⟨rfl, ?_⟩)
  refine wpAny_loadName_free I.ok.kind kcls rfl ⟨_, KX1 _ _ hcell, rfl⟩ ?_
  refine wpAny_loadName_local I.ok.kind (by rw [hself]; exact kself) hns (by rw [hself, eu]; exact zip_look (i := 0) (by have q := S.nd.sublist (List.take_sublist ((("self" : Str) :: fs.map nmT).length + 1) _); rw [show (("self" : Str) :: fs.map nmT).length + 1 = (("self" : Str) :: fs.map nmT).length + [("__class__" : Str)].length from rfl, S.pre] at q; exact (List.nodup_append.mp q).1) rfl rfl) ?_
  refine ks_wpAny_isType_cls hD1 hD2 ⟨rfl, ?_⟩
  refine ks_wpAny_call_super hD1 hD2 hx rfl (fun c e => by cases e) (looks_mroIn KX1 EF.hsub) (fun h2 hso k2 => ?_)
  have J2 := I.kept (t' := s.toks + (((("self" : Str) :: fs.map nmT).zip us).length)) k2
  have KX2 : K.In h2 := J2.kIn
  have hx2 := k2 _ _ hx
  have IA2 : PySem.W.InstAt h2 a (excObj C t1 none .none) C none := ⟨hx2, rfl, rfl, trivial⟩
  refine kxs_getMethod kxs_ValueError hso (looks_opaque KX2 EF.hany) (l₀ := cd.mro) (fun A Q E s k q => wpAny_bind ((looks_clsIn KX2 hcd2) A _ E s k (wpAny_pure q))) rfl KX2 (by have h := EF.hal; unfold ks_superIn at h; rw [hcd2] at h; exact h) (IA2.type.andThen (looks_subIn KX2 EF.hVE)) (ks_ne KX2 IA2 hcd2) (by decide) ?_
  have J3 : Inv X [] (startF X.N vs [some (.ref C)]) H ⟨h2.push (kxs_mw "ValueError.__init__" a), s.gens, s.drawn, s.toks + (((("self" : Str) :: fs.map nmT).zip us).length) + 1, s.os⟩ := J2.kept (fun b o e => Heap.get?_push_of_some _ e)
  have eu2 : (h2.push (kxs_mw "ValueError.__init__" a)).get? h2.objs.size = some (kxs_mw "ValueError.__init__" a) := Heap.get?_push_size _ rfl
  have J4 : Inv X [(h2.objs.size, kxs_mw "ValueError.__init__" a)] (startF X.N vs [some (.ref C)]) H ⟨h2.push (kxs_mw "ValueError.__init__" a), s.gens, s.drawn, s.toks + (((("self" : Str) :: fs.map nmT).zip us).length) + 1, s.os⟩ := J3.pins_of fun p hp => by
    have hp' : p = (h2.objs.size, kxs_mw "ValueError.__init__" a) := by
      have hp' : p ∈ ([] : List (Addr × Obj)) ++ [(h2.objs.size, kxs_mw "ValueError.__init__" a)] := hp
      simpa using hp'
    rw [hp']
    exact ⟨eu2, J2.hok.fresh (Nat.le_refl _), Nat.ne_of_gt J2.lt, J2.nofs (Nat.le_refl _), fun v z => by cases z⟩
  have PC : PA X [.Constant (.str msg) j p4] (tCons (tC (.str msg)) tNil) := pa_cons pe_str pa_nil
  refine kxs_callWith (i := "ValueError.__init__") (x := a) rfl (evalArgs_plain (thn (PC.run p5 [(h2.objs.size, kxs_mw "ValueError.__init__" a)] _ _ H (fun vs' H' => vs' = [.str msg] ∧ H' = H) J4 ⟨rfl, rfl⟩) fun us4 s4 hh => ?_))
  obtain ⟨vs4, H4, J5, r4, e4, eH4⟩ := hh
  subst eH4
  subst e4
  have pu := (J5.pin (h2.objs.size, kxs_mw "ValueError.__init__" a) (List.mem_append_right _ List.mem_cons_self)).1
  refine ⟨pu, ?_⟩
  obtain ⟨t4, hx4⟩ := exo_at J5.hok ea
  obtain ⟨nm', q', N', bs', bm', sn', sub', ab', col', dd', k0, k1, k2', k3, k5, hC, hbm⟩ := EF.T.cls
  obtain ⟨g4h, g4g, g4d, g4t, g4o⟩ := s4
  refine call_mwV (J5.kIn _ _ hC) hx4 pu (by rw [List.nil_append, ← Paired.length r4]; show 1 ≤ sizeLine; rw [sizeLine_eq]; omega) fun h5 t5 k5' hx5 => ?_
  have J6 := J5.write (t' := g4t) (x := a) (e := a) (o := exo a C none) (by rw [ea]; exact True.intro) (.inl rfl) k5' ⟨_, hx5⟩ (exo_ok hx5)
  have eu6 : upd H4 a (exo a C none) = H4 := by
    funext b
    by_cases hb : b = a
    · rw [hb, upd_same, ea]
    · rw [upd_ne hb]
  rw [eu6] at J6
  refine PySem.wpAt_of_wpAny ?_
  have hNI : ∀ m x, sto[m]? = some x → X.N[1 + m]? = some (nmT x.1) ∧ Vis X.env.scope (nmT x.1) ∧ findIn X.K (.ref C) (nmT x.1) = some none := fun m x e => by
    have e1 : fs[m]? = some x.1 := by rw [← hs, List.getElem?_map, e]; rfl
    have e2 : (fs.map nmT)[m]? = some (nmT x.1) := by rw [List.getElem?_map, e1]; rfl
    have hm : nmT x.1 ∈ fs.map nmT := List.mem_of_getElem? e2
    refine ⟨?_, .inl (S.par _ (List.mem_cons_of_mem _ hm)), EF.no _ (List.mem_of_getElem? e1)⟩
    show (("self" : Str) :: (fs.map nmT ++ [("__class__" : Str)]))[1 + m]? = _
    rw [Nat.add_comm, List.getElem?_cons_succ, List.getElem?_append_left (List.getElem?_eq_some_iff.mp e2).1]
    exact e2
  have hsne : sto ≠ [] := fun z => hne (by rw [← hs, z]; rfl)
  have hsl : sto.length = fs.length := by rw [← hs, List.length_map]
  have body := pss_sto0 (X := X) EF.T rfl (.inl kself) hsne hNI (by rw [hsl]; exact EF.fewer)
  refine wpAny_mono (body.run _ _ _ H4 { nx := fun _ H' => Q .non H', rt := Q } J6 ⟨a, ws, ?_, fun m w' e => ?_, by rw [hsl]; exact hlw, ea, fun d hd hda => by rw [hs]; exact hq d hd hda⟩) (fun fl s' hs' => ?_) fun e s' hs' => hs'
  · show (startF X.N vs [some (.ref C)])[0]? = _
    rw [ev]
    rfl
  · show (startF X.N vs [some (.ref C)])[1 + m]? = _
    rw [ev]
    unfold startF
    rw [List.getElem?_append_left (by rw [List.length_map, List.length_cons]; have := (List.getElem?_eq_some_iff.mp e).1; omega), List.getElem?_map, Nat.add_comm, List.getElem?_cons_succ, e]
    rfl
  · have fin : ∀ {σ' : L2.St} {H' : Hp} {v : V} {u : Value} {pins'}, L2.Inv X pins' σ' H' s' → L2.RelV v u → Q v H' → CE outer P w H4 s Q u s' :=
      fun {σ' H' v u pins'} J rv q => ⟨v, H', J.os, J.bare, J.base, J.hok, rv, q⟩
    cases fl with
    | ret u =>
      obtain ⟨v, σ', H', J, rv, q⟩ := hs'
      exact fin J rv q
    | next =>
      obtain ⟨σ', H', J, q⟩ := hs'
      exact fin (v := V.non) (u := Value.none) J rfl q
    | brk =>
      obtain ⟨_, _, _, q⟩ := hs'
      exact False.elim q
    | cont =>
      obtain ⟨_, _, _, q⟩ := hs'
      exact False.elim q
end
end DN

end
section
set_option Elab.async false
set_option linter.all false
set_option maxRecDepth 100000
set_option maxHeartbeats 4000000
/-! E2: raise X(..); try .. except; what a suite asks of the error. -/
namespace DN
open PySem PySem.Spec PyProof.Rows L2
section
variable {X : Cx} {g : G} {W : WX} {e : Expr} {es : List Expr} {fs : Tau → M (List D)} {p pos pos2 : Pos} {k : Nat}
def raiseS (c : Nat) (fs : Tau → M (List D)) : SX := eThen fs fun ds τ L => match asPs ds with
  | some ps => if ps.length = (flT c).length then some (.ex τ c ps.reverse, L) else none
  | none => none
theorem zip_snoc {α β : Type} {x : α} {y : β} : ∀ {xs : List α} {ys : List β}, xs.length = ys.length → (xs ++ [x]).zip (ys ++ [y]) = xs.zip ys ++ [(x, y)]
  | [], [], _ => rfl
  | [], _ :: _, h => by cases h
  | _ :: _, [], h => by cases h
  | a :: xs, b :: ys, h => by
    have := zip_snoc (x := x) (y := y) (xs := xs) (ys := ys) (Nat.succ.inj h)
    simp only [List.cons_append, List.zip_cons_cons, this]
theorem zip_rev {α β : Type} : ∀ {xs : List α} {ys : List β}, xs.length = ys.length → (xs.reverse.zip ys).reverse = xs.zip ys.reverse := by
  have key : ∀ {xs : List α} {ys : List β}, xs.length = ys.length → (xs.zip ys).reverse = xs.reverse.zip ys.reverse := by
    intro xs
    induction xs with
    | nil => intro ys _; rfl
    | cons a xs ih =>
      intro ys h
      cases ys with
      | nil => cases h
      | cons b ys =>
        have h' : xs.length = ys.length := Nat.succ.inj h
        rw [List.zip_cons_cons, List.reverse_cons, List.reverse_cons, List.reverse_cons, zip_snoc (by rw [List.length_reverse, List.length_reverse, h']), ih h']
  intro xs ys h
  rw [key (by rw [List.length_reverse, h]), List.reverse_reverse]
theorem isA_rev {F : Hp} {vs : List V} {ps : List P} (h : IsA g F vs ps) : IsA g F vs.reverse ps.reverse := by
  have snoc : ∀ {vs : List V} {ps : List P} {v : V} {p : P}, IsA g F vs ps → Is g F v p → IsA g F (vs ++ [v]) (ps ++ [p]) := by
    intro vs ps v p h
    induction vs generalizing ps with
    | nil => intro h2; cases h; exact .cons h2 .nil
    | cons a l ih => intro h2; cases h with | cons h t => exact .cons h (ih t h2)
  induction vs generalizing ps with
  | nil => cases h; exact .nil
  | cons a l ih => cases h with | cons h t => rw [List.reverse_cons, List.reverse_cons]; exact snoc (ih t) h
theorem ds_raise {x : Str} {c : Nat} {fI : Addr} {fd : FuncData} (hc : X.calm = true) (tk : Takes X W) (T : OexC X.K (g.cl c)) (iC : PySem.W.findIn X.K (.ref (g.cl c)) "__init__" = some (some (.ref fI))) (tI : PySem.W.typeIn X.K (.ref fI) = some (.type "function"))
    (FO : FnOk X.prog X.w X.K X.mg X.base (L2.CX X.prog X.w) k fI fd (("self" : Str) :: (flT c).reverse.map nmT) (spX (g.cl c) (flT c).reverse)) (hr : Room (k + 1) X.A) (hb : Binds X.K fd (("self" : Str) :: (flT c).reverse.map nmT) [])
    (hg : Gl X x) (hm : X.mg x = some (.ref (g.cl c))) (hfew : (flT c).length ≤ 1000) (ha : PA X (e :: es) (tA g W fs)) (hdb : (x == ("__debug__" : Str)) = false := by decide)
    (hst : starEach (e :: es) X.env = (false, eval e X.env) :: starEach es X.env := by rfl) (hpl : (backTo pos (starEach es X.env)).any (·.1) = false := by rfl) :
    PS X (.Raise (some (.Call (.Name x p) (e :: es) [] pos)) none pos2) (tS g W (raiseS c fs)) := by
  refine PS.weak (ps_raise hc tk (pmk_oex T iC tI FO hr hb .nil (passes_call tk fun _ _ _ _ h => h.elim) hg hm ha hdb hst hpl)) fun D σ H h => ?_
  refine (SatS.bind (ra := relA g) h).mono fun vs H1 h1 => ?_
  obtain ⟨F, ρ, τ, L, ds, hR, hS, hcx, hr, hp⟩ := h1
  match ed : asPs ds with
  | none => rw [ed] at hp; exact False.elim hp
  | some ps =>
    rw [ed] at hp
    dsimp only at hp
    have hi := asPs_is hr ed
    by_cases hz : ps.length = (flT c).length
    · rw [if_pos hz] at hp
      have hvl : vs.length = (flT c).length := hi.len.trans hz
      refine ⟨by rw [hvl]; exact hfew, fun a hna => ⟨a, vs ++ [], rfl, by rw [List.append_nil, List.length_reverse, hvl], upd_same, fun d hd hda => ?_⟩⟩
      rw [upd_ne hda] at hd
      refine ⟨rfl, d, _, upd_same, by rw [upd_ne hda]; exact upd_same, hd, ?_⟩
      have eH : upd (del (upd (upd (upd H1 a (exo a (g.cl c) none)) d (exd d ((List.map nmT (flT c).reverse).zip (vs ++ [])).reverse)) a (exo a (g.cl c) (some d))) a) d (.xd ((List.map nmT (flT c).reverse).zip (vs ++ [])).reverse) = upd H1 d (.xd (((flT c).map nmT).zip vs.reverse)) := by
        have ez : ((List.map nmT (flT c).reverse).zip (vs ++ [])).reverse = ((flT c).map nmT).zip vs.reverse := by
          rw [List.append_nil, List.map_reverse]
          exact zip_rev (by rw [List.length_map, hvl])
        rw [ez]
        funext b
        by_cases hb : b = d
        · rw [hb, upd_same, upd_same]
        · rw [upd_ne hb, upd_ne hb]
          by_cases hba : b = a
          · rw [hba, del_same, hna]
          · rw [del_ne hba, upd_ne hba, upd_ne hb, upd_ne hba]
      rw [eH]
      refine hp (upd F d (.xd (((flT c).map nmT).zip vs.reverse))) ρ d vs.reverse _ σ ⟨Sub.frz hR hd _, fun _ _ => rfl, Nat.le_refl _⟩ (hR.frz hd _) (hS.ext ⟨Sub.frz hR hd _, fun _ _ => rfl, Nat.le_refl _⟩) upd_same ?_ ?_
      · rw [List.length_reverse, hvl]
      · exact isA_rev (IsA.mono (Sub.frz hR hd _) hi)
    · rw [if_neg hz] at hp
      exact False.elim hp
end

/-! ### try: .. except X [as n]: .. -/
/-- the class c is c' or under it -/
def subE (c c' : Nat) : Bool := c == c' || c' == 20
structure Clz where
  c : Nat
  i : Option Nat
  su : Nat → Nat → Nat → SX
/-- the clause's name is gone behind its suite -/
def dropO (i : Nat) : Option (Out × List MO) → Option (Out × List MO)
  | some (.nx τ, L) => some (.nx (τ.set i none), L)
  | some (.bk τ, L) => some (.bk (τ.set i none), L)
  | some (.ct τ, L) => some (.ct (τ.set i none), L)
  | some (.rt d, L) => some (.rt d, L)
  | _ => none
def dropN : Option (Out × List MO) → Option (Out × List MO)
  | some (.ex _ _ _, _) => none
  | o => o
def clOne (z : Clz) (a dx c : Nat) (fs : List P) : SX := fun τ L => match z.i with
  | none => dropN (z.su a dx c τ L)
  | some i => dropO i (z.su a dx c (τ.set i (some (.v (.exn c (.int a :: .int dx :: fs))))) L)
def clS : List Clz → Nat → List P → SX
  | [], c, fs => fun τ L => some (.ex τ c fs, L)
  | z :: zs, c, fs => if subE c z.c = true then clOne z 0 0 c fs else clS zs c fs
def tryS (tab : List Nat) (zs : List Clz) (sb : SX) : SX := fun τ L => match sb τ L with
  | some (.ex τ1 c fs, L1) => if c ∈ tab then clS zs c fs τ1 L1 else none
  | o => o
/-- the clauses in the text are those -/
inductive HdD (X : Cx) (g : G) (tab : List Nat) : List ExceptHandler → List Clz → Prop
  | nil : HdD X g tab [] []
  | only {x : Str} {z : Clz} {b0 : Stmt} {suite : List Stmt} {np p1 : Pos} {hds : List ExceptHandler} {zs : List Clz} (hi : z.i = none) (hc : Names X x (.ref (g.cl z.c)))
      (hsu : ∀ (a : Addr) (oe : Obj) (dx : Addr) (c : Nat) (pn : List (Addr × Obj)), c ∈ tab → Zc (.ref (g.cl c)) (some dx) oe → (∃ vs, oe.data = .fields vs) → PSs (X.suite a ((a, oe) :: pn)) (b0 :: suite) (tS g W0 (z.su a dx c)))
      (r : HdD X g tab hds zs) : HdD X g tab (.ExceptHandler (some (.Name x np)) none (b0 :: suite) p1 :: hds) (z :: zs)
  | named {x n : Str} {i : Nat} {z : Clz} {b0 : Stmt} {suite : List Stmt} {np p1 : Pos} {hds : List ExceptHandler} {zs : List Clz} (hi : z.i = some i) (hn : X.N[i]? = some n) (hl : X.env.kindOf n = some .local) (hc : Names X x (.ref (g.cl z.c)))
      (hsu : ∀ (a : Addr) (oe : Obj) (dx : Addr) (c : Nat) (pn : List (Addr × Obj)), c ∈ tab → Zc (.ref (g.cl c)) (some dx) oe → (∃ vs, oe.data = .fields vs) → PSs (X.suite a ((a, oe) :: pn)) (b0 :: suite) (tS g W0 (z.su a dx c)))
      (r : HdD X g tab hds zs) : HdD X g tab (.ExceptHandler (some (.Name x np)) (some n) (b0 :: suite) p1 :: hds) (z :: zs)
section
variable {X : Cx} {g : G} {Wout : WX} {tab : List Nat} {pos : Pos} {body : List Stmt} {sb : SX}
theorem Sl.unset2 {F : Hp} {ρ : Nat → Addr} {n : Nat} {σ : L2.St} {τ : Tau} (h : Sl g F ρ n σ τ) (i : Nat) : Sl g F ρ n (σ.set i none) (τ.set i none) := by
  refine ⟨by rw [List.length_set, List.length_set]; exact h.1, fun j d e => ?_⟩
  by_cases hj : i = j
  · subst hj
    rw [List.getElem?_set] at e
    simp at e
  · rw [List.getElem?_set_ne hj] at e
    rw [List.getElem?_set_ne hj]
    exact h.2 j d e
/-- what the clauses wish of an error that the body lets out -/
def wTry (g : G) (Wout : WX) (tab : List Nat) (zs : List Clz) (E : Ends) : WX := fun cls dd σ H => ∃ F ρ τ L c fs dx vs, cls = .ref (g.cl c) ∧ dd = some dx ∧ c ∈ tab ∧ R g F ρ L H ∧ Sl g F ρ L.length σ τ ∧ F dx = some (.xd (((flT c).map nmT).zip vs)) ∧ vs.length = (flT c).length ∧ IsA g F vs fs ∧
  PostS g F ρ L.length Wout E (clS zs c fs τ L)
theorem try_post {F : Hp} {ρ : Nat → Addr} {n : Nat} {zs : List Clz} {E : Ends} {o : Option (Out × List MO)} (h : PostS g F ρ n Wout E (match o with | some (.ex τ1 c fs, L1) => if c ∈ tab then clS zs c fs τ1 L1 else none | o => o)) : PostS g F ρ n (wTry g Wout tab zs E) E o := by
  match o, h with
  | none, h => exact h
  | some (.nx τ, L), h => exact h
  | some (.rt d, L), h => exact h
  | some (.bk τ, L), h => exact h
  | some (.ct τ, L), h => exact h
  | some (.ex τ c fs, L), h =>
    dsimp only at h
    by_cases hc : c ∈ tab
    · rw [if_pos hc] at h
      exact fun F' ρ' dx vs H' σ' x hR hS hd hl hi => ⟨F', ρ', τ, L, c, fs, dx, vs, rfl, rfl, hc, hR, hS, hd, hl, hi, h.ext x⟩
    · rw [if_neg hc] at h
      exact False.elim h
/-- the clause's suite, its name bound -/
theorem suite_named {F : Hp} {ρ : Nat → Addr} {n i : Nat} {E : Ends} {o : Option (Out × List MO)} (h : PostS g F ρ n Wout E (dropO i o)) : PostS g F ρ n W0 { nx := fun σ H => E.nx (σ.set i none) H, rt := E.rt, bk := fun σ H => E.bk (σ.set i none) H, ct := fun σ H => E.ct (σ.set i none) H } o := by
  match o, h with
  | none, h => exact h
  | some (.nx τ, L), h => exact fun F' ρ' H' σ' x hR hS => h F' ρ' H' _ x hR (hS.unset2 i)
  | some (.rt d, L), h => exact h
  | some (.bk τ, L), h => exact fun F' ρ' H' σ' x hR hS => h F' ρ' H' _ x hR (hS.unset2 i)
  | some (.ct τ, L), h => exact fun F' ρ' H' σ' x hR hS => h F' ρ' H' _ x hR (hS.unset2 i)
  | some (.ex τ c fs, L), h => exact False.elim h
theorem suite_only {F : Hp} {ρ : Nat → Addr} {n : Nat} {E : Ends} {o : Option (Out × List MO)} (h : PostS g F ρ n Wout E (dropN o)) : PostS g F ρ n W0 E o := by
  match o, h with
  | none, h => exact h
  | some (.nx τ, L), h => exact h
  | some (.rt d, L), h => exact h
  | some (.bk τ, L), h => exact h
  | some (.ct τ, L), h => exact h
  | some (.ex τ c fs, L), h => exact False.elim h
theorem ds_try {h0 : ExceptHandler} {hds : List ExceptHandler} {zs : List Clz} (hs : X.stack = X.env :: X.outer) (hf : X.env.frame = some X.env.locals) (hN : X.N.Nodup) (tk : Takes X Wout)
    (hb : ∀ (pn : List (Addr × Obj)) (xe : Value → Shared → Prop) (W : WX), Takes (X.tr pn xe) W → PassesOwn (model X.prog X.w) X.A X.env xe → PSs (X.tr pn xe) body (tS g W sb))
    (hh : HdD X g tab (h0 :: hds) zs) (hx : ∀ c ∈ tab, ∀ z ∈ zs, PySem.W.exmOne X.K (.ref (g.cl c)) (.ref (g.cl z.c)) = some (subE c z.c)) (par : ∀ z ∈ zs, ∀ a dx c fs τ L, clOne z a dx c fs τ L = clOne z 0 0 c fs τ L) :
    PS X (.Try body (h0 :: hds) [] [] pos) (tS g Wout (tryS tab zs sb)) := by
  refine ⟨fun pins s σ H E I h => ?_⟩
  have ok := I.ok
  have hfr : X.A.frames = some (X.env :: X.outer) := by rw [ok.frames, hs]
  obtain ⟨F0, ρ0, τ0, L0, hR0, hS0, _, hp0⟩ := h
  have hq : tS g (wTry g Wout tab zs E) sb E σ H := ⟨F0, ρ0, τ0, L0, hR0, hS0, (fun y hy => by cases hy), try_post hp0⟩
  refine wpAny_Try_except (wpAny_mono ((hb (X.pn ++ pins) (fun e s₁ => wpAny (model X.prog X.w) X.A (noteFrame e X.env) (fun _ s₂ => wpAny (model X.prog X.w) X.A (setFlight e none) (fun _ s₃ =>
    wpAny (model X.prog X.w) X.A (handleBy e X.env (h0 :: hds)) (SP X pins E) X.xe s₃) X.xe s₂) X.xe s₁) (wTry g Wout tab zs E) (fun u s1 hu => ?_) PassesOwn.looking).run [] s σ H E (I.toTry _) hq) (fun f s1 hsp => ?_) fun e s1 he => he)
  · obtain ⟨a, B, sI, pins1, σ1, H1, cls, dd, eu, J', nb, up, sky, na, os, ag, wt⟩ := hu
    subst eu
    have J : Inv X pins σ1 H1 sI := J'.ofTry ok
    rw [hs] at sky
    show wpAny (model X.prog X.w) X.A (noteFrame (.ref a) X.env) _ _ _
    refine Sky.land Zc.steady hfr hf sky fun h3 fl up3 => ?_
    have J3 : Inv X pins σ1 H1 { s1 with heap := h3 } := J.landed nb fl.1 (up.trans up3) os ag
    obtain ⟨o3, v3, he3, hz3, hd3⟩ := fl.there
    have aFr : a ∉ frs (X.env :: X.outer) := fun hm => by
      obtain ⟨_, o', e', hnf⟩ := fl.2.2.1.mem hm
      rw [he3] at e'
      cases e'
      exact hnf _ hd3
    have nL : a ≠ X.env.locals := fun z => aFr (List.mem_filterMap.mpr ⟨X.env, List.mem_cons_self, by rw [hf, z]⟩)
    have nF : a ∉ X.fs := fun hm => by
      obtain ⟨e, h1, h2⟩ := List.mem_filterMap.mp hm
      exact aFr (List.mem_filterMap.mpr ⟨e, List.mem_cons_of_mem _ h1, h2⟩)
    obtain ⟨F, ρ, τ, L, c, fs, dx, vs, ec, ed, hct, hR, hS, hxd, hvl, hia, hp⟩ := wt
    subst ec
    subst ed
    have S3 := J3.suite he3 hd3 na nL nF
    have walk : ∀ {hs' : List ExceptHandler} {ys : List Clz}, HdD X g tab hs' ys → (∀ z ∈ ys, PySem.W.exmOne X.K (.ref (g.cl c)) (.ref (g.cl z.c)) = some (subE c z.c)) → (∀ z ∈ ys, ∀ a dx c fs τ L, clOne z a dx c fs τ L = clOne z 0 0 c fs τ L) → PostS g F ρ L.length Wout E (clS ys c fs τ L) →
        wpAny (model X.prog X.w) X.A (handleBy (.ref a) X.env hs') (SP X pins E) X.xe { s1 with heap := h3 } := by
      intro hs' ys hk
      have testOf : ∀ {x : Str} {np : Pos} {cv : Value} {Q : Value → Shared → Prop} {E' : Value → Shared → Prop}, Names X x cv → Q cv { s1 with heap := h3 } → wpAny (model X.prog X.w) (X.A.mark (some (.ref a))) (eval (.Name x np) X.env) Q E' { s1 with heap := h3 } := fun {x np cv Q E'} hc q => by
        obtain ⟨hg, hdb, hm | ⟨hm, hv, hnn⟩⟩ := hc
        · exact ld_glob (X := X.suite a ((a, o3) :: (X.pn ++ pins))) S3 hg hm q hdb
        · exact ld_blt (X := X.suite a ((a, o3) :: (X.pn ++ pins))) S3 hg hm hv q hnn hdb
      have clsOfA : PySem.W.Looks (model X.prog X.w) h3 (typeOf (.ref a)) (.ref (g.cl c)) := fun A Q E s k q => wpAny_typeOf_ref (k _ _ he3) (by rw [hz3.1]; exact q)
      induction hk with
      | nil =>
        intro _ _ hp
        refine wpAny_handleBy_nil ?_
        obtain ⟨k1, k2, k3, oe, ws, T, oT, ts', he, hz, hd, h1, hr⟩ := id fl
        unfold PySem.passOn
        refine wpAny_bind (wpAny_field he hd h1 ?_)
        rw [if_neg (by simp : ¬ ((Value.ref T == Value.none) = true))]
        have fin : wpAny (model X.prog X.w) X.A (setFlight (.ref a) X.env.frame) (fun _ s4 => wpAny (model X.prog X.w) X.A (throw (.ref a) : Sem Flow) (SP X pins E) X.xe s4) X.xe { s1 with heap := h3 } := by
          rw [hf]
          refine HandSPX.setFlight_upZ fl fun h4 hh4 up4 => wpAny_throw (tk _ _ ?_)
          refine ⟨a, B, sI, pins, σ1, H1, _, _, rfl, J, nb, (up.trans up3).trans up4, .inr (.inr (by rw [hs]; exact hh4)), na, os, ag, ?_⟩
          exact hp F ρ dx vs H1 σ1 Ext.refl hR hS hxd hvl hia
        first
          | exact wpAny_bind (wpAny_pure (wpAny_bind fin))
          | exact wpAny_bind fin
      | @only x z b0 suite np p1 hds2 zs2 hi hc hsu r ih =>
        intro hx2 par2 hp
        refine wpAny_handleBy_cons (codeAny_handlers_test ?_) (by intro q; cases q)
        have LM := PySem.W.exm_one (M := model X.prog X.w) J3.kIn clsOfA (hx2 z List.mem_cons_self)
        refine testOf hc (LM.here ?_)
        unfold clS at hp
        cases hb : subE c z.c with
        | true =>
          rw [if_pos hb] at hp
          unfold clOne at hp
          rw [hi] at hp
          refine codeAny_handlers_suite (HandSPX.lands_againZ fl fun h4 fl4 up4 => ?_)
          have J4 : Inv X pins σ1 H1 { s1 with heap := h4 } := J.landed nb fl4.1 ((up.trans up3).trans up4) os ag
          obtain ⟨o4, v4, he4, hz4, hd4⟩ := fl4.there
          have S4 := J4.suite he4 hd4 na nL nF
          have pz := par2 z List.mem_cons_self a dx c fs τ L
          unfold clOne at pz
          rw [hi] at pz
          dsimp only at pz hp
          rw [← pz] at hp
          refine wpAny_mono ((hsu a o4 dx c (X.pn ++ pins) hct hz4 ⟨_, hd4⟩).run [] _ _ H1 _ S4 ⟨F, ρ, τ, L, hR, hS, (fun y hy => by cases hy), suite_only hp⟩) (fun f s6 hsp => ?_) (fun _ _ z => False.elim z)
          cases f with
          | next => exact let ⟨σ6, H6, S6, q6⟩ := hsp; ⟨σ6, H6, S6.unsuite ok, q6⟩
          | brk => exact let ⟨σ6, H6, S6, q6⟩ := hsp; ⟨σ6, H6, S6.unsuite ok, q6⟩
          | cont => exact let ⟨σ6, H6, S6, q6⟩ := hsp; ⟨σ6, H6, S6.unsuite ok, q6⟩
          | ret u => exact let ⟨v6, σ6, H6, S6, r6, q6⟩ := hsp; ⟨v6, σ6, H6, S6.unsuite ok, r6, q6⟩
        | false =>
          rw [if_neg (by rw [hb]; exact Bool.false_ne_true)] at hp
          show wpAny _ X.A (handleBy (.ref a) X.env hds2) _ _ _
          exact ih (fun z hz => hx2 z (List.mem_cons_of_mem _ hz)) (fun z hz => par2 z (List.mem_cons_of_mem _ hz)) hp
      | @named x n i z b0 suite np p1 hds2 zs2 hi hn hl hc hsu r ih =>
        intro hx2 par2 hp
        refine wpAny_handleBy_cons (codeAny_handlers_test ?_) (by intro q; cases q)
        have LM := PySem.W.exm_one (M := model X.prog X.w) J3.kIn clsOfA (hx2 z List.mem_cons_self)
        refine testOf hc (LM.here ?_)
        unfold clS at hp
        cases hb : subE c z.c with
        | true =>
          rw [if_pos hb] at hp
          unfold clOne at hp
          rw [hi] at hp
          refine codeAny_handlers_suite_as (HandSPX.lands_againZ fl fun h4 fl4 up4 => ?_)
          have J4 : Inv X pins σ1 H1 { s1 with heap := h4 } := J.landed nb fl4.1 ((up.trans up3).trans up4) os ag
          obtain ⟨o4, v4, he4, hz4, hd4⟩ := fl4.there
          have S4 := J4.suite he4 hd4 na nL nF
          have pz := par2 z List.mem_cons_self a dx c fs τ L
          unfold clOne at pz
          rw [hi] at pz
          dsimp only at pz hp
          rw [← pz] at hp
          refine store_ok (X := X.suite a ((a, o4) :: (X.pn ++ pins))) (v := .ref a) S4 hN hn (.inl hl) rfl (fun s5 S5 => ?_) (.inr hl)
          have hsl : Sl g F ρ L.length (σ1.set i (some (.ref a))) (τ.set i (some (.v (.exn c (.int a :: .int dx :: fs))))) := hS.set (show IsD g F ρ L.length (.ref a) (.v (.exn c (.int a :: .int dx :: fs))) from Is.exn hxd hvl hia) i
          refine wpAny_mono ((hsu a o4 dx c (X.pn ++ pins) hct hz4 ⟨_, hd4⟩).run [] s5 _ H1 _ S5 ⟨F, ρ, _, L, hR, hsl, (fun y hy => by cases hy), suite_named hp⟩) (fun f s6 hsp => ?_) (fun _ _ z => False.elim z)
          have gone : ∀ {σ6 : L2.St} {H6 : Hp} {Q : Shared → Prop}, Inv (X.suite a ((a, o4) :: (X.pn ++ pins))) [] σ6 H6 s6 → (∀ s7, Inv X pins (σ6.set i none) H6 s7 → Q s7) →
              wpAny (model X.prog X.w) X.A (do bindName X.env n .none; unbindBehindTheSuite X.env n p1) (fun _ s7 => Q s7) X.xe s6 := fun {σ6 H6 Q} S6 hq => gone_ok (S6.unsuite ok) hN hn hl hq
          cases f with
          | next => exact let ⟨σ6, H6, S6, q6⟩ := hsp; gone S6 fun s7 J7 => ⟨_, H6, J7, q6⟩
          | brk => exact let ⟨σ6, H6, S6, q6⟩ := hsp; gone S6 fun s7 J7 => ⟨_, H6, J7, q6⟩
          | cont => exact let ⟨σ6, H6, S6, q6⟩ := hsp; gone S6 fun s7 J7 => ⟨_, H6, J7, q6⟩
          | ret u => exact let ⟨v6, σ6, H6, S6, r6, q6⟩ := hsp; gone S6 fun s7 J7 => ⟨v6, _, H6, J7, r6, q6⟩
        | false =>
          rw [if_neg (by rw [hb]; exact Bool.false_ne_true)] at hp
          show wpAny _ X.A (handleBy (.ref a) X.env hds2) _ _ _
          exact ih (fun z hz => hx2 z (List.mem_cons_of_mem _ hz)) (fun z hz => par2 z (List.mem_cons_of_mem _ hz)) hp
    exact walk hh (hx c hct) par hp
  · cases f with
    | next => exact let ⟨σ', H', J', q⟩ := hsp; wpAny_execs_nil ⟨σ', H', J'.ofTry ok, q⟩
    | brk => exact let ⟨σ', H', J', q⟩ := hsp; ⟨σ', H', J'.ofTry ok, q⟩
    | cont => exact let ⟨σ', H', J', q⟩ := hsp; ⟨σ', H', J'.ofTry ok, q⟩
    | ret u => exact let ⟨v, σ', H', J', r, q⟩ := hsp; ⟨v, σ', H', J'.ofTry ok, r, q⟩
end

/-! ### e.f, isinstance(e, C) in a suite -/
def exfD (a dx i f : Nat) (τ : Tau) : M D := fun L => match τ[i]? with
  | some (some (.v (.exn c (.int a' :: .int dx' :: fs)))) => if a' = a ∧ dx' = dx then (match fget (flT c) fs f with
    | some p => some (.ok (.v p), L)
    | none => none) else none
  | _ => none
def exiD (a dx i : Nat) (b : Bool) (τ : Tau) : M D := fun L => match τ[i]? with
  | some (some (.v (.exn _ (.int a' :: .int dx' :: _)))) => if a' = a ∧ dx' = dx then some (.ok (.v (.bl b)), L) else none
  | _ => none
section
variable {X : Cx} {g : G} {W : WX} {a dx c i : Nat} {oe : Obj} {pn : List (Addr × Obj)} {n : Str} {p pos : Pos}
theorem isA_get {F : Hp} : ∀ {is : List Nat} {vs : List V} {ps : List P} {f : Nat} {q : P}, IsA g F vs ps → (is.map nmT).Nodup → fget is ps f = some q → ∃ v, ((is.map nmT).zip vs).lookup (nmT f) = some v ∧ Is g F v q := fun {is vs ps f q} h nd e => fget_is h nd (fget_mem e) e
theorem de_exf {x : Str} (f : Nat) (hx : x = nmT f) (T : XfC X.K (g.cl c)) (hno : PySem.W.findIn X.K (.ref (g.cl c)) x = some none) (hnd : ∀ c, ((flT c).map nmT).Nodup) (hz : Zc (.ref (g.cl c)) (some dx) oe) (hf : ∃ vs, oe.data = .fields vs) (hN : X.N[i]? = some n) (hv : Vis X.env.scope n)
    (hd : (n == ("__debug__" : Str)) = false := by decide) (hcd : (n == ("__classdict__" : Str)) = false := by decide) (hb : attributeBase (.Name n p) x X.env (eval (.Name n p) X.env) = eval (.Name n p) X.env := by rfl) :
    PE (X.suite a ((a, oe) :: pn)) (.Attribute (.Name n p) x pos) (tE g W (exfD a dx i f)) := by
  subst hx
  refine PE.weak (pe_xf T hno hz hf (pe_var (X := X.suite a ((a, oe) :: pn)) hN hv hd hcd) hb) fun σ H Q h => ?_
  obtain ⟨F, ρ, τ, L, hR, hS, hc, hp⟩ := h
  unfold exfD at hp
  split at hp
  · rename_i c1 a1 dx1 fs e1
    split at hp
    · rename_i hq
      obtain ⟨v, e2, e3⟩ := hS.2 i _ e1
      have e3' : Is g F v (.exn c1 (.int a1 :: .int dx1 :: fs)) := e3
      split at hp
      · rename_i q eq
        cases e3' with
        | @exn a2 dx2 c2 vs ps h1 h2 h3 =>
          obtain ⟨w, k1, k2⟩ := isA_get h3 (hnd c1) eq
          have ea : a2 = a := by have := hq.1; omega
          have edx : dx2 = dx := by have := hq.2; omega
          subst ea
          subst edx
          exact ⟨_, e2, rfl, rfl, _, _, w, rfl, hR.sub _ _ h1, k1, hp F ρ w H Ext.refl hR k2⟩
      · exact False.elim hp
    · exact False.elim hp
  · exact False.elim hp
/-- what a class must say for isinstance of its instances -/
structure XiC (K : PySem.W.Frag) (C : Addr) : Prop where
  cl : (PySem.W.clsIn K C).isSome = true
  ga : PySem.W.findIn K (.ref C) "__getattribute__" = some (some (.builtin "BaseException.__getattribute__"))
  gg : PySem.W.findIn K (.ref C) "__getattr__" = some none
  sb : PySem.W.subIn K (.ref C) (.type "BaseException") = some true
  ca : PySem.W.findIn K (.ref C) "__class__" = some (some (.builtin "object.__class__"))
  cn : PySem.W.specialIn K (.builtin "object.__class__") "__get__" = some (some (.builtin "getset_descriptor.__get__"))
  tk : PySem.W.takesIn K (.builtin "object.__class__") = some true
  ob : PySem.W.mroIn K C (.type "object") = some true
theorem call_exi {D : Addr} (T : XiC X.K D) (hz : Zc (.ref D) (some dx) oe) (hf : ∃ vs, oe.data = .fields vs) : CallR (X.suite a ((a, oe) :: pn)) (.builtin "isinstance") (fun xs H Q => ∃ (cv : V) (u : Value) (b : Bool) (fs : List (Str × V)), xs = [.ref a, cv] ∧ ClsV cv u ∧ H dx = some (.xd fs) ∧ PySem.W.kitOne X.K (.ref D) u = some b ∧ Q (.bl b) H) := by
  intro pins s σ H xs us Q I r h
  obtain ⟨cv, u, b, fs, ex, k, ed, e, q⟩ := h
  subst ex
  obtain ⟨u1, u2, eu, r1, r2⟩ := vals2 r
  subst eu
  have e2 := k.eq r2
  subst e2
  obtain rfl : u1 = Value.ref a := r1
  obtain ⟨ha, _⟩ := I.pin (a, oe) (List.mem_append_left _ List.mem_cons_self)
  obtain ⟨vs, hd⟩ := hf
  obtain ⟨mA, hns, _⟩ := (show ObjOk X.prog X.w H s.heap dx (.xd fs) from I.hok dx _ ed)
  obtain ⟨od, ho, hl⟩ := lookIn_ns hns
  have J : PySem.W.InstAt s.heap a oe D (some od) := ⟨ha, hz.1, by unfold PySem.W.notCls; rw [hd] <;> rfl, by rw [hz.2]; exact ho⟩
  exact PySem.W.kia_one (PySem.W.kitx_exc T.cl T.ga T.gg T.sb T.ca T.cn T.tk T.ob) I.kIn J e (fun z => nomatch z) fun tk => ⟨.bl b, H, I.tok tk, rfl, q⟩
theorem de_exi {x : Str} {b : Bool} {cv : V} {u : Value} {p1 p2 : Pos} (T : XiC X.K (g.cl c)) (hz : Zc (.ref (g.cl c)) (some dx) oe) (hf : ∃ vs, oe.data = .fields vs) (hN : X.N[i]? = some n) (hv : Vis X.env.scope n) (k : ClsV cv u) (hk : PySem.W.kitOne X.K (.ref (g.cl c)) u = some b)
    (hcl : PE (X.suite a ((a, oe) :: pn)) (.Name x p2) (tC cv)) (hgi : Gl X "isinstance") (hmi : X.mg "isinstance" = none) (hvi : bootBuiltins "isinstance" = some (.builtin "isinstance"))
    (hd : (n == ("__debug__" : Str)) = false := by decide) (hcd : (n == ("__classdict__" : Str)) = false := by decide) :
    PE (X.suite a ((a, oe) :: pn)) (.Call (.Name "isinstance" p) [.Name n p1, .Name x p2] [] pos) (tE g W (exiD a dx i b)) := by
  refine PE.weak (pe_callB (call_exi T hz hf) hgi hmi hvi (pa_cons (pe_var (X := X.suite a ((a, oe) :: pn)) hN hv hd hcd) (pa_cons hcl pa_nil))) fun σ H Q h => ?_
  obtain ⟨F, ρ, τ, L, hR, hS, hc, hp⟩ := h
  unfold exiD at hp
  split at hp
  · rename_i c1 a1 dx1 fs e1
    split at hp
    · rename_i hq
      obtain ⟨v, e2, e3⟩ := hS.2 i _ e1
      have e3' : Is g F v (.exn c1 (.int a1 :: .int dx1 :: fs)) := e3
      cases e3' with
      | @exn a2 dx2 c2 vs ps h1 h2 h3 =>
        have ea : a2 = a := by have := hq.1; omega
        have edx : dx2 = dx := by have := hq.2; omega
        subst ea
        subst edx
        exact ⟨_, e2, cv, u, b, _, rfl, k, hR.sub _ _ h1, hk, hp.val hR (Is.bl b)⟩
    · exact False.elim hp
  · exact False.elim hp
end
end DN

end
section
set_option Elab.async false
set_option linter.all false
set_option maxRecDepth 100000
set_option maxHeartbeats 4000000
/-! E3: dicts whose keys are tuples (of texts, whole numbers, None and such tuples). -/
namespace DN
open PySem PySem.Spec PyProof.Rows L2
/-! ### keys -/
mutual
def nkOf : P → Option NestedKey
  | .non => some .none
  | .int i => some (.num i)
  | .str x => some (.text x)
  | .tup xs => (nksOf xs).map .tup
  | _ => none
def nksOf : List P → Option (List NestedKey)
  | [] => some []
  | x :: xs => match nkOf x, nksOf xs with
    | some k, some ks => some (k :: ks)
    | _, _ => none
end
mutual
theorem nk_of {p : P} {k : NestedKey} (h : nkOf p = some k) : NK p k := by
  cases p with
  | non => unfold nkOf at h; cases h; exact .non
  | int i => unfold nkOf at h; cases h; exact .int i
  | str x => unfold nkOf at h; cases h; exact .str x
  | tup xs =>
    unfold nkOf at h
    cases e : nksOf xs with
    | none => rw [e] at h; cases h
    | some ks => rw [e] at h; cases h; exact .tup (nks_of e)
  | bl _ => unfold nkOf at h; cases h
  | lst _ => unfold nkOf at h; cases h
  | ins _ _ => unfold nkOf at h; cases h
  | dk _ => unfold nkOf at h; cases h
  | dn _ => unfold nkOf at h; cases h
  | set _ => unfold nkOf at h; cases h
  | exn _ _ => unfold nkOf at h; cases h
  | scr _ => unfold nkOf at h; cases h
theorem nks_of {ps : List P} {ks : List NestedKey} (h : nksOf ps = some ks) : NKs ps ks := by
  cases ps with
  | nil => unfold nksOf at h; cases h; exact .nil
  | cons p ps =>
    unfold nksOf at h
    cases e1 : nkOf p with
    | none => rw [e1] at h; cases h
    | some k =>
      cases e2 : nksOf ps with
      | none => rw [e1, e2] at h; cases h
      | some ks2 => rw [e1, e2] at h; cases h; exact .cons (nk_of e1) (nks_of e2)
end
mutual
theorem of_nk {p : P} {k : NestedKey} (h : NK p k) : nkOf p = some k := by
  cases h with
  | non => unfold nkOf; rfl
  | int i => unfold nkOf; rfl
  | str x => unfold nkOf; rfl
  | tup h => unfold nkOf; rw [of_nks h]; rfl
theorem of_nks {ps : List P} {ks : List NestedKey} (h : NKs ps ks) : nksOf ps = some ks := by
  cases h with
  | nil => unfold nksOf; rfl
  | cons h t => unfold nksOf; rw [of_nk h, of_nks t]
end
-- the key as a value in the ledger H
mutual
inductive NKV (K : PySem.W.Frag) (H : Hp) : V → NestedKey → Prop where
  | non : NKV K H .non .none
  | int (i : Int) : NKV K H (.int i) (.num i)
  | str (x : Str) : NKV K H (.str x) (.text x)
  | tup {a : Addr} {vs : List V} {ks : List NestedKey} : SqT K H a vs → NKVs K H vs ks → NKV K H (.ref a) (.tup ks)
inductive NKVs (K : PySem.W.Frag) (H : Hp) : List V → List NestedKey → Prop where
  | nil : NKVs K H [] []
  | cons {v : V} {k : NestedKey} {vs : List V} {ks : List NestedKey} : NKV K H v k → NKVs K H vs ks → NKVs K H (v :: vs) (k :: ks)
end
mutual
theorem nkv_of {g : G} {F H : Hp} (s : Sub F H) {v : V} {p : P} {k : NestedKey} (h : Is g F v p) (n : NK p k) : NKV g.K H v k := by
  cases n with
  | non => rw [Is.inv_non h]; exact .non
  | int i => rw [Is.inv_int h]; exact .int i
  | str x => rw [Is.inv_str h]; exact .str x
  | tup n =>
    obtain ⟨a, vs, rfl, h1, h2⟩ := Is.inv_tup h
    exact .tup (s.sqT h1) (nkvs_of s h2 n)
theorem nkvs_of {g : G} {F H : Hp} (s : Sub F H) {vs : List V} {ps : List P} {ks : List NestedKey} (h : IsA g F vs ps) (n : NKs ps ks) : NKVs g.K H vs ks := by
  cases n with
  | nil => cases h; exact .nil
  | cons n t => cases h with | cons h1 h2 => exact .cons (nkv_of s h1 n) (nkvs_of s h2 t)
end
section
variable {X : Cx} {pins : List (Addr × Obj)} {σ : L2.St} {H : Hp} {s : Shared}
mutual
theorem nkv_is (I : Inv X pins σ H s) {v : V} {k : NestedKey} {u : Value} (h : NKV X.K H v k) (r : RelV v u) : NestedIs s.heap k u := by
  cases h with
  | non => cases (show u = Value.none from r); exact .none
  | int i => obtain ⟨t, q⟩ := (show ∃ t, u = Value.int i t from r); cases q; exact .int i t
  | str x => obtain ⟨t, q⟩ := (show ∃ t, u = Value.str x t from r); cases q; exact .text x t
  | @tup a vs ks h1 h2 =>
    cases (show u = Value.ref a from r)
    obtain ⟨its, rv, ⟨o, e1, e2, n, e3⟩, _⟩ := I.tuple h1
    exact .tup e1 e2 e3 (nkvs_is I h2 rv)
theorem nkvs_is (I : Inv X pins σ H s) {vs : List V} {ks : List NestedKey} {us : List Value} (h : NKVs X.K H vs ks) (r : Vals vs us) : NestedAll s.heap ks us := by
  cases h with
  | nil => cases r; exact .nil
  | cons h1 h2 => cases r with | cons r1 r2 => exact .cons (nkv_is I h1 r1) (nkvs_is I h2 r2)
end
/-! ### the dict at d, by its rows -/
structure DnH (K : PySem.W.Frag) (w : World) (H : Hp) (d : Addr) (rows : List (NestedKey × Addr × Value)) : Prop where
  at_ : H d = some (.ext (DicPhi w d rows))
  sys : (d == sysModules) = false
  nd : (rows.map (·.1)).Nodup
  key : ∀ x ∈ rows, NKV K H (.ref x.2.1) x.1 ∧ x.1.depth ≤ 8
theorem dn_heap {d : Addr} {rows : List (NestedKey × Addr × Value)} (I : Inv X pins σ H s) (h : DnH X.K X.w H d rows) : s.heap.DictOfH (nestedKind X.prog X.w) d rows := by
  obtain ⟨⟨o, es, ep, e1, e2, e3, e4⟩, _, _⟩ := I.hok d _ h.at_
  exact ⟨o, es, ep, e1, e2, e3, e4, fun x hx => ⟨nkv_is I (h.key x hx).1 rfl, (h.key x hx).2⟩, h.nd⟩
theorem dn_room (hu : X.A.units + 65 < cLine) : (nestedKind X.prog X.w).room X.A.in1 := by
  show X.A.in1.units + 8 < cLine
  have : X.A.in1.units = X.A.units + 1 := rfl
  omega
/-- a key at a -/
def KeyAt (K : PySem.W.Frag) (H : Hp) (x : V) (k : NestedKey) : Prop := ∃ a, x = .ref a ∧ NKV K H x k ∧ k.depth ≤ 8
def rDnIn (K : PySem.W.Frag) (w : World) (neg : Bool) : R2 := fun x y H Q => ∃ d rows k, y = .ref d ∧ KeyAt K H x k ∧ DnH K w H d rows ∧ Q (.bl (xor neg (atKey rows k).isSome)) H
theorem op_dnIn (hu : X.A.units + 65 < cLine) : OpR X (compareOp .In) (rDnIn X.K X.w false) := by
  intro pins s σ H x y v u Q I rx ry h
  obtain ⟨d, rows, k, rfl, ⟨a, rfl, hk, hd⟩, D, q⟩ := h
  cases (show u = Value.ref d from ry)
  cases (show v = Value.ref a from rx)
  exact wpAny_in_heap (knd := nestedKind X.prog X.w) (dn_room hu) ⟨nkv_is I hk rfl, hd⟩ D.sys (dn_heap I D) ⟨.bl (atKey rows k).isSome, H, I.tok _, rfl, by simpa using q⟩
theorem op_dnNin (hu : X.A.units + 65 < cLine) : OpR X (compareOp .NotIn) (rDnIn X.K X.w true) := by
  intro pins s σ H x y v u Q I rx ry h
  obtain ⟨d, rows, k, rfl, ⟨a, rfl, hk, hd⟩, D, q⟩ := h
  cases (show u = Value.ref d from ry)
  cases (show v = Value.ref a from rx)
  refine notIn_keyed (knd := nestedKind X.prog X.w) (kvs := pairsH rows) (dn_room hu) ⟨nkv_is I hk rfl, hd⟩ D.sys ⟨rows, dn_heap I D, rfl⟩ ?_
  rw [valueAt_pairsH, Option.isSome_map]
  exact ⟨.bl (!(atKey rows k).isSome), H, I.tok _, rfl, by simpa using q⟩
def rDnIx (K : PySem.W.Frag) (w : World) : R2 := fun x y H Q => ∃ d rows k b u v, x = .ref d ∧ KeyAt K H y k ∧ DnH K w H d rows ∧ atKey rows k = some (b, u) ∧ RelV v u ∧ Q v H
theorem ix_dn (hu : X.A.units + 65 < cLine) : IxR X (rDnIx X.K X.w) := by
  intro value slice pins s σ H x y v u Q I rx ry h hs
  obtain ⟨d, rows, k, b, z, w, rfl, ⟨a, rfl, hk, hd⟩, D, e, r, q⟩ := h
  cases (show u = Value.ref a from ry)
  cases (show v = Value.ref d from rx)
  have hm := dn_heap I D
  exact subscriptTail_builtinR (x := z) hm.typeIs PySem.F.slot_dict_getitem.lookup (wpAny_getItem_heap (knd := nestedKind X.prog X.w) (Q := fun r s' => r = z ∧ EP X pins σ Q r s') (dn_room hu) ⟨nkv_is I hk rfl, hd⟩ hm e ⟨rfl, w, H, I.tok _, r, q⟩) hs
/-- o[k] = v -/
def rDnSet (K : PySem.W.Frag) (w : World) : TSet := fun o i v H Q => ∃ d rows k a, o = .ref d ∧ i = .ref a ∧ NKV K H i k ∧ k.depth ≤ 8 ∧ DnH K w H d rows ∧ rows.length < sizeLine ∧ ∀ u, RelV v u → Q (upd H d (.ext (DicPhi w d (storedH rows k a u))))
theorem dn_write {d : Addr} {rows rows2 : List (NestedKey × Addr × Value)} {h' : Heap} {t : Nat} (I : Inv X pins σ H s) (D : DnH X.K X.w H d rows) (hm : h'.DictOfH (nestedKind X.prog X.w) d rows2) (hs : Heap.SameBut d s.heap h') : Inv X pins σ (upd H d (.ext (DicPhi X.w d rows2))) { s with heap := h', toks := t } := by
  obtain ⟨o, es, ep, e1, e2, e3, e4, _⟩ := id hm
  refine I.write (x := d) (e := d) (by rw [D.at_]; exact True.intro) (.inl rfl) (fun b u hb q => (hs.2 b hb).trans q) ⟨o, e1⟩ ?_
  exact ⟨⟨o, es, ep, e1, e2, e3, e4⟩, ⟨o, e1⟩, fun h1 h2 z k => let ⟨o, es, ep, q1, q2⟩ := z; ⟨o, es, ep, k _ q1, q2⟩⟩
theorem set_dn (hu : X.A.units + 65 < cLine) : PSet X (rDnSet X.K X.w) := by
  intro pins s σ H o i v ov iv u Q I ro ri rv h
  obtain ⟨d, rows, k, a, rfl, rfl, hk, hd, D, hl, q⟩ := h
  cases (show ov = Value.ref d from ro)
  cases (show iv = Value.ref a from ri)
  exact wpAny_setItem_heap (knd := nestedKind X.prog X.w) (hsz := Nat.le_of_lt hl) (dn_room hu) ⟨nkv_is I hk rfl, hd⟩ (dn_heap I D) fun h' hm hs => ⟨_, dn_write I D hm hs, q u rv⟩
end

/-! ### the rows and their data -/
abbrev RowR (g : G) (F : Hp) (x : NestedKey × Addr × Value) (y : P × P) : Prop := NK y.1 x.1 ∧ x.1.depth ≤ 8 ∧ Is g F (.ref x.2.1) y.1 ∧ ∃ v, RelV v x.2.2 ∧ Is g F v y.2
def isKey (k : NestedKey) (e : P × P) : Bool := match nkOf e.1 with
  | some k' => decide (k' = k)
  | none => false
def lookN (es : List (P × P)) (k : NestedKey) : Option P := (es.find? (isKey k)).map (·.2)
def storeN (es : List (P × P)) (k : NestedKey) (p v : P) : List (P × P) := match lookN es k with
  | some _ => es.map fun e => if isKey k e = true then (e.1, v) else e
  | none => es ++ [(p, v)]
section
variable {g : G} {F : Hp}
theorem row_key {k : NestedKey} {x : NestedKey × Addr × Value} {y : P × P} (h : RowR g F x y) : isKey k y = decide (x.1 = k) := by
  unfold isKey
  rw [of_nk h.1]
theorem row_look {k : NestedKey} : ∀ {rows : List (NestedKey × Addr × Value)} {es : List (P × P)}, Paired (RowR g F) rows es → (lookN es k = none ∧ atKey rows k = none) ∨ ∃ p b u v, lookN es k = some p ∧ atKey rows k = some (b, u) ∧ RelV v u ∧ Is g F v p
  | _, _, .nil => .inl ⟨rfl, rfl⟩
  | x :: rows, y :: es, .cons h t => by
    have hk := row_key (k := k) h
    unfold lookN atKey
    rw [List.find?_cons, List.find?_cons, hk]
    by_cases e : x.1 = k
    · rw [decide_eq_true e]
      obtain ⟨_, _, _, v, h1, h2⟩ := h
      exact .inr ⟨y.2, x.2.1, x.2.2, v, rfl, rfl, h1, h2⟩
    · rw [decide_eq_false e]
      exact row_look t
theorem row_map {k : NestedKey} {v : V} {u : Value} {p : P} (r : RelV v u) (hv : Is g F v p) : ∀ {rows : List (NestedKey × Addr × Value)} {es : List (P × P)}, Paired (RowR g F) rows es → Paired (RowR g F) (rows.map (putAt k u)) (es.map fun e => if isKey k e = true then (e.1, p) else e)
  | _, _, .nil => .nil
  | x :: rows, y :: es, .cons h t => by
    refine .cons ?_ (row_map r hv t)
    show RowR g F (putAt k u x) (if isKey k y = true then (y.1, p) else y)
    rw [row_key (k := k) h]
    unfold putAt
    by_cases e : x.1 = k
    · rw [if_pos e, decide_eq_true e, if_pos rfl]
      exact ⟨h.1, h.2.1, h.2.2.1, v, r, hv⟩
    · rw [if_neg e, decide_eq_false e, if_neg Bool.false_ne_true]
      exact h
theorem row_store {k : NestedKey} {a : Addr} {v : V} {u : Value} {q p : P} (hk : NK q k) (hd : k.depth ≤ 8) (hq : Is g F (.ref a) q) (r : RelV v u) (hv : Is g F v p) {rows : List (NestedKey × Addr × Value)} {es : List (P × P)} (h : Paired (RowR g F) rows es) :
    Paired (RowR g F) (storedH rows k a u) (storeN es k q p) := by
  unfold storeN
  rcases row_look (k := k) h with ⟨e1, e2⟩ | ⟨p', b, u', v', e1, e2, _⟩
  · rw [e1, storedH_new e2]
    have app : ∀ {rows : List (NestedKey × Addr × Value)} {es : List (P × P)}, Paired (RowR g F) rows es → Paired (RowR g F) (rows ++ [(k, a, u)]) (es ++ [(q, p)]) := by
      intro rows es h
      induction h with
      | nil => exact .cons ⟨hk, hd, hq, v, r, hv⟩ .nil
      | cons h t ih => exact .cons h ih
    exact app h
  · rw [e1, storedH_old e2]
    exact row_map r hv h
theorem row_nodup {k : NestedKey} {a : Addr} {u : Value} {rows : List (NestedKey × Addr × Value)} (nd : (rows.map (·.1)).Nodup) : ((storedH rows k a u).map (·.1)).Nodup := by
  cases e : atKey rows k with
  | none =>
    rw [storedH_new e, List.map_append, List.nodup_append]
    refine ⟨nd, by simp, fun x hx y hy => ?_⟩
    have hy' : y = k := by simpa using hy
    rw [hy']
    intro z
    rw [z] at hx
    obtain ⟨w, hw, ew⟩ := List.mem_map.mp hx
    have : (rows.find? fun x => decide (x.1 = k)) ≠ none := fun z2 => by
      have := List.find?_eq_none.mp z2 w hw
      rw [ew] at this
      simp at this
    unfold atKey at e
    exact this (Option.map_eq_none_iff.mp e)
  | some p =>
    rw [storedH_old e, keys_map_putAt]
    exact nd
/-- a key's data: a tuple, not too deep -/
def keyD : D → Option NestedKey
  | .v (.tup xs) => match nkOf (.tup xs) with
    | some k => if k.depth ≤ 8 then some k else none
    | none => none
  | _ => none
theorem keyD_at {ρ : Nat → Addr} {L : List MO} {H : Hp} {x : V} {d : D} {k : NestedKey} (hR : R g F ρ L H) (hx : IsD g F ρ L.length x d) (h : keyD d = some k) : ∃ a p, d = .v p ∧ x = .ref a ∧ NK p k ∧ NKV g.K H x k ∧ k.depth ≤ 8 ∧ Is g F x p := by
  unfold keyD at h
  split at h
  · rename_i xs
    split at h
    · rename_i k' e
      split at h
      · rename_i hd
        cases h
        have hx' : Is g F x (.tup xs) := hx
        obtain ⟨a, vs, ex, h1, h2⟩ := Is.inv_tup hx'
        exact ⟨a, _, rfl, ex, nk_of e, nkv_of hR.sub hx' (nk_of e), hd, hx'⟩
      · cases h
    · cases h
  · cases h
theorem dn_at {ρ : Nat → Addr} {L : List MO} {H : Hp} {n : Nat} {es : List (P × P)} (hR : R g F ρ L H) (e : L[n]? = some (.dn es)) : ∃ rows, DnH g.K g.w H (ρ n) rows ∧ Paired (RowR g F) rows es := by
  obtain ⟨_, rows, h1, h2, h3, h4⟩ := hR.ent n _ e (by intro z; cases z)
  refine ⟨rows, ⟨h1, h2, h3, ?_⟩, h4⟩
  have : ∀ {rows : List (NestedKey × Addr × Value)} {es : List (P × P)}, Paired (RowR g F) rows es → ∀ x ∈ rows, NKV g.K H (.ref x.2.1) x.1 ∧ x.1.depth ≤ 8 := by
    intro rows es h
    induction h with
    | nil => intro x hx; cases hx
    | cons h t ih =>
      intro x hx
      rcases List.mem_cons.mp hx with z | hx
      · rw [z]; exact ⟨nkv_of hR.sub h.2.2.1 h.1, h.2.1⟩
      · exact ih x hx
  exact this h4
/-! ### in, d[k], d[k] = v -/
def dnAt (L : List MO) : D → Option (List (P × P))
  | .r n => match L[n]? with
    | some (.dn es) => some es
    | _ => none
  | _ => none
theorem dnAt_at {ρ : Nat → Addr} {L : List MO} {H : Hp} {x : V} {d : D} {es : List (P × P)} (hR : R g F ρ L H) (hx : IsD g F ρ L.length x d) (h : dnAt L d = some es) : ∃ n rows, d = .r n ∧ L[n]? = some (.dn es) ∧ x = .ref (ρ n) ∧ DnH g.K g.w H (ρ n) rows ∧ Paired (RowR g F) rows es := by
  unfold dnAt at h
  split at h
  · rename_i n
    split at h
    · rename_i es' e
      cases h
      obtain ⟨rows, h1, h2⟩ := dn_at hR e
      exact ⟨n, rows, rfl, e, hx.2, h1, h2⟩
    · cases h
  · cases h
def inA (neg : Bool) : D → D → M D := fun x y L => match dnAt L y with
  | some es => match keyD x with
    | some k => some (.ok (.v (.bl (xor neg (lookN es k).isSome))), L)
    | none => none
  | none => inD neg x y L
theorem opd_inA {K : PySem.W.Frag} {w : World} {neg : Bool} (hK : K = g.K) (hw : w = g.w) : OpD g (inA neg) (fun x y H Q => (rInD2 K neg x y H Q ∨ rInS2 neg x y H Q) ∨ rDnIn K w neg x y H Q) := by
  subst hK
  subst hw
  intro F ρ L H x y d e W Q hR hx hy hp
  unfold inA at hp
  match e1 : dnAt L e with
  | none =>
    rw [e1] at hp
    exact .inl (opd_in rfl F ρ L H x y d e W Q hR hx hy hp)
  | some es =>
    rw [e1] at hp
    dsimp only at hp
    match e2 : keyD d with
    | none => rw [e2] at hp; exact False.elim hp
    | some k =>
      rw [e2] at hp
      dsimp only at hp
      obtain ⟨n, rows, _, _, ey, D, pr⟩ := dnAt_at hR hy e1
      obtain ⟨a, p, _, ex, _, h1, h2, _⟩ := keyD_at hR hx e2
      refine .inr ⟨ρ n, rows, k, ey, ⟨a, ex, h1, h2⟩, D, ?_⟩
      rcases row_look (k := k) pr with ⟨q1, q2⟩ | ⟨p', b, u', v', q1, q2, _⟩
      · rw [q2]
        rw [q1] at hp
        exact hp.val hR (Is.bl _)
      · rw [q2]
        rw [q1] at hp
        exact hp.val hR (Is.bl _)
def ixA : D → D → M D := fun x y L => match dnAt L x with
  | some es => match (keyD y).bind (lookN es) with
    | some p => some (.ok (.v p), L)
    | none => none
  | none => ixD x y L
theorem opd_ixA {K : PySem.W.Frag} {w : World} (hK : K = g.K) (hw : w = g.w) : OpD g ixA (fun x y H Q => rIx K x y H Q ∨ rDnIx K w x y H Q) := by
  subst hK
  subst hw
  intro F ρ L H x y d e W Q hR hx hy hp
  unfold ixA at hp
  match e1 : dnAt L d with
  | none =>
    rw [e1] at hp
    exact .inl (opd_ix rfl F ρ L H x y d e W Q hR hx hy hp)
  | some es =>
    rw [e1] at hp
    dsimp only at hp
    match e2 : keyD e with
    | none => rw [e2] at hp; exact False.elim hp
    | some k =>
      rw [e2] at hp
      obtain ⟨n, rows, _, _, ex, D, pr⟩ := dnAt_at hR hx e1
      obtain ⟨a, p, _, ey, _, h1, h2, _⟩ := keyD_at hR hy e2
      rcases row_look (k := k) pr with ⟨q1, q2⟩ | ⟨p', b, u', v', q1, q2, q3, q4⟩
      · dsimp only [Option.bind] at hp
        rw [q1] at hp
        exact False.elim hp
      · dsimp only [Option.bind] at hp
        rw [q1] at hp
        exact .inr ⟨ρ n, rows, k, b, u', v', ex, ⟨a, ey, h1, h2⟩, D, q2, q3, hp.val hR q4⟩
/-- o[i] = v -/
def setA : D → D → D → M Unit := fun o i v L => match o, v with
  | .r n, .v p => match L[n]? with
    | some (.lst xs) => match i with
      | .v (.int k) => (ixN xs.length k).map fun j => (.ok (), L.set n (.lst (xs.set j p)))
      | _ => none
    | some (.dn es) => match i, keyD i with
      | .v q, some k => if es.length < sizeLine then some (.ok (), L.set n (.dn (storeN es k q p))) else none
      | _, _ => none
    | _ => none
  | _, _ => none
def rSetA (K : PySem.W.Frag) (w : World) : TSet := fun o i v H Q => rSetL o i v H Q ∨ rDnSet K w o i v H Q
theorem isA_set {vs : List V} {ps : List P} (h : IsA g F vs ps) {v : V} {p : P} (hv : Is g F v p) : ∀ j : Nat, IsA g F (vs.set j v) (ps.set j p) := by
  induction vs generalizing ps with
  | nil => intro j; cases h; exact .nil
  | cons a vs ih =>
    intro j
    cases h with
    | cons h t =>
      cases j with
      | zero => exact .cons hv t
      | succ j => exact .cons h (ih t j)
theorem setA_ok {ρ : Nat → Addr} {L : List MO} {H : Hp} {o i v : V} {d e f : D} {K : PySem.W.Frag} {w : World} {Q : Hp → Prop} {Wq : Value → Option Addr → Hp → Prop} (hK : K = g.K) (hw : w = g.w) (hR : R g F ρ L H) (ho : IsD g F ρ L.length o d) (hi : IsD g F ρ L.length i e) (hv : IsD g F ρ L.length v f)
    (hp : Post g relU F ρ L.length Wq (fun _ H' => Q H') (setA d e f L)) : rSetA K w o i v H Q := by
  subst hK
  subst hw
  unfold setA at hp
  split at hp
  · rename_i n p
    split at hp
    · rename_i xs eL
      split at hp
      · rename_i k
        cases ej : ixN xs.length k with
        | none => rw [ej] at hp; exact False.elim hp
        | some j =>
          rw [ej] at hp
          obtain ⟨vs, h1, h2⟩ := hR.lstAt eL
          have e1 : (L.set n (MO.lst (xs.set j p))).length = L.length := by rw [List.length_set]
          refine .inl ⟨ρ n, vs, k, j, ho.2, Is.inv_int hi, h1, by rw [h2.len]; exact ej, ?_⟩
          exact hp F ρ () _ (by rw [e1]; exact Ext.refl) (hR.put eL (by intro z; cases z) _ _ ⟨_, upd_same, isA_set h2 hv j⟩) trivial
      · exact False.elim hp
    · rename_i es eL
      split at hp
      · rename_i q k ek
        split at hp
        · rename_i hl
          obtain ⟨rows, D, pr⟩ := dn_at hR eL
          obtain ⟨a, p', eq, ei, nk, h1, h2, h3⟩ := keyD_at hR hi ek
          cases eq
          have e1 : (L.set n (MO.dn (storeN es k q p))).length = L.length := by rw [List.length_set]
          refine .inr ⟨ρ n, rows, k, a, ho.2, ei, h1, h2, D, by rw [prd_len pr]; exact hl, fun u r => ?_⟩
          rw [ei] at h3
          refine hp F ρ () _ (by rw [e1]; exact Ext.refl) (hR.put eL (by intro z; cases z) _ _ ⟨_, upd_same, D.sys, row_nodup D.nd, row_store nk h2 h3 r hv pr⟩) trivial
        · exact False.elim hp
      · exact False.elim hp
    · exact False.elim hp
  · exact False.elim hp
end
end DN

end
section
set_option Elab.async false
set_option linter.all false
set_option maxRecDepth 100000
set_option maxHeartbeats 4000000
/-! E4: in, subscripts, stores for lists, texts, dicts; {}; isinstance; join, index; len of own classes. -/
namespace DN
open PySem PySem.Spec PyProof.Rows L2
section
variable {X : Cx} {g : G} {W : WX} {a b c e o : Expr} {fa fb fc f : Tau → M D} {p pos apos : Pos} {es : List Expr} {fs : Tau → M (List D)} {k n : Nat} {fn : List D → M D}
theorem de_inA (hK : X.K = g.K) (hw : X.w = g.w) (hu : X.A.units + 65 < cLine) (hm : behindInMarks .In b = false) (ha : PE X a (tE g W fa)) (hb : PE X b (tE g W fb)) : PE X (.Compare a [.In] [b] pos) (tE g W (bin (inA false) fa fb)) := de_cmp (((op_in2 hu).or op_inS2).or (op_dnIn hu)) (opd_inA hK hw) ha hb hm
theorem de_ninA (hK : X.K = g.K) (hw : X.w = g.w) (hu : X.A.units + 65 < cLine) (hm : behindInMarks .NotIn b = false) (ha : PE X a (tE g W fa)) (hb : PE X b (tE g W fb)) : PE X (.Compare a [.NotIn] [b] pos) (tE g W (bin (inA true) fa fb)) := de_cmp (((op_nin2 hu).or op_ninS2).or (op_dnNin hu)) (opd_inA hK hw) ha hb hm
theorem dt_inA (hK : X.K = g.K) (hw : X.w = g.w) (hu : X.A.units + 65 < cLine) (hm : behindInMarks .In b = false) (ha : PE X a (tE g W fa)) (hb : PE X b (tE g W fb)) : PT X (.Compare a [.In] [b] pos) (tT g W (tstD (bin (inA false) fa fb))) := dt_cmp (((op_in2 hu).or op_inS2).or (op_dnIn hu)) (opd_inA hK hw) ha hb hm
theorem dt_ninA (hK : X.K = g.K) (hw : X.w = g.w) (hu : X.A.units + 65 < cLine) (hm : behindInMarks .NotIn b = false) (ha : PE X a (tE g W fa)) (hb : PE X b (tE g W fb)) : PT X (.Compare a [.NotIn] [b] pos) (tT g W (tstD (bin (inA true) fa fb))) := dt_cmp (((op_nin2 hu).or op_ninS2).or (op_dnNin hu)) (opd_inA hK hw) ha hb hm
theorem de_ixA (hK : X.K = g.K) (hw : X.w = g.w) (hu : X.A.units + 65 < cLine) (ha : PE X a (tE g W fa)) (hb : PE X b (tE g W fb)) (hs : PlainIx b) : PE X (.Subscript a b pos) (tE g W (bin ixA fa fb)) := by
  refine PE.weak (pe_ix (ix_seq.or (ix_dn hu)) ha hb hs) fun σ H Q h => ?_
  refine (Sat.bindV h).mono fun x H1 h1 => ?_
  obtain ⟨d, h1⟩ := h1
  refine (Sat.bindV h1).mono fun y H2 h2 => ?_
  obtain ⟨e, F, ρ, τ, L, hR, hS, hc, hp⟩ := h2
  exact opd_ixA hK hw F ρ L H2 x y d e _ Q hR (hc (x, d) (by simp)) (hc (y, e) (by simp)) hp
/-! ### o[i] = v -/
theorem pset_or {t t' : TSet} (h : PSet X t) (h' : PSet X t') : PSet X (fun o i v H Q => t o i v H Q ∨ t' o i v H Q) := fun pins s σ H o i v ov iv u Q I ro ri rv q => q.elim (h pins s σ H o i v ov iv u Q I ro ri rv) (h' pins s σ H o i v ov iv u Q I ro ri rv)
theorem ps_setR {i value : Expr} {to ti tv : TE} {t : TSet} {p2 : Pos} (hs : PSet X t) (ho : PE X o to) (hi : PE X i ti) (hv : PE X value tv) (hw : swapsWith value (some (.Subscript o i p2)) pos.line X.env = pure false) :
    PS X (.Assign [.Subscript o i p2] value pos) (fun D σ H => tv σ H fun v H1 => to σ H1 fun x H2 => ti σ H2 fun y H3 => t x y v H3 fun H' => D.nx σ H') := by
  refine ⟨fun pins s σ H D I h => ?_⟩
  refine wpAny_Assign_Subscript (thn (hv.run pins s σ H _ I h) fun r s1 h1 => ?_) hw
  obtain ⟨v, H1, I1, rv, q1⟩ := h1
  refine thn (ho.run pins s1 σ H1 _ I1 q1) fun u s2 h2 => ?_
  obtain ⟨x, H2, I2, rx, q2⟩ := h2
  refine thn (hi.run pins s2 σ H2 _ I2 q2) fun iv s3 h3 => ?_
  obtain ⟨y, H3, I3, ry, q3⟩ := h3
  exact thn (hs pins s3 σ H3 x y v u iv r _ I3 rx ry rv q3) fun _ s4 ⟨H4, I4, q4⟩ => ⟨σ, H4, I4, q4⟩
def unitS (m : M Unit) : SX := fun τ L => match m L with
  | none => none
  | some (.ok _, L1) => some (.nx τ, L1)
  | some (.ex c fs, L1) => some (.ex τ c fs, L1)
theorem unit_post {F : Hp} {ρ : Nat → Addr} {n : Nat} {m : M Unit} {τ : Tau} {L : List MO} {E : Ends} {σ : L2.St} (hS : Sl g F ρ n σ τ) (hp : PostS g F ρ n W E (unitS m τ L)) : Post g relU F ρ n (fun _ _ _ => True) (fun _ H' => E.nx σ H') (m L) := by
  unfold unitS at hp
  match e : m L with
  | none => rw [e] at hp; exact hp
  | some (.ok u, L1) => rw [e] at hp; exact fun F' ρ' b H' x1 x2 _ => hp F' ρ' H' σ x1 x2 (hS.ext x1)
  | some (.ex c fs, L1) => exact fun _ _ _ _ _ _ _ _ _ _ => trivial
def setIS (fo fi fv : Tau → M D) : SX := eThen fv fun v => eThen fo fun x => eThen fi fun y => unitS (setA x y v)
theorem ds_setI {i value : Expr} {fo fi fv : Tau → M D} {p2 : Pos} (hK : X.K = g.K) (hw : X.w = g.w) (hu : X.A.units + 65 < cLine) (ho : PE X o (tE g W fo)) (hi : PE X i (tE g W fi)) (hv : PE X value (tE g W fv)) (hsw : swapsWith value (some (.Subscript o i p2)) pos.line X.env = pure false := by rfl) :
    PS X (.Assign [.Subscript o i p2] value pos) (tS g W (setIS fo fi fv)) := by
  refine PS.weak (ps_setR (pset_or set_list (set_dn hu)) ho hi hv hsw) fun D σ H h => ?_
  refine (SatS.bindV h).mono fun v H1 h1 => ?_
  obtain ⟨dv, h1⟩ := h1
  refine (SatS.bindV h1).mono fun x H2 h2 => ?_
  obtain ⟨dx, h2⟩ := h2
  refine (SatS.bindV h2).mono fun y H3 h3 => ?_
  obtain ⟨dy, F, ρ, τ, L, hR, hS, hc, hp⟩ := h3
  refine setA_ok hK hw hR (hc (x, dx) (by simp)) (hc (y, dy) (by simp)) (hc (v, dv) (by simp)) (Wq := fun _ _ _ => True) ?_
  exact unit_post hS hp
/-! ### {} -/
def dnNew (_ : Tau) : M D := fun L => some (.ok (.r L.length), L ++ [.dn []])
theorem pe_dn0 : PE X (.Dict [] [] pos) (fun _ H Q => ∀ p, H p = none → (p == sysModules) = false → Q (.ref p) (upd H p (.ext (DicPhi X.w p [])))) := ⟨fun pins s σ H Q I h => by
  have hp : H s.heap.objs.size = none := I.hok.fresh (Nat.le_refl _)
  have e : (s.heap.push { cls := .type "dict", data := .dict #[] }).get? s.heap.objs.size = some { cls := .type "dict", data := .dict #[] } := Heap.get?_push_size _ rfl
  refine wpAny_Dict_empty ⟨.ref s.heap.objs.size, _, I.laid (a := s.heap.objs.size) (o := .ext (DicPhi X.w s.heap.objs.size [])) (t' := s.toks) (fun _ _ q => Heap.get?_push_of_some _ q) (Nat.le_refl _) ?_, rfl, h _ hp (beq_eq_false_iff_ne.mpr (Ne.symm (Nat.ne_of_lt I.big)))⟩
  exact ⟨⟨_, #[], 0, e, ⟨rfl, rfl, rfl⟩, rfl, rfl⟩, ⟨_, e⟩, fun h1 h2 z k => let ⟨o, es, ep, q1, q2⟩ := z; ⟨o, es, ep, k _ q1, q2⟩⟩⟩
theorem de_dn0 (hw : X.w = g.w) : PE X (.Dict [] [] pos) (tE g W dnNew) := PE.weak pe_dn0 fun σ H Q h => by
  obtain ⟨F, ρ, τ, L, hR, hS, hc, hp⟩ := h
  intro p hp0 hs
  have e1 : (L ++ [MO.dn []]).length = L.length + 1 := by rw [List.length_append, List.length_singleton]
  refine hp F (rput ρ L.length p) (.ref p) _ (by rw [e1]; exact Ext.new) (hR.new hp0 _ (.dn []) ⟨[], by rw [hw]; exact upd_same, hs, List.nodup_nil, .nil⟩) ?_
  exact ⟨by rw [e1]; exact Nat.lt_succ_self _, by rw [rput_new]⟩
/-! ### isinstance -/
inductive Tg where
  | non | bl | int | str | lst | tup | ins (c : Nat)
def tagOf (L : List MO) : D → Option Tg
  | .v .non => some .non
  | .v (.bl _) => some .bl
  | .v (.int _) => some .int
  | .v (.str _) => some .str
  | .v (.tup _) => some .tup
  | .v (.ins c _) => some (.ins c)
  | .v (.lst _) => some .lst
  | .v (.scr _) => some .lst
  | .r n => match L[n]? with
    | some (.lst _) => some .lst
    | some (.ins c _) => some (.ins c)
    | _ => none
  | _ => none
def tgV (g : G) : Tg → Value
  | .non => .type "NoneType"
  | .bl => .type "bool"
  | .int => .type "int"
  | .str => .type "str"
  | .lst => .type "list"
  | .tup => .type "tuple"
  | .ins c => .ref (g.cl c)
structure IsiC (K : PySem.W.Frag) (C : Addr) : Prop where
  ha : PySem.W.findIn K (.ref C) "__class__" = some (some (.builtin "object.__class__"))
  hn : PySem.W.specialIn K (.builtin "object.__class__") "__get__" = some (some (.builtin "getset_descriptor.__get__"))
  ht : PySem.W.takesIn K (.builtin "object.__class__") = some true
  hm : PySem.W.mroIn K C (.type "object") = some true
theorem lst_tyx {K : PySem.W.Frag} {H : Hp} {a : Addr} {vs : List V} (h : SqL K H a vs) : TyX K H (.ref a) (.type "list") := by
  rcases h with (h | ⟨o, h⟩) | h
  · exact .base (.lst h)
  · exact .base (.frz h)
  · obtain ⟨o, its, n, e, q, _⟩ := h
    exact .kList e q
theorem tup_tyx {K : PySem.W.Frag} {H : Hp} {a : Addr} {vs : List V} (h : SqT K H a vs) : TyX K H (.ref a) (.type "tuple") := by
  rcases h with (h | ⟨o, h⟩) | h
  · exact .base (.tup h)
  · exact .fTuple h
  · obtain ⟨o, its, n, e, q, _⟩ := h
    exact .kTuple e q
theorem tag_at {F : Hp} {ρ : Nat → Addr} {L : List MO} {H : Hp} {x : V} {d : D} {t : Tg} (hI : ∀ c, t = .ins c → IsiC g.K (g.cl c)) (hR : R g F ρ L H) (hx : IsD g F ρ L.length x d) (h : tagOf L d = some t) : TyX g.K H x (tgV g t) := by
  have ins : ∀ c a dx fs, t = .ins c → x = .ref a → H a = some (.ins (g.cl c) dx fs) → Cls g.K (g.cl c) → TyX g.K H x (tgV g t) := fun c a dx fs et ex e cl => by
    subst et
    subst ex
    have T := hI c rfl
    exact .base (.ins e cl T.ha T.hn T.ht T.hm)
  cases d with
  | r n =>
    unfold tagOf at h
    dsimp only at h
    split at h
    · rename_i xs e
      cases h
      obtain ⟨vs, h1, _⟩ := hR.lstAt e
      rw [hx.2]
      exact .base (.lst h1)
    · rename_i c fs e
      cases h
      obtain ⟨a, dx, fl, ex, ea, cf, _⟩ := clsOf_at hR hx (show clsOf L (.r n) = some c by unfold clsOf; dsimp only; rw [e])
      exact ins c a dx fl rfl ex ea cf.cls
    · cases h
  | v q =>
    have hx' : Is g F x q := hx
    cases q with
    | non => cases h; rw [Is.inv_non hx']; exact .base .non
    | bl b => cases h; rw [Is.inv_bl hx']; exact .base (.bl b)
    | int i => cases h; rw [Is.inv_int hx']; exact .base (.int i)
    | str z => cases h; rw [Is.inv_str hx']; exact .base (.str z)
    | tup xs =>
      cases h
      obtain ⟨a, vs, ex, h1, _⟩ := Is.inv_tup hx'
      rw [ex]
      exact tup_tyx (hR.sub.sqT h1)
    | lst xs =>
      cases h
      obtain ⟨a, vs, ex, h1, _⟩ := Is.inv_lst hx'
      rw [ex]
      exact .base (.lst (hR.sub _ _ h1))
    | scr ns =>
      cases h
      obtain ⟨a, vs, ex, h1, _⟩ := asL_sq (xs := ns.map P.int) hR hx rfl
      rw [ex]
      exact lst_tyx h1
    | ins c ps =>
      cases h
      obtain ⟨a, dx, fl, ex, ea, cf, _⟩ := clsOf_at hR hx (show clsOf L (.v (.ins c ps)) = some c from rfl)
      exact ins c a dx fl rfl ex ea cf.cls
    | _ => cases h
def isiD (tab : Tg → Option Bool) : D → M D := fun d L => match (tagOf L d).bind tab with
  | some b => some (.ok (.v (.bl b)), L)
  | none => none
theorem de_isi {x : Str} {p2 : Pos} {cv : V} {u : Value} {tab : Tg → Option Bool} (hK : X.K = g.K) (hk : ∀ t b, tab t = some b → PySem.W.kitOne g.K (tgV g t) u = some b) (hI : ∀ c b, tab (.ins c) = some b → IsiC g.K (g.cl c)) (k : ClsV cv u) (he : PE X e (tE g W f)) (hcl : PE X (.Name x p2) (tC cv))
    (hgi : Gl X "isinstance") (hmi : X.mg "isinstance" = none) (hvi : bootBuiltins "isinstance" = some (.builtin "isinstance")) (hst : starEach [e, .Name x p2] X.env = (false, eval e X.env) :: starEach [.Name x p2] X.env := by rfl) (hpl : (backTo pos (starEach [.Name x p2] X.env)).any (·.1) = false := by rfl) :
    PE X (.Call (.Name "isinstance" p) [e, .Name x p2] [] pos) (tE g W (un (isiD tab) f)) := by
  refine PE.weak (pe_callB call_isi hgi hmi hvi (pa_cons he (pa_cons hcl pa_nil) hst) (he := hst) (hpl := hpl)) fun σ H Q h => ?_
  refine (Sat.bindV h).mono fun y H1 h1 => ?_
  obtain ⟨d, F, ρ, τ, L, hR, hS, hcx, hp⟩ := h1
  unfold isiD at hp
  dsimp only at hp
  match et : tagOf L d with
  | none => rw [et] at hp; exact False.elim hp
  | some t =>
    rw [et] at hp
    dsimp only [Option.bind] at hp
    match eb : tab t with
    | none => rw [eb] at hp; exact False.elim hp
    | some b =>
      rw [eb] at hp
      rw [hK]
      exact ⟨y, cv, tgV g t, u, b, rfl, k, tag_at (fun c e => hI c b (by rw [← e]; exact eb)) hR (hcx (y, d) (by simp)) et, hk t b eb, hp.val hR (Is.bl b)⟩
/-! ### join, index -/
def strsOf : List P → Option (List Str)
  | [] => some []
  | .str x :: xs => (strsOf xs).map (x :: ·)
  | _ => none
theorem strs_is {F : Hp} : ∀ {vs : List V} {ps : List P} {ns : List Str}, IsA g F vs ps → strsOf ps = some ns → vs = ns.map V.str
  | _, _, _, .nil, e => by cases e; rfl
  | _, p :: ps, _, .cons h t, e => by
    cases p with
    | str x =>
      unfold strsOf at e
      cases e2 : strsOf ps with
      | none => rw [e2] at e; cases e
      | some ms =>
        rw [e2] at e
        cases e
        rw [Is.inv_str h, strs_is t e2]
        rfl
    | _ => cases e
def joinD : D → List D → M D := fun x ds L => match x, ds with
  | .v (.str a), [y] => match (asS L y).bind strsOf with
    | some ys => if (ys.map (·.length)).sum + ys.length * a.length ≤ 16777216 then some (.ok (.v (.str (Txt.join a ys))), L) else none
    | none => none
  | _, _ => none
theorem md_join {K : PySem.W.Frag} (hK : K = g.K) : MtD g joinD (fun x xs H Q => ∃ a p, ∃ ys : List Str, x = .str a ∧ xs = [.ref p] ∧ (SqL K H p (ys.map V.str) ∨ SqT K H p (ys.map V.str)) ∧ (ys.map (·.length)).sum + ys.length * a.length ≤ 16777216 ∧ Q (.str (Txt.join a ys)) H) := by
  subst hK
  intro F ρ L H x d vs ds W Q hR hx ha hp
  unfold joinD at hp
  split at hp
  · rename_i a y
    obtain ⟨v, rfl, hv⟩ := rel1 ha
    match e1 : asS L y with
    | none => rw [e1] at hp; exact False.elim hp
    | some ps =>
      rw [e1] at hp
      dsimp only [Option.bind] at hp
      match e2 : strsOf ps with
      | none => rw [e2] at hp; exact False.elim hp
      | some ys =>
        rw [e2] at hp
        dsimp only at hp
        split at hp
        · rename_i hz
          obtain ⟨q, us, ev, hs, hi⟩ := asS_sq hR hv e1
          have eu := strs_is hi e2
          subst eu
          refine ⟨a, q, ys, Is.inv_str hx, by rw [ev], ?_, hz, hp.val hR (Is.str _)⟩
          rcases hs with hs | ⟨hs, _⟩
          · exact .inl hs
          · exact .inr hs
        · exact False.elim hp
  · exact False.elim hp
def findD (ds : List PyData) (d : PyData) : Option Nat := ds.findIdx? fun z => PyData.eqv z d
def indexD : D → List D → M D := fun x ds L => match ds with
  | [y] => match dOf L x, dOf L y with
    | some (.list zs), some d => if (SeqAt.shaped (.list zs) && SeqAt.shaped d) = true then (findD zs d).map fun j => (.ok (.v (.int (j : Nat))), L) else none
    | _, _ => none
  | _ => none
theorem find_first {ds : List PyData} {d : PyData} {j : Nat} (h : findD ds d = some j) : ∃ z, ds[j]? = some z ∧ PyData.eqv z d = true ∧ ∀ (m : Nat) (z' : PyData), m < j → ds[m]? = some z' → PyData.eqv z' d = false := by
  unfold findD at h
  obtain ⟨hj, h1, h2⟩ := List.findIdx?_eq_some_iff_getElem.mp h
  refine ⟨ds[j], List.getElem?_eq_getElem hj, h1, fun m z' hm e => ?_⟩
  obtain ⟨hl, ez⟩ := List.getElem?_eq_some_iff.mp e
  have := h2 m hm
  rw [← ez]
  simpa using this
theorem md_index {K : PySem.W.Frag} (hK : K = g.K) : MtD g indexD (rIndexD K) := by
  subst hK
  intro F ρ L H x d vs ds W Q hR hx ha hp
  unfold indexD at hp
  split at hp
  · rename_i y
    obtain ⟨v, rfl, hv⟩ := rel1 ha
    split at hp
    · rename_i zs dd e1 e2
      split at hp
      · rename_i hs
        obtain ⟨s1, s2⟩ := Bool.and_eq_true_iff.mp hs
        match ej : findD zs dd with
        | none => rw [ej] at hp; exact False.elim hp
        | some j =>
          rw [ej] at hp
          obtain ⟨z, q1, q2, q3⟩ := find_first ej
          have hd := dOf_dp hR hx e1
          have ex : ∃ a, x = .ref a := by
            cases d with
            | r n => exact ⟨_, hx.2⟩
            | v q =>
              have e1' : toD q = some (.list zs) := e1
              have hx' : Is g F x q := hx
              cases hx' with
              | lst _ _ => exact ⟨_, rfl⟩
              | scr _ => exact ⟨_, rfl⟩
              | tup _ _ => exact ⟨_, rfl⟩
              | ins _ _ _ _ => exact ⟨_, rfl⟩
              | exn _ _ _ => exact ⟨_, rfl⟩
              | non => simp [toD] at e1'
              | bl b => simp [toD] at e1'
              | int i => simp [toD] at e1'
              | str s => simp [toD] at e1'
          obtain ⟨a, rfl⟩ := ex
          exact ⟨a, v, dd, zs, j, z, rfl, rfl, hd, dOf_dp hR hv e2, s1, s2, q1, q2, q3, hp.val hR (Is.int _)⟩
      · exact False.elim hp
    · exact False.elim hp
  · exact False.elim hp
/-! ### len(o), o of an own class -/
theorem run_sd1 {CX : CXT} {fad : Addr} {fd : FuncData} {ps : List Str} {sp : Sp} {pins : List (Addr × Obj)} {σ : L2.St} {H : Hp} {s : Shared} {Q : VK} {E : XK} {us : List Value} {vs : List V} (FO : FnOk X.prog X.w X.K X.mg X.base CX k fad fd ps sp) (hr : Room (k + 1) X.A) (hb : Binds X.K fd ps [])
    (hx : PassesAt CX X σ E) (I : Inv X pins σ H s) (r : Vals vs us) (h : sp vs H Q E) : wpAny (model X.prog X.w) X.A.in1 (call (.ref fad) us) (EP X pins σ Q) X.xe s := by
  have hl : us.length = ps.length := by rw [← r.length]; exact FO.len _ _ _ _ h
  have b := hb s us I.kIn (by rw [List.append_nil]; exact hl)
  rw [List.append_nil] at b
  refine wpAny_call (codeAny_mono (FO.run X.A.in1 X.stack s H ⟨us, []⟩ us vs Q E hr.in1 I.env0.in1 b r h) fun z s' hz => ?_)
  match z, hz with
  | .error er, hz => exact hx pins H s er s' I hz
  | .ok (.ret u), hz => exact I.after hz
  | .ok .next, hz => exact False.elim hz
  | .ok .brk, hz => exact False.elim hz
  | .ok .cont, hz => exact False.elim hz
/-- a class's special method -/
structure SOk (P0 : Program) (w : World) (K : PySem.W.Frag) (mg : Str → Option Value) (base : Heap) (g : G) (m : Str) (k : Nat) (c : Nat) (n : Nat) (fn : List D → M D) : Prop where
  ex : ∃ (fad : Addr) (fd : FuncData) (ps : List Str), PySem.W.findIn K (.ref (g.cl c)) m = some (some (.ref fad)) ∧ PySem.W.isFn K (.ref fad) = true ∧ PySem.W.fnIn K fad = true ∧ FnOk P0 w K mg base (L2.CX P0 w) k fad fd ps (spF g n fn) ∧ Binds K fd ps []
noncomputable def lenRes : Option (Res D × List MO) → Option (Res D × List MO)
  | some (.ok (.v (.int n)), L) => @ite _ (0 ≤ n ∧ n < 2 ^ 63) (Classical.propDecidable _) (some (.ok (.v (.int n)), L)) none
  | some (.ok _, _) => none
  | o => o
noncomputable def lenO (tab : Nat → Option (List D → M D)) : D → M D := fun x L => match (clsOf L x).bind tab with
  | some fn => lenRes (fn [x] L)
  | none => lenD [x] L
theorem post_len {F : Hp} {ρ : Nat → Addr} {n : Nat} {W : Value → Option Addr → Hp → Prop} {Q : VK} {o : Option (Res D × List MO)} (h : Post g (relV g) F ρ n W Q (lenRes o)) : Post g (relV g) F ρ n W (fun v H => ∃ i, v = .int i ∧ 0 ≤ i ∧ i < 2 ^ 63 ∧ Q (.int i) H) o := by
  match o, h with
  | none, h => exact h
  | some (.ex c fs, L), h => exact h
  | some (.ok (.r n), L), h => exact False.elim h
  | some (.ok (.v p), L), h =>
    cases p with
    | int i =>
      have h : Post g (relV g) F ρ n W Q (@ite _ (0 ≤ i ∧ i < 2 ^ 63) (Classical.propDecidable _) (some (.ok (.v (.int i)), L)) none) := h
      split at h
      · rename_i hz
        exact fun F' ρ' b H' x1 x2 x3 => ⟨i, Is.inv_int x3, hz.1, hz.2, h F' ρ' (.int i) H' x1 x2 (Is.int i)⟩
      · exact False.elim h
    | _ => exact False.elim h
theorem de_lenO {tab : Nat → Option (List D → M D)} (hK : X.K = g.K) (MT : ∀ c fn, tab c = some fn → SOk X.prog X.w X.K X.mg X.base g "__len__" k c 1 fn) (hr : Room (k + 1) X.A) (tk : Takes X W) (hg : Gl X "len") (hm : X.mg "len" = none) (hv : bootBuiltins "len" = some (.builtin "len")) (he : PE X e (tE g W f))
    (hlen : CallR X (.builtin "len") (fun xs H Q => ∃ x n, xs = [x] ∧ LenV X.K x H n ∧ Q (.int n) H))
    (hst : starEach [e] X.env = (false, eval e X.env) :: starEach [] X.env := by rfl) (hpl : (backTo pos (starEach [] X.env)).any (·.1) = false := by rfl) :
    PE X (.Call (.Name "len" p) [e] [] pos) (tE g W (un (lenO tab) f)) := by
  refine ⟨fun pins s σ H Q I h => ?_⟩
  refine wpAny_Call_Name_kw (ld_blt I hg hm hv ?_ (by decide) (by decide))
  have h' : tA g W (consA f nilA) σ H (fun vs H1 => ∃ x, vs = [x] ∧ ∃ d, Sat g (relV g) W [(x, d)] (fun _ => lenO tab d) σ H1 Q) := by
    obtain ⟨F, ρ, τ, L, hR, hS, hc, hp⟩ := h
    refine ⟨F, ρ, τ, L, hR, hS, hc, ?_⟩
    have hp0 : Post g (relV g) F ρ L.length (fun c d H' => W c d σ H') Q (M.bnd (f τ) (lenO tab) L) := hp
    show Post g (relA g) F ρ L.length (fun c d H' => W c d σ H') _ (M.bnd (f τ) (fun d => M.bnd (nilA τ) fun ds => M.ret (d :: ds)) L)
    unfold M.bnd at hp0 ⊢
    match e1 : f τ L with
    | none => rw [e1] at hp0; exact False.elim hp0
    | some (.ex c xs, L1) => rw [e1] at hp0; exact hp0
    | some (.ok d, L1) =>
      rw [e1] at hp0
      intro F1 ρ1 vs H1 x1 hR1 ha
      obtain ⟨x, rfl, hx⟩ := rel1 ha
      exact ⟨x, rfl, d, F1, ρ1, τ, L1, hR1, hS.ext x1, (fun y hy => by rw [List.mem_singleton.mp hy]; exact hx), hp0.ext x1⟩
  refine PyProof.Rows.callWith_builtin1 (thn ((da_cons he da_nil hst).run pos pins _ σ H _ I h') fun us s1 ⟨vs, H1, I1, r1, q1⟩ => ?_) hst hpl
  obtain ⟨x, rfl, d, F, ρ, τ, L, hR, hS, hc, hp⟩ := q1
  have hx := hc (x, d) (by simp)
  unfold lenO at hp
  dsimp only at hp
  match e1 : (clsOf L d).bind tab with
  | none =>
    rw [e1] at hp
    exact hlen pins s1 σ H1 [x] us Q I1 r1 (cd_len hK F ρ L H1 [x] [d] _ Q hR (.cons hx .nil) hp)
  | some fn =>
    rw [e1] at hp
    obtain ⟨c, e2, e3⟩ := Option.bind_eq_some_iff.mp e1
    obtain ⟨ad, dx, fl, ex, ea, cf, _⟩ := clsOf_at hR hx e2
    subst ex
    obtain ⟨fad, fd, ps, k1, k2, k3, FO, hb⟩ := (MT c fn e3).ex
    obtain ⟨u, rfl, ru⟩ : ∃ u, us = [u] ∧ L2.RelV (.ref ad) u := by
      cases r1 with
      | cons h t => cases t; exact ⟨_, rfl, h⟩
    obtain rfl : u = Value.ref ad := ru
    obtain ⟨mA, O, _⟩ := ins_get I1.hok ea
    obtain ⟨od, J, _⟩ := O.look
    obtain ⟨m, fr⟩ := I1.fr
    refine PySem.W.len_K fr I1.ok.mod.kin J k1 k2 ?_
    refine wpAny_mono (run_sd1 (us := [.ref ad]) (vs := [.ref ad]) FO hr hb (passAt tk σ) I1 (.cons rfl .nil) ⟨F, ρ, L, [d], hR, .cons hx .nil, rfl, post_len hp⟩) (fun v s' hv' => ?_) fun _ _ z => z
    obtain ⟨w, H2, I2, rw', i, ew, h0, h1, q⟩ := hv'
    subst ew
    obtain ⟨t, rfl⟩ := (show ∃ t, v = Value.int i t from rw')
    exact ⟨⟨h0, h1⟩, .int i, H2, I2.tok _, ⟨_, rfl⟩, q⟩
end
end DN

end
section
set_option Elab.async false
set_option linter.all false
set_option maxRecDepth 100000
set_option maxHeartbeats 4000000
/-! E5: what the top has written: the hook, facts by checks. -/
namespace DN
open PySem PySem.Spec PyProof.Rows L2 He NdefX
/-- the classes' names -/
def cnm : Nat → Str
  | 0 => "Role" | 1 => "Read" | 2 => "Made" | 3 => "Fresh" | 4 => "Both" | 5 => "Renewed" | 6 => "Kind" | 7 => "Catalog" | 8 => "Waits" | 9 => "Contents" | 10 => "Step" | 11 => "Log" | 12 => "Disk" | 13 => "Store" | 14 => "State" | 15 => "Price" | 16 => "Backup"
  | 20 => "RedoError" | 21 => "BadName" | 22 => "BadKind" | 23 => "NoKind" | 24 => "NoRole" | 25 => "BadStep" | 26 => "NoStep" | 27 => "BadFormula" | 28 => "BadStamp" | 29 => "BadWait" | 30 => "Held" | 31 => "Newer" | 32 => "Broken" | 33 => "MutualWait"
  | 34 => "BadSlot" | 35 => "BadSize" | 36 => "BadOrder" | 37 => "OutOfTurn"
  | _ => ""
abbrev gOf (K : PySem.W.Frag) (w : World) : G := ⟨K, w, fun c => ga K (cnm c)⟩
/-! ### a def -/
structure DX where
  at_ : Str × Option Str
  qual : Str
  st : Stmt
  cl : List Str := []
def defName : Stmt → Str
  | .FunctionDef x _ _ _ _ _ _ _ _ _ => x
  | _ => ""
abbrev FnX : Type := Option (Str × Str × Arguments × FuncBody × Scope × Addr × List Str × Value × Addr)
def fnX (K : PySem.W.Frag) (p : Str × Option Str) : FnX := match K.lookup (fAd K p) with
  | some ⟨_, _, .func fd, _⟩ => some (fd.name, fd.qualname, fd.params, fd.body, fd.scope, fd.globals, fd.closure.map (·.1), fd.defaults, fd.builtins)
  | _ => none
def DX.val (d : DX) : FnX := some (defName d.st, d.qual, defArgs d.st, .stmts (defBody d.st), defScope d.st, mainGlobals, d.cl, .none, builtinsNs)
def DX.ok (K : PySem.W.Frag) (d : DX) : Bool := PySem.W.keepIn K (.ref (fAd K d.at_)) && (match K.lookup (fAd K d.at_) with
  | some ⟨_, _, .func fd, _⟩ => PySem.W.codeIn K fd.code d.qual
  | _ => false)
theorem dx_fun {K : PySem.W.Frag} {d : DX} (e : fnX K d.at_ = d.val) (c : d.ok K = true) (hcl : d.cl = []) : ∃ kV doc pm an cdv ct, Fun K (defName d.st) d.qual d.st (fAd K d.at_) (PySem.W.fnOf (defName d.st) d.qual (defArgs d.st) (defBody d.st) (defScope d.st) .none kV doc pm an cdv ct) := by
  obtain ⟨kp, c2⟩ := ba c
  unfold fnX at e
  cases q : K.lookup (fAd K d.at_) with
  | none => rw [q] at c2; cases c2
  | some o =>
    obtain ⟨oc, od, dt, osl⟩ := o
    rw [q] at c2 e
    cases dt with
    | func fd =>
      obtain ⟨n1, n2, n3, n4, n5, n6, n7, n8, n9, n10, n11, n12, n13, n14, n15⟩ := fd
      have e2 : (some (n1, n2, n3, n4, n5, n6, n7.map (·.1), n8, n15) : FnX) = some (defName d.st, d.qual, defArgs d.st, .stmts (defBody d.st), defScope d.st, mainGlobals, d.cl, .none, builtinsNs) := e
      simp only [Option.some.injEq, Prod.mk.injEq] at e2
      obtain ⟨h1, h2, h3, h4, h5, h6, h7, h8, h9⟩ := e2
      rw [hcl] at h7
      have h7' : n7 = [] := List.map_eq_nil_iff.mp h7
      subst h1 h2 h3 h4 h5 h6 h7' h8 h9
      exact ⟨_, _, _, _, _, _, ⟨⟨oc, od, _, _, _, _, _, _, osl, rfl, q, c2⟩, kp⟩⟩
    | _ => cases c2
theorem dx_cls {K : PySem.W.Frag} {d : DX} (e : fnX K d.at_ = d.val) (c : d.ok K = true) (hcl : d.cl = [("__class__" : Str)]) : ∃ oc od osl cc kV doc pm an cdv ct, K.lookup (fAd K d.at_) = some ⟨oc, od, .func (PySem.W.ksFn (defName d.st) d.qual (defArgs d.st) (defBody d.st) (defScope d.st) .none kV doc pm an cdv ct cc), osl⟩ ∧
    PySem.W.codeIn K cdv d.qual = true ∧ PySem.W.keepIn K (.ref (fAd K d.at_)) = true := by
  obtain ⟨kp, c2⟩ := ba c
  unfold fnX at e
  cases q : K.lookup (fAd K d.at_) with
  | none => rw [q] at c2; cases c2
  | some o =>
    obtain ⟨oc, od, dt, osl⟩ := o
    rw [q] at c2 e
    cases dt with
    | func fd =>
      obtain ⟨n1, n2, n3, n4, n5, n6, n7, n8, n9, n10, n11, n12, n13, n14, n15⟩ := fd
      have e2 : (some (n1, n2, n3, n4, n5, n6, n7.map (·.1), n8, n15) : FnX) = some (defName d.st, d.qual, defArgs d.st, .stmts (defBody d.st), defScope d.st, mainGlobals, d.cl, .none, builtinsNs) := e
      simp only [Option.some.injEq, Prod.mk.injEq] at e2
      obtain ⟨h1, h2, h3, h4, h5, h6, h7, h8, h9⟩ := e2
      rw [hcl] at h7
      cases n7 with
      | nil => cases h7
      | cons a r =>
        obtain ⟨x, cc⟩ := a
        cases r with
        | nil =>
          obtain rfl : x = ("__class__" : Str) := by simpa using h7
          subst h1 h2 h3 h4 h5 h6 h8 h9
          exact ⟨oc, od, osl, cc, _, _, _, _, _, _, rfl, c2, kp⟩
        | cons b r => simp at h7
    | _ => cases c2
/-! ### the hook -/
abbrev Chk : Type := PySem.W.Frag → Bool
abbrev AlX : Type := Bool × List FnX
def asX (g : Addr → Option Obj) : Nat → List Addr
  | 0 => [mainGlobals, cStatics]
  | n + 1 => growD g (asX g n)
def obsX (fa : List Chk) (fn : List DX) (K : PySem.W.Frag) : AlX := ((fa.all fun f => f K) && fn.all fun d => d.ok K, fn.map fun d => fnX K d.at_)
def valX (fn : List DX) : AlX := (true, fn.map DX.val)
def SaysX (fa : List Chk) (fn : List DX) (K : PySem.W.Frag) : Prop := obsX fa fn K = valX fn
def obsXG (n : Nat) (fa : List Chk) (fn : List DX) (g : Addr → Option Obj) : AlX := obsX fa fn (frG g (asX g n))
def hookX (n : Nat) (fa : List Chk) (fn : List DX) : PySem.W.Hook where
  α := AlX
  obs := fun s => obsXG n fa fn s.heap.get?
  val := fun _ => valX fn
  says := fun _ h => ∃ K : PySem.W.Frag, K.In h ∧ SaysX fa fn K
  of := fun _ _ e => ⟨_, frG_in, e⟩
  keeps := fun _ _ _ ⟨K, hK, c⟩ k => ⟨K, PySem.W.Frag.In.keeps hK k, c⟩
theorem obsXG_eq {n : Nat} {fa : List Chk} {fn : List DX} {g : Addr → Option Obj} {s : Shared} (h : ∀ a, g a = s.heap.get? a) : obsXG n fa fn g = (hookX n fa fn).obs s := by
  have e : g = s.heap.get? := funext h
  rw [e] <;> rfl
section
variable {fa : List Chk} {fn : List DX} {K : PySem.W.Frag}
theorem SaysX.fact (c : SaysX fa fn K) (i : Nat) {f : Chk} (h : fa[i]? = some f := by rfl) : f K = true := by
  have c1 := (ba (show ((fa.all fun f => f K) && fn.all fun d => d.ok K) = true from congrArg (fun z : AlX => z.1) c)).1
  exact List.all_eq_true.mp c1 f (List.mem_of_getElem? h)
theorem SaysX.val_ (c : SaysX fa fn K) (i : Nat) {d : DX} (h : fn[i]? = some d) : fnX K d.at_ = d.val ∧ d.ok K = true := by
  have c2 := (ba (show ((fa.all fun f => f K) && fn.all fun d => d.ok K) = true from congrArg (fun z : AlX => z.1) c)).2
  have e : fn.map (fun d => fnX K d.at_) = fn.map DX.val := congrArg (fun z : AlX => z.2) c
  have e2 : (fn.map fun d => fnX K d.at_)[i]? = (fn.map DX.val)[i]? := by rw [e]
  rw [List.getElem?_map, List.getElem?_map, h] at e2
  exact ⟨Option.some.inj e2, List.all_eq_true.mp c2 d (List.mem_of_getElem? h)⟩
/-- a def of the text, callable -/
structure Def1 (K : PySem.W.Frag) (d : DX) (ps : List Str) (f : Addr) (fd : FuncData) : Prop where
  F : Fun K (defName d.st) d.qual d.st f fd
  B : Binds K fd ps []
theorem SaysX.def_ (c : SaysX fa fn K) (i : Nat) {d : DX} {ps : List Str} (h : fn[i]? = some d) (hcl : d.cl = []) (hb : ∀ (kV doc pm : Value) (an : Option Addr) (cdv ct : Value) (us : List Value), us.length = ps.length → bindArgs (PySem.W.fnOf (defName d.st) d.qual (defArgs d.st) (defBody d.st) (defScope d.st) .none kV doc pm an cdv ct) ⟨us, []⟩ = pure (ps.zip us)) :
    ∃ fd, Def1 K d ps (fAd K d.at_) fd := by
  obtain ⟨e, ok⟩ := c.val_ i h
  obtain ⟨kV, doc, pm, an, cdv, ct, F⟩ := dx_fun e ok hcl
  exact ⟨_, F, F.binds hb⟩
end
/-! ### checks -/
def faB (f : Fa) : Chk := fun K => f.ok K
section
variable {K : PySem.W.Frag}
/-- class c: its attributes -/
def clsB (c : Nat) : Chk := fun K => (Fa.cls (cnm c)).ok K && (flT c).all fun f => eqO (PySem.W.findIn K (.ref (ga K (cnm c))) (nmT f)) (some none)
theorem nmT_nodup : ∀ c, ((flT c).map nmT).Nodup := by
  have h : ((List.range 40).all fun c => decide ((flT c).map nmT).Nodup) = true := by decide +kernel
  intro c
  by_cases hc : c < 40
  · exact of_decide_eq_true (List.all_eq_true.mp h c (List.mem_range.mpr hc))
  · have : flT c = [] := by
      unfold flT
      split <;> first | omega | rfl
    rw [this]
    exact List.nodup_nil
theorem flT_few : ∀ c, (flT c).length < 500 := by
  intro c
  unfold flT
  split <;> decide
theorem clsB_ok {w : World} {c : Nat} (h : clsB c K = true) : ClsF (gOf K w) c := by
  obtain ⟨h1, h2⟩ := ba h
  exact ⟨cls_ok h1, fun f hf => eqO_ok (List.all_eq_true.mp h2 f hf), nmT_nodup c, Nat.lt_trans (flT_few c) (by decide)⟩
def isiB (c : Nat) : Chk := fun K => let C := ga K (cnm c); eqO (PySem.W.findIn K (.ref C) "__class__") (some (some (.builtin "object.__class__"))) && (eqO (PySem.W.specialIn K (.builtin "object.__class__") "__get__") (some (some (.builtin "getset_descriptor.__get__"))) && (decide (PySem.W.takesIn K (.builtin "object.__class__") = some true) && decide (PySem.W.mroIn K C (.type "object") = some true)))
theorem isiB_ok {c : Nat} (h : isiB c K = true) : IsiC K (ga K (cnm c)) := by
  obtain ⟨h1, h⟩ := ba h
  obtain ⟨h2, h⟩ := ba h
  obtain ⟨h3, h4⟩ := ba h
  exact ⟨eqO_ok h1, eqO_ok h2, of_decide_eq_true h3, of_decide_eq_true h4⟩
/-- kitOne's answer -/
def tgK (K : PySem.W.Frag) : Tg → Value
  | .ins c => .ref (ga K (cnm c))
  | .non => .type "NoneType"
  | .bl => .type "bool"
  | .int => .type "int"
  | .str => .type "str"
  | .lst => .type "list"
  | .tup => .type "tuple"
theorem tgK_eq {w : World} (t : Tg) : tgV (gOf K w) t = tgK K t := by cases t <;> rfl
def kitB (t : Tg) (u : PySem.W.Frag → Value) (b : Bool) : Chk := fun K => decide (PySem.W.kitOne K (tgK K t) (u K) = some b)
theorem kitB_ok {w : World} {t : Tg} {u : PySem.W.Frag → Value} {b : Bool} (h : kitB t u b K = true) : PySem.W.kitOne (gOf K w).K (tgV (gOf K w) t) (u K) = some b := by
  rw [tgK_eq]
  exact of_decide_eq_true h
/-! ### an error's class -/
def oexB (C : Addr) : Chk := fun K => match K.lookup C with
  | some ⟨.type "type", _, .cls cd, sl⟩ => (match cd.mro, sl.toList with
    | .ref C' :: bm, [_, _, _, _, some (.builtin n), _] => C' == C && (n == "ValueError.__new__" && (!cd.hasDel && (cd.hasDict && PySem.HandSPX.refsVE bm)))
    | _, _ => false)
  | _ => false
theorem oexB_ok {C : Addr} (h : oexB C K = true) : ∃ nm q N bs bm sn sub ab col dd k0 k1 k2 k3 k5, K.lookup C = some (excClassObj nm q C N bs bm true sn sub ab col dd k0 k1 k2 k3 k5 "ValueError.__new__") ∧ PySem.HandSPX.refsVE bm = true := by
  unfold oexB at h
  split at h
  · rename_i dd cd sl e
    split at h
    · rename_i C' bm k0 k1 k2 k3 n k5 hm hs
      obtain ⟨h1, h⟩ := ba h
      obtain ⟨h2, h⟩ := ba h
      obtain ⟨h3, h⟩ := ba h
      obtain ⟨h4, h5⟩ := ba h
      have e1 := beq_iff_eq.mp h1
      have e2 := beq_iff_eq.mp h2
      subst e1
      subst e2
      obtain ⟨nm, bs, mro, ns, qn, hd, sn, sub, ab, col, del⟩ := cd
      dsimp only at hm h3 h4
      subst hm
      subst h4
      have h3' : del = false := by simpa using h3
      subst h3'
      have hsl : sl = #[k0, k1, k2, k3, some (.builtin "ValueError.__new__"), k5] := by
        obtain ⟨l⟩ := sl
        dsimp only at hs
        rw [hs]
      subst hsl
      exact ⟨nm, qn, ns, bs, bm, sn, sub, ab, col, dd, k0, k1, k2, k3, k5, e, h5⟩
    · cases h
  · cases h
def valO (a b : Option Value) : Bool := decide (a = b)
def boO (a b : Option Bool) : Bool := decide (a = b)
/-- the cell of __class__, the code's file -/
def fileB (file : Str) (vs : Array Value) : Bool := match vs[2]? with
  | some (Value.str f _) => file == f
  | _ => false
def celB (C fI : Addr) (file : Str) : Chk := fun K => match K.lookup fI with
  | some ⟨_, _, .func fd, _⟩ => (match fd.closure, fd.code with
    | [(_, cc)], .ref cda => (match K.lookup cc, K.lookup cda with
      | some ⟨_, _, .cell (some (.ref D)), _⟩, some ⟨_, _, .fields vs, _⟩ => D == C && fileB file vs
      | _, _ => false)
    | _, _ => false)
  | _ => false
def excB (file : Str) (c : Nat) : Chk := fun K => let C := ga K (cnm c); let fI := ma K C "__init__"
  [oexB C K, eqO (PySem.W.findIn K (.ref C) "__setattr__") (some (some (.builtin "object.__setattr__"))), boO (PySem.W.subIn K (.ref C) (.type "BaseException")) (some true), valO (PySem.W.typeIn K (.ref C)) (some (.type "type")), PySem.W.keepIn K (.ref C),
    eqO (PySem.W.findIn K (.ref C) "__init__") (some (some (.ref fI))), valO (PySem.W.typeIn K (.ref fI)) (some (.type "function")), (flT c).all fun f => eqO (PySem.W.findIn K (.ref C) (nmT f)) (some none), celB C fI file K,
    boO (PySem.W.mroIn K C (.ref C)) (some true), eqO (PySem.W.nsIn K cStatics "thirdparty.any") (some none), eqO (PySem.W.ks_superIn K C C "__init__") (some (some (.builtin "ValueError.__init__"))), boO (PySem.W.subIn K (.ref C) (.type "ValueError")) (some true),
    eqO (PySem.W.findIn K (.ref C) "__getattribute__") (some (some (.builtin "BaseException.__getattribute__"))), eqO (PySem.W.findIn K (.ref C) "__getattr__") (some none), PySem.W.hasDictIn K C, eqO (PySem.W.findIn K (.ref C) "__class__") (some (some (.builtin "object.__class__"))),
    eqO (PySem.W.specialIn K (.builtin "object.__class__") "__get__") (some (some (.builtin "getset_descriptor.__get__"))), boO (PySem.W.takesIn K (.builtin "object.__class__")) (some true), boO (PySem.W.mroIn K C (.type "object")) (some true), (PySem.W.clsIn K C).isSome].all id
theorem excB_get {file : Str} {c : Nat} (h : excB file c K = true) (i : Nat) {b : Bool} (e : [oexB (ga K (cnm c)) K, eqO (PySem.W.findIn K (.ref (ga K (cnm c))) "__setattr__") (some (some (.builtin "object.__setattr__"))), boO (PySem.W.subIn K (.ref (ga K (cnm c))) (.type "BaseException")) (some true), valO (PySem.W.typeIn K (.ref (ga K (cnm c)))) (some (.type "type")), PySem.W.keepIn K (.ref (ga K (cnm c))),
    eqO (PySem.W.findIn K (.ref (ga K (cnm c))) "__init__") (some (some (.ref (ma K (ga K (cnm c)) "__init__")))), valO (PySem.W.typeIn K (.ref (ma K (ga K (cnm c)) "__init__"))) (some (.type "function")), (flT c).all fun f => eqO (PySem.W.findIn K (.ref (ga K (cnm c))) (nmT f)) (some none), celB (ga K (cnm c)) (ma K (ga K (cnm c)) "__init__") file K,
    boO (PySem.W.mroIn K (ga K (cnm c)) (.ref (ga K (cnm c)))) (some true), eqO (PySem.W.nsIn K cStatics "thirdparty.any") (some none), eqO (PySem.W.ks_superIn K (ga K (cnm c)) (ga K (cnm c)) "__init__") (some (some (.builtin "ValueError.__init__"))), boO (PySem.W.subIn K (.ref (ga K (cnm c))) (.type "ValueError")) (some true),
    eqO (PySem.W.findIn K (.ref (ga K (cnm c))) "__getattribute__") (some (some (.builtin "BaseException.__getattribute__"))), eqO (PySem.W.findIn K (.ref (ga K (cnm c))) "__getattr__") (some none), PySem.W.hasDictIn K (ga K (cnm c)), eqO (PySem.W.findIn K (.ref (ga K (cnm c))) "__class__") (some (some (.builtin "object.__class__"))),
    eqO (PySem.W.specialIn K (.builtin "object.__class__") "__get__") (some (some (.builtin "getset_descriptor.__get__"))), boO (PySem.W.takesIn K (.builtin "object.__class__")) (some true), boO (PySem.W.mroIn K (ga K (cnm c)) (.type "object")) (some true), (PySem.W.clsIn K (ga K (cnm c))).isSome][i]? = some b) : b = true := List.all_eq_true.mp h b (List.mem_of_getElem? e)
theorem excB_xf {file : Str} {c : Nat} (h : excB file c K = true) : XfC K (ga K (cnm c)) := ⟨eqO_ok (excB_get h 13 rfl), eqO_ok (excB_get h 14 rfl), of_decide_eq_true (excB_get h 2 rfl), excB_get h 15 rfl⟩
theorem excB_xi {file : Str} {c : Nat} (h : excB file c K = true) : XiC K (ga K (cnm c)) :=
  ⟨excB_get h 20 rfl, eqO_ok (excB_get h 13 rfl), eqO_ok (excB_get h 14 rfl), of_decide_eq_true (excB_get h 2 rfl), eqO_ok (excB_get h 16 rfl), eqO_ok (excB_get h 17 rfl), of_decide_eq_true (excB_get h 18 rfl), of_decide_eq_true (excB_get h 19 rfl)⟩
theorem excB_T {file : Str} {c : Nat} (h : excB file c K = true) : OexC K (ga K (cnm c)) := ⟨oexB_ok (excB_get h 0 rfl), eqO_ok (excB_get h 1 rfl), of_decide_eq_true (excB_get h 2 rfl), of_decide_eq_true (excB_get h 3 rfl), excB_get h 4 rfl⟩
theorem excB_init {file : Str} {c : Nat} (h : excB file c K = true) : PySem.W.findIn K (.ref (ga K (cnm c))) "__init__" = some (some (.ref (ma K (ga K (cnm c)) "__init__"))) ∧ PySem.W.typeIn K (.ref (ma K (ga K (cnm c)) "__init__")) = some (.type "function") := ⟨eqO_ok (excB_get h 5 rfl), of_decide_eq_true (excB_get h 6 rfl)⟩
theorem excB_no {file : Str} {c : Nat} (h : excB file c K = true) : ∀ i ∈ flT c, PySem.W.findIn K (.ref (ga K (cnm c))) (nmT i) = some none := fun i hi => eqO_ok (List.all_eq_true.mp (excB_get h 7 rfl) i hi)
/-- THE ERROR's promise, of what the text says -/
structure ErrOk (P0 : Program) (w : World) (K : PySem.W.Frag) (mg : Str → Option Value) (base : Heap) (k c : Nat) : Prop where
  ex : ∃ (fI : Addr) (fd : FuncData), OexC K (ga K (cnm c)) ∧ PySem.W.findIn K (.ref (ga K (cnm c))) "__init__" = some (some (.ref fI)) ∧ PySem.W.typeIn K (.ref fI) = some (.type "function") ∧
    FnOk P0 w K mg base (L2.CX P0 w) k fI fd (("self" : Str) :: (flT c).reverse.map nmT) (spX (ga K (cnm c)) (flT c).reverse) ∧ Binds K fd (("self" : Str) :: (flT c).reverse.map nmT) []
theorem err_ok {P0 : Program} {w : World} {mg : Str → Option Value} {base : Heap} {c k : Nat} {fa : List Chk} {fn : List DX} {d : DX} {msg : Str} {jc : Nat} {p1 p2 p3 p4 p5 p6 : Pos} {sto : List (Nat × P4)} (sy : SaysX fa fn K) (i j : Nat) (hi : fa[i]? = some (excB P0.main.file c)) (hj : fn[j]? = some d) (hcl : d.cl = [("__class__" : Str)])
    (hat : d.at_ = (cnm c, some ("__init__" : Str))) (hsc : nscB (("self" : Str) :: ((flT c).reverse.map nmT ++ [("__class__" : Str)])) (("self" : Str) :: (flT c).reverse.map nmT) [("__class__" : Str)] (defScope d.st) = true) (hsup : (defScope d.st).names.lookup ("super" : Str) = some .globalImplicit) (htop : (P0.main.scope.names.lookup ("super" : Str)).isSome = false)
    (hps : ((defArgs d.st).posonlyargs ++ (defArgs d.st).args).head?.map (·.arg) = some ("self" : Str)) (hms : mg "super" = none) (hb : defBody d.st = .Expr (.Call (.Attribute (.Call (.Name "super" p1) [] [] p2) "__init__" p3) [.Constant (.str msg) jc p4] [] p5) p6 :: stoOf sto) (hln : (p3.endLine == p5.line) = true) (hs : sto.map (·.1) = (flT c).reverse)
    (hne : flT c ≠ []) (hnd : (flT c).reverse.Nodup) (hbt : bootBuiltins "super" = some (.type "super"))
    (hbd : ∀ (nm qual : Str) (body : List Stmt) (kV doc pm : Value) (an : Option Addr) (cdv ct : Value) (cc : Addr) (us : List Value), us.length = (("self" : Str) :: (flT c).reverse.map nmT).length → bindArgs (PySem.W.ksFn nm qual (defArgs d.st) body (defScope d.st) .none kV doc pm an cdv ct cc) ⟨us, []⟩ = pure ((("self" : Str) :: (flT c).reverse.map nmT).zip us)) :
    ErrOk P0 w K mg base (k + 1) c := by
  have h := sy.fact i hi
  obtain ⟨e, ok⟩ := sy.val_ j hj
  obtain ⟨oc, od, osl, cc, kV, doc, pm, an, cdv, ct, lk, hcd, kp⟩ := dx_cls e ok hcl
  have hf : fAd K d.at_ = ma K (ga K (cnm c)) "__init__" := by rw [hat]; rfl
  rw [hf] at lk
  have hcel : celB (ga K (cnm c)) (ma K (ga K (cnm c)) "__init__") P0.main.file K = true := excB_get h 8 rfl
  unfold celB at hcel
  rw [lk] at hcel
  dsimp only at hcel
  cases cdv with
  | ref cda =>
    dsimp only at hcel
    split at hcel
    · rename_i cl cld D csl ccl cdd vs ccs q1 q2
      obtain ⟨z1, z2⟩ := ba hcel
      have eD := beq_iff_eq.mp z1
      subst eD
      unfold fileB at z2
      split at z2
      · rename_i f tf q3
        have EF : ExFacts K (ga K (cnm c)) (ma K (ga K (cnm c)) "__init__") cc cda P0 d.qual (defArgs d.st) (defScope d.st) (flT c).reverse :=
          ⟨excB_T h, (excB_init h).1, (excB_init h).2, fun i hi => excB_no h i (List.mem_reverse.mp hi), nscope_by hsc, hsup, by rw [List.length_reverse]; exact flT_few c, ⟨cl, cld, csl, q1⟩, ⟨ccl, cdd, vs, ccs, f, tf, q2, q3, z2⟩, htop, hps, of_decide_eq_true (excB_get h 9 rfl),
            eqO_ok (excB_get h 10 rfl), eqO_ok (excB_get h 11 rfl), of_decide_eq_true (excB_get h 12 rfl)⟩
        exact ⟨_, _, excB_T h, (excB_init h).1, (excB_init h).2, fn_exc EF lk hcd hb hln hs (fun z => hne (List.reverse_eq_nil_iff.mp z)) hnd hms hbt, .all (hbd _ _ _ _ _ _ _ _ _ _)⟩
      · cases z2
    · cases hcel
  | _ => cases hcel
end
end DN

end
section
set_option Elab.async false
set_option linter.all false
set_option maxRecDepth 100000
set_option maxHeartbeats 4000000
/-! E6: the rules in the shape in which the printed derivations use them. -/
namespace DN
open PySem PySem.Spec PyProof.Rows L2 He NdefX
theorem bt_len : bootBuiltins "len" = some (.builtin "len") := by decide +kernel
theorem bt_sum : bootBuiltins "sum" = some (.builtin "sum") := by decide +kernel
theorem bt_max : bootBuiltins "max" = some (.builtin "max") := by decide +kernel
theorem bt_any : bootBuiltins "any" = some (.builtin "any") := by decide +kernel
theorem bt_all : bootBuiltins "all" = some (.builtin "all") := by decide +kernel
theorem bt_sorted : bootBuiltins "sorted" = some (.builtin "sorted") := by decide +kernel
theorem bt_isinstance : bootBuiltins "isinstance" = some (.builtin "isinstance") := by decide +kernel
theorem bt_int : bootBuiltins "int" = some (.type "int") := by decide +kernel
theorem bt_str : bootBuiltins "str" = some (.type "str") := by decide +kernel
theorem bt_bool : bootBuiltins "bool" = some (.type "bool") := by decide +kernel
theorem bt_list : bootBuiltins "list" = some (.type "list") := by decide +kernel
theorem bt_tuple : bootBuiltins "tuple" = some (.type "tuple") := by decide +kernel
theorem bt_dict : bootBuiltins "dict" = some (.type "dict") := by decide +kernel
theorem bt_super : bootBuiltins "super" = some (.type "super") := by decide +kernel
theorem bt_ValueError : bootBuiltins "ValueError" = some (.type "ValueError") := by decide +kernel
theorem hu65 {k : Nat} {A : Around} (h : Room k A) : A.units + 65 < cLine := by have := h.un; omega
theorem hu64 {k : Nat} {A : Around} (h : Room k A) : A.units + 64 < cLine := by have := h.un; omega
section
variable {X : Cx} {g : G} {W : WX} {a b c e o : Expr} {fa fb fc f : Tau → M D} {p pos apos : Pos} {es : List Expr} {fs : Tau → M (List D)} {k n : Nat} {fn : List D → M D}
theorem tk_never (h : ∀ u s, X.xe u s ↔ False := by intro _ _; exact Iff.rfl) : Takes X W0 := fun u s q => by
  obtain ⟨a, B, sI, pins, σ, H, cls, d, _, _, _, _, _, _, _, _, w⟩ := q
  exact w.elim
/-! ### constants of the module -/
theorem de_gstr {x z : Str} (hg : Gl X x) (hm : ∃ t, X.mg x = some (.str z t)) (hd : (x == ("__debug__" : Str)) = false := by decide) : PE X (.Name x pos) (tE g W (retD (.v (.str z)))) := by
  obtain ⟨t, hm⟩ := hm
  exact PE.weak (pe_glob (v := .str z) hg hm ⟨t, rfl⟩ hd) fun σ H Q h => Sat.ret h (fun _ _ => rfl) fun _ _ _ _ => Is.str z
theorem de_gint {x : Str} {z : Int} (hg : Gl X x) (hm : ∃ t, X.mg x = some (.int z t)) (hd : (x == ("__debug__" : Str)) = false := by decide) : PE X (.Name x pos) (tE g W (retD (.v (.int z)))) := by
  obtain ⟨t, hm⟩ := hm
  exact PE.weak (pe_glob (v := .int z) hg hm ⟨t, rfl⟩ hd) fun σ H Q h => Sat.ret h (fun _ _ => rfl) fun _ _ _ _ => Is.int z
/-! ### -x -/
def negD : D → M D := fun d L => match d with
  | .v (.int i) => some (.ok (.v (.int (-i))), L)
  | _ => none
theorem de_neg (he : PE X e (tE g W f)) : PE X (.UnaryOp .USub e pos) (tE g W (un negD f)) := by
  refine PE.weak (pe_un un_neg he) fun σ H Q h => ?_
  refine (Sat.bindV h).mono fun x H1 h1 => ?_
  obtain ⟨d, F, ρ, τ, L, hR, hS, hc, hp⟩ := h1
  have hx := hc (x, d) (by simp)
  unfold negD at hp
  split at hp
  · rename_i i
    exact ⟨i, Is.inv_int hx, hp.val hR (Is.int _)⟩
  · exact False.elim hp
/-! ### own defs -/
/-- a def of the text that keeps its promise -/
structure FnD (P0 : Program) (w : World) (K : PySem.W.Frag) (mg : Str → Option Value) (base : Heap) (g : G) (f : Addr) (k n : Nat) (fn : List D → M D) : Prop where
  ex : ∃ (fd : FuncData) (ps : List Str), FnOk P0 w K mg base (L2.CX P0 w) k f fd ps (spF g n fn) ∧ Binds K fd ps []
  kp : PySem.W.keepIn K (.ref f) = true
theorem de_callX {x : Str} {fad : Addr} (FO : FnD X.prog X.w X.K X.mg X.base g fad k n fn) (hr : Room k X.A) (hg : Gl X x) (hm : X.mg x = some (.ref fad)) (tk : Takes X W) (ha : PA X (e :: es) (tA g W fs)) (hdb : (x == ("__debug__" : Str)) = false := by decide)
    (he : starEach (e :: es) X.env = (false, eval e X.env) :: starEach es X.env := by rfl) (hpl : (backTo pos (starEach es X.env)).any (·.1) = false := by rfl) : PE X (.Call (.Name x p) (e :: es) [] pos) (tE g W (appA (arN n fn) fs)) := by
  obtain ⟨⟨fd, ps, FO1, hb⟩, kp⟩ := FO
  exact de_call FO1 hr hg hm kp hb tk ha hdb he hpl
theorem de_makeX {x : Str} {fad : Addr} {frz : Bool} {cn : Nat} (hK : X.K = g.K := by rfl) (hC : ClsF g cn) (MK : Mk X.K (g.cl cn) fad) (FO : FnD X.prog X.w X.K X.mg X.base g fad k n fn) (hr : Room (k + 1) X.A) (hg : Gl X x) (hm : X.mg x = some (.ref (g.cl cn))) (tk : Takes X W)
    (ha : PA X (e :: es) (tA g W fs)) (hdb : (x == ("__debug__" : Str)) = false := by decide) (he : starEach (e :: es) X.env = (false, eval e X.env) :: starEach es X.env := by rfl) (hpl : (backTo pos (starEach es X.env)).any (·.1) = false := by rfl) :
    PE X (.Call (.Name x p) (e :: es) [] pos) (tE g W (appA (makF frz cn n fn) fs)) := by
  obtain ⟨⟨fd, ps, FO1, hb⟩, kp⟩ := FO
  exact de_make hK hC MK FO1 hr hg hm hb tk ha hdb he hpl
theorem de_makeX0 {x : Str} {fad : Addr} {frz : Bool} {cn : Nat} (hK : X.K = g.K := by rfl) (hC : ClsF g cn) (MK : Mk X.K (g.cl cn) fad) (FO : FnD X.prog X.w X.K X.mg X.base g fad k n fn) (hr : Room (k + 1) X.A) (hg : Gl X x) (hm : X.mg x = some (.ref (g.cl cn))) (tk : Takes X W)
    (hdb : (x == ("__debug__" : Str)) = false := by decide) : PE X (.Call (.Name x p) [] [] pos) (tE g W (appA (makF frz cn n fn) nilA)) := by
  obtain ⟨⟨fd, ps, FO1, hb⟩, kp⟩ := FO
  exact de_make0 hK hC MK FO1 hr hg hm hb tk hdb
theorem mok_of {P0 : Program} {w : World} {K : PySem.W.Frag} {mg : Str → Option Value} {base : Heap} {m : Str} {f : Addr} {j : Nat} (hm : Meth K (g.cl n) m f) (FO : FnD P0 w K mg base g f j k fn) {i : Nat} (hj : j ≤ i) (hno : ∀ q ∈ flT n, nmT q ≠ m) : MOk P0 w K mg base g m i n k fn := by
  obtain ⟨⟨fd, ps, FO1, hb⟩, kp⟩ := FO
  exact ⟨⟨f, fd, ps, hm, FO1.mono hj, hb⟩, hno⟩
theorem sok_of {P0 : Program} {w : World} {K : PySem.W.Frag} {mg : Str → Option Value} {base : Heap} {m : Str} {f : Addr} {j : Nat} (hm : Meth K (g.cl n) m f) (hf : PySem.W.fnIn K f = true) (FO : FnD P0 w K mg base g f j k fn) {i : Nat} (hj : j ≤ i) : SOk P0 w K mg base g m i n k fn := by
  obtain ⟨⟨fd, ps, FO1, hb⟩, kp⟩ := FO
  obtain ⟨m1, m2, m3⟩ := hm
  exact ⟨⟨f, fd, ps, m1, m2, hf, FO1.mono hj, hb⟩⟩
/-! ### raise -/
theorem ds_raiseX {x : Str} {c : Nat} {K : PySem.W.Frag} {w : World} {fs : Tau → M (List D)} {pos2 : Pos} (ER : ErrOk X.prog X.w X.K X.mg X.base k c) (hK : X.K = K) (hc : X.calm = true) (tk : Takes X W) (hr : Room (k + 1) X.A) (hg : Gl X x) (hm : X.mg x = some (.ref (ga X.K (cnm c)))) (ha : PA X (e :: es) (tA (gOf K w) W fs))
    (hdb : (x == ("__debug__" : Str)) = false := by decide) (hst : starEach (e :: es) X.env = (false, eval e X.env) :: starEach es X.env := by rfl) (hpl : (backTo pos (starEach es X.env)).any (·.1) = false := by rfl) :
    PS X (.Raise (some (.Call (.Name x p) (e :: es) [] pos)) none pos2) (tS (gOf K w) W (raiseS c fs)) := by
  subst hK
  obtain ⟨fI, fd, T, iC, tI, FO, hb⟩ := ER.ex
  exact ds_raise hc tk T iC tI FO hr hb hg hm (Nat.le_trans (Nat.le_of_lt (flT_few c)) (by decide)) ha hdb hst hpl
/-! ### isinstance's tables -/
theorem is_of {K : PySem.W.Frag} {w : World} {tab : Tg → Option Bool} {u : Value} (cs : List Nat) (hc : ∀ c b, tab (.ins c) = some b → c ∈ cs)
    (h6 : (∀ b, tab .non = some b → PySem.W.kitOne (gOf K w).K (tgV (gOf K w) .non) u = some b) ∧ (∀ b, tab .bl = some b → PySem.W.kitOne (gOf K w).K (tgV (gOf K w) .bl) u = some b) ∧ (∀ b, tab .int = some b → PySem.W.kitOne (gOf K w).K (tgV (gOf K w) .int) u = some b) ∧
      (∀ b, tab .str = some b → PySem.W.kitOne (gOf K w).K (tgV (gOf K w) .str) u = some b) ∧ (∀ b, tab .lst = some b → PySem.W.kitOne (gOf K w).K (tgV (gOf K w) .lst) u = some b) ∧ ∀ b, tab .tup = some b → PySem.W.kitOne (gOf K w).K (tgV (gOf K w) .tup) u = some b)
    (hi : ∀ c ∈ cs, ∀ b, tab (.ins c) = some b → PySem.W.kitOne (gOf K w).K (tgV (gOf K w) (.ins c)) u = some b) : ∀ t b, tab t = some b → PySem.W.kitOne (gOf K w).K (tgV (gOf K w) t) u = some b := by
  obtain ⟨h1, h2, h3, h4, h5, h6⟩ := h6
  intro t b e
  cases t with
  | non => exact h1 b e
  | bl => exact h2 b e
  | int => exact h3 b e
  | str => exact h4 b e
  | lst => exact h5 b e
  | tup => exact h6 b e
  | ins c => exact hi c (hc c b e) b e
/-! ### the law's end -/
theorem fnok_cx {P : Program} {w : World} {K : PySem.W.Frag} {mg : Str → Option Value} {base : Heap} {CX CX' : CXT} {k : Nat} {f : Addr} {fd : FuncData} {ps : List Str} {sp : Sp} (F : FnOk P w K mg base CX k f fd ps sp) (h : ∀ outer H s E u s', CX outer H s E u s' → CX' outer H s E u s') : FnOk P w K mg base CX' k f fd ps sp :=
  ⟨F.len, fun A outer s H args us vs Q E hr he hb hv hs => codeAny_mono (F.run A outer s H args us vs Q E hr he hb hv hs) fun r s' hq => by
    match r, hq with
    | .error e, hq => exact h _ _ _ _ _ _ hq
    | .ok (.ret u), hq => exact hq
    | .ok .next, hq => exact hq
    | .ok .brk, hq => exact hq
    | .ok .cont, hq => exact hq⟩
def CXA (P : Program) : CXT := fun outer H s E u s' => ∃ w, L2.CX P w outer H s E u s'
theorem cxa_no {P : Program} (H : Hp) (s : Shared) (e : Value) (s' : Shared) (h : CXA P [] H s (fun _ _ _ => False) e s') : False := by
  obtain ⟨w, a, B, H', cls, d, _, _, _, _, _, _, _, q⟩ := h
  exact q
/-- the law's promise, at a list of whole numbers -/
theorem law_end {g : G} {fn : List D → M D} {ns : List Int} (h : ∃ L1, fn [.v (.scr ns)] [] = some (.ok (.v (.bl true)), L1)) {H : Hp} {a : Addr} (hS : SqL g.K H a (ns.map V.int)) {Q : VK} {E : XK} (hQ : ∀ H', Q (.bl true) H') : spF g 1 fn [.ref a] H Q E := by
  obtain ⟨L1, h⟩ := h
  refine ⟨fun b => if b = a then H a else none, fun _ => 0, [], [.v (.scr ns)], ⟨fun b o e => ?_, fun i m e => by simp at e, fun i j m m' e => by simp at e⟩, .cons ?_ .nil, rfl, ?_⟩
  · by_cases hb : b = a
    · rw [hb] at e ⊢
      simpa using e
    · simp [hb] at e
  · show Is g _ (.ref a) (.scr ns)
    refine Is.scr ?_
    rcases hS with (hS | ⟨o, hS⟩) | hS
    · exact .inl (.inl (by simpa using hS))
    · exact .inl (.inr ⟨o, by simpa using hS⟩)
    · exact .inr hS
  · rw [h]
    exact fun F' ρ' b H' _ _ hb => by
      have := Is.inv_bl hb
      rw [this]
      exact hQ H'
end
end DN
namespace DN
open PySem
theorem le_line (n : Nat) (h : n ≤ 1000) : n ≤ sizeLine := by rw [sizeLine_eq]; omega
end DN

end
section
set_option Elab.async false
set_option linter.all false
set_option maxRecDepth 100000
set_option maxHeartbeats 4000000
/-! E7: laws of the denotations: scopes, loops, comprehensions. -/
namespace DN
open PySem
open L2 (ixN atI)
theorem Older.refl (L : List MO) : Older L L := ⟨Nat.le_refl _, fun i m _ e => .inl e⟩
theorem older_set {L : List MO} {n : Nat} {xs : List P} : Older L (L.set n (.lst xs)) := by
  refine ⟨by simp, fun i m hi e => ?_⟩
  by_cases h : n = i
  · subst h
    rw [List.getElem?_set_self hi] at e
    cases e
    exact .inr trivial
  · rw [List.getElem?_set_ne h] at e
    exact .inl e
theorem older_app {L L1 : List MO} (X : List MO) (h : Older L L1) : Older L (L1 ++ X) := by
  refine ⟨by rw [List.length_append]; have := h.1; omega, fun i m hi e => ?_⟩
  rw [List.getElem?_append_left (by have := h.1; omega)] at e
  exact h.2 i m hi e
theorem Older.trans {L L1 L2 : List MO} (a : Older L L1) (b : Older L1 L2) (h : L.length = L1.length) : Older L L2 := by
  refine ⟨by have := a.1; have := b.1; omega, fun i m hi e => ?_⟩
  rcases b.2 i m (by omega) e with q | q
  · exact a.2 i m hi q
  · exact .inr (by rw [h]; exact q)
theorem scope_v {keep : Bool} {f : List D → M D} {ds : List D} {L L1 : List MO} {p : P} (h : f ds L = some (.ok (.v p), L1)) (ho : Older L L1) : scopeF keep f ds L = some (.ok (.v p), L1.take L.length) := by
  unfold scopeF
  rw [h]
  exact if_pos ho
theorem scope_s {keep : Bool} {f : List D → M D} {ds : List D} {L L1 : List MO} {p : P} (h : f ds L = some (.ok (.v p), L1)) (ho : Older L L1) (hl : L1.length = L.length) : scopeF keep f ds L = some (.ok (.v p), L1) := by
  rw [scope_v h ho, List.take_of_length_le (Nat.le_of_eq hl)]
/-- what was laid anew is let go -/
theorem scope_x {keep : Bool} {f : List D → M D} {ds : List D} {L L1 X : List MO} {p : P} (h : f ds L = some (.ok (.v p), L1 ++ X)) (ho : Older L L1) (hl : L1.length = L.length) : scopeF keep f ds L = some (.ok (.v p), L1) := by
  rw [scope_v h (older_app X ho), ← hl, List.take_left']
  rfl
theorem scope_ex {keep : Bool} {f : List D → M D} {ds : List D} {L L1 : List MO} {c : Nat} {fs : List P} (h : f ds L = some (.ex c fs, L1)) (ho : Older L L1) (hl : L1.length = L.length) : scopeF keep f ds L = some (.ex c fs, L1) := by
  unfold scopeF
  rw [h]
  dsimp only
  rw [if_pos ho, List.take_of_length_le (Nat.le_of_eq hl)]
/-- a list that was laid anew comes out frozen -/
theorem scope_f {f : List D → M D} {ds : List D} {L L1 X : List MO} {n : Nat} {xs : List P} (h : f ds L = some (.ok (.r n), L1 ++ X)) (ho : Older L L1) (hl : L1.length = L.length) (hn : L.length ≤ n) (he : X[n - L.length]? = some (.lst xs)) : scopeF false f ds L = some (.ok (.v (.lst xs)), L1) := by
  unfold scopeF
  rw [h]
  dsimp only
  rw [if_pos (older_app X ho), if_neg (by omega), List.getElem?_append_right (by omega), hl, he]
  dsimp only
  rw [if_neg Bool.false_ne_true, ← hl, List.take_left']
  rfl
theorem scope_k {f : List D → M D} {ds : List D} {L L1 X : List MO} {n : Nat} {xs : List P} (h : f ds L = some (.ok (.r n), L1 ++ X)) (ho : Older L L1) (hl : L1.length = L.length) (hn : L.length ≤ n) (he : X[n - L.length]? = some (.lst xs)) : scopeF true f ds L = some (.ok (.r L.length), L1 ++ [.lst xs]) := by
  unfold scopeF
  rw [h]
  dsimp only
  rw [if_pos (older_app X ho), if_neg (by omega), List.getElem?_append_right (by omega), hl, he]
  dsimp only
  rw [if_pos rfl, ← hl, List.take_left']
  rfl
theorem seq_nx {f1 f2 : SX} {τ τ1 : Tau} {L L1 : List MO} (h : f1 τ L = some (.nx τ1, L1)) : seqS f1 f2 τ L = f2 τ1 L1 := by
  unfold seqS
  rw [h]
theorem body_rt {N : Nat} {s : SX} {ds : List D} {L L1 : List MO} {d : D} (h : s (ds.map some ++ List.replicate (N - ds.length) none) L = some (.rt d, L1)) : bodyF N s ds L = some (.ok d, L1) := by
  unfold bodyF
  rw [h]
theorem body_nx {N : Nat} {s : SX} {ds : List D} {L L1 : List MO} {τ : Tau} (h : s (ds.map some ++ List.replicate (N - ds.length) none) L = some (.nx τ, L1)) : bodyF N s ds L = some (.ok (.v .non), L1) := by
  unfold bodyF
  rw [h]
theorem body_ex {N : Nat} {s : SX} {ds : List D} {L L1 : List MO} {τ : Tau} {c : Nat} {fs : List P} (h : s (ds.map some ++ List.replicate (N - ds.length) none) L = some (.ex τ c fs, L1)) : bodyF N s ds L = some (.ex c fs, L1) := by
  unfold bodyF
  rw [h]
/-! ### for -/
theorem for_run {ok : List MO → Prop} {tg : TgD} {body : SX} {J : Nat → Tau → List MO → Prop} {E : Option (Out × List MO) → Prop} : ∀ (xs : List P) (i0 : Nat) (τ : Tau) (L : List MO), J i0 τ L → (∀ i τ L, J i τ L → ok L) →
    (∀ (i : Nat) (p : P) (τ : Tau) (L : List MO), xs[i]? = some p → J (i0 + i) τ L → ∃ τ1, tg p τ = some τ1 ∧ ((∃ τ2 L2, (body τ1 L = some (.nx τ2, L2) ∨ body τ1 L = some (.ct τ2, L2)) ∧ J (i0 + i + 1) τ2 L2) ∨ (E (body τ1 L) ∧ ((∃ τ' c fs L', body τ1 L = some (.ex τ' c fs, L')) ∨ ∃ d L', body τ1 L = some (.rt d, L'))))) →
    (∃ τ' L', forG ok tg body xs τ L = some (.nx τ', L') ∧ J (i0 + xs.length) τ' L') ∨ E (forG ok tg body xs τ L)
  | [], i0, τ, L, h0, hok, _ => by
    refine .inl ⟨τ, L, ?_, h0⟩
    unfold forG
    rw [if_pos (hok _ _ _ h0)]
  | p :: ps, i0, τ, L, h0, hok, hs => by
    obtain ⟨τ1, e1, h⟩ := hs 0 p τ L rfl h0
    unfold forG
    rw [if_pos (hok _ _ _ h0), e1]
    dsimp only
    rcases h with ⟨τ2, L2, e2, hJ⟩ | ⟨hE, h⟩
    · have ih := for_run (E := E) ps (i0 + 1) τ2 L2 hJ hok fun i q τ L e hj => by
        have := hs (i + 1) q τ L e (by rw [show i0 + (i + 1) = i0 + 1 + i by omega]; exact hj)
        rw [show i0 + (i + 1) = i0 + 1 + i by omega] at this
        exact this
      rw [show i0 + (p :: ps).length = i0 + 1 + ps.length by rw [List.length_cons]; omega]
      rcases e2 with e2 | e2
      · rw [e2]
        exact ih
      · rw [e2]
        exact ih
    · right
      rcases h with ⟨τ', c, fs, L', e⟩ | ⟨d, L', e⟩
      · rw [e] at hE ⊢
        exact hE
      · rw [e] at hE ⊢
        exact hE
/-- .. that runs to its end -/
theorem for_all {ok : List MO → Prop} {tg : TgD} {body : SX} (J : Nat → Tau → List MO → Prop) {xs : List P} {τ : Tau} {L : List MO} (h0 : J 0 τ L) (hok : ∀ i τ L, J i τ L → ok L)
    (hs : ∀ (i : Nat) (p : P) (τ : Tau) (L : List MO), xs[i]? = some p → J i τ L → ∃ τ1, tg p τ = some τ1 ∧ ∃ τ2 L2, (body τ1 L = some (.nx τ2, L2) ∨ body τ1 L = some (.ct τ2, L2)) ∧ J (i + 1) τ2 L2) : ∃ τ' L', forG ok tg body xs τ L = some (.nx τ', L') ∧ J xs.length τ' L' := by
  have := for_run (J := J) (E := fun _ => False) (ok := ok) (tg := tg) (body := body) xs 0 τ L h0 hok fun i p τ L e hj => by
    rw [Nat.zero_add] at hj
    obtain ⟨τ1, e1, h⟩ := hs i p τ L e hj
    rw [Nat.zero_add]
    exact ⟨τ1, e1, .inl h⟩
  rw [Nat.zero_add] at this
  exact this.resolve_right id
theorem forS_of {src : Tau → M Itm} {tg : TgD} {body : SX} {τ : Tau} {L L1 : List MO} {it : Itm} (h : src τ L = some (.ok it, L1)) : forS src tg body τ L = forG it.2 tg body it.1 τ L1 := by
  unfold forS eThen
  rw [h]
/-! ### comprehensions -/
/-- each turn may change the ledger's older part -/
theorem lcG_run {ok : List MO → Prop} {turn : P → Tau → M (Option P)} {n : Nat} {τ : Tau} {J : List MO → Prop} {R : P → P → Prop} : ∀ (xs : List P) (L : List MO) (acc : List P), L.length = n → J L → (∀ L, ok L) → acc.length + xs.length ≤ sizeLine →
    (∀ p ∈ xs, ∀ (L : List MO) (acc : List P), L.length = n → J L → ∃ q L', turn p τ (L ++ [.lst acc]) = some (.ok (some q), L' ++ [.lst acc]) ∧ L'.length = n ∧ J L' ∧ R p q) →
    ∃ L' qs, lcG ok turn n τ xs (L ++ [.lst acc]) = some (L' ++ [.lst (acc ++ qs)]) ∧ L'.length = n ∧ J L' ∧ Paired R xs qs
  | [], L, acc, hl, hj, hok, _, _ => ⟨L, [], by unfold lcG; rw [if_pos (hok _), List.append_nil], hl, hj, .nil⟩
  | p :: ps, L, acc, hl, hj, hok, hz, hs => by
    obtain ⟨q, L1, e1, l1, j1, r1⟩ := hs p List.mem_cons_self L acc hl hj
    rw [List.length_cons] at hz
    obtain ⟨L', qs, e2, l2, j2, r2⟩ := lcG_run (R := R) ps L1 (acc ++ [q]) l1 j1 hok (by rw [List.length_append, List.length_singleton]; omega) fun p hp => hs p (List.mem_cons_of_mem _ hp)
    refine ⟨L', q :: qs, ?_, l2, j2, .cons r1 r2⟩
    unfold lcG
    rw [if_pos (hok _), e1]
    dsimp only
    have e3 : (L1 ++ [MO.lst acc])[n]? = some (.lst acc) := by rw [← l1, List.getElem?_append_right (Nat.le_refl _), Nat.sub_self]; rfl
    rw [e3]
    dsimp only
    rw [if_pos (by omega)]
    have e4 : (L1 ++ [MO.lst acc]).set n (.lst (acc ++ [q])) = L1 ++ [.lst (acc ++ [q])] := by
      rw [← l1, List.set_append_right _ _ (Nat.le_refl _), Nat.sub_self]
      rfl
    rw [e4, e2, List.append_assoc]
    rfl
theorem lc_run {src : Tau → M Itm} {vs : List Nat} {tg : TgD} {tt : Tau → M Bool} {fe : Tau → M D} {τ : Tau} {L L0 : List MO} {xs : List P} {J : List MO → Prop} {R : P → P → Prop} (hsrc : src τ L = some (.ok (xs, fun _ => True), L0)) (hz : xs.length ≤ sizeLine) (hJ : J L0) (hO : ∀ L', J L' → L'.length = L0.length → Older L0 L')
    (hs : ∀ p ∈ xs, ∀ (L : List MO) (acc : List P), L.length = L0.length → J L → ∃ q L', lcT tg tt fe p (killT vs τ) (L ++ [.lst acc]) = some (.ok (some q), L' ++ [.lst acc]) ∧ L'.length = L0.length ∧ J L' ∧ R p q) :
    ∃ L' qs, lcS false src vs tg tt fe τ L = some (.ok (.v (.lst qs)), L') ∧ L'.length = L0.length ∧ J L' ∧ Paired R xs qs := by
  obtain ⟨L', qs, e, l, j, r⟩ := lcG_run (ok := fun _ => True) (turn := lcT tg tt fe) (τ := killT vs τ) (R := R) xs L0 [] rfl hJ (fun _ => trivial) (by simpa using hz) hs
  refine ⟨L', qs, ?_, l, j, r⟩
  show M.bnd (src τ) (fun it => lcE false (lcT tg tt fe) (killT vs τ) it) L = _
  unfold M.bnd
  rw [hsrc]
  dsimp only
  unfold lcE
  dsimp only
  rw [e]
  unfold lcFin
  dsimp only
  rw [if_neg Bool.false_ne_true, List.getElem?_append_right (by omega), l, Nat.sub_self]
  dsimp only [List.getElem?_cons_zero, List.nil_append]
  rw [if_pos (older_app _ (hO L' j l)), ← l, List.take_left']
  rfl
/-- .. with a test, nothing changed -/
theorem lcG_pure {ok : List MO → Prop} {turn : P → Tau → M (Option P)} {n : Nat} {τ : Tau} {f : P → Option P} {L : List MO} (hl : L.length = n) (hok : ∀ L, ok L) : ∀ (xs : List P) (acc : List P), acc.length + xs.length ≤ sizeLine →
    (∀ p ∈ xs, ∀ acc : List P, turn p τ (L ++ [.lst acc]) = some (.ok (f p), L ++ [.lst acc])) → lcG ok turn n τ xs (L ++ [.lst acc]) = some (L ++ [.lst (acc ++ xs.filterMap f)])
  | [], acc, _, _ => by unfold lcG; rw [if_pos (hok _)]; simp
  | p :: ps, acc, hz, hs => by
    rw [List.length_cons] at hz
    unfold lcG
    rw [if_pos (hok _), hs p List.mem_cons_self acc]
    cases e : f p with
    | none =>
      dsimp only
      rw [lcG_pure hl hok ps acc (by omega) fun p hp => hs p (List.mem_cons_of_mem _ hp), List.filterMap_cons, e]
    | some q =>
      dsimp only
      have e3 : (L ++ [MO.lst acc])[n]? = some (.lst acc) := by rw [← hl, List.getElem?_append_right (Nat.le_refl _), Nat.sub_self]; rfl
      rw [e3]
      dsimp only
      rw [if_pos (by omega)]
      have e4 : (L ++ [MO.lst acc]).set n (.lst (acc ++ [q])) = L ++ [.lst (acc ++ [q])] := by
        rw [← hl, List.set_append_right _ _ (Nat.le_refl _), Nat.sub_self]
        rfl
      rw [e4, lcG_pure hl hok ps (acc ++ [q]) (by rw [List.length_append, List.length_singleton]; omega) fun p hp => hs p (List.mem_cons_of_mem _ hp), List.filterMap_cons, e, List.append_assoc]
      rfl
theorem lc_pure {src : Tau → M Itm} {vs : List Nat} {tg : TgD} {tt : Tau → M Bool} {fe : Tau → M D} {τ : Tau} {L L0 : List MO} {xs : List P} {ok : List MO → Prop} {f : P → Option P} (hsrc : src τ L = some (.ok (xs, ok), L0)) (hok : ∀ acc, ok (L0 ++ [.lst acc])) (hok2 : ∀ L, ok L) (hz : xs.length ≤ sizeLine)
    (hs : ∀ p ∈ xs, ∀ acc : List P, lcT tg tt fe p (killT vs τ) (L0 ++ [.lst acc]) = some (.ok (f p), L0 ++ [.lst acc])) : lcS false src vs tg tt fe τ L = some (.ok (.v (.lst (xs.filterMap f))), L0) := by
  show M.bnd (src τ) (fun it => lcE false (lcT tg tt fe) (killT vs τ) it) L = _
  unfold M.bnd
  rw [hsrc]
  dsimp only
  unfold lcE
  dsimp only
  rw [lcG_pure rfl hok2 xs [] (by simpa using hz) hs]
  unfold lcFin
  dsimp only
  rw [if_neg Bool.false_ne_true, List.getElem?_append_right (Nat.le_refl _), Nat.sub_self]
  dsimp only [List.getElem?_cons_zero, List.nil_append]
  rw [if_pos (older_app _ (Older.refl _)), List.take_left']
  rfl
end DN

end
section
set_option linter.all false
namespace DN
open PySem
theorem tup_0 (L : List MO) : tupD [] L = some (.ok (.v (.tup [])), L) := by
  have e : asPs [] = some [] := rfl
  unfold tupD
  rw [e]
  exact if_pos (le_line 0 (by decide))
theorem tup_1 (a0 : P) (L : List MO) : tupD [.v a0] L = some (.ok (.v (.tup [a0])), L) := by
  have e : asPs [.v a0] = some [a0] := rfl
  unfold tupD
  rw [e]
  exact if_pos (le_line 1 (by decide))
theorem tup_2 (a0 a1 : P) (L : List MO) : tupD [.v a0, .v a1] L = some (.ok (.v (.tup [a0, a1])), L) := by
  have e : asPs [.v a0, .v a1] = some [a0, a1] := rfl
  unfold tupD
  rw [e]
  exact if_pos (le_line 2 (by decide))
theorem tup_3 (a0 a1 a2 : P) (L : List MO) : tupD [.v a0, .v a1, .v a2] L = some (.ok (.v (.tup [a0, a1, a2])), L) := by
  have e : asPs [.v a0, .v a1, .v a2] = some [a0, a1, a2] := rfl
  unfold tupD
  rw [e]
  exact if_pos (le_line 3 (by decide))
theorem tup_4 (a0 a1 a2 a3 : P) (L : List MO) : tupD [.v a0, .v a1, .v a2, .v a3] L = some (.ok (.v (.tup [a0, a1, a2, a3])), L) := by
  have e : asPs [.v a0, .v a1, .v a2, .v a3] = some [a0, a1, a2, a3] := rfl
  unfold tupD
  rw [e]
  exact if_pos (le_line 4 (by decide))
theorem tup_5 (a0 a1 a2 a3 a4 : P) (L : List MO) : tupD [.v a0, .v a1, .v a2, .v a3, .v a4] L = some (.ok (.v (.tup [a0, a1, a2, a3, a4])), L) := by
  have e : asPs [.v a0, .v a1, .v a2, .v a3, .v a4] = some [a0, a1, a2, a3, a4] := rfl
  unfold tupD
  rw [e]
  exact if_pos (le_line 5 (by decide))
theorem tup_6 (a0 a1 a2 a3 a4 a5 : P) (L : List MO) : tupD [.v a0, .v a1, .v a2, .v a3, .v a4, .v a5] L = some (.ok (.v (.tup [a0, a1, a2, a3, a4, a5])), L) := by
  have e : asPs [.v a0, .v a1, .v a2, .v a3, .v a4, .v a5] = some [a0, a1, a2, a3, a4, a5] := rfl
  unfold tupD
  rw [e]
  exact if_pos (le_line 6 (by decide))
theorem lst_0 (L : List MO) : lstD [] L = some (.ok (.v (.lst [])), L) := by
  have e : asPs [] = some [] := rfl
  unfold lstD
  rw [e]
  exact if_pos (le_line 0 (by decide))
theorem lst_1 (a0 : P) (L : List MO) : lstD [.v a0] L = some (.ok (.v (.lst [a0])), L) := by
  have e : asPs [.v a0] = some [a0] := rfl
  unfold lstD
  rw [e]
  exact if_pos (le_line 1 (by decide))
theorem lst_2 (a0 a1 : P) (L : List MO) : lstD [.v a0, .v a1] L = some (.ok (.v (.lst [a0, a1])), L) := by
  have e : asPs [.v a0, .v a1] = some [a0, a1] := rfl
  unfold lstD
  rw [e]
  exact if_pos (le_line 2 (by decide))
theorem lst_3 (a0 a1 a2 : P) (L : List MO) : lstD [.v a0, .v a1, .v a2] L = some (.ok (.v (.lst [a0, a1, a2])), L) := by
  have e : asPs [.v a0, .v a1, .v a2] = some [a0, a1, a2] := rfl
  unfold lstD
  rw [e]
  exact if_pos (le_line 3 (by decide))
theorem lst_4 (a0 a1 a2 a3 : P) (L : List MO) : lstD [.v a0, .v a1, .v a2, .v a3] L = some (.ok (.v (.lst [a0, a1, a2, a3])), L) := by
  have e : asPs [.v a0, .v a1, .v a2, .v a3] = some [a0, a1, a2, a3] := rfl
  unfold lstD
  rw [e]
  exact if_pos (le_line 4 (by decide))
theorem lst_5 (a0 a1 a2 a3 a4 : P) (L : List MO) : lstD [.v a0, .v a1, .v a2, .v a3, .v a4] L = some (.ok (.v (.lst [a0, a1, a2, a3, a4])), L) := by
  have e : asPs [.v a0, .v a1, .v a2, .v a3, .v a4] = some [a0, a1, a2, a3, a4] := rfl
  unfold lstD
  rw [e]
  exact if_pos (le_line 5 (by decide))
theorem lst_6 (a0 a1 a2 a3 a4 a5 : P) (L : List MO) : lstD [.v a0, .v a1, .v a2, .v a3, .v a4, .v a5] L = some (.ok (.v (.lst [a0, a1, a2, a3, a4, a5])), L) := by
  have e : asPs [.v a0, .v a1, .v a2, .v a3, .v a4, .v a5] = some [a0, a1, a2, a3, a4, a5] := rfl
  unfold lstD
  rw [e]
  exact if_pos (le_line 6 (by decide))
theorem lst_7 (a0 a1 a2 a3 a4 a5 a6 : P) (L : List MO) : lstD [.v a0, .v a1, .v a2, .v a3, .v a4, .v a5, .v a6] L = some (.ok (.v (.lst [a0, a1, a2, a3, a4, a5, a6])), L) := by
  have e : asPs [.v a0, .v a1, .v a2, .v a3, .v a4, .v a5, .v a6] = some [a0, a1, a2, a3, a4, a5, a6] := rfl
  unfold lstD
  rw [e]
  exact if_pos (le_line 7 (by decide))
theorem lst_8 (a0 a1 a2 a3 a4 a5 a6 a7 : P) (L : List MO) : lstD [.v a0, .v a1, .v a2, .v a3, .v a4, .v a5, .v a6, .v a7] L = some (.ok (.v (.lst [a0, a1, a2, a3, a4, a5, a6, a7])), L) := by
  have e : asPs [.v a0, .v a1, .v a2, .v a3, .v a4, .v a5, .v a6, .v a7] = some [a0, a1, a2, a3, a4, a5, a6, a7] := rfl
  unfold lstD
  rw [e]
  exact if_pos (le_line 8 (by decide))
theorem lst_9 (a0 a1 a2 a3 a4 a5 a6 a7 a8 : P) (L : List MO) : lstD [.v a0, .v a1, .v a2, .v a3, .v a4, .v a5, .v a6, .v a7, .v a8] L = some (.ok (.v (.lst [a0, a1, a2, a3, a4, a5, a6, a7, a8])), L) := by
  have e : asPs [.v a0, .v a1, .v a2, .v a3, .v a4, .v a5, .v a6, .v a7, .v a8] = some [a0, a1, a2, a3, a4, a5, a6, a7, a8] := rfl
  unfold lstD
  rw [e]
  exact if_pos (le_line 9 (by decide))
theorem lst_10 (a0 a1 a2 a3 a4 a5 a6 a7 a8 a9 : P) (L : List MO) : lstD [.v a0, .v a1, .v a2, .v a3, .v a4, .v a5, .v a6, .v a7, .v a8, .v a9] L = some (.ok (.v (.lst [a0, a1, a2, a3, a4, a5, a6, a7, a8, a9])), L) := by
  have e : asPs [.v a0, .v a1, .v a2, .v a3, .v a4, .v a5, .v a6, .v a7, .v a8, .v a9] = some [a0, a1, a2, a3, a4, a5, a6, a7, a8, a9] := rfl
  unfold lstD
  rw [e]
  exact if_pos (le_line 10 (by decide))
theorem lst_11 (a0 a1 a2 a3 a4 a5 a6 a7 a8 a9 a10 : P) (L : List MO) : lstD [.v a0, .v a1, .v a2, .v a3, .v a4, .v a5, .v a6, .v a7, .v a8, .v a9, .v a10] L = some (.ok (.v (.lst [a0, a1, a2, a3, a4, a5, a6, a7, a8, a9, a10])), L) := by
  have e : asPs [.v a0, .v a1, .v a2, .v a3, .v a4, .v a5, .v a6, .v a7, .v a8, .v a9, .v a10] = some [a0, a1, a2, a3, a4, a5, a6, a7, a8, a9, a10] := rfl
  unfold lstD
  rw [e]
  exact if_pos (le_line 11 (by decide))
theorem lst_12 (a0 a1 a2 a3 a4 a5 a6 a7 a8 a9 a10 a11 : P) (L : List MO) : lstD [.v a0, .v a1, .v a2, .v a3, .v a4, .v a5, .v a6, .v a7, .v a8, .v a9, .v a10, .v a11] L = some (.ok (.v (.lst [a0, a1, a2, a3, a4, a5, a6, a7, a8, a9, a10, a11])), L) := by
  have e : asPs [.v a0, .v a1, .v a2, .v a3, .v a4, .v a5, .v a6, .v a7, .v a8, .v a9, .v a10, .v a11] = some [a0, a1, a2, a3, a4, a5, a6, a7, a8, a9, a10, a11] := rfl
  unfold lstD
  rw [e]
  exact if_pos (le_line 12 (by decide))
theorem new_0 (L : List MO) : newD [] L = some (.ok (.r L.length), L ++ [.lst []]) := by
  have e : asPs [] = some [] := rfl
  unfold newD
  rw [e]
  exact if_pos (le_line 0 (by decide))
theorem new_1 (a0 : P) (L : List MO) : newD [.v a0] L = some (.ok (.r L.length), L ++ [.lst [a0]]) := by
  have e : asPs [.v a0] = some [a0] := rfl
  unfold newD
  rw [e]
  exact if_pos (le_line 1 (by decide))
theorem new_2 (a0 a1 : P) (L : List MO) : newD [.v a0, .v a1] L = some (.ok (.r L.length), L ++ [.lst [a0, a1]]) := by
  have e : asPs [.v a0, .v a1] = some [a0, a1] := rfl
  unfold newD
  rw [e]
  exact if_pos (le_line 2 (by decide))
theorem new_3 (a0 a1 a2 : P) (L : List MO) : newD [.v a0, .v a1, .v a2] L = some (.ok (.r L.length), L ++ [.lst [a0, a1, a2]]) := by
  have e : asPs [.v a0, .v a1, .v a2] = some [a0, a1, a2] := rfl
  unfold newD
  rw [e]
  exact if_pos (le_line 3 (by decide))
theorem new_4 (a0 a1 a2 a3 : P) (L : List MO) : newD [.v a0, .v a1, .v a2, .v a3] L = some (.ok (.r L.length), L ++ [.lst [a0, a1, a2, a3]]) := by
  have e : asPs [.v a0, .v a1, .v a2, .v a3] = some [a0, a1, a2, a3] := rfl
  unfold newD
  rw [e]
  exact if_pos (le_line 4 (by decide))
theorem new_5 (a0 a1 a2 a3 a4 : P) (L : List MO) : newD [.v a0, .v a1, .v a2, .v a3, .v a4] L = some (.ok (.r L.length), L ++ [.lst [a0, a1, a2, a3, a4]]) := by
  have e : asPs [.v a0, .v a1, .v a2, .v a3, .v a4] = some [a0, a1, a2, a3, a4] := rfl
  unfold newD
  rw [e]
  exact if_pos (le_line 5 (by decide))
theorem new_6 (a0 a1 a2 a3 a4 a5 : P) (L : List MO) : newD [.v a0, .v a1, .v a2, .v a3, .v a4, .v a5] L = some (.ok (.r L.length), L ++ [.lst [a0, a1, a2, a3, a4, a5]]) := by
  have e : asPs [.v a0, .v a1, .v a2, .v a3, .v a4, .v a5] = some [a0, a1, a2, a3, a4, a5] := rfl
  unfold newD
  rw [e]
  exact if_pos (le_line 6 (by decide))
theorem arN_1 (fn : List D → M D) (a0 : D) : arN 1 fn [a0] = fn [a0] := if_pos rfl
theorem arN_2 (fn : List D → M D) (a0 a1 : D) : arN 2 fn [a0, a1] = fn [a0, a1] := if_pos rfl
theorem arN_3 (fn : List D → M D) (a0 a1 a2 : D) : arN 3 fn [a0, a1, a2] = fn [a0, a1, a2] := if_pos rfl
theorem arN_4 (fn : List D → M D) (a0 a1 a2 a3 : D) : arN 4 fn [a0, a1, a2, a3] = fn [a0, a1, a2, a3] := if_pos rfl
theorem arN_5 (fn : List D → M D) (a0 a1 a2 a3 a4 : D) : arN 5 fn [a0, a1, a2, a3, a4] = fn [a0, a1, a2, a3, a4] := if_pos rfl
theorem arN_6 (fn : List D → M D) (a0 a1 a2 a3 a4 a5 : D) : arN 6 fn [a0, a1, a2, a3, a4, a5] = fn [a0, a1, a2, a3, a4, a5] := if_pos rfl
theorem arN_7 (fn : List D → M D) (a0 a1 a2 a3 a4 a5 a6 : D) : arN 7 fn [a0, a1, a2, a3, a4, a5, a6] = fn [a0, a1, a2, a3, a4, a5, a6] := if_pos rfl
end DN

end
section
set_option Elab.async false
set_option linter.all false
set_option maxRecDepth 100000
set_option maxHeartbeats 4000000
/-! E9: a body's garbage is taken off (trimS); weakest wishes of the denotations (wp, wps). -/
namespace DN
open PySem
open L2 (ixN atI)
/-! ### trimS -/
def okT (n : Nat) (τ : Tau) : Prop := ∀ (i : Nat) (d : D), τ[i]? = some (some d) → okR n d
def cut1 (n : Nat) : Option D → Option D
  | some (.r k) => if k < n then some (.r k) else none
  | x => x
def cutT (n : Nat) (τ : Tau) : Tau := τ.map (cut1 n)
theorem cutT_len {n : Nat} {τ : Tau} : (cutT n τ).length = τ.length := by simp [cutT]
theorem cutT_at {n : Nat} {τ : Tau} {i : Nat} {d : D} (h : (cutT n τ)[i]? = some (some d)) : τ[i]? = some (some d) ∧ okR n d := by
  unfold cutT at h
  rw [List.getElem?_map] at h
  cases e : τ[i]? with
  | none => rw [e] at h; cases h
  | some x =>
    rw [e] at h
    cases x with
    | none => cases h
    | some d2 =>
      cases d2 with
      | v p => cases h; exact ⟨rfl, trivial⟩
      | r k =>
        have h : (if k < n then some (D.r k) else none) = some d := by simpa [cut1] using h
        by_cases c : k < n
        · rw [if_pos c] at h; cases h; exact ⟨rfl, c⟩
        · rw [if_neg c] at h; cases h
theorem cutT_ok {n : Nat} {τ : Tau} (h : okT n τ) : cutT n τ = τ := by
  unfold cutT
  refine List.ext_getElem? fun i => ?_
  rw [List.getElem?_map]
  cases e : τ[i]? with
  | none => rfl
  | some x =>
    cases x with
    | none => rfl
    | some d =>
      cases d with
      | v p => rfl
      | r k =>
        have : k < n := h i _ e
        simp [cut1, this]
open Classical in
noncomputable def trimS (s : SX) : SX := fun τ L => match s τ L with
  | some (.nx τ1, L1) => if Older L L1 then some (.nx (cutT L.length τ1), L1.take L.length) else some (.nx τ1, L1)
  | some (.ct τ1, L1) => if Older L L1 then some (.ct (cutT L.length τ1), L1.take L.length) else some (.ct τ1, L1)
  | o => o
section
variable {X : L2.Cx} {g : G} {W : L2.WX} {sts : List Stmt} {s1 : SX}
theorem Sl.down {F : L2.Hp} {ρ ρ' : Nat → Addr} {n n' : Nat} {σ : L2.St} {τ : Tau} (hr : ∀ i, i < n → ρ' i = ρ i) (h : Sl g F ρ' n' σ τ) : Sl g F ρ n σ (cutT n τ) :=
  ⟨cutT_len.trans h.1, fun i d q => let ⟨v, h1, h2⟩ := h.2 i d (cutT_at q).1; ⟨v, h1, h2.down hr (cutT_at q).2⟩⟩
theorem tS.trim {D : L2.Ends} {σ : L2.St} {H : L2.Hp} (h : tS g W (trimS s1) D σ H) : tS g W s1 D σ H := by
  obtain ⟨F, ρ, τ, L, hR, hS, hc, hp⟩ := h
  refine ⟨F, ρ, τ, L, hR, hS, hc, ?_⟩
  unfold trimS at hp
  have down : ∀ {L1 : List MO} {F' : L2.Hp} {ρ' : Nat → Addr} {H' : L2.Hp}, Older L L1 → Ext F ρ L.length F' ρ' L1.length → R g F' ρ' L1 H' → R g F' ρ (L1.take L.length) H' ∧ (L1.take L.length).length = L.length := fun {L1 F' ρ' H'} ho he hR' => by
    refine ⟨hR'.trunc he.len he.rho fun i m hi e => ?_, by rw [List.length_take]; have := he.len; omega⟩
    rcases ho.2 i m hi e with q | q
    · exact hR.okR q
    · exact q
  match e : s1 τ L with
  | none => rw [e] at hp; exact hp
  | some (.nx τ1, L1) =>
    rw [e] at hp
    dsimp only at hp
    by_cases ho : Older L L1
    · rw [if_pos ho] at hp
      intro F' ρ' H' σ' he hR' hs
      obtain ⟨q1, q2⟩ := down ho he hR'
      exact hp F' ρ H' σ' (by rw [q2]; exact ⟨he.sub, fun _ _ => rfl, Nat.le_refl _⟩) q1 (by rw [q2]; exact Sl.down he.rho hs)
    · rw [if_neg ho] at hp; exact hp
  | some (.ct τ1, L1) =>
    rw [e] at hp
    dsimp only at hp
    by_cases ho : Older L L1
    · rw [if_pos ho] at hp
      intro F' ρ' H' σ' he hR' hs
      obtain ⟨q1, q2⟩ := down ho he hR'
      exact hp F' ρ H' σ' (by rw [q2]; exact ⟨he.sub, fun _ _ => rfl, Nat.le_refl _⟩) q1 (by rw [q2]; exact Sl.down he.rho hs)
    · rw [if_neg ho] at hp; exact hp
  | some (.rt d, L1) => rw [e] at hp; exact hp
  | some (.bk _, L1) => rw [e] at hp; exact hp
  | some (.ex _ _ _, L1) => rw [e] at hp; exact hp
theorem ds_trim (h : L2.PSs X sts (tS g W s1)) : L2.PSs X sts (tS g W (trimS s1)) := PSs.weak h fun D σ H q => tS.trim q
end
/-! ### wishes -/
abbrev EX := Nat → List P → List MO → Prop
def wp {α : Type} (m : M α) (L : List MO) (E : EX) (Q : α → List MO → Prop) : Prop := match m L with
  | some (.ok a, L1) => Q a L1
  | some (.ex c fs, L1) => E c fs L1
  | none => False
structure KK where
  nx : Tau → List MO → Prop
  rt : D → List MO → Prop
  bk : Tau → List MO → Prop
  ct : Tau → List MO → Prop
  ex : Tau → Nat → List P → List MO → Prop
def wps (s : SX) (τ : Tau) (L : List MO) (k : KK) : Prop := match s τ L with
  | some (.nx τ1, L1) => k.nx τ1 L1
  | some (.rt d, L1) => k.rt d L1
  | some (.bk τ1, L1) => k.bk τ1 L1
  | some (.ct τ1, L1) => k.ct τ1 L1
  | some (.ex τ1 c fs, L1) => k.ex τ1 c fs L1
  | none => False
def KK.th (k : KK) (b : SX) : KK := { k with nx := fun τ L => wps b τ L k }
section
variable {α β : Type} {L : List MO} {E : EX} {τ : Tau} {k : KK} {a b : SX}
theorem wp_bnd {m : M α} {f : α → M β} {Q : β → List MO → Prop} : wp (M.bnd m f) L E Q = wp m L E (fun x L1 => wp (f x) L1 E Q) := by
  unfold wp M.bnd
  cases e : m L with
  | none => rfl
  | some r =>
    obtain ⟨r, L1⟩ := r
    cases r <;> rfl
theorem wp_ret {x : α} {Q : α → List MO → Prop} : wp (M.ret x) L E Q = Q x L := rfl
theorem wp_bind {m : M α} {f : α → M β} {Q : β → List MO → Prop} : wp (m >>= f) L E Q = wp m L E (fun x L1 => wp (f x) L1 E Q) := wp_bnd
theorem wp_pure {x : α} {Q : α → List MO → Prop} : wp (pure x) L E Q = Q x L := rfl
theorem wp_of {m : M α} {Q : α → List MO → Prop} {x : α} {L1 : List MO} (h : m L = some (.ok x, L1)) : wp m L E Q = Q x L1 := by
  unfold wp
  rw [h]
theorem wp_mono {m : M α} {Q Q' : α → List MO → Prop} {E' : EX} (h : wp m L E Q) (hq : ∀ x L1, Q x L1 → Q' x L1) (he : ∀ c fs L1, E c fs L1 → E' c fs L1) : wp m L E' Q' := by
  unfold wp at h ⊢
  cases e : m L with
  | none => rw [e] at h; exact h
  | some r =>
    obtain ⟨r, L1⟩ := r
    rw [e] at h
    cases r with
    | ok x => exact hq _ _ h
    | ex c fs => exact he _ _ _ h
theorem wp_out {m : M α} {Q : α → List MO → Prop} (h : wp m L (fun _ _ _ => False) Q) : ∃ x L1, m L = some (.ok x, L1) ∧ Q x L1 := by
  unfold wp at h
  cases e : m L with
  | none => rw [e] at h; exact h.elim
  | some r =>
    obtain ⟨r, L1⟩ := r
    rw [e] at h
    cases r with
    | ok x => exact ⟨x, L1, rfl, h⟩
    | ex c fs => exact h.elim
theorem wps_mono {s : SX} {k k' : KK} (h : wps s τ L k) (h1 : ∀ τ L, k.nx τ L → k'.nx τ L) (h2 : ∀ d L, k.rt d L → k'.rt d L) (h3 : ∀ τ L, k.bk τ L → k'.bk τ L) (h4 : ∀ τ L, k.ct τ L → k'.ct τ L) (h5 : ∀ τ c fs L, k.ex τ c fs L → k'.ex τ c fs L) : wps s τ L k' := by
  unfold wps at h ⊢
  cases e : s τ L with
  | none => rw [e] at h; exact h
  | some r =>
    obtain ⟨r, L1⟩ := r
    rw [e] at h
    cases r with
    | nx => exact h1 _ _ h
    | rt => exact h2 _ _ h
    | bk => exact h3 _ _ h
    | ct => exact h4 _ _ h
    | ex => exact h5 _ _ _ _ h
theorem wps_seq : wps (seqS a b) τ L k = wps a τ L (k.th b) := by
  unfold wps seqS
  cases e : a τ L with
  | none => rfl
  | some r =>
    obtain ⟨r, L1⟩ := r
    cases r <;> rfl
theorem th_nx {L : List MO} : (k.th b).nx τ L = wps b τ L k := rfl
theorem th_rt : (k.th b).rt = k.rt := rfl
theorem th_bk : (k.th b).bk = k.bk := rfl
theorem th_ct : (k.th b).ct = k.ct := rfl
theorem th_ex : (k.th b).ex = k.ex := rfl
theorem wps_eThen {m : Tau → M α} {f : α → SX} : wps (eThen m f) τ L k = wp (m τ) L (k.ex τ) (fun x L1 => wps (f x) τ L1 k) := by
  unfold wps wp eThen
  cases e : m τ L with
  | none => rfl
  | some r =>
    obtain ⟨r, L1⟩ := r
    cases r <;> rfl
theorem wps_nx : wps nxS τ L k = k.nx τ L := rfl
theorem wps_bk : wps bkS τ L k = k.bk τ L := rfl
theorem wps_ct : wps ctS τ L k = k.ct τ L := rfl
theorem wps_retN : wps retN τ L k = k.rt (.v .non) L := rfl
theorem wps_kill {is : List Nat} : wps (killS is a) τ L k = wps a (killT is τ) L k := rfl
theorem wps_set {i : Nat} {f : Tau → M D} : wps (setS i f) τ L k = wp (f τ) L (k.ex τ) (fun d L1 => k.nx (τ.set i (some d)) L1) := wps_eThen
theorem wps_expr {f : Tau → M D} : wps (exprS f) τ L k = wp (f τ) L (k.ex τ) (fun _ L1 => k.nx τ L1) := wps_eThen
theorem wps_ret {f : Tau → M D} : wps (retS f) τ L k = wp (f τ) L (k.ex τ) (fun d L1 => k.rt d L1) := wps_eThen
theorem wps_if {t : Tau → M Bool} : wps (ifS t a b) τ L k = wp (t τ) L (k.ex τ) (fun c L1 => wps (if c = true then a else b) τ L1 k) := wps_eThen
theorem wps_ift : wps (if (true : Bool) = true then a else b) τ L k = wps a τ L k := rfl
theorem wps_iff : wps (if (false : Bool) = true then a else b) τ L k = wps b τ L k := rfl
theorem wps_satt {i : Nat} {fo fv : Tau → M D} : wps (sattS i fo fv) τ L k = wp (fv τ) L (k.ex τ) (fun d L1 => wp (fo τ) L1 (k.ex τ) (fun x L2 => wp (sattD i d x) L2 (k.ex τ) (fun _ L3 => k.nx τ L3))) := by
  unfold sattS
  rw [wps_eThen, wp_bind]
  simp only [wp_bind]
  rfl
theorem wps_unit {m : M Unit} : wps (unitS m) τ L k = wp m L (k.ex τ) (fun _ L1 => k.nx τ L1) := by
  unfold wps wp unitS
  cases e : m L with
  | none => rfl
  | some r =>
    obtain ⟨r, L1⟩ := r
    cases r <;> rfl
theorem wps_setI {fo fi fv : Tau → M D} : wps (setIS fo fi fv) τ L k = wp (fv τ) L (k.ex τ) (fun v L1 => wp (fo τ) L1 (k.ex τ) (fun x L2 => wp (fi τ) L2 (k.ex τ) (fun y L3 => wp (setA x y v) L3 (k.ex τ) (fun _ L4 => k.nx τ L4)))) := by
  unfold setIS
  rw [wps_eThen]
  simp only [wps_eThen, wps_unit]
/-- a body's end without its own objects -/
theorem wps_trimC {s : SX} (h : wps s τ L { k with
    nx := fun τ1 L1 => ∃ Lb X τ', L1 = Lb ++ X ∧ Lb.length = L.length ∧ Older L Lb ∧ cutT L.length τ1 = τ' ∧ k.nx τ' Lb
    ct := fun τ1 L1 => ∃ Lb X τ', L1 = Lb ++ X ∧ Lb.length = L.length ∧ Older L Lb ∧ cutT L.length τ1 = τ' ∧ k.ct τ' Lb }) : wps (trimS s) τ L k := by
  unfold wps trimS at *
  cases e : s τ L with
  | none => rw [e] at h; exact h
  | some r =>
    obtain ⟨r, L1⟩ := r
    rw [e] at h
    cases r with
    | rt => exact h
    | bk => exact h
    | ex => exact h
    | nx τ1 =>
      obtain ⟨Lb, X, τ', h1, h2, h3, rfl, h5⟩ := h
      subst h1
      dsimp only
      rw [if_pos (older_app X h3), ← h2, List.take_left']
      · rw [h2]; exact h5
      · rfl
    | ct τ1 =>
      obtain ⟨Lb, X, τ', h1, h2, h3, rfl, h5⟩ := h
      subst h1
      dsimp only
      rw [if_pos (older_app X h3), ← h2, List.take_left']
      · rw [h2]; exact h5
      · rfl
theorem wps_trim {s : SX} (h : wps s τ L { k with
    nx := fun τ1 L1 => ∃ Lb X, L1 = Lb ++ X ∧ Lb.length = L.length ∧ Older L Lb ∧ okT L.length τ1 ∧ k.nx τ1 Lb
    ct := fun τ1 L1 => ∃ Lb X, L1 = Lb ++ X ∧ Lb.length = L.length ∧ Older L Lb ∧ okT L.length τ1 ∧ k.ct τ1 Lb }) : wps (trimS s) τ L k :=
  wps_trimC (wps_mono h (fun τ1 L1 ⟨Lb, X, h1, h2, h3, h4, h5⟩ => ⟨Lb, X, τ1, h1, h2, h3, cutT_ok h4, h5⟩) (fun _ _ h => h) (fun _ _ h => h) (fun τ1 L1 ⟨Lb, X, h1, h2, h3, h4, h5⟩ => ⟨Lb, X, τ1, h1, h2, h3, cutT_ok h4, h5⟩) (fun _ _ _ _ h => h))
/-! ### for, while -/
theorem wps_forG {ok : List MO → Prop} {tg : TgD} {body : SX} (J : Nat → Tau → List MO → Prop) : ∀ (xs : List P) (i0 : Nat) {τ : Tau} {L : List MO}, J i0 τ L → (∀ i τ L, J i τ L → ok L) →
    (∀ (i : Nat) (p : P) (τ : Tau) (L : List MO), xs[i]? = some p → J (i0 + i) τ L → ∃ τ1, tg p τ = some τ1 ∧ wps body τ1 L { k with nx := J (i0 + i + 1), ct := J (i0 + i + 1), bk := k.nx }) →
    (∀ τ L, J (i0 + xs.length) τ L → k.nx τ L) → wps (forG ok tg body xs) τ L k
  | [], i0, τ, L, h0, hok, _, he => by
    unfold wps forG
    rw [if_pos (hok _ _ _ h0)]
    exact he _ _ h0
  | p :: ps, i0, τ, L, h0, hok, hs, he => by
    obtain ⟨τ1, e1, h⟩ := hs 0 p τ L rfl h0
    have ih := fun (τ2 : Tau) (L2 : List MO) (h2 : J (i0 + 1) τ2 L2) => wps_forG (ok := ok) (tg := tg) (body := body) J ps (i0 + 1) h2 hok (fun i q τ L e hj => by
      have := hs (i + 1) q τ L e (by rw [show i0 + (i + 1) = i0 + 1 + i by omega]; exact hj)
      rw [show i0 + (i + 1) = i0 + 1 + i by omega] at this
      exact this) (fun τ L hj => he τ L (by rw [List.length_cons, show i0 + (ps.length + 1) = i0 + 1 + ps.length by omega]; exact hj))
    unfold wps forG
    rw [if_pos (hok _ _ _ h0), e1]
    dsimp only
    unfold wps at h ih
    cases e : body τ1 L with
    | none => rw [e] at h; exact h
    | some r =>
      obtain ⟨r, L2⟩ := r
      rw [e] at h
      cases r with
      | nx τ2 => exact ih τ2 L2 h
      | ct τ2 => exact ih τ2 L2 h
      | bk τ2 => exact h
      | rt d => exact h
      | ex τ2 c fs => exact h
theorem wps_for {src : Tau → M Itm} {tg : TgD} {body : SX} : wps (forS src tg body) τ L k = wp (src τ) L (k.ex τ) (fun it L1 => wps (forG it.2 tg body it.1) τ L1 k) := wps_eThen
theorem wps_iterW {c : Tau → M Bool} {body : SX} (J : Nat → Tau → List MO → Prop)
    (hs : ∀ n τ L, J n τ L → wp (c τ) L (k.ex τ) (fun t L1 => if t = true then wps body τ L1 { k with nx := fun τ L => ∃ m, m < n ∧ J m τ L, ct := fun τ L => ∃ m, m < n ∧ J m τ L, bk := k.nx } else k.nx τ L1)) :
    ∀ (n : Nat) {τ : Tau} {L : List MO}, J n τ L → ∃ r, iterW c body (n + 1) τ L = some r ∧ (match r with
      | (.nx τ1, L1) => k.nx τ1 L1
      | (.rt d, L1) => k.rt d L1
      | (.bk τ1, L1) => k.bk τ1 L1
      | (.ct τ1, L1) => k.ct τ1 L1
      | (.ex τ1 c fs, L1) => k.ex τ1 c fs L1) := by
  intro n
  induction n using Nat.strongRecOn with
  | _ n ih =>
    intro τ L hj
    have h := hs n τ L hj
    unfold iterW
    unfold wp at h
    cases e : c τ L with
    | none => rw [e] at h; exact h.elim
    | some r =>
      obtain ⟨r, L1⟩ := r
      rw [e] at h
      cases r with
      | ex cc fs => exact ⟨_, rfl, h⟩
      | ok t =>
        cases t with
        | false => exact ⟨_, rfl, h⟩
        | true =>
          dsimp only at h ⊢
          rw [if_pos rfl] at h
          unfold wps at h
          cases eb : body τ L1 with
          | none => rw [eb] at h; exact h.elim
          | some r =>
            obtain ⟨r, L2⟩ := r
            rw [eb] at h
            cases r with
            | nx τ2 =>
              obtain ⟨m, hm, hj2⟩ := h
              obtain ⟨r, e2, h2⟩ := ih m hm hj2
              exact ⟨r, iterW_le (by omega) e2, h2⟩
            | ct τ2 =>
              obtain ⟨m, hm, hj2⟩ := h
              obtain ⟨r, e2, h2⟩ := ih m hm hj2
              exact ⟨r, iterW_le (by omega) e2, h2⟩
            | bk τ2 => exact ⟨_, rfl, h⟩
            | rt d => exact ⟨_, rfl, h⟩
            | ex τ2 c fs => exact ⟨_, rfl, h⟩
theorem wps_while {c : Tau → M Bool} {body : SX} (J : Nat → Tau → List MO → Prop) (n : Nat) (h0 : J n τ L)
    (hs : ∀ n τ L, J n τ L → wp (c τ) L (k.ex τ) (fun t L1 => if t = true then wps body τ L1 { k with nx := fun τ L => ∃ m, m < n ∧ J m τ L, ct := fun τ L => ∃ m, m < n ∧ J m τ L, bk := k.nx } else k.nx τ L1)) : wps (whileS c body) τ L k := by
  obtain ⟨r, e, h⟩ := wps_iterW J hs n h0
  unfold wps
  rw [whileS_of _ e]
  obtain ⟨r, L1⟩ := r
  cases r <;> exact h
/-! ### defs -/
/-- what a def's end asks -/
def endQ (keep : Bool) (L : List MO) (Q : D → List MO → Prop) (d : D) (L1 : List MO) : Prop := match d with
  | .v p => ∃ Lb X, L1 = Lb ++ X ∧ Lb.length = L.length ∧ Older L Lb ∧ Q (.v p) Lb
  | .r n => ∃ Lb X, L1 = Lb ++ X ∧ Lb.length = L.length ∧ Older L Lb ∧ (if n < L.length then Q (.r n) Lb else ∃ xs, X[n - L.length]? = some (.lst xs) ∧ (if keep = true then Q (.r L.length) (Lb ++ [.lst xs]) else Q (.v (.lst xs)) Lb))
theorem wp_scope {keep : Bool} {N : Nat} {s : SX} {ds : List D} {Q : D → List MO → Prop} (h : wps s (ds.map some ++ List.replicate (N - ds.length) none) L ⟨fun _ L1 => endQ keep L Q (.v .non) L1, endQ keep L Q, fun _ _ => False, fun _ _ => False, fun _ c fs L1 => ∃ Lb X, L1 = Lb ++ X ∧ Lb.length = L.length ∧ Older L Lb ∧ E c fs Lb⟩) :
    wp (scopeF keep (bodyF N s) ds) L E Q := by
  unfold wps at h
  have tk : ∀ {Lb X : List MO}, Lb.length = L.length → (Lb ++ X).take L.length = Lb := fun {Lb X} e => by rw [← e, List.take_left']; rfl
  have val : ∀ {p : P} {L1 : List MO}, bodyF N s ds L = some (.ok (.v p), L1) → endQ keep L Q (.v p) L1 → wp (scopeF keep (bodyF N s) ds) L E Q := fun {p L1} e h => by
    obtain ⟨Lb, X, h1, h2, h3, h4⟩ := h
    subst h1
    rw [wp_of (scope_v e (older_app X h3)), tk h2]
    exact h4
  cases e : s (ds.map some ++ List.replicate (N - ds.length) none) L with
  | none => rw [e] at h; exact h.elim
  | some r =>
    obtain ⟨r, L1⟩ := r
    rw [e] at h
    cases r with
    | nx τ1 => exact val (body_nx e) h
    | bk => exact h.elim
    | ct => exact h.elim
    | ex τ1 c fs =>
      obtain ⟨Lb, X, h1, h2, h3, h4⟩ := h
      subst h1
      have eb := body_ex e
      unfold wp scopeF
      rw [eb]
      dsimp only
      rw [if_pos (older_app X h3), tk h2]
      exact h4
    | rt d =>
      cases d with
      | v p => exact val (body_rt e) h
      | r n =>
        obtain ⟨Lb, X, h1, h2, h3, h4⟩ := h
        subst h1
        have eb := body_rt e
        unfold wp scopeF
        rw [eb]
        dsimp only
        rw [if_pos (older_app X h3), tk h2]
        by_cases hn : n < L.length
        · rw [if_pos hn] at h4 ⊢
          exact h4
        · rw [if_neg hn] at h4 ⊢
          obtain ⟨xs, h5, h6⟩ := h4
          rw [List.getElem?_append_right (by omega), h2, h5]
          dsimp only
          cases keep with
          | true => rw [if_pos rfl] at h6 ⊢; exact h6
          | false => rw [if_neg Bool.false_ne_true] at h6 ⊢; exact h6
/-- .. of a def that keeps all it made -/
theorem wp_body {N : Nat} {s : SX} {ds : List D} {Q : D → List MO → Prop} (h : wps s (ds.map some ++ List.replicate (N - ds.length) none) L ⟨fun _ L1 => Q (.v .non) L1, Q, fun _ _ => False, fun _ _ => False, fun _ c fs L1 => E c fs L1⟩) : wp (bodyF N s ds) L E Q := by
  unfold wps at h
  unfold wp bodyF
  cases e : s (ds.map some ++ List.replicate (N - ds.length) none) L with
  | none => rw [e] at h; exact h.elim
  | some r =>
    obtain ⟨r, L1⟩ := r
    rw [e] at h
    cases r <;> exact h
/-! ### tries -/
theorem wps_try {tab : List Nat} {zs : List Clz} {sb : SX} (h : wps sb τ L { k with ex := fun τ1 c fs L1 => c ∈ tab ∧ wps (clS zs c fs) τ1 L1 k }) : wps (tryS tab zs sb) τ L k := by
  unfold wps tryS at *
  cases e : sb τ L with
  | none => rw [e] at h; exact h
  | some r =>
    obtain ⟨r, L1⟩ := r
    rw [e] at h
    cases r with
    | nx => exact h
    | rt => exact h
    | bk => exact h
    | ct => exact h
    | ex τ1 c fs =>
      obtain ⟨h1, h2⟩ := h
      dsimp only
      rw [if_pos h1]
      exact h2
theorem wps_cls_here {z : Clz} {zs : List Clz} {c : Nat} {fs : List P} (h : subE c z.c = true) : wps (clS (z :: zs) c fs) τ L k = wps (clOne z 0 0 c fs) τ L k := by
  unfold wps clS
  rw [if_pos h]
theorem wps_cls_next {z : Clz} {zs : List Clz} {c : Nat} {fs : List P} (h : subE c z.c = false) : wps (clS (z :: zs) c fs) τ L k = wps (clS zs c fs) τ L k := by
  unfold wps
  rw [show clS (z :: zs) c fs = if subE c z.c = true then clOne z 0 0 c fs else clS zs c fs from rfl, h]
  rfl
theorem wps_cls_out {c : Nat} {fs : List P} : wps (clS [] c fs) τ L k = k.ex τ c fs L := rfl
theorem wps_clOne {z : Clz} {c i : Nat} {fs : List P} (hi : z.i = some i) (h : wps (z.su 0 0 c) (τ.set i (some (.v (.exn c (.int 0 :: .int 0 :: fs))))) L ⟨fun τ1 L1 => k.nx (τ1.set i none) L1, k.rt, fun τ1 L1 => k.bk (τ1.set i none) L1, fun τ1 L1 => k.ct (τ1.set i none) L1, fun _ _ _ _ => False⟩) : wps (clOne z 0 0 c fs) τ L k := by
  unfold wps clOne at *
  rw [hi]
  dsimp only
  have e0 : ((0 : Nat) : Int) = 0 := rfl
  cases e : z.su 0 0 c (τ.set i (some (.v (.exn c (.int 0 :: .int 0 :: fs))))) L with
  | none => rw [e] at h; exact h
  | some r =>
    obtain ⟨r, L1⟩ := r
    rw [e] at h
    unfold dropO
    cases r <;> first | exact h | exact h.elim
end
end DN

end
section
set_option Elab.async false
set_option linter.all false
set_option maxRecDepth 100000
set_option maxHeartbeats 4000000
/-! E10: truth of lists and tuples; f-strings; str(int); max of two; methods with one keyword-only parameter; a def that calls itself. -/
namespace DN
open PySem PySem.Spec PyProof.Rows L2 He NdefX
section
variable {X : Cx} {g : G} {W : WX} {a b c e o : Expr} {fa fb fc f : Tau → M D} {ta tb : Tau → M Bool} {pos p apos : Pos} {es : List Expr} {fs : Tau → M (List D)} {k n : Nat} {fn : List D → M D} {s1 : SX}
/-! ### truth -/
def truB : D → M Bool := fun d L => match d with
  | .v (.bl t) => some (.ok t, L)
  | .v .non => some (.ok false, L)
  | d => (asS L d).map fun xs => (.ok (!xs.isEmpty), L)
def tstT (f : Tau → M D) (τ : Tau) : M Bool := f τ >>= truB
theorem isA_empty {F : Hp} : ∀ {vs : List V} {ps : List P}, IsA g F vs ps → ps.isEmpty = vs.isEmpty
  | _, _, .nil => rfl
  | _, _, .cons _ _ => rfl
theorem truB_post {F : Hp} {ρ : Nat → Addr} {L : List MO} {H : Hp} {x : V} {d : D} {W : Value → Option Addr → Hp → Prop} {Q : Bool → Hp → Prop} (hR : R g F ρ L H) (hx : IsD g F ρ L.length x d) (hp : Post g relB F ρ L.length W Q (truB d L)) : ∃ t, TruV g.K x H t ∧ Q t H := by
  have seqs : Post g relB F ρ L.length W Q ((asS L d).map fun xs => (Res.ok (!xs.isEmpty), L)) → ∃ t, TruV g.K x H t ∧ Q t H := fun hp => by
    match e1 : asS L d with
    | none => rw [e1] at hp; exact False.elim hp
    | some xs =>
      rw [e1] at hp
      obtain ⟨p, ws, rfl, h1, h2⟩ := asS_sq hR hx e1
      refine ⟨!xs.isEmpty, ?_, hp F ρ _ H Ext.refl hR rfl⟩
      rw [isA_empty h2]
      rcases h1 with h1 | ⟨h1, _⟩
      · exact .inl ⟨ws, h1, rfl⟩
      · exact .inr (.inl ⟨ws, h1, rfl⟩)
  cases d with
  | r n => exact seqs hp
  | v p =>
    cases p with
    | bl t => exact ⟨t, by rw [Is.inv_bl hx]; rfl, hp F ρ _ H Ext.refl hR rfl⟩
    | non => exact ⟨false, by rw [Is.inv_non hx]; rfl, hp F ρ _ H Ext.refl hR rfl⟩
    | _ => exact seqs hp
theorem dt_tru (hK : X.K = g.K) (h : PE X e (tE g W f)) (he : ∀ whole, isTrue e X.env whole = (do let v ← whole; standAt e.pos; holding [v] (truthy v)) := by intro _; rfl) : PT X e (tT g W (tstT f)) := by
  refine PT.weak (pt_truth h he) fun σ H Q q => ?_
  refine (Sat.bindV q).mono fun x H1 h1 => ?_
  obtain ⟨d, F, ρ, τ, L, hR, hS, hc, hp⟩ := h1
  rw [hK]
  exact truB_post hR (hc (x, d) (by simp)) hp
/-! ### f-strings, str -/
def fmtB : D → M D := fun d L => match d with
  | .v (.str y) => if y.length ≤ sizeLine then some (.ok (.v (.str y)), L) else none
  | .v (.int i) => if i.natAbs.log2 < 1920 then some (.ok (.v (.str (toString i))), L) else none
  | _ => none
theorem de_fmt (he : PE X e (tE g W f)) : PE X (.FormattedValue e (-1) none pos) (tE g W (un fmtB f)) := by
  refine PE.weak (pe_fmt he) fun σ H Q h => ?_
  refine (Sat.bindV h).mono fun x H1 h1 => ?_
  obtain ⟨d, F, ρ, τ, L, hR, hS, hc, hp⟩ := h1
  have hx := hc (x, d) (by simp)
  unfold fmtB at hp
  split at hp
  · rename_i y
    dsimp only at hp
    by_cases hz : y.length ≤ sizeLine
    · rw [if_pos hz] at hp
      exact .inl ⟨y, Is.inv_str hx, hz, hp.val hR (Is.str _)⟩
    · rw [if_neg hz] at hp; exact False.elim hp
  · rename_i i
    dsimp only at hp
    by_cases hz : i.natAbs.log2 < 1920
    · rw [if_pos hz] at hp
      exact .inr ⟨i, Is.inv_int hx, hz, hp.val hR (Is.str _)⟩
    · rw [if_neg hz] at hp; exact False.elim hp
  · exact False.elim hp
def jsM (acc : Str) (k : Str → M D) : D → M D := fun d L => match d with
  | .v (.str y) => if (acc ++ y).length ≤ sizeLine then k (acc ++ y) L else none
  | _ => none
/-- the parts of an f-string -/
def jsD : List (Tau → M D) → Str → Tau → M D
  | [], acc, _ => pure (.v (.str acc))
  | f :: fs, acc, τ => f τ >>= jsM acc fun y => jsD fs y τ
inductive PJD (X : Cx) (g : G) (W : WX) : List Expr → List (Tau → M D) → Prop where
  | nil : PJD X g W [] []
  | cons {e : Expr} {f : Tau → M D} {es : List Expr} {fs : List (Tau → M D)} (h : PE X e (tE g W f)) (r : PJD X g W es fs) : PJD X g W (e :: es) (f :: fs)
theorem PJD.pj {es : List Expr} {fs : List (Tau → M D)} (h : PJD X g W es fs) : PJ X es (fs.map (tE g W)) := by
  induction h with
  | nil => exact .nil
  | cons h _ ih => exact .cons h ih
theorem js_sat : ∀ (fs : List (Tau → M D)) (acc : Str) {ctx : List (V × D)} {σ : L2.St} {H : Hp} {Q : VK}, Sat g (relV g) W ctx (fun τ => jsD fs acc τ) σ H Q → tJs (fs.map (tE g W)) acc σ H fun out H1 => Q (.str out) H1
  | [], acc, ctx, σ, H, Q, h => by
    obtain ⟨F, ρ, τ, L, hR, hS, hc, hp⟩ := h
    exact hp F ρ _ H Ext.refl hR (Is.str _)
  | f :: fs, acc, ctx, σ, H, Q, h => by
    have h' : Sat g (relV g) W ctx (fun τ => f τ >>= jsM acc fun y => jsD fs y τ) σ H Q := h
    refine (Sat.bindV h').mono fun x H1 h1 => ?_
    obtain ⟨d, F, ρ, τ, L, hR, hS, hc, hp⟩ := h1
    have hx := hc (x, d) (by simp)
    unfold jsM at hp
    split at hp
    · rename_i y
      dsimp only at hp
      by_cases hz : (acc ++ y).length ≤ sizeLine
      · rw [if_pos hz] at hp
        exact ⟨y, Is.inv_str hx, hz, js_sat fs (acc ++ y) (ctx := []) ⟨F, ρ, τ, L, hR, hS, (fun y hy => by cases hy), hp⟩⟩
      · rw [if_neg hz] at hp; exact False.elim hp
    · exact False.elim hp
theorem de_joined {v1 v2 : Expr} {rest : List Expr} {fs : List (Tau → M D)} (h : PJD X g W (v1 :: v2 :: rest) fs) : PE X (.JoinedStr (v1 :: v2 :: rest) pos) (tE g W (jsD fs Str.empty)) :=
  PE.weak (pe_joined h.pj) fun σ H Q h => js_sat fs Str.empty h
def strD : List D → M D := oneD fun d L => match d with
  | .v (.int i) => if i.natAbs.log2 < 1920 then some (.ok (.v (.str (toString i))), L) else none
  | _ => none
theorem cd_str : CallD g strD (fun xs H Q => ∃ i, xs = [.int i] ∧ i.natAbs.log2 < 1920 ∧ Q (.str (toString i)) H) := by
  refine cd_one fun F ρ L H x d W Q hR hx hp => ?_
  cases d with
  | r n => exact False.elim hp
  | v p =>
    cases p with
    | int i =>
      dsimp only at hp
      by_cases hz : i.natAbs.log2 < 1920
      · rw [if_pos hz] at hp
        exact ⟨i, by rw [Is.inv_int hx], hz, hp.val hR (.str _)⟩
      · rw [if_neg hz] at hp; exact False.elim hp
    | _ => exact False.elim hp
def max2D : List D → M D := fun ds L => match ds with
  | [.v (.int i), .v (.int j)] => some (.ok (.v (.int (if j > i then j else i))), L)
  | _ => none
theorem cd_max2 : CallD g max2D (fun xs H Q => ∃ i j, xs = [.int i, .int j] ∧ Q (.int (if j > i then j else i)) H) := by
  intro F ρ L H vs ds W Q hR ha hp
  unfold max2D at hp
  split at hp
  · rename_i i j
    obtain ⟨v, w, rfl, h1, h2⟩ := rel2 ha
    exact ⟨i, j, by rw [Is.inv_int h1, Is.inv_int h2], hp.val hR (Is.int _)⟩
  · exact False.elim hp
/-! ### a keyword-only parameter -/
/-- the keyword-only default of a def of the text: a whole number -/
def kwB (q : Str × Option Str) (x : Str) (z : Int) : Chk := fun K => match K.lookup (fAd K q) with
  | some ⟨_, _, .func fd, _⟩ => (match fd.kwdefaults with
    | .ref D => (match PySem.W.nsIn K D x with
      | some (some (.int i _)) => decide (i = z)
      | _ => false)
    | _ => false)
  | _ => false
/-- a class's method with one keyword-only parameter (kw, z if it lacks) -/
structure KOk (P0 : Program) (w : World) (K : PySem.W.Frag) (mg : Str → Option Value) (base : Heap) (g : G) (m : Str) (k : Nat) (c n : Nat) (kw : Str) (z : Int) (fn : List D → M D) : Prop where
  ex : ∃ (fad : Addr) (fd : FuncData) (ps : List Str), Meth K (g.cl c) m fad ∧ FnOk P0 w K mg base (L2.CX P0 w) k fad fd ps (spF g (n + 1) fn) ∧ (∃ ds, Vals [V.int z] ds ∧ Binds K fd ps ds) ∧ KBn K fd ps n [kw] (fun us ws => us ++ ws) (fun vs zs => vs ++ zs)
  no : ∀ i ∈ flT c, nmT i ≠ m
def atC {α : Type} (c : Nat) (x : D) (m : M α) : M α := fun L => if clsOf L x = some c then m L else none
/-- o.m(..) without it; with it -/
def methZ (c n : Nat) (z : Int) (fn : List D → M D) (f : Tau → M D) (fs : Tau → M (List D)) (τ : Tau) : M D := do
  let x ← f τ
  atC c x do
    let ds ← fs τ
    arN (n + 1) fn (x :: (ds ++ [.v (.int z)]))
def methK (c n : Nat) (fn : List D → M D) (f : Tau → M D) (fs fk : Tau → M (List D)) (τ : Tau) : M D := do
  let x ← f τ
  atC c x do
    let ds ← fs τ
    let ks ← fk τ
    if (x :: ds).length = n ∧ ks.length = 1 then fn (x :: (ds ++ ks)) else M.stuck
def tMZ (g : G) (W : WX) (n c : Nat) (m : Str) (z : Int) (fn : List D → M D) (ta : TE) (t : TA) : TE := fun σ H Q => ta σ H fun x H1 => ∃ a dx fs, x = .ref a ∧ H1 a = some (.ins (g.cl c) dx fs) ∧ Cls g.K (g.cl c) ∧ fs.lookup m = none ∧ t σ H1 fun vs H2 => spF g (n + 1) fn (x :: (vs ++ [.int z])) H2 Q (WE W σ)
def tMK (g : G) (W : WX) (n c : Nat) (m : Str) (fn : List D → M D) (ta : TE) (t tk : TA) : TE := fun σ H Q => ta σ H fun x H1 => ∃ a dx fs, x = .ref a ∧ H1 a = some (.ins (g.cl c) dx fs) ∧ Cls g.K (g.cl c) ∧ fs.lookup m = none ∧ t σ H1 fun vs H2 => tk σ H2 fun zs H3 => (x :: vs).length = n ∧ zs.length = 1 ∧ spF g (n + 1) fn (x :: (vs ++ zs)) H3 Q (WE W σ)
theorem pe_methZ {c n : Nat} {m kw : Str} {z : Int} {ta : TE} {t : TA} {pl : Sem Bool} (hK : X.K = g.K) (MO : KOk X.prog X.w X.K X.mg X.base g m k c n kw z fn) (hr : Room k X.A) (tk : Takes X W) (he : PE X o ta) (ha : PA X (e :: es) t)
    (hst : starEach (e :: es) X.env = (false, eval e X.env) :: starEach es X.env := by rfl) (hpl : (backTo pos (starEach es X.env)).any (·.1) = false := by rfl)
    (ht : eval (.Call (.Attribute o m apos) (e :: es) [] pos) X.env = (do
      let v ← eval o X.env
      standAt apos.atName
      let (mf, first) ← holding [v] (getMethod v m pl)
      callWith pos mf first (backTo pos (starEach (e :: es) X.env)) (backToKw pos (keywordEach [] X.env))) := by rfl) :
    PE X (.Call (.Attribute o m apos) (e :: es) [] pos) (tMZ g W n c m z fn ta t) := by
  obtain ⟨⟨fad, fd, ps, hm, FO, ⟨ds, hd, hb⟩, _⟩, _⟩ := MO
  refine ⟨fun pins s σ H Q I h => PySem.W.methodCall_KW (pl := pl) (thn (he.run pins s σ H _ I h) fun u s1 hu => ?_) ht⟩
  obtain ⟨x, H1, I1, rx, ad, dx, fl, ex, ea, cl, lk, q⟩ := hu
  subst ex
  obtain rfl : u = Value.ref ad := rx
  rw [← hK] at cl
  refine getmeth_ok I1 ea cl hm lk (PySem.W.callWith_K (first := [.ref ad]) (h₀ := X.base) I.ok.mod.kin hm.kp (thn (ha.run pos pins s1 σ H1 _ I1 q) fun us s2 hus => ?_) hst hpl)
  obtain ⟨ws, H2, I2, r, q2⟩ := hus
  exact ⟨I2.kIn, run_fnSD (E := fun σ => WE W σ) (us := .ref ad :: us) (vs := .ref ad :: ws) FO hr hb hd (passAt tk σ) I2 (.cons rfl r) q2⟩
theorem run_kw {CX : CXT} {fad : Addr} {fd : FuncData} {ps ks : List Str} {sp : Sp} {pins : List (Addr × Obj)} {σ : L2.St} {H : Hp} {s : Shared} {Q : VK} {E : XK} {us ws : List Value} {vs zs : List V} {gg : List Value → List Value → List Value} {gV : List V → List V → List V}
    (FO : FnOk X.prog X.w X.K X.mg X.base CX k fad fd ps sp) (hr : Room k X.A) (hb : KBn X.K fd ps n ks gg gV) (hx : PassesAt CX X σ E) (I : Inv X pins σ H s) (r : Vals vs us) (rz : Vals zs ws) (l1 : vs.length = n) (l2 : zs.length = ks.length) (h : sp (gV vs zs) H Q E) :
    wpAny (model X.prog X.w) X.A (call (.ref fad) us (ks.zip ws)) (EP X pins σ Q) X.xe s := by
  have e1 : us.length = n := r.length.symm.trans l1
  have e2 : ws.length = ks.length := rz.length.symm.trans l2
  refine wpAny_call (codeAny_mono (FO.run X.A X.stack s H ⟨us, ks.zip ws⟩ (gg us ws) (gV vs zs) Q E hr I.env0 (hb.to s us ws I.kIn e1 e2) (hb.rel r rz) h) fun y s' hq => ?_)
  match y, hq with
  | .error e, hq => exact hx pins H s e s' I hq
  | .ok (.ret u), hq => exact I.after hq
  | .ok .next, hq => exact hq.elim
  | .ok .brk, hq => exact hq.elim
  | .ok .cont, hq => exact hq.elim
theorem pe_methK {c n : Nat} {m kw : Str} {z : Int} {ta : TE} {t tk : TA} {pl : Sem Bool} {kws : List Keyword} (hK : X.K = g.K) (MO : KOk X.prog X.w X.K X.mg X.base g m k c n kw z fn) (hr : Room k X.A) (tx : Takes X W) (he : PE X o ta) (ha : PA X (e :: es) t) (hkw : PK X kws tk)
    (hall : (backToKw pos (keywordEach kws X.env)).all (·.1.isSome) = true := by rfl) (hks : (backToKw pos (keywordEach kws X.env)).filterMap (·.1) = [kw] := by rfl)
    (hst : starEach (e :: es) X.env = (false, eval e X.env) :: starEach es X.env := by rfl) (hpl : ((backTo pos (starEach (e :: es) X.env)).any (·.1) || (backToKw pos (keywordEach kws X.env)).any (·.1.isNone)) = false := by rfl)
    (ht : eval (.Call (.Attribute o m apos) (e :: es) kws pos) X.env = (do
      let v ← eval o X.env
      standAt apos.atName
      let (mf, first) ← holding [v] (getMethod v m pl)
      callWith pos mf first (backTo pos (starEach (e :: es) X.env)) (backToKw pos (keywordEach kws X.env))) := by rfl) :
    PE X (.Call (.Attribute o m apos) (e :: es) kws pos) (tMK g W n c m fn ta t tk) := by
  obtain ⟨⟨fad, fd, ps, hm, FO, _, hb⟩, _⟩ := MO
  refine ⟨fun pins s σ H Q I h => PySem.W.methodCall_KW (pl := pl) (thn (he.run pins s σ H _ I h) fun u s1 hu => ?_) ht⟩
  obtain ⟨x, H1, I1, rx, ad, dx, fl, ex, ea, cl, lk, q⟩ := hu
  subst ex
  obtain rfl : u = Value.ref ad := rx
  rw [← hK] at cl
  refine getmeth_ok I1 ea cl hm lk (PySem.W.callWith_KW (first := [.ref ad]) (h₀ := X.base) I.ok.mod.kin hm.kp hall (thn (ha.run pos pins s1 σ H1 _ I1 q) fun us s2 hus => ?_) hpl hst)
  obtain ⟨vs, H2, I2, r, q2⟩ := hus
  refine thn (hkw.run pos pins s2 σ H2 _ I2 q2) fun ws s3 hws => ?_
  obtain ⟨zs, H3, I3, rz, l1, l2, q3⟩ := hws
  refine ⟨I3.kIn, ?_⟩
  rw [hks]
  exact run_kw (us := .ref ad :: us) (vs := .ref ad :: vs) FO hr hb (passAt tx σ) I3 (.cons rfl r) rz l1 l2 q3
theorem pk_weak {kws : List Keyword} {t t' : TA} (h : PK X kws t) (w : ∀ σ H Q, t' σ H Q → t σ H Q) : PK X kws t' := ⟨fun pos pins s σ H Q I q => h.run pos pins s σ H Q I (w σ H Q q)⟩
/-- keywords' values -/
theorem dk_nil : PK X [] (tA g W nilA) := pk_weak pk_nil fun σ H Q h => by
  obtain ⟨F, ρ, τ, L, hR, hS, hc, hp⟩ := h
  exact hp F ρ _ H Ext.refl hR .nil
theorem dk_cons {nm : Option Str} {kp : Pos} {kws : List Keyword} (ha : PE X e (tE g W f)) (hr : PK X kws (tA g W fs)) : PK X (⟨nm, e, kp⟩ :: kws) (tA g W (consA f fs)) := pk_weak (pk_cons ha hr) fun σ H Q h => by
  refine (Sat.bindV h).mono fun x H1 h1 => ?_
  obtain ⟨d, h1⟩ := h1
  refine (Sat.bind (ra := relA g) h1).mono fun xs H2 h2 => ?_
  obtain ⟨F, ρ, τ, L, ds, hR, hS, hc, hr, hp⟩ := h2
  exact hp F ρ _ H2 Ext.refl hR (.cons (hc (x, d) (by simp)) hr)
theorem Sat.atC {α β : Type} {rel : Hp → (Nat → Addr) → Nat → β → α → Prop} {c : Nat} {m : Str} {fm : Tau → D → M α} {σ : L2.St} {H : Hp} {Q : β → Hp → Prop} (hno : ∀ i ∈ flT c, nmT i ≠ m) (h : Sat g rel W [] (fun τ => f τ >>= fun x => DN.atC c x (fm τ x)) σ H Q) :
    tE g W f σ H fun x H1 => ∃ a dx fs d, x = .ref a ∧ H1 a = some (.ins (g.cl c) dx fs) ∧ Cls g.K (g.cl c) ∧ fs.lookup m = none ∧ Sat g rel W [(x, d)] (fun τ => fm τ d) σ H1 Q := by
  refine (Sat.bindV h).mono fun x H1 h1 => ?_
  obtain ⟨d, F, ρ, τ, L, hR, hS, hc, hp⟩ := h1
  have hx := hc (x, d) (by simp)
  have hp : Post g rel F ρ L.length (fun c d H' => W c d σ H') Q (if clsOf L d = some c then fm τ d L else none) := hp
  by_cases e : clsOf L d = some c
  · rw [if_pos e] at hp
    obtain ⟨ad, dx, fl, ex, ea, cf, hfl⟩ := clsOf_at hR hx e
    refine ⟨ad, dx, fl, d, ex, ea, cf.cls, lookup_none fun y hy z => ?_, F, ρ, τ, L, hR, hS, hc, hp⟩
    obtain ⟨i, hi, q⟩ := hfl y hy
    exact hno i hi (q.symm.trans z)
  · rw [if_neg e] at hp
    exact False.elim hp
theorem de_methZ {c n : Nat} {m kw : Str} {z : Int} {pl : Sem Bool} (hK : X.K = g.K) (MO : KOk X.prog X.w X.K X.mg X.base g m k c n kw z fn) (hr : Room k X.A) (tk : Takes X W) (he : PE X o (tE g W f)) (ha : PA X (e :: es) (tA g W fs))
    (hst : starEach (e :: es) X.env = (false, eval e X.env) :: starEach es X.env := by rfl) (hpl : (backTo pos (starEach es X.env)).any (·.1) = false := by rfl)
    (ht : eval (.Call (.Attribute o m apos) (e :: es) [] pos) X.env = (do
      let v ← eval o X.env
      standAt apos.atName
      let (mf, first) ← holding [v] (getMethod v m pl)
      callWith pos mf first (backTo pos (starEach (e :: es) X.env)) (backToKw pos (keywordEach [] X.env))) := by rfl) :
    PE X (.Call (.Attribute o m apos) (e :: es) [] pos) (tE g W (methZ c n z fn f fs)) :=
  PE.weak (pe_methZ (pl := pl) hK MO hr tk he ha hst hpl ht) fun σ H Q h => by
    refine (Sat.atC (m := m) MO.no h).mono fun x H1 h1 => ?_
    obtain ⟨a, dx, fl, d, e1, e2, e3, e4, h2⟩ := h1
    refine ⟨a, dx, fl, e1, e2, e3, e4, (Sat.bind (ra := relA g) h2).mono fun xs H2 h3 => ?_⟩
    obtain ⟨F, ρ, τ, L, ds, hR, hS, hc, ha, hp⟩ := h3
    unfold arN at hp
    by_cases hz : (d :: (ds ++ [.v (.int z)])).length = n + 1
    · rw [if_pos hz] at hp
      have key : ∀ {vs : List V} {ds : List D}, relA g F ρ L.length vs ds → relA g F ρ L.length (vs ++ [.int z]) (ds ++ [.v (.int z)]) := by
        intro vs ds h
        induction h with
        | nil => exact .cons (Is.int z) .nil
        | cons h _ ih => exact .cons h ih
      exact ⟨F, ρ, L, _, hR, .cons (hc (x, d) (by simp)) (key ha), hz, hp⟩
    · rw [if_neg hz] at hp
      exact False.elim hp
theorem de_methK {c n : Nat} {m kw : Str} {z : Int} {pl : Sem Bool} {kws : List Keyword} {fk : Tau → M (List D)} (hK : X.K = g.K) (MO : KOk X.prog X.w X.K X.mg X.base g m k c n kw z fn) (hr : Room k X.A) (tx : Takes X W) (he : PE X o (tE g W f)) (ha : PA X (e :: es) (tA g W fs)) (hkw : PK X kws (tA g W fk))
    (hall : (backToKw pos (keywordEach kws X.env)).all (·.1.isSome) = true := by rfl) (hks : (backToKw pos (keywordEach kws X.env)).filterMap (·.1) = [kw] := by rfl)
    (hst : starEach (e :: es) X.env = (false, eval e X.env) :: starEach es X.env := by rfl) (hpl : ((backTo pos (starEach (e :: es) X.env)).any (·.1) || (backToKw pos (keywordEach kws X.env)).any (·.1.isNone)) = false := by rfl)
    (ht : eval (.Call (.Attribute o m apos) (e :: es) kws pos) X.env = (do
      let v ← eval o X.env
      standAt apos.atName
      let (mf, first) ← holding [v] (getMethod v m pl)
      callWith pos mf first (backTo pos (starEach (e :: es) X.env)) (backToKw pos (keywordEach kws X.env))) := by rfl) :
    PE X (.Call (.Attribute o m apos) (e :: es) kws pos) (tE g W (methK c n fn f fs fk)) :=
  PE.weak (pe_methK (pl := pl) hK MO hr tx he ha hkw hall hks hst hpl ht) fun σ H Q h => by
    refine (Sat.atC (m := m) MO.no h).mono fun x H1 h1 => ?_
    obtain ⟨a, dx, fl, d, e1, e2, e3, e4, h2⟩ := h1
    refine ⟨a, dx, fl, e1, e2, e3, e4, (Sat.bind (ra := relA g) h2).mono fun xs H2 h3 => ?_⟩
    obtain ⟨F, ρ, τ, L, ds, hR, hS, hc, ha, hp⟩ := h3
    have h4 : Sat g (relV g) W ((x, d) :: (xs.zip ds)) (fun τ => fk τ >>= fun ks => if (d :: ds).length = n ∧ ks.length = 1 then fn (d :: (ds ++ ks)) else M.stuck) σ H2 Q := ⟨F, ρ, τ, L, hR, hS, fun y hy => by
      rcases List.mem_cons.mp hy with q | q
      · rw [q]; exact hc (x, d) (by simp)
      · have key : ∀ {vs : List V} {ds : List D}, relA g F ρ L.length vs ds → ∀ y ∈ vs.zip ds, IsD g F ρ L.length y.1 y.2 := by
          intro vs ds h
          induction h with
          | nil => intro y hy; cases hy
          | cons h _ ih =>
            intro y hy
            rcases List.mem_cons.mp hy with q | q
            · rw [q]; exact h
            · exact ih y q
        exact key ha y q, hp⟩
    refine (Sat.bind (ra := relA g) h4).mono fun zs H3 h5 => ?_
    have hl := prd_len ha
    obtain ⟨F, ρ, τ, L, ks, hR, hS, hc, hk, hp⟩ := h5
    have ha' : relA g F ρ L.length xs ds := by
      have key : ∀ {vs : List V} {ds : List D}, vs.length = ds.length → (∀ y ∈ vs.zip ds, IsD g F ρ L.length y.1 y.2) → relA g F ρ L.length vs ds := by
        intro vs
        induction vs with
        | nil => intro ds e _; cases ds with
          | nil => exact .nil
          | cons _ _ => cases e
        | cons v vs ih => intro ds e h; cases ds with
          | nil => cases e
          | cons d ds => exact .cons (h (v, d) (by simp)) (ih (by simpa using e) fun y hy => h y (by simp [hy]))
      exact key hl fun y hy => hc y (List.mem_cons_of_mem _ hy)
    by_cases hz : (d :: ds).length = n ∧ ks.length = 1
    · rw [if_pos hz] at hp
      have key : ∀ {vs : List V} {ds : List D} {zs : List V} {ks : List D}, relA g F ρ L.length vs ds → relA g F ρ L.length zs ks → relA g F ρ L.length (vs ++ zs) (ds ++ ks) := by
        intro vs ds zs ks h h'
        induction h with
        | nil => exact h'
        | cons h _ ih => exact .cons h ih
      refine ⟨by rw [List.length_cons, hl]; exact hz.1, by rw [prd_len hk]; exact hz.2, F, ρ, L, _, hR, .cons (hc (x, d) (by simp)) (key ha' hk), ?_, hp⟩
      have := hz.1
      have := hz.2
      simp only [List.length_cons, List.length_append] at *
      omega
    · rw [if_neg hz] at hp
      exact False.elim hp
theorem fund_of {K : PySem.W.Frag} {d : DX} {x : Str} {z : Int} {fd : FuncData} (F : Fun K (defName d.st) d.qual d.st (fAd K d.at_) fd) (h : kwB d.at_ x z K = true) : FunD K (defName d.st) d.qual (defArgs d.st) (defBody d.st) (defScope d.st) [] [(x, V.int z)] (fAd K d.at_) fd := by
  obtain ⟨oc, od, kV, doc, pm, an, cdv, ct, osl, e1, e2, e3⟩ := F.ex
  unfold kwB at h
  rw [e2] at h
  dsimp only at h
  subst e1
  refine ⟨⟨oc, od, .none, kV, doc, pm, an, cdv, ct, osl, rfl, e2, e3, .inl ⟨rfl, rfl⟩, .inr ?_⟩, F.kp⟩
  cases kV with
  | ref D =>
    have h' : (match PySem.W.nsIn K D x with
      | some (some (.int i _)) => decide (i = z)
      | _ => false) = true := h
    refine ⟨D, rfl, fun q hq => ?_⟩
    rw [List.mem_singleton.mp hq]
    split at h'
    · rename_i i t e
      exact ⟨_, e, t, by rw [of_decide_eq_true h']⟩
    · cases h'
  | _ => exact absurd (show false = true from h) (by decide)
theorem kok_of {P0 : Program} {w : World} {K : PySem.W.Frag} {mg : Str → Option Value} {base : Heap} {m kw : Str} {f : Addr} {fd : FuncData} {ps : List Str} {j c : Nat} {z : Int} (hm : Meth K (g.cl c) m f) (FO : FnOk P0 w K mg base (L2.CX P0 w) j f fd ps (spF g (n + 1) fn)) (hb : ∃ ds, Vals [V.int z] ds ∧ Binds K fd ps ds)
    (hk : KBn K fd ps n [kw] (fun us ws => us ++ ws) (fun vs zs => vs ++ zs)) {i : Nat} (hj : j ≤ i) (hno : ∀ q ∈ flT c, nmT q ≠ m) : KOk P0 w K mg base g m i c n kw z fn := ⟨⟨f, fd, ps, hm, FO.mono hj, hb, hk⟩, hno⟩
/-- a def that may call itself: at no depth it does nothing -/
theorem fn_zero {P0 : Program} {w : World} {K : PySem.W.Frag} {mg : Str → Option Value} {base : Heap} {k : Nat} {f : Addr} {fd : FuncData} {ps : List Str} (hn : ps.length = n) : FnOk P0 w K mg base (L2.CX P0 w) k f fd ps (spF g n fun _ => M.stuck) :=
  ⟨fun vs H Q E h => by
    obtain ⟨_, _, _, ds, _, _, _, hp⟩ := h
    exact False.elim hp, fun A outer s H args us vs Q E hr he hb hv hs => by
    obtain ⟨_, _, _, ds, _, _, _, hp⟩ := hs
    exact False.elim hp⟩
theorem SaysX.fun_ {fa : List Chk} {fn : List DX} {K : PySem.W.Frag} (c : SaysX fa fn K) (i : Nat) {d : DX} (h : fn[i]? = some d) (hcl : d.cl = []) : ∃ fd, Fun K (defName d.st) d.qual d.st (fAd K d.at_) fd := by
  obtain ⟨e, ok⟩ := c.val_ i h
  obtain ⟨kV, doc, pm, an, cdv, ct, F⟩ := dx_fun e ok hcl
  exact ⟨_, F⟩
end
end DN

end
section
set_option Elab.async false
set_option linter.all false
set_option maxRecDepth 100000
set_option maxHeartbeats 4000000
/-! E11: the wishes of expressions, one by one (for simp). -/
namespace DN
open PySem
open L2 (ixN atI)
section
variable {α β : Type} {L : List MO} {E : EX} {τ : Tau} {k : KK} {a b : SX} {fa fb fc f : Tau → M D} {ta tb : Tau → M Bool} {fs fk : Tau → M (List D)} {Q : D → List MO → Prop} {QB : Bool → List MO → Prop} {QA : List D → List MO → Prop}
def varW : Option (Option D) → (D → Prop) → Prop
  | some (some d), q => q d
  | _, _ => False
theorem varW_some {d : D} {q : D → Prop} : varW (some (some d)) q = q d := rfl
theorem wp_var {i : Nat} : wp (varD i τ) L E Q = varW τ[i]? fun d => Q d L := by
  unfold wp varD varW
  match τ[i]? with
  | none => rfl
  | some none => rfl
  | some (some d) => rfl
theorem wp_retD {d : D} : wp (retD d τ) L E Q = Q d L := rfl
theorem wp_bin {op : D → D → M D} : wp (DN.bin op fa fb τ) L E Q = wp (fa τ) L E fun x L1 => wp (fb τ) L1 E fun y L2 => wp (op x y) L2 E Q := by
  unfold DN.bin
  rw [wp_bind]
  simp only [wp_bind]
theorem wp_un {op : D → M D} : wp (un op f τ) L E Q = wp (f τ) L E fun x L1 => wp (op x) L1 E Q := wp_bind
theorem wp_app {op : List D → M D} : wp (appA op fs τ) L E Q = wp (fs τ) L E fun x L1 => wp (op x) L1 E Q := wp_bind
theorem wp_cons : wp (consA f fs τ) L E QA = wp (f τ) L E fun d L1 => wp (fs τ) L1 E fun ds L2 => QA (d :: ds) L2 := by
  unfold consA
  rw [wp_bind]
  simp only [wp_bind, wp_pure]
theorem wp_nil : wp (nilA τ) L E QA = QA [] L := rfl
theorem wp_tstD : wp (tstD f τ) L E QB = wp (f τ) L E fun d L1 => wp (asB d) L1 E QB := wp_bind
theorem wp_asB {t : Bool} : wp (asB (.v (.bl t))) L E QB = QB t L := rfl
theorem wp_tstT : wp (tstT f τ) L E QB = wp (f τ) L E fun d L1 => wp (truB d) L1 E QB := wp_bind
theorem wp_truB_bl {t : Bool} : wp (truB (.v (.bl t))) L E QB = QB t L := rfl
theorem wp_truB_tup {xs : List P} : wp (truB (.v (.tup xs))) L E QB = QB (!xs.isEmpty) L := rfl
theorem wp_truB_lst {xs : List P} : wp (truB (.v (.lst xs))) L E QB = QB (!xs.isEmpty) L := rfl
theorem wp_andB : wp (andB ta tb τ) L E QB = wp (ta τ) L E fun t L1 => if t = true then wp (tb τ) L1 E QB else QB false L1 := by
  unfold andB
  rw [wp_bind]
  congr 1
  funext t L1
  cases t <;> rfl
theorem wp_orB : wp (orB ta tb τ) L E QB = wp (ta τ) L E fun t L1 => if t = true then QB true L1 else wp (tb τ) L1 E QB := by
  unfold orB
  rw [wp_bind]
  congr 1
  funext t L1
  cases t <;> rfl
theorem wp_notB : wp (notB ta τ) L E QB = wp (ta τ) L E fun t L1 => QB (!t) L1 := by
  unfold notB
  rw [wp_bind]
  rfl
theorem wp_valB : wp (valB ta τ) L E Q = wp (ta τ) L E fun t L1 => Q (.v (.bl t)) L1 := by
  unfold valB
  rw [wp_bind]
  rfl
theorem wp_andV : wp (andV ta fb τ) L E Q = wp (ta τ) L E fun t L1 => if t = true then wp (fb τ) L1 E Q else Q (.v (.bl false)) L1 := by
  unfold andV
  rw [wp_bind]
  congr 1
  funext t L1
  cases t <;> rfl
theorem wp_orV : wp (orV ta fb τ) L E Q = wp (ta τ) L E fun t L1 => if t = true then Q (.v (.bl true)) L1 else wp (fb τ) L1 E Q := by
  unfold orV
  rw [wp_bind]
  congr 1
  funext t L1
  cases t <;> rfl
theorem wp_notV : wp (notV ta τ) L E Q = wp (ta τ) L E fun t L1 => Q (.v (.bl (!t))) L1 := by
  unfold notV
  rw [wp_bind]
  rfl
theorem wp_ifE : wp (ifE ta fa fb τ) L E Q = wp (ta τ) L E fun t L1 => if t = true then wp (fa τ) L1 E Q else wp (fb τ) L1 E Q := by
  unfold ifE
  rw [wp_bind]
  congr 1
  funext t L1
  cases t <;> rfl
theorem wp_noP {QO : Option Int → List MO → Prop} : wp (noP τ) L E QO = QO none L := rfl
theorem wp_part {QO : Option Int → List MO → Prop} : wp (part f τ) L E QO = wp (f τ) L E fun d L1 => wp (asJ d) L1 E QO := wp_bind
theorem wp_asJ {QO : Option Int → List MO → Prop} {i : Int} : wp (asJ (.v (.int i))) L E QO = QO (some i) L := rfl
theorem wp_slice {fl fh : Tau → M (Option Int)} : wp (slice fa fl fh τ) L E Q = wp (fa τ) L E fun x L1 => wp (fl τ) L1 E fun lo L2 => wp (fh τ) L2 E fun hi L3 => wp (slD x lo hi) L3 E Q := by
  unfold slice
  rw [wp_bind]
  simp only [wp_bind]
theorem wp_seqI {QI : Itm → List MO → Prop} : wp (seqI f τ) L E QI = wp (f τ) L E fun d L1 => wp (itmD d) L1 E QI := wp_bind
theorem wp_argI {op : List D → M Itm} {QI : Itm → List MO → Prop} : wp (argI op fs τ) L E QI = wp (fs τ) L E fun d L1 => wp (op d) L1 E QI := wp_bind
theorem wp_itm_tup {xs : List P} {QI : Itm → List MO → Prop} : wp (itmD (.v (.tup xs))) L E QI = QI (xs, fun _ => True) L := rfl
theorem wp_itm_lst {xs : List P} {QI : Itm → List MO → Prop} : wp (itmD (.v (.lst xs))) L E QI = QI (xs, fun _ => True) L := rfl
theorem wp_rng1 {n : Nat} {QI : Itm → List MO → Prop} (h : n < 2 ^ 62 := by decide) : wp (rng1 [.v (.int n)]) L E QI = QI ((List.range n).map fun i : Nat => P.int (0 + i), fun _ => True) L := by
  refine wp_of ?_
  have : -(2 ^ 62) ≤ (n : Int) ∧ (n : Int) < 2 ^ 62 := by omega
  simp only [rng1, if_pos this, Int.toNat_natCast]
theorem wp_grd {m : M α} {x : α} {L1 : List MO} {c : Prop} [Decidable c] {Q : α → List MO → Prop} (e : m L = if c then some (.ok x, L1) else none) : wp m L E Q = (c ∧ Q x L1) := by
  unfold wp
  rw [e]
  by_cases h : c
  · rw [if_pos h]; exact propext ⟨fun q => ⟨h, q⟩, fun q => q.2⟩
  · rw [if_neg h]; exact propext ⟨fun q => q.elim, fun q => absurd q.1 h⟩
theorem wp_tup {ds : List D} : wp (tupD ds) L E Q = match asPs ds with
    | some ps => ps.length ≤ sizeLine ∧ Q (.v (.tup ps)) L
    | none => False := by
  unfold wp tupD
  match asPs ds with
  | none => rfl
  | some ps =>
    dsimp only
    by_cases h : ps.length ≤ sizeLine
    · rw [if_pos h]; simp [h]
    · rw [if_neg h]; simp [h]
theorem wp_lst {ds : List D} : wp (lstD ds) L E Q = match asPs ds with
    | some ps => ps.length ≤ sizeLine ∧ Q (.v (.lst ps)) L
    | none => False := by
  unfold wp lstD
  match asPs ds with
  | none => rfl
  | some ps =>
    dsimp only
    by_cases h : ps.length ≤ sizeLine
    · rw [if_pos h]; simp [h]
    · rw [if_neg h]; simp [h]
theorem wp_new {ds : List D} : wp (newD ds) L E Q = match asPs ds with
    | some ps => ps.length ≤ sizeLine ∧ Q (.r L.length) (L ++ [.lst ps])
    | none => False := by
  unfold wp newD
  match asPs ds with
  | none => rfl
  | some ps =>
    dsimp only
    by_cases h : ps.length ≤ sizeLine
    · rw [if_pos h]; simp [h]
    · rw [if_neg h]; simp [h]
theorem wp_tup0 : wp (tupD []) L E Q = Q (.v (.tup [])) L := wp_of (tup_0 L)
theorem wp_tup1 {a : P} : wp (tupD [.v a]) L E Q = Q (.v (.tup [a])) L := wp_of (tup_1 a L)
theorem wp_tup2 {a b : P} : wp (tupD [.v a, .v b]) L E Q = Q (.v (.tup [a, b])) L := wp_of (tup_2 a b L)
theorem wp_tup3 {a b c : P} : wp (tupD [.v a, .v b, .v c]) L E Q = Q (.v (.tup [a, b, c])) L := wp_of (tup_3 a b c L)
theorem wp_tup4 {a b c d : P} : wp (tupD [.v a, .v b, .v c, .v d]) L E Q = Q (.v (.tup [a, b, c, d])) L := wp_of (tup_4 a b c d L)
theorem wp_lst0 : wp (lstD []) L E Q = Q (.v (.lst [])) L := wp_of (lst_0 L)
theorem wp_lst1 {a : P} : wp (lstD [.v a]) L E Q = Q (.v (.lst [a])) L := wp_of (lst_1 a L)
theorem wp_lst2 {a b : P} : wp (lstD [.v a, .v b]) L E Q = Q (.v (.lst [a, b])) L := wp_of (lst_2 a b L)
theorem wp_lst3 {a b c : P} : wp (lstD [.v a, .v b, .v c]) L E Q = Q (.v (.lst [a, b, c])) L := wp_of (lst_3 a b c L)
theorem wp_lst4 {a b c d : P} : wp (lstD [.v a, .v b, .v c, .v d]) L E Q = Q (.v (.lst [a, b, c, d])) L := wp_of (lst_4 a b c d L)
theorem wp_lst5 {a b c d e : P} : wp (lstD [.v a, .v b, .v c, .v d, .v e]) L E Q = Q (.v (.lst [a, b, c, d, e])) L := wp_of (lst_5 a b c d e L)
theorem wp_lst6 {a b c d e f : P} : wp (lstD [.v a, .v b, .v c, .v d, .v e, .v f]) L E Q = Q (.v (.lst [a, b, c, d, e, f])) L := wp_of (lst_6 a b c d e f L)
theorem wp_lst7 {a b c d e f g : P} : wp (lstD [.v a, .v b, .v c, .v d, .v e, .v f, .v g]) L E Q = Q (.v (.lst [a, b, c, d, e, f, g])) L := wp_of (lst_7 a b c d e f g L)
theorem wp_lst8 {a b c d e f g h : P} : wp (lstD [.v a, .v b, .v c, .v d, .v e, .v f, .v g, .v h]) L E Q = Q (.v (.lst [a, b, c, d, e, f, g, h])) L := wp_of (lst_8 a b c d e f g h L)
theorem wp_new0 : wp (newD []) L E Q = Q (.r L.length) (L ++ [.lst []]) := wp_of (new_0 L)
theorem wp_arN1 {fn : List D → M D} {a : D} : wp (arN 1 fn [a]) L E Q = wp (fn [a]) L E Q := rfl
theorem wp_arN2 {fn : List D → M D} {a b : D} : wp (arN 2 fn [a, b]) L E Q = wp (fn [a, b]) L E Q := rfl
theorem wp_arN3 {fn : List D → M D} {a b c : D} : wp (arN 3 fn [a, b, c]) L E Q = wp (fn [a, b, c]) L E Q := rfl
theorem wp_arN4 {fn : List D → M D} {a b c d : D} : wp (arN 4 fn [a, b, c, d]) L E Q = wp (fn [a, b, c, d]) L E Q := rfl
theorem wp_arN5 {fn : List D → M D} {a b c d e : D} : wp (arN 5 fn [a, b, c, d, e]) L E Q = wp (fn [a, b, c, d, e]) L E Q := rfl
theorem wp_arN6 {fn : List D → M D} {a b c d e e2 : D} : wp (arN 6 fn [a, b, c, d, e, e2]) L E Q = wp (fn [a, b, c, d, e, e2]) L E Q := rfl
theorem wp_arN7 {fn : List D → M D} {a b c d e e2 e3 : D} : wp (arN 7 fn [a, b, c, d, e, e2, e3]) L E Q = wp (fn [a, b, c, d, e, e2, e3]) L E Q := rfl
/-! operators -/
theorem wp_addI {x y : Int} : wp (addD (.v (.int x)) (.v (.int y))) L E Q = Q (.v (.int (x + y))) L := rfl
theorem wp_addS {x y : Str} : wp (addD (.v (.str x)) (.v (.str y))) L E Q = (x.length + y.length ≤ sizeLine ∧ Q (.v (.str (x ++ y))) L) := by
  exact wp_grd rfl
theorem wp_addL {x y : List P} : wp (addD (.v (.lst x)) (.v (.lst y))) L E Q = (x.length + y.length ≤ sizeLine ∧ Q (.v (.lst (x ++ y))) L) := by
  exact wp_grd rfl
theorem wp_addT {x y : List P} : wp (addD (.v (.tup x)) (.v (.tup y))) L E Q = (x.length + y.length ≤ sizeLine ∧ Q (.v (.tup (x ++ y))) L) := by
  exact wp_grd rfl
theorem wp_subI {x y : Int} : wp (subD (.v (.int x)) (.v (.int y))) L E Q = Q (.v (.int (x - y))) L := rfl
theorem wp_intOp {C : Int → Int → Bool} {f : Int → Int → Int} {x y : Int} : wp (intOp C f (.v (.int x)) (.v (.int y))) L E Q = (C x y = true ∧ Q (.v (.int (f x y))) L) := by
  exact wp_grd rfl
theorem wp_mulI {x y : Int} : wp (mulD (.v (.int x)) (.v (.int y))) L E Q = (mulOkB x y = true ∧ Q (.v (.int (x * y))) L) := wp_intOp
theorem wp_modI {x y : Int} : wp (modD (.v (.int x)) (.v (.int y))) L E Q = (0 < y ∧ Q (.v (.int (x % y))) L) := by
  unfold modD
  rw [wp_intOp, decide_eq_true_eq]
theorem wp_fdivI {x y : Int} : wp (fdivD (.v (.int x)) (.v (.int y))) L E Q = ((0 < y ∧ y < 1073741824) ∧ Q (.v (.int (x / y))) L) := by
  unfold fdivD
  rw [wp_intOp, Bool.and_eq_true, decide_eq_true_eq, decide_eq_true_eq]
theorem wp_negI {x : Int} : wp (negD (.v (.int x))) L E Q = Q (.v (.int (-x))) L := rfl
theorem wp_int {x : Int} : wp (intD [.v (.int x)]) L E Q = Q (.v (.int x)) L := rfl
theorem wp_max2 {x y : Int} : wp (max2D [.v (.int x), .v (.int y)]) L E Q = Q (.v (.int (if y > x then y else x))) L := rfl
theorem wp_ord {f : Int → Int → Bool} {x y : Int} : wp (ordI f (.v (.int x)) (.v (.int y))) L E Q = Q (.v (.bl (f x y))) L := rfl
theorem wp_ltI {x y : Int} : wp (ltD (.v (.int x)) (.v (.int y))) L E Q = Q (.v (.bl (decide (x < y)))) L := rfl
theorem wp_chn {o1 o2 : D → D → M D} : wp (chn o1 o2 fa fb fc τ) L E Q = wp (fa τ) L E fun x L1 => wp (fb τ) L1 E fun y L2 => wp (o1 x y) L2 E fun z L3 => wp (asB z) L3 E fun t L4 => if t = true then wp (fc τ) L4 E fun u L5 => wp (o2 y u) L5 E Q else Q (.v (.bl false)) L4 := by
  unfold chn
  simp only [wp_bind]
  congr 1
  funext x L1
  congr 1
  funext y L2
  congr 1
  funext z L3
  congr 1
  funext t L4
  cases t <;> first | rfl | (simp only [wp_bind, if_true]; rfl) | simp [wp_bind, wp_pure]
theorem wp_eqI {neg : Bool} {x y : Int} : wp (eqD neg (.v (.int x)) (.v (.int y))) L E Q = Q (.v (.bl (if neg = true then !decide (x = y) else decide (x = y)))) L := by
  have h1 : okD (.int x) = true := rfl
  have h2 : okD (.int y) = true := rfl
  refine wp_of ?_
  cases neg <;> simp [eqD, dOf, toD, h1, h2, PyData.eqv] <;> (by_cases h : x = y <;> simp [h])
theorem wp_eqS {neg : Bool} {x y : Str} (hx : PyData.strOk x = true) (hy : PyData.strOk y = true) : wp (eqD neg (.v (.str x)) (.v (.str y))) L E Q = Q (.v (.bl (if neg = true then !decide (x = y) else decide (x = y)))) L := by
  have h1 : okD (.str x) = true := by simp [okD, SeqAt.shaped, PyData.canLay0, hx, PyData.depth]
  have h2 : okD (.str y) = true := by simp [okD, SeqAt.shaped, PyData.canLay0, hy, PyData.depth]
  refine wp_of ?_
  cases neg <;> simp [eqD, dOf, toD, h1, h2, PyData.eqv] <;> (by_cases h : x = y <;> simp [h])
/-- the same value twice -/
def datB (p : P) : Bool := match toD p with
  | some d => okD d && PyData.eqv d d
  | none => false
theorem wp_eqR {neg : Bool} {p : P} (h : datB p = true) : wp (eqD neg (.v p) (.v p)) L E Q = Q (.v (.bl (!neg))) L := by
  unfold datB at h
  refine wp_of ?_
  match e : toD p with
  | none => rw [e] at h; cases h
  | some d =>
    rw [e] at h
    have h : (okD d && PyData.eqv d d) = true := h
    rw [Bool.and_eq_true] at h
    have e1 : dOf L (.v p) = some d := e
    unfold eqD
    rw [e1]
    cases neg <;> simp [h.1, h.2]
theorem wp_len_lst {xs : List P} : wp (lenD [.v (.lst xs)]) L E Q = Q (.v (.int xs.length)) L := rfl
theorem wp_len_tup {xs : List P} : wp (lenD [.v (.tup xs)]) L E Q = Q (.v (.int xs.length)) L := rfl
theorem wp_len_r {n : Nat} {xs : List P} (h : L[n]? = some (.lst xs)) : wp (lenD [.r n]) L E Q = Q (.v (.int xs.length)) L := by
  refine wp_of ?_
  simp [lenD, oneD, asS, asL, asM, h]
theorem wp_len_str {x : Str} : wp (lenD [.v (.str x)]) L E Q = (x.length ≤ sizeLine ∧ Q (.v (.int x.length)) L) := by
  exact wp_grd rfl
/-! items -/
theorem wp_ixT {xs : List P} {i : Nat} {p : P} (h : xs[i]? = some p) : wp (ixA (.v (.tup xs)) (.v (.int i))) L E Q = Q (.v p) L := by
  have hl : i < xs.length := (List.getElem?_eq_some_iff.mp h).1
  have hn : ixN xs.length (i : Int) = some i := by
    unfold ixN
    rw [if_pos (by omega), if_pos (by omega)]
    rfl
  refine wp_of ?_
  simp [ixA, dnAt, ixD, atI, hn, h]
theorem wp_ixL {xs : List P} {i : Nat} {p : P} (h : xs[i]? = some p) : wp (ixA (.v (.lst xs)) (.v (.int i))) L E Q = Q (.v p) L := by
  have hl : i < xs.length := (List.getElem?_eq_some_iff.mp h).1
  have hn : ixN xs.length (i : Int) = some i := by
    unfold ixN
    rw [if_pos (by omega), if_pos (by omega)]
    rfl
  refine wp_of ?_
  simp [ixA, dnAt, ixD, asL, asM, atI, hn, h]
theorem wp_ixR {n : Nat} {xs : List P} {i : Nat} {p : P} (hL : L[n]? = some (.lst xs)) (h : xs[i]? = some p) : wp (ixA (.r n) (.v (.int i))) L E Q = Q (.v p) L := by
  have hl : i < xs.length := (List.getElem?_eq_some_iff.mp h).1
  have hn : ixN xs.length (i : Int) = some i := by
    unfold ixN
    rw [if_pos (by omega), if_pos (by omega)]
    rfl
  refine wp_of ?_
  simp [ixA, dnAt, hL, ixD, asL, asM, atI, hn, h]
theorem wp_ixT0 {p : P} {xs : List P} : wp (ixA (.v (.tup (p :: xs))) (.v (.int 0))) L E Q = Q (.v p) L := wp_ixT (i := 0) rfl
theorem wp_ixT1 {p q : P} {xs : List P} : wp (ixA (.v (.tup (p :: q :: xs))) (.v (.int 1))) L E Q = Q (.v q) L := wp_ixT (i := 1) rfl
theorem wp_ixT2 {p q r : P} {xs : List P} : wp (ixA (.v (.tup (p :: q :: r :: xs))) (.v (.int 2))) L E Q = Q (.v r) L := wp_ixT (i := 2) rfl
theorem wp_ixT3 {p q r s : P} {xs : List P} : wp (ixA (.v (.tup (p :: q :: r :: s :: xs))) (.v (.int 3))) L E Q = Q (.v s) L := wp_ixT (i := 3) rfl
theorem wp_append {n : Nat} {xs : List P} {p : P} (h : L[n]? = some (.lst xs)) (hz : xs.length < sizeLine) : wp (appendD (.r n) [.v p]) L E Q = Q (.v .non) (L.set n (.lst (xs ++ [p]))) := by
  refine wp_of ?_
  simp [appendD, mutL, h, hz, asP]
theorem wp_mth {ty : List MO → D → Bool} {op : D → List D → M D} : wp (mthD ty op f fs τ) L E Q = wp (f τ) L E fun x L1 => if ty L1 x = true then wp (fs τ) L1 E fun ds L2 => wp (op x ds) L2 E Q else False := by
  unfold mthD
  rw [wp_bind]
  congr 1
  funext x L1
  by_cases h : ty L1 x = true
  · unfold wp
    simp only [h, if_true, bind, M.bnd]
    cases e : fs τ L1 with
    | none => rfl
    | some r =>
      obtain ⟨r, L2⟩ := r
      cases r <;> rfl
  · unfold wp
    simp only [h, bind, M.bnd, if_false]
    rfl
/-! calls -/
def tabM (tab : Nat → Option (List D → M D)) (x : D) : M (List D → M D) := fun L => match (clsOf L x).bind tab with
  | some fn => some (.ok fn, L)
  | none => none
theorem wp_meth {n : Nat} {tab : Nat → Option (List D → M D)} : wp (methF n tab f fs τ) L E Q = wp (f τ) L E fun x L1 => match (clsOf L1 x).bind tab with
    | some fn => wp (fs τ) L1 E fun ds L2 => wp (arN n fn (x :: ds)) L2 E Q
    | none => False := by
  show wp (M.bnd (f τ) fun x => M.bnd (tabM tab x) fun fn => M.bnd (fs τ) fun ds => arN n fn (x :: ds)) L E Q = _
  rw [wp_bnd]
  congr 1
  funext x L1
  rw [wp_bnd]
  match e : (clsOf L1 x).bind tab with
  | none =>
    unfold wp tabM
    simp only [e]
  | some fn =>
    rw [wp_of (m := tabM tab x) (L := L1) (x := fn) (L1 := L1) (by simp only [tabM, e]), wp_bnd]
theorem wp_methZ {c n : Nat} {z : Int} {fn : List D → M D} : wp (methZ c n z fn f fs τ) L E Q = wp (f τ) L E fun x L1 => if clsOf L1 x = some c then wp (fs τ) L1 E fun ds L2 => wp (arN (n + 1) fn (x :: (ds ++ [.v (.int z)]))) L2 E Q else False := by
  unfold methZ
  rw [wp_bind]
  congr 1
  funext x L1
  by_cases h : clsOf L1 x = some c
  · have : ∀ {α : Type} {m : M α} {Q : α → List MO → Prop}, wp (atC c x m) L1 E Q = wp m L1 E Q := by
      intro α m Q
      unfold wp atC
      rw [if_pos h]
    rw [this, wp_bind, if_pos h]
  · rw [if_neg h]
    unfold wp atC
    rw [if_neg h]
theorem wp_methK {c n : Nat} {fn : List D → M D} : wp (methK c n fn f fs fk τ) L E Q = wp (f τ) L E fun x L1 => if clsOf L1 x = some c then wp (fs τ) L1 E fun ds L2 => wp (fk τ) L2 E fun ks L3 => if (x :: ds).length = n ∧ ks.length = 1 then wp (fn (x :: (ds ++ ks))) L3 E Q else False else False := by
  unfold methK
  rw [wp_bind]
  congr 1
  funext x L1
  by_cases h : clsOf L1 x = some c
  · have : ∀ {α : Type} {m : M α} {Q : α → List MO → Prop}, wp (atC c x m) L1 E Q = wp m L1 E Q := by
      intro α m Q
      unfold wp atC
      rw [if_pos h]
    rw [this, wp_bind, if_pos h]
    congr 1
    funext ds L2
    rw [wp_bind]
    congr 1
    funext ks L3
    by_cases hz : (x :: ds).length = n ∧ ks.length = 1
    · rw [if_pos hz, if_pos hz]
    · rw [if_neg hz, if_neg hz]
      rfl
  · rw [if_neg h]
    unfold wp atC
    rw [if_neg h]
/-! f-strings -/
theorem wp_fmtS {y : Str} : wp (fmtB (.v (.str y))) L E Q = (y.length ≤ sizeLine ∧ Q (.v (.str y)) L) := by
  exact wp_grd rfl
theorem wp_fmtI {i : Int} : wp (fmtB (.v (.int i))) L E Q = (i.natAbs.log2 < 1920 ∧ Q (.v (.str (toString i))) L) := by
  exact wp_grd rfl
theorem wp_strI {i : Int} : wp (strD [.v (.int i)]) L E Q = (i.natAbs.log2 < 1920 ∧ Q (.v (.str (toString i))) L) := by
  exact wp_grd rfl
theorem wp_js0 {acc : Str} : wp (jsD [] acc τ) L E Q = Q (.v (.str acc)) L := rfl
theorem wp_js {fl : List (Tau → M D)} {acc : Str} : wp (jsD (f :: fl) acc τ) L E Q = wp (f τ) L E fun d L1 => wp (jsM acc (fun y => jsD fl y τ) d) L1 E Q := wp_bind
theorem wp_jsM {acc y : Str} {k : Str → M D} : wp (jsM acc k (.v (.str y))) L E Q = ((acc ++ y).length ≤ sizeLine ∧ wp (k (acc ++ y)) L E Q) := by
  have e : jsM acc k (.v (.str y)) L = if (acc ++ y).length ≤ sizeLine then k (acc ++ y) L else none := rfl
  unfold wp
  rw [e]
  by_cases h : (acc ++ y).length ≤ sizeLine
  · rw [if_pos h]; exact propext ⟨fun q => ⟨h, q⟩, fun q => q.2⟩
  · rw [if_neg h]; exact propext ⟨fun q => q.elim, fun q => absurd q.1 h⟩
theorem wp_join {sep : Str} {ys : List P} {zs : List Str} (h : strsOf ys = some zs) (hz : (zs.map (·.length)).sum + zs.length * sep.length ≤ 16777216) : wp (joinD (.v (.str sep)) [.v (.lst ys)]) L E Q = Q (.v (.str (Txt.join sep zs))) L := by
  refine wp_of ?_
  simp [joinD, asS, asL, asM, h, hz]
theorem tyS_str {x : Str} : tyS L (.v (.str x)) = true := rfl
/-! comprehensions -/
theorem wp_lc {mu : Bool} {src : Tau → M Itm} {vs : List Nat} {tg : TgD} {tt : Tau → M Bool} {fe : Tau → M D} : wp (lcS mu src vs tg tt fe τ) L E Q = wp (src τ) L E fun it L1 => wp (lcE mu (lcT tg tt fe) (killT vs τ) it) L1 E Q := wp_bind
/-- nothing is changed by the turns -/
theorem wp_lcE {tg : TgD} {tt : Tau → M Bool} {fe : Tau → M D} {xs : List P} {ok : List MO → Prop} (F : P → Option P) (hok : ∀ L, ok L) (hz : xs.length ≤ sizeLine)
    (hs : ∀ p ∈ xs, ∀ acc : List P, ∃ τ1, tg p τ = some τ1 ∧ wp (tt τ1) (L ++ [.lst acc]) (fun _ _ _ => False) fun t L1 => L1 = L ++ [.lst acc] ∧ (if t = true then wp (fe τ1) L1 (fun _ _ _ => False) fun d L2 => L2 = L ++ [.lst acc] ∧ ∃ q, d = .v q ∧ F p = some q else F p = none))
    (h : Q (.v (.lst (xs.filterMap F))) L) : wp (lcE false (lcT tg tt fe) τ (xs, ok)) L E Q := by
  have key := lcG_pure (turn := lcT tg tt fe) (τ := τ) (f := F) (L := L) rfl hok xs [] (by simpa using hz) (fun p hp acc => by
    obtain ⟨τ1, e1, w⟩ := hs p hp acc
    obtain ⟨t, L1, e2, e3, w2⟩ := wp_out w
    subst e3
    unfold lcT
    rw [e1]
    dsimp only
    rw [e2]
    cases t with
    | false =>
      rw [if_neg Bool.false_ne_true] at w2
      rw [w2]
    | true =>
      rw [if_pos rfl] at w2
      obtain ⟨d, L2, e4, e5, q, rfl, e6⟩ := wp_out w2
      subst e5
      dsimp only
      rw [e4]
      dsimp only
      rw [e6])
  have : lcE false (lcT tg tt fe) τ (xs, ok) L = some (.ok (.v (.lst (xs.filterMap F))), L) := by
    unfold lcE
    dsimp only
    rw [key]
    unfold lcFin
    dsimp only
    rw [if_neg Bool.false_ne_true, List.getElem?_append_right (Nat.le_refl _), Nat.sub_self]
    dsimp only [List.getElem?_cons_zero, List.nil_append]
    rw [if_pos (older_app _ (Older.refl _)), List.take_left']
    rfl
  rw [wp_of this]
  exact h
theorem wp_yes : wp (yesB τ) L E QB = QB true L := rfl
end
end DN
namespace DN
open PySem
theorem endQ_v {keep : Bool} {L : List MO} {Q : D → List MO → Prop} {p : P} (h : Q (.v p) L) : endQ keep L Q (.v p) L := ⟨L, [], by simp, rfl, Older.refl _, h⟩
theorem endQ_x {keep : Bool} {L Lb X : List MO} {Q : D → List MO → Prop} {p : P} (h1 : Lb.length = L.length) (h2 : Older L Lb) (h : Q (.v p) Lb) : endQ keep L Q (.v p) (Lb ++ X) := ⟨Lb, X, rfl, h1, h2, h⟩
theorem endQ_0 {keep : Bool} {L Lb : List MO} {Q : D → List MO → Prop} {p : P} (h1 : Lb.length = L.length) (h2 : Older L Lb) (h : Q (.v p) Lb) : endQ keep L Q (.v p) Lb := ⟨Lb, [], by simp, h1, h2, h⟩
theorem wp_eq {α : Type} {m : M α} {L L1 : List MO} {a : α} (h : wp m L (fun _ _ _ => False) fun x L' => x = a ∧ L' = L1) : m L = some (.ok a, L1) := by
  obtain ⟨x, L', e, rfl, rfl⟩ := wp_out h
  exact e
theorem wp_ex {α : Type} {m : M α} {L L1 : List MO} {c : Nat} {fs : List P} (h : wp m L (fun c' fs' L' => c' = c ∧ fs' = fs ∧ L' = L1) fun _ _ => False) : m L = some (.ex c fs, L1) := by
  unfold wp at h
  cases e : m L with
  | none => rw [e] at h; exact h.elim
  | some r =>
    obtain ⟨r, L2⟩ := r
    rw [e] at h
    cases r with
    | ok => exact h.elim
    | ex c fs => obtain ⟨rfl, rfl, rfl⟩ := h; rfl
theorem wp_ofx {α : Type} {m : M α} {L L1 : List MO} {c : Nat} {fs : List P} {E : EX} {Q : α → List MO → Prop} (h : m L = some (.ex c fs, L1)) : wp m L E Q = E c fs L1 := by
  unfold wp
  rw [h]
theorem wps_raise {c : Nat} {fs : Tau → M (List D)} {τ : Tau} {L : List MO} {k : KK} : wps (raiseS c fs) τ L k = wp (fs τ) L (k.ex τ) (fun ds L1 => match asPs ds with
    | some ps => ps.length = (flT c).length ∧ k.ex τ c ps.reverse L1
    | none => False) := by
  unfold raiseS
  rw [wps_eThen]
  congr 1
  funext ds L1
  unfold wps
  match asPs ds with
  | none => rfl
  | some ps =>
    dsimp only
    by_cases h : ps.length = (flT c).length
    · rw [if_pos h]; exact propext ⟨fun q => ⟨h, q⟩, fun q => q.2⟩
    · rw [if_neg h]; exact propext ⟨fun q => q.elim, fun q => absurd q.1 h⟩
theorem wp_exf0 {τ : Tau} {L : List MO} {E : EX} {Q : D → List MO → Prop} {c i f : Nat} {fs : List P} {p : P} (h1 : τ[i]? = some (some (.v (.exn c (.int 0 :: .int 0 :: fs))))) (h2 : fget (flT c) fs f = some p) : wp (exfD 0 0 i f τ) L E Q = Q (.v p) L := by
  refine wp_of ?_
  unfold exfD
  rw [h1]
  dsimp only
  rw [if_pos ⟨rfl, rfl⟩, h2]
theorem wp_exi0 {τ : Tau} {L : List MO} {E : EX} {Q : D → List MO → Prop} {c i : Nat} {fs : List P} {b : Bool} (h1 : τ[i]? = some (some (.v (.exn c (.int 0 :: .int 0 :: fs))))) : wp (exiD 0 0 i b τ) L E Q = Q (.v (.bl b)) L := by
  refine wp_of ?_
  unfold exiD
  rw [h1]
  dsimp only
  rw [if_pos ⟨rfl, rfl⟩]
end DN

end
section
set_option Elab.async false
set_option linter.all false
set_option maxRecDepth 100000
set_option maxHeartbeats 4000000
/-! E12: set comprehensions, set(xs), sorted and len of a set. -/
namespace DN
open PySem PySem.Spec PyProof.Rows L2
section
variable {P : Program} {w : World} {A : Around} {E : Value → Shared → Prop} {s : Shared} {a : Addr} {ms : List VK2}
theorem SetPhi.typ (h : SetPhi w a ms s.heap) : s.TypeIs (.ref a) "set" := by
  rcases h with ⟨L, es, ep, t, R, e⟩ | ⟨xs, es, ep, t, R, ne, e⟩
  · obtain ⟨o, ho, hex, _⟩ := R.ob; exact ⟨o, ho, hex.1⟩
  · obtain ⟨o, ho, hex, _⟩ := R.ob; exact ⟨o, ho, hex.1⟩
theorem add_code {u : Value} {hv : Int} {n : Nat} {Q : Value → Shared → Prop} (hT : s.TypeIs (.ref a) "set") (hh : ∀ (Q' : Int → Shared → Prop), Q' hv { s with toks := s.toks + n } → wpAny (model P w) A.in1 (pyHash u) Q' E s)
    (h : wpAny (model P w) A.in1 (setAddHashed a u hv) (fun _ s' => Q .none s') E { s with toks := s.toks + n }) : wpAny (model P w) A (call (.builtin "set.add") [.ref a, u]) Q E s := by
  refine wpAny_call_entry F.slot_set_add hT F.entry_set_add ?_ (F.args_set_add_2 _ _)
  unfold Builtin.«set.add» Builtin.Frozenset.oneOther
  simp only [List.isEmpty_nil, bind_assoc]
  unfold Builtin.Frozenset.addrOf setAdd
  refine wpAny_bind (wpAny_pure ?_)
  try dsimp only
  refine wpAny_bind (wpAny_pure ?_)
  try dsimp only
  refine wpAny_bind ?_
  refine wpAny_holding ?_
  refine wpAny_bind (hh _ ?_)
  refine wpAny_mono h (fun b s' hq => ?_) fun _ _ x => x
  show wpAny _ _ (ret Value.none) _ _ _
  exact wpAny_pure ⟨_, rfl, hq⟩
end
section
variable {X : Cx} {pins : List (Addr × Obj)} {σ : L2.St} {H : Hp} {s : Shared} {E : Value → Shared → Prop} {D : Addr} {ms : List VK2}
theorem setHO_get (I : Inv X pins σ H s) (ha : H D = some (SetHO X.w D ms)) : SetPhi X.w D ms s.heap := (I.hok D _ ha).1
/-- what an element must bring -/
def AddOk (K : PySem.W.Frag) (w : World) (D : Addr) (ms : List VK2) (y : V) (H : Hp) (Nx : Hp → Prop) : Prop := ms.length + 1 < 64 ∧
  ((∃ x k, y = .ref x ∧ allTup ms ∧ NKV K H y k ∧ k.depth ≤ 8 ∧ (∀ m ∈ ms, ∃ v, RelV v m.1 ∧ NKV K H v m.2 ∧ m.2.depth ≤ 8) ∧ ∀ ms', (k ∈ ms.map (·.2) → ms' = ms) → (k ∉ ms.map (·.2) → ms'.Perm ((.ref x, k) :: ms)) → Nx (upd H D (SetHO w D ms'))) ∨
   ∃ x, y = .str x ∧ allStr ms ∧ ∀ ms', (∀ m ∈ ms', ∃ y tk, m = (Value.str y tk, NestedKey.text y)) → (NestedKey.text x ∈ ms.map (·.2) → ms'.map (·.2) = ms.map (·.2)) → (NestedKey.text x ∉ ms.map (·.2) → (ms'.map (·.2)).Perm (.text x :: ms.map (·.2))) → Nx (upd H D (SetHO w D ms')))
theorem addN_ok {y : V} {u : Value} {Nx : Hp → Prop} {Q : Value → Shared → Prop} (hu : X.A.units + 65 < cLine) (I : Inv X pins σ H s) (hD : H D = some (SetHO X.w D ms)) (r : RelV y u) (h : AddOk X.K X.w D ms y H Nx)
    (hq : ∀ s' H', Inv X pins σ H' s' → Nx H' → Q .none s') : wpAny (model X.prog X.w) X.A (call (.builtin "set.add") [.ref D, u]) Q E s := by
  have R := setHO_get I hD
  have room : X.A.in1.units + 8 < cLine := by
    have : X.A.in1.units = X.A.units + 1 := rfl
    omega
  have wr : ∀ {h' : Heap} {ms' : List VK2} {t' : Nat}, Heap.SameBut D s.heap h' → SetPhi X.w D ms' h' → Inv X pins σ (upd H D (SetHO X.w D ms')) { s with heap := h', toks := t' } := fun {h' ms' t'} sb new =>
    I.write (e := D) (t' := t') (by rw [hD]; trivial) (.inl rfl) (fun b v hb hv => (sb.2 b hb).trans hv) new.there (setHO_new new)
  obtain ⟨few, h⟩ := h
  rcases h with ⟨x, k, rfl, hm, hk, hd, hms, nx⟩ | ⟨x, rfl, hm, nx⟩
  · cases (show u = Value.ref x from r)
    have hx : TKey s.heap k x := ⟨nkv_is I hk rfl, hd⟩
    refine add_code (n := k.draws) R.typ (fun Q' q => (nestedKind X.prog X.w).pyHash room hx q) ?_
    refine SetPhi.addT (s := { s with toks := s.toks + k.draws }) R hm (fun m hmm => ?_) hx room few fun b h' ms' sb new c1 c2 => hq _ _ (wr sb new) (nx ms' c1 c2)
    obtain ⟨v, r1, r2, r3⟩ := hms m hmm
    exact ⟨nkv_is I r2 r1, r3⟩
  · obtain ⟨tk, rfl⟩ := (show ∃ t, u = Value.str x t from r)
    refine add_code (n := 1) R.typ (fun Q' q => (PySem.strKind X.prog X.w).pyHash (strKind_is _ _ x tk) q) ?_
    exact SetPhi.addS (s := { s with toks := s.toks + 1 }) R hm few fun b h' ms' sb new c1 c2 _ c4 => hq _ _ (wr sb new) (nx ms' c4 c1 c2)
end
section
variable {X : Cx}
/-- {elt for target in iter if ..}: D the new set -/
def tScN (K : PySem.W.Frag) (w : World) (wi : TI) (g : TG) (tt : TT) (te : TE) (vs : List Nat) : TE := fun σ H Q => wi σ H fun J H1 => ∀ D, H1 D = none → ∃ W : Nat → Nat → Hp → Prop, (∃ m, W 0 m (upd H1 D (SetHO w D []))) ∧ ∀ i m H, W i m H →
  (J.stop i H ∧ Q (.ref D) H) ∨ (J.go i H ∧ ∃ Nx : Hp → Prop, (∀ H', Nx H' → ∃ m', m' < m ∧ W (i + 1) m' H') ∧ ∀ x H', J.yld i H x H' → g x (wipe σ vs) H' fun σ2 H2 => wipe σ2 vs = wipe σ vs ∧ tt σ2 H2 fun b H3 =>
    if b = true then te σ2 H3 fun y H4 => ∃ ms, H4 D = some (SetHO w D ms) ∧ AddOk K w D ms y H4 Nx else Nx H3)
theorem scN_core {pins : List (Addr × Obj)} {s : Shared} {σ : L2.St} {H : Hp} {Q : VK} {elt tg iter : Expr} {ifs : List Expr} {scope : Scope} {own : List (PySem.Str × Nat)} {pos pos' : Pos} {wi : TI} {g : TG} {tt : TT} {te : TE} {use : Option (Value → Sem Unit)} {Qf : Value → Shared → Prop}
    (hu : X.A.units + 65 < cLine) (hc : X.calm = true) (hN : X.N.Nodup) (I : Inv X pins σ H s) (hi : PI X tg iter wi) (ok : BlkOk X.N X.env.scope scope own)
    (hg : ∀ (s : Shared) (H : Hp) (C : Addr) (cl : List (PySem.Str × Addr)) (fp : List Addr), PG (X.blk s H scope (compEnvC scope cl C X.env) fp) tg g) (ht : ∀ (s : Shared) (H : Hp) (C : Addr) (cl : List (PySem.Str × Addr)) (fp : List Addr), PTs (X.blk s H scope (compEnvC scope cl C X.env) fp) ifs tt)
    (he : ∀ (s : Shared) (H : Hp) (C : Addr) (cl : List (PySem.Str × Addr)) (fp : List Addr), PE (X.blk s H scope (compEnvC scope cl C X.env) fp) elt te) (hs : ∀ x, foldedSetIterable iter X.env x = pure x)
    (h : tScN X.K X.w wi g tt te (own.map (·.2)) σ H Q)
    (hRR : ∀ D C s' m H', Inv X pins σ H' s' → Q (.ref D) H' → s'.heap.Ns C m → FpOk X pins H' C → compPost (model X.prog X.w) X.A X.xe use Qf (.ref D) C (.ok .next) s') :
    wpAny (model X.prog X.w) X.A (comprehension (.SetComp elt [⟨tg, iter, ifs, 0⟩] scope pos) scope X.env pos' (newSet (.type "set")) false (eval iter X.env) use) Qf X.xe s := by
  have hfree : ∀ y ∈ scope.names, y.2 = .free → ∃ c, X.env.cells.lookup y.1 = some c := fun y hy e => by
    rcases ok.free y hy e with k | k
    · exact I.ok.has _ (.inl k)
    · exact I.ok.has _ (.inr k)
  refine wpAny_comprehension_free (use := use) rfl hs (closure_ok hfree) ok.kind (fun y hy e => by rw [ok.uniq y hy, e]) (thn (hi.run pins s σ H _ I h) fun xv s1 hx => thn hx fun itv s2 h2 => ?_)
  obtain ⟨it, fp, tn, J, H2, e, I2, T, st2, f2, q⟩ := h2
  subst e
  refine PpSet.newSet_ok (newEnv_comp ?_)
  have hDn : H2 s2.heap.objs.size = none := I2.hok.fresh (Nat.le_refl _)
  obtain ⟨W, ⟨m0, w0⟩, turn⟩ := q s2.heap.objs.size hDn
  have hpush : (s2.heap.push { cls := .type "set", dict := none, data := .set #[] 0 (.fresh 0 0 (!X.w.params.followText "set-order")) }).get? s2.heap.objs.size = some { cls := .type "set", dict := none, data := .set #[] 0 (.fresh 0 0 (!X.w.params.followText "set-order")) } := Heap.get?_push_size _ rfl
  have I3 : Inv X pins σ (upd H2 s2.heap.objs.size (SetHO X.w s2.heap.objs.size [])) { s2 with heap := s2.heap.push { cls := .type "set", dict := none, data := .set #[] 0 (.fresh 0 0 (!X.w.params.followText "set-order")) } } :=
    I2.laid (t' := s2.toks) (fun b o e => Heap.get?_push_of_some _ e) (Nat.le_refl _) (setHO_new (SetPhi.new hpush))
  generalize hD : s2.heap.objs.size = D at hDn turn w0 I3
  generalize hs3 : ({ s2 with heap := s2.heap.push { cls := .type "set", dict := none, data := .set #[] 0 (.fresh 0 0 (!X.w.params.followText "set-order")) } } : Shared) = s3 at I3
  have h3 : s3.heap = s2.heap.push { cls := .type "set", dict := none, data := .set #[] 0 (.fresh 0 0 (!X.w.params.followText "set-order")) } := by rw [← hs3]
  have f3 : ∀ b ∈ fp, FpOk X pins (upd H2 D (SetHO X.w D [])) b ∧ b < s3.heap.objs.size := fun b hb => by
    obtain ⟨o, e, _⟩ := T.obj _ _ st2 b hb
    have hlt := Heap.lt_size e
    refine ⟨⟨?_, (f2 b hb).2⟩, by rw [h3, Heap.size_push]; exact Nat.lt_succ_of_lt hlt⟩
    rw [upd_ne (by rw [← hD]; exact Nat.ne_of_lt hlt)]
    exact (f2 b hb).1
  have st3 : tn 0 s3.heap := T.keep _ _ _ st2 fun b _ o e => by rw [h3]; exact Heap.get?_push_of_some _ e
  have I4 := block_start I3 ok hN f3
  have pg := hg s3 (upd H2 D (SetHO X.w D [])) s3.heap.objs.size (cellsFrom (s3.heap.objs.size + 1) scope.names (cloFrom X.env.cells scope.names [])) fp
  have pt := ht s3 (upd H2 D (SetHO X.w D [])) s3.heap.objs.size (cellsFrom (s3.heap.objs.size + 1) scope.names (cloFrom X.env.cells scope.names [])) fp
  have pe := he s3 (upd H2 D (SetHO X.w D [])) s3.heap.objs.size (cellsFrom (s3.heap.objs.size + 1) scope.names (cloFrom X.env.cells scope.names [])) fp
  show codeAny _ _ (.compStart (.SetComp elt [⟨tg, iter, ifs, 0⟩] scope pos) 0 (.ref it) (.ref D) (compEnvC scope (cellsFrom (s3.heap.objs.size + 1) scope.names (cloFrom X.env.cells scope.names [])) s3.heap.objs.size X.env)) (compPost (model X.prog X.w) X.A X.xe use Qf (.ref D) s3.heap.objs.size) { s3 with heap := pushCells (s3.heap.push { cls := .type "dict", data := .dict #[] }) scope.names }
  have nfp : ∀ b ∈ fp, (upd H2 D (SetHO X.w D [])) b = none := fun b hb => (f3 b hb).1.1
  generalize hce : compEnvC scope (cellsFrom (s3.heap.objs.size + 1) scope.names (cloFrom X.env.cells scope.names [])) s3.heap.objs.size X.env = ce at I4 pg pt pe ⊢
  have cL : ce.locals = s3.heap.objs.size := by subst hce; rfl
  generalize hH3 : upd H2 D (SetHO X.w D []) = H3 at I3 I4 pg pt pe w0 nfp f3
  generalize hs4 : ({ s3 with heap := pushCells (s3.heap.push { cls := .type "dict", data := .dict #[] }) scope.names } : Shared) = s4 at I4 ⊢
  have st4 : tn 0 s4.heap := T.keep _ _ _ st3 fun b _ o e => by rw [← hs4]; exact pushCells_keeps _ _ _ _ (Heap.get?_push_of_some _ e)
  have stat : ∀ {σ' : L2.St} {H' : Hp} {s' : Shared}, Inv (X.blk s3 H3 scope ce fp) [] σ' H' s' → (∀ b ∈ fp, H' b = none) → ∀ b ∈ fp, FpOk (X.blk s3 H3 scope ce fp) [] H' b := fun {σ' H' s'} I' hn b hb =>
    ⟨hn b hb, (I'.ok.exf b hb).1, I'.ok.exfs b hb, .inl hb, fun x c e => (I'.ok.exf b hb).2 x c e, fun p hp => absurd (show p ∈ ([] : List (Addr × Obj)) ++ [] from hp) (by simp)⟩
  have loop : codeAny (model X.prog X.w) X.A (.compLoop (.SetComp elt [⟨tg, iter, ifs, 0⟩] scope pos) 0 (.ref it) (.ref D) ce) (compPost (model X.prog X.w) X.A X.xe use Qf (.ref D) s3.heap.objs.size) s4 := by
    refine PpSet.compLoopS_any (fun n s' => ∃ i H', Inv (X.blk s3 H3 scope ce fp) [] (wipe σ (own.map (·.2))) H' s' ∧ tn i s'.heap ∧ (∀ b ∈ fp, H' b = none) ∧ W i n H') ?_ m0 ⟨0, H3, I4, st4, nfp, w0⟩
    rintro n s5 ⟨i, H5, I5, st5, n5, w5⟩
    rcases turn i n H5 w5 with ⟨stop, qq⟩ | ⟨go, Nx, hNx, step⟩
    · refine thnF (T.done (X.blk s3 H3 scope ce fp) rfl rfl rfl hc i [] s5 _ H5 (fun _ _ => False) I5 (stat I5 n5) st5 stop) fun r s6 ⟨hr, I6⟩ => ?_
      subst hr
      have I7 : Inv X pins σ H5 s6 := I3.call' (ch := fp) I6.os I6.base I6.hok I6.bare fun b hb => ⟨(f3 b hb).1.2.2.2.1, (f3 b hb).1.2.1, (f3 b hb).1.2.2.2.2.1, (f3 b hb).1.2.2.2.2.2⟩
      have nC : H5 s3.heap.objs.size = none := by
        have z : H5 ce.locals = none := I6.free
        rwa [cL] at z
      obtain ⟨m, hn, _⟩ := I6.loc
      have hn : s6.heap.Ns ce.locals m := hn
      rw [cL] at hn
      exact hRR D s3.heap.objs.size s6 m H5 I7 qq hn (I3.fpOk (Nat.le_refl _) nC)
    · refine thnF (T.item (X.blk s3 H3 scope ce fp) rfl rfl rfl hc i [] s5 _ H5 (fun _ _ => False) I5 (stat I5 n5) st5 go) fun r s6 ⟨u, hr, h6⟩ => ?_
      subst hr
      refine thnF h6 fun _ s7 ⟨x, H7, I7, r7, y7, st7, n7⟩ => ?_
      have I7' := I7.pinned (stat I7 n7) (T.obj _ _ st7)
      refine thnF (pg.run _ s7 _ H7 x u _ I7' r7 (step x H7 y7)) fun _ s8 ⟨σ8, H8, I8, hw8, q8⟩ => ?_
      refine thnF (pt.run _ s8 σ8 H8 _ I8 q8) fun b s9 ⟨H9, I9, q9⟩ => ?_
      have fin : ∀ {s' : Shared} {H' : Hp}, Inv (X.blk s3 H3 scope ce fp) ([] ++ pinsAt fp s7.heap) σ8 H' s' → Nx H' → ∃ m, m < n ∧ ∃ i H', Inv (X.blk s3 H3 scope ce fp) [] (wipe σ (own.map (·.2))) H' s' ∧ tn i s'.heap ∧ (∀ b ∈ fp, H' b = none) ∧ W i m H' := fun {s' H'} I' nx => by
        obtain ⟨m', hm, w'⟩ := hNx H' nx
        have pin' : ∀ b ∈ fp, ∀ o, s7.heap.get? b = some o → s'.heap.get? b = some o ∧ H' b = none := fun b hb o e =>
          let z := I'.pin (b, o) (List.mem_append_right _ (List.mem_append_right _ (mem_pinsAt hb e)))
          ⟨z.1, z.2.1⟩
        refine ⟨m', hm, i + 1, H', (I'.unpinned (pins := [])).weak (by rw [← hw8, wipe_length]) (fun j v e => ?_), T.keep _ _ _ st7 fun b hb o e => (pin' b hb o e).1, fun b hb => ?_, w'⟩
        · rw [← hw8] at e
          exact (wipe_some e).1
        · obtain ⟨o, e, _⟩ := T.obj _ _ st7 b hb
          exact (pin' b hb o e).2
      cases b with
      | false =>
        simp only [Bool.false_eq_true, if_false] at q9 ⊢
        exact fin I9 q9
      | true =>
        simp only [if_true] at q9 ⊢
        refine thnF (pe.run _ s9 σ8 H9 _ I9 q9) fun z s10 ⟨yv, H10, I10, r10, ms, hD10, ok10⟩ => ?_
        exact addN_ok (X := X.blk s3 H3 scope ce fp) hu I10 hD10 r10 ok10 fun s11 H11 I11 nx => fin I11 nx
  exact PpSet.codeAny_compStart_set loop (T.self X.A 0 _ _ _ st4 loop)
theorem pe_scN {elt tg iter : Expr} {ifs : List Expr} {scope : Scope} {own : List (PySem.Str × Nat)} {pos : Pos} {wi : TI} {g : TG} {tt : TT} {te : TE} (hu : X.A.units + 65 < cLine) (hc : X.calm = true) (hN : X.N.Nodup) (hi : PI X tg iter wi) (ok : BlkOk X.N X.env.scope scope own)
    (hg : ∀ (s : Shared) (H : Hp) (C : Addr) (cl : List (PySem.Str × Addr)) (fp : List Addr), PG (X.blk s H scope (compEnvC scope cl C X.env) fp) tg g) (ht : ∀ (s : Shared) (H : Hp) (C : Addr) (cl : List (PySem.Str × Addr)) (fp : List Addr), PTs (X.blk s H scope (compEnvC scope cl C X.env) fp) ifs tt)
    (he : ∀ (s : Shared) (H : Hp) (C : Addr) (cl : List (PySem.Str × Addr)) (fp : List Addr), PE (X.blk s H scope (compEnvC scope cl C X.env) fp) elt te) (hs : ∀ x, foldedSetIterable iter X.env x = pure x := by intro _; rfl) :
    PE X (.SetComp elt [⟨tg, iter, ifs, 0⟩] scope pos) (tScN X.K X.w wi g tt te (own.map (·.2))) := by
  refine ⟨fun pins s σ H Q I h => ?_⟩
  rw [PpSet.eval_SetComp]
  refine scN_core hu hc hN I hi ok hg ht he hs h fun D C s' m H' I' q hn f => ⟨m, hn, fun h'' sb => ?_⟩
  obtain ⟨f0, f1, f2, f3, f4, f5⟩ := f
  exact ⟨.ref D, H', I'.turned (t' := s'.toks) (fun b o hb e => (sb.2 b hb).trans e) f0 f1 f3 f4 f5, rfl, q⟩
end
end DN

end
section
set_option Elab.async false
set_option linter.all false
set_option maxRecDepth 100000
set_option maxHeartbeats 4000000
/-! E13: the denotation of a set comprehension; sorted(a set), len(a set). -/
namespace DN
open PySem PySem.Spec PyProof.Rows L2
def pTup : P → Bool
  | .tup _ => true
  | _ => false
def pStr : P → Bool
  | .str _ => true
  | _ => false
def addOkP (acc : List P) (q : P) : Bool := match nkOf q with
  | some k => decide (acc.length + 1 < 64) && decide (k.depth ≤ 8) && ((pTup q && acc.all pTup) || (pStr q && acc.all pStr))
  | none => false
/-- the set with one more -/
def addP (acc : List P) (q : P) : List P := if acc.any (fun p => decide (nkOf p = nkOf q)) = true then acc else acc ++ [q]
open Classical in
noncomputable def scG (ok : List MO → Prop) (turn : P → Tau → M (Option P)) (n : Nat) (τ : Tau) : List P → List MO → Option (List MO)
  | [], L => if ok L then some L else none
  | p :: ps, L => if ok L then (match turn p τ L with
    | some (.ok none, L1) => scG ok turn n τ ps L1
    | some (.ok (some q), L1) => (match L1[n]? with
      | some (.set acc) => if addOkP acc q = true then scG ok turn n τ ps (L1.set n (.set (addP acc q))) else none
      | _ => none)
    | _ => none) else none
def scFin (n : Nat) : Option (List MO) → Option (Res D × List MO)
  | some L1 => some (.ok (.r n), L1)
  | none => none
noncomputable def scE (turn : P → Tau → M (Option P)) (τ : Tau) (it : Itm) : M D := fun L => scFin L.length (scG it.2 turn L.length τ it.1 (L ++ [.set []]))
noncomputable def scS (src : Tau → M Itm) (vs : List Nat) (tg : TgD) (tt : Tau → M Bool) (fe : Tau → M D) (τ : Tau) : M D := do
  let it ← src τ
  scE (lcT tg tt fe) (killT vs τ) it
abbrev MemIs (g : G) (F : Hp) (m : VK2) (p : P) : Prop := NK p m.2 ∧ m.2.depth ≤ 8 ∧ ∃ v, RelV v m.1 ∧ Is g F v p
theorem mem_key {g : G} {F : Hp} : ∀ {ms : List VK2} {xs : List P}, Paired (MemIs g F) ms xs → xs.map nkOf = ms.map fun m => some m.2
  | _, _, .nil => rfl
  | _, _, .cons h t => by rw [List.map_cons, List.map_cons, mem_key t, of_nk h.1]
theorem prd_mem_left {α β : Type} {A : α → β → Prop} : ∀ {xs : List α} {ys : List β}, Paired A xs ys → ∀ x ∈ xs, ∃ y ∈ ys, A x y
  | _, _, .nil, _, h => by cases h
  | _, _, .cons h t, x, hx => by
    rcases List.mem_cons.mp hx with z | hx
    · rw [z]; exact ⟨_, List.mem_cons_self, h⟩
    · obtain ⟨y, hy, a⟩ := prd_mem_left t x hx
      exact ⟨y, List.mem_cons_of_mem _ hy, a⟩
theorem prd_app {α β : Type} {A : α → β → Prop} {x : α} {y : β} : ∀ {xs : List α} {ys : List β}, Paired A xs ys → A x y → Paired A (xs ++ [x]) (ys ++ [y])
  | _, _, .nil, h => .cons h .nil
  | _, _, .cons h t, k => .cons h (prd_app t k)
theorem any_key {g : G} {F : Hp} {ms : List VK2} {xs : List P} {q : P} {k : NestedKey} (hk : nkOf q = some k) (h : Paired (MemIs g F) ms xs) : xs.any (fun p => decide (nkOf p = nkOf q)) = true ↔ k ∈ ms.map (·.2) := by
  rw [List.any_eq_true]
  have e := mem_key h
  constructor
  · rintro ⟨p, hp, hd⟩
    have : nkOf p = some k := by rw [of_decide_eq_true hd, hk]
    have h2 : some k ∈ xs.map nkOf := List.mem_map.mpr ⟨p, hp, this⟩
    rw [e] at h2
    obtain ⟨m, hm, e2⟩ := List.mem_map.mp h2
    exact List.mem_map.mpr ⟨m, hm, by injection e2⟩
  · intro hm
    obtain ⟨m, hm, e2⟩ := List.mem_map.mp hm
    have h2 : some k ∈ xs.map nkOf := by rw [e]; exact List.mem_map.mpr ⟨m, hm, by rw [e2]⟩
    obtain ⟨p, hp, e3⟩ := List.mem_map.mp h2
    exact ⟨p, hp, decide_eq_true (by rw [e3, hk])⟩
theorem perm_lift {α β : Type} {f : α → β} : ∀ {ys : List β} {xs : List α}, (xs.map f).Perm ys → ∃ zs : List α, zs.Perm xs ∧ zs.map f = ys
  | [], xs, h => by
    have : xs = [] := by cases xs with
      | nil => rfl
      | cons x xs => have := h.length_eq; simp at this
    exact ⟨[], by rw [this], rfl⟩
  | y :: ys, xs, h => by
    classical
    have hy : y ∈ xs.map f := h.mem_iff.mpr List.mem_cons_self
    obtain ⟨x, hx, e⟩ := List.mem_map.mp hy
    have p1 := List.perm_cons_erase hx
    have p2 : (f x :: (xs.erase x).map f).Perm (y :: ys) := by
      have := p1.map f
      rw [List.map_cons] at this
      exact this.symm.trans h
    rw [e] at p2
    obtain ⟨zs, q1, q2⟩ := perm_lift (List.Perm.cons_inv p2)
    exact ⟨x :: zs, (q1.cons x).trans p1.symm, by rw [List.map_cons, e, q2]⟩
section
variable {X : Cx} {g : G} {W : WX} {fe : Tau → M D} {tt : Tau → M Bool}
/-- one more member, in the ledger -/
theorem addP_ok {F : Hp} {ρ : Nat → Addr} {L : List MO} {H : Hp} {n : Nat} {acc : List P} {v : V} {q : P} {Nx : Hp → Prop} (hR : R g F ρ L H) (el : L[n]? = some (.set acc)) (hv : Is g F v q) (ha : addOkP acc q = true)
    (nx : ∀ H', R g F ρ (L.set n (.set (addP acc q))) H' → Nx H') : ∃ ms, H (ρ n) = some (SetHO g.w (ρ n) ms) ∧ AddOk g.K g.w (ρ n) ms v H Nx := by
  obtain ⟨_, ms, e0, ms1, pm, pr⟩ := hR.ent n _ el (by intro z; cases z)
  refine ⟨ms, e0, ?_⟩
  unfold addOkP at ha
  cases hk : nkOf q with
  | none => rw [hk] at ha; cases ha
  | some k =>
    rw [hk] at ha
    simp only [Bool.and_eq_true, Bool.or_eq_true, decide_eq_true_eq] at ha
    obtain ⟨⟨h1, h2⟩, h3⟩ := ha
    have hlen : ms.length = acc.length := by rw [← pm.length_eq, prd_len pr]
    have hkk := any_key hk pr
    have hkm : k ∈ ms1.map (·.2) ↔ k ∈ ms.map (·.2) := (pm.map (·.2)).mem_iff
    have put : ∀ ms2 : List VK2, (∃ ms3, ms3.Perm ms2 ∧ Paired (MemIs g F) ms3 (addP acc q)) → Nx (upd H (ρ n) (SetHO g.w (ρ n) ms2)) := fun ms2 h => nx _ (hR.put el (by intro z; cases z) _ _ ⟨ms2, upd_same, h⟩)
    refine ⟨by omega, ?_⟩
    rcases h3 with ⟨t1, t2⟩ | ⟨t1, t2⟩
    · left
      cases q with
      | tup ps =>
        obtain ⟨x, vs, rfl, h5, h6⟩ := Is.inv_tup hv
        have hT : ∀ m ∈ ms, ∃ ps v, RelV v m.1 ∧ Is g F v (.tup ps) ∧ NK (.tup ps) m.2 ∧ m.2.depth ≤ 8 := fun m hm => by
          obtain ⟨p, hp, a1, a2, v, a3, a4⟩ := prd_mem_left pr m (pm.mem_iff.mpr hm)
          have := List.all_eq_true.mp t2 p hp
          cases p with
          | tup ps => exact ⟨ps, v, a3, a4, a1, a2⟩
          | _ => cases this
        refine ⟨x, k, rfl, fun m hm => ?_, nkv_of hR.sub hv (nk_of hk), h2, fun m hm => ?_, fun ms2 c1 c2 => put ms2 ?_⟩
        · obtain ⟨ps, v, a1, a2, _⟩ := hT m hm
          obtain ⟨b, _, rfl, _⟩ := Is.inv_tup a2
          exact ⟨b, a1⟩
        · obtain ⟨ps, v, a1, a2, a3, a4⟩ := hT m hm
          exact ⟨v, a1, nkv_of hR.sub a2 a3, a4⟩
        · unfold addP
          by_cases c : k ∈ ms.map (·.2)
          · rw [if_pos (hkk.mpr (hkm.mpr c)), c1 c]
            exact ⟨ms1, pm, pr⟩
          · rw [if_neg fun z => c (hkm.mp (hkk.mp z))]
            exact ⟨ms1 ++ [(Value.ref x, k)], (List.perm_append_singleton _ _).trans ((pm.cons _).trans (c2 c).symm), prd_app pr ⟨nk_of hk, h2, V.ref x, rfl, hv⟩⟩
      | _ => cases t1
    · right
      cases q with
      | str y =>
        obtain rfl : v = .str y := Is.inv_str hv
        have ek : k = .text y := by unfold nkOf at hk; cases hk; rfl
        subst ek
        have hT : ∀ m ∈ ms, ∃ z, RelV (.str z) m.1 := fun m hm => by
          obtain ⟨p, hp, a1, a2, v, a3, a4⟩ := prd_mem_left pr m (pm.mem_iff.mpr hm)
          have := List.all_eq_true.mp t2 p hp
          cases p with
          | str z => rw [Is.inv_str a4] at a3; exact ⟨z, a3⟩
          | _ => cases this
        refine ⟨y, rfl, fun m hm => ?_, fun ms2 c0 c1 c2 => put ms2 ?_⟩
        · obtain ⟨z, t, e⟩ := hT m hm
          exact ⟨z, t, e⟩
        · -- the keys of the new members stand as addP says
          have keys : (ms2.map (·.2)).Perm ((addP acc (.str y)).map fun p => (nkOf p).getD .none) := by
            have hacc : acc.map (fun p => (nkOf p).getD .none) = ms1.map (·.2) := by
              have := congrArg (List.map fun o : Option NestedKey => o.getD .none) (mem_key pr)
              rw [List.map_map, List.map_map] at this
              exact this
            unfold addP
            by_cases c : NestedKey.text y ∈ ms.map (·.2)
            · rw [if_pos (hkk.mpr (hkm.mpr c)), c1 c, hacc]
              exact (pm.map (·.2)).symm
            · rw [if_neg fun z => c (hkm.mp (hkk.mp z)), List.map_append, hacc]
              exact (c2 c).trans (((pm.map (·.2)).symm.cons _).trans (List.perm_append_singleton _ _).symm)
          obtain ⟨ms3, q1, q2⟩ := perm_lift keys
          refine ⟨ms3, q1, ?_⟩
          have hstr : ∀ p ∈ addP acc (.str y), ∃ z, p = .str z := fun p hp => by
            have : p ∈ acc ++ [P.str y] := by
              unfold addP at hp
              split at hp
              · exact List.mem_append_left _ hp
              · exact hp
            rcases List.mem_append.mp this with z | z
            · have := List.all_eq_true.mp t2 p z
              cases p with
              | str z2 => exact ⟨z2, rfl⟩
              | _ => cases this
            · exact ⟨y, List.mem_singleton.mp z⟩
          have pair : ∀ {ms3 : List VK2} {xs : List P}, (∀ m ∈ ms3, ∃ y tk, m = (Value.str y tk, NestedKey.text y)) → (∀ p ∈ xs, ∃ z, p = P.str z) → ms3.map (·.2) = xs.map (fun p => (nkOf p).getD .none) → Paired (MemIs g F) ms3 xs := by
            intro ms3
            induction ms3 with
            | nil => intro xs _ _ e; cases xs with
              | nil => exact .nil
              | cons x xs => cases e
            | cons m ms3 ih => intro xs h1 h2 e; cases xs with
              | nil => cases e
              | cons x xs =>
                simp only [List.map_cons, List.cons.injEq] at e
                obtain ⟨z, tk, rfl⟩ := h1 m List.mem_cons_self
                obtain ⟨z2, rfl⟩ := h2 x List.mem_cons_self
                have e1 : NestedKey.text z = NestedKey.text z2 := by simpa [nkOf] using e.1
                injection e1 with e1
                subst e1
                exact .cons ⟨.str z, by simp [NestedKey.depth], .str z, ⟨tk, rfl⟩, Is.str z⟩ (ih (fun m hm => h1 m (List.mem_cons_of_mem _ hm)) (fun p hp => h2 p (List.mem_cons_of_mem _ hp)) e.2)
          exact pair (fun m hm => c0 m (q1.mem_iff.mp hm)) hstr q2
      | _ => cases t1
theorem sc_sat {src : Tau → M Itm} {vs : List Nat} {t : TG} {tg : TgD} (ht : TgW g vs t tg) {σ : L2.St} {H : Hp} {Q : VK} (h : tE g W (scS src vs tg tt fe) σ H Q) : tScN g.K g.w (tI g W src) t (tT g W0 tt) (tE g W0 fe) vs σ H Q := by
  refine (Sat.bind (ra := relI g) h).mono fun J H1 h1 => ?_
  obtain ⟨F0, ρ0, τ, L0, it, hR0, hS0, _, hsrc, hp0⟩ := h1
  obtain ⟨xs, ok⟩ := it
  intro D hD
  have R1 := hR0.new hD (SetHO g.w D []) (.set []) ⟨[], upd_same, [], .refl _, .nil⟩
  have len1 : (L0 ++ [MO.set []]).length = L0.length + 1 := by rw [List.length_append, List.length_singleton]
  have E1 : Ext F0 ρ0 L0.length F0 (rput ρ0 L0.length D) (L0 ++ [MO.set []]).length := by rw [len1]; exact Ext.new
  have hp1 : Post g (relV g) F0 ρ0 L0.length (fun c d H' => W c d σ H') Q (scFin L0.length (scG ok (lcT tg tt fe) L0.length (killT vs τ) xs (L0 ++ [.set []]))) := hp0
  refine ⟨fun i m H => m = xs.length - i ∧ i ≤ xs.length ∧ ∃ F ρ L, Ext F0 (rput ρ0 L0.length D) (L0.length + 1) F ρ L.length ∧ R g F ρ L H ∧ Post g (relV g) F0 ρ0 L0.length (fun c d H' => W c d σ H') Q (scFin L0.length (scG ok (lcT tg tt fe) L0.length (killT vs τ) (xs.drop i) L)), ⟨xs.length, by simp, Nat.zero_le _, F0, _, _, by rw [len1]; exact Ext.refl, R1, hp1⟩, ?_⟩
  rintro i m H2 ⟨rfl, hi, F, ρ, L, hE, hR, hp⟩
  have hE0 : Ext F0 ρ0 L0.length F ρ L.length := Ext.trans E1 (by rw [len1]; exact hE)
  have hSl : Sl g F ρ L.length σ τ := hS0.ext hE0
  have hrho : ρ L0.length = D := by rw [hE.rho _ (Nat.lt_succ_self _), rput_new]
  by_cases hlt : i < xs.length
  · refine .inr ?_
    have e0 : xs[i]? = some xs[i] := List.getElem?_eq_getElem hlt
    rw [List.drop_eq_getElem_cons hlt] at hp
    unfold scG at hp
    by_cases hk : ok L
    · rw [if_pos hk] at hp
      obtain ⟨go, yl⟩ := (hsrc F ρ L H2 hE0 hR hk).1 i _ e0
      refine ⟨go, fun H' => i + 1 ≤ xs.length ∧ ∃ F ρ L, Ext F0 (rput ρ0 L0.length D) (L0.length + 1) F ρ L.length ∧ R g F ρ L H' ∧ Post g (relV g) F0 ρ0 L0.length (fun c d H' => W c d σ H') Q (scFin L0.length (scG ok (lcT tg tt fe) L0.length (killT vs τ) (xs.drop (i + 1)) L)), fun H' q => ⟨xs.length - (i + 1), by omega, rfl, q⟩, fun x H' hy => ?_⟩
      obtain ⟨F', sb, hR', hx⟩ := yl x H' hy
      have e1 : Ext F ρ L.length F' ρ L.length := ⟨sb, fun _ _ => rfl, Nat.le_refl _⟩
      have hS2 : Sl g F' ρ L.length (wipe σ vs) (killT vs τ) := (hSl.ext e1).wipe vs
      unfold lcT at hp
      match et : tg xs[i] (killT vs τ) with
      | none => rw [et] at hp; exact False.elim hp
      | some τ1 =>
        rw [et] at hp
        dsimp only at hp
        refine ht F' ρ L H' x _ (wipe σ vs) (killT vs τ) τ1 _ hR' hS2 hx et fun σ3 hS3 hw => ⟨by rw [hw, wipe_idem], F', ρ, τ1, L, hR', hS3, (fun y hy => by cases hy), ?_⟩
        match eb : tt τ1 L with
        | none => rw [eb] at hp; exact False.elim hp
        | some (.ex _ _, _) => rw [eb] at hp; exact False.elim hp
        | some (.ok false, L1) =>
          rw [eb] at hp
          dsimp only at hp
          intro F3 ρ3 b3 H3 x1 x2 x3
          subst x3
          rw [if_neg Bool.false_ne_true]
          exact ⟨hlt, F3, ρ3, L1, hE.trans (e1.trans x1), x2, hp⟩
        | some (.ok true, L1) =>
          rw [eb] at hp
          dsimp only at hp
          intro F3 ρ3 b3 H3 x1 x2 x3
          subst x3
          rw [if_pos rfl]
          refine ⟨F3, ρ3, τ1, L1, x2, hS3.ext x1, (fun y hy => by cases hy), ?_⟩
          match ee : fe τ1 L1 with
          | none => rw [ee] at hp; exact False.elim hp
          | some (.ex _ _, _) => rw [ee] at hp; exact False.elim hp
          | some (.ok (.r _), _) => rw [ee] at hp; exact False.elim hp
          | some (.ok (.v q), L2) =>
            rw [ee] at hp
            dsimp only at hp
            intro F4 ρ4 v4 H4 y1 y2 y3
            have hEE := hE.trans (e1.trans (x1.trans y1))
            have hr4 : ρ4 L0.length = D := by rw [hEE.rho _ (Nat.lt_succ_self _), rput_new]
            match el : L2[L0.length]? with
            | some (.set acc) =>
              rw [el] at hp
              dsimp only at hp
              by_cases hz : addOkP acc q = true
              · rw [if_pos hz] at hp
                have fin := addP_ok (Nx := fun H' => i + 1 ≤ xs.length ∧ ∃ F ρ L, Ext F0 (rput ρ0 L0.length D) (L0.length + 1) F ρ L.length ∧ R g F ρ L H' ∧ Post g (relV g) F0 ρ0 L0.length (fun c d H' => W c d σ H') Q (scFin L0.length (scG ok (lcT tg tt fe) L0.length (killT vs τ) (xs.drop (i + 1)) L))) y2 el y3 hz fun H5 r5 => ⟨hlt, F4, ρ4, _, by rw [List.length_set]; exact hEE, r5, hp⟩
                rw [hr4] at fin
                exact fin
              · rw [if_neg hz] at hp; exact False.elim hp
            | none => rw [el] at hp; exact False.elim hp
            | some (.lst _) => rw [el] at hp; exact False.elim hp
            | some (.dk _) => rw [el] at hp; exact False.elim hp
            | some (.dn _) => rw [el] at hp; exact False.elim hp
            | some (.ins _ _) => rw [el] at hp; exact False.elim hp
            | some .dead => rw [el] at hp; exact False.elim hp
    · rw [if_neg hk] at hp
      exact False.elim hp
  · have e : i = xs.length := by omega
    subst e
    rw [List.drop_length] at hp
    unfold scG at hp
    by_cases hk : ok L
    · rw [if_pos hk] at hp
      refine .inl ⟨(hsrc F ρ L H2 hE0 hR hk).2, ?_⟩
      have ln : L0.length < L.length := by have := hE.len; omega
      exact hp F ρ _ H2 hE0 hR ⟨ln, by rw [hrho]⟩
    · rw [if_neg hk] at hp
      exact False.elim hp
theorem de_sc {elt tg iter : Expr} {ifs : List Expr} {pos : Pos} {scope : Scope} {own : List (Str × Nat)} {src : Tau → M Itm} {t : TG} {td : TgD} (hK : X.K = g.K) (hW : X.w = g.w) (hu : X.A.units + 65 < cLine) (hc : X.calm = true) (hN : X.N.Nodup) (hi : PI X tg iter (tI g W src)) (ok : BlkOk X.N X.env.scope scope own)
    (hg : ∀ (s : Shared) (H : Hp) (C : Addr) (cl : List (Str × Addr)) (fp : List Addr), PG (X.blk s H scope (compEnvC scope cl C X.env) fp) tg t) (ht : TgW g (own.map (·.2)) t td)
    (hts : ∀ (s : Shared) (H : Hp) (C : Addr) (cl : List (Str × Addr)) (fp : List Addr), PTs (X.blk s H scope (compEnvC scope cl C X.env) fp) ifs (tT g W0 tt))
    (he : ∀ (s : Shared) (H : Hp) (C : Addr) (cl : List (Str × Addr)) (fp : List Addr), PE (X.blk s H scope (compEnvC scope cl C X.env) fp) elt (tE g W0 fe)) (hs : ∀ x, foldedSetIterable iter X.env x = pure x := by intro _; rfl) :
    PE X (.SetComp elt [⟨tg, iter, ifs, 0⟩] scope pos) (tE g W (scS src (own.map (·.2)) td tt fe)) := PE.weak (pe_scN hu hc hN hi ok hg hts he hs) fun σ H Q h => by
      rw [hK, hW]
      exact sc_sat ht h
end
end DN

end
section
set_option Elab.async false
set_option linter.all false
set_option maxRecDepth 100000
set_option maxHeartbeats 4000000
/-! E14: sorted(a set), len(a set). -/
namespace DN
open PySem PySem.Spec PyProof.Rows L2
mutual
theorem reads_lt {h : Heap} : ∀ {v : Value} {d : PyData} {as : List Addr}, Reads h v d as → ∀ a ∈ as, a < h.objs.size
  | _, _, _, .none, a, ha => by cases ha
  | _, _, _, .bool _, a, ha => by cases ha
  | _, _, _, .int _ _, a, ha => by cases ha
  | _, _, _, .str _ _, a, ha => by cases ha
  | _, _, _, .list h1 _ _ h4, a, ha => by
    rcases List.mem_cons.mp ha with z | z
    · rw [z]; exact Heap.lt_size h1
    · exact readsA_lt h4 a z
  | _, _, _, .tuple _ _ _ h4, a, ha => readsA_lt h4 a ha
  | _, _, _, .dict h1 _ _ h4 h5, a, ha => by
    rcases List.mem_append.mp ha with z | z
    · rcases List.mem_cons.mp z with z | z
      · rw [z]; exact Heap.lt_size h1
      · exact readsA_lt h4 a z
    · exact readsA_lt h5 a z
theorem readsA_lt {h : Heap} : ∀ {vs : List Value} {ds : List PyData} {as : List Addr}, ReadsAll h vs ds as → ∀ a ∈ as, a < h.objs.size
  | _, _, _, .nil, a, ha => by cases ha
  | _, _, _, .cons h1 h2, a, ha => by
    rcases List.mem_append.mp ha with z | z
    · exact reads_lt h1 a z
    · exact readsA_lt h2 a z
end
theorem each_of_prd {α β : Type} {R : α → β → Prop} : ∀ {xs : List α} {ys : List β}, Paired R xs ys → PySem.W.EachIs R xs ys
  | _, _, .nil => .nil
  | _, _, .cons h t => .cons h (each_of_prd t)
section
variable {X : Cx}
def rSortSet (K : PySem.W.Frag) (w : World) : List V → Hp → VK → Prop := fun vs H Q => ∃ (a : Addr) (ms : List VK2) (bs : List (V × P)) (k : V × P → PyData), vs = [V.ref a] ∧ H a = some (SetHO w a ms) ∧ Paired (fun (b : V × P) (m : VK2) => RelV b.1 m.1) bs ms ∧ ms.length < 64 ∧ (∀ b ∈ bs, Dp K H b.1 (k b)) ∧
  PySem.W.AllAlike (bs.map k) ∧ PySem.W.Sortable (bs.map k) ∧ (∀ b ∈ bs, (k b).depth ≤ 50) ∧ ∀ bs' : List (V × P), bs'.Perm bs → ∀ p, H p = none → Q (.ref p) (upd H p (.lst ((bs'.mergeSort (PySem.W.dataLe false k)).map (·.1))))
theorem perm_pair {α β : Type} {R : α → β → Prop} : ∀ {ys ys' : List β} {xs : List α}, Paired R xs ys → ys'.Perm ys → ∃ xs' : List α, xs'.Perm xs ∧ Paired R xs' ys' := by
  intro ys ys' xs h p
  induction p generalizing xs with
  | nil => cases h; exact ⟨[], .refl _, .nil⟩
  | cons y p ih =>
    cases h with
    | cons h1 h2 =>
      obtain ⟨xs', q1, q2⟩ := ih h2
      exact ⟨_ :: xs', q1.cons _, .cons h1 q2⟩
  | swap y z l =>
    cases h with
    | cons h1 h2 =>
      cases h2 with
      | cons h3 h4 => exact ⟨_, List.Perm.swap _ _ _, .cons h3 (.cons h1 h4)⟩
  | trans p q ih1 ih2 =>
    obtain ⟨xs1, a1, a2⟩ := ih2 h
    obtain ⟨xs2, b1, b2⟩ := ih1 a2
    exact ⟨xs2, b1.trans a1, b2⟩
theorem prd_map_right {α β γ : Type} {R : α → γ → Prop} {f : β → γ} : ∀ {xs : List α} {ys : List β}, Paired (fun x y => R x (f y)) xs ys → Paired R xs (ys.map f)
  | _, _, .nil => .nil
  | _, _, .cons h t => .cons h (prd_map_right t)
theorem prd_flip {α β : Type} {R : α → β → Prop} : ∀ {xs : List α} {ys : List β}, Paired R xs ys → Paired (fun y x => R x y) ys xs
  | _, _, .nil => .nil
  | _, _, .cons h t => .cons h (prd_flip t)
theorem prd_weak {α β : Type} {A B : α → β → Prop} : ∀ {xs : List α} {ys : List β}, Paired A xs ys → (∀ x y, y ∈ ys → A x y → B x y) → Paired B xs ys
  | _, _, .nil, _ => .nil
  | _, _, .cons h t, f => .cons (f _ _ List.mem_cons_self h) (prd_weak t fun x y hy => f x y (List.mem_cons_of_mem _ hy))
theorem cr_sortSet (hc : X.calm = true) (hu : X.A.units + 64 < cLine) : CallR X (.builtin "sorted") (rSortSet X.K X.w) := by
  intro pins s σ H vs us Q I r h
  obtain ⟨a, ms, bs, k, rfl, ha, hb, hl, hd, hal, hso, hdp, q⟩ := h
  have R := setHO_get I ha
  rw [Vals.ref1 r]
  refine Calls.call_function_entry kind_sorted plain_sorted entry_sorted (args_sorted1 _) ?_
  unfold Builtin.«sorted»
  refine wpAny_bind (m := checkCount "sorted" 1 1 _) (wpAny_pure ?_)
  refine wpAny_bind (R.collect (A := X.A.in1) (I.ok.hd hc) fun s1 out k1 hz g1 o1 pm => ?_)
  -- the members in the order of the walk
  obtain ⟨bs', pb, hb'⟩ := perm_pair (prd_map_right (f := fun m : VK2 => m.1) hb) pm
  have ol : out.length < 64 := by rw [pm.length_eq, List.length_map]; exact hl
  refine wpAny_bind (wpAny_newList ?_ (by rw [sizeLine_eq]; omega))
  have hoL : (s1.heap.push (seqObj "list" out.toArray 0)).get? s1.heap.objs.size = some (seqObj "list" out.toArray 0) := Heap.get?_push_size _ rfl
  have kp : ∀ b o, s.heap.get? b = some o → (s1.heap.push (seqObj "list" out.toArray 0)).get? b = some o := fun b o e => Heap.get?_push_of_some _ (k1 b o e)
  have e1 : PySem.W.EachIs (fun u (b : V × P) => RelV b.1 u) out bs' := each_of_prd (prd_flip hb')
  have e2 : PySem.W.EachIs (fun v (b : V × P) => ∃ as, Reads (s1.heap.push (seqObj "list" out.toArray 0)) v (k b) as ∧ s1.heap.objs.size ∉ as) out bs' := each_of_prd (prd_weak (prd_flip hb') fun v b hbm hr => by
    obtain ⟨as, rd⟩ := Dp.reads I (k b) b.1 v (hd b (pb.mem_iff.mp hbm)) hr
    refine ⟨as, PyProof.Rows.Reads.keeps (fun b o e => kp b o e) rd, fun hm => ?_⟩
    exact Nat.not_lt.mpr hz (reads_lt rd _ hm))
  have hmap : ∀ {d : PyData}, d ∈ bs'.map k → d ∈ bs.map k := fun {d} hd => (pb.map k).mem_iff.mp hd
  have hal' : PySem.W.AllAlike (bs'.map k) := fun d hd d' hd' => hal d (hmap hd) d' (hmap hd')
  have hso' : PySem.W.Sortable (bs'.map k) := by
    rcases hso with h | h
    · exact .inl fun d hd => h d (hmap hd)
    · exact .inr fun d hd => h d (hmap hd)
  have hlen : bs'.length = out.length := e1.length.symm
  refine wpAny_bind (wpAny_holding (PySem.W.list_sort_data (s := { s1 with heap := s1.heap.push (seqObj "list" out.toArray 0) }) (enc := k) hoL e1 e2 hal' hso' (by rw [hlen, sizeLine_eq]; omega) (fun b hbm => ?_) fun out2 ho he => ?_))
  · have := hdp b (pb.mem_iff.mp hbm)
    have e : X.A.in1.units = X.A.units + 1 := rfl
    show X.A.in1.units + 1 + (k b).depth < cLine
    omega
  · obtain ⟨c, hc2⟩ := sortedHeap_at (vs := out) (out := out2.toArray) hoL
    have hn : H s1.heap.objs.size = none := I.hok.fresh hz
    have hl2 : ((bs'.mergeSort (PySem.W.dataLe false k)).map (·.1)).length ≤ sizeLine := by
      rw [List.length_map, (List.mergeSort_perm _ _).length_eq, hlen, sizeLine_eq]
      omega
    have keep : ∀ b o, s.heap.get? b = some o → (sortedHeap (s1.heap.push (seqObj "list" out.toArray 0)) s1.heap.objs.size out out2.toArray).get? b = some o := fun b o e => by
      have hlt := Heap.lt_size (k1 b o e)
      rw [sortedHeap_old (Nat.ne_of_lt hlt) (by rw [size_push']; exact Nat.lt_succ_of_lt hlt)]
      exact kp b o e
    have J : Inv X pins σ (upd H s1.heap.objs.size (.lst ((bs'.mergeSort (PySem.W.dataLe false k)).map (·.1)))) { s with heap := sortedHeap (s1.heap.push (seqObj "list" out.toArray 0)) s1.heap.objs.size out out2.toArray, gens := s1.gens, drawn := s1.drawn, toks := s1.toks } :=
      I.call (ch := []) (Un.laid keep hz hn) (I.hok.laid keep hz ⟨hl2, out2, c, vals_of_each he, by simpa using hc2⟩) (by rw [g1]; exact I.bare) (fun _ z => nomatch z)
    have es : ({ s1 with heap := sortedHeap (s1.heap.push (seqObj "list" out.toArray 0)) s1.heap.objs.size out out2.toArray } : Shared) = { s with heap := sortedHeap (s1.heap.push (seqObj "list" out.toArray 0)) s1.heap.objs.size out out2.toArray, gens := s1.gens, drawn := s1.drawn, toks := s1.toks } := by
      cases s1
      cases s
      cases o1
      rfl
    refine wpAny_pure ⟨_, rfl, ?_⟩
    rw [es]
    exact ⟨.ref _, _, J, rfl, q bs' pb _ hn⟩
def rLenSet (w : World) : List V → Hp → VK → Prop := fun vs H Q => ∃ (a : Addr) (ms : List VK2), vs = [V.ref a] ∧ H a = some (SetHO w a ms) ∧ Q (.int ms.length) H
theorem cr_lenSet : CallR X (.builtin "len") (rLenSet X.w) := by
  intro pins s σ H vs us Q I r h
  obtain ⟨a, ms, rfl, ha, q⟩ := h
  have R := setHO_get I ha
  rw [Vals.ref1 r]
  exact R.len ⟨.int ms.length, H, I.tok _, ⟨_, rfl⟩, q⟩
end
end DN

end
section
set_option Elab.async false
set_option linter.all false
set_option maxRecDepth 100000
set_option maxHeartbeats 4000000
/-! E15: set(xs), xs a list of texts. -/
namespace DN
open PySem PySem.Spec PyProof.Rows L2
def addX (acc : List Str) (x : Str) : List Str := if x ∈ acc then acc else acc ++ [x]
/-- each text once -/
def dedX (xs : List Str) : List Str := xs.foldl addX []
theorem dedX_snoc (xs : List Str) (x : Str) : dedX (xs ++ [x]) = addX (dedX xs) x := by unfold dedX; rw [List.foldl_append]; rfl
theorem text_mem {xs : List Str} {y : Str} : NestedKey.text y ∈ xs.map NestedKey.text ↔ y ∈ xs := by
  rw [List.mem_map]
  exact ⟨fun ⟨z, hz, e⟩ => by injection e with e; rw [← e]; exact hz, fun h => ⟨y, h, rfl⟩⟩
def TxSet (w : World) (h : Heap) (S : Addr) (xs : List Str) : Prop := ∃ ms, SetPhi w S ms h ∧ (∀ m ∈ ms, ∃ y tk, m = (Value.str y tk, NestedKey.text y)) ∧ (ms.map (·.2)).Perm ((dedX xs).map NestedKey.text)
section
variable {P : Program} {w : World} {A : Around} {E : Value → Shared → Prop} {s : Shared}
theorem dedX_len (xs : List Str) : (dedX xs).length ≤ xs.length := by
  have key : ∀ (xs acc : List Str), (xs.foldl addX acc).length ≤ acc.length + xs.length := by
    intro xs
    induction xs with
    | nil => intro acc; simp
    | cons x xs ih =>
      intro acc
      have h1 := ih (addX acc x)
      have h2 : (addX acc x).length ≤ acc.length + 1 := by unfold addX; split <;> simp
      simp only [List.foldl_cons, List.length_cons]
      omega
  have := key xs []
  unfold dedX
  simpa using this
theorem TxSet.step {S : Addr} {xs : List Str} {x : Str} {tk : Tok} (h : TxSet w s.heap S xs) (hx : xs.length + 1 < 64) {Q : Bool → Shared → Prop} (hQ : ∀ b h', Heap.SameBut S s.heap h' → TxSet w h' S (xs ++ [x]) → Q b { s with heap := h' }) :
    wpAny (model P w) A (setAddHashed S (.str x tk) (hashStr w x)) Q E s := by
  obtain ⟨ms, R, hm, pm⟩ := h
  have hl : ms.length ≤ xs.length := by
    have := pm.length_eq
    rw [List.length_map, List.length_map] at this
    rw [this]
    exact dedX_len xs
  have hin : NestedKey.text x ∈ ms.map (·.2) ↔ x ∈ dedX xs := pm.mem_iff.trans text_mem
  refine SetPhi.addS R (fun m hmm => let ⟨y, t, e⟩ := hm m hmm; ⟨y, t, by rw [e]⟩) (by omega) fun b h' ms' sb new c1 c2 _ c4 => hQ b h' sb ⟨ms', new, c4, ?_⟩
  rw [dedX_snoc]
  unfold addX
  by_cases c : x ∈ dedX xs
  · rw [if_pos c, c1 (hin.mpr c)]
    exact pm
  · rw [if_neg c, List.map_append]
    exact (c2 fun z => c (hin.mp z)).trans ((pm.cons _).trans (List.perm_append_singleton _ _).symm)
theorem TxSet.at {h h' : Heap} {S : Addr} {xs : List Str} (x : TxSet w h S xs) (k : ∀ o, h.get? S = some o → h'.get? S = some o) : TxSet w h' S xs := by
  obtain ⟨ms, R, r⟩ := x
  exact ⟨ms, R.at k, r⟩
theorem loop_tx {I : Addr} {fp wr : List Addr} {G : Array GenState → Array GenState → Prop} {n : Nat} {Pv : Nat → Value → Prop} {St : Nat → Shared → Prop} {R : Result → Shared → Prop}
    (W : WalksS P w A.in1 I fp wr G n Pv St) (S : Addr) (hSf : S ∉ fp) (xs : List Str) (hn : n = xs.length) (hfew : xs.length < 63) (hval : ∀ i v, Pv i v → ∃ x tk, xs[i]? = some x ∧ v = .str x tk) :
    ∀ (k i : Nat) (s : Shared), n - i = k → i ≤ n → St i s → TxSet w s.heap S (xs.take i) →
      (∀ s', Moved (S :: wr) G s s' → TxSet w s'.heap S xs → R (.ok (.ret .none)) s') → codeAny (model P w) A (.builtin "set.update.loop" ⟨[.ref S, .ref I], []⟩) R s := by
  have hSw : S ∉ wr := fun h => hSf (W.sub _ h)
  have sub : ∀ b ∈ wr, b ∈ S :: wr := fun b hb => List.mem_cons_of_mem _ hb
  intro k
  induction k with
  | zero =>
    intro i s hk hi hst hS hR
    have hin : i = n := by omega
    subst hin
    refine codeAny_builtin F.entry_set_update_loop ?_
    rw [Around.under_plainId F.plain_set_update_loop _]
    show wpAny _ A.in1 (pyNext (.ref I) >>= _) _ _ s
    refine wpAny_bind (W.done s _ _ hst fun s' hm => ?_)
    show wpAny _ A.in1 (ret Value.none) _ _ s'
    rw [hn, List.take_length] at hS
    exact wpAny_pure (hR s' (hm.mono sub) (hS.at fun o e => hm.heap S o hSw e))
  | succ k ih =>
    intro i s hk hi hst hS hR
    have hlt : i < n := by omega
    refine codeAny_builtin F.entry_set_update_loop ?_
    rw [Around.under_plainId F.plain_set_update_loop _]
    show wpAny _ A.in1 (pyNext (.ref I) >>= _) _ _ s
    refine wpAny_bind (W.item i s _ _ hlt hst fun v s' hP hst' hm => ?_)
    obtain ⟨x, tk, hx, rfl⟩ := hval i v hP
    have hS' : TxSet w s'.heap S (xs.take i) := hS.at fun o e => hm.heap S o hSw e
    have tn : xs.take (i + 1) = xs.take i ++ [x] := by rw [List.take_succ, hx]; rfl
    show wpAny _ A.in1 (holding [Value.str x tk] (setAdd S (.str x tk)) >>= _) _ _ s'
    refine wpAny_bind (wpAny_holding ?_)
    unfold setAdd
    refine wpAny_holding ?_
    refine wpAny_bind ((PySem.strKind P w).pyHash (k := x) (strKind_is _ _ _ _) ?_)
    refine TxSet.step (s := { s' with toks := s'.toks + 1 }) hS' (by rw [List.length_take]; omega) fun b h' sb hS2 => ?_
    rw [← tn] at hS2
    refine wpAny_pure ⟨plainId_quiet F.plain_set_update_loop _, ih (i + 1) _ (by omega) hlt (W.frame _ s' _ _ hst' (Nat.le_succ _) fun b hb o e => ?_) hS2 fun s'' hm2 hS3 => ?_⟩
    · rw [sb.2 b (fun h : b = S => hSf (by rw [← h]; exact hb))]; exact e
    · refine hR s'' (Moved.trans W.gtrans ((hm.mono sub).then_heap (Nat.le_succ _) fun b o hb e => ?_) hm2) hS3
      rw [sb.2 b (fun h : b = S => hb (by rw [h]; exact List.mem_cons_self))]; exact e
set_option maxHeartbeats 6400000 in
theorem call_set_tx {l : Addr} {items : Array Value} {xs : List Str} {Q : Value → Shared → Prop} (hh : A.handled = none) (hl : s.heap.IsList l items) (hi : PyProof.Rows.StrsAre items.toList xs) (hfew : xs.length < 63)
    (h : ∀ (h' : Heap) (tk : Nat), TxSet w h' s.heap.objs.size xs → (∀ b o, b < s.heap.objs.size → s.heap.get? b = some o → h'.get? b = some o) → Q (.ref s.heap.objs.size) { s with heap := h', toks := tk }) :
    wpAny (model P w) A (call (.type "set") [.ref l]) Q E s := by
  obtain ⟨c, tl, hmro⟩ := PySem.F.called_set.mro
  have hmade := PySem.F.called_set.made
  have hsub := PySem.F.called_set.sub
  refine wpAny_call (codeAny_of_tree ?_)
  show wpAny _ _ (callAny (.type "set") _) _ _ _
  refine wpAny_pure ⟨Code.quiet_builtin _ (by decide +kernel), codeAny_builtin PySem.F.entry_type_call ?_⟩
  rw [Around.under_plain (weight_type_call_type "set" [.ref l] []) rfl]
  have h1 := PySem.F.called_set.notType
  have h2 := PySem.F.called_set.canCreate
  have hct := PySem.F.typeCall_set_1 (.ref l)
  repeat (any_goals (first | assumption | wp_step))
  refine codeAny_mono (code_set_led1 (.ref l) (E := E) (Q₁ := fun obj s₁ => obj = .ref s.heap.objs.size ∧ s₁ = { s with heap := s.heap.push { cls := .type "set", dict := none, data := .set #[] 0 (.fresh 0 0 (!w.params.followText "set-order")) } }) ⟨rfl, rfl⟩) fun r s₁ hr => ?_
  match r, hr with
  | .error e, hr => exact hr
  | .ok (.ret obj), hr =>
    obtain ⟨rfl, rfl⟩ := hr
    have hS : (s.heap.push { cls := .type "set", dict := none, data := .set #[] 0 (.fresh 0 0 (!w.params.followText "set-order")) }).get? s.heap.objs.size = some { cls := .type "set", dict := none, data := .set #[] 0 (.fresh 0 0 (!w.params.followText "set-order")) } := Heap.get?_push_size _ rfl
    have hT : Shared.TypeIs { s with heap := s.heap.push { cls := .type "set", dict := none, data := .set #[] 0 (.fresh 0 0 (!w.params.followText "set-order")) } } (.ref s.heap.objs.size) "set" := ⟨_, hS, rfl⟩
    have hli := PySem.F.called_set.init.lookup
    have hbi := PySem.F.called_set.init.bind (.ref s.heap.objs.size)
    repeat (any_goals (first | assumption | wp_step))
    refine codeAny_mono (codeAny_call_builtin (R := wants (fun r s₂ => r = .none ∧ ∃ h' tk, s₂ = { s with heap := h', toks := tk } ∧ TxSet w h' s.heap.objs.size xs ∧ (∀ b o, b < s.heap.objs.size → s.heap.get? b = some o → h'.get? b = some o)) E) PySem.F.called_set.init.plain PySem.F.entry_set_init (check_set_init_1 hT ?_)) fun r₂ s₂ hr₂ => ?_
    · obtain ⟨ol, hol, hcl, nl, hdl⟩ := hl
      obtain ⟨ocls, odict, odata, oslots⟩ := ol
      simp only at hcl hdl
      subst hcl; subst hdl
      have hol' : (s.heap.push { cls := .type "set", dict := none, data := .set #[] 0 (.fresh 0 0 (!w.params.followText "set-order")) }).get? l = some { cls := .type "list", dict := odict, data := .seq items nl, slots := oslots } := Heap.get?_push_of_some _ hol
      have hsls := PySem.F.sub_list_set
      have hslf := PySem.F.sub_list_frozenset
      have hne : (Value.type "list" == Value.type "dict") = false := by decide
      have hl1 : (s.heap.push { cls := .type "set", dict := none, data := .set #[] 0 (.fresh 0 0 (!w.params.followText "set-order")) }).IsList l items := ⟨_, hol', rfl, nl, rfl⟩
      unfold Builtin.«set.__init__» noKeywords Builtin.Frozenset.updateFrom
      generalize hPI : pyIter = PI
      wp_walk
      subst hPI
      refine wpAny_pyIter_list hl1 ?_
      refine wpAny_bind (wpAny_runValue ?_)
      have hlS : l < s.heap.objs.size := Heap.lt_size hol
      have hh3 : A.in1.in1.in1.handled = none := by simp [hh]
      have hneI : l ≠ (s.heap.push { cls := .type "set", dict := none, data := .set #[] 0 (.fresh 0 0 (!w.params.followText "set-order")) }).objs.size := by
        rw [Heap.size_push]; exact Nat.ne_of_lt (Nat.lt_succ_of_lt hlS)
      have hSf : s.heap.objs.size ∉ [(s.heap.push { cls := .type "set", dict := none, data := .set #[] 0 (.fresh 0 0 (!w.params.followText "set-order")) }).objs.size, l] := by
        rw [Heap.size_push]; simp only [List.mem_cons, List.mem_singleton, List.not_mem_nil, or_false, not_or]
        exact ⟨Nat.ne_of_lt (Nat.lt_succ_self _), Nat.ne_of_gt hlS⟩
      have hisz : items.size = xs.length := by rw [← Array.length_toList, hi.length]
      have hval : ∀ (i : Nat) (v : Value), items[i]? = some v → ∃ x tk, xs[i]? = some x ∧ v = .str x tk := fun i v hv => by
        have q : items.toList[i]? = some v := by rw [Array.getElem?_toList]; exact hv
        obtain ⟨t, e⟩ := SS.strs_at hi i v q
        have hlt : i < xs.length := by rw [← hisz]; exact (Array.getElem?_eq_some_iff.mp hv).1
        exact ⟨xs[i], t, List.getElem?_eq_getElem hlt, by rw [e]; simp [List.getD_eq_getElem?_getD, List.getElem?_eq_getElem hlt]⟩
      refine loop_tx ((Walks.list hh3 _ l hneI items).toS) s.heap.objs.size hSf xs hisz hfew hval (items.size - 0) 0 _ (by omega) (Nat.zero_le _)
        ⟨⟨_, Heap.get?_push_size _ rfl, rfl, rfl⟩, (hl1.push _)⟩ ?hS0 ?hR
      case hS0 =>
        exact ⟨[], SetPhi.new (Heap.get?_push_of_some _ hS), fun m hm => (by cases hm), .refl _⟩
      case hR =>
        intro s' hm hS'
        obtain ⟨h', g2, d', tk', os'⟩ := s'
        have eg : g2 = s.gens := hm.gens
        have ed : d' = s.drawn := hm.drawn
        have eo : os' = s.os := hm.os
        subst eg; subst ed; subst eo
        show wpAny _ _ _ _ _ _
        refine wpAny_pure ?_
        show wpAny _ _ (ret Value.none) _ _ _
        refine wpAny_pure ⟨rfl, h', tk', rfl, hS', fun b o hb e => hm.heap b o (fun z => ?_) (Heap.get?_push_of_some _ (Heap.get?_push_of_some _ e))⟩
        rcases List.mem_cons.mp z with z | z
        · rw [z] at hb; exact Nat.lt_irrefl _ hb
        · have z := List.mem_singleton.mp z
          rw [z, Heap.size_push] at hb
          exact Nat.lt_irrefl _ (Nat.lt_of_succ_lt hb)
    · match r₂, hr₂ with
      | .error e, hr₂ => exact hr₂
      | .ok (.ret r), hr₂ =>
        obtain ⟨rfl, h', tk, rfl, hS', hk'⟩ := hr₂
        repeat (any_goals (first | assumption | wp_step))
        exact h _ _ hS' hk'
      | .ok .next, hr₂ => exact hr₂.elim
      | .ok .brk, hr₂ => exact hr₂.elim
      | .ok .cont, hr₂ => exact hr₂.elim
  | .ok .next, hr => exact hr.elim
  | .ok .brk, hr => exact hr.elim
  | .ok .cont, hr => exact hr.elim
end
end DN

end
section
set_option Elab.async false
set_option linter.all false
set_option maxRecDepth 100000
set_option maxHeartbeats 4000000
/-! E16: set(xs), sorted and len of a set: what they denote. -/
namespace DN
open PySem PySem.Spec PyProof.Rows L2
section
variable {X : Cx} {g : G} {W : WX}
def rSetTx (K : PySem.W.Frag) (w : World) : List V → Hp → VK → Prop := fun vs H Q => ∃ (l : Addr) (ys : List Str), vs = [V.ref l] ∧ SqL K H l (ys.map V.str) ∧ ys.length < 63 ∧
  ∀ D, H D = none → ∀ ms : List VK2, (∀ m ∈ ms, ∃ y tk, m = (Value.str y tk, NestedKey.text y)) → (ms.map (·.2)).Perm ((dedX ys).map NestedKey.text) → Q (.ref D) (upd H D (SetHO w D ms))
theorem strsAre_vals : ∀ {ys : List Str} {us : List Value}, Vals (ys.map V.str) us → PyProof.Rows.StrsAre us ys
  | [], _, r => by cases r; exact .nil
  | y :: ys, _, r => by
    cases r with
    | cons r1 r2 =>
      obtain ⟨t, rfl⟩ := (show ∃ t, _ = Value.str y t from r1)
      exact .cons _ _ (strsAre_vals r2)
theorem cr_setTx (hc : X.calm = true) : CallR X (.type "set") (rSetTx X.K X.w) := by
  intro pins s σ H vs us Q I r h
  obtain ⟨l, ys, rfl, hs, few, q⟩ := h
  obtain ⟨its, rv, hl, hz⟩ := I.list hs
  rw [Vals.ref1 r]
  refine call_set_tx (I.ok.hd hc) hl.isList (strsAre_vals rv) few fun h' tk S keep => ?_
  obtain ⟨ms, S1, S2, S3⟩ := S
  have hn : H s.heap.objs.size = none := I.hok.fresh (Nat.le_refl _)
  exact ⟨.ref s.heap.objs.size, _, I.laid (t' := tk) (fun b o e => keep b o (Heap.lt_size e) e) (Nat.le_refl _) (setHO_new S1), rfl, q _ hn ms S2 S3⟩
/-- set(xs), a list of texts -/
def setD : List D → M D := oneD fun d L => match (asL L d).bind strsOf with
  | some ys => if ys.length < 63 then some (.ok (.r L.length), L ++ [.set ((dedX ys).map P.str)]) else none
  | none => none
theorem tx_pair {F : Hp} : ∀ {ms : List VK2} {ys : List Str}, (∀ m ∈ ms, ∃ y tk, m = (Value.str y tk, NestedKey.text y)) → ms.map (·.2) = ys.map NestedKey.text → Paired (MemIs g F) ms (ys.map P.str)
  | [], [], _, _ => .nil
  | [], _ :: _, _, e => by cases e
  | _ :: _, [], _, e => by cases e
  | m :: ms, y :: ys, h, e => by
    rw [List.map_cons, List.map_cons, List.cons.injEq] at e
    obtain ⟨z, tk, rfl⟩ := h m List.mem_cons_self
    have e1 : NestedKey.text z = NestedKey.text y := e.1
    injection e1 with e1
    subst e1
    exact .cons ⟨.str z, by simp [NestedKey.depth], .str z, ⟨tk, rfl⟩, Is.str z⟩ (tx_pair (fun m hm => h m (List.mem_cons_of_mem _ hm)) e.2)
theorem cd_set {K : PySem.W.Frag} {w : World} (hK : K = g.K) (hw : w = g.w) : CallD g setD (rSetTx K w) := by
  subst hK; subst hw
  refine cd_one fun F ρ L H x d W Q hR hx hp => ?_
  match e1 : asL L d with
  | none => rw [e1] at hp; exact False.elim hp
  | some ps =>
    rw [e1] at hp
    dsimp only [Option.bind] at hp
    match e2 : strsOf ps with
    | none => rw [e2] at hp; exact False.elim hp
    | some ys =>
      rw [e2] at hp
      dsimp only at hp
      by_cases hk : ys.length < 63
      · rw [if_pos hk] at hp
        obtain ⟨p, ws, rfl, h1, h2⟩ := asL_sq hR hx e1
        have eu := strs_is h2 e2
        subst eu
        refine ⟨p, ys, rfl, h1, hk, fun D hD ms c1 c2 => ?_⟩
        obtain ⟨ms2, q1, q2⟩ := perm_lift c2
        have R1 := hR.new hD (SetHO g.w D ms) (.set ((dedX ys).map P.str)) ⟨ms, upd_same, ms2, q1, tx_pair (fun m hm => c1 m (q1.mem_iff.mp hm)) q2⟩
        have len1 : (L ++ [MO.set ((dedX ys).map P.str)]).length = L.length + 1 := by rw [List.length_append, List.length_singleton]
        exact hp F _ _ _ (by rw [len1]; exact Ext.new) R1 ⟨by rw [len1]; exact Nat.lt_succ_self _, by rw [rput_new]⟩
      · rw [if_neg hk] at hp
        exact False.elim hp
/-- what is in a set -/
def asSet (L : List MO) : D → Option (List P)
  | .r n => match L[n]? with
    | some (.set xs) => some xs
    | _ => none
  | _ => none
theorem asSet_at {F : Hp} {ρ : Nat → Addr} {L : List MO} {H : Hp} {x : V} {d : D} {xs : List P} (hR : R g F ρ L H) (hx : IsD g F ρ L.length x d) (h : asSet L d = some xs) : ∃ a ms ms', x = .ref a ∧ H a = some (SetHO g.w a ms) ∧ ms'.Perm ms ∧ Paired (MemIs g F) ms' xs := by
  cases d with
  | v p => cases h
  | r n =>
    unfold asSet at h
    dsimp only at h
    match e : L[n]?, h with
    | some (.set ys), h =>
      cases h
      obtain ⟨_, ms, h2, ms', h3, h4⟩ := hR.ent n _ e (by intro z; cases z)
      exact ⟨ρ n, ms, ms', hx.2, h2, h3, h4⟩
def lenSD : List D → M D := oneD fun d L => (asSet L d).map fun xs => (.ok (.v (.int xs.length)), L)
theorem cd_lenS {w : World} (hw : w = g.w) : CallD g lenSD (rLenSet w) := by
  subst hw
  refine cd_one fun F ρ L H x d W Q hR hx hp => ?_
  match e1 : asSet L d with
  | none => rw [e1] at hp; exact False.elim hp
  | some xs =>
    rw [e1] at hp
    obtain ⟨a, ms, ms', rfl, h2, h3, h4⟩ := asSet_at hR hx e1
    refine ⟨a, ms, rfl, h2, ?_⟩
    have : ms.length = xs.length := by rw [← h3.length_eq, prd_len h4]
    rw [this]
    exact hp.val hR (.int _)
open Classical in
noncomputable def sortSD (mu : Bool) : List D → M D := oneD fun d L => match asSet L d with
  | some ps => match toDs ps with
    | some qs => if (sortOk qs && sortTag qs && qs.all fun d => decide (d.depth ≤ 50)) = true ∧ ps.length < 64 ∧ ∀ ys : List P, ys.Perm ps → sortQ ys = sortQ ps then some (if mu = true then (.ok (.r L.length), L ++ [.lst (sortQ ps)]) else (.ok (.v (.lst (sortQ ps))), L)) else none
    | none => none
  | none => none
theorem prd_bs {F : Hp} : ∀ {ms : List VK2} {ps : List P}, Paired (MemIs g F) ms ps → ∃ bs : List (V × P), Paired (fun (b : V × P) (m : VK2) => RelV b.1 m.1) bs ms ∧ bs.map (·.2) = ps ∧ ∀ b ∈ bs, Is g F b.1 b.2
  | _, _, .nil => ⟨[], .nil, rfl, by simp⟩
  | _, _, .cons h t => by
    obtain ⟨bs, b1, b2, b3⟩ := prd_bs t
    obtain ⟨_, _, v, h1, h2⟩ := h
    refine ⟨(v, _) :: bs, .cons h1 b1, by rw [List.map_cons, b2], fun b hb => ?_⟩
    rcases List.mem_cons.mp hb with z | hb
    · rw [z]; exact h2
    · exact b3 b hb
theorem cd_sortS {mu : Bool} {K : PySem.W.Frag} {w : World} (hK : K = g.K) (hw : w = g.w) : CallD g (sortSD mu) (rSortSet K w) := by
  subst hK; subst hw
  refine cd_one fun F ρ L H x d W Q hR hx hp => ?_
  match e1 : asSet L d with
  | none => rw [e1] at hp; exact False.elim hp
  | some ps =>
    rw [e1] at hp
    dsimp only at hp
    match e2 : toDs ps with
    | none => rw [e2] at hp; exact False.elim hp
    | some qs =>
      rw [e2] at hp
      dsimp only at hp
      by_cases hk : (sortOk qs && sortTag qs && qs.all fun d => decide (d.depth ≤ 50)) = true ∧ ps.length < 64 ∧ ∀ ys : List P, ys.Perm ps → sortQ ys = sortQ ps
      · rw [if_pos hk] at hp
        obtain ⟨hk, hl, huni⟩ := hk
        rw [Bool.and_eq_true, Bool.and_eq_true] at hk
        obtain ⟨⟨k1, k2⟩, k3⟩ := hk
        obtain ⟨a, ms, ms', rfl, h2, h3, h4⟩ := asSet_at hR hx e1
        obtain ⟨bs0, c1, c2, c3⟩ := prd_bs h4
        -- in the order of the rows
        obtain ⟨bs, p1, p2⟩ := perm_pair c1 h3.symm
        have pp : (bs.map (·.2)).Perm ps := by rw [← c2]; exact p1.map _
        obtain ⟨t1, t2⟩ := toDs_all e2
        have mem2 : ∀ b ∈ bs, b.2 ∈ ps := fun b hb => pp.mem_iff.mp (List.mem_map_of_mem hb)
        have km : (bs.map (fun b => keyP b.2)).Perm qs := by
          rw [t1]
          have := pp.map keyP
          rw [List.map_map] at this
          exact this
        have is3 : ∀ b ∈ bs, Is g F b.1 b.2 := fun b hb => c3 b (p1.mem_iff.mp hb)
        have hal := sort_alike k1
        have hso := sort_able k2
        refine ⟨a, ms, bs, fun b => keyP b.2, rfl, h2, p2, by rw [← h3.length_eq, prd_len h4]; exact hl, fun b hb => dp_of hR.sub (is3 b hb) (t2 _ (mem2 b hb)), fun d hd d' hd' => hal d (km.mem_iff.mp hd) d' (km.mem_iff.mp hd'), ?_, fun b hb => ?_, fun bs' pb n hn => ?_⟩
        · rcases hso with h | h
          · exact .inl fun d hd => h d (km.mem_iff.mp hd)
          · exact .inr fun d hd => h d (km.mem_iff.mp hd)
        · have : keyP b.2 ∈ qs := by
            rw [t1]
            exact List.mem_map_of_mem (mem2 b hb)
          exact of_decide_eq_true (List.all_eq_true.mp k3 _ this)
        · have srt : (bs'.mergeSort (PySem.W.dataLe false fun b => keyP b.2)).map (·.2) = sortQ ps := by
            have q := List.map_mergeSort (r := PySem.W.dataLe false fun b : V × P => keyP b.2) (s := PySem.W.dataLe false keyP) (f := fun b : V × P => b.2) (l := bs') (fun a _ b _ => rfl)
            rw [q]
            exact huni _ ((pb.map _).trans pp)
          have hA : IsA g F ((bs'.mergeSort (PySem.W.dataLe false fun b => keyP b.2)).map (·.1)) (sortQ ps) := by
            rw [← srt]
            exact isA_of fun b hb => is3 b (pb.mem_iff.mp (List.mem_mergeSort.mp hb))
          cases mu with
          | true => exact hp.newL hR hA hn
          | false => exact hp.lst hR hA hn
      · rw [if_neg hk] at hp
        exact False.elim hp
theorem bt_set : bootBuiltins "set" = some (.type "set") := by decide +kernel
end
end DN

end
section
set_option Elab.async false
set_option linter.all false
set_option maxRecDepth 100000
set_option maxHeartbeats 4000000
/-! E17: comprehensions with two generators. -/
namespace DN
open PySem PySem.Spec PyProof.Rows L2
section
variable {X : Cx} {g : G} {W : WX} {fe : Tau → M D} {tt tt1 : Tau → M Bool}
open Classical in
noncomputable def foG (ok : List MO → Prop) (turn : P → List MO → Option (List MO)) : List P → List MO → Option (List MO)
  | [], L => if ok L then some L else none
  | p :: ps, L => if ok L then (turn p L).bind (foG ok turn ps) else none
/-- a turn: the target, the ifs, then on -/
def tnG (tg : TgD) (tt : Tau → M Bool) (k : Tau → List MO → Option (List MO)) (τ : Tau) (p : P) (L : List MO) : Option (List MO) := match tg p τ with
  | none => none
  | some τ1 => match tt τ1 L with
    | some (.ok false, L1) => some L1
    | some (.ok true, L1) => k τ1 L1
    | _ => none
/-- the element goes in -/
def elG (add : P → List MO → Option (List MO)) (fe : Tau → M D) (τ : Tau) (L : List MO) : Option (List MO) := match fe τ L with
  | some (.ok (.v q), L1) => add q L1
  | _ => none
noncomputable def inG (src : Tau → M Itm) (vs : List Nat) (tg : TgD) (tt : Tau → M Bool) (k : Tau → List MO → Option (List MO)) (τ : Tau) (L : List MO) : Option (List MO) := match src τ L with
  | some (.ok it, L1) => foG it.2 (tnG tg tt k (killT vs τ)) it.1 L1
  | _ => none
def addLG (n : Nat) (q : P) (L : List MO) : Option (List MO) := match L[n]? with
  | some (.lst acc) => if acc.length < sizeLine then some (L.set n (.lst (acc ++ [q]))) else none
  | _ => none
def addSG (n : Nat) (q : P) (L : List MO) : Option (List MO) := match L[n]? with
  | some (.set acc) => if addOkP acc q = true then some (L.set n (.set (addP acc q))) else none
  | _ => none
noncomputable def lcS2 (mu : Bool) (src : Tau → M Itm) (vs : List Nat) (tg : TgD) (tt : Tau → M Bool) (src1 : Tau → M Itm) (vs1 : List Nat) (tg1 : TgD) (tt1 : Tau → M Bool) (fe : Tau → M D) (τ : Tau) : M D := do
  let it ← src τ
  fun L => lcFin mu L (foG it.2 (tnG tg tt (inG src1 vs1 tg1 tt1 (elG (addLG L.length) fe)) (killT vs τ)) it.1 (L ++ [.lst []]))
noncomputable def scS2 (src : Tau → M Itm) (vs : List Nat) (tg : TgD) (tt : Tau → M Bool) (src1 : Tau → M Itm) (vs1 : List Nat) (tg1 : TgD) (tt1 : Tau → M Bool) (fe : Tau → M D) (τ : Tau) : M D := do
  let it ← src τ
  fun L => scFin L.length (foG it.2 (tnG tg tt (inG src1 vs1 tg1 tt1 (elG (addSG L.length) fe)) (killT vs τ)) it.1 (L ++ [.set []]))
theorem foG_sat {F0 : Hp} {ρ0 : Nat → Addr} {n0 : Nat} {J : It} {it : Itm} (hsrc : relI g F0 ρ0 n0 J it) {turn : P → List MO → Option (List MO)} {T : Option (List MO) → Prop} (hT : ¬ T none) {Done : Hp → Prop} {Step : V → Hp → (Hp → Prop) → Prop}
    (hdone : ∀ (F : Hp) (ρ : Nat → Addr) (L : List MO) (H : Hp), Ext F0 ρ0 n0 F ρ L.length → R g F ρ L H → T (some L) → Done H)
    (hstep : ∀ (F : Hp) (ρ : Nat → Addr) (L : List MO) (H : Hp) (x : V) (p : P) (rest : List P) (Nx : Hp → Prop), Ext F0 ρ0 n0 F ρ L.length → R g F ρ L H → Is g F x p → T ((turn p L).bind (foG it.2 turn rest)) →
      (∀ (F' : Hp) (ρ' : Nat → Addr) (L' : List MO) (H' : Hp), Ext F ρ L.length F' ρ' L'.length → R g F' ρ' L' H' → T (foG it.2 turn rest L') → Nx H') → Step x H Nx)
    {F : Hp} {ρ : Nat → Addr} {L : List MO} {H : Hp} (hE : Ext F0 ρ0 n0 F ρ L.length) (hR : R g F ρ L H) (hp : T (foG it.2 turn it.1 L)) :
    ∃ W : Nat → Nat → Hp → Prop, (∃ m, W 0 m H) ∧ ∀ i m H, W i m H → (J.stop i H ∧ Done H) ∨ (J.go i H ∧ ∃ Nx : Hp → Prop, (∀ H', Nx H' → ∃ m', m' < m ∧ W (i + 1) m' H') ∧ ∀ x H', J.yld i H x H' → Step x H' Nx) := by
  obtain ⟨xs, ok⟩ := it
  dsimp only at *
  refine ⟨fun i m H => m = xs.length - i ∧ i ≤ xs.length ∧ ∃ F ρ L, Ext F0 ρ0 n0 F ρ L.length ∧ R g F ρ L H ∧ T (foG ok turn (xs.drop i) L), ⟨xs.length, by simp, Nat.zero_le _, F, ρ, L, hE, hR, hp⟩, ?_⟩
  rintro i m H2 ⟨rfl, hi, F, ρ, L, hE, hR, hp⟩
  by_cases hlt : i < xs.length
  · refine .inr ?_
    have e0 : xs[i]? = some xs[i] := List.getElem?_eq_getElem hlt
    rw [List.drop_eq_getElem_cons hlt] at hp
    unfold foG at hp
    by_cases hk : ok L
    · rw [if_pos hk] at hp
      obtain ⟨go, yl⟩ := (hsrc F ρ L H2 hE hR hk).1 i _ e0
      refine ⟨go, fun H' => i + 1 ≤ xs.length ∧ ∃ F ρ L, Ext F0 ρ0 n0 F ρ L.length ∧ R g F ρ L H' ∧ T (foG ok turn (xs.drop (i + 1)) L), fun H' q => ⟨xs.length - (i + 1), by omega, rfl, q⟩, fun x H' hy => ?_⟩
      obtain ⟨F', sb, hR', hx⟩ := yl x H' hy
      have e1 : Ext F ρ L.length F' ρ L.length := ⟨sb, fun _ _ => rfl, Nat.le_refl _⟩
      exact hstep F' ρ L H' x _ _ _ (hE.trans e1) hR' hx hp fun F'' ρ'' L'' H'' hE2 hR2 hp2 => ⟨hlt, F'', ρ'', L'', (hE.trans e1).trans hE2, hR2, hp2⟩
    · rw [if_neg hk] at hp
      exact absurd hp hT
  · have e : i = xs.length := by omega
    subst e
    rw [List.drop_length] at hp
    unfold foG at hp
    by_cases hk : ok L
    · rw [if_pos hk] at hp
      exact .inl ⟨(hsrc F ρ L H2 hE hR hk).2, hdone F ρ L H2 hE hR hp⟩
    · rw [if_neg hk] at hp
      exact absurd hp hT
theorem relI.weak {F0 F1 : Hp} {ρ0 ρ1 : Nat → Addr} {n0 n1 : Nat} {J : It} {it : Itm} (h : relI g F0 ρ0 n0 J it) (e : Ext F0 ρ0 n0 F1 ρ1 n1) : relI g F1 ρ1 n1 J it := fun F ρ L H x => h F ρ L H (e.trans x)
/-- a comprehension with two generators: o0 the new thing, Ad what takes an element in -/
def tC2 (o0 : Addr → HO) (Ad : Addr → V → Hp → (Hp → Prop) → Prop) (wi : TI) (g : TG) (tt : TT) (wi1 : TI) (g1 : TG) (tt1 : TT) (te : TE) (vs vs1 : List Nat) : TE := fun σ H Q => wi σ H fun J H1 => ∀ D, H1 D = none → ∃ W : Nat → Nat → Hp → Prop, (∃ m, W 0 m (upd H1 D (o0 D))) ∧ ∀ i m H, W i m H →
  (J.stop i H ∧ Q (.ref D) H) ∨ (J.go i H ∧ ∃ Nx : Hp → Prop, (∀ H', Nx H' → ∃ m', m' < m ∧ W (i + 1) m' H') ∧ ∀ x H', J.yld i H x H' → g x (wipe σ vs) H' fun σ2 H2 => wipe σ2 vs = wipe σ vs ∧ tt σ2 H2 fun b H3 =>
    if b = true then wi1 σ2 H3 fun J1 H4 => ∃ W1 : Nat → Nat → Hp → Prop, (∃ m, W1 0 m H4) ∧ ∀ j k H, W1 j k H →
      (J1.stop j H ∧ Nx H) ∨ (J1.go j H ∧ ∃ Nx1 : Hp → Prop, (∀ H', Nx1 H' → ∃ k', k' < k ∧ W1 (j + 1) k' H') ∧ ∀ x H', J1.yld j H x H' → g1 x (wipe σ2 vs1) H' fun σ3 H5 => wipe σ3 vs1 = wipe σ2 vs1 ∧ tt1 σ3 H5 fun b H6 =>
        if b = true then te σ3 H6 fun y H7 => Ad D y H7 Nx1 else Nx1 H6)
    else Nx H3)
/-- one turn, to what comes behind it -/
theorem tn_sat {F0 : Hp} {ρ0 : Nat → Addr} {n0 : Nat} {vs : List Nat} {t : TG} {tg : TgD} (ht : TgW g vs t tg) {tt : Tau → M Bool} {k : Tau → List MO → Option (List MO)} {σ : L2.St} {τ : Tau} {T : Option (List MO) → Prop} (hT : ¬ T none) {B : L2.St → Hp → Prop} {Nx : Hp → Prop}
    {F : Hp} {ρ : Nat → Addr} {L : List MO} {H : Hp} {x : V} {p : P} (hR : R g F ρ L H) (hS : Sl g F ρ L.length σ τ) (hx : Is g F x p) (hp : T (tnG tg tt k (killT vs τ) p L))
    (hNx : ∀ (F' : Hp) (ρ' : Nat → Addr) (L' : List MO) (H' : Hp), Ext F ρ L.length F' ρ' L'.length → R g F' ρ' L' H' → T (some L') → Nx H')
    (hB : ∀ (F' : Hp) (ρ' : Nat → Addr) (L' : List MO) (H' : Hp) (σ2 : L2.St) (τ2 : Tau), Ext F ρ L.length F' ρ' L'.length → R g F' ρ' L' H' → Sl g F' ρ' L'.length σ2 τ2 → T (k τ2 L') → B σ2 H') :
    t x (wipe σ vs) H fun σ2 H2 => wipe σ2 vs = wipe σ vs ∧ (tT g W0 tt) σ2 H2 fun b H3 => if b = true then B σ2 H3 else Nx H3 := by
  unfold tnG at hp
  match et : tg p (killT vs τ) with
  | none => rw [et] at hp; exact absurd hp hT
  | some τ1 =>
    rw [et] at hp
    dsimp only at hp
    refine ht F ρ L H x _ (wipe σ vs) (killT vs τ) τ1 _ hR (hS.wipe vs) hx et fun σ3 hS3 hw => ⟨by rw [hw, wipe_idem], F, ρ, τ1, L, hR, hS3, (fun y hy => by cases hy), ?_⟩
    match eb : tt τ1 L with
    | none => rw [eb] at hp; exact absurd hp hT
    | some (.ex _ _, _) => rw [eb] at hp; exact absurd hp hT
    | some (.ok false, L1) =>
      rw [eb] at hp
      dsimp only at hp
      intro F3 ρ3 b3 H3 x1 x2 x3
      subst x3
      rw [if_neg Bool.false_ne_true]
      exact hNx F3 ρ3 L1 H3 x1 x2 hp
    | some (.ok true, L1) =>
      rw [eb] at hp
      dsimp only at hp
      intro F3 ρ3 b3 H3 x1 x2 x3
      subst x3
      rw [if_pos rfl]
      exact hB F3 ρ3 L1 H3 σ3 τ1 x1 x2 (hS3.ext x1) hp
/-- what the ledger does when an element goes in -/
def AdOk (g : G) (Ad : Addr → V → Hp → (Hp → Prop) → Prop) (add : Nat → P → List MO → Option (List MO)) : Prop := ∀ (F : Hp) (ρ : Nat → Addr) (L : List MO) (H : Hp) (n : Nat) (v : V) (q : P) (L' : List MO) (Nx : Hp → Prop),
  R g F ρ L H → Is g F v q → add n q L = some L' → (∀ H', R g F ρ L' H' → L'.length = L.length → Nx H') → Ad (ρ n) v H Nx
theorem c2_sat {o0 : Addr → HO} {m0 : MO} {Ad : Addr → V → Hp → (Hp → Prop) → Prop} {add : Nat → P → List MO → Option (List MO)} {fin : List MO → Option (List MO) → Option (Res D × List MO)} {src src1 : Tau → M Itm} {vs vs1 : List Nat} {t t1 : TG} {tg tg1 : TgD} (ht : TgW g vs t tg) (ht1 : TgW g vs1 t1 tg1)
    (h0 : ∀ (F : Hp) (ρ : Nat → Addr) (L : List MO) (H : Hp) (D : Addr), R g F ρ L H → H D = none → R g F (rput ρ L.length D) (L ++ [m0]) (upd H D (o0 D))) (ha : AdOk g Ad add) (hf0 : ∀ L, fin L none = none)
    (hf : ∀ (F0 : Hp) (ρ0 : Nat → Addr) (L0 : List MO) (H0 : Hp) (F : Hp) (ρ : Nat → Addr) (L : List MO) (H : Hp) (D : Addr) (W : Value → Option Addr → Hp → Prop) (Q : VK), R g F0 ρ0 L0 H0 → Ext F0 ρ0 L0.length F ρ L.length → R g F ρ L H → L0.length < L.length → ρ L0.length = D → Post g (relV g) F0 ρ0 L0.length W Q (fin L0 (some L)) → Q (.ref D) H)
    {σ : L2.St} {H : Hp} {Q : VK}
    (h : tE g W (fun τ => do let it ← src τ; fun L => fin L (foG it.2 (tnG tg tt (inG src1 vs1 tg1 tt1 (elG (add L.length) fe)) (killT vs τ)) it.1 (L ++ [m0]))) σ H Q) :
    tC2 o0 Ad (tI g W src) t (tT g W0 tt) (tI g W0 src1) t1 (tT g W0 tt1) (tE g W0 fe) vs vs1 σ H Q := by
  refine (Sat.bind (ra := relI g) h).mono fun J H1 h1 => ?_
  obtain ⟨F0, ρ0, τ, L0, it, hR0, hS0, _, hsrc, hp0⟩ := h1
  intro D hD
  have R1 := h0 F0 ρ0 L0 H1 D hR0 hD
  have len1 : (L0 ++ [m0]).length = L0.length + 1 := by rw [List.length_append, List.length_singleton]
  have E1 : Ext F0 ρ0 L0.length F0 (rput ρ0 L0.length D) (L0.length + 1) := Ext.new
  have T0 : ¬ Post g (relV g) F0 ρ0 L0.length (fun c d H' => W c d σ H') Q (fin L0 none) := by rw [hf0]; exact id
  refine foG_sat (T := fun r => Post g (relV g) F0 ρ0 L0.length (fun c d H' => W c d σ H') Q (fin L0 r)) (hsrc.weak E1) T0 (fun F ρ L H hE hR hp => ?_) (fun F ρ L H x p rest Nx hE hR hx hp hNx => ?_) (F := F0) (by rw [len1]; exact Ext.refl) R1 hp0
  · exact hf F0 ρ0 L0 H1 F ρ L H D _ Q hR0 (E1.trans hE) hR (by have := hE.len; omega) (by rw [hE.rho _ (Nat.lt_succ_self _), rput_new]) hp
  · refine tn_sat (n0 := 0) (F0 := F0) (ρ0 := ρ0) ht (T := fun r => Post g (relV g) F0 ρ0 L0.length (fun c d H' => W c d σ H') Q (fin L0 (r.bind _))) T0 hR (hS0.ext (E1.trans hE)) hx hp (fun F' ρ' L' H' e r hp => hNx F' ρ' L' H' e r hp) fun F2 ρ2 L2 H2 σ2 τ2 hE2 hR2 hS2 hp2 => ?_
    -- the inner source
    unfold inG at hp2
    refine ⟨F2, ρ2, τ2, L2, hR2, hS2, (fun y hy => by cases hy), ?_⟩
    match es : src1 τ2 L2 with
    | none => rw [es] at hp2; exact absurd hp2 T0
    | some (.ex _ _, _) => rw [es] at hp2; exact absurd hp2 T0
    | some (.ok it1, L3) =>
      rw [es] at hp2
      dsimp only at hp2
      intro F3 ρ3 J1 H3 hE3 hR3 hsrc1
      have hrho : ∀ {F' : Hp} {ρ' : Nat → Addr} {n' : Nat}, Ext F3 ρ3 L3.length F' ρ' n' → ρ' L0.length = D := fun {F' ρ' n'} e => by
        have := (((hE.trans hE2).trans hE3).trans e).rho L0.length (Nat.lt_succ_self _)
        rw [this, rput_new]
      refine foG_sat (T := fun r => Post g (relV g) F0 ρ0 L0.length (fun c d H' => W c d σ H') Q (fin L0 (r.bind _))) hsrc1 T0 (fun F ρ L H hE5 hR5 hp5 => hNx F ρ L H ((hE2.trans hE3).trans hE5) hR5 hp5) (fun F5 ρ5 L5 H5 x5 p5 rest5 Nx5 hE5 hR5 hx5 hp5 hNx5 => ?_) Ext.refl hR3 hp2
      refine tn_sat (n0 := 0) (F0 := F0) (ρ0 := ρ0) ht1 (T := fun r => Post g (relV g) F0 ρ0 L0.length (fun c d H' => W c d σ H') Q (fin L0 ((r.bind _).bind _))) T0 hR5 (hS2.ext (hE3.trans hE5)) hx5 hp5 (fun F' ρ' L' H' e r hp => hNx5 F' ρ' L' H' e r hp) fun F6 ρ6 L6 H6 σ6 τ6 hE6 hR6 hS6 hp6 => ?_
      unfold elG at hp6
      refine ⟨F6, ρ6, τ6, L6, hR6, hS6, (fun y hy => by cases hy), ?_⟩
      match ee : fe τ6 L6 with
      | none => rw [ee] at hp6; exact absurd hp6 T0
      | some (.ex _ _, _) => rw [ee] at hp6; exact absurd hp6 T0
      | some (.ok (.r _), _) => rw [ee] at hp6; exact absurd hp6 T0
      | some (.ok (.v q), L7) =>
        rw [ee] at hp6
        dsimp only at hp6
        intro F7 ρ7 v7 H7 hE7 hR7 hv7
        match ea : add L0.length q L7 with
        | none => rw [ea] at hp6; exact absurd hp6 T0
        | some L8 =>
          rw [ea] at hp6
          have z := ha F7 ρ7 L7 H7 L0.length v7 q L8 Nx5 hR7 hv7 ea fun H8 hR8 hl => hNx5 F7 ρ7 L8 H8 (by rw [hl]; exact hE6.trans hE7) hR8 hp6
          rw [hrho ((hE5.trans hE6).trans hE7)] at z
          exact z
theorem adL : AdOk g (fun D y H7 Nx1 => ∃ acc, H7 D = some (.lst acc) ∧ acc.length < sizeLine ∧ Nx1 (upd H7 D (.lst (acc ++ [y])))) addLG := by
  intro F ρ L H n v q L' Nx hR hv ea nx
  unfold addLG at ea
  match el : L[n]? with
  | some (.lst acc) =>
    rw [el] at ea
    dsimp only at ea
    split at ea
    · rename_i hz
      cases ea
      obtain ⟨us, h1, h2⟩ := hR.lstAt el
      exact ⟨us, h1, by rw [h2.len]; exact hz, nx _ (hR.put el (by intro z; cases z) _ _ ⟨_, upd_same, h2.append (.cons hv .nil)⟩) (by rw [List.length_set])⟩
    · cases ea
  | none => rw [el] at ea; cases ea
  | some (.dk _) => rw [el] at ea; cases ea
  | some (.dn _) => rw [el] at ea; cases ea
  | some (.ins _ _) => rw [el] at ea; cases ea
  | some (.set _) => rw [el] at ea; cases ea
  | some .dead => rw [el] at ea; cases ea
theorem adS : AdOk g (fun D y H7 Nx1 => ∃ ms, H7 D = some (SetHO g.w D ms) ∧ AddOk g.K g.w D ms y H7 Nx1) addSG := by
  intro F ρ L H n v q L' Nx hR hv ea nx
  unfold addSG at ea
  match el : L[n]? with
  | some (.set acc) =>
    rw [el] at ea
    dsimp only at ea
    split at ea
    · rename_i hz
      cases ea
      exact addP_ok hR el hv hz fun H' r => nx H' r (by rw [List.length_set])
    · cases ea
  | none => rw [el] at ea; cases ea
  | some (.dk _) => rw [el] at ea; cases ea
  | some (.dn _) => rw [el] at ea; cases ea
  | some (.ins _ _) => rw [el] at ea; cases ea
  | some (.lst _) => rw [el] at ea; cases ea
  | some .dead => rw [el] at ea; cases ea
theorem lcFin_ok (mu : Bool) (F0 : Hp) (ρ0 : Nat → Addr) (L0 : List MO) (H0 : Hp) (F : Hp) (ρ : Nat → Addr) (L : List MO) (H : Hp) (D : Addr) (W : Value → Option Addr → Hp → Prop) (Q : VK) (hR0 : R g F0 ρ0 L0 H0) (hE0 : Ext F0 ρ0 L0.length F ρ L.length) (hR : R g F ρ L H) (ln : L0.length < L.length) (hrho : ρ L0.length = D)
    (hp : Post g (relV g) F0 ρ0 L0.length W Q (lcFin mu L0 (some L))) : Q (.ref D) H := by
  subst hrho
  unfold lcFin at hp
  dsimp only at hp
  cases mu with
  | true =>
    rw [if_pos rfl] at hp
    exact hp F ρ _ H hE0 hR ⟨ln, rfl⟩
  | false =>
    rw [if_neg Bool.false_ne_true] at hp
    match el : L[L0.length]? with
    | some (.lst ys) =>
      rw [el] at hp
      dsimp only at hp
      by_cases ho : Older L0 L
      · rw [if_pos ho] at hp
        obtain ⟨us, h1, h2⟩ := hR.lstAt el
        have hf := hR.freeze el (by intro z; cases z) h1
        have sb : Sub F (upd F (ρ L0.length) (.lst us)) := fun b q eb => by
          have nb : b ≠ ρ L0.length := fun z => by rw [z, (hR.ent _ _ el (by intro z; cases z)).1] at eb; cases eb
          rw [upd_ne nb]
          exact eb
        have e4 : (L.set L0.length MO.dead).take L0.length = L.take L0.length := by
          rw [List.take_set, List.set_eq_of_length_le (by rw [List.length_take]; omega)]
        have q2 : (L.take L0.length).length = L0.length := by rw [List.length_take]; omega
        have q3 : R g (upd F (ρ L0.length) (.lst us)) ρ0 (L.take L0.length) H := by
          rw [← e4]
          refine hf.trunc (by rw [List.length_set]; omega) hE0.rho fun i m hi e => ?_
          rw [List.getElem?_set_ne (by omega)] at e
          rcases ho.2 i m hi e with q | q
          · exact hR0.okR q
          · exact q
        refine hp _ ρ0 _ H ⟨hE0.sub.trans sb, fun _ _ => rfl, by rw [q2]; exact Nat.le_refl _⟩ q3 ?_
        exact Is.lst upd_same (IsA.mono sb h2)
      · rw [if_neg ho] at hp; exact False.elim hp
    | none => rw [el] at hp; exact False.elim hp
    | some (.dk _) => rw [el] at hp; exact False.elim hp
    | some (.dn _) => rw [el] at hp; exact False.elim hp
    | some (.ins _ _) => rw [el] at hp; exact False.elim hp
    | some (.set _) => rw [el] at hp; exact False.elim hp
    | some .dead => rw [el] at hp; exact False.elim hp
theorem lc2_sat {mu : Bool} {src src1 : Tau → M Itm} {vs vs1 : List Nat} {t t1 : TG} {tg tg1 : TgD} (ht : TgW g vs t tg) (ht1 : TgW g vs1 t1 tg1) {σ : L2.St} {H : Hp} {Q : VK} (h : tE g W (lcS2 mu src vs tg tt src1 vs1 tg1 tt1 fe) σ H Q) :
    tLc2 (tI g W src) t (tT g W0 tt) (tI g W0 src1) t1 (tT g W0 tt1) (tE g W0 fe) vs vs1 σ H Q :=
  c2_sat (o0 := fun _ => .lst []) (m0 := .lst []) (fin := fun L => lcFin mu L) ht ht1 (fun F ρ L H D hR hD => hR.new hD (.lst []) (.lst []) ⟨[], upd_same, .nil⟩) adL (fun _ => rfl) (lcFin_ok mu) h
theorem de_lc2 {elt tg iter tg1 iter1 : Expr} {ifs ifs1 : List Expr} {pos : Pos} {scope : Scope} {own : List (Str × Nat)} {vs1 : List Nat} {mu : Bool} {src src1 : Tau → M Itm} {t t1 : TG} {td td1 : TgD} (hc : X.calm = true) (hN : X.N.Nodup) (hi : PI X tg iter (tI g W src)) (ok : BlkOk X.N X.env.scope scope own) (hv : ∀ i ∈ vs1, i ∈ own.map (·.2))
    (hg : ∀ (s : Shared) (H : Hp) (C : Addr) (cl : List (Str × Addr)) (fp : List Addr), PG (X.blk s H scope (compEnvC scope cl C X.env) fp) tg t) (ht : TgW g (own.map (·.2)) t td)
    (hts : ∀ (s : Shared) (H : Hp) (C : Addr) (cl : List (Str × Addr)) (fp : List Addr), PTs (X.blk s H scope (compEnvC scope cl C X.env) fp) ifs (tT g W0 tt))
    (hi1 : ∀ (s : Shared) (H : Hp) (C : Addr) (cl : List (Str × Addr)) (fp : List Addr), PI (X.blk s H scope (compEnvC scope cl C X.env) fp) tg1 iter1 (tI g W0 src1))
    (hg1 : ∀ (s : Shared) (H : Hp) (C : Addr) (cl : List (Str × Addr)) (fp : List Addr), PG (X.blk s H scope (compEnvC scope cl C X.env) fp) tg1 t1) (ht1 : TgW g vs1 t1 td1)
    (hts1 : ∀ (s : Shared) (H : Hp) (C : Addr) (cl : List (Str × Addr)) (fp : List Addr), PTs (X.blk s H scope (compEnvC scope cl C X.env) fp) ifs1 (tT g W0 tt1))
    (he : ∀ (s : Shared) (H : Hp) (C : Addr) (cl : List (Str × Addr)) (fp : List Addr), PE (X.blk s H scope (compEnvC scope cl C X.env) fp) elt (tE g W0 fe)) (hs : ∀ x, foldedSetIterable iter X.env x = pure x := by intro _; rfl) (hs1 : ∀ env x, foldedSetIterable iter1 env x = pure x := by intro _ _; rfl) :
    PE X (.ListComp elt [⟨tg, iter, ifs, 0⟩, ⟨tg1, iter1, ifs1, 0⟩] scope pos) (tE g W (lcS2 mu src (own.map (·.2)) td tt src1 vs1 td1 tt1 fe)) := PE.weak (pe_lc2 hc hN hi ok hv hg hts hi1 hg1 hts1 he hs hs1) fun σ H Q h => lc2_sat ht ht1 h
end
end DN

end
section
set_option Elab.async false
set_option linter.all false
set_option maxRecDepth 100000
set_option maxHeartbeats 4000000
/-! E18: set comprehensions with two generators. -/
namespace DN
open PySem PySem.Spec PyProof.Rows L2
section
variable {prog : Program} {w : World} {A : Around} {R : Result → Shared → Prop} {s : Shared} {elt t0 i0 t1 i1 : Expr} {f0 f1 : List Expr} {scope : Scope} {pos : Pos} {it acc : Value} {env : Env}
abbrev e2S (elt t0 i0 : Expr) (f0 : List Expr) (t1 i1 : Expr) (f1 : List Expr) (scope : Scope) (pos : Pos) : Expr := .SetComp elt [⟨t0, i0, f0, 0⟩, ⟨t1, i1, f1, 0⟩] scope pos
/-- what the ifs say -/
abbrev ifsG (fs : List Expr) (env : Env) : Sem Bool := forIn fs true fun c r => if r = true then do let ok ← isTrue c env (eval c env); pure (ForInStep.yield ok) else pure (ForInStep.yield r)
theorem turnS_out : compTurn (e2S elt t0 i0 f0 t1 i1 f1 scope pos) 0 it acc env = (do
      standAt i0.pos
      match ← pyNext it with
      | none => pure (.done .next)
      | some v =>
        letOwnedTupleGo t0 it v
        assign t0 env v
        let ok ← ifsG f0 env
        if ok then
          let x ← eval i1 env
          standAt i1.pos
          let x ← foldedSetIterable i1 env x
          let _ ← runOwn (.compStart (e2S elt t0 i0 f0 t1 i1 f1 scope pos) 1 (← holding [x] (pyIter x)) acc env) env
        again (.compLoop (e2S elt t0 i0 f0 t1 i1 f1 scope pos) 0 it acc env)) := by rfl
theorem turnS_in : compTurn (e2S elt t0 i0 f0 t1 i1 f1 scope pos) 1 it acc env = (do
      standAt i1.pos
      match ← pyNext it with
      | none => pure (.done .next)
      | some v =>
        letOwnedTupleGo t1 it v
        assign t1 env v
        let ok ← ifsG f1 env
        if ok then
          (do let v ← eval elt env; standAt elt.pos; let _ ← call (.builtin "set.add") [acc, v])
        again (.compLoop (e2S elt t0 i0 f0 t1 i1 f1 scope pos) 1 it acc env)) := by rfl
abbrev nbS (prog : Program) (w : World) (A : Around) (env : Env) (R : Result → Shared → Prop) := notedBy (model prog w) A env fun e s' => R (.error e) s'
theorem loopS_out (hs : ∀ x, foldedSetIterable i1 env x = pure x) (I : Nat → Shared → Prop)
    (turn : ∀ n s, I n s → wpAny (model prog w) A (pyNext it) (fun r s₁ => match r with
      | none => R (.ok .next) s₁
      | some v => wpAny (model prog w) A (letOwnedTupleGo t0 it v) (fun _ s₂ => wpAny (model prog w) A (assign t0 env v) (fun _ s₃ => wpAny (model prog w) A (ifsG f0 env) (fun ok s₄ =>
          if ok = true then wpAny (model prog w) A (eval i1 env) (fun x s₅ => wpAny (model prog w) A (pyIter x) (fun j s₆ =>
            codeAny (model prog w) A (.compStart (e2S elt t0 i0 f0 t1 i1 f1 scope pos) 1 j acc env) (fun r s' => match r with
              | .ok _ => ∃ m, m < n ∧ I m s'
              | .error _ => False) s₆) (nbS prog w A env R) s₅) (nbS prog w A env R) s₄
          else ∃ m, m < n ∧ I m s₄) (nbS prog w A env R) s₃) (nbS prog w A env R) s₂) (nbS prog w A env R) s₁) (nbS prog w A env R) s)
    (n : Nat) (h : I n s) : codeAny (model prog w) A (.compLoop (e2S elt t0 i0 f0 t1 i1 f1 scope pos) 0 it acc env) R s := by
  refine codeAny_loop rfl I (fun n s hI => ?_) n h
  show wpAny _ A ((compTurn (e2S elt t0 i0 f0 t1 i1 f1 scope pos) 0 it acc env).onRaise (fun x => do noteFrame x env; theTreesLotGoes x)) _ _ s
  refine wpAny_noted ?_
  rw [turnS_out]
  refine wpAny_bind (wpAny_standAt (wpAny_bind (wpAny_mono (turn n s hI) (fun r s₁ h₁ => ?_) fun _ _ z => z)))
  cases r with
  | none => exact wpAny_pure h₁
  | some v =>
    refine wpAny_bind (wpAny_mono h₁ (fun _ s₂ h₂ => ?_) fun _ _ z => z)
    refine wpAny_bind (wpAny_mono h₂ (fun _ s₃ h₃ => wpAny_bind (wpAny_mono h₃ (fun ok s₄ h₄ => ?_) fun _ _ z => z)) fun _ _ z => z)
    cases ok with
    | false => exact wpAny_pure ⟨rfl, h₄⟩
    | true =>
      refine wpAny_bind (wpAny_mono h₄ (fun x s₅ h₅ => ?_) fun _ _ z => z)
      refine wpAny_bind (wpAny_standAt (wpAny_bind (wpAny_of_eq (hs x) (wpAny_bind (wpAny_holding (wpAny_mono h₅ (fun j s₆ h₆ => ?_) fun _ _ z => z))))))
      refine wpAny_bind (wpAny_runOwn ?_)
      rw [Around.mark_none]
      refine codeAny_mono h₆ fun r s' hr => ?_
      match r, hr with
      | .ok f, hr => first
        | exact wpAny_pure ⟨rfl, hr⟩
        | exact wpAny_bind (wpAny_pure (wpAny_pure ⟨rfl, hr⟩))
      | .error e, hr => exact hr.elim
theorem loopS_in (I : Nat → Shared → Prop)
    (turn : ∀ n s, I n s → wpAny (model prog w) A (pyNext it) (fun r s₁ => match r with
      | none => R (.ok .next) s₁
      | some v => wpAny (model prog w) A (letOwnedTupleGo t1 it v) (fun _ s₂ => wpAny (model prog w) A (assign t1 env v) (fun _ s₃ => wpAny (model prog w) A (ifsG f1 env) (fun ok s₄ =>
          if ok = true then wpAny (model prog w) A (eval elt env) (fun x s₅ => wpAny (model prog w) A (call (.builtin "set.add") [acc, x]) (fun _ s₆ => ∃ m, m < n ∧ I m s₆) (nbS prog w A env R) s₅) (nbS prog w A env R) s₄
          else ∃ m, m < n ∧ I m s₄) (nbS prog w A env R) s₃) (nbS prog w A env R) s₂) (nbS prog w A env R) s₁) (nbS prog w A env R) s)
    (n : Nat) (h : I n s) : codeAny (model prog w) A (.compLoop (e2S elt t0 i0 f0 t1 i1 f1 scope pos) 1 it acc env) R s := by
  refine codeAny_loop rfl I (fun n s hI => ?_) n h
  show wpAny _ A ((compTurn (e2S elt t0 i0 f0 t1 i1 f1 scope pos) 1 it acc env).onRaise (fun x => do noteFrame x env; theTreesLotGoes x)) _ _ s
  refine wpAny_noted ?_
  rw [turnS_in]
  refine wpAny_bind (wpAny_standAt (wpAny_bind (wpAny_mono (turn n s hI) (fun r s₁ h₁ => ?_) fun _ _ z => z)))
  cases r with
  | none => exact wpAny_pure h₁
  | some v =>
    refine wpAny_bind (wpAny_mono h₁ (fun _ s₂ h₂ => ?_) fun _ _ z => z)
    refine wpAny_bind (wpAny_mono h₂ (fun _ s₃ h₃ => wpAny_bind (wpAny_mono h₃ (fun ok s₄ h₄ => ?_) fun _ _ z => z)) fun _ _ z => z)
    cases ok with
    | false => exact wpAny_pure ⟨rfl, h₄⟩
    | true => exact wpAny_bind (wpAny_bind (wpAny_mono h₄ (fun x s₅ h₅ => wpAny_bind (wpAny_standAt (wpAny_bind (wpAny_mono h₅ (fun _ s₆ h₆ => wpAny_pure (wpAny_pure ⟨rfl, h₆⟩)) fun _ _ z => z)))) fun _ _ z => z))
theorem startS_in (h0 : codeAny (model prog w) A (.compLoop (e2S elt t0 i0 f0 t1 i1 f1 scope pos) 1 it acc env) R s)
    (h : wpAny (model prog w) A (pyIter it) (fun j s' => codeAny (model prog w) A (.compLoop (e2S elt t0 i0 f0 t1 i1 f1 scope pos) 1 j acc env) R s') (nbS prog w A env R) s) :
    codeAny (model prog w) A (.compStart (e2S elt t0 i0 f0 t1 i1 f1 scope pos) 1 it acc env) R s := by
  refine codeAny_of_tree ?_
  show wpAny _ _ ((compStart (e2S elt t0 i0 f0 t1 i1 f1 scope pos) 1 it acc env).onRaise (fun x => do noteFrame x env; standAt theWindowsPlace)) _ _ s
  refine wpAny_notedAt ?_
  unfold compStart
  show wpAny _ _ (ask >>= _) _ _ s
  refine wpAny_bind (wpAny_askSetting (wpAny_ite ?_))
  split
  · first
      | exact wpAny_bind (wpAny_pure (wpAny_pure (And.intro rfl h0)))
      | exact wpAny_pure (And.intro rfl h0)
  · first
      | exact wpAny_bind (wpAny_rule (wpAny_bind (wpAny_standAt (wpAny_bind (wpAny_mono h (fun _ _ z => wpAny_pure (And.intro rfl z)) fun _ _ x => x)))))
      | (refine wpAny_bind (wpAny_rule ?_); show wpAny _ _ (standAt i1.pos >>= _) _ _ s; exact wpAny_bind (wpAny_standAt (wpAny_bind (wpAny_mono h (fun _ _ z => wpAny_pure (And.intro rfl z)) fun _ _ x => x))))
end
section
variable {X : Cx}
def tScN2 (K : PySem.W.Frag) (w : World) : TI → TG → TT → TI → TG → TT → TE → List Nat → List Nat → TE := tC2 (fun D => SetHO w D []) (fun D y H Nx => ∃ ms, H D = some (SetHO w D ms) ∧ AddOk K w D ms y H Nx)
theorem scN2_core {pins : List (Addr × Obj)} {s : Shared} {σ : L2.St} {H : Hp} {Q : VK} {elt tg iter tg1 iter1 : Expr} {ifs ifs1 : List Expr} {scope : Scope} {own : List (Str × Nat)} {vs1 : List Nat} {pos pos' : Pos} {wi wi1 : TI} {g g1 : TG} {tt tt1 : TT} {te : TE} {use : Option (Value → Sem Unit)} {Qf : Value → Shared → Prop}
    (hu : X.A.units + 65 < cLine) (hc : X.calm = true) (hN : X.N.Nodup) (I : Inv X pins σ H s) (hi : PI X tg iter wi) (ok : BlkOk X.N X.env.scope scope own) (hv : ∀ i ∈ vs1, i ∈ own.map (·.2))
    (hg : ∀ (s : Shared) (H : Hp) (C : Addr) (cl : List (Str × Addr)) (fp : List Addr), PG (X.blk s H scope (compEnvC scope cl C X.env) fp) tg g) (ht : ∀ (s : Shared) (H : Hp) (C : Addr) (cl : List (Str × Addr)) (fp : List Addr), PTs (X.blk s H scope (compEnvC scope cl C X.env) fp) ifs tt)
    (he : ∀ (s : Shared) (H : Hp) (C : Addr) (cl : List (Str × Addr)) (fp : List Addr), PE (X.blk s H scope (compEnvC scope cl C X.env) fp) elt te) (hs : ∀ x, foldedSetIterable iter X.env x = pure x)
    (hi1 : ∀ (s : Shared) (H : Hp) (C : Addr) (cl : List (Str × Addr)) (fp : List Addr), PI (X.blk s H scope (compEnvC scope cl C X.env) fp) tg1 iter1 wi1)
    (hg1 : ∀ (s : Shared) (H : Hp) (C : Addr) (cl : List (Str × Addr)) (fp : List Addr), PG (X.blk s H scope (compEnvC scope cl C X.env) fp) tg1 g1)
    (ht1 : ∀ (s : Shared) (H : Hp) (C : Addr) (cl : List (Str × Addr)) (fp : List Addr), PTs (X.blk s H scope (compEnvC scope cl C X.env) fp) ifs1 tt1)
    (hs1 : ∀ env x, foldedSetIterable iter1 env x = pure x)
    (h : tScN2 X.K X.w wi g tt wi1 g1 tt1 te (own.map (·.2)) vs1 σ H Q)
    (hRR : ∀ D C s' m H', Inv X pins σ H' s' → Q (.ref D) H' → s'.heap.Ns C m → FpOk X pins H' C → compPost (model X.prog X.w) X.A X.xe use Qf (.ref D) C (.ok .next) s') :
    wpAny (model X.prog X.w) X.A (comprehension (e2S elt tg iter ifs tg1 iter1 ifs1 scope pos) scope X.env pos' (newSet (.type "set")) false (eval iter X.env) use) Qf X.xe s := by
  have hfree : ∀ y ∈ scope.names, y.2 = .free → ∃ c, X.env.cells.lookup y.1 = some c := fun y hy e => by
    rcases ok.free y hy e with k | k
    · exact I.ok.has _ (.inl k)
    · exact I.ok.has _ (.inr k)
  refine wpAny_comprehension_free (use := use) rfl hs (closure_ok hfree) ok.kind (fun y hy e => by rw [ok.uniq y hy, e]) (thn (hi.run pins s σ H _ I h) fun xv s1 hx => thn hx fun itv s2 h2 => ?_)
  obtain ⟨it, fp, tn, J, H2, e, I2, T, st2, f2, q⟩ := h2
  subst e
  refine PpSet.newSet_ok (newEnv_comp ?_)
  have hDn : H2 s2.heap.objs.size = none := I2.hok.fresh (Nat.le_refl _)
  obtain ⟨W, ⟨m0, w0⟩, turn⟩ := q s2.heap.objs.size hDn
  have hpush : (s2.heap.push { cls := .type "set", dict := none, data := .set #[] 0 (.fresh 0 0 (!X.w.params.followText "set-order")) }).get? s2.heap.objs.size = some { cls := .type "set", dict := none, data := .set #[] 0 (.fresh 0 0 (!X.w.params.followText "set-order")) } := Heap.get?_push_size _ rfl
  have I3 : Inv X pins σ (upd H2 s2.heap.objs.size (SetHO X.w s2.heap.objs.size [])) { s2 with heap := s2.heap.push { cls := .type "set", dict := none, data := .set #[] 0 (.fresh 0 0 (!X.w.params.followText "set-order")) } } :=
    I2.laid (t' := s2.toks) (fun b o e => Heap.get?_push_of_some _ e) (Nat.le_refl _) (setHO_new (SetPhi.new hpush))
  generalize hD : s2.heap.objs.size = D at hDn turn w0 I3
  generalize hs3 : ({ s2 with heap := s2.heap.push { cls := .type "set", dict := none, data := .set #[] 0 (.fresh 0 0 (!X.w.params.followText "set-order")) } } : Shared) = s3 at I3
  have h3 : s3.heap = s2.heap.push { cls := .type "set", dict := none, data := .set #[] 0 (.fresh 0 0 (!X.w.params.followText "set-order")) } := by rw [← hs3]
  have f3 : ∀ b ∈ fp, FpOk X pins (upd H2 D (SetHO X.w D [])) b ∧ b < s3.heap.objs.size := fun b hb => by
    obtain ⟨o, e, _⟩ := T.obj _ _ st2 b hb
    have hlt := Heap.lt_size e
    refine ⟨⟨?_, (f2 b hb).2⟩, by rw [h3, Heap.size_push]; exact Nat.lt_succ_of_lt hlt⟩
    rw [upd_ne (by rw [← hD]; exact Nat.ne_of_lt hlt)]
    exact (f2 b hb).1
  have st3 : tn 0 s3.heap := T.keep _ _ _ st2 fun b _ o e => by rw [h3]; exact Heap.get?_push_of_some _ e
  have I4 := block_start I3 ok hN f3
  have pg := hg s3 (upd H2 D (SetHO X.w D [])) s3.heap.objs.size (cellsFrom (s3.heap.objs.size + 1) scope.names (cloFrom X.env.cells scope.names [])) fp
  have pt := ht s3 (upd H2 D (SetHO X.w D [])) s3.heap.objs.size (cellsFrom (s3.heap.objs.size + 1) scope.names (cloFrom X.env.cells scope.names [])) fp
  have pe := he s3 (upd H2 D (SetHO X.w D [])) s3.heap.objs.size (cellsFrom (s3.heap.objs.size + 1) scope.names (cloFrom X.env.cells scope.names [])) fp
  have pi1 := hi1 s3 (upd H2 D (SetHO X.w D [])) s3.heap.objs.size (cellsFrom (s3.heap.objs.size + 1) scope.names (cloFrom X.env.cells scope.names [])) fp
  have pg1 := hg1 s3 (upd H2 D (SetHO X.w D [])) s3.heap.objs.size (cellsFrom (s3.heap.objs.size + 1) scope.names (cloFrom X.env.cells scope.names [])) fp
  have pt1 := ht1 s3 (upd H2 D (SetHO X.w D [])) s3.heap.objs.size (cellsFrom (s3.heap.objs.size + 1) scope.names (cloFrom X.env.cells scope.names [])) fp
  show codeAny _ _ (.compStart (e2S elt tg iter ifs tg1 iter1 ifs1 scope pos) 0 (.ref it) (.ref D) (compEnvC scope (cellsFrom (s3.heap.objs.size + 1) scope.names (cloFrom X.env.cells scope.names [])) s3.heap.objs.size X.env)) (compPost (model X.prog X.w) X.A X.xe use Qf (.ref D) s3.heap.objs.size) { s3 with heap := pushCells (s3.heap.push { cls := .type "dict", data := .dict #[] }) scope.names }
  have nfp : ∀ b ∈ fp, (upd H2 D (SetHO X.w D [])) b = none := fun b hb => (f3 b hb).1.1
  generalize hce : compEnvC scope (cellsFrom (s3.heap.objs.size + 1) scope.names (cloFrom X.env.cells scope.names [])) s3.heap.objs.size X.env = ce at I4 pg pt pe pi1 pg1 pt1 ⊢
  have cL : ce.locals = s3.heap.objs.size := by subst hce; rfl
  generalize hH3 : upd H2 D (SetHO X.w D []) = H3 at I3 I4 pg pt pe pi1 pg1 pt1 w0 nfp f3
  generalize hs4 : ({ s3 with heap := pushCells (s3.heap.push { cls := .type "dict", data := .dict #[] }) scope.names } : Shared) = s4 at I4 ⊢
  have st4 : tn 0 s4.heap := T.keep _ _ _ st3 fun b _ o e => by rw [← hs4]; exact pushCells_keeps _ _ _ _ (Heap.get?_push_of_some _ e)
  have stat : ∀ {σ' : L2.St} {H' : Hp} {s' : Shared}, Inv (X.blk s3 H3 scope ce fp) [] σ' H' s' → (∀ b ∈ fp, H' b = none) → ∀ b ∈ fp, FpOk (X.blk s3 H3 scope ce fp) [] H' b := fun {σ' H' s'} I' hn b hb =>
    ⟨hn b hb, (I'.ok.exf b hb).1, I'.ok.exfs b hb, .inl hb, fun x c e => (I'.ok.exf b hb).2 x c e, fun p hp => absurd (show p ∈ ([] : List (Addr × Obj)) ++ [] from hp) (by simp)⟩
  have loop : codeAny (model X.prog X.w) X.A (.compLoop (e2S elt tg iter ifs tg1 iter1 ifs1 scope pos) 0 (.ref it) (.ref D) ce) (compPost (model X.prog X.w) X.A X.xe use Qf (.ref D) s3.heap.objs.size) s4 := by
    refine loopS_out (hs1 ce) (fun n s' => ∃ i H', Inv (X.blk s3 H3 scope ce fp) [] (wipe σ (own.map (·.2))) H' s' ∧ tn i s'.heap ∧ (∀ b ∈ fp, H' b = none) ∧ W i n H') ?_ m0 ⟨0, H3, I4, st4, nfp, w0⟩
    rintro n s5 ⟨i, H5, I5, st5, n5, w5⟩
    rcases turn i n H5 w5 with ⟨stop, qq⟩ | ⟨go, Nx, hNx, step⟩
    · have td := T.done (X.blk s3 H3 scope ce fp) rfl rfl rfl hc i [] s5 _ H5 (fun _ _ => False) I5 (stat I5 n5) st5 stop
      refine thnF td fun r s6 ⟨hr, I6⟩ => ?_
      subst hr
      -- back in the def's context
      have I7 : Inv X pins σ H5 s6 := I3.call' (ch := fp) I6.os I6.base I6.hok I6.bare fun b hb => ⟨(f3 b hb).1.2.2.2.1, (f3 b hb).1.2.1, (f3 b hb).1.2.2.2.2.1, (f3 b hb).1.2.2.2.2.2⟩
      have nC : H5 s3.heap.objs.size = none := by
        have z : H5 ce.locals = none := I6.free
        rw [cL] at z
        exact z
      obtain ⟨m, hn, _⟩ := I6.loc
      have hn : s6.heap.Ns ce.locals m := hn
      rw [cL] at hn
      exact hRR D s3.heap.objs.size s6 m H5 I7 qq hn (I3.fpOk (Nat.le_refl _) nC)
    · have ti := T.item (X.blk s3 H3 scope ce fp) rfl rfl rfl hc i [] s5 _ H5 (fun _ _ => False) I5 (stat I5 n5) st5 go
      refine thnF ti fun r s6 ⟨u, hr, h6⟩ => ?_
      subst hr
      refine thnF h6 fun _ s7 ⟨x, H7, I7, r7, y7, st7, n7⟩ => ?_
      have I7' := I7.pinned (stat I7 n7) (T.obj _ _ st7)
      refine thnF (pg.run _ s7 _ H7 x u _ I7' r7 (step x H7 y7)) fun _ s8 ⟨σ8, H8, I8, hw8, q8⟩ => ?_
      refine thnF (pt.run _ s8 σ8 H8 _ I8 q8) fun b s9 ⟨H9, I9, q9⟩ => ?_
      -- the turn's end, from any slots that know what the block knew at its start
      have fin : ∀ {σ9 : L2.St} {s' : Shared} {H' : Hp}, Inv (X.blk s3 H3 scope ce fp) ([] ++ pinsAt fp s7.heap) σ9 H' s' → (wipe σ (own.map (·.2))).length = σ9.length → (∀ (j : Nat) v, (wipe σ (own.map (·.2)))[j]? = some (some v) → σ9[j]? = some (some v)) → Nx H' →
          ∃ m, m < n ∧ ∃ i H', Inv (X.blk s3 H3 scope ce fp) [] (wipe σ (own.map (·.2))) H' s' ∧ tn i s'.heap ∧ (∀ b ∈ fp, H' b = none) ∧ W i m H' := fun {σ9 s' H'} I' hl hk nx => by
        obtain ⟨m', hm, w'⟩ := hNx H' nx
        have pin' : ∀ b ∈ fp, ∀ o, s7.heap.get? b = some o → s'.heap.get? b = some o ∧ H' b = none := fun b hb o e =>
          let z := I'.pin (b, o) (List.mem_append_right _ (List.mem_append_right _ (mem_pinsAt hb e)))
          ⟨z.1, z.2.1⟩
        refine ⟨m', hm, i + 1, H', (I'.unpinned (pins := [])).weak hl hk, T.keep _ _ _ st7 fun b hb o e => (pin' b hb o e).1, fun b hb => ?_, w'⟩
        obtain ⟨o, e, _⟩ := T.obj _ _ st7 b hb
        exact (pin' b hb o e).2
      have hl8 : (wipe σ (own.map (·.2))).length = σ8.length := by rw [← hw8, wipe_length]
      have hk8 : ∀ (j : Nat) v, (wipe σ (own.map (·.2)))[j]? = some (some v) → σ8[j]? = some (some v) := fun j v e => by
        rw [← hw8] at e
        exact (wipe_some e).1
      have hk9 : ∀ (j : Nat) v, (wipe σ (own.map (·.2)))[j]? = some (some v) → (wipe σ8 vs1)[j]? = some (some v) := fun j v e => by
        rw [← hw8] at e
        obtain ⟨e1, e2⟩ := wipe_some e
        rw [wipe_out fun z => e2 (hv j z)]
        exact e1
      cases b with
      | false =>
        simp only [Bool.false_eq_true, if_false] at q9 ⊢
        exact fin I9 hl8 hk8 q9
      | true =>
        simp only [if_true] at q9 ⊢
        refine thnF (pi1.run _ s9 σ8 H9 _ I9 q9) fun xv s10 hx => thnF hx fun itv s11 h11 => ?_
        obtain ⟨it1, fp1, tn1, J1, H11, e1, I11, T1, st11, f11, W1, ⟨m1, w1⟩, turn1⟩ := h11
        subst e1
        -- the inner loop
        have stat1 : ∀ {H' : Hp}, (∀ b ∈ fp1, H' b = none) → ∀ b ∈ fp1, FpOk (X.blk s3 H3 scope ce fp) ([] ++ pinsAt fp s7.heap) H' b := fun hn b hb => ⟨hn b hb, (f11 b hb).2⟩
        have loop1 : codeAny (model X.prog X.w) X.A (.compLoop (e2S elt tg iter ifs tg1 iter1 ifs1 scope pos) 1 (.ref it1) (.ref D) ce)
            (fun r s' => match r with
              | .ok _ => ∃ m, m < n ∧ ∃ i H', Inv (X.blk s3 H3 scope ce fp) [] (wipe σ (own.map (·.2))) H' s' ∧ tn i s'.heap ∧ (∀ b ∈ fp, H' b = none) ∧ W i m H'
              | .error _ => False) s11 := by
          refine loopS_in (fun k s' => ∃ j H', Inv (X.blk s3 H3 scope ce fp) ([] ++ pinsAt fp s7.heap) (wipe σ8 vs1) H' s' ∧ tn1 j s'.heap ∧ (∀ b ∈ fp1, H' b = none) ∧ W1 j k H') ?_ m1 ⟨0, H11, I11.weak (wipe_length _ _) (fun j v e => (wipe_some e).1), st11, fun b hb => (f11 b hb).1, w1⟩
          rintro k s12 ⟨j, H12, I12, st12, n12, w12⟩
          rcases turn1 j k H12 w12 with ⟨stop1, nx1⟩ | ⟨go1, Nx1, hNx1, step1⟩
          · refine thnF (T1.done (X.blk s3 H3 scope ce fp) rfl rfl rfl hc j _ s12 (wipe σ8 vs1) H12 (fun _ _ => False) I12 (stat1 n12) st12 stop1) fun r s13 ⟨hr, I13⟩ => ?_
            subst hr
            exact fin I13 (hl8.trans (wipe_length σ8 vs1).symm) hk9 nx1
          · refine thnF (T1.item (X.blk s3 H3 scope ce fp) rfl rfl rfl hc j _ s12 (wipe σ8 vs1) H12 (fun _ _ => False) I12 (stat1 n12) st12 go1) fun r s13 ⟨u1, hr, h13⟩ => ?_
            subst hr
            refine thnF h13 fun _ s14 ⟨x1, H14, I14, r14, y14, st14, n14⟩ => ?_
            have I14' := I14.pinned (stat1 n14) (T1.obj _ _ st14)
            refine thnF (pg1.run _ s14 (wipe σ8 vs1) H14 x1 u1 _ I14' r14 (step1 x1 H14 y14)) fun _ s15 ⟨σ15, H15, I15, hw15, q15⟩ => ?_
            refine thnF (pt1.run _ s15 σ15 H15 _ I15 q15) fun b1 s16 ⟨H16, I16, q16⟩ => ?_
            have fin1 : ∀ {s' : Shared} {H' : Hp}, Inv (X.blk s3 H3 scope ce fp) (([] ++ pinsAt fp s7.heap) ++ pinsAt fp1 s14.heap) σ15 H' s' → Nx1 H' → ∃ m, m < k ∧ ∃ j H', Inv (X.blk s3 H3 scope ce fp) ([] ++ pinsAt fp s7.heap) (wipe σ8 vs1) H' s' ∧ tn1 j s'.heap ∧ (∀ b ∈ fp1, H' b = none) ∧ W1 j m H' := fun {s' H'} I' nx => by
              obtain ⟨m', hm, w'⟩ := hNx1 H' nx
              have pin' : ∀ b ∈ fp1, ∀ o, s14.heap.get? b = some o → s'.heap.get? b = some o ∧ H' b = none := fun b hb o e =>
                let z := I'.pin (b, o) (List.mem_append_right _ (List.mem_append_right _ (mem_pinsAt hb e)))
                ⟨z.1, z.2.1⟩
              refine ⟨m', hm, j + 1, H', I'.unpinned.weak (by rw [← hw15, wipe_length]) (fun j v e => by rw [← hw15] at e; exact (wipe_some e).1), T1.keep _ _ _ st14 fun b hb o e => (pin' b hb o e).1, fun b hb => ?_, w'⟩
              obtain ⟨o, e, _⟩ := T1.obj _ _ st14 b hb
              exact (pin' b hb o e).2
            cases b1 with
            | false =>
              simp only [Bool.false_eq_true, if_false] at q16 ⊢
              exact fin1 I16 q16
            | true =>
              simp only [if_true] at q16 ⊢
              refine thnF (pe.run _ s16 σ15 H16 _ I16 q16) fun z s17 ⟨yv, H17, I17, r17, ms, hD17, ok17⟩ => ?_
              exact addN_ok (X := X.blk s3 H3 scope ce fp) hu I17 hD17 r17 ok17 fun s18 H18 I18 nx => fin1 I18 nx
        exact startS_in loop1 (T1.self X.A 0 _ _ _ st11 loop1)
  exact PpSet.codeAny_compStart_set loop (T.self X.A 0 _ _ _ st4 loop)
theorem scN2_ok {elt tg iter tg1 iter1 : Expr} {ifs ifs1 : List Expr} {scope : Scope} {own : List (Str × Nat)} {vs1 : List Nat} {pos : Pos} {wi wi1 : TI} {g g1 : TG} {tt tt1 : TT} {te : TE} (hu : X.A.units + 65 < cLine) (hc : X.calm = true) (hN : X.N.Nodup) (hi : PI X tg iter wi) (ok : BlkOk X.N X.env.scope scope own) (hv : ∀ i ∈ vs1, i ∈ own.map (·.2))
    (hg : ∀ (s : Shared) (H : Hp) (C : Addr) (cl : List (Str × Addr)) (fp : List Addr), PG (X.blk s H scope (compEnvC scope cl C X.env) fp) tg g) (ht : ∀ (s : Shared) (H : Hp) (C : Addr) (cl : List (Str × Addr)) (fp : List Addr), PTs (X.blk s H scope (compEnvC scope cl C X.env) fp) ifs tt)
    (hi1 : ∀ (s : Shared) (H : Hp) (C : Addr) (cl : List (Str × Addr)) (fp : List Addr), PI (X.blk s H scope (compEnvC scope cl C X.env) fp) tg1 iter1 wi1)
    (hg1 : ∀ (s : Shared) (H : Hp) (C : Addr) (cl : List (Str × Addr)) (fp : List Addr), PG (X.blk s H scope (compEnvC scope cl C X.env) fp) tg1 g1) (ht1 : ∀ (s : Shared) (H : Hp) (C : Addr) (cl : List (Str × Addr)) (fp : List Addr), PTs (X.blk s H scope (compEnvC scope cl C X.env) fp) ifs1 tt1)
    (he : ∀ (s : Shared) (H : Hp) (C : Addr) (cl : List (Str × Addr)) (fp : List Addr), PE (X.blk s H scope (compEnvC scope cl C X.env) fp) elt te) (hs : ∀ x, foldedSetIterable iter X.env x = pure x := by intro _; rfl) (hs1 : ∀ env x, foldedSetIterable iter1 env x = pure x := by intro _ _; rfl) :
    PE X (e2S elt tg iter ifs tg1 iter1 ifs1 scope pos) (tScN2 X.K X.w wi g tt wi1 g1 tt1 te (own.map (·.2)) vs1) := by
  refine ⟨fun pins s σ H Q I h => ?_⟩
  show wpAny _ _ (eval (.SetComp elt [⟨tg, iter, ifs, 0⟩, ⟨tg1, iter1, ifs1, 0⟩] scope pos) X.env) _ _ s
  rw [PpSet.eval_SetComp]
  refine scN2_core hu hc hN I hi ok hv hg ht he hs hi1 hg1 ht1 hs1 h fun D C s' m H' I' q hn f => ⟨m, hn, fun h'' sb => ?_⟩
  obtain ⟨f0, f1, f2, f3, f4, f5⟩ := f
  exact ⟨.ref D, H', I'.turned (t' := s'.toks) (fun b o hb e => (sb.2 b hb).trans e) f0 f1 f3 f4 f5, rfl, q⟩
variable {g : G} {W : WX} {fe : Tau → M D} {tt tt1 : Tau → M Bool}
theorem sc2_sat {src src1 : Tau → M Itm} {vs vs1 : List Nat} {t t1 : TG} {tg tg1 : TgD} (ht : TgW g vs t tg) (ht1 : TgW g vs1 t1 tg1) {σ : L2.St} {H : Hp} {Q : VK} (h : tE g W (scS2 src vs tg tt src1 vs1 tg1 tt1 fe) σ H Q) :
    tScN2 g.K g.w (tI g W src) t (tT g W0 tt) (tI g W0 src1) t1 (tT g W0 tt1) (tE g W0 fe) vs vs1 σ H Q :=
  c2_sat (o0 := fun D => SetHO g.w D []) (m0 := .set []) (fin := fun L => scFin L.length) ht ht1 (fun F ρ L H D hR hD => hR.new hD (SetHO g.w D []) (.set []) ⟨[], upd_same, [], .refl _, .nil⟩) adS (fun _ => rfl)
    (fun F0 ρ0 L0 H0 F ρ L H D W Q hR0 hE0 hR ln hrho hp => hp F ρ _ H hE0 hR ⟨ln, by rw [hrho]⟩) h
theorem de_sc2 {elt tg iter tg1 iter1 : Expr} {ifs ifs1 : List Expr} {pos : Pos} {scope : Scope} {own : List (Str × Nat)} {vs1 : List Nat} {src src1 : Tau → M Itm} {t t1 : TG} {td td1 : TgD} (hK : X.K = g.K) (hW : X.w = g.w) (hu : X.A.units + 65 < cLine) (hc : X.calm = true) (hN : X.N.Nodup) (hi : PI X tg iter (tI g W src)) (ok : BlkOk X.N X.env.scope scope own) (hv : ∀ i ∈ vs1, i ∈ own.map (·.2))
    (hg : ∀ (s : Shared) (H : Hp) (C : Addr) (cl : List (Str × Addr)) (fp : List Addr), PG (X.blk s H scope (compEnvC scope cl C X.env) fp) tg t) (ht : TgW g (own.map (·.2)) t td)
    (hts : ∀ (s : Shared) (H : Hp) (C : Addr) (cl : List (Str × Addr)) (fp : List Addr), PTs (X.blk s H scope (compEnvC scope cl C X.env) fp) ifs (tT g W0 tt))
    (hi1 : ∀ (s : Shared) (H : Hp) (C : Addr) (cl : List (Str × Addr)) (fp : List Addr), PI (X.blk s H scope (compEnvC scope cl C X.env) fp) tg1 iter1 (tI g W0 src1))
    (hg1 : ∀ (s : Shared) (H : Hp) (C : Addr) (cl : List (Str × Addr)) (fp : List Addr), PG (X.blk s H scope (compEnvC scope cl C X.env) fp) tg1 t1) (ht1 : TgW g vs1 t1 td1)
    (hts1 : ∀ (s : Shared) (H : Hp) (C : Addr) (cl : List (Str × Addr)) (fp : List Addr), PTs (X.blk s H scope (compEnvC scope cl C X.env) fp) ifs1 (tT g W0 tt1))
    (he : ∀ (s : Shared) (H : Hp) (C : Addr) (cl : List (Str × Addr)) (fp : List Addr), PE (X.blk s H scope (compEnvC scope cl C X.env) fp) elt (tE g W0 fe)) (hs : ∀ x, foldedSetIterable iter X.env x = pure x := by intro _; rfl) (hs1 : ∀ env x, foldedSetIterable iter1 env x = pure x := by intro _ _; rfl) :
    PE X (.SetComp elt [⟨tg, iter, ifs, 0⟩, ⟨tg1, iter1, ifs1, 0⟩] scope pos) (tE g W (scS2 src (own.map (·.2)) td tt src1 vs1 td1 tt1 fe)) := PE.weak (scN2_ok hu hc hN hi ok hv hg hts hi1 hg1 hts1 he hs hs1) fun σ H Q h => by
      rw [hK, hW]
      exact sc2_sat ht ht1 h
end
end DN

end
section
set_option Elab.async false
set_option linter.all false
set_option maxRecDepth 100000
set_option maxHeartbeats 4000000
/-! E19: pop, insert, clear, extend; upper, rstrip; a text times a number. -/
namespace DN
open PySem PySem.Spec PyProof.Rows L2
section
variable {X : Cx} {g : G} {W : WX} {a b : Expr} {fa fb : Tau → M D} {pos : Pos}
theorem isA_at {F : Hp} : ∀ {vs : List V} {ps : List P} {i : Nat} {p : P}, IsA g F vs ps → ps[i]? = some p → ∃ v, vs[i]? = some v ∧ Is g F v p
  | _, _, 0, _, .cons h _, e => by cases e; exact ⟨_, rfl, h⟩
  | _, _, i + 1, _, .cons (vs := vs) (ps := ps) _ t, e => isA_at (vs := vs) (ps := ps) (i := i) t e
theorem isA_drop {F : Hp} : ∀ {vs : List V} {ps : List P} (i : Nat), IsA g F vs ps → IsA g F (vs.drop i) (ps.drop i)
  | _, _, 0, h => h
  | _, _, _ + 1, .nil => .nil
  | _, _, i + 1, .cons _ t => isA_drop i t
theorem isA_take {F : Hp} : ∀ {vs : List V} {ps : List P} (i : Nat), IsA g F vs ps → IsA g F (vs.take i) (ps.take i)
  | _, _, 0, _ => .nil
  | _, _, _ + 1, .nil => .nil
  | _, _, i + 1, .cons h t => .cons h (isA_take i t)
theorem isA_erase {F : Hp} : ∀ {vs : List V} {ps : List P} (i : Nat), IsA g F vs ps → IsA g F (vs.eraseIdx i) (ps.eraseIdx i)
  | _, _, _, .nil => by simpa using .nil
  | _, _, 0, .cons _ t => t
  | _, _, i + 1, .cons h t => .cons h (isA_erase i t)
/-- xs.pop() -/
def popD : D → List D → M D := mutL fun n xs ds L => match ds, xs[xs.length - 1]? with
  | [], some p => some (.ok (.v p), L.set n (.lst xs.dropLast))
  | _, _ => none
theorem md_pop : MtD g popD rPop := md_mut fun F ρ L H n xs us vs ds W Q hR e h1 h2 ha hp => by
  match ds, ha, hp with
  | [], ha, hp =>
    have hv := rel0 ha
    subst hv
    match ex : xs[xs.length - 1]? with
    | none => rw [ex] at hp; exact False.elim hp
    | some p =>
      rw [ex] at hp
      obtain ⟨v, hv, hi⟩ := isA_at h2 ex
      refine ⟨ρ n, us, v, rfl, rfl, h1, by rw [h2.len]; exact hv, hp.putL (us := us) (x := v) hR e hi ?_⟩
      rw [List.dropLast_eq_take, List.dropLast_eq_take, h2.len]
      exact isA_take _ h2
  | _ :: _, _, hp => exact False.elim hp
/-- xs.pop(i) -/
noncomputable def popAtD : D → List D → M D := mutL fun n xs ds L => match ds with
  | [.v (.int i)] => @ite _ (0 ≤ i ∧ i < 2 ^ 63) (Classical.propDecidable _) (match xs[i.toNat]? with
      | some p => some (.ok (.v p), L.set n (.lst (xs.eraseIdx i.toNat)))
      | none => none) none
  | _ => none
theorem md_popAt : MtD g popAtD rPopAt := md_mut fun F ρ L H n xs us vs ds W Q hR e h1 h2 ha hp => by
  match ds, ha, hp with
  | [.v (.int i)], ha, hp =>
    obtain ⟨v, rfl, hv⟩ := rel1 ha
    dsimp only at hp
    by_cases hz : 0 ≤ i ∧ i < 2 ^ 63
    · rw [if_pos hz] at hp
      match ex : xs[i.toNat]? with
      | none => rw [ex] at hp; exact False.elim hp
      | some p =>
        rw [ex] at hp
        obtain ⟨y, hy, hi⟩ := isA_at h2 ex
        have hlt : i.toNat < xs.length := (List.getElem?_eq_some_iff.mp ex).1
        refine ⟨ρ n, us, i, i.toNat, y, rfl, by rw [Is.inv_int hv], h1, by omega, hz.2, ?_, hy, hp.putL (us := us) (x := y) hR e hi (isA_erase _ h2)⟩
        have hlen := h2.len
        exact seqIndex_of hz.1 (by omega)
    · rw [if_neg hz] at hp
      exact False.elim hp
  | [], _, hp => exact False.elim hp
  | [.r _], _, hp => exact False.elim hp
  | .v (.str _) :: _, _, hp => exact False.elim hp
  | .v .non :: _, _, hp => exact False.elim hp
  | .v (.bl _) :: _, _, hp => exact False.elim hp
  | .v (.lst _) :: _, _, hp => exact False.elim hp
  | .v (.tup _) :: _, _, hp => exact False.elim hp
  | .v (.scr _) :: _, _, hp => exact False.elim hp
  | .v (.ins _ _) :: _, _, hp => exact False.elim hp
  | .v (.int _) :: _ :: _, _, hp => exact False.elim hp
  | .r _ :: _ :: _, _, hp => exact False.elim hp
/-- xs.clear() -/
def clearD : D → List D → M D := mutL fun n xs ds L => match ds with
  | [] => some (.ok (.v .non), L.set n (.lst []))
  | _ => none
theorem md_clear : MtD g clearD rClear := md_mut fun F ρ L H n xs us vs ds W Q hR e h1 h2 ha hp => by
  match ds, ha, hp with
  | [], ha, hp =>
    have hv := rel0 ha
    subst hv
    exact ⟨ρ n, us, rfl, rfl, h1, hp.putL (us := us) (vs := []) (x := .non) hR e Is.non .nil⟩
  | _ :: _, _, hp => exact False.elim hp
/-- xs.insert(i, y) -/
noncomputable def insertD : D → List D → M D := mutL fun n xs ds L => match ds with
  | [.v (.int i), .v p] => @ite _ (0 ≤ i ∧ i < 2 ^ 63 ∧ xs.length < sizeLine) (Classical.propDecidable _) (some (.ok (.v .non), L.set n (.lst (xs.take i.toNat ++ [p] ++ xs.drop i.toNat)))) none
  | _ => none
def rInsert : V → List V → Hp → VK → Prop := fun x vs H Q => ∃ (l : Addr) (xs : List V) (i : Int) (y : V), x = .ref l ∧ vs = [.int i, y] ∧ H l = some (.lst xs) ∧ xs.length < sizeLine ∧ 0 ≤ i ∧ i < 2 ^ 63 ∧
    Q .non (upd H l (.lst (xs.take i.toNat ++ [y] ++ xs.drop i.toNat)))
theorem mt_insertR : MtR X "list.insert" rInsert := mt_insert
theorem md_insert : MtD g insertD rInsert := md_mut fun F ρ L H n xs us vs ds W Q hR e h1 h2 ha hp => by
  split at hp
  · rename_i i p
    obtain ⟨v, w, rfl, hv, hw⟩ := rel2 ha
    split at hp
    · rename_i hz
      exact ⟨ρ n, us, i, w, rfl, by rw [Is.inv_int hv], h1, by rw [h2.len]; exact hz.2.2, hz.1, hz.2.1, hp.putL (us := us) (x := .non) hR e Is.non (((isA_take _ h2).append (.cons hw .nil)).append (isA_drop _ h2))⟩
    · exact False.elim hp
  · exact False.elim hp
/-- xs.extend(ys) -/
def extendD : D → List D → M D := mutL fun n xs ds L => match ds with
  | [d] => (match asM L d with
    | some ys => if xs.length + ys.length ≤ sizeLine then some (.ok (.v .non), L.set n (.lst (xs ++ ys))) else none
    | none => none)
  | _ => none
theorem md_extend : MtD g extendD rExtend := md_mut fun F ρ L H n xs us vs ds W Q hR e h1 h2 ha hp => by
  split at hp
  · rename_i d
    obtain ⟨v, rfl, hv⟩ := rel1 ha
    split at hp
    · rename_i ys ey
      split at hp
      · rename_i hz
        obtain ⟨b, ws, rfl, h3, h4⟩ := asM_at hR hv ey
        exact ⟨ρ n, b, us, ws, rfl, rfl, h1, h3, by rw [h2.len, h4.len]; exact hz, hp.putL (us := us) (x := .non) hR e Is.non (h2.append h4)⟩
      · exact False.elim hp
    · exact False.elim hp
  · exact False.elim hp
/-- x.upper(), x.rstrip() -/
def strM (ok : Str → Bool) (op : Str → Str) : D → List D → M D := fun x ds L => match x, ds with
  | .v (.str a), [] => if ok a = true then some (.ok (.v (.str (op a))), L) else none
  | _, _ => none
theorem md_strM {ok : Str → Bool} {op : Str → Str} {C : Str → Prop} (h : ∀ a, ok a = true → C a) : MtD g (strM ok op) (fun x xs H Q => ∃ a, x = .str a ∧ xs = [] ∧ C a ∧ Q (.str (op a)) H) := by
  intro F ρ L H x d vs ds W Q hR hx ha hp
  unfold strM at hp
  split at hp
  · rename_i a
    have hv := rel0 ha
    subst hv
    split at hp
    · rename_i hz
      exact ⟨a, Is.inv_str hx, rfl, h a hz, hp.val hR (Is.str _)⟩
    · exact False.elim hp
  · exact False.elim hp
def upperD : D → List D → M D := strM (fun a => decide (a.length ≤ 5592405)) Txt.upper
theorem md_upper : MtD g upperD (fun x xs H Q => ∃ a, x = .str a ∧ xs = [] ∧ a.length ≤ 5592405 ∧ Q (.str (Txt.upper a)) H) := md_strM fun _ h => of_decide_eq_true h
def rstripD : D → List D → M D := strM (fun a => decide (a.length ≤ sizeLine)) Txt.rstrip
theorem md_rstrip : MtD g rstripD (fun x xs H Q => ∃ a, x = .str a ∧ xs = [] ∧ a.length ≤ sizeLine ∧ Q (.str (Txt.rstrip a)) H) := md_strM fun _ h => of_decide_eq_true h
/-- a text times a number -/
def mulSD : D → D → M D := fun x y L => match x, y with
  | .v (.str a), .v (.int n) => if 1 ≤ n ∧ n ≤ 1000 ∧ a.length ≤ 1000 then some (.ok (.v (.str (Txt.mul a n))), L) else none
  | _, _ => none
def rMulS : R2 := fun x y H Q => ∃ a n, x = .str a ∧ y = .int n ∧ MulOk a n ∧ Q (.str (Txt.mul a n)) H
theorem op_mulS : OpR X (binaryOp .Mult) rMulS := by
  intro pins s σ H x y v u Q I rx ry h
  obtain ⟨a, n, rfl, rfl, hz, q⟩ := h
  obtain ⟨t, rfl⟩ := rx
  obtain ⟨t', rfl⟩ := ry
  exact SB.mul hz fun t' tk => ⟨.str (Txt.mul a n), H, I.tok _, ⟨_, rfl⟩, q⟩
theorem mulOk_of {a : Str} {n : Int} (h1 : 1 ≤ n) (h2 : n ≤ 1000) (h3 : a.length ≤ 1000) : MulOk a n := by
  refine ⟨by simp; omega, fun _ _ => ?_, fun _ _ => ?_⟩
  · have : (2 ^ 63 - 1 : Int) / 1000 ≤ (2 ^ 63 - 1) / n := Int.le_ediv_of_mul_le (by omega) (by
      have : (2 ^ 63 - 1 : Int) / 1000 * n ≤ (2 ^ 63 - 1 : Int) / 1000 * 1000 := Int.mul_le_mul_of_nonneg_left h2 (by decide)
      omega)
    omega
  · have h4 : a.length * n.toNat ≤ 1000 * 1000 := Nat.mul_le_mul h3 (by omega)
    exact PyProof.Rows.short24 (by omega)
theorem opd_mulS : OpD g mulSD rMulS := by
  intro F ρ L H x y d e W Q hR hx hy hp
  unfold mulSD at hp
  split at hp
  · rename_i a n
    split at hp
    · rename_i hz
      exact ⟨a, n, Is.inv_str hx, Is.inv_int hy, mulOk_of hz.1 hz.2.1 hz.2.2, hp.val hR (.str _)⟩
    · exact False.elim hp
  · exact False.elim hp
theorem de_mulS (ha : PE X a (tE g W fa)) (hb : PE X b (tE g W fb)) : PE X (.BinOp a .Mult b pos) (tE g W (bin mulSD fa fb)) := de_op op_mulS opd_mulS ha hb
end
end DN

end
section
set_option Elab.async false
set_option linter.all false
set_option maxRecDepth 100000
set_option maxHeartbeats 4000000
/-! E20: constants of classes; what a class has from the ones above. -/
namespace DN
open PySem PySem.Spec PyProof.Rows L2 He
section
variable {K : PySem.W.Frag}
/-- class c has the text x under the name f -/
def conB (c : Nat) (f x : Str) : Chk := fun K => match PySem.W.findIn K (.ref (ga K (cnm c))) f with
  | some (some (.str y t)) => decide (y = x) && (eqO (PySem.W.specialIn K (.str y t) "__get__") (some none) && !PySem.W.copiedNames.contains f)
  | _ => false
theorem conB_ok {w : World} {c : Nat} {f x : Str} (h : conB c f x K = true) : ∃ v u, Con (gOf K w).K ((gOf K w).cl c) f v u ∧ ∀ F, Is (gOf K w) F v (.str x) := by
  unfold conB at h
  split at h
  · rename_i y t e
    obtain ⟨h1, h⟩ := ba h
    obtain ⟨h2, h3⟩ := ba h
    have h1 := of_decide_eq_true h1
    subst h1
    exact ⟨.str y, .str y t, ⟨e, ⟨t, rfl⟩, eqO_ok h2, by simpa using h3⟩, fun F => Is.str y⟩
  · cases h
/-- c's m is d's -/
def inhB (c d m : Str) : Chk := fun K => decide (ma K (ga K c) m = ma K (ga K d) m)
theorem mkr_inh {c d : Str} (h : Mk K (ga K c) (ma K (ga K c) "__init__")) (e : inhB c d "__init__" K = true) : Mk K (ga K c) (ma K (ga K d) "__init__") := by
  rw [← show ma K (ga K c) "__init__" = ma K (ga K d) "__init__" from of_decide_eq_true e]
  exact h
theorem meth_inh {c d m : Str} (h : Meth K (ga K c) m (ma K (ga K c) m)) (e : inhB c d m K = true) : Meth K (ga K c) m (ma K (ga K d) m) := by
  rw [← show ma K (ga K c) m = ma K (ga K d) m from of_decide_eq_true e]
  exact h
theorem fnIn_inh {c d m : Str} (h : PySem.W.fnIn K (ma K (ga K c) m) = true) (e : inhB c d m K = true) : PySem.W.fnIn K (ma K (ga K d) m) = true := by
  rw [← show ma K (ga K c) m = ma K (ga K d) m from of_decide_eq_true e]
  exact h
end
end DN

end
section
set_option Elab.async false
set_option linter.all false
set_option maxRecDepth 100000
set_option maxHeartbeats 4000000
/-! E21: texts by their letters; drawn names. -/
namespace DN
open PySem
open L2 (ixN atI)
def tW (l : List Nat) : Str := ⟨l.toArray⟩
theorem tW_tl (x : Str) : tW x.cps.toList = x := by unfold tW; simp
theorem tW_cps (l : List Nat) : (tW l).cps.toList = l := by unfold tW; simp
theorem tW_len (l : List Nat) : (tW l).length = l.length := by unfold tW; simp [Str.length]
theorem tW_inj {a b : List Nat} (h : tW a = tW b) : a = b := by rw [← tW_cps a, h, tW_cps]
theorem tW_app (a b : List Nat) : tW a ++ tW b = tW (a ++ b) := by
  have e : (tW a ++ tW b).cps.toList = (tW a).cps.toList ++ (tW b).cps.toList := TL.tl_append _ _
  rw [tW_cps, tW_cps] at e
  rw [← tW_tl (tW a ++ tW b), e]
theorem cut_to {l : List Nat} {k : Int} (h : 0 ≤ k) : L2.cutS (tW l) none (some k) = tW (l.take k.toNat) := by
  unfold L2.cutS
  have e : HT.sIx (tW l).length (tW l).length (some k) = min k.toNat l.length := by
    rw [tW_len]
    show (if k < 0 then (k + (l.length : Int)).toNat else min k.toNat l.length) = _
    rw [if_neg (by omega)]
  rw [e, HT.sIx_none, tW_cps, List.drop_zero, Nat.sub_zero]
  unfold tW
  refine congrArg (fun z : List Nat => (⟨z.toArray⟩ : Str)) (List.take_eq_take_iff.mpr ?_)
  omega
theorem cut_from {l : List Nat} {k : Int} (h : 0 ≤ k) : L2.cutS (tW l) (some k) none = tW (l.drop k.toNat) := by
  unfold L2.cutS
  have e : HT.sIx (tW l).length 0 (some k) = min k.toNat l.length := by
    rw [tW_len]
    show (if k < 0 then (k + (l.length : Int)).toNat else min k.toNat l.length) = _
    rw [if_neg (by omega)]
  rw [e, HT.sIx_none, tW_cps, tW_len]
  unfold tW
  congr 1
  by_cases c : k.toNat ≤ l.length
  · rw [Nat.min_eq_left c, List.take_of_length_le (by simp)]
  · rw [Nat.min_eq_right (by omega), List.drop_eq_nil_of_le (Nat.le_refl _), List.drop_eq_nil_of_le (by omega)]
    simp
theorem cut_mid {l : List Nat} {i j : Int} (hi : 0 ≤ i) (hj : 0 ≤ j) : L2.cutS (tW l) (some i) (some j) = tW ((l.drop i.toNat).take (j.toNat - i.toNat)) := by
  unfold L2.cutS
  have e : ∀ (d : Nat) (k : Int), 0 ≤ k → HT.sIx (tW l).length d (some k) = min k.toNat l.length := fun d k hk => by
    rw [tW_len]
    show (if k < 0 then (k + (l.length : Int)).toNat else min k.toNat l.length) = _
    rw [if_neg (by omega)]
  rw [e 0 i hi, e _ j hj, tW_cps]
  unfold tW
  congr 1
  by_cases c : i.toNat ≤ l.length
  · rw [Nat.min_eq_left c]
    refine congrArg List.toArray (List.take_eq_take_iff.mpr ?_)
    rw [List.length_drop]
    omega
  · rw [Nat.min_eq_right (by omega : l.length ≤ i.toNat), List.drop_eq_nil_of_le (Nat.le_refl _), List.drop_eq_nil_of_le (by omega)]
    simp
section
variable {α β : Type} {L : List MO} {E : EX} {Q : D → List MO → Prop}
theorem wp_slS {x : Str} {lo hi : Option Int} : wp (slD (.v (.str x)) lo hi) L E Q = (x.length ≤ sizeLine ∧ Q (.v (.str (L2.cutS x lo hi))) L) := wp_grd rfl
theorem wp_ixS {x : Str} {i : Nat} {c : Nat} (hz : x.length ≤ sizeLine) (h : x.cps.toList[i]? = some c) : wp (ixA (.v (.str x)) (.v (.int i))) L E Q = Q (.v (.str (tW [c]))) L := by
  have hl : i < x.cps.toList.length := (List.getElem?_eq_some_iff.mp h).1
  have hn : ixN x.cps.toList.length (i : Int) = some i := by
    unfold ixN
    rw [if_pos (by omega), if_pos (by omega)]
    rfl
  refine wp_of ?_
  show (if x.length ≤ sizeLine then (atI x.cps.toList (i : Int)).map fun c => ((.ok (.v (.str ⟨#[c]⟩)), L) : Res D × List MO) else none) = _
  rw [if_pos hz]
  unfold atI
  rw [hn]
  simp only [Option.bind_some, h]
  rfl
theorem wp_ixSi {x : Str} {i : Int} {c : Nat} (hz : x.length ≤ sizeLine) (h0 : 0 ≤ i) (h : x.cps.toList[i.toNat]? = some c) : wp (ixA (.v (.str x)) (.v (.int i))) L E Q = Q (.v (.str (tW [c]))) L := by
  have := wp_ixS (L := L) (E := E) (Q := Q) hz h
  rw [Int.toNat_of_nonneg h0] at this
  exact this
theorem wp_ixLi {xs : List P} {i : Int} {p : P} (h0 : 0 ≤ i) (h : xs[i.toNat]? = some p) : wp (ixA (.v (.lst xs)) (.v (.int i))) L E Q = Q (.v p) L := by
  have := wp_ixL (L := L) (E := E) (Q := Q) h
  rw [Int.toNat_of_nonneg h0] at this
  exact this
theorem wp_ixTi {xs : List P} {i : Int} {p : P} (h0 : 0 ≤ i) (h : xs[i.toNat]? = some p) : wp (ixA (.v (.tup xs)) (.v (.int i))) L E Q = Q (.v p) L := by
  have := wp_ixT (L := L) (E := E) (Q := Q) h
  rw [Int.toNat_of_nonneg h0] at this
  exact this
theorem wp_ixRi {n : Nat} {xs : List P} {i : Int} {p : P} (hL : L[n]? = some (.lst xs)) (h0 : 0 ≤ i) (h : xs[i.toNat]? = some p) : wp (ixA (.r n) (.v (.int i))) L E Q = Q (.v p) L := by
  have := wp_ixR (L := L) (E := E) (Q := Q) hL h
  rw [Int.toNat_of_nonneg h0] at this
  exact this
end
/-! ### letters -/
def lett : Str := "abcdefghijklmnopqrstuvwxyz"
def lcd (r : Int) : Nat := 97 + (r % 26).toNat
theorem lett_len : lett.length ≤ sizeLine := le_line _ (by decide +kernel)
theorem lett_at {i : Nat} (h : i < 26) : lett.cps.toList[i]? = some (97 + i) := by
  have key : ∀ j : Fin 26, lett.cps.toList[j.val]? = some (97 + j.val) := by decide +kernel
  exact key ⟨i, h⟩
theorem lcd_low (r : Int) : 97 ≤ lcd r ∧ lcd r ≤ 122 := by
  unfold lcd
  have h1 := Int.emod_nonneg r (show (26 : Int) ≠ 0 by decide)
  have h2 := Int.emod_lt_of_pos r (show (0 : Int) < 26 by decide)
  omega
theorem join_tW (cs : List Nat) : Txt.join "" (cs.map fun c => tW [c]) = tW cs := by
  have key : ∀ ys : List Str, (Txt.join "" ys).cps.toList = (ys.map fun y => y.cps.toList).flatten := fun ys => by
    show TL.tl (Txt.join "" ys) = _
    rw [TL.join_eq, TL.tl_join]
    have hj : ∀ zs : List (List Nat), TL.joinL [] zs = zs.flatten := by
      intro zs
      induction zs with
      | nil => rfl
      | cons z zs ih =>
        cases zs with
        | nil => simp [TL.joinL]
        | cons y zs =>
          show z ++ ([] ++ TL.joinL [] (y :: zs)) = _
          rw [ih]
          simp
    exact hj _
  rw [← tW_tl (Txt.join "" _), key, List.map_map]
  congr 1
  induction cs with
  | nil => rfl
  | cons c cs ih =>
    rw [List.map_cons, List.flatten_cons, ih]
    show (tW [c]).cps.toList ++ cs = _
    rw [tW_cps]
    rfl
/-! ### the drawn names -/
def nmL (s sh st pl sz : Int) (w : List Nat) (k : Nat) : List Nat :=
  if s = 1 then w.take (1 + (k + pl) % 8).toNat
  else if s = 2 then lcd (sh + st * k) :: (w.drop k).take ((k + (pl + 3 * k) % 8).toNat - k)
  else w.take (pl % sz).toNat ++ [lcd (sh + st * k)] ++ (w.drop (pl % sz + 1).toNat).take (sz.toNat - (pl % sz + 1).toNat)
def LowL (l : List Nat) : Prop := ∀ c ∈ l, 97 ≤ c ∧ c ≤ 122
/-- a text that is a name -/
def Nm (x : Str) : Prop := LowL x.cps.toList ∧ 1 ≤ x.length ∧ x.length ≤ 8
theorem nmL_good {s sh st pl sz : Int} {w : List Nat} {k : Nat} (hw : w.length = 8) (hl : LowL w) (h0 : 0 ≤ pl) (h1 : 0 < sz) (h2 : sz ≤ 8) (hk : k < 8) : Nm (tW (nmL s sh st pl sz w k)) := by
  have t1 : ∀ n, LowL (w.take n) := fun n c hc => hl c (List.mem_of_mem_take hc)
  have d1 : ∀ n m, LowL ((w.drop n).take m) := fun n m c hc => hl c (List.mem_of_mem_drop (List.mem_of_mem_take hc))
  have e0 := Int.emod_nonneg pl (show sz ≠ 0 by omega)
  have e1 := Int.emod_lt_of_pos pl h1
  unfold Nm
  rw [tW_cps, tW_len]
  unfold nmL
  by_cases c1 : s = 1
  · rw [if_pos c1]
    refine ⟨t1 _, ?_, ?_⟩ <;> rw [List.length_take, hw] <;> omega
  · rw [if_neg c1]
    by_cases c2 : s = 2
    · rw [if_pos c2]
      refine ⟨fun c hc => ?_, ?_, ?_⟩
      · rcases List.mem_cons.mp hc with z | z
        · rw [z]; exact lcd_low _
        · exact d1 _ _ c z
      · rw [List.length_cons]; omega
      · rw [List.length_cons, List.length_take, List.length_drop, hw]; omega
    · rw [if_neg c2]
      refine ⟨fun c hc => ?_, ?_, ?_⟩
      · rcases List.mem_append.mp hc with z | z
        · rcases List.mem_append.mp z with z | z
          · exact t1 _ c z
          · rw [List.mem_singleton.mp z]; exact lcd_low _
        · exact d1 _ _ c z
      · simp only [List.length_append, List.length_singleton]; omega
      · simp only [List.length_append, List.length_singleton, List.length_take, List.length_drop, hw]; omega
theorem lcd_inj {sh t : Int} {j k : Nat} (h0 : 0 ≤ t) (h1 : t < 6) (hj : j < 8) (hk : k < 8) (h : lcd (sh + (1 + 2 * t) * j) = lcd (sh + (1 + 2 * t) * k)) : j = k := by
  have key : ∀ (t : Fin 6) (j k : Fin 8), ((1 + 2 * (t.val : Int)) * (j.val : Int) - (1 + 2 * (t.val : Int)) * (k.val : Int)) % 26 = 0 → j = k := by decide +kernel
  unfold lcd at h
  have a1 := Int.emod_nonneg (sh + (1 + 2 * t) * j) (show (26 : Int) ≠ 0 by decide)
  have a2 := Int.emod_nonneg (sh + (1 + 2 * t) * k) (show (26 : Int) ≠ 0 by decide)
  have e : (sh + (1 + 2 * t) * j) % 26 = (sh + (1 + 2 * t) * k) % 26 := by omega
  have e2 : ((1 + 2 * t) * (j : Int) - (1 + 2 * t) * (k : Int)) % 26 = 0 := by omega
  have := key ⟨t.toNat, by omega⟩ ⟨j, hj⟩ ⟨k, hk⟩ (by
    have et : ((t.toNat : Nat) : Int) = t := by omega
    show ((1 + 2 * ((t.toNat : Nat) : Int)) * (j : Int) - (1 + 2 * ((t.toNat : Nat) : Int)) * (k : Int)) % 26 = 0
    rw [et]
    exact e2)
  exact congrArg Fin.val this
theorem nmL_inj {s sh t pl sz : Int} {w : List Nat} {j k : Nat} (hw : w.length = 8) (h0 : 0 ≤ pl) (t0 : 0 ≤ t) (t1 : t < 6) (h1 : 0 < sz) (h2 : sz ≤ 8) (hj : j < 8) (hk : k < 8) (h : nmL s sh (1 + 2 * t) pl sz w j = nmL s sh (1 + 2 * t) pl sz w k) : j = k := by
  unfold nmL at h
  have e0 := Int.emod_nonneg pl (show sz ≠ 0 by omega)
  have e1 := Int.emod_lt_of_pos pl h1
  by_cases c1 : s = 1
  · rw [if_pos c1, if_pos c1] at h
    have := congrArg List.length h
    rw [List.length_take, List.length_take, hw] at this
    omega
  · rw [if_neg c1, if_neg c1] at h
    by_cases c2 : s = 2
    · rw [if_pos c2, if_pos c2] at h
      injection h with h _
      exact lcd_inj t0 t1 hj hk h
    · rw [if_neg c2, if_neg c2, List.append_assoc, List.append_assoc] at h
      have := List.append_cancel_left h
      rw [List.singleton_append, List.singleton_append] at this
      injection this with this _
      exact lcd_inj t0 t1 hj hk this
theorem nm_nodup {s sh t pl sz : Int} {w : List Nat} (hw : w.length = 8) (h0 : 0 ≤ pl) (t0 : 0 ≤ t) (t1 : t < 6) (h1 : 0 < sz) (h2 : sz ≤ 8) : ((List.range 8).map fun k => tW (nmL s sh (1 + 2 * t) pl sz w k)).Nodup := by
  refine List.Pairwise.map (R := fun j k : Nat => j < 8 ∧ k < 8 ∧ j ≠ k) _ (fun j k hjk e => hjk.2.2 (nmL_inj hw h0 t0 t1 h1 h2 hjk.1 hjk.2.1 (tW_inj e))) ?_
  decide +kernel
/-- eight names, each another one -/
def Names (ns : List Str) : Prop := ns.length = 8 ∧ ns.Nodup ∧ ∀ x ∈ ns, Nm x
end DN

end
section
set_option Elab.async false
set_option linter.all false
set_option maxRecDepth 100000
set_option maxHeartbeats 4000000
/-! E22: comprehensions whose turns change the ledger; two generators; sets. -/
namespace DN
open PySem
open L2 (ixN atI)
section
variable {L : List MO} {E : EX} {τ : Tau} {Q : D → List MO → Prop}
abbrev noE : EX := fun _ _ _ => False
theorem lst_get (L : List MO) (x : MO) : (L ++ [x])[L.length]? = some x := by rw [List.getElem?_append_right (Nat.le_refl _), Nat.sub_self]; rfl
theorem lst_set (L : List MO) (x y : MO) : (L ++ [x]).set L.length y = L ++ [y] := by rw [List.set_append_right _ _ (Nat.le_refl _), Nat.sub_self]; rfl
theorem lcFin_wp {mu : Bool} {L' : List MO} {ys : List P} (hl : L'.length = L.length) (ho : Older L L') (h : if mu = true then Q (.r L.length) (L' ++ [.lst ys]) else Q (.v (.lst ys)) L') {m : M D} (e : m L = lcFin mu L (some (L' ++ [.lst ys]))) : wp m L E Q := by
  cases mu with
  | true =>
    rw [if_pos rfl] at h
    have : m L = some (.ok (.r L.length), L' ++ [.lst ys]) := e
    rw [wp_of this]
    exact h
  | false =>
    rw [if_neg Bool.false_ne_true] at h
    have : m L = some (.ok (.v (.lst ys)), L') := by
      rw [e]
      unfold lcFin
      dsimp only
      rw [if_neg Bool.false_ne_true, ← hl, lst_get]
      dsimp only
      rw [if_pos (older_app _ ho), List.take_left']
      rfl
    rw [wp_of this]
    exact h
/-- J: what holds of the items so far and of the ledger below the new list -/
theorem lcG_J {ok : List MO → Prop} {tg : TgD} {tt : Tau → M Bool} {fe : Tau → M D} (J : Nat → List P → List MO → Prop) (hok : ∀ i ys L', J i ys L' → ok (L' ++ [.lst ys])) {n N : Nat} (hN : N ≤ sizeLine) (ho : ∀ i ys L', J i ys L' → L'.length = n ∧ ys.length ≤ i) : ∀ (xs : List P) (i0 : Nat) (ys : List P) (L' : List MO), J i0 ys L' → i0 + xs.length ≤ N →
    (∀ i p ys L', xs[i]? = some p → J (i0 + i) ys L' → ∃ τ1, tg p τ = some τ1 ∧ wp (tt τ1) (L' ++ [.lst ys]) noE fun t L1 =>
      if t = true then wp (fe τ1) L1 noE fun d L2 => ∃ q Lb, d = .v q ∧ L2 = Lb ++ [.lst ys] ∧ J (i0 + i + 1) (ys ++ [q]) Lb else ∃ Lb, L1 = Lb ++ [.lst ys] ∧ J (i0 + i + 1) ys Lb) →
    ∃ zs Lb, lcG ok (lcT tg tt fe) n τ xs (L' ++ [.lst ys]) = some (Lb ++ [.lst zs]) ∧ J (i0 + xs.length) zs Lb
  | [], i0, ys, L', hj, _, _ => ⟨ys, L', by unfold lcG; rw [if_pos (hok _ _ _ hj)], hj⟩
  | p :: ps, i0, ys, L', hj, hi, hs => by
    rw [List.length_cons] at hi
    obtain ⟨τ1, e1, w⟩ := hs 0 p ys L' rfl hj
    obtain ⟨t, L1, e2, w⟩ := wp_out w
    have rest : ∀ ys2 L2, J (i0 + 1) ys2 L2 → ∃ zs Lb, lcG ok (lcT tg tt fe) n τ ps (L2 ++ [.lst ys2]) = some (Lb ++ [.lst zs]) ∧ J (i0 + (ps.length + 1)) zs Lb := fun ys2 L2 h2 => by
      rw [show i0 + (ps.length + 1) = i0 + 1 + ps.length by omega]
      refine lcG_J J hok hN ho ps (i0 + 1) ys2 L2 h2 (by omega) fun i q ys L e hj => ?_
      have := hs (i + 1) q ys L e (by rw [show i0 + (i + 1) = i0 + 1 + i by omega]; exact hj)
      rw [show i0 + (i + 1) = i0 + 1 + i by omega] at this
      exact this
    unfold lcG
    rw [if_pos (hok _ _ _ hj)]
    unfold lcT
    rw [e1]
    dsimp only
    rw [e2]
    cases t with
    | false =>
      rw [if_neg Bool.false_ne_true] at w
      obtain ⟨Lb, rfl, hj2⟩ := w
      exact rest ys Lb hj2
    | true =>
      rw [if_pos rfl] at w
      obtain ⟨d, L2, e3, q, Lb, rfl, rfl, hj2⟩ := wp_out w
      obtain ⟨hl, hy⟩ := ho _ _ _ hj2
      rw [List.length_append, List.length_singleton] at hy
      dsimp only
      rw [e3]
      dsimp only
      rw [← hl, lst_get]
      dsimp only
      rw [if_pos (by omega), lst_set, hl]
      exact rest _ Lb hj2
theorem wp_lcJ {mu : Bool} {tg : TgD} {tt : Tau → M Bool} {fe : Tau → M D} {xs : List P} {ok : List MO → Prop} (J : Nat → List P → List MO → Prop) (h0 : J 0 [] L) (hok : ∀ i ys L', J i ys L' → ok (L' ++ [.lst ys])) (hz : xs.length ≤ sizeLine)
    (ho : ∀ i ys L', J i ys L' → L'.length = L.length ∧ Older L L' ∧ ys.length ≤ i)
    (hs : ∀ i p ys L', xs[i]? = some p → J i ys L' → ∃ τ1, tg p τ = some τ1 ∧ wp (tt τ1) (L' ++ [.lst ys]) noE fun t L1 =>
      if t = true then wp (fe τ1) L1 noE fun d L2 => ∃ q Lb, d = .v q ∧ L2 = Lb ++ [.lst ys] ∧ J (i + 1) (ys ++ [q]) Lb else ∃ Lb, L1 = Lb ++ [.lst ys] ∧ J (i + 1) ys Lb)
    (h : ∀ ys L', J xs.length ys L' → if mu = true then Q (.r L.length) (L' ++ [.lst ys]) else Q (.v (.lst ys)) L') : wp (lcE mu (lcT tg tt fe) τ (xs, ok)) L E Q := by
  obtain ⟨zs, Lb, e, hj⟩ := lcG_J (n := L.length) (τ := τ) J hok hz (fun i ys L' h => ⟨(ho i ys L' h).1, (ho i ys L' h).2.2⟩) xs 0 [] L h0 (by omega) (fun i p ys L' e hj => by
    rw [Nat.zero_add] at hj ⊢
    exact hs i p ys L' e hj)
  rw [Nat.zero_add] at hj
  obtain ⟨h1, h2, _⟩ := ho _ _ _ hj
  refine lcFin_wp h1 h2 (h zs Lb hj) ?_
  unfold lcE
  dsimp only
  rw [e]
theorem wp_rngI {m : Int} {QI : Itm → List MO → Prop} (h0 : 0 ≤ m) (h1 : m < 2 ^ 62) : wp (rng1 [.v (.int m)]) L E QI = QI ((List.range m.toNat).map fun i : Nat => P.int (0 + i), fun _ => True) L := by
  have := wp_rng1 (L := L) (E := E) (QI := QI) (n := m.toNat) (by omega)
  rw [Int.toNat_of_nonneg h0] at this
  exact this
theorem okT_nil {n : Nat} : okT n [] := fun i d h => by simp at h
theorem okT_none {n : Nat} {τ : Tau} (h : okT n τ) : okT n (none :: τ) := fun i d q => by
  cases i with
  | zero => cases q
  | succ i => exact h i d q
theorem okT_v {n : Nat} {p : P} {τ : Tau} (h : okT n τ) : okT n (some (.v p) :: τ) := fun i d q => by
  cases i with
  | zero => cases q; trivial
  | succ i => exact h i d q
theorem okT_r {n m : Nat} {τ : Tau} (hm : m < n) (h : okT n τ) : okT n (some (.r m) :: τ) := fun i d q => by
  cases i with
  | zero => cases q; exact hm
  | succ i => exact h i d q
theorem older_last (L : List MO) (x y : List P) : Older (L ++ [.lst x]) (L ++ [.lst y]) := by
  rw [← lst_set L (.lst x) (.lst y)]
  exact older_set
/-! ### two generators -/
noncomputable def lcE2 (mu : Bool) (tg : TgD) (tt : Tau → M Bool) (src1 : Tau → M Itm) (vs1 : List Nat) (tg1 : TgD) (tt1 : Tau → M Bool) (fe : Tau → M D) (τ : Tau) (it : Itm) : M D := fun L => lcFin mu L (foG it.2 (tnG tg tt (inG src1 vs1 tg1 tt1 (elG (addLG L.length) fe)) τ) it.1 (L ++ [.lst []]))
noncomputable def scE2 (tg : TgD) (tt : Tau → M Bool) (src1 : Tau → M Itm) (vs1 : List Nat) (tg1 : TgD) (tt1 : Tau → M Bool) (fe : Tau → M D) (τ : Tau) (it : Itm) : M D := fun L => scFin L.length (foG it.2 (tnG tg tt (inG src1 vs1 tg1 tt1 (elG (addSG L.length) fe)) τ) it.1 (L ++ [.set []]))
theorem wp_lc2 {mu : Bool} {src src1 : Tau → M Itm} {vs vs1 : List Nat} {tg tg1 : TgD} {tt tt1 : Tau → M Bool} {fe : Tau → M D} : wp (lcS2 mu src vs tg tt src1 vs1 tg1 tt1 fe τ) L E Q = wp (src τ) L E fun it L1 => wp (lcE2 mu tg tt src1 vs1 tg1 tt1 fe (killT vs τ) it) L1 E Q := wp_bind
theorem wp_sc2 {src src1 : Tau → M Itm} {vs vs1 : List Nat} {tg tg1 : TgD} {tt tt1 : Tau → M Bool} {fe : Tau → M D} : wp (scS2 src vs tg tt src1 vs1 tg1 tt1 fe τ) L E Q = wp (src τ) L E fun it L1 => wp (scE2 tg tt src1 vs1 tg1 tt1 fe (killT vs τ) it) L1 E Q := wp_bind
theorem wp_sc {src : Tau → M Itm} {vs : List Nat} {tg : TgD} {tt : Tau → M Bool} {fe : Tau → M D} : wp (scS src vs tg tt fe τ) L E Q = wp (src τ) L E fun it L1 => wp (scE (lcT tg tt fe) (killT vs τ) it) L1 E Q := wp_bind
/-- a turn -/
theorem tnG_of {tg : TgD} {tt : Tau → M Bool} {k : Tau → List MO → Option (List MO)} {p : P} {L' : List MO} {T : List MO → Prop} (h : ∃ τ1, tg p τ = some τ1 ∧ wp (tt τ1) L' noE fun t L1 => if t = true then ∃ L2, k τ1 L1 = some L2 ∧ T L2 else T L1) : ∃ L2, tnG tg tt k τ p L' = some L2 ∧ T L2 := by
  obtain ⟨τ1, e1, w⟩ := h
  obtain ⟨t, L1, e2, w⟩ := wp_out w
  unfold tnG
  rw [e1]
  dsimp only
  rw [e2]
  cases t with
  | false =>
    rw [if_neg Bool.false_ne_true] at w
    exact ⟨L1, rfl, w⟩
  | true =>
    rw [if_pos rfl] at w
    exact w
theorem inG_of {src : Tau → M Itm} {vs : List Nat} {tg : TgD} {tt : Tau → M Bool} {k : Tau → List MO → Option (List MO)} {L' : List MO} {T : List MO → Prop} (h : wp (src τ) L' noE fun it L1 => ∃ L2, foG it.2 (tnG tg tt k (killT vs τ)) it.1 L1 = some L2 ∧ T L2) : ∃ L2, inG src vs tg tt k τ L' = some L2 ∧ T L2 := by
  obtain ⟨it, L1, e, w⟩ := wp_out h
  unfold inG
  rw [e]
  exact w
theorem foG_J {ok : List MO → Prop} {turn : P → List MO → Option (List MO)} (J : Nat → List MO → Prop) (hok : ∀ i L, J i L → ok L) : ∀ (xs : List P) (i0 : Nat) (L : List MO), J i0 L → (∀ i p L, xs[i]? = some p → J (i0 + i) L → ∃ L', turn p L = some L' ∧ J (i0 + i + 1) L') → ∃ L', foG ok turn xs L = some L' ∧ J (i0 + xs.length) L'
  | [], i0, L, hj, _ => ⟨L, by unfold foG; rw [if_pos (hok _ _ hj)], hj⟩
  | p :: ps, i0, L, hj, hs => by
    obtain ⟨L', e, hj2⟩ := hs 0 p L rfl hj
    obtain ⟨L2, e2, h2⟩ := foG_J J hok ps (i0 + 1) L' hj2 fun i q L e hj => by
      have := hs (i + 1) q L e (by rw [show i0 + (i + 1) = i0 + 1 + i by omega]; exact hj)
      rw [show i0 + (i + 1) = i0 + 1 + i by omega] at this
      exact this
    refine ⟨L2, ?_, by rw [List.length_cons, show i0 + (ps.length + 1) = i0 + 1 + ps.length by omega]; exact h2⟩
    unfold foG
    rw [if_pos (hok _ _ hj), e]
    exact e2
theorem elG_of {add : P → List MO → Option (List MO)} {fe : Tau → M D} {L' : List MO} {T : List MO → Prop} (h : wp (fe τ) L' noE fun d L1 => ∃ q L2, d = .v q ∧ add q L1 = some L2 ∧ T L2) : ∃ L2, elG add fe τ L' = some L2 ∧ T L2 := by
  obtain ⟨d, L1, e, q, L2, rfl, ea, h⟩ := wp_out h
  unfold elG
  rw [e]
  exact ⟨L2, ea, h⟩
theorem addLG_of {L : List MO} {acc : List P} {q : P} (h : acc.length < sizeLine) : addLG L.length q (L ++ [.lst acc]) = some (L ++ [.lst (acc ++ [q])]) := by
  unfold addLG
  rw [lst_get]
  dsimp only
  rw [if_pos h, lst_set]
theorem addSG_of {L : List MO} {acc : List P} {q : P} (h : addOkP acc q = true) : addSG L.length q (L ++ [.set acc]) = some (L ++ [.set (addP acc q)]) := by
  unfold addSG
  rw [lst_get]
  dsimp only
  rw [if_pos h, lst_set]
/-- pure turns: the inner things of a that G gives -/
theorem wp_lcM2 {α β : Type} (f : α → P) (ys : List α) (f1 : β → P) (ys1 : α → List β) (T : α → Bool) (G : α → β → Option P) {mu : Bool} {tg tg1 : TgD} {tt tt1 : Tau → M Bool} {src1 : Tau → M Itm} {vs1 : List Nat} {fe : Tau → M D} {ok : List MO → Prop} (hok : ∀ acc, ok (L ++ [.lst acc]))
    (hz : (ys.flatMap fun a => if T a = true then (ys1 a).filterMap (G a) else []).length ≤ sizeLine)
    (hs : ∀ a ∈ ys, ∀ acc : List P, ∃ τ1, tg (f a) τ = some τ1 ∧ wp (tt τ1) (L ++ [.lst acc]) noE fun t L1 => L1 = L ++ [.lst acc] ∧ t = T a ∧ (T a = true →
      wp (src1 τ1) (L ++ [.lst acc]) noE fun it1 L2 => L2 = L ++ [.lst acc] ∧ it1.1 = (ys1 a).map f1 ∧ (∀ acc, it1.2 (L ++ [.lst acc])) ∧ ∀ b ∈ ys1 a, ∀ acc : List P, ∃ τ2, tg1 (f1 b) (killT vs1 τ1) = some τ2 ∧ wp (tt1 τ2) (L ++ [.lst acc]) noE fun t L3 => L3 = L ++ [.lst acc] ∧
        if t = true then wp (fe τ2) (L ++ [.lst acc]) noE fun d L4 => L4 = L ++ [.lst acc] ∧ ∃ q, d = .v q ∧ G a b = some q else G a b = none))
    (h : if mu = true then Q (.r L.length) (L ++ [.lst (ys.flatMap fun a => if T a = true then (ys1 a).filterMap (G a) else [])]) else Q (.v (.lst (ys.flatMap fun a => if T a = true then (ys1 a).filterMap (G a) else []))) L) : wp (lcE2 mu tg tt src1 vs1 tg1 tt1 fe τ (ys.map f, ok)) L E Q := by
  generalize hF : (fun a => if T a = true then (ys1 a).filterMap (G a) else []) = F at hz h
  obtain ⟨L', e, hj⟩ := foG_J (ok := ok) (turn := tnG tg tt (inG src1 vs1 tg1 tt1 (elG (addLG L.length) fe)) τ) (fun i L' => L' = L ++ [.lst ((ys.take i).flatMap F)]) (fun i L' e => by rw [e]; exact hok _) (ys.map f) 0 (L ++ [.lst []]) (by simp) (by
    rintro i p L' hp hj
    simp only [Nat.zero_add] at hj ⊢
    subst hj
    rw [List.getElem?_map] at hp
    cases ey : ys[i]? with
    | none => rw [ey] at hp; cases hp
    | some a =>
    rw [ey] at hp
    cases hp
    have tk : (ys.take (i + 1)).flatMap F = (ys.take i).flatMap F ++ F a := by
      rw [List.take_succ, ey, Option.toList_some, List.flatMap_append]
      simp
    have szi : ((ys.take i).flatMap F ++ F a).length ≤ sizeLine := by
      rw [← tk]
      refine Nat.le_trans ?_ hz
      have : ys.flatMap F = (ys.take (i + 1)).flatMap F ++ (ys.drop (i + 1)).flatMap F := by rw [← List.flatMap_append, List.take_append_drop]
      rw [this, List.length_append]
      omega
    rw [tk]
    generalize (ys.take i).flatMap F = acc at szi ⊢
    refine tnG_of ?_
    obtain ⟨τ1, e1, w⟩ := hs a (List.mem_of_getElem? ey) acc
    refine ⟨τ1, e1, ?_⟩
    obtain ⟨t, L1, e2, rfl, et, w⟩ := wp_out w
    rw [wp_of e2]
    subst et
    have eF : F a = if T a = true then (ys1 a).filterMap (G a) else [] := by rw [← hF]
    rw [eF] at szi ⊢
    cases eT : T a with
    | false =>
      rw [if_neg Bool.false_ne_true, if_neg Bool.false_ne_true, List.append_nil]
    | true =>
      rw [eT, if_pos rfl] at szi
      rw [if_pos rfl, if_pos rfl]
      refine inG_of ?_
      obtain ⟨it1, L2, e3, rfl, hx, ok1, w⟩ := wp_out (w eT)
      rw [wp_of e3]
      obtain ⟨xs1, k1⟩ := it1
      dsimp only at ok1 hx w ⊢
      subst hx
      obtain ⟨L', e4, hj4⟩ := foG_J (ok := k1) (turn := tnG tg1 tt1 (elG (addLG L.length) fe) (killT vs1 τ1)) (fun i L' => L' = L ++ [.lst (acc ++ ((ys1 a).take i).filterMap (G a))]) (fun i L' e => by rw [e]; exact ok1 _) ((ys1 a).map f1) 0 (L ++ [.lst acc]) (by simp) (by
        rintro j p1 L' hp1 hj
        simp only [Nat.zero_add] at hj ⊢
        subst hj
        rw [List.getElem?_map] at hp1
        cases eb : (ys1 a)[j]? with
        | none => rw [eb] at hp1; cases hp1
        | some b =>
        rw [eb] at hp1
        cases hp1
        obtain ⟨τ2, e5, w⟩ := w b (List.mem_of_getElem? eb) (acc ++ ((ys1 a).take j).filterMap (G a))
        refine tnG_of ⟨τ2, e5, ?_⟩
        obtain ⟨t, L3, e6, rfl, w⟩ := wp_out w
        rw [wp_of e6]
        have tk1 : ((ys1 a).take (j + 1)).filterMap (G a) = ((ys1 a).take j).filterMap (G a) ++ (G a b).toList := by
          rw [List.take_succ, eb, Option.toList_some, List.filterMap_append]
          cases e9 : G a b <;> simp [List.filterMap_cons, e9]
        have szj : (acc ++ ((ys1 a).take (j + 1)).filterMap (G a)).length ≤ sizeLine := by
          refine Nat.le_trans ?_ szi
          have : (ys1 a).filterMap (G a) = ((ys1 a).take (j + 1)).filterMap (G a) ++ ((ys1 a).drop (j + 1)).filterMap (G a) := by rw [← List.filterMap_append, List.take_append_drop]
          rw [this]
          simp only [List.length_append]
          omega
        rw [tk1] at szj ⊢
        cases t with
        | false =>
          rw [if_neg Bool.false_ne_true] at w ⊢
          rw [w]
          simp
        | true =>
          rw [if_pos rfl] at w ⊢
          refine elG_of ?_
          obtain ⟨d, L4, e7, rfl, q, rfl, e8⟩ := wp_out w
          rw [wp_of e7]
          refine ⟨q, _, rfl, addLG_of ?_, ?_⟩
          · rw [e8] at szj
            simp only [List.length_append, Option.toList_some, List.length_singleton] at szj ⊢
            omega
          · rw [e8, Option.toList_some, List.append_assoc])
      refine ⟨L', e4, ?_⟩
      rw [Nat.zero_add, List.length_map, List.take_length] at hj4
      exact hj4)
  rw [Nat.zero_add, List.length_map, List.take_length] at hj
  subst hj
  exact lcFin_wp rfl (Older.refl _) h (by unfold lcE2; dsimp only; rw [e])
/-- pure turns over a list of things -/
theorem wp_lcM {α : Type} (f : α → P) (ys : List α) (G : α → Option P) {mu : Bool} {tg : TgD} {tt : Tau → M Bool} {fe : Tau → M D} {ok : List MO → Prop} (hok : ∀ acc, ok (L ++ [.lst acc])) (hz : ys.length ≤ sizeLine)
    (hs : ∀ y ∈ ys, ∀ acc : List P, ∃ τ1, tg (f y) τ = some τ1 ∧ wp (tt τ1) (L ++ [.lst acc]) noE fun t L1 => L1 = L ++ [.lst acc] ∧
      if t = true then wp (fe τ1) (L ++ [.lst acc]) noE fun d L2 => L2 = L ++ [.lst acc] ∧ ∃ q, d = .v q ∧ G y = some q else G y = none)
    (h : if mu = true then Q (.r L.length) (L ++ [.lst (ys.filterMap G)]) else Q (.v (.lst (ys.filterMap G))) L) : wp (lcE mu (lcT tg tt fe) τ (ys.map f, ok)) L E Q := by
  refine wp_lcJ (fun i zs L' => L' = L ∧ zs = (ys.take i).filterMap G) ⟨rfl, by simp⟩ (fun i zs L' hj => by rw [hj.1]; exact hok _) (by rw [List.length_map]; exact hz) (fun i zs L' hj => ?_) (fun i p zs L' hp hj => ?_) (fun zs L' hj => ?_)
  · obtain ⟨rfl, rfl⟩ := hj
    exact ⟨rfl, Older.refl _, Nat.le_trans (List.length_filterMap_le _ _) (by rw [List.length_take]; omega)⟩
  · obtain ⟨rfl, rfl⟩ := hj
    rw [List.getElem?_map] at hp
    cases ey : ys[i]? with
    | none => rw [ey] at hp; cases hp
    | some y =>
      rw [ey] at hp
      cases hp
      have tk : (ys.take (i + 1)).filterMap G = (ys.take i).filterMap G ++ (G y).toList := by
        rw [List.take_succ, ey, Option.toList_some, List.filterMap_append]
        cases e9 : G y <;> simp [List.filterMap_cons, e9]
      obtain ⟨τ1, e1, w⟩ := hs y (List.mem_of_getElem? ey) ((ys.take i).filterMap G)
      refine ⟨τ1, e1, ?_⟩
      obtain ⟨t, L1, e2, rfl, w⟩ := wp_out w
      rw [wp_of e2]
      cases t with
      | false =>
        rw [if_neg Bool.false_ne_true] at w ⊢
        exact ⟨_, rfl, rfl, by rw [tk, w]; simp⟩
      | true =>
        rw [if_pos rfl] at w ⊢
        obtain ⟨d, L2, e3, rfl, q, rfl, e4⟩ := wp_out w
        rw [wp_of e3]
        exact ⟨q, _, rfl, rfl, rfl, by rw [tk, e4]; rfl⟩
  · obtain ⟨rfl, rfl⟩ := hj
    rw [List.length_map, List.take_length]
    exact h
theorem wp_lcMap {α : Type} (f : α → P) (ys : List α) (G : α → P) {mu : Bool} {tg : TgD} {fe : Tau → M D} {ok : List MO → Prop} (hok : ∀ acc, ok (L ++ [.lst acc])) (hz : ys.length ≤ sizeLine)
    (hs : ∀ y ∈ ys, ∀ acc : List P, ∃ τ1, tg (f y) τ = some τ1 ∧ wp (fe τ1) (L ++ [.lst acc]) noE fun d L2 => L2 = L ++ [.lst acc] ∧ d = .v (G y))
    (h : if mu = true then Q (.r L.length) (L ++ [.lst (ys.map G)]) else Q (.v (.lst (ys.map G))) L) : wp (lcE mu (lcT tg yesB fe) τ (ys.map f, ok)) L E Q := by
  refine wp_lcM f ys (fun y => some (G y)) hok hz (fun y hy acc => ?_) ?_
  · obtain ⟨τ1, e1, w⟩ := hs y hy acc
    refine ⟨τ1, e1, ?_⟩
    rw [wp_yes]
    refine ⟨rfl, ?_⟩
    rw [if_pos rfl]
    obtain ⟨d, L2, e3, rfl, rfl⟩ := wp_out w
    rw [wp_of e3]
    exact ⟨rfl, _, rfl, rfl⟩
  · have : ys.filterMap (fun y => some (G y)) = ys.map G := by
      induction ys with
      | nil => rfl
      | cons y ys ih => simp
    rw [this]
    exact h
/-! ### sets of texts -/
theorem wp_set {ys : List Str} (h : ys.length < 63) : wp (setD [.v (.lst (ys.map P.str))]) L E Q = Q (.r L.length) (L ++ [.set ((dedX ys).map P.str)]) := by
  have e : strsOf (ys.map P.str) = some ys := by
    induction ys with
    | nil => rfl
    | cons y ys ih => rw [List.map_cons]; unfold strsOf; rw [ih (by rw [List.length_cons] at h; omega)]; rfl
  refine wp_of ?_
  simp [setD, oneD, asL, asM, e, h]
theorem wp_lenS {n : Nat} {xs : List P} (h : L[n]? = some (.set xs)) : wp (lenSD [.r n]) L E Q = Q (.v (.int xs.length)) L := by
  refine wp_of ?_
  simp [lenSD, oneD, asSet, h]
theorem addX_cases (acc : List Str) (x : Str) : addX acc x = if x ∈ acc then acc else acc ++ [x] := rfl
theorem dedX_iff (xs : List Str) : (dedX xs).length < xs.length ↔ ¬ xs.Nodup := by
  have key : ∀ (xs acc : List Str), acc.Nodup → (xs.foldl addX acc).length ≤ acc.length + xs.length ∧ ((xs.foldl addX acc).length < acc.length + xs.length ↔ ¬ (xs.Nodup ∧ ∀ x ∈ xs, x ∉ acc)) := by
    intro xs
    induction xs with
    | nil => intro acc _; simp
    | cons x xs ih =>
      intro acc ha
      rw [List.foldl_cons]
      by_cases hx : x ∈ acc
      · have e : addX acc x = acc := by rw [addX_cases, if_pos hx]
        rw [e]
        obtain ⟨i1, i2⟩ := ih acc ha
        rw [List.length_cons]
        refine ⟨by omega, fun _ h => h.2 x List.mem_cons_self hx, fun _ => by omega⟩
      · have e : addX acc x = acc ++ [x] := by rw [addX_cases, if_neg hx]
        have ha2 : (acc ++ [x]).Nodup := by
          rw [List.nodup_append]
          exact ⟨ha, by simp, fun a ha' b hb e => hx (by rw [← List.mem_singleton.mp hb, ← e]; exact ha')⟩
        rw [e]
        obtain ⟨i1, i2⟩ := ih _ ha2
        rw [List.length_append, List.length_singleton] at i1 i2
        rw [List.length_cons]
        refine ⟨by omega, ?_⟩
        have e2 : (List.foldl addX (acc ++ [x]) xs).length < acc.length + (xs.length + 1) ↔ (List.foldl addX (acc ++ [x]) xs).length < acc.length + 1 + xs.length := by omega
        rw [e2, i2, List.nodup_cons]
        refine not_congr ?_
        constructor
        · rintro ⟨h1, h2⟩
          refine ⟨⟨fun h => h2 x h (List.mem_append_right _ List.mem_cons_self), h1⟩, fun y hy => ?_⟩
          rcases List.mem_cons.mp hy with z | z
          · rw [z]; exact hx
          · exact fun h => h2 y z (List.mem_append_left _ h)
        · rintro ⟨⟨h1, h2⟩, h3⟩
          refine ⟨h2, fun y hy h => ?_⟩
          rcases List.mem_append.mp h with z | z
          · exact h3 y (List.mem_cons_of_mem _ hy) z
          · rw [List.mem_singleton.mp z] at hy; exact h1 hy
  have := (key xs [] List.nodup_nil).2
  simpa [dedX] using this
end
end DN

end
section
set_option Elab.async false
set_option linter.all false
set_option maxRecDepth 100000
set_option maxHeartbeats 4000000
/-! E23: instances, roles. -/
namespace DN
open PySem
open L2 (ixN atI)
section
variable {L : List MO} {E : EX} {τ : Tau} {Q : D → List MO → Prop}
theorem wp_attV {i c : Nat} {ps : List P} {p : P} (h : fget (flT c) ps i = some p) : wp (attD i (.v (.ins c ps))) L E Q = Q (.v p) L := by
  refine wp_of ?_
  simp [attD, h]
theorem wp_attR {i n c : Nat} {fs : List (Nat × D)} {d : D} (hL : L[n]? = some (.ins c fs)) (h : flook fs i = some d) : wp (attD i (.r n)) L E Q = Q d L := by
  refine wp_of ?_
  simp [attD, hL, h]
theorem wp_satt {i n c : Nat} {fs : List (Nat × D)} {d : D} {QU : Unit → List MO → Prop} (hL : L[n]? = some (.ins c fs)) (h : i ∈ flT c) : wp (sattD i d (.r n)) L E QU = QU () (L.set n (.ins c (fput i d fs))) := by
  refine wp_of ?_
  simp [sattD, hL, h]
theorem wp_mk {cn n : Nat} {fn : List D → M D} {ds : List D} (hn : ds.length + 1 = n) (h : wp (fn (.r L.length :: ds)) (L ++ [.ins cn []]) (fun c fs L1 => ∃ Lb X, L1 = Lb ++ X ∧ Lb.length = L.length ∧ Older L Lb ∧ E c fs Lb)
    (fun d L1 => d = .v .non ∧ ∃ Lb X fs ps, L1 = Lb ++ .ins cn fs :: X ∧ Lb.length = L.length ∧ Older L Lb ∧ insP cn fs = some ps ∧ Q (.v (.ins cn ps)) Lb)) : wp (makF true cn n fn ds) L E Q := by
  have tk : ∀ {Lb X : List MO}, Lb.length = L.length → (Lb ++ X).take L.length = Lb := fun {Lb X} e => by rw [← e, List.take_left']; rfl
  unfold wp at h ⊢
  unfold makF
  rw [if_pos (by rw [List.length_cons]; exact hn)]
  cases e : fn (.r L.length :: ds) (L ++ [.ins cn []]) with
  | none => rw [e] at h; exact h.elim
  | some r =>
    obtain ⟨r, L1⟩ := r
    rw [e] at h
    cases r with
    | ex c fs =>
      obtain ⟨Lb, X, rfl, h2, h3, h4⟩ := h
      dsimp only
      rw [if_pos rfl, if_pos (older_app X h3), tk h2]
      exact h4
    | ok d =>
      obtain ⟨rfl, Lb, X, fs, ps, rfl, h2, h3, h4, h5⟩ := h
      dsimp only
      rw [if_pos rfl]
      have eg : (Lb ++ MO.ins cn fs :: X)[L.length]? = some (.ins cn fs) := by rw [← h2, List.getElem?_append_right (Nat.le_refl _), Nat.sub_self]; rfl
      rw [eg]
      dsimp only
      rw [if_pos ⟨rfl, older_app _ h3⟩, h4]
      dsimp only
      rw [tk h2]
      exact h5
theorem wp_any {xs : List P} {bs : List Bool} (h : blsOf xs = some bs) : wp (anyD [.v (.lst xs)]) L E Q = Q (.v (.bl (bs.any id))) L := by
  refine wp_of ?_
  simp [anyD, oneD, asL, asM, h]
theorem bls_map {α : Type} (f : α → Bool) (xs : List α) : blsOf (xs.map fun x => P.bl (f x)) = some (xs.map f) := by
  induction xs with
  | nil => rfl
  | cons x xs ih => rw [List.map_cons]; unfold blsOf; rw [ih]; rfl
/-- a letter in a text -/
theorem wp_inC {neg : Bool} {c : Nat} {z : Str} : wp (inA neg (.v (.str (tW [c]))) (.v (.str z))) L E Q = Q (.v (.bl (xor neg (decide (c ∈ z.cps.toList))))) L := by
  refine wp_of ?_
  have e : dnAt L (.v (.str z)) = none := rfl
  unfold inA
  rw [e]
  have e1 : dOf L (.v (.str (tW [c]))) = some (.str ⟨#[c]⟩) := rfl
  have e2 : dOf L (.v (.str z)) = some (.str z) := rfl
  show inD neg _ _ L = _
  unfold inD
  rw [e1, e2]
  rfl
theorem wp_itm_str {x : Str} {QI : Itm → List MO → Prop} : wp (itmD (.v (.str x))) L E QI = QI (x.cps.toList.map fun c => P.str (tW [c]), fun _ => True) L := rfl
theorem wp_itm_r {n : Nat} {xs : List P} {QI : Itm → List MO → Prop} (h : L[n]? = some (.lst xs)) : wp (itmD (.r n)) L E QI = QI (xs, fun L' => L'[n]? = some (.lst xs)) L := by
  refine wp_of ?_
  simp [itmD, h]
theorem wp_tuple_r {n : Nat} {xs : List P} (h : L[n]? = some (.lst xs)) : wp (tupleD [.r n]) L E Q = Q (.v (.tup xs)) L := by
  refine wp_of ?_
  simp [tupleD, oneD, asS, asL, asM, h]
theorem wp_tuple_lst {xs : List P} : wp (tupleD [.v (.lst xs)]) L E Q = Q (.v (.tup xs)) L := rfl
theorem wp_tuple_tup {xs : List P} : wp (tupleD [.v (.tup xs)]) L E Q = Q (.v (.tup xs)) L := rfl
theorem wp_list_lst {mu : Bool} {xs : List P} : wp (listD mu [.v (.lst xs)]) L E Q = if mu = true then Q (.r L.length) (L ++ [.lst xs]) else Q (.v (.lst xs)) L := by
  cases mu <;> rfl
theorem lett_mem : ∀ c : Nat, c ∈ lett.cps.toList ↔ 97 ≤ c ∧ c ≤ 122 := by
  intro c
  have key : ∀ j : Fin 128, j.val ∈ lett.cps.toList ↔ 97 ≤ j.val ∧ j.val ≤ 122 := by decide +kernel
  by_cases h : c < 128
  · exact key ⟨c, h⟩
  · have all : ∀ d ∈ lett.cps.toList, d < 128 := by decide +kernel
    constructor
    · intro hm; exact absurd (all c hm) h
    · intro ⟨_, hm⟩; omega
end
/-! ### a list, frozen or of the ledger -/
def LsAt (L : List MO) (d : D) (xs : List P) : Prop := d = .v (.lst xs) ∨ ∃ n, d = .r n ∧ L[n]? = some (.lst xs)
theorem LsAt.app {L : List MO} {d : D} {xs : List P} (h : LsAt L d xs) (X : List MO) : LsAt (L ++ X) d xs := by
  rcases h with h | ⟨n, h1, h2⟩
  · exact .inl h
  · exact .inr ⟨n, h1, by rw [List.getElem?_append_left (List.getElem?_eq_some_iff.mp h2).1]; exact h2⟩
section
variable {L : List MO} {E : EX} {Q : D → List MO → Prop} {d : D} {xs : List P}
theorem wp_itm_ls {QI : Itm → List MO → Prop} (h : LsAt L d xs) (k : ∀ ok : List MO → Prop, ok L → (∀ X, ok (L ++ X)) → QI (xs, ok) L) : wp (itmD d) L E QI := by
  rcases h with rfl | ⟨n, rfl, h2⟩
  · exact k _ trivial fun _ => trivial
  · rw [wp_itm_r h2]
    exact k _ h2 fun X => by rw [List.getElem?_append_left (List.getElem?_eq_some_iff.mp h2).1]; exact h2
theorem wp_tuple_ls (h : LsAt L d xs) : wp (tupleD [d]) L E Q = Q (.v (.tup xs)) L := by
  rcases h with rfl | ⟨n, rfl, h2⟩
  · rfl
  · exact wp_tuple_r h2
theorem wp_len_ls (h : LsAt L d xs) : wp (lenD [d]) L E Q = Q (.v (.int xs.length)) L := by
  rcases h with rfl | ⟨n, rfl, h2⟩
  · rfl
  · exact wp_len_r h2
end
/-! ### roles -/
structure Ro where
  n : Str
  g : Str
  m : Nat
/-- mode: 0 read, 1 made, 2 fresh, 3 both, 4 renewed -/
def Ro.ok (r : Ro) : Prop := Nm r.n ∧ Nm r.g ∧ r.m ≤ 4
def Ro.p (r : Ro) : P := .ins (r.m + 1) [.str r.n, .str r.g]
def Ro.t (r : Ro) : P := .tup [.str r.n, .str r.g, .int r.m]
def Ro.rd (r : Ro) : Bool := decide (r.m = 0 ∨ 3 ≤ r.m)
def Ro.dv (r : Ro) : Bool := decide (r.m = 1 ∨ r.m = 3)
def Ro.mk' (r : Ro) : Bool := decide (0 < r.m)
def mrk : Nat → Str
  | 0 => "r"
  | 1 => "m"
  | 2 => "f"
  | 3 => "rm"
  | _ => "rf"
theorem ro_m {r : Ro} (h : r.ok) : r.m = 0 ∨ r.m = 1 ∨ r.m = 2 ∨ r.m = 3 ∨ r.m = 4 := by
  have := h.2.2
  omega
section
variable {L : List MO} {E : EX} {Q : D → List MO → Prop}
theorem ro_fl {r : Ro} (h : r.ok) : flT (r.m + 1) = [0, 1] := by
  rcases ro_m h with e | e | e | e | e <;> rw [e] <;> rfl
theorem wp_roN {r : Ro} (h : r.ok) : wp (attD 0 (.v r.p)) L E Q = Q (.v (.str r.n)) L := wp_attV (by rw [ro_fl h]; rfl)
theorem wp_roG {r : Ro} (h : r.ok) : wp (attD 1 (.v r.p)) L E Q = Q (.v (.str r.g)) L := wp_attV (by rw [ro_fl h]; rfl)
theorem cls_ro (r : Ro) : clsOf L (.v r.p) = some (r.m + 1) := rfl
end
/-- no roles, too many, a name twice, none that makes -/
def KBad (rs : List Ro) : Prop := rs.length = 0 ∨ 6 < rs.length ∨ ¬ (rs.map Ro.n).Nodup ∨ ∀ r ∈ rs, r.m = 0
def kP (x : Str) (rs : List Ro) : P := .ins 6 [.str x, .tup (rs.map Ro.p)]
section
variable {L : List MO} {E : EX} {Q : D → List MO → Prop}
theorem wp_kN {x : Str} {rs : List Ro} : wp (attD 0 (.v (kP x rs))) L E Q = Q (.v (.str x)) L := wp_attV rfl
theorem wp_kR {x : Str} {rs : List Ro} : wp (attD 2 (.v (kP x rs))) L E Q = Q (.v (.tup (rs.map Ro.p))) L := wp_attV rfl
theorem cls_k (x : Str) (rs : List Ro) : clsOf L (.v (kP x rs)) = some 6 := rfl
end
/-- a name is data -/
theorem nm_low {x : Str} (h : Nm x) : PyData.strOk x = true := by
  unfold PyData.strOk
  rw [Array.all_eq_true]
  intro i hi
  have := h.1 x.cps[i] (by simp)
  simp
  omega
theorem nm_len {x : Str} (h : Nm x) : x.length ≤ sizeLine := le_line _ (by have := h.2.2; omega)
/-- texts below 128 -/
def Asc (x : Str) : Prop := (∀ c ∈ x.cps.toList, c < 128) ∧ x.length ≤ 40
theorem nm_asc {x : Str} (h : Nm x) : Asc x := ⟨fun c hc => by have := h.1 c hc; omega, by have := h.2.2; omega⟩
theorem asc_ok {x : Str} (h : Asc x) : PyData.strOk x = true := by
  unfold PyData.strOk
  rw [Array.all_eq_true]
  intro i hi
  have := h.1 x.cps[i] (by simp)
  simp
  omega
theorem asc_len {x : Str} (h : Asc x) : x.length ≤ sizeLine := le_line _ (by have := h.2; omega)
end DN

end
section
set_option Elab.async false
set_option linter.all false
set_option maxRecDepth 100000
set_option maxHeartbeats 4000000
/-! E24: equality of data. -/
namespace DN
open PySem
open L2 (ixN atI)
mutual
/-- data of at most that depth -/
def dat : Nat → P → Bool
  | _, .non => true
  | _, .bl _ => true
  | _, .int _ => true
  | _, .str x => PyData.strOk x
  | 0, _ => false
  | k + 1, .tup xs => dats k xs
  | k + 1, .lst xs => dats k xs
  | _ + 1, _ => false
def dats : Nat → List P → Bool
  | _, [] => true
  | k, x :: xs => dat k x && dats k xs
end
mutual
def pd : P → PyData
  | .int i => .int i
  | .str x => .str x
  | .bl b => .bool b
  | .tup xs => .tuple (pds xs)
  | .lst xs => .list (pds xs)
  | _ => .none
def pds : List P → List PyData
  | [] => []
  | x :: xs => pd x :: pds xs
end
mutual
/-- no truth value beside a number -/
def sim : P → P → Bool
  | .bl _, .int _ => false
  | .int _, .bl _ => false
  | .tup xs, .tup ys => sims xs ys
  | .lst xs, .lst ys => sims xs ys
  | _, _ => true
def sims : List P → List P → Bool
  | x :: xs, y :: ys => sim x y && sims xs ys
  | _, _ => true
end
theorem dats_all {k : Nat} : ∀ {xs : List P}, dats k xs = true ↔ ∀ x ∈ xs, dat k x = true
  | [] => by simp [dats]
  | x :: xs => by simp [dats, dats_all (xs := xs)]
theorem toD_dat : ∀ (k : Nat) (p : P), dat k p = true → toD p = some (pd p) ∧ (pd p).canLay0 = true ∧ (pd p).depth ≤ k := by
  intro k
  induction k with
  | zero => intro p h; cases p <;> simp [dat] at h <;> simp [toD, pd, PyData.canLay0, PyData.depth, h]
  | succ k ih =>
    have lst : ∀ xs : List P, dats k xs = true → toDs xs = some (pds xs) ∧ PyData.canLayAll0 (pds xs) = true ∧ PyData.depthAll (pds xs) ≤ k := by
      intro xs
      induction xs with
      | nil => intro _; simp [toDs, pds, PyData.canLayAll0, PyData.depthAll]
      | cons x xs ih2 =>
        intro h
        simp only [dats, Bool.and_eq_true] at h
        obtain ⟨a1, a2, a3⟩ := ih x h.1
        obtain ⟨b1, b2, b3⟩ := ih2 h.2
        refine ⟨by simp [toDs, pds, a1, b1], by simp [pds, PyData.canLayAll0, a2, b2], ?_⟩
        simp only [pds, PyData.depthAll]
        omega
    intro p h
    cases p <;> simp [dat] at h <;> first
      | (simp [toD, pd, PyData.canLay0, PyData.depth, h]; done)
      | (obtain ⟨a1, a2, a3⟩ := lst _ h
         refine ⟨by simp [toD, pd, a1], by simp [pd, PyData.canLay0, a2], ?_⟩
         simp only [pd, PyData.depth]
         omega)
theorem eqv_dat : ∀ (k : Nat) (p q : P), dat k p = true → dat k q = true → sim p q = true → (PyData.eqv (pd p) (pd q) = true ↔ p = q) := by
  intro k
  induction k with
  | zero => intro p q h1 h2 h3; cases p <;> simp [dat] at h1 <;> cases q <;> simp [dat] at h2 <;> simp [sim] at h3 <;> simp [pd, PyData.eqv]
  | succ k ih =>
    have lst : ∀ xs ys : List P, dats k xs = true → dats k ys = true → sims xs ys = true → (PyData.eqvAll (pds xs) (pds ys) = true ↔ xs = ys) := by
      intro xs
      induction xs with
      | nil => intro ys _ _ _; cases ys <;> simp [pds, PyData.eqvAll]
      | cons x xs ih2 =>
        intro ys h1 h2 h3
        cases ys with
        | nil => simp [pds, PyData.eqvAll]
        | cons y ys =>
          simp only [dats, sims, Bool.and_eq_true] at h1 h2 h3
          simp [pds, PyData.eqvAll, ih x y h1.1 h2.1 h3.1, ih2 ys h1.2 h2.2 h3.2]
    intro p q h1 h2 h3
    cases p <;> simp [dat] at h1 <;> cases q <;> simp [dat] at h2 <;> simp [sim] at h3 <;> first
      | (simp [pd, PyData.eqv]; done)
      | simp [pd, PyData.eqv, lst _ _ h1 h2 h3]
section
variable {L : List MO} {E : EX} {Q : D → List MO → Prop}
theorem okD_dat {k : Nat} {p : P} (h : dat k p = true) (hk : k ≤ 60) : okD (pd p) = true := by
  obtain ⟨_, h2, h3⟩ := toD_dat k p h
  unfold okD SeqAt.shaped
  rw [h2, decide_eq_true (by omega)]
  rfl
theorem wp_eqP {neg : Bool} {p q : P} (h1 : dat 20 p = true) (h2 : dat 20 q = true) (h3 : sim p q = true) [Decidable (p = q)] : wp (eqD neg (.v p) (.v q)) L E Q = Q (.v (.bl (if neg = true then !decide (p = q) else decide (p = q)))) L := by
  have e1 : dOf L (.v p) = some (pd p) := (toD_dat _ p h1).1
  have e2 : dOf L (.v q) = some (pd q) := (toD_dat _ q h2).1
  have e3 : PyData.eqv (pd p) (pd q) = decide (p = q) := by
    have := eqv_dat 20 p q h1 h2 h3
    by_cases c : p = q
    · rw [decide_eq_true c]; exact this.mpr c
    · rw [decide_eq_false c]
      cases e : PyData.eqv (pd p) (pd q) with
      | false => rfl
      | true => exact absurd (this.mp e) c
  refine wp_of ?_
  unfold eqD
  rw [e1, e2]
  dsimp only
  rw [if_pos (by rw [okD_dat h1 (by decide), okD_dat h2 (by decide)]; rfl), e3]
/-- a list of the ledger and a frozen one -/
theorem wp_eqL {neg : Bool} {d e : D} {xs ys : List P} (hd : LsAt L d xs) (he : LsAt L e ys) (h1 : dat 20 (.lst xs) = true) (h2 : dat 20 (.lst ys) = true) (h3 : sim (.lst xs) (.lst ys) = true) [Decidable (xs = ys)] : wp (eqD neg d e) L E Q = Q (.v (.bl (if neg = true then !decide (xs = ys) else decide (xs = ys)))) L := by
  have key : ∀ {d : D} {xs : List P}, LsAt L d xs → dOf L d = dOf L (.v (.lst xs)) := fun {d xs} h => by
    rcases h with rfl | ⟨n, rfl, h⟩
    · rfl
    · simp [dOf, h, toD]
  have : eqD neg d e L = eqD neg (.v (.lst xs)) (.v (.lst ys)) L := by
    unfold eqD
    rw [key hd, key he]
  have e1 : wp (eqD neg d e) L E Q = wp (eqD neg (.v (.lst xs)) (.v (.lst ys))) L E Q := by
    unfold wp
    rw [this]
  have : Decidable (P.lst xs = P.lst ys) := decidable_of_iff (xs = ys) (by simp)
  rw [e1, wp_eqP h1 h2 h3]
  have : decide (P.lst xs = P.lst ys) = decide (xs = ys) := by
    by_cases c : xs = ys
    · rw [decide_eq_true c, decide_eq_true (by rw [c])]
    · rw [decide_eq_false c, decide_eq_false (fun z => c (by injection z))]
  rw [this]
theorem sim_refl : ∀ (k : Nat) (p : P), dat k p = true → sim p p = true := by
  intro k
  induction k with
  | zero => intro p h; cases p <;> simp [dat] at h <;> simp [sim]
  | succ k ih =>
    have lst : ∀ xs : List P, dats k xs = true → sims xs xs = true := by
      intro xs
      induction xs with
      | nil => intro _; simp [sims]
      | cons x xs ih2 =>
        intro h
        simp only [dats, Bool.and_eq_true] at h
        simp [sims, ih x h.1, ih2 h.2]
    intro p h
    cases p <;> simp [dat] at h <;> first
      | (simp [sim]; done)
      | simp [sim, lst _ h]
theorem wp_eqYes {neg : Bool} {p q : P} (h1 : dat 20 p = true) (e : p = q) : wp (eqD neg (.v p) (.v q)) L E Q = Q (.v (.bl (!neg))) L := by
  subst e
  have := Classical.propDecidable (p = p)
  rw [wp_eqP h1 h1 (sim_refl 20 p h1), decide_eq_true rfl]
  cases neg <;> rfl
theorem wp_eqNo {neg : Bool} {p q : P} (h1 : dat 20 p = true) (h2 : dat 20 q = true) (h3 : sim p q = true) (e : p ≠ q) : wp (eqD neg (.v p) (.v q)) L E Q = Q (.v (.bl neg)) L := by
  have := Classical.propDecidable (p = q)
  rw [wp_eqP h1 h2 h3, decide_eq_false e]
  cases neg <;> rfl
theorem wp_eqLYes {neg : Bool} {d e : D} {xs ys : List P} (hd : LsAt L d xs) (he : LsAt L e ys) (h1 : dat 20 (.lst xs) = true) (h : xs = ys) : wp (eqD neg d e) L E Q = Q (.v (.bl (!neg))) L := by
  subst h
  have := Classical.propDecidable (xs = xs)
  rw [wp_eqL hd he h1 h1 (sim_refl 20 _ h1), decide_eq_true rfl]
  cases neg <;> rfl
theorem wp_eqLNo {neg : Bool} {d e : D} {xs ys : List P} (hd : LsAt L d xs) (he : LsAt L e ys) (h1 : dat 20 (.lst xs) = true) (h2 : dat 20 (.lst ys) = true) (h3 : sim (.lst xs) (.lst ys) = true) (h : xs ≠ ys) : wp (eqD neg d e) L E Q = Q (.v (.bl neg)) L := by
  have := Classical.propDecidable (xs = ys)
  rw [wp_eqL hd he h1 h2 h3, decide_eq_false h]
  cases neg <;> rfl
theorem wp_con {tab : Nat → Option P} {d : D} {p : P} (h : (clsOf L d).bind tab = some p) : wp (conD tab d) L E Q = Q (.v p) L := by
  refine wp_of ?_
  unfold conD
  rw [h]
theorem wp_isi {tab : Tg → Option Bool} {d : D} {b : Bool} (h : (tagOf L d).bind tab = some b) : wp (isiD tab d) L E Q = Q (.v (.bl b)) L := by
  refine wp_of ?_
  unfold isiD
  rw [h]
end
section
variable {L : List MO} {E : EX} {Q : D → List MO → Prop}
theorem wp_mulS {a : Str} {n : Int} : wp (mulSD (.v (.str a)) (.v (.int n))) L E Q = ((1 ≤ n ∧ n ≤ 1000 ∧ a.length ≤ 1000) ∧ Q (.v (.str (Txt.mul a n))) L) := wp_grd rfl
theorem wp_pop {n : Nat} {xs : List P} {p : P} (hL : L[n]? = some (.lst xs)) (h : xs[xs.length - 1]? = some p) : wp (popD (.r n) []) L E Q = Q (.v p) (L.set n (.lst xs.dropLast)) := by
  refine wp_of ?_
  simp [popD, mutL, hL, h]
theorem wp_upper {a : Str} : wp (upperD (.v (.str a)) []) L E Q = (decide (a.length ≤ 5592405) = true ∧ Q (.v (.str (Txt.upper a))) L) := wp_grd rfl
end
theorem mul_tW (l : List Nat) {n : Int} (h : 2 ≤ n) (hl : l ≠ []) : Txt.mul (tW l) n = tW ((List.replicate n.toNat l).flatten) := by
  have key : ∀ (k : Nat) (b : Array Nat), ((List.replicate k l.toArray).foldl (· ++ ·) b).toList = b.toList ++ (List.replicate k l).flatten := by
    intro k
    induction k with
    | zero => intro b; simp
    | succ k ih =>
      intro b
      rw [List.replicate_succ, List.foldl_cons, ih, List.replicate_succ, List.flatten_cons]
      simp
  unfold Txt.mul
  rw [if_neg (by omega), if_neg (by
    rw [tW_len]
    have : l.length ≠ 0 := fun z => hl (List.length_eq_zero_iff.mp z)
    simp [this]
    omega)]
  have := key n.toNat #[]
  unfold tW
  refine congrArg Str.mk ?_
  apply Array.toList_inj.mp
  rw [this]
  simp
/-- texts that are no names -/
def Bad (x : Str) : Prop := Asc x ∧ ¬ Nm x
theorem bad_of {l : List Nat} (h1 : ∀ c ∈ l, c < 128) (h2 : l.length ≤ 40) (h3 : l.length = 0 ∨ 8 < l.length ∨ ∃ c ∈ l, ¬ (97 ≤ c ∧ c ≤ 122)) : Bad (tW l) := by
  refine ⟨⟨by rw [tW_cps]; exact h1, by rw [tW_len]; exact h2⟩, fun hn => ?_⟩
  obtain ⟨n1, n2, n3⟩ := hn
  rw [tW_cps] at n1
  rw [tW_len] at n2 n3
  rcases h3 with z | z | ⟨c, hc, z⟩
  · omega
  · omega
  · exact z (n1 c hc)
theorem sim_nil {xs : List P} : sim (.lst xs) (.lst []) = true := by cases xs <;> simp [sim, sims]
/-- a slot that is empty or has a value -/
def Vz (z : Option D) : Prop := z = none ∨ ∃ p, z = some (.v p)
theorem Vz.none : Vz none := .inl rfl
theorem Vz.v {p : P} : Vz (some (.v p)) := .inr ⟨p, rfl⟩
theorem okT_z {n : Nat} {z : Option D} {τ : Tau} (hz : Vz z) (h : okT n τ) : okT n (z :: τ) := by
  rcases hz with rfl | ⟨p, rfl⟩
  · exact okT_none h
  · exact okT_v h
theorem LsAt.okR {L : List MO} {d : D} {xs : List P} (h : LsAt L d xs) : DN.okR L.length d := by
  rcases h with rfl | ⟨n, rfl, h⟩
  · trivial
  · exact (List.getElem?_eq_some_iff.mp h).1
theorem okT_d {n : Nat} {d : D} {τ : Tau} (hd : DN.okR n d) (h : okT n τ) : okT n (some d :: τ) := by
  cases d with
  | v p => exact okT_v h
  | r m => exact okT_r hd h
theorem okR_le {n m : Nat} {d : D} (h : DN.okR n d) (hm : n ≤ m) : DN.okR m d := by
  cases d with
  | v p => trivial
  | r k => exact Nat.lt_of_lt_of_le h hm
theorem wp_itm_lsB {L X : List MO} {E : EX} {d : D} {xs : List P} {QI : Itm → List MO → Prop} (h : LsAt L d xs) (k : ∀ ok : List MO → Prop, (∀ X, ok (L ++ X)) → QI (xs, ok) (L ++ X)) : wp (itmD d) (L ++ X) E QI := by
  rcases h with rfl | ⟨n, rfl, h2⟩
  · exact k _ fun _ => trivial
  · have e : ∀ X, (L ++ X)[n]? = some (.lst xs) := fun X => by rw [List.getElem?_append_left (List.getElem?_eq_some_iff.mp h2).1]; exact h2
    rw [wp_itm_r (e X)]
    exact k _ e
/-- two changes: one below, one of the last -/
theorem older_two (L : List MO) (n : Nat) (a x y : List P) : Older (L ++ [.lst x]) (L.set n (.lst a) ++ [.lst y]) := by
  have e1 : (L ++ [MO.lst y]).set n (.lst a) = if n < L.length then L.set n (.lst a) ++ [.lst y] else (L ++ [MO.lst y]).set n (.lst a) := by
    split
    · rename_i h
      rw [List.set_append_left _ _ h]
    · rfl
  by_cases h : n < L.length
  · rw [if_pos h] at e1
    rw [← e1]
    refine ⟨by simp, fun i m hi e => ?_⟩
    by_cases hn : n = i
    · subst hn
      rw [List.getElem?_set_self (by simp; omega)] at e
      cases e
      exact .inr trivial
    · rw [List.getElem?_set_ne hn] at e
      by_cases hi2 : i < L.length
      · rw [List.getElem?_append_left hi2] at e
        left
        rw [List.getElem?_append_left hi2]
        exact e
      · have : i = L.length := by simp at hi; omega
        subst this
        rw [lst_get] at e
        cases e
        exact .inr trivial
  · rw [List.set_eq_of_length_le (by omega)]
    exact older_last L x y
/-- texts of a role, a pair -/
def mkP (r : Ro) : P := .tup [.str r.n, .str r.g, .str (mrk r.m)]
theorem mrk_ok (m : Nat) : PyData.strOk (mrk m) = true := by
  unfold mrk
  split <;> decide +kernel
theorem dat_str {k : Nat} {x : Str} (h : PyData.strOk x = true) : dat k (.str x) = true := by cases k <;> simpa [dat] using h
theorem dat_mk {r : Ro} (h : r.ok) : dat 19 (mkP r) = true := by
  simp [mkP, dat, dats, nm_low h.1, nm_low h.2.1, mrk_ok]
theorem dat_t {r : Ro} (h : r.ok) : dat 19 r.t = true := by
  simp [Ro.t, dat, dats, nm_low h.1, nm_low h.2.1]
theorem dat_lst {k : Nat} {xs : List P} (h : ∀ x ∈ xs, dat k x = true) : dat (k + 1) (.lst xs) = true := by
  rw [dat]
  exact dats_all.mpr h
theorem dat_tup {k : Nat} {xs : List P} (h : ∀ x ∈ xs, dat k x = true) : dat (k + 1) (.tup xs) = true := by
  rw [dat]
  exact dats_all.mpr h
end DN

end
section
set_option Elab.async false
set_option linter.all false
/-! E25: the rest of the simp set of wishes. -/
namespace DN
section
variable {α : Type} {a b : α} {l k : List α} {i : Nat} {p : Prop}
theorem sv_kill0 {τ : Tau} : killT [] τ = τ := rfl
theorem sv_kill1 {v : Nat} {vs : List Nat} {τ : Tau} : killT (v :: vs) τ = killT vs (τ.set v none) := rfl
theorem sv_gets : (a :: l)[i + 1]? = l[i]? := List.getElem?_cons_succ
theorem sv_get0 : (a :: l)[0]? = some a := List.getElem?_cons_zero
theorem sv_sets : (a :: l).set (i + 1) b = a :: l.set i b := List.set_cons_succ
theorem sv_set0 : (a :: l).set 0 b = b :: l := List.set_cons_zero
theorem sv_ift {h : Decidable True} : (@ite α True h a b) = a := if_pos trivial
theorem sv_iff {h : Decidable False} : (@ite α False h a b) = b := if_neg id
theorem sv_dect {h : Decidable True} : @decide True h = true := decide_eq_true trivial
theorem sv_decf {h : Decidable False} : @decide False h = false := decide_eq_false id
theorem sv_ft : (false = true) = False := by simp
theorem sv_nott : (!true) = false := rfl
theorem sv_notf : (!false) = true := rfl
theorem sv_cons_app : a :: l ++ k = a :: (l ++ k) := rfl
theorem sv_nil_app : [] ++ k = k := rfl
theorem sv_len_cons : (a :: l).length = l.length + 1 := rfl
theorem sv_len_nil : ([] : List α).length = 0 := rfl
theorem sv_and_self : (p ∧ p) = p := and_self p
theorem sv_and_true : (p ∧ True) = p := and_true p
theorem sv_true_and : (True ∧ p) = p := true_and p
end
end DN

end
section
set_option Elab.async false
set_option linter.all false
set_option maxRecDepth 100000
set_option maxHeartbeats 4000000
/-! E26: a list of the ledger that will not change any more. -/
namespace DN
open PySem PySem.Spec PyProof.Rows L2
section
variable {X : Cx} {g : G} {W : WX} {e : Expr} {f : Tau → M D}
def frzD : D → M D := fun d L => match d with
  | .v p => some (.ok (.v p), L)
  | .r n => match L[n]? with
    | some (.lst xs) => some (.ok (.v (.lst xs)), L.set n .dead)
    | _ => none
theorem de_frz (he : PE X e (tE g W f)) : PE X e (tE g W (un frzD f)) := PE.weak he fun σ H Q h => by
  refine (Sat.bindV h).mono fun x H1 h1 => ?_
  obtain ⟨d, F, ρ, τ, L, hR, hS, hc, hp⟩ := h1
  have hx := hc (x, d) (by simp)
  unfold frzD at hp
  cases d with
  | v p => exact hp.val hR hx
  | r n =>
    dsimp only at hp
    match el : L[n]? with
    | some (.lst xs) =>
      rw [el] at hp
      dsimp only at hp
      obtain ⟨us, h1, h2⟩ := hR.lstAt el
      have hf := hR.freeze el (by intro z; cases z) h1
      have sb : Sub F (upd F (ρ n) (.lst us)) := fun b q eb => by
        have nb : b ≠ ρ n := fun z => by rw [z, (hR.ent _ _ el (by intro z; cases z)).1] at eb; cases eb
        rw [upd_ne nb]
        exact eb
      obtain ⟨hn, rfl⟩ := hx
      exact hp _ ρ _ H1 ⟨sb, fun _ _ => rfl, by rw [List.length_set]; exact Nat.le_refl _⟩ hf (Is.lst upd_same (IsA.mono sb h2))
    | none => rw [el] at hp; exact False.elim hp
    | some (.dk _) => rw [el] at hp; exact False.elim hp
    | some (.dn _) => rw [el] at hp; exact False.elim hp
    | some (.ins _ _) => rw [el] at hp; exact False.elim hp
    | some (.set _) => rw [el] at hp; exact False.elim hp
    | some .dead => rw [el] at hp; exact False.elim hp
end
section
variable {X : Cx} {g : G} {W : WX} {a b : Expr} {fs : Tau → M (List D)} {pos : Pos}
/-- x, y = a, b -/
def parS (i j : Nat) (fs : Tau → M (List D)) : SX := eThen fs fun ds τ L => match ds with
  | [d, e] => some (.nx ((τ.set i (some d)).set j (some e)), L)
  | _ => none
theorem ds_par {i j : Nat} {x y : Str} {px py pt : Pos} {kt k2 pt2} (hc : X.calm = true) (hN : X.N.Nodup) (hi : X.N[i]? = some x) (hj : X.N[j]? = some y) (hij : i ≠ j)
    (hx : X.env.scope.names.lookup x = some .local) (hy : X.env.scope.names.lookup y = some .local) (ha : PA X [a, b] (tA g W fs))
    (hw : swappedStores [.Tuple [.Name x px, .Name y py] kt pt] (.Tuple [a, b] k2 pt2) X.env = pure (some [x, y]) := by rfl)
    (hs : swapsWithSole [.Tuple [.Name x px, .Name y py] kt pt] (.Tuple [a, b] k2 pt2) pos.line X.env = pure false := by rfl) :
    PS X (.Assign [.Tuple [.Name x px, .Name y py] kt pt] (.Tuple [a, b] k2 pt2) pos) (tS g W (parS i j fs)) := PS.weak (ps_par hc hN hi hj hij hx hy ha hw hs) fun D σ H h => by
  refine (SatS.bind (ra := relA g) h).mono fun vs H1 h1 => ?_
  obtain ⟨F, ρ, τ, L, ds, hR, hS, hc, hv, hp⟩ := h1
  match ds, hv, hp with
  | [d, e], hv, hp =>
    obtain ⟨v, w, rfl, h2, h3⟩ := rel2 hv
    exact ⟨v, w, rfl, hp F ρ H1 _ Ext.refl hR ((hS.set h2 i).set h3 j)⟩
  | [], _, hp => exact False.elim hp
  | [_], _, hp => exact False.elim hp
  | _ :: _ :: _ :: _, _, hp => exact False.elim hp
end
section
variable {L : List MO} {E : EX} {Q : D → List MO → Prop}
theorem wps_par {i j : Nat} {fs : Tau → M (List D)} {τ : Tau} {k : KK} : wps (parS i j fs) τ L k = wp (fs τ) L (k.ex τ) (fun ds L1 => match ds with
    | [d, e] => k.nx ((τ.set i (some d)).set j (some e)) L1
    | _ => False) := by
  unfold parS
  rw [wps_eThen]
  congr 1
  funext ds L1
  unfold wps
  match ds with
  | [d, e] => rfl
  | [] => rfl
  | [_] => rfl
  | _ :: _ :: _ :: _ => rfl
theorem wp_frzV {p : P} : wp (frzD (.v p)) L E Q = Q (.v p) L := rfl
theorem wp_frzR {n : Nat} {xs : List P} (h : L[n]? = some (.lst xs)) : wp (frzD (.r n)) L E Q = Q (.v (.lst xs)) (L.set n .dead) := by
  refine wp_of ?_
  simp [frzD, h]
end
end DN

end
section
set_option Elab.async false
set_option linter.all false
set_option maxRecDepth 100000
set_option maxHeartbeats 4000000
/-! E27: the law's own sorting. -/
namespace DN
open PySem
section
variable {α : Type} [DecidableEq α]
def insK (lt : α → α → Bool) (zs : List α) (x : α) : Nat := (zs.takeWhile fun y => lt y x).length
def insA (lt : α → α → Bool) (zs : List α) (x : α) : List α := if zs[insK lt zs x]? = some x then zs else zs.take (insK lt zs x) ++ [x] ++ zs.drop (insK lt zs x)
def srtA (lt : α → α → Bool) (xs : List α) : List α := xs.foldl (insA lt) []
theorem insK_le {lt : α → α → Bool} {x : α} : ∀ {zs : List α}, insK lt zs x ≤ zs.length
  | [] => Nat.le_refl _
  | z :: zs => by
    unfold insK
    rw [List.takeWhile_cons]
    split
    · rw [List.length_cons, List.length_cons]
      have := insK_le (lt := lt) (x := x) (zs := zs)
      unfold insK at this
      omega
    · simp
theorem insK_lt {lt : α → α → Bool} {x : α} : ∀ {zs : List α} {i : Nat} {z : α}, i < insK lt zs x → zs[i]? = some z → lt z x = true
  | [], i, z, h, e => by cases e
  | y :: zs, i, z, h, e => by
    unfold insK at h
    rw [List.takeWhile_cons] at h
    split at h
    · rename_i hy
      cases i with
      | zero => cases e; exact hy
      | succ i => exact insK_lt (zs := zs) (by unfold insK; rw [List.length_cons] at h; omega) e
    · simp at h
theorem insK_at {lt : α → α → Bool} {x : α} : ∀ {zs : List α} {z : α}, zs[insK lt zs x]? = some z → lt z x = false
  | [], z, e => by cases e
  | y :: zs, z, e => by
    unfold insK at e
    rw [List.takeWhile_cons] at e
    split at e
    · exact insK_at (zs := zs) (by unfold insK; simpa using e)
    · rename_i hy
      cases e
      simpa using hy
theorem insA_len {lt : α → α → Bool} {zs : List α} {x : α} : (insA lt zs x).length ≤ zs.length + 1 := by
  unfold insA
  split
  · omega
  · simp only [List.length_append, List.length_take, List.length_drop, List.length_singleton]
    omega
theorem insA_mem {lt : α → α → Bool} {zs : List α} {x y : α} : y ∈ insA lt zs x ↔ y ∈ zs ∨ y = x := by
  unfold insA
  split
  · rename_i h
    have := List.mem_of_getElem? h
    constructor
    · exact .inl
    · rintro (h | h)
      · exact h
      · rw [h]; exact this
  · constructor
    · intro h
      rcases List.mem_append.mp h with h | h
      · rcases List.mem_append.mp h with h | h
        · exact .inl (List.mem_of_mem_take h)
        · exact .inr (List.mem_singleton.mp h)
      · exact .inl (List.mem_of_mem_drop h)
    · rintro (h | h)
      · rw [← List.take_append_drop (insK lt zs x) zs] at h
        rcases List.mem_append.mp h with h | h
        · exact List.mem_append_left _ (List.mem_append_left _ h)
        · exact List.mem_append_right _ h
      · rw [h]; simp
theorem srtA_mem {lt : α → α → Bool} {y : α} (xs : List α) : y ∈ srtA lt xs ↔ y ∈ xs := by
  have key : ∀ (xs zs : List α), y ∈ xs.foldl (insA lt) zs ↔ y ∈ zs ∨ y ∈ xs := by
    intro xs
    induction xs with
    | nil => intro zs; simp
    | cons x xs ih =>
      intro zs
      rw [List.foldl_cons, ih, insA_mem, List.mem_cons, or_assoc]
  have := key xs []
  simpa [srtA] using this
theorem srtA_len {lt : α → α → Bool} (xs : List α) : (srtA lt xs).length ≤ xs.length := by
  have key : ∀ (xs zs : List α), (xs.foldl (insA lt) zs).length ≤ zs.length + xs.length := by
    intro xs
    induction xs with
    | nil => intro zs; simp
    | cons x xs ih =>
      intro zs
      rw [List.foldl_cons, List.length_cons]
      have h1 := ih (insA lt zs x)
      have h2 := insA_len (lt := lt) (zs := zs) (x := x)
      omega
  have := key xs []
  simpa [srtA] using this
/-- an order that tells all apart -/
structure Tot (lt : α → α → Bool) : Prop where
  irr : ∀ a, lt a a = false
  tr : ∀ a b c, lt a b = true → lt b c = true → lt a c = true
  tri : ∀ a b, lt a b = false → lt b a = false → a = b
theorem insA_sorted {lt : α → α → Bool} (T : Tot lt) {zs : List α} {x : α} (h : zs.Pairwise fun a b => lt a b = true) : (insA lt zs x).Pairwise fun a b => lt a b = true := by
  unfold insA
  split
  · exact h
  · rename_i hne
    rw [← List.take_append_drop (insK lt zs x) zs] at h
    have hs := List.pairwise_append.mp h
    have hlow : ∀ a ∈ zs.take (insK lt zs x), lt a x = true := fun a ha => by
      obtain ⟨i, hi, e⟩ := List.mem_iff_getElem.mp ha
      rw [List.length_take] at hi
      rw [List.getElem_take] at e
      exact insK_lt (zs := zs) (i := i) (by omega) (by rw [List.getElem?_eq_getElem (by omega), e])
    have hhigh : ∀ b ∈ zs.drop (insK lt zs x), lt x b = true := by
      cases ed : zs.drop (insK lt zs x) with
      | nil => intro b hb; cases hb
      | cons c t =>
        have ec : zs[insK lt zs x]? = some c := by
          have := congrArg List.head? ed
          rw [List.head?_drop] at this
          simpa using this
        have h1 := insK_at ec
        have hc : lt x c = true := by
          cases e2 : lt x c with
          | true => rfl
          | false => exact absurd (by rw [ec, T.tri c x h1 e2]) hne
        intro b hb
        rw [ed] at hs
        rcases List.mem_cons.mp hb with z | z
        · rw [z]; exact hc
        · exact T.tr x c b hc ((List.pairwise_cons.mp hs.2.1).1 b z)
    refine List.pairwise_append.mpr ⟨List.pairwise_append.mpr ⟨hs.1, by simp, fun a ha b hb => ?_⟩, hs.2.1, fun a ha b hb => ?_⟩
    · rw [List.mem_singleton.mp hb]; exact hlow a ha
    · rcases List.mem_append.mp ha with z | z
      · exact hs.2.2 a z b hb
      · rw [List.mem_singleton.mp z]; exact hhigh b hb
theorem srtA_sorted {lt : α → α → Bool} (T : Tot lt) (xs : List α) : (srtA lt xs).Pairwise fun a b => lt a b = true := by
  have key : ∀ (xs zs : List α), (zs.Pairwise fun a b => lt a b = true) → (xs.foldl (insA lt) zs).Pairwise fun a b => lt a b = true := by
    intro xs
    induction xs with
    | nil => intro zs h; exact h
    | cons x xs ih => intro zs h; exact ih _ (insA_sorted T h)
  exact key xs [] List.Pairwise.nil
/-- one list alone is sorted and has these members -/
theorem sorted_uniq {lt : α → α → Bool} (T : Tot lt) : ∀ {xs ys : List α}, (xs.Pairwise fun a b => lt a b = true) → (ys.Pairwise fun a b => lt a b = true) → (∀ a, a ∈ xs ↔ a ∈ ys) → xs = ys
  | [], [], _, _, _ => rfl
  | [], y :: ys, _, _, h => absurd ((h y).mpr List.mem_cons_self) (by simp)
  | x :: xs, [], _, _, h => absurd ((h x).mp List.mem_cons_self) (by simp)
  | x :: xs, y :: ys, h1, h2, h => by
    obtain ⟨p1, p2⟩ := List.pairwise_cons.mp h1
    obtain ⟨q1, q2⟩ := List.pairwise_cons.mp h2
    have e : x = y := by
      rcases List.mem_cons.mp ((h x).mp List.mem_cons_self) with z | z
      · exact z
      · rcases List.mem_cons.mp ((h y).mpr List.mem_cons_self) with w | w
        · exact w.symm
        · have a := T.tr x y x (p1 y w) (q1 x z)
          rw [T.irr] at a
          cases a
    subst e
    rw [sorted_uniq T p2 q2 fun a => ?_]
    constructor
    · intro ha
      rcases List.mem_cons.mp ((h a).mp (List.mem_cons_of_mem _ ha)) with z | z
      · have := p1 a ha
        rw [z, T.irr] at this
        cases this
      · exact z
    · intro ha
      rcases List.mem_cons.mp ((h a).mpr (List.mem_cons_of_mem _ ha)) with z | z
      · have := q1 a ha
        rw [z, T.irr] at this
        cases this
      · exact z
end
end DN

end
section
set_option Elab.async false
set_option linter.all false
set_option maxRecDepth 100000
set_option maxHeartbeats 4000000
/-! E28: the order of texts and of tuples of them. -/
namespace DN
open PySem
def ltS (x y : Str) : Bool := decide (x.cps.toList < y.cps.toList)
theorem str_ext {x y : Str} (h : x.cps.toList = y.cps.toList) : x = y := by
  rw [← tW_tl x, ← tW_tl y, h]
theorem tot_str : Tot ltS where
  irr a := decide_eq_false (List.lt_irrefl _)
  tr a b c h1 h2 := decide_eq_true (List.lt_trans (of_decide_eq_true h1) (of_decide_eq_true h2))
  tri a b h1 h2 := str_ext (List.le_antisymm (List.not_lt.mp (of_decide_eq_false h2)) (List.not_lt.mp (of_decide_eq_false h1)))
section
variable {α β : Type} [DecidableEq α] [DecidableEq β]
/-- the first, then the second -/
def ltP (la : α → α → Bool) (lb : β → β → Bool) (x y : α × β) : Bool := if x.1 = y.1 then lb x.2 y.2 else la x.1 y.1
theorem tot_pair {la : α → α → Bool} {lb : β → β → Bool} (A : Tot la) (B : Tot lb) : Tot (ltP la lb) where
  irr a := by unfold ltP; rw [if_pos rfl]; exact B.irr _
  tr a b c h1 h2 := by
    unfold ltP at *
    by_cases e1 : a.1 = b.1
    · rw [if_pos e1] at h1
      rw [e1]
      by_cases e2 : b.1 = c.1
      · rw [if_pos e2] at h2 ⊢
        exact B.tr _ _ _ h1 h2
      · rw [if_neg e2] at h2 ⊢
        exact h2
    · rw [if_neg e1] at h1
      by_cases e2 : b.1 = c.1
      · rw [← e2, if_neg e1]
        exact h1
      · rw [if_neg e2] at h2
        have h3 := A.tr _ _ _ h1 h2
        by_cases e3 : a.1 = c.1
        · rw [e3, A.irr] at h3
          cases h3
        · rw [if_neg e3]
          exact h3
  tri a b h1 h2 := by
    unfold ltP at *
    by_cases e1 : a.1 = b.1
    · rw [if_pos e1] at h1
      rw [if_pos e1.symm] at h2
      exact Prod.ext e1 (B.tri _ _ h1 h2)
    · rw [if_neg e1] at h1
      rw [if_neg fun z => e1 z.symm] at h2
      exact absurd (A.tri _ _ h1 h2) e1
end
section
variable {α : Type} [DecidableEq α] {f : α → P} {lt : α → α → Bool}
theorem sortQ_eq (T : Tot lt) {xs : List α} (hk : ∀ a ∈ xs, ∀ b ∈ xs, PySem.W.dataLt (keyP (f a)) (keyP (f b)) = lt a b) (nd : xs.Nodup) : sortQ (xs.map f) = (srtA lt xs).map f := by
  have e1 : sortQ (xs.map f) = (xs.mergeSort fun a b => !lt b a).map f := by
    unfold sortQ
    refine (List.map_mergeSort (r := fun a b => !lt b a) (s := PySem.W.dataLe false keyP) (f := f) (l := xs) fun a ha b hb => ?_).symm
    show (!lt b a) = !PySem.W.dataLt (keyP (f b)) (keyP (f a))
    rw [hk b hb a ha]
  rw [e1]
  congr 1
  have pm := List.mergeSort_perm xs fun a b => !lt b a
  refine sorted_uniq T ?_ (srtA_sorted T xs) fun a => ?_
  · have h1 := List.pairwise_mergeSort (le := fun a b => !lt b a) (fun a b c h1 h2 => by
      simp only [Bool.not_eq_true'] at h1 h2 ⊢
      cases h3 : lt c a with
      | false => rfl
      | true =>
        cases h4 : lt a b with
        | true => rw [T.tr _ _ _ h3 h4] at h2; cases h2
        | false =>
          have := T.tri a b h4 h1
          rw [← this, h3] at h2
          cases h2) (fun a b => by
      cases h1 : lt b a with
      | false => simp
      | true =>
        cases h2 : lt a b with
        | false => simp
        | true =>
          have := T.tr _ _ _ h1 h2
          rw [T.irr] at this
          cases this) xs
    have h2 : (xs.mergeSort fun a b => !lt b a).Nodup := pm.nodup_iff.mpr nd
    refine (List.pairwise_and_iff.mpr ⟨h1, h2⟩).imp fun {a b} h => ?_
    obtain ⟨h3, h4⟩ := h
    cases h5 : lt a b with
    | true => rfl
    | false => exact absurd (T.tri a b h5 (by simpa using h3)) h4
  · rw [srtA_mem]
    exact pm.mem_iff
end
section
variable {L : List MO} {E : EX} {Q : D → List MO → Prop}
theorem keyP_str (x : Str) : keyP (.str x) = .str x := rfl
theorem wp_ltStr {a b : Str} : wp (ltD (.v (.str a)) (.v (.str b))) L E Q = Q (.v (.bl (ltS a b))) L := by
  refine wp_of ?_
  have e : PySem.W.alike (.str a) (.str b) = true := by simp [PySem.W.alike]
  have e2 : ltOk (.str a) = true := by simp [ltOk, PyData.depth]
  show (if (PySem.W.alike (.str a) (.str b) && ltOk (.str a)) = true then some (Res.ok (D.v (.bl (PySem.W.dataLt (.str a) (.str b)))), L) else none) = _
  rw [e, e2, PySem.W.dataLt_str]
  rfl
end
/-! ### rows of three texts; a text and a number -/
abbrev Row := Str × Str × Str
def rowP (x : Row) : P := .tup [.str x.1, .str x.2.1, .str x.2.2]
def lt3 : Row → Row → Bool := ltP ltS (ltP ltS ltS)
theorem tot_row : Tot lt3 := tot_pair tot_str (tot_pair tot_str tot_str)
def ltI (i j : Int) : Bool := decide (i < j)
theorem tot_int : Tot ltI where
  irr a := decide_eq_false (Int.lt_irrefl _)
  tr a b c h1 h2 := decide_eq_true (Int.lt_trans (of_decide_eq_true h1) (of_decide_eq_true h2))
  tri a b h1 h2 := by
    have h1 := of_decide_eq_false h1
    have h2 := of_decide_eq_false h2
    omega
abbrev Pg := Str × Int
def pgP (x : Pg) : P := .tup [.str x.1, .int x.2]
def ltPg : Pg → Pg → Bool := ltP ltS ltI
theorem tot_pg : Tot ltPg := tot_pair tot_str tot_int
theorem eqv_str (a b : Str) : PyData.eqv (.str a) (.str b) = decide (a = b) := by
  by_cases h : a = b <;> simp [PyData.eqv, h]
theorem eqv_int (a b : Int) : PyData.eqv (.int a) (.int b) = decide (a = b) := by
  by_cases h : a = b <;> simp [PyData.eqv, h]
theorem dlt_row (a b : Row) : PySem.W.dataLt (.tuple [.str a.1, .str a.2.1, .str a.2.2]) (.tuple [.str b.1, .str b.2.1, .str b.2.2]) = lt3 a b := by
  have al : ∀ x y : Str, PySem.W.alike (.str x) (.str y) = true := fun x y => by simp [PySem.W.alike]
  have e0 : PyProof.Rows.lexLt PyProof.Rows.itemOrd (PySem.W.keyToksAll []) (PySem.W.keyToksAll []) = false := PyProof.Rows.lex_irrefl _
  rw [PySem.W.dataLt_tuple, PySem.W.dataLt_cons (al _ _), PySem.W.dataLt_cons (al _ _), PySem.W.dataLt_cons (al _ _), e0]
  simp only [eqv_str, PySem.W.dataLt_str, decide_eq_true_eq]
  unfold lt3 ltP
  by_cases h1 : a.1 = b.1
  · rw [if_pos h1, if_pos h1]
    by_cases h2 : a.2.1 = b.2.1
    · rw [if_pos h2, if_pos h2]
      by_cases h3 : a.2.2 = b.2.2
      · rw [if_pos h3, h3, tot_str.irr]
      · rw [if_neg h3]; rfl
    · rw [if_neg h2, if_neg h2]; rfl
  · rw [if_neg h1, if_neg h1]; rfl
theorem dlt_pg (a b : Pg) : PySem.W.dataLt (.tuple [.str a.1, .int a.2]) (.tuple [.str b.1, .int b.2]) = ltPg a b := by
  have al : ∀ x y : Str, PySem.W.alike (.str x) (.str y) = true := fun x y => by simp [PySem.W.alike]
  have ai : ∀ x y : Int, PySem.W.alike (.int x) (.int y) = true := fun x y => by simp [PySem.W.alike]
  rw [PySem.W.dataLt_pair (al _ _) (ai _ _)]
  simp only [eqv_str, eqv_int, PySem.W.dataLt_str, PySem.W.dataLt_int, decide_eq_true_eq]
  unfold ltPg ltP
  by_cases h1 : a.1 = b.1
  · rw [if_pos h1, if_pos h1]
    by_cases h2 : a.2 = b.2
    · rw [if_pos h2, h2, tot_int.irr]
    · rw [if_neg h2]; rfl
  · rw [if_neg h1, if_neg h1]; rfl
section
variable {L : List MO} {E : EX} {Q : D → List MO → Prop}
theorem wp_ltRow {a b : Row} : wp (ltD (.v (rowP a)) (.v (rowP b))) L E Q = Q (.v (.bl (lt3 a b))) L := by
  refine wp_of ?_
  have e : PySem.W.alike (.tuple [.str a.1, .str a.2.1, .str a.2.2]) (.tuple [.str b.1, .str b.2.1, .str b.2.2]) = true := by simp [PySem.W.alike, PySem.W.alikeAll]
  have e2 : ltOk (.tuple [.str a.1, .str a.2.1, .str a.2.2]) = true := by simp [ltOk, PyData.depth, PyData.depthAll]
  show (if (PySem.W.alike (.tuple [.str a.1, .str a.2.1, .str a.2.2]) (.tuple [.str b.1, .str b.2.1, .str b.2.2]) && ltOk (.tuple [.str a.1, .str a.2.1, .str a.2.2])) = true then some (Res.ok (D.v (.bl (PySem.W.dataLt (.tuple [.str a.1, .str a.2.1, .str a.2.2]) (.tuple [.str b.1, .str b.2.1, .str b.2.2])))), L) else none) = _
  rw [e, e2, dlt_row]
  rfl
theorem wp_ltPg {a b : Pg} : wp (ltD (.v (pgP a)) (.v (pgP b))) L E Q = Q (.v (.bl (ltPg a b))) L := by
  refine wp_of ?_
  have e : PySem.W.alike (.tuple [.str a.1, .int a.2]) (.tuple [.str b.1, .int b.2]) = true := by simp [PySem.W.alike, PySem.W.alikeAll]
  have e2 : ltOk (.tuple [.str a.1, .int a.2]) = true := by simp [ltOk, PyData.depth, PyData.depthAll]
  show (if (PySem.W.alike (.tuple [.str a.1, .int a.2]) (.tuple [.str b.1, .int b.2]) && ltOk (.tuple [.str a.1, .int a.2])) = true then some (Res.ok (D.v (.bl (PySem.W.dataLt (.tuple [.str a.1, .int a.2]) (.tuple [.str b.1, .int b.2])))), L) else none) = _
  rw [e, e2, dlt_pg]
  rfl
end
end DN

end
section
set_option Elab.async false
set_option linter.all false
set_option maxRecDepth 100000
set_option maxHeartbeats 4000000
/-! E29: set comprehensions with pure turns. -/
namespace DN
open PySem
section
variable {α : Type} [DecidableEq α]
def addA (acc : List α) (x : α) : List α := if x ∈ acc then acc else acc ++ [x]
def dedA (xs : List α) : List α := xs.foldl addA []
theorem addA_mem {acc : List α} {x y : α} : y ∈ addA acc x ↔ y ∈ acc ∨ y = x := by
  unfold addA
  split
  · rename_i h
    exact ⟨.inl, fun z => z.elim id fun e => by rw [e]; exact h⟩
  · simp
theorem dedA_mem {y : α} (xs : List α) : y ∈ dedA xs ↔ y ∈ xs := by
  have key : ∀ (xs acc : List α), y ∈ xs.foldl addA acc ↔ y ∈ acc ∨ y ∈ xs := by
    intro xs
    induction xs with
    | nil => intro acc; simp
    | cons x xs ih => intro acc; rw [List.foldl_cons, ih, addA_mem, List.mem_cons, or_assoc]
  have := key xs []
  simpa [dedA] using this
theorem addA_nodup {acc : List α} {x : α} (h : acc.Nodup) : (addA acc x).Nodup := by
  unfold addA
  split
  · exact h
  · rename_i hx
    rw [List.nodup_append]
    exact ⟨h, by simp, fun a ha b hb e => hx (by rw [← List.mem_singleton.mp hb, ← e]; exact ha)⟩
theorem dedA_nodup (xs : List α) : (dedA xs).Nodup := by
  have key : ∀ (xs acc : List α), acc.Nodup → (xs.foldl addA acc).Nodup := by
    intro xs
    induction xs with
    | nil => intro acc h; exact h
    | cons x xs ih => intro acc h; exact ih _ (addA_nodup h)
  exact key xs [] List.nodup_nil
theorem dedA_len (xs : List α) : (dedA xs).length ≤ xs.length := by
  have key : ∀ (xs acc : List α), (xs.foldl addA acc).length ≤ acc.length + xs.length := by
    intro xs
    induction xs with
    | nil => intro acc; simp
    | cons x xs ih =>
      intro acc
      have h1 := ih (addA acc x)
      have h2 : (addA acc x).length ≤ acc.length + 1 := by unfold addA; split <;> simp
      simp only [List.foldl_cons, List.length_cons]
      omega
  have := key xs []
  simpa [dedA] using this
/-- how things become members of one set -/
structure SetOk (G : α → P) (ok : α → Prop) : Prop where
  key : ∀ a, ok a → ∃ k, nkOf (G a) = some k ∧ k.depth ≤ 8
  inj : ∀ a b, ok a → ok b → nkOf (G a) = nkOf (G b) → a = b
  kind : (∀ a, ok a → pTup (G a) = true) ∨ ∀ a, ok a → pStr (G a) = true
theorem SetOk.add {G : α → P} {ok : α → Prop} (h : SetOk G ok) {acc : List α} {x : α} (ha : ∀ a ∈ acc, ok a) (hx : ok x) (hl : acc.length + 1 < 64) : addOkP (acc.map G) (G x) = true ∧ addP (acc.map G) (G x) = (addA acc x).map G := by
  obtain ⟨k, hk, hd⟩ := h.key x hx
  constructor
  · unfold addOkP
    rw [hk]
    dsimp only
    rw [List.length_map, decide_eq_true hl, decide_eq_true hd]
    rcases h.kind with t | t
    · have : (acc.map G).all pTup = true := by
        rw [List.all_eq_true]
        intro p hp
        obtain ⟨a, hm, rfl⟩ := List.mem_map.mp hp
        exact t a (ha a hm)
      rw [t x hx, this]
      rfl
    · have : (acc.map G).all pStr = true := by
        rw [List.all_eq_true]
        intro p hp
        obtain ⟨a, hm, rfl⟩ := List.mem_map.mp hp
        exact t a (ha a hm)
      rw [t x hx, this]
      simp
  · have e : (acc.map G).any (fun p => decide (nkOf p = nkOf (G x))) = decide (x ∈ acc) := by
      by_cases c : x ∈ acc
      · rw [decide_eq_true c, List.any_eq_true]
        exact ⟨G x, List.mem_map.mpr ⟨x, c, rfl⟩, by simp⟩
      · rw [decide_eq_false c, List.any_eq_false]
        intro p hp
        obtain ⟨a, hm, rfl⟩ := List.mem_map.mp hp
        simp only [decide_eq_true_eq]
        intro z
        rw [h.inj a x (ha a hm) hx z] at hm
        exact c hm
    unfold addP
    rw [e]
    unfold addA
    by_cases c : x ∈ acc
    · rw [if_pos (decide_eq_true c), if_pos c]
    · rw [if_neg (by simpa using c), if_neg c, List.map_append]
      rfl
end
section
variable {L : List MO} {E : EX} {τ : Tau} {Q : D → List MO → Prop}
theorem wp_scMap {α : Type} [DecidableEq α] (f : α → P) (ys : List α) (G : α → P) {okA : α → Prop} (hS : SetOk G okA) (hA : ∀ y ∈ ys, okA y) {tg : TgD} {fe : Tau → M D} {ok : List MO → Prop} (hok : ∀ acc, ok (L ++ [.set acc])) (hz : ys.length < 63)
    (hs : ∀ y ∈ ys, ∀ acc : List P, ∃ τ1, tg (f y) τ = some τ1 ∧ wp (fe τ1) (L ++ [.set acc]) noE fun d L2 => L2 = L ++ [.set acc] ∧ d = .v (G y))
    (h : Q (.r L.length) (L ++ [.set ((dedA ys).map G)])) : wp (scE (lcT tg yesB fe) τ (ys.map f, ok)) L E Q := by
  have key : ∀ (xs acc : List α), (∀ x ∈ xs, x ∈ ys) → (∀ a ∈ acc, okA a) → acc.length + xs.length < 63 → scG ok (lcT tg yesB fe) L.length τ (xs.map f) (L ++ [.set (acc.map G)]) = some (L ++ [.set ((xs.foldl addA acc).map G)]) := by
    intro xs
    induction xs with
    | nil =>
      intro acc _ _ _
      rw [List.map_nil]
      unfold scG
      rw [if_pos (hok _)]
      rfl
    | cons x xs ih =>
      intro acc h1 h2 h3
      rw [List.length_cons] at h3
      have hx := h1 x List.mem_cons_self
      obtain ⟨τ1, e1, w⟩ := hs x hx (acc.map G)
      obtain ⟨d, L2, e2, rfl, rfl⟩ := wp_out w
      obtain ⟨a1, a2⟩ := hS.add h2 (hA x hx) (by omega)
      rw [List.map_cons, List.foldl_cons]
      unfold scG
      rw [if_pos (hok _)]
      have et : lcT tg yesB fe (f x) τ (L ++ [.set (acc.map G)]) = some (.ok (some (G x)), L ++ [.set (acc.map G)]) := by
        unfold lcT
        rw [e1]
        dsimp only
        have e3 : yesB τ1 (L ++ [.set (acc.map G)]) = some (.ok true, L ++ [.set (acc.map G)]) := rfl
        rw [e3]
        dsimp only
        rw [e2]
      rw [et]
      dsimp only
      rw [lst_get]
      dsimp only
      rw [if_pos a1, lst_set, a2]
      refine ih (addA acc x) (fun z hz => h1 z (List.mem_cons_of_mem _ hz)) (fun a ha => ?_) ?_
      · rcases addA_mem.mp ha with z | z
        · exact h2 a z
        · rw [z]; exact hA x hx
      · have : (addA acc x).length ≤ acc.length + 1 := by unfold addA; split <;> simp
        omega
  have e := key ys [] (fun _ h => h) (fun a ha => by cases ha) (by simpa using hz)
  have : scE (lcT tg yesB fe) τ (ys.map f, ok) L = some (.ok (.r L.length), L ++ [.set ((dedA ys).map G)]) := by
    unfold scE
    show scFin L.length (scG ok (lcT tg yesB fe) L.length τ (ys.map f) (L ++ [.set (([] : List α).map G)])) = _
    rw [e]
    rfl
  rw [wp_of this]
  exact h
end
end DN

end
section
set_option Elab.async false
set_option linter.all false
set_option maxRecDepth 100000
set_option maxHeartbeats 4000000
/-! E30: sorted of sets and lists, in plain words. -/
namespace DN
open PySem
/-- things that can be sorted as data -/
structure SrtD {α : Type} (f : α → P) (lt : α → α → Bool) (ok : α → Prop) : Prop where
  toD : ∀ a, ok a → DN.toD (f a) = some (keyP (f a))
  dep : ∀ a, ok a → (keyP (f a)).depth ≤ 50
  alk : ∀ a b, ok a → ok b → PySem.W.alike (keyP (f a)) (keyP (f b)) = true
  lt : ∀ a b, ok a → ok b → PySem.W.dataLt (keyP (f a)) (keyP (f b)) = lt a b
  tag : (∀ a, ok a → ∃ x r, keyP (f a) = .tuple (x :: r)) ∨ ∀ a, ok a → ∃ x, keyP (f a) = .str x
section
variable {α : Type} [DecidableEq α] {f : α → P} {lt : α → α → Bool} {ok : α → Prop} {L : List MO} {E : EX} {Q : D → List MO → Prop}
theorem SrtD.toDs (h : SrtD f lt ok) : ∀ {xs : List α}, (∀ a ∈ xs, ok a) → DN.toDs (xs.map f) = some (xs.map fun a => keyP (f a))
  | [], _ => by simp [DN.toDs]
  | x :: xs, ha => by
    rw [List.map_cons, List.map_cons, DN.toDs, h.toD x (ha x List.mem_cons_self), h.toDs fun a hm => ha a (List.mem_cons_of_mem _ hm)]
theorem SrtD.cond (h : SrtD f lt ok) {xs : List α} (ha : ∀ a ∈ xs, ok a) : (sortOk (xs.map fun a => keyP (f a)) && sortTag (xs.map fun a => keyP (f a)) && (xs.map fun a => keyP (f a)).all fun d => decide (d.depth ≤ 50)) = true := by
  have h1 : sortOk (xs.map fun a => keyP (f a)) = true := by
    unfold sortOk
    rw [List.all_eq_true]
    intro d hd
    obtain ⟨a, hm, rfl⟩ := List.mem_map.mp hd
    rw [List.all_eq_true]
    intro e he
    obtain ⟨b, hb, rfl⟩ := List.mem_map.mp he
    exact h.alk a b (ha a hm) (ha b hb)
  have h2 : sortTag (xs.map fun a => keyP (f a)) = true := by
    unfold sortTag
    rw [Bool.or_eq_true]
    rcases h.tag with t | t
    · left
      rw [List.all_eq_true]
      intro d hd
      obtain ⟨a, hm, rfl⟩ := List.mem_map.mp hd
      obtain ⟨x, r, e⟩ := t a (ha a hm)
      rw [e]
    · right
      rw [List.all_eq_true]
      intro d hd
      obtain ⟨a, hm, rfl⟩ := List.mem_map.mp hd
      obtain ⟨x, e⟩ := t a (ha a hm)
      rw [e]
  have h3 : ((xs.map fun a => keyP (f a)).all fun d => decide (d.depth ≤ 50)) = true := by
    rw [List.all_eq_true]
    intro d hd
    obtain ⟨a, hm, rfl⟩ := List.mem_map.mp hd
    exact decide_eq_true (h.dep a (ha a hm))
  rw [h1, h2, h3]
  rfl
theorem wp_sortS {mu : Bool} {n : Nat} {xs : List α} (T : Tot lt) (h : SrtD f lt ok) (ha : ∀ a ∈ xs, ok a) (nd : xs.Nodup) (hz : xs.length < 64) (hL : L[n]? = some (.set (xs.map f))) (q : if mu = true then Q (.r L.length) (L ++ [.lst ((srtA lt xs).map f)]) else Q (.v (.lst ((srtA lt xs).map f))) L) : wp (sortSD mu [.r n]) L E Q := by
  have e1 : sortQ (xs.map f) = (srtA lt xs).map f := sortQ_eq T (fun a hm b hb => h.lt a b (ha a hm) (ha b hb)) nd
  have e2 : ∀ ys : List P, ys.Perm (xs.map f) → sortQ ys = sortQ (xs.map f) := fun ys hp => by
    obtain ⟨zs, p1, p2⟩ := perm_lift hp.symm
    have hm : ∀ a ∈ zs, ok a := fun a h => ha a (p1.mem_iff.mp h)
    rw [← p2, sortQ_eq T (fun a h1 b h2 => h.lt a b (hm a h1) (hm b h2)) (p1.nodup_iff.mpr nd), e1]
    congr 1
    exact sorted_uniq T (srtA_sorted T _) (srtA_sorted T _) fun a => by rw [srtA_mem, srtA_mem]; exact p1.mem_iff
  have e3 : asSet L (.r n) = some (xs.map f) := by simp [asSet, hL]
  have : sortSD mu [.r n] L = some (if mu = true then (.ok (.r L.length), L ++ [.lst ((srtA lt xs).map f)]) else (.ok (.v (.lst ((srtA lt xs).map f))), L)) := by
    unfold sortSD oneD
    dsimp only
    rw [e3]
    dsimp only
    rw [h.toDs ha]
    dsimp only
    rw [if_pos ⟨h.cond ha, by rw [List.length_map]; exact hz, e2⟩, e1]
  cases mu with
  | true => rw [wp_of this]; exact q
  | false => rw [wp_of this]; exact q
theorem wp_sortL {mu : Bool} {d : D} {xs : List α} (T : Tot lt) (h : SrtD f lt ok) (ha : ∀ a ∈ xs, ok a) (nd : xs.Nodup) (hL : LsAt L d (xs.map f)) (q : if mu = true then Q (.r L.length) (L ++ [.lst ((srtA lt xs).map f)]) else Q (.v (.lst ((srtA lt xs).map f))) L) : wp (sortD mu [d]) L E Q := by
  have e1 : sortQ (xs.map f) = (srtA lt xs).map f := sortQ_eq T (fun a hm b hb => h.lt a b (ha a hm) (ha b hb)) nd
  have e3 : asL L d = some (xs.map f) := by
    rcases hL with rfl | ⟨n, rfl, h⟩
    · rfl
    · simp [asL, asM, h]
  have : sortD mu [d] L = some (if mu = true then (.ok (.r L.length), L ++ [.lst ((srtA lt xs).map f)]) else (.ok (.v (.lst ((srtA lt xs).map f))), L)) := by
    unfold sortD oneD
    dsimp only
    rw [e3]
    dsimp only
    rw [h.toDs ha]
    dsimp only
    rw [if_pos (h.cond ha), e1]
  cases mu with
  | true => rw [wp_of this]; exact q
  | false => rw [wp_of this]; exact q
end
theorem srt_str : SrtD P.str ltS fun _ => True where
  toD _ _ := rfl
  dep _ _ := by simp [keyP_str, PyData.depth]
  alk _ _ _ _ := by simp [keyP_str, PySem.W.alike]
  lt a b _ _ := PySem.W.dataLt_str a b
  tag := .inr fun a _ => ⟨a, rfl⟩
theorem keyP_row (x : Row) : keyP (rowP x) = .tuple [.str x.1, .str x.2.1, .str x.2.2] := by simp [keyP, rowP, toD, toDs]
theorem srt_row : SrtD rowP lt3 fun _ => True where
  toD _ _ := by rw [keyP_row]; simp [rowP, toD, toDs]
  dep _ _ := by rw [keyP_row]; simp [PyData.depth, PyData.depthAll]
  alk _ _ _ _ := by rw [keyP_row, keyP_row]; simp [PySem.W.alike, PySem.W.alikeAll]
  lt a b _ _ := by rw [keyP_row, keyP_row, dlt_row]
  tag := .inl fun a _ => ⟨_, _, keyP_row a⟩
theorem keyP_pg (x : Pg) : keyP (pgP x) = .tuple [.str x.1, .int x.2] := by simp [keyP, pgP, toD, toDs]
theorem srt_pg : SrtD pgP ltPg fun _ => True where
  toD _ _ := by rw [keyP_pg]; simp [pgP, toD, toDs]
  dep _ _ := by rw [keyP_pg]; simp [PyData.depth, PyData.depthAll]
  alk _ _ _ _ := by rw [keyP_pg, keyP_pg]; simp [PySem.W.alike, PySem.W.alikeAll]
  lt a b _ _ := by rw [keyP_pg, keyP_pg, dlt_pg]
  tag := .inl fun a _ => ⟨_, _, keyP_pg a⟩
theorem set_row : SetOk rowP fun _ => True where
  key a _ := ⟨_, by simp [rowP, nkOf, nksOf]; rfl, by simp [NestedKey.depth, NestedKey.depthAll]⟩
  inj a b _ _ h := by
    simp [rowP, nkOf, nksOf] at h
    exact Prod.ext h.1 (Prod.ext h.2.1 h.2.2)
  kind := .inl fun _ _ => rfl
end DN

end
section
set_option Elab.async false
set_option linter.all false
set_option maxRecDepth 100000
set_option maxHeartbeats 4000000
/-! E31: truth and membership of lists of the ledger. -/
namespace DN
open PySem
section
variable {L : List MO} {E : EX} {Q : D → List MO → Prop}
theorem wp_truL {d : D} {xs : List P} {QB : Bool → List MO → Prop} (h : LsAt L d xs) : wp (truB d) L E QB = QB (!xs.isEmpty) L := by
  rcases h with rfl | ⟨n, rfl, h⟩
  · rfl
  · refine wp_of ?_
    simp [truB, asS, asL, asM, h]
/-- is it in a list of data? -/
theorem wp_inP {neg : Bool} {p : P} {d : D} {xs : List P} (hd : LsAt L d xs) (h1 : dat 19 p = true) (h2 : ∀ x ∈ xs, dat 19 x = true ∧ sim x p = true) [Decidable (p ∈ xs)] : wp (inA neg (.v p) d) L E Q = Q (.v (.bl (xor neg (decide (p ∈ xs))))) L := by
  have e0 : dnAt L d = none := by
    rcases hd with rfl | ⟨n, rfl, h⟩
    · rfl
    · simp [dnAt, h]
  have e1 : dOf L (.v p) = some (pd p) := (toD_dat _ p h1).1
  have e2 : dOf L d = some (.list (pds xs)) := by
    have hl : dat 20 (.lst xs) = true := dat_lst fun x hx => (h2 x hx).1
    have := (toD_dat _ _ hl).1
    rcases hd with rfl | ⟨n, rfl, h⟩
    · exact this
    · simp only [toD] at this
      simp only [dOf, h]
      exact this
  have e3 : okD (pd p) = true := okD_dat h1 (by decide)
  have e4 : okD (.list (pds xs)) = true := okD_dat (k := 20) (p := .lst xs) (dat_lst fun x hx => (h2 x hx).1) (by decide)
  have e5 : (pds xs).any (fun z => PyData.eqv z (pd p)) = decide (p ∈ xs) := by
    have key : ∀ ys : List P, (∀ x ∈ ys, dat 19 x = true ∧ sim x p = true) → ((pds ys).any (fun z => PyData.eqv z (pd p)) = true ↔ p ∈ ys) := by
      intro ys
      induction ys with
      | nil => intro _; simp [pds]
      | cons y ys ih =>
        intro h
        obtain ⟨a, b⟩ := h y List.mem_cons_self
        rw [pds, List.any_cons, Bool.or_eq_true, eqv_dat 19 y p a h1 b, ih fun x hx => h x (List.mem_cons_of_mem _ hx), List.mem_cons]
        exact or_congr eq_comm Iff.rfl
    have := key xs h2
    by_cases c : p ∈ xs
    · rw [decide_eq_true c]; exact this.mpr c
    · rw [decide_eq_false c]
      cases e : (pds xs).any (fun z => PyData.eqv z (pd p)) with
      | false => rfl
      | true => exact absurd (this.mp e) c
  refine wp_of ?_
  unfold inA
  rw [e0]
  show inD neg _ _ L = _
  unfold inD
  rw [e1, e2]
  dsimp only
  rw [if_pos (by rw [e3, e4]; rfl), e5]
theorem wp_inStr {neg : Bool} {y : Str} {d : D} {xs : List Str} (hd : LsAt L d (xs.map P.str)) (hy : PyData.strOk y = true) (hx : ∀ x ∈ xs, PyData.strOk x = true) : wp (inA neg (.v (.str y)) d) L E Q = Q (.v (.bl (xor neg (decide (y ∈ xs))))) L := by
  have hm : P.str y ∈ xs.map P.str ↔ y ∈ xs := by
    rw [List.mem_map]
    exact ⟨fun ⟨z, hz, e⟩ => by injection e with e; rw [← e]; exact hz, fun h => ⟨y, h, rfl⟩⟩
  have : Decidable (P.str y ∈ xs.map P.str) := decidable_of_iff _ hm.symm
  rw [wp_inP hd (dat_str hy) fun p hp => by
    obtain ⟨x, h, rfl⟩ := List.mem_map.mp hp
    exact ⟨dat_str (hx x h), rfl⟩]
  rw [decide_eq_decide.mpr hm]
end
end DN

end
section
set_option Elab.async false
set_option linter.all false
set_option maxRecDepth 100000
set_option maxHeartbeats 4000000
/-! E32: comprehensions whose turns leave things behind the new list. -/
namespace DN
open PySem
section
variable {L : List MO} {E : EX} {τ : Tau} {Q : D → List MO → Prop}
theorem wp_lcX {α : Type} (f : α → P) (ys : List α) (G : α → P) {tg : TgD} {fe : Tau → M D} {ok : List MO → Prop} (hok : ∀ acc X, ok (L ++ .lst acc :: X)) (hz : ys.length ≤ sizeLine)
    (hs : ∀ y ∈ ys, ∀ (acc : List P) (X : List MO), ∃ τ1, tg (f y) τ = some τ1 ∧ wp (fe τ1) (L ++ .lst acc :: X) noE fun d L2 => (∃ X', L2 = L ++ .lst acc :: X') ∧ d = .v (G y))
    (h : Q (.v (.lst (ys.map G))) L) : wp (lcE false (lcT tg yesB fe) τ (ys.map f, ok)) L E Q := by
  have gt : ∀ (acc : List P) (X : List MO), (L ++ MO.lst acc :: X)[L.length]? = some (.lst acc) := fun acc X => by rw [List.getElem?_append_right (Nat.le_refl _), Nat.sub_self]; rfl
  have st : ∀ (acc bcc : List P) (X : List MO), (L ++ MO.lst acc :: X).set L.length (.lst bcc) = L ++ .lst bcc :: X := fun acc bcc X => by rw [List.set_append_right _ _ (Nat.le_refl _), Nat.sub_self]; rfl
  have key : ∀ (xs : List α) (acc : List P) (X : List MO), (∀ x ∈ xs, x ∈ ys) → acc.length + xs.length ≤ sizeLine → ∃ X', lcG ok (lcT tg yesB fe) L.length τ (xs.map f) (L ++ .lst acc :: X) = some (L ++ .lst (acc ++ xs.map G) :: X') := by
    intro xs
    induction xs with
    | nil =>
      intro acc X _ _
      refine ⟨X, ?_⟩
      rw [List.map_nil, List.map_nil, List.append_nil]
      unfold lcG
      rw [if_pos (hok _ _)]
    | cons x xs ih =>
      intro acc X h1 h2
      rw [List.length_cons] at h2
      obtain ⟨τ1, e1, w⟩ := hs x (h1 x List.mem_cons_self) acc X
      obtain ⟨d, L2, e2, ⟨X', rfl⟩, rfl⟩ := wp_out w
      obtain ⟨X2, e3⟩ := ih (acc ++ [G x]) X' (fun z hz => h1 z (List.mem_cons_of_mem _ hz)) (by rw [List.length_append, List.length_singleton]; omega)
      refine ⟨X2, ?_⟩
      rw [List.map_cons]
      unfold lcG
      rw [if_pos (hok _ _)]
      have et : lcT tg yesB fe (f x) τ (L ++ .lst acc :: X) = some (.ok (some (G x)), L ++ .lst acc :: X') := by
        unfold lcT
        rw [e1]
        dsimp only
        have e4 : yesB τ1 (L ++ .lst acc :: X) = some (.ok true, L ++ .lst acc :: X) := rfl
        rw [e4]
        dsimp only
        rw [e2]
      rw [et]
      dsimp only
      rw [gt]
      dsimp only
      rw [if_pos (by omega), st, e3, List.map_cons, List.append_assoc]
      rfl
  obtain ⟨X', e⟩ := key ys [] [] (fun _ h => h) (by simpa using hz)
  rw [List.nil_append] at e
  have : lcE false (lcT tg yesB fe) τ (ys.map f, ok) L = some (.ok (.v (.lst (ys.map G))), L) := by
    unfold lcE
    dsimp only
    rw [e]
    unfold lcFin
    dsimp only
    rw [if_neg Bool.false_ne_true, gt]
    dsimp only
    rw [if_pos (older_app _ (Older.refl _)), List.take_left']
    rfl
  rw [wp_of this]
  exact h
theorem wp_addM {d e : D} {xs ys : List P} (hd : LsAt L d xs) (he : LsAt L e ys) (hz : xs.length + ys.length ≤ sizeLine) : wp (addD d e) L E Q = Q (.v (.lst (xs ++ ys))) L := by
  have h1 : asM L d = some xs := by
    rcases hd with rfl | ⟨n, rfl, h⟩
    · rfl
    · simp [asM, h]
  have h2 : asM L e = some ys := by
    rcases he with rfl | ⟨n, rfl, h⟩
    · rfl
    · simp [asM, h]
  refine wp_of ?_
  rcases hd with rfl | ⟨n, rfl, h⟩ <;> rcases he with rfl | ⟨m, rfl, h'⟩ <;> simp [addD, asM, h1, h2, hz, *]
end
end DN

end
section
set_option Elab.async false
set_option linter.all false
set_option maxRecDepth 100000
set_option maxHeartbeats 4000000
/-! E33: shorter ends. -/
namespace DN
open PySem
/-- nothing points into the ledger from there -/
def flatB : MO → Bool
  | .ins _ fs => fs.all fun y => match y.2 with
    | .v _ => true
    | .r _ => false
  | _ => true
theorem flat_ok {m : MO} (h : flatB m = true) (n : Nat) : MO.okR n m := by
  cases m with
  | ins c fs =>
    intro y hy
    have := List.all_eq_true.mp h y hy
    cases e : y.2 with
    | v p => trivial
    | r k => rw [e] at this; cases this
  | _ => trivial
theorem older_tail {L Lb X Y : List MO} (h : Older L Lb) (hl : Lb.length = L.length) (hx : X.length ≤ Y.length) (hy : Y.all flatB = true) : Older (L ++ X) (Lb ++ Y) := by
  refine ⟨by simp only [List.length_append]; omega, fun i m hi e => ?_⟩
  by_cases c : i < L.length
  · rw [List.getElem?_append_left (by omega)] at e
    rw [List.getElem?_append_left c]
    rcases h.2 i m c e with q | q
    · exact .inl q
    · right
      cases m with
      | ins c fs => exact fun y hy => okR_le (q y hy) (by simp)
      | _ => trivial
  · rw [List.getElem?_append_right (by omega)] at e
    exact .inr (flat_ok (List.all_eq_true.mp hy m (List.mem_of_getElem? e)) _)
theorem older_at {L Lb : List MO} {n : Nat} {m : MO} (h : Older L Lb) (hm : flatB m = true) : Older L (Lb.set n m) := by
  refine ⟨by rw [List.length_set]; exact h.1, fun i q hi e => ?_⟩
  by_cases c : n = i
  · subst c
    rw [List.getElem?_set_self (by have := h.1; omega)] at e
    cases e
    exact .inr (flat_ok hm _)
  · rw [List.getElem?_set_ne c] at e
    exact h.2 i q hi e
theorem older_flat {L Lb : List MO} (hl : L.length ≤ Lb.length) (h : Lb.all flatB = true) : Older L Lb :=
  ⟨hl, fun i m _ e => .inr (flat_ok (List.all_eq_true.mp h m (List.mem_of_getElem? e)) _)⟩
theorem cut_nil {n : Nat} : cutT n [] = [] := rfl
theorem cut_none {n : Nat} {τ τ' : Tau} (h : cutT n τ = τ') : cutT n (none :: τ) = none :: τ' := by rw [← h]; rfl
theorem cut_v {n : Nat} {p : P} {τ τ' : Tau} (h : cutT n τ = τ') : cutT n (some (.v p) :: τ) = some (.v p) :: τ' := by rw [← h]; rfl
theorem cut_z {n : Nat} {z : Option D} {τ τ' : Tau} (hz : Vz z) (h : cutT n τ = τ') : cutT n (z :: τ) = z :: τ' := by
  rw [← h]
  rcases hz with rfl | ⟨p, rfl⟩ <;> rfl
theorem cut_lt {n m : Nat} {τ τ' : Tau} (hm : m < n) (h : cutT n τ = τ') : cutT n (some (.r m) :: τ) = some (.r m) :: τ' := by
  rw [← h]
  simp [cutT, cut1, hm]
theorem cut_ge {n m : Nat} {τ τ' : Tau} (hm : n ≤ m) (h : cutT n τ = τ') : cutT n (some (.r m) :: τ) = none :: τ' := by
  rw [← h]
  have : ¬ m < n := by omega
  simp [cutT, cut1, this]
theorem cut_d {n : Nat} {d : D} {τ τ' : Tau} (hd : DN.okR n d) (h : cutT n τ = τ') : cutT n (some d :: τ) = some d :: τ' := by
  cases d with
  | v p => exact cut_v h
  | r m => exact cut_lt hd h
theorem filt_map {α β : Type} (f : α → β) (p : α → Prop) [DecidablePred p] (xs : List α) : (xs.filterMap fun a => if p a then some (f a) else none) = (xs.filter fun a => decide (p a)).map f := by
  induction xs with
  | nil => rfl
  | cons x xs ih =>
    by_cases c : p x
    · rw [List.filterMap_cons_some (by rw [if_pos c]), List.filter_cons_of_pos (by simpa using c), List.map_cons, ih]
    · rw [List.filterMap_cons_none (by rw [if_neg c]), List.filter_cons_of_neg (by simpa using c), ih]
theorem nodup_sub {α : Type} [DecidableEq α] {xs ys : List α} (nd : xs.Nodup) (h : ∀ x ∈ xs, x ∈ ys) : xs.length ≤ ys.length := by
  induction xs generalizing ys with
  | nil => simp
  | cons x xs ih =>
    obtain ⟨h1, h2⟩ := List.nodup_cons.mp nd
    have hx := h x List.mem_cons_self
    have := ih (ys := ys.erase x) h2 fun y hy => (List.mem_erase_of_ne (fun e => h1 (by rw [← e]; exact hy))).mpr (h y (List.mem_cons_of_mem _ hy))
    rw [List.length_erase_of_mem hx] at this
    have hp : 0 < ys.length := List.length_pos_of_mem hx
    rw [List.length_cons]
    omega
end DN

end
section
set_option Elab.async false
set_option linter.all false
set_option maxRecDepth 100000
set_option maxHeartbeats 4000000
/-! E34: slices of lists. -/
namespace DN
open PySem
section
variable {L : List MO} {E : EX} {Q : D → List MO → Prop}
theorem sIx_nn {n d : Nat} {k : Int} (h : 0 ≤ k) : HT.sIx n d (some k) = min k.toNat n := by
  show (if k < 0 then (k + (n : Int)).toNat else min k.toNat n) = _
  rw [if_neg (by omega)]
theorem cutL_to {α : Type} {xs : List α} {j : Int} (h : 0 ≤ j) : cutL xs none (some j) = xs.take j.toNat := by
  unfold cutL
  rw [sIx_nn h]
  show (xs.drop 0).take (min j.toNat xs.length - 0) = _
  rw [List.drop_zero, Nat.sub_zero, List.take_eq_take_iff]
  omega
theorem cutL_from {α : Type} {xs : List α} {i : Int} (h : 0 ≤ i) : cutL xs (some i) none = xs.drop i.toNat := by
  unfold cutL
  rw [sIx_nn h]
  show (xs.drop (min i.toNat xs.length)).take (xs.length - min i.toNat xs.length) = _
  by_cases c : i.toNat ≤ xs.length
  · rw [Nat.min_eq_left c, List.take_of_length_le (by rw [List.length_drop]; exact Nat.le_refl _)]
  · rw [Nat.min_eq_right (by omega), List.drop_length, List.drop_eq_nil_of_le (by omega)]
    simp
theorem wp_slTo {d : D} {xs : List P} {j : Int} (hd : LsAt L d xs) (h : 0 ≤ j) : wp (slD d none (some j)) L E Q = Q (.v (.lst (xs.take j.toNat))) L := by
  refine wp_of ?_
  rcases hd with rfl | ⟨n, rfl, hn⟩
  · simp [slD, asL, asM, cutL_to h]
  · simp [slD, asL, asM, hn, cutL_to h]
theorem wp_slToT {xs : List P} {j : Int} (h : 0 ≤ j) : wp (slD (.v (.tup xs)) none (some j)) L E Q = Q (.v (.tup (xs.take j.toNat))) L := by
  refine wp_of ?_
  simp [slD, cutL_to h]
theorem wp_slFrom {d : D} {xs : List P} {i : Int} (hd : LsAt L d xs) (h : 0 ≤ i) : wp (slD d (some i) none) L E Q = Q (.v (.lst (xs.drop i.toNat))) L := by
  refine wp_of ?_
  rcases hd with rfl | ⟨n, rfl, hn⟩
  · simp [slD, asL, asM, cutL_from h]
  · simp [slD, asL, asM, hn, cutL_from h]
end
end DN

end
section
set_option Elab.async false
set_option linter.all false
set_option maxRecDepth 100000
set_option maxHeartbeats 4000000
/-! E35: for x in o, o of an own class whose __iter__ gives the iterator of a field. -/
namespace DN
open PySem PySem.Spec PyProof.Rows L2
/-! ### a tuple's iterator -/
abbrev ittO (l : Addr) (i : Nat) : Obj := { cls := .type "tuple_iterator", data := .fields #[.ref l, .int i 0] }
def ItT (l it : Addr) (i : Nat) : HO := .ext fun h => h.get? it = some (ittO l i)
theorem itT_ok {P : Program} {w : World} {H : Hp} {h : Heap} {l it : Addr} {i : Nat} (e : h.get? it = some (ittO l i)) : ObjOk P w H h it (ItT l it i) := ⟨e, ⟨_, e⟩, fun h1 h2 q k => k _ q⟩
theorem itT_get {X : Cx} {pins : List (Addr × Obj)} {σ : L2.St} {H : Hp} {s : Shared} {l it : Addr} {i : Nat} (I : Inv X pins σ H s) (e : H it = some (ItT l it i)) : s.heap.get? it = some (ittO l i) := (I.hok it _ e).1
theorem call_iterT {prog : Program} {w : World} {A : Around} {E : Value → Shared → Prop} {s : Shared} {l : Addr} {items : Array Value} {Q : Value → Shared → Prop} (hl : s.heap.IsTuple l items) (h : Q (.ref s.heap.objs.size) { s with heap := s.heap.push (ittO l 0) }) : wpAny (model prog w) A (call (.builtin "iter") [.ref l]) Q E s := by
  refine Calls.call_function_entry (by decide +kernel) (by decide +kernel) PySem.W.kdk_entry_iter (PySem.W.kdk_args_iter _) ?_
  unfold Builtin.«iter»
  refine wpAny_bind (m := someArgs "iter" 1 2 _) (wpAny_of_eq (a := [Value.ref l]) (by first | rfl | kernel_rfl!) ?_)
  show wpAny _ _ (pyIter (.ref l) >>= _) _ _ _
  refine wpAny_bind (wpAny_pyIter_tuple hl ?_)
  exact wpAny_pure ⟨_, rfl, h⟩
/-- iter(x), x a list or a tuple -/
def rIterS (K : PySem.W.Frag) (n : Nat) : List V → Hp → VK → Prop := fun xs H Q => ∃ l, xs = [.ref l] ∧ (((∃ zs, SqL K H l zs) ∧ ∀ it, H it = none → n ≤ it → Q (.ref it) (upd H it (ItO l it 0))) ∨ ((∃ zs, SqT K H l zs) ∧ ∀ it, H it = none → n ≤ it → Q (.ref it) (upd H it (ItT l it 0))))
theorem call_iterS {X : Cx} : CallR X (.builtin "iter") (rIterS X.K X.s_0.heap.objs.size) := by
  intro pins s σ H xs us Q I r h
  obtain ⟨l, rfl, h⟩ := h
  obtain ⟨u, rfl, ru⟩ := vals1 r
  cases ru
  rcases h with ⟨⟨zs, hq⟩, q⟩ | ⟨⟨zs, hq⟩, q⟩
  · obtain ⟨its, rv, pl, hz⟩ := I.list hq
    refine GNX.call_iter pl.isList ?_
    exact ⟨.ref s.heap.objs.size, _, I.laid (t' := s.toks) (fun b u e => Heap.get?_push_of_some _ e) (Nat.le_refl _) (itO_ok (Heap.get?_push_size _ rfl)), rfl, q _ (I.hok.fresh (Nat.le_refl _)) I.sz⟩
  · obtain ⟨its, rv, p, hz⟩ := I.tuple hq
    refine call_iterT (show s.heap.IsTuple l its.toArray from p) ?_
    exact ⟨.ref s.heap.objs.size, _, I.laid (t' := s.toks) (fun b u e => Heap.get?_push_of_some _ e) (Nat.le_refl _) (itT_ok (Heap.get?_push_size _ rfl)), rfl, q _ (I.hok.fresh (Nat.le_refl _)) I.sz⟩
/-- what __iter__ promises: the iterator of the field, younger than n -/
def spIt (K : PySem.W.Frag) (f : Str) (n : Nat) (vs : List V) (H : Hp) (Q : VK) : Prop := ∃ a C dx fs v, vs = [.ref a] ∧ H a = some (.ins C dx fs) ∧ Cls K C ∧ NoAttr K C f ∧ fs.lookup f = some v ∧ rIterS K n [v] H Q
structure FnIt (P0 : Program) (w : World) (K : PySem.W.Frag) (mg : Str → Option Value) (base : Heap) (k : Nat) (f : Addr) (fd : FuncData) (ps : List Str) (nm : Str) : Prop where
  one : ps.length = 1
  run : ∀ (A : Around) (outer : List Env) (s : Shared) (H : Hp) (us : List Value) (vs : List V) (Q : VK), Room k A → Env0 P0 w K mg base A outer s H → BindsTo s fd ⟨us, []⟩ (ps.zip us) → Vals vs us → spIt K nm s.heap.objs.size vs H Q →
    codeAny (model P0 w) A (.call (.ref f) ⟨us, []⟩) (CR (L2.CX P0 w) outer P0 w H s Q fun _ _ _ => False) s
/-- a class whose __iter__ is `return iter(self.field)` -/
structure ItOk (P0 : Program) (w : World) (K : PySem.W.Frag) (mg : Str → Option Value) (base : Heap) (g : G) (k c i : Nat) : Prop where
  ex : ∃ (fad : Addr) (fd : FuncData) (ps : List Str), PySem.W.findIn K (.ref (g.cl c)) "__iter__" = some (some (.ref fad)) ∧ PySem.W.isFn K (.ref fad) = true ∧ FnIt P0 w K mg base k fad fd ps (nmT i) ∧ Binds K fd ps []
section
variable {P0 : Program} {w : World} {K : PySem.W.Frag} {mg : Str → Option Value} {base : Heap} {g : G}
theorem itfn_ok {x qual nm : Str} {st : Stmt} {f : Addr} {fd : FuncData} {ps : List Str} {k : Nat} {p1 p2 p3 p4 p5 : Pos} (F : Fun K x qual st f fd) (S : FnScope ["self"] ps (defScope st)) (hn : ps.length = 1)
    (hbd : defBody st = [.Return (some (.Call (.Name "iter" p1) [.Attribute (.Name "self" p2) nm p3] [] p4)) p5])
    (hb : ∀ (cdv : Value) (A : Around) (outer : List Env) (s0 : Shared) (H : Hp) (E : XK), Gl (cxOf (L2.CX P0 w) P0 w K mg base ["self"] qual (defScope st) f cdv A outer s0 H E) "iter" ∧ mg "iter" = none ∧ Vis (cxOf (L2.CX P0 w) P0 w K mg base ["self"] qual (defScope st) f cdv A outer s0 H E).env.scope "self") :
    FnIt P0 w K mg base (k + 1) f fd ps nm := by
  obtain ⟨oc, od, kV, doc, pm, an, cdv, ct, osl, rfl, lk, hcd⟩ := F.ex
  refine ⟨hn, fun A outer s H us vs Q room env0 bnd rv hsp => ?_⟩
  obtain ⟨a, C, dx, fs, v, rfl, h1, h2, h3, h4, h5⟩ := hsp
  have nu : us.length = 1 := by rw [← rv.length]; rfl
  have inK : K.In s.heap := env0.mod.kin.keeps fun b o q => (env0.bs b o q).1
  have noLim : s.heap.NoLimit := env0.mod.nolimit.keeps fun b o q => (env0.bs b o q).1
  have kinds : ∀ z ∈ ps.zip us, (defScope st).names.lookup z.1 = some .local ∨ ((defScope st).names.lookup z.1 = some .cell ∧ ((cellsFrom (s.heap.objs.size + 1) (defScope st).names []).lookup z.1).isSome = true) := fun ⟨nz, vz⟩ hz => by
    rcases S.par nz (List.of_mem_zip hz).1 with q | q
    · exact .inl q
    · exact .inr ⟨q, PySem.W.cellsFrom_some _ _ _ (.inl q)⟩
  refine codeAny_call_function room.depth (inK _ _ lk) rfl S.co S.gen rfl (PySem.W.codeRec_of inK hcd) (bnd _ _ _ _ ?_)
  refine wpAny_newFunctionEnv_cells S.kind kinds fun envv hev sn xn => ?_
  subst hev
  refine ⟨noLim.keeps xn.toInCall.keep, codeAny_func ?_⟩
  obtain ⟨b1, b2, b3⟩ := hb cdv A outer s H fun _ _ _ => False
  have body := pss_one (ps_ret (pos := p5) (pe_callB (pos := p4) (p := p1) call_iterS b1 b2 (by rfl) (pa_cons (pe_fld (pos := p3) (f := nm) (pe_var (pos := p2) (i := 0) rfl b3) rfl) pa_nil)))
  have I : Inv (cxOf (L2.CX P0 w) P0 w K mg base ["self"] qual (defScope st) f cdv A outer s H fun _ _ _ => False) [] (L2.start ["self"] [.ref a]) H sn := inv_start S room.hd env0 (by rw [hn]; rfl) rv xn
  rw [hbd]
  refine wpAny_mono (body.run [] sn (L2.start ["self"] [.ref a]) H { nx := fun _ H' => Q .non H', rt := Q } I ⟨.ref a, rfl, a, C, dx, fs, v, rfl, h1, h2, h3, h4, h5⟩) (fun fl s' hs => ?_) fun _ _ hs => hs
  cases fl with
  | ret u =>
    obtain ⟨v, σ', H', J, rv2, q⟩ := hs
    exact ⟨v, H', J.os, J.bare, J.base, J.hok, rv2, q⟩
  | next =>
    obtain ⟨σ', H', J, q⟩ := hs
    exact ⟨V.non, H', J.os, J.bare, J.base, J.hok, rfl, q⟩
  | brk => exact hs.choose_spec.choose_spec.2.elim
  | cont => exact hs.choose_spec.choose_spec.2.elim
end
/-! ### the loop -/
theorem itm_sq {g : G} {F : Hp} {ρ : Nat → Addr} {L : List MO} {H : Hp} {x : V} {d : D} {Wq : Value → Option Addr → Hp → Prop} {Q : It → Hp → Prop} (hR : R g F ρ L H) (hx : IsD g F ρ L.length x d) (h2 : ∀ z, d ≠ .v (.str z)) (hp : Post g (relI g) F ρ L.length Wq Q (itmD d L)) :
    ∃ a, x = .ref a ∧ (((∃ xs, SqL g.K H a xs) ∧ Q (Itl g.K a) H) ∨ ((∃ xs, SqT g.K H a xs) ∧ Q (Itt g.K a) H)) := by
  by_cases h1 : ∃ xs, d = .v (.tup xs)
  · obtain ⟨xs, rfl⟩ := h1
    obtain ⟨a, e, q1, q2⟩ := itm_tup hR hx hp
    exact ⟨a, e, .inr ⟨q1, q2⟩⟩
  · obtain ⟨a, e, q1, q2⟩ := itm_list hR hx (fun xs z => h1 ⟨xs, z⟩) h2 hp
    exact ⟨a, e, .inl ⟨q1, q2⟩⟩
/-- not of a text -/
def itmQ (d : D) : M Itm := fun L => match d with
  | .v (.str _) => none
  | d => itmD d L
def ownM (tab : Nat → Option Nat) (d : D) : M Itm := fun L => match (clsOf L d).bind tab with
  | some i => M.bnd (attD i d) itmQ L
  | none => itmD d L
def ownI (tab : Nat → Option Nat) (f : Tau → M D) (τ : Tau) : M Itm := f τ >>= ownM tab
section
variable {X : Cx} {g : G} {W : WX} {e tg : Expr} {f : Tau → M D} {te : TE} {p pos : Pos} {k : Nat}
theorem turn_itT {P : Program} {w : World} {K : PySem.W.Frag} {tg : Expr} (a it : Addr) : Turn P w K tg (Itt K a) [it] it (fun i h => h.IsTupleIter it a i) := turn_tuple a it
def iOwn (g : G) (tab : Nat → Option Nat) (te : TE) : TI := fun σ H R' => te σ H fun x H1 => ∃ a dx fs c i y l, x = .ref a ∧ H1 a = some (.ins (g.cl c) dx fs) ∧ tab c = some i ∧ Cls g.K (g.cl c) ∧ NoAttr g.K (g.cl c) (nmT i) ∧ fs.lookup (nmT i) = some y ∧ y = .ref l ∧
  (((∃ zs, SqL g.K H1 l zs) ∧ R' (Itl g.K l) H1) ∨ ((∃ zs, SqT g.K H1 l zs) ∧ R' (Itt g.K l) H1))
theorem special_next_list {M : Model} {A : Around} {s : Shared} {it l : Addr} {i : Nat} {Q : Value → Shared → Prop} {E : Value → Shared → Prop} (h : s.heap.get? it = some (GNX.itObj l i)) (q : Q (.ref it) s) : PySem.W.OwitIt M A Q E (.ref it) s := by
  unfold PySem.W.OwitIt
  exact wpAny_specialOf (T := "list_iterator") (r := some (.builtin "list_iterator.__next__")) ⟨_, h, rfl⟩ (by rw [typeLookup_type, builtinLookup_eq_fast]; kernel_rfl) q
theorem special_next_tup {M : Model} {A : Around} {s : Shared} {it l : Addr} {i : Nat} {Q : Value → Shared → Prop} {E : Value → Shared → Prop} (h : s.heap.get? it = some (ittO l i)) (q : Q (.ref it) s) : PySem.W.OwitIt M A Q E (.ref it) s := by
  unfold PySem.W.OwitIt
  exact wpAny_specialOf (T := "tuple_iterator") (r := some (.builtin "tuple_iterator.__next__")) ⟨_, h, rfl⟩ (by rw [typeLookup_type, builtinLookup_eq_fast]; kernel_rfl) q
theorem pi_own {tab : Nat → Option Nat} (hK : X.K = g.K) (MT : ∀ c i, tab c = some i → ItOk X.prog X.w X.K X.mg X.base g k c i) (hr : Room k X.A) (he : PE X e te) : PI X tg e (iOwn g tab te) := by
  refine ⟨fun pins s σ H R' I h => ?_⟩
  refine thn (he.run pins s σ H _ I h) fun u s1 ⟨x, H1, I1, rx, a, dx, fs, c, i, y, l, ex, ea, et, k1, k2, k3, ey, q⟩ => ?_
  subst ex
  subst ey
  obtain rfl : u = Value.ref a := rx
  obtain ⟨fad, fd, ps, m1, m2, FO, hb⟩ := (MT c i et).ex
  obtain ⟨mA, O, _⟩ := ins_get I1.hok ea
  obtain ⟨od, J, _⟩ := O.look
  obtain ⟨m, fr⟩ := I1.fr
  refine PySem.W.owit_iter fr I1.ok.mod.kin J m1 m2 ?_
  rw [← hK] at k1 k2 q
  have sp : spIt X.K (nmT i) s1.heap.objs.size [.ref a] H1 (fun v H2 => ∃ it, v = .ref it ∧ H1 it = none ∧ s1.heap.objs.size ≤ it ∧ ((H2 = upd H1 it (ItO l it 0) ∧ (∃ zs, SqL X.K H1 l zs) ∧ R' (Itl X.K l) H1) ∨ (H2 = upd H1 it (ItT l it 0) ∧ (∃ zs, SqT X.K H1 l zs) ∧ R' (Itt X.K l) H1))) := by
    refine ⟨a, _, dx, fs, _, rfl, ea, k1, k2, k3, l, rfl, ?_⟩
    rcases q with ⟨q1, q2⟩ | ⟨q1, q2⟩
    · exact .inl ⟨q1, fun it hi hn => ⟨it, rfl, hi, hn, .inl ⟨rfl, q1, q2⟩⟩⟩
    · exact .inr ⟨q1, fun it hi hn => ⟨it, rfl, hi, hn, .inr ⟨rfl, q1, q2⟩⟩⟩
  have b := hb s1 [.ref a] I1.kIn (by simpa using FO.one.symm)
  have b : BindsTo s1 fd ⟨[.ref a], []⟩ (ps.zip [.ref a]) := by simpa using b
  refine wpAny_call (codeAny_mono (FO.run X.A X.stack s1 H1 [.ref a] [.ref a] _ hr I1.env0 b (.cons rfl .nil) sp) fun z s' hz => ?_)
  match z, hz with
  | .error er, hz =>
    obtain ⟨_, _, _, _, _, _, _, _, _, _, _, _, hE⟩ := hz
    exact hE.elim
  | .ok .next, hz => exact False.elim hz
  | .ok .brk, hz => exact False.elim hz
  | .ok .cont, hz => exact False.elim hz
  | .ok (.ret u), hz =>
    obtain ⟨v, H', os, bare, un, hok, r, it, rfl, hi, hn, q⟩ := hz
    obtain ⟨v2, H2, I2, r2, rfl, rfl⟩ := I1.after (Q := fun v' H'' => v' = .ref it ∧ H'' = H') (u := u) (s' := s') ⟨.ref it, H', os, bare, un, hok, r, rfl, rfl⟩
    obtain rfl : u = Value.ref it := r
    have fresh : X.s_0.heap.objs.size ≤ it := Nat.le_trans I1.sz hn
    rcases q with ⟨eH, q1, q2⟩ | ⟨eH, q1, q2⟩
    · have hit : H2 it = some (ItO l it 0) := by rw [eH, upd_same]
      have g1 := itO_get I2 hit
      refine special_next_list g1 ?_
      have fp := ItX.inv_fp I2 hit fresh
      have I3 := ItX.inv_drop I2 (show H2 it = some (.ext _) from hit)
      have eD : ItX.dropH H2 it = H1 := by rw [eH]; exact ItX.dropH_upd hi
      rw [eD] at fp I3
      refine ⟨it, [it], _, _, H1, rfl, I3, turn_list l it, ⟨_, g1, rfl, rfl⟩, fun b hb => ?_, q2⟩
      rw [List.mem_singleton.mp hb]
      exact fp
    · have hit : H2 it = some (ItT l it 0) := by rw [eH, upd_same]
      have g1 := itT_get I2 hit
      refine special_next_tup g1 ?_
      have fp := ItX.inv_fp I2 hit fresh
      have I3 := ItX.inv_drop I2 (show H2 it = some (.ext _) from hit)
      have eD : ItX.dropH H2 it = H1 := by rw [eH]; exact ItX.dropH_upd hi
      rw [eD] at fp I3
      refine ⟨it, [it], _, _, H1, rfl, I3, turn_tuple l it, ⟨_, g1, rfl, rfl⟩, fun b hb => ?_, q2⟩
      rw [List.mem_singleton.mp hb]
      exact fp
theorem di_own {tab : Nat → Option Nat} (hK : X.K = g.K) (MT : ∀ c i, tab c = some i → ItOk X.prog X.w X.K X.mg X.base g k c i) (hr : Room k X.A) (he : PE X e (tE g W f)) : PI X tg e (tI g W (ownI tab f)) := by
  refine PI.weak (PI.or (di_seq hK he) (pi_own hK MT hr he)) fun σ H Q h => ?_
  obtain ⟨F, ρ, τ, L, hR, hS, hc, hp⟩ := h
  have hp' : Post g (relI g) F ρ L.length (fun c d H' => W c d σ H') Q (M.bnd (f τ) (ownM tab) L) := hp
  unfold M.bnd at hp'
  match e : f τ L with
  | none => rw [e] at hp'; exact False.elim hp'
  | some (.ex c fs, L1) =>
    rw [e] at hp'
    refine .inl ⟨F, ρ, τ, L, hR, hS, hc, ?_⟩
    show Post g (relI g) F ρ L.length _ Q (M.bnd (f τ) itmD L)
    unfold M.bnd
    rw [e]
    exact hp'
  | some (.ok d, L1) =>
    rw [e] at hp'
    dsimp only at hp'
    unfold ownM at hp'
    match e1 : (clsOf L1 d).bind tab with
    | none =>
      rw [e1] at hp'
      refine .inl ⟨F, ρ, τ, L, hR, hS, hc, ?_⟩
      show Post g (relI g) F ρ L.length _ Q (M.bnd (f τ) itmD L)
      unfold M.bnd
      rw [e]
      exact hp'
    | some i =>
      rw [e1] at hp'
      refine .inr ⟨F, ρ, τ, L, hR, hS, hc, ?_⟩
      rw [e]
      intro F1 ρ1 x H1 x1 hR1 hx
      obtain ⟨c, e2, e3⟩ := Option.bind_eq_some_iff.mp e1
      obtain ⟨ad, dx, fl, ex, ea, cf, _⟩ := clsOf_at hR1 hx e2
      have hp1 : Post g (relI g) F1 ρ1 L1.length (fun c d H' => W c d σ H') Q (M.bnd (attD i d) itmQ L1) := by
        refine Post.ext x1 ?_
        exact hp'
      have hA : Post g (relV g) F1 ρ1 L1.length (fun c d H' => W c d σ H') (fun y H' => ∃ l, y = .ref l ∧ (((∃ zs, SqL g.K H' l zs) ∧ Q (Itl g.K l) H') ∨ ((∃ zs, SqT g.K H' l zs) ∧ Q (Itt g.K l) H'))) (attD i d L1) := by
        unfold M.bnd at hp1
        match e4 : attD i d L1 with
        | none => rw [e4] at hp1; exact hp1
        | some (.ex c fs, L2) => rw [e4] at hp1; exact hp1
        | some (.ok d2, L2) =>
          rw [e4] at hp1
          intro F2 ρ2 y H2 x2 hR2 hy
          have ns : ∀ z, d2 ≠ .v (.str z) := fun z ez => by
            rw [ez] at hp1
            exact hp1
          have eq : itmQ d2 L2 = itmD d2 L2 := by
            unfold itmQ
            split
            · exact absurd rfl (ns _)
            · rfl
          have hp1 : Post g (relI g) F1 ρ1 L1.length (fun c d H' => W c d σ H') Q (itmD d2 L2) := by rw [← eq]; exact hp1
          exact itm_sq hR2 hy ns (hp1.ext x2)
      obtain ⟨a2, C2, dx2, fs2, v2, ex2, ea2, c2, n2, l2, l, ev, q⟩ := att_ok hR1 hx hA
      rw [ex] at ex2
      injection ex2 with ex2
      subst ex2
      rw [ea] at ea2
      injection ea2 with ea2
      injection ea2 with eC edx efs
      subst eC
      subst efs
      exact ⟨ad, dx, fl, c, i, v2, l, ex, ea, e3, c2, n2, l2, ev, q⟩
end
section
variable {L : List MO} {E : EX} {τ : Tau} {f : Tau → M D} {QI : Itm → List MO → Prop}
theorem wp_ownI {tab : Nat → Option Nat} : wp (ownI tab f τ) L E QI = wp (f τ) L E fun d L1 => wp (ownM tab d) L1 E QI := wp_bind
theorem wp_own {tab : Nat → Option Nat} {d : D} {i : Nat} (h : (clsOf L d).bind tab = some i) : wp (ownM tab d) L E QI = wp (attD i d) L E fun e L1 => wp (itmQ e) L1 E QI := by
  rw [← wp_bnd]
  unfold wp ownM
  rw [h]
theorem wp_ownN {tab : Nat → Option Nat} {d : D} (h : (clsOf L d).bind tab = none) : wp (ownM tab d) L E QI = wp (itmD d) L E QI := by
  unfold wp ownM
  rw [h]
theorem wp_itmQ_tup {xs : List P} : wp (itmQ (.v (.tup xs))) L E QI = QI (xs, fun _ => True) L := rfl
theorem wp_itmQ_ls {d : D} {xs : List P} (h : LsAt L d xs) : wp (itmQ d) L E QI = wp (itmD d) L E QI := by
  rcases h with rfl | ⟨n, rfl, h2⟩ <;> rfl
end
end DN

end
section
set_option Elab.async false
set_option linter.all false
set_option maxRecDepth 100000
set_option maxHeartbeats 4000000
/-! E36: set comprehensions with two generators and pure turns; kinds and catalogs as data. -/
namespace DN
open PySem
section
variable {α : Type} [DecidableEq α]
theorem dedA_app (xs ys : List α) : dedA (xs ++ ys) = ys.foldl addA (dedA xs) := by
  unfold dedA
  rw [List.foldl_append]
theorem addA_len {acc : List α} {x : α} : acc.length ≤ (addA acc x).length ∧ (addA acc x).length ≤ acc.length + 1 := by
  unfold addA
  split
  · omega
  · simp
theorem foldA_len : ∀ {ys acc : List α}, acc.length ≤ (ys.foldl addA acc).length
  | [], acc => Nat.le_refl _
  | y :: ys, acc => by
    rw [List.foldl_cons]
    exact Nat.le_trans addA_len.1 foldA_len
theorem dedA_pre (xs ys : List α) : (dedA xs).length ≤ (dedA (xs ++ ys)).length := by
  rw [dedA_app]
  exact foldA_len
end
section
variable {L : List MO} {E : EX} {τ : Tau} {Q : D → List MO → Prop}
theorem wp_scM2 {α β γ : Type} [DecidableEq γ] (f : α → P) (ys : List α) (f1 : β → P) (ys1 : α → List β) (G : α → β → Option γ) (Gp : γ → P) {okA : γ → Prop} (hS : SetOk Gp okA) (hA : ∀ a ∈ ys, ∀ b ∈ ys1 a, ∀ c, G a b = some c → okA c)
    {tg tg1 : TgD} {tt tt1 : Tau → M Bool} {src1 : Tau → M Itm} {vs1 : List Nat} {fe : Tau → M D} {ok : List MO → Prop} (hok : ∀ acc, ok (L ++ [.set acc]))
    (hz : (dedA (ys.flatMap fun a => (ys1 a).filterMap (G a))).length < 63)
    (hs : ∀ a ∈ ys, ∀ acc : List P, ∃ τ1, tg (f a) τ = some τ1 ∧ wp (tt τ1) (L ++ [.set acc]) noE fun t L1 => L1 = L ++ [.set acc] ∧ t = true ∧
      wp (src1 τ1) (L ++ [.set acc]) noE fun it1 L2 => L2 = L ++ [.set acc] ∧ it1.1 = (ys1 a).map f1 ∧ (∀ acc, it1.2 (L ++ [.set acc])) ∧ ∀ b ∈ ys1 a, ∀ acc : List P, ∃ τ2, tg1 (f1 b) (killT vs1 τ1) = some τ2 ∧ wp (tt1 τ2) (L ++ [.set acc]) noE fun t L3 => L3 = L ++ [.set acc] ∧
        if t = true then wp (fe τ2) (L ++ [.set acc]) noE fun d L4 => L4 = L ++ [.set acc] ∧ ∃ q, d = .v (Gp q) ∧ G a b = some q else G a b = none)
    (h : Q (.r L.length) (L ++ [.set ((dedA (ys.flatMap fun a => (ys1 a).filterMap (G a))).map Gp)])) : wp (scE2 tg tt src1 vs1 tg1 tt1 fe τ (ys.map f, ok)) L E Q := by
  have okd : ∀ (xs : List γ), (∀ c ∈ xs, okA c) → ∀ c ∈ dedA xs, okA c := fun xs h c hc => h c ((dedA_mem xs).mp hc)
  have okw : ∀ (zs : List α), (∀ a ∈ zs, a ∈ ys) → ∀ c ∈ zs.flatMap fun a => (ys1 a).filterMap (G a), okA c := fun zs hzs c hc => by
    obtain ⟨a, ha, hc⟩ := List.mem_flatMap.mp hc
    obtain ⟨b, hb, e⟩ := List.mem_filterMap.mp hc
    exact hA a (hzs a ha) b hb c e
  obtain ⟨L', e, hj⟩ := foG_J (ok := ok) (turn := tnG tg tt (inG src1 vs1 tg1 tt1 (elG (addSG L.length) fe)) τ) (fun i L' => L' = L ++ [.set ((dedA ((ys.take i).flatMap fun a => (ys1 a).filterMap (G a))).map Gp)]) (fun i L' e => by rw [e]; exact hok _) (ys.map f) 0 (L ++ [.set []]) (by simp [dedA]) (by
    rintro i p L' hp hj
    simp only [Nat.zero_add] at hj ⊢
    subst hj
    rw [List.getElem?_map] at hp
    cases ey : ys[i]? with
    | none => rw [ey] at hp; cases hp
    | some a =>
    rw [ey] at hp
    cases hp
    have ha := List.mem_of_getElem? ey
    have tk : ((ys.take (i + 1)).flatMap fun a => (ys1 a).filterMap (G a)) = ((ys.take i).flatMap fun a => (ys1 a).filterMap (G a)) ++ (ys1 a).filterMap (G a) := by
      rw [List.take_succ, ey, Option.toList_some, List.flatMap_append]
      simp
    have hacc := okw (ys.take i) fun a ha => List.mem_of_mem_take ha
    have szi : (dedA (((ys.take i).flatMap fun a => (ys1 a).filterMap (G a)) ++ (ys1 a).filterMap (G a))).length < 63 := by
      rw [← tk]
      refine Nat.lt_of_le_of_lt ?_ hz
      have : (ys.flatMap fun a => (ys1 a).filterMap (G a)) = ((ys.take (i + 1)).flatMap fun a => (ys1 a).filterMap (G a)) ++ ((ys.drop (i + 1)).flatMap fun a => (ys1 a).filterMap (G a)) := by rw [← List.flatMap_append, List.take_append_drop]
      rw [this]
      exact dedA_pre _ _
    rw [tk]
    generalize ((ys.take i).flatMap fun a => (ys1 a).filterMap (G a)) = acc at szi hacc ⊢
    refine tnG_of ?_
    obtain ⟨τ1, e1, w⟩ := hs a ha ((dedA acc).map Gp)
    refine ⟨τ1, e1, ?_⟩
    obtain ⟨t, L1, e2, rfl, rfl, w⟩ := wp_out w
    rw [wp_of e2, if_pos rfl]
    refine inG_of ?_
    obtain ⟨it1, L2, e3, rfl, hx, ok1, w⟩ := wp_out w
    rw [wp_of e3]
    obtain ⟨xs1, k1⟩ := it1
    dsimp only at ok1 hx w ⊢
    subst hx
    obtain ⟨L', e4, hj4⟩ := foG_J (ok := k1) (turn := tnG tg1 tt1 (elG (addSG L.length) fe) (killT vs1 τ1)) (fun j L' => L' = L ++ [.set ((dedA (acc ++ ((ys1 a).take j).filterMap (G a))).map Gp)]) (fun i L' e => by rw [e]; exact ok1 _) ((ys1 a).map f1) 0 (L ++ [.set ((dedA acc).map Gp)]) (by simp) (by
      rintro j p1 L' hp1 hj
      simp only [Nat.zero_add] at hj ⊢
      subst hj
      rw [List.getElem?_map] at hp1
      cases eb : (ys1 a)[j]? with
      | none => rw [eb] at hp1; cases hp1
      | some b =>
      rw [eb] at hp1
      cases hp1
      have hb := List.mem_of_getElem? eb
      obtain ⟨τ2, e5, w⟩ := w b hb ((dedA (acc ++ ((ys1 a).take j).filterMap (G a))).map Gp)
      refine tnG_of ⟨τ2, e5, ?_⟩
      obtain ⟨t, L3, e6, rfl, w⟩ := wp_out w
      rw [wp_of e6]
      have tk1 : ((ys1 a).take (j + 1)).filterMap (G a) = ((ys1 a).take j).filterMap (G a) ++ (G a b).toList := by
        rw [List.take_succ, eb, Option.toList_some, List.filterMap_append]
        cases e9 : G a b <;> simp [List.filterMap_cons, e9]
      have hac2 : ∀ c ∈ acc ++ ((ys1 a).take j).filterMap (G a), okA c := fun c hc => by
        rcases List.mem_append.mp hc with z | z
        · exact hacc c z
        · obtain ⟨b, hb, e⟩ := List.mem_filterMap.mp z
          exact hA a ha b (List.mem_of_mem_take hb) c e
      have szj : (dedA (acc ++ ((ys1 a).take j).filterMap (G a))).length < 63 := by
        refine Nat.lt_of_le_of_lt ?_ szi
        have : (ys1 a).filterMap (G a) = ((ys1 a).take j).filterMap (G a) ++ ((ys1 a).drop j).filterMap (G a) := by rw [← List.filterMap_append, List.take_append_drop]
        rw [this, ← List.append_assoc]
        exact dedA_pre _ _
      rw [tk1, ← List.append_assoc]
      cases t with
      | false =>
        rw [if_neg Bool.false_ne_true] at w ⊢
        rw [w]
        simp
      | true =>
        rw [if_pos rfl] at w ⊢
        refine elG_of ?_
        obtain ⟨d, L4, e7, rfl, q, rfl, e8⟩ := wp_out w
        rw [wp_of e7]
        obtain ⟨a1, a2⟩ := hS.add (okd _ hac2) (hA a ha b hb q e8) (by omega)
        refine ⟨Gp q, _, rfl, addSG_of a1, ?_⟩
        rw [a2, e8, Option.toList_some, dedA_app _ [q]]
        rfl)
    refine ⟨L', e4, ?_⟩
    rw [Nat.zero_add, List.length_map, List.take_length] at hj4
    exact hj4)
  rw [Nat.zero_add, List.length_map, List.take_length] at hj
  subst hj
  have : scE2 tg tt src1 vs1 tg1 tt1 fe τ (ys.map f, ok) L = some (.ok (.r L.length), L ++ [.set ((dedA (ys.flatMap fun a => (ys1 a).filterMap (G a))).map Gp)]) := by
    unfold scE2
    dsimp only
    rw [e]
    rfl
  rw [wp_of this]
  exact h
end
theorem set_str : SetOk P.str fun _ => True where
  key a _ := ⟨_, by simp [nkOf]; rfl, by simp [NestedKey.depth]⟩
  inj a b _ _ h := by simpa [nkOf] using h
  kind := .inr fun _ _ => rfl
theorem dat_up {k : Nat} : ∀ {p : P}, dat k p = true → dat (k + 1) p = true := by
  induction k with
  | zero => intro p h; cases p <;> simp [dat] at h <;> simp [dat, h]
  | succ k ih =>
    intro p h
    have key : ∀ xs : List P, dats k xs = true → dats (k + 1) xs = true := fun xs h => dats_all.mpr fun x hx => ih (dats_all.mp h x hx)
    cases p <;> simp [dat] at h <;> simp [dat] <;> first | exact h | exact key _ h
/-! ### kinds and catalogs -/
structure Ki where
  n : Str
  rs : List Ro
def Ki.ok (k : Ki) : Prop := Nm k.n ∧ (∀ r ∈ k.rs, r.ok) ∧ k.rs.length ≤ 6 ∧ ¬ KBad k.rs
def Ki.p (k : Ki) : P := kP k.n k.rs
/-- as the law writes it -/
def Ki.t (k : Ki) : P := .tup [.str k.n, .lst (k.rs.map Ro.t)]
/-- name, group and mark of each role -/
def Ki.q (k : Ki) : P := .tup [.str k.n, .lst (k.rs.map mkP)]
def katP (ks : List Ki) : P := .ins 7 [.tup (ks.map Ki.p)]
theorem ki_nd {k : Ki} (h : k.ok) : (k.rs.map Ro.n).Nodup := Classical.byContradiction fun z => h.2.2.2 (.inr (.inr (.inl z)))
section
variable {L : List MO} {E : EX} {Q : D → List MO → Prop}
theorem cls_kat (ks : List Ki) : clsOf L (.v (katP ks)) = some 7 := rfl
theorem wp_katK {ks : List Ki} : wp (attD 3 (.v (katP ks))) L E Q = Q (.v (.tup (ks.map Ki.p))) L := wp_attV rfl
theorem wp_kiN {k : Ki} : wp (attD 0 (.v k.p)) L E Q = Q (.v (.str k.n)) L := wp_attV rfl
theorem wp_kiR {k : Ki} : wp (attD 2 (.v k.p)) L E Q = Q (.v (.tup (k.rs.map Ro.p))) L := wp_attV rfl
theorem cls_ki (k : Ki) : clsOf L (.v k.p) = some 6 := rfl
end
theorem dat_kt {k : Ki} (h : k.ok) : dat 19 k.t = true := by
  simp only [Ki.t, dat, dats, Bool.and_true, Bool.and_eq_true]
  refine ⟨nm_low h.1, ?_⟩
  rw [dats_all]
  intro x hx
  obtain ⟨r, hr, rfl⟩ := List.mem_map.mp hx
  obtain ⟨a, b, c⟩ := h.2.1 r hr
  simp [Ro.t, dat, dats, nm_low a, nm_low b]
theorem dat_kq {k : Ki} (h : k.ok) : dat 19 k.q = true := by
  simp only [Ki.q, dat, dats, Bool.and_true, Bool.and_eq_true]
  refine ⟨nm_low h.1, ?_⟩
  rw [dats_all]
  intro x hx
  obtain ⟨r, hr, rfl⟩ := List.mem_map.mp hx
  obtain ⟨a, b, c⟩ := h.2.1 r hr
  simp [mkP, dat, dats, nm_low a, nm_low b, mrk_ok]
/-- the groups of all roles, of the roles that make -/
def grA (ks : List Ki) : List Str := ks.flatMap fun k => k.rs.map Ro.g
def grM (ks : List Ki) : List Str := ks.flatMap fun k => k.rs.filterMap fun r => if 0 < r.m then some r.g else none
/-- the first kind of that name -/
def kiOf (ks : List Ki) (x : Str) : Option Ki := ks.find? fun k => decide (k.n = x)
end DN

end
section
set_option Elab.async false
set_option linter.all false
set_option maxRecDepth 100000
set_option maxHeartbeats 8000000
/-! the text of the law by places -/
namespace LK03
open PySem PySem.Spec PyProof.Rows L2 He NdefX DN
abbrev PG : Program := PySem.Challenge.pw_redopages_k03_catalogs_and_their_groups
def top (i : Nat) : Stmt := PG.main.body.getD i (.Pass ⟨0, 0, 0, 0⟩)
abbrev s_q_sorted : Stmt := top 20
abbrev s_q_groups : Stmt := top 21
abbrev s_q_made_groups : Stmt := top 22
abbrev s_Role_makes : Stmt := inClass (top 11) 3
abbrev s_Made_makes : Stmt := inClass (top 13) 1
abbrev s_Fresh_makes : Stmt := inClass (top 14) 1
abbrev s_Catalog_made_groups : Stmt := inClass (top 18) 5
abbrev s_Catalog_groups : Stmt := inClass (top 18) 4
abbrev s_Catalog_named : Stmt := inClass (top 18) 3
abbrev s_q_unknown : Stmt := top 30
abbrev s_q_told : Stmt := top 31
abbrev s_Catalog_zlenz : Stmt := inClass (top 18) 2
abbrev s_q_plain : Stmt := top 33
abbrev s_q_is : Stmt := top 34
abbrev s_Catalog_zinitz : Stmt := inClass (top 18) 0
abbrev s_q_refusal : Stmt := top 29
abbrev s_q_due : Stmt := top 32
abbrev s_check_name : Stmt := top 10
abbrev s_Kind_zinitz : Stmt := inClass (top 17) 0
abbrev s_Role_zinitz : Stmt := inClass (top 11) 1
abbrev s_q_role : Stmt := top 27
abbrev s_q_kind : Stmt := top 28
abbrev s_q_draw : Stmt := top 23
abbrev s_q_pool : Stmt := top 26
abbrev s_q_word : Stmt := top 24
abbrev s_q_names : Stmt := top 25
abbrev s_law : Stmt := top 35
abbrev s_e21 : Stmt := inClass (top 3) 0
abbrev s_e22 : Stmt := inClass (top 4) 0
abbrev s_e23 : Stmt := inClass (top 5) 0
/-! what the defs compute -/
def ti_list : Tg → Option Bool
  | .non => some false
  | .bl => some false
  | .int => some false
  | .str => some false
  | .lst => some true
  | .tup => some false
  | .ins 0 => some false
  | .ins 1 => some false
  | .ins 2 => some false
  | .ins 3 => some false
  | .ins 4 => some false
  | .ins 5 => some false
  | .ins 6 => some false
  | .ins 7 => some false
  | .ins _ => none
def ti_tuple : Tg → Option Bool
  | .non => some false
  | .bl => some false
  | .int => some false
  | .str => some false
  | .lst => some false
  | .tup => some true
  | .ins 0 => some false
  | .ins 1 => some false
  | .ins 2 => some false
  | .ins 3 => some false
  | .ins 4 => some false
  | .ins 5 => some false
  | .ins 6 => some false
  | .ins 7 => some false
  | .ins _ => none
def tc_MARK : Nat → Option P
  | 0 => some (.str "")
  | 1 => some (.str "r")
  | 2 => some (.str "m")
  | 3 => some (.str "f")
  | 4 => some (.str "rm")
  | 5 => some (.str "rf")
  | _ => none
def tt_iter : Nat → Option Nat
  | 7 => some 3
  | _ => none
noncomputable def d_q_sorted : SX := (seqS (setS 1 (appA newD nilA)) (seqS (forS (seqI (varD 0)) (tgN 2) (trimS (killS [0, 3] (seqS (setS 3 (retD (.v (.int 0)))) (seqS (whileS (andB (tstD (bin ltD (varD 3) (appA lenD (consA (varD 1) nilA)))) (tstD (bin ltD (bin ixA (varD 1) (varD 3)) (varD 2)))) (trimS (setS 3 (bin addD (varD 3) (retD (.v (.int 1))))))) (ifS (orB (tstD (bin (eqD false) (varD 3) (appA lenD (consA (varD 1) nilA)))) (tstD (bin (eqD true) (bin ixA (varD 1) (varD 3)) (varD 2)))) (exprS (mthD tyL insertD (varD 1) (consA (varD 3) (consA (varD 2) nilA)))) nxS)))))) (killS [0, 2, 3] (retS (varD 1)))))
noncomputable def f_q_sorted : List D → M D := scopeF false (bodyF 4 d_q_sorted)
noncomputable def d_q_groups : SX := (seqS (setS 1 (appA newD nilA)) (seqS (forS (seqI (varD 0)) (tgN 2) (trimS (killS [0, 3] (forS (seqI (bin ixA (varD 2) (retD (.v (.int 1))))) (tgN 3) (trimS (killS [2] (exprS (mthD tyL appendD (varD 1) (consA (bin ixA (varD 3) (retD (.v (.int 1)))) nilA))))))))) (killS [0, 2, 3] (retS (appA (arN 1 f_q_sorted) (consA (varD 1) nilA))))))
noncomputable def f_q_groups : List D → M D := scopeF false (bodyF 4 d_q_groups)
noncomputable def d_q_made_groups : SX := (seqS (setS 1 (appA newD nilA)) (seqS (forS (seqI (varD 0)) (tgN 2) (trimS (killS [0, 3] (forS (seqI (bin ixA (varD 2) (retD (.v (.int 1))))) (tgN 3) (trimS (killS [2] (ifS (tstD (bin (ordI fun i j => decide (j < i)) (bin ixA (varD 3) (retD (.v (.int 2)))) (retD (.v (.int 0))))) (exprS (mthD tyL appendD (varD 1) (consA (bin ixA (varD 3) (retD (.v (.int 1)))) nilA))) nxS))))))) (killS [0, 2, 3] (retS (appA (arN 1 f_q_sorted) (consA (varD 1) nilA))))))
noncomputable def f_q_made_groups : List D → M D := scopeF false (bodyF 4 d_q_made_groups)
noncomputable def d_Role_makes : SX := (killS [0] (retS (retD (.v (.bl false)))))
noncomputable def f_Role_makes : List D → M D := scopeF false (bodyF 1 d_Role_makes)
noncomputable def d_Made_makes : SX := (killS [0] (retS (retD (.v (.bl true)))))
noncomputable def f_Made_makes : List D → M D := scopeF false (bodyF 1 d_Made_makes)
noncomputable def d_Fresh_makes : SX := (killS [0] (retS (retD (.v (.bl true)))))
noncomputable def f_Fresh_makes : List D → M D := scopeF false (bodyF 1 d_Fresh_makes)
noncomputable def tm_makes : Nat → Option (List D → M D)
  | 0 => some f_Role_makes
  | 1 => some f_Role_makes
  | 2 => some f_Made_makes
  | 3 => some f_Fresh_makes
  | 4 => some f_Made_makes
  | 5 => some f_Fresh_makes
  | _ => none
noncomputable def d_Catalog_made_groups : SX := (retS (appA (sortSD true) (consA (scS2 (seqI (un (attD 3) (varD 0))) [1, 2] (tgN 1) yesB (seqI (un (attD 2) (varD 1))) [2] (tgN 2) (tstD (methF 1 tm_makes (varD 2) nilA)) (un (attD 1) (varD 2))) nilA)))
noncomputable def f_Catalog_made_groups : List D → M D := scopeF true (bodyF 3 d_Catalog_made_groups)
noncomputable def tm_made_groups : Nat → Option (List D → M D)
  | 7 => some f_Catalog_made_groups
  | _ => none
noncomputable def d_Catalog_groups : SX := (retS (appA (sortSD true) (consA (scS2 (seqI (un (attD 3) (varD 0))) [1, 2] (tgN 1) yesB (seqI (un (attD 2) (varD 1))) [2] (tgN 2) yesB (un (attD 1) (varD 2))) nilA)))
noncomputable def f_Catalog_groups : List D → M D := scopeF true (bodyF 3 d_Catalog_groups)
noncomputable def tm_groups : Nat → Option (List D → M D)
  | 7 => some f_Catalog_groups
  | _ => none
noncomputable def d_Catalog_named : SX := (seqS (forS (seqI (un (attD 3) (varD 0))) (tgN 2) (trimS (killS [0] (ifS (tstD (bin (eqD false) (un (attD 0) (varD 2)) (varD 1))) (killS [1] (retS (varD 2))) nxS)))) (killS [0, 2] (raiseS 23 (consA (varD 1) nilA))))
noncomputable def f_Catalog_named : List D → M D := scopeF false (bodyF 3 d_Catalog_named)
noncomputable def tm_named : Nat → Option (List D → M D)
  | 7 => some f_Catalog_named
  | _ => none
def tb_q_unknown0 : List Nat := [21, 22, 23]
noncomputable def zs_q_unknown0 : List Clz := [⟨23, some 2, fun a dx c => (killS [0, 1] (retS (appA tupD (consA (exfD a dx 2 0) (consA (andV (tstD (exiD a dx 2 (subE c 20))) (notV (tstD (exiD a dx 2 (subE c 22))))) nilA)))))⟩]
noncomputable def d_q_unknown : SX := (seqS (tryS tb_q_unknown0 zs_q_unknown0 (exprS (methF 2 tm_named (varD 0) (consA (varD 1) nilA)))) (killS [0, 1] (retS (appA tupD nilA))))
noncomputable def f_q_unknown : List D → M D := scopeF false (bodyF 3 d_q_unknown)
noncomputable def d_q_told : SX := (retS (appA tupD (consA (un (attD 0) (varD 0)) (consA (lcS false (seqI (un (attD 2) (varD 0))) [1] (tgN 1) yesB (appA tupD (consA (un (attD 0) (varD 1)) (consA (un (attD 1) (varD 1)) (consA (un (conD tc_MARK) (varD 1)) nilA))))) nilA))))
noncomputable def f_q_told : List D → M D := scopeF false (bodyF 2 d_q_told)
noncomputable def d_Catalog_zlenz : SX := (retS (appA lenD (consA (un (attD 3) (varD 0)) nilA)))
noncomputable def f_Catalog_zlenz : List D → M D := scopeF false (bodyF 1 d_Catalog_zlenz)
noncomputable def tm_zlenz : Nat → Option (List D → M D)
  | 7 => some f_Catalog_zlenz
  | _ => none
noncomputable def d_q_plain : SX := (seqS (setS 1 (appA lstD (consA (retD (.v (.str "r"))) (consA (retD (.v (.str "m"))) (consA (retD (.v (.str "f"))) (consA (retD (.v (.str "rm"))) (consA (retD (.v (.str "rf"))) nilA))))))) (retS (appA tupD (consA (bin ixA (varD 0) (retD (.v (.int 0)))) (consA (lcS false (seqI (bin ixA (varD 0) (retD (.v (.int 1))))) [2] (tgN 2) yesB (appA tupD (consA (bin ixA (varD 2) (retD (.v (.int 0)))) (consA (bin ixA (varD 2) (retD (.v (.int 1)))) (consA (bin ixA (varD 1) (bin ixA (varD 2) (retD (.v (.int 2))))) nilA))))) nilA)))))
noncomputable def f_q_plain : List D → M D := scopeF false (bodyF 3 d_q_plain)
noncomputable def d_q_is : SX := (seqS (setS 3 (lcS false (seqI (varD 1)) [8] (tgN 8) yesB (appA (arN 1 f_q_plain) (consA (varD 8) nilA)))) (seqS (ifS (orB (tstD (bin (eqD true) (un (lenO tm_zlenz) (varD 0)) (appA lenD (consA (varD 3) nilA)))) (tstD (bin (eqD true) (lcS false (ownI tt_iter (varD 0)) [8] (tgN 8) yesB (appA (arN 1 f_q_told) (consA (varD 8) nilA))) (varD 3)))) (killS [0, 1, 2, 3] (retS (retD (.v (.bl false))))) nxS) (seqS (setS 4 (lcS false (seqI (un (attD 3) (varD 0))) [8] (tgN 8) yesB (appA (arN 1 f_q_told) (consA (varD 8) nilA)))) (seqS (ifS (orB (notB (tstD (un (isiD ti_tuple) (un (attD 3) (varD 0))))) (tstD (bin (eqD true) (varD 4) (varD 3)))) (killS [0, 1, 2, 3, 4] (retS (retD (.v (.bl false))))) nxS) (killS [4] (seqS (forS (seqI (varD 3)) (tgN 5) (trimS (killS [3] (ifS (tstD (bin (eqD true) (appA (arN 1 f_q_told) (consA (methF 2 tm_named (varD 0) (consA (bin ixA (varD 5) (retD (.v (.int 0)))) nilA)) nilA)) (varD 5))) (killS [0, 1, 2, 5] (retS (retD (.v (.bl false))))) nxS)))) (killS [3, 5] (seqS (ifS (tstD (bin (eqD true) (appA (arN 2 f_q_unknown) (consA (varD 0) (consA (varD 2) nilA))) (appA tupD (consA (varD 2) (consA (retD (.v (.bl true))) nilA))))) (killS [0, 1, 2] (retS (retD (.v (.bl false))))) nxS) (killS [2] (seqS (ifS (tstD (bin (eqD true) (appA (arN 2 f_q_unknown) (consA (varD 0) (consA (retD (.v (.str ""))) nilA))) (appA tupD (consA (retD (.v (.str ""))) (consA (retD (.v (.bl true))) nilA))))) (killS [0, 1] (retS (retD (.v (.bl false))))) nxS) (seqS (setS 6 (methF 1 tm_groups (varD 0) nilA)) (seqS (setS 7 (methF 1 tm_made_groups (varD 0) nilA)) (killS [0] (seqS (ifS (orB (notB (tstD (un (isiD ti_list) (varD 6)))) (notB (tstD (un (isiD ti_list) (varD 7))))) (killS [1, 6, 7] (retS (retD (.v (.bl false))))) nxS) (retS (andV (tstD (bin (eqD false) (varD 6) (appA (arN 1 f_q_groups) (consA (varD 1) nilA)))) (bin (eqD false) (varD 7) (appA (arN 1 f_q_made_groups) (consA (varD 1) nilA)))))))))))))))))))
noncomputable def f_q_is : List D → M D := scopeF false (bodyF 9 d_q_is)
noncomputable def d_Catalog_zinitz : SX := (seqS (setS 2 (appA newD nilA)) (seqS (forS (seqI (varD 1)) (tgN 3) (trimS (seqS (ifS (tstD (bin (inA false) (un (attD 0) (varD 3)) (varD 2))) (killS [0, 1, 2] (raiseS 22 (consA (un (attD 0) (varD 3)) nilA))) nxS) (exprS (mthD tyL appendD (varD 2) (consA (un (attD 0) (varD 3)) nilA)))))) (killS [2, 3] (sattS 3 (varD 0) (appA tupleD (consA (varD 1) nilA))))))
noncomputable def f_Catalog_zinitz : List D → M D := bodyF 4 d_Catalog_zinitz
def tb_q_refusal0 : List Nat := [21, 22, 23]
noncomputable def zs_q_refusal0 : List Clz := [⟨22, some 1, fun a dx c => (killS [0] (retS (appA tupD (consA (exfD a dx 1 0) (consA (andV (tstD (exiD a dx 1 (subE c 20))) (notV (tstD (exiD a dx 1 (subE c 23))))) nilA)))))⟩]
noncomputable def d_q_refusal : SX := (seqS (tryS tb_q_refusal0 zs_q_refusal0 (exprS (appA (makF true 7 2 f_Catalog_zinitz) (consA (varD 0) nilA)))) (killS [0] (retS (appA tupD nilA))))
noncomputable def f_q_refusal : List D → M D := scopeF false (bodyF 2 d_q_refusal)
noncomputable def d_q_due : SX := (seqS (setS 1 (appA newD nilA)) (seqS (forS (seqI (varD 0)) (tgN 2) (trimS (killS [0] (seqS (ifS (tstD (bin (inA false) (bin ixA (varD 2) (retD (.v (.int 0)))) (varD 1))) (killS [1] (retS (appA tupD (consA (bin ixA (varD 2) (retD (.v (.int 0)))) (consA (retD (.v (.bl true))) nilA))))) nxS) (exprS (mthD tyL appendD (varD 1) (consA (bin ixA (varD 2) (retD (.v (.int 0)))) nilA))))))) (killS [0, 1, 2] (retS (appA tupD nilA)))))
noncomputable def f_q_due : List D → M D := scopeF false (bodyF 3 d_q_due)
noncomputable def d_check_name : SX := (ifS (orB (notB (tstD (chn (ordI fun i j => decide (i ≤ j)) (ordI fun i j => decide (i ≤ j)) (retD (.v (.int 1))) (appA lenD (consA (varD 0) nilA)) (retD (.v (.int 8)))))) (tstD (appA anyD (consA (lcS false (seqI (varD 0)) [1] (tgN 1) yesB (bin (inA true) (varD 1) (retD (.v (.str "abcdefghijklmnopqrstuvwxyz"))))) nilA)))) (raiseS 21 (consA (varD 0) nilA)) nxS)
noncomputable def f_check_name : List D → M D := scopeF false (bodyF 2 d_check_name)
noncomputable def d_Kind_zinitz : SX := (seqS (exprS (appA (arN 1 f_check_name) (consA (varD 1) nilA))) (seqS (setS 3 (lcS false (seqI (varD 2)) [4] (tgN 4) yesB (un (attD 0) (varD 4)))) (seqS (ifS (orB (notB (tstD (chn (ordI fun i j => decide (i ≤ j)) (ordI fun i j => decide (i ≤ j)) (retD (.v (.int 1))) (appA lenD (consA (varD 3) nilA)) (retD (.v (.int 6)))))) (tstD (bin ltD (appA lenSD (consA (appA setD (consA (varD 3) nilA)) nilA)) (appA lenD (consA (varD 3) nilA))))) (killS [0, 2, 3] (raiseS 22 (consA (varD 1) nilA))) nxS) (killS [3] (seqS (ifS (notB (tstD (appA anyD (consA (lcS false (seqI (varD 2)) [4] (tgN 4) yesB (methF 1 tm_makes (varD 4) nilA)) nilA)))) (killS [0, 2] (raiseS 22 (consA (varD 1) nilA))) nxS) (seqS (sattS 0 (varD 0) (varD 1)) (killS [1] (sattS 2 (varD 0) (appA tupleD (consA (varD 2) nilA))))))))))
noncomputable def f_Kind_zinitz : List D → M D := bodyF 5 d_Kind_zinitz
noncomputable def d_Role_zinitz : SX := (seqS (exprS (appA (arN 1 f_check_name) (consA (varD 1) nilA))) (seqS (exprS (appA (arN 1 f_check_name) (consA (varD 2) nilA))) (seqS (sattS 0 (varD 0) (varD 1)) (killS [1] (sattS 1 (varD 0) (varD 2))))))
noncomputable def f_Role_zinitz : List D → M D := bodyF 3 d_Role_zinitz
noncomputable def d_q_role : SX := (seqS (ifS (tstD (bin (eqD false) (varD 2) (retD (.v (.int 0))))) (killS [2] (retS (appA (makF true 1 3 f_Role_zinitz) (consA (varD 0) (consA (varD 1) nilA))))) nxS) (seqS (ifS (tstD (bin (eqD false) (varD 2) (retD (.v (.int 1))))) (killS [2] (retS (appA (makF true 2 3 f_Role_zinitz) (consA (varD 0) (consA (varD 1) nilA))))) nxS) (seqS (ifS (tstD (bin (eqD false) (varD 2) (retD (.v (.int 2))))) (killS [2] (retS (appA (makF true 3 3 f_Role_zinitz) (consA (varD 0) (consA (varD 1) nilA))))) nxS) (seqS (ifS (tstD (bin (eqD false) (varD 2) (retD (.v (.int 3))))) (killS [2] (retS (appA (makF true 4 3 f_Role_zinitz) (consA (varD 0) (consA (varD 1) nilA))))) nxS) (killS [2] (retS (appA (makF true 5 3 f_Role_zinitz) (consA (varD 0) (consA (varD 1) nilA)))))))))
noncomputable def f_q_role : List D → M D := scopeF false (bodyF 3 d_q_role)
noncomputable def d_q_kind : SX := (retS (appA (makF true 6 3 f_Kind_zinitz) (consA (bin ixA (varD 0) (retD (.v (.int 0)))) (consA (lcS false (seqI (bin ixA (varD 0) (retD (.v (.int 1))))) [1] (tgN 1) yesB (appA (arN 3 f_q_role) (consA (bin ixA (varD 1) (retD (.v (.int 0)))) (consA (bin ixA (varD 1) (retD (.v (.int 1)))) (consA (bin ixA (varD 1) (retD (.v (.int 2)))) nilA))))) nilA))))
noncomputable def f_q_kind : List D → M D := scopeF false (bodyF 2 d_q_kind)
noncomputable def d_q_draw : SX := (seqS (ifS (andB (tstD (bin (ordI fun i j => decide (j < i)) (bin ixA (varD 0) (retD (.v (.int 0)))) (retD (.v (.int 0))))) (tstD (bin (ordI fun i j => decide (j < i)) (bin ixA (varD 0) (retD (.v (.int 2)))) (retD (.v (.int 0)))))) (seqS (setS 2 (bin modD (appA intD (consA (bin ixA (varD 0) (retD (.v (.int 0)))) nilA)) (varD 1))) (seqS (setIS (varD 0) (retD (.v (.int 0))) (bin fdivD (bin ixA (varD 0) (retD (.v (.int 0)))) (varD 1))) (killS [1] (seqS (setIS (varD 0) (retD (.v (.int 2))) (bin subD (bin ixA (varD 0) (retD (.v (.int 2)))) (retD (.v (.int 1))))) (killS [0] (retS (varD 2))))))) nxS) (killS [2] (seqS (setIS (varD 0) (retD (.v (.int 1))) (bin modD (appA intD (consA (bin addD (bin mulD (bin ixA (varD 0) (retD (.v (.int 1)))) (retD (.v (.int 10)))) (retD (.v (.int 3)))) nilA)) (retD (.v (.int 10007))))) (retS (bin modD (appA intD (consA (bin ixA (varD 0) (retD (.v (.int 1)))) nilA)) (varD 1))))))
noncomputable def f_q_draw : List D → M D := scopeF false (bodyF 3 d_q_draw)
noncomputable def d_q_pool : SX := (seqS (setS 2 (bin addD (bin addD (bin mulD (retD (.v (.int 17))) (varD 1)) (retD (.v (.int 5)))) (bin mulD (retD (.v (.int 101))) (appA sumD (consA (varD 0) nilA))))) (seqS (setS 3 (retD (.v (.int 0)))) (seqS (ifS (tstD (bin ltD (varD 1) (appA lenD (consA (varD 0) nilA)))) (seqS (setS 2 (bin addD (varD 2) (bin ixA (varD 0) (varD 1)))) (ifS (tstD (bin (ordI fun i j => decide (j ≤ i)) (bin ixA (varD 0) (varD 1)) (bin powD (retD (.v (.int 10))) (retD (.v (.int 18)))))) (killS [3] (setS 3 (bin ixA (varD 0) (varD 1)))) nxS)) nxS) (killS [0, 1] (retS (appA newD (consA (varD 3) (consA (bin modD (appA intD (consA (varD 2) nilA)) (retD (.v (.int 10007)))) (consA (retD (.v (.int 60))) nilA)))))))))
noncomputable def f_q_pool : List D → M D := scopeF true (bodyF 4 d_q_pool)
noncomputable def d_q_word : SX := (seqS (setS 1 (retD (.v (.str "abcdefghijklmnopqrstuvwxyz")))) (retS (mthD tyS joinD (retD (.v (.str ""))) (consA (lcS false (seqI (varD 0)) [2] (tgN 2) yesB (bin ixA (varD 1) (bin modD (appA intD (consA (varD 2) nilA)) (retD (.v (.int 26)))))) nilA))))
noncomputable def f_q_word : List D → M D := scopeF false (bodyF 3 d_q_word)
noncomputable def d_q_names : SX := (seqS (setS 1 (appA (arN 2 f_q_draw) (consA (varD 0) (consA (retD (.v (.int 3))) nilA)))) (seqS (setS 2 (appA (arN 2 f_q_draw) (consA (varD 0) (consA (retD (.v (.int 26))) nilA)))) (seqS (setS 3 (bin addD (retD (.v (.int 1))) (bin mulD (retD (.v (.int 2))) (appA (arN 2 f_q_draw) (consA (varD 0) (consA (retD (.v (.int 6))) nilA)))))) (seqS (setS 4 (appA (arN 2 f_q_draw) (consA (varD 0) (consA (retD (.v (.int 8))) nilA)))) (seqS (setS 5 (bin addD (retD (.v (.int 1))) (appA (arN 2 f_q_draw) (consA (varD 0) (consA (retD (.v (.int 8))) nilA))))) (seqS (setS 6 (appA (arN 1 f_q_word) (consA (lcS false (argI rng1 (consA (retD (.v (.int 8))) nilA)) [8] (tgN 8) yesB (appA (arN 2 f_q_draw) (consA (varD 0) (consA (retD (.v (.int 26))) nilA)))) nilA))) (killS [0] (seqS (setS 7 (appA newD nilA)) (seqS (forS (argI rng1 (consA (retD (.v (.int 8))) nilA)) (tgN 8) (trimS (killS [9, 10, 11] (seqS (setS 9 (appA (arN 1 f_q_word) (consA (appA lstD (consA (bin addD (varD 2) (bin mulD (varD 3) (varD 8))) nilA)) nilA))) (seqS (setS 10 (bin modD (appA intD (consA (varD 4) nilA)) (varD 5))) (seqS (setS 11 (bin addD (bin addD (slice (varD 6) noP (part (varD 10))) (varD 9)) (slice (varD 6) (part (bin addD (varD 10) (retD (.v (.int 1))))) (part (varD 5))))) (killS [10] (seqS (ifS (tstD (bin (eqD false) (varD 1) (retD (.v (.int 1))))) (killS [11] (setS 11 (slice (varD 6) noP (part (bin addD (retD (.v (.int 1))) (bin modD (appA intD (consA (bin addD (varD 8) (varD 4)) nilA)) (retD (.v (.int 8))))))))) nxS) (seqS (ifS (tstD (bin (eqD false) (varD 1) (retD (.v (.int 2))))) (killS [11] (setS 11 (bin addD (varD 9) (slice (varD 6) (part (varD 8)) (part (bin addD (varD 8) (bin modD (appA intD (consA (bin addD (varD 4) (bin mulD (retD (.v (.int 3))) (varD 8))) nilA)) (retD (.v (.int 8)))))))))) nxS) (killS [8, 9] (exprS (mthD tyL appendD (varD 7) (consA (varD 11) nilA))))))))))))) (killS [1, 2, 3, 4, 5, 6, 8, 9, 10, 11] (retS (varD 7))))))))))))
noncomputable def f_q_names : List D → M D := scopeF false (bodyF 12 d_q_names)
noncomputable def d_law : SX := (seqS (setS 1 (appA (arN 1 f_q_names) (consA (appA (arN 2 f_q_pool) (consA (varD 0) (consA (retD (.v (.int 0))) nilA))) nilA))) (seqS (setS 2 (appA (arN 1 f_q_names) (consA (appA (arN 2 f_q_pool) (consA (varD 0) (consA (retD (.v (.int 2))) nilA))) nilA))) (seqS (setS 3 (appA (arN 2 f_q_pool) (consA (varD 0) (consA (retD (.v (.int 1))) nilA)))) (seqS (setS 4 (appA (arN 2 f_q_draw) (consA (varD 3) (consA (retD (.v (.int 9))) nilA)))) (seqS (setS 5 (bin addD (retD (.v (.int 1))) (appA (arN 2 f_q_draw) (consA (varD 3) (consA (retD (.v (.int 8))) nilA))))) (seqS (setS 6 (appA newD nilA)) (seqS (forS (argI rng1 (consA (varD 4) nilA)) (tgN 7) (trimS (killS [8, 9, 10, 11] (seqS (setS 8 (appA newD nilA)) (seqS (forS (argI rng1 (consA (bin addD (retD (.v (.int 1))) (appA (arN 2 f_q_draw) (consA (varD 3) (consA (retD (.v (.int 3))) nilA)))) nilA)) (tgN 9) (trimS (killS [10, 11] (seqS (setS 10 (appA (arN 2 f_q_draw) (consA (varD 3) (consA (retD (.v (.int 5))) nilA)))) (seqS (ifS (andB (tstD (bin (eqD false) (varD 9) (retD (.v (.int 0))))) (tstD (bin (eqD false) (varD 10) (retD (.v (.int 0)))))) (killS [10] (setS 10 (retD (.v (.int 1))))) nxS) (seqS (setS 11 (bin ixA (appA lstD (consA (retD (.v (.str "one"))) (consA (retD (.v (.str "two"))) (consA (retD (.v (.str "three"))) nilA)))) (varD 9))) (killS [9] (exprS (mthD tyL appendD (varD 8) (consA (appA tupD (consA (varD 11) (consA (bin ixA (varD 2) (appA (arN 2 f_q_draw) (consA (varD 3) (consA (varD 5) nilA)))) (consA (varD 10) nilA)))) nilA)))))))))) (killS [9, 10, 11] (exprS (mthD tyL appendD (varD 6) (consA (appA tupD (consA (bin ixA (varD 1) (varD 7)) (consA (un frzD (varD 8)) nilA))) nilA))))))))) (killS [2, 3, 5, 7, 8, 9, 10, 11] (seqS (setS 12 (appA (arN 2 f_q_pool) (consA (varD 0) (consA (retD (.v (.int 3))) nilA)))) (killS [0] (seqS (ifS (andB (tstD (bin (eqD false) (appA (arN 2 f_q_draw) (consA (varD 12) (consA (retD (.v (.int 3))) nilA))) (retD (.v (.int 0))))) (tstD (bin (ordI fun i j => decide (j < i)) (varD 4) (retD (.v (.int 1)))))) (forS (argI rng1 (consA (bin addD (retD (.v (.int 1))) (appA (arN 2 f_q_draw) (consA (varD 12) (consA (retD (.v (.int 3))) nilA)))) nilA)) (tgN 13) (trimS (killS [13, 14, 15] (seqS (setS 14 (appA (arN 2 f_q_draw) (consA (varD 12) (consA (varD 4) nilA)))) (seqS (setS 15 (appA (arN 2 f_q_draw) (consA (varD 12) (consA (varD 4) nilA)))) (setIS (varD 6) (varD 15) (appA tupD (consA (bin ixA (bin ixA (varD 6) (varD 14)) (retD (.v (.int 0)))) (consA (bin ixA (bin ixA (varD 6) (varD 15)) (retD (.v (.int 1)))) nilA))))))))) nxS) (killS [12, 13, 14, 15] (seqS (setS 16 (lcS true (seqI (varD 6)) [20] (tgN 20) yesB (appA (arN 1 f_q_kind) (consA (varD 20) nilA)))) (seqS (setS 17 (appA (arN 1 f_q_due) (consA (varD 6) nilA))) (seqS (ifS (tstD (bin (eqD true) (varD 17) (appA tupD nilA))) (killS [1, 6] (retS (andV (tstD (bin (eqD false) (appA (arN 1 f_q_refusal) (consA (varD 16) nilA)) (varD 17))) (bin (eqD false) (appA lenD (consA (varD 16) nilA)) (varD 4))))) nxS) (killS [17] (seqS (setS 18 (appA (makF true 7 2 f_Catalog_zinitz) (consA (varD 16) nilA))) (seqS (setS 19 (bin ixA (bin addD (varD 1) (appA lstD (consA (retD (.v (.str "Nobody"))) nilA))) (varD 4))) (killS [1] (seqS (ifS (orB (notB (tstD (appA (arN 3 f_q_is) (consA (varD 18) (consA (varD 6) (consA (varD 19) nilA)))))) (tstD (bin (eqD true) (appA lenD (consA (varD 16) nilA)) (varD 4)))) (killS [4, 6, 16, 18, 19] (retS (retD (.v (.bl false))))) nxS) (killS [4] (seqS (exprS (mthD tyL appendD (methF 1 tm_groups (varD 18) nilA) (consA (retD (.v (.str "more"))) nilA))) (seqS (exprS (mthD tyL appendD (methF 1 tm_made_groups (varD 18) nilA) (consA (retD (.v (.str "more"))) nilA))) (seqS (exprS (mthD tyL clearD (varD 16) nilA)) (killS [16] (retS (appA (arN 3 f_q_is) (consA (varD 18) (consA (varD 6) (consA (varD 19) nilA))))))))))))))))))))))))))))))
noncomputable def f_law : List D → M D := scopeF false (bodyF 21 d_law)
/-! what the top has written -/
abbrev s_Catalog_ziterz : Stmt := inClass (top 18) 1
def fa : List Chk := [
  faB (.free "len"),
  faB (.int "LONGEST_NAME" 8),
  faB (.free "any"),
  faB (.str "LETTERS" "abcdefghijklmnopqrstuvwxyz"),
  faB (.glo "BadName"),
  excB PG.main.file 21,
  faB (.glo "check_name"),
  faB (.free "tuple"),
  faB (.glo "BadKind"),
  excB PG.main.file 22,
  faB (.int "MOST_ROLES" 6),
  faB (.free "set"),
  faB (.glo "NoKind"),
  excB PG.main.file 23,
  faB (.free "sorted"),
  faB (.glo "_law_sorted"),
  faB (.free "int"),
  faB (.free "range"),
  faB (.glo "_law_word"),
  faB (.glo "_law_draw"),
  faB (.free "sum"),
  faB (.glo "Renewed"),
  clsB 5,
  faB (.mkr "Renewed"),
  faB (.glo "Both"),
  clsB 4,
  faB (.mkr "Both"),
  faB (.glo "Fresh"),
  clsB 3,
  faB (.mkr "Fresh"),
  faB (.glo "Made"),
  clsB 2,
  faB (.mkr "Made"),
  faB (.glo "Read"),
  clsB 1,
  faB (.mkr "Read"),
  faB (.glo "_law_role"),
  faB (.glo "Kind"),
  clsB 6,
  faB (.mkr "Kind"),
  faB (.glo "Catalog"),
  clsB 7,
  faB (.mkr "Catalog"),
  faB (.free "isinstance"),
  faB (.glo "RedoError"),
  faB (.glo "_law_groups"),
  faB (.glo "_law_made_groups"),
  faB (.free "list"),
  faB (.glo "_law_unknown"),
  faB (.glo "_law_told"),
  faB (.free "iter"),
  faB (.glo "_law_plain"),
  faB (.glo "_law_is"),
  faB (.glo "_law_refusal"),
  faB (.glo "_law_due"),
  faB (.glo "_law_kind"),
  faB (.glo "_law_pool"),
  faB (.glo "_law_names"),
  faB (.glo "law"),
  faB (.free "super"),
  conB 0 "MARK" "",
  conB 1 "MARK" "r",
  conB 2 "MARK" "m",
  conB 3 "MARK" "f",
  conB 4 "MARK" "rm",
  conB 5 "MARK" "rf",
  inhB "Renewed" "Role" "__init__",
  inhB "Both" "Role" "__init__",
  inhB "Fresh" "Role" "__init__",
  inhB "Made" "Role" "__init__",
  inhB "Read" "Role" "__init__",
  inhB "Read" "Role" "makes",
  inhB "Both" "Made" "makes",
  inhB "Renewed" "Fresh" "makes",
  faB (.meth "Catalog" "__iter__"),
  faB (.meth "Role" "makes"),
  faB (.meth "Read" "makes"),
  faB (.meth "Made" "makes"),
  faB (.meth "Fresh" "makes"),
  faB (.meth "Both" "makes"),
  faB (.meth "Renewed" "makes"),
  faB (.meth "Catalog" "named"),
  faB (.meth "Catalog" "made_groups"),
  faB (.meth "Catalog" "groups"),
  faB (.meth "Catalog" "__len__"),
  (fun K => PySem.W.fnIn K (ma K (ga K "Catalog") "__len__")),
  DN.kitB .non (fun _ => .type "list") false,
  DN.kitB .bl (fun _ => .type "list") false,
  DN.kitB .int (fun _ => .type "list") false,
  DN.kitB .str (fun _ => .type "list") false,
  DN.kitB .lst (fun _ => .type "list") true,
  DN.kitB .tup (fun _ => .type "list") false,
  DN.kitB (.ins 0) (fun _ => .type "list") false,
  DN.kitB (.ins 1) (fun _ => .type "list") false,
  DN.kitB (.ins 2) (fun _ => .type "list") false,
  DN.kitB (.ins 3) (fun _ => .type "list") false,
  DN.kitB (.ins 4) (fun _ => .type "list") false,
  DN.kitB (.ins 5) (fun _ => .type "list") false,
  DN.kitB (.ins 6) (fun _ => .type "list") false,
  DN.kitB (.ins 7) (fun _ => .type "list") false,
  DN.kitB .non (fun _ => .type "tuple") false,
  DN.kitB .bl (fun _ => .type "tuple") false,
  DN.kitB .int (fun _ => .type "tuple") false,
  DN.kitB .str (fun _ => .type "tuple") false,
  DN.kitB .lst (fun _ => .type "tuple") false,
  DN.kitB .tup (fun _ => .type "tuple") true,
  DN.kitB (.ins 0) (fun _ => .type "tuple") false,
  DN.kitB (.ins 1) (fun _ => .type "tuple") false,
  DN.kitB (.ins 2) (fun _ => .type "tuple") false,
  DN.kitB (.ins 3) (fun _ => .type "tuple") false,
  DN.kitB (.ins 4) (fun _ => .type "tuple") false,
  DN.kitB (.ins 5) (fun _ => .type "tuple") false,
  DN.kitB (.ins 6) (fun _ => .type "tuple") false,
  DN.kitB (.ins 7) (fun _ => .type "tuple") false,
  isiB 0,
  clsB 0,
  isiB 1,
  isiB 2,
  isiB 3,
  isiB 4,
  isiB 5,
  isiB 6,
  isiB 7,
  (fun K => boO (PySem.W.exmOne K (.ref (ga K (cnm 21))) (.ref (ga K (cnm 23)))) (some (subE 21 23))),
  (fun K => boO (PySem.W.kitOne K (.ref (ga K (cnm 21))) (.ref (ga K "RedoError"))) (some (subE 21 20))),
  (fun K => boO (PySem.W.kitOne K (.ref (ga K (cnm 21))) (.ref (ga K "BadKind"))) (some (subE 21 22))),
  (fun K => boO (PySem.W.exmOne K (.ref (ga K (cnm 22))) (.ref (ga K (cnm 23)))) (some (subE 22 23))),
  (fun K => boO (PySem.W.kitOne K (.ref (ga K (cnm 22))) (.ref (ga K "RedoError"))) (some (subE 22 20))),
  (fun K => boO (PySem.W.kitOne K (.ref (ga K (cnm 22))) (.ref (ga K "BadKind"))) (some (subE 22 22))),
  (fun K => boO (PySem.W.exmOne K (.ref (ga K (cnm 23))) (.ref (ga K (cnm 23)))) (some (subE 23 23))),
  (fun K => boO (PySem.W.kitOne K (.ref (ga K (cnm 23))) (.ref (ga K "RedoError"))) (some (subE 23 20))),
  (fun K => boO (PySem.W.kitOne K (.ref (ga K (cnm 23))) (.ref (ga K "BadKind"))) (some (subE 23 22))),
  (fun K => boO (PySem.W.exmOne K (.ref (ga K (cnm 21))) (.ref (ga K (cnm 22)))) (some (subE 21 22))),
  (fun K => boO (PySem.W.kitOne K (.ref (ga K (cnm 21))) (.ref (ga K "NoKind"))) (some (subE 21 23))),
  (fun K => boO (PySem.W.exmOne K (.ref (ga K (cnm 22))) (.ref (ga K (cnm 22)))) (some (subE 22 22))),
  (fun K => boO (PySem.W.kitOne K (.ref (ga K (cnm 22))) (.ref (ga K "NoKind"))) (some (subE 22 23))),
  (fun K => boO (PySem.W.exmOne K (.ref (ga K (cnm 23))) (.ref (ga K (cnm 22)))) (some (subE 23 22))),
  (fun K => boO (PySem.W.kitOne K (.ref (ga K (cnm 23))) (.ref (ga K "NoKind"))) (some (subE 23 23))),
  faB (.noat "BadName" "name"),
  faB (.noat "BadKind" "name"),
  faB (.noat "NoKind" "name")]
def dx0 : DX := ⟨("_law_sorted", none), "_law_sorted", s_q_sorted, []⟩
def dx1 : DX := ⟨("_law_groups", none), "_law_groups", s_q_groups, []⟩
def dx2 : DX := ⟨("_law_made_groups", none), "_law_made_groups", s_q_made_groups, []⟩
def dx3 : DX := ⟨("Role", some "makes"), "Role.makes", s_Role_makes, []⟩
def dx4 : DX := ⟨("Made", some "makes"), "Made.makes", s_Made_makes, []⟩
def dx5 : DX := ⟨("Fresh", some "makes"), "Fresh.makes", s_Fresh_makes, []⟩
def dx6 : DX := ⟨("Catalog", some "made_groups"), "Catalog.made_groups", s_Catalog_made_groups, []⟩
def dx7 : DX := ⟨("Catalog", some "groups"), "Catalog.groups", s_Catalog_groups, []⟩
def dx8 : DX := ⟨("Catalog", some "named"), "Catalog.named", s_Catalog_named, []⟩
def dx9 : DX := ⟨("_law_unknown", none), "_law_unknown", s_q_unknown, []⟩
def dx10 : DX := ⟨("_law_told", none), "_law_told", s_q_told, []⟩
def dx11 : DX := ⟨("Catalog", some "__len__"), "Catalog.__len__", s_Catalog_zlenz, []⟩
def dx12 : DX := ⟨("_law_plain", none), "_law_plain", s_q_plain, []⟩
def dx13 : DX := ⟨("_law_is", none), "_law_is", s_q_is, []⟩
def dx14 : DX := ⟨("Catalog", some "__init__"), "Catalog.__init__", s_Catalog_zinitz, []⟩
def dx15 : DX := ⟨("_law_refusal", none), "_law_refusal", s_q_refusal, []⟩
def dx16 : DX := ⟨("_law_due", none), "_law_due", s_q_due, []⟩
def dx17 : DX := ⟨("check_name", none), "check_name", s_check_name, []⟩
def dx18 : DX := ⟨("Kind", some "__init__"), "Kind.__init__", s_Kind_zinitz, []⟩
def dx19 : DX := ⟨("Role", some "__init__"), "Role.__init__", s_Role_zinitz, []⟩
def dx20 : DX := ⟨("_law_role", none), "_law_role", s_q_role, []⟩
def dx21 : DX := ⟨("_law_kind", none), "_law_kind", s_q_kind, []⟩
def dx22 : DX := ⟨("_law_draw", none), "_law_draw", s_q_draw, []⟩
def dx23 : DX := ⟨("_law_pool", none), "_law_pool", s_q_pool, []⟩
def dx24 : DX := ⟨("_law_word", none), "_law_word", s_q_word, []⟩
def dx25 : DX := ⟨("_law_names", none), "_law_names", s_q_names, []⟩
def dx26 : DX := ⟨("law", none), "law", s_law, []⟩
def dx27 : DX := ⟨("Catalog", some "__iter__"), "Catalog.__iter__", s_Catalog_ziterz, []⟩
def dx28 : DX := ⟨("BadName", some "__init__"), "BadName.__init__", s_e21, ["__class__"]⟩
def dx29 : DX := ⟨("BadKind", some "__init__"), "BadKind.__init__", s_e22, ["__class__"]⟩
def dx30 : DX := ⟨("NoKind", some "__init__"), "NoKind.__init__", s_e23, ["__class__"]⟩
def fn : List DX := [dx0, dx1, dx2, dx3, dx4, dx5, dx6, dx7, dx8, dx9, dx10, dx11, dx12, dx13, dx14, dx15, dx16, dx17, dx18, dx19, dx20, dx21, dx22, dx23, dx24, dx25, dx26, dx27, dx28, dx29, dx30]
structure Cxt (w : World) (K : PySem.W.Frag) (mg : Str → Option Value) (h base : Heap) : Prop where
  sy : SaysX fa fn K
  kin : K.In h
  ns : h.Ns mainGlobals mg
section
variable {w : World} {K : PySem.W.Frag} {mg : Str → Option Value} {h base : Heap}
theorem Cxt.free_len (T : Cxt w K mg h base) : mg "len" = none := free_ok T.kin T.ns (T.sy.fact 0)
theorem Cxt.int_LONGEST_NAME (T : Cxt w K mg h base) : ∃ t, mg "LONGEST_NAME" = some (.int 8 t) := int_ok T.kin T.ns (T.sy.fact 1)
theorem Cxt.free_any (T : Cxt w K mg h base) : mg "any" = none := free_ok T.kin T.ns (T.sy.fact 2)
theorem Cxt.str_LETTERS (T : Cxt w K mg h base) : ∃ t, mg "LETTERS" = some (.str "abcdefghijklmnopqrstuvwxyz" t) := str_ok T.kin T.ns (T.sy.fact 3)
theorem Cxt.glo_BadName (T : Cxt w K mg h base) : mg "BadName" = some (.ref (ga K "BadName")) := glo_ok T.kin T.ns (T.sy.fact 4)
theorem Cxt.glo_check_name (T : Cxt w K mg h base) : mg "check_name" = some (.ref (ga K "check_name")) := glo_ok T.kin T.ns (T.sy.fact 6)
theorem Cxt.free_tuple (T : Cxt w K mg h base) : mg "tuple" = none := free_ok T.kin T.ns (T.sy.fact 7)
theorem Cxt.glo_BadKind (T : Cxt w K mg h base) : mg "BadKind" = some (.ref (ga K "BadKind")) := glo_ok T.kin T.ns (T.sy.fact 8)
theorem Cxt.int_MOST_ROLES (T : Cxt w K mg h base) : ∃ t, mg "MOST_ROLES" = some (.int 6 t) := int_ok T.kin T.ns (T.sy.fact 10)
theorem Cxt.free_set (T : Cxt w K mg h base) : mg "set" = none := free_ok T.kin T.ns (T.sy.fact 11)
theorem Cxt.glo_NoKind (T : Cxt w K mg h base) : mg "NoKind" = some (.ref (ga K "NoKind")) := glo_ok T.kin T.ns (T.sy.fact 12)
theorem Cxt.free_sorted (T : Cxt w K mg h base) : mg "sorted" = none := free_ok T.kin T.ns (T.sy.fact 14)
theorem Cxt.glo__law_sorted (T : Cxt w K mg h base) : mg "_law_sorted" = some (.ref (ga K "_law_sorted")) := glo_ok T.kin T.ns (T.sy.fact 15)
theorem Cxt.free_int (T : Cxt w K mg h base) : mg "int" = none := free_ok T.kin T.ns (T.sy.fact 16)
theorem Cxt.free_range (T : Cxt w K mg h base) : mg "range" = none := free_ok T.kin T.ns (T.sy.fact 17)
theorem Cxt.glo__law_word (T : Cxt w K mg h base) : mg "_law_word" = some (.ref (ga K "_law_word")) := glo_ok T.kin T.ns (T.sy.fact 18)
theorem Cxt.glo__law_draw (T : Cxt w K mg h base) : mg "_law_draw" = some (.ref (ga K "_law_draw")) := glo_ok T.kin T.ns (T.sy.fact 19)
theorem Cxt.free_sum (T : Cxt w K mg h base) : mg "sum" = none := free_ok T.kin T.ns (T.sy.fact 20)
theorem Cxt.glo_Renewed (T : Cxt w K mg h base) : mg "Renewed" = some (.ref (ga K "Renewed")) := glo_ok T.kin T.ns (T.sy.fact 21)
theorem Cxt.cls_5 (T : Cxt w K mg h base) : ClsF (gOf K w) 5 := clsB_ok (T.sy.fact 22)
theorem Cxt.mkr_Renewed (T : Cxt w K mg h base) : Mk K (ga K "Renewed") (ma K (ga K "Role") "__init__") := mkr_inh (mkr_ok (T.sy.fact 23)) (T.sy.fact 66)
theorem Cxt.glo_Both (T : Cxt w K mg h base) : mg "Both" = some (.ref (ga K "Both")) := glo_ok T.kin T.ns (T.sy.fact 24)
theorem Cxt.cls_4 (T : Cxt w K mg h base) : ClsF (gOf K w) 4 := clsB_ok (T.sy.fact 25)
theorem Cxt.mkr_Both (T : Cxt w K mg h base) : Mk K (ga K "Both") (ma K (ga K "Role") "__init__") := mkr_inh (mkr_ok (T.sy.fact 26)) (T.sy.fact 67)
theorem Cxt.glo_Fresh (T : Cxt w K mg h base) : mg "Fresh" = some (.ref (ga K "Fresh")) := glo_ok T.kin T.ns (T.sy.fact 27)
theorem Cxt.cls_3 (T : Cxt w K mg h base) : ClsF (gOf K w) 3 := clsB_ok (T.sy.fact 28)
theorem Cxt.mkr_Fresh (T : Cxt w K mg h base) : Mk K (ga K "Fresh") (ma K (ga K "Role") "__init__") := mkr_inh (mkr_ok (T.sy.fact 29)) (T.sy.fact 68)
theorem Cxt.glo_Made (T : Cxt w K mg h base) : mg "Made" = some (.ref (ga K "Made")) := glo_ok T.kin T.ns (T.sy.fact 30)
theorem Cxt.cls_2 (T : Cxt w K mg h base) : ClsF (gOf K w) 2 := clsB_ok (T.sy.fact 31)
theorem Cxt.mkr_Made (T : Cxt w K mg h base) : Mk K (ga K "Made") (ma K (ga K "Role") "__init__") := mkr_inh (mkr_ok (T.sy.fact 32)) (T.sy.fact 69)
theorem Cxt.glo_Read (T : Cxt w K mg h base) : mg "Read" = some (.ref (ga K "Read")) := glo_ok T.kin T.ns (T.sy.fact 33)
theorem Cxt.cls_1 (T : Cxt w K mg h base) : ClsF (gOf K w) 1 := clsB_ok (T.sy.fact 34)
theorem Cxt.mkr_Read (T : Cxt w K mg h base) : Mk K (ga K "Read") (ma K (ga K "Role") "__init__") := mkr_inh (mkr_ok (T.sy.fact 35)) (T.sy.fact 70)
theorem Cxt.glo__law_role (T : Cxt w K mg h base) : mg "_law_role" = some (.ref (ga K "_law_role")) := glo_ok T.kin T.ns (T.sy.fact 36)
theorem Cxt.glo_Kind (T : Cxt w K mg h base) : mg "Kind" = some (.ref (ga K "Kind")) := glo_ok T.kin T.ns (T.sy.fact 37)
theorem Cxt.cls_6 (T : Cxt w K mg h base) : ClsF (gOf K w) 6 := clsB_ok (T.sy.fact 38)
theorem Cxt.mkr_Kind (T : Cxt w K mg h base) : Mk K (ga K "Kind") (ma K (ga K "Kind") "__init__") := mkr_ok (T.sy.fact 39)
theorem Cxt.glo_Catalog (T : Cxt w K mg h base) : mg "Catalog" = some (.ref (ga K "Catalog")) := glo_ok T.kin T.ns (T.sy.fact 40)
theorem Cxt.cls_7 (T : Cxt w K mg h base) : ClsF (gOf K w) 7 := clsB_ok (T.sy.fact 41)
theorem Cxt.mkr_Catalog (T : Cxt w K mg h base) : Mk K (ga K "Catalog") (ma K (ga K "Catalog") "__init__") := mkr_ok (T.sy.fact 42)
theorem Cxt.free_isinstance (T : Cxt w K mg h base) : mg "isinstance" = none := free_ok T.kin T.ns (T.sy.fact 43)
theorem Cxt.glo_RedoError (T : Cxt w K mg h base) : mg "RedoError" = some (.ref (ga K "RedoError")) := glo_ok T.kin T.ns (T.sy.fact 44)
theorem Cxt.glo__law_groups (T : Cxt w K mg h base) : mg "_law_groups" = some (.ref (ga K "_law_groups")) := glo_ok T.kin T.ns (T.sy.fact 45)
theorem Cxt.glo__law_made_groups (T : Cxt w K mg h base) : mg "_law_made_groups" = some (.ref (ga K "_law_made_groups")) := glo_ok T.kin T.ns (T.sy.fact 46)
theorem Cxt.free_list (T : Cxt w K mg h base) : mg "list" = none := free_ok T.kin T.ns (T.sy.fact 47)
theorem Cxt.glo__law_unknown (T : Cxt w K mg h base) : mg "_law_unknown" = some (.ref (ga K "_law_unknown")) := glo_ok T.kin T.ns (T.sy.fact 48)
theorem Cxt.glo__law_told (T : Cxt w K mg h base) : mg "_law_told" = some (.ref (ga K "_law_told")) := glo_ok T.kin T.ns (T.sy.fact 49)
theorem Cxt.free_iter (T : Cxt w K mg h base) : mg "iter" = none := free_ok T.kin T.ns (T.sy.fact 50)
theorem Cxt.glo__law_plain (T : Cxt w K mg h base) : mg "_law_plain" = some (.ref (ga K "_law_plain")) := glo_ok T.kin T.ns (T.sy.fact 51)
theorem Cxt.glo__law_is (T : Cxt w K mg h base) : mg "_law_is" = some (.ref (ga K "_law_is")) := glo_ok T.kin T.ns (T.sy.fact 52)
theorem Cxt.glo__law_refusal (T : Cxt w K mg h base) : mg "_law_refusal" = some (.ref (ga K "_law_refusal")) := glo_ok T.kin T.ns (T.sy.fact 53)
theorem Cxt.glo__law_due (T : Cxt w K mg h base) : mg "_law_due" = some (.ref (ga K "_law_due")) := glo_ok T.kin T.ns (T.sy.fact 54)
theorem Cxt.glo__law_kind (T : Cxt w K mg h base) : mg "_law_kind" = some (.ref (ga K "_law_kind")) := glo_ok T.kin T.ns (T.sy.fact 55)
theorem Cxt.glo__law_pool (T : Cxt w K mg h base) : mg "_law_pool" = some (.ref (ga K "_law_pool")) := glo_ok T.kin T.ns (T.sy.fact 56)
theorem Cxt.glo__law_names (T : Cxt w K mg h base) : mg "_law_names" = some (.ref (ga K "_law_names")) := glo_ok T.kin T.ns (T.sy.fact 57)
theorem Cxt.glo_law (T : Cxt w K mg h base) : mg "law" = some (.ref (ga K "law")) := glo_ok T.kin T.ns (T.sy.fact 58)
theorem Cxt.free_super (T : Cxt w K mg h base) : mg "super" = none := free_ok T.kin T.ns (T.sy.fact 59)
theorem Cxt.err_21 (T : Cxt w K mg h base) : ErrOk PG w K mg base 1 21 := by
  refine err_ok (d := dx28) (sto := [(0, ⟨11, 8, 11, 12⟩, ⟨11, 8, 11, 17⟩, ⟨11, 20, 11, 24⟩, ⟨11, 8, 11, 24⟩)]) (k := 0) T.sy 5 28 rfl rfl rfl rfl (by decide +kernel) (by decide +kernel) (by decide +kernel) (by decide +kernel) T.free_super rfl rfl (by decide) (by decide) (by decide) bt_super ?_
  intro nm qual body kV doc pm an cdv ct cc us hl
  exact match us, hl with | [_, _], _ => rfl
theorem Cxt.err_22 (T : Cxt w K mg h base) : ErrOk PG w K mg base 1 22 := by
  refine err_ok (d := dx29) (sto := [(0, ⟨16, 8, 16, 12⟩, ⟨16, 8, 16, 17⟩, ⟨16, 20, 16, 24⟩, ⟨16, 8, 16, 24⟩)]) (k := 0) T.sy 9 29 rfl rfl rfl rfl (by decide +kernel) (by decide +kernel) (by decide +kernel) (by decide +kernel) T.free_super rfl rfl (by decide) (by decide) (by decide) bt_super ?_
  intro nm qual body kV doc pm an cdv ct cc us hl
  exact match us, hl with | [_, _], _ => rfl
theorem Cxt.err_23 (T : Cxt w K mg h base) : ErrOk PG w K mg base 1 23 := by
  refine err_ok (d := dx30) (sto := [(0, ⟨21, 8, 21, 12⟩, ⟨21, 8, 21, 17⟩, ⟨21, 20, 21, 24⟩, ⟨21, 8, 21, 24⟩)]) (k := 0) T.sy 13 30 rfl rfl rfl rfl (by decide +kernel) (by decide +kernel) (by decide +kernel) (by decide +kernel) T.free_super rfl rfl (by decide) (by decide) (by decide) bt_super ?_
  intro nm qual body kV doc pm an cdv ct cc us hl
  exact match us, hl with | [_, _], _ => rfl
theorem sc_Catalog_ziterz : FnScope ["self"] ["self"] (defScope s_Catalog_ziterz) := ⟨rfl, rfl, rfl, by decide +kernel, rfl, by decide +kernel, by decide +kernel⟩
theorem Cxt.it_iter (T : Cxt w K mg h base) : ∀ c i, tt_iter c = some i → ItOk PG w K mg base (gOf K w) 1 c i := by
  intro c i e
  have hc : c ∈ ([7] : List Nat) := by unfold tt_iter at e; split at e <;> simp_all
  simp only [List.mem_cons, List.mem_nil_iff, or_false] at hc
  subst hc
  cases e
  obtain ⟨fd, q⟩ := T.sy.def_ 27 (d := dx27) (ps := [("self" : Str)]) rfl rfl fun _ _ _ _ _ _ us hl => match us, hl with | [_], _ => rfl
  obtain ⟨m1, m2, m3⟩ := meth_ok (T.sy.fact 74)
  exact ⟨⟨_, fd, [("self" : Str)], m1, m2, itfn_ok (k := 0) q.F sc_Catalog_ziterz rfl rfl fun _ _ _ _ _ _ => ⟨rfl, T.free_iter, (by first | exact .inl rfl | exact .inr (.inl rfl) | exact .inr (.inr rfl))⟩, q.B⟩⟩
theorem Cxt.no_name (T : Cxt w K mg h base) : ∀ c ∈ [21, 22, 23], PySem.W.findIn K (.ref (ga K (cnm c))) "name" = some none := by
  intro c hc
  simp only [List.mem_cons, List.mem_nil_iff, or_false] at hc
  rcases hc with rfl | rfl | rfl
  · exact noat_ok (T.sy.fact 138)
  · exact noat_ok (T.sy.fact 139)
  · exact noat_ok (T.sy.fact 140)
theorem Cxt.xf (T : Cxt w K mg h base) : ∀ c ∈ [21, 22, 23], XfC K (ga K (cnm c)) := by
  intro c hc
  simp only [List.mem_cons, List.mem_nil_iff, or_false] at hc
  rcases hc with rfl | rfl | rfl
  · exact excB_xf (T.sy.fact 5)
  · exact excB_xf (T.sy.fact 9)
  · exact excB_xf (T.sy.fact 13)
theorem Cxt.xi (T : Cxt w K mg h base) : ∀ c ∈ [21, 22, 23], XiC K (ga K (cnm c)) := by
  intro c hc
  simp only [List.mem_cons, List.mem_nil_iff, or_false] at hc
  rcases hc with rfl | rfl | rfl
  · exact excB_xi (T.sy.fact 5)
  · exact excB_xi (T.sy.fact 9)
  · exact excB_xi (T.sy.fact 13)
theorem Cxt.exk_BadKind (T : Cxt w K mg h base) : ∀ c ∈ [21, 22, 23], PySem.W.kitOne K (.ref (ga K (cnm c))) (.ref (ga K "BadKind")) = some (subE c 22) := by
  intro c hc
  simp only [List.mem_cons, List.mem_nil_iff, or_false] at hc
  rcases hc with rfl | rfl | rfl
  · exact of_decide_eq_true (T.sy.fact 125)
  · exact of_decide_eq_true (T.sy.fact 128)
  · exact of_decide_eq_true (T.sy.fact 131)
theorem Cxt.exk_NoKind (T : Cxt w K mg h base) : ∀ c ∈ [21, 22, 23], PySem.W.kitOne K (.ref (ga K (cnm c))) (.ref (ga K "NoKind")) = some (subE c 23) := by
  intro c hc
  simp only [List.mem_cons, List.mem_nil_iff, or_false] at hc
  rcases hc with rfl | rfl | rfl
  · exact of_decide_eq_true (T.sy.fact 133)
  · exact of_decide_eq_true (T.sy.fact 135)
  · exact of_decide_eq_true (T.sy.fact 137)
theorem Cxt.exk_RedoError (T : Cxt w K mg h base) : ∀ c ∈ [21, 22, 23], PySem.W.kitOne K (.ref (ga K (cnm c))) (.ref (ga K "RedoError")) = some (subE c 20) := by
  intro c hc
  simp only [List.mem_cons, List.mem_nil_iff, or_false] at hc
  rcases hc with rfl | rfl | rfl
  · exact of_decide_eq_true (T.sy.fact 124)
  · exact of_decide_eq_true (T.sy.fact 127)
  · exact of_decide_eq_true (T.sy.fact 130)
theorem Cxt.isi_list (T : Cxt w K mg h base) : ∀ t b, ti_list t = some b → PySem.W.kitOne (gOf K w).K (tgV (gOf K w) t) (.type "list") = some b := is_of (tab := ti_list) (u := (.type "list")) [0, 1, 2, 3, 4, 5, 6, 7] (fun c b e => by unfold ti_list at e; split at e <;> simp_all) ⟨fun _ e => by cases e; exact DN.kitB_ok (T.sy.fact 86), fun _ e => by cases e; exact DN.kitB_ok (T.sy.fact 87), fun _ e => by cases e; exact DN.kitB_ok (T.sy.fact 88), fun _ e => by cases e; exact DN.kitB_ok (T.sy.fact 89), fun _ e => by cases e; exact DN.kitB_ok (T.sy.fact 90), fun _ e => by cases e; exact DN.kitB_ok (T.sy.fact 91)⟩ (by
  intro c hc b e
  simp only [List.mem_cons, List.mem_nil_iff, or_false] at hc
  rcases hc with rfl | rfl | rfl | rfl | rfl | rfl | rfl | rfl
  · cases e; exact DN.kitB_ok (T.sy.fact 92)
  · cases e; exact DN.kitB_ok (T.sy.fact 93)
  · cases e; exact DN.kitB_ok (T.sy.fact 94)
  · cases e; exact DN.kitB_ok (T.sy.fact 95)
  · cases e; exact DN.kitB_ok (T.sy.fact 96)
  · cases e; exact DN.kitB_ok (T.sy.fact 97)
  · cases e; exact DN.kitB_ok (T.sy.fact 98)
  · cases e; exact DN.kitB_ok (T.sy.fact 99))
theorem Cxt.isc_list (T : Cxt w K mg h base) : ∀ c b, ti_list (.ins c) = some b → IsiC (gOf K w).K ((gOf K w).cl c) := by
  intro c b e
  have hc : c ∈ ([0, 1, 2, 3, 4, 5, 6, 7] : List Nat) := by unfold ti_list at e; split at e <;> simp_all
  simp only [List.mem_cons, List.mem_nil_iff, or_false] at hc
  rcases hc with rfl | rfl | rfl | rfl | rfl | rfl | rfl | rfl
  · exact isiB_ok (T.sy.fact 114)
  · exact isiB_ok (T.sy.fact 116)
  · exact isiB_ok (T.sy.fact 117)
  · exact isiB_ok (T.sy.fact 118)
  · exact isiB_ok (T.sy.fact 119)
  · exact isiB_ok (T.sy.fact 120)
  · exact isiB_ok (T.sy.fact 121)
  · exact isiB_ok (T.sy.fact 122)
theorem Cxt.isi_tuple (T : Cxt w K mg h base) : ∀ t b, ti_tuple t = some b → PySem.W.kitOne (gOf K w).K (tgV (gOf K w) t) (.type "tuple") = some b := is_of (tab := ti_tuple) (u := (.type "tuple")) [0, 1, 2, 3, 4, 5, 6, 7] (fun c b e => by unfold ti_tuple at e; split at e <;> simp_all) ⟨fun _ e => by cases e; exact DN.kitB_ok (T.sy.fact 100), fun _ e => by cases e; exact DN.kitB_ok (T.sy.fact 101), fun _ e => by cases e; exact DN.kitB_ok (T.sy.fact 102), fun _ e => by cases e; exact DN.kitB_ok (T.sy.fact 103), fun _ e => by cases e; exact DN.kitB_ok (T.sy.fact 104), fun _ e => by cases e; exact DN.kitB_ok (T.sy.fact 105)⟩ (by
  intro c hc b e
  simp only [List.mem_cons, List.mem_nil_iff, or_false] at hc
  rcases hc with rfl | rfl | rfl | rfl | rfl | rfl | rfl | rfl
  · cases e; exact DN.kitB_ok (T.sy.fact 106)
  · cases e; exact DN.kitB_ok (T.sy.fact 107)
  · cases e; exact DN.kitB_ok (T.sy.fact 108)
  · cases e; exact DN.kitB_ok (T.sy.fact 109)
  · cases e; exact DN.kitB_ok (T.sy.fact 110)
  · cases e; exact DN.kitB_ok (T.sy.fact 111)
  · cases e; exact DN.kitB_ok (T.sy.fact 112)
  · cases e; exact DN.kitB_ok (T.sy.fact 113))
theorem Cxt.isc_tuple (T : Cxt w K mg h base) : ∀ c b, ti_tuple (.ins c) = some b → IsiC (gOf K w).K ((gOf K w).cl c) := by
  intro c b e
  have hc : c ∈ ([0, 1, 2, 3, 4, 5, 6, 7] : List Nat) := by unfold ti_tuple at e; split at e <;> simp_all
  simp only [List.mem_cons, List.mem_nil_iff, or_false] at hc
  rcases hc with rfl | rfl | rfl | rfl | rfl | rfl | rfl | rfl
  · exact isiB_ok (T.sy.fact 114)
  · exact isiB_ok (T.sy.fact 116)
  · exact isiB_ok (T.sy.fact 117)
  · exact isiB_ok (T.sy.fact 118)
  · exact isiB_ok (T.sy.fact 119)
  · exact isiB_ok (T.sy.fact 120)
  · exact isiB_ok (T.sy.fact 121)
  · exact isiB_ok (T.sy.fact 122)
theorem Cxt.con_MARK (T : Cxt w K mg h base) : ∀ c p, tc_MARK c = some p → (∃ v u, Con (gOf K w).K ((gOf K w).cl c) "MARK" v u ∧ ∀ F, Is (gOf K w) F v p) ∧ ∀ i ∈ flT c, nmT i ≠ "MARK" := by
  intro c p e
  have hc : c ∈ ([0, 1, 2, 3, 4, 5] : List Nat) := by unfold tc_MARK at e; split at e <;> simp_all
  simp only [List.mem_cons, List.mem_nil_iff, or_false] at hc
  rcases hc with rfl | rfl | rfl | rfl | rfl | rfl
  · cases e; exact ⟨conB_ok (T.sy.fact 60), by decide⟩
  · cases e; exact ⟨conB_ok (T.sy.fact 61), by decide⟩
  · cases e; exact ⟨conB_ok (T.sy.fact 62), by decide⟩
  · cases e; exact ⟨conB_ok (T.sy.fact 63), by decide⟩
  · cases e; exact ⟨conB_ok (T.sy.fact 64), by decide⟩
  · cases e; exact ⟨conB_ok (T.sy.fact 65), by decide⟩
end
/-! the tries -/
theorem par_q_unknown0 : ∀ z ∈ zs_q_unknown0, ∀ a dx c fs τ L, clOne z a dx c fs τ L = clOne z 0 0 c fs τ L := by
  intro z hz a dx c fs τ L
  unfold zs_q_unknown0 at hz
  simp only [List.mem_cons, List.mem_nil_iff, or_false] at hz
  subst hz
  by_cases hl2 : 2 < τ.length <;> 
  cases hf0 : fget (flT c) fs 0 <;> cases hk20 : subE c 20 <;> cases hk22 : subE c 22 <;> simp [retD, andV, orV, notV, tstD, asB, clOne, killS, killT, retS, eThen, appA, consA, nilA, exfD, exiD, tupD, asPs, asP, dropO, dropN, le_line, bind, M.bnd, pure, M.ret, hl2, hf0, hk20, hk22]

theorem par_q_refusal0 : ∀ z ∈ zs_q_refusal0, ∀ a dx c fs τ L, clOne z a dx c fs τ L = clOne z 0 0 c fs τ L := by
  intro z hz a dx c fs τ L
  unfold zs_q_refusal0 at hz
  simp only [List.mem_cons, List.mem_nil_iff, or_false] at hz
  subst hz
  by_cases hl1 : 1 < τ.length <;> 
  cases hf0 : fget (flT c) fs 0 <;> cases hk20 : subE c 20 <;> cases hk23 : subE c 23 <;> simp [retD, andV, orV, notV, tstD, asB, clOne, killS, killT, retS, eThen, appA, consA, nilA, exfD, exiD, tupD, asPs, asP, dropO, dropN, le_line, bind, M.bnd, pure, M.ret, hl1, hf0, hk20, hk23]

/-! each def keeps its promise -/
section
variable {w : World} {K : PySem.W.Frag} {mg : Str → Option Value} {h base : Heap}
theorem sc_q_sorted : FnScope [("_law_rows" : Str), ("_law_found" : Str), ("_law_row" : Str), ("_law_at" : Str)] [("_law_rows" : Str)] (defScope s_q_sorted) := ⟨rfl, rfl, rfl, by decide +kernel, rfl, by decide +kernel, by decide +kernel⟩
theorem Cxt.ok_q_sorted (T : Cxt w K mg h base) : FnD PG w K mg base (gOf K w) (fAd K dx0.at_) 2 1 f_q_sorted := by
  obtain ⟨fd, q⟩ := T.sy.def_ 0 (d := dx0) (ps := [("_law_rows" : Str)]) rfl rfl fun _ _ _ _ _ _ us hl => match us, hl with | [_], _ => rfl
  refine ⟨⟨fd, [("_law_rows" : Str)], fn_scope false (fn_ok (k := 1) q.F sc_q_sorted rfl rfl fun cdv A outer s0 H E hr tk po => ?_), q.B⟩, q.F.kp⟩
  have scN := (sc_q_sorted).nd
  have hu := hu65 hr
  have hu4 := hu64 hr
  exact (dss_cons (ds_set (i := 1) scN rfl (by first | exact .inl rfl | exact .inr rfl) (de_new da_nil)) (dss_cons (ds_for po rfl (di_seq rfl (de_var (i := 0) rfl (by first | exact .inl rfl | exact .inr (.inl rfl) | exact .inr (.inr rfl)))) (pg_name (i := 2) scN rfl (by first | exact .inl rfl | exact .inr rfl) (by first | exact .inl rfl | exact .inr rfl)) (tg_name 2) (ds_trim (ds_kill [0, 3] (dss_cons (ds_set (i := 3) scN rfl (by first | exact .inl rfl | exact .inr rfl) de_int) (dss_cons (ds_while po (PW.pt (dw_and (dt_lt rfl hu4 (de_var (i := 3) rfl (by first | exact .inl rfl | exact .inr (.inl rfl) | exact .inr (.inr rfl))) (de_callB call_len (cd_len rfl) rfl (T.free_len) bt_len (da_cons (de_var (i := 1) rfl (by first | exact .inl rfl | exact .inr (.inl rfl) | exact .inr (.inr rfl))) da_nil))) (dw_and1 (dt_lt rfl hu4 (de_ixA rfl rfl hu (de_var (i := 1) rfl (by first | exact .inl rfl | exact .inr (.inl rfl) | exact .inr (.inr rfl))) (de_var (i := 3) rfl (by first | exact .inl rfl | exact .inr (.inl rfl) | exact .inr (.inr rfl))) fun _ _ => rfl) (de_var (i := 2) rfl (by first | exact .inl rfl | exact .inr (.inl rfl) | exact .inr (.inr rfl))))))) (ds_trim (dss_one (ds_set (i := 3) scN rfl (by first | exact .inl rfl | exact .inr rfl) (de_add rfl (de_var (i := 3) rfl (by first | exact .inl rfl | exact .inr (.inl rfl) | exact .inr (.inr rfl))) de_int))))) (dss_one (ds_if (PW.pt (dw_or (dt_eq rfl hu4 (de_var (i := 3) rfl (by first | exact .inl rfl | exact .inr (.inl rfl) | exact .inr (.inr rfl))) (de_callB call_len (cd_len rfl) rfl (T.free_len) bt_len (da_cons (de_var (i := 1) rfl (by first | exact .inl rfl | exact .inr (.inl rfl) | exact .inr (.inr rfl))) da_nil))) (dw_or1 (dt_ne rfl hu4 (de_ixA rfl rfl hu (de_var (i := 1) rfl (by first | exact .inl rfl | exact .inr (.inl rfl) | exact .inr (.inr rfl))) (de_var (i := 3) rfl (by first | exact .inl rfl | exact .inr (.inl rfl) | exact .inr (.inr rfl))) fun _ _ => rfl) (de_var (i := 2) rfl (by first | exact .inl rfl | exact .inr (.inl rfl) | exact .inr (.inr rfl))))))) (dss_one (ds_expr (de_mth rfl PySem.F.plainAttrs_list PySem.F.slot_list_insert PySem.F.type_list_insert mt_insertR td_list md_insert (de_var (i := 1) rfl (by first | exact .inl rfl | exact .inr (.inl rfl) | exact .inr (.inr rfl))) (da_cons (de_var (i := 3) rfl (by first | exact .inl rfl | exact .inr (.inl rfl) | exact .inr (.inr rfl))) (da_cons (de_var (i := 2) rfl (by first | exact .inl rfl | exact .inr (.inl rfl) | exact .inr (.inr rfl))) da_nil))))) dss_nil))))))) (ds_kill [0, 2, 3] (dss_one (ds_ret (de_var (i := 1) rfl (by first | exact .inl rfl | exact .inr (.inl rfl) | exact .inr (.inr rfl))))))))
theorem sc_q_groups : FnScope [("_law_kinds" : Str), ("_law_groups_here" : Str), ("_law_kind_here" : Str), ("_law_role_here" : Str)] [("_law_kinds" : Str)] (defScope s_q_groups) := ⟨rfl, rfl, rfl, by decide +kernel, rfl, by decide +kernel, by decide +kernel⟩
theorem Cxt.ok_q_groups (T : Cxt w K mg h base) : FnD PG w K mg base (gOf K w) (fAd K dx1.at_) 4 1 f_q_groups := by
  obtain ⟨fd, q⟩ := T.sy.def_ 1 (d := dx1) (ps := [("_law_kinds" : Str)]) rfl rfl fun _ _ _ _ _ _ us hl => match us, hl with | [_], _ => rfl
  refine ⟨⟨fd, [("_law_kinds" : Str)], fn_scope false (fn_ok (k := 3) q.F sc_q_groups rfl rfl fun cdv A outer s0 H E hr tk po => ?_), q.B⟩, q.F.kp⟩
  have scN := (sc_q_groups).nd
  have hu := hu65 hr
  have hu4 := hu64 hr
  exact (dss_cons (ds_set (i := 1) scN rfl (by first | exact .inl rfl | exact .inr rfl) (de_new da_nil)) (dss_cons (ds_for po rfl (di_seq rfl (de_var (i := 0) rfl (by first | exact .inl rfl | exact .inr (.inl rfl) | exact .inr (.inr rfl)))) (pg_name (i := 2) scN rfl (by first | exact .inl rfl | exact .inr rfl) (by first | exact .inl rfl | exact .inr rfl)) (tg_name 2) (ds_trim (ds_kill [0, 3] (dss_one (ds_for po rfl (di_seq rfl (de_ixA rfl rfl hu (de_var (i := 2) rfl (by first | exact .inl rfl | exact .inr (.inl rfl) | exact .inr (.inr rfl))) de_int fun _ _ => rfl)) (pg_name (i := 3) scN rfl (by first | exact .inl rfl | exact .inr rfl) (by first | exact .inl rfl | exact .inr rfl)) (tg_name 3) (ds_trim (ds_kill [2] (dss_one (ds_expr (de_mth rfl PySem.F.plainAttrs_list PySem.F.slot_list_append PySem.F.type_list_append mt_append td_list md_append (de_var (i := 1) rfl (by first | exact .inl rfl | exact .inr (.inl rfl) | exact .inr (.inr rfl))) (da_cons (de_ixA rfl rfl hu (de_var (i := 3) rfl (by first | exact .inl rfl | exact .inr (.inl rfl) | exact .inr (.inr rfl))) de_int fun _ _ => rfl) da_nil))))))))))) (ds_kill [0, 2, 3] (dss_one (ds_ret (de_callX (T.ok_q_sorted) (hr.mono (by decide)) rfl T.glo__law_sorted tk (da_cons (de_var (i := 1) rfl (by first | exact .inl rfl | exact .inr (.inl rfl) | exact .inr (.inr rfl))) da_nil)))))))
theorem sc_q_made_groups : FnScope [("_law_kinds" : Str), ("_law_groups_here" : Str), ("_law_kind_here" : Str), ("_law_role_here" : Str)] [("_law_kinds" : Str)] (defScope s_q_made_groups) := ⟨rfl, rfl, rfl, by decide +kernel, rfl, by decide +kernel, by decide +kernel⟩
theorem Cxt.ok_q_made_groups (T : Cxt w K mg h base) : FnD PG w K mg base (gOf K w) (fAd K dx2.at_) 4 1 f_q_made_groups := by
  obtain ⟨fd, q⟩ := T.sy.def_ 2 (d := dx2) (ps := [("_law_kinds" : Str)]) rfl rfl fun _ _ _ _ _ _ us hl => match us, hl with | [_], _ => rfl
  refine ⟨⟨fd, [("_law_kinds" : Str)], fn_scope false (fn_ok (k := 3) q.F sc_q_made_groups rfl rfl fun cdv A outer s0 H E hr tk po => ?_), q.B⟩, q.F.kp⟩
  have scN := (sc_q_made_groups).nd
  have hu := hu65 hr
  have hu4 := hu64 hr
  exact (dss_cons (ds_set (i := 1) scN rfl (by first | exact .inl rfl | exact .inr rfl) (de_new da_nil)) (dss_cons (ds_for po rfl (di_seq rfl (de_var (i := 0) rfl (by first | exact .inl rfl | exact .inr (.inl rfl) | exact .inr (.inr rfl)))) (pg_name (i := 2) scN rfl (by first | exact .inl rfl | exact .inr rfl) (by first | exact .inl rfl | exact .inr rfl)) (tg_name 2) (ds_trim (ds_kill [0, 3] (dss_one (ds_for po rfl (di_seq rfl (de_ixA rfl rfl hu (de_var (i := 2) rfl (by first | exact .inl rfl | exact .inr (.inl rfl) | exact .inr (.inr rfl))) de_int fun _ _ => rfl)) (pg_name (i := 3) scN rfl (by first | exact .inl rfl | exact .inr rfl) (by first | exact .inl rfl | exact .inr rfl)) (tg_name 3) (ds_trim (ds_kill [2] (dss_one (ds_if (dt_gt (de_ixA rfl rfl hu (de_var (i := 3) rfl (by first | exact .inl rfl | exact .inr (.inl rfl) | exact .inr (.inr rfl))) de_int fun _ _ => rfl) de_int) (dss_one (ds_expr (de_mth rfl PySem.F.plainAttrs_list PySem.F.slot_list_append PySem.F.type_list_append mt_append td_list md_append (de_var (i := 1) rfl (by first | exact .inl rfl | exact .inr (.inl rfl) | exact .inr (.inr rfl))) (da_cons (de_ixA rfl rfl hu (de_var (i := 3) rfl (by first | exact .inl rfl | exact .inr (.inl rfl) | exact .inr (.inr rfl))) de_int fun _ _ => rfl) da_nil)))) dss_nil))))))))) (ds_kill [0, 2, 3] (dss_one (ds_ret (de_callX (T.ok_q_sorted) (hr.mono (by decide)) rfl T.glo__law_sorted tk (da_cons (de_var (i := 1) rfl (by first | exact .inl rfl | exact .inr (.inl rfl) | exact .inr (.inr rfl))) da_nil)))))))
theorem sc_Role_makes : FnScope [("self" : Str)] [("self" : Str)] (defScope s_Role_makes) := ⟨rfl, rfl, rfl, by decide +kernel, rfl, by decide +kernel, by decide +kernel⟩
theorem Cxt.ok_Role_makes (T : Cxt w K mg h base) : FnD PG w K mg base (gOf K w) (fAd K dx3.at_) 2 1 f_Role_makes := by
  obtain ⟨fd, q⟩ := T.sy.def_ 3 (d := dx3) (ps := [("self" : Str)]) rfl rfl fun _ _ _ _ _ _ us hl => match us, hl with | [_], _ => rfl
  refine ⟨⟨fd, [("self" : Str)], fn_scope false (fn_ok (k := 1) q.F sc_Role_makes rfl rfl fun cdv A outer s0 H E hr tk po => ?_), q.B⟩, q.F.kp⟩
  have scN := (sc_Role_makes).nd
  have hu := hu65 hr
  have hu4 := hu64 hr
  exact (ds_kill [0] (dss_one (ds_ret de_bl)))
theorem sc_Made_makes : FnScope [("self" : Str)] [("self" : Str)] (defScope s_Made_makes) := ⟨rfl, rfl, rfl, by decide +kernel, rfl, by decide +kernel, by decide +kernel⟩
theorem Cxt.ok_Made_makes (T : Cxt w K mg h base) : FnD PG w K mg base (gOf K w) (fAd K dx4.at_) 2 1 f_Made_makes := by
  obtain ⟨fd, q⟩ := T.sy.def_ 4 (d := dx4) (ps := [("self" : Str)]) rfl rfl fun _ _ _ _ _ _ us hl => match us, hl with | [_], _ => rfl
  refine ⟨⟨fd, [("self" : Str)], fn_scope false (fn_ok (k := 1) q.F sc_Made_makes rfl rfl fun cdv A outer s0 H E hr tk po => ?_), q.B⟩, q.F.kp⟩
  have scN := (sc_Made_makes).nd
  have hu := hu65 hr
  have hu4 := hu64 hr
  exact (ds_kill [0] (dss_one (ds_ret de_bl)))
theorem sc_Fresh_makes : FnScope [("self" : Str)] [("self" : Str)] (defScope s_Fresh_makes) := ⟨rfl, rfl, rfl, by decide +kernel, rfl, by decide +kernel, by decide +kernel⟩
theorem Cxt.ok_Fresh_makes (T : Cxt w K mg h base) : FnD PG w K mg base (gOf K w) (fAd K dx5.at_) 2 1 f_Fresh_makes := by
  obtain ⟨fd, q⟩ := T.sy.def_ 5 (d := dx5) (ps := [("self" : Str)]) rfl rfl fun _ _ _ _ _ _ us hl => match us, hl with | [_], _ => rfl
  refine ⟨⟨fd, [("self" : Str)], fn_scope false (fn_ok (k := 1) q.F sc_Fresh_makes rfl rfl fun cdv A outer s0 H E hr tk po => ?_), q.B⟩, q.F.kp⟩
  have scN := (sc_Fresh_makes).nd
  have hu := hu65 hr
  have hu4 := hu64 hr
  exact (ds_kill [0] (dss_one (ds_ret de_bl)))
theorem Cxt.mt_makes (T : Cxt w K mg h base) : ∀ c fn, tm_makes c = some fn → MOk PG w K mg base (gOf K w) "makes" 2 c 1 fn := by
  intro c fn e
  have hc : c ∈ ([0, 1, 2, 3, 4, 5] : List Nat) := by unfold tm_makes at e; split at e <;> simp_all
  simp only [List.mem_cons, List.mem_nil_iff, or_false] at hc
  rcases hc with rfl | rfl | rfl | rfl | rfl | rfl
  · cases e; exact mok_of (meth_ok (T.sy.fact 75)) (T.ok_Role_makes) (by decide) (by decide)
  · cases e; exact mok_of (meth_inh (meth_ok (T.sy.fact 76)) (T.sy.fact 71)) (T.ok_Role_makes) (by decide) (by decide)
  · cases e; exact mok_of (meth_ok (T.sy.fact 77)) (T.ok_Made_makes) (by decide) (by decide)
  · cases e; exact mok_of (meth_ok (T.sy.fact 78)) (T.ok_Fresh_makes) (by decide) (by decide)
  · cases e; exact mok_of (meth_inh (meth_ok (T.sy.fact 79)) (T.sy.fact 72)) (T.ok_Made_makes) (by decide) (by decide)
  · cases e; exact mok_of (meth_inh (meth_ok (T.sy.fact 80)) (T.sy.fact 73)) (T.ok_Fresh_makes) (by decide) (by decide)
theorem Cxt.ms_makes (T : Cxt w K mg h base) : ∃ c fn, tm_makes c = some fn := ⟨0, _, rfl⟩
theorem sc_Catalog_made_groups : FnScope [("self" : Str), ("kind" : Str), ("role" : Str)] [("self" : Str)] (defScope s_Catalog_made_groups) := ⟨rfl, rfl, rfl, by decide +kernel, rfl, by decide +kernel, by decide +kernel⟩
theorem Cxt.ok_Catalog_made_groups (T : Cxt w K mg h base) : FnD PG w K mg base (gOf K w) (fAd K dx6.at_) 4 1 f_Catalog_made_groups := by
  obtain ⟨fd, q⟩ := T.sy.def_ 6 (d := dx6) (ps := [("self" : Str)]) rfl rfl fun _ _ _ _ _ _ us hl => match us, hl with | [_], _ => rfl
  refine ⟨⟨fd, [("self" : Str)], fn_scope true (fn_ok (k := 3) q.F sc_Catalog_made_groups rfl rfl fun cdv A outer s0 H E hr tk po => ?_), q.B⟩, q.F.kp⟩
  have scN := (sc_Catalog_made_groups).nd
  have hu := hu65 hr
  have hu4 := hu64 hr
  exact (dss_one (ds_ret (de_callB (cr_sortSet rfl hu4) (cd_sortS (mu := true) rfl rfl) rfl (T.free_sorted) bt_sorted (da_cons (de_sc2 (own := [("kind", 1), ("role", 2)]) (vs1 := [2]) rfl rfl hu rfl scN (di_seq rfl (de_att 3 rfl rfl (de_var (i := 0) rfl (by first | exact .inl rfl | exact .inr (.inl rfl) | exact .inr (.inr rfl))))) (blkOk_by rfl) (by decide) (fun _ _ _ _ _ => (pg_name (i := 1) scN rfl (by first | exact .inl rfl | exact .inr rfl) (by first | exact .inl rfl | exact .inr rfl))) (tw_name 1 (by decide)) (fun sB HB CB clB fpB => dts_nil) (fun sB HB CB clB fpB => (di_seq rfl (de_att 2 rfl rfl (de_var (i := 1) rfl (by first | exact .inl rfl | exact .inr (.inl rfl) | exact .inr (.inr rfl)))))) (fun _ _ _ _ _ => (pg_name (i := 2) scN rfl (by first | exact .inl rfl | exact .inr rfl) (by first | exact .inl rfl | exact .inr rfl))) (tw_name 2 (by decide)) (fun sB HB CB clB fpB => (dts_one (dt_val (de_meth0 rfl T.mt_makes T.ms_makes (hr.mono (by decide)) tk_never (de_var (i := 2) rfl (by first | exact .inl rfl | exact .inr (.inl rfl) | exact .inr (.inr rfl))))))) (fun sB HB CB clB fpB => (de_att 1 rfl rfl (de_var (i := 2) rfl (by first | exact .inl rfl | exact .inr (.inl rfl) | exact .inr (.inr rfl)))))) da_nil))))
theorem Cxt.mt_made_groups (T : Cxt w K mg h base) : ∀ c fn, tm_made_groups c = some fn → MOk PG w K mg base (gOf K w) "made_groups" 4 c 1 fn := by
  intro c fn e
  have hc : c ∈ ([7] : List Nat) := by unfold tm_made_groups at e; split at e <;> simp_all
  simp only [List.mem_cons, List.mem_nil_iff, or_false] at hc
  subst hc
  cases e; exact mok_of (meth_ok (T.sy.fact 82)) (T.ok_Catalog_made_groups) (by decide) (by decide)
theorem Cxt.ms_made_groups (T : Cxt w K mg h base) : ∃ c fn, tm_made_groups c = some fn := ⟨7, _, rfl⟩
theorem sc_Catalog_groups : FnScope [("self" : Str), ("kind" : Str), ("role" : Str)] [("self" : Str)] (defScope s_Catalog_groups) := ⟨rfl, rfl, rfl, by decide +kernel, rfl, by decide +kernel, by decide +kernel⟩
theorem Cxt.ok_Catalog_groups (T : Cxt w K mg h base) : FnD PG w K mg base (gOf K w) (fAd K dx7.at_) 2 1 f_Catalog_groups := by
  obtain ⟨fd, q⟩ := T.sy.def_ 7 (d := dx7) (ps := [("self" : Str)]) rfl rfl fun _ _ _ _ _ _ us hl => match us, hl with | [_], _ => rfl
  refine ⟨⟨fd, [("self" : Str)], fn_scope true (fn_ok (k := 1) q.F sc_Catalog_groups rfl rfl fun cdv A outer s0 H E hr tk po => ?_), q.B⟩, q.F.kp⟩
  have scN := (sc_Catalog_groups).nd
  have hu := hu65 hr
  have hu4 := hu64 hr
  exact (dss_one (ds_ret (de_callB (cr_sortSet rfl hu4) (cd_sortS (mu := true) rfl rfl) rfl (T.free_sorted) bt_sorted (da_cons (de_sc2 (own := [("kind", 1), ("role", 2)]) (vs1 := [2]) rfl rfl hu rfl scN (di_seq rfl (de_att 3 rfl rfl (de_var (i := 0) rfl (by first | exact .inl rfl | exact .inr (.inl rfl) | exact .inr (.inr rfl))))) (blkOk_by rfl) (by decide) (fun _ _ _ _ _ => (pg_name (i := 1) scN rfl (by first | exact .inl rfl | exact .inr rfl) (by first | exact .inl rfl | exact .inr rfl))) (tw_name 1 (by decide)) (fun sB HB CB clB fpB => dts_nil) (fun sB HB CB clB fpB => (di_seq rfl (de_att 2 rfl rfl (de_var (i := 1) rfl (by first | exact .inl rfl | exact .inr (.inl rfl) | exact .inr (.inr rfl)))))) (fun _ _ _ _ _ => (pg_name (i := 2) scN rfl (by first | exact .inl rfl | exact .inr rfl) (by first | exact .inl rfl | exact .inr rfl))) (tw_name 2 (by decide)) (fun sB HB CB clB fpB => dts_nil) (fun sB HB CB clB fpB => (de_att 1 rfl rfl (de_var (i := 2) rfl (by first | exact .inl rfl | exact .inr (.inl rfl) | exact .inr (.inr rfl)))))) da_nil))))
theorem Cxt.mt_groups (T : Cxt w K mg h base) : ∀ c fn, tm_groups c = some fn → MOk PG w K mg base (gOf K w) "groups" 2 c 1 fn := by
  intro c fn e
  have hc : c ∈ ([7] : List Nat) := by unfold tm_groups at e; split at e <;> simp_all
  simp only [List.mem_cons, List.mem_nil_iff, or_false] at hc
  subst hc
  cases e; exact mok_of (meth_ok (T.sy.fact 83)) (T.ok_Catalog_groups) (by decide) (by decide)
theorem Cxt.ms_groups (T : Cxt w K mg h base) : ∃ c fn, tm_groups c = some fn := ⟨7, _, rfl⟩
theorem sc_Catalog_named : FnScope [("self" : Str), ("name" : Str), ("kind" : Str)] [("self" : Str), ("name" : Str)] (defScope s_Catalog_named) := ⟨rfl, rfl, rfl, by decide +kernel, rfl, by decide +kernel, by decide +kernel⟩
theorem Cxt.ok_Catalog_named (T : Cxt w K mg h base) : FnD PG w K mg base (gOf K w) (fAd K dx8.at_) 3 2 f_Catalog_named := by
  obtain ⟨fd, q⟩ := T.sy.def_ 8 (d := dx8) (ps := [("self" : Str), ("name" : Str)]) rfl rfl fun _ _ _ _ _ _ us hl => match us, hl with | [_, _], _ => rfl
  refine ⟨⟨fd, [("self" : Str), ("name" : Str)], fn_scope false (fn_ok (k := 2) q.F sc_Catalog_named rfl rfl fun cdv A outer s0 H E hr tk po => ?_), q.B⟩, q.F.kp⟩
  have scN := (sc_Catalog_named).nd
  have hu := hu65 hr
  have hu4 := hu64 hr
  exact (dss_cons (ds_for po rfl (di_seq rfl (de_att 3 rfl rfl (de_var (i := 0) rfl (by first | exact .inl rfl | exact .inr (.inl rfl) | exact .inr (.inr rfl))))) (pg_name (i := 2) scN rfl (by first | exact .inl rfl | exact .inr rfl) (by first | exact .inl rfl | exact .inr rfl)) (tg_name 2) (ds_trim (ds_kill [0] (dss_one (ds_if (dt_eq rfl hu4 (de_att 0 rfl rfl (de_var (i := 2) rfl (by first | exact .inl rfl | exact .inr (.inl rfl) | exact .inr (.inr rfl)))) (de_var (i := 1) rfl (by first | exact .inl rfl | exact .inr (.inl rfl) | exact .inr (.inr rfl)))) (ds_kill [1] (dss_one (ds_ret (de_var (i := 2) rfl (by first | exact .inl rfl | exact .inr (.inl rfl) | exact .inr (.inr rfl)))))) dss_nil))))) (ds_kill [0, 2] (dss_one (ds_raiseX (T.err_23) rfl rfl tk (hr.mono (by decide)) rfl T.glo_NoKind (da_cons (de_var (i := 1) rfl (by first | exact .inl rfl | exact .inr (.inl rfl) | exact .inr (.inr rfl))) da_nil)))))
theorem Cxt.mt_named (T : Cxt w K mg h base) : ∀ c fn, tm_named c = some fn → MOk PG w K mg base (gOf K w) "named" 3 c 2 fn := by
  intro c fn e
  have hc : c ∈ ([7] : List Nat) := by unfold tm_named at e; split at e <;> simp_all
  simp only [List.mem_cons, List.mem_nil_iff, or_false] at hc
  subst hc
  cases e; exact mok_of (meth_ok (T.sy.fact 81)) (T.ok_Catalog_named) (by decide) (by decide)
theorem Cxt.ms_named (T : Cxt w K mg h base) : ∃ c fn, tm_named c = some fn := ⟨7, _, rfl⟩
theorem Cxt.exm_q_unknown0 (T : Cxt w K mg h base) : ∀ c ∈ tb_q_unknown0, ∀ z ∈ zs_q_unknown0, PySem.W.exmOne K (.ref ((gOf K w).cl c)) (.ref ((gOf K w).cl z.c)) = some (subE c z.c) := by
  intro c hc z hz
  unfold tb_q_unknown0 at hc
  unfold zs_q_unknown0 at hz
  simp only [List.mem_cons, List.mem_nil_iff, or_false] at hc hz
  rcases hc with rfl | rfl | rfl <;>
  subst hz <;>
  first
  | exact of_decide_eq_true (T.sy.fact 123)
  | exact of_decide_eq_true (T.sy.fact 126)
  | exact of_decide_eq_true (T.sy.fact 129)
theorem sc_q_unknown : FnScope [("_law_catalog" : Str), ("_law_name" : Str), ("e" : Str)] [("_law_catalog" : Str), ("_law_name" : Str)] (defScope s_q_unknown) := ⟨rfl, rfl, rfl, by decide +kernel, rfl, by decide +kernel, by decide +kernel⟩
theorem Cxt.ok_q_unknown (T : Cxt w K mg h base) : FnD PG w K mg base (gOf K w) (fAd K dx9.at_) 5 2 f_q_unknown := by
  obtain ⟨fd, q⟩ := T.sy.def_ 9 (d := dx9) (ps := [("_law_catalog" : Str), ("_law_name" : Str)]) rfl rfl fun _ _ _ _ _ _ us hl => match us, hl with | [_, _], _ => rfl
  refine ⟨⟨fd, [("_law_catalog" : Str), ("_law_name" : Str)], fn_scope false (fn_ok (k := 4) q.F sc_q_unknown rfl rfl fun cdv A outer s0 H E hr tk po => ?_), q.B⟩, q.F.kp⟩
  have scN := (sc_q_unknown).nd
  have hu := hu65 hr
  have hu4 := hu64 hr
  exact (dss_cons (ds_try rfl rfl scN tk (fun pn xe W tk po => (dss_one (ds_expr (de_meth rfl T.mt_named T.ms_named (hr.mono (by decide)) tk (de_var (i := 0) rfl (by first | exact .inl rfl | exact .inr (.inl rfl) | exact .inr (.inr rfl))) (da_cons (de_var (i := 1) rfl (by first | exact .inl rfl | exact .inr (.inl rfl) | exact .inr (.inr rfl))) da_nil))))) (.named (i := 2) rfl rfl rfl ⟨rfl, rfl, .inl T.glo_NoKind⟩ (fun a oe dx c pn hc hz hf => (ds_kill [0, 1] (dss_one (ds_ret (de_tup (da_cons (de_exf 0 rfl (T.xf c hc) (T.no_name c hc) nmT_nodup hz hf rfl (by first | exact .inl rfl | exact .inr (.inl rfl) | exact .inr (.inr rfl))) (da_cons (de_and (de_exi (T.xi c hc) hz hf rfl (by first | exact .inl rfl | exact .inr (.inl rfl) | exact .inr (.inr rfl)) (.own _) (T.exk_RedoError c hc) (by exact pe_glob rfl T.glo_RedoError rfl) (by exact rfl) (T.free_isinstance) bt_isinstance) (de_one (de_not (de_exi (T.xi c hc) hz hf rfl (by first | exact .inl rfl | exact .inr (.inl rfl) | exact .inr (.inr rfl)) (.own _) (T.exk_BadKind c hc) (by exact pe_glob rfl T.glo_BadKind rfl) (by exact rfl) (T.free_isinstance) bt_isinstance)))) da_nil))))))) .nil) (T.exm_q_unknown0) par_q_unknown0) (ds_kill [0, 1] (dss_one (ds_ret (de_tup da_nil)))))
theorem sc_q_told : FnScope [("_law_kind_here" : Str), ("_law_role_here" : Str)] [("_law_kind_here" : Str)] (defScope s_q_told) := ⟨rfl, rfl, rfl, by decide +kernel, rfl, by decide +kernel, by decide +kernel⟩
theorem Cxt.ok_q_told (T : Cxt w K mg h base) : FnD PG w K mg base (gOf K w) (fAd K dx10.at_) 2 1 f_q_told := by
  obtain ⟨fd, q⟩ := T.sy.def_ 10 (d := dx10) (ps := [("_law_kind_here" : Str)]) rfl rfl fun _ _ _ _ _ _ us hl => match us, hl with | [_], _ => rfl
  refine ⟨⟨fd, [("_law_kind_here" : Str)], fn_scope false (fn_ok (k := 1) q.F sc_q_told rfl rfl fun cdv A outer s0 H E hr tk po => ?_), q.B⟩, q.F.kp⟩
  have scN := (sc_q_told).nd
  have hu := hu65 hr
  have hu4 := hu64 hr
  exact (dss_one (ds_ret (de_tup (da_cons (de_att 0 rfl rfl (de_var (i := 0) rfl (by first | exact .inl rfl | exact .inr (.inl rfl) | exact .inr (.inr rfl)))) (da_cons (de_lc (own := [("_law_role_here", 1)]) (mu := false) rfl scN (di_seq rfl (de_att 2 rfl rfl (de_var (i := 0) rfl (by first | exact .inl rfl | exact .inr (.inl rfl) | exact .inr (.inr rfl))))) (blkOk_by rfl) (fun _ _ _ _ _ => (pg_name (i := 1) scN rfl (by first | exact .inl rfl | exact .inr rfl) (by first | exact .inl rfl | exact .inr rfl))) (tw_name 1 (by decide)) (fun sB HB CB clB fpB => dts_nil) (fun sB HB CB clB fpB => (de_tup (da_cons (de_att 0 rfl rfl (de_var (i := 1) rfl (by first | exact .inl rfl | exact .inr (.inl rfl) | exact .inr (.inr rfl)))) (da_cons (de_att 1 rfl rfl (de_var (i := 1) rfl (by first | exact .inl rfl | exact .inr (.inl rfl) | exact .inr (.inr rfl)))) (da_cons (de_con rfl (T.con_MARK) (de_var (i := 1) rfl (by first | exact .inl rfl | exact .inr (.inl rfl) | exact .inr (.inr rfl)))) da_nil)))))) da_nil)))))
theorem sc_Catalog_zlenz : FnScope [("self" : Str)] [("self" : Str)] (defScope s_Catalog_zlenz) := ⟨rfl, rfl, rfl, by decide +kernel, rfl, by decide +kernel, by decide +kernel⟩
theorem Cxt.ok_Catalog_zlenz (T : Cxt w K mg h base) : FnD PG w K mg base (gOf K w) (fAd K dx11.at_) 2 1 f_Catalog_zlenz := by
  obtain ⟨fd, q⟩ := T.sy.def_ 11 (d := dx11) (ps := [("self" : Str)]) rfl rfl fun _ _ _ _ _ _ us hl => match us, hl with | [_], _ => rfl
  refine ⟨⟨fd, [("self" : Str)], fn_scope false (fn_ok (k := 1) q.F sc_Catalog_zlenz rfl rfl fun cdv A outer s0 H E hr tk po => ?_), q.B⟩, q.F.kp⟩
  have scN := (sc_Catalog_zlenz).nd
  have hu := hu65 hr
  have hu4 := hu64 hr
  exact (dss_one (ds_ret (de_callB call_len (cd_len rfl) rfl (T.free_len) bt_len (da_cons (de_att 3 rfl rfl (de_var (i := 0) rfl (by first | exact .inl rfl | exact .inr (.inl rfl) | exact .inr (.inr rfl)))) da_nil))))
theorem Cxt.mt_zlenz (T : Cxt w K mg h base) : ∀ c fn, tm_zlenz c = some fn → SOk PG w K mg base (gOf K w) "__len__" 2 c 1 fn := by
  intro c fn e
  have hc : c ∈ ([7] : List Nat) := by unfold tm_zlenz at e; split at e <;> simp_all
  simp only [List.mem_cons, List.mem_nil_iff, or_false] at hc
  subst hc
  cases e; exact sok_of (meth_ok (T.sy.fact 84)) (T.sy.fact 85) (T.ok_Catalog_zlenz) (by decide)
theorem Cxt.ms_zlenz (T : Cxt w K mg h base) : ∃ c fn, tm_zlenz c = some fn := ⟨7, _, rfl⟩
theorem sc_q_plain : FnScope [("_law_kind_here" : Str), ("_law_marks" : Str), ("_law_role_here" : Str)] [("_law_kind_here" : Str)] (defScope s_q_plain) := ⟨rfl, rfl, rfl, by decide +kernel, rfl, by decide +kernel, by decide +kernel⟩
theorem Cxt.ok_q_plain (T : Cxt w K mg h base) : FnD PG w K mg base (gOf K w) (fAd K dx12.at_) 2 1 f_q_plain := by
  obtain ⟨fd, q⟩ := T.sy.def_ 12 (d := dx12) (ps := [("_law_kind_here" : Str)]) rfl rfl fun _ _ _ _ _ _ us hl => match us, hl with | [_], _ => rfl
  refine ⟨⟨fd, [("_law_kind_here" : Str)], fn_scope false (fn_ok (k := 1) q.F sc_q_plain rfl rfl fun cdv A outer s0 H E hr tk po => ?_), q.B⟩, q.F.kp⟩
  have scN := (sc_q_plain).nd
  have hu := hu65 hr
  have hu4 := hu64 hr
  exact (dss_cons (ds_set (i := 1) scN rfl (by first | exact .inl rfl | exact .inr rfl) (de_lst (da_cons de_str (da_cons de_str (da_cons de_str (da_cons de_str (da_cons de_str da_nil))))))) (dss_one (ds_ret (de_tup (da_cons (de_ixA rfl rfl hu (de_var (i := 0) rfl (by first | exact .inl rfl | exact .inr (.inl rfl) | exact .inr (.inr rfl))) de_int fun _ _ => rfl) (da_cons (de_lc (own := [("_law_role_here", 2)]) (mu := false) rfl scN (di_seq rfl (de_ixA rfl rfl hu (de_var (i := 0) rfl (by first | exact .inl rfl | exact .inr (.inl rfl) | exact .inr (.inr rfl))) de_int fun _ _ => rfl)) (blkOk_by rfl) (fun _ _ _ _ _ => (pg_name (i := 2) scN rfl (by first | exact .inl rfl | exact .inr rfl) (by first | exact .inl rfl | exact .inr rfl))) (tw_name 2 (by decide)) (fun sB HB CB clB fpB => dts_nil) (fun sB HB CB clB fpB => (de_tup (da_cons (de_ixA rfl rfl hu (de_var (i := 2) rfl (by first | exact .inl rfl | exact .inr (.inl rfl) | exact .inr (.inr rfl))) de_int fun _ _ => rfl) (da_cons (de_ixA rfl rfl hu (de_var (i := 2) rfl (by first | exact .inl rfl | exact .inr (.inl rfl) | exact .inr (.inr rfl))) de_int fun _ _ => rfl) (da_cons (de_ixA rfl rfl hu (de_var (i := 1) rfl (by first | exact .inl rfl | exact .inr (.inl rfl) | exact .inr (.inr rfl))) (de_ixA rfl rfl hu (de_var (i := 2) rfl (by first | exact .inl rfl | exact .inr (.inl rfl) | exact .inr (.inr rfl))) de_int fun _ _ => rfl) fun _ _ => rfl) da_nil)))))) da_nil))))))
theorem sc_q_is : FnScope [("_law_catalog" : Str), ("_law_kinds" : Str), ("_law_other" : Str), ("_law_due_here" : Str), ("_law_told_here" : Str), ("_law_one" : Str), ("_law_groups_here" : Str), ("_law_made" : Str), ("_law_kind_here" : Str)] [("_law_catalog" : Str), ("_law_kinds" : Str), ("_law_other" : Str)] (defScope s_q_is) := ⟨rfl, rfl, rfl, by decide +kernel, rfl, by decide +kernel, by decide +kernel⟩
theorem Cxt.ok_q_is (T : Cxt w K mg h base) : FnD PG w K mg base (gOf K w) (fAd K dx13.at_) 7 3 f_q_is := by
  obtain ⟨fd, q⟩ := T.sy.def_ 13 (d := dx13) (ps := [("_law_catalog" : Str), ("_law_kinds" : Str), ("_law_other" : Str)]) rfl rfl fun _ _ _ _ _ _ us hl => match us, hl with | [_, _, _], _ => rfl
  refine ⟨⟨fd, [("_law_catalog" : Str), ("_law_kinds" : Str), ("_law_other" : Str)], fn_scope false (fn_ok (k := 6) q.F sc_q_is rfl rfl fun cdv A outer s0 H E hr tk po => ?_), q.B⟩, q.F.kp⟩
  have scN := (sc_q_is).nd
  have hu := hu65 hr
  have hu4 := hu64 hr
  exact (dss_cons (ds_setLc (i := 3) (own := [("_law_kind_here", 8)]) (mu := false) rfl scN rfl rfl rfl (di_seq rfl (de_var (i := 1) rfl (by first | exact .inl rfl | exact .inr (.inl rfl) | exact .inr (.inr rfl)))) (blkOk_by rfl) (fun _ _ _ _ _ => (pg_name (i := 8) scN rfl (by first | exact .inl rfl | exact .inr rfl) (by first | exact .inl rfl | exact .inr rfl))) (tw_name 8 (by decide)) (fun sB HB CB clB fpB => dts_nil) (fun sB HB CB clB fpB => (de_callX (T.ok_q_plain) (hr.mono (by decide)) rfl T.glo__law_plain tk_never (da_cons (de_var (i := 8) rfl (by first | exact .inl rfl | exact .inr (.inl rfl) | exact .inr (.inr rfl))) da_nil)))) (dss_cons (ds_if (PW.pt (dw_or (dt_ne rfl hu4 (de_lenO rfl T.mt_zlenz (hr.mono (by decide)) tk rfl (T.free_len) bt_len (de_var (i := 0) rfl (by first | exact .inl rfl | exact .inr (.inl rfl) | exact .inr (.inr rfl))) call_len) (de_callB call_len (cd_len rfl) rfl (T.free_len) bt_len (da_cons (de_var (i := 3) rfl (by first | exact .inl rfl | exact .inr (.inl rfl) | exact .inr (.inr rfl))) da_nil))) (dw_or1 (dt_ne rfl hu4 (de_lc (own := [("_law_kind_here", 8)]) (mu := false) rfl scN (di_own rfl T.it_iter (hr.mono (by decide)) (de_var (i := 0) rfl (by first | exact .inl rfl | exact .inr (.inl rfl) | exact .inr (.inr rfl)))) (blkOk_by rfl) (fun _ _ _ _ _ => (pg_name (i := 8) scN rfl (by first | exact .inl rfl | exact .inr rfl) (by first | exact .inl rfl | exact .inr rfl))) (tw_name 8 (by decide)) (fun sB HB CB clB fpB => dts_nil) (fun sB HB CB clB fpB => (de_callX (T.ok_q_told) (hr.mono (by decide)) rfl T.glo__law_told tk_never (da_cons (de_var (i := 8) rfl (by first | exact .inl rfl | exact .inr (.inl rfl) | exact .inr (.inr rfl))) da_nil)))) (de_var (i := 3) rfl (by first | exact .inl rfl | exact .inr (.inl rfl) | exact .inr (.inr rfl))))))) (ds_kill [0, 1, 2, 3] (dss_one (ds_ret de_bl))) dss_nil) (dss_cons (ds_setLc (i := 4) (own := [("_law_kind_here", 8)]) (mu := false) rfl scN rfl rfl rfl (di_seq rfl (de_att 3 rfl rfl (de_var (i := 0) rfl (by first | exact .inl rfl | exact .inr (.inl rfl) | exact .inr (.inr rfl))))) (blkOk_by rfl) (fun _ _ _ _ _ => (pg_name (i := 8) scN rfl (by first | exact .inl rfl | exact .inr rfl) (by first | exact .inl rfl | exact .inr rfl))) (tw_name 8 (by decide)) (fun sB HB CB clB fpB => dts_nil) (fun sB HB CB clB fpB => (de_callX (T.ok_q_told) (hr.mono (by decide)) rfl T.glo__law_told tk_never (da_cons (de_var (i := 8) rfl (by first | exact .inl rfl | exact .inr (.inl rfl) | exact .inr (.inr rfl))) da_nil)))) (dss_cons (ds_if (PW.pt (dw_or (dt_not (dt_val (de_isi rfl T.isi_tuple T.isc_tuple (.ty _) (de_att 3 rfl rfl (de_var (i := 0) rfl (by first | exact .inl rfl | exact .inr (.inl rfl) | exact .inr (.inr rfl)))) (by exact pe_bltn rfl T.free_tuple bt_tuple rfl) rfl (T.free_isinstance) bt_isinstance))) (dw_or1 (dt_ne rfl hu4 (de_var (i := 4) rfl (by first | exact .inl rfl | exact .inr (.inl rfl) | exact .inr (.inr rfl))) (de_var (i := 3) rfl (by first | exact .inl rfl | exact .inr (.inl rfl) | exact .inr (.inr rfl))))))) (ds_kill [0, 1, 2, 3, 4] (dss_one (ds_ret de_bl))) dss_nil) (ds_kill [4] (dss_cons (ds_for po rfl (di_seq rfl (de_var (i := 3) rfl (by first | exact .inl rfl | exact .inr (.inl rfl) | exact .inr (.inr rfl)))) (pg_name (i := 5) scN rfl (by first | exact .inl rfl | exact .inr rfl) (by first | exact .inl rfl | exact .inr rfl)) (tg_name 5) (ds_trim (ds_kill [3] (dss_one (ds_if (dt_ne rfl hu4 (de_callX (T.ok_q_told) (hr.mono (by decide)) rfl T.glo__law_told tk (da_cons (de_meth rfl T.mt_named T.ms_named (hr.mono (by decide)) tk (de_var (i := 0) rfl (by first | exact .inl rfl | exact .inr (.inl rfl) | exact .inr (.inr rfl))) (da_cons (de_ixA rfl rfl hu (de_var (i := 5) rfl (by first | exact .inl rfl | exact .inr (.inl rfl) | exact .inr (.inr rfl))) de_int fun _ _ => rfl) da_nil)) da_nil)) (de_var (i := 5) rfl (by first | exact .inl rfl | exact .inr (.inl rfl) | exact .inr (.inr rfl)))) (ds_kill [0, 1, 2, 5] (dss_one (ds_ret de_bl))) dss_nil))))) (ds_kill [3, 5] (dss_cons (ds_if (dt_ne rfl hu4 (de_callX (T.ok_q_unknown) (hr.mono (by decide)) rfl T.glo__law_unknown tk (da_cons (de_var (i := 0) rfl (by first | exact .inl rfl | exact .inr (.inl rfl) | exact .inr (.inr rfl))) (da_cons (de_var (i := 2) rfl (by first | exact .inl rfl | exact .inr (.inl rfl) | exact .inr (.inr rfl))) da_nil))) (de_tup (da_cons (de_var (i := 2) rfl (by first | exact .inl rfl | exact .inr (.inl rfl) | exact .inr (.inr rfl))) (da_cons de_bl da_nil)))) (ds_kill [0, 1, 2] (dss_one (ds_ret de_bl))) dss_nil) (ds_kill [2] (dss_cons (ds_if (dt_ne rfl hu4 (de_callX (T.ok_q_unknown) (hr.mono (by decide)) rfl T.glo__law_unknown tk (da_cons (de_var (i := 0) rfl (by first | exact .inl rfl | exact .inr (.inl rfl) | exact .inr (.inr rfl))) (da_cons de_str da_nil))) (de_tup (da_cons de_str (da_cons de_bl da_nil)))) (ds_kill [0, 1] (dss_one (ds_ret de_bl))) dss_nil) (dss_cons (ds_set (i := 6) scN rfl (by first | exact .inl rfl | exact .inr rfl) (de_meth0 rfl T.mt_groups T.ms_groups (hr.mono (by decide)) tk (de_var (i := 0) rfl (by first | exact .inl rfl | exact .inr (.inl rfl) | exact .inr (.inr rfl))))) (dss_cons (ds_set (i := 7) scN rfl (by first | exact .inl rfl | exact .inr rfl) (de_meth0 rfl T.mt_made_groups T.ms_made_groups (hr.mono (by decide)) tk (de_var (i := 0) rfl (by first | exact .inl rfl | exact .inr (.inl rfl) | exact .inr (.inr rfl))))) (ds_kill [0] (dss_cons (ds_if (PW.pt (dw_or (dt_not (dt_val (de_isi rfl T.isi_list T.isc_list (.ty _) (de_var (i := 6) rfl (by first | exact .inl rfl | exact .inr (.inl rfl) | exact .inr (.inr rfl))) (by exact pe_bltn rfl T.free_list bt_list rfl) rfl (T.free_isinstance) bt_isinstance))) (dw_or1 (dt_not (dt_val (de_isi rfl T.isi_list T.isc_list (.ty _) (de_var (i := 7) rfl (by first | exact .inl rfl | exact .inr (.inl rfl) | exact .inr (.inr rfl))) (by exact pe_bltn rfl T.free_list bt_list rfl) rfl (T.free_isinstance) bt_isinstance)))))) (ds_kill [1, 6, 7] (dss_one (ds_ret de_bl))) dss_nil) (dss_one (ds_ret (de_and (de_eq rfl hu4 (de_var (i := 6) rfl (by first | exact .inl rfl | exact .inr (.inl rfl) | exact .inr (.inr rfl))) (de_callX (T.ok_q_groups) (hr.mono (by decide)) rfl T.glo__law_groups tk (da_cons (de_var (i := 1) rfl (by first | exact .inl rfl | exact .inr (.inl rfl) | exact .inr (.inr rfl))) da_nil))) (de_one (de_eq rfl hu4 (de_var (i := 7) rfl (by first | exact .inl rfl | exact .inr (.inl rfl) | exact .inr (.inr rfl))) (de_callX (T.ok_q_made_groups) (hr.mono (by decide)) rfl T.glo__law_made_groups tk (da_cons (de_var (i := 1) rfl (by first | exact .inl rfl | exact .inr (.inl rfl) | exact .inr (.inr rfl))) da_nil)))))))))))))))))))))
theorem sc_Catalog_zinitz : FnScope [("self" : Str), ("kinds" : Str), ("names" : Str), ("kind" : Str)] [("self" : Str), ("kinds" : Str)] (defScope s_Catalog_zinitz) := ⟨rfl, rfl, rfl, by decide +kernel, rfl, by decide +kernel, by decide +kernel⟩
theorem Cxt.ok_Catalog_zinitz (T : Cxt w K mg h base) : FnD PG w K mg base (gOf K w) (fAd K dx14.at_) 3 2 f_Catalog_zinitz := by
  obtain ⟨fd, q⟩ := T.sy.def_ 14 (d := dx14) (ps := [("self" : Str), ("kinds" : Str)]) rfl rfl fun _ _ _ _ _ _ us hl => match us, hl with | [_, _], _ => rfl
  refine ⟨⟨fd, [("self" : Str), ("kinds" : Str)], (fn_ok (k := 2) q.F sc_Catalog_zinitz rfl rfl fun cdv A outer s0 H E hr tk po => ?_), q.B⟩, q.F.kp⟩
  have scN := (sc_Catalog_zinitz).nd
  have hu := hu65 hr
  have hu4 := hu64 hr
  exact (dss_cons (ds_set (i := 2) scN rfl (by first | exact .inl rfl | exact .inr rfl) (de_new da_nil)) (dss_cons (ds_for po rfl (di_seq rfl (de_var (i := 1) rfl (by first | exact .inl rfl | exact .inr (.inl rfl) | exact .inr (.inr rfl)))) (pg_name (i := 3) scN rfl (by first | exact .inl rfl | exact .inr rfl) (by first | exact .inl rfl | exact .inr rfl)) (tg_name 3) (ds_trim (dss_cons (ds_if (dt_inA rfl rfl hu rfl (de_att 0 rfl rfl (de_var (i := 3) rfl (by first | exact .inl rfl | exact .inr (.inl rfl) | exact .inr (.inr rfl)))) (de_var (i := 2) rfl (by first | exact .inl rfl | exact .inr (.inl rfl) | exact .inr (.inr rfl)))) (ds_kill [0, 1, 2] (dss_one (ds_raiseX (T.err_22) rfl rfl tk (hr.mono (by decide)) rfl T.glo_BadKind (da_cons (de_att 0 rfl rfl (de_var (i := 3) rfl (by first | exact .inl rfl | exact .inr (.inl rfl) | exact .inr (.inr rfl)))) da_nil)))) dss_nil) (dss_one (ds_expr (de_mth rfl PySem.F.plainAttrs_list PySem.F.slot_list_append PySem.F.type_list_append mt_append td_list md_append (de_var (i := 2) rfl (by first | exact .inl rfl | exact .inr (.inl rfl) | exact .inr (.inr rfl))) (da_cons (de_att 0 rfl rfl (de_var (i := 3) rfl (by first | exact .inl rfl | exact .inr (.inl rfl) | exact .inr (.inr rfl)))) da_nil))))))) (ds_kill [2, 3] (dss_one (ds_satt 3 rfl rfl (de_var (i := 0) rfl (by first | exact .inl rfl | exact .inr (.inl rfl) | exact .inr (.inr rfl))) (de_callTy call_tuple_of (cd_tuple rfl) rfl (T.free_tuple) bt_tuple (da_cons (de_var (i := 1) rfl (by first | exact .inl rfl | exact .inr (.inl rfl) | exact .inr (.inr rfl))) da_nil)))))))
theorem Cxt.exm_q_refusal0 (T : Cxt w K mg h base) : ∀ c ∈ tb_q_refusal0, ∀ z ∈ zs_q_refusal0, PySem.W.exmOne K (.ref ((gOf K w).cl c)) (.ref ((gOf K w).cl z.c)) = some (subE c z.c) := by
  intro c hc z hz
  unfold tb_q_refusal0 at hc
  unfold zs_q_refusal0 at hz
  simp only [List.mem_cons, List.mem_nil_iff, or_false] at hc hz
  rcases hc with rfl | rfl | rfl <;>
  subst hz <;>
  first
  | exact of_decide_eq_true (T.sy.fact 132)
  | exact of_decide_eq_true (T.sy.fact 134)
  | exact of_decide_eq_true (T.sy.fact 136)
theorem sc_q_refusal : FnScope [("_law_given" : Str), ("e" : Str)] [("_law_given" : Str)] (defScope s_q_refusal) := ⟨rfl, rfl, rfl, by decide +kernel, rfl, by decide +kernel, by decide +kernel⟩
theorem Cxt.ok_q_refusal (T : Cxt w K mg h base) : FnD PG w K mg base (gOf K w) (fAd K dx15.at_) 5 1 f_q_refusal := by
  obtain ⟨fd, q⟩ := T.sy.def_ 15 (d := dx15) (ps := [("_law_given" : Str)]) rfl rfl fun _ _ _ _ _ _ us hl => match us, hl with | [_], _ => rfl
  refine ⟨⟨fd, [("_law_given" : Str)], fn_scope false (fn_ok (k := 4) q.F sc_q_refusal rfl rfl fun cdv A outer s0 H E hr tk po => ?_), q.B⟩, q.F.kp⟩
  have scN := (sc_q_refusal).nd
  have hu := hu65 hr
  have hu4 := hu64 hr
  exact (dss_cons (ds_try rfl rfl scN tk (fun pn xe W tk po => (dss_one (ds_expr (de_makeX (frz := true) rfl T.cls_7 T.mkr_Catalog (T.ok_Catalog_zinitz) (hr.mono (by decide)) rfl T.glo_Catalog tk (da_cons (de_var (i := 0) rfl (by first | exact .inl rfl | exact .inr (.inl rfl) | exact .inr (.inr rfl))) da_nil))))) (.named (i := 1) rfl rfl rfl ⟨rfl, rfl, .inl T.glo_BadKind⟩ (fun a oe dx c pn hc hz hf => (ds_kill [0] (dss_one (ds_ret (de_tup (da_cons (de_exf 0 rfl (T.xf c hc) (T.no_name c hc) nmT_nodup hz hf rfl (by first | exact .inl rfl | exact .inr (.inl rfl) | exact .inr (.inr rfl))) (da_cons (de_and (de_exi (T.xi c hc) hz hf rfl (by first | exact .inl rfl | exact .inr (.inl rfl) | exact .inr (.inr rfl)) (.own _) (T.exk_RedoError c hc) (by exact pe_glob rfl T.glo_RedoError rfl) (by exact rfl) (T.free_isinstance) bt_isinstance) (de_one (de_not (de_exi (T.xi c hc) hz hf rfl (by first | exact .inl rfl | exact .inr (.inl rfl) | exact .inr (.inr rfl)) (.own _) (T.exk_NoKind c hc) (by exact pe_glob rfl T.glo_NoKind rfl) (by exact rfl) (T.free_isinstance) bt_isinstance)))) da_nil))))))) .nil) (T.exm_q_refusal0) par_q_refusal0) (ds_kill [0] (dss_one (ds_ret (de_tup da_nil)))))
theorem sc_q_due : FnScope [("_law_kinds" : Str), ("_law_names_here" : Str), ("_law_kind_here" : Str)] [("_law_kinds" : Str)] (defScope s_q_due) := ⟨rfl, rfl, rfl, by decide +kernel, rfl, by decide +kernel, by decide +kernel⟩
theorem Cxt.ok_q_due (T : Cxt w K mg h base) : FnD PG w K mg base (gOf K w) (fAd K dx16.at_) 2 1 f_q_due := by
  obtain ⟨fd, q⟩ := T.sy.def_ 16 (d := dx16) (ps := [("_law_kinds" : Str)]) rfl rfl fun _ _ _ _ _ _ us hl => match us, hl with | [_], _ => rfl
  refine ⟨⟨fd, [("_law_kinds" : Str)], fn_scope false (fn_ok (k := 1) q.F sc_q_due rfl rfl fun cdv A outer s0 H E hr tk po => ?_), q.B⟩, q.F.kp⟩
  have scN := (sc_q_due).nd
  have hu := hu65 hr
  have hu4 := hu64 hr
  exact (dss_cons (ds_set (i := 1) scN rfl (by first | exact .inl rfl | exact .inr rfl) (de_new da_nil)) (dss_cons (ds_for po rfl (di_seq rfl (de_var (i := 0) rfl (by first | exact .inl rfl | exact .inr (.inl rfl) | exact .inr (.inr rfl)))) (pg_name (i := 2) scN rfl (by first | exact .inl rfl | exact .inr rfl) (by first | exact .inl rfl | exact .inr rfl)) (tg_name 2) (ds_trim (ds_kill [0] (dss_cons (ds_if (dt_inA rfl rfl hu rfl (de_ixA rfl rfl hu (de_var (i := 2) rfl (by first | exact .inl rfl | exact .inr (.inl rfl) | exact .inr (.inr rfl))) de_int fun _ _ => rfl) (de_var (i := 1) rfl (by first | exact .inl rfl | exact .inr (.inl rfl) | exact .inr (.inr rfl)))) (ds_kill [1] (dss_one (ds_ret (de_tup (da_cons (de_ixA rfl rfl hu (de_var (i := 2) rfl (by first | exact .inl rfl | exact .inr (.inl rfl) | exact .inr (.inr rfl))) de_int fun _ _ => rfl) (da_cons de_bl da_nil)))))) dss_nil) (dss_one (ds_expr (de_mth rfl PySem.F.plainAttrs_list PySem.F.slot_list_append PySem.F.type_list_append mt_append td_list md_append (de_var (i := 1) rfl (by first | exact .inl rfl | exact .inr (.inl rfl) | exact .inr (.inr rfl))) (da_cons (de_ixA rfl rfl hu (de_var (i := 2) rfl (by first | exact .inl rfl | exact .inr (.inl rfl) | exact .inr (.inr rfl))) de_int fun _ _ => rfl) da_nil)))))))) (ds_kill [0, 1, 2] (dss_one (ds_ret (de_tup da_nil))))))
theorem sc_check_name : FnScope [("text" : Str), ("letter" : Str)] [("text" : Str)] (defScope s_check_name) := ⟨rfl, rfl, rfl, by decide +kernel, rfl, by decide +kernel, by decide +kernel⟩
theorem Cxt.ok_check_name (T : Cxt w K mg h base) : FnD PG w K mg base (gOf K w) (fAd K dx17.at_) 3 1 f_check_name := by
  obtain ⟨fd, q⟩ := T.sy.def_ 17 (d := dx17) (ps := [("text" : Str)]) rfl rfl fun _ _ _ _ _ _ us hl => match us, hl with | [_], _ => rfl
  refine ⟨⟨fd, [("text" : Str)], fn_scope false (fn_ok (k := 2) q.F sc_check_name rfl rfl fun cdv A outer s0 H E hr tk po => ?_), q.B⟩, q.F.kp⟩
  have scN := (sc_check_name).nd
  have hu := hu65 hr
  have hu4 := hu64 hr
  exact (dss_one (ds_if (PW.pt (dw_or (dt_not (dt_chain op_le op_le opd_ordI opd_ordI de_int (de_callB call_len (cd_len rfl) rfl (T.free_len) bt_len (da_cons (de_var (i := 0) rfl (by first | exact .inl rfl | exact .inr (.inl rfl) | exact .inr (.inr rfl))) da_nil)) (de_gint rfl (T.int_LONGEST_NAME)))) (dw_or1 (dt_val (de_callB (cr_any rfl) (cd_any rfl) rfl (T.free_any) bt_any (da_cons (de_lc (own := [("letter", 1)]) (mu := false) rfl scN (di_seq rfl (de_var (i := 0) rfl (by first | exact .inl rfl | exact .inr (.inl rfl) | exact .inr (.inr rfl)))) (blkOk_by rfl) (fun _ _ _ _ _ => (pg_name (i := 1) scN rfl (by first | exact .inl rfl | exact .inr rfl) (by first | exact .inl rfl | exact .inr rfl))) (tw_name 1 (by decide)) (fun sB HB CB clB fpB => dts_nil) (fun sB HB CB clB fpB => (de_ninA rfl rfl hu rfl (de_var (i := 1) rfl (by first | exact .inl rfl | exact .inr (.inl rfl) | exact .inr (.inr rfl))) (de_gstr rfl (T.str_LETTERS))))) da_nil)))))) (dss_one (ds_raiseX (T.err_21) rfl rfl tk (hr.mono (by decide)) rfl T.glo_BadName (da_cons (de_var (i := 0) rfl (by first | exact .inl rfl | exact .inr (.inl rfl) | exact .inr (.inr rfl))) da_nil))) dss_nil))
theorem sc_Kind_zinitz : FnScope [("self" : Str), ("name" : Str), ("roles" : Str), ("names" : Str), ("role" : Str)] [("self" : Str), ("name" : Str), ("roles" : Str)] (defScope s_Kind_zinitz) := ⟨rfl, rfl, rfl, by decide +kernel, rfl, by decide +kernel, by decide +kernel⟩
theorem Cxt.ok_Kind_zinitz (T : Cxt w K mg h base) : FnD PG w K mg base (gOf K w) (fAd K dx18.at_) 5 3 f_Kind_zinitz := by
  obtain ⟨fd, q⟩ := T.sy.def_ 18 (d := dx18) (ps := [("self" : Str), ("name" : Str), ("roles" : Str)]) rfl rfl fun _ _ _ _ _ _ us hl => match us, hl with | [_, _, _], _ => rfl
  refine ⟨⟨fd, [("self" : Str), ("name" : Str), ("roles" : Str)], (fn_ok (k := 4) q.F sc_Kind_zinitz rfl rfl fun cdv A outer s0 H E hr tk po => ?_), q.B⟩, q.F.kp⟩
  have scN := (sc_Kind_zinitz).nd
  have hu := hu65 hr
  have hu4 := hu64 hr
  exact (dss_cons (ds_expr (de_callX (T.ok_check_name) (hr.mono (by decide)) rfl T.glo_check_name tk (da_cons (de_var (i := 1) rfl (by first | exact .inl rfl | exact .inr (.inl rfl) | exact .inr (.inr rfl))) da_nil))) (dss_cons (ds_setLc (i := 3) (own := [("role", 4)]) (mu := false) rfl scN rfl rfl rfl (di_seq rfl (de_var (i := 2) rfl (by first | exact .inl rfl | exact .inr (.inl rfl) | exact .inr (.inr rfl)))) (blkOk_by rfl) (fun _ _ _ _ _ => (pg_name (i := 4) scN rfl (by first | exact .inl rfl | exact .inr rfl) (by first | exact .inl rfl | exact .inr rfl))) (tw_name 4 (by decide)) (fun sB HB CB clB fpB => dts_nil) (fun sB HB CB clB fpB => (de_att 0 rfl rfl (de_var (i := 4) rfl (by first | exact .inl rfl | exact .inr (.inl rfl) | exact .inr (.inr rfl)))))) (dss_cons (ds_if (PW.pt (dw_or (dt_not (dt_chain op_le op_le opd_ordI opd_ordI de_int (de_callB call_len (cd_len rfl) rfl (T.free_len) bt_len (da_cons (de_var (i := 3) rfl (by first | exact .inl rfl | exact .inr (.inl rfl) | exact .inr (.inr rfl))) da_nil)) (de_gint rfl (T.int_MOST_ROLES)))) (dw_or1 (dt_lt rfl hu4 (de_callB cr_lenSet (cd_lenS rfl) rfl (T.free_len) bt_len (da_cons (de_callTy (cr_setTx rfl) (cd_set rfl rfl) rfl (T.free_set) bt_set (da_cons (de_var (i := 3) rfl (by first | exact .inl rfl | exact .inr (.inl rfl) | exact .inr (.inr rfl))) da_nil)) da_nil)) (de_callB call_len (cd_len rfl) rfl (T.free_len) bt_len (da_cons (de_var (i := 3) rfl (by first | exact .inl rfl | exact .inr (.inl rfl) | exact .inr (.inr rfl))) da_nil)))))) (ds_kill [0, 2, 3] (dss_one (ds_raiseX (T.err_22) rfl rfl tk (hr.mono (by decide)) rfl T.glo_BadKind (da_cons (de_var (i := 1) rfl (by first | exact .inl rfl | exact .inr (.inl rfl) | exact .inr (.inr rfl))) da_nil)))) dss_nil) (ds_kill [3] (dss_cons (ds_if (dt_not (dt_val (de_callB (cr_any rfl) (cd_any rfl) rfl (T.free_any) bt_any (da_cons (de_lc (own := [("role", 4)]) (mu := false) rfl scN (di_seq rfl (de_var (i := 2) rfl (by first | exact .inl rfl | exact .inr (.inl rfl) | exact .inr (.inr rfl)))) (blkOk_by rfl) (fun _ _ _ _ _ => (pg_name (i := 4) scN rfl (by first | exact .inl rfl | exact .inr rfl) (by first | exact .inl rfl | exact .inr rfl))) (tw_name 4 (by decide)) (fun sB HB CB clB fpB => dts_nil) (fun sB HB CB clB fpB => (de_meth0 rfl T.mt_makes T.ms_makes (hr.mono (by decide)) tk_never (de_var (i := 4) rfl (by first | exact .inl rfl | exact .inr (.inl rfl) | exact .inr (.inr rfl)))))) da_nil)))) (ds_kill [0, 2] (dss_one (ds_raiseX (T.err_22) rfl rfl tk (hr.mono (by decide)) rfl T.glo_BadKind (da_cons (de_var (i := 1) rfl (by first | exact .inl rfl | exact .inr (.inl rfl) | exact .inr (.inr rfl))) da_nil)))) dss_nil) (dss_cons (ds_satt 0 rfl rfl (de_var (i := 0) rfl (by first | exact .inl rfl | exact .inr (.inl rfl) | exact .inr (.inr rfl))) (de_var (i := 1) rfl (by first | exact .inl rfl | exact .inr (.inl rfl) | exact .inr (.inr rfl)))) (ds_kill [1] (dss_one (ds_satt 2 rfl rfl (de_var (i := 0) rfl (by first | exact .inl rfl | exact .inr (.inl rfl) | exact .inr (.inr rfl))) (de_callTy call_tuple_of (cd_tuple rfl) rfl (T.free_tuple) bt_tuple (da_cons (de_var (i := 2) rfl (by first | exact .inl rfl | exact .inr (.inl rfl) | exact .inr (.inr rfl))) da_nil)))))))))))
theorem sc_Role_zinitz : FnScope [("self" : Str), ("name" : Str), ("group" : Str)] [("self" : Str), ("name" : Str), ("group" : Str)] (defScope s_Role_zinitz) := ⟨rfl, rfl, rfl, by decide +kernel, rfl, by decide +kernel, by decide +kernel⟩
theorem Cxt.ok_Role_zinitz (T : Cxt w K mg h base) : FnD PG w K mg base (gOf K w) (fAd K dx19.at_) 5 3 f_Role_zinitz := by
  obtain ⟨fd, q⟩ := T.sy.def_ 19 (d := dx19) (ps := [("self" : Str), ("name" : Str), ("group" : Str)]) rfl rfl fun _ _ _ _ _ _ us hl => match us, hl with | [_, _, _], _ => rfl
  refine ⟨⟨fd, [("self" : Str), ("name" : Str), ("group" : Str)], (fn_ok (k := 4) q.F sc_Role_zinitz rfl rfl fun cdv A outer s0 H E hr tk po => ?_), q.B⟩, q.F.kp⟩
  have scN := (sc_Role_zinitz).nd
  have hu := hu65 hr
  have hu4 := hu64 hr
  exact (dss_cons (ds_expr (de_callX (T.ok_check_name) (hr.mono (by decide)) rfl T.glo_check_name tk (da_cons (de_var (i := 1) rfl (by first | exact .inl rfl | exact .inr (.inl rfl) | exact .inr (.inr rfl))) da_nil))) (dss_cons (ds_expr (de_callX (T.ok_check_name) (hr.mono (by decide)) rfl T.glo_check_name tk (da_cons (de_var (i := 2) rfl (by first | exact .inl rfl | exact .inr (.inl rfl) | exact .inr (.inr rfl))) da_nil))) (dss_cons (ds_satt 0 rfl rfl (de_var (i := 0) rfl (by first | exact .inl rfl | exact .inr (.inl rfl) | exact .inr (.inr rfl))) (de_var (i := 1) rfl (by first | exact .inl rfl | exact .inr (.inl rfl) | exact .inr (.inr rfl)))) (ds_kill [1] (dss_one (ds_satt 1 rfl rfl (de_var (i := 0) rfl (by first | exact .inl rfl | exact .inr (.inl rfl) | exact .inr (.inr rfl))) (de_var (i := 2) rfl (by first | exact .inl rfl | exact .inr (.inl rfl) | exact .inr (.inr rfl)))))))))
theorem sc_q_role : FnScope [("_law_name" : Str), ("_law_group" : Str), ("_law_mode" : Str)] [("_law_name" : Str), ("_law_group" : Str), ("_law_mode" : Str)] (defScope s_q_role) := ⟨rfl, rfl, rfl, by decide +kernel, rfl, by decide +kernel, by decide +kernel⟩
theorem Cxt.ok_q_role (T : Cxt w K mg h base) : FnD PG w K mg base (gOf K w) (fAd K dx20.at_) 7 3 f_q_role := by
  obtain ⟨fd, q⟩ := T.sy.def_ 20 (d := dx20) (ps := [("_law_name" : Str), ("_law_group" : Str), ("_law_mode" : Str)]) rfl rfl fun _ _ _ _ _ _ us hl => match us, hl with | [_, _, _], _ => rfl
  refine ⟨⟨fd, [("_law_name" : Str), ("_law_group" : Str), ("_law_mode" : Str)], fn_scope false (fn_ok (k := 6) q.F sc_q_role rfl rfl fun cdv A outer s0 H E hr tk po => ?_), q.B⟩, q.F.kp⟩
  have scN := (sc_q_role).nd
  have hu := hu65 hr
  have hu4 := hu64 hr
  exact (dss_cons (ds_if (dt_eq rfl hu4 (de_var (i := 2) rfl (by first | exact .inl rfl | exact .inr (.inl rfl) | exact .inr (.inr rfl))) de_int) (ds_kill [2] (dss_one (ds_ret (de_makeX (frz := true) rfl T.cls_1 T.mkr_Read (T.ok_Role_zinitz) (hr.mono (by decide)) rfl T.glo_Read tk (da_cons (de_var (i := 0) rfl (by first | exact .inl rfl | exact .inr (.inl rfl) | exact .inr (.inr rfl))) (da_cons (de_var (i := 1) rfl (by first | exact .inl rfl | exact .inr (.inl rfl) | exact .inr (.inr rfl))) da_nil)))))) dss_nil) (dss_cons (ds_if (dt_eq rfl hu4 (de_var (i := 2) rfl (by first | exact .inl rfl | exact .inr (.inl rfl) | exact .inr (.inr rfl))) de_int) (ds_kill [2] (dss_one (ds_ret (de_makeX (frz := true) rfl T.cls_2 T.mkr_Made (T.ok_Role_zinitz) (hr.mono (by decide)) rfl T.glo_Made tk (da_cons (de_var (i := 0) rfl (by first | exact .inl rfl | exact .inr (.inl rfl) | exact .inr (.inr rfl))) (da_cons (de_var (i := 1) rfl (by first | exact .inl rfl | exact .inr (.inl rfl) | exact .inr (.inr rfl))) da_nil)))))) dss_nil) (dss_cons (ds_if (dt_eq rfl hu4 (de_var (i := 2) rfl (by first | exact .inl rfl | exact .inr (.inl rfl) | exact .inr (.inr rfl))) de_int) (ds_kill [2] (dss_one (ds_ret (de_makeX (frz := true) rfl T.cls_3 T.mkr_Fresh (T.ok_Role_zinitz) (hr.mono (by decide)) rfl T.glo_Fresh tk (da_cons (de_var (i := 0) rfl (by first | exact .inl rfl | exact .inr (.inl rfl) | exact .inr (.inr rfl))) (da_cons (de_var (i := 1) rfl (by first | exact .inl rfl | exact .inr (.inl rfl) | exact .inr (.inr rfl))) da_nil)))))) dss_nil) (dss_cons (ds_if (dt_eq rfl hu4 (de_var (i := 2) rfl (by first | exact .inl rfl | exact .inr (.inl rfl) | exact .inr (.inr rfl))) de_int) (ds_kill [2] (dss_one (ds_ret (de_makeX (frz := true) rfl T.cls_4 T.mkr_Both (T.ok_Role_zinitz) (hr.mono (by decide)) rfl T.glo_Both tk (da_cons (de_var (i := 0) rfl (by first | exact .inl rfl | exact .inr (.inl rfl) | exact .inr (.inr rfl))) (da_cons (de_var (i := 1) rfl (by first | exact .inl rfl | exact .inr (.inl rfl) | exact .inr (.inr rfl))) da_nil)))))) dss_nil) (ds_kill [2] (dss_one (ds_ret (de_makeX (frz := true) rfl T.cls_5 T.mkr_Renewed (T.ok_Role_zinitz) (hr.mono (by decide)) rfl T.glo_Renewed tk (da_cons (de_var (i := 0) rfl (by first | exact .inl rfl | exact .inr (.inl rfl) | exact .inr (.inr rfl))) (da_cons (de_var (i := 1) rfl (by first | exact .inl rfl | exact .inr (.inl rfl) | exact .inr (.inr rfl))) da_nil))))))))))
theorem sc_q_kind : FnScope [("_law_kind_here" : Str), ("_law_role_here" : Str)] [("_law_kind_here" : Str)] (defScope s_q_kind) := ⟨rfl, rfl, rfl, by decide +kernel, rfl, by decide +kernel, by decide +kernel⟩
theorem Cxt.ok_q_kind (T : Cxt w K mg h base) : FnD PG w K mg base (gOf K w) (fAd K dx21.at_) 9 1 f_q_kind := by
  obtain ⟨fd, q⟩ := T.sy.def_ 21 (d := dx21) (ps := [("_law_kind_here" : Str)]) rfl rfl fun _ _ _ _ _ _ us hl => match us, hl with | [_], _ => rfl
  refine ⟨⟨fd, [("_law_kind_here" : Str)], fn_scope false (fn_ok (k := 8) q.F sc_q_kind rfl rfl fun cdv A outer s0 H E hr tk po => ?_), q.B⟩, q.F.kp⟩
  have scN := (sc_q_kind).nd
  have hu := hu65 hr
  have hu4 := hu64 hr
  exact (dss_one (ds_ret (de_makeX (frz := true) rfl T.cls_6 T.mkr_Kind (T.ok_Kind_zinitz) (hr.mono (by decide)) rfl T.glo_Kind tk (da_cons (de_ixA rfl rfl hu (de_var (i := 0) rfl (by first | exact .inl rfl | exact .inr (.inl rfl) | exact .inr (.inr rfl))) de_int fun _ _ => rfl) (da_cons (de_lc (own := [("_law_role_here", 1)]) (mu := false) rfl scN (di_seq rfl (de_ixA rfl rfl hu (de_var (i := 0) rfl (by first | exact .inl rfl | exact .inr (.inl rfl) | exact .inr (.inr rfl))) de_int fun _ _ => rfl)) (blkOk_by rfl) (fun _ _ _ _ _ => (pg_name (i := 1) scN rfl (by first | exact .inl rfl | exact .inr rfl) (by first | exact .inl rfl | exact .inr rfl))) (tw_name 1 (by decide)) (fun sB HB CB clB fpB => dts_nil) (fun sB HB CB clB fpB => (de_callX (T.ok_q_role) (hr.mono (by decide)) rfl T.glo__law_role tk_never (da_cons (de_ixA rfl rfl hu (de_var (i := 1) rfl (by first | exact .inl rfl | exact .inr (.inl rfl) | exact .inr (.inr rfl))) de_int fun _ _ => rfl) (da_cons (de_ixA rfl rfl hu (de_var (i := 1) rfl (by first | exact .inl rfl | exact .inr (.inl rfl) | exact .inr (.inr rfl))) de_int fun _ _ => rfl) (da_cons (de_ixA rfl rfl hu (de_var (i := 1) rfl (by first | exact .inl rfl | exact .inr (.inl rfl) | exact .inr (.inr rfl))) de_int fun _ _ => rfl) da_nil)))))) da_nil)))))
theorem sc_q_draw : FnScope [("_law_pool_here" : Str), ("_law_many" : Str), ("_law_digit" : Str)] [("_law_pool_here" : Str), ("_law_many" : Str)] (defScope s_q_draw) := ⟨rfl, rfl, rfl, by decide +kernel, rfl, by decide +kernel, by decide +kernel⟩
theorem Cxt.ok_q_draw (T : Cxt w K mg h base) : FnD PG w K mg base (gOf K w) (fAd K dx22.at_) 2 2 f_q_draw := by
  obtain ⟨fd, q⟩ := T.sy.def_ 22 (d := dx22) (ps := [("_law_pool_here" : Str), ("_law_many" : Str)]) rfl rfl fun _ _ _ _ _ _ us hl => match us, hl with | [_, _], _ => rfl
  refine ⟨⟨fd, [("_law_pool_here" : Str), ("_law_many" : Str)], fn_scope false (fn_ok (k := 1) q.F sc_q_draw rfl rfl fun cdv A outer s0 H E hr tk po => ?_), q.B⟩, q.F.kp⟩
  have scN := (sc_q_draw).nd
  have hu := hu65 hr
  have hu4 := hu64 hr
  exact (dss_cons (ds_if (PW.pt (dw_and (dt_gt (de_ixA rfl rfl hu (de_var (i := 0) rfl (by first | exact .inl rfl | exact .inr (.inl rfl) | exact .inr (.inr rfl))) de_int fun _ _ => rfl) de_int) (dw_and1 (dt_gt (de_ixA rfl rfl hu (de_var (i := 0) rfl (by first | exact .inl rfl | exact .inr (.inl rfl) | exact .inr (.inr rfl))) de_int fun _ _ => rfl) de_int)))) (dss_cons (ds_set (i := 2) scN rfl (by first | exact .inl rfl | exact .inr rfl) (de_mod (de_callTy call_int1 cd_int rfl (T.free_int) bt_int (da_cons (de_ixA rfl rfl hu (de_var (i := 0) rfl (by first | exact .inl rfl | exact .inr (.inl rfl) | exact .inr (.inr rfl))) de_int fun _ _ => rfl) da_nil)) (de_var (i := 1) rfl (by first | exact .inl rfl | exact .inr (.inl rfl) | exact .inr (.inr rfl))))) (dss_cons (ds_setI rfl rfl hu (de_var (i := 0) rfl (by first | exact .inl rfl | exact .inr (.inl rfl) | exact .inr (.inr rfl))) de_int (de_fdiv (de_ixA rfl rfl hu (de_var (i := 0) rfl (by first | exact .inl rfl | exact .inr (.inl rfl) | exact .inr (.inr rfl))) de_int fun _ _ => rfl) (de_var (i := 1) rfl (by first | exact .inl rfl | exact .inr (.inl rfl) | exact .inr (.inr rfl))))) (ds_kill [1] (dss_cons (ds_setI rfl rfl hu (de_var (i := 0) rfl (by first | exact .inl rfl | exact .inr (.inl rfl) | exact .inr (.inr rfl))) de_int (de_sub (de_ixA rfl rfl hu (de_var (i := 0) rfl (by first | exact .inl rfl | exact .inr (.inl rfl) | exact .inr (.inr rfl))) de_int fun _ _ => rfl) de_int)) (ds_kill [0] (dss_one (ds_ret (de_var (i := 2) rfl (by first | exact .inl rfl | exact .inr (.inl rfl) | exact .inr (.inr rfl)))))))))) dss_nil) (ds_kill [2] (dss_cons (ds_setI rfl rfl hu (de_var (i := 0) rfl (by first | exact .inl rfl | exact .inr (.inl rfl) | exact .inr (.inr rfl))) de_int (de_mod (de_callTy call_int1 cd_int rfl (T.free_int) bt_int (da_cons (de_add rfl (de_mul (de_ixA rfl rfl hu (de_var (i := 0) rfl (by first | exact .inl rfl | exact .inr (.inl rfl) | exact .inr (.inr rfl))) de_int fun _ _ => rfl) de_int) de_int) da_nil)) de_int)) (dss_one (ds_ret (de_mod (de_callTy call_int1 cd_int rfl (T.free_int) bt_int (da_cons (de_ixA rfl rfl hu (de_var (i := 0) rfl (by first | exact .inl rfl | exact .inr (.inl rfl) | exact .inr (.inr rfl))) de_int fun _ _ => rfl) da_nil)) (de_var (i := 1) rfl (by first | exact .inl rfl | exact .inr (.inl rfl) | exact .inr (.inr rfl)))))))))
theorem sc_q_pool : FnScope [("_law_script" : Str), ("_law_k" : Str), ("_law_seed" : Str), ("_law_digits" : Str)] [("_law_script" : Str), ("_law_k" : Str)] (defScope s_q_pool) := ⟨rfl, rfl, rfl, by decide +kernel, rfl, by decide +kernel, by decide +kernel⟩
theorem Cxt.ok_q_pool (T : Cxt w K mg h base) : FnD PG w K mg base (gOf K w) (fAd K dx23.at_) 2 2 f_q_pool := by
  obtain ⟨fd, q⟩ := T.sy.def_ 23 (d := dx23) (ps := [("_law_script" : Str), ("_law_k" : Str)]) rfl rfl fun _ _ _ _ _ _ us hl => match us, hl with | [_, _], _ => rfl
  refine ⟨⟨fd, [("_law_script" : Str), ("_law_k" : Str)], fn_scope true (fn_ok (k := 1) q.F sc_q_pool rfl rfl fun cdv A outer s0 H E hr tk po => ?_), q.B⟩, q.F.kp⟩
  have scN := (sc_q_pool).nd
  have hu := hu65 hr
  have hu4 := hu64 hr
  exact (dss_cons (ds_set (i := 2) scN rfl (by first | exact .inl rfl | exact .inr rfl) (de_add rfl (de_add rfl (de_mul de_int (de_var (i := 1) rfl (by first | exact .inl rfl | exact .inr (.inl rfl) | exact .inr (.inr rfl)))) de_int) (de_mul de_int (de_callB (cr_sum rfl) (cd_sum rfl) rfl (T.free_sum) bt_sum (da_cons (de_var (i := 0) rfl (by first | exact .inl rfl | exact .inr (.inl rfl) | exact .inr (.inr rfl))) da_nil))))) (dss_cons (ds_set (i := 3) scN rfl (by first | exact .inl rfl | exact .inr rfl) de_int) (dss_cons (ds_if (dt_lt rfl hu4 (de_var (i := 1) rfl (by first | exact .inl rfl | exact .inr (.inl rfl) | exact .inr (.inr rfl))) (de_callB call_len (cd_len rfl) rfl (T.free_len) bt_len (da_cons (de_var (i := 0) rfl (by first | exact .inl rfl | exact .inr (.inl rfl) | exact .inr (.inr rfl))) da_nil))) (dss_cons (ds_set (i := 2) scN rfl (by first | exact .inl rfl | exact .inr rfl) (de_add rfl (de_var (i := 2) rfl (by first | exact .inl rfl | exact .inr (.inl rfl) | exact .inr (.inr rfl))) (de_ixA rfl rfl hu (de_var (i := 0) rfl (by first | exact .inl rfl | exact .inr (.inl rfl) | exact .inr (.inr rfl))) (de_var (i := 1) rfl (by first | exact .inl rfl | exact .inr (.inl rfl) | exact .inr (.inr rfl))) fun _ _ => rfl))) (dss_one (ds_if (dt_ge (de_ixA rfl rfl hu (de_var (i := 0) rfl (by first | exact .inl rfl | exact .inr (.inl rfl) | exact .inr (.inr rfl))) (de_var (i := 1) rfl (by first | exact .inl rfl | exact .inr (.inl rfl) | exact .inr (.inr rfl))) fun _ _ => rfl) (de_pow de_int de_int)) (ds_kill [3] (dss_one (ds_set (i := 3) scN rfl (by first | exact .inl rfl | exact .inr rfl) (de_ixA rfl rfl hu (de_var (i := 0) rfl (by first | exact .inl rfl | exact .inr (.inl rfl) | exact .inr (.inr rfl))) (de_var (i := 1) rfl (by first | exact .inl rfl | exact .inr (.inl rfl) | exact .inr (.inr rfl))) fun _ _ => rfl)))) dss_nil))) dss_nil) (ds_kill [0, 1] (dss_one (ds_ret (de_new (da_cons (de_var (i := 3) rfl (by first | exact .inl rfl | exact .inr (.inl rfl) | exact .inr (.inr rfl))) (da_cons (de_mod (de_callTy call_int1 cd_int rfl (T.free_int) bt_int (da_cons (de_var (i := 2) rfl (by first | exact .inl rfl | exact .inr (.inl rfl) | exact .inr (.inr rfl))) da_nil)) de_int) (da_cons de_int da_nil))))))))))
theorem sc_q_word : FnScope [("_law_numbers" : Str), ("_law_letters" : Str), ("_law_number" : Str)] [("_law_numbers" : Str)] (defScope s_q_word) := ⟨rfl, rfl, rfl, by decide +kernel, rfl, by decide +kernel, by decide +kernel⟩
theorem Cxt.ok_q_word (T : Cxt w K mg h base) : FnD PG w K mg base (gOf K w) (fAd K dx24.at_) 2 1 f_q_word := by
  obtain ⟨fd, q⟩ := T.sy.def_ 24 (d := dx24) (ps := [("_law_numbers" : Str)]) rfl rfl fun _ _ _ _ _ _ us hl => match us, hl with | [_], _ => rfl
  refine ⟨⟨fd, [("_law_numbers" : Str)], fn_scope false (fn_ok (k := 1) q.F sc_q_word rfl rfl fun cdv A outer s0 H E hr tk po => ?_), q.B⟩, q.F.kp⟩
  have scN := (sc_q_word).nd
  have hu := hu65 hr
  have hu4 := hu64 hr
  exact (dss_cons (ds_set (i := 1) scN rfl (by first | exact .inl rfl | exact .inr rfl) de_str) (dss_one (ds_ret (de_mth rfl PySem.F.plainAttrs_str PySem.F.slot_str_join PySem.F.type_str_join mt_join td_str (md_join rfl) de_str (da_cons (de_lc (own := [("_law_number", 2)]) (mu := false) rfl scN (di_seq rfl (de_var (i := 0) rfl (by first | exact .inl rfl | exact .inr (.inl rfl) | exact .inr (.inr rfl)))) (blkOk_by rfl) (fun _ _ _ _ _ => (pg_name (i := 2) scN rfl (by first | exact .inl rfl | exact .inr rfl) (by first | exact .inl rfl | exact .inr rfl))) (tw_name 2 (by decide)) (fun sB HB CB clB fpB => dts_nil) (fun sB HB CB clB fpB => (de_ixA rfl rfl hu (de_var (i := 1) rfl (by first | exact .inl rfl | exact .inr (.inl rfl) | exact .inr (.inr rfl))) (de_mod (de_callTy call_int1 cd_int rfl (T.free_int) bt_int (da_cons (de_var (i := 2) rfl (by first | exact .inl rfl | exact .inr (.inl rfl) | exact .inr (.inr rfl))) da_nil)) de_int) fun _ _ => rfl))) da_nil)))))
theorem sc_q_names : FnScope [("_law_pool_here" : Str), ("_law_style" : Str), ("_law_shift" : Str), ("_law_stride" : Str), ("_law_place" : Str), ("_law_size" : Str), ("_law_word_here" : Str), ("_law_names_here" : Str), ("_law_k" : Str), ("_law_letter" : Str), ("_law_at" : Str), ("_law_name" : Str)] [("_law_pool_here" : Str)] (defScope s_q_names) := ⟨rfl, rfl, rfl, by decide +kernel, rfl, by decide +kernel, by decide +kernel⟩
theorem Cxt.ok_q_names (T : Cxt w K mg h base) : FnD PG w K mg base (gOf K w) (fAd K dx25.at_) 4 1 f_q_names := by
  obtain ⟨fd, q⟩ := T.sy.def_ 25 (d := dx25) (ps := [("_law_pool_here" : Str)]) rfl rfl fun _ _ _ _ _ _ us hl => match us, hl with | [_], _ => rfl
  refine ⟨⟨fd, [("_law_pool_here" : Str)], fn_scope false (fn_ok (k := 3) q.F sc_q_names rfl rfl fun cdv A outer s0 H E hr tk po => ?_), q.B⟩, q.F.kp⟩
  have scN := (sc_q_names).nd
  have hu := hu65 hr
  have hu4 := hu64 hr
  exact (dss_cons (ds_set (i := 1) scN rfl (by first | exact .inl rfl | exact .inr rfl) (de_callX (T.ok_q_draw) (hr.mono (by decide)) rfl T.glo__law_draw tk (da_cons (de_var (i := 0) rfl (by first | exact .inl rfl | exact .inr (.inl rfl) | exact .inr (.inr rfl))) (da_cons de_int da_nil)))) (dss_cons (ds_set (i := 2) scN rfl (by first | exact .inl rfl | exact .inr rfl) (de_callX (T.ok_q_draw) (hr.mono (by decide)) rfl T.glo__law_draw tk (da_cons (de_var (i := 0) rfl (by first | exact .inl rfl | exact .inr (.inl rfl) | exact .inr (.inr rfl))) (da_cons de_int da_nil)))) (dss_cons (ds_set (i := 3) scN rfl (by first | exact .inl rfl | exact .inr rfl) (de_add rfl de_int (de_mul de_int (de_callX (T.ok_q_draw) (hr.mono (by decide)) rfl T.glo__law_draw tk (da_cons (de_var (i := 0) rfl (by first | exact .inl rfl | exact .inr (.inl rfl) | exact .inr (.inr rfl))) (da_cons de_int da_nil)))))) (dss_cons (ds_set (i := 4) scN rfl (by first | exact .inl rfl | exact .inr rfl) (de_callX (T.ok_q_draw) (hr.mono (by decide)) rfl T.glo__law_draw tk (da_cons (de_var (i := 0) rfl (by first | exact .inl rfl | exact .inr (.inl rfl) | exact .inr (.inr rfl))) (da_cons de_int da_nil)))) (dss_cons (ds_set (i := 5) scN rfl (by first | exact .inl rfl | exact .inr rfl) (de_add rfl de_int (de_callX (T.ok_q_draw) (hr.mono (by decide)) rfl T.glo__law_draw tk (da_cons (de_var (i := 0) rfl (by first | exact .inl rfl | exact .inr (.inl rfl) | exact .inr (.inr rfl))) (da_cons de_int da_nil))))) (dss_cons (ds_set (i := 6) scN rfl (by first | exact .inl rfl | exact .inr rfl) (de_callX (T.ok_q_word) (hr.mono (by decide)) rfl T.glo__law_word tk (da_cons (de_lc (own := [("_law_k", 8)]) (mu := false) rfl scN (di_range1 rfl (T.free_range) (da_cons de_int da_nil)) (blkOk_by rfl) (fun _ _ _ _ _ => (pg_name (i := 8) scN rfl (by first | exact .inl rfl | exact .inr rfl) (by first | exact .inl rfl | exact .inr rfl))) (tw_name 8 (by decide)) (fun sB HB CB clB fpB => dts_nil) (fun sB HB CB clB fpB => (de_callX (T.ok_q_draw) (hr.mono (by decide)) rfl T.glo__law_draw tk_never (da_cons (de_var (i := 0) rfl (by first | exact .inl rfl | exact .inr (.inl rfl) | exact .inr (.inr rfl))) (da_cons de_int da_nil))))) da_nil))) (ds_kill [0] (dss_cons (ds_set (i := 7) scN rfl (by first | exact .inl rfl | exact .inr rfl) (de_new da_nil)) (dss_cons (ds_for po rfl (di_range1 rfl (T.free_range) (da_cons de_int da_nil)) (pg_name (i := 8) scN rfl (by first | exact .inl rfl | exact .inr rfl) (by first | exact .inl rfl | exact .inr rfl)) (tg_name 8) (ds_trim (ds_kill [9, 10, 11] (dss_cons (ds_set (i := 9) scN rfl (by first | exact .inl rfl | exact .inr rfl) (de_callX (T.ok_q_word) (hr.mono (by decide)) rfl T.glo__law_word tk (da_cons (de_lst (da_cons (de_add rfl (de_var (i := 2) rfl (by first | exact .inl rfl | exact .inr (.inl rfl) | exact .inr (.inr rfl))) (de_mul (de_var (i := 3) rfl (by first | exact .inl rfl | exact .inr (.inl rfl) | exact .inr (.inr rfl))) (de_var (i := 8) rfl (by first | exact .inl rfl | exact .inr (.inl rfl) | exact .inr (.inr rfl))))) da_nil)) da_nil))) (dss_cons (ds_set (i := 10) scN rfl (by first | exact .inl rfl | exact .inr rfl) (de_mod (de_callTy call_int1 cd_int rfl (T.free_int) bt_int (da_cons (de_var (i := 4) rfl (by first | exact .inl rfl | exact .inr (.inl rfl) | exact .inr (.inr rfl))) da_nil)) (de_var (i := 5) rfl (by first | exact .inl rfl | exact .inr (.inl rfl) | exact .inr (.inr rfl))))) (dss_cons (ds_set (i := 11) scN rfl (by first | exact .inl rfl | exact .inr rfl) (de_add rfl (de_add rfl (de_slice rfl (de_var (i := 6) rfl (by first | exact .inl rfl | exact .inr (.inl rfl) | exact .inr (.inr rfl))) do_none (do_some (de_var (i := 10) rfl (by first | exact .inl rfl | exact .inr (.inl rfl) | exact .inr (.inr rfl))))) (de_var (i := 9) rfl (by first | exact .inl rfl | exact .inr (.inl rfl) | exact .inr (.inr rfl)))) (de_slice rfl (de_var (i := 6) rfl (by first | exact .inl rfl | exact .inr (.inl rfl) | exact .inr (.inr rfl))) (do_some (de_add rfl (de_var (i := 10) rfl (by first | exact .inl rfl | exact .inr (.inl rfl) | exact .inr (.inr rfl))) de_int)) (do_some (de_var (i := 5) rfl (by first | exact .inl rfl | exact .inr (.inl rfl) | exact .inr (.inr rfl))))))) (ds_kill [10] (dss_cons (ds_if (dt_eq rfl hu4 (de_var (i := 1) rfl (by first | exact .inl rfl | exact .inr (.inl rfl) | exact .inr (.inr rfl))) de_int) (ds_kill [11] (dss_one (ds_set (i := 11) scN rfl (by first | exact .inl rfl | exact .inr rfl) (de_slice rfl (de_var (i := 6) rfl (by first | exact .inl rfl | exact .inr (.inl rfl) | exact .inr (.inr rfl))) do_none (do_some (de_add rfl de_int (de_mod (de_callTy call_int1 cd_int rfl (T.free_int) bt_int (da_cons (de_add rfl (de_var (i := 8) rfl (by first | exact .inl rfl | exact .inr (.inl rfl) | exact .inr (.inr rfl))) (de_var (i := 4) rfl (by first | exact .inl rfl | exact .inr (.inl rfl) | exact .inr (.inr rfl)))) da_nil)) de_int))))))) dss_nil) (dss_cons (ds_if (dt_eq rfl hu4 (de_var (i := 1) rfl (by first | exact .inl rfl | exact .inr (.inl rfl) | exact .inr (.inr rfl))) de_int) (ds_kill [11] (dss_one (ds_set (i := 11) scN rfl (by first | exact .inl rfl | exact .inr rfl) (de_add rfl (de_var (i := 9) rfl (by first | exact .inl rfl | exact .inr (.inl rfl) | exact .inr (.inr rfl))) (de_slice rfl (de_var (i := 6) rfl (by first | exact .inl rfl | exact .inr (.inl rfl) | exact .inr (.inr rfl))) (do_some (de_var (i := 8) rfl (by first | exact .inl rfl | exact .inr (.inl rfl) | exact .inr (.inr rfl)))) (do_some (de_add rfl (de_var (i := 8) rfl (by first | exact .inl rfl | exact .inr (.inl rfl) | exact .inr (.inr rfl))) (de_mod (de_callTy call_int1 cd_int rfl (T.free_int) bt_int (da_cons (de_add rfl (de_var (i := 4) rfl (by first | exact .inl rfl | exact .inr (.inl rfl) | exact .inr (.inr rfl))) (de_mul de_int (de_var (i := 8) rfl (by first | exact .inl rfl | exact .inr (.inl rfl) | exact .inr (.inr rfl))))) da_nil)) de_int)))))))) dss_nil) (ds_kill [8, 9] (dss_one (ds_expr (de_mth rfl PySem.F.plainAttrs_list PySem.F.slot_list_append PySem.F.type_list_append mt_append td_list md_append (de_var (i := 7) rfl (by first | exact .inl rfl | exact .inr (.inl rfl) | exact .inr (.inr rfl))) (da_cons (de_var (i := 11) rfl (by first | exact .inl rfl | exact .inr (.inl rfl) | exact .inr (.inr rfl))) da_nil)))))))))))))) (ds_kill [1, 2, 3, 4, 5, 6, 8, 9, 10, 11] (dss_one (ds_ret (de_var (i := 7) rfl (by first | exact .inl rfl | exact .inr (.inl rfl) | exact .inr (.inr rfl)))))))))))))))
theorem sc_law : FnScope [("_law_script" : Str), ("_law_names_here" : Str), ("_law_groups_here" : Str), ("_law_pool_here" : Str), ("_law_count" : Str), ("_law_used" : Str), ("_law_kinds" : Str), ("_law_k" : Str), ("_law_roles" : Str), ("_law_j" : Str), ("_law_mode" : Str), ("_law_label" : Str), ("_law_more" : Str), ("_law_turn" : Str), ("_law_one" : Str), ("_law_two" : Str), ("_law_given" : Str), ("_law_due_here" : Str), ("_law_catalog" : Str), ("_law_other" : Str), ("_law_kind_here" : Str)] [("_law_script" : Str)] (defScope s_law) := ⟨rfl, rfl, rfl, by decide +kernel, rfl, by decide +kernel, by decide +kernel⟩
theorem Cxt.fk_law (T : Cxt w K mg h base) : ∀ {fd : FuncData}, Def1 K dx26 [("_law_script" : Str)] (fAd K dx26.at_) fd → FnOk PG w K mg base (L2.CX PG w) 11 (fAd K dx26.at_) fd [("_law_script" : Str)] (spF (gOf K w) 1 f_law) := by
  intro fd q
  refine fn_scope false (fn_ok (k := 10) q.F sc_law rfl rfl fun cdv A outer s0 H E hr tk po => ?_)
  have scN := (sc_law).nd
  have hu := hu65 hr
  have hu4 := hu64 hr
  exact (dss_cons (ds_set (i := 1) scN rfl (by first | exact .inl rfl | exact .inr rfl) (de_callX (T.ok_q_names) (hr.mono (by decide)) rfl T.glo__law_names tk (da_cons (de_callX (T.ok_q_pool) (hr.mono (by decide)) rfl T.glo__law_pool tk (da_cons (de_var (i := 0) rfl (by first | exact .inl rfl | exact .inr (.inl rfl) | exact .inr (.inr rfl))) (da_cons de_int da_nil))) da_nil))) (dss_cons (ds_set (i := 2) scN rfl (by first | exact .inl rfl | exact .inr rfl) (de_callX (T.ok_q_names) (hr.mono (by decide)) rfl T.glo__law_names tk (da_cons (de_callX (T.ok_q_pool) (hr.mono (by decide)) rfl T.glo__law_pool tk (da_cons (de_var (i := 0) rfl (by first | exact .inl rfl | exact .inr (.inl rfl) | exact .inr (.inr rfl))) (da_cons de_int da_nil))) da_nil))) (dss_cons (ds_set (i := 3) scN rfl (by first | exact .inl rfl | exact .inr rfl) (de_callX (T.ok_q_pool) (hr.mono (by decide)) rfl T.glo__law_pool tk (da_cons (de_var (i := 0) rfl (by first | exact .inl rfl | exact .inr (.inl rfl) | exact .inr (.inr rfl))) (da_cons de_int da_nil)))) (dss_cons (ds_set (i := 4) scN rfl (by first | exact .inl rfl | exact .inr rfl) (de_callX (T.ok_q_draw) (hr.mono (by decide)) rfl T.glo__law_draw tk (da_cons (de_var (i := 3) rfl (by first | exact .inl rfl | exact .inr (.inl rfl) | exact .inr (.inr rfl))) (da_cons de_int da_nil)))) (dss_cons (ds_set (i := 5) scN rfl (by first | exact .inl rfl | exact .inr rfl) (de_add rfl de_int (de_callX (T.ok_q_draw) (hr.mono (by decide)) rfl T.glo__law_draw tk (da_cons (de_var (i := 3) rfl (by first | exact .inl rfl | exact .inr (.inl rfl) | exact .inr (.inr rfl))) (da_cons de_int da_nil))))) (dss_cons (ds_set (i := 6) scN rfl (by first | exact .inl rfl | exact .inr rfl) (de_new da_nil)) (dss_cons (ds_for po rfl (di_range1 rfl (T.free_range) (da_cons (de_var (i := 4) rfl (by first | exact .inl rfl | exact .inr (.inl rfl) | exact .inr (.inr rfl))) da_nil)) (pg_name (i := 7) scN rfl (by first | exact .inl rfl | exact .inr rfl) (by first | exact .inl rfl | exact .inr rfl)) (tg_name 7) (ds_trim (ds_kill [8, 9, 10, 11] (dss_cons (ds_set (i := 8) scN rfl (by first | exact .inl rfl | exact .inr rfl) (de_new da_nil)) (dss_cons (ds_for po rfl (di_range1 rfl (T.free_range) (da_cons (de_add rfl de_int (de_callX (T.ok_q_draw) (hr.mono (by decide)) rfl T.glo__law_draw tk (da_cons (de_var (i := 3) rfl (by first | exact .inl rfl | exact .inr (.inl rfl) | exact .inr (.inr rfl))) (da_cons de_int da_nil)))) da_nil)) (pg_name (i := 9) scN rfl (by first | exact .inl rfl | exact .inr rfl) (by first | exact .inl rfl | exact .inr rfl)) (tg_name 9) (ds_trim (ds_kill [10, 11] (dss_cons (ds_set (i := 10) scN rfl (by first | exact .inl rfl | exact .inr rfl) (de_callX (T.ok_q_draw) (hr.mono (by decide)) rfl T.glo__law_draw tk (da_cons (de_var (i := 3) rfl (by first | exact .inl rfl | exact .inr (.inl rfl) | exact .inr (.inr rfl))) (da_cons de_int da_nil)))) (dss_cons (ds_if (PW.pt (dw_and (dt_eq rfl hu4 (de_var (i := 9) rfl (by first | exact .inl rfl | exact .inr (.inl rfl) | exact .inr (.inr rfl))) de_int) (dw_and1 (dt_eq rfl hu4 (de_var (i := 10) rfl (by first | exact .inl rfl | exact .inr (.inl rfl) | exact .inr (.inr rfl))) de_int)))) (ds_kill [10] (dss_one (ds_set (i := 10) scN rfl (by first | exact .inl rfl | exact .inr rfl) de_int))) dss_nil) (dss_cons (ds_set (i := 11) scN rfl (by first | exact .inl rfl | exact .inr rfl) (de_ixA rfl rfl hu (de_lst (da_cons de_str (da_cons de_str (da_cons de_str da_nil)))) (de_var (i := 9) rfl (by first | exact .inl rfl | exact .inr (.inl rfl) | exact .inr (.inr rfl))) fun _ _ => rfl)) (ds_kill [9] (dss_one (ds_expr (de_mth rfl PySem.F.plainAttrs_list PySem.F.slot_list_append PySem.F.type_list_append mt_append td_list md_append (de_var (i := 8) rfl (by first | exact .inl rfl | exact .inr (.inl rfl) | exact .inr (.inr rfl))) (da_cons (de_tup (da_cons (de_var (i := 11) rfl (by first | exact .inl rfl | exact .inr (.inl rfl) | exact .inr (.inr rfl))) (da_cons (de_ixA rfl rfl hu (de_var (i := 2) rfl (by first | exact .inl rfl | exact .inr (.inl rfl) | exact .inr (.inr rfl))) (de_callX (T.ok_q_draw) (hr.mono (by decide)) rfl T.glo__law_draw tk (da_cons (de_var (i := 3) rfl (by first | exact .inl rfl | exact .inr (.inl rfl) | exact .inr (.inr rfl))) (da_cons (de_var (i := 5) rfl (by first | exact .inl rfl | exact .inr (.inl rfl) | exact .inr (.inr rfl))) da_nil))) fun _ _ => rfl) (da_cons (de_var (i := 10) rfl (by first | exact .inl rfl | exact .inr (.inl rfl) | exact .inr (.inr rfl))) da_nil)))) da_nil))))))))))) (ds_kill [9, 10, 11] (dss_one (ds_expr (de_mth rfl PySem.F.plainAttrs_list PySem.F.slot_list_append PySem.F.type_list_append mt_append td_list md_append (de_var (i := 6) rfl (by first | exact .inl rfl | exact .inr (.inl rfl) | exact .inr (.inr rfl))) (da_cons (de_tup (da_cons (de_ixA rfl rfl hu (de_var (i := 1) rfl (by first | exact .inl rfl | exact .inr (.inl rfl) | exact .inr (.inr rfl))) (de_var (i := 7) rfl (by first | exact .inl rfl | exact .inr (.inl rfl) | exact .inr (.inr rfl))) fun _ _ => rfl) (da_cons (de_frz (de_var (i := 8) rfl (by first | exact .inl rfl | exact .inr (.inl rfl) | exact .inr (.inr rfl)))) da_nil))) da_nil)))))))))) (ds_kill [2, 3, 5, 7, 8, 9, 10, 11] (dss_cons (ds_set (i := 12) scN rfl (by first | exact .inl rfl | exact .inr rfl) (de_callX (T.ok_q_pool) (hr.mono (by decide)) rfl T.glo__law_pool tk (da_cons (de_var (i := 0) rfl (by first | exact .inl rfl | exact .inr (.inl rfl) | exact .inr (.inr rfl))) (da_cons de_int da_nil)))) (ds_kill [0] (dss_cons (ds_if (PW.pt (dw_and (dt_eq rfl hu4 (de_callX (T.ok_q_draw) (hr.mono (by decide)) rfl T.glo__law_draw tk (da_cons (de_var (i := 12) rfl (by first | exact .inl rfl | exact .inr (.inl rfl) | exact .inr (.inr rfl))) (da_cons de_int da_nil))) de_int) (dw_and1 (dt_gt (de_var (i := 4) rfl (by first | exact .inl rfl | exact .inr (.inl rfl) | exact .inr (.inr rfl))) de_int)))) (dss_one (ds_for po rfl (di_range1 rfl (T.free_range) (da_cons (de_add rfl de_int (de_callX (T.ok_q_draw) (hr.mono (by decide)) rfl T.glo__law_draw tk (da_cons (de_var (i := 12) rfl (by first | exact .inl rfl | exact .inr (.inl rfl) | exact .inr (.inr rfl))) (da_cons de_int da_nil)))) da_nil)) (pg_name (i := 13) scN rfl (by first | exact .inl rfl | exact .inr rfl) (by first | exact .inl rfl | exact .inr rfl)) (tg_name 13) (ds_trim (ds_kill [13, 14, 15] (dss_cons (ds_set (i := 14) scN rfl (by first | exact .inl rfl | exact .inr rfl) (de_callX (T.ok_q_draw) (hr.mono (by decide)) rfl T.glo__law_draw tk (da_cons (de_var (i := 12) rfl (by first | exact .inl rfl | exact .inr (.inl rfl) | exact .inr (.inr rfl))) (da_cons (de_var (i := 4) rfl (by first | exact .inl rfl | exact .inr (.inl rfl) | exact .inr (.inr rfl))) da_nil)))) (dss_cons (ds_set (i := 15) scN rfl (by first | exact .inl rfl | exact .inr rfl) (de_callX (T.ok_q_draw) (hr.mono (by decide)) rfl T.glo__law_draw tk (da_cons (de_var (i := 12) rfl (by first | exact .inl rfl | exact .inr (.inl rfl) | exact .inr (.inr rfl))) (da_cons (de_var (i := 4) rfl (by first | exact .inl rfl | exact .inr (.inl rfl) | exact .inr (.inr rfl))) da_nil)))) (dss_one (ds_setI rfl rfl hu (de_var (i := 6) rfl (by first | exact .inl rfl | exact .inr (.inl rfl) | exact .inr (.inr rfl))) (de_var (i := 15) rfl (by first | exact .inl rfl | exact .inr (.inl rfl) | exact .inr (.inr rfl))) (de_tup (da_cons (de_ixA rfl rfl hu (de_ixA rfl rfl hu (de_var (i := 6) rfl (by first | exact .inl rfl | exact .inr (.inl rfl) | exact .inr (.inr rfl))) (de_var (i := 14) rfl (by first | exact .inl rfl | exact .inr (.inl rfl) | exact .inr (.inr rfl))) fun _ _ => rfl) de_int fun _ _ => rfl) (da_cons (de_ixA rfl rfl hu (de_ixA rfl rfl hu (de_var (i := 6) rfl (by first | exact .inl rfl | exact .inr (.inl rfl) | exact .inr (.inr rfl))) (de_var (i := 15) rfl (by first | exact .inl rfl | exact .inr (.inl rfl) | exact .inr (.inr rfl))) fun _ _ => rfl) de_int fun _ _ => rfl) da_nil))))))))))) dss_nil) (ds_kill [12, 13, 14, 15] (dss_cons (ds_setLc (i := 16) (own := [("_law_kind_here", 20)]) (mu := true) rfl scN rfl rfl rfl (di_seq rfl (de_var (i := 6) rfl (by first | exact .inl rfl | exact .inr (.inl rfl) | exact .inr (.inr rfl)))) (blkOk_by rfl) (fun _ _ _ _ _ => (pg_name (i := 20) scN rfl (by first | exact .inl rfl | exact .inr rfl) (by first | exact .inl rfl | exact .inr rfl))) (tw_name 20 (by decide)) (fun sB HB CB clB fpB => dts_nil) (fun sB HB CB clB fpB => (de_callX (T.ok_q_kind) (hr.mono (by decide)) rfl T.glo__law_kind tk_never (da_cons (de_var (i := 20) rfl (by first | exact .inl rfl | exact .inr (.inl rfl) | exact .inr (.inr rfl))) da_nil)))) (dss_cons (ds_set (i := 17) scN rfl (by first | exact .inl rfl | exact .inr rfl) (de_callX (T.ok_q_due) (hr.mono (by decide)) rfl T.glo__law_due tk (da_cons (de_var (i := 6) rfl (by first | exact .inl rfl | exact .inr (.inl rfl) | exact .inr (.inr rfl))) da_nil))) (dss_cons (ds_if (dt_ne rfl hu4 (de_var (i := 17) rfl (by first | exact .inl rfl | exact .inr (.inl rfl) | exact .inr (.inr rfl))) (de_tup da_nil)) (ds_kill [1, 6] (dss_one (ds_ret (de_and (de_eq rfl hu4 (de_callX (T.ok_q_refusal) (hr.mono (by decide)) rfl T.glo__law_refusal tk (da_cons (de_var (i := 16) rfl (by first | exact .inl rfl | exact .inr (.inl rfl) | exact .inr (.inr rfl))) da_nil)) (de_var (i := 17) rfl (by first | exact .inl rfl | exact .inr (.inl rfl) | exact .inr (.inr rfl)))) (de_one (de_eq rfl hu4 (de_callB call_len (cd_len rfl) rfl (T.free_len) bt_len (da_cons (de_var (i := 16) rfl (by first | exact .inl rfl | exact .inr (.inl rfl) | exact .inr (.inr rfl))) da_nil)) (de_var (i := 4) rfl (by first | exact .inl rfl | exact .inr (.inl rfl) | exact .inr (.inr rfl))))))))) dss_nil) (ds_kill [17] (dss_cons (ds_set (i := 18) scN rfl (by first | exact .inl rfl | exact .inr rfl) (de_makeX (frz := true) rfl T.cls_7 T.mkr_Catalog (T.ok_Catalog_zinitz) (hr.mono (by decide)) rfl T.glo_Catalog tk (da_cons (de_var (i := 16) rfl (by first | exact .inl rfl | exact .inr (.inl rfl) | exact .inr (.inr rfl))) da_nil))) (dss_cons (ds_set (i := 19) scN rfl (by first | exact .inl rfl | exact .inr rfl) (de_ixA rfl rfl hu (de_add rfl (de_var (i := 1) rfl (by first | exact .inl rfl | exact .inr (.inl rfl) | exact .inr (.inr rfl))) (de_lst (da_cons de_str da_nil))) (de_var (i := 4) rfl (by first | exact .inl rfl | exact .inr (.inl rfl) | exact .inr (.inr rfl))) fun _ _ => rfl)) (ds_kill [1] (dss_cons (ds_if (PW.pt (dw_or (dt_not (dt_val (de_callX (T.ok_q_is) (hr.mono (by decide)) rfl T.glo__law_is tk (da_cons (de_var (i := 18) rfl (by first | exact .inl rfl | exact .inr (.inl rfl) | exact .inr (.inr rfl))) (da_cons (de_var (i := 6) rfl (by first | exact .inl rfl | exact .inr (.inl rfl) | exact .inr (.inr rfl))) (da_cons (de_var (i := 19) rfl (by first | exact .inl rfl | exact .inr (.inl rfl) | exact .inr (.inr rfl))) da_nil)))))) (dw_or1 (dt_ne rfl hu4 (de_callB call_len (cd_len rfl) rfl (T.free_len) bt_len (da_cons (de_var (i := 16) rfl (by first | exact .inl rfl | exact .inr (.inl rfl) | exact .inr (.inr rfl))) da_nil)) (de_var (i := 4) rfl (by first | exact .inl rfl | exact .inr (.inl rfl) | exact .inr (.inr rfl))))))) (ds_kill [4, 6, 16, 18, 19] (dss_one (ds_ret de_bl))) dss_nil) (ds_kill [4] (dss_cons (ds_expr (de_mth rfl PySem.F.plainAttrs_list PySem.F.slot_list_append PySem.F.type_list_append mt_append td_list md_append (de_meth0 rfl T.mt_groups T.ms_groups (hr.mono (by decide)) tk (de_var (i := 18) rfl (by first | exact .inl rfl | exact .inr (.inl rfl) | exact .inr (.inr rfl)))) (da_cons de_str da_nil))) (dss_cons (ds_expr (de_mth rfl PySem.F.plainAttrs_list PySem.F.slot_list_append PySem.F.type_list_append mt_append td_list md_append (de_meth0 rfl T.mt_made_groups T.ms_made_groups (hr.mono (by decide)) tk (de_var (i := 18) rfl (by first | exact .inl rfl | exact .inr (.inl rfl) | exact .inr (.inr rfl)))) (da_cons de_str da_nil))) (dss_cons (ds_expr (de_mth0 rfl PySem.F.plainAttrs_list PySem.F.slot_list_clear PySem.F.type_list_clear mt_clear td_list md_clear (de_var (i := 16) rfl (by first | exact .inl rfl | exact .inr (.inl rfl) | exact .inr (.inr rfl))))) (ds_kill [16] (dss_one (ds_ret (de_callX (T.ok_q_is) (hr.mono (by decide)) rfl T.glo__law_is tk (da_cons (de_var (i := 18) rfl (by first | exact .inl rfl | exact .inr (.inl rfl) | exact .inr (.inr rfl))) (da_cons (de_var (i := 6) rfl (by first | exact .inl rfl | exact .inr (.inl rfl) | exact .inr (.inr rfl))) (da_cons (de_var (i := 19) rfl (by first | exact .inl rfl | exact .inr (.inl rfl) | exact .inr (.inr rfl))) da_nil)))))))))))))))))))))))))))))))
end
/-! the top is run -/
abbrev RR : PySem.W.OpenRow := PySem.W.OpenLaw.row PySem.Challenge.rw_redopages_k03_catalogs_and_their_groups
abbrev QV : Program := PySem.W.view RR.prog [35]
abbrev hk : PySem.W.Hook := hookX 4 fa fn
def ob (s : PySem.W.SharedT) : AlX := obsXG 4 fa fn (HandSHeadRun.getT s)
theorem ob_eq (s : PySem.W.SharedT) : ob s = hk.obs s.abs := obsXG_eq (HandSHeadRun.getT_eq s)
def nm0 : List Str := ["_wall", "__name__", "RedoError", "BadName", "BadKind", "NoKind", "LETTERS", "LONGEST_NAME", "MOST_ROLES", "check_name", "Role", "Read", "Made", "Fresh", "Both", "Renewed", "Kind", "Catalog", "_law_sorted", "_law_groups", "_law_made_groups", "_law_draw", "_law_word", "_law_names", "_law_pool", "_law_role", "_law_kind", "_law_refusal", "_law_unknown", "_law_told"]
def nm1 : List Str := ["_law_due", "_law_plain", "_law_is"]
abbrev nms : List Str := nm0 ++ nm1
theorem run (w : World) : HandSHeadRun.RunEq RR QV hk ob 9000 nms w := by
  intro os
  kernel_rfl
end LK03
open PySem PySem.W PySem.Calls PyProof.Rows
theorem PySem.Challenge.cw_redopages_k03_catalogs_and_their_groups_of (eqn : ∀ ns : List Int, ns.length ≤ 63 → ∃ L1, LK03.f_law [.v (.scr ns)] [] = some (.ok (.v (.bl true)), L1)) : PySem.Challenge.rw_redopages_k03_catalogs_and_their_groups.Holds := by
  w_on; o_law
  refine HandSHeadRun.head_any (r := OpenLaw.row PySem.Challenge.rw_redopages_k03_catalogs_and_their_groups) (q := LK03.QV) (H := LK03.hk) (ob := LK03.ob) (M := 9000) (loose := LK03.nms) (d := HandSHeadRun.topDef (OpenLaw.row PySem.Challenge.rw_redopages_k03_catalogs_and_their_groups).prog 35) (kwd := []) LK03.ob_eq
    (by kernel_rfl) (fun s => by kernel_rfl) LK03.run (by kernel_rfl) (by kernel_rfl) (by kernel_rfl) (by rfl) (by first | assumption | decide +kernel) (by decide +kernel) ⟨rfl, rfl, rfl, rfl, rfl, by decide +kernel⟩ ?hw ?hc
  case hw => w_witness2
  case hc =>
    refine L2.walk_ofE (l := PySem.Challenge.rw_redopages_k03_catalogs_and_their_groups) (n := 63) (k := 11) (x := "_law_script") (CX := DN.CXA LK03.PG) rfl (by decide) (by kernel_rfl) ⟨rfl, by decide, by decide⟩ ?F DN.cxa_no
    intro w mg fa h Y G hmg0
    obtain ⟨K, KX, c⟩ := Y
    have hmg : mg ("law" : PySem.Str) = some (.ref fa) := by
      have e : (HandSHeadRun.topDef (OpenLaw.row PySem.Challenge.rw_redopages_k03_catalogs_and_their_groups).prog 35).name = ("law" : PySem.Str) := by kernel_rfl
      rw [← e]
      exact hmg0
    obtain ⟨fd, q⟩ := DN.SaysX.def_ c 26 (d := LK03.dx26) (ps := ["_law_script"]) rfl rfl fun _ _ _ _ _ _ us hl => match us, hl with | [_], _ => rfl
    have e : fa = He.fAd K LK03.dx26.at_ := by
      have T : LK03.Cxt w K mg h h := ⟨c, KX, G⟩
      have z := hmg.symm.trans T.glo_law
      cases z
      rfl
    subst e
    obtain ⟨oc, od, kV, doc, pm, an, cdv, ct, osl, efd, lk, hcd⟩ := q.F.ex
    refine ⟨K, fd, DN.spF (DN.gOf K w) 1 LK03.f_law, KX, fun s u => by subst efd; exact .of_eq rfl, fun H a ns hl _ hS => DN.law_end (g := DN.gOf K w) (eqn ns hl) hS fun _ => rfl, fun base kb nb => ?_⟩
    have T : LK03.Cxt w K mg h base := ⟨c, KX, G⟩
    exact DN.fnok_cx (T.fk_law q) fun outer H s E u s' z => ⟨w, z⟩


end
section
local macro_rules
  | `(tactic| simp! [$as,*] $[$l:location]?) => `(tactic| simp only [DN.wp_ret, DN.wp_pure, DN.th_rt, DN.th_bk, DN.th_ct, DN.th_ex, DN.wps_nx, DN.wps_bk, DN.wps_ct, DN.wps_retN, DN.wps_kill, DN.wps_set, DN.wps_expr, DN.wps_ret, DN.wps_if, DN.wps_ift, DN.wps_iff, DN.wps_satt, DN.wps_unit, DN.wps_setI, DN.wps_for, DN.varW_some, DN.wp_var, DN.wp_retD, DN.wp_bin, DN.wp_un, DN.wp_app, DN.wp_cons, DN.wp_nil, DN.wp_tstD, DN.wp_asB, DN.wp_tstT, DN.wp_truB_bl, DN.wp_truB_tup, DN.wp_truB_lst, DN.wp_andB, DN.wp_orB, DN.wp_notB, DN.wp_valB, DN.wp_andV, DN.wp_orV, DN.wp_notV, DN.wp_ifE, DN.wp_noP, DN.wp_part, DN.wp_asJ, DN.wp_slice, DN.wp_seqI, DN.wp_argI, DN.wp_itm_tup, DN.wp_itm_lst, DN.wp_tup0, DN.wp_tup1, DN.wp_tup2, DN.wp_tup3, DN.wp_tup4, DN.wp_lst0, DN.wp_lst1, DN.wp_lst2, DN.wp_lst3, DN.wp_lst4, DN.wp_lst5, DN.wp_lst6, DN.wp_lst7, DN.wp_lst8, DN.wp_new0, DN.wp_arN1, DN.wp_arN2, DN.wp_arN3, DN.wp_arN4, DN.wp_arN5, DN.wp_arN6, DN.wp_arN7, DN.wp_addI, DN.wp_subI, DN.wp_negI, DN.wp_int, DN.wp_max2, DN.wp_ord, DN.wp_ltI, DN.wp_chn, DN.wp_eqI, DN.wp_len_lst, DN.wp_len_tup, DN.wp_ixT0, DN.wp_ixT1, DN.wp_ixT2, DN.wp_ixT3, DN.wp_mth, DN.wp_meth, DN.wp_methZ, DN.wp_methK, DN.wp_js0, DN.wp_js, DN.wp_jsM, DN.tyS_str, DN.wp_lc, DN.wp_yes, DN.sv_kill0, DN.sv_kill1, DN.sv_gets, DN.sv_get0, DN.sv_sets, DN.sv_set0, DN.sv_ift, DN.sv_iff, DN.sv_dect, DN.sv_decf, DN.sv_ft, DN.sv_nott, DN.sv_notf, DN.sv_cons_app, DN.sv_nil_app, DN.sv_len_cons, DN.sv_len_nil, DN.sv_and_self, DN.sv_and_true, DN.sv_true_and, DN.wps_par, DN.wp_frzV, DN.wp_ownI, reduceIte, Nat.reduceAdd, $as,*] $[$l]?)
  | `(tactic| simp! $[$l:location]?) => `(tactic| simp only [DN.wp_ret, DN.wp_pure, DN.th_rt, DN.th_bk, DN.th_ct, DN.th_ex, DN.wps_nx, DN.wps_bk, DN.wps_ct, DN.wps_retN, DN.wps_kill, DN.wps_set, DN.wps_expr, DN.wps_ret, DN.wps_if, DN.wps_ift, DN.wps_iff, DN.wps_satt, DN.wps_unit, DN.wps_setI, DN.wps_for, DN.varW_some, DN.wp_var, DN.wp_retD, DN.wp_bin, DN.wp_un, DN.wp_app, DN.wp_cons, DN.wp_nil, DN.wp_tstD, DN.wp_asB, DN.wp_tstT, DN.wp_truB_bl, DN.wp_truB_tup, DN.wp_truB_lst, DN.wp_andB, DN.wp_orB, DN.wp_notB, DN.wp_valB, DN.wp_andV, DN.wp_orV, DN.wp_notV, DN.wp_ifE, DN.wp_noP, DN.wp_part, DN.wp_asJ, DN.wp_slice, DN.wp_seqI, DN.wp_argI, DN.wp_itm_tup, DN.wp_itm_lst, DN.wp_tup0, DN.wp_tup1, DN.wp_tup2, DN.wp_tup3, DN.wp_tup4, DN.wp_lst0, DN.wp_lst1, DN.wp_lst2, DN.wp_lst3, DN.wp_lst4, DN.wp_lst5, DN.wp_lst6, DN.wp_lst7, DN.wp_lst8, DN.wp_new0, DN.wp_arN1, DN.wp_arN2, DN.wp_arN3, DN.wp_arN4, DN.wp_arN5, DN.wp_arN6, DN.wp_arN7, DN.wp_addI, DN.wp_subI, DN.wp_negI, DN.wp_int, DN.wp_max2, DN.wp_ord, DN.wp_ltI, DN.wp_chn, DN.wp_eqI, DN.wp_len_lst, DN.wp_len_tup, DN.wp_ixT0, DN.wp_ixT1, DN.wp_ixT2, DN.wp_ixT3, DN.wp_mth, DN.wp_meth, DN.wp_methZ, DN.wp_methK, DN.wp_js0, DN.wp_js, DN.wp_jsM, DN.tyS_str, DN.wp_lc, DN.wp_yes, DN.sv_kill0, DN.sv_kill1, DN.sv_gets, DN.sv_get0, DN.sv_sets, DN.sv_set0, DN.sv_ift, DN.sv_iff, DN.sv_dect, DN.sv_decf, DN.sv_ft, DN.sv_nott, DN.sv_notf, DN.sv_cons_app, DN.sv_nil_app, DN.sv_len_cons, DN.sv_len_nil, DN.sv_and_self, DN.sv_and_true, DN.sv_true_and, DN.wps_par, DN.wp_frzV, DN.wp_ownI, reduceIte, Nat.reduceAdd] $[$l]?)
set_option linter.all false
set_option maxRecDepth 100000
set_option maxHeartbeats 4000000
namespace LK03
open PySem DN
open L2 (ixN atI)
/-- a pool -/
def PoolP (xs : List P) : Prop := ∃ a b c : Int, xs = [.int a, .int b, .int c] ∧ 0 ≤ b ∧ b < 10007
theorem draw_ok {L : List MO} {n : Nat} {xs : List P} (h : L[n]? = some (.lst xs)) (hp : PoolP xs) {m : Int} (h0 : 0 < m) (h1 : m < 1073741824) :
    ∃ (r : Int) (ys : List P), 0 ≤ r ∧ r < m ∧ PoolP ys ∧ f_q_draw [.r n, .v (.int m)] L = some (.ok (.v (.int r)), L.set n (.lst ys)) := by
  obtain ⟨a, b, c, rfl, hb, hb2⟩ := hp
  obtain ⟨hn, hg⟩ := List.getElem?_eq_some_iff.mp h
  have hm0 : ¬ m ≤ 0 := by omega
  by_cases hc : 0 < a ∧ 0 < c
  · refine ⟨a % m, [.int (a / m), .int b, .int (c - 1)], Int.emod_nonneg _ (by omega), Int.emod_lt_of_pos _ h0, ⟨_, _, _, rfl, hb, hb2⟩, ?_⟩
    unfold f_q_draw
    refine scope_s ?_ older_set (by simp)
    · simp [bodyF, d_q_draw, tup_0, tup_1, tup_2, tup_3, tup_4, tup_5, tup_6, lst_0, lst_1, lst_2, lst_3, lst_4, lst_5, lst_6, lst_7, lst_8, lst_9, lst_10, lst_11, lst_12, new_0, new_1, new_2, new_3, new_4, new_5, new_6, bind, M.bnd, pure, M.ret, M.stuck, varD, retD, DN.bin, un, appA, consA, nilA, arN_1, arN_2, arN_3, arN_4, arN_5, arN_6, arN_7, asP, setS, eThen, seqS, ifS, nxS, killS, killT, retS, exprS, unitS, setIS, setA, tstD, asB, andB, orB, notB, andV, orV, notV, valB, intOp, addD, subD, modD, powD, fdivD, negD, ordI, ltD, chn, asM, asL, asS, oneD, intD, ixA, ixD, dnAt, DN.keyD, atI, ixN, mthD, tyL, mutL, appendD, mulD, hg, hc.1, hc.2, h0, h1, hn, List.getElem?_set]
  · refine ⟨((b * 10 + 3) % 10007) % m, [.int a, .int ((b * 10 + 3) % 10007), .int c], Int.emod_nonneg _ (by omega), Int.emod_lt_of_pos _ h0, ⟨_, _, _, rfl, by omega, by omega⟩, ?_⟩
    unfold f_q_draw
    refine scope_s ?_ older_set (by simp)
    · have hk : mulOkB b 10 = true := by unfold mulOkB; simp
      by_cases ha : 0 < a
      · have hc' : ¬ 0 < c := fun z => hc ⟨ha, z⟩
        simp [bodyF, d_q_draw, tup_0, tup_1, tup_2, tup_3, tup_4, tup_5, tup_6, lst_0, lst_1, lst_2, lst_3, lst_4, lst_5, lst_6, lst_7, lst_8, lst_9, lst_10, lst_11, lst_12, new_0, new_1, new_2, new_3, new_4, new_5, new_6, bind, M.bnd, pure, M.ret, M.stuck, varD, retD, DN.bin, un, appA, consA, nilA, arN_1, arN_2, arN_3, arN_4, arN_5, arN_6, arN_7, asP, setS, eThen, seqS, ifS, nxS, killS, killT, retS, exprS, unitS, setIS, setA, tstD, asB, andB, orB, notB, andV, orV, notV, valB, intOp, addD, subD, modD, powD, fdivD, negD, ordI, ltD, chn, asM, asL, asS, oneD, intD, ixA, ixD, dnAt, DN.keyD, atI, ixN, mthD, tyL, mutL, appendD, mulD, hg, ha, hc', h0, h1, hn, hk, List.getElem?_set]
      · simp [bodyF, d_q_draw, tup_0, tup_1, tup_2, tup_3, tup_4, tup_5, tup_6, lst_0, lst_1, lst_2, lst_3, lst_4, lst_5, lst_6, lst_7, lst_8, lst_9, lst_10, lst_11, lst_12, new_0, new_1, new_2, new_3, new_4, new_5, new_6, bind, M.bnd, pure, M.ret, M.stuck, varD, retD, DN.bin, un, appA, consA, nilA, arN_1, arN_2, arN_3, arN_4, arN_5, arN_6, arN_7, asP, setS, eThen, seqS, ifS, nxS, killS, killT, retS, exprS, unitS, setIS, setA, tstD, asB, andB, orB, notB, andV, orV, notV, valB, intOp, addD, subD, modD, powD, fdivD, negD, ordI, ltD, chn, asM, asL, asS, oneD, intD, ixA, ixD, dnAt, DN.keyD, atI, ixN, mthD, tyL, mutL, appendD, mulD, hg, ha, h0, h1, hn, hk, List.getElem?_set]
/-- the pool of a script -/
theorem ints_of (ns : List Int) : intsOf (ns.map P.int) = some ns := by
  induction ns with
  | nil => rfl
  | cons n ns ih => unfold intsOf; rw [List.map_cons]; simp [ih]
theorem pool_ok {L : List MO} {ns : List Int} (hl : ns.length ≤ 63) {k : Nat} (hk : k < 1000) : ∃ ys, PoolP ys ∧ f_q_pool [.v (.scr ns), .v (.int k)] L = some (.ok (.r L.length), L ++ [.lst ys]) := by
  have e1 : sumD [.v (.scr ns)] L = some (.ok (.v (.int ns.sum)), L) := by
    unfold sumD oneD asL
    simp [ints_of]
  have e2 : lenD [.v (.scr ns)] L = some (.ok (.v (.int ns.length)), L) := by
    unfold lenD oneD asS asL
    simp
  have k1 : mulOkB 17 k = true := by unfold mulOkB; simp
  have k2 : mulOkB 101 ns.sum = true := by unfold mulOkB; simp
  have kz : (3 : Nat) ≤ sizeLine := le_line 3 (by omega)
  unfold f_q_pool
  by_cases hlt : k < ns.length
  · have e3 : ∀ L, ixA (.v (.scr ns)) (.v (.int k)) L = some (.ok (.v (.int ns[k])), L) := fun L => by
      simp [tup_0, tup_1, tup_2, tup_3, tup_4, tup_5, tup_6, lst_0, lst_1, lst_2, lst_3, lst_4, lst_5, lst_6, lst_7, lst_8, lst_9, lst_10, lst_11, lst_12, new_0, new_1, new_2, new_3, new_4, new_5, new_6, bind, M.bnd, pure, M.ret, M.stuck, varD, retD, DN.bin, un, appA, consA, nilA, arN_1, arN_2, arN_3, arN_4, arN_5, arN_6, arN_7, asP, setS, eThen, seqS, ifS, nxS, killS, killT, retS, exprS, unitS, setIS, setA, tstD, asB, andB, orB, notB, andV, orV, notV, valB, intOp, addD, subD, modD, powD, fdivD, negD, ordI, ltD, chn, asM, asL, asS, oneD, intD, ixA, ixD, dnAt, DN.keyD, atI, ixN, mthD, tyL, mutL, appendD, hlt]
    by_cases hb : (1000000000000000000 : Int) ≤ ns[k]
    · refine ⟨[.int ns[k], .int ((17 * k + 5 + 101 * ns.sum + ns[k]) % 10007), .int 60], ⟨_, _, _, rfl, by omega, by omega⟩, ?_⟩
      refine scope_k (L1 := L) (X := [.lst [.int ns[k], .int ((17 * k + 5 + 101 * ns.sum + ns[k]) % 10007), .int 60]]) (n := L.length) ?_ (Older.refl _) rfl (Nat.le_refl _) (by simp)
      refine body_rt ?_
      simp [d_q_pool, e1, e2, e3, k1, k2, hlt, hb, bind, M.bnd, pure, M.ret, varD, retD, DN.bin, appA, consA, nilA, setS, eThen, seqS, ifS, nxS, killS, killT, retS, tstD, asB, intOp, addD, mulD, modD, powD, ordI, ltD, oneD, intD, new_3]
    · refine ⟨[.int 0, .int ((17 * k + 5 + 101 * ns.sum + ns[k]) % 10007), .int 60], ⟨_, _, _, rfl, by omega, by omega⟩, ?_⟩
      refine scope_k (L1 := L) (X := [.lst [.int 0, .int ((17 * k + 5 + 101 * ns.sum + ns[k]) % 10007), .int 60]]) (n := L.length) ?_ (Older.refl _) rfl (Nat.le_refl _) (by simp)
      refine body_rt ?_
      simp [d_q_pool, e1, e2, e3, k1, k2, hlt, hb, bind, M.bnd, pure, M.ret, varD, retD, DN.bin, appA, consA, nilA, setS, eThen, seqS, ifS, nxS, killS, killT, retS, tstD, asB, intOp, addD, mulD, modD, powD, ordI, ltD, oneD, intD, new_3]
  · refine ⟨[.int 0, .int ((17 * k + 5 + 101 * ns.sum) % 10007), .int 60], ⟨_, _, _, rfl, by omega, by omega⟩, ?_⟩
    refine scope_k (L1 := L) (X := [.lst [.int 0, .int ((17 * k + 5 + 101 * ns.sum) % 10007), .int 60]]) (n := L.length) ?_ (Older.refl _) rfl (Nat.le_refl _) (by simp)
    refine body_rt ?_
    simp [d_q_pool, e1, e2, k1, k2, hlt, bind, M.bnd, pure, M.ret, varD, retD, DN.bin, appA, consA, nilA, setS, eThen, seqS, ifS, nxS, killS, killT, retS, tstD, asB, intOp, addD, mulD, modD, powD, ordI, ltD, oneD, intD, new_3]
theorem mul_ok {a b : Int} (h : mulOkB a b = true) (L : List MO) : mulD (.v (.int a)) (.v (.int b)) L = some (.ok (.v (.int (a * b))), L) := by
  unfold mulD intOp
  exact if_pos h
def Pooled (n : Nat) (L L1 : List MO) : Prop := ∃ ys, PoolP ys ∧ L1 = L.set n (.lst ys)
theorem Pooled.of {n : Nat} {L : List MO} {xs : List P} (h : L[n]? = some (.lst xs)) (hp : PoolP xs) : Pooled n L L := ⟨xs, hp, by
  obtain ⟨hn, e⟩ := List.getElem?_eq_some_iff.mp h
  rw [← e, List.set_getElem_self]⟩
theorem Pooled.older {n : Nat} {L L1 : List MO} (h : Pooled n L L1) : Older L L1 := by
  obtain ⟨ys, _, rfl⟩ := h
  exact older_set
theorem Pooled.len {n : Nat} {L L1 : List MO} (h : Pooled n L L1) : L1.length = L.length := by
  obtain ⟨ys, _, rfl⟩ := h
  simp
theorem Pooled.trans {n : Nat} {L L1 Lb : List MO} (h : Pooled n L L1) (k : Pooled n L1 Lb) : Pooled n L Lb := by
  obtain ⟨ys, _, rfl⟩ := h
  obtain ⟨zs, hz, rfl⟩ := k
  exact ⟨zs, hz, by rw [List.set_set]⟩
/-- a draw, whatever stands behind -/
theorem draw_p {n : Nat} {L L1 : List MO} (hn : n < L.length) (h : Pooled n L L1) (X : List MO) {m : Int} (h0 : 0 < m) (h1 : m < 1073741824) : ∃ (r : Int) (Lb : List MO), 0 ≤ r ∧ r < m ∧ Pooled n L Lb ∧ f_q_draw [.r n, .v (.int m)] (L1 ++ X) = some (.ok (.v (.int r)), Lb ++ X) := by
  obtain ⟨ys, hy, rfl⟩ := h
  have hl : n < (L.set n (.lst ys)).length := by simpa using hn
  obtain ⟨r, zs, a1, a2, a3, e⟩ := draw_ok (L := L.set n (.lst ys) ++ X) (n := n) (xs := ys) (by rw [List.getElem?_append_left hl, List.getElem?_set_self hn]) hy h0 h1
  refine ⟨r, L.set n (.lst zs), a1, a2, ⟨zs, a3, rfl⟩, ?_⟩
  rw [e, List.set_append_left _ _ hl, List.set_set]
theorem draw_q {n : Nat} {L L1 : List MO} (hn : n < L.length) (h : Pooled n L L1) {m : Int} (h0 : 0 < m) (h1 : m < 1073741824) : ∃ (r : Int) (Lb : List MO), 0 ≤ r ∧ r < m ∧ Pooled n L Lb ∧ f_q_draw [.r n, .v (.int m)] L1 = some (.ok (.v (.int r)), Lb) := by
  have := draw_p hn h [] h0 h1
  simpa using this
theorem Pooled.refl' {n : Nat} {L : List MO} {xs : List P} (h : L[n]? = some (.lst xs)) (hp : PoolP xs) : Pooled n L L := Pooled.of h hp
theorem Pooled.get {n : Nat} {L L1 : List MO} (hn : n < L.length) (h : Pooled n L L1) : ∃ ys, PoolP ys ∧ L1[n]? = some (.lst ys) := by
  obtain ⟨ys, hy, rfl⟩ := h
  exact ⟨ys, hy, List.getElem?_set_self hn⟩
theorem Pooled.ne {n m : Nat} {L L1 : List MO} (h : Pooled n L L1) (hm : n ≠ m) : L1[m]? = L[m]? := by
  obtain ⟨ys, hy, rfl⟩ := h
  exact List.getElem?_set_ne hm
theorem range_at {n i : Nat} {p : P} (h : ((List.range n).map fun i : Nat => P.int (0 + i))[i]? = some p) : i < n ∧ p = .int i := by
  rw [List.getElem?_map] at h
  cases e : (List.range n)[i]? with
  | none => rw [e] at h; cases h
  | some k =>
    rw [e] at h
    obtain ⟨hk, ek⟩ := List.getElem?_eq_some_iff.mp e
    simp at hk ek
    refine ⟨hk, ?_⟩
    have := Option.some.inj h
    rw [← this, ← ek]
    simp
theorem word_ok {L : List MO} {rs : List Int} (hz : rs.length ≤ 100) : f_q_word [.v (.lst (rs.map P.int))] L = some (.ok (.v (.str (tW (rs.map lcd)))), L) := by
  refine wp_eq (wp_scope ?_)
  show wps d_q_word [some (.v (.lst (rs.map P.int))), none, none] L _
  unfold d_q_word
  rw [wps_seq]
  simp!
  rw [th_nx]
  simp!
  refine wp_lcE (fun p => match p with
    | .int r => some (.str (tW [lcd r]))
    | _ => none) (fun _ => trivial) (le_line _ (by rw [List.length_map]; omega)) (fun p hp acc => ?_) ?_
  · obtain ⟨r, _, rfl⟩ := List.mem_map.mp hp
    refine ⟨_, rfl, ?_⟩
    have h1 := Int.emod_nonneg r (show (26 : Int) ≠ 0 by decide)
    have h2 := Int.emod_lt_of_pos r (show (0 : Int) < 26 by decide)
    simp! [wp_modI]
    refine ⟨by decide, ?_⟩
    rw [show (Str.ofString "abcdefghijklmnopqrstuvwxyz") = lett from rfl, wp_ixSi lett_len h1 (lett_at (by omega))]
    exact ⟨rfl, _, rfl, rfl⟩
  · have e : (rs.map P.int).filterMap (fun p => match p with
      | .int r => some (P.str (tW [lcd r]))
      | _ => none) = ((rs.map lcd).map fun c => tW [c]).map P.str := by
      clear hz
      induction rs with
      | nil => rfl
      | cons r rs ih => simp only [List.map_cons, List.filterMap_cons, ih]
    rw [e, wp_join (zs := (rs.map lcd).map fun c => tW [c]) (by
      generalize (rs.map lcd).map (fun c => tW [c]) = ys
      induction ys with
      | nil => rfl
      | cons y ys ih => rw [List.map_cons]; unfold strsOf; rw [ih]; rfl) (by
      have e0 : ("" : Str).length = 0 := by decide +kernel
      rw [e0, Nat.mul_zero, Nat.add_zero, List.map_map]
      have : (((rs.map lcd).map ((fun x : Str => x.length) ∘ fun c => tW [c])).sum) ≤ rs.length := by
        clear e hz
        induction rs with
        | nil => simp
        | cons r rs ih =>
          simp only [List.map_cons, List.sum_cons, List.length_cons, Function.comp, tW_len, List.length_nil] at ih ⊢
          omega
      omega), join_tW]
    refine endQ_v ⟨rfl, rfl⟩
theorem names_ok {L L1 : List MO} {n : Nat} (hn : n < L.length) (h : Pooled n L L1) : ∃ (ns : List Str) (Lb : List MO), Names ns ∧ Pooled n L Lb ∧ f_q_names [.r n] L1 = some (.ok (.v (.lst (ns.map P.str))), Lb) := by
  obtain ⟨s, Lb, s0, s1, p2, e2⟩ := draw_q hn h (m := 3) (by decide) (by decide)
  obtain ⟨sh, L3, sh0, sh1, p3, e3⟩ := draw_q hn p2 (m := 26) (by decide) (by decide)
  obtain ⟨st, L4, st0, st1, p4, e4⟩ := draw_q hn p3 (m := 6) (by decide) (by decide)
  obtain ⟨pl, L5, pl0, pl1, p5, e5⟩ := draw_q hn p4 (m := 8) (by decide) (by decide)
  obtain ⟨sz, L6, sz0, sz1, p6, e6⟩ := draw_q hn p5 (m := 8) (by decide) (by decide)
  have k2 : mulOkB 2 st = true := by unfold mulOkB; simp
  have wf := fun {L1 L2 : List MO} {d : D} {ds : List D} {E : EX} {Q : D → List MO → Prop} (e : f_q_draw ds L1 = some (.ok d, L2)) => wp_of (E := E) (Q := Q) e
  have w : wp (f_q_names [.r n]) L1 noE fun d Lb => ∃ ns : List Str, Names ns ∧ Pooled n L Lb ∧ d = .v (.lst (ns.map P.str)) := by
    refine wp_scope ?_
    show wps d_q_names [some (.r n), none, none, none, none, none, none, none, none, none, none, none] L1 _
    generalize hK : (KK.mk _ _ _ _ _ : KK) = K
    unfold d_q_names
    rw [wps_seq]
    simp! [wf e2]
    rw [th_nx, wps_seq]
    simp! [wf e3]
    rw [th_nx, wps_seq]
    simp! [wf e4, wp_mulI, k2]
    rw [th_nx, wps_seq]
    simp! [wf e5]
    rw [th_nx, wps_seq]
    simp! [wf e6]
    rw [th_nx, wps_seq]
    simp!
    rw [wp_rngI (by decide) (by decide), show (8 : Int).toNat = 8 from rfl]
    refine wp_lcJ (fun i ys L' => ∃ rs : List Int, ys = rs.map P.int ∧ rs.length = i ∧ Pooled n L L') ⟨[], rfl, rfl, p6⟩ (fun _ _ _ _ => trivial) (le_line _ (by simp)) (fun i ys L' hj => ?_) (fun i p ys L' hp hj => ?_) (fun ys L7 hj => ?_)
    · obtain ⟨rs, rfl, hl, pj⟩ := hj
      refine ⟨pj.len.trans p6.len.symm, ?_, by rw [List.length_map, hl]; exact Nat.le_refl _⟩
      obtain ⟨a, _, rfl⟩ := pj
      obtain ⟨b, _, rfl⟩ := p6
      have : L.set n (.lst a) = (L.set n (.lst b)).set n (.lst a) := by rw [List.set_set]
      rw [this]
      exact older_set
    · obtain ⟨rs, rfl, hl, pj⟩ := hj
      refine ⟨_, rfl, ?_⟩
      obtain ⟨r, L', r0, r1, pj2, e⟩ := draw_p hn pj [.lst (rs.map P.int)] (m := 26) (by decide) (by decide)
      simp! [wf e]
      exact ⟨.int r, L', rfl, rfl, rs ++ [r], by simp, by simp [hl], pj2⟩
    · obtain ⟨rs, rfl, hl, p7⟩ := hj
      have hl : rs.length = 8 := by rw [hl]; simp
      rw [if_neg Bool.false_ne_true, wp_of (word_ok (by rw [hl]; decide))]
      generalize hw : rs.map lcd = w
      have hwl : w.length = 8 := by rw [← hw, List.length_map, hl]
      have hwlow : LowL w := fun c hc => by
        rw [← hw] at hc
        obtain ⟨r, _, rfl⟩ := List.mem_map.mp hc
        exact lcd_low r
      rw [th_nx]
      simp!
      rw [wps_seq]
      simp!
      rw [th_nx, wps_seq]
      simp!
      rw [wp_rngI (by decide) (by decide), show (8 : Int).toNat = 8 from rfl]
      have nlen : ∀ k, k < 8 → (nmL s sh (1 + 2 * st) pl (1 + sz) w k).length ≤ 8 := fun k hk => by
        have := (nmL_good (s := s) (sh := sh) (st := 1 + 2 * st) (k := k) hwl hwlow pl0 (show 0 < 1 + sz by omega) (show 1 + sz ≤ 8 by omega) hk).2.2
        rw [tW_len] at this
        exact this
      refine wps_forG (fun i τ L' => (∃ z, τ = [none, some (.v (.int s)), some (.v (.int sh)), some (.v (.int (1 + 2 * st))), some (.v (.int pl)), some (.v (.int (1 + sz))), some (.v (.str (tW w))), some (.r L7.length), none, none, none, z]) ∧ i ≤ 8 ∧ L' = L7 ++ [.lst (((List.range i).map fun k => tW (nmL s sh (1 + 2 * st) pl (1 + sz) w k)).map P.str)]) _ 0
        ⟨⟨none, rfl⟩, by decide, rfl⟩ (fun _ _ _ _ => trivial) ?_ ?_
      · rintro i p τ L' hp ⟨⟨z, rfl⟩, hi8, rfl⟩
        obtain ⟨hi, rfl⟩ := range_at hp
        simp only [Nat.zero_add] at hi8 ⊢
        generalize hacc : ((List.range i).map fun k => tW (nmL s sh (1 + 2 * st) pl (1 + sz) w k)).map P.str = acc
        have hal : acc.length = i := by rw [← hacc]; simp
        have km : mulOkB (1 + 2 * st) i = true := by unfold mulOkB; simp; omega
        have km3 : mulOkB 3 i = true := by unfold mulOkB; simp
        have hdiv : (0 : Int) < 1 + sz := by omega
        have m0 := Int.emod_nonneg pl (show (1 + sz) ≠ 0 by omega)
        have m1 := Int.emod_lt_of_pos pl hdiv
        have z40 : (40 : Nat) ≤ sizeLine := le_line 40 (by decide)
        have ew := word_ok (L := L7 ++ [.lst acc]) (rs := [sh + (1 + 2 * st) * i]) (by simp)
        rw [List.map_cons, List.map_nil, List.map_cons, List.map_nil] at ew
        have wl : (tW w).length ≤ sizeLine := by rw [tW_len, hwl]; omega
        refine ⟨_, rfl, ?_⟩
        refine wps_trim ?_
        generalize hK2 : (KK.mk _ _ _ _ _ : KK) = K2
        show wps _ [none, some (.v (.int s)), some (.v (.int sh)), some (.v (.int (1 + 2 * st))), some (.v (.int pl)), some (.v (.int (1 + sz))), some (.v (.str (tW w))), some (.r L7.length), some (.v (.int i)), none, none, z] _ _
        have app : ∀ nm : List Nat, nm.length ≤ 30 → nm = nmL s sh (1 + 2 * st) pl (1 + sz) w i → K2.nx [none, some (.v (.int s)), some (.v (.int sh)), some (.v (.int (1 + 2 * st))), some (.v (.int pl)), some (.v (.int (1 + sz))), some (.v (.str (tW w))), some (.r L7.length), none, none, none, some (.v (.str (tW nm)))] (L7 ++ [.lst (acc ++ [.str (tW nm)])]) := fun nm _ e => by
          rw [← hK2, e]
          refine ⟨_, [], (List.append_nil _).symm, ?_, ?_, ?_, ⟨_, rfl⟩, by omega, ?_⟩
          · simp
          · exact older_last _ _ _
          · exact okT_none (okT_v (okT_v (okT_v (okT_v (okT_v (okT_v (okT_r (by simp) (okT_none (okT_none (okT_none (okT_v okT_nil)))))))))))
          · rw [← hacc, List.range_succ]
            simp
        have hK7 : (L7 ++ [MO.lst acc])[L7.length]? = some (.lst acc) := lst_get _ _
        have al : acc.length < sizeLine := by omega
        have tyr : tyL (L7 ++ [.lst acc]) (.r L7.length) = true := by simp [tyL, asL, asM]
        simp!
        rw [wps_seq]
        simp! [wp_mulI, km, wp_of ew]
        rw [th_nx, wps_seq]
        simp! [wp_modI]
        refine ⟨hdiv, ?_⟩
        rw [th_nx, wps_seq]
        simp! [wp_slS, wp_addS, cut_to m0, tW_app]
        rw [cut_mid (by omega) (by omega), tW_app]
        refine ⟨wl, ?_, wl, ?_, ?_⟩
        · rw [tW_len, tW_len, List.length_take]; simp; omega
        · simp only [tW_len, List.length_append, List.length_take, List.length_drop, List.length_singleton, List.length_cons, List.length_nil]; omega
        rw [th_nx]
        simp!
        rw [wps_seq]
        simp!
        have a0 : (0 : Int) ≤ (i + pl) % 8 := Int.emod_nonneg _ (by decide)
        have a1 : (0 : Int) ≤ (pl + 3 * i) % 8 := Int.emod_nonneg _ (by decide)
        by_cases c1 : s = 1
        · have c2 : ¬ s = 2 := by omega
          simp! [decide_eq_true c1, wp_slS, wp_modI]
          refine ⟨by decide, wl, ?_⟩
          rw [cut_to (by omega), th_nx, wps_seq]
          simp! [decide_eq_false c2]
          rw [th_nx]
          simp! [tyr]
          rw [wp_append hK7 al, lst_set]
          refine app _ ?_ ?_
          · rw [List.length_take]; omega
          · unfold nmL; rw [if_pos c1]
        · simp! [decide_eq_false c1]
          rw [th_nx, wps_seq]
          by_cases c2 : s = 2
          · simp! [decide_eq_true c2, wp_slS, wp_modI, wp_mulI, km3]
            refine ⟨by decide, wl, ?_⟩
            rw [cut_mid (by omega) (by omega), wp_addS, tW_app]
            refine ⟨?_, ?_⟩
            · simp only [tW_len, List.length_take, List.length_drop, List.length_singleton, List.length_cons, List.length_nil]; omega
            rw [th_nx]
            simp! [tyr]
            rw [wp_append hK7 al, lst_set]
            refine app _ ?_ ?_
            · simp only [List.length_append, List.length_take, List.length_drop, List.length_singleton, List.length_cons, List.length_nil]; omega
            · unfold nmL; rw [if_neg c1, if_pos c2]; rfl
          · simp! [decide_eq_false c2]
            rw [th_nx]
            simp! [tyr]
            rw [wp_append hK7 al, lst_set]
            refine app _ ?_ ?_
            · simp only [List.length_append, List.length_take, List.length_drop, List.length_singleton, List.length_cons, List.length_nil]; omega
            · unfold nmL; rw [if_neg c1, if_neg c2]
      · rintro τ L' ⟨⟨z, rfl⟩, _, rfl⟩
        rw [th_nx]
        simp!
        rw [← hK]
        have e8 : 0 + ((List.range 8).map fun i : Nat => P.int (0 + i)).length = 8 := by simp
        rw [e8]
        refine ⟨L7, [.lst (((List.range 8).map fun k => tW (nmL s sh (1 + 2 * st) pl (1 + sz) w k)).map P.str)], rfl, ?_, ?_, ?_⟩
        · rw [p7.len, h.len]
        · obtain ⟨a, _, rfl⟩ := p7
          obtain ⟨b, _, rfl⟩ := h
          have : L.set n (.lst a) = (L.set n (.lst b)).set n (.lst a) := by rw [List.set_set]
          rw [this]
          exact older_set
        · rw [if_neg (by rw [p7.len, h.len]; exact Nat.lt_irrefl _)]
          refine ⟨_, by rw [p7.len, h.len, Nat.sub_self]; rfl, ?_⟩
          rw [if_neg Bool.false_ne_true]
          refine ⟨_, ⟨by simp, nm_nodup hwl pl0 st0 st1 (by omega) (by omega), fun x hx => ?_⟩, p7, rfl⟩
          obtain ⟨k, hk, rfl⟩ := List.mem_map.mp hx
          exact nmL_good hwl hwlow pl0 (by omega) (by omega) (List.mem_range.mp hk)
  obtain ⟨d, Lb, e, ns, h1, h2, rfl⟩ := wp_out w
  exact ⟨ns, Lb, h1, h2, e⟩
theorem wp_draw {L : List MO} {E : EX} {Q : D → List MO → Prop} {n : Nat} {xs : List P} {m : Int} (hL : L[n]? = some (.lst xs)) (hp : PoolP xs) (h0 : 0 < m) (h1 : m < 1073741824)
    (h : ∀ r ys, 0 ≤ r → r < m → PoolP ys → Q (.v (.int r)) (L.set n (.lst ys))) : wp (f_q_draw [.r n, .v (.int m)]) L E Q := by
  obtain ⟨r, ys, a, b, c, e⟩ := draw_ok hL hp h0 h1
  rw [wp_of e]
  exact h r ys a b c
theorem wp_pool {L : List MO} {E : EX} {Q : D → List MO → Prop} {ns : List Int} (hl : ns.length ≤ 63) (k : Nat) (hk : k < 1000)
    (h : ∀ ys, PoolP ys → Q (.r L.length) (L ++ [.lst ys])) : wp (f_q_pool [.v (.scr ns), .v (.int k)]) L E Q := by
  obtain ⟨ys, a, e⟩ := pool_ok (L := L) hl hk
  rw [wp_of e]
  exact h ys a
theorem wp_names {L : List MO} {E : EX} {Q : D → List MO → Prop} {n : Nat} {xs : List P} (hL : L[n]? = some (.lst xs)) (hp : PoolP xs)
    (h : ∀ ns ys, Names ns → PoolP ys → Q (.v (.lst (ns.map P.str))) (L.set n (.lst ys))) : wp (f_q_names [.r n]) L E Q := by
  obtain ⟨ns, Lb, a, ⟨ys, b, rfl⟩, e⟩ := names_ok (List.getElem?_eq_some_iff.mp hL).1 (Pooled.of hL hp)
  rw [wp_of e]
  exact h ns ys a b
/-- what the law's sorting asks of the items -/
structure SrtOk {α : Type} [DecidableEq α] (f : α → P) (lt : α → α → Bool) (xs : List α) : Prop where
  lt : ∀ a ∈ xs, ∀ b ∈ xs, ∀ (L : List MO) (E : EX) (Q : D → List MO → Prop), wp (ltD (.v (f a)) (.v (f b))) L E Q = Q (.v (.bl (lt a b))) L
  eq : ∀ a ∈ xs, ∀ b ∈ xs, ∀ (L : List MO) (E : EX) (Q : D → List MO → Prop), wp (eqD true (.v (f a)) (.v (f b))) L E Q = Q (.v (.bl (!decide (a = b)))) L
theorem wp_sorted {α : Type} [DecidableEq α] {f : α → P} {lt : α → α → Bool} {xs : List α} {d : D} {L : List MO} {E : EX} {Q : D → List MO → Prop} (hs : SrtOk f lt xs) (hz : xs.length ≤ 500) (hd : LsAt L d (xs.map f)) (h : Q (.v (.lst ((srtA lt xs).map f))) L) : wp (f_q_sorted [d]) L E Q := by
  refine wp_scope ?_
  show wps d_q_sorted [some d, none, none, none] L _
  generalize hK : (KK.mk _ _ _ _ _ : KK) = K
  have zl : (600 : Nat) ≤ sizeLine := le_line 600 (by decide)
  unfold d_q_sorted
  rw [wps_seq]
  simp!
  rw [th_nx, wps_seq]
  simp!
  refine wp_itm_lsB hd fun ok hok => ?_
  refine wps_forG (fun i τ L' => (∃ z0 z2 z3, (z0 = none ∨ z0 = some d) ∧ Vz z2 ∧ Vz z3 ∧ τ = [z0, some (.r L.length), z2, z3]) ∧ L' = L ++ [.lst ((srtA lt (xs.take i)).map f)]) _ 0 ⟨⟨_, _, _, .inr rfl, .none, .none, rfl⟩, by simp [srtA]⟩ (fun _ _ _ h => by rw [h.2]; exact hok _) ?_ ?_
  · rintro i p τ L' hp ⟨⟨z0, z2, z3, v0, v2, v3, rfl⟩, rfl⟩
    rw [List.getElem?_map] at hp
    cases ex : xs[i]? with
    | none => rw [ex] at hp; cases hp
    | some x =>
    rw [ex] at hp
    cases hp
    rw [Nat.zero_add]
    have hlt := (List.getElem?_eq_some_iff.mp ex).1
    have hmx := List.mem_of_getElem? ex
    have tk : srtA lt (xs.take (i + 1)) = insA lt (srtA lt (xs.take i)) x := by
      unfold srtA
      rw [List.take_succ, ex, Option.toList_some, List.foldl_append]
      rfl
    have hmem : ∀ y ∈ srtA lt (xs.take i), y ∈ xs := fun y hy => List.mem_of_mem_take ((srtA_mem _).mp hy)
    have hlen : (srtA lt (xs.take i)).length ≤ 500 := by
      have := srtA_len (lt := lt) (xs.take i)
      rw [List.length_take] at this
      omega
    rw [tk]
    generalize srtA lt (xs.take i) = zs at hmem hlen ⊢
    refine ⟨_, rfl, wps_trim ?_⟩
    generalize hK2 : (KK.mk _ _ _ _ _ : KK) = K2
    show wps _ [z0, some (.r L.length), some (.v (f x)), z3] _ _
    have hg : (L ++ [MO.lst (zs.map f)])[L.length]? = some (.lst (zs.map f)) := lst_get _ _
    have fin : ∀ ys z, Vz z → ys = insA lt zs x → K2.nx [none, some (.r L.length), some (.v (f x)), z] (L ++ [.lst (ys.map f)]) := fun ys z vz e => by
      rw [← hK2, e]
      exact ⟨_, [], (List.append_nil _).symm, by simp, older_last _ _ _, okT_none (okT_r (by simp) (okT_v (okT_z vz okT_nil))), ⟨_, _, _, .inl rfl, .v, vz, rfl⟩, rfl⟩
    simp!
    rw [wps_seq]
    simp!
    rw [th_nx, wps_seq]
    have hk := insK_le (lt := lt) (x := x) (zs := zs)
    refine wps_while (fun m τ L' => ∃ j : Nat, j ≤ insK lt zs x ∧ m = insK lt zs x - j ∧ τ = [none, some (.r L.length), some (.v (f x)), some (.v (.int j))] ∧ L' = L ++ [.lst (zs.map f)]) (insK lt zs x) ⟨0, Nat.zero_le _, rfl, rfl, rfl⟩ ?_
    rintro m τ L' ⟨j, hj, rfl, rfl, rfl⟩
    -- what stands behind the loop
    have out : j = insK lt zs x → (K2.th (ifS (orB (tstD (bin (eqD false) (varD 3) (appA lenD (consA (varD 1) nilA)))) (tstD (bin (eqD true) (bin ixA (varD 1) (varD 3)) (varD 2)))) (exprS (mthD tyL insertD (varD 1) (consA (varD 3) (consA (varD 2) nilA)))) nxS)).nx [none, some (.r L.length), some (.v (f x)), some (.v (.int j))] (L ++ [.lst (zs.map f)]) := fun ej => by
      have tyr : tyL (L ++ [.lst (zs.map f)]) (.r L.length) = true := by simp [tyL, asL, asM]
      have wi : ∀ {E2 : EX} {Q2 : D → List MO → Prop}, wp (insertD (.r L.length) [.v (.int j), .v (f x)]) (L ++ [.lst (zs.map f)]) E2 Q2 = Q2 (.v .non) (L ++ [.lst ((zs.take j ++ [x] ++ zs.drop j).map f)]) := by
        intro E2 Q2
        refine wp_of ?_
        have c : (0 : Int) ≤ j ∧ (j : Int) < 2 ^ 63 ∧ (zs.map f).length < sizeLine := by rw [List.length_map]; omega
        show (match (L ++ [MO.lst (zs.map f)])[L.length]? with
          | some (.lst xs) => _
          | _ => none) = _
        rw [hg]
        dsimp only
        rw [if_pos c, lst_set, Int.toNat_natCast]
        simp
      rw [th_nx]
      simp!
      rw [wp_len_r hg]
      simp! [List.length_map]
      by_cases c1 : (j : Int) = zs.length
      · have e : zs[insK lt zs x]? = none := by rw [← ej]; exact List.getElem?_eq_none (by omega)
        simp! [decide_eq_true c1, tyr]
        rw [wi]
        refine fin _ _ .v ?_
        unfold insA
        rw [e, if_neg (by simp), ej]
      · have hj2 : j < zs.length := by omega
        have e : zs[j]? = some zs[j] := List.getElem?_eq_getElem hj2
        have ef : (zs.map f)[j]? = some (f zs[j]) := by rw [List.getElem?_map, e]; rfl
        simp! [decide_eq_false c1]
        rw [wp_ixR hg ef, hs.eq _ (hmem _ (List.getElem_mem hj2)) _ hmx]
        simp!
        by_cases c2 : zs[j] = x
        · simp! [decide_eq_true c2]
          refine fin _ _ .v ?_
          unfold insA
          rw [← ej, e, if_pos (by rw [c2])]
        · simp! [decide_eq_false c2, tyr]
          rw [wi]
          refine fin _ _ .v ?_
          unfold insA
          rw [← ej, e, if_neg (fun z => c2 (by injection z))]
    simp!
    rw [wp_len_r hg]
    simp! [List.length_map]
    by_cases c1 : (j : Int) < zs.length
    · have hj2 : j < zs.length := by omega
      have e : zs[j]? = some zs[j] := List.getElem?_eq_getElem hj2
      have ef : (zs.map f)[j]? = some (f zs[j]) := by rw [List.getElem?_map, e]; rfl
      simp! [decide_eq_true c1]
      rw [wp_ixR hg ef, hs.lt _ (hmem _ (List.getElem_mem hj2)) _ hmx]
      simp!
      by_cases c2 : j < insK lt zs x
      · have el : lt zs[j] x = true := insK_lt c2 e
        rw [el]
        simp!
        refine wps_trim ?_
        simp!
        refine ⟨_, [], (List.append_nil _).symm, rfl, Older.refl _, okT_none (okT_r (by simp) (okT_v (okT_v okT_nil))), insK lt zs x - (j + 1), by omega, j + 1, by omega, rfl, ?_, rfl⟩
        rw [Int.natCast_add]
        rfl
      · have ej : j = insK lt zs x := by omega
        have el : lt zs[j] x = false := insK_at (by rw [← ej]; exact e)
        rw [el]
        simp!
        exact out ej
    · simp! [decide_eq_false c1]
      exact out (by omega)
  · rintro τ L' ⟨⟨z0, z2, z3, v0, v2, v3, rfl⟩, rfl⟩
    rw [th_nx, List.length_map, Nat.zero_add, List.take_length]
    simp!
    rw [← hK]
    refine ⟨L, [.lst ((srtA lt xs).map f)], rfl, rfl, Older.refl _, ?_⟩
    rw [if_neg (Nat.lt_irrefl _)]
    refine ⟨(srtA lt xs).map f, by rw [Nat.sub_self]; rfl, ?_⟩
    rw [if_neg Bool.false_ne_true]
    exact h
theorem wp_check {x : Str} {L : List MO} {E : EX} {Q : D → List MO → Prop} (h : Asc x) (hN : Nm x → Q (.v .non) L) (hB : ¬ Nm x → E 21 [.str x] L) : wp (f_check_name [.v (.str x)]) L E Q := by
  refine wp_scope ?_
  show wps d_check_name [some (.v (.str x)), none] L _
  unfold d_check_name
  simp! [wp_len_str]
  refine ⟨asc_len h, ?_⟩
  have fin : ¬ Nm x → wps (raiseS 21 (consA (varD 0) nilA)) [some (.v (.str x)), none] L ⟨fun _ L1 => endQ false L Q (.v .non) L1, endQ false L Q, fun _ _ => False, fun _ _ => False, fun _ c fs L1 => ∃ Lb X, L1 = Lb ++ X ∧ Lb.length = L.length ∧ Older L Lb ∧ E c fs Lb⟩ := fun hb => by
    rw [wps_raise]
    simp!
    exact ⟨rfl, L, [], by simp, rfl, Older.refl _, hB hb⟩
  by_cases c1 : (1 : Int) ≤ x.length
  · by_cases c2 : (x.length : Int) ≤ 8
    · simp! [decide_eq_true c1, decide_eq_true c2, wp_itm_str]
      refine wp_lcMap (fun c => .str (tW [c])) _ (fun c => .bl (!decide (97 ≤ c ∧ c ≤ 122))) (fun _ => trivial) (asc_len h) (fun c _ acc => ?_) ?_
      · refine ⟨_, rfl, ?_⟩
        simp!
        rw [show (Str.ofString "abcdefghijklmnopqrstuvwxyz") = lett from rfl, wp_inC]
        refine ⟨rfl, ?_⟩
        rw [decide_eq_decide.mpr (lett_mem c), Bool.true_xor]
      · rw [if_neg Bool.false_ne_true]
        rw [wp_any (bls_map (fun c : Nat => !decide (97 ≤ c ∧ c ≤ 122)) _)]
        simp!
        by_cases c3 : ∀ c ∈ x.cps.toList, 97 ≤ c ∧ c ≤ 122
        · have e3 : ((x.cps.toList.map fun c => !decide (97 ≤ c ∧ c ≤ 122)).any id) = false := by
            rw [List.any_eq_false]
            intro b hb
            obtain ⟨c, hc, rfl⟩ := List.mem_map.mp hb
            simp [c3 c hc]
          rw [e3]
          simp!
          refine endQ_v (hN ⟨c3, ?_, ?_⟩) <;> omega
        · have e3 : ((x.cps.toList.map fun c => !decide (97 ≤ c ∧ c ≤ 122)).any id) = true := by
            rw [List.any_eq_true]
            obtain ⟨c, hc⟩ := Classical.not_forall.mp c3
            obtain ⟨hc1, hc2⟩ := Classical.not_imp.mp hc
            exact ⟨_, List.mem_map.mpr ⟨c, hc1, rfl⟩, by simp only [id]; rw [decide_eq_false hc2]; rfl⟩
          rw [e3]
          simp!
          exact fin fun hn => c3 hn.1
    · simp! [decide_eq_true c1, decide_eq_false c2]
      exact fin fun hn => c2 (by have := hn.2.2; omega)
  · simp! [decide_eq_false c1]
    exact fin fun hn => c1 (by have := hn.2.1; omega)
/-- a new role of class c -/
theorem wp_newRole {c : Nat} {n g : Str} {L : List MO} {E : EX} {Q : D → List MO → Prop} (hc : flT c = [0, 1]) (h1 : Nm n) (h2 : Nm g) (h : Q (.v (.ins c [.str n, .str g])) L) : wp (makF true c 3 f_Role_zinitz [.v (.str n), .v (.str g)]) L E Q := by
  refine wp_mk rfl ?_
  unfold f_Role_zinitz
  refine wp_body ?_
  show wps d_Role_zinitz [some (.r L.length), some (.v (.str n)), some (.v (.str g))] _ _
  unfold d_Role_zinitz
  rw [wps_seq]
  simp!
  refine wp_check (nm_asc h1) (fun _ => ?_) fun z => absurd h1 z
  rw [th_nx, wps_seq]
  simp!
  refine wp_check (nm_asc h2) (fun _ => ?_) fun z => absurd h2 z
  rw [th_nx, wps_seq]
  simp!
  rw [wp_satt (lst_get L _) (by rw [hc]; decide), lst_set, th_nx]
  simp!
  rw [wp_satt (lst_get L _) (by rw [hc]; decide), lst_set]
  exact ⟨L, [], [(0, D.v (.str n)), (1, D.v (.str g))], _, rfl, rfl, Older.refl _, by unfold insP; rw [hc]; rfl, h⟩
theorem wp_role {r : Ro} (hr : r.ok) {L : List MO} {E : EX} {Q : D → List MO → Prop} (h : Q (.v r.p) L) : wp (f_q_role [.v (.str r.n), .v (.str r.g), .v (.int r.m)]) L E Q := by
  obtain ⟨n, g, m⟩ := r
  obtain ⟨h1, h2, h3⟩ := hr
  dsimp only at h1 h2 h3 ⊢
  refine wp_scope ?_
  show wps d_q_role [some (.v (.str n)), some (.v (.str g)), some (.v (.int m))] L _
  unfold d_q_role
  have step : ∀ c, flT (c + 1) = [0, 1] → m = c → wp (makF true (c + 1) 3 f_Role_zinitz [.v (.str n), .v (.str g)]) L (fun c fs L1 => ∃ Lb X, L1 = Lb ++ X ∧ Lb.length = L.length ∧ Older L Lb ∧ E c fs Lb) (endQ false L Q) := fun c hc e => by
    refine wp_newRole hc h1 h2 (endQ_v ?_)
    subst e
    exact h
  rw [wps_seq]
  simp!
  by_cases c0 : (m : Int) = 0
  · simp! [decide_eq_true c0]
    exact step 0 rfl (by omega)
  simp! [decide_eq_false c0]
  rw [th_nx, wps_seq]
  simp!
  by_cases c1 : (m : Int) = 1
  · simp! [decide_eq_true c1]
    exact step 1 rfl (by omega)
  simp! [decide_eq_false c1]
  rw [th_nx, wps_seq]
  simp!
  by_cases c2 : (m : Int) = 2
  · simp! [decide_eq_true c2]
    exact step 2 rfl (by omega)
  simp! [decide_eq_false c2]
  rw [th_nx, wps_seq]
  simp!
  by_cases c3 : (m : Int) = 3
  · simp! [decide_eq_true c3]
    exact step 3 rfl (by omega)
  simp! [decide_eq_false c3]
  rw [th_nx]
  simp!
  exact step 4 rfl (by omega)
noncomputable def fnMk (r : Ro) : List D → M D := if r.m = 0 then f_Role_makes else if r.m = 1 ∨ r.m = 3 then f_Made_makes else f_Fresh_makes
theorem tm_mk {r : Ro} (h : r.ok) (L : List MO) : (clsOf L (.v r.p)).bind tm_makes = some (fnMk r) := by
  rw [cls_ro]
  unfold fnMk
  rcases ro_m h with e | e | e | e | e <;> rw [e] <;> rfl
theorem wp_fnMk {r : Ro} {L : List MO} {E : EX} {Q : D → List MO → Prop} (h : Q (.v (.bl (decide (r.m ≠ 0)))) L) : wp (fnMk r [.v r.p]) L E Q := by
  unfold fnMk
  by_cases c0 : r.m = 0
  · rw [if_pos c0]
    refine wp_scope ?_
    show wps d_Role_makes [some (.v r.p)] L _
    unfold d_Role_makes
    simp!
    refine endQ_v ?_
    rw [decide_eq_false (fun z => z c0)] at h
    exact h
  · rw [if_neg c0]
    rw [decide_eq_true c0] at h
    by_cases c1 : r.m = 1 ∨ r.m = 3
    · rw [if_pos c1]
      refine wp_scope ?_
      show wps d_Made_makes [some (.v r.p)] L _
      unfold d_Made_makes
      simp!
      exact endQ_v h
    · rw [if_neg c1]
      refine wp_scope ?_
      show wps d_Fresh_makes [some (.v r.p)] L _
      unfold d_Fresh_makes
      simp!
      exact endQ_v h
theorem wp_newKind {x : Str} {rs : List Ro} {d : D} {L : List MO} {E : EX} {Q : D → List MO → Prop} (hx : Asc x) (hr : ∀ r ∈ rs, r.ok) (hz : rs.length ≤ 60) (hd : LsAt L d (rs.map Ro.p)) (h1 : ¬ Nm x → E 21 [.str x] L) (h2 : Nm x → KBad rs → E 22 [.str x] L) (h3 : Nm x → ¬ KBad rs → Q (.v (kP x rs)) L) :
    wp (makF true 6 3 f_Kind_zinitz [.v (.str x), d]) L E Q := by
  refine wp_mk rfl ?_
  unfold f_Kind_zinitz
  refine wp_body ?_
  show wps d_Kind_zinitz [some (.r L.length), some (.v (.str x)), some d, none, none] _ _
  generalize hK : (KK.mk _ _ _ _ _ : KK) = K
  have kx : ∀ (X : List MO), KBad rs → Nm x → ∀ τ, K.ex τ 22 [.str x] (L ++ X) := fun X hb hn τ => by
    rw [← hK]
    exact ⟨L, X, rfl, rfl, Older.refl _, h2 hn hb⟩
  have hzl : rs.length ≤ sizeLine := le_line _ (by omega)
  unfold d_Kind_zinitz
  rw [wps_seq]
  simp!
  refine wp_check hx (fun hn => ?_) fun hn => ?_
  rotate_left
  · rw [← hK]
    exact ⟨L, [.ins 6 []], rfl, rfl, Older.refl _, h1 hn⟩
  rw [th_nx, wps_seq]
  simp!
  refine wp_itm_ls (hd.app _) fun ok _ hok => ?_
  refine wp_lcMap Ro.p rs (fun r => .str r.n) (fun acc => hok _) hzl (fun r hm acc => ?_) ?_
  · refine ⟨_, rfl, ?_⟩
    simp!
    rw [wp_roN (hr r hm)]
    exact ⟨rfl, rfl⟩
  rw [if_neg Bool.false_ne_true, th_nx, wps_seq]
  have raise : ∀ X, KBad rs → ∀ τ (k' : KK), k'.ex = K.ex → τ[1]? = some (some (.v (.str x))) → wps (raiseS 22 (consA (varD 1) nilA)) τ (L ++ X) k' := fun X hb τ k' hk hτ => by
    rw [wps_raise]
    simp! [hτ, hk]
    exact ⟨rfl, kx X hb hn _⟩
  have nm : (rs.map fun r => P.str r.n) = (rs.map Ro.n).map P.str := by rw [List.map_map]; rfl
  simp! [List.length_map]
  by_cases c1 : (1 : Int) ≤ rs.length
  rotate_left
  · simp! [decide_eq_false c1]
    exact raise _ (.inl (by omega)) _ _ rfl rfl
  by_cases c2 : (rs.length : Int) ≤ 6
  rotate_left
  · simp! [decide_eq_true c1, decide_eq_false c2]
    exact raise _ (.inr (.inl (by omega))) _ _ rfl rfl
  simp! [decide_eq_true c1, decide_eq_true c2]
  rw [nm, wp_set (by rw [List.length_map]; omega), wp_lenS (lst_get _ _)]
  simp! [List.length_map]
  have dl := dedX_iff (rs.map Ro.n)
  rw [List.length_map] at dl
  by_cases c3 : (rs.map Ro.n).Nodup
  rotate_left
  · have : ((dedX (rs.map Ro.n)).length : Int) < rs.length := by have := dl.mpr c3; omega
    simp! [decide_eq_true this]
    rw [List.append_assoc]
    exact raise _ (.inr (.inr (.inl c3))) _ _ rfl rfl
  have : ¬ ((dedX (rs.map Ro.n)).length : Int) < rs.length := by
    intro h
    exact dl.mp (by omega) c3
  simp! [decide_eq_false this]
  rw [th_nx]
  simp!
  rw [wps_seq]
  simp!
  refine wp_itm_ls ((hd.app _).app _) fun ok _ hok => ?_
  refine wp_lcMap Ro.p rs (fun r => .bl (decide (r.m ≠ 0))) (fun acc => hok _) hzl (fun r hm acc => ?_) ?_
  · refine ⟨_, rfl, ?_⟩
    simp! [tm_mk (hr r hm)]
    refine wp_fnMk ⟨rfl, rfl⟩
  rw [if_neg Bool.false_ne_true, wp_any (bls_map (fun r : Ro => decide (r.m ≠ 0)) rs)]
  simp!
  by_cases c4 : ∀ r ∈ rs, r.m = 0
  · have e : (rs.map fun r => decide (r.m ≠ 0)).any id = false := by
      rw [List.any_eq_false]
      intro b hb
      obtain ⟨r, hm, rfl⟩ := List.mem_map.mp hb
      simp [c4 r hm]
    rw [e]
    simp!
    rw [List.append_assoc]
    exact raise _ (.inr (.inr (.inr c4))) _ _ rfl rfl
  have e : (rs.map fun r => decide (r.m ≠ 0)).any id = true := by
    rw [List.any_eq_true]
    obtain ⟨r, hr1⟩ := Classical.not_forall.mp c4
    obtain ⟨hr1, hr2⟩ := Classical.not_imp.mp hr1
    exact ⟨_, List.mem_map.mpr ⟨r, hr1, rfl⟩, by simp [hr2]⟩
  rw [e]
  simp!
  have nb : ¬ KBad rs := by
    rintro (z | z | z | z)
    · omega
    · omega
    · exact z c3
    · exact c4 z
  have g1 : ∀ (m m2 : MO), ((L ++ [m]) ++ [m2])[L.length]? = some m := fun m m2 => by
    rw [List.getElem?_append_left (by simp), lst_get]
  have s1 : ∀ (m m2 m3 : MO), ((L ++ [m]) ++ [m2]).set L.length m3 = (L ++ [m3]) ++ [m2] := fun m m2 m3 => by
    rw [List.set_append_left _ _ (by simp), lst_set]
  rw [th_nx, wps_seq]
  simp!
  rw [wp_satt (g1 _ _) (by decide), s1, th_nx]
  simp!
  rw [wp_tuple_ls ((hd.app _).app _), wp_satt (g1 _ _) (by decide), s1, ← hK]
  exact ⟨rfl, L, [.set ((dedX (rs.map Ro.n)).map P.str)], [(0, D.v (.str x)), (2, D.v (.tup (rs.map Ro.p)))], _, by simp [fput], rfl, Older.refl _, rfl, h3 hn nb⟩
theorem wp_lkind {k : Ki} {L : List MO} {E : EX} {Q : D → List MO → Prop} (hk : k.ok) (h : Q (.v k.p) L) : wp (f_q_kind [.v k.t]) L E Q := by
  refine wp_scope ?_
  show wps d_q_kind [some (.v (.tup [.str k.n, .lst (k.rs.map Ro.t)])), none] L _
  generalize hK : (KK.mk _ _ _ _ _ : KK) = K
  have z9 : (900 : Nat) ≤ sizeLine := le_line 900 (by decide)
  unfold d_q_kind
  simp! [wp_itm_lst]
  refine wp_lcMap Ro.t k.rs Ro.p (fun _ => trivial) (by have := hk.2.2.1; omega) (fun r hm acc => ?_) ?_
  · refine ⟨_, rfl, ?_⟩
    simp! [Ro.t]
    exact wp_role (hk.2.1 r hm) ⟨rfl, rfl⟩
  rw [if_neg Bool.false_ne_true]
  refine wp_newKind (nm_asc hk.1) hk.2.1 (by have := hk.2.2.1; omega) (.inl rfl) (fun z => absurd hk.1 z) (fun _ z => absurd z hk.2.2.2) fun _ _ => ?_
  rw [← hK]
  exact endQ_v (keep := false) h
/-- the first name that stands earlier too -/
def dupN : List Str → List Str → Option Str
  | _, [] => none
  | acc, x :: xs => if x ∈ acc then some x else dupN (acc ++ [x]) xs
theorem dupN_none {acc xs : List Str} (h : acc.Nodup) : dupN acc xs = none ↔ (acc ++ xs).Nodup := by
  induction xs generalizing acc with
  | nil => simp [dupN, h]
  | cons x xs ih =>
    unfold dupN
    by_cases c : x ∈ acc
    · rw [if_pos c]
      constructor
      · intro z; cases z
      · intro z
        exact absurd rfl ((List.nodup_append.mp z).2.2 x c x List.mem_cons_self)
    · have h2 : (acc ++ [x]).Nodup := by
        rw [List.nodup_append]
        exact ⟨h, by simp, fun a ha b hb e => c (by rw [← List.mem_singleton.mp hb, ← e]; exact ha)⟩
      rw [if_neg c, ih h2, List.append_assoc]
      rfl
theorem dupN_at {acc xs : List Str} {i : Nat} {x : Str} (h : (acc ++ xs.take i).Nodup) (e : xs[i]? = some x) (hx : x ∈ acc ++ xs.take i) : dupN acc xs = some x := by
  induction xs generalizing acc i with
  | nil => cases e
  | cons y ys ih =>
    unfold dupN
    cases i with
    | zero =>
      cases e
      rw [List.take_zero, List.append_nil] at hx
      rw [if_pos hx]
    | succ i =>
      rw [List.take_succ_cons] at h hx
      have c : y ∉ acc := fun c => (List.nodup_append.mp h).2.2 y c y List.mem_cons_self rfl
      rw [if_neg c]
      refine ih (i := i) ?_ (by simpa using e) ?_
      · rw [List.append_assoc]; exact h
      · rw [List.append_assoc]; exact hx
theorem wp_newCat {ks : List Ki} {d : D} {L : List MO} {E : EX} {Q : D → List MO → Prop} (hk : ∀ k ∈ ks, k.ok) (hz : ks.length ≤ 60) (hd : LsAt L d (ks.map Ki.p)) (h1 : (ks.map Ki.n).Nodup → Q (.v (katP ks)) L) (h2 : ∀ x, dupN [] (ks.map Ki.n) = some x → E 22 [.str x] L) : wp (makF true 7 2 f_Catalog_zinitz [d]) L E Q := by
  refine wp_mk rfl ?_
  unfold f_Catalog_zinitz
  refine wp_body ?_
  show wps d_Catalog_zinitz [some (.r L.length), some d, none, none] _ _
  generalize hK : (KK.mk _ _ _ _ _ : KK) = K
  have z9 : (900 : Nat) ≤ sizeLine := le_line 900 (by decide)
  have e2 : ∀ A B : MO, L ++ [A] ++ [B] = L ++ [A, B] := fun A B => by simp
  have l1 : ∀ A : MO, (L ++ [A]).length = L.length + 1 := fun A => by simp
  have g0 : ∀ A B : MO, (L ++ [A, B])[L.length]? = some A := fun A B => by simp
  have g1 : ∀ A B : MO, (L ++ [A, B])[L.length + 1]? = some B := fun A B => by simp
  have s0 : ∀ A B C : MO, (L ++ [A, B]).set L.length C = L ++ [C, B] := fun A B C => by
    rw [List.set_append_right _ _ (Nat.le_refl _), Nat.sub_self]; rfl
  have s1 : ∀ A B C : MO, (L ++ [A, B]).set (L.length + 1) C = L ++ [A, C] := fun A B C => by
    rw [List.set_append_right _ _ (by omega), Nat.add_sub_cancel_left]; rfl
  have hdr := hd.okR
  unfold d_Catalog_zinitz
  rw [wps_seq]
  simp!
  rw [l1, e2, th_nx, wps_seq]
  simp!
  refine wp_itm_lsB hd fun ok hok => ?_
  refine wps_forG (fun i τ L' => ∃ z3, Vz z3 ∧ ((ks.take i).map Ki.n).Nodup ∧ τ = [some (.r L.length), some d, some (.r (L.length + 1)), z3] ∧ L' = L ++ [.ins 7 [], .lst (((ks.take i).map Ki.n).map P.str)]) _ 0 ⟨none, .none, by simp, rfl, by simp⟩ (fun _ _ _ ⟨_, _, _, _, e⟩ => by rw [e]; exact hok _) ?_ ?_
  · rintro i p τ L' hp ⟨z3, v3, nd, rfl, rfl⟩
    rw [List.getElem?_map] at hp
    cases er : ks[i]? with
    | none => rw [er] at hp; cases hp
    | some k =>
    rw [er] at hp
    cases hp
    rw [Nat.zero_add] at nd ⊢
    have hm := List.mem_of_getElem? er
    have tk : (ks.take (i + 1)).map Ki.n = (ks.take i).map Ki.n ++ [k.n] := by rw [List.take_succ, er]; simp
    have al : ∀ x ∈ (ks.take i).map Ki.n, PyData.strOk x = true := fun x hx => by
      obtain ⟨q, hq, rfl⟩ := List.mem_map.mp hx
      exact nm_low (hk q (List.mem_of_mem_take hq)).1
    have all : ((ks.take i).map Ki.n).length ≤ 60 := by rw [List.length_map, List.length_take]; omega
    have edup : k.n ∈ (ks.take i).map Ki.n → dupN [] (ks.map Ki.n) = some k.n := fun hx => by
      refine dupN_at (i := i) ?_ ?_ ?_
      · rw [List.nil_append, ← List.map_take]; exact nd
      · rw [List.getElem?_map, er]; rfl
      · rw [List.nil_append, ← List.map_take]; exact hx
    rw [tk]
    generalize (ks.take i).map Ki.n = acc at nd al all edup
    refine ⟨_, rfl, wps_trim ?_⟩
    generalize hK2 : (KK.mk _ _ _ _ _ : KK) = K2
    show wps _ [some (.r L.length), some d, some (.r (L.length + 1)), some (.v k.p)] _ _
    rw [wps_seq]
    simp!
    rw [wp_kiN, wp_inStr (.inr ⟨_, rfl, g1 _ _⟩) (nm_low (hk k hm).1) al]
    by_cases c : k.n ∈ acc
    · rw [decide_eq_true c]
      simp! [Bool.xor_true, Bool.false_xor]
      rw [wps_raise]
      simp!
      rw [wp_kiN]
      simp! [asPs, asP]
      refine ⟨by decide, ?_⟩
      rw [← hK2, ← hK]
      exact ⟨L, [.ins 7 [], .lst (acc.map P.str)], rfl, rfl, Older.refl _, h2 _ (edup c)⟩
    · have tyr : tyL (L ++ [.ins 7 [], .lst (acc.map P.str)]) (.r (L.length + 1)) = true := by
        unfold tyL asL asM
        dsimp only
        rw [g1]
        rfl
      rw [decide_eq_false c]
      simp! [Bool.xor_self]
      rw [th_nx]
      simp! [tyr]
      rw [wp_kiN, wp_append (g1 _ _) (by rw [List.length_map]; omega), s1]
      rw [← hK2]
      have hdr2 : okR (L ++ [MO.ins 7 [], MO.lst (acc.map P.str)]).length d := okR_le hdr (by simp)
      refine ⟨_, [], (List.append_nil _).symm, by simp, older_tail (Older.refl _) rfl (by simp) rfl, by (repeat' first | exact okT_nil | refine okT_none ?_ | refine okT_v ?_ | refine okT_r (by first | assumption | (simp; done) | (simp; omega) | omega) ?_ | refine okT_z (by assumption) ?_ | refine okT_d (by assumption) ?_), some (.v k.p), .v, ?_, rfl, by simp⟩
      rw [List.nodup_append]
      exact ⟨nd, by simp, fun a ha b hb e => c (by rw [← List.mem_singleton.mp hb, ← e]; exact ha)⟩
  · rintro τ L' ⟨z3, v3, nd, rfl, rfl⟩
    rw [List.length_map, Nat.zero_add, List.take_length] at nd
    rw [List.length_map, Nat.zero_add, List.take_length, th_nx]
    simp!
    rw [wp_tuple_ls (hd.app _), wp_satt (g0 _ _) (by decide), s0, ← hK]
    exact ⟨rfl, L, [.lst _], [(3, D.v (.tup (ks.map Ki.p)))], _, rfl, rfl, Older.refl _, rfl, h1 nd⟩
theorem wp_named {ks : List Ki} {y : Str} {L : List MO} {E : EX} {Q : D → List MO → Prop} (hk : ∀ k ∈ ks, k.ok) (hy : Asc y) (h1 : ∀ k, kiOf ks y = some k → Q (.v k.p) L) (h2 : kiOf ks y = none → E 23 [.str y] L) : wp (f_Catalog_named [.v (katP ks), .v (.str y)]) L E Q := by
  refine wp_scope ?_
  show wps d_Catalog_named [some (.v (katP ks)), some (.v (.str y)), none] L _
  generalize hK : (KK.mk _ _ _ _ _ : KK) = K
  unfold d_Catalog_named
  rw [wps_seq]
  simp!
  rw [wp_katK]
  simp!
  refine wps_forG (fun i τ L' => ∃ z0 z2, Vz z0 ∧ Vz z2 ∧ (∀ k ∈ ks.take i, k.n ≠ y) ∧ τ = [z0, some (.v (.str y)), z2] ∧ L' = L) _ 0 ⟨_, none, .v, .none, by simp, rfl, rfl⟩ (fun _ _ _ _ => trivial) ?_ ?_
  · rintro i p τ L' hp ⟨z0, z2, v0, v2, hn, rfl, rfl⟩
    rw [List.getElem?_map] at hp
    cases er : ks[i]? with
    | none => rw [er] at hp; cases hp
    | some k =>
    rw [er] at hp
    cases hp
    rw [Nat.zero_add] at hn ⊢
    have hm := List.mem_of_getElem? er
    have tk : ks.take (i + 1) = ks.take i ++ [k] := by rw [List.take_succ, er]; rfl
    refine ⟨_, rfl, wps_trim ?_⟩
    generalize hK2 : (KK.mk _ _ _ _ _ : KK) = K2
    show wps _ [z0, some (.v (.str y)), some (.v k.p)] _ _
    simp!
    rw [wp_kiN, wp_eqS (nm_low (hk k hm).1) (asc_ok hy)]
    by_cases c : k.n = y
    · simp! [decide_eq_true c]
      rw [← hK2, ← hK]
      have ef : kiOf ks y = some k := by
        unfold kiOf
        have hlt := (List.getElem?_eq_some_iff.mp er)
        rw [← List.take_append_drop i ks, List.find?_append]
        have e1 : (ks.take i).find? (fun k => decide (k.n = y)) = none := by
          rw [List.find?_eq_none]
          intro q hq
          simpa using hn q hq
        rw [e1, List.drop_eq_getElem_cons hlt.1, hlt.2]
        simp [c]
      exact endQ_v (keep := false) (h1 k ef)
    · simp! [decide_eq_false c]
      rw [← hK2]
      refine ⟨L', [], by simp, rfl, Older.refl _, by (repeat' first | exact okT_nil | refine okT_none ?_ | refine okT_v ?_ | refine okT_r (by first | assumption | (simp; done) | (simp; omega) | omega) ?_ | refine okT_z (by assumption) ?_ | refine okT_d (by assumption) ?_), _, _, .none, .v, ?_, rfl, rfl⟩
      rw [tk]
      intro q hq
      rcases List.mem_append.mp hq with z | z
      · exact hn q z
      · rw [List.mem_singleton.mp z]; exact c
  · rintro τ L' ⟨z0, z2, v0, v2, hn, rfl, rfl⟩
    rw [List.length_map, Nat.zero_add, List.take_length] at hn
    rw [th_nx]
    simp!
    rw [wps_raise]
    simp! [asPs, asP]
    refine ⟨by decide, ?_⟩
    rw [← hK]
    refine ⟨L', [], by simp, rfl, Older.refl _, h2 ?_⟩
    unfold kiOf
    rw [List.find?_eq_none]
    intro q hq
    simpa using hn q hq
theorem srt_cong {xs ys : List Str} (h : ∀ a, a ∈ xs ↔ a ∈ ys) : srtA ltS xs = srtA ltS ys := sorted_uniq tot_str (srtA_sorted tot_str _) (srtA_sorted tot_str _) fun a => by rw [srtA_mem, srtA_mem, h]
theorem wp_groups {ks : List Ki} {L : List MO} {E : EX} {Q : D → List MO → Prop} (hk : ∀ k ∈ ks, k.ok) (hz : (grA ks).length < 63) (h : Q (.r L.length) (L ++ [.lst ((srtA ltS (grA ks)).map P.str)])) : wp (f_Catalog_groups [.v (katP ks)]) L E Q := by
  refine wp_scope ?_
  show wps d_Catalog_groups [some (.v (katP ks)), none, none] L _
  generalize hK : (KK.mk _ _ _ _ _ : KK) = K
  unfold d_Catalog_groups
  simp!
  rw [wp_sc2]
  simp!
  rw [wp_katK]
  simp!
  have e : (ks.flatMap fun k => k.rs.filterMap fun r => some r.g) = grA ks := by
    unfold grA
    congr 1
    funext k
    rw [← List.filterMap_eq_map]
    rfl
  have hdl := dedA_len (grA ks)
  refine wp_scM2 Ki.p ks Ro.p (fun k => k.rs) (fun k r => some r.g) P.str set_str (fun _ _ _ _ _ _ => trivial) (fun _ => trivial) (by rw [e]; omega) (fun k hm acc => ?_) ?_
  · refine ⟨_, rfl, ?_⟩
    rw [wp_yes]
    refine ⟨rfl, rfl, ?_⟩
    simp!
    rw [wp_kiR]
    simp!
    refine ⟨fun _ => trivial, fun r hr acc => ⟨_, rfl, ?_⟩⟩
    simp!
    rw [wp_roG ((hk k hm).2.1 r hr)]
    exact ⟨rfl, _, rfl, rfl⟩
  · rw [e]
    refine wp_sortS (mu := true) tot_str srt_str (fun _ _ => trivial) (dedA_nodup _) (by omega) (lst_get _ _) ?_
    rw [if_pos rfl, ← hK, srt_cong (ys := grA ks) fun a => dedA_mem _]
    refine ⟨L, [.set ((dedA (grA ks)).map P.str), .lst ((srtA ltS (grA ks)).map P.str)], by simp, rfl, Older.refl _, ?_⟩
    rw [if_neg (by simp)]
    refine ⟨(srtA ltS (grA ks)).map P.str, by simp, ?_⟩
    rw [if_pos rfl]
    exact h
theorem wp_madeGroups {ks : List Ki} {L : List MO} {E : EX} {Q : D → List MO → Prop} (hk : ∀ k ∈ ks, k.ok) (hz : (grM ks).length < 63) (h : Q (.r L.length) (L ++ [.lst ((srtA ltS (grM ks)).map P.str)])) : wp (f_Catalog_made_groups [.v (katP ks)]) L E Q := by
  refine wp_scope ?_
  show wps d_Catalog_made_groups [some (.v (katP ks)), none, none] L _
  generalize hK : (KK.mk _ _ _ _ _ : KK) = K
  unfold d_Catalog_made_groups
  simp!
  rw [wp_sc2]
  simp!
  rw [wp_katK]
  simp!
  have hdl := dedA_len (grM ks)
  refine wp_scM2 Ki.p ks Ro.p (fun k => k.rs) (fun k r => if 0 < r.m then some r.g else none) P.str set_str (fun _ _ _ _ _ _ => trivial) (fun _ => trivial) (by show (dedA (grM ks)).length < 63; omega) (fun k hm acc => ?_) ?_
  · refine ⟨_, rfl, ?_⟩
    rw [wp_yes]
    refine ⟨rfl, rfl, ?_⟩
    simp!
    rw [wp_kiR]
    simp!
    refine ⟨fun _ => trivial, fun r hr acc => ⟨_, rfl, ?_⟩⟩
    simp! [tm_mk ((hk k hm).2.1 r hr)]
    refine wp_fnMk ?_
    simp!
    by_cases c : r.m = 0
    · have c2 : ¬ 0 < r.m := by omega
      rw [decide_eq_false (fun z => z c)]
      simp! [if_neg c2]
    · have c2 : 0 < r.m := by omega
      rw [decide_eq_true c]
      simp! [if_pos c2]
      rw [wp_roG ((hk k hm).2.1 r hr)]
      exact ⟨rfl, _, rfl, rfl⟩
  · show wp (sortSD true [.r L.length]) (L ++ [.set ((dedA (grM ks)).map P.str)]) _ _
    refine wp_sortS (mu := true) tot_str srt_str (fun _ _ => trivial) (dedA_nodup _) (by omega) (lst_get _ _) ?_
    rw [if_pos rfl, ← hK, srt_cong (ys := grM ks) fun a => dedA_mem _]
    refine ⟨L, [.set ((dedA (grM ks)).map P.str), .lst ((srtA ltS (grM ks)).map P.str)], by simp, rfl, Older.refl _, ?_⟩
    rw [if_neg (by simp)]
    refine ⟨(srtA ltS (grM ks)).map P.str, by simp, ?_⟩
    rw [if_pos rfl]
    exact h
theorem wp_told {k : Ki} {L : List MO} {E : EX} {Q : D → List MO → Prop} (hk : k.ok) (h : Q (.v k.q) L) : wp (f_q_told [.v k.p]) L E Q := by
  refine wp_scope ?_
  show wps d_q_told [some (.v k.p), none] L _
  generalize hK : (KK.mk _ _ _ _ _ : KK) = K
  have z9 : (900 : Nat) ≤ sizeLine := le_line 900 (by decide)
  unfold d_q_told
  simp!
  rw [wp_kiN, wp_kiR]
  simp!
  refine wp_lcMap Ro.p k.rs mkP (fun _ => trivial) (by have := hk.2.2.1; omega) (fun r hm acc => ?_) ?_
  · have hr := hk.2.1 r hm
    refine ⟨_, rfl, ?_⟩
    simp!
    rw [wp_roN hr, wp_roG hr, wp_con (p := .str (mrk r.m)) (by
      rw [cls_ro]
      rcases ro_m hr with e | e | e | e | e <;> rw [e] <;> rfl)]
    simp!
    rfl
  rw [if_neg Bool.false_ne_true]
  simp!
  rw [← hK]
  exact endQ_v (keep := false) h
theorem wp_plain {k : Ki} {L : List MO} {E : EX} {Q : D → List MO → Prop} (hk : k.ok) (h : Q (.v k.q) L) : wp (f_q_plain [.v k.t]) L E Q := by
  refine wp_scope ?_
  show wps d_q_plain [some (.v (.tup [.str k.n, .lst (k.rs.map Ro.t)])), none, none] L _
  generalize hK : (KK.mk _ _ _ _ _ : KK) = K
  have z9 : (900 : Nat) ≤ sizeLine := le_line 900 (by decide)
  unfold d_q_plain
  rw [wps_seq]
  simp!
  rw [th_nx]
  simp! [wp_itm_lst]
  refine wp_lcMap Ro.t k.rs mkP (fun _ => trivial) (by have := hk.2.2.1; omega) (fun r hm acc => ?_) ?_
  · have hr := hk.2.1 r hm
    refine ⟨_, rfl, ?_⟩
    simp! [Ro.t]
    rw [wp_ixLi (p := .str (mrk r.m)) (by omega) (by
      rw [Int.toNat_natCast]
      rcases ro_m hr with e | e | e | e | e <;> rw [e] <;> rfl)]
    simp!
    rfl
  rw [if_neg Bool.false_ne_true]
  simp!
  rw [← hK]
  exact endQ_v (keep := false) h
theorem srtOk_str {xs : List Str} (h : ∀ x ∈ xs, PyData.strOk x = true) : SrtOk P.str ltS xs where
  lt a _ b _ L E Q := wp_ltStr
  eq a ha b hb L E Q := by
    rw [wp_eqS (h a ha) (h b hb)]
    rfl
theorem grA_ok {ks : List Ki} (hk : ∀ k ∈ ks, k.ok) : ∀ x ∈ grA ks, PyData.strOk x = true := fun x hx => by
  obtain ⟨k, hm, hx⟩ := List.mem_flatMap.mp hx
  obtain ⟨r, hr, rfl⟩ := List.mem_map.mp hx
  exact nm_low ((hk k hm).2.1 r hr).2.1
theorem grM_ok {ks : List Ki} (hk : ∀ k ∈ ks, k.ok) : ∀ x ∈ grM ks, PyData.strOk x = true := fun x hx => by
  obtain ⟨k, hm, hx⟩ := List.mem_flatMap.mp hx
  obtain ⟨r, hr, e⟩ := List.mem_filterMap.mp hx
  split at e
  · cases e
    exact nm_low ((hk k hm).2.1 r hr).2.1
  · cases e
theorem grA_len {ks : List Ki} (hk : ∀ k ∈ ks, k.ok) : (grA ks).length ≤ 6 * ks.length := by
  induction ks with
  | nil => simp [grA]
  | cons k ks ih =>
    have := ih fun q hq => hk q (List.mem_cons_of_mem _ hq)
    have h2 := (hk k List.mem_cons_self).2.2.1
    unfold grA at this ⊢
    rw [List.flatMap_cons, List.length_append, List.length_map, List.length_cons]
    omega
theorem grM_len {ks : List Ki} (hk : ∀ k ∈ ks, k.ok) : (grM ks).length ≤ 6 * ks.length := by
  induction ks with
  | nil => simp [grM]
  | cons k ks ih =>
    have := ih fun q hq => hk q (List.mem_cons_of_mem _ hq)
    have h2 := (hk k List.mem_cons_self).2.2.1
    have h3 := List.length_filterMap_le (fun r : Ro => if 0 < r.m then some r.g else none) k.rs
    unfold grM at this ⊢
    rw [List.flatMap_cons, List.length_append, List.length_cons]
    omega
theorem wp_lgroups {ks : List Ki} {d : D} {L : List MO} {E : EX} {Q : D → List MO → Prop} (hk : ∀ k ∈ ks, k.ok) (hz : ks.length ≤ 60) (hd : LsAt L d (ks.map Ki.t)) (h : Q (.v (.lst ((srtA ltS (grA ks)).map P.str))) L) : wp (f_q_groups [d]) L E Q := by
  refine wp_scope ?_
  show wps d_q_groups [some d, none, none, none] L _
  generalize hK : (KK.mk _ _ _ _ _ : KK) = K
  have z9 : (900 : Nat) ≤ sizeLine := le_line 900 (by decide)
  unfold d_q_groups
  rw [wps_seq]
  simp!
  rw [th_nx, wps_seq]
  simp!
  refine wp_itm_lsB hd fun ok hok => ?_
  have glen : ∀ i, (grA (ks.take i)).length ≤ 360 := fun i => by
    have := grA_len (ks := ks.take i) fun k hm => hk k (List.mem_of_mem_take hm)
    rw [List.length_take] at this
    omega
  refine wps_forG (fun i τ L' => ∃ z0 z2 z3, (z0 = some d ∨ z0 = none) ∧ Vz z2 ∧ Vz z3 ∧ τ = [z0, some (.r L.length), z2, z3] ∧ L' = L ++ [.lst ((grA (ks.take i)).map P.str)]) _ 0 ⟨_, none, none, .inl rfl, .none, .none, rfl, by simp [grA]⟩ (fun _ _ _ ⟨_, _, _, _, _, _, _, e⟩ => by rw [e]; exact hok _) ?_ ?_
  · rintro i p τ L' hp ⟨z0, z2, z3, v0, v2, v3, rfl, rfl⟩
    rw [List.getElem?_map] at hp
    cases er : ks[i]? with
    | none => rw [er] at hp; cases hp
    | some k =>
    rw [er] at hp
    cases hp
    rw [Nat.zero_add]
    have hm := List.mem_of_getElem? er
    have tk : grA (ks.take (i + 1)) = grA (ks.take i) ++ k.rs.map Ro.g := by
      unfold grA
      rw [List.take_succ, er, Option.toList_some, List.flatMap_append]
      simp
    have gl := glen i
    rw [tk]
    generalize grA (ks.take i) = acc at gl
    refine ⟨_, rfl, wps_trim ?_⟩
    generalize hK2 : (KK.mk _ _ _ _ _ : KK) = K2
    show wps _ [z0, some (.r L.length), some (.v (.tup [.str k.n, .lst (k.rs.map Ro.t)])), z3] _ _
    simp! [wp_itm_lst]
    refine wps_forG (fun j τ L' => ∃ z2 z3, Vz z2 ∧ Vz z3 ∧ τ = [none, some (.r L.length), z2, z3] ∧ L' = L ++ [.lst ((acc ++ (k.rs.take j).map Ro.g).map P.str)]) _ 0 ⟨_, none, .v, .none, rfl, by simp⟩ (fun _ _ _ _ => trivial) ?_ ?_
    · rintro j p τ L' hp ⟨z2, z3, v2, v3, rfl, rfl⟩
      rw [List.getElem?_map] at hp
      cases eq : k.rs[j]? with
      | none => rw [eq] at hp; cases hp
      | some r =>
      rw [eq] at hp
      cases hp
      rw [Nat.zero_add]
      have tk2 : (k.rs.take (j + 1)).map Ro.g = (k.rs.take j).map Ro.g ++ [r.g] := by rw [List.take_succ, eq]; simp
      refine ⟨_, rfl, wps_trim ?_⟩
      generalize hK3 : (KK.mk _ _ _ _ _ : KK) = K3
      show wps _ [none, some (.r L.length), z2, some (.v (.tup [.str r.n, .str r.g, .int r.m]))] _ _
      have tyr : ∀ A, tyL (L ++ [.lst A]) (.r L.length) = true := fun A => by simp [tyL, asL, asM]
      simp! [tyr]
      have l6 := (hk k hm).2.2.1
      rw [wp_append (lst_get _ _) (by simp only [List.length_map, List.length_append, List.length_take]; omega), lst_set, ← hK3]
      exact ⟨_, [], (List.append_nil _).symm, by simp, older_last _ _ _, by (repeat' first | exact okT_nil | refine okT_none ?_ | refine okT_v ?_ | refine okT_r (by first | assumption | (simp; done) | (simp; omega) | omega) ?_ | refine okT_z (by assumption) ?_ | refine okT_d (by assumption) ?_), none, _, .none, .v, rfl, by rw [tk2]; simp⟩
    · rintro τ L' ⟨z2, z3, v2, v3, rfl, rfl⟩
      rw [List.length_map, Nat.zero_add, List.take_length, ← hK2]
      exact ⟨_, [], (List.append_nil _).symm, by simp, older_last _ _ _, by (repeat' first | exact okT_nil | refine okT_none ?_ | refine okT_v ?_ | refine okT_r (by first | assumption | (simp; done) | (simp; omega) | omega) ?_ | refine okT_z (by assumption) ?_ | refine okT_d (by assumption) ?_), none, _, _, .inr rfl, v2, v3, rfl, rfl⟩
  · rintro τ L' ⟨z0, z2, z3, v0, v2, v3, rfl, rfl⟩
    have gl := glen ks.length
    rw [List.take_length] at gl
    rw [List.length_map, Nat.zero_add, List.take_length, th_nx]
    simp!
    refine wp_sorted (srtOk_str (grA_ok hk)) (by omega) (.inr ⟨_, rfl, lst_get _ _⟩) ?_
    rw [← hK]
    exact endQ_x (keep := false) rfl (Older.refl _) h
theorem wp_lmade {ks : List Ki} {d : D} {L : List MO} {E : EX} {Q : D → List MO → Prop} (hk : ∀ k ∈ ks, k.ok) (hz : ks.length ≤ 60) (hd : LsAt L d (ks.map Ki.t)) (h : Q (.v (.lst ((srtA ltS (grM ks)).map P.str))) L) : wp (f_q_made_groups [d]) L E Q := by
  refine wp_scope ?_
  show wps d_q_made_groups [some d, none, none, none] L _
  generalize hK : (KK.mk _ _ _ _ _ : KK) = K
  have z9 : (900 : Nat) ≤ sizeLine := le_line 900 (by decide)
  unfold d_q_made_groups
  rw [wps_seq]
  simp!
  rw [th_nx, wps_seq]
  simp!
  refine wp_itm_lsB hd fun ok hok => ?_
  have glen : ∀ i, (grM (ks.take i)).length ≤ 360 := fun i => by
    have := grM_len (ks := ks.take i) fun k hm => hk k (List.mem_of_mem_take hm)
    rw [List.length_take] at this
    omega
  refine wps_forG (fun i τ L' => ∃ z0 z2 z3, (z0 = some d ∨ z0 = none) ∧ Vz z2 ∧ Vz z3 ∧ τ = [z0, some (.r L.length), z2, z3] ∧ L' = L ++ [.lst ((grM (ks.take i)).map P.str)]) _ 0 ⟨_, none, none, .inl rfl, .none, .none, rfl, by simp [grM]⟩ (fun _ _ _ ⟨_, _, _, _, _, _, _, e⟩ => by rw [e]; exact hok _) ?_ ?_
  · rintro i p τ L' hp ⟨z0, z2, z3, v0, v2, v3, rfl, rfl⟩
    rw [List.getElem?_map] at hp
    cases er : ks[i]? with
    | none => rw [er] at hp; cases hp
    | some k =>
    rw [er] at hp
    cases hp
    rw [Nat.zero_add]
    have hm := List.mem_of_getElem? er
    have tk : grM (ks.take (i + 1)) = grM (ks.take i) ++ k.rs.filterMap fun r => if 0 < r.m then some r.g else none := by
      unfold grM
      rw [List.take_succ, er, Option.toList_some, List.flatMap_append]
      simp
    have gl := glen i
    rw [tk]
    generalize grM (ks.take i) = acc at gl
    refine ⟨_, rfl, wps_trim ?_⟩
    generalize hK2 : (KK.mk _ _ _ _ _ : KK) = K2
    show wps _ [z0, some (.r L.length), some (.v (.tup [.str k.n, .lst (k.rs.map Ro.t)])), z3] _ _
    simp! [wp_itm_lst]
    refine wps_forG (fun j τ L' => ∃ z2 z3, Vz z2 ∧ Vz z3 ∧ τ = [none, some (.r L.length), z2, z3] ∧ L' = L ++ [.lst ((acc ++ (k.rs.take j).filterMap fun r => if 0 < r.m then some r.g else none).map P.str)]) _ 0 ⟨_, none, .v, .none, rfl, by simp⟩ (fun _ _ _ _ => trivial) ?_ ?_
    · rintro j p τ L' hp ⟨z2, z3, v2, v3, rfl, rfl⟩
      rw [List.getElem?_map] at hp
      cases eq : k.rs[j]? with
      | none => rw [eq] at hp; cases hp
      | some r =>
      rw [eq] at hp
      cases hp
      rw [Nat.zero_add]
      have tk2 : ((k.rs.take (j + 1)).filterMap fun r => if 0 < r.m then some r.g else none) = ((k.rs.take j).filterMap fun r => if 0 < r.m then some r.g else none) ++ (if 0 < r.m then [r.g] else []) := by
        rw [List.take_succ, eq, Option.toList_some, List.filterMap_append]
        by_cases c : 0 < r.m <;> simp [c]
      have l6 := (hk k hm).2.2.1
      have fl := List.length_filterMap_le (fun r : Ro => if 0 < r.m then some r.g else none) (k.rs.take j)
      rw [List.length_take] at fl
      refine ⟨_, rfl, wps_trim ?_⟩
      generalize hK3 : (KK.mk _ _ _ _ _ : KK) = K3
      show wps _ [none, some (.r L.length), z2, some (.v (.tup [.str r.n, .str r.g, .int r.m]))] _ _
      have tyr : ∀ A, tyL (L ++ [.lst A]) (.r L.length) = true := fun A => by simp [tyL, asL, asM]
      simp!
      by_cases c : 0 < r.m
      · have c2 : (0 : Int) < (r.m : Int) := by omega
        simp! [decide_eq_true c2, tyr]
        rw [wp_append (lst_get _ _) (by simp only [List.length_map, List.length_append]; omega), lst_set, ← hK3]
        exact ⟨_, [], (List.append_nil _).symm, by simp, older_last _ _ _, by (repeat' first | exact okT_nil | refine okT_none ?_ | refine okT_v ?_ | refine okT_r (by first | assumption | (simp; done) | (simp; omega) | omega) ?_ | refine okT_z (by assumption) ?_ | refine okT_d (by assumption) ?_), none, _, .none, .v, rfl, by rw [tk2, if_pos c]; simp⟩
      · have c2 : ¬ (0 : Int) < (r.m : Int) := by omega
        simp! [decide_eq_false c2]
        rw [← hK3]
        exact ⟨_, [], (List.append_nil _).symm, by simp, Older.refl _, by (repeat' first | exact okT_nil | refine okT_none ?_ | refine okT_v ?_ | refine okT_r (by first | assumption | (simp; done) | (simp; omega) | omega) ?_ | refine okT_z (by assumption) ?_ | refine okT_d (by assumption) ?_), none, _, .none, .v, rfl, by rw [tk2, if_neg c]; simp⟩
    · rintro τ L' ⟨z2, z3, v2, v3, rfl, rfl⟩
      rw [List.length_map, Nat.zero_add, List.take_length, ← hK2]
      exact ⟨_, [], (List.append_nil _).symm, by simp, older_last _ _ _, by (repeat' first | exact okT_nil | refine okT_none ?_ | refine okT_v ?_ | refine okT_r (by first | assumption | (simp; done) | (simp; omega) | omega) ?_ | refine okT_z (by assumption) ?_ | refine okT_d (by assumption) ?_), none, _, _, .inr rfl, v2, v3, rfl, rfl⟩
  · rintro τ L' ⟨z0, z2, z3, v0, v2, v3, rfl, rfl⟩
    have gl := glen ks.length
    rw [List.take_length] at gl
    rw [List.length_map, Nat.zero_add, List.take_length, th_nx]
    simp!
    refine wp_sorted (srtOk_str (grM_ok hk)) (by omega) (.inr ⟨_, rfl, lst_get _ _⟩) ?_
    rw [← hK]
    exact endQ_x (keep := false) rfl (Older.refl _) h
theorem wp_lenO {tab : Nat → Option (List D → M D)} {d : D} {fn : List D → M D} {L : List MO} {E : EX} {Q : D → List MO → Prop} (h : (clsOf L d).bind tab = some fn) (hw : wp (fn [d]) L E fun e L1 => ∃ n : Nat, e = .v (.int n) ∧ n ≤ 100000 ∧ Q e L1) : wp (lenO tab d) L E Q := by
  unfold wp at hw ⊢
  unfold lenO
  rw [h]
  dsimp only
  cases e : fn [d] L with
  | none => rw [e] at hw; exact hw
  | some r =>
    obtain ⟨r, L1⟩ := r
    rw [e] at hw
    cases r with
    | ex c fs => exact hw
    | ok x =>
      obtain ⟨n, rfl, h1, h2⟩ := hw
      unfold lenRes
      dsimp only
      rw [if_pos (by omega)]
      exact h2
theorem wp_catLen {ks : List Ki} {L : List MO} {E : EX} {Q : D → List MO → Prop} (hz : ks.length ≤ 60) (h : Q (.v (.int ks.length)) L) : wp (lenO tm_zlenz (.v (katP ks))) L E Q := by
  refine wp_lenO rfl ?_
  refine wp_scope ?_
  show wps d_Catalog_zlenz [some (.v (katP ks))] L _
  unfold d_Catalog_zlenz
  simp!
  rw [wp_katK]
  simp! [List.length_map]
  exact endQ_v ⟨ks.length, rfl, by omega, h⟩
/-- what the law asks of a list of kinds -/
def duT (ks : List Ki) : P := match dupN [] (ks.map Ki.n) with
  | some x => .tup [.str x, .bl true]
  | none => .tup []
theorem wp_due {ks : List Ki} {d : D} {L : List MO} {E : EX} {Q : D → List MO → Prop} (hk : ∀ k ∈ ks, k.ok) (hz : ks.length ≤ 60) (hd : LsAt L d (ks.map Ki.t)) (h : Q (.v (duT ks)) L) : wp (f_q_due [d]) L E Q := by
  refine wp_scope ?_
  show wps d_q_due [some d, none, none] L _
  generalize hK : (KK.mk _ _ _ _ _ : KK) = K
  have z9 : (900 : Nat) ≤ sizeLine := le_line 900 (by decide)
  have g1 : ∀ A : MO, (L ++ [A])[L.length]? = some A := fun A => lst_get _ _
  unfold d_q_due
  rw [wps_seq]
  simp!
  rw [th_nx, wps_seq]
  simp!
  refine wp_itm_lsB hd fun ok hok => ?_
  refine wps_forG (fun i τ L' => ∃ z0 z2, (z0 = some d ∨ z0 = none) ∧ Vz z2 ∧ ((ks.take i).map Ki.n).Nodup ∧ τ = [z0, some (.r L.length), z2] ∧ L' = L ++ [.lst (((ks.take i).map Ki.n).map P.str)]) _ 0 ⟨_, none, .inl rfl, .none, by simp, rfl, by simp⟩ (fun _ _ _ ⟨_, _, _, _, _, _, e⟩ => by rw [e]; exact hok _) ?_ ?_
  · rintro i p τ L' hp ⟨z0, z2, v0, v2, nd, rfl, rfl⟩
    rw [List.getElem?_map] at hp
    cases er : ks[i]? with
    | none => rw [er] at hp; cases hp
    | some k =>
    rw [er] at hp
    cases hp
    rw [Nat.zero_add] at nd ⊢
    have hm := List.mem_of_getElem? er
    have tk : (ks.take (i + 1)).map Ki.n = (ks.take i).map Ki.n ++ [k.n] := by rw [List.take_succ, er]; simp
    have al : ∀ x ∈ (ks.take i).map Ki.n, PyData.strOk x = true := fun x hx => by
      obtain ⟨q, hq, rfl⟩ := List.mem_map.mp hx
      exact nm_low (hk q (List.mem_of_mem_take hq)).1
    have all : ((ks.take i).map Ki.n).length ≤ 60 := by rw [List.length_map, List.length_take]; omega
    have edup : k.n ∈ (ks.take i).map Ki.n → dupN [] (ks.map Ki.n) = some k.n := fun hx => by
      refine dupN_at (i := i) ?_ ?_ ?_
      · rw [List.nil_append, ← List.map_take]; exact nd
      · rw [List.getElem?_map, er]; rfl
      · rw [List.nil_append, ← List.map_take]; exact hx
    rw [tk]
    generalize (ks.take i).map Ki.n = acc at nd al all edup
    refine ⟨_, rfl, wps_trim ?_⟩
    generalize hK2 : (KK.mk _ _ _ _ _ : KK) = K2
    show wps _ [z0, some (.r L.length), some (.v (.tup [.str k.n, .lst (k.rs.map Ro.t)]))] _ _
    simp!
    rw [wps_seq]
    simp!
    rw [wp_inStr (.inr ⟨_, rfl, g1 _⟩) (nm_low (hk k hm).1) al]
    by_cases c : k.n ∈ acc
    · rw [decide_eq_true c]
      simp! [Bool.xor_true, Bool.false_xor]
      rw [← hK2, ← hK]
      unfold duT at h
      rw [edup c] at h
      exact endQ_x (keep := false) rfl (Older.refl _) h
    · have tyr : ∀ A, tyL (L ++ [.lst A]) (.r L.length) = true := fun A => by simp [tyL, asL, asM]
      rw [decide_eq_false c]
      simp! [Bool.xor_self]
      rw [th_nx]
      simp! [tyr]
      rw [wp_append (g1 _) (by rw [List.length_map]; omega), lst_set]
      rw [← hK2]
      refine ⟨_, [], (List.append_nil _).symm, by simp, older_last _ _ _, by (repeat' first | exact okT_nil | refine okT_none ?_ | refine okT_v ?_ | refine okT_r (by first | assumption | (simp; done) | (simp; omega) | omega) ?_ | refine okT_z (by assumption) ?_ | refine okT_d (by assumption) ?_), none, _, .inr rfl, .v, ?_, rfl, by simp⟩
      rw [List.nodup_append]
      exact ⟨nd, by simp, fun a ha b hb e => c (by rw [← List.mem_singleton.mp hb, ← e]; exact ha)⟩
  · rintro τ L' ⟨z0, z2, v0, v2, nd, rfl, rfl⟩
    rw [List.length_map, Nat.zero_add, List.take_length] at nd
    rw [th_nx]
    simp!
    rw [← hK]
    unfold duT at h
    rw [(dupN_none List.nodup_nil).mpr (by rw [List.nil_append]; exact nd)] at h
    exact endQ_x (keep := false) rfl (Older.refl _) h
theorem wp_refusal {ks : List Ki} {x : Str} {d : D} {L : List MO} {E : EX} {Q : D → List MO → Prop} (hk : ∀ k ∈ ks, k.ok) (hz : ks.length ≤ 60) (hd : LsAt L d (ks.map Ki.p)) (e : dupN [] (ks.map Ki.n) = some x) (h : Q (.v (.tup [.str x, .bl true])) L) : wp (f_q_refusal [d]) L E Q := by
  refine wp_scope ?_
  show wps d_q_refusal [some d, none] L _
  unfold d_q_refusal
  rw [wps_seq]
  refine wps_try ?_
  simp!
  refine wp_newCat hk hz hd (fun nd => ?_) fun y ey => ?_
  · rw [(dupN_none List.nodup_nil).mpr (by rw [List.nil_append]; exact nd)] at e
    cases e
  · rw [e] at ey
    cases ey
    refine ⟨by decide, ?_⟩
    unfold zs_q_refusal0
    rw [wps_cls_here rfl]
    refine wps_clOne rfl ?_
    simp!
    rw [wp_exf0 rfl (p := .str x) rfl, wp_exi0 rfl]
    simp! [show subE 22 20 = true from rfl]
    rw [wp_exi0 rfl]
    simp! [show subE 22 23 = false from rfl]
    exact endQ_v h
theorem wp_unknown {ks : List Ki} {y : Str} {L : List MO} {E : EX} {Q : D → List MO → Prop} (hk : ∀ k ∈ ks, k.ok) (hy : Asc y) (hn : kiOf ks y = none) (h : Q (.v (.tup [.str y, .bl true])) L) : wp (f_q_unknown [.v (katP ks), .v (.str y)]) L E Q := by
  refine wp_scope ?_
  show wps d_q_unknown [some (.v (katP ks)), some (.v (.str y)), none] L _
  unfold d_q_unknown
  rw [wps_seq]
  refine wps_try ?_
  have hm : (clsOf L (.v (katP ks))).bind tm_named = some f_Catalog_named := rfl
  simp! [hm]
  refine wp_named hk hy (fun r e => by rw [hn] at e; cases e) fun _ => ?_
  refine ⟨by decide, ?_⟩
  unfold zs_q_unknown0
  rw [wps_cls_here rfl]
  refine wps_clOne rfl ?_
  simp!
  rw [wp_exf0 rfl (p := .str y) rfl, wp_exi0 rfl]
  simp! [show subE 23 20 = true from rfl]
  rw [wp_exi0 rfl]
  simp! [show subE 23 22 = false from rfl]
  exact endQ_v h
theorem kiOf_nd {ks : List Ki} (nd : (ks.map Ki.n).Nodup) {k : Ki} (hk : k ∈ ks) : kiOf ks k.n = some k := by
  induction ks with
  | nil => cases hk
  | cons q ks ih =>
    rw [List.map_cons, List.nodup_cons] at nd
    unfold kiOf
    rw [List.find?_cons]
    rcases List.mem_cons.mp hk with z | z
    · subst z
      simp
    · have : q.n ≠ k.n := fun e => nd.1 (by rw [e]; exact List.mem_map.mpr ⟨k, z, rfl⟩)
      rw [decide_eq_false this]
      exact ih nd.2 z
theorem wp_is {ks : List Ki} {y : Str} {d : D} {L : List MO} {E : EX} {Q : D → List MO → Prop} (hk : ∀ k ∈ ks, k.ok) (hz : ks.length ≤ 8) (nd : (ks.map Ki.n).Nodup) (hd : LsAt L d (ks.map Ki.t)) (hy : Asc y) (hn : kiOf ks y = none) (h : Q (.v (.bl true)) L) : wp (f_q_is [.v (katP ks), d, .v (.str y)]) L E Q := by
  refine wp_scope ?_
  show wps d_q_is [some (.v (katP ks)), some d, some (.v (.str y)), none, none, none, none, none, none] L _
  generalize hK : (KK.mk _ _ _ _ _ : KK) = K
  have z9 : (900 : Nat) ≤ sizeLine := le_line 900 (by decide)
  have dq : dat 20 (.lst (ks.map Ki.q)) = true := dat_lst fun p hp => by
    obtain ⟨k, hm, rfl⟩ := List.mem_map.mp hp
    exact dat_kq (hk k hm)
  have l1 : ∀ A : MO, (L ++ [A]).length = L.length + 1 := fun A => by simp
  have e2 : ∀ A B : MO, L ++ [A] ++ [B] = L ++ [A, B] := fun A B => by simp
  have g0 : ∀ A B : MO, (L ++ [A, B])[L.length]? = some A := fun A B => by simp
  have g1 : ∀ A B : MO, (L ++ [A, B])[L.length + 1]? = some B := fun A B => by simp
  have mn : ∀ L', (clsOf L' (.v (katP ks))).bind tm_named = some f_Catalog_named := fun _ => rfl
  have mg : ∀ L', (clsOf L' (.v (katP ks))).bind tm_groups = some f_Catalog_groups := fun _ => rfl
  have mm : ∀ L', (clsOf L' (.v (katP ks))).bind tm_made_groups = some f_Catalog_made_groups := fun _ => rfl
  unfold d_q_is
  rw [wps_seq]
  simp!
  refine wp_itm_ls hd fun ok _ hok => ?_
  refine wp_lcMap Ki.t ks Ki.q (fun acc => hok _) (by omega) (fun k hm acc => ?_) ?_
  · refine ⟨_, rfl, ?_⟩
    simp!
    exact wp_plain (hk k hm) ⟨rfl, rfl⟩
  rw [if_neg Bool.false_ne_true, th_nx, wps_seq]
  simp!
  refine wp_catLen (by omega) ?_
  simp! [List.length_map]
  rw [wp_own (i := 3) rfl, wp_katK, wp_itmQ_tup]
  refine wp_lcMap Ki.p ks Ki.q (fun acc => trivial) (by omega) (fun k hm acc => ?_) ?_
  · refine ⟨_, rfl, ?_⟩
    simp!
    exact wp_told (hk k hm) ⟨rfl, rfl⟩
  rw [if_neg Bool.false_ne_true, wp_eqYes dq rfl]
  simp!
  rw [th_nx, wps_seq]
  simp!
  rw [wp_katK]
  simp!
  refine wp_lcMap Ki.p ks Ki.q (fun acc => trivial) (by omega) (fun k hm acc => ?_) ?_
  · refine ⟨_, rfl, ?_⟩
    simp!
    exact wp_told (hk k hm) ⟨rfl, rfl⟩
  rw [if_neg Bool.false_ne_true, th_nx, wps_seq]
  simp!
  rw [wp_katK, wp_isi (b := true) rfl]
  simp!
  rw [wp_eqYes dq rfl]
  simp!
  rw [th_nx]
  simp!
  rw [wps_seq]
  simp! [wp_itm_lst]
  refine wps_forG (fun i τ L' => ∃ z3 z5, Vz z3 ∧ Vz z5 ∧ τ = [some (.v (katP ks)), some d, some (.v (.str y)), z3, none, z5, none, none, none] ∧ L' = L) _ 0 ⟨_, none, .v, .none, rfl, rfl⟩ (fun _ _ _ _ => trivial) ?_ ?_
  · rintro i p τ L' hp ⟨z3, z5, v3, v5, rfl, rfl⟩
    obtain ⟨k, hm, rfl⟩ := List.mem_map.mp (List.mem_of_getElem? hp)
    refine ⟨_, rfl, wps_trim ?_⟩
    generalize hK2 : (KK.mk _ _ _ _ _ : KK) = K2
    show wps _ [some (.v (katP ks)), some d, some (.v (.str y)), z3, none, some (.v (.tup [.str k.n, .lst (k.rs.map mkP)])), none, none, none] _ _
    simp! [mn]
    refine wp_named hk (nm_asc (hk k hm).1) (fun q e => ?_) fun e => by rw [kiOf_nd nd hm] at e; cases e
    rw [kiOf_nd nd hm] at e
    cases e
    refine wp_told (hk k hm) ?_
    have := dat_up (dat_kq (hk k hm))
    rw [show k.q = .tup [.str k.n, .lst (k.rs.map mkP)] from rfl] at this ⊢
    rw [wp_eqYes this rfl]
    simp!
    rw [← hK2]
    have hdr := hd.okR
    exact ⟨_, [], (List.append_nil _).symm, rfl, Older.refl _, by (repeat' first | exact okT_nil | refine okT_none ?_ | refine okT_v ?_ | refine okT_r (by first | assumption | (simp; done) | (simp; omega) | omega) ?_ | refine okT_z (by assumption) ?_ | refine okT_d (by assumption) ?_), none, _, .none, .v, rfl, rfl⟩
  · rintro τ L' ⟨z3, z5, v3, v5, rfl, rfl⟩
    rw [th_nx]
    simp!
    rw [wps_seq]
    simp!
    refine wp_unknown hk hy hn ?_
    rw [wp_eqYes (by simp [dat, dats, asc_ok hy]) rfl]
    simp!
    rw [th_nx]
    simp!
    rw [wps_seq]
    simp!
    have hemp : kiOf ks "" = none := by
      unfold kiOf
      rw [List.find?_eq_none]
      intro k hm e
      have e : k.n = "" := by simpa using e
      have := (hk k hm).1.2.1
      rw [e] at this
      exact absurd this (by decide +kernel)
    have aemp : Asc "" := by
      constructor
      · decide +kernel
      · decide +kernel
    refine wp_unknown hk aemp hemp ?_
    rw [wp_eqYes (by simp only [dat, dats, Bool.and_true]; exact asc_ok aemp) rfl]
    simp!
    rw [th_nx, wps_seq]
    simp! [mg]
    have la := grA_len hk
    have lm := grM_len hk
    refine wp_groups hk (by omega) ?_
    rw [th_nx, wps_seq]
    simp! [mm]
    refine wp_madeGroups hk (by omega) ?_
    rw [l1, e2, th_nx]
    simp!
    rw [wps_seq]
    simp!
    rw [wp_isi (b := true) (by simp only [tagOf]; rw [g0]; rfl)]
    simp!
    rw [wp_isi (b := true) (by simp only [tagOf]; rw [g1]; rfl)]
    simp!
    rw [th_nx]
    simp!
    have da : dat 20 (.lst ((srtA ltS (grA ks)).map P.str)) = true := dat_lst fun p hp => by
      obtain ⟨x, hx, rfl⟩ := List.mem_map.mp hp
      exact dat_str (grA_ok hk x ((srtA_mem _).mp hx))
    have dm : dat 20 (.lst ((srtA ltS (grM ks)).map P.str)) = true := dat_lst fun p hp => by
      obtain ⟨x, hx, rfl⟩ := List.mem_map.mp hp
      exact dat_str (grM_ok hk x ((srtA_mem _).mp hx))
    refine wp_lgroups hk (by omega) (hd.app _) ?_
    rw [wp_eqLYes (.inr ⟨_, rfl, g0 _ _⟩) (.inl rfl) da rfl]
    simp!
    refine wp_lmade hk (by omega) (hd.app _) ?_
    rw [wp_eqLYes (.inr ⟨_, rfl, g1 _ _⟩) (.inl rfl) dm rfl, ← hK]
    exact endQ_x (keep := false) rfl (Older.refl _) h

theorem wp_setR {L : List MO} {E : EX} {n : Nat} {xs : List P} {i : Int} {p : P} {QU : Unit → List MO → Prop} (hL : L[n]? = some (.lst xs)) (h0 : 0 ≤ i) (h1 : i < xs.length) (h : QU () (L.set n (.lst (xs.set i.toNat p)))) : wp (setA (.r n) (.v (.int i)) (.v p)) L E QU := by
  have hn : ixN xs.length i = some i.toNat := by
    unfold ixN
    rw [if_pos h0, if_pos h1]
  have : setA (.r n) (.v (.int i)) (.v p) L = some (.ok (), L.set n (.lst (xs.set i.toNat p))) := by
    simp [setA, hL, hn]
  rw [wp_of this]
  exact h
theorem nm_lab : Nm "one" ∧ Nm "two" ∧ Nm "three" := by
  refine ⟨⟨?_, ?_, ?_⟩, ⟨?_, ?_, ?_⟩, ⟨?_, ?_, ?_⟩⟩ <;> first | decide +kernel | (unfold LowL; decide +kernel)
def labs : List Str := ["one", "two", "three"]
theorem law_wp (scr : List Int) (hl : scr.length ≤ 63) : wp (f_law [.v (.scr scr)]) [] noE fun d _ => d = .v (.bl true) := by
  refine wp_scope ?_
  show wps d_law [some (.v (.scr scr)), none, none, none, none, none, none, none, none, none, none, none, none, none, none, none, none, none, none, none, none] [] _
  generalize hK : (KK.mk _ _ _ _ _ : KK) = K
  have done : ∀ L', K.rt (.v (.bl true)) L' := fun L' => by
    rw [← hK]
    exact ⟨[], L', rfl, rfl, Older.refl _, rfl⟩
  have z9 : (900 : Nat) ≤ sizeLine := le_line 900 (by decide)
  unfold d_law
  rw [wps_seq]
  simp!
  refine wp_pool hl 0 (by decide) fun y0 hy0 => ?_
  simp!
  refine wp_names (n := 0) (xs := y0) rfl hy0 fun ns y0 hns hy0 => ?_
  rw [th_nx, wps_seq]
  simp!
  refine wp_pool hl 2 (by decide) fun y1 hy1 => ?_
  simp!
  refine wp_names (n := 1) (xs := y1) rfl hy1 fun gs y1 hgs hy1 => ?_
  rw [th_nx, wps_seq]
  simp!
  refine wp_pool hl 1 (by decide) fun y2 hy2 => ?_
  simp!
  rw [th_nx, wps_seq]
  simp!
  refine wp_draw (n := 2) (xs := y2) rfl hy2 (by decide) (by decide) fun ct y2 ct0 ct1 hy2 => ?_
  rw [th_nx, wps_seq]
  simp!
  refine wp_draw (n := 2) (xs := y2) rfl hy2 (by decide) (by decide) fun us y2 us0 us1 hy2 => ?_
  simp!
  rw [th_nx, wps_seq]
  simp!
  rw [th_nx, wps_seq]
  simp!
  have n8 : ns.length = 8 := hns.1
  have g8 : gs.length = 8 := hgs.1
  have at_ : ∀ {xs : List Str} {i : Int}, xs.length = 8 → 0 ≤ i → i < 8 → ∃ x, (xs.map P.str)[i.toNat]? = some (.str x) ∧ xs[i.toNat]? = some x ∧ x ∈ xs := fun {xs i} e8 h0 h1 => by
    have e : xs[i.toNat]? = some (xs[i.toNat]'(by omega)) := List.getElem?_eq_getElem _
    exact ⟨_, by rw [List.getElem?_map, e]; rfl, e, List.mem_of_getElem? e⟩
  rw [wp_rngI ct0 (by omega)]
  refine wps_forG (fun i τ L' => ∃ (ks : List Ki) (y2 : List P) (z7 z8 z9 z10 z11 : Option D), i ≤ 8 ∧ ks.length = i ∧ (∀ k ∈ ks, k.ok ∧ k.n ∈ ns.take i) ∧ PoolP y2 ∧ Vz z7 ∧ Vz z8 ∧ Vz z9 ∧ Vz z10 ∧ Vz z11 ∧
    τ = [some (.v (.scr scr)), some (.v (.lst (ns.map P.str))), some (.v (.lst (gs.map P.str))), some (.r 2), some (.v (.int ct)), some (.v (.int (1 + us))), some (.r 3), z7, z8, z9, z10, z11, none, none, none, none, none, none, none, none, none] ∧ L' = [.lst y0, .lst y1, .lst y2, .lst (ks.map Ki.t)]) _ 0
    ⟨[], y2, none, none, none, none, none, by decide, rfl, (fun r hr => by cases hr), hy2, .none, .none, .none, .none, .none, rfl, rfl⟩ (fun _ _ _ _ => trivial) ?_ ?_
  · rintro i p τ L' hp ⟨ks, y2, z7, z8, z9, z10, z11, i8, kl, hks, hy2, v7, v8, v9, v10, v11, rfl, rfl⟩
    obtain ⟨hi, rfl⟩ := range_at hp
    rw [Nat.zero_add] at kl i8 hks ⊢
    refine ⟨_, rfl, wps_trimC ?_⟩
    generalize hK2 : (KK.mk _ _ _ _ _ : KK) = K2
    show wps _ [some (.v (.scr scr)), some (.v (.lst (ns.map P.str))), some (.v (.lst (gs.map P.str))), some (.r 2), some (.v (.int ct)), some (.v (.int (1 + us))), some (.r 3), some (.v (.int i)), z8, z9, z10, z11, none, none, none, none, none, none, none, none, none] _ _
    simp!
    rw [wps_seq]
    simp!
    rw [th_nx, wps_seq]
    simp!
    refine wp_draw (n := 2) (xs := y2) rfl hy2 (by decide) (by decide) fun rn y2 rn0 rn1 hy2 => ?_
    simp!
    rw [wp_rngI (by omega) (by omega)]
    refine wps_forG (fun j τ L' => ∃ (rs : List Ro) (y2 : List P) (z9 z10 z11 : Option D), j ≤ 3 ∧ rs.length = j ∧ (∀ r ∈ rs, r.ok) ∧ rs.map Ro.n = labs.take j ∧ (∀ r, rs[0]? = some r → r.m ≠ 0) ∧ PoolP y2 ∧ Vz z9 ∧ Vz z10 ∧ Vz z11 ∧
      τ = [some (.v (.scr scr)), some (.v (.lst (ns.map P.str))), some (.v (.lst (gs.map P.str))), some (.r 2), some (.v (.int ct)), some (.v (.int (1 + us))), some (.r 3), some (.v (.int i)), some (.r 4), z9, z10, z11, none, none, none, none, none, none, none, none, none] ∧ L' = [.lst y0, .lst y1, .lst y2, .lst (ks.map Ki.t), .lst (rs.map Ro.t)]) _ 0
      ⟨[], y2, none, none, none, by decide, rfl, (fun r hr => by cases hr), rfl, (fun r hr => by cases hr), hy2, .none, .none, .none, rfl, rfl⟩ (fun _ _ _ _ => trivial) ?_ ?_
    · rintro j p τ L' hp ⟨rs, y2, z9, z10, z11, j3, rl, hrs, hln, hr0, hy2, v9, v10, v11, rfl, rfl⟩
      obtain ⟨hj, rfl⟩ := range_at hp
      rw [Nat.zero_add] at rl j3 hln ⊢
      have hj3 : j < 3 := by omega
      refine ⟨_, rfl, wps_trim ?_⟩
      generalize hK3 : (KK.mk _ _ _ _ _ : KK) = K3
      show wps _ [some (.v (.scr scr)), some (.v (.lst (ns.map P.str))), some (.v (.lst (gs.map P.str))), some (.r 2), some (.v (.int ct)), some (.v (.int (1 + us))), some (.r 3), some (.v (.int i)), some (.r 4), some (.v (.int j)), z10, z11, none, none, none, none, none, none, none, none, none] _ _
      simp!
      rw [wps_seq]
      simp!
      refine wp_draw (n := 2) (xs := y2) rfl hy2 (by decide) (by decide) fun m y2 m0 m1 hy2 => ?_
      rw [th_nx, wps_seq]
      -- from the label on
      have tail : ∀ m' : Int, 0 ≤ m' → m' ≤ 4 → (j = 0 → m' ≠ 0) → (K3.th (seqS (setS 11 (bin ixA (appA lstD (consA (retD (.v (.str "one"))) (consA (retD (.v (.str "two"))) (consA (retD (.v (.str "three"))) nilA)))) (varD 9))) (killS [9] (exprS (mthD tyL appendD (varD 8) (consA (appA tupD (consA (varD 11) (consA (bin ixA (varD 2) (appA (arN 2 f_q_draw) (consA (varD 3) (consA (varD 5) nilA)))) (consA (varD 10) nilA)))) nilA)))))).nx
          [some (.v (.scr scr)), some (.v (.lst (ns.map P.str))), some (.v (.lst (gs.map P.str))), some (.r 2), some (.v (.int ct)), some (.v (.int (1 + us))), some (.r 3), some (.v (.int i)), some (.r 4), some (.v (.int j)), some (.v (.int m')), none, none, none, none, none, none, none, none, none, none] [.lst y0, .lst y1, .lst y2, .lst (ks.map Ki.t), .lst (rs.map Ro.t)] := fun m' h0 h4 hm0 => by
        obtain ⟨lb, el⟩ : ∃ lb, labs[j]? = some lb := ⟨_, List.getElem?_eq_getElem (show j < labs.length from hj3)⟩
        have hlb : Nm lb := by
          have := List.mem_of_getElem? el
          simp only [labs, List.mem_cons, List.mem_nil_iff, or_false] at this
          rcases this with rfl | rfl | rfl
          · exact nm_lab.1
          · exact nm_lab.2.1
          · exact nm_lab.2.2
        rw [th_nx, wps_seq]
        simp!
        rw [wp_ixL (p := .str lb) (by
          have : (labs.map P.str)[j]? = some (.str lb) := by rw [List.getElem?_map, el]; rfl
          exact this), th_nx]
        have tyr : tyL [MO.lst y0, MO.lst y1, MO.lst y2, MO.lst (ks.map Ki.t), MO.lst (rs.map Ro.t)] (.r 4) = true := rfl
        simp! [tyr]
        refine wp_draw (n := 2) (xs := y2) rfl hy2 (by omega) (by omega) fun gi y2 gi0 gi1 hy2 => ?_
        obtain ⟨gx, eg, _, gm⟩ := at_ g8 gi0 (by omega)
        rw [wp_ixLi gi0 eg]
        simp!
        rw [wp_append (n := 4) (xs := rs.map Ro.t) rfl (by rw [List.length_map]; omega), ← hK3]
        refine ⟨_, [], (List.append_nil _).symm, rfl, older_flat (Nat.le_refl _) rfl, by (repeat' first | exact okT_nil | refine okT_none ?_ | refine okT_v ?_ | refine okT_r (by first | assumption | (simp; done) | (simp; omega) | omega) ?_ | refine okT_z (by assumption) ?_ | refine okT_d (by assumption) ?_), rs ++ [⟨lb, gx, m'.toNat⟩], y2, none, _, _, by omega, by simp [rl], fun r hr => ?_, ?_, fun r hr => ?_, hy2, .none, .v, .v, rfl, ?_⟩
        · rcases List.mem_append.mp hr with z | z
          · exact hrs r z
          · rw [List.mem_singleton.mp z]
            exact ⟨hlb, hgs.2.2 _ gm, by show m'.toNat ≤ 4; omega⟩
        · rw [List.map_append, hln, List.take_succ, el]; rfl
        · cases j with
          | zero =>
            have : rs = [] := List.eq_nil_of_length_eq_zero rl
            subst this
            cases hr
            have := hm0 rfl
            show m'.toNat ≠ 0
            omega
          | succ j =>
            rw [List.getElem?_append_left (by omega)] at hr
            exact hr0 r hr
        · rw [List.map_append, List.map_cons, List.map_nil]
          simp only [Ro.t]
          rw [Int.toNat_of_nonneg h0]
          rfl
      simp!
      have jm : (j : Int) = 0 ↔ j = 0 := by omega
      by_cases cj : j = 0
      · have cj2 : (j : Int) = 0 := jm.mpr cj
        simp! [decide_eq_true cj2]
        by_cases cm : m = 0
        · simp! [decide_eq_true cm]
          exact tail 1 (by decide) (by decide) fun _ => by decide
        · simp! [decide_eq_false cm]
          exact tail m m0 (by omega) fun _ => cm
      · have cj2 : ¬ (j : Int) = 0 := fun z => cj (jm.mp z)
        simp! [decide_eq_false cj2]
        exact tail m m0 (by omega) fun z => absurd z cj
    · rintro τ L' ⟨rs, y2, z9, z10, z11, j3, rl, hrs, hln, hr0, hy2, v9, v10, v11, rfl, rfl⟩
      rw [List.length_map, List.length_range, Nat.zero_add] at rl j3 hln
      rw [th_nx]
      have hn1 : ns[i]? = some (ns[i]'(by omega)) := List.getElem?_eq_getElem _
      have hn2 : (ns.map P.str)[i]? = some (.str (ns[i]'(by omega))) := by rw [List.getElem?_map, hn1]; rfl
      have hnm : Nm (ns[i]'(by omega)) := hns.2.2 _ (List.getElem_mem _)
      generalize ns[i]'(by omega) = x at hn1 hn2 hnm
      have tyr : ∀ A B, tyL [MO.lst y0, MO.lst y1, MO.lst y2, MO.lst A, B] (.r 3) = true := fun _ _ => rfl
      simp! [tyr]
      rw [wp_ixL hn2, wp_frzR (n := 4) (xs := rs.map Ro.t) rfl]
      simp!
      rw [wp_append (n := 3) (xs := ks.map Ki.t) rfl (by rw [List.length_map]; omega), ← hK2]
      refine ⟨[.lst y0, .lst y1, .lst y2, .lst (ks.map Ki.t ++ [.tup [.str x, .lst (rs.map Ro.t)]])], [.dead], _, rfl, rfl, older_flat (Nat.le_refl _) rfl, by (repeat' first | exact cut_nil | refine cut_none ?_ | refine cut_v ?_ | refine cut_lt (by first | assumption | (simp; done) | (simp; omega) | omega) ?_ | refine cut_ge (by first | assumption | (simp; done) | (simp; omega) | omega) ?_ | refine cut_z (by assumption) ?_ | refine cut_d (by assumption) ?_), ks ++ [⟨x, rs⟩], y2, _, none, _, _, _, by omega, by simp [kl], fun k hk => ?_, hy2, .v, .none, .none, .none, .none, rfl, by simp [Ki.t]⟩
      have hmem : x ∈ ns.take (i + 1) := List.mem_of_getElem? (i := i) (by rw [List.getElem?_take_of_lt (by omega), hn1])
      rcases List.mem_append.mp hk with z | z
      · obtain ⟨a, b⟩ := hks k z
        refine ⟨a, ?_⟩
        rw [List.take_succ]
        exact List.mem_append_left _ b
      · rw [List.mem_singleton.mp z]
        refine ⟨⟨hnm, hrs, by show rs.length ≤ 6; omega, ?_⟩, hmem⟩
        rintro (b | b | b | b)
        · have b : rs.length = 0 := b
          omega
        · have b : 6 < rs.length := b
          omega
        · refine b ?_
          show (rs.map Ro.n).Nodup
          rw [hln]
          exact List.Sublist.nodup (List.take_sublist _ _) (by decide +kernel)
        · have hpos : 0 < rs.length := by omega
          exact hr0 rs[0] (List.getElem?_eq_getElem hpos) (b _ (List.getElem_mem _))
  · rintro τ L' ⟨ks, y2, z7, z8, z9', z10, z11, i8, kl, hks, hy2, v7, v8, v9, v10, v11, rfl, rfl⟩
    rw [List.length_map, List.length_range, Nat.zero_add] at kl i8 hks
    rw [th_nx]
    simp!
    rw [wps_seq]
    simp!
    refine wp_pool hl 3 (by decide) fun y3 hy3 => ?_
    simp!
    rw [th_nx]
    simp!
    rw [wps_seq]
    simp!
    refine wp_draw (n := 4) (xs := y3) rfl hy3 (by decide) (by decide) fun d3 y3 _ _ hy3 => ?_
    simp!
    generalize hK' : K.th _ = K'
    -- the rest
    have tail : ∀ (ks : List Ki) (y3 : List P) (z13 z14 z15 : Option D), ks.length = ct.toNat → (∀ k ∈ ks, k.ok ∧ k.n ∈ ns.take ct.toNat) →
        K'.nx [none, some (.v (.lst (ns.map P.str))), none, none, some (.v (.int ct)), none, some (.r 3), none, none, none, none, none, some (.r 4), z13, z14, z15, none, none, none, none, none] [.lst y0, .lst y1, .lst y2, .lst (ks.map Ki.t), .lst y3] := by
      intro ks y3 z13 z14 z15 kl hks
      have hk : ∀ k ∈ ks, k.ok := fun k hm => (hks k hm).1
      have kl8 : ks.length ≤ 8 := by omega
      have hct : ((ks.length : Nat) : Int) = ct := by omega
      have hdt : ∀ X, LsAt ([MO.lst y0, MO.lst y1, MO.lst y2, MO.lst (ks.map Ki.t), MO.lst y3] ++ X) (.r 3) (ks.map Ki.t) := fun X => .inr ⟨3, rfl, rfl⟩
      rw [← hK', th_nx]
      simp!
      rw [wps_seq]
      simp!
      refine wp_itm_ls (hdt []) fun ok _ hok => ?_
      refine wp_lcMap Ki.t ks Ki.p (fun acc => hok _) (by omega) (fun k hm acc => ?_) ?_
      · refine ⟨_, rfl, ?_⟩
        simp!
        exact wp_lkind (hk k hm) ⟨rfl, rfl⟩
      rw [if_pos rfl, th_nx]
      simp!
      rw [wps_seq]
      simp!
      refine wp_due hk (by omega) (hdt [_]) ?_
      rw [th_nx, wps_seq]
      simp!
      have hdp : LsAt [MO.lst y0, MO.lst y1, MO.lst y2, MO.lst (ks.map Ki.t), MO.lst y3, MO.lst (ks.map Ki.p)] (.r 5) (ks.map Ki.p) := .inr ⟨5, rfl, rfl⟩
      cases ed : dupN [] (ks.map Ki.n) with
      | some x =>
        have hx : Nm x := by
          have key : ∀ (acc xs : List Str) (x : Str), dupN acc xs = some x → x ∈ xs := by
            intro acc xs
            induction xs generalizing acc with
            | nil => intro x h; cases h
            | cons y ys ih =>
              intro x h
              unfold dupN at h
              split at h
              · cases h; exact List.mem_cons_self
              · exact List.mem_cons_of_mem _ (ih _ x h)
          obtain ⟨k, hm, rfl⟩ := List.mem_map.mp (key [] _ x ed)
          exact (hk k hm).1
        have ex : duT ks = .tup [.str x, .bl true] := by unfold duT; rw [ed]
        have dx : dat 20 (.tup [.str x, .bl true]) = true := by simp [dat, dats, nm_low hx]
        rw [ex, wp_eqNo dx (by decide) rfl (by simp)]
        simp!
        refine wp_refusal hk (by omega) hdp ed ?_
        rw [wp_eqYes dx rfl]
        simp!
        rw [wp_len_ls hdp, List.length_map, hct]
        simp!
        exact done _
      | none =>
        have nd : (ks.map Ki.n).Nodup := by
          have := (dupN_none List.nodup_nil).mp ed
          rwa [List.nil_append] at this
        have ex : duT ks = .tup [] := by unfold duT; rw [ed]
        rw [ex, wp_eqYes (by decide) rfl]
        simp!
        rw [th_nx]
        simp!
        rw [wps_seq]
        simp!
        refine wp_newCat hk (by omega) hdp (fun _ => ?_) fun x e => by rw [ed] at e; cases e
        rw [th_nx, wps_seq]
        simp!
        rw [wp_addL]
        refine ⟨by simp [n8]; omega, ?_⟩
        -- another name
        obtain ⟨y, ey, ay, hoth⟩ : ∃ y, (ns.map P.str ++ [.str "Nobody"])[ct.toNat]? = some (.str y) ∧ Asc y ∧ kiOf ks y = none := by
          have noKi : ∀ y, (∀ k ∈ ks, k.n ≠ y) → kiOf ks y = none := fun y h => by
            unfold kiOf
            rw [List.find?_eq_none]
            intro k hm e
            exact h k hm (by simpa using e)
          by_cases c : ct.toNat < 8
          · have e : ns[ct.toNat]? = some (ns[ct.toNat]'(by omega)) := List.getElem?_eq_getElem _
            refine ⟨ns[ct.toNat]'(by omega), ?_, nm_asc (hns.2.2 _ (List.getElem_mem _)), noKi _ fun k hm e2 => ?_⟩
            · rw [List.getElem?_append_left (by rw [List.length_map]; omega), List.getElem?_map, e]; rfl
            · have hin := (hks k hm).2
              rw [e2] at hin
              obtain ⟨j, hj, ej⟩ := List.mem_iff_getElem.mp hin
              rw [List.length_take] at hj
              rw [List.getElem_take] at ej
              have := (List.getElem_inj (h₀ := by omega) (h₁ := by omega) hns.2.1).mp ej
              omega
          · have c8 : ct.toNat = 8 := by omega
            refine ⟨"Nobody", ?_, ⟨by decide +kernel, by decide +kernel⟩, noKi _ fun k hm e2 => ?_⟩
            · rw [c8, List.getElem?_append_right (by rw [List.length_map]; omega), List.length_map, n8]; rfl
            · have := (hk k hm).1.1
              rw [e2] at this
              exact absurd (this 78 (by decide +kernel)) (by decide)
        rw [wp_ixLi ct0 ey, th_nx]
        simp!
        rw [wps_seq]
        simp!
        refine wp_is hk kl8 nd (hdt [_]) ay hoth ?_
        simp!
        rw [wp_len_ls hdp, List.length_map, hct]
        simp!
        rw [th_nx]
        simp!
        rw [wps_seq]
        have mg : ∀ L', (clsOf L' (.v (katP ks))).bind tm_groups = some f_Catalog_groups := fun _ => rfl
        have mm : ∀ L', (clsOf L' (.v (katP ks))).bind tm_made_groups = some f_Catalog_made_groups := fun _ => rfl
        have la := grA_len hk
        have lm := grM_len hk
        have sa := srtA_len (lt := ltS) (grA ks)
        have sm := srtA_len (lt := ltS) (grM ks)
        simp! [mg]
        refine wp_groups hk (by omega) ?_
        have ty6 : ∀ A B C D' E' F G, tyL [A, B, C, D', E', F, MO.lst G] (.r 6) = true := fun _ _ _ _ _ _ _ => rfl
        have ty7 : ∀ A B C D' E' F G H, tyL [A, B, C, D', E', F, G, MO.lst H] (.r 7) = true := fun _ _ _ _ _ _ _ _ => rfl
        have ty5 : ∀ A B C D' E' F G H, tyL [A, B, C, D', E', MO.lst F, G, H] (.r 5) = true := fun _ _ _ _ _ _ _ _ => rfl
        simp! [ty6]
        rw [wp_append (n := 6) rfl (by rw [List.length_map]; omega)]
        simp!
        rw [th_nx, wps_seq]
        simp! [mm]
        refine wp_madeGroups hk (by omega) ?_
        simp! [ty7]
        rw [wp_append (n := 7) rfl (by rw [List.length_map]; omega)]
        simp!
        rw [th_nx, wps_seq]
        simp! [ty5]
        have wc : ∀ {L : List MO} {E : EX} {Q : D → List MO → Prop} {n : Nat} {xs : List P}, L[n]? = some (.lst xs) → wp (clearD (.r n) []) L E Q = Q (.v .non) (L.set n (.lst [])) := fun {L E Q n xs} h => by
          refine wp_of ?_
          simp [clearD, mutL, h]
        rw [wc (n := 5) (xs := ks.map Ki.p) rfl, th_nx]
        simp!
        refine wp_is hk kl8 nd (.inr ⟨3, rfl, rfl⟩) ay hoth (done _)
    by_cases c3 : d3 = 0
    rotate_left
    · simp! [decide_eq_false c3]
      exact tail ks y3 _ _ _ kl hks
    simp! [decide_eq_true c3]
    by_cases c1 : 1 < ct
    rotate_left
    · simp! [decide_eq_false c1]
      exact tail ks y3 _ _ _ kl hks
    simp! [decide_eq_true c1]
    refine wp_draw (n := 4) (xs := y3) rfl hy3 (by decide) (by decide) fun tn y3 tn0 tn1 hy3 => ?_
    simp!
    rw [wp_rngI (by omega) (by omega)]
    refine wps_forG (fun i τ L' => ∃ (ks : List Ki) (y3 : List P) (z13 z14 z15 : Option D), ks.length = ct.toNat ∧ (∀ k ∈ ks, k.ok ∧ k.n ∈ ns.take ct.toNat) ∧ PoolP y3 ∧ Vz z13 ∧ Vz z14 ∧ Vz z15 ∧
      τ = [none, some (.v (.lst (ns.map P.str))), none, none, some (.v (.int ct)), none, some (.r 3), none, none, none, none, none, some (.r 4), z13, z14, z15, none, none, none, none, none] ∧ L' = [.lst y0, .lst y1, .lst y2, .lst (ks.map Ki.t), .lst y3]) _ 0
      ⟨ks, y3, none, none, none, kl, hks, hy3, .none, .none, .none, rfl, rfl⟩ (fun _ _ _ _ => trivial) ?_ ?_
    · rintro i p τ L' hp ⟨ks, y3, z13, z14, z15, kl, hks, hy3, v13, v14, v15, rfl, rfl⟩
      obtain ⟨hi, rfl⟩ := range_at hp
      refine ⟨_, rfl, wps_trim ?_⟩
      generalize hK2 : (KK.mk _ _ _ _ _ : KK) = K2
      show wps _ [none, some (.v (.lst (ns.map P.str))), none, none, some (.v (.int ct)), none, some (.r 3), none, none, none, none, none, some (.r 4), some (.v (.int i)), z14, z15, none, none, none, none, none] _ _
      simp!
      rw [wps_seq]
      simp!
      refine wp_draw (n := 4) (xs := y3) rfl hy3 (by omega) (by omega) fun one y3 o0 o1 hy3 => ?_
      rw [th_nx, wps_seq]
      simp!
      refine wp_draw (n := 4) (xs := y3) rfl hy3 (by omega) (by omega) fun two y3 t0 t1 hy3 => ?_
      rw [th_nx]
      have e1 : ks[one.toNat]? = some (ks[one.toNat]'(by omega)) := List.getElem?_eq_getElem _
      have e2 : ks[two.toNat]? = some (ks[two.toNat]'(by omega)) := List.getElem?_eq_getElem _
      generalize ks[one.toNat]'(by omega) = ka at e1
      generalize ks[two.toNat]'(by omega) = kb at e2
      have m1 : (ks.map Ki.t)[one.toNat]? = some (.tup [.str ka.n, .lst (ka.rs.map Ro.t)]) := by rw [List.getElem?_map, e1]; rfl
      have m2 : (ks.map Ki.t)[two.toNat]? = some (.tup [.str kb.n, .lst (kb.rs.map Ro.t)]) := by rw [List.getElem?_map, e2]; rfl
      have ha := hks ka (List.mem_of_getElem? e1)
      have hb := hks kb (List.mem_of_getElem? e2)
      simp!
      rw [wp_ixRi (n := 3) (xs := ks.map Ki.t) rfl o0 m1, wp_ixT0, wp_ixRi (n := 3) (xs := ks.map Ki.t) rfl t0 m2, wp_ixT1]
      simp!
      refine wp_setR (n := 3) (xs := ks.map Ki.t) rfl t0 (by rw [List.length_map]; omega) ?_
      rw [← hK2]
      refine ⟨_, [], (List.append_nil _).symm, rfl, older_flat (Nat.le_refl _) rfl, by (repeat' first | exact okT_nil | refine okT_none ?_ | refine okT_v ?_ | refine okT_r (by first | assumption | (simp; done) | (simp; omega) | omega) ?_ | refine okT_z (by assumption) ?_ | refine okT_d (by assumption) ?_), ks.set two.toNat ⟨ka.n, kb.rs⟩, y3, none, _, _, by rw [List.length_set]; exact kl, fun k hk => ?_, hy3, .none, .v, .v, rfl, by rw [List.map_set]; rfl⟩
      rcases List.mem_or_eq_of_mem_set hk with z | z
      · exact hks k z
      · rw [z]
        exact ⟨⟨ha.1.1, hb.1.2.1, hb.1.2.2.1, hb.1.2.2.2⟩, ha.2⟩
    · rintro τ L' ⟨ks, y3, z13, z14, z15, kl, hks, hy3, v13, v14, v15, rfl, rfl⟩
      exact tail ks y3 _ _ _ kl hks
theorem law_ok (scr : List Int) (hl : scr.length ≤ 63) : ∃ L1, f_law [.v (.scr scr)] [] = some (.ok (.v (.bl true)), L1) := by
  obtain ⟨d, L1, e, rfl⟩ := wp_out (law_wp scr hl)
  exact ⟨L1, e⟩
end LK03

end
theorem PySem.Challenge.cw_redopages_k03_catalogs_and_their_groups_holds : PySem.Challenge.rw_redopages_k03_catalogs_and_their_groups.Holds :=
  PySem.Challenge.cw_redopages_k03_catalogs_and_their_groups_of LK03.law_ok

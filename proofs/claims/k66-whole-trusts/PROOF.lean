import PyProof.Rows.All
import Wide.All
import OpenK.AllK
import Wide.FinOn
import HandS.ForMost
import HandS.TupSets
import KE.SortData
import PySem.Str
import HandS.TupAny
import HandS.Star
import HandS.Flow
import HandS.IsInst
import HandS.Zip
import HandS.Defaults
import KE.LtData
import HandS.DictEq
import KE.GoesEnum
import HandS.Strs
import PyProof.ReprRoads
import HandS.DictComp
import PySem.Challenge.RW_actasone_k66_whole_trusts_told_back
section KMHead
set_option Elab.async false
set_option maxRecDepth 100000
set_option maxHeartbeats 0
open PySem PySem.W PyProof.Rows
open_top kmHead for PySem.Challenge.rw_actasone_k66_whole_trusts_told_back
end KMHead
section KTSetA
set_option Elab.async false
set_option linter.all false
set_option maxRecDepth 100000
set_option maxHeartbeats 4000000
/-! Sets of tuples of texts, as the model keeps them (over HandS.TupSets' table). -/
namespace XS
open PySem PySem.Spec PyProof.Rows L2

abbrev xHash (P : Program) (w : World) (k : List Str) : Int := tupleKeyHash (strKind P w) k
abbrev XKey (P : Program) (w : World) (h : Heap) (k : List Str) (a : Addr) : Prop := IsTupleKey (strKind P w) h k a
abbrev XRow := Addr × List Str

theorem txt_of {P : Program} {w : World} {ks : List Str} {us : List Value} (z : ItemsAre (strKind P w) ks us) : ∀ u, u ∈ us → ∃ x t, u = Value.str x t := by
  induction z with
  | nil => intro u hu; cases hu
  | @cons k1 u1 ks us hd _ ih =>
    intro u hu
    cases List.mem_cons.mp hu with
    | inl e =>
      obtain ⟨t, et⟩ := Value.isStrOf_shape (x := k1) (v := u1) hd
      exact ⟨k1, t, e.trans et⟩
    | inr hu => exact ih u hu

section
variable {P : Program} {w : World} {A : Around} {E : Value → Shared → Prop} {s : Shared}

theorem oc_txt (n : Nat) (x : Str) (t : Tok) : ofAClassStatement n (.str x t) = pure false := by
  cases n <;> rfl
theorem hb_txt (n : Nat) (x : Str) (t : Tok) : hashByValue n (.str x t) = pure false := by
  cases n <;> rfl
theorem noClass {k : List Str} {b : Addr} {Q : Bool → Shared → Prop} (hk : XKey P w s.heap k b) (hq : Q false s) :
    wpAny (model P w) A (ofAClassStatement 8 (.ref b)) Q E s := by
  have ht := hk.typeIs
  obtain ⟨ob, its, n, hob, _, hdt, hits⟩ := hk
  unfold ofAClassStatement
  refine wpAny_bind (wpAny_typeOf ht ?_)
  dsimp only
  have e : (("tuple" : String) == "tuple") = true := by decide
  simp only [e, if_true, Bool.not_true, Bool.false_eq_true, if_false]
  try refine wpAny_bind (wpAny_pure ?_)
  try simp only [Bool.not_true, Bool.false_eq_true, if_false]
  show wpAny _ _ (seqItems? (.ref b) >>= _) _ _ s
  refine wpAny_bind (wpAny_seqItems hob hdt ?_)
  dsimp only
  refine wpAny_bind ?_
  show wpAny _ _ (forIn its _ _) _ _ s
  rw [← Array.forIn_toList]
  refine wpAny_forIn_list _ (fun more r s' => (r.1 = none ∧ s' = s) ∧ ∀ u, u ∈ more → ∃ x t, u = Value.str x t) _ ?_ ?_ _ _ ⟨⟨rfl, rfl⟩, txt_of hits⟩
  · rintro u more r s' ⟨⟨hr, rfl⟩, hall⟩
    obtain ⟨x, t, rfl⟩ := hall u List.mem_cons_self
    rw [oc_txt]
    refine wpAny_bind (wpAny_pure ?_)
    simp only [Bool.false_eq_true, if_false]
    exact wpAny_pure ⟨⟨rfl, rfl⟩, fun u hu => hall u (List.mem_cons_of_mem _ hu)⟩
  · rintro ⟨r1, r2⟩ s' ⟨⟨hr, rfl⟩, _⟩
    simp only at hr
    subst hr
    exact wpAny_pure hq

theorem byVal {k : List Str} {b : Addr} {Q : Bool → Shared → Prop} (hk : XKey P w s.heap k b) (hq : ∀ bv, Q bv s) :
    wpAny (model P w) A (hashByValue 8 (.ref b)) Q E s := by
  have ht := hk.typeIs
  obtain ⟨ob, its, n, hob, _, hdt, hits⟩ := hk
  unfold hashByValue
  refine wpAny_bind (wpAny_specialOf ht F.slot_tuple_hash.lookup ?_)
  show wpAny _ _ (seqItems? (.ref b) >>= _) _ _ s
  refine wpAny_bind (wpAny_seqItems hob hdt ?_)
  refine wpAny_bind ?_
  show wpAny _ _ (forIn its _ _) _ _ s
  rw [← Array.forIn_toList]
  have hall := txt_of hits
  cases hl : its.toList with
  | nil => exact wpAny_pure (wpAny_pure (hq _))
  | cons u us =>
    rw [hl] at hall
    obtain ⟨x, t, rfl⟩ := hall u List.mem_cons_self
    rw [List.forIn_cons]
    refine wpAny_bind ?_
    rw [hb_txt]
    refine wpAny_bind (wpAny_pure ?_)
    simp only [Bool.not_false, if_true]
    exact wpAny_pure (wpAny_pure (wpAny_pure (hq _)))

/-- the search shows nothing of the table -/
theorem unseen {k : List Str} {b : Addr} {Q : Bool → Shared → Prop} (hk : XKey P w s.heap k b) {ys : List Value}
    (hy : ∀ y, y ∈ ys → ∃ k' c, y = Value.ref c ∧ XKey P w s.heap k' c) (hq : Q false s) :
    wpAny (model P w) A (searchCouldBeSeen (.ref b) ys) Q E s := by
  unfold searchCouldBeSeen
  refine wpAny_bind ?_
  refine wpAny_forIn_list _ (fun more r s' => (r.1 = none ∧ s' = s) ∧ ∀ y, y ∈ more → ∃ k' c, y = Value.ref c ∧ XKey P w s.heap k' c) _ ?_ ?_ _ _ ⟨⟨rfl, rfl⟩, hy⟩
  · rintro v more r s' ⟨⟨hr, rfl⟩, hall⟩
    obtain ⟨k', c, rfl, hc⟩ := hall v List.mem_cons_self
    have hmore := fun u hu => hall u (List.mem_cons_of_mem (Value.ref c) hu)
    dsimp only
    by_cases same : (b == c || (carriedByValue (.ref b) && carriedByValue (.ref c))) = true
    · exact wp_if_pos same (wpAny_pure ⟨⟨rfl, rfl⟩, hmore⟩)
    · refine wp_if_neg same (wpAny_bind (wpAny_eqIsQuiet_tuple hk ?_))
      simp only [Bool.not_true, Bool.false_eq_true, if_false]
      refine wpAny_bind (wpAny_eqIsQuiet_tuple hc ?_)
      simp only [Bool.not_true, Bool.false_eq_true, if_false]
      refine wpAny_bind (noClass hk ?_)
      simp only [Bool.false_eq_true, if_false]
      refine wpAny_bind (noClass hc ?_)
      simp only [Bool.false_eq_true, if_false]
      exact wpAny_pure ⟨⟨rfl, rfl⟩, hmore⟩
  · rintro ⟨r1, r2⟩ s' ⟨⟨hr, rfl⟩, _⟩
    simp only at hr
    subst hr
    exact wpAny_pure hq

/-! ### a set of such tuples, at q -/
def xRows (P : Program) (w : World) (ps : List XRow) : List (Int × Value) := ps.map fun z => (xHash P w z.2, Value.ref z.1)
structure XTab (P : Program) (w : World) (h : Heap) (q : Addr) (ps : List XRow) (en : Array (Int × Value)) (ec : Nat) (tb : SetTable) : Prop where
  at_ : ∃ ob, h.get? q = some ob ∧ ob.ExactSet ∧ ob.data = .set en ec tb
  ent : en.toList = xRows P w ps
  tab : TabOk tb (ps.map fun z => xHash P w z.2)
  dif : (ps.map Prod.snd).Nodup
  key : ∀ z, z ∈ ps → XKey P w h z.2 z.1
  led : w.params.followText "set-order" = true ∨ tb.led = true
  room : ps.length * 5 < tb.mask * 3
  few : ps.length < 64
variable {q : Addr} {ps : List XRow} {en : Array (Int × Value)} {ec : Nat} {tb : SetTable}
theorem rows_size (hr : en.toList = xRows P w ps) : en.size = ps.length := by
  have e := congrArg List.length hr
  rwa [xRows, List.length_map, Array.length_toList] at e
theorem rows_at (hr : en.toList = xRows P w ps) {i : Nat} {z : XRow} (hz : ps[i]? = some z) : en[i]? = some (xHash P w z.2, Value.ref z.1) := by
  rw [← Array.getElem?_toList, hr, xRows, List.getElem?_map, hz, Option.map_some]
theorem XTab.fit (T : XTab P w s.heap q ps en ec tb) : tb.fits en.size = true := by
  have e1 := T.tab.sz
  have e2 := rows_size T.ent
  have e3 := T.room
  rw [List.length_map] at e1
  simp only [SetTable.fits, SetTable.fill, T.tab.dm, Bool.and_eq_true, beq_iff_eq, decide_eq_true_eq]
  exact ⟨by omega, by show tb.place.size + 0 ≤ tb.mask; omega⟩
theorem probe_clean (m : Nat) : ∀ (n : Nat) (pr : SetTable.Probe), pr.dummy = none → (nth m pr n).dummy = none
  | 0, _, h => h
  | n + 1, pr, h => by
    refine probe_clean m n (adv m pr) ?_
    unfold adv
    split
    · exact h
    · exact h

/-- the state of the search's way at its c-th step -/
abbrev wayAt (P : Program) (w : World) (tb : SetTable) (k : List Str) (c : Nat) : SetTable.Probe :=
  nth tb.mask (runAt tb.mask (SetTable.bits (xHash P w k) % (tb.mask + 1)) (SetTable.bits (xHash P w k))) c

theorem look_from (T : XTab P w s.heap q ps en ec tb) {x : Addr} {k : List Str} (hx : XKey P w s.heap k x) (hu : A.units < cLine)
    {K : Nat} (hKf : K < 10 * SetTable.turns tb.mask) (hK : way tb.mask (xHash P w k) K ∉ tb.place.toList)
    (hKb : ∀ c, c < K → way tb.mask (xHash P w k) c ∈ tb.place.toList) {Q : SetFound → Shared → Prop}
    (yes : k ∈ ps.map Prod.snd → Q (.there none) s) (no : k ∉ ps.map Prod.snd → Q (.free (way tb.mask (xHash P w k) K) false) s) :
    ∀ (fu c : Nat) (stand : Option SetTable.Probe), stand.getD (tb.probeStart (xHash P w k)) = wayAt P w tb k c → c ≤ K → K - c < fu →
      (∀ (i : Nat) (z : XRow), ps[i]? = some z → z.2 = k → ∃ c', c ≤ c' ∧ c' < K ∧ tb.place.toList[i]? = some (way tb.mask (xHash P w k) c')) →
      wpAny (model P w) A (setSearchFrom q (.ref x) (xHash P w k) true fu stand) Q E s := by
  intro fu
  induction fu with
  | zero => intro c stand _ _ hf _; exact absurd hf (Nat.not_lt_zero _)
  | succ fu ih =>
    intro c stand hst hc hf hre
    obtain ⟨ob, hob, hex, hdt⟩ := T.at_
    rw [setSearchFrom_succ]
    refine wpAny_bind (wpAny_setState_of hob hdt T.fit ?_)
    dsimp only
    have hodd : ¬ tb.gaveWay = true := by
      unfold SetTable.gaveWay
      rw [mask_odd T.tab.mok]
      decide
    refine wp_if_neg hodd ?_
    try refine wpAny_bind (wpAny_pure ?_)
    have shift : ∀ n, nth tb.mask (wayAt P w tb k c) n = wayAt P w tb k (c + n) := fun n => (nth_add tb.mask c _ n).symm
    have shiftJ : ∀ n, (nth tb.mask (wayAt P w tb k c) n).j = way tb.mask (xHash P w k) (c + n) := fun n => congrArg SetTable.Probe.j (shift n)
    have eK : c + (K - c) = K := by omega
    have hashAt : ∀ (i : Nat) (z : XRow), ps[i]? = some z → (fun i => (en[i]?.map Prod.fst).getD 0) i = xHash P w z.2 := fun i z hz => by
      show (en[i]?.map Prod.fst).getD 0 = _
      rw [rows_at T.ent hz] <;> rfl
    have spec := go_spec tb T.tab.ris T.tab.dm (fun i => (en[i]?.map Prod.fst).getD 0) (xHash P w k) (10 * SetTable.turns tb.mask) (K - c) (wayAt P w tb k c)
      (probe_clean _ _ _ rfl) (by omega) (fun n hn => by rw [shiftJ]; exact hKb _ (by omega)) (by rw [shiftJ, eK]; exact hK)
    rcases spec with ⟨n, i, hn, hi, _, hno, hpr⟩ | ⟨hno, hpr⟩
    · have met : tb.probe (fun i => (en[i]?.map Prod.fst).getD 0) (xHash P w k) (stand.getD (tb.probeStart (xHash P w k))) = some (.candidate (way tb.mask (xHash P w k) (c + n)) i (wayAt P w tb k (c + (n + 1)))) := by
        rw [hst, ← shiftJ, ← shift]
        exact hpr
      rw [met]
      dsimp only
      rw [shiftJ] at hi
      have hil : i < ps.length := by
        have a1 : i < tb.place.toList.length := (List.getElem?_eq_some_iff.mp hi).1
        have a2 := T.tab.sz
        rw [List.length_map] at a2
        rw [Array.length_toList] at a1
        omega
      obtain ⟨z, hz⟩ : ∃ z, ps[i]? = some z := ⟨_, List.getElem?_eq_getElem hil⟩
      have hzm : z ∈ ps := List.mem_of_getElem? hz
      have hzk := T.key z hzm
      have go : wpAny (model P w) A (searchRest q (.ref x) (xHash P w k) true fu en tb (way tb.mask (xHash P w k) (c + n)) i (wayAt P w tb k (c + (n + 1)))) Q E s := by
        unfold searchRest
        rw [rows_at T.ent hz]
        dsimp only
        refine wpAny_bind (wpAny_holding (wpAny_eqBool_tuple hu hzk hx ?_))
        refine wpAny_bind (wpAny_setState_of hob hdt T.fit ?_)
        dsimp only
        by_cases same : z.2 = k
        · refine wp_if_pos (by simp [same]) (wpAny_pure (yes ?_))
          exact List.mem_map.mpr ⟨z, hzm, same⟩
        · refine wp_if_neg (by simp [same]) ?_
          try refine wpAny_bind (wpAny_pure ?_)
          rw [sameMem]
          dsimp only
          have live : tb.slot (way tb.mask (xHash P w k) (c + n)) = .live i := slot_live T.tab.ris hi
          simp only [if_true, live, rows_at T.ent hz]
          refine wpAny_bind (wpAny_isSame_ref_self (wpAny_bind (wpAny_pure ?_)))
          simp only [if_true]
          refine wp_if_neg (by simp [same]) (ih (c + (n + 1)) _ rfl (by omega) (by omega) fun i0 z0 h0 k0 => ?_)
          obtain ⟨c', b1, b2, b3⟩ := hre i0 z0 h0 k0
          refine ⟨c', ?_, b2, b3⟩
          rcases Nat.lt_trichotomy c' (c + n) with lt | eq | gt
          · exact absurd ((hashAt i0 z0 h0).trans (congrArg (xHash P w) k0)) (hno (c' - c) i0 (by omega) (by rw [shiftJ, show c + (c' - c) = c' by omega]; exact b3))
          · rw [eq] at b3
            have l2 := slot_live T.tab.ris b3
            rw [live] at l2
            injection l2 with l2
            rw [← l2, hz] at h0
            exact absurd ((congrArg Prod.snd (Option.some.inj h0)).trans k0) same
          · omega
      by_cases ledt : tb.led = true
      · refine wp_if_neg (by simp [ledt]) ?_
        try refine wpAny_bind (wpAny_pure ?_)
        exact go
      · refine wp_if_pos (by simp [ledt]) (wpAny_bind (unseen hx (fun y hy => ?_) ?_))
        · obtain ⟨e, he, rfl⟩ := List.mem_map.mp hy
          have he1 : e ∈ en.toList := by
            have he2 : e ∈ en ∧ e.1 = xHash P w k := by simpa using he
            simpa using he2.1
          rw [T.ent] at he1
          obtain ⟨z2, hz2, rfl⟩ := List.mem_map.mp he1
          exact ⟨z2.2, z2.1, rfl, T.key z2 hz2⟩
        · refine wp_if_neg (by decide) ?_
          try refine wpAny_bind (wpAny_pure ?_)
          exact go
    · have met : tb.probe (fun i => (en[i]?.map Prod.fst).getD 0) (xHash P w k) (stand.getD (tb.probeStart (xHash P w k))) = some (.empty (way tb.mask (xHash P w k) K) none) := by
        have e2 : way tb.mask (xHash P w k) K = (nth tb.mask (wayAt P w tb k c) (K - c)).j := by rw [shiftJ, eK]
        rw [hst, e2]
        exact hpr
      rw [met]
      dsimp only
      refine wpAny_pure (no fun hm => ?_)
      obtain ⟨z0, m0, k0⟩ := List.mem_map.mp hm
      obtain ⟨i0, l0, e0⟩ := List.getElem_of_mem m0
      have h0 : ps[i0]? = some z0 := by rw [List.getElem?_eq_getElem l0, e0]
      obtain ⟨c', b1, b2, b3⟩ := hre i0 z0 h0 k0
      exact hno (c' - c) i0 (by omega) (by rw [shiftJ, show c + (c' - c) = c' by omega]; exact b3) ((hashAt i0 z0 h0).trans (congrArg (xHash P w) k0))

theorem look_add (T : XTab P w s.heap q ps en ec tb) {x : Addr} {k : List Str} (hx : XKey P w s.heap k x) (hu : A.units < cLine) {Q : SetFound → Shared → Prop}
    (yes : k ∈ ps.map Prod.snd → Q (.there none) s)
    (no : ∀ K, k ∉ ps.map Prod.snd → way tb.mask (xHash P w k) K ∉ tb.place.toList → (∀ c, c < K → way tb.mask (xHash P w k) c ∈ tb.place.toList) →
      Q (.free (way tb.mask (xHash P w k) K) false) s) :
    wpAny (model P w) A (setSearch q (.ref x) (xHash P w k) true) Q E s := by
  have rm := T.room
  obtain ⟨K, h1, h2, h3⟩ := T.tab.first (by rw [List.length_map]; omega) (xHash P w k)
  have small : K < 100000 := by
    have : 10 * SetTable.turns tb.mask ≤ 1420 := by
      unfold SetTable.turns
      rcases T.tab.mok with e | e | e <;> omega
    omega
  unfold setSearch
  refine look_from T hx hu h1 h2 h3 yes (fun hn => no K hn h2 h3) 100000 0 none rfl (Nat.zero_le _) (by omega) fun i z hz hk => ?_
  have ha : (ps.map fun z => xHash P w z.2)[i]? = some (xHash P w k) := by rw [List.getElem?_map, hz, Option.map_some, hk]
  have hl : i < tb.place.toList.length := by
    have a1 : i < ps.length := (List.getElem?_eq_some_iff.mp hz).1
    have a2 := T.tab.sz
    rw [List.length_map] at a2
    rw [Array.length_toList]
    omega
  have hj := List.getElem?_eq_getElem hl
  obtain ⟨c, hc, e⟩ := T.tab.before h2 ha hj
  exact ⟨c, Nat.zero_le _, hc, by rw [hj, e]⟩
end
end XS
end KTSetA
section KTSetB
set_option Elab.async false
set_option linter.all false
set_option maxRecDepth 100000
set_option maxHeartbeats 4000000
namespace XS
open PySem PySem.Spec PyProof.Rows L2

section
variable {P : Program} {w : World} {A : Around} {E : Value → Shared → Prop} {s : Shared}
variable {q : Addr} {ps : List XRow} {en : Array (Int × Value)} {ec : Nat} {tb : SetTable}

theorem key_but {h h' : Heap} {k : List Str} {b : Addr} {ob : Obj} (hb : XKey P w h k b) (hq : h.get? q = some ob) (hd : ob.data = .set en ec tb) (sb : Heap.SameBut q h h') : XKey P w h' k b := by
  obtain ⟨o2, its, n, h2, hc, hd2, hi⟩ := hb
  have ne : b ≠ q := fun e => by
    rw [e, hq] at h2
    rw [← Option.some.inj h2, hd] at hd2
    cases hd2
  exact ⟨o2, its, n, by rw [sb.2 b ne]; exact h2, hc, hd2, hi⟩
theorem key_keep {h h' : Heap} {k : List Str} {b : Addr} (hb : XKey P w h k b) (hk : ∀ c o, h.get? c = some o → h'.get? c = some o) : XKey P w h' k b := by
  obtain ⟨o2, its, n, h2, rest⟩ := hb
  exact ⟨o2, its, n, hk _ _ h2, rest⟩

theorem rows_pick (hr : en.toList = xRows P w ps) : ∀ l : List Nat, (∀ i, i ∈ l → i < ps.length) →
    l.filterMap (fun i => en[i]?) = xRows P w (l.filterMap fun i => ps[i]?) ∧ ((l.filterMap fun i => ps[i]?).map fun z => xHash P w z.2) = l.map fun i => (en.map Prod.fst).getD i 0
  | [], _ => ⟨rfl, rfl⟩
  | i :: l, hl => by
    have hi : i < ps.length := hl i List.mem_cons_self
    have hp : ps[i]? = some ps[i] := List.getElem?_eq_getElem hi
    have he := rows_at hr hp
    obtain ⟨e1, e2⟩ := rows_pick hr l fun j hj => hl j (List.mem_cons_of_mem _ hj)
    constructor
    · rw [List.filterMap_cons_some he, List.filterMap_cons_some hp, e1]
      rfl
    · rw [List.filterMap_cons_some hp, List.map_cons, List.map_cons, e2]
      have e3 : (en.map Prod.fst)[i]? = some (xHash P w ps[i].2) := by
        rw [Array.getElem?_map, he]
        rfl
      have e4 : (en.map Prod.fst).getD i 0 = xHash P w ps[i].2 := by simp [Array.getD_eq_getD_getElem?, e3]
      rw [e4]
theorem pick_all {α : Type} (l : List α) : (List.range l.length).filterMap (fun i => l[i]?) = l := by
  induction l with
  | nil => rfl
  | cons x l ih =>
    rw [List.length_cons, List.range_succ_eq_map, List.filterMap_cons_some (show (x :: l)[0]? = some x from rfl), List.filterMap_map]
    exact congrArg (x :: ·) ih
theorem rows_order (order : Array Nat) (hr : en.toList = xRows P w ps) (hp : order.toList.Perm (List.range ps.length)) :
    ∃ ps2 : List XRow, (order.filterMap (en[·]?)).toList = xRows P w ps2 ∧ ps2.Perm ps ∧ (ps2.map fun z => xHash P w z.2) = order.toList.map fun i => (en.map Prod.fst).getD i 0 := by
  obtain ⟨e1, e2⟩ := rows_pick hr order.toList fun i hi => List.mem_range.mp (hp.mem_iff.mp hi)
  refine ⟨_, ?_, ?_, e2⟩
  · rw [← e1, Array.toList_filterMap]
  · have := hp.filterMap fun i => ps[i]?
    rwa [pick_all] at this

/-- the table laid anew -/
theorem relay_x {ob : Obj} (hq : s.heap.get? q = some ob) (hex : ob.ExactSet) (hd : ob.data = .set en ec tb) (hr : en.toList = xRows P w ps)
    (hsz : tb.place.size = en.size) (hdm : tb.dummies = #[]) (hfl : en.size ≤ tb.mask) (dif : (ps.map Prod.snd).Nodup) (key : ∀ z, z ∈ ps → XKey P w s.heap z.2 z.1)
    (led : w.params.followText "set-order" = true ∨ tb.led = true) (few : ps.length < 64) {wanted M : Nat} (hw : SetTable.sizeAbove wanted - 1 = M) (hM : MaskOk M)
    (hw2 : SetTable.sizeAbove wanted ≤ 128) (hn : ps.length * 5 < M * 3) {Q : Unit → Shared → Prop}
    (hQ : ∀ h' ps' en' ec' tb', Heap.SameBut q s.heap h' → XTab P w h' q ps' en' ec' tb' → ps'.Perm ps → Q () { s with heap := h' }) :
    wpAny (model P w) A (setRelay q wanted) Q E s := by
  have hes := rows_size hr
  have hfit : tb.fits en.size = true := by
    simp only [SetTable.fits, SetTable.fill, hdm, Bool.and_eq_true, beq_iff_eq, decide_eq_true_eq]
    exact ⟨hsz, by show tb.place.size + 0 ≤ tb.mask; omega⟩
  obtain ⟨tb2, order, er, hp, T2, em, el, _, _⟩ := relaid_ok tb (hs := en.map Prod.fst) (wanted := wanted) hw hM (by rw [Array.size_map]; omega)
  rw [Array.size_map, hes] at hp
  obtain ⟨ps2, r1, r2, r3⟩ := rows_order order hr hp
  rw [← r3] at T2
  have hs2 := rows_size r1
  rw [r2.length_eq, ← hes] at hs2
  rw [setRelay_eq]
  refine wpAny_bind (wpAny_setState_of hq hd hfit ?_)
  dsimp only
  refine wp_if_neg (by rw [sizeLine_eq]; omega) ?_
  try refine wpAny_bind (wpAny_pure ?_)
  rw [er]
  dsimp only
  refine wpAny_bind ?_
  refine wp_if_neg (by rw [hs2]; simp) ?_
  try refine wpAny_bind (wpAny_pure ?_)
  refine wpAny_pure ?_
  dsimp only
  refine wpAny_storeSet_of hq hd ?_ (by rw [hs2, hes, sizeLine_eq]; omega)
  have sb : Heap.SameBut q s.heap (s.heap.update q (Obj.putSet (order.filterMap (en[·]?)) tb2)) := Heap.SameBut.update ..
  refine hQ _ ps2 _ (ec + 1) tb2 sb ⟨⟨_, store_at hq hd, ⟨hex.1, hex.2.1, hex.2.2⟩, rfl⟩, r1, T2, ?_, fun z hz => ?_, ?_, ?_, ?_⟩ r2
  · exact (r2.map Prod.snd).nodup_iff.mpr dif
  · exact key_but (key z (r2.mem_iff.mp hz)) hq hd sb
  · rw [el]; exact led
  · rw [r2.length_eq, em]; exact hn
  · rw [r2.length_eq]; exact few

/-- one more tuple -/
theorem add_x (T : XTab P w s.heap q ps en ec tb) {x : Addr} {k : List Str} (hx : XKey P w s.heap k x) (hu : A.units < cLine) (hfew : k ∉ ps.map Prod.snd → ps.length + 1 < 64) {Q : Bool → Shared → Prop}
    (hQ : ∀ b h' ps' en' ec' tb', Heap.SameBut q s.heap h' → XTab P w h' q ps' en' ec' tb' → (k ∈ ps.map Prod.snd → ps' = ps) → (k ∉ ps.map Prod.snd → ps'.Perm ((x, k) :: ps)) → Q b { s with heap := h' }) :
    wpAny (model P w) A (setAddHashed q (.ref x) (xHash P w k)) Q E s := by
  obtain ⟨ob, hq, hex, hd⟩ := T.at_
  have hes := rows_size T.ent
  have rm := T.room
  unfold setAddHashed
  refine wpAny_holding ?_
  rw [show (100000 : Nat) = Nat.succ 99999 from rfl, Nat.succ_eq_add_one, setAddHashedIn_succ]
  refine wpAny_bind (wpAny_setState_of hq hd T.fit ?_)
  dsimp only
  refine wp_if_neg (by simp [byScan, Value.scannable]) ?_
  try refine wpAny_bind (wpAny_pure ?_)
  refine wpAny_bind (look_add T hx hu (fun hm => ?_) fun K hm hK hb => ?_)
  · dsimp only
    exact wpAny_pure (hQ false s.heap ps en ec tb (Heap.SameBut.refl q s.heap) T (fun _ => rfl) fun z => absurd hm z)
  · have few := hfew hm
    dsimp only
    refine wpAny_bind (wpAny_setState_of hq hd T.fit ?_)
    dsimp only
    obtain ⟨u1, u2, u3, u4, u5, u6, u7, u8, u9⟩ := T.tab.put hK hb
    generalize hpt : tb.put (way tb.mask (xHash P w k) K) = pt at u1 u3 u4 u5 u6 u7 u8 u9 ⊢
    obtain ⟨tb1, pl⟩ := pt
    dsimp only at u1 u3 u4 u5 u6 u7 u8 u9 ⊢
    subst u1
    generalize hpp : SetTable.below tb.place (way tb.mask (xHash P w k) K) = pl at u2 u3 ⊢
    have ins : (SetTable.insertAt en pl (xHash P w k, Value.ref x)).toList = xRows P w (ps.take pl ++ (x, k) :: ps.drop pl) := by
      rw [SetTable.toList_insertAt, T.ent, xRows, xRows, List.map_append, List.map_cons, List.map_take, List.map_drop]
    have pm : (ps.take pl ++ (x, k) :: ps.drop pl).Perm ((x, k) :: ps) := by
      have e : (ps.take pl ++ (x, k) :: ps.drop pl).Perm ((x, k) :: (ps.take pl ++ ps.drop pl)) := List.perm_middle
      rwa [List.take_append_drop] at e
    have hh : (ps.take pl ++ (x, k) :: ps.drop pl).map (fun z => xHash P w z.2) = (ps.map fun z => xHash P w z.2).take pl ++ xHash P w k :: (ps.map fun z => xHash P w z.2).drop pl := by
      rw [List.map_append, List.map_cons, List.map_take, List.map_drop]
    rw [← hh] at u3
    generalize SetTable.insertAt en pl (xHash P w k, Value.ref x) = en1 at ins ⊢
    generalize ps.take pl ++ (x, k) :: ps.drop pl = ps1 at pm u3 ins
    have len1 : ps1.length = ps.length + 1 := pm.length_eq
    have size1 : en1.size = ps.length + 1 := (rows_size ins).trans len1
    have dif1 : (ps1.map Prod.snd).Nodup := by
      refine (pm.map Prod.snd).nodup_iff.mpr ?_
      rw [List.map_cons]
      exact List.nodup_cons.mpr ⟨hm, T.dif⟩
    rw [List.length_map] at u9
    -- whatever is said of the table's plainness
    have go : ∀ tb2 : SetTable, TabOk tb2 (ps1.map fun z => xHash P w z.2) → tb2.mask = tb.mask → tb2.led = tb.led → tb2.fill = ps.length + 1 →
        wpAny (model P w) A (do
          storeSet q en1 tb2
          if !false && tb2.tooFull then setRelay q (SetTable.grown (en.size + 1))
          return true) Q E s := by
      intro tb2 v3 v4 v5 v9
      refine wpAny_bind (wpAny_storeSet_of hq hd ?_ (by rw [size1, sizeLine_eq]; omega))
      have sb : Heap.SameBut q s.heap (s.heap.update q (Obj.putSet en1 tb2)) := Heap.SameBut.update ..
      have hq1 := store_at (es' := en1) (t' := tb2) hq hd
      generalize s.heap.update q (Obj.putSet en1 tb2) = h1 at sb hq1 ⊢
      have key1 : ∀ z, z ∈ ps1 → XKey P w h1 z.2 z.1 := fun z hz => by
        cases List.mem_cons.mp (pm.mem_iff.mp hz) with
        | inl e => rw [e]; exact key_but hx hq hd sb
        | inr m => exact key_but (T.key z m) hq hd sb
      have led1 : w.params.followText "set-order" = true ∨ tb2.led = true := by rw [v5]; exact T.led
      by_cases full : tb2.tooFull = true
      · first
          | (refine wpAny_bind ?_; refine wp_if_pos (by simp [full]) ?_)
          | (refine wp_if_pos (by simp [full]) ?_; refine wpAny_bind ?_)
        have over : (ps.length + 1) * 5 ≥ tb2.mask * 3 := by
          have e := full
          unfold SetTable.tooFull at e
          rwa [decide_eq_true_eq, v9] at e
        rw [hes]
        have psz : tb2.place.size = en1.size := by
          have e := v3.sz
          rw [List.length_map, len1] at e
          rw [e, size1]
        have two : (tb.mask = 7 ∧ ps.length = 4) ∨ (tb.mask = 31 ∧ ps.length = 18) := by
          rcases T.tab.mok with e | e | e
          · exact .inl ⟨e, by rw [v4, e] at over; rw [e] at rm; omega⟩
          · exact .inr ⟨e, by rw [v4, e] at over; rw [e] at rm; omega⟩
          · rw [v4, e] at over; omega
        have grow : ∀ M, SetTable.sizeAbove (SetTable.grown (ps.length + 1)) - 1 = M → MaskOk M → SetTable.sizeAbove (SetTable.grown (ps.length + 1)) ≤ 128 → (ps.length + 1) * 5 < M * 3 →
            wpAny (model P w) A (setRelay q (SetTable.grown (ps.length + 1))) (fun _ s' => wpAny (model P w) A (pure true) Q E s') E { s with heap := h1 } := by
          intro M g1 g2 g3 g4
          refine relay_x (s := { s with heap := h1 }) hq1 ⟨hex.1, hex.2.1, hex.2.2⟩ rfl ins psz v3.dm (by rw [size1, v4]; rcases two with ⟨e, e2⟩ | ⟨e, e2⟩ <;> omega) dif1 key1 led1 (by rw [len1]; exact few) g1 g2 g3 (by rw [len1]; exact g4) ?_
          intro h2 ps2 en2 ec2 tb3 sb2 T2 pm2
          exact wpAny_pure (hQ true h2 ps2 en2 ec2 tb3 (sb.trans sb2) T2 (fun z => absurd z hm) fun _ => pm2.trans pm)
        rcases two with ⟨_, e2⟩ | ⟨_, e2⟩
        · exact grow 31 (by rw [e2, size_20]) (.inr (.inl rfl)) (by rw [e2, size_20]; decide) (by omega)
        · exact grow 127 (by rw [e2, size_76]) (.inr (.inr rfl)) (by rw [e2, size_76]; decide) (by omega)
      · first
          | refine wp_if_neg (by simp [full]) ?_
          | (refine wpAny_bind ?_; refine wp_if_neg (by simp [full]) ?_; refine wpAny_pure ?_)
        refine wpAny_pure (hQ true h1 ps1 en1 (ec + 1) tb2 sb ⟨⟨_, hq1, ⟨hex.1, hex.2.1, hex.2.2⟩, rfl⟩, ins, v3, dif1, key1, led1, ?_, by rw [len1]; exact few⟩ (fun z => absurd z hm) fun _ => pm)
        have e := full
        unfold SetTable.tooFull at e
        rw [decide_eq_true_eq, v9] at e
        rw [len1]
        omega
    have plainNo : TabOk { tb1 with plain := false } (ps1.map fun z => xHash P w z.2) := ⟨u3.ris, u3.dm, u3.sz, u3.mok, u3.bd, u3.reach⟩
    by_cases pl1 : tb1.plain = true
    · first
        | (refine wpAny_bind ?_; refine wp_if_pos pl1 ?_; refine byVal hx fun bv => ?_)
        | refine wp_if_pos pl1 (wpAny_bind (byVal hx fun bv => ?_))
      cases bv with
      | true => exact go tb1 u3 u4 u5 u9
      | false => exact go { tb1 with plain := false } plainNo u4 u5 u9
    · first
        | (refine wpAny_bind ?_; refine wp_if_neg pl1 ?_; refine wpAny_pure ?_)
        | refine wp_if_neg pl1 (wpAny_bind (wpAny_pure ?_))
      exact go tb1 u3 u4 u5 u9
end
end XS
end KTSetB
section KTSetC
set_option Elab.async false
set_option linter.all false
set_option maxRecDepth 100000
set_option maxHeartbeats 4000000
namespace XS
open PySem PySem.Spec PyProof.Rows L2

/-- what the set has got of the first i items: some of them, one of each key -/
structure Had (ks : List XRow) (i : Nat) (ps : List XRow) : Prop where
  old : ∀ z, z ∈ ps → z ∈ ks.take i
  all : ∀ z, z ∈ ks.take i → z.2 ∈ ps.map Prod.snd
theorem take_one_more {α : Type} {l : List α} {i : Nat} {x : α} (h : l[i]? = some x) : l.take (i + 1) = l.take i ++ [x] := by
  rw [List.take_succ, h]
  rfl
theorem Had.skip {ks ps : List XRow} {i : Nat} {z : XRow} (g : Had ks i ps) (h : ks[i]? = some z) (hm : z.2 ∈ ps.map Prod.snd) : Had ks (i + 1) ps := by
  constructor
  · intro y hy
    rw [take_one_more h]
    exact List.mem_append_left _ (g.old y hy)
  · intro y hy
    rw [take_one_more h] at hy
    cases List.mem_append.mp hy with
    | inl m => exact g.all y m
    | inr m => rw [List.mem_singleton.mp m]; exact hm
theorem Had.more {ks ps ps' : List XRow} {i : Nat} {z : XRow} (g : Had ks i ps) (h : ks[i]? = some z) (pm : ps'.Perm (z :: ps)) : Had ks (i + 1) ps' := by
  constructor
  · intro y hy
    rw [take_one_more h]
    cases List.mem_cons.mp (pm.mem_iff.mp hy) with
    | inl e => rw [e]; exact List.mem_append_right _ (List.mem_singleton.mpr rfl)
    | inr m => exact List.mem_append_left _ (g.old y m)
  · intro y hy
    rw [(pm.map Prod.snd).mem_iff, List.map_cons]
    rw [take_one_more h] at hy
    cases List.mem_append.mp hy with
    | inl m => exact List.mem_cons_of_mem _ (g.all y m)
    | inr m => rw [List.mem_singleton.mp m]; exact List.mem_cons_self
/-- no more than 62 different keys come -/
def Few (ks : List XRow) : Prop := ∀ ps : List XRow, (ps.map Prod.snd).Nodup → (∀ z, z ∈ ps → z ∈ ks) → ps.length < 63

section
variable {P : Program} {w : World} {A : Around} {E : Value → Shared → Prop} {s : Shared}
abbrev newSetO (w : World) : Obj := { cls := .type "set", dict := none, data := .set #[] 0 (.fresh 0 0 (!w.params.followText "set-order")) }
theorem xtab_new {h : Heap} {q : Addr} (hq : h.get? q = some (newSetO w)) : XTab P w h q [] #[] 0 (.fresh 0 0 (!w.params.followText "set-order")) := by
  refine ⟨⟨_, hq, ⟨rfl, rfl, rfl⟩, rfl⟩, rfl, ⟨List.Pairwise.nil, rfl, rfl, .inl rfl, fun x hx => (by cases hx), fun i h j hi => (by simp at hi)⟩, List.nodup_nil, fun z hz => (by cases hz), ?_, ?_, ?_⟩
  · show _ ∨ (!w.params.followText "set-order") = true
    cases w.params.followText "set-order"
    · exact .inr rfl
    · exact .inl rfl
  · show 0 * 5 < 7 * 3
    decide
  · show 0 < 64
    decide
theorem XTab.keep {h h' : Heap} {q : Addr} {ps : List XRow} {en : Array (Int × Value)} {ec : Nat} {tb : SetTable} (T : XTab P w h q ps en ec tb) (hq : ∀ ob, h.get? q = some ob → h'.get? q = some ob)
    (hk : ∀ z, z ∈ ps → XKey P w h' z.2 z.1) : XTab P w h' q ps en ec tb := by
  obtain ⟨ob, h1, h2⟩ := T.at_
  exact ⟨⟨ob, hq _ h1, h2⟩, T.ent, T.tab, T.dif, hk, T.led, T.room, T.few⟩

/-- the loop of set.update over any walk of such tuples -/
theorem fill_x {I : Addr} {fp wr : List Addr} {G : Array GenState → Array GenState → Prop} {n : Nat} {Pv : Nat → Value → Prop} {St : Nat → Shared → Prop} {R : Result → Shared → Prop}
    (W : WalksS P w A.in1 I fp wr G n Pv St) (q : Addr) (hqf : q ∉ fp) (ks : List XRow) (hn : n = ks.length) (few : Few ks) (val : ∀ i v, Pv i v → ∃ z, ks[i]? = some z ∧ v = .ref z.1)
    (h0 : Heap) (hk : ∀ z, z ∈ ks → XKey P w h0 z.2 z.1) (hq0 : h0.get? q = none) (hw0 : ∀ b, b ∈ wr → h0.get? b = none) (hu : A.in1.units < cLine) :
    ∀ (left i : Nat) (s : Shared), n - i = left → i ≤ n → St i s → (∀ b o, h0.get? b = some o → s.heap.get? b = some o) → (∃ ps en ec tb, XTab P w s.heap q ps en ec tb ∧ Had ks i ps) →
      (∀ s' ps en ec tb, Moved (q :: wr) G s s' → XTab P w s'.heap q ps en ec tb → Had ks n ps → (∀ b o, h0.get? b = some o → s'.heap.get? b = some o) → R (.ok (.ret .none)) s') →
      codeAny (model P w) A (.builtin "set.update.loop" ⟨[.ref q, .ref I], []⟩) R s := by
  have hqw : q ∉ wr := fun m => hqf (W.sub _ m)
  have sub : ∀ b, b ∈ wr → b ∈ q :: wr := fun b hb => List.mem_cons_of_mem _ hb
  have old : ∀ {s s' : Shared}, Moved wr G s s' → (∀ b o, h0.get? b = some o → s.heap.get? b = some o) → ∀ b o, h0.get? b = some o → s'.heap.get? b = some o := by
    intro s s' mv hkp b o e
    refine mv.heap b o (fun hb => ?_) (hkp b o e)
    rw [hw0 b hb] at e
    cases e
  intro left
  induction left with
  | zero =>
    intro i s hl hi hst hkp ⟨ps, en, ec, tb, T, g⟩ hR
    obtain rfl : i = n := by omega
    refine codeAny_builtin F.entry_set_update_loop ?_
    rw [Around.under_plainId F.plain_set_update_loop _]
    show wpAny _ A.in1 (pyNext (.ref I) >>= _) _ _ s
    refine wpAny_bind (W.done s _ _ hst fun s' mv => ?_)
    show wpAny _ A.in1 (ret Value.none) _ _ s'
    have hkp' := old mv hkp
    refine wpAny_pure (hR s' ps en ec tb (mv.mono sub) (T.keep (fun ob e => mv.heap q ob hqw e) fun z hz => ?_) g hkp')
    exact key_keep (hk z (List.mem_of_mem_take (g.old z hz))) hkp'
  | succ left ih =>
    intro i s hl hi hst hkp ⟨ps, en, ec, tb, T, g⟩ hR
    have lt : i < n := by omega
    refine codeAny_builtin F.entry_set_update_loop ?_
    rw [Around.under_plainId F.plain_set_update_loop _]
    show wpAny _ A.in1 (pyNext (.ref I) >>= _) _ _ s
    refine wpAny_bind (W.item i s _ _ lt hst fun v s' hv hst' mv => ?_)
    obtain ⟨z, hz, rfl⟩ := val i v hv
    have hkp' := old mv hkp
    have T' : XTab P w s'.heap q ps en ec tb := T.keep (fun ob e => mv.heap q ob hqw e) fun y hy => key_keep (hk y (List.mem_of_mem_take (g.old y hy))) hkp'
    have hx : XKey P w s'.heap z.2 z.1 := key_keep (hk z (List.mem_of_getElem? hz)) hkp'
    show wpAny _ A.in1 (holding [Value.ref z.1] (setAdd q (.ref z.1)) >>= _) _ _ s'
    refine wpAny_bind (wpAny_holding ?_)
    unfold setAdd
    refine wpAny_holding ?_
    refine wpAny_bind (wpAny_pyHash_tuple hu hx ?_)
    have less : z.2 ∉ ps.map Prod.snd → ps.length + 1 < 64 := fun _ => by
      have := few ps T.dif fun y hy => List.mem_of_mem_take (g.old y hy)
      omega
    refine add_x (s := { s' with toks := s'.toks + (z.2.length + 1) }) T' hx hu less fun b h' ps2 en2 ec2 tb2 sb T2 c1 c2 => ?_
    have g2 : Had ks (i + 1) ps2 := by
      rcases Classical.em (z.2 ∈ ps.map Prod.snd) with c | c
      · rw [c1 c]; exact g.skip hz c
      · exact g.more hz (c2 c)
    have hkp2 : ∀ b o, h0.get? b = some o → h'.get? b = some o := fun b o e => by
      refine (sb.2 b fun z => ?_).trans (hkp' b o e)
      rw [z, hq0] at e
      cases e
    have hst2 : St (i + 1) { s' with heap := h', toks := s'.toks + (z.2.length + 1) } := W.frame _ s' _ _ hst' (Nat.le_add_right _ _) fun b hb o e => by
      rw [sb.2 b fun e2 => hqf (e2 ▸ hb)]
      exact e
    refine wpAny_pure ⟨plainId_quiet F.plain_set_update_loop _, ih (i + 1) _ (by omega) lt hst2 hkp2 ⟨ps2, en2, ec2, tb2, T2, g2⟩ fun s3 ps3 en3 ec3 tb3 mv3 T3 g3 hkp3 => ?_⟩
    refine hR s3 ps3 en3 ec3 tb3 (Moved.trans W.gtrans ((mv.mono sub).then_heap (Nat.le_add_right _ _) fun b o hb e => ?_) mv3) T3 g3 hkp3
    rw [sb.2 b fun e2 => hb (e2 ▸ List.mem_cons_self)]
    exact e

/-- a list or a tuple of tuples of texts: its items' addresses -/
def Src (h : Heap) (l : Addr) (ks : List XRow) : Prop :=
  ∃ items : Array Value, (h.IsList l items ∨ h.IsTuple l items) ∧ items.toList = ks.map fun z => Value.ref z.1

theorem Src.keep {h h' : Heap} {l : Addr} {ks : List XRow} (x : Src h l ks) (hk : ∀ b o, h.get? b = some o → h'.get? b = some o) : Src h' l ks := by
  obtain ⟨items, hl, e⟩ := x
  refine ⟨items, ?_, e⟩
  rcases hl with ⟨o, ho, r⟩ | ⟨o, ho, r⟩
  · exact .inl ⟨o, hk _ _ ho, r⟩
  · exact .inr ⟨o, hk _ _ ho, r⟩

/-- set.__init__'s filling, from a fresh set at q -/
theorem fill_from {l q : Addr} {id : String} (ks : List XRow) {Q : Unit → Shared → Prop} (hh : A.handled = none) (hl : Src s.heap l ks) (hq : s.heap.get? q = some (newSetO w)) (few : Few ks)
    (h0 : Heap) (hk : ∀ z, z ∈ ks → XKey P w h0 z.2 z.1) (hq0 : h0.get? q = none) (k0 : ∀ b o, h0.get? b = some o → s.heap.get? b = some o) (hu : A.in1.units < cLine)
    (hQ : ∀ (h' : Heap) (tk : Nat) ps en ec tb, XTab P w h' q ps en ec tb → Had ks ks.length ps → (∀ b o, h0.get? b = some o → h'.get? b = some o) → Q () { s with heap := h', toks := tk }) :
    wpAny (model P w) A (Builtin.Frozenset.updateFrom id q (.ref l)) Q E s := by
  obtain ⟨items, hl, hit⟩ := hl
  have isz : items.size = ks.length := by
    have e := congrArg List.length hit
    rwa [Array.length_toList, List.length_map] at e
  have val : ∀ (i : Nat) (v : Value), items[i]? = some v → ∃ z, ks[i]? = some z ∧ v = .ref z.1 := by
    intro i v hv
    rw [← Array.getElem?_toList, hit, List.getElem?_map] at hv
    cases hz : ks[i]? with
    | none => rw [hz] at hv; cases hv
    | some z => rw [hz] at hv; exact ⟨z, rfl, (Option.some.inj hv).symm⟩
  have freshI : h0.get? s.heap.objs.size = none := by
    cases e : h0.get? s.heap.objs.size with
    | none => rfl
    | some o => exact absurd (Heap.lt_size (k0 _ _ e)) (Nat.lt_irrefl _)
  have qI : q ≠ s.heap.objs.size := Nat.ne_of_lt (Heap.lt_size hq)
  have ends : ∀ {G : Array GenState → Array GenState → Prop} (hG : ∀ a b, G a b → b = a) {wr : List Addr} (s1 : Shared), s1.gens = s.gens → s1.drawn = s.drawn → s1.os = s.os →
      ∀ s' ps en ec tb, Moved (q :: wr) G s1 s' → XTab P w s'.heap q ps en ec tb → Had ks items.size ps → (∀ b o, h0.get? b = some o → s'.heap.get? b = some o) → Q () s' := by
    intro G hG wr s1 e1 e2 e3 s' ps en ec tb mv T g kp
    obtain ⟨h', g2, d', tk', os'⟩ := s'
    have eg : g2 = s.gens := (hG _ _ mv.gens).trans e1
    have ed : d' = s.drawn := mv.drawn.trans e2
    have eo : os' = s.os := mv.os.trans e3
    subst eg; subst ed; subst eo
    rw [isz] at g
    exact hQ h' tk' ps en ec tb T g kp
  unfold Builtin.Frozenset.updateFrom
  rcases hl with hl | hl
  · obtain ⟨ol, hol, hcl, nl, hdl⟩ := hl
    obtain ⟨ocls, odict, odata, oslots⟩ := ol
    simp only at hcl hdl
    subst hcl; subst hdl
    have lI : l ≠ s.heap.objs.size := Nat.ne_of_lt (Heap.lt_size hol)
    have isl : s.heap.IsList l items := ⟨_, hol, rfl, nl, rfl⟩
    have q1 := F.sub_list_set
    have q2 := F.sub_list_frozenset
    have q3 : (Value.type "list" == Value.type "dict") = false := by decide
    generalize hPI : pyIter = PI
    wp_walk
    subst hPI
    refine wpAny_pyIter_list isl ?_
    refine wpAny_bind (wpAny_runValue ?_)
    have lq : q ∉ [s.heap.objs.size, l] := by
      simp only [List.mem_cons, List.not_mem_nil, or_false, not_or]
      refine ⟨qI, fun e => ?_⟩
      rw [e, hol] at hq
      have ty : Value.type "list" = Value.type "set" := congrArg Obj.cls (Option.some.inj hq)
      injection ty with ty
      exact absurd ty (by decide)
    have hh2 : A.in1.handled = none := hh
    refine fill_x ((Walks.list hh2 _ l lI items).toS) q lq ks isz few val h0 hk hq0 (fun b hb => by rw [List.mem_singleton.mp hb]; exact freshI) hu (items.size - 0) 0 _ rfl (Nat.zero_le _)
      ⟨⟨_, Heap.get?_push_size _ rfl, rfl, rfl⟩, isl.push _⟩ (fun b o e => Heap.get?_push_of_some _ (k0 b o e)) ⟨[], #[], 0, _, xtab_new (Heap.get?_push_of_some _ hq), ⟨fun z hz => (by cases hz), fun z hz => (by simp at hz)⟩⟩ ?_
    intro s' ps en ec tb mv T g kp
    refine wpAny_pure (ends (fun a b e => e) _ ?_ ?_ ?_ s' ps en ec tb mv T g kp) <;> rfl
  · obtain ⟨ol, hol, hcl, nl, hdl⟩ := hl
    obtain ⟨ocls, odict, odata, oslots⟩ := ol
    simp only at hcl hdl
    subst hcl; subst hdl
    have lI : l ≠ s.heap.objs.size := Nat.ne_of_lt (Heap.lt_size hol)
    have isl : s.heap.IsTuple l items := ⟨_, hol, rfl, nl, rfl⟩
    have q1 := F.sub_tuple_set
    have q2 := F.sub_tuple_frozenset
    have q3 : (Value.type "tuple" == Value.type "dict") = false := by decide
    generalize hPI : pyIter = PI
    wp_walk
    subst hPI
    refine wpAny_pyIter_tuple isl ?_
    refine wpAny_bind (wpAny_runValue ?_)
    have lq : q ∉ [s.heap.objs.size, l] := by
      simp only [List.mem_cons, List.not_mem_nil, or_false, not_or]
      refine ⟨qI, fun e => ?_⟩
      rw [e, hol] at hq
      have ty : Value.type "tuple" = Value.type "set" := congrArg Obj.cls (Option.some.inj hq)
      injection ty with ty
      exact absurd ty (by decide)
    have hh2 : A.in1.handled = none := hh
    refine fill_x ((Walks.tuple hh2 _ l lI items).toS) q lq ks isz few val h0 hk hq0 (fun b hb => by rw [List.mem_singleton.mp hb]; exact freshI) hu (items.size - 0) 0 _ rfl (Nat.zero_le _)
      ⟨⟨_, Heap.get?_push_size _ rfl, rfl, rfl⟩, isl.push _⟩ (fun b o e => Heap.get?_push_of_some _ (k0 b o e)) ⟨[], #[], 0, _, xtab_new (Heap.get?_push_of_some _ hq), ⟨fun z hz => (by cases hz), fun z hz => (by simp at hz)⟩⟩ ?_
    intro s' ps en ec tb mv T g kp
    refine wpAny_pure (ends (fun a b e => e) _ ?_ ?_ ?_ s' ps en ec tb mv T g kp) <;> rfl

set_option maxRecDepth 100000 in
set_option maxHeartbeats 8000000 in
/-- set(xs) -/
theorem call_set_x {l : Addr} (ks : List XRow) {Q : Value → Shared → Prop} (hh : A.handled = none) (hl : Src s.heap l ks) (hk : ∀ z, z ∈ ks → XKey P w s.heap z.2 z.1) (few : Few ks) (hu : A.units + 3 < cLine)
    (hQ : ∀ (h' : Heap) (tk : Nat) ps en ec tb, XTab P w h' s.heap.objs.size ps en ec tb → Had ks ks.length ps → (∀ b o, s.heap.get? b = some o → h'.get? b = some o) → Q (.ref s.heap.objs.size) { s with heap := h', toks := tk }) :
    wpAny (model P w) A (call (.type "set") [.ref l]) Q E s := by
  obtain ⟨c, tl, hmro⟩ := F.called_set.mro
  have hmade := F.called_set.made
  have hsub := F.called_set.sub
  refine wpAny_call (codeAny_of_tree ?_)
  show wpAny _ _ (callAny (.type "set") _) _ _ _
  refine wpAny_pure ⟨Code.quiet_builtin _ (by decide +kernel), codeAny_builtin F.entry_type_call ?_⟩
  rw [Around.under_plain (weight_type_call_type "set" [.ref l] []) rfl]
  have t1 := F.called_set.notType
  have t2 := F.called_set.canCreate
  have t3 := F.typeCall_set_1 (.ref l)
  repeat (any_goals (first | assumption | wp_step))
  refine codeAny_mono (code_set_led1 (.ref l) (E := E) (Q₁ := fun ob s1 => ob = .ref s.heap.objs.size ∧ s1 = { s with heap := s.heap.push (newSetO w) }) ⟨rfl, rfl⟩) fun r s1 hr => ?_
  have hq : (s.heap.push (newSetO w)).get? s.heap.objs.size = some (newSetO w) := Heap.get?_push_size _ rfl
  have none0 : s.heap.get? s.heap.objs.size = none := Heap.get?_none_of_le (Nat.le_refl _)
  cases r with
  | error e => exact hr
  | ok fl =>
    cases fl with
    | ret ob =>
      obtain ⟨rfl, rfl⟩ := hr
      have ty : Shared.TypeIs { s with heap := s.heap.push (newSetO w) } (.ref s.heap.objs.size) "set" := ⟨_, hq, rfl⟩
      have t4 := F.called_set.init.lookup
      have t5 := F.called_set.init.bind (.ref s.heap.objs.size)
      repeat (any_goals (first | assumption | wp_step))
      refine codeAny_mono (codeAny_call_builtin (R := wants (fun r s2 => r = .none ∧ ∃ h' tk ps en ec tb, s2 = { s with heap := h', toks := tk } ∧ XTab P w h' s.heap.objs.size ps en ec tb ∧ Had ks ks.length ps ∧
          (∀ b o, s.heap.get? b = some o → h'.get? b = some o)) E) F.called_set.init.plain F.entry_set_init (check_set_init_1 ty ?_)) fun r2 s2 hr2 => ?_
      · unfold Builtin.«set.__init__» noKeywords
        have step := fun Q => fill_from (P := P) (w := w) (A := A.in1.in1) (E := E) (Q := Q) (s := { s with heap := s.heap.push (newSetO w) }) (q := s.heap.objs.size) (id := "set.__init__") ks hh (hl.keep fun b o e => Heap.get?_push_of_some _ e) hq few s.heap hk none0
          (fun b o e => Heap.get?_push_of_some _ e) hu
        generalize hUF : Builtin.Frozenset.updateFrom = UF at step ⊢
        wp_walk
        subst hUF
        refine step _ fun h' tk ps en ec tb T g kp => ?_
        show wpAny _ _ _ _ _ _
        first
          | exact wpAny_pure ⟨rfl, h', tk, ps, en, ec, tb, rfl, T, g, kp⟩
          | (refine wpAny_pure ?_; exact wpAny_pure ⟨rfl, h', tk, ps, en, ec, tb, rfl, T, g, kp⟩)
      · cases r2 with
        | error e => exact hr2
        | ok fl2 =>
          cases fl2 with
          | ret r =>
            obtain ⟨rfl, h', tk, ps, en, ec, tb, rfl, T, g, kp⟩ := hr2
            repeat (any_goals (first | assumption | wp_step))
            exact hQ _ _ _ _ _ _ T g kp
          | _ => exact hr2.elim
    | _ => exact hr.elim
end
end XS
end KTSetC
section KTSort
set_option Elab.async false
set_option linter.all false
set_option maxRecDepth 100000
set_option maxHeartbeats 4000000
/-! sorted(..) of tuples of which some may be empty. -/
namespace XS
open PySem PySem.Spec PySem.W PySem.SeqAt PyProof.Rows L2

/-- all are tuples -/
def Tups (ds : List PyData) : Prop := ∀ d, d ∈ ds → ∃ xs, d = .tuple xs
def someFirst : PyData → Bool
  | .tuple (_ :: _) => true
  | _ => false

section
variable {P : Program} {w : World} {A : Around} {E : Value → Shared → Prop} {s : Shared}

theorem tup_lt_call {l b : Addr} {items items2 : Array Value} {e r : Nat → Bool} {Q : Value → Shared → Prop} (hl : s.heap.IsTuple l items) (hb : s.heap.IsTuple b items2)
    (he : ∀ j (h1 : j < items.size) (h2 : j < items2.size), EqAt A.in1 s items[j] items2[j] (e j)) (hr : ∀ j (h1 : j < items.size) (h2 : j < items2.size), e j = false → RcLt A.in1 s items[j] items2[j] (r j))
    (hq : Q (.bool (firstLt e r (decide (items.size < items2.size)) (List.range (min items.size items2.size)))) s) : wpAny (model P w) A (call (.builtin "tuple.__lt__") [.ref l, .ref b]) Q E s := by
  obtain ⟨⟨c1, d1, dt1, sl1⟩, o1, e1, n1, f1⟩ := id hl
  obtain ⟨⟨c2, d2, dt2, sl2⟩, o2, e2, n2, f2⟩ := id hb
  dsimp only at e1 f1 e2 f2
  subst e1 f1 e2 f2
  exact call_meets F.slot_tuple_lt ⟨_, o1, rfl⟩ F.entry_tuple_lt (F.args_tuple_lt_2 _ _) (PySem.SeqAt.tuple_ltAt l b items items2 n1 n2 d1 d2 sl1 sl2 e r) ⟨o1, o2, he, hr, hq⟩

theorem oneLt_tup {xs ys : List PyData} {a b : Value} {as bs : List Addr} {Q : Bool → Shared → Prop} (ra : Reads s.heap a (.tuple xs) as) (rb : Reads s.heap b (.tuple ys) bs) (al : alike (.tuple xs) (.tuple ys) = true)
    (hu : A.units + min (PyData.tuple xs).depth (PyData.tuple ys).depth < cLine) (hq : Q (dataLt (.tuple xs) (.tuple ys)) s) : wpAny (model P w) A (oneLt' true a b) Q E s := by
  have all : alikeAll xs ys = true := by simpa [alike] using al
  cases ra with
  | @tuple l o vs n _ _ h1 h2 h3 h4 =>
    cases rb with
    | @tuple l' o' vs' n' _ _ k1 k2 k3 k4 =>
      have n1 : vs.size = xs.length := by simpa using ReadsAll.length _ _ _ h4
      have n2 : vs'.size = ys.length := by simpa using ReadsAll.length _ _ _ k4
      rw [dataLt_tuple, ← firstLt_toks xs ys all, ← n1, ← n2] at hq
      rw [oneLt'_eq]
      simp only [if_true]
      refine wpAny_bind (wpAny_cRoomFor (room_here hu) ?_)
      refine wpAny_bind (wpAny_callSpecialIfBound?_slot (T := "tuple") ⟨_, h1, h2⟩ F.slot_tuple_lt (tup_lt_call (e := pairEq xs ys) (r := fun j => dataLt (xs.getD j .none) (ys.getD j .none)) ⟨_, h1, h2, _, h3⟩ ⟨_, k1, k2, _, k3⟩ (fun j j1 j2 => ?_) (fun j j1 j2 hj => ?_) ?_))
      · have e := eqAt_alikeAll xs ys A.in1 s vs.toList vs'.toList _ _ h4 k4 all (room_in hu) j (by simpa using j1) (by simpa using j2)
        simpa using e
      · have e := rcLt_alikeAll xs ys A.in1 s vs.toList vs'.toList _ _ h4 k4 all (room_in hu) j (by simpa using j1) (by simpa using j2) hj
        simpa using e
      · exact wpAny_truthy_bool hq

/-- what the sort asks of each key: its first item -/
theorem firsts_of {vs : List Value} {ds : List PyData} (e : EachIs (fun v d => ∃ as, Reads s.heap v d as) vs ds) (ht : Tups ds) {Q : List (Option Value) → Shared → Prop}
    (hQ : ∀ os : List (Option Value), os.map Option.isSome = ds.map someFirst → Q os s) : wpAny (model P w) A (vs.mapM firstOfTuple') Q E s := by
  induction e generalizing Q with
  | nil => rw [List.mapM_nil]; exact wpAny_pure (hQ [] rfl)
  | @cons v d vs ds hv _ ih =>
    obtain ⟨as, r⟩ := hv
    obtain ⟨xs, rfl⟩ := ht _ List.mem_cons_self
    rw [List.mapM_cons]
    cases r with
    | @tuple l o its n _ _ h1 h2 h3 h4 =>
      have nl := ReadsAll.length _ _ _ h4
      refine wpAny_bind ?_
      rw [kas_first_eq]
      refine wpAny_bind (wpAny_typeOf (T := "tuple") ⟨o, h1, h2⟩ ?_)
      rw [if_neg (by decide)]
      refine wpAny_bind (wpAny_listItems h1 h3 (wpAny_pure ?_))
      refine wpAny_bind (ih (fun d hd => ht d (List.mem_cons_of_mem _ hd)) fun os hos => wpAny_pure (hQ _ ?_))
      rw [List.map_cons, List.map_cons, hos]
      congr 1
      cases xs with
      | nil =>
        have : its.toList = [] := List.length_eq_zero_iff.mp (by simpa using nl)
        rw [← Array.getElem?_toList, this]
        rfl
      | cons x xs =>
        cases hl : its.toList with
        | nil => rw [hl] at nl; simp at nl
        | cons y ys =>
          rw [← Array.getElem?_toList, hl]
          rfl

theorem typs_of {vs : List Value} {ds : List PyData} (e : EachIs (fun v d => ∃ as, Reads s.heap v d as) vs ds) (ht : Tups ds) {Q : List Value → Shared → Prop}
    (hQ : Q (vs.map fun _ => Value.type "tuple") s) : wpAny (model P w) A (vs.mapM typeOf) Q E s := by
  refine kas_mapM (r := Value.type "tuple") _ (fun v hv Q' hq => ?_) hQ
  obtain ⟨d, hd, as, r⟩ := e.left v hv
  obtain ⟨xs, rfl⟩ := ht d hd
  exact (looks_reads r).here hq

theorem sorts_tups {vs : List Value} {ds : List PyData} (e : EachIs (fun v d => ∃ as, Reads s.heap v d as) vs ds) (hal : AllAlike ds) (ht : Tups ds) (hu : ∀ d, d ∈ ds → A.units + d.depth < cLine) :
    SortsAt P w A s (dataKind s.heap ds) vs := by
  by_cases full : ∀ d, d ∈ ds → ∃ x r, d = .tuple (x :: r)
  · exact SortsAt.data e hal (.inl full) hu
  have keys : ∀ v, v ∈ vs → ∃ a, (dataKind s.heap ds).keyOf v = some a := fun v hv => by
    obtain ⟨d, hd, as, r⟩ := e.left v hv
    exact ⟨_, dataKind_some hal hd r⟩
  have room : ∀ {d d' : PyData}, d ∈ ds → A.units + min d.depth d'.depth < cLine := fun {d d'} hd =>
    Nat.lt_of_le_of_lt (Nat.add_le_add_left (Nat.min_le_left _ _) _) (hu d hd)
  have notAll : (ds.map someFirst).all id = false := by
    cases h : (ds.map someFirst).all id with
    | false => rfl
    | true =>
      refine absurd (fun d hd => ?_) full
      obtain ⟨xs, rfl⟩ := ht d hd
      have := List.all_eq_true.mp h (someFirst (.tuple xs)) (List.mem_map.mpr ⟨_, hd, rfl⟩)
      cases xs with
      | nil => exact absurd this (by decide)
      | cons x r => exact ⟨x, r, rfl⟩
  cases ds with
  | nil => exact absurd (fun d hd => by cases hd) full
  | cons d0 ds0 =>
    have isall : ∀ os : List (Option Value), os.map Option.isSome = (d0 :: ds0).map someFirst → (os.toArray.all fun o => o.isSome) = false := by
      intro os hos
      have h1 : (os.toArray.all fun o => o.isSome) = (os.map Option.isSome).all id := by
        rw [List.all_toArray, List.all_map]
        rfl
      rw [h1, hos]
      exact notAll
    by_cases f0 : someFirst d0 = true
    · refine ⟨keys, general', ?_, fun h2 E Q hq => ?_⟩
      · intro E x y a b Q ha hb hq
        obtain ⟨d, as, hd, ra, rfl⟩ := dataKind_inv ha
        obtain ⟨d', as', hd', rb, rfl⟩ := dataKind_inv hb
        obtain ⟨xs, rfl⟩ := ht d hd
        exact oneLt_alike (f := false) (fun z => nomatch z) ra rb (hal _ hd _ hd') (fun z => nomatch z) (room hd) hq
      · rw [kat_kind_eq, List.mapM_toArray, map_eq_pure_bind]
        refine wpAny_bind (wpAny_bind (firsts_of e ht fun os hos => wpAny_pure ?_))
        have h1 := isall os hos
        have h0 : (os.toArray[0]?.bind id).isSome = true := by
          cases os with
          | nil => cases hos
          | cons o os =>
            have h3 : o.isSome = someFirst d0 := (List.cons.inj hos).1
            rw [f0] at h3
            simpa using h3
        rw [h1, h0]
        simp only [Bool.false_eq_true, if_false, if_true]
        try refine wpAny_bind (wpAny_pure ?_)
        exact wpAny_pure hq
    · refine ⟨keys, oneType', ?_, fun h2 E Q hq => ?_⟩
      · intro E x y a b Q ha hb hq
        obtain ⟨d, as, hd, ra, rfl⟩ := dataKind_inv ha
        obtain ⟨d', as', hd', rb, rfl⟩ := dataKind_inv hb
        obtain ⟨xs, rfl⟩ := ht d hd
        obtain ⟨ys, rfl⟩ := ht d' hd'
        rw [keyLt'_oneType]
        exact oneLt_tup ra rb (hal _ hd _ hd') (room hd) hq
      · rw [kat_kind_eq, List.mapM_toArray, map_eq_pure_bind]
        refine wpAny_bind (wpAny_bind (firsts_of e ht fun os hos => wpAny_pure ?_))
        have h1 := isall os hos
        have h0 : (os.toArray[0]?.bind id).isSome = false := by
          cases os with
          | nil => cases hos
          | cons o os =>
            have h3 : o.isSome = someFirst d0 := (List.cons.inj hos).1
            rw [Bool.not_eq_true] at f0
            rw [f0] at h3
            simpa using h3
        rw [h1, h0]
        simp only [Bool.false_eq_true, if_false]
        try refine wpAny_bind (wpAny_pure ?_)
        rw [oneTypeOnly'_eq, List.mapM_toArray, map_eq_pure_bind]
        refine wpAny_bind (wpAny_bind (wpAny_bind (typs_of e ht (wpAny_pure ?_))))
        have hall : ((vs.map fun _ => Value.type "tuple").toArray.all fun x => x == Value.type "tuple") = true := by
          simp only [List.all_toArray, List.all_map, List.all_eq_true]
          intro _ _
          exact beq_self_eq_true _
        have hz : (vs.map fun _ => Value.type "tuple").toArray[0]? = some (Value.type "tuple") := by
          cases vs with
          | nil => simp at h2
          | cons v vs => simp
        rw [hz]
        simp only [hall, if_true]
        exact wpAny_pure (wpAny_pure hq)
end
end XS
end KTSort
section KPure
set_option linter.all false
/-! Names, sets of names, their orders: plain Lean. -/
namespace M
open PySem

def sLt (x y : Str) : Bool := decide (x.cps.toList < y.cps.toList)
theorem str_ext {x y : Str} (h : x.cps.toList = y.cps.toList) : x = y := by
  obtain ⟨⟨a⟩⟩ := x
  obtain ⟨⟨b⟩⟩ := y
  cases h
  rfl
theorem sLt_irrefl (x : Str) : sLt x x = false := decide_eq_false (List.lt_irrefl _)
theorem sLt_trans {x y z : Str} (h : sLt x y = true) (k : sLt y z = true) : sLt x z = true :=
  decide_eq_true (List.lt_trans (of_decide_eq_true h) (of_decide_eq_true k))
theorem sLt_tri {x y : Str} (h : sLt x y = false) (k : sLt y x = false) : x = y := by
  have h1 : ¬ x.cps.toList < y.cps.toList := of_decide_eq_false h
  have h2 : ¬ y.cps.toList < x.cps.toList := of_decide_eq_false k
  exact str_ext (List.le_antisymm (List.not_lt.mp h2) (List.not_lt.mp h1))
theorem sLt_asymm {x y : Str} (h : sLt x y = true) : sLt y x = false := by
  cases e : sLt y x with
  | false => rfl
  | true => have := sLt_trans h e; rw [sLt_irrefl] at this; cases this

/-- tuples of names -/
def tLt : List Str → List Str → Bool
  | [], [] => false
  | [], _ :: _ => true
  | _ :: _, [] => false
  | x :: xs, y :: ys => if x = y then tLt xs ys else sLt x y
theorem tLt_irrefl : ∀ x : List Str, tLt x x = false
  | [] => rfl
  | x :: xs => by unfold tLt; rw [if_pos rfl]; exact tLt_irrefl xs
theorem tLt_tri : ∀ {x y : List Str}, tLt x y = false → tLt y x = false → x = y
  | [], [], _, _ => rfl
  | [], _ :: _, h, _ => by cases h
  | _ :: _, [], _, h => by cases h
  | x :: xs, y :: ys, h, k => by
    unfold tLt at h k
    by_cases e : x = y
    · subst e
      rw [if_pos rfl] at h k
      rw [tLt_tri h k]
    · rw [if_neg e] at h
      rw [if_neg (fun q => e q.symm)] at k
      exact absurd (sLt_tri h k) e
theorem tLt_trans : ∀ {x y z : List Str}, tLt x y = true → tLt y z = true → tLt x z = true
  | [], [], _, h, _ => by cases h
  | [], _ :: _, [], _, k => by cases k
  | [], _ :: _, _ :: _, _, _ => rfl
  | _ :: _, [], _, h, _ => by cases h
  | _ :: _, _ :: _, [], _, k => by cases k
  | x :: xs, y :: ys, z :: zs, h, k => by
    unfold tLt at h k ⊢
    by_cases e : x = y
    · subst e
      rw [if_pos rfl] at h
      by_cases e2 : x = z
      · rw [if_pos e2] at k ⊢
        exact tLt_trans h k
      · rw [if_neg e2] at k ⊢
        exact k
    · rw [if_neg e] at h
      by_cases e2 : y = z
      · subst e2
        rw [if_neg e]
        exact h
      · rw [if_neg e2] at k
        have l := sLt_trans h k
        by_cases e3 : x = z
        · subst e3
          rw [sLt_asymm k] at h
          cases h
        · rw [if_neg e3]
          exact l
theorem tLt_asymm {x y : List Str} (h : tLt x y = true) : tLt y x = false := by
  cases e : tLt y x with
  | false => rfl
  | true => have := tLt_trans h e; rw [tLt_irrefl] at this; cases this

/-! ### names sorted -/
def insS (x : Str) : List Str → List Str
  | [] => [x]
  | y :: ys => if sLt y x = true then y :: insS x ys else x :: y :: ys
def sortS (l : List Str) : List Str := l.foldr insS []
theorem insS_perm (x : Str) : ∀ l : List Str, (insS x l).Perm (x :: l)
  | [] => List.Perm.refl _
  | y :: ys => by
    unfold insS
    split
    · exact ((insS_perm x ys).cons y).trans (List.Perm.swap x y ys)
    · exact List.Perm.refl _
theorem sortS_perm : ∀ l : List Str, (sortS l).Perm l
  | [] => List.Perm.refl _
  | x :: xs => (insS_perm x (sortS xs)).trans ((sortS_perm xs).cons x)
abbrev LeS (x y : Str) : Prop := sLt y x = false
theorem leS_trans {x y z : Str} (h : LeS x y) (k : LeS y z) : LeS x z := by
  show sLt z x = false
  cases e : sLt z x with
  | false => rfl
  | true =>
    cases e2 : sLt x y with
    | true => have := sLt_trans e e2; rw [k] at this; cases this
    | false => have q := sLt_tri e2 h; subst q; rw [k] at e; cases e
theorem insS_sorted (x : Str) : ∀ {l : List Str}, l.Pairwise LeS → (insS x l).Pairwise LeS
  | [], _ => List.pairwise_singleton _ _
  | y :: ys, h => by
    obtain ⟨h1, h2⟩ := List.pairwise_cons.mp h
    unfold insS
    split
    · rename_i c
      refine List.pairwise_cons.mpr ⟨fun z hz => ?_, insS_sorted x h2⟩
      rcases List.mem_cons.mp ((insS_perm x ys).mem_iff.mp hz) with e | m
      · rw [e]; exact sLt_asymm c
      · exact h1 z m
    · rename_i c
      have c' : LeS x y := by simpa using c
      refine List.pairwise_cons.mpr ⟨fun z hz => ?_, h⟩
      rcases List.mem_cons.mp hz with e | m
      · rw [e]; exact c'
      · exact leS_trans c' (h1 z m)
theorem sortS_sorted : ∀ l : List Str, (sortS l).Pairwise LeS
  | [] => List.Pairwise.nil
  | x :: xs => insS_sorted x (sortS_sorted xs)
theorem sorted_oneS : ∀ {a b : List Str}, a.Perm b → a.Pairwise LeS → b.Pairwise LeS → a = b
  | [], [], _, _, _ => rfl
  | [], _ :: _, p, _, _ => by cases p.length_eq
  | _ :: _, [], p, _, _ => by cases p.length_eq
  | x :: xs, y :: ys, p, h, k => by
    obtain ⟨h1, h2⟩ := List.pairwise_cons.mp h
    obtain ⟨k1, k2⟩ := List.pairwise_cons.mp k
    have e : x = y := by
      have m1 : x ∈ y :: ys := p.mem_iff.mp List.mem_cons_self
      have m2 : y ∈ x :: xs := p.mem_iff.mpr List.mem_cons_self
      rcases List.mem_cons.mp m1 with e | m1
      · exact e
      · rcases List.mem_cons.mp m2 with e | m2
        · exact e.symm
        · exact sLt_tri (k1 x m1) (h1 y m2) |>.symm ▸ rfl
    subst e
    rw [sorted_oneS ((List.perm_cons x).mp p) h2 k2]
theorem sortS_one {l m : List Str} (p : m.Perm l) (h : m.Pairwise LeS) : m = sortS l := sorted_oneS (p.trans (sortS_perm l).symm) h (sortS_sorted l)

/-! ### tuples of names, sorted, each once -/
def insT (x : List Str) : List (List Str) → List (List Str)
  | [] => [x]
  | y :: ys => if tLt y x = true then y :: insT x ys else if tLt x y = true then x :: y :: ys else y :: ys
def sortU (l : List (List Str)) : List (List Str) := l.foldr insT []
abbrev LtT (x y : List Str) : Prop := tLt x y = true
theorem insT_mem (x z : List Str) : ∀ l : List (List Str), z ∈ insT x l ↔ z = x ∨ z ∈ l
  | [] => by simp [insT]
  | y :: ys => by
    unfold insT
    split
    · rw [List.mem_cons, List.mem_cons, insT_mem x z ys]
      constructor
      · rintro (h | h | h)
        · exact .inr (.inl h)
        · exact .inl h
        · exact .inr (.inr h)
      · rintro (h | h | h)
        · exact .inr (.inl h)
        · exact .inl h
        · exact .inr (.inr h)
    · split
      · exact List.mem_cons
      · rename_i c d
        have e : x = y := tLt_tri (by simpa using d) (by simpa using c)
        subst e
        constructor
        · exact .inr
        · rintro (h | h)
          · rw [h]; exact List.mem_cons_self
          · exact h
theorem insT_sorted (x : List Str) : ∀ {l : List (List Str)}, l.Pairwise LtT → (insT x l).Pairwise LtT
  | [], _ => List.pairwise_singleton _ _
  | y :: ys, h => by
    obtain ⟨h1, h2⟩ := List.pairwise_cons.mp h
    unfold insT
    split
    · rename_i c
      refine List.pairwise_cons.mpr ⟨fun z hz => ?_, insT_sorted x h2⟩
      rcases (insT_mem x z ys).mp hz with e | m
      · rw [e]; exact c
      · exact h1 z m
    · split
      · rename_i d
        refine List.pairwise_cons.mpr ⟨fun z hz => ?_, h⟩
        rcases List.mem_cons.mp hz with e | m
        · rw [e]; exact d
        · exact tLt_trans d (h1 z m)
      · exact h
theorem sortU_mem (z : List Str) : ∀ l : List (List Str), z ∈ sortU l ↔ z ∈ l
  | [] => Iff.rfl
  | x :: xs => by
    show z ∈ insT x (sortU xs) ↔ _
    rw [insT_mem, sortU_mem z xs, List.mem_cons]
theorem sortU_sorted : ∀ l : List (List Str), (sortU l).Pairwise LtT
  | [] => List.Pairwise.nil
  | x :: xs => insT_sorted x (sortU_sorted xs)
theorem sorted_nodup {l : List (List Str)} (h : l.Pairwise LtT) : l.Nodup := h.imp fun {a b} c e => by
  subst e
  exact absurd ((show tLt a a = true from c).symm.trans (tLt_irrefl a)) (by decide)
theorem sorted_oneT : ∀ {a b : List (List Str)}, a.Pairwise LtT → b.Pairwise LtT → (∀ z, z ∈ a ↔ z ∈ b) → a = b
  | [], [], _, _, _ => rfl
  | [], y :: ys, _, _, h => by have := (h y).mpr List.mem_cons_self; cases this
  | x :: xs, [], _, _, h => by have := (h x).mp List.mem_cons_self; cases this
  | x :: xs, y :: ys, ha, hb, h => by
    obtain ⟨h1, h2⟩ := List.pairwise_cons.mp ha
    obtain ⟨k1, k2⟩ := List.pairwise_cons.mp hb
    have e : x = y := by
      rcases List.mem_cons.mp ((h x).mp List.mem_cons_self) with e | m1
      · exact e
      · rcases List.mem_cons.mp ((h y).mpr List.mem_cons_self) with e | m2
        · exact e.symm
        · have q := tLt_asymm (k1 x m1)
          rw [h1 y m2] at q
          cases q
    subst e
    rw [sorted_oneT h2 k2 fun z => ?_]
    constructor
    · intro m
      rcases List.mem_cons.mp ((h z).mp (List.mem_cons_of_mem _ m)) with e | m2
      · subst e
        exact absurd ((show tLt z z = true from h1 z m).symm.trans (tLt_irrefl z)) (by decide)
      · exact m2
    · intro m
      rcases List.mem_cons.mp ((h z).mpr (List.mem_cons_of_mem _ m)) with e | m2
      · subst e
        exact absurd ((show tLt z z = true from k1 z m).symm.trans (tLt_irrefl z)) (by decide)
      · exact m2
theorem sortU_one {l m : List (List Str)} (h : m.Pairwise LtT) (k : ∀ z, z ∈ m ↔ z ∈ l) : m = sortU l :=
  sorted_oneT h (sortU_sorted l) fun z => (k z).trans (sortU_mem z l).symm
theorem sortU_same {l m : List (List Str)} (k : ∀ z, z ∈ m ↔ z ∈ l) : sortU m = sortU l := sortU_one (sortU_sorted m) fun z => (sortU_mem z m).trans (k z)
theorem sortU_id {l : List (List Str)} (h : l.Pairwise LtT) : sortU l = l := (sortU_one h fun _ => Iff.rfl).symm
/-- pigeons -/
theorem nodup_le : ∀ {a b : List (List Str)}, a.Nodup → (∀ z, z ∈ a → z ∈ b) → a.length ≤ b.length
  | [], _, _, _ => Nat.zero_le _
  | x :: xs, b, h, k => by
    obtain ⟨h1, h2⟩ := List.nodup_cons.mp h
    have mb : x ∈ b := k x List.mem_cons_self
    have := nodup_le (b := b.erase x) h2 fun z hz => (List.mem_erase_of_ne (fun e : z = x => h1 (by rw [← e]; exact hz))).mpr (k z (List.mem_cons_of_mem _ hz))
    rw [List.length_erase_of_mem mb] at this
    have pos : 0 < b.length := List.length_pos_of_mem mb
    rw [List.length_cons]
    omega
end M
end KPure
section KLayA
set_option Elab.async false
set_option linter.all false
set_option maxRecDepth 100000
set_option maxHeartbeats 4000000
/-! A layer over HandS: what an expression, a statement, a def of this program gives, as functions of plain data. -/
namespace Y
open PySem PySem.Spec PyProof.Rows L2

/-! ### values -/
abbrev Sg := List (Option V)
/-- data; a table by texts; the feed of draws -/
inductive W where
  | d (x : PyData)
  | t (kvs : List (Key × PyData))
  | f
/-- what the feed holds -/
structure Fd where
  cells : List Int
  spot : Int
  rest : Int
  count : Int
/-- what a def alone holds and may change: a list, a table -/
inductive Ow where
  | lst (ds : List PyData)
  | tab (kvs : List (Key × PyData))
/-- a slot: nothing known, a value, a thing that the def alone holds -/
inductive Slot where
  | un
  | v (w : W)
  | own (ds : Ow)
abbrev En := List Slot
abbrev ME := En → Fd → Option (W × Fd)
abbrev MT := En → Fd → Option (Bool × Fd)
abbrev MA := En → Fd → Option (List W × Fd)
inductive R where
  | nx (ρ : En)
  | rt (w : W)
  | bk (ρ : En)
  | ct (ρ : En)
  | rtT (kvs : List (Key × PyData))
abbrev MS := En → Fd → Option (R × Fd)
abbrev FN := List W → Fd → Option (W × Fd)

/-! ### how they lie in the heap -/
/-- what only the motors look like -/
def hotM : List PyData → Bool
  | _ :: _ :: .tuple (.tuple (.int _ :: _) :: _) :: _ => true
  | _ => false
/-- all that is seen in U is seen in U' -/
def Sub (U U' : Hp) : Prop := ∀ a o, U a = some o → U' a = some o
theorem Sub.refl (U : Hp) : Sub U U := fun _ _ h => h
theorem Sub.trans {U U' U2 : Hp} (a : Sub U U') (b : Sub U' U2) : Sub U U2 := fun c o h => b c o (a c o h)
/-- a tuple: tracked as such, or by its object -/
def TupAt (U : Hp) (a : Addr) (xs : List V) : Prop := U a = some (.tup xs) ∨ ∃ o, U a = some (.frz o (.tup xs))
/-- a motor's looks lie in a tuple without a dict -/
def Hot (U : Hp) (xs : List V) : Prop := ∃ b o us, xs[1]? = some (.ref b) ∧ U b = some (.frz o (.tup us)) ∧ o.dict = none
theorem TupAt.mono {U U' : Hp} {a : Addr} {xs : List V} (s : Sub U U') (h : TupAt U a xs) : TupAt U' a xs := h.elim (fun h => .inl (s _ _ h)) fun ⟨o, h⟩ => .inr ⟨o, s _ _ h⟩
theorem Hot.mono {U U' : Hp} {xs : List V} (s : Sub U U') (h : Hot U xs) : Hot U' xs := let ⟨b, o, us, h1, h2, h3⟩ := h; ⟨b, o, us, h1, s _ _ h2, h3⟩
mutual
inductive Rp (U : Hp) : V → PyData → Prop
  | non : Rp U .non .none
  | bl (b : Bool) : Rp U (.bl b) (.bool b)
  | int (i : Int) : Rp U (.int i) (.int i)
  | str (x : Str) : Rp U (.str x) (.str x)
  | lst {a : Addr} {xs : List V} {ds : List PyData} : U a = some (.lst xs) → RpAll U xs ds → Rp U (.ref a) (.list ds)
  | tup {a : Addr} {xs : List V} {ds : List PyData} : TupAt U a xs → (hotM ds = true → Hot U xs) → RpAll U xs ds → Rp U (.ref a) (.tuple ds)
inductive RpAll (U : Hp) : List V → List PyData → Prop
  | nil : RpAll U [] []
  | cons {v : V} {vs : List V} {d : PyData} {ds : List PyData} : Rp U v d → RpAll U vs ds → RpAll U (v :: vs) (d :: ds)
end
mutual
theorem Rp.mono {U U' : Hp} (s : Sub U U') : ∀ (d : PyData) (v : V), Rp U v d → Rp U' v d
  | .none, _, h => by cases h; exact .non
  | .bool b, _, h => by cases h; exact .bl b
  | .int i, _, h => by cases h; exact .int i
  | .str x, _, h => by cases h; exact .str x
  | .list ds, _, h => by
    cases h with
    | lst h1 h2 => exact .lst (s _ _ h1) (RpAll.mono s ds _ h2)
  | .tuple ds, _, h => by
    cases h with
    | tup h1 hh h2 => exact .tup (h1.mono s) (fun z => (hh z).mono s) (RpAll.mono s ds _ h2)
  | .dict _, _, h => by cases h
theorem RpAll.mono {U U' : Hp} (s : Sub U U') : ∀ (ds : List PyData) (vs : List V), RpAll U vs ds → RpAll U' vs ds
  | [], _, h => by cases h; exact .nil
  | d :: ds, _, h => by
    cases h with
    | cons h1 h2 => exact .cons (Rp.mono s d _ h1) (RpAll.mono s ds _ h2)
end
theorem RpAll.length {U : Hp} : ∀ {vs : List V} {ds : List PyData}, RpAll U vs ds → vs.length = ds.length
  | _, _, .nil => rfl
  | _, _, .cons _ t => congrArg Nat.succ t.length
theorem RpAll.get {U : Hp} : ∀ {vs : List V} {ds : List PyData} {i : Nat} {d : PyData}, RpAll U vs ds → ds[i]? = some d → ∃ v, vs[i]? = some v ∧ Rp U v d
  | _, _, _, _, .nil, e => by simp at e
  | _, _, 0, _, .cons r _, e => by simp at e; subst e; exact ⟨_, rfl, r⟩
  | _, _, i + 1, _, .cons _ t, e => RpAll.get (i := i) t (by simpa using e)
theorem RpAll.getv {U : Hp} {vs : List V} {ds : List PyData} {i : Nat} {v : V} (h : RpAll U vs ds) (e : vs[i]? = some v) : ∃ d, ds[i]? = some d ∧ Rp U v d := by
  have hl := h.length
  have hi : i < ds.length := by rw [← hl]; exact (List.getElem?_eq_some_iff.mp e).1
  obtain ⟨v', e', r⟩ := h.get (List.getElem?_eq_getElem hi)
  rw [e] at e'
  cases e'
  exact ⟨_, List.getElem?_eq_getElem hi, r⟩
theorem RpAll.append {U : Hp} : ∀ {vs us : List V} {ds es : List PyData}, RpAll U vs ds → RpAll U us es → RpAll U (vs ++ us) (ds ++ es)
  | _, _, _, _, .nil, h => h
  | _, _, _, _, .cons r t, h => .cons r (t.append h)
theorem RpAll.drop {U : Hp} : ∀ {vs : List V} {ds : List PyData} (n : Nat), RpAll U vs ds → RpAll U (vs.drop n) (ds.drop n)
  | _, _, 0, h => h
  | _, _, _ + 1, .nil => .nil
  | _, _, n + 1, .cons _ t => RpAll.drop n t
theorem RpAll.take {U : Hp} : ∀ {vs : List V} {ds : List PyData} (n : Nat), RpAll U vs ds → RpAll U (vs.take n) (ds.take n)
  | _, _, 0, _ => .nil
  | _, _, _ + 1, .nil => .nil
  | _, _, n + 1, .cons r t => .cons r (RpAll.take n t)

/-- to the layer's own word for deep == -/
theorem sub_seq {K : PySem.W.Frag} {U H : Hp} (s : Sub U H) {a : Addr} {xs : List V} (h : U a = some (.lst xs)) : SqL K H a xs := .inl (.inl (s _ _ h))
theorem sub_tup {K : PySem.W.Frag} {U H : Hp} (s : Sub U H) {a : Addr} {xs : List V} (h : TupAt U a xs) : SqT K H a xs := h.elim (fun h => .inl (.inl (s _ _ h))) fun ⟨o, h⟩ => .inl (.inr ⟨o, s _ _ h⟩)
mutual
theorem Rp.dp {K : PySem.W.Frag} {U H : Hp} (s : Sub U H) : ∀ (d : PyData) (v : V), Rp U v d → Dp K H v d
  | .none, _, h => by cases h; exact .non
  | .bool b, _, h => by cases h; exact .bl b
  | .int i, _, h => by cases h; exact .int i
  | .str x, _, h => by cases h; exact .str x
  | .list ds, _, h => by
    cases h with
    | lst h1 h2 => exact .lst (sub_seq s h1) (RpAll.dp s ds _ h2)
  | .tuple ds, _, h => by
    cases h with
    | tup h1 hh h2 => exact .tup (sub_tup s h1) (RpAll.dp s ds _ h2)
  | .dict _, _, h => by cases h
theorem RpAll.dp {K : PySem.W.Frag} {U H : Hp} (s : Sub U H) : ∀ (ds : List PyData) (vs : List V), RpAll U vs ds → DpAll K H vs ds
  | [], _, h => by cases h; exact .nil
  | d :: ds, _, h => by
    cases h with
    | cons h1 h2 => exact .cons (Rp.dp s d _ h1) (RpAll.dp s ds _ h2)
end

def Tab (U : Hp) : List (Key × V) → List (Key × PyData) → Prop := Paired fun p q => p.1 = q.1 ∧ Rp U p.2 q.2
theorem Tab.mono {U U' : Hp} {ks : List (Key × V)} {kvs : List (Key × PyData)} (s : Sub U U') (h : Tab U ks kvs) : Tab U' ks kvs := Paired.mapP h fun p q z => ⟨z.1, Rp.mono s _ _ z.2⟩
def OwnRp (U : Hp) : HO → Ow → Prop
  | .lst vs, .lst ds => RpAll U vs ds
  | .dK ks, .tab kvs => Tab U ks kvs
  | _, _ => False
theorem OwnRp.mono {U U' : Hp} (s : Sub U U') : ∀ {o : HO} {w : Ow}, OwnRp U o w → OwnRp U' o w := fun {o w} h => by
  unfold OwnRp at h ⊢
  split at h
  · exact RpAll.mono s _ _ h
  · exact Tab.mono s h
  · exact h.elim
def Rw (fa : Addr) (U : Hp) (v : V) : W → Prop
  | .d x => Rp U v x
  | .t kvs => ∃ a ks, v = .ref a ∧ U a = some (.dK ks) ∧ Tab U ks kvs
  | .f => v = .ref fa
theorem Rw.mono {fa : Addr} {U U' : Hp} {v : V} {w : W} (s : Sub U U') (h : Rw fa U v w) : Rw fa U' v w := by
  cases w with
  | d x => exact Rp.mono s x v h
  | t kvs =>
    obtain ⟨a, ks, e, h1, h2⟩ := h
    exact ⟨a, ks, e, s _ _ h1, Paired.mapP h2 fun p q z => ⟨z.1, Rp.mono s _ _ z.2⟩⟩
  | f => exact h
abbrev Rws (fa : Addr) (U : Hp) : List V → List W → Prop := Paired (Rw fa U)
theorem Rws.mono {fa : Addr} {U U' : Hp} {vs : List V} {ws : List W} (s : Sub U U') (h : Rws fa U vs ws) : Rws fa U' vs ws := Paired.mapP h fun _ _ z => z.mono s

def FeedAt (fa : Addr) (H : Hp) (f : Fd) : Prop :=
  ∃ ca, H fa = some (.dK [(Sum.inr "cells", .ref ca), (Sum.inr "spot", .int f.spot), (Sum.inr "rest", .int f.rest), (Sum.inr "count", .int f.count)]) ∧ H ca = some (.lst (f.cells.map V.int))

/-! ### what is hidden: the feed, and the lists that defs hold alone -/
def mask (M : Addr → Bool) (H : Hp) : Hp := fun a => if M a = true then none else H a
theorem mask_sub (M : Addr → Bool) (H : Hp) : Sub (mask M H) H := fun a o h => by
  unfold mask at h
  split at h
  · cases h
  · exact h
theorem mask_some {M : Addr → Bool} {H : Hp} {a : Addr} {o : HO} (h : mask M H a = some o) : M a = false ∧ H a = some o := by
  unfold mask at h
  split at h
  · cases h
  · rename_i q
    exact ⟨by simpa using q, h⟩
theorem mask_at {M : Addr → Bool} {H : Hp} {a : Addr} {o : HO} (h1 : M a = false) (h2 : H a = some o) : mask M H a = some o := by
  unfold mask
  rw [if_neg (by simp [h1])]
  exact h2
/-- the feed's cells stay where they are -/
def CK (fa : Addr) (H H' : Hp) : Prop := ∀ ca r, H fa = some (.dK ((Sum.inr "cells", V.ref ca) :: r)) → ∃ r', H' fa = some (.dK ((Sum.inr "cells", V.ref ca) :: r'))
theorem CK.refl (fa : Addr) (H : Hp) : CK fa H H := fun _ r h => ⟨r, h⟩
theorem CK.trans {fa : Addr} {H H1 H2 : Hp} (a : CK fa H H1) (b : CK fa H1 H2) : CK fa H H2 := fun ca r h => by
  obtain ⟨r1, h1⟩ := a ca r h
  exact b ca r1 h1
/-- all but the feed is as it was -/
def Grow (fa : Addr) (H H' : Hp) : Prop := (∀ b o, b ≠ fa → H b = some o → H' b = some o) ∧ CK fa H H'
theorem Grow.refl (fa : Addr) (H : Hp) : Grow fa H H := ⟨fun _ _ _ h => h, CK.refl _ _⟩
theorem Grow.trans {fa : Addr} {H H1 H2 : Hp} (a : Grow fa H H1) (b : Grow fa H1 H2) : Grow fa H H2 := ⟨fun c o n h => b.1 c o n (a.1 c o n h), a.2.trans b.2⟩
theorem Grow.of_sub {fa : Addr} {H H' : Hp} (h : Sub H H') : Grow fa H H' := ⟨fun b o _ e => h b o e, fun ca r e => ⟨r, h _ _ e⟩⟩
theorem Grow.mask {fa : Addr} {H H' : Hp} {M : Addr → Bool} (g : Grow fa H H') (hf : M fa = true) : Sub (mask M H) (mask M H') := fun a o h => by
  obtain ⟨h1, h2⟩ := mask_some h
  exact mask_at h1 (g.1 a o (fun e => by rw [e, hf] at h1; cases h1) h2)
theorem upd_sub {H : Hp} {p : Addr} {o : HO} (h : H p = none) : Sub H (upd H p o) := fun b u e => by
  rw [upd_ne (ne_of_none e h)]
  exact e
theorem FeedAt.new {fa : Addr} {H : Hp} {f : Fd} {p : Addr} {o : HO} (h : FeedAt fa H f) (hp : H p = none) : FeedAt fa (upd H p o) f := by
  obtain ⟨ca, h1, h2⟩ := h
  exact ⟨ca, upd_sub hp _ _ h1, upd_sub hp _ _ h2⟩

/-- D is not where the feed's cells are, now and later -/
def NC (fa D : Addr) (H : Hp) : Prop := ∀ ca r, H fa = some (.dK ((Sum.inr "cells", V.ref ca) :: r)) → ca ≠ D
theorem NC.ck {fa D : Addr} {H H' : Hp} {f : Fd} (n : NC fa D H) (h : FeedAt fa H f) (c : CK fa H H') : NC fa D H' := fun ca r e => by
  obtain ⟨cb, h1, _⟩ := h
  obtain ⟨r', e'⟩ := c cb _ h1
  rw [e] at e'
  cases e'
  exact n ca _ h1
theorem FeedAt.updD {fa D : Addr} {H : Hp} {f : Fd} {o : HO} (h : FeedAt fa H f) (n : NC fa D H) (hD : D ≠ fa) : FeedAt fa (upd H D o) f := by
  obtain ⟨ca, h1, h2⟩ := h
  exact ⟨ca, by rw [upd_ne (Ne.symm hD)]; exact h1, by rw [upd_ne (n ca _ h1)]; exact h2⟩
theorem NC.upd {fa D E : Addr} {H : Hp} {o : HO} (n : NC fa D H) (hD : E ≠ fa) : NC fa D (upd H E o) := fun ca r e => by
  rw [upd_ne (Ne.symm hD)] at e
  exact n ca r e
theorem NC.new {fa D : Addr} {H : Hp} {f : Fd} (h : FeedAt fa H f) (hD : H D = none) : NC fa D H := fun ca r e z => by
  obtain ⟨cb, h1, h2⟩ := h
  rw [e] at h1
  cases h1
  rw [z, hD] at h2
  cases h2

/-- the feed's cells can be seen -/
def Cel (fa : Addr) (M : Addr → Bool) (H : Hp) : Prop := ∀ ca r, H fa = some (.dK ((Sum.inr "cells", V.ref ca) :: r)) → M ca = false
theorem Cel.ck {fa : Addr} {M : Addr → Bool} {H H' : Hp} {f : Fd} (n : Cel fa M H) (h : FeedAt fa H f) (c : CK fa H H') : Cel fa M H' := fun ca r e => by
  obtain ⟨cb, h1, _⟩ := h
  obtain ⟨r', e'⟩ := c cb _ h1
  rw [e] at e'
  cases e'
  exact n ca _ h1
/-- the def's own frame of mind: the feed's place, the heap and the hidden part as the def was entered -/
structure Cq where
  fa : Addr
  H0 : Hp
  M0 : Addr → Bool

structure EnvOk (C : Cq) (M : Addr → Bool) (σ : Sg) (H : Hp) (ρ : En) (f : Fd) : Prop where
  len : ρ.length = σ.length
  val : ∀ (i : Nat) (w : W), ρ[i]? = some (.v w) → ∃ v, σ[i]? = some (some v) ∧ Rw C.fa (mask M H) v w
  own : ∀ (i : Nat) (ds : Ow), ρ[i]? = some (.own ds) → ∃ a vs, σ[i]? = some (some (.ref a)) ∧ M a = true ∧ C.M0 a = false ∧ C.H0 a = none ∧ a ≠ C.fa ∧ H a = some vs ∧ OwnRp (mask M H) vs ds ∧ NC C.fa a H
  dist : ∀ (i j : Nat) (ds es : Ow) (a : Addr), ρ[i]? = some (.own ds) → ρ[j]? = some (.own es) → σ[i]? = some (some (.ref a)) → σ[j]? = some (some (.ref a)) → i = j
  feed : FeedAt C.fa H f
  hid : M C.fa = true
  trk : ∀ a, M a = true → ∃ o, H a = some o
  old : ∀ b o, b ≠ C.fa → C.H0 b = some o → H b = some o
  sub : ∀ a, C.M0 a = true → M a = true
  new : ∀ a, M a = true → C.M0 a = true ∨ C.H0 a = none
  ck : CK C.fa C.H0 H
  cel : Cel C.fa M H

section
variable {C : Cq} {M : Addr → Bool} {σ : Sg} {H H' : Hp} {ρ : En} {f f' : Fd}
theorem EnvOk.grow (I : EnvOk C M σ H ρ f) (g : Grow C.fa H H') (fd : FeedAt C.fa H' f') : EnvOk C M σ H' ρ f' := by
  have ms := g.mask I.hid
  refine ⟨I.len, fun i w e => ?_, fun i ds e => ?_, I.dist, fd, I.hid, fun a e => ?_, fun b o n e => g.1 b o n (I.old b o n e), I.sub, I.new, I.ck.trans g.2, I.cel.ck I.feed g.2⟩
  · obtain ⟨v, h1, h2⟩ := I.val i w e
    exact ⟨v, h1, h2.mono ms⟩
  · obtain ⟨a, vs, h1, h2, h3, h4, h5, h6, h7⟩ := I.own i ds e
    exact ⟨a, vs, h1, h2, h3, h4, h5, g.1 _ _ h5 h6, h7.1.mono ms, h7.2.ck I.feed g.2⟩
  · obtain ⟨o, h⟩ := I.trk a e
    by_cases hf : a = C.fa
    · obtain ⟨ca, h1, _⟩ := fd
      exact ⟨_, hf ▸ h1⟩
    · exact ⟨o, g.1 a o hf h⟩
theorem EnvOk.fresh (I : EnvOk C M σ H ρ f) {p : Addr} (hp : H p = none) : M p = false := by
  cases h : M p with
  | false => rfl
  | true =>
    obtain ⟨o, e⟩ := I.trk p h
    rw [hp] at e
    cases e
theorem EnvOk.setv (I : EnvOk C M σ H ρ f) {i : Nat} {w : W} {v : V} (r : Rw C.fa (mask M H) v w) : EnvOk C M (σ.set i (some v)) H (ρ.set i (.v w)) f := by
  have key : ∀ (j : Nat) (s : Slot), (ρ.set i (.v w))[j]? = some s → (j = i ∧ s = .v w ∧ i < σ.length) ∨ (j ≠ i ∧ ρ[j]? = some s) := by
    intro j s e
    by_cases hj : i = j
    · subst hj
      by_cases hi : i < ρ.length
      · rw [List.getElem?_set_self hi] at e
        exact .inl ⟨rfl, (Option.some.inj e).symm, by rw [← I.len]; exact hi⟩
      · rw [List.getElem?_eq_none (by simpa using hi)] at e
        cases e
    · rw [List.getElem?_set_ne hj] at e
      exact .inr ⟨fun q => hj q.symm, e⟩
  refine ⟨by simp [I.len], fun j w' e => ?_, fun j ds e => ?_, fun j k ds es a e1 e2 e3 e4 => ?_, I.feed, I.hid, I.trk, I.old, I.sub, I.new, I.ck, I.cel⟩
  · rcases key j _ e with ⟨rfl, e2, hi⟩ | ⟨hj, e2⟩
    · cases e2
      exact ⟨v, List.getElem?_set_self hi, r⟩
    · obtain ⟨v', h1, h2⟩ := I.val j w' e2
      exact ⟨v', by rw [List.getElem?_set_ne (Ne.symm hj)]; exact h1, h2⟩
  · rcases key j _ e with ⟨_, e2, _⟩ | ⟨hj, e2⟩
    · cases e2
    · obtain ⟨a, vs, h1, h2⟩ := I.own j ds e2
      exact ⟨a, vs, by rw [List.getElem?_set_ne (Ne.symm hj)]; exact h1, h2⟩
  · rcases key j _ e1 with ⟨_, q, _⟩ | ⟨hj, q1⟩
    · cases q
    · rcases key k _ e2 with ⟨_, q, _⟩ | ⟨hk, q2⟩
      · cases q
      · rw [List.getElem?_set_ne (Ne.symm hj)] at e3
        rw [List.getElem?_set_ne (Ne.symm hk)] at e4
        exact I.dist j k ds es a q1 q2 e3 e4
end

/-! ### readings that speak of data -/
def rdE (C : Cq) (m : ME) : TE := fun σ H Q => ∃ M ρ f w f', EnvOk C M σ H ρ f ∧ m ρ f = some (w, f') ∧ ∀ v H', Grow C.fa H H' → FeedAt C.fa H' f' → Rw C.fa (mask M H') v w → Q v H'
def rdT (C : Cq) (m : MT) : TT := fun σ H Q => ∃ M ρ f b f', EnvOk C M σ H ρ f ∧ m ρ f = some (b, f') ∧ ∀ H', Grow C.fa H H' → FeedAt C.fa H' f' → Q b H'
def rdA (C : Cq) (m : MA) : TA := fun σ H Q => ∃ M ρ f ws f', EnvOk C M σ H ρ f ∧ m ρ f = some (ws, f') ∧ ∀ vs H', Grow C.fa H H' → FeedAt C.fa H' f' → Rws C.fa (mask M H') vs ws → Q vs H'
def Fin (C : Cq) (U : Hp) (D : Ends) (f' : Fd) : R → Prop
  | .nx ρ' => ∀ M' σ' H', EnvOk C M' σ' H' ρ' f' → Sub U (mask M' H') → D.nx σ' H'
  | .rt w => ∀ v H', Grow C.fa C.H0 H' → FeedAt C.fa H' f' → Rw C.fa (mask C.M0 H') v w → D.rt v H'
  | .bk ρ' => ∀ M' σ' H', EnvOk C M' σ' H' ρ' f' → Sub U (mask M' H') → D.bk σ' H'
  | .ct ρ' => ∀ M' σ' H', EnvOk C M' σ' H' ρ' f' → Sub U (mask M' H') → D.ct σ' H'
  | .rtT kvs => ∀ p ks H', C.H0 p = none → Grow C.fa C.H0 H' → FeedAt C.fa H' f' → H' p = some (.dK ks) → Tab (mask C.M0 H') ks kvs → D.rt (.ref p) H'
def rdS (C : Cq) (m : MS) : TS := fun D σ H => ∃ M ρ f r f', EnvOk C M σ H ρ f ∧ m ρ f = some (r, f') ∧ Fin C (mask M H) D f' r

theorem PE.mono {X : Cx} {e : Expr} {t t' : TE} (h : PE X e t) (hm : ∀ σ H Q, t' σ H Q → t σ H Q) : PE X e t' := ⟨fun pins s σ H Q I q => h.run pins s σ H Q I (hm σ H Q q)⟩
theorem PT.mono {X : Cx} {e : Expr} {t t' : TT} (h : PT X e t) (hm : ∀ σ H Q, t' σ H Q → t σ H Q) : PT X e t' := ⟨fun pins s σ H Q I q => h.run pins s σ H Q I (hm σ H Q q)⟩
theorem PW.mono {X : Cx} {e : Expr} {t t' : TT} (h : PW X e t) (hm : ∀ σ H Q, t' σ H Q → t σ H Q) : PW X e t' := ⟨fun wh pins s σ H Q I q => h.run wh pins s σ H Q I (hm σ H Q q)⟩
theorem PA.mono {X : Cx} {es : List Expr} {t t' : TA} (h : PA X es t) (hm : ∀ σ H Q, t' σ H Q → t σ H Q) : PA X es t' := ⟨fun pos pins s σ H Q I q => h.run pos pins s σ H Q I (hm σ H Q q)⟩
theorem PS.mono {X : Cx} {st : Stmt} {t t' : TS} (h : PS X st t) (hm : ∀ D σ H, t' D σ H → t D σ H) : PS X st t' := ⟨fun pins s σ H D I q => h.run pins s σ H D I (hm D σ H q)⟩
theorem PSs.mono {X : Cx} {st : List Stmt} {t t' : TS} (h : PSs X st t) (hm : ∀ D σ H, t' D σ H → t D σ H) : PSs X st t' := ⟨fun pins s σ H D I q => h.run pins s σ H D I (hm D σ H q)⟩
theorem PI.mono {X : Cx} {tg e : Expr} {t t' : TI} (h : PI X tg e t) (hm : ∀ σ H Q, t' σ H Q → t σ H Q) : PI X tg e t' := ⟨fun pins s σ H Q I q => h.run pins s σ H Q I (hm σ H Q q)⟩
theorem PG.mono {X : Cx} {tg : Expr} {t t' : TG} (h : PG X tg t) (hm : ∀ v σ H Q, t' v σ H Q → t v σ H Q) : PG X tg t' := ⟨fun pins s σ H v u Q I r q => h.run pins s σ H v u Q I r (hm v σ H Q q)⟩
theorem PGs.mono {X : Cx} {tg : List Expr} {t t' : TGs} (h : PGs X tg t) (hm : ∀ v σ H Q, t' v σ H Q → t v σ H Q) : PGs X tg t' := ⟨fun pins s σ H v u Q I r q => h.run pins s σ H v u Q I r (hm v σ H Q q)⟩
/-- a reading that is used on with less -/
theorem rdE.on {C : Cq} {m : ME} {σ : Sg} {H : Hp} {Q Q' : VK} (h : rdE C m σ H Q) (hq : ∀ v H', Q v H' → Q' v H') : rdE C m σ H Q' := by
  obtain ⟨M, ρ, f, w, f', I, e, k⟩ := h
  exact ⟨M, ρ, f, w, f', I, e, fun v H' a b c => hq _ _ (k v H' a b c)⟩
end Y
end KLayA
section KLayB
set_option Elab.async false
set_option linter.all false
set_option maxRecDepth 100000
set_option maxHeartbeats 4000000
/-! The layer's rules for expressions. -/
namespace Y
open PySem PySem.Spec PyProof.Rows L2

/-! ### the words of meanings -/
def mVar (i : Nat) : ME := fun ρ f => match ρ[i]? with
  | some (.v w) => some (w, f)
  | _ => none
def mDat (d : PyData) : ME := fun _ f => some (.d d, f)
def m1 (g : W → Option W) (a : ME) : ME := fun ρ f => (a ρ f).bind fun p => (g p.1).map fun w => (w, p.2)
def m2 (g : W → W → Option W) (a b : ME) : ME := fun ρ f => (a ρ f).bind fun p => (b ρ p.2).bind fun q => (g p.1 q.1).map fun w => (w, q.2)
def mNil : MA := fun _ f => some ([], f)
def mCons (a : ME) (b : MA) : MA := fun ρ f => (a ρ f).bind fun p => (b ρ p.2).map fun q => (p.1 :: q.1, q.2)
def items : W → Option (List PyData)
  | .d (.list xs) => some xs
  | .d (.tuple xs) => some xs
  | _ => none
def mStar (a : ME) (b : MA) : MA := fun ρ f => (a ρ f).bind fun p => (items p.1).bind fun xs => (b ρ p.2).map fun q => (xs.map W.d ++ q.1, q.2)
def mArgs (g : List W → Option W) (a : MA) : ME := fun ρ f => (a ρ f).bind fun p => (g p.1).map fun w => (w, p.2)
def mIf (t : MT) (a b : ME) : ME := fun ρ f => (t ρ f).bind fun p => if p.1 = true then a ρ p.2 else b ρ p.2
def boolOf : W → Option Bool
  | .d (.bool b) => some b
  | _ => none
def wB (b : Bool) : W := .d (.bool b)
def wI (i : Int) : W := .d (.int i)
def mAnd (a b : ME) : ME := fun ρ f => (a ρ f).bind fun p => (boolOf p.1).bind fun c => if c = true then b ρ p.2 else some (wB false, p.2)
def mOr (a b : ME) : ME := fun ρ f => (a ρ f).bind fun p => (boolOf p.1).bind fun c => if c = true then some (wB true, p.2) else b ρ p.2
def mNot (a : ME) : ME := m1 (fun w => (boolOf w).map fun c => wB (!c)) a
def mT (a : ME) : MT := fun ρ f => (a ρ f).bind fun p => (boolOf p.1).map fun c => (c, p.2)
def tNo (a : MT) : MT := fun ρ f => (a ρ f).map fun p => (!p.1, p.2)
def tAn (a b : MT) : MT := fun ρ f => (a ρ f).bind fun p => if p.1 = true then b ρ p.2 else some (false, p.2)
def tO (a b : MT) : MT := fun ρ f => (a ρ f).bind fun p => if p.1 = true then some (true, p.2) else b ρ p.2
def mCall (fn : FN) (a : MA) : ME := fun ρ f => (a ρ f).bind fun p => fn p.1 p.2

theorem m1_some {g : W → Option W} {a : ME} {ρ : En} {f f' : Fd} {w : W} (h : m1 g a ρ f = some (w, f')) : ∃ x, a ρ f = some (x, f') ∧ g x = some w := by
  unfold m1 at h
  cases e : a ρ f with
  | none => rw [e] at h; cases h
  | some p =>
    obtain ⟨x, f1⟩ := p
    rw [e] at h
    cases e2 : g x with
    | none => simp [e2] at h
    | some w' => simp [e2] at h; obtain ⟨rfl, rfl⟩ := h; exact ⟨x, rfl, e2⟩
theorem m2_some {g : W → W → Option W} {a b : ME} {ρ : En} {f f' : Fd} {w : W} (h : m2 g a b ρ f = some (w, f')) : ∃ x f1 y, a ρ f = some (x, f1) ∧ b ρ f1 = some (y, f') ∧ g x y = some w := by
  unfold m2 at h
  cases e : a ρ f with
  | none => rw [e] at h; cases h
  | some p =>
    obtain ⟨x, f1⟩ := p
    rw [e] at h
    simp only [Option.bind_some] at h
    cases e2 : b ρ f1 with
    | none => rw [e2] at h; cases h
    | some q =>
      obtain ⟨y, f2⟩ := q
      rw [e2] at h
      simp only [Option.bind_some] at h
      cases e3 : g x y with
      | none => simp [e3] at h
      | some w' => simp [e3] at h; obtain ⟨rfl, rfl⟩ := h; exact ⟨x, f1, y, rfl, e2, e3⟩

/-! ### what an operation on values asks -/
def Op1 (r : V → Hp → VK → Prop) (g : W → Option W) : Prop :=
  ∀ (fa : Addr) (M : Addr → Bool) (H : Hp) (x : V) (wx w : W) (Q : VK), (∀ p, H p = none → M p = false) → Rw fa (mask M H) x wx → g wx = some w →
    (∀ v H', Sub H H' → Rw fa (mask M H') v w → Q v H') → r x H Q
def Op2 (r : R2) (g : W → W → Option W) : Prop :=
  ∀ (fa : Addr) (M : Addr → Bool) (H : Hp) (x y : V) (wx wy w : W) (Q : VK), (∀ p, H p = none → M p = false) → Rw fa (mask M H) x wx → Rw fa (mask M H) y wy → g wx wy = some w →
    (∀ v H', Sub H H' → Rw fa (mask M H') v w → Q v H') → r x y H Q
def OpN (r : List V → Hp → VK → Prop) (g : List W → Option W) : Prop :=
  ∀ (fa : Addr) (M : Addr → Bool) (H : Hp) (xs : List V) (ws : List W) (w : W) (Q : VK), (∀ p, H p = none → M p = false) → Rws fa (mask M H) xs ws → g ws = some w →
    (∀ v H', Sub H H' → Rw fa (mask M H') v w → Q v H') → r xs H Q

theorem FeedAt.sub {fa : Addr} {H H' : Hp} {f : Fd} (h : FeedAt fa H f) (s : Sub H H') : FeedAt fa H' f := by
  obtain ⟨ca, h1, h2⟩ := h
  exact ⟨ca, s _ _ h1, s _ _ h2⟩

section
variable {X : Cx} {C : Cq} {a b c e : Expr} {es : List Expr} {ma mb mc : ME} {ms : MA} {pos p : Pos}

theorem ye_var {i : Nat} (h : PE X e (tVar i)) : PE X e (rdE C (mVar i)) := PE.mono h fun σ H Q ⟨M, ρ, f, w, f', I, q, k⟩ => by
  unfold mVar at q
  split at q
  · rename_i w' e'
    cases q
    obtain ⟨v, h1, h2⟩ := I.val i w e'
    exact ⟨v, h1, k v H (Grow.refl _ _) I.feed h2⟩
  · cases q
theorem ye_dat {v : V} {d : PyData} (h : PE X e (tC v)) (r : ∀ U, Rp U v d) : PE X e (rdE C (mDat d)) := PE.mono h fun σ H Q ⟨M, ρ, f, w, f', I, q, k⟩ => by
  cases q
  exact k v H (Grow.refl _ _) I.feed (r _)
theorem ye_int {i : Int} {j pos} : PE X (.Constant (.int i) j pos) (rdE C (mDat (.int i))) := ye_dat pe_int fun _ => .int i
theorem ye_bl {i : Bool} {j pos} : PE X (.Constant (.bool i) j pos) (rdE C (mDat (.bool i))) := ye_dat pe_bl fun _ => .bl i
theorem ye_non {j pos} : PE X (.Constant .none j pos) (rdE C (mDat .none)) := ye_dat pe_non fun _ => .non
theorem ye_str {x : Str} {j pos} : PE X (.Constant (.str x) j pos) (rdE C (mDat (.str x))) := ye_dat pe_str fun _ => .str x

theorem tOp_m2 {r : R2} {g : W → W → Option W} (h : Op2 r g) {σ : Sg} {H : Hp} {Q : VK} (x : rdE C (m2 g ma mb) σ H Q) : tOp r (rdE C ma) (rdE C mb) σ H Q := by
  obtain ⟨M, ρ, f, w, f', I, q, k⟩ := x
  obtain ⟨wx, f1, wy, e1, e2, e3⟩ := m2_some q
  refine ⟨M, ρ, f, wx, f1, I, e1, fun v1 H1 g1 d1 r1 => ⟨M, ρ, f1, wy, f', I.grow g1 d1, e2, fun v2 H2 g2 d2 r2 => ?_⟩⟩
  have I2 := (I.grow g1 d1).grow g2 d2
  exact h C.fa M H2 v1 v2 wx wy w Q (fun p hp => I2.fresh hp) (r1.mono (g2.mask I.hid)) r2 e3 fun v H' sb rw' => k v H' ((g1.trans g2).trans (Grow.of_sub sb)) (d2.sub sb) rw'
theorem tUn_m1 {r : V → Hp → VK → Prop} {g : W → Option W} (h : Op1 r g) {σ : Sg} {H : Hp} {Q : VK} (x : rdE C (m1 g ma) σ H Q) : tUn r (rdE C ma) σ H Q := by
  obtain ⟨M, ρ, f, w, f', I, q, k⟩ := x
  obtain ⟨wx, e1, e3⟩ := m1_some q
  refine ⟨M, ρ, f, wx, f', I, e1, fun v1 H1 g1 d1 r1 => ?_⟩
  exact h C.fa M H1 v1 wx w Q (fun p hp => (I.grow g1 d1).fresh hp) r1 e3 fun v H' sb rw' => k v H' (g1.trans (Grow.of_sub sb)) (d1.sub sb) rw'
theorem tCB_mArgs {r : List V → Hp → VK → Prop} {g : List W → Option W} (h : OpN r g) {σ : Sg} {H : Hp} {Q : VK} (x : rdE C (mArgs g ms) σ H Q) : tCB r (rdA C ms) σ H Q := by
  obtain ⟨M, ρ, f, w, f', I, q, k⟩ := x
  unfold mArgs at q
  cases e : ms ρ f with
  | none => rw [e] at q; cases q
  | some z =>
    obtain ⟨ws, f1⟩ := z
    rw [e] at q
    simp only [Option.bind_some] at q
    cases e3 : g ws with
    | none => simp [e3] at q
    | some w' =>
      simp [e3] at q
      obtain ⟨rfl, rfl⟩ := q
      refine ⟨M, ρ, f, ws, f1, I, e, fun vs H1 g1 d1 r1 => ?_⟩
      exact h C.fa M H1 vs ws w' Q (fun p hp => (I.grow g1 d1).fresh hp) r1 e3 fun v H' sb rw' => k v H' (g1.trans (Grow.of_sub sb)) (d1.sub sb) rw'

theorem ye_op {op : Operator} {r : R2} {g : W → W → Option W} (ho : OpR X (binaryOp op) r) (h : Op2 r g) (ha : PE X a (rdE C ma)) (hb : PE X b (rdE C mb)) : PE X (.BinOp a op b pos) (rdE C (m2 g ma mb)) :=
  PE.mono (pe_op ho ha hb) fun _ _ _ q => tOp_m2 h q
theorem ye_un {op : UnaryOp} {r : V → Hp → VK → Prop} {g : W → Option W} (ho : UnR X (unaryOp op) r) (h : Op1 r g) (ha : PE X a (rdE C ma)) : PE X (.UnaryOp op a pos) (rdE C (m1 g ma)) :=
  PE.mono (pe_un ho ha) fun _ _ _ q => tUn_m1 h q
theorem ye_cmp {op : CmpOp} {r : R2} {g : W → W → Option W} (ho : OpR X (compareOp op) r) (h : Op2 r g) (ha : PE X a (rdE C ma)) (hb : PE X b (rdE C mb)) (hm : behindInMarks op b = false) : PE X (.Compare a [op] [b] pos) (rdE C (m2 g ma mb)) :=
  PE.mono (pe_cmpR ho ha hb hm) fun _ _ _ q => tOp_m2 h q
theorem ye_ix {r : R2} {g : W → W → Option W} (hr : IxR X r) (h : Op2 r g) (ha : PE X a (rdE C ma)) (hb : PE X b (rdE C mb)) (hs : PlainIx b) : PE X (.Subscript a b pos) (rdE C (m2 g ma mb)) :=
  PE.mono (pe_ix hr ha hb hs) fun _ _ _ q => tOp_m2 h q

theorem ya_nil : PA X [] (rdA C mNil) := PA.mono pa_nil fun σ H Q ⟨M, ρ, f, w, f', I, q, k⟩ => by
  cases q
  exact k [] H (Grow.refl _ _) I.feed .nil
theorem ya_cons (ha : PE X e (rdE C ma)) (hr : PA X es (rdA C ms)) (hs : starEach (e :: es) X.env = (false, eval e X.env) :: starEach es X.env := by rfl) : PA X (e :: es) (rdA C (mCons ma ms)) :=
  PA.mono (pa_cons ha hr hs) fun σ H Q ⟨M, ρ, f, ws, f', I, q, k⟩ => by
    unfold mCons at q
    cases e1 : ma ρ f with
    | none => rw [e1] at q; cases q
    | some z =>
      obtain ⟨w1, f1⟩ := z
      rw [e1] at q
      simp only [Option.bind_some] at q
      cases e2 : ms ρ f1 with
      | none => rw [e2] at q; cases q
      | some z2 =>
        obtain ⟨w2, f2⟩ := z2
        rw [e2] at q
        simp only [Option.map_some, Option.some.injEq, Prod.mk.injEq] at q
        obtain ⟨rfl, rfl⟩ := q
        exact ⟨M, ρ, f, w1, f1, I, e1, fun v1 H1 g1 d1 r1 => ⟨M, ρ, f1, w2, f2, I.grow g1 d1, e2, fun vs H2 g2 d2 r2 => k (v1 :: vs) H2 (g1.trans g2) d2 (.cons (r1.mono (g2.mask I.hid)) r2)⟩⟩
theorem rws_data {fa : Addr} {U : Hp} : ∀ {vs : List V} {ds : List PyData}, RpAll U vs ds → Rws fa U vs (ds.map W.d)
  | _, _, .nil => .nil
  | _, _, .cons r t => .cons r (rws_data t)
theorem Paired.app {α β : Type} {F : α → β → Prop} : ∀ {l₁ l₂ : List α} {k₁ k₂ : List β}, Paired F l₁ k₁ → Paired F l₂ k₂ → Paired F (l₁ ++ l₂) (k₁ ++ k₂)
  | _, _, _, _, .nil, h => h
  | _, _, _, _, .cons r t, h => .cons r (Paired.app t h)
/-- what has items -/
theorem items_of {fa : Addr} {U : Hp} {v : V} {w : W} {xs : List PyData} (h : items w = some xs) (r : Rw fa U v w) : ∃ a vs, v = .ref a ∧ (U a = some (.lst vs) ∨ TupAt U a vs) ∧ RpAll U vs xs := by
  unfold items at h
  split at h
  · cases h
    cases r with
    | lst h1 h2 => exact ⟨_, _, rfl, .inl h1, h2⟩
  · cases h
    cases r with
    | tup h1 hh h2 => exact ⟨_, _, rfl, .inr h1, h2⟩
  · cases h
theorem ya_star {sp_ : Pos} (ha : PE X e (rdE C ma)) (hr : PA X es (rdA C ms)) (hs : starEach (.Starred e sp_ :: es) X.env = (true, eval e X.env) :: starEach es X.env := by rfl) : PA X (.Starred e sp_ :: es) (rdA C (mStar ma ms)) :=
  PA.mono (StX.pa_star ha hr hs) fun σ H Q ⟨M, ρ, f, ws, f', I, q, k⟩ => by
    unfold mStar at q
    cases e1 : ma ρ f with
    | none => rw [e1] at q; cases q
    | some z =>
      obtain ⟨w1, f1⟩ := z
      rw [e1] at q
      simp only [Option.bind_some] at q
      cases e3 : items w1 with
      | none => rw [e3] at q; cases q
      | some xs =>
        rw [e3] at q
        simp only [Option.bind_some] at q
        cases e2 : ms ρ f1 with
        | none => rw [e2] at q; cases q
        | some z2 =>
          obtain ⟨w2, f2⟩ := z2
          rw [e2] at q
          simp only [Option.map_some, Option.some.injEq, Prod.mk.injEq] at q
          obtain ⟨rfl, rfl⟩ := q
          refine ⟨M, ρ, f, w1, f1, I, e1, fun v1 H1 g1 d1 r1 => ?_⟩
          obtain ⟨a, vs, rfl, hl, rr⟩ := items_of e3 r1
          refine ⟨a, vs, rfl, ?_, ⟨M, ρ, f1, w2, f2, I.grow g1 d1, e2, fun us H2 g2 d2 r2 => k (vs ++ us) H2 (g1.trans g2) d2 (Paired.app (rws_data (RpAll.mono (g2.mask I.hid) _ _ rr)) r2)⟩⟩
          rcases hl with hl | hl
          · exact .inr (sub_seq (mask_sub M H1) hl)
          · exact .inl (sub_tup (mask_sub M H1) hl)

/-! ### displays -/
def datas : List W → Option (List PyData)
  | [] => some []
  | .d x :: ws => (datas ws).map (x :: ·)
  | _ :: _ => none
theorem datas_rp {fa : Addr} {U : Hp} : ∀ {vs : List V} {ws : List W} {ds : List PyData}, Rws fa U vs ws → datas ws = some ds → RpAll U vs ds
  | _, _, _, .nil, h => by cases h; exact .nil
  | _, .d x :: ws, _, .cons r t, h => by
    unfold datas at h
    cases e : datas ws with
    | none => rw [e] at h; cases h
    | some ds => rw [e] at h; cases h; exact .cons r (datas_rp t e)
  | _, .t _ :: _, _, .cons _ _, h => by unfold datas at h; cases h
  | _, .f :: _, _, .cons _ _, h => by unfold datas at h; cases h
abbrev lim : Nat := 16777216
theorem lim_ok {n : Nat} (h : n ≤ lim) : n ≤ sizeLine := by rw [sizeLine_eq]; exact h
def gTupD (ws : List W) : Option W := (datas ws).bind fun ds => if ds.length ≤ lim ∧ hotM ds = false then some (.d (.tuple ds)) else none
theorem hot_no {U : Hp} {xs : List V} {ds : List PyData} (h : hotM ds = false) : hotM ds = true → Hot U xs := fun z => by rw [h] at z; cases z
def gLstD (ws : List W) : Option W := (datas ws).bind fun ds => if ds.length ≤ lim then some (.d (.list ds)) else none
theorem laid_tup {fa : Addr} {M : Addr → Bool} {H : Hp} {vs : List V} {ds : List PyData} {p : Addr} (hot : hotM ds = false) (r : RpAll (mask M H) vs ds) (hp : H p = none) (hm : M p = false) : Rw fa (mask M (upd H p (.tup vs))) (.ref p) (.d (.tuple ds)) := by
  refine Rp.tup (.inl (mask_at hm upd_same)) (hot_no hot) (RpAll.mono (fun a o h => ?_) _ _ r)
  obtain ⟨h1, h2⟩ := mask_some h
  exact mask_at h1 (upd_sub hp _ _ h2)
theorem laid_lst {fa : Addr} {M : Addr → Bool} {H : Hp} {vs : List V} {ds : List PyData} {p : Addr} (r : RpAll (mask M H) vs ds) (hp : H p = none) (hm : M p = false) : Rw fa (mask M (upd H p (.lst vs))) (.ref p) (.d (.list ds)) := by
  refine Rp.lst (mask_at hm upd_same) (RpAll.mono (fun a o h => ?_) _ _ r)
  obtain ⟨h1, h2⟩ := mask_some h
  exact mask_at h1 (upd_sub hp _ _ h2)
theorem opn_tup : OpN (fun xs H Q => xs.length ≤ sizeLine ∧ ∀ p, H p = none → Q (.ref p) (upd H p (.tup xs))) gTupD := fun fa M H xs ws w Q fr r e k => by
  unfold gTupD at e
  cases e1 : datas ws with
  | none => rw [e1] at e; cases e
  | some ds =>
    rw [e1] at e
    simp only [Option.bind_some] at e
    split at e
    · rename_i hl
      cases e
      have rr := datas_rp r e1
      exact ⟨lim_ok (by rw [rr.length]; exact hl.1), fun p hp => k _ _ (upd_sub hp) (laid_tup hl.2 rr hp (fr p hp))⟩
    · cases e
theorem opn_lst : OpN (fun xs H Q => xs.length ≤ sizeLine ∧ ∀ p, H p = none → Q (.ref p) (upd H p (.lst xs))) gLstD := fun fa M H xs ws w Q fr r e k => by
  unfold gLstD at e
  cases e1 : datas ws with
  | none => rw [e1] at e; cases e
  | some ds =>
    rw [e1] at e
    simp only [Option.bind_some] at e
    split at e
    · rename_i hl
      cases e
      have rr := datas_rp r e1
      exact ⟨lim_ok (by rw [rr.length]; exact hl), fun p hp => k _ _ (upd_sub hp) (laid_lst rr hp (fr p hp))⟩
    · cases e
theorem ye_tup {x1} (h : PA X es (rdA C ms)) : PE X (.Tuple es x1 pos) (rdE C (mArgs gTupD ms)) := PE.mono (pe_tup h) fun _ _ _ q => tCB_mArgs opn_tup q
theorem ye_lst (h : PA X es (rdA C ms)) : PE X (.List es pos) (rdE C (mArgs gLstD ms)) := PE.mono (pe_lst h) fun _ _ _ q => tCB_mArgs opn_lst q

/-! ### and, or, not, if; tests -/
variable {mt mu : MT}
theorem yt_of (h : PE X e (rdE C ma)) (he : ∀ whole, isTrue e X.env whole = (do let v ← whole; standAt e.pos; holding [v] (truthy v)) := by intro _; rfl) : PT X e (rdT C (mT ma)) :=
  PT.mono (pt_val h he) fun σ H Q ⟨M, ρ, f, c, f', I, q, k⟩ => by
    unfold mT at q
    cases e1 : ma ρ f with
    | none => rw [e1] at q; cases q
    | some z =>
      obtain ⟨w1, f1⟩ := z
      rw [e1] at q
      simp only [Option.bind_some] at q
      unfold boolOf at q
      split at q
      · cases q
        refine ⟨M, ρ, f, _, _, I, e1, fun v H1 g1 d1 r1 => ?_⟩
        cases r1
        exact ⟨_, rfl, k H1 g1 d1⟩
      · cases q
theorem yt_cmp {op : CmpOp} {r : R2} {g : W → W → Option W} (ho : OpR X (compareOp op) r) (h : Op2 r g) (ha : PE X a (rdE C ma)) (hb : PE X b (rdE C mb)) (hm : behindInMarks op b = false) : PT X (.Compare a [op] [b] pos) (rdT C (mT (m2 g ma mb))) :=
  PT.mono (pt_cmpR ho ha hb hm) fun σ H Q ⟨M, ρ, f, c, f', I, q, k⟩ => by
    unfold mT at q
    cases e1 : m2 g ma mb ρ f with
    | none => rw [e1] at q; cases q
    | some z =>
      obtain ⟨w1, f1⟩ := z
      rw [e1] at q
      simp only [Option.bind_some] at q
      unfold boolOf at q
      split at q
      · cases q
        refine tOp_m2 h ⟨M, ρ, f, _, _, I, e1, fun v H1 g1 d1 r1 => ?_⟩
        cases r1
        exact ⟨_, rfl, k H1 g1 d1⟩
      · cases q
theorem yt_not (h : PT X a (rdT C mt)) : PT X (.UnaryOp .Not a pos) (rdT C (tNo mt)) := PT.mono (pt_not h) fun σ H Q ⟨M, ρ, f, c, f', I, q, k⟩ => by
  unfold tNo at q
  cases e1 : mt ρ f with
  | none => rw [e1] at q; cases q
  | some z =>
    obtain ⟨w1, f1⟩ := z
    rw [e1] at q
    cases q
    exact ⟨M, ρ, f, w1, f1, I, e1, fun H1 g1 d1 => k H1 g1 d1⟩
theorem yw_and1 (h : PT X a (rdT C mt)) : PW X (.BoolOp .And [a] pos) (rdT C mt) := pw_and1 h
theorem yw_or1 (h : PT X a (rdT C mt)) : PW X (.BoolOp .Or [a] pos) (rdT C mt) := pw_or1 h
theorem yw_and {rest : List Expr} (ha : PT X a (rdT C mt)) (hb : PW X (.BoolOp .And (b :: rest) pos) (rdT C mu)) : PW X (.BoolOp .And (a :: b :: rest) pos) (rdT C (tAn mt mu)) :=
  PW.mono (pw_and ha hb) fun σ H Q ⟨M, ρ, f, c, f', I, q, k⟩ => by
    unfold tAn at q
    cases e1 : mt ρ f with
    | none => rw [e1] at q; cases q
    | some z =>
      obtain ⟨w1, f1⟩ := z
      rw [e1] at q
      simp only [Option.bind_some] at q
      refine ⟨M, ρ, f, w1, f1, I, e1, fun H1 g1 d1 => ?_⟩
      cases w1 with
      | true =>
        rw [if_pos rfl] at q ⊢
        exact ⟨M, ρ, f1, c, f', I.grow g1 d1, q, fun H2 g2 d2 => k H2 (g1.trans g2) d2⟩
      | false =>
        rw [if_neg Bool.false_ne_true] at q ⊢
        cases q
        exact k H1 g1 d1
theorem yw_or {rest : List Expr} (ha : PT X a (rdT C mt)) (hb : PW X (.BoolOp .Or (b :: rest) pos) (rdT C mu)) : PW X (.BoolOp .Or (a :: b :: rest) pos) (rdT C (tO mt mu)) :=
  PW.mono (pw_or ha hb) fun σ H Q ⟨M, ρ, f, c, f', I, q, k⟩ => by
    unfold tO at q
    cases e1 : mt ρ f with
    | none => rw [e1] at q; cases q
    | some z =>
      obtain ⟨w1, f1⟩ := z
      rw [e1] at q
      simp only [Option.bind_some] at q
      refine ⟨M, ρ, f, w1, f1, I, e1, fun H1 g1 d1 => ?_⟩
      cases w1 with
      | true =>
        rw [if_pos rfl] at q ⊢
        cases q
        exact k H1 g1 d1
      | false =>
        rw [if_neg Bool.false_ne_true] at q ⊢
        exact ⟨M, ρ, f1, c, f', I.grow g1 d1, q, fun H2 g2 d2 => k H2 (g1.trans g2) d2⟩
theorem ye_if (ht : PT X c (rdT C mt)) (ha : PE X a (rdE C ma)) (hb : PE X b (rdE C mb)) : PE X (.IfExp c a b pos) (rdE C (mIf mt ma mb)) :=
  PE.mono (pe_ifExp ht ha hb) fun σ H Q ⟨M, ρ, f, w, f', I, q, k⟩ => by
    unfold mIf at q
    cases e1 : mt ρ f with
    | none => rw [e1] at q; cases q
    | some z =>
      obtain ⟨w1, f1⟩ := z
      rw [e1] at q
      simp only [Option.bind_some] at q
      refine ⟨M, ρ, f, w1, f1, I, e1, fun H1 g1 d1 => ?_⟩
      cases w1 with
      | true =>
        rw [if_pos rfl] at q ⊢
        exact ⟨M, ρ, f1, w, f', I.grow g1 d1, q, fun v H2 g2 d2 r2 => k v H2 (g1.trans g2) d2 r2⟩
      | false =>
        rw [if_neg Bool.false_ne_true] at q ⊢
        exact ⟨M, ρ, f1, w, f', I.grow g1 d1, q, fun v H2 g2 d2 r2 => k v H2 (g1.trans g2) d2 r2⟩
theorem ye_one {op} (h : PE X a (rdE C ma)) : PE X (.BoolOp op [a] pos) (rdE C ma) := pe_one h
theorem bool_of {fa : Addr} {U : Hp} {v : V} {w : W} {c : Bool} (h : boolOf w = some c) (r : Rw fa U v w) : v = .bl c := by
  unfold boolOf at h
  split at h
  · cases h
    cases r
    rfl
  · cases h
theorem ye_and {rest : List Expr} (ha : PE X a (rdE C ma)) (hb : PE X (.BoolOp .And (b :: rest) pos) (rdE C mb)) : PE X (.BoolOp .And (a :: b :: rest) pos) (rdE C (mAnd ma mb)) :=
  PE.mono (pe_and ha hb) fun σ H Q ⟨M, ρ, f, w, f', I, q, k⟩ => by
    unfold mAnd at q
    cases e1 : ma ρ f with
    | none => rw [e1] at q; cases q
    | some z =>
      obtain ⟨w1, f1⟩ := z
      rw [e1] at q
      simp only [Option.bind_some] at q
      cases e2 : boolOf w1 with
      | none => rw [e2] at q; cases q
      | some c =>
        rw [e2] at q
        simp only [Option.bind_some] at q
        refine ⟨M, ρ, f, w1, f1, I, e1, fun v H1 g1 d1 r1 => ⟨c, bool_of e2 r1, ?_⟩⟩
        cases c with
        | true =>
          rw [if_pos rfl] at q ⊢
          exact ⟨M, ρ, f1, w, f', I.grow g1 d1, q, fun v H2 g2 d2 r2 => k v H2 (g1.trans g2) d2 r2⟩
        | false =>
          rw [if_neg Bool.false_ne_true] at q ⊢
          cases q
          exact k _ H1 g1 d1 (Rp.bl false)
theorem ye_or {rest : List Expr} (ha : PE X a (rdE C ma)) (hb : PE X (.BoolOp .Or (b :: rest) pos) (rdE C mb)) : PE X (.BoolOp .Or (a :: b :: rest) pos) (rdE C (mOr ma mb)) :=
  PE.mono (pe_or ha hb) fun σ H Q ⟨M, ρ, f, w, f', I, q, k⟩ => by
    unfold mOr at q
    cases e1 : ma ρ f with
    | none => rw [e1] at q; cases q
    | some z =>
      obtain ⟨w1, f1⟩ := z
      rw [e1] at q
      simp only [Option.bind_some] at q
      cases e2 : boolOf w1 with
      | none => rw [e2] at q; cases q
      | some c =>
        rw [e2] at q
        simp only [Option.bind_some] at q
        refine ⟨M, ρ, f, w1, f1, I, e1, fun v H1 g1 d1 r1 => ⟨c, bool_of e2 r1, ?_⟩⟩
        cases c with
        | true =>
          rw [if_pos rfl] at q ⊢
          cases q
          exact k _ H1 g1 d1 (Rp.bl true)
        | false =>
          rw [if_neg Bool.false_ne_true] at q ⊢
          exact ⟨M, ρ, f1, w, f', I.grow g1 d1, q, fun v H2 g2 d2 r2 => k v H2 (g1.trans g2) d2 r2⟩
theorem ye_not (ha : PE X a (rdE C ma)) : PE X (.UnaryOp .Not a pos) (rdE C (mNot ma)) := PE.mono (pe_not ha) fun σ H Q x => by
  obtain ⟨M, ρ, f, w, f', I, q, k⟩ := x
  obtain ⟨wx, e1, e3⟩ := m1_some q
  refine ⟨M, ρ, f, wx, f', I, e1, fun v1 H1 g1 d1 r1 => ?_⟩
  cases e2 : boolOf wx with
  | none => rw [e2] at e3; cases e3
  | some c =>
    rw [e2] at e3
    cases e3
    exact ⟨c, bool_of e2 r1, k _ H1 g1 d1 (Rp.bl (!c))⟩
end
end Y
end KLayB
section KLayC
set_option Elab.async false
set_option linter.all false
set_option maxRecDepth 100000
set_option maxHeartbeats 4000000
/-! The layer's operators. -/
namespace Y
open PySem PySem.Spec PySem.SeqAt PyProof.Rows L2
open PySem.W (alike alikeAll dataLt eqAt_alike eqAt_alikeAll rcLt_alike)

/-! ### == and != of alike data -/
section
variable {A : Around} {s : Shared} {a b : Value} {da db : PyData} {as bs : List Addr}
theorem rcEq_tup {xs ys : List PyData} (ra : Reads s.heap a (.tuple xs) as) (rb : Reads s.heap b (.tuple ys) bs) (al : alikeAll xs ys = true) (hu : A.units + min (PyData.tuple xs).depth (PyData.tuple ys).depth < cLine) : RcAt A s a b (PyData.eqv (.tuple xs) (.tuple ys)) := by
  cases ra with
  | @tuple l o vs n _ _ h1 h2 h3 h4 =>
    cases rb with
    | @tuple l' o' vs' n' _ _ k1 k2 k3 k4 =>
      have n1 : vs.size = xs.length := by simpa using ReadsAll.length _ _ _ h4
      have n2 : vs'.size = ys.length := by simpa using ReadsAll.length _ _ _ k4
      show RcAt A s (.ref l) (.ref l') (PyData.eqvAll xs ys)
      rw [← eqvAll_eq xs ys, ← n1, ← n2]
      refine RcAt.tuples ⟨_, h1, h2, _, h3⟩ ⟨_, k1, k2, _, k3⟩ (room_here hu) fun j j1 j2 => ?_
      have e := eqAt_alikeAll xs ys A.in1 s vs.toList vs'.toList _ _ h4 k4 al (room_in hu) j (by simpa using j1) (by simpa using j2)
      simpa using e
theorem rcNe_tup {xs ys : List PyData} (ra : Reads s.heap a (.tuple xs) as) (rb : Reads s.heap b (.tuple ys) bs) (al : alikeAll xs ys = true) (hu : A.units + min (PyData.tuple xs).depth (PyData.tuple ys).depth < cLine) : RcNeAt A s a b (!PyData.eqv (.tuple xs) (.tuple ys)) := by
  cases ra with
  | @tuple l o vs n _ _ h1 h2 h3 h4 =>
    cases rb with
    | @tuple l' o' vs' n' _ _ k1 k2 k3 k4 =>
      have n1 : vs.size = xs.length := by simpa using ReadsAll.length _ _ _ h4
      have n2 : vs'.size = ys.length := by simpa using ReadsAll.length _ _ _ k4
      show RcNeAt A s (.ref l) (.ref l') (!PyData.eqvAll xs ys)
      rw [← eqvAll_eq xs ys, ← n1, ← n2]
      refine RcNeAt.tuples ⟨_, h1, h2, _, h3⟩ ⟨_, k1, k2, _, k3⟩ (room_here hu) fun j j1 j2 => ?_
      have e := eqAt_alikeAll xs ys A.in1 s vs.toList vs'.toList _ _ h4 k4 al (room_in hu) j (by simpa using j1) (by simpa using j2)
      simpa using e
theorem rcEq_lst {xs ys : List PyData} (ra : Reads s.heap a (.list xs) as) (rb : Reads s.heap b (.list ys) bs) (al : alikeAll xs ys = true) (hu : A.units + min (PyData.list xs).depth (PyData.list ys).depth < cLine) : RcAt A s a b (PyData.eqv (.list xs) (.list ys)) := by
  cases ra with
  | @list l o vs n _ _ h1 h2 h3 h4 =>
    cases rb with
    | @list l' o' vs' n' _ _ k1 k2 k3 k4 =>
      have n1 : vs.size = xs.length := by simpa using ReadsAll.length _ _ _ h4
      have n2 : vs'.size = ys.length := by simpa using ReadsAll.length _ _ _ k4
      show RcAt A s (.ref l) (.ref l') (PyData.eqvAll xs ys)
      by_cases same : vs.size = vs'.size
      · rw [← eqvAll_same_length (by omega : xs.length = ys.length), ← n1]
        refine RcAt.lists ⟨_, h1, h2, _, h3⟩ ⟨_, k1, k2, _, k3⟩ same (room_here hu) fun j j1 j2 => ?_
        have e := eqAt_alikeAll xs ys A.in1 s vs.toList vs'.toList _ _ h4 k4 al (room_in hu) j (by simpa using j1) (by simpa using j2)
        simpa using e
      · rw [eqvAll_other_length (by omega : xs.length ≠ ys.length)]
        exact RcAt.lists_lengths ⟨_, h1, h2, _, h3⟩ ⟨_, k1, k2, _, k3⟩ (by simpa using same) (room_here hu)
theorem rcNe_lst {xs ys : List PyData} (ra : Reads s.heap a (.list xs) as) (rb : Reads s.heap b (.list ys) bs) (al : alikeAll xs ys = true) (hu : A.units + min (PyData.list xs).depth (PyData.list ys).depth < cLine) : RcNeAt A s a b (!PyData.eqv (.list xs) (.list ys)) := by
  cases ra with
  | @list l o vs n _ _ h1 h2 h3 h4 =>
    cases rb with
    | @list l' o' vs' n' _ _ k1 k2 k3 k4 =>
      have n1 : vs.size = xs.length := by simpa using ReadsAll.length _ _ _ h4
      have n2 : vs'.size = ys.length := by simpa using ReadsAll.length _ _ _ k4
      show RcNeAt A s (.ref l) (.ref l') (!PyData.eqvAll xs ys)
      by_cases same : vs.size = vs'.size
      · rw [← eqvAll_same_length (by omega : xs.length = ys.length), ← n1]
        refine RcNeAt.lists ⟨_, h1, h2, _, h3⟩ ⟨_, k1, k2, _, k3⟩ same (room_here hu) fun j j1 j2 => ?_
        have e := eqAt_alikeAll xs ys A.in1 s vs.toList vs'.toList _ _ h4 k4 al (room_in hu) j (by simpa using j1) (by simpa using j2)
        simpa using e
      · rw [eqvAll_other_length (by omega : xs.length ≠ ys.length)]
        exact RcNeAt.lists_lengths ⟨_, h1, h2, _, h3⟩ ⟨_, k1, k2, _, k3⟩ (by simpa using same) (room_here hu)
end
def isNone : PyData → Bool
  | .none => true
  | _ => false
/-- the two can be compared here -/
def pairOk (x y : PyData) : Bool := alike x y && decide (min x.depth y.depth ≤ 40)
def gEq : W → W → Option W
  | .d x, .d y => if pairOk x y = true then some (wB (PyData.eqv x y)) else none
  | _, _ => none
def gNe : W → W → Option W
  | .d x, .d y => if pairOk x y = true then some (wB (!PyData.eqv x y)) else none
  | _, _ => none
def gLt : W → W → Option W
  | .d x, .d y => if (pairOk x y && !isNone x) = true then some (wB (dataLt x y)) else none
  | _, _ => none
def rOf (f : PyData → PyData → Option Bool) : R2 := fun x y H Q => ∃ d e b, Rp H x d ∧ Rp H y e ∧ f d e = some b ∧ Q (.bl b) H
theorem op2_of {f : PyData → PyData → Option Bool} {g : W → W → Option W} (h : ∀ wx wy w, g wx wy = some w → ∃ x y b, wx = .d x ∧ wy = .d y ∧ f x y = some b ∧ w = wB b) : Op2 (rOf f) g := fun fa M H x y wx wy w Q fr rx ry e k => by
  obtain ⟨dx, dy, b, rfl, rfl, e1, rfl⟩ := h wx wy w e
  exact ⟨dx, dy, b, Rp.mono (mask_sub M H) _ _ rx, Rp.mono (mask_sub M H) _ _ ry, e1, k _ H (Sub.refl H) (Rp.bl b)⟩
section
variable {X : Cx}
theorem room40 (hu : X.A.units + 64 < cLine) {x y : PyData} (h : pairOk x y = true) : alike x y = true ∧ X.A.units + min x.depth y.depth < cLine := by
  unfold pairOk at h
  rw [Bool.and_eq_true, decide_eq_true_eq] at h
  exact ⟨h.1, by omega⟩
theorem reads_of {pins : List (Addr × Obj)} {σ : Sg} {H : Hp} {s : Shared} {d : PyData} {v : V} {u : Value} (I : Inv X pins σ H s) (r : Rp H v d) (rv : RelV v u) : ∃ as, Reads s.heap u d as :=
  Dp.reads I d v u (Rp.dp (Sub.refl H) d v r) rv
def fEq (x y : PyData) : Option Bool := if pairOk x y = true then some (PyData.eqv x y) else none
def fNe (x y : PyData) : Option Bool := if pairOk x y = true then some (!PyData.eqv x y) else none
def fLt (x y : PyData) : Option Bool := if (pairOk x y && !isNone x) = true then some (dataLt x y) else none
theorem oy_eq (hu : X.A.units + 64 < cLine) : OpR X (compareOp .Eq) (rOf fEq) := by
  intro pins s σ H x y v u Q I rx ry h
  obtain ⟨d, e, b, hd, he, hb, q⟩ := h
  unfold fEq at hb
  split at hb
  · rename_i ok
    obtain ⟨al, rm⟩ := room40 hu ok
    cases hb
    obtain ⟨as, r1⟩ := reads_of I hd rx
    obtain ⟨bs, r2⟩ := reads_of I he ry
    cases d with
    | tuple xs =>
      cases e with
      | tuple ys => exact rcEq_tup r1 r2 (by simpa [alike] using al) rm X.prog X.w X.xe _ ⟨.bl _, H, I, rfl, q⟩
      | _ => exact absurd al (by simp [alike])
    | list xs =>
      cases e with
      | list ys => exact rcEq_lst r1 r2 (by simpa [alike] using al) rm X.prog X.w X.xe _ ⟨.bl _, H, I, rfl, q⟩
      | _ => exact absurd al (by simp [alike])
    | none =>
      cases e with
      | none => cases r1; cases r2; exact RcAt.none_none X.prog X.w X.xe _ ⟨.bl _, H, I, rfl, q⟩
      | _ => exact absurd al (by simp [alike])
    | bool x =>
      cases e with
      | bool y => cases r1; cases r2; exact RcAt.bool_bool x y X.prog X.w X.xe _ ⟨.bl _, H, I, rfl, q⟩
      | _ => exact absurd al (by simp [alike])
    | int x =>
      cases e with
      | int y =>
        cases r1 with
        | int _ t =>
          cases r2 with
          | int _ u => exact RcAt.int_int x t y u X.prog X.w X.xe _ ⟨.bl _, H, I, rfl, q⟩
      | _ => exact absurd al (by simp [alike])
    | str x =>
      cases e with
      | str y =>
        cases r1 with
        | str _ t =>
          cases r2 with
          | str _ u => exact RcAt.str_str x t y u X.prog X.w X.xe _ ⟨.bl _, H, I, rfl, q⟩
      | _ => exact absurd al (by simp [alike])
    | dict x => cases hd
  · cases hb
theorem oy_ne (hu : X.A.units + 64 < cLine) : OpR X (compareOp .NotEq) (rOf fNe) := by
  intro pins s σ H x y v u Q I rx ry h
  obtain ⟨d, e, b, hd, he, hb, q⟩ := h
  unfold fNe at hb
  split at hb
  · rename_i ok
    obtain ⟨al, rm⟩ := room40 hu ok
    cases hb
    obtain ⟨as, r1⟩ := reads_of I hd rx
    obtain ⟨bs, r2⟩ := reads_of I he ry
    cases d with
    | tuple xs =>
      cases e with
      | tuple ys => exact rcNe_tup r1 r2 (by simpa [alike] using al) rm X.prog X.w X.xe _ ⟨.bl _, H, I, rfl, q⟩
      | _ => exact absurd al (by simp [alike])
    | list xs =>
      cases e with
      | list ys => exact rcNe_lst r1 r2 (by simpa [alike] using al) rm X.prog X.w X.xe _ ⟨.bl _, H, I, rfl, q⟩
      | _ => exact absurd al (by simp [alike])
    | none =>
      cases e with
      | none => cases r1; cases r2; exact RcNeAt.none_none X.prog X.w X.xe _ ⟨.bl _, H, I, rfl, q⟩
      | _ => exact absurd al (by simp [alike])
    | bool x =>
      cases e with
      | bool y => cases r1; cases r2; exact RcNeAt.bool_bool x y X.prog X.w X.xe _ ⟨.bl _, H, I, rfl, q⟩
      | _ => exact absurd al (by simp [alike])
    | int x =>
      cases e with
      | int y =>
        cases r1 with
        | int _ t =>
          cases r2 with
          | int _ u => exact RcNeAt.int_int x t y u X.prog X.w X.xe _ ⟨.bl _, H, I, rfl, q⟩
      | _ => exact absurd al (by simp [alike])
    | str x =>
      cases e with
      | str y =>
        cases r1 with
        | str _ t =>
          cases r2 with
          | str _ u => exact RcNeAt.str_str x t y u X.prog X.w X.xe _ ⟨.bl _, H, I, rfl, q⟩
      | _ => exact absurd al (by simp [alike])
    | dict x => cases hd
  · cases hb
theorem oy_lt (hu : X.A.units + 64 < cLine) : OpR X (compareOp .Lt) (rOf fLt) := by
  intro pins s σ H x y v u Q I rx ry h
  obtain ⟨d, e, b, hd, he, hb, q⟩ := h
  unfold fLt at hb
  split at hb
  · rename_i ok
    rw [Bool.and_eq_true] at ok
    obtain ⟨al, rm⟩ := room40 hu ok.1
    cases hb
    obtain ⟨as, r1⟩ := reads_of I hd rx
    obtain ⟨bs, r2⟩ := reads_of I he ry
    exact rcLt_alike d e X.A s v u as bs r1 r2 al (fun z => by rw [z] at ok; exact absurd ok.2 (by decide)) rm X.prog X.w X.xe _ ⟨.bl _, H, I, rfl, q⟩
  · cases hb
theorem o2_eq : Op2 (rOf fEq) gEq := op2_of fun wx wy w e => by
  cases wx <;> cases wy <;> first | (cases e; done) | skip
  rename_i x y
  unfold gEq at e
  dsimp only at e
  split at e
  · rename_i h
    cases e
    exact ⟨x, y, _, rfl, rfl, by unfold fEq; rw [if_pos h], rfl⟩
  · cases e
theorem o2_ne : Op2 (rOf fNe) gNe := op2_of fun wx wy w e => by
  cases wx <;> cases wy <;> first | (cases e; done) | skip
  rename_i x y
  unfold gNe at e
  dsimp only at e
  split at e
  · rename_i h
    cases e
    exact ⟨x, y, _, rfl, rfl, by unfold fNe; rw [if_pos h], rfl⟩
  · cases e
theorem o2_lt : Op2 (rOf fLt) gLt := op2_of fun wx wy w e => by
  cases wx <;> cases wy <;> first | (cases e; done) | skip
  rename_i x y
  unfold gLt at e
  dsimp only at e
  split at e
  · rename_i h
    cases e
    exact ⟨x, y, _, rfl, rfl, by unfold fLt; rw [if_pos h], rfl⟩
  · cases e

/-! ### ints -/
def gI (C : Int → Int → Bool) (f : Int → Int → PyData) : W → W → Option W
  | .d (.int i), .d (.int j) => if C i j = true then some (.d (f i j)) else none
  | _, _ => none
def gAdd : W → W → Option W := gI (fun _ _ => true) fun i j => .int (i + j)
def gSub : W → W → Option W := gI (fun _ _ => true) fun i j => .int (i - j)
def gDiv : W → W → Option W := gI (fun _ j => decide (0 < j ∧ j < 1073741824)) fun i j => .int (i / j)
def gGeI : W → W → Option W := gI (fun _ _ => true) fun i j => .bool (decide (j ≤ i))
def gGtI : W → W → Option W := gI (fun _ _ => true) fun i j => .bool (decide (j < i))
def gLeI : W → W → Option W := gI (fun _ _ => true) fun i j => .bool (decide (i ≤ j))
theorem gI_some {C : Int → Int → Bool} {f : Int → Int → PyData} {wx wy w : W} (h : gI C f wx wy = some w) : ∃ i j, wx = .d (.int i) ∧ wy = .d (.int j) ∧ C i j = true ∧ w = .d (f i j) := by
  unfold gI at h
  split at h
  · split at h
    · rename_i c
      cases h
      exact ⟨_, _, rfl, rfl, c, rfl⟩
    · cases h
  · cases h
theorem o2_I0 {f : Int → Int → V} {g : Int → Int → PyData} {C : Int → Int → Bool} (hr : ∀ U i j, Rp U (f i j) (g i j)) : Op2 (rI0 f) (gI C g) := fun fa M H x y wx wy w Q fr rx ry e k => by
  obtain ⟨i, j, rfl, rfl, c, rfl⟩ := gI_some e
  cases rx
  cases ry
  exact ⟨i, j, rfl, rfl, k _ H (Sub.refl H) (hr _ i j)⟩
theorem o2_I {D : Int → Int → Prop} {f : Int → Int → V} {g : Int → Int → PyData} {C : Int → Int → Bool} (hc : ∀ i j, C i j = true → D i j) (hr : ∀ U i j, Rp U (f i j) (g i j)) : Op2 (rI D f) (gI C g) := fun fa M H x y wx wy w Q fr rx ry e k => by
  obtain ⟨i, j, rfl, rfl, c, rfl⟩ := gI_some e
  cases rx
  cases ry
  exact ⟨i, j, rfl, rfl, hc i j c, k _ H (Sub.refl H) (hr _ i j)⟩
theorem o2_add : Op2 (rI0 fun i j => .int (i + j)) gAdd := o2_I0 fun _ _ _ => .int _
theorem o2_sub : Op2 (rI0 fun i j => .int (i - j)) gSub := o2_I0 fun _ _ _ => .int _
theorem o2_div : Op2 (rI CDiv fun i j => .int (i / j)) gDiv := o2_I (fun i j h => by simpa [CDiv] using h) fun _ _ _ => .int _
theorem o2_ge : Op2 (rI0 fun i j => .bl (decide (j ≤ i))) gGeI := o2_I0 fun _ _ _ => .bl _
theorem o2_gt : Op2 (rI0 fun i j => .bl (decide (j < i))) gGtI := o2_I0 fun _ _ _ => .bl _
theorem o2_le : Op2 (rI0 fun i j => .bl (decide (i ≤ j))) gLeI := o2_I0 fun _ _ _ => .bl _
/-- names, the one not greater -/
def gLeS : W → W → Option W
  | .d (.str x), .d (.str y) => some (wB (!decide (y.cps.toList < x.cps.toList)))
  | _, _ => none
theorem o2_leS : Op2 (fun x y H Q => ∃ i j, x = .str i ∧ y = .str j ∧ Q (.bl (!decide (j.cps.toList < i.cps.toList))) H) gLeS := fun fa M H x y wx wy w Q fr rx ry e k => by
  unfold gLeS at e
  split at e
  · cases e
    cases rx
    cases ry
    exact ⟨_, _, rfl, rfl, k _ H (Sub.refl H) (Rp.bl _)⟩
  · cases e
def gNeg : W → Option W
  | .d (.int i) => some (wI (-i))
  | _ => none
theorem o1_neg : Op1 (rU fun i => .int (-i)) gNeg := fun fa M H x wx w Q fr rx e k => by
  unfold gNeg at e
  split at e
  · cases e
    cases rx
    exact ⟨_, rfl, k _ H (Sub.refl H) (Rp.int _)⟩
  · cases e

/-! ### is None -/
theorem none_dec {U : Hp} {v : V} {d : PyData} (r : Rp U v d) : decide (v = V.non) = isNone d := by
  cases r <;> simp [isNone]
def gIsN : W → W → Option W
  | .d x, .d .none => some (wB (isNone x))
  | _, _ => none
def gNotN : W → W → Option W
  | .d x, .d .none => some (wB (!isNone x))
  | _, _ => none
theorem o2_isN : Op2 (fun x y H Q => y = .non ∧ Q (.bl (decide (x = .non))) H) gIsN := fun fa M H x y wx wy w Q fr rx ry e k => by
  unfold gIsN at e
  split at e
  · cases e
    cases ry
    refine ⟨rfl, ?_⟩
    rw [none_dec rx]
    exact k _ H (Sub.refl H) (Rp.bl _)
  · cases e
theorem o2_notN : Op2 (fun x y H Q => y = .non ∧ Q (.bl (!decide (x = .non))) H) gNotN := fun fa M H x y wx wy w Q fr rx ry e k => by
  unfold gNotN at e
  split at e
  · cases e
    cases ry
    refine ⟨rfl, ?_⟩
    rw [none_dec rx]
    exact k _ H (Sub.refl H) (Rp.bl _)
  · cases e

/-! ### in, not in -/
def flatD : PyData → Bool
  | .none | .bool _ | .int _ | .str _ => true
  | _ => false
/-- each item can be held against x -/
def memOk (x : PyData) (ys : List PyData) : Bool := (flatD x && ys.all flatD) || ys.all fun y => pairOk y x
def memOf (x : PyData) (ys : List PyData) : Bool := ys.any fun y => PyData.eqv y x
def gIn : W → W → Option W
  | .d x, .d (.list ys) => if memOk x ys = true then some (wB (memOf x ys)) else none
  | .d x, .d (.tuple ys) => if memOk x ys = true then some (wB (memOf x ys)) else none
  | _, _ => none
def gNotIn : W → W → Option W
  | .d x, .d (.list ys) => if memOk x ys = true then some (wB (!memOf x ys)) else none
  | .d x, .d (.tuple ys) => if memOk x ys = true then some (wB (!memOf x ys)) else none
  | _, _ => none
def fIn (neg : Bool) (x : PyData) : PyData → Option Bool
  | .list ys => if memOk x ys = true then some (if neg then !memOf x ys else memOf x ys) else none
  | .tuple ys => if memOk x ys = true then some (if neg then !memOf x ys else memOf x ys) else none
  | _ => none
theorem flat_v {U : Hp} {v : V} {d : PyData} (r : Rp U v d) (f : flatD d = true) : flatV v = true := by
  cases r <;> first | rfl | cases f
theorem flat_eq {U : Hp} {v u : V} {d e : PyData} (r : Rp U v d) (r' : Rp U u e) (f : flatD d = true) (f' : flatD e = true) : eqV v u = PyData.eqv d e := by
  cases r <;> first | (cases f; done) | skip
  all_goals (cases r' <;> first | (cases f'; done) | rfl)
theorem flat_all {U : Hp} : ∀ {vs : List V} {ds : List PyData}, RpAll U vs ds → ds.all flatD = true → vs.all flatV = true
  | _, _, .nil, _ => rfl
  | _, _, .cons r t, f => by
    rw [List.all_cons, Bool.and_eq_true] at f ⊢
    exact ⟨flat_v r f.1, flat_all t f.2⟩
theorem flat_in {U : Hp} {v : V} {d : PyData} (r : Rp U v d) (f : flatD d = true) : ∀ {vs : List V} {ds : List PyData}, RpAll U vs ds → ds.all flatD = true → inV v vs = memOf d ds
  | _, _, .nil, _ => rfl
  | _, _, .cons r' t, f' => by
    rw [List.all_cons, Bool.and_eq_true] at f'
    have ih := flat_in r f t f'.2
    unfold inV memOf at ih ⊢
    rw [List.any_cons, List.any_cons, ih, flat_eq r' r f'.1 f]

theorem TupAt.one {U : Hp} {a : Addr} {xs ys : List V} (h : TupAt U a xs) (k : TupAt U a ys) : xs = ys := by
  rcases h with h | ⟨o, h⟩ <;> rcases k with k | ⟨o', k⟩ <;> (rw [h] at k; cases k) <;> rfl
mutual
theorem Rp.one {U : Hp} : ∀ (d e : PyData) (v : V), Rp U v d → Rp U v e → d = e
  | .none, _, _, h, k => by cases h; cases k; rfl
  | .bool b, _, _, h, k => by cases h; cases k; rfl
  | .int i, _, _, h, k => by cases h; cases k; rfl
  | .str x, _, _, h, k => by cases h; cases k; rfl
  | .list ds, _, _, h, k => by
    cases h with
    | lst h1 h2 =>
      cases k with
      | lst k1 k2 => rw [h1] at k1; cases k1; rw [RpAll.one ds _ _ h2 k2]
      | tup k1 _ k2 =>
        rcases k1 with k1 | ⟨o, k1⟩
        · rw [h1] at k1; cases k1
        · rw [h1] at k1; cases k1
  | .tuple ds, _, _, h, k => by
    cases h with
    | tup h1 _ h2 =>
      cases k with
      | tup k1 _ k2 =>
        have e := TupAt.one h1 k1
        subst e
        rw [RpAll.one ds _ _ h2 k2]
      | lst k1 k2 =>
        rcases h1 with h1 | ⟨o, h1⟩
        · rw [h1] at k1; cases k1
        · rw [h1] at k1; cases k1
  | .dict _, _, _, h, _ => by cases h
theorem RpAll.one {U : Hp} : ∀ (ds es : List PyData) (vs : List V), RpAll U vs ds → RpAll U vs es → ds = es
  | [], _, _, h, k => by cases h; cases k; rfl
  | d :: ds, _, _, h, k => by
    cases h with
    | cons h1 h2 =>
      cases k with
      | cons k1 k2 => rw [Rp.one d _ _ h1 k1, RpAll.one ds _ _ h2 k2]
end
open Classical in
/-- the answer read off a value -/
noncomputable def ansIn (H : Hp) (x : PyData) (u : Value) : Bool := decide (∃ v d, absV u = some v ∧ Rp H v d ∧ PyData.eqv d x = true)
open Classical in
theorem ansIn_of {H : Hp} {x d : PyData} {u : Value} {v : V} (rv : RelV v u) (r : Rp H v d) : ansIn H x u = PyData.eqv d x := by
  unfold ansIn
  cases e : PyData.eqv d x with
  | true => exact decide_eq_true ⟨v, d, rv.abs, r, e⟩
  | false =>
    refine decide_eq_false fun ⟨v', d', e1, r', e2⟩ => ?_
    rw [rv.abs] at e1
    cases e1
    rw [Rp.one _ _ _ r' r, e] at e2
    cases e2
theorem ans_any {H : Hp} {x : PyData} : ∀ {vs : List V} {us : List Value} {ds : List PyData}, Vals vs us → RpAll H vs ds → us.any (ansIn H x) = memOf x ds
  | _, _, _, .nil, .nil => rfl
  | _, _, _, .cons rv t, .cons r k => by
    have ih := ans_any (x := x) t k
    unfold memOf at ih ⊢
    rw [List.any_cons, List.any_cons, ih, ansIn_of rv r]
theorem ans_each {X : Cx} {pins : List (Addr × Obj)} {σ : Sg} {H : Hp} {s : Shared} {x : PyData} {vx : V} {ux : Value} (I : Inv X pins σ H s) (hx : Rp H vx x) (rx : RelV vx ux) {A : Around} (hu : A.units + 64 < cLine) :
    ∀ {vs : List V} {us : List Value} {ds : List PyData}, Vals vs us → RpAll H vs ds → (ds.all fun y => pairOk y x) = true → ∀ u, u ∈ us → SeqAt.EqAt A s u ux (ansIn H x u)
  | _, _, _, .nil, .nil, _ => fun u hu => by cases hu
  | _, _, _, .cons rv t, .cons (d := d) r k, f => fun u hu' => by
    rw [List.all_cons, Bool.and_eq_true] at f
    rcases List.mem_cons.mp hu' with rfl | hm
    · rw [ansIn_of rv r]
      obtain ⟨as, r1⟩ := reads_of I r rv
      obtain ⟨bs, r2⟩ := reads_of I hx rx
      have f1 := f.1
      unfold pairOk at f1
      rw [Bool.and_eq_true, decide_eq_true_eq] at f1
      exact eqAt_alike d x A s u ux as bs r1 r2 f1.1 (by omega)
    · exact ans_each I hx rx hu t k f.2 u hm
section
variable {X : Cx}
theorem oy_in (neg : Bool) (hu : X.A.units + 128 < cLine) : OpR X (compareOp (if neg then .NotIn else .In)) (rOf (fIn neg)) := by
  intro pins s σ H x y v u Q I rx ry h
  obtain ⟨d, e, b, hd, he, hb, q⟩ := h
  have un : X.A.in1.units + 64 < cLine := by show X.A.units + 1 + 64 < cLine; omega
  cases e with
  | list ys =>
    cases he with
    | @lst a0 zs _ h1 h2 =>
      cases ry
      simp only [fIn] at hb
      split at hb
      · rename_i ok
        cases hb
        unfold memOk at ok
        rw [Bool.or_eq_true] at ok
        rcases ok with ok | ok
        · rw [Bool.and_eq_true] at ok
          have q' : Q (.bl (if neg then !inV x zs else inV x zs)) H := by
            rw [flat_in hd ok.1 h2 ok.2]; exact q
          cases neg with
          | true => exact op_notIn_seq pins s σ H x (.ref a0) v (.ref a0) Q I rx rfl ⟨_, _, rfl, .inl (sub_seq (Sub.refl H) h1), flat_v hd ok.1, flat_all h2 ok.2, q'⟩
          | false => exact op_in_seq pins s σ H x (.ref a0) v (.ref a0) Q I rx rfl ⟨_, _, rfl, .inl (sub_seq (Sub.refl H) h1), flat_v hd ok.1, flat_all h2 ok.2, q'⟩
        · obtain ⟨its, rv, pl, hz⟩ := I.list (sub_seq (Sub.refl H) h1)
          have each := ans_each I hd rx un rv h2 ok
          have any := ans_any (x := d) rv h2
          cases neg with
          | true =>
            refine SeqAt.notIn_listAt (ansIn H d) pl.isList (fun w hw => each w (by simpa using hw)) ⟨.bl _, H, I, rfl, ?_⟩
            rw [show its.toArray.any (ansIn H d) = its.any (ansIn H d) by simp, any]
            exact q
          | false =>
            refine SeqAt.in_listAt (ansIn H d) pl.isList (fun w hw => each w (by simpa using hw)) ⟨.bl _, H, I, rfl, ?_⟩
            rw [show its.toArray.any (ansIn H d) = its.any (ansIn H d) by simp, any]
            exact q
      · cases hb
  | tuple ys =>
    cases he with
    | @tup a0 zs _ h1 _ h2 =>
      cases ry
      simp only [fIn] at hb
      split at hb
      · rename_i ok
        cases hb
        unfold memOk at ok
        rw [Bool.or_eq_true] at ok
        rcases ok with ok | ok
        · rw [Bool.and_eq_true] at ok
          have q' : Q (.bl (if neg then !inV x zs else inV x zs)) H := by
            rw [flat_in hd ok.1 h2 ok.2]; exact q
          cases neg with
          | true => exact op_notIn_seq pins s σ H x (.ref a0) v (.ref a0) Q I rx rfl ⟨_, _, rfl, .inr (sub_tup (Sub.refl H) h1), flat_v hd ok.1, flat_all h2 ok.2, q'⟩
          | false => exact op_in_seq pins s σ H x (.ref a0) v (.ref a0) Q I rx rfl ⟨_, _, rfl, .inr (sub_tup (Sub.refl H) h1), flat_v hd ok.1, flat_all h2 ok.2, q'⟩
        · obtain ⟨its, rv, pl, hz⟩ := I.tuple (sub_tup (Sub.refl H) h1)
          have each := ans_each I hd rx un rv h2 ok
          have any := ans_any (x := d) rv h2
          cases neg with
          | true =>
            refine SeqAt.notIn_tupleAt (ansIn H d) pl (fun w hw => each w (by simpa using hw)) ⟨.bl _, H, I, rfl, ?_⟩
            rw [show its.toArray.any (ansIn H d) = its.any (ansIn H d) by simp, any]
            exact q
          | false =>
            refine SeqAt.in_tupleAt (ansIn H d) pl (fun w hw => each w (by simpa using hw)) ⟨.bl _, H, I, rfl, ?_⟩
            rw [show its.toArray.any (ansIn H d) = its.any (ansIn H d) by simp, any]
            exact q
      · cases hb
  | _ => cases hb
theorem o2_in : Op2 (rOf (fIn false)) gIn := op2_of fun wx wy w e => by
  cases wx <;> cases wy <;> first | (cases e; done) | skip
  rename_i x y
  unfold gIn at e
  cases y <;> first | (cases e; done) | skip
  all_goals
    dsimp only at e
    split at e
    · rename_i h
      cases e
      exact ⟨x, _, _, rfl, rfl, by unfold fIn; dsimp only; rw [if_pos h]; rfl, rfl⟩
    · cases e
theorem o2_notIn : Op2 (rOf (fIn true)) gNotIn := op2_of fun wx wy w e => by
  cases wx <;> cases wy <;> first | (cases e; done) | skip
  rename_i x y
  unfold gNotIn at e
  cases y <;> first | (cases e; done) | skip
  all_goals
    dsimp only at e
    split at e
    · rename_i h
      cases e
      exact ⟨x, _, _, rfl, rfl, by unfold fIn; dsimp only; rw [if_pos h]; rfl, rfl⟩
    · cases e
/-- a sign in a text -/
def gInS : W → W → Option W
  | .d (.str x), .d (.str z) => if x.length = 1 then some (wB (decide (x.cps.getD 0 0 ∈ z.cps.toList))) else none
  | _, _ => none
theorem one_sign {x : Str} (h : x.length = 1) : x = ⟨#[x.cps.getD 0 0]⟩ := by
  obtain ⟨⟨l⟩⟩ := x
  match l, h with
  | [c], _ => rfl
theorem o2_inS : Op2 (fun x y H Q => ∃ (c : Nat) (z : Str), x = .str ⟨#[c]⟩ ∧ y = .str z ∧ Q (.bl (decide (c ∈ z.cps.toList))) H) gInS := fun fa M H x y wx wy w Q fr rx ry e k => by
  unfold gInS at e
  split at e
  · split at e
    · rename_i h
      cases e
      cases rx
      cases ry
      exact ⟨_, _, congrArg V.str (one_sign h), rfl, k _ H (Sub.refl H) (Rp.bl _)⟩
    · cases e
  · cases e

/-! ### sums of lists and tuples, items, slices -/
theorem small_line {n : Nat} (h : n ≤ 16777216) : n ≤ sizeLine := by rw [sizeLine_eq]; exact h
def gCatL : W → W → Option W
  | .d (.list xs), .d (.list ys) => if xs.length + ys.length ≤ lim then some (.d (.list (xs ++ ys))) else none
  | _, _ => none
theorem o2_catL : Op2 rCat gCatL := fun fa M H x y wx wy w Q fr rx ry e k => by
  unfold gCatL at e
  split at e
  · split at e
    · rename_i h
      cases e
      cases rx with
      | lst a1 a2 =>
        cases ry with
        | lst b1 b2 =>
          exact ⟨_, _, _, _, rfl, rfl, (mask_some a1).2, (mask_some b1).2, lim_ok (by rw [a2.length, b2.length]; exact h), fun p hp => k _ _ (upd_sub hp) (laid_lst (a2.append b2) hp (fr p hp))⟩
    · cases e
  · cases e
def gCatT : W → W → Option W
  | .d (.tuple xs), .d (.tuple ys) => if xs.length + ys.length ≤ lim ∧ hotM (xs ++ ys) = false then some (.d (.tuple (xs ++ ys))) else none
  | _, _ => none
theorem o2_catT {K : PySem.W.Frag} : Op2 (rCatA K) gCatT := fun fa M H x y wx wy w Q fr rx ry e k => by
  unfold gCatT at e
  split at e
  · split at e
    · rename_i h
      cases e
      cases rx with
      | tup a1 ah a2 =>
        cases ry with
        | tup b1 bh b2 =>
          refine ⟨_, _, _, _, rfl, rfl, sub_tup (mask_sub M H) a1, sub_tup (mask_sub M H) b1, lim_ok (by rw [a2.length, b2.length]; exact h.1), fun e0 => ?_, fun _ e0 => ?_, fun _ _ p hp => k _ _ (upd_sub hp) (laid_tup h.2 (a2.append b2) hp (fr p hp))⟩
          · subst e0
            cases a2
            exact k _ H (Sub.refl H) (Rp.tup b1 bh b2)
          · subst e0
            cases b2
            rw [List.append_nil] at k
            exact k _ H (Sub.refl H) (Rp.tup a1 ah a2)
    · cases e
  · cases e
def gRepL : W → W → Option W
  | .d (.list xs), .d (.int n) => if 0 ≤ n ∧ n ≤ 64 ∧ xs.length ≤ 1000 then some (.d (.list (List.replicate n.toNat xs).flatten)) else none
  | _, _ => none
theorem rep_rp {U : Hp} {vs : List V} {ds : List PyData} (h : RpAll U vs ds) : ∀ n : Nat, RpAll U (List.replicate n vs).flatten (List.replicate n ds).flatten
  | 0 => .nil
  | n + 1 => by
    rw [List.replicate_succ, List.replicate_succ, List.flatten_cons, List.flatten_cons]
    exact h.append (rep_rp h n)
theorem o2_repL : Op2 rRep gRepL := fun fa M H x y wx wy w Q fr rx ry e k => by
  unfold gRepL at e
  split at e
  · split at e
    · rename_i h
      cases e
      cases rx with
      | lst a1 a2 =>
        cases ry
        refine ⟨_, _, _, rfl, rfl, (mask_some a1).2, by omega, by omega, ?_, fun p hp => k _ _ (upd_sub hp) (laid_lst (rep_rp a2 _) hp (fr p hp))⟩
        rw [a2.length]
        refine Nat.le_trans (Nat.mul_le_mul h.2.2 (show _ ≤ 64 by omega)) ?_
        rw [sizeLine_eq]
        decide
    · cases e
  · cases e

def gIx : W → W → Option W
  | .d (.list xs), .d (.int i) => if 0 ≤ i then (xs[i.toNat]?).map .d else none
  | .d (.tuple xs), .d (.int i) => if 0 ≤ i then (xs[i.toNat]?).map .d else none
  | _, _ => none
theorem o2_ix {K : PySem.W.Frag} : Op2 (rIx K) gIx := fun fa M H x y wx wy w Q fr rx ry e k => by
  unfold gIx at e
  split at e
  · split at e
    · rename_i h
      cases rx with
      | lst a1 a2 =>
        cases ry
        rename_i xs i _ _
        cases e1 : xs[i.toNat]? with
        | none => rw [e1] at e; cases e
        | some d =>
          rw [e1] at e
          cases e
          obtain ⟨v, h1, h2⟩ := a2.get e1
          exact .inl ⟨_, _, _, v, rfl, rfl, sub_seq (mask_sub M H) a1, at_of (j := i.toNat) (by omega) h1, k v H (Sub.refl H) h2⟩
    · cases e
  · split at e
    · rename_i h
      cases rx with
      | @tup _ vs _ a1 a3 a2 =>
        cases ry
        rename_i xs i _
        cases e1 : xs[i.toNat]? with
        | none => rw [e1] at e; cases e
        | some d =>
          rw [e1] at e
          cases e
          obtain ⟨v, h1, h2⟩ := a2.get e1
          exact .inr (.inl ⟨_, _, _, v, rfl, rfl, sub_tup (mask_sub M H) a1, at_of (j := i.toNat) (by omega) h1, k v H (Sub.refl H) h2⟩)
    · cases e
  · cases e
end
end
end Y
end KLayC
section KLayD
set_option Elab.async false
set_option linter.all false
set_option maxRecDepth 100000
set_option maxHeartbeats 4000000
/-! The layer's built-ins. -/
namespace Y
open PySem PySem.Spec PySem.SeqAt PyProof.Rows L2
open PySem.W (alike alikeAll dataLt eqAt_alike eqAt_alikeAll rcLt_alike)

/-! ### slices -/
abbrev MO := En → Fd → Option (Option Int × Fd)
def rdO (C : Cq) (m : MO) : TO := fun σ H Q => ∃ M ρ f o f', EnvOk C M σ H ρ f ∧ m ρ f = some (o, f') ∧ ∀ H', Grow C.fa H H' → FeedAt C.fa H' f' → Q o H'
def oNo : MO := fun _ f => some (none, f)
def oAt (a : ME) : MO := fun ρ f => (a ρ f).bind fun p => match p.1 with
  | .d (.int i) => some (some i, p.2)
  | _ => none
def cutD (xs : List PyData) (lo hi : Option Int) : List PyData := (xs.drop (HT.sIx xs.length 0 lo)).take (HT.sIx xs.length xs.length hi - HT.sIx xs.length 0 lo)
def gSl (w : W) (lo hi : Option Int) : Option W := match w with
  | .d (.list xs) => some (.d (.list (cutD xs lo hi)))
  | .d (.tuple xs) => if hotM (cutD xs lo hi) = false then some (.d (.tuple (cutD xs lo hi))) else none
  | _ => none
def mSl (a : ME) (lo hi : MO) : ME := fun ρ f => (a ρ f).bind fun p => (lo ρ p.2).bind fun l => (hi ρ l.2).bind fun h => (gSl p.1 l.1 h.1).map fun w => (w, h.2)
theorem cut_rp {U : Hp} {vs : List V} {ds : List PyData} (r : RpAll U vs ds) (lo hi : Option Int) : RpAll U (cutV vs lo hi) (cutD ds lo hi) := by
  unfold cutV cutD
  rw [r.length]
  exact (r.drop _).take _
theorem cut_whole {xs : List PyData} {lo hi : Option Int} (h : HT.sIx xs.length 0 lo = 0 ∧ HT.sIx xs.length xs.length hi = xs.length) : cutD xs lo hi = xs := by
  unfold cutD
  rw [h.1, h.2]
  simp
section
variable {X : Cx} {C : Cq} {e : Expr} {lo hi : Option Expr} {ma : ME} {ml mh : MO} {pos p2 : Pos}
theorem yo_no : PO X none (rdO C oNo) := ⟨fun pins s σ H Q I ⟨M, ρ, f, o, f', J, q, k⟩ => by
  cases q
  exact po_none.run pins s σ H _ I (k H (Grow.refl _ _) J.feed)⟩
theorem yo_at (h : PE X e (rdE C ma)) : PO X (some e) (rdO C (oAt ma)) := ⟨fun pins s σ H Q I ⟨M, ρ, f, o, f', J, q, k⟩ => by
  refine (po_some h).run pins s σ H _ I ?_
  unfold oAt at q
  cases e1 : ma ρ f with
  | none => rw [e1] at q; cases q
  | some z =>
    obtain ⟨w1, f1⟩ := z
    rw [e1] at q
    simp only [Option.bind_some] at q
    split at q
    · cases q
      refine ⟨M, ρ, f, _, _, J, e1, fun v H1 g1 d1 r1 => ?_⟩
      cases r1
      exact ⟨_, rfl, k H1 g1 d1⟩
    · cases q⟩
def rSlY (K : PySem.W.Frag) : V → Option Int → Option Int → Hp → VK → Prop := fun x lo hi H Q => rSlA K x lo hi H Q ∨ rSlL K x lo hi H Q
theorem ye_slice (he : PE X e (rdE C ma)) (hl : PO X lo (rdO C ml)) (hu : PO X hi (rdO C mh)) : PE X (.Subscript e (.Slice lo hi none p2) pos) (rdE C (mSl ma ml mh)) :=
  PE.mono (pe_slice (SlR.or sl_tupA sl_list) he hl hu) fun σ H Q ⟨M, ρ, f, w, f', I, q, k⟩ => by
    unfold mSl at q
    cases e1 : ma ρ f with
    | none => rw [e1] at q; cases q
    | some z =>
      obtain ⟨w1, f1⟩ := z
      rw [e1] at q
      simp only [Option.bind_some] at q
      cases e2 : ml ρ f1 with
      | none => rw [e2] at q; cases q
      | some z2 =>
        obtain ⟨l, f2⟩ := z2
        rw [e2] at q
        simp only [Option.bind_some] at q
        cases e3 : mh ρ f2 with
        | none => rw [e3] at q; cases q
        | some z3 =>
          obtain ⟨h, f3⟩ := z3
          rw [e3] at q
          simp only [Option.bind_some] at q
          cases e4 : gSl w1 l h with
          | none => rw [e4] at q; cases q
          | some w2 =>
            rw [e4] at q
            cases q
            refine ⟨M, ρ, f, w1, f1, I, e1, fun v H1 g1 d1 r1 => ⟨M, ρ, f1, l, f2, I.grow g1 d1, e2, fun H2 g2 d2 => ⟨M, ρ, f2, h, _, (I.grow g1 d1).grow g2 d2, e3, fun H3 g3 d3 => ?_⟩⟩⟩
            have I3 := ((I.grow g1 d1).grow g2 d2).grow g3 d3
            have r3 := r1.mono ((g2.trans g3).mask I.hid)
            have gg := (g1.trans g2).trans g3
            unfold gSl at e4
            split at e4
            · cases e4
              cases r3 with
              | lst a1 a2 =>
                exact .inr ⟨_, _, rfl, sub_seq (mask_sub M H3) a1, fun p hp => k _ _ (gg.trans (Grow.of_sub (upd_sub hp))) (d3.sub (upd_sub hp)) (laid_lst (cut_rp a2 _ _) hp (I3.fresh hp))⟩
            · split at e4
              · rename_i hot
                cases e4
                cases r3 with
                | tup a1 ah a2 =>
                  refine .inl ⟨_, _, rfl, sub_tup (mask_sub M H3) a1, fun wh => ?_, fun _ p hp => k _ _ (gg.trans (Grow.of_sub (upd_sub hp))) (d3.sub (upd_sub hp)) (laid_tup hot (cut_rp a2 _ _) hp (I3.fresh hp))⟩
                  rw [a2.length] at wh
                  refine k _ H3 gg d3 ?_
                  rw [cut_whole wh]
                  exact Rp.tup a1 ah a2
              · cases e4
            · cases e4
end

/-! ### len, tuple, list, all, any, max, sorted of names -/
def gLen : List W → Option W
  | [.d (.list xs)] => some (wI xs.length)
  | [.d (.tuple xs)] => some (wI xs.length)
  | [.d (.str x)] => if x.length ≤ lim then some (wI x.length) else none
  | _ => none
theorem rws_one {fa : Addr} {U : Hp} {vs : List V} {w : W} (h : Rws fa U vs [w]) : ∃ v, vs = [v] ∧ Rw fa U v w := by
  cases h with
  | cons r t => cases t; exact ⟨_, rfl, r⟩
theorem on_len {K : PySem.W.Frag} : OpN (fun xs H Q => ∃ x n, xs = [x] ∧ LenV K x H n ∧ Q (.int n) H) gLen := fun fa M H xs ws w Q fr r e k => by
  unfold gLen at e
  split at e
  · cases e
    obtain ⟨v, rfl, r1⟩ := rws_one r
    cases r1 with
    | lst a1 a2 => exact ⟨_, _, rfl, .inl ⟨_, sub_seq (mask_sub M H) a1, a2.length.symm⟩, k _ H (Sub.refl H) (Rp.int _)⟩
  · cases e
    obtain ⟨v, rfl, r1⟩ := rws_one r
    cases r1 with
    | tup a1 _ a2 => exact ⟨_, _, rfl, .inr ⟨_, sub_tup (mask_sub M H) a1, a2.length.symm⟩, k _ H (Sub.refl H) (Rp.int _)⟩
  · split at e
    · rename_i h
      cases e
      obtain ⟨v, rfl, r1⟩ := rws_one r
      cases r1
      exact ⟨_, _, rfl, ⟨lim_ok h, rfl⟩, k _ H (Sub.refl H) (Rp.int _)⟩
    · cases e
  · cases e
def gTuple : List W → Option W
  | [.d (.list xs)] => if hotM xs = false then some (.d (.tuple xs)) else none
  | [.d (.tuple xs)] => some (.d (.tuple xs))
  | _ => none
theorem on_tuple {K : PySem.W.Frag} : OpN (fun xs H Q => ∃ p ys, xs = [.ref p] ∧ ((SqL K H p ys ∧ ∀ l, H l = none → Q (.ref l) (upd H l (.tup ys))) ∨ (SqT K H p ys ∧ Q (.ref p) H))) gTuple := fun fa M H xs ws w Q fr r e k => by
  unfold gTuple at e
  split at e
  · split at e
    · rename_i hot
      cases e
      obtain ⟨v, rfl, r1⟩ := rws_one r
      cases r1 with
      | lst a1 a2 => exact ⟨_, _, rfl, .inl ⟨sub_seq (mask_sub M H) a1, fun l hl => k _ _ (upd_sub hl) (laid_tup hot a2 hl (fr l hl))⟩⟩
    · cases e
  · cases e
    obtain ⟨v, rfl, r1⟩ := rws_one r
    cases r1 with
    | tup a1 ah a2 => exact ⟨_, _, rfl, .inr ⟨sub_tup (mask_sub M H) a1, k _ H (Sub.refl H) (Rp.tup a1 ah a2)⟩⟩
  · cases e
def gList : List W → Option W
  | [.d (.list xs)] => some (.d (.list xs))
  | [.d (.tuple xs)] => some (.d (.list xs))
  | _ => none
theorem on_list {K : PySem.W.Frag} : OpN (fun xs H Q => ∃ p ys, xs = [.ref p] ∧ (SqL K H p ys ∨ SqT K H p ys) ∧ ∀ l, H l = none → Q (.ref l) (upd H l (.lst ys))) gList := fun fa M H xs ws w Q fr r e k => by
  unfold gList at e
  split at e
  · cases e
    obtain ⟨v, rfl, r1⟩ := rws_one r
    cases r1 with
    | lst a1 a2 => exact ⟨_, _, rfl, .inl (sub_seq (mask_sub M H) a1), fun l hl => k _ _ (upd_sub hl) (laid_lst a2 hl (fr l hl))⟩
  · cases e
    obtain ⟨v, rfl, r1⟩ := rws_one r
    cases r1 with
    | tup a1 _ a2 => exact ⟨_, _, rfl, .inr (sub_tup (mask_sub M H) a1), fun l hl => k _ _ (upd_sub hl) (laid_lst a2 hl (fr l hl))⟩
  · cases e
def boolsOf : List PyData → Option (List Bool)
  | [] => some []
  | .bool b :: ds => (boolsOf ds).map (b :: ·)
  | _ :: _ => none
def intsOf : List PyData → Option (List Int)
  | [] => some []
  | .int b :: ds => (intsOf ds).map (b :: ·)
  | _ :: _ => none
def strsOf : List PyData → Option (List Str)
  | [] => some []
  | .str b :: ds => (strsOf ds).map (b :: ·)
  | _ :: _ => none
theorem bools_rp {U : Hp} : ∀ {vs : List V} {ds : List PyData} {bs : List Bool}, RpAll U vs ds → boolsOf ds = some bs → vs = bs.map V.bl
  | _, _, _, .nil, h => by cases h; rfl
  | _, .bool b :: ds, _, .cons r t, h => by
    unfold boolsOf at h
    cases e : boolsOf ds with
    | none => rw [e] at h; cases h
    | some bs => rw [e] at h; cases h; cases r; rw [bools_rp t e]; rfl
  | _, .none :: _, _, .cons _ _, h | _, .int _ :: _, _, .cons _ _, h | _, .str _ :: _, _, .cons _ _, h | _, .list _ :: _, _, .cons _ _, h | _, .tuple _ :: _, _, .cons _ _, h | _, .dict _ :: _, _, .cons _ _, h => by unfold boolsOf at h; cases h
theorem ints_rp {U : Hp} : ∀ {vs : List V} {ds : List PyData} {bs : List Int}, RpAll U vs ds → intsOf ds = some bs → vs = bs.map V.int
  | _, _, _, .nil, h => by cases h; rfl
  | _, .int b :: ds, _, .cons r t, h => by
    unfold intsOf at h
    cases e : intsOf ds with
    | none => rw [e] at h; cases h
    | some bs => rw [e] at h; cases h; cases r; rw [ints_rp t e]; rfl
  | _, .none :: _, _, .cons _ _, h | _, .bool _ :: _, _, .cons _ _, h | _, .str _ :: _, _, .cons _ _, h | _, .list _ :: _, _, .cons _ _, h | _, .tuple _ :: _, _, .cons _ _, h | _, .dict _ :: _, _, .cons _ _, h => by unfold intsOf at h; cases h
theorem strs_rp {U : Hp} : ∀ {vs : List V} {ds : List PyData} {bs : List Str}, RpAll U vs ds → strsOf ds = some bs → vs = bs.map V.str
  | _, _, _, .nil, h => by cases h; rfl
  | _, .str b :: ds, _, .cons r t, h => by
    unfold strsOf at h
    cases e : strsOf ds with
    | none => rw [e] at h; cases h
    | some bs => rw [e] at h; cases h; cases r; rw [strs_rp t e]; rfl
  | _, .none :: _, _, .cons _ _, h | _, .bool _ :: _, _, .cons _ _, h | _, .int _ :: _, _, .cons _ _, h | _, .list _ :: _, _, .cons _ _, h | _, .tuple _ :: _, _, .cons _ _, h | _, .dict _ :: _, _, .cons _ _, h => by unfold strsOf at h; cases h
theorem rp_strs (U : Hp) : ∀ xs : List Str, RpAll U (xs.map V.str) (xs.map PyData.str)
  | [] => .nil
  | x :: xs => .cons (.str x) (rp_strs U xs)
def gAll : List W → Option W
  | [.d (.list xs)] => (boolsOf xs).map fun bs => wB (bs.all id)
  | _ => none
def gAny : List W → Option W
  | [.d (.list xs)] => (boolsOf xs).map fun bs => wB (bs.any id)
  | _ => none
theorem on_all {K : PySem.W.Frag} : OpN (rAll K) gAll := fun fa M H xs ws w Q fr r e k => by
  unfold gAll at e
  split at e
  · rename_i ds
    cases e1 : boolsOf ds with
    | none => rw [e1] at e; cases e
    | some bs =>
      rw [e1] at e
      cases e
      obtain ⟨v, rfl, r1⟩ := rws_one r
      cases r1 with
      | lst a1 a2 =>
        rw [bools_rp a2 e1] at a1
        exact ⟨_, bs, rfl, sub_seq (mask_sub M H) a1, k _ H (Sub.refl H) (Rp.bl _)⟩
  · cases e
theorem on_any {K : PySem.W.Frag} : OpN (rAny K) gAny := fun fa M H xs ws w Q fr r e k => by
  unfold gAny at e
  split at e
  · rename_i ds
    cases e1 : boolsOf ds with
    | none => rw [e1] at e; cases e
    | some bs =>
      rw [e1] at e
      cases e
      obtain ⟨v, rfl, r1⟩ := rws_one r
      cases r1 with
      | lst a1 a2 =>
        rw [bools_rp a2 e1] at a1
        exact ⟨_, bs, rfl, sub_seq (mask_sub M H) a1, k _ H (Sub.refl H) (Rp.bl _)⟩
  · cases e
def maxOf : List Int → Int
  | [] => 0
  | [x] => x
  | x :: xs => if x ≤ maxOf xs then maxOf xs else x
theorem maxOf_spec : ∀ ns : List Int, 0 < ns.length → maxOf ns ∈ ns ∧ ∀ y, y ∈ ns → y ≤ maxOf ns
  | [], h => absurd h (by decide)
  | [x], _ => ⟨List.mem_singleton.mpr rfl, fun y hy => by rw [List.mem_singleton.mp hy]; exact Int.le_refl _⟩
  | x :: z :: xs, _ => by
    obtain ⟨h1, h2⟩ := maxOf_spec (z :: xs) (Nat.succ_pos _)
    show (if x ≤ maxOf (z :: xs) then maxOf (z :: xs) else x) ∈ _ ∧ ∀ y, y ∈ x :: z :: xs → y ≤ (if x ≤ maxOf (z :: xs) then maxOf (z :: xs) else x)
    split
    · rename_i c
      refine ⟨List.mem_cons_of_mem _ h1, fun y hy => ?_⟩
      cases List.mem_cons.mp hy with
      | inl e => rw [e]; exact c
      | inr m => exact h2 y m
    · rename_i c
      refine ⟨List.mem_cons_self, fun y hy => ?_⟩
      cases List.mem_cons.mp hy with
      | inl e => rw [e]; exact Int.le_refl _
      | inr m => have := h2 y m; omega
def gMax : List W → Option W
  | [.d (.list xs)] => (intsOf xs).bind fun ns => if 0 < ns.length then some (wI (maxOf ns)) else none
  | _ => none
theorem on_max {K : PySem.W.Frag} : OpN (rMax K) gMax := fun fa M H xs ws w Q fr r e k => by
  unfold gMax at e
  split at e
  · rename_i ds
    cases e1 : intsOf ds with
    | none => rw [e1] at e; cases e
    | some ns =>
      rw [e1] at e
      simp only [Option.bind_some] at e
      split at e
      · rename_i c
        cases e
        obtain ⟨v, rfl, r1⟩ := rws_one r
        cases r1 with
        | lst a1 a2 =>
          rw [ints_rp a2 e1] at a1
          refine ⟨_, ns, rfl, sub_seq (mask_sub M H) a1, c, fun m hm hb => ?_⟩
          obtain ⟨m1, m2⟩ := maxOf_spec ns c
          have : m = maxOf ns := Int.le_antisymm (m2 m hm) (hb _ m1)
          rw [this]
          exact k _ H (Sub.refl H) (Rp.int _)
      · cases e
  · cases e

/-! ### isinstance -/
def tyName : PyData → String
  | .none => "NoneType"
  | .bool _ => "bool"
  | .int _ => "int"
  | .str _ => "str"
  | .list _ => "list"
  | .tuple _ => "tuple"
  | .dict _ => "dict"
def isTy (T : String) (d : PyData) : Option Bool := match T, d with
  | "int", .int _ => some true
  | "int", .bool _ => some true
  | "int", .str _ => some false
  | "int", .tuple _ => some false
  | "int", .none => some false
  | "bool", .bool _ => some true
  | "bool", .int _ => some false
  | "str", .str _ => some true
  | "str", .tuple _ => some false
  | "str", .int _ => some false
  | "tuple", .tuple _ => some true
  | "tuple", .str _ => some false
  | "tuple", .int _ => some false
  | _, _ => none
theorem isTy_kit {T : String} {d : PyData} {b : Bool} (h : isTy T d = some b) : kitB (tyName d) T = some b := by
  unfold isTy at h
  split at h <;> first | (cases h; done) | (cases h; dsimp only [tyName]; decide +kernel)
theorem rp_ty {K : PySem.W.Frag} {H : Hp} {v : V} {d : PyData} (r : Rp H v d) : TyX K H v (.type (tyName d)) := by
  cases r with
  | non => exact .base .non
  | bl b => exact .base (.bl b)
  | int i => exact .base (.int i)
  | str x => exact .base (.str x)
  | lst h1 h2 => exact .base (.lst h1)
  | tup h1 _ h2 =>
    rcases h1 with h1 | ⟨o, h1⟩
    · exact .base (.tup h1)
    · exact .fTuple h1
def gIs (T : String) : W → Option W
  | .d x => (isTy T x).map wB
  | _ => none
section
variable {X : Cx} {C : Cq} {e : Expr} {ma : ME} {p pos pT : Pos} {x : Str} {T : String}
theorem ye_isinst (ha : PE X e (rdE C ma)) (hT : PE X (.Name x pT) (tC (.ty T))) (hg : Gl X "isinstance") (hm : X.mg "isinstance" = none)
    (hs1 : starEach (e :: [.Name x pT]) X.env = (false, eval e X.env) :: starEach [.Name x pT] X.env := by rfl) (hs2 : starEach [.Name x pT] X.env = (false, eval (.Name x pT) X.env) :: starEach [] X.env := by rfl)
    (hpl : (backTo pos (starEach [.Name x pT] X.env)).any (·.1) = false := by rfl) :
    PE X (.Call (.Name "isinstance" p) [e, .Name x pT] [] pos) (rdE C (m1 (gIs T) ma)) :=
  PE.mono (pe_callB call_isi hg hm (by decide +kernel) (pa_cons ha (pa_cons hT pa_nil hs2) hs1) (he := hs1) (hpl := hpl)) fun σ H Q ⟨M, ρ, f, w, f', I, q, k⟩ => by
    obtain ⟨wx, e1, e3⟩ := m1_some q
    refine ⟨M, ρ, f, wx, f', I, e1, fun v1 H1 g1 d1 r1 => ?_⟩
    unfold gIs at e3
    split at e3
    · rename_i d
      cases e4 : isTy T d with
      | none => rw [e4] at e3; cases e3
      | some b =>
        rw [e4] at e3
        cases e3
        exact ⟨v1, .ty T, _, _, b, rfl, .ty T, rp_ty (Rp.mono (mask_sub M H1) _ _ r1), kit_ty (isTy_kit e4), k _ H1 g1 d1 (Rp.bl b)⟩
    · cases e3
theorem ye_callB {id : String} {es : List Expr} {ms : MA} {r : List V → Hp → VK → Prop} {g : List W → Option W} (hc : CallR X (.builtin id) r) (h : OpN r g) (hg : Gl X x) (hm : X.mg x = none) (hv : bootBuiltins x = some (.builtin id)) (ha : PA X (e :: es) (rdA C ms))
    (hn : x ≠ "__name__" := by decide) (hdb : (x == ("__debug__" : Str)) = false := by decide)
    (he : starEach (e :: es) X.env = (false, eval e X.env) :: starEach es X.env := by rfl) (hpl : (backTo pos (starEach es X.env)).any (·.1) = false := by rfl) : PE X (.Call (.Name x p) (e :: es) [] pos) (rdE C (mArgs g ms)) :=
  PE.mono (pe_callB hc hg hm hv ha hn hdb he hpl) fun _ _ _ q => tCB_mArgs h q
theorem ye_callTy {es : List Expr} {ms : MA} {r : List V → Hp → VK → Prop} {g : List W → Option W} (hc : CallR X (.type T) r) (h : OpN r g) (hg : Gl X x) (hm : X.mg x = none) (hv : bootBuiltins x = some (.type T)) (ha : PA X (e :: es) (rdA C ms))
    (hn : x ≠ "__name__" := by decide) (hdb : (x == ("__debug__" : Str)) = false := by decide)
    (he : starEach (e :: es) X.env = (false, eval e X.env) :: starEach es X.env := by rfl) (hpl : (backTo pos (starEach es X.env)).any (·.1) = false := by rfl) : PE X (.Call (.Name x p) (e :: es) [] pos) (rdE C (mArgs g ms)) :=
  PE.mono (pe_callTy hc hg hm hv ha hn hdb he hpl) fun _ _ _ q => tCB_mArgs h q
end
end Y
end KLayD
section KLayE
set_option Elab.async false
set_option linter.all false
set_option maxRecDepth 100000
set_option maxHeartbeats 4000000
/-! sorted(set(..)), sorted(names), repr, tables. -/
namespace XS
open PySem PySem.Spec PySem.W PySem.SeqAt PyProof.Rows L2
section
variable {P : Program} {w : World} {A : Around} {E : Value → Shared → Prop} {s : Shared}
def encX (k : List Str) : PyData := .tuple (k.map .str)
theorem reads_strs {h : Heap} : ∀ {k : List Str} {vs : List Value}, ItemsAre (strKind P w) k vs → ∃ as, ReadsAll h vs (k.map .str) as
  | _, _, .nil => ⟨_, .nil⟩
  | _, _, .cons h1 t => by
    obtain ⟨as, r⟩ := reads_strs t
    obtain ⟨tk, rfl⟩ := Value.isStrOf_shape h1
    exact ⟨_, .cons (.str _ _) r⟩
theorem key_reads {h : Heap} {k : List Str} {a : Addr} (x : XKey P w h k a) : ∃ as, Reads h (.ref a) (encX k) as := by
  obtain ⟨o, its, n, h1, h2, h3, h4⟩ := x
  obtain ⟨as, r⟩ := reads_strs (h := h) h4
  exact ⟨_, .tuple h1 h2 h3 r⟩
theorem alike_strs : ∀ k l : List Str, alikeAll (k.map .str) (l.map .str) = true
  | [], [] => by simp [alikeAll]
  | [], _ :: _ => by simp [alikeAll]
  | _ :: _, [] => by simp [alikeAll]
  | _ :: k, _ :: l => by simp [alikeAll, alike, alike_strs k l]
theorem encX_alike (k l : List Str) : alike (encX k) (encX l) = true := by simp [encX, alike, alike_strs]
theorem depth_strs : ∀ k : List Str, PyData.depthAll (k.map .str) = 0
  | [] => rfl
  | _ :: k => by simp [PyData.depthAll, PyData.depth, depth_strs k]
theorem encX_depth (k : List Str) : (encX k).depth = 1 := by simp [encX, PyData.depth, depth_strs]
theorem lt_strs : ∀ k l : List Str, PyProof.Rows.lexLt itemOrd (keyToksAll (k.map .str)) (keyToksAll (l.map .str)) = M.tLt k l
  | [], [] => by simp [keyToksAll, M.tLt, lex_irrefl]
  | [], y :: l => by
    simp only [List.map_nil, List.map_cons, toks_all_cons, M.tLt]
    simp only [keyToksAll]
    rw [lex_diff (O := itemOrd) (by simp)]
    simp [itemLt]
  | x :: k, [] => by
    simp only [List.map_nil, List.map_cons, toks_all_cons, M.tLt]
    simp only [keyToksAll]
    rw [lex_diff (O := itemOrd) (by simp)]
    simp [itemLt]
  | x :: k, y :: l => by
    have al : alike (.str x) (.str y) = true := by simp [alike]
    rw [List.map_cons, List.map_cons]
    unfold M.tLt
    by_cases e : x = y
    · rw [if_pos e, dataLt_all_yes al (by simp [PyData.eqv, e]), lt_strs k l]
    · rw [if_neg e, dataLt_all_no al (by simp [PyData.eqv, e]), dataLt_str]
      rfl
theorem encX_lt (k l : List Str) : dataLt (encX k) (encX l) = M.tLt k l := by
  unfold encX
  rw [dataLt_tuple, lt_strs]

theorem nd_inj {α β : Type} {f : α → β} : ∀ {l : List α} {a b : α}, (l.map f).Nodup → a ∈ l → b ∈ l → f a = f b → a = b
  | [], _, _, _, h, _, _ => by cases h
  | x :: l, a, b, n, ha, hb, e => by
    rw [List.map_cons, List.nodup_cons] at n
    rcases List.mem_cons.mp ha with ea | ma
    · rcases List.mem_cons.mp hb with eb | mb
      · rw [ea, eb]
      · exact absurd (List.mem_map.mpr ⟨b, mb, by rw [← e, ea]⟩) n.1
    · rcases List.mem_cons.mp hb with eb | mb
      · exact absurd (List.mem_map.mpr ⟨a, ma, by rw [e, eb]⟩) n.1
      · exact nd_inj n.2 ma mb e
/-- sorted(the set at q) -/
theorem sorted_set_x {q : Addr} {ps : List XRow} {en : Array (Int × Value)} {ec : Nat} {tb : SetTable} {Q : Value → Shared → Prop} (T : XTab P w s.heap q ps en ec tb) (hh : A.handled = none) (hu : A.units + 64 < cLine)
    (hQ : ∀ s' p (out : Array Value) (c : Nat) (ps' : List XRow), (∀ b o, s.heap.get? b = some o → s'.heap.get? b = some o) → s'.gens = s.gens → s'.os = s.os → s.heap.objs.size ≤ p →
      s'.heap.get? p = some (seqObj "list" out c) → out.toList = ps'.map (fun z => Value.ref z.1) → (∀ z, z ∈ ps' → z ∈ ps) → ps'.map Prod.snd = M.sortU (ps.map Prod.snd) → Q (.ref p) s') :
    wpAny (model P w) A (call (.builtin "sorted") [.ref q]) Q E s := by
  obtain ⟨ob, hq, hex, hd⟩ := T.at_
  have esz := rows_size T.ent
  have few := T.few
  refine Calls.call_function_entry kind_sorted plain_sorted entry_sorted (args_sorted1 _) ?_
  unfold Builtin.«sorted»
  refine wpAny_bind (m := checkCount "sorted" 1 1 _) (wpAny_pure ?_)
  refine wpAny_bind (collect_set (A := A.in1) hh ⟨ob, hq, hex.1, hd⟩ T.fit (by unfold scanBound; omega) T.tab.ris T.led fun s1 vs k1 z1 g1 o1 pm => ?_)
  have ees : en.toList.map Prod.snd = ps.map fun z => Value.ref z.1 := by
    rw [T.ent, xRows, List.map_map]
    rfl
  rw [ees] at pm
  -- the rows in the order of the walk
  have walk : ∀ us : List Value, (∀ u, u ∈ us → ∃ z, z ∈ ps ∧ u = Value.ref z.1) → ∃ zs : List XRow, us = zs.map (fun z => Value.ref z.1) ∧ ∀ z, z ∈ zs → z ∈ ps := by
    intro us
    induction us with
    | nil => intro _; exact ⟨[], rfl, fun z hz => by cases hz⟩
    | cons u us ih =>
      intro hu'
      obtain ⟨z, hz, e⟩ := hu' u List.mem_cons_self
      obtain ⟨zs, e1, h1⟩ := ih fun v hv => hu' v (List.mem_cons_of_mem _ hv)
      refine ⟨z :: zs, by rw [List.map_cons, e, e1], fun y hy => ?_⟩
      cases List.mem_cons.mp hy with
      | inl e2 => rw [e2]; exact hz
      | inr m => exact h1 y m
  obtain ⟨zs, evs, hzs⟩ := walk vs fun u hu' => by
    obtain ⟨z, hz, e⟩ := List.mem_map.mp (pm.mem_iff.mp hu')
    exact ⟨z, hz, e.symm⟩
  have vlen : vs.length = ps.length := by rw [pm.length_eq, List.length_map]
  have zlen : zs.length = ps.length := by rw [← vlen, evs, List.length_map]
  refine wpAny_bind (wpAny_newList ?_ (by rw [sizeLine_eq]; omega))
  have hl : (s1.heap.push (seqObj "list" vs.toArray 0)).get? s1.heap.objs.size = some (seqObj "list" vs.toArray 0) := Heap.get?_push_size _ rfl
  have old : ∀ b o, s.heap.get? b = some o → (sortingHeap (s1.heap.push (seqObj "list" vs.toArray 0)) s1.heap.objs.size vs).get? b = some o := fun b o e => by
    have e2 := k1 b o e
    exact sortingHeap_old (Nat.ne_of_lt (Heap.lt_size e2)) (Heap.get?_push_of_some _ e2)
  have each : EachIs (fun v (z : XRow) => v = Value.ref z.1 ∧ z ∈ ps) vs zs := by
    rw [evs]
    clear evs vlen zlen
    induction zs with
    | nil => exact .nil
    | cons z zs ih => exact .cons ⟨rfl, hzs z List.mem_cons_self⟩ (ih fun y hy => hzs y (List.mem_cons_of_mem _ hy))
  have eachR : EachIs (fun v (z : XRow) => ∃ as, Reads (sortingHeap (s1.heap.push (seqObj "list" vs.toArray 0)) s1.heap.objs.size vs) v (encX z.2) as) vs zs :=
    each.mono fun v z ⟨e, hz⟩ => by
      rw [e]
      exact key_reads (key_keep (T.key z hz) old)
  have hal : AllAlike (zs.map fun z => encX z.2) := AllAlike.of fun z y => encX_alike z.2 y.2
  have eachD := each_map (R := fun v d => ∃ as, Reads (sortingHeap (s1.heap.push (seqObj "list" vs.toArray 0)) s1.heap.objs.size vs) v d as) (fun z : XRow => encX z.2) eachR
  have S : SortsAt P w A.in1.in1 { s1 with heap := sortingHeap (s1.heap.push (seqObj "list" vs.toArray 0)) s1.heap.objs.size vs } (dataKind (sortingHeap (s1.heap.push (seqObj "list" vs.toArray 0)) s1.heap.objs.size vs) (zs.map fun z => encX z.2)) vs :=
    sorts_tups (s := { s1 with heap := sortingHeap (s1.heap.push (seqObj "list" vs.toArray 0)) s1.heap.objs.size vs }) eachD hal (fun d hd => by obtain ⟨z, _, rfl⟩ := List.mem_map.mp hd; exact ⟨_, rfl⟩) (fun d hd => by
      obtain ⟨z, _, rfl⟩ := List.mem_map.mp hd
      rw [encX_depth]
      show A.units + 1 + 1 + 1 < cLine
      omega)
  refine wpAny_bind (wpAny_holding (wpAny_call_entry slot_list_sort ⟨_, hl, rfl⟩ entry_list_sort (list_sort_vals (s := { s1 with heap := s1.heap.push (seqObj "list" vs.toArray 0) }) (κ := dataKind (sortingHeap (s1.heap.push (seqObj "list" vs.toArray 0)) s1.heap.objs.size vs) (zs.map fun z => encX z.2)) hl S (by rw [vlen, sizeLine_eq]; omega) ⟨.none, rfl, ?_⟩) (args_list_sort _)))
  have fin := sortVals_data false each eachR hal
  generalize sortVals (dataKind (sortingHeap (s1.heap.push (seqObj "list" vs.toArray 0)) s1.heap.objs.size vs) (zs.map fun z => encX z.2)) false vs vs = outv at fin
  obtain ⟨c, hc⟩ := sortedHeap_at (vs := vs) (out := outv.toArray) hl
  have eout : outv = (zs.mergeSort (dataLe false fun z : XRow => encX z.2)).map fun z => Value.ref z.1 := by
    clear hc
    generalize zs.mergeSort (dataLe false fun z : XRow => encX z.2) = ys at fin
    induction fin with
    | nil => rfl
    | cons h _ ih => rw [List.map_cons, ← h.1, ← ih]
  have perm := List.mergeSort_perm zs (dataLe false fun z : XRow => encX z.2)
  have tot : ∀ a b : XRow, (dataLe false fun z : XRow => encX z.2) a b = !M.tLt b.2 a.2 := fun a b => by
    rw [dataLe_eq]
    show (!dataLt (encX b.2) (encX a.2)) = _
    rw [encX_lt]
  -- no key stands twice
  have zref : ∀ y, y ∈ zs → ∀ z, z ∈ zs → y.1 = z.1 → y = z := fun y hy z hz e => by
    have a1 := T.key y (hzs y hy)
    have a2 := T.key z (hzs z hz)
    rw [e] at a1
    exact Prod.ext e (a1.inj a2)
  have psnd : (ps.map fun z => Value.ref z.1).Nodup := by
    have n1 : ps.Nodup := nodup_of_map T.dif
    refine List.pairwise_map.mpr (n1.imp_of_mem fun {y z} hy hz ne e => ?_)
    injection e with e
    have a1 := T.key y hy
    have a2 := T.key z hz
    rw [e] at a1
    exact ne (Prod.ext e (a1.inj a2))
  have zsub : ∀ z, z ∈ ps → z ∈ zs := fun z hz => by
    have m : Value.ref z.1 ∈ vs := pm.mem_iff.mpr (List.mem_map.mpr ⟨z, hz, rfl⟩)
    rw [evs] at m
    obtain ⟨y, hy, e⟩ := List.mem_map.mp m
    injection e with e
    have a1 := T.key y (hzs y hy)
    have a2 := T.key z hz
    rw [e] at a1
    rw [show z = y from Prod.ext e.symm (a2.inj a1)]
    exact hy
  have znd : (zs.map Prod.snd).Nodup := by
    have n0 : vs.Nodup := pm.nodup_iff.mpr psnd
    rw [evs] at n0
    have n1 : zs.Nodup := nodup_of_map n0
    refine List.pairwise_map.mpr (n1.imp_of_mem fun {y z} hy hz ne e => ?_)
    exact ne (nd_inj T.dif (hzs y hy) (hzs z hz) e)
  have pw : ((zs.mergeSort (dataLe false fun z : XRow => encX z.2)).map Prod.snd).Pairwise M.LtT := by
    have tl : TotalLe (dataLe false fun z : XRow => encX z.2) := by
      refine ⟨fun a b c h1 h2 => ?_, fun a b => ?_⟩
      rotate_left
      · rw [tot, tot]
        cases e : M.tLt b.2 a.2 with
        | false => exact .inl rfl
        | true => rw [M.tLt_asymm e]; exact .inr rfl
      · rw [tot] at h1 h2 ⊢
        rw [Bool.not_eq_true'] at h1 h2 ⊢
        cases e : M.tLt c.2 a.2 with
        | false => rfl
        | true =>
          cases e2 : M.tLt a.2 b.2 with
          | true => have := M.tLt_trans e e2; rw [h2] at this; cases this
          | false => have q := M.tLt_tri e2 h1; rw [q] at e; rw [h2] at e; cases e
    have p0 := sort_pairwise tl zs
    have nd : ((zs.mergeSort (dataLe false fun z : XRow => encX z.2)).map Prod.snd).Nodup := (perm.map Prod.snd).nodup_iff.mpr znd
    refine List.pairwise_map.mpr ?_
    rw [List.Nodup, List.pairwise_map] at nd
    refine (p0.and nd).imp fun {a b} ⟨h1, h2⟩ => ?_
    rw [tot, Bool.not_eq_true'] at h1
    cases e : M.tLt a.2 b.2 with
    | true => exact e
    | false => exact absurd (M.tLt_tri e h1) h2
  refine wpAny_pure ⟨_, rfl, hQ _ s1.heap.objs.size outv.toArray c (zs.mergeSort (dataLe false fun z : XRow => encX z.2)) (fun b o e => ?_) g1 o1 z1 hc (by simpa using eout) (fun z hz => hzs z (perm.mem_iff.mp hz)) (M.sortU_one pw fun k => ?_)⟩
  · have e2 := k1 b o e
    show (sortedHeap (s1.heap.push (seqObj "list" vs.toArray 0)) s1.heap.objs.size vs outv.toArray).get? b = some o
    rw [sortedHeap_old (Nat.ne_of_lt (Heap.lt_size e2)) (by rw [size_push']; exact Nat.lt_succ_of_lt (Heap.lt_size e2))]
    exact Heap.get?_push_of_some _ e2
  · rw [(perm.map Prod.snd).mem_iff]
    constructor
    · intro m
      obtain ⟨z, hz, rfl⟩ := List.mem_map.mp m
      exact List.mem_map.mpr ⟨z, hzs z hz, rfl⟩
    · intro m
      obtain ⟨z, hz, rfl⟩ := List.mem_map.mp m
      exact List.mem_map.mpr ⟨z, zsub z hz, rfl⟩
end
end XS

namespace Y
open PySem PySem.Spec PySem.SeqAt PyProof.Rows L2 XS
open PySem.W (alike alikeAll dataLt eqAt_alike eqAt_alikeAll rcLt_alike)

/-! ### sorted(set(xs)) -/
def keyOf : PyData → Option (List Str)
  | .tuple xs => strsOf xs
  | _ => none
def keysOf : List PyData → Option (List (List Str))
  | [] => some []
  | d :: ds => (keyOf d).bind fun k => (keysOf ds).map (k :: ·)
def gSortSet (w : W) : Option W := (items w).bind fun ds => (keysOf ds).bind fun ks => if (M.sortU ks).length < 63 then some (.d (.list ((M.sortU ks).map encX))) else none
theorem strs_back : ∀ {ds : List PyData} {xs : List Str}, strsOf ds = some xs → ds = xs.map .str
  | [], _, h => by cases h; rfl
  | .str b :: ds, _, h => by
    unfold strsOf at h
    cases e : strsOf ds with
    | none => rw [e] at h; cases h
    | some bs => rw [e] at h; cases h; rw [strs_back e]; rfl
  | .none :: _, _, h | .bool _ :: _, _, h | .int _ :: _, _, h | .list _ :: _, _, h | .tuple _ :: _, _, h | .dict _ :: _, _, h => by unfold strsOf at h; cases h
theorem keys_rp {U : Hp} : ∀ {vs : List V} {ds : List PyData} {ks : List (List Str)}, RpAll U vs ds → keysOf ds = some ks →
    ∃ zs : List XRow, vs = zs.map (fun z => V.ref z.1) ∧ zs.map Prod.snd = ks ∧ ∀ z, z ∈ zs → TupAt U z.1 (z.2.map V.str)
  | _, _, _, .nil, h => by cases h; exact ⟨[], rfl, rfl, fun z hz => by cases hz⟩
  | _, d :: ds, _, .cons r t, h => by
    unfold keysOf at h
    cases e1 : keyOf d with
    | none => rw [e1] at h; cases h
    | some k =>
      rw [e1] at h
      simp only [Option.bind_some] at h
      cases e2 : keysOf ds with
      | none => rw [e2] at h; cases h
      | some ks =>
        rw [e2] at h
        cases h
        obtain ⟨zs, rfl, rfl, h3⟩ := keys_rp t e2
        unfold keyOf at e1
        split at e1
        · cases r with
          | @tup a xs _ a1 _ a2 =>
            have e3 := strs_rp a2 e1
            subst e3
            refine ⟨(a, k) :: zs, rfl, rfl, fun z hz => ?_⟩
            cases List.mem_cons.mp hz with
            | inl e => rw [e]; exact a1
            | inr m => exact h3 z m
        · cases e1
theorem xkey_of {X : Cx} {pins : List (Addr × Obj)} {σ : Sg} {H : Hp} {s : Shared} (I : Inv X pins σ H s) {a : Addr} {k : List Str} (h : TupAt H a (k.map V.str)) : XKey X.prog X.w s.heap k a := by
  obtain ⟨its, r, ⟨o, ho, hc, n, hd⟩, _⟩ := I.tuple (sub_tup (K := X.K) (Sub.refl H) h)
  refine ⟨o, its.toArray, n, ho, hc, hd, ?_⟩
  have : ∀ {k : List Str} {us : List Value}, Vals (k.map V.str) us → ItemsAre (strKind X.prog X.w) k us := by
    intro k
    induction k with
    | nil => intro us h; cases h; exact .nil
    | cons x k ih =>
      intro us h
      cases h with
      | cons h1 h2 =>
        obtain ⟨t, rfl⟩ := h1
        exact .cons (strKind_is X.prog X.w x t) (ih h2)
  simpa using this r
theorem refs_vals : ∀ {zs : List XRow} {us : List Value}, Vals (zs.map fun z => V.ref z.1) us → us = zs.map fun z => Value.ref z.1
  | [], _, .nil => rfl
  | _ :: _, _, .cons r t => by cases r; rw [refs_vals t]; rfl
theorem vals_refs : ∀ zs : List XRow, Vals (zs.map fun z => V.ref z.1) (zs.map fun z => Value.ref z.1)
  | [] => .nil
  | _ :: zs => .cons rfl (vals_refs zs)
theorem hot_strs : ∀ k : List Str, hotM (k.map .str) = false
  | [] => rfl
  | [_] => rfl
  | [_, _] => rfl
  | _ :: _ :: _ :: _ => rfl
theorem rows_rp {U : Hp} : ∀ {zs : List XRow}, (∀ z, z ∈ zs → TupAt U z.1 (z.2.map V.str)) → RpAll U (zs.map fun z => V.ref z.1) ((zs.map Prod.snd).map encX)
  | [], _ => .nil
  | z :: zs, h => .cons (.tup (h z List.mem_cons_self) (hot_no (hot_strs z.2)) (rp_strs U z.2)) (rows_rp fun y hy => h y (List.mem_cons_of_mem _ hy))

section
variable {X : Cx} {C : Cq} {a : Expr} {ma : ME} {p p2 pos pos2 : Pos}
theorem ye_sortSet (ha : PE X a (rdE C ma)) (hc : X.calm = true) (hu : X.A.units + 128 < cLine) (hg : Gl X "sorted") (hm : X.mg "sorted" = none) (hg2 : Gl X "set") (hm2 : X.mg "set" = none)
    (he : starEach [a] X.env = [(false, eval a X.env)] := by rfl)
    (he2 : starEach [.Call (.Name "set" p2) [a] [] pos2] X.env = [(false, eval (.Call (.Name "set" p2) [a] [] pos2) X.env)] := by rfl) :
    PE X (.Call (.Name "sorted" p) [.Call (.Name "set" p2) [a] [] pos2] [] pos) (rdE C (m1 gSortSet ma)) := by
  refine ⟨fun pins s σ H Q I ⟨Mk, ρ, f, w, f', J, q, k⟩ => ?_⟩
  obtain ⟨wx, e1, e3⟩ := m1_some q
  refine wpAny_Call_Name_kw (ld_blt I hg hm (show bootBuiltins "sorted" = some (.builtin "sorted") by decide +kernel) ?_)
  refine PyProof.Rows.callWith_builtin1 (rest := []) ?_ he2 rfl
  rw [he2]
  show wpAny _ _ (spliced ((false, eval (.Call (.Name "set" p2) [a] [] pos2) X.env) :: [])) _ _ s
  refine Calls.spliced_cons (wpAny_Call_Name_kw (ld_blt I hg2 hm2 (show bootBuiltins "set" = some (.type "set") by decide +kernel) ?_))
  refine PyProof.Rows.callWith_type1 (rest := []) ?_ he rfl
  refine thn ((ya_cons ha ya_nil he).run pos2 pins s σ H (fun vs H1 => ∃ v, vs = [v] ∧ Grow C.fa H H1 ∧ FeedAt C.fa H1 f' ∧ Rw C.fa (mask Mk H1) v wx) I ⟨Mk, ρ, f, [wx], f', J, by unfold mCons mNil; rw [e1]; rfl, fun vs H1 g1 d1 r1 => ?_⟩) fun us s1 ⟨vs, H1, I1, r1, v, ev, g1, d1, rw1⟩ => ?_
  · obtain ⟨v, rfl, r⟩ := rws_one r1
    exact ⟨v, rfl, g1, d1, r⟩
  subst ev
  obtain ⟨u, rfl, ru⟩ := vals1 r1
  have J1 := J.grow g1 d1
  unfold gSortSet at e3
  cases ei : items wx with
  | none => rw [ei] at e3; cases e3
  | some ds =>
    rw [ei] at e3
    simp only [Option.bind_some] at e3
    cases ek : keysOf ds with
    | none => rw [ek] at e3; cases e3
    | some ks =>
      rw [ek] at e3
      simp only [Option.bind_some] at e3
      split at e3
      · rename_i few
        cases e3
        obtain ⟨l, vs, rfl, hl, rr⟩ := items_of ei rw1
        cases ru
        obtain ⟨zs, rfl, rfl, hz⟩ := keys_rp rr ek
        have keys : ∀ z, z ∈ zs → XKey X.prog X.w s1.heap z.2 z.1 := fun z m => xkey_of I1 ((hz z m).mono (mask_sub Mk H1))
        have src : Src s1.heap l zs := by
          rcases hl with hl | hl
          · obtain ⟨its, rv, pl, _⟩ := I1.list (sub_seq (mask_sub Mk H1) hl)
            exact ⟨its.toArray, .inl pl.isList, by simpa using refs_vals rv⟩
          · obtain ⟨its, rv, pl, _⟩ := I1.tuple (sub_tup (mask_sub Mk H1) hl)
            exact ⟨its.toArray, .inr pl, by simpa using refs_vals rv⟩
        have isFew : Few zs := fun ps nd sub => by
          have := M.nodup_le nd (b := M.sortU (zs.map Prod.snd)) fun k hk => by
            obtain ⟨z, hz, rfl⟩ := List.mem_map.mp hk
            exact (M.sortU_mem _ _).mpr (List.mem_map.mpr ⟨z, sub z hz, rfl⟩)
          rw [List.length_map] at this
          omega
        refine call_set_x zs (I1.ok.hd hc) src keys isFew (by omega) fun h' tk ps en ec tb T g kp => ?_
        have I2 : Inv X pins σ H1 { s1 with heap := h', toks := tk } := I1.kept kp
        refine Calls.spliced_nil ?_
        refine sorted_set_x (s := { s1 with heap := h', toks := tk }) T (I1.ok.hd hc) (by omega) fun s' p out c ps' kp' hg' ho' hp hob hout sub hk => ?_
        have hn : H1 p = none := I2.hok.fresh hp
        have lenl : (ps'.map fun z => V.ref z.1).length ≤ sizeLine := by
          have e5 : ps'.length = (M.sortU (ps.map Prod.snd)).length := by rw [← hk, List.length_map]
          have : (M.sortU (ps.map Prod.snd)).length = (M.sortU (zs.map Prod.snd)).length := by
            rw [M.sortU_same (l := zs.map Prod.snd) fun k => ⟨fun m => ?_, fun m => ?_⟩]
            · obtain ⟨z, hz, rfl⟩ := List.mem_map.mp m
              exact List.mem_map.mpr ⟨z, List.mem_of_mem_take (g.old z hz), rfl⟩
            · obtain ⟨z, hz, rfl⟩ := List.mem_map.mp m
              exact g.all z (by rw [List.take_length]; exact hz)
          rw [List.length_map, sizeLine_eq]
          omega
        have hv : Vals (ps'.map fun z => V.ref z.1) out.toList := by rw [hout]; exact vals_refs ps'
        have I3 : Inv X pins σ (upd H1 p (.lst (ps'.map fun z => V.ref z.1))) { s1 with heap := s'.heap, gens := s'.gens, drawn := s'.drawn, toks := s'.toks } :=
          Inv.call (s := { s1 with heap := h', toks := tk }) (ch := []) I2 (Un.laid (h := h') kp' hp hn) (I2.hok.laid kp' hp ⟨lenl, out.toList, c, hv, hob⟩) (by rw [hg']; exact I2.bare) (fun _ z => nomatch z)
        have es : s' = { s1 with heap := s'.heap, gens := s'.gens, drawn := s'.drawn, toks := s'.toks } := by
          cases s'
          cases s1
          cases ho'
          rfl
        rw [es]
        have eks : ps'.map Prod.snd = M.sortU (zs.map Prod.snd) := by
          rw [hk]
          refine M.sortU_same fun k => ⟨fun m => ?_, fun m => ?_⟩
          · obtain ⟨z, hz, rfl⟩ := List.mem_map.mp m
            exact List.mem_map.mpr ⟨z, List.mem_of_mem_take (g.old z hz), rfl⟩
          · obtain ⟨z, hz, rfl⟩ := List.mem_map.mp m
            exact g.all z (by rw [List.take_length]; exact hz)
        refine ⟨.ref p, _, I3, rfl, k _ _ (g1.trans (Grow.of_sub (upd_sub hn))) (d1.sub (upd_sub hn)) ?_⟩
        rw [← eks]
        exact laid_lst (rows_rp fun z m => hz z (List.mem_of_mem_take (g.old z (sub z m)))) hn (J1.fresh hn)
      · cases e3
end
end Y
end KLayE
section KEnum
set_option Elab.async false
set_option linter.all false
set_option maxRecDepth 100000
set_option maxHeartbeats 4000000
/-! enumerate(a tuple). -/
namespace XE
open PySem PySem.Spec PyProof.Rows
open Sem (wp)
set_option maxHeartbeats 1000000 in
theorem meets_enumerate_newB1 {v : Value} {o : Obj} {H : Heap → Prop} (B : Begins v o H) :
    Meets (Builtin.«enumerate.__new__» ⟨[.type "enumerate", v], []⟩) (fun _ R s => H s.heap ∧
      R (.ok (.ret (.ref (s.heap.push o).objs.size))) { s with heap := (s.heap.push o).push { cls := .type "enumerate", data := .fields #[.none, .bool false, .ref s.heap.objs.size, rawInt 0, .none, .none] } }) :=
  .of_wp fun prog w A R s h => by
    obtain ⟨hp, g, d, tk, os⟩ := s; obtain ⟨h1, h⟩ := h
    have hsub := sub_enumerate
    have q1 : ∀ {A' : Around} {E : Value → Shared → Prop} {Q : Value → Shared → Prop}, Q (.ref hp.objs.size) ⟨hp.push o, g, d, tk, os⟩ → wpAny (model prog w) A' (pyIter v) Q E ⟨hp, g, d, tk, os⟩ :=
      fun q => B.iter prog w _ _ ⟨hp, g, d, tk, os⟩ _ h1 q
    wp_walk using q1
    refine wpAny_stack_any fun st => wpAny_pure ?_
    split
    · rename_i c _ _ _ _ _
      cases (c == Value.type "enumerate")
      · wp_walk using q1
        exact ⟨_, rfl, h⟩
      · wp_walk using q1
        exact ⟨_, rfl, h⟩
    · wp_walk using q1
      exact ⟨_, rfl, h⟩
section
variable {prog : Program} {w : World} {A : Around} {E : Value → Shared → Prop} {s : Shared}
theorem enum_begins1 {v : Value} {o : Obj} {H : Heap → Prop} {Q : Value → Shared → Prop} (B : Begins v o H) (h1 : H s.heap)
    (h : ∀ h', IsEnum h' (s.heap.objs.size + 1) s.heap.objs.size 0 .none → h'.get? s.heap.objs.size = some o → h'.objs.size = s.heap.objs.size + 2 →
      (∀ b o, s.heap.get? b = some o → h'.get? b = some o) → Q (.ref (s.heap.objs.size + 1)) { s with heap := h' }) :
    wpAny (model prog w) A (call (.type "enumerate") [v]) Q E s := by
  refine callType_new F.called_enumerate (by decide) (F.typeCall_enumerate_1 _) (F.newCall_enumerate_1 _) (fun obj => F.args_object_init_2 obj _) F.entry_enumerate_new
    (meets_enumerate_newB1 B) ⟨h1, ?_⟩
  have hz : (s.heap.push o).objs.size = s.heap.objs.size + 1 := Heap.size_push ..
  show _ ∧ _
  rw [hz]
  have he : IsEnum ((s.heap.push o).push { cls := .type "enumerate", data := .fields #[.none, .bool false, .ref s.heap.objs.size, rawInt 0, .none, .none] }) (s.heap.objs.size + 1) s.heap.objs.size 0 .none := by
    have := Heap.get?_push_size (s.heap.push o) (o := { cls := .type "enumerate", data := .fields #[.none, .bool false, .ref s.heap.objs.size, rawInt 0, .none, .none] }) rfl
    rw [hz] at this; exact this
  refine ⟨⟨_, he, rfl⟩, h _ he (Heap.get?_push_of_some _ (Heap.get?_push_size _ B.free)) (by rw [Heap.size_push, hz]) fun b o x => Heap.get?_push_of_some _ (Heap.get?_push_of_some _ x)⟩
end
end XE

namespace Y
open PySem PySem.Spec PyProof.Rows L2
def IteT (K : PySem.W.Frag) (a : Addr) : It :=
  ⟨fun i H => ∃ (xs : List V) (x : V), SqT K H a xs ∧ xs[i]? = some x, fun i H v H' => ∃ T x, v = .ref T ∧ H T = none ∧ H' = upd H T (.tup [.int (i : Nat), x]) ∧ ∀ xs, SqT K H a xs → xs[i]? = some x, fun i H => ∃ xs : List V, SqT K H a xs ∧ xs.length ≤ i⟩
theorem turn_enumT {P : Program} {w : World} {K : PySem.W.Frag} {elts : List Expr} {kk : Nat} {tpos : Pos} (a e it : Addr) :
    Turn P w K (.Tuple elts kk tpos) (IteT K a) [e, it] e (fun i h => (∃ old, IsEnum h e it ((i : Nat) : Int) old) ∧ h.IsTupleIter it a i ∧ e ≠ it ∧ a ≠ it ∧ a ≠ e) where
  mem := by simp
  obj := fun i h st b hb => by
    obtain ⟨⟨old, he⟩, ⟨o, ho, hc, hd⟩, _⟩ := st
    have e' : b = e ∨ b = it := by simpa using hb
    rcases e' with z | z
    · rw [z]; exact ⟨_, he, fun v q => nomatch q⟩
    · rw [z]; exact ⟨o, ho, fun v q => by rw [hd] at q; cases q⟩
  keep := fun i h h' st k => let ⟨⟨old, he⟩, hi, hne⟩ := st; ⟨⟨old, k e (by simp) _ he⟩, hi.at fun o q => k it (by simp) o q, hne⟩
  item := by
    intro X hP hw hK hc i pins s σ H E I hf st hg
    subst hP hw hK
    obtain ⟨⟨old, he⟩, hit, hne, hai, hae⟩ := st
    obtain ⟨xs, x, hq, hx⟩ := hg
    obtain ⟨its, rv, p, hz⟩ := I.tuple hq
    obtain ⟨u, hu, ru⟩ := rv.get hx
    have hel : e < s.heap.objs.size := Heap.lt_size he
    have hil : it < s.heap.objs.size := by obtain ⟨_, q, _⟩ := hit; exact Heap.lt_size q
    have hlt : i < its.toArray.size := by
      have := (List.getElem?_eq_some_iff.mp hu).1
      simpa using this
    have pt : s.heap.IsTuple a its.toArray := p
    have DT : Draws X.prog X.w X.A.in1 it [it, a] its.toArray.size (fun i v => its.toArray[i]? = some v) (fun i h => h.IsTupleIter it a i ∧ h.IsTuple a its.toArray) := Draws.tuple (show X.A.in1.handled = none from I.ok.hd hc) it a hai its.toArray
    refine wpAny_pyNext_enum_itemD DT he ⟨hit, pt⟩ hlt hne (by simp [hne, Ne.symm hae]) fun x' h' tk hP ho hst hT hsz hk => ?_
    have ex : x' = u := by
      have : its.toArray[i]? = some x' := hP
      rw [List.getElem?_toArray, hu] at this
      exact (Option.some.inj this).symm
    subst ex
    refine ⟨_, rfl, wpAny_letOwnedTupleGo_enum (s := { s with heap := h', toks := tk + 1 }) ho fun h'' he' sb => ?_⟩
    have hT2 : h''.get? s.heap.objs.size = some { cls := .type "tuple", data := .seq #[.int i tk, x'] } := (sb.2 _ (Nat.ne_of_gt hel)).trans hT
    have new : ObjOk X.prog X.w (upd H s.heap.objs.size (.tup [.int (i : Nat), x])) h'' s.heap.objs.size (.tup [.int (i : Nat), x]) :=
      ⟨by show 2 ≤ sizeLine; decide, [.int i tk, x'], .cons ⟨_, rfl⟩ (.cons ru .nil), ⟨_, hT2, rfl, _, rfl⟩⟩
    have I1 : Inv X pins σ (upd H s.heap.objs.size (.tup [.int (i : Nat), x])) { s with heap := h'', toks := tk + 1 } :=
      I.turnedNew (ch := [e, it]) (fun b ob hb q => (sb.2 b (fun z => hb (by simp [z]))).trans (hk b ob (fun z => hb (by simp [z])) (fun z => hb (by simp [z])) q)) hf (Nat.le_refl _) new
    refine ⟨.ref s.heap.objs.size, _, I1, rfl, ⟨_, x, rfl, I.hok.fresh (Nat.le_refl _), rfl, fun ys hy => by rw [I.tuple_inj hy hq]; exact hx⟩, ⟨⟨x', ?_⟩, hst.1.at fun o q => (sb.2 it (Ne.symm hne)).trans q, hne, hai, hae⟩, fun b hb => ?_⟩
    · have e1 : ((i + 1 : Nat) : Int) = (i : Int) + 1 := by omega
      rw [e1]; exact he'
    · have hb' : b < s.heap.objs.size := by
        have e' : b = e ∨ b = it := by simpa using hb
        rcases e' with z | z
        · rw [z]; exact hel
        · rw [z]; exact hil
      rw [upd_ne (Nat.ne_of_lt hb')]
      exact (hf b hb).1
  done := by
    intro X hP hw hK hc i pins s σ H E I hf st hg
    subst hP hw hK
    obtain ⟨⟨old, he⟩, hit, hne, hai, hae⟩ := st
    obtain ⟨xs, hq, hx⟩ := hg
    obtain ⟨its, rv, p, hz⟩ := I.tuple hq
    obtain ⟨f0, f1, f2, f3, f4, f5⟩ := hf it (by simp)
    have hl := rv.length
    have pt : s.heap.IsTuple a its.toArray := p
    unfold pyNext
    have hT : s.TypeIs (.ref e) "enumerate" := ⟨_, he, rfl⟩
    refine wpAny_bind (wpAny_attempt (wpAny_callSpecial?_slot (name := Str.ofString "__next__") hT F.slot_enumerate_next
      (wpAny_call_entry F.slot_enumerate_next hT F.entry_enumerate_next ?_ (F.args_enumerate_next_1 _))))
    show wpAny _ _ (field (.ref e) 2 >>= _) _ _ _
    refine wpAny_bind (wpAny_field he rfl (x := .ref it) rfl ?_)
    refine wpAny_bind (wpAny_nextOf_tuple_end (I.ok.hd hc) hit pt (by simp; omega) fun h' x he' hx' => ?_)
    obtain ⟨o, ho, hc'⟩ := hx'
    refine wpAny_bind (wpAny_isInstance (T := "StopIteration") (b := true) ⟨o, ho, hc'⟩ isSubtype_stop ?_)
    exact wpAny_pure ⟨rfl, I.turned (t' := s.toks) (fun b o hb q => he' b o hb q) f0 f1 f3 f4 f5⟩
  self := fun A i s Q E st h => let ⟨⟨_, he⟩, _⟩ := st; wpAny_pyIter_enum he h
def iEnumT (K : PySem.W.Frag) (ta : TA) : TI := fun σ H R => ta σ H fun vs H1 => ∃ a xs, vs = [.ref a] ∧ SqT K H1 a xs ∧ R (IteT K a) H1
theorem pi_enumT {X : Cx} {e : Expr} {ta : TA} {p pos tpos : Pos} {elts : List Expr} {kk : Nat} (hg : Gl X "enumerate") (hm : X.mg "enumerate" = none) (ha : PA X [e] ta) (hs : starEach [e] X.env = [(false, eval e X.env)] := by rfl) :
    PI X (.Tuple elts kk tpos) (.Call (.Name "enumerate" p) [e] [] pos) (iEnumT X.K ta) := by
  refine ⟨fun pins s σ H R I h => ?_⟩
  refine Call_ (ld_blt I hg hm boot_enumerate (PyProof.Rows.callWith_type1 (thn (ha.run pos pins s σ H _ I h) fun us s1 ⟨vs, H1, I1, r1, q1⟩ => ?_) hs rfl))
  obtain ⟨a, xs, ex, hq, q⟩ := q1
  subst ex
  cases r1 with
  | cons r rr =>
    cases rr
    cases r
    obtain ⟨its, rv, p', hz⟩ := I1.tuple hq
    have la : a < s1.heap.objs.size := p'.lt
    have pt : s1.heap.IsTuple a its.toArray := p'
    refine XE.enum_begins1 (begins_tuple a its.toArray) pt fun h' he hit hsz hk => wpAny_pyIter_enum he ?_
    have I2 : Inv X pins σ H1 { s1 with heap := h' } := I1.kept (t' := s1.toks) hk
    refine ⟨s1.heap.objs.size + 1, [s1.heap.objs.size + 1, s1.heap.objs.size], _, _, H1, rfl, I2, turn_enumT a (s1.heap.objs.size + 1) s1.heap.objs.size, ⟨⟨.none, he⟩, ⟨_, hit, rfl, rfl⟩, Nat.succ_ne_self _, Nat.ne_of_lt la, Nat.ne_of_lt (Nat.lt_succ_of_lt la)⟩, fun b hb => ?_, q⟩
    have e' : b = s1.heap.objs.size + 1 ∨ b = s1.heap.objs.size := by simpa using hb
    have hle : s1.heap.objs.size ≤ b := by
      rcases e' with z | z
      · rw [z]; exact Nat.le_add_right _ _
      · rw [z]; exact Nat.le_refl _
    exact I1.fpOk hle (I1.hok.fresh hle)
end Y
end KEnum
section KLayF
set_option Elab.async false
set_option linter.all false
set_option maxRecDepth 100000
set_option maxHeartbeats 4000000
/-! The layer: what is walked, what is stored to, list comprehensions. -/
namespace Y
open PySem PySem.Spec PyProof.Rows L2

/-! ### what is walked -/
abbrev MI := En → Fd → Option (List W × Fd)
abbrev MG := W → En → Option En
structure Wk (fa : Addr) (U : Hp) (J : It) (ws : List W) : Prop where
  go : ∀ i H, Sub U H → i < ws.length → J.go i H
  yld : ∀ i H x H' w, Sub U H → J.yld i H x H' → ws[i]? = some w → Sub H H' ∧ ∀ Mk, Sub U (mask Mk H) → (∀ p, H p = none → Mk p = false) → Rw fa (mask Mk H') x w
  stop : ∀ H, Sub U H → J.stop ws.length H
def rdI (C : Cq) (m : MI) : TI := fun σ H R => ∃ M ρ f ws f', EnvOk C M σ H ρ f ∧ m ρ f = some (ws, f') ∧ ∀ J H', Grow C.fa H H' → FeedAt C.fa H' f' → Wk C.fa (mask M H') J ws → R J H'
def walkOf : W → Option (List W)
  | .d (.list xs) => some (xs.map W.d)
  | .d (.tuple xs) => some (xs.map W.d)
  | .d (.str x) => some (x.cps.toList.map fun c => W.d (.str ⟨#[c]⟩))
  | _ => none
def mIt (a : ME) : MI := fun ρ f => (a ρ f).bind fun p => (walkOf p.1).map fun ws => (ws, p.2)
theorem wk_list {K : PySem.W.Frag} {fa : Addr} {U : Hp} {a : Addr} {vs : List V} {ds : List PyData} (h : U a = some (.lst vs)) (r : RpAll U vs ds) : Wk fa U (Itl K a) (ds.map W.d) where
  go := fun i H s hi => by
    have hv : i < vs.length := by rw [r.length]; simpa using hi
    exact ⟨vs, vs[i], sub_seq s h, by simp [hv]⟩
  yld := fun i H x H' w s ⟨e, y⟩ hw => by
    subst e
    obtain ⟨d, e1, rd⟩ := r.getv (y vs (sub_seq s h))
    rw [List.getElem?_map, e1] at hw
    cases hw
    exact ⟨Sub.refl _, fun Mk sb _ => Rp.mono sb _ _ rd⟩
  stop := fun H s => ⟨vs, sub_seq s h, by rw [r.length]; simp⟩
theorem wk_tup {K : PySem.W.Frag} {fa : Addr} {U : Hp} {a : Addr} {vs : List V} {ds : List PyData} (h : TupAt U a vs) (r : RpAll U vs ds) : Wk fa U (Itt K a) (ds.map W.d) where
  go := fun i H s hi => by
    have hv : i < vs.length := by rw [r.length]; simpa using hi
    exact ⟨vs, vs[i], sub_tup s h, by simp [hv]⟩
  yld := fun i H x H' w s ⟨e, y⟩ hw => by
    subst e
    obtain ⟨d, e1, rd⟩ := r.getv (y vs (sub_tup s h))
    rw [List.getElem?_map, e1] at hw
    cases hw
    exact ⟨Sub.refl _, fun Mk sb _ => Rp.mono sb _ _ rd⟩
  stop := fun H s => ⟨vs, sub_tup s h, by rw [r.length]; simp⟩
theorem wk_str {fa : Addr} {U : Hp} (x : Str) : Wk fa U (Its x) (x.cps.toList.map fun c => W.d (.str ⟨#[c]⟩)) where
  go := fun i H s hi => by
    show i < x.cps.size
    simpa using hi
  yld := fun i H v H' w s ⟨e, c, hc, ev⟩ hw => by
    subst e ev
    rw [List.getElem?_map, Array.getElem?_toList, hc] at hw
    cases hw
    exact ⟨Sub.refl _, fun Mk sb _ => Rp.str _⟩
  stop := fun H s => by
    show x.cps.size ≤ _
    simp
section
variable {X : Cx} {C : Cq} {tg e e2 : Expr} {ma : ME} {ms : MA} {p pos : Pos}
theorem yi_seq (he : PE X e (rdE C ma)) : PI X tg e (rdI C (mIt ma)) := ⟨fun pins s σ H R I ⟨M, ρ, f, ws, f', J, q, k⟩ => by
  unfold mIt at q
  cases e1 : ma ρ f with
  | none => rw [e1] at q; cases q
  | some z =>
    obtain ⟨w1, f1⟩ := z
    rw [e1] at q
    simp only [Option.bind_some] at q
    unfold walkOf at q
    split at q
    · rename_i xs
      cases q
      refine (pi_list he).run pins s σ H R I ⟨M, ρ, f, _, _, J, e1, fun v H1 g1 d1 r1 => ?_⟩
      cases r1 with
      | lst a1 a2 => exact ⟨_, rfl, ⟨_, sub_seq (mask_sub M H1) a1⟩, k _ H1 g1 d1 (wk_list a1 a2)⟩
    · rename_i xs
      cases q
      refine (pi_tup he).run pins s σ H R I ⟨M, ρ, f, _, _, J, e1, fun v H1 g1 d1 r1 => ?_⟩
      cases r1 with
      | tup a1 _ a2 => exact ⟨_, rfl, ⟨_, sub_tup (mask_sub M H1) a1⟩, k _ H1 g1 d1 (wk_tup a1 a2)⟩
    · rename_i x
      cases q
      refine (pi_str he).run pins s σ H R I ⟨M, ρ, f, _, _, J, e1, fun v H1 g1 d1 r1 => ?_⟩
      cases r1
      exact ⟨_, rfl, k _ H1 g1 d1 (wk_str x)⟩
    · cases q⟩
/-! range(n) -/
def rngW (n : Nat) : List W := (List.range n).map fun i => wI (i : Nat)
def mRng (a : MA) : MI := fun ρ f => (a ρ f).bind fun p => match p.1 with
  | [.d (.int n)] => if 0 ≤ n ∧ n ≤ 100000 then some (rngW n.toNat, p.2) else none
  | _ => none
theorem wk_rng {fa : Addr} {U : Hp} (n : Nat) : Wk fa U (Itr 0 n) (rngW n) where
  go := fun i H s hi => by
    show i < n
    simpa [rngW] using hi
  yld := fun i H v H' w s ⟨e, ev⟩ hw => by
    subst e ev
    unfold rngW at hw
    rw [List.getElem?_map] at hw
    cases hr : (List.range n)[i]? with
    | none => rw [hr] at hw; cases hw
    | some j =>
      rw [hr] at hw
      cases hw
      have : j = i := by
        obtain ⟨h1, h2⟩ := List.getElem?_eq_some_iff.mp hr
        simpa using h2.symm
      subst this
      rw [Int.zero_add]
      exact ⟨Sub.refl _, fun Mk sb _ => Rp.int _⟩
  stop := fun H s => by
    show n ≤ _
    simp [rngW]
theorem yi_range (hg : Gl X "range") (hm : X.mg "range" = none) (ha : PA X [e] (rdA C ms)) (hs : starEach [e] X.env = [(false, eval e X.env)] := by rfl) : PI X tg (.Call (.Name "range" p) [e] [] pos) (rdI C (mRng ms)) :=
  PI.mono (pi_range1 hg hm ha hs) fun σ H R ⟨M, ρ, f, ws, f', J, q, k⟩ => by
    unfold mRng at q
    cases e1 : ms ρ f with
    | none => rw [e1] at q; cases q
    | some z =>
      obtain ⟨w1, f1⟩ := z
      rw [e1] at q
      simp only [Option.bind_some] at q
      split at q
      · rename_i n
        split at q
        · rename_i hb
          cases q
          refine ⟨M, ρ, f, _, _, J, e1, fun vs H1 g1 d1 r1 => ?_⟩
          obtain ⟨v, rfl, r⟩ := rws_one r1
          cases r
          exact ⟨n, rfl, by have := hb.1; omega, by have := hb.2; omega, k _ H1 g1 d1 (wk_rng _)⟩
        · cases q
      · cases q
/-! enumerate(t) -/
def enW : Nat → List PyData → List W
  | _, [] => []
  | k, x :: xs => .d (.tuple [.int (k : Nat), x]) :: enW (k + 1) xs
theorem enW_length : ∀ (k : Nat) (xs : List PyData), (enW k xs).length = xs.length
  | _, [] => rfl
  | k, _ :: xs => congrArg Nat.succ (enW_length (k + 1) xs)
theorem enW_get : ∀ (k : Nat) (xs : List PyData) (i : Nat), (enW k xs)[i]? = (xs[i]?).map fun x => W.d (.tuple [.int ((k + i : Nat) : Int), x])
  | _, [], i => by simp [enW]
  | k, x :: xs, 0 => by simp [enW]
  | k, x :: xs, i + 1 => by
    show (enW (k + 1) xs)[i]? = (xs[i]?).map _
    rw [enW_get (k + 1) xs i]
    have : k + 1 + i = k + (i + 1) := by omega
    rw [this]
def mEnum (a : MA) : MI := fun ρ f => (a ρ f).bind fun p => match p.1 with
  | [.d (.tuple xs)] => some (enW 0 xs, p.2)
  | _ => none
theorem laid_pair {fa : Addr} {U : Hp} {Mk : Addr → Bool} {H : Hp} {x y : V} {a b : PyData} {T : Addr} (sb : Sub U (mask Mk H)) (fr : ∀ p, H p = none → Mk p = false) (hT : H T = none) (ra : Rp U x a) (rb : Rp U y b) :
    Rw fa (mask Mk (upd H T (.tup [x, y]))) (.ref T) (.d (.tuple [a, b])) :=
  laid_tup rfl (.cons (Rp.mono sb _ _ ra) (.cons (Rp.mono sb _ _ rb) .nil)) hT (fr T hT)
theorem wk_enum {K : PySem.W.Frag} {fa : Addr} {U : Hp} {a : Addr} {vs : List V} {ds : List PyData} (h : TupAt U a vs) (r : RpAll U vs ds) : Wk fa U (IteT K a) (enW 0 ds) where
  go := fun i H s hi => by
    have hv : i < vs.length := by rw [r.length]; rw [enW_length] at hi; exact hi
    exact ⟨vs, vs[i], sub_tup s h, by simp [hv]⟩
  yld := fun i H v H' w s ⟨T, x, ev, hT, eH, y⟩ hw => by
    subst ev eH
    obtain ⟨d, e1, rd⟩ := r.getv (y vs (sub_tup s h))
    rw [enW_get, e1] at hw
    cases hw
    refine ⟨upd_sub hT, fun Mk sb fr => ?_⟩
    rw [Nat.zero_add]
    exact laid_pair sb fr hT (.int _) rd
  stop := fun H s => ⟨vs, sub_tup s h, by rw [r.length, enW_length]; exact Nat.le_refl _⟩
theorem yi_enum {elts : List Expr} {kk : Nat} {tpos : Pos} (hg : Gl X "enumerate") (hm : X.mg "enumerate" = none) (ha : PA X [e] (rdA C ms)) (hs : starEach [e] X.env = [(false, eval e X.env)] := by rfl) :
    PI X (.Tuple elts kk tpos) (.Call (.Name "enumerate" p) [e] [] pos) (rdI C (mEnum ms)) :=
  PI.mono (pi_enumT hg hm ha hs) fun σ H R ⟨M, ρ, f, ws, f', J, q, k⟩ => by
    unfold mEnum at q
    cases e1 : ms ρ f with
    | none => rw [e1] at q; cases q
    | some z =>
      obtain ⟨w1, f1⟩ := z
      rw [e1] at q
      simp only [Option.bind_some] at q
      split at q
      · rename_i xs
        cases q
        refine ⟨M, ρ, f, _, _, J, e1, fun vs H1 g1 d1 r1 => ?_⟩
        obtain ⟨v, rfl, r⟩ := rws_one r1
        cases r with
        | tup a1 _ a2 => exact ⟨_, _, rfl, sub_tup (mask_sub M H1) a1, k _ H1 g1 d1 (wk_enum a1 a2)⟩
      · cases q
/-! zip(x, y) -/
def zW (xs ys : List PyData) : List W := List.zipWith (fun a b => W.d (.tuple [a, b])) xs ys
def mZip (a : MA) : MI := fun ρ f => (a ρ f).bind fun p => match p.1 with
  | [.d (.list xs), .d (.list ys)] => some (zW xs ys, p.2)
  | [.d (.tuple xs), .d (.tuple ys)] => some (zW xs ys, p.2)
  | _ => none
theorem zW_get {xs ys : List PyData} {i : Nat} {w : W} (h : (zW xs ys)[i]? = some w) : ∃ a b, xs[i]? = some a ∧ ys[i]? = some b ∧ w = .d (.tuple [a, b]) := by
  unfold zW at h
  rw [List.getElem?_zipWith] at h
  cases e1 : xs[i]? with
  | none => rw [e1] at h; cases h
  | some a =>
    cases e2 : ys[i]? with
    | none => rw [e1, e2] at h; cases h
    | some b => rw [e1, e2] at h; cases h; exact ⟨a, b, rfl, rfl, rfl⟩
theorem zW_len (xs ys : List PyData) : (zW xs ys).length = min xs.length ys.length := by simp [zW]
theorem wk_zipL {K : PySem.W.Frag} {fa : Addr} {U : Hp} {a b : Addr} {vs us : List V} {ds es : List PyData} (h : U a = some (.lst vs)) (h2 : U b = some (.lst us)) (r : RpAll U vs ds) (r2 : RpAll U us es) : Wk fa U (Itz K a b) (zW ds es) where
  go := fun i H s hi => by
    rw [zW_len] at hi
    have hv : i < vs.length := by rw [r.length]; omega
    have hu : i < us.length := by rw [r2.length]; omega
    exact ⟨vs, us, vs[i], us[i], sub_seq s h, sub_seq s h2, by simp [hv], by simp [hu]⟩
  yld := fun i H v H' w s ⟨T, x, y, ev, hT, eH, hx, hy⟩ hw => by
    subst ev eH
    obtain ⟨d, e1, rd⟩ := r.getv (hx vs (sub_seq s h))
    obtain ⟨d2, e2, rd2⟩ := r2.getv (hy us (sub_seq s h2))
    obtain ⟨a', b', h1', h2', rfl⟩ := zW_get hw
    rw [e1] at h1'
    rw [e2] at h2'
    cases h1'
    cases h2'
    exact ⟨upd_sub hT, fun Mk sb fr => laid_pair sb fr hT rd rd2⟩
  stop := fun H s => ⟨vs, us, sub_seq s h, sub_seq s h2, by rw [zW_len, r.length, r2.length]; omega⟩
theorem wk_zipT {K : PySem.W.Frag} {fa : Addr} {U : Hp} {a b : Addr} {vs us : List V} {ds es : List PyData} (h : TupAt U a vs) (h2 : TupAt U b us) (r : RpAll U vs ds) (r2 : RpAll U us es) : Wk fa U (RZ.ItzT K a b) (zW ds es) where
  go := fun i H s hi => by
    rw [zW_len] at hi
    have hv : i < vs.length := by rw [r.length]; omega
    have hu : i < us.length := by rw [r2.length]; omega
    exact ⟨vs, us, vs[i], us[i], sub_tup s h, sub_tup s h2, by simp [hv], by simp [hu]⟩
  yld := fun i H v H' w s ⟨T, x, y, ev, hT, eH, hx, hy⟩ hw => by
    subst ev eH
    obtain ⟨d, e1, rd⟩ := r.getv (hx vs (sub_tup s h))
    obtain ⟨d2, e2, rd2⟩ := r2.getv (hy us (sub_tup s h2))
    obtain ⟨a', b', h1', h2', rfl⟩ := zW_get hw
    rw [e1] at h1'
    rw [e2] at h2'
    cases h1'
    cases h2'
    exact ⟨upd_sub hT, fun Mk sb fr => laid_pair sb fr hT rd rd2⟩
  stop := fun H s => ⟨vs, us, sub_tup s h, sub_tup s h2, by rw [zW_len, r.length, r2.length]; omega⟩
theorem yi_zip {elts : List Expr} {kk : Nat} {tpos : Pos} (hg : Gl X "zip") (hm : X.mg "zip" = none) (ha : PA X [e, e2] (rdA C ms))
    (hs : starEach [e, e2] X.env = (false, eval e X.env) :: starEach [e2] X.env := by rfl) (hpl : (backTo pos (starEach [e2] X.env)).any (·.1) = false := by rfl) :
    PI X (.Tuple elts kk tpos) (.Call (.Name "zip" p) [e, e2] [] pos) (rdI C (mZip ms)) :=
  PI.mono (RZ.pi_zipA hg hm ha hs hpl) fun σ H R ⟨M, ρ, f, ws, f', J, q, k⟩ => by
    unfold mZip at q
    cases e1 : ms ρ f with
    | none => rw [e1] at q; cases q
    | some z =>
      obtain ⟨w1, f1⟩ := z
      rw [e1] at q
      simp only [Option.bind_some] at q
      split at q
      · rename_i xs ys
        cases q
        refine ⟨M, ρ, f, _, _, J, e1, fun vs H1 g1 d1 r1 => ?_⟩
        cases r1 with
        | cons ra rr =>
          obtain ⟨v, rfl, rb⟩ := rws_one rr
          cases ra with
          | lst a1 a2 =>
            cases rb with
            | lst b1 b2 => exact ⟨_, _, _, _, rfl, .inl ⟨sub_seq (mask_sub M H1) a1, sub_seq (mask_sub M H1) b1, k _ H1 g1 d1 (wk_zipL a1 b1 a2 b2)⟩⟩
      · rename_i xs ys
        cases q
        refine ⟨M, ρ, f, _, _, J, e1, fun vs H1 g1 d1 r1 => ?_⟩
        cases r1 with
        | cons ra rr =>
          obtain ⟨v, rfl, rb⟩ := rws_one rr
          cases ra with
          | tup a1 _ a2 =>
            cases rb with
            | tup b1 _ b2 => exact ⟨_, _, _, _, rfl, .inr ⟨sub_tup (mask_sub M H1) a1, sub_tup (mask_sub M H1) b1, k _ H1 g1 d1 (wk_zipT a1 b1 a2 b2)⟩⟩
      · cases q
end

/-! ### what is stored to -/
def rdG (C : Cq) (vs : List Nat) (m : MG) : TG := fun v σ H Q => ∃ M ρ f w ρ', EnvOk C M σ H ρ f ∧ Rw C.fa (mask M H) v w ∧ m w ρ = some ρ' ∧ ∀ σ', EnvOk C M σ' H ρ' f → (∀ i, i ∉ vs → σ'[i]? = σ[i]?) → σ'.length = σ.length → Q σ' H
abbrev MGs := List PyData → En → Option En
def rdGs (C : Cq) (vs : List Nat) (m : MGs) : TGs := fun xs σ H Q => ∃ M ρ f ds ρ', EnvOk C M σ H ρ f ∧ RpAll (mask M H) xs ds ∧ m ds ρ = some ρ' ∧ ∀ σ', EnvOk C M σ' H ρ' f → (∀ i, i ∉ vs → σ'[i]? = σ[i]?) → σ'.length = σ.length → Q σ' H
def gSet (i : Nat) : MG := fun w ρ => some (ρ.set i (.v w))
def gsNil : MGs := fun ds ρ => match ds with
  | [] => some ρ
  | _ => none
def gsCons (g : MG) (gs : MGs) : MGs := fun ds ρ => match ds with
  | d :: ds => (g (.d d) ρ).bind (gs ds)
  | [] => none
def gTupM (n : Nat) (gs : MGs) : MG := fun w ρ => match w with
  | .d (.tuple ds) => if ds.length = n then gs ds ρ else none
  | _ => none
section
variable {X : Cx} {C : Cq} {e : Expr} {es : List Expr} {g : MG} {gs : MGs} {vs : List Nat} {i : Nat} {pos : Pos}
theorem yg_name (h : PG X e (gName i)) (hi : i ∈ vs) : PG X e (rdG C vs (gSet i)) := PG.mono h fun v σ H Q ⟨M, ρ, f, w, ρ', I, r, q, k⟩ => by
  cases q
  exact k _ (I.setv r) (fun j hj => List.getElem?_set_ne (fun (e : i = j) => hj (e ▸ hi))) (by simp)
theorem ygs_nil : PGs X [] (rdGs C vs gsNil) := PGs.mono pgs_nil fun xs σ H Q ⟨M, ρ, f, ds, ρ', I, r, q, k⟩ => by
  unfold gsNil at q
  split at q
  · cases q
    cases r
    exact ⟨rfl, k _ I (fun _ _ => rfl) rfl⟩
  · cases q
theorem ygs_cons (h1 : PG X e (rdG C vs g)) (h2 : PGs X es (rdGs C vs gs))
    (hs : (assignEach (e :: es) X.env).map (·.2) = assign e X.env :: (assignEach es X.env).map (·.2) := by rfl) : PGs X (e :: es) (rdGs C vs (gsCons g gs)) :=
  PGs.mono (pgs_cons h1 h2 hs) fun xs σ H Q ⟨M, ρ, f, ds, ρ', I, r, q, k⟩ => by
    unfold gsCons at q
    split at q
    · rename_i d ds
      cases e1 : g (.d d) ρ with
      | none => rw [e1] at q; cases q
      | some ρ1 =>
        rw [e1] at q
        cases r with
        | cons r1 r2 => exact ⟨_, _, rfl, M, ρ, f, .d d, ρ1, I, r1, e1, fun σ1 I1 s1 l1 => ⟨M, ρ1, f, ds, ρ', I1, r2, q, fun σ2 I2 s2 l2 => k σ2 I2 (fun j hj => (s2 j hj).trans (s1 j hj)) (l2.trans l1)⟩⟩
    · cases q
theorem yg_tup {k n : Nat} (hc : X.calm = true) (h : PGs X es (rdGs C vs gs))
    (hn : (assignEach es X.env).length = n := by rfl) (hst : (assignEach es X.env).findIdx? (·.1) = none := by rfl) : PG X (.Tuple es k pos) (rdG C vs (gTupM n gs)) :=
  PG.mono (pg_tup hc h hn hst) fun v σ H Q ⟨M, ρ, f, w, ρ', I, r, q, kk⟩ => by
    unfold gTupM at q
    split at q
    · split at q
      · rename_i hl
        cases r with
        | tup a1 _ a2 => exact ⟨_, _, rfl, sub_tup (mask_sub M H) a1, by rw [a2.length]; exact hl, M, ρ, f, _, ρ', I, a2, q, kk⟩
      · cases q
    · cases q
end

/-! ### a block's environment -/
def wipeE (ρ : En) : List Nat → En
  | [] => ρ
  | v :: vs => (wipeE ρ vs).set v .un
def dropOwn (ρ : En) : En := ρ.map fun s => match s with
  | .own _ => .un
  | s => s
def cl (vs : List Nat) (ρ : En) : En := dropOwn (wipeE ρ vs)
def hidM (M : Addr → Bool) (D : Addr) : Addr → Bool := fun a => if a = D then true else M a
section
variable {C : Cq} {M : Addr → Bool} {σ : Sg} {H H' : Hp} {ρ : En} {f f' : Fd}
theorem EnvOk.setun (I : EnvOk C M σ H ρ f) (i : Nat) : EnvOk C M (σ.set i none) H (ρ.set i .un) f := by
  have key : ∀ (j : Nat) (s : Slot), (ρ.set i .un)[j]? = some s → (j = i ∧ s = .un) ∨ (j ≠ i ∧ ρ[j]? = some s) := by
    intro j s e
    by_cases hj : i = j
    · subst hj
      by_cases hi : i < ρ.length
      · rw [List.getElem?_set_self hi] at e
        exact .inl ⟨rfl, (Option.some.inj e).symm⟩
      · rw [List.getElem?_eq_none (by simpa using hi)] at e
        cases e
    · rw [List.getElem?_set_ne hj] at e
      exact .inr ⟨fun q => hj q.symm, e⟩
  refine ⟨by simp [I.len], fun j w' e => ?_, fun j ds e => ?_, fun j k ds es a e1 e2 e3 e4 => ?_, I.feed, I.hid, I.trk, I.old, I.sub, I.new, I.ck, I.cel⟩
  · rcases key j _ e with ⟨_, e2⟩ | ⟨hj, e2⟩
    · cases e2
    · obtain ⟨v', h1, h2⟩ := I.val j w' e2
      exact ⟨v', by rw [List.getElem?_set_ne (Ne.symm hj)]; exact h1, h2⟩
  · rcases key j _ e with ⟨_, e2⟩ | ⟨hj, e2⟩
    · cases e2
    · obtain ⟨a, vs, h1, h2⟩ := I.own j ds e2
      exact ⟨a, vs, by rw [List.getElem?_set_ne (Ne.symm hj)]; exact h1, h2⟩
  · rcases key j _ e1 with ⟨_, q⟩ | ⟨hj, q1⟩
    · cases q
    · rcases key k _ e2 with ⟨_, q⟩ | ⟨hk, q2⟩
      · cases q
      · rw [List.getElem?_set_ne (Ne.symm hj)] at e3
        rw [List.getElem?_set_ne (Ne.symm hk)] at e4
        exact I.dist j k ds es a q1 q2 e3 e4
theorem EnvOk.wipes (I : EnvOk C M σ H ρ f) : ∀ vs : List Nat, EnvOk C M (wipe σ vs) H (wipeE ρ vs) f
  | [] => I
  | v :: vs => (I.wipes vs).setun v
theorem drop_v {ρ : En} {i : Nat} {w : W} (h : (dropOwn ρ)[i]? = some (.v w)) : ρ[i]? = some (.v w) := by
  unfold dropOwn at h
  rw [List.getElem?_map] at h
  cases e : ρ[i]? with
  | none => rw [e] at h; cases h
  | some s => rw [e] at h; cases s <;> cases h; rfl
theorem drop_own {ρ : En} {i : Nat} {o : Ow} : (dropOwn ρ)[i]? ≠ some (.own o) := fun h => by
  unfold dropOwn at h
  rw [List.getElem?_map] at h
  cases e : ρ[i]? with
  | none => rw [e] at h; cases h
  | some s => rw [e] at h; cases s <;> cases h
theorem EnvOk.drop (I : EnvOk C M σ H ρ f) : EnvOk C M σ H (dropOwn ρ) f :=
  ⟨by simp [dropOwn, I.len], fun i w e => I.val i w (drop_v e), fun i o e => absurd e drop_own, fun i j ds es a e1 => absurd e1 drop_own, I.feed, I.hid, I.trk, I.old, I.sub, I.new, I.ck, I.cel⟩
theorem EnvOk.block (I : EnvOk C M σ H ρ f) (vs : List Nat) : EnvOk C M (wipe σ vs) H (cl vs ρ) f := (I.wipes vs).drop
theorem mask_hid {D : Addr} {o : HO} (hD : H D = none) : mask (hidM M D) (upd H D o) = mask M H := by
  funext a
  unfold mask hidM
  by_cases h : a = D
  · subst h
    simp [hD]
  · simp [h, upd_ne h]
theorem mask_upd {D : Addr} {o : HO} {Mk : Addr → Bool} (hD : Mk D = true) : mask Mk (upd H D o) = mask Mk H := by
  funext a
  unfold mask
  by_cases h : a = D
  · subst h
    simp [hD]
  · simp [upd_ne h]
theorem feed_ne {fa : Addr} {D : Addr} (h : FeedAt fa H f) (hD : H D = none) : D ≠ fa := fun e => by
  obtain ⟨ca, h1, _⟩ := h
  rw [← e, hD] at h1
  cases h1
theorem EnvOk.h0 (I : EnvOk C M σ H ρ f) {D : Addr} (hD : H D = none) : C.H0 D = none := by
  cases e : C.H0 D with
  | none => rfl
  | some o =>
    have := I.old D o (feed_ne I.feed hD) e
    rw [hD] at this
    cases this
theorem EnvOk.m0 (I : EnvOk C M σ H ρ f) {D : Addr} (hD : H D = none) : C.M0 D = false := by
  cases e : C.M0 D with
  | false => rfl
  | true =>
    obtain ⟨o, h⟩ := I.trk D (I.sub D e)
    rw [hD] at h
    cases h
/-- a new object that is hidden -/
theorem EnvOk.hide (I : EnvOk C M σ H ρ f) {D : Addr} {o : HO} (hD : H D = none) : EnvOk C (hidM M D) σ (upd H D o) ρ f := by
  have nf := feed_ne I.feed hD
  refine ⟨I.len, fun i w e => ?_, fun i ds e => ?_, I.dist, I.feed.new hD, ?_, fun a e => ?_, fun b u n e => upd_sub hD _ _ (I.old b u n e), fun a e => ?_, fun a e => ?_, I.ck.trans (Grow.of_sub (upd_sub hD)).2, fun ca r e => ?_⟩
  · rw [mask_hid hD]
    exact I.val i w e
  · obtain ⟨a, vs, h1, h2, h3, h4, h5, h6, h7⟩ := I.own i ds e
    refine ⟨a, vs, h1, ?_, h3, h4, h5, upd_sub hD _ _ h6, by rw [mask_hid hD]; exact h7.1, h7.2.upd nf⟩
    unfold hidM
    split
    · rfl
    · exact h2
  · unfold hidM
    rw [if_neg (Ne.symm nf)]
    exact I.hid
  · unfold hidM at e
    by_cases h : a = D
    · exact ⟨o, by rw [h]; exact upd_same⟩
    · rw [if_neg h] at e
      rw [upd_ne h]
      exact I.trk a e
  · unfold hidM
    split
    · rfl
    · exact I.sub a e
  · unfold hidM at e
    by_cases h : a = D
    · exact .inr (by rw [h]; exact I.h0 hD)
    · rw [if_neg h] at e
      exact I.new a e
  · rw [upd_ne (Ne.symm nf)] at e
    unfold hidM
    rw [if_neg (NC.new I.feed hD ca r e)]
    exact I.cel ca r e
/-- all but the feed and D is as it was -/
def GrowD (fa D : Addr) (H H' : Hp) : Prop := (∀ b o, b ≠ fa → b ≠ D → H b = some o → H' b = some o) ∧ CK fa H H'
theorem GrowD.refl (fa D : Addr) (H : Hp) : GrowD fa D H H := ⟨fun _ _ _ _ h => h, CK.refl _ _⟩
theorem GrowD.trans {fa D : Addr} {H H1 H2 : Hp} (a : GrowD fa D H H1) (b : GrowD fa D H1 H2) : GrowD fa D H H2 := ⟨fun c o n m h => b.1 c o n m (a.1 c o n m h), a.2.trans b.2⟩
theorem GrowD.of {fa D : Addr} {H H1 : Hp} (a : Grow fa H H1) : GrowD fa D H H1 := ⟨fun c o n _ h => a.1 c o n h, a.2⟩
theorem GrowD.upd {fa D : Addr} {H : Hp} {o : HO} (hD : D ≠ fa) : GrowD fa D H (upd H D o) := ⟨fun c u _ m h => by rw [upd_ne m]; exact h, fun ca r h => ⟨r, by rw [upd_ne (Ne.symm hD)]; exact h⟩⟩
theorem GrowD.mask {fa D : Addr} {H H' : Hp} {M : Addr → Bool} (g : GrowD fa D H H') (hf : M fa = true) (hD : M D = true) : Sub (mask M H) (mask M H') := fun a o h => by
  obtain ⟨h1, h2⟩ := mask_some h
  exact mask_at h1 (g.1 a o (fun e => by rw [e, hf] at h1; cases h1) (fun e => by rw [e, hD] at h1; cases h1) h2)
/-- the hidden D may change where no slot owns it -/
theorem EnvOk.growD (I : EnvOk C M σ H ρ f) {D : Addr} (no : ∀ (i : Nat) (o : Ow), ρ[i]? = some (Slot.own o) → σ[i]? ≠ some (some (V.ref D))) (hm : M D = true) (h0 : C.H0 D = none) (hx : ∃ o, H' D = some o) (g : GrowD C.fa D H H') (fd : FeedAt C.fa H' f') : EnvOk C M σ H' ρ f' := by
  have ms := g.mask I.hid hm
  refine ⟨I.len, fun i w e => ?_, fun i ds e => ?_, I.dist, fd, I.hid, fun a e => ?_, fun b o n e => g.1 b o n (fun z => by rw [z, h0] at e; cases e) (I.old b o n e), I.sub, I.new, I.ck.trans g.2, I.cel.ck I.feed g.2⟩
  · obtain ⟨v, h1, h2⟩ := I.val i w e
    exact ⟨v, h1, h2.mono ms⟩
  · obtain ⟨a, vs, h1, h2, h3, h4, h5, h6, h7⟩ := I.own i ds e
    exact ⟨a, vs, h1, h2, h3, h4, h5, g.1 _ _ h5 (fun z => no i ds e (by rw [← z]; exact h1)) h6, h7.1.mono ms, h7.2.ck I.feed g.2⟩
  · obtain ⟨o, h⟩ := I.trk a e
    by_cases hf : a = C.fa
    · obtain ⟨ca, h1, _⟩ := fd
      exact ⟨_, hf ▸ h1⟩
    · by_cases hd : a = D
      · rw [hd]; exact hx
      · exact ⟨o, g.1 a o hf hd h⟩
end

/-! ### list comprehensions -/
def dOf : W → Option PyData
  | .d x => some x
  | _ => none
abbrev MB := En → List PyData → Fd → Option (List PyData × Fd)
def lcGo (g : MG) (tt : MT) (b : MB) (ρ : En) : List W → List PyData → Fd → Option (List PyData × Fd)
  | [], acc, f => some (acc, f)
  | w :: ws, acc, f => (g w ρ).bind fun ρ1 => (tt ρ1 f).bind fun c => if c.1 = true then (b ρ1 acc c.2).bind fun r => lcGo g tt b ρ ws r.1 r.2 else lcGo g tt b ρ ws acc c.2
def bOne (te : ME) : MB := fun ρ acc f => (te ρ f).bind fun y => (dOf y.1).bind fun d => if acc.length < lim then some (acc ++ [d], y.2) else none
def bTwo (vs1 : List Nat) (src : MI) (g : MG) (tt : MT) (b : MB) : MB := fun ρ acc f => (src ρ f).bind fun p => lcGo g tt b (cl vs1 ρ) p.1 acc p.2
def mLc (vs : List Nat) (src : MI) (g : MG) (tt : MT) (b : MB) : ME := fun ρ f => (src ρ f).bind fun p => (lcGo g tt b (cl vs ρ) p.1 [] p.2).map fun q => (W.d (.list q.1), q.2)
def mYes : MT := fun _ f => some (true, f)
theorem PTs.mono {X : Cx} {ifs : List Expr} {t t' : TT} (h : PTs X ifs t) (hm : ∀ σ H Q, t' σ H Q → t σ H Q) : PTs X ifs t' := ⟨fun pins s σ H Q I q => h.run pins s σ H Q I (hm σ H Q q)⟩
theorem yts_nil {X : Cx} {C : Cq} : PTs X [] (rdT C mYes) := PTs.mono pts_nil fun σ H Q ⟨M, ρ, f, b, f', I, q, k⟩ => by
  cases q
  exact k H (Grow.refl _ _) I.feed
theorem yts_one {X : Cx} {C : Cq} {c : Expr} {mt : MT} (h : PT X c (rdT C mt)) : PTs X [c] (rdT C mt) := pts_one h
theorem wipe_get {σ : Sg} : ∀ {vs : List Nat} {i : Nat}, i ∈ vs → i < σ.length → (wipe σ vs)[i]? = some none
  | v :: vs, i, hm, hl => by
    unfold wipe
    by_cases h : v = i
    · subst h
      rw [List.getElem?_set_self (by rw [wipe_length]; exact hl)]
    · rw [List.getElem?_set_ne h]
      rcases List.mem_cons.mp hm with e | m
      · exact absurd e.symm h
      · exact wipe_get m hl
theorem wipe_same {σ τ : Sg} {vs : List Nat} (h : ∀ i, i ∉ vs → σ[i]? = τ[i]?) (hl : σ.length = τ.length) : wipe σ vs = wipe τ vs := by
  refine List.ext_getElem? fun i => ?_
  by_cases hm : i ∈ vs
  · by_cases hi : i < σ.length
    · rw [wipe_get hm hi, wipe_get hm (by omega)]
    · rw [List.getElem?_eq_none (by rw [wipe_length]; omega), List.getElem?_eq_none (by rw [wipe_length]; omega)]
  · rw [wipe_out hm, wipe_out hm]
    exact h i hm
/-- the block's state between two turns -/
structure LI (C : Cq) (Mk : Addr → Bool) (D : Addr) (σw : Sg) (ρw : En) (Hb H : Hp) (fi : Fd) (acc : List V) (ds : List PyData) : Prop where
  env : EnvOk C Mk σw H ρw fi
  at_ : H D = some (.lst acc)
  rp : RpAll (mask Mk H) acc ds
  gr : GrowD C.fa D Hb H
  nc : NC C.fa D H
/-- what a turn's body must do -/
def BOk (C : Cq) (Mk : Addr → Bool) (D : Addr) (B : Sg → Hp → (Hp → Prop) → Prop) (b : MB) : Prop :=
  ∀ (σ2 : Sg) (ρ1 : En) (H3 : Hp) (f3 : Fd) (acc : List V) (ds : List PyData) (ds' : List PyData) (f4 : Fd), EnvOk C Mk σ2 H3 ρ1 f3 → H3 D = some (.lst acc) → RpAll (mask Mk H3) acc ds → NC C.fa D H3 → b ρ1 ds f3 = some (ds', f4) →
    ∀ Nx : Hp → Prop, (∀ H4 acc', GrowD C.fa D H3 H4 → FeedAt C.fa H4 f4 → H4 D = some (.lst acc') → RpAll (mask Mk H4) acc' ds' → Nx H4) → B σ2 H3 Nx
theorem lc_loop {C : Cq} {Mk : Addr → Bool} {D : Addr} {σb : Sg} {ρw : En} {vs : List Nat} {g : MG} {tt : MT} {b : MB} {B : Sg → Hp → (Hp → Prop) → Prop} {J : It} {ws : List W} {Hb H0 : Hp} {f0 fF : Fd} {acc0 : List V} {ds0 dsF : List PyData} {Qd : Hp → Prop}
    (hB : BOk C Mk D B b) (wk : Wk C.fa (mask Mk Hb) J ws) (hm : Mk D = true) (hD0 : C.H0 D = none) (hDf : D ≠ C.fa) (no : ∀ (i : Nat) (o : Ow), ρw[i]? ≠ some (Slot.own o))
    (h0 : LI C Mk D (wipe σb vs) ρw Hb H0 f0 acc0 ds0) (e : lcGo g tt b ρw ws ds0 f0 = some (dsF, fF)) (hq : ∀ H acc, LI C Mk D (wipe σb vs) ρw Hb H fF acc dsF → Qd H) :
    ∃ W : Nat → Nat → Hp → Prop, (∃ m, W 0 m H0) ∧ ∀ i m H, W i m H →
      (J.stop i H ∧ Qd H) ∨ (J.go i H ∧ ∃ Nx : Hp → Prop, (∀ H', Nx H' → ∃ m', m' < m ∧ W (i + 1) m' H') ∧ ∀ x H', J.yld i H x H' → rdG C vs g x (wipe σb vs) H' fun σ2 H2 => wipe σ2 vs = wipe σb vs ∧ rdT C tt σ2 H2 fun c H3 =>
        if c = true then B σ2 H3 Nx else Nx H3) := by
  refine ⟨fun i m H => m = ws.length - i ∧ i ≤ ws.length ∧ ∃ fi acc ds, LI C Mk D (wipe σb vs) ρw Hb H fi acc ds ∧ lcGo g tt b ρw (ws.drop i) ds fi = some (dsF, fF), ⟨ws.length, by simp, Nat.zero_le _, f0, acc0, ds0, h0, by simpa using e⟩, ?_⟩
  rintro i m H ⟨rfl, hi, fi, acc, ds, L, eg⟩
  have sU : Sub (mask Mk Hb) (mask Mk H) := L.gr.mask L.env.hid hm
  have sH : Sub (mask Mk Hb) H := sU.trans (mask_sub Mk H)
  by_cases hlt : i < ws.length
  · refine .inr ⟨wk.go i H sH hlt, fun H' => ∃ fi acc ds, LI C Mk D (wipe σb vs) ρw Hb H' fi acc ds ∧ lcGo g tt b ρw (ws.drop (i + 1)) ds fi = some (dsF, fF), fun H' ⟨fi', acc', ds', L', e'⟩ => ⟨ws.length - (i + 1), by omega, rfl, hlt, fi', acc', ds', L', e'⟩, fun x H1 y => ?_⟩
    obtain ⟨sb, rw1⟩ := wk.yld i H x H1 ws[i] sH y (by simp)
    have r1 := rw1 Mk sU fun p hp => L.env.fresh hp
    rw [List.drop_eq_getElem_cons hlt] at eg
    unfold lcGo at eg
    cases e1 : g ws[i] ρw with
    | none => rw [e1] at eg; cases eg
    | some ρ1 =>
      rw [e1] at eg
      simp only [Option.bind_some] at eg
      have I1 : EnvOk C Mk (wipe σb vs) H1 ρw fi := L.env.grow (Grow.of_sub sb) (L.env.feed.sub sb)
      refine ⟨Mk, ρw, fi, ws[i], ρ1, I1, r1, e1, fun σ2 I2 same len => ⟨wipe_same (fun j hj => by rw [same j hj, wipe_out hj]) (by rw [len, wipe_length]), ?_⟩⟩
      cases e2 : tt ρ1 fi with
      | none => rw [e2] at eg; cases eg
      | some c =>
        obtain ⟨c, f2⟩ := c
        rw [e2] at eg
        simp only [Option.bind_some] at eg
        refine ⟨Mk, ρ1, fi, c, f2, I2, e2, fun H3 g3 d3 => ?_⟩
        have I3 := I2.grow g3 d3
        have at3 : H3 D = some (.lst acc) := g3.1 _ _ hDf (sb _ _ L.at_)
        have gr3 : GrowD C.fa D H H3 := (GrowD.of (Grow.of_sub sb)).trans (GrowD.of g3)
        have rp3 : RpAll (mask Mk H3) acc ds := RpAll.mono (gr3.mask L.env.hid hm) _ _ L.rp
        cases c with
        | true =>
          rw [if_pos rfl] at eg
          refine iteT ?_
          cases e3 : b ρ1 ds f2 with
          | none => rw [e3] at eg; cases eg
          | some r =>
            obtain ⟨ds', f4⟩ := r
            rw [e3] at eg
            simp only [Option.bind_some] at eg
            have nc3 := L.nc.ck L.env.feed gr3.2
            refine hB σ2 ρ1 H3 f2 acc ds ds' f4 I3 at3 rp3 nc3 e3 _ fun H4 acc' g4 d4 at4 rp4 => ⟨f4, acc', ds', ⟨?_, at4, rp4, (L.gr.trans gr3).trans g4, nc3.ck d3 g4.2⟩, eg⟩
            exact L.env.growD (fun j o z => absurd z (no j o)) hm hD0 ⟨_, at4⟩ (gr3.trans g4) d4
        | false =>
          rw [if_neg Bool.false_ne_true] at eg
          refine iteF ?_
          exact ⟨f2, acc, ds, ⟨L.env.growD (fun j o z => absurd z (no j o)) hm hD0 ⟨_, at3⟩ gr3 d3, at3, rp3, L.gr.trans gr3, L.nc.ck L.env.feed gr3.2⟩, eg⟩
  · have ei : i = ws.length := by omega
    subst ei
    rw [List.drop_length] at eg
    cases eg
    exact .inl ⟨wk.stop H sH, hq H acc L⟩
def BE (C : Cq) (D : Addr) (te : ME) : Sg → Hp → (Hp → Prop) → Prop := fun σ2 H3 Nx => rdE C te σ2 H3 fun y H4 => ∃ acc, H4 D = some (.lst acc) ∧ acc.length < sizeLine ∧ Nx (upd H4 D (.lst (acc ++ [y])))
theorem lim_lt {n : Nat} (h : n < lim) : n < sizeLine := by rw [sizeLine_eq]; exact h
theorem bok_one {C : Cq} {Mk : Addr → Bool} {D : Addr} {te : ME} (hm : Mk D = true) (hDf : D ≠ C.fa) : BOk C Mk D (BE C D te) (bOne te) := by
  intro σ2 ρ1 H3 f3 acc ds ds' f4 I at3 rp nc e Nx k
  unfold bOne at e
  cases e1 : te ρ1 f3 with
  | none => rw [e1] at e; cases e
  | some y =>
    obtain ⟨w, f5⟩ := y
    rw [e1] at e
    simp only [Option.bind_some] at e
    cases e2 : dOf w with
    | none => rw [e2] at e; cases e
    | some d =>
      rw [e2] at e
      simp only [Option.bind_some] at e
      split at e
      · rename_i hl
        cases e
        refine ⟨Mk, ρ1, f3, w, _, I, e1, fun v H4 g4 d4 r4 => ?_⟩
        have at4 : H4 D = some (.lst acc) := g4.1 _ _ hDf at3
        have nc4 := nc.ck I.feed g4.2
        refine ⟨acc, at4, lim_lt (by rw [rp.length]; exact hl), k _ (acc ++ [v]) ((GrowD.of g4).trans (GrowD.upd hDf)) (d4.updD nc4 hDf) upd_same ?_⟩
        rw [mask_upd hm]
        refine RpAll.append (RpAll.mono (g4.mask I.hid) _ _ rp) (.cons ?_ .nil)
        cases w with
        | d x => cases e2; exact r4
        | t _ => cases e2
        | f => cases e2
      · cases e
def BT (C : Cq) (D : Addr) (src : MI) (vs1 : List Nat) (g : MG) (tt : MT) (te : ME) : Sg → Hp → (Hp → Prop) → Prop := fun σ2 H3 Nx => rdI C src σ2 H3 fun J1 H4 => ∃ W1 : Nat → Nat → Hp → Prop, (∃ m, W1 0 m H4) ∧ ∀ j k H, W1 j k H →
      (J1.stop j H ∧ Nx H) ∨ (J1.go j H ∧ ∃ Nx1 : Hp → Prop, (∀ H', Nx1 H' → ∃ k', k' < k ∧ W1 (j + 1) k' H') ∧ ∀ x H', J1.yld j H x H' → rdG C vs1 g x (wipe σ2 vs1) H' fun σ3 H5 => wipe σ3 vs1 = wipe σ2 vs1 ∧ rdT C tt σ3 H5 fun b H6 =>
        if b = true then BE C D te σ3 H6 Nx1 else Nx1 H6)
theorem cl_own {vs : List Nat} {ρ : En} : ∀ (i : Nat) (o : Ow), (cl vs ρ)[i]? ≠ some (Slot.own o) := fun _ _ => drop_own
theorem bok_two {C : Cq} {Mk : Addr → Bool} {D : Addr} {te : ME} {src : MI} {vs1 : List Nat} {g : MG} {tt : MT} (hm : Mk D = true) (hDf : D ≠ C.fa) (hD0 : C.H0 D = none) : BOk C Mk D (BT C D src vs1 g tt te) (bTwo vs1 src g tt (bOne te)) := by
  intro σ2 ρ1 H3 f3 acc ds ds' f4 I at3 rp nc e Nx k
  unfold bTwo at e
  cases e1 : src ρ1 f3 with
  | none => rw [e1] at e; cases e
  | some y =>
    obtain ⟨ws, f5⟩ := y
    rw [e1] at e
    simp only [Option.bind_some] at e
    refine ⟨Mk, ρ1, f3, ws, f5, I, e1, fun J H4 g4 d4 wk => ?_⟩
    have at4 : H4 D = some (.lst acc) := g4.1 _ _ hDf at3
    have I4 := I.grow g4 d4
    refine lc_loop (Hb := H4) (acc0 := acc) (bok_one hm hDf) wk hm hD0 hDf cl_own ⟨I4.block vs1, at4, RpAll.mono (g4.mask I.hid) _ _ rp, GrowD.refl _ _ _, nc.ck I.feed g4.2⟩ e fun H acc' L => ?_
    exact k H acc' ((GrowD.of g4).trans L.gr) L.env.feed L.at_ L.rp
section
variable {C : Cq} {src : MI} {g : MG} {tt : MT} {te : ME} {vs : List Nat} {σ : Sg} {H : Hp} {Q : VK}
theorem lc_read (h : rdE C (mLc vs src g tt (bOne te)) σ H Q) : tLc (rdI C src) (rdG C vs g) (rdT C tt) (rdE C te) vs σ H Q := by
  obtain ⟨M, ρ, f, w, f', I, q, k⟩ := h
  unfold mLc at q
  cases e1 : src ρ f with
  | none => rw [e1] at q; cases q
  | some p =>
    obtain ⟨ws, f1⟩ := p
    rw [e1] at q
    simp only [Option.bind_some] at q
    cases e2 : lcGo g tt (bOne te) (cl vs ρ) ws [] f1 with
    | none => rw [e2] at q; cases q
    | some r =>
      obtain ⟨dsF, fF⟩ := r
      rw [e2] at q
      cases q
      refine ⟨M, ρ, f, ws, f1, I, e1, fun J H1 g1 d1 wk D hD => ?_⟩
      have I1 := I.grow g1 d1
      have hDf := feed_ne d1 hD
      have hm : hidM M D D = true := by unfold hidM; rw [if_pos rfl]
      refine lc_loop (Mk := hidM M D) (D := D) (Hb := upd H1 D (.lst [])) (acc0 := []) (B := BE C D te) (bok_one hm hDf) (by rw [mask_hid hD]; exact wk) hm (I1.h0 hD) hDf cl_own ⟨(I1.block vs).hide hD, upd_same, .nil, GrowD.refl _ _ _, (NC.new d1 hD).upd hDf⟩ e2 fun H2 acc L => ?_
      have hM : M D = false := I1.fresh hD
      have gr : Grow C.fa H1 H2 := ⟨fun b o n e => L.gr.1 b o n (ne_of_none e hD) (upd_sub hD _ _ e), fun ca r e => L.gr.2 ca r (upd_sub hD _ _ e)⟩
      refine k _ H2 (g1.trans gr) L.env.feed (Rp.lst (mask_at hM L.at_) (RpAll.mono (fun a o h => ?_) _ _ L.rp))
      obtain ⟨m1, m2⟩ := mask_some h
      refine mask_at ?_ m2
      unfold hidM at m1
      split at m1
      · cases m1
      · exact m1
theorem lc2_read {src1 : MI} {g1 : MG} {tt1 : MT} {vs1 : List Nat} (h : rdE C (mLc vs src g tt (bTwo vs1 src1 g1 tt1 (bOne te))) σ H Q) : tLc2 (rdI C src) (rdG C vs g) (rdT C tt) (rdI C src1) (rdG C vs1 g1) (rdT C tt1) (rdE C te) vs vs1 σ H Q := by
  obtain ⟨M, ρ, f, w, f', I, q, k⟩ := h
  unfold mLc at q
  cases e1 : src ρ f with
  | none => rw [e1] at q; cases q
  | some p =>
    obtain ⟨ws, f1⟩ := p
    rw [e1] at q
    simp only [Option.bind_some] at q
    cases e2 : lcGo g tt (bTwo vs1 src1 g1 tt1 (bOne te)) (cl vs ρ) ws [] f1 with
    | none => rw [e2] at q; cases q
    | some r =>
      obtain ⟨dsF, fF⟩ := r
      rw [e2] at q
      cases q
      refine ⟨M, ρ, f, ws, f1, I, e1, fun J H1 g1 d1 wk D hD => ?_⟩
      have I1 := I.grow g1 d1
      have hDf := feed_ne d1 hD
      have hm : hidM M D D = true := by unfold hidM; rw [if_pos rfl]
      refine lc_loop (Mk := hidM M D) (D := D) (Hb := upd H1 D (.lst [])) (acc0 := []) (B := BT C D src1 vs1 _ tt1 te) (bok_two hm hDf (I1.h0 hD)) (by rw [mask_hid hD]; exact wk) hm (I1.h0 hD) hDf cl_own ⟨(I1.block vs).hide hD, upd_same, .nil, GrowD.refl _ _ _, (NC.new d1 hD).upd hDf⟩ e2 fun H2 acc L => ?_
      have hM : M D = false := I1.fresh hD
      have gr : Grow C.fa H1 H2 := ⟨fun b o n e => L.gr.1 b o n (ne_of_none e hD) (upd_sub hD _ _ e), fun ca r e => L.gr.2 ca r (upd_sub hD _ _ e)⟩
      refine k _ H2 (g1.trans gr) L.env.feed (Rp.lst (mask_at hM L.at_) (RpAll.mono (fun a o h => ?_) _ _ L.rp))
      obtain ⟨m1, m2⟩ := mask_some h
      refine mask_at ?_ m2
      unfold hidM at m1
      split at m1
      · cases m1
      · exact m1
end
end Y
end KLayF
section KLayG
set_option Elab.async false
set_option linter.all false
set_option maxRecDepth 100000
set_option maxHeartbeats 4000000
/-! The layer: statements. -/
namespace Y
open PySem PySem.Spec PyProof.Rows L2

/-! ### owned things -/
def unM (M : Addr → Bool) (D : Addr) : Addr → Bool := fun a => if a = D then false else M a
def frW : Ow → W
  | .lst ds => .d (.list ds)
  | .tab kvs => .t kvs
section
variable {C : Cq} {M : Addr → Bool} {σ : Sg} {H H' : Hp} {ρ : En} {f f' : Fd}
theorem EnvOk.setOwn (I : EnvOk C M σ H ρ f) {i : Nat} {ow ow' : Ow} {a : Addr} {o' : HO} (ei : ρ[i]? = some (.own ow)) (es : σ[i]? = some (some (.ref a))) (new : OwnRp (mask M H) o' ow') : EnvOk C M σ (upd H a o') (ρ.set i (.own ow')) f := by
  obtain ⟨a', o0, h1, h2, h3, h4, h5, h6, h7, h8⟩ := I.own i ow ei
  rw [es] at h1
  cases h1
  have em : mask M (upd H a o') = mask M H := mask_upd h2
  have hi : i < ρ.length := (List.getElem?_eq_some_iff.mp ei).1
  have key : ∀ (j : Nat) (s : Slot), (ρ.set i (.own ow'))[j]? = some s → (j = i ∧ s = .own ow') ∨ (j ≠ i ∧ ρ[j]? = some s) := by
    intro j s e
    by_cases hj : i = j
    · subst hj
      rw [List.getElem?_set_self hi] at e
      exact .inl ⟨rfl, (Option.some.inj e).symm⟩
    · rw [List.getElem?_set_ne hj] at e
      exact .inr ⟨fun q => hj q.symm, e⟩
  refine ⟨by simp [I.len], fun j w' e => ?_, fun j ds e => ?_, fun j k ds es' b e1 e2 e3 e4 => ?_, I.feed.updD h8 h5, I.hid, fun b e => ?_, fun b u n e => ?_, I.sub, I.new, fun ca r e => ?_, fun ca r e => ?_⟩
  · rcases key j _ e with ⟨_, e2⟩ | ⟨hj, e2⟩
    · cases e2
    · rw [em]
      exact I.val j w' e2
  · rcases key j _ e with ⟨rfl, e2⟩ | ⟨hj, e2⟩
    · cases e2
      exact ⟨a, o', es, h2, h3, h4, h5, upd_same, by rw [em]; exact new, h8.upd h5⟩
    · obtain ⟨b, vs, k1, k2, k3, k4, k5, k6, k7, k8⟩ := I.own j ds e2
      have hb : b ≠ a := fun z => hj (I.dist j i ds ow a e2 ei (by rw [← z]; exact k1) es)
      exact ⟨b, vs, k1, k2, k3, k4, k5, by rw [upd_ne hb]; exact k6, by rw [em]; exact k7, k8.upd h5⟩
  · have g : ∀ (j : Nat) (s : Ow), (ρ.set i (.own ow'))[j]? = some (.own s) → ∃ s', ρ[j]? = some (.own s') := fun j s e => by
      rcases key j _ e with ⟨rfl, _⟩ | ⟨_, e2⟩
      · exact ⟨ow, ei⟩
      · exact ⟨s, e2⟩
    obtain ⟨s1, q1⟩ := g j ds e1
    obtain ⟨s2, q2⟩ := g k es' e2
    exact I.dist j k s1 s2 b q1 q2 e3 e4
  · by_cases hb : b = a
    · exact ⟨o', by rw [hb]; exact upd_same⟩
    · rw [upd_ne hb]
      exact I.trk b e
  · have hb : b ≠ a := fun z => by rw [z, h4] at e; cases e
    rw [upd_ne hb]
    exact I.old b u n e
  · obtain ⟨r', e'⟩ := I.ck ca r e
    exact ⟨r', by rw [upd_ne (Ne.symm h5)]; exact e'⟩
  · rw [upd_ne (Ne.symm h5)] at e
    exact I.cel ca r e
theorem EnvOk.newOwn (I : EnvOk C M σ H ρ f) {i : Nat} {ow : Ow} {p : Addr} {o : HO} (hp : H p = none) (new : OwnRp (mask M H) o ow) : EnvOk C (hidM M p) (σ.set i (some (.ref p))) (upd H p o) (ρ.set i (.own ow)) f := by
  have I' := I.hide (o := o) hp
  have em : mask (hidM M p) (upd H p o) = mask M H := mask_hid hp
  have np : ∀ (j : Nat) (s : Ow), ρ[j]? = some (.own s) → σ[j]? ≠ some (some (V.ref p)) := fun j s e z => by
    obtain ⟨a, vs, h1, _, _, _, _, h6, _⟩ := I.own j s e
    rw [z] at h1
    cases h1
    rw [hp] at h6
    cases h6
  have key : ∀ (j : Nat) (s : Slot), (ρ.set i (.own ow))[j]? = some s → (j = i ∧ s = .own ow ∧ i < σ.length) ∨ (j ≠ i ∧ ρ[j]? = some s) := by
    intro j s e
    by_cases hj : i = j
    · subst hj
      by_cases hi : i < ρ.length
      · rw [List.getElem?_set_self hi] at e
        exact .inl ⟨rfl, (Option.some.inj e).symm, by rw [← I.len]; exact hi⟩
      · rw [List.getElem?_eq_none (by simpa using hi)] at e
        cases e
    · rw [List.getElem?_set_ne hj] at e
      exact .inr ⟨fun q => hj q.symm, e⟩
  have mp : hidM M p p = true := by unfold hidM; rw [if_pos rfl]
  refine ⟨by simp [I.len], fun j w' e => ?_, fun j ds e => ?_, fun j k ds es' b e1 e2 e3 e4 => ?_, I'.feed, I'.hid, I'.trk, I'.old, I'.sub, I'.new, I'.ck, I'.cel⟩
  · rcases key j _ e with ⟨_, e2, _⟩ | ⟨hj, e2⟩
    · cases e2
    · obtain ⟨v, k1, k2⟩ := I'.val j w' e2
      exact ⟨v, by rw [List.getElem?_set_ne (Ne.symm hj)]; exact k1, k2⟩
  · rcases key j _ e with ⟨rfl, e2, hi⟩ | ⟨hj, e2⟩
    · cases e2
      exact ⟨p, o, List.getElem?_set_self hi, mp, I.m0 hp, I.h0 hp, feed_ne I.feed hp, upd_same, by rw [em]; exact new, (NC.new I.feed hp).upd (feed_ne I.feed hp)⟩
    · obtain ⟨b, vs, k1, k2⟩ := I'.own j ds e2
      exact ⟨b, vs, by rw [List.getElem?_set_ne (Ne.symm hj)]; exact k1, k2⟩
  · rcases key j _ e1 with ⟨rfl, _, hi⟩ | ⟨hj, q1⟩
    · rcases key k _ e2 with ⟨rfl, _, _⟩ | ⟨hk, q2⟩
      · rfl
      · rw [List.getElem?_set_self hi] at e3
        cases e3
        rw [List.getElem?_set_ne (Ne.symm hk)] at e4
        exact absurd e4 (np k _ q2)
    · rw [List.getElem?_set_ne (Ne.symm hj)] at e3
      rcases key k _ e2 with ⟨rfl, _, hi⟩ | ⟨hk, q2⟩
      · rw [List.getElem?_set_self hi] at e4
        cases e4
        exact absurd e3 (np j _ q1)
      · rw [List.getElem?_set_ne (Ne.symm hk)] at e4
        exact I.dist j k _ _ b q1 q2 e3 e4
theorem EnvOk.freeze (I : EnvOk C M σ H ρ f) {i : Nat} {ow : Ow} (ei : ρ[i]? = some (.own ow)) : ∃ M', EnvOk C M' σ H (ρ.set i (.v (frW ow))) f ∧ Sub (mask M H) (mask M' H) := by
  obtain ⟨a, o, h1, h2, h3, h4, h5, h6, h7, h8⟩ := I.own i ow ei
  have hi : i < ρ.length := (List.getElem?_eq_some_iff.mp ei).1
  have sb : Sub (mask M H) (mask (unM M a) H) := fun b u e => by
    obtain ⟨m1, m2⟩ := mask_some e
    refine mask_at ?_ m2
    unfold unM
    split
    · rfl
    · exact m1
  have key : ∀ (j : Nat) (s : Slot), (ρ.set i (.v (frW ow)))[j]? = some s → (j = i ∧ s = .v (frW ow)) ∨ (j ≠ i ∧ ρ[j]? = some s) := by
    intro j s e
    by_cases hj : i = j
    · subst hj
      rw [List.getElem?_set_self hi] at e
      exact .inl ⟨rfl, (Option.some.inj e).symm⟩
    · rw [List.getElem?_set_ne hj] at e
      exact .inr ⟨fun q => hj q.symm, e⟩
  have ha : mask (unM M a) H a = some o := mask_at (by unfold unM; rw [if_pos rfl]) h6
  refine ⟨unM M a, ⟨by simp [I.len], fun j w' e => ?_, fun j ds e => ?_, fun j k ds es' b e1 e2 e3 e4 => ?_, I.feed, ?_, fun b e => ?_, I.old, fun b e => ?_, fun b e => ?_, I.ck, fun ca r e => ?_⟩, sb⟩
  · rcases key j _ e with ⟨rfl, e2⟩ | ⟨hj, e2⟩
    · cases e2
      refine ⟨_, h1, ?_⟩
      cases ow with
      | lst ds =>
        cases o with
        | lst vs => exact Rp.lst ha (RpAll.mono sb _ _ h7)
        | _ => exact False.elim h7
      | tab kvs =>
        cases o with
        | dK ks => exact ⟨a, ks, rfl, ha, Tab.mono sb h7⟩
        | _ => exact False.elim h7
    · obtain ⟨v, k1, k2⟩ := I.val j w' e2
      exact ⟨v, k1, k2.mono sb⟩
  · rcases key j _ e with ⟨_, e2⟩ | ⟨hj, e2⟩
    · cases e2
    · obtain ⟨b, vs, k1, k2, k3, k4, k5, k6, k7, k8⟩ := I.own j ds e2
      have hb : b ≠ a := fun z => hj (I.dist j i ds ow a e2 ei (by rw [← z]; exact k1) h1)
      refine ⟨b, vs, k1, ?_, k3, k4, k5, k6, k7.mono sb, k8⟩
      unfold unM
      rw [if_neg hb]
      exact k2
  · rcases key j _ e1 with ⟨_, q⟩ | ⟨hj, q1⟩
    · cases q
    · rcases key k _ e2 with ⟨_, q⟩ | ⟨hk, q2⟩
      · cases q
      · exact I.dist j k _ _ b q1 q2 e3 e4
  · unfold unM
    rw [if_neg (Ne.symm h5)]
    exact I.hid
  · unfold unM at e
    split at e
    · cases e
    · exact I.trk b e
  · unfold unM
    split
    · rename_i z
      rw [z, h3] at e
      cases e
    · exact I.sub b e
  · unfold unM at e
    split at e
    · cases e
    · exact I.new b e
  · unfold unM
    split
    · rfl
    · exact I.cel ca r e
/-- a value that goes out -/
theorem EnvOk.out (I : EnvOk C M σ H ρ f) : Grow C.fa C.H0 H ∧ Sub (mask M H) (mask C.M0 H) := ⟨⟨I.old, I.ck⟩, fun a o e => by
  obtain ⟨m1, m2⟩ := mask_some e
  refine mask_at ?_ m2
  cases h : C.M0 a with
  | false => rfl
  | true =>
    rw [I.sub a h] at m1
    cases m1⟩
end
theorem Fin.anti {C : Cq} {U U' : Hp} {D : Ends} {f' : Fd} {r : R} (s : Sub U U') (h : Fin C U D f' r) : Fin C U' D f' r := by
  cases r with
  | nx ρ => exact fun M' σ' H' I sb => h M' σ' H' I (s.trans sb)
  | rt w => exact h
  | bk ρ => exact fun M' σ' H' I sb => h M' σ' H' I (s.trans sb)
  | ct ρ => exact fun M' σ' H' I sb => h M' σ' H' I (s.trans sb)
  | rtT kvs => exact h

/-! ### statements -/
def sNil : MS := fun ρ f => some (.nx ρ, f)
def sSeq (a b : MS) : MS := fun ρ f => (a ρ f).bind fun p => match p.1 with
  | .nx ρ' => b ρ' p.2
  | r => some (r, p.2)
def sSet (i : Nat) (a : ME) : MS := fun ρ f => (a ρ f).map fun p => (.nx (ρ.set i (.v p.1)), p.2)
def sPar (i j : Nat) (a b : ME) : MS := fun ρ f => (a ρ f).bind fun p => (b ρ p.2).map fun q => (.nx ((ρ.set i (.v p.1)).set j (.v q.1)), q.2)
def sTup (a : ME) (g : MG) : MS := fun ρ f => (a ρ f).bind fun p => (g p.1 ρ).map fun ρ' => (.nx ρ', p.2)
def sIf (c : MT) (a b : MS) : MS := fun ρ f => (c ρ f).bind fun p => if p.1 = true then a ρ p.2 else b ρ p.2
def sRet (a : ME) : MS := fun ρ f => (a ρ f).map fun p => (.rt p.1, p.2)
def sRetN : MS := fun ρ f => some (.rt (.d .none), f)
def sDrop (a : ME) : MS := fun ρ f => (a ρ f).map fun p => (.nx ρ, p.2)
def sNo : MS := fun _ _ => none
def eNo : ME := fun _ _ => none
def forGo (g : MG) (b : MS) : List W → En → Fd → Option (R × Fd)
  | [], ρ, f => some (.nx ρ, f)
  | w :: ws, ρ, f => (g w ρ).bind fun ρ1 => (b ρ1 f).bind fun p => match p.1 with
    | .nx ρ2 => forGo g b ws ρ2 p.2
    | .ct ρ2 => forGo g b ws ρ2 p.2
    | .bk ρ2 => some (.nx ρ2, p.2)
    | .rt w => some (.rt w, p.2)
    | .rtT k => some (.rtT k, p.2)
def sFor (src : MI) (g : MG) (b : MS) : MS := fun ρ f => (src ρ f).bind fun p => forGo g b p.1 ρ p.2
def whGo (c : MT) (b : MS) : Nat → En → Fd → Option (R × Fd)
  | 0, _, _ => none
  | n + 1, ρ, f => (c ρ f).bind fun p => if p.1 = true then (b ρ p.2).bind fun q => match q.1 with
      | .nx ρ2 => whGo c b n ρ2 q.2
      | .ct ρ2 => whGo c b n ρ2 q.2
      | .bk ρ2 => some (.nx ρ2, q.2)
      | .rt w => some (.rt w, q.2)
      | .rtT k => some (.rtT k, q.2)
    else some (.nx ρ, p.2)
def sWh (n : Nat) (c : MT) (b : MS) : MS := whGo c b n
def sFrz (i : Nat) (m : MS) : MS := fun ρ f => match ρ[i]? with
  | some (.own ow) => m (ρ.set i (.v (frW ow))) f
  | _ => none
/-- x = [..], to be grown -/
def sOwnL (i : Nat) (a : MA) : MS := fun ρ f => (a ρ f).bind fun p => (datas p.1).bind fun ds => if ds.length ≤ lim then some (.nx (ρ.set i (.own (.lst ds))), p.2) else none
/-- x, y = e, [] with y to be grown -/
def sParO (i j : Nat) (a : ME) : MS := fun ρ f => (a ρ f).map fun p => (.nx ((ρ.set i (.v p.1)).set j (.own (.lst []))), p.2)
def sApp (i : Nat) (a : ME) : MS := fun ρ f => (a ρ f).bind fun p => (dOf p.1).bind fun d => match ρ[i]? with
  | some (.own (.lst ds)) => if ds.length < lim then some (.nx (ρ.set i (.own (.lst (ds ++ [d])))), p.2) else none
  | _ => none
def sExt (i : Nat) (a : ME) : MS := fun ρ f => (a ρ f).bind fun p => match p.1 with
  | .d (.list es) => match ρ[i]? with
    | some (.own (.lst ds)) => if ds.length + es.length ≤ lim then some (.nx (ρ.set i (.own (.lst (ds ++ es)))), p.2) else none
    | _ => none
  | _ => none

section
variable {X : Cx} {C : Cq} {st : Stmt} {sts rest : List Stmt} {m a b : MS} {e : Expr} {ma mb : ME} {mt : MT} {ms : MA} {pos : Pos}
theorem ys_nil : PSs X [] (rdS C sNil) := PSs.mono pss_nil fun D σ H ⟨M, ρ, f, r, f', I, q, k⟩ => by
  cases q
  exact k M σ H I (Sub.refl _)
theorem ys_one (h : PS X st (rdS C m)) : PSs X [st] (rdS C m) := pss_one h
theorem ys_cons (h1 : PS X st (rdS C a)) (h2 : PSs X rest (rdS C b)) : PSs X (st :: rest) (rdS C (sSeq a b)) := PSs.mono (pss_cons h1 h2) fun D σ H ⟨M, ρ, f, r, f', I, q, k⟩ => by
  unfold sSeq at q
  cases e1 : a ρ f with
  | none => rw [e1] at q; cases q
  | some z =>
    obtain ⟨r1, f1⟩ := z
    rw [e1] at q
    simp only [Option.bind_some] at q
    refine ⟨M, ρ, f, r1, f1, I, e1, ?_⟩
    cases r1 with
    | nx ρ1 => exact fun M' σ' H' I' sb => ⟨M', ρ1, f1, r, f', I', q, k.anti sb⟩
    | rt w => cases q; exact k
    | bk ρ1 => cases q; exact k
    | ct ρ1 => cases q; exact k
    | rtT kvs => cases q; exact k
theorem ys_never : PS X st (rdS C sNo) := ⟨fun pins s σ H D I ⟨M, ρ, f, r, f', J, q, k⟩ => nomatch q⟩
theorem ys_nevers : PSs X sts (rdS C sNo) := ⟨fun pins s σ H D I ⟨M, ρ, f, r, f', J, q, k⟩ => nomatch q⟩
theorem ye_never : PE X e (rdE C eNo) := ⟨fun pins s σ H Q I ⟨M, ρ, f, w, f', J, q, k⟩ => nomatch q⟩
theorem tset_read {i : Nat} {D : Ends} {σ : Sg} {H : Hp} (h : rdS C (sSet i ma) D σ H) : tAsg (rdE C ma) (gName i) D σ H := by
  obtain ⟨M, ρ, f, r, f', I, q, k⟩ := h
  unfold sSet at q
  cases e1 : ma ρ f with
  | none => rw [e1] at q; cases q
  | some z =>
    obtain ⟨w1, f1⟩ := z
    rw [e1] at q
    cases q
    exact ⟨M, ρ, f, w1, _, I, e1, fun v H1 g1 d1 r1 => k M _ H1 ((I.grow g1 d1).setv r1) (g1.mask I.hid)⟩
theorem ys_set {i : Nat} {x : Str} {pos' : Pos} (hN : X.N.Nodup) (hi : X.N[i]? = some x) (hx : Loc X.env.scope x) (he : PE X e (rdE C ma)) (hs : swapsWith e (some (.Name x pos')) pos.line X.env = pure false := by rfl) (hf : X.fn x = true ∨ X.env.scope.names.lookup x = some .local := by first | exact .inl rfl | exact .inr rfl | assumption) :
    PS X (.Assign [.Name x pos'] e pos) (rdS C (sSet i ma)) := PS.mono (ps_set hN hi hx he hs hf) fun D σ H h => tset_read h
theorem ys_asg {tg : Expr} {g : MG} {vs : List Nat} (he : PE X e (rdE C ma)) (hg : PG X tg (rdG C vs g)) (hs : swapsWithSole [tg] e pos.line X.env = pure false := by rfl) (hw : swappedStores [tg] e X.env = pure none := by rfl)
    (h1 : (assignEach [tg] X.env).map (·.2) = [assign tg X.env] := by rfl) : PS X (.Assign [tg] e pos) (rdS C (sTup ma g)) := PS.mono (ps_asg he hg hs hw h1) fun D σ H ⟨M, ρ, f, r, f', I, q, k⟩ => by
  unfold sTup at q
  cases e1 : ma ρ f with
  | none => rw [e1] at q; cases q
  | some z =>
    obtain ⟨w1, f1⟩ := z
    rw [e1] at q
    simp only [Option.bind_some] at q
    cases e2 : g w1 ρ with
    | none => rw [e2] at q; cases q
    | some ρ1 =>
      rw [e2] at q
      cases q
      exact ⟨M, ρ, f, w1, _, I, e1, fun v H1 g1 d1 r1 => ⟨M, ρ, _, w1, ρ1, I.grow g1 d1, r1, e2, fun σ2 I2 _ _ => k M σ2 H1 I2 (g1.mask I.hid)⟩⟩
theorem ys_par {i j : Nat} {x y : Str} {ea eb : Expr} {px py pt : Pos} {kt k2 pt2} (hc : X.calm = true) (hN : X.N.Nodup) (hi : X.N[i]? = some x) (hj : X.N[j]? = some y) (hij : i ≠ j)
    (hx : X.env.scope.names.lookup x = some .local) (hy : X.env.scope.names.lookup y = some .local) (ha : PE X ea (rdE C ma)) (hb : PE X eb (rdE C mb))
    (hw : swappedStores [.Tuple [.Name x px, .Name y py] kt pt] (.Tuple [ea, eb] k2 pt2) X.env = pure (some [x, y]))
    (hs1 : starEach [ea, eb] X.env = (false, eval ea X.env) :: starEach [eb] X.env := by rfl) (hs2 : starEach [eb] X.env = (false, eval eb X.env) :: starEach [] X.env := by rfl)
    (hs : swapsWithSole [.Tuple [.Name x px, .Name y py] kt pt] (.Tuple [ea, eb] k2 pt2) pos.line X.env = pure false := by rfl) :
    PS X (.Assign [.Tuple [.Name x px, .Name y py] kt pt] (.Tuple [ea, eb] k2 pt2) pos) (rdS C (sPar i j ma mb)) :=
  PS.mono (ps_par hc hN hi hj hij hx hy (pa_cons ha (pa_cons hb pa_nil hs2) hs1) hw hs) fun D σ H ⟨M, ρ, f, r, f', I, q, k⟩ => by
    unfold sPar at q
    cases e1 : ma ρ f with
    | none => rw [e1] at q; cases q
    | some z =>
      obtain ⟨w1, f1⟩ := z
      rw [e1] at q
      simp only [Option.bind_some] at q
      cases e2 : mb ρ f1 with
      | none => rw [e2] at q; cases q
      | some z2 =>
        obtain ⟨w2, f2⟩ := z2
        rw [e2] at q
        cases q
        refine ⟨M, ρ, f, w1, f1, I, e1, fun v H1 g1 d1 r1 => ⟨M, ρ, f1, w2, _, I.grow g1 d1, e2, fun u H2 g2 d2 r2 => ⟨v, u, rfl, ?_⟩⟩⟩
        have I2 := (I.grow g1 d1).grow g2 d2
        exact k M _ H2 ((I2.setv (r1.mono (g2.mask I.hid))).setv r2) ((g1.trans g2).mask I.hid)
theorem ys_parO {i j : Nat} {x y : Str} {ea : Expr} {px py pt pl : Pos} {kt k2 pt2} (hc : X.calm = true) (hN : X.N.Nodup) (hi : X.N[i]? = some x) (hj : X.N[j]? = some y) (hij : i ≠ j)
    (hx : X.env.scope.names.lookup x = some .local) (hy : X.env.scope.names.lookup y = some .local) (ha : PE X ea (rdE C ma))
    (hw : swappedStores [.Tuple [.Name x px, .Name y py] kt pt] (.Tuple [ea, .List [] pl] k2 pt2) X.env = pure (some [x, y]))
    (hs1 : starEach [ea, .List [] pl] X.env = (false, eval ea X.env) :: starEach [.List [] pl] X.env := by rfl) (hs2 : starEach [.List [] pl] X.env = (false, eval (.List [] pl) X.env) :: starEach [] X.env := by rfl)
    (hs : swapsWithSole [.Tuple [.Name x px, .Name y py] kt pt] (.Tuple [ea, .List [] pl] k2 pt2) pos.line X.env = pure false := by rfl) :
    PS X (.Assign [.Tuple [.Name x px, .Name y py] kt pt] (.Tuple [ea, .List [] pl] k2 pt2) pos) (rdS C (sParO i j ma)) :=
  PS.mono (ps_par hc hN hi hj hij hx hy (pa_cons ha (pa_cons (pe_lst pa_nil) pa_nil hs2) hs1) hw hs) fun D σ H ⟨M, ρ, f, r, f', I, q, k⟩ => by
    unfold sParO at q
    cases e1 : ma ρ f with
    | none => rw [e1] at q; cases q
    | some z =>
      obtain ⟨w1, f1⟩ := z
      rw [e1] at q
      cases q
      refine ⟨M, ρ, f, w1, _, I, e1, fun v H1 g1 d1 r1 => ⟨Nat.zero_le _, fun p hp => ⟨v, .ref p, rfl, ?_⟩⟩⟩
      have I1 := (I.grow g1 d1).setv (i := i) r1
      refine k _ _ _ (I1.newOwn (o := .lst []) hp .nil) ?_
      rw [mask_hid hp]
      exact g1.mask I.hid
theorem ys_if {c : Expr} {p q : List Stmt} (hc : PT X c (rdT C mt)) (ha : PSs X p (rdS C a)) (hb : PSs X q (rdS C b)) : PS X (.If c p q pos) (rdS C (sIf mt a b)) := PS.mono (ps_if hc ha hb) fun D σ H ⟨M, ρ, f, r, f', I, q, k⟩ => by
  unfold sIf at q
  cases e1 : mt ρ f with
  | none => rw [e1] at q; cases q
  | some z =>
    obtain ⟨w1, f1⟩ := z
    rw [e1] at q
    simp only [Option.bind_some] at q
    refine ⟨M, ρ, f, w1, f1, I, e1, fun H1 g1 d1 => ?_⟩
    have k1 : Fin C (mask M H1) D f' r := k.anti (g1.mask I.hid)
    cases w1 with
    | true =>
      rw [if_pos rfl] at q
      exact iteT ⟨M, ρ, f1, r, f', I.grow g1 d1, q, k1⟩
    | false =>
      rw [if_neg Bool.false_ne_true] at q
      exact iteF ⟨M, ρ, f1, r, f', I.grow g1 d1, q, k1⟩
theorem ys_ret (he : PE X e (rdE C ma)) : PS X (.Return (some e) pos) (rdS C (sRet ma)) := PS.mono (ps_ret he) fun D σ H ⟨M, ρ, f, r, f', I, q, k⟩ => by
  unfold sRet at q
  cases e1 : ma ρ f with
  | none => rw [e1] at q; cases q
  | some z =>
    obtain ⟨w1, f1⟩ := z
    rw [e1] at q
    cases q
    refine ⟨M, ρ, f, w1, _, I, e1, fun v H1 g1 d1 r1 => ?_⟩
    have I1 := I.grow g1 d1
    exact k v H1 I1.out.1 d1 (r1.mono I1.out.2)
theorem ys_retN : PS X (.Return none pos) (rdS C sRetN) := PS.mono ps_retN fun D σ H ⟨M, ρ, f, r, f', I, q, k⟩ => by
  cases q
  exact k .non H I.out.1 I.feed Rp.non
theorem ys_expr (he : PE X e (rdE C ma)) (hs : swapsWith e none pos.line X.env = pure false := by rfl) : PS X (.Expr e pos) (rdS C (sDrop ma)) := PS.mono (ps_expr he hs) fun D σ H ⟨M, ρ, f, r, f', I, q, k⟩ => by
  unfold sDrop at q
  cases e1 : ma ρ f with
  | none => rw [e1] at q; cases q
  | some z =>
    obtain ⟨w1, f1⟩ := z
    rw [e1] at q
    cases q
    exact ⟨M, ρ, f, w1, _, I, e1, fun v H1 g1 d1 r1 => k M σ H1 (I.grow g1 d1) (g1.mask I.hid)⟩
theorem ys_frz (i : Nat) (h : PS X st (rdS C m)) : PS X st (rdS C (sFrz i m)) := PS.mono h fun D σ H ⟨M, ρ, f, r, f', I, q, k⟩ => by
  unfold sFrz at q
  split at q
  · rename_i ow e1
    obtain ⟨M', I', sb⟩ := I.freeze e1
    exact ⟨M', _, f, r, f', I', q, k.anti sb⟩
  · cases q
theorem ys_for {tg iter : Expr} {src : MI} {g : MG} {vs : List Nat} (hp : PassesOwn (model X.prog X.w) X.A X.env X.xe) (hc : X.calm = true) (hi : PI X tg iter (rdI C src)) (hg : PG X tg (rdG C vs g)) (hb : PSs X sts (rdS C b))
    (hs : ∀ x, foldedSetIterable iter X.env x = pure x := by intro _; rfl) : PS X (.For tg iter sts [] pos) (rdS C (sFor src g b)) := PS.mono (ps_for hp hc hi hg hb hs) fun D σ H ⟨M, ρ, f, r, f', I, q, k⟩ => by
  unfold sFor at q
  cases e1 : src ρ f with
  | none => rw [e1] at q; cases q
  | some z =>
    obtain ⟨ws, f1⟩ := z
    rw [e1] at q
    simp only [Option.bind_some] at q
    refine ⟨M, ρ, f, ws, f1, I, e1, fun J H1 g1 d1 wk => ?_⟩
    have I1 := I.grow g1 d1
    have k1 : Fin C (mask M H1) D f' r := k.anti (g1.mask I.hid)
    refine ⟨fun i m σ H => m = ws.length - i ∧ i ≤ ws.length ∧ ∃ M2 ρ2 f2, EnvOk C M2 σ H ρ2 f2 ∧ Sub (mask M H1) (mask M2 H) ∧ forGo g b (ws.drop i) ρ2 f2 = some (r, f'), ⟨ws.length, by simp, Nat.zero_le _, M, ρ, f1, I1, Sub.refl _, by simpa using q⟩, ?_⟩
    rintro i m σ2 H2 ⟨rfl, hi, M2, ρ2, f2, I2, s2, e2⟩
    have sH : Sub (mask M H1) H2 := s2.trans (mask_sub M2 H2)
    by_cases hlt : i < ws.length
    · refine .inr ⟨wk.go i H2 sH hlt, fun σ3 H3 => ∃ M3 ρ3 f3, EnvOk C M3 σ3 H3 ρ3 f3 ∧ Sub (mask M H1) (mask M3 H3) ∧ forGo g b (ws.drop (i + 1)) ρ3 f3 = some (r, f'), fun σ3 H3 z => ⟨ws.length - (i + 1), by omega, rfl, hlt, z⟩, fun x H3 y => ?_⟩
      obtain ⟨sb, rw1⟩ := wk.yld i H2 x H3 ws[i] sH y (by simp)
      have r1 := rw1 M2 s2 fun p hp => I2.fresh hp
      rw [List.drop_eq_getElem_cons hlt] at e2
      unfold forGo at e2
      cases e3 : g ws[i] ρ2 with
      | none => rw [e3] at e2; cases e2
      | some ρ3 =>
        rw [e3] at e2
        simp only [Option.bind_some] at e2
        cases e4 : b ρ3 f2 with
        | none => rw [e4] at e2; cases e2
        | some z =>
          obtain ⟨r4, f4⟩ := z
          rw [e4] at e2
          simp only [Option.bind_some] at e2
          have I3 := I2.grow (Grow.of_sub sb) (I2.feed.sub sb)
          have s3 : Sub (mask M H1) (mask M2 H3) := s2.trans ((Grow.of_sub sb).mask I2.hid)
          refine ⟨M2, ρ2, f2, ws[i], ρ3, I3, r1, e3, fun σ4 I4 _ _ => ⟨M2, ρ3, f2, r4, f4, I4, e4, ?_⟩⟩
          cases r4 with
          | nx ρ5 => exact fun M' σ' H' I' sb' => ⟨M', ρ5, f4, I', s3.trans sb', e2⟩
          | ct ρ5 => exact fun M' σ' H' I' sb' => ⟨M', ρ5, f4, I', s3.trans sb', e2⟩
          | bk ρ5 =>
            cases e2
            exact fun M' σ' H' I' sb' => k1 M' σ' H' I' (s3.trans sb')
          | rt w =>
            cases e2
            exact k1
          | rtT w =>
            cases e2
            exact k1
    · have ei : i = ws.length := by omega
      subst ei
      rw [List.drop_length] at e2
      cases e2
      exact .inl ⟨wk.stop H2 sH, k1 M2 σ2 H2 I2 s2⟩
theorem ys_while {c : Expr} (n : Nat) (hp : PassesOwn (model X.prog X.w) X.A X.env X.xe) (hc : PT X c (rdT C mt)) (hb : PSs X sts (rdS C b)) : PS X (.While c sts [] pos) (rdS C (sWh n mt b)) := PS.mono (ps_while hp hc hb) fun D σ H ⟨M, ρ, f, r, f', I, q, k⟩ => by
  unfold sWh at q
  refine ⟨fun m σ2 H2 => ∃ M2 ρ2 f2, EnvOk C M2 σ2 H2 ρ2 f2 ∧ Sub (mask M H) (mask M2 H2) ∧ whGo mt b m ρ2 f2 = some (r, f'), ⟨n, M, ρ, f, I, Sub.refl _, q⟩, ?_⟩
  rintro m σ2 H2 ⟨M2, ρ2, f2, I2, s2, e2⟩
  cases m with
  | zero => cases e2
  | succ m =>
    unfold whGo at e2
    cases e3 : mt ρ2 f2 with
    | none => rw [e3] at e2; cases e2
    | some z =>
      obtain ⟨c3, f3⟩ := z
      rw [e3] at e2
      simp only [Option.bind_some] at e2
      refine ⟨M2, ρ2, f2, c3, f3, I2, e3, fun H3 g3 d3 => ?_⟩
      have I3 := I2.grow g3 d3
      have s3 : Sub (mask M H) (mask M2 H3) := s2.trans (g3.mask I2.hid)
      cases c3 with
      | true =>
        rw [if_pos rfl] at e2
        refine iteT ⟨fun σ4 H4 => ∃ M4 ρ4 f4, EnvOk C M4 σ4 H4 ρ4 f4 ∧ Sub (mask M H) (mask M4 H4) ∧ whGo mt b m ρ4 f4 = some (r, f'), fun σ4 H4 z => ⟨m, Nat.lt_succ_self m, z⟩, ?_⟩
        cases e4 : b ρ2 f3 with
        | none => rw [e4] at e2; cases e2
        | some z =>
          obtain ⟨r4, f4⟩ := z
          rw [e4] at e2
          simp only [Option.bind_some] at e2
          refine ⟨M2, ρ2, f3, r4, f4, I3, e4, ?_⟩
          cases r4 with
          | nx ρ5 => exact fun M' σ' H' I' sb' => ⟨M', ρ5, f4, I', s3.trans sb', e2⟩
          | ct ρ5 => exact fun M' σ' H' I' sb' => ⟨M', ρ5, f4, I', s3.trans sb', e2⟩
          | bk ρ5 =>
            cases e2
            exact fun M' σ' H' I' sb' => k M' σ' H' I' (s3.trans sb')
          | rt w =>
            cases e2
            exact k
          | rtT w =>
            cases e2
            exact k
      | false =>
        rw [if_neg Bool.false_ne_true] at e2
        cases e2
        exact iteF (k M2 σ2 H3 I3 s3)

/-! ### owned lists -/
theorem ys_ownL {i : Nat} {x : Str} {es : List Expr} {pos' pl : Pos} (hN : X.N.Nodup) (hi : X.N[i]? = some x) (hx : Loc X.env.scope x) (he : PA X es (rdA C ms)) (hs : swapsWith (.List es pl) (some (.Name x pos')) pos.line X.env = pure false := by rfl) (hf : X.fn x = true ∨ X.env.scope.names.lookup x = some .local := by first | exact .inl rfl | exact .inr rfl | assumption) :
    PS X (.Assign [.Name x pos'] (.List es pl) pos) (rdS C (sOwnL i ms)) := PS.mono (ps_set hN hi hx (pe_lst he) hs hf) fun D σ H ⟨M, ρ, f, r, f', I, q, k⟩ => by
  unfold sOwnL at q
  cases e1 : ms ρ f with
  | none => rw [e1] at q; cases q
  | some z =>
    obtain ⟨ws, f1⟩ := z
    rw [e1] at q
    simp only [Option.bind_some] at q
    cases e2 : datas ws with
    | none => rw [e2] at q; cases q
    | some ds =>
      rw [e2] at q
      simp only [Option.bind_some] at q
      split at q
      · rename_i hl
        cases q
        refine ⟨M, ρ, f, ws, _, I, e1, fun vs H1 g1 d1 r1 => ?_⟩
        have rr := datas_rp r1 e2
        refine ⟨lim_ok (by rw [rr.length]; exact hl), fun p hp => ?_⟩
        refine k _ _ _ ((I.grow g1 d1).newOwn (o := .lst vs) hp rr) ?_
        rw [mask_hid hp]
        exact g1.mask I.hid
      · cases q
theorem own_at {M : Addr → Bool} {σ : Sg} {H : Hp} {ρ : En} {f : Fd} {i : Nat} {ds : List PyData} (I : EnvOk C M σ H ρ f) (e : ρ[i]? = some (.own (.lst ds))) : ∃ a vs, σ[i]? = some (some (.ref a)) ∧ M a = true ∧ H a = some (.lst vs) ∧ RpAll (mask M H) vs ds := by
  obtain ⟨a, o, h1, h2, h3, h4, h5, h6, h7, h8⟩ := I.own i _ e
  cases o with
  | lst vs => exact ⟨a, vs, h1, h2, h6, h7⟩
  | _ => exact False.elim h7
theorem ys_app {i : Nat} {x : Str} {px apos cpos : Pos} (hv : PE X (.Name x px) (tVar i)) (he : PE X e (rdE C ma))
    (hbase : attributeBase (.Name x px) "append" X.env (eval (.Name x px) X.env) = eval (.Name x px) X.env := by rfl)
    (hfew : ((backTo cpos (starEach [e] X.env)).all (fun x => !x.1) && (backToKw cpos (keywordEach [] X.env)).all (fun x => x.1.isSome)
      && decide (([e] : List Expr).length + ([] : List Keyword).length + (if ([] : List Keyword).isEmpty then 0 else 1) < 30)) = true := by rfl)
    (hline : (apos.endLine == cpos.line) = true := by rfl) (hs : starEach [e] X.env = (false, eval e X.env) :: starEach [] X.env := by rfl) (hplain : (backTo cpos (starEach [] X.env)).any (·.1) = false := by rfl)
    (hsw : swapsWith (.Call (.Attribute (.Name x px) "append" apos) [e] [] cpos) none pos.line X.env = pure false := by rfl) :
    PS X (.Expr (.Call (.Attribute (.Name x px) "append" apos) [e] [] cpos) pos) (rdS C (sApp i ma)) :=
  PS.mono (ps_expr (pe_bm PySem.F.plainAttrs_list PySem.F.slot_list_append PySem.F.type_list_append mt_append hv (pa_cons he pa_nil hs) hbase hfew hline hs hplain) hsw) fun D σ H ⟨M, ρ, f, r, f', I, q, k⟩ => by
    unfold sApp at q
    cases e1 : ma ρ f with
    | none => rw [e1] at q; cases q
    | some z =>
      obtain ⟨w, f1⟩ := z
      rw [e1] at q
      simp only [Option.bind_some] at q
      cases e2 : dOf w with
      | none => rw [e2] at q; cases q
      | some d =>
        rw [e2] at q
        simp only [Option.bind_some] at q
        split at q
        · rename_i ds eo
          split at q
          · rename_i hl
            cases q
            obtain ⟨a, vs, h1, h2, h3, h4⟩ := own_at I eo
            refine ⟨.ref a, h1, .inl ⟨rfl, _, SqL.of h3⟩, M, ρ, f, w, _, I, e1, fun v H1 g1 d1 r1 => ?_⟩
            have I1 := I.grow g1 d1
            obtain ⟨a', vs', h1', h2', h3', h4'⟩ := own_at I1 eo
            rw [h1] at h1'
            cases h1'
            refine ⟨a, vs', v, rfl, rfl, h3', lim_lt (by rw [h4'.length]; exact hl), ?_⟩
            have rd : Rp (mask M H1) v d := by
              cases w with
              | d x => cases e2; exact r1
              | t _ => cases e2
              | f => cases e2
            refine k M σ _ (I1.setOwn eo h1 (show OwnRp (mask M H1) (.lst (vs' ++ [v])) (.lst (ds ++ [d])) from h4'.append (.cons rd .nil))) ?_
            rw [mask_upd h2]
            exact g1.mask I.hid
          · cases q
        · cases q
theorem ys_ext {i : Nat} {x : Str} {px apos cpos : Pos} (hv : PE X (.Name x px) (tVar i)) (he : PE X e (rdE C ma))
    (hbase : attributeBase (.Name x px) "extend" X.env (eval (.Name x px) X.env) = eval (.Name x px) X.env := by rfl)
    (hfew : ((backTo cpos (starEach [e] X.env)).all (fun x => !x.1) && (backToKw cpos (keywordEach [] X.env)).all (fun x => x.1.isSome)
      && decide (([e] : List Expr).length + ([] : List Keyword).length + (if ([] : List Keyword).isEmpty then 0 else 1) < 30)) = true := by rfl)
    (hline : (apos.endLine == cpos.line) = true := by rfl) (hs : starEach [e] X.env = (false, eval e X.env) :: starEach [] X.env := by rfl) (hplain : (backTo cpos (starEach [] X.env)).any (·.1) = false := by rfl)
    (hsw : swapsWith (.Call (.Attribute (.Name x px) "extend" apos) [e] [] cpos) none pos.line X.env = pure false := by rfl) :
    PS X (.Expr (.Call (.Attribute (.Name x px) "extend" apos) [e] [] cpos) pos) (rdS C (sExt i ma)) :=
  PS.mono (ps_expr (pe_bm PySem.F.plainAttrs_list PySem.F.slot_list_extend PySem.F.type_list_extend mt_extend hv (pa_cons he pa_nil hs) hbase hfew hline hs hplain) hsw) fun D σ H ⟨M, ρ, f, r, f', I, q, k⟩ => by
    unfold sExt at q
    cases e1 : ma ρ f with
    | none => rw [e1] at q; cases q
    | some z =>
      obtain ⟨w, f1⟩ := z
      rw [e1] at q
      simp only [Option.bind_some] at q
      split at q
      · rename_i es
        split at q
        · rename_i ds eo
          split at q
          · rename_i hl
            cases q
            obtain ⟨a, vs, h1, h2, h3, h4⟩ := own_at I eo
            refine ⟨.ref a, h1, .inl ⟨rfl, _, SqL.of h3⟩, M, ρ, f, _, _, I, e1, fun v H1 g1 d1 r1 => ?_⟩
            have I1 := I.grow g1 d1
            obtain ⟨a', vs', h1', h2', h3', h4'⟩ := own_at I1 eo
            rw [h1] at h1'
            cases h1'
            cases r1 with
            | @lst b us _ b1 b2 =>
              refine ⟨a, b, vs', us, rfl, rfl, h3', (mask_some b1).2, lim_ok (by rw [h4'.length, b2.length]; exact hl), ?_⟩
              refine k M σ _ (I1.setOwn eo h1 (show OwnRp (mask M H1) (.lst (vs' ++ us)) (.lst (ds ++ es)) from h4'.append b2)) ?_
              rw [mask_upd h2]
              exact g1.mask I.hid
          · cases q
        · cases q
      · cases q
end
end Y
end KLayG
section KLayH
set_option Elab.async false
set_option linter.all false
set_option maxRecDepth 100000
set_option maxHeartbeats 4000000
/-! The layer: defs and calls. -/
namespace Y
open PySem PySem.Spec PyProof.Rows L2

/-- a def's promise, where no repr is under way -/
structure FnG (P : Program) (w : World) (K : PySem.W.Frag) (mg : Str → Option Value) (base : Heap) (k : Nat) (f : Addr) (fd : FuncData) (ps : List Str) (sp : Sp) : Prop where
  len : ∀ vs H Q E, sp vs H Q E → vs.length = ps.length
  run : ∀ (A : Around) (outer : List Env) (s : Shared) (H : Hp) (args : Args) (us : List Value) (vs : List V) (Q : VK) (E : XK), A.guards = some [] → Room k A → Env0 P w K mg base A outer s H → BindsTo s fd args (ps.zip us) → Vals vs us → sp vs H Q E →
    codeAny (model P w) A (.call (.ref f) args) (CR CX0 outer P w H s Q E) s
theorem FnG.mono {P : Program} {w : World} {K : PySem.W.Frag} {mg : Str → Option Value} {base : Heap} {j k : Nat} {f : Addr} {fd : FuncData} {ps : List Str} {sp : Sp} (F : FnG P w K mg base j f fd ps sp) (h : j ≤ k) :
    FnG P w K mg base k f fd ps sp := ⟨F.len, fun A outer s H args us vs Q E g hr => F.run A outer s H args us vs Q E g (hr.mono h)⟩
theorem FnG.imp {P : Program} {w : World} {K : PySem.W.Frag} {mg : Str → Option Value} {base : Heap} {k : Nat} {f : Addr} {fd : FuncData} {ps : List Str} {sp sp' : Sp} (F : FnG P w K mg base k f fd ps sp)
    (h : ∀ vs H Q E, sp' vs H Q E → sp vs H Q E) : FnG P w K mg base k f fd ps sp' :=
  ⟨fun vs H Q E q => F.len vs H Q E (h _ _ _ _ q), fun A outer s H args us vs Q E g hr he hb hv hs => F.run A outer s H args us vs Q E g hr he hb hv (h _ _ _ _ hs)⟩
/-- a def that stands behind the top, whatever its defaults -/
structure DefAt (K : PySem.W.Frag) (name qual : Str) (st : Stmt) (f : Addr) (fd : FuncData) : Prop where
  ex : ∃ (oc : Value) (od : Option Addr) (dV kV doc pm : Value) (an : Option Addr) (cdv ct : Value) (osl : Array (Option Value)),
    fd = PySem.W.fnOf name qual (defArgs st) (defBody st) (defScope st) dV kV doc pm an cdv ct ∧ K.lookup f = some ⟨oc, od, .func fd, osl⟩ ∧ PySem.W.codeIn K cdv qual = true
theorem fn_ofG {P : Program} {w : World} {K : PySem.W.Frag} {mg : Str → Option Value} {base : Heap} {k : Nat} {f : Addr} {fd : FuncData} {name qual : Str} {st : Stmt} {N ps : List Str} {sp : Sp} (F : DefAt K name qual st f fd) (S : FnScope N ps (defScope st))
    (len : ∀ vs H Q E, sp vs H Q E → vs.length = ps.length)
    (hbody : ∀ (cdv : Value) (A : Around) (outer : List Env) (s : Shared) (H : Hp) (vs : List V) (Q : VK) (E : XK), A.guards = some [] → Room k (A.deeper (envOfC qual (defScope st) s.heap.objs.size f cdv)) → sp vs H Q E →
      ∃ t, PSs (cxOf CX0 P w K mg base N qual (defScope st) f cdv A outer s H E).nox (defBody st) t ∧ t { nx := fun _ H' => Q .non H', rt := Q } (start N vs) H) :
    FnG P w K mg base (k + 1) f fd ps sp := by
  obtain ⟨oc, od, dV, kV, doc, pm, an, cdv, ct, osl, rfl, lk, hcd⟩ := F.ex
  refine ⟨len, fun A outer s H args us vs Q E hgd hr e0 hb r hsp => ?_⟩
  have hl := len _ _ _ _ hsp
  have KX : K.In s.heap := e0.mod.kin.keeps fun b o e => (e0.bs b o e).1
  have lim : s.heap.NoLimit := e0.mod.nolimit.keeps fun b o e => (e0.bs b o e).1
  have hkind : ∀ y ∈ ps.zip us, (defScope st).names.lookup y.1 = some .local ∨ ((defScope st).names.lookup y.1 = some .cell ∧ ((cellsFrom (s.heap.objs.size + 1) (defScope st).names []).lookup y.1).isSome = true) := fun ⟨n, v⟩ hy => by
    rcases S.par n (List.of_mem_zip hy).1 with q | q
    · exact .inl q
    · exact .inr ⟨q, PySem.W.cellsFrom_some _ _ _ (.inl q)⟩
  refine codeAny_call_function hr.depth (KX _ _ lk) rfl S.co S.gen rfl (PySem.W.codeRec_of KX hcd) (hb _ _ _ _ ?_)
  refine wpAny_newFunctionEnv_cells S.kind hkind fun env he s1 x => ?_
  subst he
  refine ⟨lim.keeps x.toInCall.keep, codeAny_func ?_⟩
  obtain ⟨t, ht, hq⟩ := hbody cdv A outer s H vs Q E hgd (hr.deeper _) hsp
  have I : Inv (cxOf CX0 P w K mg base N qual (defScope st) f cdv A outer s H E) [] (start N vs) H s1 := inv_start S hr.hd e0 hl r x
  refine wpAny_mono (ht.nox.run [] s1 (start N vs) H _ I hq) (fun fl s' hs => ?_) fun e s' hs => hs
  have fin : ∀ {σ' : L2.St} {H' : Hp} {v : V} {u : Value}, Inv (cxOf CX0 P w K mg base N qual (defScope st) f cdv A outer s H E) [] σ' H' s' → RelV v u → Q v H' → CE outer P w H s Q u s' :=
    fun {σ' H' v u} J rv q => ⟨v, H', J.os, J.bare, J.base, J.hok, rv, q⟩
  cases fl with
  | ret u =>
    obtain ⟨v, σ', H', J, rv, q⟩ := hs
    exact fin J rv q
  | next =>
    obtain ⟨σ', H', J, q⟩ := hs
    exact fin (v := V.non) (u := Value.none) J rfl q
  | brk =>
    obtain ⟨_, _, _, q⟩ := hs
    exact False.elim q
  | cont =>
    obtain ⟨_, _, _, q⟩ := hs
    exact False.elim q

/-! ### the promise by a meaning -/
def spI (fn : FN) : Sp := fun vs H Q _ => ∃ fa M f ws w f', M fa = true ∧ FeedAt fa H f ∧ Cel fa M H ∧ (∀ a, M a = true → ∃ o, H a = some o) ∧ Rws fa (mask M H) vs ws ∧ fn ws f = some (w, f') ∧ ∀ v H', Grow fa H H' → FeedAt fa H' f' → Rw fa (mask M H') v w → Q v H'
def ρ0 (n : Nat) (ws : List W) : En := ws.map Slot.v ++ List.replicate (n - ws.length) Slot.un
/-- a body's meaning as a function: n slots, a parameters -/
def fnB (n a : Nat) (m : MS) : FN := fun ws f => if ws.length = a then match m (ρ0 n ws) f with
  | some (.rt w, f') => some (w, f')
  | some (.nx _, f') => some (.d .none, f')
  | _ => none else none
theorem rws_len {fa : Addr} {U : Hp} {vs : List V} {ws : List W} (h : Rws fa U vs ws) : vs.length = ws.length := Paired.length h
theorem env_start {fa : Addr} {M : Addr → Bool} {H : Hp} {N : List Str} {vs : List V} {ws : List W} {f : Fd} (hf : M fa = true) (hd : FeedAt fa H f) (hce : Cel fa M H) (ht : ∀ a, M a = true → ∃ o, H a = some o) (r : Rws fa (mask M H) vs ws) :
    EnvOk ⟨fa, H, M⟩ M (start N vs) H (ρ0 N.length ws) f := by
  have hl := rws_len r
  have key : ∀ (i : Nat) (s : Slot), (ρ0 N.length ws)[i]? = some s → (∃ w, ws[i]? = some w ∧ s = .v w) ∨ s = .un := by
    intro i s e
    unfold ρ0 at e
    by_cases hi : i < ws.length
    · rw [List.getElem?_append_left (by simpa using hi), List.getElem?_map] at e
      cases q : ws[i]? with
      | none => rw [q] at e; cases e
      | some w => rw [q] at e; cases e; exact .inl ⟨w, rfl, rfl⟩
    · rw [List.getElem?_append_right (by simpa using hi), List.getElem?_replicate] at e
      split at e
      · cases e; exact .inr rfl
      · cases e
  refine ⟨?_, fun i w e => ?_, fun i o e => ?_, fun i j ds es a e => ?_, hd, hf, ht, fun b o _ e => e, fun a e => e, fun a e => .inl e, CK.refl _ _, hce⟩
  · unfold ρ0 L2.start
    simp [hl]
  · rcases key i _ e with ⟨w', e1, e2⟩ | e2
    · cases e2
      have := Paired.get' r e1
      obtain ⟨v, h1, h2⟩ := this
      refine ⟨v, ?_, h2⟩
      unfold L2.start
      have hi : i < vs.length := (List.getElem?_eq_some_iff.mp h1).1
      rw [List.getElem?_append_left (by simpa using hi), List.getElem?_map, h1]
      rfl
    · cases e2
  · rcases key i _ e with ⟨w', _, e2⟩ | e2 <;> cases e2
  · rcases key i _ e with ⟨w', _, e2⟩ | e2 <;> cases e2
where
  Paired.get' {α β : Type} {G : α → β → Prop} : ∀ {l₁ : List α} {l₂ : List β} {i : Nat} {b : β}, Paired G l₁ l₂ → l₂[i]? = some b → ∃ a, l₁[i]? = some a ∧ G a b
    | _, _, _, _, .nil, e => by simp at e
    | _, _, 0, _, .cons r _, e => by simp at e; subst e; exact ⟨_, rfl, r⟩
    | _, _, i + 1, _, .cons _ t, e => by
      obtain ⟨a, h1, h2⟩ := Paired.get' (i := i) t (by simpa using e)
      exact ⟨a, by simpa using h1, h2⟩
/-- THE RULE for a def by its meaning -/
theorem fn_I {P : Program} {w : World} {K : PySem.W.Frag} {mg : Str → Option Value} {base : Heap} {k : Nat} {f : Addr} {fd : FuncData} {name qual : Str} {st : Stmt} {N ps : List Str} {m : MS} (F : DefAt K name qual st f fd) (S : FnScope N ps (defScope st))
    (hbody : ∀ (C : Cq) (cdv : Value) (A : Around) (outer : List Env) (s : Shared) (H : Hp) (E : XK), A.guards = some [] → Room k (A.deeper (envOfC qual (defScope st) s.heap.objs.size f cdv)) →
      PSs (cxOf CX0 P w K mg base N qual (defScope st) f cdv A outer s H E).nox (defBody st) (rdS C m)) :
    FnG P w K mg base (k + 1) f fd ps (spI (fnB N.length ps.length m)) := by
  refine fn_ofG F S (fun vs H Q E ⟨fa, M, f, ws, w, f', hf, hd, hce, ht, r, e, _⟩ => ?_) fun cdv A outer s H vs Q E hgd hr ⟨fa, M, f, ws, w, f', hf, hd, hce, ht, r, e, q⟩ => ?_
  · unfold fnB at e
    split at e
    · rename_i hl
      rw [rws_len r, hl]
    · cases e
  · refine ⟨_, hbody ⟨fa, H, M⟩ cdv A outer s H E hgd hr, ?_⟩
    unfold fnB at e
    split at e
    · have I := env_start (N := N) hf hd hce ht r
      split at e
      · rename_i w' f'' em
        cases e
        exact ⟨M, _, f, _, _, I, em, fun v H' g d r' => q v H' g d r'⟩
      · rename_i ρ' f'' em
        cases e
        exact ⟨M, _, f, _, _, I, em, fun M' σ' H' I' _ => q .non H' I'.out.1 I'.feed Rp.non⟩
      · cases e
    · cases e

/-! ### calls -/
section
variable {X : Cx} {k : Nat} {f : Addr} {fd : FuncData} {ps : List Str} {sp : Sp} {dvs : List V} {ds : List Value} {x : Str} {p pos : Pos} {e : Expr} {es : List Expr} {t : TA}
theorem run_fnG {pins : List (Addr × Obj)} {σ : L2.St} {H : Hp} {s : Shared} {Q : VK} {us : List Value} {vs : List V} (F : FnG X.prog X.w X.K X.mg X.base k f fd ps sp) (hgd : X.A.guards = some []) (hr : Room k X.A) (hb : Binds X.K fd ps ds) (hd : Vals dvs ds)
    (I : Inv X pins σ H s) (r : Vals vs us) (h : sp (vs ++ dvs) H Q E0) : wpAny (model X.prog X.w) X.A (call (.ref f) us) (EP X pins σ Q) X.xe s := by
  have r2 : Vals (vs ++ dvs) (us ++ ds) := r.append hd
  have hl : (us ++ ds).length = ps.length := by rw [← r2.length]; exact F.len _ _ _ _ h
  refine wpAny_call (codeAny_mono (F.run X.A X.stack s H ⟨us, []⟩ (us ++ ds) (vs ++ dvs) Q E0 hgd hr I.env0 (hb s us I.kIn hl) r2 h) fun r s' hq => ?_)
  cases r with
  | error e => exact False.elim hq
  | ok fl =>
    cases fl with
    | ret u => exact I.after hq
    | next => exact False.elim hq
    | brk => exact False.elim hq
    | cont => exact False.elim hq
theorem pe_callG (F : FnG X.prog X.w X.K X.mg X.base k f fd ps sp) (hgd : X.A.guards = some []) (hr : Room k X.A) (hg : Gl X x) (hm : X.mg x = some (.ref f)) (hk : PySem.W.keepIn X.K (.ref f) = true) (hb : Binds X.K fd ps ds) (hd : Vals dvs ds)
    (ha : PA X (e :: es) t) (hdb : (x == ("__debug__" : Str)) = false := by decide) (he : starEach (e :: es) X.env = (false, eval e X.env) :: starEach es X.env := by rfl) (hpl : (backTo pos (starEach es X.env)).any (·.1) = false := by rfl) :
    PE X (.Call (.Name x p) (e :: es) [] pos) (tCall sp dvs E0 t) := by
  refine ⟨fun pins s σ H Q I h => ?_⟩
  refine wpAny_Call_Name_kw (ld_glob I hg hm ?_ hdb)
  refine PySem.W.callWith_K (h₀ := X.base) I.ok.mod.kin hk (thn (ha.run pos pins s σ H _ I h) fun us s1 ⟨vs, H1, I1, r, q⟩ => ⟨I1.kIn, ?_⟩) he hpl
  exact run_fnG F hgd hr hb hd I1 r q
def mCallD (fn : FN) (dws : List W) (a : MA) : ME := fun ρ f => (a ρ f).bind fun p => fn (p.1 ++ dws) p.2
variable {C : Cq} {fn : FN} {ms : MA} {dws : List W}
theorem tcall_read {σ : L2.St} {H : Hp} {Q : VK} (hrep : ∀ U, Rws C.fa U dvs dws) (h : rdE C (mCallD fn dws ms) σ H Q) : tCall (spI fn) dvs E0 (rdA C ms) σ H Q := by
  obtain ⟨M, ρ, f, w, f', I, q, k⟩ := h
  unfold mCallD at q
  cases e1 : ms ρ f with
  | none => rw [e1] at q; cases q
  | some z =>
    obtain ⟨ws, f1⟩ := z
    rw [e1] at q
    simp only [Option.bind_some] at q
    refine ⟨M, ρ, f, ws, f1, I, e1, fun vs H1 g1 d1 r1 => ?_⟩
    have I1 := I.grow g1 d1
    exact ⟨C.fa, M, f1, ws ++ dws, w, f', I.hid, d1, I1.cel, I1.trk, Paired.app r1 (hrep _), q, fun v H2 g2 d2 r2 => k v H2 (g1.trans g2) d2 r2⟩
theorem ye_callD (F : FnG X.prog X.w X.K X.mg X.base k f fd ps (spI fn)) (hgd : X.A.guards = some []) (hr : Room k X.A) (hg : Gl X x) (hm : X.mg x = some (.ref f)) (hk : PySem.W.keepIn X.K (.ref f) = true) (hb : Binds X.K fd ps ds) (hd : Vals dvs ds) (hrep : ∀ U, Rws C.fa U dvs dws)
    (ha : PA X (e :: es) (rdA C ms)) (hdb : (x == ("__debug__" : Str)) = false := by decide) (he : starEach (e :: es) X.env = (false, eval e X.env) :: starEach es X.env := by rfl) (hpl : (backTo pos (starEach es X.env)).any (·.1) = false := by rfl) :
    PE X (.Call (.Name x p) (e :: es) [] pos) (rdE C (mCallD fn dws ms)) := PE.mono (pe_callG F hgd hr hg hm hk hb hd ha hdb he hpl) fun _ _ _ h => tcall_read hrep h
theorem mCall_eq (fn : FN) (a : MA) : mCall fn a = mCallD fn [] a := by
  funext ρ f
  unfold mCall mCallD
  congr
  funext p
  rw [List.append_nil]
theorem ye_call (F : FnG X.prog X.w X.K X.mg X.base k f fd ps (spI fn)) (hgd : X.A.guards = some []) (hr : Room k X.A) (hg : Gl X x) (hm : X.mg x = some (.ref f)) (hk : PySem.W.keepIn X.K (.ref f) = true) (hb : Binds X.K fd ps [])
    (ha : PA X (e :: es) (rdA C ms)) (hdb : (x == ("__debug__" : Str)) = false := by decide) (he : starEach (e :: es) X.env = (false, eval e X.env) :: starEach es X.env := by rfl) (hpl : (backTo pos (starEach es X.env)).any (·.1) = false := by rfl) :
    PE X (.Call (.Name x p) (e :: es) [] pos) (rdE C (mCall fn ms)) := by
  rw [mCall_eq]
  exact ye_callD F hgd hr hg hm hk hb .nil (fun _ => .nil) ha hdb he hpl
/-- f(e, .., k = v, ..) -/
def mCallN (fn : FN) (a b : MA) : ME := fun ρ f => (a ρ f).bind fun p => (b ρ p.2).bind fun q => fn (p.1 ++ q.1) q.2
theorem ye_callN {n : Nat} {ks : List Str} {kws : List Keyword} {mk : MA} (F : FnG X.prog X.w X.K X.mg X.base k f fd ps (spI fn)) (hgd : X.A.guards = some []) (hr : Room k X.A) (hg : Gl X x) (hm : X.mg x = some (.ref f)) (hk : PySem.W.keepIn X.K (.ref f) = true)
    (hb : KBn X.K fd ps n ks (fun us ws => us ++ ws) (fun vs zs => vs ++ zs)) (hn : ∀ ρ f ws f', ms ρ f = some (ws, f') → ws.length = n) (hnk : ∀ ρ f ws f', mk ρ f = some (ws, f') → ws.length = ks.length)
    (ha : PA X (e :: es) (rdA C ms)) (hkw : PK X kws (rdA C mk)) (hall : (backToKw pos (keywordEach kws X.env)).all (·.1.isSome) = true := by rfl) (hks : (backToKw pos (keywordEach kws X.env)).filterMap (·.1) = ks := by rfl)
    (hdb : (x == ("__debug__" : Str)) = false := by decide) (he : starEach (e :: es) X.env = (false, eval e X.env) :: starEach es X.env := by rfl)
    (hpl : ((backTo pos (starEach (e :: es) X.env)).any (·.1) || (backToKw pos (keywordEach kws X.env)).any (·.1.isNone)) = false := by rfl) :
    PE X (.Call (.Name x p) (e :: es) kws pos) (rdE C (mCallN fn ms mk)) := by
  refine ⟨fun pins s σ H Q I ⟨M, ρ, f0, w, f', J, q, kk⟩ => ?_⟩
  refine wpAny_Call_Name_kw (ld_glob I hg hm ?_ hdb)
  unfold mCallN at q
  cases e1 : ms ρ f0 with
  | none => rw [e1] at q; cases q
  | some z =>
    obtain ⟨ws1, f1⟩ := z
    rw [e1] at q
    simp only [Option.bind_some] at q
    cases e2 : mk ρ f1 with
    | none => rw [e2] at q; cases q
    | some z2 =>
      obtain ⟨ws2, f2⟩ := z2
      rw [e2] at q
      simp only [Option.bind_some] at q
      have h : rdA C ms σ H fun vs H1 => rdA C mk σ H1 fun zs H2 => vs.length = n ∧ zs.length = ks.length ∧ spI fn (vs ++ zs) H2 Q E0 :=
        ⟨M, ρ, f0, ws1, f1, J, e1, fun vs H1 g1 d1 r1 => ⟨M, ρ, f1, ws2, f2, J.grow g1 d1, e2, fun zs H2 g2 d2 r2 => ⟨(rws_len r1).trans (hn _ _ _ _ e1), (rws_len r2).trans (hnk _ _ _ _ e2),
          C.fa, M, f2, ws1 ++ ws2, w, f', J.hid, d2, ((J.grow g1 d1).grow g2 d2).cel, ((J.grow g1 d1).grow g2 d2).trk, Paired.app (r1.mono (g2.mask J.hid)) r2, q, fun v H3 g3 d3 r3 => kk v H3 ((g1.trans g2).trans g3) d3 r3⟩⟩⟩
      refine PySem.W.callWith_KW (h₀ := X.base) I.ok.mod.kin hk hall (thn (ha.run pos pins s σ H _ I h) fun us s1 ⟨vs, H1, I1, r, q⟩ => ?_) hpl he
      refine thn (hkw.run pos pins s1 σ H1 _ I1 q) fun ws s2 ⟨zs, H2, I2, rz, l1, l2, q2⟩ => ⟨I2.kIn, ?_⟩
      rw [hks]
      have r2 := hb.rel r rz
      refine wpAny_call (codeAny_mono (F.run X.A X.stack s2 H2 ⟨us, ks.zip ws⟩ (us ++ ws) (vs ++ zs) Q E0 hgd hr I2.env0 (hb.to s2 us ws I2.kIn (r.length.symm.trans l1) (rz.length.symm.trans l2)) r2 q2) fun r s' hq => ?_)
      cases r with
      | error e => exact False.elim hq
      | ok fl =>
        cases fl with
        | ret u => exact I2.after hq
        | next => exact False.elim hq
        | brk => exact False.elim hq
        | cont => exact False.elim hq
theorem yk_nil : PK X [] (rdA C mNil) := ⟨fun pos pins s σ H Q I ⟨M, ρ, f, w, f', J, q, k⟩ => by
  cases q
  exact pk_nil.run pos pins s σ H Q I (k [] H (Grow.refl _ _) J.feed .nil)⟩
theorem yk_cons {nm : Option Str} {kpos : Pos} {kws : List Keyword} {ma : ME} {mk : MA} (ha : PE X e (rdE C ma)) (hr : PK X kws (rdA C mk)) : PK X (⟨nm, e, kpos⟩ :: kws) (rdA C (mCons ma mk)) := ⟨fun pos pins s σ H Q I ⟨M, ρ, f, ws, f', J, q, k⟩ => by
  refine (pk_cons ha hr).run pos pins s σ H Q I ?_
  unfold mCons at q
  cases e1 : ma ρ f with
  | none => rw [e1] at q; cases q
  | some z =>
    obtain ⟨w1, f1⟩ := z
    rw [e1] at q
    simp only [Option.bind_some] at q
    cases e2 : mk ρ f1 with
    | none => rw [e2] at q; cases q
    | some z2 =>
      obtain ⟨w2, f2⟩ := z2
      rw [e2] at q
      simp only [Option.map_some, Option.some.injEq, Prod.mk.injEq] at q
      obtain ⟨rfl, rfl⟩ := q
      exact ⟨M, ρ, f, w1, f1, J, e1, fun v1 H1 g1 d1 r1 => ⟨M, ρ, f1, w2, f2, J.grow g1 d1, e2, fun vs H2 g2 d2 r2 => k (v1 :: vs) H2 (g1.trans g2) d2 (.cons (r1.mono (g2.mask J.hid)) r2)⟩⟩⟩
end

/-! ### the law's call -/
theorem law_callG {P : Program} {w : World} {K : PySem.W.Frag} {mg mb : Str → Option Value} {k : Nat} {fa a : Addr} {fd : FuncData} {x : Str} {sp : Sp} {s₁ : Shared} {vs : List Value} {ns : List Int}
    (KX : K.In s₁.heap) (hns : s₁.heap.Ns mainGlobals mg) (hb : s₁.heap.Ns builtinsNs mb) (hbb : ∀ x : Str, x ≠ "__name__" → mb x = bootBuiltins x) (hlim : s₁.heap.NoLimit) (hg : s₁.gens = #[])
    (ha : s₁.heap.get? a = some { cls := .type "list", data := .seq vs.toArray }) (hi : IntsAre vs ns) (hl : ns.length ≤ sizeLine) (hr : Room k callerA)
    (F : ∀ base : Heap, K.In base → base.Ns mainGlobals mg → FnG P w K mg base k fa fd [x] sp) (hbind : ∀ (s : Shared) (u : Value), BindsTo s fd ⟨[u], []⟩ [(x, u)])
    (hsp : ∀ H : Hp, Only H → SqL K H a (ns.map V.int) → sp [.ref a] H (fun v _ => v = .bl true) fun _ _ _ => False) :
    codeAny (model P w) callerA (.call (.ref fa) ⟨[.ref a], []⟩) (fun r s' => r = .ok (.ret (.bool true)) ∧ OldK s₁.heap s'.heap ∧ s'.os = s₁.os ∧ AllBare s'.gens) s₁ := by
  have rv := vals_ints hi
  have lenV := hi.length
  have core : ∀ H : Hp, Only H → SqL K H a (ns.map V.int) → HOk P w H s₁.heap → (∀ b, H b ≠ none → b = a) → (H a ≠ none → K.lookup a = none) →
      codeAny (model P w) callerA (.call (.ref fa) ⟨[.ref a], []⟩) (fun r s' => r = .ok (.ret (.bool true)) ∧ OldK s₁.heap s'.heap ∧ s'.os = s₁.os ∧ AllBare s'.gens) s₁ := by
    intro H hO hS hok hA hK
    have base_of : ∀ {b : Addr} {o : Obj}, s₁.heap.get? b = some o → H b = none → (hidT s₁.heap H).get? b = some o := fun e n => hidT_get e n
    have noA : ∀ {b : Addr} {o : Obj} {es : Array DictEntry} {ep : Nat}, s₁.heap.get? b = some o → o.data = .dict es ep → H b = none := fun {b o es ep} e d => by
      cases q : H b with
      | none => rfl
      | some u =>
        have e' : b = a := hA b (by rw [q]; simp)
        subst e'
        rw [ha] at e; cases e
        have d' : Data.seq vs.toArray _ = Data.dict es ep := d
        cases d'
    have nsK : ∀ {b : Addr} {m : Str → Option Value}, s₁.heap.Ns b m → (hidT s₁.heap H).Ns b m := fun {b m} ⟨o, es, ep, e, d, r⟩ => ⟨o, es, ep, base_of e (noA e d), d, r⟩
    have hKb : K.In (hidT s₁.heap H) := fun b o e => base_of (KX b o e) (by
      cases q : H b with
      | none => rfl
      | some u =>
        have e' : b = a := hA b (by rw [q]; simp)
        subst e'
        rw [hK (by rw [q]; simp)] at e; cases e)
    have hM : Mod K mg (hidT s₁.heap H) := ⟨hKb, nsK hns, ⟨mb, nsK hb, hbb⟩, let ⟨mc, h1, h2⟩ := hlim; ⟨mc, nsK h1, h2⟩⟩
    have e0 : Env0 P w K mg (hidT s₁.heap H) callerA [] s₁ H := ⟨rfl, hM, fun b o e => of_hidT e, Nat.le_of_eq (hidT_size _ _), trivial, fun b hb => absurd (show b ∈ ([] : List Addr) from hb) (by simp), hok, .of_eq hg⟩
    refine codeAny_mono ((F _ hKb (nsK hns)).run callerA [] s₁ H ⟨[.ref a], []⟩ [.ref a] [.ref a] _ _ rfl hr e0 (hbind s₁ (.ref a)) (.cons rfl .nil) (hsp H hO hS)) fun r s' h => ?_
    cases r with
    | error e => exact False.elim h
    | ok fl =>
      cases fl with
      | next => exact False.elim h
      | brk => exact False.elim h
      | cont => exact False.elim h
      | ret u =>
        obtain ⟨v, H', os, bare, un, hok', r', q⟩ := h
        have q' : v = .bl true := q
        subst q'
        obtain rfl : u = Value.bool true := r'
        refine ⟨rfl, OldK.of_keep fun b o e => ?_, os, bare⟩
        cases q : H b with
        | none => exact un.keep b o e q (by intro z; exact absurd (show b ∈ ([] : List Addr) from z) (by simp)) (by simp)
        | some u =>
          rcases hO b with z | ⟨ob, xs, z⟩
          · rw [q] at z; cases z
          · have z2 := un.frzs b ob _ z
            obtain ⟨e1, _⟩ := hok b _ z
            obtain ⟨e2, _⟩ := hok' b _ z2
            rw [e] at e1; cases e1
            exact e2
  cases hk : K.lookup a with
  | some o =>
    have e := KX a o hk
    rw [ha] at e
    cases e
    refine core (fun _ => none) (fun _ => .inl rfl) (.inr ⟨_, vs.toArray, _, hk, rfl, rfl, rfl, by rw [List.size_toArray, lenV]; exact hl, by simpa using rv⟩) (fun b u z => by have z' : (none : Option HO) = some u := z; cases z') (fun b z => absurd rfl z) fun z => absurd rfl z
  | none =>
    refine core (fun b => if b = a then some (.frz { cls := .type "list", data := .seq vs.toArray } (.lst (ns.map V.int))) else none) (fun b => ?_) (.inl (.inr ⟨{ cls := .type "list", data := .seq vs.toArray }, if_pos rfl⟩)) (fun b u z => ?_) (fun b z => ?_) fun _ => hk
    · by_cases hb : b = a
      · exact .inr ⟨_, _, if_pos hb⟩
      · exact .inl (if_neg hb)
    · by_cases hb : b = a
      · have z' := (if_pos hb).symm.trans z
        cases z'
        subst hb
        exact ⟨ha, by rw [List.length_map]; exact hl, vs, _, rv, ha⟩
      · have z' := (if_neg hb).symm.trans z
        cases z'
    · by_cases hb : b = a
      · exact hb
      · exact absurd (if_neg hb) z
theorem walk_ofG {l : PySem.W.OpenLaw} {n k : Nat} {q : Program} {loose : List Str} {XP : (Str → Option Value) → Heap → Prop} {YP : World → Heap → Prop} {d : DefRec} {K : Params → PySem.W.Frag} {sp : PySem.W.Frag → Sp} {x : Str}
    (hn : l.most = some n) (hn2 : n ≤ sizeLine) (hdf : d.params.defaults = []) (hr : Room k callerA)
    (hY : ∀ (w : World) (h : Heap), YP w h → (K w.params).In h)
    (F : ∀ (w : World) (mg : Str → Option Value) (fa : Addr) (h : Heap), (K w.params).In h → h.Ns mainGlobals mg → mg d.name = some (.ref fa) →
      ∃ fd : FuncData, (∀ (s : Shared) (u : Value), BindsTo s fd ⟨[u], []⟩ [(x, u)]) ∧
        ∀ base : Heap, (K w.params).In base → base.Ns mainGlobals mg → FnG l.prog w (K w.params) mg base k fa fd [x] (sp (K w.params)))
    (hsp : ∀ (K : PySem.W.Frag) (H : Hp) (a : Addr) (ns : List Int), ns.length ≤ n → Only H → SqL K H a (ns.map V.int) → sp K [.ref a] H (fun v _ => v = .bl true) fun _ _ _ => False) :
    PySem.W.WalkO q loose XP YP l.row.toRowW d [] (fun f vs => PySem.call f vs) := by
  refine Att.attach_call hn hdf fun w s₀ s₁ mg mb fa o pm cd doc a vs ns G Y ho hd hcd hmg hobj hints hlen hg => ?_
  have KX := hY w _ Y
  obtain ⟨fd, hb, hF⟩ := F w mg fa _ KX G.T.g hmg
  exact law_callG KX G.T.g G.T.b G.T.builtins G.T.nolimit hg hobj hints (Nat.le_trans hlen hn2) hr hF hb fun H hO hS => hsp (K w.params) H a ns hlen hO hS
end Y
end KLayH
section KLayI
set_option Elab.async false
set_option linter.all false
set_option maxRecDepth 100000
set_option maxHeartbeats 4000000
/-! The layer: sorted of names, repr, tables, index, chains. -/
namespace Y
open PySem PySem.Spec PySem.SeqAt PyProof.Rows L2
open PySem.W (alike alikeAll dataLt eqAt_alike eqAt_alikeAll rcLt_alike)

/-! ### sorted of names -/
theorem ltCps_eq : ∀ a b : List Nat, ltCps a b = decide (a < b)
  | [], [] => rfl
  | [], _ :: _ => by simp [ltCps]
  | _ :: _, [] => by simp [ltCps]
  | a :: r, b :: t => by
    unfold ltCps
    rw [ltCps_eq r t]
    by_cases h : a < b
    · simp [h, List.cons_lt_cons_iff]
    · by_cases e : a = b
      · subst e
        simp [List.cons_lt_cons_iff]
      · simp [h, e, List.cons_lt_cons_iff]
theorem rising_pw : ∀ (r : List Str) (x : Str), risingS x r = true → (x :: r).Pairwise M.LeS
  | [], x, _ => List.pairwise_singleton _ _
  | y :: r, x, h => by
    unfold risingS at h
    rw [Bool.and_eq_true] at h
    have ih := rising_pw r y h.2
    have le : M.LeS x y := by
      have := h.1
      rw [ltCps_eq] at this
      show decide _ = false
      simpa using this
    refine List.pairwise_cons.mpr ⟨fun z hz => ?_, ih⟩
    rcases List.mem_cons.mp hz with e | m
    · rw [e]; exact le
    · exact M.leS_trans le ((List.pairwise_cons.mp ih).1 z m)
theorem sortedS_pw {l : List Str} (h : sortedS l = true) : l.Pairwise M.LeS := by
  cases l with
  | nil => exact .nil
  | cons x r => exact rising_pw r x h
def gSortN : List W → Option W
  | [.d (.list xs)] => (strsOf xs).bind fun ys => if ys.length < 64 then some (.d (.list ((M.sortS ys).map .str))) else none
  | _ => none
theorem on_sortN {K : PySem.W.Frag} : OpN (rSortedS K) gSortN := fun fa Mk H xs ws w Q fr r e k => by
  unfold gSortN at e
  split at e
  · rename_i ds
    cases e1 : strsOf ds with
    | none => rw [e1] at e; cases e
    | some ys =>
      rw [e1] at e
      simp only [Option.bind_some] at e
      split at e
      · rename_i hl
        cases e
        obtain ⟨v, rfl, r1⟩ := rws_one r
        cases r1 with
        | lst a1 a2 =>
          rw [strs_rp a2 e1] at a1
          refine ⟨_, ys, rfl, sub_seq (mask_sub Mk H) a1, hl, fun zs p pm so hp => ?_⟩
          rw [M.sortS_one pm (sortedS_pw so)]
          exact k _ _ (upd_sub hp) (laid_lst (rp_strs _ _) hp (fr p hp))
      · cases e
  · cases e

/-! ### repr of lists and tuples -/
def isSq : PyData → Bool
  | .list _ => true
  | .tuple _ => true
  | _ => false
def repOk (d : PyData) : Bool := isSq d && d.showable && !d.hasDict && decide (d.depth ≤ 40) && decide (d.shown.length ≤ lim)
def gRepr : List W → Option W
  | [.d d] => if repOk d = true then some (.d (.str d.shown)) else none
  | _ => none
def rRepr : List V → Hp → VK → Prop := fun vs H Q => ∃ v d, vs = [v] ∧ Rp H v d ∧ repOk d = true ∧ Q (.str d.shown) H
theorem cr_repr {X : Cx} (hgd : X.A.guards = some []) (hu : X.A.units + 64 < cLine) : CallR X (.builtin "repr") rRepr := by
  intro pins s σ H vs us Q I r h
  obtain ⟨v, d, rfl, rd, ok, q⟩ := h
  obtain ⟨u, rfl, ru⟩ := vals1 r
  obtain ⟨as, rr⟩ := reads_of I rd ru
  unfold repOk at ok
  simp only [Bool.and_eq_true, Bool.not_eq_true', decide_eq_true_eq] at ok
  obtain ⟨⟨⟨⟨h1, h2⟩, h3⟩, h4⟩, h5⟩ := ok
  have fin : ∀ a, u = .ref a → wpAny (model X.prog X.w) X.A (call (.builtin "repr") [u]) (EP X pins σ Q) X.xe s := fun a e => by
    subst e
    refine repr_of_reads' rr h2 (fun z => by rw [h3] at z; cases z) hgd (by omega) (fun _ _ e => e) (fun h' t tk hk => ?_) (lim_ok h5)
    exact ⟨.str d.shown, H, I.kept hk, ⟨_, rfl⟩, q⟩
  cases d with
  | list xs => cases rr; exact fin _ rfl
  | tuple xs => cases rr; exact fin _ rfl
  | _ => cases h1
theorem on_repr : OpN rRepr gRepr := fun fa Mk H xs ws w Q fr r e k => by
  unfold gRepr at e
  split at e
  · split at e
    · rename_i ok
      cases e
      obtain ⟨v, rfl, r1⟩ := rws_one r
      exact ⟨v, _, rfl, Rp.mono (mask_sub Mk H) _ _ r1, ok, k _ H (Sub.refl H) (Rp.str _)⟩
    · cases e
  · cases e

/-! ### tables -/
def valD (kvs : List (Key × PyData)) (k : Key) : Option PyData := (kvs.find? fun kv => decide (kv.1 = k)).map (·.2)
theorem valD_tab {U : Hp} {k : Key} : ∀ {ks : List (Key × V)} {kvs : List (Key × PyData)}, Tab U ks kvs → (valD kvs k = none → valV ks k = none) ∧ ∀ d, valD kvs k = some d → ∃ v, valV ks k = some v ∧ Rp U v d
  | _, _, .nil => ⟨fun _ => rfl, fun d h => by cases h⟩
  | (a, v) :: ks, (b, x) :: kvs, .cons ⟨e, r⟩ t => by
    have e : a = b := e
    subst e
    have r : Rp U v x := r
    obtain ⟨h1, h2⟩ := valD_tab (k := k) t
    unfold valD valV at *
    by_cases h : a = k
    · subst h
      simp only [List.find?_cons, decide_true, Option.map_some]
      exact ⟨fun z => (by cases z), fun d z => (by cases z; exact ⟨v, rfl, r⟩)⟩
    · simp only [List.find?_cons, h, decide_false]
      exact ⟨h1, h2⟩
def keyD : PyData → Option Key
  | .int i => some (.inl i)
  | .str x => some (.inr x)
  | _ => none
theorem keyD_rp {U : Hp} {v : V} {d : PyData} {k : Key} (h : keyD d = some k) (r : Rp U v d) : v = kV k := by
  unfold keyD at h
  split at h
  · cases h; cases r; rfl
  · cases h; cases r; rfl
  · cases h
def gGet : W → W → Option W
  | .t kvs, .d x => (keyD x).bind fun k => (valD kvs k).map W.d
  | _, _ => none
def pairsOf : List PyData → Option (List (Key × PyData))
  | [] => some []
  | .tuple [.str k, v] :: r => (pairsOf r).map ((Sum.inr k, v) :: ·)
  | _ :: _ => none
def gDict : List W → Option W
  | [.d (.list xs)] => (pairsOf xs).bind fun kvs => if (kvs.map (·.1)).Nodup then some (.t kvs) else none
  | _ => none
theorem putK_new {kvs : List (Key × V)} {k : Key} {v : V} (h : k ∉ kvs.map (·.1)) : putK kvs k v = kvs ++ [(k, v)] := by
  unfold putK
  rw [if_neg]
  intro z
  obtain ⟨p, hp, e⟩ := List.any_eq_true.mp z
  exact h (List.mem_map.mpr ⟨p, hp, of_decide_eq_true e⟩)
theorem merge_new : ∀ (more kvs : List (Key × V)), ((kvs ++ more).map (·.1)).Nodup → mergeK kvs more = kvs ++ more
  | [], kvs, _ => (List.append_nil kvs).symm
  | p :: r, kvs, h => by
    have hp : p.1 ∉ kvs.map (·.1) := fun m => by
      rw [List.map_append, List.map_cons] at h
      have := List.nodup_append.mp h
      exact this.2.2 _ m _ List.mem_cons_self rfl
    show mergeK (putK kvs p.1 p.2) r = _
    rw [putK_new hp, merge_new r (kvs ++ [(p.1, p.2)]) (by rw [List.append_assoc]; exact h), List.append_assoc]
    rfl
theorem pairs_rp {K : PySem.W.Frag} {U H : Hp} (s : Sub U H) : ∀ {vs : List V} {ds : List PyData} {kvs : List (Key × PyData)}, RpAll U vs ds → pairsOf ds = some kvs →
    ∃ (ps : List Addr) (ks : List (Key × V)), vs = ps.map V.ref ∧ Paired (fun p kv => SqT K H p [kV kv.1, kv.2]) ps ks ∧ Tab U ks kvs
  | _, _, _, .nil, h => by cases h; exact ⟨[], [], rfl, .nil, .nil⟩
  | _, d :: ds, _, .cons r t, h => by
    unfold pairsOf at h
    split at h
    · rename_i e
      cases e
    · rename_i k v ds' e
      cases e
      cases e2 : pairsOf ds with
      | none => rw [e2] at h; cases h
      | some kvs' =>
        rw [e2] at h
        cases h
        obtain ⟨ps, ks, rfl, h2, h3⟩ := pairs_rp s t e2
        cases r with
        | @tup a xs _ a1 _ a2 =>
          cases a2 with
          | cons b1 b2 =>
            cases b1
            cases b2 with
            | @cons x _ _ _ c1 c2 =>
              cases c2
              exact ⟨a :: ps, (Sum.inr k, x) :: ks, rfl, .cons (sub_tup s a1) h2, .cons ⟨rfl, c1⟩ h3⟩
    · cases h
theorem tab_keys {U : Hp} : ∀ {ks : List (Key × V)} {kvs : List (Key × PyData)}, Tab U ks kvs → ks.map (·.1) = kvs.map (·.1)
  | _, _, .nil => rfl
  | (a, v) :: ks, (b, x) :: kvs, .cons ⟨e, r⟩ t => by
    have e : a = b := e
    subst e
    show a :: _ = a :: _
    rw [tab_keys t]
def rDict (K : PySem.W.Frag) : List V → Hp → VK → Prop := fun xs H Q => ∃ (a : Addr) (ps : List Addr) (kvs : List (Key × V)), xs = [.ref a] ∧ SqL K H a (ps.map V.ref) ∧ Paired (fun p kv => SqT K H p [kV kv.1, kv.2]) ps kvs ∧
    ∀ p, H p = none → Q (.ref p) (upd H p (.dK (mergeK [] kvs)))
theorem on_dict {K : PySem.W.Frag} : OpN (rDict K) gDict := fun fa Mk H xs ws w Q fr r e k => by
  unfold gDict at e
  split at e
  · rename_i ds
    cases e1 : pairsOf ds with
    | none => rw [e1] at e; cases e
    | some kvs =>
      rw [e1] at e
      simp only [Option.bind_some] at e
      split at e
      · rename_i nd
        cases e
        obtain ⟨v, rfl, r1⟩ := rws_one r
        cases r1 with
        | lst a1 a2 =>
          obtain ⟨ps, ks, rfl, h2, h3⟩ := pairs_rp (K := K) (mask_sub Mk H) a2 e1
          refine ⟨_, ps, ks, rfl, sub_seq (mask_sub Mk H) a1, h2, fun p hp => k _ _ (upd_sub hp) ?_⟩
          rw [merge_new ks [] (by rw [List.nil_append, tab_keys h3]; exact nd), List.nil_append]
          refine ⟨p, ks, rfl, mask_at (fr p hp) upd_same, Tab.mono (fun a o h => ?_) h3⟩
          obtain ⟨m1, m2⟩ := mask_some h
          exact mask_at m1 (upd_sub hp _ _ m2)
      · cases e
  · cases e
def hitsD (kb : List (Key × PyData)) : List (Key × PyData) → Option Bool
  | [] => some true
  | (k, x) :: r => match valD kb k with
    | none => some false
    | some y => if pairOk x y = true then (hitsD kb r).map fun b => PyData.eqv x y && b else none
def tabEq (xs ys : List (Key × PyData)) : Option Bool := if xs.length = ys.length then hitsD ys xs else some false
def gTabEq : W → W → Option W
  | .t xs, .t ys => (tabEq xs ys).map wB
  | _, _ => none
def rTab : R2 := fun x y H Q => ∃ a b ks ls kvs lvs c, x = .ref a ∧ y = .ref b ∧ H a = some (.dK ks) ∧ H b = some (.dK ls) ∧ Tab H ks kvs ∧ Tab H ls lvs ∧ tabEq kvs lvs = some c ∧ Q (.bl c) H
section
variable {X : Cx}
theorem val_kv {ls : List (Key × V)} {vb : List (Key × Value)} {k : Key} : KV ls vb → (valV ls k = none → valueAt vb k = none) ∧ ∀ v, valV ls k = some v → ∃ u, valueAt vb k = some u ∧ RelV v u := by
  intro h
  unfold KV at h
  induction h with
  | nil => exact ⟨fun _ => rfl, fun v z => by cases z⟩
  | @cons p q ps qs h t ih =>
    obtain ⟨a, v⟩ := p
    obtain ⟨b, u⟩ := q
    obtain ⟨e, r⟩ := h
    have e : a = b := e
    subst e
    have r : RelV v u := r
    unfold valV valueAt at *
    by_cases hk : a = k
    · subst hk
      simp only [List.find?_cons, decide_true, Option.map_some]
      exact ⟨fun z => (by cases z), fun d z => (by cases z; exact ⟨u, rfl, r⟩)⟩
    · simp only [List.find?_cons, hk, decide_false]
      exact ih
theorem hits_read {pins : List (Addr × Obj)} {σ : L2.St} {H : Hp} {s : Shared} (I : Inv X pins σ H s) (hu : X.A.units + 64 < cLine) {ls : List (Key × V)} {lvs : List (Key × PyData)} {vb : List (Key × Value)} (tb : Tab H ls lvs) (kb : KV ls vb) :
    ∀ {kvs : List (Key × PyData)} {ks : List (Key × V)} {va : List (Key × Value)} {c : Bool}, Tab H ks kvs → KV ks va → hitsD lvs kvs = some c → PySem.W.KeqHitsP X.prog X.w X.A.in1 s vb va c
  | [], _, _, _, .nil, .nil, h => by cases h; exact .nil
  | (k, x) :: kvs, (k', v) :: ks, (k2, u) :: va, c, .cons ⟨e, r⟩ t, .cons ⟨e2, r2⟩ t2, h => by
    have e : k' = k := e
    have e2 : k' = k2 := e2
    subst e
    subst e2
    have r : Rp H v x := r
    have r2 : RelV v u := r2
    unfold hitsD at h
    obtain ⟨n1, s1⟩ := valD_tab (k := k') tb
    obtain ⟨n2, s2⟩ := val_kv (k := k') kb
    split at h
    · rename_i hn
      cases h
      exact .miss (n2 (n1 hn))
    · rename_i y hy
      split at h
      · rename_i ok
        cases e3 : hitsD lvs kvs with
        | none => rw [e3] at h; cases h
        | some b =>
          rw [e3] at h
          cases h
          obtain ⟨v', hv', rv'⟩ := s1 y hy
          obtain ⟨u', hu', ru'⟩ := s2 v' hv'
          obtain ⟨as, q1⟩ := reads_of I r r2
          obtain ⟨bs, q2⟩ := reads_of I rv' ru'
          obtain ⟨al, rm⟩ := room40 hu ok
          unfold pairOk at ok
          rw [Bool.and_eq_true, decide_eq_true_eq] at ok
          refine .hit hu' (EqAt.eqP (eqAt_alike _ _ X.A.in1 s _ _ _ _ q1 q2 al ?_)) (hits_read I hu tb kb t t2 e3)
          show X.A.units + 1 + _ < cLine
          omega
      · cases h
theorem oy_tab (hu : X.A.units + 64 < cLine) : OpR X (compareOp .Eq) rTab := by
  intro pins s σ H x y v u Q I rx ry h
  obtain ⟨a, b, ks, ls, kvs, lvs, c, rfl, rfl, h1, h2, t1, t2, hc, q⟩ := h
  cases rx
  cases ry
  obtain ⟨_, ya, va, ra, da⟩ := dk_of I.hok h1
  obtain ⟨_, yb, vb, rb, db⟩ := dk_of I.hok h2
  have la : va.length = kvs.length := by rw [← ra.length, ← t1.length]
  have lb : vb.length = lvs.length := by rw [← rb.length, ← t2.length]
  unfold tabEq at hc
  by_cases hl : kvs.length = lvs.length
  · rw [if_pos hl] at hc
    refine PySem.W.rcP_dicts (knd := mixKind X.prog X.w) (r := c) ya yb da db (by omega) (fun _ => hits_read I hu t2 rb t1 ra hc) X.xe _ ?_
    rw [show (va.length == vb.length && c) = c from by rw [la, lb, hl]; simp]
    exact ⟨.bl c, H, I, rfl, q⟩
  · rw [if_neg hl] at hc
    cases hc
    refine PySem.W.rcP_dicts (knd := mixKind X.prog X.w) (r := false) ya yb da db (by omega) (fun z => absurd (by rw [← la, ← lb, z]) hl) X.xe _ ?_
    rw [Bool.and_false]
    exact ⟨.bl false, H, I, rfl, q⟩
theorem o2_tab : Op2 rTab gTabEq := fun fa Mk H x y wx wy w Q fr rx ry e k => by
  unfold gTabEq at e
  split at e
  · rename_i xs ys
    cases e1 : tabEq xs ys with
    | none => rw [e1] at e; cases e
    | some c =>
      rw [e1] at e
      cases e
      obtain ⟨a, ks, rfl, h1, t1⟩ := rx
      obtain ⟨b, ls, rfl, h2, t2⟩ := ry
      exact ⟨a, b, ks, ls, xs, ys, c, rfl, rfl, mask_sub Mk H _ _ h1, mask_sub Mk H _ _ h2, Tab.mono (mask_sub Mk H) t1, Tab.mono (mask_sub Mk H) t2, e1, k _ H (Sub.refl H) (Rp.bl c)⟩
  · cases e
variable {C : Cq} {a b c : Expr} {ma mb mc : ME} {pos : Pos}
theorem ye_get (hu : X.A.units + 64 < cLine) (ha : PE X a (rdE C ma)) (hb : PE X b (rdE C mb)) (hs : NoSl b) : PE X (.Subscript a b pos) (rdE C (m2 gGet ma mb)) :=
  PE.mono (pe_dget (by omega) ha hb hs) fun σ H Q ⟨M, ρ, f, w, f', I, q, k⟩ => by
    obtain ⟨wx, f1, wy, e1, e2, e3⟩ := m2_some q
    refine ⟨M, ρ, f, wx, f1, I, e1, fun v1 H1 g1 d1 r1 => ⟨M, ρ, f1, wy, f', I.grow g1 d1, e2, fun v2 H2 g2 d2 r2 => ?_⟩⟩
    have r1' := r1.mono (g2.mask I.hid)
    unfold gGet at e3
    split at e3
    · rename_i kvs x
      cases ek : keyD x with
      | none => rw [ek] at e3; cases e3
      | some k0 =>
        rw [ek] at e3
        simp only [Option.bind_some] at e3
        cases ev : valD kvs k0 with
        | none => rw [ev] at e3; cases e3
        | some d =>
          rw [ev] at e3
          cases e3
          obtain ⟨p, ks, rfl, h1, t1⟩ := r1'
          obtain ⟨v, hv, rv⟩ := (valD_tab (k := k0) t1).2 d ev
          have ey := keyD_rp ek r2
          subst ey
          refine ⟨p, v, rfl, ?_, k v H2 (g1.trans g2) d2 rv⟩
          rw [← hv]
          exact DGet.k (mask_sub M H2 _ _ h1)
    · cases e3

/-! ### tuple.index -/
def idxS (z : Str) : List Str → Nat
  | [] => 0
  | x :: xs => if x = z then 0 else idxS z xs + 1
theorem idxS_spec (z : Str) : ∀ {ys : List Str}, z ∈ ys → ys[idxS z ys]? = some z ∧ ∀ m, m < idxS z ys → ys[m]? ≠ some z
  | [], h => by cases h
  | x :: xs, h => by
    unfold idxS
    by_cases e : x = z
    · rw [if_pos e]
      exact ⟨by simp [e], fun m hm => absurd hm (Nat.not_lt_zero _)⟩
    · rw [if_neg e]
      obtain ⟨h1, h2⟩ := idxS_spec z ((List.mem_cons.mp h).resolve_left fun q => e q.symm)
      refine ⟨by simpa using h1, fun m hm => ?_⟩
      cases m with
      | zero => simpa using e
      | succ m => simpa using h2 m (by omega)
/-- motor[1].index(look) -/
def gTix : W → W → Option W
  | .d (.tuple xs), .d (.str z) => if hotM xs = true then (match (xs[1]? : Option PyData) with
    | some (PyData.tuple ls) => (strsOf ls).bind fun ys => if z ∈ ys then some (wI (idxS z ys : Nat)) else none
    | _ => none) else none
  | _, _ => none
def tTix (ta tb : TE) : TE := fun σ H Q => ta σ H fun x H1 => ∃ b o us, x = .ref b ∧ H1 b = some (.frz o (.tup us)) ∧ o.dict = none ∧ tb σ H1 fun x H2 => ∃ y, [x] = [y] ∧ ∃ (ys : List Str) (z : Str) (j : Nat), y = .str z ∧ us = ys.map V.str ∧ H2 b = some (.frz o (.tup us)) ∧ ys[j]? = some z ∧ (∀ m, m < j → ys[m]? ≠ some z) ∧ Q (.int (j : Nat)) H2
theorem pe_tix {ta tb : TE} {apos : Pos} (ho : PE X a ta) (hb : PE X b tb)
    (hbase : attributeBase a "index" X.env (eval a X.env) = eval a X.env := by rfl)
    (hfew : ((backTo pos (starEach [b] X.env)).all (fun x => !x.1) && (backToKw pos (keywordEach [] X.env)).all (fun x => x.1.isSome)
      && decide (([b] : List Expr).length + ([] : List Keyword).length + (if ([] : List Keyword).isEmpty then 0 else 1) < 30)) = true := by rfl)
    (hline : (apos.endLine == pos.line) = true := by rfl) (hs : starEach [b] X.env = (false, eval b X.env) :: starEach [] X.env := by rfl) (hplain : (backTo pos (starEach [] X.env)).any (·.1) = false := by rfl) :
    PE X (.Call (.Attribute a "index" apos) [b] [] pos) (tTix ta tb) := by
  refine ⟨fun pins s σ H Q I h => ?_⟩
  refine wpAny_Call_method_late hbase hfew hline rfl (thn (ho.run pins s σ H _ I h) fun v s1 ⟨x, H1, I1, r1, b0, o, us, ex, h1, hd, q1⟩ => ?_)
  subst ex
  cases r1
  obtain ⟨e1, tp⟩ := I1.hok b0 _ h1
  have tp : us.length ≤ sizeLine ∧ ∃ its : List Value, Vals us its ∧ IsTup s1.heap b0 its.toArray := tp
  have ty : s1.TypeIs (.ref b0) "tuple" := by obtain ⟨_, its, _, ob, ho', hc, _⟩ := tp; exact ⟨ob, ho', hc⟩
  refine ⟨"tuple", _, PySem.F.plainAttrs_tuple, PySem.F.slot_tuple_index, PySem.F.type_tuple_index, ty, fun p e => (by cases e; exact ⟨o, e1, hd⟩), ?_⟩
  have hA := (pa_cons (X := X) hb pa_nil hs).run pos pins s1 σ H1 (fun vs H2 => ∃ y, vs = [y] ∧ ∃ (ys : List Str) (z : Str) (j : Nat), y = .str z ∧ us = ys.map V.str ∧ H2 b0 = some (.frz o (.tup us)) ∧ ys[j]? = some z ∧ (∀ m, m < j → ys[m]? ≠ some z) ∧ Q (.int (j : Nat)) H2) I1 ?_
  · rw [hs] at hA ⊢
    refine Calls.callWith_builtin (by show (false || (backTo pos (starEach [] X.env)).any (·.1)) = false; rw [hplain] <;> rfl) (Calls.evalArgs_plain ?_)
    refine thn hA fun us' s2 ⟨vs, H2, I2, r2, y, ev, ys, z, j, ey, eu, h2, h3, h4, q2⟩ => ?_
    subst ev
    exact mt_tup_index pins s2 σ H2 (.ref b0) [y] (.ref b0) us' Q I2 rfl r2 ⟨b0, ys, z, j, rfl, by rw [ey], by rw [← eu]; exact .inl (.inr ⟨o, h2⟩), h3, h4, q2⟩
  · exact q1
theorem ye_tix {p1 : Pos} {apos : Pos} {j1} (hr : IxR X (rIx X.K)) (ha : PE X a (rdE C ma)) (hb : PE X b (rdE C mb)) (hs0 : PlainIx (.Constant (.int 1) j1 p1))
    (hbase : attributeBase (.Subscript a (.Constant (.int 1) j1 p1) apos) "index" X.env (eval (.Subscript a (.Constant (.int 1) j1 p1) apos) X.env) = eval (.Subscript a (.Constant (.int 1) j1 p1) apos) X.env := by rfl)
    {bpos : Pos} (hfew : ((backTo pos (starEach [b] X.env)).all (fun x => !x.1) && (backToKw pos (keywordEach [] X.env)).all (fun x => x.1.isSome)
      && decide (([b] : List Expr).length + ([] : List Keyword).length + (if ([] : List Keyword).isEmpty then 0 else 1) < 30)) = true := by rfl)
    (hline : (bpos.endLine == pos.line) = true := by rfl) (hs : starEach [b] X.env = (false, eval b X.env) :: starEach [] X.env := by rfl) (hplain : (backTo pos (starEach [] X.env)).any (·.1) = false := by rfl) :
    PE X (.Call (.Attribute (.Subscript a (.Constant (.int 1) j1 p1) apos) "index" bpos) [b] [] pos) (rdE C (m2 gTix ma mb)) :=
  PE.mono (pe_tix (pe_ix hr ha pe_int hs0) hb hbase hfew hline hs hplain) fun σ H Q ⟨M, ρ, f, w, f', I, q, k⟩ => by
    obtain ⟨wx, f1, wy, e1, e2, e3⟩ := m2_some q
    unfold gTix at e3
    split at e3
    · rename_i xs z
      split at e3
      · rename_i hot
        split at e3
        · rename_i ls el
          cases es : strsOf ls with
          | none => rw [es] at e3; cases e3
          | some ys =>
            rw [es] at e3
            simp only [Option.bind_some] at e3
            split at e3
            · rename_i hm
              cases e3
              refine ⟨M, ρ, f, _, f1, I, e1, fun v1 H1 g1 d1 r1 => ?_⟩
              cases r1 with
              | @tup p vs _ a1 ah a2 =>
                obtain ⟨b0, o, us, h1, h2, h3⟩ := ah hot
                obtain ⟨v', hv', rv'⟩ := a2.get el
                rw [h1] at hv'
                cases hv'
                cases rv' with
                | @tup _ us' _ b1 _ b2 =>
                  have eu : us' = us := TupAt.one b1 (.inr ⟨o, h2⟩)
                  subst eu
                  have := strs_rp b2 es
                  subst this
                  have h4 := mask_sub M H1 _ _ h2
                  refine .inr (.inl ⟨p, vs, 1, .ref b0, rfl, rfl, sub_tup (mask_sub M H1) a1, at_of (j := 1) (by rfl) h1, b0, o, _, rfl, h4, h3, M, ρ, f1, _, f', I.grow g1 d1, e2, fun v2 H2 g2 d2 r2 => ?_⟩)
                  cases r2
                  obtain ⟨k1, k2⟩ := idxS_spec z hm
                  exact ⟨.str z, rfl, ys, z, _, rfl, rfl, ((g2.mask I.hid).trans (mask_sub M H2)) _ _ h2, k1, k2, k _ H2 (g1.trans g2) d2 (Rp.int _)⟩
            · cases e3
        · cases e3
      · cases e3
    · cases e3

/-! ### a motor's display: its looks in a tuple without a dict -/
theorem pe_tupF {es : List Expr} {x1} {t : TA} (h : PA X es t) : PE X (.Tuple es x1 pos) (fun σ H Q => t σ H fun xs H1 => xs.length ≤ sizeLine ∧ ∀ p o, H1 p = none → o.dict = none → Q (.ref p) (upd H1 p (.frz o (.tup xs)))) := by
  refine ⟨fun pins s σ H Q I hq => ?_⟩
  refine wpAny_Tuple_spliced (thn (h.run pos pins s σ H _ I hq) fun us s1 ⟨xs, H1, I1, r, z, q⟩ => ⟨by rw [← r.length]; exact z, ?_⟩)
  have hf : H1 s1.heap.objs.size = none := I1.hok.fresh (Nat.le_refl _)
  refine ⟨.ref s1.heap.objs.size, upd H1 s1.heap.objs.size (.frz _ (.tup xs)), I1.laid (t' := s1.toks) (fun b u e => Heap.get?_push_of_some _ e) (Nat.le_refl _) ?_, rfl, q _ { cls := .type "tuple", data := .seq us.toArray } hf rfl⟩
  exact ⟨Heap.get?_push_size _ rfl, z, us, r, ⟨_, Heap.get?_push_size _ rfl, rfl, _, rfl⟩⟩

/-! ### a <= b <= c -/
def mChain (g g' : W → W → Option W) (ma mb mc : ME) : ME := fun ρ f => (ma ρ f).bind fun p => (mb ρ p.2).bind fun q => (g p.1 q.1).bind fun z => (boolOf z).bind fun t => if t = true then (mc ρ q.2).bind fun r => (g' q.1 r.1).map fun w => (w, r.2) else some (wB false, q.2)
theorem ye_chain {op op' : CmpOp} {r r' : R2} {g g' : W → W → Option W} (ho : OpR X (compareOp op) r) (ho' : OpR X (compareOp op') r') (h : Op2 r g) (h' : Op2 r' g') (ha : PE X a (rdE C ma)) (hb : PE X b (rdE C mb)) (hc : PE X c (rdE C mc))
    (hm : lastMarks [op, op'] [b, c] = false := by with_unfolding_all rfl) : PE X (.Compare a [op, op'] [b, c] pos) (rdE C (mChain g g' ma mb mc)) :=
  PE.mono (pe_chain ho ho' ha hb hc hm) fun σ H Q ⟨M, ρ, f, w, f', I, q, k⟩ => by
    unfold mChain at q
    cases e1 : ma ρ f with
    | none => rw [e1] at q; cases q
    | some p =>
      obtain ⟨wx, f1⟩ := p
      rw [e1] at q
      simp only [Option.bind_some] at q
      cases e2 : mb ρ f1 with
      | none => rw [e2] at q; cases q
      | some p2 =>
        obtain ⟨wy, f2⟩ := p2
        rw [e2] at q
        simp only [Option.bind_some] at q
        cases e3 : g wx wy with
        | none => rw [e3] at q; cases q
        | some z =>
          rw [e3] at q
          simp only [Option.bind_some] at q
          cases e4 : boolOf z with
          | none => rw [e4] at q; cases q
          | some t =>
            rw [e4] at q
            simp only [Option.bind_some] at q
            refine ⟨M, ρ, f, wx, f1, I, e1, fun v1 H1 g1 d1 r1 => ⟨M, ρ, f1, wy, f2, I.grow g1 d1, e2, fun v2 H2 g2 d2 r2 => ?_⟩⟩
            have I2 := (I.grow g1 d1).grow g2 d2
            refine h C.fa M H2 v1 v2 wx wy z _ (fun p hp => I2.fresh hp) (r1.mono (g2.mask I.hid)) r2 e3 fun v3 H3 sb r3 => ⟨t, bool_of e4 r3, ?_⟩
            have g3 := Grow.of_sub (fa := C.fa) sb
            have I3 := I2.grow g3 (d2.sub sb)
            cases t with
            | true =>
              rw [if_pos rfl] at q
              refine iteT ?_
              cases e5 : mc ρ f2 with
              | none => rw [e5] at q; cases q
              | some p3 =>
                obtain ⟨wz, f3⟩ := p3
                rw [e5] at q
                simp only [Option.bind_some] at q
                cases e6 : g' wy wz with
                | none => rw [e6] at q; cases q
                | some w' =>
                  rw [e6] at q
                  cases q
                  refine ⟨M, ρ, f2, wz, _, I3, e5, fun v4 H4 g4 d4 r4 => ?_⟩
                  have I4 := I3.grow g4 d4
                  exact h' C.fa M H4 v2 v4 wy wz _ Q (fun p hp => I4.fresh hp) (r2.mono ((g3.trans g4).mask I.hid)) r4 e6 fun v5 H5 sb5 r5 => k v5 H5 ((((g1.trans g2).trans g3).trans g4).trans (Grow.of_sub sb5)) (d4.sub sb5) r5
            | false =>
              rw [if_neg Bool.false_ne_true] at q
              cases q
              exact iteF (k _ H3 ((g1.trans g2).trans g3) (d2.sub sb) (Rp.bl false))
end
end Y
end KLayI
section KOps
set_option Elab.async false
set_option linter.all false
set_option maxRecDepth 100000
set_option maxHeartbeats 4000000
/-! The layer in short words. -/
namespace Y
open PySem PySem.Spec PySem.SeqAt PyProof.Rows L2
theorem hu_room {k : Nat} {A : Around} (hr : Room k A) : A.units + 128 < cLine := by have := hr.un; omega
theorem hu6 {n : Nat} (h : n + 128 < cLine) : n + 64 < cLine := by omega
abbrev H2 (X : Cx) : Prop := X.A.units + 128 < cLine
def tNone : MT := fun _ _ => none
section
variable {X : Cx} {C : Cq} {a b c e : Expr} {es : List Expr} {ma mb mc : ME} {ms : MA} {mt : MT} {p pos : Pos}
theorem yt_never : PT X e (rdT C tNone) := ⟨fun pins s σ H Q I ⟨M, ρ, f, w, f', J, q, k⟩ => nomatch q⟩
theorem pl_ix {b : Expr} (h : PlainIx b) : PlainIx b := h
-- comparisons as values
theorem yc_eq (hu : H2 X) (ha : PE X a (rdE C ma)) (hb : PE X b (rdE C mb)) : PE X (.Compare a [.Eq] [b] pos) (rdE C (m2 gEq ma mb)) := ye_cmp (oy_eq (hu6 hu)) o2_eq ha hb (nomark _)
theorem yc_ne (hu : H2 X) (ha : PE X a (rdE C ma)) (hb : PE X b (rdE C mb)) : PE X (.Compare a [.NotEq] [b] pos) (rdE C (m2 gNe ma mb)) := ye_cmp (oy_ne (hu6 hu)) o2_ne ha hb (nomark _)
theorem yc_lt (hu : H2 X) (ha : PE X a (rdE C ma)) (hb : PE X b (rdE C mb)) : PE X (.Compare a [.Lt] [b] pos) (rdE C (m2 gLt ma mb)) := ye_cmp (oy_lt (hu6 hu)) o2_lt ha hb (nomark _)
theorem yc_tab (hu : H2 X) (ha : PE X a (rdE C ma)) (hb : PE X b (rdE C mb)) : PE X (.Compare a [.Eq] [b] pos) (rdE C (m2 gTabEq ma mb)) := ye_cmp (oy_tab (hu6 hu)) o2_tab ha hb (nomark _)
theorem yc_le (ha : PE X a (rdE C ma)) (hb : PE X b (rdE C mb)) : PE X (.Compare a [.LtE] [b] pos) (rdE C (m2 gLeI ma mb)) := ye_cmp op_le o2_le ha hb (nomark _)
theorem yc_gt (ha : PE X a (rdE C ma)) (hb : PE X b (rdE C mb)) : PE X (.Compare a [.Gt] [b] pos) (rdE C (m2 gGtI ma mb)) := ye_cmp op_gt o2_gt ha hb (nomark _)
theorem yc_ge (ha : PE X a (rdE C ma)) (hb : PE X b (rdE C mb)) : PE X (.Compare a [.GtE] [b] pos) (rdE C (m2 gGeI ma mb)) := ye_cmp op_ge o2_ge ha hb (nomark _)
theorem yc_leS (ha : PE X a (rdE C ma)) (hb : PE X b (rdE C mb)) : PE X (.Compare a [.LtE] [b] pos) (rdE C (m2 gLeS ma mb)) := ye_cmp op_le_str o2_leS ha hb (nomark _)
theorem yc_isN (ha : PE X a (rdE C ma)) (hb : PE X b (rdE C mb)) : PE X (.Compare a [.Is] [b] pos) (rdE C (m2 gIsN ma mb)) := ye_cmp op_isN o2_isN ha hb (nomark _)
theorem yc_notN (ha : PE X a (rdE C ma)) (hb : PE X b (rdE C mb)) : PE X (.Compare a [.IsNot] [b] pos) (rdE C (m2 gNotN ma mb)) := ye_cmp op_notN o2_notN ha hb (nomark _)
theorem yc_in (hu : H2 X) (ha : PE X a (rdE C ma)) (hb : PE X b (rdE C mb)) (hm : behindInMarks .In b = false := by with_unfolding_all rfl) : PE X (.Compare a [.In] [b] pos) (rdE C (m2 gIn ma mb)) := ye_cmp (oy_in false hu) o2_in ha hb hm
theorem yc_nin (hu : H2 X) (ha : PE X a (rdE C ma)) (hb : PE X b (rdE C mb)) (hm : behindInMarks .NotIn b = false := by with_unfolding_all rfl) : PE X (.Compare a [.NotIn] [b] pos) (rdE C (m2 gNotIn ma mb)) := ye_cmp (oy_in true hu) o2_notIn ha hb hm
theorem yc_inS (ha : PE X a (rdE C ma)) (hb : PE X b (rdE C mb)) (hm : behindInMarks .In b = false := by with_unfolding_all rfl) : PE X (.Compare a [.In] [b] pos) (rdE C (m2 gInS ma mb)) := ye_cmp op_in_sign o2_inS ha hb hm
-- as tests
theorem yq_eq (hu : H2 X) (ha : PE X a (rdE C ma)) (hb : PE X b (rdE C mb)) : PT X (.Compare a [.Eq] [b] pos) (rdT C (mT (m2 gEq ma mb))) := yt_cmp (oy_eq (hu6 hu)) o2_eq ha hb (nomark _)
theorem yq_ne (hu : H2 X) (ha : PE X a (rdE C ma)) (hb : PE X b (rdE C mb)) : PT X (.Compare a [.NotEq] [b] pos) (rdT C (mT (m2 gNe ma mb))) := yt_cmp (oy_ne (hu6 hu)) o2_ne ha hb (nomark _)
theorem yq_lt (hu : H2 X) (ha : PE X a (rdE C ma)) (hb : PE X b (rdE C mb)) : PT X (.Compare a [.Lt] [b] pos) (rdT C (mT (m2 gLt ma mb))) := yt_cmp (oy_lt (hu6 hu)) o2_lt ha hb (nomark _)
theorem yq_le (ha : PE X a (rdE C ma)) (hb : PE X b (rdE C mb)) : PT X (.Compare a [.LtE] [b] pos) (rdT C (mT (m2 gLeI ma mb))) := yt_cmp op_le o2_le ha hb (nomark _)
theorem yq_gt (ha : PE X a (rdE C ma)) (hb : PE X b (rdE C mb)) : PT X (.Compare a [.Gt] [b] pos) (rdT C (mT (m2 gGtI ma mb))) := yt_cmp op_gt o2_gt ha hb (nomark _)
theorem yq_ge (ha : PE X a (rdE C ma)) (hb : PE X b (rdE C mb)) : PT X (.Compare a [.GtE] [b] pos) (rdT C (mT (m2 gGeI ma mb))) := yt_cmp op_ge o2_ge ha hb (nomark _)
theorem yq_leS (ha : PE X a (rdE C ma)) (hb : PE X b (rdE C mb)) : PT X (.Compare a [.LtE] [b] pos) (rdT C (mT (m2 gLeS ma mb))) := yt_cmp op_le_str o2_leS ha hb (nomark _)
theorem yq_isN (ha : PE X a (rdE C ma)) (hb : PE X b (rdE C mb)) : PT X (.Compare a [.Is] [b] pos) (rdT C (mT (m2 gIsN ma mb))) := yt_cmp op_isN o2_isN ha hb (nomark _)
theorem yq_notN (ha : PE X a (rdE C ma)) (hb : PE X b (rdE C mb)) : PT X (.Compare a [.IsNot] [b] pos) (rdT C (mT (m2 gNotN ma mb))) := yt_cmp op_notN o2_notN ha hb (nomark _)
theorem yq_in (hu : H2 X) (ha : PE X a (rdE C ma)) (hb : PE X b (rdE C mb)) (hm : behindInMarks .In b = false := by with_unfolding_all rfl) : PT X (.Compare a [.In] [b] pos) (rdT C (mT (m2 gIn ma mb))) := yt_cmp (oy_in false hu) o2_in ha hb hm
theorem yq_nin (hu : H2 X) (ha : PE X a (rdE C ma)) (hb : PE X b (rdE C mb)) (hm : behindInMarks .NotIn b = false := by with_unfolding_all rfl) : PT X (.Compare a [.NotIn] [b] pos) (rdT C (mT (m2 gNotIn ma mb))) := yt_cmp (oy_in true hu) o2_notIn ha hb hm
-- arithmetic, sums
theorem yo_add (ha : PE X a (rdE C ma)) (hb : PE X b (rdE C mb)) : PE X (.BinOp a .Add b pos) (rdE C (m2 gAdd ma mb)) := ye_op op_add o2_add ha hb
theorem yo_sub (ha : PE X a (rdE C ma)) (hb : PE X b (rdE C mb)) : PE X (.BinOp a .Sub b pos) (rdE C (m2 gSub ma mb)) := ye_op op_sub o2_sub ha hb
theorem yo_div (ha : PE X a (rdE C ma)) (hb : PE X b (rdE C mb)) : PE X (.BinOp a .FloorDiv b pos) (rdE C (m2 gDiv ma mb)) := ye_op op_fdiv o2_div ha hb
theorem yo_catL (ha : PE X a (rdE C ma)) (hb : PE X b (rdE C mb)) : PE X (.BinOp a .Add b pos) (rdE C (m2 gCatL ma mb)) := ye_op op_cat o2_catL ha hb
theorem yo_catT (ha : PE X a (rdE C ma)) (hb : PE X b (rdE C mb)) : PE X (.BinOp a .Add b pos) (rdE C (m2 gCatT ma mb)) := ye_op op_catA o2_catT ha hb
theorem yo_rep (ha : PE X a (rdE C ma)) (hb : PE X b (rdE C mb)) : PE X (.BinOp a .Mult b pos) (rdE C (m2 gRepL ma mb)) := ye_op op_rep o2_repL ha hb
theorem yo_ix (ha : PE X a (rdE C ma)) (hb : PE X b (rdE C mb)) (hs : PlainIx b := by intro _ _; rfl) : PE X (.Subscript a b pos) (rdE C (m2 gIx ma mb)) := ye_ix ix_seq o2_ix ha hb hs
theorem yo_get (hu : H2 X) (ha : PE X a (rdE C ma)) (hb : PE X b (rdE C mb)) (hs : NoSl b := by intro _ _; rfl) : PE X (.Subscript a b pos) (rdE C (m2 gGet ma mb)) := ye_get (hu6 hu) ha hb hs
-- built-ins
theorem yb_len (hg : Gl X "len") (hm : X.mg "len" = none) (ha : PA X (e :: es) (rdA C ms)) (he : starEach (e :: es) X.env = (false, eval e X.env) :: starEach es X.env := by rfl) (hpl : (backTo pos (starEach es X.env)).any (·.1) = false := by rfl) : PE X (.Call (.Name "len" p) (e :: es) [] pos) (rdE C (mArgs gLen ms)) :=
  ye_callB call_len on_len hg hm PySem.boot_len ha (by decide) (by decide) he hpl
theorem yb_all (hc : X.calm = true) (hg : Gl X "all") (hm : X.mg "all" = none) (ha : PA X (e :: es) (rdA C ms)) (he : starEach (e :: es) X.env = (false, eval e X.env) :: starEach es X.env := by rfl) (hpl : (backTo pos (starEach es X.env)).any (·.1) = false := by rfl) : PE X (.Call (.Name "all" p) (e :: es) [] pos) (rdE C (mArgs gAll ms)) :=
  ye_callB (cr_all hc) on_all hg hm (by decide +kernel) ha (by decide) (by decide) he hpl
theorem yb_any (hc : X.calm = true) (hg : Gl X "any") (hm : X.mg "any" = none) (ha : PA X (e :: es) (rdA C ms)) (he : starEach (e :: es) X.env = (false, eval e X.env) :: starEach es X.env := by rfl) (hpl : (backTo pos (starEach es X.env)).any (·.1) = false := by rfl) : PE X (.Call (.Name "any" p) (e :: es) [] pos) (rdE C (mArgs gAny ms)) :=
  ye_callB (cr_any hc) on_any hg hm (by decide +kernel) ha (by decide) (by decide) he hpl
theorem yb_max (hc : X.calm = true) (hg : Gl X "max") (hm : X.mg "max" = none) (ha : PA X (e :: es) (rdA C ms)) (he : starEach (e :: es) X.env = (false, eval e X.env) :: starEach es X.env := by rfl) (hpl : (backTo pos (starEach es X.env)).any (·.1) = false := by rfl) : PE X (.Call (.Name "max" p) (e :: es) [] pos) (rdE C (mArgs gMax ms)) :=
  ye_callB (cr_max hc) on_max hg hm (by decide +kernel) ha (by decide) (by decide) he hpl
theorem yb_tuple (hg : Gl X "tuple") (hm : X.mg "tuple" = none) (ha : PA X (e :: es) (rdA C ms)) (he : starEach (e :: es) X.env = (false, eval e X.env) :: starEach es X.env := by rfl) (hpl : (backTo pos (starEach es X.env)).any (·.1) = false := by rfl) : PE X (.Call (.Name "tuple" p) (e :: es) [] pos) (rdE C (mArgs gTuple ms)) :=
  ye_callTy call_tuple_of on_tuple hg hm (by decide +kernel) ha (by decide) (by decide) he hpl
theorem yb_list (hg : Gl X "list") (hm : X.mg "list" = none) (ha : PA X (e :: es) (rdA C ms)) (he : starEach (e :: es) X.env = (false, eval e X.env) :: starEach es X.env := by rfl) (hpl : (backTo pos (starEach es X.env)).any (·.1) = false := by rfl) : PE X (.Call (.Name "list" p) (e :: es) [] pos) (rdE C (mArgs gList ms)) :=
  ye_callTy call_list_of on_list hg hm (by decide +kernel) ha (by decide) (by decide) he hpl
theorem yb_dict (hc : X.calm = true) (hg : Gl X "dict") (hm : X.mg "dict" = none) (ha : PA X (e :: es) (rdA C ms)) (he : starEach (e :: es) X.env = (false, eval e X.env) :: starEach es X.env := by rfl) (hpl : (backTo pos (starEach es X.env)).any (·.1) = false := by rfl) : PE X (.Call (.Name "dict" p) (e :: es) [] pos) (rdE C (mArgs gDict ms)) :=
  ye_callTy (call_dictP hc) on_dict hg hm (by decide +kernel) ha (by decide) (by decide) he hpl
theorem yb_sortN (hg : Gl X "sorted") (hm : X.mg "sorted" = none) (ha : PA X (e :: es) (rdA C ms)) (he : starEach (e :: es) X.env = (false, eval e X.env) :: starEach es X.env := by rfl) (hpl : (backTo pos (starEach es X.env)).any (·.1) = false := by rfl) : PE X (.Call (.Name "sorted" p) (e :: es) [] pos) (rdE C (mArgs gSortN ms)) :=
  ye_callB cr_sortedS on_sortN hg hm (by decide +kernel) ha (by decide) (by decide) he hpl
theorem yb_repr (hgd : X.A.guards = some []) (hu : H2 X) (hg : Gl X "repr") (hm : X.mg "repr" = none) (ha : PA X (e :: es) (rdA C ms)) (he : starEach (e :: es) X.env = (false, eval e X.env) :: starEach es X.env := by rfl) (hpl : (backTo pos (starEach es X.env)).any (·.1) = false := by rfl) : PE X (.Call (.Name "repr" p) (e :: es) [] pos) (rdE C (mArgs gRepr ms)) :=
  ye_callB (cr_repr hgd (hu6 hu)) on_repr hg hm PyProof.Rows.bootS_repr ha (by decide) (by decide) he hpl
theorem yb_isi {pT : Pos} {x : Str} {T : String} (ha : PE X e (rdE C ma)) (hT : PE X (.Name x pT) (tC (.ty T))) (hg : Gl X "isinstance") (hm : X.mg "isinstance" = none)
    (hs1 : starEach (e :: [.Name x pT]) X.env = (false, eval e X.env) :: starEach [.Name x pT] X.env := by rfl) (hs2 : starEach [.Name x pT] X.env = (false, eval (.Name x pT) X.env) :: starEach [] X.env := by rfl)
    (hpl : (backTo pos (starEach [.Name x pT] X.env)).any (·.1) = false := by rfl) :
    PE X (.Call (.Name "isinstance" p) [e, .Name x pT] [] pos) (rdE C (m1 (gIs T) ma)) := ye_isinst ha hT hg hm hs1 hs2 hpl
theorem yt_int (hg : Gl X "int") (hm : X.mg "int" = none) : PE X (.Name "int" pos) (tC (.ty "int")) := pe_bltn hg hm (u := .type "int") (by decide +kernel) rfl
theorem yt_bool (hg : Gl X "bool") (hm : X.mg "bool" = none) : PE X (.Name "bool" pos) (tC (.ty "bool")) := pe_bltn hg hm (u := .type "bool") (by decide +kernel) rfl
theorem yt_str (hg : Gl X "str") (hm : X.mg "str" = none) : PE X (.Name "str" pos) (tC (.ty "str")) := pe_bltn hg hm (u := .type "str") (by decide +kernel) rfl
theorem yt_tup (hg : Gl X "tuple") (hm : X.mg "tuple" = none) : PE X (.Name "tuple" pos) (tC (.ty "tuple")) := pe_bltn hg hm (u := .type "tuple") (by decide +kernel) rfl
-- list comprehensions
variable {elt tg iter : Expr} {ifs : List Expr} {scope : Scope} {own : List (Str × Nat)} {src : MI} {g : MG} {te : ME}
theorem ye_lc (hc : X.calm = true) (hN : X.N.Nodup) (hi : PI X tg iter (rdI C src)) (ok : BlkOk X.N X.env.scope scope own)
    (hg : ∀ (s : Shared) (H : Hp) (D : Addr) (cl : List (Str × Addr)) (fp : List Addr), PG (X.blk s H scope (compEnvC scope cl D X.env) fp) tg (rdG C (own.map (·.2)) g)) (ht : ∀ (s : Shared) (H : Hp) (D : Addr) (cl : List (Str × Addr)) (fp : List Addr), PTs (X.blk s H scope (compEnvC scope cl D X.env) fp) ifs (rdT C mt))
    (he : ∀ (s : Shared) (H : Hp) (D : Addr) (cl : List (Str × Addr)) (fp : List Addr), PE (X.blk s H scope (compEnvC scope cl D X.env) fp) elt (rdE C te)) (hs : ∀ x, foldedSetIterable iter X.env x = pure x := by intro _; rfl) :
    PE X (.ListComp elt [⟨tg, iter, ifs, 0⟩] scope pos) (rdE C (mLc (own.map (·.2)) src g mt (bOne te))) := PE.mono (pe_lc hc hN hi ok hg ht he hs) fun _ _ _ h => lc_read h
theorem ys_setLc {i : Nat} {y : Str} {py spos : Pos} (hc : X.calm = true) (hN : X.N.Nodup) (hy : X.N[i]? = some y) (hyl : X.env.scope.names.lookup y = some .local)
    (hsw : swapsWith (.ListComp elt [⟨tg, iter, ifs, 0⟩] scope pos) (some (.Name y py)) spos.line X.env = pure true) (hi : PI X tg iter (rdI C src)) (ok : BlkOk X.N X.env.scope scope own)
    (hg : ∀ (s : Shared) (H : Hp) (D : Addr) (cl : List (Str × Addr)) (fp : List Addr), PG (X.blk s H scope (compEnvC scope cl D X.env) fp) tg (rdG C (own.map (·.2)) g)) (ht : ∀ (s : Shared) (H : Hp) (D : Addr) (cl : List (Str × Addr)) (fp : List Addr), PTs (X.blk s H scope (compEnvC scope cl D X.env) fp) ifs (rdT C mt))
    (he : ∀ (s : Shared) (H : Hp) (D : Addr) (cl : List (Str × Addr)) (fp : List Addr), PE (X.blk s H scope (compEnvC scope cl D X.env) fp) elt (rdE C te)) (hs : ∀ x, foldedSetIterable iter X.env x = pure x := by intro _; rfl) :
    PS X (.Assign [.Name y py] (.ListComp elt [⟨tg, iter, ifs, 0⟩] scope pos) spos) (rdS C (sSet i (mLc (own.map (·.2)) src g mt (bOne te)))) :=
  PS.mono (ps_setLc hc hN hy hyl hsw hi ok hg ht he hs) fun D σ H ⟨M, ρ, f, r, f', I, q, k⟩ => by
    unfold sSet at q
    cases e1 : mLc (own.map (·.2)) src g mt (bOne te) ρ f with
    | none => rw [e1] at q; cases q
    | some z =>
      obtain ⟨w1, f1⟩ := z
      rw [e1] at q
      cases q
      exact lc_read ⟨M, ρ, f, w1, _, I, e1, fun v H1 g1 d1 r1 => k M _ H1 ((I.grow g1 d1).setv r1) (g1.mask I.hid)⟩
variable {tg1 iter1 : Expr} {ifs1 : List Expr} {vs1 : List Nat} {src1 : MI} {g1 : MG} {mt1 : MT}
theorem ye_lc2 (hc : X.calm = true) (hN : X.N.Nodup) (hi : PI X tg iter (rdI C src)) (ok : BlkOk X.N X.env.scope scope own) (hv : ∀ i ∈ vs1, i ∈ own.map (·.2))
    (hg : ∀ (s : Shared) (H : Hp) (D : Addr) (cl : List (Str × Addr)) (fp : List Addr), PG (X.blk s H scope (compEnvC scope cl D X.env) fp) tg (rdG C (own.map (·.2)) g)) (ht : ∀ (s : Shared) (H : Hp) (D : Addr) (cl : List (Str × Addr)) (fp : List Addr), PTs (X.blk s H scope (compEnvC scope cl D X.env) fp) ifs (rdT C mt))
    (hi1 : ∀ (s : Shared) (H : Hp) (D : Addr) (cl : List (Str × Addr)) (fp : List Addr), PI (X.blk s H scope (compEnvC scope cl D X.env) fp) tg1 iter1 (rdI C src1))
    (hg1 : ∀ (s : Shared) (H : Hp) (D : Addr) (cl : List (Str × Addr)) (fp : List Addr), PG (X.blk s H scope (compEnvC scope cl D X.env) fp) tg1 (rdG C vs1 g1)) (ht1 : ∀ (s : Shared) (H : Hp) (D : Addr) (cl : List (Str × Addr)) (fp : List Addr), PTs (X.blk s H scope (compEnvC scope cl D X.env) fp) ifs1 (rdT C mt1))
    (he : ∀ (s : Shared) (H : Hp) (D : Addr) (cl : List (Str × Addr)) (fp : List Addr), PE (X.blk s H scope (compEnvC scope cl D X.env) fp) elt (rdE C te)) (hs : ∀ x, foldedSetIterable iter X.env x = pure x := by intro _; rfl) (hs1 : ∀ env x, foldedSetIterable iter1 env x = pure x := by intro _ _; rfl) :
    PE X (.ListComp elt [⟨tg, iter, ifs, 0⟩, ⟨tg1, iter1, ifs1, 0⟩] scope pos) (rdE C (mLc (own.map (·.2)) src g mt (bTwo vs1 src1 g1 mt1 (bOne te)))) := PE.mono (pe_lc2 hc hN hi ok hv hg ht hi1 hg1 ht1 he hs hs1) fun _ _ _ h => lc2_read h
theorem ys_setLc2 {i : Nat} {y : Str} {py spos : Pos} (hc : X.calm = true) (hN : X.N.Nodup) (hy : X.N[i]? = some y) (hyl : X.env.scope.names.lookup y = some .local)
    (hsw : swapsWith (.ListComp elt [⟨tg, iter, ifs, 0⟩, ⟨tg1, iter1, ifs1, 0⟩] scope pos) (some (.Name y py)) spos.line X.env = pure true) (hi : PI X tg iter (rdI C src)) (ok : BlkOk X.N X.env.scope scope own) (hv : ∀ i ∈ vs1, i ∈ own.map (·.2))
    (hg : ∀ (s : Shared) (H : Hp) (D : Addr) (cl : List (Str × Addr)) (fp : List Addr), PG (X.blk s H scope (compEnvC scope cl D X.env) fp) tg (rdG C (own.map (·.2)) g)) (ht : ∀ (s : Shared) (H : Hp) (D : Addr) (cl : List (Str × Addr)) (fp : List Addr), PTs (X.blk s H scope (compEnvC scope cl D X.env) fp) ifs (rdT C mt))
    (hi1 : ∀ (s : Shared) (H : Hp) (D : Addr) (cl : List (Str × Addr)) (fp : List Addr), PI (X.blk s H scope (compEnvC scope cl D X.env) fp) tg1 iter1 (rdI C src1))
    (hg1 : ∀ (s : Shared) (H : Hp) (D : Addr) (cl : List (Str × Addr)) (fp : List Addr), PG (X.blk s H scope (compEnvC scope cl D X.env) fp) tg1 (rdG C vs1 g1)) (ht1 : ∀ (s : Shared) (H : Hp) (D : Addr) (cl : List (Str × Addr)) (fp : List Addr), PTs (X.blk s H scope (compEnvC scope cl D X.env) fp) ifs1 (rdT C mt1))
    (he : ∀ (s : Shared) (H : Hp) (D : Addr) (cl : List (Str × Addr)) (fp : List Addr), PE (X.blk s H scope (compEnvC scope cl D X.env) fp) elt (rdE C te)) (hs : ∀ x, foldedSetIterable iter X.env x = pure x := by intro _; rfl) (hs1 : ∀ env x, foldedSetIterable iter1 env x = pure x := by intro _ _; rfl) :
    PS X (.Assign [.Name y py] (.ListComp elt [⟨tg, iter, ifs, 0⟩, ⟨tg1, iter1, ifs1, 0⟩] scope pos) spos) (rdS C (sSet i (mLc (own.map (·.2)) src g mt (bTwo vs1 src1 g1 mt1 (bOne te))))) :=
  PS.mono (ps_setLc2 hc hN hy hyl hsw hi ok hv hg ht hi1 hg1 ht1 he hs hs1) fun D σ H ⟨M, ρ, f, r, f', I, q, k⟩ => by
    unfold sSet at q
    cases e1 : mLc (own.map (·.2)) src g mt (bTwo vs1 src1 g1 mt1 (bOne te)) ρ f with
    | none => rw [e1] at q; cases q
    | some z =>
      obtain ⟨w1, f1⟩ := z
      rw [e1] at q
      cases q
      exact lc2_read ⟨M, ρ, f, w1, _, I, e1, fun v H1 g1 d1 r1 => k M _ H1 ((I.grow g1 d1).setv r1) (g1.mask I.hid)⟩
end
end Y
end KOps
section KTx
set_option Elab.async false
set_option linter.all false
set_option maxRecDepth 100000
set_option maxHeartbeats 4000000
/-! The walk, printed by gen.py. -/
namespace Y
open PySem PySem.Spec PyProof.Rows L2
def topS (i : Nat) : Stmt := PySem.Challenge.pw_actasone_k66_whole_trusts_told_back.main.body.getD i (.Pass ⟨0, 0, 0, 0⟩)
/-- a def behind the top -/
structure Df (K : PySem.W.Frag) (mg : Str → Option Value) (x : Str) (i : Nat) (ps : List Str) where
  a : Addr
  f : FuncData
  m : mg x = some (.ref a)
  k : PySem.W.keepIn K (.ref a) = true
  t : DefAt K x x (topS i) a f
  n : Binds K f ps []
/-- the same, called with defaults -/
structure Dd (K : PySem.W.Frag) (mg : Str → Option Value) (x : Str) (i : Nat) (ps : List Str) (dv : List V) where
  a : Addr
  f : FuncData
  m : mg x = some (.ref a)
  k : PySem.W.keepIn K (.ref a) = true
  t : DefAt K x x (topS i) a f
  e : List Value
  n : Binds K f ps e
  w : Vals dv e
/-- the same, called by a keyword -/
structure Dk (K : PySem.W.Frag) (mg : Str → Option Value) (x : Str) (i : Nat) (ps : List Str) (c : Nat) (ks : List Str) where
  a : Addr
  f : FuncData
  m : mg x = some (.ref a)
  k : PySem.W.keepIn K (.ref a) = true
  t : DefAt K x x (topS i) a f
  n : KBn K f ps c ks (fun us ws => us ++ ws) (fun vs zs => vs ++ zs)
structure Tb (mg : Str → Option Value) : Prop where
  b_len : mg "len" = none
  b_all : mg "all" = none
  b_any : mg "any" = none
  b_max : mg "max" = none
  b_tuple : mg "tuple" = none
  b_list : mg "list" = none
  b_dict : mg "dict" = none
  b_sorted : mg "sorted" = none
  b_repr : mg "repr" = none
  b_isinstance : mg "isinstance" = none
  b_set : mg "set" = none
  b_range : mg "range" = none
  b_enumerate : mg "enumerate" = none
  b_zip : mg "zip" = none
  b_int : mg "int" = none
  b_bool : mg "bool" = none
  b_str : mg "str" = none
  ALPHABET : ∃ u, mg "ALPHABET" = some u ∧ RelV (.str "abcdefghijklmnopqrstuvwxyz") u
  MOST_SIGNS : ∃ u, mg "MOST_SIGNS" = some u ∧ RelV (.int 8) u
  ANY : ∃ u, mg "ANY" = some u ∧ RelV (.str "any") u
/-- what stands behind the top -/
structure Tx (K : PySem.W.Frag) (mg : Str → Option Value) where
  b : Tb mg
  is_integer : Df K mg "is_integer" 4 ["thing"]
  is_number : Df K mg "is_number" 5 ["thing"]
  is_index : Df K mg "is_index" 6 ["thing", "many"]
  is_among : Df K mg "is_among" 7 ["thing", "names"]
  is_name : Df K mg "is_name" 8 ["thing"]
  is_tuple_of : Df K mg "is_tuple_of" 9 ["thing", "many"]
  is_pair : Df K mg "is_pair" 10 ["thing"]
  are_rising : Df K mg "are_rising" 11 ["parts"]
  is_names : Df K mg "is_names" 12 ["thing"]
  is_names_among : Df K mg "is_names_among" 13 ["thing", "names"]
  are_sets_among : Df K mg "are_sets_among" 14 ["thing", "names"]
  are_indexes : Df K mg "are_indexes" 15 ["thing", "size", "many"]
  are_numbers : Df K mg "are_numbers" 16 ["thing", "size"]
  machine_fault : Df K mg "machine_fault" 17 ["thing"]
  is_triple_from : Df K mg "is_triple_from" 18 ["thing"]
  trust_fault : Df K mg "trust_fault" 19 ["thing"]
  order_fault : Df K mg "order_fault" 21 ["houses", "thing"]
  gaps_by : Df K mg "gaps_by" 22 ["clocks"]
  triangle_fault : Df K mg "triangle_fault" 24 ["thing"]
  clocks_fault : Df K mg "clocks_fault" 25 ["houses", "thing"]
  are_promises : Df K mg "are_promises" 26 ["thing", "end"]
  is_looking : Df K mg "is_looking" 27 ["thing"]
  is_looking_of : Df K mg "is_looking_of" 29 ["machine", "houses", "thing"]
  rules_fault : Df K mg "rules_fault" 31 ["machine", "houses", "looking", "waking"]
  parts_fault : Df K mg "parts_fault" 32 ["thing"]
  is_trust : Df K mg "is_trust" 33 ["thing"]
  is_book : Df K mg "is_book" 34 ["thing"]
  meets_in : Df K mg "meets_in" 36 ["one", "other"]
  joint_in : Df K mg "joint_in" 37 ["one", "other"]
  houses_in : Df K mg "houses_in" 38 ["trust"]
  lots_of : Df K mg "lots_of" 40 ["trust", "house"]
  fears_of : Df K mg "fears_of" 41 ["trust", "house"]
  is_within : Df K mg "is_within" 42 ["one", "other"]
  less_by : Df K mg "less_by" 43 ["lot", "fall"]
  least_of : Df K mg "least_of" 44 ["sets"]
  greatest_of : Df K mg "greatest_of" 45 ["sets"]
  falls_by : Df K mg "falls_by" 46 ["trust", "house", "other"]
  pairs_in : Df K mg "pairs_in" 47 ["trust"]
  lot_at : Df K mg "lot_at" 48 ["trust", "pair"]
  needs_by : Df K mg "needs_by" 49 ["trust", "house"]
  first_missed_by : Df K mg "first_missed_by" 50 ["needs", "lot"]
  is_met : Df K mg "is_met" 51 ["needs", "lot"]
  crossings_by : Df K mg "crossings_by" 52 ["needs"]
  is_house_of : Df K mg "is_house_of" 54 ["trust", "thing"]
  are_houses_of : Df K mg "are_houses_of" 55 ["trust", "thing"]
  want : Dd K mg "want" 61 ["is_fit", "name", "at"] [.int (-1)]
  want_book : Dd K mg "want_book" 62 ["value", "name"] [.str "book"]
  want_age : Df K mg "want_age" 63 ["book", "age"]
  want_trust : Dd K mg "want_trust" 65 ["trust", "name"] [.str "trust"]
  want_house : Dd K mg "want_house" 66 ["trust", "house", "name"] [.str "house"]
  want_lot : Dd K mg "want_lot" 67 ["trust", "lot", "name"] [.str "lot"]
  want_trusts : Df K mg "want_trusts" 69 ["trust", "other"]
  trusts_alike : Df K mg "trusts_alike" 70 ["trust", "other"]
  parting_lot : Df K mg "parting_lot" 71 ["trust", "other"]
  needs_of : Df K mg "needs_of" 73 ["trust", "house"]
  meets_needs : Df K mg "meets_needs" 74 ["trust", "house", "lot"]
  least_lots : Df K mg "least_lots" 75 ["trust", "house"]
  want_rule : Df K mg "want_rule" 77 ["book", "rule"]
  answer_in : Df K mg "answer_in" 82 ["machine", "state", "look"]
  rows_from : Df K mg "rows_from" 84 ["machine", "state"]
  rows_in : Df K mg "rows_in" 85 ["machine"]
  unlike_from : Df K mg "unlike_from" 87 ["machine", "look", "state"]
  kept_within : Df K mg "kept_within" 88 ["machine", "some", "late"]
  longest_from : Df K mg "longest_from" 89 ["machine", "look", "state"]
  least_age_in : Df K mg "least_age_in" 90 ["machine", "look"]
  moves_in : Df K mg "moves_in" 91 ["machine", "look", "age"]
  lasting_in : Df K mg "lasting_in" 93 ["book", "rule"]
  caught_in : Df K mg "caught_in" 94 ["book", "rule", "need"]
  moving_in : Df K mg "moving_in" 95 ["book", "rule", "age"]
  lacks_in : Df K mg "lacks_in" 96 ["book", "rule", "age"]
  rule_lacks : Dk K mg "rule_lacks" 98 ["book", "rule", "age"] 2 ["age"]
  rule_is_right : Dd K mg "rule_is_right" 99 ["book", "rule", "age"] [.int 0]
  law_feed : Df K mg "_law_feed" 101 ["_law_script"]
  law_draw : Df K mg "_law_draw" 102 ["_law_feed_here", "_law_many"]
  law_any : Df K mg "_law_any" 103 ["_law_feed_here", "_law_some"]
  law_same : Df K mg "_law_same" 104 ["_law_told", "_law_due"]
  law_within : Df K mg "_law_within" 105 ["_law_some", "_law_other"]
  law_less : Df K mg "_law_less" 106 ["_law_some", "_law_other"]
  law_subsets : Df K mg "_law_subsets" 107 ["_law_names"]
  law_guild : Df K mg "_law_guild" 108 ["_law_feed_here", "_law_most"]
  law_safe : Df K mg "_law_safe" 109 ["_law_guild_here", "_law_some"]
  law_safes : Df K mg "_law_safes" 110 ["_law_guild_here"]
  law_minimal : Df K mg "_law_minimal" 111 ["_law_sets"]
  law_needs : Df K mg "_law_needs" 112 ["_law_guild_here", "_law_safes_here", "_law_name"]
  law_meets : Df K mg "_law_meets" 113 ["_law_needs_here", "_law_some"]
  law_motor : Df K mg "_law_motor" 114 ["_law_feed_here"]
  law_crossed : Df K mg "_law_crossed" 115 ["_law_sets", "_law_names"]
  law_thin : Df K mg "_law_thin" 116 ["_law_guild_here"]
  law_near : Df K mg "_law_near" 117 ["_law_feed_here", "_law_guild_here", "_law_names"]
  law_is_told_back : Df K mg "_law_is_told_back" 118 ["_law_guild_here", "_law_names", "_law_table"]
  law_are_alike_right : Df K mg "_law_are_alike_right" 119 ["_law_feed_here", "_law_guild_here", "_law_far", "_law_table"]
  law_right : Df K mg "_law_right" 120 ["_law_script"]
  law : Df K mg "law" 121 ["_law_script"]
end Y
end KTx
section KOpsB
set_option Elab.async false
set_option linter.all false
set_option maxRecDepth 100000
set_option maxHeartbeats 4000000
/-! The layer: the feed, great ints, tables that a def grows, walks over tables, a motor's display. -/
namespace Y
open PySem PySem.Spec PySem.SeqAt PyProof.Rows L2
open PySem.W (alike alikeAll dataLt eqAt_alike eqAt_alikeAll rcLt_alike)

/-! ### the feed -/
def fdK (ca : Addr) (a b c : Int) : List (Key × V) := [(Sum.inr "cells", .ref ca), (Sum.inr "spot", .int a), (Sum.inr "rest", .int b), (Sum.inr "count", .int c)]
def mFd (i : Nat) (g : Fd → Int) : ME := fun ρ f => match ρ[i]? with
  | some (.v .f) => some (wI (g f), f)
  | _ => none
def mFdC (i : Nat) : ME := fun ρ f => match ρ[i]? with
  | some (.v .f) => some (.d (.list (f.cells.map .int)), f)
  | _ => none
def sFd (i : Nat) (u : Fd → Int → Fd) (a : ME) : MS := fun ρ f => (a ρ f).bind fun p => match p.1, ρ[i]? with
  | .d (.int n), some (.v .f) => some (.nx ρ, u p.2 n)
  | _, _ => none
theorem feed_at {C : Cq} {M : Addr → Bool} {σ : Sg} {H : Hp} {ρ : En} {f : Fd} {i : Nat} (I : EnvOk C M σ H ρ f) (e : ρ[i]? = some (.v .f)) : σ[i]? = some (some (.ref C.fa)) := by
  obtain ⟨v, h1, h2⟩ := I.val i _ e
  have h2 : v = .ref C.fa := h2
  rw [h1, h2]
theorem EnvOk.feedSet {C : Cq} {M : Addr → Bool} {σ : Sg} {H : Hp} {ρ : En} {f : Fd} (I : EnvOk C M σ H ρ f) (s r c : Int) : ∃ ca, H C.fa = some (.dK (fdK ca f.spot f.rest f.count)) ∧ EnvOk C M σ (upd H C.fa (.dK (fdK ca s r c))) ρ ⟨f.cells, s, r, c⟩ ∧ Sub (mask M H) (mask M (upd H C.fa (.dK (fdK ca s r c)))) := by
  obtain ⟨ca, h1, h2⟩ := I.feed
  have hne : ca ≠ C.fa := fun z => by
    rw [z] at h2
    rw [h1] at h2
    cases h2
  have g : Grow C.fa H (upd H C.fa (.dK (fdK ca s r c))) := ⟨fun b o n e => by rw [upd_ne n]; exact e, fun cb r' e => by
    rw [h1] at e
    cases e
    exact ⟨_, upd_same⟩⟩
  exact ⟨ca, h1, I.grow g ⟨ca, upd_same, by rw [upd_ne hne]; exact h2⟩, g.mask I.hid⟩
section
variable {X : Cx} {C : Cq} {a b c e : Expr} {es : List Expr} {ma mb mc : ME} {ms : MA} {mt : MT} {p px pos tpos : Pos} {x : Str} {i : Nat}
theorem ye_fd {k : Str} {j1} {g : Fd → Int} (hu : H2 X) (hv : PE X (.Name x px) (tVar i)) (hk : ∀ ca f, valV (fdK ca f.spot f.rest f.count) (Sum.inr k) = some (.int (g f))) : PE X (.Subscript (.Name x px) (.Constant (.str k) j1 p) pos) (rdE C (mFd i g)) :=
  PE.mono (pe_dget (by have := hu; unfold H2 at this; omega) hv pe_str (by intro _ _; rfl)) fun σ H Q ⟨M, ρ, f, w, f', I, q, kk⟩ => by
    unfold mFd at q
    split at q
    · rename_i e1
      cases q
      obtain ⟨ca, h1, h2⟩ := I.feed
      refine ⟨.ref C.fa, feed_at I e1, C.fa, .int (g _), rfl, ?_, kk _ H (Grow.refl _ _) I.feed (Rp.int _)⟩
      rw [← hk ca]
      exact DGet.k (k := Sum.inr k) h1
    · cases q
theorem ye_fdC {j1} (hu : H2 X) (hv : PE X (.Name x px) (tVar i)) : PE X (.Subscript (.Name x px) (.Constant (.str "cells") j1 p) pos) (rdE C (mFdC i)) :=
  PE.mono (pe_dget (by have := hu; unfold H2 at this; omega) hv pe_str (by intro _ _; rfl)) fun σ H Q ⟨M, ρ, f, w, f', I, q, kk⟩ => by
    unfold mFdC at q
    split at q
    · rename_i e1
      cases q
      obtain ⟨ca, h1, h2⟩ := I.feed
      refine ⟨.ref C.fa, feed_at I e1, C.fa, .ref ca, rfl, DGet.k (k := Sum.inr "cells") h1, kk _ H (Grow.refl _ _) I.feed (Rp.lst (mask_at (I.cel ca _ h1) h2) ?_)⟩
      have : ∀ (U : Hp) (ns : List Int), RpAll U (ns.map V.int) (ns.map PyData.int) := fun U ns => by
        induction ns with
        | nil => exact .nil
        | cons n ns ih => exact .cons (.int n) ih
      exact this _ _
    · cases q
theorem ys_fd {k : Str} {j1} {u : Fd → Int → Fd} (hu : H2 X) (hv : PE X (.Name x px) (tVar i)) (he : PE X e (rdE C ma))
    (hk : ∀ ca f n, putK (fdK ca f.spot f.rest f.count) (Sum.inr k) (.int n) = fdK ca (u f n).spot (u f n).rest (u f n).count) (hc : ∀ f n, (u f n).cells = f.cells)
    (hs : swapsWith e (some (.Subscript (.Name x px) (.Constant (.str k) j1 p) tpos)) pos.line X.env = pure false := by rfl) :
    PS X (.Assign [.Subscript (.Name x px) (.Constant (.str k) j1 p) tpos] e pos) (rdS C (sFd i u ma)) :=
  PS.mono (ps_dput (by have := hu; unfold H2 at this; omega) hv pe_str he hs) fun D σ H ⟨M, ρ, f, r, f', I, q, kk⟩ => by
    unfold sFd at q
    cases e1 : ma ρ f with
    | none => rw [e1] at q; cases q
    | some z =>
      obtain ⟨w, f1⟩ := z
      rw [e1] at q
      simp only [Option.bind_some] at q
      split at q
      · rename_i n e2
        cases q
        refine ⟨M, ρ, f, _, f1, I, e1, fun v H1 g1 d1 r1 => ?_⟩
        cases r1
        have I1 := I.grow g1 d1
        obtain ⟨ca, h1, I2, sb⟩ := I1.feedSet (u f1 n).spot (u f1 n).rest (u f1 n).count
        refine ⟨.ref C.fa, feed_at I e2, C.fa, _, rfl, DPut.k (k := Sum.inr k) h1 (show 4 < sizeLine by rw [sizeLine_eq]; decide), ?_⟩
        rw [hk]
        refine kk M σ _ ?_ ((g1.mask I.hid).trans sb)
        rw [show u f1 n = ⟨f1.cells, (u f1 n).spot, (u f1 n).rest, (u f1 n).count⟩ from by rw [← hc f1 n]]
        exact I2
      · cases q

/-! ### great ints -/
def gMod : W → W → Option W := gI (fun _ j => decide (0 < j)) fun i j => .int (i % j)
def gMul : W → W → Option W := gI (fun i j => decide ((-(2 ^ 64) < i ∧ i < 2 ^ 64) ∨ (-(2 ^ 64) < j ∧ j < 2 ^ 64))) fun i j => .int (i * j)
def gPow : W → W → Option W := gI (fun i j => decide (0 ≤ j ∧ j ≤ 1000000 ∧ i.natAbs < 2 ^ 64)) fun i j => .int (i ^ j.toNat)
theorem o2_mod : Op2 (rI (fun _ j => 0 < j) fun i j => .int (i % j)) gMod := o2_I (fun i j h => by simpa using h) fun _ _ _ => .int _
theorem o2_mul : Op2 (rI CMul fun i j => .int (i * j)) gMul := o2_I (fun i j h => show (-(2 ^ 64) < i ∧ i < 2 ^ 64) ∨ (-(2 ^ 64) < j ∧ j < 2 ^ 64) from of_decide_eq_true h) fun _ _ _ => .int _
theorem o2_pow : Op2 (rI CPow fun i j => .int (i ^ j.toNat)) gPow := o2_I (fun i j h => show 0 ≤ j ∧ j ≤ 1000000 ∧ i.natAbs < 2 ^ 64 from of_decide_eq_true h) fun _ _ _ => .int _
theorem yo_mod (ha : PE X a (rdE C ma)) (hb : PE X b (rdE C mb)) : PE X (.BinOp a .Mod b pos) (rdE C (m2 gMod ma mb)) := ye_op op_mod o2_mod ha hb
theorem yo_mul (ha : PE X a (rdE C ma)) (hb : PE X b (rdE C mb)) : PE X (.BinOp a .Mult b pos) (rdE C (m2 gMul ma mb)) := ye_op op_mul o2_mul ha hb
theorem yo_pow (ha : PE X a (rdE C ma)) (hb : PE X b (rdE C mb)) : PE X (.BinOp a .Pow b pos) (rdE C (m2 gPow ma mb)) := ye_op op_pow o2_pow ha hb
def gInt : List W → Option W
  | [.d (.int i)] => some (wI i)
  | _ => none
theorem on_int : OpN (fun xs H Q => (∃ i, xs = [.int i] ∧ Q (.int i) H) ∨ ∃ k, xs = [.bl k] ∧ Q (.int (if k then 1 else 0)) H) gInt := fun fa M H xs ws w Q fr r e k => by
  unfold gInt at e
  split at e
  · cases e
    obtain ⟨v, rfl, r1⟩ := rws_one r
    cases r1
    exact .inl ⟨_, rfl, k _ H (Sub.refl H) (Rp.int _)⟩
  · cases e
theorem yb_int (hg : Gl X "int") (hm : X.mg "int" = none) (ha : PA X (e :: es) (rdA C ms)) (he : starEach (e :: es) X.env = (false, eval e X.env) :: starEach es X.env := by rfl) (hpl : (backTo pos (starEach es X.env)).any (·.1) = false := by rfl) : PE X (.Call (.Name "int" p) (e :: es) [] pos) (rdE C (mArgs gInt ms)) :=
  ye_callTy call_int1 on_int hg hm (by decide +kernel) ha (by decide) (by decide) he hpl

/-! ### a list and a table that a def grows, read -/
def mLenO (i : Nat) : ME := fun ρ f => match ρ[i]? with
  | some (.own (.lst ds)) => some (wI ds.length, f)
  | _ => none
theorem ye_lenO (hg : Gl X "len") (hm : X.mg "len" = none) (hv : PE X (.Name x px) (tVar i)) (he : starEach [.Name x px] X.env = (false, eval (.Name x px) X.env) :: starEach [] X.env := by rfl) (hpl : (backTo pos (starEach [] X.env)).any (·.1) = false := by rfl) :
    PE X (.Call (.Name "len" p) [.Name x px] [] pos) (rdE C (mLenO i)) := PE.mono (pe_callB call_len hg hm PySem.boot_len (pa_cons hv pa_nil he) (he := he) (hpl := hpl)) fun σ H Q ⟨M, ρ, f, w, f', I, q, k⟩ => by
  unfold mLenO at q
  split at q
  · rename_i ds e1
    cases q
    obtain ⟨o, vs, h1, h2, h3, h4⟩ := own_at I e1
    refine ⟨.ref o, h1, .ref o, ds.length, rfl, .inl ⟨vs, SqL.of h3, h4.length.symm⟩, k _ H (Grow.refl _ _) I.feed (Rp.int _)⟩
  · cases q
def mIxO (i : Nat) (b : ME) : ME := fun ρ f => (b ρ f).bind fun p => match ρ[i]?, p.1 with
  | some (.own (.lst ds)), .d (.int n) => if 0 ≤ n then (ds[n.toNat]?).map fun d => (W.d d, p.2) else none
  | _, _ => none
theorem ye_ixO (hv : PE X (.Name x px) (tVar i)) (hb : PE X b (rdE C mb)) (hs : PlainIx b := by intro _ _; rfl) : PE X (.Subscript (.Name x px) b pos) (rdE C (mIxO i mb)) := PE.mono (pe_ix ix_seq hv hb hs) fun σ H Q ⟨M, ρ, f, w, f', I, q, k⟩ => by
  unfold mIxO at q
  cases e1 : mb ρ f with
  | none => rw [e1] at q; cases q
  | some z =>
    obtain ⟨w1, f1⟩ := z
    rw [e1] at q
    simp only [Option.bind_some] at q
    split at q
    · rename_i ds n e2
      split at q
      · rename_i hn
        cases e3 : ds[n.toNat]? with
        | none => rw [e3] at q; cases q
        | some d =>
          rw [e3] at q
          cases q
          obtain ⟨o, vs, h1, h2, h3, h4⟩ := own_at I e2
          refine ⟨.ref o, h1, M, ρ, f, _, _, I, e1, fun v H1 g1 d1 r1 => ?_⟩
          have I1 := I.grow g1 d1
          obtain ⟨o', vs', h1', h2', h3', h4'⟩ := own_at I1 e2
          rw [h1] at h1'
          cases h1'
          cases r1
          obtain ⟨v, hv1, hv2⟩ := h4'.get e3
          exact .inl ⟨_, _, _, v, rfl, rfl, SqL.of h3', at_of (j := n.toNat) (by omega) hv1, k v H1 g1 d1 hv2⟩
      · cases q
    · cases q
theorem tab_at {M : Addr → Bool} {σ : Sg} {H : Hp} {ρ : En} {f : Fd} {i : Nat} {kvs : List (Key × PyData)} (I : EnvOk C M σ H ρ f) (e : ρ[i]? = some (.own (.tab kvs))) : ∃ a ks, σ[i]? = some (some (.ref a)) ∧ M a = true ∧ H a = some (.dK ks) ∧ Tab (mask M H) ks kvs := by
  obtain ⟨a, o, h1, h2, h3, h4, h5, h6, h7, h8⟩ := I.own i _ e
  cases o with
  | dK vs => exact ⟨a, vs, h1, h2, h6, h7⟩
  | _ => exact False.elim h7
def mGetO (i : Nat) (b : ME) : ME := fun ρ f => (b ρ f).bind fun p => match ρ[i]?, p.1 with
  | some (.own (.tab kvs)), .d x => (keyD x).bind fun k => (valD kvs k).map fun d => (W.d d, p.2)
  | _, _ => none
theorem ye_getO (hu : H2 X) (hv : PE X (.Name x px) (tVar i)) (hb : PE X b (rdE C mb)) (hs : NoSl b := by intro _ _; rfl) : PE X (.Subscript (.Name x px) b pos) (rdE C (mGetO i mb)) := PE.mono (pe_dget (by have := hu; unfold H2 at this; omega) hv hb hs) fun σ H Q ⟨M, ρ, f, w, f', I, q, k⟩ => by
  unfold mGetO at q
  cases e1 : mb ρ f with
  | none => rw [e1] at q; cases q
  | some z =>
    obtain ⟨w1, f1⟩ := z
    rw [e1] at q
    simp only [Option.bind_some] at q
    split at q
    · rename_i kvs d e2
      cases e3 : keyD d with
      | none => rw [e3] at q; cases q
      | some k0 =>
        rw [e3] at q
        simp only [Option.bind_some] at q
        cases e4 : valD kvs k0 with
        | none => rw [e4] at q; cases q
        | some d' =>
          rw [e4] at q
          cases q
          obtain ⟨o, ks, h1, h2, h3, h4⟩ := tab_at I e2
          refine ⟨.ref o, h1, M, ρ, f, _, _, I, e1, fun v H1 g1 d1 r1 => ?_⟩
          have I1 := I.grow g1 d1
          obtain ⟨o', ks', h1', h2', h3', h4'⟩ := tab_at I1 e2
          rw [h1] at h1'
          cases h1'
          have ey := keyD_rp e3 r1
          subst ey
          obtain ⟨v, hv1, hv2⟩ := (valD_tab (k := k0) h4').2 d' e4
          refine ⟨o, v, rfl, ?_, k v H1 g1 d1 hv2⟩
          rw [← hv1]
          exact DGet.k h3'
    · cases q
def tNinO (i : Nat) (b : ME) : MT := fun ρ f => (b ρ f).bind fun p => match ρ[i]?, p.1 with
  | some (.own (.tab kvs)), .d x => (keyD x).map fun k => (!(valD kvs k).isSome, p.2)
  | _, _ => none
theorem yq_ninO (hu : H2 X) (hb : PE X b (rdE C mb)) (hv : PE X (.Name x px) (tVar i)) : PT X (.Compare b [.NotIn] [.Name x px] pos) (rdT C (tNinO i mb)) := PT.mono (pt_cmp (pc_dnotin (by have := hu; unfold H2 at this; omega) hb hv) (by with_unfolding_all rfl)) fun σ H Q ⟨M, ρ, f, w, f', I, q, k⟩ => by
  unfold tNinO at q
  cases e1 : mb ρ f with
  | none => rw [e1] at q; cases q
  | some z =>
    obtain ⟨w1, f1⟩ := z
    rw [e1] at q
    simp only [Option.bind_some] at q
    split at q
    · rename_i kvs d e2
      cases e3 : keyD d with
      | none => rw [e3] at q; cases q
      | some k0 =>
        rw [e3] at q
        cases q
        obtain ⟨o, ks, h1, h2, h3, h4⟩ := tab_at I e2
        refine ⟨M, ρ, f, _, _, I, e1, fun v H1 g1 d1 r1 => ?_⟩
        have I1 := I.grow g1 d1
        obtain ⟨o', ks', h1', h2', h3', h4'⟩ := tab_at I1 e2
        have ey := keyD_rp e3 r1
        subst ey
        refine ⟨.ref o', h1', o', valV ks' k0, rfl, DGet.k h3', _, rfl, ?_⟩
        have eq : (valV ks' k0).isSome = (valD kvs k0).isSome := by
          obtain ⟨n1, s1⟩ := valD_tab (k := k0) h4'
          cases e4 : valD kvs k0 with
          | none => rw [n1 e4]; rfl
          | some d' =>
            obtain ⟨v, hv1, _⟩ := s1 d' e4
            rw [hv1]; rfl
        rw [eq]
        exact k H1 g1 d1
    · cases q
/-- found[k] = v, k new -/
def sSetT (i : Nat) (mk mv : ME) : MS := fun ρ f => (mv ρ f).bind fun p => (dOf p.1).bind fun d => (mk ρ p.2).bind fun q => match ρ[i]?, q.1 with
  | some (.own (.tab kvs)), .d x => (keyD x).bind fun k => if (valD kvs k).isSome = false ∧ kvs.length < 1000 then some (.nx (ρ.set i (.own (.tab (kvs ++ [(k, d)])))), q.2) else none
  | _, _ => none
theorem val_mem {kvs : List (Key × PyData)} {k : Key} (h : (valD kvs k).isSome = false) : k ∉ kvs.map (·.1) := fun m => by
  obtain ⟨p, hp, e⟩ := List.mem_map.mp m
  unfold valD at h
  cases q : kvs.find? (fun kv => decide (kv.1 = k)) with
  | none =>
    have := List.find?_eq_none.mp q p hp
    simp [e] at this
  | some z => rw [q] at h; cases h
theorem ys_setT {mk mv : ME} {ek : Expr} (hu : H2 X) (hv : PE X (.Name x px) (tVar i)) (hk : PE X ek (rdE C mk)) (he : PE X e (rdE C mv))
    (hs : swapsWith e (some (.Subscript (.Name x px) ek tpos)) pos.line X.env = pure false := by rfl) :
    PS X (.Assign [.Subscript (.Name x px) ek tpos] e pos) (rdS C (sSetT i mk mv)) :=
  PS.mono (ps_dput (by have := hu; unfold H2 at this; omega) hv hk he hs) fun D σ H ⟨M, ρ, f, r, f', I, q, kk⟩ => by
    unfold sSetT at q
    cases e1 : mv ρ f with
    | none => rw [e1] at q; cases q
    | some z =>
      obtain ⟨w, f1⟩ := z
      rw [e1] at q
      simp only [Option.bind_some] at q
      cases ed : dOf w with
      | none => rw [ed] at q; cases q
      | some d =>
        rw [ed] at q
        simp only [Option.bind_some] at q
        cases e2 : mk ρ f1 with
        | none => rw [e2] at q; cases q
        | some z2 =>
          obtain ⟨w2, f2⟩ := z2
          rw [e2] at q
          simp only [Option.bind_some] at q
          split at q
          · rename_i kvs dk e3
            cases e4 : keyD dk with
            | none => rw [e4] at q; cases q
            | some k0 =>
              rw [e4] at q
              simp only [Option.bind_some] at q
              split at q
              · rename_i hn
                cases q
                obtain ⟨o, ks, h1, h2, h3, h4⟩ := tab_at I e3
                refine ⟨M, ρ, f, w, f1, I, e1, fun v H1 g1 d1 r1 => ⟨.ref o, h1, M, ρ, f1, _, _, I.grow g1 d1, e2, fun v2 H2 g2 d2 r2 => ?_⟩⟩
                have I2 := (I.grow g1 d1).grow g2 d2
                obtain ⟨o', ks', h1', h2', h3', h4'⟩ := tab_at I2 e3
                rw [h1] at h1'
                cases h1'
                have ey := keyD_rp e4 r2
                subst ey
                have hl : ks'.length = kvs.length := h4'.length
                refine ⟨o, _, rfl, DPut.k h3' (by rw [hl, sizeLine_eq]; omega), ?_⟩
                rw [putK_new (by rw [tab_keys h4']; exact val_mem hn.1)]
                have rd : Rp (mask M H2) v d := by
                  have r1' := r1.mono (g2.mask I.hid)
                  cases w with
                  | d x => cases ed; exact r1'
                  | t _ => cases ed
                  | f => cases ed
                refine kk M σ _ (I2.setOwn e3 h1 (show OwnRp (mask M H2) (.dK (ks' ++ [(k0, v)])) (.tab (kvs ++ [(k0, d)])) from Paired.app h4' (.cons ⟨rfl, rd⟩ .nil))) ?_
                rw [mask_upd h2]
                exact (g1.trans g2).mask I.hid
              · cases q
          · cases q
theorem EnvOk.adopt {M : Addr → Bool} {σ : Sg} {H : Hp} {ρ : En} {f : Fd} (I : EnvOk C M σ H ρ f) {p : Addr} {o : HO} {ow : Ow} (mp : M p = true) (np : ∀ (j : Nat) (s : Ow), ρ[j]? = some (.own s) → σ[j]? ≠ some (some (V.ref p))) (m0 : C.M0 p = false) (h0 : C.H0 p = none) (nf : p ≠ C.fa) (nc : NC C.fa p H) (at_ : H p = some o) (new : OwnRp (mask M H) o ow) :
    EnvOk C M (σ.set i (some (.ref p))) H (ρ.set i (.own ow)) f := by
  have key : ∀ (j : Nat) (s : Slot), (ρ.set i (.own ow))[j]? = some s → (j = i ∧ s = .own ow ∧ i < σ.length) ∨ (j ≠ i ∧ ρ[j]? = some s) := by
    intro j s e
    by_cases hj : i = j
    · subst hj
      by_cases hi : i < ρ.length
      · rw [List.getElem?_set_self hi] at e
        exact .inl ⟨rfl, (Option.some.inj e).symm, by rw [← I.len]; exact hi⟩
      · rw [List.getElem?_eq_none (by simpa using hi)] at e
        cases e
    · rw [List.getElem?_set_ne hj] at e
      exact .inr ⟨fun q => hj q.symm, e⟩
  refine ⟨by simp [I.len], fun j w' e => ?_, fun j ds e => ?_, fun j k ds es' b e1 e2 e3 e4 => ?_, I.feed, I.hid, I.trk, I.old, I.sub, I.new, I.ck, I.cel⟩
  · rcases key j _ e with ⟨_, e2, _⟩ | ⟨hj, e2⟩
    · cases e2
    · obtain ⟨v, k1, k2⟩ := I.val j w' e2
      exact ⟨v, by rw [List.getElem?_set_ne (Ne.symm hj)]; exact k1, k2⟩
  · rcases key j _ e with ⟨rfl, e2, hi⟩ | ⟨hj, e2⟩
    · cases e2
      exact ⟨p, o, List.getElem?_set_self hi, mp, m0, h0, nf, at_, new, nc⟩
    · obtain ⟨b, vs, k1, k2⟩ := I.own j ds e2
      exact ⟨b, vs, by rw [List.getElem?_set_ne (Ne.symm hj)]; exact k1, k2⟩
  · rcases key j _ e1 with ⟨rfl, _, hi⟩ | ⟨hj, q1⟩
    · rcases key k _ e2 with ⟨rfl, _, _⟩ | ⟨hk, q2⟩
      · rfl
      · rw [List.getElem?_set_self hi] at e3
        cases e3
        rw [List.getElem?_set_ne (Ne.symm hk)] at e4
        exact absurd e4 (np k _ q2)
    · rw [List.getElem?_set_ne (Ne.symm hj)] at e3
      rcases key k _ e2 with ⟨rfl, _, hi⟩ | ⟨hk, q2⟩
      · rw [List.getElem?_set_self hi] at e4
        cases e4
        exact absurd e3 (np j _ q1)
      · rw [List.getElem?_set_ne (Ne.symm hk)] at e4
        exact I.dist j k _ _ b q1 q2 e3 e4
/-- found = {k: v}, to be grown -/
def sOwnD (i : Nat) (mk mv : ME) : MS := fun ρ f => (mk ρ f).bind fun p => (mv ρ p.2).bind fun q => match p.1, q.1 with
  | .d x, .d y => (keyD x).map fun k => (.nx (ρ.set i (.own (.tab [(k, y)]))), q.2)
  | _, _ => none
theorem ys_ownD {mk mv : ME} {ek ev : Expr} {pos' pl : Pos} (hN : X.N.Nodup) (hi : X.N[i]? = some x) (hx : Loc X.env.scope x) (hk : PE X ek (rdE C mk)) (hv : PE X ev (rdE C mv)) (hs : swapsWith (.Dict [some ek] [ev] pl) (some (.Name x pos')) pos.line X.env = pure false := by rfl) (hf : X.fn x = true ∨ X.env.scope.names.lookup x = some .local := by first | exact .inl rfl | exact .inr rfl | assumption) :
    PS X (.Assign [.Name x pos'] (.Dict [some ek] [ev] pl) pos) (rdS C (sOwnD i mk mv)) :=
  PS.mono (ps_set hN hi hx (pe_disp (pps_cons hk hv pps_nil) rfl rfl (by simp) (by simp)) hs hf) fun D σ H ⟨M, ρ, f, r, f', I, q, k⟩ => by
    unfold sOwnD at q
    cases e1 : mk ρ f with
    | none => rw [e1] at q; cases q
    | some z =>
      obtain ⟨w, f1⟩ := z
      rw [e1] at q
      simp only [Option.bind_some] at q
      cases e2 : mv ρ f1 with
      | none => rw [e2] at q; cases q
      | some z2 =>
        obtain ⟨w2, f2⟩ := z2
        rw [e2] at q
        simp only [Option.bind_some] at q
        split at q
        · rename_i dx dy
          cases e3 : keyD dx with
          | none => rw [e3] at q; cases q
          | some k0 =>
            rw [e3] at q
            cases q
            refine fun p hp => ?_
            have I0 := I.hide (o := .dK []) hp
            have np : ∀ (j : Nat) (s : Ow), ρ[j]? = some (.own s) → σ[j]? ≠ some (some (V.ref p)) := fun j s e z => by
              obtain ⟨a, vs, h1, _, _, _, _, h6, _⟩ := I.own j s e
              rw [z] at h1
              cases h1
              rw [hp] at h6
              cases h6
            have nf := feed_ne I.feed hp
            have mp : hidM M p p = true := by unfold hidM; rw [if_pos rfl]
            refine ⟨hidM M p, ρ, f, _, f1, I0, e1, fun v H1 g1 d1 r1 => ⟨hidM M p, ρ, f1, _, _, I0.grow g1 d1, e2, fun u H2 g2 d2 r2 => ?_⟩⟩
            have at2 : H2 p = some (.dK []) := g2.1 _ _ nf (g1.1 _ _ nf upd_same)
            have ey := keyD_rp e3 r1
            subst ey
            refine ⟨at2, [(k0, u)], rfl, by simp, ?_⟩
            have nc2 := ((NC.new I.feed hp).upd nf (o := .dK [])).ck I0.feed (g1.trans g2).2
            have gD : GrowD C.fa p (upd H p (.dK [])) (upd H2 p (.dK [(k0, u)])) := (GrowD.of (g1.trans g2)).trans (GrowD.upd nf)
            have I3 := I0.growD np mp (I.h0 hp) ⟨_, upd_same⟩ gD (d2.updD nc2 nf)
            have em : mask (hidM M p) (upd H2 p (.dK [(k0, u)])) = mask (hidM M p) H2 := mask_upd mp
            refine k _ _ _ (I3.adopt (o := .dK [(k0, u)]) (ow := .tab [(k0, dy)]) mp np (I.m0 hp) (I.h0 hp) nf (nc2.upd nf) upd_same ?_) ?_
            · rw [em]
              exact .cons ⟨rfl, r2⟩ .nil
            · show Sub (mask M H) (mask (hidM M p) (upd H2 p (.dK [(k0, u)])))
              rw [em, ← mask_hid (o := .dK []) hp]
              exact (g1.trans g2).mask I0.hid
        · cases q
/-- return found, the table -/
def sRetO (i : Nat) : MS := fun ρ f => match ρ[i]? with
  | some (.own (.tab kvs)) => some (.rtT kvs, f)
  | _ => none
theorem ys_retO (hv : PE X (.Name x px) (tVar i)) : PS X (.Return (some (.Name x px)) pos) (rdS C (sRetO i)) := PS.mono (ps_ret hv) fun D σ H ⟨M, ρ, f, r, f', I, q, k⟩ => by
  unfold sRetO at q
  split at q
  · rename_i kvs e1
    cases q
    obtain ⟨a, o, h1, h2, h3, h4, h5, h6, h7, h8⟩ := I.own i _ e1
    cases o with
    | dK ks => exact ⟨.ref a, h1, k a ks H h4 I.out.1 I.feed h6 (Tab.mono I.out.2 h7)⟩
    | _ => exact False.elim h7
  · cases q

/-! ### a def that gives a new table -/
def spR (fn : FN) : Sp := fun vs H Q _ => ∃ fa M f ws kvs f', M fa = true ∧ FeedAt fa H f ∧ Cel fa M H ∧ (∀ a, M a = true → ∃ o, H a = some o) ∧ Rws fa (mask M H) vs ws ∧ fn ws f = some (.t kvs, f') ∧
  ∀ p ks H', H p = none → Grow fa H H' → FeedAt fa H' f' → H' p = some (.dK ks) → Tab (mask M H') ks kvs → Q (.ref p) H'
def fnR (n a : Nat) (m : MS) : FN := fun ws f => if ws.length = a then match m (ρ0 n ws) f with
  | some (.rtT kvs, f') => some (.t kvs, f')
  | _ => none else none
theorem fn_R {P : Program} {w : World} {K : PySem.W.Frag} {mg : Str → Option Value} {base : Heap} {k : Nat} {f : Addr} {fd : FuncData} {name qual : Str} {st : Stmt} {N ps : List Str} {m : MS} (F : DefAt K name qual st f fd) (S : FnScope N ps (defScope st))
    (hbody : ∀ (C : Cq) (cdv : Value) (A : Around) (outer : List Env) (s : Shared) (H : Hp) (E : XK), A.guards = some [] → Room k (A.deeper (envOfC qual (defScope st) s.heap.objs.size f cdv)) →
      PSs (cxOf CX0 P w K mg base N qual (defScope st) f cdv A outer s H E).nox (defBody st) (rdS C m)) :
    FnG P w K mg base (k + 1) f fd ps (spR (fnR N.length ps.length m)) := by
  refine fn_ofG F S (fun vs H Q E ⟨fa, M, f, ws, w, f', hf, hd, hce, ht, r, e, _⟩ => ?_) fun cdv A outer s H vs Q E hgd hr ⟨fa, M, f, ws, w, f', hf, hd, hce, ht, r, e, q⟩ => ?_
  · unfold fnR at e
    split at e
    · rename_i hl
      rw [rws_len r, hl]
    · cases e
  · refine ⟨_, hbody ⟨fa, H, M⟩ cdv A outer s H E hgd hr, ?_⟩
    unfold fnR at e
    split at e
    · have I := env_start (N := N) hf hd hce ht r
      split at e
      · rename_i w' f'' em
        cases e
        exact ⟨M, _, f, _, _, I, em, fun p ks H' h0 g d at_ tb => q p ks H' h0 g d at_ tb⟩
      · cases e
    · cases e
variable {k : Nat} {fd : FuncData} {fa' : Addr} {ps : List Str} {fn : FN}
theorem tcallR_read {σ : L2.St} {H : Hp} {Q : VK} (h : ∃ M ρ f ws f1 kvs f', EnvOk C M σ H ρ f ∧ ms ρ f = some (ws, f1) ∧ fn ws f1 = some (.t kvs, f') ∧ ∀ p ks H1 H', EnvOk C M σ H1 ρ f1 → Grow C.fa H H1 → H1 p = none → Grow C.fa H1 H' → FeedAt C.fa H' f' → H' p = some (.dK ks) → Tab (mask M H') ks kvs → Q (.ref p) H') : tCall (spR fn) [] E0 (rdA C ms) σ H Q := by
  obtain ⟨M, ρ, f, ws, f1, kvs, f', I, e1, e2, k⟩ := h
  refine ⟨M, ρ, f, ws, f1, I, e1, fun vs H1 g1 d1 r1 => ?_⟩
  have I1 := I.grow g1 d1
  show spR fn (vs ++ []) H1 Q E0
  rw [List.append_nil]
  exact ⟨C.fa, M, f1, ws, kvs, f', I.hid, d1, I1.cel, I1.trk, r1, e2, fun p ks H' hp g d at_ tb => k p ks H1 H' I1 g1 hp g d at_ tb⟩
/-- return f(..), f a def that gives a new table -/
def sRetR (fn : FN) (a : MA) : MS := fun ρ f => (a ρ f).bind fun p => (fn p.1 p.2).bind fun q => match q.1 with
  | .t kvs => some (.rtT kvs, q.2)
  | _ => none
theorem ys_retR {y : Str} (F : FnG X.prog X.w X.K X.mg X.base k fa' fd ps (spR fn)) (hgd : X.A.guards = some []) (hr : Room k X.A) (hg : Gl X y) (hm : X.mg y = some (.ref fa')) (hk : PySem.W.keepIn X.K (.ref fa') = true) (hb : Binds X.K fd ps [])
    (ha : PA X (e :: es) (rdA C ms)) (hdb : (y == ("__debug__" : Str)) = false := by decide) (he : starEach (e :: es) X.env = (false, eval e X.env) :: starEach es X.env := by rfl) (hpl : (backTo pos (starEach es X.env)).any (·.1) = false := by rfl) :
    PS X (.Return (some (.Call (.Name y p) (e :: es) [] pos)) tpos) (rdS C (sRetR fn ms)) := PS.mono (ps_ret (pe_callG F hgd hr hg hm hk hb .nil ha hdb he hpl)) fun D σ H ⟨M, ρ, f, r, f', I, q, kk⟩ => by
  unfold sRetR at q
  cases e1 : ms ρ f with
  | none => rw [e1] at q; cases q
  | some z =>
    obtain ⟨ws, f1⟩ := z
    rw [e1] at q
    simp only [Option.bind_some] at q
    cases e2 : fn ws f1 with
    | none => rw [e2] at q; cases q
    | some z2 =>
      obtain ⟨w2, f2⟩ := z2
      rw [e2] at q
      simp only [Option.bind_some] at q
      split at q
      · rename_i kvs
        cases q
        refine tcallR_read ⟨M, ρ, f, ws, f1, kvs, _, I, e1, e2, fun p ks H1 H' I1 g1 hp g d at_ tb => ?_⟩
        have I2 := I1.grow g d
        exact kk p ks H' (I1.h0 hp) I2.out.1 d at_ (Tab.mono I2.out.2 tb)
      · cases q
/-- a walk over the keys of such a table -/
def keyW : Key → W
  | .inl i => wI i
  | .inr x => .d (.str x)
def mKeys (fn : FN) (a : MA) : MI := fun ρ f => (a ρ f).bind fun p => (fn p.1 p.2).bind fun q => match q.1 with
  | .t kvs => some (kvs.map fun kv => keyW kv.1, q.2)
  | _ => none
theorem keyW_rp {fa : Addr} {U : Hp} (k : Key) : Rw fa U (kV k) (keyW k) := by
  cases k with
  | inl i => exact Rp.int i
  | inr x => exact Rp.str x
theorem wk_keys {fa : Addr} {U : Hp} {d : Addr} {o : Obj} {ks : List (Key × V)} {kvs : List (Key × PyData)} (h : U d = some (.frz o (.dK ks))) (ek : ks.map (·.1) = kvs.map (·.1)) : Wk fa U (Itk d o ks) (kvs.map fun kv => keyW kv.1) where
  go := fun i H s hi => ⟨s _ _ h, by
    have := congrArg List.length ek
    simp at this hi
    omega⟩
  yld := fun i H v H' w s ⟨e, k, u, hk, ev⟩ hw => by
    subst e ev
    refine ⟨Sub.refl _, fun Mk sb _ => ?_⟩
    have h1 : (ks.map (·.1))[i]? = some k := by rw [List.getElem?_map, hk]; rfl
    rw [ek, List.getElem?_map] at h1
    rw [List.getElem?_map] at hw
    cases e : kvs[i]? with
    | none => rw [e] at h1; cases h1
    | some q =>
      rw [e] at h1 hw
      cases h1
      cases hw
      exact keyW_rp _
  stop := fun H s => ⟨s _ _ h, by
    have := congrArg List.length ek
    simp at this
    simp [this]⟩
theorem pe_lk {td : TE} (he : PE X e td) : PE X e (fun σ H Q => td σ H fun x H1 => ∃ d kvs, x = .ref d ∧ H1 d = some (.dK kvs) ∧ ∀ o, Q x (upd H1 d (.frz o (.dK kvs)))) := ⟨fun pins s σ H Q I h => by
  refine thn (he.run pins s σ H _ I h) fun u s1 ⟨x, H1, I1, r1, d, kvs, ex, hd, q⟩ => ?_
  obtain ⟨od, I2⟩ := I1.lock hd (show Mut (some (.dK kvs)) from True.intro)
  exact ⟨x, _, I2, r1, q od⟩⟩
theorem yi_keys {tg : Expr} {y : Str} (F : FnG X.prog X.w X.K X.mg X.base k fa' fd ps (spR fn)) (hgd : X.A.guards = some []) (hr : Room k X.A) (hg : Gl X y) (hm : X.mg y = some (.ref fa')) (hk : PySem.W.keepIn X.K (.ref fa') = true) (hb : Binds X.K fd ps [])
    (ha : PA X (e :: es) (rdA C ms)) (hdb : (y == ("__debug__" : Str)) = false := by decide) (he : starEach (e :: es) X.env = (false, eval e X.env) :: starEach es X.env := by rfl) (hpl : (backTo pos (starEach es X.env)).any (·.1) = false := by rfl) :
    PI X tg (.Call (.Name y p) (e :: es) [] pos) (rdI C (mKeys fn ms)) := PI.mono (pi_keys (pe_lk (pe_callG F hgd hr hg hm hk hb .nil ha hdb he hpl))) fun σ H R ⟨M, ρ, f, ws, f', I, q, kk⟩ => by
  unfold mKeys at q
  cases e1 : ms ρ f with
  | none => rw [e1] at q; cases q
  | some z =>
    obtain ⟨ws1, f1⟩ := z
    rw [e1] at q
    simp only [Option.bind_some] at q
    cases e2 : fn ws1 f1 with
    | none => rw [e2] at q; cases q
    | some z2 =>
      obtain ⟨w2, f2⟩ := z2
      rw [e2] at q
      simp only [Option.bind_some] at q
      split at q
      · rename_i kvs
        cases q
        refine tcallR_read ⟨M, ρ, f, ws1, f1, kvs, _, I, e1, e2, fun d ks H1 H' I1 g1 hp g dd at_ tb => ?_⟩
        refine ⟨d, ks, rfl, at_, fun o => ⟨d, o, rfl, .inl ⟨ks, upd_same, ?_⟩⟩⟩
        have nf := feed_ne I1.feed hp
        have nc : NC C.fa d H' := (NC.new I1.feed hp).ck I1.feed g.2
        have g2 : Grow C.fa H (upd H' d (.frz o (.dK ks))) := by
          have g12 := g1.trans g
          refine ⟨fun b u n eb => ?_, fun ca r eb => ?_⟩
          · have hb : b ≠ d := fun z => by
              have := g1.1 b u n eb
              rw [z, hp] at this
              cases this
            rw [upd_ne hb]
            exact g12.1 b u n eb
          · rw [upd_ne (Ne.symm nf)]
            exact g12.2 ca r eb
        refine kk _ _ g2 (dd.updD nc nf) (wk_keys (mask_at (I1.fresh hp) upd_same) (tab_keys tb))
      · cases q

/-! ### a motor's display -/
def gMotor : List W → List W → Option W
  | [w0, w2, w3], ws => (datas ws).bind fun ls => (datas [w0, .d (.tuple ls), w2, w3]).bind fun ds => if hotM ds = true ∧ ls.length ≤ 4 ∧ hotM ls = false then some (.d (.tuple ds)) else none
  | _, _ => none
def mMotor (m0 : ME) (m1 : MA) (m2 m3 : ME) : ME := fun ρ f => (m0 ρ f).bind fun p0 => (m1 ρ p0.2).bind fun p1 => (m2 ρ p1.2).bind fun p2 => (m3 ρ p2.2).bind fun p3 => (gMotor [p0.1, p2.1, p3.1] p1.1).map fun w => (w, p3.2)
theorem ye_motor {e0 e2 e3 : Expr} {es1 : List Expr} {x1 x2 : _} {p1 : Pos} {m0 m2 m3 : ME} {m1 : MA} (h0 : PE X e0 (rdE C m0)) (h1 : PA X es1 (rdA C m1)) (h2 : PE X e2 (rdE C m2)) (h3 : PE X e3 (rdE C m3))
    (hs0 : starEach [e0, .Tuple es1 x1 p1, e2, e3] X.env = (false, eval e0 X.env) :: starEach [.Tuple es1 x1 p1, e2, e3] X.env := by rfl) (hs1 : starEach [.Tuple es1 x1 p1, e2, e3] X.env = (false, eval (.Tuple es1 x1 p1) X.env) :: starEach [e2, e3] X.env := by rfl)
    (hs2 : starEach [e2, e3] X.env = (false, eval e2 X.env) :: starEach [e3] X.env := by rfl) (hs3 : starEach [e3] X.env = (false, eval e3 X.env) :: starEach [] X.env := by rfl) : PE X (.Tuple [e0, .Tuple es1 x1 p1, e2, e3] x2 pos) (rdE C (mMotor m0 m1 m2 m3)) :=
  PE.mono (pe_tup (pa_cons h0 (pa_cons (pe_tupF h1) (pa_cons h2 (pa_cons h3 pa_nil hs3) hs2) hs1) hs0)) fun σ H Q ⟨M, ρ, f, w, f', I, q, k⟩ => by
    unfold mMotor at q
    cases e0 : m0 ρ f with
    | none => rw [e0] at q; cases q
    | some z0 =>
      obtain ⟨w0, f0⟩ := z0
      rw [e0] at q
      simp only [Option.bind_some] at q
      cases e1 : m1 ρ f0 with
      | none => rw [e1] at q; cases q
      | some z1 =>
        obtain ⟨ws1, f1⟩ := z1
        rw [e1] at q
        simp only [Option.bind_some] at q
        cases e2 : m2 ρ f1 with
        | none => rw [e2] at q; cases q
        | some z2 =>
          obtain ⟨w2, f2⟩ := z2
          rw [e2] at q
          simp only [Option.bind_some] at q
          cases e3 : m3 ρ f2 with
          | none => rw [e3] at q; cases q
          | some z3 =>
            obtain ⟨w3, f3⟩ := z3
            rw [e3] at q
            simp only [Option.bind_some] at q
            unfold gMotor at q
            simp only at q
            cases e4 : datas ws1 with
            | none => rw [e4] at q; cases q
            | some ls =>
              rw [e4] at q
              simp only [Option.bind_some] at q
              cases e5 : datas [w0, .d (.tuple ls), w2, w3] with
              | none => rw [e5] at q; cases q
              | some ds =>
                rw [e5] at q
                simp only [Option.bind_some] at q
                split at q
                · rename_i hh
                  cases q
                  refine ⟨M, ρ, f, w0, f0, I, e0, fun v0 H0 g0 d0 r0 => ⟨M, ρ, f0, ws1, f1, I.grow g0 d0, e1, fun vs1 H1 g1 d1 r1 => ⟨?_, fun pt o hp ho => ?_⟩⟩⟩
                  · have := (datas_rp r1 e4).length
                    rw [this, sizeLine_eq]
                    omega
                  · have I1 := (I.grow g0 d0).grow g1 d1
                    have rr1 := datas_rp r1 e4
                    have sb : Sub H1 (upd H1 pt (.frz o (.tup vs1))) := upd_sub hp
                    have gT : Grow C.fa H1 (upd H1 pt (.frz o (.tup vs1))) := Grow.of_sub sb
                    have IT := I1.grow gT (d1.sub sb)
                    have atT : mask M (upd H1 pt (.frz o (.tup vs1))) pt = some (.frz o (.tup vs1)) := mask_at (I1.fresh hp) upd_same
                    refine ⟨M, ρ, f1, w2, f2, IT, e2, fun v2 H2 g2 d2 r2 => ⟨M, ρ, f2, w3, _, IT.grow g2 d2, e3, fun v3 H3 g3 d3 r3 => ⟨(show 4 ≤ sizeLine by rw [sizeLine_eq]; decide), fun p hp3 => ?_⟩⟩⟩
                    have I3 := (IT.grow g2 d2).grow g3 d3
                    have gAll := ((g0.trans g1).trans gT).trans (g2.trans g3)
                    refine k _ _ (gAll.trans (Grow.of_sub (upd_sub hp3))) (d3.sub (upd_sub hp3)) ?_
                    have m3 : Sub (mask M H3) (mask M (upd H3 p (.tup [v0, .ref pt, v2, v3]))) := (Grow.of_sub (upd_sub hp3)).mask I.hid
                    have mT := ((g2.trans g3).mask I.hid).trans m3
                    have rT : Rw C.fa (mask M (upd H3 p (.tup [v0, .ref pt, v2, v3]))) (.ref pt) (.d (.tuple ls)) := by
                      refine Rp.tup (.inr ⟨o, mT _ _ atT⟩) (hot_no hh.2.2) (RpAll.mono ((gT.mask I.hid).trans mT) _ _ rr1)
                    have rws : Rws C.fa (mask M (upd H3 p (.tup [v0, .ref pt, v2, v3]))) [v0, .ref pt, v2, v3] [w0, .d (.tuple ls), w2, w3] :=
                      .cons ((r0.mono ((g1.trans gT).mask I.hid)).mono mT) (.cons rT (.cons ((r2.mono (g3.mask I.hid)).mono m3) (.cons (r3.mono m3) .nil)))
                    exact Rp.tup (.inl (mask_at (I3.fresh hp3) upd_same)) (fun _ => ⟨pt, o, vs1, rfl, mT _ _ atT, ho⟩) (datas_rp rws e5)
                · cases q

/-! ### {.. for .. in ()} -/
def mDc0 (a : ME) : ME := fun ρ f => (a ρ f).bind fun p => match p.1 with
  | .d (.tuple []) => some (.t [], p.2)
  | _ => none
end
end Y
end KOpsB
section KOpsC
set_option Elab.async false
set_option linter.all false
set_option maxRecDepth 100000
set_option maxHeartbeats 4000000
namespace Y
open PySem PySem.Spec PySem.SeqAt PyProof.Rows L2
theorem mlen_nil : ∀ (ρ : En) (f : Fd) (ws : List W) (f' : Fd), mNil ρ f = some (ws, f') → ws.length = 0 := fun ρ f ws f' h => by cases h; rfl
theorem mlen_cons {a : ME} {b : MA} {n : Nat} (hb : ∀ (ρ : En) (f : Fd) (ws : List W) (f' : Fd), b ρ f = some (ws, f') → ws.length = n) : ∀ (ρ : En) (f : Fd) (ws : List W) (f' : Fd), mCons a b ρ f = some (ws, f') → ws.length = n + 1 := fun ρ f ws f' h => by
  unfold mCons at h
  cases e1 : a ρ f with
  | none => rw [e1] at h; cases h
  | some p =>
    obtain ⟨w, f1⟩ := p
    rw [e1] at h
    simp only [Option.bind_some] at h
    cases e2 : b ρ f1 with
    | none => rw [e2] at h; cases h
    | some q =>
      obtain ⟨us, f2⟩ := q
      rw [e2] at h
      cases h
      show us.length + 1 = n + 1
      rw [hb _ _ _ _ e2]
section
variable {X : Cx} {C : Cq} {e : Expr} {ma : ME} {pos : Pos}
/-- x, y = e, [] with y to be grown, one of the names captured -/
theorem ys_tupO {i j : Nat} {x y : Str} {px py pt pl : Pos} {kt k2 pt2} (hc : X.calm = true) (he : PE X e (rdE C ma)) (hx : PG X (.Name x px) (gName i)) (hy : PG X (.Name y py) (gName j))
    (hs1 : starEach [e, .List [] pl] X.env = (false, eval e X.env) :: starEach [.List [] pl] X.env := by rfl) (hs2 : starEach [.List [] pl] X.env = (false, eval (.List [] pl) X.env) :: starEach [] X.env := by rfl)
    (hs : swapsWithSole [.Tuple [.Name x px, .Name y py] kt pt] (.Tuple [e, .List [] pl] k2 pt2) pos.line X.env = pure false := by rfl)
    (hw : swappedStores [.Tuple [.Name x px, .Name y py] kt pt] (.Tuple [e, .List [] pl] k2 pt2) X.env = pure none := by rfl) :
    PS X (.Assign [.Tuple [.Name x px, .Name y py] kt pt] (.Tuple [e, .List [] pl] k2 pt2) pos) (rdS C (sParO i j ma)) :=
  PS.mono (ps_asg (pe_tup (pa_cons he (pa_cons (pe_lst pa_nil) pa_nil hs2) hs1)) (pg_tup hc (pgs_cons hx (pgs_cons hy pgs_nil (by rfl)) (by rfl)) (by rfl) (by rfl)) hs hw (by rfl)) fun D σ H ⟨M, ρ, f, r, f', I, q, k⟩ => by
    unfold sParO at q
    cases e1 : ma ρ f with
    | none => rw [e1] at q; cases q
    | some z =>
      obtain ⟨w1, f1⟩ := z
      rw [e1] at q
      cases q
      refine ⟨M, ρ, f, w1, _, I, e1, fun v H1 g1 d1 r1 => ⟨Nat.zero_le _, fun p hp => ⟨(show 2 ≤ sizeLine by rw [sizeLine_eq]; decide), fun t ht => ?_⟩⟩⟩
      refine ⟨t, [v, .ref p], rfl, SqT.of upd_same, rfl, v, [.ref p], rfl, .ref p, [], rfl, rfl, ?_⟩
      have I1 := ((I.grow g1 d1).setv (i := i) r1).newOwn (i := j) (ow := .lst []) (o := .lst []) hp .nil
      have g2 : Grow C.fa (upd H1 p (.lst [])) (upd (upd H1 p (.lst [])) t (.tup [v, .ref p])) := Grow.of_sub (upd_sub ht)
      refine k _ _ _ (I1.grow g2 (I1.feed.sub (upd_sub ht))) ?_
      refine Sub.trans (g1.mask I.hid) (Sub.trans ?_ (g2.mask I1.hid))
      rw [mask_hid hp]
      exact Sub.refl _
end
section
variable {X : Cx} {C : Cq} {kx vx tg iter : Expr} {scope : Scope} {own : List (Str × Nat)} {pos : Pos} {ma : ME}
theorem ye_dc0 (hc : X.calm = true) (hN : X.N.Nodup) (hi : PE X iter (rdE C ma)) (ok : BlkOk X.N X.env.scope scope own) (hs : ∀ x, foldedSetIterable iter X.env x = pure x := by intro _; rfl) :
    PE X (.DictComp kx vx [⟨tg, iter, [], 0⟩] scope pos) (rdE C (mDc0 ma)) := by
  refine PE.mono (pe_dc (wi := rdI C (mIt ma)) (g := fun _ _ _ _ => False) (tt := tYes) (tk := fun _ _ _ => False) (tv := fun _ _ _ => False) hc hN (yi_seq hi) ok (fun _ _ _ _ _ => ⟨fun _ _ _ _ _ _ _ _ _ h => h.elim⟩) (fun _ _ _ _ _ => pts_nil) (fun _ _ _ _ _ => ⟨fun _ _ _ _ _ _ h => h.elim⟩) (fun _ _ _ _ _ => ⟨fun _ _ _ _ _ _ h => h.elim⟩) hs) fun σ H Q ⟨M, ρ, f, w, f', I, q, k⟩ => ?_
  unfold mDc0 at q
  cases e1 : ma ρ f with
  | none => rw [e1] at q; cases q
  | some z =>
    obtain ⟨w1, f1⟩ := z
    rw [e1] at q
    simp only [Option.bind_some] at q
    split at q
    · cases q
      refine ⟨M, ρ, f, [], f', I, by unfold mIt; rw [e1]; rfl, fun J H1 g1 d1 wk D hD => ?_⟩
      have I1 := I.grow g1 d1
      refine ⟨fun i m H => i = 0 ∧ H = upd H1 D (.dK []), ⟨0, rfl, rfl⟩, ?_⟩
      rintro i m H ⟨rfl, rfl⟩
      refine .inl ⟨wk.stop _ ((mask_sub M H1).trans (upd_sub hD)), k _ _ (g1.trans (Grow.of_sub (upd_sub hD))) (d1.sub (upd_sub hD)) ⟨D, [], rfl, mask_at (I1.fresh hD) upd_same, .nil⟩⟩
    · cases q
end
end Y
end KOpsC
section KG1
set_option Elab.async false
set_option linter.all false
set_option maxRecDepth 100000
set_option maxHeartbeats 4000000
/-! The walk, printed by gen.py. -/
namespace Y
open PySem PySem.Spec PyProof.Rows L2
section
variable {prog : Program} {w : World} {K : PySem.W.Frag} {mg : Str → Option Value} {base : Heap} (T : Tx K mg)
/-! is_integer -/
def N_is_integer : List Str := ["thing"]
def ps_is_integer : List Str := ["thing"]
theorem sc_is_integer : FnScope N_is_integer ps_is_integer (defScope (topS 4)) := ⟨by rfl, by rfl, by rfl, by decide, by rfl, by decide +kernel, by decide +kernel⟩
def m_is_integer : MS := (sRet (mAnd (m1 (gIs "int") (mVar 0)) ((mNot (m1 (gIs "bool") (mVar 0))))))
def fn_is_integer : FN := fnB 1 1 m_is_integer
theorem d_is_integer : FnG prog w K mg base 1 T.is_integer.a T.is_integer.f ps_is_integer (spI fn_is_integer) := fn_I T.is_integer.t sc_is_integer fun C cdv A outer s H E hgd hr => by
  have nd := sc_is_integer.nd
  have hu := hu_room hr
  exact (ys_one (ys_ret (ye_and (yb_isi (ye_var (pv 0)) (yt_int rfl T.b.b_int) rfl T.b.b_isinstance) (ye_one (ye_not (yb_isi (ye_var (pv 0)) (yt_bool rfl T.b.b_bool) rfl T.b.b_isinstance))))))
/-! is_number -/
def N_is_number : List Str := ["thing"]
def ps_is_number : List Str := ["thing"]
theorem sc_is_number : FnScope N_is_number ps_is_number (defScope (topS 5)) := ⟨by rfl, by rfl, by rfl, by decide, by rfl, by decide +kernel, by decide +kernel⟩
def m_is_number : MS := (sRet (mAnd (mCall fn_is_integer (mCons (mVar 0) mNil)) ((m2 gGeI (mVar 0) (mDat (.int 0))))))
def fn_is_number : FN := fnB 1 1 m_is_number
theorem d_is_number : FnG prog w K mg base 2 T.is_number.a T.is_number.f ps_is_number (spI fn_is_number) := fn_I T.is_number.t sc_is_number fun C cdv A outer s H E hgd hr => by
  have nd := sc_is_number.nd
  have hu := hu_room hr
  exact (ys_one (ys_ret (ye_and (ye_call ((d_is_integer T).mono (by decide)) hgd hr rfl T.is_integer.m T.is_integer.k T.is_integer.n (ya_cons (ye_var (pv 0)) ya_nil)) (ye_one (yc_ge (ye_var (pv 0)) (ye_int))))))
/-! is_index -/
def N_is_index : List Str := ["thing", "many"]
def ps_is_index : List Str := ["thing", "many"]
theorem sc_is_index : FnScope N_is_index ps_is_index (defScope (topS 6)) := ⟨by rfl, by rfl, by rfl, by decide, by rfl, by decide +kernel, by decide +kernel⟩
def m_is_index : MS := (sRet (mAnd (mCall fn_is_number (mCons (mVar 0) mNil)) ((m2 gLt (mVar 0) (mVar 1)))))
def fn_is_index : FN := fnB 2 2 m_is_index
theorem d_is_index : FnG prog w K mg base 3 T.is_index.a T.is_index.f ps_is_index (spI fn_is_index) := fn_I T.is_index.t sc_is_index fun C cdv A outer s H E hgd hr => by
  have nd := sc_is_index.nd
  have hu := hu_room hr
  exact (ys_one (ys_ret (ye_and (ye_call ((d_is_number T).mono (by decide)) hgd hr rfl T.is_number.m T.is_number.k T.is_number.n (ya_cons (ye_var (pv 0)) ya_nil)) (ye_one (yc_lt hu (ye_var (pv 0)) (ye_var (pv 1)))))))
/-! is_among -/
def N_is_among : List Str := ["thing", "names"]
def ps_is_among : List Str := ["thing", "names"]
theorem sc_is_among : FnScope N_is_among ps_is_among (defScope (topS 7)) := ⟨by rfl, by rfl, by rfl, by decide, by rfl, by decide +kernel, by decide +kernel⟩
def m_is_among : MS := (sRet (mAnd (m1 (gIs "str") (mVar 0)) ((m2 gIn (mVar 0) (mVar 1)))))
def fn_is_among : FN := fnB 2 2 m_is_among
theorem d_is_among : FnG prog w K mg base 1 T.is_among.a T.is_among.f ps_is_among (spI fn_is_among) := fn_I T.is_among.t sc_is_among fun C cdv A outer s H E hgd hr => by
  have nd := sc_is_among.nd
  have hu := hu_room hr
  exact (ys_one (ys_ret (ye_and (yb_isi (ye_var (pv 0)) (yt_str rfl T.b.b_str) rfl T.b.b_isinstance) (ye_one (yc_in hu (ye_var (pv 0)) (ye_var (pv 1)))))))
/-! is_name -/
def N_is_name : List Str := ["thing", "sign"]
def ps_is_name : List Str := ["thing"]
theorem sc_is_name : FnScope N_is_name ps_is_name (defScope (topS 8)) := ⟨by rfl, by rfl, by rfl, by decide, by rfl, by decide +kernel, by decide +kernel⟩
def m_is_name : MS := (sSeq (sIf (tO (tNo (mT (m1 (gIs "str") (mVar 0)))) ((mT (m2 gEq (mVar 0) (mDat (.str "any")))))) (sRet (mDat (.bool false))) sNil) (sRet (mAnd (mChain gLeI gLeI (mDat (.int 1)) (mArgs gLen (mCons (mVar 0) mNil)) (mDat (.int 8))) ((mArgs gAll (mCons (mLc [1] (mIt (mVar 0)) (gSet 1) mYes (bOne (m2 gInS (mVar 1) (mDat (.str "abcdefghijklmnopqrstuvwxyz"))))) mNil))))))
def fn_is_name : FN := fnB 2 1 m_is_name
theorem d_is_name : FnG prog w K mg base 1 T.is_name.a T.is_name.f ps_is_name (spI fn_is_name) := fn_I T.is_name.t sc_is_name fun C cdv A outer s H E hgd hr => by
  have nd := sc_is_name.nd
  have hu := hu_room hr
  exact (ys_cons (ys_if (PW.pt (yw_or (yt_not (yt_of (yb_isi (ye_var (pv 0)) (yt_str rfl T.b.b_str) rfl T.b.b_isinstance))) (yw_or1 (yq_eq hu (ye_var (pv 0)) (ye_dat (pe_glob (v := .str "any") rfl T.b.ANY.choose_spec.1 T.b.ANY.choose_spec.2) (fun _ => .str _)))))) (ys_one (ys_ret (ye_bl))) ys_nil) (ys_one (ys_ret (ye_and (ye_chain op_le op_le o2_le o2_le (ye_int) (yb_len rfl T.b.b_len (ya_cons (ye_var (pv 0)) ya_nil)) (ye_dat (pe_glob (v := .int 8) rfl T.b.MOST_SIGNS.choose_spec.1 T.b.MOST_SIGNS.choose_spec.2) (fun _ => .int 8))) (ye_one (yb_all rfl rfl T.b.b_all (ya_cons (ye_lc (own := [("sign", 1)]) rfl nd (yi_seq (ye_var (pv 0))) (blkOk_by (N := N_is_name) (sc := defScope (topS 8)) (by decide +kernel)) (fun _ _ _ _ _ => (yg_name (pg_name (i := 1) nd rfl (by first | exact .inl rfl | exact .inr rfl)) (by decide))) (fun _ _ _ _ _ => yts_nil) (fun _ _ _ _ _ => (yc_inS (ye_var (pv 1)) (ye_dat (pe_glob (v := .str "abcdefghijklmnopqrstuvwxyz") rfl T.b.ALPHABET.choose_spec.1 T.b.ALPHABET.choose_spec.2) (fun _ => .str _))))) ya_nil)))))))
/-! is_tuple_of -/
def N_is_tuple_of : List Str := ["thing", "many"]
def ps_is_tuple_of : List Str := ["thing", "many"]
theorem sc_is_tuple_of : FnScope N_is_tuple_of ps_is_tuple_of (defScope (topS 9)) := ⟨by rfl, by rfl, by rfl, by decide, by rfl, by decide +kernel, by decide +kernel⟩
def m_is_tuple_of : MS := (sRet (mAnd (m1 (gIs "tuple") (mVar 0)) ((m2 gEq (mArgs gLen (mCons (mVar 0) mNil)) (mVar 1)))))
def fn_is_tuple_of : FN := fnB 2 2 m_is_tuple_of
theorem d_is_tuple_of : FnG prog w K mg base 1 T.is_tuple_of.a T.is_tuple_of.f ps_is_tuple_of (spI fn_is_tuple_of) := fn_I T.is_tuple_of.t sc_is_tuple_of fun C cdv A outer s H E hgd hr => by
  have nd := sc_is_tuple_of.nd
  have hu := hu_room hr
  exact (ys_one (ys_ret (ye_and (yb_isi (ye_var (pv 0)) (yt_tup rfl T.b.b_tuple) rfl T.b.b_isinstance) (ye_one (yc_eq hu (yb_len rfl T.b.b_len (ya_cons (ye_var (pv 0)) ya_nil)) (ye_var (pv 1)))))))
/-! is_pair -/
def N_is_pair : List Str := ["thing"]
def ps_is_pair : List Str := ["thing"]
theorem sc_is_pair : FnScope N_is_pair ps_is_pair (defScope (topS 10)) := ⟨by rfl, by rfl, by rfl, by decide, by rfl, by decide +kernel, by decide +kernel⟩
def m_is_pair : MS := (sRet (mCall fn_is_tuple_of (mCons (mVar 0) (mCons (mDat (.int 2)) mNil))))
def fn_is_pair : FN := fnB 1 1 m_is_pair
theorem d_is_pair : FnG prog w K mg base 2 T.is_pair.a T.is_pair.f ps_is_pair (spI fn_is_pair) := fn_I T.is_pair.t sc_is_pair fun C cdv A outer s H E hgd hr => by
  have nd := sc_is_pair.nd
  have hu := hu_room hr
  exact (ys_one (ys_ret (ye_call ((d_is_tuple_of T).mono (by decide)) hgd hr rfl T.is_tuple_of.m T.is_tuple_of.k T.is_tuple_of.n (ya_cons (ye_var (pv 0)) (ya_cons (ye_int) ya_nil)))))
/-! are_rising -/
def N_are_rising : List Str := ["parts", "one", "other"]
def ps_are_rising : List Str := ["parts"]
theorem sc_are_rising : FnScope N_are_rising ps_are_rising (defScope (topS 11)) := ⟨by rfl, by rfl, by rfl, by decide, by rfl, by decide +kernel, by decide +kernel⟩
def m_are_rising : MS := (sRet (mArgs gAll (mCons (mLc [1, 2] (mZip (mCons (mVar 0) (mCons (mSl (mVar 0) (oAt (mDat (.int 1))) oNo) mNil))) (gTupM 2 (gsCons (gSet 1) (gsCons (gSet 2) gsNil))) mYes (bOne (m2 gLt (mVar 1) (mVar 2)))) mNil)))
def fn_are_rising : FN := fnB 3 1 m_are_rising
theorem d_are_rising : FnG prog w K mg base 1 T.are_rising.a T.are_rising.f ps_are_rising (spI fn_are_rising) := fn_I T.are_rising.t sc_are_rising fun C cdv A outer s H E hgd hr => by
  have nd := sc_are_rising.nd
  have hu := hu_room hr
  exact (ys_one (ys_ret (yb_all rfl rfl T.b.b_all (ya_cons (ye_lc (own := [("one", 1), ("other", 2)]) rfl nd (yi_zip rfl T.b.b_zip (ya_cons (ye_var (pv 0)) (ya_cons (ye_slice (ye_var (pv 0)) (yo_at (ye_int)) yo_no) ya_nil))) (blkOk_by (N := N_are_rising) (sc := defScope (topS 11)) (by decide +kernel)) (fun _ _ _ _ _ => (yg_tup rfl (ygs_cons (yg_name (pg_name (i := 1) nd rfl (by first | exact .inl rfl | exact .inr rfl)) (by decide)) (ygs_cons (yg_name (pg_name (i := 2) nd rfl (by first | exact .inl rfl | exact .inr rfl)) (by decide)) ygs_nil)))) (fun _ _ _ _ _ => yts_nil) (fun _ _ _ _ _ => (yc_lt hu (ye_var (pv 1)) (ye_var (pv 2))))) ya_nil))))
/-! is_names -/
def N_is_names : List Str := ["thing", "name"]
def ps_is_names : List Str := ["thing"]
theorem sc_is_names : FnScope N_is_names ps_is_names (defScope (topS 12)) := ⟨by rfl, by rfl, by rfl, by decide, by rfl, by decide +kernel, by decide +kernel⟩
def m_is_names : MS := (sRet (mAnd (m1 (gIs "tuple") (mVar 0)) (mAnd (mArgs gAll (mCons (mLc [1] (mIt (mVar 0)) (gSet 1) mYes (bOne (mCall fn_is_name (mCons (mVar 1) mNil)))) mNil)) ((mCall fn_are_rising (mCons (mVar 0) mNil))))))
def fn_is_names : FN := fnB 2 1 m_is_names
theorem d_is_names : FnG prog w K mg base 2 T.is_names.a T.is_names.f ps_is_names (spI fn_is_names) := fn_I T.is_names.t sc_is_names fun C cdv A outer s H E hgd hr => by
  have nd := sc_is_names.nd
  have hu := hu_room hr
  exact (ys_one (ys_ret (ye_and (yb_isi (ye_var (pv 0)) (yt_tup rfl T.b.b_tuple) rfl T.b.b_isinstance) (ye_and (yb_all rfl rfl T.b.b_all (ya_cons (ye_lc (own := [("name", 1)]) rfl nd (yi_seq (ye_var (pv 0))) (blkOk_by (N := N_is_names) (sc := defScope (topS 12)) (by decide +kernel)) (fun _ _ _ _ _ => (yg_name (pg_name (i := 1) nd rfl (by first | exact .inl rfl | exact .inr rfl)) (by decide))) (fun _ _ _ _ _ => yts_nil) (fun _ _ _ _ _ => (ye_call ((d_is_name T).mono (by decide)) hgd hr rfl T.is_name.m T.is_name.k T.is_name.n (ya_cons (ye_var (pv 1)) ya_nil)))) ya_nil)) (ye_one (ye_call ((d_are_rising T).mono (by decide)) hgd hr rfl T.are_rising.m T.are_rising.k T.are_rising.n (ya_cons (ye_var (pv 0)) ya_nil)))))))
/-! is_names_among -/
def N_is_names_among : List Str := ["thing", "names", "name"]
def ps_is_names_among : List Str := ["thing", "names"]
theorem sc_is_names_among : FnScope N_is_names_among ps_is_names_among (defScope (topS 13)) := ⟨by rfl, by rfl, by rfl, by decide, by rfl, by decide +kernel, by decide +kernel⟩
def m_is_names_among : MS := (sRet (mAnd (mCall fn_is_names (mCons (mVar 0) mNil)) ((mArgs gAll (mCons (mLc [2] (mIt (mVar 0)) (gSet 2) mYes (bOne (m2 gIn (mVar 2) (mVar 1)))) mNil)))))
def fn_is_names_among : FN := fnB 3 2 m_is_names_among
theorem d_is_names_among : FnG prog w K mg base 3 T.is_names_among.a T.is_names_among.f ps_is_names_among (spI fn_is_names_among) := fn_I T.is_names_among.t sc_is_names_among fun C cdv A outer s H E hgd hr => by
  have nd := sc_is_names_among.nd
  have hu := hu_room hr
  exact (ys_one (ys_ret (ye_and (ye_call ((d_is_names T).mono (by decide)) hgd hr rfl T.is_names.m T.is_names.k T.is_names.n (ya_cons (ye_var (pv 0)) ya_nil)) (ye_one (yb_all rfl rfl T.b.b_all (ya_cons (ye_lc (own := [("name", 2)]) rfl nd (yi_seq (ye_var (pv 0))) (blkOk_by (N := N_is_names_among) (sc := defScope (topS 13)) (by decide +kernel)) (fun _ _ _ _ _ => (yg_name (pg_name (i := 2) nd rfl (by first | exact .inl rfl | exact .inr rfl)) (by decide))) (fun _ _ _ _ _ => yts_nil) (fun _ _ _ _ _ => (yc_in hu (ye_var (pv 2)) (ye_var (pv 1))))) ya_nil))))))
/-! are_sets_among -/
def N_are_sets_among : List Str := ["thing", "names", "one"]
def ps_are_sets_among : List Str := ["thing", "names"]
theorem sc_are_sets_among : FnScope N_are_sets_among ps_are_sets_among (defScope (topS 14)) := ⟨by rfl, by rfl, by rfl, by decide, by rfl, by decide +kernel, by decide +kernel⟩
def m_are_sets_among : MS := (sSeq (sIf (tO (tNo (mT (m1 (gIs "tuple") (mVar 0)))) ((mT (m2 gEq (mArgs gLen (mCons (mVar 0) mNil)) (mDat (.int 0)))))) (sRet (mDat (.bool false))) sNil) (sRet (mAnd (mArgs gAll (mCons (mLc [2] (mIt (mVar 0)) (gSet 2) mYes (bOne (mCall fn_is_names_among (mCons (mVar 2) (mCons (mVar 1) mNil))))) mNil)) ((mCall fn_are_rising (mCons (mVar 0) mNil))))))
def fn_are_sets_among : FN := fnB 3 2 m_are_sets_among
theorem d_are_sets_among : FnG prog w K mg base 4 T.are_sets_among.a T.are_sets_among.f ps_are_sets_among (spI fn_are_sets_among) := fn_I T.are_sets_among.t sc_are_sets_among fun C cdv A outer s H E hgd hr => by
  have nd := sc_are_sets_among.nd
  have hu := hu_room hr
  exact (ys_cons (ys_if (PW.pt (yw_or (yt_not (yt_of (yb_isi (ye_var (pv 0)) (yt_tup rfl T.b.b_tuple) rfl T.b.b_isinstance))) (yw_or1 (yq_eq hu (yb_len rfl T.b.b_len (ya_cons (ye_var (pv 0)) ya_nil)) (ye_int))))) (ys_one (ys_ret (ye_bl))) ys_nil) (ys_one (ys_ret (ye_and (yb_all rfl rfl T.b.b_all (ya_cons (ye_lc (own := [("one", 2)]) rfl nd (yi_seq (ye_var (pv 0))) (blkOk_by (N := N_are_sets_among) (sc := defScope (topS 14)) (by decide +kernel)) (fun _ _ _ _ _ => (yg_name (pg_name (i := 2) nd rfl (by first | exact .inl rfl | exact .inr rfl)) (by decide))) (fun _ _ _ _ _ => yts_nil) (fun _ _ _ _ _ => (ye_call ((d_is_names_among T).mono (by decide)) hgd hr rfl T.is_names_among.m T.is_names_among.k T.is_names_among.n (ya_cons (ye_var (pv 2)) (ya_cons (ye_var (pv 1)) ya_nil))))) ya_nil)) (ye_one (ye_call ((d_are_rising T).mono (by decide)) hgd hr rfl T.are_rising.m T.are_rising.k T.are_rising.n (ya_cons (ye_var (pv 0)) ya_nil)))))))
/-! are_indexes -/
def N_are_indexes : List Str := ["thing", "size", "many", "one"]
def ps_are_indexes : List Str := ["thing", "size", "many"]
theorem sc_are_indexes : FnScope N_are_indexes ps_are_indexes (defScope (topS 15)) := ⟨by rfl, by rfl, by rfl, by decide, by rfl, by decide +kernel, by decide +kernel⟩
def m_are_indexes : MS := (sRet (mAnd (mCall fn_is_tuple_of (mCons (mVar 0) (mCons (mVar 1) mNil))) ((mArgs gAll (mCons (mLc [3] (mIt (mVar 0)) (gSet 3) mYes (bOne (mCall fn_is_index (mCons (mVar 3) (mCons (mVar 2) mNil))))) mNil)))))
def fn_are_indexes : FN := fnB 4 3 m_are_indexes
theorem d_are_indexes : FnG prog w K mg base 4 T.are_indexes.a T.are_indexes.f ps_are_indexes (spI fn_are_indexes) := fn_I T.are_indexes.t sc_are_indexes fun C cdv A outer s H E hgd hr => by
  have nd := sc_are_indexes.nd
  have hu := hu_room hr
  exact (ys_one (ys_ret (ye_and (ye_call ((d_is_tuple_of T).mono (by decide)) hgd hr rfl T.is_tuple_of.m T.is_tuple_of.k T.is_tuple_of.n (ya_cons (ye_var (pv 0)) (ya_cons (ye_var (pv 1)) ya_nil))) (ye_one (yb_all rfl rfl T.b.b_all (ya_cons (ye_lc (own := [("one", 3)]) rfl nd (yi_seq (ye_var (pv 0))) (blkOk_by (N := N_are_indexes) (sc := defScope (topS 15)) (by decide +kernel)) (fun _ _ _ _ _ => (yg_name (pg_name (i := 3) nd rfl (by first | exact .inl rfl | exact .inr rfl)) (by decide))) (fun _ _ _ _ _ => yts_nil) (fun _ _ _ _ _ => (ye_call ((d_is_index T).mono (by decide)) hgd hr rfl T.is_index.m T.is_index.k T.is_index.n (ya_cons (ye_var (pv 3)) (ya_cons (ye_var (pv 2)) ya_nil))))) ya_nil))))))
/-! are_numbers -/
def N_are_numbers : List Str := ["thing", "size", "one"]
def ps_are_numbers : List Str := ["thing", "size"]
theorem sc_are_numbers : FnScope N_are_numbers ps_are_numbers (defScope (topS 16)) := ⟨by rfl, by rfl, by rfl, by decide, by rfl, by decide +kernel, by decide +kernel⟩
def m_are_numbers : MS := (sRet (mAnd (mCall fn_is_tuple_of (mCons (mVar 0) (mCons (mVar 1) mNil))) ((mArgs gAll (mCons (mLc [2] (mIt (mVar 0)) (gSet 2) mYes (bOne (mCall fn_is_number (mCons (mVar 2) mNil)))) mNil)))))
def fn_are_numbers : FN := fnB 3 2 m_are_numbers
theorem d_are_numbers : FnG prog w K mg base 3 T.are_numbers.a T.are_numbers.f ps_are_numbers (spI fn_are_numbers) := fn_I T.are_numbers.t sc_are_numbers fun C cdv A outer s H E hgd hr => by
  have nd := sc_are_numbers.nd
  have hu := hu_room hr
  exact (ys_one (ys_ret (ye_and (ye_call ((d_is_tuple_of T).mono (by decide)) hgd hr rfl T.is_tuple_of.m T.is_tuple_of.k T.is_tuple_of.n (ya_cons (ye_var (pv 0)) (ya_cons (ye_var (pv 1)) ya_nil))) (ye_one (yb_all rfl rfl T.b.b_all (ya_cons (ye_lc (own := [("one", 2)]) rfl nd (yi_seq (ye_var (pv 0))) (blkOk_by (N := N_are_numbers) (sc := defScope (topS 16)) (by decide +kernel)) (fun _ _ _ _ _ => (yg_name (pg_name (i := 2) nd rfl (by first | exact .inl rfl | exact .inr rfl)) (by decide))) (fun _ _ _ _ _ => yts_nil) (fun _ _ _ _ _ => (ye_call ((d_is_number T).mono (by decide)) hgd hr rfl T.is_number.m T.is_number.k T.is_number.n (ya_cons (ye_var (pv 2)) ya_nil)))) ya_nil))))))
/-! machine_fault -/
def N_machine_fault : List Str := ["thing", "letters", "looks", "moves", "answers", "state", "goals", "numbers"]
def ps_machine_fault : List Str := ["thing"]
theorem sc_machine_fault : FnScope N_machine_fault ps_machine_fault (defScope (topS 17)) := ⟨by rfl, by rfl, by rfl, by decide, by rfl, by decide +kernel, by decide +kernel⟩
def m_machine_fault : MS := (sSeq (sIf (tNo (mT (mCall fn_is_tuple_of (mCons (mVar 0) (mCons (mDat (.int 4)) mNil))))) (sNo) sNil) (sSeq (sTup (mVar 0) (gTupM 4 (gsCons (gSet 1) (gsCons (gSet 2) (gsCons (gSet 3) (gsCons (gSet 4) gsNil)))))) (sSeq (sIf (tO (tNo (mT (mCall fn_is_names (mCons (mVar 1) mNil)))) ((mT (m2 gLt (mArgs gLen (mCons (mVar 1) mNil)) (mDat (.int 2)))))) (sNo) sNil) (sSeq (sIf (tO (tNo (mT (mCall fn_is_names (mCons (mVar 2) mNil)))) ((mT (m2 gLt (mArgs gLen (mCons (mVar 2) mNil)) (mDat (.int 1)))))) (sNo) sNil) (sSeq (sIf (tO (tNo (mT (m1 (gIs "tuple") (mVar 3)))) ((mT (m2 gEq (mArgs gLen (mCons (mVar 3) mNil)) (mDat (.int 0)))))) (sNo) sNil) (sSeq (sFor (mEnum (mCons (mVar 3) mNil)) (gTupM 2 (gsCons (gSet 5) (gsCons (gSet 6) gsNil))) (sIf (tNo (mT (mCall fn_are_indexes (mCons (mVar 6) (mCons (mArgs gLen (mCons (mVar 1) mNil)) (mCons (mArgs gLen (mCons (mVar 3) mNil)) mNil)))))) (sNo) sNil)) (sSeq (sIf (tNo (mT (mCall fn_is_tuple_of (mCons (mVar 4) (mCons (mArgs gLen (mCons (mVar 3) mNil)) mNil))))) (sNo) sNil) (sSeq (sFor (mEnum (mCons (mVar 4) mNil)) (gTupM 2 (gsCons (gSet 5) (gsCons (gSet 7) gsNil))) (sIf (tNo (mT (mCall fn_are_numbers (mCons (mVar 7) (mCons (mArgs gLen (mCons (mVar 2) mNil)) mNil))))) (sNo) sNil)) (sRet (mDat .none))))))))))
def fn_machine_fault : FN := fnB 8 1 m_machine_fault
theorem d_machine_fault : FnG prog w K mg base 5 T.machine_fault.a T.machine_fault.f ps_machine_fault (spI fn_machine_fault) := fn_I T.machine_fault.t sc_machine_fault fun C cdv A outer s H E hgd hr => by
  have nd := sc_machine_fault.nd
  have hu := hu_room hr
  exact (ys_cons (ys_if (yt_not (yt_of (ye_call ((d_is_tuple_of T).mono (by decide)) hgd hr rfl T.is_tuple_of.m T.is_tuple_of.k T.is_tuple_of.n (ya_cons (ye_var (pv 0)) (ya_cons (ye_int) ya_nil))))) (ys_one (ys_never)) ys_nil) (ys_cons (ys_asg (vs := [0, 1, 2, 3, 4, 5, 6, 7]) (ye_var (pv 0)) (yg_tup rfl (ygs_cons (yg_name (pg_name (i := 1) nd rfl (by first | exact .inl rfl | exact .inr rfl)) (by decide)) (ygs_cons (yg_name (pg_name (i := 2) nd rfl (by first | exact .inl rfl | exact .inr rfl)) (by decide)) (ygs_cons (yg_name (pg_name (i := 3) nd rfl (by first | exact .inl rfl | exact .inr rfl)) (by decide)) (ygs_cons (yg_name (pg_name (i := 4) nd rfl (by first | exact .inl rfl | exact .inr rfl)) (by decide)) ygs_nil)))))) (ys_cons (ys_if (PW.pt (yw_or (yt_not (yt_of (ye_call ((d_is_names T).mono (by decide)) hgd hr rfl T.is_names.m T.is_names.k T.is_names.n (ya_cons (ye_var (pv 1)) ya_nil)))) (yw_or1 (yq_lt hu (yb_len rfl T.b.b_len (ya_cons (ye_var (pv 1)) ya_nil)) (ye_int))))) (ys_one (ys_never)) ys_nil) (ys_cons (ys_if (PW.pt (yw_or (yt_not (yt_of (ye_call ((d_is_names T).mono (by decide)) hgd hr rfl T.is_names.m T.is_names.k T.is_names.n (ya_cons (ye_var (pv 2)) ya_nil)))) (yw_or1 (yq_lt hu (yb_len rfl T.b.b_len (ya_cons (ye_var (pv 2)) ya_nil)) (ye_int))))) (ys_one (ys_never)) ys_nil) (ys_cons (ys_if (PW.pt (yw_or (yt_not (yt_of (yb_isi (ye_var (pv 3)) (yt_tup rfl T.b.b_tuple) rfl T.b.b_isinstance))) (yw_or1 (yq_eq hu (yb_len rfl T.b.b_len (ya_cons (ye_var (pv 3)) ya_nil)) (ye_int))))) (ys_one (ys_never)) ys_nil) (ys_cons (ys_for (vs := [0, 1, 2, 3, 4, 5, 6, 7]) PassesOwn.never rfl (yi_enum rfl T.b.b_enumerate (ya_cons (ye_var (pv 3)) ya_nil)) (yg_tup rfl (ygs_cons (yg_name (pg_name (i := 5) nd rfl (by first | exact .inl rfl | exact .inr rfl)) (by decide)) (ygs_cons (yg_name (pg_name (i := 6) nd rfl (by first | exact .inl rfl | exact .inr rfl)) (by decide)) ygs_nil))) (ys_one (ys_if (yt_not (yt_of (ye_call ((d_are_indexes T).mono (by decide)) hgd hr rfl T.are_indexes.m T.are_indexes.k T.are_indexes.n (ya_cons (ye_var (pv 6)) (ya_cons (yb_len rfl T.b.b_len (ya_cons (ye_var (pv 1)) ya_nil)) (ya_cons (yb_len rfl T.b.b_len (ya_cons (ye_var (pv 3)) ya_nil)) ya_nil)))))) (ys_one (ys_never)) ys_nil))) (ys_cons (ys_if (yt_not (yt_of (ye_call ((d_is_tuple_of T).mono (by decide)) hgd hr rfl T.is_tuple_of.m T.is_tuple_of.k T.is_tuple_of.n (ya_cons (ye_var (pv 4)) (ya_cons (yb_len rfl T.b.b_len (ya_cons (ye_var (pv 3)) ya_nil)) ya_nil))))) (ys_one (ys_never)) ys_nil) (ys_cons (ys_for (vs := [0, 1, 2, 3, 4, 5, 6, 7]) PassesOwn.never rfl (yi_enum rfl T.b.b_enumerate (ya_cons (ye_var (pv 4)) ya_nil)) (yg_tup rfl (ygs_cons (yg_name (pg_name (i := 5) nd rfl (by first | exact .inl rfl | exact .inr rfl)) (by decide)) (ygs_cons (yg_name (pg_name (i := 7) nd rfl (by first | exact .inl rfl | exact .inr rfl)) (by decide)) ygs_nil))) (ys_one (ys_if (yt_not (yt_of (ye_call ((d_are_numbers T).mono (by decide)) hgd hr rfl T.are_numbers.m T.are_numbers.k T.are_numbers.n (ya_cons (ye_var (pv 7)) (ya_cons (yb_len rfl T.b.b_len (ya_cons (ye_var (pv 2)) ya_nil)) ya_nil))))) (ys_one (ys_never)) ys_nil))) (ys_one (ys_ret (ye_non)))))))))))
/-! is_triple_from -/
def N_is_triple_from : List Str := ["thing"]
def ps_is_triple_from : List Str := ["thing"]
theorem sc_is_triple_from : FnScope N_is_triple_from ps_is_triple_from (defScope (topS 18)) := ⟨by rfl, by rfl, by rfl, by decide, by rfl, by decide +kernel, by decide +kernel⟩
def m_is_triple_from : MS := (sRet (mAnd (mCall fn_is_tuple_of (mCons (mVar 0) (mCons (mDat (.int 3)) mNil))) ((mCall fn_is_name (mCons (m2 gIx (mVar 0) (mDat (.int 0))) mNil)))))
def fn_is_triple_from : FN := fnB 1 1 m_is_triple_from
theorem d_is_triple_from : FnG prog w K mg base 2 T.is_triple_from.a T.is_triple_from.f ps_is_triple_from (spI fn_is_triple_from) := fn_I T.is_triple_from.t sc_is_triple_from fun C cdv A outer s H E hgd hr => by
  have nd := sc_is_triple_from.nd
  have hu := hu_room hr
  exact (ys_one (ys_ret (ye_and (ye_call ((d_is_tuple_of T).mono (by decide)) hgd hr rfl T.is_tuple_of.m T.is_tuple_of.k T.is_tuple_of.n (ya_cons (ye_var (pv 0)) (ya_cons (ye_int) ya_nil))) (ye_one (ye_call ((d_is_name T).mono (by decide)) hgd hr rfl T.is_name.m T.is_name.k T.is_name.n (ya_cons (yo_ix (ye_var (pv 0)) (ye_int)) ya_nil))))))
/-! trust_fault -/
def N_trust_fault : List Str := ["thing", "houses", "k", "one", "house", "lots", "fears", "other"]
def ps_trust_fault : List Str := ["thing"]
theorem sc_trust_fault : FnScope N_trust_fault ps_trust_fault (defScope (topS 19)) := ⟨by rfl, by rfl, by rfl, by decide, by rfl, by decide +kernel, by decide +kernel⟩
def m_trust_fault : MS := (sSeq (sIf (tO (tNo (mT (m1 (gIs "tuple") (mVar 0)))) ((mT (m2 gEq (mArgs gLen (mCons (mVar 0) mNil)) (mDat (.int 0)))))) (sNo) sNil) (sSeq (sFor (mEnum (mCons (mVar 0) mNil)) (gTupM 2 (gsCons (gSet 2) (gsCons (gSet 3) gsNil))) (sIf (tO (tNo (mT (mCall fn_is_triple_from (mCons (mVar 3) mNil)))) ((tAn (mT (m2 gGtI (mVar 2) (mDat (.int 0)))) ((mT (m2 gLeS (m2 gIx (mVar 3) (mDat (.int 0))) (m2 gIx (m2 gIx (mVar 0) (m2 gSub (mVar 2) (mDat (.int 1)))) (mDat (.int 0))))))))) (sNo) sNil)) (sSeq (sSet 1 (mLc [3] (mIt (mVar 0)) (gSet 3) mYes (bOne (m2 gIx (mVar 3) (mDat (.int 0)))))) (sSeq (sFor (mEnum (mCons (mVar 0) mNil)) (gTupM 2 (gsCons (gSet 2) (gsCons (gTupM 3 (gsCons (gSet 4) (gsCons (gSet 5) (gsCons (gSet 6) gsNil)))) gsNil))) (sSeq (sIf (tO (tNo (mT (mCall fn_are_sets_among (mCons (mVar 5) (mCons (mVar 1) mNil))))) ((mT (m2 gIn (mArgs gTupD mNil) (mVar 5))))) (sNo) sNil) (sIf (tNo (mT (mCall fn_are_sets_among (mCons (mVar 6) (mCons (mLc [7] (mIt (mVar 1)) (gSet 7) (mT (m2 gNe (mVar 7) (mVar 4))) (bOne (mVar 7))) mNil))))) (sNo) sNil))) (sRet (mDat .none))))))
def fn_trust_fault : FN := fnB 8 1 m_trust_fault
theorem d_trust_fault : FnG prog w K mg base 5 T.trust_fault.a T.trust_fault.f ps_trust_fault (spI fn_trust_fault) := fn_I T.trust_fault.t sc_trust_fault fun C cdv A outer s H E hgd hr => by
  have nd := sc_trust_fault.nd
  have hu := hu_room hr
  exact (ys_cons (ys_if (PW.pt (yw_or (yt_not (yt_of (yb_isi (ye_var (pv 0)) (yt_tup rfl T.b.b_tuple) rfl T.b.b_isinstance))) (yw_or1 (yq_eq hu (yb_len rfl T.b.b_len (ya_cons (ye_var (pv 0)) ya_nil)) (ye_int))))) (ys_one (ys_never)) ys_nil) (ys_cons (ys_for (vs := [0, 1, 2, 3, 4, 5, 6, 7]) PassesOwn.never rfl (yi_enum rfl T.b.b_enumerate (ya_cons (ye_var (pv 0)) ya_nil)) (yg_tup rfl (ygs_cons (yg_name (pg_name (i := 2) nd rfl (by first | exact .inl rfl | exact .inr rfl)) (by decide)) (ygs_cons (yg_name (pg_name (i := 3) nd rfl (by first | exact .inl rfl | exact .inr rfl)) (by decide)) ygs_nil))) (ys_one (ys_if (PW.pt (yw_or (yt_not (yt_of (ye_call ((d_is_triple_from T).mono (by decide)) hgd hr rfl T.is_triple_from.m T.is_triple_from.k T.is_triple_from.n (ya_cons (ye_var (pv 3)) ya_nil)))) (yw_or1 (PW.pt (yw_and (yq_gt (ye_var (pv 2)) (ye_int)) (yw_and1 (yq_leS (yo_ix (ye_var (pv 3)) (ye_int)) (yo_ix (yo_ix (ye_var (pv 0)) (yo_sub (ye_var (pv 2)) (ye_int))) (ye_int))))))))) (ys_one (ys_never)) ys_nil))) (ys_cons (by first | exact ys_setLc (own := [("one", 3)]) (i := 1) rfl nd rfl rfl (sw_true rfl rfl rfl rfl) (yi_seq (ye_var (pv 0))) (blkOk_by (N := N_trust_fault) (sc := defScope (topS 19)) (by decide +kernel)) (fun _ _ _ _ _ => (yg_name (pg_name (i := 3) nd rfl (by first | exact .inl rfl | exact .inr rfl)) (by decide))) (fun _ _ _ _ _ => yts_nil) (fun _ _ _ _ _ => (yo_ix (ye_var (pv 3)) (ye_int))) | exact ys_set (i := 1) nd rfl (by first | exact .inl rfl | exact .inr rfl) (ye_lc (own := [("one", 3)]) rfl nd (yi_seq (ye_var (pv 0))) (blkOk_by (N := N_trust_fault) (sc := defScope (topS 19)) (by decide +kernel)) (fun _ _ _ _ _ => (yg_name (pg_name (i := 3) nd rfl (by first | exact .inl rfl | exact .inr rfl)) (by decide))) (fun _ _ _ _ _ => yts_nil) (fun _ _ _ _ _ => (yo_ix (ye_var (pv 3)) (ye_int))))) (ys_cons (ys_for (vs := [0, 1, 2, 3, 4, 5, 6, 7]) PassesOwn.never rfl (yi_enum rfl T.b.b_enumerate (ya_cons (ye_var (pv 0)) ya_nil)) (yg_tup rfl (ygs_cons (yg_name (pg_name (i := 2) nd rfl (by first | exact .inl rfl | exact .inr rfl)) (by decide)) (ygs_cons (yg_tup rfl (ygs_cons (yg_name (pg_name (i := 4) nd rfl (by first | exact .inl rfl | exact .inr rfl)) (by decide)) (ygs_cons (yg_name (pg_name (i := 5) nd rfl (by first | exact .inl rfl | exact .inr rfl)) (by decide)) (ygs_cons (yg_name (pg_name (i := 6) nd rfl (by first | exact .inl rfl | exact .inr rfl)) (by decide)) ygs_nil)))) ygs_nil))) (ys_cons (ys_if (PW.pt (yw_or (yt_not (yt_of (ye_call ((d_are_sets_among T).mono (by decide)) hgd hr rfl T.are_sets_among.m T.are_sets_among.k T.are_sets_among.n (ya_cons (ye_var (pv 5)) (ya_cons (ye_var (pv 1)) ya_nil))))) (yw_or1 (yq_in hu (ye_tup ya_nil) (ye_var (pv 5)))))) (ys_one (ys_never)) ys_nil) (ys_one (ys_if (yt_not (yt_of (ye_call ((d_are_sets_among T).mono (by decide)) hgd hr rfl T.are_sets_among.m T.are_sets_among.k T.are_sets_among.n (ya_cons (ye_var (pv 6)) (ya_cons (ye_lc (own := [("other", 7)]) rfl nd (yi_seq (ye_var (pv 1))) (blkOk_by (N := N_trust_fault) (sc := defScope (topS 19)) (by decide +kernel)) (fun _ _ _ _ _ => (yg_name (pg_name (i := 7) nd rfl (by first | exact .inl rfl | exact .inr rfl)) (by decide))) (fun _ _ _ _ _ => (yts_one (yq_ne hu (ye_var (pv 7)) (ye_var (pv 4))))) (fun _ _ _ _ _ => (ye_var (pv 7)))) ya_nil))))) (ys_one (ys_never)) ys_nil)))) (ys_one (ys_ret (ye_non)))))))
/-! order_fault -/
def N_order_fault : List Str := ["houses", "thing", "k", "one"]
def ps_order_fault : List Str := ["houses", "thing"]
theorem sc_order_fault : FnScope N_order_fault ps_order_fault (defScope (topS 21)) := ⟨by rfl, by rfl, by rfl, by decide, by rfl, by decide +kernel, by decide +kernel⟩
def m_order_fault : MS := (sSeq (sIf (tNo (mT (m1 (gIs "tuple") (mVar 1)))) (sNo) sNil) (sSeq (sFor (mEnum (mCons (mVar 1) mNil)) (gTupM 2 (gsCons (gSet 2) (gsCons (gSet 3) gsNil))) sNo) (sRet (mDat .none))))
def fn_order_fault : FN := fnB 4 2 m_order_fault
theorem d_order_fault : FnG prog w K mg base 1 T.order_fault.a T.order_fault.f ps_order_fault (spI fn_order_fault) := fn_I T.order_fault.t sc_order_fault fun C cdv A outer s H E hgd hr => by
  have nd := sc_order_fault.nd
  have hu := hu_room hr
  exact (ys_cons (ys_if (yt_not (yt_of (yb_isi (ye_var (pv 1)) (yt_tup rfl T.b.b_tuple) rfl T.b.b_isinstance))) (ys_one (ys_never)) ys_nil) (ys_cons (ys_for (vs := [0, 1, 2, 3]) PassesOwn.never rfl (yi_enum rfl T.b.b_enumerate (ya_cons (ye_var (pv 1)) ya_nil)) (yg_tup rfl (ygs_cons (yg_name (pg_name (i := 2) nd rfl (by first | exact .inl rfl | exact .inr rfl)) (by decide)) (ygs_cons (yg_name (pg_name (i := 3) nd rfl (by first | exact .inl rfl | exact .inr rfl)) (by decide)) ygs_nil))) ys_nevers) (ys_one (ys_ret (ye_non)))))
/-! are_promises -/
def N_are_promises : List Str := ["thing", "end", "one"]
def ps_are_promises : List Str := ["thing", "end"]
theorem sc_are_promises : FnScope N_are_promises ps_are_promises (defScope (topS 26)) := ⟨by rfl, by rfl, by rfl, by decide, by rfl, by decide +kernel, by decide +kernel⟩
def m_are_promises : MS := (sSeq (sIf (tO (tNo (mT (m1 (gIs "tuple") (mVar 0)))) ((tNo (mT (mArgs gAll (mCons (mLc [2] (mIt (mVar 0)) (gSet 2) mYes (bOne (mCall fn_is_pair (mCons (mVar 2) mNil)))) mNil)))))) (sRet (mDat (.bool false))) sNil) (sSeq (sIf (tNo (mT (mArgs gAll (mCons (mLc [2] (mIt (mVar 0)) (gSet 2) mYes (bOne (mAnd (mCall fn_is_name (mCons (m2 gIx (mVar 2) (mDat (.int 0))) mNil)) ((mCall fn_is_integer (mCons (m2 gIx (mVar 2) (mDat (.int 1))) mNil)))))) mNil)))) (sRet (mDat (.bool false))) sNil) (sRet (mAnd (mCall fn_are_rising (mCons (mLc [2] (mIt (mVar 0)) (gSet 2) mYes (bOne (m2 gIx (mVar 2) (mDat (.int 0))))) mNil)) ((mOr (m2 gEq (mArgs gLen (mCons (mVar 0) mNil)) (mDat (.int 0))) ((m2 gNe (mVar 1) (mDat (.str "any"))))))))))
def fn_are_promises : FN := fnB 3 2 m_are_promises
theorem d_are_promises : FnG prog w K mg base 3 T.are_promises.a T.are_promises.f ps_are_promises (spI fn_are_promises) := fn_I T.are_promises.t sc_are_promises fun C cdv A outer s H E hgd hr => by
  have nd := sc_are_promises.nd
  have hu := hu_room hr
  exact (ys_cons (ys_if (PW.pt (yw_or (yt_not (yt_of (yb_isi (ye_var (pv 0)) (yt_tup rfl T.b.b_tuple) rfl T.b.b_isinstance))) (yw_or1 (yt_not (yt_of (yb_all rfl rfl T.b.b_all (ya_cons (ye_lc (own := [("one", 2)]) rfl nd (yi_seq (ye_var (pv 0))) (blkOk_by (N := N_are_promises) (sc := defScope (topS 26)) (by decide +kernel)) (fun _ _ _ _ _ => (yg_name (pg_name (i := 2) nd rfl (by first | exact .inl rfl | exact .inr rfl)) (by decide))) (fun _ _ _ _ _ => yts_nil) (fun _ _ _ _ _ => (ye_call ((d_is_pair T).mono (by decide)) hgd hr rfl T.is_pair.m T.is_pair.k T.is_pair.n (ya_cons (ye_var (pv 2)) ya_nil)))) ya_nil))))))) (ys_one (ys_ret (ye_bl))) ys_nil) (ys_cons (ys_if (yt_not (yt_of (yb_all rfl rfl T.b.b_all (ya_cons (ye_lc (own := [("one", 2)]) rfl nd (yi_seq (ye_var (pv 0))) (blkOk_by (N := N_are_promises) (sc := defScope (topS 26)) (by decide +kernel)) (fun _ _ _ _ _ => (yg_name (pg_name (i := 2) nd rfl (by first | exact .inl rfl | exact .inr rfl)) (by decide))) (fun _ _ _ _ _ => yts_nil) (fun _ _ _ _ _ => (ye_and (ye_call ((d_is_name T).mono (by decide)) hgd hr rfl T.is_name.m T.is_name.k T.is_name.n (ya_cons (yo_ix (ye_var (pv 2)) (ye_int)) ya_nil)) (ye_one (ye_call ((d_is_integer T).mono (by decide)) hgd hr rfl T.is_integer.m T.is_integer.k T.is_integer.n (ya_cons (yo_ix (ye_var (pv 2)) (ye_int)) ya_nil)))))) ya_nil)))) (ys_one (ys_ret (ye_bl))) ys_nil) (ys_one (ys_ret (ye_and (ye_call ((d_are_rising T).mono (by decide)) hgd hr rfl T.are_rising.m T.are_rising.k T.are_rising.n (ya_cons (ye_lc (own := [("one", 2)]) rfl nd (yi_seq (ye_var (pv 0))) (blkOk_by (N := N_are_promises) (sc := defScope (topS 26)) (by decide +kernel)) (fun _ _ _ _ _ => (yg_name (pg_name (i := 2) nd rfl (by first | exact .inl rfl | exact .inr rfl)) (by decide))) (fun _ _ _ _ _ => yts_nil) (fun _ _ _ _ _ => (yo_ix (ye_var (pv 2)) (ye_int)))) ya_nil)) (ye_one (ye_or (yc_eq hu (yb_len rfl T.b.b_len (ya_cons (ye_var (pv 0)) ya_nil)) (ye_int)) (ye_one (yc_ne hu (ye_var (pv 1)) (ye_dat (pe_glob (v := .str "any") rfl T.b.ANY.choose_spec.1 T.b.ANY.choose_spec.2) (fun _ => .str _)))))))))))
/-! is_looking -/
def N_is_looking : List Str := ["thing"]
def ps_is_looking : List Str := ["thing"]
theorem sc_is_looking : FnScope N_is_looking ps_is_looking (defScope (topS 27)) := ⟨by rfl, by rfl, by rfl, by decide, by rfl, by decide +kernel, by decide +kernel⟩
def m_is_looking : MS := (sSeq (sIf (tO (tNo (mT (mCall fn_is_tuple_of (mCons (mVar 0) (mCons (mDat (.int 5)) mNil))))) (tO (tNo (mT (mCall fn_is_name (mCons (m2 gIx (mVar 0) (mDat (.int 0))) mNil)))) (tO (tNo (mT (mCall fn_is_names (mCons (m2 gIx (mVar 0) (mDat (.int 1))) mNil)))) ((mT (m2 gEq (mArgs gLen (mCons (m2 gIx (mVar 0) (mDat (.int 1))) mNil)) (mDat (.int 0)))))))) (sRet (mDat (.bool false))) sNil) (sSeq (sIf (tO (tNo (mT (mCall fn_is_names (mCons (m2 gIx (mVar 0) (mDat (.int 2))) mNil)))) ((tNo (tO (mT (mCall fn_is_integer (mCons (m2 gIx (mVar 0) (mDat (.int 3))) mNil))) ((mT (mCall fn_is_among (mCons (m2 gIx (mVar 0) (mDat (.int 3))) (mCons (mArgs gTupD (mCons (mDat (.str "any")) mNil)) mNil))))))))) (sRet (mDat (.bool false))) sNil) (sRet (mCall fn_are_promises (mCons (m2 gIx (mVar 0) (mDat (.int 4))) (mCons (m2 gIx (mVar 0) (mDat (.int 3))) mNil))))))
def fn_is_looking : FN := fnB 1 1 m_is_looking
theorem d_is_looking : FnG prog w K mg base 4 T.is_looking.a T.is_looking.f ps_is_looking (spI fn_is_looking) := fn_I T.is_looking.t sc_is_looking fun C cdv A outer s H E hgd hr => by
  have nd := sc_is_looking.nd
  have hu := hu_room hr
  exact (ys_cons (ys_if (PW.pt (yw_or (yt_not (yt_of (ye_call ((d_is_tuple_of T).mono (by decide)) hgd hr rfl T.is_tuple_of.m T.is_tuple_of.k T.is_tuple_of.n (ya_cons (ye_var (pv 0)) (ya_cons (ye_int) ya_nil))))) (yw_or (yt_not (yt_of (ye_call ((d_is_name T).mono (by decide)) hgd hr rfl T.is_name.m T.is_name.k T.is_name.n (ya_cons (yo_ix (ye_var (pv 0)) (ye_int)) ya_nil)))) (yw_or (yt_not (yt_of (ye_call ((d_is_names T).mono (by decide)) hgd hr rfl T.is_names.m T.is_names.k T.is_names.n (ya_cons (yo_ix (ye_var (pv 0)) (ye_int)) ya_nil)))) (yw_or1 (yq_eq hu (yb_len rfl T.b.b_len (ya_cons (yo_ix (ye_var (pv 0)) (ye_int)) ya_nil)) (ye_int))))))) (ys_one (ys_ret (ye_bl))) ys_nil) (ys_cons (ys_if (PW.pt (yw_or (yt_not (yt_of (ye_call ((d_is_names T).mono (by decide)) hgd hr rfl T.is_names.m T.is_names.k T.is_names.n (ya_cons (yo_ix (ye_var (pv 0)) (ye_int)) ya_nil)))) (yw_or1 (yt_not (PW.pt (yw_or (yt_of (ye_call ((d_is_integer T).mono (by decide)) hgd hr rfl T.is_integer.m T.is_integer.k T.is_integer.n (ya_cons (yo_ix (ye_var (pv 0)) (ye_int)) ya_nil))) (yw_or1 (yt_of (ye_call ((d_is_among T).mono (by decide)) hgd hr rfl T.is_among.m T.is_among.k T.is_among.n (ya_cons (yo_ix (ye_var (pv 0)) (ye_int)) (ya_cons (ye_tup (ya_cons (ye_dat (pe_glob (v := .str "any") rfl T.b.ANY.choose_spec.1 T.b.ANY.choose_spec.2) (fun _ => .str _)) ya_nil)) ya_nil))))))))))) (ys_one (ys_ret (ye_bl))) ys_nil) (ys_one (ys_ret (ye_call ((d_are_promises T).mono (by decide)) hgd hr rfl T.are_promises.m T.are_promises.k T.are_promises.n (ya_cons (yo_ix (ye_var (pv 0)) (ye_int)) (ya_cons (yo_ix (ye_var (pv 0)) (ye_int)) ya_nil)))))))
/-! is_looking_of -/
def N_is_looking_of : List Str := ["machine", "houses", "thing", "own", "house", "until"]
def ps_is_looking_of : List Str := ["machine", "houses", "thing"]
theorem sc_is_looking_of : FnScope N_is_looking_of ps_is_looking_of (defScope (topS 29)) := ⟨by rfl, by rfl, by rfl, by decide, by rfl, by decide +kernel, by decide +kernel⟩
def m_is_looking_of : MS := (sSeq (sIf (tO (tNo (mT (mCall fn_is_looking (mCons (mVar 2) mNil)))) ((tNo (mT (mCall fn_is_names_among (mCons (m2 gIx (mVar 2) (mDat (.int 1))) (mCons (m2 gIx (mVar 0) (mDat (.int 1))) mNil))))))) (sRet (mDat (.bool false))) sNil) (sSeq (sSet 3 (mArgs gLstD (mCons (m2 gIx (mVar 2) (mDat (.int 0))) (mStar (m2 gIx (mVar 2) (mDat (.int 2))) (mStar (mLc [4, 5] (mIt (m2 gIx (mVar 2) (mDat (.int 4)))) (gTupM 2 (gsCons (gSet 4) (gsCons (gSet 5) gsNil))) mYes (bOne (mVar 4))) mNil))))) (sRet (mArgs gAll (mCons (mLc [4] (mIt (mVar 3)) (gSet 4) mYes (bOne (m2 gIn (mVar 4) (mVar 1)))) mNil)))))
def fn_is_looking_of : FN := fnB 6 3 m_is_looking_of
theorem d_is_looking_of : FnG prog w K mg base 5 T.is_looking_of.a T.is_looking_of.f ps_is_looking_of (spI fn_is_looking_of) := fn_I T.is_looking_of.t sc_is_looking_of fun C cdv A outer s H E hgd hr => by
  have nd := sc_is_looking_of.nd
  have hu := hu_room hr
  exact (ys_cons (ys_if (PW.pt (yw_or (yt_not (yt_of (ye_call ((d_is_looking T).mono (by decide)) hgd hr rfl T.is_looking.m T.is_looking.k T.is_looking.n (ya_cons (ye_var (pv 2)) ya_nil)))) (yw_or1 (yt_not (yt_of (ye_call ((d_is_names_among T).mono (by decide)) hgd hr rfl T.is_names_among.m T.is_names_among.k T.is_names_among.n (ya_cons (yo_ix (ye_var (pv 2)) (ye_int)) (ya_cons (yo_ix (ye_var (pv 0)) (ye_int)) ya_nil)))))))) (ys_one (ys_ret (ye_bl))) ys_nil) (ys_cons (ys_set (i := 3) nd rfl (by first | exact .inl rfl | exact .inr rfl) (ye_lst (ya_cons (yo_ix (ye_var (pv 2)) (ye_int)) (ya_star (yo_ix (ye_var (pv 2)) (ye_int)) (ya_star (ye_lc (own := [("house", 4), ("until", 5)]) rfl nd (yi_seq (yo_ix (ye_var (pv 2)) (ye_int))) (blkOk_by (N := N_is_looking_of) (sc := defScope (topS 29)) (by decide +kernel)) (fun _ _ _ _ _ => (yg_tup rfl (ygs_cons (yg_name (pg_name (i := 4) nd rfl (by first | exact .inl rfl | exact .inr rfl)) (by decide)) (ygs_cons (yg_name (pg_name (i := 5) nd rfl (by first | exact .inl rfl | exact .inr rfl)) (by decide)) ygs_nil)))) (fun _ _ _ _ _ => yts_nil) (fun _ _ _ _ _ => (ye_var (pv 4)))) ya_nil))))) (ys_one (ys_ret (yb_all rfl rfl T.b.b_all (ya_cons (ye_lc (own := [("house", 4)]) rfl nd (yi_seq (ye_var (pv 3))) (blkOk_by (N := N_is_looking_of) (sc := defScope (topS 29)) (by decide +kernel)) (fun _ _ _ _ _ => (yg_name (pg_name (i := 4) nd rfl (by first | exact .inl rfl | exact .inr rfl)) (by decide))) (fun _ _ _ _ _ => yts_nil) (fun _ _ _ _ _ => (yc_in hu (ye_var (pv 4)) (ye_var (pv 1))))) ya_nil))))))
/-! rules_fault -/
def N_rules_fault : List Str := ["machine", "houses", "looking", "waking", "k", "one"]
def ps_rules_fault : List Str := ["machine", "houses", "looking", "waking"]
theorem sc_rules_fault : FnScope N_rules_fault ps_rules_fault (defScope (topS 31)) := ⟨by rfl, by rfl, by rfl, by decide, by rfl, by decide +kernel, by decide +kernel⟩
def m_rules_fault : MS := (sSeq (sIf (tNo (mT (m1 (gIs "tuple") (mVar 2)))) (sNo) sNil) (sSeq (sFor (mEnum (mCons (mVar 2) mNil)) (gTupM 2 (gsCons (gSet 4) (gsCons (gSet 5) gsNil))) (sIf (tNo (mT (mCall fn_is_looking_of (mCons (mVar 0) (mCons (mVar 1) (mCons (mVar 5) mNil)))))) (sNo) sNil)) (sSeq (sIf (tNo (mT (m1 (gIs "tuple") (mVar 3)))) (sNo) sNil) (sSeq (sFor (mEnum (mCons (mVar 3) mNil)) (gTupM 2 (gsCons (gSet 4) (gsCons (gSet 5) gsNil))) sNo) (sRet (mDat .none))))))
def fn_rules_fault : FN := fnB 6 4 m_rules_fault
theorem d_rules_fault : FnG prog w K mg base 6 T.rules_fault.a T.rules_fault.f ps_rules_fault (spI fn_rules_fault) := fn_I T.rules_fault.t sc_rules_fault fun C cdv A outer s H E hgd hr => by
  have nd := sc_rules_fault.nd
  have hu := hu_room hr
  exact (ys_cons (ys_if (yt_not (yt_of (yb_isi (ye_var (pv 2)) (yt_tup rfl T.b.b_tuple) rfl T.b.b_isinstance))) (ys_one (ys_never)) ys_nil) (ys_cons (ys_for (vs := [0, 1, 2, 3, 4, 5]) PassesOwn.never rfl (yi_enum rfl T.b.b_enumerate (ya_cons (ye_var (pv 2)) ya_nil)) (yg_tup rfl (ygs_cons (yg_name (pg_name (i := 4) nd rfl (by first | exact .inl rfl | exact .inr rfl)) (by decide)) (ygs_cons (yg_name (pg_name (i := 5) nd rfl (by first | exact .inl rfl | exact .inr rfl)) (by decide)) ygs_nil))) (ys_one (ys_if (yt_not (yt_of (ye_call ((d_is_looking_of T).mono (by decide)) hgd hr rfl T.is_looking_of.m T.is_looking_of.k T.is_looking_of.n (ya_cons (ye_var (pv 0)) (ya_cons (ye_var (pv 1)) (ya_cons (ye_var (pv 5)) ya_nil)))))) (ys_one (ys_never)) ys_nil))) (ys_cons (ys_if (yt_not (yt_of (yb_isi (ye_var (pv 3)) (yt_tup rfl T.b.b_tuple) rfl T.b.b_isinstance))) (ys_one (ys_never)) ys_nil) (ys_cons (ys_for (vs := [0, 1, 2, 3, 4, 5]) PassesOwn.never rfl (yi_enum rfl T.b.b_enumerate (ya_cons (ye_var (pv 3)) ya_nil)) (yg_tup rfl (ygs_cons (yg_name (pg_name (i := 4) nd rfl (by first | exact .inl rfl | exact .inr rfl)) (by decide)) (ygs_cons (yg_name (pg_name (i := 5) nd rfl (by first | exact .inl rfl | exact .inr rfl)) (by decide)) ygs_nil))) ys_nevers) (ys_one (ys_ret (ye_non)))))))
/-! is_trust -/
def N_is_trust : List Str := ["thing"]
def ps_is_trust : List Str := ["thing"]
theorem sc_is_trust : FnScope N_is_trust ps_is_trust (defScope (topS 33)) := ⟨by rfl, by rfl, by rfl, by decide, by rfl, by decide +kernel, by decide +kernel⟩
def m_is_trust : MS := (sRet (m2 gIsN (mCall fn_trust_fault (mCons (mVar 0) mNil)) (mDat .none)))
def fn_is_trust : FN := fnB 1 1 m_is_trust
theorem d_is_trust : FnG prog w K mg base 6 T.is_trust.a T.is_trust.f ps_is_trust (spI fn_is_trust) := fn_I T.is_trust.t sc_is_trust fun C cdv A outer s H E hgd hr => by
  have nd := sc_is_trust.nd
  have hu := hu_room hr
  exact (ys_one (ys_ret (yc_isN (ye_call ((d_trust_fault T).mono (by decide)) hgd hr rfl T.trust_fault.m T.trust_fault.k T.trust_fault.n (ya_cons (ye_var (pv 0)) ya_nil)) (ye_non))))
/-! meets_in -/
def N_meets_in : List Str := ["one", "other", "name"]
def ps_meets_in : List Str := ["one", "other"]
theorem sc_meets_in : FnScope N_meets_in ps_meets_in (defScope (topS 36)) := ⟨by rfl, by rfl, by rfl, by decide, by rfl, by decide +kernel, by decide +kernel⟩
def m_meets_in : MS := (sRet (mArgs gAny (mCons (mLc [2] (mIt (mVar 0)) (gSet 2) mYes (bOne (m2 gIn (mVar 2) (mVar 1)))) mNil)))
def fn_meets_in : FN := fnB 3 2 m_meets_in
theorem d_meets_in : FnG prog w K mg base 1 T.meets_in.a T.meets_in.f ps_meets_in (spI fn_meets_in) := fn_I T.meets_in.t sc_meets_in fun C cdv A outer s H E hgd hr => by
  have nd := sc_meets_in.nd
  have hu := hu_room hr
  exact (ys_one (ys_ret (yb_any rfl rfl T.b.b_any (ya_cons (ye_lc (own := [("name", 2)]) rfl nd (yi_seq (ye_var (pv 0))) (blkOk_by (N := N_meets_in) (sc := defScope (topS 36)) (by decide +kernel)) (fun _ _ _ _ _ => (yg_name (pg_name (i := 2) nd rfl (by first | exact .inl rfl | exact .inr rfl)) (by decide))) (fun _ _ _ _ _ => yts_nil) (fun _ _ _ _ _ => (yc_in hu (ye_var (pv 2)) (ye_var (pv 1))))) ya_nil))))
/-! joint_in -/
def N_joint_in : List Str := ["one", "other", "name"]
def ps_joint_in : List Str := ["one", "other"]
theorem sc_joint_in : FnScope N_joint_in ps_joint_in (defScope (topS 37)) := ⟨by rfl, by rfl, by rfl, by decide, by rfl, by decide +kernel, by decide +kernel⟩
def m_joint_in : MS := (sRet (mArgs gTuple (mCons (mLc [2] (mIt (mVar 0)) (gSet 2) (mT (m2 gIn (mVar 2) (mVar 1))) (bOne (mVar 2))) mNil)))
def fn_joint_in : FN := fnB 3 2 m_joint_in
theorem d_joint_in : FnG prog w K mg base 1 T.joint_in.a T.joint_in.f ps_joint_in (spI fn_joint_in) := fn_I T.joint_in.t sc_joint_in fun C cdv A outer s H E hgd hr => by
  have nd := sc_joint_in.nd
  have hu := hu_room hr
  exact (ys_one (ys_ret (yb_tuple rfl T.b.b_tuple (ya_cons (ye_lc (own := [("name", 2)]) rfl nd (yi_seq (ye_var (pv 0))) (blkOk_by (N := N_joint_in) (sc := defScope (topS 37)) (by decide +kernel)) (fun _ _ _ _ _ => (yg_name (pg_name (i := 2) nd rfl (by first | exact .inl rfl | exact .inr rfl)) (by decide))) (fun _ _ _ _ _ => (yts_one (yq_in hu (ye_var (pv 2)) (ye_var (pv 1))))) (fun _ _ _ _ _ => (ye_var (pv 2)))) ya_nil))))
/-! houses_in -/
def N_houses_in : List Str := ["trust", "triple"]
def ps_houses_in : List Str := ["trust"]
theorem sc_houses_in : FnScope N_houses_in ps_houses_in (defScope (topS 38)) := ⟨by rfl, by rfl, by rfl, by decide, by rfl, by decide +kernel, by decide +kernel⟩
def m_houses_in : MS := (sRet (mArgs gTuple (mCons (mLc [1] (mIt (mVar 0)) (gSet 1) mYes (bOne (m2 gIx (mVar 1) (mDat (.int 0))))) mNil)))
def fn_houses_in : FN := fnB 2 1 m_houses_in
theorem d_houses_in : FnG prog w K mg base 1 T.houses_in.a T.houses_in.f ps_houses_in (spI fn_houses_in) := fn_I T.houses_in.t sc_houses_in fun C cdv A outer s H E hgd hr => by
  have nd := sc_houses_in.nd
  have hu := hu_room hr
  exact (ys_one (ys_ret (yb_tuple rfl T.b.b_tuple (ya_cons (ye_lc (own := [("triple", 1)]) rfl nd (yi_seq (ye_var (pv 0))) (blkOk_by (N := N_houses_in) (sc := defScope (topS 38)) (by decide +kernel)) (fun _ _ _ _ _ => (yg_name (pg_name (i := 1) nd rfl (by first | exact .inl rfl | exact .inr rfl)) (by decide))) (fun _ _ _ _ _ => yts_nil) (fun _ _ _ _ _ => (yo_ix (ye_var (pv 1)) (ye_int)))) ya_nil))))
/-! lots_of -/
def N_lots_of : List Str := ["trust", "house", "row"]
def ps_lots_of : List Str := ["trust", "house"]
theorem sc_lots_of : FnScope N_lots_of ps_lots_of (defScope (topS 40)) := ⟨by rfl, by rfl, by rfl, by decide, by rfl, by decide +kernel, by decide +kernel⟩
def m_lots_of : MS := (sRet (m2 gIx (m2 gIx (mLc [2] (mIt (mVar 0)) (gSet 2) (mT (m2 gEq (m2 gIx (mVar 2) (mDat (.int 0))) (mVar 1))) (bOne (mVar 2))) (mDat (.int 0))) (mDat (.int 1))))
def fn_lots_of : FN := fnB 3 2 m_lots_of
theorem d_lots_of : FnG prog w K mg base 1 T.lots_of.a T.lots_of.f ps_lots_of (spI fn_lots_of) := fn_I T.lots_of.t sc_lots_of fun C cdv A outer s H E hgd hr => by
  have nd := sc_lots_of.nd
  have hu := hu_room hr
  exact (ys_one (ys_ret (yo_ix (yo_ix (ye_lc (own := [("row", 2)]) rfl nd (yi_seq (ye_var (pv 0))) (blkOk_by (N := N_lots_of) (sc := defScope (topS 40)) (by decide +kernel)) (fun _ _ _ _ _ => (yg_name (pg_name (i := 2) nd rfl (by first | exact .inl rfl | exact .inr rfl)) (by decide))) (fun _ _ _ _ _ => (yts_one (yq_eq hu (yo_ix (ye_var (pv 2)) (ye_int)) (ye_var (pv 1))))) (fun _ _ _ _ _ => (ye_var (pv 2)))) (ye_int)) (ye_int))))
/-! fears_of -/
def N_fears_of : List Str := ["trust", "house", "row"]
def ps_fears_of : List Str := ["trust", "house"]
theorem sc_fears_of : FnScope N_fears_of ps_fears_of (defScope (topS 41)) := ⟨by rfl, by rfl, by rfl, by decide, by rfl, by decide +kernel, by decide +kernel⟩
def m_fears_of : MS := (sRet (m2 gIx (m2 gIx (mLc [2] (mIt (mVar 0)) (gSet 2) (mT (m2 gEq (m2 gIx (mVar 2) (mDat (.int 0))) (mVar 1))) (bOne (mVar 2))) (mDat (.int 0))) (mDat (.int 2))))
def fn_fears_of : FN := fnB 3 2 m_fears_of
theorem d_fears_of : FnG prog w K mg base 1 T.fears_of.a T.fears_of.f ps_fears_of (spI fn_fears_of) := fn_I T.fears_of.t sc_fears_of fun C cdv A outer s H E hgd hr => by
  have nd := sc_fears_of.nd
  have hu := hu_room hr
  exact (ys_one (ys_ret (yo_ix (yo_ix (ye_lc (own := [("row", 2)]) rfl nd (yi_seq (ye_var (pv 0))) (blkOk_by (N := N_fears_of) (sc := defScope (topS 41)) (by decide +kernel)) (fun _ _ _ _ _ => (yg_name (pg_name (i := 2) nd rfl (by first | exact .inl rfl | exact .inr rfl)) (by decide))) (fun _ _ _ _ _ => (yts_one (yq_eq hu (yo_ix (ye_var (pv 2)) (ye_int)) (ye_var (pv 1))))) (fun _ _ _ _ _ => (ye_var (pv 2)))) (ye_int)) (ye_int))))
/-! is_within -/
def N_is_within : List Str := ["one", "other", "house"]
def ps_is_within : List Str := ["one", "other"]
theorem sc_is_within : FnScope N_is_within ps_is_within (defScope (topS 42)) := ⟨by rfl, by rfl, by rfl, by decide, by rfl, by decide +kernel, by decide +kernel⟩
def m_is_within : MS := (sRet (mArgs gAll (mCons (mLc [2] (mIt (mVar 0)) (gSet 2) mYes (bOne (m2 gIn (mVar 2) (mVar 1)))) mNil)))
def fn_is_within : FN := fnB 3 2 m_is_within
theorem d_is_within : FnG prog w K mg base 1 T.is_within.a T.is_within.f ps_is_within (spI fn_is_within) := fn_I T.is_within.t sc_is_within fun C cdv A outer s H E hgd hr => by
  have nd := sc_is_within.nd
  have hu := hu_room hr
  exact (ys_one (ys_ret (yb_all rfl rfl T.b.b_all (ya_cons (ye_lc (own := [("house", 2)]) rfl nd (yi_seq (ye_var (pv 0))) (blkOk_by (N := N_is_within) (sc := defScope (topS 42)) (by decide +kernel)) (fun _ _ _ _ _ => (yg_name (pg_name (i := 2) nd rfl (by first | exact .inl rfl | exact .inr rfl)) (by decide))) (fun _ _ _ _ _ => yts_nil) (fun _ _ _ _ _ => (yc_in hu (ye_var (pv 2)) (ye_var (pv 1))))) ya_nil))))
/-! less_by -/
def N_less_by : List Str := ["lot", "fall", "house"]
def ps_less_by : List Str := ["lot", "fall"]
theorem sc_less_by : FnScope N_less_by ps_less_by (defScope (topS 43)) := ⟨by rfl, by rfl, by rfl, by decide, by rfl, by decide +kernel, by decide +kernel⟩
def m_less_by : MS := (sRet (mArgs gTuple (mCons (mLc [2] (mIt (mVar 0)) (gSet 2) (mT (m2 gNotIn (mVar 2) (mVar 1))) (bOne (mVar 2))) mNil)))
def fn_less_by : FN := fnB 3 2 m_less_by
theorem d_less_by : FnG prog w K mg base 1 T.less_by.a T.less_by.f ps_less_by (spI fn_less_by) := fn_I T.less_by.t sc_less_by fun C cdv A outer s H E hgd hr => by
  have nd := sc_less_by.nd
  have hu := hu_room hr
  exact (ys_one (ys_ret (yb_tuple rfl T.b.b_tuple (ya_cons (ye_lc (own := [("house", 2)]) rfl nd (yi_seq (ye_var (pv 0))) (blkOk_by (N := N_less_by) (sc := defScope (topS 43)) (by decide +kernel)) (fun _ _ _ _ _ => (yg_name (pg_name (i := 2) nd rfl (by first | exact .inl rfl | exact .inr rfl)) (by decide))) (fun _ _ _ _ _ => (yts_one (yq_nin hu (ye_var (pv 2)) (ye_var (pv 1))))) (fun _ _ _ _ _ => (ye_var (pv 2)))) ya_nil))))
/-! least_of -/
def N_least_of : List Str := ["sets", "some", "found", "one", "late"]
def ps_least_of : List Str := ["sets"]
theorem sc_least_of : FnScope N_least_of ps_least_of (defScope (topS 44)) := ⟨by rfl, by rfl, by rfl, by decide, by rfl, by decide +kernel, by decide +kernel⟩
def m_least_of : MS := (sSeq (sSet 1 (m1 gSortSet (mVar 0))) (sSeq (sSet 2 (mLc [3] (mIt (mVar 1)) (gSet 3) (tNo (mT (mArgs gAny (mCons (mLc [4] (mIt (mVar 1)) (gSet 4) mYes (bOne (mAnd (m2 gNe (mVar 4) (mVar 3)) ((mCall fn_is_within (mCons (mVar 4) (mCons (mVar 3) mNil))))))) mNil)))) (bOne (mVar 3)))) (sRet (mArgs gTuple (mCons (mVar 2) mNil)))))
def fn_least_of : FN := fnB 5 1 m_least_of
theorem d_least_of : FnG prog w K mg base 2 T.least_of.a T.least_of.f ps_least_of (spI fn_least_of) := fn_I T.least_of.t sc_least_of fun C cdv A outer s H E hgd hr => by
  have nd := sc_least_of.nd
  have hu := hu_room hr
  exact (ys_cons (ys_set (i := 1) nd rfl (by first | exact .inl rfl | exact .inr rfl) (ye_sortSet (ye_var (pv 0)) rfl hu rfl T.b.b_sorted rfl T.b.b_set)) (ys_cons (by first | exact ys_setLc (own := [("one", 3)]) (i := 2) rfl nd rfl rfl (sw_true rfl rfl rfl rfl) (yi_seq (ye_var (pv 1))) (blkOk_by (N := N_least_of) (sc := defScope (topS 44)) (by decide +kernel)) (fun _ _ _ _ _ => (yg_name (pg_name (i := 3) nd rfl (by first | exact .inl rfl | exact .inr rfl)) (by decide))) (fun _ _ _ _ _ => (yts_one (yt_not (yt_of (yb_any rfl rfl T.b.b_any (ya_cons (ye_lc (own := [("late", 4)]) rfl nd (yi_seq (ye_var (pv 1))) (blkOk_by (by kernel_rfl)) (fun _ _ _ _ _ => (yg_name (pg_name (i := 4) nd rfl (by first | exact .inl rfl | exact .inr rfl)) (by decide))) (fun _ _ _ _ _ => yts_nil) (fun _ _ _ _ _ => (ye_and (yc_ne hu (ye_var (pv 4)) (ye_var (pv 3))) (ye_one (ye_call ((d_is_within T).mono (by decide)) hgd hr rfl T.is_within.m T.is_within.k T.is_within.n (ya_cons (ye_var (pv 4)) (ya_cons (ye_var (pv 3)) ya_nil))))))) ya_nil)))))) (fun _ _ _ _ _ => (ye_var (pv 3))) | exact ys_set (i := 2) nd rfl (by first | exact .inl rfl | exact .inr rfl) (ye_lc (own := [("one", 3)]) rfl nd (yi_seq (ye_var (pv 1))) (blkOk_by (N := N_least_of) (sc := defScope (topS 44)) (by decide +kernel)) (fun _ _ _ _ _ => (yg_name (pg_name (i := 3) nd rfl (by first | exact .inl rfl | exact .inr rfl)) (by decide))) (fun _ _ _ _ _ => (yts_one (yt_not (yt_of (yb_any rfl rfl T.b.b_any (ya_cons (ye_lc (own := [("late", 4)]) rfl nd (yi_seq (ye_var (pv 1))) (blkOk_by (by kernel_rfl)) (fun _ _ _ _ _ => (yg_name (pg_name (i := 4) nd rfl (by first | exact .inl rfl | exact .inr rfl)) (by decide))) (fun _ _ _ _ _ => yts_nil) (fun _ _ _ _ _ => (ye_and (yc_ne hu (ye_var (pv 4)) (ye_var (pv 3))) (ye_one (ye_call ((d_is_within T).mono (by decide)) hgd hr rfl T.is_within.m T.is_within.k T.is_within.n (ya_cons (ye_var (pv 4)) (ya_cons (ye_var (pv 3)) ya_nil))))))) ya_nil)))))) (fun _ _ _ _ _ => (ye_var (pv 3))))) (ys_one (ys_ret (yb_tuple rfl T.b.b_tuple (ya_cons (ye_var (pv 2)) ya_nil))))))
/-! greatest_of -/
def N_greatest_of : List Str := ["sets", "some", "found", "one", "late"]
def ps_greatest_of : List Str := ["sets"]
theorem sc_greatest_of : FnScope N_greatest_of ps_greatest_of (defScope (topS 45)) := ⟨by rfl, by rfl, by rfl, by decide, by rfl, by decide +kernel, by decide +kernel⟩
def m_greatest_of : MS := (sSeq (sSet 1 (m1 gSortSet (mVar 0))) (sSeq (sSet 2 (mLc [3] (mIt (mVar 1)) (gSet 3) (tNo (mT (mArgs gAny (mCons (mLc [4] (mIt (mVar 1)) (gSet 4) mYes (bOne (mAnd (m2 gNe (mVar 4) (mVar 3)) ((mCall fn_is_within (mCons (mVar 3) (mCons (mVar 4) mNil))))))) mNil)))) (bOne (mVar 3)))) (sRet (mArgs gTuple (mCons (mVar 2) mNil)))))
def fn_greatest_of : FN := fnB 5 1 m_greatest_of
theorem d_greatest_of : FnG prog w K mg base 2 T.greatest_of.a T.greatest_of.f ps_greatest_of (spI fn_greatest_of) := fn_I T.greatest_of.t sc_greatest_of fun C cdv A outer s H E hgd hr => by
  have nd := sc_greatest_of.nd
  have hu := hu_room hr
  exact (ys_cons (ys_set (i := 1) nd rfl (by first | exact .inl rfl | exact .inr rfl) (ye_sortSet (ye_var (pv 0)) rfl hu rfl T.b.b_sorted rfl T.b.b_set)) (ys_cons (by first | exact ys_setLc (own := [("one", 3)]) (i := 2) rfl nd rfl rfl (sw_true rfl rfl rfl rfl) (yi_seq (ye_var (pv 1))) (blkOk_by (N := N_greatest_of) (sc := defScope (topS 45)) (by decide +kernel)) (fun _ _ _ _ _ => (yg_name (pg_name (i := 3) nd rfl (by first | exact .inl rfl | exact .inr rfl)) (by decide))) (fun _ _ _ _ _ => (yts_one (yt_not (yt_of (yb_any rfl rfl T.b.b_any (ya_cons (ye_lc (own := [("late", 4)]) rfl nd (yi_seq (ye_var (pv 1))) (blkOk_by (by kernel_rfl)) (fun _ _ _ _ _ => (yg_name (pg_name (i := 4) nd rfl (by first | exact .inl rfl | exact .inr rfl)) (by decide))) (fun _ _ _ _ _ => yts_nil) (fun _ _ _ _ _ => (ye_and (yc_ne hu (ye_var (pv 4)) (ye_var (pv 3))) (ye_one (ye_call ((d_is_within T).mono (by decide)) hgd hr rfl T.is_within.m T.is_within.k T.is_within.n (ya_cons (ye_var (pv 3)) (ya_cons (ye_var (pv 4)) ya_nil))))))) ya_nil)))))) (fun _ _ _ _ _ => (ye_var (pv 3))) | exact ys_set (i := 2) nd rfl (by first | exact .inl rfl | exact .inr rfl) (ye_lc (own := [("one", 3)]) rfl nd (yi_seq (ye_var (pv 1))) (blkOk_by (N := N_greatest_of) (sc := defScope (topS 45)) (by decide +kernel)) (fun _ _ _ _ _ => (yg_name (pg_name (i := 3) nd rfl (by first | exact .inl rfl | exact .inr rfl)) (by decide))) (fun _ _ _ _ _ => (yts_one (yt_not (yt_of (yb_any rfl rfl T.b.b_any (ya_cons (ye_lc (own := [("late", 4)]) rfl nd (yi_seq (ye_var (pv 1))) (blkOk_by (by kernel_rfl)) (fun _ _ _ _ _ => (yg_name (pg_name (i := 4) nd rfl (by first | exact .inl rfl | exact .inr rfl)) (by decide))) (fun _ _ _ _ _ => yts_nil) (fun _ _ _ _ _ => (ye_and (yc_ne hu (ye_var (pv 4)) (ye_var (pv 3))) (ye_one (ye_call ((d_is_within T).mono (by decide)) hgd hr rfl T.is_within.m T.is_within.k T.is_within.n (ya_cons (ye_var (pv 3)) (ya_cons (ye_var (pv 4)) ya_nil))))))) ya_nil)))))) (fun _ _ _ _ _ => (ye_var (pv 3))))) (ys_one (ys_ret (yb_tuple rfl T.b.b_tuple (ya_cons (ye_var (pv 2)) ya_nil))))))
/-! falls_by -/
def N_falls_by : List Str := ["trust", "house", "other", "found", "one", "late"]
def ps_falls_by : List Str := ["trust", "house", "other"]
theorem sc_falls_by : FnScope N_falls_by ps_falls_by (defScope (topS 46)) := ⟨by rfl, by rfl, by rfl, by decide, by rfl, by decide +kernel, by decide +kernel⟩
def m_falls_by : MS := (sSeq (sIf (mT (m2 gEq (mVar 1) (mVar 2))) (sRet (mCall fn_greatest_of (mCons (mCall fn_fears_of (mCons (mVar 0) (mCons (mVar 1) mNil))) mNil))) sNil) (sSeq (sSet 3 (mLc [4, 5] (mIt (mCall fn_fears_of (mCons (mVar 0) (mCons (mVar 1) mNil)))) (gSet 4) mYes (bTwo [5] (mIt (mCall fn_fears_of (mCons (mVar 0) (mCons (mVar 2) mNil)))) (gSet 5) mYes (bOne (mCall fn_joint_in (mCons (mVar 4) (mCons (mVar 5) mNil))))))) (sRet (mCall fn_greatest_of (mCons (mVar 3) mNil)))))
def fn_falls_by : FN := fnB 6 3 m_falls_by
theorem d_falls_by : FnG prog w K mg base 3 T.falls_by.a T.falls_by.f ps_falls_by (spI fn_falls_by) := fn_I T.falls_by.t sc_falls_by fun C cdv A outer s H E hgd hr => by
  have nd := sc_falls_by.nd
  have hu := hu_room hr
  exact (ys_cons (ys_if (yq_eq hu (ye_var (pv 1)) (ye_var (pv 2))) (ys_one (ys_ret (ye_call ((d_greatest_of T).mono (by decide)) hgd hr rfl T.greatest_of.m T.greatest_of.k T.greatest_of.n (ya_cons (ye_call ((d_fears_of T).mono (by decide)) hgd hr rfl T.fears_of.m T.fears_of.k T.fears_of.n (ya_cons (ye_var (pv 0)) (ya_cons (ye_var (pv 1)) ya_nil))) ya_nil)))) ys_nil) (ys_cons (by first | exact ys_setLc2 (own := [("one", 4), ("late", 5)]) (vs1 := [5]) (i := 3) rfl nd rfl rfl (sw_true rfl rfl rfl rfl) (yi_seq (ye_call ((d_fears_of T).mono (by decide)) hgd hr rfl T.fears_of.m T.fears_of.k T.fears_of.n (ya_cons (ye_var (pv 0)) (ya_cons (ye_var (pv 1)) ya_nil)))) (blkOk_by (N := N_falls_by) (sc := defScope (topS 46)) (by decide +kernel)) (by decide) (fun _ _ _ _ _ => (yg_name (pg_name (i := 4) nd rfl (by first | exact .inl rfl | exact .inr rfl)) (by decide))) (fun _ _ _ _ _ => yts_nil) (fun _ _ _ _ _ => (yi_seq (ye_call ((d_fears_of T).mono (by decide)) hgd hr rfl T.fears_of.m T.fears_of.k T.fears_of.n (ya_cons (ye_var (pv 0)) (ya_cons (ye_var (pv 2)) ya_nil))))) (fun _ _ _ _ _ => (yg_name (pg_name (i := 5) nd rfl (by first | exact .inl rfl | exact .inr rfl)) (by decide))) (fun _ _ _ _ _ => yts_nil) (fun _ _ _ _ _ => (ye_call ((d_joint_in T).mono (by decide)) hgd hr rfl T.joint_in.m T.joint_in.k T.joint_in.n (ya_cons (ye_var (pv 4)) (ya_cons (ye_var (pv 5)) ya_nil)))) | exact ys_set (i := 3) nd rfl (by first | exact .inl rfl | exact .inr rfl) (ye_lc2 (own := [("one", 4), ("late", 5)]) (vs1 := [5]) rfl nd (yi_seq (ye_call ((d_fears_of T).mono (by decide)) hgd hr rfl T.fears_of.m T.fears_of.k T.fears_of.n (ya_cons (ye_var (pv 0)) (ya_cons (ye_var (pv 1)) ya_nil)))) (blkOk_by (N := N_falls_by) (sc := defScope (topS 46)) (by decide +kernel)) (by decide) (fun _ _ _ _ _ => (yg_name (pg_name (i := 4) nd rfl (by first | exact .inl rfl | exact .inr rfl)) (by decide))) (fun _ _ _ _ _ => yts_nil) (fun _ _ _ _ _ => (yi_seq (ye_call ((d_fears_of T).mono (by decide)) hgd hr rfl T.fears_of.m T.fears_of.k T.fears_of.n (ya_cons (ye_var (pv 0)) (ya_cons (ye_var (pv 2)) ya_nil))))) (fun _ _ _ _ _ => (yg_name (pg_name (i := 5) nd rfl (by first | exact .inl rfl | exact .inr rfl)) (by decide))) (fun _ _ _ _ _ => yts_nil) (fun _ _ _ _ _ => (ye_call ((d_joint_in T).mono (by decide)) hgd hr rfl T.joint_in.m T.joint_in.k T.joint_in.n (ya_cons (ye_var (pv 4)) (ya_cons (ye_var (pv 5)) ya_nil)))))) (ys_one (ys_ret (ye_call ((d_greatest_of T).mono (by decide)) hgd hr rfl T.greatest_of.m T.greatest_of.k T.greatest_of.n (ya_cons (ye_var (pv 3)) ya_nil))))))
/-! pairs_in -/
def N_pairs_in : List Str := ["trust", "k", "house", "lots", "fears"]
def ps_pairs_in : List Str := ["trust"]
theorem sc_pairs_in : FnScope N_pairs_in ps_pairs_in (defScope (topS 47)) := ⟨by rfl, by rfl, by rfl, by decide, by rfl, by decide +kernel, by decide +kernel⟩
def m_pairs_in : MS := (sRet (mLc [2, 3, 4, 1] (mIt (mVar 0)) (gTupM 3 (gsCons (gSet 2) (gsCons (gSet 3) (gsCons (gSet 4) gsNil)))) mYes (bTwo [1] (mRng (mCons (mArgs gLen (mCons (mVar 3) mNil)) mNil)) (gSet 1) mYes (bOne (mArgs gTupD (mCons (mVar 2) (mCons (mVar 1) mNil)))))))
def fn_pairs_in : FN := fnB 5 1 m_pairs_in
theorem d_pairs_in : FnG prog w K mg base 1 T.pairs_in.a T.pairs_in.f ps_pairs_in (spI fn_pairs_in) := fn_I T.pairs_in.t sc_pairs_in fun C cdv A outer s H E hgd hr => by
  have nd := sc_pairs_in.nd
  have hu := hu_room hr
  exact (ys_one (ys_ret (ye_lc2 (own := [("house", 2), ("lots", 3), ("fears", 4), ("k", 1)]) (vs1 := [1]) rfl nd (yi_seq (ye_var (pv 0))) (blkOk_by (N := N_pairs_in) (sc := defScope (topS 47)) (by decide +kernel)) (by decide) (fun _ _ _ _ _ => (yg_tup rfl (ygs_cons (yg_name (pg_name (i := 2) nd rfl (by first | exact .inl rfl | exact .inr rfl)) (by decide)) (ygs_cons (yg_name (pg_name (i := 3) nd rfl (by first | exact .inl rfl | exact .inr rfl)) (by decide)) (ygs_cons (yg_name (pg_name (i := 4) nd rfl (by first | exact .inl rfl | exact .inr rfl)) (by decide)) ygs_nil))))) (fun _ _ _ _ _ => yts_nil) (fun _ _ _ _ _ => (yi_range rfl T.b.b_range (ya_cons (yb_len rfl T.b.b_len (ya_cons (ye_var (pv 3)) ya_nil)) ya_nil))) (fun _ _ _ _ _ => (yg_name (pg_name (i := 1) nd rfl (by first | exact .inl rfl | exact .inr rfl)) (by decide))) (fun _ _ _ _ _ => yts_nil) (fun _ _ _ _ _ => (ye_tup (ya_cons (ye_var (pv 2)) (ya_cons (ye_var (pv 1)) ya_nil)))))))
/-! lot_at -/
def N_lot_at : List Str := ["trust", "pair"]
def ps_lot_at : List Str := ["trust", "pair"]
theorem sc_lot_at : FnScope N_lot_at ps_lot_at (defScope (topS 48)) := ⟨by rfl, by rfl, by rfl, by decide, by rfl, by decide +kernel, by decide +kernel⟩
def m_lot_at : MS := (sRet (m2 gIx (mCall fn_lots_of (mCons (mVar 0) (mCons (m2 gIx (mVar 1) (mDat (.int 0))) mNil))) (m2 gIx (mVar 1) (mDat (.int 1)))))
def fn_lot_at : FN := fnB 2 2 m_lot_at
theorem d_lot_at : FnG prog w K mg base 2 T.lot_at.a T.lot_at.f ps_lot_at (spI fn_lot_at) := fn_I T.lot_at.t sc_lot_at fun C cdv A outer s H E hgd hr => by
  have nd := sc_lot_at.nd
  have hu := hu_room hr
  exact (ys_one (ys_ret (yo_ix (ye_call ((d_lots_of T).mono (by decide)) hgd hr rfl T.lots_of.m T.lots_of.k T.lots_of.n (ya_cons (ye_var (pv 0)) (ya_cons (yo_ix (ye_var (pv 1)) (ye_int)) ya_nil))) (yo_ix (ye_var (pv 1)) (ye_int)))))
/-! needs_by -/
def N_needs_by : List Str := ["trust", "house", "found", "pair", "fall"]
def ps_needs_by : List Str := ["trust", "house"]
theorem sc_needs_by : FnScope N_needs_by ps_needs_by (defScope (topS 49)) := ⟨by rfl, by rfl, by rfl, by decide, by rfl, by decide +kernel, by decide +kernel⟩
def m_needs_by : MS := (sSeq (sOwnL 2 mNil) (sSeq (sFor (mIt (mCall fn_pairs_in (mCons (mVar 0) mNil))) (gSet 3) (sIf (mT (m2 gNe (m2 gIx (mVar 3) (mDat (.int 0))) (mVar 1))) (sExt 2 (mLc [4] (mIt (mCall fn_falls_by (mCons (mVar 0) (mCons (mVar 1) (mCons (m2 gIx (mVar 3) (mDat (.int 0))) mNil))))) (gSet 4) mYes (bOne (mCall fn_less_by (mCons (mCall fn_lot_at (mCons (mVar 0) (mCons (mVar 3) mNil))) (mCons (mVar 4) mNil)))))) sNil)) (sFrz 2 (sRet (mCall fn_least_of (mCons (mVar 2) mNil))))))
def fn_needs_by : FN := fnB 5 2 m_needs_by
theorem d_needs_by : FnG prog w K mg base 4 T.needs_by.a T.needs_by.f ps_needs_by (spI fn_needs_by) := fn_I T.needs_by.t sc_needs_by fun C cdv A outer s H E hgd hr => by
  have nd := sc_needs_by.nd
  have hu := hu_room hr
  exact (ys_cons (ys_ownL (i := 2) nd rfl (by first | exact .inl rfl | exact .inr rfl) ya_nil) (ys_cons (ys_for (vs := [0, 1, 2, 3, 4]) PassesOwn.never rfl (yi_seq (ye_call ((d_pairs_in T).mono (by decide)) hgd hr rfl T.pairs_in.m T.pairs_in.k T.pairs_in.n (ya_cons (ye_var (pv 0)) ya_nil))) (yg_name (pg_name (i := 3) nd rfl (by first | exact .inl rfl | exact .inr rfl)) (by decide)) (ys_one (ys_if (yq_ne hu (yo_ix (ye_var (pv 3)) (ye_int)) (ye_var (pv 1))) (ys_one (ys_ext (i := 2) (pv 2) (ye_lc (own := [("fall", 4)]) rfl nd (yi_seq (ye_call ((d_falls_by T).mono (by decide)) hgd hr rfl T.falls_by.m T.falls_by.k T.falls_by.n (ya_cons (ye_var (pv 0)) (ya_cons (ye_var (pv 1)) (ya_cons (yo_ix (ye_var (pv 3)) (ye_int)) ya_nil))))) (blkOk_by (N := N_needs_by) (sc := defScope (topS 49)) (by decide +kernel)) (fun _ _ _ _ _ => (yg_name (pg_name (i := 4) nd rfl (by first | exact .inl rfl | exact .inr rfl)) (by decide))) (fun _ _ _ _ _ => yts_nil) (fun _ _ _ _ _ => (ye_call ((d_less_by T).mono (by decide)) hgd hr rfl T.less_by.m T.less_by.k T.less_by.n (ya_cons (ye_call ((d_lot_at T).mono (by decide)) hgd hr rfl T.lot_at.m T.lot_at.k T.lot_at.n (ya_cons (ye_var (pv 0)) (ya_cons (ye_var (pv 3)) ya_nil))) (ya_cons (ye_var (pv 4)) ya_nil))))))) ys_nil))) (ys_one (ys_frz 2 (ys_ret (ye_call ((d_least_of T).mono (by decide)) hgd hr rfl T.least_of.m T.least_of.k T.least_of.n (ya_cons (ye_var (pv 2)) ya_nil)))))))
/-! first_missed_by -/
def N_first_missed_by : List Str := ["needs", "lot", "need"]
def ps_first_missed_by : List Str := ["needs", "lot"]
theorem sc_first_missed_by : FnScope N_first_missed_by ps_first_missed_by (defScope (topS 50)) := ⟨by rfl, by rfl, by rfl, by decide, by rfl, by decide +kernel, by decide +kernel⟩
def m_first_missed_by : MS := (sSeq (sFor (mIt (mVar 0)) (gSet 2) (sIf (mT (m2 gEq (mArgs gLen (mCons (mCall fn_joint_in (mCons (mVar 2) (mCons (mVar 1) mNil))) mNil)) (mDat (.int 0)))) (sRet (mVar 2)) sNil)) (sRet (mDat .none)))
def fn_first_missed_by : FN := fnB 3 2 m_first_missed_by
theorem d_first_missed_by : FnG prog w K mg base 2 T.first_missed_by.a T.first_missed_by.f ps_first_missed_by (spI fn_first_missed_by) := fn_I T.first_missed_by.t sc_first_missed_by fun C cdv A outer s H E hgd hr => by
  have nd := sc_first_missed_by.nd
  have hu := hu_room hr
  exact (ys_cons (ys_for (vs := [0, 1, 2]) PassesOwn.never rfl (yi_seq (ye_var (pv 0))) (yg_name (pg_name (i := 2) nd rfl (by first | exact .inl rfl | exact .inr rfl)) (by decide)) (ys_one (ys_if (yq_eq hu (yb_len rfl T.b.b_len (ya_cons (ye_call ((d_joint_in T).mono (by decide)) hgd hr rfl T.joint_in.m T.joint_in.k T.joint_in.n (ya_cons (ye_var (pv 2)) (ya_cons (ye_var (pv 1)) ya_nil))) ya_nil)) (ye_int)) (ys_one (ys_ret (ye_var (pv 2)))) ys_nil))) (ys_one (ys_ret (ye_non))))
/-! is_met -/
def N_is_met : List Str := ["needs", "lot"]
def ps_is_met : List Str := ["needs", "lot"]
theorem sc_is_met : FnScope N_is_met ps_is_met (defScope (topS 51)) := ⟨by rfl, by rfl, by rfl, by decide, by rfl, by decide +kernel, by decide +kernel⟩
def m_is_met : MS := (sRet (m2 gIsN (mCall fn_first_missed_by (mCons (mVar 0) (mCons (mVar 1) mNil))) (mDat .none)))
def fn_is_met : FN := fnB 2 2 m_is_met
theorem d_is_met : FnG prog w K mg base 3 T.is_met.a T.is_met.f ps_is_met (spI fn_is_met) := fn_I T.is_met.t sc_is_met fun C cdv A outer s H E hgd hr => by
  have nd := sc_is_met.nd
  have hu := hu_room hr
  exact (ys_one (ys_ret (yc_isN (ye_call ((d_first_missed_by T).mono (by decide)) hgd hr rfl T.first_missed_by.m T.first_missed_by.k T.first_missed_by.n (ya_cons (ye_var (pv 0)) (ya_cons (ye_var (pv 1)) ya_nil))) (ye_non))))
/-! crossings_by -/
def N_crossings_by : List Str := ["needs", "found", "need", "late", "lot", "house"]
def ps_crossings_by : List Str := ["needs"]
theorem sc_crossings_by : FnScope N_crossings_by ps_crossings_by (defScope (topS 52)) := ⟨by rfl, by rfl, by rfl, by decide, by rfl, by decide +kernel, by decide +kernel⟩
def m_crossings_by : MS := (sSeq (sSet 1 (mArgs gLstD (mCons (mArgs gTupD mNil) mNil))) (sSeq (sFor (mIt (mVar 0)) (gSet 2) (sSeq (sOwnL 3 mNil) (sSeq (sFor (mIt (mVar 1)) (gSet 4) (sIf (mT (m2 gGtI (mArgs gLen (mCons (mCall fn_joint_in (mCons (mVar 2) (mCons (mVar 4) mNil))) mNil)) (mDat (.int 0)))) (sApp 3 (mVar 4)) (sExt 3 (mLc [5] (mIt (mVar 2)) (gSet 5) mYes (bOne (mArgs gTuple (mCons (mArgs gSortN (mCons (mArgs gLstD (mStar (mVar 4) (mCons (mVar 5) mNil))) mNil)) mNil))))))) (sFrz 3 (sSet 1 (mArgs gList (mCons (mCall fn_least_of (mCons (mVar 3) mNil)) mNil))))))) (sRet (mArgs gTuple (mCons (mVar 1) mNil)))))
def fn_crossings_by : FN := fnB 6 1 m_crossings_by
theorem d_crossings_by : FnG prog w K mg base 3 T.crossings_by.a T.crossings_by.f ps_crossings_by (spI fn_crossings_by) := fn_I T.crossings_by.t sc_crossings_by fun C cdv A outer s H E hgd hr => by
  have nd := sc_crossings_by.nd
  have hu := hu_room hr
  exact (ys_cons (ys_set (i := 1) nd rfl (by first | exact .inl rfl | exact .inr rfl) (ye_lst (ya_cons (ye_tup ya_nil) ya_nil))) (ys_cons (ys_for (vs := [0, 1, 2, 3, 4, 5]) PassesOwn.never rfl (yi_seq (ye_var (pv 0))) (yg_name (pg_name (i := 2) nd rfl (by first | exact .inl rfl | exact .inr rfl)) (by decide)) (ys_cons (ys_ownL (i := 3) nd rfl (by first | exact .inl rfl | exact .inr rfl) ya_nil) (ys_cons (ys_for (vs := [0, 1, 2, 3, 4, 5]) PassesOwn.never rfl (yi_seq (ye_var (pv 1))) (yg_name (pg_name (i := 4) nd rfl (by first | exact .inl rfl | exact .inr rfl)) (by decide)) (ys_one (ys_if (yq_gt (yb_len rfl T.b.b_len (ya_cons (ye_call ((d_joint_in T).mono (by decide)) hgd hr rfl T.joint_in.m T.joint_in.k T.joint_in.n (ya_cons (ye_var (pv 2)) (ya_cons (ye_var (pv 4)) ya_nil))) ya_nil)) (ye_int)) (ys_one (ys_app (i := 3) (pv 3) (ye_var (pv 4)))) (ys_one (ys_ext (i := 3) (pv 3) (ye_lc (own := [("house", 5)]) rfl nd (yi_seq (ye_var (pv 2))) (blkOk_by (N := N_crossings_by) (sc := defScope (topS 52)) (by decide +kernel)) (fun _ _ _ _ _ => (yg_name (pg_name (i := 5) nd rfl (by first | exact .inl rfl | exact .inr rfl)) (by decide))) (fun _ _ _ _ _ => yts_nil) (fun _ _ _ _ _ => (yb_tuple rfl T.b.b_tuple (ya_cons (yb_sortN rfl T.b.b_sorted (ya_cons (ye_lst (ya_star (ye_var (pv 4)) (ya_cons (ye_var (pv 5)) ya_nil))) ya_nil)) ya_nil))))))))) (ys_one (ys_frz 3 (ys_set (i := 1) nd rfl (by first | exact .inl rfl | exact .inr rfl) (yb_list rfl T.b.b_list (ya_cons (ye_call ((d_least_of T).mono (by decide)) hgd hr rfl T.least_of.m T.least_of.k T.least_of.n (ya_cons (ye_var (pv 3)) ya_nil)) ya_nil)))))))) (ys_one (ys_ret (yb_tuple rfl T.b.b_tuple (ya_cons (ye_var (pv 1)) ya_nil))))))
/-! is_house_of -/
def N_is_house_of : List Str := ["trust", "thing"]
def ps_is_house_of : List Str := ["trust", "thing"]
theorem sc_is_house_of : FnScope N_is_house_of ps_is_house_of (defScope (topS 54)) := ⟨by rfl, by rfl, by rfl, by decide, by rfl, by decide +kernel, by decide +kernel⟩
def m_is_house_of : MS := (sRet (mCall fn_is_among (mCons (mVar 1) (mCons (mCall fn_houses_in (mCons (mVar 0) mNil)) mNil))))
def fn_is_house_of : FN := fnB 2 2 m_is_house_of
theorem d_is_house_of : FnG prog w K mg base 2 T.is_house_of.a T.is_house_of.f ps_is_house_of (spI fn_is_house_of) := fn_I T.is_house_of.t sc_is_house_of fun C cdv A outer s H E hgd hr => by
  have nd := sc_is_house_of.nd
  have hu := hu_room hr
  exact (ys_one (ys_ret (ye_call ((d_is_among T).mono (by decide)) hgd hr rfl T.is_among.m T.is_among.k T.is_among.n (ya_cons (ye_var (pv 1)) (ya_cons (ye_call ((d_houses_in T).mono (by decide)) hgd hr rfl T.houses_in.m T.houses_in.k T.houses_in.n (ya_cons (ye_var (pv 0)) ya_nil)) ya_nil)))))
/-! are_houses_of -/
def N_are_houses_of : List Str := ["trust", "thing"]
def ps_are_houses_of : List Str := ["trust", "thing"]
theorem sc_are_houses_of : FnScope N_are_houses_of ps_are_houses_of (defScope (topS 55)) := ⟨by rfl, by rfl, by rfl, by decide, by rfl, by decide +kernel, by decide +kernel⟩
def m_are_houses_of : MS := (sRet (mCall fn_is_names_among (mCons (mVar 1) (mCons (mCall fn_houses_in (mCons (mVar 0) mNil)) mNil))))
def fn_are_houses_of : FN := fnB 2 2 m_are_houses_of
theorem d_are_houses_of : FnG prog w K mg base 4 T.are_houses_of.a T.are_houses_of.f ps_are_houses_of (spI fn_are_houses_of) := fn_I T.are_houses_of.t sc_are_houses_of fun C cdv A outer s H E hgd hr => by
  have nd := sc_are_houses_of.nd
  have hu := hu_room hr
  exact (ys_one (ys_ret (ye_call ((d_is_names_among T).mono (by decide)) hgd hr rfl T.is_names_among.m T.is_names_among.k T.is_names_among.n (ya_cons (ye_var (pv 1)) (ya_cons (ye_call ((d_houses_in T).mono (by decide)) hgd hr rfl T.houses_in.m T.houses_in.k T.houses_in.n (ya_cons (ye_var (pv 0)) ya_nil)) ya_nil)))))
/-! want -/
def N_want : List Str := ["is_fit", "name", "at"]
def ps_want : List Str := ["is_fit", "name", "at"]
theorem sc_want : FnScope N_want ps_want (defScope (topS 61)) := ⟨by rfl, by rfl, by rfl, by decide, by rfl, by decide +kernel, by decide +kernel⟩
def m_want : MS := (sIf (tNo (mT (mVar 0))) (sNo) sNil)
def fn_want : FN := fnB 3 3 m_want
theorem d_want : FnG prog w K mg base 1 T.want.a T.want.f ps_want (spI fn_want) := fn_I T.want.t sc_want fun C cdv A outer s H E hgd hr => by
  have nd := sc_want.nd
  have hu := hu_room hr
  exact (ys_one (ys_if (yt_not (yt_of (ye_var (pv 0)))) (ys_one (ys_never)) ys_nil))
/-! want_age -/
def N_want_age : List Str := ["book", "age"]
def ps_want_age : List Str := ["book", "age"]
theorem sc_want_age : FnScope N_want_age ps_want_age (defScope (topS 63)) := ⟨by rfl, by rfl, by rfl, by decide, by rfl, by decide +kernel, by decide +kernel⟩
def m_want_age : MS := (sDrop (mCallD fn_want [wI (-1)] (mCons (mAnd (mCall fn_is_number (mCons (mVar 1) mNil)) ((mOr (m2 gEq (mVar 1) (mDat (.int 0))) ((m2 gEq (mArgs gLen (mCons (m2 gIx (mVar 0) (mDat (.int 4))) mNil)) (mDat (.int 0))))))) (mCons (mDat (.str "age")) mNil))))
def fn_want_age : FN := fnB 2 2 m_want_age
theorem d_want_age : FnG prog w K mg base 3 T.want_age.a T.want_age.f ps_want_age (spI fn_want_age) := fn_I T.want_age.t sc_want_age fun C cdv A outer s H E hgd hr => by
  have nd := sc_want_age.nd
  have hu := hu_room hr
  exact (ys_one (ys_expr (ye_callD ((d_want T).mono (by decide)) hgd hr rfl T.want.m T.want.k T.want.n T.want.w (fun _ => .cons (Rp.int _) .nil) (ya_cons (ye_and (ye_call ((d_is_number T).mono (by decide)) hgd hr rfl T.is_number.m T.is_number.k T.is_number.n (ya_cons (ye_var (pv 1)) ya_nil)) (ye_one (ye_or (yc_eq hu (ye_var (pv 1)) (ye_int)) (ye_one (yc_eq hu (yb_len rfl T.b.b_len (ya_cons (yo_ix (ye_var (pv 0)) (ye_int)) ya_nil)) (ye_int)))))) (ya_cons (ye_str) ya_nil)))))
/-! want_trust -/
def N_want_trust : List Str := ["trust", "name"]
def ps_want_trust : List Str := ["trust", "name"]
theorem sc_want_trust : FnScope N_want_trust ps_want_trust (defScope (topS 65)) := ⟨by rfl, by rfl, by rfl, by decide, by rfl, by decide +kernel, by decide +kernel⟩
def m_want_trust : MS := (sDrop (mCallD fn_want [wI (-1)] (mCons (mCall fn_is_trust (mCons (mVar 0) mNil)) (mCons (mVar 1) mNil))))
def fn_want_trust : FN := fnB 2 2 m_want_trust
theorem d_want_trust : FnG prog w K mg base 7 T.want_trust.a T.want_trust.f ps_want_trust (spI fn_want_trust) := fn_I T.want_trust.t sc_want_trust fun C cdv A outer s H E hgd hr => by
  have nd := sc_want_trust.nd
  have hu := hu_room hr
  exact (ys_one (ys_expr (ye_callD ((d_want T).mono (by decide)) hgd hr rfl T.want.m T.want.k T.want.n T.want.w (fun _ => .cons (Rp.int _) .nil) (ya_cons (ye_call ((d_is_trust T).mono (by decide)) hgd hr rfl T.is_trust.m T.is_trust.k T.is_trust.n (ya_cons (ye_var (pv 0)) ya_nil)) (ya_cons (ye_var (pv 1)) ya_nil)))))
/-! want_house -/
def N_want_house : List Str := ["trust", "house", "name"]
def ps_want_house : List Str := ["trust", "house", "name"]
theorem sc_want_house : FnScope N_want_house ps_want_house (defScope (topS 66)) := ⟨by rfl, by rfl, by rfl, by decide, by rfl, by decide +kernel, by decide +kernel⟩
def m_want_house : MS := (sDrop (mCallD fn_want [wI (-1)] (mCons (mCall fn_is_house_of (mCons (mVar 0) (mCons (mVar 1) mNil))) (mCons (mVar 2) mNil))))
def fn_want_house : FN := fnB 3 3 m_want_house
theorem d_want_house : FnG prog w K mg base 3 T.want_house.a T.want_house.f ps_want_house (spI fn_want_house) := fn_I T.want_house.t sc_want_house fun C cdv A outer s H E hgd hr => by
  have nd := sc_want_house.nd
  have hu := hu_room hr
  exact (ys_one (ys_expr (ye_callD ((d_want T).mono (by decide)) hgd hr rfl T.want.m T.want.k T.want.n T.want.w (fun _ => .cons (Rp.int _) .nil) (ya_cons (ye_call ((d_is_house_of T).mono (by decide)) hgd hr rfl T.is_house_of.m T.is_house_of.k T.is_house_of.n (ya_cons (ye_var (pv 0)) (ya_cons (ye_var (pv 1)) ya_nil))) (ya_cons (ye_var (pv 2)) ya_nil)))))
/-! want_lot -/
def N_want_lot : List Str := ["trust", "lot", "name"]
def ps_want_lot : List Str := ["trust", "lot", "name"]
theorem sc_want_lot : FnScope N_want_lot ps_want_lot (defScope (topS 67)) := ⟨by rfl, by rfl, by rfl, by decide, by rfl, by decide +kernel, by decide +kernel⟩
def m_want_lot : MS := (sDrop (mCallD fn_want [wI (-1)] (mCons (mCall fn_are_houses_of (mCons (mVar 0) (mCons (mVar 1) mNil))) (mCons (mVar 2) mNil))))
def fn_want_lot : FN := fnB 3 3 m_want_lot
theorem d_want_lot : FnG prog w K mg base 5 T.want_lot.a T.want_lot.f ps_want_lot (spI fn_want_lot) := fn_I T.want_lot.t sc_want_lot fun C cdv A outer s H E hgd hr => by
  have nd := sc_want_lot.nd
  have hu := hu_room hr
  exact (ys_one (ys_expr (ye_callD ((d_want T).mono (by decide)) hgd hr rfl T.want.m T.want.k T.want.n T.want.w (fun _ => .cons (Rp.int _) .nil) (ya_cons (ye_call ((d_are_houses_of T).mono (by decide)) hgd hr rfl T.are_houses_of.m T.are_houses_of.k T.are_houses_of.n (ya_cons (ye_var (pv 0)) (ya_cons (ye_var (pv 1)) ya_nil))) (ya_cons (ye_var (pv 2)) ya_nil)))))
/-! want_trusts -/
def N_want_trusts : List Str := ["trust", "other"]
def ps_want_trusts : List Str := ["trust", "other"]
theorem sc_want_trusts : FnScope N_want_trusts ps_want_trusts (defScope (topS 69)) := ⟨by rfl, by rfl, by rfl, by decide, by rfl, by decide +kernel, by decide +kernel⟩
def m_want_trusts : MS := (sSeq (sDrop (mCallD fn_want_trust [.d (.str "trust")] (mCons (mVar 0) mNil))) (sDrop (mCallD fn_want [wI (-1)] (mCons (mAnd (mCall fn_is_trust (mCons (mVar 1) mNil)) ((m2 gEq (mCall fn_houses_in (mCons (mVar 0) mNil)) (mCall fn_houses_in (mCons (mVar 1) mNil))))) (mCons (mDat (.str "other")) mNil)))))
def fn_want_trusts : FN := fnB 2 2 m_want_trusts
theorem d_want_trusts : FnG prog w K mg base 8 T.want_trusts.a T.want_trusts.f ps_want_trusts (spI fn_want_trusts) := fn_I T.want_trusts.t sc_want_trusts fun C cdv A outer s H E hgd hr => by
  have nd := sc_want_trusts.nd
  have hu := hu_room hr
  exact (ys_cons (ys_expr (ye_callD ((d_want_trust T).mono (by decide)) hgd hr rfl T.want_trust.m T.want_trust.k T.want_trust.n T.want_trust.w (fun _ => .cons (Rp.str _) .nil) (ya_cons (ye_var (pv 0)) ya_nil))) (ys_one (ys_expr (ye_callD ((d_want T).mono (by decide)) hgd hr rfl T.want.m T.want.k T.want.n T.want.w (fun _ => .cons (Rp.int _) .nil) (ya_cons (ye_and (ye_call ((d_is_trust T).mono (by decide)) hgd hr rfl T.is_trust.m T.is_trust.k T.is_trust.n (ya_cons (ye_var (pv 1)) ya_nil)) (ye_one (yc_eq hu (ye_call ((d_houses_in T).mono (by decide)) hgd hr rfl T.houses_in.m T.houses_in.k T.houses_in.n (ya_cons (ye_var (pv 0)) ya_nil)) (ye_call ((d_houses_in T).mono (by decide)) hgd hr rfl T.houses_in.m T.houses_in.k T.houses_in.n (ya_cons (ye_var (pv 1)) ya_nil))))) (ya_cons (ye_str) ya_nil))))))
/-! trusts_alike -/
def N_trusts_alike : List Str := ["trust", "other", "house"]
def ps_trusts_alike : List Str := ["trust", "other"]
theorem sc_trusts_alike : FnScope N_trusts_alike ps_trusts_alike (defScope (topS 70)) := ⟨by rfl, by rfl, by rfl, by decide, by rfl, by decide +kernel, by decide +kernel⟩
def m_trusts_alike : MS := (sSeq (sDrop (mCall fn_want_trusts (mCons (mVar 0) (mCons (mVar 1) mNil)))) (sRet (mArgs gAll (mCons (mLc [2] (mIt (mCall fn_houses_in (mCons (mVar 0) mNil))) (gSet 2) mYes (bOne (m2 gEq (mCall fn_needs_by (mCons (mVar 0) (mCons (mVar 2) mNil))) (mCall fn_needs_by (mCons (mVar 1) (mCons (mVar 2) mNil)))))) mNil))))
def fn_trusts_alike : FN := fnB 3 2 m_trusts_alike
theorem d_trusts_alike : FnG prog w K mg base 9 T.trusts_alike.a T.trusts_alike.f ps_trusts_alike (spI fn_trusts_alike) := fn_I T.trusts_alike.t sc_trusts_alike fun C cdv A outer s H E hgd hr => by
  have nd := sc_trusts_alike.nd
  have hu := hu_room hr
  exact (ys_cons (ys_expr (ye_call ((d_want_trusts T).mono (by decide)) hgd hr rfl T.want_trusts.m T.want_trusts.k T.want_trusts.n (ya_cons (ye_var (pv 0)) (ya_cons (ye_var (pv 1)) ya_nil)))) (ys_one (ys_ret (yb_all rfl rfl T.b.b_all (ya_cons (ye_lc (own := [("house", 2)]) rfl nd (yi_seq (ye_call ((d_houses_in T).mono (by decide)) hgd hr rfl T.houses_in.m T.houses_in.k T.houses_in.n (ya_cons (ye_var (pv 0)) ya_nil))) (blkOk_by (N := N_trusts_alike) (sc := defScope (topS 70)) (by decide +kernel)) (fun _ _ _ _ _ => (yg_name (pg_name (i := 2) nd rfl (by first | exact .inl rfl | exact .inr rfl)) (by decide))) (fun _ _ _ _ _ => yts_nil) (fun _ _ _ _ _ => (yc_eq hu (ye_call ((d_needs_by T).mono (by decide)) hgd hr rfl T.needs_by.m T.needs_by.k T.needs_by.n (ya_cons (ye_var (pv 0)) (ya_cons (ye_var (pv 2)) ya_nil))) (ye_call ((d_needs_by T).mono (by decide)) hgd hr rfl T.needs_by.m T.needs_by.k T.needs_by.n (ya_cons (ye_var (pv 1)) (ya_cons (ye_var (pv 2)) ya_nil)))))) ya_nil)))))
/-! parting_lot -/
def N_parting_lot : List Str := ["trust", "other", "house", "lot", "needs", "late"]
def ps_parting_lot : List Str := ["trust", "other"]
theorem sc_parting_lot : FnScope N_parting_lot ps_parting_lot (defScope (topS 71)) := ⟨by rfl, by rfl, by rfl, by decide, by rfl, by decide +kernel, by decide +kernel⟩
def m_parting_lot : MS := (sSeq (sDrop (mCall fn_want_trusts (mCons (mVar 0) (mCons (mVar 1) mNil)))) (sSeq (sFor (mIt (mCall fn_houses_in (mCons (mVar 0) mNil))) (gSet 2) (sSeq (sPar 4 5 (mCall fn_needs_by (mCons (mVar 0) (mCons (mVar 2) mNil))) (mCall fn_needs_by (mCons (mVar 1) (mCons (mVar 2) mNil)))) (sFor (mIt (mArgs gLstD (mStar (mCall fn_crossings_by (mCons (mVar 4) mNil)) (mStar (mCall fn_crossings_by (mCons (mVar 5) mNil)) mNil)))) (gSet 3) (sIf (mT (m2 gNe (mCall fn_is_met (mCons (mVar 4) (mCons (mVar 3) mNil))) (mCall fn_is_met (mCons (mVar 5) (mCons (mVar 3) mNil))))) (sRet (mArgs gTupD (mCons (mVar 2) (mCons (mVar 3) mNil)))) sNil)))) (sRet (mDat .none))))
def fn_parting_lot : FN := fnB 6 2 m_parting_lot
theorem d_parting_lot : FnG prog w K mg base 9 T.parting_lot.a T.parting_lot.f ps_parting_lot (spI fn_parting_lot) := fn_I T.parting_lot.t sc_parting_lot fun C cdv A outer s H E hgd hr => by
  have nd := sc_parting_lot.nd
  have hu := hu_room hr
  exact (ys_cons (ys_expr (ye_call ((d_want_trusts T).mono (by decide)) hgd hr rfl T.want_trusts.m T.want_trusts.k T.want_trusts.n (ya_cons (ye_var (pv 0)) (ya_cons (ye_var (pv 1)) ya_nil)))) (ys_cons (ys_for (vs := [0, 1, 2, 3, 4, 5]) PassesOwn.never rfl (yi_seq (ye_call ((d_houses_in T).mono (by decide)) hgd hr rfl T.houses_in.m T.houses_in.k T.houses_in.n (ya_cons (ye_var (pv 0)) ya_nil))) (yg_name (pg_name (i := 2) nd rfl (by first | exact .inl rfl | exact .inr rfl)) (by decide)) (ys_cons (ys_par (i := 4) (j := 5) rfl nd rfl rfl (by decide) rfl rfl (ye_call ((d_needs_by T).mono (by decide)) hgd hr rfl T.needs_by.m T.needs_by.k T.needs_by.n (ya_cons (ye_var (pv 0)) (ya_cons (ye_var (pv 2)) ya_nil))) (ye_call ((d_needs_by T).mono (by decide)) hgd hr rfl T.needs_by.m T.needs_by.k T.needs_by.n (ya_cons (ye_var (pv 1)) (ya_cons (ye_var (pv 2)) ya_nil))) rfl) (ys_one (ys_for (vs := [0, 1, 2, 3, 4, 5]) PassesOwn.never rfl (yi_seq (ye_lst (ya_star (ye_call ((d_crossings_by T).mono (by decide)) hgd hr rfl T.crossings_by.m T.crossings_by.k T.crossings_by.n (ya_cons (ye_var (pv 4)) ya_nil)) (ya_star (ye_call ((d_crossings_by T).mono (by decide)) hgd hr rfl T.crossings_by.m T.crossings_by.k T.crossings_by.n (ya_cons (ye_var (pv 5)) ya_nil)) ya_nil)))) (yg_name (pg_name (i := 3) nd rfl (by first | exact .inl rfl | exact .inr rfl)) (by decide)) (ys_one (ys_if (yq_ne hu (ye_call ((d_is_met T).mono (by decide)) hgd hr rfl T.is_met.m T.is_met.k T.is_met.n (ya_cons (ye_var (pv 4)) (ya_cons (ye_var (pv 3)) ya_nil))) (ye_call ((d_is_met T).mono (by decide)) hgd hr rfl T.is_met.m T.is_met.k T.is_met.n (ya_cons (ye_var (pv 5)) (ya_cons (ye_var (pv 3)) ya_nil)))) (ys_one (ys_ret (ye_tup (ya_cons (ye_var (pv 2)) (ya_cons (ye_var (pv 3)) ya_nil))))) ys_nil)))))) (ys_one (ys_ret (ye_non)))))
/-! needs_of -/
def N_needs_of : List Str := ["trust", "house"]
def ps_needs_of : List Str := ["trust", "house"]
theorem sc_needs_of : FnScope N_needs_of ps_needs_of (defScope (topS 73)) := ⟨by rfl, by rfl, by rfl, by decide, by rfl, by decide +kernel, by decide +kernel⟩
def m_needs_of : MS := (sSeq (sDrop (mCallD fn_want_trust [.d (.str "trust")] (mCons (mVar 0) mNil))) (sSeq (sDrop (mCallD fn_want_house [.d (.str "house")] (mCons (mVar 0) (mCons (mVar 1) mNil)))) (sRet (mCall fn_needs_by (mCons (mVar 0) (mCons (mVar 1) mNil))))))
def fn_needs_of : FN := fnB 2 2 m_needs_of
theorem d_needs_of : FnG prog w K mg base 8 T.needs_of.a T.needs_of.f ps_needs_of (spI fn_needs_of) := fn_I T.needs_of.t sc_needs_of fun C cdv A outer s H E hgd hr => by
  have nd := sc_needs_of.nd
  have hu := hu_room hr
  exact (ys_cons (ys_expr (ye_callD ((d_want_trust T).mono (by decide)) hgd hr rfl T.want_trust.m T.want_trust.k T.want_trust.n T.want_trust.w (fun _ => .cons (Rp.str _) .nil) (ya_cons (ye_var (pv 0)) ya_nil))) (ys_cons (ys_expr (ye_callD ((d_want_house T).mono (by decide)) hgd hr rfl T.want_house.m T.want_house.k T.want_house.n T.want_house.w (fun _ => .cons (Rp.str _) .nil) (ya_cons (ye_var (pv 0)) (ya_cons (ye_var (pv 1)) ya_nil)))) (ys_one (ys_ret (ye_call ((d_needs_by T).mono (by decide)) hgd hr rfl T.needs_by.m T.needs_by.k T.needs_by.n (ya_cons (ye_var (pv 0)) (ya_cons (ye_var (pv 1)) ya_nil)))))))
/-! meets_needs -/
def N_meets_needs : List Str := ["trust", "house", "lot"]
def ps_meets_needs : List Str := ["trust", "house", "lot"]
theorem sc_meets_needs : FnScope N_meets_needs ps_meets_needs (defScope (topS 74)) := ⟨by rfl, by rfl, by rfl, by decide, by rfl, by decide +kernel, by decide +kernel⟩
def m_meets_needs : MS := (sSeq (sDrop (mCallD fn_want_trust [.d (.str "trust")] (mCons (mVar 0) mNil))) (sSeq (sDrop (mCallD fn_want_house [.d (.str "house")] (mCons (mVar 0) (mCons (mVar 1) mNil)))) (sSeq (sDrop (mCallD fn_want_lot [.d (.str "lot")] (mCons (mVar 0) (mCons (mVar 2) mNil)))) (sRet (mCall fn_is_met (mCons (mCall fn_needs_by (mCons (mVar 0) (mCons (mVar 1) mNil))) (mCons (mVar 2) mNil)))))))
def fn_meets_needs : FN := fnB 3 3 m_meets_needs
theorem d_meets_needs : FnG prog w K mg base 8 T.meets_needs.a T.meets_needs.f ps_meets_needs (spI fn_meets_needs) := fn_I T.meets_needs.t sc_meets_needs fun C cdv A outer s H E hgd hr => by
  have nd := sc_meets_needs.nd
  have hu := hu_room hr
  exact (ys_cons (ys_expr (ye_callD ((d_want_trust T).mono (by decide)) hgd hr rfl T.want_trust.m T.want_trust.k T.want_trust.n T.want_trust.w (fun _ => .cons (Rp.str _) .nil) (ya_cons (ye_var (pv 0)) ya_nil))) (ys_cons (ys_expr (ye_callD ((d_want_house T).mono (by decide)) hgd hr rfl T.want_house.m T.want_house.k T.want_house.n T.want_house.w (fun _ => .cons (Rp.str _) .nil) (ya_cons (ye_var (pv 0)) (ya_cons (ye_var (pv 1)) ya_nil)))) (ys_cons (ys_expr (ye_callD ((d_want_lot T).mono (by decide)) hgd hr rfl T.want_lot.m T.want_lot.k T.want_lot.n T.want_lot.w (fun _ => .cons (Rp.str _) .nil) (ya_cons (ye_var (pv 0)) (ya_cons (ye_var (pv 2)) ya_nil)))) (ys_one (ys_ret (ye_call ((d_is_met T).mono (by decide)) hgd hr rfl T.is_met.m T.is_met.k T.is_met.n (ya_cons (ye_call ((d_needs_by T).mono (by decide)) hgd hr rfl T.needs_by.m T.needs_by.k T.needs_by.n (ya_cons (ye_var (pv 0)) (ya_cons (ye_var (pv 1)) ya_nil))) (ya_cons (ye_var (pv 2)) ya_nil))))))))
/-! least_lots -/
def N_least_lots : List Str := ["trust", "house"]
def ps_least_lots : List Str := ["trust", "house"]
theorem sc_least_lots : FnScope N_least_lots ps_least_lots (defScope (topS 75)) := ⟨by rfl, by rfl, by rfl, by decide, by rfl, by decide +kernel, by decide +kernel⟩
def m_least_lots : MS := (sSeq (sDrop (mCallD fn_want_trust [.d (.str "trust")] (mCons (mVar 0) mNil))) (sSeq (sDrop (mCallD fn_want_house [.d (.str "house")] (mCons (mVar 0) (mCons (mVar 1) mNil)))) (sRet (mCall fn_crossings_by (mCons (mCall fn_needs_by (mCons (mVar 0) (mCons (mVar 1) mNil))) mNil)))))
def fn_least_lots : FN := fnB 2 2 m_least_lots
theorem d_least_lots : FnG prog w K mg base 8 T.least_lots.a T.least_lots.f ps_least_lots (spI fn_least_lots) := fn_I T.least_lots.t sc_least_lots fun C cdv A outer s H E hgd hr => by
  have nd := sc_least_lots.nd
  have hu := hu_room hr
  exact (ys_cons (ys_expr (ye_callD ((d_want_trust T).mono (by decide)) hgd hr rfl T.want_trust.m T.want_trust.k T.want_trust.n T.want_trust.w (fun _ => .cons (Rp.str _) .nil) (ya_cons (ye_var (pv 0)) ya_nil))) (ys_cons (ys_expr (ye_callD ((d_want_house T).mono (by decide)) hgd hr rfl T.want_house.m T.want_house.k T.want_house.n T.want_house.w (fun _ => .cons (Rp.str _) .nil) (ya_cons (ye_var (pv 0)) (ya_cons (ye_var (pv 1)) ya_nil)))) (ys_one (ys_ret (ye_call ((d_crossings_by T).mono (by decide)) hgd hr rfl T.crossings_by.m T.crossings_by.k T.crossings_by.n (ya_cons (ye_call ((d_needs_by T).mono (by decide)) hgd hr rfl T.needs_by.m T.needs_by.k T.needs_by.n (ya_cons (ye_var (pv 0)) (ya_cons (ye_var (pv 1)) ya_nil))) ya_nil))))))
/-! answer_in -/
def N_answer_in : List Str := ["machine", "state", "look"]
def ps_answer_in : List Str := ["machine", "state", "look"]
theorem sc_answer_in : FnScope N_answer_in ps_answer_in (defScope (topS 82)) := ⟨by rfl, by rfl, by rfl, by decide, by rfl, by decide +kernel, by decide +kernel⟩
def m_answer_in : MS := (sRet (m2 gIx (m2 gIx (m2 gIx (mVar 0) (mDat (.int 3))) (mVar 1)) (m2 gTix (mVar 0) (mVar 2))))
def fn_answer_in : FN := fnB 3 3 m_answer_in
theorem d_answer_in : FnG prog w K mg base 1 T.answer_in.a T.answer_in.f ps_answer_in (spI fn_answer_in) := fn_I T.answer_in.t sc_answer_in fun C cdv A outer s H E hgd hr => by
  have nd := sc_answer_in.nd
  have hu := hu_room hr
  exact (ys_one (ys_ret (yo_ix (yo_ix (yo_ix (ye_var (pv 0)) (ye_int)) (ye_var (pv 1))) (ye_tix ix_seq (ye_var (pv 0)) (ye_var (pv 2)) (by intro _ _; rfl)))))
/-! kept_within -/
def N_kept_within : List Str := ["machine", "some", "late", "state", "goal"]
def ps_kept_within : List Str := ["machine", "some", "late"]
theorem sc_kept_within : FnScope N_kept_within ps_kept_within (defScope (topS 88)) := ⟨by rfl, by rfl, by rfl, by decide, by rfl, by decide +kernel, by decide +kernel⟩
def m_kept_within : MS := (sRet (mLc [3] (mIt (mVar 1)) (gSet 3) (mT (mArgs gAny (mCons (mLc [4] (mIt (m2 gIx (m2 gIx (mVar 0) (mDat (.int 2))) (mVar 3))) (gSet 4) mYes (bOne (m2 gIn (mVar 4) (mVar 2)))) mNil))) (bOne (mVar 3))))
def fn_kept_within : FN := fnB 5 3 m_kept_within
theorem d_kept_within : FnG prog w K mg base 1 T.kept_within.a T.kept_within.f ps_kept_within (spI fn_kept_within) := fn_I T.kept_within.t sc_kept_within fun C cdv A outer s H E hgd hr => by
  have nd := sc_kept_within.nd
  have hu := hu_room hr
  exact (ys_one (ys_ret (ye_lc (own := [("state", 3)]) rfl nd (yi_seq (ye_var (pv 1))) (blkOk_by (N := N_kept_within) (sc := defScope (topS 88)) (by decide +kernel)) (fun _ _ _ _ _ => (yg_name (pg_name (i := 3) nd rfl (by first | exact .inl rfl | exact .inr rfl)) (by decide))) (fun _ _ _ _ _ => (yts_one (yt_of (yb_any rfl rfl T.b.b_any (ya_cons (ye_lc (own := [("goal", 4)]) rfl nd (yi_seq (yo_ix (yo_ix (ye_var (pv 0)) (ye_int)) (ye_var (pv 3)))) (blkOk_by (by kernel_rfl)) (fun _ _ _ _ _ => (yg_name (pg_name (i := 4) nd rfl (by first | exact .inl rfl | exact .inr rfl)) (by decide))) (fun _ _ _ _ _ => yts_nil) (fun _ _ _ _ _ => (yc_in hu (ye_var (pv 4)) (ye_var (pv 2))))) ya_nil))))) (fun _ _ _ _ _ => (ye_var (pv 3))))))
/-! lasting_in -/
def N_lasting_in : List Str := ["book", "rule", "house", "looks", "lot", "end", "promises", "promise"]
def ps_lasting_in : List Str := ["book", "rule"]
theorem sc_lasting_in : FnScope N_lasting_in ps_lasting_in (defScope (topS 93)) := ⟨by rfl, by rfl, by rfl, by decide, by rfl, by decide +kernel, by decide +kernel⟩
def m_lasting_in : MS := (sSeq (sTup (m2 gIx (m2 gIx (mVar 0) (mDat (.int 3))) (mVar 1)) (gTupM 5 (gsCons (gSet 2) (gsCons (gSet 3) (gsCons (gSet 4) (gsCons (gSet 5) (gsCons (gSet 6) gsNil))))))) (sRet (mArgs gTuple (mCons (mLc [7] (mIt (mVar 6)) (gSet 7) (tNone) (bOne (m2 gIx (mVar 7) (mDat (.int 0))))) mNil))))
def fn_lasting_in : FN := fnB 8 2 m_lasting_in
theorem d_lasting_in : FnG prog w K mg base 1 T.lasting_in.a T.lasting_in.f ps_lasting_in (spI fn_lasting_in) := fn_I T.lasting_in.t sc_lasting_in fun C cdv A outer s H E hgd hr => by
  have nd := sc_lasting_in.nd
  have hu := hu_room hr
  exact (ys_cons (ys_asg (vs := [0, 1, 2, 3, 4, 5, 6, 7]) (yo_ix (yo_ix (ye_var (pv 0)) (ye_int)) (ye_var (pv 1))) (yg_tup rfl (ygs_cons (yg_name (pg_name (i := 2) nd rfl (by first | exact .inl rfl | exact .inr rfl)) (by decide)) (ygs_cons (yg_name (pg_name (i := 3) nd rfl (by first | exact .inl rfl | exact .inr rfl)) (by decide)) (ygs_cons (yg_name (pg_name (i := 4) nd rfl (by first | exact .inl rfl | exact .inr rfl)) (by decide)) (ygs_cons (yg_name (pg_name (i := 5) nd rfl (by first | exact .inl rfl | exact .inr rfl)) (by decide)) (ygs_cons (yg_name (pg_name (i := 6) nd rfl (by first | exact .inl rfl | exact .inr rfl)) (by decide)) ygs_nil))))))) (ys_one (ys_ret (yb_tuple rfl T.b.b_tuple (ya_cons (ye_lc (own := [("promise", 7)]) rfl nd (yi_seq (ye_var (pv 6))) (blkOk_by (N := N_lasting_in) (sc := defScope (topS 93)) (by decide +kernel)) (fun _ _ _ _ _ => (yg_name (pg_name (i := 7) nd rfl (by first | exact .inl rfl | exact .inr rfl)) (by decide))) (fun _ _ _ _ _ => (yts_one (yt_never))) (fun _ _ _ _ _ => (yo_ix (ye_var (pv 7)) (ye_int)))) ya_nil)))))
/-! caught_in -/
def N_caught_in : List Str := ["book", "rule", "need"]
def ps_caught_in : List Str := ["book", "rule", "need"]
theorem sc_caught_in : FnScope N_caught_in ps_caught_in (defScope (topS 94)) := ⟨by rfl, by rfl, by rfl, by decide, by rfl, by decide +kernel, by decide +kernel⟩
def m_caught_in : MS := (sRet (mOr (mCall fn_meets_in (mCons (mVar 2) (mCons (m2 gIx (m2 gIx (m2 gIx (mVar 0) (mDat (.int 3))) (mVar 1)) (mDat (.int 2))) mNil))) ((mCall fn_meets_in (mCons (mVar 2) (mCons (mCall fn_lasting_in (mCons (mVar 0) (mCons (mVar 1) mNil))) mNil))))))
def fn_caught_in : FN := fnB 3 3 m_caught_in
theorem d_caught_in : FnG prog w K mg base 2 T.caught_in.a T.caught_in.f ps_caught_in (spI fn_caught_in) := fn_I T.caught_in.t sc_caught_in fun C cdv A outer s H E hgd hr => by
  have nd := sc_caught_in.nd
  have hu := hu_room hr
  exact (ys_one (ys_ret (ye_or (ye_call ((d_meets_in T).mono (by decide)) hgd hr rfl T.meets_in.m T.meets_in.k T.meets_in.n (ya_cons (ye_var (pv 2)) (ya_cons (yo_ix (yo_ix (yo_ix (ye_var (pv 0)) (ye_int)) (ye_var (pv 1))) (ye_int)) ya_nil))) (ye_one (ye_call ((d_meets_in T).mono (by decide)) hgd hr rfl T.meets_in.m T.meets_in.k T.meets_in.n (ya_cons (ye_var (pv 2)) (ya_cons (ye_call ((d_lasting_in T).mono (by decide)) hgd hr rfl T.lasting_in.m T.lasting_in.k T.lasting_in.n (ya_cons (ye_var (pv 0)) (ya_cons (ye_var (pv 1)) ya_nil))) ya_nil)))))))
/-! _law_same -/
def N_law_same : List Str := ["_law_told", "_law_due"]
def ps_law_same : List Str := ["_law_told", "_law_due"]
theorem sc_law_same : FnScope N_law_same ps_law_same (defScope (topS 104)) := ⟨by rfl, by rfl, by rfl, by decide, by rfl, by decide +kernel, by decide +kernel⟩
def m_law_same : MS := (sRet (m2 gEq (mArgs gRepr (mCons (mVar 0) mNil)) (mArgs gRepr (mCons (mVar 1) mNil))))
def fn_law_same : FN := fnB 2 2 m_law_same
theorem d_law_same : FnG prog w K mg base 1 T.law_same.a T.law_same.f ps_law_same (spI fn_law_same) := fn_I T.law_same.t sc_law_same fun C cdv A outer s H E hgd hr => by
  have nd := sc_law_same.nd
  have hu := hu_room hr
  exact (ys_one (ys_ret (yc_eq hu (yb_repr hgd hu rfl T.b.b_repr (ya_cons (ye_var (pv 0)) ya_nil)) (yb_repr hgd hu rfl T.b.b_repr (ya_cons (ye_var (pv 1)) ya_nil)))))
/-! _law_within -/
def N_law_within : List Str := ["_law_some", "_law_other", "_law_name"]
def ps_law_within : List Str := ["_law_some", "_law_other"]
theorem sc_law_within : FnScope N_law_within ps_law_within (defScope (topS 105)) := ⟨by rfl, by rfl, by rfl, by decide, by rfl, by decide +kernel, by decide +kernel⟩
def m_law_within : MS := (sRet (m2 gEq (mLc [2] (mIt (mVar 0)) (gSet 2) (mT (m2 gNotIn (mVar 2) (mVar 1))) (bOne (mVar 2))) (mArgs gLstD mNil)))
def fn_law_within : FN := fnB 3 2 m_law_within
theorem d_law_within : FnG prog w K mg base 1 T.law_within.a T.law_within.f ps_law_within (spI fn_law_within) := fn_I T.law_within.t sc_law_within fun C cdv A outer s H E hgd hr => by
  have nd := sc_law_within.nd
  have hu := hu_room hr
  exact (ys_one (ys_ret (yc_eq hu (ye_lc (own := [("_law_name", 2)]) rfl nd (yi_seq (ye_var (pv 0))) (blkOk_by (N := N_law_within) (sc := defScope (topS 105)) (by decide +kernel)) (fun _ _ _ _ _ => (yg_name (pg_name (i := 2) nd rfl (by first | exact .inl rfl | exact .inr rfl)) (by decide))) (fun _ _ _ _ _ => (yts_one (yq_nin hu (ye_var (pv 2)) (ye_var (pv 1))))) (fun _ _ _ _ _ => (ye_var (pv 2)))) (ye_lst ya_nil))))
/-! _law_less -/
def N_law_less : List Str := ["_law_some", "_law_other", "_law_name"]
def ps_law_less : List Str := ["_law_some", "_law_other"]
theorem sc_law_less : FnScope N_law_less ps_law_less (defScope (topS 106)) := ⟨by rfl, by rfl, by rfl, by decide, by rfl, by decide +kernel, by decide +kernel⟩
def m_law_less : MS := (sRet (mArgs gTuple (mCons (mLc [2] (mIt (mVar 0)) (gSet 2) (mT (m2 gNotIn (mVar 2) (mVar 1))) (bOne (mVar 2))) mNil)))
def fn_law_less : FN := fnB 3 2 m_law_less
theorem d_law_less : FnG prog w K mg base 1 T.law_less.a T.law_less.f ps_law_less (spI fn_law_less) := fn_I T.law_less.t sc_law_less fun C cdv A outer s H E hgd hr => by
  have nd := sc_law_less.nd
  have hu := hu_room hr
  exact (ys_one (ys_ret (yb_tuple rfl T.b.b_tuple (ya_cons (ye_lc (own := [("_law_name", 2)]) rfl nd (yi_seq (ye_var (pv 0))) (blkOk_by (N := N_law_less) (sc := defScope (topS 106)) (by decide +kernel)) (fun _ _ _ _ _ => (yg_name (pg_name (i := 2) nd rfl (by first | exact .inl rfl | exact .inr rfl)) (by decide))) (fun _ _ _ _ _ => (yts_one (yq_nin hu (ye_var (pv 2)) (ye_var (pv 1))))) (fun _ _ _ _ _ => (ye_var (pv 2)))) ya_nil))))
/-! _law_subsets -/
def N_law_subsets : List Str := ["_law_names", "_law_found", "_law_name", "_law_some"]
def ps_law_subsets : List Str := ["_law_names"]
theorem sc_law_subsets : FnScope N_law_subsets ps_law_subsets (defScope (topS 107)) := ⟨by rfl, by rfl, by rfl, by decide, by rfl, by decide +kernel, by decide +kernel⟩
def m_law_subsets : MS := (sSeq (sSet 1 (mArgs gLstD (mCons (mArgs gTupD mNil) mNil))) (sSeq (sFor (mIt (mVar 0)) (gSet 2) (sSet 1 (m2 gCatL (mVar 1) (mLc [3] (mIt (mVar 1)) (gSet 3) mYes (bOne (m2 gCatT (mVar 3) (mArgs gTupD (mCons (mVar 2) mNil)))))))) (sRet (mVar 1))))
def fn_law_subsets : FN := fnB 4 1 m_law_subsets
theorem d_law_subsets : FnG prog w K mg base 1 T.law_subsets.a T.law_subsets.f ps_law_subsets (spI fn_law_subsets) := fn_I T.law_subsets.t sc_law_subsets fun C cdv A outer s H E hgd hr => by
  have nd := sc_law_subsets.nd
  have hu := hu_room hr
  exact (ys_cons (ys_set (i := 1) nd rfl (by first | exact .inl rfl | exact .inr rfl) (ye_lst (ya_cons (ye_tup ya_nil) ya_nil))) (ys_cons (ys_for (vs := [0, 1, 2, 3]) PassesOwn.never rfl (yi_seq (ye_var (pv 0))) (yg_name (pg_name (i := 2) nd rfl (by first | exact .inl rfl | exact .inr rfl)) (by decide)) (ys_one (ys_set (i := 1) nd rfl (by first | exact .inl rfl | exact .inr rfl) (yo_catL (ye_var (pv 1)) (ye_lc (own := [("_law_some", 3)]) rfl nd (yi_seq (ye_var (pv 1))) (blkOk_by (N := N_law_subsets) (sc := defScope (topS 107)) (by decide +kernel)) (fun _ _ _ _ _ => (yg_name (pg_name (i := 3) nd rfl (by first | exact .inl rfl | exact .inr rfl)) (by decide))) (fun _ _ _ _ _ => yts_nil) (fun _ _ _ _ _ => (yo_catT (ye_var (pv 3)) (ye_tup (ya_cons (ye_var (pv 2)) ya_nil))))))))) (ys_one (ys_ret (ye_var (pv 1))))))
/-! _law_safe -/
def N_law_safe : List Str := ["_law_guild_here", "_law_some", "_law_found", "_law_name", "_law_own", "_law_scares", "_law_one"]
def ps_law_safe : List Str := ["_law_guild_here", "_law_some"]
theorem sc_law_safe : FnScope N_law_safe ps_law_safe (defScope (topS 109)) := ⟨by rfl, by rfl, by rfl, by decide, by rfl, by decide +kernel, by decide +kernel⟩
def m_law_safe : MS := (sSeq (sOwnL 2 mNil) (sSeq (sFor (mIt (mVar 0)) (gTupM 3 (gsCons (gSet 3) (gsCons (gSet 4) (gsCons (gSet 5) gsNil)))) (sIf (tAn (mT (m2 gNotIn (mVar 3) (mVar 1))) ((mT (m2 gNe (mLc [6] (mIt (mVar 5)) (gSet 6) (mT (mCall fn_law_within (mCons (mVar 1) (mCons (mVar 6) mNil)))) (bOne (mVar 6))) (mArgs gLstD mNil))))) (sApp 2 (mVar 3)) sNil)) (sFrz 2 (sRet (mVar 2)))))
def fn_law_safe : FN := fnB 7 2 m_law_safe
theorem d_law_safe : FnG prog w K mg base 2 T.law_safe.a T.law_safe.f ps_law_safe (spI fn_law_safe) := fn_I T.law_safe.t sc_law_safe fun C cdv A outer s H E hgd hr => by
  have nd := sc_law_safe.nd
  have hu := hu_room hr
  exact (ys_cons (ys_ownL (i := 2) nd rfl (by first | exact .inl rfl | exact .inr rfl) ya_nil) (ys_cons (ys_for (vs := [0, 1, 2, 3, 4, 5, 6]) PassesOwn.never rfl (yi_seq (ye_var (pv 0))) (yg_tup rfl (ygs_cons (yg_name (pg_name (i := 3) nd rfl (by first | exact .inl rfl | exact .inr rfl)) (by decide)) (ygs_cons (yg_name (pg_name (i := 4) nd rfl (by first | exact .inl rfl | exact .inr rfl)) (by decide)) (ygs_cons (yg_name (pg_name (i := 5) nd rfl (by first | exact .inl rfl | exact .inr rfl)) (by decide)) ygs_nil)))) (ys_one (ys_if (PW.pt (yw_and (yq_nin hu (ye_var (pv 3)) (ye_var (pv 1))) (yw_and1 (yq_ne hu (ye_lc (own := [("_law_one", 6)]) rfl nd (yi_seq (ye_var (pv 5))) (blkOk_by (N := N_law_safe) (sc := defScope (topS 109)) (by decide +kernel)) (fun _ _ _ _ _ => (yg_name (pg_name (i := 6) nd rfl (by first | exact .inl rfl | exact .inr rfl)) (by decide))) (fun _ _ _ _ _ => (yts_one (yt_of (ye_call ((d_law_within T).mono (by decide)) hgd hr rfl T.law_within.m T.law_within.k T.law_within.n (ya_cons (ye_var (pv 1)) (ya_cons (ye_var (pv 6)) ya_nil)))))) (fun _ _ _ _ _ => (ye_var (pv 6)))) (ye_lst ya_nil))))) (ys_one (ys_app (i := 2) (pv 2) (ye_var (pv 3)))) ys_nil))) (ys_one (ys_frz 2 (ys_ret (ye_var (pv 2)))))))
/-! _law_safes -/
def N_law_safes : List Str := ["_law_guild_here", "_law_names", "_law_found", "_law_one", "_law_some", "_law_pair"]
def ps_law_safes : List Str := ["_law_guild_here"]
theorem sc_law_safes : FnScope N_law_safes ps_law_safes (defScope (topS 110)) := ⟨by rfl, by rfl, by rfl, by decide, by rfl, by decide +kernel, by decide +kernel⟩
def m_law_safes : MS := (sSeq (sSet 1 (mLc [3] (mIt (mVar 0)) (gSet 3) mYes (bOne (m2 gIx (mVar 3) (mDat (.int 0)))))) (sSeq (sSet 2 (mLc [4] (mIt (mCall fn_law_subsets (mCons (mVar 1) mNil))) (gSet 4) mYes (bOne (mArgs gTupD (mCons (mVar 4) (mCons (mCall fn_law_safe (mCons (mVar 0) (mCons (mVar 4) mNil))) mNil)))))) (sRet (mLc [5] (mIt (mVar 2)) (gSet 5) (mT (m2 gNe (m2 gIx (mVar 5) (mDat (.int 1))) (mArgs gLstD mNil))) (bOne (mVar 5))))))
def fn_law_safes : FN := fnB 6 1 m_law_safes
theorem d_law_safes : FnG prog w K mg base 3 T.law_safes.a T.law_safes.f ps_law_safes (spI fn_law_safes) := fn_I T.law_safes.t sc_law_safes fun C cdv A outer s H E hgd hr => by
  have nd := sc_law_safes.nd
  have hu := hu_room hr
  exact (ys_cons (by first | exact ys_setLc (own := [("_law_one", 3)]) (i := 1) rfl nd rfl rfl (sw_true rfl rfl rfl rfl) (yi_seq (ye_var (pv 0))) (blkOk_by (N := N_law_safes) (sc := defScope (topS 110)) (by decide +kernel)) (fun _ _ _ _ _ => (yg_name (pg_name (i := 3) nd rfl (by first | exact .inl rfl | exact .inr rfl)) (by decide))) (fun _ _ _ _ _ => yts_nil) (fun _ _ _ _ _ => (yo_ix (ye_var (pv 3)) (ye_int))) | exact ys_set (i := 1) nd rfl (by first | exact .inl rfl | exact .inr rfl) (ye_lc (own := [("_law_one", 3)]) rfl nd (yi_seq (ye_var (pv 0))) (blkOk_by (N := N_law_safes) (sc := defScope (topS 110)) (by decide +kernel)) (fun _ _ _ _ _ => (yg_name (pg_name (i := 3) nd rfl (by first | exact .inl rfl | exact .inr rfl)) (by decide))) (fun _ _ _ _ _ => yts_nil) (fun _ _ _ _ _ => (yo_ix (ye_var (pv 3)) (ye_int))))) (ys_cons (by first | exact ys_setLc (own := [("_law_some", 4)]) (i := 2) rfl nd rfl rfl (sw_true rfl rfl rfl rfl) (yi_seq (ye_call ((d_law_subsets T).mono (by decide)) hgd hr rfl T.law_subsets.m T.law_subsets.k T.law_subsets.n (ya_cons (ye_var (pv 1)) ya_nil))) (blkOk_by (N := N_law_safes) (sc := defScope (topS 110)) (by decide +kernel)) (fun _ _ _ _ _ => (yg_name (pg_name (i := 4) nd rfl (by first | exact .inl rfl | exact .inr rfl)) (by decide))) (fun _ _ _ _ _ => yts_nil) (fun _ _ _ _ _ => (ye_tup (ya_cons (ye_var (pv 4)) (ya_cons (ye_call ((d_law_safe T).mono (by decide)) hgd hr rfl T.law_safe.m T.law_safe.k T.law_safe.n (ya_cons (ye_var (pv 0)) (ya_cons (ye_var (pv 4)) ya_nil))) ya_nil)))) | exact ys_set (i := 2) nd rfl (by first | exact .inl rfl | exact .inr rfl) (ye_lc (own := [("_law_some", 4)]) rfl nd (yi_seq (ye_call ((d_law_subsets T).mono (by decide)) hgd hr rfl T.law_subsets.m T.law_subsets.k T.law_subsets.n (ya_cons (ye_var (pv 1)) ya_nil))) (blkOk_by (N := N_law_safes) (sc := defScope (topS 110)) (by decide +kernel)) (fun _ _ _ _ _ => (yg_name (pg_name (i := 4) nd rfl (by first | exact .inl rfl | exact .inr rfl)) (by decide))) (fun _ _ _ _ _ => yts_nil) (fun _ _ _ _ _ => (ye_tup (ya_cons (ye_var (pv 4)) (ya_cons (ye_call ((d_law_safe T).mono (by decide)) hgd hr rfl T.law_safe.m T.law_safe.k T.law_safe.n (ya_cons (ye_var (pv 0)) (ya_cons (ye_var (pv 4)) ya_nil))) ya_nil)))))) (ys_one (ys_ret (ye_lc (own := [("_law_pair", 5)]) rfl nd (yi_seq (ye_var (pv 2))) (blkOk_by (N := N_law_safes) (sc := defScope (topS 110)) (by decide +kernel)) (fun _ _ _ _ _ => (yg_name (pg_name (i := 5) nd rfl (by first | exact .inl rfl | exact .inr rfl)) (by decide))) (fun _ _ _ _ _ => (yts_one (yq_ne hu (yo_ix (ye_var (pv 5)) (ye_int)) (ye_lst ya_nil)))) (fun _ _ _ _ _ => (ye_var (pv 5))))))))
/-! _law_minimal -/
def N_law_minimal : List Str := ["_law_sets", "_law_some", "_law_one", "_law_far"]
def ps_law_minimal : List Str := ["_law_sets"]
theorem sc_law_minimal : FnScope N_law_minimal ps_law_minimal (defScope (topS 111)) := ⟨by rfl, by rfl, by rfl, by decide, by rfl, by decide +kernel, by decide +kernel⟩
def m_law_minimal : MS := (sSeq (sSet 1 (m1 gSortSet (mVar 0))) (sRet (mArgs gTuple (mCons (mLc [2] (mIt (mVar 1)) (gSet 2) (mT (m2 gEq (mLc [3] (mIt (mVar 1)) (gSet 3) (tAn (mT (m2 gNe (mVar 3) (mVar 2))) ((mT (mCall fn_law_within (mCons (mVar 3) (mCons (mVar 2) mNil)))))) (bOne (mVar 3))) (mArgs gLstD mNil))) (bOne (mVar 2))) mNil))))
def fn_law_minimal : FN := fnB 4 1 m_law_minimal
theorem d_law_minimal : FnG prog w K mg base 2 T.law_minimal.a T.law_minimal.f ps_law_minimal (spI fn_law_minimal) := fn_I T.law_minimal.t sc_law_minimal fun C cdv A outer s H E hgd hr => by
  have nd := sc_law_minimal.nd
  have hu := hu_room hr
  exact (ys_cons (ys_set (i := 1) nd rfl (by first | exact .inl rfl | exact .inr rfl) (ye_sortSet (ye_var (pv 0)) rfl hu rfl T.b.b_sorted rfl T.b.b_set)) (ys_one (ys_ret (yb_tuple rfl T.b.b_tuple (ya_cons (ye_lc (own := [("_law_one", 2)]) rfl nd (yi_seq (ye_var (pv 1))) (blkOk_by (N := N_law_minimal) (sc := defScope (topS 111)) (by decide +kernel)) (fun _ _ _ _ _ => (yg_name (pg_name (i := 2) nd rfl (by first | exact .inl rfl | exact .inr rfl)) (by decide))) (fun _ _ _ _ _ => (yts_one (yq_eq hu (ye_lc (own := [("_law_far", 3)]) rfl nd (yi_seq (ye_var (pv 1))) (blkOk_by (by kernel_rfl)) (fun _ _ _ _ _ => (yg_name (pg_name (i := 3) nd rfl (by first | exact .inl rfl | exact .inr rfl)) (by decide))) (fun _ _ _ _ _ => (yts_one (PW.pt (yw_and (yq_ne hu (ye_var (pv 3)) (ye_var (pv 2))) (yw_and1 (yt_of (ye_call ((d_law_within T).mono (by decide)) hgd hr rfl T.law_within.m T.law_within.k T.law_within.n (ya_cons (ye_var (pv 3)) (ya_cons (ye_var (pv 2)) ya_nil))))))))) (fun _ _ _ _ _ => (ye_var (pv 3)))) (ye_lst ya_nil)))) (fun _ _ _ _ _ => (ye_var (pv 2)))) ya_nil)))))
/-! _law_needs -/
def N_law_needs : List Str := ["_law_guild_here", "_law_safes_here", "_law_name", "_law_found", "_law_some", "_law_fine", "_law_other", "_law_own", "_law_scares", "_law_one"]
def ps_law_needs : List Str := ["_law_guild_here", "_law_safes_here", "_law_name"]
theorem sc_law_needs : FnScope N_law_needs ps_law_needs (defScope (topS 112)) := ⟨by rfl, by rfl, by rfl, by decide, by rfl, by decide +kernel, by decide +kernel⟩
def m_law_needs : MS := (sSeq (sSet 3 (mArgs gLstD mNil)) (sSeq (sFor (mIt (mVar 1)) (gTupM 2 (gsCons (gSet 4) (gsCons (gSet 5) gsNil))) (sFor (mIt (mVar 0)) (gTupM 3 (gsCons (gSet 6) (gsCons (gSet 7) (gsCons (gSet 8) gsNil)))) (sIf (tAn (mT (m2 gIn (mVar 2) (mVar 5))) (tAn (mT (m2 gIn (mVar 6) (mVar 5))) ((mT (m2 gNe (mVar 6) (mVar 2)))))) (sSet 3 (m2 gCatL (mVar 3) (mLc [9] (mIt (mVar 7)) (gSet 9) mYes (bOne (mCall fn_law_less (mCons (mVar 9) (mCons (mVar 4) mNil))))))) sNil))) (sRet (mCall fn_law_minimal (mCons (mVar 3) mNil)))))
def fn_law_needs : FN := fnB 10 3 m_law_needs
theorem d_law_needs : FnG prog w K mg base 3 T.law_needs.a T.law_needs.f ps_law_needs (spI fn_law_needs) := fn_I T.law_needs.t sc_law_needs fun C cdv A outer s H E hgd hr => by
  have nd := sc_law_needs.nd
  have hu := hu_room hr
  exact (ys_cons (ys_set (i := 3) nd rfl (by first | exact .inl rfl | exact .inr rfl) (ye_lst ya_nil)) (ys_cons (ys_for (vs := [0, 1, 2, 3, 4, 5, 6, 7, 8, 9]) PassesOwn.never rfl (yi_seq (ye_var (pv 1))) (yg_tup rfl (ygs_cons (yg_name (pg_name (i := 4) nd rfl (by first | exact .inl rfl | exact .inr rfl)) (by decide)) (ygs_cons (yg_name (pg_name (i := 5) nd rfl (by first | exact .inl rfl | exact .inr rfl)) (by decide)) ygs_nil))) (ys_one (ys_for (vs := [0, 1, 2, 3, 4, 5, 6, 7, 8, 9]) PassesOwn.never rfl (yi_seq (ye_var (pv 0))) (yg_tup rfl (ygs_cons (yg_name (pg_name (i := 6) nd rfl (by first | exact .inl rfl | exact .inr rfl)) (by decide)) (ygs_cons (yg_name (pg_name (i := 7) nd rfl (by first | exact .inl rfl | exact .inr rfl)) (by decide)) (ygs_cons (yg_name (pg_name (i := 8) nd rfl (by first | exact .inl rfl | exact .inr rfl)) (by decide)) ygs_nil)))) (ys_one (ys_if (PW.pt (yw_and (yq_in hu (ye_var (pv 2)) (ye_var (pv 5))) (yw_and (yq_in hu (ye_var (pv 6)) (ye_var (pv 5))) (yw_and1 (yq_ne hu (ye_var (pv 6)) (ye_var (pv 2))))))) (ys_one (ys_set (i := 3) nd rfl (by first | exact .inl rfl | exact .inr rfl) (yo_catL (ye_var (pv 3)) (ye_lc (own := [("_law_one", 9)]) rfl nd (yi_seq (ye_var (pv 7))) (blkOk_by (N := N_law_needs) (sc := defScope (topS 112)) (by decide +kernel)) (fun _ _ _ _ _ => (yg_name (pg_name (i := 9) nd rfl (by first | exact .inl rfl | exact .inr rfl)) (by decide))) (fun _ _ _ _ _ => yts_nil) (fun _ _ _ _ _ => (ye_call ((d_law_less T).mono (by decide)) hgd hr rfl T.law_less.m T.law_less.k T.law_less.n (ya_cons (ye_var (pv 9)) (ya_cons (ye_var (pv 4)) ya_nil)))))))) ys_nil))))) (ys_one (ys_ret (ye_call ((d_law_minimal T).mono (by decide)) hgd hr rfl T.law_minimal.m T.law_minimal.k T.law_minimal.n (ya_cons (ye_var (pv 3)) ya_nil))))))
/-! _law_meets -/
def N_law_meets : List Str := ["_law_needs_here", "_law_some", "_law_one", "_law_name"]
def ps_law_meets : List Str := ["_law_needs_here", "_law_some"]
theorem sc_law_meets : FnScope N_law_meets ps_law_meets (defScope (topS 113)) := ⟨by rfl, by rfl, by rfl, by decide, by rfl, by decide +kernel, by decide +kernel⟩
def m_law_meets : MS := (sRet (m2 gEq (mLc [2] (mIt (mVar 0)) (gSet 2) (mT (m2 gEq (mLc [3] (mIt (mVar 2)) (gSet 3) (mT (m2 gIn (mVar 3) (mVar 1))) (bOne (mVar 3))) (mArgs gLstD mNil))) (bOne (mVar 2))) (mArgs gLstD mNil)))
def fn_law_meets : FN := fnB 4 2 m_law_meets
theorem d_law_meets : FnG prog w K mg base 1 T.law_meets.a T.law_meets.f ps_law_meets (spI fn_law_meets) := fn_I T.law_meets.t sc_law_meets fun C cdv A outer s H E hgd hr => by
  have nd := sc_law_meets.nd
  have hu := hu_room hr
  exact (ys_one (ys_ret (yc_eq hu (ye_lc (own := [("_law_one", 2)]) rfl nd (yi_seq (ye_var (pv 0))) (blkOk_by (N := N_law_meets) (sc := defScope (topS 113)) (by decide +kernel)) (fun _ _ _ _ _ => (yg_name (pg_name (i := 2) nd rfl (by first | exact .inl rfl | exact .inr rfl)) (by decide))) (fun _ _ _ _ _ => (yts_one (yq_eq hu (ye_lc (own := [("_law_name", 3)]) rfl nd (yi_seq (ye_var (pv 2))) (blkOk_by (by kernel_rfl)) (fun _ _ _ _ _ => (yg_name (pg_name (i := 3) nd rfl (by first | exact .inl rfl | exact .inr rfl)) (by decide))) (fun _ _ _ _ _ => (yts_one (yq_in hu (ye_var (pv 3)) (ye_var (pv 1))))) (fun _ _ _ _ _ => (ye_var (pv 3)))) (ye_lst ya_nil)))) (fun _ _ _ _ _ => (ye_var (pv 2)))) (ye_lst ya_nil))))
/-! _law_crossed -/
def N_law_crossed : List Str := ["_law_sets", "_law_names", "_law_some"]
def ps_law_crossed : List Str := ["_law_sets", "_law_names"]
theorem sc_law_crossed : FnScope N_law_crossed ps_law_crossed (defScope (topS 115)) := ⟨by rfl, by rfl, by rfl, by decide, by rfl, by decide +kernel, by decide +kernel⟩
def m_law_crossed : MS := (sRet (mCall fn_law_minimal (mCons (mLc [2] (mIt (mCall fn_law_subsets (mCons (mVar 1) mNil))) (gSet 2) (mT (mCall fn_law_meets (mCons (mVar 0) (mCons (mVar 2) mNil)))) (bOne (mVar 2))) mNil)))
def fn_law_crossed : FN := fnB 3 2 m_law_crossed
theorem d_law_crossed : FnG prog w K mg base 3 T.law_crossed.a T.law_crossed.f ps_law_crossed (spI fn_law_crossed) := fn_I T.law_crossed.t sc_law_crossed fun C cdv A outer s H E hgd hr => by
  have nd := sc_law_crossed.nd
  have hu := hu_room hr
  exact (ys_one (ys_ret (ye_call ((d_law_minimal T).mono (by decide)) hgd hr rfl T.law_minimal.m T.law_minimal.k T.law_minimal.n (ya_cons (ye_lc (own := [("_law_some", 2)]) rfl nd (yi_seq (ye_call ((d_law_subsets T).mono (by decide)) hgd hr rfl T.law_subsets.m T.law_subsets.k T.law_subsets.n (ya_cons (ye_var (pv 1)) ya_nil))) (blkOk_by (N := N_law_crossed) (sc := defScope (topS 115)) (by decide +kernel)) (fun _ _ _ _ _ => (yg_name (pg_name (i := 2) nd rfl (by first | exact .inl rfl | exact .inr rfl)) (by decide))) (fun _ _ _ _ _ => (yts_one (yt_of (ye_call ((d_law_meets T).mono (by decide)) hgd hr rfl T.law_meets.m T.law_meets.k T.law_meets.n (ya_cons (ye_var (pv 0)) (ya_cons (ye_var (pv 2)) ya_nil)))))) (fun _ _ _ _ _ => (ye_var (pv 2)))) ya_nil))))
/-! _law_thin -/
def N_law_thin : List Str := ["_law_guild_here", "_law_found", "_law_name", "_law_own", "_law_scares", "_law_wide", "_law_one", "_law_far"]
def ps_law_thin : List Str := ["_law_guild_here"]
theorem sc_law_thin : FnScope N_law_thin ps_law_thin (defScope (topS 116)) := ⟨by rfl, by rfl, by rfl, by decide, by rfl, by decide +kernel, by decide +kernel⟩
def m_law_thin : MS := (sSeq (sOwnL 1 mNil) (sSeq (sFor (mIt (mVar 0)) (gTupM 3 (gsCons (gSet 2) (gsCons (gSet 3) (gsCons (gSet 4) gsNil)))) (sSeq (sSet 5 (mLc [6] (mIt (mVar 4)) (gSet 6) (mT (m2 gEq (mLc [7] (mIt (mVar 4)) (gSet 7) (tAn (mT (m2 gNe (mVar 7) (mVar 6))) ((mT (mCall fn_law_within (mCons (mVar 6) (mCons (mVar 7) mNil)))))) (bOne (mVar 7))) (mArgs gLstD mNil))) (bOne (mVar 6)))) (sApp 1 (mArgs gTupD (mCons (mVar 2) (mCons (mCall fn_law_minimal (mCons (mVar 3) mNil)) (mCons (mArgs gTuple (mCons (mVar 5) mNil)) mNil))))))) (sFrz 1 (sRet (mArgs gTuple (mCons (mVar 1) mNil))))))
def fn_law_thin : FN := fnB 8 1 m_law_thin
theorem d_law_thin : FnG prog w K mg base 3 T.law_thin.a T.law_thin.f ps_law_thin (spI fn_law_thin) := fn_I T.law_thin.t sc_law_thin fun C cdv A outer s H E hgd hr => by
  have nd := sc_law_thin.nd
  have hu := hu_room hr
  exact (ys_cons (ys_ownL (i := 1) nd rfl (by first | exact .inl rfl | exact .inr rfl) ya_nil) (ys_cons (ys_for (vs := [0, 1, 2, 3, 4, 5, 6, 7]) PassesOwn.never rfl (yi_seq (ye_var (pv 0))) (yg_tup rfl (ygs_cons (yg_name (pg_name (i := 2) nd rfl (by first | exact .inl rfl | exact .inr rfl)) (by decide)) (ygs_cons (yg_name (pg_name (i := 3) nd rfl (by first | exact .inl rfl | exact .inr rfl)) (by decide)) (ygs_cons (yg_name (pg_name (i := 4) nd rfl (by first | exact .inl rfl | exact .inr rfl)) (by decide)) ygs_nil)))) (ys_cons (by first | exact ys_setLc (own := [("_law_one", 6)]) (i := 5) rfl nd rfl rfl (sw_true rfl rfl rfl rfl) (yi_seq (ye_var (pv 4))) (blkOk_by (N := N_law_thin) (sc := defScope (topS 116)) (by decide +kernel)) (fun _ _ _ _ _ => (yg_name (pg_name (i := 6) nd rfl (by first | exact .inl rfl | exact .inr rfl)) (by decide))) (fun _ _ _ _ _ => (yts_one (yq_eq hu (ye_lc (own := [("_law_far", 7)]) rfl nd (yi_seq (ye_var (pv 4))) (blkOk_by (by kernel_rfl)) (fun _ _ _ _ _ => (yg_name (pg_name (i := 7) nd rfl (by first | exact .inl rfl | exact .inr rfl)) (by decide))) (fun _ _ _ _ _ => (yts_one (PW.pt (yw_and (yq_ne hu (ye_var (pv 7)) (ye_var (pv 6))) (yw_and1 (yt_of (ye_call ((d_law_within T).mono (by decide)) hgd hr rfl T.law_within.m T.law_within.k T.law_within.n (ya_cons (ye_var (pv 6)) (ya_cons (ye_var (pv 7)) ya_nil))))))))) (fun _ _ _ _ _ => (ye_var (pv 7)))) (ye_lst ya_nil)))) (fun _ _ _ _ _ => (ye_var (pv 6))) | exact ys_set (i := 5) nd rfl (by first | exact .inl rfl | exact .inr rfl) (ye_lc (own := [("_law_one", 6)]) rfl nd (yi_seq (ye_var (pv 4))) (blkOk_by (N := N_law_thin) (sc := defScope (topS 116)) (by decide +kernel)) (fun _ _ _ _ _ => (yg_name (pg_name (i := 6) nd rfl (by first | exact .inl rfl | exact .inr rfl)) (by decide))) (fun _ _ _ _ _ => (yts_one (yq_eq hu (ye_lc (own := [("_law_far", 7)]) rfl nd (yi_seq (ye_var (pv 4))) (blkOk_by (by kernel_rfl)) (fun _ _ _ _ _ => (yg_name (pg_name (i := 7) nd rfl (by first | exact .inl rfl | exact .inr rfl)) (by decide))) (fun _ _ _ _ _ => (yts_one (PW.pt (yw_and (yq_ne hu (ye_var (pv 7)) (ye_var (pv 6))) (yw_and1 (yt_of (ye_call ((d_law_within T).mono (by decide)) hgd hr rfl T.law_within.m T.law_within.k T.law_within.n (ya_cons (ye_var (pv 6)) (ya_cons (ye_var (pv 7)) ya_nil))))))))) (fun _ _ _ _ _ => (ye_var (pv 7)))) (ye_lst ya_nil)))) (fun _ _ _ _ _ => (ye_var (pv 6))))) (ys_one (ys_app (i := 1) (pv 1) (ye_tup (ya_cons (ye_var (pv 2)) (ya_cons (ye_call ((d_law_minimal T).mono (by decide)) hgd hr rfl T.law_minimal.m T.law_minimal.k T.law_minimal.n (ya_cons (ye_var (pv 3)) ya_nil)) (ya_cons (yb_tuple rfl T.b.b_tuple (ya_cons (ye_var (pv 5)) ya_nil)) ya_nil)))))))) (ys_one (ys_frz 1 (ys_ret (yb_tuple rfl T.b.b_tuple (ya_cons (ye_var (pv 1)) ya_nil)))))))
/-! _law_is_told_back -/
def N_law_is_told_back : List Str := ["_law_guild_here", "_law_names", "_law_table", "_law_name", "_law_due", "_law_some", "_law_told", "_law_needs_here"]
def ps_law_is_told_back : List Str := ["_law_guild_here", "_law_names", "_law_table"]
theorem sc_law_is_told_back : FnScope N_law_is_told_back ps_law_is_told_back (defScope (topS 118)) := ⟨by rfl, by rfl, by rfl, by decide, by rfl, by decide +kernel, by decide +kernel⟩
def m_law_is_told_back : MS := (sSeq (sFor (mIt (mVar 1)) (gSet 3) (sSeq (sPar 6 7 (mCall fn_least_lots (mCons (mVar 0) (mCons (mVar 3) mNil))) (mCall fn_needs_of (mCons (mVar 0) (mCons (mVar 3) mNil)))) (sSeq (sSet 4 (mArgs gLstD (mCons (m2 gGet (mVar 2) (mVar 3)) (mCons (mCall fn_law_crossed (mCons (mVar 7) (mCons (mVar 1) mNil))) (mCons (mCall fn_law_crossed (mCons (mVar 6) (mCons (mVar 1) mNil))) mNil))))) (sSeq (sIf (tNo (mT (mCall fn_law_same (mCons (mArgs gLstD (mCons (mVar 7) (mCons (mVar 6) (mCons (mVar 7) mNil)))) (mCons (mVar 4) mNil))))) (sRet (mDat (.bool false))) sNil) (sFor (mIt (mVar 6)) (gSet 5) (sIf (tNo (mT (mCall fn_meets_needs (mCons (mVar 0) (mCons (mVar 3) (mCons (mVar 5) mNil)))))) (sRet (mDat (.bool false))) sNil)))))) (sRet (mDat (.bool true))))
def fn_law_is_told_back : FN := fnB 8 3 m_law_is_told_back
theorem d_law_is_told_back : FnG prog w K mg base 9 T.law_is_told_back.a T.law_is_told_back.f ps_law_is_told_back (spI fn_law_is_told_back) := fn_I T.law_is_told_back.t sc_law_is_told_back fun C cdv A outer s H E hgd hr => by
  have nd := sc_law_is_told_back.nd
  have hu := hu_room hr
  exact (ys_cons (ys_for (vs := [0, 1, 2, 3, 4, 5, 6, 7]) PassesOwn.never rfl (yi_seq (ye_var (pv 1))) (yg_name (pg_name (i := 3) nd rfl (by first | exact .inl rfl | exact .inr rfl)) (by decide)) (ys_cons (ys_par (i := 6) (j := 7) rfl nd rfl rfl (by decide) rfl rfl (ye_call ((d_least_lots T).mono (by decide)) hgd hr rfl T.least_lots.m T.least_lots.k T.least_lots.n (ya_cons (ye_var (pv 0)) (ya_cons (ye_var (pv 3)) ya_nil))) (ye_call ((d_needs_of T).mono (by decide)) hgd hr rfl T.needs_of.m T.needs_of.k T.needs_of.n (ya_cons (ye_var (pv 0)) (ya_cons (ye_var (pv 3)) ya_nil))) rfl) (ys_cons (ys_set (i := 4) nd rfl (by first | exact .inl rfl | exact .inr rfl) (ye_lst (ya_cons (yo_get hu (ye_var (pv 2)) (ye_var (pv 3))) (ya_cons (ye_call ((d_law_crossed T).mono (by decide)) hgd hr rfl T.law_crossed.m T.law_crossed.k T.law_crossed.n (ya_cons (ye_var (pv 7)) (ya_cons (ye_var (pv 1)) ya_nil))) (ya_cons (ye_call ((d_law_crossed T).mono (by decide)) hgd hr rfl T.law_crossed.m T.law_crossed.k T.law_crossed.n (ya_cons (ye_var (pv 6)) (ya_cons (ye_var (pv 1)) ya_nil))) ya_nil))))) (ys_cons (ys_if (yt_not (yt_of (ye_call ((d_law_same T).mono (by decide)) hgd hr rfl T.law_same.m T.law_same.k T.law_same.n (ya_cons (ye_lst (ya_cons (ye_var (pv 7)) (ya_cons (ye_var (pv 6)) (ya_cons (ye_var (pv 7)) ya_nil)))) (ya_cons (ye_var (pv 4)) ya_nil))))) (ys_one (ys_ret (ye_bl))) ys_nil) (ys_one (ys_for (vs := [0, 1, 2, 3, 4, 5, 6, 7]) PassesOwn.never rfl (yi_seq (ye_var (pv 6))) (yg_name (pg_name (i := 5) nd rfl (by first | exact .inl rfl | exact .inr rfl)) (by decide)) (ys_one (ys_if (yt_not (yt_of (ye_call ((d_meets_needs T).mono (by decide)) hgd hr rfl T.meets_needs.m T.meets_needs.k T.meets_needs.n (ya_cons (ye_var (pv 0)) (ya_cons (ye_var (pv 3)) (ya_cons (ye_var (pv 5)) ya_nil)))))) (ys_one (ys_ret (ye_bl))) ys_nil)))))))) (ys_one (ys_ret (ye_bl))))
end
end Y
end KG1
section KG2
set_option Elab.async false
set_option linter.all false
set_option maxRecDepth 100000
set_option maxHeartbeats 4000000
/-! The walk, printed by gen.py. -/
namespace Y
open PySem PySem.Spec PyProof.Rows L2
section
variable {prog : Program} {w : World} {K : PySem.W.Frag} {mg : Str → Option Value} {base : Heap} (T : Tx K mg)
/-! gaps_by -/
def N_gaps_by : List Str := ["clocks", "here", "there", "gap"]
def ps_gaps_by : List Str := ["clocks"]
theorem sc_gaps_by : FnScope N_gaps_by ps_gaps_by (defScope (topS 22)) := ⟨by rfl, by rfl, by rfl, by decide, by rfl, by decide +kernel, by decide +kernel⟩
def m_gaps_by : MS := (sRet (mDc0 (mVar 0)))
def fn_gaps_by : FN := fnB 4 1 m_gaps_by
theorem d_gaps_by : FnG prog w K mg base 1 T.gaps_by.a T.gaps_by.f ps_gaps_by (spI fn_gaps_by) := fn_I T.gaps_by.t sc_gaps_by fun C cdv A outer s H E hgd hr => by
  have nd := sc_gaps_by.nd
  have hu := hu_room hr
  exact (ys_one (ys_ret (ye_dc0 (own := [("here", 1), ("there", 2), ("gap", 3)]) rfl nd (ye_var (pv 0)) (blkOk_by (N := N_gaps_by) (sc := defScope (topS 22)) (by decide +kernel)))))
/-! triangle_fault -/
def N_triangle_fault : List Str := ["thing", "gaps", "names", "here", "over", "there", "one"]
def ps_triangle_fault : List Str := ["thing"]
theorem sc_triangle_fault : FnScope N_triangle_fault ps_triangle_fault (defScope (topS 24)) := ⟨by rfl, by rfl, by rfl, by decide, by rfl, by decide +kernel, by decide +kernel⟩
def m_triangle_fault : MS := (sSeq (sSet 1 (mCall fn_gaps_by (mCons (mVar 0) mNil))) (sSeq (sSet 2 (m1 gSortSet (m2 gCatL (mLc [6] (mIt (mVar 0)) (gSet 6) mYes (bOne (m2 gIx (mVar 6) (mDat (.int 0))))) (mLc [6] (mIt (mVar 0)) (gSet 6) mYes (bOne (m2 gIx (mVar 6) (mDat (.int 1)))))))) (sSeq (sFor (mIt (mVar 2)) (gSet 3) sNo) (sRet (mDat .none)))))
def fn_triangle_fault : FN := fnB 7 1 m_triangle_fault
theorem d_triangle_fault : FnG prog w K mg base 2 T.triangle_fault.a T.triangle_fault.f ps_triangle_fault (spI fn_triangle_fault) := fn_I T.triangle_fault.t sc_triangle_fault fun C cdv A outer s H E hgd hr => by
  have nd := sc_triangle_fault.nd
  have hu := hu_room hr
  exact (ys_cons (ys_set (i := 1) nd rfl (by first | exact .inl rfl | exact .inr rfl) (ye_call ((d_gaps_by T).mono (by decide)) hgd hr rfl T.gaps_by.m T.gaps_by.k T.gaps_by.n (ya_cons (ye_var (pv 0)) ya_nil))) (ys_cons (ys_set (i := 2) nd rfl (by first | exact .inl rfl | exact .inr rfl) (ye_sortSet (yo_catL (ye_lc (own := [("one", 6)]) rfl nd (yi_seq (ye_var (pv 0))) (blkOk_by (N := N_triangle_fault) (sc := defScope (topS 24)) (by decide +kernel)) (fun _ _ _ _ _ => (yg_name (pg_name (i := 6) nd rfl (by first | exact .inl rfl | exact .inr rfl)) (by decide))) (fun _ _ _ _ _ => yts_nil) (fun _ _ _ _ _ => (yo_ix (ye_var (pv 6)) (ye_int)))) (ye_lc (own := [("one", 6)]) rfl nd (yi_seq (ye_var (pv 0))) (blkOk_by (N := N_triangle_fault) (sc := defScope (topS 24)) (by decide +kernel)) (fun _ _ _ _ _ => (yg_name (pg_name (i := 6) nd rfl (by first | exact .inl rfl | exact .inr rfl)) (by decide))) (fun _ _ _ _ _ => yts_nil) (fun _ _ _ _ _ => (yo_ix (ye_var (pv 6)) (ye_int))))) rfl hu rfl T.b.b_sorted rfl T.b.b_set)) (ys_cons (ys_for (vs := [0, 1, 2, 3, 4, 5, 6]) PassesOwn.never rfl (yi_seq (ye_var (pv 2))) (yg_name (pg_name (i := 3) nd rfl (by first | exact .inl rfl | exact .inr rfl)) (by decide)) ys_nevers) (ys_one (ys_ret (ye_non))))))
/-! clocks_fault -/
def N_clocks_fault : List Str := ["houses", "thing", "fault", "three"]
def ps_clocks_fault : List Str := ["houses", "thing"]
theorem sc_clocks_fault : FnScope N_clocks_fault ps_clocks_fault (defScope (topS 25)) := ⟨by rfl, by rfl, by rfl, by decide, by rfl, by decide +kernel, by decide +kernel⟩
def m_clocks_fault : MS := (sSeq (sSet 2 (mCall fn_order_fault (mCons (mVar 0) (mCons (mVar 1) mNil)))) (sSeq (sIf (mT (m2 gNotN (mVar 2) (mDat .none))) (sNo) sNil) (sSeq (sSet 3 (mCall fn_triangle_fault (mCons (mVar 1) mNil))) (sRet (mIf (mT (m2 gNotN (mVar 3) (mDat .none))) (eNo) (mDat .none))))))
def fn_clocks_fault : FN := fnB 4 2 m_clocks_fault
theorem d_clocks_fault : FnG prog w K mg base 3 T.clocks_fault.a T.clocks_fault.f ps_clocks_fault (spI fn_clocks_fault) := fn_I T.clocks_fault.t sc_clocks_fault fun C cdv A outer s H E hgd hr => by
  have nd := sc_clocks_fault.nd
  have hu := hu_room hr
  exact (ys_cons (ys_set (i := 2) nd rfl (by first | exact .inl rfl | exact .inr rfl) (ye_call ((d_order_fault T).mono (by decide)) hgd hr rfl T.order_fault.m T.order_fault.k T.order_fault.n (ya_cons (ye_var (pv 0)) (ya_cons (ye_var (pv 1)) ya_nil)))) (ys_cons (ys_if (yq_notN (ye_var (pv 2)) (ye_non)) (ys_one (ys_never)) ys_nil) (ys_cons (ys_set (i := 3) nd rfl (by first | exact .inl rfl | exact .inr rfl) (ye_call ((d_triangle_fault T).mono (by decide)) hgd hr rfl T.triangle_fault.m T.triangle_fault.k T.triangle_fault.n (ya_cons (ye_var (pv 1)) ya_nil))) (ys_one (ys_ret (ye_if (yq_notN (ye_var (pv 3)) (ye_non)) (ye_never) (ye_non)))))))
/-! parts_fault -/
def N_parts_fault : List Str := ["thing", "fault", "houses", "machine", "trust", "clocks", "looking", "waking", "one"]
def ps_parts_fault : List Str := ["thing"]
theorem sc_parts_fault : FnScope N_parts_fault ps_parts_fault (defScope (topS 32)) := ⟨by rfl, by rfl, by rfl, by decide, by rfl, by decide +kernel, by decide +kernel⟩
def m_parts_fault : MS := (sSeq (sIf (tNo (mT (mCall fn_is_tuple_of (mCons (mVar 0) (mCons (mDat (.int 5)) mNil))))) (sNo) sNil) (sSeq (sTup (mVar 0) (gTupM 5 (gsCons (gSet 3) (gsCons (gSet 4) (gsCons (gSet 5) (gsCons (gSet 6) (gsCons (gSet 7) gsNil))))))) (sSeq (sSet 1 (mCall fn_machine_fault (mCons (mVar 3) mNil))) (sSeq (sIf (mT (m2 gNotN (mVar 1) (mDat .none))) (sNo) sNil) (sSeq (sSet 1 (mCall fn_trust_fault (mCons (mVar 4) mNil))) (sSeq (sIf (mT (m2 gNotN (mVar 1) (mDat .none))) (sNo) sNil) (sSeq (sSet 2 (mLc [8] (mIt (mVar 4)) (gSet 8) mYes (bOne (m2 gIx (mVar 8) (mDat (.int 0)))))) (sSeq (sSet 1 (mCall fn_clocks_fault (mCons (mVar 2) (mCons (mVar 5) mNil)))) (sSeq (sIf (mT (m2 gNotN (mVar 1) (mDat .none))) (sNo) sNil) (sRet (mCall fn_rules_fault (mCons (mVar 3) (mCons (mVar 2) (mCons (mVar 6) (mCons (mVar 7) mNil)))))))))))))))
def fn_parts_fault : FN := fnB 9 1 m_parts_fault
theorem d_parts_fault : FnG prog w K mg base 7 T.parts_fault.a T.parts_fault.f ps_parts_fault (spI fn_parts_fault) := fn_I T.parts_fault.t sc_parts_fault fun C cdv A outer s H E hgd hr => by
  have nd := sc_parts_fault.nd
  have hu := hu_room hr
  exact (ys_cons (ys_if (yt_not (yt_of (ye_call ((d_is_tuple_of T).mono (by decide)) hgd hr rfl T.is_tuple_of.m T.is_tuple_of.k T.is_tuple_of.n (ya_cons (ye_var (pv 0)) (ya_cons (ye_int) ya_nil))))) (ys_one (ys_never)) ys_nil) (ys_cons (ys_asg (vs := [0, 1, 2, 3, 4, 5, 6, 7, 8]) (ye_var (pv 0)) (yg_tup rfl (ygs_cons (yg_name (pg_name (i := 3) nd rfl (by first | exact .inl rfl | exact .inr rfl)) (by decide)) (ygs_cons (yg_name (pg_name (i := 4) nd rfl (by first | exact .inl rfl | exact .inr rfl)) (by decide)) (ygs_cons (yg_name (pg_name (i := 5) nd rfl (by first | exact .inl rfl | exact .inr rfl)) (by decide)) (ygs_cons (yg_name (pg_name (i := 6) nd rfl (by first | exact .inl rfl | exact .inr rfl)) (by decide)) (ygs_cons (yg_name (pg_name (i := 7) nd rfl (by first | exact .inl rfl | exact .inr rfl)) (by decide)) ygs_nil))))))) (ys_cons (ys_set (i := 1) nd rfl (by first | exact .inl rfl | exact .inr rfl) (ye_call ((d_machine_fault T).mono (by decide)) hgd hr rfl T.machine_fault.m T.machine_fault.k T.machine_fault.n (ya_cons (ye_var (pv 3)) ya_nil))) (ys_cons (ys_if (yq_notN (ye_var (pv 1)) (ye_non)) (ys_one (ys_never)) ys_nil) (ys_cons (ys_set (i := 1) nd rfl (by first | exact .inl rfl | exact .inr rfl) (ye_call ((d_trust_fault T).mono (by decide)) hgd hr rfl T.trust_fault.m T.trust_fault.k T.trust_fault.n (ya_cons (ye_var (pv 4)) ya_nil))) (ys_cons (ys_if (yq_notN (ye_var (pv 1)) (ye_non)) (ys_one (ys_never)) ys_nil) (ys_cons (by first | exact ys_setLc (own := [("one", 8)]) (i := 2) rfl nd rfl rfl (sw_true rfl rfl rfl rfl) (yi_seq (ye_var (pv 4))) (blkOk_by (N := N_parts_fault) (sc := defScope (topS 32)) (by decide +kernel)) (fun _ _ _ _ _ => (yg_name (pg_name (i := 8) nd rfl (by first | exact .inl rfl | exact .inr rfl)) (by decide))) (fun _ _ _ _ _ => yts_nil) (fun _ _ _ _ _ => (yo_ix (ye_var (pv 8)) (ye_int))) | exact ys_set (i := 2) nd rfl (by first | exact .inl rfl | exact .inr rfl) (ye_lc (own := [("one", 8)]) rfl nd (yi_seq (ye_var (pv 4))) (blkOk_by (N := N_parts_fault) (sc := defScope (topS 32)) (by decide +kernel)) (fun _ _ _ _ _ => (yg_name (pg_name (i := 8) nd rfl (by first | exact .inl rfl | exact .inr rfl)) (by decide))) (fun _ _ _ _ _ => yts_nil) (fun _ _ _ _ _ => (yo_ix (ye_var (pv 8)) (ye_int))))) (ys_cons (ys_set (i := 1) nd rfl (by first | exact .inl rfl | exact .inr rfl) (ye_call ((d_clocks_fault T).mono (by decide)) hgd hr rfl T.clocks_fault.m T.clocks_fault.k T.clocks_fault.n (ya_cons (ye_var (pv 2)) (ya_cons (ye_var (pv 5)) ya_nil)))) (ys_cons (ys_if (yq_notN (ye_var (pv 1)) (ye_non)) (ys_one (ys_never)) ys_nil) (ys_one (ys_ret (ye_call ((d_rules_fault T).mono (by decide)) hgd hr rfl T.rules_fault.m T.rules_fault.k T.rules_fault.n (ya_cons (ye_var (pv 3)) (ya_cons (ye_var (pv 2)) (ya_cons (ye_var (pv 6)) (ya_cons (ye_var (pv 7)) ya_nil))))))))))))))))
/-! is_book -/
def N_is_book : List Str := ["thing"]
def ps_is_book : List Str := ["thing"]
theorem sc_is_book : FnScope N_is_book ps_is_book (defScope (topS 34)) := ⟨by rfl, by rfl, by rfl, by decide, by rfl, by decide +kernel, by decide +kernel⟩
def m_is_book : MS := (sRet (m2 gIsN (mCall fn_parts_fault (mCons (mVar 0) mNil)) (mDat .none)))
def fn_is_book : FN := fnB 1 1 m_is_book
theorem d_is_book : FnG prog w K mg base 8 T.is_book.a T.is_book.f ps_is_book (spI fn_is_book) := fn_I T.is_book.t sc_is_book fun C cdv A outer s H E hgd hr => by
  have nd := sc_is_book.nd
  have hu := hu_room hr
  exact (ys_one (ys_ret (yc_isN (ye_call ((d_parts_fault T).mono (by decide)) hgd hr rfl T.parts_fault.m T.parts_fault.k T.parts_fault.n (ya_cons (ye_var (pv 0)) ya_nil)) (ye_non))))
/-! want_book -/
def N_want_book : List Str := ["value", "name"]
def ps_want_book : List Str := ["value", "name"]
theorem sc_want_book : FnScope N_want_book ps_want_book (defScope (topS 62)) := ⟨by rfl, by rfl, by rfl, by decide, by rfl, by decide +kernel, by decide +kernel⟩
def m_want_book : MS := (sDrop (mCallD fn_want [wI (-1)] (mCons (mCall fn_is_book (mCons (mVar 0) mNil)) (mCons (mVar 1) mNil))))
def fn_want_book : FN := fnB 2 2 m_want_book
theorem d_want_book : FnG prog w K mg base 9 T.want_book.a T.want_book.f ps_want_book (spI fn_want_book) := fn_I T.want_book.t sc_want_book fun C cdv A outer s H E hgd hr => by
  have nd := sc_want_book.nd
  have hu := hu_room hr
  exact (ys_one (ys_expr (ye_callD ((d_want T).mono (by decide)) hgd hr rfl T.want.m T.want.k T.want.n T.want.w (fun _ => .cons (Rp.int _) .nil) (ya_cons (ye_call ((d_is_book T).mono (by decide)) hgd hr rfl T.is_book.m T.is_book.k T.is_book.n (ya_cons (ye_var (pv 0)) ya_nil)) (ya_cons (ye_var (pv 1)) ya_nil)))))
/-! want_rule -/
def N_want_rule : List Str := ["book", "rule"]
def ps_want_rule : List Str := ["book", "rule"]
theorem sc_want_rule : FnScope N_want_rule ps_want_rule (defScope (topS 77)) := ⟨by rfl, by rfl, by rfl, by decide, by rfl, by decide +kernel, by decide +kernel⟩
def m_want_rule : MS := (sSeq (sDrop (mCallD fn_want_book [.d (.str "book")] (mCons (mVar 0) mNil))) (sDrop (mCallD fn_want [wI (-1)] (mCons (mCall fn_is_index (mCons (mVar 1) (mCons (mArgs gLen (mCons (m2 gIx (mVar 0) (mDat (.int 3))) mNil)) mNil))) (mCons (mDat (.str "rule")) mNil)))))
def fn_want_rule : FN := fnB 2 2 m_want_rule
theorem d_want_rule : FnG prog w K mg base 10 T.want_rule.a T.want_rule.f ps_want_rule (spI fn_want_rule) := fn_I T.want_rule.t sc_want_rule fun C cdv A outer s H E hgd hr => by
  have nd := sc_want_rule.nd
  have hu := hu_room hr
  exact (ys_cons (ys_expr (ye_callD ((d_want_book T).mono (by decide)) hgd hr rfl T.want_book.m T.want_book.k T.want_book.n T.want_book.w (fun _ => .cons (Rp.str _) .nil) (ya_cons (ye_var (pv 0)) ya_nil))) (ys_one (ys_expr (ye_callD ((d_want T).mono (by decide)) hgd hr rfl T.want.m T.want.k T.want.n T.want.w (fun _ => .cons (Rp.int _) .nil) (ya_cons (ye_call ((d_is_index T).mono (by decide)) hgd hr rfl T.is_index.m T.is_index.k T.is_index.n (ya_cons (ye_var (pv 1)) (ya_cons (yb_len rfl T.b.b_len (ya_cons (yo_ix (ye_var (pv 0)) (ye_int)) ya_nil)) ya_nil))) (ya_cons (ye_str) ya_nil))))))
/-! rows_from -/
def N_rows_from : List Str := ["machine", "state", "found", "waiting", "spot", "here", "k", "letter", "goal"]
def ps_rows_from : List Str := ["machine", "state"]
theorem sc_rows_from : FnScope N_rows_from ps_rows_from (defScope (topS 84)) := ⟨by rfl, by rfl, by rfl, by decide, by rfl, by decide +kernel, by decide +kernel⟩
def m_rows_from : MS := (sSeq (sOwnD 2 (mVar 1) (mArgs gTupD mNil)) (sSeq (sOwnL 3 (mCons (mVar 1) mNil)) (sSeq (sSet 4 (mDat (.int 0))) (sSeq (sWh 8 (mT (m2 gLt (mVar 4) (mLenO 3))) (sSeq (sSet 5 (mIxO 3 (mVar 4))) (sSeq (sSet 4 (m2 gAdd (mVar 4) (mDat (.int 1)))) (sFor (mEnum (mCons (m2 gIx (mVar 0) (mDat (.int 0))) mNil)) (gTupM 2 (gsCons (gSet 6) (gsCons (gSet 7) gsNil))) (sSeq (sSet 8 (m2 gIx (m2 gIx (m2 gIx (mVar 0) (mDat (.int 2))) (mVar 5)) (mVar 6))) (sIf (tNinO 2 (mVar 8)) (sSeq (sSetT 2 (mVar 8) (mArgs gTupD (mStar (mGetO 2 (mVar 5)) (mCons (mVar 7) mNil)))) (sApp 3 (mVar 8))) sNil)))))) (sRetO 2)))))
def fn_rows_from : FN := fnR 9 2 m_rows_from
theorem d_rows_from : FnG prog w K mg base 1 T.rows_from.a T.rows_from.f ps_rows_from (spR fn_rows_from) := fn_R T.rows_from.t sc_rows_from fun C cdv A outer s H E hgd hr => by
  have nd := sc_rows_from.nd
  have hu := hu_room hr
  exact (ys_cons (ys_ownD (i := 2) nd rfl (by first | exact .inl rfl | exact .inr rfl) (ye_var (pv 1)) (ye_tup ya_nil)) (ys_cons (ys_ownL (i := 3) nd rfl (by first | exact .inl rfl | exact .inr rfl) (ya_cons (ye_var (pv 1)) ya_nil)) (ys_cons (ys_set (i := 4) nd rfl (by first | exact .inl rfl | exact .inr rfl) (ye_int)) (ys_cons (ys_while 8 PassesOwn.never (yq_lt hu (ye_var (pv 4)) (ye_lenO rfl T.b.b_len (pv 3))) (ys_cons (ys_set (i := 5) nd rfl (by first | exact .inl rfl | exact .inr rfl) (ye_ixO (pv 3) (ye_var (pv 4)))) (ys_cons (ys_set (i := 4) nd rfl (by first | exact .inl rfl | exact .inr rfl) (yo_add (ye_var (pv 4)) (ye_int))) (ys_one (ys_for (vs := [0, 1, 2, 3, 4, 5, 6, 7, 8]) PassesOwn.never rfl (yi_enum rfl T.b.b_enumerate (ya_cons (yo_ix (ye_var (pv 0)) (ye_int)) ya_nil)) (yg_tup rfl (ygs_cons (yg_name (pg_name (i := 6) nd rfl (by first | exact .inl rfl | exact .inr rfl)) (by decide)) (ygs_cons (yg_name (pg_name (i := 7) nd rfl (by first | exact .inl rfl | exact .inr rfl)) (by decide)) ygs_nil))) (ys_cons (ys_set (i := 8) nd rfl (by first | exact .inl rfl | exact .inr rfl) (yo_ix (yo_ix (yo_ix (ye_var (pv 0)) (ye_int)) (ye_var (pv 5))) (ye_var (pv 6)))) (ys_one (ys_if (yq_ninO hu (ye_var (pv 8)) (pv 2)) (ys_cons (ys_setT hu (pv 2) (ye_var (pv 8)) (ye_tup (ya_star (ye_getO hu (pv 2) (ye_var (pv 5))) (ya_cons (ye_var (pv 7)) ya_nil)))) (ys_one (ys_app (i := 3) (pv 3) (ye_var (pv 8))))) ys_nil)))))))) (ys_one (ys_retO (pv 2)))))))
/-! rows_in -/
def N_rows_in : List Str := ["machine"]
def ps_rows_in : List Str := ["machine"]
theorem sc_rows_in : FnScope N_rows_in ps_rows_in (defScope (topS 85)) := ⟨by rfl, by rfl, by rfl, by decide, by rfl, by decide +kernel, by decide +kernel⟩
def m_rows_in : MS := (sRetR fn_rows_from (mCons (mVar 0) (mCons (mDat (.int 0)) mNil)))
def fn_rows_in : FN := fnR 1 1 m_rows_in
theorem d_rows_in : FnG prog w K mg base 2 T.rows_in.a T.rows_in.f ps_rows_in (spR fn_rows_in) := fn_R T.rows_in.t sc_rows_in fun C cdv A outer s H E hgd hr => by
  have nd := sc_rows_in.nd
  have hu := hu_room hr
  exact (ys_one (ys_retR ((d_rows_from T).mono (by decide)) hgd hr rfl T.rows_from.m T.rows_from.k T.rows_from.n (ya_cons (ye_var (pv 0)) (ya_cons (ye_int) ya_nil))))
/-! unlike_from -/
def N_unlike_from : List Str := ["machine", "look", "state", "own", "goal"]
def ps_unlike_from : List Str := ["machine", "look", "state"]
theorem sc_unlike_from : FnScope N_unlike_from ps_unlike_from (defScope (topS 87)) := ⟨by rfl, by rfl, by rfl, by decide, by rfl, by decide +kernel, by decide +kernel⟩
def m_unlike_from : MS := (sSeq (sSet 3 (mCall fn_answer_in (mCons (mVar 0) (mCons (mVar 2) (mCons (mVar 1) mNil))))) (sRet (mLc [4] (mKeys fn_rows_from (mCons (mVar 0) (mCons (mVar 2) mNil))) (gSet 4) (mT (m2 gNe (mCall fn_answer_in (mCons (mVar 0) (mCons (mVar 4) (mCons (mVar 1) mNil)))) (mVar 3))) (bOne (mVar 4)))))
def fn_unlike_from : FN := fnB 5 3 m_unlike_from
theorem d_unlike_from : FnG prog w K mg base 2 T.unlike_from.a T.unlike_from.f ps_unlike_from (spI fn_unlike_from) := fn_I T.unlike_from.t sc_unlike_from fun C cdv A outer s H E hgd hr => by
  have nd := sc_unlike_from.nd
  have hu := hu_room hr
  exact (ys_cons (ys_set (i := 3) nd rfl (by first | exact .inl rfl | exact .inr rfl) (ye_call ((d_answer_in T).mono (by decide)) hgd hr rfl T.answer_in.m T.answer_in.k T.answer_in.n (ya_cons (ye_var (pv 0)) (ya_cons (ye_var (pv 2)) (ya_cons (ye_var (pv 1)) ya_nil))))) (ys_one (ys_ret (ye_lc (own := [("goal", 4)]) rfl nd (yi_keys ((d_rows_from T).mono (by decide)) hgd hr rfl T.rows_from.m T.rows_from.k T.rows_from.n (ya_cons (ye_var (pv 0)) (ya_cons (ye_var (pv 2)) ya_nil))) (blkOk_by (N := N_unlike_from) (sc := defScope (topS 87)) (by decide +kernel)) (fun _ _ _ _ _ => (yg_name (pg_name (i := 4) nd rfl (by first | exact .inl rfl | exact .inr rfl)) (by decide))) (fun _ _ _ _ _ => (yts_one (yq_ne hu (ye_call ((d_answer_in T).mono (by decide)) hgd hr rfl T.answer_in.m T.answer_in.k T.answer_in.n (ya_cons (ye_var (pv 0)) (ya_cons (ye_var (pv 4)) (ya_cons (ye_var (pv 1)) ya_nil)))) (ye_var (pv 3))))) (fun _ _ _ _ _ => (ye_var (pv 4)))))))
/-! longest_from -/
def N_longest_from : List Str := ["machine", "look", "state", "some", "late", "many", "nearer"]
def ps_longest_from : List Str := ["machine", "look", "state"]
theorem sc_longest_from : FnScope N_longest_from ps_longest_from (defScope (topS 89)) := ⟨by rfl, by rfl, by rfl, by decide, by rfl, by decide +kernel, by decide +kernel⟩
def m_longest_from : MS := (sSeq (sSet 3 (mCall fn_unlike_from (mCons (mVar 0) (mCons (mVar 1) (mCons (mVar 2) mNil))))) (sSeq (sPar 4 5 (mVar 3) (mDat (.int 0))) (sSeq (sWh 8 (mT (m2 gGtI (mArgs gLen (mCons (mVar 4) mNil)) (mDat (.int 0)))) (sSeq (sSet 5 (m2 gAdd (mVar 5) (mDat (.int 1)))) (sSeq (sSet 6 (mCall fn_kept_within (mCons (mVar 0) (mCons (mVar 3) (mCons (mVar 4) mNil))))) (sSeq (sIf (mT (m2 gEq (mVar 6) (mVar 4))) (sRet (mDat .none)) sNil) (sSet 4 (mVar 6)))))) (sRet (mVar 5)))))
def fn_longest_from : FN := fnB 7 3 m_longest_from
theorem d_longest_from : FnG prog w K mg base 3 T.longest_from.a T.longest_from.f ps_longest_from (spI fn_longest_from) := fn_I T.longest_from.t sc_longest_from fun C cdv A outer s H E hgd hr => by
  have nd := sc_longest_from.nd
  have hu := hu_room hr
  exact (ys_cons (ys_set (i := 3) nd rfl (by first | exact .inl rfl | exact .inr rfl) (ye_call ((d_unlike_from T).mono (by decide)) hgd hr rfl T.unlike_from.m T.unlike_from.k T.unlike_from.n (ya_cons (ye_var (pv 0)) (ya_cons (ye_var (pv 1)) (ya_cons (ye_var (pv 2)) ya_nil))))) (ys_cons (ys_par (i := 4) (j := 5) rfl nd rfl rfl (by decide) rfl rfl (ye_var (pv 3)) (ye_int) rfl) (ys_cons (ys_while 8 PassesOwn.never (yq_gt (yb_len rfl T.b.b_len (ya_cons (ye_var (pv 4)) ya_nil)) (ye_int)) (ys_cons (ys_set (i := 5) nd rfl (by first | exact .inl rfl | exact .inr rfl) (yo_add (ye_var (pv 5)) (ye_int))) (ys_cons (ys_set (i := 6) nd rfl (by first | exact .inl rfl | exact .inr rfl) (ye_call ((d_kept_within T).mono (by decide)) hgd hr rfl T.kept_within.m T.kept_within.k T.kept_within.n (ya_cons (ye_var (pv 0)) (ya_cons (ye_var (pv 3)) (ya_cons (ye_var (pv 4)) ya_nil))))) (ys_cons (ys_if (yq_eq hu (ye_var (pv 6)) (ye_var (pv 4))) (ys_one (ys_ret (ye_non))) ys_nil) (ys_one (ys_set (i := 4) nd rfl (by first | exact .inl rfl | exact .inr rfl) (ye_var (pv 6)))))))) (ys_one (ys_ret (ye_var (pv 5)))))))
/-! least_age_in -/
def N_least_age_in : List Str := ["machine", "look", "found", "state", "many"]
def ps_least_age_in : List Str := ["machine", "look"]
theorem sc_least_age_in : FnScope N_least_age_in ps_least_age_in (defScope (topS 90)) := ⟨by rfl, by rfl, by rfl, by decide, by rfl, by decide +kernel, by decide +kernel⟩
def m_least_age_in : MS := (sSeq (sSet 2 (mLc [3] (mKeys fn_rows_in (mCons (mVar 0) mNil)) (gSet 3) mYes (bOne (mCall fn_longest_from (mCons (mVar 0) (mCons (mVar 1) (mCons (mVar 3) mNil))))))) (sSeq (sIf (mT (m2 gIn (mDat .none) (mVar 2))) (sRet (mDat .none)) sNil) (sRet (mArgs gMax (mCons (mArgs gLstD (mCons (mDat (.int 0)) (mStar (mLc [4] (mIt (mVar 2)) (gSet 4) (mT (m2 gNotN (mVar 4) (mDat .none))) (bOne (mVar 4))) mNil))) mNil)))))
def fn_least_age_in : FN := fnB 5 2 m_least_age_in
theorem d_least_age_in : FnG prog w K mg base 4 T.least_age_in.a T.least_age_in.f ps_least_age_in (spI fn_least_age_in) := fn_I T.least_age_in.t sc_least_age_in fun C cdv A outer s H E hgd hr => by
  have nd := sc_least_age_in.nd
  have hu := hu_room hr
  exact (ys_cons (by first | exact ys_setLc (own := [("state", 3)]) (i := 2) rfl nd rfl rfl (sw_true rfl rfl rfl rfl) (yi_keys ((d_rows_in T).mono (by decide)) hgd hr rfl T.rows_in.m T.rows_in.k T.rows_in.n (ya_cons (ye_var (pv 0)) ya_nil)) (blkOk_by (N := N_least_age_in) (sc := defScope (topS 90)) (by decide +kernel)) (fun _ _ _ _ _ => (yg_name (pg_name (i := 3) nd rfl (by first | exact .inl rfl | exact .inr rfl)) (by decide))) (fun _ _ _ _ _ => yts_nil) (fun _ _ _ _ _ => (ye_call ((d_longest_from T).mono (by decide)) hgd hr rfl T.longest_from.m T.longest_from.k T.longest_from.n (ya_cons (ye_var (pv 0)) (ya_cons (ye_var (pv 1)) (ya_cons (ye_var (pv 3)) ya_nil))))) | exact ys_set (i := 2) nd rfl (by first | exact .inl rfl | exact .inr rfl) (ye_lc (own := [("state", 3)]) rfl nd (yi_keys ((d_rows_in T).mono (by decide)) hgd hr rfl T.rows_in.m T.rows_in.k T.rows_in.n (ya_cons (ye_var (pv 0)) ya_nil)) (blkOk_by (N := N_least_age_in) (sc := defScope (topS 90)) (by decide +kernel)) (fun _ _ _ _ _ => (yg_name (pg_name (i := 3) nd rfl (by first | exact .inl rfl | exact .inr rfl)) (by decide))) (fun _ _ _ _ _ => yts_nil) (fun _ _ _ _ _ => (ye_call ((d_longest_from T).mono (by decide)) hgd hr rfl T.longest_from.m T.longest_from.k T.longest_from.n (ya_cons (ye_var (pv 0)) (ya_cons (ye_var (pv 1)) (ya_cons (ye_var (pv 3)) ya_nil))))))) (ys_cons (ys_if (yq_in hu (ye_non) (ye_var (pv 2))) (ys_one (ys_ret (ye_non))) ys_nil) (ys_one (ys_ret (yb_max rfl rfl T.b.b_max (ya_cons (ye_lst (ya_cons (ye_int) (ya_star (ye_lc (own := [("many", 4)]) rfl nd (yi_seq (ye_var (pv 2))) (blkOk_by (N := N_least_age_in) (sc := defScope (topS 90)) (by decide +kernel)) (fun _ _ _ _ _ => (yg_name (pg_name (i := 4) nd rfl (by first | exact .inl rfl | exact .inr rfl)) (by decide))) (fun _ _ _ _ _ => (yts_one (yq_notN (ye_var (pv 4)) (ye_non)))) (fun _ _ _ _ _ => (ye_var (pv 4)))) ya_nil))) ya_nil))))))
/-! moves_in -/
def N_moves_in : List Str := ["machine", "look", "age", "least"]
def ps_moves_in : List Str := ["machine", "look", "age"]
theorem sc_moves_in : FnScope N_moves_in ps_moves_in (defScope (topS 91)) := ⟨by rfl, by rfl, by rfl, by decide, by rfl, by decide +kernel, by decide +kernel⟩
def m_moves_in : MS := (sSeq (sSet 3 (mCall fn_least_age_in (mCons (mVar 0) (mCons (mVar 1) mNil)))) (sRet (mOr (m2 gIsN (mVar 3) (mDat .none)) ((m2 gLt (mVar 2) (mVar 3))))))
def fn_moves_in : FN := fnB 4 3 m_moves_in
theorem d_moves_in : FnG prog w K mg base 5 T.moves_in.a T.moves_in.f ps_moves_in (spI fn_moves_in) := fn_I T.moves_in.t sc_moves_in fun C cdv A outer s H E hgd hr => by
  have nd := sc_moves_in.nd
  have hu := hu_room hr
  exact (ys_cons (ys_set (i := 3) nd rfl (by first | exact .inl rfl | exact .inr rfl) (ye_call ((d_least_age_in T).mono (by decide)) hgd hr rfl T.least_age_in.m T.least_age_in.k T.least_age_in.n (ya_cons (ye_var (pv 0)) (ya_cons (ye_var (pv 1)) ya_nil)))) (ys_one (ys_ret (ye_or (yc_isN (ye_var (pv 3)) (ye_non)) (ye_one (yc_lt hu (ye_var (pv 2)) (ye_var (pv 3))))))))
/-! moving_in -/
def N_moving_in : List Str := ["book", "rule", "age", "found", "look"]
def ps_moving_in : List Str := ["book", "rule", "age"]
theorem sc_moving_in : FnScope N_moving_in ps_moving_in (defScope (topS 95)) := ⟨by rfl, by rfl, by rfl, by decide, by rfl, by decide +kernel, by decide +kernel⟩
def m_moving_in : MS := (sSeq (sSet 3 (mLc [4] (mIt (m2 gIx (m2 gIx (m2 gIx (mVar 0) (mDat (.int 3))) (mVar 1)) (mDat (.int 1)))) (gSet 4) (mT (mCall fn_moves_in (mCons (m2 gIx (mVar 0) (mDat (.int 0))) (mCons (mVar 4) (mCons (mVar 2) mNil))))) (bOne (mVar 4)))) (sRet (mIf (mT (m2 gGtI (mArgs gLen (mCons (mVar 3) mNil)) (mDat (.int 0)))) (m2 gIx (mVar 3) (mDat (.int 0))) (mDat .none))))
def fn_moving_in : FN := fnB 5 3 m_moving_in
theorem d_moving_in : FnG prog w K mg base 6 T.moving_in.a T.moving_in.f ps_moving_in (spI fn_moving_in) := fn_I T.moving_in.t sc_moving_in fun C cdv A outer s H E hgd hr => by
  have nd := sc_moving_in.nd
  have hu := hu_room hr
  exact (ys_cons (by first | exact ys_setLc (own := [("look", 4)]) (i := 3) rfl nd rfl rfl (sw_true rfl rfl rfl rfl) (yi_seq (yo_ix (yo_ix (yo_ix (ye_var (pv 0)) (ye_int)) (ye_var (pv 1))) (ye_int))) (blkOk_by (N := N_moving_in) (sc := defScope (topS 95)) (by decide +kernel)) (fun _ _ _ _ _ => (yg_name (pg_name (i := 4) nd rfl (by first | exact .inl rfl | exact .inr rfl)) (by decide))) (fun _ _ _ _ _ => (yts_one (yt_of (ye_call ((d_moves_in T).mono (by decide)) hgd hr rfl T.moves_in.m T.moves_in.k T.moves_in.n (ya_cons (yo_ix (ye_var (pv 0)) (ye_int)) (ya_cons (ye_var (pv 4)) (ya_cons (ye_var (pv 2)) ya_nil))))))) (fun _ _ _ _ _ => (ye_var (pv 4))) | exact ys_set (i := 3) nd rfl (by first | exact .inl rfl | exact .inr rfl) (ye_lc (own := [("look", 4)]) rfl nd (yi_seq (yo_ix (yo_ix (yo_ix (ye_var (pv 0)) (ye_int)) (ye_var (pv 1))) (ye_int))) (blkOk_by (N := N_moving_in) (sc := defScope (topS 95)) (by decide +kernel)) (fun _ _ _ _ _ => (yg_name (pg_name (i := 4) nd rfl (by first | exact .inl rfl | exact .inr rfl)) (by decide))) (fun _ _ _ _ _ => (yts_one (yt_of (ye_call ((d_moves_in T).mono (by decide)) hgd hr rfl T.moves_in.m T.moves_in.k T.moves_in.n (ya_cons (yo_ix (ye_var (pv 0)) (ye_int)) (ya_cons (ye_var (pv 4)) (ya_cons (ye_var (pv 2)) ya_nil))))))) (fun _ _ _ _ _ => (ye_var (pv 4))))) (ys_one (ys_ret (ye_if (yq_gt (yb_len rfl T.b.b_len (ya_cons (ye_var (pv 3)) ya_nil)) (ye_int)) (yo_ix (ye_var (pv 3)) (ye_int)) (ye_non)))))
/-! lacks_in -/
def N_lacks_in : List Str := ["book", "rule", "age", "needs", "need"]
def ps_lacks_in : List Str := ["book", "rule", "age"]
theorem sc_lacks_in : FnScope N_lacks_in ps_lacks_in (defScope (topS 96)) := ⟨by rfl, by rfl, by rfl, by decide, by rfl, by decide +kernel, by decide +kernel⟩
def m_lacks_in : MS := (sSeq (sIf (mT (m2 gIsN (mCall fn_moving_in (mCons (mVar 0) (mCons (mVar 1) (mCons (mVar 2) mNil)))) (mDat .none))) (sRet (mArgs gTupD mNil)) sNil) (sSeq (sSet 3 (mCall fn_needs_by (mCons (m2 gIx (mVar 0) (mDat (.int 1))) (mCons (m2 gIx (m2 gIx (m2 gIx (mVar 0) (mDat (.int 3))) (mVar 1)) (mDat (.int 0))) mNil)))) (sRet (mArgs gTuple (mCons (mLc [4] (mIt (mVar 3)) (gSet 4) (tNo (mT (mCall fn_caught_in (mCons (mVar 0) (mCons (mVar 1) (mCons (mVar 4) mNil)))))) (bOne (mVar 4))) mNil)))))
def fn_lacks_in : FN := fnB 5 3 m_lacks_in
theorem d_lacks_in : FnG prog w K mg base 7 T.lacks_in.a T.lacks_in.f ps_lacks_in (spI fn_lacks_in) := fn_I T.lacks_in.t sc_lacks_in fun C cdv A outer s H E hgd hr => by
  have nd := sc_lacks_in.nd
  have hu := hu_room hr
  exact (ys_cons (ys_if (yq_isN (ye_call ((d_moving_in T).mono (by decide)) hgd hr rfl T.moving_in.m T.moving_in.k T.moving_in.n (ya_cons (ye_var (pv 0)) (ya_cons (ye_var (pv 1)) (ya_cons (ye_var (pv 2)) ya_nil)))) (ye_non)) (ys_one (ys_ret (ye_tup ya_nil))) ys_nil) (ys_cons (ys_set (i := 3) nd rfl (by first | exact .inl rfl | exact .inr rfl) (ye_call ((d_needs_by T).mono (by decide)) hgd hr rfl T.needs_by.m T.needs_by.k T.needs_by.n (ya_cons (yo_ix (ye_var (pv 0)) (ye_int)) (ya_cons (yo_ix (yo_ix (yo_ix (ye_var (pv 0)) (ye_int)) (ye_var (pv 1))) (ye_int)) ya_nil)))) (ys_one (ys_ret (yb_tuple rfl T.b.b_tuple (ya_cons (ye_lc (own := [("need", 4)]) rfl nd (yi_seq (ye_var (pv 3))) (blkOk_by (N := N_lacks_in) (sc := defScope (topS 96)) (by decide +kernel)) (fun _ _ _ _ _ => (yg_name (pg_name (i := 4) nd rfl (by first | exact .inl rfl | exact .inr rfl)) (by decide))) (fun _ _ _ _ _ => (yts_one (yt_not (yt_of (ye_call ((d_caught_in T).mono (by decide)) hgd hr rfl T.caught_in.m T.caught_in.k T.caught_in.n (ya_cons (ye_var (pv 0)) (ya_cons (ye_var (pv 1)) (ya_cons (ye_var (pv 4)) ya_nil)))))))) (fun _ _ _ _ _ => (ye_var (pv 4)))) ya_nil))))))
/-! rule_lacks -/
def N_rule_lacks : List Str := ["book", "rule", "age"]
def ps_rule_lacks : List Str := ["book", "rule", "age"]
theorem sc_rule_lacks : FnScope N_rule_lacks ps_rule_lacks (defScope (topS 98)) := ⟨by rfl, by rfl, by rfl, by decide, by rfl, by decide +kernel, by decide +kernel⟩
def m_rule_lacks : MS := (sSeq (sDrop (mCall fn_want_rule (mCons (mVar 0) (mCons (mVar 1) mNil)))) (sSeq (sDrop (mCall fn_want_age (mCons (mVar 0) (mCons (mVar 2) mNil)))) (sRet (mCall fn_lacks_in (mCons (mVar 0) (mCons (mVar 1) (mCons (mVar 2) mNil)))))))
def fn_rule_lacks : FN := fnB 3 3 m_rule_lacks
theorem d_rule_lacks : FnG prog w K mg base 11 T.rule_lacks.a T.rule_lacks.f ps_rule_lacks (spI fn_rule_lacks) := fn_I T.rule_lacks.t sc_rule_lacks fun C cdv A outer s H E hgd hr => by
  have nd := sc_rule_lacks.nd
  have hu := hu_room hr
  exact (ys_cons (ys_expr (ye_call ((d_want_rule T).mono (by decide)) hgd hr rfl T.want_rule.m T.want_rule.k T.want_rule.n (ya_cons (ye_var (pv 0)) (ya_cons (ye_var (pv 1)) ya_nil)))) (ys_cons (ys_expr (ye_call ((d_want_age T).mono (by decide)) hgd hr rfl T.want_age.m T.want_age.k T.want_age.n (ya_cons (ye_var (pv 0)) (ya_cons (ye_var (pv 2)) ya_nil)))) (ys_one (ys_ret (ye_call ((d_lacks_in T).mono (by decide)) hgd hr rfl T.lacks_in.m T.lacks_in.k T.lacks_in.n (ya_cons (ye_var (pv 0)) (ya_cons (ye_var (pv 1)) (ya_cons (ye_var (pv 2)) ya_nil))))))))
/-! rule_is_right -/
def N_rule_is_right : List Str := ["book", "rule", "age"]
def ps_rule_is_right : List Str := ["book", "rule", "age"]
theorem sc_rule_is_right : FnScope N_rule_is_right ps_rule_is_right (defScope (topS 99)) := ⟨by rfl, by rfl, by rfl, by decide, by rfl, by decide +kernel, by decide +kernel⟩
def m_rule_is_right : MS := (sRet (m2 gEq (mCallN fn_rule_lacks (mCons (mVar 0) (mCons (mVar 1) mNil)) (mCons (mVar 2) mNil)) (mArgs gTupD mNil)))
def fn_rule_is_right : FN := fnB 3 3 m_rule_is_right
theorem d_rule_is_right : FnG prog w K mg base 12 T.rule_is_right.a T.rule_is_right.f ps_rule_is_right (spI fn_rule_is_right) := fn_I T.rule_is_right.t sc_rule_is_right fun C cdv A outer s H E hgd hr => by
  have nd := sc_rule_is_right.nd
  have hu := hu_room hr
  exact (ys_one (ys_ret (yc_eq hu (ye_callN ((d_rule_lacks T).mono (by decide)) hgd hr rfl T.rule_lacks.m T.rule_lacks.k T.rule_lacks.n (mlen_cons (mlen_cons mlen_nil)) (mlen_cons mlen_nil) (ya_cons (ye_var (pv 0)) (ya_cons (ye_var (pv 1)) ya_nil)) (yk_cons (ye_var (pv 2)) yk_nil)) (ye_tup ya_nil))))
/-! _law_draw -/
def N_law_draw : List Str := ["_law_feed_here", "_law_many", "_law_cell", "_law_mixed", "_law_figure", "_law_spot", "_law_cells"]
def ps_law_draw : List Str := ["_law_feed_here", "_law_many"]
theorem sc_law_draw : FnScope N_law_draw ps_law_draw (defScope (topS 102)) := ⟨by rfl, by rfl, by rfl, by decide, by rfl, by decide +kernel, by decide +kernel⟩
def m_law_draw : MS := (sSeq (sFd 0 (fun f n => { f with count := n }) (m2 gAdd (mFd 0 (fun f => f.count)) (mDat (.int 1)))) (sSeq (sIf (mT (m2 gGtI (mFd 0 (fun f => f.rest)) (mDat (.int 0)))) (sSeq (sSet 4 (m2 gMod (mArgs gInt (mCons (mFd 0 (fun f => f.rest)) mNil)) (mVar 1))) (sSeq (sFd 0 (fun f n => { f with rest := n }) (m2 gDiv (mFd 0 (fun f => f.rest)) (mVar 1))) (sRet (mVar 4)))) sNil) (sSeq (sPar 5 6 (mFd 0 (fun f => f.spot)) (mFdC 0)) (sSeq (sFd 0 (fun f n => { f with spot := n }) (m2 gAdd (mVar 5) (mDat (.int 1)))) (sSeq (sSet 2 (mIf (mT (m2 gNe (mVar 6) (mArgs gLstD mNil))) (m2 gIx (mVar 6) (m2 gMod (mArgs gInt (mCons (mVar 5) mNil)) (mArgs gLen (mCons (mVar 6) mNil)))) (mDat (.int 909823)))) (sSeq (sIf (tAn (mT (m2 gGeI (mVar 2) (m2 gPow (mDat (.int 10)) (mDat (.int 18))))) ((mT (m2 gLt (mVar 5) (mArgs gLen (mCons (mVar 6) mNil)))))) (sSeq (sFd 0 (fun f n => { f with rest := n }) (m2 gDiv (mVar 2) (mVar 1))) (sRet (m2 gMod (mArgs gInt (mCons (mVar 2) mNil)) (mVar 1)))) sNil) (sSeq (sSet 3 (m2 gMod (mArgs gInt (mCons (m2 gAdd (m2 gAdd (m2 gMul (m2 gMod (mArgs gInt (mCons (mVar 2) mNil)) (mDat (.int 1000000097))) (mDat (.int 7))) (m2 gMul (mDat (.int 121063)) (mFd 0 (fun f => f.count)))) (mDat (.int 3059))) mNil)) (mDat (.int 2147482663)))) (sSeq (sSet 3 (m2 gMod (mArgs gInt (mCons (m2 gAdd (m2 gAdd (m2 gMul (mVar 3) (mVar 3)) (m2 gMul (mDat (.int 9700817)) (mFd 0 (fun f => f.count)))) (mDat (.int 5995))) mNil)) (mDat (.int 2147481847)))) (sRet (m2 gMod (mArgs gInt (mCons (m2 gDiv (m2 gMod (mArgs gInt (mCons (m2 gAdd (m2 gMul (mVar 3) (mVar 3)) (m2 gMul (mDat (.int 3517)) (mVar 3))) mNil)) (mDat (.int 2147481763))) (mDat (.int 16))) mNil)) (mVar 1)))))))))))
def fn_law_draw : FN := fnB 7 2 m_law_draw
theorem d_law_draw : FnG prog w K mg base 1 T.law_draw.a T.law_draw.f ps_law_draw (spI fn_law_draw) := fn_I T.law_draw.t sc_law_draw fun C cdv A outer s H E hgd hr => by
  have nd := sc_law_draw.nd
  have hu := hu_room hr
  exact (ys_cons (ys_fd hu (pv 0) (yo_add (ye_fd hu (pv 0) (fun _ _ => rfl)) (ye_int)) (fun _ _ _ => rfl) (fun _ _ => rfl)) (ys_cons (ys_if (yq_gt (ye_fd hu (pv 0) (fun _ _ => rfl)) (ye_int)) (ys_cons (ys_set (i := 4) nd rfl (by first | exact .inl rfl | exact .inr rfl) (yo_mod (yb_int rfl T.b.b_int (ya_cons (ye_fd hu (pv 0) (fun _ _ => rfl)) ya_nil)) (ye_var (pv 1)))) (ys_cons (ys_fd hu (pv 0) (yo_div (ye_fd hu (pv 0) (fun _ _ => rfl)) (ye_var (pv 1))) (fun _ _ _ => rfl) (fun _ _ => rfl)) (ys_one (ys_ret (ye_var (pv 4)))))) ys_nil) (ys_cons (ys_par (i := 5) (j := 6) rfl nd rfl rfl (by decide) rfl rfl (ye_fd hu (pv 0) (fun _ _ => rfl)) (ye_fdC hu (pv 0)) rfl) (ys_cons (ys_fd hu (pv 0) (yo_add (ye_var (pv 5)) (ye_int)) (fun _ _ _ => rfl) (fun _ _ => rfl)) (ys_cons (ys_set (i := 2) nd rfl (by first | exact .inl rfl | exact .inr rfl) (ye_if (yq_ne hu (ye_var (pv 6)) (ye_lst ya_nil)) (yo_ix (ye_var (pv 6)) (yo_mod (yb_int rfl T.b.b_int (ya_cons (ye_var (pv 5)) ya_nil)) (yb_len rfl T.b.b_len (ya_cons (ye_var (pv 6)) ya_nil)))) (ye_int))) (ys_cons (ys_if (PW.pt (yw_and (yq_ge (ye_var (pv 2)) (yo_pow (ye_int) (ye_int))) (yw_and1 (yq_lt hu (ye_var (pv 5)) (yb_len rfl T.b.b_len (ya_cons (ye_var (pv 6)) ya_nil)))))) (ys_cons (ys_fd hu (pv 0) (yo_div (ye_var (pv 2)) (ye_var (pv 1))) (fun _ _ _ => rfl) (fun _ _ => rfl)) (ys_one (ys_ret (yo_mod (yb_int rfl T.b.b_int (ya_cons (ye_var (pv 2)) ya_nil)) (ye_var (pv 1)))))) ys_nil) (ys_cons (ys_set (i := 3) nd rfl (by first | exact .inl rfl | exact .inr rfl) (yo_mod (yb_int rfl T.b.b_int (ya_cons (yo_add (yo_add (yo_mul (yo_mod (yb_int rfl T.b.b_int (ya_cons (ye_var (pv 2)) ya_nil)) (ye_int)) (ye_int)) (yo_mul (ye_int) (ye_fd hu (pv 0) (fun _ _ => rfl)))) (ye_int)) ya_nil)) (ye_int))) (ys_cons (ys_set (i := 3) nd rfl (by first | exact .inl rfl | exact .inr rfl) (yo_mod (yb_int rfl T.b.b_int (ya_cons (yo_add (yo_add (yo_mul (ye_var (pv 3)) (ye_var (pv 3))) (yo_mul (ye_int) (ye_fd hu (pv 0) (fun _ _ => rfl)))) (ye_int)) ya_nil)) (ye_int))) (ys_one (ys_ret (yo_mod (yb_int rfl T.b.b_int (ya_cons (yo_div (yo_mod (yb_int rfl T.b.b_int (ya_cons (yo_add (yo_mul (ye_var (pv 3)) (ye_var (pv 3))) (yo_mul (ye_int) (ye_var (pv 3)))) ya_nil)) (ye_int)) (ye_int)) ya_nil)) (ye_var (pv 1)))))))))))))
/-! _law_any -/
def N_law_any : List Str := ["_law_feed_here", "_law_some"]
def ps_law_any : List Str := ["_law_feed_here", "_law_some"]
theorem sc_law_any : FnScope N_law_any ps_law_any (defScope (topS 103)) := ⟨by rfl, by rfl, by rfl, by decide, by rfl, by decide +kernel, by decide +kernel⟩
def m_law_any : MS := (sRet (m2 gIx (mVar 1) (mCall fn_law_draw (mCons (mVar 0) (mCons (mArgs gLen (mCons (mVar 1) mNil)) mNil)))))
def fn_law_any : FN := fnB 2 2 m_law_any
theorem d_law_any : FnG prog w K mg base 2 T.law_any.a T.law_any.f ps_law_any (spI fn_law_any) := fn_I T.law_any.t sc_law_any fun C cdv A outer s H E hgd hr => by
  have nd := sc_law_any.nd
  have hu := hu_room hr
  exact (ys_one (ys_ret (yo_ix (ye_var (pv 1)) (ye_call ((d_law_draw T).mono (by decide)) hgd hr rfl T.law_draw.m T.law_draw.k T.law_draw.n (ya_cons (ye_var (pv 0)) (ya_cons (yb_len rfl T.b.b_len (ya_cons (ye_var (pv 1)) ya_nil)) ya_nil))))))
/-! _law_motor -/
def N_law_motor : List Str := ["_law_feed_here", "_law_lamp", "_law_turn", "_law_two"]
def ps_law_motor : List Str := ["_law_feed_here"]
theorem sc_law_motor : FnScope N_law_motor ps_law_motor (defScope (topS 114)) := ⟨by rfl, by rfl, by rfl, by decide, by rfl, by decide +kernel, by decide +kernel⟩
def m_law_motor : MS := (sSeq (sSet 1 (mMotor (mArgs gTupD (mCons (mDat (.str "off")) (mCons (mDat (.str "on")) mNil))) (mCons (mDat (.str "lit")) mNil) (mArgs gTupD (mCons (mArgs gTupD (mCons (mDat (.int 0)) (mCons (mDat (.int 1)) mNil))) (mCons (mArgs gTupD (mCons (mDat (.int 0)) (mCons (mDat (.int 1)) mNil))) mNil))) (mArgs gTupD (mCons (mArgs gTupD (mCons (mDat (.int 0)) mNil)) (mCons (mArgs gTupD (mCons (mDat (.int 1)) mNil)) mNil))))) (sSeq (sSet 2 (mMotor (mArgs gTupD (mCons (mDat (.str "hold")) (mCons (mDat (.str "turn")) mNil))) (mCons (mDat (.str "lit")) mNil) (mArgs gTupD (mCons (mArgs gTupD (mCons (mDat (.int 0)) (mCons (mDat (.int 1)) mNil))) (mCons (mArgs gTupD (mCons (mDat (.int 1)) (mCons (mDat (.int 0)) mNil))) mNil))) (mArgs gTupD (mCons (mArgs gTupD (mCons (mDat (.int 0)) mNil)) (mCons (mArgs gTupD (mCons (mDat (.int 1)) mNil)) mNil))))) (sSeq (sSet 3 (mMotor (mArgs gTupD (mCons (mDat (.str "no")) (mCons (mDat (.str "yes")) mNil))) (mCons (mDat (.str "new")) (mCons (mDat (.str "still")) mNil)) (mArgs gTupD (mCons (mArgs gTupD (mCons (mDat (.int 0)) (mCons (mDat (.int 1)) mNil))) (mCons (mArgs gTupD (mCons (mDat (.int 0)) (mCons (mDat (.int 1)) mNil))) mNil))) (mArgs gTupD (mCons (mArgs gTupD (mCons (mDat (.int 0)) (mCons (mDat (.int 5)) mNil))) (mCons (mArgs gTupD (mCons (mDat (.int 1)) (mCons (mDat (.int 5)) mNil))) mNil))))) (sRet (mCall fn_law_any (mCons (mVar 0) (mCons (mArgs gLstD (mCons (mArgs gTupD (mCons (mVar 1) (mCons (mArgs gTupD (mCons (mDat (.str "lit")) mNil)) mNil))) (mCons (mArgs gTupD (mCons (mVar 2) (mCons (mArgs gTupD (mCons (mDat (.str "lit")) mNil)) mNil))) (mCons (mArgs gTupD (mCons (mVar 3) (mCons (mArgs gTupD (mCons (mDat (.str "new")) mNil)) mNil))) mNil)))) mNil)))))))
def fn_law_motor : FN := fnB 4 1 m_law_motor
theorem d_law_motor : FnG prog w K mg base 3 T.law_motor.a T.law_motor.f ps_law_motor (spI fn_law_motor) := fn_I T.law_motor.t sc_law_motor fun C cdv A outer s H E hgd hr => by
  have nd := sc_law_motor.nd
  have hu := hu_room hr
  exact (ys_cons (ys_set (i := 1) nd rfl (by first | exact .inl rfl | exact .inr rfl) (ye_motor (ye_tup (ya_cons (ye_str) (ya_cons (ye_str) ya_nil))) (ya_cons (ye_str) ya_nil) (ye_tup (ya_cons (ye_tup (ya_cons (ye_int) (ya_cons (ye_int) ya_nil))) (ya_cons (ye_tup (ya_cons (ye_int) (ya_cons (ye_int) ya_nil))) ya_nil))) (ye_tup (ya_cons (ye_tup (ya_cons (ye_int) ya_nil)) (ya_cons (ye_tup (ya_cons (ye_int) ya_nil)) ya_nil))))) (ys_cons (ys_set (i := 2) nd rfl (by first | exact .inl rfl | exact .inr rfl) (ye_motor (ye_tup (ya_cons (ye_str) (ya_cons (ye_str) ya_nil))) (ya_cons (ye_str) ya_nil) (ye_tup (ya_cons (ye_tup (ya_cons (ye_int) (ya_cons (ye_int) ya_nil))) (ya_cons (ye_tup (ya_cons (ye_int) (ya_cons (ye_int) ya_nil))) ya_nil))) (ye_tup (ya_cons (ye_tup (ya_cons (ye_int) ya_nil)) (ya_cons (ye_tup (ya_cons (ye_int) ya_nil)) ya_nil))))) (ys_cons (ys_set (i := 3) nd rfl (by first | exact .inl rfl | exact .inr rfl) (ye_motor (ye_tup (ya_cons (ye_str) (ya_cons (ye_str) ya_nil))) (ya_cons (ye_str) (ya_cons (ye_str) ya_nil)) (ye_tup (ya_cons (ye_tup (ya_cons (ye_int) (ya_cons (ye_int) ya_nil))) (ya_cons (ye_tup (ya_cons (ye_int) (ya_cons (ye_int) ya_nil))) ya_nil))) (ye_tup (ya_cons (ye_tup (ya_cons (ye_int) (ya_cons (ye_int) ya_nil))) (ya_cons (ye_tup (ya_cons (ye_int) (ya_cons (ye_int) ya_nil))) ya_nil))))) (ys_one (ys_ret (ye_call ((d_law_any T).mono (by decide)) hgd hr rfl T.law_any.m T.law_any.k T.law_any.n (ya_cons (ye_var (pv 0)) (ya_cons (ye_lst (ya_cons (ye_tup (ya_cons (ye_var (pv 1)) (ya_cons (ye_tup (ya_cons (ye_str) ya_nil)) ya_nil))) (ya_cons (ye_tup (ya_cons (ye_var (pv 2)) (ya_cons (ye_tup (ya_cons (ye_str) ya_nil)) ya_nil))) (ya_cons (ye_tup (ya_cons (ye_var (pv 3)) (ya_cons (ye_tup (ya_cons (ye_str) ya_nil)) ya_nil))) ya_nil)))) ya_nil))))))))
/-! _law_guild -/
def N_law_guild : List Str := ["_law_feed_here", "_law_most", "_law_some", "_law_names", "_law_name", "_law_pool", "_law_found", "_law_easy", "_law_large", "_law_rest", "_law_own", "_law_scares", "_law_one", "_law_other", "_law_k"]
def ps_law_guild : List Str := ["_law_feed_here", "_law_most"]
theorem sc_law_guild : FnScope N_law_guild ps_law_guild (defScope (topS 108)) := ⟨by rfl, by rfl, by rfl, by decide, by rfl, by decide +kernel, by decide +kernel⟩
def m_law_guild : MS := (sSeq (sSet 2 (mArgs gLstD (mCons (mArgs gTupD (mCons (mDat (.str "a")) (mCons (mDat (.str "b")) (mCons (mDat (.str "c")) (mCons (mDat (.str "d")) mNil))))) (mCons (mArgs gTupD (mCons (mDat (.str "east")) (mCons (mDat (.str "n")) (mCons (mDat (.str "west")) (mCons (mDat (.str "zz")) mNil))))) (mCons (mArgs gTupD (mCons (mDat (.str "ada")) (mCons (mDat (.str "bo")) (mCons (mDat (.str "cy")) (mCons (mDat (.str "di")) mNil))))) mNil))))) (sSeq (sSet 3 (mSl (mCall fn_law_any (mCons (mVar 0) (mCons (mVar 2) mNil))) oNo (oAt (mCall fn_law_any (mCons (mVar 0) (mCons (mArgs gLstD (mCons (mDat (.int 2)) (mCons (mDat (.int 3)) (mCons (mDat (.int 3)) (mCons (mDat (.int 3)) (mCons (mVar 1) mNil)))))) mNil)))))) (sSeq (sParO 5 6 (mSl (mCall fn_law_subsets (mCons (mVar 3) mNil)) (oAt (mDat (.int 1))) oNo)) (sSeq (sPar 7 8 (m2 gEq (mCall fn_law_draw (mCons (mVar 0) (mCons (mDat (.int 2)) mNil))) (mDat (.int 0))) (mLc [12] (mIt (mVar 5)) (gSet 12) (mT (m2 gEq (mArgs gLen (mCons (mVar 12) mNil)) (m2 gAdd (m2 gDiv (mArgs gLen (mCons (mVar 3) mNil)) (mDat (.int 2))) (mDat (.int 1))))) (bOne (mVar 12)))) (sSeq (sFor (mIt (mVar 3)) (gSet 4) (sSeq (sTup (mArgs gTupD (mCons (mCall fn_law_less (mCons (mVar 3) (mCons (mArgs gTupD (mCons (mVar 4) mNil)) mNil))) (mCons (mArgs gLstD mNil) mNil))) (gTupM 2 (gsCons (gSet 9) (gsCons (gSet 10) gsNil)))) (sSeq (sIf (mT (mVar 7)) (sSeq (sSet 10 (mLc [12] (mIt (mVar 8)) (gSet 12) (mT (m2 gGtI (mCall fn_law_draw (mCons (mVar 0) (mCons (mDat (.int 4)) mNil))) (mDat (.int 0)))) (bOne (mVar 12)))) (sSet 11 (mLc [13] (mIt (mVar 9)) (gSet 13) (mT (m2 gEq (mCall fn_law_draw (mCons (mVar 0) (mCons (mDat (.int 2)) mNil))) (mDat (.int 0)))) (bOne (mArgs gTupD (mCons (mVar 13) mNil)))))) (sSeq (sSet 10 (mLc [14] (mRng (mCons (m2 gAdd (mDat (.int 1)) (mCall fn_law_draw (mCons (mVar 0) (mCons (mDat (.int 2)) mNil)))) mNil)) (gSet 14) mYes (bOne (mCall fn_law_any (mCons (mVar 0) (mCons (mVar 5) mNil)))))) (sSet 11 (mLc [14] (mRng (mCons (mCall fn_law_draw (mCons (mVar 0) (mCons (mDat (.int 3)) mNil))) mNil)) (gSet 14) mYes (bOne (mCall fn_law_any (mCons (mVar 0) (mCons (mCall fn_law_subsets (mCons (mVar 9) mNil)) mNil)))))))) (sSeq (sPar 10 11 (mIf (mT (m2 gNe (mVar 10) (mArgs gLstD mNil))) (mVar 10) (mArgs gLstD (mCons (mVar 3) mNil))) (mIf (mT (m2 gNe (mVar 11) (mArgs gLstD mNil))) (mVar 11) (mArgs gLstD (mCons (mArgs gTupD mNil) mNil)))) (sApp 6 (mArgs gTupD (mCons (mVar 4) (mCons (mArgs gTuple (mCons (m1 gSortSet (mVar 10)) mNil)) (mCons (mArgs gTuple (mCons (m1 gSortSet (mVar 11)) mNil)) mNil))))))))) (sFrz 6 (sRet (mArgs gTuple (mCons (mVar 6) mNil)))))))))
def fn_law_guild : FN := fnB 15 2 m_law_guild
theorem d_law_guild : FnG prog w K mg base 3 T.law_guild.a T.law_guild.f ps_law_guild (spI fn_law_guild) := fn_I T.law_guild.t sc_law_guild fun C cdv A outer s H E hgd hr => by
  have nd := sc_law_guild.nd
  have hu := hu_room hr
  exact (ys_cons (ys_set (i := 2) nd rfl (by first | exact .inl rfl | exact .inr rfl) (ye_lst (ya_cons (ye_tup (ya_cons (ye_str) (ya_cons (ye_str) (ya_cons (ye_str) (ya_cons (ye_str) ya_nil))))) (ya_cons (ye_tup (ya_cons (ye_str) (ya_cons (ye_str) (ya_cons (ye_str) (ya_cons (ye_str) ya_nil))))) (ya_cons (ye_tup (ya_cons (ye_str) (ya_cons (ye_str) (ya_cons (ye_str) (ya_cons (ye_str) ya_nil))))) ya_nil))))) (ys_cons (ys_set (i := 3) nd rfl (by first | exact .inl rfl | exact .inr rfl) (ye_slice (ye_call ((d_law_any T).mono (by decide)) hgd hr rfl T.law_any.m T.law_any.k T.law_any.n (ya_cons (ye_var (pv 0)) (ya_cons (ye_var (pv 2)) ya_nil))) yo_no (yo_at (ye_call ((d_law_any T).mono (by decide)) hgd hr rfl T.law_any.m T.law_any.k T.law_any.n (ya_cons (ye_var (pv 0)) (ya_cons (ye_lst (ya_cons (ye_int) (ya_cons (ye_int) (ya_cons (ye_int) (ya_cons (ye_int) (ya_cons (ye_var (pv 1)) ya_nil)))))) ya_nil)))))) (ys_cons (ys_tupO (i := 5) (j := 6) rfl (ye_slice (ye_call ((d_law_subsets T).mono (by decide)) hgd hr rfl T.law_subsets.m T.law_subsets.k T.law_subsets.n (ya_cons (ye_var (pv 3)) ya_nil)) (yo_at (ye_int)) yo_no) (pg_name (i := 5) nd rfl (by first | exact .inl rfl | exact .inr rfl)) (pg_name (i := 6) nd rfl (by first | exact .inl rfl | exact .inr rfl))) (ys_cons (ys_par (i := 7) (j := 8) rfl nd rfl rfl (by decide) rfl rfl (yc_eq hu (ye_call ((d_law_draw T).mono (by decide)) hgd hr rfl T.law_draw.m T.law_draw.k T.law_draw.n (ya_cons (ye_var (pv 0)) (ya_cons (ye_int) ya_nil))) (ye_int)) (ye_lc (own := [("_law_one", 12)]) rfl nd (yi_seq (ye_var (pv 5))) (blkOk_by (N := N_law_guild) (sc := defScope (topS 108)) (by decide +kernel)) (fun _ _ _ _ _ => (yg_name (pg_name (i := 12) nd rfl (by first | exact .inl rfl | exact .inr rfl)) (by decide))) (fun _ _ _ _ _ => (yts_one (yq_eq hu (yb_len rfl T.b.b_len (ya_cons (ye_var (pv 12)) ya_nil)) (yo_add (yo_div (yb_len rfl T.b.b_len (ya_cons (ye_var (pv 3)) ya_nil)) (ye_int)) (ye_int))))) (fun _ _ _ _ _ => (ye_var (pv 12)))) rfl) (ys_cons (ys_for (vs := [0, 1, 2, 3, 4, 5, 6, 7, 8, 9, 10, 11, 12, 13, 14]) PassesOwn.never rfl (yi_seq (ye_var (pv 3))) (yg_name (pg_name (i := 4) nd rfl (by first | exact .inl rfl | exact .inr rfl)) (by decide)) (ys_cons (ys_asg (vs := [0, 1, 2, 3, 4, 5, 6, 7, 8, 9, 10, 11, 12, 13, 14]) (ye_tup (ya_cons (ye_call ((d_law_less T).mono (by decide)) hgd hr rfl T.law_less.m T.law_less.k T.law_less.n (ya_cons (ye_var (pv 3)) (ya_cons (ye_tup (ya_cons (ye_var (pv 4)) ya_nil)) ya_nil))) (ya_cons (ye_lst ya_nil) ya_nil))) (yg_tup rfl (ygs_cons (yg_name (pg_name (i := 9) nd rfl (by first | exact .inl rfl | exact .inr rfl)) (by decide)) (ygs_cons (yg_name (pg_name (i := 10) nd rfl (by first | exact .inl rfl | exact .inr rfl)) (by decide)) ygs_nil)))) (ys_cons (ys_if (yt_of (ye_var (pv 7))) (ys_cons (by first | exact ys_setLc (own := [("_law_one", 12)]) (i := 10) rfl nd rfl rfl (sw_true rfl rfl rfl rfl) (yi_seq (ye_var (pv 8))) (blkOk_by (N := N_law_guild) (sc := defScope (topS 108)) (by decide +kernel)) (fun _ _ _ _ _ => (yg_name (pg_name (i := 12) nd rfl (by first | exact .inl rfl | exact .inr rfl)) (by decide))) (fun _ _ _ _ _ => (yts_one (yq_gt (ye_call ((d_law_draw T).mono (by decide)) hgd hr rfl T.law_draw.m T.law_draw.k T.law_draw.n (ya_cons (ye_var (pv 0)) (ya_cons (ye_int) ya_nil))) (ye_int)))) (fun _ _ _ _ _ => (ye_var (pv 12))) | exact ys_set (i := 10) nd rfl (by first | exact .inl rfl | exact .inr rfl) (ye_lc (own := [("_law_one", 12)]) rfl nd (yi_seq (ye_var (pv 8))) (blkOk_by (N := N_law_guild) (sc := defScope (topS 108)) (by decide +kernel)) (fun _ _ _ _ _ => (yg_name (pg_name (i := 12) nd rfl (by first | exact .inl rfl | exact .inr rfl)) (by decide))) (fun _ _ _ _ _ => (yts_one (yq_gt (ye_call ((d_law_draw T).mono (by decide)) hgd hr rfl T.law_draw.m T.law_draw.k T.law_draw.n (ya_cons (ye_var (pv 0)) (ya_cons (ye_int) ya_nil))) (ye_int)))) (fun _ _ _ _ _ => (ye_var (pv 12))))) (ys_one (by first | exact ys_setLc (own := [("_law_other", 13)]) (i := 11) rfl nd rfl rfl (sw_true rfl rfl rfl rfl) (yi_seq (ye_var (pv 9))) (blkOk_by (N := N_law_guild) (sc := defScope (topS 108)) (by decide +kernel)) (fun _ _ _ _ _ => (yg_name (pg_name (i := 13) nd rfl (by first | exact .inl rfl | exact .inr rfl)) (by decide))) (fun _ _ _ _ _ => (yts_one (yq_eq hu (ye_call ((d_law_draw T).mono (by decide)) hgd hr rfl T.law_draw.m T.law_draw.k T.law_draw.n (ya_cons (ye_var (pv 0)) (ya_cons (ye_int) ya_nil))) (ye_int)))) (fun _ _ _ _ _ => (ye_tup (ya_cons (ye_var (pv 13)) ya_nil))) | exact ys_set (i := 11) nd rfl (by first | exact .inl rfl | exact .inr rfl) (ye_lc (own := [("_law_other", 13)]) rfl nd (yi_seq (ye_var (pv 9))) (blkOk_by (N := N_law_guild) (sc := defScope (topS 108)) (by decide +kernel)) (fun _ _ _ _ _ => (yg_name (pg_name (i := 13) nd rfl (by first | exact .inl rfl | exact .inr rfl)) (by decide))) (fun _ _ _ _ _ => (yts_one (yq_eq hu (ye_call ((d_law_draw T).mono (by decide)) hgd hr rfl T.law_draw.m T.law_draw.k T.law_draw.n (ya_cons (ye_var (pv 0)) (ya_cons (ye_int) ya_nil))) (ye_int)))) (fun _ _ _ _ _ => (ye_tup (ya_cons (ye_var (pv 13)) ya_nil))))))) (ys_cons (by first | exact ys_setLc (own := [("_law_k", 14)]) (i := 10) rfl nd rfl rfl (sw_true rfl rfl rfl rfl) (yi_range rfl T.b.b_range (ya_cons (yo_add (ye_int) (ye_call ((d_law_draw T).mono (by decide)) hgd hr rfl T.law_draw.m T.law_draw.k T.law_draw.n (ya_cons (ye_var (pv 0)) (ya_cons (ye_int) ya_nil)))) ya_nil)) (blkOk_by (N := N_law_guild) (sc := defScope (topS 108)) (by decide +kernel)) (fun _ _ _ _ _ => (yg_name (pg_name (i := 14) nd rfl (by first | exact .inl rfl | exact .inr rfl)) (by decide))) (fun _ _ _ _ _ => yts_nil) (fun _ _ _ _ _ => (ye_call ((d_law_any T).mono (by decide)) hgd hr rfl T.law_any.m T.law_any.k T.law_any.n (ya_cons (ye_var (pv 0)) (ya_cons (ye_var (pv 5)) ya_nil)))) | exact ys_set (i := 10) nd rfl (by first | exact .inl rfl | exact .inr rfl) (ye_lc (own := [("_law_k", 14)]) rfl nd (yi_range rfl T.b.b_range (ya_cons (yo_add (ye_int) (ye_call ((d_law_draw T).mono (by decide)) hgd hr rfl T.law_draw.m T.law_draw.k T.law_draw.n (ya_cons (ye_var (pv 0)) (ya_cons (ye_int) ya_nil)))) ya_nil)) (blkOk_by (N := N_law_guild) (sc := defScope (topS 108)) (by decide +kernel)) (fun _ _ _ _ _ => (yg_name (pg_name (i := 14) nd rfl (by first | exact .inl rfl | exact .inr rfl)) (by decide))) (fun _ _ _ _ _ => yts_nil) (fun _ _ _ _ _ => (ye_call ((d_law_any T).mono (by decide)) hgd hr rfl T.law_any.m T.law_any.k T.law_any.n (ya_cons (ye_var (pv 0)) (ya_cons (ye_var (pv 5)) ya_nil)))))) (ys_one (by first | exact ys_setLc (own := [("_law_k", 14)]) (i := 11) rfl nd rfl rfl (sw_true rfl rfl rfl rfl) (yi_range rfl T.b.b_range (ya_cons (ye_call ((d_law_draw T).mono (by decide)) hgd hr rfl T.law_draw.m T.law_draw.k T.law_draw.n (ya_cons (ye_var (pv 0)) (ya_cons (ye_int) ya_nil))) ya_nil)) (blkOk_by (N := N_law_guild) (sc := defScope (topS 108)) (by decide +kernel)) (fun _ _ _ _ _ => (yg_name (pg_name (i := 14) nd rfl (by first | exact .inl rfl | exact .inr rfl)) (by decide))) (fun _ _ _ _ _ => yts_nil) (fun _ _ _ _ _ => (ye_call ((d_law_any T).mono (by decide)) hgd hr rfl T.law_any.m T.law_any.k T.law_any.n (ya_cons (ye_var (pv 0)) (ya_cons (ye_call ((d_law_subsets T).mono (by decide)) hgd hr rfl T.law_subsets.m T.law_subsets.k T.law_subsets.n (ya_cons (ye_var (pv 9)) ya_nil)) ya_nil)))) | exact ys_set (i := 11) nd rfl (by first | exact .inl rfl | exact .inr rfl) (ye_lc (own := [("_law_k", 14)]) rfl nd (yi_range rfl T.b.b_range (ya_cons (ye_call ((d_law_draw T).mono (by decide)) hgd hr rfl T.law_draw.m T.law_draw.k T.law_draw.n (ya_cons (ye_var (pv 0)) (ya_cons (ye_int) ya_nil))) ya_nil)) (blkOk_by (N := N_law_guild) (sc := defScope (topS 108)) (by decide +kernel)) (fun _ _ _ _ _ => (yg_name (pg_name (i := 14) nd rfl (by first | exact .inl rfl | exact .inr rfl)) (by decide))) (fun _ _ _ _ _ => yts_nil) (fun _ _ _ _ _ => (ye_call ((d_law_any T).mono (by decide)) hgd hr rfl T.law_any.m T.law_any.k T.law_any.n (ya_cons (ye_var (pv 0)) (ya_cons (ye_call ((d_law_subsets T).mono (by decide)) hgd hr rfl T.law_subsets.m T.law_subsets.k T.law_subsets.n (ya_cons (ye_var (pv 9)) ya_nil)) ya_nil))))))))) (ys_cons (ys_par (i := 10) (j := 11) rfl nd rfl rfl (by decide) rfl rfl (ye_if (yq_ne hu (ye_var (pv 10)) (ye_lst ya_nil)) (ye_var (pv 10)) (ye_lst (ya_cons (ye_var (pv 3)) ya_nil))) (ye_if (yq_ne hu (ye_var (pv 11)) (ye_lst ya_nil)) (ye_var (pv 11)) (ye_lst (ya_cons (ye_tup ya_nil) ya_nil))) rfl) (ys_one (ys_app (i := 6) (pv 6) (ye_tup (ya_cons (ye_var (pv 4)) (ya_cons (yb_tuple rfl T.b.b_tuple (ya_cons (ye_sortSet (ye_var (pv 10)) rfl hu rfl T.b.b_sorted rfl T.b.b_set) ya_nil)) (ya_cons (yb_tuple rfl T.b.b_tuple (ya_cons (ye_sortSet (ye_var (pv 11)) rfl hu rfl T.b.b_sorted rfl T.b.b_set) ya_nil)) ya_nil)))))))))) (ys_one (ys_frz 6 (ys_ret (yb_tuple rfl T.b.b_tuple (ya_cons (ye_var (pv 6)) ya_nil))))))))))
/-! _law_near -/
def N_law_near : List Str := ["_law_feed_here", "_law_guild_here", "_law_names", "_law_k", "_law_name", "_law_own", "_law_scares"]
def ps_law_near : List Str := ["_law_feed_here", "_law_guild_here", "_law_names"]
theorem sc_law_near : FnScope N_law_near ps_law_near (defScope (topS 117)) := ⟨by rfl, by rfl, by rfl, by decide, by rfl, by decide +kernel, by decide +kernel⟩
def m_law_near : MS := (sSeq (sSet 3 (mCall fn_law_draw (mCons (mVar 0) (mCons (mArgs gLen (mCons (mVar 1) mNil)) mNil)))) (sSeq (sTup (m2 gIx (mVar 1) (mVar 3)) (gTupM 3 (gsCons (gSet 4) (gsCons (gSet 5) (gsCons (gSet 6) gsNil))))) (sSeq (sIf (mT (m2 gEq (mCall fn_law_draw (mCons (mVar 0) (mCons (mDat (.int 2)) mNil))) (mDat (.int 0)))) (sSet 5 (mSl (mArgs gTuple (mCons (m1 gSortSet (m2 gCatT (mVar 5) (mArgs gTupD (mCons (mCall fn_law_any (mCons (mVar 0) (mCons (mSl (mCall fn_law_subsets (mCons (mVar 2) mNil)) (oAt (mDat (.int 1))) oNo) mNil))) mNil)))) mNil)) oNo (oAt (mDat (.int 4))))) (sSet 6 (mArgs gTupD (mCons (mCall fn_law_any (mCons (mVar 0) (mCons (mCall fn_law_subsets (mCons (mCall fn_law_less (mCons (mVar 2) (mCons (mArgs gTupD (mCons (mVar 4) mNil)) mNil))) mNil)) mNil))) mNil)))) (sRet (m2 gCatT (m2 gCatT (mSl (mVar 1) oNo (oAt (mVar 3))) (mArgs gTupD (mCons (mArgs gTupD (mCons (mVar 4) (mCons (mVar 5) (mCons (mVar 6) mNil)))) mNil))) (mSl (mVar 1) (oAt (m2 gAdd (mVar 3) (mDat (.int 1)))) oNo))))))
def fn_law_near : FN := fnB 7 3 m_law_near
theorem d_law_near : FnG prog w K mg base 3 T.law_near.a T.law_near.f ps_law_near (spI fn_law_near) := fn_I T.law_near.t sc_law_near fun C cdv A outer s H E hgd hr => by
  have nd := sc_law_near.nd
  have hu := hu_room hr
  exact (ys_cons (ys_set (i := 3) nd rfl (by first | exact .inl rfl | exact .inr rfl) (ye_call ((d_law_draw T).mono (by decide)) hgd hr rfl T.law_draw.m T.law_draw.k T.law_draw.n (ya_cons (ye_var (pv 0)) (ya_cons (yb_len rfl T.b.b_len (ya_cons (ye_var (pv 1)) ya_nil)) ya_nil)))) (ys_cons (ys_asg (vs := [0, 1, 2, 3, 4, 5, 6]) (yo_ix (ye_var (pv 1)) (ye_var (pv 3))) (yg_tup rfl (ygs_cons (yg_name (pg_name (i := 4) nd rfl (by first | exact .inl rfl | exact .inr rfl)) (by decide)) (ygs_cons (yg_name (pg_name (i := 5) nd rfl (by first | exact .inl rfl | exact .inr rfl)) (by decide)) (ygs_cons (yg_name (pg_name (i := 6) nd rfl (by first | exact .inl rfl | exact .inr rfl)) (by decide)) ygs_nil))))) (ys_cons (ys_if (yq_eq hu (ye_call ((d_law_draw T).mono (by decide)) hgd hr rfl T.law_draw.m T.law_draw.k T.law_draw.n (ya_cons (ye_var (pv 0)) (ya_cons (ye_int) ya_nil))) (ye_int)) (ys_one (ys_set (i := 5) nd rfl (by first | exact .inl rfl | exact .inr rfl) (ye_slice (yb_tuple rfl T.b.b_tuple (ya_cons (ye_sortSet (yo_catT (ye_var (pv 5)) (ye_tup (ya_cons (ye_call ((d_law_any T).mono (by decide)) hgd hr rfl T.law_any.m T.law_any.k T.law_any.n (ya_cons (ye_var (pv 0)) (ya_cons (ye_slice (ye_call ((d_law_subsets T).mono (by decide)) hgd hr rfl T.law_subsets.m T.law_subsets.k T.law_subsets.n (ya_cons (ye_var (pv 2)) ya_nil)) (yo_at (ye_int)) yo_no) ya_nil))) ya_nil))) rfl hu rfl T.b.b_sorted rfl T.b.b_set) ya_nil)) yo_no (yo_at (ye_int))))) (ys_one (ys_set (i := 6) nd rfl (by first | exact .inl rfl | exact .inr rfl) (ye_tup (ya_cons (ye_call ((d_law_any T).mono (by decide)) hgd hr rfl T.law_any.m T.law_any.k T.law_any.n (ya_cons (ye_var (pv 0)) (ya_cons (ye_call ((d_law_subsets T).mono (by decide)) hgd hr rfl T.law_subsets.m T.law_subsets.k T.law_subsets.n (ya_cons (ye_call ((d_law_less T).mono (by decide)) hgd hr rfl T.law_less.m T.law_less.k T.law_less.n (ya_cons (ye_var (pv 2)) (ya_cons (ye_tup (ya_cons (ye_var (pv 4)) ya_nil)) ya_nil))) ya_nil)) ya_nil))) ya_nil))))) (ys_one (ys_ret (yo_catT (yo_catT (ye_slice (ye_var (pv 1)) yo_no (yo_at (ye_var (pv 3)))) (ye_tup (ya_cons (ye_tup (ya_cons (ye_var (pv 4)) (ya_cons (ye_var (pv 5)) (ya_cons (ye_var (pv 6)) ya_nil)))) ya_nil))) (ye_slice (ye_var (pv 1)) (yo_at (yo_add (ye_var (pv 3)) (ye_int))) yo_no)))))))
/-! _law_are_alike_right -/
def N_law_are_alike_right : List Str := ["_law_feed_here", "_law_guild_here", "_law_far", "_law_table", "_law_names", "_law_safes_here", "_law_other", "_law_due", "_law_least", "_law_told", "_law_parting", "_law_pool", "_law_name", "_law_one", "_law_some", "_law_motor_here", "_law_moving"]
def ps_law_are_alike_right : List Str := ["_law_feed_here", "_law_guild_here", "_law_far", "_law_table"]
theorem sc_law_are_alike_right : FnScope N_law_are_alike_right ps_law_are_alike_right (defScope (topS 119)) := ⟨by rfl, by rfl, by rfl, by decide, by rfl, by decide +kernel, by decide +kernel⟩
def m_law_are_alike_right : MS := (sSeq (sSet 4 (mArgs gTuple (mCons (mLc [13] (mIt (mVar 1)) (gSet 13) mYes (bOne (m2 gIx (mVar 13) (mDat (.int 0))))) mNil))) (sSeq (sSet 5 (mCall fn_law_safes (mCons (mVar 2) mNil))) (sSeq (sSet 6 (mArgs gDict (mCons (mLc [12] (mIt (mVar 4)) (gSet 12) mYes (bOne (mArgs gTupD (mCons (mVar 12) (mCons (mCall fn_law_needs (mCons (mVar 2) (mCons (mVar 5) (mCons (mVar 12) mNil)))) mNil))))) mNil))) (sSeq (sSet 7 (m2 gTabEq (mVar 3) (mVar 6))) (sSeq (sSet 8 (mLc [13] (mIt (mArgs gTupD (mCons (mVar 1) (mCons (mVar 2) mNil)))) (gSet 13) mYes (bOne (mLc [12] (mIt (mVar 4)) (gSet 12) mYes (bOne (mCall fn_least_lots (mCons (mVar 13) (mCons (mVar 12) mNil)))))))) (sSeq (sOwnL 9 (mCons (mCall fn_trusts_alike (mCons (mVar 1) (mCons (mVar 2) mNil))) (mCons (mCall fn_trusts_alike (mCons (mVar 2) (mCons (mVar 1) mNil))) (mCons (m2 gEq (m2 gIx (mVar 8) (mDat (.int 0))) (m2 gIx (mVar 8) (mDat (.int 1)))) mNil)))) (sSeq (sFrz 9 (sIf (tNo (mT (mCall fn_law_same (mCons (mVar 9) (mCons (m2 gRepL (mArgs gLstD (mCons (mVar 7) mNil)) (mDat (.int 3))) mNil))))) (sRet (mDat (.bool false))) sNil)) (sSeq (sSet 10 (mCall fn_parting_lot (mCons (mVar 1) (mCons (mVar 2) mNil)))) (sSeq (sIf (tO (mT (mVar 7)) ((mT (m2 gIsN (mVar 10) (mDat .none))))) (sRet (mAnd (mVar 7) ((m2 gIsN (mVar 10) (mDat .none))))) sNil) (sSeq (sSet 11 (mArgs gLstD mNil)) (sSeq (sFor (mIt (mVar 4)) (gSet 12) (sSet 11 (m2 gCatL (mVar 11) (mLc [14] (mIt (mCall fn_law_subsets (mCons (mVar 4) mNil))) (gSet 14) mYes (bOne (mArgs gRepr (mCons (mArgs gTupD (mCons (mVar 12) (mCons (mVar 14) mNil))) mNil))))))) (sSeq (sIf (mT (m2 gNotIn (mArgs gRepr (mCons (mVar 10) mNil)) (mVar 11))) (sRet (mDat (.bool false))) sNil) (sSeq (sTup (mVar 10) (gTupM 2 (gsCons (gSet 12) (gsCons (gSet 14) gsNil)))) (sSeq (sIf (mT (m2 gEq (mCall fn_law_meets (mCons (m2 gGet (mVar 3) (mVar 12)) (mCons (mVar 14) mNil))) (mCall fn_law_meets (mCons (m2 gGet (mVar 6) (mVar 12)) (mCons (mVar 14) mNil))))) (sRet (mDat (.bool false))) sNil) (sSeq (sTup (mCall fn_law_motor (mCons (mVar 0) mNil)) (gTupM 2 (gsCons (gSet 15) (gsCons (gSet 16) gsNil)))) (sSeq (sOwnL 9 mNil) (sSeq (sFor (mIt (mArgs gTupD (mCons (mVar 1) (mCons (mVar 2) mNil)))) (gSet 13) (sApp 9 (mCallD fn_rule_is_right [wI 0] (mCons (mArgs gTupD (mCons (mVar 15) (mCons (mVar 13) (mCons (mArgs gTupD mNil) (mCons (mArgs gTupD (mCons (mArgs gTupD (mCons (mVar 12) (mCons (mVar 16) (mCons (mVar 14) (mCons (mDat (.str "any")) (mCons (mArgs gTupD mNil) mNil)))))) mNil)) (mCons (mArgs gTupD mNil) mNil)))))) (mCons (mDat (.int 0)) mNil))))) (sFrz 9 (sRet (mCall fn_law_same (mCons (mVar 9) (mCons (mArgs gLstD (mCons (mCall fn_law_meets (mCons (m2 gGet (mVar 3) (mVar 12)) (mCons (mVar 14) mNil))) (mCons (mCall fn_law_meets (mCons (m2 gGet (mVar 6) (mVar 12)) (mCons (mVar 14) mNil))) mNil))) mNil))))))))))))))))))))))
def fn_law_are_alike_right : FN := fnB 17 4 m_law_are_alike_right
theorem d_law_are_alike_right : FnG prog w K mg base 13 T.law_are_alike_right.a T.law_are_alike_right.f ps_law_are_alike_right (spI fn_law_are_alike_right) := fn_I T.law_are_alike_right.t sc_law_are_alike_right fun C cdv A outer s H E hgd hr => by
  have nd := sc_law_are_alike_right.nd
  have hu := hu_room hr
  exact (ys_cons (ys_set (i := 4) nd rfl (by first | exact .inl rfl | exact .inr rfl) (yb_tuple rfl T.b.b_tuple (ya_cons (ye_lc (own := [("_law_one", 13)]) rfl nd (yi_seq (ye_var (pv 1))) (blkOk_by (N := N_law_are_alike_right) (sc := defScope (topS 119)) (by decide +kernel)) (fun _ _ _ _ _ => (yg_name (pg_name (i := 13) nd rfl (by first | exact .inl rfl | exact .inr rfl)) (by decide))) (fun _ _ _ _ _ => yts_nil) (fun _ _ _ _ _ => (yo_ix (ye_var (pv 13)) (ye_int)))) ya_nil))) (ys_cons (ys_set (i := 5) nd rfl (by first | exact .inl rfl | exact .inr rfl) (ye_call ((d_law_safes T).mono (by decide)) hgd hr rfl T.law_safes.m T.law_safes.k T.law_safes.n (ya_cons (ye_var (pv 2)) ya_nil))) (ys_cons (ys_set (i := 6) nd rfl (by first | exact .inl rfl | exact .inr rfl) (yb_dict rfl rfl T.b.b_dict (ya_cons (ye_lc (own := [("_law_name", 12)]) rfl nd (yi_seq (ye_var (pv 4))) (blkOk_by (N := N_law_are_alike_right) (sc := defScope (topS 119)) (by decide +kernel)) (fun _ _ _ _ _ => (yg_name (pg_name (i := 12) nd rfl (by first | exact .inl rfl | exact .inr rfl)) (by decide))) (fun _ _ _ _ _ => yts_nil) (fun _ _ _ _ _ => (ye_tup (ya_cons (ye_var (pv 12)) (ya_cons (ye_call ((d_law_needs T).mono (by decide)) hgd hr rfl T.law_needs.m T.law_needs.k T.law_needs.n (ya_cons (ye_var (pv 2)) (ya_cons (ye_var (pv 5)) (ya_cons (ye_var (pv 12)) ya_nil)))) ya_nil))))) ya_nil))) (ys_cons (ys_set (i := 7) nd rfl (by first | exact .inl rfl | exact .inr rfl) (yc_tab hu (ye_var (pv 3)) (ye_var (pv 6)))) (ys_cons (by first | exact ys_setLc (own := [("_law_one", 13)]) (i := 8) rfl nd rfl rfl (sw_true rfl rfl rfl rfl) (yi_seq (ye_tup (ya_cons (ye_var (pv 1)) (ya_cons (ye_var (pv 2)) ya_nil)))) (blkOk_by (N := N_law_are_alike_right) (sc := defScope (topS 119)) (by decide +kernel)) (fun _ _ _ _ _ => (yg_name (pg_name (i := 13) nd rfl (by first | exact .inl rfl | exact .inr rfl)) (by decide))) (fun _ _ _ _ _ => yts_nil) (fun _ _ _ _ _ => (ye_lc (own := [("_law_name", 12)]) rfl nd (yi_seq (ye_var (pv 4))) (blkOk_by (by kernel_rfl)) (fun _ _ _ _ _ => (yg_name (pg_name (i := 12) nd rfl (by first | exact .inl rfl | exact .inr rfl)) (by decide))) (fun _ _ _ _ _ => yts_nil) (fun _ _ _ _ _ => (ye_call ((d_least_lots T).mono (by decide)) hgd hr rfl T.least_lots.m T.least_lots.k T.least_lots.n (ya_cons (ye_var (pv 13)) (ya_cons (ye_var (pv 12)) ya_nil)))))) | exact ys_set (i := 8) nd rfl (by first | exact .inl rfl | exact .inr rfl) (ye_lc (own := [("_law_one", 13)]) rfl nd (yi_seq (ye_tup (ya_cons (ye_var (pv 1)) (ya_cons (ye_var (pv 2)) ya_nil)))) (blkOk_by (N := N_law_are_alike_right) (sc := defScope (topS 119)) (by decide +kernel)) (fun _ _ _ _ _ => (yg_name (pg_name (i := 13) nd rfl (by first | exact .inl rfl | exact .inr rfl)) (by decide))) (fun _ _ _ _ _ => yts_nil) (fun _ _ _ _ _ => (ye_lc (own := [("_law_name", 12)]) rfl nd (yi_seq (ye_var (pv 4))) (blkOk_by (by kernel_rfl)) (fun _ _ _ _ _ => (yg_name (pg_name (i := 12) nd rfl (by first | exact .inl rfl | exact .inr rfl)) (by decide))) (fun _ _ _ _ _ => yts_nil) (fun _ _ _ _ _ => (ye_call ((d_least_lots T).mono (by decide)) hgd hr rfl T.least_lots.m T.least_lots.k T.least_lots.n (ya_cons (ye_var (pv 13)) (ya_cons (ye_var (pv 12)) ya_nil)))))))) (ys_cons (ys_ownL (i := 9) nd rfl (by first | exact .inl rfl | exact .inr rfl) (ya_cons (ye_call ((d_trusts_alike T).mono (by decide)) hgd hr rfl T.trusts_alike.m T.trusts_alike.k T.trusts_alike.n (ya_cons (ye_var (pv 1)) (ya_cons (ye_var (pv 2)) ya_nil))) (ya_cons (ye_call ((d_trusts_alike T).mono (by decide)) hgd hr rfl T.trusts_alike.m T.trusts_alike.k T.trusts_alike.n (ya_cons (ye_var (pv 2)) (ya_cons (ye_var (pv 1)) ya_nil))) (ya_cons (yc_eq hu (yo_ix (ye_var (pv 8)) (ye_int)) (yo_ix (ye_var (pv 8)) (ye_int))) ya_nil)))) (ys_cons (ys_frz 9 (ys_if (yt_not (yt_of (ye_call ((d_law_same T).mono (by decide)) hgd hr rfl T.law_same.m T.law_same.k T.law_same.n (ya_cons (ye_var (pv 9)) (ya_cons (yo_rep (ye_lst (ya_cons (ye_var (pv 7)) ya_nil)) (ye_int)) ya_nil))))) (ys_one (ys_ret (ye_bl))) ys_nil)) (ys_cons (ys_set (i := 10) nd rfl (by first | exact .inl rfl | exact .inr rfl) (ye_call ((d_parting_lot T).mono (by decide)) hgd hr rfl T.parting_lot.m T.parting_lot.k T.parting_lot.n (ya_cons (ye_var (pv 1)) (ya_cons (ye_var (pv 2)) ya_nil)))) (ys_cons (ys_if (PW.pt (yw_or (yt_of (ye_var (pv 7))) (yw_or1 (yq_isN (ye_var (pv 10)) (ye_non))))) (ys_one (ys_ret (ye_and (ye_var (pv 7)) (ye_one (yc_isN (ye_var (pv 10)) (ye_non)))))) ys_nil) (ys_cons (ys_set (i := 11) nd rfl (by first | exact .inl rfl | exact .inr rfl) (ye_lst ya_nil)) (ys_cons (ys_for (vs := [0, 1, 2, 3, 4, 5, 6, 7, 8, 9, 10, 11, 12, 13, 14, 15, 16]) PassesOwn.never rfl (yi_seq (ye_var (pv 4))) (yg_name (pg_name (i := 12) nd rfl (by first | exact .inl rfl | exact .inr rfl)) (by decide)) (ys_one (ys_set (i := 11) nd rfl (by first | exact .inl rfl | exact .inr rfl) (yo_catL (ye_var (pv 11)) (ye_lc (own := [("_law_some", 14)]) rfl nd (yi_seq (ye_call ((d_law_subsets T).mono (by decide)) hgd hr rfl T.law_subsets.m T.law_subsets.k T.law_subsets.n (ya_cons (ye_var (pv 4)) ya_nil))) (blkOk_by (N := N_law_are_alike_right) (sc := defScope (topS 119)) (by decide +kernel)) (fun _ _ _ _ _ => (yg_name (pg_name (i := 14) nd rfl (by first | exact .inl rfl | exact .inr rfl)) (by decide))) (fun _ _ _ _ _ => yts_nil) (fun _ _ _ _ _ => (yb_repr hgd hu rfl T.b.b_repr (ya_cons (ye_tup (ya_cons (ye_var (pv 12)) (ya_cons (ye_var (pv 14)) ya_nil))) ya_nil)))))))) (ys_cons (ys_if (yq_nin hu (yb_repr hgd hu rfl T.b.b_repr (ya_cons (ye_var (pv 10)) ya_nil)) (ye_var (pv 11))) (ys_one (ys_ret (ye_bl))) ys_nil) (ys_cons (ys_asg (vs := [0, 1, 2, 3, 4, 5, 6, 7, 8, 9, 10, 11, 12, 13, 14, 15, 16]) (ye_var (pv 10)) (yg_tup rfl (ygs_cons (yg_name (pg_name (i := 12) nd rfl (by first | exact .inl rfl | exact .inr rfl)) (by decide)) (ygs_cons (yg_name (pg_name (i := 14) nd rfl (by first | exact .inl rfl | exact .inr rfl)) (by decide)) ygs_nil)))) (ys_cons (ys_if (yq_eq hu (ye_call ((d_law_meets T).mono (by decide)) hgd hr rfl T.law_meets.m T.law_meets.k T.law_meets.n (ya_cons (yo_get hu (ye_var (pv 3)) (ye_var (pv 12))) (ya_cons (ye_var (pv 14)) ya_nil))) (ye_call ((d_law_meets T).mono (by decide)) hgd hr rfl T.law_meets.m T.law_meets.k T.law_meets.n (ya_cons (yo_get hu (ye_var (pv 6)) (ye_var (pv 12))) (ya_cons (ye_var (pv 14)) ya_nil)))) (ys_one (ys_ret (ye_bl))) ys_nil) (ys_cons (ys_asg (vs := [0, 1, 2, 3, 4, 5, 6, 7, 8, 9, 10, 11, 12, 13, 14, 15, 16]) (ye_call ((d_law_motor T).mono (by decide)) hgd hr rfl T.law_motor.m T.law_motor.k T.law_motor.n (ya_cons (ye_var (pv 0)) ya_nil)) (yg_tup rfl (ygs_cons (yg_name (pg_name (i := 15) nd rfl (by first | exact .inl rfl | exact .inr rfl)) (by decide)) (ygs_cons (yg_name (pg_name (i := 16) nd rfl (by first | exact .inl rfl | exact .inr rfl)) (by decide)) ygs_nil)))) (ys_cons (ys_ownL (i := 9) nd rfl (by first | exact .inl rfl | exact .inr rfl) ya_nil) (ys_cons (ys_for (vs := [0, 1, 2, 3, 4, 5, 6, 7, 8, 9, 10, 11, 12, 13, 14, 15, 16]) PassesOwn.never rfl (yi_seq (ye_tup (ya_cons (ye_var (pv 1)) (ya_cons (ye_var (pv 2)) ya_nil)))) (yg_name (pg_name (i := 13) nd rfl (by first | exact .inl rfl | exact .inr rfl)) (by decide)) (ys_one (ys_app (i := 9) (pv 9) (ye_callD ((d_rule_is_right T).mono (by decide)) hgd hr rfl T.rule_is_right.m T.rule_is_right.k T.rule_is_right.n T.rule_is_right.w (fun _ => .cons (Rp.int _) .nil) (ya_cons (ye_tup (ya_cons (ye_var (pv 15)) (ya_cons (ye_var (pv 13)) (ya_cons (ye_tup ya_nil) (ya_cons (ye_tup (ya_cons (ye_tup (ya_cons (ye_var (pv 12)) (ya_cons (ye_var (pv 16)) (ya_cons (ye_var (pv 14)) (ya_cons (ye_str) (ya_cons (ye_tup ya_nil) ya_nil)))))) ya_nil)) (ya_cons (ye_tup ya_nil) ya_nil)))))) (ya_cons (ye_int) ya_nil)))))) (ys_one (ys_frz 9 (ys_ret (ye_call ((d_law_same T).mono (by decide)) hgd hr rfl T.law_same.m T.law_same.k T.law_same.n (ya_cons (ye_var (pv 9)) (ya_cons (ye_lst (ya_cons (ye_call ((d_law_meets T).mono (by decide)) hgd hr rfl T.law_meets.m T.law_meets.k T.law_meets.n (ya_cons (yo_get hu (ye_var (pv 3)) (ye_var (pv 12))) (ya_cons (ye_var (pv 14)) ya_nil))) (ya_cons (ye_call ((d_law_meets T).mono (by decide)) hgd hr rfl T.law_meets.m T.law_meets.k T.law_meets.n (ya_cons (yo_get hu (ye_var (pv 6)) (ye_var (pv 12))) (ya_cons (ye_var (pv 14)) ya_nil))) ya_nil))) ya_nil)))))))))))))))))))))))
end
end Y
end KG2
section KG3
set_option Elab.async false
set_option linter.all false
set_option maxRecDepth 100000
set_option maxHeartbeats 4000000
/-! The walk, printed by gen.py. -/
namespace Y
open PySem PySem.Spec PyProof.Rows L2
section
variable {prog : Program} {w : World} {K : PySem.W.Frag} {mg : Str → Option Value} {base : Heap} (T : Tx K mg)
def N_law_right : List Str := ["_law_script", "_law_feed_here", "_law_guild_here", "_law_table", "_law_thin_here", "_law_far", "_law_names", "_law_safes_here", "_law_name", "_law_one"]
def ps_law_right : List Str := ["_law_script"]
theorem sc_law_right : FnScope N_law_right ps_law_right (defScope (topS 120)) := ⟨by rfl, by rfl, by rfl, by decide, by rfl, by decide +kernel, by decide +kernel⟩
/-- what is done behind the feed -/
def m_law_right : MS := (sSeq (sSet 2 (mCall fn_law_guild (mCons (mVar 1) (mCons (mDat (.int 4)) mNil)))) (sSeq (sTup (mArgs gTupD (mCons (mArgs gTuple (mCons (mLc [9] (mIt (mVar 2)) (gSet 9) mYes (bOne (m2 gIx (mVar 9) (mDat (.int 0))))) mNil)) (mCons (mCall fn_law_safes (mCons (mVar 2) mNil)) mNil))) (gTupM 2 (gsCons (gSet 6) (gsCons (gSet 7) gsNil)))) (sSeq (sSet 3 (mArgs gDict (mCons (mLc [8] (mIt (mVar 6)) (gSet 8) mYes (bOne (mArgs gTupD (mCons (mVar 8) (mCons (mCall fn_law_needs (mCons (mVar 2) (mCons (mVar 7) (mCons (mVar 8) mNil)))) mNil))))) mNil))) (sSeq (sIf (tNo (mT (mCall fn_law_is_told_back (mCons (mVar 2) (mCons (mVar 6) (mCons (mVar 3) mNil)))))) (sRet (mDat (.bool false))) sNil) (sSeq (sSet 4 (mCall fn_law_thin (mCons (mVar 2) mNil))) (sSeq (sIf (tNo (mT (mCall fn_law_same (mCons (mArgs gLstD (mCons (mCall fn_trusts_alike (mCons (mVar 2) (mCons (mVar 4) mNil))) (mCons (mCall fn_parting_lot (mCons (mVar 2) (mCons (mVar 4) mNil))) mNil))) (mCons (mArgs gLstD (mCons (mDat (.bool true)) (mCons (mDat .none) mNil))) mNil))))) (sRet (mDat (.bool false))) sNil) (sSeq (sFor (mIt (mArgs gLstD (mCons (mCall fn_law_near (mCons (mVar 1) (mCons (mVar 2) (mCons (mVar 6) mNil)))) (mCons (mCall fn_law_near (mCons (mVar 1) (mCons (mVar 4) (mCons (mVar 6) mNil)))) mNil)))) (gSet 5) (sSeq (sIf (tNo (mT (mCall fn_law_are_alike_right (mCons (mVar 1) (mCons (mVar 2) (mCons (mVar 5) (mCons (mVar 3) mNil))))))) (sRet (mDat (.bool false))) sNil) (sIf (mT (m2 gNe (mCall fn_trusts_alike (mCons (mVar 4) (mCons (mVar 5) mNil))) (mCall fn_trusts_alike (mCons (mVar 2) (mCons (mVar 5) mNil))))) (sRet (mDat (.bool false))) sNil))) (sRet (mDat (.bool true))))))))))
theorem p_law_right (C : Cq) (cdv : Value) (A : Around) (outer : List Env) (s : Shared) (H : Hp) (E : XK) (hgd : A.guards = some []) (hr : Room 13 (A.deeper (envOfC "_law_right" (defScope (topS 120)) s.heap.objs.size T.law_right.a cdv))) :
    PSs (cxOf CX0 prog w K mg base N_law_right "_law_right" (defScope (topS 120)) T.law_right.a cdv A outer s H E).nox ((defBody (topS 120)).tail) (rdS C m_law_right) := by
  have nd := sc_law_right.nd
  have hu := hu_room hr
  exact (ys_cons (ys_set (i := 2) nd rfl (by first | exact .inl rfl | exact .inr rfl) (ye_call ((d_law_guild T).mono (by decide)) hgd hr rfl T.law_guild.m T.law_guild.k T.law_guild.n (ya_cons (ye_var (pv 1)) (ya_cons (ye_int) ya_nil)))) (ys_cons (ys_asg (vs := [0, 1, 2, 3, 4, 5, 6, 7, 8, 9]) (ye_tup (ya_cons (yb_tuple rfl T.b.b_tuple (ya_cons (ye_lc (own := [("_law_one", 9)]) rfl nd (yi_seq (ye_var (pv 2))) (blkOk_by (N := N_law_right) (sc := defScope (topS 120)) (by decide +kernel)) (fun _ _ _ _ _ => (yg_name (pg_name (i := 9) nd rfl (by first | exact .inl rfl | exact .inr rfl)) (by decide))) (fun _ _ _ _ _ => yts_nil) (fun _ _ _ _ _ => (yo_ix (ye_var (pv 9)) (ye_int)))) ya_nil)) (ya_cons (ye_call ((d_law_safes T).mono (by decide)) hgd hr rfl T.law_safes.m T.law_safes.k T.law_safes.n (ya_cons (ye_var (pv 2)) ya_nil)) ya_nil))) (yg_tup rfl (ygs_cons (yg_name (pg_name (i := 6) nd rfl (by first | exact .inl rfl | exact .inr rfl)) (by decide)) (ygs_cons (yg_name (pg_name (i := 7) nd rfl (by first | exact .inl rfl | exact .inr rfl)) (by decide)) ygs_nil)))) (ys_cons (ys_set (i := 3) nd rfl (by first | exact .inl rfl | exact .inr rfl) (yb_dict rfl rfl T.b.b_dict (ya_cons (ye_lc (own := [("_law_name", 8)]) rfl nd (yi_seq (ye_var (pv 6))) (blkOk_by (N := N_law_right) (sc := defScope (topS 120)) (by decide +kernel)) (fun _ _ _ _ _ => (yg_name (pg_name (i := 8) nd rfl (by first | exact .inl rfl | exact .inr rfl)) (by decide))) (fun _ _ _ _ _ => yts_nil) (fun _ _ _ _ _ => (ye_tup (ya_cons (ye_var (pv 8)) (ya_cons (ye_call ((d_law_needs T).mono (by decide)) hgd hr rfl T.law_needs.m T.law_needs.k T.law_needs.n (ya_cons (ye_var (pv 2)) (ya_cons (ye_var (pv 7)) (ya_cons (ye_var (pv 8)) ya_nil)))) ya_nil))))) ya_nil))) (ys_cons (ys_if (yt_not (yt_of (ye_call ((d_law_is_told_back T).mono (by decide)) hgd hr rfl T.law_is_told_back.m T.law_is_told_back.k T.law_is_told_back.n (ya_cons (ye_var (pv 2)) (ya_cons (ye_var (pv 6)) (ya_cons (ye_var (pv 3)) ya_nil)))))) (ys_one (ys_ret (ye_bl))) ys_nil) (ys_cons (ys_set (i := 4) nd rfl (by first | exact .inl rfl | exact .inr rfl) (ye_call ((d_law_thin T).mono (by decide)) hgd hr rfl T.law_thin.m T.law_thin.k T.law_thin.n (ya_cons (ye_var (pv 2)) ya_nil))) (ys_cons (ys_if (yt_not (yt_of (ye_call ((d_law_same T).mono (by decide)) hgd hr rfl T.law_same.m T.law_same.k T.law_same.n (ya_cons (ye_lst (ya_cons (ye_call ((d_trusts_alike T).mono (by decide)) hgd hr rfl T.trusts_alike.m T.trusts_alike.k T.trusts_alike.n (ya_cons (ye_var (pv 2)) (ya_cons (ye_var (pv 4)) ya_nil))) (ya_cons (ye_call ((d_parting_lot T).mono (by decide)) hgd hr rfl T.parting_lot.m T.parting_lot.k T.parting_lot.n (ya_cons (ye_var (pv 2)) (ya_cons (ye_var (pv 4)) ya_nil))) ya_nil))) (ya_cons (ye_lst (ya_cons (ye_bl) (ya_cons (ye_non) ya_nil))) ya_nil))))) (ys_one (ys_ret (ye_bl))) ys_nil) (ys_cons (ys_for (vs := [0, 1, 2, 3, 4, 5, 6, 7, 8, 9]) PassesOwn.never rfl (yi_seq (ye_lst (ya_cons (ye_call ((d_law_near T).mono (by decide)) hgd hr rfl T.law_near.m T.law_near.k T.law_near.n (ya_cons (ye_var (pv 1)) (ya_cons (ye_var (pv 2)) (ya_cons (ye_var (pv 6)) ya_nil)))) (ya_cons (ye_call ((d_law_near T).mono (by decide)) hgd hr rfl T.law_near.m T.law_near.k T.law_near.n (ya_cons (ye_var (pv 1)) (ya_cons (ye_var (pv 4)) (ya_cons (ye_var (pv 6)) ya_nil)))) ya_nil)))) (yg_name (pg_name (i := 5) nd rfl (by first | exact .inl rfl | exact .inr rfl)) (by decide)) (ys_cons (ys_if (yt_not (yt_of (ye_call ((d_law_are_alike_right T).mono (by decide)) hgd hr rfl T.law_are_alike_right.m T.law_are_alike_right.k T.law_are_alike_right.n (ya_cons (ye_var (pv 1)) (ya_cons (ye_var (pv 2)) (ya_cons (ye_var (pv 5)) (ya_cons (ye_var (pv 3)) ya_nil))))))) (ys_one (ys_ret (ye_bl))) ys_nil) (ys_one (ys_if (yq_ne hu (ye_call ((d_trusts_alike T).mono (by decide)) hgd hr rfl T.trusts_alike.m T.trusts_alike.k T.trusts_alike.n (ya_cons (ye_var (pv 4)) (ya_cons (ye_var (pv 5)) ya_nil))) (ye_call ((d_trusts_alike T).mono (by decide)) hgd hr rfl T.trusts_alike.m T.trusts_alike.k T.trusts_alike.n (ya_cons (ye_var (pv 2)) (ya_cons (ye_var (pv 5)) ya_nil)))) (ys_one (ys_ret (ye_bl))) ys_nil)))) (ys_one (ys_ret (ye_bl))))))))))
end
end Y
end KG3
section KEndA
set_option Elab.async false
set_option linter.all false
set_option maxRecDepth 100000
set_option maxHeartbeats 4000000
/-! By hand: the feed's making, the law's def, the promise of law(). -/
namespace Y
open PySem PySem.Spec PyProof.Rows L2
section
variable {prog : Program} {w : World} {K : PySem.W.Frag} {mg : Str → Option Value} {base : Heap} (T : Tx K mg)
def N_law_feed : List Str := ["_law_script", "_law_cell"]
def ps_law_feed : List Str := ["_law_script"]
theorem sc_law_feed : FnScope N_law_feed ps_law_feed (defScope (topS 101)) := ⟨by rfl, by rfl, by rfl, by decide, by rfl, by decide +kernel, by decide +kernel⟩
def spFeed (K : PySem.W.Frag) : Sp := fun vs H Q _ => ∃ (a : Addr) (ns : List Int), vs = [.ref a] ∧ SqL K H a (ns.map V.int) ∧ ns.length ≤ 63 ∧ ∀ (fa : Addr) (ms : List Int) (H' : Hp), H fa = none → Sub H H' → FeedAt fa H' ⟨ms, 0, 0, 0⟩ → Q (.ref fa) H'
theorem d_law_feed : FnG prog w K mg base 1 T.law_feed.a T.law_feed.f ps_law_feed (spFeed K) := by
  refine fn_ofG T.law_feed.t sc_law_feed (fun vs H Q E ⟨a, ns, e, _⟩ => by rw [e]; rfl) fun cdv A outer s H vs Q E hgd hr ⟨a, ns, ev, hs, h63, q⟩ => ?_
  subst ev
  have nd := sc_law_feed.nd
  refine ⟨_, pss_one (ps_ret (pe_disp (pps_cons pe_str (pe_lc (own := [("_law_cell", 1)]) rfl nd (pi_list (pe_slice sl_list (pv 0) po_none (po_some pe_int))) (blkOk_by (N := N_law_feed) (sc := defScope (topS 101)) (by decide +kernel))
      (fun _ _ _ _ _ => pg_name (i := 1) nd rfl (by first | exact .inl rfl | exact .inr rfl)) (fun _ _ _ _ _ => pts_nil) (fun _ _ _ _ _ => pe_callTy call_int1 rfl T.b.b_int (by decide +kernel) (pa_cons (pv 1) pa_nil)))
    (pps_cons pe_str pe_int (pps_cons pe_str pe_int (pps_cons pe_str pe_int pps_nil)))) rfl rfl (by simp) (by simp))), ?_⟩
  intro p hp
  have hs1 : SqL K (upd H p (.dK [])) a (ns.map V.int) := Same.seq (H := H) (fun b o e => upd_sub hp _ _ e) hs
  refine ⟨.ref a, rfl, (⟨63, rfl, ⟨a, _, rfl, hs1, fun l hl => ⟨l, rfl, ⟨_, SqL.of upd_same⟩, ?_⟩⟩⟩ : ∃ i, V.int 63 = V.int i ∧ _)⟩
  have ecut : ∃ ms : List Int, cutV (ns.map V.int) none (some 63) = ms.map V.int ∧ ms.length ≤ 63 := by
    unfold cutV
    rw [← List.map_drop, ← List.map_take]
    refine ⟨_, rfl, ?_⟩
    rw [List.length_take, List.length_drop]
    omega
  obtain ⟨ms, ecut, m63⟩ := ecut
  rw [ecut]
  intro D hD
  have hDl : D ≠ l := fun z => by rw [z, upd_same] at hD; cases hD
  have hlp : l ≠ p := fun z => by rw [z, upd_same] at hl; cases hl
  have hDp : D ≠ p := fun z => by rw [z, upd_ne (Ne.symm hlp), upd_same] at hD; cases hD
  refine lc_list (K := K) (a := l) (xs := ms.map V.int) (fun i H' => H' D = some (.lst ((ms.map V.int).take i)) ∧ ∀ b o, upd (upd H p (.dK [])) l (.lst (ms.map V.int)) b = some o → H' b = some o) ⟨upd_same, fun b o e => by rw [upd_ne (ne_of_none e hD)]; exact e⟩ (fun i H' _ h => SqL.of (h.2 _ _ upd_same)) (fun i x H' hx h => ?_) (fun H' h => ?_)
  · obtain ⟨n, en⟩ : ∃ n, x = V.int n := by
      rw [List.getElem?_map] at hx
      cases e : ms[i]? with
      | none => rw [e] at hx; cases hx
      | some n => rw [e] at hx; cases hx; exact ⟨n, rfl⟩
    subst en
    refine ⟨rfl, ?_⟩
    unfold tYes
    simp only [if_true]
    refine ⟨.int n, rfl, .inl ⟨n, rfl, _, h.1, ?_, ?_, fun b o e => ?_⟩⟩
    · rw [List.length_take, sizeLine_eq, List.length_map]
      omega
    · rw [upd_same, List.take_succ, hx]
      rfl
    · have hd : D ≠ b := fun z => by rw [← z, hD] at e; cases e
      rw [upd_ne (Ne.symm hd)]
      exact h.2 b o e
  · have hpD : p ≠ D := Ne.symm hDp
    refine ⟨h.2 p _ (by rw [upd_ne (Ne.symm hlp)]; exact upd_same), [(Sum.inr "cells", .ref D), (Sum.inr "spot", .int 0), (Sum.inr "rest", .int 0), (Sum.inr "count", .int 0)], rfl, by simp, ?_⟩
    refine q p ms _ hp (fun b o e => ?_) ⟨D, upd_same, ?_⟩
    · have hbp : b ≠ p := fun z => by rw [z, hp] at e; cases e
      rw [upd_ne hbp]
      refine h.2 b o ?_
      have hbl : b ≠ l := fun z => by
        rw [z] at e
        rw [upd_ne hlp] at hl
        rw [hl] at e
        cases e
      rw [upd_ne hbl, upd_ne hbp]
      exact e
    · rw [upd_ne hDp]
      have := h.1
      rw [List.take_length] at this
      exact this
/-- what is asked of the law's def: it gives True -/
def spTop (K : PySem.W.Frag) : Sp := fun vs H Q _ => ∃ (a : Addr) (ns : List Int), vs = [.ref a] ∧ SqL K H a (ns.map V.int) ∧ ns.length ≤ 63 ∧ ∀ H', Q (.bl true) H'
/-- what the mathematics gives -/
def RightTrue : Prop := ∀ f : Fd, ∃ f', m_law_right (.un :: .v .f :: List.replicate (N_law_right.length - 2) .un) f = some (.rt (.d (.bool true)), f')
theorem d_law_right (hT : RightTrue) : FnG prog w K mg base 14 T.law_right.a T.law_right.f ps_law_right (spTop K) := by
  refine fn_ofG T.law_right.t sc_law_right (fun vs H Q E ⟨a, ns, e, _⟩ => by rw [e]; rfl) fun cdv A outer s H vs Q E hgd hr ⟨a, ns, ev, hs, h63, q⟩ => ?_
  subst ev
  have nd := sc_law_right.nd
  have rest : PSs (cxOf CX0 prog w K mg base N_law_right "_law_right" (defScope (topS 120)) T.law_right.a cdv A outer s H E).nox ((defBody (topS 120)).tail) (fun D σ H => ∃ C, rdS C m_law_right D σ H) :=
    ⟨fun pins s' σ H' D I ⟨C, h⟩ => (p_law_right T C cdv A outer s H E hgd hr).run pins s' σ H' D I h⟩
  refine ⟨_, pss_cons (ps_set (i := 1) nd rfl (by first | exact .inl rfl | exact .inr rfl) (pe_callG ((d_law_feed T).mono (by decide)) hgd hr rfl T.law_feed.m T.law_feed.k T.law_feed.n .nil (pa_cons (pv 0) pa_nil))) rest, ?_⟩
  refine ⟨.ref a, rfl, ?_⟩
  refine ⟨a, ns, rfl, hs, h63, fun fa ms H1 hfa sb fd => ?_⟩
  obtain ⟨f', e⟩ := hT ⟨ms, 0, 0, 0⟩
  obtain ⟨ca, h1, h2⟩ := id fd
  have hca : ca ≠ fa := fun z => by rw [z, h1] at h2; cases h2
  refine ⟨⟨fa, H1, fun x => decide (x = fa)⟩, fun x => decide (x = fa), _, _, _, f', ?_, e, fun v H2 g2 d2 r2 => ?_⟩
  · have key : ∀ (i : Nat) (sl : Slot), (Slot.un :: .v .f :: List.replicate (N_law_right.length - 2) .un)[i]? = some sl → (i = 1 ∧ sl = .v .f) ∨ sl = .un := fun i sl h => by
      match i with
      | 0 => cases h; exact .inr rfl
      | 1 => cases h; exact .inl ⟨rfl, rfl⟩
      | i + 2 =>
        have h : (List.replicate (N_law_right.length - 2) Slot.un)[i]? = some sl := h
        rw [List.getElem?_replicate] at h
        split at h
        · cases h; exact .inr rfl
        · cases h
    refine ⟨rfl, fun i w e => ?_, fun i o e => ?_, fun i j ds es b e => ?_, fd, by simp, fun b e => ?_, fun b o _ e => e, fun b e => e, fun b e => .inl e, CK.refl _ _, fun cb r e => ?_⟩
    · rcases key i _ e with ⟨rfl, e2⟩ | e2
      · cases e2
        exact ⟨.ref fa, rfl, rfl⟩
      · cases e2
    · rcases key i _ e with ⟨_, e2⟩ | e2 <;> cases e2
    · rcases key i _ e with ⟨_, e2⟩ | e2 <;> cases e2
    · have : b = fa := of_decide_eq_true e
      rw [this]
      exact ⟨_, h1⟩
    · have e : H1 fa = _ := e
      rw [h1] at e
      cases e
      exact decide_eq_false hca
  · cases r2
    exact q H2
theorem sc_law : FnScope ["_law_script"] ["_law_script"] (defScope (topS 121)) := ⟨by rfl, by rfl, by rfl, by decide, by rfl, by decide +kernel, by decide +kernel⟩
theorem d_law (hT : RightTrue) : FnG prog w K mg base 15 T.law.a T.law.f ["_law_script"] (spTop K) := by
  refine fn_ofG T.law.t sc_law (fun vs H Q E ⟨a, ns, e, _⟩ => by rw [e]; rfl) fun cdv A outer s H vs Q E hgd hr ⟨a, ns, ev, hs, h63, q⟩ => ?_
  subst ev
  refine ⟨_, pss_one (ps_try_never (fun e s h => h) (pss_one (ps_ret (pe_callG ((d_law_right T hT).mono (by decide)) hgd hr rfl T.law_right.m T.law_right.k T.law_right.n .nil (pa_cons (pv 0) pa_nil)))) pss_nil), ?_⟩
  exact ⟨.ref a, rfl, a, ns, rfl, hs, h63, fun H' => q H'⟩
end
end Y
end KEndA
section KMathA
set_option Elab.async false
set_option linter.all false
set_option maxRecDepth 100000
set_option maxHeartbeats 4000000
/-! What the meanings give: the tools. -/
namespace Y
open PySem PySem.Spec PyProof.Rows XS
open PySem.W (alike alikeAll)

/-! ### running -/
section
variable {n k i j : Nat} {m a b : MS} {ma mb mc : ME} {ms ms2 : MA} {mt mu : MT} {mi : MI} {ws : List W} {ρ ρ' ρ1 : En} {f f' f1 f2 : Fd} {w x y z : W} {g : W → W → Option W} {g1 : W → Option W} {gn : List W → Option W} {r : R} {fn : FN} {c : Bool}
theorem fn_rt (hl : ws.length = k) (h : m (ρ0 n ws) f = some (.rt w, f')) : fnB n k m ws f = some (w, f') := by unfold fnB; rw [if_pos hl, h]
theorem fn_nx (hl : ws.length = k) (h : m (ρ0 n ws) f = some (.nx ρ', f')) : fnB n k m ws f = some (.d .none, f') := by unfold fnB; rw [if_pos hl, h]
theorem ret_ev (h : ma ρ f = some (w, f')) : sRet ma ρ f = some (.rt w, f') := by unfold sRet; rw [h]; rfl
theorem args_ev (h : ms ρ f = some (ws, f')) (hg : gn ws = some w) : mArgs gn ms ρ f = some (w, f') := by unfold mArgs; rw [h]; simp [hg]
theorem cons_ev (h : ma ρ f = some (w, f1)) (h2 : ms ρ f1 = some (ws, f')) : mCons ma ms ρ f = some (w :: ws, f') := by unfold mCons; rw [h]; simp [h2]
theorem nil_ev : mNil ρ f = some ([], f) := rfl
theorem star_ev {ds : List PyData} (h : ma ρ f = some (w, f1)) (hi : items w = some ds) (h2 : ms ρ f1 = some (ws, f')) : mStar ma ms ρ f = some (ds.map W.d ++ ws, f') := by unfold mStar; rw [h]; simp [hi, h2]
theorem m1_ev (h : ma ρ f = some (x, f')) (hg : g1 x = some w) : m1 g1 ma ρ f = some (w, f') := by unfold m1; rw [h]; simp [hg]
theorem m2_ev (h : ma ρ f = some (x, f1)) (h2 : mb ρ f1 = some (y, f')) (hg : g x y = some w) : m2 g ma mb ρ f = some (w, f') := by unfold m2; rw [h]; simp [h2, hg]
theorem call_ev {p : W × Fd} (h : ms ρ f = some (ws, f1)) (hf : fn ws f1 = some p) : mCall fn ms ρ f = some p := by unfold mCall; rw [h]; simp [hf]
theorem callD_ev {p : W × Fd} {dws : List W} (h : ms ρ f = some (ws, f1)) (hf : fn (ws ++ dws) f1 = some p) : mCallD fn dws ms ρ f = some p := by unfold mCallD; rw [h]; simp [hf]
theorem callN_ev {p : W × Fd} {us : List W} (h : ms ρ f = some (ws, f1)) (h2 : ms2 ρ f1 = some (us, f2)) (hf : fn (ws ++ us) f2 = some p) : mCallN fn ms ms2 ρ f = some p := by unfold mCallN; rw [h]; simp [h2, hf]
theorem seq_ev {p : R × Fd} (h : a ρ f = some (.nx ρ1, f1)) (h2 : b ρ1 f1 = some p) : sSeq a b ρ f = some p := by unfold sSeq; rw [h]; simp [h2]
theorem seq_rt (h : a ρ f = some (.rt w, f1)) : sSeq a b ρ f = some (.rt w, f1) := by unfold sSeq; rw [h]; rfl
theorem set_ev (h : ma ρ f = some (w, f')) : sSet i ma ρ f = some (.nx (ρ.set i (.v w)), f') := by unfold sSet; rw [h]; rfl
theorem par_ev (h : ma ρ f = some (x, f1)) (h2 : mb ρ f1 = some (y, f')) : sPar i j ma mb ρ f = some (.nx ((ρ.set i (.v x)).set j (.v y)), f') := by unfold sPar; rw [h]; simp [h2]
theorem parO_ev (h : ma ρ f = some (x, f')) : sParO i j ma ρ f = some (.nx ((ρ.set i (.v x)).set j (.own (.lst []))), f') := by unfold sParO; rw [h]; rfl
theorem tup_ev {gg : MG} (h : ma ρ f = some (x, f')) (h2 : gg x ρ = some ρ1) : sTup ma gg ρ f = some (.nx ρ1, f') := by unfold sTup; rw [h]; simp [h2]
theorem drop_ev (h : ma ρ f = some (x, f')) : sDrop ma ρ f = some (.nx ρ, f') := by unfold sDrop; rw [h]; rfl
theorem if_t {p : Option (R × Fd)} (h : mt ρ f = some (true, f1)) (h2 : a ρ f1 = p) : sIf mt a b ρ f = p := by unfold sIf; rw [h]; simpa using h2
theorem if_f {p : Option (R × Fd)} (h : mt ρ f = some (false, f1)) (h2 : b ρ f1 = p) : sIf mt a b ρ f = p := by unfold sIf; rw [h]; simpa using h2
theorem t_ev (h : ma ρ f = some (wB c, f')) : mT ma ρ f = some (c, f') := by unfold mT; rw [h]; rfl
theorem no_ev (h : mt ρ f = some (c, f')) : tNo mt ρ f = some (!c, f') := by unfold tNo; rw [h]; rfl
theorem an_ev {d : Bool} (h : mt ρ f = some (c, f)) (h2 : c = true → mu ρ f = some (d, f)) : tAn mt mu ρ f = some (c && d, f) := by
  unfold tAn
  rw [h]
  cases c with
  | true => simp [h2 rfl]
  | false => simp
theorem o_ev {d : Bool} (h : mt ρ f = some (c, f)) (h2 : c = false → mu ρ f = some (d, f)) : tO mt mu ρ f = some (c || d, f) := by
  unfold tO
  rw [h]
  cases c with
  | true => simp
  | false => simp [h2 rfl]
theorem and_ev {d : Bool} (h : ma ρ f = some (wB c, f)) (h2 : c = true → mb ρ f = some (wB d, f)) : mAnd ma mb ρ f = some (wB (c && d), f) := by
  unfold mAnd
  rw [h]
  cases c with
  | true => simp [h2 rfl, boolOf, wB]
  | false => simp [boolOf, wB]
theorem or_ev {d : Bool} (h : ma ρ f = some (wB c, f)) (h2 : c = false → mb ρ f = some (wB d, f)) : mOr ma mb ρ f = some (wB (c || d), f) := by
  unfold mOr
  rw [h]
  cases c with
  | true => simp [boolOf, wB]
  | false => simp [h2 rfl, boolOf, wB]
theorem not_ev (h : ma ρ f = some (wB c, f')) : mNot ma ρ f = some (wB (!c), f') := by unfold mNot m1; rw [h]; rfl
theorem ife_t {p : Option (W × Fd)} (h : mt ρ f = some (true, f1)) (h2 : ma ρ f1 = p) : mIf mt ma mb ρ f = p := by unfold mIf; rw [h]; simpa using h2
theorem ife_f {p : Option (W × Fd)} (h : mt ρ f = some (false, f1)) (h2 : mb ρ f1 = p) : mIf mt ma mb ρ f = p := by unfold mIf; rw [h]; simpa using h2
theorem it_ev (h : ma ρ f = some (w, f')) (hw : walkOf w = some ws) : mIt ma ρ f = some (ws, f') := by unfold mIt; rw [h]; simp [hw]
theorem frz_ev {p : Option (R × Fd)} {ow : Ow} (e : ρ[i]? = some (.own ow)) (h : m (ρ.set i (.v (frW ow))) f = p) : sFrz i m ρ f = p := by unfold sFrz; rw [e]; exact h
theorem own_ev {ds : List PyData} (h : ms ρ f = some (ws, f')) (hd : datas ws = some ds) (hl : ds.length ≤ lim) : sOwnL i ms ρ f = some (.nx (ρ.set i (.own (.lst ds))), f') := by unfold sOwnL; rw [h]; simp [hd, hl]
theorem app_ev {ds : List PyData} {d : PyData} (h : ma ρ f = some (.d d, f')) (e : ρ[i]? = some (.own (.lst ds))) (hl : ds.length < lim) : sApp i ma ρ f = some (.nx (ρ.set i (.own (.lst (ds ++ [d])))), f') := by unfold sApp; rw [h]; simp only [Option.bind_some, dOf]; rw [e]; exact if_pos hl
theorem ext_ev {ds es : List PyData} (h : ma ρ f = some (.d (.list es), f')) (e : ρ[i]? = some (.own (.lst ds))) (hl : ds.length + es.length ≤ lim) : sExt i ma ρ f = some (.nx (ρ.set i (.own (.lst (ds ++ es)))), f') := by unfold sExt; rw [h]; simp only [Option.bind_some]; rw [e]; exact if_pos hl
theorem for_ev {gg : MG} {p : Option (R × Fd)} (h : mi ρ f = some (ws, f1)) (h2 : forGo gg b ws ρ f1 = p) : sFor mi gg b ρ f = p := by unfold sFor; rw [h]; exact h2
theorem lc_ev {vs : List Nat} {gg : MG} {bb : MB} {ds : List PyData} (h : mi ρ f = some (ws, f1)) (h2 : lcGo gg mt bb (cl vs ρ) ws [] f1 = some (ds, f')) : mLc vs mi gg mt bb ρ f = some (.d (.list ds), f') := by unfold mLc; rw [h]; simp [h2]
end

/-! ### comprehensions -/
theorem lc_pure {α : Type} {g : MG} {tt : MT} {te : ME} {ρ : En} {f : Fd} (xs : List α) {ew : α → W} {p : α → Bool} {q : α → PyData}
    (hs : ∀ x ∈ xs, ∃ ρ1, g (ew x) ρ = some ρ1 ∧ tt ρ1 f = some (p x, f) ∧ (p x = true → te ρ1 f = some (.d (q x), f))) : ∀ (acc : List PyData), acc.length + xs.length ≤ lim → lcGo g tt (bOne te) ρ (xs.map ew) acc f = some (acc ++ (xs.filter p).map q, f) := by
  induction xs with
  | nil => intro acc _; simp [lcGo]
  | cons x xs ih =>
    intro acc hl
    obtain ⟨ρ1, h1, h2, h3⟩ := hs x List.mem_cons_self
    have ih := ih fun y hy => hs y (List.mem_cons_of_mem _ hy)
    simp only [List.length_cons] at hl
    unfold lcGo
    rw [List.map_cons]
    simp only [h1, Option.bind_some, h2]
    cases hp : p x with
    | true =>
      have hb : bOne te ρ1 acc f = some (acc ++ [q x], f) := by
        unfold bOne
        rw [h3 hp]
        simp only [Option.bind_some, dOf]
        rw [if_pos (by omega)]
      simp only [if_true, hb, Option.bind_some]
      rw [ih _ (by simp; omega), List.filter_cons, if_pos hp]
      simp
    | false =>
      simp only [Bool.false_eq_true, if_false]
      rw [ih _ (by omega), List.filter_cons, if_neg (by simp [hp])]
theorem lc_all {α : Type} {g : MG} {te : ME} {ρ : En} {f : Fd} (xs : List α) {ew : α → W} {q : α → PyData}
    (hs : ∀ x ∈ xs, ∃ ρ1, g (ew x) ρ = some ρ1 ∧ te ρ1 f = some (.d (q x), f)) (hl : xs.length ≤ lim) : lcGo g mYes (bOne te) ρ (xs.map ew) [] f = some (xs.map q, f) := by
  have := lc_pure (tt := mYes) (p := fun _ => true) (q := q) xs (fun x hx => let ⟨r, a, b⟩ := hs x hx; ⟨r, a, rfl, fun _ => b⟩) [] (by simpa using hl)
  rw [List.filter_eq_self.mpr fun _ _ => rfl] at this
  simpa using this
theorem lc_fil {α : Type} {g : MG} {tt : MT} {te : ME} {ρ : En} {f : Fd} (xs : List α) {ew : α → W} {p : α → Bool} {q : α → PyData}
    (hs : ∀ x ∈ xs, ∃ ρ1, g (ew x) ρ = some ρ1 ∧ tt ρ1 f = some (p x, f) ∧ (p x = true → te ρ1 f = some (.d (q x), f))) (hl : xs.length ≤ lim) : lcGo g tt (bOne te) ρ (xs.map ew) [] f = some ((xs.filter p).map q, f) := by
  simpa using lc_pure xs hs [] (by simpa using hl)
/-- two clauses, no tests -/
theorem lc_two {α β : Type} {g g1 : MG} {src1 : MI} {vs1 : List Nat} {te : ME} {ρ : En} {f : Fd} (xs : List α) {ew : α → W} {ys : α → List β} {ev : α → β → W} {q : α → β → PyData}
    (hs : ∀ x ∈ xs, ∃ ρ1, g (ew x) ρ = some ρ1 ∧ src1 ρ1 f = some ((ys x).map (ev x), f) ∧ ∀ y ∈ ys x, ∃ ρ2, g1 (ev x y) (cl vs1 ρ1) = some ρ2 ∧ te ρ2 f = some (.d (q x y), f)) :
    ∀ (acc : List PyData), acc.length + (xs.flatMap ys).length ≤ lim → lcGo g mYes (bTwo vs1 src1 g1 mYes (bOne te)) ρ (xs.map ew) acc f = some (acc ++ xs.flatMap (fun x => (ys x).map (q x)), f) := by
  induction xs with
  | nil => intro acc _; simp [lcGo]
  | cons x xs ih =>
    intro acc hl
    obtain ⟨ρ1, h1, h2, h3⟩ := hs x List.mem_cons_self
    have ih := ih fun y hy => hs y (List.mem_cons_of_mem _ hy)
    rw [List.flatMap_cons, List.length_append] at hl
    unfold lcGo
    rw [List.map_cons]
    simp only [h1, Option.bind_some, show mYes ρ1 f = some (true, f) from rfl, if_true]
    have hb : bTwo vs1 src1 g1 mYes (bOne te) ρ1 acc f = some (acc ++ (ys x).map (q x), f) := by
      unfold bTwo
      rw [h2]
      simp only [Option.bind_some]
      have := lc_pure (tt := mYes) (p := fun _ => true) (q := q x) (ys x) (fun y hy => let ⟨r, a, b⟩ := h3 y hy; ⟨r, a, rfl, fun _ => b⟩) acc (by omega)
      rw [List.filter_eq_self.mpr fun _ _ => rfl] at this
      exact this
    rw [hb]
    simp only [Option.bind_some]
    rw [ih (acc ++ (ys x).map (q x)) (by rw [List.length_append, List.length_map]; omega)]
    simp

/-! ### loops -/
theorem forGo_pre {α : Type} {g : MG} {b : MS} (xs : List α) {ew : α → W} (P : List α → En → Fd → Prop)
    (hs : ∀ pre x post, xs = pre ++ x :: post → ∀ ρ f, P pre ρ f → ∃ ρ1 ρ2 f2, g (ew x) ρ = some ρ1 ∧ b ρ1 f = some (.nx ρ2, f2) ∧ P (pre ++ [x]) ρ2 f2) :
    ∀ (pre post : List α), xs = pre ++ post → ∀ ρ f, P pre ρ f → ∃ ρ' f', forGo g b (post.map ew) ρ f = some (.nx ρ', f') ∧ P xs ρ' f' := by
  intro pre post
  induction post generalizing pre with
  | nil => intro e ρ f h; exact ⟨ρ, f, rfl, by rw [e, List.append_nil]; exact h⟩
  | cons x post ih =>
    intro e ρ f h
    obtain ⟨ρ1, ρ2, f2, h1, h2, h3⟩ := hs pre x post e ρ f h
    obtain ⟨ρ', f', h4, h5⟩ := ih (pre ++ [x]) (by rw [e]; simp) ρ2 f2 h3
    refine ⟨ρ', f', ?_, h5⟩
    rw [List.map_cons]
    unfold forGo
    simp [h1, h2, h4]
theorem forGo_all {α : Type} {g : MG} {b : MS} (xs : List α) {ew : α → W} (P : List α → En → Fd → Prop) {ρ : En} {f : Fd} (h0 : P [] ρ f)
    (hs : ∀ pre x post, xs = pre ++ x :: post → ∀ ρ f, P pre ρ f → ∃ ρ1 ρ2 f2, g (ew x) ρ = some ρ1 ∧ b ρ1 f = some (.nx ρ2, f2) ∧ P (pre ++ [x]) ρ2 f2) :
    ∃ ρ' f', forGo g b (xs.map ew) ρ f = some (.nx ρ', f') ∧ P xs ρ' f' := forGo_pre xs P hs [] xs rfl ρ f h0
/-- a loop that leaves at the first item that p tells -/
theorem forGo_find {α : Type} {g : MG} {b : MS} {f : Fd} {p : α → Bool} {ew : α → W} {r : α → W} (P : En → Prop) :
    ∀ (xs : List α), (∀ x ∈ xs, ∀ ρ, P ρ → ∃ ρ1, g (ew x) ρ = some ρ1 ∧ (p x = true → b ρ1 f = some (.rt (r x), f)) ∧ (p x = false → ∃ ρ2, b ρ1 f = some (.nx ρ2, f) ∧ P ρ2)) → ∀ ρ, P ρ →
      (∀ x, xs.find? p = some x → forGo g b (xs.map ew) ρ f = some (.rt (r x), f)) ∧ (xs.find? p = none → ∃ ρ', forGo g b (xs.map ew) ρ f = some (.nx ρ', f) ∧ P ρ')
  | [], _, ρ, h => ⟨fun x e => (by cases e), fun _ => ⟨ρ, rfl, h⟩⟩
  | x :: xs, hs, ρ, h => by
    obtain ⟨ρ1, h1, h2, h3⟩ := hs x List.mem_cons_self ρ h
    rw [List.map_cons]
    unfold forGo
    cases hp : p x with
    | true =>
      rw [List.find?_cons_of_pos hp]
      refine ⟨fun y e => ?_, fun e => (by cases e)⟩
      cases e
      simp [h1, h2 hp]
    | false =>
      obtain ⟨ρ2, h4, h5⟩ := h3 hp
      rw [List.find?_cons_of_neg (by simp [hp])]
      obtain ⟨i1, i2⟩ := forGo_find P xs (fun y hy => hs y (List.mem_cons_of_mem _ hy)) ρ2 h5
      simp only [h1, Option.bind_some, h4]
      exact ⟨i1, i2⟩

/-! ### data -/
abbrev Ks := List Str
/-- lists of keys -/
def encL (ks : List Ks) : PyData := .list (ks.map encX)
def encT (ks : List Ks) : PyData := .tuple (ks.map encX)
theorem eqv_str (a b : Str) : PyData.eqv (.str a) (.str b) = decide (a = b) := by
  show (a == b) = decide (a = b)
  by_cases h : a = b
  · simp [h]
  · simp [h]
theorem eqvAll_str : ∀ a b : Ks, PyData.eqvAll (a.map .str) (b.map .str) = decide (a = b)
  | [], [] => by simp [PyData.eqvAll]
  | [], _ :: _ => by simp [PyData.eqvAll]
  | _ :: _, [] => by simp [PyData.eqvAll]
  | x :: a, y :: b => by
    show (PyData.eqv (.str x) (.str y) && PyData.eqvAll (a.map .str) (b.map .str)) = _
    rw [eqv_str, eqvAll_str a b]
    simp
theorem eqv_key (a b : Ks) : PyData.eqv (encX a) (encX b) = decide (a = b) := eqvAll_str a b
theorem eqvAll_key : ∀ a b : List Ks, PyData.eqvAll (a.map encX) (b.map encX) = decide (a = b)
  | [], [] => by simp [PyData.eqvAll]
  | [], _ :: _ => by simp [PyData.eqvAll]
  | _ :: _, [] => by simp [PyData.eqvAll]
  | x :: a, y :: b => by
    show (PyData.eqv (encX x) (encX y) && PyData.eqvAll (a.map encX) (b.map encX)) = _
    rw [eqv_key, eqvAll_key a b]
    simp
theorem alikeAll_str : ∀ a b : Ks, alikeAll (a.map .str) (b.map .str) = true
  | [], _ => by simp [alikeAll]
  | _ :: _, [] => by simp [alikeAll]
  | x :: a, y :: b => by
    show (alike (.str x) (.str y) && alikeAll (a.map .str) (b.map .str)) = true
    rw [alikeAll_str a b]
    rfl
theorem alike_key (a b : Ks) : alike (encX a) (encX b) = true := alikeAll_str a b
theorem alikeAll_key : ∀ a b : List Ks, alikeAll (a.map encX) (b.map encX) = true
  | [], _ => by simp [alikeAll]
  | _ :: _, [] => by simp [alikeAll]
  | x :: a, y :: b => by
    show (alike (encX x) (encX y) && alikeAll (a.map encX) (b.map encX)) = true
    rw [alikeAll_key a b, alike_key]
    rfl
theorem depthAll_str : ∀ a : Ks, PyData.depthAll (a.map .str) = 0
  | [] => rfl
  | x :: a => by
    show max (PyData.depth (.str x)) (PyData.depthAll (a.map .str)) = 0
    rw [depthAll_str a]
    rfl
theorem depth_key (a : Ks) : (encX a).depth = 1 := by
  show PyData.depthAll (a.map .str) + 1 = 1
  rw [depthAll_str]
theorem depthAll_key : ∀ a : List Ks, PyData.depthAll (a.map encX) ≤ 1
  | [] => Nat.zero_le _
  | x :: a => by
    show max (PyData.depth (encX x)) (PyData.depthAll (a.map encX)) ≤ 1
    have := depthAll_key a
    rw [depth_key]
    omega
theorem pair_str (a b : Str) : pairOk (.str a) (.str b) = true := rfl
theorem pair_key (a b : Ks) : pairOk (encX a) (encX b) = true := by
  unfold pairOk
  rw [alike_key, depth_key, depth_key]
  rfl
theorem pair_L (a b : List Ks) : pairOk (encL a) (encL b) = true := by
  unfold pairOk encL
  rw [show alike (.list (a.map encX)) (.list (b.map encX)) = true from alikeAll_key a b]
  have h1 : PyData.depth (.list (a.map encX)) ≤ 2 := Nat.succ_le_succ (depthAll_key a)
  simp
  omega
theorem pair_T (a b : List Ks) : pairOk (encT a) (encT b) = true := by
  unfold pairOk encT
  rw [show alike (.tuple (a.map encX)) (.tuple (b.map encX)) = true from alikeAll_key a b]
  have h1 : PyData.depth (.tuple (a.map encX)) ≤ 2 := Nat.succ_le_succ (depthAll_key a)
  simp
  omega
theorem eqv_L (a b : List Ks) : PyData.eqv (encL a) (encL b) = decide (a = b) := eqvAll_key a b
theorem eqv_T (a b : List Ks) : PyData.eqv (encT a) (encT b) = decide (a = b) := eqvAll_key a b
theorem gEq_str (a b : Str) : gEq (.d (.str a)) (.d (.str b)) = some (wB (decide (a = b))) := by unfold gEq; simp only [pair_str, if_true, eqv_str]
theorem gNe_str (a b : Str) : gNe (.d (.str a)) (.d (.str b)) = some (wB (!decide (a = b))) := by unfold gNe; simp only [pair_str, if_true, eqv_str]
theorem gEq_key (a b : Ks) : gEq (.d (encX a)) (.d (encX b)) = some (wB (decide (a = b))) := by unfold gEq; simp only [pair_key, if_true, eqv_key]
theorem gNe_key (a b : Ks) : gNe (.d (encX a)) (.d (encX b)) = some (wB (!decide (a = b))) := by unfold gNe; simp only [pair_key, if_true, eqv_key]
theorem gEq_T (a b : List Ks) : gEq (.d (encT a)) (.d (encT b)) = some (wB (decide (a = b))) := by unfold gEq; simp only [pair_T, if_true, eqv_T]
theorem gEq_L (a b : List Ks) : gEq (.d (encL a)) (.d (encL b)) = some (wB (decide (a = b))) := by unfold gEq; simp only [pair_L, if_true, eqv_L]
theorem gNe_L (a b : List Ks) : gNe (.d (encL a)) (.d (encL b)) = some (wB (!decide (a = b))) := by unfold gNe; simp only [pair_L, if_true, eqv_L]
/-- lists of names -/
theorem gEq_S (a b : Ks) : gEq (.d (.list (a.map .str))) (.d (.list (b.map .str))) = some (wB (decide (a = b))) := by
  have h : pairOk (.list (a.map .str)) (.list (b.map .str)) = true := by
    unfold pairOk
    rw [show alike (.list (a.map PyData.str)) (.list (b.map .str)) = true from alikeAll_str a b]
    have h1 : PyData.depth (.list (a.map .str)) = 1 := by
      show PyData.depthAll (a.map .str) + 1 = 1
      rw [depthAll_str]
    simp
    omega
  unfold gEq
  simp only [h, if_true]
  rw [show PyData.eqv (.list (a.map .str)) (.list (b.map .str)) = decide (a = b) from eqvAll_str a b]
theorem gNe_S (a b : Ks) : gNe (.d (.list (a.map .str))) (.d (.list (b.map .str))) = some (wB (!decide (a = b))) := by
  have h := gEq_S a b
  unfold gEq at h
  unfold gNe
  dsimp only at h ⊢
  split at h
  · rename_i hp
    rw [if_pos hp]
    have := Option.some.inj h
    injection this with e
    injection e with e
    rw [e]
  · cases h
theorem memOf_str (x : Str) : ∀ b : Ks, memOf (.str x) (b.map .str) = decide (x ∈ b)
  | [] => by simp [memOf]
  | y :: b => by
    have ih := memOf_str x b
    unfold memOf at ih ⊢
    rw [List.map_cons, List.any_cons, ih, eqv_str]
    by_cases h : y = x
    · simp [h]
    · have : x ≠ y := fun e => h e.symm
      simp [h, this]
theorem memOk_str (x : Str) (b : Ks) : memOk (.str x) (b.map .str) = true := by
  unfold memOk
  have : (b.map PyData.str).all flatD = true := by simp [flatD]
  simp [this, flatD]
theorem gIn_key (x : Str) (b : Ks) : gIn (.d (.str x)) (.d (encX b)) = some (wB (decide (x ∈ b))) := by
  unfold gIn encX
  simp only [memOk_str, if_true, memOf_str]
theorem gIn_S (x : Str) (b : Ks) : gIn (.d (.str x)) (.d (.list (b.map .str))) = some (wB (decide (x ∈ b))) := by
  unfold gIn
  simp only [memOk_str, if_true, memOf_str]
theorem gNin_key (x : Str) (b : Ks) : gNotIn (.d (.str x)) (.d (encX b)) = some (wB (!decide (x ∈ b))) := by
  unfold gNotIn encX
  simp only [memOk_str, if_true, memOf_str]
theorem walk_key (k : Ks) : walkOf (.d (encX k)) = some (k.map fun x => W.d (.str x)) := by
  show some ((k.map PyData.str).map W.d) = _
  rw [List.map_map]
  rfl
theorem walk_S (k : Ks) : walkOf (.d (.list (k.map .str))) = some (k.map fun x => W.d (.str x)) := by
  show some ((k.map PyData.str).map W.d) = _
  rw [List.map_map]
  rfl
theorem walk_T (k : List Ks) : walkOf (.d (encT k)) = some (k.map fun x => W.d (encX x)) := by
  show some ((k.map encX).map W.d) = _
  rw [List.map_map]
  rfl
theorem walk_L (k : List Ks) : walkOf (.d (encL k)) = some (k.map fun x => W.d (encX x)) := by
  show some ((k.map encX).map W.d) = _
  rw [List.map_map]
  rfl
theorem strsOf_map : ∀ k : Ks, strsOf (k.map .str) = some k
  | [] => rfl
  | x :: k => by
    show (strsOf (k.map .str)).map (x :: ·) = _
    rw [strsOf_map k]
    rfl
theorem keysOf_map : ∀ ks : List Ks, keysOf (ks.map encX) = some ks
  | [] => rfl
  | x :: ks => by
    show (strsOf (x.map .str)).bind (fun k => (keysOf (ks.map encX)).map (k :: ·)) = _
    rw [strsOf_map, keysOf_map ks]
    rfl
theorem boolsOf_map {α : Type} (q : α → Bool) : ∀ xs : List α, boolsOf (xs.map fun x => .bool (q x)) = some (xs.map q)
  | [] => rfl
  | x :: xs => by
    show (boolsOf (xs.map fun x => .bool (q x))).map (q x :: ·) = _
    rw [boolsOf_map q xs]
    rfl
theorem gAll_map {α : Type} (q : α → Bool) (xs : List α) : gAll [.d (.list (xs.map fun x => .bool (q x)))] = some (wB (xs.all q)) := by
  show (boolsOf (xs.map fun x => .bool (q x))).map (fun bs => wB (bs.all id)) = _
  rw [boolsOf_map]
  simp [List.all_map]
theorem gAny_map {α : Type} (q : α → Bool) (xs : List α) : gAny [.d (.list (xs.map fun x => .bool (q x)))] = some (wB (xs.any q)) := by
  show (boolsOf (xs.map fun x => .bool (q x))).map (fun bs => wB (bs.any id)) = _
  rw [boolsOf_map]
  simp [List.any_map]
theorem hot_keys : ∀ ks : List Ks, hotM (ks.map encX) = false
  | [] => rfl
  | [_] => rfl
  | [_, _] => rfl
  | _ :: _ :: [] :: _ => rfl
  | _ :: _ :: (_ :: _) :: _ => rfl
theorem gTuple_S (k : Ks) : gTuple [.d (.list (k.map .str))] = some (.d (encX k)) := by
  show (if hotM (k.map PyData.str) = false then some (W.d (.tuple (k.map .str))) else none) = _
  rw [if_pos (hot_strs k)]
  rfl
theorem gTuple_L (k : List Ks) : gTuple [.d (encL k)] = some (.d (encT k)) := by
  show (if hotM (k.map encX) = false then some (W.d (.tuple (k.map encX))) else none) = _
  rw [if_pos (hot_keys k)]
  rfl
theorem gSort_L {k : List Ks} (h : (M.sortU k).length < 63) : gSortSet (.d (encL k)) = some (.d (encL (M.sortU k))) := by
  unfold gSortSet encL
  simp only [items, Option.bind_some, keysOf_map]
  rw [if_pos h]
theorem gSort_T {k : List Ks} (h : (M.sortU k).length < 63) : gSortSet (.d (encT k)) = some (.d (encL (M.sortU k))) := by
  unfold gSortSet encT encL
  simp only [items, Option.bind_some, keysOf_map]
  rw [if_pos h]
theorem gSort_N {k : Ks} (h : k.length < 64) : gSortN [.d (.list (k.map .str))] = some (.d (.list ((M.sortS k).map .str))) := by
  show ((strsOf (k.map .str)).bind fun ys => if ys.length < 64 then some (W.d (.list ((M.sortS ys).map .str))) else none) = _
  rw [strsOf_map]
  simp [h]
theorem gLen_key (k : Ks) : gLen [.d (encX k)] = some (wI k.length) := by
  unfold gLen encX
  simp
end Y
end KMathA
section KMathB
set_option Elab.async false
set_option linter.all false
set_option maxRecDepth 100000
set_option maxHeartbeats 4000000
/-! What the small defs give. -/
namespace Y
open PySem PySem.Spec PyProof.Rows XS
theorem le_lim {n : Nat} (h : n ≤ 100000) : n ≤ lim := Nat.le_trans h (by decide)
theorem lt_lim {n : Nat} (h : n ≤ 100000) : n < lim := Nat.lt_of_le_of_lt h (by decide)
def joint (a b : Ks) : Ks := a.filter fun x => decide (x ∈ b)
def less (a b : Ks) : Ks := a.filter fun x => !decide (x ∈ b)
def within (a b : Ks) : Bool := a.all fun x => decide (x ∈ b)
/-- of a length that is let -/
abbrev Sm (k : Ks) : Prop := k.length ≤ 100000
variable {f : Fd}
theorem ev_joint {a b : Ks} (h : Sm a) : fn_joint_in [.d (encX a), .d (encX b)] f = some (.d (encX (joint a b)), f) :=
  fn_rt rfl (ret_ev (args_ev (cons_ev (lc_ev (it_ev rfl (walk_key a)) (lc_fil a (p := fun x => decide (x ∈ b)) (q := fun x => .str x) (fun x hx => ⟨_, rfl, t_ev (m2_ev rfl rfl (gIn_key x b)), fun _ => rfl⟩) (le_lim h))) nil_ev) (gTuple_S _)))
theorem ev_meets_in {a b : Ks} (h : Sm a) : fn_meets_in [.d (encX a), .d (encX b)] f = some (wB (a.any fun x => decide (x ∈ b)), f) :=
  fn_rt rfl (ret_ev (args_ev (cons_ev (lc_ev (it_ev rfl (walk_key a)) (lc_all a (q := fun x => .bool (decide (x ∈ b))) (fun x hx => ⟨_, rfl, m2_ev rfl rfl (gIn_key x b)⟩) (le_lim h))) nil_ev) (gAny_map _ a)))
theorem ev_within {a b : Ks} (h : Sm a) : fn_is_within [.d (encX a), .d (encX b)] f = some (wB (within a b), f) :=
  fn_rt rfl (ret_ev (args_ev (cons_ev (lc_ev (it_ev rfl (walk_key a)) (lc_all a (q := fun x => .bool (decide (x ∈ b))) (fun x hx => ⟨_, rfl, m2_ev rfl rfl (gIn_key x b)⟩) (le_lim h))) nil_ev) (gAll_map _ a)))
theorem ev_less {a b : Ks} (h : Sm a) : fn_less_by [.d (encX a), .d (encX b)] f = some (.d (encX (less a b)), f) :=
  fn_rt rfl (ret_ev (args_ev (cons_ev (lc_ev (it_ev rfl (walk_key a)) (lc_fil a (p := fun x => !decide (x ∈ b)) (q := fun x => .str x) (fun x hx => ⟨_, rfl, t_ev (m2_ev rfl rfl (gNin_key x b)), fun _ => rfl⟩) (le_lim h))) nil_ev) (gTuple_S _)))
theorem ev_lless {a b : Ks} (h : Sm a) : fn_law_less [.d (encX a), .d (encX b)] f = some (.d (encX (less a b)), f) :=
  fn_rt rfl (ret_ev (args_ev (cons_ev (lc_ev (it_ev rfl (walk_key a)) (lc_fil a (p := fun x => !decide (x ∈ b)) (q := fun x => .str x) (fun x hx => ⟨_, rfl, t_ev (m2_ev rfl rfl (gNin_key x b)), fun _ => rfl⟩) (le_lim h))) nil_ev) (gTuple_S _)))
theorem less_nil {a b : Ks} : decide (less a b = []) = within a b := by
  unfold less within
  by_cases h : a.all (fun x => decide (x ∈ b)) = true
  · rw [h]
    simp only [decide_eq_true_eq]
    refine List.filter_eq_nil_iff.mpr fun x hx => ?_
    have := List.all_eq_true.mp h x hx
    simp [of_decide_eq_true this]
  · have h' : a.all (fun x => decide (x ∈ b)) = false := by simpa using h
    rw [h']
    refine decide_eq_false fun z => h ?_
    refine List.all_eq_true.mpr fun x hx => ?_
    have := List.filter_eq_nil_iff.mp z x hx
    simpa using this
theorem ev_lwithin {a b : Ks} (h : Sm a) : fn_law_within [.d (encX a), .d (encX b)] f = some (wB (within a b), f) := by
  have e : gEq (.d (.list ((less a b).map .str))) (.d (.list [])) = some (wB (within a b)) := by rw [← less_nil]; exact gEq_S (less a b) []
  exact fn_rt rfl (ret_ev (m2_ev (lc_ev (it_ev rfl (walk_key a)) (lc_fil a (p := fun x => !decide (x ∈ b)) (q := fun x => .str x) (fun x hx => ⟨_, rfl, t_ev (m2_ev rfl rfl (gNin_key x b)), fun _ => rfl⟩) (le_lim h))) (args_ev nil_ev rfl) e))
/-! ### least and greatest sets -/
def least (X : List Ks) : List Ks := (M.sortU X).filter fun one => !((M.sortU X).any fun late => !decide (late = one) && within late one)
def greatest (X : List Ks) : List Ks := (M.sortU X).filter fun one => !((M.sortU X).any fun late => !decide (late = one) && within one late)
abbrev Sms (X : List Ks) : Prop := (M.sortU X).length < 63 ∧ ∀ k ∈ X, Sm k
theorem sms_mem {X : List Ks} (h : Sms X) {k : Ks} (m : k ∈ M.sortU X) : Sm k := h.2 k ((M.sortU_mem k X).mp m)
theorem sms_len {X : List Ks} (h : Sms X) : (M.sortU X).length ≤ 100000 := by have := h.1; omega
theorem ev_least0 {X : List Ks} {w : W} (h : Sms X) (hw : gSortSet w = some (.d (encL (M.sortU X)))) : fn_least_of [w] f = some (.d (encT (least X)), f) := by
  refine fn_rt rfl (seq_ev (set_ev (m1_ev rfl hw)) (seq_ev (set_ev (lc_ev (it_ev rfl (walk_L _)) (lc_fil (M.sortU X) (p := fun one => !((M.sortU X).any fun late => !decide (late = one) && within late one)) (q := encX) (fun one ho => ⟨_, rfl, no_ev (t_ev (args_ev (cons_ev (lc_ev (it_ev rfl (walk_L _)) (lc_all (M.sortU X) (q := fun late => .bool (!decide (late = one) && within late one)) (fun late hl => ⟨_, rfl, ?_⟩) (le_lim (sms_len h)))) nil_ev) (gAny_map _ _))), fun _ => rfl⟩) (le_lim (sms_len h))))) (ret_ev (args_ev (cons_ev rfl nil_ev) (gTuple_L (least X))))))
  exact and_ev (m2_ev rfl rfl (gNe_key late one)) fun _ => call_ev (cons_ev rfl (cons_ev rfl nil_ev)) (ev_within (sms_mem h hl))
theorem ev_least {X : List Ks} (h : Sms X) : fn_least_of [.d (encL X)] f = some (.d (encT (least X)), f) := ev_least0 h (gSort_L h.1)
theorem ev_leastT {X : List Ks} (h : Sms X) : fn_least_of [.d (encT X)] f = some (.d (encT (least X)), f) := ev_least0 h (gSort_T h.1)
theorem ev_greatest0 {X : List Ks} {w : W} (h : Sms X) (hw : gSortSet w = some (.d (encL (M.sortU X)))) : fn_greatest_of [w] f = some (.d (encT (greatest X)), f) := by
  refine fn_rt rfl (seq_ev (set_ev (m1_ev rfl hw)) (seq_ev (set_ev (lc_ev (it_ev rfl (walk_L _)) (lc_fil (M.sortU X) (p := fun one => !((M.sortU X).any fun late => !decide (late = one) && within one late)) (q := encX) (fun one ho => ⟨_, rfl, no_ev (t_ev (args_ev (cons_ev (lc_ev (it_ev rfl (walk_L _)) (lc_all (M.sortU X) (q := fun late => .bool (!decide (late = one) && within one late)) (fun late hl => ⟨_, rfl, ?_⟩) (le_lim (sms_len h)))) nil_ev) (gAny_map _ _))), fun _ => rfl⟩) (le_lim (sms_len h))))) (ret_ev (args_ev (cons_ev rfl nil_ev) (gTuple_L (greatest X))))))
  exact and_ev (m2_ev rfl rfl (gNe_key late one)) fun _ => call_ev (cons_ev rfl (cons_ev rfl nil_ev)) (ev_within (sms_mem h ho))
theorem ev_greatest {X : List Ks} (h : Sms X) : fn_greatest_of [.d (encL X)] f = some (.d (encT (greatest X)), f) := ev_greatest0 h (gSort_L h.1)
theorem ev_greatestT {X : List Ks} (h : Sms X) : fn_greatest_of [.d (encT X)] f = some (.d (encT (greatest X)), f) := ev_greatest0 h (gSort_T h.1)
theorem fil_any {X : List Ks} {p : Ks → Bool} : decide (X.filter p = []) = !X.any p := by
  by_cases h : X.any p = true
  · rw [h]
    refine decide_eq_false fun z => ?_
    obtain ⟨x, hx, hp⟩ := List.any_eq_true.mp h
    exact List.filter_eq_nil_iff.mp z x hx hp
  · have h' : X.any p = false := by simpa using h
    rw [h']
    simp only [Bool.not_false, decide_eq_true_eq]
    refine List.filter_eq_nil_iff.mpr fun x hx hp => h (List.any_eq_true.mpr ⟨x, hx, hp⟩)
theorem ev_lmin0 {X : List Ks} {w : W} (h : Sms X) (hw : gSortSet w = some (.d (encL (M.sortU X)))) : fn_law_minimal [w] f = some (.d (encT (least X)), f) := by
  refine fn_rt rfl (seq_ev (set_ev (m1_ev rfl hw)) (ret_ev (args_ev (cons_ev (lc_ev (it_ev rfl (walk_L _)) (lc_fil (M.sortU X) (p := fun one => !((M.sortU X).any fun late => !decide (late = one) && within late one)) (q := encX) (fun one ho => ⟨_, rfl, ?_, fun _ => rfl⟩) (le_lim (sms_len h)))) nil_ev) (gTuple_L (least X)))))
  have e := gEq_L ((M.sortU X).filter fun late => !decide (late = one) && within late one) []
  rw [fil_any] at e
  refine t_ev (m2_ev (lc_ev (it_ev rfl (walk_L _)) (lc_fil (M.sortU X) (p := fun late => !decide (late = one) && within late one) (q := encX) (fun late hl => ⟨_, rfl, ?_, fun _ => rfl⟩) (le_lim (sms_len h)))) (args_ev nil_ev rfl) e)
  exact an_ev (t_ev (m2_ev rfl rfl (gNe_key late one))) fun _ => t_ev (call_ev (cons_ev rfl (cons_ev rfl nil_ev)) (ev_lwithin (sms_mem h hl)))
theorem ev_lmin {X : List Ks} (h : Sms X) : fn_law_minimal [.d (encL X)] f = some (.d (encT (least X)), f) := ev_lmin0 h (gSort_L h.1)
theorem ev_lminT {X : List Ks} (h : Sms X) : fn_law_minimal [.d (encT X)] f = some (.d (encT (least X)), f) := ev_lmin0 h (gSort_T h.1)

/-! ### trusts -/
abbrev Row := Str × List Ks × List Ks
def encR (r : Row) : PyData := .tuple [.str r.1, encT r.2.1, encT r.2.2]
def encG (g : List Row) : PyData := .tuple (g.map encR)
def houses (g : List Row) : Ks := g.map (·.1)
def rowOf (g : List Row) (h : Str) : Row := ((g.filter fun r => decide (r.1 = h)).head?).getD ("", [], [])
def lotsOf (g : List Row) (h : Str) : List Ks := (rowOf g h).2.1
def fearsOf (g : List Row) (h : Str) : List Ks := (rowOf g h).2.2
theorem walk_G (g : List Row) : walkOf (.d (encG g)) = some (g.map fun r => W.d (encR r)) := by
  show some ((g.map encR).map W.d) = _
  rw [List.map_map]
  rfl
theorem gIx_R0 (r : Row) : gIx (.d (encR r)) (wI 0) = some (.d (.str r.1)) := rfl
theorem gIx_R1 (r : Row) : gIx (.d (encR r)) (wI 1) = some (.d (encT r.2.1)) := rfl
theorem gIx_R2 (r : Row) : gIx (.d (encR r)) (wI 2) = some (.d (encT r.2.2)) := rfl
theorem row_get {g : List Row} {h : Str} (m : h ∈ houses g) : ∃ rest, (g.filter fun r => decide (r.1 = h)) = rowOf g h :: rest ∧ rowOf g h ∈ g ∧ (rowOf g h).1 = h := by
  obtain ⟨r, hr, e⟩ := List.mem_map.mp m
  have hm : r ∈ g.filter fun r => decide (r.1 = h) := List.mem_filter.mpr ⟨hr, by simp [e]⟩
  cases q : g.filter fun r => decide (r.1 = h) with
  | nil => rw [q] at hm; cases hm
  | cons a l =>
    have ea : rowOf g h = a := by unfold rowOf; rw [q]; rfl
    have ha : a ∈ g.filter fun r => decide (r.1 = h) := by rw [q]; exact List.mem_cons_self
    obtain ⟨h1, h2⟩ := List.mem_filter.mp ha
    exact ⟨l, by rw [ea], by rw [ea]; exact h1, by rw [ea]; exact of_decide_eq_true h2⟩
theorem ev_lots {g : List Row} {h : Str} (m : h ∈ houses g) (hl : g.length ≤ 100) : fn_lots_of [.d (encG g), .d (.str h)] f = some (.d (encT (lotsOf g h)), f) := by
  obtain ⟨rest, e, _, _⟩ := row_get m
  refine fn_rt rfl (ret_ev (m2_ev (m2_ev (lc_ev (it_ev rfl (walk_G g)) (lc_fil g (p := fun r => decide (r.1 = h)) (q := encR) (fun r hr => ⟨_, rfl, t_ev (m2_ev (m2_ev rfl rfl (gIx_R0 r)) rfl (gEq_str r.1 h)), fun _ => rfl⟩) (le_lim (by omega)))) rfl ?_) rfl (gIx_R1 (rowOf g h))))
  rw [e]
  rfl
theorem ev_fears {g : List Row} {h : Str} (m : h ∈ houses g) (hl : g.length ≤ 100) : fn_fears_of [.d (encG g), .d (.str h)] f = some (.d (encT (fearsOf g h)), f) := by
  obtain ⟨rest, e, _, _⟩ := row_get m
  refine fn_rt rfl (ret_ev (m2_ev (m2_ev (lc_ev (it_ev rfl (walk_G g)) (lc_fil g (p := fun r => decide (r.1 = h)) (q := encR) (fun r hr => ⟨_, rfl, t_ev (m2_ev (m2_ev rfl rfl (gIx_R0 r)) rfl (gEq_str r.1 h)), fun _ => rfl⟩) (le_lim (by omega)))) rfl ?_) rfl (gIx_R2 (rowOf g h))))
  rw [e]
  rfl
theorem ev_houses {g : List Row} (hl : g.length ≤ 100) : fn_houses_in [.d (encG g)] f = some (.d (encX (houses g)), f) := by
  refine fn_rt rfl (ret_ev (args_ev (cons_ev (lc_ev (it_ev rfl (walk_G g)) (lc_all g (q := fun r => .str r.1) (fun r hr => ⟨_, rfl, m2_ev rfl rfl (gIx_R0 r)⟩) (le_lim (by omega)))) nil_ev) ?_))
  have := gTuple_S (houses g)
  unfold houses at this ⊢
  rw [List.map_map] at this
  exact this
end Y
end KMathB
section KMathC
set_option Elab.async false
set_option linter.all false
set_option maxRecDepth 100000
set_option maxHeartbeats 4000000
/-! Sets of names; subsets; needs; crossings. -/
namespace Y
open PySem PySem.Spec PyProof.Rows XS
variable {f : Fd}
/-! ### sublists of the names -/
def subsGo : List Ks → Ks → List Ks
  | acc, [] => acc
  | acc, n :: ns => subsGo (acc ++ acc.map (· ++ [n])) ns
def subs (ns : Ks) : List Ks := subsGo [[]] ns
theorem subsGo_mem (k : Ks) : ∀ (ns : Ks) (acc : List Ks), k ∈ subsGo acc ns ↔ ∃ a ∈ acc, ∃ s, s.Sublist ns ∧ k = a ++ s
  | [], acc => by
    show k ∈ acc ↔ _
    constructor
    · intro h; exact ⟨k, h, [], List.Sublist.refl _, by simp⟩
    · rintro ⟨a, ha, s, hs, e⟩
      rw [List.sublist_nil.mp hs, List.append_nil] at e
      rw [e]; exact ha
  | n :: ns, acc => by
    show k ∈ subsGo (acc ++ acc.map (· ++ [n])) ns ↔ _
    rw [subsGo_mem k ns]
    constructor
    · rintro ⟨a, ha, s, hs, e⟩
      rcases List.mem_append.mp ha with ha | ha
      · exact ⟨a, ha, s, hs.cons n, e⟩
      · obtain ⟨b, hb, rfl⟩ := List.mem_map.mp ha
        exact ⟨b, hb, n :: s, hs.cons_cons n, by rw [e]; simp⟩
    · rintro ⟨a, ha, s, hs, e⟩
      cases hs with
      | cons _ hs => exact ⟨a, List.mem_append_left _ ha, s, hs, e⟩
      | cons_cons _ hs => exact ⟨a ++ [n], List.mem_append_right _ (List.mem_map.mpr ⟨a, ha, rfl⟩), _, hs, by rw [e]; simp⟩
theorem subs_mem {k ns : Ks} : k ∈ subs ns ↔ k.Sublist ns := by
  unfold subs
  rw [subsGo_mem]
  constructor
  · rintro ⟨a, ha, s, hs, e⟩
    rw [List.mem_singleton.mp ha] at e
    rw [e]; exact hs
  · intro h
    exact ⟨[], List.mem_singleton.mpr rfl, k, h, rfl⟩
theorem subsGo_len : ∀ (ns : Ks) (acc : List Ks), (subsGo acc ns).length = acc.length * 2 ^ ns.length
  | [], acc => by simp [subsGo]
  | n :: ns, acc => by
    show (subsGo (acc ++ acc.map (· ++ [n])) ns).length = _
    rw [subsGo_len ns, List.length_append, List.length_map, List.length_cons, Nat.pow_succ]
    have : acc.length + acc.length = acc.length * 2 := by omega
    rw [this, Nat.mul_assoc, Nat.mul_comm 2]
theorem subs_len {ns : Ks} (h : ns.length ≤ 4) : (subs ns).length ≤ 16 := by
  unfold subs
  rw [subsGo_len]
  have : 2 ^ ns.length ≤ 2 ^ 4 := Nat.pow_le_pow_right (by decide) h
  simpa using this
theorem subsGo_snoc : ∀ (pre : Ks) (n : Str) (acc : List Ks), subsGo acc (pre ++ [n]) = subsGo acc pre ++ (subsGo acc pre).map (· ++ [n])
  | [], _, _ => rfl
  | _ :: pre, n, _ => subsGo_snoc pre n _
/-- keys of a few names are few -/
theorem few_sub {X : List Ks} {ns : Ks} (hn : ns.length ≤ 4) (hs : ∀ k ∈ X, k.Sublist ns) (nd : X.Nodup) : X.length ≤ 16 :=
  Nat.le_trans (M.nodup_le nd fun k hk => subs_mem.mpr (hs k hk)) (subs_len hn)
theorem sub_len {k ns : Ks} (hn : ns.length ≤ 4) (h : k.Sublist ns) : k.length ≤ 4 := Nat.le_trans h.length_le hn
theorem sortU_few {X : List Ks} {ns : Ks} (hn : ns.length ≤ 4) (hs : ∀ k ∈ X, k.Sublist ns) : (M.sortU X).length ≤ 16 :=
  few_sub hn (fun k hk => hs k ((M.sortU_mem k X).mp hk)) (M.sorted_nodup (M.sortU_sorted X))
theorem sms_sub {X : List Ks} {ns : Ks} (hn : ns.length ≤ 4) (hs : ∀ k ∈ X, k.Sublist ns) : Sms X := ⟨by have := sortU_few hn hs; omega, fun k hk => by have := sub_len hn (hs k hk); show k.length ≤ 100000; omega⟩
theorem sm_sub {k ns : Ks} (hn : ns.length ≤ 4) (h : k.Sublist ns) : Sm k := by have := sub_len hn h; show k.length ≤ 100000; omega
theorem least_sub {X : List Ks} {k : Ks} (h : k ∈ least X) : k ∈ X := (M.sortU_mem k X).mp ((List.mem_filter.mp h).1)
theorem greatest_sub {X : List Ks} {k : Ks} (h : k ∈ greatest X) : k ∈ X := (M.sortU_mem k X).mp ((List.mem_filter.mp h).1)
theorem least_few {X : List Ks} {ns : Ks} (hn : ns.length ≤ 4) (hs : ∀ k ∈ X, k.Sublist ns) : (least X).length ≤ 16 := Nat.le_trans (List.length_filter_le _ _) (sortU_few hn hs)
theorem greatest_few {X : List Ks} {ns : Ks} (hn : ns.length ≤ 4) (hs : ∀ k ∈ X, k.Sublist ns) : (greatest X).length ≤ 16 := Nat.le_trans (List.length_filter_le _ _) (sortU_few hn hs)
theorem joint_sub {a b : Ks} : (joint a b).Sublist a := List.filter_sublist
theorem less_sub {a b : Ks} : (less a b).Sublist a := List.filter_sublist
theorem gCatL_L (a b : List Ks) (h : a.length + b.length ≤ 100000) : gCatL (.d (encL a)) (.d (encL b)) = some (.d (encL (a ++ b))) := by
  unfold gCatL encL
  simp only [List.length_map]
  rw [if_pos (le_lim h), List.map_append]
theorem gCatT_key (k l : Ks) (h : k.length + l.length ≤ 100000) : gCatT (.d (encX k)) (.d (encX l)) = some (.d (encX (k ++ l))) := by
  unfold gCatT encX
  simp only [List.length_map]
  rw [← List.map_append, if_pos ⟨le_lim h, hot_strs _⟩]
theorem ev_subs {w : W} {ns : Ks} (hw : walkOf w = some (ns.map fun x => W.d (.str x))) (hn : ns.length ≤ 4) : fn_law_subsets [w] f = some (.d (encL (subs ns)), f) := by
  obtain ⟨ρ', f', h1, ⟨h2, a, b, h3⟩⟩ := forGo_all (g := gSet 2) (b := (sSet 1 (m2 gCatL (mVar 1) (mLc [3] (mIt (mVar 1)) (gSet 3) mYes (bOne (m2 gCatT (mVar 3) (mArgs gTupD (mCons (mVar 2) mNil)))))))) ns (ew := fun x => W.d (.str x))
    (fun pre ρ f' => f' = f ∧ ∃ a b, ρ = [.v w, .v (.d (encL (subs pre))), a, b]) (ρ := [.v w, .v (.d (encL [[]])), .un, .un]) (f := f) ⟨rfl, _, _, rfl⟩ fun pre x post e ρ f' ⟨ef, a, b, eρ⟩ => by
      subst ef eρ
      have hp : pre.length + 1 ≤ 4 := by
        have := congrArg List.length e
        simp at this
        omega
      have h16 := subs_len (ns := pre) (by omega)
      refine ⟨_, _, _, rfl, set_ev (w := .d (encL (subs (pre ++ [x])))) (m2_ev rfl (lc_ev (it_ev rfl (walk_L _)) (lc_all (subs pre) (q := fun k => encX (k ++ [x])) (fun k hk => ⟨_, rfl, m2_ev rfl (args_ev (cons_ev rfl nil_ev) rfl) (gCatT_key k [x] ?_)⟩) (le_lim (by omega)))) ?_), rfl, .v (.d (.str x)), b, ?_⟩
      · have := sub_len (ns := pre) (by omega) (subs_mem.mp hk)
        show k.length + 1 ≤ 100000
        omega
      · have := gCatL_L (subs pre) ((subs pre).map (· ++ [x])) (by rw [List.length_map]; omega)
        rw [show subs (pre ++ [x]) = subs pre ++ (subs pre).map (· ++ [x]) from subsGo_snoc pre x _]
        unfold encL at this ⊢
        rw [List.map_map] at this
        exact this
      · rfl
  subst h2 h3
  exact fn_rt rfl (seq_ev (set_ev (args_ev (cons_ev (args_ev nil_ev rfl) nil_ev) rfl)) (seq_ev (for_ev (it_ev rfl hw) h1) (ret_ev rfl)))
end Y
end KMathC
section KMathD
set_option Elab.async false
set_option linter.all false
set_option maxRecDepth 100000
set_option maxHeartbeats 4000000
/-! Falls, needs, crossings, as the package has them. -/
namespace Y
open PySem PySem.Spec PyProof.Rows XS
variable {f : Fd}
/-- a trust over the names ns -/
structure Ok (g : List Row) (ns : Ks) : Prop where
  nm : houses g = ns
  so : ns.Pairwise fun a b => M.sLt a b = true
  len : ns.length ≤ 4
  lots : ∀ r ∈ g, r.2.1.length ≤ 16 ∧ ∀ l ∈ r.2.1, l.Sublist ns
  fears : ∀ r ∈ g, r.2.2.length ≤ 16 ∧ ∀ l ∈ r.2.2, l.Sublist ns
theorem sorted_nd {ns : Ks} (h : ns.Pairwise fun a b => M.sLt a b = true) : ns.Nodup := h.imp fun {a b} c e => by
  rw [e, M.sLt_irrefl] at c
  cases c
theorem nodup_inj {α β : Type} {F : α → β} : ∀ {l : List α}, (l.map F).Nodup → ∀ {a b : α}, a ∈ l → b ∈ l → F a = F b → a = b
  | [], _, _, _, h, _, _ => by cases h
  | x :: l, nd, a, b, ha, hb, e => by
    rw [List.map_cons, List.nodup_cons] at nd
    rcases List.mem_cons.mp ha with ea | ha <;> rcases List.mem_cons.mp hb with eb | hb
    · rw [ea, eb]
    · exact absurd (List.mem_map.mpr ⟨b, hb, by rw [← e, ea]⟩) nd.1
    · exact absurd (List.mem_map.mpr ⟨a, ha, by rw [e, eb]⟩) nd.1
    · exact nodup_inj nd.2 ha hb e
theorem flat_len {α β : Type} {F : α → List β} {c : Nat} : ∀ {xs : List α}, (∀ x ∈ xs, (F x).length ≤ c) → (xs.flatMap F).length ≤ c * xs.length
  | [], _ => by simp
  | x :: xs, h => by
    rw [List.flatMap_cons, List.length_append, List.length_cons]
    have h1 := h x List.mem_cons_self
    have h2 := flat_len (F := F) (xs := xs) fun y hy => h y (List.mem_cons_of_mem _ hy)
    rw [Nat.mul_succ]
    omega
section
variable {g : List Row} {ns : Ks} (ok : Ok g ns)
include ok
theorem Ok.nd : ns.Nodup := sorted_nd ok.so
theorem Ok.glen : g.length ≤ 4 := by
  have := congrArg List.length ok.nm
  unfold houses at this
  rw [List.length_map] at this
  rw [this]
  exact ok.len
theorem Ok.row {h : Str} (m : h ∈ ns) : rowOf g h ∈ g ∧ (rowOf g h).1 = h := by
  obtain ⟨_, _, a, b⟩ := row_get (g := g) (h := h) (by rw [ok.nm]; exact m)
  exact ⟨a, b⟩
theorem Ok.uniq {r : Row} (m : r ∈ g) : rowOf g r.1 = r := by
  have hm : r.1 ∈ ns := by rw [← ok.nm]; exact List.mem_map.mpr ⟨r, m, rfl⟩
  obtain ⟨a, b⟩ := ok.row hm
  exact nodup_inj (F := (·.1)) (by have := ok.nd; rw [← ok.nm] at this; exact this) a m b
theorem Ok.lotsS {h : Str} (m : h ∈ ns) : (lotsOf g h).length ≤ 16 ∧ ∀ l ∈ lotsOf g h, l.Sublist ns := ok.lots _ (ok.row m).1
theorem Ok.fearsS {h : Str} (m : h ∈ ns) : (fearsOf g h).length ≤ 16 ∧ ∀ l ∈ fearsOf g h, l.Sublist ns := ok.fears _ (ok.row m).1
end

/-! ### falls -/
def fallsX (g : List Row) (h o : Str) : List Ks := (fearsOf g h).flatMap fun one => (fearsOf g o).map (joint one)
def fallsG (g : List Row) (h o : Str) : List Ks := greatest (fallsX g h o)
theorem fallsX_sub {g : List Row} {ns : Ks} (ok : Ok g ns) {h o : Str} (hh : h ∈ ns) : ∀ k ∈ fallsX g h o, k.Sublist ns := fun k hk => by
  obtain ⟨one, h1, h2⟩ := List.mem_flatMap.mp hk
  obtain ⟨late, h3, rfl⟩ := List.mem_map.mp h2
  exact joint_sub.trans ((ok.fearsS hh).2 one h1)
theorem ev_falls {g : List Row} {ns : Ks} (ok : Ok g ns) {h o : Str} (hh : h ∈ ns) (ho : o ∈ ns) (hne : h ≠ o) : fn_falls_by [.d (encG g), .d (.str h), .d (.str o)] f = some (.d (encT (fallsG g h o)), f) := by
  have gl := ok.glen
  have e1 : gEq (.d (.str h)) (.d (.str o)) = some (wB false) := by rw [gEq_str, decide_eq_false hne]
  have fl := ok.fearsS hh
  have fo := ok.fearsS ho
  have lh := ev_fears (f := f) (g := g) (h := h) (by rw [ok.nm]; exact hh) (by omega)
  have lo := ev_fears (f := f) (g := g) (h := o) (by rw [ok.nm]; exact ho) (by omega)
  have hlen : ([] : List PyData).length + ((fearsOf g h).flatMap fun _ => fearsOf g o).length ≤ lim := by
    have := flat_len (c := 16) (F := fun _ : Ks => fearsOf g o) (xs := fearsOf g h) fun _ _ => fo.1
    refine le_lim ?_
    have h16 := fl.1
    simp only [List.length_nil]
    omega
  have l2 := lc_two (f := f) (te := mCall fn_joint_in (mCons (mVar 4) (mCons (mVar 5) mNil))) (g := gSet 4) (g1 := gSet 5) (vs1 := [5]) (src1 := mIt (mCall fn_fears_of (mCons (mVar 0) (mCons (mVar 2) mNil))))
    (ρ := cl [4, 5] [.v (.d (encG g)), .v (.d (.str h)), .v (.d (.str o)), .un, .un, .un]) (fearsOf g h) (ew := fun one => W.d (encX one)) (ys := fun _ => fearsOf g o) (ev := fun _ late => W.d (encX late)) (q := fun one late => encX (joint one late))
    (fun one h1 => ⟨_, rfl, it_ev (call_ev (cons_ev rfl (cons_ev rfl nil_ev)) lo) (walk_T _), fun late h2 => ⟨_, rfl, call_ev (cons_ev rfl (cons_ev rfl nil_ev)) (ev_joint (sm_sub ok.len (fl.2 one h1)))⟩⟩) [] hlen
  have ex : (fearsOf g h).flatMap (fun one => (fearsOf g o).map fun late => encX (joint one late)) = (fallsX g h o).map encX := by
    unfold fallsX
    rw [List.map_flatMap]
    refine congrArg (fun F => List.flatMap F (fearsOf g h)) (funext fun one => ?_)
    rw [List.map_map]
    rfl
  rw [List.nil_append, ex] at l2
  exact fn_rt rfl (seq_ev (if_f (t_ev (m2_ev rfl rfl e1)) rfl) (seq_ev (set_ev (lc_ev (it_ev (call_ev (cons_ev rfl (cons_ev rfl nil_ev)) lh) (walk_T _)) l2)) (ret_ev (call_ev (cons_ev rfl nil_ev) (ev_greatest (sms_sub ok.len (fallsX_sub ok hh)))))))

/-! ### pairs -/
def pairs (g : List Row) : List (Str × Nat) := g.flatMap fun r => (List.range r.2.1.length).map fun k => (r.1, k)
def encP (p : Str × Nat) : PyData := .tuple [.str p.1, .int (p.2 : Nat)]
theorem pairs_mem {g : List Row} {p : Str × Nat} : p ∈ pairs g ↔ ∃ r ∈ g, p.1 = r.1 ∧ p.2 < r.2.1.length := by
  unfold pairs
  rw [List.mem_flatMap]
  constructor
  · rintro ⟨r, hr, h⟩
    obtain ⟨k, hk, rfl⟩ := List.mem_map.mp h
    exact ⟨r, hr, rfl, List.mem_range.mp hk⟩
  · rintro ⟨r, hr, e, h⟩
    exact ⟨r, hr, List.mem_map.mpr ⟨p.2, List.mem_range.mpr h, by rw [← e]⟩⟩
theorem pairs_len {g : List Row} {ns : Ks} (ok : Ok g ns) : (pairs g).length ≤ 64 := by
  have := flat_len (c := 16) (F := fun r : Row => (List.range r.2.1.length).map fun k => (r.1, k)) (xs := g) fun r hr => by simpa using (ok.lots r hr).1
  have gl := ok.glen
  unfold pairs
  omega
theorem rng_ev {ma : MA} {ρ : En} {n : Nat} (h : ma ρ f = some ([wI (n : Nat)], f)) (hn : n ≤ 100000) : mRng ma ρ f = some ((List.range n).map fun i => wI (i : Nat), f) := by
  unfold mRng
  rw [h]
  simp only [Option.bind_some, wI]
  rw [if_pos (by omega)]
  rfl
theorem gLen_T (L : List Ks) : gLen [.d (encT L)] = some (wI L.length) := by
  unfold gLen encT
  simp
theorem ev_pairs {g : List Row} {ns : Ks} (ok : Ok g ns) : fn_pairs_in [.d (encG g)] f = some (.d (.list ((pairs g).map encP)), f) := by
  have hlen : ([] : List PyData).length + (g.flatMap fun r => List.range r.2.1.length).length ≤ lim := by
    have := flat_len (c := 16) (F := fun r : Row => List.range r.2.1.length) (xs := g) fun r hr => by simpa using (ok.lots r hr).1
    have gl := ok.glen
    refine le_lim ?_
    simp only [List.length_nil]
    omega
  have l2 := lc_two (f := f) (te := mArgs gTupD (mCons (mVar 2) (mCons (mVar 1) mNil))) (g := gTupM 3 (gsCons (gSet 2) (gsCons (gSet 3) (gsCons (gSet 4) gsNil)))) (g1 := gSet 1) (vs1 := [1]) (src1 := mRng (mCons (mArgs gLen (mCons (mVar 3) mNil)) mNil))
    (ρ := cl [2, 3, 4, 1] [.v (.d (encG g)), .un, .un, .un, .un]) g (ew := fun r => W.d (encR r)) (ys := fun r => List.range r.2.1.length) (ev := fun _ k => wI (k : Nat)) (q := fun r k => encP (r.1, k))
    (fun r hr => ⟨_, rfl, rng_ev (cons_ev (args_ev (cons_ev rfl nil_ev) (gLen_T r.2.1)) nil_ev) (by have := (ok.lots r hr).1; omega), fun k hk => ⟨_, rfl, args_ev (cons_ev rfl (cons_ev rfl nil_ev)) rfl⟩⟩) [] hlen
  have ex : g.flatMap (fun r => (List.range r.2.1.length).map fun k => encP (r.1, k)) = (pairs g).map encP := by
    unfold pairs
    rw [List.map_flatMap]
    refine congrArg (fun F => List.flatMap F g) (funext fun one => ?_)
    rw [List.map_map]
    rfl
  rw [List.nil_append, ex] at l2
  exact fn_rt rfl (ret_ev (lc_ev (it_ev rfl (walk_G g)) l2))
def lotAt (g : List Row) (p : Str × Nat) : Ks := ((lotsOf g p.1)[p.2]?).getD []
theorem gIx_T {L : List Ks} {k : Nat} {x : Ks} (e : L[k]? = some x) : gIx (.d (encT L)) (wI (k : Nat)) = some (.d (encX x)) := by
  unfold gIx encT wI
  simp only
  rw [if_pos (by omega)]
  simp [e]
theorem lotAt_get {g : List Row} {ns : Ks} (ok : Ok g ns) {p : Str × Nat} (m : p ∈ pairs g) : p.1 ∈ ns ∧ (lotsOf g p.1)[p.2]? = some (lotAt g p) ∧ lotAt g p ∈ lotsOf g p.1 := by
  obtain ⟨r, hr, e1, e2⟩ := pairs_mem.mp m
  have hm : r.1 ∈ ns := by rw [← ok.nm]; exact List.mem_map.mpr ⟨r, hr, rfl⟩
  have el : lotsOf g p.1 = r.2.1 := by unfold lotsOf; rw [e1, ok.uniq hr]
  have hl : p.2 < (lotsOf g p.1).length := by rw [el]; exact e2
  have eg : (lotsOf g p.1)[p.2]? = some (lotsOf g p.1)[p.2] := List.getElem?_eq_getElem hl
  refine ⟨by rw [e1]; exact hm, ?_, ?_⟩
  · unfold lotAt
    rw [eg]
    rfl
  · unfold lotAt
    rw [eg]
    exact List.getElem_mem hl
theorem ev_lotAt {g : List Row} {ns : Ks} (ok : Ok g ns) {p : Str × Nat} (m : p ∈ pairs g) : fn_lot_at [.d (encG g), .d (encP p)] f = some (.d (encX (lotAt g p)), f) := by
  obtain ⟨h1, h2, _⟩ := lotAt_get ok m
  have gl := ok.glen
  exact fn_rt rfl (ret_ev (m2_ev (call_ev (cons_ev rfl (cons_ev (m2_ev rfl rfl rfl) nil_ev)) (ev_lots (by rw [ok.nm]; exact h1) (by omega))) (m2_ev rfl rfl rfl) (gIx_T h2)))

/-! ### needs -/
def needStep (g : List Row) (h : Str) (p : Str × Nat) : List Ks := if p.1 = h then [] else (fallsG g h p.1).map (less (lotAt g p))
def needX (g : List Row) (h : Str) : List Ks := (pairs g).flatMap (needStep g h)
def needs (g : List Row) (h : Str) : List Ks := least (needX g h)
theorem needStep_len {g : List Row} {ns : Ks} (ok : Ok g ns) {h : Str} (hh : h ∈ ns) (p : Str × Nat) : (needStep g h p).length ≤ 16 := by
  unfold needStep
  split
  · simp
  · rw [List.length_map]
    exact greatest_few ok.len (fallsX_sub ok hh)
theorem needX_sub {g : List Row} {ns : Ks} (ok : Ok g ns) {h : Str} : ∀ k ∈ needX g h, k.Sublist ns := fun k hk => by
  obtain ⟨p, h1, h2⟩ := List.mem_flatMap.mp hk
  unfold needStep at h2
  split at h2
  · cases h2
  · obtain ⟨fall, h3, rfl⟩ := List.mem_map.mp h2
    obtain ⟨a, _, b⟩ := lotAt_get ok h1
    exact less_sub.trans ((ok.lotsS a).2 _ b)
theorem ev_needs {g : List Row} {ns : Ks} (ok : Ok g ns) {h : Str} (hh : h ∈ ns) : fn_needs_by [.d (encG g), .d (.str h)] f = some (.d (encT (needs g h)), f) := by
  have pl := pairs_len ok
  obtain ⟨ρ', f', h1, h2, a, b, h3⟩ := forGo_all (g := gSet 3) (b := (sIf (mT (m2 gNe (m2 gIx (mVar 3) (mDat (.int 0))) (mVar 1))) (sExt 2 (mLc [4] (mIt (mCall fn_falls_by (mCons (mVar 0) (mCons (mVar 1) (mCons (m2 gIx (mVar 3) (mDat (.int 0))) mNil))))) (gSet 4) mYes (bOne (mCall fn_less_by (mCons (mCall fn_lot_at (mCons (mVar 0) (mCons (mVar 3) mNil))) (mCons (mVar 4) mNil)))))) sNil))
    (pairs g) (ew := fun p => W.d (encP p)) (fun pre ρ f' => f' = f ∧ ∃ a b, ρ = [.v (.d (encG g)), .v (.d (.str h)), .own (.lst ((pre.flatMap (needStep g h)).map encX)), a, b]) (ρ := [.v (.d (encG g)), .v (.d (.str h)), .own (.lst []), .un, .un]) (f := f) ⟨rfl, _, _, rfl⟩ fun pre p post e ρ f' ⟨ef, a, b, eρ⟩ => by
      subst ef eρ
      have hp : p ∈ pairs g := by rw [e]; simp
      obtain ⟨pm, _, lm⟩ := lotAt_get ok hp
      by_cases hne : p.1 = h
      · refine ⟨_, _, _, rfl, if_f (t_ev (m2_ev (m2_ev rfl rfl rfl) rfl (show gNe (.d (.str p.1)) (.d (.str h)) = some (wB false) by rw [gNe_str, decide_eq_true hne]; rfl))) rfl, rfl, .v (.d (encP p)), b, ?_⟩
        rw [List.flatMap_append]
        simp [needStep, hne]
      · have es : needStep g h p = (fallsG g h p.1).map (less (lotAt g p)) := by unfold needStep; rw [if_neg hne]
        have hl : (pre.flatMap (needStep g h)).length ≤ 1024 := by
          have h1 := flat_len (c := 16) (F := needStep g h) (xs := pre) fun x _ => needStep_len ok hh x
          have := congrArg List.length e
          simp at this
          omega
        have h16 := needStep_len ok hh p
        have f16 : (fallsG g h p.1).length ≤ 16 := greatest_few ok.len (fallsX_sub ok hh)
        refine ⟨_, _, _, rfl, if_t (t_ev (m2_ev (m2_ev rfl rfl rfl) rfl (show gNe (.d (.str p.1)) (.d (.str h)) = some (wB true) by rw [gNe_str, decide_eq_false hne]; rfl))) (ext_ev (es := (needStep g h p).map encX) (ds := (pre.flatMap (needStep g h)).map encX) (lc_ev (it_ev (call_ev (cons_ev rfl (cons_ev rfl (cons_ev (m2_ev rfl rfl rfl) nil_ev))) (ev_falls ok hh pm (Ne.symm hne))) (walk_T _)) ?_) rfl (le_lim (by rw [List.length_map, List.length_map]; omega))), rfl, .v (.d (encP p)), b, ?_⟩
        · rw [es, List.map_map]
          exact lc_all (fallsG g h p.1) (fun fall hf => ⟨_, rfl, call_ev (cons_ev (call_ev (cons_ev rfl (cons_ev rfl nil_ev)) (ev_lotAt ok hp)) (cons_ev rfl nil_ev)) (ev_less (sm_sub ok.len ((ok.lotsS pm).2 _ lm)))⟩) (le_lim (by omega))
        · rw [List.flatMap_append, List.map_append]
          simp
  subst h2 h3
  exact fn_rt rfl (seq_ev (own_ev nil_ev rfl (by decide)) (seq_ev (for_ev (it_ev (call_ev (cons_ev rfl nil_ev) (ev_pairs ok)) (by show some (((pairs g).map encP).map W.d) = _; rw [List.map_map]; rfl)) h1) (frz_ev rfl (ret_ev (call_ev (cons_ev rfl nil_ev) (ev_least (sms_sub ok.len (needX_sub ok))))))))
end Y
end KMathD
section KMathE
set_option Elab.async false
set_option linter.all false
set_option maxRecDepth 100000
set_option maxHeartbeats 4000000
/-! Meeting, crossings; the law's own words. -/
namespace Y
open PySem PySem.Spec PyProof.Rows XS
variable {f : Fd}
/-- n has a name of s -/
def hit (n s : Ks) : Bool := n.any fun x => decide (x ∈ s)
def meets (N : List Ks) (s : Ks) : Bool := N.all fun n => hit n s
theorem joint_nil {n s : Ks} : decide ((joint n s).length = 0) = !hit n s := by
  unfold joint hit
  by_cases h : n.any (fun x => decide (x ∈ s)) = true
  · rw [h]
    refine decide_eq_false fun z => ?_
    obtain ⟨x, hx, hp⟩ := List.any_eq_true.mp h
    have := List.length_eq_zero_iff.mp z
    exact List.filter_eq_nil_iff.mp this x hx hp
  · have h' : n.any (fun x => decide (x ∈ s)) = false := by simpa using h
    rw [h']
    simp only [Bool.not_false, decide_eq_true_eq]
    refine List.length_eq_zero_iff.mpr (List.filter_eq_nil_iff.mpr fun x hx hp => h (List.any_eq_true.mpr ⟨x, hx, hp⟩))
theorem gEq_int (a b : Int) : gEq (wI a) (wI b) = some (wB (decide (a = b))) := by
  show (if pairOk (.int a) (.int b) = true then some (wB (PyData.eqv (.int a) (.int b))) else none) = _
  rw [show pairOk (.int a) (.int b) = true from rfl, if_pos rfl]
  show some (wB (a == b)) = _
  have : (a == b) = decide (a = b) := by
    by_cases h : a = b
    · simp [h]
    · rw [decide_eq_false h]; exact beq_eq_false_iff_ne.mpr h
  rw [this]
theorem ev_first {N : List Ks} {s : Ks} (hN : N.length ≤ 100000) (hs : ∀ n ∈ N, Sm n) : fn_first_missed_by [.d (encT N), .d (encX s)] f = some (match N.find? fun n => !hit n s with | some n => .d (encX n) | none => .d .none, f) := by
  obtain ⟨h1, h2⟩ := forGo_find (f := f) (g := gSet 2) (b := (sIf (mT (m2 gEq (mArgs gLen (mCons (mCall fn_joint_in (mCons (mVar 2) (mCons (mVar 1) mNil))) mNil)) (mDat (.int 0)))) (sRet (mVar 2)) sNil)) (p := fun n => !hit n s) (ew := fun n => W.d (encX n)) (r := fun n => W.d (encX n))
    (fun ρ => ∃ a, ρ = [.v (.d (encT N)), .v (.d (encX s)), a]) N (fun n hn ρ ⟨a, eρ⟩ => by
      subst eρ
      have e : gEq (wI ((joint n s).length : Nat)) (.d (.int 0)) = some (wB (!hit n s)) := by
        have := gEq_int ((joint n s).length : Nat) 0
        rw [show wI 0 = W.d (.int 0) from rfl] at this
        rw [this, ← joint_nil]
        congr 2
        exact decide_eq_decide.mpr (by omega)
      have ht : (mT (m2 gEq (mArgs gLen (mCons (mCall fn_joint_in (mCons (mVar 2) (mCons (mVar 1) mNil))) mNil)) (mDat (.int 0)))) [.v (.d (encT N)), .v (.d (encX s)), .v (.d (encX n))] f = some (!hit n s, f) :=
        t_ev (m2_ev (args_ev (cons_ev (call_ev (cons_ev rfl (cons_ev rfl nil_ev)) (ev_joint (hs n hn))) nil_ev) (gLen_key _)) rfl e)
      refine ⟨_, rfl, fun hp => ?_, fun hp => ⟨_, ?_, .v (.d (encX n)), rfl⟩⟩
      · rw [hp] at ht
        exact if_t ht (ret_ev rfl)
      · rw [hp] at ht
        exact if_f ht rfl) [.v (.d (encT N)), .v (.d (encX s)), .un] ⟨_, rfl⟩
  cases e : N.find? fun n => !hit n s with
  | some n => exact fn_rt rfl (seq_rt (for_ev (it_ev rfl (walk_T N)) (h1 n e)))
  | none =>
    obtain ⟨ρ', h3, _⟩ := h2 e
    exact fn_rt rfl (seq_ev (for_ev (it_ev rfl (walk_T N)) h3) (ret_ev rfl))
theorem ev_met {N : List Ks} {s : Ks} (hN : N.length ≤ 100000) (hs : ∀ n ∈ N, Sm n) : fn_is_met [.d (encT N), .d (encX s)] f = some (wB (meets N s), f) := by
  refine fn_rt rfl (ret_ev (m2_ev (call_ev (cons_ev rfl (cons_ev rfl nil_ev)) (ev_first hN hs)) rfl ?_))
  have em : meets N s = (N.find? fun n => !hit n s).isNone := by
    unfold meets
    cases e : N.find? fun n => !hit n s with
    | some n =>
      have h1 := List.find?_some e
      have h2 := List.mem_of_find?_eq_some e
      rw [Bool.eq_iff_iff]
      constructor
      · intro h
        have := List.all_eq_true.mp h n h2
        simp [this] at h1
      · intro h; cases h
    | none =>
      have := List.find?_eq_none.mp e
      rw [Bool.eq_iff_iff]
      refine ⟨fun _ => rfl, fun _ => List.all_eq_true.mpr fun n hn => ?_⟩
      simpa using this n hn
  rw [em]
  cases e : N.find? fun n => !hit n s <;> rfl

/-! ### crossings -/
def crossF (need lot : Ks) : List Ks := if hit need lot = true then [lot] else need.map fun h => M.sortS (lot ++ [h])
def crossStep (found : List Ks) (need : Ks) : List Ks := least (found.flatMap (crossF need))
def crosses (N : List Ks) : List Ks := N.foldl crossStep [[]]
/-- a set of names, sorted -/
theorem filter_mem_self : ∀ {ns k : Ks}, ns.Nodup → k.Sublist ns → (ns.filter fun x => decide (x ∈ k)) = k
  | [], k, _, h => by rw [List.sublist_nil.mp h]; rfl
  | n :: ns, k, nd, h => by
    rw [List.nodup_cons] at nd
    cases h with
    | cons _ h =>
      have hn : n ∉ k := fun m => nd.1 (h.subset m)
      rw [List.filter_cons, if_neg (by simpa using hn)]
      exact filter_mem_self nd.2 h
    | @cons_cons k' _ _ h =>
      rw [List.filter_cons, if_pos (by simp)]
      congr 1
      rw [← filter_mem_self nd.2 h]
      refine List.filter_congr fun x hx => ?_
      have hne : x ≠ n := fun e => nd.1 (e ▸ hx)
      rw [filter_mem_self nd.2 h]
      simp [hne]
theorem sub_ext {ns a b : Ks} (nd : ns.Nodup) (ha : a.Sublist ns) (hb : b.Sublist ns) (h : ∀ x, x ∈ a ↔ x ∈ b) : a = b := by
  rw [← filter_mem_self nd ha, ← filter_mem_self nd hb]
  exact List.filter_congr fun x _ => decide_eq_decide.mpr (h x)
theorem perm_of_mem : ∀ {a b : Ks}, a.Nodup → b.Nodup → (∀ x, x ∈ a ↔ x ∈ b) → a.Perm b := fun {a b} ha hb h => (List.perm_ext_iff_of_nodup ha hb).mpr h
theorem sort_filter {ns k : Ks} (so : ns.Pairwise fun a b => M.sLt a b = true) (nd : k.Nodup) (h : ∀ x ∈ k, x ∈ ns) : M.sortS k = ns.filter fun x => decide (x ∈ k) := by
  refine (M.sortS_one (m := ns.filter fun x => decide (x ∈ k)) ?_ ?_).symm
  · refine perm_of_mem ((sorted_nd so).filter _) nd fun x => ?_
    rw [List.mem_filter]
    exact ⟨fun ⟨_, p⟩ => of_decide_eq_true p, fun m => ⟨h x m, by simpa using m⟩⟩
  · exact (so.filter _).imp fun {a b} c => M.sLt_asymm c
theorem cross_sub {ns need lot : Ks} (so : ns.Pairwise fun a b => M.sLt a b = true) (hn : need.Sublist ns) (hl : lot.Sublist ns) : ∀ k ∈ crossF need lot, k.Sublist ns := fun k hk => by
  unfold crossF at hk
  split at hk
  · rw [List.mem_singleton.mp hk]; exact hl
  · rename_i hh
    obtain ⟨h, hm, rfl⟩ := List.mem_map.mp hk
    have hnl : h ∉ lot := fun m => hh (List.any_eq_true.mpr ⟨h, hm, by simpa using m⟩)
    rw [sort_filter so]
    · exact List.filter_sublist
    · refine List.nodup_append.mpr ⟨hl.nodup (sorted_nd so), by simp, fun a ha b hb e => ?_⟩
      rw [List.mem_singleton.mp hb] at e
      exact hnl (e ▸ ha)
    · intro x hx
      rcases List.mem_append.mp hx with hx | hx
      · exact hl.subset hx
      · rw [List.mem_singleton.mp hx]; exact hn.subset hm
theorem crosses_sub {ns : Ks} (so : ns.Pairwise fun a b => M.sLt a b = true) : ∀ (N found : List Ks), (∀ n ∈ N, n.Sublist ns) → (∀ k ∈ found, k.Sublist ns) → ∀ k ∈ N.foldl crossStep found, k.Sublist ns
  | [], _, _, h => h
  | n :: N, found, hN, h => crosses_sub so N (crossStep found n) (fun m hm => hN m (List.mem_cons_of_mem _ hm)) fun k hk => by
    obtain ⟨lot, h1, h2⟩ := List.mem_flatMap.mp (least_sub hk)
    exact cross_sub so (hN n List.mem_cons_self) (h lot h1) k h2
theorem crossF_len {ns need lot : Ks} (len : ns.length ≤ 4) (hn : need.Sublist ns) : (crossF need lot).length ≤ 4 := by
  unfold crossF
  split
  · simp
  · rw [List.length_map]; exact sub_len len hn
theorem gGt_int (a b : Int) : gGtI (wI a) (wI b) = some (wB (decide (b < a))) := rfl
theorem ev_crosses {ns : Ks} (so : ns.Pairwise fun a b => M.sLt a b = true) (len : ns.length ≤ 4) {N : List Ks} (hN : ∀ n ∈ N, n.Sublist ns) : fn_crossings_by [.d (encT N)] f = some (.d (encT (crosses N)), f) := by
  obtain ⟨ρ', f', h1, h2, a, b, c, d, h3⟩ := forGo_all (g := gSet 2) (b := (sSeq (sOwnL 3 mNil) (sSeq (sFor (mIt (mVar 1)) (gSet 4) (sIf (mT (m2 gGtI (mArgs gLen (mCons (mCall fn_joint_in (mCons (mVar 2) (mCons (mVar 4) mNil))) mNil)) (mDat (.int 0)))) (sApp 3 (mVar 4)) (sExt 3 (mLc [5] (mIt (mVar 2)) (gSet 5) mYes (bOne (mArgs gTuple (mCons (mArgs gSortN (mCons (mArgs gLstD (mStar (mVar 4) (mCons (mVar 5) mNil))) mNil)) mNil))))))) (sFrz 3 (sSet 1 (mArgs gList (mCons (mCall fn_least_of (mCons (mVar 3) mNil)) mNil)))))))
    N (ew := fun n => W.d (encX n)) (fun pre ρ f' => f' = f ∧ ∃ a b c d, ρ = [.v (.d (encT N)), .v (.d (encL (crosses pre))), a, b, c, d]) (ρ := [.v (.d (encT N)), .v (.d (encL [[]])), .un, .un, .un, .un]) (f := f) ⟨rfl, _, _, _, _, rfl⟩ fun pre need post e ρ f' ⟨ef, a, b, c, d, eρ⟩ => by
      subst ef eρ
      have hneed : need.Sublist ns := hN need (by rw [e]; simp)
      have hpre : ∀ k ∈ crosses pre, k.Sublist ns := crosses_sub so pre [[]] (fun n hn => hN n (by rw [e]; simp [hn])) fun k hk => by rw [List.mem_singleton.mp hk]; exact List.nil_sublist _
      have c16 : (crosses pre).length ≤ 16 := by
        cases hp : pre.reverse with
        | nil =>
          have : pre = [] := by simpa using hp
          rw [this]; decide
        | cons x r =>
          have : pre = r.reverse ++ [x] := by rw [← List.reverse_reverse pre, hp]; simp
          unfold crosses at hpre ⊢
          rw [this, List.foldl_append]
          refine least_few len fun k hk => ?_
          obtain ⟨lot, g1, g2⟩ := List.mem_flatMap.mp hk
          exact cross_sub so (hN x (by rw [e, this]; simp)) (crosses_sub so _ [[]] (fun n hn => hN n (by rw [e, this]; simp at hn ⊢; simp [hn])) (fun k hk => by rw [List.mem_singleton.mp hk]; exact List.nil_sublist _) lot g1) k g2
      obtain ⟨ρ2, f2, i1, i2, p, q, i3⟩ := forGo_all (g := gSet 4) (b := (sIf (mT (m2 gGtI (mArgs gLen (mCons (mCall fn_joint_in (mCons (mVar 2) (mCons (mVar 4) mNil))) mNil)) (mDat (.int 0)))) (sApp 3 (mVar 4)) (sExt 3 (mLc [5] (mIt (mVar 2)) (gSet 5) mYes (bOne (mArgs gTuple (mCons (mArgs gSortN (mCons (mArgs gLstD (mStar (mVar 4) (mCons (mVar 5) mNil))) mNil)) mNil)))))))
        (crosses pre) (ew := fun n => W.d (encX n)) (fun pr ρ f1 => f1 = f' ∧ ∃ p q, ρ = [.v (.d (encT N)), .v (.d (encL (crosses pre))), .v (.d (encX need)), .own (.lst ((pr.flatMap (crossF need)).map encX)), p, q])
        (ρ := [.v (.d (encT N)), .v (.d (encL (crosses pre))), .v (.d (encX need)), .own (.lst []), c, d]) (f := f') ⟨rfl, _, _, rfl⟩ fun pr lot po e2 ρ f1 ⟨ef, p, q, eρ⟩ => by
          subst ef eρ
          have hlot : lot.Sublist ns := hpre lot (by rw [e2]; simp)
          have hl : (pr.flatMap (crossF need)).length ≤ 64 := by
            have h1 := flat_len (c := 4) (F := crossF need) (xs := pr) fun x _ => crossF_len len hneed
            have := congrArg List.length e2
            simp at this
            omega
          have ht : (mT (m2 gGtI (mArgs gLen (mCons (mCall fn_joint_in (mCons (mVar 2) (mCons (mVar 4) mNil))) mNil)) (mDat (.int 0)))) [.v (.d (encT N)), .v (.d (encL (crosses pre))), .v (.d (encX need)), .own (.lst ((pr.flatMap (crossF need)).map encX)), .v (.d (encX lot)), q] f1 = some (hit need lot, f1) := by
            refine t_ev (m2_ev (args_ev (cons_ev (call_ev (cons_ev rfl (cons_ev rfl nil_ev)) (ev_joint (sm_sub len hneed))) nil_ev) (gLen_key _)) rfl ?_)
            show some (wB (decide ((0 : Int) < ((joint need lot).length : Nat)))) = _
            have := joint_nil (n := need) (s := lot)
            congr 2
            cases hh : hit need lot with
            | true =>
              rw [hh] at this
              have h0 := of_decide_eq_false (by simpa using this : decide ((joint need lot).length = 0) = false)
              exact decide_eq_true (by omega)
            | false =>
              rw [hh] at this
              have h0 := of_decide_eq_true (by simpa using this : decide ((joint need lot).length = 0) = true)
              exact decide_eq_false (by omega)
          cases hh : hit need lot with
          | true =>
            rw [hh] at ht
            refine ⟨_, _, _, rfl, if_t ht (app_ev (d := encX lot) (ds := (pr.flatMap (crossF need)).map encX) rfl rfl (lt_lim (by rw [List.length_map]; omega))), rfl, .v (.d (encX lot)), q, ?_⟩
            rw [List.flatMap_append, List.map_append]
            simp [crossF, hh]
          | false =>
            rw [hh] at ht
            have eF : crossF need lot = need.map fun h => M.sortS (lot ++ [h]) := by unfold crossF; rw [hh]; rfl
            have n4 := sub_len len hneed
            have l4 := sub_len len hlot
            refine ⟨_, _, _, rfl, if_f ht (ext_ev (ds := (pr.flatMap (crossF need)).map encX) (es := (crossF need lot).map encX) (lc_ev (it_ev rfl (walk_key need)) ?_) rfl (le_lim (by have := crossF_len (lot := lot) len hneed; rw [List.length_map, List.length_map]; omega))), rfl, .v (.d (encX lot)), q, ?_⟩
            · rw [eF, List.map_map]
              refine lc_all need (fun h hm => ⟨_, rfl, ?_⟩) (le_lim (by omega))
              have e3 : (lot.map PyData.str).map W.d ++ [W.d (.str h)] = (lot ++ [h]).map fun x => W.d (.str x) := by simp
              have e4 : gLstD ((lot ++ [h]).map fun x => W.d (.str x)) = some (.d (.list ((lot ++ [h]).map .str))) := by
                have : ∀ k : Ks, datas (k.map fun x => W.d (.str x)) = some (k.map .str) := fun k => by
                  induction k with
                  | nil => rfl
                  | cons x k ih =>
                    show (datas (k.map fun x => W.d (.str x))).map (PyData.str x :: ·) = _
                    rw [ih]
                    rfl
                unfold gLstD
                rw [this]
                simp only [Option.bind_some]
                rw [if_pos (le_lim (by simp; omega))]
              refine args_ev (cons_ev (args_ev (cons_ev (args_ev (star_ev (ds := lot.map .str) rfl rfl (cons_ev rfl nil_ev)) ?_) nil_ev) (gSort_N (k := lot ++ [h]) (by simp; omega))) nil_ev) (gTuple_S _)
              rw [e3]
              exact e4
            · rw [List.flatMap_append, List.map_append]
              simp
      subst i2 i3
      have hsub : ∀ k ∈ (crosses pre).flatMap (crossF need), k.Sublist ns := fun k hk => by
        obtain ⟨lot, g1, g2⟩ := List.mem_flatMap.mp hk
        exact cross_sub so hneed (hpre lot g1) k g2
      refine ⟨_, _, _, rfl, seq_ev (own_ev nil_ev rfl (by decide)) (seq_ev (for_ev (it_ev rfl (walk_L _)) i1) (frz_ev rfl (set_ev (w := .d (encL (crosses (pre ++ [need])))) (args_ev (cons_ev (call_ev (cons_ev rfl nil_ev) (ev_least (sms_sub len hsub))) nil_ev) ?_)))), rfl, .v (.d (encX need)), _, p, q, rfl⟩
      show some (W.d (.list ((crossStep (crosses pre) need).map encX))) = _
      unfold crosses
      rw [List.foldl_append]
      rfl
  subst h2 h3
  exact fn_rt rfl (seq_ev (set_ev (args_ev (cons_ev (args_ev nil_ev rfl) nil_ev) rfl)) (seq_ev (for_ev (it_ev rfl (walk_T N)) h1) (ret_ev (args_ev (cons_ev rfl nil_ev) (gTuple_L _)))))
end Y
end KMathE
section KMathF
set_option Elab.async false
set_option linter.all false
set_option maxRecDepth 100000
set_option maxHeartbeats 4000000
/-! What the law's own defs give. -/
namespace Y
open PySem PySem.Spec PyProof.Rows XS
variable {f : Fd}
theorem filS_nil {n s : Ks} : decide ((n.filter fun x => decide (x ∈ s)) = []) = !hit n s := by
  have := joint_nil (n := n) (s := s)
  unfold joint at this
  rw [← this]
  exact decide_eq_decide.mpr List.length_eq_zero_iff.symm
theorem ev_lmeets {N : List Ks} {s : Ks} (hN : N.length ≤ 100000) (hs : ∀ n ∈ N, Sm n) : fn_law_meets [.d (encT N), .d (encX s)] f = some (wB (meets N s), f) := by
  have e0 := gEq_L (N.filter fun n => !hit n s) []
  have em : decide ((N.filter fun n => !hit n s) = []) = meets N s := by
    rw [fil_any]
    unfold meets
    rw [List.any_eq_not_all_not]
    simp
  rw [em] at e0
  refine fn_rt rfl (ret_ev (m2_ev (lc_ev (it_ev rfl (walk_T N)) (lc_fil N (p := fun n => !hit n s) (q := encX) (fun n hn => ⟨_, rfl, ?_, fun _ => rfl⟩) (le_lim hN))) (args_ev nil_ev rfl) e0))
  have e1 := gEq_S (n.filter fun x => decide (x ∈ s)) []
  rw [filS_nil] at e1
  exact t_ev (m2_ev (lc_ev (it_ev rfl (walk_key n)) (lc_fil n (p := fun x => decide (x ∈ s)) (q := fun x => .str x) (fun x hx => ⟨_, rfl, t_ev (m2_ev rfl rfl (gIn_key x s)), fun _ => rfl⟩) (le_lim (hs n hn)))) (args_ev nil_ev rfl) e1)
def crossed (N : List Ks) (ns : Ks) : List Ks := least ((subs ns).filter fun s => meets N s)
theorem ev_lcrossed {N : List Ks} {ns : Ks} (len : ns.length ≤ 4) (hN : N.length ≤ 100000) (hs : ∀ n ∈ N, Sm n) : fn_law_crossed [.d (encT N), .d (encX ns)] f = some (.d (encT (crossed N ns)), f) := by
  refine fn_rt rfl (ret_ev (call_ev (cons_ev (lc_ev (it_ev (call_ev (cons_ev rfl nil_ev) (ev_subs (walk_key ns) len)) (walk_L _)) (lc_fil (subs ns) (p := fun s => meets N s) (q := encX) (fun s hs' => ⟨_, rfl, t_ev (call_ev (cons_ev rfl (cons_ev rfl nil_ev)) (ev_lmeets hN hs)), fun _ => rfl⟩) (le_lim (by have := subs_len len; omega)))) nil_ev) ?_))
  exact ev_lmin (sms_sub len fun k hk => subs_mem.mp (List.mem_filter.mp hk).1)

/-! ### who is safe -/
def safeR (s : Ks) (r : Row) : Bool := !decide (r.1 ∈ s) && r.2.2.any fun one => within s one
def safe (g : List Row) (s : Ks) : Ks := (g.filter (safeR s)).map (·.1)
theorem gR (r : Row) (ρ : En) : gTupM 3 (gsCons (gSet 3) (gsCons (gSet 4) (gsCons (gSet 5) gsNil))) (.d (encR r)) ρ = some (((ρ.set 3 (.v (.d (.str r.1)))).set 4 (.v (.d (encT r.2.1)))).set 5 (.v (.d (encT r.2.2)))) := rfl
theorem ev_lsafe {g : List Row} {ns : Ks} (ok : Ok g ns) {s : Ks} (hs : Sm s) : fn_law_safe [.d (encG g), .d (encX s)] f = some (.d (.list ((safe g s).map .str)), f) := by
  have gl := ok.glen
  obtain ⟨ρ', f', h1, h2, a, b, c, d, h3⟩ := forGo_all (g := gTupM 3 (gsCons (gSet 3) (gsCons (gSet 4) (gsCons (gSet 5) gsNil)))) (b := (sIf (tAn (mT (m2 gNotIn (mVar 3) (mVar 1))) ((mT (m2 gNe (mLc [6] (mIt (mVar 5)) (gSet 6) (mT (mCall fn_law_within (mCons (mVar 1) (mCons (mVar 6) mNil)))) (bOne (mVar 6))) (mArgs gLstD mNil))))) (sApp 2 (mVar 3)) sNil))
    g (ew := fun r => W.d (encR r)) (fun pre ρ f' => f' = f ∧ ∃ a b c d, ρ = [.v (.d (encG g)), .v (.d (encX s)), .own (.lst (((pre.filter (safeR s)).map (·.1)).map .str)), a, b, c, d]) (ρ := [.v (.d (encG g)), .v (.d (encX s)), .own (.lst []), .un, .un, .un, .un]) (f := f) ⟨rfl, _, _, _, _, rfl⟩ fun pre r post e ρ f' ⟨ef, a, b, c, d, eρ⟩ => by
      subst ef eρ
      have hr : r ∈ g := by rw [e]; simp
      have hp : pre.length ≤ 4 := by
        have := congrArg List.length e
        simp at this
        omega
      have ht : (tAn (mT (m2 gNotIn (mVar 3) (mVar 1))) ((mT (m2 gNe (mLc [6] (mIt (mVar 5)) (gSet 6) (mT (mCall fn_law_within (mCons (mVar 1) (mCons (mVar 6) mNil)))) (bOne (mVar 6))) (mArgs gLstD mNil))))) [.v (.d (encG g)), .v (.d (encX s)), .own (.lst (((pre.filter (safeR s)).map (·.1)).map .str)), .v (.d (.str r.1)), .v (.d (encT r.2.1)), .v (.d (encT r.2.2)), d] f' = some (safeR s r, f') := by
        have e0 := gNe_L (r.2.2.filter fun one => within s one) []
        rw [fil_any, Bool.not_not] at e0
        refine an_ev (t_ev (m2_ev rfl rfl (gNin_key r.1 s))) fun _ => t_ev (m2_ev (lc_ev (it_ev rfl (walk_T _)) (lc_fil r.2.2 (p := fun one => within s one) (q := encX) (fun one ho => ⟨_, rfl, t_ev (call_ev (cons_ev rfl (cons_ev rfl nil_ev)) (ev_lwithin hs)), fun _ => rfl⟩) (le_lim (by have := (ok.fears r hr).1; omega)))) (args_ev nil_ev rfl) e0)
      cases hh : safeR s r with
      | true =>
        rw [hh] at ht
        refine ⟨_, _, _, gR r _, if_t ht (app_ev (d := .str r.1) rfl rfl (lt_lim (by rw [List.length_map, List.length_map]; have := List.length_filter_le (safeR s) pre; omega))), rfl, .v (.d (.str r.1)), .v (.d (encT r.2.1)), .v (.d (encT r.2.2)), d, ?_⟩
        rw [List.filter_append, List.filter_cons, if_pos hh]
        simp
      | false =>
        rw [hh] at ht
        refine ⟨_, _, _, gR r _, if_f ht rfl, rfl, .v (.d (.str r.1)), .v (.d (encT r.2.1)), .v (.d (encT r.2.2)), d, ?_⟩
        rw [List.filter_append, List.filter_cons, if_neg (by simp [hh])]
        simp
  subst h2 h3
  exact fn_rt rfl (seq_ev (own_ev nil_ev rfl (by decide)) (seq_ev (for_ev (it_ev rfl (walk_G g)) h1) (frz_ev rfl (ret_ev rfl))))
abbrev Sf := Ks × Ks
def encS (p : Sf) : PyData := .tuple [encX p.1, .list (p.2.map .str)]
def safes (g : List Row) (ns : Ks) : List Sf := ((subs ns).map fun s => (s, safe g s)).filter fun p => !decide (p.2 = [])
theorem ev_lsafes {g : List Row} {ns : Ks} (ok : Ok g ns) : fn_law_safes [.d (encG g)] f = some (.d (.list ((safes g ns).map encS)), f) := by
  have gl := ok.glen
  have s16 := subs_len ok.len
  have e1 : (mLc [3] (mIt (mVar 0)) (gSet 3) mYes (bOne (m2 gIx (mVar 3) (mDat (.int 0))))) [.v (.d (encG g)), .un, .un, .un, .un, .un] f = some (.d (.list (ns.map .str)), f) := by
    refine lc_ev (it_ev rfl (walk_G g)) ?_
    rw [show ns.map PyData.str = g.map fun r => PyData.str r.1 by rw [← ok.nm]; unfold houses; rw [List.map_map]; rfl]
    exact lc_all g (fun r hr => ⟨_, rfl, m2_ev rfl rfl (gIx_R0 r)⟩) (le_lim (by omega))
  have e2 : (mLc [4] (mIt (mCall fn_law_subsets (mCons (mVar 1) mNil))) (gSet 4) mYes (bOne (mArgs gTupD (mCons (mVar 4) (mCons (mCall fn_law_safe (mCons (mVar 0) (mCons (mVar 4) mNil))) mNil))))) [.v (.d (encG g)), .v (.d (.list (ns.map .str))), .un, .un, .un, .un] f = some (.d (.list (((subs ns).map fun s => (s, safe g s)).map encS)), f) := by
    refine lc_ev (it_ev (call_ev (cons_ev rfl nil_ev) (ev_subs (walk_S ns) ok.len)) (walk_L _)) ?_
    rw [List.map_map]
    exact lc_all (subs ns) (fun s hs => ⟨_, rfl, args_ev (cons_ev rfl (cons_ev (call_ev (cons_ev rfl (cons_ev rfl nil_ev)) (ev_lsafe ok (sm_sub ok.len (subs_mem.mp hs)))) nil_ev)) rfl⟩) (le_lim (by omega))
  refine fn_rt rfl (seq_ev (set_ev e1) (seq_ev (set_ev e2) (ret_ev (lc_ev (it_ev (ws := ((subs ns).map fun s => (s, safe g s)).map fun p => W.d (encS p)) rfl (by show some ((((subs ns).map fun s => (s, safe g s)).map encS).map W.d) = _; rw [List.map_map (g := W.d)]; rfl)) (lc_fil _ (p := fun p => !decide (p.2 = [])) (q := encS) (fun p hp => ⟨_, rfl, t_ev (m2_ev (m2_ev rfl rfl rfl) (args_ev nil_ev rfl) (gNe_S p.2 [])), fun _ => rfl⟩) (le_lim (by rw [List.length_map]; omega)))))))

/-! ### the law's needs -/
def lneedR (h : Str) (p : Sf) (r : Row) : List Ks := if (decide (h ∈ p.2) && (decide (r.1 ∈ p.2) && !decide (r.1 = h))) = true then r.2.1.map (fun l => less l p.1) else []
def lneedX (g : List Row) (sf : List Sf) (h : Str) : List Ks := sf.flatMap fun p => g.flatMap (lneedR h p)
def lneeds (g : List Row) (sf : List Sf) (h : Str) : List Ks := least (lneedX g sf h)
theorem lneedR_len {g : List Row} {ns : Ks} (ok : Ok g ns) {h : Str} {p : Sf} {r : Row} (hr : r ∈ g) : (lneedR h p r).length ≤ 16 := by
  unfold lneedR
  split
  · rw [List.length_map]; exact (ok.lots r hr).1
  · simp
theorem lneedX_sub {g : List Row} {ns : Ks} (ok : Ok g ns) {h : Str} {sf : List Sf} : ∀ k ∈ lneedX g sf h, k.Sublist ns := fun k hk => by
  obtain ⟨p, h1, h2⟩ := List.mem_flatMap.mp hk
  obtain ⟨r, h3, h4⟩ := List.mem_flatMap.mp h2
  unfold lneedR at h4
  split at h4
  · obtain ⟨l, h5, rfl⟩ := List.mem_map.mp h4
    exact less_sub.trans ((ok.lots r h3).2 l h5)
  · cases h4
theorem gP (p : Sf) (ρ : En) : gTupM 2 (gsCons (gSet 4) (gsCons (gSet 5) gsNil)) (.d (encS p)) ρ = some ((ρ.set 4 (.v (.d (encX p.1)))).set 5 (.v (.d (.list (p.2.map .str))))) := rfl
theorem gR6 (r : Row) (ρ : En) : gTupM 3 (gsCons (gSet 6) (gsCons (gSet 7) (gsCons (gSet 8) gsNil))) (.d (encR r)) ρ = some (((ρ.set 6 (.v (.d (.str r.1)))).set 7 (.v (.d (encT r.2.1)))).set 8 (.v (.d (encT r.2.2)))) := rfl
theorem ev_lneeds {g : List Row} {ns : Ks} (ok : Ok g ns) {sf : List Sf} (hsf : sf.length ≤ 16) (hsl : ∀ p ∈ sf, p.1.length ≤ 4) {h : Str} : fn_law_needs [.d (encG g), .d (.list (sf.map encS)), .d (.str h)] f = some (.d (encT (lneeds g sf h)), f) := by
  have gl := ok.glen
  obtain ⟨ρ', f', h1, h2, a, b, c, d, e, q, h3⟩ := forGo_all (g := gTupM 2 (gsCons (gSet 4) (gsCons (gSet 5) gsNil))) (b := (sFor (mIt (mVar 0)) (gTupM 3 (gsCons (gSet 6) (gsCons (gSet 7) (gsCons (gSet 8) gsNil)))) (sIf (tAn (mT (m2 gIn (mVar 2) (mVar 5))) (tAn (mT (m2 gIn (mVar 6) (mVar 5))) ((mT (m2 gNe (mVar 6) (mVar 2)))))) (sSet 3 (m2 gCatL (mVar 3) (mLc [9] (mIt (mVar 7)) (gSet 9) mYes (bOne (mCall fn_law_less (mCons (mVar 9) (mCons (mVar 4) mNil))))))) sNil)))
    sf (ew := fun p => W.d (encS p)) (fun pre ρ f' => f' = f ∧ ∃ a b c d e q, ρ = [.v (.d (encG g)), .v (.d (.list (sf.map encS))), .v (.d (.str h)), .v (.d (encL (pre.flatMap fun p => g.flatMap (lneedR h p)))), a, b, c, d, e, q])
    (ρ := [.v (.d (encG g)), .v (.d (.list (sf.map encS))), .v (.d (.str h)), .v (.d (encL [])), .un, .un, .un, .un, .un, .un]) (f := f) ⟨rfl, _, _, _, _, _, _, rfl⟩ fun pre p post e0 ρ f' ⟨ef, a, b, c, d, e, q, eρ⟩ => by
      subst ef eρ
      have hp16 : pre.length ≤ 16 := by
        have := congrArg List.length e0
        simp at this
        omega
      have l1 : (pre.flatMap fun p => g.flatMap (lneedR h p)).length ≤ 64 * pre.length := flat_len fun p _ => by
        have := flat_len (c := 16) (F := lneedR h p) (xs := g) fun r hr => lneedR_len ok hr
        omega
      obtain ⟨ρ2, f2, i1, i2, c', d', e', q', i3⟩ := forGo_all (g := gTupM 3 (gsCons (gSet 6) (gsCons (gSet 7) (gsCons (gSet 8) gsNil)))) (b := (sIf (tAn (mT (m2 gIn (mVar 2) (mVar 5))) (tAn (mT (m2 gIn (mVar 6) (mVar 5))) ((mT (m2 gNe (mVar 6) (mVar 2)))))) (sSet 3 (m2 gCatL (mVar 3) (mLc [9] (mIt (mVar 7)) (gSet 9) mYes (bOne (mCall fn_law_less (mCons (mVar 9) (mCons (mVar 4) mNil))))))) sNil))
        g (ew := fun r => W.d (encR r)) (fun pr ρ f1 => f1 = f' ∧ ∃ c d e q, ρ = [.v (.d (encG g)), .v (.d (.list (sf.map encS))), .v (.d (.str h)), .v (.d (encL ((pre.flatMap fun p => g.flatMap (lneedR h p)) ++ pr.flatMap (lneedR h p)))), .v (.d (encX p.1)), .v (.d (.list (p.2.map .str))), c, d, e, q])
        (ρ := [.v (.d (encG g)), .v (.d (.list (sf.map encS))), .v (.d (.str h)), .v (.d (encL (pre.flatMap fun p => g.flatMap (lneedR h p)))), .v (.d (encX p.1)), .v (.d (.list (p.2.map .str))), c, d, e, q]) (f := f') ⟨rfl, c, d, e, q, by simp⟩ fun pr r po e2 ρ f1 ⟨ef, c, d, e, q, eρ⟩ => by
          subst ef eρ
          have hr : r ∈ g := by rw [e2]; simp
          have hp4 : pr.length ≤ 4 := by
            have := congrArg List.length e2
            simp at this
            omega
          have l2 : (pr.flatMap (lneedR h p)).length ≤ 16 * pr.length := flat_len fun x hx => lneedR_len ok (by rw [e2]; simp [hx])
          have ht : (tAn (mT (m2 gIn (mVar 2) (mVar 5))) (tAn (mT (m2 gIn (mVar 6) (mVar 5))) ((mT (m2 gNe (mVar 6) (mVar 2)))))) [.v (.d (encG g)), .v (.d (.list (sf.map encS))), .v (.d (.str h)), .v (.d (encL ((pre.flatMap fun p => g.flatMap (lneedR h p)) ++ pr.flatMap (lneedR h p)))), .v (.d (encX p.1)), .v (.d (.list (p.2.map .str))), .v (.d (.str r.1)), .v (.d (encT r.2.1)), .v (.d (encT r.2.2)), q] f1 = some (decide (h ∈ p.2) && (decide (r.1 ∈ p.2) && !decide (r.1 = h)), f1) :=
            an_ev (t_ev (m2_ev rfl rfl (gIn_S h p.2))) fun _ => an_ev (t_ev (m2_ev rfl rfl (gIn_S r.1 p.2))) fun _ => t_ev (m2_ev rfl rfl (gNe_str r.1 h))
          cases hh : (decide (h ∈ p.2) && (decide (r.1 ∈ p.2) && !decide (r.1 = h))) with
          | true =>
            rw [hh] at ht
            have eR : lneedR h p r = r.2.1.map fun l => less l p.1 := by unfold lneedR; rw [hh]; rfl
            have hl16 := (ok.lots r hr).1
            refine ⟨_, _, _, gR6 r _, if_t ht (set_ev (w := .d (encL (((pre.flatMap fun p => g.flatMap (lneedR h p)) ++ pr.flatMap (lneedR h p)) ++ lneedR h p r))) (m2_ev rfl (lc_ev (ds := (lneedR h p r).map encX) (it_ev rfl (walk_T _)) ?_) (gCatL_L _ _ ?_))), rfl, .v (.d (.str r.1)), .v (.d (encT r.2.1)), .v (.d (encT r.2.2)), q, ?_⟩
            · rw [eR, List.map_map]
              exact lc_all r.2.1 (fun l hl => ⟨_, rfl, call_ev (cons_ev rfl (cons_ev rfl nil_ev)) (ev_lless (sm_sub ok.len ((ok.lots r hr).2 l hl)))⟩) (le_lim (by omega))
            · rw [List.length_append]
              have := lneedR_len (h := h) (p := p) ok hr
              omega
            · rw [List.flatMap_append, List.append_assoc]
              simp
          | false =>
            rw [hh] at ht
            have eR : lneedR h p r = [] := by unfold lneedR; rw [hh]; rfl
            refine ⟨_, _, _, gR6 r _, if_f ht rfl, rfl, .v (.d (.str r.1)), .v (.d (encT r.2.1)), .v (.d (encT r.2.2)), q, ?_⟩
            rw [List.flatMap_append]
            simp [eR]
      subst i2 i3
      refine ⟨_, _, _, gP p _, for_ev (it_ev rfl (walk_G g)) i1, rfl, .v (.d (encX p.1)), .v (.d (.list (p.2.map .str))), c', d', e', q', ?_⟩
      rw [List.flatMap_append]
      simp
  subst h2 h3
  exact fn_rt rfl (seq_ev (set_ev (args_ev nil_ev rfl)) (seq_ev (for_ev (it_ev (ws := sf.map fun p => W.d (encS p)) rfl (by show some ((sf.map encS).map W.d) = _; rw [List.map_map]; rfl)) h1) (ret_ev (call_ev (cons_ev rfl nil_ev) (ev_lmin (sms_sub ok.len (lneedX_sub ok)))))))

/-! ### thinned out -/
def wide (L : List Ks) : List Ks := L.filter fun one => !(L.any fun far => !decide (far = one) && within one far)
def thinR (r : Row) : Row := (r.1, least r.2.1, wide r.2.2)
def thin (g : List Row) : List Row := g.map thinR
theorem gR2 (r : Row) (ρ : En) : gTupM 3 (gsCons (gSet 2) (gsCons (gSet 3) (gsCons (gSet 4) gsNil))) (.d (encR r)) ρ = some (((ρ.set 2 (.v (.d (.str r.1)))).set 3 (.v (.d (encT r.2.1)))).set 4 (.v (.d (encT r.2.2)))) := rfl
theorem hot_rows : ∀ g : List Row, hotM (g.map encR) = false
  | [] => rfl
  | [_] => rfl
  | [_, _] => rfl
  | _ :: _ :: _ :: _ => rfl
theorem hot_row (r : Row) : hotM [.str r.1, encT r.2.1, encT r.2.2] = false := by
  obtain ⟨a, b, c⟩ := r
  match c with
  | [] => rfl
  | [] :: _ => rfl
  | (_ :: _) :: _ => rfl
theorem gTupD_row (r : Row) : gTupD [.d (.str r.1), .d (encT r.2.1), .d (encT r.2.2)] = some (.d (encR r)) := by
  show (if (3 : Nat) ≤ lim ∧ hotM [.str r.1, encT r.2.1, encT r.2.2] = false then some (W.d (.tuple [.str r.1, encT r.2.1, encT r.2.2])) else none) = _
  rw [if_pos ⟨by decide, hot_row r⟩]
  rfl
theorem ev_lthin {g : List Row} {ns : Ks} (ok : Ok g ns) : fn_law_thin [.d (encG g)] f = some (.d (encG (thin g)), f) := by
  have gl := ok.glen
  obtain ⟨ρ', f', h1, h2, a, b, c, d, e, q, h3⟩ := forGo_all (g := gTupM 3 (gsCons (gSet 2) (gsCons (gSet 3) (gsCons (gSet 4) gsNil)))) (b := (sSeq (sSet 5 (mLc [6] (mIt (mVar 4)) (gSet 6) (mT (m2 gEq (mLc [7] (mIt (mVar 4)) (gSet 7) (tAn (mT (m2 gNe (mVar 7) (mVar 6))) ((mT (mCall fn_law_within (mCons (mVar 6) (mCons (mVar 7) mNil)))))) (bOne (mVar 7))) (mArgs gLstD mNil))) (bOne (mVar 6)))) (sApp 1 (mArgs gTupD (mCons (mVar 2) (mCons (mCall fn_law_minimal (mCons (mVar 3) mNil)) (mCons (mArgs gTuple (mCons (mVar 5) mNil)) mNil)))))))
    g (ew := fun r => W.d (encR r)) (fun pre ρ f' => f' = f ∧ ∃ a b c d e q, ρ = [.v (.d (encG g)), .own (.lst ((thin pre).map encR)), a, b, c, d, e, q]) (ρ := [.v (.d (encG g)), .own (.lst []), .un, .un, .un, .un, .un, .un]) (f := f) ⟨rfl, _, _, _, _, _, _, rfl⟩ fun pre r post e0 ρ f' ⟨ef, a, b, c, d, e, q, eρ⟩ => by
      subst ef eρ
      have hr : r ∈ g := by rw [e0]; simp
      have hp : pre.length ≤ 4 := by
        have := congrArg List.length e0
        simp at this
        omega
      have fl := ok.fears r hr
      have ll := ok.lots r hr
      refine ⟨_, _, _, gR2 r _, seq_ev (set_ev (w := .d (encL (wide r.2.2))) (lc_ev (it_ev rfl (walk_T _)) (lc_fil r.2.2 (p := fun one => !(r.2.2.any fun far => !decide (far = one) && within one far)) (q := encX) (fun one ho => ⟨_, rfl, ?_, fun _ => rfl⟩) (le_lim (by omega))))) (app_ev (d := encR (thinR r)) (args_ev (cons_ev rfl (cons_ev (call_ev (cons_ev rfl nil_ev) (ev_lminT (sms_sub ok.len ll.2))) (cons_ev (args_ev (cons_ev rfl nil_ev) (gTuple_L _)) nil_ev))) (gTupD_row (thinR r))) rfl (lt_lim (by unfold thin; rw [List.length_map, List.length_map]; omega))), rfl, .v (.d (.str r.1)), .v (.d (encT r.2.1)), .v (.d (encT r.2.2)), .v (.d (encL (wide r.2.2))), e, q, ?_⟩
      · have e1 := gEq_L (r.2.2.filter fun far => !decide (far = one) && within one far) []
        rw [fil_any] at e1
        exact t_ev (m2_ev (lc_ev (it_ev rfl (walk_T _)) (lc_fil r.2.2 (p := fun far => !decide (far = one) && within one far) (q := encX) (fun far hf => ⟨_, rfl, an_ev (t_ev (m2_ev rfl rfl (gNe_key far one))) fun _ => t_ev (call_ev (cons_ev rfl (cons_ev rfl nil_ev)) (ev_lwithin (sm_sub ok.len (fl.2 one ho)))), fun _ => rfl⟩) (le_lim (by omega)))) (args_ev nil_ev rfl) e1)
      · unfold thin
        simp
  subst h2 h3
  refine fn_rt rfl (seq_ev (own_ev nil_ev rfl (by decide)) (seq_ev (for_ev (it_ev rfl (walk_G g)) h1) (frz_ev rfl (ret_ev (args_ev (cons_ev rfl nil_ev) ?_)))))
  show (if hotM ((thin g).map encR) = false then some (W.d (.tuple ((thin g).map encR))) else none) = _
  rw [if_pos (hot_rows _)]
  rfl
end Y
end KMathF
section KMathG
set_option Elab.async false
set_option linter.all false
set_option maxRecDepth 100000
set_option maxHeartbeats 4000000
/-! Least sets, crossings of crossings, needs: plain mathematics. -/
namespace Y
open PySem
abbrev Wi (a b : Ks) : Prop := ∀ x ∈ a, x ∈ b
theorem within_iff {a b : Ks} : within a b = true ↔ Wi a b := by
  unfold within
  rw [List.all_eq_true]
  exact ⟨fun h x hx => of_decide_eq_true (h x hx), fun h x hx => decide_eq_true (h x hx)⟩
theorem hit_iff {n s : Ks} : hit n s = true ↔ ∃ x ∈ n, x ∈ s := by
  unfold hit
  rw [List.any_eq_true]
  exact ⟨fun ⟨x, a, b⟩ => ⟨x, a, of_decide_eq_true b⟩, fun ⟨x, a, b⟩ => ⟨x, a, decide_eq_true b⟩⟩
theorem meets_iff {N : List Ks} {s : Ks} : meets N s = true ↔ ∀ n ∈ N, ∃ x ∈ n, x ∈ s := by
  unfold meets
  rw [List.all_eq_true]
  exact ⟨fun h n hn => hit_iff.mp (h n hn), fun h n hn => hit_iff.mpr (h n hn)⟩
theorem joint_mem {a b : Ks} {x : Str} : x ∈ joint a b ↔ x ∈ a ∧ x ∈ b := by
  unfold joint
  rw [List.mem_filter]
  simp
theorem less_mem {a b : Ks} {x : Str} : x ∈ less a b ↔ x ∈ a ∧ x ∉ b := by
  unfold less
  rw [List.mem_filter]
  simp
theorem least_iff {X : List Ks} {k : Ks} : k ∈ least X ↔ k ∈ X ∧ ∀ l ∈ X, Wi l k → l = k := by
  unfold least
  rw [List.mem_filter, M.sortU_mem]
  refine and_congr_right fun hk => ?_
  rw [Bool.not_eq_true', ← Bool.not_eq_true, List.any_eq_true]
  constructor
  · intro h l hl hw
    refine Classical.byContradiction fun ne => h ⟨l, (M.sortU_mem l X).mpr hl, ?_⟩
    rw [Bool.and_eq_true]
    exact ⟨by simpa using ne, within_iff.mpr hw⟩
  · rintro h ⟨l, hl, hp⟩
    rw [Bool.and_eq_true] at hp
    have := h l ((M.sortU_mem l X).mp hl) (within_iff.mp hp.2)
    rw [this] at hp
    simp at hp
theorem greatest_iff {X : List Ks} {k : Ks} : k ∈ greatest X ↔ k ∈ X ∧ ∀ l ∈ X, Wi k l → l = k := by
  unfold greatest
  rw [List.mem_filter, M.sortU_mem]
  refine and_congr_right fun hk => ?_
  rw [Bool.not_eq_true', ← Bool.not_eq_true, List.any_eq_true]
  constructor
  · intro h l hl hw
    refine Classical.byContradiction fun ne => h ⟨l, (M.sortU_mem l X).mpr hl, ?_⟩
    rw [Bool.and_eq_true]
    exact ⟨by simpa using ne, within_iff.mpr hw⟩
  · rintro h ⟨l, hl, hp⟩
    rw [Bool.and_eq_true] at hp
    have := h l ((M.sortU_mem l X).mp hl) (within_iff.mp hp.2)
    rw [this] at hp
    simp at hp
theorem wide_iff {X : List Ks} {k : Ks} : k ∈ wide X ↔ k ∈ X ∧ ∀ l ∈ X, Wi k l → l = k := by
  unfold wide
  rw [List.mem_filter]
  refine and_congr_right fun hk => ?_
  rw [Bool.not_eq_true', ← Bool.not_eq_true, List.any_eq_true]
  constructor
  · intro h l hl hw
    refine Classical.byContradiction fun ne => h ⟨l, hl, ?_⟩
    rw [Bool.and_eq_true]
    exact ⟨by simpa using ne, within_iff.mpr hw⟩
  · rintro h ⟨l, hl, hp⟩
    rw [Bool.and_eq_true] at hp
    have := h l hl (within_iff.mp hp.2)
    rw [this] at hp
    simp at hp
theorem least_sorted (X : List Ks) : (least X).Pairwise M.LtT := (M.sortU_sorted X).filter _
section
variable {ns : Ks} (nd : ns.Nodup)
include nd
theorem wi_sub {a b : Ks} (ha : a.Sublist ns) (hb : b.Sublist ns) (h : Wi a b) : a.Sublist b := by
  rw [← filter_mem_self nd ha, ← filter_mem_self nd hb]
  have : (ns.filter fun x => decide (x ∈ a)) = (ns.filter fun x => decide (x ∈ b)).filter fun x => decide (x ∈ a) := by
    rw [List.filter_filter]
    refine List.filter_congr fun x _ => ?_
    by_cases hx : x ∈ a
    · simp [hx, h x hx]
    · simp [hx]
  rw [this]
  exact List.filter_sublist
theorem wi_eq {a b : Ks} (ha : a.Sublist ns) (hb : b.Sublist ns) (h : Wi a b) (h2 : Wi b a) : a = b := sub_ext nd ha hb fun x => ⟨h x, h2 x⟩
theorem wi_lt {a b : Ks} (ha : a.Sublist ns) (hb : b.Sublist ns) (h : Wi a b) (ne : a ≠ b) : a.length < b.length := by
  have s := wi_sub nd ha hb h
  rcases Nat.lt_or_ge a.length b.length with l | l
  · exact l
  · exact absurd (s.eq_of_length (Nat.le_antisymm s.length_le l)) ne
theorem least_dom {X : List Ks} (hX : ∀ k ∈ X, k.Sublist ns) : ∀ (m : Nat) (x : Ks), x.length ≤ m → x ∈ X → ∃ k ∈ least X, Wi k x := fun m => by
  induction m with
  | zero =>
    intro x hl hx
    refine ⟨x, least_iff.mpr ⟨hx, fun l hl' hw => Classical.byContradiction fun ne => ?_⟩, fun _ h => h⟩
    have := wi_lt nd (hX l hl') (hX x hx) hw ne
    omega
  | succ m ih =>
    intro x hl hx
    by_cases h : ∃ l ∈ X, Wi l x ∧ l ≠ x
    · obtain ⟨l, h1, h2, h3⟩ := h
      have := wi_lt nd (hX l h1) (hX x hx) h2 h3
      obtain ⟨k, k1, k2⟩ := ih l (by omega) h1
      exact ⟨k, k1, fun y hy => h2 y (k2 y hy)⟩
    · exact ⟨x, least_iff.mpr ⟨hx, fun l h1 h2 => Classical.byContradiction fun ne => h ⟨l, h1, h2, ne⟩⟩, fun _ h => h⟩
theorem least_below {X : List Ks} (hX : ∀ k ∈ X, k.Sublist ns) {x : Ks} (hx : x ∈ X) : ∃ k ∈ least X, Wi k x := least_dom nd hX x.length x (Nat.le_refl _) hx
theorem above_dom {X : List Ks} (hX : ∀ k ∈ X, k.Sublist ns) : ∀ (m : Nat) (x : Ks), ns.length - x.length ≤ m → x ∈ X → ∃ k ∈ X, Wi x k ∧ ∀ l ∈ X, Wi k l → l = k := fun m => by
  induction m with
  | zero =>
    intro x hl hx
    refine ⟨x, hx, fun _ h => h, fun l hl' hw => Classical.byContradiction fun ne => ?_⟩
    have h1 := wi_lt nd (hX x hx) (hX l hl') hw (Ne.symm ne)
    have h2 := (hX l hl').length_le
    omega
  | succ m ih =>
    intro x hl hx
    by_cases h : ∃ l ∈ X, Wi x l ∧ l ≠ x
    · obtain ⟨l, h1, h2, h3⟩ := h
      have h4 := wi_lt nd (hX x hx) (hX l h1) h2 (Ne.symm h3)
      obtain ⟨k, k1, k2, k3⟩ := ih l (by omega) h1
      exact ⟨k, k1, fun y hy => k2 y (h2 y hy), k3⟩
    · exact ⟨x, hx, fun _ h => h, fun l h1 h2 => Classical.byContradiction fun ne => h ⟨l, h1, h2, ne⟩⟩
theorem greatest_above {X : List Ks} (hX : ∀ k ∈ X, k.Sublist ns) {x : Ks} (hx : x ∈ X) : ∃ k ∈ greatest X, Wi x k := by
  obtain ⟨k, h1, h2, h3⟩ := above_dom nd hX _ x (Nat.le_refl _) hx
  exact ⟨k, greatest_iff.mpr ⟨h1, h3⟩, h2⟩
theorem wide_above {X : List Ks} (hX : ∀ k ∈ X, k.Sublist ns) {x : Ks} (hx : x ∈ X) : ∃ k ∈ wide X, Wi x k := by
  obtain ⟨k, h1, h2, h3⟩ := above_dom nd hX _ x (Nat.le_refl _) hx
  exact ⟨k, wide_iff.mpr ⟨h1, h3⟩, h2⟩
/-- two families, each below the other -/
theorem least_same {X Z : List Ks} (hX : ∀ k ∈ X, k.Sublist ns) (hZ : ∀ k ∈ Z, k.Sublist ns) (h1 : ∀ x ∈ X, ∃ y ∈ Z, Wi y x) (h2 : ∀ y ∈ Z, ∃ x ∈ X, Wi x y) : least X = least Z := by
  have key : ∀ {X Z : List Ks}, (∀ k ∈ X, k.Sublist ns) → (∀ k ∈ Z, k.Sublist ns) → (∀ x ∈ X, ∃ y ∈ Z, Wi y x) → (∀ y ∈ Z, ∃ x ∈ X, Wi x y) → ∀ k ∈ least X, k ∈ least Z := fun {X Z} hX hZ h1 h2 k hk => by
    obtain ⟨kx, km⟩ := least_iff.mp hk
    obtain ⟨y, y1, y2⟩ := h1 k kx
    obtain ⟨x, x1, x2⟩ := h2 y y1
    have exk : x = k := km x x1 fun z hz => y2 z (x2 z hz)
    have ey : y = k := wi_eq nd (hZ y y1) (hX k kx) y2 (exk ▸ x2)
    subst ey
    refine least_iff.mpr ⟨y1, fun l hl hw => ?_⟩
    obtain ⟨x', a1, a2⟩ := h2 l hl
    have e2 : x' = y := km x' a1 fun z hz => hw z (a2 z hz)
    exact wi_eq nd (hZ l hl) (hX y kx) hw (e2 ▸ a2)
  exact M.sorted_oneT (least_sorted X) (least_sorted Z) fun z => ⟨key hX hZ h1 h2 z, key hZ hX h2 h1 z⟩
theorem least_idem {X : List Ks} (hX : ∀ k ∈ X, k.Sublist ns) : least (least X) = least X :=
  least_same nd (fun k hk => hX k (least_sub hk)) hX (fun x hx => ⟨x, least_sub hx, fun _ h => h⟩) fun y hy => least_below nd hX hy
/-! ### crossings -/
theorem crossed_mem {N : List Ks} {k : Ks} (h : k ∈ crossed N ns) : k.Sublist ns ∧ meets N k = true := by
  obtain ⟨h1, h2⟩ := List.mem_filter.mp (least_sub h)
  exact ⟨subs_mem.mp h1, h2⟩
theorem crossed_below {N : List Ks} {s : Ks} (hs : s.Sublist ns) (h : meets N s = true) : ∃ k ∈ crossed N ns, Wi k s :=
  least_below nd (fun k hk => subs_mem.mp (List.mem_filter.mp hk).1) (List.mem_filter.mpr ⟨subs_mem.mpr hs, h⟩)
theorem crossed_crossed {N : List Ks} (hN : ∀ n ∈ N, n.Sublist ns) : crossed (crossed N ns) ns = least N := by
  refine least_same nd (fun k hk => subs_mem.mp (List.mem_filter.mp hk).1) hN (fun s hs => ?_) fun n hn => ?_
  · obtain ⟨s1, s2⟩ := List.mem_filter.mp hs
    have s1 := subs_mem.mp s1
    refine Classical.byContradiction fun no => ?_
    have hc : meets N (ns.filter fun x => !decide (x ∈ s)) = true := meets_iff.mpr fun n hn => by
      refine Classical.byContradiction fun z => no ⟨n, hn, fun x hx => Classical.byContradiction fun hx2 => z ⟨x, hx, ?_⟩⟩
      rw [List.mem_filter]
      exact ⟨(hN n hn).subset hx, by simpa using hx2⟩
    obtain ⟨m, m1, m2⟩ := crossed_below nd (N := N) List.filter_sublist hc
    obtain ⟨x, x1, x2⟩ := meets_iff.mp s2 m m1
    have := (List.mem_filter.mp (m2 x x1)).2
    simp [x2] at this
  · refine ⟨n, List.mem_filter.mpr ⟨subs_mem.mpr (hN n hn), meets_iff.mpr fun m hm => ?_⟩, fun _ h => h⟩
    obtain ⟨x, x1, x2⟩ := meets_iff.mp (crossed_mem nd hm).2 n hn
    exact ⟨x, x2, x1⟩
theorem meets_snoc {N : List Ks} {n s : Ks} : meets (N ++ [n]) s = true ↔ meets N s = true ∧ hit n s = true := by
  unfold meets
  rw [List.all_append]
  simp
theorem crosses_crossed (so : ns.Pairwise fun a b => M.sLt a b = true) {N : List Ks} (hN : ∀ n ∈ N, n.Sublist ns) : crosses N = crossed N ns := by
  have nils : ∀ k ∈ ([[]] : List Ks), k.Sublist ns := fun k hk => by rw [List.mem_singleton.mp hk]; exact List.nil_sublist _
  have inv : ∀ (post pre found : List Ks), (∀ n ∈ post, n.Sublist ns) → (∀ k ∈ found, k.Sublist ns ∧ meets pre k = true) → (∀ s, s.Sublist ns → meets pre s = true → ∃ k ∈ found, Wi k s) → least found = found →
      (∀ k ∈ post.foldl crossStep found, k.Sublist ns ∧ meets (pre ++ post) k = true) ∧ (∀ s, s.Sublist ns → meets (pre ++ post) s = true → ∃ k ∈ post.foldl crossStep found, Wi k s) ∧ least (post.foldl crossStep found) = post.foldl crossStep found := by
    intro post
    induction post with
    | nil => intro pre found _ h1 h2 h3; rw [List.append_nil]; exact ⟨h1, h2, h3⟩
    | cons n post ih =>
      intro pre found hp h1 h2 h3
      have hn := hp n List.mem_cons_self
      have hsub : ∀ k ∈ found.flatMap (crossF n), k.Sublist ns := fun k hk => by
        obtain ⟨lot, g1, g2⟩ := List.mem_flatMap.mp hk
        exact cross_sub so hn (h1 lot g1).1 k g2
      have hmem : ∀ k ∈ found.flatMap (crossF n), meets (pre ++ [n]) k = true := fun k hk => by
        obtain ⟨lot, g1, g2⟩ := List.mem_flatMap.mp hk
        rw [meets_snoc nd]
        unfold crossF at g2
        split at g2
        · rename_i hh
          rw [List.mem_singleton.mp g2]
          exact ⟨(h1 lot g1).2, hh⟩
        · obtain ⟨h, hm, rfl⟩ := List.mem_map.mp g2
          have mem : ∀ x, x ∈ M.sortS (lot ++ [h]) ↔ x ∈ lot ++ [h] := fun x => (M.sortS_perm _).mem_iff
          refine ⟨meets_iff.mpr fun m hm' => ?_, hit_iff.mpr ⟨h, hm, (mem h).mpr (by simp)⟩⟩
          obtain ⟨x, x1, x2⟩ := meets_iff.mp (h1 lot g1).2 m hm'
          exact ⟨x, x1, (mem x).mpr (by simp [x2])⟩
      have hdom : ∀ s, s.Sublist ns → meets (pre ++ [n]) s = true → ∃ k ∈ found.flatMap (crossF n), Wi k s := fun s hs hm => by
        rw [meets_snoc nd] at hm
        obtain ⟨lot, l1, l2⟩ := h2 s hs hm.1
        by_cases hh : hit n lot = true
        · exact ⟨lot, List.mem_flatMap.mpr ⟨lot, l1, by unfold crossF; rw [if_pos hh]; exact List.mem_singleton.mpr rfl⟩, l2⟩
        · obtain ⟨h, a1, a2⟩ := hit_iff.mp hm.2
          refine ⟨M.sortS (lot ++ [h]), List.mem_flatMap.mpr ⟨lot, l1, by unfold crossF; rw [if_neg hh]; exact List.mem_map.mpr ⟨h, a1, rfl⟩⟩, fun x hx => ?_⟩
          rcases List.mem_append.mp ((M.sortS_perm _).mem_iff.mp hx) with hx | hx
          · exact l2 x hx
          · rw [List.mem_singleton.mp hx]; exact a2
      have := ih (pre ++ [n]) (crossStep found n) (fun m hm => hp m (List.mem_cons_of_mem _ hm)) (fun k hk => ⟨hsub k (least_sub hk), hmem k (least_sub hk)⟩) (fun s hs hm => by
        obtain ⟨k, k1, k2⟩ := hdom s hs hm
        obtain ⟨k', k3, k4⟩ := least_below nd hsub k1
        exact ⟨k', k3, fun x hx => k2 x (k4 x hx)⟩) (least_idem nd hsub)
      rw [List.append_assoc] at this
      exact this
  have l0 : least ([[]] : List Ks) = [[]] := by decide
  obtain ⟨a1, a2, a3⟩ := inv N [] [[]] hN (fun k hk => ⟨nils k hk, rfl⟩) (fun s _ _ => ⟨[], List.mem_singleton.mpr rfl, fun x hx => by cases hx⟩) l0
  rw [List.nil_append] at a1 a2
  show N.foldl crossStep [[]] = _
  rw [← a3]
  unfold crossed
  exact least_same nd (fun k hk => (a1 k hk).1) (fun k hk => subs_mem.mp (List.mem_filter.mp hk).1) (fun x hx => ⟨x, List.mem_filter.mpr ⟨subs_mem.mpr (a1 x hx).1, (a1 x hx).2⟩, fun _ h => h⟩) fun s hs => by
    obtain ⟨s1, s2⟩ := List.mem_filter.mp hs
    exact a2 s (subs_mem.mp s1) s2
end
end Y
end KMathG
section KMathH
set_option Elab.async false
set_option linter.all false
set_option maxRecDepth 100000
set_option maxHeartbeats 4000000
/-! Needs: over greatest falls, over all safe sets, of a thinned trust. -/
namespace Y
open PySem
/-- a trust as the law draws them -/
structure Good (g : List Row) (ns : Ks) : Prop where
  ok : Ok g ns
  lots : ∀ r ∈ g, r.2.1 ≠ [] ∧ r.2.1.Pairwise M.LtT ∧ ∀ l ∈ r.2.1, l ≠ []
  fears : ∀ r ∈ g, r.2.2 ≠ [] ∧ r.2.2.Pairwise M.LtT ∧ ∀ F ∈ r.2.2, r.1 ∉ F
def InGen (g : List Row) (ns : Ks) (h : Str) (x : Ks) : Prop := ∃ o ∈ ns, o ≠ h ∧ ∃ lot ∈ lotsOf g o, ∃ F ∈ fearsOf g h, ∃ G ∈ fearsOf g o, x = less lot (joint F G)
theorem fallsX_mem {g : List Row} {h o : Str} {k : Ks} : k ∈ fallsX g h o ↔ ∃ F ∈ fearsOf g h, ∃ G ∈ fearsOf g o, k = joint F G := by
  unfold fallsX
  rw [List.mem_flatMap]
  constructor
  · rintro ⟨F, hF, h2⟩
    obtain ⟨G, hG, rfl⟩ := List.mem_map.mp h2
    exact ⟨F, hF, G, hG, rfl⟩
  · rintro ⟨F, hF, G, hG, rfl⟩
    exact ⟨F, hF, List.mem_map.mpr ⟨G, hG, rfl⟩⟩
theorem less_wi {l l' s s' : Ks} (h1 : Wi l l') (h2 : Wi s' s) : Wi (less l s) (less l' s') := fun x hx => by
  rw [less_mem] at hx ⊢
  exact ⟨h1 x hx.1, fun m => hx.2 (h2 x m)⟩
theorem joint_wi {a a' b b' : Ks} (h1 : Wi a a') (h2 : Wi b b') : Wi (joint a b) (joint a' b') := fun x hx => by
  rw [joint_mem] at hx ⊢
  exact ⟨h1 x hx.1, h2 x hx.2⟩
section
variable {g g' : List Row} {ns : Ks} (ok : Ok g ns)
include ok
theorem lots_pair {o : Str} (ho : o ∈ ns) {lot : Ks} (h : lot ∈ lotsOf g o) : ∃ p ∈ pairs g, p.1 = o ∧ lotAt g p = lot := by
  obtain ⟨r1, r2⟩ := ok.row ho
  obtain ⟨k, hk, e⟩ := List.getElem_of_mem h
  refine ⟨(o, k), pairs_mem.mpr ⟨rowOf g o, r1, r2.symm, hk⟩, rfl, ?_⟩
  show ((lotsOf g o)[k]?).getD [] = lot
  rw [List.getElem?_eq_getElem hk, e]
  rfl
theorem needX_gen {h : Str} {x : Ks} (hx : x ∈ needX g h) : InGen g ns h x := by
  obtain ⟨p, h1, h2⟩ := List.mem_flatMap.mp hx
  unfold needStep at h2
  split at h2
  · cases h2
  · rename_i hne
    obtain ⟨fall, h3, rfl⟩ := List.mem_map.mp h2
    obtain ⟨a, _, b⟩ := lotAt_get ok h1
    obtain ⟨F, hF, G, hG, e⟩ := fallsX_mem.mp (greatest_sub h3)
    exact ⟨p.1, a, hne, lotAt g p, b, F, hF, G, hG, by rw [e]⟩
theorem gen_needX {h : Str} (hh : h ∈ ns) {x : Ks} (hx : InGen g ns h x) : ∃ y ∈ needX g h, Wi y x := by
  obtain ⟨o, ho, hne, lot, hl, F, hF, G, hG, rfl⟩ := hx
  obtain ⟨p, p1, p2, p3⟩ := lots_pair ok ho hl
  obtain ⟨fall, k1, k2⟩ := greatest_above ok.nd (fallsX_sub ok hh) (fallsX_mem.mpr ⟨F, hF, G, hG, rfl⟩)
  refine ⟨less lot fall, List.mem_flatMap.mpr ⟨p, p1, ?_⟩, less_wi (fun _ h => h) k2⟩
  unfold needStep
  rw [p2, if_neg hne, p3]
  exact List.mem_map.mpr ⟨fall, k1, rfl⟩
theorem needs_same (ok' : Ok g' ns) {h : Str} (hh : h ∈ ns) (h1 : ∀ x, InGen g ns h x → ∃ y, InGen g' ns h y ∧ Wi y x) (h2 : ∀ x, InGen g' ns h x → ∃ y, InGen g ns h y ∧ Wi y x) : needs g h = needs g' h := by
  refine least_same ok.nd (needX_sub ok) (needX_sub ok') (fun x hx => ?_) fun y hy => ?_
  · obtain ⟨z, z1, z2⟩ := h1 x (needX_gen ok hx)
    obtain ⟨y, y1, y2⟩ := gen_needX ok' hh z1
    exact ⟨y, y1, fun a ha => z2 a (y2 a ha)⟩
  · obtain ⟨z, z1, z2⟩ := h2 y (needX_gen ok' hy)
    obtain ⟨x, x1, x2⟩ := gen_needX ok hh z1
    exact ⟨x, x1, fun a ha => z2 a (x2 a ha)⟩
theorem needs_sub {h : Str} : ∀ k ∈ needs g h, k.Sublist ns := fun k hk => needX_sub ok k (least_sub hk)
theorem needs_idem {h : Str} : least (needs g h) = needs g h := least_idem ok.nd (needX_sub ok)
theorem needs_few {h : Str} : (needs g h).length ≤ 16 := least_few ok.len (needX_sub ok)
end
theorem safe_mem {g : List Row} {s : Ks} {h : Str} (ok : (houses g).Nodup) : h ∈ safe g s ↔ ∃ r ∈ g, r.1 = h ∧ h ∉ s ∧ ∃ F ∈ r.2.2, Wi s F := by
  unfold safe
  rw [List.mem_map]
  constructor
  · rintro ⟨r, hr, rfl⟩
    obtain ⟨h1, h2⟩ := List.mem_filter.mp hr
    unfold safeR at h2
    rw [Bool.and_eq_true, List.any_eq_true] at h2
    obtain ⟨a, F, hF, hw⟩ := h2
    exact ⟨r, h1, rfl, by simpa using a, F, hF, within_iff.mp hw⟩
  · rintro ⟨r, hr, rfl, hn, F, hF, hw⟩
    refine ⟨r, List.mem_filter.mpr ⟨hr, ?_⟩, rfl⟩
    unfold safeR
    rw [Bool.and_eq_true, List.any_eq_true]
    exact ⟨by simpa using hn, F, hF, within_iff.mpr hw⟩
theorem safes_mem {g : List Row} {ns : Ks} {p : Sf} : p ∈ safes g ns ↔ p.1.Sublist ns ∧ p.2 = safe g p.1 ∧ p.2 ≠ [] := by
  unfold safes
  rw [List.mem_filter, List.mem_map]
  constructor
  · rintro ⟨⟨s, hs, rfl⟩, h⟩
    exact ⟨subs_mem.mp hs, rfl, by simpa using h⟩
  · rintro ⟨h1, h2, h3⟩
    exact ⟨⟨p.1, subs_mem.mpr h1, by rw [← h2]⟩, by simpa using h3⟩
theorem safes_len {g : List Row} {ns : Ks} (hl : ns.length ≤ 4) : (safes g ns).length ≤ 16 := by
  unfold safes
  refine Nat.le_trans (List.length_filter_le _ _) ?_
  rw [List.length_map]
  exact subs_len hl
theorem lneeds_eq {g : List Row} {ns : Ks} (G : Good g ns) {h : Str} (hh : h ∈ ns) : lneeds g (safes g ns) h = needs g h := by
  have ok := G.ok
  have ndh : (houses g).Nodup := by rw [ok.nm]; exact ok.nd
  obtain ⟨rh1, rh2⟩ := ok.row hh
  refine least_same ok.nd (lneedX_sub ok) (needX_sub ok) (fun x hx => ?_) fun y hy => ?_
  · obtain ⟨p, h1, h2⟩ := List.mem_flatMap.mp hx
    obtain ⟨r, h3, h4⟩ := List.mem_flatMap.mp h2
    unfold lneedR at h4
    split at h4
    · rename_i hc
      obtain ⟨lot, h5, rfl⟩ := List.mem_map.mp h4
      simp only [Bool.and_eq_true, decide_eq_true_eq, Bool.not_eq_true', decide_eq_false_iff_not] at hc
      obtain ⟨p1, p2, p3⟩ := safes_mem.mp h1
      rw [p2] at hc
      obtain ⟨c1, c2, c3⟩ := hc
      obtain ⟨rh, a1, a2, a3, F, hF, wF⟩ := (safe_mem ndh).mp c1
      obtain ⟨ro, b1, b2, b3, Gf, hG, wG⟩ := (safe_mem ndh).mp c2
      have er : rowOf g h = rh := by rw [← a2]; exact ok.uniq a1
      have ero : rowOf g r.1 = r := ok.uniq h3
      have ero2 : rowOf g r.1 = ro := by rw [← b2]; exact ok.uniq b1
      have hro : r.1 ∈ ns := by rw [← ok.nm]; exact List.mem_map.mpr ⟨r, h3, rfl⟩
      obtain ⟨y, y1, y2⟩ := gen_needX ok hh (x := less lot (joint F Gf)) ⟨r.1, hro, c3, lot, by unfold lotsOf; rw [ero]; exact h5, F, by unfold fearsOf; rw [er]; exact hF, Gf, by unfold fearsOf; rw [ero2]; exact hG, rfl⟩
      refine ⟨y, y1, fun z hz => ?_⟩
      have := y2 z hz
      rw [less_mem] at this ⊢
      exact ⟨this.1, fun m => this.2 (joint_mem.mpr ⟨wF z m, wG z m⟩)⟩
    · cases h4
  · obtain ⟨o, ho, hne, lot, hl, F, hF, Gf, hG, rfl⟩ := needX_gen ok hy
    obtain ⟨ro1, ro2⟩ := ok.row ho
    have hFn : h ∉ F := by
      have := (G.fears _ rh1).2.2 F hF
      rw [rh2] at this
      exact this
    have hGn : o ∉ Gf := by
      have := (G.fears _ ro1).2.2 Gf hG
      rw [ro2] at this
      exact this
    have js : (joint F Gf).Sublist ns := joint_sub.trans ((ok.fearsS hh).2 F hF)
    have s1 : h ∈ safe g (joint F Gf) := (safe_mem ndh).mpr ⟨_, rh1, rh2, fun m => hFn (joint_mem.mp m).1, F, hF, fun x hx => (joint_mem.mp hx).1⟩
    have s2 : o ∈ safe g (joint F Gf) := (safe_mem ndh).mpr ⟨_, ro1, ro2, fun m => hGn (joint_mem.mp m).2, Gf, hG, fun x hx => (joint_mem.mp hx).2⟩
    refine ⟨less lot (joint F Gf), List.mem_flatMap.mpr ⟨(joint F Gf, safe g (joint F Gf)), safes_mem.mpr ⟨js, rfl, fun e => by have e : safe g (joint F Gf) = [] := e; rw [e] at s1; cases s1⟩, List.mem_flatMap.mpr ⟨rowOf g o, ro1, ?_⟩⟩, fun _ h => h⟩
    unfold lneedR
    rw [if_pos (by simp [s1, ro2, s2, hne])]
    exact List.mem_map.mpr ⟨lot, hl, rfl⟩
/-! ### thinned out -/
theorem thin_row {g : List Row} {h : Str} (m : h ∈ houses g) : rowOf (thin g) h = thinR (rowOf g h) := by
  obtain ⟨rest, e, _, _⟩ := row_get m
  have : (thin g).filter (fun r => decide (r.1 = h)) = (g.filter fun r => decide (r.1 = h)).map thinR := by
    unfold thin
    rw [List.filter_map]
    rfl
  unfold rowOf at e ⊢
  rw [this, e]
  rfl
theorem thin_houses (g : List Row) : houses (thin g) = houses g := by
  unfold houses thin
  rw [List.map_map]
  rfl
theorem thin_good {g : List Row} {ns : Ks} (G : Good g ns) : Good (thin g) ns := by
  have ok := G.ok
  have mem : ∀ r ∈ thin g, ∃ q ∈ g, thinR q = r := fun r hr => List.mem_map.mp hr
  refine ⟨⟨by rw [thin_houses]; exact ok.nm, ok.so, ok.len, fun r hr => ?_, fun r hr => ?_⟩, fun r hr => ?_, fun r hr => ?_⟩
  · obtain ⟨q, hq, rfl⟩ := mem r hr
    exact ⟨least_few ok.len (ok.lots q hq).2, fun l hl => (ok.lots q hq).2 l (least_sub hl)⟩
  · obtain ⟨q, hq, rfl⟩ := mem r hr
    exact ⟨Nat.le_trans (List.length_filter_le _ _) (ok.fears q hq).1, fun l hl => (ok.fears q hq).2 l (wide_iff.mp hl).1⟩
  · obtain ⟨q, hq, rfl⟩ := mem r hr
    refine ⟨fun e => ?_, least_sorted _, fun l hl => (G.lots q hq).2.2 l (least_sub hl)⟩
    obtain ⟨x, hx⟩ := List.exists_mem_of_ne_nil _ (G.lots q hq).1
    obtain ⟨k, hk, _⟩ := least_below ok.nd (ok.lots q hq).2 hx
    have e : least q.2.1 = [] := e
    rw [e] at hk
    cases hk
  · obtain ⟨q, hq, rfl⟩ := mem r hr
    refine ⟨fun e => ?_, (G.fears q hq).2.1.filter _, fun F hF => (G.fears q hq).2.2 F (wide_iff.mp hF).1⟩
    obtain ⟨x, hx⟩ := List.exists_mem_of_ne_nil _ (G.fears q hq).1
    obtain ⟨k, hk, _⟩ := wide_above ok.nd (ok.fears q hq).2 hx
    have e : wide q.2.2 = [] := e
    rw [e] at hk
    cases hk
theorem thin_needs {g : List Row} {ns : Ks} (G : Good g ns) {h : Str} (hh : h ∈ ns) : needs (thin g) h = needs g h := by
  have ok := G.ok
  have row : ∀ {o : Str}, o ∈ ns → rowOf (thin g) o = thinR (rowOf g o) := fun {o} ho => thin_row (by rw [ok.nm]; exact ho)
  refine needs_same (thin_good G).ok ok hh (fun x ⟨o, ho, hne, lot, hl, F, hF, Gf, hG, e⟩ => ⟨x, ?_, fun _ h => h⟩) fun x ⟨o, ho, hne, lot, hl, F, hF, Gf, hG, e⟩ => ?_
  · refine ⟨o, ho, hne, lot, ?_, F, ?_, Gf, ?_, e⟩
    · unfold lotsOf at hl
      rw [row ho] at hl
      exact least_sub hl
    · unfold fearsOf at hF
      rw [row hh] at hF
      exact (wide_iff.mp hF).1
    · unfold fearsOf at hG
      rw [row ho] at hG
      exact (wide_iff.mp hG).1
  · obtain ⟨lot', l1, l2⟩ := least_below ok.nd (ok.lotsS ho).2 hl
    obtain ⟨F', f1, f2⟩ := wide_above ok.nd (ok.fearsS hh).2 hF
    obtain ⟨G', g1, g2⟩ := wide_above ok.nd (ok.fearsS ho).2 hG
    refine ⟨less lot' (joint F' G'), ⟨o, ho, hne, lot', ?_, F', ?_, G', ?_, rfl⟩, ?_⟩
    · unfold lotsOf
      rw [row ho]
      exact l1
    · unfold fearsOf
      rw [row hh]
      exact f1
    · unfold fearsOf
      rw [row ho]
      exact g1
    · rw [e]
      exact less_wi l2 (joint_wi f2 g2)
/-! ### a lot that parts -/
theorem meets_up {N : List Ks} {s t : Ks} (h : meets N s = true) (w : Wi s t) : meets N t = true := meets_iff.mpr fun n hn => by
  obtain ⟨x, a, b⟩ := meets_iff.mp h n hn
  exact ⟨x, a, w x b⟩
theorem part_exists {ns : Ks} (nd : ns.Nodup) {N L : List Ks} (hN : ∀ n ∈ N, n.Sublist ns) (hL : ∀ n ∈ L, n.Sublist ns) (iN : least N = N) (iL : least L = L) (h : ∀ s ∈ crossed N ns ++ crossed L ns, meets N s = meets L s) : N = L := by
  have e : crossed N ns = crossed L ns := by
    have key : ∀ {N L : List Ks}, (∀ s ∈ crossed N ns, meets L s = true) → (∀ s ∈ crossed L ns, meets N s = true) → ∀ s ∈ (subs ns).filter (fun s => meets N s), ∃ y ∈ (subs ns).filter (fun s => meets L s), Wi y s := fun {N L} h1 h2 s hs => by
      obtain ⟨a, b⟩ := List.mem_filter.mp hs
      obtain ⟨k, k1, k2⟩ := crossed_below nd (subs_mem.mp a) b
      exact ⟨s, List.mem_filter.mpr ⟨a, meets_up (h1 k k1) k2⟩, fun _ h => h⟩
    have q1 : ∀ s ∈ crossed N ns, meets L s = true := fun s hs => by rw [← h s (List.mem_append_left _ hs)]; exact (crossed_mem nd hs).2
    have q2 : ∀ s ∈ crossed L ns, meets N s = true := fun s hs => by rw [h s (List.mem_append_right _ hs)]; exact (crossed_mem nd hs).2
    exact least_same nd (fun k hk => subs_mem.mp (List.mem_filter.mp hk).1) (fun k hk => subs_mem.mp (List.mem_filter.mp hk).1) (key q1 q2) (key q2 q1)
  rw [← iN, ← iL, ← crossed_crossed nd hN, ← crossed_crossed nd hL, e]
end Y
end KMathH
section KMathI
set_option Elab.async false
set_option linter.all false
set_option maxRecDepth 100000
set_option maxHeartbeats 4000000
namespace Y
open PySem PySem.Spec PyProof.Rows XS
open PySem.W (alike alikeAll)
/-! ### the draws -/
theorem fd_ev {i : Nat} {u : Fd → Int → Fd} {ma : ME} {ρ : En} {f f1 : Fd} {n : Int} (h : ma ρ f = some (wI n, f1)) (e : ρ[i]? = some (.v .f)) : sFd i u ma ρ f = some (.nx ρ, u f1 n) := by
  unfold sFd; rw [h]; simp only [Option.bind_some]; rw [e]; rfl
theorem mFd_ev {i : Nat} {g : Fd → Int} {ρ : En} {f : Fd} (e : ρ[i]? = some (.v .f)) : mFd i g ρ f = some (wI (g f), f) := by
  unfold mFd; rw [e]
theorem mFdC_ev {i : Nat} {ρ : En} {f : Fd} (e : ρ[i]? = some (.v .f)) : mFdC i ρ f = some (.d (.list (f.cells.map .int)), f) := by
  unfold mFdC; rw [e]
theorem gAdd_int (i j : Int) : gAdd (wI i) (wI j) = some (wI (i + j)) := rfl
theorem gMod_int {i j : Int} (h : 0 < j) : gMod (wI i) (wI j) = some (wI (i % j)) := by
  show (if decide (0 < j) = true then _ else _) = _
  rw [if_pos (decide_eq_true h)]; rfl
theorem gDiv_int {i j : Int} (h : 0 < j) (h2 : j < 1073741824) : gDiv (wI i) (wI j) = some (wI (i / j)) := by
  show (if decide (0 < j ∧ j < 1073741824) = true then _ else _) = _
  rw [if_pos (decide_eq_true ⟨h, h2⟩)]; rfl
theorem gMul_l {i j : Int} (h : -(2 ^ 64) < i) (h2 : i < 2 ^ 64) : gMul (wI i) (wI j) = some (wI (i * j)) := by
  show (if decide _ = true then _ else _) = _
  rw [if_pos (decide_eq_true (.inl ⟨h, h2⟩))]; rfl
theorem gMul_r {i j : Int} (h : -(2 ^ 64) < j) (h2 : j < 2 ^ 64) : gMul (wI i) (wI j) = some (wI (i * j)) := by
  show (if decide _ = true then _ else _) = _
  rw [if_pos (decide_eq_true (.inr ⟨h, h2⟩))]; rfl
theorem gInt_int (i : Int) : gInt [wI i] = some (wI i) := rfl

theorem gNe_nil (a : List Int) : gNe (.d (.list (a.map .int))) (.d (.list [])) = some (wB (!decide (a = []))) := by
  have hp : pairOk (.list (a.map .int)) (.list []) = true := by
    unfold pairOk
    have h1 : alike (.list (a.map .int)) (.list []) = true := by cases a <;> simp [alike, alikeAll]
    rw [h1]
    have h2 : PyData.depth (.list []) ≤ 40 := by decide
    simp only [Bool.true_and, decide_eq_true_eq]
    omega
  unfold gNe
  simp only [hp, if_true]
  cases a <;> simp [PyData.eqv, PyData.eqvAll]
theorem gLt_int (i j : Int) : gLt (wI i) (wI j) = some (wB (W.dataLt (.int i) (.int j))) := by
  unfold gLt wI
  have hp : pairOk (.int i) (.int j) = true := by
    unfold pairOk
    simp [alike, PyData.depth]
  simp only [hp, isNone, Bool.not_false, Bool.and_self, if_true]
theorem draw_tail (f : Fd) (s : Int) {n : Int} (h1 : 0 < n) (v : Int) : ∃ r,
    (sSeq (sSet 3 (m2 gMod (mArgs gInt (mCons (m2 gAdd (m2 gAdd (m2 gMul (m2 gMod (mArgs gInt (mCons (mVar 2) mNil)) (mDat (.int 1000000097))) (mDat (.int 7))) (m2 gMul (mDat (.int 121063)) (mFd 0 (fun f => f.count)))) (mDat (.int 3059))) mNil)) (mDat (.int 2147482663)))) (sSeq (sSet 3 (m2 gMod (mArgs gInt (mCons (m2 gAdd (m2 gAdd (m2 gMul (mVar 3) (mVar 3)) (m2 gMul (mDat (.int 9700817)) (mFd 0 (fun f => f.count)))) (mDat (.int 5995))) mNil)) (mDat (.int 2147481847)))) (sRet (m2 gMod (mArgs gInt (mCons (m2 gDiv (m2 gMod (mArgs gInt (mCons (m2 gAdd (m2 gMul (mVar 3) (mVar 3)) (m2 gMul (mDat (.int 3517)) (mVar 3))) mNil)) (mDat (.int 2147481763))) (mDat (.int 16))) mNil)) (mVar 1))))) [.v .f, .v (wI n), .v (wI v), .un, .un, .v (wI s), .v (.d (.list (f.cells.map .int)))] f = some (.rt (wI r), f) ∧ 0 ≤ r ∧ r < n := by
  refine ⟨_, seq_ev (set_ev (m2_ev (args_ev (cons_ev (m2_ev (m2_ev (m2_ev (m2_ev (args_ev (cons_ev rfl nil_ev) rfl) rfl (gMod_int (by decide))) rfl (gMul_r (by decide) (by decide))) (m2_ev rfl (mFd_ev rfl) (gMul_l (by decide) (by decide))) rfl) rfl rfl) nil_ev) rfl) rfl (gMod_int (by decide)))) (seq_ev (set_ev (m2_ev (args_ev (cons_ev (m2_ev (m2_ev (m2_ev rfl rfl (gMul_l ?_ ?_)) (m2_ev rfl (mFd_ev rfl) (gMul_l (by decide) (by decide))) rfl) rfl rfl) nil_ev) rfl) rfl (gMod_int (by decide)))) (ret_ev (m2_ev (args_ev (cons_ev (m2_ev (m2_ev (args_ev (cons_ev (m2_ev (m2_ev rfl rfl (gMul_l ?_ ?_)) (m2_ev rfl rfl (gMul_l (by decide) (by decide))) rfl) nil_ev) rfl) rfl (gMod_int (by decide))) rfl (gDiv_int (by decide) (by decide))) nil_ev) rfl) rfl (gMod_int h1)))), Int.emod_nonneg _ (by omega), Int.emod_lt_of_pos _ h1⟩
  all_goals omega
theorem draw_ev (f : Fd) {n : Int} (h1 : 0 < n) (h2 : n < 1073741824) : ∃ r f', fn_law_draw [.f, wI n] f = some (wI r, f') ∧ 0 ≤ r ∧ r < n := by
  suffices H : ∃ r f', m_law_draw [.v .f, .v (wI n), .un, .un, .un, .un, .un] f = some (.rt (wI r), f') ∧ 0 ≤ r ∧ r < n by
    obtain ⟨r, f', e, h3, h4⟩ := H
    exact ⟨r, f', fn_rt rfl e, h3, h4⟩
  have e1 : sFd 0 (fun f n => { f with count := n }) (m2 gAdd (mFd 0 (fun f => f.count)) (mDat (.int 1))) [.v .f, .v (wI n), .un, .un, .un, .un, .un] f = some (.nx _, { f with count := f.count + 1 }) := fd_ev (m2_ev (mFd_ev rfl) rfl rfl) rfl
  unfold m_law_draw
  by_cases hr : 0 < f.rest
  · refine ⟨f.rest % n, _, seq_ev e1 (seq_rt (if_t (t_ev (m2_ev (mFd_ev rfl) rfl ?_)) (seq_ev (set_ev (m2_ev (args_ev (cons_ev (mFd_ev rfl) nil_ev) rfl) rfl (gMod_int h1))) (seq_ev (fd_ev (m2_ev (mFd_ev rfl) rfl (gDiv_int h1 h2)) rfl) (ret_ev rfl))))), Int.emod_nonneg _ (by omega), Int.emod_lt_of_pos _ h1⟩
    show some (wB (decide (0 < f.rest))) = _
    rw [decide_eq_true hr]
  · have e2 : ∀ x, sIf (mT (m2 gGtI (mFd 0 (fun f => f.rest)) (mDat (.int 0)))) x sNil [.v .f, .v (wI n), .un, .un, .un, .un, .un] { f with count := f.count + 1 } = some (.nx [.v .f, .v (wI n), .un, .un, .un, .un, .un], { f with count := f.count + 1 }) := fun x => if_f (t_ev (m2_ev (mFd_ev rfl) rfl (by
      show some (wB (decide (0 < f.rest))) = _
      rw [decide_eq_false hr]))) rfl
    have e4 : ∃ v, (mIf (mT (m2 gNe (mVar 6) (mArgs gLstD mNil))) (m2 gIx (mVar 6) (m2 gMod (mArgs gInt (mCons (mVar 5) mNil)) (mArgs gLen (mCons (mVar 6) mNil)))) (mDat (.int 909823))) [.v .f, .v (wI n), .un, .un, .un, .v (wI f.spot), .v (.d (.list (f.cells.map .int)))] ⟨f.cells, f.spot + 1, f.rest, f.count + 1⟩ = some (wI v, ⟨f.cells, f.spot + 1, f.rest, f.count + 1⟩) := by
      by_cases hc : f.cells = []
      · refine ⟨909823, ife_f (t_ev (m2_ev rfl (args_ev nil_ev rfl) ?_)) rfl⟩
        rw [gNe_nil, hc]; rfl
      · have hl : 0 < (f.cells.length : Int) := by
          have := List.length_pos_iff.mpr hc
          omega
        have h0 := Int.emod_nonneg f.spot (show (f.cells.length : Int) ≠ 0 by omega)
        have h3 := Int.emod_lt_of_pos f.spot hl
        have hi : (f.spot % (f.cells.length : Int)).toNat < f.cells.length := by omega
        refine ⟨f.cells[(f.spot % (f.cells.length : Int)).toNat], ife_t (t_ev (m2_ev rfl (args_ev nil_ev rfl) ?_)) (m2_ev rfl (m2_ev (args_ev (cons_ev rfl nil_ev) rfl) (args_ev (cons_ev rfl nil_ev) rfl) (gMod_int ?_)) ?_)⟩
        · rw [gNe_nil, decide_eq_false hc]; rfl
        · simpa using hl
        · show (if 0 ≤ _ then _ else _) = _
          simp only [List.length_map]
          rw [if_pos h0, List.getElem?_map, List.getElem?_eq_getElem hi]
          rfl
    obtain ⟨v, e4⟩ := e4
    have e3 : ∀ (b : MS) p, b [.v .f, .v (wI n), .v (wI v), .un, .un, .v (wI f.spot), .v (.d (.list (f.cells.map .int)))] ⟨f.cells, f.spot + 1, f.rest, f.count + 1⟩ = some p → (sSeq (sPar 5 6 (mFd 0 (fun f => f.spot)) (mFdC 0)) (sSeq (sFd 0 (fun f n => { f with spot := n }) (m2 gAdd (mVar 5) (mDat (.int 1)))) (sSeq (sSet 2 (mIf (mT (m2 gNe (mVar 6) (mArgs gLstD mNil))) (m2 gIx (mVar 6) (m2 gMod (mArgs gInt (mCons (mVar 5) mNil)) (mArgs gLen (mCons (mVar 6) mNil)))) (mDat (.int 909823)))) b))) [.v .f, .v (wI n), .un, .un, .un, .un, .un] ⟨f.cells, f.spot, f.rest, f.count + 1⟩ = some p := fun b p hb =>
      seq_ev (par_ev (mFd_ev rfl) (mFdC_ev rfl)) (seq_ev (fd_ev (m2_ev rfl rfl rfl) rfl) (seq_ev (set_ev e4) hb))
    have e6 : (tAn (mT (m2 gGeI (mVar 2) (m2 gPow (mDat (.int 10)) (mDat (.int 18))))) ((mT (m2 gLt (mVar 5) (mArgs gLen (mCons (mVar 6) mNil)))))) [.v .f, .v (wI n), .v (wI v), .un, .un, .v (wI f.spot), .v (.d (.list (f.cells.map .int)))] ⟨f.cells, f.spot + 1, f.rest, f.count + 1⟩ = some (decide (1000000000000000000 ≤ v) && W.dataLt (.int f.spot) (.int (f.cells.length : Nat)), ⟨f.cells, f.spot + 1, f.rest, f.count + 1⟩) := an_ev (t_ev (m2_ev rfl (m2_ev rfl rfl rfl) rfl)) fun _ => t_ev (m2_ev rfl (args_ev (cons_ev rfl nil_ev) rfl) (by
      show gLt (wI f.spot) (wI ((f.cells.map PyData.int).length : Nat)) = _
      rw [List.length_map]
      exact gLt_int _ _))
    cases hb : (decide (1000000000000000000 ≤ v) && W.dataLt (.int f.spot) (.int (f.cells.length : Nat))) with
    | true =>
      rw [hb] at e6
      have e7 : (sSeq (sFd 0 (fun f n => { f with rest := n }) (m2 gDiv (mVar 2) (mVar 1))) (sRet (m2 gMod (mArgs gInt (mCons (mVar 2) mNil)) (mVar 1)))) [.v .f, .v (wI n), .v (wI v), .un, .un, .v (wI f.spot), .v (.d (.list (f.cells.map .int)))] ⟨f.cells, f.spot + 1, f.rest, f.count + 1⟩ = some (.rt (wI (v % n)), _) := seq_ev (fd_ev (m2_ev rfl rfl (gDiv_int h1 h2)) rfl) (ret_ev (m2_ev (args_ev (cons_ev rfl nil_ev) rfl) rfl (gMod_int h1)))
      exact ⟨v % n, _, seq_ev e1 (seq_ev (e2 _) (e3 _ _ (seq_rt (if_t e6 e7)))), Int.emod_nonneg _ (by omega), Int.emod_lt_of_pos _ h1⟩
    | false =>
      rw [hb] at e6
      obtain ⟨r, e5, h3, h4⟩ := draw_tail ⟨f.cells, f.spot + 1, f.rest, f.count + 1⟩ f.spot h1 v
      exact ⟨r, _, seq_ev e1 (seq_ev (e2 _) (e3 _ _ (seq_ev (if_f e6 rfl) e5))), h3, h4⟩
theorem any_ev (f : Fd) {xs : List PyData} (h1 : xs ≠ []) (h2 : xs.length < 1073741824) : ∃ x f', fn_law_any [.f, .d (.list xs)] f = some (.d x, f') ∧ x ∈ xs := by
  have hl : 0 < xs.length := List.length_pos_iff.mpr h1
  obtain ⟨r, f', e, h3, h4⟩ := draw_ev f (n := xs.length) (by omega) (by omega)
  have hi : r.toNat < xs.length := by omega
  refine ⟨xs[r.toNat], f', fn_rt rfl (ret_ev (m2_ev rfl (call_ev (cons_ev rfl (cons_ev (args_ev (cons_ev rfl nil_ev) rfl) nil_ev)) e) ?_)), List.getElem_mem hi⟩
  show (if 0 ≤ r then _ else _) = _
  rw [if_pos h3, List.getElem?_eq_getElem hi]
  rfl
/-- a comprehension that draws -/
theorem lc_rel {α : Type} {g : MG} {tt : MT} {te : ME} {ρ : En} {ew : α → W} {D : PyData → Prop} : ∀ (xs : List α) (acc : List PyData) (f : Fd),
    (∀ x ∈ xs, ∃ ρ1, g (ew x) ρ = some ρ1 ∧ ∀ f, ∃ c f1, tt ρ1 f = some (c, f1) ∧ (c = true → ∃ d f2, te ρ1 f1 = some (.d d, f2) ∧ D d)) →
    acc.length + xs.length ≤ lim → (∀ d ∈ acc, D d) → ∃ ds f', lcGo g tt (bOne te) ρ (xs.map ew) acc f = some (ds, f') ∧ ds.length ≤ acc.length + xs.length ∧ ∀ d ∈ ds, D d
  | [], acc, f, _, _, ha => ⟨acc, f, rfl, by simp, ha⟩
  | x :: xs, acc, f, hs, hl, ha => by
    have hl : acc.length + (xs.length + 1) ≤ lim := hl
    obtain ⟨ρ1, h1, h2⟩ := hs x List.mem_cons_self
    obtain ⟨c, f1, h3, h4⟩ := h2 f
    cases c with
    | false =>
      obtain ⟨ds, f', e, l, m⟩ := lc_rel xs acc f1 (fun y hy => hs y (List.mem_cons_of_mem _ hy)) (by omega) ha
      refine ⟨ds, f', ?_, by simp only [List.length_cons]; omega, m⟩
      simp only [List.map_cons, lcGo, h1, h3, Option.bind_some]
      simpa using e
    | true =>
      obtain ⟨d, f2, h5, h6⟩ := h4 rfl
      obtain ⟨ds, f', e, l, m⟩ := lc_rel xs (acc ++ [d]) f2 (fun y hy => hs y (List.mem_cons_of_mem _ hy)) (by simp only [List.length_append, List.length_cons, List.length_nil]; omega) (fun e he => by
        rcases List.mem_append.mp he with h | h
        · exact ha e h
        · rw [List.mem_singleton.mp h]; exact h6)
      refine ⟨ds, f', ?_, by simp only [List.length_append, List.length_cons, List.length_nil] at l ⊢; omega, m⟩
      simp only [List.map_cons, lcGo, h1, h3, Option.bind_some, if_true, bOne, h5, dOf]
      rw [if_pos (by omega)]
      exact e
theorem keys_of {P : Ks → Prop} : ∀ (ds : List PyData), (∀ d ∈ ds, ∃ k, d = encX k ∧ P k) → ∃ ks : List Ks, ds = ks.map encX ∧ ∀ k ∈ ks, P k
  | [], _ => ⟨[], rfl, by simp⟩
  | d :: ds, h => by
    obtain ⟨k, e, p⟩ := h d List.mem_cons_self
    obtain ⟨ks, e2, p2⟩ := keys_of ds fun x hx => h x (List.mem_cons_of_mem _ hx)
    refine ⟨k :: ks, by rw [e, e2]; rfl, fun x hx => ?_⟩
    rcases List.mem_cons.mp hx with rfl | hx
    · exact p
    · exact p2 x hx
end Y
end KMathI
section KMathJ
set_option Elab.async false
set_option linter.all false
set_option maxRecDepth 100000
set_option maxHeartbeats 4000000
/-! The guild that the law draws. -/
namespace Y
open PySem PySem.Spec PyProof.Rows XS
theorem small {n : Nat} (h : n ≤ 16) : n ≤ lim := le_lim (by show n ≤ 100000; omega)
theorem gTupD_one (x : Str) : gTupD [.d (.str x)] = some (.d (encX [x])) := rfl
theorem rng_dr {a : ME} {ρ : En} {f f' : Fd} {n : Int} (h : a ρ f = some (wI n, f')) (h1 : 0 ≤ n) (h2 : n ≤ 16) : mRng (mCons a mNil) ρ f = some ((List.range n.toNat).map fun i => wI ((i : Nat) : Int), f') := by
  unfold mRng
  rw [cons_ev h nil_ev]
  show (if 0 ≤ n ∧ n ≤ 100000 then _ else _) = _
  rw [if_pos ⟨h1, by omega⟩]
  rfl
theorem guild_lots {FA : W} {ns : Ks} {SB MJ : List Ks} {h : Str} {G : List PyData} {b : Bool} {s11 : Slot} (hn : ns.length ≤ 4) (hSB : ∀ k ∈ SB, k.Sublist ns ∧ k ≠ []) (sb0 : SB ≠ []) (sbl : SB.length ≤ 16) (hMJ : ∀ k ∈ MJ, k.Sublist ns ∧ k ≠ []) (mjl : MJ.length ≤ 16) (f : Fd) :
    ∃ (X Y : List Ks) (f' : Fd), (sIf (mT (mVar 7)) (sSeq (sSet 10 (mLc [12] (mIt (mVar 8)) (gSet 12) (mT (m2 gGtI (mCall fn_law_draw (mCons (mVar 0) (mCons (mDat (.int 4)) mNil))) (mDat (.int 0)))) (bOne (mVar 12)))) (sSet 11 (mLc [13] (mIt (mVar 9)) (gSet 13) (mT (m2 gEq (mCall fn_law_draw (mCons (mVar 0) (mCons (mDat (.int 2)) mNil))) (mDat (.int 0)))) (bOne (mArgs gTupD (mCons (mVar 13) mNil)))))) (sSeq (sSet 10 (mLc [14] (mRng (mCons (m2 gAdd (mDat (.int 1)) (mCall fn_law_draw (mCons (mVar 0) (mCons (mDat (.int 2)) mNil)))) mNil)) (gSet 14) mYes (bOne (mCall fn_law_any (mCons (mVar 0) (mCons (mVar 5) mNil)))))) (sSet 11 (mLc [14] (mRng (mCons (mCall fn_law_draw (mCons (mVar 0) (mCons (mDat (.int 3)) mNil))) mNil)) (gSet 14) mYes (bOne (mCall fn_law_any (mCons (mVar 0) (mCons (mCall fn_law_subsets (mCons (mVar 9) mNil)) mNil)))))))) [.v .f, .v (wI 4), .v FA, .v (.d (encX ns)), .v (.d (.str h)), .v (.d (encL SB)), .own (.lst G), .v (wB b), .v (.d (encL MJ)), .v (.d (encX (less ns [h]))), .v (.d (encL [])), s11, .un, .un, .un] f = some (.nx [.v .f, .v (wI 4), .v FA, .v (.d (encX ns)), .v (.d (.str h)), .v (.d (encL SB)), .own (.lst G), .v (wB b), .v (.d (encL MJ)), .v (.d (encX (less ns [h]))), .v (.d (encL X)), .v (.d (encL Y)), .un, .un, .un], f') ∧ (∀ k ∈ X, k.Sublist ns ∧ k ≠ []) ∧ ∀ k ∈ Y, k.Sublist (less ns [h]) := by
  have hO : (less ns [h]).length ≤ 4 := Nat.le_trans (List.length_filter_le _ _) hn
  cases b with
  | true =>
    obtain ⟨ds, f1, e1, l1, m1⟩ := lc_rel (g := gSet 12) (tt := mT (m2 gGtI (mCall fn_law_draw (mCons (mVar 0) (mCons (mDat (.int 4)) mNil))) (mDat (.int 0)))) (te := mVar 12) (ρ := cl [12] [.v .f, .v (wI 4), .v FA, .v (.d (encX ns)), .v (.d (.str h)), .v (.d (encL SB)), .own (.lst G), .v (wB true), .v (.d (encL MJ)), .v (.d (encX (less ns [h]))), .v (.d (encL [])), s11, .un, .un, .un]) (ew := fun k => W.d (encX k)) (D := fun d => ∃ k, d = encX k ∧ k.Sublist ns ∧ k ≠ []) MJ [] f (fun x hx => ⟨_, rfl, fun f => by
      obtain ⟨r, f', e, _, _⟩ := draw_ev f (n := 4) (by decide) (by decide)
      exact ⟨_, f', t_ev (m2_ev (call_ev (cons_ev rfl (cons_ev rfl nil_ev)) e) rfl rfl), fun _ => ⟨_, _, rfl, x, rfl, hMJ x hx⟩⟩⟩) (by rw [List.length_nil, Nat.zero_add]; exact small mjl) (by simp)
    obtain ⟨X, rfl, hX⟩ := keys_of ds m1
    obtain ⟨es, f2, e2, l2, m2⟩ := lc_rel (g := gSet 13) (tt := mT (m2 gEq (mCall fn_law_draw (mCons (mVar 0) (mCons (mDat (.int 2)) mNil))) (mDat (.int 0)))) (te := mArgs gTupD (mCons (mVar 13) mNil)) (ρ := cl [13] [.v .f, .v (wI 4), .v FA, .v (.d (encX ns)), .v (.d (.str h)), .v (.d (encL SB)), .own (.lst G), .v (wB true), .v (.d (encL MJ)), .v (.d (encX (less ns [h]))), .v (.d (.list (X.map encX))), s11, .un, .un, .un]) (ew := fun k => W.d (.str k)) (D := fun d => ∃ k, d = encX k ∧ k.Sublist (less ns [h])) (less ns [h]) [] f1 (fun x hx => ⟨_, rfl, fun f => by
      obtain ⟨r, f', e, _, _⟩ := draw_ev f (n := 2) (by decide) (by decide)
      exact ⟨_, f', t_ev (m2_ev (call_ev (cons_ev rfl (cons_ev rfl nil_ev)) e) rfl (gEq_int _ _)), fun _ => ⟨_, _, args_ev (cons_ev rfl nil_ev) (gTupD_one x), [x], rfl, List.singleton_sublist.mpr hx⟩⟩⟩) (by rw [List.length_nil, Nat.zero_add]; exact small (by omega)) (by simp)
    obtain ⟨Y, rfl, hY⟩ := keys_of es m2
    exact ⟨X, Y, f2, if_t rfl (seq_ev (set_ev (lc_ev (it_ev rfl (walk_L MJ)) e1)) (set_ev (lc_ev (it_ev rfl (walk_key _)) e2))), hX, hY⟩
  | false =>
    obtain ⟨r, f0, e0, r0, r1⟩ := draw_ev f (n := 2) (by decide) (by decide)
    obtain ⟨ds, f1, e1, l1, m1⟩ := lc_rel (g := gSet 14) (tt := mYes) (te := mCall fn_law_any (mCons (mVar 0) (mCons (mVar 5) mNil))) (ρ := cl [14] [.v .f, .v (wI 4), .v FA, .v (.d (encX ns)), .v (.d (.str h)), .v (.d (encL SB)), .own (.lst G), .v (wB false), .v (.d (encL MJ)), .v (.d (encX (less ns [h]))), .v (.d (encL [])), s11, .un, .un, .un]) (ew := fun i => wI ((i : Nat) : Int)) (D := fun d => ∃ k, d = encX k ∧ k.Sublist ns ∧ k ≠ []) (List.range (1 + r).toNat) [] f0 (fun x hx => ⟨_, rfl, fun f => by
      obtain ⟨d, f', e, hd⟩ := any_ev f (xs := SB.map encX) (by simpa using sb0) (by rw [List.length_map]; omega)
      obtain ⟨k, hk, rfl⟩ := List.mem_map.mp hd
      exact ⟨true, f, rfl, fun _ => ⟨_, f', call_ev (cons_ev rfl (cons_ev rfl nil_ev)) e, k, rfl, hSB k hk⟩⟩⟩) (by rw [List.length_nil, Nat.zero_add, List.length_range]; exact small (by omega)) (by simp)
    obtain ⟨X, rfl, hX⟩ := keys_of ds m1
    obtain ⟨q, f2, e2, q0, q1⟩ := draw_ev f1 (n := 3) (by decide) (by decide)
    obtain ⟨es, f3, e3, l3, m3⟩ := lc_rel (g := gSet 14) (tt := mYes) (te := mCall fn_law_any (mCons (mVar 0) (mCons (mCall fn_law_subsets (mCons (mVar 9) mNil)) mNil))) (ρ := cl [14] [.v .f, .v (wI 4), .v FA, .v (.d (encX ns)), .v (.d (.str h)), .v (.d (encL SB)), .own (.lst G), .v (wB false), .v (.d (encL MJ)), .v (.d (encX (less ns [h]))), .v (.d (.list (X.map encX))), s11, .un, .un, .un]) (ew := fun i => wI ((i : Nat) : Int)) (D := fun d => ∃ k, d = encX k ∧ k.Sublist (less ns [h])) (List.range q.toNat) [] f2 (fun x hx => ⟨_, rfl, fun f => by
      have s0 : subs (less ns [h]) ≠ [] := fun e => by
        have := subs_mem.mpr (List.nil_sublist (less ns [h]))
        rw [e] at this
        cases this
      have sl := subs_len hO
      obtain ⟨d, f', e, hd⟩ := any_ev f (xs := (subs (less ns [h])).map encX) (by simpa using s0) (by rw [List.length_map]; omega)
      obtain ⟨k, hk, rfl⟩ := List.mem_map.mp hd
      exact ⟨true, f, rfl, fun _ => ⟨_, f', call_ev (cons_ev rfl (cons_ev (call_ev (cons_ev rfl nil_ev) (ev_subs (walk_key _) hO)) nil_ev)) e, k, rfl, subs_mem.mp hk⟩⟩⟩) (by rw [List.length_nil, Nat.zero_add, List.length_range]; exact small (by omega)) (by simp)
    obtain ⟨Y, rfl, hY⟩ := keys_of es m3
    refine ⟨X, Y, f3, if_f rfl (seq_ev (set_ev (lc_ev ?_ e1)) (set_ev (lc_ev ?_ e3))), hX, hY⟩
    · exact rng_dr (m2_ev rfl (call_ev (cons_ev rfl (cons_ev rfl nil_ev)) e0) rfl) (by omega) (by omega)
    · exact rng_dr (call_ev (cons_ev rfl (cons_ev rfl nil_ev)) e2) (by omega) (by omega)
structure RowOk (ns : Ks) (r : Row) : Prop where
  l0 : r.2.1 ≠ []
  lp : r.2.1.Pairwise M.LtT
  ll : r.2.1.length ≤ 16
  lm : ∀ l ∈ r.2.1, l.Sublist ns ∧ l ≠ []
  f0 : r.2.2 ≠ []
  fp : r.2.2.Pairwise M.LtT
  fl : r.2.2.length ≤ 16
  fm : ∀ l ∈ r.2.2, l.Sublist (less ns [r.1])
def orK (X : List Ks) (k : Ks) : List Ks := if X = [] then [k] else X
theorem orK_ev {X : List Ks} {k : Ks} {i : Nat} {mk : MA} {ρ : En} {f : Fd} (e : mVar i ρ f = some (.d (encL X), f)) (e2 : mArgs gLstD mk ρ f = some (.d (encL [k]), f)) : mIf (mT (m2 gNe (mVar i) (mArgs gLstD mNil))) (mVar i) (mArgs gLstD mk) ρ f = some (.d (encL (orK X k)), f) := by
  have h : (mT (m2 gNe (mVar i) (mArgs gLstD mNil))) ρ f = some (!decide (X = []), f) := t_ev (m2_ev e (args_ev nil_ev rfl) (gNe_L X []))
  unfold orK
  by_cases c : X = []
  · rw [decide_eq_true c] at h
    rw [if_pos c]
    exact ife_f h e2
  · rw [decide_eq_false c] at h
    rw [if_neg c]
    exact ife_t h e
theorem sortU_ne {X : List Ks} (h : X ≠ []) : M.sortU X ≠ [] := fun e => by
  cases X with
  | nil => exact h rfl
  | cons x X =>
    have := (M.sortU_mem x (x :: X)).mpr List.mem_cons_self
    rw [e] at this
    cases this
theorem orK_ne {X : List Ks} {k : Ks} : orK X k ≠ [] := by
  unfold orK
  by_cases c : X = []
  · rw [if_pos c]; simp
  · rw [if_neg c]; exact c
theorem orK_mem {X : List Ks} {k x : Ks} (h : x ∈ orK X k) : x ∈ X ∨ x = k := by
  unfold orK at h
  by_cases c : X = []
  · rw [if_pos c] at h; exact .inr (List.mem_singleton.mp h)
  · rw [if_neg c] at h; exact .inl h
theorem guild_row {FA : W} {ns : Ks} {SB MJ : List Ks} {h : Str} {G : List PyData} {b : Bool} {s9 s10 s11 : Slot} (hn : ns.length ≤ 4) (n0 : ns ≠ []) (hSB : ∀ k ∈ SB, k.Sublist ns ∧ k ≠ []) (sb0 : SB ≠ []) (sbl : SB.length ≤ 16) (hMJ : ∀ k ∈ MJ, k.Sublist ns ∧ k ≠ []) (mjl : MJ.length ≤ 16) (hG : G.length < lim) (f : Fd) :
    ∃ (r : Row) (t9 t10 t11 : Slot) (f' : Fd), (sSeq (sTup (mArgs gTupD (mCons (mCall fn_law_less (mCons (mVar 3) (mCons (mArgs gTupD (mCons (mVar 4) mNil)) mNil))) (mCons (mArgs gLstD mNil) mNil))) (gTupM 2 (gsCons (gSet 9) (gsCons (gSet 10) gsNil)))) (sSeq (sIf (mT (mVar 7)) (sSeq (sSet 10 (mLc [12] (mIt (mVar 8)) (gSet 12) (mT (m2 gGtI (mCall fn_law_draw (mCons (mVar 0) (mCons (mDat (.int 4)) mNil))) (mDat (.int 0)))) (bOne (mVar 12)))) (sSet 11 (mLc [13] (mIt (mVar 9)) (gSet 13) (mT (m2 gEq (mCall fn_law_draw (mCons (mVar 0) (mCons (mDat (.int 2)) mNil))) (mDat (.int 0)))) (bOne (mArgs gTupD (mCons (mVar 13) mNil)))))) (sSeq (sSet 10 (mLc [14] (mRng (mCons (m2 gAdd (mDat (.int 1)) (mCall fn_law_draw (mCons (mVar 0) (mCons (mDat (.int 2)) mNil)))) mNil)) (gSet 14) mYes (bOne (mCall fn_law_any (mCons (mVar 0) (mCons (mVar 5) mNil)))))) (sSet 11 (mLc [14] (mRng (mCons (mCall fn_law_draw (mCons (mVar 0) (mCons (mDat (.int 3)) mNil))) mNil)) (gSet 14) mYes (bOne (mCall fn_law_any (mCons (mVar 0) (mCons (mCall fn_law_subsets (mCons (mVar 9) mNil)) mNil)))))))) (sSeq (sPar 10 11 (mIf (mT (m2 gNe (mVar 10) (mArgs gLstD mNil))) (mVar 10) (mArgs gLstD (mCons (mVar 3) mNil))) (mIf (mT (m2 gNe (mVar 11) (mArgs gLstD mNil))) (mVar 11) (mArgs gLstD (mCons (mArgs gTupD mNil) mNil)))) (sApp 6 (mArgs gTupD (mCons (mVar 4) (mCons (mArgs gTuple (mCons (m1 gSortSet (mVar 10)) mNil)) (mCons (mArgs gTuple (mCons (m1 gSortSet (mVar 11)) mNil)) mNil)))))))) [.v .f, .v (wI 4), .v FA, .v (.d (encX ns)), .v (.d (.str h)), .v (.d (encL SB)), .own (.lst G), .v (wB b), .v (.d (encL MJ)), s9, s10, s11, .un, .un, .un] f = some (.nx [.v .f, .v (wI 4), .v FA, .v (.d (encX ns)), .v (.d (.str h)), .v (.d (encL SB)), .own (.lst (G ++ [encR r])), .v (wB b), .v (.d (encL MJ)), t9, t10, t11, .un, .un, .un], f') ∧ r.1 = h ∧ RowOk ns r := by
  obtain ⟨X, Y, f1, e1, hX, hY⟩ := guild_lots (FA := FA) (h := h) (G := G) (b := b) (s11 := s11) hn hSB sb0 sbl hMJ mjl f
  have xs : ∀ k ∈ orK X ns, k.Sublist ns ∧ k ≠ [] := fun k hk => by
    rcases orK_mem hk with m | rfl
    · exact hX k m
    · exact ⟨List.Sublist.refl _, n0⟩
  have ys : ∀ k ∈ orK Y [], k.Sublist (less ns [h]) := fun k hk => by
    rcases orK_mem hk with m | rfl
    · exact hY k m
    · exact List.nil_sublist _
  have hO : (less ns [h]).length ≤ 4 := Nat.le_trans (List.length_filter_le _ _) hn
  have lx := sortU_few hn fun k hk => (xs k hk).1
  have ly := sortU_few hO ys
  refine ⟨(h, M.sortU (orK X ns), M.sortU (orK Y [])), _, _, _, f1, seq_ev (tup_ev (args_ev (cons_ev (call_ev (cons_ev rfl (cons_ev (args_ev (cons_ev rfl nil_ev) (gTupD_one h)) nil_ev)) (ev_lless (sm_sub hn (List.Sublist.refl _)))) (cons_ev (args_ev nil_ev rfl) nil_ev)) rfl) rfl) (seq_ev e1 (seq_ev (par_ev (orK_ev rfl (args_ev (cons_ev rfl nil_ev) rfl)) (orK_ev rfl (args_ev (cons_ev (args_ev nil_ev rfl) nil_ev) rfl))) (app_ev (args_ev (cons_ev rfl (cons_ev (args_ev (cons_ev (m1_ev rfl (gSort_L (by omega))) nil_ev) (gTuple_L _)) (cons_ev (args_ev (cons_ev (m1_ev rfl (gSort_L (by omega))) nil_ev) (gTuple_L _)) nil_ev))) (gTupD_row (h, M.sortU (orK X ns), M.sortU (orK Y [])))) rfl hG))), rfl, sortU_ne orK_ne, M.sortU_sorted _, lx, fun l hl => xs l ((M.sortU_mem _ _).mp hl), sortU_ne orK_ne, M.sortU_sorted _, ly, fun l hl => ys l ((M.sortU_mem _ _).mp hl)⟩
end Y
end KMathJ
section KMathK
set_option Elab.async false
set_option linter.all false
set_option maxRecDepth 100000
set_option maxHeartbeats 4000000
/-! The guild that the law draws, as a whole. -/
namespace Y
open PySem PySem.Spec PyProof.Rows XS
theorem sl_ev {ma : ME} {lo hi : MO} {ρ : En} {f f1 f2 f' : Fd} {w x : W} {l h : Option Int} (h1 : ma ρ f = some (w, f1)) (h2 : lo ρ f1 = some (l, f2)) (h3 : hi ρ f2 = some (h, f')) (hg : gSl w l h = some x) : mSl ma lo hi ρ f = some (x, f') := by
  unfold mSl
  rw [h1]
  simp only [Option.bind_some, h2, h3, hg]
  rfl
theorem at_ev {a : ME} {ρ : En} {f f' : Fd} {n : Int} (h : a ρ f = some (wI n, f')) : oAt a ρ f = some (some n, f') := by
  unfold oAt
  rw [h]
  rfl
theorem cut_take (xs : List PyData) (k : Nat) : cutD xs none (some (k : Int)) = xs.take k := by
  unfold cutD
  rw [HT.sIx_none, HT.sIx_nat, List.drop_zero, Nat.sub_zero]
  by_cases h : k ≤ xs.length
  · rw [Nat.min_eq_left h]
  · rw [Nat.min_eq_right (by omega), List.take_length, List.take_of_length_le (by omega)]
theorem cut_drop (xs : List PyData) (k : Nat) : cutD xs (some (k : Int)) none = xs.drop k := by
  unfold cutD
  rw [HT.sIx_none, HT.sIx_nat]
  by_cases h : k ≤ xs.length
  · rw [Nat.min_eq_left h, List.take_of_length_le (by rw [List.length_drop]; exact Nat.le_refl _)]
  · rw [Nat.min_eq_right (by omega), Nat.sub_self, List.take_zero, List.drop_eq_nil_of_le (by omega)]
theorem gSl_key (ns : Ks) (k : Nat) : gSl (.d (encX ns)) none (some (k : Int)) = some (.d (encX (ns.take k))) := by
  show (if hotM (cutD (ns.map .str) none (some (k : Int))) = false then some (W.d (.tuple (cutD (ns.map .str) none (some (k : Int))))) else none) = _
  rw [cut_take, ← List.map_take, if_pos (hot_strs _)]
  rfl
theorem gSl_T (X : List Ks) (k : Nat) : gSl (.d (encT X)) none (some (k : Int)) = some (.d (encT (X.take k))) := by
  show (if hotM (cutD (X.map encX) none (some (k : Int))) = false then some (W.d (.tuple (cutD (X.map encX) none (some (k : Int))))) else none) = _
  rw [cut_take, ← List.map_take, if_pos (hot_keys _)]
  rfl
theorem gSl_L (X : List Ks) (k : Nat) : gSl (.d (encL X)) (some (k : Int)) none = some (.d (encL (X.drop k))) := by
  show some (W.d (.list (cutD (X.map encX) (some (k : Int)) none))) = _
  rw [cut_drop, ← List.map_drop]
  rfl
def fams : List Ks := [["a", "b", "c", "d"], ["east", "n", "west", "zz"], ["ada", "bo", "cy", "di"]]
def Fam (ns : Ks) : Prop := ∃ a ∈ fams, ∃ k : Nat, 2 ≤ k ∧ k ≤ 4 ∧ ns = a.take k
theorem fam_cases {P : Ks → Prop} (h : ∀ a ∈ fams, P (a.take 2) ∧ P (a.take 3) ∧ P (a.take 4)) {ns : Ks} (m : Fam ns) : P ns := by
  obtain ⟨a, ha, k, k2, k4, rfl⟩ := m
  obtain ⟨p2, p3, p4⟩ := h a ha
  have : k = 2 ∨ k = 3 ∨ k = 4 := by omega
  rcases this with rfl | rfl | rfl
  · exact p2
  · exact p3
  · exact p4
theorem fam_so {ns : Ks} (m : Fam ns) : ns.Pairwise fun a b => M.sLt a b = true := fam_cases (P := fun ns => ns.Pairwise fun a b => M.sLt a b = true) (by decide +kernel) m
theorem fam_len {ns : Ks} (m : Fam ns) : 2 ≤ ns.length ∧ ns.length ≤ 4 := fam_cases (P := fun ns => 2 ≤ ns.length ∧ ns.length ≤ 4) (by decide +kernel) m
theorem good_of {g : List Row} {ns : Ks} (m : Fam ns) (e : houses g = ns) (h : ∀ r ∈ g, RowOk ns r) : Good g ns where
  ok := ⟨e, fam_so m, (fam_len m).2, fun r hr => ⟨(h r hr).ll, fun l hl => ((h r hr).lm l hl).1⟩, fun r hr => ⟨(h r hr).fl, fun l hl => ((h r hr).fm l hl).trans less_sub⟩⟩
  lots := fun r hr => ⟨(h r hr).l0, (h r hr).lp, fun l hl => ((h r hr).lm l hl).2⟩
  fears := fun r hr => ⟨(h r hr).f0, (h r hr).fp, fun F hF hm => (less_mem.mp (((h r hr).fm F hF).subset hm)).2 (List.mem_singleton.mpr rfl)⟩
theorem subsGo_nil : ∀ (ns : Ks) (acc : List Ks), (∀ k ∈ acc, k ≠ []) → ∃ t, subsGo ([] :: acc) ns = [] :: t ∧ ∀ k ∈ t, k ≠ []
  | [], acc, h => ⟨acc, rfl, h⟩
  | n :: ns, acc, h => by
    show ∃ t, subsGo (([] :: acc) ++ ([] :: acc).map (· ++ [n])) ns = [] :: t ∧ _
    rw [List.cons_append]
    refine subsGo_nil ns _ fun k hk => ?_
    rcases List.mem_append.mp hk with m | m
    · exact h k m
    · obtain ⟨b, _, rfl⟩ := List.mem_map.mp m
      simp
theorem subs_tail {ns : Ks} : (∀ k ∈ (subs ns).drop 1, k.Sublist ns ∧ k ≠ []) ∧ (ns ≠ [] → (subs ns).drop 1 ≠ []) := by
  obtain ⟨t, e, h⟩ := subsGo_nil ns [] (by simp)
  have e : subs ns = [] :: t := e
  rw [e]
  refine ⟨fun k hk => ⟨subs_mem.mp (by rw [e]; exact List.mem_cons_of_mem _ hk), h k hk⟩, fun n0 e0 => ?_⟩
  have m := subs_mem.mpr (List.Sublist.refl ns)
  have e0 : t = [] := e0
  rw [e, e0] at m
  exact n0 (List.mem_singleton.mp m)
theorem gTuple_G (g : List Row) : gTuple [.d (.list (g.map encR))] = some (.d (encG g)) := by
  show (if hotM (g.map encR) = false then some (W.d (.tuple (g.map encR))) else none) = _
  rw [if_pos (hot_rows g)]
  rfl
theorem guild_loop {FA : W} {ns : Ks} {SB MJ : List Ks} {b : Bool} (hn : ns.length ≤ 4) (n0 : ns ≠ []) (hSB : ∀ k ∈ SB, k.Sublist ns ∧ k ≠ []) (sb0 : SB ≠ []) (sbl : SB.length ≤ 16) (hMJ : ∀ k ∈ MJ, k.Sublist ns ∧ k ≠ []) (mjl : MJ.length ≤ 16) (f : Fd) :
    ∃ (g : List Row) (t4 t9 t10 t11 : Slot) (f' : Fd), sFor (mIt (mVar 3)) (gSet 4) (sSeq (sTup (mArgs gTupD (mCons (mCall fn_law_less (mCons (mVar 3) (mCons (mArgs gTupD (mCons (mVar 4) mNil)) mNil))) (mCons (mArgs gLstD mNil) mNil))) (gTupM 2 (gsCons (gSet 9) (gsCons (gSet 10) gsNil)))) (sSeq (sIf (mT (mVar 7)) (sSeq (sSet 10 (mLc [12] (mIt (mVar 8)) (gSet 12) (mT (m2 gGtI (mCall fn_law_draw (mCons (mVar 0) (mCons (mDat (.int 4)) mNil))) (mDat (.int 0)))) (bOne (mVar 12)))) (sSet 11 (mLc [13] (mIt (mVar 9)) (gSet 13) (mT (m2 gEq (mCall fn_law_draw (mCons (mVar 0) (mCons (mDat (.int 2)) mNil))) (mDat (.int 0)))) (bOne (mArgs gTupD (mCons (mVar 13) mNil)))))) (sSeq (sSet 10 (mLc [14] (mRng (mCons (m2 gAdd (mDat (.int 1)) (mCall fn_law_draw (mCons (mVar 0) (mCons (mDat (.int 2)) mNil)))) mNil)) (gSet 14) mYes (bOne (mCall fn_law_any (mCons (mVar 0) (mCons (mVar 5) mNil)))))) (sSet 11 (mLc [14] (mRng (mCons (mCall fn_law_draw (mCons (mVar 0) (mCons (mDat (.int 3)) mNil))) mNil)) (gSet 14) mYes (bOne (mCall fn_law_any (mCons (mVar 0) (mCons (mCall fn_law_subsets (mCons (mVar 9) mNil)) mNil)))))))) (sSeq (sPar 10 11 (mIf (mT (m2 gNe (mVar 10) (mArgs gLstD mNil))) (mVar 10) (mArgs gLstD (mCons (mVar 3) mNil))) (mIf (mT (m2 gNe (mVar 11) (mArgs gLstD mNil))) (mVar 11) (mArgs gLstD (mCons (mArgs gTupD mNil) mNil)))) (sApp 6 (mArgs gTupD (mCons (mVar 4) (mCons (mArgs gTuple (mCons (m1 gSortSet (mVar 10)) mNil)) (mCons (mArgs gTuple (mCons (m1 gSortSet (mVar 11)) mNil)) mNil)))))))) [.v .f, .v (wI 4), .v FA, .v (.d (encX ns)), .un, .v (.d (encL SB)), .own (.lst []), .v (wB b), .v (.d (encL MJ)), .un, .un, .un, .un, .un, .un] f = some (.nx [.v .f, .v (wI 4), .v FA, .v (.d (encX ns)), t4, .v (.d (encL SB)), .own (.lst (g.map encR)), .v (wB b), .v (.d (encL MJ)), t9, t10, t11, .un, .un, .un], f') ∧ houses g = ns ∧ ∀ r ∈ g, RowOk ns r := by
  obtain ⟨ρ', f', e, g, t4, t9, t10, t11, eρ, hh, hr⟩ := forGo_all (g := gSet 4) (b := (sSeq (sTup (mArgs gTupD (mCons (mCall fn_law_less (mCons (mVar 3) (mCons (mArgs gTupD (mCons (mVar 4) mNil)) mNil))) (mCons (mArgs gLstD mNil) mNil))) (gTupM 2 (gsCons (gSet 9) (gsCons (gSet 10) gsNil)))) (sSeq (sIf (mT (mVar 7)) (sSeq (sSet 10 (mLc [12] (mIt (mVar 8)) (gSet 12) (mT (m2 gGtI (mCall fn_law_draw (mCons (mVar 0) (mCons (mDat (.int 4)) mNil))) (mDat (.int 0)))) (bOne (mVar 12)))) (sSet 11 (mLc [13] (mIt (mVar 9)) (gSet 13) (mT (m2 gEq (mCall fn_law_draw (mCons (mVar 0) (mCons (mDat (.int 2)) mNil))) (mDat (.int 0)))) (bOne (mArgs gTupD (mCons (mVar 13) mNil)))))) (sSeq (sSet 10 (mLc [14] (mRng (mCons (m2 gAdd (mDat (.int 1)) (mCall fn_law_draw (mCons (mVar 0) (mCons (mDat (.int 2)) mNil)))) mNil)) (gSet 14) mYes (bOne (mCall fn_law_any (mCons (mVar 0) (mCons (mVar 5) mNil)))))) (sSet 11 (mLc [14] (mRng (mCons (mCall fn_law_draw (mCons (mVar 0) (mCons (mDat (.int 3)) mNil))) mNil)) (gSet 14) mYes (bOne (mCall fn_law_any (mCons (mVar 0) (mCons (mCall fn_law_subsets (mCons (mVar 9) mNil)) mNil)))))))) (sSeq (sPar 10 11 (mIf (mT (m2 gNe (mVar 10) (mArgs gLstD mNil))) (mVar 10) (mArgs gLstD (mCons (mVar 3) mNil))) (mIf (mT (m2 gNe (mVar 11) (mArgs gLstD mNil))) (mVar 11) (mArgs gLstD (mCons (mArgs gTupD mNil) mNil)))) (sApp 6 (mArgs gTupD (mCons (mVar 4) (mCons (mArgs gTuple (mCons (m1 gSortSet (mVar 10)) mNil)) (mCons (mArgs gTuple (mCons (m1 gSortSet (mVar 11)) mNil)) mNil))))))))) ns (ew := fun x => W.d (.str x))
    (fun pre ρ f => ∃ (g : List Row) (t4 t9 t10 t11 : Slot), ρ = [.v .f, .v (wI 4), .v FA, .v (.d (encX ns)), t4, .v (.d (encL SB)), .own (.lst (g.map encR)), .v (wB b), .v (.d (encL MJ)), t9, t10, t11, .un, .un, .un] ∧ houses g = pre ∧ ∀ r ∈ g, RowOk ns r)
    (ρ := [.v .f, .v (wI 4), .v FA, .v (.d (encX ns)), .un, .v (.d (encL SB)), .own (.lst []), .v (wB b), .v (.d (encL MJ)), .un, .un, .un, .un, .un, .un]) (f := f) ⟨[], _, _, _, _, rfl, rfl, by simp⟩ fun pre x post e ρ f ⟨g, t4, t9, t10, t11, eρ, hh, hr⟩ => by
      subst eρ
      have hl : g.length ≤ 4 := by
        have h1 : (houses g).length = pre.length := by rw [hh]
        have h2 := congrArg List.length e
        simp only [houses, List.length_map, List.length_append] at h1 h2
        omega
      obtain ⟨r, u9, u10, u11, f', e2, rh, rk⟩ := guild_row (FA := FA) (h := x) (G := g.map encR) (b := b) (s9 := t9) (s10 := t10) (s11 := t11) hn n0 hSB sb0 sbl hMJ mjl (by rw [List.length_map]; exact lt_lim (by omega)) f
      refine ⟨_, _, f', rfl, e2, g ++ [r], _, _, _, _, by rw [List.map_append]; rfl, by unfold houses at hh ⊢; rw [List.map_append, hh, List.map_cons, rh]; rfl, fun q hq => ?_⟩
      rcases List.mem_append.mp hq with m | m
      · exact hr q m
      · rw [List.mem_singleton.mp m]; exact rk
  subst eρ
  exact ⟨g, t4, t9, t10, t11, f', for_ev (it_ev rfl (walk_key ns)) e, hh, hr⟩
end Y
end KMathK
section KMathL
set_option Elab.async false
set_option linter.all false
set_option maxRecDepth 100000
set_option maxHeartbeats 4000000
namespace Y
open PySem PySem.Spec PyProof.Rows XS
theorem guild_ev (f : Fd) : ∃ (g : List Row) (ns : Ks) (f' : Fd), fn_law_guild [.f, wI 4] f = some (.d (encG g), f') ∧ Good g ns ∧ Fam ns := by
  obtain ⟨d, f1, e1, hd⟩ := any_ev f (xs := fams.map encX) (by decide) (by decide)
  obtain ⟨a, ha, rfl⟩ := List.mem_map.mp hd
  obtain ⟨d2, f2, e2, hd2⟩ := any_ev f1 (xs := [.int 2, .int 3, .int 3, .int 3, .int 4]) (by simp) (by decide)
  have hk : ∃ k : Nat, 2 ≤ k ∧ k ≤ 4 ∧ d2 = .int (k : Int) := by
    simp only [List.mem_cons, List.not_mem_nil, or_false] at hd2
    rcases hd2 with rfl | rfl | rfl | rfl | rfl
    · exact ⟨2, by decide, by decide, rfl⟩
    · exact ⟨3, by decide, by decide, rfl⟩
    · exact ⟨3, by decide, by decide, rfl⟩
    · exact ⟨3, by decide, by decide, rfl⟩
    · exact ⟨4, by decide, by decide, rfl⟩
  obtain ⟨k, k2, k4, rfl⟩ := hk
  have hF : Fam (a.take k) := ⟨a, ha, k, k2, k4, rfl⟩
  generalize hns : a.take k = ns at hF
  have hn := (fam_len hF).2
  have n0 : ns ≠ [] := fun e => by have := (fam_len hF).1; rw [e] at this; simp at this
  obtain ⟨st, s0⟩ := subs_tail (ns := ns)
  have sl := subs_len hn
  have sl2 : ((subs ns).drop 1).length ≤ 16 := by rw [List.length_drop]; omega
  obtain ⟨r, f3, e3, r0, r1⟩ := draw_ev f2 (n := 2) (by decide) (by decide)
  let MJ := ((subs ns).drop 1).filter fun x => decide ((x.length : Int) = (ns.length : Int) / 2 + 1)
  have mj : ∀ k ∈ MJ, k.Sublist ns ∧ k ≠ [] := fun k hk => st k (List.mem_filter.mp hk).1
  have mjl : MJ.length ≤ 16 := Nat.le_trans (List.length_filter_le _ _) sl2
  obtain ⟨g, t4, t9, t10, t11, f4, e4, hh, hr⟩ := guild_loop (FA := .d (.list (fams.map encX))) (SB := (subs ns).drop 1) (MJ := MJ) (b := decide (r = 0)) hn n0 st (s0 n0) sl2 mj mjl f3
  refine ⟨g, ns, f4, fn_rt rfl ?_, good_of hF hh hr, hF⟩
  refine seq_ev (set_ev (w := .d (.list (fams.map encX))) (f' := f) ?_) (seq_ev (set_ev (sl_ev (call_ev (cons_ev rfl (cons_ev rfl nil_ev)) e1) rfl (at_ev (call_ev (cons_ev rfl (cons_ev (w := .d (.list [.int 2, .int 3, .int 3, .int 3, .int 4])) ?_ nil_ev)) e2)) (gSl_key a k))) ?_)
  · rfl
  · rfl
  rw [hns]
  refine seq_ev (parO_ev (sl_ev (call_ev (cons_ev rfl nil_ev) (ev_subs (walk_key ns) hn)) (at_ev rfl) rfl (gSl_L (subs ns) 1))) (seq_ev (par_ev (m2_ev (call_ev (cons_ev rfl (cons_ev rfl nil_ev)) e3) rfl (gEq_int _ _)) (lc_ev (it_ev rfl (walk_L ((subs ns).drop 1))) (lc_fil ((subs ns).drop 1) (p := fun x => decide ((x.length : Int) = (ns.length : Int) / 2 + 1)) (q := fun x => encX x) (fun x hx => ⟨_, rfl, t_ev (m2_ev (args_ev (cons_ev rfl nil_ev) (gLen_key x)) (m2_ev (m2_ev (args_ev (cons_ev rfl nil_ev) (gLen_key ns)) rfl (gDiv_int (by decide) (by decide))) rfl (gAdd_int _ _)) (gEq_int _ _)), fun _ => rfl⟩) (small sl2)))) (seq_ev e4 (frz_ev rfl (ret_ev (args_ev (cons_ev rfl nil_ev) (gTuple_G g))))))
end Y
end KMathL
section KMathM
set_option Elab.async false
set_option linter.all false
set_option maxRecDepth 100000
set_option maxHeartbeats 4000000
namespace Y
open PySem PySem.Spec PyProof.Rows XS
theorem gCatT_T (a b : List Ks) (h : a.length + b.length ≤ 100000) : gCatT (.d (encT a)) (.d (encT b)) = some (.d (encT (a ++ b))) := by
  unfold gCatT encT
  simp only [List.length_map, ← List.map_append, hot_keys]
  rw [if_pos ⟨le_lim h, trivial⟩]
theorem gCatT_G (a b : List Row) (h : a.length + b.length ≤ 100000) : gCatT (.d (encG a)) (.d (encG b)) = some (.d (encG (a ++ b))) := by
  unfold gCatT encG
  simp only [List.length_map, ← List.map_append, hot_rows]
  rw [if_pos ⟨le_lim h, trivial⟩]
theorem gSl_Gt (g : List Row) (k : Nat) : gSl (.d (encG g)) none (some (k : Int)) = some (.d (encG (g.take k))) := by
  show (if hotM (cutD (g.map encR) none (some (k : Int))) = false then some (W.d (.tuple (cutD (g.map encR) none (some (k : Int))))) else none) = _
  rw [cut_take, ← List.map_take, if_pos (hot_rows _)]
  rfl
theorem gSl_Gd (g : List Row) (k : Nat) : gSl (.d (encG g)) (some (k : Int)) none = some (.d (encG (g.drop k))) := by
  show (if hotM (cutD (g.map encR) (some (k : Int)) none) = false then some (W.d (.tuple (cutD (g.map encR) (some (k : Int)) none))) else none) = _
  rw [cut_drop, ← List.map_drop, if_pos (hot_rows _)]
  rfl
theorem rowOk_of {g : List Row} {ns : Ks} (G : Good g ns) {r : Row} (hr : r ∈ g) : RowOk ns r where
  l0 := (G.lots r hr).1
  lp := (G.lots r hr).2.1
  ll := (G.ok.lots r hr).1
  lm := fun l hl => ⟨(G.ok.lots r hr).2 l hl, (G.lots r hr).2.2 l hl⟩
  f0 := (G.fears r hr).1
  fp := (G.fears r hr).2.1
  fl := (G.ok.fears r hr).1
  fm := fun F hF => by
    have h1 := ((G.ok.fears r hr).2 F hF).filter (fun x => !decide (x ∈ [r.1]))
    have h2 : F.filter (fun x => !decide (x ∈ [r.1])) = F := List.filter_eq_self.mpr fun x hx => by
      have : x ≠ r.1 := fun e => (G.fears r hr).2.2 F hF (e ▸ hx)
      simpa using this
    rw [h2] at h1
    exact h1
theorem gTupD_T1 (k : Ks) : gTupD [.d (encX k)] = some (.d (encT [k])) := rfl
/-- one row put in place of another of its house -/
def putR (g : List Row) (i : Nat) (r : Row) : List Row := g.take i ++ [r] ++ g.drop (i + 1)
theorem putR_ok {g : List Row} {ns : Ks} (hF : Fam ns) (G : Good g ns) {i : Nat} (hi : i < g.length) {r : Row} (e : r.1 = g[i].1) (hr : RowOk ns r) : Good (putR g i r) ns := by
  refine good_of hF ?_ fun q hq => ?_
  · have h1 : houses (putR g i r) = houses (putR g i g[i]) := by
      unfold putR houses
      simp only [List.map_append, List.map_cons, List.map_nil, e]
    have h2 : putR g i g[i] = g := by
      unfold putR
      rw [List.append_assoc]
      show g.take i ++ (g[i] :: g.drop (i + 1)) = g
      rw [← List.drop_eq_getElem_cons hi, List.take_append_drop]
    rw [h1, h2]
    exact G.ok.nm
  · unfold putR at hq
    rcases List.mem_append.mp hq with m | m
    · rcases List.mem_append.mp m with m | m
      · exact rowOk_of G (List.mem_of_mem_take m)
      · rw [List.mem_singleton.mp m]; exact hr
    · exact rowOk_of G (List.mem_of_mem_drop m)
theorem gLen_G (g : List Row) : gLen [.d (encG g)] = some (wI g.length) := by
  unfold gLen encG
  simp only [List.length_map]
theorem gIx_G {g : List Row} {i : Nat} (h : i < g.length) : gIx (.d (encG g)) (wI (i : Int)) = some (.d (encR g[i])) := by
  show (if 0 ≤ (i : Int) then ((g.map encR)[(i : Int).toNat]?).map W.d else none) = _
  rw [if_pos (by omega), Int.toNat_natCast, List.getElem?_map, List.getElem?_eq_getElem h]
  rfl
theorem gTupD_G1 (r : Row) : gTupD [.d (encR r)] = some (.d (encG [r])) := rfl
theorem row_part {g : List Row} {ns : Ks} (G : Good g ns) (hF : Fam ns) {i : Nat} (hi : i < g.length) (f : Fd) : ∃ (r : Row) (f' : Fd) , (sIf (mT (m2 gEq (mCall fn_law_draw (mCons (mVar 0) (mCons (mDat (.int 2)) mNil))) (mDat (.int 0)))) (sSet 5 (mSl (mArgs gTuple (mCons (m1 gSortSet (m2 gCatT (mVar 5) (mArgs gTupD (mCons (mCall fn_law_any (mCons (mVar 0) (mCons (mSl (mCall fn_law_subsets (mCons (mVar 2) mNil)) (oAt (mDat (.int 1))) oNo) mNil))) mNil)))) mNil)) oNo (oAt (mDat (.int 4))))) (sSet 6 (mArgs gTupD (mCons (mCall fn_law_any (mCons (mVar 0) (mCons (mCall fn_law_subsets (mCons (mCall fn_law_less (mCons (mVar 2) (mCons (mArgs gTupD (mCons (mVar 4) mNil)) mNil))) mNil)) mNil))) mNil))))
    [.v .f, .v (.d (encG g)), .v (.d (encX ns)), .v (wI i), .v (.d (.str g[i].1)), .v (.d (encT g[i].2.1)), .v (.d (encT g[i].2.2))] f = some (.nx [.v .f, .v (.d (encG g)), .v (.d (encX ns)), .v (wI i), .v (.d (.str r.1)), .v (.d (encT r.2.1)), .v (.d (encT r.2.2))], f') ∧ r.1 = g[i].1 ∧ RowOk ns r := by
  have hn := (fam_len hF).2
  have n0 : ns ≠ [] := fun e => by have := (fam_len hF).1; rw [e] at this; simp at this
  have R := rowOk_of G (List.getElem_mem hi)
  obtain ⟨d, f1, e1, _, _⟩ := draw_ev f (n := 2) (by decide) (by decide)
  by_cases c : d = 0
  · obtain ⟨st, s0⟩ := subs_tail (ns := ns)
    have sl := subs_len hn
    have sl2 : ((subs ns).drop 1).length ≤ 16 := by rw [List.length_drop]; omega
    obtain ⟨x, f2, e2, hx⟩ := any_ev f1 (xs := ((subs ns).drop 1).map encX) (fun e => s0 n0 (List.map_eq_nil_iff.mp e)) (by rw [List.length_map]; omega)
    obtain ⟨k, hk, rfl⟩ := List.mem_map.mp hx
    have hA : ∀ l ∈ g[i].2.1 ++ [k], l.Sublist ns ∧ l ≠ [] := fun l hl => by
      rcases List.mem_append.mp hl with m | m
      · exact R.lm l m
      · rw [List.mem_singleton.mp m]; exact st k hk
    have la := sortU_few hn fun l hl => (hA l hl).1
    have rl := R.ll
    refine ⟨(g[i].1, (M.sortU (g[i].2.1 ++ [k])).take 4, g[i].2.2), f2, if_t (t_ev (m2_ev (call_ev (cons_ev rfl (cons_ev rfl nil_ev)) e1) rfl (by rw [c]; exact gEq_int 0 0))) (set_ev (sl_ev (args_ev (cons_ev (m1_ev (m2_ev rfl (args_ev (cons_ev (call_ev (cons_ev rfl (cons_ev (sl_ev (call_ev (cons_ev rfl nil_ev) (ev_subs (walk_key ns) hn)) (at_ev rfl) rfl (gSl_L (subs ns) 1)) nil_ev)) e2) nil_ev) (gTupD_T1 k)) (gCatT_T _ [k] (by simp only [List.length_cons, List.length_nil]; omega))) (gSort_T (by omega))) nil_ev) (gTuple_L _)) rfl (at_ev rfl) (gSl_T _ 4))), rfl, ?_, (M.sortU_sorted _).sublist (List.take_sublist _ _), Nat.le_trans (List.length_take_le _ _) (by decide), fun l hl => hA l ((M.sortU_mem _ _).mp (List.mem_of_mem_take hl)), R.f0, R.fp, R.fl, R.fm⟩
    have := sortU_ne (X := g[i].2.1 ++ [k]) (by simp)
    intro e
    cases h : M.sortU (g[i].2.1 ++ [k]) with
    | nil => exact this h
    | cons a b =>
      have e : (M.sortU (g[i].2.1 ++ [k])).take 4 = [] := e
      rw [h] at e
      simp at e
  · have hO : (less ns [g[i].1]).length ≤ 4 := Nat.le_trans (List.length_filter_le _ _) hn
    have sl := subs_len hO
    have s0 : subs (less ns [g[i].1]) ≠ [] := fun e => by
      have := subs_mem.mpr (List.nil_sublist (less ns [g[i].1]))
      rw [e] at this
      cases this
    obtain ⟨x, f2, e2, hx⟩ := any_ev f1 (xs := (subs (less ns [g[i].1])).map encX) (by simpa using s0) (by rw [List.length_map]; omega)
    obtain ⟨k, hk, rfl⟩ := List.mem_map.mp hx
    refine ⟨(g[i].1, g[i].2.1, [k]), f2, if_f (t_ev (m2_ev (call_ev (cons_ev rfl (cons_ev rfl nil_ev)) e1) rfl ((gEq_int d 0).trans (by rw [decide_eq_false c])))) (set_ev (args_ev (cons_ev (call_ev (cons_ev rfl (cons_ev (call_ev (cons_ev (call_ev (cons_ev rfl (cons_ev (args_ev (cons_ev rfl nil_ev) (gTupD_one _)) nil_ev)) (ev_lless (sm_sub hn (List.Sublist.refl _)))) nil_ev) (ev_subs (walk_key _) hO)) nil_ev)) e2) nil_ev) (gTupD_T1 k))), rfl, R.l0, R.lp, R.ll, R.lm, by simp, List.pairwise_singleton _ _, by simp, fun l hl => ?_⟩
    rw [List.mem_singleton.mp hl]
    exact subs_mem.mp hk
theorem near_ev (f : Fd) {g : List Row} {ns : Ks} (hF : Fam ns) (G : Good g ns) : ∃ (g' : List Row) (f' : Fd), fn_law_near [.f, .d (encG g), .d (encX ns)] f = some (.d (encG g'), f') ∧ Good g' ns := by
  have hn := fam_len hF
  have gl : g.length = ns.length := by rw [← G.ok.nm]; unfold houses; rw [List.length_map]
  obtain ⟨d, f1, e1, d0, d1⟩ := draw_ev f (n := g.length) (by omega) (by omega)
  obtain ⟨i, rfl⟩ : ∃ i : Nat, d = (i : Int) := ⟨d.toNat, by omega⟩
  have hi : i < g.length := by omega
  obtain ⟨r, f2, e2, re, rk⟩ := row_part G hF hi f1
  refine ⟨putR g i r, f2, fn_rt rfl (seq_ev (set_ev (call_ev (cons_ev rfl (cons_ev (args_ev (cons_ev rfl nil_ev) (gLen_G g)) nil_ev)) e1)) (seq_ev (tup_ev (m2_ev rfl rfl (gIx_G hi)) rfl) (seq_ev e2 (ret_ev (m2_ev (m2_ev (sl_ev rfl rfl (at_ev rfl) (gSl_Gt g i)) (args_ev (cons_ev (args_ev (cons_ev rfl (cons_ev rfl (cons_ev rfl nil_ev))) (gTupD_row r)) nil_ev) (gTupD_G1 r)) (gCatT_G (g.take i) [r] ?_)) (sl_ev rfl (at_ev (m2_ev rfl rfl (gAdd_int _ _))) rfl (gSl_Gd g (i + 1))) (gCatT_G (g.take i ++ [r]) (g.drop (i + 1)) ?_)))))), putR_ok hF G hi re rk⟩
  · simp only [List.length_take, List.length_cons, List.length_nil]; omega
  · simp only [List.length_append, List.length_take, List.length_cons, List.length_nil, List.length_drop]; omega
end Y
end KMathM
section KMathN
set_option Elab.async false
set_option linter.all false
set_option maxRecDepth 100000
set_option maxHeartbeats 4000000
namespace Y
open PySem PySem.Spec PyProof.Rows XS
def pI (a : List Int) : PyData := .tuple (a.map .int)
def motA : PyData := .tuple [encX ["off", "on"], encX ["lit"], .tuple [pI [0, 1], pI [0, 1]], .tuple [pI [0], pI [1]]]
def motB : PyData := .tuple [encX ["hold", "turn"], encX ["lit"], .tuple [pI [0, 1], pI [1, 0]], .tuple [pI [0], pI [1]]]
def motC : PyData := .tuple [encX ["no", "yes"], encX ["new", "still"], .tuple [pI [0, 1], pI [0, 1]], .tuple [pI [0, 5], pI [1, 5]]]
def motors : List PyData := [.tuple [motA, encX ["lit"]], .tuple [motB, encX ["lit"]], .tuple [motC, encX ["new"]]]
theorem motor_ev (f : Fd) : ∃ d f', fn_law_motor [.f] f = some (.d d, f') ∧ d ∈ motors := by
  obtain ⟨d, f1, e, m⟩ := any_ev f (xs := motors) (by decide) (by decide)
  refine ⟨d, f1, fn_rt rfl (seq_ev (set_ev (w := .d motA) (f' := f) ?_) (seq_ev (set_ev (w := .d motB) (f' := f) ?_) (seq_ev (set_ev (w := .d motC) (f' := f) ?_) (ret_ev (call_ev (cons_ev rfl (cons_ev (w := .d (.list motors)) (f1 := f) ?_ nil_ev)) e))))), m⟩
  all_goals rfl
end Y
end KMathN
section KMathO
set_option Elab.async false
set_option linter.all false
set_option maxRecDepth 100000
set_option maxHeartbeats 4000000
/-! The checks: names. -/
namespace Y
open PySem PySem.Spec PyProof.Rows XS
def Each {α : Type} (P : α → Prop) : List α → Prop
  | [] => True
  | x :: xs => P x ∧ Each P xs
theorem each_mem {α : Type} {P : α → Prop} : ∀ {l : List α}, Each P l → ∀ x ∈ l, P x
  | [], _, _, h => by cases h
  | y :: l, h, x, m => by
    rcases List.mem_cons.mp m with rfl | m
    · exact h.1
    · exact each_mem h.2 x m
theorem fam_sub {ns k : Ks} (hF : Fam ns) (h : k.Sublist ns) : ∃ a ∈ fams, k.Sublist a := by
  obtain ⟨a, ha, n, _, _, rfl⟩ := hF
  exact ⟨a, ha, h.trans (List.take_sublist _ _)⟩
theorem names_each {P : Ks → Prop} (h : Each (fun a => Each P (subs a)) fams) {ns k : Ks} (hF : Fam ns) (hk : k.Sublist ns) : P k := by
  obtain ⟨a, ha, h2⟩ := fam_sub hF hk
  exact each_mem (each_mem h a ha) k (subs_mem.mpr h2)
theorem name_each {P : Str → Prop} (h : Each (Each P) fams) {ns : Ks} {x : Str} (hF : Fam ns) (hx : x ∈ ns) : P x := by
  obtain ⟨a, ha, n, _, _, rfl⟩ := hF
  exact each_mem (each_mem h a ha) x (List.mem_of_mem_take hx)
theorem ev_name {ns : Ks} {x : Str} (hF : Fam ns) (hx : x ∈ ns) (f : Fd) : fn_is_name [.d (.str x)] f = some (wB true, f) :=
  name_each (P := fun x => ∀ f, fn_is_name [.d (.str x)] f = some (wB true, f)) (by refine ⟨⟨?_, ?_, ?_, ?_, trivial⟩, ⟨?_, ?_, ?_, ?_, trivial⟩, ⟨?_, ?_, ?_, ?_, trivial⟩, trivial⟩ <;> exact fun f => rfl) hF hx f
theorem ev_names {ns k : Ks} (hF : Fam ns) (hk : k.Sublist ns) (f : Fd) : fn_is_names [.d (encX k)] f = some (wB true, f) :=
  names_each (P := fun k => ∀ f, fn_is_names [.d (encX k)] f = some (wB true, f)) (by refine ⟨?_, ?_, ?_, trivial⟩ <;> (refine ⟨?_, ?_, ?_, ?_, ?_, ?_, ?_, ?_, ?_, ?_, ?_, ?_, ?_, ?_, ?_, ?_, trivial⟩ <;> exact fun f => rfl)) hF hk f
end Y
end KMathO
section KMathP
set_option Elab.async false
set_option linter.all false
set_option maxRecDepth 100000
set_option maxHeartbeats 4000000
namespace Y
open PySem PySem.Spec PyProof.Rows XS
theorem ev_names_among {ns k b : Ks} {w : W} (hF : Fam ns) (hk : k.Sublist ns) (hb : ∀ x ∈ k, x ∈ b) (hw : ∀ x, gIn (.d (.str x)) w = some (wB (decide (x ∈ b)))) (f : Fd) : fn_is_names_among [.d (encX k), w] f = some (wB true, f) := by
  have hl := sub_len (fam_len hF).2 hk
  refine fn_rt rfl (ret_ev (and_ev (c := true) (d := true) (call_ev (cons_ev rfl nil_ev) (ev_names hF hk f)) fun _ => args_ev (cons_ev (lc_ev (it_ev rfl (walk_key k)) (lc_all k (q := fun x => .bool (decide (x ∈ b))) (fun x hx => ⟨_, rfl, m2_ev rfl rfl (hw x)⟩) (small (by omega)))) nil_ev) ?_))
  rw [gAll_map]
  congr 2
  rw [List.all_eq_true.mpr]
  exact fun x hx => decide_eq_true (hb x hx)
theorem gSl_Td (X : List Ks) (k : Nat) : gSl (.d (encT X)) (some (k : Int)) none = some (.d (encT (X.drop k))) := by
  show (if hotM (cutD (X.map encX) (some (k : Int)) none) = false then some (W.d (.tuple (cutD (X.map encX) (some (k : Int)) none))) else none) = _
  rw [cut_drop, ← List.map_drop, if_pos (hot_keys _)]
  rfl
theorem gLt_key (a b : Ks) : gLt (.d (encX a)) (.d (encX b)) = some (wB (M.tLt a b)) := by
  unfold gLt
  have h : isNone (encX a) = false := rfl
  simp only [pair_key, h, Bool.not_false, Bool.and_self, if_true, encX_lt]
theorem zip_next {α : Type} {R : α → α → Prop} : ∀ {l : List α}, l.Pairwise R → ∀ p ∈ l.zip (l.drop 1), R p.1 p.2
  | [], _, _, m => by cases m
  | [_], _, _, m => by cases m
  | x :: y :: l, h, p, m => by
    have m : p ∈ (x, y) :: (y :: l).zip ((y :: l).drop 1) := m
    rcases List.mem_cons.mp m with rfl | m
    · exact (List.pairwise_cons.mp h).1 y List.mem_cons_self
    · exact zip_next (List.pairwise_cons.mp h).2 p m
theorem zW_T (X Y : List Ks) : zW (X.map encX) (Y.map encX) = (X.zip Y).map fun p => W.d (.tuple [encX p.1, encX p.2]) := by
  unfold zW
  rw [List.zipWith_map, List.zip, List.map_zipWith]
theorem ev_rising_T {X : List Ks} (h : X.Pairwise M.LtT) (hl : X.length ≤ 16) (f : Fd) : fn_are_rising [.d (encT X)] f = some (wB true, f) := by
  have hz : (X.zip (X.drop 1)).length ≤ 16 := by rw [List.length_zip]; omega
  refine fn_rt rfl (ret_ev (args_ev (cons_ev (lc_ev (ws := (X.zip (X.drop 1)).map fun p => W.d (.tuple [encX p.1, encX p.2])) (f1 := f) ?_ (lc_all (X.zip (X.drop 1)) (q := fun p => .bool (M.tLt p.1 p.2)) (fun p hp => ⟨_, rfl, m2_ev rfl rfl (gLt_key p.1 p.2)⟩) (small hz))) nil_ev) ?_))
  · unfold mZip
    rw [cons_ev rfl (cons_ev (sl_ev rfl (at_ev rfl) rfl (gSl_Td X 1)) nil_ev)]
    exact congrArg (fun z => some (z, f)) (zW_T X (X.drop 1))
  · rw [gAll_map]
    congr 2
    rw [List.all_eq_true.mpr]
    exact fun p hp => zip_next h p hp
theorem ev_sets_among {ns b : Ks} {X : List Ks} {w : W} (hF : Fam ns) (x0 : X ≠ []) (h : X.Pairwise M.LtT) (hl : X.length ≤ 16) (hk : ∀ k ∈ X, k.Sublist ns) (hb : ∀ k ∈ X, ∀ x ∈ k, x ∈ b) (hw : ∀ x, gIn (.d (.str x)) w = some (wB (decide (x ∈ b)))) (f : Fd) : fn_are_sets_among [.d (encT X), w] f = some (wB true, f) := by
  have hlen : decide ((X.length : Int) = 0) = false := decide_eq_false fun e => x0 (List.length_eq_zero_iff.mp (by omega))
  refine fn_rt rfl (seq_ev (if_f (o_ev (c := false) (d := false) (no_ev (c := true) (t_ev (m1_ev rfl rfl))) fun _ => t_ev (m2_ev (args_ev (cons_ev rfl nil_ev) (gLen_T X)) rfl ((gEq_int _ _).trans (by rw [hlen])))) rfl) (ret_ev (and_ev (c := true) (d := true) (args_ev (cons_ev (lc_ev (it_ev rfl (walk_T X)) (lc_all X (q := fun _ => .bool true) (fun k hk2 => ⟨_, rfl, call_ev (cons_ev rfl (cons_ev rfl nil_ev)) (ev_names_among hF (hk k hk2) (hb k hk2) hw f)⟩) (small hl))) nil_ev) ?_) fun _ => call_ev (cons_ev rfl nil_ev) (ev_rising_T h hl f))))
  rw [gAll_map]
  congr 2
  exact List.all_eq_true.mpr fun _ _ => rfl
theorem ev_triple {ns : Ks} {r : Row} (hF : Fam ns) (h : r.1 ∈ ns) (f : Fd) : fn_is_triple_from [.d (encR r)] f = some (wB true, f) :=
  fn_rt rfl (ret_ev (and_ev (c := true) (d := true) (call_ev (cons_ev rfl (cons_ev rfl nil_ev)) (by rfl)) fun _ => call_ev (cons_ev (m2_ev rfl rfl rfl) nil_ev) (ev_name hF h f)))
end Y
end KMathP
section KMathQ
set_option Elab.async false
set_option linter.all false
set_option maxRecDepth 100000
set_option maxHeartbeats 4000000
namespace Y
open PySem PySem.Spec PyProof.Rows XS
theorem enW_map {α : Type} (e : α → PyData) : ∀ (k : Nat) (xs : List α), enW k (xs.map e) = (xs.zipIdx k).map fun p => W.d (.tuple [.int ((p.2 : Nat) : Int), e p.1])
  | _, [] => rfl
  | k, x :: xs => by
    show W.d (.tuple [.int (k : Nat), e x]) :: enW (k + 1) (xs.map e) = _
    rw [enW_map e (k + 1) xs, List.zipIdx_cons]
    rfl
theorem enum_G (g : List Row) {i : Nat} {ρ : En} {f : Fd} (h : mVar i ρ f = some (.d (encG g), f)) : mEnum (mCons (mVar i) mNil) ρ f = some ((g.zipIdx 0).map fun p => W.d (.tuple [.int ((p.2 : Nat) : Int), encR p.1]), f) := by
  unfold mEnum
  rw [cons_ev h nil_ev]
  exact congrArg (fun z => some (z, f)) (enW_map encR 0 g)
theorem memOf_key (x : Ks) : ∀ b : List Ks, memOf (encX x) (b.map encX) = decide (x ∈ b)
  | [] => by simp [memOf]
  | y :: b => by
    have ih := memOf_key x b
    unfold memOf at ih ⊢
    rw [List.map_cons, List.any_cons, ih, eqv_key]
    by_cases h : y = x
    · simp [h]
    · have : x ≠ y := fun e => h e.symm
      simp [h, this]
theorem gIn_T (x : Ks) (X : List Ks) : gIn (.d (encX x)) (.d (encT X)) = some (wB (decide (x ∈ X))) := by
  have h : memOk (encX x) (X.map encX) = true := by
    unfold memOk
    have : ((X.map encX).all fun y => pairOk y (encX x)) = true := List.all_eq_true.mpr fun y hy => by
      obtain ⟨k, _, rfl⟩ := List.mem_map.mp hy
      exact pair_key k x
    rw [this, Bool.or_true]
  unfold gIn encT
  simp only [h, if_true, memOf_key]
theorem gIn_nil_T (X : List Ks) : gIn (.d (.tuple [])) (.d (encT X)) = some (wB (decide ([] ∈ X))) := gIn_T [] X
theorem fault_body {g : List Row} {ns : Ks} (G : Good g ns) (hF : Fam ns) {r : Row} (hr : r ∈ g) {s2 s3 : Slot} (f : Fd) :
    (sSeq (sIf (tO (tNo (mT (mCall fn_are_sets_among (mCons (mVar 5) (mCons (mVar 1) mNil))))) ((mT (m2 gIn (mArgs gTupD mNil) (mVar 5))))) (sNo) sNil) (sIf (tNo (mT (mCall fn_are_sets_among (mCons (mVar 6) (mCons (mLc [7] (mIt (mVar 1)) (gSet 7) (mT (m2 gNe (mVar 7) (mVar 4))) (bOne (mVar 7))) mNil))))) (sNo) sNil))
      [.v (.d (encG g)), .v (.d (.list (ns.map .str))), s2, s3, .v (.d (.str r.1)), .v (.d (encT r.2.1)), .v (.d (encT r.2.2)), .un] f = some (.nx [.v (.d (encG g)), .v (.d (.list (ns.map .str))), s2, s3, .v (.d (.str r.1)), .v (.d (encT r.2.1)), .v (.d (encT r.2.2)), .un], f) := by
  have R := rowOk_of G hr
  have hn := (fam_len hF).2
  have n0 : decide ([] ∈ r.2.1) = false := decide_eq_false fun m => (R.lm [] m).2 rfl
  refine seq_ev (if_f (o_ev (c := false) (d := false) (no_ev (c := true) (t_ev (call_ev (cons_ev rfl (cons_ev rfl nil_ev)) (ev_sets_among hF R.l0 R.lp R.ll (fun k hk => (R.lm k hk).1) (fun k hk x hx => ((R.lm k hk).1).subset hx) (fun x => gIn_S x ns) f)))) fun _ => t_ev (m2_ev (args_ev nil_ev rfl) rfl ((gIn_nil_T _).trans (by rw [n0])))) rfl) (if_f (no_ev (c := true) (t_ev (call_ev (cons_ev rfl (cons_ev (lc_ev (it_ev rfl (walk_S ns)) (lc_fil ns (p := fun x => !decide (x = r.1)) (q := fun x => .str x) (fun x hx => ⟨_, rfl, t_ev (m2_ev rfl rfl (gNe_str x r.1)), fun _ => rfl⟩) (small (by omega)))) nil_ev)) (ev_sets_among (b := ns.filter fun x => !decide (x = r.1)) hF R.f0 R.fp R.fl (fun k hk => (R.fm k hk).trans less_sub) (fun k hk x hx => ?_) (fun x => gIn_S x _) f)))) rfl)
  have := less_mem.mp ((R.fm k hk).subset hx)
  refine List.mem_filter.mpr ⟨this.1, ?_⟩
  have h2 : x ≠ r.1 := fun e => this.2 (List.mem_singleton.mpr e)
  simpa using h2
end Y
end KMathQ
section KMathR
set_option Elab.async false
set_option linter.all false
set_option maxRecDepth 100000
set_option maxHeartbeats 4000000
namespace Y
open PySem PySem.Spec PyProof.Rows XS
theorem gLeS_f {x y : Str} (h : M.sLt y x = true) : gLeS (.d (.str x)) (.d (.str y)) = some (wB false) := by
  unfold gLeS
  have : y.cps.toList < x.cps.toList := by simpa [M.sLt] using h
  simp [this]
theorem fault_loop2 {g : List Row} {ns : Ks} (G : Good g ns) (hF : Fam ns) {s2 s3 : Slot} (f : Fd) : ∃ ρ', sFor (mEnum (mCons (mVar 0) mNil)) (gTupM 2 (gsCons (gSet 2) (gsCons (gTupM 3 (gsCons (gSet 4) (gsCons (gSet 5) (gsCons (gSet 6) gsNil)))) gsNil))) (sSeq (sIf (tO (tNo (mT (mCall fn_are_sets_among (mCons (mVar 5) (mCons (mVar 1) mNil))))) ((mT (m2 gIn (mArgs gTupD mNil) (mVar 5))))) (sNo) sNil) (sIf (tNo (mT (mCall fn_are_sets_among (mCons (mVar 6) (mCons (mLc [7] (mIt (mVar 1)) (gSet 7) (mT (m2 gNe (mVar 7) (mVar 4))) (bOne (mVar 7))) mNil))))) (sNo) sNil))
      [.v (.d (encG g)), .v (.d (.list (ns.map .str))), s2, s3, .un, .un, .un, .un] f = some (.nx ρ', f) := by
  obtain ⟨ρ', f', e, ⟨rfl, _⟩⟩ := forGo_all (g := gTupM 2 (gsCons (gSet 2) (gsCons (gTupM 3 (gsCons (gSet 4) (gsCons (gSet 5) (gsCons (gSet 6) gsNil)))) gsNil))) (b := (sSeq (sIf (tO (tNo (mT (mCall fn_are_sets_among (mCons (mVar 5) (mCons (mVar 1) mNil))))) ((mT (m2 gIn (mArgs gTupD mNil) (mVar 5))))) (sNo) sNil) (sIf (tNo (mT (mCall fn_are_sets_among (mCons (mVar 6) (mCons (mLc [7] (mIt (mVar 1)) (gSet 7) (mT (m2 gNe (mVar 7) (mVar 4))) (bOne (mVar 7))) mNil))))) (sNo) sNil)))
    (g.zipIdx 0) (ew := fun p => W.d (.tuple [.int ((p.2 : Nat) : Int), encR p.1])) (fun _ ρ f' => f' = f ∧ ∃ t2 t3 t4 t5 t6, ρ = [.v (.d (encG g)), .v (.d (.list (ns.map .str))), t2, t3, t4, t5, t6, .un])
    (ρ := [.v (.d (encG g)), .v (.d (.list (ns.map .str))), s2, s3, .un, .un, .un, .un]) (f := f) ⟨rfl, _, _, _, _, _, rfl⟩ fun pre p post e ρ f' ⟨ef, t2, t3, t4, t5, t6, eρ⟩ => by
      subst ef eρ
      have hp : p.1 ∈ g := by
        have : p ∈ g.zipIdx 0 := by rw [e]; simp
        exact List.fst_mem_of_mem_zipIdx this
      exact ⟨[.v (.d (encG g)), .v (.d (.list (ns.map .str))), .v (wI ((p.2 : Nat) : Int)), t3, .v (.d (.str p.1.1)), .v (.d (encT p.1.2.1)), .v (.d (encT p.1.2.2)), .un], _, f', rfl, fault_body G hF hp f', rfl, ⟨_, _, _, _, _, rfl⟩⟩
  exact ⟨ρ', for_ev (enum_G g rfl) e⟩
theorem fault_loop1 {g : List Row} {ns : Ks} (G : Good g ns) (hF : Fam ns) (f : Fd) : ∃ s2 s3, sFor (mEnum (mCons (mVar 0) mNil)) (gTupM 2 (gsCons (gSet 2) (gsCons (gSet 3) gsNil))) (sIf (tO (tNo (mT (mCall fn_is_triple_from (mCons (mVar 3) mNil)))) ((tAn (mT (m2 gGtI (mVar 2) (mDat (.int 0)))) ((mT (m2 gLeS (m2 gIx (mVar 3) (mDat (.int 0))) (m2 gIx (m2 gIx (mVar 0) (m2 gSub (mVar 2) (mDat (.int 1)))) (mDat (.int 0))))))))) (sNo) sNil)
      [.v (.d (encG g)), .un, .un, .un, .un, .un, .un, .un] f = some (.nx [.v (.d (encG g)), .un, s2, s3, .un, .un, .un, .un], f) := by
  obtain ⟨ρ', f', e, ⟨rfl, s2, s3, rfl⟩⟩ := forGo_all (g := gTupM 2 (gsCons (gSet 2) (gsCons (gSet 3) gsNil))) (b := (sIf (tO (tNo (mT (mCall fn_is_triple_from (mCons (mVar 3) mNil)))) ((tAn (mT (m2 gGtI (mVar 2) (mDat (.int 0)))) ((mT (m2 gLeS (m2 gIx (mVar 3) (mDat (.int 0))) (m2 gIx (m2 gIx (mVar 0) (m2 gSub (mVar 2) (mDat (.int 1)))) (mDat (.int 0))))))))) (sNo) sNil))
    (g.zipIdx 0) (ew := fun p => W.d (.tuple [.int ((p.2 : Nat) : Int), encR p.1])) (fun _ ρ f' => f' = f ∧ ∃ t2 t3, ρ = [.v (.d (encG g)), .un, t2, t3, .un, .un, .un, .un])
    (ρ := [.v (.d (encG g)), .un, .un, .un, .un, .un, .un, .un]) (f := f) ⟨rfl, _, _, rfl⟩ fun pre p post e ρ f' ⟨ef, t2, t3, eρ⟩ => by
      subst ef eρ
      have hm : p ∈ g.zipIdx 0 := by rw [e]; simp
      have hp : p.1 ∈ g := List.fst_mem_of_mem_zipIdx hm
      have hn : p.1.1 ∈ ns := by rw [← G.ok.nm]; exact List.mem_map.mpr ⟨_, hp, rfl⟩
      refine ⟨[.v (.d (encG g)), .un, .v (wI ((p.2 : Nat) : Int)), .v (.d (encR p.1)), .un, .un, .un, .un], _, f', rfl, if_f (o_ev (c := false) (d := false) (no_ev (c := true) (t_ev (call_ev (cons_ev rfl nil_ev) (ev_triple hF hn f')))) fun _ => ?_) rfl, rfl, ⟨_, _, rfl⟩⟩
      have key : decide (0 < ((p.2 : Nat) : Int)) = true → (mT (m2 gLeS (m2 gIx (mVar 3) (mDat (.int 0))) (m2 gIx (m2 gIx (mVar 0) (m2 gSub (mVar 2) (mDat (.int 1)))) (mDat (.int 0))))) [.v (.d (encG g)), .un, .v (wI ((p.2 : Nat) : Int)), .v (.d (encR p.1)), .un, .un, .un, .un] f' = some (false, f') := fun hc => by
        have h0 := of_decide_eq_true hc
        obtain ⟨x, n⟩ := p
        obtain ⟨q, rfl⟩ : ∃ q, n = q + 1 := ⟨n - 1, by simp only at h0; omega⟩
        have hx := List.mem_zipIdx_iff_getElem?.mp hm
        have hq : q + 1 < g.length := (List.getElem?_eq_some_iff.mp hx).1
        have ex : g[q + 1] = x := (List.getElem?_eq_some_iff.mp hx).2
        have so := G.ok.so
        rw [← G.ok.nm] at so
        have lt : M.sLt (g[q]'(by omega)).1 x.1 = true := by
          have := List.pairwise_iff_getElem.mp (List.pairwise_map.mp so) q (q + 1) (by omega) hq (by omega)
          rw [ex] at this
          exact this
        exact t_ev (m2_ev (m2_ev rfl rfl rfl) (m2_ev (m2_ev rfl (m2_ev (w := wI (q : Int)) rfl rfl (by show some (wI (((q + 1 : Nat) : Int) - 1)) = _; congr 2; omega)) (gIx_G (i := q) (by omega))) rfl rfl) (gLeS_f lt))
      have := an_ev (c := decide (0 < ((p.2 : Nat) : Int))) (d := false) (mt := mT (m2 gGtI (mVar 2) (mDat (.int 0)))) (t_ev (m2_ev rfl rfl rfl)) key
      rw [Bool.and_false] at this
      exact this
  exact ⟨s2, s3, for_ev (enum_G g rfl) e⟩
end Y
end KMathR
section KMathS
set_option Elab.async false
set_option linter.all false
set_option maxRecDepth 100000
set_option maxHeartbeats 4000000
namespace Y
open PySem PySem.Spec PyProof.Rows XS
theorem ev_fault {g : List Row} {ns : Ks} (G : Good g ns) (hF : Fam ns) (f : Fd) : fn_trust_fault [.d (encG g)] f = some (.d .none, f) := by
  have gl : g.length = ns.length := by rw [← G.ok.nm]; unfold houses; rw [List.length_map]
  have hl := fam_len hF
  obtain ⟨s2, s3, e1⟩ := fault_loop1 G hF f
  obtain ⟨ρ', e2⟩ := fault_loop2 (s2 := s2) (s3 := s3) G hF f
  have hz : decide ((g.length : Int) = 0) = false := decide_eq_false (by omega)
  refine fn_rt rfl (seq_ev (if_f (o_ev (c := false) (d := false) (no_ev (c := true) (t_ev (m1_ev rfl rfl))) fun _ => t_ev (m2_ev (args_ev (cons_ev rfl nil_ev) (gLen_G g)) rfl ((gEq_int _ _).trans (by rw [hz])))) rfl) (seq_ev e1 (seq_ev (set_ev (w := .d (.list (ns.map .str))) (f' := f) ?_) (seq_ev e2 (ret_ev rfl)))))
  have := lc_all (g := gSet 3) (te := m2 gIx (mVar 3) (mDat (.int 0))) (ρ := cl [3] [.v (.d (encG g)), .un, s2, s3, .un, .un, .un, .un]) (f := f) g (ew := fun r => W.d (encR r)) (q := fun r => .str r.1) (fun r hr => ⟨_, rfl, m2_ev rfl rfl rfl⟩) (small (by omega))
  have h2 := lc_ev (vs := [3]) (it_ev (ma := mVar 0) (f := f) (f' := f) rfl (walk_G g)) this
  have h3 : g.map (fun r => PyData.str r.1) = ns.map .str := by rw [← G.ok.nm]; unfold houses; rw [List.map_map]; rfl
  rw [h3] at h2
  exact h2
theorem ev_trust {g : List Row} {ns : Ks} (G : Good g ns) (hF : Fam ns) (f : Fd) : fn_is_trust [.d (encG g)] f = some (wB true, f) :=
  fn_rt rfl (ret_ev (m2_ev (call_ev (cons_ev rfl nil_ev) (ev_fault G hF f)) rfl rfl))
end Y
end KMathS
section KMathT
set_option Elab.async false
set_option linter.all false
set_option maxRecDepth 100000
set_option maxHeartbeats 4000000
namespace Y
open PySem PySem.Spec PyProof.Rows XS
theorem ev_want {w1 w2 : W} (f : Fd) : fn_want [wB true, w1, w2] f = some (.d .none, f) :=
  fn_nx rfl (if_f (no_ev (c := true) (t_ev rfl)) rfl)
theorem ev_want_trust {g : List Row} {ns : Ks} (G : Good g ns) (hF : Fam ns) (w : W) (f : Fd) : fn_want_trust [.d (encG g), w] f = some (.d .none, f) :=
  fn_nx rfl (drop_ev (callD_ev (cons_ev (call_ev (cons_ev rfl nil_ev) (ev_trust G hF f)) (cons_ev rfl nil_ev)) (ev_want f)))
theorem ev_hs {g : List Row} {ns : Ks} (G : Good g ns) (hF : Fam ns) (f : Fd) : fn_houses_in [.d (encG g)] f = some (.d (encX ns), f) := by
  have hl := fam_len hF
  have gl : g.length = ns.length := by rw [← G.ok.nm]; unfold houses; rw [List.length_map]
  have := ev_houses (g := g) (f := f) (by omega)
  rw [G.ok.nm] at this
  exact this
theorem ev_house_of {g : List Row} {ns : Ks} (G : Good g ns) (hF : Fam ns) {h : Str} (hh : h ∈ ns) (f : Fd) : fn_is_house_of [.d (encG g), .d (.str h)] f = some (wB true, f) :=
  fn_rt rfl (ret_ev (call_ev (cons_ev rfl (cons_ev (call_ev (cons_ev rfl nil_ev) (ev_hs G hF f)) nil_ev)) (fn_rt rfl (ret_ev (and_ev (c := true) (d := true) (m1_ev rfl rfl) fun _ => m2_ev rfl rfl ((gIn_key h ns).trans (by rw [decide_eq_true hh])))))))
theorem ev_want_house {g : List Row} {ns : Ks} (G : Good g ns) (hF : Fam ns) {h : Str} (hh : h ∈ ns) (w : W) (f : Fd) : fn_want_house [.d (encG g), .d (.str h), w] f = some (.d .none, f) :=
  fn_nx rfl (drop_ev (callD_ev (cons_ev (call_ev (cons_ev rfl (cons_ev rfl nil_ev)) (ev_house_of G hF hh f)) (cons_ev rfl nil_ev)) (ev_want f)))
theorem ev_want_lot {g : List Row} {ns : Ks} (G : Good g ns) (hF : Fam ns) {k : Ks} (hk : k.Sublist ns) (w : W) (f : Fd) : fn_want_lot [.d (encG g), .d (encX k), w] f = some (.d .none, f) :=
  fn_nx rfl (drop_ev (callD_ev (cons_ev (call_ev (cons_ev rfl (cons_ev rfl nil_ev)) (fn_rt rfl (ret_ev (call_ev (cons_ev rfl (cons_ev (call_ev (cons_ev rfl nil_ev) (ev_hs G hF f)) nil_ev)) (ev_names_among hF hk (fun x hx => hk.subset hx) (fun x => gIn_key x ns) f))))) (cons_ev rfl nil_ev)) (ev_want f)))
theorem ev_want_trusts {g o : List Row} {ns : Ks} (G : Good g ns) (O : Good o ns) (hF : Fam ns) (f : Fd) : fn_want_trusts [.d (encG g), .d (encG o)] f = some (.d .none, f) :=
  fn_nx rfl (seq_ev (drop_ev (callD_ev (cons_ev rfl nil_ev) (ev_want_trust G hF _ f))) (drop_ev (callD_ev (cons_ev (and_ev (c := true) (d := true) (call_ev (cons_ev rfl nil_ev) (ev_trust O hF f)) fun _ => m2_ev (call_ev (cons_ev rfl nil_ev) (ev_hs G hF f)) (call_ev (cons_ev rfl nil_ev) (ev_hs O hF f)) ((gEq_key ns ns).trans (by rw [decide_eq_true rfl]))) (cons_ev rfl nil_ev)) (ev_want f))))
end Y
end KMathT
section KMathU
set_option Elab.async false
set_option linter.all false
set_option maxRecDepth 100000
set_option maxHeartbeats 4000000
namespace Y
open PySem PySem.Spec PyProof.Rows XS
theorem ev_needs_of {g : List Row} {ns : Ks} (G : Good g ns) (hF : Fam ns) {h : Str} (hh : h ∈ ns) (f : Fd) : fn_needs_of [.d (encG g), .d (.str h)] f = some (.d (encT (needs g h)), f) :=
  fn_rt rfl (seq_ev (drop_ev (callD_ev (cons_ev rfl nil_ev) (ev_want_trust G hF _ f))) (seq_ev (drop_ev (callD_ev (cons_ev rfl (cons_ev rfl nil_ev)) (ev_want_house G hF hh _ f))) (ret_ev (call_ev (cons_ev rfl (cons_ev rfl nil_ev)) (ev_needs G.ok hh)))))
theorem ev_alike {g o : List Row} {ns : Ks} (G : Good g ns) (O : Good o ns) (hF : Fam ns) (f : Fd) : fn_trusts_alike [.d (encG g), .d (encG o)] f = some (wB (ns.all fun h => decide (needs g h = needs o h)), f) :=
  fn_rt rfl (seq_ev (drop_ev (call_ev (cons_ev rfl (cons_ev rfl nil_ev)) (ev_want_trusts G O hF f))) (ret_ev (args_ev (cons_ev (lc_ev (it_ev (call_ev (cons_ev rfl nil_ev) (ev_hs G hF f)) (walk_key ns)) (lc_all ns (q := fun h => .bool (decide (needs g h = needs o h))) (fun h hh => ⟨_, rfl, m2_ev (call_ev (cons_ev rfl (cons_ev rfl nil_ev)) (ev_needs G.ok hh)) (call_ev (cons_ev rfl (cons_ev rfl nil_ev)) (ev_needs O.ok hh)) (gEq_T _ _)⟩) (small (by have := (fam_len hF).2; omega)))) nil_ev) (gAll_map _ _))))
theorem ev_least_lots {g : List Row} {ns : Ks} (G : Good g ns) (hF : Fam ns) {h : Str} (hh : h ∈ ns) (f : Fd) : fn_least_lots [.d (encG g), .d (.str h)] f = some (.d (encT (crosses (needs g h))), f) :=
  fn_rt rfl (seq_ev (drop_ev (callD_ev (cons_ev rfl nil_ev) (ev_want_trust G hF _ f))) (seq_ev (drop_ev (callD_ev (cons_ev rfl (cons_ev rfl nil_ev)) (ev_want_house G hF hh _ f))) (ret_ev (call_ev (cons_ev (call_ev (cons_ev rfl (cons_ev rfl nil_ev)) (ev_needs G.ok hh)) nil_ev) (ev_crosses (fam_so hF) (fam_len hF).2 (needs_sub G.ok))))))
theorem ev_meets_needs {g : List Row} {ns k : Ks} (G : Good g ns) (hF : Fam ns) {h : Str} (hh : h ∈ ns) (hk : k.Sublist ns) (f : Fd) : fn_meets_needs [.d (encG g), .d (.str h), .d (encX k)] f = some (wB (meets (needs g h) k), f) :=
  fn_rt rfl (seq_ev (drop_ev (callD_ev (cons_ev rfl nil_ev) (ev_want_trust G hF _ f))) (seq_ev (drop_ev (callD_ev (cons_ev rfl (cons_ev rfl nil_ev)) (ev_want_house G hF hh _ f))) (seq_ev (drop_ev (callD_ev (cons_ev rfl (cons_ev rfl nil_ev)) (ev_want_lot G hF hk _ f))) (ret_ev (call_ev (cons_ev (call_ev (cons_ev rfl (cons_ev rfl nil_ev)) (ev_needs G.ok hh)) (cons_ev rfl nil_ev)) (ev_met (by have := needs_few G.ok (h := h); omega) fun n hn => sm_sub (fam_len hF).2 (needs_sub G.ok n hn)))))))
end Y
end KMathU
section KMathV
set_option Elab.async false
set_option linter.all false
set_option maxRecDepth 100000
set_option maxHeartbeats 4000000
namespace Y
open PySem PySem.Spec PyProof.Rows XS
/-- a loop that leaves at the first item for which r tells something -/
theorem forGo_some {α : Type} {g : MG} {b : MS} {f : Fd} {ew : α → W} {r : α → Option W} (P : En → Prop) :
    ∀ (xs : List α), (∀ x ∈ xs, ∀ ρ, P ρ → ∃ ρ1, g (ew x) ρ = some ρ1 ∧ (∀ w, r x = some w → b ρ1 f = some (.rt w, f)) ∧ (r x = none → ∃ ρ2, b ρ1 f = some (.nx ρ2, f) ∧ P ρ2)) → ∀ ρ, P ρ →
      (∀ w, xs.findSome? r = some w → forGo g b (xs.map ew) ρ f = some (.rt w, f)) ∧ (xs.findSome? r = none → ∃ ρ', forGo g b (xs.map ew) ρ f = some (.nx ρ', f) ∧ P ρ')
  | [], _, ρ, hP => ⟨fun w e => (nomatch e), fun _ => ⟨ρ, rfl, hP⟩⟩
  | x :: xs, hs, ρ, hP => by
    obtain ⟨ρ1, h1, h2, h3⟩ := hs x List.mem_cons_self ρ hP
    cases e : r x with
    | some w =>
      refine ⟨fun v ev => ?_, fun ev => ?_⟩
      · rw [List.findSome?_cons, e] at ev
        cases ev
        simp only [List.map_cons, forGo, h1, h2 w e, Option.bind_some]
      · rw [List.findSome?_cons, e] at ev
        cases ev
    | none =>
      obtain ⟨ρ2, h4, h5⟩ := h3 e
      obtain ⟨i1, i2⟩ := forGo_some P xs (fun y hy => hs y (List.mem_cons_of_mem _ hy)) ρ2 h5
      refine ⟨fun v ev => ?_, fun ev => ?_⟩
      · rw [List.findSome?_cons, e] at ev
        simp only [List.map_cons, forGo, h1, h4, Option.bind_some]
        exact i1 v ev
      · rw [List.findSome?_cons, e] at ev
        simp only [List.map_cons, forGo, h1, h4, Option.bind_some]
        exact i2 ev
end Y
end KMathV
section KMathW
set_option Elab.async false
set_option linter.all false
set_option maxRecDepth 100000
set_option maxHeartbeats 4000000
namespace Y
open PySem PySem.Spec PyProof.Rows XS
def partX (N L : List Ks) : Option Ks := (crosses N ++ crosses L).find? fun k => meets N k != meets L k
def partG (g o : List Row) (ns : Ks) : Option (Str × Ks) := ns.findSome? fun h => (partX (needs g h) (needs o h)).map fun k => (h, k)
theorem gNe_bool (a b : Bool) : gNe (wB a) (wB b) = some (wB (a != b)) := by cases a <;> cases b <;> rfl
theorem datas_map {α : Type} (q : α → PyData) : ∀ k : List α, datas (k.map fun x => W.d (q x)) = some (k.map q)
  | [] => rfl
  | x :: k => by
    show (datas (k.map fun x => W.d (q x))).map (q x :: ·) = _
    rw [datas_map q k]
    rfl
theorem crosses_few {ns : Ks} (so : ns.Pairwise fun a b => M.sLt a b = true) (len : ns.length ≤ 4) {N : List Ks} (hN : ∀ n ∈ N, n.Sublist ns) : (∀ k ∈ crosses N, k.Sublist ns) ∧ (crosses N).length ≤ 16 := by
  have e := crosses_crossed (sorted_nd so) so hN
  rw [e]
  have hs : ∀ k ∈ (subs ns).filter (fun s => meets N s), k.Sublist ns := fun k hk => subs_mem.mp (List.mem_filter.mp hk).1
  exact ⟨fun k hk => hs k (least_sub hk), least_few len hs⟩
theorem part_inner {g o : List Row} {ns : Ks} (G : Good g ns) (O : Good o ns) (hF : Fam ns) {h : Str} {s3 : Slot} (f : Fd) :
    let ρ : En := [.v (.d (encG g)), .v (.d (encG o)), .v (.d (.str h)), s3, .v (.d (encT (needs g h))), .v (.d (encT (needs o h)))]
    let b := sFor (mIt (mArgs gLstD (mStar (mCall fn_crossings_by (mCons (mVar 4) mNil)) (mStar (mCall fn_crossings_by (mCons (mVar 5) mNil)) mNil)))) (gSet 3) (sIf (mT (m2 gNe (mCall fn_is_met (mCons (mVar 4) (mCons (mVar 3) mNil))) (mCall fn_is_met (mCons (mVar 5) (mCons (mVar 3) mNil))))) (sRet (mArgs gTupD (mCons (mVar 2) (mCons (mVar 3) mNil)))) sNil)
    (∀ k, partX (needs g h) (needs o h) = some k → b ρ f = some (.rt (.d (.tuple [.str h, encX k])), f)) ∧ (partX (needs g h) (needs o h) = none → ∃ t3, b ρ f = some (.nx [.v (.d (encG g)), .v (.d (encG o)), .v (.d (.str h)), t3, .v (.d (encT (needs g h))), .v (.d (encT (needs o h)))], f)) := by
  intro ρ b
  have e1 := ev_crosses (f := f) (fam_so hF) (fam_len hF).2 (needs_sub G.ok (h := h))
  have e2 := ev_crosses (f := f) (fam_so hF) (fam_len hF).2 (needs_sub O.ok (h := h))
  have q1 : ∀ s, fn_is_met [.d (encT (needs g h)), .d (encX s)] f = some (wB (meets (needs g h) s), f) := fun s => ev_met (by have := needs_few G.ok (h := h); omega) fun n hn => sm_sub (fam_len hF).2 (needs_sub G.ok n hn)
  have q2 : ∀ s, fn_is_met [.d (encT (needs o h)), .d (encX s)] f = some (wB (meets (needs o h) s), f) := fun s => ev_met (by have := needs_few O.ok (h := h); omega) fun n hn => sm_sub (fam_len hF).2 (needs_sub O.ok n hn)
  obtain ⟨h1, h2⟩ := forGo_find (f := f) (g := gSet 3) (b := (sIf (mT (m2 gNe (mCall fn_is_met (mCons (mVar 4) (mCons (mVar 3) mNil))) (mCall fn_is_met (mCons (mVar 5) (mCons (mVar 3) mNil))))) (sRet (mArgs gTupD (mCons (mVar 2) (mCons (mVar 3) mNil)))) sNil)) (p := fun k => meets (needs g h) k != meets (needs o h) k) (ew := fun k => W.d (encX k)) (r := fun k => W.d (.tuple [.str h, encX k])) (fun ρ => ∃ t3, ρ = [.v (.d (encG g)), .v (.d (encG o)), .v (.d (.str h)), t3, .v (.d (encT (needs g h))), .v (.d (encT (needs o h)))]) (crosses (needs g h) ++ crosses (needs o h)) (fun k hk ρ ⟨t3, e⟩ => by
    subst e
    have c := gNe_bool (meets (needs g h) k) (meets (needs o h) k)
    refine ⟨[.v (.d (encG g)), .v (.d (encG o)), .v (.d (.str h)), .v (.d (encX k)), .v (.d (encT (needs g h))), .v (.d (encT (needs o h)))], rfl, fun hc => if_t (t_ev (m2_ev (call_ev (cons_ev rfl (cons_ev rfl nil_ev)) (q1 k)) (call_ev (cons_ev rfl (cons_ev rfl nil_ev)) (q2 k)) (by rw [c, hc]))) (ret_ev (args_ev (cons_ev rfl (cons_ev rfl nil_ev)) rfl)), fun hc => ⟨_, if_f (t_ev (m2_ev (call_ev (cons_ev rfl (cons_ev rfl nil_ev)) (q1 k)) (call_ev (cons_ev rfl (cons_ev rfl nil_ev)) (q2 k)) (by rw [c, hc]))) rfl, _, rfl⟩⟩) ρ ⟨_, rfl⟩
  have hs : ∀ k ∈ crosses (needs g h) ++ crosses (needs o h), True := fun _ _ => trivial
  have hw : walkOf (.d (encL (crosses (needs g h) ++ crosses (needs o h)))) = _ := walk_L _
  have src : (mIt (mArgs gLstD (mStar (mCall fn_crossings_by (mCons (mVar 4) mNil)) (mStar (mCall fn_crossings_by (mCons (mVar 5) mNil)) mNil)))) ρ f = some ((crosses (needs g h) ++ crosses (needs o h)).map fun k => W.d (encX k), f) := by
    refine it_ev (w := .d (encL (crosses (needs g h) ++ crosses (needs o h)))) (args_ev (star_ev (call_ev (cons_ev rfl nil_ev) e1) rfl (star_ev (call_ev (cons_ev rfl nil_ev) e2) rfl nil_ev)) ?_) hw
    have l1 := (crosses_few (fam_so hF) (fam_len hF).2 (needs_sub G.ok (h := h))).2
    have l2 := (crosses_few (fam_so hF) (fam_len hF).2 (needs_sub O.ok (h := h))).2
    rw [List.append_nil, List.map_map, List.map_map, ← List.map_append]
    unfold gLstD
    rw [show ((crosses (needs g h) ++ crosses (needs o h)).map (W.d ∘ encX)) = (crosses (needs g h) ++ crosses (needs o h)).map (fun x => W.d (encX x)) from rfl, datas_map]
    simp only [Option.bind_some]
    rw [if_pos (le_lim (by rw [List.length_map, List.length_append]; omega))]
    rfl
  refine ⟨fun k hk => for_ev src (h1 k hk), fun hk => ?_⟩
  obtain ⟨ρ', e, t3, rfl⟩ := h2 hk
  exact ⟨t3, for_ev src e⟩
end Y
end KMathW
section KMathX
set_option Elab.async false
set_option linter.all false
set_option maxRecDepth 100000
set_option maxHeartbeats 4000000
/-! The lot that parts two trusts. -/
namespace Y
open PySem PySem.Spec PyProof.Rows XS
def encO : Option (Str × Ks) → PyData
  | some p => .tuple [.str p.1, encX p.2]
  | none => .none
theorem findSome_map {α β γ : Type} (p : α → Option β) (q : β → γ) : ∀ l : List α, l.findSome? (fun x => (p x).map q) = (l.findSome? p).map q
  | [] => rfl
  | x :: l => by
    rw [List.findSome?_cons, List.findSome?_cons]
    cases h : p x with
    | none => exact findSome_map p q l
    | some y => rfl
theorem ev_parting {g o : List Row} {ns : Ks} (G : Good g ns) (O : Good o ns) (hF : Fam ns) (f : Fd) : fn_parting_lot [.d (encG g), .d (encG o)] f = some (.d (encO (partG g o ns)), f) := by
  obtain ⟨h1, h2⟩ := forGo_some (f := f) (g := gSet 2) (b := (sSeq (sPar 4 5 (mCall fn_needs_by (mCons (mVar 0) (mCons (mVar 2) mNil))) (mCall fn_needs_by (mCons (mVar 1) (mCons (mVar 2) mNil)))) (sFor (mIt (mArgs gLstD (mStar (mCall fn_crossings_by (mCons (mVar 4) mNil)) (mStar (mCall fn_crossings_by (mCons (mVar 5) mNil)) mNil)))) (gSet 3) (sIf (mT (m2 gNe (mCall fn_is_met (mCons (mVar 4) (mCons (mVar 3) mNil))) (mCall fn_is_met (mCons (mVar 5) (mCons (mVar 3) mNil))))) (sRet (mArgs gTupD (mCons (mVar 2) (mCons (mVar 3) mNil)))) sNil))))
    (ew := fun h => W.d (.str h)) (r := fun h => (partX (needs g h) (needs o h)).map fun k => W.d (.tuple [.str h, encX k]))
    (fun ρ => ∃ a b c d, ρ = [.v (.d (encG g)), .v (.d (encG o)), a, b, c, d]) ns (fun h hh ρ ⟨a, b, c, d, e⟩ => by
      subst e
      obtain ⟨p1, p2⟩ := part_inner G O hF (h := h) (s3 := b) f
      refine ⟨[.v (.d (encG g)), .v (.d (encG o)), .v (.d (.str h)), b, c, d], rfl, fun w hw => ?_, fun hn => ?_⟩
      · obtain ⟨k, hk, rfl⟩ := Option.map_eq_some_iff.mp hw
        exact seq_ev (par_ev (call_ev (cons_ev rfl (cons_ev rfl nil_ev)) (ev_needs G.ok hh)) (call_ev (cons_ev rfl (cons_ev rfl nil_ev)) (ev_needs O.ok hh))) (p1 k hk)
      · obtain ⟨t3, e⟩ := p2 (Option.map_eq_none_iff.mp hn)
        exact ⟨_, seq_ev (par_ev (call_ev (cons_ev rfl (cons_ev rfl nil_ev)) (ev_needs G.ok hh)) (call_ev (cons_ev rfl (cons_ev rfl nil_ev)) (ev_needs O.ok hh))) e, _, _, _, _, rfl⟩)
    [.v (.d (encG g)), .v (.d (encG o)), .un, .un, .un, .un] ⟨_, _, _, _, rfl⟩
  have er : ns.findSome? (fun h => (partX (needs g h) (needs o h)).map fun k => W.d (.tuple [.str h, encX k])) = (partG g o ns).map fun p => W.d (encO (some p)) := by
    unfold partG
    rw [← findSome_map]
    refine congrArg (fun F => List.findSome? F ns) (funext fun h => ?_)
    rw [Option.map_map]
    rfl
  rw [er] at h1 h2
  have e0 := ev_want_trusts G O hF f
  cases hp : partG g o ns with
  | some p =>
    rw [hp] at h1
    exact fn_rt rfl (seq_ev (drop_ev (call_ev (cons_ev rfl (cons_ev rfl nil_ev)) e0)) (seq_rt (for_ev (it_ev (call_ev (cons_ev rfl nil_ev) (ev_hs G hF f)) (walk_key ns)) (h1 _ rfl))))
  | none =>
    rw [hp] at h2
    obtain ⟨ρ', e, _⟩ := h2 rfl
    exact fn_rt rfl (seq_ev (drop_ev (call_ev (cons_ev rfl (cons_ev rfl nil_ev)) e0)) (seq_ev (for_ev (it_ev (call_ev (cons_ev rfl nil_ev) (ev_hs G hF f)) (walk_key ns)) e) (ret_ev rfl)))
/-! what it tells -/
theorem partG_some {g o : List Row} {ns : Ks} (G : Good g ns) (O : Good o ns) (hF : Fam ns) {p : Str × Ks} (h : partG g o ns = some p) : p.1 ∈ ns ∧ p.2.Sublist ns ∧ meets (needs g p.1) p.2 ≠ meets (needs o p.1) p.2 := by
  unfold partG at h
  obtain ⟨x, hx, e⟩ := List.exists_of_findSome?_eq_some h
  obtain ⟨k, hk, rfl⟩ := Option.map_eq_some_iff.mp e
  unfold partX at hk
  have h1 := List.find?_some hk
  have h2 := List.mem_of_find?_eq_some hk
  refine ⟨hx, ?_, by simpa using h1⟩
  rcases List.mem_append.mp h2 with m | m
  · exact (crosses_few (fam_so hF) (fam_len hF).2 (needs_sub G.ok (h := x))).1 k m
  · exact (crosses_few (fam_so hF) (fam_len hF).2 (needs_sub O.ok (h := x))).1 k m
theorem partG_none {g o : List Row} {ns : Ks} (G : Good g ns) (O : Good o ns) (hF : Fam ns) : partG g o ns = none ↔ ∀ h ∈ ns, needs g h = needs o h := by
  unfold partG
  rw [List.findSome?_eq_none_iff]
  constructor
  · intro h x hx
    have e : partX (needs g x) (needs o x) = none := Option.map_eq_none_iff.mp (h x hx)
    unfold partX at e
    have e := List.find?_eq_none.mp e
    rw [crosses_crossed G.ok.nd (fam_so hF) (needs_sub G.ok), crosses_crossed G.ok.nd (fam_so hF) (needs_sub O.ok)] at e
    refine part_exists G.ok.nd (needs_sub G.ok) (needs_sub O.ok) (needs_idem G.ok) (needs_idem O.ok) fun s hs => ?_
    have := e s hs
    simpa using this
  · intro h x hx
    rw [h x hx]
    refine Option.map_eq_none_iff.mpr ?_
    unfold partX
    exact List.find?_eq_none.mpr fun s _ => by simp
end Y
end KMathX
section KMathY
set_option Elab.async false
set_option linter.all false
set_option maxRecDepth 100000
set_option maxHeartbeats 4000000
/-! The law's sameness (by repr), its tables. -/
namespace Y
open PySem PySem.Spec PyProof.Rows XS
open L2 (Key)
/-! ### what repr takes -/
structure Rk (m c : Nat) (d : PyData) : Prop where
  a : d.showable = true
  b : d.hasDict = false
  e : d.depth ≤ m
  l : d.shown.length ≤ c
structure Rks (m c n : Nat) (ds : List PyData) : Prop where
  a : PyData.showableAll ds = true
  b : PyData.hasDictAll ds = false
  e : PyData.depthAll ds ≤ m
  l : piled (PyData.shownAll ds) ≤ n * (c + 2)
theorem rks_of {m c : Nat} : ∀ {ds : List PyData}, (∀ d ∈ ds, Rk m c d) → Rks m c ds.length ds
  | [], _ => ⟨rfl, rfl, Nat.zero_le _, Nat.zero_le _⟩
  | d :: ds, h => by
    obtain ⟨a, b, e, l⟩ := h d List.mem_cons_self
    obtain ⟨a', b', e', l'⟩ := rks_of (ds := ds) fun x hx => h x (List.mem_cons_of_mem _ hx)
    refine ⟨?_, ?_, ?_, ?_⟩
    · show (d.showable && PyData.showableAll ds) = true
      rw [a, a']; rfl
    · show (d.hasDict || PyData.hasDictAll ds) = false
      rw [b, b']; rfl
    · show max d.depth (PyData.depthAll ds) ≤ m
      omega
    · show piled (d.shown :: PyData.shownAll ds) ≤ _
      rw [piled_cons, List.length_cons, Nat.succ_mul]
      omega
theorem tupleText_le (ts : List Str) : (tupleText ts).length ≤ piled ts + 3 := by
  unfold tupleText
  rw [strLen_append, strLen_append]
  have e1 : ((("(" : String) : Str)).length = 1 := rfl
  have e3 : (((if ts.length == 1 then ",)" else ")" : String) : Str)).length ≤ 2 := by split <;> decide
  rw [e1]
  by_cases h : ts = []
  · subst h
    have : (Str.join ", " []).length = 0 := rfl
    omega
  · have := join_length_add ts h
    omega
theorem listText_le : ∀ ts : List Str, (listText ts).length ≤ piled ts + 2
  | [] => by decide
  | t :: r => by
    have h := textFrom_length_pos r 1 (("[" : Str) ++ (if (0 : Nat) > 0 then ", " else "" : String) ++ t) (Nat.succ_pos 0)
    have e : ((("[" : Str) ++ (if (0 : Nat) > 0 then ", " else "" : String) ++ t)).length = 1 + t.length := by
      rw [strLen_append, strLen_append]; rfl
    have hX : (listText (t :: r)).length = (textFrom 0 "[" (t :: r)).length + 1 := by
      show (textFrom 0 "[" (t :: r) ++ "]").length = _
      rw [strLen_append]; rfl
    have hY : (textFrom 0 "[" (t :: r)).length = (textFrom 1 (("[" : Str) ++ (if (0 : Nat) > 0 then ", " else "" : String) ++ t) r).length := rfl
    rw [hX, hY, h, e, piled_cons]; omega
theorem rk_tup {m c n k : Nat} {ds : List PyData} (h : ∀ d ∈ ds, Rk m c d) (hn : ds.length ≤ n) (hk : n * (c + 2) + 3 ≤ k) : Rk (m + 1) k (.tuple ds) := by
  obtain ⟨a, b, e, l⟩ := rks_of h
  refine ⟨a, b, Nat.succ_le_succ e, ?_⟩
  have h1 : (PyData.shown (.tuple ds)).length ≤ piled (PyData.shownAll ds) + 3 := tupleText_le _
  have h2 : ds.length * (c + 2) ≤ n * (c + 2) := Nat.mul_le_mul_right _ hn
  omega
theorem rk_lst {m c n k : Nat} {ds : List PyData} (h : ∀ d ∈ ds, Rk m c d) (hn : ds.length ≤ n) (hk : n * (c + 2) + 3 ≤ k) : Rk (m + 1) k (.list ds) := by
  obtain ⟨a, b, e, l⟩ := rks_of h
  refine ⟨a, b, Nat.succ_le_succ e, ?_⟩
  have h1 : (PyData.shown (.list ds)).length ≤ piled (PyData.shownAll ds) + 2 := listText_le _
  have h2 : ds.length * (c + 2) ≤ n * (c + 2) := Nat.mul_le_mul_right _ hn
  omega
theorem Rk.mono {m c m' c' : Nat} {d : PyData} (h : Rk m c d) (hm : m ≤ m') (hc : c ≤ c') : Rk m' c' d := ⟨h.a, h.b, Nat.le_trans h.e hm, Nat.le_trans h.l hc⟩
theorem rk_bool (b : Bool) : Rk 0 10 (.bool b) := by cases b <;> exact ⟨rfl, rfl, Nat.le_refl _, by decide⟩
theorem rk_none : Rk 0 10 .none := ⟨rfl, rfl, Nat.le_refl _, by decide⟩
theorem rk_name {ns : Ks} {x : Str} (hF : Fam ns) (hx : x ∈ ns) : Rk 0 10 (.str x) :=
  ⟨rfl, rfl, Nat.le_refl _, name_each (P := fun x => (PyData.shown (.str x)).length ≤ 10) (by refine ⟨⟨?_, ?_, ?_, ?_, trivial⟩, ⟨?_, ?_, ?_, ?_, trivial⟩, ⟨?_, ?_, ?_, ?_, trivial⟩, trivial⟩ <;> decide +kernel) hF hx⟩
theorem rk_key {ns k : Ks} (hF : Fam ns) (hk : k.Sublist ns) : Rk 1 60 (encX k) :=
  rk_tup (n := 4) (fun d hd => by
    obtain ⟨x, hx, rfl⟩ := List.mem_map.mp hd
    exact rk_name hF (hk.subset hx)) (by rw [List.length_map]; exact sub_len (fam_len hF).2 hk) (by decide)
theorem rk_T {ns : Ks} {X : List Ks} (hF : Fam ns) (hX : ∀ k ∈ X, k.Sublist ns) (hl : X.length ≤ 16) : Rk 2 1000 (encT X) :=
  rk_tup (n := 16) (fun d hd => by
    obtain ⟨k, hk, rfl⟩ := List.mem_map.mp hd
    exact rk_key hF (hX k hk)) (by rw [List.length_map]; exact hl) (by decide)
theorem rk_O {ns : Ks} {p : Str × Ks} (hF : Fam ns) (h1 : p.1 ∈ ns) (h2 : p.2.Sublist ns) : Rk 2 200 (encO (some p)) :=
  rk_tup (m := 1) (c := 60) (n := 2) (fun d hd => by
    simp only [List.mem_cons, List.not_mem_nil, or_false] at hd
    rcases hd with rfl | rfl
    · exact (rk_name hF h1).mono (by decide) (by decide)
    · exact (rk_key hF h2).mono (by decide) (by decide)) (Nat.le_refl _) (by decide)
theorem repOk_of {d : PyData} {m c : Nat} (h : Rk m c d) (hs : isSq d = true) (hm : m ≤ 40) (hc : c ≤ 100000) : repOk d = true := by
  obtain ⟨a, b, e, l⟩ := h
  unfold repOk
  rw [hs, a, b, decide_eq_true (Nat.le_trans e hm), decide_eq_true (le_lim (Nat.le_trans l hc))]
  rfl
theorem gRepr_of {d : PyData} (h : repOk d = true) : gRepr [.d d] = some (.d (.str d.shown)) := by
  unfold gRepr
  simp only [h, if_true]
theorem ev_same {d : PyData} (h : repOk d = true) (f : Fd) : fn_law_same [.d d, .d d] f = some (wB true, f) :=
  fn_rt rfl (ret_ev (m2_ev (args_ev (cons_ev rfl nil_ev) (gRepr_of h)) (args_ev (cons_ev rfl nil_ev) (gRepr_of h)) ((gEq_str _ _).trans (by rw [decide_eq_true rfl]))))
/-! ### tables -/
def tabN (F : Str → List Ks) (ns : Ks) : List (Key × PyData) := ns.map fun h => (Sum.inr h, encT (F h))
def pairN (F : Str → List Ks) (h : Str) : PyData := .tuple [.str h, encT (F h)]
theorem pairs_tab (F : Str → List Ks) : ∀ ns : Ks, pairsOf (ns.map (pairN F)) = some (tabN F ns)
  | [] => rfl
  | h :: ns => by
    show (pairsOf (ns.map (pairN F))).map ((Sum.inr h, encT (F h)) :: ·) = _
    rw [pairs_tab F ns]
    rfl
theorem gDict_tab (F : Str → List Ks) {ns : Ks} (nd : ns.Nodup) : gDict [.d (.list (ns.map (pairN F)))] = some (.t (tabN F ns)) := by
  show ((pairsOf (ns.map (pairN F))).bind fun kvs => if (kvs.map (·.1)).Nodup then some (W.t kvs) else none) = _
  rw [pairs_tab]
  have : ((tabN F ns).map (·.1)).Nodup := by
    unfold tabN
    rw [List.map_map]
    exact List.Pairwise.map _ (fun a b (h : a ≠ b) e => h (Sum.inr.inj e)) nd
  exact if_pos this
theorem valD_tabN (F : Str → List Ks) {h : Str} : ∀ {ns : Ks}, h ∈ ns → valD (tabN F ns) (Sum.inr h) = some (encT (F h))
  | [], m => by cases m
  | x :: ns, m => by
    unfold valD tabN
    rw [List.map_cons]
    by_cases e : x = h
    · subst e
      rw [List.find?_cons_of_pos (by simp)]
      rfl
    · rw [List.find?_cons_of_neg (by simpa using e)]
      rcases List.mem_cons.mp m with m | m
      · exact absurd m.symm e
      · exact valD_tabN F m
theorem gGet_tab (F : Str → List Ks) {ns : Ks} {h : Str} (m : h ∈ ns) : gGet (.t (tabN F ns)) (.d (.str h)) = some (.d (encT (F h))) := by
  show (valD (tabN F ns) (Sum.inr h)).map W.d = _
  rw [valD_tabN F m]
  rfl
theorem hits_tab (F E : Str → List Ks) {ns : Ks} : ∀ {ms : Ks}, (∀ x ∈ ms, x ∈ ns) → hitsD (tabN E ns) (tabN F ms) = some (ms.all fun h => decide (F h = E h))
  | [], _ => rfl
  | x :: ms, h => by
    have ih := hits_tab F E fun y hy => h y (List.mem_cons_of_mem _ hy)
    show (match valD (tabN E ns) (Sum.inr x) with
      | none => some false
      | some y => if pairOk (encT (F x)) y = true then (hitsD (tabN E ns) (tabN F ms)).map fun b => PyData.eqv (encT (F x)) y && b else none) = _
    rw [valD_tabN E (h x List.mem_cons_self)]
    simp only [pair_T, if_true, eqv_T, ih, Option.map_some, List.all_cons]
theorem gTabEq_tab (F E : Str → List Ks) (ns : Ks) : gTabEq (.t (tabN F ns)) (.t (tabN E ns)) = some (wB (ns.all fun h => decide (F h = E h))) := by
  show (tabEq (tabN F ns) (tabN E ns)).map wB = _
  unfold tabEq
  rw [if_pos (by unfold tabN; rw [List.length_map, List.length_map]), hits_tab F E fun _ h => h]
  rfl
theorem tab_ev {g : List Row} {ns : Ks} (G : Good g ns) (hF : Fam ns) {ρ : En} {i j k v : Nat} {f : Fd} (e1 : mVar i ρ f = some (.d (encX ns), f))
    (e2 : ∀ h, ∃ ρ1, gSet v (.d (.str h)) (cl [v] ρ) = some ρ1 ∧ mVar v ρ1 f = some (.d (.str h), f) ∧ mVar j ρ1 f = some (.d (encG g), f) ∧ mVar k ρ1 f = some (.d (.list ((safes g ns).map encS)), f)) :
    (mArgs gDict (mCons (mLc [v] (mIt (mVar i)) (gSet v) mYes (bOne (mArgs gTupD (mCons (mVar v) (mCons (mCall fn_law_needs (mCons (mVar j) (mCons (mVar k) (mCons (mVar v) mNil)))) mNil))))) mNil)) ρ f = some (.t (tabN (needs g) ns), f) := by
  have hl := fam_len hF
  refine args_ev (cons_ev (lc_ev (it_ev e1 (walk_key ns)) (lc_all ns (q := pairN (needs g)) (fun h hh => ?_) (small (by omega)))) nil_ev) (gDict_tab (needs g) G.ok.nd)
  obtain ⟨ρ1, h1, h2, h3, h4⟩ := e2 h
  have e3 := ev_lneeds (f := f) (h := h) (sf := safes g ns) G.ok (safes_len hl.2) (fun p hp => sub_len hl.2 (safes_mem.mp hp).1)
  rw [lneeds_eq G hh] at e3
  exact ⟨ρ1, h1, args_ev (cons_ev h2 (cons_ev (call_ev (cons_ev h3 (cons_ev h4 (cons_ev h2 nil_ev))) e3) nil_ev)) rfl⟩
end Y
end KMathY
section KMathZ
set_option Elab.async false
set_option linter.all false
set_option maxRecDepth 100000
set_option maxHeartbeats 4000000
/-! Needs and least lots are told back. -/
namespace Y
open PySem PySem.Spec PyProof.Rows XS
def bTold : MS := sIf (tNo (mT (mCall fn_meets_needs (mCons (mVar 0) (mCons (mVar 3) (mCons (mVar 5) mNil)))))) (sRet (mDat (.bool false))) sNil
def bBack : MS := (sSeq (sPar 6 7 (mCall fn_least_lots (mCons (mVar 0) (mCons (mVar 3) mNil))) (mCall fn_needs_of (mCons (mVar 0) (mCons (mVar 3) mNil)))) (sSeq (sSet 4 (mArgs gLstD (mCons (m2 gGet (mVar 2) (mVar 3)) (mCons (mCall fn_law_crossed (mCons (mVar 7) (mCons (mVar 1) mNil))) (mCons (mCall fn_law_crossed (mCons (mVar 6) (mCons (mVar 1) mNil))) mNil))))) (sSeq (sIf (tNo (mT (mCall fn_law_same (mCons (mArgs gLstD (mCons (mVar 7) (mCons (mVar 6) (mCons (mVar 7) mNil)))) (mCons (mVar 4) mNil))))) (sRet (mDat (.bool false))) sNil) (sFor (mIt (mVar 6)) (gSet 5) bTold))))
theorem back_body {g : List Row} {ns : Ks} (G : Good g ns) (hF : Fam ns) {h : Str} (hh : h ∈ ns) {s4 s5 s6 s7 : Slot} (f : Fd) : ∃ t4 t5 t6 t7,
    bBack [.v (.d (encG g)), .v (.d (encX ns)), .v (.t (tabN (needs g) ns)), .v (.d (.str h)), s4, s5, s6, s7] f = some (.nx [.v (.d (encG g)), .v (.d (encX ns)), .v (.t (tabN (needs g) ns)), .v (.d (.str h)), t4, t5, t6, t7], f) := by
  have so := fam_so hF
  have hl := (fam_len hF).2
  have nd := G.ok.nd
  have nS := needs_sub G.ok (h := h)
  have n16 := needs_few G.ok (h := h)
  obtain ⟨cS, c16⟩ := crosses_few so hl nS
  have e1 : crossed (needs g h) ns = crosses (needs g h) := (crosses_crossed nd so nS).symm
  have e2 : crossed (crosses (needs g h)) ns = needs g h := by rw [← e1, crossed_crossed nd nS, needs_idem G.ok]
  have q1 := ev_lcrossed (f := f) (N := needs g h) hl (by omega) fun n hn => sm_sub hl (nS n hn)
  have q2 := ev_lcrossed (f := f) (N := crosses (needs g h)) hl (by omega) fun n hn => sm_sub hl (cS n hn)
  rw [e1] at q1
  rw [e2] at q2
  have ok3 : repOk (.list [encT (needs g h), encT (crosses (needs g h)), encT (needs g h)]) = true := repOk_of (rk_lst (n := 3) (k := 10000) (m := 2) (c := 1000) (fun d hd => by
    simp only [List.mem_cons, List.not_mem_nil, or_false] at hd
    rcases hd with rfl | rfl | rfl
    · exact rk_T hF nS n16
    · exact rk_T hF cS c16
    · exact rk_T hF nS n16) (Nat.le_refl _) (by decide)) rfl (by decide) (by decide)
  let ρ7 : Slot → En := fun s5 => [.v (.d (encG g)), .v (.d (encX ns)), .v (.t (tabN (needs g) ns)), .v (.d (.str h)), .v (.d (.list [encT (needs g h), encT (crosses (needs g h)), encT (needs g h)])), s5, .v (.d (encT (crosses (needs g h)))), .v (.d (encT (needs g h)))]
  obtain ⟨ρ', f', i1, i2, p, i3⟩ := forGo_all (g := gSet 5) (b := bTold) (crosses (needs g h)) (ew := fun n => W.d (encX n)) (fun pr ρ f1 => f1 = f ∧ ∃ p, ρ = ρ7 p) (ρ := ρ7 s5) (f := f) ⟨rfl, _, rfl⟩ fun pr k po e ρ f1 ⟨ef, p, eρ⟩ => by
    subst ef eρ
    have hk : k ∈ crosses (needs g h) := by rw [e]; simp
    have hm : meets (needs g h) k = true := by
      rw [← e1] at hk
      exact (crossed_mem nd hk).2
    have e3 := ev_meets_needs G hF hh (cS k hk) f1
    rw [hm] at e3
    exact ⟨ρ7 (.v (.d (encX k))), ρ7 (.v (.d (encX k))), f1, rfl, if_f (no_ev (c := true) (t_ev (call_ev (cons_ev rfl (cons_ev rfl (cons_ev rfl nil_ev))) e3))) rfl, rfl, _, rfl⟩
  subst i2 i3
  exact ⟨_, p, _, _, seq_ev (par_ev (call_ev (cons_ev rfl (cons_ev rfl nil_ev)) (ev_least_lots G hF hh f')) (call_ev (cons_ev rfl (cons_ev rfl nil_ev)) (ev_needs_of G hF hh f'))) (seq_ev (set_ev (args_ev (cons_ev (m2_ev rfl rfl (gGet_tab (needs g) hh)) (cons_ev (call_ev (cons_ev rfl (cons_ev rfl nil_ev)) q1) (cons_ev (call_ev (cons_ev rfl (cons_ev rfl nil_ev)) q2) nil_ev))) rfl)) (seq_ev (if_f (no_ev (c := true) (t_ev (call_ev (cons_ev (args_ev (cons_ev rfl (cons_ev rfl (cons_ev rfl nil_ev))) rfl) (cons_ev rfl nil_ev)) (ev_same ok3 f')))) rfl) (for_ev (it_ev rfl (walk_T _)) i1)))⟩
theorem ev_told {g : List Row} {ns : Ks} (G : Good g ns) (hF : Fam ns) (f : Fd) : fn_law_is_told_back [.d (encG g), .d (encX ns), .t (tabN (needs g) ns)] f = some (wB true, f) := by
  obtain ⟨ρ', f', i1, i2, _⟩ := forGo_all (g := gSet 3) (b := bBack) ns (ew := fun n => W.d (.str n)) (fun pr ρ f1 => f1 = f ∧ ∃ a b c d e, ρ = [.v (.d (encG g)), .v (.d (encX ns)), .v (.t (tabN (needs g) ns)), a, b, c, d, e]) (ρ := [.v (.d (encG g)), .v (.d (encX ns)), .v (.t (tabN (needs g) ns)), .un, .un, .un, .un, .un]) (f := f) ⟨rfl, _, _, _, _, _, rfl⟩ fun pr h po e ρ f1 ⟨ef, s3, s4, s5, s6, s7, eρ⟩ => by
    subst ef eρ
    have hh : h ∈ ns := by rw [e]; simp
    obtain ⟨t4, t5, t6, t7, e1⟩ := back_body G hF hh (s4 := s4) (s5 := s5) (s6 := s6) (s7 := s7) f1
    exact ⟨_, _, f1, rfl, e1, rfl, _, _, _, _, _, rfl⟩
  subst i2
  exact fn_rt rfl (seq_ev (for_ev (it_ev rfl (walk_key ns)) i1) (ret_ev rfl))
end Y
end KMathZ
section KMotO
set_option Elab.async false
set_option linter.all false
/-! What is asked of a motor. -/
namespace Y
open PySem PySem.Spec PyProof.Rows XS
structure Mot (m : PyData) (l : Str) : Prop where
  ff : ∀ f, fn_machine_fault [.d m] f = some (.d .none, f)
  nm : ∀ f, fn_is_names [.d (encX [l])] f = some (wB true, f)
  am : ∃ L, gIx (.d m) (wI 1) = some (.d L) ∧ ∀ f, fn_is_names_among [.d (encX [l]), .d L] f = some (wB true, f)
  mo : ∀ f, fn_moves_in [.d m, .d (.str l), wI 0] f = some (wB true, f)
end Y
end KMotO
section KMotB
set_option Elab.async false
set_option linter.all false
set_option maxRecDepth 100000
set_option maxHeartbeats 4000000
/-! A book with one rule. -/
namespace Y
open PySem PySem.Spec PyProof.Rows XS
def ruleD (h l : Str) (k : Ks) : PyData := .tuple [.str h, encX [l], encX k, .str "any", .tuple []]
def bookD (m : PyData) (g : List Row) (h l : Str) (k : Ks) : PyData := .tuple [m, encG g, .tuple [], .tuple [ruleD h l k], .tuple []]
section
variable {m : PyData} {g : List Row} {ns k : Ks} {h l : Str} (M : Mot m l) (G : Good g ns) (hF : Fam ns) (hh : h ∈ ns) (hk : k.Sublist ns)
include M hF hh hk
theorem ev_looking (f : Fd) : fn_is_looking [.d (ruleD h l k)] f = some (wB true, f) := by
  refine fn_rt rfl (seq_ev (if_f (o_ev (c := false) (d := false) (no_ev (c := true) (t_ev (call_ev (cons_ev rfl (cons_ev rfl nil_ev)) (by rfl)))) fun _ => o_ev (c := false) (d := false) (no_ev (c := true) (t_ev (call_ev (cons_ev (m2_ev rfl rfl rfl) nil_ev) (ev_name hF hh f)))) fun _ => o_ev (c := false) (d := false) (no_ev (c := true) (t_ev (call_ev (cons_ev (m2_ev rfl rfl rfl) nil_ev) (M.nm f)))) fun _ => t_ev (m2_ev (args_ev (cons_ev (m2_ev rfl rfl rfl) nil_ev) (gLen_key [l])) rfl rfl)) rfl) (seq_ev (if_f (o_ev (c := false) (d := false) (no_ev (c := true) (t_ev (call_ev (cons_ev (m2_ev rfl rfl rfl) nil_ev) (ev_names hF hk f)))) fun _ => no_ev (c := true) (o_ev (c := false) (d := true) (t_ev (call_ev (cons_ev (m2_ev rfl rfl rfl) nil_ev) (by rfl))) fun _ => t_ev (call_ev (cons_ev (m2_ev rfl rfl rfl) (cons_ev (args_ev (cons_ev rfl nil_ev) rfl) nil_ev)) (by rfl)))) rfl) (ret_ev (call_ev (cons_ev (m2_ev rfl rfl rfl) (cons_ev (m2_ev rfl rfl rfl) nil_ev)) (by rfl)))))
theorem ev_looking_of (f : Fd) : fn_is_looking_of [.d m, .d (.list (ns.map .str)), .d (ruleD h l k)] f = some (wB true, f) := by
  obtain ⟨L, eL, hL⟩ := M.am
  have hl := fam_len hF
  have k4 := sub_len hl.2 hk
  have own : ∀ a b c d e, (mArgs gLstD (mCons (m2 gIx (mVar 2) (mDat (.int 0))) (mStar (m2 gIx (mVar 2) (mDat (.int 2))) (mStar (mLc [4, 5] (mIt (m2 gIx (mVar 2) (mDat (.int 4)))) (gTupM 2 (gsCons (gSet 4) (gsCons (gSet 5) gsNil))) mYes (bOne (mVar 4))) mNil)))) [a, b, .v (.d (ruleD h l k)), c, d, e] f = some (.d (.list ((h :: k).map .str)), f) := fun a b c d e => by
    refine args_ev (cons_ev (m2_ev rfl rfl rfl) (star_ev (w := .d (encX k)) (m2_ev rfl rfl rfl) rfl (star_ev (w := .d (.list [])) (lc_ev (it_ev (m2_ev rfl rfl rfl) rfl) rfl) rfl nil_ev))) ?_
    have e1 : W.d (.str h) :: ((k.map PyData.str).map W.d ++ (([] : List PyData).map W.d ++ [])) = (h :: k).map fun x => W.d (.str x) := by simp
    rw [e1]
    unfold gLstD
    rw [datas_map]
    simp only [Option.bind_some]
    rw [if_pos (le_lim (by rw [List.length_map, List.length_cons]; omega))]
  refine fn_rt rfl (seq_ev (if_f (o_ev (c := false) (d := false) (no_ev (c := true) (t_ev (call_ev (cons_ev rfl nil_ev) (ev_looking M hF hh hk f)))) fun _ => no_ev (c := true) (t_ev (call_ev (cons_ev (m2_ev rfl rfl rfl) (cons_ev (m2_ev rfl rfl eL) nil_ev)) (hL f)))) rfl) (seq_ev (set_ev (own _ _ _ _ _)) (ret_ev (args_ev (cons_ev (lc_ev (it_ev rfl (walk_S (h :: k))) (lc_all (h :: k) (q := fun x => .bool (decide (x ∈ ns))) (fun x hx => ⟨_, rfl, m2_ev rfl rfl (gIn_S x ns)⟩) (le_lim (by rw [List.length_cons]; omega)))) nil_ev) ?_))))
  rw [gAll_map]
  congr 2
  rw [List.all_eq_true.mpr]
  intro x hx
  rcases List.mem_cons.mp hx with rfl | hx
  · exact decide_eq_true hh
  · exact decide_eq_true (hk.subset hx)
theorem ev_rules (f : Fd) : fn_rules_fault [.d m, .d (.list (ns.map .str)), .d (.tuple [ruleD h l k]), .d (.tuple [])] f = some (.d .none, f) := by
  have e1 : forGo (gTupM 2 (gsCons (gSet 4) (gsCons (gSet 5) gsNil))) (sIf (tNo (mT (mCall fn_is_looking_of (mCons (mVar 0) (mCons (mVar 1) (mCons (mVar 5) mNil)))))) (sNo) sNil) [.d (.tuple [.int 0, ruleD h l k])] [.v (.d m), .v (.d (.list (ns.map .str))), .v (.d (.tuple [ruleD h l k])), .v (.d (.tuple [])), .un, .un] f = some (.nx [.v (.d m), .v (.d (.list (ns.map .str))), .v (.d (.tuple [ruleD h l k])), .v (.d (.tuple [])), .v (wI 0), .v (.d (ruleD h l k))], f) := by
    have : (sIf (tNo (mT (mCall fn_is_looking_of (mCons (mVar 0) (mCons (mVar 1) (mCons (mVar 5) mNil)))))) (sNo) sNil) [.v (.d m), .v (.d (.list (ns.map .str))), .v (.d (.tuple [ruleD h l k])), .v (.d (.tuple [])), .v (wI 0), .v (.d (ruleD h l k))] f = some (.nx [.v (.d m), .v (.d (.list (ns.map .str))), .v (.d (.tuple [ruleD h l k])), .v (.d (.tuple [])), .v (wI 0), .v (.d (ruleD h l k))], f) := if_f (no_ev (c := true) (t_ev (call_ev (cons_ev rfl (cons_ev rfl (cons_ev rfl nil_ev))) (ev_looking_of M hF hh hk f)))) rfl
    unfold forGo
    have hg : gTupM 2 (gsCons (gSet 4) (gsCons (gSet 5) gsNil)) (.d (.tuple [.int 0, ruleD h l k])) [.v (.d m), .v (.d (.list (ns.map .str))), .v (.d (.tuple [ruleD h l k])), .v (.d (.tuple [])), .un, .un] = some [.v (.d m), .v (.d (.list (ns.map .str))), .v (.d (.tuple [ruleD h l k])), .v (.d (.tuple [])), .v (wI 0), .v (.d (ruleD h l k))] := rfl
    rw [hg]
    simp only [Option.bind_some, this]
    rfl
  refine fn_rt rfl (seq_ev (if_f (no_ev (c := true) (t_ev (m1_ev rfl rfl))) rfl) (seq_ev (for_ev (ws := [.d (.tuple [.int 0, ruleD h l k])]) (f1 := f) ?_ e1) (seq_ev (if_f (no_ev (c := true) (t_ev (m1_ev rfl rfl))) rfl) (seq_ev (for_ev (ws := []) (f1 := f) ?_ rfl) (ret_ev rfl)))))
  · rfl
  · rfl
include G
theorem ev_parts (f : Fd) : fn_parts_fault [.d (bookD m g h l k)] f = some (.d .none, f) := by
  have hl := fam_len hF
  have gl : g.length = ns.length := by rw [← G.ok.nm]; unfold houses; rw [List.length_map]
  have e1 : ∀ ρ : En, mVar 4 ρ f = some (.d (encG g), f) → (∀ r, ∃ ρ1, gSet 8 (.d (encR r)) (cl [8] ρ) = some ρ1 ∧ mVar 8 ρ1 f = some (.d (encR r), f)) → (mLc [8] (mIt (mVar 4)) (gSet 8) mYes (bOne (m2 gIx (mVar 8) (mDat (.int 0))))) ρ f = some (.d (.list (ns.map .str)), f) := fun ρ h1 h2 => by
    have := lc_all (g := gSet 8) (te := m2 gIx (mVar 8) (mDat (.int 0))) (ρ := cl [8] ρ) (f := f) g (ew := fun r => W.d (encR r)) (q := fun r => .str r.1) (fun r hr => by
      obtain ⟨ρ1, a, b⟩ := h2 r
      exact ⟨ρ1, a, m2_ev b rfl rfl⟩) (small (by omega))
    have h3 := lc_ev (vs := [8]) (it_ev h1 (walk_G g)) this
    have h4 : g.map (fun r => PyData.str r.1) = ns.map .str := by rw [← G.ok.nm]; unfold houses; rw [List.map_map]; rfl
    rw [h4] at h3
    exact h3
  exact fn_rt rfl (seq_ev (if_f (no_ev (c := true) (t_ev (call_ev (cons_ev rfl (cons_ev rfl nil_ev)) (by rfl)))) rfl) (seq_ev (tup_ev rfl rfl) (seq_ev (set_ev (call_ev (cons_ev rfl nil_ev) (M.ff f))) (seq_ev (if_f (t_ev (m2_ev rfl rfl rfl)) rfl) (seq_ev (set_ev (call_ev (cons_ev rfl nil_ev) (ev_fault G hF f))) (seq_ev (if_f (t_ev (m2_ev rfl rfl rfl)) rfl) (seq_ev (set_ev (e1 _ rfl fun r => ⟨_, rfl, rfl⟩)) (seq_ev (set_ev (call_ev (cons_ev rfl (cons_ev rfl nil_ev)) (p := (.d .none, f)) (by rfl))) (seq_ev (if_f (t_ev (m2_ev rfl rfl rfl)) rfl) (ret_ev (call_ev (cons_ev rfl (cons_ev rfl (cons_ev rfl (cons_ev rfl nil_ev)))) (ev_rules M hF hh hk f))))))))))))
theorem ev_book (f : Fd) : fn_is_book [.d (bookD m g h l k)] f = some (wB true, f) :=
  fn_rt rfl (ret_ev (m2_ev (call_ev (cons_ev rfl nil_ev) (ev_parts M G hF hh hk f)) rfl rfl))
theorem ev_want_rule (f : Fd) : fn_want_rule [.d (bookD m g h l k), wI 0] f = some (.d .none, f) :=
  fn_nx rfl (seq_ev (drop_ev (callD_ev (cons_ev rfl nil_ev) (fn_nx rfl (drop_ev (callD_ev (cons_ev (call_ev (cons_ev rfl nil_ev) (ev_book M G hF hh hk f)) (cons_ev rfl nil_ev)) (ev_want f)))))) (drop_ev (callD_ev (cons_ev (call_ev (cons_ev rfl (cons_ev (args_ev (cons_ev (m2_ev rfl rfl rfl) nil_ev) rfl) nil_ev)) (by rfl)) (cons_ev rfl nil_ev)) (ev_want f))))
theorem ev_moving (f : Fd) : fn_moving_in [.d (bookD m g h l k), wI 0, wI 0] f = some (.d (.str l), f) := by
  refine fn_rt rfl (seq_ev (set_ev (w := .d (.list [.str l])) (lc_ev (it_ev (m2_ev (m2_ev (m2_ev rfl rfl rfl) rfl rfl) rfl rfl) (walk_key [l])) (lc_fil [l] (p := fun _ => true) (q := fun x => .str x) (fun x hx => ⟨_, rfl, t_ev (call_ev (cons_ev (m2_ev rfl rfl rfl) (cons_ev rfl (cons_ev rfl nil_ev))) ?_), fun _ => rfl⟩) (small (by simp))))) (ret_ev (ife_t (t_ev (m2_ev (args_ev (cons_ev rfl nil_ev) rfl) rfl rfl)) (m2_ev rfl rfl rfl))))
  rw [List.mem_singleton.mp hx]
  exact M.mo f
theorem ev_caught {n : Ks} (hn : n.Sublist ns) (f : Fd) : fn_caught_in [.d (bookD m g h l k), wI 0, .d (encX n)] f = some (wB (hit n k), f) := by
  have s := sm_sub (fam_len hF).2 hn
  have e0 : hit n [] = false := by
    unfold hit
    rw [List.any_eq_false]
    intro x _
    simp
  have e1 := ev_meets_in (f := f) (a := n) (b := k) s
  have e2 := ev_meets_in (f := f) (a := n) (b := []) s
  have e3 : (n.any fun x => decide (x ∈ ([] : Ks))) = false := e0
  rw [e3] at e2
  have := or_ev (ma := mCall fn_meets_in (mCons (mVar 2) (mCons (m2 gIx (m2 gIx (m2 gIx (mVar 0) (mDat (.int 3))) (mVar 1)) (mDat (.int 2))) mNil))) (mb := mCall fn_meets_in (mCons (mVar 2) (mCons (mCall fn_lasting_in (mCons (mVar 0) (mCons (mVar 1) mNil))) mNil))) (ρ := [.v (.d (bookD m g h l k)), .v (wI 0), .v (.d (encX n))]) (c := hit n k) (d := false) (f := f)
    (call_ev (cons_ev rfl (cons_ev (m2_ev (m2_ev (m2_ev rfl rfl rfl) rfl rfl) rfl rfl) nil_ev)) e1) (fun _ => call_ev (cons_ev rfl (cons_ev (call_ev (cons_ev rfl (cons_ev rfl nil_ev)) (p := (.d (.tuple []), f)) (by rfl)) nil_ev)) e2)
  rw [Bool.or_false] at this
  exact fn_rt rfl (ret_ev this)
theorem ev_lacks (f : Fd) : fn_lacks_in [.d (bookD m g h l k), wI 0, wI 0] f = some (.d (encT ((needs g h).filter fun n => !hit n k)), f) := by
  have n16 := needs_few G.ok (h := h)
  exact fn_rt rfl (seq_ev (if_f (t_ev (m2_ev (call_ev (cons_ev rfl (cons_ev rfl (cons_ev rfl nil_ev))) (ev_moving M G hF hh hk f)) rfl rfl)) rfl) (seq_ev (set_ev (call_ev (cons_ev (m2_ev rfl rfl rfl) (cons_ev (m2_ev (m2_ev (m2_ev rfl rfl rfl) rfl rfl) rfl rfl) nil_ev)) (ev_needs G.ok hh))) (ret_ev (args_ev (cons_ev (lc_ev (it_ev rfl (walk_T _)) (lc_fil (needs g h) (p := fun n => !hit n k) (q := encX) (fun n hn => ⟨_, rfl, no_ev (t_ev (call_ev (cons_ev rfl (cons_ev rfl (cons_ev rfl nil_ev))) (ev_caught M G hF hh hk (needs_sub G.ok n hn) f))), fun _ => rfl⟩) (small n16))) nil_ev) (gTuple_L _)))))
theorem ev_right (f : Fd) : fn_rule_is_right [.d (bookD m g h l k), wI 0, wI 0] f = some (wB (meets (needs g h) k), f) := by
  have e0 := gEq_T ((needs g h).filter fun n => !hit n k) []
  have em : decide (((needs g h).filter fun n => !hit n k) = []) = meets (needs g h) k := by
    rw [fil_any]
    unfold meets
    rw [List.any_eq_not_all_not]
    simp
  rw [em] at e0
  exact fn_rt rfl (ret_ev (m2_ev (callN_ev (cons_ev rfl (cons_ev rfl nil_ev)) (cons_ev rfl nil_ev) (fn_rt rfl (seq_ev (drop_ev (call_ev (cons_ev rfl (cons_ev rfl nil_ev)) (ev_want_rule M G hF hh hk f))) (seq_ev (drop_ev (call_ev (cons_ev rfl (cons_ev rfl nil_ev)) (p := (.d .none, f)) (by rfl))) (ret_ev (call_ev (cons_ev rfl (cons_ev rfl (cons_ev rfl nil_ev))) (ev_lacks M G hF hh hk f))))))) (args_ev nil_ev rfl) e0))
end
end Y
end KMotB
section KMotA
set_option Elab.async false
set_option linter.all false
set_option maxRecDepth 100000
set_option maxHeartbeats 4000000
/-! The three motors. -/
namespace Y
open PySem PySem.Spec PyProof.Rows XS
theorem ffA (f : Fd) : fn_machine_fault [.d motA] f = some (.d .none, f) := by kernel_rfl
theorem nmA (f : Fd) : fn_is_names [.d (encX ["lit"])] f = some (wB true, f) := by kernel_rfl
theorem amA (f : Fd) : fn_is_names_among [.d (encX ["lit"]), .d (encX ["lit"])] f = some (wB true, f) := by kernel_rfl
theorem moA (f : Fd) : fn_moves_in [.d motA, .d (.str "lit"), wI 0] f = some (wB true, f) := by kernel_rfl
theorem mot_A : Mot motA "lit" := ⟨ffA, nmA, ⟨_, rfl, amA⟩, moA⟩
theorem ffB (f : Fd) : fn_machine_fault [.d motB] f = some (.d .none, f) := by kernel_rfl
theorem nmB (f : Fd) : fn_is_names [.d (encX ["lit"])] f = some (wB true, f) := by kernel_rfl
theorem amB (f : Fd) : fn_is_names_among [.d (encX ["lit"]), .d (encX ["lit"])] f = some (wB true, f) := by kernel_rfl
theorem moB (f : Fd) : fn_moves_in [.d motB, .d (.str "lit"), wI 0] f = some (wB true, f) := by kernel_rfl
theorem mot_B : Mot motB "lit" := ⟨ffB, nmB, ⟨_, rfl, amB⟩, moB⟩
theorem ffC (f : Fd) : fn_machine_fault [.d motC] f = some (.d .none, f) := by kernel_rfl
theorem nmC (f : Fd) : fn_is_names [.d (encX ["new"])] f = some (wB true, f) := by kernel_rfl
theorem amC (f : Fd) : fn_is_names_among [.d (encX ["new"]), .d (encX ["new", "still"])] f = some (wB true, f) := by kernel_rfl
theorem moC (f : Fd) : fn_moves_in [.d motC, .d (.str "new"), wI 0] f = some (wB true, f) := by kernel_rfl
theorem mot_C : Mot motC "new" := ⟨ffC, nmC, ⟨_, rfl, amC⟩, moC⟩
theorem mots {d : PyData} (h : d ∈ motors) : ∃ m l, d = .tuple [m, encX [l]] ∧ Mot m l := by
  unfold motors at h
  simp only [List.mem_cons, List.not_mem_nil, or_false] at h
  rcases h with rfl | rfl | rfl
  · exact ⟨_, _, rfl, mot_A⟩
  · exact ⟨_, _, rfl, mot_B⟩
  · exact ⟨_, _, rfl, mot_C⟩
end Y
end KMotA
section KAlikeA
set_option Elab.async false
set_option linter.all false
set_option maxRecDepth 100000
set_option maxHeartbeats 4000000
/-! Two trusts: what is asked where they are not alike. -/
namespace Y
open PySem PySem.Spec PyProof.Rows XS
def bPool : MS := (sSet 11 (m2 gCatL (mVar 11) (mLc [14] (mIt (mCall fn_law_subsets (mCons (mVar 4) mNil))) (gSet 14) mYes (bOne (mArgs gRepr (mCons (mArgs gTupD (mCons (mVar 12) (mCons (mVar 14) mNil))) mNil))))))
def bAsk : MS := (sApp 9 (mCallD fn_rule_is_right [wI 0] (mCons (mArgs gTupD (mCons (mVar 15) (mCons (mVar 13) (mCons (mArgs gTupD mNil) (mCons (mArgs gTupD (mCons (mArgs gTupD (mCons (mVar 12) (mCons (mVar 16) (mCons (mVar 14) (mCons (mDat (.str "any")) (mCons (mArgs gTupD mNil) mNil)))))) mNil)) (mCons (mArgs gTupD mNil) mNil)))))) (mCons (mDat (.int 0)) mNil))))
def tAlike : MS := (sSeq (sSet 11 (mArgs gLstD mNil)) (sSeq (sFor (mIt (mVar 4)) (gSet 12) bPool) (sSeq (sIf (mT (m2 gNotIn (mArgs gRepr (mCons (mVar 10) mNil)) (mVar 11))) (sRet (mDat (.bool false))) sNil) (sSeq (sTup (mVar 10) (gTupM 2 (gsCons (gSet 12) (gsCons (gSet 14) gsNil)))) (sSeq (sIf (mT (m2 gEq (mCall fn_law_meets (mCons (m2 gGet (mVar 3) (mVar 12)) (mCons (mVar 14) mNil))) (mCall fn_law_meets (mCons (m2 gGet (mVar 6) (mVar 12)) (mCons (mVar 14) mNil))))) (sRet (mDat (.bool false))) sNil) (sSeq (sTup (mCall fn_law_motor (mCons (mVar 0) mNil)) (gTupM 2 (gsCons (gSet 15) (gsCons (gSet 16) gsNil)))) (sSeq (sOwnL 9 mNil) (sSeq (sFor (mIt (mArgs gTupD (mCons (mVar 1) (mCons (mVar 2) mNil)))) (gSet 13) bAsk) (sFrz 9 (sRet (mCall fn_law_same (mCons (mVar 9) (mCons (mArgs gLstD (mCons (mCall fn_law_meets (mCons (m2 gGet (mVar 3) (mVar 12)) (mCons (mVar 14) mNil))) (mCons (mCall fn_law_meets (mCons (m2 gGet (mVar 6) (mVar 12)) (mCons (mVar 14) mNil))) mNil))) mNil)))))))))))))
theorem gCatL_S (a b : Ks) (h : a.length + b.length ≤ 100000) : gCatL (.d (.list (a.map .str))) (.d (.list (b.map .str))) = some (.d (.list ((a ++ b).map .str))) := by
  unfold gCatL
  simp only [List.length_map]
  rw [if_pos (le_lim h), List.map_append]
theorem gNin_S (x : Str) (b : Ks) : gNotIn (.d (.str x)) (.d (.list (b.map .str))) = some (wB (!decide (x ∈ b))) := by
  unfold gNotIn
  simp only [memOk_str, if_true, memOf_str]
theorem gEq_bool (a b : Bool) : gEq (wB a) (wB b) = some (wB (a == b)) := by cases a <;> cases b <;> rfl
theorem gTupD_rule (h l : Str) (k : Ks) : gTupD [.d (.str h), .d (encX [l]), .d (encX k), .d (.str "any"), .d (.tuple [])] = some (.d (ruleD h l k)) := by
  cases k <;> rfl
def shO (p : Str × Ks) : Str := (encO (some p)).shown
def poolOf (ns : Ks) (pre : Ks) : Ks := pre.flatMap fun h => (subs ns).map fun s => shO (h, s)
theorem poolOf_len {ns pre : Ks} (hn : ns.length ≤ 4) : (poolOf ns pre).length ≤ 16 * pre.length := by
  refine flat_len fun h _ => ?_
  rw [List.length_map]
  exact subs_len hn
theorem alike_tail {g o : List Row} {ns : Ks} (G : Good g ns) (O : Good o ns) (hF : Fam ns) {p : Str × Ks} (hp : partG g o ns = some p) {s5 s7 s8 s9 s11 s12 s13 s14 s15 s16 : Slot} (f : Fd) : ∃ f',
    tAlike [.v .f, .v (.d (encG g)), .v (.d (encG o)), .v (.t (tabN (needs g) ns)), .v (.d (encX ns)), s5, .v (.t (tabN (needs o) ns)), s7, s8, s9, .v (.d (encO (some p))), s11, s12, s13, s14, s15, s16] f = some (.rt (wB true), f') := by
  obtain ⟨hh, hk, hm⟩ := partG_some G O hF hp
  obtain ⟨h, k⟩ := p
  have hl := (fam_len hF).2
  let ρ : Slot → Slot → En := fun s11 s12 => [.v .f, .v (.d (encG g)), .v (.d (encG o)), .v (.t (tabN (needs g) ns)), .v (.d (encX ns)), s5, .v (.t (tabN (needs o) ns)), s7, s8, s9, .v (.d (encO (some (h, k)))), s11, s12, s13, s14, s15, s16]
  obtain ⟨ρ1, f1, e1, rfl, t12, rfl⟩ := forGo_all (g := gSet 12) (b := bPool) ns (ew := fun x => W.d (.str x)) (fun pre r f1 => f1 = f ∧ ∃ t12, r = ρ (.v (.d (.list ((poolOf ns pre).map .str)))) t12) (ρ := ρ (.v (.d (.list []))) s12) (f := f) ⟨rfl, _, rfl⟩ fun pre x post e r f1 ⟨ef, t12, er⟩ => by
    subst ef er
    have hx : x ∈ ns := by rw [e]; simp
    have pl := poolOf_len (pre := pre) hl
    have p4 : pre.length ≤ 4 := by
      have := congrArg List.length e
      simp only [List.length_append, List.length_cons] at this
      omega
    have sl := subs_len hl
    refine ⟨ρ (.v (.d (.list ((poolOf ns pre).map .str)))) (.v (.d (.str x))), _, f1, rfl, set_ev (m2_ev rfl (lc_ev (ds := ((subs ns).map fun s => shO (x, s)).map .str) (it_ev (call_ev (cons_ev rfl nil_ev) (ev_subs (walk_key ns) hl)) (walk_L _)) ?_) (gCatL_S (poolOf ns pre) ((subs ns).map fun s => shO (x, s)) ?_)), rfl, .v (.d (.str x)), ?_⟩
    · rw [List.map_map]
      exact lc_all (subs ns) (fun s hs => ⟨_, rfl, args_ev (cons_ev (args_ev (cons_ev rfl (cons_ev rfl nil_ev)) rfl) nil_ev) (gRepr_of (repOk_of (rk_O (p := (x, s)) hF hx (subs_mem.mp hs)) rfl (by decide) (by decide)))⟩) (le_lim (by omega))
    · rw [List.length_map]
      omega
    · show _ = ρ (.v (.d (.list ((pre ++ [x]).flatMap (fun h => (subs ns).map fun s => shO (h, s)) |>.map .str)))) _
      rw [List.flatMap_append]
      simp only [List.flatMap_cons, List.flatMap_nil, List.append_nil]
      rfl
  obtain ⟨md, f2, e2, hmd⟩ := motor_ev f1
  obtain ⟨m, l, rfl, M⟩ := mots hmd
  have inP : (encO (some (h, k))).shown ∈ poolOf ns ns := List.mem_flatMap.mpr ⟨h, hh, List.mem_map.mpr ⟨k, subs_mem.mpr hk, rfl⟩⟩
  have mg : ∀ f, fn_law_meets [.d (encT (needs g h)), .d (encX k)] f = some (wB (meets (needs g h) k), f) := fun f => ev_lmeets (by have := needs_few G.ok (h := h); omega) fun n hn => sm_sub hl (needs_sub G.ok n hn)
  have mo : ∀ f, fn_law_meets [.d (encT (needs o h)), .d (encX k)] f = some (wB (meets (needs o h) k), f) := fun f => ev_lmeets (by have := needs_few O.ok (h := h); omega) fun n hn => sm_sub hl (needs_sub O.ok n hn)
  have hne : (meets (needs g h) k == meets (needs o h) k) = false := beq_eq_false_iff_ne.mpr hm
  let ρ2 : Slot → Slot → En := fun s9 s13 => [.v .f, .v (.d (encG g)), .v (.d (encG o)), .v (.t (tabN (needs g) ns)), .v (.d (encX ns)), s5, .v (.t (tabN (needs o) ns)), s7, s8, s9, .v (.d (encO (some (h, k)))), .v (.d (.list ((poolOf ns ns).map .str))), .v (.d (.str h)), s13, .v (.d (encX k)), .v (.d m), .v (.d (encX [l]))]
  obtain ⟨ρ3, f3, e3, rfl, t13, rfl⟩ := forGo_all (g := gSet 13) (b := bAsk) [g, o] (ew := fun x => W.d (encG x)) (fun pre r f3 => f3 = f2 ∧ ∃ t13, r = ρ2 (.own (.lst (pre.map fun x => .bool (meets (needs x h) k)))) t13) (ρ := ρ2 (.own (.lst [])) s13) (f := f2) ⟨rfl, _, rfl⟩ fun pre x post e r f3 ⟨ef, t13, er⟩ => by
    subst ef er
    have X : Good x ns := by
      have hx : x ∈ [g, o] := by rw [e]; simp
      simp only [List.mem_cons, List.not_mem_nil, or_false] at hx
      rcases hx with rfl | rfl
      · exact G
      · exact O
    have p4 : pre.length ≤ 4 := by
      have := congrArg List.length e
      simp only [List.length_append, List.length_cons, List.length_nil] at this
      omega
    refine ⟨ρ2 (.own (.lst (pre.map fun x => .bool (meets (needs x h) k)))) (.v (.d (encG x))), _, f3, rfl, app_ev (callD_ev (cons_ev (w := .d (bookD m x h l k)) (args_ev (cons_ev rfl (cons_ev rfl (cons_ev (args_ev nil_ev rfl) (cons_ev (args_ev (cons_ev (args_ev (cons_ev rfl (cons_ev rfl (cons_ev rfl (cons_ev rfl (cons_ev (args_ev nil_ev rfl) nil_ev))))) (gTupD_rule h l k)) nil_ev) rfl) (cons_ev (args_ev nil_ev rfl) nil_ev))))) rfl) (cons_ev rfl nil_ev)) (ev_right M X hF hh hk f3)) rfl (lt_lim (by rw [List.length_map]; omega)), rfl, .v (.d (encG x)), ?_⟩
    rw [List.map_append]
    rfl
  have ok2 : repOk (.list [.bool (meets (needs g h) k), .bool (meets (needs o h) k)]) = true := repOk_of (rk_lst (n := 2) (k := 100) (m := 0) (c := 10) (fun d hd => by
    simp only [List.mem_cons, List.not_mem_nil, or_false] at hd
    rcases hd with rfl | rfl <;> exact rk_bool _) (Nat.le_refl _) (by decide)) rfl (by decide) (by decide)
  exact ⟨f3, seq_ev (set_ev (args_ev nil_ev rfl)) (seq_ev (for_ev (it_ev rfl (walk_key ns)) e1) (seq_ev (if_f (t_ev (m2_ev (args_ev (cons_ev rfl nil_ev) (gRepr_of (repOk_of (rk_O (p := (h, k)) hF hh hk) rfl (by decide) (by decide)))) rfl ((gNin_S _ _).trans (by rw [decide_eq_true inP]; rfl)))) rfl) (seq_ev (tup_ev rfl rfl) (seq_ev (if_f (t_ev (m2_ev (call_ev (cons_ev (m2_ev rfl rfl (gGet_tab (needs g) hh)) (cons_ev rfl nil_ev)) (mg f1)) (call_ev (cons_ev (m2_ev rfl rfl (gGet_tab (needs o) hh)) (cons_ev rfl nil_ev)) (mo f1)) ((gEq_bool _ _).trans (by rw [hne])))) rfl) (seq_ev (tup_ev (call_ev (cons_ev rfl nil_ev) e2) rfl) (seq_ev (own_ev nil_ev rfl (by decide)) (seq_ev (for_ev (it_ev (ws := [g, o].map fun x => W.d (encG x)) (args_ev (cons_ev rfl (cons_ev rfl nil_ev)) rfl) rfl) e3) (frz_ev rfl (ret_ev (call_ev (cons_ev rfl (cons_ev (args_ev (cons_ev (call_ev (cons_ev (m2_ev rfl rfl (gGet_tab (needs g) hh)) (cons_ev rfl nil_ev)) (mg f3)) (cons_ev (call_ev (cons_ev (m2_ev rfl rfl (gGet_tab (needs o) hh)) (cons_ev rfl nil_ev)) (mo f3)) nil_ev)) rfl) nil_ev)) (ev_same ok2 f3)))))))))))⟩
end Y
end KAlikeA
section KAlikeB
set_option Elab.async false
set_option linter.all false
set_option maxRecDepth 100000
set_option maxHeartbeats 4000000
/-! Two trusts of the same houses. -/
namespace Y
open PySem PySem.Spec PyProof.Rows XS
open PySem.W (alike alikeAll)
theorem nm_ev {g : List Row} {ns : Ks} (G : Good g ns) (hF : Fam ns) {ρ : En} {i v : Nat} {f : Fd} (e1 : mVar i ρ f = some (.d (encG g), f)) (e2 : ∀ r, ∃ ρ1, gSet v (.d (encR r)) (cl [v] ρ) = some ρ1 ∧ mVar v ρ1 f = some (.d (encR r), f)) :
    (mArgs gTuple (mCons (mLc [v] (mIt (mVar i)) (gSet v) mYes (bOne (m2 gIx (mVar v) (mDat (.int 0))))) mNil)) ρ f = some (.d (encX ns), f) := by
  have hl := fam_len hF
  have gl : g.length = ns.length := by rw [← G.ok.nm]; unfold houses; rw [List.length_map]
  refine args_ev (cons_ev (lc_ev (ds := ns.map .str) (it_ev e1 (walk_G g)) ?_) nil_ev) (gTuple_S ns)
  rw [show ns.map PyData.str = g.map fun r => PyData.str r.1 by rw [← G.ok.nm]; unfold houses; rw [List.map_map]; rfl]
  exact lc_all g (fun r hr => by
    obtain ⟨ρ1, a, b⟩ := e2 r
    exact ⟨ρ1, a, m2_ev b rfl rfl⟩) (small (by omega))
theorem eqvAll_T : ∀ a b : List (List Ks), PyData.eqvAll (a.map encT) (b.map encT) = decide (a = b)
  | [], [] => by simp [PyData.eqvAll]
  | [], _ :: _ => by simp [PyData.eqvAll]
  | _ :: _, [] => by simp [PyData.eqvAll]
  | x :: a, y :: b => by
    show (PyData.eqv (encT x) (encT y) && PyData.eqvAll (a.map encT) (b.map encT)) = _
    rw [eqv_T, eqvAll_T a b]
    simp
theorem alike_T (a b : List Ks) : alike (encT a) (encT b) = true := alikeAll_key a b
theorem alikeAll_T : ∀ a b : List (List Ks), alikeAll (a.map encT) (b.map encT) = true
  | [], _ => by simp [alikeAll]
  | _ :: _, [] => by simp [alikeAll]
  | x :: a, y :: b => by
    show (alike (encT x) (encT y) && alikeAll (a.map encT) (b.map encT)) = true
    rw [alikeAll_T a b, alike_T]
    rfl
theorem depthAll_T : ∀ a : List (List Ks), PyData.depthAll (a.map encT) ≤ 2
  | [] => Nat.zero_le _
  | x :: a => by
    show max (PyData.depth (encT x)) (PyData.depthAll (a.map encT)) ≤ 2
    have := depthAll_T a
    have h1 : PyData.depth (encT x) ≤ 2 := Nat.succ_le_succ (depthAll_key x)
    omega
theorem gEq_LT (a b : List (List Ks)) : gEq (.d (.list (a.map encT))) (.d (.list (b.map encT))) = some (wB (decide (a = b))) := by
  have hp : pairOk (.list (a.map encT)) (.list (b.map encT)) = true := by
    unfold pairOk
    rw [show alike (.list (a.map encT)) (.list (b.map encT)) = true from alikeAll_T a b]
    have h1 : PyData.depth (.list (a.map encT)) ≤ 3 := Nat.succ_le_succ (depthAll_T a)
    simp
    omega
  unfold gEq
  simp only [hp, if_true]
  rw [show PyData.eqv (.list (a.map encT)) (.list (b.map encT)) = decide (a = b) from eqvAll_T a b]
/-- the needs are the same, house by house -/
def due (g o : List Row) (ns : Ks) : Bool := ns.all fun h => decide (needs g h = needs o h)
theorem due_iff {g o : List Row} {ns : Ks} : due g o ns = true ↔ ∀ h ∈ ns, needs g h = needs o h := by
  unfold due
  rw [List.all_eq_true]
  exact ⟨fun a h m => of_decide_eq_true (a h m), fun a h m => decide_eq_true (a h m)⟩
theorem due_comm (g o : List Row) (ns : Ks) : due o g ns = due g o ns := by
  rw [Bool.eq_iff_iff, due_iff, due_iff]
  exact ⟨fun a h m => (a h m).symm, fun a h m => (a h m).symm⟩
theorem crosses_inj {g o : List Row} {ns : Ks} (G : Good g ns) (O : Good o ns) (hF : Fam ns) {h : Str} (e : crosses (needs g h) = crosses (needs o h)) : needs g h = needs o h := by
  have nd := G.ok.nd
  have so := fam_so hF
  rw [crosses_crossed nd so (needs_sub G.ok), crosses_crossed nd so (needs_sub O.ok)] at e
  rw [← needs_idem G.ok, ← needs_idem O.ok, ← crossed_crossed nd (needs_sub G.ok), ← crossed_crossed nd (needs_sub O.ok), e]
theorem least_due {g o : List Row} {ns : Ks} (G : Good g ns) (O : Good o ns) (hF : Fam ns) : decide ((ns.map fun h => crosses (needs g h)) = ns.map fun h => crosses (needs o h)) = due g o ns := by
  rw [Bool.eq_iff_iff, due_iff, decide_eq_true_eq, List.map_inj_left]
  exact ⟨fun a h m => crosses_inj G O hF (a h m), fun a h m => by rw [a h m]⟩
theorem ev_due {g o : List Row} {ns : Ks} (G : Good g ns) (O : Good o ns) (hF : Fam ns) (f : Fd) : fn_trusts_alike [.d (encG g), .d (encG o)] f = some (wB (due g o ns), f) := ev_alike G O hF f
theorem ev_due2 {g o : List Row} {ns : Ks} (G : Good g ns) (O : Good o ns) (hF : Fam ns) (f : Fd) : fn_trusts_alike [.d (encG o), .d (encG g)] f = some (wB (due g o ns), f) := by
  rw [← due_comm]
  exact ev_alike O G hF f
theorem ev_alike_right {g o : List Row} {ns : Ks} (G : Good g ns) (O : Good o ns) (hF : Fam ns) (f : Fd) : ∃ f', fn_law_are_alike_right [.f, .d (encG g), .d (encG o), .t (tabN (needs g) ns)] f = some (wB true, f') := by
  have hl := (fam_len hF).2
  have X : ∀ x ∈ [g, o], Good x ns := fun x hx => by
    simp only [List.mem_cons, List.not_mem_nil, or_false] at hx
    rcases hx with rfl | rfl
    · exact G
    · exact O
  have eL : ∀ ρ : En, mVar 1 ρ f = some (.d (encG g), f) → mVar 2 ρ f = some (.d (encG o), f) → (∀ x, ∃ ρ1, gSet 13 (.d (encG x)) (cl [13] ρ) = some ρ1 ∧ mVar 4 ρ1 f = some (.d (encX ns), f) ∧ ∀ h, ∃ ρ2, gSet 12 (.d (.str h)) (cl [12] ρ1) = some ρ2 ∧ mVar 13 ρ2 f = some (.d (encG x), f) ∧ mVar 12 ρ2 f = some (.d (.str h), f)) →
      (mLc [13] (mIt (mArgs gTupD (mCons (mVar 1) (mCons (mVar 2) mNil)))) (gSet 13) mYes (bOne (mLc [12] (mIt (mVar 4)) (gSet 12) mYes (bOne (mCall fn_least_lots (mCons (mVar 13) (mCons (mVar 12) mNil))))))) ρ f = some (.d (.list [.list ((ns.map fun h => crosses (needs g h)).map encT), .list ((ns.map fun h => crosses (needs o h)).map encT)]), f) := fun ρ h1 h2 h3 => by
    refine lc_ev (ws := [g, o].map fun x => W.d (encG x)) (it_ev (args_ev (cons_ev h1 (cons_ev h2 nil_ev)) rfl) rfl) (lc_all [g, o] (q := fun x => .list ((ns.map fun h => crosses (needs x h)).map encT)) (fun x hx => ?_) (small (by simp)))
    obtain ⟨ρ1, a1, a2, a3⟩ := h3 x
    refine ⟨ρ1, a1, lc_ev (it_ev a2 (walk_key ns)) ?_⟩
    rw [List.map_map]
    exact lc_all ns (fun h hh => by
      obtain ⟨ρ2, b1, b2, b3⟩ := a3 h
      exact ⟨ρ2, b1, call_ev (cons_ev b2 (cons_ev b3 nil_ev)) (ev_least_lots (X x hx) hF hh f)⟩) (small (by omega))
  have ok3 : ∀ b, repOk (.list [.bool b, .bool b, .bool b]) = true := fun b => repOk_of (rk_lst (n := 3) (k := 100) (m := 0) (c := 10) (fun d hd => by
    simp only [List.mem_cons, List.not_mem_nil, or_false] at hd
    rcases hd with rfl | rfl | rfl <;> exact rk_bool _) (Nat.le_refl _) (by decide)) rfl (by decide) (by decide)
  have eP := ev_parting G O hF f
  have head : ∀ {b : MS} {p : R × Fd}, b [.v .f, .v (.d (encG g)), .v (.d (encG o)), .v (.t (tabN (needs g) ns)), .v (.d (encX ns)), .v (.d (.list ((safes o ns).map encS))), .v (.t (tabN (needs o) ns)), .v (wB (due g o ns)), .v (.d (.list [.list ((ns.map fun h => crosses (needs g h)).map encT), .list ((ns.map fun h => crosses (needs o h)).map encT)])), .v (.d (.list [.bool (due g o ns), .bool (due g o ns), .bool (due g o ns)])), .v (.d (encO (partG g o ns))), .un, .un, .un, .un, .un, .un] f = some p → 
      sSeq (sSet 4 (mArgs gTuple (mCons (mLc [13] (mIt (mVar 1)) (gSet 13) mYes (bOne (m2 gIx (mVar 13) (mDat (.int 0))))) mNil))) (sSeq (sSet 5 (mCall fn_law_safes (mCons (mVar 2) mNil))) (sSeq (sSet 6 (mArgs gDict (mCons (mLc [12] (mIt (mVar 4)) (gSet 12) mYes (bOne (mArgs gTupD (mCons (mVar 12) (mCons (mCall fn_law_needs (mCons (mVar 2) (mCons (mVar 5) (mCons (mVar 12) mNil)))) mNil))))) mNil))) (sSeq (sSet 7 (m2 gTabEq (mVar 3) (mVar 6))) (sSeq (sSet 8 (mLc [13] (mIt (mArgs gTupD (mCons (mVar 1) (mCons (mVar 2) mNil)))) (gSet 13) mYes (bOne (mLc [12] (mIt (mVar 4)) (gSet 12) mYes (bOne (mCall fn_least_lots (mCons (mVar 13) (mCons (mVar 12) mNil)))))))) (sSeq (sOwnL 9 (mCons (mCall fn_trusts_alike (mCons (mVar 1) (mCons (mVar 2) mNil))) (mCons (mCall fn_trusts_alike (mCons (mVar 2) (mCons (mVar 1) mNil))) (mCons (m2 gEq (m2 gIx (mVar 8) (mDat (.int 0))) (m2 gIx (mVar 8) (mDat (.int 1)))) mNil)))) (sSeq (sFrz 9 (sIf (tNo (mT (mCall fn_law_same (mCons (mVar 9) (mCons (m2 gRepL (mArgs gLstD (mCons (mVar 7) mNil)) (mDat (.int 3))) mNil))))) (sRet (mDat (.bool false))) sNil)) (sSeq (sSet 10 (mCall fn_parting_lot (mCons (mVar 1) (mCons (mVar 2) mNil)))) b))))))) [.v .f, .v (.d (encG g)), .v (.d (encG o)), .v (.t (tabN (needs g) ns)), .un, .un, .un, .un, .un, .un, .un, .un, .un, .un, .un, .un, .un] f = some p := fun {b p} hb =>
    seq_ev (set_ev (nm_ev G hF rfl fun r => ⟨_, rfl, rfl⟩)) (seq_ev (set_ev (call_ev (cons_ev rfl nil_ev) (ev_lsafes O.ok))) (seq_ev (set_ev (tab_ev O hF rfl fun h => ⟨_, rfl, rfl, rfl, rfl⟩)) (seq_ev (set_ev (m2_ev rfl rfl (gTabEq_tab (needs g) (needs o) ns))) (seq_ev (set_ev (eL _ rfl rfl fun x => ⟨_, rfl, rfl, fun h => ⟨_, rfl, rfl, rfl⟩⟩)) (seq_ev (own_ev (cons_ev (call_ev (cons_ev rfl (cons_ev rfl nil_ev)) (ev_due G O hF f)) (cons_ev (call_ev (cons_ev rfl (cons_ev rfl nil_ev)) (ev_due2 G O hF f)) (cons_ev (m2_ev (m2_ev rfl rfl rfl) (m2_ev rfl rfl rfl) ((gEq_LT _ _).trans (by rw [least_due G O hF]))) nil_ev))) rfl (small (by simp))) (seq_ev (frz_ev rfl (if_f (no_ev (c := true) (t_ev (call_ev (cons_ev rfl (cons_ev (m2_ev (args_ev (cons_ev rfl nil_ev) rfl) rfl rfl) nil_ev)) (ev_same (ok3 _) f)))) rfl)) (seq_ev (set_ev (call_ev (cons_ev rfl (cons_ev rfl nil_ev)) eP)) hb)))))))
  cases hp : partG g o ns with
  | none =>
    have hd : due g o ns = true := due_iff.mpr ((partG_none G O hF).mp hp)
    rw [hp, hd] at head
    exact ⟨f, fn_rt rfl (head (seq_rt (if_t (o_ev (c := true) (d := true) (t_ev rfl) fun h => by cases h) (ret_ev (and_ev (c := true) (d := true) rfl fun _ => m2_ev rfl rfl rfl)))))⟩
  | some p =>
    have hd : due g o ns = false := by
      rw [← Bool.not_eq_true]
      intro z
      rw [(partG_none G O hF).mpr (due_iff.mp z)] at hp
      cases hp
    rw [hp, hd] at head
    obtain ⟨f', e⟩ := alike_tail G O hF hp (s5 := .v (.d (.list ((safes o ns).map encS)))) (s7 := .v (wB false)) (s8 := .v (.d (.list [.list ((ns.map fun h => crosses (needs g h)).map encT), .list ((ns.map fun h => crosses (needs o h)).map encT)]))) (s9 := .v (.d (.list [.bool false, .bool false, .bool false]))) (s11 := .un) (s12 := .un) (s13 := .un) (s14 := .un) (s15 := .un) (s16 := .un) f
    exact ⟨f', fn_rt rfl (head (seq_ev (if_f (o_ev (c := false) (d := false) (t_ev rfl) fun _ => t_ev (m2_ev rfl rfl rfl)) rfl) e))⟩
end Y
end KAlikeB
section KRight
set_option Elab.async false
set_option linter.all false
set_option maxRecDepth 100000
set_option maxHeartbeats 4000000
/-! The law gives True. -/
namespace Y
open PySem PySem.Spec PyProof.Rows XS
def bFar : MS := (sSeq (sIf (tNo (mT (mCall fn_law_are_alike_right (mCons (mVar 1) (mCons (mVar 2) (mCons (mVar 5) (mCons (mVar 3) mNil))))))) (sRet (mDat (.bool false))) sNil) (sIf (mT (m2 gNe (mCall fn_trusts_alike (mCons (mVar 4) (mCons (mVar 5) mNil))) (mCall fn_trusts_alike (mCons (mVar 2) (mCons (mVar 5) mNil))))) (sRet (mDat (.bool false))) sNil))
theorem right_true : RightTrue := fun f => by
  obtain ⟨g, ns, f1, e1, G, hF⟩ := guild_ev f
  have T := thin_good G
  have dueT : due g (thin g) ns = true := due_iff.mpr fun h hh => (thin_needs G hh).symm
  have partT : partG g (thin g) ns = none := (partG_none G T hF).mpr fun h hh => (thin_needs G hh).symm
  have q1 := ev_due G T hF f1
  have q2 := ev_parting G T hF f1
  rw [dueT] at q1
  rw [partT] at q2
  have ok2 : repOk (.list [.bool true, .none]) = true := by decide +kernel
  obtain ⟨o1, f2, e2, O1⟩ := near_ev f1 hF G
  obtain ⟨o2, f3, e3, O2⟩ := near_ev f2 hF T
  let ρ : Slot → En := fun s5 => [.un, .v .f, .v (.d (encG g)), .v (.t (tabN (needs g) ns)), .v (.d (encG (thin g))), s5, .v (.d (encX ns)), .v (.d (.list ((safes g ns).map encS))), .un, .un]
  obtain ⟨ρ', f4, e4, _⟩ := forGo_all (g := gSet 5) (b := bFar) [o1, o2] (ew := fun x => W.d (encG x)) (fun pre r f' => ∃ s5, r = ρ s5) (ρ := ρ .un) (f := f3) ⟨_, rfl⟩ fun pre x post e r f5 ⟨s5, er⟩ => by
    subst er
    have X : Good x ns := by
      have hx : x ∈ [o1, o2] := by rw [e]; simp
      simp only [List.mem_cons, List.not_mem_nil, or_false] at hx
      rcases hx with rfl | rfl
      · exact O1
      · exact O2
    obtain ⟨f6, e5⟩ := ev_alike_right G X hF f5
    have d1 : due (thin g) x ns = due g x ns := by
      rw [Bool.eq_iff_iff, due_iff, due_iff]
      exact ⟨fun a h m => by rw [← thin_needs G m]; exact a h m, fun a h m => by rw [thin_needs G m]; exact a h m⟩
    have a1 := ev_due T X hF f6
    rw [d1] at a1
    exact ⟨ρ (.v (.d (encG x))), ρ (.v (.d (encG x))), f6, rfl, seq_ev (if_f (no_ev (c := true) (t_ev (call_ev (cons_ev rfl (cons_ev rfl (cons_ev rfl (cons_ev rfl nil_ev)))) e5))) rfl) (if_f (t_ev (m2_ev (call_ev (cons_ev rfl (cons_ev rfl nil_ev)) a1) (call_ev (cons_ev rfl (cons_ev rfl nil_ev)) (ev_due G X hF f6)) ((gNe_bool _ _).trans (by rw [bne_self_eq_false])))) rfl), _, rfl⟩
  refine ⟨f4, seq_ev (set_ev (call_ev (cons_ev rfl (cons_ev rfl nil_ev)) e1)) (seq_ev (tup_ev (args_ev (cons_ev (nm_ev G hF rfl fun r => ⟨_, rfl, rfl⟩) (cons_ev (call_ev (cons_ev rfl nil_ev) (ev_lsafes G.ok)) nil_ev)) rfl) rfl) (seq_ev (set_ev (tab_ev G hF rfl fun h => ⟨_, rfl, rfl, rfl, rfl⟩)) (seq_ev (if_f (no_ev (c := true) (t_ev (call_ev (cons_ev rfl (cons_ev rfl (cons_ev rfl nil_ev))) (ev_told G hF f1)))) rfl) (seq_ev (set_ev (call_ev (cons_ev rfl nil_ev) (ev_lthin G.ok))) (seq_ev (if_f (no_ev (c := true) (t_ev (call_ev (cons_ev (args_ev (cons_ev (call_ev (cons_ev rfl (cons_ev rfl nil_ev)) q1) (cons_ev (call_ev (cons_ev rfl (cons_ev rfl nil_ev)) q2) nil_ev)) rfl) (cons_ev (args_ev (cons_ev rfl (cons_ev rfl nil_ev)) rfl) nil_ev)) (ev_same ok2 f1)))) rfl) (seq_ev (for_ev (it_ev (ws := [o1, o2].map fun x => W.d (encG x)) (args_ev (cons_ev (call_ev (cons_ev rfl (cons_ev rfl (cons_ev rfl nil_ev))) e2) (cons_ev (call_ev (cons_ev rfl (cons_ev rfl (cons_ev rfl nil_ev))) e3) nil_ev)) rfl) rfl) e4) (ret_ev rfl)))))))⟩
end Y
end KRight
section KFacts
set_option Elab.async false
set_option linter.all false
set_option maxRecDepth 100000
set_option maxHeartbeats 4000000
/-! The walk, printed by gen.py. -/
namespace Y
open PySem PySem.Spec PyProof.Rows L2

section
variable {K : PySem.W.Frag} {mg : Str → Option Value} {h : Heap}
def mkDf {x : Str} {i : Nat} {ps : List Str} {f : Addr} {oc kV doc pm cdv ct : Value} {od an : Option Addr} {osl : Array (Option Value)} (X : K.In h) (G : h.Ns mainGlobals mg) (a : PySem.W.nsIn K mainGlobals x = some (some (.ref f)))
    (l : K.lookup f = some ⟨oc, od, .func (PySem.W.fnOf x x (defArgs (topS i)) (defBody (topS i)) (defScope (topS i)) .none kV doc pm an cdv ct), osl⟩) (c : PySem.W.codeIn K cdv x = true) (k : PySem.W.keepIn K (.ref f) = true)
    (hb : ∀ us : List Value, us.length = ps.length → bindArgs (PySem.W.fnOf x x (defArgs (topS i)) (defBody (topS i)) (defScope (topS i)) .none kV doc pm an cdv ct) ⟨us, []⟩ = pure (ps.zip us)) : Df K mg x i ps :=
  ⟨f, _, PySem.W.mg_of X G a, k, ⟨⟨oc, od, .none, kV, doc, pm, an, cdv, ct, osl, rfl, l, c⟩⟩, .all hb⟩
theorem mkDd {x : Str} {i : Nat} {ps : List Str} {dv : List V} {f : Addr} {oc dV kV doc pm cdv ct : Value} {od an : Option Addr} {osl : Array (Option Value)} (X : K.In h) (G : h.Ns mainGlobals mg) (a : PySem.W.nsIn K mainGlobals x = some (some (.ref f)))
    (l : K.lookup f = some ⟨oc, od, .func (PySem.W.fnOf x x (defArgs (topS i)) (defBody (topS i)) (defScope (topS i)) dV kV doc pm an cdv ct), osl⟩) (c : PySem.W.codeIn K cdv x = true) (k : PySem.W.keepIn K (.ref f) = true)
    (hb : ∃ ds, Vals dv ds ∧ Binds K (PySem.W.fnOf x x (defArgs (topS i)) (defBody (topS i)) (defScope (topS i)) dV kV doc pm an cdv ct) ps ds) : Nonempty (Dd K mg x i ps dv) := by
  obtain ⟨ds, h1, h2⟩ := hb
  exact ⟨⟨f, _, PySem.W.mg_of X G a, k, ⟨⟨oc, od, dV, kV, doc, pm, an, cdv, ct, osl, rfl, l, c⟩⟩, ds, h2, h1⟩⟩

theorem bd_is_integer (kV doc pm cdv ct : Value) (an : Option Addr) (us : List Value) (hl : us.length = (["thing"] : List Str).length) : bindArgs (PySem.W.fnOf "is_integer" "is_integer" (defArgs (topS 4)) (defBody (topS 4)) (defScope (topS 4)) .none kV doc pm an cdv ct) ⟨us, []⟩ = pure ((["thing"] : List Str).zip us) := match us, hl with | [_], _ => by rfl
theorem bd_is_number (kV doc pm cdv ct : Value) (an : Option Addr) (us : List Value) (hl : us.length = (["thing"] : List Str).length) : bindArgs (PySem.W.fnOf "is_number" "is_number" (defArgs (topS 5)) (defBody (topS 5)) (defScope (topS 5)) .none kV doc pm an cdv ct) ⟨us, []⟩ = pure ((["thing"] : List Str).zip us) := match us, hl with | [_], _ => by rfl
theorem bd_is_index (kV doc pm cdv ct : Value) (an : Option Addr) (us : List Value) (hl : us.length = (["thing", "many"] : List Str).length) : bindArgs (PySem.W.fnOf "is_index" "is_index" (defArgs (topS 6)) (defBody (topS 6)) (defScope (topS 6)) .none kV doc pm an cdv ct) ⟨us, []⟩ = pure ((["thing", "many"] : List Str).zip us) := match us, hl with | [_, _], _ => by rfl
theorem bd_is_among (kV doc pm cdv ct : Value) (an : Option Addr) (us : List Value) (hl : us.length = (["thing", "names"] : List Str).length) : bindArgs (PySem.W.fnOf "is_among" "is_among" (defArgs (topS 7)) (defBody (topS 7)) (defScope (topS 7)) .none kV doc pm an cdv ct) ⟨us, []⟩ = pure ((["thing", "names"] : List Str).zip us) := match us, hl with | [_, _], _ => by rfl
theorem bd_is_name (kV doc pm cdv ct : Value) (an : Option Addr) (us : List Value) (hl : us.length = (["thing"] : List Str).length) : bindArgs (PySem.W.fnOf "is_name" "is_name" (defArgs (topS 8)) (defBody (topS 8)) (defScope (topS 8)) .none kV doc pm an cdv ct) ⟨us, []⟩ = pure ((["thing"] : List Str).zip us) := match us, hl with | [_], _ => by rfl
theorem bd_is_tuple_of (kV doc pm cdv ct : Value) (an : Option Addr) (us : List Value) (hl : us.length = (["thing", "many"] : List Str).length) : bindArgs (PySem.W.fnOf "is_tuple_of" "is_tuple_of" (defArgs (topS 9)) (defBody (topS 9)) (defScope (topS 9)) .none kV doc pm an cdv ct) ⟨us, []⟩ = pure ((["thing", "many"] : List Str).zip us) := match us, hl with | [_, _], _ => by rfl
theorem bd_is_pair (kV doc pm cdv ct : Value) (an : Option Addr) (us : List Value) (hl : us.length = (["thing"] : List Str).length) : bindArgs (PySem.W.fnOf "is_pair" "is_pair" (defArgs (topS 10)) (defBody (topS 10)) (defScope (topS 10)) .none kV doc pm an cdv ct) ⟨us, []⟩ = pure ((["thing"] : List Str).zip us) := match us, hl with | [_], _ => by rfl
theorem bd_are_rising (kV doc pm cdv ct : Value) (an : Option Addr) (us : List Value) (hl : us.length = (["parts"] : List Str).length) : bindArgs (PySem.W.fnOf "are_rising" "are_rising" (defArgs (topS 11)) (defBody (topS 11)) (defScope (topS 11)) .none kV doc pm an cdv ct) ⟨us, []⟩ = pure ((["parts"] : List Str).zip us) := match us, hl with | [_], _ => by rfl
theorem bd_is_names (kV doc pm cdv ct : Value) (an : Option Addr) (us : List Value) (hl : us.length = (["thing"] : List Str).length) : bindArgs (PySem.W.fnOf "is_names" "is_names" (defArgs (topS 12)) (defBody (topS 12)) (defScope (topS 12)) .none kV doc pm an cdv ct) ⟨us, []⟩ = pure ((["thing"] : List Str).zip us) := match us, hl with | [_], _ => by rfl
theorem bd_is_names_among (kV doc pm cdv ct : Value) (an : Option Addr) (us : List Value) (hl : us.length = (["thing", "names"] : List Str).length) : bindArgs (PySem.W.fnOf "is_names_among" "is_names_among" (defArgs (topS 13)) (defBody (topS 13)) (defScope (topS 13)) .none kV doc pm an cdv ct) ⟨us, []⟩ = pure ((["thing", "names"] : List Str).zip us) := match us, hl with | [_, _], _ => by rfl
theorem bd_are_sets_among (kV doc pm cdv ct : Value) (an : Option Addr) (us : List Value) (hl : us.length = (["thing", "names"] : List Str).length) : bindArgs (PySem.W.fnOf "are_sets_among" "are_sets_among" (defArgs (topS 14)) (defBody (topS 14)) (defScope (topS 14)) .none kV doc pm an cdv ct) ⟨us, []⟩ = pure ((["thing", "names"] : List Str).zip us) := match us, hl with | [_, _], _ => by rfl
theorem bd_are_indexes (kV doc pm cdv ct : Value) (an : Option Addr) (us : List Value) (hl : us.length = (["thing", "size", "many"] : List Str).length) : bindArgs (PySem.W.fnOf "are_indexes" "are_indexes" (defArgs (topS 15)) (defBody (topS 15)) (defScope (topS 15)) .none kV doc pm an cdv ct) ⟨us, []⟩ = pure ((["thing", "size", "many"] : List Str).zip us) := match us, hl with | [_, _, _], _ => by rfl
theorem bd_are_numbers (kV doc pm cdv ct : Value) (an : Option Addr) (us : List Value) (hl : us.length = (["thing", "size"] : List Str).length) : bindArgs (PySem.W.fnOf "are_numbers" "are_numbers" (defArgs (topS 16)) (defBody (topS 16)) (defScope (topS 16)) .none kV doc pm an cdv ct) ⟨us, []⟩ = pure ((["thing", "size"] : List Str).zip us) := match us, hl with | [_, _], _ => by rfl
theorem bd_machine_fault (kV doc pm cdv ct : Value) (an : Option Addr) (us : List Value) (hl : us.length = (["thing"] : List Str).length) : bindArgs (PySem.W.fnOf "machine_fault" "machine_fault" (defArgs (topS 17)) (defBody (topS 17)) (defScope (topS 17)) .none kV doc pm an cdv ct) ⟨us, []⟩ = pure ((["thing"] : List Str).zip us) := match us, hl with | [_], _ => by rfl
theorem bd_is_triple_from (kV doc pm cdv ct : Value) (an : Option Addr) (us : List Value) (hl : us.length = (["thing"] : List Str).length) : bindArgs (PySem.W.fnOf "is_triple_from" "is_triple_from" (defArgs (topS 18)) (defBody (topS 18)) (defScope (topS 18)) .none kV doc pm an cdv ct) ⟨us, []⟩ = pure ((["thing"] : List Str).zip us) := match us, hl with | [_], _ => by rfl
theorem bd_trust_fault (kV doc pm cdv ct : Value) (an : Option Addr) (us : List Value) (hl : us.length = (["thing"] : List Str).length) : bindArgs (PySem.W.fnOf "trust_fault" "trust_fault" (defArgs (topS 19)) (defBody (topS 19)) (defScope (topS 19)) .none kV doc pm an cdv ct) ⟨us, []⟩ = pure ((["thing"] : List Str).zip us) := match us, hl with | [_], _ => by rfl
theorem bd_order_fault (kV doc pm cdv ct : Value) (an : Option Addr) (us : List Value) (hl : us.length = (["houses", "thing"] : List Str).length) : bindArgs (PySem.W.fnOf "order_fault" "order_fault" (defArgs (topS 21)) (defBody (topS 21)) (defScope (topS 21)) .none kV doc pm an cdv ct) ⟨us, []⟩ = pure ((["houses", "thing"] : List Str).zip us) := match us, hl with | [_, _], _ => by rfl
theorem bd_gaps_by (kV doc pm cdv ct : Value) (an : Option Addr) (us : List Value) (hl : us.length = (["clocks"] : List Str).length) : bindArgs (PySem.W.fnOf "gaps_by" "gaps_by" (defArgs (topS 22)) (defBody (topS 22)) (defScope (topS 22)) .none kV doc pm an cdv ct) ⟨us, []⟩ = pure ((["clocks"] : List Str).zip us) := match us, hl with | [_], _ => by rfl
theorem bd_triangle_fault (kV doc pm cdv ct : Value) (an : Option Addr) (us : List Value) (hl : us.length = (["thing"] : List Str).length) : bindArgs (PySem.W.fnOf "triangle_fault" "triangle_fault" (defArgs (topS 24)) (defBody (topS 24)) (defScope (topS 24)) .none kV doc pm an cdv ct) ⟨us, []⟩ = pure ((["thing"] : List Str).zip us) := match us, hl with | [_], _ => by rfl
theorem bd_clocks_fault (kV doc pm cdv ct : Value) (an : Option Addr) (us : List Value) (hl : us.length = (["houses", "thing"] : List Str).length) : bindArgs (PySem.W.fnOf "clocks_fault" "clocks_fault" (defArgs (topS 25)) (defBody (topS 25)) (defScope (topS 25)) .none kV doc pm an cdv ct) ⟨us, []⟩ = pure ((["houses", "thing"] : List Str).zip us) := match us, hl with | [_, _], _ => by rfl
theorem bd_are_promises (kV doc pm cdv ct : Value) (an : Option Addr) (us : List Value) (hl : us.length = (["thing", "end"] : List Str).length) : bindArgs (PySem.W.fnOf "are_promises" "are_promises" (defArgs (topS 26)) (defBody (topS 26)) (defScope (topS 26)) .none kV doc pm an cdv ct) ⟨us, []⟩ = pure ((["thing", "end"] : List Str).zip us) := match us, hl with | [_, _], _ => by rfl
theorem bd_is_looking (kV doc pm cdv ct : Value) (an : Option Addr) (us : List Value) (hl : us.length = (["thing"] : List Str).length) : bindArgs (PySem.W.fnOf "is_looking" "is_looking" (defArgs (topS 27)) (defBody (topS 27)) (defScope (topS 27)) .none kV doc pm an cdv ct) ⟨us, []⟩ = pure ((["thing"] : List Str).zip us) := match us, hl with | [_], _ => by rfl
theorem bd_is_looking_of (kV doc pm cdv ct : Value) (an : Option Addr) (us : List Value) (hl : us.length = (["machine", "houses", "thing"] : List Str).length) : bindArgs (PySem.W.fnOf "is_looking_of" "is_looking_of" (defArgs (topS 29)) (defBody (topS 29)) (defScope (topS 29)) .none kV doc pm an cdv ct) ⟨us, []⟩ = pure ((["machine", "houses", "thing"] : List Str).zip us) := match us, hl with | [_, _, _], _ => by rfl
theorem bd_rules_fault (kV doc pm cdv ct : Value) (an : Option Addr) (us : List Value) (hl : us.length = (["machine", "houses", "looking", "waking"] : List Str).length) : bindArgs (PySem.W.fnOf "rules_fault" "rules_fault" (defArgs (topS 31)) (defBody (topS 31)) (defScope (topS 31)) .none kV doc pm an cdv ct) ⟨us, []⟩ = pure ((["machine", "houses", "looking", "waking"] : List Str).zip us) := match us, hl with | [_, _, _, _], _ => by rfl
theorem bd_parts_fault (kV doc pm cdv ct : Value) (an : Option Addr) (us : List Value) (hl : us.length = (["thing"] : List Str).length) : bindArgs (PySem.W.fnOf "parts_fault" "parts_fault" (defArgs (topS 32)) (defBody (topS 32)) (defScope (topS 32)) .none kV doc pm an cdv ct) ⟨us, []⟩ = pure ((["thing"] : List Str).zip us) := match us, hl with | [_], _ => by rfl
theorem bd_is_trust (kV doc pm cdv ct : Value) (an : Option Addr) (us : List Value) (hl : us.length = (["thing"] : List Str).length) : bindArgs (PySem.W.fnOf "is_trust" "is_trust" (defArgs (topS 33)) (defBody (topS 33)) (defScope (topS 33)) .none kV doc pm an cdv ct) ⟨us, []⟩ = pure ((["thing"] : List Str).zip us) := match us, hl with | [_], _ => by rfl
theorem bd_is_book (kV doc pm cdv ct : Value) (an : Option Addr) (us : List Value) (hl : us.length = (["thing"] : List Str).length) : bindArgs (PySem.W.fnOf "is_book" "is_book" (defArgs (topS 34)) (defBody (topS 34)) (defScope (topS 34)) .none kV doc pm an cdv ct) ⟨us, []⟩ = pure ((["thing"] : List Str).zip us) := match us, hl with | [_], _ => by rfl
theorem bd_meets_in (kV doc pm cdv ct : Value) (an : Option Addr) (us : List Value) (hl : us.length = (["one", "other"] : List Str).length) : bindArgs (PySem.W.fnOf "meets_in" "meets_in" (defArgs (topS 36)) (defBody (topS 36)) (defScope (topS 36)) .none kV doc pm an cdv ct) ⟨us, []⟩ = pure ((["one", "other"] : List Str).zip us) := match us, hl with | [_, _], _ => by rfl
theorem bd_joint_in (kV doc pm cdv ct : Value) (an : Option Addr) (us : List Value) (hl : us.length = (["one", "other"] : List Str).length) : bindArgs (PySem.W.fnOf "joint_in" "joint_in" (defArgs (topS 37)) (defBody (topS 37)) (defScope (topS 37)) .none kV doc pm an cdv ct) ⟨us, []⟩ = pure ((["one", "other"] : List Str).zip us) := match us, hl with | [_, _], _ => by rfl
theorem bd_houses_in (kV doc pm cdv ct : Value) (an : Option Addr) (us : List Value) (hl : us.length = (["trust"] : List Str).length) : bindArgs (PySem.W.fnOf "houses_in" "houses_in" (defArgs (topS 38)) (defBody (topS 38)) (defScope (topS 38)) .none kV doc pm an cdv ct) ⟨us, []⟩ = pure ((["trust"] : List Str).zip us) := match us, hl with | [_], _ => by rfl
theorem bd_lots_of (kV doc pm cdv ct : Value) (an : Option Addr) (us : List Value) (hl : us.length = (["trust", "house"] : List Str).length) : bindArgs (PySem.W.fnOf "lots_of" "lots_of" (defArgs (topS 40)) (defBody (topS 40)) (defScope (topS 40)) .none kV doc pm an cdv ct) ⟨us, []⟩ = pure ((["trust", "house"] : List Str).zip us) := match us, hl with | [_, _], _ => by rfl
theorem bd_fears_of (kV doc pm cdv ct : Value) (an : Option Addr) (us : List Value) (hl : us.length = (["trust", "house"] : List Str).length) : bindArgs (PySem.W.fnOf "fears_of" "fears_of" (defArgs (topS 41)) (defBody (topS 41)) (defScope (topS 41)) .none kV doc pm an cdv ct) ⟨us, []⟩ = pure ((["trust", "house"] : List Str).zip us) := match us, hl with | [_, _], _ => by rfl
theorem bd_is_within (kV doc pm cdv ct : Value) (an : Option Addr) (us : List Value) (hl : us.length = (["one", "other"] : List Str).length) : bindArgs (PySem.W.fnOf "is_within" "is_within" (defArgs (topS 42)) (defBody (topS 42)) (defScope (topS 42)) .none kV doc pm an cdv ct) ⟨us, []⟩ = pure ((["one", "other"] : List Str).zip us) := match us, hl with | [_, _], _ => by rfl
theorem bd_less_by (kV doc pm cdv ct : Value) (an : Option Addr) (us : List Value) (hl : us.length = (["lot", "fall"] : List Str).length) : bindArgs (PySem.W.fnOf "less_by" "less_by" (defArgs (topS 43)) (defBody (topS 43)) (defScope (topS 43)) .none kV doc pm an cdv ct) ⟨us, []⟩ = pure ((["lot", "fall"] : List Str).zip us) := match us, hl with | [_, _], _ => by rfl
theorem bd_least_of (kV doc pm cdv ct : Value) (an : Option Addr) (us : List Value) (hl : us.length = (["sets"] : List Str).length) : bindArgs (PySem.W.fnOf "least_of" "least_of" (defArgs (topS 44)) (defBody (topS 44)) (defScope (topS 44)) .none kV doc pm an cdv ct) ⟨us, []⟩ = pure ((["sets"] : List Str).zip us) := match us, hl with | [_], _ => by rfl
theorem bd_greatest_of (kV doc pm cdv ct : Value) (an : Option Addr) (us : List Value) (hl : us.length = (["sets"] : List Str).length) : bindArgs (PySem.W.fnOf "greatest_of" "greatest_of" (defArgs (topS 45)) (defBody (topS 45)) (defScope (topS 45)) .none kV doc pm an cdv ct) ⟨us, []⟩ = pure ((["sets"] : List Str).zip us) := match us, hl with | [_], _ => by rfl
theorem bd_falls_by (kV doc pm cdv ct : Value) (an : Option Addr) (us : List Value) (hl : us.length = (["trust", "house", "other"] : List Str).length) : bindArgs (PySem.W.fnOf "falls_by" "falls_by" (defArgs (topS 46)) (defBody (topS 46)) (defScope (topS 46)) .none kV doc pm an cdv ct) ⟨us, []⟩ = pure ((["trust", "house", "other"] : List Str).zip us) := match us, hl with | [_, _, _], _ => by rfl
theorem bd_pairs_in (kV doc pm cdv ct : Value) (an : Option Addr) (us : List Value) (hl : us.length = (["trust"] : List Str).length) : bindArgs (PySem.W.fnOf "pairs_in" "pairs_in" (defArgs (topS 47)) (defBody (topS 47)) (defScope (topS 47)) .none kV doc pm an cdv ct) ⟨us, []⟩ = pure ((["trust"] : List Str).zip us) := match us, hl with | [_], _ => by rfl
theorem bd_lot_at (kV doc pm cdv ct : Value) (an : Option Addr) (us : List Value) (hl : us.length = (["trust", "pair"] : List Str).length) : bindArgs (PySem.W.fnOf "lot_at" "lot_at" (defArgs (topS 48)) (defBody (topS 48)) (defScope (topS 48)) .none kV doc pm an cdv ct) ⟨us, []⟩ = pure ((["trust", "pair"] : List Str).zip us) := match us, hl with | [_, _], _ => by rfl
theorem bd_needs_by (kV doc pm cdv ct : Value) (an : Option Addr) (us : List Value) (hl : us.length = (["trust", "house"] : List Str).length) : bindArgs (PySem.W.fnOf "needs_by" "needs_by" (defArgs (topS 49)) (defBody (topS 49)) (defScope (topS 49)) .none kV doc pm an cdv ct) ⟨us, []⟩ = pure ((["trust", "house"] : List Str).zip us) := match us, hl with | [_, _], _ => by rfl
theorem bd_first_missed_by (kV doc pm cdv ct : Value) (an : Option Addr) (us : List Value) (hl : us.length = (["needs", "lot"] : List Str).length) : bindArgs (PySem.W.fnOf "first_missed_by" "first_missed_by" (defArgs (topS 50)) (defBody (topS 50)) (defScope (topS 50)) .none kV doc pm an cdv ct) ⟨us, []⟩ = pure ((["needs", "lot"] : List Str).zip us) := match us, hl with | [_, _], _ => by rfl
theorem bd_is_met (kV doc pm cdv ct : Value) (an : Option Addr) (us : List Value) (hl : us.length = (["needs", "lot"] : List Str).length) : bindArgs (PySem.W.fnOf "is_met" "is_met" (defArgs (topS 51)) (defBody (topS 51)) (defScope (topS 51)) .none kV doc pm an cdv ct) ⟨us, []⟩ = pure ((["needs", "lot"] : List Str).zip us) := match us, hl with | [_, _], _ => by rfl
theorem bd_crossings_by (kV doc pm cdv ct : Value) (an : Option Addr) (us : List Value) (hl : us.length = (["needs"] : List Str).length) : bindArgs (PySem.W.fnOf "crossings_by" "crossings_by" (defArgs (topS 52)) (defBody (topS 52)) (defScope (topS 52)) .none kV doc pm an cdv ct) ⟨us, []⟩ = pure ((["needs"] : List Str).zip us) := match us, hl with | [_], _ => by rfl
theorem bd_is_house_of (kV doc pm cdv ct : Value) (an : Option Addr) (us : List Value) (hl : us.length = (["trust", "thing"] : List Str).length) : bindArgs (PySem.W.fnOf "is_house_of" "is_house_of" (defArgs (topS 54)) (defBody (topS 54)) (defScope (topS 54)) .none kV doc pm an cdv ct) ⟨us, []⟩ = pure ((["trust", "thing"] : List Str).zip us) := match us, hl with | [_, _], _ => by rfl
theorem bd_are_houses_of (kV doc pm cdv ct : Value) (an : Option Addr) (us : List Value) (hl : us.length = (["trust", "thing"] : List Str).length) : bindArgs (PySem.W.fnOf "are_houses_of" "are_houses_of" (defArgs (topS 55)) (defBody (topS 55)) (defScope (topS 55)) .none kV doc pm an cdv ct) ⟨us, []⟩ = pure ((["trust", "thing"] : List Str).zip us) := match us, hl with | [_, _], _ => by rfl
theorem bd_want {oc kV doc pm cdv ct : Value} {od an : Option Addr} {osl : Array (Option Value)} {f T : Addr} {o : Obj} {its : List Value} {m : Nat} (l : K.lookup f = some ⟨oc, od, .func (PySem.W.fnOf "want" "want" (defArgs (topS 61)) (defBody (topS 61)) (defScope (topS 61)) (.ref T) kV doc pm an cdv ct), osl⟩) (c : PySem.W.codeIn K cdv "want" = true) (k : PySem.W.keepIn K (.ref f) = true)
    (lT : K.lookup T = some o) (oT : o.data = .seq its.toArray m) (rT : Vals [.int (-1)] its) : ∃ ds, Vals [.int (-1)] ds ∧ Binds K (PySem.W.fnOf "want" "want" (defArgs (topS 61)) (defBody (topS 61)) (defScope (topS 61)) (.ref T) kV doc pm an cdv ct) ["is_fit", "name", "at"] ds :=
  (FunD.mk ⟨oc, od, .ref T, kV, doc, pm, an, cdv, ct, osl, rfl, l, c, .inr ⟨by simp, T, o, its, m, rfl, lT, oT, rT⟩, .inl rfl⟩ k : FunD K "want" "want" (defArgs (topS 61)) (defBody (topS 61)) (defScope (topS 61)) [.int (-1)] [] f _).binds1 (ps := ["is_fit", "name", "at"]) 2 0 (by simp) rfl
    fun T kV doc pm an cdv ct us its h1 h2 => match us, its, h1, h2 with | [_, _], [_], _, _ => ⟨_, rfl, rfl⟩
theorem bd_want_book {oc kV doc pm cdv ct : Value} {od an : Option Addr} {osl : Array (Option Value)} {f T : Addr} {o : Obj} {its : List Value} {m : Nat} (l : K.lookup f = some ⟨oc, od, .func (PySem.W.fnOf "want_book" "want_book" (defArgs (topS 62)) (defBody (topS 62)) (defScope (topS 62)) (.ref T) kV doc pm an cdv ct), osl⟩) (c : PySem.W.codeIn K cdv "want_book" = true) (k : PySem.W.keepIn K (.ref f) = true)
    (lT : K.lookup T = some o) (oT : o.data = .seq its.toArray m) (rT : Vals [.str "book"] its) : ∃ ds, Vals [.str "book"] ds ∧ Binds K (PySem.W.fnOf "want_book" "want_book" (defArgs (topS 62)) (defBody (topS 62)) (defScope (topS 62)) (.ref T) kV doc pm an cdv ct) ["value", "name"] ds :=
  (FunD.mk ⟨oc, od, .ref T, kV, doc, pm, an, cdv, ct, osl, rfl, l, c, .inr ⟨by simp, T, o, its, m, rfl, lT, oT, rT⟩, .inl rfl⟩ k : FunD K "want_book" "want_book" (defArgs (topS 62)) (defBody (topS 62)) (defScope (topS 62)) [.str "book"] [] f _).binds1 (ps := ["value", "name"]) 1 0 (by simp) rfl
    fun T kV doc pm an cdv ct us its h1 h2 => match us, its, h1, h2 with | [_], [_], _, _ => ⟨_, rfl, rfl⟩
theorem bd_want_age (kV doc pm cdv ct : Value) (an : Option Addr) (us : List Value) (hl : us.length = (["book", "age"] : List Str).length) : bindArgs (PySem.W.fnOf "want_age" "want_age" (defArgs (topS 63)) (defBody (topS 63)) (defScope (topS 63)) .none kV doc pm an cdv ct) ⟨us, []⟩ = pure ((["book", "age"] : List Str).zip us) := match us, hl with | [_, _], _ => by rfl
theorem bd_want_trust {oc kV doc pm cdv ct : Value} {od an : Option Addr} {osl : Array (Option Value)} {f T : Addr} {o : Obj} {its : List Value} {m : Nat} (l : K.lookup f = some ⟨oc, od, .func (PySem.W.fnOf "want_trust" "want_trust" (defArgs (topS 65)) (defBody (topS 65)) (defScope (topS 65)) (.ref T) kV doc pm an cdv ct), osl⟩) (c : PySem.W.codeIn K cdv "want_trust" = true) (k : PySem.W.keepIn K (.ref f) = true)
    (lT : K.lookup T = some o) (oT : o.data = .seq its.toArray m) (rT : Vals [.str "trust"] its) : ∃ ds, Vals [.str "trust"] ds ∧ Binds K (PySem.W.fnOf "want_trust" "want_trust" (defArgs (topS 65)) (defBody (topS 65)) (defScope (topS 65)) (.ref T) kV doc pm an cdv ct) ["trust", "name"] ds :=
  (FunD.mk ⟨oc, od, .ref T, kV, doc, pm, an, cdv, ct, osl, rfl, l, c, .inr ⟨by simp, T, o, its, m, rfl, lT, oT, rT⟩, .inl rfl⟩ k : FunD K "want_trust" "want_trust" (defArgs (topS 65)) (defBody (topS 65)) (defScope (topS 65)) [.str "trust"] [] f _).binds1 (ps := ["trust", "name"]) 1 0 (by simp) rfl
    fun T kV doc pm an cdv ct us its h1 h2 => match us, its, h1, h2 with | [_], [_], _, _ => ⟨_, rfl, rfl⟩
theorem bd_want_house {oc kV doc pm cdv ct : Value} {od an : Option Addr} {osl : Array (Option Value)} {f T : Addr} {o : Obj} {its : List Value} {m : Nat} (l : K.lookup f = some ⟨oc, od, .func (PySem.W.fnOf "want_house" "want_house" (defArgs (topS 66)) (defBody (topS 66)) (defScope (topS 66)) (.ref T) kV doc pm an cdv ct), osl⟩) (c : PySem.W.codeIn K cdv "want_house" = true) (k : PySem.W.keepIn K (.ref f) = true)
    (lT : K.lookup T = some o) (oT : o.data = .seq its.toArray m) (rT : Vals [.str "house"] its) : ∃ ds, Vals [.str "house"] ds ∧ Binds K (PySem.W.fnOf "want_house" "want_house" (defArgs (topS 66)) (defBody (topS 66)) (defScope (topS 66)) (.ref T) kV doc pm an cdv ct) ["trust", "house", "name"] ds :=
  (FunD.mk ⟨oc, od, .ref T, kV, doc, pm, an, cdv, ct, osl, rfl, l, c, .inr ⟨by simp, T, o, its, m, rfl, lT, oT, rT⟩, .inl rfl⟩ k : FunD K "want_house" "want_house" (defArgs (topS 66)) (defBody (topS 66)) (defScope (topS 66)) [.str "house"] [] f _).binds1 (ps := ["trust", "house", "name"]) 2 0 (by simp) rfl
    fun T kV doc pm an cdv ct us its h1 h2 => match us, its, h1, h2 with | [_, _], [_], _, _ => ⟨_, rfl, rfl⟩
theorem bd_want_lot {oc kV doc pm cdv ct : Value} {od an : Option Addr} {osl : Array (Option Value)} {f T : Addr} {o : Obj} {its : List Value} {m : Nat} (l : K.lookup f = some ⟨oc, od, .func (PySem.W.fnOf "want_lot" "want_lot" (defArgs (topS 67)) (defBody (topS 67)) (defScope (topS 67)) (.ref T) kV doc pm an cdv ct), osl⟩) (c : PySem.W.codeIn K cdv "want_lot" = true) (k : PySem.W.keepIn K (.ref f) = true)
    (lT : K.lookup T = some o) (oT : o.data = .seq its.toArray m) (rT : Vals [.str "lot"] its) : ∃ ds, Vals [.str "lot"] ds ∧ Binds K (PySem.W.fnOf "want_lot" "want_lot" (defArgs (topS 67)) (defBody (topS 67)) (defScope (topS 67)) (.ref T) kV doc pm an cdv ct) ["trust", "lot", "name"] ds :=
  (FunD.mk ⟨oc, od, .ref T, kV, doc, pm, an, cdv, ct, osl, rfl, l, c, .inr ⟨by simp, T, o, its, m, rfl, lT, oT, rT⟩, .inl rfl⟩ k : FunD K "want_lot" "want_lot" (defArgs (topS 67)) (defBody (topS 67)) (defScope (topS 67)) [.str "lot"] [] f _).binds1 (ps := ["trust", "lot", "name"]) 2 0 (by simp) rfl
    fun T kV doc pm an cdv ct us its h1 h2 => match us, its, h1, h2 with | [_, _], [_], _, _ => ⟨_, rfl, rfl⟩
theorem bd_want_trusts (kV doc pm cdv ct : Value) (an : Option Addr) (us : List Value) (hl : us.length = (["trust", "other"] : List Str).length) : bindArgs (PySem.W.fnOf "want_trusts" "want_trusts" (defArgs (topS 69)) (defBody (topS 69)) (defScope (topS 69)) .none kV doc pm an cdv ct) ⟨us, []⟩ = pure ((["trust", "other"] : List Str).zip us) := match us, hl with | [_, _], _ => by rfl
theorem bd_trusts_alike (kV doc pm cdv ct : Value) (an : Option Addr) (us : List Value) (hl : us.length = (["trust", "other"] : List Str).length) : bindArgs (PySem.W.fnOf "trusts_alike" "trusts_alike" (defArgs (topS 70)) (defBody (topS 70)) (defScope (topS 70)) .none kV doc pm an cdv ct) ⟨us, []⟩ = pure ((["trust", "other"] : List Str).zip us) := match us, hl with | [_, _], _ => by rfl
theorem bd_parting_lot (kV doc pm cdv ct : Value) (an : Option Addr) (us : List Value) (hl : us.length = (["trust", "other"] : List Str).length) : bindArgs (PySem.W.fnOf "parting_lot" "parting_lot" (defArgs (topS 71)) (defBody (topS 71)) (defScope (topS 71)) .none kV doc pm an cdv ct) ⟨us, []⟩ = pure ((["trust", "other"] : List Str).zip us) := match us, hl with | [_, _], _ => by rfl
theorem bd_needs_of (kV doc pm cdv ct : Value) (an : Option Addr) (us : List Value) (hl : us.length = (["trust", "house"] : List Str).length) : bindArgs (PySem.W.fnOf "needs_of" "needs_of" (defArgs (topS 73)) (defBody (topS 73)) (defScope (topS 73)) .none kV doc pm an cdv ct) ⟨us, []⟩ = pure ((["trust", "house"] : List Str).zip us) := match us, hl with | [_, _], _ => by rfl
theorem bd_meets_needs (kV doc pm cdv ct : Value) (an : Option Addr) (us : List Value) (hl : us.length = (["trust", "house", "lot"] : List Str).length) : bindArgs (PySem.W.fnOf "meets_needs" "meets_needs" (defArgs (topS 74)) (defBody (topS 74)) (defScope (topS 74)) .none kV doc pm an cdv ct) ⟨us, []⟩ = pure ((["trust", "house", "lot"] : List Str).zip us) := match us, hl with | [_, _, _], _ => by rfl
theorem bd_least_lots (kV doc pm cdv ct : Value) (an : Option Addr) (us : List Value) (hl : us.length = (["trust", "house"] : List Str).length) : bindArgs (PySem.W.fnOf "least_lots" "least_lots" (defArgs (topS 75)) (defBody (topS 75)) (defScope (topS 75)) .none kV doc pm an cdv ct) ⟨us, []⟩ = pure ((["trust", "house"] : List Str).zip us) := match us, hl with | [_, _], _ => by rfl
theorem bd_want_rule (kV doc pm cdv ct : Value) (an : Option Addr) (us : List Value) (hl : us.length = (["book", "rule"] : List Str).length) : bindArgs (PySem.W.fnOf "want_rule" "want_rule" (defArgs (topS 77)) (defBody (topS 77)) (defScope (topS 77)) .none kV doc pm an cdv ct) ⟨us, []⟩ = pure ((["book", "rule"] : List Str).zip us) := match us, hl with | [_, _], _ => by rfl
theorem bd_answer_in (kV doc pm cdv ct : Value) (an : Option Addr) (us : List Value) (hl : us.length = (["machine", "state", "look"] : List Str).length) : bindArgs (PySem.W.fnOf "answer_in" "answer_in" (defArgs (topS 82)) (defBody (topS 82)) (defScope (topS 82)) .none kV doc pm an cdv ct) ⟨us, []⟩ = pure ((["machine", "state", "look"] : List Str).zip us) := match us, hl with | [_, _, _], _ => by rfl
theorem bd_rows_from (kV doc pm cdv ct : Value) (an : Option Addr) (us : List Value) (hl : us.length = (["machine", "state"] : List Str).length) : bindArgs (PySem.W.fnOf "rows_from" "rows_from" (defArgs (topS 84)) (defBody (topS 84)) (defScope (topS 84)) .none kV doc pm an cdv ct) ⟨us, []⟩ = pure ((["machine", "state"] : List Str).zip us) := match us, hl with | [_, _], _ => by rfl
theorem bd_rows_in (kV doc pm cdv ct : Value) (an : Option Addr) (us : List Value) (hl : us.length = (["machine"] : List Str).length) : bindArgs (PySem.W.fnOf "rows_in" "rows_in" (defArgs (topS 85)) (defBody (topS 85)) (defScope (topS 85)) .none kV doc pm an cdv ct) ⟨us, []⟩ = pure ((["machine"] : List Str).zip us) := match us, hl with | [_], _ => by rfl
theorem bd_unlike_from (kV doc pm cdv ct : Value) (an : Option Addr) (us : List Value) (hl : us.length = (["machine", "look", "state"] : List Str).length) : bindArgs (PySem.W.fnOf "unlike_from" "unlike_from" (defArgs (topS 87)) (defBody (topS 87)) (defScope (topS 87)) .none kV doc pm an cdv ct) ⟨us, []⟩ = pure ((["machine", "look", "state"] : List Str).zip us) := match us, hl with | [_, _, _], _ => by rfl
theorem bd_kept_within (kV doc pm cdv ct : Value) (an : Option Addr) (us : List Value) (hl : us.length = (["machine", "some", "late"] : List Str).length) : bindArgs (PySem.W.fnOf "kept_within" "kept_within" (defArgs (topS 88)) (defBody (topS 88)) (defScope (topS 88)) .none kV doc pm an cdv ct) ⟨us, []⟩ = pure ((["machine", "some", "late"] : List Str).zip us) := match us, hl with | [_, _, _], _ => by rfl
theorem bd_longest_from (kV doc pm cdv ct : Value) (an : Option Addr) (us : List Value) (hl : us.length = (["machine", "look", "state"] : List Str).length) : bindArgs (PySem.W.fnOf "longest_from" "longest_from" (defArgs (topS 89)) (defBody (topS 89)) (defScope (topS 89)) .none kV doc pm an cdv ct) ⟨us, []⟩ = pure ((["machine", "look", "state"] : List Str).zip us) := match us, hl with | [_, _, _], _ => by rfl
theorem bd_least_age_in (kV doc pm cdv ct : Value) (an : Option Addr) (us : List Value) (hl : us.length = (["machine", "look"] : List Str).length) : bindArgs (PySem.W.fnOf "least_age_in" "least_age_in" (defArgs (topS 90)) (defBody (topS 90)) (defScope (topS 90)) .none kV doc pm an cdv ct) ⟨us, []⟩ = pure ((["machine", "look"] : List Str).zip us) := match us, hl with | [_, _], _ => by rfl
theorem bd_moves_in (kV doc pm cdv ct : Value) (an : Option Addr) (us : List Value) (hl : us.length = (["machine", "look", "age"] : List Str).length) : bindArgs (PySem.W.fnOf "moves_in" "moves_in" (defArgs (topS 91)) (defBody (topS 91)) (defScope (topS 91)) .none kV doc pm an cdv ct) ⟨us, []⟩ = pure ((["machine", "look", "age"] : List Str).zip us) := match us, hl with | [_, _, _], _ => by rfl
theorem bd_lasting_in (kV doc pm cdv ct : Value) (an : Option Addr) (us : List Value) (hl : us.length = (["book", "rule"] : List Str).length) : bindArgs (PySem.W.fnOf "lasting_in" "lasting_in" (defArgs (topS 93)) (defBody (topS 93)) (defScope (topS 93)) .none kV doc pm an cdv ct) ⟨us, []⟩ = pure ((["book", "rule"] : List Str).zip us) := match us, hl with | [_, _], _ => by rfl
theorem bd_caught_in (kV doc pm cdv ct : Value) (an : Option Addr) (us : List Value) (hl : us.length = (["book", "rule", "need"] : List Str).length) : bindArgs (PySem.W.fnOf "caught_in" "caught_in" (defArgs (topS 94)) (defBody (topS 94)) (defScope (topS 94)) .none kV doc pm an cdv ct) ⟨us, []⟩ = pure ((["book", "rule", "need"] : List Str).zip us) := match us, hl with | [_, _, _], _ => by rfl
theorem bd_moving_in (kV doc pm cdv ct : Value) (an : Option Addr) (us : List Value) (hl : us.length = (["book", "rule", "age"] : List Str).length) : bindArgs (PySem.W.fnOf "moving_in" "moving_in" (defArgs (topS 95)) (defBody (topS 95)) (defScope (topS 95)) .none kV doc pm an cdv ct) ⟨us, []⟩ = pure ((["book", "rule", "age"] : List Str).zip us) := match us, hl with | [_, _, _], _ => by rfl
theorem bd_lacks_in (kV doc pm cdv ct : Value) (an : Option Addr) (us : List Value) (hl : us.length = (["book", "rule", "age"] : List Str).length) : bindArgs (PySem.W.fnOf "lacks_in" "lacks_in" (defArgs (topS 96)) (defBody (topS 96)) (defScope (topS 96)) .none kV doc pm an cdv ct) ⟨us, []⟩ = pure ((["book", "rule", "age"] : List Str).zip us) := match us, hl with | [_, _, _], _ => by rfl
theorem bd_rule_lacks {kV doc pm cdv ct : Value} {an : Option Addr} : KBn K (PySem.W.fnOf "rule_lacks" "rule_lacks" (defArgs (topS 98)) (defBody (topS 98)) (defScope (topS 98)) .none kV doc pm an cdv ct) ["book", "rule", "age"] 2 ["age"] (fun us ws => us ++ ws) (fun vs zs => vs ++ zs) :=
  ⟨fun s us ws _ h1 h2 => .of_eq (match us, ws, h1, h2 with | [_, _], [_], _, _ => rfl), fun a b => a.append b⟩
theorem bd_rule_is_right {oc doc pm cdv ct u : Value} {od an : Option Addr} {osl : Array (Option Value)} {f D : Addr} (l : K.lookup f = some ⟨oc, od, .func (PySem.W.fnOf "rule_is_right" "rule_is_right" (defArgs (topS 99)) (defBody (topS 99)) (defScope (topS 99)) .none (.ref D) doc pm an cdv ct), osl⟩) (c : PySem.W.codeIn K cdv "rule_is_right" = true) (k : PySem.W.keepIn K (.ref f) = true)
    (e : PySem.W.nsIn K D "age" = some (some u)) (r : RelV (.int 0) u) : ∃ ds, Vals [.int 0] ds ∧ Binds K (PySem.W.fnOf "rule_is_right" "rule_is_right" (defArgs (topS 99)) (defBody (topS 99)) (defScope (topS 99)) .none (.ref D) doc pm an cdv ct) ["book", "rule", "age"] ds :=
  (FunD.mk ⟨oc, od, .none, .ref D, doc, pm, an, cdv, ct, osl, rfl, l, c, .inl ⟨rfl, rfl⟩, .inr ⟨D, rfl, fun q hq => by cases List.mem_singleton.mp hq; exact ⟨u, e, r⟩⟩⟩ k : FunD K "rule_is_right" "rule_is_right" (defArgs (topS 99)) (defBody (topS 99)) (defScope (topS 99)) [] [("age", .int 0)] f _).binds0 (ps := ["book", "rule", "age"]) 2 (by simp) rfl
    fun D doc pm an cdv ct us ks h1 h2 => match us, ks, h1, h2 with | [_, _], [_], _, _ => ⟨_, _, _, _, _, _, rfl, rfl, rfl⟩
theorem bd_law_feed (kV doc pm cdv ct : Value) (an : Option Addr) (us : List Value) (hl : us.length = (["_law_script"] : List Str).length) : bindArgs (PySem.W.fnOf "_law_feed" "_law_feed" (defArgs (topS 101)) (defBody (topS 101)) (defScope (topS 101)) .none kV doc pm an cdv ct) ⟨us, []⟩ = pure ((["_law_script"] : List Str).zip us) := match us, hl with | [_], _ => by rfl
theorem bd_law_draw (kV doc pm cdv ct : Value) (an : Option Addr) (us : List Value) (hl : us.length = (["_law_feed_here", "_law_many"] : List Str).length) : bindArgs (PySem.W.fnOf "_law_draw" "_law_draw" (defArgs (topS 102)) (defBody (topS 102)) (defScope (topS 102)) .none kV doc pm an cdv ct) ⟨us, []⟩ = pure ((["_law_feed_here", "_law_many"] : List Str).zip us) := match us, hl with | [_, _], _ => by rfl
theorem bd_law_any (kV doc pm cdv ct : Value) (an : Option Addr) (us : List Value) (hl : us.length = (["_law_feed_here", "_law_some"] : List Str).length) : bindArgs (PySem.W.fnOf "_law_any" "_law_any" (defArgs (topS 103)) (defBody (topS 103)) (defScope (topS 103)) .none kV doc pm an cdv ct) ⟨us, []⟩ = pure ((["_law_feed_here", "_law_some"] : List Str).zip us) := match us, hl with | [_, _], _ => by rfl
theorem bd_law_same (kV doc pm cdv ct : Value) (an : Option Addr) (us : List Value) (hl : us.length = (["_law_told", "_law_due"] : List Str).length) : bindArgs (PySem.W.fnOf "_law_same" "_law_same" (defArgs (topS 104)) (defBody (topS 104)) (defScope (topS 104)) .none kV doc pm an cdv ct) ⟨us, []⟩ = pure ((["_law_told", "_law_due"] : List Str).zip us) := match us, hl with | [_, _], _ => by rfl
theorem bd_law_within (kV doc pm cdv ct : Value) (an : Option Addr) (us : List Value) (hl : us.length = (["_law_some", "_law_other"] : List Str).length) : bindArgs (PySem.W.fnOf "_law_within" "_law_within" (defArgs (topS 105)) (defBody (topS 105)) (defScope (topS 105)) .none kV doc pm an cdv ct) ⟨us, []⟩ = pure ((["_law_some", "_law_other"] : List Str).zip us) := match us, hl with | [_, _], _ => by rfl
theorem bd_law_less (kV doc pm cdv ct : Value) (an : Option Addr) (us : List Value) (hl : us.length = (["_law_some", "_law_other"] : List Str).length) : bindArgs (PySem.W.fnOf "_law_less" "_law_less" (defArgs (topS 106)) (defBody (topS 106)) (defScope (topS 106)) .none kV doc pm an cdv ct) ⟨us, []⟩ = pure ((["_law_some", "_law_other"] : List Str).zip us) := match us, hl with | [_, _], _ => by rfl
theorem bd_law_subsets (kV doc pm cdv ct : Value) (an : Option Addr) (us : List Value) (hl : us.length = (["_law_names"] : List Str).length) : bindArgs (PySem.W.fnOf "_law_subsets" "_law_subsets" (defArgs (topS 107)) (defBody (topS 107)) (defScope (topS 107)) .none kV doc pm an cdv ct) ⟨us, []⟩ = pure ((["_law_names"] : List Str).zip us) := match us, hl with | [_], _ => by rfl
theorem bd_law_guild (kV doc pm cdv ct : Value) (an : Option Addr) (us : List Value) (hl : us.length = (["_law_feed_here", "_law_most"] : List Str).length) : bindArgs (PySem.W.fnOf "_law_guild" "_law_guild" (defArgs (topS 108)) (defBody (topS 108)) (defScope (topS 108)) .none kV doc pm an cdv ct) ⟨us, []⟩ = pure ((["_law_feed_here", "_law_most"] : List Str).zip us) := match us, hl with | [_, _], _ => by rfl
theorem bd_law_safe (kV doc pm cdv ct : Value) (an : Option Addr) (us : List Value) (hl : us.length = (["_law_guild_here", "_law_some"] : List Str).length) : bindArgs (PySem.W.fnOf "_law_safe" "_law_safe" (defArgs (topS 109)) (defBody (topS 109)) (defScope (topS 109)) .none kV doc pm an cdv ct) ⟨us, []⟩ = pure ((["_law_guild_here", "_law_some"] : List Str).zip us) := match us, hl with | [_, _], _ => by rfl
theorem bd_law_safes (kV doc pm cdv ct : Value) (an : Option Addr) (us : List Value) (hl : us.length = (["_law_guild_here"] : List Str).length) : bindArgs (PySem.W.fnOf "_law_safes" "_law_safes" (defArgs (topS 110)) (defBody (topS 110)) (defScope (topS 110)) .none kV doc pm an cdv ct) ⟨us, []⟩ = pure ((["_law_guild_here"] : List Str).zip us) := match us, hl with | [_], _ => by rfl
theorem bd_law_minimal (kV doc pm cdv ct : Value) (an : Option Addr) (us : List Value) (hl : us.length = (["_law_sets"] : List Str).length) : bindArgs (PySem.W.fnOf "_law_minimal" "_law_minimal" (defArgs (topS 111)) (defBody (topS 111)) (defScope (topS 111)) .none kV doc pm an cdv ct) ⟨us, []⟩ = pure ((["_law_sets"] : List Str).zip us) := match us, hl with | [_], _ => by rfl
theorem bd_law_needs (kV doc pm cdv ct : Value) (an : Option Addr) (us : List Value) (hl : us.length = (["_law_guild_here", "_law_safes_here", "_law_name"] : List Str).length) : bindArgs (PySem.W.fnOf "_law_needs" "_law_needs" (defArgs (topS 112)) (defBody (topS 112)) (defScope (topS 112)) .none kV doc pm an cdv ct) ⟨us, []⟩ = pure ((["_law_guild_here", "_law_safes_here", "_law_name"] : List Str).zip us) := match us, hl with | [_, _, _], _ => by rfl
theorem bd_law_meets (kV doc pm cdv ct : Value) (an : Option Addr) (us : List Value) (hl : us.length = (["_law_needs_here", "_law_some"] : List Str).length) : bindArgs (PySem.W.fnOf "_law_meets" "_law_meets" (defArgs (topS 113)) (defBody (topS 113)) (defScope (topS 113)) .none kV doc pm an cdv ct) ⟨us, []⟩ = pure ((["_law_needs_here", "_law_some"] : List Str).zip us) := match us, hl with | [_, _], _ => by rfl
theorem bd_law_motor (kV doc pm cdv ct : Value) (an : Option Addr) (us : List Value) (hl : us.length = (["_law_feed_here"] : List Str).length) : bindArgs (PySem.W.fnOf "_law_motor" "_law_motor" (defArgs (topS 114)) (defBody (topS 114)) (defScope (topS 114)) .none kV doc pm an cdv ct) ⟨us, []⟩ = pure ((["_law_feed_here"] : List Str).zip us) := match us, hl with | [_], _ => by rfl
theorem bd_law_crossed (kV doc pm cdv ct : Value) (an : Option Addr) (us : List Value) (hl : us.length = (["_law_sets", "_law_names"] : List Str).length) : bindArgs (PySem.W.fnOf "_law_crossed" "_law_crossed" (defArgs (topS 115)) (defBody (topS 115)) (defScope (topS 115)) .none kV doc pm an cdv ct) ⟨us, []⟩ = pure ((["_law_sets", "_law_names"] : List Str).zip us) := match us, hl with | [_, _], _ => by rfl
theorem bd_law_thin (kV doc pm cdv ct : Value) (an : Option Addr) (us : List Value) (hl : us.length = (["_law_guild_here"] : List Str).length) : bindArgs (PySem.W.fnOf "_law_thin" "_law_thin" (defArgs (topS 116)) (defBody (topS 116)) (defScope (topS 116)) .none kV doc pm an cdv ct) ⟨us, []⟩ = pure ((["_law_guild_here"] : List Str).zip us) := match us, hl with | [_], _ => by rfl
theorem bd_law_near (kV doc pm cdv ct : Value) (an : Option Addr) (us : List Value) (hl : us.length = (["_law_feed_here", "_law_guild_here", "_law_names"] : List Str).length) : bindArgs (PySem.W.fnOf "_law_near" "_law_near" (defArgs (topS 117)) (defBody (topS 117)) (defScope (topS 117)) .none kV doc pm an cdv ct) ⟨us, []⟩ = pure ((["_law_feed_here", "_law_guild_here", "_law_names"] : List Str).zip us) := match us, hl with | [_, _, _], _ => by rfl
theorem bd_law_is_told_back (kV doc pm cdv ct : Value) (an : Option Addr) (us : List Value) (hl : us.length = (["_law_guild_here", "_law_names", "_law_table"] : List Str).length) : bindArgs (PySem.W.fnOf "_law_is_told_back" "_law_is_told_back" (defArgs (topS 118)) (defBody (topS 118)) (defScope (topS 118)) .none kV doc pm an cdv ct) ⟨us, []⟩ = pure ((["_law_guild_here", "_law_names", "_law_table"] : List Str).zip us) := match us, hl with | [_, _, _], _ => by rfl
theorem bd_law_are_alike_right (kV doc pm cdv ct : Value) (an : Option Addr) (us : List Value) (hl : us.length = (["_law_feed_here", "_law_guild_here", "_law_far", "_law_table"] : List Str).length) : bindArgs (PySem.W.fnOf "_law_are_alike_right" "_law_are_alike_right" (defArgs (topS 119)) (defBody (topS 119)) (defScope (topS 119)) .none kV doc pm an cdv ct) ⟨us, []⟩ = pure ((["_law_feed_here", "_law_guild_here", "_law_far", "_law_table"] : List Str).zip us) := match us, hl with | [_, _, _, _], _ => by rfl
theorem bd_law_right (kV doc pm cdv ct : Value) (an : Option Addr) (us : List Value) (hl : us.length = (["_law_script"] : List Str).length) : bindArgs (PySem.W.fnOf "_law_right" "_law_right" (defArgs (topS 120)) (defBody (topS 120)) (defScope (topS 120)) .none kV doc pm an cdv ct) ⟨us, []⟩ = pure ((["_law_script"] : List Str).zip us) := match us, hl with | [_], _ => by rfl
theorem bd_law (kV doc pm cdv ct : Value) (an : Option Addr) (us : List Value) (hl : us.length = (["_law_script"] : List Str).length) : bindArgs (PySem.W.fnOf "law" "law" (defArgs (topS 121)) (defBody (topS 121)) (defScope (topS 121)) .none kV doc pm an cdv ct) ⟨us, []⟩ = pure ((["_law_script"] : List Str).zip us) := match us, hl with | [_], _ => by rfl
end
end Y
end KFacts
section KFin
set_option Elab.async false
set_option linter.all false
set_option maxRecDepth 100000
namespace Y
open PySem PySem.Spec PyProof.Rows L2
theorem mkN {K : PySem.W.Frag} {mg : Str → Option Value} {h : Heap} {x : Str} {i : Nat} {ps : List Str} {f : Addr} {oc kV doc pm cdv ct : Value} {od an : Option Addr} {osl : Array (Option Value)} (X : K.In h) (G : h.Ns mainGlobals mg) (a : PySem.W.nsIn K mainGlobals x = some (some (.ref f)))
    (l : K.lookup f = some ⟨oc, od, .func (PySem.W.fnOf x x (defArgs (topS i)) (defBody (topS i)) (defScope (topS i)) .none kV doc pm an cdv ct), osl⟩) (c : PySem.W.codeIn K cdv x = true) (k : PySem.W.keepIn K (.ref f) = true)
    (hb : ∀ us : List Value, us.length = ps.length → bindArgs (PySem.W.fnOf x x (defArgs (topS i)) (defBody (topS i)) (defScope (topS i)) .none kV doc pm an cdv ct) ⟨us, []⟩ = pure (ps.zip us)) : Nonempty (Df K mg x i ps) := ⟨mkDf X G a l c k hb⟩
theorem mkK {K : PySem.W.Frag} {mg : Str → Option Value} {h : Heap} {x : Str} {i n : Nat} {ps ks : List Str} {f : Addr} {oc dV kV doc pm cdv ct : Value} {od an : Option Addr} {osl : Array (Option Value)} (X : K.In h) (G : h.Ns mainGlobals mg) (a : PySem.W.nsIn K mainGlobals x = some (some (.ref f)))
    (l : K.lookup f = some ⟨oc, od, .func (PySem.W.fnOf x x (defArgs (topS i)) (defBody (topS i)) (defScope (topS i)) dV kV doc pm an cdv ct), osl⟩) (c : PySem.W.codeIn K cdv x = true) (k : PySem.W.keepIn K (.ref f) = true)
    (hb : KBn K (PySem.W.fnOf x x (defArgs (topS i)) (defBody (topS i)) (defScope (topS i)) dV kV doc pm an cdv ct) ps n ks (fun us ws => us ++ ws) (fun vs zs => vs ++ zs)) : Nonempty (Dk K mg x i ps n ks) :=
  ⟨⟨f, _, PySem.W.mg_of X G a, k, ⟨⟨oc, od, dV, kV, doc, pm, an, cdv, ct, osl, rfl, l, c⟩⟩, hb⟩⟩
theorem fin_F {prog : Program} {w : World} {K : PySem.W.Frag} {mg : Str → Option Value} {fa : Addr} (hT : RightTrue) (T : Tx K mg) (hb : ∀ (s : Shared) (u : Value), BindsTo s T.law.f ⟨[u], []⟩ [("_law_script", u)]) (hmg : mg "law" = some (.ref fa)) :
    ∃ fd : FuncData, (∀ (s : Shared) (u : Value), BindsTo s fd ⟨[u], []⟩ [("_law_script", u)]) ∧ ∀ base : Heap, K.In base → base.Ns mainGlobals mg → FnG prog w K mg base 15 fa fd ["_law_script"] (spTop K) := by
  have e : fa = T.law.a := by
    have := T.law.m
    rw [hmg] at this
    cases this
    rfl
  subst e
  exact ⟨T.law.f, hb, fun base _ _ => d_law T hT⟩
end Y
open PySem PySem.W PyProof.Rows Y
set_option maxHeartbeats 0 in
theorem joined (hT : RightTrue) : PySem.Challenge.rw_actasone_k66_whole_trusts_told_back.Holds := by
  refine kmHead ?_
  k_fill
  refine Y.walk_ofG (l := PySem.Challenge.rw_actasone_k66_whole_trusts_told_back) (n := 63) (k := 15) (x := "_law_script") (sp := Y.spTop) rfl (by decide) rfl ⟨rfl, by decide, by decide⟩ (fun w h Y => PySem.W.kIn_of Y) ?F (fun K H a ns hl _ hS => ⟨a, ns, rfl, hS, hl, fun _ => rfl⟩)
  case F =>
    intro w mg fa h KX G hmg
    obtain ⟨q_is_integer⟩ : Nonempty (Df _ mg "is_integer" 4 ["thing"]) := by
      refine' mkN KX G ?a ?l ?c ?k (fun us hl => bd_is_integer _ _ _ _ _ _ us hl)
      (case a => k_is); (case l => k_is); (case c => k_is); (case k => k_is)
    obtain ⟨q_is_number⟩ : Nonempty (Df _ mg "is_number" 5 ["thing"]) := by
      refine' mkN KX G ?a ?l ?c ?k (fun us hl => bd_is_number _ _ _ _ _ _ us hl)
      (case a => k_is); (case l => k_is); (case c => k_is); (case k => k_is)
    obtain ⟨q_is_index⟩ : Nonempty (Df _ mg "is_index" 6 ["thing", "many"]) := by
      refine' mkN KX G ?a ?l ?c ?k (fun us hl => bd_is_index _ _ _ _ _ _ us hl)
      (case a => k_is); (case l => k_is); (case c => k_is); (case k => k_is)
    obtain ⟨q_is_among⟩ : Nonempty (Df _ mg "is_among" 7 ["thing", "names"]) := by
      refine' mkN KX G ?a ?l ?c ?k (fun us hl => bd_is_among _ _ _ _ _ _ us hl)
      (case a => k_is); (case l => k_is); (case c => k_is); (case k => k_is)
    obtain ⟨q_is_name⟩ : Nonempty (Df _ mg "is_name" 8 ["thing"]) := by
      refine' mkN KX G ?a ?l ?c ?k (fun us hl => bd_is_name _ _ _ _ _ _ us hl)
      (case a => k_is); (case l => k_is); (case c => k_is); (case k => k_is)
    obtain ⟨q_is_tuple_of⟩ : Nonempty (Df _ mg "is_tuple_of" 9 ["thing", "many"]) := by
      refine' mkN KX G ?a ?l ?c ?k (fun us hl => bd_is_tuple_of _ _ _ _ _ _ us hl)
      (case a => k_is); (case l => k_is); (case c => k_is); (case k => k_is)
    obtain ⟨q_is_pair⟩ : Nonempty (Df _ mg "is_pair" 10 ["thing"]) := by
      refine' mkN KX G ?a ?l ?c ?k (fun us hl => bd_is_pair _ _ _ _ _ _ us hl)
      (case a => k_is); (case l => k_is); (case c => k_is); (case k => k_is)
    obtain ⟨q_are_rising⟩ : Nonempty (Df _ mg "are_rising" 11 ["parts"]) := by
      refine' mkN KX G ?a ?l ?c ?k (fun us hl => bd_are_rising _ _ _ _ _ _ us hl)
      (case a => k_is); (case l => k_is); (case c => k_is); (case k => k_is)
    obtain ⟨q_is_names⟩ : Nonempty (Df _ mg "is_names" 12 ["thing"]) := by
      refine' mkN KX G ?a ?l ?c ?k (fun us hl => bd_is_names _ _ _ _ _ _ us hl)
      (case a => k_is); (case l => k_is); (case c => k_is); (case k => k_is)
    obtain ⟨q_is_names_among⟩ : Nonempty (Df _ mg "is_names_among" 13 ["thing", "names"]) := by
      refine' mkN KX G ?a ?l ?c ?k (fun us hl => bd_is_names_among _ _ _ _ _ _ us hl)
      (case a => k_is); (case l => k_is); (case c => k_is); (case k => k_is)
    obtain ⟨q_are_sets_among⟩ : Nonempty (Df _ mg "are_sets_among" 14 ["thing", "names"]) := by
      refine' mkN KX G ?a ?l ?c ?k (fun us hl => bd_are_sets_among _ _ _ _ _ _ us hl)
      (case a => k_is); (case l => k_is); (case c => k_is); (case k => k_is)
    obtain ⟨q_are_indexes⟩ : Nonempty (Df _ mg "are_indexes" 15 ["thing", "size", "many"]) := by
      refine' mkN KX G ?a ?l ?c ?k (fun us hl => bd_are_indexes _ _ _ _ _ _ us hl)
      (case a => k_is); (case l => k_is); (case c => k_is); (case k => k_is)
    obtain ⟨q_are_numbers⟩ : Nonempty (Df _ mg "are_numbers" 16 ["thing", "size"]) := by
      refine' mkN KX G ?a ?l ?c ?k (fun us hl => bd_are_numbers _ _ _ _ _ _ us hl)
      (case a => k_is); (case l => k_is); (case c => k_is); (case k => k_is)
    obtain ⟨q_machine_fault⟩ : Nonempty (Df _ mg "machine_fault" 17 ["thing"]) := by
      refine' mkN KX G ?a ?l ?c ?k (fun us hl => bd_machine_fault _ _ _ _ _ _ us hl)
      (case a => k_is); (case l => k_is); (case c => k_is); (case k => k_is)
    obtain ⟨q_is_triple_from⟩ : Nonempty (Df _ mg "is_triple_from" 18 ["thing"]) := by
      refine' mkN KX G ?a ?l ?c ?k (fun us hl => bd_is_triple_from _ _ _ _ _ _ us hl)
      (case a => k_is); (case l => k_is); (case c => k_is); (case k => k_is)
    obtain ⟨q_trust_fault⟩ : Nonempty (Df _ mg "trust_fault" 19 ["thing"]) := by
      refine' mkN KX G ?a ?l ?c ?k (fun us hl => bd_trust_fault _ _ _ _ _ _ us hl)
      (case a => k_is); (case l => k_is); (case c => k_is); (case k => k_is)
    obtain ⟨q_order_fault⟩ : Nonempty (Df _ mg "order_fault" 21 ["houses", "thing"]) := by
      refine' mkN KX G ?a ?l ?c ?k (fun us hl => bd_order_fault _ _ _ _ _ _ us hl)
      (case a => k_is); (case l => k_is); (case c => k_is); (case k => k_is)
    obtain ⟨q_gaps_by⟩ : Nonempty (Df _ mg "gaps_by" 22 ["clocks"]) := by
      refine' mkN KX G ?a ?l ?c ?k (fun us hl => bd_gaps_by _ _ _ _ _ _ us hl)
      (case a => k_is); (case l => k_is); (case c => k_is); (case k => k_is)
    obtain ⟨q_triangle_fault⟩ : Nonempty (Df _ mg "triangle_fault" 24 ["thing"]) := by
      refine' mkN KX G ?a ?l ?c ?k (fun us hl => bd_triangle_fault _ _ _ _ _ _ us hl)
      (case a => k_is); (case l => k_is); (case c => k_is); (case k => k_is)
    obtain ⟨q_clocks_fault⟩ : Nonempty (Df _ mg "clocks_fault" 25 ["houses", "thing"]) := by
      refine' mkN KX G ?a ?l ?c ?k (fun us hl => bd_clocks_fault _ _ _ _ _ _ us hl)
      (case a => k_is); (case l => k_is); (case c => k_is); (case k => k_is)
    obtain ⟨q_are_promises⟩ : Nonempty (Df _ mg "are_promises" 26 ["thing", "end"]) := by
      refine' mkN KX G ?a ?l ?c ?k (fun us hl => bd_are_promises _ _ _ _ _ _ us hl)
      (case a => k_is); (case l => k_is); (case c => k_is); (case k => k_is)
    obtain ⟨q_is_looking⟩ : Nonempty (Df _ mg "is_looking" 27 ["thing"]) := by
      refine' mkN KX G ?a ?l ?c ?k (fun us hl => bd_is_looking _ _ _ _ _ _ us hl)
      (case a => k_is); (case l => k_is); (case c => k_is); (case k => k_is)
    obtain ⟨q_is_looking_of⟩ : Nonempty (Df _ mg "is_looking_of" 29 ["machine", "houses", "thing"]) := by
      refine' mkN KX G ?a ?l ?c ?k (fun us hl => bd_is_looking_of _ _ _ _ _ _ us hl)
      (case a => k_is); (case l => k_is); (case c => k_is); (case k => k_is)
    obtain ⟨q_rules_fault⟩ : Nonempty (Df _ mg "rules_fault" 31 ["machine", "houses", "looking", "waking"]) := by
      refine' mkN KX G ?a ?l ?c ?k (fun us hl => bd_rules_fault _ _ _ _ _ _ us hl)
      (case a => k_is); (case l => k_is); (case c => k_is); (case k => k_is)
    obtain ⟨q_parts_fault⟩ : Nonempty (Df _ mg "parts_fault" 32 ["thing"]) := by
      refine' mkN KX G ?a ?l ?c ?k (fun us hl => bd_parts_fault _ _ _ _ _ _ us hl)
      (case a => k_is); (case l => k_is); (case c => k_is); (case k => k_is)
    obtain ⟨q_is_trust⟩ : Nonempty (Df _ mg "is_trust" 33 ["thing"]) := by
      refine' mkN KX G ?a ?l ?c ?k (fun us hl => bd_is_trust _ _ _ _ _ _ us hl)
      (case a => k_is); (case l => k_is); (case c => k_is); (case k => k_is)
    obtain ⟨q_is_book⟩ : Nonempty (Df _ mg "is_book" 34 ["thing"]) := by
      refine' mkN KX G ?a ?l ?c ?k (fun us hl => bd_is_book _ _ _ _ _ _ us hl)
      (case a => k_is); (case l => k_is); (case c => k_is); (case k => k_is)
    obtain ⟨q_meets_in⟩ : Nonempty (Df _ mg "meets_in" 36 ["one", "other"]) := by
      refine' mkN KX G ?a ?l ?c ?k (fun us hl => bd_meets_in _ _ _ _ _ _ us hl)
      (case a => k_is); (case l => k_is); (case c => k_is); (case k => k_is)
    obtain ⟨q_joint_in⟩ : Nonempty (Df _ mg "joint_in" 37 ["one", "other"]) := by
      refine' mkN KX G ?a ?l ?c ?k (fun us hl => bd_joint_in _ _ _ _ _ _ us hl)
      (case a => k_is); (case l => k_is); (case c => k_is); (case k => k_is)
    obtain ⟨q_houses_in⟩ : Nonempty (Df _ mg "houses_in" 38 ["trust"]) := by
      refine' mkN KX G ?a ?l ?c ?k (fun us hl => bd_houses_in _ _ _ _ _ _ us hl)
      (case a => k_is); (case l => k_is); (case c => k_is); (case k => k_is)
    obtain ⟨q_lots_of⟩ : Nonempty (Df _ mg "lots_of" 40 ["trust", "house"]) := by
      refine' mkN KX G ?a ?l ?c ?k (fun us hl => bd_lots_of _ _ _ _ _ _ us hl)
      (case a => k_is); (case l => k_is); (case c => k_is); (case k => k_is)
    obtain ⟨q_fears_of⟩ : Nonempty (Df _ mg "fears_of" 41 ["trust", "house"]) := by
      refine' mkN KX G ?a ?l ?c ?k (fun us hl => bd_fears_of _ _ _ _ _ _ us hl)
      (case a => k_is); (case l => k_is); (case c => k_is); (case k => k_is)
    obtain ⟨q_is_within⟩ : Nonempty (Df _ mg "is_within" 42 ["one", "other"]) := by
      refine' mkN KX G ?a ?l ?c ?k (fun us hl => bd_is_within _ _ _ _ _ _ us hl)
      (case a => k_is); (case l => k_is); (case c => k_is); (case k => k_is)
    obtain ⟨q_less_by⟩ : Nonempty (Df _ mg "less_by" 43 ["lot", "fall"]) := by
      refine' mkN KX G ?a ?l ?c ?k (fun us hl => bd_less_by _ _ _ _ _ _ us hl)
      (case a => k_is); (case l => k_is); (case c => k_is); (case k => k_is)
    obtain ⟨q_least_of⟩ : Nonempty (Df _ mg "least_of" 44 ["sets"]) := by
      refine' mkN KX G ?a ?l ?c ?k (fun us hl => bd_least_of _ _ _ _ _ _ us hl)
      (case a => k_is); (case l => k_is); (case c => k_is); (case k => k_is)
    obtain ⟨q_greatest_of⟩ : Nonempty (Df _ mg "greatest_of" 45 ["sets"]) := by
      refine' mkN KX G ?a ?l ?c ?k (fun us hl => bd_greatest_of _ _ _ _ _ _ us hl)
      (case a => k_is); (case l => k_is); (case c => k_is); (case k => k_is)
    obtain ⟨q_falls_by⟩ : Nonempty (Df _ mg "falls_by" 46 ["trust", "house", "other"]) := by
      refine' mkN KX G ?a ?l ?c ?k (fun us hl => bd_falls_by _ _ _ _ _ _ us hl)
      (case a => k_is); (case l => k_is); (case c => k_is); (case k => k_is)
    obtain ⟨q_pairs_in⟩ : Nonempty (Df _ mg "pairs_in" 47 ["trust"]) := by
      refine' mkN KX G ?a ?l ?c ?k (fun us hl => bd_pairs_in _ _ _ _ _ _ us hl)
      (case a => k_is); (case l => k_is); (case c => k_is); (case k => k_is)
    obtain ⟨q_lot_at⟩ : Nonempty (Df _ mg "lot_at" 48 ["trust", "pair"]) := by
      refine' mkN KX G ?a ?l ?c ?k (fun us hl => bd_lot_at _ _ _ _ _ _ us hl)
      (case a => k_is); (case l => k_is); (case c => k_is); (case k => k_is)
    obtain ⟨q_needs_by⟩ : Nonempty (Df _ mg "needs_by" 49 ["trust", "house"]) := by
      refine' mkN KX G ?a ?l ?c ?k (fun us hl => bd_needs_by _ _ _ _ _ _ us hl)
      (case a => k_is); (case l => k_is); (case c => k_is); (case k => k_is)
    obtain ⟨q_first_missed_by⟩ : Nonempty (Df _ mg "first_missed_by" 50 ["needs", "lot"]) := by
      refine' mkN KX G ?a ?l ?c ?k (fun us hl => bd_first_missed_by _ _ _ _ _ _ us hl)
      (case a => k_is); (case l => k_is); (case c => k_is); (case k => k_is)
    obtain ⟨q_is_met⟩ : Nonempty (Df _ mg "is_met" 51 ["needs", "lot"]) := by
      refine' mkN KX G ?a ?l ?c ?k (fun us hl => bd_is_met _ _ _ _ _ _ us hl)
      (case a => k_is); (case l => k_is); (case c => k_is); (case k => k_is)
    obtain ⟨q_crossings_by⟩ : Nonempty (Df _ mg "crossings_by" 52 ["needs"]) := by
      refine' mkN KX G ?a ?l ?c ?k (fun us hl => bd_crossings_by _ _ _ _ _ _ us hl)
      (case a => k_is); (case l => k_is); (case c => k_is); (case k => k_is)
    obtain ⟨q_is_house_of⟩ : Nonempty (Df _ mg "is_house_of" 54 ["trust", "thing"]) := by
      refine' mkN KX G ?a ?l ?c ?k (fun us hl => bd_is_house_of _ _ _ _ _ _ us hl)
      (case a => k_is); (case l => k_is); (case c => k_is); (case k => k_is)
    obtain ⟨q_are_houses_of⟩ : Nonempty (Df _ mg "are_houses_of" 55 ["trust", "thing"]) := by
      refine' mkN KX G ?a ?l ?c ?k (fun us hl => bd_are_houses_of _ _ _ _ _ _ us hl)
      (case a => k_is); (case l => k_is); (case c => k_is); (case k => k_is)
    obtain ⟨q_want⟩ : Nonempty (Dd _ mg "want" 61 ["is_fit", "name", "at"] [.int (-1)]) := by
      refine' mkDd KX G ?a ?l ?c ?k (bd_want ?l ?c ?k ?lT ?oT ?rT)
      (case a => k_is); (case l => k_is); (case c => k_is); (case k => k_is)
      (case lT => k_is); (case oT => rfl); (case rT => exact .cons ⟨_, rfl⟩ .nil)
    obtain ⟨q_want_book⟩ : Nonempty (Dd _ mg "want_book" 62 ["value", "name"] [.str "book"]) := by
      refine' mkDd KX G ?a ?l ?c ?k (bd_want_book ?l ?c ?k ?lT ?oT ?rT)
      (case a => k_is); (case l => k_is); (case c => k_is); (case k => k_is)
      (case lT => k_is); (case oT => rfl); (case rT => exact .cons ⟨_, rfl⟩ .nil)
    obtain ⟨q_want_age⟩ : Nonempty (Df _ mg "want_age" 63 ["book", "age"]) := by
      refine' mkN KX G ?a ?l ?c ?k (fun us hl => bd_want_age _ _ _ _ _ _ us hl)
      (case a => k_is); (case l => k_is); (case c => k_is); (case k => k_is)
    obtain ⟨q_want_trust⟩ : Nonempty (Dd _ mg "want_trust" 65 ["trust", "name"] [.str "trust"]) := by
      refine' mkDd KX G ?a ?l ?c ?k (bd_want_trust ?l ?c ?k ?lT ?oT ?rT)
      (case a => k_is); (case l => k_is); (case c => k_is); (case k => k_is)
      (case lT => k_is); (case oT => rfl); (case rT => exact .cons ⟨_, rfl⟩ .nil)
    obtain ⟨q_want_house⟩ : Nonempty (Dd _ mg "want_house" 66 ["trust", "house", "name"] [.str "house"]) := by
      refine' mkDd KX G ?a ?l ?c ?k (bd_want_house ?l ?c ?k ?lT ?oT ?rT)
      (case a => k_is); (case l => k_is); (case c => k_is); (case k => k_is)
      (case lT => k_is); (case oT => rfl); (case rT => exact .cons ⟨_, rfl⟩ .nil)
    obtain ⟨q_want_lot⟩ : Nonempty (Dd _ mg "want_lot" 67 ["trust", "lot", "name"] [.str "lot"]) := by
      refine' mkDd KX G ?a ?l ?c ?k (bd_want_lot ?l ?c ?k ?lT ?oT ?rT)
      (case a => k_is); (case l => k_is); (case c => k_is); (case k => k_is)
      (case lT => k_is); (case oT => rfl); (case rT => exact .cons ⟨_, rfl⟩ .nil)
    obtain ⟨q_want_trusts⟩ : Nonempty (Df _ mg "want_trusts" 69 ["trust", "other"]) := by
      refine' mkN KX G ?a ?l ?c ?k (fun us hl => bd_want_trusts _ _ _ _ _ _ us hl)
      (case a => k_is); (case l => k_is); (case c => k_is); (case k => k_is)
    obtain ⟨q_trusts_alike⟩ : Nonempty (Df _ mg "trusts_alike" 70 ["trust", "other"]) := by
      refine' mkN KX G ?a ?l ?c ?k (fun us hl => bd_trusts_alike _ _ _ _ _ _ us hl)
      (case a => k_is); (case l => k_is); (case c => k_is); (case k => k_is)
    obtain ⟨q_parting_lot⟩ : Nonempty (Df _ mg "parting_lot" 71 ["trust", "other"]) := by
      refine' mkN KX G ?a ?l ?c ?k (fun us hl => bd_parting_lot _ _ _ _ _ _ us hl)
      (case a => k_is); (case l => k_is); (case c => k_is); (case k => k_is)
    obtain ⟨q_needs_of⟩ : Nonempty (Df _ mg "needs_of" 73 ["trust", "house"]) := by
      refine' mkN KX G ?a ?l ?c ?k (fun us hl => bd_needs_of _ _ _ _ _ _ us hl)
      (case a => k_is); (case l => k_is); (case c => k_is); (case k => k_is)
    obtain ⟨q_meets_needs⟩ : Nonempty (Df _ mg "meets_needs" 74 ["trust", "house", "lot"]) := by
      refine' mkN KX G ?a ?l ?c ?k (fun us hl => bd_meets_needs _ _ _ _ _ _ us hl)
      (case a => k_is); (case l => k_is); (case c => k_is); (case k => k_is)
    obtain ⟨q_least_lots⟩ : Nonempty (Df _ mg "least_lots" 75 ["trust", "house"]) := by
      refine' mkN KX G ?a ?l ?c ?k (fun us hl => bd_least_lots _ _ _ _ _ _ us hl)
      (case a => k_is); (case l => k_is); (case c => k_is); (case k => k_is)
    obtain ⟨q_want_rule⟩ : Nonempty (Df _ mg "want_rule" 77 ["book", "rule"]) := by
      refine' mkN KX G ?a ?l ?c ?k (fun us hl => bd_want_rule _ _ _ _ _ _ us hl)
      (case a => k_is); (case l => k_is); (case c => k_is); (case k => k_is)
    obtain ⟨q_answer_in⟩ : Nonempty (Df _ mg "answer_in" 82 ["machine", "state", "look"]) := by
      refine' mkN KX G ?a ?l ?c ?k (fun us hl => bd_answer_in _ _ _ _ _ _ us hl)
      (case a => k_is); (case l => k_is); (case c => k_is); (case k => k_is)
    obtain ⟨q_rows_from⟩ : Nonempty (Df _ mg "rows_from" 84 ["machine", "state"]) := by
      refine' mkN KX G ?a ?l ?c ?k (fun us hl => bd_rows_from _ _ _ _ _ _ us hl)
      (case a => k_is); (case l => k_is); (case c => k_is); (case k => k_is)
    obtain ⟨q_rows_in⟩ : Nonempty (Df _ mg "rows_in" 85 ["machine"]) := by
      refine' mkN KX G ?a ?l ?c ?k (fun us hl => bd_rows_in _ _ _ _ _ _ us hl)
      (case a => k_is); (case l => k_is); (case c => k_is); (case k => k_is)
    obtain ⟨q_unlike_from⟩ : Nonempty (Df _ mg "unlike_from" 87 ["machine", "look", "state"]) := by
      refine' mkN KX G ?a ?l ?c ?k (fun us hl => bd_unlike_from _ _ _ _ _ _ us hl)
      (case a => k_is); (case l => k_is); (case c => k_is); (case k => k_is)
    obtain ⟨q_kept_within⟩ : Nonempty (Df _ mg "kept_within" 88 ["machine", "some", "late"]) := by
      refine' mkN KX G ?a ?l ?c ?k (fun us hl => bd_kept_within _ _ _ _ _ _ us hl)
      (case a => k_is); (case l => k_is); (case c => k_is); (case k => k_is)
    obtain ⟨q_longest_from⟩ : Nonempty (Df _ mg "longest_from" 89 ["machine", "look", "state"]) := by
      refine' mkN KX G ?a ?l ?c ?k (fun us hl => bd_longest_from _ _ _ _ _ _ us hl)
      (case a => k_is); (case l => k_is); (case c => k_is); (case k => k_is)
    obtain ⟨q_least_age_in⟩ : Nonempty (Df _ mg "least_age_in" 90 ["machine", "look"]) := by
      refine' mkN KX G ?a ?l ?c ?k (fun us hl => bd_least_age_in _ _ _ _ _ _ us hl)
      (case a => k_is); (case l => k_is); (case c => k_is); (case k => k_is)
    obtain ⟨q_moves_in⟩ : Nonempty (Df _ mg "moves_in" 91 ["machine", "look", "age"]) := by
      refine' mkN KX G ?a ?l ?c ?k (fun us hl => bd_moves_in _ _ _ _ _ _ us hl)
      (case a => k_is); (case l => k_is); (case c => k_is); (case k => k_is)
    obtain ⟨q_lasting_in⟩ : Nonempty (Df _ mg "lasting_in" 93 ["book", "rule"]) := by
      refine' mkN KX G ?a ?l ?c ?k (fun us hl => bd_lasting_in _ _ _ _ _ _ us hl)
      (case a => k_is); (case l => k_is); (case c => k_is); (case k => k_is)
    obtain ⟨q_caught_in⟩ : Nonempty (Df _ mg "caught_in" 94 ["book", "rule", "need"]) := by
      refine' mkN KX G ?a ?l ?c ?k (fun us hl => bd_caught_in _ _ _ _ _ _ us hl)
      (case a => k_is); (case l => k_is); (case c => k_is); (case k => k_is)
    obtain ⟨q_moving_in⟩ : Nonempty (Df _ mg "moving_in" 95 ["book", "rule", "age"]) := by
      refine' mkN KX G ?a ?l ?c ?k (fun us hl => bd_moving_in _ _ _ _ _ _ us hl)
      (case a => k_is); (case l => k_is); (case c => k_is); (case k => k_is)
    obtain ⟨q_lacks_in⟩ : Nonempty (Df _ mg "lacks_in" 96 ["book", "rule", "age"]) := by
      refine' mkN KX G ?a ?l ?c ?k (fun us hl => bd_lacks_in _ _ _ _ _ _ us hl)
      (case a => k_is); (case l => k_is); (case c => k_is); (case k => k_is)
    obtain ⟨q_rule_lacks⟩ : Nonempty (Dk _ mg "rule_lacks" 98 ["book", "rule", "age"] 2 ["age"]) := by
      refine' mkK KX G ?a ?l ?c ?k bd_rule_lacks
      (case a => k_is); (case l => k_is); (case c => k_is); (case k => k_is)
    obtain ⟨q_rule_is_right⟩ : Nonempty (Dd _ mg "rule_is_right" 99 ["book", "rule", "age"] [.int 0]) := by
      refine' mkDd KX G ?a ?l ?c ?k (bd_rule_is_right ?l ?c ?k ?e ?r)
      (case a => k_is); (case l => k_is); (case c => k_is); (case k => k_is)
      (case e => k_is); (case r => exact ⟨_, rfl⟩)
    obtain ⟨q_law_feed⟩ : Nonempty (Df _ mg "_law_feed" 101 ["_law_script"]) := by
      refine' mkN KX G ?a ?l ?c ?k (fun us hl => bd_law_feed _ _ _ _ _ _ us hl)
      (case a => k_is); (case l => k_is); (case c => k_is); (case k => k_is)
    obtain ⟨q_law_draw⟩ : Nonempty (Df _ mg "_law_draw" 102 ["_law_feed_here", "_law_many"]) := by
      refine' mkN KX G ?a ?l ?c ?k (fun us hl => bd_law_draw _ _ _ _ _ _ us hl)
      (case a => k_is); (case l => k_is); (case c => k_is); (case k => k_is)
    obtain ⟨q_law_any⟩ : Nonempty (Df _ mg "_law_any" 103 ["_law_feed_here", "_law_some"]) := by
      refine' mkN KX G ?a ?l ?c ?k (fun us hl => bd_law_any _ _ _ _ _ _ us hl)
      (case a => k_is); (case l => k_is); (case c => k_is); (case k => k_is)
    obtain ⟨q_law_same⟩ : Nonempty (Df _ mg "_law_same" 104 ["_law_told", "_law_due"]) := by
      refine' mkN KX G ?a ?l ?c ?k (fun us hl => bd_law_same _ _ _ _ _ _ us hl)
      (case a => k_is); (case l => k_is); (case c => k_is); (case k => k_is)
    obtain ⟨q_law_within⟩ : Nonempty (Df _ mg "_law_within" 105 ["_law_some", "_law_other"]) := by
      refine' mkN KX G ?a ?l ?c ?k (fun us hl => bd_law_within _ _ _ _ _ _ us hl)
      (case a => k_is); (case l => k_is); (case c => k_is); (case k => k_is)
    obtain ⟨q_law_less⟩ : Nonempty (Df _ mg "_law_less" 106 ["_law_some", "_law_other"]) := by
      refine' mkN KX G ?a ?l ?c ?k (fun us hl => bd_law_less _ _ _ _ _ _ us hl)
      (case a => k_is); (case l => k_is); (case c => k_is); (case k => k_is)
    obtain ⟨q_law_subsets⟩ : Nonempty (Df _ mg "_law_subsets" 107 ["_law_names"]) := by
      refine' mkN KX G ?a ?l ?c ?k (fun us hl => bd_law_subsets _ _ _ _ _ _ us hl)
      (case a => k_is); (case l => k_is); (case c => k_is); (case k => k_is)
    obtain ⟨q_law_guild⟩ : Nonempty (Df _ mg "_law_guild" 108 ["_law_feed_here", "_law_most"]) := by
      refine' mkN KX G ?a ?l ?c ?k (fun us hl => bd_law_guild _ _ _ _ _ _ us hl)
      (case a => k_is); (case l => k_is); (case c => k_is); (case k => k_is)
    obtain ⟨q_law_safe⟩ : Nonempty (Df _ mg "_law_safe" 109 ["_law_guild_here", "_law_some"]) := by
      refine' mkN KX G ?a ?l ?c ?k (fun us hl => bd_law_safe _ _ _ _ _ _ us hl)
      (case a => k_is); (case l => k_is); (case c => k_is); (case k => k_is)
    obtain ⟨q_law_safes⟩ : Nonempty (Df _ mg "_law_safes" 110 ["_law_guild_here"]) := by
      refine' mkN KX G ?a ?l ?c ?k (fun us hl => bd_law_safes _ _ _ _ _ _ us hl)
      (case a => k_is); (case l => k_is); (case c => k_is); (case k => k_is)
    obtain ⟨q_law_minimal⟩ : Nonempty (Df _ mg "_law_minimal" 111 ["_law_sets"]) := by
      refine' mkN KX G ?a ?l ?c ?k (fun us hl => bd_law_minimal _ _ _ _ _ _ us hl)
      (case a => k_is); (case l => k_is); (case c => k_is); (case k => k_is)
    obtain ⟨q_law_needs⟩ : Nonempty (Df _ mg "_law_needs" 112 ["_law_guild_here", "_law_safes_here", "_law_name"]) := by
      refine' mkN KX G ?a ?l ?c ?k (fun us hl => bd_law_needs _ _ _ _ _ _ us hl)
      (case a => k_is); (case l => k_is); (case c => k_is); (case k => k_is)
    obtain ⟨q_law_meets⟩ : Nonempty (Df _ mg "_law_meets" 113 ["_law_needs_here", "_law_some"]) := by
      refine' mkN KX G ?a ?l ?c ?k (fun us hl => bd_law_meets _ _ _ _ _ _ us hl)
      (case a => k_is); (case l => k_is); (case c => k_is); (case k => k_is)
    obtain ⟨q_law_motor⟩ : Nonempty (Df _ mg "_law_motor" 114 ["_law_feed_here"]) := by
      refine' mkN KX G ?a ?l ?c ?k (fun us hl => bd_law_motor _ _ _ _ _ _ us hl)
      (case a => k_is); (case l => k_is); (case c => k_is); (case k => k_is)
    obtain ⟨q_law_crossed⟩ : Nonempty (Df _ mg "_law_crossed" 115 ["_law_sets", "_law_names"]) := by
      refine' mkN KX G ?a ?l ?c ?k (fun us hl => bd_law_crossed _ _ _ _ _ _ us hl)
      (case a => k_is); (case l => k_is); (case c => k_is); (case k => k_is)
    obtain ⟨q_law_thin⟩ : Nonempty (Df _ mg "_law_thin" 116 ["_law_guild_here"]) := by
      refine' mkN KX G ?a ?l ?c ?k (fun us hl => bd_law_thin _ _ _ _ _ _ us hl)
      (case a => k_is); (case l => k_is); (case c => k_is); (case k => k_is)
    obtain ⟨q_law_near⟩ : Nonempty (Df _ mg "_law_near" 117 ["_law_feed_here", "_law_guild_here", "_law_names"]) := by
      refine' mkN KX G ?a ?l ?c ?k (fun us hl => bd_law_near _ _ _ _ _ _ us hl)
      (case a => k_is); (case l => k_is); (case c => k_is); (case k => k_is)
    obtain ⟨q_law_is_told_back⟩ : Nonempty (Df _ mg "_law_is_told_back" 118 ["_law_guild_here", "_law_names", "_law_table"]) := by
      refine' mkN KX G ?a ?l ?c ?k (fun us hl => bd_law_is_told_back _ _ _ _ _ _ us hl)
      (case a => k_is); (case l => k_is); (case c => k_is); (case k => k_is)
    obtain ⟨q_law_are_alike_right⟩ : Nonempty (Df _ mg "_law_are_alike_right" 119 ["_law_feed_here", "_law_guild_here", "_law_far", "_law_table"]) := by
      refine' mkN KX G ?a ?l ?c ?k (fun us hl => bd_law_are_alike_right _ _ _ _ _ _ us hl)
      (case a => k_is); (case l => k_is); (case c => k_is); (case k => k_is)
    obtain ⟨q_law_right⟩ : Nonempty (Df _ mg "_law_right" 120 ["_law_script"]) := by
      refine' mkN KX G ?a ?l ?c ?k (fun us hl => bd_law_right _ _ _ _ _ _ us hl)
      (case a => k_is); (case l => k_is); (case c => k_is); (case k => k_is)
    obtain ⟨q_law, hb⟩ : ∃ q : Df _ mg "law" 121 ["_law_script"], ∀ (s : Shared) (u : Value), PySem.BindsTo s q.f ⟨[u], []⟩ [("_law_script", u)] := by
      refine' ⟨mkDf KX G ?a ?l ?c ?k (fun us hl => bd_law _ _ _ _ _ _ us hl), fun s u => .of_eq (bd_law _ _ _ _ _ _ [u] rfl)⟩
      (case a => k_is); (case l => k_is); (case c => k_is); (case k => k_is)
    have z_len : mg "len" = none := by
      refine' PySem.W.mg_none_of KX G ?z
      (case z => k_is)
    have z_all : mg "all" = none := by
      refine' PySem.W.mg_none_of KX G ?z
      (case z => k_is)
    have z_any : mg "any" = none := by
      refine' PySem.W.mg_none_of KX G ?z
      (case z => k_is)
    have z_max : mg "max" = none := by
      refine' PySem.W.mg_none_of KX G ?z
      (case z => k_is)
    have z_tuple : mg "tuple" = none := by
      refine' PySem.W.mg_none_of KX G ?z
      (case z => k_is)
    have z_list : mg "list" = none := by
      refine' PySem.W.mg_none_of KX G ?z
      (case z => k_is)
    have z_dict : mg "dict" = none := by
      refine' PySem.W.mg_none_of KX G ?z
      (case z => k_is)
    have z_sorted : mg "sorted" = none := by
      refine' PySem.W.mg_none_of KX G ?z
      (case z => k_is)
    have z_repr : mg "repr" = none := by
      refine' PySem.W.mg_none_of KX G ?z
      (case z => k_is)
    have z_isinstance : mg "isinstance" = none := by
      refine' PySem.W.mg_none_of KX G ?z
      (case z => k_is)
    have z_set : mg "set" = none := by
      refine' PySem.W.mg_none_of KX G ?z
      (case z => k_is)
    have z_range : mg "range" = none := by
      refine' PySem.W.mg_none_of KX G ?z
      (case z => k_is)
    have z_enumerate : mg "enumerate" = none := by
      refine' PySem.W.mg_none_of KX G ?z
      (case z => k_is)
    have z_zip : mg "zip" = none := by
      refine' PySem.W.mg_none_of KX G ?z
      (case z => k_is)
    have z_int : mg "int" = none := by
      refine' PySem.W.mg_none_of KX G ?z
      (case z => k_is)
    have z_bool : mg "bool" = none := by
      refine' PySem.W.mg_none_of KX G ?z
      (case z => k_is)
    have z_str : mg "str" = none := by
      refine' PySem.W.mg_none_of KX G ?z
      (case z => k_is)
    have z_ALPHABET : ∃ u, mg "ALPHABET" = some u ∧ L2.RelV (.str "abcdefghijklmnopqrstuvwxyz") u := by
      refine' ⟨_, PySem.W.mg_of KX G ?z, ?r⟩
      (case z => k_is)
      (case r => exact ⟨_, rfl⟩)
    have z_MOST_SIGNS : ∃ u, mg "MOST_SIGNS" = some u ∧ L2.RelV (.int 8) u := by
      refine' ⟨_, PySem.W.mg_of KX G ?z, ?r⟩
      (case z => k_is)
      (case r => exact ⟨_, rfl⟩)
    have z_ANY : ∃ u, mg "ANY" = some u ∧ L2.RelV (.str "any") u := by
      refine' ⟨_, PySem.W.mg_of KX G ?z, ?r⟩
      (case z => k_is)
      (case r => exact ⟨_, rfl⟩)
    exact Y.fin_F hT ⟨⟨z_len, z_all, z_any, z_max, z_tuple, z_list, z_dict, z_sorted, z_repr, z_isinstance, z_set, z_range, z_enumerate, z_zip, z_int, z_bool, z_str, z_ALPHABET, z_MOST_SIGNS, z_ANY⟩, q_is_integer, q_is_number, q_is_index, q_is_among, q_is_name, q_is_tuple_of, q_is_pair, q_are_rising, q_is_names, q_is_names_among, q_are_sets_among, q_are_indexes, q_are_numbers, q_machine_fault, q_is_triple_from, q_trust_fault, q_order_fault, q_gaps_by, q_triangle_fault, q_clocks_fault, q_are_promises, q_is_looking, q_is_looking_of, q_rules_fault, q_parts_fault, q_is_trust, q_is_book, q_meets_in, q_joint_in, q_houses_in, q_lots_of, q_fears_of, q_is_within, q_less_by, q_least_of, q_greatest_of, q_falls_by, q_pairs_in, q_lot_at, q_needs_by, q_first_missed_by, q_is_met, q_crossings_by, q_is_house_of, q_are_houses_of, q_want, q_want_book, q_want_age, q_want_trust, q_want_house, q_want_lot, q_want_trusts, q_trusts_alike, q_parting_lot, q_needs_of, q_meets_needs, q_least_lots, q_want_rule, q_answer_in, q_rows_from, q_rows_in, q_unlike_from, q_kept_within, q_longest_from, q_least_age_in, q_moves_in, q_lasting_in, q_caught_in, q_moving_in, q_lacks_in, q_rule_lacks, q_rule_is_right, q_law_feed, q_law_draw, q_law_any, q_law_same, q_law_within, q_law_less, q_law_subsets, q_law_guild, q_law_safe, q_law_safes, q_law_minimal, q_law_needs, q_law_meets, q_law_motor, q_law_crossed, q_law_thin, q_law_near, q_law_is_told_back, q_law_are_alike_right, q_law_right, q_law⟩ hb hmg
end KFin
set_option Elab.async false
theorem PySem.Challenge.cw_actasone_k66_whole_trusts_told_back_holds : PySem.Challenge.rw_actasone_k66_whole_trusts_told_back.Holds := by
  exact joined Y.right_true

import PyProof.Rows.All
import Wide.All
import OpenK.AllK
import Wide.FinOn
import Wide.Once
import HandS.Head0
import HandS.Head1
import HandS.Head2
import HandS.HeadHook4
import HandS.DictComp
import HandS.SetKeys
import HandS.ForExc
import KE.KExcInit
import PyProof.ExcBaseAll.OverflowError
import HandS.Walk
import HandS.Evl
import HandS.Codes
import PySem.Challenge.RW_carpets_k36_whole_merged_carpets
import HandS.Star
import HandS.Wide
import HandS.IsInst
import HandS.Flow
import HandS.Deep
import HandS.TryMany
import HandS.MakeKwOnly
import HandS.Style
import HandS.Conv
import HandS.ForMost
import HandS.ClsMeth
import HandS.Property
import HandS.CallLocal
import OpenK.KMeth
import OpenK.KDescr
import KE.KDictSum
import HandS.TupSets
import HandS.SetBool
import KE.SortData
import HandS.GenList
import PyProof.GenObj
import PyProof.GenQ
import PyProof.Rows.RowBridgeG
import HandS.Defaults
import PyProof.EnumMake
import KE.GoesMore
import HandS.TupLe
import HandS.Lambda
import HandS.EndTab
import PyProof.EqAt
import PyProof.EqKinds
import PyProof.TupleCall
import HandS.Base
import HandS.Call
import HandS.Exc
import PyProof.StrBlock2
import HandS.TryOnly
set_option Elab.async false
set_option linter.all false
set_option maxRecDepth 100000
set_option maxHeartbeats 4000000
/-! CpL: sets whose members are tuples of ints and texts: the table. -/
namespace CpS
open PySem PySem.Spec PyProof.Rows L2
/-- the hash of a row, and "the row k stands at a" -/
abbrev hOf (P : Program) (w : World) (k : List Key) : Int := tupleKeyHash (mixKind P w) k
abbrev RowAt (P : Program) (w : World) (h : Heap) (k : List Key) (a : Addr) : Prop := IsTupleKey (mixKind P w) h k a
abbrev Rw := List (Addr × List Key)
def Flat (v : Value) : Prop := (∃ i t, v = Value.int i t) ∨ ∃ x t, v = Value.str x t
theorem flat_mem {P : Program} {w : World} {k : List Key} {vs : List Value} (h : ItemsAre (mixKind P w) k vs) : ∀ v ∈ vs, Flat v := by
  induction h with
  | nil => intro v z; cases z
  | cons h1 _ ih =>
    intro v z
    rcases List.mem_cons.mp z with e | z
    · rcases keyIs_shape h1 with ⟨i, t, _, e2⟩ | ⟨x, t, _, e2⟩
      · exact .inl ⟨i, t, e.trans e2⟩
      · exact .inr ⟨x, t, e.trans e2⟩
    · exact ih v z
theorem flat_cls (n : Nat) {v : Value} (h : Flat v) : ofAClassStatement n v = pure false := by
  rcases h with ⟨i, t, rfl⟩ | ⟨x, t, rfl⟩ <;> cases n <;> rfl
theorem flat_byv (n : Nat) {v : Value} (h : Flat v) : ∃ b : Bool, hashByValue n v = pure b := by
  rcases h with ⟨i, t, rfl⟩ | ⟨x, t, rfl⟩
  · exact ⟨true, by cases n <;> rfl⟩
  · exact ⟨false, by cases n <;> rfl⟩
section
variable {P : Program} {w : World} {A : Around} {E : Value → Shared → Prop} {s : Shared}
theorem row_keep {h h' : Heap} {k : List Key} {b : Addr} (x : RowAt P w h k b) (hk : ∀ o, h.get? b = some o → h'.get? b = some o) : RowAt P w h' k b := by
  obtain ⟨o, its, n, ho, r⟩ := x
  exact ⟨o, its, n, hk o ho, r⟩
theorem row_cls {k : List Key} {b : Addr} {Q : Bool → Shared → Prop} (hr : RowAt P w s.heap k b) (q : Q false s) : wpAny (model P w) A (ofAClassStatement 8 (.ref b)) Q E s := by
  have ty := hr.typeIs
  obtain ⟨o, its, n, ho, _, hd, hi⟩ := hr
  unfold ofAClassStatement
  refine wpAny_bind (wpAny_typeOf ty ?_)
  have tt : (("tuple" : String) == "tuple") = true := by decide
  simp only [tt, if_true]
  first | refine wpAny_bind (wpAny_pure ?_) | skip
  simp only [Bool.not_true, Bool.false_eq_true, if_false]
  show wpAny _ _ (seqItems? (.ref b) >>= _) _ _ s
  refine wpAny_bind (wpAny_seqItems ho hd ?_)
  refine wpAny_bind ?_
  show wpAny _ _ (forIn its _ _) _ _ s
  rw [← Array.forIn_toList]
  refine wpAny_forIn_list _ (fun rest r z => r.1 = none ∧ z = s ∧ ∀ v ∈ rest, Flat v) _ (fun v rest r z hz => ?_) (fun r z hz => ?_) _ _ ⟨rfl, rfl, flat_mem hi⟩
  · obtain ⟨_, rfl, all⟩ := hz
    rw [flat_cls _ (all v List.mem_cons_self)]
    refine wpAny_bind (wpAny_pure ?_)
    simp only [Bool.false_eq_true, if_false]
    exact wpAny_pure ⟨rfl, rfl, fun u hu => all u (List.mem_cons_of_mem _ hu)⟩
  · obtain ⟨r1, r2⟩ := r
    obtain ⟨e, rfl, _⟩ := hz
    simp only at e
    subst e
    exact wpAny_pure q
theorem row_byv {k : List Key} {b : Addr} {Q : Bool → Shared → Prop} (hr : RowAt P w s.heap k b) (q : ∀ c, Q c s) : wpAny (model P w) A (hashByValue 8 (.ref b)) Q E s := by
  have ty := hr.typeIs
  obtain ⟨o, its, n, ho, _, hd, hi⟩ := hr
  unfold hashByValue
  refine wpAny_bind (wpAny_specialOf ty F.slot_tuple_hash.lookup ?_)
  show wpAny _ _ (seqItems? (.ref b) >>= _) _ _ s
  refine wpAny_bind (wpAny_seqItems ho hd ?_)
  refine wpAny_bind ?_
  show wpAny _ _ (forIn its _ _) _ _ s
  rw [← Array.forIn_toList]
  refine wpAny_forIn_list _ (fun rest r z => z = s ∧ ∀ v ∈ rest, Flat v) _ (fun v rest r z hz => ?_) (fun r z hz => ?_) _ _ ⟨rfl, flat_mem hi⟩
  · obtain ⟨rfl, all⟩ := hz
    obtain ⟨c, e⟩ := flat_byv 7 (all v List.mem_cons_self)
    rw [e]
    refine wpAny_bind (wpAny_pure ?_)
    cases c with
    | true =>
      simp only [Bool.not_true, Bool.false_eq_true, if_false]
      exact wpAny_pure ⟨rfl, fun u hu => all u (List.mem_cons_of_mem _ hu)⟩
    | false =>
      simp only [Bool.not_false, if_true]
      exact wpAny_pure (wpAny_pure (q _))
  · obtain ⟨r1, r2⟩ := r
    obtain ⟨rfl, _⟩ := hz
    cases r1 with
    | none => exact wpAny_pure (q _)
    | some c => exact wpAny_pure (q _)
/-- a search among rows shows nothing -/
theorem row_seen {k : List Key} {b : Addr} {Q : Bool → Shared → Prop} (hr : RowAt P w s.heap k b) {ys : List Value} (hy : ∀ y ∈ ys, ∃ k' c, y = Value.ref c ∧ RowAt P w s.heap k' c) (q : Q false s) :
    wpAny (model P w) A (searchCouldBeSeen (.ref b) ys) Q E s := by
  unfold searchCouldBeSeen
  refine wpAny_bind ?_
  refine wpAny_forIn_list _ (fun rest r z => r.1 = none ∧ z = s ∧ ∀ y ∈ rest, ∃ k' c, y = Value.ref c ∧ RowAt P w s.heap k' c) _ (fun v rest r z hz => ?_) (fun r z hz => ?_) _ _ ⟨rfl, rfl, hy⟩
  · obtain ⟨_, ez, all⟩ := hz
    subst ez
    obtain ⟨k', c, rfl, hc⟩ := all v List.mem_cons_self
    have tl := fun u hu => all u (List.mem_cons_of_mem _ hu)
    dsimp only
    by_cases hv : (b == c || (carriedByValue (.ref b) && carriedByValue (.ref c))) = true
    · exact wp_if_pos hv (wpAny_pure ⟨rfl, rfl, tl⟩)
    · refine wp_if_neg hv (wpAny_bind (wpAny_eqIsQuiet_tuple hr ?_))
      simp only [Bool.not_true, Bool.false_eq_true, if_false]
      refine wpAny_bind (wpAny_eqIsQuiet_tuple hc ?_)
      simp only [Bool.not_true, Bool.false_eq_true, if_false]
      refine wpAny_bind (row_cls hr ?_)
      simp only [Bool.false_eq_true, if_false]
      refine wpAny_bind (row_cls hc ?_)
      simp only [Bool.false_eq_true, if_false]
      exact wpAny_pure ⟨rfl, rfl, tl⟩
  · obtain ⟨r1, r2⟩ := r
    obtain ⟨e, rfl, _⟩ := hz
    simp only at e
    subst e
    exact wpAny_pure q
/-! ### the table -/
def entries (P : Program) (w : World) (L : Rw) : List (Int × Value) := L.map fun p => (hOf P w p.2, Value.ref p.1)
structure Tbl (P : Program) (w : World) (h : Heap) (a : Addr) (L : Rw) (es : Array (Int × Value)) (ep : Nat) (t : SetTable) : Prop where
  obj : ∃ o, h.get? a = some o ∧ o.ExactSet ∧ o.data = .set es ep t
  ents : es.toList = entries P w L
  ok : TabOk t (L.map fun p => hOf P w p.2)
  once : (L.map (·.2)).Nodup
  at_ : ∀ p ∈ L, RowAt P w h p.2 p.1
  led : w.params.followText "set-order" = true ∨ t.led = true
  room : L.length * 5 < t.mask * 3
  few : L.length < 64
variable {a : Addr} {L : Rw} {es : Array (Int × Value)} {ep : Nat} {t : SetTable}
theorem ents_size (e : es.toList = entries P w L) : es.size = L.length := by
  have q := congrArg List.length e
  simpa [entries] using q
theorem Tbl.len (T : Tbl P w s.heap a L es ep t) : es.size = L.length := ents_size T.ents
theorem tab_len (T : TabOk t (L.map fun p => hOf P w p.2)) : t.place.size = L.length := by simpa using T.sz
theorem Tbl.fits (T : Tbl P w s.heap a L es ep t) : t.fits es.size = true := by
  have h1 := tab_len T.ok
  have h2 := T.len
  have h3 := T.room
  unfold SetTable.fits SetTable.fill
  rw [T.ok.dm, Bool.and_eq_true, beq_iff_eq, decide_eq_true_eq]
  show t.place.size = es.size ∧ t.place.size + 0 ≤ t.mask
  omega
theorem Tbl.ent (T : Tbl P w s.heap a L es ep t) {i : Nat} {p : Addr × List Key} (h : L[i]? = some p) : es[i]? = some (hOf P w p.2, Value.ref p.1) := by
  rw [← Array.getElem?_toList, T.ents, entries, List.getElem?_map, h]
  all_goals rfl
theorem Tbl.stays (T : Tbl P w s.heap a L es ep t) : ¬ t.gaveWay = true := by
  unfold SetTable.gaveWay
  rw [mask_odd T.ok.mok]
  decide
theorem nth_nd (m : Nat) : ∀ (n : Nat) (p : SetTable.Probe), p.dummy = none → (nth m p n).dummy = none
  | 0, _, h => h
  | n + 1, p, h => nth_nd m n (adv m p) (by unfold adv; split <;> exact h)
/-- the probe's start, n steps on -/
abbrev prb (m : Nat) (h : Int) (n : Nat) : SetTable.Probe := nth m (runAt m (SetTable.bits h % (m + 1)) (SetTable.bits h)) n
theorem prb_add (m : Nat) (h : Int) (c q : Nat) : nth m (prb m h c) q = prb m h (c + q) := (nth_add m c _ q).symm
/-- the search, from the c-th step of the way on; K: the first empty place -/
theorem srch (T : Tbl P w s.heap a L es ep t) {x : Addr} {k : List Key} (hx : RowAt P w s.heap k x) (hu : A.units < cLine) {K : Nat} (hKf : K < 10 * SetTable.turns t.mask)
    (hK : way t.mask (hOf P w k) K ∉ t.place.toList) (hKb : ∀ c, c < K → way t.mask (hOf P w k) c ∈ t.place.toList) {Q : SetFound → Shared → Prop}
    (yes : k ∈ L.map (·.2) → Q (.there none) s) (no : k ∉ L.map (·.2) → Q (.free (way t.mask (hOf P w k) K) false) s) :
    ∀ (f c : Nat) (st : Option SetTable.Probe), st.getD (t.probeStart (hOf P w k)) = prb t.mask (hOf P w k) c → c ≤ K → K - c < f →
      (∀ (i : Nat) p, L[i]? = some p → p.2 = k → ∃ c', c ≤ c' ∧ c' < K ∧ t.place.toList[i]? = some (way t.mask (hOf P w k) c')) →
      wpAny (model P w) A (setSearchFrom a (.ref x) (hOf P w k) true f st) Q E s
  | 0, c, st, _, _, hf, _ => absurd hf (Nat.not_lt_zero _)
  | f + 1, c, st, hst, hc, hf, hre => by
    obtain ⟨o, ho, hex, hd⟩ := T.obj
    generalize hh0 : hOf P w k = h0 at *
    rw [setSearchFrom_succ]
    refine wpAny_bind (wpAny_setState_of ho hd T.fits ?_)
    dsimp only
    refine wp_if_neg T.stays ?_
    try refine wpAny_bind (wpAny_pure ?_)
    have wj : ∀ q, (nth t.mask (prb t.mask h0 c) q).j = way t.mask h0 (c + q) := fun q => congrArg SetTable.Probe.j (prb_add t.mask h0 c q)
    have eK : c + (K - c) = K := by omega
    have spec := go_spec t T.ok.ris T.ok.dm (fun i => (es[i]?.map (·.1)).getD 0) h0 (10 * SetTable.turns t.mask) (K - c) (prb t.mask h0 c) (nth_nd _ _ _ rfl) (by omega)
      (fun q hq => by rw [wj]; exact hKb (c + q) (by omega)) (by rw [wj, eK]; exact hK)
    have hAt : ∀ (i : Nat) p, L[i]? = some p → (fun i => (es[i]?.map (·.1)).getD 0) i = hOf P w p.2 := fun i p hp => by
      show (es[i]?.map (·.1)).getD 0 = _
      rw [T.ent hp]
      all_goals rfl
    rcases spec with ⟨q, i, hq, hi, hh, hno, hpr⟩ | ⟨hno, hpr⟩
    · -- a candidate
      rw [prb_add, prb_add] at hpr
      rw [wj] at hi
      have hpr' : t.probe (fun i => (es[i]?.map (·.1)).getD 0) h0 (st.getD (t.probeStart h0)) = some (.candidate (way t.mask h0 (c + q)) i (prb t.mask h0 (c + (q + 1)))) := by
        rw [hst]
        exact hpr
      rw [hpr']
      dsimp only
      have hil : i < L.length := by
        have h1 : i < t.place.toList.length := (List.getElem?_eq_some_iff.mp hi).1
        have h2 := tab_len T.ok
        rw [Array.length_toList] at h1
        omega
      obtain ⟨p, hp⟩ : ∃ p, L[i]? = some p := ⟨_, List.getElem?_eq_getElem hil⟩
      have mem : p ∈ L := List.mem_of_getElem? hp
      have rest : wpAny (model P w) A (searchRest a (.ref x) h0 true f es t (way t.mask h0 (c + q)) i (prb t.mask h0 (c + (q + 1)))) Q E s := by
        unfold searchRest
        rw [T.ent hp]
        dsimp only
        refine wpAny_bind (wpAny_holding (wpAny_eqBool_tuple hu (T.at_ p mem) hx ?_))
        refine wpAny_bind (wpAny_setState_of ho hd T.fits ?_)
        dsimp only
        by_cases same : p.2 = k
        · refine wp_if_pos (by simp [same]) (wpAny_pure (yes ?_))
          exact List.mem_map.mpr ⟨p, mem, same⟩
        · refine wp_if_neg (by simp [same]) ?_
          try refine wpAny_bind (wpAny_pure ?_)
          rw [sameMem]
          dsimp only
          have live : t.slot (way t.mask h0 (c + q)) = .live i := slot_live T.ok.ris hi
          simp only [if_true, live, T.ent hp]
          refine wpAny_bind (wpAny_isSame_ref_self (wpAny_bind (wpAny_pure ?_)))
          simp only [if_true]
          refine wp_if_neg (by simp [same]) ?_
          have go := srch T hx hu (K := K) (by omega) (by rw [hh0]; exact hK) (by rw [hh0]; exact hKb) yes (by rw [hh0]; exact no) f (c + (q + 1)) (some (prb t.mask h0 (c + (q + 1)))) (by rw [hh0]; rfl) (by omega) (by omega) (fun i0 p0 e0 k0 => by
            obtain ⟨c', a1, a2, a3⟩ := hre i0 p0 e0 k0
            rw [hh0]
            refine ⟨c', ?_, a2, a3⟩
            rcases Nat.lt_trichotomy c' (c + q) with z | z | z
            · refine absurd ((hAt i0 p0 e0).trans ?_) (hno (c' - c) i0 (by omega) ?_)
              · rw [k0]; exact hh0
              · rw [wj, show c + (c' - c) = c' by omega]; exact a3
            · rw [z] at a3
              have s0 := slot_live T.ok.ris a3
              rw [live] at s0
              injection s0 with s0
              rw [← s0, hp] at e0
              exact absurd ((congrArg Prod.snd (Option.some.inj e0)).trans k0) same
            · omega)
          rw [hh0] at go
          exact go
      by_cases hl : t.led = true
      · refine wp_if_neg (by simp [hl]) ?_
        try refine wpAny_bind (wpAny_pure ?_)
        exact rest
      · refine wp_if_pos (by simp [hl]) (wpAny_bind (row_seen hx (fun y hy => ?_) ?_))
        · obtain ⟨e, he, ee⟩ := List.mem_map.mp hy
          have in1 : e ∈ es ∧ e.1 = h0 := by simpa using he
          have in2 : e ∈ es.toList := by simpa using in1.1
          rw [T.ents] at in2
          obtain ⟨p2, hp2, e2⟩ := List.mem_map.mp in2
          exact ⟨p2.2, p2.1, by rw [← ee, ← e2], T.at_ p2 hp2⟩
        · refine wp_if_neg (by decide) ?_
          try refine wpAny_bind (wpAny_pure ?_)
          exact rest
    · -- the empty place
      rw [wj, eK] at hpr
      have hpr' : t.probe (fun i => (es[i]?.map (·.1)).getD 0) h0 (st.getD (t.probeStart h0)) = some (.empty (way t.mask h0 K) none) := by
        rw [hst]
        exact hpr
      rw [hpr']
      dsimp only
      refine wpAny_pure (no fun hm => ?_)
      obtain ⟨p0, h00, hk0⟩ := List.mem_map.mp hm
      obtain ⟨i0, hi0, e0⟩ := List.getElem_of_mem h00
      have g0 : L[i0]? = some p0 := by rw [List.getElem?_eq_getElem hi0, e0]
      obtain ⟨c', a1, a2, a3⟩ := hre i0 p0 g0 hk0
      refine absurd ((hAt i0 p0 g0).trans ?_) (hno (c' - c) i0 (by omega) ?_)
      · rw [hk0]; exact hh0
      · rw [wj, show c + (c' - c) = c' by omega]; exact a3
end
end CpS
set_option Elab.async false
set_option linter.all false
set_option maxRecDepth 100000
set_option maxHeartbeats 4000000
/-! CpM: sets of rows: adding. -/
namespace CpS
open PySem PySem.Spec PyProof.Rows L2
section
variable {P : Program} {w : World} {A : Around} {E : Value → Shared → Prop} {s : Shared} {a : Addr} {L : Rw} {es : Array (Int × Value)} {ep : Nat} {t : SetTable}
theorem row_other {h h' : Heap} {k : List Key} {b : Addr} {o : Obj} (hb : RowAt P w h k b) (ho : h.get? a = some o) (hd : o.data = .set es ep t) (hs : Heap.SameBut a h h') : RowAt P w h' k b := by
  have ne : b ≠ a := fun e => by
    obtain ⟨o', its, n, ho', _, hd', _⟩ := hb
    rw [e, ho] at ho'
    rw [← Option.some.inj ho', hd] at hd'
    exact nomatch hd'
  exact row_keep hb fun u e => (hs.2 b ne).trans e
/-- the places shuffled -/
theorem ents_order (L : Rw) (es : Array (Int × Value)) (order : Array Nat) (hr : es.toList = entries P w L) (hp : order.toList.Perm (List.range L.length)) :
    ∃ L2, (order.filterMap (es[·]?)).toList = entries P w L2 ∧ L2.Perm L ∧ (L2.map fun p => hOf P w p.2) = order.toList.map fun i => (es.map (·.1)).getD i 0 := by
  have ent : ∀ (i : Nat) (p : Addr × List Key), L[i]? = some p → es[i]? = some (hOf P w p.2, Value.ref p.1) := fun i p h => by
    rw [← Array.getElem?_toList, hr, entries, List.getElem?_map, h]
    all_goals rfl
  have key : ∀ l : List Nat, (∀ i ∈ l, i < L.length) → l.filterMap (fun i => es[i]?) = entries P w (l.filterMap fun i => L[i]?) ∧ ((l.filterMap fun i => L[i]?).map fun p => hOf P w p.2) = l.map fun i => (es.map (·.1)).getD i 0 := by
    intro l
    induction l with
    | nil => intro _; exact ⟨rfl, rfl⟩
    | cons i l ih =>
      intro hl
      obtain ⟨e1, e2⟩ := ih fun j hj => hl j (List.mem_cons_of_mem _ hj)
      have gi : L[i]? = some (L[i]'(hl i List.mem_cons_self)) := List.getElem?_eq_getElem _
      generalize L[i]'(hl i List.mem_cons_self) = p at gi
      have q1 := ent i p gi
      have q2 : (es.map (·.1)).getD i 0 = hOf P w p.2 := by
        rw [Array.getD_eq_getD_getElem?, Array.getElem?_map, q1]
        all_goals rfl
      rw [List.filterMap_cons_some q1, List.filterMap_cons_some gi, e1, List.map_cons, List.map_cons, e2, q2]
      exact ⟨rfl, rfl⟩
  obtain ⟨e1, e3⟩ := key order.toList fun i hi => List.mem_range.mp (hp.mem_iff.mp hi)
  have h2 : (List.range L.length).filterMap (fun i => L[i]?) = L := by
    have k2 : ∀ n, n ≤ L.length → (List.range n).filterMap (fun i => L[i]?) = L.take n := by
      intro n
      induction n with
      | zero => intro _; rfl
      | succ n ih =>
        intro hn
        rw [List.range_succ, List.filterMap_append, ih (Nat.le_of_lt hn), List.take_succ, List.filterMap_cons_some (List.getElem?_eq_getElem hn), List.getElem?_eq_getElem hn]
        all_goals rfl
    rw [k2 _ (Nat.le_refl _), List.take_length]
  refine ⟨_, by first | (rw [Array.toList_filterMap]; exact e1) | simpa using e1, ?_, e3⟩
  have h1 := hp.filterMap fun i => L[i]?
  rw [h2] at h1
  exact h1
/-- a larger table -/
theorem relay {o : Obj} (ho : s.heap.get? a = some o) (hex : o.ExactSet) (hd : o.data = .set es ep t) (hr : es.toList = entries P w L) (hsz : t.place.size = es.size) (hdm : t.dummies = #[]) (hfl : es.size ≤ t.mask)
    (once : (L.map (·.2)).Nodup) (at_ : ∀ p ∈ L, RowAt P w s.heap p.2 p.1) (ld : w.params.followText "set-order" = true ∨ t.led = true) (few : L.length < 64) {wanted M : Nat}
    (hw : SetTable.sizeAbove wanted - 1 = M) (hM : MaskOk M) (hw2 : SetTable.sizeAbove wanted ≤ 128) (hn : L.length * 5 < M * 3) {Q : Unit → Shared → Prop}
    (q : ∀ h' L' es' ep' t', Heap.SameBut a s.heap h' → Tbl P w h' a L' es' ep' t' → L'.Perm L → Q () { s with heap := h' }) : wpAny (model P w) A (setRelay a wanted) Q E s := by
  have hsl := ents_size hr
  have hfits : t.fits es.size = true := by
    unfold SetTable.fits SetTable.fill
    rw [hdm, Bool.and_eq_true, beq_iff_eq, decide_eq_true_eq]
    show t.place.size = es.size ∧ t.place.size + 0 ≤ t.mask
    omega
  obtain ⟨t', order, e, hp, T, em, el, _, ed⟩ := relaid_ok t (hs := es.map (·.1)) (wanted := wanted) hw hM (by rw [Array.size_map, hsl]; omega)
  rw [Array.size_map, hsl] at hp
  obtain ⟨L2, r1, r2, r3⟩ := ents_order L es order hr hp
  rw [← r3] at T
  have hs2 := (ents_size r1).trans (r2.length_eq.trans hsl.symm)
  rw [setRelay_eq]
  refine wpAny_bind (wpAny_setState_of ho hd hfits ?_)
  dsimp only
  refine wp_if_neg (by rw [sizeLine_eq]; omega) ?_
  try refine wpAny_bind (wpAny_pure ?_)
  rw [e]
  dsimp only
  refine wpAny_bind (wp_if_neg (by rw [hs2]; simp) ?_)
  try refine wpAny_bind (wpAny_pure ?_)
  refine wpAny_pure ?_
  dsimp only
  refine wpAny_storeSet_of ho hd ?_ (by rw [hs2, hsl, sizeLine_eq]; omega)
  have sb : Heap.SameBut a s.heap (s.heap.update a (Obj.putSet (order.filterMap (es[·]?)) t')) := Heap.SameBut.update ..
  exact q _ L2 (order.filterMap (es[·]?)) (ep + 1) t' sb ⟨⟨_, store_at ho hd, ⟨hex.1, hex.2.1, hex.2.2⟩, rfl⟩, r1, T, (r2.map (·.2)).nodup_iff.mpr once,
    fun p hpm => row_other (at_ p (r2.mem_iff.mp hpm)) ho hd sb, by rw [el]; exact ld, by rw [r2.length_eq, em]; exact hn, by rw [r2.length_eq]; exact few⟩ r2
/-- what the search of a new row finds -/
theorem srch_at (T : Tbl P w s.heap a L es ep t) {x : Addr} {k : List Key} (hx : RowAt P w s.heap k x) (hu : A.units < cLine) {Q : SetFound → Shared → Prop}
    (yes : k ∈ L.map (·.2) → Q (.there none) s)
    (no : ∀ K, k ∉ L.map (·.2) → way t.mask (hOf P w k) K ∉ t.place.toList → (∀ c, c < K → way t.mask (hOf P w k) c ∈ t.place.toList) → Q (.free (way t.mask (hOf P w k) K) false) s) :
    wpAny (model P w) A (setSearch a (.ref x) (hOf P w k) true) Q E s := by
  have hroom := T.room
  obtain ⟨K, hKf, hK, hKb⟩ := T.ok.first (by rw [List.length_map]; omega) (hOf P w k)
  have big : 10 * SetTable.turns t.mask ≤ 1420 := by
    unfold SetTable.turns
    rcases T.ok.mok with e | e | e <;> omega
  unfold setSearch
  refine srch T hx hu hKf hK hKb yes (fun hn => no K hn hK hKb) 100000 0 none rfl (Nat.zero_le _) (by omega) fun i p hp hk => ?_
  have hi : (L.map fun p => hOf P w p.2)[i]? = some (hOf P w k) := by
    rw [List.getElem?_map, hp, ← hk]
    all_goals rfl
  have hil : i < t.place.toList.length := by
    rw [Array.length_toList, tab_len T.ok]
    exact (List.getElem?_eq_some_iff.mp hp).1
  have hj := List.getElem?_eq_getElem hil
  obtain ⟨c, hc, e⟩ := T.ok.before hK hi hj
  exact ⟨c, Nat.zero_le _, hc, by rw [hj, e]⟩
theorem relay_case {M : Nat} (hM : MaskOk M) {n : Nat} (h1 : n * 5 < M * 3) (h2 : (n + 1) * 5 ≥ M * 3) (h3 : n + 1 < 64) : (M = 7 ∧ n = 4) ∨ (M = 31 ∧ n = 18) := by
  rcases hM with e | e | e <;> omega
/-- a row is put in, if it isn't there -/
theorem put_row (T : Tbl P w s.heap a L es ep t) {x : Addr} {k : List Key} (hx : RowAt P w s.heap k x) (hu : A.units < cLine) (hfew : L.length + 1 < 64) {Q : Bool → Shared → Prop}
    (q : ∀ b h' L' es' ep' t', Heap.SameBut a s.heap h' → Tbl P w h' a L' es' ep' t' → (k ∈ L.map (·.2) → L' = L) → (k ∉ L.map (·.2) → L'.Perm ((x, k) :: L)) → Q b { s with heap := h' }) :
    wpAny (model P w) A (setAddHashed a (.ref x) (hOf P w k)) Q E s := by
  obtain ⟨o, ho, hex, hd⟩ := T.obj
  have hsl := T.len
  have hroom := T.room
  unfold setAddHashed
  refine wpAny_holding ?_
  rw [show (100000 : Nat) = 99999 + 1 from rfl, setAddHashedIn_succ]
  refine wpAny_bind (wpAny_setState_of ho hd T.fits ?_)
  dsimp only
  refine wp_if_neg (by simp [byScan, Value.scannable]) ?_
  try refine wpAny_bind (wpAny_pure ?_)
  refine wpAny_bind (srch_at T hx hu (fun hm => ?_) fun K hm hK hb => ?_)
  · dsimp only
    exact wpAny_pure (q false s.heap L es ep t (Heap.SameBut.refl a s.heap) T (fun _ => rfl) fun z => absurd hm z)
  dsimp only
  refine wpAny_bind (wpAny_setState_of ho hd T.fits ?_)
  dsimp only
  obtain ⟨q1, q2, q3, q4, q5, q6, q7, q8, q9⟩ := T.ok.put hK hb
  generalize hpt : t.put (way t.mask (hOf P w k) K) = pt at q1 q3 q4 q5 q6 q7 q8 q9 ⊢
  obtain ⟨t0, p⟩ := pt
  dsimp only at q1 q3 q4 q5 q6 q7 q8 q9 ⊢
  subst q1
  have hin : (SetTable.insertAt es (SetTable.below t.place (way t.mask (hOf P w k) K)) (hOf P w k, Value.ref x)).toList = entries P w (L.take (SetTable.below t.place (way t.mask (hOf P w k) K)) ++ (x, k) :: L.drop (SetTable.below t.place (way t.mask (hOf P w k) K))) := by
    rw [SetTable.toList_insertAt, T.ents]
    simp [entries, List.map_take, List.map_drop]
  generalize hpp : SetTable.below t.place (way t.mask (hOf P w k) K) = p at q2 q3 hin ⊢
  have pm := put_perm L p (x, k)
  have hlen : (L.take p ++ (x, k) :: L.drop p).length = L.length + 1 := pm.length_eq
  have hhs : (L.take p ++ (x, k) :: L.drop p).map (fun p => hOf P w p.2) = (L.map fun p => hOf P w p.2).take p ++ hOf P w k :: (L.map fun p => hOf P w p.2).drop p := by
    rw [List.map_append, List.map_cons, List.map_take, List.map_drop]
  rw [← hhs] at q3
  have nd1 : ((L.take p ++ (x, k) :: L.drop p).map (·.2)).Nodup := (pm.map (·.2)).nodup_iff.mpr (List.nodup_cons.mpr ⟨hm, T.once⟩)
  have hes := (ents_size hin).trans hlen
  generalize SetTable.insertAt es p (hOf P w k, Value.ref x) = es1 at hin hes ⊢
  generalize L.take p ++ (x, k) :: L.drop p = L1 at pm hlen q3 nd1 hin
  -- the table with or without the mark
  have main : ∀ t1 : SetTable, t1.place = t0.place → t1.dummies = t0.dummies → t1.mask = t0.mask → t1.led = t0.led → wpAny (model P w) A (do
      storeSet a es1 t1
      if !false && t1.tooFull then setRelay a (SetTable.grown (es.size + 1))
      return true) Q E s := fun t1 e1 e2 e3 e4 => by
    have ok1 : TabOk t1 (L1.map fun p => hOf P w p.2) := ⟨by rw [e1]; exact q3.ris, by rw [e2]; exact q3.dm, by rw [e1]; exact q3.sz, by rw [e3]; exact q3.mok, by rw [e1, e3]; exact q3.bd, by rw [e1, e3]; exact q3.reach⟩
    have fill1 : t1.fill = L.length + 1 := by
      have z : t1.fill = t0.fill := by unfold SetTable.fill; rw [e1, e2]
      rw [z, q9, List.length_map]
    refine wpAny_bind (wpAny_storeSet_of ho hd ?_ (by rw [hes, sizeLine_eq]; omega))
    have sb : Heap.SameBut a s.heap (s.heap.update a (Obj.putSet es1 t1)) := Heap.SameBut.update ..
    have ho1 := store_at (es' := es1) (t' := t1) ho hd
    generalize s.heap.update a (Obj.putSet es1 t1) = h1 at sb ho1 ⊢
    have at1 : ∀ p ∈ L1, RowAt P w h1 p.2 p.1 := fun p hp => by
      rcases List.mem_cons.mp (pm.mem_iff.mp hp) with e | hp
      · rw [e]; exact row_other hx ho hd sb
      · exact row_other (T.at_ p hp) ho hd sb
    have ld1 : w.params.followText "set-order" = true ∨ t1.led = true := by rw [e4, q5]; exact T.led
    have full : t1.tooFull = true ↔ (L.length + 1) * 5 ≥ t.mask * 3 := by
      unfold SetTable.tooFull
      rw [decide_eq_true_eq, fill1, e3, q4]
    by_cases hf : t1.tooFull = true
    · have go : ∀ M, SetTable.sizeAbove (SetTable.grown (L.length + 1)) - 1 = M → MaskOk M → SetTable.sizeAbove (SetTable.grown (L.length + 1)) ≤ 128 → (L.length + 1) * 5 < M * 3 →
          wpAny (model P w) A (setRelay a (SetTable.grown (L.length + 1))) (fun _ s' => wpAny (model P w) A (pure true) Q E s') E { s with heap := h1 } := fun M g1 g2 g3 g4 =>
        relay (s := { s with heap := h1 }) ho1 ⟨hex.1, hex.2.1, hex.2.2⟩ rfl hin (by rw [tab_len ok1, hlen, hes]) ok1.dm (by rw [hes, e3, q4]; omega) nd1 at1 ld1 (by rw [hlen]; exact hfew) g1 g2 g3 (by rw [hlen]; exact g4)
          fun h2 L2 es2 ep2 t2 sb2 T2 pm2 => wpAny_pure (q true h2 L2 es2 ep2 t2 (sb.trans sb2) T2 (fun z => absurd z hm) fun _ => pm2.trans pm)
      have go2 : wpAny (model P w) A (setRelay a (SetTable.grown (es.size + 1))) (fun _ s' => wpAny (model P w) A (pure true) Q E s') E { s with heap := h1 } := by
        rw [hsl]
        rcases relay_case T.ok.mok hroom (full.mp hf) hfew with ⟨_, e2⟩ | ⟨_, e2⟩
        · exact go 31 (by rw [e2, size_20]) (.inr (.inl rfl)) (by rw [e2, size_20]; decide) (by omega)
        · exact go 127 (by rw [e2, size_76]) (.inr (.inr rfl)) (by rw [e2, size_76]; decide) (by omega)
      first
        | exact wpAny_bind (wp_if_pos (by simp [hf]) go2)
        | exact wp_if_pos (by simp [hf]) (wpAny_bind go2)
    · have nf : ¬ (L.length + 1) * 5 ≥ t.mask * 3 := fun z => hf (full.mpr z)
      have fin := q true h1 L1 es1 (ep + 1) t1 sb ⟨⟨_, ho1, ⟨hex.1, hex.2.1, hex.2.2⟩, rfl⟩, hin, ok1, nd1, at1, ld1, by rw [hlen, e3, q4]; omega, by rw [hlen]; exact hfew⟩ (fun z => absurd z hm) fun _ => pm
      first
        | exact wp_if_neg (by simp [hf]) (wpAny_pure fin)
        | exact wpAny_bind (wp_if_neg (by simp [hf]) (wpAny_pure (wpAny_pure fin)))
  have ways : ∀ c : Bool, wpAny (model P w) A (do
      let t := if c = true then t0 else { t0 with plain := false }
      storeSet a es1 t
      if !false && t.tooFull then setRelay a (SetTable.grown (es.size + 1))
      return true) Q E s := fun c => by
    cases c with
    | true => exact main t0 rfl rfl rfl rfl
    | false => exact main { t0 with plain := false } rfl rfl rfl rfl
  by_cases hpl : t0.plain = true
  · first
      | exact wpAny_bind (wp_if_pos hpl (row_byv hx ways))
      | exact wp_if_pos hpl (wpAny_bind (row_byv hx ways))
  · first
      | exact wpAny_bind (wp_if_neg hpl (wpAny_pure (ways true)))
      | exact wp_if_neg hpl (wpAny_bind (wpAny_pure (ways true)))
end
end CpS
set_option Elab.async false
set_option linter.all false
set_option maxRecDepth 100000
set_option maxHeartbeats 4000000
/-! CpA: a run that is proved for every table of sleeping generators wakes none of those that slept at its beginning, and leaves them as they were. -/
namespace CpA
open PySem

/-- a sleeping generator whose waking is refused; all that can be seen of it stays -/
def numb : GenState → GenState
  | .suspended _ l c p fs cl => .suspended (fun _ => .unsupported "put aside") l c p fs cl
  | x => x
def sleeps : GenState → Bool
  | .suspended .. => true
  | _ => false
theorem numb_seen (x : GenState) : (numb x).seen = x.seen := by cases x <;> rfl
theorem numb_bare (x : GenState) : (numb x).bare = x.bare := by cases x <;> rfl
/-- what was put aside, by place -/
abbrev Store := Nat → Option GenState
def give (o : Store) (G : Array GenState) : Array GenState := G.mapIdx fun i x => (o i).getD x
def bk (o : Store) (s : Shared) : Shared := { s with gens := give o s.gens }
theorem give_at (o : Store) (G : Array GenState) (i : Nat) : (give o G)[i]? = (G[i]?).map fun x => (o i).getD x := by
  unfold give
  rw [Array.getElem?_mapIdx]
theorem give_size (o : Store) (G : Array GenState) : (give o G).size = G.size := by
  unfold give
  rw [Array.size_mapIdx]
theorem give_set {o : Store} {G : Array GenState} {g : Nat} {x : GenState} (h : o g = none) : give o (G.setIfInBounds g x) = (give o G).setIfInBounds g x := by
  apply Array.ext_getElem?
  intro i
  rw [give_at, Array.getElem?_setIfInBounds, Array.getElem?_setIfInBounds, give_at, give_size]
  by_cases e : g = i
  · subst e
    by_cases hl : g < G.size
    · simp [hl, h]
    · simp [hl]
  · simp [e]
theorem give_push {o : Store} {G : Array GenState} {x : GenState} (h : o G.size = none) : give o (G.push x) = (give o G).push x := by
  apply Array.ext_getElem?
  intro i
  rw [give_at, Array.getElem?_push, Array.getElem?_push, give_at, give_size]
  by_cases e : i = G.size
  · subst e
    simp [h]
  · simp [e]
theorem bk_set {o : Store} {s : Shared} {g : Nat} {x : GenState} (h : o g = none) : bk o (s.setGen g x) = (bk o s).setGen g x := by
  unfold bk Shared.setGen
  simp only [give_set h]
theorem bk_new {o : Store} {s : Shared} {c : Code} (h : o s.gens.size = none) : bk o { s with gens := s.gens.push (.fresh c) } = { bk o s with gens := (bk o s).gens.push (.fresh c) } := by
  unfold bk
  simp only [give_push h]
structure Laid (o : Store) (s : Shared) : Prop where
  at_ : ∀ i x, o i = some x → sleeps x = true ∧ s.gens[i]? = some (numb x)
  fr : ∀ i k l c p fs cl, o i = none → s.gens[i]? = some (.suspended k l c p fs cl) → splitAtGen fs = none
theorem Laid.heap {o : Store} {s s' : Shared} (h : Laid o s) (e : s'.gens = s.gens) : Laid o s' :=
  ⟨fun i x q => by rw [e]; exact h.at_ i x q, fun i k l c p fs cl q z => h.fr i k l c p fs cl q (by rw [← e]; exact z)⟩
theorem Laid.lt {o : Store} {s : Shared} (h : Laid o s) : o s.gens.size = none := by
  cases e : o s.gens.size with
  | none => rfl
  | some x =>
    have z := (h.at_ _ x e).2
    simp at z
theorem Laid.push {o : Store} {s : Shared} (h : Laid o s) {c : Code} : Laid o { s with gens := s.gens.push (.fresh c) } := by
  refine ⟨fun i x q => ⟨(h.at_ i x q).1, ?_⟩, fun i k l c' p fs cl q z => ?_⟩
  · show (s.gens.push (.fresh c))[i]? = some (numb x)
    have ne : i ≠ s.gens.size := fun e => by rw [e, h.lt] at q; cases q
    rw [Array.getElem?_push, if_neg ne]
    exact (h.at_ i x q).2
  · have z' : (s.gens.push (.fresh c))[i]? = some (.suspended k l c' p fs cl) := z
    rw [Array.getElem?_push] at z'
    by_cases e : i = s.gens.size
    · rw [if_pos e] at z'
      cases z'
    · rw [if_neg e] at z'
      exact h.fr i k l c' p fs cl q z'
theorem Laid.set {o : Store} {s : Shared} (h : Laid o s) {g : Nat} {x : GenState} (hg : o g = none) (hx : ∀ k l c p fs cl, x = .suspended k l c p fs cl → splitAtGen fs = none) : Laid o (s.setGen g x) := by
  refine ⟨fun i y q => ⟨(h.at_ i y q).1, ?_⟩, fun i k l c p fs cl q z => ?_⟩
  · have ne : g ≠ i := fun e => by rw [e, q] at hg; cases hg
    show (s.gens.setIfInBounds g x)[i]? = some (numb y)
    rw [Array.getElem?_setIfInBounds, if_neg ne]
    exact (h.at_ i y q).2
  · have z' : (s.gens.setIfInBounds g x)[i]? = some (.suspended k l c p fs cl) := z
    rw [Array.getElem?_setIfInBounds] at z'
    by_cases e : g = i
    · rw [if_pos e] at z'
      by_cases hl : g < s.gens.size
      · rw [if_pos hl] at z'
        exact hx k l c p fs cl (Option.some.inj z')
      · rw [if_neg hl] at z'
        cases z'
    · rw [if_neg e] at z'
      exact h.fr i k l c p fs cl q z'
/-- an entry that is not asleep, or sleeps with a waking of its own: not one of those put aside -/
theorem Laid.not_of {o : Store} {s : Shared} (h : Laid o s) {g : Nat} {x : GenState} (e : s.gens[g]? = some x) (hx : sleeps x = false) : o g = none := by
  cases q : o g with
  | none => rfl
  | some y =>
    obtain ⟨h1, h2⟩ := h.at_ g y q
    rw [e] at h2
    cases y <;> simp [numb, sleeps] at h1 h2
    subst h2
    simp [sleeps] at hx
theorem bk_at {o : Store} {s : Shared} {g : Nat} {x : GenState} (e : s.gens[g]? = some x) (h : o g = none) : (bk o s).gens[g]? = some x := by
  show (give o s.gens)[g]? = some x
  rw [give_at, e, h]
  rfl
theorem bk_seen {o : Store} {s : Shared} {g : Nat} {st : GenState} (L : Laid o s) (hg : s.gens[g]? = some st) : ∃ st', (bk o s).gens[g]? = some st' ∧ st'.seen = st.seen := by
  cases q : o g with
  | none => exact ⟨st, bk_at hg q, rfl⟩
  | some x =>
    obtain ⟨_, h2⟩ := L.at_ g x q
    rw [hg] at h2
    have e1 : st = numb x := Option.some.inj h2
    refine ⟨x, ?_, by rw [e1, numb_seen]⟩
    show (give o s.gens)[g]? = some x
    rw [give_at, hg, q]
    rfl
def Sus (e : End) : Prop := ∀ v g l k c p fs, e = .susp v g l k c p fs → splitAtGen fs = none
theorem sus_ret (r : Result) : Sus (.ret r) := fun _ _ _ _ _ _ _ e => nomatch e
theorem Sus.state {e : End} (h : Sus e) : ∀ k l c p fs cl, e.genState = .suspended k l c p fs cl → splitAtGen fs = none := by
  intro k l c p fs cl q
  cases e with
  | ret r => cases q
  | susp v g l' k' c' p' fs' =>
    have z := h v g l' k' c' p' fs' rfl
    have q' : GenState.suspended k' l' c' p' fs' (g || fs'.any Frame.guarded) = .suspended k l c p fs cl := q
    injection q' with _ _ _ _ q5 _
    rw [← q5]
    exact z
theorem no_unsupported {M : Model} {Γ : Ctx} {p : Pos} {t : Sem PySem.Fin} {fs : List Frame} {s s' : Shared} {e : End} (h : Runs M Γ p t fs s e s') : ∀ w, t ≠ .unsupported w := by
  induction h <;> intro w q <;> first | (cases q; done) | (rename_i ih _; exact ih w q) | (rename_i ih; exact ih w q) | (rename_i ih _ _; exact ih w q)

theorem runs_bk {M : Model} {o : Store} {Γ : Ctx} {p : Pos} {t : Sem PySem.Fin} {fs : List Frame} {s s' : Shared} {e : End} (h : Runs M Γ p t fs s e s') : splitAtGen fs = none → Laid o s → Runs M Γ p t fs (bk o s) e (bk o s') ∧ Laid o s' ∧ Sus e := by
  induction h with
  | done => exact fun _ L => ⟨.done, L, sus_ret _⟩
  | raise => exact fun _ L => ⟨.raise, L, sus_ret _⟩
  | again hq _ ih => exact fun h L => let ⟨r, L', u⟩ := ih h L; ⟨.again hq r, L', u⟩
  | rule _ ih => exact fun h L => let ⟨r, L', u⟩ := ih h L; ⟨.rule r, L', u⟩
  | «at» _ ih => exact fun h L => let ⟨r, L', u⟩ := ih h L; ⟨.at r, L', u⟩
  | load ho _ ih => exact fun h L => let ⟨r, L', u⟩ := ih h L; ⟨.load ho r, L', u⟩
  | update ho _ ih => exact fun h L => let ⟨r, L', u⟩ := ih h (L.heap rfl); ⟨.update ho r, L', u⟩
  | loadIfAlive _ ih => exact fun h L => let ⟨r, L', u⟩ := ih h L; ⟨.loadIfAlive r, L', u⟩
  | point _ ih => exact fun h L => let ⟨r, L', u⟩ := ih h L; ⟨.point r, L', u⟩
  | alloc _ ih => exact fun h L => let ⟨r, L', u⟩ := ih h (L.heap rfl); ⟨.alloc r, L', u⟩
  | fresh _ ih => exact fun h L => let ⟨r, L', u⟩ := ih h (L.heap rfl); ⟨.fresh r, L', u⟩
  | ask _ ih => exact fun h L => let ⟨r, L', u⟩ := ih h L; ⟨.ask r, L', u⟩
  | choose hn _ ih => exact fun h L => let ⟨r, L', u⟩ := ih h (L.heap rfl); ⟨.choose hn r, L', u⟩
  | os _ ih => exact fun h L => let ⟨r, L', u⟩ := ih h (L.heap rfl); ⟨.os r, L', u⟩
  | handled _ ih => exact fun h L => let ⟨r, L', u⟩ := ih h L; ⟨.handled r, L', u⟩
  | genState hg _ ih =>
    intro h L
    obtain ⟨r, L', u⟩ := ih h L
    obtain ⟨st', e1, e2⟩ := bk_seen L hg
    rw [← e2] at r
    exact ⟨.genState e1 r, L', u⟩
  | stack _ ih => exact fun h L => let ⟨r, L', u⟩ := ih h L; ⟨.stack r, L', u⟩
  | thread _ ih => exact fun h L => let ⟨r, L', u⟩ := ih h L; ⟨.thread r, L', u⟩
  | newGen _ ih =>
    intro h L
    obtain ⟨r, L', u⟩ := ih h L.push
    refine ⟨.newGen ?_, L', u⟩
    rw [bk_new L.lt] at r
    rw [show (bk o _).gens.size = _ from give_size _ _]
    exact r
  | call _ _ ih1 ih2 =>
    intro h L
    obtain ⟨r1, L1, _⟩ := ih1 rfl L
    obtain ⟨r2, L2, u⟩ := ih2 rfl L1
    exact ⟨.call r1 r2, L2, u⟩
  | callSusp _ ih =>
    intro h L
    obtain ⟨r, L', u⟩ := ih rfl L
    refine ⟨.callSusp r, L', fun v g l k c p fs e => ?_⟩
    injection e with _ _ _ _ _ _ e7
    rw [← e7, splitAtGen_append_none _ (u _ _ _ _ _ _ _ rfl)]
    rfl
  | yield => exact fun _ L => ⟨.yield, L, fun v g l k c p fs e => by injection e with _ _ _ _ _ _ e7; rw [← e7]; rfl⟩
  | resumeFresh hg _ hq _ ih1 ih2 =>
    intro h L
    have q := L.not_of hg rfl
    obtain ⟨r1, L1, u1⟩ := ih1 rfl (L.set q (fun _ _ _ _ _ _ e => nomatch e))
    obtain ⟨r2, L2, u⟩ := ih2 rfl (L1.set q u1.state)
    rw [bk_set q] at r1 r2
    exact ⟨.resumeFresh (bk_at hg q) r1 hq r2, L2, u⟩
  | @resumeSuspended Γ p g r l k s k₀ l₀ c₀ p₀ fs cl e₁ s₁ e s' hg hr hq _ ih1 ih2 =>
    intro h L
    have q : o g = none := by
      cases q : o g with
      | none => rfl
      | some x =>
        obtain ⟨h1, h2⟩ := L.at_ g x q
        rw [hg] at h2
        cases x <;> simp [numb, sleeps] at h1 h2
        obtain ⟨e1, _⟩ := h2
        rw [e1] at hr
        exact absurd rfl (no_unsupported hr "put aside")
    obtain ⟨r1, L1, u1⟩ := ih1 (L.fr g _ _ _ _ _ _ q hg) (L.set q (fun _ _ _ _ _ _ e => nomatch e))
    obtain ⟨r2, L2, u⟩ := ih2 rfl (L1.set q u1.state)
    rw [bk_set q] at r1 r2
    exact ⟨.resumeSuspended (bk_at hg q) r1 hq r2, L2, u⟩
  | resumeJustStarted hg hv _ ih =>
    intro h L
    obtain ⟨r, L', u⟩ := ih h L
    exact ⟨.resumeJustStarted (bk_at hg (L.not_of hg rfl)) hv r, L', u⟩
  | resumeThrowFresh hg _ ih =>
    intro h L
    have q := L.not_of hg rfl
    obtain ⟨r, L', u⟩ := ih h (L.set q (fun _ _ _ _ _ _ e => nomatch e))
    rw [bk_set q] at r
    exact ⟨.resumeThrowFresh (bk_at hg q) r, L', u⟩
  | resumeRunning hg _ ih =>
    intro h L
    obtain ⟨r, L', u⟩ := ih h L
    exact ⟨.resumeRunning (bk_at hg (L.not_of hg rfl)) r, L', u⟩
  | resumeFinished hg _ ih =>
    intro h L
    obtain ⟨r, L', u⟩ := ih h L
    exact ⟨.resumeFinished (bk_at hg (L.not_of hg rfl)) r, L', u⟩
  | segRet _ _ ih1 ih2 =>
    intro h L
    obtain ⟨r1, L1, _⟩ := ih1 rfl L
    obtain ⟨r2, L2, u⟩ := ih2 (by rw [splitAtGen_ret] at h; exact Option.map_eq_none_iff.mp h) L1
    exact ⟨.segRet r1 r2, L2, u⟩
  | segGen _ _ _ _ => exact fun h _ => nomatch (show some _ = none from h)
  | segSuspOut hs _ ih =>
    intro h L
    obtain ⟨r, L', u⟩ := ih rfl L
    refine ⟨.segSuspOut hs r, L', fun v g l k c p fs e => ?_⟩
    injection e with _ _ _ _ _ _ e7
    rw [← e7, splitAtGen_append_none _ (u _ _ _ _ _ _ _ rfl), hs]
    rfl
  | segSuspGen hs _ _ _ _ _ =>
    intro h _
    rw [h] at hs
    cases hs

theorem wakes_bk {M : Model} {o : Store} {Γ : Ctx} {p : Pos} {g : Nat} {r : Resume} {s s' : Shared} {res : GenResult} (L : Laid o s) (h : Wakes M Γ p g r s res s') : Wakes M Γ p g r (bk o s) res (bk o s') ∧ Laid o s' := by
  unfold Wakes at h ⊢
  cases e : s.gens[g]? with
  | none =>
    rw [e] at h
    exact h.elim
  | some x =>
    rw [e] at h
    cases x with
    | fresh c =>
      have q := L.not_of e rfl
      rw [bk_at e q]
      cases r with
      | send v =>
        cases v with
        | none =>
          obtain ⟨e₁, s₁, hr, hq, rfl, rfl⟩ := h
          obtain ⟨r1, L1, u1⟩ := runs_bk hr rfl (L.set q (fun _ _ _ _ _ _ e => nomatch e))
          rw [bk_set q] at r1
          exact ⟨⟨e₁, _, r1, hq, rfl, bk_set q⟩, L1.set q u1.state⟩
        | _ => exact ⟨⟨h.1, by rw [h.2]⟩, by rw [h.2]; exact L⟩
      | throw y =>
        obtain ⟨rfl, rfl⟩ := h
        exact ⟨⟨rfl, bk_set q⟩, L.set q (fun _ _ _ _ _ _ e => nomatch e)⟩
    | suspended k₀ l₀ c₀ p₀ fs cl =>
      obtain ⟨e₁, s₁, hr, hq, rfl, rfl⟩ := h
      have q : o g = none := by
        cases q : o g with
        | none => rfl
        | some x =>
          obtain ⟨h1, h2⟩ := L.at_ g x q
          rw [e] at h2
          cases x <;> simp [numb, sleeps] at h1 h2
          obtain ⟨e1, _⟩ := h2
          rw [e1] at hr
          exact absurd rfl (no_unsupported hr "put aside")
      rw [bk_at e q]
      obtain ⟨r1, L1, u1⟩ := runs_bk hr (L.fr g _ _ _ _ _ _ q e) (L.set q (fun _ _ _ _ _ _ e => nomatch e))
      rw [bk_set q] at r1
      exact ⟨⟨e₁, _, r1, hq, rfl, bk_set q⟩, L1.set q u1.state⟩
    | running =>
      rw [bk_at e (L.not_of e rfl)]
      exact ⟨⟨h.1, by rw [h.2]⟩, by rw [h.2]; exact L⟩
    | finished =>
      rw [bk_at e (L.not_of e rfl)]
      exact ⟨⟨h.1, by rw [h.2]⟩, by rw [h.2]; exact L⟩
open Sem (wp) in
theorem wp_bk {α : Type} {M : Model} {o : Store} {Γ : Ctx} (t : Sem α) : ∀ (Q : α → Pos → Shared → Prop) (E : Value → Pos → Shared → Prop) (p : Pos) (s : Shared), Laid o s → wp M Γ t Q E p s →
    wp M Γ t (fun a p' s' => ∃ z, s' = bk o z ∧ Laid o z ∧ Q a p' z) (fun e p' s' => ∃ z, s' = bk o z ∧ Laid o z ∧ E e p' z) p (bk o s) := by
  induction t with
  | pure a => intro Q E p s L h; exact ⟨s, rfl, L, h⟩
  | raise e => intro Q E p s L h; exact ⟨s, rfl, L, h⟩
  | unsupported _ => intro Q E p s _ h; exact h.elim
  | finish _ => intro Q E p s _ h; exact h.elim
  | rule _ k ih => intro Q E p s L h; exact ih () Q E p s L h
  | «at» p' k ih => intro Q E p s L h; exact ih () Q E p' s L h
  | load a _ k ih => intro Q E p s L h; obtain ⟨ob, ho, h⟩ := h; exact ⟨ob, ho, ih ob Q E p s L h⟩
  | update a _ f k ih => intro Q E p s L h; exact ⟨h.1, ih () Q E p { s with heap := s.heap.update a f } (L.heap rfl) h.2⟩
  | loadIfAlive a k ih => intro Q E p s L h; exact ih _ Q E p s L h
  | point _ k ih => intro Q E p s L h; exact ih () Q E p s L h
  | register _ _ => intro Q E p s _ h; exact h.elim
  | alloc ob k ih => intro Q E p s L h; exact ih s.heap.objs.size Q E p { s with heap := s.heap.push ob } (L.heap rfl) h
  | fresh k ih => intro Q E p s L h; exact ih s.toks Q E p { s with toks := s.toks + 1 } (L.heap rfl) h
  | ask k ih => intro Q E p s L h; exact ih _ Q E p s L h
  | choose src m k ih => intro Q E p s L h; exact ⟨h.1, ih _ Q E p { s with drawn := s.drawn.bump src } (L.heap rfl) h.2⟩
  | os q _ k ih => intro Q E p s L h; exact ih _ Q E p { s with os := (Os.step s.os q).1 } (L.heap rfl) h
  | call c hd _ _ k ih =>
    intro Q E p s L h
    obtain ⟨r, s', hr, h⟩ := h
    obtain ⟨r1, L1, _⟩ := runs_bk (show Runs M (Γ.enter c hd p) p (M.den (Γ.enter c hd p).code) [] s (.ret r) s' from hr) rfl L
    exact ⟨r, bk o s', r1, ih r Q E p s' L1 h⟩
  | handled own k ih => intro Q E p s L h; exact ih _ Q E p s L h
  | genState g k ih =>
    intro Q E p s L h
    obtain ⟨st, hs, h⟩ := h
    obtain ⟨st', e1, e2⟩ := bk_seen L hs
    rw [← e2] at h
    exact ⟨st', e1, ih _ Q E p s L h⟩
  | newGen c k ih =>
    intro Q E p s L h
    have z := ih _ Q E p _ L.push h
    rw [bk_new L.lt] at z
    show wp M Γ (k (bk o s).gens.size) _ _ p _
    rw [show (bk o s).gens.size = s.gens.size from give_size _ _]
    exact z
  | resume g r _ k ih =>
    intro Q E p s L h
    obtain ⟨res, s', hw, h⟩ := h
    obtain ⟨w1, L1⟩ := wakes_bk L hw
    exact ⟨res, bk o s', w1, ih res Q E p s' L1 h⟩
  | yield _ _ _ _ => intro Q E p s _ h; exact h.elim
  | stack k ih => intro Q E p s L h; exact ih _ Q E p s L h
  | fork _ _ => intro Q E p s _ h; exact h.elim
  | thread k ih => intro Q E p s L h; exact ih _ Q E p s L h
  | await _ _ _ _ _ => intro Q E p s _ h; exact h.elim

/-- what slept stays as it was -/
def Kept (G G' : Array GenState) : Prop := ∀ (i : Nat) (x : GenState), G[i]? = some x → sleeps x = true → G'[i]? = some x
def storeOf (G : Array GenState) : Store := fun i => (G[i]?).bind fun x => if sleeps x then some x else none
theorem storeOf_some {G : Array GenState} {i : Nat} {x : GenState} (h : storeOf G i = some x) : G[i]? = some x ∧ sleeps x = true := by
  unfold storeOf at h
  obtain ⟨y, e, q⟩ := Option.bind_eq_some_iff.mp h
  by_cases c : sleeps y = true
  · rw [if_pos c] at q
    cases q
    exact ⟨e, c⟩
  · rw [if_neg c] at q
    cases q
theorem give_numb (G : Array GenState) : give (storeOf G) (G.map numb) = G := by
  apply Array.ext_getElem?
  intro i
  rw [give_at, Array.getElem?_map]
  cases e : G[i]? with
  | none => rfl
  | some x =>
    show some ((storeOf G i).getD (numb x)) = some x
    unfold storeOf
    rw [e]
    cases x <;> rfl
theorem laid_numb {s : Shared} : Laid (storeOf s.gens) { s with gens := s.gens.map numb } := by
  refine ⟨fun i x h => ?_, fun i k l c p fs cl h q => ?_⟩
  · obtain ⟨e, c⟩ := storeOf_some h
    refine ⟨c, ?_⟩
    show (s.gens.map numb)[i]? = some (numb x)
    rw [Array.getElem?_map, e]
    rfl
  · have q' : (s.gens.map numb)[i]? = some (.suspended k l c p fs cl) := q
    rw [Array.getElem?_map] at q'
    cases e : s.gens[i]? with
    | none => rw [e] at q'; cases q'
    | some x =>
      rw [e] at q'
      have q2 : numb x = .suspended k l c p fs cl := Option.some.inj q'
      have z : storeOf s.gens i = none := h
      unfold storeOf at z
      rw [e] at z
      cases x <;> simp [numb, sleeps] at q2 z
open PyProof.Rows in
theorem bare_give {o : Store} {G : Array GenState} (hG : AllBare G) (ho : ∀ i x, o i = some x → x.bare = true) : AllBare (give o G) := by
  intro y hy
  obtain ⟨i, hi⟩ := Array.getElem?_of_mem hy
  rw [give_at] at hi
  cases e : G[i]? with
  | none => rw [e] at hi; cases hi
  | some x =>
    rw [e] at hi
    have h2 : (o i).getD x = y := Option.some.inj hi
    cases q : o i with
    | none => rw [q] at h2; rw [← show x = y from h2]; exact hG x (Array.mem_of_getElem? e)
    | some z => rw [q] at h2; rw [← show z = y from h2]; exact ho i z q
open PyProof.Rows in
theorem bare_numb {G : Array GenState} (hG : AllBare G) : AllBare (G.map numb) := by
  intro y hy
  obtain ⟨x, hx, rfl⟩ := Array.mem_map.mp hy
  rw [numb_bare]
  exact hG x hx
open PyProof.Rows in
/-- what holds from every table of bare generators leaves those asleep as they were -/
theorem wpAny_kept {α : Type} {M : Model} {A : Around} {t : Sem α} {Q : α → Shared → Prop} {E : Value → Shared → Prop} {s : Shared} (hb : AllBare s.gens) (hs : ∀ a z, Q a z → AllBare z.gens) (hE : ∀ e z, E e z → AllBare z.gens)
    (h : ∀ G, AllBare G → wpAny M A t Q E { s with gens := G }) :
    wpAny M A t (fun a s' => AllBare s'.gens ∧ Kept s.gens s'.gens ∧ ∃ G, Q a { s' with gens := G }) (fun e s' => AllBare s'.gens ∧ Kept s.gens s'.gens ∧ ∃ G, E e { s' with gens := G }) s := by
  intro Γ p hΓ
  have z := wp_bk (o := storeOf s.gens) t _ _ p _ laid_numb (h (s.gens.map numb) (bare_numb hb) Γ p hΓ)
  have e : bk (storeOf s.gens) { s with gens := s.gens.map numb } = s := by
    unfold bk
    simp only [give_numb]
  rw [e] at z
  have ob : ∀ i x, storeOf s.gens i = some x → x.bare = true := fun i x q => hb x (Array.mem_of_getElem? (storeOf_some q).1)
  have fin : ∀ (y : Shared), Laid (storeOf s.gens) y → AllBare y.gens → AllBare (bk (storeOf s.gens) y).gens ∧ Kept s.gens (bk (storeOf s.gens) y).gens := fun y L b => by
    refine ⟨bare_give b ob, fun i x q c => ?_⟩
    · have so : storeOf s.gens i = some x := by
        unfold storeOf
        rw [q]
        show (if sleeps x = true then some x else none) = some x
        rw [if_pos c]
      show (give (storeOf s.gens) y.gens)[i]? = some x
      rw [give_at, (L.at_ i x so).2, so]
      rfl
  refine Sem.wp_mono M Γ t (fun a p' s' hq => ?_) (fun a p' s' hq => ?_) p s z
  · obtain ⟨y, rfl, L, q⟩ := hq
    obtain ⟨b1, b2⟩ := fin y L (hs a y q)
    exact ⟨b1, b2, y.gens, q⟩
  · obtain ⟨y, rfl, L, q⟩ := hq
    obtain ⟨b1, b2⟩ := fin y L (hE a y q)
    exact ⟨b1, b2, y.gens, q⟩
end CpA
set_option Elab.async false
set_option linter.all false
set_option maxRecDepth 100000
set_option maxHeartbeats 4000000
/-! CpB: a for and a list comprehension over an iterator whose state lies in the table of generators too. -/
namespace CpB
open PySem PySem.Spec PyProof.Rows L2 CpA

/-- Inv asks of the generators that they are bare, no more -/
theorem regens {X : Cx} {pins : List (Addr × Obj)} {σ : L2.St} {H : Hp} {s : Shared} {G : Array GenState} (I : Inv X pins σ H { s with gens := G }) (hb : AllBare s.gens) : Inv X pins σ H s :=
  ⟨I.ok, I.os, hb, I.base, I.loc, I.cell, I.free, I.freeC, I.pin, I.hok, I.len⟩
theorem ungens {X : Cx} {pins : List (Addr × Obj)} {σ : L2.St} {H : Hp} {s : Shared} {G : Array GenState} (I : Inv X pins σ H s) (hb : AllBare G) : Inv X pins σ H { s with gens := G } :=
  ⟨I.ok, I.os, hb, I.base, I.loc, I.cell, I.free, I.freeC, I.pin, I.hok, I.len⟩
/-- a step of the layer's, that raises nothing, keeps what sleeps -/
theorem keptN {X : Cx} {pins : List (Addr × Obj)} {σ : L2.St} {H : Hp} {s : Shared} {α : Type} {t : Sem α} {Q : α → Shared → Prop} (I : Inv X pins σ H s) (hQ : ∀ a z, Q a z → AllBare z.gens) (hG : ∀ a z G, Q a { z with gens := G } → AllBare z.gens → Q a z)
    (h : ∀ G, AllBare G → Inv X pins σ H { s with gens := G } → wpAny (model X.prog X.w) X.A t Q (fun _ _ => False) { s with gens := G }) {E : Value → Shared → Prop} :
    wpAny (model X.prog X.w) X.A t (fun a s' => Kept s.gens s'.gens ∧ Q a s') E s :=
  wpAny_mono (wpAny_kept I.bare hQ (fun _ _ z => z.elim) fun G hb => h G hb (ungens I hb)) (fun a s' ⟨b, k, G, q⟩ => ⟨k, hG a s' G q b⟩) fun _ _ ⟨_, _, _, z⟩ => z.elim

/-- as L2.Turn; the state of the iterator is read off the whole state, its objects (fp) may become more -/
structure TurnG (P : Program) (w : World) (K : PySem.W.Frag) (mg : Str → Option Value) (base : Heap) (tg : Expr) (J : It) (it : Addr) (tn : Nat → List Addr → Shared → Prop) : Prop where
  obj : ∀ i fp s, tn i fp s → ∀ b ∈ fp, ∃ o, s.heap.get? b = some o ∧ ∀ v, o.data ≠ .cell v
  keep : ∀ i fp s s', tn i fp s → (∀ b ∈ fp, ∀ o, s.heap.get? b = some o → s'.heap.get? b = some o) → (s'.gens = s.gens ∨ (0 < i ∧ Kept s.gens s'.gens)) → tn i fp s'
  item : ∀ (X : Cx), X.prog = P → X.w = w → X.K = K → X.mg = mg → X.base = base → X.calm = true → ∀ (i : Nat) (fp : List Addr) (pins : List (Addr × Obj)) (s : Shared) (σ : L2.St) (H : Hp) (E : Value → Shared → Prop), Room 2 X.A → Inv X pins σ H s → (∀ b ∈ fp, FpOk X pins H b) → tn i fp s → J.go i H →
    wpAny (model P w) X.A (pyNext (.ref it)) (fun r s1 => ∃ u, r = some u ∧
      wpAny (model P w) X.A (letOwnedTupleGo tg (.ref it) u) (fun _ s2 => ∃ x H' fp', Inv X pins σ H' s2 ∧ RelV x u ∧ J.yld i H x H' ∧ tn (i + 1) fp' s2 ∧ ∀ b ∈ fp', FpOk X pins H' b) E s1) E s
  done : ∀ (X : Cx), X.prog = P → X.w = w → X.K = K → X.mg = mg → X.base = base → X.calm = true → ∀ (i : Nat) (fp : List Addr) (pins : List (Addr × Obj)) (s : Shared) (σ : L2.St) (H : Hp) (E : Value → Shared → Prop), Room 2 X.A → Inv X pins σ H s → (∀ b ∈ fp, FpOk X pins H b) → tn i fp s → J.stop i H →
    wpAny (model P w) X.A (pyNext (.ref it)) (fun r s1 => r = none ∧ Inv X pins σ H s1) E s
  self : ∀ (A : Around) (i : Nat) (fp : List Addr) (s : Shared) (Q : Value → Shared → Prop) (E : Value → Shared → Prop), tn i fp s → Q (.ref it) s → wpAny (model P w) A (pyIter (.ref it)) Q E s
/-- such an iterator has come -/
def PIEG (X : Cx) (pins : List (Addr × Obj)) (σ : L2.St) (tg : Expr) (R : It → Hp → Prop) (itv : Value) (s2 : Shared) : Prop :=
  ∃ (it : Addr) (fp : List Addr) (tn : Nat → List Addr → Shared → Prop) (J : It) (H' : Hp), itv = .ref it ∧ Inv X pins σ H' s2 ∧ TurnG X.prog X.w X.K X.mg X.base tg J it tn ∧ tn 0 fp s2 ∧ (∀ b ∈ fp, FpOk X pins H' b) ∧ R J H'
structure PIG (X : Cx) (tg iter : Expr) (wi : TI) : Prop where
  run : ∀ (pins : List (Addr × Obj)) (s : Shared) (σ : L2.St) (H : Hp) (R : It → Hp → Prop), Inv X pins σ H s → wi σ H R →
    wpAny (model X.prog X.w) X.A (eval iter X.env) (fun v s1 => wpAny (model X.prog X.w) X.A (pyIter v) (PIEG X pins σ tg R) X.xe s1) X.xe s
theorem sp_bare {X : Cx} {pins : List (Addr × Obj)} {D : Ends} {f : Flow} {z : Shared} (h : SP X pins D f z) : AllBare z.gens := by
  cases f with
  | next => obtain ⟨_, _, I, _⟩ := h; exact I.bare
  | brk => obtain ⟨_, _, I, _⟩ := h; exact I.bare
  | cont => obtain ⟨_, _, I, _⟩ := h; exact I.bare
  | ret u => obtain ⟨_, _, _, I, _⟩ := h; exact I.bare
theorem sp_regens {X : Cx} {pins : List (Addr × Obj)} {D : Ends} {f : Flow} {z : Shared} {G : Array GenState} (h : SP X pins D f { z with gens := G }) (b : AllBare z.gens) : SP X pins D f z := by
  cases f with
  | next => obtain ⟨σ, H, I, q⟩ := h; exact ⟨σ, H, regens I b, q⟩
  | brk => obtain ⟨σ, H, I, q⟩ := h; exact ⟨σ, H, regens I b, q⟩
  | cont => obtain ⟨σ, H, I, q⟩ := h; exact ⟨σ, H, regens I b, q⟩
  | ret u => obtain ⟨v, σ, H, I, r, q⟩ := h; exact ⟨v, σ, H, regens I b, r, q⟩
section
variable {X : Cx} {pos : Pos}
theorem ps_forG {tg iter : Expr} {body : List Stmt} {wi : TI} {g : TG} {tb : TS} (hp : PassesOwn (model X.prog X.w) X.A X.env X.xe) (hc : X.calm = true) (hr : Room 2 X.A) (hi : PIG X tg iter wi) (hg : PG X.nox tg g) (hb : PSs X.nox body tb)
    (hs : ∀ x, foldedSetIterable iter X.env x = pure x := by intro _; rfl) : PS X (.For tg iter body [] pos) (tFor wi g tb) := by
  refine ⟨fun pins s σ H D I h => wpAny_For (thn (hi.run pins s σ H _ I h) fun v s1 h1 => thn h1 fun itv s2 h2 => ?_) hs⟩
  obtain ⟨it, fp0, tn, J, H2, e, I2, T, st2, f2, W, ⟨m0, w0⟩, turn⟩ := h2
  subst e
  refine codeAny_forLoop_any (fun n z => ∃ i fp σz Hz, Inv X pins σz Hz z ∧ tn i fp z ∧ (∀ b ∈ fp, FpOk X pins Hz b) ∧ W i n σz Hz) ?_ m0 ⟨0, fp0, σ, H2, I2, st2, f2, w0⟩
  rintro n s3 ⟨i, fp3, σ3, H3, I3, st3, fr3, w3⟩
  rcases turn i n σ3 H3 w3 with ⟨stop, qn⟩ | ⟨go, N, hN, step⟩
  · refine wpAny_passesOwn hp (thn (T.done X rfl rfl rfl rfl rfl hc i fp3 pins s3 σ3 H3 X.xe hr I3 fr3 st3 stop) fun r s4 ⟨er, I4⟩ => ?_)
    subst er
    exact wpAny_execs_nil ⟨σ3, H3, I4, qn⟩
  · refine wpAny_passesOwn hp (thn (T.item X rfl rfl rfl rfl rfl hc i fp3 pins s3 σ3 H3 X.xe hr I3 fr3 st3 go) fun r s4 ⟨u, er, h4⟩ => ?_)
    subst er
    refine wpAny_passesOwn hp (thn h4 fun _ s5 ⟨x, H5, fp, I5, r5, y5, st5, fr5⟩ => ?_)
    have J5 := I5.pinned fr5 (T.obj _ _ _ st5)
    refine wpAny_passesOwn hp (thn (keptN (Q := fun _ s' => ∃ σ' H', Inv X (pins ++ pinsAt fp s5.heap) σ' H' s' ∧ tb { D with nx := N, ct := N, bk := D.nx } σ' H') J5 ?_ ?_ ?_) fun _ s6 ⟨k6, σ6, H6, I6, q6⟩ => ?_)
    · exact fun _ z ⟨_, _, I', _⟩ => I'.bare
    · exact fun _ z G ⟨σ', H', I', q⟩ b => ⟨σ', H', regens I' b, q⟩
    · exact fun G hG I' => thn (hg.run _ _ σ3 H5 x u _ (I'.wish _) r5 (step x H5 y5)) fun _ z ⟨σ', H', I'', q⟩ => ⟨σ', H', I''.unwish, q⟩
    refine wpAny_passesOwn hp (thn (keptN (Q := fun f s' => SP X (pins ++ pinsAt fp s5.heap) { D with nx := N, ct := N, bk := D.nx } f s') I6 (fun _ _ z => sp_bare z) (fun _ _ _ z b => sp_regens z b) fun G hG I' => thn (hb.run _ _ σ6 H6 _ (I'.wish _) q6) fun f z q => q.unwish) fun f s7 ⟨k7, q7⟩ => ?_)
    have again : ∀ {σ7 : L2.St} {H7 : Hp}, Inv X (pins ++ pinsAt fp s5.heap) σ7 H7 s7 → N σ7 H7 → ∃ m, m < n ∧ ∃ j fp σ' H', Inv X pins σ' H' s7 ∧ tn j fp s7 ∧ (∀ b ∈ fp, FpOk X pins H' b) ∧ W j m σ' H' := fun {σ7 H7} I7 n7 => by
      obtain ⟨m', hm, w7⟩ := hN σ7 H7 n7
      have pin7 : ∀ b ∈ fp, ∀ o, s5.heap.get? b = some o → s7.heap.get? b = some o ∧ H7 b = none := fun b hb o e =>
        ⟨(I7.pin (b, o) (List.mem_append_right _ (List.mem_append_right _ (mem_pinsAt hb e)))).1, (I7.pin (b, o) (List.mem_append_right _ (List.mem_append_right _ (mem_pinsAt hb e)))).2.1⟩
      refine ⟨m', hm, i + 1, fp, σ7, H7, I7.unpinned, T.keep _ fp s5 s7 st5 (fun b hb o e => (pin7 b hb o e).1) (.inr ⟨Nat.succ_pos _, fun j x e c => k7 j x (k6 j x e c) c⟩), fun b hb => ?_, w7⟩
      obtain ⟨o, e, _⟩ := T.obj _ _ _ st5 b hb
      exact ⟨(pin7 b hb o e).2, (fr5 b hb).2⟩
    cases f with
    | next => obtain ⟨σ7, H7, I7, n7⟩ := q7; exact again I7 n7
    | cont => obtain ⟨σ7, H7, I7, n7⟩ := q7; exact again I7 n7
    | brk => obtain ⟨σ7, H7, I7, q⟩ := q7; exact ⟨σ7, H7, I7.unpinned, q⟩
    | ret v => obtain ⟨x7, σ7, H7, I7, r7, q⟩ := q7; exact ⟨x7, σ7, H7, I7.unpinned, r7, q⟩
end
end CpB
set_option Elab.async false
set_option linter.all false
set_option maxRecDepth 100000
set_option maxHeartbeats 4000000
/-! CpC: a list comprehension over such an iterator. -/
namespace CpB
open PySem PySem.Spec PyProof.Rows L2 CpA
section
variable {X : Cx}
/-- the context of the block -/
abbrev Bk (X : Cx) (s : Shared) (H : Hp) (scope : Scope) (C : Addr) (cl : List (Str × Addr)) (fp : List Addr) : Cx := X.blk s H scope (compEnvC scope cl C X.env) fp
theorem lcG_core {pins : List (Addr × Obj)} {s : Shared} {σ : L2.St} {H : Hp} {Q : VK} {elt tg iter : Expr} {ifs : List Expr} {scope : Scope} {own : List (Str × Nat)} {pos pos' : Pos} {wi : TI} {g : TG} {tt : TT} {te : TE} {use : Option (Value → Sem Unit)} {Qf : Value → Shared → Prop}
    (hc : X.calm = true) (hr : Room 2 X.A) (hN : X.N.Nodup) (I : Inv X pins σ H s) (hi : PIG X tg iter wi) (ok : BlkOk X.N X.env.scope scope own)
    (hg : ∀ s H C cl fp, PG (Bk X s H scope C cl fp) tg g) (ht : ∀ s H C cl fp, PTs (Bk X s H scope C cl fp) ifs tt) (he : ∀ s H C cl fp, PE (Bk X s H scope C cl fp) elt te) (hs : ∀ x, foldedSetIterable iter X.env x = pure x)
    (h : tLc wi g tt te (own.map (·.2)) σ H Q)
    (hRR : ∀ D C z m Hz, Inv X pins σ Hz z → Q (.ref D) Hz → z.heap.Ns C m → FpOk X pins Hz C → compPost (model X.prog X.w) X.A X.xe use Qf (.ref D) C (.ok .next) z) :
    wpAny (model X.prog X.w) X.A (comprehension (.ListComp elt [⟨tg, iter, ifs, 0⟩] scope pos) scope X.env pos' (newList []) false (eval iter X.env) use) Qf X.xe s := by
  have hfree : ∀ y ∈ scope.names, y.2 = .free → ∃ c, X.env.cells.lookup y.1 = some c := fun y hy e => by
    rcases ok.free y hy e with k | k
    · exact I.ok.has _ (.inl k)
    · exact I.ok.has _ (.inr k)
  refine wpAny_comprehension_free (use := use) rfl hs (closure_ok hfree) ok.kind (fun y hy e => by rw [ok.uniq y hy, e]) (thn (hi.run pins s σ H _ I h) fun xv s1 hx => thn hx fun itv s2 h2 => ?_)
  obtain ⟨it, fp, tn, J, H2, e, I2, T, st2, f2, q⟩ := h2
  subst e
  refine wpAny_newObj_type (newEnv_comp ?_) (by show 0 ≤ sizeLine; decide)
  generalize hD : s2.heap.objs.size = D
  have hDn : H2 D = none := I2.hok.fresh (Nat.le_of_eq hD)
  obtain ⟨W, ⟨m0, w0⟩, turn⟩ := q D hDn
  generalize hs3 : ({ s2 with heap := s2.heap.push { cls := .type "list", data := .seq ([] : List Value).toArray } } : Shared) = s3
  have I3 : Inv X pins σ (upd H2 D (.lst [])) s3 := by
    rw [← hs3]
    refine I2.laid (t' := s2.toks) (fun b o e => Heap.get?_push_of_some _ e) (Nat.le_of_eq hD) ⟨Nat.zero_le _, [], 0, .nil, ?_⟩
    rw [← hD]
    exact Heap.get?_push_size _ rfl
  have h3 : s3.heap = s2.heap.push { cls := .type "list", data := .seq ([] : List Value).toArray } := by rw [← hs3]
  have g3 : s3.gens = s2.gens := by rw [← hs3]
  have sz : ∀ b ∈ fp, b < s2.heap.objs.size := fun b hb => by
    obtain ⟨o, e, _⟩ := T.obj _ _ _ st2 b hb
    exact Heap.lt_size e
  have f3 : ∀ b ∈ fp, FpOk X pins (upd H2 D (.lst [])) b ∧ b < s3.heap.objs.size := fun b hb => by
    have hlt := sz b hb
    refine ⟨⟨?_, (f2 b hb).2⟩, by rw [h3, Heap.size_push]; exact Nat.lt_succ_of_lt hlt⟩
    rw [upd_ne (by rw [← hD]; exact Nat.ne_of_lt hlt)]
    exact (f2 b hb).1
  have st3 : tn 0 fp s3 := T.keep 0 fp s2 s3 st2 (fun b _ o e => by rw [h3]; exact Heap.get?_push_of_some _ e) (.inl g3)
  have I4 := block_start I3 ok hN f3
  have pg : PG (X.blk s3 (upd H2 D (.lst [])) scope (compEnvC scope (cellsFrom (s3.heap.objs.size + 1) scope.names (cloFrom X.env.cells scope.names [])) s3.heap.objs.size X.env) fp) tg g := hg s3 (upd H2 D (.lst [])) s3.heap.objs.size (cellsFrom (s3.heap.objs.size + 1) scope.names (cloFrom X.env.cells scope.names [])) fp
  have pt : PTs (X.blk s3 (upd H2 D (.lst [])) scope (compEnvC scope (cellsFrom (s3.heap.objs.size + 1) scope.names (cloFrom X.env.cells scope.names [])) s3.heap.objs.size X.env) fp) ifs tt := ht s3 (upd H2 D (.lst [])) s3.heap.objs.size (cellsFrom (s3.heap.objs.size + 1) scope.names (cloFrom X.env.cells scope.names [])) fp
  have pe : PE (X.blk s3 (upd H2 D (.lst [])) scope (compEnvC scope (cellsFrom (s3.heap.objs.size + 1) scope.names (cloFrom X.env.cells scope.names [])) s3.heap.objs.size X.env) fp) elt te := he s3 (upd H2 D (.lst [])) s3.heap.objs.size (cellsFrom (s3.heap.objs.size + 1) scope.names (cloFrom X.env.cells scope.names [])) fp
  show codeAny _ _ (.compStart (.ListComp elt [⟨tg, iter, ifs, 0⟩] scope pos) 0 (.ref it) (.ref D) (compEnvC scope (cellsFrom (s3.heap.objs.size + 1) scope.names (cloFrom X.env.cells scope.names [])) s3.heap.objs.size X.env))
    (compPost (model X.prog X.w) X.A X.xe use Qf (.ref D) s3.heap.objs.size) { s3 with heap := pushCells (s3.heap.push { cls := .type "dict", data := .dict #[] }) scope.names }
  have nfp : ∀ b ∈ fp, (upd H2 D (.lst [])) b = none := fun b hb => (f3 b hb).1.1
  generalize hce : compEnvC scope (cellsFrom (s3.heap.objs.size + 1) scope.names (cloFrom X.env.cells scope.names [])) s3.heap.objs.size X.env = ce at I4 pg pt pe ⊢
  have cL : ce.locals = s3.heap.objs.size := by subst hce; rfl
  generalize hH3 : upd H2 D (.lst []) = H3 at I3 I4 pg pt pe w0 nfp f3
  generalize hs4 : ({ s3 with heap := pushCells (s3.heap.push { cls := .type "dict", data := .dict #[] }) scope.names } : Shared) = s4 at I4 ⊢
  have g4 : s4.gens = s3.gens := by rw [← hs4]
  have st4 : tn 0 fp s4 := T.keep 0 fp s3 s4 st3 (fun b _ o e => by rw [← hs4]; exact pushCells_keeps _ _ _ _ (Heap.get?_push_of_some _ e)) (.inl g4)
  have stat : ∀ {σ' : L2.St} {H' : Hp} {s' : Shared}, Inv (X.blk s3 H3 scope ce fp) [] σ' H' s' → (∀ b ∈ fp, H' b = none) → ∀ b ∈ fp, FpOk (X.blk s3 H3 scope ce fp) [] H' b := fun {σ' H' s'} I' hn b hb =>
    ⟨hn b hb, (I'.ok.exf b hb).1, I'.ok.exfs b hb, .inl hb, fun x c e => (I'.ok.exf b hb).2 x c e, fun p hp => absurd (show p ∈ ([] : List (Addr × Obj)) ++ [] from hp) (by simp)⟩
  have loop : codeAny (model X.prog X.w) X.A (.compLoop (.ListComp elt [⟨tg, iter, ifs, 0⟩] scope pos) 0 (.ref it) (.ref D) ce) (compPost (model X.prog X.w) X.A X.xe use Qf (.ref D) s3.heap.objs.size) s4 := by
    refine compLoop_any (fun n z => ∃ i fq Hz, Inv (X.blk s3 H3 scope ce fp) [] (wipe σ (own.map (·.2))) Hz z ∧ tn i fq z ∧ (∀ b ∈ fq, FpOk (X.blk s3 H3 scope ce fp) [] Hz b) ∧ W i n Hz) ?_ m0 ⟨0, fp, H3, I4, st4, stat I4 nfp, w0⟩
    rintro n s5 ⟨i, fq5, H5, I5, st5, n5, w5⟩
    rcases turn i n H5 w5 with ⟨stop, qq⟩ | ⟨go, Nx, hNx, step⟩
    · have td := T.done (X.blk s3 H3 scope ce fp) rfl rfl rfl rfl rfl hc i fq5 [] s5 _ H5 (fun _ _ => False) hr I5 n5 st5 stop
      refine thnF td fun r s6 ⟨er, I6⟩ => ?_
      subst er
      have I7 : Inv X pins σ H5 s6 := I3.call' (ch := fp) I6.os I6.base I6.hok I6.bare fun b hb => ⟨(f3 b hb).1.2.2.2.1, (f3 b hb).1.2.1, (f3 b hb).1.2.2.2.2.1, (f3 b hb).1.2.2.2.2.2⟩
      have nC : H5 s3.heap.objs.size = none := by
        have z : H5 ce.locals = none := I6.free
        rw [cL] at z
        exact z
      obtain ⟨m, hn, _⟩ := I6.loc
      have hn : s6.heap.Ns ce.locals m := hn
      rw [cL] at hn
      exact hRR D s3.heap.objs.size s6 m H5 I7 qq hn (I3.fpOk (Nat.le_refl _) nC)
    · have ti := T.item (X.blk s3 H3 scope ce fp) rfl rfl rfl rfl rfl hc i fq5 [] s5 _ H5 (fun _ _ => False) hr I5 n5 st5 go
      refine thnF ti fun r s6 ⟨u, er, h6⟩ => ?_
      subst er
      refine thnF h6 fun _ s7 ⟨x, H7, fq, I7, r7, y7, st7, n7⟩ => ?_
      have J7 := I7.pinned n7 (T.obj _ _ _ st7)
      refine thnF (keptN (E := fun _ _ => False) (Q := fun _ z => ∃ σ' H', Inv (X.blk s3 H3 scope ce fp) ([] ++ pinsAt fq s7.heap) σ' H' z ∧ (wipe σ' (own.map (·.2)) = wipe σ (own.map (·.2)) ∧ tt σ' H' fun b H3 => if b = true then te σ' H3 fun y H4 => ∃ acc, H4 D = some (.lst acc) ∧ acc.length < sizeLine ∧ Nx (upd H4 D (.lst (acc ++ [y]))) else Nx H3)) J7 (fun _ z ⟨_, _, I', _⟩ => I'.bare) (fun _ z G ⟨σ', H', I', q⟩ b => ⟨σ', H', regens I' b, q⟩)
        fun G hG I' => pg.run _ _ _ H7 x u _ I' r7 (step x H7 y7)) fun _ s8 ⟨k8, σ8, H8, I8, hw8, q8⟩ => ?_
      refine thnF (keptN (E := fun _ _ => False) (Q := fun b z => TP (X.blk s3 H3 scope ce fp) ([] ++ pinsAt fq s7.heap) σ8 _ b z) I8 (fun _ z ⟨_, I', _⟩ => I'.bare) (fun _ z G ⟨H', I', q⟩ b => ⟨H', regens I' b, q⟩)
        fun G hG I' => pt.run _ _ σ8 H8 _ I' q8) fun b s9 ⟨k9, H9, I9, q9⟩ => ?_
      have fin : ∀ {s' : Shared} {H' : Hp}, Kept s9.gens s'.gens → Inv (X.blk s3 H3 scope ce fp) ([] ++ pinsAt fq s7.heap) σ8 H' s' → Nx H' → ∃ m, m < n ∧ ∃ i fq H', Inv (X.blk s3 H3 scope ce fp) [] (wipe σ (own.map (·.2))) H' s' ∧ tn i fq s' ∧ (∀ b ∈ fq, FpOk (X.blk s3 H3 scope ce fp) [] H' b) ∧ W i m H' := fun {s' H'} kk I' nx => by
        obtain ⟨m', hm, w'⟩ := hNx H' nx
        have pin' : ∀ b ∈ fq, ∀ o, s7.heap.get? b = some o → s'.heap.get? b = some o ∧ H' b = none := fun b hb o e =>
          let z := I'.pin (b, o) (List.mem_append_right _ (List.mem_append_right _ (mem_pinsAt hb e)))
          ⟨z.1, z.2.1⟩
        have hl : (wipe σ (own.map (·.2))).length = σ8.length := by rw [← hw8, wipe_length]
        refine ⟨m', hm, i + 1, fq, H', (I'.unpinned (pins := [])).weak hl (fun j v e => ?_), T.keep _ fq s7 s' st7 (fun b hb o e => (pin' b hb o e).1) (.inr ⟨Nat.succ_pos _, fun j x e c => kk j x (k9 j x (k8 j x e c) c) c⟩), fun b hb => ?_, w'⟩
        · rw [← hw8] at e
          exact (wipe_some e).1
        · obtain ⟨o, e, _⟩ := T.obj _ _ _ st7 b hb
          exact ⟨(pin' b hb o e).2, (n7 b hb).2⟩
      cases b with
      | false =>
        simp only [Bool.false_eq_true, if_false] at q9 ⊢
        exact fin (fun _ _ e _ => e) I9 q9
      | true =>
        simp only [if_true] at q9 ⊢
        refine thnF (keptN (E := fun _ _ => False) (Q := fun v z => EP (X.blk s3 H3 scope ce fp) ([] ++ pinsAt fq s7.heap) σ8 _ v z) I9 (fun _ z ⟨_, _, I', _⟩ => I'.bare) (fun _ z G ⟨v, H', I', q⟩ b => ⟨v, H', regens I' b, q⟩)
          fun G hG I' => pe.run _ _ σ8 H9 _ I' q9) fun z s10 ⟨k10, yv, H10, I10, r10, acc, hD10, hz10, nx⟩ => ?_
        refine thnF (keptN (E := fun _ _ => False) (Q := fun _ z => Inv (X.blk s3 H3 scope ce fp) ([] ++ pinsAt fq s7.heap) σ8 (upd H10 D (.lst (acc ++ [yv]))) z) I10 (fun _ z I' => I'.bare) (fun _ z G I' b => regens I' b)
          fun G hG I' => app_ok (X := X.blk s3 H3 scope ce fp) I' hD10 hz10 r10 fun s11 I11 => I11) fun _ s11 ⟨k11, I11⟩ => ?_
        exact fin (fun j x e c => k11 j x (k10 j x e c) c) I11 nx
  exact codeAny_compStart_list loop (T.self X.A 0 fp _ _ _ st4 loop)
theorem pe_lcG {elt tg iter : Expr} {ifs : List Expr} {scope : Scope} {own : List (Str × Nat)} {pos : Pos} {wi : TI} {g : TG} {tt : TT} {te : TE} (hc : X.calm = true) (hr : Room 2 X.A) (hN : X.N.Nodup) (hi : PIG X tg iter wi) (ok : BlkOk X.N X.env.scope scope own)
    (hg : ∀ s H C cl fp, PG (Bk X s H scope C cl fp) tg g) (ht : ∀ s H C cl fp, PTs (Bk X s H scope C cl fp) ifs tt) (he : ∀ s H C cl fp, PE (Bk X s H scope C cl fp) elt te) (hs : ∀ x, foldedSetIterable iter X.env x = pure x := by intro _; rfl) :
    PE X (.ListComp elt [⟨tg, iter, ifs, 0⟩] scope pos) (tLc wi g tt te (own.map (·.2))) := by
  refine ⟨fun pins s σ H Q I h => ?_⟩
  rw [eval_ListComp]
  refine lcG_core hc hr hN I hi ok hg ht he hs h fun D C s' m H' I' q hn f => ⟨m, hn, fun h'' sb => ?_⟩
  obtain ⟨f0, f1, f2, f3, f4, f5⟩ := f
  exact ⟨.ref D, H', I'.turned (t' := s'.toks) (fun b o hb e => (sb.2 b hb).trans e) f0 f1 f3 f4 f5, rfl, q⟩
theorem ps_setLcG {i : Nat} {y : Str} {py : Pos} {elt tg iter : Expr} {ifs : List Expr} {scope : Scope} {own : List (Str × Nat)} {pos spos : Pos} {wi : TI} {g : TG} {tt : TT} {te : TE} (hc : X.calm = true) (hr : Room 2 X.A) (hN : X.N.Nodup) (hy : X.N[i]? = some y) (hyl : X.env.scope.names.lookup y = some .local)
    (hsw : swapsWith (.ListComp elt [⟨tg, iter, ifs, 0⟩] scope pos) (some (.Name y py)) spos.line X.env = pure true) (hi : PIG X tg iter wi) (ok : BlkOk X.N X.env.scope scope own)
    (hg : ∀ s H C cl fp, PG (Bk X s H scope C cl fp) tg g) (ht : ∀ s H C cl fp, PTs (Bk X s H scope C cl fp) ifs tt) (he : ∀ s H C cl fp, PE (Bk X s H scope C cl fp) elt te) (hs : ∀ x, foldedSetIterable iter X.env x = pure x := by intro _; rfl) :
    PS X (.Assign [.Name y py] (.ListComp elt [⟨tg, iter, ifs, 0⟩] scope pos) spos) (tAsg (tLc wi g tt te (own.map (·.2))) (gName i)) := by
  refine ⟨fun pins s σ H D I h => ?_⟩
  rw [exec_Assign_Name_used _ _ _ _ hsw]
  refine wpAny_bind (wpAny_standAt (wpAny_bind ?_))
  show wpAny _ X.A (do let _ ← comprehension (.ListComp elt [⟨tg, iter, ifs, 0⟩] scope pos) scope X.env (firstIterPos [⟨tg, iter, ifs, 0⟩] pos) (newList []) false (eval iter X.env) (some (assign (.Name y py) X.env))) _ _ s
  have h' : tLc wi g tt te (own.map (·.2)) σ H (fun x H1 => gName i x σ H1 D.nx) := h
  refine wpAny_bind (thn (lcG_core (Qf := fun _ s' => SP X pins D .next s') hc hr hN I hi ok hg ht he hs h' fun L C s' m H' I' q hn f => ?_) fun _ s' hq => wpAny_pure (wpAny_pure hq))
  show wpAny _ _ (assign (.Name y py) X.env (.ref L)) _ _ _
  refine wpAny_assign_Name (store_ok2 (v := V.ref L) I' hN hy (.inl hyl) rfl (fun s2 I2 ⟨a, sb, ha⟩ => ?_) (.inr hyl))
  obtain ⟨f0, f1, f2, f3, f4, f5⟩ := f
  have haC : C ≠ a := by
    rcases ha with z | z
    · rw [z]; exact f1
    · exact fun e => f4 y a z e.symm
  exact ⟨m, hn.sameBut sb haC, fun h3 sb3 => ⟨_, H', I2.turned (t' := s2.toks) (fun b o hb e => (sb3.2 b hb).trans e) f0 f1 f3 f4 f5, q⟩⟩
end
end CpB
set_option Elab.async false
set_option linter.all false
set_option maxRecDepth 100000
set_option maxHeartbeats 4000000
/-! CpN: sets of rows as tracked things: set comprehensions. -/
namespace CpS
open PySem PySem.Spec PyProof.Rows L2 CpA CpB
structure Set0 (P : Program) (w : World) (h : Heap) (a : Addr) (L : Rw) : Prop where
  ex : ∃ (es : Array (Int × Value)) (ep : Nat) (t : SetTable), (∃ o, h.get? a = some o ∧ o.ExactSet ∧ o.data = .set es ep t) ∧ es.toList = entries P w L ∧ TabOk t (L.map fun p => hOf P w p.2) ∧ (L.map (·.2)).Nodup ∧
    (w.params.followText "set-order" = true ∨ t.led = true) ∧ L.length * 5 < t.mask * 3 ∧ L.length < 64
/-- the set at a, of the rows L (an address and the row that stands there) -/
def SetRO (P : Program) (w : World) (a : Addr) (L : Rw) : HO := .ext fun h => Set0 P w h a L
/-- the rows stand where they are said to -/
def RowsT (K : PySem.W.Frag) (H : Hp) (L : Rw) : Prop := ∀ p ∈ L, SqT K H p.1 (p.2.map kV)
section
variable {P : Program} {w : World} {h : Heap} {a : Addr} {L : Rw}
theorem Tbl.s0 {es : Array (Int × Value)} {ep : Nat} {t : SetTable} (T : Tbl P w h a L es ep t) : Set0 P w h a L := ⟨es, ep, t, T.obj, T.ents, T.ok, T.once, T.led, T.room, T.few⟩
theorem Set0.full (R : Set0 P w h a L) (ht : ∀ p ∈ L, RowAt P w h p.2 p.1) : ∃ es ep t, Tbl P w h a L es ep t := by
  obtain ⟨es, ep, t, h1, h2, h3, h4, h6, h7, h8⟩ := R.ex
  exact ⟨es, ep, t, h1, h2, h3, h4, ht, h6, h7, h8⟩
theorem Set0.once (R : Set0 P w h a L) : (L.map (·.2)).Nodup := by
  obtain ⟨es, ep, t, h1, h2, h3, h4, _⟩ := R.ex
  exact h4
theorem setRO_new {H : Hp} (R : Set0 P w h a L) : ObjOk P w H h a (SetRO P w a L) := by
  have ⟨es, ep, t, ⟨o, ho, r⟩, q⟩ := R.ex
  refine ⟨R, ⟨o, ho⟩, fun h1 h2 p k => ?_⟩
  have ⟨es', ep', t', ⟨o', ho', r'⟩, q'⟩ := Set0.ex p
  exact ⟨es', ep', t', ⟨o', k o' ho', r'⟩, q'⟩
abbrev newSetObj (w : World) : Obj := { cls := .type "set", dict := none, data := .set #[] 0 (.fresh 0 0 (!w.params.followText "set-order")) }
theorem tbl_fresh (ho : h.get? a = some (newSetObj w)) : Tbl P w h a [] #[] 0 (.fresh 0 0 (!w.params.followText "set-order")) where
  obj := ⟨_, ho, ⟨rfl, rfl, rfl⟩, rfl⟩
  ents := rfl
  ok := ⟨List.Pairwise.nil, rfl, rfl, .inl rfl, fun x hx => (by cases hx), fun i h j hi => (by simp at hi)⟩
  once := List.nodup_nil
  at_ := fun p hp => (by cases hp)
  led := by
    show _ ∨ (!w.params.followText "set-order") = true
    cases w.params.followText "set-order"
    · exact .inr rfl
    · exact .inl rfl
  room := by show 0 * 5 < 7 * 3; decide
  few := by show 0 < 64; decide
theorem row_items : ∀ {k : List Key} {us : List Value}, Vals (k.map kV) us → ItemsAre (mixKind P w) k us
  | [], _, .nil => .nil
  | n :: k, _, .cons r t => .cons (kV_is r) (row_items t)
end
section
variable {X : Cx} {pins : List (Addr × Obj)} {σ : L2.St} {H : Hp} {s : Shared}
theorem rowAt_of (I : Inv X pins σ H s) {b : Addr} {k : List Key} (h : SqT X.K H b (k.map kV)) : RowAt X.prog X.w s.heap k b := by
  obtain ⟨its, r, ⟨o, ho, hc, n, hd⟩, _⟩ := I.tuple h
  exact ⟨o, its.toArray, n, ho, hc, hd, by simpa using row_items r⟩
/-- set.add of a row -/
theorem addR_ok {E : Value → Shared → Prop} {D : Addr} {L : Rw} {x : Addr} {k : List Key} {Q : Value → Shared → Prop} (I : Inv X pins σ H s) (hu : X.A.units + 64 < cLine) (hD : H D = some (SetRO X.prog X.w D L)) (hL : RowsT X.K H L) (hx : SqT X.K H x (k.map kV)) (few : L.length + 1 < 64)
    (q : ∀ z L', Inv X pins σ (upd H D (SetRO X.prog X.w D L')) z → (k ∈ L.map (·.2) → L' = L) → (k ∉ L.map (·.2) → L'.Perm ((x, k) :: L)) → z.gens = s.gens → Q .none z) : wpAny (model X.prog X.w) X.A (call (.builtin "set.add") [.ref D, .ref x]) Q E s := by
  have R0 : Set0 X.prog X.w s.heap D L := (I.hok D _ hD).1
  obtain ⟨es, ep, t, T⟩ := R0.full fun p hp => rowAt_of I (hL p hp)
  have rx := rowAt_of I hx
  obtain ⟨o, ho, hex, hd⟩ := T.obj
  refine wpAny_call_entry F.slot_set_add ⟨o, ho, hex.1⟩ F.entry_set_add ?_ (F.args_set_add_2 _ _)
  unfold Builtin.«set.add» Builtin.Frozenset.oneOther
  simp only [List.isEmpty_nil, bind_assoc]
  unfold Builtin.Frozenset.addrOf setAdd
  refine wpAny_bind (wpAny_pure ?_)
  try dsimp only
  refine wpAny_bind (wpAny_pure ?_)
  try dsimp only
  refine wpAny_bind (wpAny_holding (wpAny_bind (wpAny_pyHash_tuple (by show X.A.units + _ < _; omega) rx ?_)))
  refine put_row (s := { s with toks := s.toks + (k.length + 1) }) T rx (by show X.A.units + _ < _; omega) few fun b h' L' es' ep' t' sb T' c1 c2 => ?_
  have he : ∃ u, h'.get? D = some u := let ⟨o, ho, _⟩ := T'.obj; ⟨o, ho⟩
  show wpAny _ _ (ret Value.none) _ _ _
  exact wpAny_pure ⟨_, rfl, q _ L' (I.write (e := D) (t' := s.toks + (k.length + 1)) (by rw [hD]; trivial) (.inl rfl) (fun b u hb hu => (sb.2 b hb).trans hu) he (setRO_new T'.s0)) c1 c2 rfl⟩
end
section
variable {X : Cx}
/-- {elt for target in iter if ..}, elt a row -/
def tSr (P : Program) (w : World) (K : PySem.W.Frag) (wi : TI) (g : TG) (tt : TT) (te : TE) (vs : List Nat) : TE := fun σ H Q => wi σ H fun J H1 => ∀ D, H1 D = none → ∃ W : Nat → Nat → Hp → Prop, (∃ m, W 0 m (upd H1 D (SetRO P w D []))) ∧ ∀ i m H, W i m H →
  (J.stop i H ∧ Q (.ref D) H) ∨ (J.go i H ∧ ∃ Nx : Hp → Prop, (∀ H', Nx H' → ∃ m', m' < m ∧ W (i + 1) m' H') ∧ ∀ x H', J.yld i H x H' → g x (wipe σ vs) H' fun σ2 H2 => wipe σ2 vs = wipe σ vs ∧ tt σ2 H2 fun b H3 =>
    if b = true then te σ2 H3 fun y H4 => ∃ (L : Rw) (x : Addr) (k : List Key), y = .ref x ∧ SqT K H4 x (k.map kV) ∧ H4 D = some (SetRO P w D L) ∧ RowsT K H4 L ∧ L.length + 1 < 64 ∧ ∀ L', (k ∈ L.map (·.2) → L' = L) → (k ∉ L.map (·.2) → L'.Perm ((x, k) :: L)) → Nx (upd H4 D (SetRO P w D L')) else Nx H3)
theorem sr_core {pins : List (Addr × Obj)} {s : Shared} {σ : L2.St} {H : Hp} {Q : VK} {elt tg iter : Expr} {ifs : List Expr} {scope : Scope} {own : List (Str × Nat)} {pos pos' : Pos} {wi : TI} {g : TG} {tt : TT} {te : TE} {use : Option (Value → Sem Unit)} {Qf : Value → Shared → Prop}
    (hc : X.calm = true) (hu : X.A.units + 64 < cLine) (hN : X.N.Nodup) (I : Inv X pins σ H s) (hi : PI X tg iter wi) (ok : BlkOk X.N X.env.scope scope own)
    (hg : ∀ s H C cl fp, PG (Bk X s H scope C cl fp) tg g) (ht : ∀ s H C cl fp, PTs (Bk X s H scope C cl fp) ifs tt) (he : ∀ s H C cl fp, PE (Bk X s H scope C cl fp) elt te) (hs : ∀ x, foldedSetIterable iter X.env x = pure x)
    (h : tSr X.prog X.w X.K wi g tt te (own.map (·.2)) σ H Q)
    (hRR : ∀ D C z m Hz, Inv X pins σ Hz z → Q (.ref D) Hz → z.heap.Ns C m → FpOk X pins Hz C → compPost (model X.prog X.w) X.A X.xe use Qf (.ref D) C (.ok .next) z) :
    wpAny (model X.prog X.w) X.A (comprehension (.SetComp elt [⟨tg, iter, ifs, 0⟩] scope pos) scope X.env pos' (newSet (.type "set")) false (eval iter X.env) use) Qf X.xe s := by
  have hfree : ∀ y ∈ scope.names, y.2 = .free → ∃ c, X.env.cells.lookup y.1 = some c := fun y hy e => (ok.free y hy e).elim (fun k => I.ok.has _ (.inl k)) fun k => I.ok.has _ (.inr k)
  refine wpAny_comprehension_free (use := use) rfl hs (closure_ok hfree) ok.kind (fun y hy e => by rw [ok.uniq y hy, e]) (thn (hi.run pins s σ H _ I h) fun xv s1 hx => thn hx fun itv s2 h2 => ?_)
  obtain ⟨it, fp, tn, J, H2, e, I2, T, st2, f2, q⟩ := h2
  subst e
  refine PpSet.newSet_ok (newEnv_comp ?_)
  generalize hD : s2.heap.objs.size = D
  have hDn : H2 D = none := I2.hok.fresh (Nat.le_of_eq hD)
  obtain ⟨W, ⟨m0, w0⟩, turn⟩ := q D hDn
  generalize hs3 : ({ s2 with heap := s2.heap.push (newSetObj X.w) } : Shared) = s3
  have I3 : Inv X pins σ (upd H2 D (SetRO X.prog X.w D [])) s3 := by
    rw [← hs3]
    refine I2.laid (t' := s2.toks) (fun b o e => Heap.get?_push_of_some _ e) (Nat.le_of_eq hD) ?_
    rw [← hD]
    exact setRO_new (tbl_fresh (Heap.get?_push_size _ rfl)).s0
  have h3 : s3.heap = s2.heap.push (newSetObj X.w) := by rw [← hs3]
  have sz : ∀ b ∈ fp, b < s2.heap.objs.size := fun b hb => let ⟨o, e, _⟩ := T.obj _ _ st2 b hb; Heap.lt_size e
  have f3 : ∀ b ∈ fp, FpOk X pins (upd H2 D (SetRO X.prog X.w D [])) b ∧ b < s3.heap.objs.size := fun b hb => by
    have hlt := sz b hb
    refine ⟨⟨?_, (f2 b hb).2⟩, by rw [h3, Heap.size_push]; exact Nat.lt_succ_of_lt hlt⟩
    rw [upd_ne (by rw [← hD]; exact Nat.ne_of_lt hlt)]
    exact (f2 b hb).1
  have st3 : tn 0 s3.heap := T.keep _ _ _ st2 fun b _ o e => by rw [h3]; exact Heap.get?_push_of_some _ e
  have I4 := block_start I3 ok hN f3
  generalize hH3 : upd H2 D (SetRO X.prog X.w D []) = H3 at I3 I4 w0 f3
  have pg := hg s3 H3 s3.heap.objs.size (cellsFrom (s3.heap.objs.size + 1) scope.names (cloFrom X.env.cells scope.names [])) fp
  have pt := ht s3 H3 s3.heap.objs.size (cellsFrom (s3.heap.objs.size + 1) scope.names (cloFrom X.env.cells scope.names [])) fp
  have pe := he s3 H3 s3.heap.objs.size (cellsFrom (s3.heap.objs.size + 1) scope.names (cloFrom X.env.cells scope.names [])) fp
  have nfp : ∀ b ∈ fp, H3 b = none := fun b hb => (f3 b hb).1.1
  show codeAny _ _ (.compStart (.SetComp elt [⟨tg, iter, ifs, 0⟩] scope pos) 0 (.ref it) (.ref D) (compEnvC scope (cellsFrom (s3.heap.objs.size + 1) scope.names (cloFrom X.env.cells scope.names [])) s3.heap.objs.size X.env))
    (compPost (model X.prog X.w) X.A X.xe use Qf (.ref D) s3.heap.objs.size) { s3 with heap := pushCells (s3.heap.push { cls := .type "dict", data := .dict #[] }) scope.names }
  unfold Bk at pg pt pe
  generalize hce : compEnvC scope (cellsFrom (s3.heap.objs.size + 1) scope.names (cloFrom X.env.cells scope.names [])) s3.heap.objs.size X.env = ce at I4 pg pt pe ⊢
  have cL : ce.locals = s3.heap.objs.size := by subst hce; rfl
  generalize hs4 : ({ s3 with heap := pushCells (s3.heap.push { cls := .type "dict", data := .dict #[] }) scope.names } : Shared) = s4 at I4 ⊢
  have st4 : tn 0 s4.heap := T.keep _ _ _ st3 fun b _ o e => by rw [← hs4]; exact pushCells_keeps _ _ _ _ (Heap.get?_push_of_some _ e)
  have stat : ∀ {σ' : L2.St} {H' : Hp} {s' : Shared}, Inv (X.blk s3 H3 scope ce fp) [] σ' H' s' → (∀ b ∈ fp, H' b = none) → ∀ b ∈ fp, FpOk (X.blk s3 H3 scope ce fp) [] H' b := fun {σ' H' s'} I' hn b hb =>
    ⟨hn b hb, (I'.ok.exf b hb).1, I'.ok.exfs b hb, .inl hb, fun x c e => (I'.ok.exf b hb).2 x c e, fun p hp => absurd (show p ∈ ([] : List (Addr × Obj)) ++ [] from hp) (by simp)⟩
  have loop : codeAny (model X.prog X.w) X.A (.compLoop (.SetComp elt [⟨tg, iter, ifs, 0⟩] scope pos) 0 (.ref it) (.ref D) ce) (compPost (model X.prog X.w) X.A X.xe use Qf (.ref D) s3.heap.objs.size) s4 := by
    refine PpSet.compLoopS_any (fun n z => ∃ i Hz, Inv (X.blk s3 H3 scope ce fp) [] (wipe σ (own.map (·.2))) Hz z ∧ tn i z.heap ∧ (∀ b ∈ fp, Hz b = none) ∧ W i n Hz) ?_ m0 ⟨0, H3, I4, st4, nfp, w0⟩
    rintro n s5 ⟨i, H5, I5, st5, n5, w5⟩
    rcases turn i n H5 w5 with ⟨stop, qq⟩ | ⟨go, Nx, hNx, step⟩
    · refine thnF (T.done (X.blk s3 H3 scope ce fp) rfl rfl rfl hc i [] s5 _ H5 (fun _ _ => False) I5 (stat I5 n5) st5 stop) fun r s6 ⟨er, I6⟩ => ?_
      subst er
      have I7 : Inv X pins σ H5 s6 := I3.call' (ch := fp) I6.os I6.base I6.hok I6.bare fun b hb => ⟨(f3 b hb).1.2.2.2.1, (f3 b hb).1.2.1, (f3 b hb).1.2.2.2.2.1, (f3 b hb).1.2.2.2.2.2⟩
      have nC : H5 s3.heap.objs.size = none := cL ▸ (show H5 ce.locals = none from I6.free)
      obtain ⟨m, hn, _⟩ := I6.loc
      exact hRR D s3.heap.objs.size s6 m H5 I7 qq (cL ▸ (show s6.heap.Ns ce.locals m from hn)) (I3.fpOk (Nat.le_refl _) nC)
    · refine thnF (T.item (X.blk s3 H3 scope ce fp) rfl rfl rfl hc i [] s5 _ H5 (fun _ _ => False) I5 (stat I5 n5) st5 go) fun r s6 ⟨u, er, h6⟩ => ?_
      subst er
      refine thnF h6 fun _ s7 ⟨x, H7, I7, r7, y7, st7, n7⟩ => ?_
      have J7 := I7.pinned (stat I7 n7) (T.obj _ _ st7)
      refine thnF (pg.run _ s7 _ H7 x u _ J7 r7 (step x H7 y7)) fun _ s8 ⟨σ8, H8, I8, hw8, q8⟩ => ?_
      refine thnF (pt.run _ s8 σ8 H8 _ I8 q8) fun b s9 ⟨H9, I9, q9⟩ => ?_
      have fin : ∀ {s' : Shared} {H' : Hp}, Inv (X.blk s3 H3 scope ce fp) ([] ++ pinsAt fp s7.heap) σ8 H' s' → Nx H' → ∃ m, m < n ∧ ∃ i H', Inv (X.blk s3 H3 scope ce fp) [] (wipe σ (own.map (·.2))) H' s' ∧ tn i s'.heap ∧ (∀ b ∈ fp, H' b = none) ∧ W i m H' := fun {s' H'} I' nx => by
        obtain ⟨m', hm, w'⟩ := hNx H' nx
        have pin' : ∀ b ∈ fp, ∀ o, s7.heap.get? b = some o → s'.heap.get? b = some o ∧ H' b = none := fun b hb o e =>
          let z := I'.pin (b, o) (List.mem_append_right _ (List.mem_append_right _ (mem_pinsAt hb e)))
          ⟨z.1, z.2.1⟩
        refine ⟨m', hm, i + 1, H', (I'.unpinned (pins := [])).weak (by rw [← hw8, wipe_length]) (fun j v e => ?_), T.keep _ _ _ st7 fun b hb o e => (pin' b hb o e).1, fun b hb => ?_, w'⟩
        · rw [← hw8] at e
          exact (wipe_some e).1
        · obtain ⟨o, e, _⟩ := T.obj _ _ st7 b hb
          exact (pin' b hb o e).2
      cases b with
      | false =>
        simp only [Bool.false_eq_true, if_false] at q9 ⊢
        exact fin I9 q9
      | true =>
        simp only [if_true] at q9 ⊢
        refine thnF (pe.run _ s9 σ8 H9 _ I9 q9) fun z s10 ⟨yv, H10, I10, r10, L, xa, k, ey, hx, hD10, hL10, few, nx⟩ => ?_
        subst ey
        cases (show z = Value.ref xa from r10)
        exact addR_ok (X := X.blk s3 H3 scope ce fp) I10 hu hD10 hL10 hx few fun s11 L' I11 c1 c2 _ => fin I11 (nx L' c1 c2)
  exact PpSet.codeAny_compStart_set loop (T.self X.A 0 _ _ _ st4 loop)
/-- as a value -/
theorem pe_sr {elt tg iter : Expr} {ifs : List Expr} {scope : Scope} {own : List (Str × Nat)} {pos : Pos} {wi : TI} {g : TG} {tt : TT} {te : TE} (hc : X.calm = true) (hu : X.A.units + 64 < cLine) (hN : X.N.Nodup) (hi : PI X tg iter wi) (ok : BlkOk X.N X.env.scope scope own)
    (hg : ∀ s H C cl fp, PG (Bk X s H scope C cl fp) tg g) (ht : ∀ s H C cl fp, PTs (Bk X s H scope C cl fp) ifs tt) (he : ∀ s H C cl fp, PE (Bk X s H scope C cl fp) elt te) (hs : ∀ x, foldedSetIterable iter X.env x = pure x := by intro _; rfl) :
    PE X (.SetComp elt [⟨tg, iter, ifs, 0⟩] scope pos) (tSr X.prog X.w X.K wi g tt te (own.map (·.2))) := by
  refine ⟨fun pins s σ H Q I h => ?_⟩
  rw [PpSet.eval_SetComp]
  refine sr_core hc hu hN I hi ok hg ht he hs h fun D C s' m H' I' q hn f => ⟨m, hn, fun h'' sb => ?_⟩
  obtain ⟨f0, f1, f2, f3, f4, f5⟩ := f
  exact ⟨.ref D, H', I'.turned (t' := s'.toks) (fun b o hb e => (sb.2 b hb).trans e) f0 f1 f3 f4 f5, rfl, q⟩
end
end CpS
set_option Elab.async false
set_option linter.all false
set_option maxRecDepth 100000
set_option maxHeartbeats 4000000
/-! CpO: sorted of a set, a list, a dict of rows. -/
namespace CpS
open PySem PySem.Spec PyProof.Rows L2 CpA CpB
/-! ### the order -/
def encK : Key → PyData
  | .inl i => .int i
  | .inr x => .str x
def encR (k : List Key) : PyData := .tuple (k.map encK)
def shp (k : List Key) : List Bool := k.map fun | .inl _ => true | .inr _ => false
def kLt : Key → Key → Bool
  | .inl i, .inl j => decide (i < j)
  | .inr x, .inr y => decide (x.cps.toList < y.cps.toList)
  | _, _ => false
/-- the first items that differ decide -/
def rLt : List Key → List Key → Bool
  | [], [] => false
  | [], _ :: _ => true
  | _ :: _, [] => false
  | x :: xs, y :: ys => if x = y then rLt xs ys else kLt x y
theorem alike_shp : ∀ {x y : List Key}, shp x = shp y → PySem.W.alikeAll (x.map encK) (y.map encK) = true
  | [], y, _ => by simp [PySem.W.alikeAll]
  | x :: xs, [], h => by simp [shp] at h
  | x :: xs, y :: ys, h => by
    have h' : shp xs = shp ys := by simpa [shp] using (List.cons.inj h).2
    have h0 := (List.cons.inj h).1
    have ih := alike_shp h'
    rw [List.map_cons, List.map_cons]
    cases x <;> cases y <;> first | exact Bool.noConfusion h0 | simp [PySem.W.alikeAll, PySem.W.alike, encK, ih]
theorem eqv_key {x y : Key} (h : PySem.W.alike (encK x) (encK y) = true) : PyData.eqv (encK x) (encK y) = decide (x = y) := by
  cases x <;> cases y <;> simp [PySem.W.alike, encK] at h <;> simp [encK, PyData.eqv]
  all_goals (first | (rw [Bool.eq_iff_iff]; simp) | rfl)
theorem kLt_eq {x y : Key} (h : PySem.W.alike (encK x) (encK y) = true) : PySem.W.dataLt (encK x) (encK y) = kLt x y := by
  cases x <;> cases y <;> simp [PySem.W.alike, encK] at h
  · exact PySem.W.dataLt_int _ _
  · exact PySem.W.dataLt_str _ _
theorem rowLt_eq : ∀ {x y : List Key}, shp x = shp y → PySem.W.rowLt (x.map encK) (y.map encK) = rLt x y
  | [], [], _ => lex_irrefl _
  | [], y :: ys, h => by simp [shp] at h
  | x :: xs, [], h => by simp [shp] at h
  | x :: xs, y :: ys, h => by
    have h' : shp xs = shp ys := by simpa [shp] using (List.cons.inj h).2
    have ha := (PySem.W.alike_all_cons (alike_shp h)).1
    have ih := rowLt_eq h'
    show PyProof.Rows.lexLt itemOrd (PySem.W.keyToksAll (encK x :: xs.map encK)) (PySem.W.keyToksAll (encK y :: ys.map encK)) = if x = y then rLt xs ys else kLt x y
    rw [PySem.W.dataLt_cons ha, eqv_key ha, kLt_eq ha]
    by_cases e : x = y
    · rw [if_pos (by simpa using e), if_pos e]
      exact ih
    · rw [if_neg (by simpa using e), if_neg e]
theorem dataLe_row {x y : List Key} (h : shp x = shp y) : PySem.W.dataLe false encR x y = !rLt y x := by
  show (!PySem.W.dataLt (.tuple (y.map encK)) (.tuple (x.map encK))) = !rLt y x
  rw [PySem.W.dataLt_tuple]
  exact congrArg _ (rowLt_eq h.symm)
/-- in order -/
def SrtR (L : Rw) : Prop := L.Pairwise fun p q => rLt q.2 p.2 = false
theorem sort_rows {L : Rw} {sh : List Bool} (h : ∀ p ∈ L, shp p.2 = sh) : SrtR (L.mergeSort (PySem.W.dataLe false fun p => encR p.2)) := by
  have hp := PySem.W.sort_pairwise (le := PySem.W.dataLe false fun p : Addr × List Key => encR p.2) (PySem.W.sortLe_total _ _ _) L
  refine List.Pairwise.imp_of_mem (fun {p q} mp mq hpq => ?_) hp
  have e1 := h p ((List.mergeSort_perm L _).mem_iff.mp mp)
  have e2 := h q ((List.mergeSort_perm L _).mem_iff.mp mq)
  have e3 : PySem.W.dataLe false (fun p : Addr × List Key => encR p.2) p q = PySem.W.dataLe false encR p.2 q.2 := rfl
  rw [e3, dataLe_row (e1.trans e2.symm)] at hpq
  simpa using hpq
/-! ### the sort -/
section
variable {P : Program} {w : World} {A : Around} {E : Value → Shared → Prop} {s : Shared}
theorem reads_items {h : Heap} {k : List Key} {us : List Value} (x : ItemsAre (mixKind P w) k us) : ReadsAll h us (k.map encK) [] := by
  induction x with
  | nil => exact .nil
  | @cons y v ys vs h1 _ ih =>
    have e : Reads h v (encK y) [] := by
      rcases keyIs_shape h1 with ⟨i, t, rfl, rfl⟩ | ⟨z, t, rfl, rfl⟩
      · exact .int _ _
      · exact .str _ _
    exact .cons (as := []) (bs := []) e ih
theorem reads_row {h : Heap} {k : List Key} {b : Addr} (x : RowAt P w h k b) : Reads h (.ref b) (encR k) [] := by
  obtain ⟨o, its, n, ho, hc, hd, hi⟩ := x
  exact .tuple ho hc hd (reads_items hi)
theorem depth_row : ∀ k : List Key, PyData.depthAll (k.map encK) = 0
  | [] => by simp [PyData.depthAll]
  | x :: k => by
    have ih := depth_row k
    cases x <;> simp [encK, PyData.depthAll, PyData.depth, ih]
theorem each_refs {R : Value → Addr × List Key → Prop} : ∀ {L : Rw}, (∀ p ∈ L, R (.ref p.1) p) → PySem.W.EachIs R (L.map fun p => Value.ref p.1) L
  | [], _ => .nil
  | p :: L, h => .cons (h p List.mem_cons_self) (each_refs fun q hq => h q (List.mem_cons_of_mem _ hq))
theorem refs_each : ∀ {vs : List Value} {L : Rw}, PySem.W.EachIs (fun v p => v = Value.ref p.1) vs L → vs = L.map fun p => Value.ref p.1
  | _, _, .nil => rfl
  | _, _, .cons h t => by rw [List.map_cons, ← h, ← refs_each t]
/-- xs.sort(), xs a list of rows of one shape -/
theorem sort_row_list {a : Addr} {L : Rw} {sh : List Bool} {n : Nat} {Q : Value → Shared → Prop} (ho : s.heap.get? a = some (seqObj "list" (L.map fun p => Value.ref p.1).toArray n)) (hL : ∀ p ∈ L, RowAt P w s.heap p.2 p.1) (hs : ∀ p ∈ L, shp p.2 = sh) (hne : sh ≠ []) (hz : L.length ≤ sizeLine) (hu : A.units + 64 < cLine)
    (q : ∀ Y : Rw, Y.Perm L → SrtR Y → Q .none { s with heap := sortedHeap s.heap a (L.map fun p => Value.ref p.1) (Y.map fun p => Value.ref p.1).toArray }) :
    wpAny (model P w) A (call (.builtin "list.sort") [.ref a]) Q E s := by
  refine PySem.W.list_sort_data (R := fun v (p : Addr × List Key) => v = Value.ref p.1) (enc := fun p : Addr × List Key => encR p.2) ho (each_refs fun p _ => rfl) (each_refs fun p hp => ⟨[], reads_row (hL p hp), by simp⟩) ?_ (.inl ?_) hz ?_ fun out _ e => ?_
  · intro d hd d' hd'
    obtain ⟨p, hp, rfl⟩ := List.mem_map.mp hd
    obtain ⟨p', hp', rfl⟩ := List.mem_map.mp hd'
    show PySem.W.alike (.tuple _) (.tuple _) = true
    rw [PySem.W.alike]
    exact alike_shp ((hs p hp).trans (hs p' hp').symm)
  · intro d hd
    obtain ⟨p, hp, rfl⟩ := List.mem_map.mp hd
    have e := hs p hp
    cases hk : p.2 with
    | nil => rw [hk] at e; exact absurd e.symm hne
    | cons x r => exact ⟨encK x, r.map encK, rfl⟩
  · intro p hp
    have e : (encR p.2).depth = 1 := by simp [encR, PyData.depth, depth_row]
    rw [e]
    omega
  · rw [refs_each e]
    exact q _ (List.mergeSort_perm L _) (sort_rows hs)
/-- sorted(x), by what x is gathered to -/
theorem sorted_by {x : Value} {Q : Value → Shared → Prop} (Good : List Value → Shared → Prop)
    (hcol : ∀ {Q' : List Value → Shared → Prop} {E' : Value → Shared → Prop}, (∀ s1 vs, Good vs s1 → Q' vs s1) → wpAny (model P w) A.in1 (collect x) Q' E' s)
    (h : ∀ s1 vs, Good vs s1 → ∃ (L : Rw) (sh : List Bool), vs = (L.map fun p => Value.ref p.1) ∧ (∀ p ∈ L, RowAt P w s1.heap p.2 p.1) ∧ (∀ p ∈ L, shp p.2 = sh) ∧ sh ≠ [] ∧ L.length ≤ sizeLine ∧
      ∀ (Y : Rw) (h' : Heap) (c : Nat), Y.Perm L → SrtR Y → (∀ b o, s1.heap.get? b = some o → h'.get? b = some o) → h'.get? s1.heap.objs.size = some (seqObj "list" (Y.map fun p => Value.ref p.1).toArray c) → Q (.ref s1.heap.objs.size) { s1 with heap := h' })
    (hu : A.units + 66 < cLine) : wpAny (model P w) A (call (.builtin "sorted") [x]) Q E s := by
  refine Calls.call_function_entry PyProof.Rows.kind_sorted PyProof.Rows.plain_sorted PyProof.Rows.entry_sorted (PyProof.Rows.args_sorted1 _) ?_
  unfold Builtin.«sorted»
  refine wpAny_bind (m := checkCount "sorted" 1 1 _) (wpAny_pure ?_)
  refine wpAny_bind (hcol fun s1 vs g => ?_)
  obtain ⟨L, sh, rfl, hL, hs, hne, hz, q⟩ := h s1 vs g
  refine wpAny_bind (wpAny_newList ?_ (by rw [List.length_map]; exact hz))
  have hoL : (s1.heap.push (seqObj "list" (L.map fun p => Value.ref p.1).toArray 0)).get? s1.heap.objs.size = some (seqObj "list" (L.map fun p => Value.ref p.1).toArray 0) := Heap.get?_push_size _ rfl
  show wpAny _ _ _ _ _ { s1 with heap := s1.heap.push (seqObj "list" (L.map fun p => Value.ref p.1).toArray 0) }
  refine wpAny_bind (wpAny_holding (sort_row_list (A := A.in1) (s := { s1 with heap := s1.heap.push (seqObj "list" (L.map fun p => Value.ref p.1).toArray 0) }) hoL (fun p hp => row_keep (hL p hp) fun o e => Heap.get?_push_of_some _ e) hs hne hz (by show A.units + 1 + 64 < cLine; omega) fun Y pm sr => ?_))
  obtain ⟨c, hc⟩ := PyProof.Rows.sortedHeap_at (vs := L.map fun p => Value.ref p.1) (out := (Y.map fun p => Value.ref p.1).toArray) hoL
  refine wpAny_pure ⟨_, rfl, q Y _ c pm sr (fun b o e => ?_) hc⟩
  have hb : b < s1.heap.objs.size := Heap.lt_size e
  rw [PyProof.Rows.sortedHeap_old (Nat.ne_of_lt hb) (by rw [size_push']; exact Nat.lt_succ_of_lt hb)]
  exact Heap.get?_push_of_some _ e
end
theorem perm_lift {α β : Type} (f : α → β) {vs us : List β} (h : vs.Perm us) : ∀ L : List α, us = L.map f → ∃ L1 : List α, vs = L1.map f ∧ L1.Perm L := by
  induction h with
  | nil => intro L e; exact ⟨L, e, List.Perm.refl _⟩
  | cons x _ ih =>
    intro L e
    cases L with
    | nil => exact nomatch e
    | cons y L =>
      obtain ⟨e1, e2⟩ := List.cons.inj e
      obtain ⟨L1, q1, q2⟩ := ih L e2
      exact ⟨y :: L1, by rw [List.map_cons, q1, e1], q2.cons y⟩
  | swap x y l =>
    intro L e
    match L, e with
    | a :: b :: L, e =>
      obtain ⟨e1, e2⟩ := List.cons.inj e
      obtain ⟨e3, e4⟩ := List.cons.inj e2
      exact ⟨b :: a :: L, by rw [List.map_cons, List.map_cons, e1, e3, e4], List.Perm.swap a b L⟩
  | trans _ _ ih1 ih2 =>
    intro L e
    obtain ⟨L2, q1, q2⟩ := ih2 L e
    obtain ⟨L1, r1, r2⟩ := ih1 L2 q1
    exact ⟨L1, r1, r2.trans q2⟩
end CpS
set_option Elab.async false
set_option linter.all false
set_option maxRecDepth 100000
set_option maxHeartbeats 4000000
/-! CpP: the rules sorted(set of rows), sorted(dict by rows), set(list of rows). -/
namespace CpS
open PySem PySem.Spec PyProof.Rows L2 CpA CpB
theorem kLt_tri : ∀ {x y : Key}, shp [x] = shp [y] → kLt x y = false → kLt y x = false → x = y
  | .inl i, .inl j, _, h1, h2 => by
    have a := of_decide_eq_false h1
    have b := of_decide_eq_false h2
    have e : i = j := by omega
    rw [e]
  | .inr x, .inr y, _, h1, h2 => by
    have a : y.cps.toList ≤ x.cps.toList := List.not_lt.mp (of_decide_eq_false h1)
    have b : x.cps.toList ≤ y.cps.toList := List.not_lt.mp (of_decide_eq_false h2)
    rw [PySem.W.str_of_cps (List.le_antisymm b a)]
  | .inl _, .inr _, h, _, _ => by simp [shp] at h
  | .inr _, .inl _, h, _, _ => by simp [shp] at h
theorem rLt_tri : ∀ {x y : List Key}, shp x = shp y → rLt x y = false → rLt y x = false → x = y
  | [], [], _, _, _ => rfl
  | [], y :: ys, h, _, _ => by simp [shp] at h
  | x :: xs, [], h, _, _ => by simp [shp] at h
  | x :: xs, y :: ys, h, h1, h2 => by
    have hs : shp xs = shp ys := by simpa [shp] using (List.cons.inj h).2
    have h0 : shp [x] = shp [y] := by
      show [_] = [_]
      exact congrArg (fun z => [z]) (List.cons.inj h).1
    by_cases e : x = y
    · subst e
      rw [rLt, if_pos rfl] at h1 h2
      rw [rLt_tri hs h1 h2]
    · rw [rLt, if_neg e] at h1
      rw [rLt, if_neg (Ne.symm e)] at h2
      exact absurd (kLt_tri h0 h1 h2) e
/-- two lists in order, of the same rows: the same -/
theorem sorted_one : ∀ {x y : List (List Key)} {sh : List Bool}, x.Perm y → (∀ k ∈ x, shp k = sh) → x.Pairwise (fun a b => rLt b a = false) → y.Pairwise (fun a b => rLt b a = false) → x = y := by
  intro x y sh hp hs hx hy
  refine List.Perm.eq_of_pairwise (le := fun a b => rLt b a = false) (fun a b ha hb h1 h2 => ?_) hx hy hp
  exact rLt_tri ((hs a ha).trans (hs b (hp.mem_iff.mpr hb)).symm) h2 h1
section
variable {X : Cx} {pins : List (Addr × Obj)} {σ : L2.St} {H : Hp} {s : Shared}
theorem vals_rows (L : Rw) : Vals (L.map fun p => V.ref p.1) (L.map fun p => Value.ref p.1) := by
  induction L with
  | nil => exact .nil
  | cons p L ih => exact .cons rfl ih
theorem laid_rows {h' : Heap} {tk : Nat} {p : Addr} {c : Nat} {Y : Rw} (I : Inv X pins σ H s) (k : ∀ b o, s.heap.get? b = some o → h'.get? b = some o) (hp : s.heap.objs.size ≤ p) (hY : Y.length ≤ sizeLine) (hc : h'.get? p = some (seqObj "list" (Y.map fun q => Value.ref q.1).toArray c)) :
    Inv X pins σ (upd H p (.lst (Y.map fun q => V.ref q.1))) { s with heap := h', toks := tk } :=
  I.laid (t' := tk) k hp (show ObjOk X.prog X.w _ _ _ (.lst (Y.map fun q => V.ref q.1)) from ⟨by rw [List.length_map]; exact hY, Y.map fun q => Value.ref q.1, c, vals_rows Y, hc⟩)
/-- sorted(a set of rows) -/
def rSortSet (K : PySem.W.Frag) (P : Program) (w : World) : List V → Hp → VK → Prop := fun vs H Q => ∃ (a : Addr) (L : Rw) (sh : List Bool), vs = [V.ref a] ∧ H a = some (SetRO P w a L) ∧ RowsT K H L ∧ (∀ p ∈ L, shp p.2 = sh) ∧ sh ≠ [] ∧
  ∀ (Y : Rw) (p : Addr), Y.Perm L → (Y.map (·.2)).Nodup → SrtR Y → H p = none → Q (.ref p) (upd H p (.lst (Y.map fun q => V.ref q.1)))
theorem cr_sortSet (hc : X.calm = true) (hu : X.A.units + 66 < cLine) : CallR X (.builtin "sorted") (rSortSet X.K X.prog X.w) := by
  intro pins s σ H vs us Q I r h
  obtain ⟨a, L, sh, rfl, ha, hL, hs, hne, q⟩ := h
  have R0 : Set0 X.prog X.w s.heap a L := (I.hok a _ ha).1
  obtain ⟨es, ep, t, T⟩ := R0.full fun p hp => rowAt_of I (hL p hp)
  obtain ⟨o, ho, hex, hd⟩ := T.obj
  rw [Vals.ref1 r]
  have few := T.few
  refine sorted_by (fun vs s1 => (∀ b o, s.heap.get? b = some o → s1.heap.get? b = some o) ∧ s.heap.objs.size ≤ s1.heap.objs.size ∧ s1.gens = s.gens ∧ s1.os = s.os ∧ vs.Perm (L.map fun p => Value.ref p.1))
    (fun {Q' E'} hq => collect_set (A := X.A.in1) (I.ok.hd hc) ⟨o, ho, hex.1, hd⟩ T.fits (by rw [T.len]; unfold scanBound; omega) T.ok.ris T.led fun s1 vs k1 z1 g1 o1 pm => hq s1 vs ⟨k1, z1, g1, o1, by
      have e : es.toList.map (·.2) = L.map fun p => Value.ref p.1 := by rw [T.ents, entries, List.map_map]; rfl
      rw [← e]; exact pm⟩) (fun s1 vs ⟨k1, z1, g1, o1, pm⟩ => ?_) hu
  obtain ⟨L1, rfl, pL⟩ := perm_lift (fun p : Addr × List Key => Value.ref p.1) pm L rfl
  have hn := I.hok.fresh z1
  refine ⟨L1, sh, rfl, fun p hp => row_keep (T.at_ p (pL.mem_iff.mp hp)) (k1 _), fun p hp => hs p (pL.mem_iff.mp hp), hne, by rw [pL.length_eq, sizeLine_eq]; omega, fun Y h' c pY sr k2 hY => ?_⟩
  have pYL := pY.trans pL
  have lY : Y.length ≤ sizeLine := by rw [pYL.length_eq, sizeLine_eq]; omega
  have J : Inv X pins σ (upd H s1.heap.objs.size (.lst (Y.map fun q => V.ref q.1))) { s with heap := h', gens := s1.gens, drawn := s1.drawn, toks := s1.toks } :=
    I.call (ch := []) (Un.laid (fun b o e => k2 b o (k1 b o e)) z1 hn) (I.hok.laid (fun b o e => k2 b o (k1 b o e)) z1 ⟨by rw [List.length_map]; exact lY, Y.map fun q => Value.ref q.1, c, vals_rows Y, hY⟩) (by rw [g1]; exact I.bare) (fun _ z => nomatch z)
  have e : ({ s1 with heap := h' } : Shared) = { s with heap := h', gens := s1.gens, drawn := s1.drawn, toks := s1.toks } := by
    cases s1
    cases s
    cases o1
    rfl
  rw [e]
  exact ⟨.ref _, _, J, rfl, q Y _ pYL ((pYL.map (·.2)).nodup_iff.mpr T.once) sr hn⟩
/-- sorted(a dict by rows) -/
def rSortDT : List V → Hp → VK → Prop := fun vs H Q => ∃ (a : Addr) (kvs : List (List Key × V)) (sh : List Bool), vs = [V.ref a] ∧ Rd H a (.dT kvs) ∧ (∀ p ∈ kvs, shp p.1 = sh) ∧ sh ≠ [] ∧
  ∀ (Y : Rw) (p : Addr), (Y.map (·.2)).Perm (kvs.map (·.1)) → (∀ q ∈ Y, H q.1 = some (.tup (q.2.map kV))) → SrtR Y → H p = none → Q (.ref p) (upd H p (.lst (Y.map fun q => V.ref q.1)))
theorem cr_sortDT (hc : X.calm = true) (hu : X.A.units + 66 < cLine) : CallR X (.builtin "sorted") rSortDT := by
  intro pins s σ H vs us Q I r h
  obtain ⟨d, kvs, sh, rfl, hd, hs, hne, q⟩ := h
  rw [Vals.ref1 r]
  obtain ⟨z, lo, ks, pr, o, es, ep, ho, hx, hdt, he, hn⟩ := (show ObjOk X.prog X.w H s.heap d (.dT kvs) from hd.ok I.hok)
  have l1 : es.size = ks.length := size_of_entries he
  have l2 : kvs.length = ks.length := Paired.length pr
  have pairs : kvs.map (·.1) = ks.map (·.1) ∧ ∀ x ∈ ks, (∃ v, (x.1, v) ∈ kvs) ∧ H x.2.1 = some (.tup (x.1.map kV)) := by
    clear q hs hd l1 l2 z hn he
    induction pr with
    | nil => exact ⟨rfl, fun x hx => nomatch hx⟩
    | @cons a b la lb hab t ih =>
      obtain ⟨i1, i2⟩ := ih
      refine ⟨by rw [List.map_cons, List.map_cons, hab.1, i1], fun x hx => ?_⟩
      rcases List.mem_cons.mp hx with e | hx
      · subst e
        exact ⟨⟨a.2, by rw [← hab.1]; exact List.mem_cons_self⟩, by rw [← hab.1]; exact hab.2.1⟩
      · obtain ⟨⟨v, hv⟩, h2⟩ := i2 x hx
        exact ⟨⟨v, List.mem_cons_of_mem _ hv⟩, h2⟩
  refine sorted_by (fun vs s1 => ∃ (h' : Heap) (tk : Nat), s1 = { s with heap := h', toks := tk } ∧ (∀ b o, s.heap.get? b = some o → h'.get? b = some o) ∧ vs = ks.map fun x => Value.ref x.2.1)
    (fun {Q' E'} hq => PySem.W.kdu_collect (A := X.A.in1) (kdl_raw lo hx hdt) (I.ok.hd hc) ho (by omega) fun h' tk acc kp it => hq _ _ ⟨h', tk, rfl, kp, ?_⟩) (fun s1 vs ⟨h', tk, es1, k1, ev⟩ => ?_) hu
  · have hl : acc.toList.length = ks.length := by rw [Array.length_toList, it.1]; exact l1
    apply List.ext_getElem?
    intro j
    rw [List.getElem?_map]
    cases hj : acc.toList[j]? with
    | none =>
      have h1 := List.getElem?_eq_none_iff.mp hj
      rw [List.getElem?_eq_none (by omega)]
      all_goals rfl
    | some v =>
      obtain ⟨en, hen, hv⟩ := it.2 j v (by rw [← Array.getElem?_toList]; exact hj)
      have qe := entry_at he j
      rw [hen] at qe
      cases hb : ks[j]? with
      | none => rw [hb] at qe; exact nomatch (show some en = none from qe)
      | some b =>
        rw [hb] at qe
        have e2 : en = entryOfKey (tupleKind (mixKind X.prog X.w)) b := Option.some.inj qe
        rw [hv, e2]
        all_goals rfl
  · subst es1
    subst ev
    have I1 : Inv X pins σ H { s with heap := h', toks := tk } := I.kept k1
    have rowsT : ∀ p ∈ (ks.map fun x => (x.2.1, x.1) : Rw), H p.1 = some (.tup (p.2.map kV)) := fun p hp => by
      obtain ⟨x, hx, rfl⟩ := List.mem_map.mp hp
      exact (pairs.2 x hx).2
    refine ⟨ks.map fun x => (x.2.1, x.1), sh, by rw [List.map_map]; rfl, fun p hp => rowAt_of I1 (SqT.of (rowsT p hp)), fun p hp => ?_, hne, by rw [List.length_map]; omega, fun Y h2 c pY sr k2 hY => ?_⟩
    · obtain ⟨x, hx, rfl⟩ := List.mem_map.mp hp
      obtain ⟨⟨v, hv⟩, _⟩ := pairs.2 x hx
      exact hs _ hv
    · have lY : Y.length ≤ sizeLine := by rw [pY.length_eq, List.length_map]; omega
      refine ⟨.ref _, _, laid_rows I1 k2 (Nat.le_refl _) lY hY, rfl, q Y _ ?_ (fun p hp => rowsT p (pY.mem_iff.mp hp)) sr (I1.hok.fresh (Nat.le_refl _))⟩
      have e := pY.map (·.2)
      rw [List.map_map] at e
      rw [pairs.1]
      exact e
end
end CpS
set_option Elab.async false
set_option linter.all false
set_option maxRecDepth 100000
set_option maxHeartbeats 4000000
/-! CpQ: set(list of rows). -/
namespace CpS
open PySem PySem.Spec PyProof.Rows L2 CpA CpB
theorem nodup_le {α : Type} [DecidableEq α] : ∀ (l D : List α), l.Nodup → (∀ x ∈ l, x ∈ D) → l.length ≤ D.length
  | [], _, _, _ => Nat.zero_le _
  | x :: l, D, hn, hs => by
    obtain ⟨h1, h2⟩ := List.nodup_cons.mp hn
    have hx : x ∈ D := hs x List.mem_cons_self
    have ih := nodup_le l (D.erase x) h2 fun y hy => (List.mem_erase_of_ne fun (e : y = x) => h1 (e ▸ hy)).2 (hs y (List.mem_cons_of_mem _ hy))
    have e := List.length_erase_of_mem hx
    have hp : 0 < D.length := List.length_pos_of_mem hx
    rw [List.length_cons]
    omega
/-- what the first i give -/
structure Has (ks : Rw) (i : Nat) (L : Rw) : Prop where
  sub : ∀ p ∈ L, p ∈ ks.take i
  all : ∀ p ∈ ks.take i, p.2 ∈ L.map (·.2)
theorem Has.next {ks L L' : Rw} {i : Nat} {x : Addr × List Key} (g : Has ks i L) (h : ks[i]? = some x) (c1 : x.2 ∈ L.map (·.2) → L' = L) (c2 : x.2 ∉ L.map (·.2) → L'.Perm (x :: L)) : Has ks (i + 1) L' := by
  have e := take_next h
  rcases Classical.em (x.2 ∈ L.map (·.2)) with c | c
  · rw [c1 c]
    refine ⟨fun p hp => by rw [e]; exact List.mem_append_left _ (g.sub p hp), fun p hp => ?_⟩
    rw [e] at hp
    rcases List.mem_append.mp hp with z | z
    · exact g.all p z
    · rw [List.mem_singleton.mp z]; exact c
  · have pm := c2 c
    refine ⟨fun p hp => ?_, fun p hp => ?_⟩
    · rw [e]
      rcases List.mem_cons.mp (pm.mem_iff.mp hp) with z | z
      · rw [z]; exact List.mem_append_right _ (List.mem_singleton.mpr rfl)
      · exact List.mem_append_left _ (g.sub p z)
    · rw [(pm.map (·.2)).mem_iff, List.map_cons]
      rw [e] at hp
      rcases List.mem_append.mp hp with z | z
      · exact List.mem_cons_of_mem _ (g.all p z)
      · rw [List.mem_singleton.mp z]; exact List.mem_cons_self
section
variable {P : Program} {w : World} {A : Around} {E : Value → Shared → Prop} {s : Shared}
theorem Tbl.keep {h h' : Heap} {a : Addr} {L : Rw} {es : Array (Int × Value)} {ep : Nat} {t : SetTable} (T : Tbl P w h a L es ep t) (ha : ∀ o, h.get? a = some o → h'.get? a = some o) (ht : ∀ p ∈ L, RowAt P w h' p.2 p.1) : Tbl P w h' a L es ep t :=
  let ⟨o, ho, r⟩ := T.obj
  ⟨⟨o, ha o ho, r⟩, T.ents, T.ok, T.once, ht, T.led, T.room, T.few⟩
abbrev TblAt (P : Program) (w : World) (h : Heap) (S : Addr) (ks : Rw) (i : Nat) : Prop := ∃ L es ep t, Tbl P w h S L es ep t ∧ Has ks i L
/-- the loop of set.update -/
theorem upd_rows {I : Addr} {fp wr : List Addr} {G : Array GenState → Array GenState → Prop} {n : Nat} {Pv : Nat → Value → Prop} {St : Nat → Shared → Prop} {R : Result → Shared → Prop}
    (W : WalksS P w A.in1 I fp wr G n Pv St) (S : Addr) (hSf : S ∉ fp) (ks : Rw) (hn : n = ks.length) (dom : List (List Key)) (hdom : dom.length < 63) (hin : ∀ p ∈ ks, p.2 ∈ dom) (hval : ∀ i v, Pv i v → ∃ p, ks[i]? = some p ∧ v = .ref p.1)
    (h0 : Heap) (hk : ∀ p ∈ ks, RowAt P w h0 p.2 p.1) (hS0 : h0.get? S = none) (hw0 : ∀ b ∈ wr, h0.get? b = none) (hu : A.in1.units < cLine) :
    ∀ (k i : Nat) (s : Shared), n - i = k → i ≤ n → St i s → (∀ b o, h0.get? b = some o → s.heap.get? b = some o) → TblAt P w s.heap S ks i →
      (∀ s', Moved (S :: wr) G s s' → TblAt P w s'.heap S ks n → (∀ b o, h0.get? b = some o → s'.heap.get? b = some o) → R (.ok (.ret .none)) s') →
      codeAny (model P w) A (.builtin "set.update.loop" ⟨[.ref S, .ref I], []⟩) R s := by
  have hSw : S ∉ wr := fun h => hSf (W.sub _ h)
  have more : ∀ b ∈ wr, b ∈ S :: wr := fun b hb => List.mem_cons_of_mem _ hb
  have kept : ∀ {s s' : Shared}, Moved wr G s s' → (∀ b o, h0.get? b = some o → s.heap.get? b = some o) → ∀ b o, h0.get? b = some o → s'.heap.get? b = some o := fun hm hkp b o e =>
    hm.heap b o (fun hb => by rw [hw0 b hb] at e; cases e) (hkp b o e)
  intro k
  induction k with
  | zero =>
    intro i s hk' hi hst hkp ⟨L, es, ep, t, T, g⟩ q
    obtain rfl : i = n := by omega
    refine codeAny_builtin F.entry_set_update_loop ?_
    rw [Around.under_plainId F.plain_set_update_loop _]
    show wpAny _ A.in1 (pyNext (.ref I) >>= _) _ _ s
    refine wpAny_bind (W.done s _ _ hst fun s' hm => ?_)
    have kp := kept hm hkp
    exact wpAny_pure (q s' (hm.mono more) ⟨L, es, ep, t, T.keep (fun o e => hm.heap S o hSw e) fun p hp => row_keep (hk p (List.mem_of_mem_take (g.sub p hp))) (kp _), g⟩ kp)
  | succ k ih =>
    intro i s hk' hi hst hkp ⟨L, es, ep, t, T, g⟩ q
    have hlt : i < n := by omega
    refine codeAny_builtin F.entry_set_update_loop ?_
    rw [Around.under_plainId F.plain_set_update_loop _]
    show wpAny _ A.in1 (pyNext (.ref I) >>= _) _ _ s
    refine wpAny_bind (W.item i s _ _ hlt hst fun v s' hP hst' hm => ?_)
    obtain ⟨p, hp, rfl⟩ := hval i v hP
    have kp := kept hm hkp
    have T' : Tbl P w s'.heap S L es ep t := T.keep (fun o e => hm.heap S o hSw e) fun r hr => row_keep (hk r (List.mem_of_mem_take (g.sub r hr))) (kp _)
    have hx : RowAt P w s'.heap p.2 p.1 := row_keep (hk p (List.mem_of_getElem? hp)) (kp _)
    have few : L.length + 1 < 64 := by
      have z := nodup_le (L.map (·.2)) dom T.once fun y hy => by
        obtain ⟨r, hr, rfl⟩ := List.mem_map.mp hy
        exact hin r (List.mem_of_mem_take (g.sub r hr))
      rw [List.length_map] at z
      omega
    show wpAny _ A.in1 (holding [Value.ref p.1] (setAdd S (.ref p.1)) >>= _) _ _ s'
    refine wpAny_bind (wpAny_holding ?_)
    unfold setAdd
    refine wpAny_holding (wpAny_bind (wpAny_pyHash_tuple hu hx ?_))
    refine put_row (s := { s' with toks := s'.toks + (p.2.length + 1) }) T' hx hu few fun b h' L' es' ep' t' sb T2 c1 c2 => ?_
    have kp2 : ∀ b o, h0.get? b = some o → h'.get? b = some o := fun b o e => (sb.2 b (fun z => by rw [z, hS0] at e; cases e)).trans (kp b o e)
    refine wpAny_pure ⟨plainId_quiet F.plain_set_update_loop _, ih (i + 1) _ (by omega) hlt (W.frame _ s' _ _ hst' (Nat.le_add_right _ _) fun b hb o e => ?_) kp2 ⟨L', es', ep', t', T2, g.next hp c1 c2⟩ fun s'' hm'' T'' kp'' => ?_⟩
    · rw [sb.2 b (fun h : b = S => hSf (by rw [← h]; exact hb))]; exact e
    · refine q s'' (Moved.trans W.gtrans ((hm.mono more).then_heap (Nat.le_add_right _ _) fun b o hb e => ?_) hm'') T'' kp''
      rw [sb.2 b (fun h : b = S => hb (by rw [h]; exact List.mem_cons_self))]; exact e
/-- the call set(x), by what its update does -/
theorem call_set_rows {l : Addr} {items : Array Value} {ks : Rw} {dom : List (List Key)} {Q : Value → Shared → Prop} (hh : A.handled = none) (hl : s.heap.IsList l items) (hit : items.toList = ks.map fun p => Value.ref p.1)
    (hk : ∀ p ∈ ks, RowAt P w s.heap p.2 p.1) (hdom : dom.length < 63) (hin : ∀ p ∈ ks, p.2 ∈ dom) (hu : A.units + 3 < cLine)
    (q : ∀ (h' : Heap) (tk : Nat), TblAt P w h' s.heap.objs.size ks ks.length → (∀ b o, s.heap.get? b = some o → h'.get? b = some o) → Q (.ref s.heap.objs.size) { s with heap := h', toks := tk }) :
    wpAny (model P w) A (call (.type "set") [.ref l]) Q E s := by
  have hisz : items.size = ks.length := by
    have z := congrArg List.length hit
    simpa using z
  obtain ⟨c, tl, hmro⟩ := F.called_set.mro
  have hmade := F.called_set.made
  have hsub := F.called_set.sub
  refine wpAny_call (codeAny_of_tree ?_)
  show wpAny _ _ (callAny (.type "set") _) _ _ _
  refine wpAny_pure ⟨Code.quiet_builtin _ (by decide +kernel), codeAny_builtin F.entry_type_call ?_⟩
  rw [Around.under_plain (weight_type_call_type "set" [.ref l] []) rfl]
  have h1 := F.called_set.notType
  have h2 := F.called_set.canCreate
  have hct := F.typeCall_set_1 (.ref l)
  repeat (any_goals (first | assumption | wp_step))
  refine codeAny_mono (code_set_led1 (.ref l) (E := E) (Q₁ := fun obj s₁ => obj = .ref s.heap.objs.size ∧ s₁ = { s with heap := s.heap.push (newSetObj w) }) ⟨rfl, rfl⟩) fun r s₁ hr => ?_
  match r, hr with
  | .error e, hr => exact hr
  | .ok (.ret obj), hr =>
    obtain ⟨rfl, rfl⟩ := hr
    have hS : (s.heap.push (newSetObj w)).get? s.heap.objs.size = some (newSetObj w) := Heap.get?_push_size _ rfl
    have hT : Shared.TypeIs { s with heap := s.heap.push (newSetObj w) } (.ref s.heap.objs.size) "set" := ⟨_, hS, rfl⟩
    have hli := F.called_set.init.lookup
    have hbi := F.called_set.init.bind (.ref s.heap.objs.size)
    repeat (any_goals (first | assumption | wp_step))
    refine codeAny_mono (codeAny_call_builtin (R := wants (fun r s₂ => r = .none ∧ ∃ h' tk, s₂ = { s with heap := h', toks := tk } ∧ TblAt P w h' s.heap.objs.size ks ks.length ∧
        (∀ b o, s.heap.get? b = some o → h'.get? b = some o)) E) F.called_set.init.plain F.entry_set_init (check_set_init_1 hT ?_)) fun r₂ s₂ hr₂ => ?_
    · have hlS : l < s.heap.objs.size := let ⟨_, a, _⟩ := hl; Heap.lt_size a
      have hl1 : (s.heap.push (newSetObj w)).IsList l items := hl.push _
      obtain ⟨⟨oc, odi, oda, osl⟩, hol', hcl, nl, hdl⟩ := id hl1
      obtain rfl : oc = .type "list" := hcl
      obtain rfl : oda = .seq items nl := hdl
      have hsls := F.sub_list_set
      have hslf := F.sub_list_frozenset
      have hne : (Value.type "list" == Value.type "dict") = false := by decide
      unfold Builtin.«set.__init__» noKeywords Builtin.Frozenset.updateFrom
      generalize hPI : pyIter = PI
      wp_walk
      subst hPI
      refine wpAny_pyIter_list hl1 ?_
      refine wpAny_bind (wpAny_runValue ?_)
      have hz1 : (s.heap.push (newSetObj w)).objs.size = s.heap.objs.size + 1 := Heap.size_push ..
      have hneI : l ≠ (s.heap.push (newSetObj w)).objs.size := by rw [hz1]; exact Nat.ne_of_lt (Nat.lt_succ_of_lt hlS)
      have none_of : ∀ b, s.heap.objs.size ≤ b → s.heap.get? b = none := fun b hb => by
        cases z : s.heap.get? b with
        | none => rfl
        | some o => exact absurd (Nat.lt_of_lt_of_le (Heap.lt_size z) hb) (Nat.lt_irrefl _)
      refine upd_rows ((Walks.list (by simp [hh]) _ l hneI items).toS) s.heap.objs.size ?_ ks hisz dom hdom hin (fun i v hv => ?_) s.heap hk (none_of _ (Nat.le_refl _)) (fun b hb => none_of b (by rw [List.mem_singleton.mp hb, hz1]; exact Nat.le_succ _)) hu (items.size - 0) 0 _ (by omega) (Nat.zero_le _)
        ⟨⟨_, Heap.get?_push_size _ rfl, rfl, rfl⟩, (hl1.push _)⟩ (fun b o e => Heap.get?_push_of_some _ (Heap.get?_push_of_some _ e)) ?_ ?_
      · rw [hz1]
        simp only [List.mem_cons, List.not_mem_nil, or_false, not_or]
        exact ⟨Nat.ne_of_lt (Nat.lt_succ_self _), Nat.ne_of_gt hlS⟩
      · have z : items.toList[i]? = some v := by rw [Array.getElem?_toList]; exact hv
        rw [hit, List.getElem?_map] at z
        obtain ⟨p, hp, e⟩ := Option.map_eq_some_iff.mp z
        exact ⟨p, hp, e.symm⟩
      · exact ⟨[], #[], 0, _, tbl_fresh (Heap.get?_push_of_some _ hS), ⟨fun p hp => (by cases hp), fun p hp => (by simp at hp)⟩⟩
      · intro s' hm T' kp
        obtain ⟨h', g2, d', tk', os'⟩ := s'
        obtain rfl : g2 = s.gens := hm.gens
        obtain rfl : d' = s.drawn := hm.drawn
        obtain rfl : os' = s.os := hm.os
        show wpAny _ _ _ _ _ _
        refine wpAny_pure ?_
        show wpAny _ _ (ret Value.none) _ _ _
        rw [hisz] at T'
        exact wpAny_pure ⟨rfl, h', tk', rfl, T', kp⟩
    · match r₂, hr₂ with
      | .error e, hr₂ => exact hr₂
      | .ok (.ret r), hr₂ =>
        obtain ⟨rfl, h', tk, rfl, T', k'⟩ := hr₂
        repeat (any_goals (first | assumption | wp_step))
        exact q _ _ T' k'
end
section
variable {X : Cx}
/-- set(a list of rows), its rows among few -/
def rSetOfR (K : PySem.W.Frag) (P : Program) (w : World) : List V → Hp → VK → Prop := fun xs H Q => ∃ (l : Addr) (ks : Rw) (dom : List (List Key)), xs = [V.ref l] ∧ SqL K H l (ks.map fun p => V.ref p.1) ∧ RowsT K H ks ∧ dom.length < 63 ∧ (∀ p ∈ ks, p.2 ∈ dom) ∧
  ∀ a L, H a = none → (∀ p ∈ L, p ∈ ks) → (∀ p ∈ ks, p.2 ∈ L.map (·.2)) → Q (.ref a) (upd H a (SetRO P w a L))
theorem cr_setOfR (hc : X.calm = true) (hu : X.A.units + 64 < cLine) : CallR X (.type "set") (rSetOfR X.K X.prog X.w) := by
  intro pins s σ H xs us Q I r h
  obtain ⟨l, ks, dom, rfl, hl, hk, hd, hin, q⟩ := h
  rw [Vals.ref1 r]
  obtain ⟨its, rv, pl, hz⟩ := I.list hl
  have hn : H s.heap.objs.size = none := I.hok.fresh (Nat.le_refl _)
  have hv : ∀ {L : Rw} {us : List Value}, Vals (L.map fun p => V.ref p.1) us → us = L.map fun p => Value.ref p.1 := by
    intro L
    induction L with
    | nil => intro us z; cases z; rfl
    | cons p L ih =>
      intro us z
      cases z with
      | cons r t => cases r; rw [ih t]; rfl
  refine call_set_rows (P := X.prog) (w := X.w) (ks := ks) (dom := dom) (I.ok.hd hc) pl.isList (by simpa using hv rv) (fun p hp => rowAt_of I (hk p hp)) hd hin (by omega) fun h' tk ⟨L, es, ep, t, T, g⟩ k => ?_
  exact ⟨.ref s.heap.objs.size, upd H s.heap.objs.size (SetRO X.prog X.w s.heap.objs.size L), I.laid (t' := tk) k (Nat.le_refl _) (setRO_new T.s0), rfl, q _ L hn (fun p hp => List.mem_of_mem_take (g.sub p hp)) fun p hp => g.all p (by rw [List.take_length]; exact hp)⟩
end
end CpS
set_option Elab.async false
set_option linter.all false
set_option maxRecDepth 100000
set_option maxHeartbeats 4000000
/-! CpD: one stretch of a generator's run, from its waking to its next yield or its end; what stands at the yield is handed on whole. -/
namespace CpB
open PySem PySem.Spec PyProof.Rows L2 CpA
open Sem (wp)

/-- what is wanted at a yield: the value, the state, the code, what follows, the frames -/
abbrev AtYield := Value → Shared → Code → (Resume → Sem PySem.Fin) → List Frame → Prop
def Wants (R : Result → Shared → Prop) (Y : AtYield) (e : End) (s' : Shared) : Prop := match e with
  | .ret r => R r s'
  | .susp v g l k c p fs => (End.susp v g l k c p fs).quiet = true ∧ Y v s' c k fs
def Seg1 (M : Model) (A : Around) (R : Result → Shared → Prop) (Y : AtYield) (c : Code) (t : Sem PySem.Fin) (fs : List Frame) (s : Shared) : Prop :=
  ∀ Γ p, Γ.code = c → Γ.Woken A → ∃ e s', Runs M Γ p t fs s e s' ∧ Wants R Y e s'
section
variable {M : Model} {A : Around} {R : Result → Shared → Prop} {Y : AtYield} {c : Code} {fs : List Frame} {s : Shared} {env : Env}
theorem sg_wrap {α : Type} {m : Sem α} {K : α → Sem PySem.Fin} {J : Value → Sem PySem.Fin} {gd lv} (h : wpAny M (A.over c fs) m (fun a z => Seg1 M A R Y c (K a) fs z) (fun x z => Seg1 M A R Y c (J x) fs z) s) : Seg1 M A R Y c (m.wrap K J gd lv) fs s := by
  rintro Γ p rfl hΓ
  exact runs_wrap_of_wp K J gd lv m (h (Γ.over fs) p (hΓ.over fs)) (fun a p' z q => q Γ p' rfl hΓ) fun x p' z q => q Γ p' rfl hΓ
theorem sg_bind {α β : Type} {m : Sem α} {f : α → Sem β} {K : β → Sem PySem.Fin} {J : Value → Sem PySem.Fin} {gd lv} (h : wpAny M (A.over c fs) m (fun a z => Seg1 M A R Y c ((f a).wrap K J gd lv) fs z) (fun x z => Seg1 M A R Y c (J x) fs z) s) : Seg1 M A R Y c ((m >>= f).wrap K J gd lv) fs s := by
  rw [Sem.bind_eq_wrap', Sem.wrap_wrap]
  exact sg_wrap h
theorem sg_at {p' : Pos} {k : Unit → Sem PySem.Fin} (h : Seg1 M A R Y c (k ()) fs s) : Seg1 M A R Y c (.at p' k) fs s := sg_wrap (m := standAt p') (K := k) (J := .raise) (gd := id) (lv := id) (wpAny_standAt h)
theorem sg_point {l : List Value} {k : Unit → Sem PySem.Fin} (h : Seg1 M A R Y c (k ()) fs s) : Seg1 M A R Y c (.point l k) fs s := sg_wrap (m := point) (K := k) (J := .raise) (gd := id) (lv := fun _ => l) (wpAny_point h)
theorem sg_call {c' : Code} {h g l} {k : Result → Sem PySem.Fin} (hc : ∀ p, Seg1 M A R Y c' (M.den c') (.ret k h g l c p [] :: fs) s) : Seg1 M A R Y c (.call c' h g l k) fs s := by
  rintro Γ p rfl hΓ
  obtain ⟨e, z, hr, he⟩ := hc p (Γ.goto c') p rfl (hΓ.goto c')
  exact ⟨e, z, runs_call_seg hr, he⟩
theorem sg_leaf {k h g l c₁ p₁ kp} (r : Result) (hk : Seg1 M A R Y c₁ (k r) fs s) : Seg1 M A R Y c (leafOf r) (.ret k h g l c₁ p₁ kp :: fs) s := by
  rintro Γ p rfl hΓ
  obtain ⟨e, z, hr, he⟩ := hk (Γ.goto c₁) p₁ rfl (hΓ.goto c₁)
  exact ⟨e, z, Runs.pop r hr, he⟩
theorem sg_again {c' : Code} (hq : c'.quiet = true) (hc : Seg1 M A R Y c' (M.den c') fs s) : Seg1 M A R Y c (.pure (.again c')) fs s := by
  rintro Γ p rfl hΓ
  obtain ⟨e, z, hr, he⟩ := hc (Γ.goto c') p rfl (hΓ.goto c')
  exact ⟨e, z, Runs.head (c₁ := c') (fun _ _ x => .again hq x) hr, he⟩
theorem sg_end (r : Result) (h : R r s) : Seg1 M A R Y c (leafOf r) [] s := by
  rintro Γ p rfl _
  exact ⟨.ret r, s, Runs.leaf r, h⟩
theorem sg_yield {v g l} {k : Resume → Sem PySem.Fin} (hfs : splitAtGen fs = none) (hg : g = false) (hfg : fs.any Frame.guarded = false) (h : Y v s c k fs) : Seg1 M A R Y c (.yield v g l k) fs s := by
  rintro Γ p rfl _
  exact ⟨_, s, Runs.yield' fs hfs, And.intro (by simp [End.quiet, hg, hfg]) h⟩
theorem sg_nil {K : Flow → Sem PySem.Fin} {J : Value → Sem PySem.Fin} {gd lv} (h : Seg1 M A R Y c (K .next) fs s) : Seg1 M A R Y c ((execs [] env).wrap K J gd lv) fs s := h
theorem sg_cons {st : Stmt} {rest : List Stmt} {K : Flow → Sem PySem.Fin} {J : Value → Sem PySem.Fin} {gd lv} (h : Seg1 M A R Y c ((exec st env).wrap (fun f => match f with | .next => (execs rest env).wrap K J gd lv | f => K f) J gd lv) fs s) :
    Seg1 M A R Y c ((execs (st :: rest) env).wrap K J gd lv) fs s := by rw [execs_cons_wrap]; exact h
/-- yield e: behind it the value sent is dropped -/
def afterYield (env : Env) (e : Expr) (yp pos : Pos) (K : Flow → Sem PySem.Fin) (J : Value → Sem PySem.Fin) (gd : Bool → Bool) (lv : List Value → List Value) (v : Value) : Sem PySem.Fin := (dropValue (.Yield (some e) yp) pos v).wrap K J gd lv
theorem sg_Yield {e : Expr} {yp pos : Pos} {K : Flow → Sem PySem.Fin} {J : Value → Sem PySem.Fin} {gd : Bool → Bool} {lv : List Value → List Value} (hfs : splitAtGen fs = none) (hgd : gd false = false) (hfg : fs.any Frame.guarded = false)
    (h : wpAny M (A.over c fs) (eval e env) (fun v z => ∀ k : Resume → Sem PySem.Fin, (∀ A' R' Y' z', Seg1 M A' R' Y' c (K .next) fs z' → Seg1 M A' R' Y' c (k (.send .none)) fs z') → Y v z c k fs) (fun _ _ => False) s)
    (hco : env.scope.isCoroutine = false := by rfl) (hi : interactive env = false := by rfl) : Seg1 M A R Y c ((exec (.Expr (.Yield (some e) yp) pos) env).wrap K J gd lv) fs s := by
  rw [exec_Expr env _ pos hi rfl]
  show Seg1 M A R Y c (.at pos fun _ => ((eval e env >>= fun v => (standAt yp >>= fun _ => yieldOut env v)) >>= fun x => dropValue (.Yield (some e) yp) pos x).wrap K J gd lv) fs s
  have hy : ∀ v, yieldOut env v = yieldValue v := fun v => by simp only [yieldOut, hco, Bool.false_eq_true, if_false]
  simp only [hy]
  refine sg_at ?_
  rw [Sem.bind_eq_wrap', Sem.bind_eq_wrap', Sem.wrap_wrap, Sem.wrap_wrap]
  refine sg_wrap (wpAny_mono h (fun v z q => ?_) fun _ _ z => z.elim)
  refine sg_at (sg_yield hfs hgd hfg (q _ fun A' R' Y' z' hz => ?_))
  exact hz
end
section
variable {prog : Program} {w : World} {A : Around} {R : Result → Shared → Prop} {Y : AtYield} {fs : List Frame} {s : Shared} {env : Env}
/-- a for within a generator: its head -/
theorem sg_For {c : Code} {K : Flow → Sem PySem.Fin} {J : Value → Sem PySem.Fin} {gd : Bool → Bool} {lv : List Value → List Value} {target iter : Expr} {body : List Stmt} {pos : Pos} (hs : ∀ x, foldedSetIterable iter env x = pure x)
    (h : wpAny (model prog w) (A.over c fs) (eval iter env) (fun x s1 => wpAny (model prog w) (A.over c fs) (pyIter x) (fun it s2 => ∀ p, Seg1 (model prog w) A R Y (.forLoop target it body [] env) ((model prog w).den (.forLoop target it body [] env))
      (.ret (fun r => ((match r with | .ok f => (.pure f : Sem Flow) | .error e => .raise e).onRaise (cameBack env)).wrap K J gd lv) none (gd false) (lv []) c p [] :: fs) s2) (fun _ _ => False) s1) (fun _ _ => False) s) :
    Seg1 (model prog w) A R Y c ((exec (.For target iter body [] pos) env).wrap K J gd lv) fs s := by
  rw [exec_For]
  refine sg_bind (wpAny_standAt ?_)
  refine sg_bind (wpAny_mono h (fun x s1 h1 => ?_) fun _ _ z => z.elim)
  rw [hs x]
  refine sg_bind (wpAny_pure ?_)
  refine sg_bind (wpAny_standAt ?_)
  refine sg_bind (wpAny_holding (wpAny_mono h1 (fun it s2 h2 => ?_) fun _ _ z => z.elim))
  exact sg_call h2
/-- what follows a turn's body -/
def turnK (c : Code) : Flow → Sem PySem.Fin
  | .next | .cont => .pure (.again c)
  | .brk => .pure (.done .next)
  | .ret v => .pure (.done (.ret v))
def turnJ (env : Env) (e : Value) : Sem PySem.Fin := (do noteFrame e env; theTreesLotGoes e : Sem Unit).wrap (fun _ => .raise e) .raise id id
theorem sg_turn {target : Expr} {it : Value} {body : List Stmt}
    (h : wpAny (model prog w) (A.over (.forLoop target it body [] env) fs) (pyNext it) (fun r s1 => match r with
      | none => Seg1 (model prog w) A R Y (.block [] env) (leafOf (.ok .next)) fs s1
      | some v => wpAny (model prog w) (A.over (.forLoop target it body [] env) fs) (letOwnedTupleGo target it v) (fun _ s2 => wpAny (model prog w) (A.over (.forLoop target it body [] env) fs) (assign target env v) (fun _ s3 =>
          Seg1 (model prog w) A R Y (.forLoop target it body [] env) ((execs body env).wrap (turnK (.forLoop target it body [] env)) (turnJ env) id id) fs s3) (fun _ _ => False) s2) (fun _ _ => False) s1) (fun _ _ => False) s) :
    Seg1 (model prog w) A R Y (.forLoop target it body [] env) ((model prog w).den (.forLoop target it body [] env)) fs s := by
  show Seg1 _ A R Y _ ((forTurn target it body [] env).onRaise (fun x => do noteFrame x env; theTreesLotGoes x)) fs s
  unfold forTurn
  rw [Sem.onRaise_eq_wrap]
  refine sg_bind (wpAny_standAt ?_)
  refine sg_bind (wpAny_onRaise (wpAny_mono h (fun r s1 h1 => ?_) fun _ _ z => z.elim))
  cases r with
  | none => exact sg_again rfl h1
  | some v =>
    refine sg_bind (wpAny_mono h1 (fun _ s2 h2 => ?_) fun _ _ z => z.elim)
    refine sg_bind (wpAny_mono h2 (fun _ s3 h3 => ?_) fun _ _ z => z.elim)
    rw [Sem.bind_eq_wrap', Sem.wrap_wrap]
    rw [Sem.wrap_congr (execs body env) _ _ (K' := turnK (.forLoop target it body [] env)) (H' := turnJ env) (fun f => by cases f <;> rfl)
      (fun e => by first | exact Sem.bind_eq_wrap _ _ | (show (do noteFrame e env; theTreesLotGoes e : Sem Unit).bind (fun _ => .raise e) = _; rw [Sem.bind_eq_wrap]; rfl))]
    exact h3
def funcK (f : Flow) : Sem PySem.Fin := .pure (.done (.ret (match f with | .ret v => v | _ => .none)))
def funcJ (env : Env) (e : Value) : Sem PySem.Fin := (leaving env e).wrap (fun _ => .raise e) .raise id id
theorem sg_func {body : List Stmt} (h : Seg1 (model prog w) A R Y (.func body env) ((execs body env).wrap funcK (funcJ env) id id) fs s) : Seg1 (model prog w) A R Y (.func body env) ((model prog w).den (.func body env)) fs s := by
  show Seg1 _ A R Y _ (.point [] fun _ => ((execs body env).onRaise (leaving env)) >>= _) fs s
  refine sg_point ?_
  rw [Sem.onRaise_eq_wrap, Sem.bind_eq_wrap', Sem.wrap_wrap]
  rw [Sem.wrap_congr (execs body env) _ _ (K' := funcK) (H' := funcJ env) (fun f => by cases f <;> rfl) (fun e => by rw [Sem.bind_eq_wrap, Sem.wrap_wrap]; rfl)]
  exact h
end
end CpB
set_option Elab.async false
set_option linter.all false
set_option maxRecDepth 100000
set_option maxHeartbeats 4000000
/-! CpE: next(g) by one stretch. -/
namespace CpB
open PySem PySem.Spec PyProof.Rows L2 CpA
open Sem (wp)
def Goes1 (M : Model) (A : Around) (R : Result → Shared → Prop) (Y : AtYield) (gs : GenState) (s : Shared) : Prop := match gs with
  | .fresh c => Seg1 M A R Y c (M.den c) [] s
  | .suspended k _ c _ fs _ => Seg1 M A R Y c (k (.send .none)) fs s
  | _ => False
theorem wpAny_wake1 {M : Model} {A : Around} {R : Result → Shared → Prop} {Y : AtYield} {E : Value → Shared → Prop} {s : Shared} {g : Nat} {gs : GenState} {l : List Value} {α : Type} {kk : GenResult → Sem α} {Q : α → Shared → Prop}
    (hg : s.gens[g]? = some gs) (hgo : Goes1 M A R Y gs (s.setGen g .running)) (hR : ∀ r z, R r z → wpAny M A (kk (End.ret r).result) Q E (z.setGen g .finished))
    (hY : ∀ v z c k fs l p, Y v z c k fs → wpAny M A (kk (.yielded v)) Q E (z.setGen g (.suspended k l c p fs false))) : wpAny M A (.resume g (.send .none) l kk) Q E s := by
  intro Γ p hΓ
  rw [Sem.wp_resume]
  have fin : ∀ e z, Wants R Y e z → wp M Γ (kk e.result) (fun a _ s' => Q a s') (fun e _ s' => E e s') p (z.setGen g e.genState) := by
    intro e z he
    cases e with
    | ret r => exact hR r z he Γ p hΓ
    | susp v g₀ l₀ k₀ c₀ p₀ fs₀ =>
      obtain ⟨q, he⟩ := he
      have q' : (g₀ || fs₀.any Frame.guarded) = false := by
        have : (!(g₀ || fs₀.any Frame.guarded)) = true := q
        simpa using this
      show wp M Γ (kk (.yielded v)) _ _ p (z.setGen g (.suspended k₀ l₀ c₀ p₀ fs₀ (g₀ || fs₀.any Frame.guarded)))
      rw [q']
      exact hY v z c₀ k₀ fs₀ l₀ p₀ he Γ p hΓ
  have hqt : ∀ e z, Wants R Y e z → e.quiet = true := by
    intro e z he
    cases e with
    | ret r => rfl
    | susp v g₀ l₀ k₀ c₀ p₀ fs₀ => exact he.1
  cases gs with
  | fresh c =>
    obtain ⟨e, z, hr, he⟩ := hgo (Γ.wake c p) p rfl (hΓ.wake c p)
    exact ⟨_, _, by unfold Wakes; rw [hg]; exact ⟨e, z, hr, hqt e z he, rfl, rfl⟩, fin e z he⟩
  | suspended k₀ l₀ c₀ p₀ fs₀ cl =>
    obtain ⟨e, z, hr, he⟩ := hgo (Γ.wake c₀ p) p₀ rfl (hΓ.wake c₀ p)
    exact ⟨_, _, by unfold Wakes; rw [hg]; exact ⟨e, z, hr, hqt e z he, rfl, rfl⟩, fin e z he⟩
  | running => exact hgo.elim
  | finished => exact hgo.elim
theorem next_gen1 {P : Program} {w : World} {A : Around} {E : Value → Shared → Prop} {s : Shared} {a : Addr} {g : Nat} {gs : GenState} {F : Shared → Prop} {Y : AtYield} {Q : Option Value → Shared → Prop} (hh : A.handled = none)
    (hl : s.heap.NoLimit) (hroom : A.depth < recursionLimit) (hg : s.heap.IsGen a g) (hgs : s.gens[g]? = some gs) (hgo : Goes1 (model P w) A.in1 (fun r z => (r = .ok (.ret .none) ∨ r = .ok .next) ∧ F z) Y gs (s.setGen g .running))
    (hY : ∀ v z c k fs l p, Y v z c k fs → Q (some v) (z.setGen g (.suspended k l c p fs false)))
    (hP : ∀ z, F z → ∀ h', (∀ b o, z.heap.get? b = some o → h'.get? b = some o) → Q none { z.setGen g .finished with heap := h' }) : wpAny (model P w) A (pyNext (.ref a)) Q E s := by
  unfold pyNext
  refine wpAny_bind (wpAny_attempt (wpAny_callSpecial?_slot (name := Str.ofString "__next__") hg.typeIs slot_gen_next (wpAny_call_entry slot_gen_next hg.typeIs entry_gen_next ?_ (args_gen_next _))))
  show wpAny _ A.in1 (Builtin.Generator.genWake (.ref a) (.send .none)) _ _ s
  unfold Builtin.Generator.genWake
  refine wpAny_bind (wpAny_holding (wpAny_genNumber hg (wpAny_bind (wpAny_genState hgs ?_))))
  cases gs with
  | running => exact hgo.elim
  | finished => exact hgo.elim
  | _ =>
    refine wpAny_bind (wpAny_roomToWake hl hroom ?_)
    show wpAny _ A.in1 (.resume g (.send .none) [] _) _ _ s
    refine wpAny_wake1 hgs hgo (fun x z hx => ?_) (fun v z c k fs l p hv => wpAny_pure ⟨v, rfl, wpAny_pure (hY v z c k fs l p hv)⟩)
    obtain ⟨hr, hp⟩ := hx
    have hres : End.result (.ret x) = .returned .none := by rcases hr with hr | hr <;> rw [hr] <;> rfl
    rw [hres]
    show wpAny _ A.in1 (newExc (.type "StopIteration") [] >>= _) _ _ _
    refine wpAny_bind ?_
    simp only [newExc, newTuple]
    refine wpAny_bind (wpAny_newObj_type ?_ (by size_fits))
    refine wpAny_bind (m := firstArgMember _ _) (wpAny_of_eq (a := Value.none) (by first | rfl | (simp only [firstArgMember]; rfl)) ?_)
    refine wpAny_newObj_type ?_ (by size_fits)
    simp only [raiseNew]
    refine wpAny_bind (wpAny_bind (wpAny_handled ?_))
    first | rw [show A.in1.handled = none from hh] | rw [hh]
    refine wpAny_throw ?_
    refine wpAny_bind (wpAny_isInstance (T := "StopIteration") (b := true) ⟨_, Heap.get?_push_size _ rfl, rfl⟩ isSubtype_stop ?_)
    exact wpAny_pure (hP z hp _ fun b o hb => Heap.get?_push_of_some _ (Heap.get?_push_of_some _ hb))

/-! ### ranges, by the raw rules -/
section
variable {P : Program} {w : World} {A : Around} {E : Value → Shared → Prop} {s : Shared} {env : Env}
theorem raw_local {x : Str} {pos : Pos} {m : Str → Option Value} {v : Value} {Q : Value → Shared → Prop} (hk : env.scope.kind = .function) (hl : env.kindOf x = some .local) (hn : s.heap.Ns env.locals m) (hv : m x = some v) (h : Q v s) (hd : (x == ("__debug__" : Str)) = false := by decide) :
    wpAny (model P w) A (eval (.Name x pos) env) Q E s := wpAny_Name (wpAny_loadName_local hk hl hn hv h) hd
/-- range(n), n a local's value, and its iterator -/
theorem raw_range {x : Str} {p2 p3 p4 : Pos} {m mg mb : Str → Option Value} {n : Int} {t : Tok} {Q : Value → Shared → Prop} (hk : env.scope.kind = .function) (hl : env.kindOf x = some .local) (hr : env.kindOf "range" = some .globalImplicit) (hn : s.heap.Ns env.locals m) (hv : m x = some (.int n t))
    (hg : s.heap.Ns env.globals mg) (hm : mg "range" = none) (hb : s.heap.Ns env.builtins mb) (hmb : mb "range" = some (.type "range")) (h0 : 0 ≤ n) (h1 : n < 2 ^ 62)
    (h : ∀ h' tk it, s.heap.objs.size ≤ it → (∀ b o, s.heap.get? b = some o → h'.get? b = some o) → IsRangeIter h' it 0 n 1 → it < h'.objs.size → Q (.ref it) { s with heap := h', toks := tk })
    (hd : (x == ("__debug__" : Str)) = false := by decide) :
    wpAny (model P w) A (eval (.Call (.Name "range" p2) [.Name x p3] [] p4) env) (fun v s1 => wpAny (model P w) A (pyIter v) Q E s1) E s := by
  refine Call_ (Calls.Name_function_global hk hr (Calls.loadGlobal_builtin hg hm hb hmb (PyProof.Rows.callWith_type1 ?_ rfl rfl)) (by decide))
  show wpAny _ _ (spliced [(false, eval (.Name x p3) env)]) _ _ s
  refine Calls.spliced_cons (raw_local hk hl hn hv (Calls.spliced_nil ?_) hd)
  refine call_range_1 ?_
  refine wpAny_pyIter_range (IsRange.new ..) (small_one (by decide) (by decide) (by omega) h1) ?_
  refine h _ _ _ ?_ (fun b o e => Heap.get?_push_of_some _ (Heap.get?_push_of_some _ e)) ?_ ?_
  · show s.heap.objs.size ≤ (s.heap.push _).objs.size
    rw [Heap.size_push]
    exact Nat.le_succ _
  · have e2 : n = Builtin.Range.rangeSize 0 n 1 := by
      have q := rangeSize_one 0 n
      rw [q]
      split <;> omega
    show IsRangeIter _ _ 0 n 1
    unfold IsRangeIter
    rw [Heap.get?_push_size _ rfl, ← e2]
  · show (s.heap.push _).objs.size < ((s.heap.push _).push _).objs.size
    rw [Heap.size_push (s.heap.push _)]
    exact Nat.lt_succ_self _
end
end CpB
set_option Elab.async false
set_option linter.all false
set_option maxRecDepth 100000
set_option maxHeartbeats 4000000
/-! CpF: the stretches of the cell's generator: for y in range(c): for x in range(a): yield (x, y). -/
namespace CpB
open PySem PySem.Spec PyProof.Rows L2 CpA
/-- the places in the text -/
structure Pz where
  (y r1 c1 q1 x r2 a2 q2 tx ty tp yp ep fx fy : Pos)
  tk : Nat
def inB (P : Pz) : List Stmt := [.Expr (.Yield (some (.Tuple [.Name "x" P.tx, .Name "y" P.ty] P.tk P.tp)) P.yp) P.ep]
def inIt (P : Pz) : Expr := .Call (.Name "range" P.r2) [.Name "a" P.a2] [] P.q2
def outB (P : Pz) : List Stmt := [.For (.Name "x" P.x) (inIt P) (inB P) [] P.fx]
def outIt (P : Pz) : Expr := .Call (.Name "range" P.r1) [.Name "c" P.c1] [] P.q1
def cellFor (P : Pz) : Stmt := .For (.Name "y" P.y) (outIt P) (outB P) [] P.fy
abbrev Cin (P : Pz) (env : Env) (itx : Addr) : Code := .forLoop (.Name "x" P.x) (.ref itx) (inB P) [] env
abbrev Cout (P : Pz) (env : Env) (ity : Addr) : Code := .forLoop (.Name "y" P.y) (.ref ity) (outB P) [] env
structure CEnv (env : Env) : Prop where
  kind : env.scope.kind = .function
  co : env.scope.isCoroutine = false
  ia : interactive env = false
  ka : env.kindOf "a" = some .local
  kc : env.kindOf "c" = some .local
  kx : env.kindOf "x" = some .local
  ky : env.kindOf "y" = some .local
  kr : env.kindOf "range" = some .globalImplicit
  gl : env.globals = mainGlobals
  bl : env.builtins = builtinsNs
structure Glb (mg : Str → Option Value) (h : Heap) : Prop where
  g : h.Ns mainGlobals mg
  b : ∃ mb, h.Ns builtinsNs mb ∧ mb "range" = some (.type "range")
theorem Glb.keeps {mg : Str → Option Value} {h h' : Heap} (x : Glb mg h) (k1 : ∀ o, h.get? mainGlobals = some o → h'.get? mainGlobals = some o) (k2 : ∀ o, h.get? builtinsNs = some o → h'.get? builtinsNs = some o) : Glb mg h' :=
  ⟨x.g.at' k1, let ⟨mb, q, r⟩ := x.b; ⟨mb, q.at' k2, r⟩⟩
/-- row i is about to be begun -/
structure Hrow (env : Env) (a c i : Nat) (ity : Addr) (h : Heap) : Prop where
  ns : ∃ m ta tc, h.Ns env.locals m ∧ m "a" = some (.int a ta) ∧ m "c" = some (.int c tc)
  iy : IsRangeIter h ity i ((c : Int) - i) 1
  ne : ity ≠ env.locals
/-- within row i, j places drawn -/
structure Hin (env : Env) (a c i j : Nat) (itx ity : Addr) (h : Heap) : Prop where
  ns : ∃ m ta tc ty, h.Ns env.locals m ∧ m "a" = some (.int a ta) ∧ m "c" = some (.int c tc) ∧ m "y" = some (.int i ty)
  ix : IsRangeIter h itx j ((a : Int) - j) 1
  iy : IsRangeIter h ity (i + 1) ((c : Int) - (i + 1)) 1
  n1 : itx ≠ env.locals
  n2 : ity ≠ env.locals
  n3 : itx ≠ ity
/-- one stretch: all else stands -/
structure Step (ch : List Addr) (s z : Shared) : Prop where
  os : z.os = s.os
  gens : z.gens = s.gens
  keep : ∀ b o, b ∉ ch → s.heap.get? b = some o → z.heap.get? b = some o
/-- younger than all that stood -/
def Young (ch : List Addr) (s : Shared) (x : Addr) : Prop := ∀ b o, b ∉ ch → s.heap.get? b = some o → b < x
theorem Young.of {ch : List Addr} {s : Shared} {x : Addr} (h : s.heap.objs.size ≤ x) : Young ch s x := fun b o _ e => Nat.lt_of_lt_of_le (Heap.lt_size e) h
theorem Step.young {ch : List Addr} {s z : Shared} {x : Addr} (p : Step ch s z) (y : Young ch z x) : Young ch s x := fun b o hb e => y b o hb (p.keep b o hb e)
theorem Young.mono {ch ch' : List Addr} {s : Shared} {x : Addr} (y : Young ch s x) (h : ∀ b ∈ ch, b ∈ ch') : Young ch' s x := fun b o hb e => y b o (fun q => hb (h b q)) e
theorem Step.mono {ch ch' : List Addr} {s z : Shared} (p : Step ch s z) (h : ∀ b ∈ ch, b ∈ ch') : Step ch' s z := ⟨p.os, p.gens, fun b o hb e => p.keep b o (fun q => hb (h b q)) e⟩
theorem Step.trans {ch : List Addr} {s z y : Shared} (p : Step ch s z) (q : Step ch z y) : Step ch s y :=
  ⟨q.os.trans p.os, q.gens.trans p.gens, fun b o hb e => q.keep b o hb (p.keep b o hb e)⟩
/-- what is handed out -/
structure Out (env : Env) (a c i j : Nat) (itx ity : Addr) (ch : List Addr) (s z : Shared) (v : Value) : Prop where
  st : Step ch s z
  hin : Hin env a c i j itx ity z.heap
  new : itx ∈ ch ∨ Young ch s itx
  tup : ∃ p t t', v = .ref p ∧ Young ch s p ∧ p < z.heap.objs.size ∧ z.heap.get? p = some { cls := .type "tuple", data := .seq #[.int ((j : Int) - 1) t, .int i t'] } ∧ p ≠ itx
/-- it sleeps within row i behind j of its places, with r places to come -/
def Alive (P : Program) (w : World) (mg : Str → Option Value) (env : Env) (a c : Nat) : Nat → Nat → Nat → Addr → Addr → Code → (Resume → Sem PySem.Fin) → List Frame → Prop
  | 0, i, j, itx, ity, cc, k, fs => ∀ A R Y s, A.handled = none → Glb mg s.heap → Hin env a c i j itx ity s.heap → (∀ z, Step [env.locals, itx, ity] s z → R (.ok (.ret .none)) z) → Seg1 (model P w) A R Y cc (k (.send .none)) fs s
  | r + 1, i, j, itx, ity, cc, k, fs => ∀ A R Y s, A.handled = none → Glb mg s.heap → Hin env a c i j itx ity s.heap →
      (∀ v z c' k' fs' i' j' itx', Out env a c i' j' itx' ity [env.locals, itx, ity] s z v → 0 < j' → j' ≤ a → i' < c → i' * a + j' + r = a * c → Alive P w mg env a c r i' j' itx' ity c' k' fs' → Y v z c' k' fs') → Seg1 (model P w) A R Y cc (k (.send .none)) fs s
/-- frames of loops alone -/
structure FrOk (env : Env) (fs : List Frame) : Prop where
  sp : splitAtGen fs = none
  gd : fs.any Frame.guarded = false
  ov : ∀ (A : Around) (c : Code), c.weight = 0 → c.cUnits = 0 → (A.over c fs).handled = A.handled
section
variable {P : Program} {w : World} {mg : Str → Option Value} {env : Env} {a c : Nat} {Z : Pz}
theorem raw_store {A : Around} {E : Value → Shared → Prop} {s : Shared} {x : Str} {pos : Pos} {m : Str → Option Value} {v : Value} {Q : Unit → Shared → Prop} (hk : env.scope.kind = .function) (hl : env.kindOf x = some .local) (hn : s.heap.Ns env.locals m)
    (h : ∀ h' tk, h'.Ns env.locals (fun y => if y = x then some v else m y) → Heap.SameBut env.locals s.heap h' → Q () { s with heap := h', toks := tk }) : wpAny (model P w) A (assign (.Name x pos) env v) Q E s :=
  wpAny_assign_Name (wpAny_storeName_local hl hn (fun h' hn' sb => h h' _ hn' sb) (by rw [hk]; rfl))
theorem it_at {h h' : Heap} {it : Addr} {x l st : Int} (q : IsRangeIter h it x l st) (k : ∀ o, h.get? it = some o → h'.get? it = some o) : IsRangeIter h' it x l st := k _ q
/-- a place of row i is drawn and handed out -/
theorem draw_one (C : CEnv env) (mr : mg "range" = none) {r i j : Nat} {itx ity : Addr} {fs : List Frame} (F : FrOk env fs) (hj : j < a)
    (al : ∀ k : Resume → Sem PySem.Fin, (∀ A' R' Y' z', Seg1 (model P w) A' R' Y' (Cin Z env itx) ((model P w).den (Cin Z env itx)) fs z' → Seg1 (model P w) A' R' Y' (Cin Z env itx) (k (.send .none)) fs z') → Alive P w mg env a c r i (j + 1) itx ity (Cin Z env itx) k fs)
    {A : Around} {R : Result → Shared → Prop} {Y : AtYield} {s : Shared} (hh : A.handled = none) (G : Glb mg s.heap) (H : Hin env a c i j itx ity s.heap)
    (hY : ∀ v z k', Out env a c i (j + 1) itx ity [env.locals, itx, ity] s z v → Alive P w mg env a c r i (j + 1) itx ity (Cin Z env itx) k' fs → Y v z (Cin Z env itx) k' fs) :
    Seg1 (model P w) A R Y (Cin Z env itx) ((model P w).den (Cin Z env itx)) fs s := by
  obtain ⟨⟨m, ta, tc, ty, hn, ma, mc, my⟩, ix, iy, n1, n2, n3⟩ := H
  have ho : (A.over (Cin Z env itx) fs).handled = none := by rw [F.ov A _ rfl rfl]; exact hh
  refine sg_turn (wpAny_pyNext_range_item ix (by omega) fun h1 ix1 sb1 => ?_)
  have ns1 : h1.Ns env.locals m := hn.sameBut sb1 n1.symm
  refine go_of (s := { s with heap := h1, toks := s.toks + 1 }) (n := "range_iterator") ix1 rfl rfl (by decide) ?_
  refine raw_store C.kind C.kx ns1 fun h2 tk2 ns2 sb2 => ?_
  have ix2 : IsRangeIter h2 itx (j + 1) ((a : Int) - j - 1) 1 := it_at ix1 fun o e => (sb2.2 itx n1).trans e
  have iy2 : IsRangeIter h2 ity (i + 1) ((c : Int) - (i + 1)) 1 := it_at (it_at iy fun o e => (sb1.2 ity n3.symm).trans e) fun o e => (sb2.2 ity n2).trans e
  refine sg_cons (sg_Yield F.sp rfl F.gd ?_ C.co C.ia)
  refine Tuple_ ?_
  show wpAny _ _ (spliced [(false, eval (.Name "x" Z.tx) env), (false, eval (.Name "y" Z.ty) env)]) _ _ _
  refine Calls.spliced_cons (raw_local C.kind C.kx ns2 (v := .int j s.toks) (by simp) (Calls.spliced_cons (raw_local C.kind C.ky ns2 (v := .int i ty) ?_ (Calls.spliced_nil ?_))))
  · rw [if_neg (by decide)]; exact my
  refine wpAny_newTuple ?_ (by show 2 ≤ sizeLine; decide)
  intro k hk
  have sz1 : h1.objs.size = s.heap.objs.size := sb1.1
  have sz2 : h2.objs.size = h1.objs.size := sb2.1
  have lx : itx < h2.objs.size := Heap.lt_size ix2
  refine hY _ _ k ⟨⟨rfl, rfl, fun b o hb e => ?_⟩, ⟨⟨_, ta, tc, ty, ns2.keeps fun b o e => Heap.get?_push_of_some _ e, ?_, ?_, ?_⟩, ?_, it_at iy2 fun o e => Heap.get?_push_of_some _ e, n1, n2, n3⟩, .inl (by simp), h2.objs.size, s.toks, ty, rfl, ?_, ?_, ?_, Nat.ne_of_gt lx⟩ (al k fun A' R' Y' z' q => hk A' R' Y' z' ?_)
  · simp only [List.mem_cons, List.not_mem_nil, or_false, not_or] at hb
    exact Heap.get?_push_of_some _ ((sb2.2 b hb.1).trans ((sb1.2 b hb.2.1).trans e))
  · rw [if_neg (by decide)]; exact ma
  · rw [if_neg (by decide)]; exact mc
  · rw [if_neg (by decide)]; exact my
  · have e1 : ((a : Int) - ((j + 1 : Nat) : Int)) = (a : Int) - j - 1 := by omega
    have e2 : ((j + 1 : Nat) : Int) = (j : Int) + 1 := by omega
    show IsRangeIter _ itx ((j + 1 : Nat) : Int) ((a : Int) - ((j + 1 : Nat) : Int)) 1
    rw [e1, e2]
    exact it_at ix2 fun o e => Heap.get?_push_of_some _ e
  · exact Young.of (by show s.heap.objs.size ≤ h2.objs.size; rw [sz2, sz1]; exact Nat.le_refl _)
  · show h2.objs.size < (h2.push _).objs.size
    rw [Heap.size_push]
    exact Nat.lt_succ_self _
  · have e2 : (((j + 1 : Nat) : Int) - 1) = (j : Int) := by omega
    rw [e2]
    exact Heap.get?_push_size _ rfl
  · exact sg_nil (sg_again rfl q)
/-- what follows the inner loop, within the outer one's turn -/
def Ki (Z : Pz) (env : Env) (ity : Addr) : Flow → Sem PySem.Fin := fun f => match f with
  | .next => (execs [] env).wrap (turnK (Cout Z env ity)) (turnJ env) id id
  | f => turnK (Cout Z env ity) f
abbrev kFor (env : Env) (K : Flow → Sem PySem.Fin) (J : Value → Sem PySem.Fin) : Result → Sem PySem.Fin := fun r => ((match r with | .ok f => (.pure f : Sem Flow) | .error e => .raise e).onRaise (cameBack env)).wrap K J id id
abbrev fsIn (Z : Pz) (env : Env) (ity : Addr) (p : Pos) (fs : List Frame) : List Frame := .ret (kFor env (Ki Z env ity) (turnJ env)) none false [] (Cout Z env ity) p [] :: fs
theorem FrOk.ret {fs : List Frame} (F : FrOk env fs) {k : Result → Sem PySem.Fin} {l : List Value} {cd : Code} {p : Pos} {kp : List Value} (h1 : cd.weight = 0) (h2 : cd.cUnits = 0) : FrOk env (.ret k none false l cd p kp :: fs) where
  sp := by rw [splitAtGen_ret, F.sp]; rfl
  gd := by show (false || fs.any Frame.guarded) = false; rw [F.gd]; rfl
  ov := fun A cd' e1 e2 => by rw [GenW.over_loop e1 e2]; exact F.ov A cd h1 h2
/-- behind the last place: the row's loop is left -/
theorem row_end {ity : Addr} {p : Pos} {fs : List Frame} {A : Around} {R : Result → Shared → Prop} {Y : AtYield} {s : Shared} {cd : Code} (h : Seg1 (model P w) A R Y (Cout Z env ity) ((model P w).den (Cout Z env ity)) fs s) :
    Seg1 (model P w) A R Y cd (leafOf (.ok .next)) (fsIn Z env ity p fs) s := by
  refine sg_leaf (.ok .next) ?_
  show Seg1 (model P w) A R Y (Cout Z env ity) ((execs [] env).wrap (turnK (Cout Z env ity)) (turnJ env) id id) fs s
  exact sg_nil (sg_again rfl h)
/-- row i is begun, its first place handed out -/
theorem row_one (C : CEnv env) (mr : mg "range" = none) {r i : Nat} {ity : Addr} {fs : List Frame} (F : FrOk env fs) (hi : i < c) (ha : 0 < a) (hab : a < 2 ^ 62)
    (al : ∀ (itx : Addr) (p : Pos) (k : Resume → Sem PySem.Fin), itx ≠ mainGlobals ∧ itx ≠ builtinsNs → (∀ A' R' Y' z', Seg1 (model P w) A' R' Y' (Cin Z env itx) ((model P w).den (Cin Z env itx)) (fsIn Z env ity p fs) z' → Seg1 (model P w) A' R' Y' (Cin Z env itx) (k (.send .none)) (fsIn Z env ity p fs) z') → Alive P w mg env a c r i 1 itx ity (Cin Z env itx) k (fsIn Z env ity p fs))
    {A : Around} {R : Result → Shared → Prop} {Y : AtYield} {s : Shared} (hh : A.handled = none) (G : Glb mg s.heap) (H : Hrow env a c i ity s.heap) (hgl : env.locals ≠ mainGlobals ∧ env.locals ≠ builtinsNs ∧ ity ≠ mainGlobals ∧ ity ≠ builtinsNs)
    (hY : ∀ v z k' itx p, Out env a c i 1 itx ity [env.locals, ity] s z v → Alive P w mg env a c r i 1 itx ity (Cin Z env itx) k' (fsIn Z env ity p fs) → Y v z (Cin Z env itx) k' (fsIn Z env ity p fs)) :
    Seg1 (model P w) A R Y (Cout Z env ity) ((model P w).den (Cout Z env ity)) fs s := by
  obtain ⟨⟨m, ta, tc, hn, ma, mc⟩, iy, ne⟩ := H
  refine sg_turn (wpAny_pyNext_range_item iy (by omega) fun h1 iy1 sb1 => ?_)
  have ns1 : h1.Ns env.locals m := hn.sameBut sb1 ne.symm
  refine go_of (s := { s with heap := h1, toks := s.toks + 1 }) (n := "range_iterator") iy1 rfl rfl (by decide) ?_
  refine raw_store C.kind C.ky ns1 fun h2 tk2 ns2 sb2 => ?_
  have iy2 : IsRangeIter h2 ity (i + 1) ((c : Int) - i - 1) 1 := it_at iy1 fun o e => (sb2.2 ity ne).trans e
  have G2 : Glb mg h2 := G.keeps (fun o e => (sb2.2 _ hgl.1.symm).trans ((sb1.2 _ hgl.2.2.1.symm).trans e)) (fun o e => (sb2.2 _ hgl.2.1.symm).trans ((sb1.2 _ hgl.2.2.2.symm).trans e))
  refine sg_cons (sg_For (by intro _; rfl) ?_)
  obtain ⟨mb, hb, mbr⟩ := G2.b
  refine raw_range C.kind C.ka C.kr ns2 (n := a) (t := ta) ?_ (by rw [C.gl]; exact G2.g) mr (by rw [C.bl]; exact hb) mbr (by omega) (by omega) fun h3 tk3 itx sz3 k3 ix3 lt3 => ?_
  · rw [if_neg (by decide)]; exact ma
  intro p
  have sz1 : h1.objs.size = s.heap.objs.size := sb1.1
  have sz2 : h2.objs.size = h1.objs.size := sb2.1
  have sz3' : h2.objs.size ≤ itx := sz3
  have iy3 := it_at iy2 fun o e => k3 ity o e
  have nL : itx ≠ env.locals := Nat.ne_of_gt (Nat.lt_of_lt_of_le ns2.lt sz3')
  have nI : itx ≠ ity := Nat.ne_of_gt (Nat.lt_of_lt_of_le (Heap.lt_size iy2) sz3')
  have st : Step [env.locals, ity] s { s with heap := h3, toks := tk3 } := ⟨rfl, rfl, fun b o hb e => by
    simp only [List.mem_cons, List.not_mem_nil, or_false, not_or] at hb
    exact k3 b o ((sb2.2 b hb.1).trans ((sb1.2 b hb.2).trans e))⟩
  have gx : itx ≠ mainGlobals ∧ itx ≠ builtinsNs := ⟨Nat.ne_of_gt (Nat.lt_of_lt_of_le G2.g.lt sz3'), Nat.ne_of_gt (Nat.lt_of_lt_of_le hb.lt sz3')⟩
  refine draw_one C mr (F.ret rfl rfl) ha (fun k => al itx p k gx) hh (G2.keeps (fun o e => k3 _ o e) fun o e => k3 _ o e) ⟨⟨_, ta, tc, s.toks, ns2.keeps k3, ?_, ?_, by simp⟩, ?_, ?_, nL, ne, nI⟩ fun v z k' hO hA => hY v z k' itx p ⟨⟨hO.st.os, hO.st.gens, fun b o hb e => ?_⟩, hO.hin, .inr (Young.of (by omega)), ?_⟩ hA
  · rw [if_neg (by decide)]; exact ma
  · rw [if_neg (by decide)]; exact mc
  · have e1 : ((a : Int) - ((0 : Nat) : Int)) = a := by omega
    show IsRangeIter h3 itx 0 ((a : Int) - ((0 : Nat) : Int)) 1
    rw [e1]
    exact ix3
  · have e1 : ((c : Int) - (i + 1)) = (c : Int) - i - 1 := by omega
    rw [e1]
    exact iy3
  · have hbx : b ≠ itx := Nat.ne_of_lt (Nat.lt_of_lt_of_le (Heap.lt_size e) (by omega))
    simp only [List.mem_cons, List.not_mem_nil, or_false, not_or] at hb
    refine hO.st.keep b o ?_ (st.keep b o (by simp [hb]) e)
    simp [hb, hbx]
  · obtain ⟨q, t, t', e1, e2, e3⟩ := hO.tup
    refine ⟨q, t, t', e1, fun b o hb e => e2 b o ?_ (st.keep b o hb e), e3⟩
    have hbx : b ≠ itx := Nat.ne_of_lt (Nat.lt_of_lt_of_le (Heap.lt_size e) (by omega))
    simp only [List.mem_cons, List.not_mem_nil, or_false, not_or] at hb ⊢
    exact ⟨hb.1, hbx, hb.2⟩
/-- the row is through: its iterator ends -/
theorem row_over {i : Nat} {itx ity : Addr} {p : Pos} {fs : List Frame} (F : FrOk env fs) {A : Around} {R : Result → Shared → Prop} {Y : AtYield} {s : Shared} (hh : A.handled = none) (H : Hin env a c i a itx ity s.heap)
    (h : ∀ z, Step [itx] s z → Hrow env a c (i + 1) ity z.heap → Seg1 (model P w) A R Y (Cout Z env ity) ((model P w).den (Cout Z env ity)) fs z) : Seg1 (model P w) A R Y (Cin Z env itx) ((model P w).den (Cin Z env itx)) (fsIn Z env ity p fs) s := by
  obtain ⟨⟨m, ta, tc, ty, hn, ma, mc, my⟩, ix, iy, n1, n2, n3⟩ := H
  refine sg_turn (wpAny_pyNext_range_end (by rw [(F.ret rfl rfl).ov A _ rfl rfl]; exact hh) ix (by omega) fun h' eb => row_end (h _ ⟨rfl, rfl, fun b o hb e => eb b o (by simpa using hb) e⟩ ⟨⟨m, ta, tc, hn.at' fun o e => eb _ o n1.symm e, ma, mc⟩, ?_, n2⟩))
  have e1 : (((i + 1 : Nat) : Int)) = (i : Int) + 1 := by omega
  rw [e1]
  exact it_at iy fun o e => eb _ o n3.symm e
/-- all rows are through -/
theorem rows_end {ity : Addr} {fs : List Frame} (F : FrOk env fs) {i : Nat} (hi : c ≤ i) {A : Around} {R : Result → Shared → Prop} {Y : AtYield} {s : Shared} (hh : A.handled = none) (H : Hrow env a c i ity s.heap)
    (h : ∀ z, Step [ity] s z → Seg1 (model P w) A R Y (.block [] env) (leafOf (.ok .next)) fs z) : Seg1 (model P w) A R Y (Cout Z env ity) ((model P w).den (Cout Z env ity)) fs s := by
  refine sg_turn (wpAny_pyNext_range_end (by rw [F.ov A _ rfl rfl]; exact hh) H.iy (by omega) fun h' eb => h _ ⟨rfl, rfl, fun b o hb e => eb b o (by simpa using hb) e⟩)
/-- what the frames under the outer loop do at its end -/
def EndO (P : Program) (w : World) (fs : List Frame) : Prop := ∀ (A : Around) (R : Result → Shared → Prop) (Y : AtYield) (s : Shared) (cd : Code), R (.ok (.ret .none)) s → Seg1 (model P w) A R Y cd (leafOf (.ok .next)) fs s
theorem alive_all (C : CEnv env) (mr : mg "range" = none) (ha : 0 < a) (hab : a < 2 ^ 62) {fs : List Frame} (F : FrOk env fs) (EO : EndO P w fs) {ity : Addr} (hgl : env.locals ≠ mainGlobals ∧ env.locals ≠ builtinsNs ∧ ity ≠ mainGlobals ∧ ity ≠ builtinsNs) :
    ∀ (r i j : Nat) (itx : Addr) (p : Pos) (k : Resume → Sem PySem.Fin), 0 < j → j ≤ a → i < c → i * a + j + r = a * c → itx ≠ mainGlobals ∧ itx ≠ builtinsNs →
      (∀ A' R' Y' z', Seg1 (model P w) A' R' Y' (Cin Z env itx) ((model P w).den (Cin Z env itx)) (fsIn Z env ity p fs) z' → Seg1 (model P w) A' R' Y' (Cin Z env itx) (k (.send .none)) (fsIn Z env ity p fs) z') →
      Alive P w mg env a c r i j itx ity (Cin Z env itx) k (fsIn Z env ity p fs) := by
  intro r
  induction r with
  | zero =>
    intro i j itx p k hj0 hja hi hr hgx hk A R Y s hh G H hR
    have e1 : i * a + j = a * c := hr
    have hc : i + 1 = c := by
      have q1 : (i + 1) * a = i * a + a := Nat.succ_mul i a
      have q2 : a * c ≤ (i + 1) * a := by omega
      have q3 : c ≤ i + 1 := by
        rw [Nat.mul_comm a c] at q2
        exact Nat.le_of_mul_le_mul_right q2 ha
      omega
    have hj : j = a := by
      have q1 : (i + 1) * a = i * a + a := Nat.succ_mul i a
      rw [hc, Nat.mul_comm c a] at q1
      omega
    subst hj
    refine hk A R Y s (row_over F hh H fun z st H1 => rows_end F (Nat.le_of_eq hc.symm) hh H1 fun y st2 => EO A R Y y _ (hR y ?_))
    exact (st.mono (by simp)).trans (st2.mono (by simp))
  | succ r ih =>
    intro i j itx p k hj0 hja hi hr hgx hk A R Y s hh G H hY
    refine hk A R Y s ?_
    rcases Nat.lt_or_eq_of_le hja with hlt | rfl
    · refine draw_one C mr (F.ret rfl rfl) hlt (fun k' hk' => ih i (j + 1) itx p k' (Nat.succ_pos _) hlt hi (by omega) hgx hk') hh G H fun v z k' hO hA => ?_
      exact hY v z _ k' _ i (j + 1) itx hO (Nat.succ_pos _) hlt hi (by omega) hA
    · have hc : i + 1 < c := by
        have q1 : (i + 1) * j = i * j + j := Nat.succ_mul i j
        have q2 : (i + 1) * j < j * c := by omega
        rw [Nat.mul_comm j c] at q2
        exact Nat.lt_of_mul_lt_mul_right q2
      have e2 : (i + 1) * j + 1 + r = j * c := by
        have q1 : (i + 1) * j = i * j + j := Nat.succ_mul i j
        omega
      refine row_over F hh H fun z st H1 => ?_
      have Gz : Glb mg z.heap := G.keeps (fun o e => st.keep _ o (by simpa using hgx.1.symm) e) fun o e => st.keep _ o (by simpa using hgx.2.symm) e
      refine row_one C mr F hc ha hab (fun itx' p' k' gx' hk' => ih (i + 1) 1 itx' p' k' Nat.one_pos ha hc e2 gx' hk') hh Gz H1 hgl fun v y k' itx' p' hO hA => ?_
      refine hY v y _ k' _ (i + 1) 1 itx' ⟨(st.mono (by simp)).trans (hO.st.mono (by simp)), hO.hin, ?_, ?_⟩ Nat.one_pos ha hc e2 hA
      · rcases hO.new with q | q
        · simp only [List.mem_cons, List.not_mem_nil, or_false] at q ⊢
          rcases q with q | q
          · exact .inl (.inl q)
          · exact .inl (.inr (.inr q))
        · exact .inr ((st.mono (by simp)).young (q.mono (by simp)))
      · obtain ⟨q, t, t', e1, y1, e3⟩ := hO.tup
        exact ⟨q, t, t', e1, (st.mono (by simp)).young (y1.mono (by simp)), e3⟩
end
end CpB
set_option Elab.async false
set_option linter.all false
set_option maxRecDepth 100000
set_option maxHeartbeats 4000000
/-! CpG: net.cell(), walked. -/
namespace CpB
open PySem PySem.Spec PyProof.Rows L2 CpA
section
variable {X : Cx} {pins : List (Addr × Obj)} {σ : L2.St} {H : Hp} {s z : Shared} {fp : List Addr}
/-- what is tracked is there, and older than what is young -/
theorem tracked_at (I : Inv X pins σ H s) {b : Addr} {u : HO} (e : H b = some u) : ∃ o, s.heap.get? b = some o := by
  have q := I.hok b u e
  cases u with
  | lst xs => obtain ⟨_, _, _, _, e⟩ := q; exact ⟨_, e⟩
  | tup xs => obtain ⟨_, _, _, o, e, _⟩ := q; exact ⟨_, e⟩
  | dK kvs => obtain ⟨_, _, _, _, o, _, _, e, _⟩ := q; exact ⟨_, e⟩
  | dT kvs => obtain ⟨_, _, _, _, o, _, _, e, _⟩ := q; exact ⟨_, e⟩
  | set S n => obtain ⟨o, _, _, _, e, _⟩ := q; exact ⟨_, e⟩
  | ins C dx fs => obtain ⟨_, _, _, e, _⟩ := q; exact ⟨_, e⟩
  | own y => exact q
  | xd fs => obtain ⟨_, ⟨o, _, _, e, _⟩, _⟩ := q; exact ⟨_, e⟩
  | rng lo hi => obtain ⟨_, _, _, e⟩ := q; exact ⟨_, e⟩
  | frz ob u => exact ⟨_, q.1⟩
  | tbl ps => exact ⟨_, q⟩
  | met f y => exact ⟨_, q⟩
  | ext φ => exact q.2.1
theorem tracked_lt (I : Inv X pins σ H s) (hf : ∀ b ∈ fp, FpOk X pins H b) {b x : Addr} {u : HO} (y : Young fp s x) (e : H b = some u) : b < x :=
  let ⟨o, ho⟩ := tracked_at I e
  y b o (fun hb => by rw [(hf b hb).1] at e; cases e) ho
/-- behind a stretch: the walker's state stands, the tuple handed out is tracked -/
theorem inv_out (I : Inv X pins σ H s) (hf : ∀ b ∈ fp, FpOk X pins H b) (os : z.os = s.os) (bare : AllBare z.gens) (keep : ∀ b o, b ∉ fp → s.heap.get? b = some o → z.heap.get? b = some o) {p : Addr} (yp : Young fp s p) {xs : List V} {o : Obj}
    (hp : z.heap.get? p = some o) (hc : ∀ v, o.data ≠ .cell v) (hn : xs.length ≤ sizeLine) (ht : ∃ its : List Value, Vals xs its ∧ IsTup z.heap p its.toArray) : Inv X pins σ (upd H p (.tup xs)) z := by
  have nfp : ∀ b u, H b = some u → b ∉ fp := fun b u e hb => by rw [(hf b hb).1] at e; cases e
  have ltp : ∀ b u, H b = some u → b < p := fun b u e => tracked_lt I hf yp e
  have nep : ∀ b u, H b = some u → b ≠ p := fun b u e => Nat.ne_of_lt (ltp b u e)
  obtain ⟨zh, zg, zd, zt, zo⟩ := z
  obtain rfl : zo = s.os := os
  refine I.step (ch := fp) (fun b hb => ?_) (fun b o _ _ hb e _ => keep b o hb e) (fun b o _ _ hb e _ => ⟨o.slots, keep b o hb e⟩) (fun b o hb e n => ?_) (fun b o hb e => ⟨o, keep b o hb e⟩)
    (fun b xs e => by rw [upd_ne (nep b _ e)]; exact e) (fun b o u e => by rw [upd_ne (nep b _ e)]; exact e) (fun b ps e => ⟨#[], by rw [upd_ne (nep b _ e), e]; simp⟩) (fun m hm => ?_) (fun b u e => ?_) bare
  · obtain ⟨_, f1, _, f3, f4, f5⟩ := hf b hb
    exact ⟨f3, f1, f4, f5⟩
  · have h1 : b ≠ p := Nat.ne_of_lt (yp b o hb e)
    rw [upd_ne h1]
    exact n
  · have hL : X.env.locals ∉ fp := fun q => (hf _ q).2.1 rfl
    exact hm.at' fun o e => keep _ o hL e
  · by_cases hb : b = p
    · subst hb
      rw [upd_same] at e
      cases e
      obtain ⟨its, r, t⟩ := ht
      exact ⟨hn, its, r, t⟩
    · rw [upd_ne hb] at e
      refine (I.hok b u e).stay (fun d v hd q => keep d v ?_ q) (fun d q => by rw [upd_ne (nep d _ q)]; exact q) fun d xs q => by rw [upd_ne (nep d _ q)]; exact q
      rcases hd with rfl | hd
      · exact nfp _ _ e
      · exact nfp _ _ hd
/-- .. at the end: nothing is handed out -/
theorem inv_end (I : Inv X pins σ H s) (hf : ∀ b ∈ fp, FpOk X pins H b) (os : z.os = s.os) (bare : AllBare z.gens) (keep : ∀ b o, b ∉ fp → s.heap.get? b = some o → z.heap.get? b = some o) : Inv X pins σ H z := by
  have nfp : ∀ b u, H b = some u → b ∉ fp := fun b u e hb => by rw [(hf b hb).1] at e; cases e
  obtain ⟨zh, zg, zd, zt, zo⟩ := z
  obtain rfl : zo = s.os := os
  refine I.step (ch := fp) (fun b hb => ?_) (fun b o _ _ hb e _ => keep b o hb e) (fun b o _ _ hb e _ => ⟨o.slots, keep b o hb e⟩) (fun b o hb e n => n) (fun b o hb e => ⟨o, keep b o hb e⟩)
    (fun b xs e => e) (fun b o u e => e) (fun b ps e => ⟨#[], by rw [e]; simp⟩) (fun m hm => ?_) (fun b u e => ?_) bare
  · obtain ⟨_, f1, _, f3, f4, f5⟩ := hf b hb
    exact ⟨f3, f1, f4, f5⟩
  · exact hm.at' fun o e => keep _ o (fun q => (hf _ q).2.1 rfl) e
  · refine (I.hok b u e).stay (fun d v hd q => keep d v ?_ q) (fun d q => q) fun d xs q => q
    rcases hd with rfl | hd
    · exact nfp _ _ e
    · exact nfp _ _ hd
/-- a new iterator of the generator's is no one else's -/
theorem fp_young (I : Inv X pins σ H s) (hf : ∀ b ∈ fp, FpOk X pins H b) {x p : Addr} {xs : List V} (y : Young fp s x) (ne : x ≠ p) : FpOk X pins (upd H p (.tup xs)) x := by
  have nfp : ∀ b u, H b = some u → b ∉ fp := fun b u e hb => by rw [(hf b hb).1] at e; cases e
  obtain ⟨m, hn, _⟩ := id I.loc
  obtain ⟨oL, _, _, hoL, _⟩ := hn
  have lL : X.env.locals < x := y _ oL (fun q => (hf _ q).2.1 rfl) hoL
  refine ⟨?_, Nat.ne_of_gt lL, fun q => ?_, .inr (Nat.le_trans I.ok.above (Nat.le_of_lt lL)), fun v c e q => ?_, fun r hr q => ?_⟩
  · rw [upd_ne ne]
    cases e : H x with
    | none => rfl
    | some u => exact absurd (tracked_lt I hf y e) (Nat.lt_irrefl _)
  · have hfr : x ∉ fp := fun w => (hf _ w).2.2.1 q
    have hq : ∃ o, s.heap.get? x = some o := by
      obtain ⟨_, o, ho, _⟩ := I.ok.funs.mem q
      exact I.base.there x o ho fun w => I.ok.exfs x w q
    obtain ⟨o, ho⟩ := hq
    exact absurd (y x o hfr ho) (Nat.lt_irrefl _)
  · subst q
    obtain ⟨u, o, ho, _⟩ := I.cell v c e
    exact absurd (y c o (fun w => (hf _ w).2.2.2.2.1 v c e rfl) ho) (Nat.lt_irrefl _)
  · subst q
    exact absurd (y _ _ (fun w => (hf _ w).2.2.2.2.2 r hr rfl) (I.pin r hr).1) (Nat.lt_irrefl _)
end
end CpB
set_option Elab.async false
set_option linter.all false
set_option maxRecDepth 100000
set_option maxHeartbeats 4000000
/-! CpH: net.cell() as what a for or a comprehension walks. -/
namespace CpB
open PySem PySem.Spec PyProof.Rows L2 CpA
/-- a net that is read: its numbers -/
def NetRd (K : PySem.W.Frag) (H : Hp) (p : Addr) (a b c : Nat) : Prop :=
  ∃ C dx fs t, H p = some (.ins C dx fs) ∧ Cls K C ∧ NoAttr K C "own_numbers" ∧ fs.lookup ("own_numbers" : Str) = some (.ref t) ∧ SqT K H t [.int a, .int b, .int c]
/-- the places of the cell, by y and then by x -/
def Itc (K : PySem.W.Frag) (p : Addr) (a b c : Nat) : It :=
  ⟨fun i H => i < a * c ∧ (i = 0 → NetRd K H p a b c), fun i H x H' => ∃ q, H q = none ∧ x = .ref q ∧ H' = upd H q (.tup [.int ((i % a : Nat) : Int), .int ((i / a : Nat) : Int)]), fun i _ => a * c ≤ i⟩
structure Az where
  (a b c t s o st : Pos)
  k : Nat
def asgSt (Q : Az) : Stmt := .Assign [.Tuple [.Name "a" Q.a, .Name "b" Q.b, .Name "c" Q.c] Q.k Q.t] (.Attribute (.Name "self" Q.s) "own_numbers" Q.o) Q.st
def cellB (Q : Az) (Z : Pz) : List Stmt := [asgSt Q, cellFor Z]
structure CEnv2 (env : Env) : Prop extends CEnv env where
  ks : env.kindOf "self" = some .local
  kb : env.kindOf "b" = some .local
  ab : ∀ p, attributeBase (.Name "self" p) "own_numbers" env (eval (.Name "self" p) env) = eval (.Name "self" p) env
  sw : ∀ Q : Az, swapsWithSole [.Tuple [.Name "a" Q.a, .Name "b" Q.b, .Name "c" Q.c] Q.k Q.t] (.Attribute (.Name "self" Q.s) "own_numbers" Q.o) Q.st.line env = pure false
  ss : ∀ Q : Az, swappedStores [.Tuple [.Name "a" Q.a, .Name "b" Q.b, .Name "c" Q.c] Q.k Q.t] (.Attribute (.Name "self" Q.s) "own_numbers" Q.o) env = pure none
section
variable {P : Program} {w : World} {mg : Str → Option Value} {env : Env} {a c : Nat} {Q : Az} {Z : Pz}
def Ko (env : Env) : Flow → Sem PySem.Fin := fun f => match f with
  | .next => (execs [] env).wrap funcK (funcJ env) id id
  | f => funcK f
abbrev fsOut (Q : Az) (Z : Pz) (env : Env) (p : Pos) : List Frame := [.ret (kFor env (Ko env) (funcJ env)) none false [] (.func (cellB Q Z) env) p []]
theorem frOut {p : Pos} : FrOk env (fsOut Q Z env p) := ⟨rfl, rfl, fun _ _ _ _ => rfl⟩
theorem endOut {p : Pos} : EndO P w (fsOut Q Z env p) := fun A R Y s cd h => by
  refine sg_leaf (.ok .next) ?_
  show Seg1 (model P w) A R Y (.func (cellB Q Z) env) ((execs [] env).wrap funcK (funcJ env) id id) [] s
  exact sg_nil (sg_end (.ok (.ret .none)) h)
/-- the first stretch -/
theorem cell_first (C : CEnv2 env) (mr : mg "range" = none) (ha : 0 < a) (hab : a < 2 ^ 62) (hc : 0 < c) (hcb : c < 2 ^ 62) {X : Cx} {pins : List (Addr × Obj)} {σ : L2.St} {H : Hp} {s : Shared} (I : Inv X pins σ H s) (hP : X.prog = P) (hw : X.w = w) {p : Addr} {b : Nat}
    (N : NetRd X.K H p a b c) {m : Str → Option Value} (hn : s.heap.Ns env.locals m) (ms : m "self" = some (.ref p)) (G : Glb mg s.heap) (hL : H env.locals = none) (hgl : env.locals ≠ mainGlobals ∧ env.locals ≠ builtinsNs)
    {A : Around} {R : Result → Shared → Prop} {Y : AtYield} (hh : A.handled = none)
    (hY : ∀ v z k fs itx ity cd, Out env a c 0 1 itx ity [env.locals] s z v → Young [env.locals] s ity → Alive P w mg env a c (a * c - 1) 0 1 itx ity cd k fs → Y v z cd k fs) :
    Seg1 (model P w) A R Y (.func (cellB Q Z) env) ((model P w).den (.func (cellB Q Z) env)) [] s := by
  subst hP hw
  obtain ⟨Cc, dx, fs, t, hp, hcl, hna, hlk, hsq⟩ := N
  obtain ⟨mA, O, r, _, _, _⟩ := ins_get I.hok hp
  obtain ⟨u, hu, ru⟩ := RelO.some_of (v := V.ref t) (o := mA "own_numbers") (by rw [← hlk]; exact r "own_numbers")
  refine sg_func (sg_cons (sg_wrap (wpAny_Assign_stores (attr_of (C.ab _) (raw_local C.kind C.ks hn ms (get_map I.kIn O (hcl.get "own_numbers") hcl.hd hna hu (handed_of ru) ?_))) (C.sw Q) (C.ss Q))))
  have eu : u = Value.ref t := ru
  subst eu
  obtain ⟨its, rv, ht, hz⟩ := I.tuple hsq
  obtain ⟨ua, ub, uc, rfl, ra, rb, rc⟩ : ∃ ua ub uc, its = [ua, ub, uc] ∧ RelV (.int a) ua ∧ RelV (.int b) ub ∧ RelV (.int c) uc := by
    cases rv with
    | cons h1 r1 => cases r1 with
      | cons h2 r2 => cases r2 with
        | cons h3 r3 => cases r3; exact ⟨_, _, _, rfl, h1, h2, h3⟩
  obtain ⟨ta, rfl⟩ := ra
  obtain ⟨tb, rfl⟩ := rb
  obtain ⟨tc, rfl⟩ := rc
  show wpAny _ _ (assign (.Tuple [.Name "a" Q.a, .Name "b" Q.b, .Name "c" Q.c] Q.k Q.t) env (.ref t)) _ _ _
  refine assign_Tuple_tuple (by exact hh) ht rfl rfl fun h1 k1 => ?_
  have ns1 : h1.Ns env.locals m := hn.at' fun o e => k1 _ o (Nat.ne_of_lt hn.lt) e
  show wpAny _ _ (assignInOrder [assign (.Name "a" Q.a) env, assign (.Name "b" Q.b) env, assign (.Name "c" Q.c) env] [.int a ta, .int b tb, .int c tc]) _ _ _
  refine assignInOrder_cons (raw_store C.kind C.ka ns1 fun h2 tk2 ns2 sb2 => assignInOrder_cons (raw_store C.kind C.kb ns2 fun h3 tk3 ns3 sb3 => assignInOrder_cons (raw_store C.kind C.kc ns3 fun h4 tk4 ns4 sb4 => assignInOrder_nil ?_)))
  have k4 : ∀ x o, x ∉ [env.locals] → s.heap.get? x = some o → h4.get? x = some o := fun x o hx e => by
    have hx' : x ≠ env.locals := by simpa using hx
    exact (sb4.2 x hx').trans ((sb3.2 x hx').trans ((sb2.2 x hx').trans (k1 x o (Nat.ne_of_lt (Heap.lt_size e)) e)))
  have st4 : Step [env.locals] s { s with heap := h4, toks := tk4 } := ⟨rfl, rfl, k4⟩
  have G4 : Glb mg h4 := G.keeps (fun o e => k4 _ o (by simpa using hgl.1.symm) e) fun o e => k4 _ o (by simpa using hgl.2.symm) e
  obtain ⟨mb, hb, mbr⟩ := G4.b
  refine sg_cons (sg_For (by intro _; rfl) ?_)
  refine raw_range C.kind C.kc C.kr ns4 (n := c) (t := tc) (by simp) (by rw [C.gl]; exact G4.g) mr (by rw [C.bl]; exact hb) mbr (by omega) (by omega) fun h5 tk5 ity sz5 k5 iy5 lt5 pz => ?_
  have sz5' : h4.objs.size ≤ ity := sz5
  have nL : ity ≠ env.locals := Nat.ne_of_gt (Nat.lt_of_lt_of_le ns4.lt sz5')
  have gx : env.locals ≠ mainGlobals ∧ env.locals ≠ builtinsNs ∧ ity ≠ mainGlobals ∧ ity ≠ builtinsNs := ⟨hgl.1, hgl.2, Nat.ne_of_gt (Nat.lt_of_lt_of_le G4.g.lt sz5'), Nat.ne_of_gt (Nat.lt_of_lt_of_le hb.lt sz5')⟩
  have G5 : Glb mg h5 := G4.keeps (fun o e => k5 _ o e) fun o e => k5 _ o e
  have st5 : Step [env.locals] s { s with heap := h5, toks := tk5 } := ⟨rfl, rfl, fun x o hx e => k5 x o (k4 x o hx e)⟩
  have yI : Young [env.locals] s ity := st4.young (Young.of sz5')
  have er : ∀ r, 0 * a + 1 + r = a * c → r = a * c - 1 := fun r h => by omega
  have hac : 0 < a * c := Nat.mul_pos ha hc
  refine row_one (r := a * c - 1) C.toCEnv mr frOut hc ha hab (fun itx p' k gx' hk => alive_all C.toCEnv mr ha hab frOut endOut gx (a * c - 1) 0 1 itx p' k Nat.one_pos ha hc (by omega) gx' hk) hh G5 ⟨⟨_, ta, tc, ns4.keeps k5, ?_, ?_⟩, ?_, nL⟩ gx fun v z k itx p' hO hA => ?_
  · rw [if_neg (by decide), if_neg (by decide), if_pos rfl]
  · rw [if_pos rfl]
  · have e1 : ((c : Int) - ((0 : Nat) : Int)) = c := by omega
    show IsRangeIter h5 ity 0 ((c : Int) - ((0 : Nat) : Int)) 1
    rw [e1]
    exact iy5
  · have nI : ∀ x o, x ∉ [env.locals] → s.heap.get? x = some o → x ∉ [env.locals, ity] := fun x o hx e q => by
      simp only [List.mem_cons, List.not_mem_nil, or_false] at q hx
      rcases q with q | q
      · exact hx q
      · exact absurd (yI x o (by simpa using hx) e) (by rw [q]; exact Nat.lt_irrefl _)
    refine hY v z k _ itx ity _ ⟨⟨hO.st.os, hO.st.gens, fun x o hx e => hO.st.keep x o (nI x o hx e) (st5.keep x o hx e)⟩, hO.hin, ?_, ?_⟩ yI hA
    · rcases hO.new with q | q
      · have n1 := hO.hin.n1
        have n3 := hO.hin.n3
        simp only [List.mem_cons, List.not_mem_nil, or_false] at q
        rcases q with q | q
        · exact absurd q n1
        · exact absurd q n3
      · exact .inr fun x o hx e => q x o (nI x o hx e) (st5.keep x o hx e)
    · obtain ⟨q, t1, t2, e1, y1, e3⟩ := hO.tup
      exact ⟨q, t1, t2, e1, fun x o hx e => y1 x o (nI x o hx e) (st5.keep x o hx e), e3⟩
end
end CpB
set_option Elab.async false
set_option linter.all false
set_option maxRecDepth 100000
set_option maxHeartbeats 4000000
/-! CpI: the turns of net.cell(), and its call. -/
namespace CpB
open PySem PySem.Spec PyProof.Rows L2 CpA
def Tn (P : Program) (w : World) (mg : Str → Option Value) (env : Env) (a c : Nat) (bd : List Stmt) (ga : Addr) (g : Nat) (p : Addr) : Nat → List Addr → Shared → Prop
  | 0, fp, s => fp = [ga, env.locals] ∧ s.heap.IsGen ga g ∧ s.gens[g]? = some (.fresh (.func bd env)) ∧ ∃ m, s.heap.Ns env.locals m ∧ m "self" = some (.ref p)
  | i + 1, fp, s => ∃ iy j itx ity, fp = [ga, env.locals, itx, ity] ∧ s.heap.IsGen ga g ∧ i + 1 = iy * a + j ∧ 0 < j ∧ j ≤ a ∧ iy < c ∧ Hin env a c iy j itx ity s.heap ∧ ga ≠ env.locals ∧ ga ≠ itx ∧ ga ≠ ity ∧
      ∃ k l cd q fs, s.gens[g]? = some (.suspended k l cd q fs false) ∧ Alive P w mg env a c (a * c - (i + 1)) iy j itx ity cd k fs
theorem IsGen.at1 {h h' : Heap} {ga : Addr} {g : Nat} (x : h.IsGen ga g) (k : ∀ o, h.get? ga = some o → h'.get? ga = some o) : h'.IsGen ga g := let ⟨o, nm, qn, ho, r⟩ := x; ⟨o, nm, qn, k o ho, r⟩
theorem Hin.keep {env : Env} {a c i j : Nat} {itx ity : Addr} {h h' : Heap} (x : Hin env a c i j itx ity h) (k : ∀ b ∈ [env.locals, itx, ity], ∀ o, h.get? b = some o → h'.get? b = some o) : Hin env a c i j itx ity h' := by
  obtain ⟨⟨m, ta, tc, ty, hn, q⟩, ix, iy, n1, n2, n3⟩ := x
  exact ⟨⟨m, ta, tc, ty, hn.at' fun o e => k _ (by simp) o e, q⟩, it_at ix fun o e => k _ (by simp) o e, it_at iy fun o e => k _ (by simp) o e, n1, n2, n3⟩
theorem setGen_get {z : Shared} {g : Nat} {x : GenState} (h : g < z.gens.size) : (z.setGen g x).gens[g]? = some x := L2.setGen_at h
/-- one place's quotient and rest -/
theorem place_of {a i iy j : Nat} (e : i + 1 = iy * a + j) (h0 : 0 < j) (h1 : j ≤ a) : i % a = j - 1 ∧ i / a = iy := by
  have e2 : i = a * iy + (j - 1) := by
    rw [Nat.mul_comm a iy]
    omega
  subst e2
  have ha : 0 < a := by omega
  exact ⟨by rw [Nat.mul_add_mod]; exact Nat.mod_eq_of_lt (by omega), by rw [Nat.mul_add_div ha, Nat.div_eq_of_lt (by omega)]; rfl⟩
section
variable {P : Program} {w : World} {K : PySem.W.Frag} {mg : Str → Option Value} {base : Heap} {env : Env} {a b c : Nat} {Q : Az} {Z : Pz} {ga p : Addr} {g : Nat} {tg : Expr}
theorem turn_cell (C : CEnv2 env) (mr : mg "range" = none) (ha : 0 < a) (hab : a < 2 ^ 62) (hc : 0 < c) (hcb : c < 2 ^ 62) (hgl : env.locals ≠ mainGlobals ∧ env.locals ≠ builtinsNs) (hga : ga ≠ env.locals) (hgg : ga ≠ mainGlobals ∧ ga ≠ builtinsNs) :
    TurnG P w K mg base tg (Itc K p a b c) ga (Tn P w mg env a c (cellB Q Z) ga g p) where
  obj := by
    intro i fp s st x hx
    have nsd : ∀ {m : Str → Option Value}, s.heap.Ns env.locals m → ∃ o, s.heap.get? env.locals = some o ∧ ∀ v, o.data ≠ .cell v := fun hn => by
      obtain ⟨o, es, ep, ho, hd, _⟩ := hn
      exact ⟨o, ho, fun v z => by rw [hd] at z; cases z⟩
    have gnd : s.heap.IsGen ga g → ∃ o, s.heap.get? ga = some o ∧ ∀ v, o.data ≠ .cell v := fun ⟨o, nm, qn, ho, _, hd, _⟩ => ⟨o, ho, fun v z => by rw [hd] at z; cases z⟩
    have itd : ∀ {it : Addr} {x l st : Int}, IsRangeIter s.heap it x l st → ∃ o, s.heap.get? it = some o ∧ ∀ v, o.data ≠ .cell v := fun q => ⟨_, q, fun v z => by
      have z' : Data.fields _ = Data.cell v := z
      cases z'⟩
    cases i with
    | zero =>
      obtain ⟨rfl, hg, _, m, hn, _⟩ := st
      simp only [List.mem_cons, List.not_mem_nil, or_false] at hx
      rcases hx with rfl | rfl
      · exact gnd hg
      · exact nsd hn
    | succ i =>
      obtain ⟨iy, j, itx, ity, rfl, hg, _, _, _, _, ⟨⟨m, _, _, _, hn, _⟩, ix, iy', _⟩, _⟩ := st
      simp only [List.mem_cons, List.not_mem_nil, or_false] at hx
      rcases hx with rfl | rfl | rfl | rfl
      · exact gnd hg
      · exact nsd hn
      · exact itd ix
      · exact itd iy'
  keep := by
    intro i fp s s' st k kg
    cases i with
    | zero =>
      obtain ⟨rfl, hg, hs, m, hn, hm⟩ := st
      refine ⟨rfl, IsGen.at1 hg fun o e => k _ (by simp) o e, ?_, m, hn.at' fun o e => k _ (by simp) o e, hm⟩
      rcases kg with e | ⟨z, _⟩
      · rw [e]; exact hs
      · exact absurd z (Nat.lt_irrefl _)
    | succ i =>
      obtain ⟨iy, j, itx, ity, rfl, hg, e1, e2, e3, e4, hi, n1, n2, n3, kk, l, cd, q, fs, hs, al⟩ := st
      refine ⟨iy, j, itx, ity, rfl, IsGen.at1 hg fun o e => k _ (by simp) o e, e1, e2, e3, e4, hi.keep fun x hx o e => k x (List.mem_cons_of_mem _ hx) o e, n1, n2, n3, kk, l, cd, q, fs, ?_, al⟩
      rcases kg with e | ⟨_, kg⟩
      · rw [e]; exact hs
      · exact kg g _ hs rfl
  item := by
    intro X hP hw hK hmg hb hc' i fp pins s σ H E hr I hf st go
    subst hP hw hK hmg hb
    obtain ⟨hlt, hnet⟩ := go
    have hh : X.A.handled = none := I.ok.hd hc'
    have G0 : Glb X.mg s.heap := ⟨I.mod.glob.keeps I.bk, let ⟨mb, h1, h2⟩ := I.mod.blt; ⟨mb, h1.keeps I.bk, (h2 _ (by decide)).trans boot_range⟩⟩
    have hroom : X.A.depth < recursionLimit := by have := hr.dp; omega
    have hGen : s.heap.IsGen ga g ∧ ∃ gs, s.gens[g]? = some gs := by
      cases i with
      | zero => obtain ⟨_, hg, hs, _⟩ := st; exact ⟨hg, _, hs⟩
      | succ i => obtain ⟨_, _, _, _, _, hg, _, _, _, _, _, _, _, _, _, _, _, _, _, hs, _⟩ := st; exact ⟨hg, _, hs⟩
    obtain ⟨hg, gs, hgs⟩ := hGen
    have glt : g < s.gens.size := (Array.getElem?_eq_some_iff.mp hgs).1
    have hgf : ga ∈ fp := by
      cases i with
      | zero => obtain ⟨rfl, _⟩ := st; simp
      | succ i => obtain ⟨_, _, _, _, rfl, _⟩ := st; simp
    have hLf : env.locals ∈ fp := by
      cases i with
      | zero => obtain ⟨rfl, _⟩ := st; simp
      | succ i => obtain ⟨_, _, _, _, rfl, _⟩ := st; simp
    have lga : ga < s.heap.objs.size := let ⟨o, _, _, ho, _⟩ := hg; Heap.lt_size ho
    -- what is wanted at the yield
    refine next_gen1 (F := fun _ => False) (Y := fun v z cd k fs => ∃ iy j itx ity, i + 1 = iy * a + j ∧ 0 < j ∧ j ≤ a ∧ iy < c ∧ z.os = s.os ∧ z.gens = (s.setGen g .running).gens ∧ (∀ x o, x ∉ fp.tail → s.heap.get? x = some o → z.heap.get? x = some o) ∧ Hin env a c iy j itx ity z.heap ∧
        (itx ∈ fp.tail ∨ Young fp.tail s itx) ∧ (ity ∈ fp.tail ∨ Young fp.tail s ity) ∧ (∃ q t t', v = .ref q ∧ Young fp.tail s q ∧ z.heap.get? q = some { cls := .type "tuple", data := .seq #[.int ((j : Int) - 1) t, .int iy t'] } ∧ q ≠ itx ∧ q ≠ ity) ∧ Alive X.prog X.w X.mg env a c (a * c - (i + 1)) iy j itx ity cd k fs) hh I.nolimit hroom hg hgs ?_ ?_ (fun _ z => z.elim)
    · cases i with
      | zero =>
        obtain ⟨rfl, _, hs, m, hn, hm⟩ := st
        rw [hs] at hgs
        cases hgs
        refine cell_first (p := p) (b := b) C mr ha hab hc hcb (ungens I (G := (s.setGen g .running).gens) (allBare_setGen I.bare rfl)) rfl rfl (hnet rfl) hn hm G0 (hf _ (by simp)).1 hgl hh fun v z k fs itx ity cd hO yI hA => ?_
        refine ⟨0, 1, itx, ity, by omega, Nat.one_pos, ha, hc, hO.st.os, hO.st.gens, fun x o hx e => hO.st.keep x o hx e, hO.hin, ?_, .inr yI, ?_, hA⟩
        · exact hO.new
        · obtain ⟨q, t, t', e1, y1, _, e2, e3⟩ := hO.tup
          refine ⟨q, t, t', e1, y1, e2, e3, fun eq => ?_⟩
          have z1 := hO.hin.iy
          rw [← eq] at z1
          have z2 : z.heap.get? q = _ := z1
          rw [e2] at z2
          simp at z2
      | succ i =>
        obtain ⟨iy, j, itx, ity, rfl, _, e1, e2, e3, e4, hi, n1, n2, n3, kk, l, cd, q, fs, hs, al⟩ := st
        rw [hs] at hgs
        cases hgs
        obtain ⟨r, hr'⟩ : ∃ r, a * c - (i + 1) = r + 1 := ⟨a * c - (i + 1) - 1, by omega⟩
        rw [hr'] at al
        have er : a * c - (i + 1 + 1) = r := by omega
        refine al _ _ _ (s.setGen g .running) hh G0 hi fun v z cd' k' fs' i' j' itx' hO h1 h2 h3 h4 hA => ?_
        refine ⟨i', j', itx', ity, by omega, h1, h2, h3, hO.st.os, hO.st.gens, fun x o hx e => hO.st.keep x o hx e, hO.hin, hO.new, .inl (by simp), ?_, by rw [er]; exact hA⟩
        obtain ⟨q, t, t', e1, y1, _, e2, e3⟩ := hO.tup
        refine ⟨q, t, t', e1, y1, e2, e3, fun eq => ?_⟩
        have z1 := hO.hin.iy
        rw [← eq] at z1
        have z2 : z.heap.get? q = _ := z1
        rw [e2] at z2
        simp at z2
    · rintro v z cd k fs l q ⟨iy, j, itx, ity, e1, e2, e3, e4, os, gens, keep, hin, ny, niy, ⟨t, t1, t2, rfl, yt, ht, nt, nt2⟩, al⟩
      have tsub : ∀ x, x ∈ fp.tail → x ∈ fp := fun x hx => List.mem_of_mem_tail hx
      have keep' : ∀ x o, x ∉ fp → s.heap.get? x = some o → z.heap.get? x = some o := fun x o hx e => keep x o (fun y => hx (tsub x y)) e
      have gtail : ga ∉ fp.tail ∧ ∃ o, s.heap.get? ga = some o := by
        refine ⟨?_, let ⟨o, _, _, ho, _⟩ := hg; ⟨o, ho⟩⟩
        cases i with
        | zero => obtain ⟨rfl, _⟩ := st; simpa using hga
        | succ i => obtain ⟨_, _, _, _, rfl, _, _, _, _, _, _, m1, m2, m3, _⟩ := st; simp [m1, m2, m3]
      obtain ⟨gt1, og, hog⟩ := gtail
      have hgz : z.heap.IsGen ga g := IsGen.at1 hg fun o e => keep ga o gt1 e
      have zsz : g < z.gens.size := by rw [gens]; show g < (s.setGen g .running).gens.size; rw [GenW.setGen_size]; exact glt
      have bare : AllBare (z.setGen g (.suspended k l cd q fs false)).gens := allBare_setGen (s := z) (by rw [gens]; exact allBare_setGen I.bare rfl) rfl
      have pl := place_of e1 e2 e3
      have youngp : ∀ x, Young fp.tail s x → Young fp s x := fun x y => y.mono tsub
      have It : Inv X pins σ (upd H t (.tup [.int ((i % a : Nat) : Int), .int ((i / a : Nat) : Int)])) (z.setGen g (.suspended k l cd q fs false)) := by
        refine inv_out (z := z.setGen g (.suspended k l cd q fs false)) (p := t) (xs := [.int ((i % a : Nat) : Int), .int ((i / a : Nat) : Int)]) I hf os bare (fun x o hx e => keep' x o hx e) (youngp t yt) (o := { cls := .type "tuple", data := .seq #[.int ((j : Int) - 1) t1, .int iy t2] }) ht (fun v z => by cases z) (by show 2 ≤ sizeLine; decide) ⟨[.int ((j : Int) - 1) t1, .int iy t2], ?_, _, ht, rfl, _, rfl⟩
        have e5 : (((i % a : Nat) : Int)) = (j : Int) - 1 := by rw [pl.1]; omega
        have e6 : (((i / a : Nat) : Int)) = (iy : Int) := by rw [pl.2]
        rw [e5, e6]
        exact .cons ⟨_, rfl⟩ (.cons ⟨_, rfl⟩ .nil)
      have tnone : H t = none := by
        cases e : H t with
        | none => rfl
        | some u => exact absurd (tracked_lt I hf (youngp t yt) e) (Nat.lt_irrefl _)
      have gne : ga ≠ itx ∧ ga ≠ ity := by
        refine ⟨fun eq => ?_, fun eq => ?_⟩
        · rcases ny with y | y
          · rw [← eq] at y; exact gt1 y
          · exact absurd (y ga og gt1 hog) (by rw [← eq]; exact Nat.lt_irrefl _)
        · rcases niy with y | y
          · rw [← eq] at y; exact gt1 y
          · exact absurd (y ga og gt1 hog) (by rw [← eq]; exact Nat.lt_irrefl _)
      refine ⟨.ref t, rfl, ?_⟩
      obtain ⟨og', nm, qn, ho1, ho2, ho3, ho4⟩ := hgz
      refine go_of (s := z.setGen g (.suspended k l cd q fs false)) (n := "generator") ho1 ho2 ho3 (by decide) ?_
      refine ⟨.ref t, _, [ga, env.locals, itx, ity], It, rfl, ⟨t, tnone, rfl, rfl⟩, ⟨iy, j, itx, ity, rfl, ⟨og', nm, qn, ho1, ho2, ho3, ho4⟩, e1, e2, e3, e4, hin, hga, gne.1, gne.2, k, l, cd, q, fs, setGen_get zsz, al⟩, fun x hx => ?_⟩
      have old : ∀ y, y ∈ fp → y ≠ t → FpOk X pins (upd H t (.tup [.int ((i % a : Nat) : Int), .int ((i / a : Nat) : Int)])) y := fun y hy hyt => ⟨by rw [upd_ne hyt]; exact (hf y hy).1, (hf y hy).2⟩
      have Lt : env.locals ≠ t := fun eq => by
        obtain ⟨⟨m, _, _, _, ⟨oL, es, ep, hoL, hd, _⟩, _⟩, _⟩ := hin
        rw [eq, ht] at hoL
        cases hoL
        cases hd
      simp only [List.mem_cons, List.not_mem_nil, or_false] at hx
      rcases hx with rfl | rfl | rfl | rfl
      · exact old _ hgf (Nat.ne_of_lt (yt _ og gt1 hog))
      · exact old _ hLf Lt
      · rcases ny with y | y
        · exact old _ (tsub _ y) nt.symm
        · exact fp_young I hf (youngp _ y) nt.symm
      · rcases niy with y | y
        · exact old _ (tsub _ y) nt2.symm
        · exact fp_young I hf (youngp _ y) nt2.symm
  done := by
    intro X hP hw hK hmg hb hc' i fp pins s σ H E hr I hf st stop
    subst hP hw hK hmg hb
    have stop : a * c ≤ i := stop
    have hac : 0 < a * c := Nat.mul_pos ha hc
    cases i with
    | zero => exact absurd stop (by omega)
    | succ i =>
      obtain ⟨iy, j, itx, ity, rfl, hg, e1, e2, e3, e4, hi, n1, n2, n3, kk, l, cd, q, fs, hs, al⟩ := st
      have hh : X.A.handled = none := I.ok.hd hc'
      have G0 : Glb X.mg s.heap := ⟨I.mod.glob.keeps I.bk, let ⟨mb, h1, h2⟩ := I.mod.blt; ⟨mb, h1.keeps I.bk, (h2 _ (by decide)).trans boot_range⟩⟩
      have hroom : X.A.depth < recursionLimit := by have := hr.dp; omega
      have er : a * c - (i + 1) = 0 := by omega
      rw [er] at al
      refine next_gen1 (F := fun z => Step [env.locals, itx, ity] (s.setGen g .running) z) (Y := fun _ _ _ _ _ => False) hh I.nolimit hroom hg hs (al _ _ _ (s.setGen g .running) hh G0 hi fun z st => ⟨.inl rfl, st⟩) (fun _ _ _ _ _ _ _ z => z.elim) fun z st h' kh => ⟨rfl, ?_⟩
      refine inv_end I hf st.os ?_ fun x o hx e => kh x o (st.keep x o (fun y => hx (List.mem_cons_of_mem _ y)) e)
      exact allBare_setGen (s := z) (by rw [st.gens]; exact allBare_setGen I.bare rfl) rfl
  self := by
    intro A i fp s R E st h
    cases i with
    | zero => exact wpAny_pyIter_gen st.2.1 h
    | succ i => obtain ⟨_, _, _, _, _, hg, _⟩ := st; exact wpAny_pyIter_gen hg h
end
end CpB
set_option Elab.async false
set_option linter.all false
set_option maxRecDepth 100000
set_option maxHeartbeats 4000000
/-! CpJ: the call net.cell(). -/
namespace CpB
open PySem PySem.Spec PyProof.Rows L2 CpA
/-- o.cell(), o a net of the class at C -/
def iCell (K : PySem.W.Frag) (C : Addr) (to : TE) : TI := fun σ H R => to σ H fun x H1 => ∃ p dx fs a b c, x = .ref p ∧ H1 p = some (.ins C dx fs) ∧ fs.lookup ("cell" : Str) = none ∧ NetRd K H1 p a b c ∧ 0 < a ∧ 0 < c ∧ a < 2 ^ 62 ∧ c < 2 ^ 62 ∧ R (Itc K p a b c) H1
section
variable {X : Cx} {C f : Addr} {fd : FuncData} {params : Arguments} {scope : Scope} {qual : Str} {Q : Az} {Z : Pz} {tg o : Expr} {to : TE} {apos pos : Pos} {pl : Sem Bool}
theorem pi_cell {E' : Unit} (hc : X.calm = true) (hr : Room 2 X.A) (ho : PE X o to) (c : Cls X.K C) (hm : Meth X.K C "cell" f) (F : FunD X.K "cell" qual params (cellB Q Z) scope [] [] f fd) (S : GScope ["self", "a", "b", "c", "y", "x"] ["self"] scope) (hself : scope.names.lookup ("self" : Str) = some .local)
    (hb : Binds X.K fd ["self"] []) (mr : X.mg "range" = none) (hE : ∀ L cdv, CEnv2 (envOfC qual scope L f cdv))
    (ht : eval (.Call (.Attribute o "cell" apos) [] [] pos) X.env = (do
      let ov ← eval o X.env
      standAt apos.atName
      let (f, first) ← holding [ov] (getMethod ov "cell" pl)
      callWith pos f first (backTo pos (starEach [] X.env)) (backToKw pos (keywordEach [] X.env))) := by rfl) :
    PIG X tg (.Call (.Attribute o "cell" apos) [] [] pos) (iCell X.K C to) := by
  refine ⟨fun pins s σ H R I h => ?_⟩
  refine PySem.W.methodCall_KW (pl := pl) (thn (ho.run pins s σ H _ I h) fun u s1 ⟨x, H1, I1, rx, p, dx, fs, a, b, cc, ex, ea, l, N, ha, hcc, hab, hcb, q⟩ => ?_) ht
  subst ex
  obtain rfl : u = Value.ref p := rx
  refine getmeth_ok I1 ea c hm l ?_
  refine PySem.W.callWith_K0 (first := [.ref p]) I1.kIn hm.kp ?_
  obtain ⟨oc, od, dV, kV, doc, pm, an, cdv, ct, osl, rfl, lk, hcd, _, _⟩ := F.ex
  have KX : X.K.In s1.heap := I1.kIn
  have lim : s1.heap.NoLimit := I1.nolimit
  have hkind : ∀ y ∈ (["self"] : List Str).zip [Value.ref p], scope.names.lookup y.1 = some .local ∨ (scope.names.lookup y.1 = some .cell ∧ ((cellsFrom (s1.heap.objs.size + 1) scope.names []).lookup y.1).isSome = true) := fun y hy => by
    have e : y = (("self" : Str), Value.ref p) := by simpa using hy
    subst e
    exact .inl hself
  refine wpAny_call (codeAny_call_generator (by have := hr.dp; omega) (KX _ _ lk) rfl S.co S.gen rfl (PySem.W.codeRec_of KX hcd) (hb s1 [.ref p] KX rfl _ _ _ _ ?_))
  refine wpAny_newFunctionEnv_cells S.kind hkind fun env he s2 xc => ?_
  subst he
  obtain ⟨h2, tk, es2, hk2⟩ := xc.done
  have os2 : s2.os = s1.os := by rw [es2]
  have gen2 : s2.gens = s1.gens := by rw [es2]
  have ns2 := xc.toInCall.ns
  have kp2 : ∀ b o, s1.heap.get? b = some o → s2.heap.get? b = some o := xc.toInCall.keep
  refine ⟨lim.keeps kp2, ?_⟩
  refine wpAny_pyIter_gen (g := s2.gens.size) ⟨_, _, _, Heap.get?_push_size _ rfl, rfl, rfl, rfl⟩ ?_
  have hL : H1 s1.heap.objs.size = none := I1.hok.fresh (Nat.le_refl _)
  have lt2 : s1.heap.objs.size < s2.heap.objs.size := ns2.lt
  have hg2 : H1 s2.heap.objs.size = none := I1.hok.fresh (Nat.le_of_lt lt2)
  have gl1 : mainGlobals < s1.heap.objs.size := (I1.mod.glob.keeps I1.bk).lt
  have bl1 : builtinsNs < s1.heap.objs.size := let ⟨mb, h1, _⟩ := I1.mod.blt; (h1.keeps I1.bk).lt
  generalize hgo : ({ cls := .type "generator", data := .fields #[.int s2.gens.size 0, .str _ s2.toks, .str _ (s2.toks + 1)] } : Obj) = go
  have kp3 : ∀ b o, s1.heap.get? b = some o → (s2.heap.push go).get? b = some o := fun b o e => Heap.get?_push_of_some _ (kp2 b o e)
  refine ⟨s2.heap.objs.size, [s2.heap.objs.size, s1.heap.objs.size], _, Itc X.K p a b cc, H1, rfl, ?_, turn_cell (Q := Q) (Z := Z) (ga := s2.heap.objs.size) (g := s2.gens.size) (hE s1.heap.objs.size cdv) mr ha hab hcc hcb ⟨Nat.ne_of_gt gl1, Nat.ne_of_gt bl1⟩ (Nat.ne_of_gt lt2) ⟨Nat.ne_of_gt (Nat.lt_trans gl1 lt2), Nat.ne_of_gt (Nat.lt_trans bl1 lt2)⟩, ⟨rfl, ⟨go, _, _, Heap.get?_push_size _ (by rw [← hgo]; rfl), by rw [← hgo], by rw [← hgo], by rw [← hgo]⟩, Array.getElem?_push_size .., _, ns2.keeps fun b o e => Heap.get?_push_of_some _ e, ?_⟩, fun x hx => ?_, q⟩
  · refine I1.call' (ch := []) os2 (Un.kept kp3) (I1.hok.kept kp3) (AllBare.push (by rw [gen2]; exact I1.bare) rfl) fun b z => by simp at z
  · exact bindL_get (P := ["self"]) (vs := [Value.ref p]) (i := 0) (List.nodup_cons.mpr ⟨by simp, List.nodup_nil⟩) rfl rfl hself
  · simp only [List.mem_cons, List.not_mem_nil, or_false] at hx
    rcases hx with rfl | rfl
    · exact I1.fpOk (Nat.le_of_lt lt2) hg2
    · exact I1.fpOk (Nat.le_refl _) hL
end
end CpB
set_option Elab.async false
set_option linter.all false
set_option maxRecDepth 100000
set_option maxHeartbeats 4000000
/-! CrA: an own &, an own [], C.m() of a classmethod, C.m(..) of a static method, a class held by a local called, targets that are attributes. -/
namespace CpR
open PySem PySem.Spec PyProof.Rows L2
section
variable {X : Cx} {CX : CXT} {k : Nat} {C f g q : Addr} {mc : Value} {fd : FuncData} {ps : List Str} {sp : Sp} {E : XK} {m x : Str} {o e : Expr} {es : List Expr} {ta tb : TE} {t : TA} {pos apos p : Pos}
/-- what is left where a call of a def comes back -/
theorem call_at {A : Around} {pins : List (Addr × Obj)} {σ : L2.St} {H : Hp} {s : Shared} {Q : VK} {us : List Value} {vs : List V} {E' : Value → Shared → Prop} (F : FnOk X.prog X.w X.K X.mg X.base CX k f fd ps sp) (hr : Room k A) (hb : Binds X.K fd ps []) (hx : ∀ H s e s', CX X.stack H s E e s' → False) (I : Inv X pins σ H s)
    (hf : A.frames = X.A.frames) (r : Vals vs us) (h : sp vs H Q E) : wpAny (model X.prog X.w) A (call (.ref f) us) (EP X pins σ Q) E' s := by
  have e0 : Env0 X.prog X.w X.K X.mg X.base A X.stack s H := by
    have z := I.env0
    exact ⟨hf.trans z.frames, z.mod, z.bs, z.bsz, z.funs, z.frf, z.hok, z.bare⟩
  have hl : us.length = ps.length := r.length.symm.trans (F.len _ _ _ _ h)
  refine wpAny_call (codeAny_mono (F.run A X.stack s H ⟨us, []⟩ us vs Q E hr e0 (by simpa using hb s us I.kIn (by simpa using hl)) r h) fun r s' hq => ?_)
  match r, hq with
  | .error er, hq => exact False.elim (hx _ _ _ _ hq)
  | .ok (.ret u), hq => exact I.after hq
/-- an operator that the class defines, both sides of the class -/
def rBinO (C : Addr) (sp : Sp) (E : XK) : R2 := fun x y H Q => ∃ a b dx dy fs gs, x = .ref a ∧ y = .ref b ∧ H a = some (.ins C dx fs) ∧ H b = some (.ins C dy gs) ∧ sp [.ref a, .ref b] H (fun v H' => (∃ c, v = .ref c) ∧ Q v H') E
theorem op_own2 {op : Operator} (F : FnOk X.prog X.w X.K X.mg X.base CX k f fd ps sp) (hr : Room k X.A) (hb : Binds X.K fd ps []) (hx : ∀ H s e s', CX X.stack H s E e s' → False) (sf : PySem.W.selfFirst X.K C = true)
    (hs : PySem.W.findIn X.K (.ref C) (PySem.dunder op.info.2) = some (some (.ref f))) (hf : PySem.W.isFn X.K (.ref f) = true) : OpR X (binaryOp op) (rBinO C sp E) := by
  intro pins s σ H x y v u Q I rx ry hq
  obtain ⟨a, b, dx, dy, fs, gs, rfl, rfl, ha, hb', hsp⟩ := hq
  cases rx
  cases ry
  obtain ⟨mA, J, _⟩ := ins_get I.hok ha
  obtain ⟨mB, J', _⟩ := ins_get I.hok hb'
  obtain ⟨od, J, _⟩ := J.look
  obtain ⟨od', J', _⟩ := J'.look
  obtain ⟨m, hF⟩ := I.fr
  refine PySem.W.binop_K hF I.ok.mod.kin J J'.type sf hs hf (wpAny_mono (call_at (E' := X.xe) (us := [.ref a, .ref b]) (vs := [.ref a, .ref b]) F hr hb hx I rfl (.cons (show RelV (.ref a) (.ref a) from rfl) (.cons (show RelV (.ref b) (.ref b) from rfl) .nil)) hsp) (fun r s' hv => ?_) fun _ _ z => z)
  obtain ⟨v, H', I', rv, ⟨c, ev⟩, q⟩ := hv
  subst ev
  obtain rfl : r = Value.ref c := rv
  exact ⟨V.ref c, H', I', rfl, q⟩
/-- o[i] by the class's own __getitem__ -/
def tItemO (C : Addr) (sp : Sp) (E : XK) (ta tb : TE) : TE := fun σ H Q => ta σ H fun x H1 => tb σ H1 fun y H2 => ∃ a dx fs, x = .ref a ∧ H2 a = some (.ins C dx fs) ∧ sp [.ref a, y] H2 Q E
theorem pe_itemO (F : FnOk X.prog X.w X.K X.mg X.base CX k f fd ps sp) (hr : Room (k + 1) X.A) (hb : Binds X.K fd ps []) (hx : ∀ H s e s', CX X.stack H s E e s' → False)
    (hs : PySem.W.findIn X.K (.ref C) "__getitem__" = some (some (.ref f))) (hfn : PySem.W.fnIn X.K f = true) (hf : PySem.W.isFn X.K (.ref f) = true) (ha : PE X o ta) (hi : PE X e tb)
    (hsl : ∀ (x : Addr) (i : Value), subscripted e true (.ref x) i = runValue (.builtin "lifetime.subscript" ⟨[.ref x, i], []⟩) := by intro _ _; with_unfolding_all rfl) : PE X (.Subscript o e pos) (tItemO C sp E ta tb) := by
  refine ⟨fun pins s σ H Q I h => ?_⟩
  refine Subscript_ (thn (ha.run pins s σ H _ I h) fun u s1 ⟨x, H1, I1, rx, q1⟩ => thn (hi.run pins s1 σ H1 _ I1 q1) fun iv s2 ⟨y, H2, I2, ry, a, dx, fs, ex, ea, q2⟩ => ?_)
  subst ex
  obtain rfl : u = Value.ref a := rx
  obtain ⟨mA, J, _⟩ := ins_get I2.hok ea
  obtain ⟨od, J, _⟩ := J.look
  obtain ⟨m, hF⟩ := I2.fr
  exact PySem.W.sub_K hF I2.ok.mod.kin J hs hfn hf (call_at (E' := X.xe) (us := [.ref a, iv]) (vs := [.ref a, y]) F hr.in1 hb hx I2 rfl (.cons (show RelV (.ref a) (.ref a) from rfl) (.cons ry .nil)) q2) (hsl a iv)
/-- C.m() of a classmethod -/
def tCMeth0 (C : Addr) (sp : Sp) (E : XK) (ta : TE) : TE := fun σ H Q => ta σ H fun x H1 => x = .ref C ∧ sp [.ref C] H1 Q E
theorem pe_cmeth0 {g : Addr} {pl : Sem Bool} (he : PE X o ta) (r : ClX.CRead X.K C mc) (c : ClX.CMet X.K C mc m q g) (F : FnR X.prog X.w X.K X.mg X.base CX k g sp) (hr : Room k X.A) (hx : Passes CX X E)
    (ht : eval (.Call (.Attribute o m apos) [] [] pos) X.env = (do
      let ov ← eval o X.env
      standAt apos.atName
      let (f, first) ← holding [ov] (getMethod ov m pl)
      callWith pos f first (backTo pos (starEach [] X.env)) (backToKw pos (keywordEach [] X.env))) := by rfl) : PE X (.Call (.Attribute o m apos) [] [] pos) (tCMeth0 C sp E ta) := by
  refine ⟨fun pins s σ H Q I h => ?_⟩
  refine PySem.W.methodCall_KW (pl := pl) (thn (he.run pins s σ H _ I h) fun u s1 ⟨x, H1, I1, rx, ex, q⟩ => ?_) ht
  subst ex
  obtain rfl : u = Value.ref C := rx
  refine ClX.getmethcm_ok I1 r c fun s2 I2 => ?_
  refine PySem.W.callWith_M0 (K := X.K) (g := g) (self := .ref C) ⟨ClX.pin_at I2, I2.kIn⟩ c.fi ?_
  exact ClX.run_cm F hr hx I2 .nil q
/-- C.m(..) of a static method -/
structure SMet (K : PySem.W.Frag) (C : Addr) (mc : Value) (m : Str) (p g : Addr) (ob tp : Value) : Prop where
  at_ : PySem.W.findCls K (.ref C) mc m = some (.get (.builtin "staticmethod.__get__") (.ref p) ob tp)
  tpC : ∃ D : Addr, tp = .ref D
  rc : ∃ rest, PySem.W.recIn K p "staticmethod" = some (.ref g :: rest)
  kp : PySem.W.keepIn K (.ref g) = true
  hd : PySem.W.handedIn (.ref g) = true
def tSMeth (C : Addr) (sp : Sp) (E : XK) (ta : TE) (t : TA) : TE := fun σ H Q => ta σ H fun x H1 => x = .ref C ∧ t σ H1 fun vs H2 => sp vs H2 Q E
theorem pe_smeth {g : Addr} {ob tp : Value} {pl : Sem Bool} (he : PE X o ta) (r : ClX.CRead X.K C mc) (c : SMet X.K C mc m q g ob tp) (F : FnOk X.prog X.w X.K X.mg X.base CX k g fd ps sp) (hr : Room k X.A) (hb : Binds X.K fd ps []) (hx : Passes CX X E) (ha : PA X (e :: es) t)
    (hst : starEach (e :: es) X.env = (false, eval e X.env) :: starEach es X.env := by rfl) (hpl : (backTo pos (starEach es X.env)).any (·.1) = false := by rfl)
    (ht : eval (.Call (.Attribute o m apos) (e :: es) [] pos) X.env = (do
      let ov ← eval o X.env
      standAt apos.atName
      let (f, first) ← holding [ov] (getMethod ov m pl)
      callWith pos f first (backTo pos (starEach (e :: es) X.env)) (backToKw pos (keywordEach [] X.env))) := by rfl) : PE X (.Call (.Attribute o m apos) (e :: es) [] pos) (tSMeth C sp E ta t) := by
  refine ⟨fun pins s σ H Q I h => ?_⟩
  refine PySem.W.methodCall_KW (pl := pl) (thn (he.run pins s σ H _ I h) fun u s1 ⟨x, H1, I1, rx, ex, q⟩ => ?_) ht
  subst ex
  obtain rfl : u = Value.ref C := rx
  obtain ⟨rest, hp⟩ := c.rc
  obtain ⟨D, rfl⟩ := c.tpC
  refine PySem.W.method_cls I1.kIn r.ga (PySem.W.cls_bind I1.kIn r.rd c.at_ (wpAny_call (PySem.W.sm_get (s := { s1 with toks := s1.toks + 1 }) I1.kIn hp (PySem.W.handed_on c.hd ?_))))
  refine PySem.W.callWith_K (h₀ := X.base) (first := []) I1.ok.mod.kin c.kp (thn (ha.run pos pins _ σ H1 _ (I1.tok _) q) fun us s3 ⟨vs, H2, I3, rv, q2⟩ => ⟨I3.kIn, ?_⟩) hst hpl
  have z := run_fn (ds := []) (dvs := []) F hr hb .nil hx I3 rv (by rw [List.append_nil]; exact q2)
  exact z
/-- c(..), c a local that holds a class of one's own -/
def tMakeL (i : Nat) (C : Addr) (sp : Sp) (E : XK) (t : TA) : TE := fun σ H Q => σ[i]? = some (some (.ref C)) ∧ tMake C sp [] E t σ H Q
theorem pe_makeL {i : Nat} (M : Mk X.K C f) (F : FnOk X.prog X.w X.K X.mg X.base CX k f fd ps sp) (hr : Room (k + 1) X.A) (hN : X.N[i]? = some x) (hv : Vis X.env.scope x) (hb : Binds X.K fd ps []) (hx : Passes CX X E) (ha : PA X (e :: es) t)
    (hdb : (x == ("__debug__" : Str)) = false := by decide) (hcd : (x == ("__classdict__" : Str)) = false := by decide)
    (he : starEach (e :: es) X.env = (false, eval e X.env) :: starEach es X.env := by rfl) (hpl : (backTo pos (starEach es X.env)).any (·.1) = false := by rfl) : PE X (.Call (.Name x p) (e :: es) [] pos) (tMakeL i C sp E t) := by
  refine ⟨fun pins s σ H Q I h => ?_⟩
  obtain ⟨hs, ht⟩ := h
  refine wpAny_Call_Name_kw (thn ((pe_var (pos := p) hN hv hdb hcd).run pins s σ H (fun v H1 => v = .ref C ∧ H1 = H) I ⟨.ref C, hs, rfl, rfl⟩) fun u s1 ⟨v, H1, I1, r1, q1⟩ => ?_)
  obtain ⟨rfl, rfl⟩ := q1
  cases r1
  refine PySem.W.callWith_K (h₀ := X.base) I.ok.mod.kin M.kp (thn (ha.run pos pins s1 σ _ _ I1 ht) fun us s2 ⟨vs, H2, I2, r, q⟩ => ⟨I2.kIn, ?_⟩) he hpl
  exact run_make M F hr hb .nil hx I2 r q
/-- a target that is an attribute of an instance -/
def gFld (K : PySem.W.Frag) (ta : TE) (n : Str) : TG := fun v σ H Q => ta σ H fun x H1 => ∃ a C dx fs, x = .ref a ∧ H1 a = some (.ins C dx fs) ∧ Cls K C ∧ NoAttr K C n ∧ fs.length < 1000 ∧ Q σ (upd H1 a (.ins C dx (putF n v fs)))
theorem pg_fld (ho : PE X o ta) : PG X (.Attribute o m pos) (gFld X.K ta m) := by
  refine ⟨fun pins s σ H v u Q I r h => ?_⟩
  rw [assign_Attribute]
  refine wpAny_bind (wpAny_holding (thn (ho.run pins s σ H _ I h) fun ov s1 ⟨x, H1, I1, rx, a, C, dx, fs, ex, ea, c, n, l, q⟩ => ?_))
  subst ex
  obtain rfl : ov = Value.ref a := rx
  refine wpAny_bind (wpAny_standAt (wpAny_bind (wpAny_holding (setattr_ok I1 ea c n l r fun s3 I3 => wpAny_release ⟨σ, _, I3, q⟩))))
end
end CpR
set_option Elab.async false
set_option linter.all false
set_option maxRecDepth 100000
set_option maxHeartbeats 4000000
/-! CrB: defs by their names, with their promises. -/
namespace CpR
open PySem PySem.Spec PyProof.Rows L2
/-- the module's x is a def that keeps sp -/
def Df (P : Program) (w : World) (K : PySem.W.Frag) (mg : Str → Option Value) (base : Heap) (CX : CXT) (k : Nat) (x : Str) (sp : Sp) : Prop :=
  ∃ f, mg x = some (.ref f) ∧ PySem.W.keepIn K (.ref f) = true ∧ FnR P w K mg base CX k f sp
/-- the class at C has m as a def that keeps sp -/
def Dm (P : Program) (w : World) (K : PySem.W.Frag) (mg : Str → Option Value) (base : Heap) (CX : CXT) (k : Nat) (C : Addr) (m : Str) (sp : Sp) : Prop :=
  ∃ f, Meth K C m f ∧ FnR P w K mg base CX k f sp
/-- .. as a property -/
def Dp (P : Program) (w : World) (K : PySem.W.Frag) (mg : Str → Option Value) (base : Heap) (CX : CXT) (k : Nat) (C : Addr) (m : Str) (sp : Sp) : Prop :=
  ∃ p f fd ps, PropOf K C m p f ∧ FnOk P w K mg base CX k f fd ps sp ∧ Binds K fd ps []
/-- the module's x is the class at C, its __init__ keeps sp -/
def Dk (P : Program) (w : World) (K : PySem.W.Frag) (mg : Str → Option Value) (base : Heap) (CX : CXT) (k : Nat) (x : Str) (C : Addr) (sp : Sp) : Prop :=
  ∃ f fd ps, mg x = some (.ref C) ∧ Mk K C f ∧ FnOk P w K mg base CX k f fd ps sp ∧ Binds K fd ps []
def tCallR (sp : Sp) (E : XK) (t : TA) : TE := fun σ H Q => t σ H fun vs H1 => sp vs H1 Q E
section
variable {X : Cx} {CX : CXT} {k j : Nat} {C : Addr} {sp : Sp} {E : XK} {m x : Str} {o e : Expr} {es : List Expr} {ta tb : TE} {t : TA} {pos apos p : Pos}
theorem pe_df (D : Df X.prog X.w X.K X.mg X.base CX k x sp) (hr : Room j X.A) (hkj : k ≤ j) (hg : Gl X x) (hx : Passes CX X E) (ha : PA X (e :: es) t) (hdb : (x == ("__debug__" : Str)) = false := by decide)
    (he : starEach (e :: es) X.env = (false, eval e X.env) :: starEach es X.env := by rfl) (hpl : (backTo pos (starEach es X.env)).any (·.1) = false := by rfl) : PE X (.Call (.Name x p) (e :: es) [] pos) (tCallR sp E t) := by
  obtain ⟨f, hm, hk, F⟩ := D
  refine ⟨fun pins s σ H Q I h => ?_⟩
  refine wpAny_Call_Name_kw (ld_glob I hg hm ?_ hdb)
  refine PySem.W.callWith_K (h₀ := X.base) I.ok.mod.kin hk (thn (ha.run pos pins s σ H _ I h) fun us s1 ⟨vs, H1, I1, r, q⟩ => ⟨I1.kIn, ?_⟩) he hpl
  exact wpAny_call (run_fnR F (hr.mono hkj) hx I1 r q)
theorem pe_df0 (D : Df X.prog X.w X.K X.mg X.base CX k x sp) (hr : Room j X.A) (hkj : k ≤ j) (hg : Gl X x) (hx : Passes CX X E) (hdb : (x == ("__debug__" : Str)) = false := by decide) : PE X (.Call (.Name x p) [] [] pos) (tCallR sp E tNil) := by
  obtain ⟨f, hm, hk, F⟩ := D
  refine ⟨fun pins s σ H Q I h => ?_⟩
  refine wpAny_Call_Name_kw (ld_glob I hg hm ?_ hdb)
  exact PySem.W.callWith_K0 I.kIn hk (wpAny_call (run_fnR (us := []) F (hr.mono hkj) hx I .nil h))
/-- x(*y) -/
theorem pe_dfS {sp_ : Pos} (D : Df X.prog X.w X.K X.mg X.base CX k x sp) (hr : Room j X.A) (hkj : k ≤ j) (hg : Gl X x) (hx : Passes CX X E) (he : PE X e ta) (hd : (x == ("__debug__" : Str)) = false := by decide)
    (hst : starEach [.Starred e sp_] X.env = [(true, eval e X.env)] := by rfl) : PE X (.Call (.Name x p) [.Starred e sp_] [] pos) (fun σ H Q => ta σ H fun y H1 => ∃ a xs, y = V.ref a ∧ (SqT X.K H1 a xs ∨ SqL X.K H1 a xs) ∧ sp xs H1 Q E) := by
  obtain ⟨f, hm, hk, F⟩ := D
  exact StX.pe_callS1 F (hr.mono hkj) hk hg hm hx he hd hst
theorem pe_dm {pl : Sem Bool} (D : Dm X.prog X.w X.K X.mg X.base CX k C m sp) (c : Cls X.K C) (hr : Room j X.A) (hkj : k ≤ j) (hx : Passes CX X E) (he : PE X o ta) (ha : PA X (e :: es) t)
    (hst : starEach (e :: es) X.env = (false, eval e X.env) :: starEach es X.env := by rfl) (hpl : (backTo pos (starEach es X.env)).any (·.1) = false := by rfl)
    (ht : eval (.Call (.Attribute o m apos) (e :: es) [] pos) X.env = (do
      let ov ← eval o X.env
      standAt apos.atName
      let (f, first) ← holding [ov] (getMethod ov m pl)
      callWith pos f first (backTo pos (starEach (e :: es) X.env)) (backToKw pos (keywordEach [] X.env))) := by rfl) :
    PE X (.Call (.Attribute o m apos) (e :: es) [] pos) (tMethR C m sp E ta t) := by
  obtain ⟨f, hm, F⟩ := D
  exact pe_methR he c hm F (hr.mono hkj) hx ha hst hpl ht
theorem pe_dm0 {pl : Sem Bool} (D : Dm X.prog X.w X.K X.mg X.base CX k C m sp) (c : Cls X.K C) (hr : Room j X.A) (hkj : k ≤ j) (hx : Passes CX X E) (he : PE X o ta)
    (ht : eval (.Call (.Attribute o m apos) [] [] pos) X.env = (do
      let ov ← eval o X.env
      standAt apos.atName
      let (f, first) ← holding [ov] (getMethod ov m pl)
      callWith pos f first (backTo pos (starEach [] X.env)) (backToKw pos (keywordEach [] X.env))) := by rfl) :
    PE X (.Call (.Attribute o m apos) [] [] pos) (tMethR C m sp E ta tNil) := by
  obtain ⟨f, hm, F⟩ := D
  refine ⟨fun pins s σ H Q I h => ?_⟩
  refine PySem.W.methodCall_KW (pl := pl) (thn (he.run pins s σ H _ I h) fun u s1 ⟨x, H1, I1, rx, a, dx, fs, ex, ea, l, q⟩ => ?_) ht
  subst ex
  obtain rfl : u = Value.ref a := rx
  refine getmeth_ok I1 ea c hm l (PySem.W.callWith_K0 (first := [.ref a]) I1.kIn hm.kp ?_)
  exact wpAny_call (run_fnR (us := [.ref a]) (vs := [.ref a]) F (hr.mono hkj) hx I1 (.cons (show RelV (.ref a) (.ref a) from rfl) .nil) q)
theorem pe_dp (D : Dp X.prog X.w X.K X.mg X.base CX k C m sp) (c : Cls X.K C) (hr : Room j X.A) (hkj : k + 1 ≤ j) (hx : Passes CX X.nox E) (he : PE X o ta) (hab : attributeBase o m X.env (eval o X.env) = eval o X.env := by rfl) : PE X (.Attribute o m pos) (tProp C sp [] E ta) := by
  obtain ⟨p, f, fd, ps, hp, F, b⟩ := D
  exact pe_prop he c hp F (hr.mono hkj) b .nil hx hab
theorem pe_dk (D : Dk X.prog X.w X.K X.mg X.base CX k x C sp) (hr : Room j X.A) (hkj : k + 1 ≤ j) (hg : Gl X x) (hx : Passes CX X E) (ha : PA X (e :: es) t) (hdb : (x == ("__debug__" : Str)) = false := by decide)
    (he : starEach (e :: es) X.env = (false, eval e X.env) :: starEach es X.env := by rfl) (hpl : (backTo pos (starEach es X.env)).any (·.1) = false := by rfl) : PE X (.Call (.Name x p) (e :: es) [] pos) (tMake C sp [] E t) := by
  obtain ⟨f, fd, ps, hm, M, F, b⟩ := D
  exact pe_make M F (hr.mono hkj) hg hm b .nil hx ha hdb he hpl
theorem pe_dk0 (D : Dk X.prog X.w X.K X.mg X.base CX k x C sp) (hr : Room j X.A) (hkj : k + 1 ≤ j) (hg : Gl X x) (hx : Passes CX X E) (hdb : (x == ("__debug__" : Str)) = false := by decide) : PE X (.Call (.Name x p) [] [] pos) (tMake C sp [] E tNil) := by
  obtain ⟨f, fd, ps, hm, M, F, b⟩ := D
  exact pe_make0 M F (hr.mono hkj) hg hm b .nil hx hdb
end
/-! ### the defs of the text as they stand behind the top -/
/-- the module's x is the text's def st -/
def HasD (K : PySem.W.Frag) (mg : Str → Option Value) (x : Str) (st : Stmt) : Prop := ∃ f fd, mg x = some (.ref f) ∧ Fun K x x st f fd
def HasM (K : PySem.W.Frag) (C : Addr) (m qual : Str) (st : Stmt) : Prop := ∃ f fd, Meth K C m f ∧ Fun K m qual st f fd
def HasP (K : PySem.W.Frag) (C : Addr) (m qual : Str) (st : Stmt) : Prop := ∃ p f fd, PropOf K C m p f ∧ Fun K m qual st f fd
def HasK (K : PySem.W.Frag) (mg : Str → Option Value) (x : Str) (C : Addr) (qual : Str) (st : Stmt) : Prop := ∃ f fd, mg x = some (.ref C) ∧ Mk K C f ∧ Fun K "__init__" qual st f fd
/-- the arguments come to the parameters in order -/
def BindP (x : Str) (st : Stmt) (ps : List Str) : Prop := ∀ (qual : Str) (kV doc pm : Value) (an : Option Addr) (cdv ct : Value) (us : List Value), us.length = ps.length → bindArgs (PySem.W.fnOf x qual (defArgs st) (defBody st) (defScope st) .none kV doc pm an cdv ct) ⟨us, []⟩ = pure (ps.zip us)
section
variable {P : Program} {w : World} {K : PySem.W.Frag} {mg : Str → Option Value} {base : Heap} {k : Nat} {C : Addr} {x m qual : Str} {st : Stmt} {N ps : List Str} {sp : Sp}
abbrev BodyOk (P : Program) (w : World) (K : PySem.W.Frag) (mg : Str → Option Value) (base : Heap) (k : Nat) (N : List Str) (qual : Str) (st : Stmt) (sp : Sp) : Prop :=
  ∀ (f : Addr) (cdv : Value) (A : Around) (outer : List Env) (s : Shared) (H : Hp) (vs : List V) (Q : VK) (E : XK), Room k (A.deeper (envOfC qual (defScope st) s.heap.objs.size f cdv)) → sp vs H Q E →
    ∃ t, PSs (cxOf CX0 P w K mg base N qual (defScope st) f cdv A outer s H E).nox (defBody st) t ∧ t { nx := fun _ H' => Q .non H', rt := Q } (start N vs) H
abbrev BodyOkX (P : Program) (w : World) (K : PySem.W.Frag) (mg : Str → Option Value) (base : Heap) (k : Nat) (N : List Str) (qual : Str) (st : Stmt) (sp : Sp) : Prop :=
  ∀ (f : Addr) (cdv : Value) (A : Around) (outer : List Env) (s : Shared) (H : Hp) (vs : List V) (Q : VK) (E : XK), Room k (A.deeper (envOfC qual (defScope st) s.heap.objs.size f cdv)) → sp vs H Q E →
    ∃ t, PSs (cxOf (L2.CX P w) P w K mg base N qual (defScope st) f cdv A outer s H E) (defBody st) t ∧ t { nx := fun _ H' => Q .non H', rt := Q } (start N vs) H
theorem bind_of {f : Addr} {fd : FuncData} (F : Fun K x qual st f fd) (b : BindP x st ps) : Binds K fd ps [] := F.binds (b qual)
theorem df_of (h : HasD K mg x st) (S : FnScope N ps (defScope st)) (b : BindP x st ps) (len : ∀ vs H Q E, sp vs H Q E → vs.length = ps.length) (body : BodyOk P w K mg base k N x st sp) : Df P w K mg base CX0 (k + 1) x sp := by
  obtain ⟨f, fd, m, F⟩ := h
  refine ⟨f, m, F.kp, ?_⟩
  have G := (F.ok (P := P) (w := w) (mg := mg) (base := base) S len fun cdv A outer s H vs Q E hr q => body f cdv A outer s H vs Q E hr q).raw (bind_of F b) .nil
  simpa using G
theorem df_ofX (h : HasD K mg x st) (S : FnScope N ps (defScope st)) (b : BindP x st ps) (len : ∀ vs H Q E, sp vs H Q E → vs.length = ps.length) (body : BodyOkX P w K mg base k N x st sp) : Df P w K mg base (L2.CX P w) (k + 1) x sp := by
  obtain ⟨f, fd, m, F⟩ := h
  refine ⟨f, m, F.kp, ?_⟩
  have G := (F.okX (P := P) (w := w) (mg := mg) (base := base) S len fun cdv A outer s H vs Q E hr q => body f cdv A outer s H vs Q E hr q).raw (bind_of F b) .nil
  simpa using G
theorem dm_of (h : HasM K C m qual st) (S : FnScope N ps (defScope st)) (b : BindP m st ps) (len : ∀ vs H Q E, sp vs H Q E → vs.length = ps.length) (body : BodyOk P w K mg base k N qual st sp) : Dm P w K mg base CX0 (k + 1) C m sp := by
  obtain ⟨f, fd, hm, F⟩ := h
  refine ⟨f, hm, ?_⟩
  have G := (F.ok (P := P) (w := w) (mg := mg) (base := base) S len fun cdv A outer s H vs Q E hr q => body f cdv A outer s H vs Q E hr q).raw (bind_of F b) .nil
  simpa using G
theorem dp_of (h : HasP K C m qual st) (S : FnScope N ps (defScope st)) (b : BindP m st ps) (len : ∀ vs H Q E, sp vs H Q E → vs.length = ps.length) (body : BodyOk P w K mg base k N qual st sp) : Dp P w K mg base CX0 (k + 1) C m sp := by
  obtain ⟨p, f, fd, hp, F⟩ := h
  exact ⟨p, f, fd, ps, hp, F.ok (P := P) (w := w) (mg := mg) (base := base) S len fun cdv A outer s H vs Q E hr q => body f cdv A outer s H vs Q E hr q, bind_of F b⟩
theorem dk_of {x qual : Str} (h : HasK K mg x C qual st) (S : FnScope N ps (defScope st)) (b : BindP "__init__" st ps) (len : ∀ vs H Q E, sp vs H Q E → vs.length = ps.length) (body : BodyOk P w K mg base k N qual st sp) : Dk P w K mg base CX0 (k + 1) x C sp := by
  obtain ⟨f, fd, hm, M, F⟩ := h
  exact ⟨f, fd, ps, hm, M, F.ok (P := P) (w := w) (mg := mg) (base := base) S len fun cdv A outer s H vs Q E hr q => body f cdv A outer s H vs Q E hr q, bind_of F b⟩
/-- a def that may raise, where nothing is raised -/
theorem Df.calm (D : Df P w K mg base (L2.CX P w) k x sp) : Df P w K mg base CX0 k x (fun vs H Q _ => sp vs H Q fun _ _ _ => False) := by
  obtain ⟨f, m, kp, F⟩ := D
  refine ⟨f, m, kp, fun A outer s H us vs Q E hr e0 r q => codeAny_mono (F A outer s H us vs Q _ hr e0 r q) fun r s' h => ?_⟩
  match r, h with
  | .ok (.ret u), h => exact h
  | .error e, h =>
    obtain ⟨_, _, _, _, _, _, _, _, _, _, _, _, z⟩ := h
    exact z.elim
theorem Df.mono {CX : CXT} {j : Nat} (D : Df P w K mg base CX k x sp) (h : k ≤ j) : Df P w K mg base CX j x sp := let ⟨f, m, kp, F⟩ := D; ⟨f, m, kp, F.mono h⟩
end
end CpR
set_option Elab.async false
set_option linter.all false
set_option maxRecDepth 100000
set_option maxHeartbeats 4000000
/-! CrC: the text by places. -/
namespace CpR
open PySem PySem.Spec PyProof.Rows L2
def top (i : Nat) : Stmt := PySem.Challenge.pw_carpets_k36_whole_merged_carpets.main.body.getD i (.Pass ⟨0, 0, 0, 0⟩)
abbrev s_InvalidNumber_init : Stmt := inClass (top 6) 0
abbrev N_InvalidNumber_init : List Str := ["self", "value"]
theorem sc_InvalidNumber_init : FnScope N_InvalidNumber_init ["self", "value"] (defScope s_InvalidNumber_init) := ⟨rfl, rfl, rfl, by decide +kernel, rfl, by decide +kernel, by decide +kernel⟩
abbrev s_LimitExceeded_init : Stmt := inClass (top 8) 0
abbrev N_LimitExceeded_init : List Str := ["self", "limit"]
theorem sc_LimitExceeded_init : FnScope N_LimitExceeded_init ["self", "limit"] (defScope s_LimitExceeded_init) := ⟨rfl, rfl, rfl, by decide +kernel, rfl, by decide +kernel, by decide +kernel⟩
abbrev s_is_integer : Stmt := top 10
abbrev N_is_integer : List Str := ["value"]
theorem sc_is_integer : FnScope N_is_integer ["value"] (defScope s_is_integer) := ⟨rfl, rfl, rfl, by decide +kernel, rfl, by decide +kernel, by decide +kernel⟩
abbrev s_is_place : Stmt := top 11
abbrev N_is_place : List Str := ["value", "number"]
theorem sc_is_place : FnScope N_is_place ["value"] (defScope s_is_place) := ⟨rfl, rfl, rfl, by decide +kernel, rfl, by decide +kernel, by decide +kernel⟩
abbrev s_check_place : Stmt := top 12
abbrev N_check_place : List Str := ["value"]
theorem sc_check_place : FnScope N_check_place ["value"] (defScope s_check_place) := ⟨rfl, rfl, rfl, by decide +kernel, rfl, by decide +kernel, by decide +kernel⟩
abbrev s_greatest_divisor : Stmt := top 13
abbrev N_greatest_divisor : List Str := ["one", "other"]
theorem sc_greatest_divisor : FnScope N_greatest_divisor ["one", "other"] (defScope s_greatest_divisor) := ⟨rfl, rfl, rfl, by decide +kernel, rfl, by decide +kernel, by decide +kernel⟩
abbrev s_bezout : Stmt := top 14
abbrev N_bezout : List Str := ["one", "other", "first", "second", "times"]
theorem sc_bezout : FnScope N_bezout ["one", "other"] (defScope s_bezout) := ⟨rfl, rfl, rfl, by decide +kernel, rfl, by decide +kernel, by decide +kernel⟩
abbrev s_divisors : Stmt := top 15
abbrev N_divisors : List Str := ["number", "divisor"]
theorem sc_divisors : FnScope N_divisors ["number"] (defScope s_divisors) := ⟨rfl, rfl, rfl, by decide +kernel, rfl, by decide +kernel, by decide +kernel⟩
abbrev s_plus : Stmt := top 16
abbrev N_plus : List Str := ["one", "other"]
theorem sc_plus : FnScope N_plus ["one", "other"] (defScope s_plus) := ⟨rfl, rfl, rfl, by decide +kernel, rfl, by decide +kernel, by decide +kernel⟩
abbrev s_are_numbers : Stmt := top 23
abbrev N_are_numbers : List Str := ["numbers", "a", "b", "c", "number"]
theorem sc_are_numbers : FnScope N_are_numbers ["numbers"] (defScope s_are_numbers) := ⟨rfl, rfl, rfl, by decide +kernel, rfl, by decide +kernel, by decide +kernel⟩
abbrev s_common_numbers : Stmt := top 24
abbrev N_common_numbers : List Str := ["one", "other", "a", "b", "c", "p", "q", "r", "up", "first", "second", "divisor", "factor", "rows", "right", "width"]
theorem sc_common_numbers : FnScope N_common_numbers ["one", "other"] (defScope s_common_numbers) := ⟨rfl, rfl, rfl, by decide +kernel, rfl, by decide +kernel, by decide +kernel⟩
abbrev s_Net_init : Stmt := inClass (top 25) 0
abbrev N_Net_init : List Str := ["self", "a", "b", "c"]
theorem sc_Net_init : FnScope N_Net_init ["self", "a", "b", "c"] (defScope s_Net_init) := ⟨rfl, rfl, rfl, by decide +kernel, rfl, by decide +kernel, by decide +kernel⟩
abbrev s_Net_whole : Stmt := inClass (top 25) 2
abbrev N_Net_whole : List Str := ["cls"]
theorem sc_Net_whole : FnScope N_Net_whole ["cls"] (defScope s_Net_whole) := ⟨rfl, rfl, rfl, by decide +kernel, rfl, by decide +kernel, by decide +kernel⟩
abbrev s_Net_numbers : Stmt := inClass (top 25) 3
abbrev N_Net_numbers : List Str := ["self"]
theorem sc_Net_numbers : FnScope N_Net_numbers ["self"] (defScope s_Net_numbers) := ⟨rfl, rfl, rfl, by decide +kernel, rfl, by decide +kernel, by decide +kernel⟩
abbrev s_Net_size : Stmt := inClass (top 25) 4
abbrev N_Net_size : List Str := ["self"]
theorem sc_Net_size : FnScope N_Net_size ["self"] (defScope s_Net_size) := ⟨rfl, rfl, rfl, by decide +kernel, rfl, by decide +kernel, by decide +kernel⟩
abbrev s_Net_place_in_cell : Stmt := inClass (top 25) 6
abbrev N_Net_place_in_cell : List Str := ["self", "place", "a", "b", "c", "rows"]
theorem sc_Net_place_in_cell : FnScope N_Net_place_in_cell ["self", "place"] (defScope s_Net_place_in_cell) := ⟨rfl, rfl, rfl, by decide +kernel, rfl, by decide +kernel, by decide +kernel⟩
abbrev s_Net_and : Stmt := inClass (top 25) 8
abbrev N_Net_and : List Str := ["self", "other", "numbers"]
theorem sc_Net_and : FnScope N_Net_and ["self", "other"] (defScope s_Net_and) := ⟨rfl, rfl, rfl, by decide +kernel, rfl, by decide +kernel, by decide +kernel⟩
abbrev s_Net_spots : Stmt := inClass (top 25) 15
abbrev N_Net_spots : List Str := ["self", "b", "c", "a", "y", "x"]
theorem sc_Net_spots : FnScope N_Net_spots ["self"] (defScope s_Net_spots) := ⟨rfl, rfl, rfl, by decide +kernel, rfl, by decide +kernel, by decide +kernel⟩
abbrev s_Net_cell : Stmt := inClass (top 25) 16
abbrev N_Net_cell : List Str := ["self", "a", "b", "c", "y", "x"]
abbrev s_is_row : Stmt := top 31
abbrev N_is_row : List Str := ["value", "signs", "most", "sign"]
theorem sc_is_row : FnScope N_is_row ["value", "signs", "most"] (defScope s_is_row) := ⟨rfl, rfl, rfl, by decide +kernel, rfl, by decide +kernel, by decide +kernel⟩
abbrev s_check_rows : Stmt := top 32
abbrev N_check_rows : List Str := ["rows", "signs", "most", "index", "row"]
theorem sc_check_rows : FnScope N_check_rows ["rows", "signs", "most"] (defScope s_check_rows) := ⟨rfl, rfl, rfl, by decide +kernel, rfl, by decide +kernel, by decide +kernel⟩
abbrev s_checked_block : Stmt := top 33
abbrev N_checked_block : List Str := ["rows", "shift", "width"]
theorem sc_checked_block : FnScope N_checked_block ["rows", "shift"] (defScope s_checked_block) := ⟨rfl, rfl, rfl, by decide +kernel, rfl, by decide +kernel, by decide +kernel⟩
abbrev s_colour_at : Stmt := top 34
abbrev N_colour_at : List Str := ["net", "text", "place", "x", "y"]
theorem sc_colour_at : FnScope N_colour_at ["net", "text", "place"] (defScope s_colour_at) := ⟨rfl, rfl, rfl, by decide +kernel, rfl, by decide +kernel, by decide +kernel⟩
abbrev s_is_kept : Stmt := top 35
abbrev N_is_kept : List Str := ["net", "text", "shift", "place"]
theorem sc_is_kept : FnScope N_is_kept ["net", "text", "shift"] (defScope s_is_kept) := ⟨rfl, rfl, rfl, by decide +kernel, rfl, by decide +kernel, by decide +kernel⟩
abbrev s_kept_net : Stmt := top 36
abbrev N_kept_net : List Str := ["net", "text", "a", "b", "c", "width", "rows", "right", "number"]
theorem sc_kept_net : FnScope N_kept_net ["net", "text"] (defScope s_kept_net) := ⟨rfl, rfl, rfl, by decide +kernel, rfl, by decide +kernel, by decide +kernel⟩
abbrev s_least_cell : Stmt := top 37
abbrev N_least_cell : List Str := ["net", "text", "least", "place"]
theorem sc_least_cell : FnScope N_least_cell ["net", "text"] (defScope s_least_cell) := ⟨rfl, rfl, rfl, by decide +kernel, rfl, by decide +kernel, by decide +kernel⟩
abbrev s_Carpet_init : Stmt := inClass (top 38) 0
abbrev N_Carpet_init : List Str := ["self", "rows", "shift", "net", "text"]
theorem sc_Carpet_init : FnScope N_Carpet_init ["self", "rows", "shift"] (defScope s_Carpet_init) := ⟨rfl, rfl, rfl, by decide +kernel, rfl, by decide +kernel, by decide +kernel⟩
abbrev s_Carpet_on : Stmt := inClass (top 38) 1
abbrev N_Carpet_on : List Str := ["net", "text"]
theorem sc_Carpet_on : FnScope N_Carpet_on ["net", "text"] (defScope s_Carpet_on) := ⟨rfl, rfl, rfl, by decide +kernel, rfl, by decide +kernel, by decide +kernel⟩
abbrev s_Carpet_net : Stmt := inClass (top 38) 3
abbrev N_Carpet_net : List Str := ["self"]
theorem sc_Carpet_net : FnScope N_Carpet_net ["self"] (defScope s_Carpet_net) := ⟨rfl, rfl, rfl, by decide +kernel, rfl, by decide +kernel, by decide +kernel⟩
abbrev s_Carpet_colours : Stmt := inClass (top 38) 6
abbrev N_Carpet_colours : List Str := ["self", "colour"]
theorem sc_Carpet_colours : FnScope N_Carpet_colours ["self"] (defScope s_Carpet_colours) := ⟨rfl, rfl, rfl, by decide +kernel, rfl, by decide +kernel, by decide +kernel⟩
abbrev s_Carpet_seen : Stmt := inClass (top 38) 7
abbrev N_Carpet_seen : List Str := ["self", "place"]
theorem sc_Carpet_seen : FnScope N_Carpet_seen ["self", "place"] (defScope s_Carpet_seen) := ⟨rfl, rfl, rfl, by decide +kernel, rfl, by decide +kernel, by decide +kernel⟩
abbrev s_Carpet_getitem : Stmt := inClass (top 38) 8
abbrev N_Carpet_getitem : List Str := ["self", "place"]
theorem sc_Carpet_getitem : FnScope N_Carpet_getitem ["self", "place"] (defScope s_Carpet_getitem) := ⟨rfl, rfl, rfl, by decide +kernel, rfl, by decide +kernel, by decide +kernel⟩
abbrev s_Woven_init : Stmt := inClass (top 39) 0
abbrev N_Woven_init : List Str := ["self", "net", "text"]
theorem sc_Woven_init : FnScope N_Woven_init ["self", "net", "text"] (defScope s_Woven_init) := ⟨rfl, rfl, rfl, by decide +kernel, rfl, by decide +kernel, by decide +kernel⟩
abbrev s_common_net : Stmt := top 41
abbrev N_common_net : List Str := ["nets", "result", "net"]
theorem sc_common_net : FnScope N_common_net ["nets"] (defScope s_common_net) := ⟨rfl, rfl, rfl, by decide +kernel, rfl, by decide +kernel, by decide +kernel⟩
abbrev s_net_of_all : Stmt := top 42
abbrev N_net_of_all : List Str := ["carpets", "nets", "carpet"]
theorem sc_net_of_all : FnScope N_net_of_all ["carpets"] (defScope s_net_of_all) := ⟨rfl, rfl, rfl, by decide +kernel, rfl, by decide +kernel, by decide +kernel⟩
abbrev s_refinement : Stmt := top 44
abbrev N_refinement : List Str := ["one", "other", "found", "place", "colour"]
theorem sc_refinement : FnScope N_refinement ["one", "other"] (defScope s_refinement) := ⟨rfl, rfl, rfl, by decide +kernel, rfl, by decide +kernel, by decide +kernel⟩
abbrev s_is_finer : Stmt := top 45
abbrev N_is_finer : List Str := ["one", "other"]
theorem sc_is_finer : FnScope N_is_finer ["one", "other"] (defScope s_is_finer) := ⟨rfl, rfl, rfl, by decide +kernel, rfl, by decide +kernel, by decide +kernel⟩
abbrev s_colours_at : Stmt := top 46
abbrev N_colours_at : List Str := ["carpets", "place", "carpet"]
theorem sc_colours_at : FnScope N_colours_at ["carpets", "place"] (defScope s_colours_at) := ⟨rfl, rfl, rfl, by decide +kernel, rfl, by decide +kernel, by decide +kernel⟩
abbrev s_paired : Stmt := top 47
abbrev N_paired : List Str := ["carpets", "net", "rows", "known", "place", "row"]
theorem sc_paired : FnScope N_paired ["carpets"] (defScope s_paired) := ⟨rfl, rfl, rfl, by decide +kernel, rfl, by decide +kernel, by decide +kernel⟩
abbrev s_Links_init : Stmt := inClass (top 48) 0
abbrev N_Links_init : List Str := ["self"]
theorem sc_Links_init : FnScope N_Links_init ["self"] (defScope s_Links_init) := ⟨rfl, rfl, rfl, by decide +kernel, rfl, by decide +kernel, by decide +kernel⟩
abbrev s_Links_representative : Stmt := inClass (top 48) 1
abbrev N_Links_representative : List Str := ["self", "thing"]
theorem sc_Links_representative : FnScope N_Links_representative ["self", "thing"] (defScope s_Links_representative) := ⟨rfl, rfl, rfl, by decide +kernel, rfl, by decide +kernel, by decide +kernel⟩
abbrev s_Links_link : Stmt := inClass (top 48) 2
abbrev N_Links_link : List Str := ["self", "one", "other", "first", "second"]
theorem sc_Links_link : FnScope N_Links_link ["self", "one", "other"] (defScope s_Links_link) := ⟨rfl, rfl, rfl, by decide +kernel, rfl, by decide +kernel, by decide +kernel⟩
abbrev s_merged : Stmt := top 49
abbrev N_merged : List Str := ["carpets", "net", "place", "row", "number", "colour", "links", "known", "letters"]
theorem sc_merged : FnScope N_merged ["carpets"] (defScope s_merged) := ⟨rfl, rfl, rfl, by decide +kernel, rfl, by decide +kernel, by decide +kernel⟩
abbrev s_law_tape : Stmt := top 51
abbrev N_law_tape : List Str := ["_law_script"]
theorem sc_law_tape : FnScope N_law_tape ["_law_script"] (defScope s_law_tape) := ⟨rfl, rfl, rfl, by decide +kernel, rfl, by decide +kernel, by decide +kernel⟩
abbrev s_law_draw : Stmt := top 52
abbrev N_law_draw : List Str := ["_law_tape_here", "_law_many", "_law_digit", "_law_cell", "_law_near"]
theorem sc_law_draw : FnScope N_law_draw ["_law_tape_here", "_law_many"] (defScope s_law_draw) := ⟨rfl, rfl, rfl, by decide +kernel, rfl, by decide +kernel, by decide +kernel⟩
abbrev s_law_low : Stmt := top 53
abbrev N_law_low : List Str := ["_law_net_here", "_law_place", "_law_times"]
theorem sc_law_low : FnScope N_law_low ["_law_net_here", "_law_place"] (defScope s_law_low) := ⟨rfl, rfl, rfl, by decide +kernel, rfl, by decide +kernel, by decide +kernel⟩
abbrev s_law_spots : Stmt := top 54
abbrev N_law_spots : List Str := ["_law_net_here", "_law_at"]
theorem sc_law_spots : FnScope N_law_spots ["_law_net_here"] (defScope s_law_spots) := ⟨rfl, rfl, rfl, by decide +kernel, rfl, by decide +kernel, by decide +kernel⟩
abbrev s_law_seen : Stmt := top 55
abbrev N_law_seen : List Str := ["_law_net_here", "_law_text", "_law_place", "_law_x", "_law_y"]
theorem sc_law_seen : FnScope N_law_seen ["_law_net_here", "_law_text", "_law_place"] (defScope s_law_seen) := ⟨rfl, rfl, rfl, by decide +kernel, rfl, by decide +kernel, by decide +kernel⟩
abbrev s_law_net : Stmt := top 56
abbrev N_law_net : List Str := ["_law_tape_here", "_law_most", "_law_wide"]
theorem sc_law_net : FnScope N_law_net ["_law_tape_here", "_law_most"] (defScope s_law_net) := ⟨rfl, rfl, rfl, by decide +kernel, rfl, by decide +kernel, by decide +kernel⟩
abbrev s_law_turned : Stmt := top 57
abbrev N_law_turned : List Str := ["_law_kind", "_law_place", "_law_x", "_law_y"]
theorem sc_law_turned : FnScope N_law_turned ["_law_kind", "_law_place"] (defScope s_law_turned) := ⟨rfl, rfl, rfl, by decide +kernel, rfl, by decide +kernel, by decide +kernel⟩
abbrev s_law_kinds : Stmt := top 58
abbrev N_law_kinds : List Str := []
theorem sc_law_kinds : FnScope N_law_kinds [] (defScope s_law_kinds) := ⟨rfl, rfl, rfl, by decide +kernel, rfl, by decide +kernel, by decide +kernel⟩
abbrev s_law_carried : Stmt := top 59
abbrev N_law_carried : List Str := ["_law_move_here", "_law_place", "_law_x", "_law_y"]
theorem sc_law_carried : FnScope N_law_carried ["_law_move_here", "_law_place"] (defScope s_law_carried) := ⟨rfl, rfl, rfl, by decide +kernel, rfl, by decide +kernel, by decide +kernel⟩
abbrev s_law_divisor : Stmt := top 60
abbrev N_law_divisor : List Str := ["_law_one", "_law_other"]
theorem sc_law_divisor : FnScope N_law_divisor ["_law_one", "_law_other"] (defScope s_law_divisor) := ⟨rfl, rfl, rfl, by decide +kernel, rfl, by decide +kernel, by decide +kernel⟩
abbrev s_law_keeps : Stmt := top 61
abbrev N_law_keeps : List Str := ["_law_net_here", "_law_kind", "_law_rows", "_law_row"]
theorem sc_law_keeps : FnScope N_law_keeps ["_law_net_here", "_law_kind"] (defScope s_law_keeps) := ⟨rfl, rfl, rfl, by decide +kernel, rfl, by decide +kernel, by decide +kernel⟩
abbrev s_law_move : Stmt := top 62
abbrev N_law_move : List Str := ["_law_tape_here", "_law_net_here", "_law_some_here", "_law_kind"]
theorem sc_law_move : FnScope N_law_move ["_law_tape_here", "_law_net_here"] (defScope s_law_move) := ⟨rfl, rfl, rfl, by decide +kernel, rfl, by decide +kernel, by decide +kernel⟩
abbrev s_law_tied : Stmt := top 63
abbrev N_law_tied : List Str := ["_law_net_here", "_law_text", "_law_moves", "_law_spots_here", "_law_spot", "_law_line", "_law_found", "_law_here", "_law_move_here"]
theorem sc_law_tied : FnScope N_law_tied ["_law_net_here", "_law_text", "_law_moves"] (defScope s_law_tied) := ⟨rfl, rfl, rfl, by decide +kernel, rfl, by decide +kernel, by decide +kernel⟩
abbrev s_law_letters : Stmt := top 64
abbrev N_law_letters : List Str := ["_law_tape_here", "_law_many", "_law_some_here", "_law_k"]
theorem sc_law_letters : FnScope N_law_letters ["_law_tape_here", "_law_many"] (defScope s_law_letters) := ⟨rfl, rfl, rfl, by decide +kernel, rfl, by decide +kernel, by decide +kernel⟩
abbrev s_law_square : Stmt := top 65
abbrev N_law_square : List Str := ["_law_tape_here", "_law_most", "_law_side", "_law_some_here", "_law_net_here"]
theorem sc_law_square : FnScope N_law_square ["_law_tape_here", "_law_most"] (defScope s_law_square) := ⟨rfl, rfl, rfl, by decide +kernel, rfl, by decide +kernel, by decide +kernel⟩
abbrev s_law_copied : Stmt := top 66
abbrev N_law_copied : List Str := ["_law_tape_here", "_law_net_here", "_law_text", "_law_most", "_law_wide", "_law_high", "_law_larger", "_law_spot"]
theorem sc_law_copied : FnScope N_law_copied ["_law_tape_here", "_law_net_here", "_law_text", "_law_most"] (defScope s_law_copied) := ⟨rfl, rfl, rfl, by decide +kernel, rfl, by decide +kernel, by decide +kernel⟩
abbrev s_law_woven : Stmt := top 67
abbrev N_law_woven : List Str := ["_law_tape_here", "_law_most", "_law_way", "_law_moves", "_law_net_here", "_law_slope", "_law_line", "_law_size", "_law_k", "_law_x", "_law_y"]
theorem sc_law_woven : FnScope N_law_woven ["_law_tape_here", "_law_most"] (defScope s_law_woven) := ⟨rfl, rfl, rfl, by decide +kernel, rfl, by decide +kernel, by decide +kernel⟩
abbrev s_law_made : Stmt := top 68
abbrev N_law_made : List Str := ["_law_tape_here", "_law_net_here", "_law_text", "_law_rows", "_law_k"]
theorem sc_law_made : FnScope N_law_made ["_law_tape_here", "_law_net_here", "_law_text"] (defScope s_law_made) := ⟨rfl, rfl, rfl, by decide +kernel, rfl, by decide +kernel, by decide +kernel⟩
abbrev s_law_told : Stmt := top 69
abbrev N_law_told : List Str := ["_law_call", "e"]
theorem sc_law_told : FnScope N_law_told ["_law_call"] (defScope s_law_told) := ⟨rfl, rfl, rfl, by decide +kernel, rfl, by decide +kernel, by decide +kernel⟩
abbrev s_law_common : Stmt := top 70
abbrev N_law_common : List Str := ["_law_nets", "_law_wide", "_law_net_here", "_law_high", "_law_right"]
theorem sc_law_common : FnScope N_law_common ["_law_nets"] (defScope s_law_common) := ⟨rfl, rfl, rfl, by decide +kernel, rfl, by decide +kernel, by decide +kernel⟩
abbrev s_law_groups : Stmt := top 71
abbrev N_law_groups : List Str := ["_law_rows", "_law_known", "_law_found", "_law_turn", "_law_one", "_law_other", "_law_k", "_law_row"]
theorem sc_law_groups : FnScope N_law_groups ["_law_rows"] (defScope s_law_groups) := ⟨rfl, rfl, rfl, by decide +kernel, rfl, by decide +kernel, by decide +kernel⟩
abbrev s_law_due : Stmt := top 72
abbrev N_law_due : List Str := ["_law_rows", "_law_row", "_law_found", "_law_least", "_law_order", "_law_number"]
theorem sc_law_due : FnScope N_law_due ["_law_rows"] (defScope s_law_due) := ⟨rfl, rfl, rfl, by decide +kernel, rfl, by decide +kernel, by decide +kernel⟩
abbrev s_law_merged : Stmt := top 73
abbrev N_law_merged : List Str := ["_law_some_here"]
theorem sc_law_merged : FnScope N_law_merged ["_law_some_here"] (defScope s_law_merged) := ⟨rfl, rfl, rfl, by decide +kernel, rfl, by decide +kernel, by decide +kernel⟩
abbrev s_law_some : Stmt := top 74
abbrev N_law_some : List Str := ["_law_tape_here", "_law_found", "_law_turn", "_law_way", "_law_net_here", "_law_text", "_law_table", "_law_sign"]
theorem sc_law_some : FnScope N_law_some ["_law_tape_here"] (defScope s_law_some) := ⟨rfl, rfl, rfl, by decide +kernel, rfl, by decide +kernel, by decide +kernel⟩
abbrev s_law : Stmt := top 75
abbrev N_law : List Str := ["_law_script", "_law_turn", "_law_some_here", "_law_carpet", "_law_common_here", "_law_spots_here", "_law_rows", "_law_answers", "_law_tape_here", "_law_woven_here", "_law_due_here", "_law_known", "_law_found", "_law_fine", "_law_tall", "_law_wide", "_law_net_here", "_law_text", "_law_spot", "_law_row"]
theorem sc_law : FnScope N_law ["_law_script"] (defScope s_law) := ⟨rfl, rfl, rfl, by decide +kernel, rfl, by decide +kernel, by decide +kernel⟩
end CpR
set_option Elab.async false
set_option linter.all false
set_option maxRecDepth 100000
set_option maxHeartbeats 4000000
/-! D00: what the bodies need of the text and of the names. -/
namespace CpR
open PySem PySem.Spec PyProof.Rows L2
structure Bt (mg : Str → Option Value) : Prop where
  isinstance : mg "isinstance" = none
  len : mg "len" = none
  b_all : mg "all" = none
  abs : mg "abs" = none
  range : mg "range" = none
  sorted : mg "sorted" = none
  b_set : mg "set" = none
  b_dict : mg "dict" = none
  enumerate : mg "enumerate" = none
  b_min : mg "min" = none
  b_max : mg "max" = none
  b_tuple : mg "tuple" = none
  b_list : mg "list" = none
  b_int : mg "int" = none
  b_str : mg "str" = none
  b_bool : mg "bool" = none
  NotImplemented : mg "NotImplemented" = none
structure Txt (K : PySem.W.Frag) (mg : Str → Option Value) (CN CC CW CL : Addr) : Prop where
  bt : Bt mg
  d_is_integer : HasD K mg "is_integer" s_is_integer
  d_is_place : HasD K mg "is_place" s_is_place
  d_check_place : HasD K mg "check_place" s_check_place
  d_greatest_divisor : HasD K mg "greatest_divisor" s_greatest_divisor
  d_bezout : HasD K mg "bezout" s_bezout
  d_divisors : HasD K mg "divisors" s_divisors
  d_plus : HasD K mg "plus" s_plus
  d_are_numbers : HasD K mg "are_numbers" s_are_numbers
  d_common_numbers : HasD K mg "common_numbers" s_common_numbers
  k_Net : HasK K mg "Net" CN "Net.__init__" s_Net_init
  p_Net_numbers : HasP K CN "numbers" "Net.numbers" s_Net_numbers
  p_Net_size : HasP K CN "size" "Net.size" s_Net_size
  m_Net_place_in_cell : HasM K CN "place_in_cell" "Net.place_in_cell" s_Net_place_in_cell
  m_Net_and : HasM K CN "__and__" "Net.__and__" s_Net_and
  m_Net_spots : HasM K CN "spots" "Net.spots" s_Net_spots
  d_is_row : HasD K mg "is_row" s_is_row
  d_check_rows : HasD K mg "check_rows" s_check_rows
  d_checked_block : HasD K mg "checked_block" s_checked_block
  d_colour_at : HasD K mg "colour_at" s_colour_at
  d_is_kept : HasD K mg "is_kept" s_is_kept
  d_kept_net : HasD K mg "kept_net" s_kept_net
  d_least_cell : HasD K mg "least_cell" s_least_cell
  k_Carpet : ∃ f fd, Mk K CC f ∧ FunD K "__init__" "Carpet.__init__" (defArgs s_Carpet_init) (defBody s_Carpet_init) (defScope s_Carpet_init) [] [("shift", .int 0)] f fd
  pC_Carpet_net : HasP K CC "net" "Carpet.net" s_Carpet_net
  pW_Carpet_net : HasP K CW "net" "Carpet.net" s_Carpet_net
  pC_Carpet_colours : HasP K CC "colours" "Carpet.colours" s_Carpet_colours
  pW_Carpet_colours : HasP K CW "colours" "Carpet.colours" s_Carpet_colours
  mC_Carpet_seen : HasM K CC "seen" "Carpet.seen" s_Carpet_seen
  mW_Carpet_seen : HasM K CW "seen" "Carpet.seen" s_Carpet_seen
  mC_Carpet_getitem : HasM K CC "__getitem__" "Carpet.__getitem__" s_Carpet_getitem
  mW_Carpet_getitem : HasM K CW "__getitem__" "Carpet.__getitem__" s_Carpet_getitem
  k_Woven : HasK K mg "Woven" CW "Woven.__init__" s_Woven_init
  d_common_net : HasD K mg "common_net" s_common_net
  d_net_of_all : HasD K mg "net_of_all" s_net_of_all
  d_refinement : HasD K mg "refinement" s_refinement
  d_is_finer : HasD K mg "is_finer" s_is_finer
  d_colours_at : HasD K mg "colours_at" s_colours_at
  d_paired : HasD K mg "paired" s_paired
  k_Links : HasK K mg "Links" CL "Links.__init__" s_Links_init
  m_Links_representative : HasM K CL "representative" "Links.representative" s_Links_representative
  m_Links_link : HasM K CL "link" "Links.link" s_Links_link
  d_merged : HasD K mg "merged" s_merged
  d_law_tape : HasD K mg "_law_tape" s_law_tape
  d_law_draw : HasD K mg "_law_draw" s_law_draw
  d_law_low : HasD K mg "_law_low" s_law_low
  d_law_spots : HasD K mg "_law_spots" s_law_spots
  d_law_seen : HasD K mg "_law_seen" s_law_seen
  d_law_net : HasD K mg "_law_net" s_law_net
  d_law_turned : HasD K mg "_law_turned" s_law_turned
  d_law_kinds : HasD K mg "_law_kinds" s_law_kinds
  d_law_carried : HasD K mg "_law_carried" s_law_carried
  d_law_divisor : HasD K mg "_law_divisor" s_law_divisor
  d_law_keeps : HasD K mg "_law_keeps" s_law_keeps
  d_law_move : HasD K mg "_law_move" s_law_move
  d_law_tied : HasD K mg "_law_tied" s_law_tied
  d_law_letters : HasD K mg "_law_letters" s_law_letters
  d_law_square : HasD K mg "_law_square" s_law_square
  d_law_copied : HasD K mg "_law_copied" s_law_copied
  d_law_woven : HasD K mg "_law_woven" s_law_woven
  d_law_made : HasD K mg "_law_made" s_law_made
  d_law_told : HasD K mg "_law_told" s_law_told
  d_law_common : HasD K mg "_law_common" s_law_common
  d_law_groups : HasD K mg "_law_groups" s_law_groups
  d_law_due : HasD K mg "_law_due" s_law_due
  d_law_merged : HasD K mg "_law_merged" s_law_merged
  d_law_some : HasD K mg "_law_some" s_law_some
  d_law : HasD K mg "law" s_law
  cls_CN : Cls K CN
  cls_CC : Cls K CC
  cls_CW : Cls K CW
  cls_CL : Cls K CL
  na_N : NoAttr K CN "own_numbers"
  na_Cn : NoAttr K CC "own_net"
  na_Ct : NoAttr K CC "own_text"
  na_Wn : NoAttr K CW "own_net"
  na_Wt : NoAttr K CW "own_text"
  na_L : NoAttr K CL "nearer"
  ins_N : C8.InsC K CN
  g_Net : mg "Net" = some (.ref CN)
  g_Carpet : mg "Carpet" = some (.ref CC)
  sf_N : PySem.W.selfFirst K CN = true
  whole : ∃ mc p g fd, ClX.CRead K CN mc ∧ ClX.CMet K CN mc "whole" p g ∧ Fun K "whole" "Net.whole" s_Net_whole g fd
  on : ∃ mc p g fd ob tp, ClX.CRead K CC mc ∧ SMet K CC mc "on" p g ob tp ∧ Fun K "on" "Carpet.on" s_Carpet_on g fd
  gi_C : ∃ f, PySem.W.findIn K (.ref CC) "__getitem__" = some (some (.ref f)) ∧ PySem.W.fnIn K f = true
  gi_W : ∃ f, PySem.W.findIn K (.ref CW) "__getitem__" = some (some (.ref f)) ∧ PySem.W.fnIn K f = true
  c_LETTERS : ∃ t, mg "LETTERS" = some (.str "abcdefghijklmnopqrstuvwxyz" t)
  c_MOST_ROWS : ∃ t, mg "MOST_ROWS" = some (.int 100 t)
  c_MOST_LETTERS : ∃ t, mg "MOST_LETTERS" = some (.int 1000 t)
  c_MOST_PLACES : ∃ t, mg "MOST_PLACES" = some (.int 2000 t)
  m_Net_cell : ∃ f fd, Meth K CN "cell" f ∧ FunD K "cell" "Net.cell" (defArgs s_Net_cell) (defBody s_Net_cell) (defScope s_Net_cell) [] [] f fd
theorem b_is_integer : BindP "is_integer" s_is_integer ["value"] := fun _ _ _ _ _ _ _ us hl => match us, hl with | [_], _ => rfl
theorem b_is_place : BindP "is_place" s_is_place ["value"] := fun _ _ _ _ _ _ _ us hl => match us, hl with | [_], _ => rfl
theorem b_check_place : BindP "check_place" s_check_place ["value"] := fun _ _ _ _ _ _ _ us hl => match us, hl with | [_], _ => rfl
theorem b_greatest_divisor : BindP "greatest_divisor" s_greatest_divisor ["one", "other"] := fun _ _ _ _ _ _ _ us hl => match us, hl with | [_, _], _ => rfl
theorem b_bezout : BindP "bezout" s_bezout ["one", "other"] := fun _ _ _ _ _ _ _ us hl => match us, hl with | [_, _], _ => rfl
theorem b_divisors : BindP "divisors" s_divisors ["number"] := fun _ _ _ _ _ _ _ us hl => match us, hl with | [_], _ => rfl
theorem b_plus : BindP "plus" s_plus ["one", "other"] := fun _ _ _ _ _ _ _ us hl => match us, hl with | [_, _], _ => rfl
theorem b_are_numbers : BindP "are_numbers" s_are_numbers ["numbers"] := fun _ _ _ _ _ _ _ us hl => match us, hl with | [_], _ => rfl
theorem b_common_numbers : BindP "common_numbers" s_common_numbers ["one", "other"] := fun _ _ _ _ _ _ _ us hl => match us, hl with | [_, _], _ => rfl
theorem b_Net_init : BindP "__init__" s_Net_init ["self", "a", "b", "c"] := fun _ _ _ _ _ _ _ us hl => match us, hl with | [_, _, _, _], _ => rfl
theorem b_Net_whole : BindP "whole" s_Net_whole ["cls"] := fun _ _ _ _ _ _ _ us hl => match us, hl with | [_], _ => rfl
theorem b_Net_numbers : BindP "numbers" s_Net_numbers ["self"] := fun _ _ _ _ _ _ _ us hl => match us, hl with | [_], _ => rfl
theorem b_Net_size : BindP "size" s_Net_size ["self"] := fun _ _ _ _ _ _ _ us hl => match us, hl with | [_], _ => rfl
theorem b_Net_place_in_cell : BindP "place_in_cell" s_Net_place_in_cell ["self", "place"] := fun _ _ _ _ _ _ _ us hl => match us, hl with | [_, _], _ => rfl
theorem b_Net_and : BindP "__and__" s_Net_and ["self", "other"] := fun _ _ _ _ _ _ _ us hl => match us, hl with | [_, _], _ => rfl
theorem b_Net_spots : BindP "spots" s_Net_spots ["self"] := fun _ _ _ _ _ _ _ us hl => match us, hl with | [_], _ => rfl
theorem b_is_row : BindP "is_row" s_is_row ["value", "signs", "most"] := fun _ _ _ _ _ _ _ us hl => match us, hl with | [_, _, _], _ => rfl
theorem b_check_rows : BindP "check_rows" s_check_rows ["rows", "signs", "most"] := fun _ _ _ _ _ _ _ us hl => match us, hl with | [_, _, _], _ => rfl
theorem b_checked_block : BindP "checked_block" s_checked_block ["rows", "shift"] := fun _ _ _ _ _ _ _ us hl => match us, hl with | [_, _], _ => rfl
theorem b_colour_at : BindP "colour_at" s_colour_at ["net", "text", "place"] := fun _ _ _ _ _ _ _ us hl => match us, hl with | [_, _, _], _ => rfl
theorem b_is_kept : BindP "is_kept" s_is_kept ["net", "text", "shift"] := fun _ _ _ _ _ _ _ us hl => match us, hl with | [_, _, _], _ => rfl
theorem b_kept_net : BindP "kept_net" s_kept_net ["net", "text"] := fun _ _ _ _ _ _ _ us hl => match us, hl with | [_, _], _ => rfl
theorem b_least_cell : BindP "least_cell" s_least_cell ["net", "text"] := fun _ _ _ _ _ _ _ us hl => match us, hl with | [_, _], _ => rfl
theorem b_Carpet_on : BindP "on" s_Carpet_on ["net", "text"] := fun _ _ _ _ _ _ _ us hl => match us, hl with | [_, _], _ => rfl
theorem b_Carpet_net : BindP "net" s_Carpet_net ["self"] := fun _ _ _ _ _ _ _ us hl => match us, hl with | [_], _ => rfl
theorem b_Carpet_colours : BindP "colours" s_Carpet_colours ["self"] := fun _ _ _ _ _ _ _ us hl => match us, hl with | [_], _ => rfl
theorem b_Carpet_seen : BindP "seen" s_Carpet_seen ["self", "place"] := fun _ _ _ _ _ _ _ us hl => match us, hl with | [_, _], _ => rfl
theorem b_Carpet_getitem : BindP "__getitem__" s_Carpet_getitem ["self", "place"] := fun _ _ _ _ _ _ _ us hl => match us, hl with | [_, _], _ => rfl
theorem b_Woven_init : BindP "__init__" s_Woven_init ["self", "net", "text"] := fun _ _ _ _ _ _ _ us hl => match us, hl with | [_, _, _], _ => rfl
theorem b_net_of_all : BindP "net_of_all" s_net_of_all ["carpets"] := fun _ _ _ _ _ _ _ us hl => match us, hl with | [_], _ => rfl
theorem b_refinement : BindP "refinement" s_refinement ["one", "other"] := fun _ _ _ _ _ _ _ us hl => match us, hl with | [_, _], _ => rfl
theorem b_is_finer : BindP "is_finer" s_is_finer ["one", "other"] := fun _ _ _ _ _ _ _ us hl => match us, hl with | [_, _], _ => rfl
theorem b_colours_at : BindP "colours_at" s_colours_at ["carpets", "place"] := fun _ _ _ _ _ _ _ us hl => match us, hl with | [_, _], _ => rfl
theorem b_Links_init : BindP "__init__" s_Links_init ["self"] := fun _ _ _ _ _ _ _ us hl => match us, hl with | [_], _ => rfl
theorem b_Links_representative : BindP "representative" s_Links_representative ["self", "thing"] := fun _ _ _ _ _ _ _ us hl => match us, hl with | [_, _], _ => rfl
theorem b_Links_link : BindP "link" s_Links_link ["self", "one", "other"] := fun _ _ _ _ _ _ _ us hl => match us, hl with | [_, _, _], _ => rfl
theorem b_law_tape : BindP "_law_tape" s_law_tape ["_law_script"] := fun _ _ _ _ _ _ _ us hl => match us, hl with | [_], _ => rfl
theorem b_law_draw : BindP "_law_draw" s_law_draw ["_law_tape_here", "_law_many"] := fun _ _ _ _ _ _ _ us hl => match us, hl with | [_, _], _ => rfl
theorem b_law_low : BindP "_law_low" s_law_low ["_law_net_here", "_law_place"] := fun _ _ _ _ _ _ _ us hl => match us, hl with | [_, _], _ => rfl
theorem b_law_spots : BindP "_law_spots" s_law_spots ["_law_net_here"] := fun _ _ _ _ _ _ _ us hl => match us, hl with | [_], _ => rfl
theorem b_law_seen : BindP "_law_seen" s_law_seen ["_law_net_here", "_law_text", "_law_place"] := fun _ _ _ _ _ _ _ us hl => match us, hl with | [_, _, _], _ => rfl
theorem b_law_net : BindP "_law_net" s_law_net ["_law_tape_here", "_law_most"] := fun _ _ _ _ _ _ _ us hl => match us, hl with | [_, _], _ => rfl
theorem b_law_turned : BindP "_law_turned" s_law_turned ["_law_kind", "_law_place"] := fun _ _ _ _ _ _ _ us hl => match us, hl with | [_, _], _ => rfl
theorem b_law_kinds : BindP "_law_kinds" s_law_kinds [] := fun _ _ _ _ _ _ _ us hl => match us, hl with | [], _ => rfl
theorem b_law_carried : BindP "_law_carried" s_law_carried ["_law_move_here", "_law_place"] := fun _ _ _ _ _ _ _ us hl => match us, hl with | [_, _], _ => rfl
theorem b_law_divisor : BindP "_law_divisor" s_law_divisor ["_law_one", "_law_other"] := fun _ _ _ _ _ _ _ us hl => match us, hl with | [_, _], _ => rfl
theorem b_law_keeps : BindP "_law_keeps" s_law_keeps ["_law_net_here", "_law_kind"] := fun _ _ _ _ _ _ _ us hl => match us, hl with | [_, _], _ => rfl
theorem b_law_move : BindP "_law_move" s_law_move ["_law_tape_here", "_law_net_here"] := fun _ _ _ _ _ _ _ us hl => match us, hl with | [_, _], _ => rfl
theorem b_law_tied : BindP "_law_tied" s_law_tied ["_law_net_here", "_law_text", "_law_moves"] := fun _ _ _ _ _ _ _ us hl => match us, hl with | [_, _, _], _ => rfl
theorem b_law_letters : BindP "_law_letters" s_law_letters ["_law_tape_here", "_law_many"] := fun _ _ _ _ _ _ _ us hl => match us, hl with | [_, _], _ => rfl
theorem b_law_square : BindP "_law_square" s_law_square ["_law_tape_here", "_law_most"] := fun _ _ _ _ _ _ _ us hl => match us, hl with | [_, _], _ => rfl
theorem b_law_copied : BindP "_law_copied" s_law_copied ["_law_tape_here", "_law_net_here", "_law_text", "_law_most"] := fun _ _ _ _ _ _ _ us hl => match us, hl with | [_, _, _, _], _ => rfl
theorem b_law_woven : BindP "_law_woven" s_law_woven ["_law_tape_here", "_law_most"] := fun _ _ _ _ _ _ _ us hl => match us, hl with | [_, _], _ => rfl
theorem b_law_made : BindP "_law_made" s_law_made ["_law_tape_here", "_law_net_here", "_law_text"] := fun _ _ _ _ _ _ _ us hl => match us, hl with | [_, _, _], _ => rfl
theorem b_law_told : BindP "_law_told" s_law_told ["_law_call"] := fun _ _ _ _ _ _ _ us hl => match us, hl with | [_], _ => rfl
theorem b_law_common : BindP "_law_common" s_law_common ["_law_nets"] := fun _ _ _ _ _ _ _ us hl => match us, hl with | [_], _ => rfl
theorem b_law_groups : BindP "_law_groups" s_law_groups ["_law_rows"] := fun _ _ _ _ _ _ _ us hl => match us, hl with | [_], _ => rfl
theorem b_law_due : BindP "_law_due" s_law_due ["_law_rows"] := fun _ _ _ _ _ _ _ us hl => match us, hl with | [_], _ => rfl
theorem b_law_merged : BindP "_law_merged" s_law_merged ["_law_some_here"] := fun _ _ _ _ _ _ _ us hl => match us, hl with | [_], _ => rfl
theorem b_law_some : BindP "_law_some" s_law_some ["_law_tape_here"] := fun _ _ _ _ _ _ _ us hl => match us, hl with | [_], _ => rfl
theorem b_law : BindP "law" s_law ["_law_script"] := fun _ _ _ _ _ _ _ us hl => match us, hl with | [_], _ => rfl
end CpR
set_option Elab.async false
set_option linter.all false
set_option maxRecDepth 100000
set_option maxHeartbeats 4000000
/-! D01: integers. -/
namespace CpR
open PySem PySem.Spec PyProof.Rows L2
section
variable {P : Program} {w : World} {K : PySem.W.Frag} {mg : Str → Option Value} {base : Heap} {CN CC CW CL : Addr}
/-- is_integer(n) -/
def spIsInt : Sp := fun vs H Q _ => ∃ n : Int, vs = [.int n] ∧ Q (.bl true) H
theorem ok_is_integer (T : Txt K mg CN CC CW CL) : Df P w K mg base CX0 1 "is_integer" spIsInt := by
  refine df_of T.d_is_integer sc_is_integer b_is_integer (fun vs H Q E ⟨n, e, _⟩ => by rw [e]; rfl) (fun f cdv A outer s H vs Q E hr h => ?_)
  obtain ⟨n, rfl, q⟩ := h
  refine ⟨_, pss_one (ps_ret (pe_and (pe_callB call_isi (by rfl) T.bt.isinstance (by decide +kernel) (pa_cons (pv 0) (pa_cons (pe_bltn (v := .ty "int") (by rfl) T.bt.b_int (by decide +kernel) rfl) pa_nil)))
    (pe_one (pe_not (pe_callB call_isi (by rfl) T.bt.isinstance (by decide +kernel) (pa_cons (pv 0) (pa_cons (pe_bltn (v := .ty "bool") (by rfl) T.bt.b_bool (by decide +kernel) rfl) pa_nil))))))), ?_⟩
  refine ⟨_, rfl, _, _, _, _, true, rfl, .ty "int", .base (.int n), kit_ty (by decide +kernel), true, rfl, iteT ?_⟩
  exact ⟨_, rfl, _, _, _, _, false, rfl, .ty "bool", .base (.int n), kit_ty (by decide +kernel), _, rfl, q⟩
/-- greatest_divisor(a, b) -/
def spGcd : Sp := fun vs H Q _ => ∃ a b : Int, vs = [.int a, .int b] ∧ Q (.int (Int.gcd a b)) H
theorem ok_gcd (T : Txt K mg CN CC CW CL) : Df P w K mg base CX0 1 "greatest_divisor" spGcd := by
  refine df_of T.d_greatest_divisor sc_greatest_divisor b_greatest_divisor (fun vs H Q E ⟨_, _, e, _⟩ => by rw [e]; rfl) (fun f cdv A outer s H vs Q E hr h => ?_)
  obtain ⟨a, b, rfl, q⟩ := h
  refine ⟨_, pss_cons (ps_par (i := 0) (j := 1) rfl sc_greatest_divisor.nd rfl rfl (by decide) rfl rfl (pa_cons (pe_callB call_abs (by rfl) T.bt.abs (by decide +kernel) (pa_cons (pv 0) pa_nil)) (pa_cons (pe_callB call_abs (by rfl) T.bt.abs (by decide +kernel) (pa_cons (pv 1) pa_nil)) pa_nil)) (by rfl))
    (pss_cons (ps_while PassesOwn.never (pt_cmpR op_gt (pv 1) pe_int (nomark _))
      (pss_one (ps_par (i := 0) (j := 1) rfl sc_greatest_divisor.nd rfl rfl (by decide) rfl rfl (pa_cons (pv 1) (pa_cons (pe_op op_mod (pv 0) (pv 1)) pa_nil)) (by rfl))))
    (pss_one (ps_ret (pv 0)))), ?_⟩
  refine ⟨_, rfl, _, rfl, _, rfl, _, rfl, _, _, rfl, ?_⟩
  have ab : ∀ z : Int, (if z < 0 then -z else z) = (z.natAbs : Int) := fun z => by split <;> omega
  rw [ab a, ab b]
  refine while_by (fun σ H' => H' = H ∧ ∃ x y : Nat, σ = [some (.int x), some (.int y)] ∧ Nat.gcd x y = Int.gcd a b) (fun σ _ => match σ with | [_, some (.int y)] => y.toNat | _ => 0) ⟨rfl, _, _, rfl, rfl⟩ (fun σ H' hp => ?_) (fun σ H Q Q' f h => ?_)
  · obtain ⟨rfl, x, y, rfl, g⟩ := hp
    refine ⟨_, rfl, _, _, rfl, rfl, _, rfl, ?_⟩
    refine ite2 (fun c => ?_) (fun c => ?_)
    · have hy : (0 : Int) < y := of_decide_eq_true c
      refine ⟨_, rfl, _, rfl, _, rfl, _, _, rfl, rfl, hy, _, _, rfl, ?_⟩
      refine ⟨⟨rfl, y, x % y, by simp, ?_⟩, ?_⟩
      · rw [← g, Nat.gcd_comm x y, Nat.gcd_rec y x, Nat.gcd_comm]
      · have : x % y < y := Nat.mod_lt _ (by omega)
        show ((x : Int) % (y : Int)).toNat < (y : Int).toNat
        omega
    · have hy : ¬ (0 : Int) < y := of_decide_eq_false (by simpa using c)
      have e : y = 0 := by omega
      subst e
      refine ⟨_, rfl, ?_⟩
      rw [← g, Nat.gcd_zero_right] at q
      exact q
  · obtain ⟨v, e, i, j, e1, e2, k, e3, h⟩ := h
    exact ⟨v, e, i, j, e1, e2, k, e3, f _ _ h⟩
end
end CpR
set_option Elab.async false
set_option linter.all false
set_option maxRecDepth 100000
set_option maxHeartbeats 4000000
/-! D02: integers, further. -/
namespace CpR
open PySem PySem.Spec PyProof.Rows L2
theorem same_new {H : Hp} {p : Addr} {o : HO} (h : H p = none) : Same H (upd H p o) := fun b u e => by rw [upd_ne (ne_of_none e h)]; exact e
theorem tup_upd {H : Hp} {p q : Addr} {xs : List V} {o : HO} (h : H q = none) (e : H p = some (.tup xs)) : upd H q o p = some (.tup xs) := by rw [upd_ne (ne_of_none e h)]; exact e
theorem two_line : (2 : Nat) ≤ sizeLine := by decide
theorem three_line : (3 : Nat) ≤ sizeLine := by decide
section
variable {P : Program} {w : World} {K : PySem.W.Frag} {mg : Str → Option Value} {base : Heap} {CN CC CW CL : Addr}
/-- bezout(a, b) -/
def spBez : Sp := fun vs H Q _ => ∃ a b : Nat, vs = [.int a, .int b] ∧ 0 < b ∧ a < 2 ^ 30 ∧ b < 2 ^ 30 ∧ ∀ H' p (f : Int), Same H H' → H' p = some (.tup [.int (Nat.gcd a b : Nat), .int f]) → (b : Int) ∣ f * a - (Nat.gcd a b : Nat) → Q (.ref p) H'
theorem ok_bezout (T : Txt K mg CN CC CW CL) : Df P w K mg base CX0 1 "bezout" spBez := by
  refine df_of T.d_bezout sc_bezout b_bezout (fun vs H Q E ⟨_, _, e, _⟩ => by rw [e]; rfl) (fun f cdv A outer s H vs Q E hr h => ?_)
  obtain ⟨a, b, rfl, hb, la, lb, q⟩ := h
  have ix : ∀ (i : Nat) (X : Cx), True := fun _ _ => trivial
  refine ⟨_, pss_cons (ps_par (i := 2) (j := 3) rfl sc_bezout.nd rfl rfl (by decide) rfl rfl (pa_cons (pe_tup (pa_cons (pv 0) (pa_cons pe_int pa_nil))) (pa_cons (pe_tup (pa_cons (pv 1) (pa_cons pe_int pa_nil))) pa_nil)) (by rfl))
    (pss_cons (ps_while PassesOwn.never (pt_cmpR op_gt (pe_ix ix_tup (pv 3) pe_int (fun _ _ => rfl)) pe_int (nomark _))
      (pss_cons (ps_set (i := 4) sc_bezout.nd rfl (.inl rfl) (pe_op op_fdivW (pe_ix ix_tup (pv 2) pe_int (fun _ _ => rfl)) (pe_ix ix_tup (pv 3) pe_int (fun _ _ => rfl))))
      (pss_one (ps_par (i := 2) (j := 3) rfl sc_bezout.nd rfl rfl (by decide) rfl rfl (pa_cons (pv 3) (pa_cons (pe_tup (pa_cons (pe_op op_sub (pe_ix ix_tup (pv 2) pe_int (fun _ _ => rfl)) (pe_op op_mul (pv 4) (pe_ix ix_tup (pv 3) pe_int (fun _ _ => rfl))))
        (pa_cons (pe_op op_sub (pe_ix ix_tup (pv 2) pe_int (fun _ _ => rfl)) (pe_op op_mul (pv 4) (pe_ix ix_tup (pv 3) pe_int (fun _ _ => rfl)))) pa_nil))) pa_nil)) (by rfl)))))
    (pss_one (ps_ret (pv 2)))), ?_⟩
  refine ⟨_, rfl, two_line, fun p1 h1 => ⟨_, rfl, two_line, fun p2 h2 => ⟨_, _, rfl, ?_⟩⟩⟩
  have s0 : Same H (upd (upd H p1 (.tup [.int a, .int 1])) p2 (.tup [.int b, .int 0])) := (same_new h1).trans (same_new h2)
  refine while_by (fun σ H' => Same H H' ∧ ∃ (t1 t2 : Addr) (x y : Nat) (u v : Int) (o : Option V), σ = [some (.int a), some (.int b), some (.ref t1), some (.ref t2), o] ∧ H' t1 = some (.tup [.int x, .int u]) ∧ H' t2 = some (.tup [.int y, .int v]) ∧ Nat.gcd x y = Nat.gcd a b ∧ x < 2 ^ 30 ∧ y < 2 ^ 30 ∧ (b : Int) ∣ u * a - x ∧ (b : Int) ∣ v * a - y)
    (fun σ H' => match σ with | [_, _, _, some (.ref t2), _] => (match H' t2 with | some (.tup [.int y, _]) => y.toNat | _ => 0) | _ => 0) ?_ (fun σ H' hp => ?_) (fun σ H Q Q' f h => ?_)
  · exact ⟨s0, p1, p2, a, b, 1, 0, none, rfl, tup_upd h2 upd_same, upd_same, rfl, la, lb, by simp, by simp⟩
  · obtain ⟨sH, t1, t2, x, y, u, v, o, rfl, e1, e2, g, lx, ly, du, dv⟩ := hp
    refine ⟨_, rfl, t2, _, _, _, rfl, rfl, SqT.of e2, rfl, _, _, rfl, rfl, _, rfl, ?_⟩
    refine ite2 (fun c => ?_) (fun c => ?_)
    · have hy : (0 : Int) < y := of_decide_eq_true c
      refine ⟨_, rfl, t1, _, _, _, rfl, rfl, SqT.of e1, rfl, _, rfl, t2, _, _, _, rfl, rfl, SqT.of e2, rfl, _, _, rfl, rfl, wide_div (b := 30) hy ?_ (by decide) (by decide), ?_⟩
      · omega
      have hq : ((x : Int) / y) < 2 ^ 30 := by
        have : (x : Int) / y ≤ x := Int.ediv_le_self _ (by omega)
        omega
      have hq0 : (0 : Int) ≤ (x : Int) / y := Int.ediv_nonneg (by omega) (by omega)
      refine ⟨_, rfl, _, rfl, t1, _, _, _, rfl, rfl, SqT.of e1, rfl, _, rfl, _, rfl, t2, _, _, _, rfl, rfl, SqT.of e2, rfl, _, _, rfl, rfl, .inl ⟨by omega, by omega⟩, _, _, rfl, rfl, ?_⟩
      refine ⟨_, rfl, t1, _, _, _, rfl, rfl, SqT.of e1, rfl, _, rfl, _, rfl, t2, _, _, _, rfl, rfl, SqT.of e2, rfl, _, _, rfl, rfl, .inl ⟨by omega, by omega⟩, _, _, rfl, rfl, two_line, fun p hp => ⟨_, _, rfl, ?_⟩⟩
      have em : (x : Int) - (x : Int) / y * y = ((x % y : Nat) : Int) := by
        have := Int.emod_def (x : Int) y
        rw [Int.mul_comm] at this
        omega
      refine ⟨⟨sH.trans (same_new hp), t2, p, y, x % y, v, u - (x : Int) / y * v, _, rfl, tup_upd hp e2, ?_, ?_, ly, ?_, dv, ?_⟩, ?_⟩
      · rw [upd_same, ← em]
      · rw [← g, Nat.gcd_comm x y, Nat.gcd_rec y x, Nat.gcd_comm]
      · have := Nat.mod_le x y
        omega
      · obtain ⟨k1, h1⟩ := du
        obtain ⟨k2, h2⟩ := dv
        refine ⟨k1 - (x : Int) / y * k2, ?_⟩
        rw [← em, Int.mul_sub, ← h1, ← Int.mul_assoc, Int.mul_comm (b : Int), Int.mul_assoc, ← h2, Int.sub_mul, Int.mul_sub, Int.mul_assoc]
        omega
      · show (match upd H' p _ p with | some (HO.tup [V.int y, _]) => y.toNat | _ => 0) < (match H' t2 with | some (HO.tup [V.int y, _]) => y.toNat | _ => 0)
        rw [upd_same, e2]
        show ((x : Int) - (x : Int) / y * y).toNat < (y : Int).toNat
        rw [em]
        have := Nat.mod_lt x (show 0 < y by omega)
        omega
    · have hy : ¬ (0 : Int) < y := of_decide_eq_false (by simpa using c)
      have e : y = 0 := by omega
      subst e
      rw [Nat.gcd_zero_right] at g
      refine ⟨_, rfl, q H' t1 u sH ?_ ?_⟩
      · rw [← g]; exact e1
      · rw [← g]; exact du
  · obtain ⟨v, e, p, xs, i, z, e1, e2, e3, e4, i', j', e5, e6, k, e7, h⟩ := h
    exact ⟨v, e, p, xs, i, z, e1, e2, e3, e4, i', j', e5, e6, k, e7, f _ _ h⟩
end
end CpR
set_option Elab.async false
set_option linter.all false
set_option maxRecDepth 100000
set_option maxHeartbeats 4000000
/-! D03: divisors, plus, is_place, are_numbers. -/
namespace CpR
open PySem PySem.Spec PyProof.Rows L2
def divs (n : Nat) : List Nat := (List.range' 1 n).filter fun d => n % d == 0
theorem same_up {H H' : Hp} {p : Addr} {o o' : HO} (h : H p = none) (s : Same (upd H p o) H') : Same H (upd H' p o') := fun b u e => by
  have ne := ne_of_none e h
  rw [upd_ne ne]
  exact s _ _ (by rw [upd_ne ne]; exact e)
/-- the list that a comprehension fills: all else stays -/
def Fill (H : Hp) (D : Addr) (H' : Hp) : Prop := ∀ b o, H b = some o → H' b = some o
theorem upd_upd {H : Hp} {p : Addr} {o o' : HO} : upd (upd H p o) p o' = upd H p o' := by
  funext b
  by_cases e : b = p
  · subst e; rw [upd_same, upd_same]
  · rw [upd_ne e, upd_ne e, upd_ne e]
section
variable {P : Program} {w : World} {K : PySem.W.Frag} {mg : Str → Option Value} {base : Heap} {CN CC CW CL : Addr}
def spDivs : Sp := fun vs H Q _ => ∃ n : Nat, vs = [.int n] ∧ n < 2 ^ 20 ∧ ∀ p, H p = none → Q (.ref p) (upd H p (.lst ((divs n).map fun d => .int (d : Nat))))
theorem ok_divisors (T : Txt K mg CN CC CW CL) : Df P w K mg base CX0 1 "divisors" spDivs := by
  refine df_of T.d_divisors sc_divisors b_divisors (fun vs H Q E ⟨_, e, _⟩ => by rw [e]; rfl) (fun f cdv A outer s H vs Q E hr h => ?_)
  obtain ⟨n, rfl, ln, q⟩ := h
  refine ⟨_, pss_one (ps_ret (pe_lc (own := [("divisor", 1)]) (g := gName 1) (tt := _) rfl sc_divisors.nd (pi_range2 (by rfl) T.bt.range (pa_cons pe_int (pa_cons (pe_op op_add (pv 0) pe_int) pa_nil))) (blkOk_by (N := N_divisors) (sc := defScope s_divisors) (by decide +kernel))
    (fun _ _ _ _ _ => pg_name (i := 1) sc_divisors.nd rfl (Or.inl rfl)) (fun _ _ _ _ _ => pts_one (pt_cmpR op_eq (pe_op op_mod (pv 0) (pv 1)) pe_int (nomark _))) (fun _ _ _ _ _ => pv 1))), ?_⟩
  refine ⟨_, rfl, _, _, rfl, rfl, _, _, rfl, ⟨by omega, by omega, by omega, by omega⟩, fun D hD => ?_⟩
  rw [show ((n : Int) + 1 - 1).toNat = n by omega]
  refine lc_range (lo := 1) (n := n) (fun i H' => H' = upd H D (.lst (((List.range' 1 i).filter fun d => n % d == 0).map fun d => .int (d : Nat)))) rfl (fun i H' hi e => ?_) (fun H' e => ?_)
  · subst e
    have hl : (((List.range' 1 i).filter fun d => n % d == 0).map fun d => V.int (d : Nat)).length < sizeLine := by
      rw [List.length_map, sizeLine_eq]
      have := List.length_filter_le (fun d => n % d == 0) (List.range' 1 i)
      rw [List.length_range'] at this
      omega
    have hr1 : List.range' 1 (i + 1) = List.range' 1 i ++ [1 + i] := by rw [List.range'_concat]; simp
    refine ⟨rfl, _, rfl, _, rfl, _, _, rfl, rfl, by show (0 : Int) < 1 + i; omega, rfl, _, rfl, ?_⟩
    have hc : (n : Int) % (1 + (i : Int)) = ((n % (1 + i) : Nat) : Int) := by rw [Int.natCast_emod]; simp
    have hd : decide (V.int ((n : Int) % (1 + i)) = V.int 0) = (n % (1 + i) == 0) := by
      rw [hc, Bool.eq_iff_iff, decide_eq_true_eq, beq_iff_eq]
      constructor
      · intro e
        injection e with e
        omega
      · intro e
        rw [e]
        rfl
    show if decide (V.int ((n : Int) % (1 + i)) = V.int 0) = true then _ else _
    rw [hd, hr1, List.filter_append, List.map_append]
    refine ite2 (fun c => ?_) (fun c => ?_)
    · refine ⟨_, rfl, _, upd_same, hl, ?_⟩
      rw [upd_upd]
      have e2 : [1 + i].filter (fun d => n % d == 0) = [1 + i] := by simp [c]
      rw [e2]
      simp
    · have e2 : [1 + i].filter (fun d => n % d == 0) = [] := by simp at c; simp [c]
      rw [e2]
      simp
  · subst e
    exact q D hD
end
end CpR
set_option Elab.async false
set_option linter.all false
set_option maxRecDepth 100000
set_option maxHeartbeats 4000000
/-! D04: plus, is_place, are_numbers. -/
namespace CpR
open PySem PySem.Spec PyProof.Rows L2
section
variable {P : Program} {w : World} {K : PySem.W.Frag} {mg : Str → Option Value} {base : Heap} {CN CC CW CL : Addr}
def spPlus : Sp := fun vs H Q _ => ∃ (p q : Addr) (x y u v : Int), vs = [.ref p, .ref q] ∧ H p = some (.tup [.int x, .int y]) ∧ H q = some (.tup [.int u, .int v]) ∧ ∀ r, H r = none → Q (.ref r) (upd H r (.tup [.int (x + u), .int (y + v)]))
theorem ok_plus (T : Txt K mg CN CC CW CL) : Df P w K mg base CX0 1 "plus" spPlus := by
  refine df_of T.d_plus sc_plus b_plus (fun vs H Q E ⟨_, _, _, _, _, _, e, _⟩ => by rw [e]; rfl) (fun f cdv A outer s H vs Q E hr h => ?_)
  obtain ⟨p, q, x, y, u, v, rfl, e1, e2, k⟩ := h
  refine ⟨_, pss_one (ps_ret (pe_tup (pa_cons (pe_op op_add (pe_ix ix_tup (pv 0) pe_int (fun _ _ => rfl)) (pe_ix ix_tup (pv 1) pe_int (fun _ _ => rfl))) (pa_cons (pe_op op_add (pe_ix ix_tup (pv 0) pe_int (fun _ _ => rfl)) (pe_ix ix_tup (pv 1) pe_int (fun _ _ => rfl))) pa_nil)))), ?_⟩
  exact ⟨_, rfl, p, _, _, _, rfl, rfl, SqT.of e1, rfl, _, rfl, q, _, _, _, rfl, rfl, SqT.of e2, rfl, _, _, rfl, rfl, _, rfl, p, _, _, _, rfl, rfl, SqT.of e1, rfl, _, rfl, q, _, _, _, rfl, rfl, SqT.of e2, rfl, _, _, rfl, rfl, two_line, fun r hr => k r hr⟩
def spIsPlace : Sp := fun vs H Q _ => ∃ (p : Addr) (x y : Int), vs = [.ref p] ∧ H p = some (.tup [.int x, .int y]) ∧ ∀ H', Same H H' → Q (.bl true) H'
theorem ok_is_place (T : Txt K mg CN CC CW CL) : Df P w K mg base CX0 2 "is_place" spIsPlace := by
  refine df_of T.d_is_place sc_is_place b_is_place (fun vs H Q E ⟨_, _, _, e, _⟩ => by rw [e]; rfl) (fun f cdv A outer s H vs Q E hr h => ?_)
  obtain ⟨p, x, y, rfl, e1, k⟩ := h
  refine ⟨_, pss_one (ps_ret (pe_and (pe_callB call_isi (by rfl) T.bt.isinstance (by decide +kernel) (pa_cons (pv 0) (pa_cons (pe_bltn (v := .ty "tuple") (by rfl) T.bt.b_tuple (by decide +kernel) rfl) pa_nil)))
    (pe_and (pe_cmpR op_eq (pe_callB call_len_seq (by rfl) T.bt.len PySem.boot_len (pa_cons (pv 0) pa_nil)) pe_int (nomark _))
      (pe_one (pe_callB (cr_all rfl) (by rfl) T.bt.b_all (by decide +kernel) (pa_cons (pe_lc (own := [("number", 1)]) (g := gName 1) (tt := _) rfl sc_is_place.nd (pi_tup (pv 0)) (blkOk_by (N := N_is_place) (sc := defScope s_is_place) (by decide +kernel))
        (fun _ _ _ _ _ => pg_name (i := 1) sc_is_place.nd rfl (Or.inl rfl)) (fun _ _ _ _ _ => pts_nil) (fun _ _ _ _ _ => pe_df (E := E0) (ok_is_integer T) hr (by decide) (by rfl) pass0 (pa_cons (pv 1) pa_nil))) pa_nil)))))), ?_⟩
  refine ⟨_, rfl, _, _, _, _, true, rfl, .ty "tuple", .base (.tup e1), kit_ty (by decide +kernel), true, rfl, iteT ?_⟩
  refine ⟨_, rfl, p, _, rfl, .inr (SqT.of e1), rfl, _, rfl, iteT ?_⟩
  refine ⟨_, rfl, p, rfl, ⟨_, SqT.of e1⟩, fun D hD => lc_tup (K := K) (a := p) (xs := [.int x, .int y]) (fun i H' => H' = upd H D (.lst (List.replicate i (V.bl true)))) rfl (fun i H' hi e => ?_) (fun i v H' hv e => ?_) (fun H' e => ?_)⟩
  · subst e
    exact SqT.of (tup_upd hD e1)
  · subst e
    obtain ⟨n, rfl⟩ : ∃ n, v = V.int n := by
      match i, hv with
      | 0, hv => exact ⟨x, (Option.some.inj hv).symm⟩
      | 1, hv => exact ⟨y, (Option.some.inj hv).symm⟩
    have hi : i < 2 := (List.getElem?_eq_some_iff.mp hv).1
    refine ⟨rfl, _, rfl, n, rfl, _, upd_same, by rw [List.length_replicate, sizeLine_eq]; omega, ?_⟩
    rw [upd_upd, List.replicate_succ']
  · subst e
    refine ⟨D, [true, true], rfl, SqL.of upd_same, ?_⟩
    exact k _ (same_new hD)
def spAreNumbers : Sp := fun vs H Q _ => ∃ (p : Addr) (a b c : Nat), vs = [.ref p] ∧ H p = some (.tup [.int a, .int b, .int c]) ∧ b < a ∧ 0 < c ∧ ∀ H', Same H H' → Q (.bl true) H'
theorem ok_are_numbers (T : Txt K mg CN CC CW CL) : Df P w K mg base CX0 2 "are_numbers" spAreNumbers := by
  refine df_of T.d_are_numbers sc_are_numbers b_are_numbers (fun vs H Q E ⟨_, _, _, _, e, _⟩ => by rw [e]; rfl) (fun f cdv A outer s H vs Q E hr h => ?_)
  obtain ⟨p, a, b, c, rfl, e1, hba, hc, k⟩ := h
  refine ⟨_, pss_cons (ps_if (pt_not (pt_val (pe_callB (cr_all rfl) (by rfl) T.bt.b_all (by decide +kernel) (pa_cons (pe_lc (own := [("number", 4)]) (g := gName 4) (tt := _) rfl sc_are_numbers.nd (pi_tup (pv 0)) (blkOk_by (N := N_are_numbers) (sc := defScope s_are_numbers) (by decide +kernel))
        (fun _ _ _ _ _ => pg_name (i := 4) sc_are_numbers.nd rfl (Or.inl rfl)) (fun _ _ _ _ _ => pts_nil) (fun _ _ _ _ _ => pe_df (E := E0) (ok_is_integer T) hr (by decide) (by rfl) pass0 (pa_cons (pv 4) pa_nil))) pa_nil)))) (pss_one (ps_ret pe_bl)) pss_nil)
    (pss_cons (ps_asg (pv 0) (pg_tup rfl (pgs_cons (pg_name (i := 1) sc_are_numbers.nd rfl (.inl rfl)) (pgs_cons (pg_name (i := 2) sc_are_numbers.nd rfl (.inl rfl)) (pgs_cons (pg_name (i := 3) sc_are_numbers.nd rfl (.inl rfl)) pgs_nil)))))
    (pss_one (ps_ret (pe_and (pe_cmpR op_ge (pv 3) pe_int (nomark _)) (pe_one (pe_chain op_le op_lt pe_int (pv 2) (pv 1))))))), ?_⟩
  refine ⟨_, rfl, p, rfl, ⟨_, SqT.of e1⟩, fun D hD => lc_tup (K := K) (a := p) (xs := [.int a, .int b, .int c]) (fun i H' => H' = upd H D (.lst (List.replicate i (V.bl true)))) rfl (fun i H' hi e => ?_) (fun i v H' hv e => ?_) (fun H' e => ?_)⟩
  · subst e
    exact SqT.of (tup_upd hD e1)
  · subst e
    obtain ⟨n, rfl⟩ : ∃ n, v = V.int n := by
      match i, hv with
      | 0, hv => exact ⟨_, (Option.some.inj hv).symm⟩
      | 1, hv => exact ⟨_, (Option.some.inj hv).symm⟩
      | 2, hv => exact ⟨_, (Option.some.inj hv).symm⟩
    have hi : i < 3 := (List.getElem?_eq_some_iff.mp hv).1
    refine ⟨rfl, _, rfl, n, rfl, _, upd_same, by rw [List.length_replicate, sizeLine_eq]; omega, ?_⟩
    rw [upd_upd, List.replicate_succ']
  · subst e
    refine ⟨D, [true, true, true], rfl, SqL.of upd_same, true, rfl, iteF ?_⟩
    refine ⟨_, rfl, p, _, rfl, SqT.of (tup_upd hD e1), rfl, _, _, rfl, _, _, rfl, _, _, rfl, rfl, ?_⟩
    refine ⟨_, rfl, _, _, rfl, rfl, decide ((c : Int) ≥ 1), rfl, ?_⟩
    rw [decide_eq_true (show (c : Int) ≥ 1 by omega)]
    refine iteT ⟨_, rfl, _, _, rfl, rfl, decide ((0 : Int) ≤ b), rfl, ?_⟩
    rw [decide_eq_true (show (0 : Int) ≤ b by omega)]
    refine iteT ⟨_, rfl, _, _, rfl, rfl, ?_⟩
    show Q (.bl (decide ((b : Int) < a))) _
    rw [decide_eq_true (show (b : Int) < a by omega)]
    exact k _ (same_new hD)
end
end CpR
set_option Elab.async false
set_option linter.all false
set_option maxRecDepth 100000
/-! M01: nets as lattices, in plain words: what common_numbers computes lies in both nets, and all of it. -/
namespace CpM
/-- the shift (x, y) is in the net (a, b, c) -/
def InL (a b c : Nat) (x y : Int) : Prop := (c : Int) ∣ y ∧ (a : Int) ∣ x - y / c * b
def Ok (a b c : Nat) : Prop := b < a ∧ 0 < c
theorem dvd_lcm_int {c r : Nat} {y : Int} (h1 : (c : Int) ∣ y) (h2 : (r : Int) ∣ y) : ((Nat.lcm c r : Nat) : Int) ∣ y := by
  rw [Int.ofNat_dvd_left] at h1 h2 ⊢
  exact Nat.lcm_dvd h1 h2
theorem rows_dvd {g : Nat} (hg : 0 < g) {k D : Int} (h : (g : Int) ∣ k * D) : ((g / Nat.gcd g D.natAbs : Nat) : Int) ∣ k := by
  rw [Int.ofNat_dvd_left] at h ⊢
  rw [Int.natAbs_mul] at h
  have hd : 0 < Nat.gcd g D.natAbs := Nat.gcd_pos_of_pos_left _ hg
  have co := Nat.coprime_div_gcd_div_gcd hd
  refine Nat.Coprime.dvd_of_dvd_mul_right co ?_
  obtain ⟨u, hu⟩ := Nat.gcd_dvd_left g D.natAbs
  obtain ⟨v, hv⟩ := Nat.gcd_dvd_right g D.natAbs
  have e1 : g / Nat.gcd g D.natAbs = u := by
    conv => lhs; lhs; rw [hu]
    exact Nat.mul_div_cancel_left _ hd
  have e2 : D.natAbs / Nat.gcd g D.natAbs = v := by
    conv => lhs; lhs; rw [hv]
    exact Nat.mul_div_cancel_left _ hd
  rw [e1, e2]
  have h' : Nat.gcd g D.natAbs * u ∣ Nat.gcd g D.natAbs * (k.natAbs * v) := by
    rw [← hu, Nat.mul_left_comm, ← hv]
    exact h
  exact Nat.dvd_of_mul_dvd_mul_left hd h'
/-- the common net's numbers, by what bezout gives (f) -/
structure Cmn (a b c p q r : Nat) (W R Hh : Nat) : Prop where
  iff : ∀ x y, InL W R Hh x y ↔ InL a b c x y ∧ InL p q r x y
  ok : Ok W R Hh
  le : W * Hh ≤ a * p * (c * r)
theorem cmn {a b c p q r : Nat} (h1 : Ok a b c) (h2 : Ok p q r) {f : Int} (hf : (p : Int) ∣ f * a - (Nat.gcd a p : Nat)) {U g rows W : Nat} {F S F' S' right : Int}
    (eU : U = Nat.lcm c r) (eg : g = Nat.gcd a p) (eF : F = b * ((U : Int) / c)) (eS : S = q * ((U : Int) / r)) (er : rows = g / Nat.gcd g (F - S).natAbs) (eF' : F' = rows * F) (eS' : S' = rows * S)
    (eR : right = F' + a * ((S' - F') / g * f)) (eW : W = a * p / g) : Cmn a b c p q r W (right % W).toNat (rows * U) := by
  have ha : 0 < a := Nat.lt_of_le_of_lt (Nat.zero_le _) h1.1
  have hp : 0 < p := Nat.lt_of_le_of_lt (Nat.zero_le _) h2.1
  have hc := h1.2
  have hr := h2.2
  have hg : 0 < g := by rw [eg]; exact Nat.gcd_pos_of_pos_left _ ha
  have eWl : W = Nat.lcm a p := by rw [eW, eg]; rfl
  have hW : 0 < W := by rw [eWl]; exact Nat.lcm_pos ha hp
  have hU : 0 < U := by rw [eU]; exact Nat.lcm_pos hc hr
  have hd : 0 < Nat.gcd g (F - S).natAbs := Nat.gcd_pos_of_pos_left _ hg
  have hdg : Nat.gcd g (F - S).natAbs ∣ g := Nat.gcd_dvd_left _ _
  have hrows : 0 < rows := by rw [er]; exact Nat.div_pos (Nat.le_of_dvd hg hdg) hd
  have hcU : (c : Int) ∣ U := by rw [eU]; exact Int.natCast_dvd_natCast.mpr (Nat.dvd_lcm_left _ _)
  have hrU : (r : Int) ∣ U := by rw [eU]; exact Int.natCast_dvd_natCast.mpr (Nat.dvd_lcm_right _ _)
  obtain ⟨c1, hc1⟩ := hcU
  obtain ⟨r1, hr1⟩ := hrU
  have ec1 : (U : Int) / c = c1 := by rw [hc1]; exact Int.mul_ediv_cancel_left _ (by omega)
  have er1 : (U : Int) / r = r1 := by rw [hr1]; exact Int.mul_ediv_cancel_left _ (by omega)
  have hga : (g : Int) ∣ a := by rw [eg]; exact Int.natCast_dvd_natCast.mpr (Nat.gcd_dvd_left _ _)
  have hgp : (g : Int) ∣ p := by rw [eg]; exact Int.natCast_dvd_natCast.mpr (Nat.gcd_dvd_right _ _)
  have haW : (a : Int) ∣ W := by rw [eWl]; exact Int.natCast_dvd_natCast.mpr (Nat.dvd_lcm_left _ _)
  have hpW : (p : Int) ∣ W := by rw [eWl]; exact Int.natCast_dvd_natCast.mpr (Nat.dvd_lcm_right _ _)
  -- g divides rows * (F - S)
  have hgD : (g : Int) ∣ rows * (F - S) := by
    obtain ⟨u, hu⟩ := hdg
    obtain ⟨v, hv⟩ : ((Nat.gcd g (F - S).natAbs : Nat) : Int) ∣ F - S := by rw [Int.ofNat_dvd_left]; exact Nat.gcd_dvd_right _ _
    have eu : rows = u := by
      rw [er]
      conv => lhs; lhs; rw [hu]
      exact Nat.mul_div_cancel_left _ hd
    refine ⟨v, ?_⟩
    rw [hv, eu]
    have : (g : Int) = (Nat.gcd g (F - S).natAbs : Nat) * (u : Int) := by rw [← Int.natCast_mul, ← hu]
    rw [this, ← Int.mul_assoc, Int.mul_comm (u : Int)]
  obtain ⟨e, he⟩ : (g : Int) ∣ S' - F' := by
    rw [eS', eF']
    obtain ⟨v, hv⟩ := hgD
    exact ⟨-v, by rw [Int.mul_neg, ← hv, Int.mul_sub]; omega⟩
  have eq1 : (S' - F') / g = e := by rw [he]; exact Int.mul_ediv_cancel_left _ (by omega)
  have rA : (a : Int) ∣ right - F' := ⟨e * f, by rw [eR, eq1]; omega⟩
  have rP : (p : Int) ∣ right - S' := by
    obtain ⟨m, hm⟩ := hf
    refine ⟨e * m, ?_⟩
    rw [eR, eq1]
    have t1 : f * (a : Int) = p * m + g := by rw [← eg] at hm; omega
    have t2 : (a : Int) * (e * f) = e * (f * a) := by rw [Int.mul_comm, Int.mul_assoc]
    have t3 : (p : Int) * (e * m) = e * (p * m) := by rw [Int.mul_left_comm]
    rw [t2, t1, t3, Int.mul_add]
    have t4 : e * (g : Int) = S' - F' := by rw [he, Int.mul_comm]
    omega
  have modW : ∀ j : Int, (W : Int) ∣ j * right - j * (right % W) := fun j => by
    rw [← Int.mul_sub]
    exact Int.dvd_mul_of_dvd_right (Int.dvd_self_sub_emod) 
  have eRm : (((right % W).toNat : Nat) : Int) = right % W := Int.toNat_of_nonneg (Int.emod_nonneg _ (by omega))
  refine ⟨fun x y => ?_, ⟨?_, Nat.mul_pos hrows hU⟩, ?_⟩
  · -- the two ways
    have key : ∀ j : Int, y = rows * U * j → ((a : Int) ∣ x - y / c * b ↔ (a : Int) ∣ x - j * right) ∧ ((p : Int) ∣ x - y / r * q ↔ (p : Int) ∣ x - j * right) := fun j ej => by
      have y1 : y / c = rows * j * c1 := by
        rw [ej, hc1, show (rows : Int) * (c * c1) * j = c * (rows * j * c1) by
          rw [Int.mul_left_comm, Int.mul_assoc, Int.mul_assoc, Int.mul_comm c1 j, Int.mul_assoc]]
        exact Int.mul_ediv_cancel_left _ (by omega)
      have y2 : y / r = rows * j * r1 := by
        rw [ej, hr1, show (rows : Int) * (r * r1) * j = r * (rows * j * r1) by
          rw [Int.mul_left_comm, Int.mul_assoc, Int.mul_assoc, Int.mul_comm r1 j, Int.mul_assoc]]
        exact Int.mul_ediv_cancel_left _ (by omega)
      have f1 : y / c * b = j * F' := by
        rw [y1, eF', eF, ec1, show (rows : Int) * j * c1 * b = j * (rows * (b * c1)) by
          rw [Int.mul_comm (rows : Int) j, Int.mul_assoc, Int.mul_assoc, Int.mul_comm c1 (b : Int)]]
      have f2 : y / r * q = j * S' := by
        rw [y2, eS', eS, er1, show (rows : Int) * j * r1 * q = j * (rows * (q * r1)) by
          rw [Int.mul_comm (rows : Int) j, Int.mul_assoc, Int.mul_assoc, Int.mul_comm r1 (q : Int)]]
      have d1 : (a : Int) ∣ j * (right - F') := Int.dvd_mul_of_dvd_right rA
      have d2 : (p : Int) ∣ j * (right - S') := Int.dvd_mul_of_dvd_right rP
      rw [Int.mul_sub] at d1 d2
      rw [f1, f2]
      refine ⟨⟨fun h => ?_, fun h => ?_⟩, ⟨fun h => ?_, fun h => ?_⟩⟩
      · have := Int.dvd_sub h d1
        rw [show x - j * right = x - j * F' - (j * right - j * F') by omega]
        exact this
      · have := Int.dvd_add h d1
        rw [show x - j * F' = x - j * right + (j * right - j * F') by omega]
        exact this
      · have := Int.dvd_sub h d2
        rw [show x - j * right = x - j * S' - (j * right - j * S') by omega]
        exact this
      · have := Int.dvd_add h d2
        rw [show x - j * S' = x - j * right + (j * right - j * S') by omega]
        exact this
    have hH : (0 : Int) < ((rows * U : Nat) : Int) := by exact_mod_cast Nat.mul_pos hrows hU
    constructor
    · rintro ⟨⟨j, ej⟩, h⟩
      have ej' : y = rows * U * j := by rw [ej, Int.natCast_mul]
      have yq : y / ((rows * U : Nat) : Int) = j := by rw [ej]; exact Int.mul_ediv_cancel_left _ (by omega)
      rw [yq, eRm] at h
      have hw : (W : Int) ∣ x - j * right := by
        have := Int.dvd_sub h (modW j)
        rw [show x - j * right = x - j * (right % W) - (j * right - j * (right % W)) by omega]
        exact this
      obtain ⟨k1, k2⟩ := key j ej'
      refine ⟨⟨?_, k1.mpr (Int.dvd_trans haW hw)⟩, ⟨?_, k2.mpr (Int.dvd_trans hpW hw)⟩⟩
      · exact ⟨rows * c1 * j, by rw [ej', hc1, Int.mul_left_comm, Int.mul_assoc]⟩
      · exact ⟨rows * r1 * j, by rw [ej', hr1, Int.mul_left_comm, Int.mul_assoc]⟩
    · rintro ⟨⟨hcy, hA⟩, ⟨hry, hP⟩⟩
      obtain ⟨k, ek⟩ : (U : Int) ∣ y := by rw [eU]; exact dvd_lcm_int hcy hry
      have y1 : y / c = k * c1 := by
        rw [ek, hc1, Int.mul_assoc, Int.mul_comm c1]
        exact Int.mul_ediv_cancel_left _ (by omega)
      have y2 : y / r = k * r1 := by
        rw [ek, hr1, Int.mul_assoc, Int.mul_comm r1]
        exact Int.mul_ediv_cancel_left _ (by omega)
      have f1 : y / c * b = k * F := by rw [y1, eF, ec1, Int.mul_assoc, Int.mul_comm c1]
      have f2 : y / r * q = k * S := by rw [y2, eS, er1, Int.mul_assoc, Int.mul_comm r1]
      have hk : (rows : Int) ∣ k := by
        rw [er]
        refine rows_dvd hg ?_
        have := Int.dvd_sub (Int.dvd_trans hgp hP) (Int.dvd_trans hga hA)
        rw [f1, f2] at this
        rw [Int.mul_sub, show k * F - k * S = x - k * S - (x - k * F) by omega]
        exact this
      obtain ⟨j, hj⟩ := hk
      have ej : y = rows * U * j := by rw [ek, hj, Int.mul_left_comm, Int.mul_assoc]
      obtain ⟨k1, k2⟩ := key j ej
      have hw : (W : Int) ∣ x - j * right := by rw [eWl]; exact dvd_lcm_int (k1.mp hA) (k2.mp hP)
      have yq : y / ((rows * U : Nat) : Int) = j := by rw [ej, Int.natCast_mul]; exact Int.mul_ediv_cancel_left _ (by rw [← Int.natCast_mul]; omega)
      refine ⟨⟨j, by rw [ej, Int.natCast_mul]⟩, ?_⟩
      rw [yq, eRm]
      have := Int.dvd_add hw (modW j)
      rw [show x - j * (right % W) = x - j * right + (j * right - j * (right % W)) by omega]
      exact this
  · have := Int.emod_lt_of_pos right (show (0 : Int) < W by omega)
    omega
  · have l1 : rows ≤ g := by rw [er]; exact Nat.div_le_self _ _
    have l2 : U ≤ c * r := by rw [eU]; exact Nat.le_of_dvd (Nat.mul_pos hc hr) (Nat.lcm_dvd (Nat.dvd_mul_right _ _) (Nat.dvd_mul_left _ _))
    have l3 : W * rows ≤ a * p := Nat.le_trans (Nat.mul_le_mul_left _ l1) (by rw [eW]; exact Nat.div_mul_le_self _ _)
    rw [← Nat.mul_assoc]
    exact Nat.mul_le_mul l3 l2
end CpM
set_option Elab.async false
set_option linter.all false
set_option maxRecDepth 100000
set_option maxHeartbeats 4000000
/-! D05: common_numbers. -/
namespace CpR
open PySem PySem.Spec PyProof.Rows L2 CpM
section
variable {P : Program} {w : World} {K : PySem.W.Frag} {mg : Str → Option Value} {base : Heap} {CN CC CW CL : Addr}
def spCommon : Sp := fun vs H Q _ => ∃ (s t : Addr) (a b c p q r : Nat), vs = [.ref s, .ref t] ∧ H s = some (.tup [.int a, .int b, .int c]) ∧ H t = some (.tup [.int p, .int q, .int r]) ∧ Ok a b c ∧ Ok p q r ∧ a < 4096 ∧ c < 4096 ∧ p < 4096 ∧ r < 4096 ∧
  ∀ H' n (W R Hh : Nat), Same H H' → H' n = some (.tup [.int W, .int R, .int Hh]) → Cmn a b c p q r W R Hh → Q (.ref n) H'
theorem ok_common_numbers (T : Txt K mg CN CC CW CL) : Df P w K mg base CX0 2 "common_numbers" spCommon := by
  refine df_of T.d_common_numbers sc_common_numbers b_common_numbers (fun vs H Q E ⟨_, _, _, _, _, _, _, _, e, _⟩ => by rw [e]; rfl) (fun f cdv A outer s H vs Q E hr h => ?_)
  obtain ⟨s1, t1, a, b, c, p, q, r, rfl, e1, e2, o1, o2, la, lc, lp, lr, k⟩ := h
  have ha : 0 < a := Nat.lt_of_le_of_lt (Nat.zero_le _) o1.1
  have hp : 0 < p := Nat.lt_of_le_of_lt (Nat.zero_le _) o2.1
  have hc := o1.2
  have hr' := o2.2
  have lb := o1.1
  have lq := o2.1
  have n0 := sc_common_numbers.nd
  have wd : ∀ {i : Int} {n : Nat}, 0 < n → n < 4096 → CDivW i (n : Int) := fun {i n} h0 h => wide_div (b := 12) (by omega) (by omega) (by decide) (by decide)
  refine ⟨_, Evl.pss_cut (ps_asg (pv 0) (pg_tup rfl (pgs_cons (pg_name (i := 2) n0 rfl (.inl rfl)) (pgs_cons (pg_name (i := 3) n0 rfl (.inl rfl)) (pgs_cons (pg_name (i := 4) n0 rfl (.inl rfl)) pgs_nil)))))
    (Evl.pss_cut (ps_asg (pv 1) (pg_tup rfl (pgs_cons (pg_name (i := 5) n0 rfl (.inl rfl)) (pgs_cons (pg_name (i := 6) n0 rfl (.inl rfl)) (pgs_cons (pg_name (i := 7) n0 rfl (.inl rfl)) pgs_nil)))))
    (Evl.pss_cut (ps_set (i := 8) n0 rfl (.inl rfl) (pe_op op_fdivW (pe_op op_mul (pv 4) (pv 7)) (pe_df (E := E0) (ok_gcd T) hr (by decide) (by rfl) pass0 (pa_cons (pv 4) (pa_cons (pv 7) pa_nil)))))
    (Evl.pss_cut (ps_par (i := 9) (j := 10) rfl n0 rfl rfl (by decide) rfl rfl (pa_cons (pe_op op_mul (pv 3) (pe_op op_fdivW (pv 8) (pv 4))) (pa_cons (pe_op op_mul (pv 6) (pe_op op_fdivW (pv 8) (pv 7))) pa_nil)) (by rfl))
    (Evl.pss_cut (ps_asg (pe_df (E := E0) (ok_bezout T) hr (by decide) (by rfl) pass0 (pa_cons (pv 2) (pa_cons (pv 5) pa_nil))) (pg_tup rfl (pgs_cons (pg_name (i := 11) n0 rfl (.inl rfl)) (pgs_cons (pg_name (i := 12) n0 rfl (.inl rfl)) pgs_nil))))
    (Evl.pss_cut (ps_set (i := 13) n0 rfl (.inl rfl) (pe_op op_fdivW (pv 11) (pe_df (E := E0) (ok_gcd T) hr (by decide) (by rfl) pass0 (pa_cons (pv 11) (pa_cons (pe_op op_sub (pv 9) (pv 10)) pa_nil)))))
    (Evl.pss_cut (ps_par (i := 9) (j := 10) rfl n0 rfl rfl (by decide) rfl rfl (pa_cons (pe_op op_mul (pv 13) (pv 9)) (pa_cons (pe_op op_mul (pv 13) (pv 10)) pa_nil)) (by rfl))
    (Evl.pss_cut (ps_set (i := 14) n0 rfl (.inl rfl) (pe_op op_add (pv 9) (pe_op op_mul (pv 2) (pe_op op_mul (pe_op op_fdivW (pe_op op_sub (pv 10) (pv 9)) (pv 11)) (pv 12)))))
    (Evl.pss_cut (ps_set (i := 15) n0 rfl (.inl rfl) (pe_op op_fdivW (pe_op op_mul (pv 2) (pv 5)) (pv 11)))
    (pss_one (ps_ret (pe_tup (pa_cons (pv 15) (pa_cons (pe_op op_mod (pv 14) (pv 15)) (pa_cons (pe_op op_mul (pv 13) (pv 8)) pa_nil)))))))))))))), ?_⟩
  let st0 : Int → Int → Int → Option V → Option V → Option V → Option V → Option V → Option V → Option V → Option V → L2.St := fun _ _ _ u f s d ff ro ri wi =>
    [some (.ref s1), some (.ref t1), some (.int a), some (.int b), some (.int c), some (.int p), some (.int q), some (.int r), u, f, s, d, ff, ro, ri, wi]
  refine ⟨fun σ H' => H' = H ∧ σ = [some (.ref s1), some (.ref t1), some (.int a), some (.int b), some (.int c), none, none, none, none, none, none, none, none, none, none, none], ⟨_, rfl, s1, _, rfl, SqT.of e1, rfl, _, _, rfl, _, _, rfl, _, _, rfl, rfl, rfl, rfl⟩, ?_⟩
  rintro σ H' ⟨rfl, rfl⟩
  refine ⟨fun σ H1 => H1 = H' ∧ σ = st0 0 0 0 none none none none none none none none, ⟨_, rfl, t1, _, rfl, SqT.of e2, rfl, _, _, rfl, _, _, rfl, _, _, rfl, rfl, rfl, rfl⟩, ?_⟩
  rintro σ H1 ⟨rfl, rfl⟩
  have gcr : 0 < Nat.gcd c r := Nat.gcd_pos_of_pos_left _ hc
  have gle : Nat.gcd c r ≤ c := Nat.gcd_le_left _ hc
  have eU : (c : Int) * r / (Nat.gcd c r : Nat) = (Nat.lcm c r : Nat) := by
    rw [← Int.natCast_mul, ← Int.natCast_ediv]
    rfl
  have lU : Nat.lcm c r ≤ c * r := Nat.le_of_dvd (Nat.mul_pos hc hr') (Nat.lcm_dvd (Nat.dvd_mul_right _ _) (Nat.dvd_mul_left _ _))
  have lcr : c * r < 4096 * 4096 := Nat.mul_lt_mul'' lc lr
  obtain ⟨U, hU⟩ : ∃ U, Nat.lcm c r = U := ⟨_, rfl⟩
  rw [hU] at eU lU
  refine ⟨fun σ H' => H' = H1 ∧ σ = st0 0 0 0 (some (.int U)) none none none none none none none, ⟨_, rfl, _, rfl, _, _, rfl, rfl, .inl ⟨by omega, by omega⟩, _, rfl, _, rfl, _, _, rfl, _, _, rfl, rfl, wd (n := Nat.gcd c r) gcr (by omega), rfl, ?_⟩, ?_⟩
  · exact congrArg (fun z => st0 0 0 0 (some (V.int z)) none none none none none none none) eU
  rintro σ H' ⟨rfl, rfl⟩
  obtain ⟨F, hF⟩ : ∃ F, (b : Int) * ((U : Int) / c) = F := ⟨_, rfl⟩
  obtain ⟨S, hS⟩ : ∃ S, (q : Int) * ((U : Int) / r) = S := ⟨_, rfl⟩
  refine ⟨fun σ H1 => H1 = H' ∧ σ = st0 0 0 0 (some (.int U)) (some (.int F)) (some (.int S)) none none none none none, ⟨_, rfl, _, rfl, _, rfl, _, _, rfl, rfl, wd hc lc, _, _, rfl, rfl, .inl ⟨by omega, by omega⟩, _, rfl, _, rfl, _, rfl, _, _, rfl, rfl, wd hr' lr, _, _, rfl, rfl, .inl ⟨by omega, by omega⟩, _, _, rfl, rfl, ?_⟩, ?_⟩
  · rw [← hF, ← hS]
    rfl
  rintro σ H1 ⟨rfl, rfl⟩
  obtain ⟨g, hg⟩ : ∃ g, Nat.gcd a p = g := ⟨_, rfl⟩
  have gpos : 0 < g := by rw [← hg]; exact Nat.gcd_pos_of_pos_left _ ha
  have gla : g ≤ a := by rw [← hg]; exact Nat.gcd_le_left _ ha
  refine ⟨fun σ H' => Same H1 H' ∧ ∃ f : Int, (p : Int) ∣ f * a - (g : Nat) ∧ σ = st0 0 0 0 (some (.int U)) (some (.int F)) (some (.int S)) (some (.int g)) (some (.int f)) none none none,
    ⟨_, rfl, _, rfl, a, p, rfl, hp, by omega, by omega, fun H' z f s1' hz hf => ⟨z, _, rfl, SqT.of hz, rfl, _, _, rfl, _, _, rfl, rfl, s1', f, by rw [← hg]; exact hf, by rw [← hg]; rfl⟩⟩, ?_⟩
  rintro σ H' ⟨s1', f, hf, rfl⟩
  have dpos : 0 < Nat.gcd g (F - S).natAbs := Nat.gcd_pos_of_pos_left _ gpos
  have dle : Nat.gcd g (F - S).natAbs ≤ g := Nat.gcd_le_left _ gpos
  have eR : (g : Int) / ((Nat.gcd g (F - S).natAbs : Nat) : Int) = ((g / Nat.gcd g (F - S).natAbs : Nat) : Int) := (Int.natCast_ediv _ _).symm
  obtain ⟨rows, hrows⟩ : ∃ rows, g / Nat.gcd g (F - S).natAbs = rows := ⟨_, rfl⟩
  have lrows : rows ≤ g := by rw [← hrows]; exact Nat.div_le_self _ _
  rw [hrows] at eR
  refine ⟨fun σ H1 => H1 = H' ∧ σ = st0 0 0 0 (some (.int U)) (some (.int F)) (some (.int S)) (some (.int g)) (some (.int f)) (some (.int rows)) none none, ⟨_, rfl, _, rfl, _, rfl, _, rfl, _, _, rfl, rfl, (g : Int), F - S, rfl, _, _, rfl, rfl, wd (n := Nat.gcd g (F - S).natAbs) dpos (by omega), rfl, ?_⟩, ?_⟩
  · exact congrArg (fun z => st0 0 0 0 (some (.int U)) (some (.int F)) (some (.int S)) (some (.int g)) (some (.int f)) (some (V.int z)) none none) eR
  rintro σ H2 ⟨rfl, rfl⟩
  -- bounds
  have bU : (U : Int) < 2 ^ 24 := by omega
  have q1 : (U : Int) / c ≤ U := Int.ediv_le_self _ (by omega)
  have q2 : (U : Int) / r ≤ U := Int.ediv_le_self _ (by omega)
  have q3 : (0 : Int) ≤ (U : Int) / c := Int.ediv_nonneg (by omega) (by omega)
  have q4 : (0 : Int) ≤ (U : Int) / r := Int.ediv_nonneg (by omega) (by omega)
  have mulb : ∀ {x y : Int} {m n : Int}, 0 ≤ x → x ≤ m → 0 ≤ y → y ≤ n → 0 ≤ x * y ∧ x * y ≤ m * n := fun h1 h2 h3 h4 => ⟨Int.mul_nonneg h1 h3, Int.mul_le_mul h2 h4 h3 (by omega)⟩
  have bF := mulb (x := b) (m := 4096) (y := (U : Int) / c) (n := 16777216) (by omega) (by omega) q3 (by omega)
  have bS := mulb (x := q) (m := 4096) (y := (U : Int) / r) (n := 16777216) (by omega) (by omega) q4 (by omega)
  rw [hF] at bF
  rw [hS] at bS
  have bF' := mulb (x := rows) (m := 4096) (y := F) (n := 68719476736) (by omega) (by omega) bF.1 (by omega)
  have bS' := mulb (x := rows) (m := 4096) (y := S) (n := 68719476736) (by omega) (by omega) bS.1 (by omega)
  obtain ⟨F', hF'⟩ : ∃ F', (rows : Int) * F = F' := ⟨_, rfl⟩
  obtain ⟨S', hS'⟩ : ∃ S', (rows : Int) * S = S' := ⟨_, rfl⟩
  rw [hF'] at bF'
  rw [hS'] at bS'
  refine ⟨fun σ H1 => H1 = H2 ∧ σ = st0 0 0 0 (some (.int U)) (some (.int F')) (some (.int S')) (some (.int g)) (some (.int f)) (some (.int rows)) none none, ⟨_, rfl, _, rfl, _, _, rfl, rfl, .inl ⟨by omega, by omega⟩, _, rfl, _, rfl, _, _, rfl, rfl, .inl ⟨by omega, by omega⟩, _, _, rfl, rfl, ?_⟩, ?_⟩
  · rw [← hF', ← hS']
    rfl
  rintro σ H3 ⟨rfl, rfl⟩
  have g1 : (1 : Int) ≤ g := by omega
  have u1 : S' - F' ≤ 1152921504606846976 * (g : Int) := by omega
  have u2 : -1152921504606846976 * (g : Int) ≤ S' - F' := by omega
  have l1 := Int.ediv_le_ediv (c := (g : Int)) (by omega) u1
  have l2 := Int.ediv_le_ediv (c := (g : Int)) (by omega) u2
  rw [Int.mul_ediv_cancel _ (by omega)] at l1 l2
  obtain ⟨right, hright⟩ : ∃ right, F' + (a : Int) * ((S' - F') / g * f) = right := ⟨_, rfl⟩
  refine ⟨fun σ H1 => H1 = H3 ∧ σ = st0 0 0 0 (some (.int U)) (some (.int F')) (some (.int S')) (some (.int g)) (some (.int f)) (some (.int rows)) (some (.int right)) none,
    ⟨_, rfl, _, rfl, _, rfl, _, rfl, _, _, rfl, rfl, _, rfl, _, _, rfl, rfl, wd gpos (by omega), _, rfl, _, _, rfl, rfl, .inl ⟨by omega, by omega⟩, _, _, rfl, rfl, .inl ⟨by omega, by omega⟩, _, _, rfl, rfl, rfl, ?_⟩, ?_⟩
  · rw [← hright]
    rfl
  rintro σ H4 ⟨rfl, rfl⟩
  have eW : (a : Int) * p / (g : Int) = ((a * p / g : Nat) : Int) := by rw [← Int.natCast_mul, ← Int.natCast_ediv]
  obtain ⟨W, hW⟩ : ∃ W, a * p / g = W := ⟨_, rfl⟩
  rw [hW] at eW
  refine ⟨fun σ H1 => H1 = H4 ∧ σ = st0 0 0 0 (some (.int U)) (some (.int F')) (some (.int S')) (some (.int g)) (some (.int f)) (some (.int rows)) (some (.int right)) (some (.int W)),
    ⟨_, rfl, _, rfl, _, _, rfl, rfl, .inl ⟨by omega, by omega⟩, _, rfl, _, _, rfl, rfl, wd gpos (by omega), rfl, ?_⟩, ?_⟩
  · exact congrArg (fun z => st0 0 0 0 (some (.int U)) (some (.int F')) (some (.int S')) (some (.int g)) (some (.int f)) (some (.int rows)) (some (.int right)) (some (V.int z))) eW
  rintro σ H5 ⟨rfl, rfl⟩
  have C := cmn o1 o2 (f := f) (by rw [hg]; exact hf) hU.symm hg.symm hF.symm hS.symm hrows.symm hF'.symm hS'.symm hright.symm hW.symm
  have Wpos : 0 < W := Nat.lt_of_le_of_lt (Nat.zero_le _) C.ok.1
  refine ⟨_, rfl, _, rfl, _, rfl, _, _, rfl, rfl, by show (0 : Int) < W; omega, _, rfl, _, rfl, _, _, rfl, rfl, .inl ⟨by omega, by omega⟩, three_line, fun n hn => ?_⟩
  refine k _ n W _ (rows * U) (s1'.trans (same_new hn)) (upd_same.trans ?_) C
  have er : (((right % W).toNat : Nat) : Int) = right % W := Int.toNat_of_nonneg (Int.emod_nonneg _ (by omega))
  rw [er, Int.natCast_mul]
end
end CpR
set_option Elab.async false
set_option linter.all false
set_option maxRecDepth 100000
/-! M02: a text on a net: its colours, the shifts that keep them, the least cell. -/
namespace CpM
def lowX (a b c : Nat) (x y : Int) : Int := (x - y / c * b) % a
def lowY (c : Nat) (y : Int) : Int := y - y / c * c
/-- the colour at (x, y) -/
def col (a b c : Nat) (t : List Nat) (x y : Int) : Nat := t.getD (lowY c y * a + lowX a b c x y).toNat 0
/-- the places of the cell -/
def cellPl (a c : Nat) : List (Int × Int) := (List.range (a * c)).map fun i => (((i % a : Nat) : Int), ((i / a : Nat) : Int))
theorem lowY_mod (c : Nat) (y : Int) : lowY c y = y % c := by
  unfold lowY
  rw [Int.emod_def, Int.mul_comm]
theorem Ok.pa {a b c : Nat} (h : Ok a b c) : 0 < a := Nat.lt_of_le_of_lt (Nat.zero_le _) h.1
section
variable {a b c : Nat} {t : List Nat}
theorem lowY_bd (h : Ok a b c) (y : Int) : 0 ≤ lowY c y ∧ lowY c y < c := by
  rw [lowY_mod]
  have := h.2
  exact ⟨Int.emod_nonneg _ (by omega), Int.emod_lt_of_pos _ (by omega)⟩
theorem lowX_bd (h : Ok a b c) (x y : Int) : 0 ≤ lowX a b c x y ∧ lowX a b c x y < a := by
  have := h.pa
  exact ⟨Int.emod_nonneg _ (by omega), Int.emod_lt_of_pos _ (by omega)⟩
theorem low_lt (h : Ok a b c) (x y : Int) : 0 ≤ lowY c y * a + lowX a b c x y ∧ lowY c y * a + lowX a b c x y < ((a * c : Nat) : Int) := by
  obtain ⟨y1, y2⟩ := lowY_bd h y
  obtain ⟨x1, x2⟩ := lowX_bd h x y
  have p : 0 ≤ lowY c y * a := Int.mul_nonneg y1 (by omega)
  have q : lowY c y * a ≤ (c - 1) * a := Int.mul_le_mul_of_nonneg_right (by omega) (by omega)
  rw [Int.sub_mul] at q
  rw [Int.natCast_mul, Int.mul_comm (a : Int)]
  omega
/-- a shift of the net leaves the low place as it is -/
theorem low_shift (h : Ok a b c) {u v : Int} (hs : InL a b c u v) (x y : Int) : lowY c (y + v) = lowY c y ∧ lowX a b c (x + u) (y + v) = lowX a b c x y := by
  obtain ⟨⟨k, rfl⟩, m, hm⟩ := hs
  have hc := h.2
  have e1 : (c : Int) * k / c = k := Int.mul_ediv_cancel_left _ (by omega)
  have e2 : (y + c * k) / (c : Int) = y / c + k := Int.add_mul_ediv_left _ _ (by omega)
  rw [e1] at hm
  refine ⟨?_, ?_⟩
  · rw [lowY_mod, lowY_mod, Int.add_mul_emod_self_left]
  · unfold lowX
    rw [e2, Int.add_mul, show x + u - (y / c * b + k * b) = x - y / c * b + (u - k * b) by omega, hm, Int.add_mul_emod_self_left]
theorem col_shift (h : Ok a b c) {u v : Int} (hs : InL a b c u v) (x y : Int) : col a b c t (x + u) (y + v) = col a b c t x y := by
  unfold col
  obtain ⟨e1, e2⟩ := low_shift h hs x y
  rw [e1, e2]
/-- the low place differs by a shift of the net -/
theorem low_in (h : Ok a b c) (x y : Int) : InL a b c (x - lowX a b c x y) (y - lowY c y) := by
  have hc := h.2
  have e : y - lowY c y = c * (y / c) := by unfold lowY; rw [Int.mul_comm]; omega
  refine ⟨⟨_, e⟩, ?_⟩
  rw [e, Int.mul_ediv_cancel_left _ (by omega)]
  have : x - lowX a b c x y - y / c * b = (x - y / c * b) - (x - y / c * b) % a := by unfold lowX; omega
  rw [this]
  exact Int.dvd_self_sub_emod
theorem col_low (h : Ok a b c) (x y : Int) : col a b c t (lowX a b c x y) (lowY c y) = col a b c t x y := by
  have z := col_shift (t := t) h (low_in h x y) (lowX a b c x y) (lowY c y)
  rw [show lowX a b c x y + (x - lowX a b c x y) = x by omega, show lowY c y + (y - lowY c y) = y by omega] at z
  exact z.symm
/-- a low place is in the cell -/
theorem low_cell (h : Ok a b c) (x y : Int) : (lowX a b c x y, lowY c y) ∈ cellPl a c := by
  obtain ⟨y1, y2⟩ := lowY_bd h y
  obtain ⟨x1, x2⟩ := lowX_bd h x y
  have ha := h.pa
  obtain ⟨i, hi⟩ := Int.eq_ofNat_of_zero_le x1
  obtain ⟨j, hj⟩ := Int.eq_ofNat_of_zero_le y1
  have li : i < a := by omega
  have lj : j < c := by omega
  refine List.mem_map.mpr ⟨a * j + i, List.mem_range.mpr ?_, ?_⟩
  · have : a * j + a ≤ a * c := by
      have := Nat.mul_le_mul_left a lj
      rw [Nat.mul_succ] at this
      exact this
    omega
  · rw [Nat.mul_add_mod, Nat.mod_eq_of_lt li, Nat.mul_add_div ha, Nat.div_eq_of_lt li, Nat.add_zero, hi, hj]
/-- is_kept -/
def keptB (a b c : Nat) (t : List Nat) (u v : Int) : Bool := (cellPl a c).all fun p => col a b c t p.1 p.2 == col a b c t (p.1 + u) (p.2 + v)
/-- (u, v) leaves all colours -/
def Per (a b c : Nat) (t : List Nat) (u v : Int) : Prop := ∀ x y, col a b c t (x + u) (y + v) = col a b c t x y
theorem kept_per (h : Ok a b c) {u v : Int} : keptB a b c t u v = true ↔ Per a b c t u v := by
  unfold keptB
  rw [List.all_eq_true]
  constructor
  · intro k x y
    have z := k _ (low_cell h x y)
    have z' := beq_iff_eq.mp z
    simp only at z'
    rw [col_low h] at z'
    have s := col_shift (t := t) h (low_in h x y) (lowX a b c x y + u) (lowY c y + v)
    rw [show lowX a b c x y + u + (x - lowX a b c x y) = x + u by omega, show lowY c y + v + (y - lowY c y) = y + v by omega] at s
    rw [s, z']
  · intro k p _
    exact beq_iff_eq.mpr (k p.1 p.2).symm
theorem Per.zero : Per a b c t 0 0 := fun x y => by rw [Int.add_zero, Int.add_zero]
theorem Per.add {u v u' v' : Int} (h : Per a b c t u v) (h' : Per a b c t u' v') : Per a b c t (u + u') (v + v') := fun x y => by
  rw [← Int.add_assoc, ← Int.add_assoc, h', h]
theorem Per.neg {u v : Int} (h : Per a b c t u v) : Per a b c t (-u) (-v) := fun x y => by
  have z := h (x + -u) (y + -v)
  rw [show x + -u + u = x by omega, show y + -v + v = y by omega] at z
  exact z.symm
theorem Per.mulN {u v : Int} (h : Per a b c t u v) : ∀ n : Nat, Per a b c t (n * u) (n * v)
  | 0 => by
    rw [show ((0 : Nat) : Int) * u = 0 by simp, show ((0 : Nat) : Int) * v = 0 by simp]
    exact Per.zero
  | n + 1 => by
    rw [show ((n + 1 : Nat) : Int) * u = n * u + u by rw [Int.natCast_add, Int.add_mul]; simp, show ((n + 1 : Nat) : Int) * v = n * v + v by rw [Int.natCast_add, Int.add_mul]; simp]
    exact (h.mulN n).add h
theorem Per.mul {u v : Int} (h : Per a b c t u v) (k : Int) : Per a b c t (k * u) (k * v) := by
  rcases Int.eq_nat_or_neg k with ⟨n, e | e⟩
  · rw [e]; exact h.mulN n
  · rw [e, Int.neg_mul, Int.neg_mul]; exact (h.mulN n).neg
theorem Per.sub {u v u' v' : Int} (h : Per a b c t u v) (h' : Per a b c t u' v') : Per a b c t (u - u') (v - v') := by
  rw [Int.sub_eq_add_neg, Int.sub_eq_add_neg]
  exact h.add h'.neg
theorem per_of (h : Ok a b c) {u v : Int} (hs : InL a b c u v) : Per a b c t u v := fun x y => col_shift h hs x y
theorem per_gcd {m n : Nat} (hm : Per a b c t m 0) (hn : Per a b c t n 0) : Per a b c t (Nat.gcd m n : Nat) 0 := by
  induction m, n using Nat.gcd.induction with
  | H0 n => rw [Nat.gcd_zero_left]; exact hn
  | H1 m n h0 ih =>
    rw [Nat.gcd_rec]
    refine ih ?_ hm
    have z := hn.sub (hm.mul ((n / m : Nat) : Int))
    rw [Int.mul_zero, Int.sub_zero] at z
    have e : ((n % m : Nat) : Int) = n - ((n / m : Nat) : Int) * m := by
      have := Nat.mod_add_div n m
      rw [Nat.mul_comm] at this
      have : ((n % m + n / m * m : Nat) : Int) = n := by rw [this]
      rw [Int.natCast_add, Int.natCast_mul] at this
      omega
    rw [e]
    exact z
/-- the least net of a text on a net -/
structure Least (a b c : Nat) (t : List Nat) (W R Hh : Nat) : Prop where
  ok : Ok W R Hh
  per : ∀ u v, InL W R Hh u v → Per a b c t u v
  sub : ∀ u v, InL a b c u v → InL W R Hh u v
theorem Least.self (h : Ok a b c) : Least a b c t a b c := ⟨h, fun _ _ i => per_of h i, fun _ _ i => i⟩
theorem inL_self (h : Ok a b c) : InL a b c a 0 ∧ InL a b c b c := by
  have hc := h.2
  refine ⟨⟨⟨0, by omega⟩, ⟨1, ?_⟩⟩, ⟨⟨1, by omega⟩, ⟨0, ?_⟩⟩⟩
  · rw [Int.zero_ediv]; omega
  · rw [Int.ediv_self (by omega)]; omega
/-- W the least kept width, (R, H) kept -/
theorem least_of (h : Ok a b c) {W R Hh : Nat} (hW : W ∣ a) (W0 : 0 < W) (kW : Per a b c t W 0) (least : ∀ d, d ∣ a → 0 < d → d < W → ¬ Per a b c t d 0) (hR : R < W) (hH : Hh ∣ c) (H0 : 0 < Hh) (kR : Per a b c t R Hh) : Least a b c t W R Hh := by
  have hc := h.2
  obtain ⟨sa, sb⟩ := inL_self h
  obtain ⟨c1, ec⟩ := hH
  -- the shift (b - c1 R, 0) is kept
  have t0 : Per a b c t (b - c1 * R) 0 := by
    have z := (per_of (t := t) h sb).sub (kR.mul c1)
    rw [show (c : Int) - c1 * Hh = 0 by rw [ec, Int.natCast_mul, Int.mul_comm]; omega] at z
    exact z
  have t1 : (W : Int) ∣ b - c1 * R := by
    -- its absolute value is kept, too
    have ka : Per a b c t (((b - c1 * R : Int).natAbs : Nat) : Int) 0 := by
      rcases Int.natAbs_eq (b - c1 * R : Int) with e | e
      · rw [← e]; exact t0
      · have z := t0.neg
        rw [Int.neg_zero] at z
        rw [show (((b - c1 * R : Int).natAbs : Nat) : Int) = -(b - c1 * R) by omega]
        exact z
    have kg := per_gcd kW ka
    have dv : Nat.gcd W (b - c1 * R : Int).natAbs ∣ a := Nat.dvd_trans (Nat.gcd_dvd_left _ _) hW
    have gp : 0 < Nat.gcd W (b - c1 * R : Int).natAbs := Nat.gcd_pos_of_pos_left _ W0
    have ge : ¬ Nat.gcd W (b - c1 * R : Int).natAbs < W := fun lt => least _ dv gp lt kg
    have eq : Nat.gcd W (b - c1 * R : Int).natAbs = W := Nat.le_antisymm (Nat.gcd_le_left _ W0) (by omega)
    rw [Int.ofNat_dvd_left]
    exact Nat.gcd_eq_left_iff_dvd.mp eq
  refine ⟨⟨hR, H0⟩, fun u v ⟨⟨k, ev⟩, m, hm⟩ => ?_, fun u v ⟨⟨k, ev⟩, m, hm⟩ => ?_⟩
  · subst ev
    rw [Int.mul_ediv_cancel_left _ (by omega)] at hm
    have z := (kR.mul k).add (kW.mul m)
    rw [Int.mul_zero, Int.add_zero, Int.mul_comm k (Hh : Int)] at z
    rw [show u = k * R + m * W by rw [Int.mul_comm m]; omega]
    exact z
  · subst ev
    rw [Int.mul_ediv_cancel_left _ (by omega)] at hm
    have e1 : (c : Int) * k = Hh * (c1 * k) := by rw [ec, Int.natCast_mul, Int.mul_assoc]
    refine ⟨⟨c1 * k, e1⟩, ?_⟩
    rw [e1, Int.mul_ediv_cancel_left _ (by omega)]
    obtain ⟨w, hw⟩ := t1
    obtain ⟨a1, ea⟩ := hW
    refine ⟨a1 * m + k * w, ?_⟩
    have e2 : u = a * m + k * b := by omega
    have e3 : k * (b : Int) = W * (k * w) + k * (c1 * R) := by
      rw [Int.mul_left_comm, ← hw, ← Int.mul_add]
      congr 1
      omega
    have e4 : (c1 : Int) * k * R = k * (c1 * R) := by rw [Int.mul_comm (c1 : Int), Int.mul_assoc]
    rw [e2, e3, e4, ea, Int.natCast_mul, Int.mul_add, Int.mul_assoc]
    omega
/-- the numbers of a net within another -/
theorem sub_dvd (h : Ok a b c) {W R Hh : Nat} (h' : Ok W R Hh) (s : ∀ u v, InL a b c u v → InL W R Hh u v) : W ∣ a ∧ Hh ∣ c := by
  obtain ⟨sa, sb⟩ := inL_self h
  obtain ⟨_, z⟩ := s _ _ sa
  obtain ⟨y, _⟩ := s _ _ sb
  rw [Int.zero_ediv, Int.zero_mul, Int.sub_zero] at z
  exact ⟨Int.natCast_dvd_natCast.mp z, Int.natCast_dvd_natCast.mp y⟩
/-- the text of the least cell -/
def cellText (a b c : Nat) (t : List Nat) (W Hh : Nat) : List Nat := (cellPl W Hh).map fun p => col a b c t p.1 p.2
theorem cell_at {W Hh i j : Nat} (hi : i < W) (hj : j < Hh) : (cellPl W Hh)[j * W + i]? = some ((i : Int), (j : Int)) := by
  have hl : j * W + i < W * Hh := by
    have : j * W + W ≤ Hh * W := by
      have := Nat.mul_le_mul_right W hj
      rw [Nat.succ_mul] at this
      exact this
    rw [Nat.mul_comm W Hh]
    omega
  unfold cellPl
  rw [List.getElem?_map, List.getElem?_range hl, Nat.mul_comm j W]
  simp only [Option.map_some, Nat.mul_add_mod, Nat.mod_eq_of_lt hi, Nat.mul_add_div (Nat.lt_of_le_of_lt (Nat.zero_le _) hi), Nat.div_eq_of_lt hi, Nat.add_zero]
theorem Least.col {W R Hh : Nat} (L : Least a b c t W R Hh) (x y : Int) : CpM.col W R Hh (cellText a b c t W Hh) x y = CpM.col a b c t x y := by
  obtain ⟨y1, y2⟩ := lowY_bd L.ok y
  obtain ⟨x1, x2⟩ := lowX_bd L.ok x y
  have z := L.per _ _ (low_in L.ok x y) (lowX W R Hh x y) (lowY Hh y)
  rw [show lowX W R Hh x y + (x - lowX W R Hh x y) = x by omega, show lowY Hh y + (y - lowY Hh y) = y by omega] at z
  rw [z]
  obtain ⟨i, hi⟩ := Int.eq_ofNat_of_zero_le x1
  obtain ⟨j, hj⟩ := Int.eq_ofNat_of_zero_le y1
  have g := cell_at (W := W) (Hh := Hh) (i := i) (j := j) (by omega) (by omega)
  conv => lhs; unfold CpM.col
  rw [hi, hj, show ((j : Int) * W + i).toNat = j * W + i by rw [← Int.natCast_mul, ← Int.natCast_add]; rfl, List.getD_eq_getElem?_getD, cellText, List.getElem?_map, g]
  rfl
theorem cellPl_len (a c : Nat) : (cellPl a c).length = a * c := by simp [cellPl]
theorem cellText_len (W Hh : Nat) : (cellText a b c t W Hh).length = W * Hh := by rw [cellText, List.length_map, cellPl_len]
theorem col_mem (h : Ok a b c) (hl : t.length = a * c) (x y : Int) : col a b c t x y ∈ t := by
  obtain ⟨l1, l2⟩ := low_lt h x y
  unfold col
  have : (lowY c y * a + lowX a b c x y).toNat < t.length := by omega
  rw [List.getD_eq_getElem?_getD, List.getElem?_eq_getElem this]
  exact List.getElem_mem this
end
end CpM
set_option Elab.async false
set_option linter.all false
set_option maxRecDepth 100000
set_option maxHeartbeats 4000000
/-! D06: the class Net. -/
namespace CpR
open PySem PySem.Spec PyProof.Rows L2 CpM
/-- a net at p -/
def NetAt (CN : Addr) (H : Hp) (p : Addr) (a b c : Nat) : Prop := ∃ dx t, H p = some (.ins CN dx [("own_numbers", V.ref t)]) ∧ H t = some (.tup [.int a, .int b, .int c])
theorem NetAt.same {CN p : Addr} {H H' : Hp} {a b c : Nat} (h : NetAt CN H p a b c) (s : Same H H') : NetAt CN H' p a b c := let ⟨dx, t, h1, h2⟩ := h; ⟨dx, t, s _ _ h1, s _ _ h2⟩
/-- a place at p -/
def PlAt (H : Hp) (p : Addr) (x y : Int) : Prop := H p = some (.tup [.int x, .int y])
/-- a list of places -/
def PlsAt (H : Hp) (l : Addr) (ps : List (Int × Int)) : Prop := ∃ L : List (Addr × Int × Int), H l = some (.lst (L.map fun p => V.ref p.1)) ∧ L.map (·.2) = ps ∧ ∀ p ∈ L, PlAt H p.1 p.2.1 p.2.2
theorem PlsAt.same {H H' : Hp} {l : Addr} {ps : List (Int × Int)} (h : PlsAt H l ps) (s : Same H H') : PlsAt H' l ps := let ⟨L, h1, h2, h3⟩ := h; ⟨L, s _ _ h1, h2, fun p hp => s _ _ (h3 p hp)⟩
theorem lk_own (t : Addr) : ([("own_numbers", V.ref t)] : List (Str × V)).lookup ("own_numbers" : Str) = some (V.ref t) := rfl
theorem made_same {H : Hp} {x dx : Addr} {o o' : HO} (h1 : H x = none) (h2 : H dx = none) : Same H (upd (upd H dx o) x o') := fun b u e => by
  rw [upd_ne (ne_of_none e h1), upd_ne (ne_of_none e h2)]
  exact e
section
variable {P : Program} {w : World} {K : PySem.W.Frag} {mg : Str → Option Value} {base : Heap} {CN CC CW CL : Addr}
def spNetInit (CN : Addr) : Sp := fun vs H Q _ => ∃ (p dx : Addr) (a b c : Nat), vs = [.ref p, .int a, .int b, .int c] ∧ H p = some (.ins CN dx []) ∧ Ok a b c ∧
  ∀ H' t, (∀ x o, x ≠ p → H x = some o → H' x = some o) → H' p = some (.ins CN dx [("own_numbers", V.ref t)]) → H' t = some (.tup [.int a, .int b, .int c]) → Q .non H'
theorem ok_Net (T : Txt K mg CN CC CW CL) : Dk P w K mg base CX0 3 "Net" CN (spNetInit CN) := by
  refine dk_of T.k_Net sc_Net_init b_Net_init (fun vs H Q E ⟨_, _, _, _, _, e, _⟩ => by rw [e]; rfl) (fun f cdv A outer s H vs Q E hr h => ?_)
  obtain ⟨p, dx, a, b, c, rfl, hp, ok, k⟩ := h
  refine ⟨_, Evl.pss_cut (ps_if (pt_not (pt_val (pe_df (E := E0) (ok_are_numbers T) hr (by decide) (by rfl) pass0 (pa_cons (pe_tup (pa_cons (pv 1) (pa_cons (pv 2) (pa_cons (pv 3) pa_nil)))) pa_nil)))) (pss_one ps_never) pss_nil)
    (pss_one (ps_fld (pv 0) (pe_tup (pa_cons (pv 1) (pa_cons (pv 2) (pa_cons (pv 3) pa_nil)))) rfl)), ?_⟩
  refine ⟨fun σ H' => Same H H' ∧ σ = [some (.ref p), some (.int a), some (.int b), some (.int c)], ⟨_, rfl, _, rfl, _, rfl, three_line, fun t ht => ⟨t, a, b, c, rfl, upd_same, ok.1, ok.2, fun H' s1 => ⟨true, rfl, iteF ⟨(same_new ht).trans s1, rfl⟩⟩⟩⟩, ?_⟩
  rintro σ H' ⟨s1, rfl⟩
  refine ⟨_, rfl, _, rfl, _, rfl, three_line, fun t ht => ⟨_, rfl, p, CN, dx, [], rfl, tup_upd' (s1 _ _ hp) ht, T.cls_CN, T.na_N, by show 0 < 1000; decide, ?_⟩⟩
  have npt : p ≠ t := ne_of_none (s1 _ _ hp) ht
  refine k _ t (fun x o nx e => ?_) upd_same (by rw [upd_ne npt.symm, upd_same])
  have e' := s1 _ _ e
  rw [upd_ne nx, upd_ne (ne_of_none e' ht)]
  exact e'
where tup_upd' {H : Hp} {p q : Addr} {o o' : HO} (e : H p = some o) (h : H q = none) : upd H q o' p = some o := by rw [upd_ne (ne_of_none e h)]; exact e
/-- Net(a, b, c): a new net -/
theorem net_new {CN : Addr} {H1 : Hp} {a b c : Nat} {Q : VK} {E : XK} (ok : Ok a b c) (q : ∀ H2 x, Same H1 H2 → NetAt CN H2 x a b c → Q (.ref x) H2) :
    ∀ x dx, H1 x = none → H1 dx = none → dx ≠ x → spNetInit CN (.ref x :: [.int a, .int b, .int c]) (upd (upd H1 dx (.own x)) x (.ins CN dx [])) (fun v H2 => v = .non ∧ Q (.ref x) H2) E :=
  fun x dx hx hd ne => ⟨x, dx, a, b, c, rfl, upd_same, ok, fun H' t kp hp ht => ⟨rfl, q H' x (fun y o e => by
    refine kp y o (ne_of_none e hx) ?_
    exact made_same hx hd _ _ e) ⟨dx, t, hp, ht⟩⟩⟩
def spNums (CN : Addr) : Sp := fun vs H Q _ => ∃ (p dx t : Addr), vs = [.ref p] ∧ H p = some (.ins CN dx [("own_numbers", V.ref t)]) ∧ Q (.ref t) H
theorem ok_Net_numbers (T : Txt K mg CN CC CW CL) : Dp P w K mg base CX0 1 CN "numbers" (spNums CN) := by
  refine dp_of T.p_Net_numbers sc_Net_numbers b_Net_numbers (fun vs H Q E ⟨_, _, _, e, _⟩ => by rw [e]; rfl) (fun f cdv A outer s H vs Q E hr h => ?_)
  obtain ⟨p, dx, t, rfl, hp, k⟩ := h
  exact ⟨_, pss_one (ps_ret (pe_fld (pv 0) rfl)), _, rfl, p, CN, dx, _, _, rfl, hp, T.cls_CN, T.na_N, lk_own t, k⟩
def spSize (CN : Addr) : Sp := fun vs H Q _ => ∃ (p : Addr) (a b c : Nat), vs = [.ref p] ∧ NetAt CN H p a b c ∧ a < 2 ^ 40 ∧ Q (.int ((a * c : Nat) : Int)) H
theorem ok_Net_size (T : Txt K mg CN CC CW CL) : Dp P w K mg base CX0 1 CN "size" (spSize CN) := by
  refine dp_of T.p_Net_size sc_Net_size b_Net_size (fun vs H Q E ⟨_, _, _, _, e, _⟩ => by rw [e]; rfl) (fun f cdv A outer s H vs Q E hr h => ?_)
  obtain ⟨p, a, b, c, rfl, ⟨dx, t, hp, ht⟩, la, k⟩ := h
  refine ⟨_, pss_one (ps_ret (pe_op op_mul (pe_ix ix_tup (pe_fld (pv 0) rfl) pe_int (fun _ _ => rfl)) (pe_ix ix_tup (pe_fld (pv 0) rfl) pe_int (fun _ _ => rfl)))), ?_⟩
  refine ⟨_, rfl, p, CN, dx, _, _, rfl, hp, T.cls_CN, T.na_N, lk_own t, t, _, _, _, rfl, rfl, SqT.of ht, rfl, _, rfl, p, CN, dx, _, _, rfl, hp, T.cls_CN, T.na_N, lk_own t, t, _, _, _, rfl, rfl, SqT.of ht, rfl, _, _, rfl, rfl, .inl ⟨by omega, by omega⟩, ?_⟩
  rw [Int.natCast_mul] at k
  exact k
def spPlace (CN : Addr) : Sp := fun vs H Q _ => ∃ (p q : Addr) (a b c : Nat) (x y : Int), vs = [.ref p, .ref q] ∧ NetAt CN H p a b c ∧ PlAt H q x y ∧ Ok a b c ∧ a < 2 ^ 30 ∧ c < 2 ^ 30 ∧ ∀ r, H r = none → Q (.ref r) (upd H r (.tup [.int (lowX a b c x y), .int (lowY c y)]))
theorem ok_place_in_cell (T : Txt K mg CN CC CW CL) : Dm P w K mg base CX0 1 CN "place_in_cell" (spPlace CN) := by
  refine dm_of T.m_Net_place_in_cell sc_Net_place_in_cell b_Net_place_in_cell (fun vs H Q E ⟨_, _, _, _, _, _, _, e, _⟩ => by rw [e]; rfl) (fun f cdv A outer s H vs Q E hr h => ?_)
  obtain ⟨p, q, a, b, c, x, y, rfl, ⟨dx, t, hp, ht⟩, hq, ok, la, lc, k⟩ := h
  have n0 := sc_Net_place_in_cell.nd
  refine ⟨_, Evl.pss_cut (ps_asg (pe_fld (pv 0) rfl) (pg_tup rfl (pgs_cons (pg_name (i := 2) n0 rfl (.inl rfl)) (pgs_cons (pg_name (i := 3) n0 rfl (.inl rfl)) (pgs_cons (pg_name (i := 4) n0 rfl (.inl rfl)) pgs_nil)))))
    (Evl.pss_cut (ps_set (i := 5) n0 rfl (.inl rfl) (pe_op op_fdivW (pe_ix ix_tup (pv 1) pe_int (fun _ _ => rfl)) (pv 4)))
    (pss_one (ps_ret (pe_tup (pa_cons (pe_op op_mod (pe_op op_sub (pe_ix ix_tup (pv 1) pe_int (fun _ _ => rfl)) (pe_op op_mul (pv 5) (pv 3))) (pv 2)) (pa_cons (pe_op op_sub (pe_ix ix_tup (pv 1) pe_int (fun _ _ => rfl)) (pe_op op_mul (pv 5) (pv 4))) pa_nil)))))), ?_⟩
  have hb := ok.1
  have hc := ok.2
  refine ⟨fun σ H' => H' = H ∧ σ = [some (.ref p), some (.ref q), some (.int a), some (.int b), some (.int c), none], ⟨_, rfl, p, CN, dx, _, _, rfl, hp, T.cls_CN, T.na_N, lk_own t, t, _, rfl, SqT.of ht, rfl, _, _, rfl, _, _, rfl, _, _, rfl, rfl, rfl, rfl⟩, ?_⟩
  rintro σ H' ⟨rfl, rfl⟩
  refine ⟨fun σ H1 => H1 = H' ∧ σ = [some (.ref p), some (.ref q), some (.int a), some (.int b), some (.int c), some (.int (y / c))], ⟨_, rfl, q, _, _, _, rfl, rfl, SqT.of hq, rfl, _, rfl, _, _, rfl, rfl, wide_div (b := 30) (by omega) (by omega) (by decide) (by decide), rfl, rfl⟩, ?_⟩
  rintro σ H1 ⟨rfl, rfl⟩
  exact ⟨_, rfl, q, _, _, _, rfl, rfl, SqT.of hq, rfl, _, rfl, _, rfl, _, _, rfl, rfl, .inr ⟨by omega, by omega⟩, _, _, rfl, rfl, _, rfl, _, _, rfl, rfl, by show (0 : Int) < a; omega,
    _, rfl, q, _, _, _, rfl, rfl, SqT.of hq, rfl, _, rfl, _, rfl, _, _, rfl, rfl, .inr ⟨by omega, by omega⟩, _, _, rfl, rfl, two_line, fun r hr => k r hr⟩
/-- net & other -/
def spAnd (CN : Addr) : Sp := fun vs H Q _ => ∃ (p o : Addr) (a b c u v r : Nat), vs = [.ref p, .ref o] ∧ NetAt CN H p a b c ∧ NetAt CN H o u v r ∧ Ok a b c ∧ Ok u v r ∧ a < 4096 ∧ c < 4096 ∧ u < 4096 ∧ r < 4096 ∧
  ∀ H' n (W R Hh : Nat), Same H H' → NetAt CN H' n W R Hh → Cmn a b c u v r W R Hh → Q (.ref n) H'
end
end CpR
set_option Elab.async false
set_option linter.all false
set_option maxRecDepth 100000
set_option maxHeartbeats 4000000
/-! D07: net & other, Net.whole(), net.spots(). -/
namespace CpR
open PySem PySem.Spec PyProof.Rows L2 CpM
section
variable {P : Program} {w : World} {K : PySem.W.Frag} {mg : Str → Option Value} {base : Heap} {CN CC CW CL : Addr}
theorem ok_and (T : Txt K mg CN CC CW CL) : Dm P w K mg base CX0 5 CN "__and__" (spAnd CN) := by
  refine dm_of T.m_Net_and sc_Net_and b_Net_and (fun vs H Q E ⟨_, _, _, _, _, _, _, _, e, _⟩ => by rw [e]; rfl) (fun f cdv A outer s H vs Q E hr h => ?_)
  obtain ⟨p, o, a, b, c, u, v, r, rfl, hp, ho, o1, o2, la, lc, lu, lr, k⟩ := h
  obtain ⟨dx, t, hp, ht⟩ := id hp
  obtain ⟨dy, t2, ho, ht2⟩ := id ho
  have n0 := sc_Net_and.nd
  refine ⟨_, Evl.pss_cut (ps_if (pt_not (pt_val (pe_callB (C8.call_isC T.ins_N) (by rfl) T.bt.isinstance (by decide +kernel) (pa_cons (pv 1) (pa_cons (pe_glob (v := .ref CN) (by rfl) T.g_Net rfl) pa_nil))))) (pss_one ps_never) pss_nil)
    (Evl.pss_cut (ps_set (i := 2) n0 rfl (.inl rfl) (pe_df (E := E0) (ok_common_numbers T) hr (by decide) (by rfl) pass0 (pa_cons (pe_fld (pv 0) rfl) (pa_cons (pe_fld (pv 1) rfl) pa_nil))))
    (pss_one (ps_ret (pe_dk (E := E0) (ok_Net T) hr (by decide) (by rfl) pass0 (pa_cons (pe_ix ix_tup (pv 2) pe_int (fun _ _ => rfl)) (pa_cons (pe_ix ix_tup (pv 2) pe_int (fun _ _ => rfl)) (pa_cons (pe_ix ix_tup (pv 2) pe_int (fun _ _ => rfl)) pa_nil))))))), ?_⟩
  refine ⟨fun σ H' => H' = H ∧ σ = [some (.ref p), some (.ref o), none], ⟨_, rfl, o, dy, _, rfl, ho, true, rfl, iteF ⟨rfl, rfl⟩⟩, ?_⟩
  rintro σ H' ⟨rfl, rfl⟩
  refine ⟨fun σ H1 => Same H' H1 ∧ ∃ (n : Addr) (W R Hh : Nat), Cmn a b c u v r W R Hh ∧ H1 n = some (.tup [.int W, .int R, .int Hh]) ∧ σ = [some (.ref p), some (.ref o), some (.ref n)],
    ⟨_, rfl, p, CN, dx, _, _, rfl, hp, T.cls_CN, T.na_N, lk_own t, _, rfl, o, CN, dy, _, _, rfl, ho, T.cls_CN, T.na_N, lk_own t2, t, t2, a, b, c, u, v, r, rfl, ht, ht2, o1, o2, la, lc, lu, lr, fun H1 n W R Hh s1 hn C => ⟨s1, n, W, R, Hh, C, hn, rfl⟩⟩, ?_⟩
  rintro σ H1 ⟨s1, n, W, R, Hh, C, hn, rfl⟩
  exact ⟨_, rfl, n, _, _, _, rfl, rfl, SqT.of hn, rfl, _, rfl, n, _, _, _, rfl, rfl, SqT.of hn, rfl, _, rfl, n, _, _, _, rfl, rfl, SqT.of hn, rfl, net_new C.ok fun H2 x s2 hx => k H2 x W R Hh (s1.trans s2) hx C⟩
/-- Net.whole() -/
def spWhole (CN : Addr) : Sp := fun vs H Q _ => vs = [.ref CN] ∧ ∀ H' n, Same H H' → NetAt CN H' n 1 0 1 → Q (.ref n) H'
theorem ok_whole (T : Txt K mg CN CC CW CL) : ∃ mc p g, ClX.CRead K CN mc ∧ ClX.CMet K CN mc "whole" p g ∧ FnR P w K mg base CX0 5 g (spWhole CN) := by
  obtain ⟨mc, p, g, fd, r, c, F⟩ := T.whole
  refine ⟨mc, p, g, r, c, ?_⟩
  obtain ⟨fN, fdN, psN, hmN, M, G, bN⟩ := ok_Net (P := P) (w := w) (base := base) T
  have z := (F.ok (P := P) (w := w) (mg := mg) (base := base) (k := 4) (sp := spWhole CN) sc_Net_whole (fun vs H Q E ⟨e, _⟩ => by rw [e]; rfl) (fun cdv A outer s H vs Q E hr h => ?_)).raw (ds := []) (dvs := []) (F.binds (ps := ["cls"]) fun _ _ _ _ _ _ us hl => match us, hl with | [_], _ => rfl) .nil
  · simpa using z
  · obtain ⟨rfl, k⟩ := h
    refine ⟨_, pss_one (ps_ret (pe_makeL (i := 0) (E := E0) M G (hr.mono (by decide)) rfl (.inl rfl) bN pass0 (pa_cons pe_int (pa_cons pe_int (pa_cons pe_int pa_nil))))), ?_⟩
    exact ⟨rfl, net_new ⟨by decide, by decide⟩ fun H2 x s2 hx => k H2 x s2 hx⟩
/-- net.spots() -/
def spSpots (CN : Addr) : Sp := fun vs H Q _ => ∃ (p : Addr) (a b c : Nat), vs = [.ref p] ∧ NetAt CN H p a b c ∧ 0 < a ∧ a * c < 2 ^ 20 ∧ a < 2 ^ 20 ∧ c < 2 ^ 20 ∧ ∀ H' l, Same H H' → PlsAt H' l (cellPl a c) → Q (.ref l) H'
theorem cell_next {a c i j : Nat} (ha : 0 < a) (hj : j < a) : (List.range (i * a + j + 1)).map (fun i => (((i % a : Nat) : Int), ((i / a : Nat) : Int))) = (List.range (i * a + j)).map (fun i => (((i % a : Nat) : Int), ((i / a : Nat) : Int))) ++ [((j : Int), (i : Int))] := by
  rw [List.range_succ, List.map_append, List.map_singleton]
  have e1 : (i * a + j) % a = j := by rw [Nat.mul_comm, Nat.mul_add_mod]; exact Nat.mod_eq_of_lt hj
  have e2 : (i * a + j) / a = i := by rw [Nat.mul_comm, Nat.mul_add_div ha, Nat.div_eq_of_lt hj, Nat.add_zero]
  rw [e1, e2]
/-- what a list of places under way is: k places made -/
def PlsUp (H H' : Hp) (D : Addr) (f : Nat → Int × Int) (k : Nat) : Prop := Same H H' ∧ H D = none ∧ PlsAt H' D ((List.range k).map f)
theorem PlsUp.next {H H' : Hp} {D q : Addr} {f : Nat → Int × Int} {k : Nat} (u : PlsUp H H' D f k) (hq : H' q = none) {x y : Int} (e : f k = (x, y)) {acc : List V} (ha : H' D = some (.lst acc)) :
    PlsUp H (upd (upd H' q (.tup [.int x, .int y])) D (.lst (acc ++ [.ref q]))) D f (k + 1) := by
  obtain ⟨s1, hD, L, h1, h2, h3⟩ := u
  rw [ha] at h1
  obtain rfl : acc = L.map fun p => V.ref p.1 := by injection h1 with h1; injection h1
  have nDq : D ≠ q := ne_of_none ha hq
  refine ⟨fun b o eb => ?_, hD, L ++ [(q, x, y)], by rw [upd_same]; simp, by rw [List.map_append, h2, List.range_succ, List.map_append, List.map_singleton, List.map_singleton, e], fun p hp => ?_⟩
  · rw [upd_ne (ne_of_none eb hD), upd_ne (ne_of_none (s1 _ _ eb) hq)]
    exact s1 _ _ eb
  · rcases List.mem_append.mp hp with hp | hp
    · have z := h3 p hp
      have n1 : p.1 ≠ D := fun e => by rw [e] at z; rw [PlAt, ha] at z; cases z
      show upd _ D _ p.1 = _
      rw [upd_ne n1, upd_ne (ne_of_none z hq)]
      exact z
    · rw [List.mem_singleton.mp hp]
      show upd _ D _ q = _
      rw [upd_ne nDq.symm, upd_same]
theorem PlsUp.start {H : Hp} {D : Addr} {f : Nat → Int × Int} (hD : H D = none) : PlsUp H (upd H D (.lst [])) D f 0 := ⟨same_new hD, hD, [], upd_same, rfl, fun p hp => nomatch hp⟩
theorem PlsUp.acc {H H' : Hp} {D : Addr} {f : Nat → Int × Int} {k : Nat} (u : PlsUp H H' D f k) : ∃ acc : List V, H' D = some (.lst acc) ∧ acc.length = k := by
  obtain ⟨s1, hD, L, h1, h2, h3⟩ := u
  refine ⟨_, h1, ?_⟩
  have z := congrArg List.length h2
  simpa using z
theorem ok_spots (T : Txt K mg CN CC CW CL) : Dm P w K mg base CX0 1 CN "spots" (spSpots CN) := by
  refine dm_of T.m_Net_spots sc_Net_spots b_Net_spots (fun vs H Q E ⟨_, _, _, _, e, _⟩ => by rw [e]; rfl) (fun f cdv A outer s H vs Q E hr h => ?_)
  obtain ⟨p, a, b, c, rfl, ⟨dx, t, hp, ht⟩, ha, hac, la, lc, k⟩ := h
  have n0 := sc_Net_spots.nd
  refine ⟨_, Evl.pss_cut (ps_asg (pe_fld (pv 0) rfl) (pg_tup rfl (pgs_cons (pg_name (i := 3) n0 rfl (.inr rfl)) (pgs_cons (pg_name (i := 1) n0 rfl (.inl rfl)) (pgs_cons (pg_name (i := 2) n0 rfl (.inl rfl)) pgs_nil)))))
    (pss_one (ps_ret (pe_lc2 (own := [("y", 4), ("x", 5)]) (vs1 := [5]) (g := gName 4) (g1 := gName 5) (tt := tYes) (tt1 := tYes) rfl n0 (pi_range1 (by rfl) T.bt.range (pa_cons (pv 2) pa_nil)) (blkOk_by (N := N_Net_spots) (sc := defScope s_Net_spots) (by decide +kernel)) (by decide)
      (fun _ _ _ _ _ => pg_name (i := 4) n0 rfl (Or.inl rfl)) (fun _ _ _ _ _ => pts_nil) (fun _ _ _ _ _ => pi_range1 (by rfl) T.bt.range (pa_cons (pv 3) pa_nil)) (fun _ _ _ _ _ => pg_name (i := 5) n0 rfl (Or.inl rfl)) (fun _ _ _ _ _ => pts_nil)
      (fun _ _ _ _ _ => pe_tup (pa_cons (pv 5) (pa_cons (pv 4) pa_nil)))))), ?_⟩
  refine ⟨fun σ H' => H' = H ∧ σ = [some (.ref p), some (.int b), some (.int c), some (.int a), none, none], ⟨_, rfl, p, CN, dx, _, _, rfl, hp, T.cls_CN, T.na_N, lk_own t, t, _, rfl, SqT.of ht, rfl, _, _, rfl, _, _, rfl, _, _, rfl, rfl, rfl, rfl⟩, ?_⟩
  rintro σ H' ⟨rfl, rfl⟩
  let f : Nat → Int × Int := fun i => (((i % a : Nat) : Int), ((i / a : Nat) : Int))
  refine ⟨_, rfl, _, rfl, by omega, by omega, fun D hD => ?_⟩
  rw [show ((c : Int)).toNat = c by omega]
  refine ⟨fun i m H1 => m = c - i ∧ i ≤ c ∧ PlsUp H' H1 D f (i * a), ⟨c, by omega, Nat.zero_le _, by rw [Nat.zero_mul]; exact PlsUp.start hD⟩, ?_⟩
  rintro i m H1 ⟨rfl, hi, u⟩
  by_cases hlt : i < c
  · refine .inr ⟨hlt, fun H2 => PlsUp H' H2 D f ((i + 1) * a), fun H2 u2 => ⟨c - (i + 1), by omega, rfl, hlt, u2⟩, fun x H2 y => ?_⟩
    obtain ⟨rfl, rfl⟩ := y
    refine ⟨rfl, _, rfl, _, rfl, by omega, by omega, ?_⟩
    rw [show ((a : Int)).toNat = a by omega]
    refine ⟨fun j m H3 => m = a - j ∧ j ≤ a ∧ PlsUp H' H3 D f (i * a + j), ⟨a, by omega, Nat.zero_le _, u⟩, ?_⟩
    rintro j m H3 ⟨rfl, hj, u3⟩
    by_cases hlj : j < a
    · refine .inr ⟨hlj, fun H4 => PlsUp H' H4 D f (i * a + (j + 1)), fun H4 u4 => ⟨a - (j + 1), by omega, rfl, hlj, u4⟩, fun x H4 y => ?_⟩
      obtain ⟨rfl, rfl⟩ := y
      refine ⟨rfl, _, rfl, _, rfl, two_line, fun q hq => ?_⟩
      obtain ⟨acc, hacc, hlen⟩ := u3.acc
      have hmul : i * a + a ≤ c * a := by
        have := Nat.mul_le_mul_right a hlt
        rw [Nat.succ_mul] at this
        exact this
      have hca : c * a < 2 ^ 20 := by rw [Nat.mul_comm]; exact hac
      refine ⟨acc, by rw [upd_ne (ne_of_none hacc hq)]; exact hacc, by rw [hlen, sizeLine_eq]; omega, ?_⟩
      have ef : f (i * a + j) = (((0 : Int) + (j : Int)), ((0 : Int) + (i : Int))) := by
        have e1 : (i * a + j) % a = j := by rw [Nat.mul_comm, Nat.mul_add_mod]; exact Nat.mod_eq_of_lt hlj
        have e2 : (i * a + j) / a = i := by rw [Nat.mul_comm, Nat.mul_add_div ha, Nat.div_eq_of_lt hlj, Nat.add_zero]
        show (((_ : Nat) : Int), ((_ : Nat) : Int)) = _
        rw [e1, e2]
        simp
      exact u3.next hq ef hacc
    · have e : j = a := by omega
      subst e
      refine .inl ⟨Nat.le_refl _, ?_⟩
      rw [Nat.succ_mul]
      exact u3
  · have e : i = c := by omega
    subst e
    refine .inl ⟨Nat.le_refl _, k H1 D u.1 ?_⟩
    rw [cellPl, Nat.mul_comm a i]
    exact u.2.2
end
end CpR
set_option Elab.async false
set_option linter.all false
set_option maxRecDepth 100000
set_option maxHeartbeats 4000000
/-! D08: colour_at, is_kept. -/
namespace CpR
open PySem PySem.Spec PyProof.Rows L2 CpM
/-- a text by its code points -/
def tx (cs : List Nat) : Str := ⟨cs.toArray⟩
def sign (c : Nat) : Str := ⟨#[c]⟩
theorem tx_len (cs : List Nat) : (tx cs).length = cs.length := by simp [tx, Str.length]
theorem sign_inj {c d : Nat} (h : sign c = sign d) : c = d := by simpa [sign] using h
theorem dec_sign (c d : Nat) : decide (V.str (sign c) = V.str (sign d)) = (c == d) := by
  rw [Bool.eq_iff_iff, decide_eq_true_eq, beq_iff_eq]
  exact ⟨fun e => sign_inj (by injection e), fun e => by rw [e]⟩
theorem join_signs (cs : List Nat) : Txt.join (Str.ofString "") (cs.map sign) = tx cs := by
  refine PySem.W.str_of_cps ?_
  rw [TL.join_eq]
  have z := TL.tl_join (Str.ofString "") (cs.map sign)
  have e0 : TL.tl (Str.ofString "") = [] := rfl
  rw [e0] at z
  refine Eq.trans z ?_
  rw [List.map_map]
  have key : ∀ ds : List Nat, TL.joinL [] (ds.map (TL.tl ∘ sign)) = ds := by
    intro ds
    induction ds with
    | nil => rfl
    | cons d ds ih =>
      cases ds with
      | nil => rfl
      | cons e ds =>
        show TL.tl (sign d) ++ ([] ++ TL.joinL [] ((e :: ds).map (TL.tl ∘ sign))) = _
        rw [ih]
        rfl
  rw [key]
  rfl
theorem sum_signs (cs : List Nat) : ((cs.map sign).map (·.length)).sum = cs.length := by
  induction cs with
  | nil => rfl
  | cons c cs ih =>
    rw [List.map_cons, List.map_cons, List.sum_cons, ih, List.length_cons]
    show 1 + cs.length = cs.length + 1
    omega
section
variable {P : Program} {w : World} {K : PySem.W.Frag} {mg : Str → Option Value} {base : Heap} {CN CC CW CL : Addr}
def spColour (CN : Addr) : Sp := fun vs H Q _ => ∃ (n q : Addr) (a b c : Nat) (cs : List Nat) (x y : Int), vs = [.ref n, .str (tx cs), .ref q] ∧ NetAt CN H n a b c ∧ PlAt H q x y ∧ Ok a b c ∧ a < 2 ^ 20 ∧ c < 2 ^ 20 ∧ cs.length = a * c ∧ ∀ H', Same H H' → Q (.str (sign (col a b c cs x y))) H'
theorem ok_colour_at (T : Txt K mg CN CC CW CL) : Df P w K mg base CX0 3 "colour_at" (spColour CN) := by
  refine df_of T.d_colour_at sc_colour_at b_colour_at (fun vs H Q E ⟨_, _, _, _, _, _, _, _, e, _⟩ => by rw [e]; rfl) (fun f cdv A outer s H vs Q E hr h => ?_)
  obtain ⟨n, q, a, b, c, cs, x, y, rfl, hn, hq, ok, la, lc, hl, k⟩ := h
  obtain ⟨dx, t, hp, ht⟩ := id hn
  have n0 := sc_colour_at.nd
  refine ⟨_, Evl.pss_cut (ps_asg (pe_dm (E := E0) (ok_place_in_cell T) T.cls_CN hr (by decide) pass0 (pv 0) (pa_cons (pv 2) pa_nil)) (pg_tup rfl (pgs_cons (pg_name (i := 3) n0 rfl (.inl rfl)) (pgs_cons (pg_name (i := 4) n0 rfl (.inl rfl)) pgs_nil))))
    (pss_one (ps_ret (pe_item_str (pv 1) (pe_op op_add (pe_op op_mul (pv 4) (pe_ix ix_tup (pe_dp (E := E0) (ok_Net_numbers T) T.cls_CN hr (by decide) pass0 (pv 0)) pe_int (fun _ _ => rfl))) (pv 3)) (fun _ _ => rfl)))), ?_⟩
  obtain ⟨y1, y2⟩ := lowY_bd ok y
  obtain ⟨x1, x2⟩ := lowX_bd ok x y
  refine ⟨fun σ H' => Same H H' ∧ σ = [some (.ref n), some (.str (tx cs)), some (.ref q), some (.int (lowX a b c x y)), some (.int (lowY c y))],
    ⟨_, rfl, n, dx, _, rfl, hp, rfl, _, rfl, n, q, a, b, c, x, y, rfl, hn, hq, ok, by omega, by omega, fun r hr => ⟨r, _, rfl, SqT.of upd_same, rfl, _, _, rfl, _, _, rfl, rfl, same_new hr, rfl⟩⟩, ?_⟩
  rintro σ H' ⟨s1, rfl⟩
  obtain ⟨l1, l2⟩ := low_lt ok x y
  have lt : (lowY c y * a + lowX a b c x y).toNat < cs.length := by omega
  have hac : a * c < 2 ^ 20 * 2 ^ 20 := Nat.mul_lt_mul'' la lc
  refine ⟨_, rfl, _, rfl, _, rfl, n, dx, _, rfl, s1 _ _ hp, n, dx, t, rfl, s1 _ _ hp, t, _, _, _, rfl, rfl, SqT.of (s1 _ _ ht), rfl, _, _, rfl, rfl, .inl ⟨by omega, by omega⟩, _, rfl, _, _, rfl, rfl, tx cs, _, col a b c cs x y, rfl, rfl, l1, by omega, ?_, ?_, k _ s1⟩
  · rw [tx_len, hl]; exact l2
  · show cs.toArray[(lowY c y * a + lowX a b c x y).toNat]? = some (col a b c cs x y)
    rw [List.getElem?_toArray, List.getElem?_eq_getElem lt]
    congr 1
    unfold col
    rw [List.getD_eq_getElem?_getD, List.getElem?_eq_getElem lt]
    rfl
def spKept (CN : Addr) : Sp := fun vs H Q _ => ∃ (n q : Addr) (a b c : Nat) (cs : List Nat) (u v : Int), vs = [.ref n, .str (tx cs), .ref q] ∧ NetAt CN H n a b c ∧ PlAt H q u v ∧ Ok a b c ∧ a < 2 ^ 20 ∧ c < 2 ^ 20 ∧ a * c < 2 ^ 20 ∧ cs.length = a * c ∧ ∀ H', Same H H' → Q (.bl (keptB a b c cs u v)) H'
theorem ok_is_kept (T : Txt K mg CN CC CW CL) : Df P w K mg base CX0 4 "is_kept" (spKept CN) := by
  refine df_of T.d_is_kept sc_is_kept b_is_kept (fun vs H Q E ⟨_, _, _, _, _, _, _, _, e, _⟩ => by rw [e]; rfl) (fun f cdv A outer s H vs Q E hr h => ?_)
  obtain ⟨n, q, a, b, c, cs, u, v, rfl, hn, hq, ok, la, lc, hac, hl, k⟩ := h
  obtain ⟨dx, t, hp, ht⟩ := id hn
  have n0 := sc_is_kept.nd
  refine ⟨_, pss_cons (ps_for PassesOwn.never rfl (pi_list (pe_dm0 (E := E0) (ok_spots T) T.cls_CN hr (by decide) pass0 (pv 0))) (pg_name (i := 3) n0 rfl (.inl rfl))
      (pss_one (ps_if (pt_cmpR op_ne (pe_df (E := E0) (ok_colour_at T) hr (by decide) (by rfl) pass0 (pa_cons (pv 0) (pa_cons (pv 1) (pa_cons (pv 3) pa_nil))))
        (pe_df (E := E0) (ok_colour_at T) hr (by decide) (by rfl) pass0 (pa_cons (pv 0) (pa_cons (pv 1) (pa_cons (pe_df (E := E0) (ok_plus T) hr (by decide) (by rfl) pass0 (pa_cons (pv 3) (pa_cons (pv 2) pa_nil))) pa_nil)))) (nomark _)) (pss_one (ps_ret pe_bl)) pss_nil)))
    (pss_one (ps_ret pe_bl)), ?_⟩
  refine ⟨_, rfl, n, dx, _, rfl, hp, rfl, n, a, b, c, rfl, hn, ok.pa, hac, la, lc, fun H1 l s1 hL => ?_⟩
  obtain ⟨L, h1, h2, h3⟩ := hL
  refine ⟨l, rfl, ⟨_, SqL.of h1⟩, for_list (K := K) (a := l) (xs := L.map fun p => V.ref p.1) (fun i σ H' => Same H1 H' ∧ (∃ o, σ = [some (.ref n), some (.str (tx cs)), some (.ref q), o]) ∧ ((cellPl a c).take i).all (fun p => col a b c cs p.1 p.2 == col a b c cs (p.1 + u) (p.2 + v)) = true) ⟨Same.refl _, ⟨_, rfl⟩, rfl⟩
    (fun i σ H' _ ⟨s2, _⟩ => s2.seq (SqL.of h1)) (fun i x σ H' hi ⟨s2, ⟨o, eo⟩, hk⟩ => ?_) (fun σ H' ⟨s2, _, hk⟩ => ?_)⟩
  · subst eo
    rw [List.getElem?_map] at hi
    obtain ⟨p, hp', rfl⟩ := Option.map_eq_some_iff.mp hi
    have hpl := h3 p (List.mem_of_getElem? hp')
    have gi : (cellPl a c)[i]? = some p.2 := by rw [← h2, List.getElem?_map, hp']; rfl
    refine ⟨_, rfl, _, rfl, _, rfl, n, p.1, a, b, c, cs, p.2.1, p.2.2, rfl, (hn.same s1).same s2, s2 _ _ hpl, ok, la, lc, hl, fun H3 s3 => ?_⟩
    refine ⟨_, rfl, _, rfl, _, rfl, _, rfl, p.1, q, p.2.1, p.2.2, u, v, rfl, s3 _ _ (s2 _ _ hpl), s3 _ _ (s2 _ _ (s1 _ _ hq)), fun r hr => ?_⟩
    refine ⟨n, r, a, b, c, cs, p.2.1 + u, p.2.2 + v, rfl, (((hn.same s1).same s2).same s3).same (same_new hr), upd_same, ok, la, lc, hl, fun H4 s4 => ⟨rfl, _, rfl, ?_⟩⟩
    have st : Same H1 H4 := ((s2.trans s3).trans (same_new hr)).trans s4
    have en : List.all ((cellPl a c).take (i + 1)) (fun p => col a b c cs p.1 p.2 == col a b c cs (p.1 + u) (p.2 + v)) = (col a b c cs p.2.1 p.2.2 == col a b c cs (p.2.1 + u) (p.2.2 + v)) := by
      rw [List.take_succ, gi, List.all_append, hk]
      simp
    rw [dec_sign]
    refine ite2 (fun ne => ?_) (fun eq => ?_)
    · have e0 : keptB a b c cs u v = false := by
        cases hkb : keptB a b c cs u v with
        | false => rfl
        | true =>
          have z := List.all_eq_true.mp hkb p.2 (List.mem_of_getElem? gi)
          rw [z] at ne
          exact absurd ne (by decide)
      have z := k H4 (s1.trans st)
      rw [e0] at z
      exact z
    · refine ⟨st, ⟨_, rfl⟩, ?_⟩
      rw [en]
      simpa using eq
  · rw [List.length_map] at hk
    have hlen : L.length = (cellPl a c).length := by rw [← h2, List.length_map]
    rw [hlen, List.take_length] at hk
    have z := k H' (s1.trans s2)
    rw [show keptB a b c cs u v = true from hk] at z
    exact z
end
end CpR
set_option Elab.async false
set_option linter.all false
set_option maxRecDepth 100000
set_option maxHeartbeats 4000000
/-! D09: kept_net, least_cell. -/
namespace CpR
open PySem PySem.Spec PyProof.Rows L2 CpM
theorem divs_mem {n d : Nat} (h : d ∈ divs n) : d ∣ n ∧ 0 < d := by
  obtain ⟨h1, h2⟩ := List.mem_filter.mp h
  rw [List.mem_range'_1] at h1
  exact ⟨Nat.dvd_of_mod_eq_zero (beq_iff_eq.mp h2), h1.1⟩
theorem mem_divs {n d : Nat} (hn : 0 < n) (h : d ∣ n) (h0 : 0 < d) : d ∈ divs n := by
  refine List.mem_filter.mpr ⟨?_, beq_iff_eq.mpr (Nat.mod_eq_zero_of_dvd h)⟩
  rw [List.mem_range'_1]
  have := Nat.le_of_dvd hn h
  omega
theorem divs_up (n : Nat) : (divs n).Pairwise (· < ·) := by
  unfold divs
  exact List.Pairwise.filter _ (List.pairwise_lt_range' ..)
theorem divs_len (n : Nat) : (divs n).length ≤ n := by
  have := List.length_filter_le (fun d => n % d == 0) (List.range' 1 n)
  rw [List.length_range'] at this
  exact this
/-- the first kept width -/
theorem first_width {a b c : Nat} {cs : List Nat} (ok : Ok a b c) : ∃ W F, (divs a).filter (fun (d : Nat) => keptB a b c cs (d : Int) 0) = W :: F ∧ W ∣ a ∧ 0 < W ∧ Per a b c cs W 0 ∧ ∀ d, d ∣ a → 0 < d → d < W → ¬ Per a b c cs d 0 := by
  have ha := ok.pa
  have ma : a ∈ (divs a).filter (fun (d : Nat) => keptB a b c cs (d : Int) 0) := List.mem_filter.mpr ⟨mem_divs ha (Nat.dvd_refl _) ha, (kept_per ok).mpr (per_of ok (inL_self ok).1)⟩
  have up : ((divs a).filter (fun (d : Nat) => keptB a b c cs (d : Int) 0)).Pairwise (· < ·) := List.Pairwise.filter _ (divs_up a)
  cases e : (divs a).filter (fun (d : Nat) => keptB a b c cs (d : Int) 0) with
  | nil => rw [e] at ma; cases ma
  | cons W F =>
    have mW : W ∈ (divs a).filter (fun (d : Nat) => keptB a b c cs (d : Int) 0) := by rw [e]; exact List.mem_cons_self
    obtain ⟨m1, m2⟩ := List.mem_filter.mp mW
    obtain ⟨d1, d2⟩ := divs_mem m1
    refine ⟨W, F, rfl, d1, d2, (kept_per ok).mp m2, fun d hd h0 lt hp => ?_⟩
    have md : d ∈ (divs a).filter (fun (d : Nat) => keptB a b c cs (d : Int) 0) := List.mem_filter.mpr ⟨mem_divs ha hd h0, (kept_per ok).mpr hp⟩
    rw [e] at md up
    rcases List.mem_cons.mp md with e2 | e2
    · omega
    · have := (List.pairwise_cons.mp up).1 d e2
      omega
section
variable {P : Program} {w : World} {K : PySem.W.Frag} {mg : Str → Option Value} {base : Heap} {CN CC CW CL : Addr}
def spKeptNet (CN : Addr) : Sp := fun vs H Q _ => ∃ (n : Addr) (a b c : Nat) (cs : List Nat), vs = [.ref n, .str (tx cs)] ∧ NetAt CN H n a b c ∧ Ok a b c ∧ a < 2 ^ 20 ∧ c < 2 ^ 20 ∧ a * c < 2 ^ 20 ∧ cs.length = a * c ∧
  ∀ H' n' (W R Hh : Nat), Same H H' → NetAt CN H' n' W R Hh → Least a b c cs W R Hh → Q (.ref n') H'
theorem ok_kept_net (T : Txt K mg CN CC CW CL) : Df P w K mg base CX0 5 "kept_net" (spKeptNet CN) := by
  refine df_of T.d_kept_net sc_kept_net b_kept_net (fun vs H Q E ⟨_, _, _, _, _, e, _⟩ => by rw [e]; rfl) (fun f cdv A outer s H vs Q E hr h => ?_)
  obtain ⟨n, a, b, c, cs, rfl, hn, ok, la, lc, hac, hl, k⟩ := h
  obtain ⟨dx, t, hp, ht⟩ := id hn
  have n0 := sc_kept_net.nd
  refine ⟨_, Evl.pss_cut (ps_asg (pe_dp (E := E0) (ok_Net_numbers T) T.cls_CN hr (by decide) pass0 (pv 0)) (pg_tup rfl (pgs_cons (pg_name (i := 2) n0 rfl (.inl rfl)) (pgs_cons (pg_name (i := 3) n0 rfl (.inl rfl)) (pgs_cons (pg_name (i := 4) n0 rfl (.inl rfl)) pgs_nil)))))
    (Evl.pss_cut (ps_set (i := 5) n0 rfl (.inl rfl) (pe_ix ix_list (pe_lc (own := [("number", 8)]) (g := gName 8) (tt := _) rfl n0 (pi_list (pe_df (E := E0) (ok_divisors T) hr (by decide) (by rfl) pass0 (pa_cons (pv 2) pa_nil))) (blkOk_by (N := N_kept_net) (sc := defScope s_kept_net) (by decide +kernel))
        (fun _ _ _ _ _ => pg_name (i := 8) n0 rfl (Or.inl rfl)) (fun _ _ _ _ _ => pts_one (pt_val (pe_df (E := E0) (ok_is_kept T) hr (by decide) (by rfl) pass0 (pa_cons (pv 0) (pa_cons (pv 1) (pa_cons (pe_tup (pa_cons (pv 8) (pa_cons pe_int pa_nil))) pa_nil)))))) (fun _ _ _ _ _ => pv 8)) pe_int (fun _ _ => rfl)))
    (pss_cons (ps_for PassesOwn.never rfl (pi_list (pe_df (E := E0) (ok_divisors T) hr (by decide) (by rfl) pass0 (pa_cons (pv 4) pa_nil))) (pg_name (i := 6) n0 rfl (.inl rfl))
      (pss_one (ps_for PassesOwn.never rfl (pi_range1 (by rfl) T.bt.range (pa_cons (pv 5) pa_nil)) (pg_name (i := 7) n0 rfl (.inl rfl))
        (pss_one (ps_if (pt_val (pe_df (E := E0) (ok_is_kept T) hr (by decide) (by rfl) pass0 (pa_cons (pv 0) (pa_cons (pv 1) (pa_cons (pe_tup (pa_cons (pv 7) (pa_cons (pv 6) pa_nil))) pa_nil)))))
          (pss_one (ps_ret (pe_dk (E := E0) (ok_Net T) hr (by decide) (by rfl) pass0 (pa_cons (pv 5) (pa_cons (pv 7) (pa_cons (pv 6) pa_nil)))))) pss_nil)))))
    (pss_one (ps_ret (pv 0))))), ?_⟩
  obtain ⟨W, F, eF, hWa, W0, kW, least⟩ := first_width (cs := cs) ok
  have lW : W ≤ a := Nat.le_of_dvd ok.pa hWa
  let st : Option V → Option V → Option V → Option V → L2.St := fun wd r ri nu => [some (.ref n), some (.str (tx cs)), some (.int a), some (.int b), some (.int c), wd, r, ri, nu]
  refine ⟨fun σ H' => H' = H ∧ σ = st none none none none, ⟨_, rfl, n, dx, _, rfl, hp, n, dx, t, rfl, hp, t, _, rfl, SqT.of ht, rfl, _, _, rfl, _, _, rfl, _, _, rfl, rfl, rfl, rfl⟩, ?_⟩
  rintro σ H0 ⟨rfl, rfl⟩
  refine ⟨fun σ H' => Same H0 H' ∧ σ = st (some (.int W)) none none none, ⟨_, rfl, a, rfl, la, fun l hl0 => ⟨l, rfl, ⟨_, SqL.of upd_same⟩, fun D hD => ?_⟩⟩, ?_⟩
  · have hD0 : H0 D = none := (same_new hl0).free hD
    have hlD : l ≠ D := ne_of_none upd_same hD
    refine lc_list (K := K) (a := l) (xs := (divs a).map fun d => V.int (d : Nat)) (fun i H' => Same H0 H' ∧ H' l = some (.lst ((divs a).map fun d => .int (d : Nat))) ∧ H' D = some (.lst ((((divs a).take i).filter fun (d : Nat) => keptB a b c cs (d : Int) 0).map fun d => .int (d : Nat))))
      ⟨(same_new hl0).trans (same_new hD), by rw [upd_ne hlD, upd_same], upd_same⟩ (fun i H' _ ⟨_, h2, _⟩ => SqL.of h2) (fun i x H' hi ⟨s1, h2, h3⟩ => ?_) (fun H' ⟨s1, h2, h3⟩ => ?_)
    · rw [List.getElem?_map] at hi
      obtain ⟨d, hd, rfl⟩ := Option.map_eq_some_iff.mp hi
      have tk : (divs a).take (i + 1) = (divs a).take i ++ [d] := by rw [List.take_succ, hd]; rfl
      refine ⟨rfl, _, rfl, _, rfl, _, rfl, two_line, fun q hq => ⟨n, q, a, b, c, cs, d, 0, rfl, (hn.same s1).same (same_new hq), upd_same, ok, la, lc, hac, hl, fun H2 s2 => ⟨_, rfl, ?_⟩⟩⟩
      have s3 : Same H' H2 := (same_new hq).trans s2
      refine ite2 (fun c1 => ⟨_, rfl, _, s3 _ _ h3, ?_, ?_, ?_, ?_⟩) (fun c1 => ⟨s1.trans s3, s3 _ _ h2, ?_⟩)
      · rw [List.length_map, sizeLine_eq]
        have l1 := List.length_filter_le (fun (d : Nat) => keptB a b c cs (d : Int) 0) ((divs a).take i)
        have l2 := List.length_take_le i (divs a)
        have l3 := divs_len a
        have l4 : ((divs a).take i).length ≤ (divs a).length := List.length_take_le' i (divs a)
        omega
      · intro bb o e
        rw [upd_ne (ne_of_none e hD0)]
        exact s3 _ _ (s1 _ _ e)
      · rw [upd_ne hlD]
        exact s3 _ _ h2
      · rw [upd_same, tk, List.filter_append, List.map_append]
        have e1 : [d].filter (fun (d : Nat) => keptB a b c cs (d : Int) 0) = [d] := by simp [c1]
        rw [e1]
        rfl
      · rw [tk, List.filter_append, List.map_append]
        have e1 : [d].filter (fun (d : Nat) => keptB a b c cs (d : Int) 0) = [] := by simp [c1]
        rw [e1]
        simpa using s3 _ _ h3
    · rw [List.length_map, List.take_length, eF] at h3
      exact ⟨D, _, 0, V.int W, rfl, rfl, SqL.of h3, atI_nat (j := 0) rfl, s1, rfl⟩
  rintro σ H1 ⟨s1, rfl⟩
  refine ⟨_, rfl, c, rfl, lc, fun l hl0 => ⟨l, rfl, ⟨_, SqL.of upd_same⟩, ?_⟩⟩
  refine for_list (K := K) (a := l) (xs := (divs c).map fun d => V.int (d : Nat)) (fun i σ H' => Same H0 H' ∧ H' l = some (.lst ((divs c).map fun d => .int (d : Nat))) ∧ ∃ o o', σ = st (some (.int W)) o o' none) ⟨s1.trans (same_new hl0), upd_same, _, _, rfl⟩
    (fun i σ H' _ ⟨_, h2, _⟩ => SqL.of h2) (fun i x σ H' hi ⟨s2, h2, o, o', eo⟩ => ?_) (fun σ H' ⟨s2, h2, o, o', eo⟩ => ?_)
  · subst eo
    rw [List.getElem?_map] at hi
    obtain ⟨d, hd, rfl⟩ := Option.map_eq_some_iff.mp hi
    obtain ⟨dc, d0⟩ := divs_mem (List.mem_of_getElem? hd)
    have ld : d ≤ c := Nat.le_of_dvd ok.2 dc
    refine ⟨_, rfl, _, rfl, by omega, by omega, ?_⟩
    rw [show ((W : Int)).toNat = W by omega]
    refine for_range (lo := 0) (n := W) (fun j σ H2 => Same H' H2 ∧ ∃ o', σ = st (some (.int W)) (some (.int d)) o' none) ⟨Same.refl _, _, rfl⟩ (fun j σ H2 hj ⟨s3, o', eo⟩ => ?_) (fun σ H2 ⟨s3, o', eo⟩ => ⟨s2.trans s3, s3 _ _ h2, _, _, eo⟩)
    subst eo
    have ej : (0 : Int) + (j : Int) = j := by omega
    rw [ej]
    refine ⟨_, rfl, _, rfl, _, rfl, _, rfl, two_line, fun q hq => ⟨n, q, a, b, c, cs, j, d, rfl, ((hn.same s2).same s3).same (same_new hq), upd_same, ok, la, lc, hac, hl, fun H3 s4 => ⟨_, rfl, ?_⟩⟩⟩
    have s5 : Same H' H3 := s3.trans ((same_new hq).trans s4)
    refine ite2 (fun c1 => ⟨_, rfl, _, rfl, _, rfl, net_new ⟨hj, d0⟩ fun H4 x s6 hx => ?_⟩) (fun c1 => ⟨s5, _, rfl⟩)
    exact k H4 x W j d ((s2.trans s5).trans s6) hx (least_of ok hWa W0 kW least hj dc d0 ((kept_per ok).mp c1))
  · subst eo
    exact ⟨_, rfl, k H' n a b c s2 (hn.same s2) (Least.self ok)⟩
def spLeast (CN : Addr) : Sp := fun vs H Q _ => ∃ (n : Addr) (a b c : Nat) (cs : List Nat), vs = [.ref n, .str (tx cs)] ∧ NetAt CN H n a b c ∧ Ok a b c ∧ a < 2 ^ 20 ∧ c < 2 ^ 20 ∧ a * c < 2 ^ 20 ∧ cs.length = a * c ∧
  ∀ H' r n' (W R Hh : Nat), Same H H' → H' r = some (.tup [.ref n', .str (tx (cellText a b c cs W Hh))]) → NetAt CN H' n' W R Hh → Least a b c cs W R Hh → Q (.ref r) H'
theorem ok_least_cell (T : Txt K mg CN CC CW CL) : Df P w K mg base CX0 6 "least_cell" (spLeast CN) := by
  refine df_of T.d_least_cell sc_least_cell b_least_cell (fun vs H Q E ⟨_, _, _, _, _, e, _⟩ => by rw [e]; rfl) (fun f cdv A outer s H vs Q E hr h => ?_)
  obtain ⟨n, a, b, c, cs, rfl, hn, ok, la, lc, hac, hl, k⟩ := h
  have n0 := sc_least_cell.nd
  refine ⟨_, Evl.pss_cut (ps_set (i := 2) n0 rfl (.inl rfl) (pe_df (E := E0) (ok_kept_net T) hr (by decide) (by rfl) pass0 (pa_cons (pv 0) (pa_cons (pv 1) pa_nil))))
    (pss_one (ps_ret (pe_tup (pa_cons (pv 2) (pa_cons (pe_join pe_str (pe_lc (own := [("place", 3)]) (g := gName 3) (tt := tYes) rfl n0 (pi_list (pe_dm0 (E := E0) (ok_spots T) T.cls_CN hr (by decide) pass0 (pv 2))) (blkOk_by (N := N_least_cell) (sc := defScope s_least_cell) (by decide +kernel))
        (fun _ _ _ _ _ => pg_name (i := 3) n0 rfl (Or.inl rfl)) (fun _ _ _ _ _ => pts_nil) (fun _ _ _ _ _ => pe_df (E := E0) (ok_colour_at T) hr (by decide) (by rfl) pass0 (pa_cons (pv 0) (pa_cons (pv 1) (pa_cons (pv 3) pa_nil)))))) pa_nil))))), ?_⟩
  refine ⟨fun σ H' => Same H H' ∧ ∃ n' W R Hh, NetAt CN H' n' W R Hh ∧ Least a b c cs W R Hh ∧ σ = [some (.ref n), some (.str (tx cs)), some (.ref n'), none],
    ⟨_, rfl, _, rfl, n, a, b, c, cs, rfl, hn, ok, la, lc, hac, hl, fun H' n' W R Hh s1 hn' L => ⟨s1, n', W, R, Hh, hn', L, rfl⟩⟩, ?_⟩
  rintro σ H1 ⟨s1, n', W, R, Hh, hn', L, rfl⟩
  obtain ⟨dW, dH⟩ := sub_dvd ok L.ok L.sub
  have lW : W ≤ a := Nat.le_of_dvd ok.pa dW
  have lH : Hh ≤ c := Nat.le_of_dvd ok.2 dH
  have lWH : W * Hh ≤ a * c := Nat.mul_le_mul lW lH
  obtain ⟨dx, t, hp, ht⟩ := id hn'
  refine ⟨_, rfl, ⟨_, rfl⟩, _, rfl, n', dx, _, rfl, hp, rfl, n', W, R, Hh, rfl, hn', L.ok.pa, by omega, by omega, by omega, fun H2 l s2 hL => ?_⟩
  obtain ⟨M, h1, h2, h3⟩ := hL
  refine ⟨l, rfl, ⟨_, SqL.of h1⟩, fun D hD => lc_list (K := K) (a := l) (xs := M.map fun p => V.ref p.1) (fun i H' => Same H2 H' ∧ H' D = some (.lst ((((cellPl W Hh).take i).map fun p => sign (col a b c cs p.1 p.2)).map V.str)))
    ⟨same_new hD, by rw [upd_same]; rfl⟩ (fun i H' _ ⟨s3, _⟩ => s3.seq (SqL.of h1)) (fun i x H' hi ⟨s3, h4⟩ => ?_) (fun H' ⟨s3, h4⟩ => ?_)⟩
  · rw [List.getElem?_map] at hi
    obtain ⟨p, hp', rfl⟩ := Option.map_eq_some_iff.mp hi
    have hpl := h3 p (List.mem_of_getElem? hp')
    have gi : (cellPl W Hh)[i]? = some p.2 := by rw [← h2, List.getElem?_map, hp']; rfl
    have li : i < W * Hh := by rw [← cellPl_len]; exact (List.getElem?_eq_some_iff.mp gi).1
    refine ⟨rfl, _, rfl, _, rfl, _, rfl, n, p.1, a, b, c, cs, p.2.1, p.2.2, rfl, ((hn.same s1).same s2).same s3, s3 _ _ hpl, ok, la, lc, hl, fun H4 s4 => ⟨_, s4 _ _ h4, ?_, ?_, ?_⟩⟩
    · have l1 : ((cellPl W Hh).take i).length ≤ i := by rw [List.length_take]; exact Nat.min_le_left _ _
      rw [List.length_map, List.length_map, sizeLine_eq]
      omega
    · intro bb o e
      rw [upd_ne (ne_of_none e hD)]
      exact s4 _ _ (s3 _ _ e)
    · rw [upd_same, List.take_succ, gi]
      simp
  · have el : M.length = (cellPl W Hh).length := by rw [← h2, List.length_map]
    rw [List.length_map, el, List.take_length] at h4
    have et : (cellPl W Hh).map (fun p => sign (col a b c cs p.1 p.2)) = (cellText a b c cs W Hh).map sign := by rw [cellText, List.map_map]; rfl
    rw [et] at h4
    refine ⟨_, D, (cellText a b c cs W Hh).map sign, rfl, rfl, .inl (SqL.of h4), ?_, two_line, fun r hr => ?_⟩
    · rw [sum_signs, List.length_map, cellText_len]
      show W * Hh + W * Hh * 0 ≤ 16777216
      omega
    · rw [join_signs]
      have st : Same H1 (upd H' r (.tup [.ref n', .str (tx (cellText a b c cs W Hh))])) := (s2.trans s3).trans (same_new hr)
      exact k _ r n' W R Hh (s1.trans st) upd_same (hn'.same st) L
end
end CpR
set_option Elab.async false
set_option linter.all false
set_option maxRecDepth 100000
set_option maxHeartbeats 4000000
/-! D10: comprehensions and loops in the usual cases; is_row. -/
namespace CpR
open PySem PySem.Spec PyProof.Rows L2 CpM
/-- all but the lists stays -/
def KeepN (H H' : Hp) : Prop := ∀ b o, H b = some o → (∀ xs, o ≠ .lst xs) → H' b = some o
theorem Same.keepN {H H' : Hp} (s : Same H H') : KeepN H H' := fun b o e _ => s b o e
theorem KeepN.trans {H H1 H2 : Hp} (a : KeepN H H1) (b : KeepN H1 H2) : KeepN H H2 := fun c o e n => b c o (a c o e n) n
theorem keepN_lst {H : Hp} {D : Addr} {xs ys : List V} (h : H D = some (.lst xs)) : KeepN H (upd H D (.lst ys)) := fun b o e n => by
  have ne : b ≠ D := fun q => by
    rw [q, h] at e
    exact n xs (Option.some.inj e).symm
  rw [upd_ne ne]
  exact e
theorem lt_line {n : Nat} (h : n < 2 ^ 20) : n < sizeLine := by rw [sizeLine_eq]; omega
section
variable {J : It} {n : Nat} {G : Hp → Prop} {Y : Nat → Hp → V → Hp → Prop}
/-- a comprehension without a test: the i-th item is told by R, all else stays -/
theorem lc_rel (w : Walk J n G Y) (hn : n < 2 ^ 20) {g : TG} {te : TE} {vs : List Nat} {σ : L2.St} {H1 : Hp} {D : Addr} {Qd : Hp → Prop} (hD : H1 D = none) (R : Nat → V → Hp → Prop) (mono : ∀ i y H H', KeepN H H' → R i y H → R i y H') (hG : ∀ H, Same H1 H → G H)
    (hs : ∀ i x H H', i < n → Same H1 H → Y i H x H' → g x (wipe σ vs) H' fun σ2 H2 => wipe σ2 vs = wipe σ vs ∧ te σ2 H2 fun y H4 => R i y H4 ∧ Same H H4)
    (teM : ∀ σ H Q Q', (∀ y H', Q y H' → Q' y H') → te σ H Q → te σ H Q') (gM : ∀ v σ H Q Q', (∀ σ' H', Q σ' H' → Q' σ' H') → g v σ H Q → g v σ H Q')
    (hd : ∀ H' ys, Same H1 H' → ys.length = n → (∀ i y, ys[i]? = some y → R i y H') → H' D = some (.lst ys) → Qd H') :
    ∃ W : Nat → Nat → Hp → Prop, (∃ m, W 0 m (upd H1 D (.lst []))) ∧ ∀ i m H, W i m H →
      (J.stop i H ∧ Qd H) ∨ (J.go i H ∧ ∃ Nx : Hp → Prop, (∀ H', Nx H' → ∃ m', m' < m ∧ W (i + 1) m' H') ∧ ∀ x H', J.yld i H x H' → g x (wipe σ vs) H' fun σ2 H2 => wipe σ2 vs = wipe σ vs ∧ tYes σ2 H2 fun b H3 =>
        if b = true then te σ2 H3 fun y H4 => ∃ acc, H4 D = some (.lst acc) ∧ acc.length < sizeLine ∧ Nx (upd H4 D (.lst (acc ++ [y]))) else Nx H3) := by
  refine lc_it w (fun i H => Same H1 H ∧ ∃ ys : List V, ys.length = i ∧ H D = some (.lst ys) ∧ ∀ j y, ys[j]? = some y → R j y H) ⟨same_new hD, [], rfl, upd_same, fun j y e => by simp at e⟩ (fun i H _ ⟨s, _⟩ => hG H s) (fun i x H H' hi ⟨s, ys, el, eD, hR⟩ y => ?_) (fun H ⟨s, ys, el, eD, hR⟩ => hd H ys s el hR eD)
  refine gM _ _ _ _ _ (fun σ2 H2 ⟨e, q⟩ => ⟨e, ?_⟩) (hs i x H H' hi s y)
  refine teM _ _ _ _ (fun z H4 ⟨r, s4⟩ => ?_) q
  have k4 := keepN_lst (ys := ys ++ [z]) (s4 _ _ eD)
  refine ⟨ys, s4 _ _ eD, by rw [el]; exact lt_line (by omega), fun b o eb => ?_, ys ++ [z], by rw [List.length_append, el]; rfl, upd_same, fun j y' ej => ?_⟩
  · rw [upd_ne (ne_of_none eb hD)]
    exact s4 _ _ (s _ _ eb)
  · by_cases lt : j < ys.length
    · rw [List.getElem?_append_left lt] at ej
      exact mono _ _ _ _ ((Same.keepN s4).trans k4) (hR j y' ej)
    · rw [List.getElem?_append_right (by omega)] at ej
      have e0 : j - ys.length = 0 := by
        have := (List.getElem?_eq_some_iff.mp ej).1
        simp at this
        omega
      rw [e0] at ej
      obtain rfl : z = y' := Option.some.inj ej
      have ej' : j = i := by omega
      rw [ej']
      exact mono _ _ _ _ k4 r
end
theorem map_of_get {n : Nat} {f : Nat → V} : ∀ {ys : List V}, ys.length = n → (∀ i y, ys[i]? = some y → y = f i) → ys = (List.range n).map f := by
  intro ys hl h
  apply List.ext_getElem?
  intro i
  rw [List.getElem?_map]
  by_cases lt : i < n
  · rw [List.getElem?_range lt]
    obtain ⟨y, hy⟩ : ∃ y, ys[i]? = some y := ⟨_, List.getElem?_eq_getElem (by omega)⟩
    rw [hy, h i y hy]
    rfl
  · rw [List.getElem?_eq_none (by omega), List.getElem?_eq_none (by rw [List.length_range]; omega)]
    rfl
theorem gName_mono {i : Nat} : ∀ (v : V) (σ : L2.St) (H : Hp) (Q Q' : L2.St → Hp → Prop), (∀ σ' H', Q σ' H' → Q' σ' H') → gName i v σ H Q → gName i v σ H Q' := fun _ _ _ _ _ f h => f _ _ h
section
variable {P : Program} {w : World} {K : PySem.W.Frag} {mg : Str → Option Value} {base : Heap} {CN CC CW CL : Addr}
def spIsRow : Sp := fun vs H Q _ => ∃ (cs : List Nat) (sg : Str) (m : Int), vs = [.str (tx cs), .str sg, .int m] ∧ 1 ≤ cs.length ∧ (cs.length : Int) ≤ m ∧ cs.length < 2 ^ 20 ∧ (∀ c ∈ cs, c ∈ sg.cps.toList) ∧ ∀ H', Same H H' → Q (.bl true) H'
theorem ok_is_row (T : Txt K mg CN CC CW CL) : Df P w K mg base CX0 1 "is_row" spIsRow := by
  refine df_of T.d_is_row sc_is_row b_is_row (fun vs H Q E ⟨_, _, _, e, _⟩ => by rw [e]; rfl) (fun f cdv A outer s H vs Q E hr h => ?_)
  obtain ⟨cs, sg, m, rfl, l1, l2, l3, hin, k⟩ := h
  have n0 := sc_is_row.nd
  refine ⟨_, pss_one (ps_ret (pe_and (pe_callB call_isi (by rfl) T.bt.isinstance (by decide +kernel) (pa_cons (pv 0) (pa_cons (pe_bltn (v := .ty "str") (by rfl) T.bt.b_str (by decide +kernel) rfl) pa_nil)))
    (pe_and (pe_chain op_le op_le pe_int (pe_callB call_len_str (by rfl) T.bt.len PySem.boot_len (pa_cons (pv 0) pa_nil)) (pv 2))
      (pe_one (pe_callB (cr_all rfl) (by rfl) T.bt.b_all (by decide +kernel) (pa_cons (pe_lc (own := [("sign", 3)]) (g := gName 3) (tt := tYes) rfl n0 (pi_str (pv 0)) (blkOk_by (N := N_is_row) (sc := defScope s_is_row) (by decide +kernel))
        (fun _ _ _ _ _ => pg_name (i := 3) n0 rfl (Or.inl rfl)) (fun _ _ _ _ _ => pts_nil) (fun _ _ _ _ _ => pe_cmpR op_in_sign (pv 3) (pv 1) (by rfl))) pa_nil)))))), ?_⟩
  refine ⟨_, rfl, _, _, _, _, true, rfl, .ty "str", .base (.str _), kit_ty (by decide +kernel), true, rfl, iteT ?_⟩
  refine ⟨_, rfl, _, rfl, by rw [tx_len]; exact Nat.le_of_lt (lt_line l3), _, _, rfl, rfl, decide ((1 : Int) ≤ ((tx cs).length : Nat)), rfl, ?_⟩
  rw [tx_len, decide_eq_true (show (1 : Int) ≤ (cs.length : Nat) by omega)]
  refine iteT ⟨_, rfl, _, _, rfl, rfl, true, ?_, iteT ?_⟩
  · show V.bl (decide ((cs.length : Int) ≤ m)) = V.bl true
    rw [decide_eq_true l2]
  refine ⟨_, rfl, _, rfl, fun D hD => lc_rel (walk_str (z := tx cs)) (by show cs.toArray.size < _; simpa using l3) hD (fun i y _ => y = .bl true) (fun _ _ _ _ _ r => r) (fun _ _ => trivial) (fun i x H1 H2 hi s1 hy => ?_) (fun σ H Q Q' f h => ?_) gName_mono (fun H' ys s1 el hR eD => ?_)⟩
  · obtain ⟨rfl, c, hc, rfl⟩ := hy
    have mc : c ∈ cs := List.mem_of_getElem? (i := i) (by simpa [tx] using hc)
    refine ⟨rfl, _, rfl, _, rfl, c, sg, rfl, rfl, ?_, Same.refl _⟩
    show V.bl (decide (c ∈ sg.cps.toList)) = V.bl true
    rw [decide_eq_true (hin c mc)]
  · obtain ⟨v, e, v', e', c, z, e1, e2, h⟩ := h
    exact ⟨v, e, v', e', c, z, e1, e2, f _ _ h⟩
  · have ey : ys = (List.replicate ys.length true).map V.bl := by
      apply List.ext_getElem?
      intro i
      rw [List.getElem?_map]
      by_cases lt : i < ys.length
      · rw [List.getElem?_replicate, if_pos lt, List.getElem?_eq_getElem lt, hR i _ (List.getElem?_eq_getElem lt)]
        rfl
      · rw [List.getElem?_eq_none (by omega), List.getElem?_replicate, if_neg lt]
        rfl
    refine ⟨D, List.replicate ys.length true, rfl, SqL.of (by rw [← ey]; exact eD), ?_⟩
    have e1 : (List.replicate ys.length true).all id = true := by simp
    show Q (.bl ((List.replicate ys.length true).all id)) H'
    rw [e1]
    exact k _ s1
end
end CpR
set_option Elab.async false
set_option linter.all false
set_option maxRecDepth 100000
set_option maxHeartbeats 4000000
/-! D11: Woven, the carpets' properties and methods. -/
namespace CpR
open PySem PySem.Spec PyProof.Rows L2 CpM
/-! ### objects of one of several classes -/
section
variable {X : Cx} {CX : CXT} {k j : Nat} {S : Addr → Prop} {sp : Addr → Sp} {E : XK} {m x : Str} {o e : Expr} {es : List Expr} {ta tb : TE} {t : TA} {pos apos p : Pos}
def tPropA (S : Addr → Prop) (sp : Addr → Sp) (E : XK) (ta : TE) : TE := fun σ H Q => ta σ H fun x H1 => ∃ C a dx fs, S C ∧ x = .ref a ∧ H1 a = some (.ins C dx fs) ∧ sp C [.ref a] H1 Q E
theorem pe_dpA (D : ∀ C, S C → Dp X.prog X.w X.K X.mg X.base CX k C m (sp C)) (c : ∀ C, S C → Cls X.K C) (hr : Room j X.A) (hkj : k + 1 ≤ j) (hx : Passes CX X.nox E) (he : PE X o ta) (hab : attributeBase o m X.env (eval o X.env) = eval o X.env := by rfl) :
    PE X (.Attribute o m pos) (tPropA S sp E ta) := by
  refine ⟨fun pins s σ H Q I h => ?_⟩
  refine attr_of hab (thn (he.run pins s σ H _ I h) fun u s1 ⟨x, H1, I1, rx, C, a, dx, fs, hC, ex, ea, q⟩ => ?_)
  subst ex
  obtain rfl : u = Value.ref a := rx
  obtain ⟨p, f, fd, ps, hp, F, b⟩ := D C hC
  exact getprop_ok I1 ea (c C hC) hp F (hr.mono hkj) b .nil hx q
def tMethA (S : Addr → Prop) (m : Str) (sp : Addr → Sp) (E : XK) (ta : TE) (t : TA) : TE := fun σ H Q => ta σ H fun x H1 => ∃ C a dx fs, S C ∧ x = .ref a ∧ H1 a = some (.ins C dx fs) ∧ fs.lookup m = none ∧ t σ H1 fun vs H2 => sp C (x :: vs) H2 Q E
theorem pe_dmA {pl : Sem Bool} (D : ∀ C, S C → Dm X.prog X.w X.K X.mg X.base CX k C m (sp C)) (c : ∀ C, S C → Cls X.K C) (hr : Room j X.A) (hkj : k ≤ j) (hx : Passes CX X E) (he : PE X o ta) (ha : PA X (e :: es) t)
    (hst : starEach (e :: es) X.env = (false, eval e X.env) :: starEach es X.env := by rfl) (hpl : (backTo pos (starEach es X.env)).any (·.1) = false := by rfl)
    (ht : eval (.Call (.Attribute o m apos) (e :: es) [] pos) X.env = (do
      let ov ← eval o X.env
      standAt apos.atName
      let (f, first) ← holding [ov] (getMethod ov m pl)
      callWith pos f first (backTo pos (starEach (e :: es) X.env)) (backToKw pos (keywordEach [] X.env))) := by rfl) :
    PE X (.Call (.Attribute o m apos) (e :: es) [] pos) (tMethA S m sp E ta t) := by
  refine ⟨fun pins s σ H Q I h => ?_⟩
  refine PySem.W.methodCall_KW (pl := pl) (thn (he.run pins s σ H _ I h) fun u s1 ⟨x, H1, I1, rx, C, a, dx, fs, hC, ex, ea, l, q⟩ => ?_) ht
  subst ex
  obtain rfl : u = Value.ref a := rx
  obtain ⟨f, hm, F⟩ := D C hC
  refine getmeth_ok I1 ea (c C hC) hm l ?_
  refine PySem.W.callWith_K (first := [.ref a]) (h₀ := X.base) I.ok.mod.kin hm.kp (thn (ha.run pos pins s1 σ H1 _ I1 q) fun us s2 ⟨vs, H2, I2, r, q2⟩ => ⟨I2.kIn, ?_⟩) hst hpl
  exact wpAny_call (run_fnR (us := .ref a :: us) (vs := .ref a :: vs) F (hr.mono hkj) hx I2 (.cons (show RelV (.ref a) (.ref a) from rfl) r) q2)
/-- o[i] by own __getitem__ of one of several classes -/
def tItemA (S : Addr → Prop) (sp : Addr → Sp) (E : XK) (ta tb : TE) : TE := fun σ H Q => ta σ H fun x H1 => tb σ H1 fun y H2 => ∃ C a dx fs, S C ∧ x = .ref a ∧ H2 a = some (.ins C dx fs) ∧ sp C [.ref a, y] H2 Q E
theorem pe_itemA (D : ∀ C, S C → ∃ f fd ps, PySem.W.findIn X.K (.ref C) "__getitem__" = some (some (.ref f)) ∧ PySem.W.fnIn X.K f = true ∧ PySem.W.isFn X.K (.ref f) = true ∧ FnOk X.prog X.w X.K X.mg X.base CX k f fd ps (sp C) ∧ Binds X.K fd ps []) (hr : Room j X.A) (hkj : k + 1 ≤ j)
    (hx : ∀ H s e s', CX X.stack H s E e s' → False) (ha : PE X o ta) (hi : PE X e tb)
    (hsl : ∀ (x : Addr) (i : Value), subscripted e true (.ref x) i = runValue (.builtin "lifetime.subscript" ⟨[.ref x, i], []⟩) := by intro _ _; with_unfolding_all rfl) : PE X (.Subscript o e pos) (tItemA S sp E ta tb) := by
  refine ⟨fun pins s σ H Q I h => ?_⟩
  refine Subscript_ (thn (ha.run pins s σ H _ I h) fun u s1 ⟨x, H1, I1, rx, q1⟩ => thn (hi.run pins s1 σ H1 _ I1 q1) fun iv s2 ⟨y, H2, I2, ry, C, a, dx, fs, hC, ex, ea, q2⟩ => ?_)
  subst ex
  obtain rfl : u = Value.ref a := rx
  obtain ⟨f, fd, ps, hs, hfn, hf, F, hb⟩ := D C hC
  obtain ⟨mA, J, _⟩ := ins_get I2.hok ea
  obtain ⟨od, J, _⟩ := J.look
  obtain ⟨m, hF⟩ := I2.fr
  exact PySem.W.sub_K hF I2.ok.mod.kin J hs hfn hf (call_at (E' := X.xe) (us := [.ref a, iv]) (vs := [.ref a, y]) F (hr.mono hkj).in1 hb hx I2 rfl (.cons (show RelV (.ref a) (.ref a) from rfl) (.cons ry .nil)) q2) (hsl a iv)
end
/-! ### carpets -/
def cfs (n : Addr) (cs : List Nat) : List (Str × V) := [("own_net", V.ref n), ("own_text", V.str (tx cs))]
def CarpAt (CN C : Addr) (H : Hp) (p : Addr) (W R Hh : Nat) (cs : List Nat) : Prop := ∃ dx n, H p = some (.ins C dx (cfs n cs)) ∧ NetAt CN H n W R Hh
theorem CarpAt.same {CN C p : Addr} {H H' : Hp} {W R Hh : Nat} {cs : List Nat} (h : CarpAt CN C H p W R Hh cs) (s : Same H H') : CarpAt CN C H' p W R Hh cs := let ⟨dx, n, h1, h2⟩ := h; ⟨dx, n, s _ _ h1, h2.same s⟩
theorem lk_net (n : Addr) (cs : List Nat) : (cfs n cs).lookup ("own_net" : Str) = some (V.ref n) := rfl
theorem lk_text (n : Addr) (cs : List Nat) : (cfs n cs).lookup ("own_text" : Str) = some (V.str (tx cs)) := rfl
theorem put_both (n : Addr) (cs : List Nat) : putF "own_text" (V.str (tx cs)) (putF "own_net" (V.ref n) []) = cfs n cs := rfl
section
variable {P : Program} {w : World} {K : PySem.W.Frag} {mg : Str → Option Value} {base : Heap} {CN CC CW CL : Addr}
def spWovenInit (CN CW : Addr) : Sp := fun vs H Q _ => ∃ (p dx n : Addr) (a b c : Nat) (cs : List Nat), vs = [.ref p, .ref n, .str (tx cs)] ∧ H p = some (.ins CW dx []) ∧ NetAt CN H n a b c ∧ Ok a b c ∧ a < 2 ^ 20 ∧ c < 2 ^ 20 ∧ a * c < 2 ^ 20 ∧ cs.length = a * c ∧
  ∀ H' n' (W R Hh : Nat), (∀ x o, x ≠ p → H x = some o → H' x = some o) → H' p = some (.ins CW dx (cfs n' (cellText a b c cs W Hh))) → NetAt CN H' n' W R Hh → Least a b c cs W R Hh → Q .non H'
theorem net_upd {CN n p C dx : Addr} {H : Hp} {a b c : Nat} {fs gs : List (Str × V)} (h : NetAt CN H n a b c) (hp : H p = some (.ins C dx fs)) (ne : n ≠ p) : NetAt CN (upd H p (.ins C dx gs)) n a b c := by
  obtain ⟨d, t, h1, h2⟩ := h
  refine ⟨d, t, by rw [upd_ne ne]; exact h1, ?_⟩
  have nt : t ≠ p := fun e => by rw [e, hp] at h2; cases h2
  rw [upd_ne nt]
  exact h2
theorem ok_Woven (T : Txt K mg CN CC CW CL) : Dk P w K mg base CX0 7 "Woven" CW (spWovenInit CN CW) := by
  refine dk_of T.k_Woven sc_Woven_init b_Woven_init (fun vs H Q E ⟨_, _, _, _, _, _, _, e, _⟩ => by rw [e]; rfl) (fun f cdv A outer s H vs Q E hr h => ?_)
  obtain ⟨p, dx, n, a, b, c, cs, rfl, hp, hn, ok, la, lc, hac, hl, k⟩ := h
  refine ⟨_, pss_one (ps_asg (pe_df (E := E0) (ok_least_cell T) hr (by decide) (by rfl) pass0 (pa_cons (pv 1) (pa_cons (pv 2) pa_nil))) (pg_tup rfl (pgs_cons (pg_fld (pv 0)) (pgs_cons (pg_fld (pv 0)) pgs_nil)))), ?_⟩
  refine ⟨_, rfl, _, rfl, n, a, b, c, cs, rfl, hn, ok, la, lc, hac, hl, fun H' r n' W R Hh s1 hr' hn' L => ?_⟩
  have hp' := s1 _ _ hp
  have nn : n' ≠ p := fun e => by
    obtain ⟨d, t, h1, _⟩ := hn'
    rw [e, hp'] at h1
    cases h1
  have h2 : upd H' p (.ins CW dx (putF "own_net" (V.ref n') [])) p = some (.ins CW dx (putF "own_net" (V.ref n') [])) := upd_same
  refine ⟨r, _, rfl, SqT.of hr', rfl, _, _, rfl, ⟨_, rfl, p, CW, dx, [], rfl, hp', T.cls_CW, T.na_Wn, by show 0 < 1000; decide, _, _, rfl, ⟨_, rfl, p, CW, dx, _, rfl, upd_same, T.cls_CW, T.na_Wt, by show 1 < 1000; decide, rfl, ?_⟩⟩⟩
  refine k _ n' W R Hh (fun x o nx e => ?_) (by rw [upd_same, put_both]) (net_upd (net_upd hn' hp' nn) h2 nn) L
  rw [upd_ne nx, upd_ne nx]
  exact s1 _ _ e
/-- Woven(net, text): a new carpet -/
theorem woven_new {H1 : Hp} {n : Addr} {a b c : Nat} {cs : List Nat} {Q : VK} {E : XK} (hn : NetAt CN H1 n a b c) (ok : Ok a b c) (la : a < 2 ^ 20) (lc : c < 2 ^ 20) (hac : a * c < 2 ^ 20) (hl : cs.length = a * c)
    (q : ∀ H2 x W R Hh, Same H1 H2 → CarpAt CN CW H2 x W R Hh (cellText a b c cs W Hh) → Least a b c cs W R Hh → Q (.ref x) H2) :
    ∀ x dx, H1 x = none → H1 dx = none → dx ≠ x → spWovenInit CN CW (.ref x :: [.ref n, .str (tx cs)]) (upd (upd H1 dx (.own x)) x (.ins CW dx [])) (fun v H2 => v = .non ∧ Q (.ref x) H2) E :=
  fun x dx hx hd ne => ⟨x, dx, n, a, b, c, cs, rfl, upd_same, hn.same (made_same hx hd), ok, la, lc, hac, hl, fun H' n' W R Hh kp hp hn' L => ⟨rfl, q H' x W R Hh (fun y o e => by
    refine kp y o (ne_of_none e hx) ?_
    exact made_same hx hd _ _ e) ⟨dx, n', hp, hn'⟩ L⟩⟩
/-- the carpets' classes -/
def Kin (CC CW : Addr) (C : Addr) : Prop := C = CC ∨ C = CW
theorem kin_cls (T : Txt K mg CN CC CW CL) : ∀ C, Kin CC CW C → Cls K C := fun C h => by rcases h with rfl | rfl <;> first | exact T.cls_CC | exact T.cls_CW
theorem kin_n (T : Txt K mg CN CC CW CL) : ∀ C, Kin CC CW C → NoAttr K C "own_net" := fun C h => by rcases h with rfl | rfl <;> first | exact T.na_Cn | exact T.na_Wn
theorem kin_t (T : Txt K mg CN CC CW CL) : ∀ C, Kin CC CW C → NoAttr K C "own_text" := fun C h => by rcases h with rfl | rfl <;> first | exact T.na_Ct | exact T.na_Wt
def spCNet (C : Addr) : Sp := fun vs H Q _ => ∃ (p dx n : Addr) (cs : List Nat), vs = [.ref p] ∧ H p = some (.ins C dx (cfs n cs)) ∧ Q (.ref n) H
theorem ok_net (T : Txt K mg CN CC CW CL) : ∀ C, Kin CC CW C → Dp P w K mg base CX0 1 C "net" (spCNet C) := fun C hC => by
  have h : HasP K C "net" "Carpet.net" s_Carpet_net := by rcases hC with rfl | rfl <;> first | exact T.pC_Carpet_net | exact T.pW_Carpet_net
  refine dp_of h sc_Carpet_net b_Carpet_net (fun vs H Q E ⟨_, _, _, _, e, _⟩ => by rw [e]; rfl) (fun f cdv A outer s H vs Q E hr h => ?_)
  obtain ⟨p, dx, n, cs, rfl, hp, k⟩ := h
  exact ⟨_, pss_one (ps_ret (pe_fld (pv 0) rfl)), _, rfl, p, C, dx, _, _, rfl, hp, kin_cls T C hC, kin_n T C hC, lk_net n cs, k⟩
def spSeen (CN C : Addr) : Sp := fun vs H Q _ => ∃ (p q : Addr) (W R Hh : Nat) (cs : List Nat) (x y : Int), vs = [.ref p, .ref q] ∧ CarpAt CN C H p W R Hh cs ∧ PlAt H q x y ∧ Ok W R Hh ∧ W < 2 ^ 20 ∧ Hh < 2 ^ 20 ∧ cs.length = W * Hh ∧ ∀ H', Same H H' → Q (.str (sign (col W R Hh cs x y))) H'
theorem ok_seen (T : Txt K mg CN CC CW CL) : ∀ C, Kin CC CW C → Dm P w K mg base CX0 4 C "seen" (spSeen CN C) := fun C hC => by
  have h : HasM K C "seen" "Carpet.seen" s_Carpet_seen := by rcases hC with rfl | rfl <;> first | exact T.mC_Carpet_seen | exact T.mW_Carpet_seen
  refine dm_of h sc_Carpet_seen b_Carpet_seen (fun vs H Q E ⟨_, _, _, _, _, _, _, _, e, _⟩ => by rw [e]; rfl) (fun f cdv A outer s H vs Q E hr h => ?_)
  obtain ⟨p, q, W, R, Hh, cs, x, y, rfl, ⟨dx, n, hp, hn⟩, hq, ok, lW, lH, hl, k⟩ := h
  refine ⟨_, pss_one (ps_ret (pe_df (E := E0) (ok_colour_at T) hr (by decide) (by rfl) pass0 (pa_cons (pe_fld (pv 0) rfl) (pa_cons (pe_fld (pv 0) rfl) (pa_cons (pv 1) pa_nil))))), ?_⟩
  exact ⟨_, rfl, p, C, dx, _, _, rfl, hp, kin_cls T C hC, kin_n T C hC, lk_net n cs, _, rfl, p, C, dx, _, _, rfl, hp, kin_cls T C hC, kin_t T C hC, lk_text n cs, _, rfl, n, q, W, R, Hh, cs, x, y, rfl, hn, hq, ok, lW, lH, hl, fun H' s1 => k H' s1⟩
theorem ok_getitem (T : Txt K mg CN CC CW CL) : ∀ C, Kin CC CW C → ∃ f fd ps, PySem.W.findIn K (.ref C) "__getitem__" = some (some (.ref f)) ∧ PySem.W.fnIn K f = true ∧ PySem.W.isFn K (.ref f) = true ∧ FnOk P w K mg base CX0 5 f fd ps (spSeen CN C) ∧ Binds K fd ps [] := fun C hC => by
  have h : HasM K C "__getitem__" "Carpet.__getitem__" s_Carpet_getitem := by rcases hC with rfl | rfl <;> first | exact T.mC_Carpet_getitem | exact T.mW_Carpet_getitem
  have g : ∃ f, PySem.W.findIn K (.ref C) "__getitem__" = some (some (.ref f)) ∧ PySem.W.fnIn K f = true := by rcases hC with rfl | rfl <;> first | exact T.gi_C | exact T.gi_W
  obtain ⟨f, fd, hm, F⟩ := h
  obtain ⟨f2, e2, hfn⟩ := g
  obtain rfl : f = f2 := by
    have z := hm.at_.symm.trans e2
    injection z with z
    injection z with z
    injection z
  refine ⟨f, fd, ["self", "place"], hm.at_, hfn, hm.fn, ?_, bind_of F b_Carpet_getitem⟩
  refine F.ok (P := P) (w := w) (mg := mg) (base := base) sc_Carpet_getitem (fun vs H Q E ⟨_, _, _, _, _, _, _, _, e, _⟩ => by rw [e]; rfl) (fun cdv A outer s H vs Q E hr h => ?_)
  obtain ⟨p, q, W, R, Hh, cs, x, y, rfl, hc, hq, ok, lW, lH, hl, k⟩ := h
  refine ⟨_, Evl.pss_cut (ps_if (pt_not (pt_val (pe_df (E := E0) (ok_is_place T) hr (by decide) (by rfl) pass0 (pa_cons (pv 1) pa_nil)))) (pss_one ps_never) pss_nil)
    (pss_one (ps_ret (pe_dmA (S := Kin CC CW) (E := E0) (ok_seen T) (kin_cls T) hr (by decide) pass0 (pv 0) (pa_cons (pv 1) pa_nil)))), ?_⟩
  refine ⟨fun σ H' => Same H H' ∧ σ = [some (.ref p), some (.ref q)], ⟨_, rfl, q, x, y, rfl, hq, fun H' s1 => ⟨true, rfl, iteF ⟨s1, rfl⟩⟩⟩, ?_⟩
  rintro σ H' ⟨s1, rfl⟩
  obtain ⟨dx, n, hp, hn⟩ := id hc
  exact ⟨_, rfl, C, p, dx, _, hC, rfl, s1 _ _ hp, rfl, _, rfl, p, q, W, R, Hh, cs, x, y, rfl, hc.same s1, s1 _ _ hq, ok, lW, lH, hl, fun H2 s2 => k H2 (s1.trans s2)⟩
end
end CpR
set_option Elab.async false
set_option linter.all false
set_option maxRecDepth 100000
set_option maxHeartbeats 4000000
/-! D12: colours, Carpet.on. -/
namespace CpR
open PySem PySem.Spec PyProof.Rows L2 CpM
def lettersS : Str := "abcdefghijklmnopqrstuvwxyz"
def letters : List Nat := (List.range 26).map (97 + ·)
theorem lettersS_eq : lettersS = tx letters := by decide +kernel
theorem lettersS_list : lettersS.cps.toList = letters := by decide +kernel
theorem letters_at {i c : Nat} (h : lettersS.cps[i]? = some c) : letters[i]? = some c := by
  rw [← lettersS_list, Array.getElem?_toList]
  exact h
section
variable {P : Program} {w : World} {K : PySem.W.Frag} {mg : Str → Option Value} {base : Heap} {CN CC CW CL : Addr}
def spColours (CN C : Addr) : Sp := fun vs H Q _ => ∃ (p : Addr) (W R Hh : Nat) (cs : List Nat), vs = [.ref p] ∧ CarpAt CN C H p W R Hh cs ∧ cs.length < 2 ^ 20 ∧ ∀ H', Same H H' → Q (.str (tx (letters.filter fun c => decide (c ∈ cs)))) H'
theorem ok_colours (T : Txt K mg CN CC CW CL) : ∀ C, Kin CC CW C → Dp P w K mg base CX0 1 C "colours" (spColours CN C) := fun C hC => by
  have h : HasP K C "colours" "Carpet.colours" s_Carpet_colours := by rcases hC with rfl | rfl <;> first | exact T.pC_Carpet_colours | exact T.pW_Carpet_colours
  refine dp_of h sc_Carpet_colours b_Carpet_colours (fun vs H Q E ⟨_, _, _, _, _, e, _⟩ => by rw [e]; rfl) (fun f cdv A outer s H vs Q E hr h => ?_)
  obtain ⟨p, W, R, Hh, cs, rfl, ⟨dx, n, hp, hn⟩, hl, k⟩ := h
  obtain ⟨tk, hL⟩ := T.c_LETTERS
  have n0 := sc_Carpet_colours.nd
  refine ⟨_, pss_one (ps_ret (pe_join pe_str (pe_lc (own := [("colour", 1)]) (g := gName 1) (tt := tTest (tOp _ (tVar 1) (tFld K (tVar 0) "own_text"))) rfl n0 (pi_str (pe_glob (v := .str lettersS) (by rfl) hL ⟨tk, rfl⟩)) (blkOk_by (N := N_Carpet_colours) (sc := defScope s_Carpet_colours) (by decide +kernel))
        (fun _ _ _ _ _ => pg_name (i := 1) n0 rfl (Or.inl rfl)) (fun _ _ _ _ _ => pts_one (pt_cmpR op_in_sign (pv 1) (pe_fld (pv 0) (by rfl)) (by rfl))) (fun _ _ _ _ _ => pv 1)))), ?_⟩
  refine ⟨⟨_, rfl⟩, _, rfl, fun D hD => lc_it (walk_str (z := lettersS)) (fun i H' => Same H H' ∧ H' D = some (.lst ((((letters.take i).filter fun c => decide (c ∈ cs)).map sign).map V.str))) ⟨same_new hD, upd_same⟩ (fun _ _ _ _ => trivial) (fun i x H1 H2 hi ⟨s1, h1⟩ hy => ?_) (fun H' ⟨s1, h1⟩ => ?_)⟩
  · obtain ⟨rfl, c, hc, rfl⟩ := hy
    have gc := letters_at hc
    have tk1 : letters.take (i + 1) = letters.take i ++ [c] := by rw [List.take_succ, gc]; rfl
    refine ⟨rfl, _, rfl, _, rfl, p, C, dx, _, _, rfl, s1 _ _ hp, kin_cls T C hC, kin_t T C hC, lk_text n cs, c, tx cs, rfl, rfl, decide (c ∈ cs), rfl, ?_⟩
    rw [tk1, List.filter_append, List.map_append, List.map_append]
    refine ite2 (fun q => ⟨_, rfl, _, h1, ?_, ?_, ?_⟩) (fun q => ⟨s1, ?_⟩)
    · rw [List.length_map, List.length_map]
      have l1 := List.length_filter_le (fun c => decide (c ∈ cs)) (letters.take i)
      have l2 : (letters.take i).length ≤ letters.length := List.length_take_le' i letters
      have l3 : letters.length = 26 := by decide
      exact lt_line (by omega)
    · intro b o e
      rw [upd_ne (ne_of_none e hD)]
      exact s1 _ _ e
    · have e1 : [c].filter (fun c => decide (c ∈ cs)) = [c] := by simp at q; simp [q]
      rw [upd_same, e1]
      rfl
    · have e1 : [c].filter (fun c => decide (c ∈ cs)) = [] := by simp at q; simp [q]
      rw [e1]
      simpa using h1
  · have e26 : lettersS.cps.size = 26 := by decide +kernel
    rw [e26, List.take_of_length_le (by decide)] at h1
    refine ⟨_, D, _, rfl, rfl, .inl (SqL.of h1), ?_, ?_⟩
    · rw [sum_signs, List.length_map]
      have l1 := List.length_filter_le (fun c => decide (c ∈ cs)) letters
      have l3 : letters.length = 26 := by decide
      have e0 : (Str.ofString "").length = 0 := by decide +kernel
      rw [e0]
      omega
    · rw [join_signs]
      exact k _ s1
/-- Carpet.on(net, text) -/
def spOn (CN CW : Addr) : Sp := fun vs H Q _ => ∃ (n : Addr) (a b c : Nat) (cs : List Nat), vs = [.ref n, .str (tx cs)] ∧ NetAt CN H n a b c ∧ Ok a b c ∧ a * c ≤ 2000 ∧ cs.length = a * c ∧ (∀ x ∈ cs, x ∈ letters) ∧
  ∀ H' x W R Hh, Same H H' → CarpAt CN CW H' x W R Hh (cellText a b c cs W Hh) → Least a b c cs W R Hh → Q (.ref x) H'
theorem ok_on (T : Txt K mg CN CC CW CL) : ∃ mc p g fd ob tp, ClX.CRead K CC mc ∧ SMet K CC mc "on" p g ob tp ∧ FnOk P w K mg base CX0 9 g fd ["net", "text"] (spOn CN CW) ∧ Binds K fd ["net", "text"] [] := by
  obtain ⟨mc, p, g, fd, ob, tp, r, c, F⟩ := T.on
  refine ⟨mc, p, g, fd, ob, tp, r, c, ?_, F.binds fun _ _ _ _ _ _ us hl => match us, hl with | [_, _], _ => rfl⟩
  refine F.ok (P := P) (w := w) (mg := mg) (base := base) (k := 8) sc_Carpet_on (fun vs H Q E ⟨_, _, _, _, _, e, _⟩ => by rw [e]; rfl) (fun cdv A outer s H vs Q E hr h => ?_)
  obtain ⟨n, a, b, c, cs, rfl, hn, ok, hac, hl, hin, k⟩ := h
  obtain ⟨tk, hL⟩ := T.c_LETTERS
  obtain ⟨tk2, hM⟩ := T.c_MOST_PLACES
  have ha := ok.pa
  have hc := ok.2
  have la : a ≤ a * c := Nat.le_mul_of_pos_right _ hc
  have lc : c ≤ a * c := Nat.le_mul_of_pos_left _ ha
  have p1 : 0 < a * c := Nat.mul_pos ha hc
  obtain ⟨dx, t, hp, ht⟩ := id hn
  refine ⟨_, Evl.pss_cut (ps_if (pt_cmpR op_gt (pe_dp (E := E0) (ok_Net_size T) T.cls_CN hr (by decide) pass0 (pv 0)) (pe_glob (v := .int 2000) (by rfl) hM ⟨tk2, rfl⟩) (nomark _)) (pss_one ps_never) pss_nil)
    (Evl.pss_cut (ps_if (PW.pt (pw_or (pt_not (pt_val (pe_df (E := E0) (ok_is_row T) hr (by decide) (by rfl) pass0 (pa_cons (pv 1) (pa_cons (pe_glob (v := .str lettersS) (by rfl) hL ⟨tk, rfl⟩) (pa_cons (pe_glob (v := .int 2000) (by rfl) hM ⟨tk2, rfl⟩) pa_nil))))))
        (pw_or1 (pt_cmpR op_ne (pe_callB call_len_str (by rfl) T.bt.len PySem.boot_len (pa_cons (pv 1) pa_nil)) (pe_dp (E := E0) (ok_Net_size T) T.cls_CN hr (by decide) pass0 (pv 0)) (nomark _))))) (pss_one ps_never) pss_nil)
    (pss_one (ps_ret (pe_dk (E := E0) (ok_Woven T) hr (by decide) (by rfl) pass0 (pa_cons (pv 0) (pa_cons (pv 1) pa_nil)))))), ?_⟩
  refine ⟨fun σ H' => H' = H ∧ σ = [some (.ref n), some (.str (tx cs))], ⟨_, rfl, n, dx, _, rfl, hp, n, a, b, c, rfl, hn, by omega, _, _, rfl, rfl, false, ?_, iteF ⟨rfl, rfl⟩⟩, ?_⟩
  · show V.bl (decide (((a * c : Nat) : Int) > 2000)) = V.bl false
    rw [decide_eq_false (by omega)]
  rintro σ H' ⟨rfl, rfl⟩
  refine ⟨fun σ H1 => Same H' H1 ∧ σ = [some (.ref n), some (.str (tx cs))], ⟨_, rfl, cs, lettersS, 2000, rfl, by omega, by omega, by omega, fun x hx => by rw [lettersS_list]; exact hin x hx, fun H1 s1 => ⟨true, rfl, iteF ?_⟩⟩, ?_⟩
  · refine ⟨_, rfl, _, rfl, by rw [tx_len]; exact Nat.le_of_lt (lt_line (by omega)), _, rfl, n, dx, _, rfl, s1 _ _ hp, n, a, b, c, rfl, hn.same s1, by omega, rfl, false, ?_, iteF ⟨s1, rfl⟩⟩
    show V.bl (!decide (V.int ((tx cs).length : Nat) = V.int ((a * c : Nat) : Int))) = V.bl false
    rw [tx_len, hl]
    simp
  rintro σ H1 ⟨s1, rfl⟩
  exact ⟨_, rfl, _, rfl, woven_new (hn.same s1) ok (by omega) (by omega) (by omega) hl fun H2 x W R Hh s2 hx L => k H2 x W R Hh (s1.trans s2) hx L⟩
end
end CpR
set_option Elab.async false
set_option linter.all false
set_option maxRecDepth 100000
set_option maxHeartbeats 4000000
/-! D13: check_rows, checked_block. -/
namespace CpR
open PySem PySem.Spec PyProof.Rows L2 CpM
theorem join_rows (rs : List (List Nat)) : Txt.join (Str.ofString "") (rs.map tx) = tx rs.flatten := by
  refine PySem.W.str_of_cps ?_
  rw [TL.join_eq]
  have z := TL.tl_join (Str.ofString "") (rs.map tx)
  have e0 : TL.tl (Str.ofString "") = [] := rfl
  rw [e0] at z
  refine Eq.trans z ?_
  rw [List.map_map]
  have key : ∀ ds : List (List Nat), TL.joinL [] (ds.map (TL.tl ∘ tx)) = ds.flatten := by
    intro ds
    induction ds with
    | nil => rfl
    | cons d ds ih =>
      cases ds with
      | nil => rw [List.flatten_cons, List.flatten_nil, List.append_nil]; rfl
      | cons e ds =>
        show TL.tl (tx d) ++ ([] ++ TL.joinL [] ((e :: ds).map (TL.tl ∘ tx))) = _
        rw [ih]
        rfl
  rw [key]
  rfl
theorem sum_rows (rs : List (List Nat)) : ((rs.map tx).map (·.length)).sum = rs.flatten.length := by
  induction rs with
  | nil => rfl
  | cons c cs ih =>
    rw [List.map_cons, List.map_cons, List.sum_cons, ih, List.flatten_cons, List.length_append, tx_len]
theorem flat_len {rs : List (List Nat)} {w : Nat} (h : ∀ r ∈ rs, r.length = w) : rs.flatten.length = rs.length * w := by
  induction rs with
  | nil => simp
  | cons c cs ih =>
    rw [List.flatten_cons, List.length_append, ih fun r hr => h r (List.mem_cons_of_mem _ hr), h c List.mem_cons_self, List.length_cons, Nat.succ_mul, Nat.add_comm]
section
variable {P : Program} {w : World} {K : PySem.W.Frag} {mg : Str → Option Value} {base : Heap} {CN CC CW CL : Addr}
/-- the rows of a block -/
structure Rws (rs : List (List Nat)) (wd : Nat) : Prop where
  some_ : 0 < rs.length
  few : rs.length ≤ 100
  wide : ∀ r ∈ rs, r.length = wd
  w1 : 1 ≤ wd
  w100 : wd ≤ 100
  inL : ∀ r ∈ rs, ∀ c ∈ r, c ∈ letters
def RowsAt (H : Hp) (l : Addr) (rs : List (List Nat)) : Prop := H l = some (.lst (rs.map fun r => V.str (tx r)))
def spCheckRows : Sp := fun vs H Q _ => ∃ (l : Addr) (rs : List (List Nat)) (wd : Nat), vs = [.ref l, .str lettersS, .int 100] ∧ RowsAt H l rs ∧ Rws rs wd ∧ ∀ H', Same H H' → Q .non H'
theorem ok_check_rows (T : Txt K mg CN CC CW CL) : Df P w K mg base CX0 2 "check_rows" spCheckRows := by
  refine df_of T.d_check_rows sc_check_rows b_check_rows (fun vs H Q E ⟨_, _, _, e, _⟩ => by rw [e]; rfl) (fun f cdv A outer s H vs Q E hr h => ?_)
  obtain ⟨l, rs, wd, rfl, hl, R, k⟩ := h
  have n0 := sc_check_rows.nd
  have l2 := R.few
  have l1 := R.some_
  refine ⟨_, Evl.pss_cut (ps_if (PW.pt (pw_or (pt_not (pt_val (pe_callB call_isiT (by rfl) T.bt.isinstance (by decide +kernel) (pa_cons (pv 0) (pa_cons (pe_tup (pa_cons (pe_bltn (v := .ty "list") (by rfl) T.bt.b_list (by decide +kernel) rfl) (pa_cons (pe_bltn (v := .ty "tuple") (by rfl) T.bt.b_tuple (by decide +kernel) rfl) pa_nil))) pa_nil)))))
      (pw_or1 (pt_not (pt_chain op_le op_le pe_int (pe_callB call_len_seq (by rfl) T.bt.len PySem.boot_len (pa_cons (pv 0) pa_nil)) (pv 2)))))) (pss_one ps_never) pss_nil)
    (pss_one (ps_for PassesOwn.never rfl (pi_enum (by rfl) T.bt.enumerate (pa_cons (pv 0) pa_nil)) (pg_tup rfl (pgs_cons (pg_name (i := 3) n0 rfl (.inl rfl)) (pgs_cons (pg_name (i := 4) n0 rfl (.inl rfl)) pgs_nil)))
      (pss_one (ps_if (PW.pt (pw_or (pt_not (pt_val (pe_df (E := E0) (ok_is_row T) hr (by decide) (by rfl) pass0 (pa_cons (pv 4) (pa_cons (pv 1) (pa_cons (pv 2) pa_nil))))))
        (pw_or1 (pt_cmpR op_ne (pe_callB call_len_str (by rfl) T.bt.len PySem.boot_len (pa_cons (pv 4) pa_nil)) (pe_callB call_len_str (by rfl) T.bt.len PySem.boot_len (pa_cons (pe_ix ix_list (pv 0) pe_int (fun _ _ => rfl)) pa_nil)) (nomark _))))) (pss_one ps_never) pss_nil)))), ?_⟩
  refine ⟨fun σ H' => Same H H' ∧ σ = [some (.ref l), some (.str lettersS), some (.int 100), none, none], ⟨_, rfl, two_line, fun t ht => ?_⟩, ?_⟩
  · refine ⟨_, t, [.ty "list", .ty "tuple"], _, [.type "list", .type "tuple"], true, rfl, upd_same, .cons (.ty _) (.cons (.ty _) .nil), .base (.lst (same_new ht _ _ hl)), kitAny_cons (b := true) (kit_ty (by decide +kernel)) (fun z => nomatch z) (fun _ => rfl), true, rfl, iteF ?_⟩
    refine ⟨_, rfl, l, _, rfl, .inl (SqL.of (same_new ht _ _ hl)), _, _, rfl, rfl, true, ?_, iteT ⟨_, rfl, _, _, rfl, rfl, true, ?_, iteF ⟨same_new ht, rfl⟩⟩⟩
    · show V.bl (decide ((1 : Int) ≤ ((rs.map fun r => V.str (tx r)).length : Nat))) = V.bl true
      rw [List.length_map, decide_eq_true (by omega)]
    · show V.bl (decide ((((rs.map fun r => V.str (tx r)).length : Nat) : Int) ≤ 100)) = V.bl true
      rw [List.length_map, decide_eq_true (by omega)]
  rintro σ H1 ⟨s1, rfl⟩
  refine ⟨_, rfl, l, _, rfl, SqL.of (s1 _ _ hl), for_it (walk_enum (K := K) (a := l) (xs := rs.map fun r => V.str (tx r))) (fun i σ H' => Same H1 H' ∧ ∃ o o', σ = [some (.ref l), some (.str lettersS), some (.int 100), o, o']) ⟨Same.refl _, _, _, rfl⟩
    (fun i σ H' _ ⟨s2, _⟩ => s2.seq (SqL.of (s1 _ _ hl))) (fun i x σ H2 H3 hi ⟨s2, o, o', eo⟩ hy => ?_) (fun σ H' ⟨s2, _⟩ => k H' (s1.trans s2))⟩
  subst eo
  obtain ⟨tt, x1, y1, rfl, ht, rfl, ex, ey⟩ := hy
  have ey : (rs.map fun r => V.str (tx r))[i]? = some y1 := ey
  rw [List.getElem?_map] at ey
  obtain ⟨r, hr', rfl⟩ := Option.map_eq_some_iff.mp ey
  have mr := List.mem_of_getElem? hr'
  have s3 := s2.trans (same_new (o := .tup [x1, .str (tx r)]) ht)
  have wr := R.wide r mr
  have w1 := R.w1
  have w2 := R.w100
  obtain ⟨r0, h0⟩ : ∃ r0, rs[0]? = some r0 := ⟨_, List.getElem?_eq_getElem l1⟩
  have wr0 := R.wide r0 (List.mem_of_getElem? h0)
  refine ⟨tt, _, rfl, SqT.of upd_same, rfl, _, _, rfl, _, _, rfl, rfl, ?_⟩
  refine ⟨_, rfl, _, rfl, _, rfl, r, lettersS, 100, rfl, by omega, by omega, by omega, fun c hc => by rw [lettersS_list]; exact R.inL r mr c hc, fun H4 s4 => ⟨true, rfl, iteF ?_⟩⟩
  have s5 := (s3.trans s4)
  refine ⟨_, rfl, _, rfl, by rw [tx_len]; exact Nat.le_of_lt (lt_line (by omega)), _, rfl, l, _, 0, .str (tx r0), rfl, rfl, SqL.of (s5 _ _ (s1 _ _ hl)), atI_nat (j := 0) (by rw [List.getElem?_map, h0]; rfl), tx r0, rfl, by rw [tx_len]; exact Nat.le_of_lt (lt_line (by omega)), rfl, false, ?_, iteF ⟨s5, _, _, rfl⟩⟩
  show V.bl (!decide (V.int ((tx r).length : Nat) = V.int ((tx r0).length : Nat))) = V.bl false
  rw [tx_len, tx_len, wr, wr0]
  simp
def spBlock (CN : Addr) : Sp := fun vs H Q _ => ∃ (l : Addr) (rs : List (List Nat)) (wd : Nat) (sh : Int), vs = [.ref l, .int sh] ∧ RowsAt H l rs ∧ Rws rs wd ∧ rs.length * wd ≤ 1000 ∧
  ∀ H' t n, Same H H' → H' t = some (.tup [.ref n, .str (tx rs.flatten)]) → NetAt CN H' n wd (sh % wd).toNat rs.length → Q (.ref t) H'
theorem ok_checked_block (T : Txt K mg CN CC CW CL) : Df P w K mg base CX0 5 "checked_block" (spBlock CN) := by
  refine df_of T.d_checked_block sc_checked_block b_checked_block (fun vs H Q E ⟨_, _, _, _, e, _⟩ => by rw [e]; rfl) (fun f cdv A outer s H vs Q E hr h => ?_)
  obtain ⟨l, rs, wd, sh, rfl, hl, R, lim, k⟩ := h
  have n0 := sc_checked_block.nd
  obtain ⟨tk, hL⟩ := T.c_LETTERS
  obtain ⟨tk2, hM⟩ := T.c_MOST_ROWS
  obtain ⟨tk3, hN⟩ := T.c_MOST_LETTERS
  have w1 := R.w1
  have w2 := R.w100
  have l2 := R.few
  have l1 := R.some_
  obtain ⟨r0, h0⟩ : ∃ r0, rs[0]? = some r0 := ⟨_, List.getElem?_eq_getElem l1⟩
  have wr0 := R.wide r0 (List.mem_of_getElem? h0)
  have at0 : atI (rs.map fun r => V.str (tx r)) 0 = some (.str (tx r0)) := atI_nat (j := 0) (by rw [List.getElem?_map, h0]; rfl)
  have ll : (tx r0).length ≤ sizeLine := by rw [tx_len]; exact Nat.le_of_lt (lt_line (by omega))
  refine ⟨_, Evl.pss_cut (ps_expr (pe_df (E := E0) (ok_check_rows T) hr (by decide) (by rfl) pass0 (pa_cons (pv 0) (pa_cons (pe_glob (v := .str lettersS) (by rfl) hL ⟨tk, rfl⟩) (pa_cons (pe_glob (v := .int 100) (by rfl) hM ⟨tk2, rfl⟩) pa_nil)))))
    (Evl.pss_cut (ps_if (pt_cmpR op_gt (pe_op op_mul (pe_callB call_len_seq (by rfl) T.bt.len PySem.boot_len (pa_cons (pv 0) pa_nil)) (pe_callB call_len_str (by rfl) T.bt.len PySem.boot_len (pa_cons (pe_ix ix_list (pv 0) pe_int (fun _ _ => rfl)) pa_nil))) (pe_glob (v := .int 1000) (by rfl) hN ⟨tk3, rfl⟩) (nomark _)) (pss_one ps_never) pss_nil)
    (Evl.pss_cut (ps_if (pt_not (pt_val (pe_df (E := E0) (ok_is_integer T) hr (by decide) (by rfl) pass0 (pa_cons (pv 1) pa_nil)))) (pss_one ps_never) pss_nil)
    (Evl.pss_cut (ps_set (i := 2) n0 rfl (.inl rfl) (pe_callB call_len_str (by rfl) T.bt.len PySem.boot_len (pa_cons (pe_ix ix_list (pv 0) pe_int (fun _ _ => rfl)) pa_nil)))
    (pss_one (ps_ret (pe_tup (pa_cons (pe_dk (E := E0) (ok_Net T) hr (by decide) (by rfl) pass0 (pa_cons (pv 2) (pa_cons (pe_op op_mod (pv 1) (pv 2)) (pa_cons (pe_callB call_len_seq (by rfl) T.bt.len PySem.boot_len (pa_cons (pv 0) pa_nil)) pa_nil))))
      (pa_cons (pe_join pe_str (pv 0)) pa_nil)))))))), ?_⟩
  refine ⟨fun σ H' => Same H H' ∧ σ = [some (.ref l), some (.int sh), none], ⟨_, rfl, l, rs, wd, rfl, hl, R, fun H' s1 => ⟨s1, rfl⟩⟩, ?_⟩
  rintro σ H1 ⟨s1, rfl⟩
  have hl1 := s1 _ _ hl
  refine ⟨fun σ H' => H' = H1 ∧ σ = [some (.ref l), some (.int sh), none], ⟨_, rfl, l, _, rfl, .inl (SqL.of hl1), _, rfl, l, _, 0, _, rfl, rfl, SqL.of hl1, at0, _, rfl, ll, _, _, rfl, rfl, .inl ⟨by rw [List.length_map]; omega, by rw [List.length_map]; omega⟩, _, _, rfl, rfl, false, ?_, iteF ⟨rfl, rfl⟩⟩, ?_⟩
  · show V.bl (decide (((rs.map fun r => V.str (tx r)).length : Int) * ((tx r0).length : Nat) > 1000)) = V.bl false
    rw [List.length_map, tx_len, wr0, ← Int.natCast_mul, decide_eq_false (by omega)]
  rintro σ H2 ⟨rfl, rfl⟩
  refine ⟨fun σ H' => H' = H2 ∧ σ = [some (.ref l), some (.int sh), none], ⟨_, rfl, sh, rfl, true, rfl, iteF ⟨rfl, rfl⟩⟩, ?_⟩
  rintro σ H3 ⟨rfl, rfl⟩
  refine ⟨fun σ H' => H' = H3 ∧ σ = [some (.ref l), some (.int sh), some (.int wd)], ⟨_, rfl, l, _, 0, _, rfl, rfl, SqL.of hl1, at0, _, rfl, ll, rfl, ?_⟩, ?_⟩
  · rw [tx_len, wr0]
    rfl
  rintro σ H4 ⟨rfl, rfl⟩
  have em : (((sh % wd).toNat : Nat) : Int) = sh % wd := Int.toNat_of_nonneg (Int.emod_nonneg _ (by omega))
  have lt : sh % wd < wd := Int.emod_lt_of_pos _ (by omega)
  have ok : Ok wd (sh % wd).toNat rs.length := ⟨by omega, l1⟩
  refine ⟨_, rfl, _, rfl, _, rfl, _, _, rfl, rfl, by show (0 : Int) < wd; omega, _, rfl, l, _, rfl, .inl (SqL.of hl1), ?_⟩
  have e3 : ([V.int wd, V.int (sh % wd), V.int ((rs.map fun r => V.str (tx r)).length : Nat)] : List V) = [.int wd, .int ((sh % wd).toNat : Nat), .int (rs.length : Nat)] := by rw [em, List.length_map]
  show ∀ x dx, H4 x = none → H4 dx = none → dx ≠ x → spNetInit CN (.ref x :: [V.int wd, V.int (sh % wd), V.int ((rs.map fun r => V.str (tx r)).length : Nat)]) _ _ E0
  rw [e3]
  intro x dx hx0 hd0 ne
  refine ⟨x, dx, wd, _, _, rfl, upd_same, ok, fun H5 t5 kp hp5 ht5 => ⟨rfl, ?_⟩⟩
  have s2 : Same H4 H5 := fun y o e => kp y o (ne_of_none e hx0) (made_same hx0 hd0 _ _ e)
  have hx : NetAt CN H5 x wd (sh % wd).toNat rs.length := ⟨dx, t5, hp5, ht5⟩
  have hl5 : H5 l = some (.lst ((rs.map tx).map V.str)) := by rw [List.map_map]; exact s2 _ _ hl1
  refine ⟨⟨_, rfl⟩, _, rfl, _, l, rs.map tx, rfl, rfl, .inl (SqL.of hl5), ?_, two_line, fun t ht => ?_⟩
  · rw [sum_rows, flat_len R.wide, List.length_map]
    have e0 : (Str.ofString "").length = 0 := by decide +kernel
    rw [e0]
    omega
  · rw [join_rows]
    exact k _ t x ((s1.trans s2).trans (same_new ht)) upd_same (hx.same (same_new ht))
end
end CpR
set_option Elab.async false
set_option linter.all false
set_option maxRecDepth 100000
set_option maxHeartbeats 4000000
/-! D14: Carpet(rows), Carpet(rows, shift=n). -/
namespace CpR
open PySem PySem.Spec PyProof.Rows L2 CpM
section
variable {P : Program} {w : World} {K : PySem.W.Frag} {mg : Str → Option Value} {base : Heap} {CN CC CW CL : Addr}
def spCarpInit (CN CC : Addr) : Sp := fun vs H Q _ => ∃ (p dx l : Addr) (rs : List (List Nat)) (wd : Nat) (sh : Int), vs = [.ref p, .ref l, .int sh] ∧ H p = some (.ins CC dx []) ∧ RowsAt H l rs ∧ Rws rs wd ∧ rs.length * wd ≤ 1000 ∧
  ∀ H' n' (W R Hh : Nat), (∀ x o, x ≠ p → H x = some o → H' x = some o) → H' p = some (.ins CC dx (cfs n' (cellText wd (sh % wd).toNat rs.length rs.flatten W Hh))) → NetAt CN H' n' W R Hh → Least wd (sh % wd).toNat rs.length rs.flatten W R Hh → Q .non H'
theorem ok_Carpet_init (T : Txt K mg CN CC CW CL) : ∃ f fd, Mk K CC f ∧ FnOk P w K mg base CX0 8 f fd ["self", "rows", "shift"] (spCarpInit CN CC) ∧
    (∃ ds, Vals [V.int 0] ds ∧ Binds K fd ["self", "rows", "shift"] ds) ∧ (∃ g, KBn K fd ["self", "rows", "shift"] 2 ["shift"] g (fun vs zs => vs ++ zs)) := by
  obtain ⟨f, fd, M, F⟩ := T.k_Carpet
  refine ⟨f, fd, M, ?_, ?_, ?_⟩
  · refine F.ok (P := P) (w := w) (mg := mg) (base := base) (CX := CX0) (k := 7) sc_Carpet_init (fun vs H Q E ⟨_, _, _, _, _, _, e, _⟩ => by rw [e]; rfl) (fun cdv A outer s H vs Q E hr h => ?_)
    obtain ⟨p, dx, l, rs, wd, sh, rfl, hp, hl, R, lim, k⟩ := h
    have n0 := sc_Carpet_init.nd
    have z : ∃ t, PSs (cxOf CX0 P w K mg base N_Carpet_init "Carpet.__init__" (defScope s_Carpet_init) f cdv A outer s H E).nox (defBody s_Carpet_init) t ∧ t { nx := fun _ H' => Q .non H', rt := Q } (start N_Carpet_init [.ref p, .ref l, .int sh]) H := by
      refine ⟨_, Evl.pss_cut (ps_asg (pe_df (E := E0) (ok_checked_block T) hr (by decide) (by rfl) pass0 (pa_cons (pv 1) (pa_cons (pv 2) pa_nil))) (pg_tup rfl (pgs_cons (pg_name (i := 3) n0 rfl (.inl rfl)) (pgs_cons (pg_name (i := 4) n0 rfl (.inl rfl)) pgs_nil))))
        (pss_one (ps_asg (pe_df (E := E0) (ok_least_cell T) hr (by decide) (by rfl) pass0 (pa_cons (pv 3) (pa_cons (pv 4) pa_nil))) (pg_tup rfl (pgs_cons (pg_fld (pv 0)) (pgs_cons (pg_fld (pv 0)) pgs_nil))))), ?_⟩
      have w1 := R.w1
      have w2 := R.w100
      have l1 := R.some_
      have l2 := R.few
      refine ⟨fun σ H' => Same H H' ∧ ∃ n, NetAt CN H' n wd (sh % wd).toNat rs.length ∧ σ = [some (.ref p), some (.ref l), some (.int sh), some (.ref n), some (.str (tx rs.flatten))],
        ⟨_, rfl, _, rfl, l, rs, wd, sh, rfl, hl, R, lim, fun H' t n s1 ht hn => ⟨t, _, rfl, SqT.of ht, rfl, _, _, rfl, _, _, rfl, rfl, s1, n, hn, rfl⟩⟩, ?_⟩
      rintro σ H1 ⟨s1, n, hn, rfl⟩
      have lt : sh % wd < wd := Int.emod_lt_of_pos _ (by omega)
      have ok : Ok wd (sh % wd).toNat rs.length := ⟨by have := Int.emod_nonneg sh (show (wd : Int) ≠ 0 by omega); omega, l1⟩
      have hac : wd * rs.length ≤ 1000 := by rw [Nat.mul_comm]; exact lim
      refine ⟨_, rfl, _, rfl, n, wd, _, rs.length, rs.flatten, rfl, hn, ok, by omega, by omega, by omega, by rw [flat_len R.wide, Nat.mul_comm], fun H' r n' W Rr Hh s2 hr' hn' L => ?_⟩
      have hp' := s2 _ _ (s1 _ _ hp)
      have nn : n' ≠ p := fun e => by
        obtain ⟨d, t, h1, _⟩ := hn'
        rw [e, hp'] at h1
        cases h1
      refine ⟨r, _, rfl, SqT.of hr', rfl, _, _, rfl, ⟨_, rfl, p, CC, dx, [], rfl, hp', T.cls_CC, T.na_Cn, by show 0 < 1000; decide, _, _, rfl, ⟨_, rfl, p, CC, dx, _, rfl, upd_same, T.cls_CC, T.na_Ct, by show 1 < 1000; decide, rfl, ?_⟩⟩⟩
      have h2 : upd H' p (.ins CC dx (putF "own_net" (V.ref n') [])) p = some (.ins CC dx (putF "own_net" (V.ref n') [])) := upd_same
      refine k _ n' W Rr Hh (fun x o nx e => ?_) (by rw [upd_same, put_both]) (net_upd (net_upd hn' hp' nn) h2 nn) L
      rw [upd_ne nx, upd_ne nx]
      exact s2 _ _ (s1 _ _ e)
    obtain ⟨t, h1, h2⟩ := z
    exact ⟨t, h1.nox, h2⟩
  · exact F.binds0 2 (by simp) rfl fun D doc pm an cdv ct us ks h1 h2 => by
      match us, ks, h1, h2 with
      | [a, b], [c], _, _ => exact ⟨_, _, _, _, _, _, rfl, rfl, rfl⟩
  · obtain ⟨mv, h⟩ := F.kbinds0 (ps := ["self", "rows", "shift"]) 2 ["shift"] [] (fun us _ ws => us ++ ws) (by simp) (by simp) (fun r1 _ r3 => r1.append r3) fun D doc pm an cdv ct us mv ws h1 h2 h3 => by
      match us, mv, ws, h1, h2, h3 with
      | [a, b], [], [c], _, _, _ => exact rfl
    exact ⟨_, h⟩
end
end CpR
set_option Elab.async false
set_option linter.all false
set_option maxRecDepth 100000
set_option maxHeartbeats 4000000
/-! Er: own exception classes whose __init__ keeps its one argument, over any built-in base: made, raised, their field read. -/
namespace PySem
namespace ErX
open PySem.W PySem.Calls PyProof.Rows PySem.HandSPX Builtin Builtin.ObjectAttr
/-- own classes, then the list tl -/
def refsT (tl : List Value) : List Value → Bool
  | .ref _ :: r => refsT tl r
  | l => l == tl
theorem refsT_cases {tl : List Value} : ∀ l : List Value, refsT tl l = true → (∃ c r, l = .ref c :: r ∧ refsT tl r = true) ∨ l = tl
  | [], e => .inr (beq_iff_eq.mp e)
  | .ref c :: r, e => .inl ⟨c, r, rfl, e⟩
  | .none :: _, e | .ellipsis :: _, e | .notImplemented :: _, e | .bool _ :: _, e | .int _ _ :: _, e | .float _ _ :: _, e | .str _ _ :: _, e | .bytes _ _ :: _, e | .type _ :: _, e | .builtin _ :: _, e => .inr (beq_iff_eq.mp e)
/-- what is asked of the built-in base -/
structure BaseT (B newId initId : String) (tl : List Value) : Prop where
  base : ExcBaseFacts B newId initId tl
  pass : ∀ self, refuseLoop self "__setattr__" tl = pure ()
  obj : tl.contains (.type "object") = true
theorem base_VE : BaseT "ValueError" "ValueError.__new__" "ValueError.__init__" veTail := ⟨F.excBase_ValueError, fun self => F.store_ValueError.passes self, by decide +kernel⟩
abbrev ovTail : List Value := [.type "OverflowError", .type "ArithmeticError", .type "Exception", .type "BaseException", .type "object"]
theorem base_OV : BaseT "OverflowError" "OverflowError.__new__" "OverflowError.__init__" ovTail := ⟨F.excBase_OverflowError, fun self => F.store_OverflowError.passes self, by decide +kernel⟩
section
variable {B newId initId : String} {tl : List Value}
theorem refsT_pass (T : BaseT B newId initId tl) (self : Value) : ∀ l : List Value, refsT tl l = true → refuseLoop self "__setattr__" l = pure ()
  | [], e => by
    rcases refsT_cases [] e with ⟨c, r, q, _⟩ | q
    · exact nomatch q
    · rw [q]; exact T.pass self
  | a :: r, e => by
    rcases refsT_cases (a :: r) e with ⟨c, r', q, h⟩ | q
    · obtain ⟨rfl, rfl⟩ := List.cons.inj q
      rw [refuseLoop_ref]
      exact refsT_pass T self r h
    · rw [q]; exact T.pass self
theorem refsT_contains (X : String) : ∀ l : List Value, refsT tl l = true → l.contains (.type X) = tl.contains (.type X)
  | [], e => by
    rcases refsT_cases [] e with ⟨c, r, q, _⟩ | q
    · exact nomatch q
    · rw [q]
  | a :: r, e => by
    rcases refsT_cases (a :: r) e with ⟨c, r', q, h⟩ | q
    · obtain ⟨rfl, rfl⟩ := List.cons.inj q
      rw [List.contains_cons, refsT_contains X r h]
      rfl
    · rw [q]
theorem osaT {prog : Program} {w : World} {A : Around} {R : Result → Shared → Prop} {hp : Heap} {g : Array GenState} {d : Drawn} {t : Nat} {os : OsState} {K : W.Frag} {name : Str} {tk : Tok} {v : Value} {x C : Addr} {fv : Array Value} {cd : ClassData} (T : BaseT B newId initId tl)
    (X : K.In hp) (hx : hp.get? x = some { cls := .ref C, data := .fields fv }) (hcd : W.clsIn K C = some cd) (hm : refsT tl cd.mro = true) (hh : cd.hasDict = true) (ha : W.findIn K (.ref C) name = some none)
    (hq : ∀ h' tk' dx, (∀ b o, b ≠ x → hp.get? b = some o → h'.get? b = some o) → hp.objs.size ≤ dx → dx ≠ x → h'.get? x = some { cls := .ref C, dict := some dx, data := .fields fv } →
      h'.Ns1 dx (fun y => if y = name then some v else none) → R (.ok (.ret .none)) ⟨h', g, d, tk', os⟩) :
    codeAny (model prog w) A (.call (.builtin "object.__setattr__") ⟨[.ref x, .str name tk, v], []⟩) R ⟨hp, g, d, t, os⟩ := by
  have I : W.InstAt hp x { cls := .ref C, data := .fields fv } C none := ⟨hx, rfl, rfl, trivial⟩
  have SF := F.store_object
  have hob : cd.mro.contains (.type "object") = true := (refsT_contains "object" _ hm).trans T.obj
  have ne : cd.mro.isEmpty = false := by
    cases e : cd.mro with
    | nil => rw [e] at hob; exact absurd hob (by decide)
    | cons _ _ => rfl
  have hxs : x ≠ hp.objs.size := Nat.ne_of_lt (Heap.lt_size hx)
  have sub : W.Looks (model prog w) hp (isInstance (.ref x) (.type "object")) true := I.type.andThen (W.looks_mroIn X (by unfold W.mroIn; rw [hcd, Option.bind_some, if_neg (by rw [ne]; decide), hob]))
  refine codeAny_call_builtin SF.slot.plain SF.entry (@W.check_slot (model prog w) _ _ ⟨hp, g, d, t, os⟩ "object.__setattr__" "object" "__setattr__" (.ref x) [.str name tk, v] [] _ SF.kind SF.split sub (SF.args (.ref x) (.str name tk) v) ?_)
  have hmr : W.Looks (model prog w) hp (mroOf (.ref C)) cd.mro := (W.looks_clsIn X hcd).andThen .now
  have tkr : W.Looks (model prog w) hp (storeTaker? none) none := .now
  have hcls : W.Looks (model prog w) hp (classData C) cd := W.looks_clsIn X hcd
  rw [W.osa_eq, refuse_eq]
  refine wpAny_bind (wpAny_bind (I.type.at (wpAny_bind (hmr.at ?_))))
  rw [refsT_pass T _ _ hm]
  refine wpAny_pure (wpAny_bind (I.type.at (wpAny_bind ((W.looks_findIn X ha).at (wpAny_bind (tkr.at ?_))))))
  show wpAny _ _ (storeInOwnDict (.ref x) (.ref C) (.str name tk) name v false) _ _ _
  obtain ⟨nm, bs, mro, ns, qn, hd, sn, sb, ab, col, del⟩ := cd
  dsimp only at hh
  subst hh
  unfold storeInOwnDict ownDictForStores
  repeat (first | with_reducible refine store_in_new ?_ ?_ | with_reducible refine wpAny_loadPart_at hx ?_ | with_reducible refine hcls.at ?_ | wp_step)
  · exact ⟨_, #[], _, (Heap.get?_update_ne _ _ _ _ hxs.symm).trans (Heap.get?_push_at rfl rfl), rfl, fun e he => absurd he (by simp), fun _ => rfl⟩
  · intro h' tk' hn' hs
    have hx₁ : (hp.push { cls := .type "dict", data := .dict #[] }).get? x = some { cls := .ref C, data := .fields fv } := Heap.get?_push_of_some _ hx
    exact hq h' tk' hp.objs.size (fun b o hb ho => (hs.2 b (Nat.ne_of_lt (Heap.lt_size ho))).trans ((Heap.get?_update_ne _ _ _ _ hb).trans (Heap.get?_push_of_some _ ho))) (Nat.le_refl _) hxs.symm ((hs.2 x hxs).trans (Heap.get?_update_self _ hx₁ rfl)) hn'
end
end ErX
end PySem
namespace PySem
namespace IvX
open PySem.W PySem.Calls PyProof.Rows PySem.HandSPX
/-! ### the text of __init__ -/
def iA (p1 p2 : Pos) : Arguments := { posonlyargs := [], args := [{ arg := "self", annotation := none, pos := p1 }, { arg := "value", annotation := none, pos := p2 }], vararg := none, kwonlyargs := [], kw_defaults := [], kwarg := none, defaults := [] }
def iB (q1 q2 q3 q4 : Pos) : List Stmt := [.Assign [.Attribute (.Name "self" q1) "value" q2] (.Name "value" q3) q4]
def iS : Scope := { kind := .function, names := [(PySem.Str.ofString "self", .local), (PySem.Str.ofString "value", .local)], isGenerator := false, isCoroutine := false, more := [] }
structure InvalidNumberTxt (K : Frag) (mg : Str → Option Value) (C fI : Addr) : Prop where
  gC : mg "InvalidNumber" = some (.ref C)
  cls : ∃ nm q N bs bm sn sub ab col dd k0 k1 k2 k3 k5, K.lookup C = some (excClassObj nm q C N bs bm true sn sub ab col dd k0 k1 k2 k3 k5 "ValueError.__new__") ∧ ErX.refsT veTail bm = true
  sa : findIn K (.ref C) "__setattr__" = some (some (.builtin "object.__setattr__"))
  ga : findIn K (.ref C) "__getattribute__" = some (some (.builtin "BaseException.__getattribute__"))
  gg : findIn K (.ref C) "__getattr__" = some none
  noN : findIn K (.ref C) "value" = some none
  iC : findIn K (.ref C) "__init__" = some (some (.ref fI))
  tC : typeIn K (.ref fI) = some (.type "function")
  kC : keepIn K (.ref C) = true
  exC : subIn K (.ref C) (.type "BaseException") = some true
  tyC : typeIn K (.ref C) = some (.type "type")
  hdC : hasDictIn K C = true
  te : exmOne K (.ref C) (.ref C) = some true
  fn : ∃ (oc : Value) (od : Option Addr) (doc pm : Value) (an : Option Addr) (cdv ct : Value) (osl : Array (Option Value)) (p1 p2 q1 q2 q3 q4 : Pos),
    K.lookup fI = some ⟨oc, od, .func (fnOf "__init__" "InvalidNumber.__init__" (iA p1 p2) (iB q1 q2 q3 q4) iS .none .none doc pm an cdv ct), osl⟩ ∧ codeIn K cdv "InvalidNumber.__init__" = true
theorem one_size (v : Value) : [v].length ≤ sizeLine := by
  rw [sizeLine_eq]
  exact (by decide : 1 ≤ 16777216)
theorem kept_but {K : Frag} {h h' : Heap} {x : Addr} (X : K.In h) (hx : K.lookup x = none) (k : ∀ b o, b ≠ x → h.get? b = some o → h'.get? b = some o) : K.In h' := fun a o e =>
  k a o (fun z => by rw [z, hx] at e; cases e) (X a o e)
theorem ldC {M : Model} {s : Shared} {name : Str} {scope : Scope} {L a : Addr} {cd : Value} {m : Str → Option Value} {x : Str} {pos : Pos} {v : Value} {Q : Value → Shared → Prop} {A : Around} {E : Value → Shared → Prop} (hn : s.heap.Ns L m) (hv : m x = some v) (h : Q v s)
    (hk : scope.kind = .function := by rfl) (hl : (envOfC name scope L a cd).kindOf x = some .local := by rfl) (hd : (x == ("__debug__" : Str)) = false := by decide) :
    wpAny M A (eval (.Name x pos) (envOfC name scope L a cd)) Q E s := wpAny_Name (wpAny_loadName_local hk hl hn hv h) hd
structure InitEnd (h h' : Heap) (x C dx t1 : Addr) (v : Value) : Prop where
  keep : ∀ b o, b ≠ x → h.get? b = some o → h'.get? b = some o
  obj : h'.get? x = some { cls := .ref C, dict := some dx, data := .fields #[.ref t1, .none, .none, .none, .bool false, .none] }
  dbig : h.objs.size ≤ dx
  dne : dx ≠ x
  ns : h'.Ns1 dx (fun y => if y = "value" then some v else none)
structure OwnMade (h h' : Heap) (e C d : Addr) (v : Value) : Prop where
  keep : ∀ b o, h.get? b = some o → h'.get? b = some o
  new : h.objs.size ≤ e
  obj : ∃ oe vs, h'.get? e = some oe ∧ oe.cls = .ref C ∧ oe.dict = some d ∧ oe.data = .fields vs ∧ vs[1]? = some .none
  dbig : h.objs.size ≤ d
  dne : d ≠ e
  ns : h'.Ns1 d (fun y => if y = "value" then some v else none)
section
variable {prog : Program} {w : World} {A : Around} {E : Value → Shared → Prop} {R : Result → Shared → Prop} {s : Shared} {K : Frag} {mg : Str → Option Value} {C fI : Addr}
theorem IvN_init (T : InvalidNumberTxt K mg C fI) {x t0 : Addr} {v : Value} (X : K.In s.heap) (hlim : s.heap.NoLimit) (hx : s.heap.get? x = some (excO C t0)) (hnx : K.lookup x = none) (hroom : A.depth < recursionLimit)
    (hq : ∀ h' tk dx, InitEnd s.heap h' x C dx t0 v → R (.ok (.ret .none)) { s with heap := h', toks := tk }) :
    codeAny (model prog w) A (.call (.ref fI) ⟨[.ref x, v], []⟩) R s := by
  obtain ⟨oc, od, doc, pm, an, cdv, ct, osl, p1, p2, q1, q2, q3, q4, ho, hcd⟩ := T.fn
  obtain ⟨nm, q, N, bs, bm, sn, sub, ab, col, dd, k0, k1, k2, k3, k5, hC, hbm⟩ := T.cls
  have hcl : clsIn K C = some { name := nm, bases := bs, mro := .ref C :: bm, ns := N, qualname := q, hasDict := true, slotNames := sn, subclasses := sub, abstract := ab, collection := col, hasDel := false } := by unfold clsIn; rw [hC] <;> rfl
  refine Att.call_fn (binds := [("self", .ref x), ("value", v)]) X hlim ho hcd hroom (BindsTo.of_eq (by first | rfl | with_unfolding_all rfl)) (by first | rfl | decide | with_unfolding_all rfl) (fun s₁ IC => ?_) rfl rfl rfl
  obtain ⟨h₁, tk₁, rfl⟩ := IC.toInCall.same
  have k : ∀ b o, s.heap.get? b = some o → h₁.get? b = some o := IC.toInCall.keep
  have hn := IC.toInCall.ns
  have hxL : s.heap.objs.size ≠ x := Nat.ne_of_gt (Heap.lt_size hx)
  have X₁ : K.In h₁ := X.keeps k
  have hx₁ := k _ _ hx
  -- self.by = by
  show wpAny _ _ (execs _ _) _ _ _
  refine wpAny_execs_cons (plainObj_wpAny_Assign_Attribute ?_)
  refine ldC (v := v) hn (by first | rfl | with_unfolding_all rfl | kernel_rfl) (ldC (v := .ref x) hn (by first | rfl | with_unfolding_all rfl | kernel_rfl) ?_)
  refine set_plain X₁ (ox := excO C t0) (od := none) ⟨hx₁, rfl, rfl, trivial⟩ T.sa ?_
  refine ErX.osaT ErX.base_VE X₁ hx₁ hcl (show ErX.refsT veTail (.ref C :: bm) = true from hbm) rfl T.noN (fun h₃ tk₃ dx k₃ dn dne hx₃ hn₃ => ?_)
  show wpAny _ _ (execs _ _) _ _ _
  have z : s.heap.objs.size < h₁.objs.size := hn.lt
  exact wpAny_execs_nil (hq h₃ tk₃ dx ⟨fun b o hb e => k₃ b o hb (k b o e), hx₃, Nat.le_of_lt (Nat.lt_of_lt_of_le z dn), dne, hn₃⟩)
theorem IvN_made (T : InvalidNumberTxt K mg C fI) {v : Value} (X : K.In s.heap) (hlim : s.heap.NoLimit) (hroom : A.depth + 1 < recursionLimit)
    (hq : ∀ h' tk e d, OwnMade s.heap h' e C d v → R (.ok (.ret (.ref e))) { s with heap := h', toks := tk }) :
    codeAny (model prog w) A (.call (.ref C) ⟨[v], []⟩) R s := by
  obtain ⟨nm, q, N, bs, bm, sn, sub, ab, col, dd, k0, k1, k2, k3, k5, hC, hbm⟩ := T.cls
  obtain ⟨hp, g, dr, tk, os⟩ := s
  have k : ∀ b o, hp.get? b = some o → ((hp.push (kdv_tup [v])).push (excO C hp.objs.size)).get? b = some o := fun b o e => Heap.get?_push_of_some _ (Heap.get?_push_of_some _ e)
  have hget : ((hp.push (kdv_tup [v])).push (excO C hp.objs.size)).get? (hp.objs.size + 1) = some (excO C hp.objs.size) := by heap_get
  have hnx : K.lookup (hp.objs.size + 1) = none := by
    cases e : K.lookup (hp.objs.size + 1) with
    | none => rfl
    | some o =>
      have z : hp.get? (hp.objs.size + 1) = some o := X _ _ e
      exact absurd (Nat.lt_of_succ_lt (Heap.lt_size z)) (Nat.lt_irrefl _)
  refine call_own ErX.base_VE.base (fun X => ErX.refsT_contains X bm hbm) (X _ _ hC) (looks_findIn X T.iC) (fun self => bind_fn X self T.tC) (one_size v) ?_
  refine IvN_init (s := ⟨(hp.push (kdv_tup [v])).push (excO C hp.objs.size), g, dr, tk, os⟩) T (X.keeps k) (hlim.keeps k) hget hnx ?_ fun h' tk' dx ⟨k', hx, dn, dne, hns⟩ => ?_
  · show A.depth + 1 < recursionLimit
    exact hroom
  · have old : ∀ b o, hp.get? b = some o → h'.get? b = some o := fun b o e => k' b o (Nat.ne_of_lt (Nat.lt_succ_of_lt (Heap.lt_size e))) (k b o e)
    have z : hp.objs.size + 1 + 1 ≤ dx := by
      first
        | (simpa only [Heap.size_push] using dn)
        | exact dn
        | (have q := dn; rw [Heap.size_push, Heap.size_push] at q; exact q)
    exact ⟨rfl, hq h' tk' (hp.objs.size + 1) dx ⟨old, Nat.le_succ _, ⟨_, _, hx, rfl, rfl, rfl, rfl⟩, Nat.le_trans (Nat.le_trans (Nat.le_succ _) (Nat.le_succ _)) z, dne, hns⟩⟩
end
end IvX
end PySem
namespace L2
open PySem PySem.Spec PyProof.Rows
theorem relO_IvN {v : V} {v' : Value} (r : RelV v v') (f : Str) : RelO (List.lookup f [(("value" : Str), v)]) (if f = "value" then some v' else none) := by
  by_cases hw : f = "value"
  · subst hw
    rw [if_pos rfl]
    have q : List.lookup ("value" : Str) [(("value" : Str), v)] = some v := by simp [List.lookup]
    rw [q]
    exact r
  · rw [if_neg hw]
    have qw : (f == ("value" : Str)) = false := by simpa using hw
    have q2 : List.lookup f [(("value" : Str), v)] = none := by simp [List.lookup, qw]
    rw [q2]
    trivial
section
variable {X : Cx} {C fI : Addr}
def tMkIvN (C : Addr) (ta : TA) : St → Hp → XK → Prop := fun σ H Q => ta σ H fun vs H1 => ∃ v, vs = [v] ∧ ∀ d, H1 d = none → Q (.ref C) (some d) (upd H1 d (.xd [(("value" : Str), v)]))
theorem pmk_IvN {a : Expr} {ta : TA} {p pos : Pos} {k : Nat} (T : PySem.IvX.InvalidNumberTxt X.K X.mg C fI) (hr : Room k X.A) (ha : PA X [a] ta) (hg : Gl X "InvalidNumber" := by rfl)
    (he : starEach (a :: []) X.env = (false, eval a X.env) :: starEach [] X.env := by rfl) (hpl : (backTo pos (starEach [] X.env)).any (·.1) = false := by rfl) :
    PMk X (.Call (.Name "InvalidNumber" p) [a] [] pos) (tMkIvN C ta) := by
  intro pins s σ H Q I h
  refine wpAny_Call_Name_kw (ld_glob I hg T.gC ?_)
  refine PySem.W.callWith_K (h₀ := X.base) I.ok.mod.kin T.kC (thn (ha.run pos pins s σ H _ I h) fun us s1 hh => ?_) he hpl
  obtain ⟨vs, H1, I1, r1, v, ev, q1⟩ := hh
  subst ev
  refine ⟨I1.kIn, ?_⟩
  cases r1 with
  | cons rv rn =>
    rename_i v' us'
    cases rn
    show wpAny _ _ (call (.ref C) [v']) _ _ _
    have hlim := I1.nolimit
    obtain ⟨hp, g, dr, tk, os⟩ := s1
    refine wpAny_call (PySem.IvX.IvN_made T I1.kIn hlim (by have := hr.dp; omega) fun h' tk' e d M => ?_)
    show MkP X pins σ Q (.ref e) ⟨h', g, dr, tk', os⟩
    obtain ⟨oe, fv, hoe, hc, hd, hdat, h1⟩ := M.obj
    have hns := M.ns
    obtain ⟨G', g1, g2⟩ := restrict h' fun b => decide (b ≠ e)
    have gk : ∀ b, b ≠ e → G'.get? b = h'.get? b := fun b hb => g1 b (decide_eq_true hb)
    have ge : G'.get? e = none := g2 e (by simp)
    have old : ∀ b o, hp.get? b = some o → G'.get? b = some o := fun b o q => (gk b (Nat.ne_of_lt (Nat.lt_of_lt_of_le (Heap.lt_size q) M.new))).trans (M.keep b o q)
    have ob : ObjOk X.prog X.w (upd H1 d (.xd [(("value" : Str), v)])) G' d (.xd [(("value" : Str), v)]) :=
      ⟨_, hns.at (fun o q => (gk d M.dne).trans q), fun f => relO_IvN rv f⟩
    have J : Inv X pins σ (upd H1 d (.xd [(("value" : Str), v)])) ⟨G', g, dr, tk', os⟩ := I1.laid (t' := tk') old M.dbig ob
    refine ⟨e, oe, fv, ⟨G', g, dr, tk', os⟩, _, .ref C, some d, rfl, J, fun b o q => ?_, ge, hoe, ⟨hc, hd⟩, hdat, h1, ?_, rfl, I1.bare, raises_own T.exC T.tyC, q1 d (I1.hok.fresh M.dbig)⟩
    · by_cases hb : b = e
      · have q' : G'.get? b = some o := q
        rw [hb, ge] at q'; cases q'
      · exact (gk b hb).symm.trans q
    · rw [upd_ne (Ne.symm M.dne)]
      exact I1.hok.fresh M.new
def tRaiseIvN (C : Addr) (W : WX) (ta : TA) : TS := fun _ σ H => tMkIvN C ta σ H fun cls d H' => W cls d σ H'
theorem ps_raiseIvN {a : Expr} {ta : TA} {W : WX} {p pos pos2 : Pos} {k : Nat} (hc : X.calm = true) (T : PySem.IvX.InvalidNumberTxt X.K X.mg C fI) (hr : Room k X.A) (tk : Takes X W) (ha : PA X [a] ta) (hg : Gl X "InvalidNumber" := by rfl)
    (he : starEach (a :: []) X.env = (false, eval a X.env) :: starEach [] X.env := by rfl) (hpl : (backTo pos (starEach [] X.env)).any (·.1) = false := by rfl) :
    PS X (.Raise (some (.Call (.Name "InvalidNumber" p) [a] [] pos)) none pos2) (tRaiseIvN C W ta) := ps_raise hc tk (pmk_IvN T hr ha hg he hpl)
def tByIvN (C : Addr) (a : Addr) (cls : Value) (d : Option Addr) (te : TE) : TE := fun σ H Q => te σ H fun x H1 => x = .ref a ∧ cls = .ref C ∧ ∃ (dd : Addr) (v : V), d = some dd ∧ H1 dd = some (.xd [(("value" : Str), v)]) ∧ Q v H1
theorem pe_byIvN {a : Addr} {oe : Obj} {cls : Value} {d : Option Addr} {pn : List (Addr × Obj)} {e : Expr} {te : TE} {pos : Pos} (T : PySem.IvX.InvalidNumberTxt X.K X.mg C fI) (hz : Zc cls d oe) (hf : ∃ vs, oe.data = .fields vs) (he : PE (X.suite a ((a, oe) :: pn)) e te)
    (hb : attributeBase e "value" X.env (eval e X.env) = eval e X.env := by rfl) :
    PE (X.suite a ((a, oe) :: pn)) (.Attribute e "value" pos) (tByIvN C a cls d te) := by
  refine ⟨fun pins s σ H Q I h => ?_⟩
  refine attr_of hb (thn (he.run pins s σ H _ I h) fun u s1 hh => ?_)
  obtain ⟨x, H1, I1, rx, ex, ec, dd, v, ed, ea, q⟩ := hh
  subst ex
  obtain rfl : u = Value.ref a := rx
  subst ec
  subst ed
  obtain ⟨ha, _⟩ := I1.pin (a, oe) (List.mem_append_left _ List.mem_cons_self)
  obtain ⟨vs, hd⟩ := hf
  have hx : ObjOk X.prog X.w H1 s1.heap dd (.xd [(("value" : Str), v)]) := I1.hok dd _ ea
  obtain ⟨mA, hns, hr⟩ := hx
  obtain ⟨od, ho, hl⟩ := lookIn_ns hns
  have l : List.lookup ("value" : Str) [(("value" : Str), v)] = some v := by simp [List.lookup]
  obtain ⟨u, hu, ru⟩ := RelO.some_of (v := v) (o := mA "value") (by rw [← l]; exact hr "value")
  have J : PySem.W.InstAt s1.heap a oe C (some od) := ⟨ha, hz.1, by unfold PySem.W.notCls; rw [hd] <;> rfl, by rw [hz.2]; exact ho⟩
  exact HandSPX.exc_get I1.kIn J T.ga T.gg T.exC (PySem.W.findObj_own T.hdC T.noN rfl (by rw [hl, hu])) (handed_of ru) ⟨v, H1, I1.tok _, ru, q⟩
end
end L2

namespace PySem
namespace LmX
open PySem.W PySem.Calls PyProof.Rows PySem.HandSPX
/-! ### the text of __init__ -/
def iA (p1 p2 : Pos) : Arguments := { posonlyargs := [], args := [{ arg := "self", annotation := none, pos := p1 }, { arg := "limit", annotation := none, pos := p2 }], vararg := none, kwonlyargs := [], kw_defaults := [], kwarg := none, defaults := [] }
def iB (q1 q2 q3 q4 : Pos) : List Stmt := [.Assign [.Attribute (.Name "self" q1) "limit" q2] (.Name "limit" q3) q4]
def iS : Scope := { kind := .function, names := [(PySem.Str.ofString "self", .local), (PySem.Str.ofString "limit", .local)], isGenerator := false, isCoroutine := false, more := [] }
structure LimitExceededTxt (K : Frag) (mg : Str → Option Value) (C fI : Addr) : Prop where
  gC : mg "LimitExceeded" = some (.ref C)
  cls : ∃ nm q N bs bm sn sub ab col dd k0 k1 k2 k3 k5, K.lookup C = some (excClassObj nm q C N bs bm true sn sub ab col dd k0 k1 k2 k3 k5 "OverflowError.__new__") ∧ ErX.refsT ErX.ovTail bm = true
  sa : findIn K (.ref C) "__setattr__" = some (some (.builtin "object.__setattr__"))
  ga : findIn K (.ref C) "__getattribute__" = some (some (.builtin "BaseException.__getattribute__"))
  gg : findIn K (.ref C) "__getattr__" = some none
  noN : findIn K (.ref C) "limit" = some none
  iC : findIn K (.ref C) "__init__" = some (some (.ref fI))
  tC : typeIn K (.ref fI) = some (.type "function")
  kC : keepIn K (.ref C) = true
  exC : subIn K (.ref C) (.type "BaseException") = some true
  tyC : typeIn K (.ref C) = some (.type "type")
  hdC : hasDictIn K C = true
  te : exmOne K (.ref C) (.ref C) = some true
  fn : ∃ (oc : Value) (od : Option Addr) (doc pm : Value) (an : Option Addr) (cdv ct : Value) (osl : Array (Option Value)) (p1 p2 q1 q2 q3 q4 : Pos),
    K.lookup fI = some ⟨oc, od, .func (fnOf "__init__" "LimitExceeded.__init__" (iA p1 p2) (iB q1 q2 q3 q4) iS .none .none doc pm an cdv ct), osl⟩ ∧ codeIn K cdv "LimitExceeded.__init__" = true
theorem one_size (v : Value) : [v].length ≤ sizeLine := by
  rw [sizeLine_eq]
  exact (by decide : 1 ≤ 16777216)
theorem kept_but {K : Frag} {h h' : Heap} {x : Addr} (X : K.In h) (hx : K.lookup x = none) (k : ∀ b o, b ≠ x → h.get? b = some o → h'.get? b = some o) : K.In h' := fun a o e =>
  k a o (fun z => by rw [z, hx] at e; cases e) (X a o e)
theorem ldC {M : Model} {s : Shared} {name : Str} {scope : Scope} {L a : Addr} {cd : Value} {m : Str → Option Value} {x : Str} {pos : Pos} {v : Value} {Q : Value → Shared → Prop} {A : Around} {E : Value → Shared → Prop} (hn : s.heap.Ns L m) (hv : m x = some v) (h : Q v s)
    (hk : scope.kind = .function := by rfl) (hl : (envOfC name scope L a cd).kindOf x = some .local := by rfl) (hd : (x == ("__debug__" : Str)) = false := by decide) :
    wpAny M A (eval (.Name x pos) (envOfC name scope L a cd)) Q E s := wpAny_Name (wpAny_loadName_local hk hl hn hv h) hd
structure InitEnd (h h' : Heap) (x C dx t1 : Addr) (v : Value) : Prop where
  keep : ∀ b o, b ≠ x → h.get? b = some o → h'.get? b = some o
  obj : h'.get? x = some { cls := .ref C, dict := some dx, data := .fields #[.ref t1, .none, .none, .none, .bool false, .none] }
  dbig : h.objs.size ≤ dx
  dne : dx ≠ x
  ns : h'.Ns1 dx (fun y => if y = "limit" then some v else none)
structure OwnMade (h h' : Heap) (e C d : Addr) (v : Value) : Prop where
  keep : ∀ b o, h.get? b = some o → h'.get? b = some o
  new : h.objs.size ≤ e
  obj : ∃ oe vs, h'.get? e = some oe ∧ oe.cls = .ref C ∧ oe.dict = some d ∧ oe.data = .fields vs ∧ vs[1]? = some .none
  dbig : h.objs.size ≤ d
  dne : d ≠ e
  ns : h'.Ns1 d (fun y => if y = "limit" then some v else none)
section
variable {prog : Program} {w : World} {A : Around} {E : Value → Shared → Prop} {R : Result → Shared → Prop} {s : Shared} {K : Frag} {mg : Str → Option Value} {C fI : Addr}
theorem LmE_init (T : LimitExceededTxt K mg C fI) {x t0 : Addr} {v : Value} (X : K.In s.heap) (hlim : s.heap.NoLimit) (hx : s.heap.get? x = some (excO C t0)) (hnx : K.lookup x = none) (hroom : A.depth < recursionLimit)
    (hq : ∀ h' tk dx, InitEnd s.heap h' x C dx t0 v → R (.ok (.ret .none)) { s with heap := h', toks := tk }) :
    codeAny (model prog w) A (.call (.ref fI) ⟨[.ref x, v], []⟩) R s := by
  obtain ⟨oc, od, doc, pm, an, cdv, ct, osl, p1, p2, q1, q2, q3, q4, ho, hcd⟩ := T.fn
  obtain ⟨nm, q, N, bs, bm, sn, sub, ab, col, dd, k0, k1, k2, k3, k5, hC, hbm⟩ := T.cls
  have hcl : clsIn K C = some { name := nm, bases := bs, mro := .ref C :: bm, ns := N, qualname := q, hasDict := true, slotNames := sn, subclasses := sub, abstract := ab, collection := col, hasDel := false } := by unfold clsIn; rw [hC] <;> rfl
  refine Att.call_fn (binds := [("self", .ref x), ("limit", v)]) X hlim ho hcd hroom (BindsTo.of_eq (by first | rfl | with_unfolding_all rfl)) (by first | rfl | decide | with_unfolding_all rfl) (fun s₁ IC => ?_) rfl rfl rfl
  obtain ⟨h₁, tk₁, rfl⟩ := IC.toInCall.same
  have k : ∀ b o, s.heap.get? b = some o → h₁.get? b = some o := IC.toInCall.keep
  have hn := IC.toInCall.ns
  have hxL : s.heap.objs.size ≠ x := Nat.ne_of_gt (Heap.lt_size hx)
  have X₁ : K.In h₁ := X.keeps k
  have hx₁ := k _ _ hx
  -- self.by = by
  show wpAny _ _ (execs _ _) _ _ _
  refine wpAny_execs_cons (plainObj_wpAny_Assign_Attribute ?_)
  refine ldC (v := v) hn (by first | rfl | with_unfolding_all rfl | kernel_rfl) (ldC (v := .ref x) hn (by first | rfl | with_unfolding_all rfl | kernel_rfl) ?_)
  refine set_plain X₁ (ox := excO C t0) (od := none) ⟨hx₁, rfl, rfl, trivial⟩ T.sa ?_
  refine ErX.osaT ErX.base_OV X₁ hx₁ hcl (show ErX.refsT ErX.ovTail (.ref C :: bm) = true from hbm) rfl T.noN (fun h₃ tk₃ dx k₃ dn dne hx₃ hn₃ => ?_)
  show wpAny _ _ (execs _ _) _ _ _
  have z : s.heap.objs.size < h₁.objs.size := hn.lt
  exact wpAny_execs_nil (hq h₃ tk₃ dx ⟨fun b o hb e => k₃ b o hb (k b o e), hx₃, Nat.le_of_lt (Nat.lt_of_lt_of_le z dn), dne, hn₃⟩)
theorem LmE_made (T : LimitExceededTxt K mg C fI) {v : Value} (X : K.In s.heap) (hlim : s.heap.NoLimit) (hroom : A.depth + 1 < recursionLimit)
    (hq : ∀ h' tk e d, OwnMade s.heap h' e C d v → R (.ok (.ret (.ref e))) { s with heap := h', toks := tk }) :
    codeAny (model prog w) A (.call (.ref C) ⟨[v], []⟩) R s := by
  obtain ⟨nm, q, N, bs, bm, sn, sub, ab, col, dd, k0, k1, k2, k3, k5, hC, hbm⟩ := T.cls
  obtain ⟨hp, g, dr, tk, os⟩ := s
  have k : ∀ b o, hp.get? b = some o → ((hp.push (kdv_tup [v])).push (excO C hp.objs.size)).get? b = some o := fun b o e => Heap.get?_push_of_some _ (Heap.get?_push_of_some _ e)
  have hget : ((hp.push (kdv_tup [v])).push (excO C hp.objs.size)).get? (hp.objs.size + 1) = some (excO C hp.objs.size) := by heap_get
  have hnx : K.lookup (hp.objs.size + 1) = none := by
    cases e : K.lookup (hp.objs.size + 1) with
    | none => rfl
    | some o =>
      have z : hp.get? (hp.objs.size + 1) = some o := X _ _ e
      exact absurd (Nat.lt_of_succ_lt (Heap.lt_size z)) (Nat.lt_irrefl _)
  refine call_own ErX.base_OV.base (fun X => ErX.refsT_contains X bm hbm) (X _ _ hC) (looks_findIn X T.iC) (fun self => bind_fn X self T.tC) (one_size v) ?_
  refine LmE_init (s := ⟨(hp.push (kdv_tup [v])).push (excO C hp.objs.size), g, dr, tk, os⟩) T (X.keeps k) (hlim.keeps k) hget hnx ?_ fun h' tk' dx ⟨k', hx, dn, dne, hns⟩ => ?_
  · show A.depth + 1 < recursionLimit
    exact hroom
  · have old : ∀ b o, hp.get? b = some o → h'.get? b = some o := fun b o e => k' b o (Nat.ne_of_lt (Nat.lt_succ_of_lt (Heap.lt_size e))) (k b o e)
    have z : hp.objs.size + 1 + 1 ≤ dx := by
      first
        | (simpa only [Heap.size_push] using dn)
        | exact dn
        | (have q := dn; rw [Heap.size_push, Heap.size_push] at q; exact q)
    exact ⟨rfl, hq h' tk' (hp.objs.size + 1) dx ⟨old, Nat.le_succ _, ⟨_, _, hx, rfl, rfl, rfl, rfl⟩, Nat.le_trans (Nat.le_trans (Nat.le_succ _) (Nat.le_succ _)) z, dne, hns⟩⟩
end
end LmX
end PySem
namespace L2
open PySem PySem.Spec PyProof.Rows
theorem relO_LmE {v : V} {v' : Value} (r : RelV v v') (f : Str) : RelO (List.lookup f [(("limit" : Str), v)]) (if f = "limit" then some v' else none) := by
  by_cases hw : f = "limit"
  · subst hw
    rw [if_pos rfl]
    have q : List.lookup ("limit" : Str) [(("limit" : Str), v)] = some v := by simp [List.lookup]
    rw [q]
    exact r
  · rw [if_neg hw]
    have qw : (f == ("limit" : Str)) = false := by simpa using hw
    have q2 : List.lookup f [(("limit" : Str), v)] = none := by simp [List.lookup, qw]
    rw [q2]
    trivial
section
variable {X : Cx} {C fI : Addr}
def tMkLmE (C : Addr) (ta : TA) : St → Hp → XK → Prop := fun σ H Q => ta σ H fun vs H1 => ∃ v, vs = [v] ∧ ∀ d, H1 d = none → Q (.ref C) (some d) (upd H1 d (.xd [(("limit" : Str), v)]))
theorem pmk_LmE {a : Expr} {ta : TA} {p pos : Pos} {k : Nat} (T : PySem.LmX.LimitExceededTxt X.K X.mg C fI) (hr : Room k X.A) (ha : PA X [a] ta) (hg : Gl X "LimitExceeded" := by rfl)
    (he : starEach (a :: []) X.env = (false, eval a X.env) :: starEach [] X.env := by rfl) (hpl : (backTo pos (starEach [] X.env)).any (·.1) = false := by rfl) :
    PMk X (.Call (.Name "LimitExceeded" p) [a] [] pos) (tMkLmE C ta) := by
  intro pins s σ H Q I h
  refine wpAny_Call_Name_kw (ld_glob I hg T.gC ?_)
  refine PySem.W.callWith_K (h₀ := X.base) I.ok.mod.kin T.kC (thn (ha.run pos pins s σ H _ I h) fun us s1 hh => ?_) he hpl
  obtain ⟨vs, H1, I1, r1, v, ev, q1⟩ := hh
  subst ev
  refine ⟨I1.kIn, ?_⟩
  cases r1 with
  | cons rv rn =>
    rename_i v' us'
    cases rn
    show wpAny _ _ (call (.ref C) [v']) _ _ _
    have hlim := I1.nolimit
    obtain ⟨hp, g, dr, tk, os⟩ := s1
    refine wpAny_call (PySem.LmX.LmE_made T I1.kIn hlim (by have := hr.dp; omega) fun h' tk' e d M => ?_)
    show MkP X pins σ Q (.ref e) ⟨h', g, dr, tk', os⟩
    obtain ⟨oe, fv, hoe, hc, hd, hdat, h1⟩ := M.obj
    have hns := M.ns
    obtain ⟨G', g1, g2⟩ := restrict h' fun b => decide (b ≠ e)
    have gk : ∀ b, b ≠ e → G'.get? b = h'.get? b := fun b hb => g1 b (decide_eq_true hb)
    have ge : G'.get? e = none := g2 e (by simp)
    have old : ∀ b o, hp.get? b = some o → G'.get? b = some o := fun b o q => (gk b (Nat.ne_of_lt (Nat.lt_of_lt_of_le (Heap.lt_size q) M.new))).trans (M.keep b o q)
    have ob : ObjOk X.prog X.w (upd H1 d (.xd [(("limit" : Str), v)])) G' d (.xd [(("limit" : Str), v)]) :=
      ⟨_, hns.at (fun o q => (gk d M.dne).trans q), fun f => relO_LmE rv f⟩
    have J : Inv X pins σ (upd H1 d (.xd [(("limit" : Str), v)])) ⟨G', g, dr, tk', os⟩ := I1.laid (t' := tk') old M.dbig ob
    refine ⟨e, oe, fv, ⟨G', g, dr, tk', os⟩, _, .ref C, some d, rfl, J, fun b o q => ?_, ge, hoe, ⟨hc, hd⟩, hdat, h1, ?_, rfl, I1.bare, raises_own T.exC T.tyC, q1 d (I1.hok.fresh M.dbig)⟩
    · by_cases hb : b = e
      · have q' : G'.get? b = some o := q
        rw [hb, ge] at q'; cases q'
      · exact (gk b hb).symm.trans q
    · rw [upd_ne (Ne.symm M.dne)]
      exact I1.hok.fresh M.new
def tRaiseLmE (C : Addr) (W : WX) (ta : TA) : TS := fun _ σ H => tMkLmE C ta σ H fun cls d H' => W cls d σ H'
theorem ps_raiseLmE {a : Expr} {ta : TA} {W : WX} {p pos pos2 : Pos} {k : Nat} (hc : X.calm = true) (T : PySem.LmX.LimitExceededTxt X.K X.mg C fI) (hr : Room k X.A) (tk : Takes X W) (ha : PA X [a] ta) (hg : Gl X "LimitExceeded" := by rfl)
    (he : starEach (a :: []) X.env = (false, eval a X.env) :: starEach [] X.env := by rfl) (hpl : (backTo pos (starEach [] X.env)).any (·.1) = false := by rfl) :
    PS X (.Raise (some (.Call (.Name "LimitExceeded" p) [a] [] pos)) none pos2) (tRaiseLmE C W ta) := ps_raise hc tk (pmk_LmE T hr ha hg he hpl)
def tByLmE (C : Addr) (a : Addr) (cls : Value) (d : Option Addr) (te : TE) : TE := fun σ H Q => te σ H fun x H1 => x = .ref a ∧ cls = .ref C ∧ ∃ (dd : Addr) (v : V), d = some dd ∧ H1 dd = some (.xd [(("limit" : Str), v)]) ∧ Q v H1
theorem pe_byLmE {a : Addr} {oe : Obj} {cls : Value} {d : Option Addr} {pn : List (Addr × Obj)} {e : Expr} {te : TE} {pos : Pos} (T : PySem.LmX.LimitExceededTxt X.K X.mg C fI) (hz : Zc cls d oe) (hf : ∃ vs, oe.data = .fields vs) (he : PE (X.suite a ((a, oe) :: pn)) e te)
    (hb : attributeBase e "limit" X.env (eval e X.env) = eval e X.env := by rfl) :
    PE (X.suite a ((a, oe) :: pn)) (.Attribute e "limit" pos) (tByLmE C a cls d te) := by
  refine ⟨fun pins s σ H Q I h => ?_⟩
  refine attr_of hb (thn (he.run pins s σ H _ I h) fun u s1 hh => ?_)
  obtain ⟨x, H1, I1, rx, ex, ec, dd, v, ed, ea, q⟩ := hh
  subst ex
  obtain rfl : u = Value.ref a := rx
  subst ec
  subst ed
  obtain ⟨ha, _⟩ := I1.pin (a, oe) (List.mem_append_left _ List.mem_cons_self)
  obtain ⟨vs, hd⟩ := hf
  have hx : ObjOk X.prog X.w H1 s1.heap dd (.xd [(("limit" : Str), v)]) := I1.hok dd _ ea
  obtain ⟨mA, hns, hr⟩ := hx
  obtain ⟨od, ho, hl⟩ := lookIn_ns hns
  have l : List.lookup ("limit" : Str) [(("limit" : Str), v)] = some v := by simp [List.lookup]
  obtain ⟨u, hu, ru⟩ := RelO.some_of (v := v) (o := mA "limit") (by rw [← l]; exact hr "limit")
  have J : PySem.W.InstAt s1.heap a oe C (some od) := ⟨ha, hz.1, by unfold PySem.W.notCls; rw [hd] <;> rfl, by rw [hz.2]; exact ho⟩
  exact HandSPX.exc_get I1.kIn J T.ga T.gg T.exC (PySem.W.findObj_own T.hdC T.noN rfl (by rw [hl, hu])) (handed_of ru) ⟨v, H1, I1.tok _, ru, q⟩
end
end L2
set_option Elab.async false
set_option linter.all false
set_option maxRecDepth 100000
set_option maxHeartbeats 4000000
/-! E01: common_net, net_of_all. -/
namespace CpR
open PySem PySem.Spec PyProof.Rows L2 CpM
section
variable {X : Cx} {CX : CXT} {k j : Nat} {C : Addr} {sp : Sp} {E : XK}
/-- an operator that the class defines, by its method's promise -/
theorem op_ownR {op : Operator} {m : Str} (D : Dm X.prog X.w X.K X.mg X.base CX k C m sp) (hm : m = PySem.dunder op.info.2) (hr : Room j X.A) (hkj : k ≤ j) (hx : ∀ H s e s', CX X.stack H s E e s' → False) (sf : PySem.W.selfFirst X.K C = true) : OpR X (binaryOp op) (rBinO C sp E) := by
  intro pins s σ H x y v u Q I rx ry hq
  obtain ⟨a, b, dx, dy, fs, gs, rfl, rfl, ha, hb', hsp⟩ := hq
  cases rx
  cases ry
  subst hm
  obtain ⟨f, M, F⟩ := D
  obtain ⟨mA, J, _⟩ := ins_get I.hok ha
  obtain ⟨mB, J', _⟩ := ins_get I.hok hb'
  obtain ⟨od, J, _⟩ := J.look
  obtain ⟨od', J', _⟩ := J'.look
  obtain ⟨m, hF⟩ := I.fr
  refine PySem.W.binop_K hF I.ok.mod.kin J J'.type sf M.at_ M.fn (wpAny_call (codeAny_mono (F X.A X.stack s H [.ref a, .ref b] [.ref a, .ref b] _ E (hr.mono hkj) I.env0 (.cons (show RelV (.ref a) (.ref a) from rfl) (.cons (show RelV (.ref b) (.ref b) from rfl) .nil)) hsp) fun r s' hq => ?_))
  match r, hq with
  | .error er, hq => exact False.elim (hx _ _ _ _ hq)
  | .ok (.ret u), hq =>
    obtain ⟨v, H', I', rv, ⟨c, ev⟩, q⟩ := I.after hq
    subst ev
    obtain rfl : u = Value.ref c := rv
    exact ⟨V.ref c, H', I', rfl, q⟩
end
/-- the errors' classes -/
structure TxtE (K : PySem.W.Frag) (mg : Str → Option Value) (CI CE : Addr) : Prop where
  iv : ∃ f, PySem.IvX.InvalidNumberTxt K mg CI f
  lm : ∃ f, PySem.LmX.LimitExceededTxt K mg CE f
section
variable {P : Program} {w : World} {K : PySem.W.Frag} {mg : Str → Option Value} {base : Heap} {CN CC CW CL CI CE : Addr} {k : Nat} {x : Str} {st : Stmt} {N : List Str} {sp : Sp} {pv : Str}
/-- def x(*pv) -/
def starSp (sp : Sp) : Sp := fun vs H Q E => vs.length ≤ 1000 ∧ ∀ p, H p = none → sp [V.ref p] (upd H p (.tup vs)) Q E
def BindS (x pv : Str) (st : Stmt) : Prop := ∀ (qual : Str) (kV doc pm : Value) (an : Option Addr) (cdv ct : Value) (rest : List Value), bindArgs (PySem.W.fnOf x qual (defArgs st) (defBody st) (defScope st) .none kV doc pm an cdv ct) ⟨rest, []⟩ = (newTuple rest >>= fun t => pure [(pv, t)])
theorem df_starX (h : HasD K mg x st) (S : FnScope N [pv] (defScope st)) (b : BindS x pv st) (body : BodyOkX P w K mg base k N x st sp) : Df P w K mg base (L2.CX P w) (k + 1) x (starSp sp) := by
  obtain ⟨f, fd, m, F⟩ := h
  refine ⟨f, m, F.kp, ?_⟩
  obtain ⟨oc, od, kV, doc, pm, an, cdv, ct, osl, rfl, lk, hcd⟩ := F.ex
  have G := StX.fn_star (ps := []) (pv := pv) (sp := sp) (k := k) (P := P) (w := w) (mg := mg) (base := base) (CX := L2.CX P w) (N := N) lk hcd S StX.cxUp (fun us rest hl => by
    obtain rfl : us = [] := List.eq_nil_of_length_eq_zero hl
    exact b x kV doc pm an cdv ct rest) (fun A outer s H vs Q E hr q => body f cdv A outer s H vs Q E hr q)
  exact G.imp fun vs H Q E ⟨hl, q⟩ => ⟨[], vs, rfl, rfl, Nat.le_trans hl (by decide), q⟩
theorem bs_common_net : BindS "common_net" "nets" s_common_net := fun _ _ _ _ _ _ _ rest => by
  cases rest <;> rfl
/-! ### several nets -/
abbrev Nt := Addr × Nat × Nat × Nat
def prodsz : List Nt → Nat
  | [] => 1
  | m :: L => m.2.1 * m.2.2.2 * prodsz L
theorem prodsz_app (L M : List Nt) : prodsz (L ++ M) = prodsz L * prodsz M := by
  induction L with
  | nil => rw [List.nil_append, prodsz, Nat.one_mul]
  | cons m L ih => simp [prodsz, ih, Nat.mul_assoc]
def NetsAt (CN : Addr) (H : Hp) (L : List Nt) : Prop := ∀ m ∈ L, NetAt CN H m.1 m.2.1 m.2.2.1 m.2.2.2
theorem NetsAt.same {H H' : Hp} {L : List Nt} (h : NetsAt CN H L) (s : Same H H') : NetsAt CN H' L := fun m hm => (h m hm).same s
structure SmallNets (L : List Nt) : Prop where
  ok : ∀ m ∈ L, Ok m.2.1 m.2.2.1 m.2.2.2
  lt : ∀ m ∈ L, m.2.1 < 4096 ∧ m.2.2.2 < 4096
  pr : ∀ i, i < L.length → prodsz (L.take i) < 4096
/-- the common net of all -/
structure CmnAll (L : List Nt) (W R Hh : Nat) : Prop where
  ok : Ok W R Hh
  iff : ∀ x y, InL W R Hh x y ↔ ∀ m ∈ L, InL m.2.1 m.2.2.1 m.2.2.2 x y
  le : W * Hh ≤ prodsz L
theorem CmnAll.nil : CmnAll [] 1 0 1 := ⟨⟨by decide, by decide⟩, fun x y => ⟨fun _ m hm => (by cases hm), fun _ => ⟨⟨y, by omega⟩, ⟨x, by omega⟩⟩⟩, by decide⟩
theorem CmnAll.snoc {L : List Nt} {m : Nt} {W R Hh W' R' Hh' : Nat} (c : CmnAll L W R Hh) (d : Cmn W R Hh m.2.1 m.2.2.1 m.2.2.2 W' R' Hh') : CmnAll (L ++ [m]) W' R' Hh' := by
  refine ⟨d.ok, fun x y => ?_, ?_⟩
  · rw [d.iff, c.iff]
    constructor
    · rintro ⟨h1, h2⟩ n hn
      rcases List.mem_append.mp hn with hn | hn
      · exact h1 n hn
      · rw [List.mem_singleton.mp hn]; exact h2
    · intro h
      exact ⟨fun n hn => h n (List.mem_append_left _ hn), h m (List.mem_append_right _ List.mem_cons_self)⟩
  · rw [prodsz_app]
    refine Nat.le_trans d.le ?_
    rw [prodsz, prodsz, Nat.mul_one, show W * m.2.1 * (Hh * m.2.2.2) = W * Hh * (m.2.1 * m.2.2.2) by rw [Nat.mul_mul_mul_comm]]
    exact Nat.mul_le_mul_right _ c.le
/-- the error's own dict -/
def errAt (H : Hp) (d : Addr) (f : Str) (v : Int) : Hp := upd H d (.xd [(f, .int v)])
def spComN (CN CE : Addr) : Sp := fun vs H Q E => ∃ (p : Addr) (L : List Nt), vs = [.ref p] ∧ H p = some (.tup (L.map fun m => V.ref m.1)) ∧ NetsAt CN H L ∧ SmallNets L ∧
  ∀ H' n (W R Hh : Nat), Same H H' → NetAt CN H' n W R Hh → CmnAll L W R Hh → (W * Hh ≤ 2000 → Q (.ref n) H') ∧ (W * Hh > 2000 → ∀ d, H' d = none → E (.ref CE) (some d) (errAt H' d "limit" 2000))
theorem ok_common_net (T : Txt K mg CN CC CW CL) (TE : TxtE K mg CI CE) : Df P w K mg base (L2.CX P w) 7 "common_net" (starSp (spComN CN CE)) := by
  refine df_starX T.d_common_net sc_common_net bs_common_net (fun f cdv A outer s H vs Q E hr h => ?_)
  obtain ⟨p, L, rfl, hp, hL, sm, k⟩ := h
  obtain ⟨mc, pw, gw, cr, cm, G⟩ := ok_whole (P := P) (w := w) (base := base) T
  obtain ⟨fA, hmA, FA⟩ := ok_and (P := P) (w := w) (base := base) T
  obtain ⟨fE, TL⟩ := TE.lm
  obtain ⟨tk2, hM⟩ := T.c_MOST_PLACES
  have n0 := sc_common_net.nd
  refine ⟨_, Evl.pss_cut (ps_set (i := 1) n0 rfl (.inl rfl) (pe_cmeth0 (E := E0) (pe_glob (v := .ref CN) (by rfl) T.g_Net rfl) cr cm G (hr.mono (by decide)) pass0))
    (Evl.pss_cut (ps_for (passes_of rfl) rfl (pi_tup (pv 0)) (pg_name (i := 2) n0 rfl (.inl rfl)) (pss_one (ps_set (i := 1) n0 rfl (.inl rfl) (pe_op (op_ownR (E := E0) (ok_and T) rfl hr (by decide) (fun _ _ _ _ z => z) T.sf_N) (pv 1) (pv 2)))))
    (Evl.pss_cut (ps_if (pt_cmpR op_gt (pe_dp (E := E0) (ok_Net_size T) T.cls_CN hr (by decide) pass0 (pv 1)) (pe_glob (v := .int 2000) (by rfl) hM ⟨tk2, rfl⟩) (nomark _)) (pss_one (ps_raiseLmE rfl TL hr (takes_of rfl rfl rfl rfl) (pa_cons (pe_glob (v := .int 2000) (by rfl) hM ⟨tk2, rfl⟩) pa_nil))) pss_nil)
    (pss_one (ps_ret (pv 1))))), ?_⟩
  refine ⟨fun σ H' => Same H H' ∧ ∃ n, NetAt CN H' n 1 0 1 ∧ σ = [some (.ref p), some (.ref n), none], ⟨rfl, rfl, fun H' n s1 hn => ⟨s1, n, hn, rfl⟩⟩, ?_⟩
  rintro σ H1 ⟨s1, n, hn, rfl⟩
  refine ⟨fun σ H' => Same H H' ∧ ∃ n W R Hh o, NetAt CN H' n W R Hh ∧ CmnAll L W R Hh ∧ σ = [some (.ref p), some (.ref n), o], ⟨_, rfl, p, rfl, ⟨_, SqT.of (s1 _ _ hp)⟩,
    for_tup (K := K) (a := p) (xs := L.map fun m => V.ref m.1) (fun i σ H' => Same H H' ∧ ∃ n W R Hh o, NetAt CN H' n W R Hh ∧ CmnAll (L.take i) W R Hh ∧ σ = [some (.ref p), some (.ref n), o]) ⟨s1, n, 1, 0, 1, _, hn, CmnAll.nil, rfl⟩ (fun i σ H' _ ⟨s2, _⟩ => SqT.of (s2 _ _ hp)) (fun i y σ H' hi ⟨s2, n, W, R, Hh, o, hn, cA, eo⟩ => ?_) (fun σ H' ⟨s2, n, W, R, Hh, o, hn, cA, eo⟩ => ?_)⟩, ?_⟩
  · subst eo
    rw [List.getElem?_map] at hi
    obtain ⟨m, hm, rfl⟩ := Option.map_eq_some_iff.mp hi
    have mm := List.mem_of_getElem? hm
    have il : i < L.length := (List.getElem?_eq_some_iff.mp hm).1
    have b1 := sm.pr i il
    have b2 := Nat.lt_of_le_of_lt cA.le b1
    have bW : W < 4096 := Nat.lt_of_le_of_lt (Nat.le_mul_of_pos_right _ cA.ok.2) b2
    have bH : Hh < 4096 := Nat.lt_of_le_of_lt (Nat.le_mul_of_pos_left _ cA.ok.pa) b2
    have hm' := (hL m mm).same s2
    obtain ⟨dx, t, h1, h2⟩ := id hn
    obtain ⟨dy, t2, h3, h4⟩ := id hm'
    refine ⟨_, rfl, _, rfl, n, m.1, dx, dy, _, _, rfl, rfl, h1, h3, n, m.1, W, R, Hh, m.2.1, m.2.2.1, m.2.2.2, rfl, hn, hm', cA.ok, sm.ok m mm, bW, bH, (sm.lt m mm).1, (sm.lt m mm).2, fun H2 r W' R' Hh' s3 hr' d => ⟨⟨r, rfl⟩, ?_⟩⟩
    refine ⟨s2.trans s3, r, W', R', Hh', _, hr', ?_, rfl⟩
    rw [List.take_succ, hm]
    exact cA.snoc d
  · rw [List.length_map, List.take_length] at cA
    exact ⟨s2, n, W, R, Hh, o, hn, cA, eo⟩
  rintro σ H2 ⟨s2, n, W, R, Hh, o, hn, cA, rfl⟩
  obtain ⟨k1, k2⟩ := k H2 n W R Hh s2 hn cA
  obtain ⟨dx, t, h1, h2⟩ := id hn
  have bW : W < 2 ^ 40 := by
    refine Nat.lt_of_le_of_lt (Nat.le_mul_of_pos_right _ cA.ok.2) (Nat.lt_of_le_of_lt cA.le ?_)
    rcases List.eq_nil_or_concat L with e | ⟨L', m, e⟩
    · rw [e]; decide
    · have il : L.length - 1 < L.length := by rw [e]; simp
      have e1 : L.take (L.length - 1) = L' := by rw [e]; simp
      have z := sm.pr _ il
      rw [e1] at z
      have mm : m ∈ L := by rw [e]; simp
      obtain ⟨z1, z2⟩ := sm.lt m mm
      have e2 : L = L' ++ [m] := by rw [e]; simp
      rw [e2, prodsz_app, prodsz, prodsz, Nat.mul_one]
      have z3 : m.2.1 * m.2.2.2 < 4096 * 4096 := Nat.mul_lt_mul'' z1 z2
      have z4 := Nat.mul_lt_mul'' z z3
      omega
  refine ⟨fun σ H' => H' = H2 ∧ W * Hh ≤ 2000 ∧ σ = [some (.ref p), some (.ref n), o], ⟨_, rfl, n, dx, _, rfl, h1, n, W, R, Hh, rfl, hn, bW, _, _, rfl, rfl, decide (((W * Hh : Nat) : Int) > 2000), rfl, ?_⟩, ?_⟩
  · refine ite2 (fun c => ?_) (fun c => ?_)
    · have c' : ((W * Hh : Nat) : Int) > 2000 := of_decide_eq_true c
      exact ⟨_, rfl, fun d hd => k2 (by omega) d hd⟩
    · have c' : ¬ ((W * Hh : Nat) : Int) > 2000 := of_decide_eq_false (by simpa using c)
      exact ⟨rfl, by omega, rfl⟩
  rintro σ H3 ⟨rfl, le, rfl⟩
  exact ⟨_, rfl, k1 le⟩
end
end CpR
set_option Elab.async false
set_option linter.all false
set_option maxRecDepth 100000
set_option maxHeartbeats 4000000
/-! E02: net_of_all, colours_at. -/
namespace CpR
open PySem PySem.Spec PyProof.Rows L2 CpM
/-- a carpet: its class, where it stands, its net, its text -/
structure Cp where
  C : Addr
  p : Addr
  W : Nat
  R : Nat
  Hh : Nat
  cs : List Nat
structure Cp.Good (CC CW : Addr) (m : Cp) : Prop where
  kin : Kin CC CW m.C
  ok : Ok m.W m.R m.Hh
  len : m.cs.length = m.W * m.Hh
  lW : m.W < 4096
  lH : m.Hh < 4096
def Cp.At (CN : Addr) (H : Hp) (m : Cp) : Prop := CarpAt CN m.C H m.p m.W m.R m.Hh m.cs
def CpsAt (CN CC CW : Addr) (H : Hp) (M : List Cp) : Prop := ∀ m ∈ M, m.Good CC CW ∧ m.At CN H
theorem CpsAt.same {CN CC CW : Addr} {H H' : Hp} {M : List Cp} (h : CpsAt CN CC CW H M) (s : Same H H') : CpsAt CN CC CW H' M := fun m hm => ⟨(h m hm).1, (h m hm).2.same s⟩
def Cp.col (m : Cp) (x y : Int) : Nat := CpM.col m.W m.R m.Hh m.cs x y
theorem NetAt.keepN {CN n : Addr} {H H' : Hp} {a b c : Nat} (h : NetAt CN H n a b c) (k : KeepN H H') : NetAt CN H' n a b c := by
  obtain ⟨dx, t, h1, h2⟩ := h
  exact ⟨dx, t, k _ _ h1 (fun xs e => nomatch e), k _ _ h2 (fun xs e => nomatch e)⟩
def prodC : List Cp → Nat
  | [] => 1
  | m :: M => m.W * m.Hh * prodC M
structure SmallC (M : List Cp) : Prop where
  pr : ∀ i, i < M.length → prodC (M.take i) < 4096
  few : M.length ≤ 100
/-- the common net of the carpets -/
structure CmnC (M : List Cp) (W R Hh : Nat) : Prop where
  ok : Ok W R Hh
  iff : ∀ x y, InL W R Hh x y ↔ ∀ m ∈ M, InL m.W m.R m.Hh x y
  le : W * Hh ≤ prodC M
section
variable {P : Program} {w : World} {K : PySem.W.Frag} {mg : Str → Option Value} {base : Heap} {CN CC CW CL CI CE : Addr}
def spNoa (CN CC CW CI CE : Addr) : Sp := fun vs H Q E => ∃ (p : Addr) (M : List Cp), vs = [.ref p] ∧ H p = some (.tup (M.map fun m => V.ref m.p)) ∧ CpsAt CN CC CW H M ∧ SmallC M ∧
  (M = [] → ∀ d, H d = none → E (.ref CI) (some d) (errAt H d "value" 0)) ∧
  (M ≠ [] → ∀ H' n (W R Hh : Nat), Same H H' → NetAt CN H' n W R Hh → CmnC M W R Hh → (W * Hh ≤ 2000 → Q (.ref n) H') ∧ (W * Hh > 2000 → ∀ d, H' d = none → E (.ref CE) (some d) (errAt H' d "limit" 2000)))
theorem ok_net_of_all (T : Txt K mg CN CC CW CL) (TE : TxtE K mg CI CE) : Df P w K mg base (L2.CX P w) 8 "net_of_all" (spNoa CN CC CW CI CE) := by
  refine df_ofX T.d_net_of_all sc_net_of_all b_net_of_all (fun vs H Q E ⟨_, _, e, _⟩ => by rw [e]; rfl) (fun f cdv A outer s H vs Q E hr h => ?_)
  obtain ⟨p, M, rfl, hp, hM, sm, k0, k1⟩ := h
  obtain ⟨fI, TI⟩ := TE.iv
  have n0 := sc_net_of_all.nd
  refine ⟨_, Evl.pss_cut (ps_if (pt_cmpR op_eq (pe_callB call_len_seq (by rfl) T.bt.len PySem.boot_len (pa_cons (pv 0) pa_nil)) pe_int (nomark _)) (pss_one (ps_raiseIvN rfl TI hr (takes_of rfl rfl rfl rfl) (pa_cons pe_int pa_nil))) pss_nil)
    (Evl.pss_cut (ps_setLc (i := 1) (own := [("carpet", 2)]) (g := gName 2) (tt := tYes) rfl n0 rfl rfl (sw_true rfl rfl rfl (by decide +kernel)) (pi_tup (pv 0)) (blkOk_by (N := N_net_of_all) (sc := defScope s_net_of_all) (by decide +kernel))
      (fun _ _ _ _ _ => pg_name (i := 2) n0 rfl (Or.inl rfl)) (fun _ _ _ _ _ => pts_nil) (fun _ _ _ _ _ => pe_dpA (S := Kin CC CW) (E := E0) (ok_net T) (kin_cls T) hr (by decide) pass0 (pv 2)))
    (pss_one (ps_ret (pe_dfS (E := E) (ok_common_net T TE) hr (by decide) (by rfl) (passes_call (takes_of rfl rfl rfl rfl) (fun _ _ _ _ h => h)) (pv 1))))), ?_⟩
  refine ⟨fun σ H' => H' = H ∧ M ≠ [] ∧ σ = [some (.ref p), none, none], ⟨_, rfl, p, _, rfl, .inr (SqT.of hp), rfl, _, rfl, ?_⟩, ?_⟩
  · rw [List.length_map]
    refine ite2 (fun c => ?_) (fun c => ?_)
    · have e : V.int (M.length : Nat) = V.int 0 := of_decide_eq_true c
      have e' : (M.length : Int) = 0 := by injection e
      have e2 : M = [] := List.eq_nil_of_length_eq_zero (by omega)
      exact ⟨_, rfl, fun d hd => k0 e2 d hd⟩
    · refine ⟨rfl, fun e => ?_, rfl⟩
      rw [e] at c
      exact c (by decide)
  rintro σ H0 ⟨rfl, hne, rfl⟩
  have kk := k1 hne
  have few := sm.few
  refine ⟨fun σ H' => Same H0 H' ∧ ∃ (l : Addr) (L : List Nt), H' l = some (.lst (L.map fun m => V.ref m.1)) ∧ NetsAt CN H' L ∧ L.map (·.2) = M.map (fun m => (m.W, m.R, m.Hh)) ∧ σ = [some (.ref p), some (.ref l), none],
    ⟨_, rfl, p, rfl, ⟨_, SqT.of hp⟩, fun D hD => lc_rel (walk_tup (K := K) (a := p) (xs := M.map fun m => V.ref m.p)) (by rw [List.length_map]; omega) hD (fun i y H' => ∃ m n, M[i]? = some m ∧ y = .ref n ∧ NetAt CN H' n m.W m.R m.Hh) (fun i y H1 H2 kp ⟨m, n, e1, e2, e3⟩ => ⟨m, n, e1, e2, e3.keepN kp⟩) (fun H' s' => SqT.of (s' _ _ hp))
      (fun i x H1 H2 hi s1 hy => ?_) (fun σ H Q Q' f h => ?_) gName_mono (fun H' ys s1 el hR eD => ?_)⟩, ?_⟩
  · obtain ⟨rfl, hx⟩ := hy
    rw [List.getElem?_map] at hx
    obtain ⟨m, hm, rfl⟩ := Option.map_eq_some_iff.mp hx
    obtain ⟨g, dx, n, h1, h2⟩ := hM m (List.mem_of_getElem? hm)
    exact ⟨rfl, _, rfl, m.C, m.p, dx, _, g.kin, rfl, s1 _ _ h1, m.p, dx, n, m.cs, rfl, s1 _ _ h1, ⟨m, n, hm, rfl, h2.same s1⟩, Same.refl _⟩
  · obtain ⟨v, e, C, a, dx, fs, hC, e1, e2, p', dx', n', cs', e3, e4, h⟩ := h
    exact ⟨v, e, C, a, dx, fs, hC, e1, e2, p', dx', n', cs', e3, e4, f _ _ h⟩
  · have key : ∀ (ys : List V) (M : List Cp), ys.length = M.length → (∀ (i : Nat) (y : V), ys[i]? = some y → ∃ (m : Cp) (n : Addr), M[i]? = some m ∧ y = V.ref n ∧ NetAt CN H' n m.W m.R m.Hh) → ∃ L : List Nt, ys = L.map (fun m => V.ref m.1) ∧ NetsAt CN H' L ∧ L.map (·.2) = M.map (fun m => (m.W, m.R, m.Hh)) := by
      intro ys
      induction ys with
      | nil => intro M hl _; cases M with
        | nil => exact ⟨[], rfl, (fun m hm => by cases hm), rfl⟩
        | cons _ _ => simp at hl
      | cons y ys ih =>
        intro M hl h
        cases M with
        | nil => simp at hl
        | cons m M =>
          obtain ⟨m', n, e1, e2, e3⟩ := h 0 y rfl
          obtain rfl : m = m' := Option.some.inj e1
          obtain ⟨L, q1, q2, q3⟩ := ih M (by simpa using hl) fun i z hz => h (i + 1) z (by simpa using hz)
          refine ⟨(n, m.W, m.R, m.Hh) :: L, by rw [List.map_cons, ← q1, e2], fun z hz => ?_, by rw [List.map_cons, List.map_cons, q3]⟩
          rcases List.mem_cons.mp hz with e | hz
          · rw [e]; exact e3
          · exact q2 z hz
    obtain ⟨L, q1, q2, q3⟩ := key ys M (by rw [el, List.length_map]) hR
    rw [q1] at eD
    exact ⟨s1, D, L, eD, q2, q3, rfl⟩
  rintro σ H1 ⟨s1, l, L, hl, hL, eL, rfl⟩
  have mem1 : ∀ m ∈ M, ∃ z ∈ L, z.2 = (m.W, m.R, m.Hh) := fun m hm => by
    have : (m.W, m.R, m.Hh) ∈ L.map (·.2) := by rw [eL]; exact List.mem_map.mpr ⟨m, hm, rfl⟩
    obtain ⟨z, hz, e⟩ := List.mem_map.mp this
    exact ⟨z, hz, e⟩
  have mem2 : ∀ z ∈ L, ∃ m ∈ M, z.2 = (m.W, m.R, m.Hh) := fun z hz => by
    have : z.2 ∈ M.map (fun m => (m.W, m.R, m.Hh)) := by rw [← eL]; exact List.mem_map.mpr ⟨z, hz, rfl⟩
    obtain ⟨m, hm, e⟩ := List.mem_map.mp this
    exact ⟨m, hm, e.symm⟩
  have eLen : L.length = M.length := by
    have := congrArg List.length eL
    simpa using this
  have pz : ∀ (L : List Nt) (M : List Cp), L.map (·.2) = M.map (fun m => (m.W, m.R, m.Hh)) → prodsz L = prodC M := by
    intro L
    induction L with
    | nil => intro M e; cases M with
      | nil => rfl
      | cons _ _ => simp at e
    | cons z L ih =>
      intro M e
      cases M with
      | nil => simp at e
      | cons m M =>
        obtain ⟨e1, e2⟩ := List.cons.inj e
        have e1' : z.2 = (m.W, m.R, m.Hh) := e1
        rw [prodsz, prodC, ih M e2, e1']
  have sn : SmallNets L := ⟨fun z hz => by obtain ⟨m, hm, e⟩ := mem2 z hz; rw [e]; exact (hM m hm).1.ok, fun z hz => by obtain ⟨m, hm, e⟩ := mem2 z hz; rw [e]; exact ⟨(hM m hm).1.lW, (hM m hm).1.lH⟩,
    fun i hi => by rw [pz (L.take i) (M.take i) (by rw [List.map_take, eL, List.map_take])]; exact sm.pr i (by omega)⟩
  refine ⟨_, rfl, l, _, rfl, .inr (SqL.of hl), by rw [List.length_map]; omega, fun q hq => ⟨q, L, rfl, upd_same, hL.same (same_new hq), sn, fun H2 n W R Hh s2 hn cA => ?_⟩⟩
  refine kk H2 n W R Hh (s1.trans ((same_new hq).trans s2)) hn ⟨cA.ok, fun x y => ?_, by rw [← pz L M eL]; exact cA.le⟩
  rw [cA.iff]
  constructor
  · intro h m hm
    obtain ⟨z, hz, e⟩ := mem1 m hm
    have := h z hz
    rw [e] at this
    exact this
  · intro h z hz
    obtain ⟨m, hm, e⟩ := mem2 z hz
    rw [e]
    exact h m hm
end
end CpR
set_option Elab.async false
set_option linter.all false
set_option maxRecDepth 100000
set_option maxHeartbeats 4000000
/-! E03: net.cell() in this text; colours_at. -/
namespace CpR
open PySem PySem.Spec PyProof.Rows L2 CpM
def cellQ : CpB.Az := ⟨⟨167, 8, 167, 9⟩, ⟨167, 11, 167, 12⟩, ⟨167, 14, 167, 15⟩, ⟨167, 8, 167, 15⟩, ⟨167, 18, 167, 22⟩, ⟨167, 18, 167, 34⟩, ⟨167, 8, 167, 34⟩, 0⟩
def cellZ : CpB.Pz := ⟨⟨168, 12, 168, 13⟩, ⟨168, 17, 168, 22⟩, ⟨168, 23, 168, 24⟩, ⟨168, 17, 168, 25⟩, ⟨169, 16, 169, 17⟩, ⟨169, 21, 169, 26⟩, ⟨169, 27, 169, 28⟩, ⟨169, 21, 169, 29⟩, ⟨170, 23, 170, 24⟩, ⟨170, 26, 170, 27⟩, ⟨170, 22, 170, 28⟩, ⟨170, 16, 170, 28⟩, ⟨170, 16, 170, 28⟩, ⟨169, 12, 170, 28⟩, ⟨168, 8, 170, 28⟩, 0⟩
theorem cell_body : defBody s_Net_cell = CpB.cellB cellQ cellZ := rfl
theorem cell_scope : GScope ["self", "a", "b", "c", "y", "x"] ["self"] (defScope s_Net_cell) := ⟨rfl, rfl, rfl, by decide +kernel, rfl, by decide +kernel, by decide +kernel⟩
theorem cell_env (L f : Addr) (cdv : Value) : CpB.CEnv2 (envOfC "Net.cell" (defScope s_Net_cell) L f cdv) where
  kind := rfl
  co := rfl
  ia := rfl
  ka := rfl
  kc := rfl
  kx := rfl
  ky := rfl
  kr := rfl
  gl := rfl
  bl := rfl
  ks := rfl
  kb := rfl
  ab := fun p => rfl
  sw := fun Q => rfl
  ss := fun Q => rfl
section
variable {K : PySem.W.Frag} {mg : Str → Option Value} {CN CC CW CL : Addr}
theorem netRd_of (T : Txt K mg CN CC CW CL) {H : Hp} {p : Addr} {a b c : Nat} (h : NetAt CN H p a b c) : CpB.NetRd K H p a b c := by
  obtain ⟨dx, t, h1, h2⟩ := h
  exact ⟨CN, dx, _, t, h1, T.cls_CN, T.na_N, lk_own t, SqT.of h2⟩
/-- the walk of the cell: new places, in order -/
theorem walk_cell {p : Addr} {a b c : Nat} : Walk (CpB.Itc K p a b c) (a * c) (fun H => CpB.NetRd K H p a b c) (fun i H x H' => ∃ q, H q = none ∧ x = .ref q ∧ H' = upd H q (.tup [.int ((i % a : Nat) : Int), .int ((i / a : Nat) : Int)])) :=
  ⟨fun i _ hi q => ⟨hi, fun _ => q⟩, fun _ _ => Nat.le_refl _, fun _ _ _ _ _ _ y => y⟩
variable {X : Cx} {tg o : Expr} {to : TE} {apos pos : Pos} {pl : Sem Bool}
theorem pi_cellT (T : Txt X.K X.mg CN CC CW CL) (hc : X.calm = true) (hr : Room 2 X.A) (ho : PE X o to)
    (ht : eval (.Call (.Attribute o "cell" apos) [] [] pos) X.env = (do
      let ov ← eval o X.env
      standAt apos.atName
      let (f, first) ← holding [ov] (getMethod ov "cell" pl)
      callWith pos f first (backTo pos (starEach [] X.env)) (backToKw pos (keywordEach [] X.env))) := by rfl) :
    CpB.PIG X tg (.Call (.Attribute o "cell" apos) [] [] pos) (CpB.iCell X.K CN to) := by
  obtain ⟨f, fd, hm, F⟩ := T.m_Net_cell
  rw [cell_body] at F
  exact CpB.pi_cell (E' := ()) hc hr ho T.cls_CN hm F cell_scope rfl (F.bindsN fun _ _ _ _ _ _ us hl => match us, hl with | [_], _ => rfl) T.bt.range (fun L cdv => cell_env L f cdv) ht
end
section
variable {P : Program} {w : World} {K : PySem.W.Frag} {mg : Str → Option Value} {base : Heap} {CN CC CW CL CI CE : Addr}
/-- the colours of the carpets at a place -/
def colsV (M : List Cp) (x y : Int) : List V := M.map fun m => V.str (sign (m.col x y))
def spCols (CN CC CW : Addr) : Sp := fun vs H Q _ => ∃ (p q : Addr) (M : List Cp) (x y : Int), vs = [.ref p, .ref q] ∧ H p = some (.tup (M.map fun m => V.ref m.p)) ∧ CpsAt CN CC CW H M ∧ M.length ≤ 100 ∧ PlAt H q x y ∧ ∀ H' r, Same H H' → H' r = some (.tup (colsV M x y)) → Q (.ref r) H'
theorem ok_colours_at (T : Txt K mg CN CC CW CL) : Df P w K mg base CX0 5 "colours_at" (spCols CN CC CW) := by
  refine df_of T.d_colours_at sc_colours_at b_colours_at (fun vs H Q E ⟨_, _, _, _, _, e, _⟩ => by rw [e]; rfl) (fun f cdv A outer s H vs Q E hr h => ?_)
  obtain ⟨p, q, M, x, y, rfl, hp, hM, few, hq, k⟩ := h
  have n0 := sc_colours_at.nd
  refine ⟨_, pss_one (ps_ret (pe_callTy call_tuple_of (by rfl) T.bt.b_tuple (by decide +kernel) (pa_cons (pe_lc (own := [("carpet", 2)]) (g := gName 2) (tt := tYes) rfl n0 (pi_tup (pv 0)) (blkOk_by (N := N_colours_at) (sc := defScope s_colours_at) (by decide +kernel))
      (fun _ _ _ _ _ => pg_name (i := 2) n0 rfl (Or.inl rfl)) (fun _ _ _ _ _ => pts_nil) (fun _ _ _ _ _ => pe_dmA (S := Kin CC CW) (E := E0) (ok_seen T) (kin_cls T) hr (by decide) pass0 (pv 2) (pa_cons (pv 1) pa_nil))) pa_nil))), ?_⟩
  refine ⟨_, rfl, p, rfl, ⟨_, SqT.of hp⟩, fun D hD => lc_rel (walk_tup (K := K) (a := p) (xs := M.map fun m => V.ref m.p)) (by rw [List.length_map]; omega) hD (fun i z _ => (colsV M x y)[i]? = some z) (fun _ _ _ _ _ r => r) (fun H' s' => SqT.of (s' _ _ hp))
    (fun i z H1 H2 hi s1 hy => ?_) (fun σ H Q Q' f h => ?_) gName_mono (fun H' ys s1 el hR eD => ?_)⟩
  · obtain ⟨rfl, hx⟩ := hy
    rw [List.getElem?_map] at hx
    obtain ⟨m, hm, rfl⟩ := Option.map_eq_some_iff.mp hx
    obtain ⟨g, hAt⟩ := hM m (List.mem_of_getElem? hm)
    obtain ⟨dx, n, h1, h2⟩ := id hAt
    have l1 := g.lW
    have l2 := g.lH
    refine ⟨rfl, _, rfl, m.C, m.p, dx, _, g.kin, rfl, s1 _ _ h1, rfl, _, rfl, m.p, q, m.W, m.R, m.Hh, m.cs, x, y, rfl, hAt.same s1, s1 _ _ hq, g.ok, by omega, by omega, g.len, fun H3 s3 => ⟨?_, s3⟩⟩
    rw [colsV, List.getElem?_map, hm]
    rfl
  · obtain ⟨v, e, C, a, dx, fs, hC, e1, e2, e3, v', e4, p', q', W, R, Hh, cs, x', y', h1, h2, h3, h4, h5, h6, h7, h⟩ := h
    exact ⟨v, e, C, a, dx, fs, hC, e1, e2, e3, v', e4, p', q', W, R, Hh, cs, x', y', h1, h2, h3, h4, h5, h6, h7, fun H' s' => f _ _ (h H' s')⟩
  · have ey : ys = colsV M x y := by
      apply List.ext_getElem?
      intro i
      by_cases lt : i < ys.length
      · rw [hR i _ (List.getElem?_eq_getElem lt), List.getElem?_eq_getElem lt]
      · rw [List.getElem?_eq_none (by omega), List.getElem?_eq_none (by rw [colsV, List.length_map]; rw [el, List.length_map] at lt; omega)]
    rw [ey] at eD
    exact ⟨D, _, rfl, .inl ⟨SqL.of eD, fun r hr' => k _ r (s1.trans (same_new hr')) upd_same⟩⟩
end
end CpR
set_option Elab.async false
set_option linter.all false
set_option maxRecDepth 100000
set_option maxHeartbeats 4000000
/-! E04: refinement, is_finer. -/
namespace CpR
open PySem PySem.Spec PyProof.Rows L2 CpM
/-- the colours of m tell those of o -/
def Refines (m o : Cp) : Prop := ∀ x y x' y', m.col x y = m.col x' y' → o.col x y = o.col x' y'
/-- a place is met in the cell of a common net, with the same colours -/
theorem CmnC.meet {M : List Cp} {W R Hh : Nat} (c : CmnC M W R Hh) (hM : ∀ m ∈ M, Ok m.W m.R m.Hh) (x y : Int) : ∃ i, i < W * Hh ∧ ∀ m ∈ M, m.col x y = m.col ((i % W : Nat) : Int) ((i / W : Nat) : Int) := by
  obtain ⟨i, hi, e⟩ := List.mem_map.mp (low_cell c.ok x y)
  refine ⟨i, List.mem_range.mp hi, fun m hm => ?_⟩
  have e1 : ((i % W : Nat) : Int) = lowX W R Hh x y := congrArg Prod.fst e
  have e2 : ((i / W : Nat) : Int) = lowY Hh y := congrArg Prod.snd e
  rw [e1, e2]
  have z := col_shift (t := m.cs) (hM m hm) ((c.iff _ _).mp (low_in c.ok x y) m hm) (lowX W R Hh x y) (lowY Hh y)
  rw [show lowX W R Hh x y + (x - lowX W R Hh x y) = x by omega, show lowY Hh y + (y - lowY Hh y) = y by omega] at z
  exact z
section
variable {P : Program} {w : World} {K : PySem.W.Frag} {mg : Str → Option Value} {base : Heap} {CN CC CW CL CI CE : Addr}
abbrev kS (c : Nat) : Key := .inr (sign c)
/-- what the dict of a refinement holds behind n places -/
structure Fnd (m o : Cp) (W n : Nat) (kvs : List (Key × V)) : Prop where
  has : ∀ i, i < n → valV kvs (kS (m.col ((i % W : Nat) : Int) ((i / W : Nat) : Int))) = some (.str (sign (o.col ((i % W : Nat) : Int) ((i / W : Nat) : Int))))
  from_ : ∀ c v, valV kvs (kS c) = some v → ∃ i, i < n ∧ c = m.col ((i % W : Nat) : Int) ((i / W : Nat) : Int) ∧ v = .str (sign (o.col ((i % W : Nat) : Int) ((i / W : Nat) : Int)))
  len : kvs.length ≤ n
def spRef (CN CC CW CE : Addr) : Sp := fun vs H Q E => ∃ (m o : Cp), vs = [.ref m.p, .ref o.p] ∧ m.Good CC CW ∧ m.At CN H ∧ o.Good CC CW ∧ o.At CN H ∧ m.W * m.Hh < 4096 ∧
  ∀ (W R Hh : Nat), CmnC [m, o] W R Hh → (W * Hh ≤ 2000 → (Refines m o → ∀ H' d, Same H H' → Q (.ref d) H') ∧ (¬ Refines m o → ∀ H', Same H H' → Q .non H')) ∧ (W * Hh > 2000 → ∀ H' d, Same H H' → H' d = none → E (.ref CE) (some d) (errAt H' d "limit" 2000))
theorem ok_refinement (T : Txt K mg CN CC CW CL) (TE : TxtE K mg CI CE) : Df P w K mg base (L2.CX P w) 9 "refinement" (spRef CN CC CW CE) := by
  refine df_ofX T.d_refinement sc_refinement b_refinement (fun vs H Q E ⟨_, _, e, _⟩ => by rw [e]; rfl) (fun f cdv A outer s H vs Q E hr h => ?_)
  obtain ⟨m, o, rfl, gm, hm, go, ho, sz, k⟩ := h
  have n0 := sc_refinement.nd
  refine ⟨_, Evl.pss_cut (ps_set (i := 2) n0 rfl (.inl rfl) pe_dnewK)
    (pss_cons (CpB.ps_forG (passes_of rfl) rfl (hr.mono (by decide)) (pi_cellT T rfl (hr.mono (by decide)) (pe_df (E := E) (ok_common_net T TE) hr (by decide) (by rfl) (passes_call (takes_of rfl rfl rfl rfl) (fun _ _ _ _ h => h))
        (pa_cons (pe_dpA (S := Kin CC CW) (E := E0) (ok_net T) (kin_cls T) hr (by decide) pass0 (pv 0)) (pa_cons (pe_dpA (S := Kin CC CW) (E := E0) (ok_net T) (kin_cls T) hr (by decide) pass0 (pv 1)) pa_nil)))) (pg_name (i := 3) n0 rfl (.inl rfl))
      (pss_cons (ps_set (i := 4) n0 rfl (.inl rfl) (pe_dmA (S := Kin CC CW) (E := E0) (ok_seen T) (kin_cls T) hr (by decide) pass0 (pv 0) (pa_cons (pv 3) pa_nil)))
      (pss_one (ps_if (pt_cmpR op_ne (pe_dsetd (pv 2) (pv 4) (pe_dmA (S := Kin CC CW) (E := E0) (ok_seen T) (kin_cls T) hr (by decide) pass0 (pv 1) (pa_cons (pv 3) pa_nil)) ⟨rfl, rfl, rfl, rfl⟩)
        (pe_dmA (S := Kin CC CW) (E := E0) (ok_seen T) (kin_cls T) hr (by decide) pass0 (pv 1) (pa_cons (pv 3) pa_nil)) (nomark _)) (pss_one (ps_ret pe_non)) pss_nil))))
    (pss_one (ps_ret (pv 2)))), ?_⟩
  refine ⟨fun σ H' => ∃ d, H d = none ∧ H' = upd H d (.dK []) ∧ σ = [some (.ref m.p), some (.ref o.p), some (.ref d), none, none], fun d hd => ⟨d, hd, rfl, rfl⟩, ?_⟩
  rintro σ H1 ⟨d, hd, rfl, rfl⟩
  have s1 : Same H (upd H d (.dK [])) := same_new hd
  obtain ⟨dm, nm, hm1, hm2⟩ := id hm
  obtain ⟨d', no, ho1, ho2⟩ := id ho
  have lm1 := gm.lW
  have lm2 := gm.lH
  have lo1 := go.lW
  have lo2 := go.lH
  refine ⟨_, rfl, m.C, m.p, dm, _, gm.kin, rfl, s1 _ _ hm1, m.p, dm, nm, m.cs, rfl, s1 _ _ hm1, _, rfl, o.C, o.p, d', _, go.kin, rfl, s1 _ _ ho1, o.p, d', no, o.cs, rfl, s1 _ _ ho1, ?_⟩
  refine ⟨by show 2 ≤ 1000; decide, fun q hq => ⟨q, [(nm, m.W, m.R, m.Hh), (no, o.W, o.R, o.Hh)], rfl, upd_same, ?_, ?_, fun H2 n W R Hh s2 hn cA => ?_⟩⟩
  · intro z hz
    have s3 := s1.trans (same_new (o := .tup [V.ref nm, V.ref no]) hq)
    rcases List.mem_cons.mp hz with e | hz
    · rw [e]; exact hm2.same s3
    · rw [List.mem_singleton.mp hz]; exact ho2.same s3
  · refine ⟨fun z hz => ?_, fun z hz => ?_, fun i hi => ?_⟩
    · rcases List.mem_cons.mp hz with e | hz
      · rw [e]; exact gm.ok
      · rw [List.mem_singleton.mp hz]; exact go.ok
    · rcases List.mem_cons.mp hz with e | hz
      · rw [e]; exact ⟨lm1, lm2⟩
      · rw [List.mem_singleton.mp hz]; exact ⟨lo1, lo2⟩
    · match i, hi with
      | 0, _ => show 1 < 4096; decide
      | 1, _ =>
        show m.W * m.Hh * 1 < 4096
        omega
  have cC : CmnC [m, o] W R Hh := by
    refine ⟨cA.ok, fun x y => ?_, cA.le⟩
    rw [cA.iff]
    constructor
    · intro h z hz
      rcases List.mem_cons.mp hz with e | hz
      · rw [e]; exact h _ List.mem_cons_self
      · rw [List.mem_singleton.mp hz]; exact h _ (List.mem_cons_of_mem _ List.mem_cons_self)
    · intro h z hz
      rcases List.mem_cons.mp hz with e | hz
      · rw [e]; exact h m List.mem_cons_self
      · rw [List.mem_singleton.mp hz]; exact h o (List.mem_cons_of_mem _ List.mem_cons_self)
  have s3 : Same (upd H d (.dK [])) H2 := (same_new hq).trans s2
  have sH := s1.trans s3
  obtain ⟨k1, k2⟩ := k W R Hh cC
  refine ⟨fun le => ?_, fun gt d hd => k2 gt H2 d sH hd⟩
  obtain ⟨kY, kN⟩ := k1 le
  have bW : W ≤ 2000 := Nat.le_trans (Nat.le_mul_of_pos_right _ cA.ok.2) le
  have bH : Hh ≤ 2000 := Nat.le_trans (Nat.le_mul_of_pos_left _ cA.ok.pa) le
  obtain ⟨dn, tn, hn1, hn2⟩ := id hn
  refine ⟨n, dn, _, W, R, Hh, rfl, hn1, rfl, netRd_of T hn, cA.ok.pa, cA.ok.2, by omega, by omega, ?_⟩
  refine for_it (walk_cell (K := K) (p := n) (a := W) (b := R) (c := Hh)) (fun i σ H' => Same H H' ∧ NetAt CN H' n W R Hh ∧ (∃ kvs, H' d = some (.dK kvs) ∧ Fnd m o W i kvs) ∧ ∃ z z', σ = [some (.ref m.p), some (.ref o.p), some (.ref d), z, z'])
    ⟨sH, hn, ⟨[], s3 _ _ upd_same, ⟨fun i hi => absurd hi (Nat.not_lt_zero _), fun c v e => (by cases e), Nat.le_refl _⟩⟩, _, _, rfl⟩ (fun i σ H' _ ⟨_, hn', _⟩ => netRd_of T hn') (fun i x σ H3 H4 hi ⟨s4, hn', ⟨kvs, hk, F⟩, z, z', eo⟩ hy => ?_) (fun σ H' ⟨s4, _, ⟨kvs, hk, F⟩, z, z', eo⟩ => ?_)
  · subst eo
    obtain ⟨q2, hq2, rfl, rfl⟩ := hy
    let x := ((i % W : Nat) : Int)
    let y := ((i / W : Nat) : Int)
    have s5 : Same H3 (upd H3 q2 (.tup [.int x, .int y])) := same_new hq2
    refine ⟨_, rfl, m.C, m.p, dm, _, gm.kin, rfl, s5 _ _ (s4 _ _ hm1), rfl, _, rfl, m.p, q2, m.W, m.R, m.Hh, m.cs, x, y, rfl, (hm.same s4).same s5, upd_same, gm.ok, by omega, by omega, gm.len, fun H5 s6 => ?_⟩
    have s7 := s5.trans s6
    refine ⟨_, rfl, d, rfl, .inl ⟨kvs, .inl (s7 _ _ hk)⟩, _, rfl, _, rfl, o.C, o.p, d', _, go.kin, rfl, s7 _ _ (s4 _ _ ho1), rfl, _, rfl, o.p, q2, o.W, o.R, o.Hh, o.cs, x, y, rfl, (ho.same s4).same s7, s6 _ _ upd_same, go.ok, by omega, by omega, go.len, fun H6 s8 => ?_⟩
    have s9 := s7.trans s8
    have lk : kvs.length < sizeLine := lt_line (by have := F.len; omega)
    refine ⟨kvs, kS (m.col x y), s9 _ _ hk, rfl, lk, fun v hv => ?_, fun hv => ?_⟩
    · -- there is one
      obtain ⟨i', hi', ec, ev⟩ := F.from_ _ v hv
      subst ev
      refine ⟨_, rfl, o.C, o.p, d', _, go.kin, rfl, s9 _ _ (s4 _ _ ho1), rfl, _, rfl, o.p, q2, o.W, o.R, o.Hh, o.cs, x, y, rfl, (ho.same s4).same s9, (s6.trans s8) _ _ upd_same, go.ok, by omega, by omega, go.len, fun H7 s10 => ⟨rfl, _, rfl, ?_⟩⟩
      rw [dec_sign]
      refine ite2 (fun ne => ?_) (fun eq => ?_)
      · have ne' : o.col ((i' % W : Nat) : Int) ((i' / W : Nat) : Int) ≠ o.col x y := by
          intro e
          have e' : CpM.col o.W o.R o.Hh o.cs x y = o.col ((i' % W : Nat) : Int) ((i' / W : Nat) : Int) := e.symm
          rw [e'] at ne
          simp at ne
        exact kN (fun r => ne' (r _ _ _ _ ec.symm)) _ (s4.trans (s9.trans s10))
      · have eq' : o.col ((i' % W : Nat) : Int) ((i' / W : Nat) : Int) = o.col x y := by
          have e2 : o.col ((i' % W : Nat) : Int) ((i' / W : Nat) : Int) = CpM.col o.W o.R o.Hh o.cs x y := by simpa using eq
          exact e2
        refine ⟨s4.trans (s9.trans s10), hn'.same (s9.trans s10), ⟨kvs, (s9.trans s10) _ _ hk, ⟨fun j hj => ?_, fun c v e => ?_, Nat.le_succ_of_le F.len⟩⟩, _, _, rfl⟩
        · by_cases lt : j < i
          · exact F.has j lt
          · have ej : j = i := by omega
            subst ej
            rw [← eq']
            exact hv
        · obtain ⟨j, hj, a1, a2⟩ := F.from_ c v e
          exact ⟨j, Nat.lt_succ_of_lt hj, a1, a2⟩
    · -- a new one
      have sU : Same H (upd H6 d (.dK (putK kvs (kS (m.col x y)) (V.str (sign (CpM.col o.W o.R o.Hh o.cs x y)))))) := fun b u e => by
        rw [upd_ne (ne_of_none e hd)]
        exact s9 _ _ (s4 _ _ e)
      have dq : ∀ b u, H6 b = some u → (∀ kv, u ≠ .dK kv) → upd H6 d (.dK (putK kvs (kS (m.col x y)) (V.str (sign (CpM.col o.W o.R o.Hh o.cs x y))))) b = some u := fun b u e hne => by
        have ne : b ≠ d := fun e2 => by
          rw [e2, s9 _ _ hk] at e
          exact hne kvs (Option.some.inj e).symm
        rw [upd_ne ne]
        exact e
      obtain ⟨dn', tn', hn1', hn2'⟩ := id hn'
      refine ⟨_, rfl, o.C, o.p, d', _, go.kin, rfl, sU _ _ ho1, rfl, _, rfl, o.p, q2, o.W, o.R, o.Hh, o.cs, x, y, rfl, ho.same sU, dq _ _ ((s6.trans s8) _ _ upd_same) (fun kv e => nomatch e), go.ok, by omega, by omega, go.len, fun H7 s10 => ⟨rfl, _, rfl, ?_⟩⟩
      rw [dec_sign]
      refine ite2 (fun ne => absurd ne (by simp)) (fun _ => ?_)
      refine ⟨sU.trans s10, ⟨dn', tn', s10 _ _ (dq _ _ (s9 _ _ hn1') (fun kv e => nomatch e)), s10 _ _ (dq _ _ (s9 _ _ hn2') (fun kv e => nomatch e))⟩, ⟨_, s10 _ _ upd_same, ⟨fun j hj => ?_, fun c v e => ?_, Nat.le_trans (length_putK _ _ _) (Nat.succ_le_succ F.len)⟩⟩, _, _, rfl⟩
      · rw [valV_put]
        by_cases lt : j < i
        · have ne : kS (m.col ((j % W : Nat) : Int) ((j / W : Nat) : Int)) ≠ kS (m.col x y) := fun e => by
            have z := F.has j lt
            rw [e, hv] at z
            cases z
          rw [if_neg ne]
          exact F.has j lt
        · have ej : j = i := by omega
          subst ej
          rw [if_pos rfl]
          rfl
      · rw [valV_put] at e
        by_cases ec : kS c = kS (m.col x y)
        · rw [if_pos ec] at e
          refine ⟨i, Nat.lt_succ_self _, ?_, (Option.some.inj e).symm⟩
          injection ec with ec
          exact sign_inj ec
        · rw [if_neg ec] at e
          obtain ⟨j, hj, a1, a2⟩ := F.from_ c v e
          exact ⟨j, Nat.lt_succ_of_lt hj, a1, a2⟩
  · subst eo
    refine ⟨_, rfl, kY (fun x y x' y' e => ?_) H' d s4⟩
    have oks : ∀ z ∈ [m, o], Ok z.W z.R z.Hh := fun z hz => by
      rcases List.mem_cons.mp hz with e | hz
      · rw [e]; exact gm.ok
      · rw [List.mem_singleton.mp hz]; exact go.ok
    obtain ⟨i, hi, ei⟩ := cC.meet oks x y
    obtain ⟨j, hj, ej⟩ := cC.meet oks x' y'
    have a1 := F.has i hi
    have a2 := F.has j hj
    rw [← ei m List.mem_cons_self] at a1
    rw [← ej m List.mem_cons_self, ← e, a1] at a2
    rw [ei o (List.mem_cons_of_mem _ List.mem_cons_self), ej o (List.mem_cons_of_mem _ List.mem_cons_self)]
    injection a2 with a2
    injection a2 with a2
    exact sign_inj a2
end
end CpR
set_option Elab.async false
set_option linter.all false
set_option maxRecDepth 100000
set_option maxHeartbeats 4000000
/-! E05: is_finer. -/
namespace CpR
open PySem PySem.Spec PyProof.Rows L2 CpM
section
variable {P : Program} {w : World} {K : PySem.W.Frag} {mg : Str → Option Value} {base : Heap} {CN CC CW CL CI CE : Addr}
def spFiner (CN CC CW CE : Addr) : Sp := fun vs H Q E => ∃ (m o : Cp), vs = [.ref m.p, .ref o.p] ∧ m.Good CC CW ∧ m.At CN H ∧ o.Good CC CW ∧ o.At CN H ∧ m.W * m.Hh < 4096 ∧
  ∀ (W R Hh : Nat), CmnC [m, o] W R Hh → (W * Hh ≤ 2000 → (Refines m o → ∀ H', Same H H' → Q (.bl true) H') ∧ (¬ Refines m o → ∀ H', Same H H' → Q (.bl false) H')) ∧ (W * Hh > 2000 → ∀ H' d, Same H H' → H' d = none → E (.ref CE) (some d) (errAt H' d "limit" 2000))
theorem ok_is_finer (T : Txt K mg CN CC CW CL) (TE : TxtE K mg CI CE) : Df P w K mg base (L2.CX P w) 10 "is_finer" (spFiner CN CC CW CE) := by
  refine df_ofX T.d_is_finer sc_is_finer b_is_finer (fun vs H Q E ⟨_, _, e, _⟩ => by rw [e]; rfl) (fun f cdv A outer s H vs Q E hr h => ?_)
  obtain ⟨m, o, rfl, gm, hm, go, ho, sz, k⟩ := h
  refine ⟨_, pss_one (ps_ret (pe_cmpR op_notN (pe_df (E := E) (ok_refinement T TE) hr (by decide) (by rfl) (passes_call (takes_of rfl rfl rfl rfl) (fun _ _ _ _ h => h)) (pa_cons (pv 0) (pa_cons (pv 1) pa_nil))) pe_non (nomark _))), ?_⟩
  refine ⟨_, rfl, _, rfl, m, o, rfl, gm, hm, go, ho, sz, fun W R Hh c => ?_⟩
  obtain ⟨k1, k2⟩ := k W R Hh c
  refine ⟨fun le => ⟨fun r H' d s1 => ⟨rfl, ?_⟩, fun r H' s1 => ⟨rfl, ?_⟩⟩, fun gt H' d s1 hd => k2 gt H' d s1 hd⟩
  · exact (k1 le).1 r H' s1
  · exact (k1 le).2 r H' s1
end
end CpR
set_option Elab.async false
set_option linter.all false
set_option maxRecDepth 100000
set_option maxHeartbeats 4000000
/-! CrD: max and min of a list of two (rows, texts), of two texts. Printed by mm.py. -/
namespace CpR
open PySem PySem.Spec PyProof.Rows L2 CpS
section
variable {prog : Program} {w : World} {A : Around} {E : Value → Shared → Prop} {s : Shared}
abbrev Kp (s : Shared) (h' : Heap) : Prop := ∀ b o, s.heap.get? b = some o → h'.get? b = some o

/-- the loop of max behind its first item, one item left -/
theorem max_tail {I S l : Addr} {u v : Value} {t : Bool} {c : Nat} {R : Result → Shared → Prop} {s0 : Shared} (W : Walks prog w A.in1 I [I, l] [I] 2 (fun i x => #[u, v][i]? = some x) (fun i h => h.IsListIter I l i ∧ h.IsList l #[u, v]))
    (hSI : S ≠ I) (hSl : S ≠ l) (hI : s0.heap.objs.size ≤ I) (hS0 : s0.heap.objs.size ≤ S) (kp : Kp s0 s.heap) (hst : s.heap.IsListIter I l 1 ∧ s.heap.IsList l #[u, v])
    (hS : s.heap.get? S = some { cls := .type "list", dict := none, data := .seq #[u, u] c, slots := #[] })
    (hc : ∀ s' : Shared, Kp s0 s'.heap → ∀ (Q' E' : Value → Shared → Prop), Q' (.bool t) s' → wpAny (model prog w) A.in1 (richCompare .Gt v u) Q' E' s')
    (h : ∀ h' tk, Kp s0 h' → R (.ok (.ret (if t then v else u))) { s with heap := h', toks := tk }) :
    codeAny (model prog w) A (.builtin "max.loop" ⟨[.ref I, .none, .ref S], []⟩) R s := by
  have hname : (toString "max" ++ toString ".loop" : String) = "max.loop" := by decide
  have out : ∀ {b : Addr} {o : Obj}, s0.heap.get? b = some o → b ≠ I ∧ b ≠ S := fun e => by
    have lt := Heap.lt_size e
    exact ⟨Nat.ne_of_lt (Nat.lt_of_lt_of_le lt hI), Nat.ne_of_lt (Nat.lt_of_lt_of_le lt hS0)⟩
  -- the end
  have fin : ∀ (s1 : Shared) (x : Value) (c1 : Nat), Kp s0 s1.heap → (s1.heap.IsListIter I l 2 ∧ s1.heap.IsList l #[u, v]) → s1.heap.get? S = some { cls := .type "list", dict := none, data := .seq #[x, x] c1, slots := #[] } →
      (∀ h' tk, Kp s0 h' → R (.ok (.ret x)) { s1 with heap := h', toks := tk }) → codeAny (model prog w) A (.builtin "max.loop" ⟨[.ref I, .none, .ref S], []⟩) R s1 := by
    intro s1 x c1 k1 st1 hS1 r1
    refine codeAny_builtin F.entry_max_loop ?_
    rw [Around.under_plainId F.plain_max_loop _]
    show wpAny _ A.in1 (seqItems? (.ref S) >>= _) _ _ s1
    refine wpAny_bind (wpAny_seqItems hS1 rfl ?_)
    show wpAny _ A.in1 (tryCatch (pyNext (.ref I)) _ >>= _) _ _ s1
    refine wpAny_bind (wpAny_tryCatch (W.done s1 _ _ st1 fun h' tk hk' => ?_))
    have hS' := hk' S _ (by simp [hSI]) hS1
    show wpAny _ A.in1 (updateSeq S (fun _ => #[]) >>= _) _ _ _
    refine wpAny_bind ?_
    refine wpAny_updateSeq hS' rfl (wpAny_bind (wpAny_letGo (wpAny_pure ?_)))
    exact r1 _ tk fun b o e => (Heap.get?_update_other _ _ (out e).2.symm).trans (hk' b o (by simp [(out e).1]) (k1 b o e))
  refine codeAny_builtin F.entry_max_loop ?_
  rw [Around.under_plainId F.plain_max_loop _]
  show wpAny _ A.in1 (seqItems? (.ref S) >>= _) _ _ s
  refine wpAny_bind (wpAny_seqItems hS rfl ?_)
  show wpAny _ A.in1 (tryCatch (pyNext (.ref I)) _ >>= _) _ _ s
  refine wpAny_bind (wpAny_tryCatch (W.item 1 s _ _ (Nat.lt_succ_self 1) hst fun v' h' tk hP hst' hk' => ?_))
  obtain rfl : v = v' := by simpa using hP
  have hS' := hk' S _ (by simp [hSI]) hS
  have k2 : Kp s0 h' := fun b o e => hk' b o (by simp [(out e).1]) (kp b o e)
  show wpAny _ A.in1 (tryCatch (holding [v, v] (richCompare .Gt v u >>= _)) _ >>= _) _ _ _
  refine wpAny_bind (wpAny_tryCatch (wpAny_holding (wpAny_bind (hc _ k2 _ _ ?_))))
  refine wpAny_bind (wpAny_holding (wpAny_truthy_bool ?_))
  refine wpAny_bind (wpAny_letGo (wpAny_pure ?_))
  cases t with
  | true =>
    simp only [if_true]
    refine wpAny_bind ?_
    refine wpAny_updateSeq hS' rfl (wpAny_bind (wpAny_letGo ?_))
    rw [hname]
    refine wpAny_pure ⟨plainId_quiet F.plain_max_loop _, fin _ v _ (fun b o e => (Heap.get?_update_other _ _ (out e).2.symm).trans (k2 b o e)) (W.frame _ _ _ hst' fun b hbf o e => ?_) (Heap.get?_update_self _ hS' rfl) fun h'' tk'' k => h h'' tk'' k⟩
    refine (Heap.get?_update_other _ _ (fun q : S = b => ?_)).trans e
    have z : b = I ∨ b = l := by simpa using hbf
    rcases z with z | z
    · exact hSI (q.trans z)
    · exact hSl (q.trans z)
  | false =>
    simp only [Bool.false_eq_true, if_false]
    refine wpAny_bind (wpAny_letGo ?_)
    rw [hname]
    exact wpAny_pure ⟨plainId_quiet F.plain_max_loop _, fin _ u c k2 hst' hS' fun h'' tk'' k => h h'' tk'' k⟩
theorem max_list {l : Addr} {u v : Value} {t : Bool} {Q : Value → Shared → Prop} (hh : A.handled = none) (hl : s.heap.IsList l #[u, v])
    (hc : ∀ s' : Shared, Kp s s'.heap → ∀ (Q' E' : Value → Shared → Prop), Q' (.bool t) s' → wpAny (model prog w) A.in1 (richCompare .Gt v u) Q' E' s')
    (h : ∀ h' tk, Kp s h' → Q (if t then v else u) { s with heap := h', toks := tk }) : wpAny (model prog w) A (call (.builtin "max") [.ref l]) Q E s := by
  have hname : (toString "max" ++ toString ".loop" : String) = "max.loop" := by decide
  have hlt : l < s.heap.objs.size := by obtain ⟨_, e, _⟩ := hl; exact Heap.lt_size e
  refine call_function_tree F.kind_max F.plain_max F.entry_max (F.args_max1 _) ?_
  show wpAny _ A.in1 (Builtin.Builtins.bindParams "max" ["key", "default"] 0 ⟨[], []⟩ >>= _) _ _ s
  refine wpAny_bind (wpAny_of_eq (show Builtin.Builtins.bindParams "max" ["key", "default"] 0 ⟨[], []⟩ = pure [none, none] from rfl) ?_)
  refine wpAny_bind (wpAny_pure ?_)
  refine wpAny_bind (wpAny_pyIter_list hl ?_)
  refine wpAny_bind (wpAny_newObj_type ?_)
  rw [hname]
  let I := s.heap.objs.size
  have W := Walks.list (prog := prog) (w := w) (A := A.in1) hh I l (Nat.ne_of_lt hlt) #[u, v]
  let h1 := s.heap.push { cls := .type "list_iterator", data := .fields #[.ref l, .int 0 0] }
  let h2 := h1.push { cls := .type "list", data := .seq #[] }
  let S := h1.objs.size
  have hSz : S = I + 1 := Heap.size_push ..
  have st0 : h2.IsListIter I l 0 ∧ h2.IsList l #[u, v] := ⟨⟨_, Heap.get?_push_of_some _ (Heap.get?_push_size _ rfl), rfl, rfl⟩, (hl.push _).push _⟩
  have hIS : I < S := by rw [hSz]; exact Nat.lt_succ_self _
  have hSI : S ≠ I := Nat.ne_of_gt hIS
  have hSl : S ≠ l := Nat.ne_of_gt (Nat.lt_trans hlt hIS)
  have k0 : Kp s h2 := fun b o e => Heap.get?_push_of_some _ (Heap.get?_push_of_some _ e)
  have hS0 : h2.get? S = some { cls := .type "list", dict := none, data := .seq #[] 0, slots := #[] } := Heap.get?_push_size _ rfl
  refine wpAny_pure ⟨plainId_quiet F.plain_max_loop _, ?_⟩
  show codeAny (model prog w) A (.builtin "max.loop" ⟨[.ref I, .none, .ref S], []⟩) _ { s with heap := h2 }
  refine codeAny_builtin F.entry_max_loop ?_
  rw [Around.under_plainId F.plain_max_loop _]
  show wpAny _ A.in1 (seqItems? (.ref S) >>= _) _ _ _
  refine wpAny_bind (wpAny_seqItems hS0 rfl ?_)
  show wpAny _ A.in1 (tryCatch (pyNext (.ref I)) _ >>= _) _ _ _
  refine wpAny_bind (wpAny_tryCatch (W.item 0 _ _ _ (Nat.succ_pos 1) st0 fun v' h' tk hP hst' hk' => ?_))
  obtain rfl : u = v' := by simpa using hP
  have hS' := hk' S _ (by simp [hSI]) hS0
  show wpAny _ A.in1 (updateSeq S (fun _ => #[u, u]) >>= _) _ _ _
  refine wpAny_bind ?_
  refine wpAny_updateSeq hS' rfl ?_
  rw [hname]
  refine wpAny_pure ⟨plainId_quiet F.plain_max_loop _, max_tail (s0 := s) (t := t) W hSI hSl (Nat.le_refl _) (Nat.le_of_lt hIS) (fun b o e => ?_) (W.frame _ _ _ hst' fun b hbf o e => ?_) (Heap.get?_update_self _ hS' rfl) hc fun h'' tk'' k => h h'' tk'' k⟩
  · have lt := Heap.lt_size e
    exact (Heap.get?_update_other _ _ (Nat.ne_of_gt (Nat.lt_trans lt hIS))).trans (hk' b o (by simpa using Nat.ne_of_lt lt) (k0 b o e))
  · refine (Heap.get?_update_other _ _ (fun q : S = b => ?_)).trans e
    have z : b = I ∨ b = l := by simpa using hbf
    rcases z with z | z
    · exact hSI (q.trans z)
    · exact hSl (q.trans z)

/-- the loop of min behind its first item, one item left -/
theorem min_tail {I S l : Addr} {u v : Value} {t : Bool} {c : Nat} {R : Result → Shared → Prop} {s0 : Shared} (W : Walks prog w A.in1 I [I, l] [I] 2 (fun i x => #[u, v][i]? = some x) (fun i h => h.IsListIter I l i ∧ h.IsList l #[u, v]))
    (hSI : S ≠ I) (hSl : S ≠ l) (hI : s0.heap.objs.size ≤ I) (hS0 : s0.heap.objs.size ≤ S) (kp : Kp s0 s.heap) (hst : s.heap.IsListIter I l 1 ∧ s.heap.IsList l #[u, v])
    (hS : s.heap.get? S = some { cls := .type "list", dict := none, data := .seq #[u, u] c, slots := #[] })
    (hc : ∀ s' : Shared, Kp s0 s'.heap → ∀ (Q' E' : Value → Shared → Prop), Q' (.bool t) s' → wpAny (model prog w) A.in1 (richCompare .Lt v u) Q' E' s')
    (h : ∀ h' tk, Kp s0 h' → R (.ok (.ret (if t then v else u))) { s with heap := h', toks := tk }) :
    codeAny (model prog w) A (.builtin "min.loop" ⟨[.ref I, .none, .ref S], []⟩) R s := by
  have hname : (toString "min" ++ toString ".loop" : String) = "min.loop" := by decide
  have out : ∀ {b : Addr} {o : Obj}, s0.heap.get? b = some o → b ≠ I ∧ b ≠ S := fun e => by
    have lt := Heap.lt_size e
    exact ⟨Nat.ne_of_lt (Nat.lt_of_lt_of_le lt hI), Nat.ne_of_lt (Nat.lt_of_lt_of_le lt hS0)⟩
  -- the end
  have fin : ∀ (s1 : Shared) (x : Value) (c1 : Nat), Kp s0 s1.heap → (s1.heap.IsListIter I l 2 ∧ s1.heap.IsList l #[u, v]) → s1.heap.get? S = some { cls := .type "list", dict := none, data := .seq #[x, x] c1, slots := #[] } →
      (∀ h' tk, Kp s0 h' → R (.ok (.ret x)) { s1 with heap := h', toks := tk }) → codeAny (model prog w) A (.builtin "min.loop" ⟨[.ref I, .none, .ref S], []⟩) R s1 := by
    intro s1 x c1 k1 st1 hS1 r1
    refine codeAny_builtin F.entry_min_loop ?_
    rw [Around.under_plainId F.plain_min_loop _]
    show wpAny _ A.in1 (seqItems? (.ref S) >>= _) _ _ s1
    refine wpAny_bind (wpAny_seqItems hS1 rfl ?_)
    show wpAny _ A.in1 (tryCatch (pyNext (.ref I)) _ >>= _) _ _ s1
    refine wpAny_bind (wpAny_tryCatch (W.done s1 _ _ st1 fun h' tk hk' => ?_))
    have hS' := hk' S _ (by simp [hSI]) hS1
    show wpAny _ A.in1 (updateSeq S (fun _ => #[]) >>= _) _ _ _
    refine wpAny_bind ?_
    refine wpAny_updateSeq hS' rfl (wpAny_bind (wpAny_letGo (wpAny_pure ?_)))
    exact r1 _ tk fun b o e => (Heap.get?_update_other _ _ (out e).2.symm).trans (hk' b o (by simp [(out e).1]) (k1 b o e))
  refine codeAny_builtin F.entry_min_loop ?_
  rw [Around.under_plainId F.plain_min_loop _]
  show wpAny _ A.in1 (seqItems? (.ref S) >>= _) _ _ s
  refine wpAny_bind (wpAny_seqItems hS rfl ?_)
  show wpAny _ A.in1 (tryCatch (pyNext (.ref I)) _ >>= _) _ _ s
  refine wpAny_bind (wpAny_tryCatch (W.item 1 s _ _ (Nat.lt_succ_self 1) hst fun v' h' tk hP hst' hk' => ?_))
  obtain rfl : v = v' := by simpa using hP
  have hS' := hk' S _ (by simp [hSI]) hS
  have k2 : Kp s0 h' := fun b o e => hk' b o (by simp [(out e).1]) (kp b o e)
  show wpAny _ A.in1 (tryCatch (holding [v, v] (richCompare .Lt v u >>= _)) _ >>= _) _ _ _
  refine wpAny_bind (wpAny_tryCatch (wpAny_holding (wpAny_bind (hc _ k2 _ _ ?_))))
  refine wpAny_bind (wpAny_holding (wpAny_truthy_bool ?_))
  refine wpAny_bind (wpAny_letGo (wpAny_pure ?_))
  cases t with
  | true =>
    simp only [if_true]
    refine wpAny_bind ?_
    refine wpAny_updateSeq hS' rfl (wpAny_bind (wpAny_letGo ?_))
    rw [hname]
    refine wpAny_pure ⟨plainId_quiet F.plain_min_loop _, fin _ v _ (fun b o e => (Heap.get?_update_other _ _ (out e).2.symm).trans (k2 b o e)) (W.frame _ _ _ hst' fun b hbf o e => ?_) (Heap.get?_update_self _ hS' rfl) fun h'' tk'' k => h h'' tk'' k⟩
    refine (Heap.get?_update_other _ _ (fun q : S = b => ?_)).trans e
    have z : b = I ∨ b = l := by simpa using hbf
    rcases z with z | z
    · exact hSI (q.trans z)
    · exact hSl (q.trans z)
  | false =>
    simp only [Bool.false_eq_true, if_false]
    refine wpAny_bind (wpAny_letGo ?_)
    rw [hname]
    exact wpAny_pure ⟨plainId_quiet F.plain_min_loop _, fin _ u c k2 hst' hS' fun h'' tk'' k => h h'' tk'' k⟩
theorem min_list {l : Addr} {u v : Value} {t : Bool} {Q : Value → Shared → Prop} (hh : A.handled = none) (hl : s.heap.IsList l #[u, v])
    (hc : ∀ s' : Shared, Kp s s'.heap → ∀ (Q' E' : Value → Shared → Prop), Q' (.bool t) s' → wpAny (model prog w) A.in1 (richCompare .Lt v u) Q' E' s')
    (h : ∀ h' tk, Kp s h' → Q (if t then v else u) { s with heap := h', toks := tk }) : wpAny (model prog w) A (call (.builtin "min") [.ref l]) Q E s := by
  have hname : (toString "min" ++ toString ".loop" : String) = "min.loop" := by decide
  have hlt : l < s.heap.objs.size := by obtain ⟨_, e, _⟩ := hl; exact Heap.lt_size e
  refine call_function_tree F.kind_min F.plain_min F.entry_min (F.args_min1 _) ?_
  show wpAny _ A.in1 (Builtin.Builtins.bindParams "min" ["key", "default"] 0 ⟨[], []⟩ >>= _) _ _ s
  refine wpAny_bind (wpAny_of_eq (show Builtin.Builtins.bindParams "min" ["key", "default"] 0 ⟨[], []⟩ = pure [none, none] from rfl) ?_)
  refine wpAny_bind (wpAny_pure ?_)
  refine wpAny_bind (wpAny_pyIter_list hl ?_)
  refine wpAny_bind (wpAny_newObj_type ?_)
  rw [hname]
  let I := s.heap.objs.size
  have W := Walks.list (prog := prog) (w := w) (A := A.in1) hh I l (Nat.ne_of_lt hlt) #[u, v]
  let h1 := s.heap.push { cls := .type "list_iterator", data := .fields #[.ref l, .int 0 0] }
  let h2 := h1.push { cls := .type "list", data := .seq #[] }
  let S := h1.objs.size
  have hSz : S = I + 1 := Heap.size_push ..
  have st0 : h2.IsListIter I l 0 ∧ h2.IsList l #[u, v] := ⟨⟨_, Heap.get?_push_of_some _ (Heap.get?_push_size _ rfl), rfl, rfl⟩, (hl.push _).push _⟩
  have hIS : I < S := by rw [hSz]; exact Nat.lt_succ_self _
  have hSI : S ≠ I := Nat.ne_of_gt hIS
  have hSl : S ≠ l := Nat.ne_of_gt (Nat.lt_trans hlt hIS)
  have k0 : Kp s h2 := fun b o e => Heap.get?_push_of_some _ (Heap.get?_push_of_some _ e)
  have hS0 : h2.get? S = some { cls := .type "list", dict := none, data := .seq #[] 0, slots := #[] } := Heap.get?_push_size _ rfl
  refine wpAny_pure ⟨plainId_quiet F.plain_min_loop _, ?_⟩
  show codeAny (model prog w) A (.builtin "min.loop" ⟨[.ref I, .none, .ref S], []⟩) _ { s with heap := h2 }
  refine codeAny_builtin F.entry_min_loop ?_
  rw [Around.under_plainId F.plain_min_loop _]
  show wpAny _ A.in1 (seqItems? (.ref S) >>= _) _ _ _
  refine wpAny_bind (wpAny_seqItems hS0 rfl ?_)
  show wpAny _ A.in1 (tryCatch (pyNext (.ref I)) _ >>= _) _ _ _
  refine wpAny_bind (wpAny_tryCatch (W.item 0 _ _ _ (Nat.succ_pos 1) st0 fun v' h' tk hP hst' hk' => ?_))
  obtain rfl : u = v' := by simpa using hP
  have hS' := hk' S _ (by simp [hSI]) hS0
  show wpAny _ A.in1 (updateSeq S (fun _ => #[u, u]) >>= _) _ _ _
  refine wpAny_bind ?_
  refine wpAny_updateSeq hS' rfl ?_
  rw [hname]
  refine wpAny_pure ⟨plainId_quiet F.plain_min_loop _, min_tail (s0 := s) (t := t) W hSI hSl (Nat.le_refl _) (Nat.le_of_lt hIS) (fun b o e => ?_) (W.frame _ _ _ hst' fun b hbf o e => ?_) (Heap.get?_update_self _ hS' rfl) hc fun h'' tk'' k => h h'' tk'' k⟩
  · have lt := Heap.lt_size e
    exact (Heap.get?_update_other _ _ (Nat.ne_of_gt (Nat.lt_trans lt hIS))).trans (hk' b o (by simpa using Nat.ne_of_lt lt) (k0 b o e))
  · refine (Heap.get?_update_other _ _ (fun q : S = b => ?_)).trans e
    have z : b = I ∨ b = l := by simpa using hbf
    rcases z with z | z
    · exact hSI (q.trans z)
    · exact hSl (q.trans z)
end
end CpR
set_option Elab.async false
set_option linter.all false
set_option maxRecDepth 100000
set_option maxHeartbeats 4000000
/-! CrE: the rules max([row, row]), min([row, row]), min(text, text). -/
namespace CpR
open PySem PySem.Spec PyProof.Rows L2 CpS
abbrev kAt (k : List Key) (j : Nat) : Key := k.getD j (.inl 0)
theorem lex_shift (e r e' r' : Nat → Bool) (z : Bool) (he : ∀ j, e (j + 1) = e' j) (hr : ∀ j, r (j + 1) = r' j) : ∀ (n i : Nat), Ob.lexAt e r z (i + 1) n = Ob.lexAt e' r' z i n
  | 0, _ => rfl
  | n + 1, i => by rw [Ob.lexAt_succ, Ob.lexAt_succ, he, hr, lex_shift e r e' r' z he hr n (i + 1)]
theorem lex_rlt : ∀ {x y : List Key}, shp x = shp y → Ob.lexAt (fun j => decide (kAt x j = kAt y j)) (fun j => kLt (kAt x j) (kAt y j)) false 0 x.length = rLt x y
  | [], [], _ => rfl
  | [], y :: ys, h => by simp [shp] at h
  | x :: xs, [], h => by simp [shp] at h
  | x :: xs, y :: ys, h => by
    have h' : shp xs = shp ys := by simpa [shp] using (List.cons.inj h).2
    have ih := lex_rlt h'
    rw [List.length_cons, Ob.lexAt_succ, lex_shift _ _ (fun j => decide (kAt xs j = kAt ys j)) (fun j => kLt (kAt xs j) (kAt ys j)) _ (fun j => rfl) (fun j => rfl), ih]
    show (if decide (x = y) = true then rLt xs ys else kLt x y) = if x = y then rLt xs ys else kLt x y
    by_cases e : x = y
    · rw [if_pos e, if_pos (decide_eq_true e)]
    · rw [if_neg e, if_neg (by simpa using e)]
theorem shp_len {x y : List Key} (h : shp x = shp y) : x.length = y.length := by
  have := congrArg List.length h
  simpa [shp] using this
theorem shp_at : ∀ {x y : List Key}, shp x = shp y → ∀ j, shp [kAt x j] = shp [kAt y j]
  | [], [], _, _ => rfl
  | [], y :: ys, h, _ => by simp [shp] at h
  | x :: xs, [], h, _ => by simp [shp] at h
  | x :: xs, y :: ys, h, 0 => by
    have := (List.cons.inj h).1
    exact congrArg (fun z => [z]) this
  | x :: xs, y :: ys, h, j + 1 => shp_at (x := xs) (y := ys) (List.cons.inj h).2 j
section
variable {P : Program} {w : World} {A : Around} {s : Shared}
theorem item_at : ∀ {k : List Key} {us : List Value}, ItemsAre (mixKind P w) k us → us.length = k.length ∧ ∀ j (h : j < us.length), ((∃ i t, kAt k j = .inl i ∧ us[j] = .int i t) ∨ ∃ x t, kAt k j = .inr x ∧ us[j] = .str x t)
  | _, _, .nil => ⟨rfl, fun j h => absurd h (Nat.not_lt_zero _)⟩
  | n :: k, u :: us, .cons r t => by
    obtain ⟨e, g⟩ := item_at t
    refine ⟨by rw [List.length_cons, List.length_cons, e], fun j h => ?_⟩
    match j, h with
    | 0, _ =>
      rcases keyIs_shape r with ⟨i, t, e1, e2⟩ | ⟨x, t, e1, e2⟩
      · exact .inl ⟨i, t, e1, e2⟩
      · exact .inr ⟨x, t, e1, e2⟩
    | j + 1, h => exact g j (Nat.lt_of_succ_lt_succ h)
theorem str_eq_dec (x y : Str) : (x == y) = decide (x = y) := by
  by_cases q : x = y
  · rw [decide_eq_true q]; exact beq_iff_eq.mpr q
  · rw [decide_eq_false q]; exact beq_eq_false_iff_ne.mpr q
theorem int_eq_dec (x y : Int) : (x == y) = decide (x = y) := by
  by_cases q : x = y
  · rw [decide_eq_true q]; exact beq_iff_eq.mpr q
  · rw [decide_eq_false q]; exact beq_eq_false_iff_ne.mpr q
theorem key_eqAt {k1 k2 : Key} {v1 v2 : Value} (hs : shp [k1] = shp [k2]) (h1 : (∃ i t, k1 = .inl i ∧ v1 = .int i t) ∨ ∃ x t, k1 = .inr x ∧ v1 = .str x t) (h2 : (∃ i t, k2 = .inl i ∧ v2 = .int i t) ∨ ∃ x t, k2 = .inr x ∧ v2 = .str x t) : SeqAt.EqAt A s v1 v2 (decide (k1 = k2)) := by
  rcases h1 with ⟨i, t, rfl, rfl⟩ | ⟨x, t, rfl, rfl⟩ <;> rcases h2 with ⟨i2, t2, rfl, rfl⟩ | ⟨x2, t2, rfl, rfl⟩
  · have z := SeqAt.EqAt.int_int (A := A) (s := s) i t i2 t2
    rw [int_eq_dec] at z
    rw [show decide ((Sum.inl i : Key) = Sum.inl i2) = decide (i = i2) from by simp]
    exact z
  · simp [shp] at hs
  · simp [shp] at hs
  · have z := SeqAt.EqAt.str_str (A := A) (s := s) x t x2 t2
    rw [str_eq_dec] at z
    rw [show decide ((Sum.inr x : Key) = Sum.inr x2) = decide (x = x2) from by simp]
    exact z
theorem key_lt {k1 k2 : Key} {v1 v2 : Value} (hs : shp [k1] = shp [k2]) (h1 : (∃ i t, k1 = .inl i ∧ v1 = .int i t) ∨ ∃ x t, k1 = .inr x ∧ v1 = .str x t) (h2 : (∃ i t, k2 = .inl i ∧ v2 = .int i t) ∨ ∃ x t, k2 = .inr x ∧ v2 = .str x t) : Ob.RcOp .Lt A s v1 v2 (kLt k1 k2) := by
  rcases h1 with ⟨i, t, rfl, rfl⟩ | ⟨x, t, rfl, rfl⟩ <;> rcases h2 with ⟨i2, t2, rfl, rfl⟩ | ⟨x2, t2, rfl, rfl⟩
  · exact Ob.RcOp.lt_int _ _ _ _
  · simp [shp] at hs
  · simp [shp] at hs
  · exact fun _ _ _ _ q => P.lt_str q
theorem key_gt {k1 k2 : Key} {v1 v2 : Value} (hs : shp [k1] = shp [k2]) (h1 : (∃ i t, k1 = .inl i ∧ v1 = .int i t) ∨ ∃ x t, k1 = .inr x ∧ v1 = .str x t) (h2 : (∃ i t, k2 = .inl i ∧ v2 = .int i t) ∨ ∃ x t, k2 = .inr x ∧ v2 = .str x t) : Ob.RcOp .Gt A s v1 v2 (kLt k2 k1) := by
  rcases h1 with ⟨i, t, rfl, rfl⟩ | ⟨x, t, rfl, rfl⟩ <;> rcases h2 with ⟨i2, t2, rfl, rfl⟩ | ⟨x2, t2, rfl, rfl⟩
  · exact Ob.RcOp.gt_int _ _ _ _
  · simp [shp] at hs
  · simp [shp] at hs
  · exact fun _ _ _ _ q => P.gt_str q
theorem row_lt {p q : Addr} {x y : List Key} (hs : shp x = shp y) (hp : RowAt P w s.heap x p) (hq : RowAt P w s.heap y q) (hu : A.units < cLine) : Ob.RcOp .Lt A s (.ref p) (.ref q) (rLt x y) := by
  obtain ⟨o, its, n, ho, hc, hd, r⟩ := hp
  obtain ⟨o2, its2, n2, ho2, hc2, hd2, r2⟩ := hq
  obtain ⟨l1, g1⟩ := item_at r
  obtain ⟨l2, g2⟩ := item_at r2
  have e := shp_len hs
  have z1 : its.size = x.length := by rw [← l1]; simp
  have z2 : its2.size = y.length := by rw [← l2]; simp
  have R := Ob.RcOp.tuples_lt (A := A) (s := s) (e := fun j => decide (kAt x j = kAt y j)) (r := fun j => kLt (kAt x j) (kAt y j)) ⟨o, ho, hc, n, hd⟩ ⟨o2, ho2, hc2, n2, hd2⟩ hu
    (fun j h1 h2 => key_eqAt (shp_at hs j) (g1 j h1) (g2 j h2))
    (fun j h1 h2 _ => key_lt (shp_at hs j) (g1 j h1) (g2 j h2))
  rw [z1, z2, ← e, Nat.min_self, decide_eq_false (Nat.lt_irrefl _), lex_rlt hs] at R
  exact R
theorem lex_cgr {e e' r r' : Nat → Bool} {z : Bool} (he : ∀ j, e j = e' j) (hr : ∀ j, r j = r' j) (n i : Nat) : Ob.lexAt e r z i n = Ob.lexAt e' r' z i n := by
  rw [show e = e' from funext he, show r = r' from funext hr]
theorem row_gt {p q : Addr} {x y : List Key} (hs : shp x = shp y) (hp : RowAt P w s.heap x p) (hq : RowAt P w s.heap y q) (hu : A.units < cLine) : Ob.RcOp .Gt A s (.ref p) (.ref q) (rLt y x) := by
  obtain ⟨o, its, n, ho, hc, hd, r⟩ := hp
  obtain ⟨o2, its2, n2, ho2, hc2, hd2, r2⟩ := hq
  obtain ⟨l1, g1⟩ := item_at r
  obtain ⟨l2, g2⟩ := item_at r2
  have e := shp_len hs
  have z1 : its.size = x.length := by rw [← l1]; simp
  have z2 : its2.size = y.length := by rw [← l2]; simp
  have R := Ob.RcOp.tuples_gt (A := A) (s := s) (e := fun j => decide (kAt x j = kAt y j)) (r := fun j => kLt (kAt y j) (kAt x j)) ⟨o, ho, hc, n, hd⟩ ⟨o2, ho2, hc2, n2, hd2⟩ hu
    (fun j h1 h2 => key_eqAt (shp_at hs j) (g1 j h1) (g2 j h2))
    (fun j h1 h2 _ => key_gt (shp_at hs j) (g1 j h1) (g2 j h2))
  rw [z1, z2, ← e, Nat.min_self, decide_eq_false (Nat.lt_irrefl _)] at R
  rw [← lex_rlt hs.symm, ← e]
  rw [lex_cgr (fun j => by rw [show decide (kAt y j = kAt x j) = decide (kAt x j = kAt y j) from by simp [eq_comm]]) (fun j => rfl)]
  exact R
end
section
variable {X : Cx}
def rMaxR (K : PySem.W.Frag) : List V → Hp → VK → Prop := fun vs H Q => ∃ (a p q : Addr) (x y : List Key), vs = [.ref a] ∧ SqL K H a [.ref p, .ref q] ∧ SqT K H p (x.map kV) ∧ SqT K H q (y.map kV) ∧ shp x = shp y ∧ Q (.ref (if rLt x y then q else p)) H
def rMinR (K : PySem.W.Frag) : List V → Hp → VK → Prop := fun vs H Q => ∃ (a p q : Addr) (x y : List Key), vs = [.ref a] ∧ SqL K H a [.ref p, .ref q] ∧ SqT K H p (x.map kV) ∧ SqT K H q (y.map kV) ∧ shp x = shp y ∧ Q (.ref (if rLt y x then q else p)) H
theorem two_refs {p q : Addr} {us : List Value} (r : Vals [V.ref p, V.ref q] us) : us = [.ref p, .ref q] := by
  obtain ⟨u, v, rfl, e1, e2⟩ := vals2 r
  rw [show u = Value.ref p from e1, show v = Value.ref q from e2]
theorem cr_maxR (hc : X.calm = true) (hu : X.A.units + 2 < cLine) : CallR X (.builtin "max") (rMaxR X.K) := by
  intro pins s σ H vs us Q I r h
  obtain ⟨a, p, q, x, y, rfl, ha, hp, hq, hs, k⟩ := h
  obtain ⟨its, rv, hl, _⟩ := I.list ha
  rw [Vals.ref1 r]
  have hl2 := hl.isList
  rw [two_refs rv] at hl2
  refine max_list (t := rLt x y) (I.ok.hd hc) hl2 (fun s' kp Q' E' q' => row_gt (A := X.A.in1) hs.symm (row_keep (rowAt_of I hq) fun o e => kp _ _ e) (row_keep (rowAt_of I hp) fun o e => kp _ _ e) (by show X.A.units + 1 < cLine; omega) _ _ _ _ q') (fun h' tk kp => ⟨_, H, I.kept kp, ?_, k⟩)
  cases rLt x y <;> rfl
theorem cr_minR (hc : X.calm = true) (hu : X.A.units + 2 < cLine) : CallR X (.builtin "min") (rMinR X.K) := by
  intro pins s σ H vs us Q I r h
  obtain ⟨a, p, q, x, y, rfl, ha, hp, hq, hs, k⟩ := h
  obtain ⟨its, rv, hl, _⟩ := I.list ha
  rw [Vals.ref1 r]
  have hl2 := hl.isList
  rw [two_refs rv] at hl2
  refine min_list (t := rLt y x) (I.ok.hd hc) hl2 (fun s' kp Q' E' q' => row_lt (A := X.A.in1) hs.symm (row_keep (rowAt_of I hq) fun o e => kp _ _ e) (row_keep (rowAt_of I hp) fun o e => kp _ _ e) (by show X.A.units + 1 < cLine; omega) _ _ _ _ q') (fun h' tk kp => ⟨_, H, I.kept kp, ?_, k⟩)
  cases rLt y x <;> rfl
theorem lex_irr (l : List Nat) : ¬ l < l := List.lt_irrefl l
def sMin (x y : Str) : Str := if y.cps.toList < x.cps.toList then y else x
def rMinS2 : List V → Hp → VK → Prop := fun vs H Q => ∃ x y, vs = [.str x, .str y] ∧ Q (.str (sMin x y)) H
theorem call_minS2 (hc : X.calm = true) : CallR X (.builtin "min") rMinS2 := by
  intro pins s σ H vs us Q I r h
  obtain ⟨x, y, rfl, q⟩ := h
  obtain ⟨u, v, rfl, ⟨t, rfl⟩, ⟨t', rfl⟩⟩ := vals2 r
  have hh := I.ok.hd hc
  have hT : (s.heap.push { cls := .type "tuple", data := .seq #[.str x t, .str y t'] }).IsTuple s.heap.objs.size #[.str x t, .str y t'] := ⟨_, Heap.get?_push_size _ rfl, rfl, 0, rfl⟩
  have hsz : (s.heap.push { cls := .type "tuple", data := .seq #[.str x t, .str y t'] }).objs.size = s.heap.objs.size + 1 := Heap.size_push ..
  refine call_min_two (wpAny_pyIter_tuple hT ?_)
  refine ⟨_, [_, s.heap.objs.size], [_], _, _, _, fun i j => if i = 0 then (if j = 0 then false else decide (x.cps.toList < y.cps.toList)) else if j = 0 then decide (y.cps.toList < x.cps.toList) else false, rfl, Walks.tuple (A := X.A.in1) hh _ s.heap.objs.size (by rw [hsz]; exact Nat.ne_of_lt (Nat.lt_succ_self _)) #[.str x t, .str y t'],
    ⟨⟨_, Heap.get?_push_size _ rfl, rfl, rfl⟩, hT.push _⟩, fun c hc => ?_, Nat.succ_pos 1, ?_, fun v h' tk hP hk => ?_⟩
  · show c < ((s.heap.push _).push _).objs.size
    rw [Heap.size_push, hsz]
    rcases List.mem_cons.mp hc with rfl | hc
    · rw [hsz]; exact Nat.lt_succ_self _
    · rcases List.mem_cons.mp hc with rfl | hc
      · exact Nat.lt_succ_of_lt (Nat.lt_succ_self _)
      · cases hc
  · intro i j vi vj s0 Q0 E0 hi hj q0
    have cmp : ∀ (k : Nat) (z : Value), (#[Value.str x t, .str y t'] : Array Value)[k]? = some z → (k = 0 ∧ z = .str x t) ∨ (k = 1 ∧ z = .str y t') := by
      intro k z e
      match k, e with
      | 0, e => exact .inl ⟨rfl, by simpa using e.symm⟩
      | 1, e => exact .inr ⟨rfl, by simpa using e.symm⟩
      | k + 2, e => simp at e
    rcases cmp i vi hi with ⟨rfl, rfl⟩ | ⟨rfl, rfl⟩ <;> rcases cmp j vj hj with ⟨rfl, rfl⟩ | ⟨rfl, rfl⟩
    · refine P.lt_str ?_
      rw [decide_eq_false (lex_irr _)]
      exact q0
    · exact P.lt_str q0
    · exact P.lt_str q0
    · refine P.lt_str ?_
      rw [decide_eq_false (lex_irr _)]
      exact q0
  · have hold : ∀ c o, s.heap.get? c = some o → h'.get? c = some o := fun c o e => by
      refine hk c o (fun hm => ?_) (Heap.get?_push_of_some _ (Heap.get?_push_of_some _ e))
      rcases List.mem_cons.mp hm with e1 | hm
      · have := Heap.lt_size e; rw [e1, hsz] at this; exact Nat.lt_irrefl _ (Nat.lt_of_succ_lt this)
      · cases hm
    refine ⟨_, H, I.kept hold, ?_, q⟩
    by_cases lt : y.cps.toList < x.cps.toList
    · have e1 : v = .str y t' := by
        have := hP
        simp [argBest, lt] at this
        exact this.symm
      rw [e1, sMin, if_pos lt]
      exact ⟨t', rfl⟩
    · have e1 : v = .str x t := by
        have := hP
        simp [argBest, lt] at this
        exact this.symm
      rw [e1, sMin, if_neg lt]
      exact ⟨t, rfl⟩
end
end CpR
set_option Elab.async false
set_option linter.all false
set_option maxRecDepth 100000
set_option maxHeartbeats 4000000
/-! CrF: enumerate of a tuple (lines of HandS.Iter / PyProof.EnumMake for lists, turned to tuples). -/
namespace CpR
open PySem PySem.Spec PyProof.Rows L2 CpS
open PySem.AutoSeq1 (wpAny_loadPart')
theorem meets_enumT (l : Addr) (items : Array Value) (n : Nat) (dct : Option Addr) (sl : Array (Option Value)) :
    Meets (Builtin.«enumerate.__new__» ⟨[.type "enumerate", .ref l], []⟩) (fun _ R s => s.heap.get? l = some { cls := .type "tuple", dict := dct, data := .seq items n, slots := sl } ∧
      R (.ok (.ret (.ref (s.heap.push { cls := .type "tuple_iterator", data := .fields #[.ref l, .int 0 0] }).objs.size)))
        { s with heap := (s.heap.push { cls := .type "tuple_iterator", data := .fields #[.ref l, .int 0 0] }).push { cls := .type "enumerate", data := .fields #[.none, .bool false, .ref s.heap.objs.size, rawInt 0, .none, .none] } }) :=
  .of_wp fun prog w A R s h => by
    obtain ⟨hp, g, d, tk, os⟩ := s; obtain ⟨hl, h⟩ := h
    have hsub := sub_enumerate
    have hL : Heap.IsTuple (Shared.heap ⟨hp, g, d, tk, os⟩) l items := ⟨_, hl, rfl, n, rfl⟩
    wp_walk using wpAny_loadPart' hl
    refine wpAny_stack_any fun st => wpAny_pure ?_
    split
    · rename_i c _ _ _ _ _
      cases (c == Value.type "enumerate")
      · wp_walk using wpAny_loadPart' hl, wpAny_pyIter_tuple hL
        exact ⟨_, rfl, h⟩
      · wp_walk using wpAny_loadPart' hl, wpAny_pyIter_tuple hL
        exact ⟨_, rfl, h⟩
    · wp_walk using wpAny_loadPart' hl, wpAny_pyIter_tuple hL
      exact ⟨_, rfl, h⟩
section
variable {prog : Program} {w : World} {A : Around} {E : Value → Shared → Prop} {s : Shared}
theorem call_enumT {l : Addr} {items : Array Value} {Q : Value → Shared → Prop} (hL : s.heap.IsTuple l items)
    (h : ∀ h', IsEnum h' (s.heap.objs.size + 1) s.heap.objs.size 0 .none → h'.IsTupleIter s.heap.objs.size l 0 → h'.objs.size = s.heap.objs.size + 2 →
      (∀ b o, s.heap.get? b = some o → h'.get? b = some o) → Q (.ref (s.heap.objs.size + 1)) { s with heap := h' }) :
    wpAny (model prog w) A (call (.type "enumerate") [.ref l]) Q E s := by
  obtain ⟨⟨c, dct, dt, sl⟩, hl, hc, n, hd⟩ := hL
  replace hc : c = .type "tuple" := hc
  replace hd : dt = .seq items n := hd
  subst hc hd
  refine callType_new F.called_enumerate (by decide) (F.typeCall_enumerate_1 _) (F.newCall_enumerate_1 _) (fun obj => F.args_object_init_2 obj _) F.entry_enumerate_new
    (meets_enumT l items n dct sl) ⟨hl, ?_⟩
  have hz : (s.heap.push { cls := .type "tuple_iterator", data := .fields #[.ref l, .int 0 0] }).objs.size = s.heap.objs.size + 1 := Heap.size_push ..
  show _ ∧ _
  rw [hz]
  have he : IsEnum ((s.heap.push { cls := .type "tuple_iterator", data := .fields #[.ref l, .int 0 0] }).push
      { cls := .type "enumerate", data := .fields #[.none, .bool false, .ref s.heap.objs.size, rawInt 0, .none, .none] }) (s.heap.objs.size + 1) s.heap.objs.size 0 .none := by
    have := Heap.get?_push_size (s.heap.push { cls := .type "tuple_iterator", data := .fields #[.ref l, .int 0 0] })
      (o := { cls := .type "enumerate", data := .fields #[.none, .bool false, .ref s.heap.objs.size, rawInt 0, .none, .none] }) rfl
    rw [hz] at this; exact this
  refine ⟨⟨_, he, rfl⟩, h _ he ⟨_, Heap.get?_push_of_some _ (Heap.get?_push_size _ rfl), rfl, rfl⟩ (by rw [Heap.size_push, hz]) fun b o x => Heap.get?_push_of_some _ (Heap.get?_push_of_some _ x)⟩
end
/-- the tuple at a, each item in a new pair -/
def Iteu (K : PySem.W.Frag) (a : Addr) : It :=
  ⟨fun i H => ∃ (xs : List V) (x : V), SqT K H a xs ∧ xs[i]? = some x, fun i H v H' => ∃ T x, v = .ref T ∧ H T = none ∧ H' = upd H T (.tup [.int (i : Nat), x]) ∧ ∀ xs, SqT K H a xs → xs[i]? = some x, fun i H => ∃ xs : List V, SqT K H a xs ∧ xs.length = i⟩
theorem turn_enumT {P : Program} {w : World} {K : PySem.W.Frag} {elts : List Expr} {kk : Nat} {tpos : Pos} (a e it : Addr) (hae : a ≠ it) :
    Turn P w K (.Tuple elts kk tpos) (Iteu K a) [e, it] e (fun i h => (∃ old, IsEnum h e it ((i : Nat) : Int) old) ∧ h.IsTupleIter it a i ∧ e ≠ it) where
  mem := by simp
  obj := fun i h st b hb => by
    obtain ⟨⟨old, he⟩, ⟨o, ho, hc, hd⟩, _⟩ := st
    have e' : b = e ∨ b = it := by simpa using hb
    rcases e' with z | z
    · rw [z]; exact ⟨_, he, fun v q => nomatch q⟩
    · rw [z]; exact ⟨o, ho, fun v q => by rw [hd] at q; cases q⟩
  keep := fun i h h' st k => let ⟨⟨old, he⟩, hi, hne⟩ := st; ⟨⟨old, k e (by simp) _ he⟩, hi.at fun o q => k it (by simp) o q, hne⟩
  item := by
    intro X hP hw hK hc i pins s σ H E I hf st hg
    subst hP hw hK
    obtain ⟨⟨old, he⟩, hit, hne⟩ := st
    obtain ⟨xs, x, hq, hx⟩ := hg
    obtain ⟨its, rv, p, hz⟩ := I.tuple hq
    obtain ⟨u, hu, ru⟩ := rv.get hx
    have hel : e < s.heap.objs.size := Heap.lt_size he
    have hil : it < s.heap.objs.size := by obtain ⟨_, q, _⟩ := hit; exact Heap.lt_size q
    have hlt : i < its.toArray.size := by
      have := (List.getElem?_eq_some_iff.mp hu).1
      simpa using this
    have hea : e ≠ a := fun z => by
      obtain ⟨o, ho, hcl, _⟩ := p
      rw [← z, he] at ho
      cases ho
      injection hcl with hcl
      exact absurd hcl (by decide)
    have hef : e ∉ [it, a] := by simp [hne, hea]
    refine wpAny_pyNext_enum_itemD (Draws.tuple (A := X.A.in1) (I.ok.hd hc) it a hae its.toArray) he ⟨hit, p⟩ hlt hne hef fun y h' tk hy ho ⟨hit', p'⟩ hT hsz hk => ?_
    obtain rfl : u = y := by
      have z : its.toArray[i]? = some y := hy
      rw [show its.toArray[i]? = some u from by simpa using hu] at z
      exact Option.some.inj z
    refine ⟨_, rfl, wpAny_letOwnedTupleGo_enum (s := { s with heap := h', toks := tk + 1 }) ho fun h'' he' sb => ?_⟩
    have hT2 : h''.get? s.heap.objs.size = some { cls := .type "tuple", data := .seq #[.int i tk, u] } := (sb.2 _ (Nat.ne_of_gt hel)).trans hT
    have new : ObjOk X.prog X.w (upd H s.heap.objs.size (.tup [.int (i : Nat), x])) h'' s.heap.objs.size (.tup [.int (i : Nat), x]) :=
      ⟨by show 2 ≤ sizeLine; decide, [.int i tk, u], .cons ⟨_, rfl⟩ (.cons ru .nil), ⟨_, hT2, rfl, _, rfl⟩⟩
    have I1 : Inv X pins σ (upd H s.heap.objs.size (.tup [.int (i : Nat), x])) { s with heap := h'', toks := tk + 1 } :=
      I.turnedNew (ch := [e, it]) (fun b ob hb q => (sb.2 b (fun z => hb (by simp [z]))).trans (hk b ob (fun z => hb (by simp [z])) (fun z => hb (by simp [z])) q)) hf (Nat.le_refl _) new
    refine ⟨.ref s.heap.objs.size, _, I1, rfl, ⟨_, x, rfl, I.hok.fresh (Nat.le_refl _), rfl, fun ys hy => by rw [I.tuple_inj hy hq]; exact hx⟩, ⟨⟨u, ?_⟩, hit'.at fun o q => (sb.2 it (Ne.symm hne)).trans q, hne⟩, fun b hb => ?_⟩
    · have e1 : ((i + 1 : Nat) : Int) = (i : Int) + 1 := by omega
      rw [e1]; exact he'
    · have hb' : b < s.heap.objs.size := by
        have e' : b = e ∨ b = it := by simpa using hb
        rcases e' with z | z
        · rw [z]; exact hel
        · rw [z]; exact hil
      rw [upd_ne (Nat.ne_of_lt hb')]
      exact (hf b hb).1
  done := by
    intro X hP hw hK hc i pins s σ H E I hf st hg
    subst hP hw hK
    obtain ⟨⟨old, he⟩, hit, hne⟩ := st
    obtain ⟨xs, hq, hx⟩ := hg
    obtain ⟨its, rv, p, hz⟩ := I.tuple hq
    obtain ⟨f0, f1, f2, f3, f4, f5⟩ := hf it (by simp)
    have hl := rv.length
    have hn : i = its.toArray.size := by simp; omega
    subst hn
    exact wpAny_pyNext_enum_endD (Draws.tuple (A := X.A.in1) (I.ok.hd hc) it a hae its.toArray) he ⟨hit, p⟩ fun h' eb => ⟨rfl, I.turned (t' := s.toks) (fun b o hb q => eb b o hb q) f0 f1 f3 f4 f5⟩
  self := fun A i s Q E st h => let ⟨⟨_, he⟩, _⟩ := st; wpAny_pyIter_enum he h
def iEnumT (K : PySem.W.Frag) (ta : TA) : TI := fun σ H R => ta σ H fun vs H1 => ∃ a xs, vs = [.ref a] ∧ SqT K H1 a xs ∧ R (Iteu K a) H1
theorem pi_enumT {X : Cx} {e : Expr} {ta : TA} {p pos tpos : Pos} {elts : List Expr} {kk : Nat} (hg : Gl X "enumerate") (hm : X.mg "enumerate" = none) (ha : PA X [e] ta) (hs : starEach [e] X.env = [(false, eval e X.env)] := by rfl) :
    PI X (.Tuple elts kk tpos) (.Call (.Name "enumerate" p) [e] [] pos) (iEnumT X.K ta) := by
  refine ⟨fun pins s σ H R I h => ?_⟩
  refine Call_ (ld_blt I hg hm boot_enumerate (PyProof.Rows.callWith_type1 (thn (ha.run pos pins s σ H _ I h) fun us s1 ⟨vs, H1, I1, r1, q1⟩ => ?_) hs rfl))
  obtain ⟨a, xs, ex, hq, q⟩ := q1
  subst ex
  cases r1 with
  | cons r rr =>
    cases rr
    cases r
    obtain ⟨its, rv, p', hz⟩ := I1.tuple hq
    have hal : a < s1.heap.objs.size := by obtain ⟨_, z, _⟩ := p'; exact Heap.lt_size z
    refine call_enumT p' fun h' he hit hsz hk => wpAny_pyIter_enum he ?_
    have I2 : Inv X pins σ H1 { s1 with heap := h' } := I1.kept (t' := s1.toks) hk
    refine ⟨s1.heap.objs.size + 1, [s1.heap.objs.size + 1, s1.heap.objs.size], _, _, H1, rfl, I2, turn_enumT a (s1.heap.objs.size + 1) s1.heap.objs.size (Nat.ne_of_lt hal), ⟨⟨.none, he⟩, hit, Nat.succ_ne_self _⟩, fun b hb => ?_, q⟩
    have e' : b = s1.heap.objs.size + 1 ∨ b = s1.heap.objs.size := by simpa using hb
    have hle : s1.heap.objs.size ≤ b := by
      rcases e' with z | z
      · rw [z]; exact Nat.le_add_right _ _
      · rw [z]; exact Nat.le_refl _
    exact I1.fpOk hle (I1.hok.fresh hle)
end CpR
set_option Elab.async false
set_option linter.all false
set_option maxRecDepth 100000
set_option maxHeartbeats 4000000
/-! M03: links between numbers: each points to a smaller one; the ends; the classes. Plain. -/
namespace CpM
def repF (g : Nat → Option Nat) : Nat → Nat → Nat
  | 0, v => v
  | n + 1, v => match g v with
    | none => v
    | some u => repF g n u
def Dn (g : Nat → Option Nat) : Prop := ∀ v u, g v = some u → u < v
def rep (g : Nat → Option Nat) (v : Nat) : Nat := repF g (v + 1) v
theorem repF_eq {g : Nat → Option Nat} (d : Dn g) : ∀ (n v m : Nat), v < n → v < m → repF g n v = repF g m v
  | 0, v, _, h, _ => absurd h (Nat.not_lt_zero _)
  | n + 1, v, 0, _, h => absurd h (Nat.not_lt_zero _)
  | n + 1, v, m + 1, h1, h2 => by
    show (match g v with | none => v | some u => repF g n u) = match g v with | none => v | some u => repF g m u
    cases e : g v with
    | none => rfl
    | some u =>
      have lt := d v u e
      exact repF_eq d n u m (by omega) (by omega)
theorem rep_none {g : Nat → Option Nat} {v : Nat} (e : g v = none) : rep g v = v := by
  show (match g v with | none => v | some u => repF g v u) = v
  rw [e]
theorem rep_some {g : Nat → Option Nat} (d : Dn g) {v u : Nat} (e : g v = some u) : rep g v = rep g u := by
  show (match g v with | none => v | some u => repF g v u) = repF g (u + 1) u
  rw [e]
  have lt := d v u e
  exact repF_eq d v u (u + 1) (by omega) (by omega)
theorem rep_ind {g : Nat → Option Nat} (d : Dn g) (P : Nat → Prop) (h0 : ∀ v, g v = none → P v) (h1 : ∀ v u, g v = some u → u < v → P u → P v) : ∀ v, P v := by
  intro v
  induction v using Nat.strongRecOn with
  | ind v ih =>
    cases e : g v with
    | none => exact h0 v e
    | some u => exact h1 v u e (d v u e) (ih u (d v u e))
theorem rep_end {g : Nat → Option Nat} (d : Dn g) (v : Nat) : g (rep g v) = none := by
  refine rep_ind d (fun v => g (rep g v) = none) (fun v e => ?_) (fun v u e _ ih => ?_) v
  · rw [rep_none e]; exact e
  · rw [rep_some d e]; exact ih
theorem rep_le {g : Nat → Option Nat} (d : Dn g) (v : Nat) : rep g v ≤ v := by
  refine rep_ind d (fun v => rep g v ≤ v) (fun v e => ?_) (fun v u e lt ih => ?_) v
  · rw [rep_none e]; exact Nat.le_refl _
  · rw [rep_some d e]; omega
theorem rep_rep {g : Nat → Option Nat} (d : Dn g) (v : Nat) : rep g (rep g v) = rep g v := rep_none (rep_end d v)
/-- point from a to b -/
def pnt (g : Nat → Option Nat) (a b : Nat) : Nat → Option Nat := fun v => if v = a then some b else g v
theorem pnt_dn {g : Nat → Option Nat} (d : Dn g) {a b : Nat} (lt : b < a) : Dn (pnt g a b) := fun v u e => by
  by_cases z : v = a
  · rw [pnt, if_pos z] at e
    rw [z, ← Option.some.inj e]
    exact lt
  · rw [pnt, if_neg z] at e
    exact d v u e
theorem rep_pnt {g : Nat → Option Nat} (d : Dn g) {a b : Nat} (lt : b < a) (ha : g a = none) (hb : g b = none) (v : Nat) : rep (pnt g a b) v = if rep g v = a then b else rep g v := by
  have d' := pnt_dn d lt
  have hb' : pnt g a b b = none := by rw [pnt, if_neg (by omega)]; exact hb
  refine rep_ind d (fun v => rep (pnt g a b) v = if rep g v = a then b else rep g v) (fun v e => ?_) (fun v u e lt ih => ?_) v
  · rw [rep_none e]
    by_cases z : v = a
    · rw [if_pos z, rep_some d' (u := b) (by rw [pnt, if_pos z]), rep_none hb']
    · rw [if_neg z, rep_none (by rw [pnt, if_neg z]; exact e)]
  · have z : v ≠ a := fun z => by rw [z, ha] at e; cases e
    rw [rep_some d e, rep_some d' (u := u) (by rw [pnt, if_neg z]; exact e)]
    exact ih
/-- what a link does -/
def lnk (g : Nat → Option Nat) (x y : Nat) : Nat → Option Nat :=
  if rep g x = rep g y then g else if rep g x < rep g y then pnt g (rep g y) (rep g x) else pnt g (rep g x) (rep g y)
/-- tied by pairs -/
inductive Tied (R : Nat → Nat → Prop) : Nat → Nat → Prop
  | pair {a b : Nat} : R a b → Tied R a b
  | refl (a : Nat) : Tied R a a
  | symm {a b : Nat} : Tied R a b → Tied R b a
  | trans {a b c : Nat} : Tied R a b → Tied R b c → Tied R a c
theorem Tied.mono {R R' : Nat → Nat → Prop} (h : ∀ a b, R a b → R' a b) {a b : Nat} (t : Tied R a b) : Tied R' a b := by
  induction t with
  | pair m => exact .pair (h _ _ m)
  | refl a => exact .refl a
  | symm _ ih => exact .symm ih
  | trans _ _ i1 i2 => exact .trans i1 i2
/-- the links answer for the pairs -/
structure Links (R : Nat → Nat → Prop) (g : Nat → Option Nat) : Prop where
  dn : Dn g
  own : ∀ v u, g v = some u → Tied R v u
  all : ∀ a b, R a b → rep g a = rep g b
theorem Links.cgr {R R' : Nat → Nat → Prop} {g : Nat → Option Nat} (h : Links R g) (e : ∀ a b, R a b ↔ R' a b) : Links R' g :=
  ⟨h.dn, fun v u q => (h.own v u q).mono fun a b => (e a b).mp, fun a b q => h.all a b ((e a b).mpr q)⟩
theorem Links.nil {R : Nat → Nat → Prop} (h : ∀ a b, ¬ R a b) : Links R (fun _ => none) := ⟨fun _ _ e => (by cases e), fun _ _ e => (by cases e), fun a b m => absurd m (h a b)⟩
theorem Links.tied_rep {R : Nat → Nat → Prop} {g : Nat → Option Nat} (h : Links R g) (v : Nat) : Tied R v (rep g v) := by
  refine rep_ind h.dn (fun v => Tied R v (rep g v)) (fun v e => ?_) (fun v u e lt ih => ?_) v
  · rw [rep_none e]; exact .refl v
  · rw [rep_some h.dn e]; exact .trans (h.own v u e) ih
theorem Links.iff {R : Nat → Nat → Prop} {g : Nat → Option Nat} (h : Links R g) (a b : Nat) : Tied R a b ↔ rep g a = rep g b := by
  constructor
  · intro t
    induction t with
    | pair m => exact h.all _ _ m
    | refl a => rfl
    | symm _ ih => exact ih.symm
    | trans _ _ i1 i2 => exact i1.trans i2
  · intro e
    have h1 := h.tied_rep a
    rw [e] at h1
    exact .trans h1 (.symm (h.tied_rep b))
/-- the least of the class -/
theorem Links.least {R : Nat → Nat → Prop} {g : Nat → Option Nat} (h : Links R g) {a b : Nat} (t : Tied R a b) : rep g a ≤ b := by
  rw [(h.iff a b).mp t]
  exact rep_le h.dn b
theorem Links.next {R : Nat → Nat → Prop} {g : Nat → Option Nat} (h : Links R g) (x y : Nat) : Links (fun a b => R a b ∨ (a = x ∧ b = y)) (lnk g x y) := by
  have up : ∀ {a b : Nat}, Tied R a b → Tied (fun a b => R a b ∨ (a = x ∧ b = y)) a b := fun t => t.mono fun a b m => .inl m
  have xy : Tied (fun a b => R a b ∨ (a = x ∧ b = y)) x y := .pair (.inr ⟨rfl, rfl⟩)
  have rxy : Tied (fun a b => R a b ∨ (a = x ∧ b = y)) (rep g x) (rep g y) := .trans (.symm (up (h.tied_rep x))) (.trans xy (up (h.tied_rep y)))
  unfold lnk
  by_cases e : rep g x = rep g y
  · rw [if_pos e]
    refine ⟨h.dn, fun v u g' => up (h.own v u g'), fun a b m => ?_⟩
    rcases m with m | ⟨rfl, rfl⟩
    · exact h.all a b m
    · exact e
  · rw [if_neg e]
    -- from the larger end to the smaller
    have key : ∀ p q : Nat, (p = rep g x ∧ q = rep g y ∨ p = rep g y ∧ q = rep g x) → q < p → Tied (fun a b => R a b ∨ (a = x ∧ b = y)) p q → Links (fun a b => R a b ∨ (a = x ∧ b = y)) (pnt g p q) := by
      intro p q w lt t
      have hp : g p = none := by rcases w with ⟨w, _⟩ | ⟨w, _⟩ <;> rw [w] <;> exact rep_end h.dn _
      have hq : g q = none := by rcases w with ⟨_, w⟩ | ⟨_, w⟩ <;> rw [w] <;> exact rep_end h.dn _
      refine ⟨pnt_dn h.dn lt, fun v u e' => ?_, fun a b m => ?_⟩
      · by_cases z : v = p
        · rw [pnt, if_pos z] at e'
          rw [z, ← Option.some.inj e']
          exact t
        · rw [pnt, if_neg z] at e'
          exact up (h.own v u e')
      · rw [rep_pnt h.dn lt hp hq, rep_pnt h.dn lt hp hq]
        rcases m with m | ⟨rfl, rfl⟩
        · rw [h.all a b m]
        · rcases w with ⟨w1, w2⟩ | ⟨w1, w2⟩
          · rw [if_pos w1.symm, if_neg (by omega)]; exact w2
          · rw [if_pos w1.symm, if_neg (by omega)]; exact w2.symm
    by_cases lt : rep g x < rep g y
    · rw [if_pos lt]
      exact key _ _ (.inr ⟨rfl, rfl⟩) lt (.symm rxy)
    · rw [if_neg lt]
      exact key _ _ (.inl ⟨rfl, rfl⟩) (by omega) rxy
end CpM
set_option Elab.async false
set_option linter.all false
set_option maxRecDepth 100000
set_option maxHeartbeats 1000000
/-! E06: the class Links; a thing (number, colour) is kept as one number. -/
namespace CpR
open PySem PySem.Spec PyProof.Rows L2 CpM CpS
/-- the thing v -/
def kN (v : Nat) : List Key := [.inl ((v / 128 : Nat) : Int), .inr (sign (v % 128))]
def NdAt (H : Hp) (a : Addr) (v : Nat) : Prop := H a = some (.tup [.int ((v / 128 : Nat) : Int), .str (sign (v % 128))])
theorem NdAt.sqt {K : PySem.W.Frag} {H : Hp} {a : Addr} {v : Nat} (h : NdAt H a v) : SqT K H a ((kN v).map kV) := SqT.of h
theorem kN_inj {u v : Nat} (h : kN u = kN v) : u = v := by
  injection h with h1 h2
  injection h2 with h2 _
  injection h1 with h1
  injection h2 with h2
  have := sign_inj h2
  omega
theorem kN_shp (u v : Nat) : shp (kN u) = shp (kN v) := rfl
theorem kN_lt (u v : Nat) : rLt (kN u) (kN v) = decide (u < v) := by
  show (if (Sum.inl ((u / 128 : Nat) : Int) : Key) = .inl ((v / 128 : Nat) : Int) then (if (Sum.inr (sign (u % 128)) : Key) = .inr (sign (v % 128)) then false else decide ((sign (u % 128)).cps.toList < (sign (v % 128)).cps.toList)) else decide (((u / 128 : Nat) : Int) < ((v / 128 : Nat) : Int))) = decide (u < v)
  by_cases e : u / 128 = v / 128
  · rw [if_pos (by rw [e])]
    by_cases e2 : u % 128 = v % 128
    · rw [if_pos (by rw [e2]), decide_eq_false (by omega)]
    · rw [if_neg (fun z => e2 (sign_inj (by injection z)))]
      rw [Bool.eq_iff_iff, decide_eq_true_iff, decide_eq_true_iff]
      show [u % 128] < [v % 128] ↔ u < v
      rw [List.cons_lt_cons_iff]
      constructor
      · rintro (h | ⟨_, h⟩)
        · omega
        · exact absurd h (List.lt_irrefl _)
      · intro h; exact .inl (by omega)
  · rw [if_neg (fun z => e (by injection z with z; omega))]
    rw [Bool.eq_iff_iff, decide_eq_true_iff, decide_eq_true_iff]
    omega
/-- the dict of the links -/
structure LkD (H : Hp) (g : Nat → Option Nat) (kvs : List (List Key × V)) : Prop where
  no : ∀ v, g v = none → valV kvs (kN v) = none
  yes : ∀ v u, g v = some u → ∃ a, valV kvs (kN v) = some (.ref a) ∧ NdAt H a u
def LkAt (CL : Addr) (H : Hp) (p d : Addr) (g : Nat → Option Nat) (n : Nat) : Prop := ∃ dx kvs, H p = some (.ins CL dx [("nearer", V.ref d)]) ∧ H d = some (.dT kvs) ∧ kvs.length ≤ n ∧ LkD H g kvs
theorem lk_near (d : Addr) : ([("nearer", V.ref d)] : List (Str × V)).lookup ("nearer" : Str) = some (V.ref d) := rfl
section
variable {P : Program} {w : World} {K : PySem.W.Frag} {mg : Str → Option Value} {base : Heap} {CN CC CW CL CI CE : Addr}
def spLkInit (CL : Addr) : Sp := fun vs H Q _ => ∃ (p dx : Addr), vs = [.ref p] ∧ H p = some (.ins CL dx []) ∧
  ∀ H' d, (∀ x o, x ≠ p → H x = some o → H' x = some o) → H d = none → H' p = some (.ins CL dx [("nearer", V.ref d)]) → H' d = some (.dT []) → Q .non H'
theorem ok_Links (T : Txt K mg CN CC CW CL) : Dk P w K mg base CX0 3 "Links" CL (spLkInit CL) := by
  refine dk_of T.k_Links sc_Links_init b_Links_init (fun vs H Q E ⟨_, _, e, _⟩ => by rw [e]; rfl) (fun f cdv A outer s H vs Q E hr h => ?_)
  obtain ⟨p, dx, rfl, hp, k⟩ := h
  refine ⟨_, pss_one (ps_fld (pv 0) pe_dnewT rfl), fun d hd => ⟨_, rfl, p, CL, dx, [], rfl, ?_, T.cls_CL, T.na_L, by show 0 < 1000; decide, ?_⟩⟩
  · rw [upd_ne (ne_of_none hp hd)]; exact hp
  · have npt := ne_of_none hp hd
    refine k _ d (fun x o nx e => ?_) hd upd_same (by rw [upd_ne npt.symm, upd_same])
    rw [upd_ne nx, upd_ne (ne_of_none e hd)]
    exact e
def spLkRep (CL : Addr) : Sp := fun vs H Q _ => ∃ (p d a : Addr) (g : Nat → Option Nat) (n v : Nat), vs = [.ref p, .ref a] ∧ LkAt CL H p d g n ∧ Dn g ∧ NdAt H a v ∧ ∀ b, NdAt H b (rep g v) → Q (.ref b) H
theorem ok_representative (T : Txt K mg CN CC CW CL) : Dm P w K mg base CX0 1 CL "representative" (spLkRep CL) := by
  refine dm_of T.m_Links_representative sc_Links_representative b_Links_representative (fun vs H Q E ⟨_, _, _, _, _, _, e, _⟩ => by rw [e]; rfl) (fun f cdv A outer s H vs Q E hr h => ?_)
  obtain ⟨p, d, a, g, n, v, rfl, ⟨dx, kvs, hp, hd, hn, D⟩, dn, ha, k⟩ := h
  have n0 := sc_Links_representative.nd
  have hu : (A.deeper (envOfC "Links.representative" (defScope s_Links_representative) s.heap.objs.size f cdv)).units + 1 < cLine := by have := hr.un; omega
  refine ⟨_, pss_cons (ps_while PassesOwn.never (pt_cmp (pc_din hu (pv 1) (pe_fld (pv 0) rfl)))
      (pss_one (ps_set (i := 1) n0 rfl (.inl rfl) (pe_dget hu (pe_fld (pv 0) rfl) (pv 1) (fun _ _ => rfl)))))
    (pss_one (ps_ret (pv 1))), ?_⟩
  refine while_by (fun σ H' => H' = H ∧ ∃ (b : Addr) (u : Nat), NdAt H b u ∧ rep g u = rep g v ∧ σ = [some (.ref p), some (.ref b)]) (fun σ H' => match σ with | [_, some (.ref b)] => (match H' b with | some (.tup [.int i, .str c]) => i.toNat * 128 + c.cps.toList.headD 0 | _ => 0) | _ => 0) ⟨rfl, a, v, ha, rfl, rfl⟩ (fun σ H' hp' => ?_) (fun σ H Q Q' f h => ?_)
  · obtain ⟨rfl, b, u, hb, eu, rfl⟩ := hp'
    have G : DGet H' d (.ref b) (valV kvs (kN u)) := DGet.t hd (by rw [hb]; rfl)
    refine ⟨_, rfl, _, rfl, p, CL, dx, _, _, rfl, hp, T.cls_CL, T.na_L, lk_near d, d, _, rfl, G, _, rfl, ?_⟩
    cases e : g u with
    | none =>
      rw [D.no u e]
      refine iteF ⟨_, rfl, k b ?_⟩
      rw [← eu, rep_none e]
      exact hb
    | some t =>
      obtain ⟨c, e1, hc⟩ := D.yes u t e
      rw [e1] at G ⊢
      refine iteT ⟨_, rfl, p, CL, dx, _, _, rfl, hp, T.cls_CL, T.na_L, lk_near d, _, rfl, d, _, rfl, G, ⟨rfl, c, t, hc, ?_, rfl⟩, ?_⟩
      · rw [← rep_some dn e]; exact eu
      · have lt := dn u t e
        have m : ∀ (x : Addr) (z : Nat), NdAt H' x z → (match H' x with | some (.tup [.int i, .str c]) => i.toNat * 128 + c.cps.toList.headD 0 | _ => 0) = z := fun x z hx => by
          rw [show H' x = _ from hx]
          show ((z / 128 : Nat) : Int).toNat * 128 + z % 128 = z
          rw [Int.toNat_natCast]
          omega
        show (match H' c with | some (.tup [.int i, .str c]) => i.toNat * 128 + c.cps.toList.headD 0 | _ => 0) < (match H' b with | some (.tup [.int i, .str c]) => i.toNat * 128 + c.cps.toList.headD 0 | _ => 0)
        rw [m c t hc, m b u hb]
        exact lt
  · obtain ⟨y, e, x, e1, p1, C, d1, f1, v1, e2, e3, e4, e5, e6, a1, o, e7, G, c, e8, q⟩ := h
    exact ⟨y, e, x, e1, p1, C, d1, f1, v1, e2, e3, e4, e5, e6, a1, o, e7, G, c, e8, f _ _ q⟩
def dN (v : Nat) : PyData := .tuple [.int ((v / 128 : Nat) : Int), .str (sign (v % 128))]
theorem NdAt.dp {K : PySem.W.Frag} {H : Hp} {a : Addr} {v : Nat} (h : NdAt H a v) : L2.Dp K H (.ref a) (dN v) := .tup (SqT.of h) (.cons (.int _) (.cons (.str _) .nil))
theorem dN_shaped (v : Nat) : SeqAt.shaped (dN v) = true := by
  have e1 : PyData.canLay0 (dN v) = PyData.strOk (sign (v % 128)) := by simp [dN, PyData.canLay0, PyData.canLayAll0]
  have e2 : PyData.depth (dN v) ≤ 64 := by simp [dN, PyData.depth, PyData.depthAll]
  show (PyData.canLay0 (dN v) && decide (PyData.depth (dN v) ≤ 64)) = true
  rw [e1, decide_eq_true e2, Bool.and_true]
  have h : v % 128 < 128 := Nat.mod_lt _ (by decide)
  generalize v % 128 = c at h
  simp [PyData.strOk, sign]
  omega
theorem dN_eqv (u v : Nat) : PyData.eqv (dN u) (dN v) = decide (u = v) := by
  rw [Bool.eq_iff_iff, decide_eq_true_iff]
  simp only [dN, PyData.eqv, PyData.eqvAll, Bool.and_eq_true, beq_iff_eq, Bool.and_true]
  constructor
  · rintro h
    have h1 : u / 128 = v / 128 := by have := h.1; simp at this; omega
    have h2 : u % 128 = v % 128 := sign_inj (by have := h.2; simpa using this)
    omega
  · intro h
    subst h
    simp
def spLink (CL : Addr) : Sp := fun vs H Q _ => ∃ (p d a b : Addr) (g : Nat → Option Nat) (n x y : Nat), vs = [.ref p, .ref a, .ref b] ∧ LkAt CL H p d g n ∧ Dn g ∧ n < 2 ^ 20 ∧ NdAt H a x ∧ NdAt H b y ∧
  ∀ H', (∀ z o, z ≠ d → H z = some o → H' z = some o) → LkAt CL H' p d (lnk g x y) (n + 1) → Q .non H'
theorem ok_link (T : Txt K mg CN CC CW CL) : Dm P w K mg base CX0 2 CL "link" (spLink CL) := by
  refine dm_of T.m_Links_link sc_Links_link b_Links_link (fun vs H Q E ⟨_, _, _, _, _, _, _, _, e, _⟩ => by rw [e]; rfl) (fun f cdv A outer s H vs Q E hr h => ?_)
  obtain ⟨p, d, a, b, g, n, x, y, rfl, hl, dn, ln, ha, hb, k⟩ := h
  have n0 := sc_Links_link.nd
  have hu : (A.deeper (envOfC "Links.link" (defScope s_Links_link) s.heap.objs.size f cdv)).units + 64 < cLine := by have := hr.un; omega
  have hu1 : (A.deeper (envOfC "Links.link" (defScope s_Links_link) s.heap.objs.size f cdv)).units + 1 < cLine := by omega
  have hu2 : (A.deeper (envOfC "Links.link" (defScope s_Links_link) s.heap.objs.size f cdv)).units + 2 < cLine := by omega
  refine ⟨_, Evl.pss_cut (ps_par (i := 3) (j := 4) rfl n0 rfl rfl (by decide) rfl rfl (pa_cons (pe_dm (E := E0) (ok_representative T) T.cls_CL hr (by decide) pass0 (pv 0) (pa_cons (pv 1) pa_nil)) (pa_cons (pe_dm (E := E0) (ok_representative T) T.cls_CL hr (by decide) pass0 (pv 0) (pa_cons (pv 2) pa_nil)) pa_nil)) (by rfl))
    (pss_one (ps_if (pt_cmpR (op_neD hu) (pv 3) (pv 4) (nomark _))
      (pss_one (ps_dput hu1 (pe_fld (pv 0) rfl) (pe_callB (cr_maxR rfl hu2) (by rfl) T.bt.b_max (by decide +kernel) (pa_cons (pe_lst (pa_cons (pv 3) (pa_cons (pv 4) pa_nil))) pa_nil))
        (pe_callB (cr_minR rfl hu2) (by rfl) T.bt.b_min (by decide +kernel) (pa_cons (pe_lst (pa_cons (pv 3) (pa_cons (pv 4) pa_nil))) pa_nil)) rfl)) pss_nil)), ?_⟩
  refine ⟨fun σ H' => H' = H ∧ ∃ r1 r2 : Addr, NdAt H r1 (rep g x) ∧ NdAt H r2 (rep g y) ∧ σ = [some (.ref p), some (.ref a), some (.ref b), some (.ref r1), some (.ref r2)], ?_, ?_⟩
  · obtain ⟨dx, kvs, hp, hd, hn, D⟩ := id hl
    exact ⟨_, rfl, p, dx, _, rfl, hp, rfl, _, rfl, p, d, a, g, n, x, rfl, hl, dn, ha, fun r1 h1 => ⟨_, rfl, p, dx, _, rfl, hp, rfl, _, rfl, p, d, b, g, n, y, rfl, hl, dn, hb, fun r2 h2 => ⟨_, _, rfl, rfl, r1, r2, h1, h2, rfl⟩⟩⟩
  rintro σ H' ⟨rfl, r1, r2, h1, h2, rfl⟩
  obtain ⟨dx, kvs, hp, hd, hn, D⟩ := id hl
  refine ⟨_, rfl, _, rfl, dN (rep g x), dN (rep g y), h1.dp, h2.dp, dN_shaped _, dN_shaped _, _, rfl, ?_⟩
  rw [dN_eqv]
  by_cases e : rep g x = rep g y
  · rw [decide_eq_true e]
    refine iteF (k H' (fun _ _ _ e => e) ?_)
    rw [lnk, if_pos e]
    exact ⟨dx, kvs, hp, hd, by omega, D⟩
  · rw [decide_eq_false e]
    refine iteT ?_
    -- larger end to the smaller one
    have key : ∀ (H1 : Hp) (B S : Nat) (rB rS : Addr), (∀ z o, H' z = some o → H1 z = some o) → NdAt H' rB B → NdAt H' rS S → g B = none → lnk g x y = pnt g B S → ∃ H2, DPut H1 d (.ref rB) (.ref rS) H2 ∧ Q .non H2 := by
      intro H1 B S rB rS s1 hB hS gB el
      have nB : valV kvs (kN B) = none := D.no B gB
      have hpd : p ≠ d := fun q => by rw [q, hd] at hp; cases hp
      have nd : ∀ (z : Addr) (u : Nat), NdAt H' z u → z ≠ d := fun z u hz q => by rw [q] at hz; rw [show H' d = _ from hz] at hd; cases hd
      refine ⟨_, DPut.t (k := kN B) (s1 _ _ hd) (by rw [s1 _ _ hB]; rfl) (lt_line (by omega)), k _ (fun z o nz e => ?_) ⟨dx, putK kvs (kN B) (.ref rS), ?_, upd_same, ?_, ⟨fun v e => ?_, fun v u e => ?_⟩⟩⟩
      · rw [upd_ne nz]; exact s1 _ _ e
      · rw [upd_ne hpd]; exact s1 _ _ hp
      · rw [putK_new _ nB, List.length_append]
        show kvs.length + 1 ≤ n + 1
        omega
      · rw [el] at e
        by_cases z : v = B
        · rw [pnt, if_pos z] at e; cases e
        · rw [pnt, if_neg z] at e
          rw [valV_put, if_neg (fun q => z (kN_inj q))]
          exact D.no v e
      · rw [el] at e
        by_cases z : v = B
        · rw [pnt, if_pos z] at e
          cases e
          refine ⟨rS, by rw [valV_put, if_pos (by rw [z])], ?_⟩
          show upd H1 d _ rS = _
          rw [upd_ne (nd _ _ hS)]
          exact s1 _ _ hS
        · rw [pnt, if_neg z] at e
          obtain ⟨c, e1, hc⟩ := D.yes v u e
          refine ⟨c, by rw [valV_put, if_neg (fun q => z (kN_inj q))]; exact e1, ?_⟩
          show upd H1 d _ c = _
          rw [upd_ne (nd _ _ hc)]
          exact s1 _ _ hc
    refine ⟨_, rfl, _, rfl, two_line, fun l hl0 => ?_⟩
    have s1 : Same H' (upd H' l (.lst [V.ref r1, V.ref r2])) := same_new hl0
    refine ⟨l, r1, r2, kN (rep g x), kN (rep g y), rfl, SqL.of upd_same, SqT.of (s1 _ _ h1), SqT.of (s1 _ _ h2), rfl, _, rfl, p, CL, dx, _, _, rfl, s1 _ _ hp, T.cls_CL, T.na_L, lk_near d, _, rfl, _, rfl, two_line, fun l2 hl2 => ?_⟩
    have s2 := s1.trans (same_new (o := .lst [V.ref r1, V.ref r2]) hl2)
    refine ⟨l2, r1, r2, kN (rep g x), kN (rep g y), rfl, SqL.of upd_same, SqT.of (s2 _ _ h1), SqT.of (s2 _ _ h2), rfl, d, ?_⟩
    by_cases lt : rep g x < rep g y
    · rw [kN_lt, kN_lt, decide_eq_true lt, decide_eq_false (by omega)]
      obtain ⟨H2, a1, a2⟩ := key _ (rep g y) (rep g x) r2 r1 s2 h2 h1 (rep_end dn y) (by rw [lnk, if_neg e, if_pos lt])
      exact ⟨H2, rfl, a1, a2⟩
    · rw [kN_lt, kN_lt, decide_eq_false lt, decide_eq_true (by omega)]
      obtain ⟨H2, a1, a2⟩ := key _ (rep g x) (rep g y) r1 r2 s2 h1 h2 (rep_end dn x) (by rw [lnk, if_neg e, if_neg lt])
      exact ⟨H2, rfl, a1, a2⟩
end
end CpR
set_option Elab.async false
set_option linter.all false
set_option maxRecDepth 100000
set_option maxHeartbeats 1000000
/-! E07: a set comprehension of rows by a walk; paired. -/
namespace CpR
open PySem PySem.Spec PyProof.Rows L2 CpM CpS
section
variable {J : It} {n : Nat} {G : Hp → Prop} {Y : Nat → Hp → V → Hp → Prop} {P : Program} {w : World} {K : PySem.W.Frag}
/-- the keys of a set of rows behind i turns -/
structure SetIs (κ : Nat → List Key) (i : Nat) (L : Rw) : Prop where
  nd : (L.map (·.2)).Nodup
  iff : ∀ k, k ∈ L.map (·.2) ↔ ∃ j, j < i ∧ k = κ j
def RowsH (H : Hp) (L : Rw) : Prop := ∀ p ∈ L, H p.1 = some (.tup (p.2.map kV))
theorem RowsH.t {H : Hp} {L : Rw} (h : RowsH H L) : RowsT K H L := fun p hp => SqT.of (h p hp)
theorem RowsH.same {H H' : Hp} {L : Rw} (h : RowsH H L) (s : Same H H') : RowsH H' L := fun p hp => s _ _ (h p hp)
theorem SetIs.next {κ : Nat → List Key} {i : Nat} {L L' : Rw} {a : Addr} (h : SetIs κ i L) (c1 : κ i ∈ L.map (·.2) → L' = L) (c2 : κ i ∉ L.map (·.2) → L'.Perm ((a, κ i) :: L)) : SetIs κ (i + 1) L' := by
  by_cases m : κ i ∈ L.map (·.2)
  · rw [c1 m]
    refine ⟨h.nd, fun k => ?_⟩
    rw [h.iff]
    constructor
    · rintro ⟨j, hj, e⟩; exact ⟨j, by omega, e⟩
    · rintro ⟨j, hj, e⟩
      by_cases z : j = i
      · subst z; subst e; exact (h.iff _).mp m
      · exact ⟨j, by omega, e⟩
  · have p := c2 m
    have p2 : (L'.map (·.2)).Perm (κ i :: L.map (·.2)) := p.map (·.2)
    refine ⟨p2.nodup_iff.mpr (List.nodup_cons.mpr ⟨m, h.nd⟩), fun k => ?_⟩
    rw [p2.mem_iff, List.mem_cons, h.iff]
    constructor
    · rintro (e | ⟨j, hj, e⟩)
      · exact ⟨i, by omega, e⟩
      · exact ⟨j, by omega, e⟩
    · rintro ⟨j, hj, e⟩
      by_cases z : j = i
      · left; rw [e, z]
      · exact .inr ⟨j, by omega, e⟩
theorem sr_rel (w' : Walk J n G Y) {g : TG} {te : TE} {vs : List Nat} {σ : L2.St} {H1 : Hp} {D : Addr} {Qd : Hp → Prop} (hD : H1 D = none) {dom : List (List Key)} (hdom : dom.length < 63) (κ : Nat → List Key) (hκ : ∀ i, i < n → κ i ∈ dom) (hG : ∀ H, Same H1 H → G H)
    (hs : ∀ i x H H', i < n → Same H1 H → Y i H x H' → g x (wipe σ vs) H' fun σ2 H2 => wipe σ2 vs = wipe σ vs ∧ te σ2 H2 fun y H4 => (∃ a, y = .ref a ∧ H4 a = some (.tup ((κ i).map kV))) ∧ Same H H4)
    (teM : ∀ σ H Q Q', (∀ y H', Q y H' → Q' y H') → te σ H Q → te σ H Q') (gM : ∀ v σ H Q Q', (∀ σ' H', Q σ' H' → Q' σ' H') → g v σ H Q → g v σ H Q')
    (hd : ∀ H' L, Same H1 H' → SetIs κ n L → RowsH H' L → H' D = some (SetRO P w D L) → Qd H') :
    ∃ W : Nat → Nat → Hp → Prop, (∃ m, W 0 m (upd H1 D (SetRO P w D []))) ∧ ∀ i m H, W i m H →
      (J.stop i H ∧ Qd H) ∨ (J.go i H ∧ ∃ Nx : Hp → Prop, (∀ H', Nx H' → ∃ m', m' < m ∧ W (i + 1) m' H') ∧ ∀ x H', J.yld i H x H' → g x (wipe σ vs) H' fun σ2 H2 => wipe σ2 vs = wipe σ vs ∧ tYes σ2 H2 fun b H3 =>
        if b = true then te σ2 H3 fun y H4 => ∃ (L : Rw) (x : Addr) (k : List Key), y = .ref x ∧ SqT K H4 x (k.map kV) ∧ H4 D = some (SetRO P w D L) ∧ RowsT K H4 L ∧ L.length + 1 < 64 ∧ ∀ L', (k ∈ L.map (·.2) → L' = L) → (k ∉ L.map (·.2) → L'.Perm ((x, k) :: L)) → Nx (upd H4 D (SetRO P w D L')) else Nx H3) := by
  refine ⟨fun i m H => i ≤ n ∧ m = n - i ∧ Same H1 H ∧ ∃ L : Rw, H D = some (SetRO P w D L) ∧ RowsH H L ∧ SetIs κ i L, ⟨n, Nat.zero_le _, rfl, same_new hD, [], upd_same, fun p hp => (by cases hp), ⟨.nil, fun k => ⟨fun h => (by cases h), fun ⟨j, hj, _⟩ => absurd hj (Nat.not_lt_zero _)⟩⟩⟩, ?_⟩
  rintro i m H ⟨hi, rfl, s1, L, eD, hL, S⟩
  by_cases lt : i < n
  · right
    refine ⟨w'.goes i H lt (hG H s1), fun H' => i + 1 ≤ n ∧ Same H1 H' ∧ ∃ L : Rw, H' D = some (SetRO P w D L) ∧ RowsH H' L ∧ SetIs κ (i + 1) L, fun H' ⟨a, b, c⟩ => ⟨n - (i + 1), by omega, a, rfl, b, c⟩, fun x H' y => ?_⟩
    refine gM _ _ _ _ _ (fun σ2 H2 ⟨e, q⟩ => ⟨e, ?_⟩) (hs i x H H' lt s1 (w'.yields i H x H' lt (hG H s1) y))
    refine teM _ _ _ _ (fun z H4 ⟨⟨a, ez, ha⟩, s4⟩ => ?_) q
    have fewL : L.length ≤ dom.length := by
      have := nodup_le (L.map (·.2)) dom S.nd (fun k hk => by
        obtain ⟨j, hj, e⟩ := (S.iff k).mp hk
        rw [e]; exact hκ j (by omega))
      rwa [List.length_map] at this
    refine ⟨L, a, κ i, ez, SqT.of ha, s4 _ _ eD, (hL.same s4).t, by omega, fun L' c1 c2 => ⟨by omega, fun b o eb => ?_, L', upd_same, ?_, S.next c1 c2⟩⟩
    · rw [upd_ne (ne_of_none eb hD)]
      exact s4 _ _ (s1 _ _ eb)
    · have all : RowsH H4 ((a, κ i) :: L) := fun p hp => by
        rcases List.mem_cons.mp hp with e | hp
        · rw [e]; exact ha
        · exact hL.same s4 p hp
      intro p hp
      have hp2 : p ∈ (a, κ i) :: L := by
        by_cases m : κ i ∈ L.map (·.2)
        · rw [c1 m] at hp; exact List.mem_cons_of_mem _ hp
        · exact (c2 m).mem_iff.mp hp
      have e := all p hp2
      have ne : p.1 ≠ D := fun q => by rw [q, s4 _ _ eD] at e; cases e
      rw [upd_ne ne]
      exact e
  · left
    have e : i = n := by omega
    subst e
    exact ⟨w'.stops H (hG H s1), hd H L s1 S hL eD⟩
end
end CpR
set_option Elab.async false
set_option linter.all false
set_option maxRecDepth 100000
set_option maxHeartbeats 1000000
/-! E08: paired. -/
namespace CpR
open PySem PySem.Spec PyProof.Rows L2 CpM CpS
theorem bs_paired : BindS "paired" "carpets" s_paired := fun _ _ _ _ _ _ _ rest => by
  cases rest <;> rfl
/-- the row of colours at a place -/
def rowK (M : List Cp) (x y : Int) : List Key := M.map fun m => .inr (sign (m.col x y))
theorem rowK_V (M : List Cp) (x y : Int) : (rowK M x y).map kV = colsV M x y := by
  rw [rowK, colsV, List.map_map]; rfl
theorem CmnC.low {M : List Cp} {W R Hh : Nat} (c : CmnC M W R Hh) (hM : ∀ m ∈ M, Ok m.W m.R m.Hh) (x y : Int) : ∀ m ∈ M, m.col x y = m.col (lowX W R Hh x y) (lowY Hh y) := fun m hm => by
  have z := col_shift (t := m.cs) (hM m hm) ((c.iff _ _).mp (low_in c.ok x y) m hm) (lowX W R Hh x y) (lowY Hh y)
  rw [show lowX W R Hh x y + (x - lowX W R Hh x y) = x by omega, show lowY Hh y + (y - lowY Hh y) = y by omega] at z
  exact z
theorem CmnC.row_low {M : List Cp} {W R Hh : Nat} (c : CmnC M W R Hh) (hM : ∀ m ∈ M, Ok m.W m.R m.Hh) (x y : Int) : rowK M x y = rowK M (lowX W R Hh x y) (lowY Hh y) :=
  List.map_congr_left fun m hm => by rw [c.low hM x y m hm]
/-- a text given by the places of the cell -/
theorem col_range {W R Hh : Nat} (h : Ok W R Hh) (φ : Int → Int → Nat) (x y : Int) : CpM.col W R Hh ((List.range (W * Hh)).map fun i => φ ((i % W : Nat) : Int) ((i / W : Nat) : Int)) x y = φ (lowX W R Hh x y) (lowY Hh y) := by
  obtain ⟨y1, y2⟩ := lowY_bd h y
  obtain ⟨x1, x2⟩ := lowX_bd h x y
  obtain ⟨a, ea⟩ := Int.eq_ofNat_of_zero_le x1
  obtain ⟨b, eb⟩ := Int.eq_ofNat_of_zero_le y1
  have la : a < W := by omega
  have lb : b < Hh := by omega
  have lt : b * W + a < W * Hh := by
    have : (b + 1) * W ≤ Hh * W := Nat.mul_le_mul_right _ lb
    rw [Nat.mul_comm Hh W, Nat.add_mul] at this
    omega
  unfold CpM.col
  rw [ea, eb, show ((b : Int) * W + a).toNat = b * W + a by rw [← Int.natCast_mul, ← Int.natCast_add]; rfl, List.getD_eq_getElem?_getD, List.getElem?_map, List.getElem?_range lt]
  show φ (((b * W + a) % W : Nat) : Int) (((b * W + a) / W : Nat) : Int) = φ a b
  rw [Nat.mul_comm b W, Nat.mul_add_mod, Nat.mod_eq_of_lt la, Nat.mul_add_div (by omega), Nat.div_eq_of_lt la, Nat.add_zero]
/-- all rows, in order -/
structure Known (M : List Cp) (ks : List (List Key)) : Prop where
  nd : ks.Nodup
  srt : ks.Pairwise fun a b => rLt b a = false
  iff : ∀ k, k ∈ ks ↔ ∃ x y, k = rowK M x y
theorem rowK_shp (M : List Cp) (x y : Int) : shp (rowK M x y) = M.map fun _ => false := by
  rw [rowK, shp, List.map_map]; rfl
theorem rw_of {H : Hp} (κ : Nat → List Key) : ∀ (ys : List V) (s : Nat), (∀ i y, ys[i]? = some y → ∃ a, y = .ref a ∧ H a = some (.tup ((κ (s + i)).map kV))) → ∃ L : Rw, ys = L.map (fun q => V.ref q.1) ∧ RowsH H L ∧ L.map (·.2) = (List.range' s ys.length).map κ
  | [], s, _ => ⟨[], rfl, fun p hp => (by cases hp), rfl⟩
  | y :: ys, s, h => by
    obtain ⟨a, e1, e2⟩ := h 0 y rfl
    obtain ⟨L, q1, q2, q3⟩ := rw_of κ ys (s + 1) fun i z hz => by
      have := h (i + 1) z (by simpa using hz)
      rwa [show s + (i + 1) = s + 1 + i by omega] at this
    refine ⟨(a, κ s) :: L, by rw [List.map_cons, ← q1, e1], fun p hp => ?_, ?_⟩
    · rcases List.mem_cons.mp hp with e | hp
      · rw [e]; exact e2
      · exact q2 p hp
    · rw [List.map_cons, q3]; rfl
/-- the place of k in ks -/
def ixOf (ks : List (List Key)) (k : List Key) : Nat := ks.findIdx fun z => decide (z = k)
theorem ixOf_lt {ks : List (List Key)} {k : List Key} (h : k ∈ ks) : ixOf ks k < ks.length := List.findIdx_lt_length_of_exists ⟨k, h, decide_eq_true rfl⟩
theorem ixOf_at {ks : List (List Key)} {k : List Key} (h : k ∈ ks) : ks[ixOf ks k]? = some k := by
  have lt := ixOf_lt h
  rw [List.getElem?_eq_getElem lt]
  have := List.findIdx_getElem (w := lt)
  exact congrArg some (of_decide_eq_true this)
theorem ixOf_first {ks : List (List Key)} {k z : List Key} {m : Nat} (h : m < ixOf ks k) (e : ks[m]? = some z) : z ≠ k := by
  have := List.not_of_lt_findIdx h
  obtain ⟨lt, e2⟩ := List.getElem?_eq_some_iff.mp e
  intro q
  exact absurd (e2.trans q) (of_decide_eq_false this)
/-! ### rows as data -/
section
variable {K : PySem.W.Frag} {H : Hp}
theorem dpAll_keys : ∀ k : List Key, DpAll K H (k.map kV) (k.map encK)
  | [] => .nil
  | .inl i :: k => .cons (.int i) (dpAll_keys k)
  | .inr x :: k => .cons (.str x) (dpAll_keys k)
theorem dp_row {k : List Key} {a : Addr} (h : H a = some (.tup (k.map kV))) : L2.Dp K H (.ref a) (encR k) := .tup (SqT.of h) (dpAll_keys k)
theorem dp_rows : ∀ {Y : Rw}, RowsH H Y → DpAll K H (Y.map fun q => V.ref q.1) (Y.map fun q => encR q.2)
  | [], _ => .nil
  | q :: Y, h => .cons (dp_row (h q List.mem_cons_self)) (dp_rows fun p hp => h p (List.mem_cons_of_mem _ hp))
end
theorem eqvAll_keys : ∀ {x y : List Key}, shp x = shp y → PyData.eqvAll (x.map encK) (y.map encK) = decide (x = y)
  | [], [], _ => by simp [PyData.eqvAll]
  | [], y :: ys, h => by simp [shp] at h
  | x :: xs, [], h => by simp [shp] at h
  | x :: xs, y :: ys, h => by
    have h' : shp xs = shp ys := by simpa [shp] using (List.cons.inj h).2
    have ha := (PySem.W.alike_all_cons (alike_shp h)).1
    rw [List.map_cons, List.map_cons, PyData.eqvAll, eqvAll_keys h', eqv_key ha, Bool.eq_iff_iff]
    simp
theorem eqv_row {x y : List Key} (h : shp x = shp y) : PyData.eqv (encR x) (encR y) = decide (x = y) := by
  rw [encR, encR, PyData.eqv]; exact eqvAll_keys h
/-- texts that can be told -/
def LowK (k : List Key) : Prop := ∀ x, Sum.inr x ∈ k → PyData.strOk x = true
theorem lay_keys : ∀ {k : List Key}, LowK k → PyData.canLayAll0 (k.map encK) = true
  | [], _ => by simp [PyData.canLayAll0]
  | .inl i :: k, h => by
    have ih := lay_keys (k := k) fun x hx => h x (List.mem_cons_of_mem _ hx)
    simp [PyData.canLayAll0, encK, PyData.canLay0, ih]
  | .inr x :: k, h => by
    have ih := lay_keys (k := k) fun x hx => h x (List.mem_cons_of_mem _ hx)
    have h0 := h x List.mem_cons_self
    simp [PyData.canLayAll0, encK, PyData.canLay0, ih, h0]
theorem lay_row {k : List Key} (h : LowK k) : PyData.canLay0 (encR k) = true := by
  rw [encR, PyData.canLay0]; exact lay_keys h
theorem dep_row (k : List Key) : PyData.depth (encR k) ≤ 1 := by
  rw [encR, PyData.depth, depth_row k]
  omega
theorem shaped_row {k : List Key} (h : LowK k) : SeqAt.shaped (encR k) = true := by
  have d := dep_row k
  show (PyData.canLay0 (encR k) && decide (PyData.depth (encR k) ≤ 64)) = true
  rw [lay_row h, decide_eq_true (by omega)]; rfl
theorem shaped_rows {ks : List (List Key)} (h : ∀ k ∈ ks, LowK k) : SeqAt.shaped (.list (ks.map encR)) = true := by
  have h1 : PyData.canLayAll0 (ks.map encR) = true := by
    induction ks with
    | nil => simp [PyData.canLayAll0]
    | cons k ks ih =>
      rw [List.map_cons, PyData.canLayAll0, lay_row (h k List.mem_cons_self), ih fun z hz => h z (List.mem_cons_of_mem _ hz)]; rfl
  have h2 : PyData.depthAll (ks.map encR) ≤ 1 := by
    clear h h1
    induction ks with
    | nil => simp [PyData.depthAll]
    | cons k ks ih =>
      rw [List.map_cons, PyData.depthAll]
      exact Nat.max_le.mpr ⟨dep_row k, ih⟩
  show (PyData.canLay0 (.list (ks.map encR)) && decide (PyData.depth (.list (ks.map encR)) ≤ 64)) = true
  rw [PyData.canLay0, h1, PyData.depth, decide_eq_true (by omega)]; rfl
def LowC (M : List Cp) : Prop := ∀ m ∈ M, ∀ x y, m.col x y < 128
theorem rowK_low {M : List Cp} (h : LowC M) (x y : Int) : LowK (rowK M x y) := fun z hz => by
  obtain ⟨m, hm, e⟩ := List.mem_map.mp hz
  injection e with e
  rw [← e]
  have := h m hm x y
  simp [PyData.strOk, sign]
  omega
section
variable {P : Program} {w : World} {K : PySem.W.Frag} {mg : Str → Option Value} {base : Heap} {CN CC CW CL CI CE : Addr}
def spPaired (CN CC CW CI CE : Addr) : Sp := fun vs H Q E => ∃ (p : Addr) (M : List Cp), vs = [.ref p] ∧ H p = some (.tup (M.map fun m => V.ref m.p)) ∧ CpsAt CN CC CW H M ∧ SmallC M ∧ LowC M ∧
  (M = [] → ∀ d, H d = none → E (.ref CI) (some d) (errAt H d "value" 0)) ∧
  (M ≠ [] → ∀ (W R Hh : Nat), CmnC M W R Hh → (W * Hh > 2000 → ∀ H' d, Same H H' → H' d = none → E (.ref CE) (some d) (errAt H' d "limit" 2000)) ∧
    (W * Hh ≤ 2000 → ∃ ks, Known M ks ∧ ks.length ≤ 26 ∧ ∀ H' (z : Cp), Same H H' → z.C = CW → z.Good CC CW → z.At CN H' → (∀ u v, InL W R Hh u v → InL z.W z.R z.Hh u v) → (∀ x y, z.col x y = 97 + ixOf ks (rowK M x y)) → Q (.ref z.p) H'))
theorem ok_paired (T : Txt K mg CN CC CW CL) (TE : TxtE K mg CI CE) : Df P w K mg base (L2.CX P w) 9 "paired" (starSp (spPaired CN CC CW CI CE)) := by
  refine df_starX T.d_paired sc_paired bs_paired (fun f cdv A outer s H vs Q E hr h => ?_)
  obtain ⟨p, M, rfl, hp, hM, sm, lw, k0, k1⟩ := h
  obtain ⟨tk, hL⟩ := T.c_LETTERS
  have n0 := sc_paired.nd
  have hu : (A.deeper (envOfC "paired" (defScope s_paired) s.heap.objs.size f cdv)).units + 66 < cLine := by have := hr.un; omega
  have hu0 : (A.deeper (envOfC "paired" (defScope s_paired) s.heap.objs.size f cdv)).units + 65 < cLine := by omega
  have hu1 : (A.deeper (envOfC "paired" (defScope s_paired) s.heap.objs.size f cdv)).units + 64 < cLine := by omega
  refine ⟨_, Evl.pss_cut (ps_set (i := 1) n0 rfl (.inl rfl) (pe_df (E := E) (ok_net_of_all T TE) hr (by decide) (by rfl) (passes_call (takes_of rfl rfl rfl rfl) (fun _ _ _ _ h => h)) (pa_cons (pv 0) pa_nil)))
    (Evl.pss_cut (CpB.ps_setLcG (i := 2) (own := [("place", 4)]) (g := gName 4) (tt := tYes) rfl (hr.mono (by decide)) n0 rfl rfl (sw_true rfl rfl rfl (by decide +kernel)) (pi_cellT T rfl (hr.mono (by decide)) (pv 1)) (blkOk_by (N := N_paired) (sc := defScope s_paired) (by decide +kernel))
      (fun _ _ _ _ _ => pg_name (i := 4) n0 rfl (Or.inl rfl)) (fun _ _ _ _ _ => pts_nil) (fun _ _ _ _ _ => pe_df (E := E0) (ok_colours_at T) hr (by decide) (by rfl) pass0 (pa_cons (pv 0) (pa_cons (pv 4) pa_nil))))
    (Evl.pss_cut (ps_set (i := 3) n0 rfl (.inr rfl) (pe_callB (cr_sortSet rfl hu) (by rfl) T.bt.sorted (by decide +kernel) (pa_cons (pe_sr (own := [("row", 5)]) (g := gName 5) (tt := tYes) rfl hu1 n0 (pi_list (pv 2)) (blkOk_by (N := N_paired) (sc := defScope s_paired) (by decide +kernel))
      (fun _ _ _ _ _ => pg_name (i := 5) n0 rfl (Or.inl rfl)) (fun _ _ _ _ _ => pts_nil) (fun _ _ _ _ _ => pv 5)) pa_nil)))
    (Evl.pss_cut (ps_if (pt_cmpR op_gt (pe_callB call_len_seq (by rfl) T.bt.len PySem.boot_len (pa_cons (pv 3) pa_nil)) (pe_callB call_len_str (by rfl) T.bt.len PySem.boot_len (pa_cons (pe_glob (v := .str lettersS) (by rfl) hL ⟨tk, rfl⟩) pa_nil)) (nomark _)) (pss_one ps_never) pss_nil)
    (pss_one (ps_ret (pe_dk (E := E0) (ok_Woven T) hr (by decide) (by rfl) pass0 (pa_cons (pv 1) (pa_cons (pe_join pe_str (pe_lc (own := [("row", 5)]) (g := gName 5) (tt := tYes) (te := tOp rIxS (tC (.str lettersS)) (tBM K "list" (rIndexD K) (tVar 3) (tCons (tVar 5) tNil))) rfl n0 (pi_list (pv 2)) (blkOk_by (N := N_paired) (sc := defScope s_paired) (by decide +kernel))
      (fun _ _ _ _ _ => pg_name (i := 5) n0 rfl (Or.inl rfl)) (fun _ _ _ _ _ => pts_nil) (fun _ _ _ _ _ => pe_ix ix_str (pe_glob (v := .str lettersS) (by rfl) hL ⟨tk, rfl⟩) (pe_bm PySem.F.plainAttrs_list PySem.F.slot_list_index PySem.F.type_list_index (mt_indexD hu0) (pv 3) (pa_cons (pv 5) pa_nil)) (fun _ _ => rfl)))) pa_nil)))))))), ?_⟩
  refine ⟨fun σ H' => Same H H' ∧ M ≠ [] ∧ ∃ n W R Hh, NetAt CN H' n W R Hh ∧ CmnC M W R Hh ∧ W * Hh ≤ 2000 ∧ σ = [some (.ref p), some (.ref n), none, none, none, none],
    ⟨_, rfl, p, M, rfl, hp, hM, sm, k0, fun ne H' n W R Hh s1 hn c => ⟨fun le => ⟨s1, ne, n, W, R, Hh, hn, c, le, rfl⟩, fun gt d hd => (k1 ne W R Hh c).1 gt H' d s1 hd⟩⟩, ?_⟩
  rintro σ H1 ⟨s1, ne, n, W, R, Hh, hn, c, le, rfl⟩
  obtain ⟨ks, kn, few, k⟩ := (k1 ne W R Hh c).2 le
  clear k0 k1
  have pa := c.ok.pa
  have bW : W ≤ 2000 := Nat.le_trans (Nat.le_mul_of_pos_right _ c.ok.2) le
  have bH : Hh ≤ 2000 := Nat.le_trans (Nat.le_mul_of_pos_left _ pa) le
  have few2 := sm.few
  obtain ⟨dn, tn, hn1, hn2⟩ := id hn
  refine ⟨fun σ H' => Same H1 H' ∧ ∃ (l : Addr) (L : Rw), H' l = some (.lst (L.map fun q => V.ref q.1)) ∧ RowsH H' L ∧ L.map (·.2) = (List.range (W * Hh)).map (fun i => rowK M ((i % W : Nat) : Int) ((i / W : Nat) : Int)) ∧ σ = [some (.ref p), some (.ref n), some (.ref l), none, none, none],
    ⟨_, rfl, n, dn, _, W, R, Hh, rfl, hn1, rfl, netRd_of T hn, pa, c.ok.2, by omega, by omega, fun D hD => lc_rel (walk_cell (K := K) (p := n) (a := W) (b := R) (c := Hh)) (by omega) hD
      (fun i y H' => ∃ a, y = .ref a ∧ H' a = some (.tup (colsV M ((i % W : Nat) : Int) ((i / W : Nat) : Int)))) (fun i y H2 H3 kp ⟨a, e1, e2⟩ => ⟨a, e1, kp _ _ e2 (fun xs e => nomatch e)⟩) (fun H' s' => netRd_of T (hn.same s'))
      (fun i x H2 H3 hi s2 hy => ?_) (fun σ H Q Q' f h => ?_) gName_mono (fun H' ys s2 el hR eD => ?_)⟩, ?_⟩
  · obtain ⟨q, hq, rfl, rfl⟩ := hy
    have s3 := same_new (o := .tup [V.int ((i % W : Nat) : Int), V.int ((i / W : Nat) : Int)]) hq
    have s4 := (s1.trans s2).trans s3
    exact ⟨rfl, _, rfl, _, rfl, p, q, M, _, _, rfl, s4 _ _ hp, fun m hm => ⟨(hM m hm).1, (hM m hm).2.same s4⟩, few2, upd_same, fun H' r s5 hr => ⟨⟨r, rfl, hr⟩, s3.trans s5⟩⟩
  · obtain ⟨v, e, v', e', p', q', M', x, y, e1, h1, h2, h3, h4, h⟩ := h
    exact ⟨v, e, v', e', p', q', M', x, y, e1, h1, h2, h3, h4, fun H' r s hr => f _ _ (h H' r s hr)⟩
  · obtain ⟨L, q1, q2, q3⟩ := rw_of (H := H') (fun i => rowK M ((i % W : Nat) : Int) ((i / W : Nat) : Int)) ys 0 (fun i y hy => by
      obtain ⟨a, e1, e2⟩ := hR i y hy
      refine ⟨a, e1, ?_⟩
      rw [rowK_V, Nat.zero_add]
      exact e2)
    rw [q1] at eD
    rw [el, ← List.range_eq_range'] at q3
    exact ⟨s2, D, L, eD, q2, q3, rfl⟩
  rintro σ H2 ⟨s2, l, L, hl, hL, eL, rfl⟩
  have rK : ∀ x y, ∃ i, i < W * Hh ∧ rowK M x y = rowK M ((i % W : Nat) : Int) ((i / W : Nat) : Int) := fun x y => by
    obtain ⟨i, hi, e⟩ := c.meet (fun m hm => (hM m hm).1.ok) x y
    exact ⟨i, hi, List.map_congr_left fun m hm => by rw [e m hm]⟩
  have lenL : L.length = W * Hh := by
    have := congrArg List.length eL
    simpa using this
  have atL : ∀ (i : Nat) (q : Addr × List Key), L[i]? = some q → i < W * Hh ∧ q.2 = rowK M ((i % W : Nat) : Int) ((i / W : Nat) : Int) := fun i q hq => by
    have lt : i < W * Hh := by rw [← lenL]; exact (List.getElem?_eq_some_iff.mp hq).1
    refine ⟨lt, ?_⟩
    have e : (L.map (·.2))[i]? = some q.2 := by rw [List.getElem?_map, hq]; rfl
    rw [eL, List.getElem?_map, List.getElem?_range lt] at e
    exact (Option.some.inj e).symm
  refine ⟨fun σ H' => Same H2 H' ∧ ∃ (r : Addr) (Y : Rw), H' r = some (.lst (Y.map fun q => V.ref q.1)) ∧ RowsH H' Y ∧ Y.map (·.2) = ks ∧ σ = [some (.ref p), some (.ref n), some (.ref l), some (.ref r), none, none],
    ⟨_, rfl, l, rfl, ⟨_, SqL.of hl⟩, fun D hD => sr_rel (walk_list (K := K) (a := l) (xs := L.map fun q => V.ref q.1)) hD (dom := ks) (by omega) (fun i => rowK M ((i % W : Nat) : Int) ((i / W : Nat) : Int)) (fun i _ => (kn.iff _).mpr ⟨_, _, rfl⟩) (fun H' s' => SqL.of (s' _ _ hl))
      (fun i x H3 H4 hi s3 hy => ?_) (fun σ H Q Q' f h => ?_) gName_mono (fun H' L' s3 S hL' eD => ?_)⟩, ?_⟩
  · obtain ⟨rfl, hx⟩ := hy
    rw [List.getElem?_map] at hx
    obtain ⟨q, hq, rfl⟩ := Option.map_eq_some_iff.mp hx
    obtain ⟨lt, e⟩ := atL i q hq
    refine ⟨rfl, _, rfl, ⟨q.1, rfl, ?_⟩, Same.refl _⟩
    rw [← e]
    exact s3 _ _ (hL q (List.mem_of_getElem? hq))
  · obtain ⟨v, e, h⟩ := h
    exact ⟨v, e, f _ _ h⟩
  · have hlen : (L.map fun q => V.ref q.1).length = W * Hh := by rw [List.length_map, lenL]
    rw [hlen] at S
    refine ⟨D, L', M.map (fun _ => false), rfl, eD, hL'.t, fun q hq => ?_, ?_, fun Y r pm nd sr hr => ?_⟩
    · obtain ⟨j, _, e⟩ := (S.iff q.2).mp (List.mem_map.mpr ⟨q, hq, rfl⟩)
      rw [e, rowK_shp]
    · intro e
      exact ne (List.map_eq_nil_iff.mp e)
    · have hY : RowsH H' Y := fun q hq => hL' q (pm.mem_iff.mp hq)
      refine ⟨s3.trans (same_new hr), r, Y, upd_same, hY.same (same_new hr), ?_, rfl⟩
      have memY : ∀ k, k ∈ Y.map (·.2) ↔ k ∈ ks := fun k => by
        rw [(pm.map (·.2)).mem_iff, S.iff, kn.iff]
        constructor
        · rintro ⟨j, hj, e⟩; exact ⟨_, _, e⟩
        · rintro ⟨x, y, e⟩
          obtain ⟨i, hi, e2⟩ := rK x y
          exact ⟨i, hi, e.trans e2⟩
      refine sorted_one (sh := M.map fun _ => false) ((List.perm_ext_iff_of_nodup nd kn.nd).mpr memY) (fun k hk => ?_) (List.pairwise_map.mpr sr) kn.srt
      obtain ⟨x, y, e⟩ := (kn.iff k).mp ((memY k).mp hk)
      rw [e, rowK_shp]
  rintro σ H3 ⟨s3, r, Y, hr3, hY, eY, rfl⟩
  have lenY : Y.length = ks.length := by rw [← eY, List.length_map]
  refine ⟨fun σ H' => H' = H3 ∧ σ = [some (.ref p), some (.ref n), some (.ref l), some (.ref r), none, none],
    ⟨_, rfl, r, _, rfl, .inl (SqL.of hr3), lettersS, rfl, by decide +kernel, _, _, rfl, rfl, _, rfl, ite2 (fun q => ?_) (fun _ => ⟨rfl, rfl⟩)⟩, ?_⟩
  · exfalso
    have q2 := of_decide_eq_true q
    rw [List.length_map, lenY] at q2
    have e26 : lettersS.length = 26 := by decide +kernel
    rw [e26] at q2
    omega
  rintro σ H4 ⟨rfl, rfl⟩
  have hl4 := s3 _ _ hl
  refine ⟨_, rfl, ⟨_, rfl⟩, _, rfl, l, rfl, ⟨_, SqL.of hl4⟩, fun D hD => lc_rel (walk_list (K := K) (a := l) (xs := L.map fun q => V.ref q.1)) (by rw [List.length_map, lenL]; omega) hD
    (fun i y _ => y = .str (sign (97 + ixOf ks (rowK M ((i % W : Nat) : Int) ((i / W : Nat) : Int))))) (fun _ _ _ _ _ r => r) (fun H' s' => SqL.of (s' _ _ hl4)) (fun i x H5 H6 hi s5 hy => ?_) (fun σ H Q Q' f h => ?_) gName_mono (fun H' ys s5 el hR eD => ?_)⟩
  · obtain ⟨rfl, hx⟩ := hy
    rw [List.getElem?_map] at hx
    obtain ⟨q, hq, rfl⟩ := Option.map_eq_some_iff.mp hx
    obtain ⟨lt, e⟩ := atL i q hq
    have mem : rowK M ((i % W : Nat) : Int) ((i / W : Nat) : Int) ∈ ks := (kn.iff _).mpr ⟨_, _, rfl⟩
    have jl := ixOf_lt mem
    have hq' : H6 q.1 = some (.tup ((rowK M ((i % W : Nat) : Int) ((i / W : Nat) : Int)).map kV)) := by
      rw [← e]; exact s5 _ _ (s3 _ _ (hL q (List.mem_of_getElem? hq)))
    have lowk : ∀ k ∈ ks, LowK k := fun k hk => by
      obtain ⟨x, y, e⟩ := (kn.iff k).mp hk
      rw [e]; exact rowK_low lw x y
    have hr6 := s5 _ _ hr3
    have dpY := dp_rows (K := K) (hY.same s5)
    rw [show (Y.map fun q => encR q.2) = ks.map encR by rw [← eY, List.map_map]; rfl] at dpY
    refine ⟨rfl, _, rfl, .inl ⟨rfl, _, SqL.of hr6⟩, _, rfl, r, .ref q.1, _, ks.map encR, ixOf ks (rowK M ((i % W : Nat) : Int) ((i / W : Nat) : Int)), encR (rowK M ((i % W : Nat) : Int) ((i / W : Nat) : Int)), rfl, rfl, .lst (SqL.of hr6) dpY, dp_row hq', shaped_rows lowk, shaped_row (lowk _ mem), ?_, ?_, fun m z' hm hz' => ?_, lettersS, _, 97 + ixOf ks (rowK M ((i % W : Nat) : Int) ((i / W : Nat) : Int)), rfl, rfl, by decide +kernel, atI_nat ?_, rfl, Same.refl _⟩
    · rw [List.getElem?_map, ixOf_at mem]; rfl
    · rw [eqv_row rfl]; exact decide_eq_true rfl
    · rw [List.getElem?_map] at hz'
      obtain ⟨k', hk', e'⟩ := Option.map_eq_some_iff.mp hz'
      have mk := List.mem_of_getElem? hk'
      obtain ⟨x', y', ek⟩ := (kn.iff k').mp mk
      rw [← e', eqv_row (by rw [ek, rowK_shp, rowK_shp])]
      exact decide_eq_false (ixOf_first hm hk')
    · rw [lettersS_list, letters, List.getElem?_map, List.getElem?_range (by omega)]; rfl
  · obtain ⟨v, e, ty, v', e', a1, y1, d1, ds, j, z, e1, e2, h1, h2, h3, h4, h5, h6, h7, z', i', c', e8, e9, h8, h9, h⟩ := h
    exact ⟨v, e, ty, v', e', a1, y1, d1, ds, j, z, e1, e2, h1, h2, h3, h4, h5, h6, h7, z', i', c', e8, e9, h8, h9, f _ _ h⟩
  · obtain ⟨cs, ecs⟩ : ∃ cs : List Nat, cs = (List.range (W * Hh)).map fun i => 97 + ixOf ks (rowK M ((i % W : Nat) : Int) ((i / W : Nat) : Int)) := ⟨_, rfl⟩
    have hcs : cs.length = W * Hh := by rw [ecs]; simp
    have eyl : ys.length = W * Hh := by rw [el, List.length_map, lenL]
    have ey : ys = (cs.map sign).map V.str := by
      apply List.ext_getElem?
      intro i
      by_cases lt : i < W * Hh
      · have g := List.getElem?_eq_getElem (show i < ys.length by omega)
        rw [g, hR i _ g, ecs, List.getElem?_map, List.getElem?_map, List.getElem?_map, List.getElem?_range lt]
        rfl
      · rw [List.getElem?_eq_none (by omega), List.getElem?_eq_none (by rw [List.length_map, List.length_map, hcs]; omega)]
    rw [ey] at eD
    refine ⟨_, D, _, rfl, rfl, .inl (SqL.of eD), ?_, ?_⟩
    · rw [sum_signs, List.length_map, hcs]
      have e0 : (Str.ofString "").length = 0 := by decide +kernel
      rw [e0]
      omega
    · rw [join_signs]
      refine woven_new (((hn.same s2).same s3).same s5) c.ok (by omega) (by omega) (by omega) hcs fun H7 x W' R' Hh' s7 hx Ls => ?_
      obtain ⟨d1, d2⟩ := sub_dvd c.ok Ls.ok Ls.sub
      have lW := Nat.le_of_dvd pa d1
      have lH := Nat.le_of_dvd c.ok.2 d2
      refine k H7 ⟨CW, x, W', R', Hh', cellText W R Hh cs W' Hh'⟩ ((((s1.trans s2).trans s3).trans s5).trans s7) rfl ⟨.inr rfl, Ls.ok, cellText_len _ _, by show W' < 4096; omega, by show Hh' < 4096; omega⟩ hx Ls.sub fun u v => ?_
      show CpM.col W' R' Hh' (cellText W R Hh cs W' Hh') u v = _
      rw [Ls.col, ecs, c.row_low (fun m hm => (hM m hm).1.ok) u v]
      exact col_range c.ok (fun x y => 97 + ixOf ks (rowK M x y)) u v
end
end CpR
set_option Elab.async false
set_option linter.all false
set_option maxRecDepth 100000
set_option maxHeartbeats 1000000
/-! CrG: a dict comprehension by a walk, all else stays. -/
namespace CpR
open PySem PySem.Spec PyProof.Rows L2 CpM CpS
section
variable {J : It} {n : Nat} {G : Hp → Prop} {Y : Nat → Hp → V → Hp → Prop}
theorem dc_rel (w : Walk J n G Y) (hn : n < 2 ^ 20) {g : TG} {tk tv : TE} {vs : List Nat} {σ : L2.St} {H1 : Hp} {D : Addr} {Qd : Hp → Prop} (hD : H1 D = none) (κ : Nat → Key) (val : Key → V) (hG : ∀ H, Same H1 H → G H)
    (hs : ∀ i x H H', i < n → Same H1 H → Y i H x H' → g x (wipe σ vs) H' fun σ2 H2 => wipe σ2 vs = wipe σ vs ∧ tk σ2 H2 fun y H4 => tv σ2 H4 fun z H5 => (y = kV (κ i) ∧ z = val (κ i)) ∧ Same H H5)
    (teM : ∀ σ H (Q Q' : V → V → Hp → Prop), (∀ y z H', Q y z H' → Q' y z H') → (tk σ H fun y H4 => tv σ H4 fun z H5 => Q y z H5) → tk σ H fun y H4 => tv σ H4 fun z H5 => Q' y z H5) (gM : ∀ v σ H Q Q', (∀ σ' H', Q σ' H' → Q' σ' H') → g v σ H Q → g v σ H Q')
    (hd : ∀ H' kvs, Same H1 H' → (∀ i, i < n → valV kvs (κ i) = some (val (κ i))) → H' D = some (.dK kvs) → Qd H') :
    ∃ W : Nat → Nat → Hp → Prop, (∃ m, W 0 m (upd H1 D (.dK []))) ∧ ∀ i m H, W i m H →
      (J.stop i H ∧ Qd H) ∨ (J.go i H ∧ ∃ Nx : Hp → Prop, (∀ H', Nx H' → ∃ m', m' < m ∧ W (i + 1) m' H') ∧ ∀ x H', J.yld i H x H' → g x (wipe σ vs) H' fun σ2 H2 => wipe σ2 vs = wipe σ vs ∧ tYes σ2 H2 fun b H3 =>
        if b = true then tk σ2 H3 fun y H4 => tv σ2 H4 fun z H5 => ∃ kvs k, y = kV k ∧ H5 D = some (.dK kvs) ∧ kvs.length < sizeLine ∧ Nx (upd H5 D (.dK (putK kvs k z))) else Nx H3) := by
  refine ⟨fun i m H => i ≤ n ∧ m = n - i ∧ Same H1 H ∧ ∃ kvs : List (Key × V), kvs.length ≤ i ∧ H D = some (.dK kvs) ∧ ∀ j, j < i → valV kvs (κ j) = some (val (κ j)), ⟨n, Nat.zero_le _, rfl, same_new hD, [], Nat.le_refl _, upd_same, fun j h => absurd h (Nat.not_lt_zero _)⟩, ?_⟩
  rintro i m H ⟨hi, rfl, s, kvs, el, eD, hR⟩
  by_cases lt : i < n
  · right
    refine ⟨w.goes i H lt (hG H s), fun H' => i + 1 ≤ n ∧ Same H1 H' ∧ ∃ kvs : List (Key × V), kvs.length ≤ i + 1 ∧ H' D = some (.dK kvs) ∧ ∀ j, j < i + 1 → valV kvs (κ j) = some (val (κ j)), fun H' ⟨a, b⟩ => ⟨n - (i + 1), by omega, a, rfl, b⟩, fun x H' y => ?_⟩
    refine gM _ _ _ _ _ (fun σ2 H2 ⟨e, q⟩ => ⟨e, ?_⟩) (hs i x H H' lt s (w.yields i H x H' lt (hG H s) y))
    refine teM _ _ _ _ (fun y z H5 ⟨⟨ey, ez⟩, s5⟩ => ?_) q
    refine ⟨kvs, κ i, ey, s5 _ _ eD, lt_line (by omega), lt, fun b o eb => ?_, putK kvs (κ i) z, ?_, upd_same, fun j hj => ?_⟩
    · rw [upd_ne (ne_of_none eb hD)]
      exact s5 _ _ (s _ _ eb)
    · have := length_putK kvs (κ i) z; omega
    · rw [valV_put]
      by_cases e : κ j = κ i
      · rw [if_pos e, e, ez]
      · rw [if_neg e]
        have : j ≠ i := fun q => e (by rw [q])
        exact hR j (by omega)
  · left
    have e : i = n := by omega
    subst e
    exact ⟨w.stops H (hG H s), hd H kvs s hR eD⟩
end
end CpR
set_option Elab.async false
set_option linter.all false
set_option maxRecDepth 100000
set_option maxHeartbeats 1000000
/-! E09: merged. -/
namespace CpR
open PySem PySem.Spec PyProof.Rows L2 CpM CpS
theorem bs_merged : BindS "merged" "carpets" s_merged := fun _ _ _ _ _ _ _ rest => by
  cases rest <;> rfl
theorem walk_enumT {K : PySem.W.Frag} {a : Addr} {xs : List V} : Walk (Iteu K a) xs.length (fun H => H a = some (.tup xs)) (fun i H v H' => ∃ T x, v = .ref T ∧ H T = none ∧ H' = upd H T (.tup [.int (i : Nat), x]) ∧ xs[i]? = some x) :=
  ⟨fun i _ hi q => ⟨xs, xs[i], SqT.of q, List.getElem?_eq_getElem hi⟩, fun _ q => ⟨xs, SqT.of q, rfl⟩, fun _ _ _ _ _ q ⟨T, x, e1, e2, e3, e4⟩ => ⟨T, x, e1, e2, e3, e4 xs (SqT.of q)⟩⟩
theorem LkAt.same {CL : Addr} {H H' : Hp} {p d : Addr} {g : Nat → Option Nat} {n : Nat} (h : LkAt CL H p d g n) (s : Same H H') : LkAt CL H' p d g n := by
  obtain ⟨dx, kvs, h1, h2, h3, D⟩ := h
  exact ⟨dx, kvs, s _ _ h1, s _ _ h2, h3, D.no, fun v u e => let ⟨a, e1, e2⟩ := D.yes v u e; ⟨a, e1, s _ _ e2⟩⟩
theorem kN_low (v : Nat) : LowK (kN v) := fun x hx => by
  rcases List.mem_cons.mp hx with e | hx
  · cases e
  · rcases List.mem_cons.mp hx with e | hx
    · injection e with e
      rw [e]
      have : v % 128 < 128 := Nat.mod_lt _ (by decide)
      generalize v % 128 = c at this
      simp [PyData.strOk, sign]
      omega
    · cases hx
theorem tx_at {cs : List Nat} {i c : Nat} (h : (tx cs).cps[i]? = some c) : cs[i]? = some c := by
  have e : (tx cs).cps = cs.toArray := rfl
  rw [e] at h
  simpa using h
theorem tx_size (cs : List Nat) : (tx cs).cps.size = cs.length := by simp [tx]
theorem cs_col {m : Cp} (ok : Ok m.W m.R m.Hh) (hl : m.cs.length = m.W * m.Hh) {c : Nat} (h : c ∈ m.cs) : ∃ x y, c = m.col x y := by
  obtain ⟨i, hi, e⟩ := List.getElem_of_mem h
  have pa := ok.pa
  refine ⟨((i % m.W : Nat) : Int), ((i / m.W : Nat) : Int), ?_⟩
  have hi2 : i < m.W * m.Hh := by rw [← hl]; exact hi
  have l1 : i % m.W < m.W := Nat.mod_lt _ pa
  have l2 : i / m.W < m.Hh := Nat.div_lt_of_lt_mul hi2
  have e1 : lowY m.Hh ((i / m.W : Nat) : Int) = ((i / m.W : Nat) : Int) := by
    rw [lowY_mod, Int.emod_eq_of_lt (Int.natCast_nonneg _) (Int.ofNat_lt.mpr l2)]
  have e2 : lowX m.W m.R m.Hh ((i % m.W : Nat) : Int) ((i / m.W : Nat) : Int) = ((i % m.W : Nat) : Int) := by
    unfold lowX
    rw [Int.ediv_eq_zero_of_lt (Int.natCast_nonneg _) (Int.ofNat_lt.mpr l2), Int.zero_mul, Int.sub_zero, Int.emod_eq_of_lt (Int.natCast_nonneg _) (Int.ofNat_lt.mpr l1)]
  show c = CpM.col m.W m.R m.Hh m.cs _ _
  unfold CpM.col
  rw [e1, e2, show (((i / m.W : Nat) : Int) * m.W + ((i % m.W : Nat) : Int)).toNat = i by
    rw [← Int.natCast_mul, ← Int.natCast_add, Int.toNat_natCast, Nat.mul_comm]; exact Nat.div_add_mod i m.W, List.getD_eq_getElem?_getD, List.getElem?_eq_getElem hi]
  exact e.symm
theorem fI_lt {ds : List Nat} {d : Nat} (h : d ∈ ds) : ds.findIdx (fun z => decide (z = d)) < ds.length := List.findIdx_lt_length_of_exists ⟨d, h, decide_eq_true rfl⟩
theorem fI_at {ds : List Nat} {d : Nat} (h : d ∈ ds) : ds[ds.findIdx (fun z => decide (z = d))]? = some d := by
  have lt := fI_lt h
  rw [List.getElem?_eq_getElem lt]
  have := List.findIdx_getElem (w := lt)
  exact congrArg some (of_decide_eq_true this)
theorem fI_first {ds : List Nat} {d z m : Nat} (h : m < ds.findIdx (fun z => decide (z = d))) (e : ds[m]? = some z) : z ≠ d := by
  have := List.not_of_lt_findIdx h
  obtain ⟨lt, e2⟩ := List.getElem?_eq_some_iff.mp e
  intro q
  exact absurd (e2.trans q) (of_decide_eq_false this)
section
variable {P : Program} {w : World} {K : PySem.W.Frag} {mg : Str → Option Value} {base : Heap} {CN CC CW CL CI CE : Addr}
/-- what the links of merged tie: the colour of the first carpet with those of all, at a place -/
def TieP (M : List Cp) : Nat → Nat → Prop := fun a b => ∃ x y j m m0, M[0]? = some m0 ∧ M[j]? = some m ∧ a = m0.col x y ∧ b = j * 128 + m.col x y
/-- φ: the least colour of the class; ds: all of them in order -/
structure LeastC (M : List Cp) (m0 : Cp) (φ : Nat → Nat) (ds : List Nat) : Prop where
  tied : ∀ x y, Tied (TieP M) (m0.col x y) (φ (m0.col x y))
  least : ∀ x y b, Tied (TieP M) (m0.col x y) b → φ (m0.col x y) ≤ b
  srt : ds.Pairwise (· < ·)
  iff : ∀ d, d ∈ ds ↔ ∃ x y, d = φ (m0.col x y)
def LetC (M : List Cp) : Prop := ∀ m ∈ M, ∀ c ∈ m.cs, c ∈ letters
def spMerged (CN CC CW CI CE : Addr) : Sp := fun vs H Q E => ∃ (p : Addr) (M : List Cp), vs = [.ref p] ∧ H p = some (.tup (M.map fun m => V.ref m.p)) ∧ CpsAt CN CC CW H M ∧ SmallC M ∧ LowC M ∧ LetC M ∧
  (M = [] → ∀ d, H d = none → E (.ref CI) (some d) (errAt H d "value" 0)) ∧
  (M ≠ [] → ∀ (W R Hh : Nat), CmnC M W R Hh → (W * Hh > 2000 → ∀ H' d, Same H H' → H' d = none → E (.ref CE) (some d) (errAt H' d "limit" 2000)) ∧
    (W * Hh ≤ 2000 → ∃ m0 φ ds, M[0]? = some m0 ∧ LeastC M m0 φ ds ∧ ds.length ≤ 26 ∧ ∀ H' (z : Cp), Same H H' → z.C = CW → z.Good CC CW → z.At CN H' → (∀ u v, InL W R Hh u v → InL z.W z.R z.Hh u v) → (∀ x y, z.col x y = 97 + ds.findIdx (fun d => decide (d = φ (m0.col x y)))) → Q (.ref z.p) H'))
theorem ok_merged (T : Txt K mg CN CC CW CL) (TE : TxtE K mg CI CE) : Df P w K mg base (L2.CX P w) 9 "merged" (starSp (spMerged CN CC CW CI CE)) := by
  refine df_starX T.d_merged sc_merged bs_merged (fun f cdv A outer s H vs Q E hr h => ?_)
  obtain ⟨p, M, rfl, hp, hM, sm, lw, lt, k0, k1⟩ := h
  obtain ⟨tk, hL⟩ := T.c_LETTERS
  have n0 := sc_merged.nd
  have hu : (A.deeper (envOfC "merged" (defScope s_merged) s.heap.objs.size f cdv)).units + 66 < cLine := by have := hr.un; omega
  have hu0 : (A.deeper (envOfC "merged" (defScope s_merged) s.heap.objs.size f cdv)).units + 65 < cLine := by omega
  have hu1 : (A.deeper (envOfC "merged" (defScope s_merged) s.heap.objs.size f cdv)).units + 64 < cLine := by omega
  have hu3 : (A.deeper (envOfC "merged" (defScope s_merged) s.heap.objs.size f cdv)).units + 1 < cLine := by omega
  refine ⟨_, Evl.pss_cut (ps_set (i := 1) n0 rfl (.inl rfl) (pe_df (E := E) (ok_net_of_all T TE) hr (by decide) (by rfl) (passes_call (takes_of rfl rfl rfl rfl) (fun _ _ _ _ h => h)) (pa_cons (pv 0) pa_nil)))
    (Evl.pss_cut (ps_set (i := 6) n0 rfl (.inr rfl) (pe_dk0 (E := E0) (ok_Links T) hr (by decide) (by rfl) pass0))
    (Evl.pss_cut (CpB.ps_forG (passes_of rfl) rfl (hr.mono (by decide)) (pi_cellT T rfl (hr.mono (by decide)) (pv 1)) (pg_name (i := 2) n0 rfl (.inl rfl))
      (Evl.pss_cut (ps_set (i := 3) n0 rfl (.inl rfl) (pe_df (E := E0) (ok_colours_at T) hr (by decide) (by rfl) pass0 (pa_cons (pv 0) (pa_cons (pv 2) pa_nil))))
      (pss_one (ps_for PassesOwn.never rfl (pi_enumT (by rfl) T.bt.enumerate (pa_cons (pv 3) pa_nil)) (pg_tup rfl (pgs_cons (pg_name (i := 4) n0 rfl (.inl rfl)) (pgs_cons (pg_name (i := 5) n0 rfl (.inl rfl)) pgs_nil)))
        (pss_one (ps_expr (pe_dm (E := E0) (ok_link T) T.cls_CL hr (by decide) pass0 (pv 6) (pa_cons (pe_tup (pa_cons pe_int (pa_cons (pe_ix ix_tup (pv 3) pe_int (fun _ _ => rfl)) pa_nil))) (pa_cons (pe_tup (pa_cons (pv 4) (pa_cons (pv 5) pa_nil))) pa_nil)))))))))
    (Evl.pss_cut (ps_set (i := 7) n0 rfl (.inr rfl) (pe_callB (cr_sortSet rfl hu) (by rfl) T.bt.sorted (by decide +kernel) (pa_cons (pe_sr (own := [("colour", 5)]) (g := gName 5) (tt := tYes) (te := tMethR CL "representative" (spLkRep CL) E0 (tVar 6) (tCons (tTup (tCons (tC (.int 0)) (tCons (tVar 5) tNil))) tNil)) rfl hu1 n0
        (pi_str (pe_dpA (S := Kin CC CW) (E := E0) (ok_colours T) (kin_cls T) hr (by decide) pass0 (pe_ix ix_tup (pv 0) pe_int (fun _ _ => rfl)))) (blkOk_by (N := N_merged) (sc := defScope s_merged) (by decide +kernel))
        (fun _ _ _ _ _ => pg_name (i := 5) n0 rfl (Or.inl rfl)) (fun _ _ _ _ _ => pts_nil) (fun _ _ _ _ _ => pe_dm (E := E0) (ok_representative T) T.cls_CL hr (by decide) pass0 (pv 6) (pa_cons (pe_tup (pa_cons pe_int (pa_cons (pv 5) pa_nil))) pa_nil))) pa_nil)))
    (Evl.pss_cut (ps_set (i := 8) n0 rfl (.inr rfl) (pe_dc (own := [("colour", 5)]) (g := gName 5) (tt := tYes) (tk := tVar 5) (tv := tOp rIxS (tC (.str lettersS)) (tBM K "list" (rIndexD K) (tVar 7) (tCons (tMethR CL "representative" (spLkRep CL) E0 (tVar 6) (tCons (tTup (tCons (tC (.int 0)) (tCons (tVar 5) tNil))) tNil)) tNil))) rfl n0
        (pi_str (pe_dpA (S := Kin CC CW) (E := E0) (ok_colours T) (kin_cls T) hr (by decide) pass0 (pe_ix ix_tup (pv 0) pe_int (fun _ _ => rfl)))) (blkOk_by (N := N_merged) (sc := defScope s_merged) (by decide +kernel))
        (fun _ _ _ _ _ => pg_name (i := 5) n0 rfl (Or.inl rfl)) (fun _ _ _ _ _ => pts_nil) (fun _ _ _ _ _ => pv 5)
        (fun _ _ _ _ _ => pe_ix ix_str (pe_glob (v := .str lettersS) (by rfl) hL ⟨tk, rfl⟩) (pe_bm PySem.F.plainAttrs_list PySem.F.slot_list_index PySem.F.type_list_index (mt_indexD hu0) (pv 7) (pa_cons (pe_dm (E := E0) (ok_representative T) T.cls_CL hr (by decide) pass0 (pv 6) (pa_cons (pe_tup (pa_cons pe_int (pa_cons (pv 5) pa_nil))) pa_nil)) pa_nil)) (fun _ _ => rfl))))
    (pss_one (ps_ret (pe_dk (E := E0) (ok_Woven T) hr (by decide) (by rfl) pass0 (pa_cons (pv 1) (pa_cons (pe_join pe_str (CpB.pe_lcG (own := [("place", 2)]) (g := gName 2) (tt := tYes) (te := tDGet (tVar 8) (tMethA (Kin CC CW) "seen" (spSeen CN) E0 (tOp (rIxT K) (tVar 0) (tC (.int 0))) (tCons (tVar 2) tNil))) rfl (hr.mono (by decide)) n0 (pi_cellT T rfl (hr.mono (by decide)) (pv 1)) (blkOk_by (N := N_merged) (sc := defScope s_merged) (by decide +kernel))
        (fun _ _ _ _ _ => pg_name (i := 2) n0 rfl (Or.inl rfl)) (fun _ _ _ _ _ => pts_nil) (fun _ _ _ _ _ => pe_dget hu3 (pv 8) (pe_dmA (S := Kin CC CW) (E := E0) (ok_seen T) (kin_cls T) hr (by decide) pass0 (pe_ix ix_tup (pv 0) pe_int (fun _ _ => rfl)) (pa_cons (pv 2) pa_nil)) (fun _ _ => rfl)))) pa_nil))))))))), ?_⟩
  refine ⟨fun σ H' => Same H H' ∧ M ≠ [] ∧ ∃ n W R Hh, NetAt CN H' n W R Hh ∧ CmnC M W R Hh ∧ W * Hh ≤ 2000 ∧ σ = [some (.ref p), some (.ref n), none, none, none, none, none, none, none],
    ⟨_, rfl, p, M, rfl, hp, hM, sm, k0, fun ne H' n W R Hh s1 hn c => ⟨fun le => ⟨s1, ne, n, W, R, Hh, hn, c, le, rfl⟩, fun gt d hd => (k1 ne W R Hh c).1 gt H' d s1 hd⟩⟩, ?_⟩
  rintro σ H1 ⟨s1, ne, n, W, R, Hh, hn, c, le, rfl⟩
  obtain ⟨m0, φ, ds, hm0, lc, few, k⟩ := (k1 ne W R Hh c).2 le
  clear k0 k1
  have pa := c.ok.pa
  have bW : W ≤ 2000 := Nat.le_trans (Nat.le_mul_of_pos_right _ c.ok.2) le
  have bH : Hh ≤ 2000 := Nat.le_trans (Nat.le_mul_of_pos_left _ pa) le
  have few2 := sm.few
  refine ⟨fun σ H' => Same H1 H' ∧ ∃ (q d : Addr), H1 d = none ∧ LkAt CL H' q d (fun _ => none) 0 ∧ σ = [some (.ref p), some (.ref n), none, none, none, none, some (.ref q), none, none], ?_, ?_⟩
  · refine fun x dx hx hdx nx => ⟨x, dx, rfl, upd_same, fun H' d kp hdn hp' hd2 => ⟨rfl, ?_⟩⟩
    have nd : d ≠ x := fun e => by rw [e, upd_same] at hdn; cases hdn
    have nd2 : d ≠ dx := fun e => by rw [upd_ne nd, e, upd_same] at hdn; cases hdn
    refine ⟨fun y o e => kp y o (ne_of_none e hx) (made_same hx hdx _ _ e), x, d, ?_, ⟨dx, [], hp', hd2, Nat.le_refl _, ⟨fun _ _ => rfl, fun v u e => (by cases e)⟩⟩, rfl⟩
    rw [upd_ne nd, upd_ne nd2] at hdn
    exact hdn
  rintro σ H2 ⟨s2, q, d, hd, hq, rfl⟩
  obtain ⟨dn, tn, hn1, hn2⟩ := id hn
  refine ⟨fun σ H' => Same H1 H' ∧ ∃ g N, LkAt CL H' q d g N ∧ Links (TieP M) g ∧ ∃ z1 z2 z3 z4, σ = [some (.ref p), some (.ref n), z1, z2, z3, z4, some (.ref q), none, none],
    ⟨_, rfl, n, dn, _, W, R, Hh, rfl, s2 _ _ hn1, rfl, netRd_of T (hn.same s2), pa, c.ok.2, by omega, by omega, ?_⟩, ?_⟩
  · -- the places
    refine for_it (walk_cell (K := K) (p := n) (a := W) (b := R) (c := Hh)) (fun i σ H' => Same H1 H' ∧ ∃ g, LkAt CL H' q d g (i * M.length) ∧ Links (fun a b => ∃ t j m, t < i ∧ M[j]? = some m ∧ a = m0.col ((t % W : Nat) : Int) ((t / W : Nat) : Int) ∧ b = j * 128 + m.col ((t % W : Nat) : Int) ((t / W : Nat) : Int)) g ∧ ∃ z1 z2 z3 z4, σ = [some (.ref p), some (.ref n), z1, z2, z3, z4, some (.ref q), none, none])
      ⟨s2, _, by rw [Nat.zero_mul]; exact hq, Links.nil (fun a b ⟨t, j, m, h, _⟩ => absurd h (Nat.not_lt_zero _)), _, _, _, _, rfl⟩ (fun i σ H' _ ⟨s', _⟩ => netRd_of T (hn.same s')) (fun i x σ H3 H4 hi ⟨s3, g, hg, lk, z1, z2, z3, z4, eo⟩ hy => ?_) (fun σ H' ⟨s3, g, hg, lk, z1, z2, z3, z4, eo⟩ => ?_)
    · subst eo
      obtain ⟨q2, hq2, rfl, rfl⟩ := hy
      have s4 := same_new (o := .tup [V.int ((i % W : Nat) : Int), V.int ((i / W : Nat) : Int)]) hq2
      have s5 := (s1.trans s3).trans s4
      let X0 : Int := ((i % W : Nat) : Int)
      let Y0 : Int := ((i / W : Nat) : Int)
      refine ⟨fun σ H' => Same H3 H' ∧ ∃ r, H' r = some (.tup (colsV M X0 Y0)) ∧ σ = [some (.ref p), some (.ref n), some (.ref q2), some (.ref r), z3, z4, some (.ref q), none, none],
        ⟨_, rfl, _, rfl, p, q2, M, X0, Y0, rfl, s5 _ _ hp, fun m hm => ⟨(hM m hm).1, (hM m hm).2.same s5⟩, few2, upd_same, fun H5 r s6 hr => ⟨s4.trans s6, r, hr, rfl⟩⟩, ?_⟩
      rintro σ H5 ⟨s6, r, hr, rfl⟩
      have hrd : ∀ (H' : Hp) (g : Nat → Option Nat) (N : Nat), LkAt CL H' q d g N → H' r = some (.tup (colsV M X0 Y0)) → r ≠ d := fun H' g N ⟨_, _, _, e1, _⟩ e2 e => by rw [e, e1] at e2; cases e2
      have hg5 : LkAt CL H5 q d g (i * M.length) := hg.same s6
      refine ⟨_, rfl, r, colsV M X0 Y0, rfl, SqT.of hr, for_it (walk_enumT (K := K) (a := r) (xs := colsV M X0 Y0)) (fun j σ H' => Same H1 H' ∧ H' r = some (.tup (colsV M X0 Y0)) ∧ ∃ g', LkAt CL H' q d g' (i * M.length + j) ∧ Links (fun a b => (∃ t j m, t < i ∧ M[j]? = some m ∧ a = m0.col ((t % W : Nat) : Int) ((t / W : Nat) : Int) ∧ b = j * 128 + m.col ((t % W : Nat) : Int) ((t / W : Nat) : Int)) ∨ ∃ j' m, j' < j ∧ M[j']? = some m ∧ a = m0.col X0 Y0 ∧ b = j' * 128 + m.col X0 Y0) g' ∧ ∃ z3 z4, σ = [some (.ref p), some (.ref n), some (.ref q2), some (.ref r), z3, z4, some (.ref q), none, none])
        ⟨s3.trans s6, hr, g, hg5, lk.cgr fun a b => ⟨fun h => .inl h, fun h => h.elim id fun ⟨_, _, h, _⟩ => absurd h (Nat.not_lt_zero _)⟩, z3, z4, rfl⟩ (fun j σ H' _ ⟨_, h, _⟩ => h) (fun j x σ H6 H7 hj ⟨s7, hr6, g6, hg6, lk6, z5, z6, eo⟩ hy => ?_) (fun σ H' ⟨s7, hr6, g6, hg6, lk6, z5, z6, eo⟩ => ?_)⟩
      · subst eo
        obtain ⟨T2, x', rfl, hT, rfl, hx⟩ := hy
        rw [colsV, List.getElem?_map] at hx
        obtain ⟨m, hm, rfl⟩ := Option.map_eq_some_iff.mp hx
        have h6 := same_new (o := .tup [V.int (j : Nat), V.str (sign (m.col X0 Y0))]) hT
        obtain ⟨dl, kvs, hq6, _⟩ := id (hg6.same h6)
        have at0 : atI (colsV M X0 Y0) 0 = some (.str (sign (m0.col X0 Y0))) := atI_nat (j := 0) (by rw [colsV, List.getElem?_map, hm0]; rfl)
        refine ⟨T2, _, rfl, SqT.of upd_same, rfl, _, _, rfl, _, _, rfl, rfl, _, rfl, q, dl, _, rfl, hq6, rfl, ?_⟩
        have hr7 := h6 _ _ hr6
        refine ⟨_, rfl, r, _, _, _, rfl, rfl, SqT.of hr7, at0, two_line, fun a ha => ?_⟩
        have h8 := same_new (o := .tup [V.int 0, V.str (sign (m0.col X0 Y0))]) ha
        refine ⟨_, rfl, _, rfl, two_line, fun b hb => ?_⟩
        have h9 := same_new (o := .tup [V.int (j : Nat), V.str (sign (m.col X0 Y0))]) hb
        have hA := ((h6.trans h8).trans h9)
        have l0 := lw m0 (List.mem_of_getElem? hm0) X0 Y0
        have l1 := lw m (List.mem_of_getElem? hm) X0 Y0
        have jl : j < M.length := (List.getElem?_eq_some_iff.mp hm).1
        refine ⟨q, d, a, b, g6, i * M.length + j, m0.col X0 Y0, j * 128 + m.col X0 Y0, rfl, hg6.same hA, lk6.dn, ?_, ?_, ?_, fun H' kp hL' => ?_⟩
        · have : i * M.length ≤ 2000 * 100 := Nat.mul_le_mul (by omega) few2
          omega
        · show upd _ b _ a = _
          rw [upd_ne (ne_of_none upd_same hb), upd_same, show m0.col X0 Y0 / 128 = 0 by omega, show m0.col X0 Y0 % 128 = m0.col X0 Y0 by omega]
          rfl
        · show upd _ b _ b = _
          rw [upd_same, show (j * 128 + m.col X0 Y0) / 128 = j by omega, show (j * 128 + m.col X0 Y0) % 128 = m.col X0 Y0 by omega]
        · have nrd := hrd _ _ _ hg6 hr6
          refine ⟨fun z o e => ?_, kp _ _ nrd (hA _ _ hr6), _, hL', (lk6.next _ _).cgr fun a b => ⟨?_, ?_⟩, _, _, rfl⟩
          · have nz : z ≠ d := fun e2 => by rw [e2, hd] at e; cases e
            exact kp _ _ nz (hA _ _ (s7 _ _ e))
          · rintro ((h | ⟨j', m', h1, h2, h3, h4⟩) | ⟨rfl, rfl⟩)
            · exact .inl h
            · exact .inr ⟨j', m', by omega, h2, h3, h4⟩
            · exact .inr ⟨j, m, Nat.lt_succ_self _, hm, rfl, rfl⟩
          · rintro (h | ⟨j', m', h1, h2, h3, h4⟩)
            · exact .inl (.inl h)
            · by_cases z : j' = j
              · subst z
                have em : m' = m := by rw [hm] at h2; exact (Option.some.inj h2).symm
                subst em
                exact .inr ⟨h3, h4⟩
              · exact .inl (.inr ⟨j', m', by omega, h2, h3, h4⟩)
      · rw [show (colsV M X0 Y0).length = M.length by rw [colsV, List.length_map]] at hg6 lk6
        refine ⟨s7, g6, by rw [Nat.add_mul, Nat.one_mul]; exact hg6, lk6.cgr fun a b => ⟨?_, ?_⟩, _, _, _, _, eo⟩
        · rintro (⟨t, j, m, h1, h2⟩ | ⟨j, m, h1, h2, h3, h4⟩)
          · exact ⟨t, j, m, by omega, h2⟩
          · exact ⟨i, j, m, by omega, h2, h3, h4⟩
        · rintro ⟨t, j, m, h1, h2, h3, h4⟩
          by_cases z : t = i
          · subst z
            exact .inr ⟨j, m, (List.getElem?_eq_some_iff.mp h2).1, h2, h3, h4⟩
          · exact .inl ⟨t, j, m, by omega, h2, h3, h4⟩
    · refine ⟨s3, g, _, hg, lk.cgr fun a b => ⟨fun ⟨t, j, m, _, h1, h2, h3⟩ => ⟨_, _, j, m, m0, hm0, h1, h2, h3⟩, fun ⟨x, y, j, m, m', h0, h1, h2, h3⟩ => ?_⟩, z1, z2, z3, z4, eo⟩
      have e0 : m' = m0 := by rw [hm0] at h0; exact (Option.some.inj h0).symm
      subst e0
      obtain ⟨t, ht, e⟩ := c.meet (fun m hm => (hM m hm).1.ok) x y
      exact ⟨t, j, m, ht, h1, by rw [h2]; exact e m' (List.mem_of_getElem? hm0), by rw [h3, e m (List.mem_of_getElem? h1)]⟩
  rintro σ H3 ⟨s3, g, N, hq3, lk, z1, z2, z3, z4, rfl⟩
  have mem0 := List.mem_of_getElem? hm0
  have G0 := (hM m0 mem0).1
  have hM3 : ∀ H', Same H3 H' → m0.At CN H' := fun H' s' => ((hM m0 mem0).2.same (s1.trans s3)).same s'
  have hp3 : ∀ H', Same H3 H' → H' p = some (.tup (M.map fun m => V.ref m.p)) := fun H' s' => s' _ _ (s3 _ _ (s1 _ _ hp))
  have at0 : atI (M.map fun m => V.ref m.p) 0 = some (.ref m0.p) := atI_nat (j := 0) (by rw [List.getElem?_map, hm0]; rfl)
  obtain ⟨c0, ec0⟩ : ∃ c0, c0 = letters.filter fun c => decide (c ∈ m0.cs) := ⟨_, rfl⟩
  have len0 : c0.length ≤ 26 := by
    have l1 := List.length_filter_le (fun c => decide (c ∈ m0.cs)) letters
    have l3 : letters.length = 26 := by decide
    rw [ec0]; omega
  have c0m : ∀ x y, m0.col x y ∈ c0 := fun x y => by
    have mm : m0.col x y ∈ m0.cs := col_mem G0.ok G0.len x y
    rw [ec0]
    exact List.mem_filter.mpr ⟨lt m0 mem0 _ mm, decide_eq_true mm⟩
  have c0c : ∀ c ∈ c0, ∃ x y, c = m0.col x y := fun c hc => by
    rw [ec0] at hc
    exact cs_col G0.ok G0.len (of_decide_eq_true (List.mem_filter.mp hc).2)
  have szc : m0.cs.length < 2 ^ 20 := by
    obtain ⟨d1, d2⟩ := sub_dvd c.ok G0.ok fun u v h => (c.iff u v).mp h m0 mem0
    have := Nat.mul_le_mul (Nat.le_of_dvd pa d1) (Nat.le_of_dvd c.ok.2 d2)
    rw [G0.len]
    omega
  have rphi : ∀ x y, rep g (m0.col x y) = φ (m0.col x y) := fun x y => Nat.le_antisymm (lk.least (lc.tied x y)) (lc.least x y _ (lk.tied_rep _))
  have c128 : ∀ c ∈ c0, c < 128 := fun c hc => by
    obtain ⟨x, y, e⟩ := c0c c hc
    rw [e]; exact lw m0 mem0 x y
  have rds : ∀ c ∈ c0, rep g c ∈ ds := fun c hc => by
    obtain ⟨x, y, e⟩ := c0c c hc
    rw [e]; exact (lc.iff _).mpr ⟨x, y, rphi x y⟩
  have nd1 : ∀ (H' : Hp) (a : Addr) (c : Nat), c ∈ c0 → NdAt (upd H' a (.tup [V.int 0, V.str (sign c)])) a c := fun H' a c hc => by
    show upd H' a _ a = _
    have := c128 c hc
    rw [upd_same, show c / 128 = 0 by omega, show c % 128 = c by omega]
    rfl
  -- the representatives
  refine ⟨fun σ H' => Same H3 H' ∧ ∃ (r : Addr) (Y : Rw), H' r = some (.lst (Y.map fun q => V.ref q.1)) ∧ RowsH H' Y ∧ Y.map (·.2) = ds.map kN ∧ σ = [some (.ref p), some (.ref n), z1, z2, z3, z4, some (.ref q), some (.ref r), none], ?_, ?_⟩
  · obtain ⟨dx0, n0', hm1, hm2⟩ := id (hM3 H3 (Same.refl _))
    refine ⟨_, rfl, p, _, _, _, rfl, rfl, SqT.of (hp3 _ (Same.refl _)), at0, m0.C, m0.p, dx0, _, G0.kin, rfl, hm1, m0.p, m0.W, m0.R, m0.Hh, m0.cs, rfl, hM3 _ (Same.refl _), szc, fun H4 s4 => ?_⟩
    rw [← ec0]
    refine ⟨tx c0, rfl, fun D hD => sr_rel (walk_str (z := tx c0)) hD (dom := c0.map fun c => kN (rep g c)) (by rw [List.length_map]; omega) (fun i => kN (rep g (c0.getD i 0))) (fun i hi => ?_) (fun _ _ => trivial) (fun i x H5 H6 hi s5 hy => ?_) (fun σ H Q Q' f h => ?_) gName_mono (fun H' L' s5 S hL' eD => ?_)⟩
    · rw [tx_size] at hi
      refine List.mem_map.mpr ⟨c0.getD i 0, ?_, rfl⟩
      rw [List.getD_eq_getElem?_getD, List.getElem?_eq_getElem hi]
      exact List.getElem_mem hi
    · obtain ⟨rfl, c, hc, rfl⟩ := hy
      have hc := tx_at hc
      have mc := List.mem_of_getElem? hc
      have ec : c0.getD i 0 = c := by rw [List.getD_eq_getElem?_getD, hc]; rfl
      rw [ec]
      obtain ⟨dl, kvs, hq6, _⟩ := id (hq3.same (s4.trans s5))
      refine ⟨rfl, _, rfl, q, dl, _, rfl, hq6, rfl, _, rfl, two_line, fun a ha => ?_⟩
      have h8 := same_new (o := .tup [V.int 0, V.str (sign c)]) ha
      exact ⟨q, d, a, g, N, c, rfl, (hq3.same (s4.trans s5)).same h8, lk.dn, nd1 _ a c mc, fun b hb => ⟨⟨b, rfl, hb⟩, h8⟩⟩
    · obtain ⟨v6, e6, a6, dx6, fs6, ea6, h1, h2, v5, e5, hl, hf⟩ := h
      refine ⟨v6, e6, a6, dx6, fs6, ea6, h1, h2, v5, e5, hl, fun a ha => ?_⟩
      obtain ⟨p', d', a', g', n', v', e1, h1, h2, h3, h4⟩ := hf a ha
      exact ⟨p', d', a', g', n', v', e1, h1, h2, h3, fun b hb => f _ _ (h4 b hb)⟩
    · rw [tx_size] at S
      refine ⟨D, L', [true, false], rfl, eD, hL'.t, fun q hq => ?_, by simp, fun Y r pm nd sr hr => ?_⟩
      · obtain ⟨j, _, e⟩ := (S.iff q.2).mp (List.mem_map.mpr ⟨q, hq, rfl⟩)
        rw [e]; rfl
      · have hY : RowsH H' Y := fun q hq => hL' q (pm.mem_iff.mp hq)
        refine ⟨(s4.trans s5).trans (same_new hr), r, Y, upd_same, hY.same (same_new hr), ?_, rfl⟩
        have memY : ∀ k, k ∈ Y.map (·.2) ↔ k ∈ ds.map kN := fun k => by
          rw [(pm.map (·.2)).mem_iff, S.iff, List.mem_map]
          constructor
          · rintro ⟨j, hj, e⟩
            refine ⟨_, rds (c0.getD j 0) ?_, e.symm⟩
            rw [List.getD_eq_getElem?_getD, List.getElem?_eq_getElem hj]
            exact List.getElem_mem hj
          · rintro ⟨d', hd', e⟩
            obtain ⟨x, y, e2⟩ := (lc.iff d').mp hd'
            obtain ⟨j, hj, e3⟩ := List.getElem_of_mem (c0m x y)
            refine ⟨j, hj, ?_⟩
            rw [List.getD_eq_getElem?_getD, List.getElem?_eq_getElem hj, e3, ← e, e2]
            show _ = kN (rep g (m0.col x y))
            rw [rphi]
        have ndd : (ds.map kN).Nodup := by
          refine List.Pairwise.map kN (fun a b h e => ?_) lc.srt
          exact absurd (kN_inj e) (Nat.ne_of_lt h)
        refine sorted_one (sh := [true, false]) ((List.perm_ext_iff_of_nodup nd ndd).mpr memY) (fun k hk => ?_) (List.pairwise_map.mpr sr) ?_
        · obtain ⟨d', _, e⟩ := List.mem_map.mp ((memY k).mp hk)
          rw [← e]; rfl
        · refine List.Pairwise.map kN (fun a b h => ?_) lc.srt
          rw [kN_lt]
          exact decide_eq_false (by omega)
  rintro σ H4 ⟨s4, r, Y, hr4, hY, eY, rfl⟩
  -- the letters
  obtain ⟨val, eval⟩ : ∃ val : Key → V, val = fun k => match k with | .inr s => .str (sign (97 + ds.findIdx fun d => decide (d = rep g (s.cps.toList.headD 0)))) | .inl _ => .non := ⟨_, rfl⟩
  have valc : ∀ c, val (kS c) = .str (sign (97 + ds.findIdx fun d => decide (d = rep g c))) := fun c => by rw [eval]; rfl
  have lenY : Y.length = ds.length := by rw [← List.length_map (f := (·.2)), eY, List.length_map]
  refine ⟨fun σ H' => Same H4 H' ∧ ∃ (e : Addr) (kvs : List (Key × V)), H' e = some (.dK kvs) ∧ (∀ c ∈ c0, valV kvs (kS c) = some (val (kS c))) ∧ σ = [some (.ref p), some (.ref n), z1, z2, z3, z4, some (.ref q), some (.ref r), some (.ref e)], ?_, ?_⟩
  · obtain ⟨dx0, n0', hm1, hm2⟩ := id (hM3 H4 s4)
    refine ⟨_, rfl, p, _, _, _, rfl, rfl, SqT.of (hp3 _ s4), at0, m0.C, m0.p, dx0, _, G0.kin, rfl, hm1, m0.p, m0.W, m0.R, m0.Hh, m0.cs, rfl, hM3 _ s4, szc, fun H5 s5 => ?_⟩
    rw [← ec0]
    refine ⟨tx c0, rfl, fun D hD => dc_rel (walk_str (z := tx c0)) (by rw [tx_size]; omega) hD (fun i => kS (c0.getD i 0)) val (fun _ _ => trivial) (fun i x H6 H7 hi s6 hy => ?_) (fun σ H Q Q' f h => ?_) gName_mono (fun H' kvs s6 hk eD => ?_)⟩
    · obtain ⟨rfl, c, hc, rfl⟩ := hy
      have hc := tx_at hc
      have mc := List.mem_of_getElem? hc
      have ec : c0.getD i 0 = c := by rw [List.getD_eq_getElem?_getD, hc]; rfl
      rw [ec, valc]
      have sA := (s4.trans s5).trans s6
      obtain ⟨dl, kvs, hq6, _⟩ := id (hq3.same sA)
      have hr7 := (s5.trans s6) _ _ hr4
      refine ⟨rfl, _, rfl, _, rfl, .inl ⟨rfl, _, SqL.of hr7⟩, _, rfl, q, dl, _, rfl, hq6, rfl, _, rfl, two_line, fun a ha => ?_⟩
      have h8 := same_new (o := .tup [V.int 0, V.str (sign c)]) ha
      refine ⟨q, d, a, g, N, c, rfl, (hq3.same sA).same h8, lk.dn, nd1 _ a c mc, fun b hb => ?_⟩
      have mem : rep g c ∈ ds := rds c mc
      have jl := fI_lt mem
      have dpY := dp_rows (K := K) ((hY.same (s5.trans s6)).same h8)
      rw [show (Y.map fun q => encR q.2) = (ds.map kN).map encR by rw [← eY, List.map_map]; rfl] at dpY
      have hr8 := h8 _ _ hr7
      refine ⟨r, .ref b, _, (ds.map kN).map encR, ds.findIdx (fun d => decide (d = rep g c)), encR (kN (rep g c)), rfl, rfl, .lst (SqL.of hr8) dpY, dp_row (k := kN (rep g c)) hb, shaped_rows (fun k hk => ?_), shaped_row (kN_low _), ?_, ?_, fun m z' hm hz' => ?_, lettersS, _, 97 + ds.findIdx (fun d => decide (d = rep g c)), rfl, rfl, by decide +kernel, atI_nat ?_, ⟨rfl, rfl⟩, h8⟩
      · obtain ⟨d', _, e⟩ := List.mem_map.mp hk
        rw [← e]; exact kN_low _
      · rw [List.getElem?_map, List.getElem?_map, fI_at mem]; rfl
      · rw [eqv_row rfl]; exact decide_eq_true rfl
      · rw [List.getElem?_map, List.getElem?_map, Option.map_map] at hz'
        obtain ⟨d', hd', e'⟩ := Option.map_eq_some_iff.mp hz'
        rw [← e']
        show PyData.eqv (encR (kN d')) (encR (kN (rep g c))) = false
        rw [eqv_row (kN_shp _ _)]
        exact decide_eq_false fun e => fI_first hm hd' (kN_inj e)
      · rw [lettersS_list, letters, List.getElem?_map, List.getElem?_range (by omega)]; rfl
    · obtain ⟨v1, e1, v2, e2, ty, v3, e3, a6, dx6, fs6, ea6, h1, h2, v5, e5, hl, hf⟩ := h
      refine ⟨v1, e1, v2, e2, ty, v3, e3, a6, dx6, fs6, ea6, h1, h2, v5, e5, hl, fun a ha => ?_⟩
      obtain ⟨p', d', a', g', n', v', e1, h1, h2, h3, h4⟩ := hf a ha
      refine ⟨p', d', a', g', n', v', e1, h1, h2, h3, fun b hb => ?_⟩
      obtain ⟨a1, y1, d1, ds, j, z, e1, e2, h1, h2, h3, h4, h5, h6, h7, z', i', c', e8, e9, h8, h9, h⟩ := h4 b hb
      exact ⟨a1, y1, d1, ds, j, z, e1, e2, h1, h2, h3, h4, h5, h6, h7, z', i', c', e8, e9, h8, h9, f _ _ _ h⟩
    · refine ⟨s5.trans s6, D, kvs, eD, fun c hc => ?_, rfl⟩
      obtain ⟨j, hj, e3⟩ := List.getElem_of_mem hc
      have z := hk j (by rw [tx_size]; exact hj)
      rw [show c0.getD j 0 = c by rw [List.getD_eq_getElem?_getD, List.getElem?_eq_getElem hj, e3]; rfl] at z
      exact z
  rintro σ H5 ⟨s5, e, kvs, he, hk, rfl⟩
  have sN : Same H1 H5 := (s3.trans s4).trans s5
  refine ⟨_, rfl, ⟨_, rfl⟩, _, rfl, n, dn, _, W, R, Hh, rfl, sN _ _ hn1, rfl, netRd_of T (hn.same sN), pa, c.ok.2, by omega, by omega, fun D hD => lc_rel (walk_cell (K := K) (p := n) (a := W) (b := R) (c := Hh)) (by omega) hD
    (fun i y _ => y = .str (sign (97 + ds.findIdx fun d => decide (d = φ (m0.col ((i % W : Nat) : Int) ((i / W : Nat) : Int)))))) (fun _ _ _ _ _ r => r) (fun H' s' => netRd_of T (hn.same (sN.trans s'))) (fun i x H6 H7 hi s6 hy => ?_) (fun σ H Q Q' f h => ?_) gName_mono (fun H' ys s6 el hR eD => ?_)⟩
  · obtain ⟨q2, hq2, rfl, rfl⟩ := hy
    have s7 := same_new (o := .tup [V.int ((i % W : Nat) : Int), V.int ((i / W : Nat) : Int)]) hq2
    have sA := (s4.trans s5).trans (s6.trans s7)
    obtain ⟨dx0, n0', hm1, hm2⟩ := id (hM3 _ sA)
    refine ⟨rfl, _, rfl, _, rfl, p, _, _, _, rfl, rfl, SqT.of (hp3 _ sA), at0, m0.C, m0.p, dx0, _, G0.kin, rfl, hm1, rfl, _, rfl, m0.p, q2, m0.W, m0.R, m0.Hh, m0.cs, _, _, rfl, hM3 _ sA, upd_same, G0.ok, Nat.lt_trans G0.lW (by decide), Nat.lt_trans G0.lH (by decide), G0.len, fun H8 s8 => ?_⟩
    have G : DGet H8 e (V.str (sign (m0.col ((i % W : Nat) : Int) ((i / W : Nat) : Int)))) (valV kvs (kS (m0.col ((i % W : Nat) : Int) ((i / W : Nat) : Int)))) := DGet.k (k := kS (m0.col ((i % W : Nat) : Int) ((i / W : Nat) : Int))) (((s6.trans s7).trans s8) _ _ he)
    rw [hk _ (c0m _ _), valc, rphi] at G
    exact ⟨e, _, rfl, G, rfl, s7.trans s8⟩
  · obtain ⟨v1, e1, v2, e2, a2, xs2, i2, w2, f1, f2, f3, f4, C, b, dx, fs, g1, g2, g3, g4, v5, e5, p6, q6, W6, R6, H6, cs6, x6, y6, k1, k2, k3, k4, k5, k6, k7, h⟩ := h
    refine ⟨v1, e1, v2, e2, a2, xs2, i2, w2, f1, f2, f3, f4, C, b, dx, fs, g1, g2, g3, g4, v5, e5, p6, q6, W6, R6, H6, cs6, x6, y6, k1, k2, k3, k4, k5, k6, k7, fun H' s' => ?_⟩
    obtain ⟨d, v, j1, j2, j3⟩ := h H' s'
    exact ⟨d, v, j1, j2, f _ _ j3⟩
  · obtain ⟨cs, ecs⟩ : ∃ cs : List Nat, cs = (List.range (W * Hh)).map fun i => 97 + ds.findIdx fun d => decide (d = φ (m0.col ((i % W : Nat) : Int) ((i / W : Nat) : Int))) := ⟨_, rfl⟩
    have hcs : cs.length = W * Hh := by rw [ecs]; simp
    have ey : ys = (cs.map sign).map V.str := by
      apply List.ext_getElem?
      intro i
      by_cases lt : i < W * Hh
      · have g := List.getElem?_eq_getElem (show i < ys.length by omega)
        rw [g, hR i _ g, ecs, List.getElem?_map, List.getElem?_map, List.getElem?_map, List.getElem?_range lt]
        rfl
      · rw [List.getElem?_eq_none (by omega), List.getElem?_eq_none (by rw [List.length_map, List.length_map, hcs]; omega)]
    rw [ey] at eD
    refine ⟨_, D, _, rfl, rfl, .inl (SqL.of eD), ?_, ?_⟩
    · rw [sum_signs, List.length_map, hcs]
      have e0 : (Str.ofString "").length = 0 := by decide +kernel
      rw [e0]
      omega
    · rw [join_signs]
      refine woven_new (hn.same (sN.trans s6)) c.ok (by omega) (by omega) (by omega) hcs fun H7 x W' R' Hh' s7 hx Ls => ?_
      obtain ⟨d1, d2⟩ := sub_dvd c.ok Ls.ok Ls.sub
      have lW := Nat.le_of_dvd pa d1
      have lH := Nat.le_of_dvd c.ok.2 d2
      refine k H7 ⟨CW, x, W', R', Hh', cellText W R Hh cs W' Hh'⟩ (((s1.trans sN).trans s6).trans s7) rfl ⟨.inr rfl, Ls.ok, cellText_len _ _, by show W' < 4096; omega, by show Hh' < 4096; omega⟩ hx Ls.sub fun u v => ?_
      show CpM.col W' R' Hh' (cellText W R Hh cs W' Hh') u v = _
      rw [Ls.col, ecs, c.low (fun m hm => (hM m hm).1.ok) u v m0 mem0]
      exact col_range c.ok (fun x y => 97 + ds.findIdx fun d => decide (d = φ (m0.col x y))) u v
end
end CpR
set_option Elab.async false
set_option linter.all false
set_option maxRecDepth 100000
set_option maxHeartbeats 1000000
/-! F01: the law's tape and its draws. -/
namespace CpR
open PySem PySem.Spec PyProof.Rows L2 CpM CpS
/-- the tape at t: its list of ints at l -/
def TapeAt (H : Hp) (t l : Addr) (ns : List Int) : Prop := ∃ pos rest st : Int, H t = some (.lst [.ref l, .int pos, .int rest, .int st]) ∧ H l = some (.lst (ns.map V.int)) ∧ l ≠ t ∧ 0 ≤ pos ∧ 0 ≤ rest ∧ 0 ≤ st ∧ st < 2147483647
/-- all but t stays -/
def KpT (t : Addr) (H H' : Hp) : Prop := ∀ b o, b ≠ t → H b = some o → H' b = some o
theorem KpT.refl {t : Addr} (H : Hp) : KpT t H H := fun _ _ _ e => e
theorem KpT.trans {t : Addr} {H H1 H2 : Hp} (a : KpT t H H1) (b : KpT t H1 H2) : KpT t H H2 := fun c o n e => b c o n (a c o n e)
theorem Same.kpt {t : Addr} {H H' : Hp} (s : Same H H') : KpT t H H' := fun b o _ e => s b o e
theorem TapeAt.same {H H' : Hp} {t l : Addr} {ns : List Int} (h : TapeAt H t l ns) (s : Same H H') : TapeAt H' t l ns := let ⟨p, r, st, a, b, c⟩ := h; ⟨p, r, st, s _ _ a, s _ _ b, c⟩
theorem TapeAt.ne {H : Hp} {t l b : Addr} {ns : List Int} (h : TapeAt H t l ns) {o : HO} (e : H b = some o) (n : ∀ xs, o ≠ .lst xs) : b ≠ t := fun q => by
  obtain ⟨p, r, st, a, _⟩ := h
  rw [q, a] at e
  exact n _ (Option.some.inj e).symm
theorem TapeAt.fresh {H : Hp} {t l b : Addr} {ns : List Int} (h : TapeAt H t l ns) (e : H b = none) : b ≠ t ∧ b ≠ l := by
  obtain ⟨p, r, st, a, c, _⟩ := h
  exact ⟨fun q => (by rw [q, a] at e; cases e), fun q => (by rw [q, c] at e; cases e)⟩
theorem kpt_put {H : Hp} {t : Addr} {o : HO} : KpT t H (upd H t o) := fun b u n e => by rw [upd_ne n]; exact e
section
variable {P : Program} {w : World} {K : PySem.W.Frag} {mg : Str → Option Value} {base : Heap} {CN CC CW CL CI CE : Addr}
def spTape (K : PySem.W.Frag) : Sp := fun vs H Q _ => ∃ (a : Addr) (ns : List Int), vs = [.ref a] ∧ SqL K H a (ns.map V.int) ∧ ns.length ≤ 63 ∧ ∀ H' t l, Same H H' → TapeAt H' t l ns → H t = none → H l = none → Q (.ref t) H'
theorem ok_law_tape (T : Txt K mg CN CC CW CL) : Df P w K mg base CX0 1 "_law_tape" (spTape K) := by
  refine df_of T.d_law_tape sc_law_tape b_law_tape (fun vs H Q E ⟨_, _, e, _⟩ => by rw [e]; rfl) (fun f cdv A outer s H vs Q E hr h => ?_)
  obtain ⟨a, ns, rfl, ha, few, k⟩ := h
  refine ⟨_, pss_one (ps_ret (pe_lst (pa_cons (pe_callTy call_list_of (by rfl) T.bt.b_list (by decide +kernel) (pa_cons (pe_slice sl_list (pv 0) po_none (po_some pe_int)) pa_nil)) (pa_cons pe_int (pa_cons pe_int (pa_cons pe_int pa_nil)))))), ?_⟩
  refine ⟨_, rfl, 63, rfl, a, _, rfl, ha, fun p np => ?_⟩
  have e : cutV (ns.map V.int) none (some 63) = ns.map V.int := by
    unfold cutV
    rw [HT.sIx_none, show (some (63 : Int)) = some ((63 : Nat) : Int) from rfl, HT.sIx_nat, Nat.sub_zero, List.drop_zero, List.take_of_length_le]
    rw [List.length_map]
    omega
  rw [e]
  refine ⟨p, _, rfl, .inl (SqL.of upd_same), fun l hl => ⟨by show 4 ≤ sizeLine; decide, fun t ht => ?_⟩⟩
  have s1 := same_new (o := .lst (ns.map V.int)) np
  have s2 := same_new (o := .lst (ns.map V.int)) hl
  have s3 := same_new (o := .lst [V.ref l, V.int 0, V.int 0, V.int 17]) ht
  have hlt : l ≠ t := fun q => by rw [← q, upd_same] at ht; cases ht
  refine k _ t l ((s1.trans s2).trans s3) ⟨0, 0, 17, upd_same, s3 _ _ upd_same, hlt, by decide, by decide, by decide, by decide⟩ ?_ ?_
  · cases e : H t with
    | none => rfl
    | some o => rw [(s1.trans s2) _ _ e] at ht; cases ht
  · cases e : H l with
    | none => rfl
    | some o => rw [s1 _ _ e] at hl; cases hl
def spDraw : Sp := fun vs H Q _ => ∃ (t l : Addr) (ns : List Int) (m : Nat), vs = [.ref t, .int (m : Nat)] ∧ TapeAt H t l ns ∧ 0 < m ∧ m < 2 ^ 20 ∧ ∀ H' (r : Nat), r < m → KpT t H H' → TapeAt H' t l ns → Q (.int (r : Nat)) H'
theorem at_nat {xs : List V} {j : Nat} {v : V} {i : Int} (e : i = (j : Nat)) (h : xs[j]? = some v) : atI xs i = some v := by rw [e]; exact atI_nat h
theorem ok_law_draw (T : Txt K mg CN CC CW CL) : Df P w K mg base CX0 1 "_law_draw" spDraw := by
  refine df_of T.d_law_draw sc_law_draw b_law_draw (fun vs H Q E ⟨_, _, _, _, e, _⟩ => by rw [e]; rfl) (fun f cdv A outer s H vs Q E hr h => ?_)
  obtain ⟨t, l, ns, m, rfl, ⟨pos, rest, st, ht, hl, ne, p0, r0, s0, s1⟩, m0, m1, k⟩ := h
  have n0 := sc_law_draw.nd
  refine ⟨_, Evl.pss_cut (ps_if (pt_cmpR op_gt (pe_ix ix_list (pv 0) pe_int (fun _ _ => rfl)) pe_int (nomark _))
      (pss_cons (ps_set (i := 2) n0 rfl (.inl rfl) (pe_op op_modN (pe_ix ix_list (pv 0) pe_int (fun _ _ => rfl)) (pv 1)))
      (pss_cons (ps_asg (pe_op op_fdivN (pe_ix ix_list (pv 0) pe_int (fun _ _ => rfl)) (pv 1)) (pg_sub (pv 0) pe_int set_list))
      (pss_one (ps_ret (pv 2))))) pss_nil)
    (Evl.pss_cut (ps_set (i := 3) n0 rfl (.inl rfl) pe_int)
    (Evl.pss_cut (ps_if (pt_cmpR op_lt (pe_ix ix_list (pv 0) pe_int (fun _ _ => rfl)) (pe_callB call_len_seq (by rfl) T.bt.len PySem.boot_len (pa_cons (pe_ix ix_list (pv 0) pe_int (fun _ _ => rfl)) pa_nil)) (nomark _))
      (pss_one (ps_set (i := 3) n0 rfl (.inl rfl) (pe_ix ix_list (pe_ix ix_list (pv 0) pe_int (fun _ _ => rfl)) (pe_ix ix_list (pv 0) pe_int (fun _ _ => rfl)) (fun _ _ => rfl)))) pss_nil)
    (Evl.pss_cut (ps_asg (pe_op op_add (pe_ix ix_list (pv 0) pe_int (fun _ _ => rfl)) pe_int) (pg_sub (pv 0) pe_int set_list))
    (Evl.pss_cut (ps_if (pt_cmpR op_ge (pv 3) (pe_op op_pow pe_int pe_int) (nomark _))
      (pss_cons (ps_asg (pe_op op_fdivN (pv 3) (pv 1)) (pg_sub (pv 0) pe_int set_list))
      (pss_one (ps_ret (pe_op op_modN (pv 3) (pv 1))))) pss_nil)
    (Evl.pss_cut (ps_set (i := 4) n0 rfl (.inl rfl) (pe_op op_add (pe_op op_add (pe_op op_modN (pv 3) pe_int) (pe_op op_mul pe_int (pe_ix ix_list (pv 0) pe_int (fun _ _ => rfl)))) pe_int))
    (Evl.pss_cut (ps_asg (pe_op op_modN (pe_op op_add (pe_op op_mul (pe_ix ix_list (pv 0) pe_int (fun _ _ => rfl)) pe_int) (pv 4)) pe_int) (pg_sub (pv 0) pe_int set_list))
    (pss_one (ps_ret (pe_op op_modN (pe_op op_modN (pe_op op_pow (pe_ix ix_list (pv 0) pe_int (fun _ _ => rfl)) pe_int) pe_int) (pv 1)))))))))), ?_⟩
  have md : ∀ i : Int, 0 ≤ i.fmod m ∧ i.fmod m < m := fun i => by
    rw [Int.fmod_eq_emod_of_nonneg _ (by omega)]
    exact ⟨Int.emod_nonneg _ (by omega), Int.emod_lt_of_pos _ (by omega)⟩
  have mp : ∀ i : Int, 0 ≤ i.fmod 2147483647 ∧ i.fmod 2147483647 < 2147483647 := fun i => by
    rw [Int.fmod_eq_emod_of_nonneg _ (by omega)]
    exact ⟨Int.emod_nonneg _ (by omega), Int.emod_lt_of_pos _ (by omega)⟩
  have fin : ∀ (H' : Hp) (z pos rest st : Int), KpT t H H' → H' t = some (.lst [.ref l, .int pos, .int rest, .int st]) → 0 ≤ pos → 0 ≤ rest → 0 ≤ st → st < 2147483647 → Q (.int (z.fmod m)) H' := fun H' z pos rest st kp h1 h2 h3 h4 h5 => by
    obtain ⟨a, b⟩ := md z
    have e : z.fmod m = ((z.fmod m).toNat : Nat) := by omega
    rw [e]
    exact k H' _ (by omega) kp ⟨pos, rest, st, h1, kp _ _ ne hl, ne, h2, h3, h4, h5⟩
  have at2 : ∀ a b c d : V, atI [a, b, c, d] 2 = some c := fun a b c d => at_nat (j := 2) rfl rfl
  have at1 : ∀ a b c d : V, atI [a, b, c, d] 1 = some b := fun a b c d => at_nat (j := 1) rfl rfl
  have at0 : ∀ a b c d : V, atI [a, b, c, d] 0 = some a := fun a b c d => at_nat (j := 0) rfl rfl
  have at3 : ∀ a b c d : V, atI [a, b, c, d] 3 = some d := fun a b c d => at_nat (j := 3) rfl rfl
  refine ⟨fun σ H' => H' = H ∧ σ = [some (.ref t), some (.int (m : Nat)), none, none, none], ⟨_, rfl, t, _, _, _, rfl, rfl, SqL.of ht, at2 _ _ _ _, _, _, rfl, rfl, _, rfl, ite2 (fun q => ?_) (fun _ => ⟨rfl, rfl⟩)⟩, ?_⟩
  · have q := of_decide_eq_true q
    refine ⟨_, rfl, t, _, _, _, rfl, rfl, SqL.of ht, at2 _ _ _ _, _, rfl, _, _, rfl, rfl, by omega, _, rfl, t, _, _, _, rfl, rfl, SqL.of ht, at2 _ _ _ _, _, rfl, _, _, rfl, rfl, ⟨by omega, by omega⟩, _, rfl, t, _, 2, 2, rfl, rfl, ht, rfl, _, rfl, ?_⟩
    refine fin _ _ pos (rest.fdiv m) st kpt_put upd_same p0 ?_ s0 s1
    rw [Int.fdiv_eq_ediv_of_nonneg _ (by omega)]
    exact Int.ediv_nonneg r0 (by omega)
  rintro σ H1 ⟨rfl, rfl⟩
  refine ⟨fun σ H' => H' = H1 ∧ σ = [some (.ref t), some (.int (m : Nat)), none, some (.int 0), none], ⟨rfl, rfl⟩, ?_⟩
  rintro σ H2 ⟨rfl, rfl⟩
  refine ⟨fun σ H' => H' = H2 ∧ ∃ c : Int, σ = [some (.ref t), some (.int (m : Nat)), none, some (.int c), none], ⟨_, rfl, t, _, _, _, rfl, rfl, SqL.of ht, at1 _ _ _ _, _, rfl, t, _, _, _, rfl, rfl, SqL.of ht, at0 _ _ _ _, l, _, rfl, .inl (SqL.of hl), _, _, rfl, rfl, _, rfl, ite2 (fun q => ?_) (fun _ => ⟨rfl, _, rfl⟩)⟩, ?_⟩
  · have q := of_decide_eq_true q
    rw [List.length_map] at q
    have lt : pos.toNat < ns.length := by omega
    exact ⟨_, rfl, t, _, _, _, rfl, rfl, SqL.of ht, at0 _ _ _ _, _, rfl, t, _, _, _, rfl, rfl, SqL.of ht, at1 _ _ _ _, l, _, pos, .int ns[pos.toNat], rfl, rfl, SqL.of hl, at_nat (j := pos.toNat) (by omega) (by rw [List.getElem?_map, List.getElem?_eq_getElem lt]; rfl), rfl, _, rfl⟩
  rintro σ H3 ⟨rfl, c, rfl⟩
  refine ⟨fun σ H' => KpT t H3 H' ∧ H' t = some (.lst [.ref l, .int (pos + 1), .int rest, .int st]) ∧ σ = [some (.ref t), some (.int (m : Nat)), none, some (.int c), none], ⟨_, rfl, t, _, _, _, rfl, rfl, SqL.of ht, at1 _ _ _ _, _, _, rfl, rfl, _, rfl, t, _, 1, 1, rfl, rfl, ht, rfl, kpt_put, upd_same, rfl⟩, ?_⟩
  rintro σ H4 ⟨kp, ht, rfl⟩
  refine ⟨fun σ H' => H' = H4 ∧ σ = [some (.ref t), some (.int (m : Nat)), none, some (.int c), none], ⟨_, rfl, _, _, rfl, rfl, ⟨by decide, by decide, by decide⟩, _, _, rfl, rfl, _, rfl, ite2 (fun q => ?_) (fun _ => ⟨rfl, rfl⟩)⟩, ?_⟩
  · have q := of_decide_eq_true q
    refine ⟨_, rfl, _, rfl, _, _, rfl, rfl, ⟨by omega, by omega⟩, _, rfl, t, _, 2, 2, rfl, rfl, ht, rfl, _, rfl, _, rfl, _, _, rfl, rfl, by omega, ?_⟩
    refine fin _ c (pos + 1) (c.fdiv m) st (kp.trans kpt_put) upd_same (by omega) ?_ s0 s1
    rw [Int.fdiv_eq_ediv_of_nonneg _ (by omega)]
    refine Int.ediv_nonneg (Int.le_trans ?_ q) (by omega)
    decide
  rintro σ H5 ⟨rfl, rfl⟩
  refine ⟨fun σ H' => H' = H5 ∧ ∃ z : Int, σ = [some (.ref t), some (.int (m : Nat)), none, some (.int c), some (.int z)], ⟨_, rfl, _, _, rfl, rfl, (by decide : (2147483647 : Int) ≠ 0), _, rfl, t, _, _, _, rfl, rfl, SqL.of ht, at1 _ _ _ _, _, _, rfl, rfl, .inl ⟨by decide, by decide⟩, _, _, rfl, rfl, _, _, rfl, rfl, rfl, _, rfl⟩, ?_⟩
  rintro σ H6 ⟨rfl, z, rfl⟩
  refine ⟨fun σ H' => KpT t H6 H' ∧ ∃ st : Int, H' t = some (.lst [.ref l, .int (pos + 1), .int rest, .int st]) ∧ 0 ≤ st ∧ st < 2147483647 ∧ σ = [some (.ref t), some (.int (m : Nat)), none, some (.int c), some (.int z)], ⟨_, rfl, t, _, _, _, rfl, rfl, SqL.of ht, at3 _ _ _ _, _, _, rfl, rfl, .inl ⟨by omega, by omega⟩, _, rfl, _, _, rfl, rfl, _, _, rfl, rfl, (by decide : (2147483647 : Int) ≠ 0), _, rfl, t, _, 3, 3, rfl, rfl, ht, rfl, kpt_put, _, upd_same, (mp _).1, (mp _).2, rfl⟩, ?_⟩
  rintro σ H7 ⟨kp2, st2, ht2, t0, t1, rfl⟩
  refine ⟨_, rfl, t, _, _, _, rfl, rfl, SqL.of ht2, at3 _ _ _ _, _, _, rfl, rfl, ⟨by decide, by decide, by omega⟩, _, _, rfl, rfl, (by decide : (2147483647 : Int) ≠ 0), _, rfl, _, _, rfl, rfl, by omega, ?_⟩
  exact fin H7 _ (pos + 1) rest st2 (kp.trans kp2) ht2 (by omega) r0 t0 t1
end
end CpR
set_option Elab.async false
set_option linter.all false
set_option maxRecDepth 100000
set_option maxHeartbeats 1000000
/-! F02: the law's places and nets. -/
namespace CpR
open PySem PySem.Spec PyProof.Rows L2 CpM CpS
/-- the numbers of a net -/
def NtAt (H : Hp) (n : Addr) (a b c : Nat) : Prop := H n = some (.tup [.int (a : Nat), .int (b : Nat), .int (c : Nat)])
theorem NtAt.kpt {H H' : Hp} {n t : Addr} {a b c : Nat} (h : NtAt H n a b c) (k : KpT t H H') (ne : n ≠ t) : NtAt H' n a b c := k _ _ ne h
theorem NtAt.same {H H' : Hp} {n : Addr} {a b c : Nat} (h : NtAt H n a b c) (s : Same H H') : NtAt H' n a b c := s _ _ h
section
variable {P : Program} {w : World} {K : PySem.W.Frag} {mg : Str → Option Value} {base : Heap} {CN CC CW CL CI CE : Addr}
def spLow : Sp := fun vs H Q _ => ∃ (n q : Addr) (a b c : Nat) (x y : Int), vs = [.ref n, .ref q] ∧ NtAt H n a b c ∧ PlAt H q x y ∧ Ok a b c ∧ a < 2 ^ 30 ∧ c < 2 ^ 30 ∧ ∀ r, H r = none → Q (.ref r) (upd H r (.tup [.int (lowX a b c x y), .int (lowY c y)]))
theorem ok_law_low (T : Txt K mg CN CC CW CL) : Df P w K mg base CX0 1 "_law_low" spLow := by
  refine df_of T.d_law_low sc_law_low b_law_low (fun vs H Q E ⟨_, _, _, _, _, _, _, e, _⟩ => by rw [e]; rfl) (fun f cdv A outer s H vs Q E hr h => ?_)
  obtain ⟨n, q, a, b, c, x, y, rfl, hn, hq, ok, la, lc, k⟩ := h
  have n0 := sc_law_low.nd
  refine ⟨_, Evl.pss_cut (ps_set (i := 2) n0 rfl (.inl rfl) (pe_op op_fdivW (pe_ix ix_tup (pv 1) pe_int (fun _ _ => rfl)) (pe_ix ix_tup (pv 0) pe_int (fun _ _ => rfl))))
    (pss_one (ps_ret (pe_tup (pa_cons (pe_op op_mod (pe_op op_sub (pe_ix ix_tup (pv 1) pe_int (fun _ _ => rfl)) (pe_op op_mul (pv 2) (pe_ix ix_tup (pv 0) pe_int (fun _ _ => rfl)))) (pe_ix ix_tup (pv 0) pe_int (fun _ _ => rfl))) (pa_cons (pe_op op_sub (pe_ix ix_tup (pv 1) pe_int (fun _ _ => rfl)) (pe_op op_mul (pv 2) (pe_ix ix_tup (pv 0) pe_int (fun _ _ => rfl)))) pa_nil))))), ?_⟩
  have hb := ok.1
  have hc := ok.2
  refine ⟨fun σ H1 => H1 = H ∧ σ = [some (.ref n), some (.ref q), some (.int (y / c))], ⟨_, rfl, q, _, _, _, rfl, rfl, SqT.of hq, rfl, _, rfl, n, _, _, _, rfl, rfl, SqT.of hn, rfl, _, _, rfl, rfl, wide_div (b := 30) (by omega) (by omega) (by decide) (by decide), rfl, rfl⟩, ?_⟩
  rintro σ H1 ⟨rfl, rfl⟩
  exact ⟨_, rfl, q, _, _, _, rfl, rfl, SqT.of hq, rfl, _, rfl, _, rfl, n, _, _, _, rfl, rfl, SqT.of hn, rfl, _, _, rfl, rfl, .inr ⟨by omega, by omega⟩, _, _, rfl, rfl, _, rfl, n, _, _, _, rfl, rfl, SqT.of hn, rfl, _, _, rfl, rfl, by show (0 : Int) < a; omega,
    _, rfl, q, _, _, _, rfl, rfl, SqT.of hq, rfl, _, rfl, _, rfl, n, _, _, _, rfl, rfl, SqT.of hn, rfl, _, _, rfl, rfl, .inr ⟨by omega, by omega⟩, _, _, rfl, rfl, two_line, fun r hr => k r hr⟩
def spLSpots : Sp := fun vs H Q _ => ∃ (n : Addr) (a b c : Nat), vs = [.ref n] ∧ NtAt H n a b c ∧ 0 < a ∧ a * c < 2 ^ 20 ∧ a < 2 ^ 20 ∧ ∀ H' l, Same H H' → H l = none → PlsAt H' l (cellPl a c) → Q (.ref l) H'
theorem ok_law_spots (T : Txt K mg CN CC CW CL) : Df P w K mg base CX0 1 "_law_spots" spLSpots := by
  refine df_of T.d_law_spots sc_law_spots b_law_spots (fun vs H Q E ⟨_, _, _, _, e, _⟩ => by rw [e]; rfl) (fun f cdv A outer s H vs Q E hr h => ?_)
  obtain ⟨n, a, b, c, rfl, hn, ha, hac, la, k⟩ := h
  have n0 := sc_law_spots.nd
  refine ⟨_, pss_one (ps_ret (pe_lc (own := [("_law_at", 1)]) (g := gName 1) (tt := tYes) (te := tTup (tCons (tOp (rI (fun _ j => j ≠ 0) fun i j => .int (i.fmod j)) (tVar 1) (tOp (rIxT K) (tVar 0) (tC (.int 0)))) (tCons (tOp (rI CDivN fun i j => .int (i.fdiv j)) (tVar 1) (tOp (rIxT K) (tVar 0) (tC (.int 0)))) tNil))) rfl n0 (pi_range1 (by rfl) T.bt.range (pa_cons (pe_op op_mul (pe_ix ix_tup (pv 0) pe_int (fun _ _ => rfl)) (pe_ix ix_tup (pv 0) pe_int (fun _ _ => rfl))) pa_nil)) (blkOk_by (N := N_law_spots) (sc := defScope s_law_spots) (by decide +kernel))
      (fun _ _ _ _ _ => pg_name (i := 1) n0 rfl (Or.inl rfl)) (fun _ _ _ _ _ => pts_nil)
      (fun _ _ _ _ _ => pe_tup (pa_cons (pe_op op_modN (pv 1) (pe_ix ix_tup (pv 0) pe_int (fun _ _ => rfl))) (pa_cons (pe_op op_fdivN (pv 1) (pe_ix ix_tup (pv 0) pe_int (fun _ _ => rfl))) pa_nil))))), ?_⟩
  let f : Nat → Int × Int := fun i => (((i % a : Nat) : Int), ((i / a : Nat) : Int))
  have ei : ((a : Int) * (c : Int)) = ((a * c : Nat) : Int) := (Int.natCast_mul a c).symm
  refine ⟨_, rfl, n, _, _, _, rfl, rfl, SqT.of hn, rfl, _, rfl, n, _, _, _, rfl, rfl, SqT.of hn, rfl, _, _, rfl, rfl, .inl ⟨by omega, by omega⟩, _, rfl, ?_, ?_, fun D hD => ?_⟩
  · rw [ei]; omega
  · rw [ei]; omega
  rw [show ((a : Int) * (c : Int)).toNat = a * c by rw [ei, Int.toNat_natCast]]
  refine lc_it (walk_range (lo := 0) (n := a * c)) (fun i H' => PlsUp H H' D f i) (PlsUp.start hD) (fun _ _ _ _ => trivial) (fun i x H1 H2 hi u y => ?_) (fun H' u => k H' D u.1 hD u.2.2)
  obtain ⟨rfl, rfl⟩ := y
  obtain ⟨acc, hacc, hlen⟩ := u.acc
  have hn2 := u.1 _ _ hn
  refine ⟨rfl, _, rfl, _, rfl, n, _, _, _, rfl, rfl, SqT.of hn2, rfl, _, _, rfl, rfl, by omega, _, rfl, _, rfl, n, _, _, _, rfl, rfl, SqT.of hn2, rfl, _, _, rfl, rfl, ⟨by omega, by omega⟩, two_line, fun q hq => ?_⟩
  have e1 : ((0 : Int) + (i : Nat)).fmod (a : Nat) = ((i % a : Nat) : Int) := by rw [Int.zero_add, Int.fmod_eq_emod_of_nonneg _ (by omega)]; rfl
  have e2 : ((0 : Int) + (i : Nat)).fdiv (a : Nat) = ((i / a : Nat) : Int) := by rw [Int.zero_add, Int.fdiv_eq_ediv_of_nonneg _ (by omega)]; rfl
  refine ⟨acc, by rw [upd_ne (ne_of_none hacc hq)]; exact hacc, by rw [hlen]; exact lt_line (by omega), ?_⟩
  exact u.next hq (x := ((0 : Int) + (i : Nat)).fmod (a : Nat)) (y := ((0 : Int) + (i : Nat)).fdiv (a : Nat)) (by rw [e1, e2]) hacc
def spLSeen : Sp := fun vs H Q _ => ∃ (n q : Addr) (a b c : Nat) (cs : List Nat) (x y : Int), vs = [.ref n, .str (tx cs), .ref q] ∧ NtAt H n a b c ∧ PlAt H q x y ∧ Ok a b c ∧ a < 2 ^ 20 ∧ c < 2 ^ 20 ∧ cs.length = a * c ∧ ∀ H', Same H H' → Q (.str (sign (col a b c cs x y))) H'
theorem ok_law_seen (T : Txt K mg CN CC CW CL) : Df P w K mg base CX0 2 "_law_seen" spLSeen := by
  refine df_of T.d_law_seen sc_law_seen b_law_seen (fun vs H Q E ⟨_, _, _, _, _, _, _, _, e, _⟩ => by rw [e]; rfl) (fun f cdv A outer s H vs Q E hr h => ?_)
  obtain ⟨n, q, a, b, c, cs, x, y, rfl, hn, hq, ok, la, lc, hl, k⟩ := h
  have n0 := sc_law_seen.nd
  refine ⟨_, Evl.pss_cut (ps_asg (pe_df (E := E0) (ok_law_low T) hr (by decide) (by rfl) pass0 (pa_cons (pv 0) (pa_cons (pv 2) pa_nil))) (pg_tup rfl (pgs_cons (pg_name (i := 3) n0 rfl (.inl rfl)) (pgs_cons (pg_name (i := 4) n0 rfl (.inl rfl)) pgs_nil))))
    (pss_one (ps_ret (pe_item_str (pv 1) (pe_op op_add (pe_op op_mul (pv 4) (pe_ix ix_tup (pv 0) pe_int (fun _ _ => rfl))) (pv 3)) (fun _ _ => rfl)))), ?_⟩
  obtain ⟨y1, y2⟩ := lowY_bd ok y
  obtain ⟨x1, x2⟩ := lowX_bd ok x y
  refine ⟨fun σ H' => Same H H' ∧ σ = [some (.ref n), some (.str (tx cs)), some (.ref q), some (.int (lowX a b c x y)), some (.int (lowY c y))],
    ⟨_, rfl, _, rfl, n, q, a, b, c, x, y, rfl, hn, hq, ok, by omega, by omega, fun r hr => ⟨r, _, rfl, SqT.of upd_same, rfl, _, _, rfl, _, _, rfl, rfl, same_new hr, rfl⟩⟩, ?_⟩
  rintro σ H' ⟨s1, rfl⟩
  obtain ⟨l1, l2⟩ := low_lt ok x y
  have lt : (lowY c y * a + lowX a b c x y).toNat < cs.length := by omega
  have hac : a * c < 2 ^ 20 * 2 ^ 20 := Nat.mul_lt_mul'' la lc
  refine ⟨_, rfl, _, rfl, _, rfl, n, _, _, _, rfl, rfl, SqT.of (s1 _ _ hn), rfl, _, _, rfl, rfl, .inl ⟨by omega, by omega⟩, _, rfl, _, _, rfl, rfl, tx cs, _, col a b c cs x y, rfl, rfl, l1, by omega, ?_, ?_, k _ s1⟩
  · rw [tx_len, hl]; exact l2
  · show cs.toArray[(lowY c y * a + lowX a b c x y).toNat]? = some (col a b c cs x y)
    rw [List.getElem?_toArray, List.getElem?_eq_getElem lt]
    congr 1
    unfold col
    rw [List.getD_eq_getElem?_getD, List.getElem?_eq_getElem lt]
    rfl
def spLNet : Sp := fun vs H Q _ => ∃ (t l : Addr) (ns : List Int) (m : Nat), vs = [.ref t, .int (m : Nat)] ∧ TapeAt H t l ns ∧ 0 < m ∧ m < 2 ^ 20 ∧ ∀ H' n (a b c : Nat), KpT t H H' → TapeAt H' t l ns → Ok a b c → a * c ≤ m → NtAt H' n a b c → Q (.ref n) H'
theorem ok_law_net (T : Txt K mg CN CC CW CL) : Df P w K mg base CX0 2 "_law_net" spLNet := by
  refine df_of T.d_law_net sc_law_net b_law_net (fun vs H Q E ⟨_, _, _, _, e, _⟩ => by rw [e]; rfl) (fun f cdv A outer s H vs Q E hr h => ?_)
  obtain ⟨t, l, ns, m, rfl, ht, m0, m1, k⟩ := h
  have n0 := sc_law_net.nd
  refine ⟨_, Evl.pss_cut (ps_set (i := 2) n0 rfl (.inl rfl) (pe_op op_add pe_int (pe_df (E := E0) (ok_law_draw T) hr (by decide) (by rfl) pass0 (pa_cons (pv 0) (pa_cons (pv 1) pa_nil)))))
    (pss_one (ps_ret (pe_tup (pa_cons (pv 2) (pa_cons (pe_df (E := E0) (ok_law_draw T) hr (by decide) (by rfl) pass0 (pa_cons (pv 0) (pa_cons (pv 2) pa_nil))) (pa_cons (pe_op op_add pe_int (pe_df (E := E0) (ok_law_draw T) hr (by decide) (by rfl) pass0 (pa_cons (pv 0) (pa_cons (pe_op op_fdivN (pv 1) (pv 2)) pa_nil)))) pa_nil)))))), ?_⟩
  refine ⟨fun σ H' => KpT t H H' ∧ TapeAt H' t l ns ∧ ∃ a : Nat, 0 < a ∧ a ≤ m ∧ σ = [some (.ref t), some (.int (m : Nat)), some (.int (a : Nat))], ⟨_, rfl, _, rfl, t, l, ns, m, rfl, ht, m0, m1, fun H' r hr kp ht' => ⟨_, _, rfl, rfl, kp, ht', 1 + r, by omega, by omega, by rw [Int.natCast_add]; rfl⟩⟩, ?_⟩
  rintro σ H1 ⟨kp, ht1, a, a0, a1, rfl⟩
  have da : 0 < m / a := Nat.div_pos a1 a0
  have dl : m / a ≤ m := Nat.div_le_self _ _
  have ed : (m : Int).fdiv (a : Int) = ((m / a : Nat) : Int) := by rw [Int.fdiv_eq_ediv_of_nonneg _ (by omega)]; rfl
  refine ⟨_, rfl, _, rfl, _, rfl, t, l, ns, a, rfl, ht1, a0, by omega, fun H2 b hb kp2 ht2 => ⟨_, rfl, _, rfl, _, rfl, _, _, rfl, rfl, ⟨by omega, by omega⟩, t, l, ns, m / a, by show [V.ref t, V.int ((m : Int).fdiv (a : Int))] = _; rw [ed], ht2, da, by omega, fun H3 r hr3 kp3 ht3 => ⟨_, _, rfl, rfl, three_line, fun n hn => ?_⟩⟩⟩
  have s4 := same_new (o := .tup [V.int (a : Nat), V.int (b : Nat), V.int (1 + (r : Nat))]) hn
  refine k _ n a b (1 + r) (((kp.trans kp2).trans kp3).trans (Same.kpt s4)) (TapeAt.same ht3 s4) ⟨hb, by omega⟩ ?_ ?_
  · have : a * (1 + r) ≤ a * (m / a) := Nat.mul_le_mul_left _ (by omega)
    exact Nat.le_trans this (Nat.mul_div_le m a)
  · show upd H3 n _ n = _
    rw [upd_same, Int.natCast_add]
    rfl
theorem gcd_fmod (x y : Int) : Int.gcd y (x.fmod y) = Int.gcd x y := by
  have e : x = y * x.fdiv y + x.fmod y := (Int.mul_fdiv_add_fmod x y).symm
  apply Nat.dvd_antisymm
  · refine Int.dvd_gcd ?_ (Int.gcd_dvd_left ..)
    rw [e]
    exact Int.dvd_add (Int.dvd_trans (by rw [← e]; exact Int.gcd_dvd_left ..) (Int.dvd_mul_right _ _)) (by rw [← e]; exact Int.gcd_dvd_right ..)
  · refine Int.dvd_gcd (Int.gcd_dvd_right ..) ?_
    have : x.fmod y = x - y * x.fdiv y := by omega
    rw [this]
    exact Int.dvd_sub (Int.gcd_dvd_left ..) (Int.dvd_trans (Int.gcd_dvd_right ..) (Int.dvd_mul_right _ _))
theorem fmod_small (x : Int) {y : Int} (h : y ≠ 0) : (x.fmod y).natAbs < y.natAbs := by
  rw [Int.fmod_eq_emod]
  have h1 := Int.emod_nonneg x h
  have h2 := Int.emod_lt x h
  split <;> omega
def spLDiv : Sp := fun vs H Q _ => ∃ a b : Int, vs = [.int a, .int b] ∧ Q (.int (Int.gcd a b)) H
theorem ok_law_divisor (T : Txt K mg CN CC CW CL) : Df P w K mg base CX0 1 "_law_divisor" spLDiv := by
  refine df_of T.d_law_divisor sc_law_divisor b_law_divisor (fun vs H Q E ⟨_, _, e, _⟩ => by rw [e]; rfl) (fun f cdv A outer s H vs Q E hr h => ?_)
  obtain ⟨a, b, rfl, q⟩ := h
  have n0 := sc_law_divisor.nd
  refine ⟨_, pss_cons (ps_while PassesOwn.never (pt_cmpR op_ne (pv 1) pe_int (nomark _))
      (pss_one (ps_par (i := 0) (j := 1) rfl n0 rfl rfl (by decide) rfl rfl (pa_cons (pv 1) (pa_cons (pe_op op_modN (pv 0) (pv 1)) pa_nil)) (by rfl))))
    (pss_one (ps_ret (pe_callB call_abs (by rfl) T.bt.abs (by decide +kernel) (pa_cons (pv 0) pa_nil)))), ?_⟩
  refine while_by (fun σ H' => H' = H ∧ ∃ x y : Int, σ = [some (.int x), some (.int y)] ∧ Int.gcd x y = Int.gcd a b) (fun σ _ => match σ with | [_, some (.int y)] => y.natAbs | _ => 0) ⟨rfl, _, _, rfl, rfl⟩ (fun σ H' hp => ?_) (fun σ H Q Q' f h => ?_)
  · obtain ⟨rfl, x, y, rfl, g⟩ := hp
    refine ⟨_, rfl, rfl, _, rfl, ?_⟩
    refine ite2 (fun c => ?_) (fun c => ?_)
    · have hy : y ≠ 0 := fun e => by rw [e] at c; simp at c
      refine ⟨_, rfl, _, rfl, _, rfl, _, _, rfl, rfl, hy, _, _, rfl, ⟨rfl, y, x.fmod y, rfl, ?_⟩, ?_⟩
      · rw [gcd_fmod]; exact g
      · exact fmod_small x hy
    · have hy : y = 0 := by simpa using c
      subst hy
      refine ⟨_, rfl, _, rfl, ?_⟩
      rw [← g, Int.gcd_zero_right] at q
      have e : (if x < 0 then -x else x) = (x.natAbs : Int) := by split <;> omega
      rw [e]
      exact q
  · obtain ⟨v, e, e1, k, e3, h⟩ := h
    exact ⟨v, e, e1, k, e3, f _ _ h⟩
end
end CpR
set_option Elab.async false
set_option linter.all false
set_option maxRecDepth 100000
set_option maxHeartbeats 1000000
/-! F03: the law's motions. -/
namespace CpR
open PySem PySem.Spec PyProof.Rows L2 CpM CpS
section
variable {P : Program} {w : World} {K : PySem.W.Frag} {mg : Str → Option Value} {base : Heap} {CN CC CW CL CI CE : Addr}
def spTurned : Sp := fun vs H Q _ => ∃ (q : Addr) (k : Str) (x y : Int), vs = [.str k, .ref q] ∧ PlAt H q x y ∧ ∀ H' r (u v : Int), Same H H' → PlAt H' r u v → (k = "none" → u = x ∧ v = y) → Q (.ref r) H'
theorem ok_law_turned (T : Txt K mg CN CC CW CL) : Df P w K mg base CX0 1 "_law_turned" spTurned := by
  refine df_of T.d_law_turned sc_law_turned b_law_turned (fun vs H Q E ⟨_, _, _, _, e, _⟩ => by rw [e]; rfl) (fun f cdv A outer s H vs Q E hr h => ?_)
  obtain ⟨q, k, x, y, rfl, hq, kk⟩ := h
  have n0 := sc_law_turned.nd
  refine ⟨_, Evl.pss_cut (ps_asg (pv 1) (pg_tup rfl (pgs_cons (pg_name (i := 2) n0 rfl (.inl rfl)) (pgs_cons (pg_name (i := 3) n0 rfl (.inl rfl)) pgs_nil))))
    (Evl.pss_cut (ps_if (pt_cmpR op_in_seq (pv 0) (pe_lst (pa_cons pe_str (pa_cons pe_str pa_nil))) (by rfl))
      (pss_one (ps_ret (pe_ifExp (pt_cmpR op_eq (pv 0) pe_str (nomark _)) (pe_tup (pa_cons (pv 2) (pa_cons (pv 3) pa_nil))) (pe_tup (pa_cons (pv 2) (pa_cons (pe_op op_sub pe_int (pv 3)) pa_nil)))))) pss_nil)
    (Evl.pss_cut (ps_if (pt_cmpR op_in_seq (pv 0) (pe_lst (pa_cons pe_str (pa_cons pe_str pa_nil))) (by rfl))
      (pss_one (ps_ret (pe_ifExp (pt_cmpR op_eq (pv 0) pe_str (nomark _)) (pe_tup (pa_cons (pe_op op_sub pe_int (pv 3)) (pa_cons (pv 2) pa_nil))) (pe_tup (pa_cons (pv 3) (pa_cons (pe_op op_sub pe_int (pv 2)) pa_nil)))))) pss_nil)
    (Evl.pss_cut (ps_if (pt_cmpR op_in_seq (pv 0) (pe_lst (pa_cons pe_str (pa_cons pe_str pa_nil))) (by rfl))
      (pss_one (ps_ret (pe_ifExp (pt_cmpR op_eq (pv 0) pe_str (nomark _)) (pe_tup (pa_cons (pe_op op_sub pe_int (pv 2)) (pa_cons (pe_op op_sub pe_int (pv 3)) pa_nil))) (pe_tup (pa_cons (pe_op op_sub pe_int (pv 2)) (pa_cons (pv 3) pa_nil)))))) pss_nil)
    (pss_one (ps_ret (pe_ifExp (pt_cmpR op_eq (pv 0) pe_str (nomark _)) (pe_tup (pa_cons (pv 3) (pa_cons (pv 2) pa_nil))) (pe_tup (pa_cons (pe_op op_sub pe_int (pv 3)) (pa_cons (pe_op op_sub pe_int (pv 2)) pa_nil))))))))), ?_⟩
  have fin : ∀ (H1 : Hp) (r : Addr) (u v : Int), Same H H1 → H1 r = none → (k = "none" → u = x ∧ v = y) → Q (.ref r) (upd H1 r (.tup [.int u, .int v])) := fun H1 r u v s hr c => kk _ r u v (s.trans (same_new hr)) upd_same c
  refine ⟨fun σ H' => H' = H ∧ σ = [some (.str k), some (.ref q), some (.int x), some (.int y)], ⟨_, rfl, q, _, rfl, SqT.of hq, rfl, _, _, rfl, _, _, rfl, rfl, rfl, rfl⟩, ?_⟩
  rintro σ H0 ⟨rfl, rfl⟩
  -- where the kind is "none" the first return is taken
  refine ⟨fun σ H' => Same H0 H' ∧ k ≠ "none" ∧ σ = [some (.str k), some (.ref q), some (.int x), some (.int y)], ⟨_, rfl, two_line, fun l hl => ⟨l, _, rfl, .inl (SqL.of upd_same), rfl, rfl, _, rfl, ite2 (fun c => ?_) (fun c => ⟨same_new hl, fun e => ?_, rfl⟩)⟩⟩, ?_⟩
  · refine ⟨_, rfl, rfl, _, rfl, ite2 (fun c2 => ⟨_, rfl, _, rfl, two_line, fun r hr2 => fin _ r x y (same_new hl) hr2 fun _ => ⟨rfl, rfl⟩⟩) (fun c2 => ⟨_, rfl, _, rfl, _, _, rfl, rfl, two_line, fun r hr2 => fin _ r _ _ (same_new hl) hr2 fun e => ?_⟩)⟩
    rw [e] at c2
    exact absurd c2 (by decide +kernel)
  · rw [e] at c
    exact absurd c (by decide +kernel)
  rintro σ H1 ⟨s1, kn, rfl⟩
  refine ⟨fun σ H' => Same H0 H' ∧ σ = [some (.str k), some (.ref q), some (.int x), some (.int y)], ⟨_, rfl, two_line, fun l hl => ⟨l, _, rfl, .inl (SqL.of upd_same), rfl, rfl, _, rfl, ite2 (fun c => ?_) (fun c => ⟨s1.trans (same_new hl), rfl⟩)⟩⟩, ?_⟩
  · exact ⟨_, rfl, rfl, _, rfl, ite2 (fun c2 => ⟨_, rfl, _, _, rfl, rfl, _, rfl, two_line, fun r hr2 => fin _ r _ _ (s1.trans (same_new hl)) hr2 fun e => absurd e kn⟩) (fun c2 => ⟨_, rfl, _, rfl, _, _, rfl, rfl, two_line, fun r hr2 => fin _ r _ _ (s1.trans (same_new hl)) hr2 fun e => absurd e kn⟩)⟩
  rintro σ H2 ⟨s2, rfl⟩
  refine ⟨fun σ H' => Same H0 H' ∧ σ = [some (.str k), some (.ref q), some (.int x), some (.int y)], ⟨_, rfl, two_line, fun l hl => ⟨l, _, rfl, .inl (SqL.of upd_same), rfl, rfl, _, rfl, ite2 (fun c => ?_) (fun c => ⟨s2.trans (same_new hl), rfl⟩)⟩⟩, ?_⟩
  · exact ⟨_, rfl, rfl, _, rfl, ite2 (fun c2 => ⟨_, rfl, _, _, rfl, rfl, _, rfl, _, _, rfl, rfl, two_line, fun r hr2 => fin _ r _ _ (s2.trans (same_new hl)) hr2 fun e => absurd e kn⟩) (fun c2 => ⟨_, rfl, _, _, rfl, rfl, _, rfl, two_line, fun r hr2 => fin _ r _ _ (s2.trans (same_new hl)) hr2 fun e => absurd e kn⟩)⟩
  rintro σ H3 ⟨s3, rfl⟩
  exact ⟨_, rfl, rfl, _, rfl, ite2 (fun c2 => ⟨_, rfl, _, rfl, two_line, fun r hr2 => fin _ r _ _ s3 hr2 fun e => absurd e kn⟩) (fun c2 => ⟨_, rfl, _, _, rfl, rfl, _, rfl, _, _, rfl, rfl, two_line, fun r hr2 => fin _ r _ _ s3 hr2 fun e => absurd e kn⟩)⟩
def kinds : List Str := ["none", "left", "half", "right", "flip", "mirror", "swap", "cross"]
def spKinds : Sp := fun vs H Q _ => vs = [] ∧ ∀ H' r, Same H H' → H' r = some (.lst (kinds.map V.str)) → Q (.ref r) H'
theorem ok_law_kinds (T : Txt K mg CN CC CW CL) : Df P w K mg base CX0 1 "_law_kinds" spKinds := by
  refine df_of T.d_law_kinds sc_law_kinds b_law_kinds (fun vs H Q E ⟨e, _⟩ => by rw [e]; rfl) (fun f cdv A outer s H vs Q E hr h => ?_)
  obtain ⟨rfl, k⟩ := h
  refine ⟨_, pss_one (ps_ret (pe_lst (pa_cons pe_str (pa_cons pe_str (pa_cons pe_str (pa_cons pe_str (pa_cons pe_str (pa_cons pe_str (pa_cons pe_str (pa_cons pe_str pa_nil)))))))))), ?_⟩
  exact ⟨by show 8 ≤ sizeLine; decide, fun r hr2 => k _ r (same_new hr2) upd_same⟩
/-- a motion -/
def MvAt (H : Hp) (m : Addr) : Prop := ∃ (k : Str) (s : Addr) (u v : Int), H m = some (.tup [.str k, .ref s]) ∧ PlAt H s u v
def spCarried : Sp := fun vs H Q _ => ∃ (m q : Addr) (x y : Int), vs = [.ref m, .ref q] ∧ MvAt H m ∧ PlAt H q x y ∧ ∀ H' r (u v : Int), Same H H' → PlAt H' r u v → Q (.ref r) H'
theorem ok_law_carried (T : Txt K mg CN CC CW CL) : Df P w K mg base CX0 2 "_law_carried" spCarried := by
  refine df_of T.d_law_carried sc_law_carried b_law_carried (fun vs H Q E ⟨_, _, _, _, e, _⟩ => by rw [e]; rfl) (fun f cdv A outer s H vs Q E hr h => ?_)
  obtain ⟨m, q, x, y, rfl, ⟨k, t, u, v, hm, ht⟩, hq, kk⟩ := h
  have n0 := sc_law_carried.nd
  refine ⟨_, Evl.pss_cut (ps_asg (pe_df (E := E0) (ok_law_turned T) hr (by decide) (by rfl) pass0 (pa_cons (pe_ix ix_tup (pv 0) pe_int (fun _ _ => rfl)) (pa_cons (pv 1) pa_nil))) (pg_tup rfl (pgs_cons (pg_name (i := 2) n0 rfl (.inl rfl)) (pgs_cons (pg_name (i := 3) n0 rfl (.inl rfl)) pgs_nil))))
    (pss_one (ps_ret (pe_tup (pa_cons (pe_op op_add (pv 2) (pe_ix ix_tup (pe_ix ix_tup (pv 0) pe_int (fun _ _ => rfl)) pe_int (fun _ _ => rfl))) (pa_cons (pe_op op_add (pv 3) (pe_ix ix_tup (pe_ix ix_tup (pv 0) pe_int (fun _ _ => rfl)) pe_int (fun _ _ => rfl))) pa_nil))))), ?_⟩
  refine ⟨fun σ H' => Same H H' ∧ ∃ x2 y2 : Int, σ = [some (.ref m), some (.ref q), some (.int x2), some (.int y2)], ⟨_, rfl, m, _, _, _, rfl, rfl, SqT.of hm, rfl, _, rfl, q, k, x, y, rfl, hq, fun H' r u v s' hr' _ => ⟨r, _, rfl, SqT.of hr', rfl, _, _, rfl, _, _, rfl, rfl, s', _, _, rfl⟩⟩, ?_⟩
  rintro σ H1 ⟨s1, x2, y2, rfl⟩
  have hm1 := s1 _ _ hm
  have ht1 := s1 _ _ ht
  exact ⟨_, rfl, _, rfl, m, _, _, _, rfl, rfl, SqT.of hm1, rfl, t, _, _, _, rfl, rfl, SqT.of ht1, rfl, _, _, rfl, rfl, _, rfl, _, rfl, m, _, _, _, rfl, rfl, SqT.of hm1, rfl, t, _, _, _, rfl, rfl, SqT.of ht1, rfl, _, _, rfl, rfl, two_line, fun r hr2 => kk _ r _ _ (s1.trans (same_new hr2)) upd_same⟩
/-! ### places as data -/
def encP (p : Int × Int) : PyData := .tuple [.int p.1, .int p.2]
theorem dp_pl {H : Hp} {q : Addr} {x y : Int} (h : PlAt H q x y) : L2.Dp K H (.ref q) (encP (x, y)) := .tup (SqT.of h) (.cons (.int _) (.cons (.int _) .nil))
theorem encP_eqv (p q : Int × Int) : PyData.eqv (encP p) (encP q) = decide (p = q) := by
  rw [Bool.eq_iff_iff, decide_eq_true_iff]
  simp only [encP, PyData.eqv, PyData.eqvAll, Bool.and_eq_true, beq_iff_eq, Bool.and_true]
  constructor
  · intro h; exact Prod.ext h.1 h.2
  · intro h; rw [h]; exact ⟨rfl, rfl⟩
theorem encP_shaped (p : Int × Int) : SeqAt.shaped (encP p) = true := by
  have e1 : PyData.canLay0 (encP p) = true := by simp [encP, PyData.canLay0, PyData.canLayAll0]
  have e2 : PyData.depth (encP p) ≤ 64 := by simp [encP, PyData.depth, PyData.depthAll]
  show (PyData.canLay0 (encP p) && decide (PyData.depth (encP p) ≤ 64)) = true
  rw [e1, decide_eq_true e2]; rfl
theorem dp_pls : ∀ {H : Hp} {L : List (Addr × Int × Int)}, (∀ p ∈ L, PlAt H p.1 p.2.1 p.2.2) → DpAll K H (L.map fun p => V.ref p.1) (L.map fun p => encP p.2)
  | _, [], _ => .nil
  | _, q :: L, h => .cons (dp_pl (h q List.mem_cons_self)) (dp_pls fun p hp => h p (List.mem_cons_of_mem _ hp))
theorem pls_shaped (L : List (Int × Int)) : SeqAt.shaped (.list (L.map encP)) = true := by
  have h1 : PyData.canLayAll0 (L.map encP) = true := by
    induction L with
    | nil => simp [PyData.canLayAll0]
    | cons p L ih => simp [PyData.canLayAll0, ih, encP, PyData.canLay0]
  have d : PyData.depthAll (L.map encP) ≤ 1 := by
    induction L with
    | nil => simp [PyData.depthAll]
    | cons p L ih =>
      rw [List.map_cons, PyData.depthAll]
      refine Nat.max_le.mpr ⟨by simp [encP, PyData.depth, PyData.depthAll], ih ?_⟩
      simp [PyData.canLayAll0] at h1
      exact h1.2
  show (PyData.canLay0 (.list (L.map encP)) && decide (PyData.depth (.list (L.map encP)) ≤ 64)) = true
  rw [PyData.canLay0, h1, PyData.depth, decide_eq_true (by omega)]; rfl
end
end CpR
set_option Elab.async false
set_option linter.all false
set_option maxRecDepth 100000
set_option maxHeartbeats 1000000
/-! F04: the law's kinds that keep a net, moves, letters. -/
namespace CpR
open PySem PySem.Spec PyProof.Rows L2 CpM CpS
theorem low_zero {a b c : Nat} (ok : Ok a b c) (u v : Int) : (lowX a b c u v = 0 ∧ lowY c v = 0) ↔ InL a b c u v := by
  unfold InL lowX
  rw [lowY_mod]
  constructor
  · rintro ⟨h1, h2⟩; exact ⟨Int.dvd_of_emod_eq_zero h2, Int.dvd_of_emod_eq_zero h1⟩
  · rintro ⟨h1, h2⟩; exact ⟨Int.emod_eq_zero_of_dvd h2, Int.emod_eq_zero_of_dvd h1⟩
theorem TapeAt.put {H : Hp} {t l D : Addr} {ns : List Int} {o : HO} (h : TapeAt H t l ns) (h1 : D ≠ t) (h2 : D ≠ l) : TapeAt (upd H D o) t l ns :=
  let ⟨p, r, st, a, b, c⟩ := h; ⟨p, r, st, by rw [upd_ne h1.symm]; exact a, by rw [upd_ne h2.symm]; exact b, c⟩
theorem KpT.put {H H' : Hp} {t D : Addr} {o : HO} (h : KpT t H H') (hD : H D = none) : KpT t H (upd H' D o) := fun b u n e => by
  rw [upd_ne (ne_of_none e hD)]
  exact h b u n e
def six : List Nat := [97, 98, 99, 113, 114, 122]
theorem six_letters : ∀ c ∈ six, c ∈ letters := by decide
/-- at most three letters of the six -/
def Pal (cs : List Nat) : Prop := ∃ pal : List Nat, pal.length ≤ 3 ∧ (∀ c ∈ pal, c ∈ six) ∧ ∀ c ∈ cs, c ∈ pal
theorem Pal.six {cs : List Nat} (h : Pal cs) : ∀ c ∈ cs, c ∈ six := let ⟨_, _, b, c⟩ := h; fun x hx => b x (c x hx)
theorem Pal.letters {cs : List Nat} (h : Pal cs) : ∀ c ∈ cs, c ∈ letters := fun x hx => six_letters x (h.six x hx)
section
variable {P : Program} {w : World} {K : PySem.W.Frag} {mg : Str → Option Value} {base : Heap} {CN CC CW CL CI CE : Addr}
def spKeeps : Sp := fun vs H Q _ => ∃ (n : Addr) (a b c : Nat) (k : Str), vs = [.ref n, .str k] ∧ NtAt H n a b c ∧ Ok a b c ∧ a < 2 ^ 20 ∧ c < 2 ^ 20 ∧ ∀ H' (r : Bool), Same H H' → (k = "none" → r = true) → Q (.bl r) H'
theorem ok_law_keeps (T : Txt K mg CN CC CW CL) : Df P w K mg base CX0 2 "_law_keeps" spKeeps := by
  refine df_of T.d_law_keeps sc_law_keeps b_law_keeps (fun vs H Q E ⟨_, _, _, _, _, e, _⟩ => by rw [e]; rfl) (fun f cdv A outer s H vs Q E hr h => ?_)
  obtain ⟨n, a, b, c, k, rfl, hn, ok, la, lc, kk⟩ := h
  have n0 := sc_law_keeps.nd
  have hu : (A.deeper (envOfC "_law_keeps" (defScope s_law_keeps) s.heap.objs.size f cdv)).units + 64 < cLine := by have := hr.un; omega
  refine ⟨_, Evl.pss_cut (ps_set (i := 2) n0 rfl (.inl rfl) (pe_lst (pa_cons (pe_df (E := E0) (ok_law_turned T) hr (by decide) (by rfl) pass0 (pa_cons (pv 1) (pa_cons (pe_tup (pa_cons (pe_ix ix_tup (pv 0) pe_int (fun _ _ => rfl)) (pa_cons pe_int pa_nil))) pa_nil)))
      (pa_cons (pe_df (E := E0) (ok_law_turned T) hr (by decide) (by rfl) pass0 (pa_cons (pv 1) (pa_cons (pe_tup (pa_cons (pe_ix ix_tup (pv 0) pe_int (fun _ _ => rfl)) (pa_cons (pe_ix ix_tup (pv 0) pe_int (fun _ _ => rfl)) pa_nil))) pa_nil))) pa_nil))))
    (pss_one (ps_ret (pe_cmpR (op_eqD hu) (pe_lc (own := [("_law_row", 3)]) (g := gName 3) (tt := tTest (tOp (rNeD K) (tCallR spLow E0 (tCons (tVar 0) (tCons (tVar 3) tNil))) (tTup (tCons (tC (.int 0)) (tCons (tC (.int 0)) tNil))))) (te := tVar 3) rfl n0 (pi_list (pv 2)) (blkOk_by (N := N_law_keeps) (sc := defScope s_law_keeps) (by decide +kernel))
      (fun _ _ _ _ _ => pg_name (i := 3) n0 rfl (Or.inl rfl)) (fun _ _ _ _ _ => pts_one (pt_cmpR (op_neD hu) (pe_df (E := E0) (ok_law_low T) hr (by decide) (by rfl) pass0 (pa_cons (pv 0) (pa_cons (pv 3) pa_nil))) (pe_tup (pa_cons pe_int (pa_cons pe_int pa_nil))) (nomark _))) (fun _ _ _ _ _ => pv 3)) (pe_lst pa_nil) (nomark _)))), ?_⟩
  obtain ⟨sa, sb⟩ := inL_self ok
  refine ⟨fun σ H' => Same H H' ∧ ∃ (o : Addr) (L : List (Addr × Int × Int)), H' o = some (.lst (L.map fun p => V.ref p.1)) ∧ (∀ p ∈ L, PlAt H' p.1 p.2.1 p.2.2) ∧ L.length = 2 ∧ (k = "none" → ∀ p ∈ L, InL a b c p.2.1 p.2.2) ∧ σ = [some (.ref n), some (.str k), some (.ref o), none], ?_, ?_⟩
  · refine ⟨_, rfl, _, rfl, n, _, _, _, rfl, rfl, SqT.of hn, rfl, two_line, fun q1 hq1 => ⟨q1, k, _, _, rfl, upd_same, fun H1 r1 u1 v1 s1 h1 e1 => ?_⟩⟩
    have sA := (same_new hq1).trans s1
    have hnA : NtAt H1 n a b c := NtAt.same hn sA
    refine ⟨_, rfl, _, rfl, n, _, _, _, rfl, rfl, SqT.of hnA, rfl, _, rfl, n, _, _, _, rfl, rfl, SqT.of hnA, rfl, two_line, fun q2 hq2 => ⟨q2, k, _, _, rfl, upd_same, fun H2 r2 u2 v2 s2 h2 e2 => ?_⟩⟩
    have sB := (same_new hq2).trans s2
    refine ⟨two_line, fun o ho => ⟨(sA.trans sB).trans (same_new ho), o, [(r1, u1, v1), (r2, u2, v2)], upd_same, fun p hp => ?_, rfl, fun e p hp => ?_, rfl⟩⟩
    · rcases List.mem_cons.mp hp with e | hp
      · rw [e]; exact same_new ho _ _ (sB _ _ h1)
      · rcases List.mem_cons.mp hp with e | hp
        · rw [e]; exact same_new ho _ _ h2
        · cases hp
    · rcases List.mem_cons.mp hp with z | hp
      · rw [z]
        obtain ⟨x, y⟩ := e1 e
        rw [x, y]; exact sa
      · rcases List.mem_cons.mp hp with z | hp
        · rw [z]
          obtain ⟨x, y⟩ := e2 e
          rw [x, y]; exact sb
        · cases hp
  rintro σ H1 ⟨s1, o, L, ho, hL, two, hk, rfl⟩
  have hn1 : NtAt H1 n a b c := NtAt.same hn s1
  refine ⟨_, rfl, o, rfl, ⟨_, SqL.of ho⟩, fun D hD => lc_it (walk_list (K := K) (a := o) (xs := L.map fun p => V.ref p.1)) (fun i H' => Same H1 H' ∧ ∃ M : List (Addr × Int × Int), H' D = some (.lst (M.map fun p => V.ref p.1)) ∧ (∀ p ∈ M, p ∈ L) ∧ M.length ≤ i ∧ (k = "none" → M = []))
    ⟨same_new hD, [], upd_same, fun p hp => (by cases hp), Nat.le_refl _, fun _ => rfl⟩ (fun i H' _ ⟨s', _⟩ => SqL.of (s' _ _ ho)) (fun i x H2 H3 hi ⟨s2, M, hM, mM, lM, nM⟩ hy => ?_) (fun H' ⟨s2, M, hM, mM, lM, nM⟩ => ?_)⟩
  · obtain ⟨rfl, hx⟩ := hy
    rw [List.getElem?_map] at hx
    obtain ⟨p, hp, rfl⟩ := Option.map_eq_some_iff.mp hx
    have mp := List.mem_of_getElem? hp
    refine ⟨rfl, _, rfl, _, rfl, n, p.1, a, b, c, p.2.1, p.2.2, rfl, NtAt.same hn1 s2, s2 _ _ (hL p mp), ok, by omega, by omega, fun r hr2 => ⟨two_line, fun z hz => ?_⟩⟩
    have hz1 := same_new (o := .tup [V.int 0, V.int 0]) hz
    have h5 : PlAt (upd (upd H3 r (.tup [V.int (lowX a b c p.2.1 p.2.2), V.int (lowY c p.2.2)])) z (.tup [V.int 0, V.int 0])) r (lowX a b c p.2.1 p.2.2) (lowY c p.2.2) := hz1 _ _ upd_same
    have h6 : PlAt (upd (upd H3 r (.tup [V.int (lowX a b c p.2.1 p.2.2), V.int (lowY c p.2.2)])) z (.tup [V.int 0, V.int 0])) z 0 0 := upd_same
    refine ⟨encP (lowX a b c p.2.1 p.2.2, lowY c p.2.2), encP (0, 0), dp_pl h5, dp_pl h6, encP_shaped _, encP_shaped _, _, rfl, ?_⟩
    rw [encP_eqv]
    have s5 := (same_new (o := .tup [V.int (lowX a b c p.2.1 p.2.2), V.int (lowY c p.2.2)]) hr2).trans hz1
    have hM5 := s5 _ _ hM
    refine ite2 (fun q => ⟨_, rfl, _, hM5, ?_, fun b' o' e' => ?_, M ++ [p], by rw [upd_same, List.map_append]; rfl, fun p' hp' => ?_, by rw [List.length_append]; show M.length + 1 ≤ i + 1; omega, fun e => ?_⟩) (fun q => ⟨s2.trans s5, M, hM5, mM, by omega, nM⟩)
    · rw [List.length_map]
      rw [List.length_map] at hi
      exact lt_line (by omega)
    · rw [upd_ne (ne_of_none e' hD)]
      exact s5 _ _ (s2 _ _ e')
    · rcases List.mem_append.mp hp' with h | h
      · exact mM p' h
      · rw [List.mem_singleton.mp h]; exact mp
    · obtain ⟨z1, z2⟩ := (low_zero ok _ _).mpr (hk e p mp)
      rw [z1, z2] at q
      exact absurd q (by decide)
  · have hD2 : H1 D = none := hD
    refine ⟨Nat.zero_le _, fun z hz => ?_⟩
    have hz1 := same_new (o := .lst ([] : List V)) hz
    have h5 := hz1 _ _ hM
    have dM : DpAll K (upd H' z (.lst [])) (M.map fun p => V.ref p.1) (M.map fun p => encP p.2) := dp_pls fun p hp => hz1 _ _ (s2 _ _ (hL p (mM p hp)))
    refine ⟨PyData.list (M.map fun (p : Addr × Int × Int) => encP p.2), .list [], .lst (SqL.of h5) dM, .lst (SqL.of upd_same) .nil, ?_, by decide +kernel, ?_⟩
    · have := pls_shaped (M.map (·.2))
      rw [List.map_map] at this
      exact this
    · refine kk _ _ ((s1.trans s2).trans hz1) fun e => ?_
      rw [nM e]
      rfl
def spMove : Sp := fun vs H Q _ => ∃ (t l n : Addr) (ns : List Int) (a b c : Nat), vs = [.ref t, .ref n] ∧ TapeAt H t l ns ∧ NtAt H n a b c ∧ Ok a b c ∧ a < 2 ^ 20 ∧ c < 2 ^ 20 ∧ ∀ H' m, KpT t H H' → TapeAt H' t l ns → MvAt H' m → Q (.ref m) H'
theorem ok_law_move (T : Txt K mg CN CC CW CL) : Df P w K mg base CX0 3 "_law_move" spMove := by
  refine df_of T.d_law_move sc_law_move b_law_move (fun vs H Q E ⟨_, _, _, _, _, _, _, e, _⟩ => by rw [e]; rfl) (fun f cdv A outer s H vs Q E hr h => ?_)
  obtain ⟨t, l, n, ns, a, b, c, rfl, ht, hn, ok, la, lc, kk⟩ := h
  have n0 := sc_law_move.nd
  refine ⟨_, Evl.pss_cut (ps_setLc (i := 2) (own := [("_law_kind", 3)]) (g := gName 3) (tt := _) rfl n0 rfl rfl (sw_true rfl rfl rfl (by decide +kernel)) (pi_list (pe_df0 (E := E0) (ok_law_kinds T) hr (by decide) (by rfl) pass0)) (blkOk_by (N := N_law_move) (sc := defScope s_law_move) (by decide +kernel))
      (fun _ _ _ _ _ => pg_name (i := 3) n0 rfl (Or.inl rfl)) (fun _ _ _ _ _ => pts_one (pt_val (pe_df (E := E0) (ok_law_keeps T) hr (by decide) (by rfl) pass0 (pa_cons (pv 1) (pa_cons (pv 3) pa_nil))))) (fun _ _ _ _ _ => pv 3))
    (pss_one (ps_ret (pe_tup (pa_cons (pe_ix ix_list (pv 2) (pe_df (E := E0) (ok_law_draw T) hr (by decide) (by rfl) pass0 (pa_cons (pv 0) (pa_cons (pe_callB call_len_seq (by rfl) T.bt.len PySem.boot_len (pa_cons (pv 2) pa_nil)) pa_nil))) (fun _ _ => rfl))
      (pa_cons (pe_tup (pa_cons (pe_op op_sub (pe_df (E := E0) (ok_law_draw T) hr (by decide) (by rfl) pass0 (pa_cons (pv 0) (pa_cons pe_int pa_nil))) pe_int) (pa_cons (pe_op op_sub (pe_df (E := E0) (ok_law_draw T) hr (by decide) (by rfl) pass0 (pa_cons (pv 0) (pa_cons pe_int pa_nil))) pe_int) pa_nil))) pa_nil))))), ?_⟩
  refine ⟨fun σ H' => Same H H' ∧ ∃ (o : Addr) (ks : List Str), H' o = some (.lst (ks.map V.str)) ∧ H o = none ∧ 0 < ks.length ∧ ks.length ≤ 8 ∧ σ = [some (.ref t), some (.ref n), some (.ref o), none], ?_, ?_⟩
  · refine ⟨rfl, fun H1 r s1 hr1 => ⟨r, rfl, ⟨_, SqL.of hr1⟩, fun D hD => lc_it (walk_list (K := K) (a := r) (xs := kinds.map V.str)) (fun i H' => Same H1 H' ∧ ∃ ks : List Str, H' D = some (.lst (ks.map V.str)) ∧ ks.length ≤ i ∧ (0 < i → 0 < ks.length))
      ⟨same_new hD, [], upd_same, Nat.le_refl _, fun h => absurd h (Nat.lt_irrefl _)⟩ (fun i H' _ ⟨s', _⟩ => SqL.of (s' _ _ hr1)) (fun i x H2 H3 hi ⟨s2, M, hM, lM, nM⟩ hy => ?_) (fun H' ⟨s2, M, hM, lM, nM⟩ => ?_)⟩⟩
    · obtain ⟨rfl, hx⟩ := hy
      rw [List.getElem?_map] at hx
      obtain ⟨k, hk, rfl⟩ := Option.map_eq_some_iff.mp hx
      refine ⟨rfl, _, rfl, _, rfl, n, a, b, c, k, rfl, NtAt.same (NtAt.same hn s1) s2, ok, la, lc, fun H4 r4 s4 h4 => ⟨_, rfl, ?_⟩⟩
      have hi8 : i < 8 := hi
      refine ite2 (fun q => ⟨_, rfl, _, s4 _ _ hM, by rw [List.length_map]; exact lt_line (by omega), fun b' o' e' => ?_, M ++ [k], by rw [upd_same, List.map_append]; rfl, by rw [List.length_append]; show M.length + 1 ≤ i + 1; omega, fun _ => by rw [List.length_append]; show 0 < M.length + 1; omega⟩) (fun q => ⟨s2.trans s4, M, s4 _ _ hM, by omega, fun _ => ?_⟩)
      · rw [upd_ne (ne_of_none e' hD)]
        exact s4 _ _ (s2 _ _ e')
      · by_cases z : 0 < i
        · exact nM z
        · have e0 : i = 0 := by omega
          subst e0
          have ek : k = "none" := (Option.some.inj hk).symm
          rw [h4 ek] at q
          exact (q rfl).elim
    · exact ⟨s1.trans s2, D, M, hM, s1.free hD, nM (by decide), lM, rfl⟩
  rintro σ H1 ⟨s1, o, ks, ho, fo, pos, le8, rfl⟩
  have not : o ≠ t := (ht.fresh fo).1
  have ht1 := ht.same s1
  refine ⟨_, rfl, _, rfl, _, rfl, o, _, rfl, .inl (SqL.of ho), t, l, ns, ks.length, by rw [List.length_map], ht1, pos, by omega, fun H2 r hr2 kp2 ht2 => ?_⟩
  have hk := List.getElem?_eq_getElem hr2
  refine ⟨o, _, _, .str ks[r], rfl, rfl, SqL.of (kp2 _ _ not ho), atI_nat (by rw [List.getElem?_map, hk]; rfl), _, rfl, t, l, ns, 5, rfl, ht2, by decide, by decide, fun H3 r3 hr3 kp3 ht3 => ⟨_, _, rfl, rfl, _, rfl, t, l, ns, 5, rfl, ht3, by decide, by decide, fun H4 r4 hr4 kp4 ht4 => ⟨_, _, rfl, rfl, two_line, fun p hp => ⟨two_line, fun m hm => ?_⟩⟩⟩⟩
  have sp := same_new (o := .tup [V.int ((r3 : Nat) - 2), V.int ((r4 : Nat) - 2)]) hp
  have sm := same_new (o := .tup [V.str ks[r], V.ref p]) hm
  exact kk _ m ((((Same.kpt s1).trans kp2).trans kp3).trans (kp4.trans (Same.kpt (sp.trans sm)))) ((ht4.same sp).same sm) ⟨_, p, _, _, upd_same, sm _ _ upd_same⟩
end
end CpR
set_option Elab.async false
set_option linter.all false
set_option maxRecDepth 100000
set_option maxHeartbeats 1000000
/-! F05: the law's letters, squares, copies. -/
namespace CpR
open PySem PySem.Spec PyProof.Rows L2 CpM CpS
theorem pal_str {r : Nat} (h : r < 4) : ∃ pal : List Nat, ([V.str "ab", V.str "abc", V.str "az", V.str "qrb"] : List V)[r]? = some (.str (tx pal)) ∧ pal.length ≤ 3 ∧ 0 < pal.length ∧ ∀ c ∈ pal, c ∈ six := by
  have h1 : ("ab" : Str) = tx [97, 98] := by decide +kernel
  have h2 : ("abc" : Str) = tx [97, 98, 99] := by decide +kernel
  have h3 : ("az" : Str) = tx [97, 122] := by decide +kernel
  have h4 : ("qrb" : Str) = tx [113, 114, 98] := by decide +kernel
  rw [h1, h2, h3, h4]
  match r, h with
  | 0, _ => exact ⟨_, rfl, by decide, by decide, by decide⟩
  | 1, _ => exact ⟨_, rfl, by decide, by decide, by decide⟩
  | 2, _ => exact ⟨_, rfl, by decide, by decide, by decide⟩
  | 3, _ => exact ⟨_, rfl, by decide, by decide, by decide⟩
/-- what a text under way is -/
def SgUp (t : Addr) (H0 H : Hp) (D : Addr) (cs : List Nat) : Prop := KpT t H0 H ∧ H D = some (.lst ((cs.map sign).map V.str))
section
variable {P : Program} {w : World} {K : PySem.W.Frag} {mg : Str → Option Value} {base : Heap} {CN CC CW CL CI CE : Addr}
def spLetters : Sp := fun vs H Q _ => ∃ (t l : Addr) (ns : List Int) (m : Nat), vs = [.ref t, .int (m : Nat)] ∧ TapeAt H t l ns ∧ m ≤ 2000 ∧ ∀ H' cs, KpT t H H' → TapeAt H' t l ns → cs.length = m → Pal cs → Q (.str (tx cs)) H'
theorem ok_law_letters (T : Txt K mg CN CC CW CL) : Df P w K mg base CX0 2 "_law_letters" spLetters := by
  refine df_of T.d_law_letters sc_law_letters b_law_letters (fun vs H Q E ⟨_, _, _, _, e, _⟩ => by rw [e]; rfl) (fun f cdv A outer s H vs Q E hr h => ?_)
  obtain ⟨t, l, ns, m, rfl, ht, lm, kk⟩ := h
  have n0 := sc_law_letters.nd
  refine ⟨_, Evl.pss_cut (ps_set (i := 2) n0 rfl (.inr rfl) (pe_ix ix_list (pe_lst (pa_cons pe_str (pa_cons pe_str (pa_cons pe_str (pa_cons pe_str pa_nil))))) (pe_df (E := E0) (ok_law_draw T) hr (by decide) (by rfl) pass0 (pa_cons (pv 0) (pa_cons pe_int pa_nil))) (fun _ _ => rfl)))
    (pss_one (ps_ret (pe_join pe_str (pe_lc (own := [("_law_k", 3)]) (g := gName 3) (tt := tYes) rfl n0 (pi_range1 (by rfl) T.bt.range (pa_cons (pv 1) pa_nil)) (blkOk_by (N := N_law_letters) (sc := defScope s_law_letters) (by decide +kernel))
      (fun _ _ _ _ _ => pg_name (i := 3) n0 rfl (Or.inl rfl)) (fun _ _ _ _ _ => pts_nil)
      (fun _ _ _ _ _ => pe_ix ix_str (pv 2) (pe_df (E := E0) (ok_law_draw T) hr (by decide) (by rfl) pass0 (pa_cons (pv 0) (pa_cons (pe_callB call_len_str (by rfl) T.bt.len PySem.boot_len (pa_cons (pv 2) pa_nil)) pa_nil))) (fun _ _ => rfl)))))), ?_⟩
  refine ⟨fun σ H' => KpT t H H' ∧ TapeAt H' t l ns ∧ ∃ pal : List Nat, pal.length ≤ 3 ∧ 0 < pal.length ∧ (∀ c ∈ pal, c ∈ six) ∧ σ = [some (.ref t), some (.int (m : Nat)), some (.str (tx pal)), none], ⟨by show 4 ≤ sizeLine; decide, fun o ho => ⟨_, rfl, t, l, ns, 4, rfl, ht.same (same_new ho), by decide, by decide, fun H1 r hr1 kp1 ht1 => ?_⟩⟩, ?_⟩
  · obtain ⟨pal, e1, e2, e3, e4⟩ := pal_str hr1
    have not := (ht.fresh ho).1
    exact ⟨o, _, _, _, rfl, rfl, SqL.of (kp1 _ _ not upd_same), atI_nat e1, (Same.kpt (same_new ho)).trans kp1, ht1, pal, e2, e3, e4, rfl⟩
  rintro σ H1 ⟨kp1, ht1, pal, p3, p0, pl, rfl⟩
  have hlen : (tx pal).length ≤ sizeLine := by rw [tx_len]; exact Nat.le_of_lt (lt_line (by omega))
  refine ⟨⟨_, rfl⟩, _, rfl, _, rfl, by omega, by omega, fun D hD => ?_⟩
  obtain ⟨dt, dl⟩ := ht1.fresh hD
  rw [show ((m : Nat) : Int).toNat = m by omega]
  refine lc_it (walk_range (lo := 0) (n := m)) (fun i H' => TapeAt H' t l ns ∧ ∃ cs : List Nat, cs.length = i ∧ (∀ c ∈ cs, c ∈ pal) ∧ SgUp t H1 H' D cs) ⟨ht1.same (same_new hD), [], rfl, fun c hc => (by cases hc), Same.kpt (same_new hD), upd_same⟩ (fun _ _ _ _ => trivial) (fun i x H2 H3 hi ⟨ht2, cs, lcs, mcs, kp2, hD2⟩ y => ?_) (fun H' ⟨ht2, cs, lcs, mcs, kp2, hD2⟩ => ?_)
  · obtain ⟨rfl, rfl⟩ := y
    refine ⟨rfl, _, rfl, _, rfl, _, rfl, _, rfl, hlen, t, l, ns, pal.length, by rw [tx_len], ht2, p0, by omega, fun H4 r hr4 kp4 ht4 => ?_⟩
    have gc := List.getElem?_eq_getElem hr4
    refine ⟨tx pal, _, pal[r], rfl, rfl, hlen, atI_nat (by show (pal.toArray.toList)[r]? = _; exact gc), ?_⟩
    have hD4 := kp4 _ _ dt hD2
    refine ⟨_, hD4, by rw [List.length_map, List.length_map, lcs]; exact lt_line (by omega), ht4.put dt dl, cs ++ [pal[r]], by rw [List.length_append, lcs]; rfl, fun c hc => ?_, (kp2.trans kp4).put hD, ?_⟩
    · rcases List.mem_append.mp hc with hc | hc
      · exact mcs c hc
      · rw [List.mem_singleton.mp hc]; exact List.getElem_mem hr4
    · rw [upd_same, List.map_append, List.map_append]
      rfl
  · refine ⟨_, D, _, rfl, rfl, .inl (SqL.of hD2), ?_, ?_⟩
    · rw [sum_signs, List.length_map, lcs]
      have e0 : (Str.ofString "").length = 0 := by decide +kernel
      rw [e0]
      omega
    · rw [join_signs]
      exact kk _ cs (kp1.trans kp2) ht2 lcs ⟨pal, p3, pl, mcs⟩
def spSquare : Sp := fun vs H Q _ => ∃ (t l : Addr) (ns : List Int) (m : Nat), vs = [.ref t, .int (m : Nat)] ∧ TapeAt H t l ns ∧ 6 ≤ m ∧ m ≤ 15 ∧ ∀ H' n (a b c : Nat), KpT t H H' → TapeAt H' t l ns → Ok a b c → a * c ≤ m → NtAt H' n a b c → Q (.ref n) H'
theorem ok_law_square (T : Txt K mg CN CC CW CL) : Df P w K mg base CX0 2 "_law_square" spSquare := by
  refine df_of T.d_law_square sc_law_square b_law_square (fun vs H Q E ⟨_, _, _, _, e, _⟩ => by rw [e]; rfl) (fun f cdv A outer s H vs Q E hr h => ?_)
  obtain ⟨t, l, ns, m, rfl, ht, m6, m15, kk⟩ := h
  have n0 := sc_law_square.nd
  refine ⟨_, Evl.pss_cut (ps_set (i := 2) n0 rfl (.inl rfl) (pe_op op_add pe_int (pe_df (E := E0) (ok_law_draw T) hr (by decide) (by rfl) pass0 (pa_cons (pv 0) (pa_cons (pe_ix ix_list (pe_lst (pa_cons pe_int (pa_cons pe_int pa_nil))) (pe_callTy call_int1 (by rfl) T.bt.b_int (by decide +kernel) (pa_cons (pe_cmpR op_gt (pv 1) pe_int (nomark _)) pa_nil)) (fun _ _ => rfl)) pa_nil)))))
    (Evl.pss_cut (ps_set (i := 3) n0 rfl (.inl rfl) (pe_lst (pa_cons (pe_tup (pa_cons (pv 2) (pa_cons pe_int (pa_cons (pv 2) pa_nil)))) (pa_cons (pe_tup (pa_cons (pe_op op_mul pe_int (pv 2)) (pa_cons (pv 2) (pa_cons (pv 2) pa_nil)))) (pa_cons (pe_tup (pa_cons (pv 2) (pa_cons pe_int (pa_cons (pe_op op_add pe_int (pe_df (E := E0) (ok_law_draw T) hr (by decide) (by rfl) pass0 (pa_cons (pv 0) (pa_cons (pe_op op_fdivN (pv 1) (pv 2)) pa_nil)))) pa_nil)))) pa_nil)))))
    (pss_one (ps_ret (pe_ix ix_list (pe_lc (own := [("_law_net_here", 4)]) (g := gName 4) (tt := tTest (tOp (rI0 fun i j => V.bl (decide (i ≤ j))) (tOp (rI CMul fun i j => .int (i * j)) (tOp (rIxT K) (tVar 4) (tC (.int 0))) (tOp (rIxT K) (tVar 4) (tC (.int 2)))) (tVar 1))) (te := tVar 4) rfl n0 (pi_list (pv 3)) (blkOk_by (N := N_law_square) (sc := defScope s_law_square) (by decide +kernel))
      (fun _ _ _ _ _ => pg_name (i := 4) n0 rfl (Or.inl rfl)) (fun _ _ _ _ _ => pts_one (pt_cmpR op_le (pe_op op_mul (pe_ix ix_tup (pv 4) pe_int (fun _ _ => rfl)) (pe_ix ix_tup (pv 4) pe_int (fun _ _ => rfl))) (pv 1) (nomark _))) (fun _ _ _ _ _ => pv 4))
      (pe_df (E := E0) (ok_law_draw T) hr (by decide) (by rfl) pass0 (pa_cons (pv 0) (pa_cons pe_int pa_nil))) (fun _ _ => rfl))))), ?_⟩
  refine ⟨fun σ H' => KpT t H H' ∧ TapeAt H' t l ns ∧ ∃ d : Nat, 1 ≤ d ∧ d ≤ 2 ∧ σ = [some (.ref t), some (.int (m : Nat)), some (.int (d : Nat)), none, none], ⟨_, rfl, two_line, fun o ho => ⟨_, rfl, _, _, rfl, rfl, .inr ⟨_, rfl, o, _, 0, .int 2, rfl, ?_, SqL.of upd_same, rfl, t, l, ns, 2, rfl, ht.same (same_new ho), by decide, by decide, fun H1 r hr1 kp1 ht1 => ⟨_, _, rfl, rfl, (Same.kpt (same_new ho)).trans kp1, ht1, 1 + r, by omega, by omega, ?_⟩⟩⟩⟩, ?_⟩
  · rw [show decide ((m : Int) > 15) = false from decide_eq_false (by omega)]; rfl
  · rw [Int.natCast_add]; rfl
  rintro σ H1 ⟨kp1, ht1, d, d1, d2, rfl⟩
  have ed : (m : Int).fdiv (d : Int) = ((m / d : Nat) : Int) := by rw [Int.fdiv_eq_ediv_of_nonneg _ (by omega)]; rfl
  have md : 0 < m / d := Nat.div_pos (by omega) (by omega)
  have mdl : m / d ≤ m := Nat.div_le_self _ _
  refine ⟨fun σ H' => KpT t H1 H' ∧ TapeAt H' t l ns ∧ ∃ (o : Addr) (L : List (Addr × Nat × Nat × Nat)), H1 o = none ∧ H' o = some (.lst (L.map fun p => V.ref p.1)) ∧ (∀ p ∈ L, NtAt H' p.1 p.2.1 p.2.2.1 p.2.2.2 ∧ Ok p.2.1 p.2.2.1 p.2.2.2 ∧ p.2.1 < 2 ^ 10 ∧ p.2.2.2 < 2 ^ 10) ∧ (2 ≤ (L.filter fun p => decide (p.2.1 * p.2.2.2 ≤ m)).length) ∧ L.length = 3 ∧ σ = [some (.ref t), some (.int (m : Nat)), some (.int (d : Nat)), some (.ref o), none], ?_, ?_⟩
  · refine ⟨_, rfl, _, rfl, three_line, fun n1 hn1 => ⟨_, rfl, _, _, rfl, rfl, .inl ⟨by decide, by decide⟩, _, rfl, _, rfl, three_line, fun n2 hn2 => ⟨_, rfl, _, rfl, _, rfl, _, rfl, _, _, rfl, rfl, ⟨by omega, by omega⟩, t, l, ns, m / d, by show [V.ref t, V.int ((m : Int).fdiv (d : Int))] = _; rw [ed], (ht1.same (same_new hn1)).same (same_new hn2), md, by omega, fun H2 r hr2 kp2 ht2 => ⟨_, _, rfl, rfl, three_line, fun n3 hn3 => ⟨three_line, fun o ho => ?_⟩⟩⟩⟩⟩
    have nt2 : n2 ≠ t := ((ht1.same (same_new hn1)).fresh hn2).1
    have nt1 : n1 ≠ t := (ht1.fresh hn1).1
    have e1 : H2 n1 = some (.tup [V.int (d : Nat), V.int 0, V.int (d : Nat)]) := kp2 _ _ nt1 (same_new hn2 _ _ upd_same)
    have e2 := kp2 _ _ nt2 upd_same
    have s3 := same_new (o := .tup [V.int (d : Nat), V.int 0, V.int (1 + (r : Nat))]) hn3
    have s4 := same_new (o := .lst [V.ref n1, V.ref n2, V.ref n3]) ho
    have fo : H1 o = none := by
      cases e : H1 o with
      | none => rfl
      | some u =>
        have no : o ≠ t ∨ o = t := (Classical.em (o = t)).symm
        rcases no with no | no
        · rw [s3 _ _ (kp2 _ _ no (same_new hn2 _ _ (same_new hn1 _ _ e)))] at ho; cases ho
        · obtain ⟨_, _, _, q, _⟩ := ht2
          rw [no, s3 _ _ q] at ho; cases ho
    refine ⟨((Same.kpt ((same_new hn1).trans (same_new hn2))).trans kp2).trans (Same.kpt (s3.trans s4)), (ht2.same s3).same s4, o, [(n1, d, 0, d), (n2, 2 * d, d, d), (n3, d, 0, 1 + r)], fo, upd_same, fun p hp => ?_, ?_, rfl, rfl⟩
    · have d1' : d < 2 ^ 10 := by omega
      rcases List.mem_cons.mp hp with e | hp
      · rw [e]
        exact ⟨(s3.trans s4) _ _ e1, ⟨by show 0 < d; omega, by show 0 < d; omega⟩, d1', d1'⟩
      · rcases List.mem_cons.mp hp with e | hp
        · rw [e]
          refine ⟨?_, ⟨by show d < 2 * d; omega, by show 0 < d; omega⟩, by show 2 * d < 2 ^ 10; omega, d1'⟩
          have z := (s3.trans s4) _ _ e2
          show upd _ o _ n2 = some (.tup [.int ((2 * d : Nat) : Int), _, _])
          rw [z, Int.natCast_mul]
          rfl
        · rcases List.mem_cons.mp hp with e | hp
          · rw [e]
            refine ⟨?_, ⟨by show 0 < d; omega, by show 0 < 1 + r; omega⟩, d1', by show 1 + r < 2 ^ 10; omega⟩
            have z := s4 _ _ (upd_same (H := H2) (a := n3) (o := .tup [V.int (d : Nat), V.int 0, V.int (1 + (r : Nat))]))
            show upd _ o _ n3 = some (.tup [_, _, .int ((1 + r : Nat) : Int)])
            rw [z, Int.natCast_add]
            rfl
          · cases hp
    · have b1 : d * d ≤ m := by have := Nat.mul_le_mul d2 d2; omega
      have b3 : d * (1 + r) ≤ m := Nat.le_trans (Nat.mul_le_mul_left _ (by omega)) (Nat.mul_div_le m d)
      rw [List.filter_cons_of_pos (by exact decide_eq_true b1)]
      by_cases q : 2 * d * d ≤ m
      · rw [List.filter_cons_of_pos (by exact decide_eq_true q), List.filter_cons_of_pos (by exact decide_eq_true b3)]
        simp
      · rw [List.filter_cons_of_neg (by intro z; exact q (of_decide_eq_true z)), List.filter_cons_of_pos (by exact decide_eq_true b3)]
        simp
  rintro σ H2 ⟨kp2, ht2, o, L, fo, ho, hL, many, l3, rfl⟩
  have tt : ∀ i p, L[i]? = some p → L.take (i + 1) = L.take i ++ [p] := fun i p h => by rw [List.take_succ, h]; rfl
  refine ⟨_, rfl, o, rfl, ⟨_, SqL.of ho⟩, fun D hD => lc_it (walk_list (K := K) (a := o) (xs := L.map fun p => V.ref p.1)) (fun i H' => Same H2 H' ∧ H' D = some (.lst (((L.take i).filter fun p => decide (p.2.1 * p.2.2.2 ≤ m)).map fun p => V.ref p.1)))
    ⟨same_new hD, upd_same⟩ (fun i H' _ ⟨s', _⟩ => SqL.of (s' _ _ ho)) (fun i x H3 H4 hi ⟨s3, hD3⟩ hy => ?_) (fun H' ⟨s3, hD3⟩ => ?_)⟩
  · obtain ⟨rfl, hx⟩ := hy
    rw [List.getElem?_map] at hx
    obtain ⟨p, hp, rfl⟩ := Option.map_eq_some_iff.mp hx
    obtain ⟨np, okp, lp1, lp2⟩ := hL p (List.mem_of_getElem? hp)
    have np4 := s3 _ _ np
    rw [tt i p hp, List.filter_append, List.map_append]
    refine ⟨rfl, _, rfl, p.1, _, _, _, rfl, rfl, SqT.of np4, rfl, _, rfl, p.1, _, _, _, rfl, rfl, SqT.of np4, rfl, _, _, rfl, rfl, .inl ⟨by omega, by omega⟩, _, rfl, _, _, rfl, rfl, _, rfl, ?_⟩
    rw [← Int.natCast_mul]
    refine ite2 (fun q => ⟨_, rfl, _, hD3, ?_, fun b' o' e' => ?_, ?_⟩) (fun q => ⟨s3, ?_⟩)
    · rw [List.length_map]
      have := List.length_filter_le (fun (p : Addr × Nat × Nat × Nat) => decide (p.2.1 * p.2.2.2 ≤ m)) (L.take i)
      have := List.length_take_le' i L
      exact lt_line (by omega)
    · rw [upd_ne (ne_of_none e' hD)]
      exact s3 _ _ e'
    · have q := of_decide_eq_true q
      rw [upd_same, List.filter_cons_of_pos (by exact decide_eq_true (by omega))]
      rfl
    · rw [List.filter_cons_of_neg (by intro z; have z := of_decide_eq_true z; exact q (decide_eq_true (by omega)))]
      rw [hD3]
      simp
  · rw [List.length_map, List.take_length] at hD3
    have ht3 := ht2.same s3
    have dt := (ht2.fresh hD).1
    refine ⟨_, rfl, t, l, ns, 2, rfl, ht3, by decide, by decide, fun H4 r hr4 kp4 ht4 => ?_⟩
    obtain ⟨F, eF⟩ : ∃ F, F = L.filter fun p => decide (p.2.1 * p.2.2.2 ≤ m) := ⟨_, rfl⟩
    rw [← eF] at hD3 many
    have lt : r < F.length := by omega
    have gr := List.getElem?_eq_getElem lt
    have mr : F[r] ∈ L.filter fun p => decide (p.2.1 * p.2.2.2 ≤ m) := by rw [← eF]; exact List.getElem_mem lt
    obtain ⟨m1, m2⟩ := List.mem_filter.mp mr
    obtain ⟨np, okp, _, _⟩ := hL _ m1
    refine ⟨D, _, _, .ref F[r].1, rfl, rfl, SqL.of (kp4 _ _ dt hD3), atI_nat (by rw [List.getElem?_map, gr]; rfl), ?_⟩
    have np3 := s3 _ _ np
    exact kk _ _ _ _ _ ((kp1.trans kp2).trans ((Same.kpt s3).trans kp4)) ht4 okp (of_decide_eq_true m2) (kp4 _ _ (ht3.ne np3 fun _ => nofun) np3)
end
end CpR
set_option Elab.async false
set_option linter.all false
set_option maxRecDepth 100000
set_option maxHeartbeats 1000000
/-! F06: the law's copies and ties. -/
namespace CpR
open PySem PySem.Spec PyProof.Rows L2 CpM CpS
/-- a net and a text -/
def WvAt (H : Hp) (p : Addr) (a b c : Nat) (cs : List Nat) : Prop := ∃ n, H p = some (.tup [.ref n, .str (tx cs)]) ∧ NtAt H n a b c
theorem WvAt.same {H H' : Hp} {p : Addr} {a b c : Nat} {cs : List Nat} (h : WvAt H p a b c cs) (s : Same H H') : WvAt H' p a b c cs := let ⟨n, e1, e2⟩ := h; ⟨n, s _ _ e1, s _ _ e2⟩
theorem WvAt.kpt {H H' : Hp} {p t l : Addr} {a b c : Nat} {cs : List Nat} {ns : List Int} (h : WvAt H p a b c cs) (ht : TapeAt H t l ns) (k : KpT t H H') : WvAt H' p a b c cs :=
  let ⟨n, e1, e2⟩ := h; ⟨n, k _ _ (ht.ne e1 fun _ => nofun) e1, k _ _ (ht.ne e2 fun _ => nofun) e2⟩
theorem NtAt.kp {H H' : Hp} {n t l : Addr} {a b c : Nat} {ns : List Int} (h : NtAt H n a b c) (ht : TapeAt H t l ns) (k : KpT t H H') : NtAt H' n a b c := k _ _ (ht.ne h fun _ => nofun) h
theorem sg_of {S : Nat → Prop} : ∀ (ys : List V), (∀ y ∈ ys, ∃ x, S x ∧ y = .str (sign x)) → ∃ cs : List Nat, ys = (cs.map sign).map V.str ∧ ∀ c ∈ cs, S c
  | [], _ => ⟨[], rfl, fun c hc => (by cases hc)⟩
  | y :: ys, h => by
    obtain ⟨x, hx, e⟩ := h y List.mem_cons_self
    obtain ⟨cs, e2, h2⟩ := sg_of ys fun z hz => h z (List.mem_cons_of_mem _ hz)
    refine ⟨x :: cs, by rw [e, e2]; rfl, fun c hc => ?_⟩
    rcases List.mem_cons.mp hc with q | hc
    · rw [q]; exact hx
    · exact h2 c hc
theorem cellPl_at {a c i : Nat} (h : i < a * c) : (cellPl a c)[i]? = some (((i % a : Nat) : Int), ((i / a : Nat) : Int)) := by
  rw [cellPl, List.getElem?_map, List.getElem?_range h]; rfl
section
variable {P : Program} {w : World} {K : PySem.W.Frag} {mg : Str → Option Value} {base : Heap} {CN CC CW CL CI CE : Addr}
def spCopied : Sp := fun vs H Q _ => ∃ (t l n : Addr) (ns : List Int) (a b c m : Nat) (cs : List Nat), vs = [.ref t, .ref n, .str (tx cs), .int (m : Nat)] ∧ TapeAt H t l ns ∧ NtAt H n a b c ∧ Ok a b c ∧ a * c ≤ m ∧ m ≤ 2000 ∧ cs.length = a * c ∧ Pal cs ∧
  ∀ H' p (a b c : Nat) (cs : List Nat), KpT t H H' → TapeAt H' t l ns → WvAt H' p a b c cs → Ok a b c → a * c ≤ m → cs.length = a * c → Pal cs → Q (.ref p) H'
theorem ok_law_copied (T : Txt K mg CN CC CW CL) : Df P w K mg base CX0 3 "_law_copied" spCopied := by
  refine df_of T.d_law_copied sc_law_copied b_law_copied (fun vs H Q E ⟨_, _, _, _, _, _, _, _, _, e, _⟩ => by rw [e]; rfl) (fun f cdv A outer s H vs Q E hr h => ?_)
  obtain ⟨t, l, n, ns, a, b, c, m, cs, rfl, ht, hn, ok, am, lm, hl, pal, kk⟩ := h
  have n0 := sc_law_copied.nd
  refine ⟨_, Evl.pss_cut (ps_par (i := 4) (j := 5) rfl n0 rfl rfl (by decide) rfl rfl (pa_cons (pe_op op_add pe_int (pe_df (E := E0) (ok_law_draw T) hr (by decide) (by rfl) pass0 (pa_cons (pv 0) (pa_cons pe_int pa_nil)))) (pa_cons (pe_op op_add pe_int (pe_df (E := E0) (ok_law_draw T) hr (by decide) (by rfl) pass0 (pa_cons (pv 0) (pa_cons pe_int pa_nil)))) pa_nil)) (by rfl))
    (Evl.pss_cut (ps_if (pt_cmpR op_gt (pe_op op_mul (pe_op op_mul (pe_op op_mul (pe_ix ix_tup (pv 1) pe_int (fun _ _ => rfl)) (pv 4)) (pe_ix ix_tup (pv 1) pe_int (fun _ _ => rfl))) (pv 5)) (pv 3) (nomark _))
      (pss_one (ps_ret (pe_tup (pa_cons (pv 1) (pa_cons (pv 2) pa_nil))))) pss_nil)
    (Evl.pss_cut (ps_set (i := 6) n0 rfl (.inl rfl) (pe_tup (pa_cons (pe_op op_mul (pe_ix ix_tup (pv 1) pe_int (fun _ _ => rfl)) (pv 4)) (pa_cons (pe_op op_modN (pe_op op_mul (pe_ix ix_tup (pv 1) pe_int (fun _ _ => rfl)) (pv 5)) (pe_op op_mul (pe_ix ix_tup (pv 1) pe_int (fun _ _ => rfl)) (pv 4))) (pa_cons (pe_op op_mul (pe_ix ix_tup (pv 1) pe_int (fun _ _ => rfl)) (pv 5)) pa_nil)))))
    (pss_one (ps_ret (pe_tup (pa_cons (pv 6) (pa_cons (pe_join pe_str (pe_lc (own := [("_law_spot", 7)]) (g := gName 7) (tt := tYes) rfl n0 (pi_list (pe_df (E := E0) (ok_law_spots T) hr (by decide) (by rfl) pass0 (pa_cons (pv 6) pa_nil))) (blkOk_by (N := N_law_copied) (sc := defScope s_law_copied) (by decide +kernel))
      (fun _ _ _ _ _ => pg_name (i := 7) n0 rfl (Or.inl rfl)) (fun _ _ _ _ _ => pts_nil)
      (fun _ _ _ _ _ => pe_df (E := E0) (ok_law_seen T) hr (by decide) (by rfl) pass0 (pa_cons (pv 1) (pa_cons (pv 2) (pa_cons (pv 7) pa_nil)))))) pa_nil))))))), ?_⟩
  have pa := ok.pa
  have pc := ok.2
  have la : a ≤ 2000 := Nat.le_trans (Nat.le_mul_of_pos_right _ pc) (by omega)
  have lc : c ≤ 2000 := Nat.le_trans (Nat.le_mul_of_pos_left _ pa) (by omega)
  have lb := ok.1
  refine ⟨fun σ H' => KpT t H H' ∧ TapeAt H' t l ns ∧ ∃ (u v : Nat), 1 ≤ u ∧ u ≤ 3 ∧ 1 ≤ v ∧ v ≤ 2 ∧ σ = [some (.ref t), some (.ref n), some (.str (tx cs)), some (.int (m : Nat)), some (.int (u : Nat)), some (.int (v : Nat)), none, none], ⟨_, rfl, t, l, ns, 3, rfl, ht, by decide, by decide, fun H1 r1 hr1 kp1 ht1 => ⟨_, _, rfl, rfl, _, rfl, t, l, ns, 2, rfl, ht1, by decide, by decide, fun H2 r2 hr2 kp2 ht2 => ⟨_, _, rfl, rfl, _, _, rfl, kp1.trans kp2, ht2, 1 + r1, 1 + r2, by omega, by omega, by omega, by omega, ?_⟩⟩⟩, ?_⟩
  · rw [Int.natCast_add, Int.natCast_add]; rfl
  rintro σ H1 ⟨kp1, ht1, u, v, u1, u3, v1, v2, rfl⟩
  have hn1 : NtAt H1 n a b c := hn.kp ht kp1
  have eu : (a : Int) * (u : Int) = ((a * u : Nat) : Int) := (Int.natCast_mul a u).symm
  have ev : (c : Int) * (v : Int) = ((c * v : Nat) : Int) := (Int.natCast_mul c v).symm
  have ebv : (b : Int) * (v : Int) = ((b * v : Nat) : Int) := (Int.natCast_mul b v).symm
  have e4 : (a : Int) * (u : Int) * (c : Int) * (v : Int) = ((a * u * c * v : Nat) : Int) := by rw [Int.natCast_mul, Int.natCast_mul, Int.natCast_mul]
  have bu : a * u ≤ 2000 * 3 := Nat.mul_le_mul la u3
  have au0 : 0 < a * u := Nat.mul_pos pa u1
  refine ⟨fun σ H' => H' = H1 ∧ a * u * c * v ≤ m ∧ σ = [some (.ref t), some (.ref n), some (.str (tx cs)), some (.int (m : Nat)), some (.int (u : Nat)), some (.int (v : Nat)), none, none], ⟨_, rfl, n, _, _, _, rfl, rfl, SqT.of hn1, rfl, _, rfl, _, _, rfl, rfl, .inl ⟨by omega, by omega⟩, _, rfl, n, _, _, _, rfl, rfl, SqT.of hn1, rfl, _, _, rfl, rfl, .inr ⟨by omega, by omega⟩, _, rfl, _, _, rfl, rfl, .inr ⟨by omega, by omega⟩, _, rfl, _, _, rfl, rfl, _, rfl, ite2 (fun q => ?_) (fun q => ⟨rfl, ?_, rfl⟩)⟩, ?_⟩
  · refine ⟨_, rfl, _, rfl, two_line, fun p hp => ?_⟩
    have sp := same_new (o := .tup [V.ref n, V.str (tx cs)]) hp
    exact kk _ p a b c cs (kp1.trans (Same.kpt sp)) (ht1.same sp) ⟨n, upd_same, sp _ _ hn1⟩ ok am hl pal
  · have q2 : ¬ ((a : Int) * (u : Int) * (c : Int) * (v : Int) > (m : Int)) := fun z => q (decide_eq_true z)
    rw [e4] at q2
    omega
  rintro σ H2 ⟨rfl, le4, rfl⟩
  have ew : a * u * (c * v) = a * u * c * v := (Nat.mul_assoc _ _ _).symm
  refine ⟨fun σ H' => Same H2 H' ∧ ∃ n2, NtAt H' n2 (a * u) (b * v % (a * u)) (c * v) ∧ σ = [some (.ref t), some (.ref n), some (.str (tx cs)), some (.int (m : Nat)), some (.int (u : Nat)), some (.int (v : Nat)), some (.ref n2), none], ⟨_, rfl, n, _, _, _, rfl, rfl, SqT.of hn1, rfl, _, rfl, _, _, rfl, rfl, .inl ⟨by omega, by omega⟩, _, rfl, n, _, _, _, rfl, rfl, SqT.of hn1, rfl, _, rfl, _, _, rfl, rfl, .inl ⟨by omega, by omega⟩, _, rfl, n, _, _, _, rfl, rfl, SqT.of hn1, rfl, _, rfl, _, _, rfl, rfl, .inl ⟨by omega, by omega⟩, _, _, rfl, rfl, ?_, _, rfl, n, _, _, _, rfl, rfl, SqT.of hn1, rfl, _, rfl, _, _, rfl, rfl, .inl ⟨by omega, by omega⟩, three_line, fun n2 hn2 => ⟨same_new hn2, n2, ?_, rfl⟩⟩, ?_⟩
  · rw [eu]; omega
  · show upd H2 n2 _ n2 = some (.tup [.int ((a * u : Nat) : Int), .int ((b * v % (a * u) : Nat) : Int), .int ((c * v : Nat) : Int)])
    rw [upd_same]
    show some (HO.tup [V.int ((a : Int) * (u : Int)), V.int (((b : Int) * (v : Int)).fmod ((a : Int) * (u : Int))), V.int ((c : Int) * (v : Int))]) = _
    rw [eu, ev, ebv, Int.fmod_eq_emod_of_nonneg _ (by omega)]
    rfl
  rintro σ H3 ⟨s3, n2, hn2, rfl⟩
  have lv : c * v ≤ 2000 * 2 := Nat.mul_le_mul lc v2
  have hn3 : NtAt H3 n a b c := s3 _ _ hn1
  refine ⟨_, rfl, ⟨_, rfl⟩, _, rfl, n2, a * u, b * v % (a * u), c * v, rfl, hn2, au0, by omega, by omega, fun H4 o s4 fo ⟨L, ho, eL, pL⟩ => ⟨o, rfl, ⟨_, SqL.of ho⟩, fun D hD => ?_⟩⟩
  have lenL : L.length = a * u * (c * v) := by
    have := congrArg List.length eL
    rw [List.length_map, cellPl_len] at this
    exact this
  refine lc_rel (walk_list (K := K) (a := o) (xs := L.map fun p => V.ref p.1)) (by rw [List.length_map, lenL]; omega) hD (fun i y _ => ∃ x, x ∈ cs ∧ y = .str (sign x)) (fun _ _ _ _ _ r => r) (fun H' s' => SqL.of (s' _ _ ho)) (fun i x H5 H6 hi s5 hy => ?_) (fun σ H Q Q' f h => ?_) gName_mono (fun H' ys s5 el hR eD => ?_)
  · obtain ⟨rfl, hx⟩ := hy
    rw [List.getElem?_map] at hx
    obtain ⟨p, hp, rfl⟩ := Option.map_eq_some_iff.mp hx
    exact ⟨rfl, _, rfl, _, rfl, _, rfl, n, p.1, a, b, c, cs, p.2.1, p.2.2, rfl, NtAt.same (NtAt.same hn3 s4) s5, s5 _ _ (pL p (List.mem_of_getElem? hp)), ok, by omega, by omega, hl, fun H7 s7 => ⟨⟨_, col_mem ok hl _ _, rfl⟩, s7⟩⟩
  · obtain ⟨v1, e1, v2, e2, v3, e3, n', q', a', b', c', cs', x', y', k1, k2, k3, k4, k5, k6, k7, h⟩ := h
    exact ⟨v1, e1, v2, e2, v3, e3, n', q', a', b', c', cs', x', y', k1, k2, k3, k4, k5, k6, k7, fun H' s' => f _ _ (h H' s')⟩
  · obtain ⟨cs2, ey, mem⟩ := sg_of (S := fun x => x ∈ cs) ys fun y hy => by
      obtain ⟨i, hi, e⟩ := List.getElem_of_mem hy
      exact hR i y (by rw [List.getElem?_eq_getElem hi, e])
    have l2 : cs2.length = a * u * (c * v) := by
      have := congrArg List.length ey
      rw [List.length_map, List.length_map, el, List.length_map, lenL] at this
      exact this.symm
    rw [ey] at eD
    refine ⟨_, D, _, rfl, rfl, .inl (SqL.of eD), ?_, ?_⟩
    · rw [sum_signs, List.length_map, l2]
      have e0 : (Str.ofString "").length = 0 := by decide +kernel
      rw [e0]
      omega
    · rw [join_signs]
      refine ⟨two_line, fun p hp => ?_⟩
      have sp := same_new (o := .tup [V.ref n2, V.str (tx cs2)]) hp
      obtain ⟨pl, p1, p2, p3⟩ := pal
      have sA := ((s3.trans s4).trans s5).trans sp
      exact kk _ p (a * u) (b * v % (a * u)) (c * v) cs2 (kp1.trans (Same.kpt sA)) (ht1.same sA) ⟨n2, upd_same, sp _ _ (s5 _ _ (s4 _ _ hn2))⟩ ⟨Nat.mod_lt _ au0, Nat.mul_pos pc v1⟩ (by omega) l2 ⟨pl, p1, p2, fun x hx => p3 x (mem x hx)⟩
end
end CpR
set_option Elab.async false
set_option linter.all false
set_option maxRecDepth 100000
set_option maxHeartbeats 1000000
/-! F07: the law's text with tied places. -/
namespace CpR
open PySem PySem.Spec PyProof.Rows L2 CpM CpS
abbrev Pls := List (Addr × Int × Int)
def kP (p : Int × Int) : List Key := [.inl p.1, .inl p.2]
theorem kP_inj {p q : Int × Int} (h : kP p = kP q) : p = q := by
  injection h with h1 h2
  injection h2 with h2 _
  injection h1 with h1
  injection h2 with h2
  exact Prod.ext h1 h2
def PlsH (H : Hp) (L : Pls) : Prop := ∀ p ∈ L, PlAt H p.1 p.2.1 p.2.2
/-- the dict found: its keys are places of the cell, its values letters of the text -/
structure FoundD (a c : Nat) (cs : List Nat) (kvs : List (List Key × V)) : Prop where
  keys : ∃ ks : List (Int × Int), kvs.map (·.1) = ks.map kP ∧ ks.Nodup ∧ ∀ p ∈ ks, p ∈ cellPl a c
  vals : ∀ k v, valV kvs k = some v → ∃ x, x ∈ cs ∧ v = .str (sign x)
theorem FoundD.len {a c : Nat} {cs : List Nat} {kvs : List (List Key × V)} (F : FoundD a c cs kvs) : kvs.length ≤ a * c := by
  obtain ⟨ks, e, nd, m⟩ := F.keys
  have := nodup_le ks (cellPl a c) nd m
  rw [cellPl_len] at this
  have e2 := congrArg List.length e
  rw [List.length_map, List.length_map] at e2
  omega
theorem FoundD.put {a c : Nat} {cs : List Nat} {kvs : List (List Key × V)} (F : FoundD a c cs kvs) {p : Int × Int} (hp : p ∈ cellPl a c) {x : Nat} (hx : x ∈ cs) (no : valV kvs (kP p) = none) : FoundD a c cs (putK kvs (kP p) (.str (sign x))) := by
  obtain ⟨ks, e, nd, m⟩ := F.keys
  refine ⟨⟨ks ++ [p], ?_, ?_, ?_⟩, fun k v h => ?_⟩
  · rw [putK_new _ no, List.map_append, e, List.map_append]; rfl
  · refine List.nodup_append.mpr ⟨nd, by simp, fun y hy z hz => ?_⟩
    rw [List.mem_singleton.mp hz]
    intro q
    rw [q] at hy
    refine valV_not no ?_
    rw [e]
    exact List.mem_map.mpr ⟨p, hy, rfl⟩
  · intro y hy
    rcases List.mem_append.mp hy with hy | hy
    · exact m y hy
    · rw [List.mem_singleton.mp hy]; exact hp
  · rw [valV_put] at h
    by_cases q : k = kP p
    · rw [if_pos q] at h
      exact ⟨x, hx, (Option.some.inj h).symm⟩
    · rw [if_neg q] at h
      exact F.vals k v h
section
variable {P : Program} {w : World} {K : PySem.W.Frag} {mg : Str → Option Value} {base : Heap} {CN CC CW CL CI CE : Addr}
/-- what stands throughout -/
structure TSt (H : Hp) (ls d : Addr) (L : Pls) (a c : Nat) (cs : List Nat) (H' : Hp) (kvs : List (List Key × V)) : Prop where
  same : Same H H'
  fd : H d = none
  hd : H' d = some (.dT kvs)
  hl : H' ls = some (.lst (L.map fun p => V.ref p.1))
  pl : PlsH H' L
  F : FoundD a c cs kvs
theorem TSt.keep {H : Hp} {ls d : Addr} {L : Pls} {a c : Nat} {cs : List Nat} {H' H'' : Hp} {kvs : List (List Key × V)} (t : TSt H ls d L a c cs H' kvs) (s : Same H H'') (k : ∀ b u, H' b = some u → ((∀ xs, u ≠ .lst xs) ∨ b = ls) → H'' b = some u) : TSt H ls d L a c cs H'' kvs :=
  ⟨s, t.fd, k _ _ t.hd (.inl nofun), k _ _ t.hl (.inr rfl), fun p hp => k _ _ (t.pl p hp) (.inl nofun), t.F⟩
theorem TSt.next {H : Hp} {ls d : Addr} {L : Pls} {a c : Nat} {cs : List Nat} {H' H'' : Hp} {kvs : List (List Key × V)} (t : TSt H ls d L a c cs H' kvs) (s : Same H' H'') : TSt H ls d L a c cs H'' kvs := t.keep (t.same.trans s) fun b u e _ => s b u e
def spTied : Sp := fun vs H Q _ => ∃ (n mv : Addr) (a b c : Nat) (cs : List Nat) (ms : List Addr), vs = [.ref n, .str (tx cs), .ref mv] ∧ NtAt H n a b c ∧ Ok a b c ∧ a * c ≤ 2000 ∧ cs.length = a * c ∧ H mv = some (.lst (ms.map V.ref)) ∧ (∀ m ∈ ms, MvAt H m) ∧ ms.length ≤ 4 ∧
  ∀ H' cs', Same H H' → cs'.length = a * c → (∀ x ∈ cs', x ∈ cs) → Q (.str (tx cs')) H'
theorem ok_law_tied (T : Txt K mg CN CC CW CL) : Df P w K mg base CX0 3 "_law_tied" spTied := by
  refine df_of T.d_law_tied sc_law_tied b_law_tied (fun vs H Q E ⟨_, _, _, _, _, _, _, e, _⟩ => by rw [e]; rfl) (fun f cdv A outer s H vs Q E hr h => ?_)
  obtain ⟨n, mv, a, b, c, cs, ms, rfl, hn, ok, lac, hl, hmv, hms, few, kk⟩ := h
  have n0 := sc_law_tied.nd
  have hu : (A.deeper (envOfC "_law_tied" (defScope s_law_tied) s.heap.objs.size f cdv)).units + 65 < cLine := by have := hr.un; omega
  have hu64 : (A.deeper (envOfC "_law_tied" (defScope s_law_tied) s.heap.objs.size f cdv)).units + 64 < cLine := by omega
  have hu1 : (A.deeper (envOfC "_law_tied" (defScope s_law_tied) s.heap.objs.size f cdv)).units + 1 < cLine := by omega
  refine ⟨_, Evl.pss_cut (ps_set (i := 3) n0 rfl (.inl rfl) (pe_df (E := E0) (ok_law_spots T) hr (by decide) (by rfl) pass0 (pa_cons (pv 0) pa_nil)))
    (Evl.pss_cut (ps_set (i := 6) n0 rfl (.inr rfl) pe_dnewT)
    (Evl.pss_cut (ps_for PassesOwn.never rfl (pi_list (pv 3)) (pg_name (i := 4) n0 rfl (.inl rfl))
      (Evl.pss_cut (ps_set (i := 5) n0 rfl (.inl rfl) (pe_lst (pa_cons (pv 4) pa_nil)))
      (pss_one (ps_while PassesOwn.never (pt_cmpR (op_neD hu64) (pv 5) (pe_lst pa_nil) (nomark _))
        (Evl.pss_cut (ps_set (i := 7) n0 rfl (.inr rfl) (pe_bm0 PySem.F.plainAttrs_list PySem.F.slot_list_pop PySem.F.type_list_pop mt_pop (pv 5)))
        (pss_one (ps_if (pt_cmp (pc_dnotin hu1 (pv 7) (pv 6)))
          (Evl.pss_cut (ps_dput hu1 (pv 6) (pv 7) (pe_ix ix_str (pv 1) (pe_bm PySem.F.plainAttrs_list PySem.F.slot_list_index PySem.F.type_list_index (mt_indexD hu) (pv 3) (pa_cons (pv 4) pa_nil)) (fun _ _ => rfl)) rfl)
          (pss_one (ps_set (i := 5) n0 rfl (.inl rfl) (pe_op op_cat (pv 5) (pe_lc (own := [("_law_move_here", 8)]) (g := gName 8) (tt := tYes) rfl n0 (pi_list (pv 2)) (blkOk_by (N := N_law_tied) (sc := defScope s_law_tied) (by decide +kernel))
            (fun _ _ _ _ _ => pg_name (i := 8) n0 rfl (Or.inl rfl)) (fun _ _ _ _ _ => pts_nil)
            (fun _ _ _ _ _ => pe_df (E := E0) (ok_law_low T) hr (by decide) (by rfl) pass0 (pa_cons (pv 0) (pa_cons (pe_df (E := E0) (ok_law_carried T) hr (by decide) (by rfl) pass0 (pa_cons (pv 8) (pa_cons (pv 7) pa_nil))) pa_nil)))))))) pss_nil)))))))
    (pss_one (ps_ret (pe_join pe_str (pe_lc (own := [("_law_spot", 4)]) (g := gName 4) (tt := tYes) (te := tDGet (tVar 6) (tVar 4)) rfl n0 (pi_list (pv 3)) (blkOk_by (N := N_law_tied) (sc := defScope s_law_tied) (by decide +kernel))
      (fun _ _ _ _ _ => pg_name (i := 4) n0 rfl (Or.inl rfl)) (fun _ _ _ _ _ => pts_nil) (fun _ _ _ _ _ => pe_dget hu1 (pv 6) (pv 4) (fun _ _ => rfl)))))))), ?_⟩
  have pa := ok.pa
  have la : a ≤ 2000 := Nat.le_trans (Nat.le_mul_of_pos_right _ ok.2) (by omega)
  have lc : c ≤ 2000 := Nat.le_trans (Nat.le_mul_of_pos_left _ pa) (by omega)
  -- the places
  refine ⟨fun σ H' => Same H H' ∧ ∃ (ls : Addr) (L : Pls), H' ls = some (.lst (L.map fun p => V.ref p.1)) ∧ PlsH H' L ∧ L.map (·.2) = cellPl a c ∧ σ = [some (.ref n), some (.str (tx cs)), some (.ref mv), some (.ref ls), none, none, none, none, none],
    ⟨_, rfl, n, a, b, c, rfl, hn, pa, by omega, by omega, fun H' o s' fo ⟨L, ho, eL, pL⟩ => ⟨s', o, L, ho, pL, eL, rfl⟩⟩, ?_⟩
  rintro σ H1 ⟨s1, ls, L, hls, pL, eL, rfl⟩
  have lenL : L.length = a * c := by
    have := congrArg List.length eL
    rw [List.length_map, cellPl_len] at this
    exact this
  have atL : ∀ i p, L[i]? = some p → i < a * c ∧ p.2 = (((i % a : Nat) : Int), ((i / a : Nat) : Int)) := fun i p hp => by
    have lt : i < a * c := by rw [← lenL]; exact (List.getElem?_eq_some_iff.mp hp).1
    refine ⟨lt, ?_⟩
    have e : (L.map (·.2))[i]? = some p.2 := by rw [List.getElem?_map, hp]; rfl
    rw [eL, cellPl_at lt] at e
    exact (Option.some.inj e).symm
  have inL : ∀ p ∈ L, p.2 ∈ cellPl a c := fun p hp => by rw [← eL]; exact List.mem_map.mpr ⟨p, hp, rfl⟩
  refine ⟨fun σ H' => ∃ d, TSt H1 ls d L a c cs H' [] ∧ σ = [some (.ref n), some (.str (tx cs)), some (.ref mv), some (.ref ls), none, none, some (.ref d), none, none], fun d hd => ⟨d, ⟨same_new hd, hd, upd_same, same_new hd _ _ hls, fun p hp => same_new hd _ _ (pL p hp), ⟨⟨[], rfl, .nil, fun p hp => (by cases hp)⟩, fun k v h => (by cases h)⟩⟩, rfl⟩, ?_⟩
  rintro σ H2 ⟨d, t2, rfl⟩
  have nld : ls ≠ d := fun e => by rw [e, t2.fd] at hls; cases hls
  -- all spots are found
  refine ⟨fun σ H' => ∃ kvs, TSt H1 ls d L a c cs H' kvs ∧ (∀ p ∈ L, (valV kvs (kP p.2)).isSome = true) ∧ ∃ z4 z5 z7, σ = [some (.ref n), some (.str (tx cs)), some (.ref mv), some (.ref ls), z4, z5, some (.ref d), z7, none],
    ⟨_, rfl, ls, rfl, ⟨_, SqL.of t2.hl⟩, for_it (walk_list (K := K) (a := ls) (xs := L.map fun p => V.ref p.1)) (fun i σ H' => ∃ kvs, TSt H1 ls d L a c cs H' kvs ∧ (∀ j p, j < i → L[j]? = some p → (valV kvs (kP p.2)).isSome = true) ∧ ∃ z4 z5 z7, σ = [some (.ref n), some (.str (tx cs)), some (.ref mv), some (.ref ls), z4, z5, some (.ref d), z7, none])
      ⟨[], t2, fun j p h => absurd h (Nat.not_lt_zero _), _, _, _, rfl⟩ (fun i σ H' _ ⟨kvs, t, _⟩ => SqL.of t.hl) (fun i x σ H3 H4 hi ⟨kvs, t3, dn, z4, z5, z7, eo⟩ hy => ?_) (fun σ H' ⟨kvs, t3, dn, z⟩ => ⟨kvs, t3, fun p hp => ?_, z⟩)⟩, ?_⟩
  · subst eo
    obtain ⟨rfl, hx⟩ := hy
    rw [List.getElem?_map] at hx
    obtain ⟨sp, hsp, rfl⟩ := Option.map_eq_some_iff.mp hx
    have msp := List.mem_of_getElem? hsp
    obtain ⟨ilt, esp⟩ := atL i sp hsp
    have icl : i < cs.length := by rw [hl]; exact ilt
    refine ⟨fun σ H' => ∃ o, TSt H1 ls d L a c cs H' kvs ∧ H1 o = none ∧ o ≠ ls ∧ H' o = some (.lst [.ref sp.1]) ∧ σ = [some (.ref n), some (.str (tx cs)), some (.ref mv), some (.ref ls), some (.ref sp.1), some (.ref o), some (.ref d), z7, none], ⟨_, rfl, by show 1 ≤ sizeLine; decide, fun o ho => ⟨o, t3.next (same_new ho), t3.same.free ho, fun e => (by rw [e, t3.hl] at ho; cases ho), upd_same, rfl⟩⟩, ?_⟩
    rintro σ H5 ⟨o, t5, fo, nol, ho, rfl⟩
    -- the while
    let q := ms.length
    refine ⟨fun m σ H' => ∃ (kvs : List (List Key × V)) (o : Addr) (M : Pls), TSt H1 ls d L a c cs H' kvs ∧ (∀ j p, j < i → L[j]? = some p → (valV kvs (kP p.2)).isSome = true) ∧ H1 o = none ∧ o ≠ ls ∧ H' o = some (.lst (M.map fun p => V.ref p.1)) ∧ PlsH H' M ∧ (∀ p ∈ M, p.2 ∈ cellPl a c) ∧ ((valV kvs (kP sp.2)).isSome = true ∨ M = [sp]) ∧ m = (a * c - kvs.length) * (q + 1) + M.length ∧ m ≤ 2000 * 5 + 1 ∧ ∃ z7, σ = [some (.ref n), some (.str (tx cs)), some (.ref mv), some (.ref ls), some (.ref sp.1), some (.ref o), some (.ref d), z7, none],
      ⟨_, kvs, o, [sp], t5, dn, fo, nol, ho, fun p hp => ?_, fun p hp => ?_, .inr rfl, rfl, ?_, _, rfl⟩, ?_⟩
    · rw [List.mem_singleton.mp hp]; exact t5.pl sp msp
    · rw [List.mem_singleton.mp hp]; exact inL sp msp
    · have : (a * c - kvs.length) * (q + 1) ≤ 2000 * 5 := Nat.mul_le_mul (by omega) (by omega)
      show _ + 1 ≤ _
      omega
    rintro m σ H6 ⟨kvs, o, M, t6, dn, fo, nol, ho, pM, cM, hs, rfl, mb, z7, rfl⟩
    refine ⟨_, rfl, Nat.zero_le _, fun z hz => ?_⟩
    have sz := same_new (o := .lst ([] : List V)) hz
    refine ⟨PyData.list (M.map fun (p : Addr × Int × Int) => encP p.2), .list [], .lst (SqL.of (sz _ _ ho)) (dp_pls fun p hp => sz _ _ (pM p hp)), .lst (SqL.of upd_same) .nil, ?_, by decide +kernel, _, rfl, ?_⟩
    · have := pls_shaped (M.map (·.2))
      rw [List.map_map] at this
      exact this
    have t7 := t6.next sz
    have ho7 := sz _ _ ho
    have pM7 : PlsH (upd H6 z (.lst [])) M := fun p hp => sz _ _ (pM p hp)
    rcases M.eq_nil_or_concat with eM | ⟨M0, p0, eM⟩
    · subst eM
      refine iteF ⟨kvs, t7, fun j p hj hp => ?_, _, _, _, rfl⟩
      by_cases e : j < i
      · exact dn j p e hp
      · have e2 : j = i := by omega
        subst e2
        rw [hsp] at hp
        rw [← Option.some.inj hp]
        rcases hs with hs | hs
        · exact hs
        · cases hs
    · rw [List.concat_eq_append] at eM
      subst eM
      have ne : (!PyData.eqv (PyData.list ((M0 ++ [p0]).map fun (p : Addr × Int × Int) => encP p.2)) (.list [])) = true := by
        cases M0 <;> rfl
      rw [ne]
      refine iteT ⟨fun σ H' => ∃ m', m' < (a * c - kvs.length) * (q + 1) + (M0 ++ [p0]).length ∧ ∃ (kvs : List (List Key × V)) (o : Addr) (M : Pls), TSt H1 ls d L a c cs H' kvs ∧ (∀ j p, j < i → L[j]? = some p → (valV kvs (kP p.2)).isSome = true) ∧ H1 o = none ∧ o ≠ ls ∧ H' o = some (.lst (M.map fun p => V.ref p.1)) ∧ PlsH H' M ∧ (∀ p ∈ M, p.2 ∈ cellPl a c) ∧ ((valV kvs (kP sp.2)).isSome = true ∨ M = [sp]) ∧ m' = (a * c - kvs.length) * (q + 1) + M.length ∧ m' ≤ 2000 * 5 + 1 ∧ ∃ z7, σ = [some (.ref n), some (.str (tx cs)), some (.ref mv), some (.ref ls), some (.ref sp.1), some (.ref o), some (.ref d), z7, none], fun σ' H' h => h, ?_⟩
      rw [List.length_append] at mb ⊢
      have mb : (a * c - kvs.length) * (q + 1) + (M0.length + 1) ≤ 2000 * 5 + 1 := mb
      -- pop
      refine ⟨fun σ H' => TSt H1 ls d L a c cs H' kvs ∧ H' o = some (.lst (M0.map fun p => V.ref p.1)) ∧ PlsH H' (M0 ++ [p0]) ∧ σ = [some (.ref n), some (.str (tx cs)), some (.ref mv), some (.ref ls), some (.ref sp.1), some (.ref o), some (.ref d), some (.ref p0.1), none], ⟨_, rfl, .inl ⟨rfl, _, SqL.of ho7⟩, o, _, .ref p0.1, rfl, rfl, ho7, ?_, ?_, ?_, fun p hp => ?_, rfl⟩, ?_⟩
      · rw [List.length_map, List.length_append, List.map_append, List.getElem?_append_right (by rw [List.length_map]; exact Nat.le_refl _)]
        rw [List.length_map]
        show ([V.ref p0.1] : List V)[M0.length + 1 - 1 - M0.length]? = _
        rw [show M0.length + 1 - 1 - M0.length = 0 by omega]
        rfl
      · refine t7.keep (fun b' u' e' => ?_) fun b' u' e' k' => ?_
        · rw [upd_ne (ne_of_none e' fo)]
          exact t7.same _ _ e'
        · have nb : b' ≠ o := fun q => by
            rcases k' with k' | k'
            · rw [q, ho7] at e'; exact k' _ (Option.some.inj e').symm
            · exact nol (q.symm.trans k')
          rw [upd_ne nb]
          exact e'
      · rw [upd_same, List.map_append]
        show some (HO.lst ((M0.map fun p => V.ref p.1) ++ [V.ref p0.1]).dropLast) = _
        rw [List.dropLast_concat]
      · have e' := pM7 p hp
        have nb : p.1 ≠ o := fun q => by rw [PlAt, q, ho7] at e'; cases e'
        show upd _ o _ p.1 = _
        rw [upd_ne nb]
        exact e'
      rintro σ H8 ⟨t8, ho8, pM8, rfl⟩
      have mp0 := cM p0 (List.mem_append_right _ (List.mem_singleton.mpr rfl))
      have hp0 : PlAt H8 p0.1 p0.2.1 p0.2.2 := pM8 p0 (List.mem_append_right _ (List.mem_singleton.mpr rfl))
      have G : DGet H8 d (.ref p0.1) (valV kvs (kP p0.2)) := DGet.t t8.hd hp0
      refine ⟨_, rfl, _, rfl, d, _, rfl, G, _, rfl, ?_⟩
      cases e : valV kvs (kP p0.2) with
      | some v =>
        refine iteF ⟨_, ?_, kvs, o, M0, t8, dn, fo, nol, ho8, fun p hp => pM8 p (List.mem_append_left _ hp), fun p hp => cM p (List.mem_append_left _ hp), ?_, rfl, ?_, _, rfl⟩
        · show _ + M0.length < _ + (M0.length + 1); omega
        · rcases hs with hs | hs
          · exact .inl hs
          · left
            have e2 : p0 = sp := by
              have := congrArg List.getLast? hs
              rw [List.getLast?_append] at this
              exact Option.some.inj this
            rw [← e2, e]; rfl
        · show _ + M0.length ≤ _; omega
      | none =>
        refine iteT ?_
        have x0 := List.getElem?_eq_getElem icl
        -- the new entry
        refine ⟨fun σ H' => TSt H1 ls d L a c cs H' (putK kvs (kP p0.2) (.str (sign cs[i]))) ∧ H' o = some (.lst (M0.map fun p => V.ref p.1)) ∧ PlsH H' (M0 ++ [p0]) ∧ σ = [some (.ref n), some (.str (tx cs)), some (.ref mv), some (.ref ls), some (.ref sp.1), some (.ref o), some (.ref d), some (.ref p0.1), none], ?_, ?_⟩
        · refine ⟨_, rfl, _, rfl, .inl ⟨rfl, _, SqL.of t8.hl⟩, _, rfl, ls, .ref sp.1, encP sp.2, L.map (fun p => encP p.2), i, encP sp.2, rfl, rfl, .lst (SqL.of t8.hl) (dp_pls t8.pl), dp_pl (t8.pl sp msp), ?_, encP_shaped _, ?_, ?_, fun m z' hm hz' => ?_, tx cs, _, cs[i], rfl, rfl, ?_, atI_nat ?_, _, rfl, _, rfl, d, _, rfl, DPut.t (k := kP p0.2) t8.hd hp0 ?_, ?_⟩
          · have := pls_shaped (L.map (·.2))
            rw [List.map_map] at this
            exact this
          · rw [List.getElem?_map, hsp]; rfl
          · rw [encP_eqv]; exact decide_eq_true rfl
          · rw [List.getElem?_map] at hz'
            obtain ⟨p', hp', e'⟩ := Option.map_eq_some_iff.mp hz'
            obtain ⟨_, ep'⟩ := atL m p' hp'
            rw [← e', encP_eqv]
            refine decide_eq_false fun e2 => ?_
            rw [ep', esp] at e2
            have h1 : m % a = i % a := Int.ofNat.inj (Prod.ext_iff.mp e2).1
            have h2 : m / a = i / a := Int.ofNat.inj (Prod.ext_iff.mp e2).2
            have := Nat.div_add_mod m a
            rw [h1, h2, Nat.div_add_mod] at this
            omega
          · rw [tx_len]; exact Nat.le_of_lt (lt_line (by omega))
          · show (cs.toArray.toList)[i]? = _
            exact x0
          · have := t8.F.len
            exact lt_line (by omega)
          · have nd' : ∀ (b' : Addr) u', H8 b' = some u' → (∀ x, u' ≠ .dT x) → b' ≠ d := fun b' u' e' n' q => by rw [q, t8.hd] at e'; exact n' _ (Option.some.inj e').symm
            refine ⟨⟨fun b' u' e' => ?_, t8.fd, upd_same, ?_, fun p hp => ?_, t8.F.put mp0 (List.getElem_mem icl) e⟩, ?_, fun p hp => ?_, rfl⟩
            · rw [upd_ne (ne_of_none e' t8.fd)]; exact t8.same _ _ e'
            · rw [upd_ne nld]; exact t8.hl
            · show upd _ d _ p.1 = _
              rw [upd_ne (nd' _ _ (t8.pl p hp) nofun)]; exact t8.pl p hp
            · rw [upd_ne (nd' _ _ ho8 nofun)]; exact ho8
            · show upd _ d _ p.1 = _
              rw [upd_ne (nd' _ _ (pM8 p hp) nofun)]; exact pM8 p hp
        rintro σ H9 ⟨t9, ho9, pM9, rfl⟩
        have hmv9 : H9 mv = some (.lst (ms.map V.ref)) := t9.same _ _ (s1 _ _ hmv)
        have nmo : o ≠ mv := fun q => by rw [q, s1 _ _ hmv] at fo; cases fo
        refine ⟨_, rfl, _, rfl, mv, rfl, ⟨_, SqL.of hmv9⟩, fun D hD => lc_rel (walk_list (K := K) (a := mv) (xs := ms.map V.ref)) (by rw [List.length_map]; omega) hD (fun i y H' => ∃ (r : Addr) (x y' : Int), y = .ref r ∧ PlAt H' r x y' ∧ (x, y') ∈ cellPl a c) (fun i y H' H'' k ⟨r, x, y', e1, e2, e3⟩ => ⟨r, x, y', e1, k _ _ e2 (fun xs => nofun), e3⟩) (fun H' s' => SqL.of (s' _ _ hmv9)) (fun j x H10 H11 hj s10 hy => ?_) (fun σ H Q Q' f h => ?_) gName_mono (fun H' ys s10 el hR eD => ?_)⟩
        · obtain ⟨rfl, hx⟩ := hy
          rw [List.getElem?_map] at hx
          obtain ⟨m', hm', rfl⟩ := Option.map_eq_some_iff.mp hx
          obtain ⟨mk, mt, mu, mv', em1, em2⟩ := hms m' (List.mem_of_getElem? hm')
          have sA := (s1.trans t9.same).trans s10
          have hp9 : PlAt H9 p0.1 p0.2.1 p0.2.2 := pM9 p0 (List.mem_append_right _ (List.mem_singleton.mpr rfl))
          refine ⟨rfl, _, rfl, _, rfl, _, rfl, m', p0.1, p0.2.1, p0.2.2, rfl, ⟨mk, mt, mu, mv', sA _ _ em1, sA _ _ em2⟩, s10 _ _ hp9, fun H12 r u' v' s12 hr12 => ⟨n, r, a, b, c, u', v', rfl, NtAt.same (NtAt.same hn sA) s12, hr12, ok, by omega, by omega, fun r2 hr2 => ⟨⟨r2, _, _, rfl, upd_same, low_cell ok _ _⟩, s12.trans (same_new hr2)⟩⟩⟩
        · obtain ⟨v1, e1, v2, e2, v3, e3, m', q', x', y', k1, k2, k3, h⟩ := h
          refine ⟨v1, e1, v2, e2, v3, e3, m', q', x', y', k1, k2, k3, fun H' r u v s' hr' => ?_⟩
          obtain ⟨n', q'', a', b', c', x'', y'', j1, j2, j3, j4, j5, j6, h⟩ := h H' r u v s' hr'
          exact ⟨n', q'', a', b', c', x'', y'', j1, j2, j3, j4, j5, j6, fun r hr => f _ _ (h r hr)⟩
        · -- the new line
          obtain ⟨N, eN, pN, cN⟩ : ∃ N : Pls, ys = N.map (fun p => V.ref p.1) ∧ PlsH H' N ∧ ∀ p ∈ N, p.2 ∈ cellPl a c := by
            have : ∀ y ∈ ys, ∃ (r : Addr) (x y' : Int), y = .ref r ∧ PlAt H' r x y' ∧ (x, y') ∈ cellPl a c := fun y hy => by
              obtain ⟨j, hj, e⟩ := List.getElem_of_mem hy
              exact hR j y (by rw [List.getElem?_eq_getElem hj, e])
            clear hR el eD
            induction ys with
            | nil => exact ⟨[], rfl, fun p hp => (by cases hp), fun p hp => (by cases hp)⟩
            | cons y ys ih =>
              obtain ⟨N, h1, h2, h3⟩ := ih fun z hz => this z (List.mem_cons_of_mem _ hz)
              obtain ⟨r, x, y', e1, e2, e3⟩ := this y List.mem_cons_self
              refine ⟨(r, x, y') :: N, by rw [e1, h1]; rfl, fun p hp => ?_, fun p hp => ?_⟩
              · rcases List.mem_cons.mp hp with q | hp
                · rw [q]; exact e2
                · exact h2 p hp
              · rcases List.mem_cons.mp hp with q | hp
                · rw [q]; exact e3
                · exact h3 p hp
          have lN : N.length = q := by
            have := congrArg List.length eN
            rw [el, List.length_map, List.length_map] at this
            exact this.symm
          rw [eN] at eD
          refine ⟨o, D, _, _, rfl, rfl, s10 _ _ ho9, eD, ?_, fun o2 ho2 => ?_⟩
          · rw [List.length_map, List.length_map, lN]
            exact Nat.le_of_lt (lt_line (by omega))
          have sB := s10.trans (same_new (o := .lst (M0.map (fun p => V.ref p.1) ++ N.map fun p => V.ref p.1)) ho2)
          have lt' : kvs.length < a * c := by
            have := t9.F.len
            rw [putK_new _ e, List.length_append] at this
            exact this
          have mcalc : (a * c - (putK kvs (kP p0.2) (.str (sign cs[i]))).length) * (q + 1) + (M0 ++ N).length + 2 = (a * c - kvs.length) * (q + 1) + (M0.length + 1) := by
            rw [putK_new _ e, List.length_append, List.length_append, lN]
            show (a * c - (kvs.length + 1)) * (q + 1) + (M0.length + q) + 2 = _
            have e5 : a * c - kvs.length = (a * c - (kvs.length + 1)) + 1 := by omega
            rw [e5, Nat.add_mul ((a * c - (kvs.length + 1))) 1]
            omega
          refine ⟨_, ?_, putK kvs (kP p0.2) (.str (sign cs[i])), o2, M0 ++ N, t9.next sB, fun j p hj hp => ?_, t9.same.free (s10.free ho2), fun q => ?_, by rw [upd_same, List.map_append], fun p hp => ?_, fun p hp => ?_, ?_, rfl, ?_, _, rfl⟩
          · show _ < _ + (M0.length + 1); omega
          · rw [valV_put]
            split
            · rfl
            · exact dn j p hj hp
          · rw [q, s10 _ _ t9.hl] at ho2; cases ho2
          · rcases List.mem_append.mp hp with hp | hp
            · exact sB _ _ (pM9 p (List.mem_append_left _ hp))
            · exact same_new ho2 _ _ (pN p hp)
          · rcases List.mem_append.mp hp with hp | hp
            · exact cM p (List.mem_append_left _ hp)
            · exact cN p hp
          · left
            rw [valV_put]
            split
            · rfl
            · rcases hs with hs | hs
              · exact hs
              · have e2 : p0 = sp := by
                  have := congrArg List.getLast? hs
                  rw [List.getLast?_append] at this
                  exact Option.some.inj this
                rename_i nq
                exact absurd (by rw [e2]) nq
          · omega
  · obtain ⟨j, hj, e⟩ := List.getElem_of_mem hp
    exact dn j p (by rw [List.length_map]; exact hj) (by rw [List.getElem?_eq_getElem hj, e])
  rintro σ H3 ⟨kvs, t3, dn, z4, z5, z7, rfl⟩
  refine ⟨⟨_, rfl⟩, _, rfl, ls, rfl, ⟨_, SqL.of t3.hl⟩, fun D hD => lc_rel (walk_list (K := K) (a := ls) (xs := L.map fun p => V.ref p.1)) (by rw [List.length_map, lenL]; omega) hD (fun i y _ => ∃ x, x ∈ cs ∧ y = .str (sign x)) (fun _ _ _ _ _ r => r) (fun H' s' => SqL.of (s' _ _ t3.hl)) (fun i x H5 H6 hi s5 hy => ?_) (fun σ H Q Q' f h => ?_) gName_mono (fun H' ys s5 el hR eD => ?_)⟩
  · obtain ⟨rfl, hx⟩ := hy
    rw [List.getElem?_map] at hx
    obtain ⟨p, hp, rfl⟩ := Option.map_eq_some_iff.mp hx
    have mp := List.mem_of_getElem? hp
    obtain ⟨v, ev⟩ := Option.isSome_iff_exists.mp (dn p mp)
    obtain ⟨x, hx, e⟩ := t3.F.vals _ _ ev
    have G : DGet H6 d (.ref p.1) (valV kvs (kP p.2)) := DGet.t (s5 _ _ t3.hd) (s5 _ _ (t3.pl p mp))
    rw [ev] at G
    exact ⟨rfl, _, rfl, _, rfl, d, v, rfl, G, ⟨x, hx, e⟩, Same.refl _⟩
  · obtain ⟨v1, e1, v2, e2, d', v', k1, k2, h⟩ := h
    exact ⟨v1, e1, v2, e2, d', v', k1, k2, f _ _ h⟩
  · obtain ⟨cs2, ey, mem⟩ := sg_of (S := fun x => x ∈ cs) ys fun y hy => by
      obtain ⟨i, hi, e⟩ := List.getElem_of_mem hy
      exact hR i y (by rw [List.getElem?_eq_getElem hi, e])
    have l2 : cs2.length = a * c := by
      have := congrArg List.length ey
      rw [List.length_map, List.length_map, el, List.length_map, lenL] at this
      exact this.symm
    rw [ey] at eD
    refine ⟨_, D, _, rfl, rfl, .inl (SqL.of eD), ?_, ?_⟩
    · rw [sum_signs, List.length_map, l2]
      have e0 : (Str.ofString "").length = 0 := by decide +kernel
      rw [e0]
      omega
    · rw [join_signs]
      exact kk _ cs2 ((s1.trans t3.same).trans s5) l2 mem
end
end CpR
set_option Elab.async false
set_option linter.all false
set_option maxRecDepth 100000
set_option maxHeartbeats 1000000
/-! F08: the law's drawn carpets. -/
namespace CpR
open PySem PySem.Spec PyProof.Rows L2 CpM CpS
theorem MvAt.kp {H H' : Hp} {m t l : Addr} {ns : List Int} (h : MvAt H m) (ht : TapeAt H t l ns) (k : KpT t H H') : MvAt H' m :=
  let ⟨k', s, u, v, e1, e2⟩ := h; ⟨k', s, u, v, k _ _ (ht.ne e1 fun _ => nofun) e1, k _ _ (ht.ne e2 fun _ => nofun) e2⟩
theorem MvAt.same {H H' : Hp} {m : Addr} (h : MvAt H m) (s' : Same H H') : MvAt H' m :=
  let ⟨k', s, u, v, e1, e2⟩ := h; ⟨k', s, u, v, s' _ _ e1, s' _ _ e2⟩
theorem MvAt.putL {H : Hp} {m D : Addr} {xs ys : List V} (h : MvAt H m) (hD : H D = some (.lst xs)) : MvAt (upd H D (.lst ys)) m := by
  obtain ⟨k', s, u, v, e1, e2⟩ := h
  have n1 : m ≠ D := fun q => by rw [q, hD] at e1; cases e1
  have n2 : s ≠ D := fun q => by rw [PlAt, q, hD] at e2; cases e2
  exact ⟨k', s, u, v, by rw [upd_ne n1]; exact e1, by rw [PlAt, upd_ne n2]; exact e2⟩
theorem at_natG {α : Type} {xs : List α} {j : Nat} {v : α} {i : Int} (e : i = (j : Nat)) (h : xs[j]? = some v) : atI xs i = some v := by rw [e]; exact atI_nat h
theorem Pal.sub {cs cs' : List Nat} (h : Pal cs) (s : ∀ x ∈ cs', x ∈ cs) : Pal cs' := let ⟨p, a, b, c⟩ := h; ⟨p, a, b, fun x hx => c x (s x hx)⟩
section
variable {P : Program} {w : World} {K : PySem.W.Frag} {mg : Str → Option Value} {base : Heap} {CN CC CW CL CI CE : Addr}
def spWoven : Sp := fun vs H Q _ => ∃ (t l : Addr) (ns : List Int) (m : Nat), vs = [.ref t, .int (m : Nat)] ∧ TapeAt H t l ns ∧ 6 ≤ m ∧ m ≤ 15 ∧ ∀ H' p (a b c : Nat) (cs : List Nat), KpT t H H' → TapeAt H' t l ns → WvAt H' p a b c cs → Ok a b c → a * c ≤ m → cs.length = a * c → Pal cs → Q (.ref p) H'
theorem ok_law_woven (T : Txt K mg CN CC CW CL) : Df P w K mg base CX0 4 "_law_woven" spWoven := by
  refine df_of T.d_law_woven sc_law_woven b_law_woven (fun vs H Q E ⟨_, _, _, _, e, _⟩ => by rw [e]; rfl) (fun f cdv A outer s H vs Q E hr h => ?_)
  obtain ⟨t, l, ns, m, rfl, ht, m6, m15, kk⟩ := h
  have n0 := sc_law_woven.nd
  refine ⟨_, Evl.pss_cut (ps_set (i := 2) n0 rfl (.inl rfl) (pe_df (E := E0) (ok_law_draw T) hr (by decide) (by rfl) pass0 (pa_cons (pv 0) (pa_cons pe_int pa_nil))))
    (Evl.pss_cut (ps_if (pt_cmpR op_eq (pv 2) pe_int (nomark _))
      (Evl.pss_cut (ps_set (i := 4) n0 rfl (.inr rfl) (pe_df (E := E0) (ok_law_net T) hr (by decide) (by rfl) pass0 (pa_cons (pv 0) (pa_cons (pv 1) pa_nil))))
      (pss_one (ps_ret (pe_tup (pa_cons (pv 4) (pa_cons (pe_df (E := E0) (ok_law_letters T) hr (by decide) (by rfl) pass0 (pa_cons (pv 0) (pa_cons (pe_op op_mul (pe_ix ix_tup (pv 4) pe_int (fun _ _ => rfl)) (pe_ix ix_tup (pv 4) pe_int (fun _ _ => rfl))) pa_nil))) pa_nil)))))) pss_nil)
    (Evl.pss_cut (ps_if (pt_cmpR op_lt (pv 2) pe_int (nomark _))
      (Evl.pss_cut (ps_set (i := 4) n0 rfl (.inr rfl) (pe_df (E := E0) (ok_law_square T) hr (by decide) (by rfl) pass0 (pa_cons (pv 0) (pa_cons (pv 1) pa_nil))))
      (Evl.pss_cut (ps_setLc (i := 3) (own := [("_law_k", 8)]) (g := gName 8) (tt := tYes) rfl n0 rfl rfl (sw_true rfl rfl rfl (by decide +kernel)) (pi_range1 (by rfl) T.bt.range (pa_cons (pe_op op_add pe_int (pe_df (E := E0) (ok_law_draw T) hr (by decide) (by rfl) pass0 (pa_cons (pv 0) (pa_cons pe_int pa_nil)))) pa_nil)) (blkOk_by (N := N_law_woven) (sc := defScope s_law_woven) (by decide +kernel))
        (fun _ _ _ _ _ => pg_name (i := 8) n0 rfl (Or.inl rfl)) (fun _ _ _ _ _ => pts_nil) (fun _ _ _ _ _ => pe_df (E := E0) (ok_law_move T) hr (by decide) (by rfl) pass0 (pa_cons (pv 0) (pa_cons (pv 4) pa_nil))))
      (pss_one (ps_ret (pe_tup (pa_cons (pv 4) (pa_cons (pe_df (E := E0) (ok_law_tied T) hr (by decide) (by rfl) pass0 (pa_cons (pv 4) (pa_cons (pe_df (E := E0) (ok_law_letters T) hr (by decide) (by rfl) pass0 (pa_cons (pv 0) (pa_cons (pe_op op_mul (pe_ix ix_tup (pv 4) pe_int (fun _ _ => rfl)) (pe_ix ix_tup (pv 4) pe_int (fun _ _ => rfl))) pa_nil))) (pa_cons (pv 3) pa_nil)))) pa_nil))))))) pss_nil)
    (Evl.pss_cut (ps_if (pt_cmpR op_eq (pv 2) pe_int (nomark _))
      (Evl.pss_cut (ps_set (i := 4) n0 rfl (.inr rfl) (pe_df (E := E0) (ok_law_net T) hr (by decide) (by rfl) pass0 (pa_cons (pv 0) (pa_cons (pv 1) pa_nil))))
      (Evl.pss_cut (ps_set (i := 5) n0 rfl (.inr rfl) (pe_ix ix_list (pe_lst (pa_cons (pe_tup (pa_cons pe_int (pa_cons pe_int pa_nil))) (pa_cons (pe_tup (pa_cons pe_int (pa_cons pe_int pa_nil))) (pa_cons (pe_tup (pa_cons pe_int (pa_cons pe_int pa_nil))) (pa_cons (pe_tup (pa_cons pe_int (pa_cons (pe_un un_neg pe_int) pa_nil))) pa_nil))))) (pe_df (E := E0) (ok_law_draw T) hr (by decide) (by rfl) pass0 (pa_cons (pv 0) (pa_cons pe_int pa_nil))) (fun _ _ => rfl)))
      (Evl.pss_cut (ps_set (i := 6) n0 rfl (.inr rfl) (pe_df (E := E0) (ok_law_letters T) hr (by decide) (by rfl) pass0 (pa_cons (pv 0) (pa_cons (pe_op op_mul (pe_ix ix_tup (pv 4) pe_int (fun _ _ => rfl)) (pe_ix ix_tup (pv 4) pe_int (fun _ _ => rfl))) pa_nil))))
      (Evl.pss_cut (ps_set (i := 7) n0 rfl (.inr rfl) (pe_ix ix_list (pe_lst (pa_cons pe_int (pa_cons pe_int (pa_cons (pe_df (E := E0) (ok_law_divisor T) hr (by decide) (by rfl) pass0 (pa_cons (pe_ix ix_tup (pv 4) pe_int (fun _ _ => rfl)) (pa_cons (pe_op op_add (pe_op op_mul (pe_ix ix_tup (pv 4) pe_int (fun _ _ => rfl)) (pe_ix ix_tup (pv 5) pe_int (fun _ _ => rfl))) (pe_op op_mul (pe_ix ix_tup (pv 4) pe_int (fun _ _ => rfl)) (pe_ix ix_tup (pv 5) pe_int (fun _ _ => rfl)))) pa_nil))) pa_nil)))) (pe_df (E := E0) (ok_law_draw T) hr (by decide) (by rfl) pass0 (pa_cons (pv 0) (pa_cons pe_int pa_nil))) (fun _ _ => rfl)))
      (Evl.pss_cut (ps_set (i := 7) n0 rfl (.inr rfl) (pe_ifExp (PW.pt (pw_and (pt_cmpR op_eq (pe_op op_modN (pe_op op_mul (pe_ix ix_tup (pv 4) pe_int (fun _ _ => rfl)) (pe_ix ix_tup (pv 5) pe_int (fun _ _ => rfl))) (pv 7)) pe_int (nomark _)) (pw_and1 (pt_cmpR op_eq (pe_op op_modN (pe_op op_add (pe_op op_mul (pe_ix ix_tup (pv 4) pe_int (fun _ _ => rfl)) (pe_ix ix_tup (pv 5) pe_int (fun _ _ => rfl))) (pe_op op_mul (pe_ix ix_tup (pv 4) pe_int (fun _ _ => rfl)) (pe_ix ix_tup (pv 5) pe_int (fun _ _ => rfl)))) (pv 7)) pe_int (nomark _))))) (pv 7) pe_int))
      (pss_one (ps_ret (pe_tup (pa_cons (pv 4) (pa_cons (pe_join pe_str (pe_lc (own := [("_law_x", 9), ("_law_y", 10)]) (g := gTup K 2 (gCons (gName 9) (gCons (gName 10) gNil))) (tt := tYes) (te := tOp rIxS (tVar 6) (tOp (rI (fun _ j => j ≠ 0) fun i j => .int (i.fmod j)) (tOp (rI0 fun i j => .int (i + j)) (tOp (rI CMul fun i j => .int (i * j)) (tVar 9) (tOp (rIxT K) (tVar 5) (tC (.int 0)))) (tOp (rI CMul fun i j => .int (i * j)) (tVar 10) (tOp (rIxT K) (tVar 5) (tC (.int 1))))) (tVar 7))) rfl n0
        (pi_list (pe_df (E := E0) (ok_law_spots T) hr (by decide) (by rfl) pass0 (pa_cons (pv 4) pa_nil))) (blkOk_by (N := N_law_woven) (sc := defScope s_law_woven) (by decide +kernel))
        (fun _ _ _ _ _ => pg_tup rfl (pgs_cons (pg_name (i := 9) n0 rfl (Or.inl rfl)) (pgs_cons (pg_name (i := 10) n0 rfl (Or.inl rfl)) pgs_nil))) (fun _ _ _ _ _ => pts_nil)
        (fun _ _ _ _ _ => pe_ix ix_str (pv 6) (pe_op op_modN (pe_op op_add (pe_op op_mul (pv 9) (pe_ix ix_tup (pv 5) pe_int (fun _ _ => rfl))) (pe_op op_mul (pv 10) (pe_ix ix_tup (pv 5) pe_int (fun _ _ => rfl)))) (pv 7)) (fun _ _ => rfl)))) pa_nil)))))))))) pss_nil)
    (Evl.pss_cut (ps_set (i := 4) n0 rfl (.inr rfl) (pe_df (E := E0) (ok_law_net T) hr (by decide) (by rfl) pass0 (pa_cons (pv 0) (pa_cons (pe_op op_fdivN (pv 1) pe_int) pa_nil))))
    (pss_one (ps_ret (pe_df (E := E0) (ok_law_copied T) hr (by decide) (by rfl) pass0 (pa_cons (pv 0) (pa_cons (pv 4) (pa_cons (pe_df (E := E0) (ok_law_letters T) hr (by decide) (by rfl) pass0 (pa_cons (pv 0) (pa_cons (pe_op op_mul (pe_ix ix_tup (pv 4) pe_int (fun _ _ => rfl)) (pe_ix ix_tup (pv 4) pe_int (fun _ _ => rfl))) pa_nil))) (pa_cons (pv 1) pa_nil))))))))))), ?_⟩
  let S : Option V → Option V → Option V → Option V → Option V → Option V → L2.St := fun w mv n sl ln sz => [some (.ref t), some (.int (m : Nat)), w, mv, n, sl, ln, sz, none, none, none]
  refine ⟨fun σ H' => KpT t H H' ∧ TapeAt H' t l ns ∧ ∃ r : Nat, σ = S (some (.int (r : Nat))) none none none none none, ⟨_, rfl, t, l, ns, 5, rfl, ht, by decide, by decide, fun H1 r hr1 kp1 ht1 => ⟨kp1, ht1, r, rfl⟩⟩, ?_⟩
  rintro σ H1 ⟨kp1, ht1, r, rfl⟩
  have eac : ∀ a c : Nat, (a : Int) * (c : Int) = ((a * c : Nat) : Int) := fun a c => (Int.natCast_mul a c).symm
  have bd : ∀ {a b c : Nat}, Ok a b c → a * c ≤ m → a ≤ 15 ∧ c ≤ 15 ∧ 0 < a * c := fun {a b c} ok le => by
    have h1 : a ≤ a * c := Nat.le_mul_of_pos_right _ ok.2
    have h2 : c ≤ a * c := Nat.le_mul_of_pos_left _ ok.pa
    have := ok.pa
    omega
  -- 0: drawn
  refine ⟨fun σ H' => H' = H1 ∧ σ = S (some (.int (r : Nat))) none none none none none, ⟨_, rfl, rfl, _, rfl, ite2 (fun q => ?_) (fun q => ⟨rfl, rfl⟩)⟩, ?_⟩
  · refine ⟨fun σ H' => KpT t H1 H' ∧ TapeAt H' t l ns ∧ ∃ n a b c, NtAt H' n a b c ∧ Ok a b c ∧ a * c ≤ m ∧ σ = S (some (.int (r : Nat))) none (some (.ref n)) none none none, ⟨_, rfl, _, rfl, t, l, ns, m, rfl, ht1, by omega, by omega, fun H2 n a b c kp2 ht2 ok le hn => ⟨kp2, ht2, n, a, b, c, hn, ok, le, rfl⟩⟩, ?_⟩
    rintro σ H2 ⟨kp2, ht2, n, a, b, c, hn, ok, le, rfl⟩
    obtain ⟨ba, bc, bp⟩ := bd ok le
    refine ⟨_, rfl, _, rfl, _, rfl, n, _, _, _, rfl, rfl, SqT.of hn, rfl, _, rfl, n, _, _, _, rfl, rfl, SqT.of hn, rfl, _, _, rfl, rfl, .inl ⟨by omega, by omega⟩, t, l, ns, a * c, by show [V.ref t, V.int ((a : Int) * (c : Int))] = _; rw [eac], ht2, by omega, fun H3 cs kp3 ht3 lcs pal => ⟨two_line, fun p hp => ?_⟩⟩
    have sp := same_new (o := .tup [V.ref n, V.str (tx cs)]) hp
    exact kk _ p a b c cs ((kp1.trans kp2).trans (kp3.trans (Same.kpt sp))) (ht3.same sp) ⟨n, upd_same, sp _ _ (hn.kp ht2 kp3)⟩ ok le lcs pal
  rintro σ H1' ⟨rfl, rfl⟩
  -- 1, 2: with motions
  refine ⟨fun σ H' => H' = H1' ∧ σ = S (some (.int (r : Nat))) none none none none none, ⟨_, rfl, _, _, rfl, rfl, _, rfl, ite2 (fun q => ?_) (fun q => ⟨rfl, rfl⟩)⟩, ?_⟩
  · refine ⟨fun σ H' => KpT t H1' H' ∧ TapeAt H' t l ns ∧ ∃ n a b c, NtAt H' n a b c ∧ Ok a b c ∧ a * c ≤ m ∧ σ = S (some (.int (r : Nat))) none (some (.ref n)) none none none, ⟨_, rfl, _, rfl, t, l, ns, m, rfl, ht1, m6, m15, fun H2 n a b c kp2 ht2 ok le hn => ⟨kp2, ht2, n, a, b, c, hn, ok, le, rfl⟩⟩, ?_⟩
    rintro σ H2 ⟨kp2, ht2, n, a, b, c, hn, ok, le, rfl⟩
    obtain ⟨ba, bc, bp⟩ := bd ok le
    refine ⟨fun σ H' => KpT t H2 H' ∧ TapeAt H' t l ns ∧ ∃ (D : Addr) (ms : List Addr), D ≠ t ∧ H' D = some (.lst (ms.map V.ref)) ∧ (∀ x ∈ ms, MvAt H' x) ∧ ms.length ≤ 2 ∧ σ = S (some (.int (r : Nat))) (some (.ref D)) (some (.ref n)) none none none, ⟨_, rfl, t, l, ns, 2, rfl, ht2, by decide, by decide, fun H3 r3 hr3 kp3 ht3 => ⟨_, _, rfl, rfl, _, rfl, by omega, by omega, fun D hD => ?_⟩⟩, ?_⟩
    · rw [show ((1 : Int) + (r3 : Nat)).toNat = 1 + r3 by omega]
      obtain ⟨dt, dl⟩ := ht3.fresh hD
      refine lc_it (walk_range (lo := 0) (n := 1 + r3)) (fun i H' => KpT t H3 H' ∧ TapeAt H' t l ns ∧ ∃ ms : List Addr, ms.length = i ∧ H' D = some (.lst (ms.map V.ref)) ∧ ∀ x ∈ ms, MvAt H' x) ⟨Same.kpt (same_new hD), ht3.same (same_new hD), [], rfl, upd_same, fun x hx => (by cases hx)⟩ (fun _ _ _ _ => trivial) (fun i x H4 H5 hi ⟨kp4, ht4, ms, lms, hD4, pms⟩ y => ?_) (fun H' ⟨kp4, ht4, ms, lms, hD4, pms⟩ => ⟨kp3.trans kp4, ht4, D, ms, dt, hD4, pms, by omega, rfl⟩)
      obtain ⟨rfl, rfl⟩ := y
      refine ⟨rfl, _, rfl, _, rfl, t, l, n, ns, a, b, c, rfl, ht4, (hn.kp ht2 kp3).kp ht3 kp4, ok, by omega, by omega, fun H6 mv kp6 ht6 hmv => ?_⟩
      have hD6 := kp6 _ _ dt hD4
      refine ⟨_, hD6, by rw [List.length_map, lms]; exact lt_line (by omega), (kp4.trans kp6).put hD, ht6.put dt dl, ms ++ [mv], by rw [List.length_append, lms]; rfl, by rw [upd_same, List.map_append]; rfl, fun x hx => ?_⟩
      rcases List.mem_append.mp hx with hx | hx
      · exact ((pms x hx).kp ht4 kp6).putL hD6
      · rw [List.mem_singleton.mp hx]
        exact hmv.putL hD6
    rintro σ H3 ⟨kp3, ht3, D, ms, dt, hD, pms, lms, rfl⟩
    have hn3 := hn.kp ht2 kp3
    refine ⟨_, rfl, _, rfl, _, rfl, _, rfl, n, _, _, _, rfl, rfl, SqT.of hn3, rfl, _, rfl, n, _, _, _, rfl, rfl, SqT.of hn3, rfl, _, _, rfl, rfl, .inl ⟨by omega, by omega⟩, t, l, ns, a * c, by show [V.ref t, V.int ((a : Int) * (c : Int))] = _; rw [eac], ht3, by omega, fun H4 cs kp4 ht4 lcs pal => ⟨_, rfl, n, D, a, b, c, cs, ms, rfl, hn3.kp ht3 kp4, ok, by omega, lcs, kp4 _ _ dt hD, fun x hx => (pms x hx).kp ht3 kp4, by omega, fun H5 cs' s5 l5 sub => ⟨two_line, fun p hp => ?_⟩⟩⟩
    have sp := same_new (o := .tup [V.ref n, V.str (tx cs')]) hp
    exact kk _ p a b c cs' (((kp1.trans kp2).trans (kp3.trans kp4)).trans (Same.kpt (s5.trans sp))) ((ht4.same s5).same sp) ⟨n, upd_same, (s5.trans sp) _ _ (hn3.kp ht3 kp4)⟩ ok le l5 (pal.sub sub)
  rintro σ H1 ⟨rfl, rfl⟩
  -- 3: in stripes
  refine ⟨fun σ H' => H' = H1 ∧ σ = S (some (.int (r : Nat))) none none none none none, ⟨_, rfl, rfl, _, rfl, ite2 (fun q => ?_) (fun q => ⟨rfl, rfl⟩)⟩, ?_⟩
  · refine ⟨fun σ H' => KpT t H1 H' ∧ TapeAt H' t l ns ∧ ∃ n a b c, NtAt H' n a b c ∧ Ok a b c ∧ a * c ≤ m ∧ σ = S (some (.int (r : Nat))) none (some (.ref n)) none none none, ⟨_, rfl, _, rfl, t, l, ns, m, rfl, ht1, by omega, by omega, fun H2 n a b c kp2 ht2 ok le hn => ⟨kp2, ht2, n, a, b, c, hn, ok, le, rfl⟩⟩, ?_⟩
    rintro σ H2 ⟨kp2, ht2, n, a, b, c, hn, ok, le, rfl⟩
    obtain ⟨ba, bc, bp⟩ := bd ok le
    have hba := ok.1
    have pa := ok.pa
    -- the slope
    refine ⟨fun σ H' => KpT t H2 H' ∧ TapeAt H' t l ns ∧ ∃ (sl : Addr) (s0 s1 : Int), H' sl = some (.tup [.int s0, .int s1]) ∧ (-1 ≤ s0 ∧ s0 ≤ 1) ∧ (-1 ≤ s1 ∧ s1 ≤ 1) ∧ (s0 = 1 ∨ s1 = 1) ∧ σ = S (some (.int (r : Nat))) none (some (.ref n)) (some (.ref sl)) none none, ?_, ?_⟩
    · refine ⟨two_line, fun p1 h1 => ⟨two_line, fun p2 h2 => ⟨two_line, fun p3 h3 => ⟨_, rfl, two_line, fun p4 h4 => ⟨by show 4 ≤ sizeLine; decide, fun o ho => ?_⟩⟩⟩⟩⟩
      have s1 := same_new (o := .tup [V.int 1, V.int 0]) h1
      have s2 := same_new (o := .tup [V.int 0, V.int 1]) h2
      have s3 := same_new (o := .tup [V.int 1, V.int 1]) h3
      have s4 := same_new (o := .tup [V.int 1, V.int (-1)]) h4
      have s5 := same_new (o := .lst [V.ref p1, V.ref p2, V.ref p3, V.ref p4]) ho
      have sA := ((s1.trans s2).trans (s3.trans s4)).trans s5
      have htA := ht2.same sA
      have not := (ht2.same ((s1.trans s2).trans (s3.trans s4))).fresh ho |>.1
      refine ⟨_, rfl, t, l, ns, 4, rfl, htA, by decide, by decide, fun H3 r3 hr3 kp3 ht3 => ?_⟩
      have ho3 := kp3 _ _ not upd_same
      have e1 := kp3 _ _ (htA.ne (((s2.trans (s3.trans s4)).trans s5) _ _ upd_same) fun _ => nofun) (((s2.trans (s3.trans s4)).trans s5) _ _ upd_same)
      have e2 := kp3 _ _ (htA.ne (((s3.trans s4).trans s5) _ _ upd_same) fun _ => nofun) (((s3.trans s4).trans s5) _ _ upd_same)
      have e3 := kp3 _ _ (htA.ne ((s4.trans s5) _ _ upd_same) fun _ => nofun) ((s4.trans s5) _ _ upd_same)
      have e4 := kp3 _ _ (htA.ne (s5 _ _ upd_same) fun _ => nofun) (s5 _ _ upd_same)
      have kpA : KpT t H2 H3 := (Same.kpt sA).trans kp3
      match r3, hr3 with
      | 0, _ => exact ⟨o, _, _, .ref p1, rfl, rfl, SqL.of ho3, atI_nat (j := 0) rfl, kpA, ht3, p1, 1, 0, e1, by decide, by decide, .inl rfl, rfl⟩
      | 1, _ => exact ⟨o, _, _, .ref p2, rfl, rfl, SqL.of ho3, atI_nat (j := 1) rfl, kpA, ht3, p2, 0, 1, e2, by decide, by decide, .inr rfl, rfl⟩
      | 2, _ => exact ⟨o, _, _, .ref p3, rfl, rfl, SqL.of ho3, atI_nat (j := 2) rfl, kpA, ht3, p3, 1, 1, e3, by decide, by decide, .inl rfl, rfl⟩
      | 3, _ => exact ⟨o, _, _, .ref p4, rfl, rfl, SqL.of ho3, atI_nat (j := 3) rfl, kpA, ht3, p4, 1, -1, e4, by decide, by decide, .inl rfl, rfl⟩
    rintro σ H3 ⟨kp3, ht3, sl, s0, s1, hsl, bs0, bs1, one, rfl⟩
    have hn3 := hn.kp ht2 kp3
    -- the line
    refine ⟨fun σ H' => KpT t H3 H' ∧ TapeAt H' t l ns ∧ ∃ cs : List Nat, cs.length = a * c ∧ Pal cs ∧ σ = S (some (.int (r : Nat))) none (some (.ref n)) (some (.ref sl)) (some (.str (tx cs))) none, ⟨_, rfl, _, rfl, n, _, _, _, rfl, rfl, SqT.of hn3, rfl, _, rfl, n, _, _, _, rfl, rfl, SqT.of hn3, rfl, _, _, rfl, rfl, .inl ⟨by omega, by omega⟩, t, l, ns, a * c, by show [V.ref t, V.int ((a : Int) * (c : Int))] = _; rw [eac], ht3, by omega, fun H4 cs kp4 ht4 lcs pal => ⟨kp4, ht4, cs, lcs, pal, rfl⟩⟩, ?_⟩
    rintro σ H4 ⟨kp4, ht4, cs, lcs, pal, rfl⟩
    have hn4 := hn3.kp ht3 kp4
    have hsl4 := kp4 _ _ (ht3.ne hsl fun _ => nofun) hsl
    let B : Int := (b : Int) * s0 + (c : Int) * s1
    -- the size
    refine ⟨fun σ H' => KpT t H4 H' ∧ TapeAt H' t l ns ∧ ∃ z : Int, (z = 1 ∨ z = 2 ∨ (1 ≤ z ∧ z ≤ a)) ∧ σ = S (some (.int (r : Nat))) none (some (.ref n)) (some (.ref sl)) (some (.str (tx cs))) (some (.int z)), ?_, ?_⟩
    · refine ⟨_, rfl, n, _, _, _, rfl, rfl, SqT.of hn4, rfl, _, rfl, n, _, _, _, rfl, rfl, SqT.of hn4, rfl, _, rfl, sl, _, _, _, rfl, rfl, SqT.of hsl4, rfl, _, _, rfl, rfl, .inl ⟨by omega, by omega⟩, _, rfl, n, _, _, _, rfl, rfl, SqT.of hn4, rfl, _, rfl, sl, _, _, _, rfl, rfl, SqT.of hsl4, rfl, _, _, rfl, rfl, .inl ⟨by omega, by omega⟩, _, _, rfl, rfl, (a : Int), B, rfl, three_line, fun o ho => ?_⟩
      have s5 := same_new (o := .lst [V.int 1, V.int 2, V.int (Int.gcd a B)]) ho
      have not := (ht4.fresh ho).1
      refine ⟨_, rfl, t, l, ns, 3, rfl, ht4.same s5, by decide, by decide, fun H5 r5 hr5 kp5 ht5 => ?_⟩
      have ho5 := kp5 _ _ not upd_same
      have kpA : KpT t H4 H5 := (Same.kpt s5).trans kp5
      match r5, hr5 with
      | 0, _ => exact ⟨o, _, _, .int 1, rfl, rfl, SqL.of ho5, atI_nat (j := 0) rfl, kpA, ht5, 1, .inl rfl, rfl⟩
      | 1, _ => exact ⟨o, _, _, .int 2, rfl, rfl, SqL.of ho5, atI_nat (j := 1) rfl, kpA, ht5, 2, .inr (.inl rfl), rfl⟩
      | 2, _ =>
        refine ⟨o, _, _, .int (Int.gcd a B), rfl, rfl, SqL.of ho5, atI_nat (j := 2) rfl, kpA, ht5, _, .inr (.inr ⟨?_, ?_⟩), rfl⟩
        · have : 0 < Int.gcd a B := Int.gcd_pos_of_ne_zero_left _ (by omega)
          omega
        · have : Int.gcd a B ∣ a := Int.ofNat_dvd.mp (Int.gcd_dvd_left ..)
          have := Nat.le_of_dvd pa this
          omega
    rintro σ H5 ⟨kp5, ht5, z, hz, rfl⟩
    have hn5 := hn4.kp ht4 kp5
    have hsl5 := kp5 _ _ (ht4.ne hsl4 fun _ => nofun) hsl4
    have z0 : z ≠ 0 := by omega
    refine ⟨fun σ H' => H' = H5 ∧ ∃ z : Int, 1 ≤ z ∧ z ≤ ((a * c : Nat) : Int) ∧ σ = S (some (.int (r : Nat))) none (some (.ref n)) (some (.ref sl)) (some (.str (tx cs))) (some (.int z)), ?_, ?_⟩
    · refine ⟨_, rfl, n, _, _, _, rfl, rfl, SqT.of hn5, rfl, _, rfl, sl, _, _, _, rfl, rfl, SqT.of hsl5, rfl, _, _, rfl, rfl, .inl ⟨by omega, by omega⟩, _, rfl, _, _, rfl, rfl, z0, rfl, _, rfl, ?_⟩
      refine ite2 (fun d1 => ?_) (fun _ => iteF ⟨rfl, 1, by omega, by omega, rfl⟩)
      refine ⟨_, rfl, n, _, _, _, rfl, rfl, SqT.of hn5, rfl, _, rfl, sl, _, _, _, rfl, rfl, SqT.of hsl5, rfl, _, _, rfl, rfl, .inl ⟨by omega, by omega⟩, _, rfl, n, _, _, _, rfl, rfl, SqT.of hn5, rfl, _, rfl, sl, _, _, _, rfl, rfl, SqT.of hsl5, rfl, _, _, rfl, rfl, .inl ⟨by omega, by omega⟩, _, _, rfl, rfl, _, rfl, _, _, rfl, rfl, z0, rfl, _, rfl, ?_⟩
      refine ite2 (fun d2 => ⟨_, rfl, rfl, z, by omega, ?_, rfl⟩) (fun _ => ⟨rfl, 1, by omega, by omega, rfl⟩)
      have d1 := of_decide_eq_true d1
      have d2 := of_decide_eq_true d2
      injection d1 with d1
      injection d2 with d2
      have hac : a ≤ a * c := Nat.le_mul_of_pos_right _ ok.2
      rcases hz with e | e | ⟨e1, e2⟩
      · omega
      · by_cases two : 2 ≤ a * c
        · omega
        · exfalso
          have hca : c ≤ a * c := Nat.le_mul_of_pos_left _ pa
          have ea : a = 1 := by omega
          have ec : c = 1 := by have := ok.2; omega
          have eb : b = 0 := by omega
          subst ea ec eb e
          rw [Int.fmod_eq_emod_of_nonneg _ (by decide)] at d1 d2
          have d2' : ((0 : Nat) : Int) * s0 + ((1 : Nat) : Int) * s1 = s1 := by rw [show ((0 : Nat) : Int) = 0 from rfl, show ((1 : Nat) : Int) = 1 from rfl, Int.zero_mul, Int.one_mul, Int.zero_add]
          have d1' : ((1 : Nat) : Int) * s0 = s0 := by rw [show ((1 : Nat) : Int) = 1 from rfl, Int.one_mul]
          rw [d1'] at d1
          rw [d2'] at d2
          omega
      · omega
    rintro σ H5' ⟨rfl, z, z1, z2, rfl⟩
    refine ⟨_, rfl, ⟨_, rfl⟩, _, rfl, n, a, b, c, rfl, hn5, pa, by omega, by omega, fun H6 o s6 fo ⟨L, ho, eL, pL⟩ => ⟨o, rfl, ⟨_, SqL.of ho⟩, fun D hD => ?_⟩⟩
    have lenL : L.length = a * c := by
      have := congrArg List.length eL
      rw [List.length_map, cellPl_len] at this
      exact this
    refine lc_rel (walk_list (K := K) (a := o) (xs := L.map fun p => V.ref p.1)) (by rw [List.length_map, lenL]; omega) hD (fun i y _ => ∃ x, x ∈ cs ∧ y = .str (sign x)) (fun _ _ _ _ _ r => r) (fun H' s' => SqL.of (s' _ _ ho)) (fun i x H7 H8 hi s7 hy => ?_) (fun σ H Q Q' f h => ?_) (fun v σ H Q Q' f h => ?_) (fun H' ys s7 el hR eD => ?_)
    · obtain ⟨rfl, hx⟩ := hy
      rw [List.getElem?_map] at hx
      obtain ⟨p, hp, rfl⟩ := Option.map_eq_some_iff.mp hx
      have hp8 := s7 _ _ (pL p (List.mem_of_getElem? hp))
      have hsl8 := (s6.trans s7) _ _ hsl5
      have z0' : z ≠ 0 := by omega
      obtain ⟨k1, k2⟩ : 0 ≤ (p.2.1 * s0 + p.2.2 * s1).fmod z ∧ (p.2.1 * s0 + p.2.2 * s1).fmod z < z := by
        rw [Int.fmod_eq_emod_of_nonneg _ (by omega)]
        exact ⟨Int.emod_nonneg _ z0', Int.emod_lt_of_pos _ (by omega)⟩
      have lt : ((p.2.1 * s0 + p.2.2 * s1).fmod z).toNat < cs.length := by omega
      refine ⟨p.1, _, rfl, SqT.of hp8, rfl, _, _, rfl, _, _, rfl, rfl, rfl, _, rfl, _, rfl, _, rfl, sl, _, _, _, rfl, rfl, SqT.of hsl8, rfl, _, _, rfl, rfl, .inr ⟨by omega, by omega⟩, _, rfl, _, rfl, sl, _, _, _, rfl, rfl, SqT.of hsl8, rfl, _, _, rfl, rfl, .inr ⟨by omega, by omega⟩, _, _, rfl, rfl, _, rfl, _, _, rfl, rfl, z0', tx cs, _, cs[((p.2.1 * s0 + p.2.2 * s1).fmod z).toNat], rfl, rfl, ?_, at_natG (j := ((p.2.1 * s0 + p.2.2 * s1).fmod z).toNat) ?_ ?_, ⟨_, List.getElem_mem lt, rfl⟩, Same.refl _⟩
      · rw [tx_len]; exact Nat.le_of_lt (lt_line (by omega))
      · exact (Int.toNat_of_nonneg k1).symm
      · show (cs.toArray.toList)[_]? = _
        exact List.getElem?_eq_getElem lt
    · obtain ⟨v6, e6, v9, e9, v5, e5, a1, b1, c1, d1, f1, f2, f3, f4, i1, j1, g1, g2, g3, v10, e10, v5', e5', a2, b2, c2, d2, h1, h2, h3, h4, i2, j2, q1, q2, q3, i3, j3, t1, t2, v7, e7, i4, j4, t3, t4, t5, z', i', c', e8, e9', h8, h9, h⟩ := h
      exact ⟨v6, e6, v9, e9, v5, e5, a1, b1, c1, d1, f1, f2, f3, f4, i1, j1, g1, g2, g3, v10, e10, v5', e5', a2, b2, c2, d2, h1, h2, h3, h4, i2, j2, q1, q2, q3, i3, j3, t1, t2, v7, e7, i4, j4, t3, t4, t5, z', i', c', e8, e9', h8, h9, f _ _ h⟩
    · obtain ⟨a1, x1, e1, h1, h2, v1, w1, e3, v2, w2, e4, e5, h⟩ := h
      exact ⟨a1, x1, e1, h1, h2, v1, w1, e3, v2, w2, e4, e5, f _ _ h⟩
    · obtain ⟨cs2, ey, mem⟩ := sg_of (S := fun x => x ∈ cs) ys fun y hy => by
        obtain ⟨i, hi, e⟩ := List.getElem_of_mem hy
        exact hR i y (by rw [List.getElem?_eq_getElem hi, e])
      have l2 : cs2.length = a * c := by
        have := congrArg List.length ey
        rw [List.length_map, List.length_map, el, List.length_map, lenL] at this
        exact this.symm
      rw [ey] at eD
      refine ⟨_, D, _, rfl, rfl, .inl (SqL.of eD), ?_, ?_⟩
      · rw [sum_signs, List.length_map, l2]
        have e0 : (Str.ofString "").length = 0 := by decide +kernel
        rw [e0]
        omega
      · rw [join_signs]
        refine ⟨two_line, fun p hp => ?_⟩
        have sp := same_new (o := .tup [V.ref n, V.str (tx cs2)]) hp
        have sA := (s6.trans s7).trans sp
        exact kk _ p a b c cs2 (((kp1.trans kp2).trans (kp3.trans kp4)).trans (kp5.trans (Same.kpt sA))) (ht5.same sA) ⟨n, upd_same, sA _ _ hn5⟩ ok le l2 (pal.sub mem)
  rintro σ H1' ⟨rfl, rfl⟩
  -- 4: copied
  have e2 : (m : Int).fdiv 2 = ((m / 2 : Nat) : Int) := by rw [Int.fdiv_eq_ediv_of_nonneg _ (by decide)]; rfl
  refine ⟨fun σ H' => KpT t H1' H' ∧ TapeAt H' t l ns ∧ ∃ n a b c, NtAt H' n a b c ∧ Ok a b c ∧ a * c ≤ m ∧ σ = S (some (.int (r : Nat))) none (some (.ref n)) none none none, ⟨_, rfl, _, rfl, _, _, rfl, rfl, ⟨by decide, by decide⟩, t, l, ns, m / 2, by show [V.ref t, V.int ((m : Int).fdiv 2)] = _; rw [e2], ht1, by omega, by omega, fun H2 n a b c kp2 ht2 ok le hn => ⟨kp2, ht2, n, a, b, c, hn, ok, by omega, rfl⟩⟩, ?_⟩
  rintro σ H2 ⟨kp2, ht2, n, a, b, c, hn, ok, le, rfl⟩
  obtain ⟨ba, bc, bp⟩ := bd ok le
  exact ⟨_, rfl, _, rfl, _, rfl, _, rfl, n, _, _, _, rfl, rfl, SqT.of hn, rfl, _, rfl, n, _, _, _, rfl, rfl, SqT.of hn, rfl, _, _, rfl, rfl, .inl ⟨by omega, by omega⟩, t, l, ns, a * c, by show [V.ref t, V.int ((a : Int) * (c : Int))] = _; rw [eac], ht2, by omega, fun H3 cs kp3 ht3 lcs pal => ⟨_, rfl, t, l, n, ns, a, b, c, m, cs, rfl, ht3, hn.kp ht2 kp3, ok, le, by omega, lcs, pal, fun H4 p a' b' c' cs' kp4 ht4 wv ok' le' lcs' pal' => kk H4 p a' b' c' cs' ((kp1.trans kp2).trans (kp3.trans kp4)) ht4 wv ok' le' lcs' pal'⟩⟩
end
end CpR
set_option Elab.async false
set_option linter.all false
set_option maxRecDepth 100000
set_option maxHeartbeats 1000000
/-! F09: the law's carpets of the package. -/
namespace CpR
open PySem PySem.Spec PyProof.Rows L2 CpM CpS
theorem chunk (a : Nat) : ∀ (c : Nat) (cs : List Nat), cs.length = a * c → ((List.range c).map fun k => (cs.drop (a * k)).take a).flatten = cs := by
  intro c cs hl
  have key : ∀ d, d ≤ c → ((List.range d).map fun k => (cs.drop (a * k)).take a).flatten = cs.take (a * d) := by
    intro d
    induction d with
    | zero => intro _; simp
    | succ d ih =>
      intro hd
      rw [List.range_succ, List.map_append, List.flatten_append, ih (by omega)]
      show cs.take (a * d) ++ [(cs.drop (a * d)).take a].flatten = _
      rw [List.flatten_cons, List.flatten_nil, List.append_nil, show a * (d + 1) = a * d + a by rw [Nat.mul_add, Nat.mul_one], List.take_add]
  rw [key c (Nat.le_refl _), ← hl, List.take_length]
theorem cut_row {cs : List Nat} {a c k : Nat} (hl : cs.length = a * c) (hk : k < c) : cutS (tx cs) (some ((a * k : Nat) : Int)) (some ((a * k + a : Nat) : Int)) = tx ((cs.drop (a * k)).take a) := by
  have h1 : a * k + a ≤ a * c := by rw [← Nat.mul_succ]; exact Nat.mul_le_mul_left _ hk
  unfold cutS
  rw [HT.sIx_nat, HT.sIx_nat, tx_len, hl, Nat.min_eq_left h1, Nat.min_eq_left (show a * k ≤ a * c by omega), show a * k + a - a * k = a by omega]
  rfl
section
variable {P : Program} {w : World} {K : PySem.W.Frag} {mg : Str → Option Value} {base : Heap} {CN CC CW CL CI CE : Addr}
def spMade (CN CC CW : Addr) : Sp := fun vs H Q _ => ∃ (t l n : Addr) (ns : List Int) (a b c : Nat) (cs : List Nat), vs = [.ref t, .ref n, .str (tx cs)] ∧ TapeAt H t l ns ∧ NtAt H n a b c ∧ Ok a b c ∧ a * c ≤ 15 ∧ cs.length = a * c ∧ (∀ x ∈ cs, x ∈ letters) ∧
  ∀ H' (z : Cp), KpT t H H' → TapeAt H' t l ns → z.Good CC CW → z.At CN H' → (∀ x y, z.col x y = CpM.col a b c cs x y) → z.W * z.Hh ≤ a * c → Q (.ref z.p) H'
theorem ok_law_made (T : Txt K mg CN CC CW CL) : Df P w K mg base CX0 10 "_law_made" (spMade CN CC CW) := by
  refine df_of T.d_law_made sc_law_made b_law_made (fun vs H Q E ⟨_, _, _, _, _, _, _, _, e, _⟩ => by rw [e]; rfl) (fun f cdv A outer s H vs Q E hr h => ?_)
  obtain ⟨t, l, n, ns, a, b, c, cs, rfl, ht, hn, ok, le, hl, hin, kk⟩ := h
  have n0 := sc_law_made.nd
  obtain ⟨mc, op, og, ofd, ob, tp, r, cm, OF, OB⟩ := ok_on (P := P) (w := w) (base := base) T
  obtain ⟨cf, cfd, CM, CF, _, cg, CK⟩ := ok_Carpet_init (P := P) (w := w) (base := base) T
  refine ⟨_, Evl.pss_cut (ps_if (pt_cmpR op_eq (pe_df (E := E0) (ok_law_draw T) hr (by decide) (by rfl) pass0 (pa_cons (pv 0) (pa_cons pe_int pa_nil))) pe_int (nomark _))
      (pss_one (ps_ret (pe_smeth (E := E0) (pe_glob (v := .ref CC) (by rfl) T.g_Carpet rfl) r cm OF (hr.mono (by decide)) OB pass0 (pa_cons (pe_dk (E := E0) (ok_Net T) hr (by decide) (by rfl) pass0 (pa_cons (pe_ix ix_tup (pv 1) pe_int (fun _ _ => rfl)) (pa_cons (pe_ix ix_tup (pv 1) pe_int (fun _ _ => rfl)) (pa_cons (pe_ix ix_tup (pv 1) pe_int (fun _ _ => rfl)) pa_nil)))) (pa_cons (pv 2) pa_nil))))) pss_nil)
    (Evl.pss_cut (ps_setLc (i := 3) (own := [("_law_k", 4)]) (g := gName 4) (tt := tYes) (te := tSl rSlS (tVar 2) (tPart (tOp (rI CMul fun i j => .int (i * j)) (tOp (rIxT K) (tVar 1) (tC (.int 0))) (tVar 4))) (tPart (tOp (rI0 fun i j => .int (i + j)) (tOp (rI CMul fun i j => .int (i * j)) (tOp (rIxT K) (tVar 1) (tC (.int 0))) (tVar 4)) (tOp (rIxT K) (tVar 1) (tC (.int 0)))))) rfl n0 rfl rfl (sw_true rfl rfl rfl (by decide +kernel)) (pi_range1 (by rfl) T.bt.range (pa_cons (pe_ix ix_tup (pv 1) pe_int (fun _ _ => rfl)) pa_nil)) (blkOk_by (N := N_law_made) (sc := defScope s_law_made) (by decide +kernel))
      (fun _ _ _ _ _ => pg_name (i := 4) n0 rfl (Or.inl rfl)) (fun _ _ _ _ _ => pts_nil)
      (fun _ _ _ _ _ => pe_slice sl_str (pv 2) (po_some (pe_op op_mul (pe_ix ix_tup (pv 1) pe_int (fun _ _ => rfl)) (pv 4))) (po_some (pe_op op_add (pe_op op_mul (pe_ix ix_tup (pv 1) pe_int (fun _ _ => rfl)) (pv 4)) (pe_ix ix_tup (pv 1) pe_int (fun _ _ => rfl))))))
    (pss_one (ps_ret (pe_makeK (E := E0) CM CF (hr.mono (by decide)) (by rfl) T.g_Carpet CK pass0 (pa_cons (pv 3) pa_nil) (pk_cons (pe_op op_add (pe_ix ix_tup (pv 1) pe_int (fun _ _ => rfl)) (pe_op op_mul (pe_ix ix_tup (pv 1) pe_int (fun _ _ => rfl)) (pe_op op_sub (pe_df (E := E0) (ok_law_draw T) hr (by decide) (by rfl) pass0 (pa_cons (pv 0) (pa_cons pe_int pa_nil))) pe_int))) pk_nil))))), ?_⟩
  have pa := ok.pa
  have pc := ok.2
  have hba := ok.1
  have la : a ≤ a * c := Nat.le_mul_of_pos_right _ pc
  have lc : c ≤ a * c := Nat.le_mul_of_pos_left _ pa
  have good : ∀ {C : Addr} {W R Hh : Nat} {x : Addr}, Kin CC CW C → Least a b c cs W R Hh → (Cp.mk C x W R Hh (cellText a b c cs W Hh)).Good CC CW ∧ (∀ u v, (Cp.mk C x W R Hh (cellText a b c cs W Hh)).col u v = CpM.col a b c cs u v) ∧ W * Hh ≤ a * c := fun {C W R Hh x} k L => by
    obtain ⟨d1, d2⟩ := sub_dvd ok L.ok L.sub
    have lW := Nat.le_of_dvd pa d1
    have lH := Nat.le_of_dvd pc d2
    exact ⟨⟨k, L.ok, cellText_len _ _, by show W < 4096; omega, by show Hh < 4096; omega⟩, fun u v => L.col u v, Nat.mul_le_mul lW lH⟩
  refine ⟨fun σ H' => KpT t H H' ∧ TapeAt H' t l ns ∧ σ = [some (.ref t), some (.ref n), some (.str (tx cs)), none, none], ⟨_, rfl, t, l, ns, 2, rfl, ht, by decide, by decide, fun H1 r1 hr1 kp1 ht1 => ⟨rfl, _, rfl, ite2 (fun q => ?_) (fun q => ⟨kp1, ht1, rfl⟩)⟩⟩, ?_⟩
  · have hn1 := hn.kp ht kp1
    refine ⟨rfl, _, rfl, n, _, _, _, rfl, rfl, SqT.of hn1, rfl, _, rfl, n, _, _, _, rfl, rfl, SqT.of hn1, rfl, _, rfl, n, _, _, _, rfl, rfl, SqT.of hn1, rfl, fun x' dx' hx' hd' ne' => net_new (Q := fun v H1 => tCons (tVar 2) tNil (start N_law_made [.ref t, .ref n, .str (tx cs)]) H1 fun xs H2 => spOn CN CW (v :: xs) H2 Q E0) ok (fun H2 x s2 hx => ⟨_, rfl, x, a, b, c, cs, rfl, hx, ok, by omega, hl, hin, fun H3 z W R Hh s3 hz L => ?_⟩) x' dx' hx' hd' ne'⟩
    obtain ⟨g1, g2, g3⟩ := good (x := z) (.inr rfl) L
    exact kk H3 _ (kp1.trans (Same.kpt (s2.trans s3))) (ht1.same (s2.trans s3)) g1 hz g2 g3
  rintro σ H1 ⟨kp1, ht1, rfl⟩
  have hn1 := hn.kp ht kp1
  obtain ⟨rs, ers⟩ : ∃ rs : List (List Nat), rs = (List.range c).map fun k => (cs.drop (a * k)).take a := ⟨_, rfl⟩
  have lrs : rs.length = c := by rw [ers, List.length_map, List.length_range]
  refine ⟨fun σ H' => Same H1 H' ∧ ∃ o, RowsAt H' o rs ∧ σ = [some (.ref t), some (.ref n), some (.str (tx cs)), some (.ref o), none], ⟨_, rfl, n, _, _, _, rfl, rfl, SqT.of hn1, rfl, _, rfl, by omega, by omega, fun D hD => ?_⟩, ?_⟩
  · rw [show ((c : Nat) : Int).toNat = c by omega]
    refine lc_it (walk_range (lo := 0) (n := c)) (fun i H' => Same H1 H' ∧ H' D = some (.lst ((rs.take i).map fun r => V.str (tx r)))) ⟨same_new hD, upd_same⟩ (fun _ _ _ _ => trivial) (fun i x H2 H3 hi ⟨s2, hD2⟩ y => ?_) (fun H' ⟨s2, hD2⟩ => ⟨s2, D, ?_, rfl⟩)
    · obtain ⟨rfl, rfl⟩ := y
      have hn2 : NtAt H3 n a b c := s2 _ _ hn1
      have ei : (a : Int) * ((0 : Int) + (i : Nat)) = ((a * i : Nat) : Int) := by rw [Int.zero_add, Int.natCast_mul]
      have ei2 : (a : Int) * ((0 : Int) + (i : Nat)) + (a : Int) = ((a * i + a : Nat) : Int) := by rw [ei, ← Int.natCast_add]
      refine ⟨rfl, _, rfl, _, rfl, n, _, _, _, rfl, rfl, SqT.of hn2, rfl, _, rfl, _, _, rfl, rfl, .inl ⟨by omega, by omega⟩, _, rfl, _, rfl, n, _, _, _, rfl, rfl, SqT.of hn2, rfl, _, rfl, _, _, rfl, rfl, .inl ⟨by omega, by omega⟩, _, rfl, n, _, _, _, rfl, rfl, SqT.of hn2, rfl, _, _, rfl, rfl, _, rfl, tx cs, rfl, ?_, _, hD2, ?_, fun b' o' e' => ?_, ?_⟩
      · rw [tx_len]; exact Nat.le_of_lt (lt_line (by omega))
      · rw [List.length_map]
        have := List.length_take_le' i rs
        exact lt_line (by omega)
      · rw [upd_ne (ne_of_none e' hD)]
        exact s2 _ _ e'
      · have gi : rs[i]? = some ((cs.drop (a * i)).take a) := by rw [ers, List.getElem?_map, List.getElem?_range hi]; rfl
        rw [upd_same, List.take_succ, gi, List.map_append]
        show some (HO.lst (_ ++ [V.str (cutS (tx cs) (some ((a : Int) * ((0 : Int) + (i : Nat)))) (some ((a : Int) * ((0 : Int) + (i : Nat)) + (a : Int))))])) = _
        rw [ei2, ei, cut_row hl hi]
        rfl
    · rw [← lrs, List.take_length] at hD2
      exact hD2
  rintro σ H2 ⟨s2, o, ho, rfl⟩
  have ht2 := ht1.same s2
  have hn2 : NtAt H2 n a b c := s2 _ _ hn1
  refine ⟨_, rfl, _, rfl, n, _, _, _, rfl, rfl, SqT.of hn2, rfl, _, rfl, n, _, _, _, rfl, rfl, SqT.of hn2, rfl, _, rfl, t, l, ns, 5, rfl, ht2, by decide, by decide, fun H3 r3 hr3 kp3 ht3 => ?_⟩
  have not : o ≠ t := fun q => by
    obtain ⟨_, _, _, e, _⟩ := ht2
    rw [RowsAt, q, e] at ho
    have e0 := congrArg (fun x => match x with | HO.lst (V.ref _ :: _) => true | _ => false) (Option.some.inj ho)
    cases rs <;> simp at e0
  have ho3 : RowsAt H3 o rs := kp3 _ _ not ho
  have R : Rws rs a := by
    refine ⟨by omega, by omega, fun r hr => ?_, pa, by omega, fun r hr x hx => ?_⟩
    · rw [ers] at hr
      obtain ⟨k, hk, e⟩ := List.mem_map.mp hr
      have hk := List.mem_range.mp hk
      have h1 : a * k + a ≤ a * c := by rw [← Nat.mul_succ]; exact Nat.mul_le_mul_left _ hk
      rw [← e, List.length_take, List.length_drop, hl]
      omega
    · rw [ers] at hr
      obtain ⟨k, hk, e⟩ := List.mem_map.mp hr
      rw [← e] at hx
      exact hin x (List.mem_of_mem_drop (List.mem_of_mem_take hx))
  have esh : ((b : Int) + (a : Int) * ((r3 : Int) - 2)) % (a : Int) = (b : Int) := by
    rw [Int.add_mul_emod_self_left, Int.emod_eq_of_lt (by omega) (by omega)]
  have fl : rs.flatten = cs := by rw [ers]; exact chunk a c cs hl
  refine ⟨_, _, rfl, rfl, _, _, rfl, rfl, .inl ⟨by omega, by omega⟩, _, _, rfl, rfl, rfl, rfl, fun x dx hx hd ne => ⟨x, dx, o, rs, a, _, rfl, upd_same, made_same hx hd _ _ ho3, R, by rw [lrs, Nat.mul_comm]; omega, fun H' n' W Rr Hh kp hp hn' L => ⟨rfl, ?_⟩⟩⟩
  rw [esh, lrs, fl, Int.toNat_natCast] at hp L
  have sA : Same H3 H' := fun b' o' e' => kp _ _ (ne_of_none e' hx) (made_same hx hd _ _ e')
  obtain ⟨g1, g2, g3⟩ := good (x := x) (.inl rfl) L
  exact kk H' ⟨CC, x, W, Rr, Hh, cellText a b c cs W Hh⟩ ((kp1.trans (Same.kpt s2)).trans (kp3.trans (Same.kpt sA))) (ht3.same sA) g1 ⟨dx, n', hp, hn'⟩ g2 g3
end
end CpR
set_option Elab.async false
set_option linter.all false
set_option maxRecDepth 100000
set_option maxHeartbeats 1000000
/-! F10: the law's one to three carpets. -/
namespace CpR
open PySem PySem.Spec PyProof.Rows L2 CpM CpS
structure Wv where
  p : Addr
  a : Nat
  b : Nat
  c : Nat
  cs : List Nat
structure WvOk (w : Wv) : Prop where
  ok : Ok w.a w.b w.c
  le : w.a * w.c ≤ 10
  len : w.cs.length = w.a * w.c
  pal : Pal w.cs
def WvsAt (H : Hp) (L : List Wv) : Prop := ∀ v ∈ L, WvAt H v.p v.a v.b v.c v.cs
theorem WvsAt.kp {H H' : Hp} {t l : Addr} {ns : List Int} {L : List Wv} (h : WvsAt H L) (ht : TapeAt H t l ns) (k : KpT t H H') : WvsAt H' L := fun v hv => (h v hv).kpt ht k
theorem WvsAt.same {H H' : Hp} {L : List Wv} (h : WvsAt H L) (s : Same H H') : WvsAt H' L := fun v hv => (h v hv).same s
theorem WvAt.putL {H : Hp} {p D : Addr} {a b c : Nat} {cs : List Nat} {xs ys : List V} (h : WvAt H p a b c cs) (hD : H D = some (.lst xs)) : WvAt (upd H D (.lst ys)) p a b c cs := by
  obtain ⟨n, e1, e2⟩ := h
  have n1 : p ≠ D := fun q => by rw [q, hD] at e1; cases e1
  have n2 : n ≠ D := fun q => by rw [NtAt, q, hD] at e2; cases e2
  exact ⟨n, by rw [upd_ne n1]; exact e1, by rw [NtAt, upd_ne n2]; exact e2⟩
theorem mergeK_has (S : V → Prop) {k : Key} : ∀ (more kvs : List (Key × V)), (∀ p ∈ more, S p.2) → ((∃ v, valV kvs k = some v ∧ S v) ∨ k ∈ more.map (·.1)) → ∃ v, valV (mergeK kvs more) k = some v ∧ S v
  | [], kvs, _, h => by
    rcases h with h | h
    · exact h
    · cases h
  | p :: more, kvs, hs, h => by
    refine mergeK_has S more (putK kvs p.1 p.2) (fun q hq => hs q (List.mem_cons_of_mem _ hq)) ?_
    by_cases e : k = p.1
    · left
      refine ⟨p.2, ?_, hs p List.mem_cons_self⟩
      rw [valV_put, if_pos e]
    · rcases h with ⟨v, h1, h2⟩ | h
      · left
        exact ⟨v, by rw [valV_put, if_neg e]; exact h1, h2⟩
      · right
        rcases List.mem_cons.mp h with q | q
        · exact absurd q e
        · exact q
def abz : List Nat := [97, 98, 122]
theorem Pal.of_abz {cs : List Nat} (h : ∀ c ∈ cs, c ∈ abz) : Pal cs := ⟨abz, by decide, by decide, h⟩
section
variable {P : Program} {w : World} {K : PySem.W.Frag} {mg : Str → Option Value} {base : Heap} {CN CC CW CL CI CE : Addr}
def spSome : Sp := fun vs H Q _ => ∃ (t l : Addr) (ns : List Int), vs = [.ref t] ∧ TapeAt H t l ns ∧ ∀ H' o (L : List Wv), KpT t H H' → TapeAt H' t l ns → H o = none → H' o = some (.lst (L.map fun v => V.ref v.p)) → WvsAt H' L → (∀ v ∈ L, WvOk v) → 0 < L.length → L.length ≤ 3 → Q (.ref o) H'
theorem ok_law_some (T : Txt K mg CN CC CW CL) : Df P w K mg base CX0 5 "_law_some" spSome := by
  refine df_of T.d_law_some sc_law_some b_law_some (fun vs H Q E ⟨_, _, _, e, _⟩ => by rw [e]; rfl) (fun f cdv A outer s H vs Q E hr h => ?_)
  obtain ⟨t, l, ns, rfl, ht, kk⟩ := h
  have n0 := sc_law_some.nd
  have hu1 : (A.deeper (envOfC "_law_some" (defScope s_law_some) s.heap.objs.size f cdv)).units + 1 < cLine := by have := hr.un; omega
  refine ⟨_, Evl.pss_cut (ps_set (i := 1) n0 rfl (.inl rfl) (pe_lst (pa_cons (pe_df (E := E0) (ok_law_woven T) hr (by decide) (by rfl) pass0 (pa_cons (pv 0) (pa_cons pe_int pa_nil))) pa_nil)))
    (Evl.pss_cut (ps_for PassesOwn.never rfl (pi_range1 (by rfl) T.bt.range (pa_cons (pe_df (E := E0) (ok_law_draw T) hr (by decide) (by rfl) pass0 (pa_cons (pv 0) (pa_cons pe_int pa_nil))) pa_nil)) (pg_name (i := 2) n0 rfl (.inl rfl))
      (Evl.pss_cut (ps_set (i := 3) n0 rfl (.inl rfl) (pe_df (E := E0) (ok_law_draw T) hr (by decide) (by rfl) pass0 (pa_cons (pv 0) (pa_cons pe_int pa_nil))))
      (pss_one (ps_if (pt_cmpR op_eq (pv 3) pe_int (nomark _))
        (pss_one (ps_expr (pe_bm PySem.F.plainAttrs_list PySem.F.slot_list_append PySem.F.type_list_append mt_append (pv 1) (pa_cons (pe_df (E := E0) (ok_law_woven T) hr (by decide) (by rfl) pass0 (pa_cons (pv 0) (pa_cons (pe_ix ix_list (pe_lst (pa_cons pe_int (pa_cons pe_int pa_nil))) (pe_callTy call_int1 (by rfl) T.bt.b_int (by decide +kernel) (pa_cons (pe_cmpR op_gt (pe_callB call_len_seq (by rfl) T.bt.len PySem.boot_len (pa_cons (pv 1) pa_nil)) pe_int (nomark _)) pa_nil)) (fun _ _ => rfl)) pa_nil))) pa_nil))))
        (Evl.pss_cut (ps_asg (pe_ix ix_list (pv 1) pe_int (fun _ _ => rfl)) (pg_tup rfl (pgs_cons (pg_name (i := 4) n0 rfl (.inl rfl)) (pgs_cons (pg_name (i := 5) n0 rfl (.inl rfl)) pgs_nil))))
        (Evl.pss_cut (ps_set (i := 6) n0 rfl (.inr rfl) (pe_callTy (call_dictP rfl) (by rfl) T.bt.b_dict (by decide +kernel) (pa_cons (pe_lc (own := [("_law_sign", 7)]) (g := gName 7) (tt := tYes) rfl n0 (pi_str pe_str) (blkOk_by (N := N_law_some) (sc := defScope s_law_some) (by decide +kernel))
            (fun _ _ _ _ _ => pg_name (i := 7) n0 rfl (Or.inl rfl)) (fun _ _ _ _ _ => pts_nil)
            (fun _ _ _ _ _ => pe_tup (pa_cons (pv 7) (pa_cons (pe_ix ix_str pe_str (pe_df (E := E0) (ok_law_draw T) hr (by decide) (by rfl) pass0 (pa_cons (pv 0) (pa_cons pe_int pa_nil))) (fun _ _ => rfl)) pa_nil)))) pa_nil)))
        (pss_one (ps_expr (pe_bm PySem.F.plainAttrs_list PySem.F.slot_list_append PySem.F.type_list_append mt_append (pv 1) (pa_cons (pe_tup (pa_cons (pv 4) (pa_cons (pe_join pe_str (pe_lc (own := [("_law_sign", 7)]) (g := gName 7) (tt := tYes) (te := tDGet (tVar 6) (tVar 7)) rfl n0 (pi_str (pv 5)) (blkOk_by (N := N_law_some) (sc := defScope s_law_some) (by decide +kernel))
            (fun _ _ _ _ _ => pg_name (i := 7) n0 rfl (Or.inl rfl)) (fun _ _ _ _ _ => pts_nil) (fun _ _ _ _ _ => pe_dget hu1 (pv 6) (pv 7) (fun _ _ => rfl)))) pa_nil))) pa_nil))))))))))
    (pss_one (ps_ret (pv 1)))), ?_⟩
  -- the first
  refine ⟨fun σ H' => KpT t H H' ∧ TapeAt H' t l ns ∧ ∃ (o : Addr) (v : Wv), H o = none ∧ H' o = some (.lst [V.ref v.p]) ∧ WvAt H' v.p v.a v.b v.c v.cs ∧ WvOk v ∧ σ = [some (.ref t), some (.ref o), none, none, none, none, none, none], ⟨_, rfl, t, l, ns, 10, rfl, ht, by decide, by decide, fun H1 p a b c cs kp1 ht1 wv ok le lcs pal => ⟨by show 1 ≤ sizeLine; decide, fun o ho => ?_⟩⟩, ?_⟩
  · have so := same_new (o := .lst [V.ref p]) ho
    refine ⟨kp1.trans (Same.kpt so), ht1.same so, o, ⟨p, a, b, c, cs⟩, ?_, upd_same, wv.same so, ⟨ok, le, lcs, pal⟩, rfl⟩
    cases e : H o with
    | none => rfl
    | some u => rw [kp1 _ _ (ht1.fresh ho).1 e] at ho; cases ho
  rintro σ H1 ⟨kp1, ht1, o, v0, fo, ho, hv0, ok0, rfl⟩
  have not : o ≠ t := (ht.fresh fo).1
  refine ⟨fun σ H' => KpT t H H' ∧ TapeAt H' t l ns ∧ ∃ L : List Wv, H' o = some (.lst (L.map fun v => V.ref v.p)) ∧ WvsAt H' L ∧ (∀ v ∈ L, WvOk v) ∧ 0 < L.length ∧ L.length ≤ 3 ∧ ∃ z2 z3 z4 z5 z6, σ = [some (.ref t), some (.ref o), z2, z3, z4, z5, z6, none], ⟨_, rfl, t, l, ns, 3, rfl, ht1, by decide, by decide, fun H2 r2 hr2 kp2 ht2 => ⟨_, rfl, by omega, by omega, ?_⟩⟩, ?_⟩
  · rw [show ((r2 : Nat) : Int).toNat = r2 by omega]
    refine for_it (walk_range (lo := 0) (n := r2)) (fun i σ H' => KpT t H H' ∧ TapeAt H' t l ns ∧ ∃ L : List Wv, H' o = some (.lst (L.map fun v => V.ref v.p)) ∧ WvsAt H' L ∧ (∀ v ∈ L, WvOk v) ∧ L.length = i + 1 ∧ ∃ z2 z3 z4 z5 z6, σ = [some (.ref t), some (.ref o), z2, z3, z4, z5, z6, none])
      ⟨kp1.trans kp2, ht2, [v0], kp2 _ _ not ho, fun v hv => ?_, fun v hv => ?_, rfl, _, _, _, _, _, rfl⟩ (fun _ _ _ _ _ => trivial) (fun i x σ H3 H4 hi ⟨kp3, ht3, L, hL, pL, oL, lL, z2, z3, z4, z5, z6, eo⟩ hy => ?_) (fun σ H' ⟨kp3, ht3, L, hL, pL, oL, lL, z⟩ => ⟨kp3, ht3, L, hL, pL, oL, by omega, by omega, z⟩)
    · rw [List.mem_singleton.mp hv]; exact hv0.kpt ht1 kp2
    · rw [List.mem_singleton.mp hv]; exact ok0
    · subst eo
      obtain ⟨rfl, rfl⟩ := hy
      -- the end of a turn: a further carpet
      have push : ∀ (H5 : Hp) (v : Wv) (σ : L2.St), KpT t H4 H5 → TapeAt H5 t l ns → WvAt H5 v.p v.a v.b v.c v.cs → WvOk v → (∃ z2 z3 z4 z5 z6, σ = [some (.ref t), some (.ref o), z2, z3, z4, z5, z6, none]) → KpT t H (upd H5 o (.lst (L.map (fun v => V.ref v.p) ++ [V.ref v.p]))) ∧ TapeAt (upd H5 o (.lst (L.map (fun v => V.ref v.p) ++ [V.ref v.p]))) t l ns ∧ ∃ M : List Wv, upd H5 o (.lst (L.map (fun v => V.ref v.p) ++ [V.ref v.p])) o = some (.lst (M.map fun v => V.ref v.p)) ∧ WvsAt (upd H5 o (.lst (L.map (fun v => V.ref v.p) ++ [V.ref v.p]))) M ∧ (∀ v ∈ M, WvOk v) ∧ M.length = i + 1 + 1 ∧ ∃ z2 z3 z4 z5 z6, σ = [some (.ref t), some (.ref o), z2, z3, z4, z5, z6, none] := fun H5 v σ kp5 ht5 wv okv eo => by
        have ho5 := kp5 _ _ not hL
        refine ⟨(kp3.trans kp5).put fo, ht5.put not (ht.fresh fo).2, L ++ [v], by rw [upd_same, List.map_append]; rfl, fun x hx => ?_, fun x hx => ?_, by rw [List.length_append, lL]; rfl, eo⟩
        · rcases List.mem_append.mp hx with hx | hx
          · exact ((pL x hx).kpt ht3 kp5).putL ho5
          · rw [List.mem_singleton.mp hx]; exact wv.putL ho5
        · rcases List.mem_append.mp hx with hx | hx
          · exact oL x hx
          · rw [List.mem_singleton.mp hx]; exact okv
      refine ⟨fun σ H' => KpT t H4 H' ∧ TapeAt H' t l ns ∧ ∃ r : Nat, σ = [some (.ref t), some (.ref o), some (.int (0 + (i : Nat))), some (.int (r : Nat)), z4, z5, z6, none], ⟨_, rfl, t, l, ns, 3, rfl, ht3, by decide, by decide, fun H5 r hr5 kp5 ht5 => ⟨kp5, ht5, r, rfl⟩⟩, ?_⟩
      rintro σ H5 ⟨kp5, ht5, r, rfl⟩
      have ho5 := kp5 _ _ not hL
      have llt : (L.map fun v => V.ref v.p).length < sizeLine := by rw [List.length_map]; exact lt_line (by omega)
      refine ⟨_, rfl, rfl, _, rfl, ite2 (fun q => ?_) (fun q => ?_)⟩
      · obtain ⟨k, ek⟩ : ∃ k : Bool, k = decide (((L.map fun v => V.ref v.p).length : Int) > 1) := ⟨_, rfl⟩
        refine ⟨_, rfl, .inl ⟨rfl, _, SqL.of ho5⟩, _, rfl, two_line, fun q2 hq2 => ⟨_, rfl, o, _, rfl, .inl (SqL.of (same_new hq2 _ _ ho5)), _, _, rfl, rfl, .inr ⟨k, by rw [ek], q2, _, _, .int ((if k then 6 else 10 : Nat) : Nat), rfl, rfl, SqL.of upd_same, ?_, t, l, ns, _, rfl, ht5.same (same_new hq2), ?_, ?_, fun H6 p a b c cs kp6 ht6 wv ok le lcs pal => ⟨o, _, _, rfl, rfl, kp6 _ _ not (same_new hq2 _ _ ho5), llt, push H6 ⟨p, a, b, c, cs⟩ _ ((kp5.trans (Same.kpt (same_new hq2))).trans kp6) ht6 wv ⟨ok, ?_, lcs, pal⟩ ⟨_, _, _, _, _, rfl⟩⟩⟩⟩⟩
        · cases k <;> rfl
        · cases k <;> decide
        · cases k <;> decide
        · cases k with
          | false => exact le
          | true =>
            have : a * c ≤ 6 := le
            show a * c ≤ 10
            omega
      · obtain ⟨v1, L', eL⟩ : ∃ v1 L', L = v1 :: L' := by
          cases L with
          | nil => cases lL
          | cons v L' => exact ⟨_, _, rfl⟩
        have mv1 : v1 ∈ L := by rw [eL]; exact List.mem_cons_self
        obtain ⟨n, e1, e2⟩ := (pL v1 mv1).kpt ht3 kp5
        have okv := oL v1 mv1
        obtain ⟨okn, len', lcs, pal⟩ := okv
        have at0 : atI (L.map fun v => V.ref v.p) 0 = some (.ref v1.p) := atI_nat (j := 0) (by rw [eL]; rfl)
        refine ⟨fun σ H' => H' = H5 ∧ σ = [some (.ref t), some (.ref o), some (.int (0 + (i : Nat))), some (.int (r : Nat)), some (.ref n), some (.str (tx v1.cs)), z6, none], ⟨_, rfl, o, _, _, _, rfl, rfl, SqL.of ho5, at0, v1.p, _, rfl, SqT.of e1, rfl, _, _, rfl, _, _, rfl, rfl, rfl, rfl⟩, ?_⟩
        rintro σ H5' ⟨rfl, rfl⟩
        -- the table
        refine ⟨fun σ H' => KpT t H5' H' ∧ TapeAt H' t l ns ∧ ∃ (d : Addr) (kvs : List (Key × V)), H' d = some (.dK kvs) ∧ (∀ c ∈ six, ∃ x, x ∈ abz ∧ valV kvs (kS c) = some (.str (sign x))) ∧ σ = [some (.ref t), some (.ref o), some (.int (0 + (i : Nat))), some (.int (r : Nat)), some (.ref n), some (.str (tx v1.cs)), some (.ref d), none], ?_, ?_⟩
        · have e6 : ("abcqrz" : Str) = tx six := by decide +kernel
          have e3 : ("abz" : Str) = tx abz := by decide +kernel
          rw [e6, e3]
          refine ⟨tx six, rfl, fun D hD => ?_⟩
          obtain ⟨dt, dl⟩ := ht5.fresh hD
          have sz6 : (tx six).cps.size = 6 := rfl
          refine lc_it (walk_str (z := tx six)) (fun i H' => KpT t H5' H' ∧ TapeAt H' t l ns ∧ ∃ (ps : List Addr) (kvs : List (Key × V)), ps.length = i ∧ H' D = some (.lst (ps.map V.ref)) ∧ Paired (fun p kv => H' p = some (.tup [kV kv.1, kv.2])) ps kvs ∧ kvs.map (·.1) = (six.take i).map kS ∧ ∀ p ∈ kvs, ∃ x, x ∈ abz ∧ p.2 = .str (sign x))
            ⟨Same.kpt (same_new hD), ht5.same (same_new hD), [], [], rfl, upd_same, .nil, rfl, fun p hp => (by cases hp)⟩ (fun _ _ _ _ => trivial) (fun j x H7 H8 hj ⟨kp7, ht7, ps, kvs, lps, hD7, pr, ek, vk⟩ hy => ?_) (fun H' ⟨kp7, ht7, ps, kvs, lps, hD7, pr, ek, vk⟩ => ?_)
          · obtain ⟨rfl, c, hc, rfl⟩ := hy
            have hc := tx_at hc
            have lj : j < 6 := hj
            refine ⟨rfl, _, rfl, _, rfl, t, l, ns, 3, rfl, ht7, by decide, by decide, fun H9 r9 hr9 kp9 ht9 => ⟨tx abz, _, abz[r9]'hr9, rfl, rfl, by decide +kernel, atI_nat (by show (abz.toArray.toList)[r9]? = _; exact List.getElem?_eq_getElem hr9), two_line, fun p hp => ?_⟩⟩
            have hD9 := kp9 _ _ dt hD7
            have sp := same_new (o := .tup [V.str (sign c), V.str (sign (abz[r9]'hr9))]) hp
            have npD : p ≠ D := fun q => by rw [q, hD9] at hp; cases hp
            refine ⟨_, sp _ _ hD9, by rw [List.length_map, lps]; exact lt_line (by omega), (kp7.trans (kp9.trans (Same.kpt sp))).put hD, (ht9.same sp).put dt dl, ps ++ [p], kvs ++ [(kS c, .str (sign (abz[r9]'hr9)))], by rw [List.length_append, lps]; rfl, by rw [upd_same, List.map_append]; rfl, ?_, ?_, fun q hq => ?_⟩
            · refine Paired.snoc (Paired.mapP pr fun p' kv e => ?_) ?_
              · have e9 := sp _ _ (kp9 _ _ (ht7.ne e fun _ => nofun) e)
                have n' : p' ≠ D := fun q => by rw [q, sp _ _ hD9] at e9; cases e9
                rw [upd_ne n']
                exact e9
              · rw [upd_ne npD, upd_same]
                rfl
            · rw [List.map_append, ek, List.take_succ, hc, List.map_append]
              rfl
            · rcases List.mem_append.mp hq with hq | hq
              · exact vk q hq
              · rw [List.mem_singleton.mp hq]
                exact ⟨_, List.getElem_mem hr9, rfl⟩
          · rw [sz6] at ek
            refine ⟨D, ps, kvs, rfl, SqL.of hD7, Paired.mapP pr fun p kv e => SqT.of e, fun d hd => ⟨kp7.trans (Same.kpt (same_new hd)), ht7.same (same_new hd), d, _, upd_same, fun c hc => ?_, rfl⟩⟩
            obtain ⟨v, e1, x, hx, e2⟩ := mergeK_has (k := kS c) (fun v => ∃ x, x ∈ abz ∧ v = .str (sign x)) kvs [] vk (.inr (by rw [ek]; exact List.mem_map.mpr ⟨c, hc, rfl⟩))
            exact ⟨x, hx, by rw [e1, e2]⟩
        rintro σ H6 ⟨kp6, ht6, d, kvs, hd, hk, rfl⟩
        have ho6 := kp6 _ _ not ho5
        have b10 : v1.cs.length ≤ 10 := by omega
        refine ⟨_, rfl, .inl ⟨rfl, _, SqL.of ho6⟩, _, rfl, ⟨_, rfl⟩, _, rfl, tx v1.cs, rfl, fun D hD => lc_rel (walk_str (z := tx v1.cs)) (by rw [tx_size]; omega) hD (fun i y _ => ∃ x, x ∈ abz ∧ y = .str (sign x)) (fun _ _ _ _ _ r => r) (fun _ _ => trivial) (fun j x H7 H8 hj s7 hy => ?_) (fun σ H Q Q' f h => ?_) gName_mono (fun H' ys s7 el hR eD => ?_)⟩
        · obtain ⟨rfl, c, hc, rfl⟩ := hy
          have hc := tx_at hc
          obtain ⟨x, hx, ev⟩ := hk c (pal.six c (List.mem_of_getElem? hc))
          have G : DGet H8 d (.str (sign c)) (valV kvs (kS c)) := DGet.k (k := kS c) (s7 _ _ hd)
          rw [ev] at G
          exact ⟨rfl, _, rfl, _, rfl, d, _, rfl, G, ⟨x, hx, rfl⟩, Same.refl _⟩
        · obtain ⟨v1, e1, v2, e2, d', v', k1, k2, h⟩ := h
          exact ⟨v1, e1, v2, e2, d', v', k1, k2, f _ _ h⟩
        · obtain ⟨cs2, ey, mem⟩ := sg_of (S := fun x => x ∈ abz) ys fun y hy => by
            obtain ⟨i, hi, e⟩ := List.getElem_of_mem hy
            exact hR i y (by rw [List.getElem?_eq_getElem hi, e])
          have l2 : cs2.length = v1.a * v1.c := by
            have := congrArg List.length ey
            rw [List.length_map, List.length_map, el, tx_size, lcs] at this
            exact this.symm
          rw [ey] at eD
          refine ⟨_, D, _, rfl, rfl, .inl (SqL.of eD), ?_, ?_⟩
          · rw [sum_signs, List.length_map, l2]
            have e0 : (Str.ofString "").length = 0 := by decide +kernel
            rw [e0]
            omega
          · rw [join_signs]
            refine ⟨two_line, fun p hp => ?_⟩
            have sp := same_new (o := .tup [V.ref n, V.str (tx cs2)]) hp
            have sA := s7.trans sp
            have hn6 : NtAt H6 n v1.a v1.b v1.c := NtAt.kp e2 ht5 kp6
            exact ⟨o, _, _, rfl, rfl, sA _ _ ho6, llt, push _ ⟨p, v1.a, v1.b, v1.c, cs2⟩ _ ((kp5.trans kp6).trans (Same.kpt sA)) (ht6.same sA) ⟨n, upd_same, sA _ _ hn6⟩ ⟨okn, len', l2, Pal.of_abz mem⟩ ⟨_, _, _, _, _, rfl⟩⟩
  rintro σ H2 ⟨kp2, ht2, L, hL, pL, oL, l0, l3, z2, z3, z4, z5, z6, rfl⟩
  exact ⟨_, rfl, kk _ o L kp2 ht2 fo hL pL oL l0 l3⟩
end
end CpR
set_option Elab.async false
set_option linter.all false
set_option maxRecDepth 100000
set_option maxHeartbeats 1000000
/-! F11: the law's common net, by trying row after row. -/
namespace CpR
open PySem PySem.Spec PyProof.Rows L2 CpM CpS
def lcmN (w : Nat) (L : List Nt) : Nat := L.foldl (fun w m => Nat.lcm w m.2.1) w
theorem lcmN_dvd (x : Nat) : ∀ (L : List Nt) (w : Nat), lcmN w L ∣ x ↔ w ∣ x ∧ ∀ m ∈ L, m.2.1 ∣ x
  | [], w => ⟨fun h => ⟨h, fun m hm => (by cases hm)⟩, fun h => h.1⟩
  | m :: L, w => by
    show lcmN (Nat.lcm w m.2.1) L ∣ x ↔ _
    rw [lcmN_dvd x L, Nat.lcm_dvd_iff]
    constructor
    · rintro ⟨⟨h1, h2⟩, h3⟩
      exact ⟨h1, fun m' hm' => by
        rcases List.mem_cons.mp hm' with e | hm'
        · rw [e]; exact h2
        · exact h3 m' hm'⟩
    · rintro ⟨h1, h2⟩
      exact ⟨⟨h1, h2 m List.mem_cons_self⟩, fun m' hm' => h2 m' (List.mem_cons_of_mem _ hm')⟩
theorem inL_row {a b c : Nat} (ok : Ok a b c) (x : Nat) : InL a b c x 0 ↔ a ∣ x := by
  unfold InL
  rw [Int.zero_ediv, Int.zero_mul, Int.sub_zero]
  exact ⟨fun h => Int.ofNat_dvd.mp h.2, fun h => ⟨⟨0, by omega⟩, Int.ofNat_dvd.mpr h⟩⟩
theorem lcm_is {L : List Nt} {W R Hh : Nat} (hL : ∀ m ∈ L, Ok m.2.1 m.2.2.1 m.2.2.2) (ok : Ok W R Hh) (iff : ∀ x y, InL W R Hh x y ↔ ∀ m ∈ L, InL m.2.1 m.2.2.1 m.2.2.2 x y) : lcmN 1 L = W := by
  have key : ∀ x : Nat, lcmN 1 L ∣ x ↔ W ∣ x := fun x => by
    rw [lcmN_dvd, ← inL_row ok x, iff]
    exact ⟨fun h m hm => (inL_row (hL m hm) x).mpr (h.2 m hm), fun h => ⟨Nat.one_dvd x, fun m hm => (inL_row (hL m hm) x).mp (h m hm)⟩⟩
  exact Nat.dvd_antisymm ((key W).mpr (Nat.dvd_refl W)) ((key _).mp (Nat.dvd_refl _))
/-- what is found at the row h -/
theorem found_at {W R Hh h i : Nat} (ok : Ok W R Hh) (h1 : 1 ≤ h) (hh : h ≤ Hh) (hi : i < W) : InL W R Hh i h ↔ h = Hh ∧ i = R := by
  have hr := ok.1
  have hc := ok.2
  constructor
  · rintro ⟨d1, d2⟩
    have e : h = Hh := by
      have := Nat.le_of_dvd (by omega) (Int.ofNat_dvd.mp d1)
      omega
    subst e
    rw [Int.ediv_self (by omega), Int.one_mul] at d2
    refine ⟨rfl, ?_⟩
    obtain ⟨k, hk⟩ := d2
    have k0 : k = 0 := by
      rcases Int.lt_trichotomy k 0 with q | q | q
      · have : (W : Int) * k ≤ (W : Int) * (-1) := Int.mul_le_mul_of_nonneg_left (by omega) (by omega)
        omega
      · exact q
      · have : (W : Int) * 1 ≤ (W : Int) * k := Int.mul_le_mul_of_nonneg_left (by omega) (by omega)
        omega
    rw [k0, Int.mul_zero] at hk
    omega
  · rintro ⟨e1, e2⟩
    rw [e1, e2]
    exact (inL_self ok).2
def encN (m : Nat × Nat × Nat) : PyData := .tuple [.int (m.1 : Nat), .int (m.2.1 : Nat), .int (m.2.2 : Nat)]
def NtsAt (H : Hp) (L : List Nt) : Prop := ∀ m ∈ L, NtAt H m.1 m.2.1 m.2.2.1 m.2.2.2
theorem NtsAt.same {H H' : Hp} {L : List Nt} (h : NtsAt H L) (s : Same H H') : NtsAt H' L := fun m hm => NtAt.same (h m hm) s
theorem dp_nts {K : PySem.W.Frag} : ∀ {H : Hp} {L : List Nt}, NtsAt H L → DpAll K H (L.map fun p => V.ref p.1) (L.map fun p => encN p.2)
  | _, [], _ => .nil
  | _, q :: L, h => .cons (.tup (SqT.of (h q List.mem_cons_self)) (.cons (.int _) (.cons (.int _) (.cons (.int _) .nil)))) (dp_nts fun p hp => h p (List.mem_cons_of_mem _ hp))
theorem nts_shaped (L : List (Nat × Nat × Nat)) : SeqAt.shaped (.list (L.map encN)) = true := by
  have h1 : PyData.canLayAll0 (L.map encN) = true := by
    induction L with
    | nil => simp [PyData.canLayAll0]
    | cons p L ih => simp [PyData.canLayAll0, ih, encN, PyData.canLay0]
  have d : PyData.depthAll (L.map encN) ≤ 1 := by
    induction L with
    | nil => simp [PyData.depthAll]
    | cons p L ih =>
      rw [List.map_cons, PyData.depthAll]
      refine Nat.max_le.mpr ⟨by simp [encN, PyData.depth, PyData.depthAll], ih ?_⟩
      simp [PyData.canLayAll0] at h1
      exact h1.2
  show (PyData.canLay0 (.list (L.map encN)) && decide (PyData.depth (.list (L.map encN)) ≤ 64)) = true
  rw [PyData.canLay0, h1, PyData.depth, decide_eq_true (by omega)]; rfl
section
variable {P : Program} {w : World} {K : PySem.W.Frag} {mg : Str → Option Value} {base : Heap} {CN CC CW CL CI CE : Addr}
def spLCommon : Sp := fun vs H Q _ => ∃ (o : Addr) (L : List Nt) (W R Hh : Nat), vs = [.ref o] ∧ H o = some (.lst (L.map fun m => V.ref m.1)) ∧ NtsAt H L ∧ (∀ m ∈ L, Ok m.2.1 m.2.2.1 m.2.2.2 ∧ m.2.1 < 2 ^ 10 ∧ m.2.2.2 < 2 ^ 10) ∧ L.length ≤ 100 ∧ Ok W R Hh ∧ W < 2 ^ 20 ∧ Hh < 2 ^ 20 ∧
  (∀ x y, InL W R Hh x y ↔ ∀ m ∈ L, InL m.2.1 m.2.2.1 m.2.2.2 x y) ∧ ∀ H' r, Same H H' → NtAt H' r W R Hh → Q (.ref r) H'
theorem ok_law_common (T : Txt K mg CN CC CW CL) : Df P w K mg base CX0 2 "_law_common" spLCommon := by
  refine df_of T.d_law_common sc_law_common b_law_common (fun vs H Q E ⟨_, _, _, _, _, e, _⟩ => by rw [e]; rfl) (fun f cdv A outer s H vs Q E hr h => ?_)
  obtain ⟨o, L, W, R, Hh, rfl, ho, hL, okL, few, ok, bW, bH, iff, kk⟩ := h
  have n0 := sc_law_common.nd
  have hu : (A.deeper (envOfC "_law_common" (defScope s_law_common) s.heap.objs.size f cdv)).units + 64 < cLine := by have := hr.un; omega
  refine ⟨_, Evl.pss_cut (ps_set (i := 1) n0 rfl (.inl rfl) pe_int)
    (Evl.pss_cut (ps_for PassesOwn.never rfl (pi_list (pv 0)) (pg_name (i := 2) n0 rfl (.inl rfl))
      (pss_one (ps_set (i := 1) n0 rfl (.inl rfl) (pe_op op_fdivN (pe_op op_mul (pv 1) (pe_ix ix_tup (pv 2) pe_int (fun _ _ => rfl))) (pe_df (E := E0) (ok_law_divisor T) hr (by decide) (by rfl) pass0 (pa_cons (pv 1) (pa_cons (pe_ix ix_tup (pv 2) pe_int (fun _ _ => rfl)) pa_nil)))))))
    (Evl.pss_cut (ps_set (i := 3) n0 rfl (.inr rfl) pe_int)
    (pss_one (ps_while PassesOwn.never (pt_val pe_bl)
      (Evl.pss_cut (ps_for PassesOwn.never rfl (pi_range1 (by rfl) T.bt.range (pa_cons (pv 1) pa_nil)) (pg_name (i := 4) n0 rfl (.inr rfl))
        (pss_one (ps_if (pt_cmpR (op_eqD hu) (pe_lc (own := [("_law_net_here", 2)]) (g := gName 2) (tt := tTest (tOp (rNeD K) (tCallR spLow E0 (tCons (tVar 2) (tCons (tTup (tCons (tVar 4) (tCons (tVar 3) tNil))) tNil))) (tTup (tCons (tC (.int 0)) (tCons (tC (.int 0)) tNil))))) (te := tVar 2) rfl n0 (pi_list (pv 0)) (blkOk_by (N := N_law_common) (sc := defScope s_law_common) (by decide +kernel))
            (fun _ _ _ _ _ => pg_name (i := 2) n0 rfl (Or.inl rfl)) (fun _ _ _ _ _ => pts_one (pt_cmpR (op_neD hu) (pe_df (E := E0) (ok_law_low T) hr (by decide) (by rfl) pass0 (pa_cons (pv 2) (pa_cons (pe_tup (pa_cons (pv 4) (pa_cons (pv 3) pa_nil))) pa_nil))) (pe_tup (pa_cons pe_int (pa_cons pe_int pa_nil))) (nomark _))) (fun _ _ _ _ _ => pv 2)) (pe_lst pa_nil) (nomark _))
          (pss_one (ps_ret (pe_tup (pa_cons (pv 1) (pa_cons (pv 4) (pa_cons (pv 3) pa_nil)))))) pss_nil)))
      (pss_one (ps_set (i := 3) n0 rfl (.inr rfl) (pe_op op_add (pv 3) pe_int)))))))), ?_⟩
  have hR := ok.1
  have hH := ok.2
  have eW := lcm_is (fun m hm => (okL m hm).1) ok iff
  refine ⟨fun σ H' => H' = H ∧ σ = [some (.ref o), some (.int 1), none, none, none], ⟨rfl, rfl⟩, ?_⟩
  rintro σ H0 ⟨rfl, rfl⟩
  -- the width
  refine ⟨fun σ H' => H' = H0 ∧ ∃ z, σ = [some (.ref o), some (.int (W : Nat)), z, none, none], ⟨_, rfl, o, rfl, ⟨_, SqL.of ho⟩, for_it (walk_list (K := K) (a := o) (xs := L.map fun m => V.ref m.1)) (fun i σ H' => H' = H0 ∧ ∃ z, σ = [some (.ref o), some (.int (lcmN 1 (L.take i) : Nat)), z, none, none]) ⟨rfl, _, rfl⟩ (fun i σ H' _ ⟨e, _⟩ => by rw [e]; exact SqL.of ho) (fun i x σ H1 H2 hi ⟨e1, z, eo⟩ hy => ?_) (fun σ H' ⟨e1, z, eo⟩ => ⟨e1, z, ?_⟩)⟩, ?_⟩
  · subst eo e1
    obtain ⟨rfl, hx⟩ := hy
    rw [List.getElem?_map] at hx
    obtain ⟨m, hm, rfl⟩ := Option.map_eq_some_iff.mp hx
    have mm := List.mem_of_getElem? hm
    have hn := hL m mm
    obtain ⟨okm, b1, b2⟩ := okL m mm
    have pm := okm.pa
    have tk : lcmN 1 (L.take (i + 1)) = Nat.lcm (lcmN 1 (L.take i)) m.2.1 := by
      rw [List.take_succ, hm]
      show List.foldl _ 1 (L.take i ++ [m]) = _
      rw [List.foldl_append]
      rfl
    have g0 : 0 < Nat.gcd (lcmN 1 (L.take i)) m.2.1 := Nat.gcd_pos_of_pos_right _ pm
    have gl : Nat.gcd (lcmN 1 (L.take i)) m.2.1 ≤ m.2.1 := Nat.gcd_le_right _ pm
    have eg : Int.gcd ((lcmN 1 (L.take i) : Nat) : Int) ((m.2.1 : Nat) : Int) = Nat.gcd (lcmN 1 (L.take i)) m.2.1 := rfl
    refine ⟨_, rfl, _, rfl, m.1, _, _, _, rfl, rfl, SqT.of hn, rfl, _, _, rfl, rfl, .inr ⟨by omega, by omega⟩, _, rfl, _, rfl, m.1, _, _, _, rfl, rfl, SqT.of hn, rfl, _, _, rfl, _, _, rfl, rfl, ⟨by rw [eg]; omega, by rw [eg]; omega⟩, rfl, some (V.ref m.1), ?_⟩
    rw [tk]
    show [some (V.ref o), some (V.int ((((lcmN 1 (L.take i) : Nat) : Int) * ((m.2.1 : Nat) : Int)).fdiv ((Nat.gcd (lcmN 1 (L.take i)) m.2.1 : Nat) : Int))), some (V.ref m.1), none, none] = _
    rw [Int.fdiv_eq_ediv_of_nonneg _ (by omega), ← Int.natCast_mul, ← Int.natCast_ediv]
    rfl
  · rw [eo, List.length_map, List.take_length, eW]
  rintro σ H1 ⟨rfl, z, rfl⟩
  refine ⟨fun σ H' => H' = H1 ∧ σ = [some (.ref o), some (.int (W : Nat)), z, some (.int 1), none], ⟨rfl, rfl⟩, ?_⟩
  rintro σ H2 ⟨rfl, rfl⟩
  -- row after row
  refine ⟨fun m σ H' => Same H2 H' ∧ ∃ h : Nat, 1 ≤ h ∧ h ≤ Hh ∧ m = Hh - h ∧ ∃ z z4, σ = [some (.ref o), some (.int (W : Nat)), z, some (.int (h : Nat)), z4], ⟨_, Same.refl _, 1, Nat.le_refl _, by omega, rfl, _, _, rfl⟩, ?_⟩
  rintro m σ H3 ⟨s3, h, h1, hh, rfl, z, z4, rfl⟩
  refine ⟨true, rfl, iteT ⟨fun σ H' => ∃ m', m' < Hh - h ∧ Same H2 H' ∧ ∃ h : Nat, 1 ≤ h ∧ h ≤ Hh ∧ m' = Hh - h ∧ ∃ z z4, σ = [some (.ref o), some (.int (W : Nat)), z, some (.int (h : Nat)), z4], fun σ' H' h => h, ?_⟩⟩
  refine ⟨fun σ H' => Same H2 H' ∧ h < Hh ∧ ∃ z4, σ = [some (.ref o), some (.int (W : Nat)), z, some (.int (h : Nat)), z4], ⟨_, rfl, _, rfl, by omega, by omega, ?_⟩, ?_⟩
  · rw [show ((W : Nat) : Int).toNat = W by omega]
    refine for_it (walk_range (lo := 0) (n := W)) (fun i σ H' => Same H2 H' ∧ (∀ j, j < i → ¬ InL W R Hh (j : Nat) (h : Nat)) ∧ ∃ z4, σ = [some (.ref o), some (.int (W : Nat)), z, some (.int (h : Nat)), z4]) ⟨s3, fun j hj => absurd hj (Nat.not_lt_zero _), _, rfl⟩ (fun _ _ _ _ _ => trivial) (fun i x σ H4 H5 hi ⟨s4, no, z4, eo⟩ hy => ?_) (fun σ H' ⟨s4, no, z4, eo⟩ => ⟨s4, ?_, z4, eo⟩)
    · subst eo
      obtain ⟨rfl, rfl⟩ := hy
      have ho4 := s4 _ _ ho
      refine ⟨_, rfl, o, rfl, ⟨_, SqL.of ho4⟩, fun D hD => lc_it (walk_list (K := K) (a := o) (xs := L.map fun m => V.ref m.1)) (fun j H' => Same H5 H' ∧ ∃ N : List Nt, H' D = some (.lst (N.map fun m => V.ref m.1)) ∧ (∀ m ∈ N, m ∈ L) ∧ N.length ≤ j ∧ (N = [] ↔ ∀ m ∈ L.take j, InL m.2.1 m.2.2.1 m.2.2.2 (i : Nat) (h : Nat)))
        ⟨same_new hD, [], upd_same, fun m hm => (by cases hm), Nat.le_refl _, ⟨fun _ m hm => (by cases hm), fun _ => rfl⟩⟩ (fun j H' _ ⟨s', _⟩ => SqL.of (s' _ _ ho4)) (fun j x H6 H7 hj ⟨s6, N, hN, mN, lN, eN⟩ hy => ?_) (fun H' ⟨s6, N, hN, mN, lN, eN⟩ => ?_)⟩
      · obtain ⟨rfl, hx⟩ := hy
        rw [List.getElem?_map] at hx
        obtain ⟨m, hm, rfl⟩ := Option.map_eq_some_iff.mp hx
        have mm := List.mem_of_getElem? hm
        obtain ⟨okm, b1, b2⟩ := okL m mm
        have tk : L.take (j + 1) = L.take j ++ [m] := by rw [List.take_succ, hm]; rfl
        have sA := s4.trans s6
        refine ⟨rfl, _, rfl, _, rfl, _, rfl, two_line, fun q hq => ⟨m.1, q, m.2.1, m.2.2.1, m.2.2.2, ((0 : Int) + (i : Nat)), (h : Nat), rfl, NtAt.same (NtAt.same (hL m mm) sA) (same_new hq), upd_same, okm, by omega, by omega, fun r hr2 => ⟨two_line, fun z hz => ?_⟩⟩⟩
        have sq := same_new (o := .tup [V.int ((0 : Int) + (i : Nat)), V.int (h : Nat)]) hq
        have sr := same_new (o := .tup [V.int (lowX m.2.1 m.2.2.1 m.2.2.2 ((0 : Int) + (i : Nat)) (h : Nat)), V.int (lowY m.2.2.2 (h : Nat))]) hr2
        have sz := same_new (o := .tup [V.int 0, V.int 0]) hz
        have s9 := (sq.trans sr).trans sz
        refine ⟨encP (lowX m.2.1 m.2.2.1 m.2.2.2 ((0 : Int) + (i : Nat)) (h : Nat), lowY m.2.2.2 (h : Nat)), encP (0, 0), dp_pl (sz _ _ upd_same), dp_pl upd_same, encP_shaped _, encP_shaped _, _, rfl, ?_⟩
        rw [encP_eqv]
        have hN9 := s9 _ _ hN
        have zz : (lowX m.2.1 m.2.2.1 m.2.2.2 ((0 : Int) + (i : Nat)) (h : Nat) = 0 ∧ lowY m.2.2.2 (h : Nat) = 0) ↔ InL m.2.1 m.2.2.1 m.2.2.2 (i : Nat) (h : Nat) := by
          rw [Int.zero_add]; exact low_zero okm _ _
        refine ite2 (fun q => ⟨_, rfl, _, hN9, ?_, fun b' o' e' => ?_, N ++ [m], by rw [upd_same, List.map_append]; rfl, fun p' hp' => ?_, by rw [List.length_append]; show N.length + 1 ≤ j + 1; omega, ?_⟩) (fun q => ⟨s6.trans s9, N, hN9, mN, by omega, ?_⟩)
        · rw [List.length_map]
          rw [List.length_map] at hj
          exact lt_line (by omega)
        · rw [upd_ne (ne_of_none e' hD)]
          exact s9 _ _ (s6 _ _ e')
        · rcases List.mem_append.mp hp' with k | k
          · exact mN p' k
          · rw [List.mem_singleton.mp k]; exact mm
        · constructor
          · intro e; cases N <;> cases e
          · intro all
            have hi := zz.mpr (all m (by rw [tk]; exact List.mem_append_right _ (List.mem_singleton.mpr rfl)))
            rw [hi.1, hi.2] at q
            exact absurd q (by decide)
        · rw [tk]
          have hin : InL m.2.1 m.2.2.1 m.2.2.2 (i : Nat) (h : Nat) := by
            have q2 : decide ((lowX m.2.1 m.2.2.1 m.2.2.2 ((0 : Int) + (i : Nat)) (h : Nat), lowY m.2.2.2 (h : Nat)) = ((0 : Int), (0 : Int))) = true := by simpa using q
            have q3 := of_decide_eq_true q2
            exact zz.mp ⟨(Prod.ext_iff.mp q3).1, (Prod.ext_iff.mp q3).2⟩
          rw [eN]
          constructor
          · intro all m' hm'
            rcases List.mem_append.mp hm' with k | k
            · exact all m' k
            · rw [List.mem_singleton.mp k]; exact hin
          · intro all m' hm'
            exact all m' (List.mem_append_left _ hm')
      · rw [List.length_map, List.take_length] at eN
        refine ⟨Nat.zero_le _, fun z hz => ?_⟩
        have sz := same_new (o := .lst ([] : List V)) hz
        refine ⟨PyData.list (N.map fun (p : Nt) => encN p.2), .list [], .lst (SqL.of (sz _ _ hN)) (dp_nts fun m hm => ((hL m (mN m hm)).same ((s4.trans s6).trans sz))), .lst (SqL.of upd_same) .nil, ?_, by decide +kernel, _, rfl, ?_⟩
        · have := nts_shaped (N.map (·.2))
          rw [List.map_map] at this
          exact this
        have ee : PyData.eqv (PyData.list (N.map fun (p : Nt) => encN p.2)) (.list []) = N.isEmpty := by cases N <;> rfl
        rw [ee]
        refine ite2 (fun q => ?_) (fun q => ?_)
        · have e : N = [] := List.isEmpty_iff.mp q
          have hin : InL W R Hh (i : Nat) (h : Nat) := (iff _ _).mpr (eN.mp e)
          obtain ⟨eh, ei⟩ := (found_at ok h1 hh hi).mp hin
          subst eh ei
          refine ⟨_, rfl, _, rfl, _, rfl, three_line, fun r hr2 => kk _ r (((s4.trans s6).trans sz).trans (same_new hr2)) ?_⟩
          show upd _ r _ r = _
          rw [upd_same]
          show some (HO.tup [V.int (W : Nat), V.int ((0 : Int) + (i : Nat)), V.int (h : Nat)]) = _
          rw [Int.zero_add]
        · refine ⟨(s4.trans s6).trans sz, fun j hj hin => ?_, _, rfl⟩
          by_cases e : j < i
          · exact no j e hin
          · have e2 : j = i := by omega
            subst e2
            exact q (by rw [eN.mpr ((iff _ _).mp hin)]; rfl)
    · by_cases e : h < Hh
      · exact e
      · exfalso
        have e2 : h = Hh := by omega
        exact no R hR ((found_at ok h1 hh hR).mpr ⟨e2, rfl⟩)
  rintro σ H4 ⟨s4, lt, z4, rfl⟩
  exact ⟨_, rfl, _, _, rfl, rfl, Hh - (h + 1), by omega, s4, h + 1, by omega, by omega, rfl, _, _, by rw [Int.natCast_add]; rfl⟩
end
end CpR
set_option Elab.async false
set_option linter.all false
set_option maxRecDepth 100000
set_option maxHeartbeats 2000000
/-! CrH: dict(list of pairs), the keys rows. -/
namespace CpR
open PySem PySem.Spec PyProof.Rows L2 CpS
theorem row_ne {P : Program} {w : World} {h : Heap} {k : List Key} {b c : Addr} {o : Obj} (x : RowAt P w h k b) (e : h.get? c = some o) (n : o.cls ≠ .type "tuple") : b ≠ c := fun q => by
  obtain ⟨o', its, m, h1, h2, _⟩ := x
  rw [q, e] at h1
  cases Option.some.inj h1
  exact n h2
theorem dh_keep {P : Program} {w : World} {h h' : Heap} {S : Addr} {xs : List (List Key × Addr × Value)} (m : h.DictOfH (tupleKind (mixKind P w)) S xs) (hS : ∀ o, h.get? S = some o → h'.get? S = some o) (hk : ∀ x ∈ xs, ∀ o, h.get? x.2.1 = some o → h'.get? x.2.1 = some o) : h'.DictOfH (tupleKind (mixKind P w)) S xs := by
  obtain ⟨o, es, ep, ho, hc, hd, he, his, hn⟩ := m
  exact ⟨o, es, ep, hS o ho, hc, hd, he, fun x hx => row_keep (his x hx) (hk x hx), hn⟩
def mergedH (acc : List (List Key × Addr × Value)) : List (List Key × Addr × Value) → List (List Key × Addr × Value)
  | [] => acc
  | q :: rest => mergedH (storedH acc q.1 q.2.1 q.2.2) rest
theorem storedH_le (xs : List (List Key × Addr × Value)) (k : List Key) (a : Addr) (v : Value) : (storedH xs k a v).length ≤ xs.length + 1 := by
  unfold storedH
  split
  · rw [List.length_map]; omega
  · rw [List.length_append]; exact Nat.le_refl _
section
variable {prog : Program} {w : World} {A : Around} {E : Value → Shared → Prop}
theorem upd_loopT {R : Result → Shared → Prop} {S I l : Addr} {items : Array Value} {res : Value} (hu : A.units + 1 < cLine) (hh : A.handled = none) (hlI : l ≠ I) (hSI : S ≠ I) (hSl : S ≠ l) :
    ∀ (rest : List (List Key × Addr × Value)) (i : Nat) (acc : List (List Key × Addr × Value)) (ix : Int) (t : Tok) (s : Shared), items.size = i + rest.length → acc.length + rest.length ≤ sizeLine →
      (∀ (j : Nat) (q : List Key × Addr × Value), rest[j]? = some q → ∃ (b : Addr), items[i + j]? = some (.ref b) ∧ b ≠ S ∧ b ≠ I ∧ IsTup s.heap b #[.ref q.2.1, q.2.2] ∧ RowAt prog w s.heap q.1 q.2.1) →
      s.heap.IsListIter I l i → s.heap.IsList l items → s.heap.DictOfH (tupleKind (mixKind prog w)) S acc →
      (∀ h' tk, h'.DictOfH (tupleKind (mixKind prog w)) S (mergedH acc rest) → (∀ b o, b ≠ S → b ≠ I → s.heap.get? b = some o → h'.get? b = some o) → R (.ok (.ret res)) { s with heap := h', toks := tk }) →
      codeAny (model prog w) A (.builtin "dict.update.loop" ⟨[.ref S, .ref I, .int ix t, res], []⟩) R s
  | [], i, acc, ix, t, s, hsz, hln, ht, hit, hl, hm, hR => by
    refine codeAny_builtin ud_entry ?_
    rw [Around.under_plainId ud_plain _]
    show wpAny _ A.in1 (pyNext (.ref I) >>= _) _ _ s
    obtain ⟨oi, hoi, hci, hdi⟩ := id hit
    refine wpAny_bind (wpAny_pyNext_list_end (A := A.in1) hh hit hl (by first | exact Array.getElem?_eq_none (Nat.le_of_eq hsz) | (simp at hsz; simp; omega)) fun h' he => ?_)
    show wpAny _ A.in1 (Builtin.Dict.addKeywords S [] >>= _) _ _ _
    refine wpAny_bind (wpAny_pure (wpAny_pure ?_))
    refine hR h' s.toks (dh_keep hm (fun o e => he _ _ hSI e) fun x hx o e => he _ _ ?_ e) fun b o _ hb e => he b o hb e
    obtain ⟨_, _, _, _, _, _, _, his, _⟩ := id hm
    exact row_ne (his x hx) hoi (by rw [hci]; decide)
  | q :: rest, i, acc, ix, t, s, hsz, hln, ht, hit, hl, hm, hR => by
    obtain ⟨b, hb, hbS, hbI, htup, hk⟩ := ht 0 q rfl
    rw [List.length_cons] at hsz hln
    obtain ⟨oi, hoi, hci, hdi⟩ := id hit
    obtain ⟨oS, esS, epS, hoS, hcS, hdS, heS, hisS, hnS⟩ := id hm
    have kI : ∀ {k : List Key} {c : Addr}, RowAt prog w s.heap k c → c ≠ I := fun x => row_ne x hoi (by rw [hci]; decide)
    have kS : ∀ {k : List Key} {c : Addr}, RowAt prog w s.heap k c → c ≠ S := fun x => row_ne x hoS (by rw [hcS.1]; decide)
    refine codeAny_builtin ud_entry ?_
    rw [Around.under_plainId ud_plain _]
    show wpAny _ A.in1 (pyNext (.ref I) >>= _) _ _ s
    refine wpAny_bind (wpAny_pyNext_list_item (x := .ref b) hit hl (by simpa using hb) fun h1 hit1 hs1 => ?_)
    have ht1 : IsTup h1 b #[.ref q.2.1, q.2.2] := htup.extBut hs1.extBut hbI
    have hl1 : h1.IsList l items := hl.extBut hs1.extBut hlI
    have row1 : ∀ {k : List Key} {c : Addr}, RowAt prog w s.heap k c → RowAt prog w h1 k c := fun x => row_keep x fun o e => hs1.extBut _ _ (kI x) e
    have hm1 : h1.DictOfH (tupleKind (mixKind prog w)) S acc := dh_keep hm (fun o e => hs1.extBut _ _ hSI e) fun x hx o e => hs1.extBut _ _ (kI (hisS x hx)) e
    obtain ⟨o, ho, hc, n, hd⟩ := id ht1
    show wpAny _ A.in1 (holding [Value.ref b] _ >>= _) _ _ _
    refine wpAny_bind (wpAny_holding ?_)
    refine wpAny_bind (wpAny_tryCatch ?_)
    unfold Builtin.Dict.pairItems
    refine wpAny_bind (wpAny_typeOf (T := "tuple") ⟨o, ho, hc⟩ ?_)
    rw [if_pos (by first | decide | rfl | simp)]
    refine wpAny_bind (wpAny_seqItems ho hd (wpAny_pure ?_))
    show wpAny _ _ (holding [Value.ref q.2.1, q.2.2] (dictSet S (Value.ref q.2.1) q.2.2)) _ _ _
    refine wpAny_holding (wpAny_dictSet_heap (knd := tupleKind (mixKind prog w)) (k := q.1) hu (row1 hk) hm1 (fun h2 hm2 hs2 => ?_) (by omega))
    refine wpAny_pure ⟨plainId_quiet ud_plain _, upd_loopT (items := items) hu hh hlI hSI hSl rest (i + 1) (storedH acc q.1 q.2.1 q.2.2) (ix + 1) 0 _ (show items.size = i + 1 + rest.length by omega) ?_ (fun j q' e => ?_) ?_ ?_ hm2 fun h' tk hd' k => ?_⟩
    · have z := storedH_le acc q.1 q.2.1 q.2.2
      omega
    · obtain ⟨b', hb', hbS', hbI', htup', hk'⟩ := ht (j + 1) q' (by simpa using e)
      refine ⟨b', ?_, hbS', hbI', (htup'.extBut hs1.extBut hbI').extBut hs2.extBut hbS', row_keep (row1 hk') fun o e => hs2.extBut _ _ (kS hk') e⟩
      rw [show i + 1 + j = i + (j + 1) by omega]
      exact hb'
    · exact hit1.at fun o' e => hs2.extBut I o' (Ne.symm hSI) e
    · exact hl1.extBut hs2.extBut (Ne.symm hSl)
    · exact hR h' tk hd' fun c oc h3 h4 e => k c oc h3 h4 (hs2.extBut c oc h3 (hs1.extBut c oc h4 e))
theorem call_dict_rows {s : Shared} {l : Addr} {ol : Obj} {items : Array Value} {n : Nat} {prs : List (List Key × Addr × Value)} {Q : Value → Shared → Prop} (hu : A.units + 2 < cLine) (hh : A.handled = none) (hl : s.heap.get? l = some ol) (hc : ol.cls = .type "list") (hd : ol.dict = none)
    (hdat : ol.data = .seq items n) (hsz : items.size = prs.length) (hln : prs.length ≤ sizeLine)
    (ht : ∀ (j : Nat) (q : List Key × Addr × Value), prs[j]? = some q → ∃ (b : Addr), items[j]? = some (.ref b) ∧ IsTup s.heap b #[.ref q.2.1, q.2.2] ∧ RowAt prog w s.heap q.1 q.2.1)
    (h : ∀ h' tk, h'.DictOfH (tupleKind (mixKind prog w)) s.heap.objs.size (mergedH [] prs) → (∀ b o, s.heap.get? b = some o → h'.get? b = some o) → Q (.ref s.heap.objs.size) { s with heap := h', toks := tk }) :
    wpAny (model prog w) A (call (.type "dict") [.ref l]) Q E s := by
  refine callType_codes (Q₁ := fun obj s₁ => obj = .ref s.heap.objs.size ∧ s₁ = { s with heap := s.heap.push { cls := .type "dict", data := .dict #[] } }) PySem.F.kt_called_dict (PySem.F.kt_typeCall_dict_1 _) PySem.F.entry_dict_init (kt_code_dict_new _ ⟨rfl, rfl⟩) ?_
  rintro obj s₁ ⟨rfl, rfl⟩
  have hnew : (s.heap.push { cls := .type "dict", data := .dict #[] }).DictOfH (tupleKind (mixKind prog w)) s.heap.objs.size [] := Heap.DictOfH.new s.heap
  have k0 : ∀ b o, s.heap.get? b = some o → (s.heap.push { cls := .type "dict", data := .dict #[] }).get? b = some o := fun b o e => Heap.get?_push_of_some _ e
  have hty : ({ s with heap := s.heap.push { cls := .type "dict", data := .dict #[] } } : Shared).TypeIs (.ref s.heap.objs.size) "dict" := Heap.DictOfH.typeIs (s := { s with heap := s.heap.push { cls := .type "dict", data := .dict #[] } }) hnew
  refine ⟨hty, PySem.F.args_dict_init_2 _ _, ?_⟩
  unfold Builtin.«dict.__init__»
  refine wpAny_bind ?_
  unfold Builtin.Dict.selfAndRest
  refine wpAny_bind (wpAny_notOrdered_dict hty ?_)
  show wpAny _ _ (pure (s.heap.objs.size, [Value.ref l])) _ _ _
  refine wpAny_pure ?_
  show wpAny _ _ (Builtin.Dict.updateFrom "dict.__init__" s.heap.objs.size (.ref l) [] .none) _ _ _
  unfold Builtin.Dict.updateFrom
  refine wpAny_bind (wpAny_typeOf (T := "list") ⟨ol, k0 _ _ hl, hc⟩ ?_)
  rw [if_pos (by first | decide | rfl | simp)]
  refine wpAny_bind (miss_list (k0 _ _ hl) hc hdat hd hh fun h1 tk1 hk1 => ?_)
  rw [if_pos (show (none : Option Value).isNone = true from rfl)]
  refine wpAny_bind (wpAny_rule ?_)
  have hl1 : h1.IsList l items := ⟨ol, hk1 _ _ (k0 _ _ hl), hc, n, hdat⟩
  have hS1 : s.heap.objs.size < h1.objs.size := by
    have e : (s.heap.push { cls := .type "dict", data := .dict #[] }).get? s.heap.objs.size = some { cls := .type "dict", data := .dict #[] } := Heap.get?_push_size _ rfl
    exact Heap.lt_size (hk1 _ _ e)
  refine wpAny_bind (wpAny_pyIter_list hl1 ?_)
  have k2 : ∀ b o, h1.get? b = some o → (h1.push { cls := .type "list_iterator", data := .fields #[.ref l, .int 0 0] }).get? b = some o := fun b o e => Heap.get?_push_of_some _ e
  have hlt : l < s.heap.objs.size := Heap.lt_size hl
  have key := upd_loopT (prog := prog) (w := w) (A := A.in1) (R := wants (fun r s₂ => r = .none ∧ Q (.ref s.heap.objs.size) s₂) E) (S := s.heap.objs.size) (I := h1.objs.size) (l := l) (items := items) (res := Value.none) hu hh
    (Nat.ne_of_lt (Nat.lt_trans hlt hS1)) (Nat.ne_of_lt hS1) (Nat.ne_of_gt hlt) prs 0 [] 0 0
    { s with heap := h1.push { cls := .type "list_iterator", data := .fields #[.ref l, .int 0 0] }, toks := tk1 } (by rw [hsz, Nat.zero_add]) (by rw [List.length_nil, Nat.zero_add]; exact hln)
    (fun j q e => by
      obtain ⟨b, e1, e2, e3⟩ := ht j q e
      have hb : b < s.heap.objs.size := e2.lt
      exact ⟨b, by rw [Nat.zero_add]; exact e1, Nat.ne_of_lt hb, Nat.ne_of_lt (Nat.lt_trans hb hS1), e2.keeps fun c o z => k2 _ _ (hk1 _ _ (k0 _ _ z)), row_keep e3 fun o z => k2 _ _ (hk1 _ _ (k0 _ _ z))⟩)
    ⟨_, Heap.get?_push_size _ rfl, rfl, rfl⟩ (hl1.at fun o e => k2 _ _ e) (dh_keep hnew (fun o e => k2 _ _ (hk1 _ _ e)) fun x hx => (by cases hx))
    (fun h' tk hd' k => ⟨rfl, h h' tk hd' fun b o e => k b o (Nat.ne_of_lt (Heap.lt_size e)) (Nat.ne_of_lt (Nat.lt_trans (Heap.lt_size e) hS1)) (k2 _ _ (hk1 _ _ (k0 _ _ e)))⟩)
  first
    | exact wpAny_pure ⟨plainId_quiet ud_plain _, key⟩
    | exact wpAny_bind (wpAny_pure (wpAny_pure ⟨plainId_quiet ud_plain _, key⟩))
end
section
variable {X : Cx}
def mergeT (kvs : List (List Key × V)) (more : List (List Key × V)) : List (List Key × V) := more.foldl (fun acc kv => putK acc kv.1 kv.2) kvs
theorem length_mergeT : ∀ (more kvs : List (List Key × V)), (mergeT kvs more).length ≤ kvs.length + more.length
  | [], kvs => by show kvs.length ≤ kvs.length + 0; omega
  | p :: r, kvs => by
    have h1 := length_mergeT r (putK kvs p.1 p.2)
    have h2 := length_putK kvs p.1 p.2
    show (mergeT (putK kvs p.1 p.2) r).length ≤ _
    rw [List.length_cons]; omega
/-- an item of the list: the pair's tuple at p.1, its key's tuple at p.2 -/
abbrev PairT (K : PySem.W.Frag) (H : Hp) (p : Addr × Addr) (kv : List Key × V) : Prop := H p.1 = some (.tup [.ref p.2, kv.2]) ∧ H p.2 = some (.tup (kv.1.map kV))
theorem KT.mergeT {H : Hp} : ∀ {more : List (List Key × V)} {rs : List (List Key × Addr × Value)} {kvs : List (List Key × V)} {vs : List (List Key × Addr × Value)}, KT H more rs → KT H kvs vs → KT H (mergeT kvs more) (mergedH vs rs) := by
  intro more rs kvs vs r
  unfold KT at r
  induction r generalizing kvs vs with
  | nil => intro q; exact q
  | @cons p q ps qs h t ih =>
    intro r0
    refine ih ?_
    have z := r0.put p.1 h.2.1 h.2.2
    show KT H (putK kvs p.1 p.2) (storedH vs q.1 q.2.1 q.2.2)
    rw [← h.1]
    exact z
theorem pairsT_of {pins : List (Addr × Obj)} {σ : L2.St} {H : Hp} {s : Shared} (I : Inv X pins σ H s) : ∀ {ps : List (Addr × Addr)} {kvs : List (List Key × V)}, Paired (PairT X.K H) ps kvs →
    ∃ prs : List (List Key × Addr × Value), KT H kvs prs ∧ prs.length = ps.length ∧ ∀ (j : Nat) (q : List Key × Addr × Value), prs[j]? = some q → ∃ b, (ps[j]?).map (·.1) = some b ∧ IsTup s.heap b #[.ref q.2.1, q.2.2] ∧ RowAt X.prog X.w s.heap q.1 q.2.1
  | _, _, .nil => ⟨[], .nil, rfl, fun j q e => by simp at e⟩
  | _, _, .cons (a := p) (b := kv) h t => by
    obtain ⟨prs, r, hl, hp⟩ := pairsT_of I t
    obtain ⟨its, rv, ht, _⟩ := I.tuple (SqT.of (K := X.K) h.1)
    obtain ⟨u, y, ei, ru, ry⟩ := vals2 rv
    subst ei
    obtain rfl : u = Value.ref p.2 := ru
    refine ⟨(kv.1, p.2, y) :: prs, .cons ⟨rfl, h.2, ry⟩ r, by rw [List.length_cons, List.length_cons, hl], fun j q e => ?_⟩
    cases j with
    | zero =>
      have e' : (kv.1, p.2, y) = q := Option.some.inj e
      subst e'
      exact ⟨p.1, rfl, ht, rowAt_of I (SqT.of h.2)⟩
    | succ j =>
      obtain ⟨b, e1, e2, e3⟩ := hp j q (by simpa using e)
      exact ⟨b, by simpa using e1, e2, e3⟩
/-- dict(xs) of a list of pairs (row, value) -/
def rDictT : List V → Hp → VK → Prop := fun xs H Q => ∃ (a : Addr) (ps : List (Addr × Addr)) (kvs : List (List Key × V)), xs = [.ref a] ∧ H a = some (.lst (ps.map fun p => V.ref p.1)) ∧ Paired (PairT X.K H) ps kvs ∧
    ∀ p, H p = none → Q (.ref p) (upd H p (.dT (mergeT [] kvs)))
theorem call_dictPT (hcalm : X.calm = true) (hu : X.A.units + 2 < cLine) : CallR X (.type "dict") (rDictT (X := X)) := by
  intro pins s σ H xs us Q I r q
  obtain ⟨a, ps, kvs, ex, hq, hp, q⟩ := q
  subst ex
  obtain ⟨u, eu, rx⟩ := vals1 r
  subst eu
  cases rx
  obtain ⟨its, rv, pl, hz⟩ := I.list (SqL.of (K := X.K) hq)
  have ei : its = ps.map fun p => Value.ref p.1 := by
    have := refs_at (ps := ps.map (·.1)) (us := its) (by rw [List.map_map]; exact rv)
    rw [List.map_map] at this
    exact this
  subst ei
  rw [List.length_map] at hz
  obtain ⟨prs, rel, hl, hpr⟩ := pairsT_of I hp
  obtain ⟨o, n, ho, hc, hd, hdat⟩ := pl
  refine call_dict_rows (prs := prs) hu (I.ok.hd hcalm) ho hc hd hdat (by simp [hl]) (by rw [hl]; exact hz) (fun j q' e => ?_) fun h' tk hd' k => ?_
  · obtain ⟨b, e1, e2, e3⟩ := hpr j q' e
    obtain ⟨p, ep, eb⟩ := Option.map_eq_some_iff.mp e1
    exact ⟨b, by simp [ep, eb], e2, e3⟩
  · have hm : (s.heap.objs.size == sysModules) = false := beq_eq_false_iff_ne.mpr (Nat.ne_of_gt I.big)
    have hlen : (mergeT [] kvs).length ≤ sizeLine := by
      refine Nat.le_trans (length_mergeT kvs []) ?_
      rw [List.length_nil, Nat.zero_add, Paired.length rel, hl]
      exact hz
    have fr := I.hok.fresh (Nat.le_refl s.heap.objs.size)
    obtain ⟨q', es, ep, hq', h2, h3, h4, _, h5⟩ := hd'
    refine ⟨.ref s.heap.objs.size, upd H s.heap.objs.size (.dT (mergeT [] kvs)), I.laid (t' := tk) k (Nat.le_refl _) (show ObjOk X.prog X.w _ _ _ (.dT (mergeT [] kvs)) from ⟨hlen, hm, _, (KT.mergeT rel .nil).keeps fun c ys ec => ?_, q', es, ep, hq', h2, h3, h4, h5⟩), rfl, q _ fr⟩
    rw [upd_ne (ne_of_none ec fr)]
    exact ec
end
end CpR
set_option Elab.async false
set_option linter.all false
set_option maxRecDepth 100000
set_option maxHeartbeats 1000000
/-! M04: joining until nothing changes. Plain. -/
namespace CpM
def Reach (n : Nat) (S : Nat → Nat → Prop) : Nat → Nat → Nat → Prop
  | 0, v, u => v = u
  | t + 1, v, u => ∃ k, k < n ∧ S v k ∧ Reach n S t k u
structure Rel (n : Nat) (S : Nat → Nat → Prop) : Prop where
  rf : ∀ i, i < n → S i i
  sy : ∀ i j, S i j → S j i
def Conn (n : Nat) (S : Nat → Nat → Prop) (v u : Nat) : Prop := ∃ t, Reach n S t v u
section
variable {n : Nat} {S : Nat → Nat → Prop}
theorem Reach.lt : ∀ {t v u : Nat}, v < n → Reach n S t v u → u < n
  | 0, v, u, hv, h => by rw [← show v = u from h]; exact hv
  | t + 1, v, u, hv, ⟨k, hk, _, r⟩ => Reach.lt (t := t) hk r
theorem Reach.up (R : Rel n S) : ∀ {t v u : Nat}, v < n → Reach n S t v u → Reach n S (t + 1) v u
  | 0, v, u, hv, h => ⟨v, hv, R.rf v hv, h⟩
  | t + 1, v, u, hv, ⟨k, hk, s, r⟩ => ⟨k, hk, s, Reach.up R hk r⟩
theorem Reach.mono (R : Rel n S) {t v u : Nat} (hv : v < n) (h : Reach n S t v u) : ∀ d, Reach n S (t + d) v u
  | 0 => h
  | d + 1 => Reach.up R hv (Reach.mono R hv h d)
theorem Reach.trans : ∀ {t s v u x : Nat}, Reach n S t v u → Reach n S s u x → Reach n S (t + s) v x
  | 0, s, v, u, x, h, h' => by rw [show v = u from h, Nat.zero_add]; exact h'
  | t + 1, s, v, u, x, ⟨k, hk, a, r⟩, h' => by
    rw [show t + 1 + s = (t + s) + 1 by omega]
    exact ⟨k, hk, a, Reach.trans r h'⟩
theorem Reach.snoc {t v k u : Nat} (h : Reach n S t v k) (hu : u < n) (s : S k u) : Reach n S (t + 1) v u := Reach.trans (s := 1) h ⟨u, hu, s, rfl⟩
theorem Reach.last : ∀ {t v u : Nat}, v < n → Reach n S (t + 1) v u → ∃ k, k < n ∧ Reach n S t v k ∧ S k u
  | 0, v, u, hv, ⟨k, hk, s, r⟩ => ⟨v, hv, rfl, by rw [← show k = u from r]; exact s⟩
  | t + 1, v, u, hv, ⟨k, hk, s, r⟩ => by
    obtain ⟨m, hm, r', s'⟩ := Reach.last (t := t) hk r
    exact ⟨m, hm, ⟨k, hk, s, r'⟩, s'⟩
theorem Reach.symm (R : Rel n S) : ∀ {t v u : Nat}, v < n → Reach n S t v u → Reach n S t u v
  | 0, v, u, hv, h => Eq.symm h
  | t + 1, v, u, hv, ⟨k, hk, s, r⟩ => Reach.snoc (Reach.symm R hk r) hv (R.sy _ _ s)
theorem Conn.refl (v : Nat) : Conn n S v v := ⟨0, rfl⟩
theorem Conn.symm (R : Rel n S) {v u : Nat} (hv : v < n) (h : Conn n S v u) : Conn n S u v := let ⟨t, r⟩ := h; ⟨t, r.symm R hv⟩
theorem Conn.trans {v u x : Nat} (h : Conn n S v u) (h' : Conn n S u x) : Conn n S v x := let ⟨t, r⟩ := h; let ⟨s, r'⟩ := h'; ⟨t + s, r.trans r'⟩
theorem Conn.one {v u : Nat} (hu : u < n) (h : S v u) : Conn n S v u := ⟨1, u, hu, h, rfl⟩
theorem Conn.lt {v u : Nat} (hv : v < n) (h : Conn n S v u) : u < n := let ⟨_, r⟩ := h; r.lt hv
theorem nodup_len {α : Type} [DecidableEq α] : ∀ (l D : List α), l.Nodup → (∀ x ∈ l, x ∈ D) → l.length ≤ D.length
  | [], D, _, _ => Nat.zero_le _
  | x :: l, D, h, m => by
    obtain ⟨h1, h2⟩ := List.nodup_cons.mp h
    have mx := m x List.mem_cons_self
    have := nodup_len l (D.erase x) h2 fun y hy => by
      have ne : y ≠ x := fun e => h1 (by rw [← e]; exact hy)
      exact (List.mem_erase_of_ne ne).mpr (m y (List.mem_cons_of_mem _ hy))
    rw [List.length_erase_of_mem mx] at this
    have pos : 0 < D.length := List.length_pos_of_mem mx
    rw [List.length_cons]
    omega
open Classical in
theorem Reach.full (R : Rel n S) {v : Nat} (hv : v < n) : ∀ {u : Nat}, Conn n S v u → Reach n S n v u := by
  have key : ∀ t, (∀ u, Conn n S v u → Reach n S t v u) ∨ t + 1 ≤ ((List.range n).filter fun u => decide (Reach n S t v u)).length := by
    intro t
    induction t with
    | zero =>
      right
      have : v ∈ (List.range n).filter fun u => decide (Reach n S 0 v u) := List.mem_filter.mpr ⟨List.mem_range.mpr hv, decide_eq_true rfl⟩
      exact List.length_pos_of_mem this
    | succ t ih =>
      rcases ih with ih | ih
      · exact .inl fun u h => (ih u h).up R hv
      · by_cases stop : ∀ u, Reach n S (t + 1) v u → Reach n S t v u
        · left
          intro u ⟨s, r⟩
          have all : ∀ s u, Reach n S s v u → Reach n S t v u := by
            intro s
            induction s with
            | zero =>
              intro u h
              have := Reach.mono R hv (t := 0) (u := u) h t
              rwa [Nat.zero_add] at this
            | succ s ih2 =>
              intro u h
              obtain ⟨k, hk, r1, s1⟩ := h.last hv
              exact stop u ((ih2 k r1).snoc (h.lt hv) s1)
          exact (all s u r).up R hv
        · right
          obtain ⟨u, hu⟩ := Classical.not_forall.mp stop
          obtain ⟨h1, h2⟩ := Classical.not_imp.mp hu
          have nd : (u :: (List.range n).filter fun u => decide (Reach n S t v u)).Nodup := by
            refine List.nodup_cons.mpr ⟨fun m => h2 (of_decide_eq_true (List.mem_filter.mp m).2), List.nodup_range.filter _⟩
          have := nodup_len _ ((List.range n).filter fun u => decide (Reach n S (t + 1) v u)) nd fun x hx => by
            rcases List.mem_cons.mp hx with e | hx
            · rw [e]
              exact List.mem_filter.mpr ⟨List.mem_range.mpr (h1.lt hv), decide_eq_true h1⟩
            · obtain ⟨a, b⟩ := List.mem_filter.mp hx
              exact List.mem_filter.mpr ⟨a, decide_eq_true ((of_decide_eq_true b).up R hv)⟩
          rw [List.length_cons] at this
          omega
  intro u h
  rcases key n with k | k
  · exact k u h
  · have := List.length_filter_le (fun u => decide (Reach n S n v u)) (List.range n)
    rw [List.length_range] at this
    omega
/-- what stands within a round t, at the row i, behind j others -/
structure GInv (n : Nat) (S : Nat → Nat → Prop) (f : Nat → Nat) (t i j : Nat) : Prop where
  cn : ∀ v, v < n → Conn n S v (f v)
  all : ∀ v u, v < n → Reach n S t v u → f v ≤ u
  before : ∀ v u, v < i → v < n → Reach n S (t + 1) v u → f v ≤ u
  here : ∀ k u, k < j → k < n → S i k → Reach n S t k u → f i ≤ u
def joinF (f : Nat → Nat) (i j : Nat) : Nat → Nat := fun v => if v = i then min (f i) (f j) else f v
theorem joinF_le (f : Nat → Nat) (i j v : Nat) : joinF f i j v ≤ f v := by
  unfold joinF
  by_cases e : v = i
  · rw [if_pos e, e]; exact Nat.min_le_left _ _
  · rw [if_neg e]; exact Nat.le_refl _
theorem GInv.start : GInv n S (fun v => v) 0 0 0 :=
  ⟨fun v _ => Conn.refl v, fun v u _ h => by rw [show v = u from h]; exact Nat.le_refl _, fun v u h => absurd h (Nat.not_lt_zero _), fun k u h => absurd h (Nat.not_lt_zero _)⟩
theorem GInv.join {f : Nat → Nat} {t i j : Nat} (g : GInv n S f t i j) (hi : i < n) (hj : j < n) (s : S i j) : GInv n S (joinF f i j) t i (j + 1) := by
  refine ⟨fun v hv => ?_, fun v u hv r => Nat.le_trans (joinF_le f i j v) (g.all v u hv r), fun v u h hv r => Nat.le_trans (joinF_le f i j v) (g.before v u h hv r), fun k u hk hkn sk r => ?_⟩
  · unfold joinF
    by_cases e : v = i
    · rw [if_pos e]
      by_cases m : f i ≤ f j
      · rw [Nat.min_eq_left m, e]; exact g.cn i hi
      · rw [Nat.min_eq_right (by omega), e]
        exact (Conn.one hj s).trans (g.cn j hj)
    · rw [if_neg e]; exact g.cn v hv
  · by_cases e : k = j
    · subst e
      have h1 := g.all k u hkn r
      have : joinF f i k i ≤ f k := by unfold joinF; rw [if_pos rfl]; exact Nat.min_le_right _ _
      omega
    · exact Nat.le_trans (joinF_le f i j i) (g.here k u (by omega) hkn sk r)
theorem GInv.skip {f : Nat → Nat} {t i j : Nat} (g : GInv n S f t i j) (s : ¬ S i j) : GInv n S f t i (j + 1) :=
  ⟨g.cn, g.all, g.before, fun k u hk hkn sk r => by
    by_cases e : k = j
    · subst e; exact absurd sk s
    · exact g.here k u (by omega) hkn sk r⟩
theorem GInv.row {f : Nat → Nat} {t i : Nat} (g : GInv n S f t i n) : GInv n S f t (i + 1) 0 :=
  ⟨g.cn, g.all, fun v u h hv r => by
    by_cases e : v = i
    · subst e
      obtain ⟨k, hk, s, r'⟩ := r
      exact g.here k u hk hk s r'
    · exact g.before v u (by omega) hv r, fun k u h => absurd h (Nat.not_lt_zero _)⟩
theorem GInv.round {f : Nat → Nat} {t : Nat} (g : GInv n S f t n 0) : GInv n S f (t + 1) 0 0 :=
  ⟨g.cn, fun v u hv r => g.before v u hv hv r, fun v u h => absurd h (Nat.not_lt_zero _), fun k u h => absurd h (Nat.not_lt_zero _)⟩
theorem GInv.done (R : Rel n S) {f : Nat → Nat} (g : GInv n S f n 0 0) {v u : Nat} (hv : v < n) (hu : u < n) : f v = f u ↔ Conn n S v u := by
  have le : ∀ {v u : Nat}, v < n → Conn n S v u → f v ≤ f u := fun {v u} hv h => by
    have hu := h.lt hv
    exact g.all v (f u) hv (Reach.full R hv (h.trans (g.cn u hu)))
  constructor
  · intro e
    have h1 := g.cn v hv
    rw [e] at h1
    exact h1.trans ((g.cn u hu).symm R hu)
  · intro h
    exact Nat.le_antisymm (le hv h) (le hu (h.symm R hv))
end
/-! ### rows of colours -/
/-- the rows' links and the things' ties -/
structure RowsC (n q : Nat) (c : Nat → Nat → Nat) (T : Nat → Nat → Prop) : Prop where
  pos : 0 < q
  low : ∀ i p, i < n → p < q → c i p < 128
  pair : ∀ a b, T a b ↔ ∃ i p, i < n ∧ p < q ∧ a = c i 0 ∧ b = p * 128 + c i p
def ShareC (q : Nat) (c : Nat → Nat → Nat) (i j : Nat) : Prop := ∃ p, p < q ∧ c i p = c j p
section
variable {n q : Nat} {c : Nat → Nat → Nat} {T : Nat → Nat → Prop}
theorem RowsC.rel (h : RowsC n q c T) : Rel n (ShareC q c) := ⟨fun i _ => ⟨0, h.pos, rfl⟩, fun i j ⟨p, hp, e⟩ => ⟨p, hp, e.symm⟩⟩
/-- the thing a is in the row i -/
def InR (q : Nat) (c : Nat → Nat → Nat) (i a : Nat) : Prop := a / 128 < q ∧ c i (a / 128) = a % 128
theorem RowsC.inr (h : RowsC n q c T) {i p : Nat} (hi : i < n) (hp : p < q) : InR q c i (p * 128 + c i p) := by
  have := h.low i p hi hp
  have e1 : (p * 128 + c i p) / 128 = p := by omega
  have e2 : (p * 128 + c i p) % 128 = c i p := by omega
  refine ⟨by omega, ?_⟩
  rw [e1, e2]
theorem RowsC.in0 (h : RowsC n q c T) {i : Nat} (hi : i < n) : InR q c i (c i 0) := by
  have := h.inr hi h.pos
  rwa [Nat.zero_mul, Nat.zero_add] at this
theorem RowsC.tied (h : RowsC n q c T) {a b : Nat} (t : Tied T a b) : a = b ∨ ∃ i j, i < n ∧ j < n ∧ InR q c i a ∧ InR q c j b ∧ Conn n (ShareC q c) i j := by
  induction t with
  | pair m =>
    obtain ⟨i, p, hi, hp, rfl, rfl⟩ := (h.pair _ _).mp m
    exact .inr ⟨i, i, hi, hi, h.in0 hi, h.inr hi hp, Conn.refl i⟩
  | refl a => exact .inl rfl
  | symm _ ih =>
    rcases ih with e | ⟨i, j, hi, hj, a, b, k⟩
    · exact .inl e.symm
    · exact .inr ⟨j, i, hj, hi, b, a, k.symm h.rel hi⟩
  | trans _ _ i1 i2 =>
    rcases i1 with e | ⟨i, j, hi, hj, a, b, k⟩
    · rw [e]; exact i2
    · rcases i2 with e | ⟨i', j', hi', hj', a', b', k'⟩
      · rw [← e]; exact .inr ⟨i, j, hi, hj, a, b, k⟩
      · exact .inr ⟨i, j', hi, hj', a, b', k.trans ((Conn.one hi' ⟨_, b.1, b.2.trans a'.2.symm⟩).trans k')⟩
theorem RowsC.conn (h : RowsC n q c T) {i j : Nat} (hi : i < n) (hj : j < n) : Tied T (c i 0) (c j 0) ↔ Conn n (ShareC q c) i j := by
  constructor
  · intro t
    rcases h.tied t with e | ⟨i', j', hi', hj', a, b, k⟩
    · exact Conn.one hj ⟨0, h.pos, e⟩
    · have ai := h.in0 hi
      have bj := h.in0 hj
      exact (Conn.one hi' ⟨_, ai.1, ai.2.trans a.2.symm⟩).trans (k.trans (Conn.one hj ⟨_, b.1, b.2.trans bj.2.symm⟩))
  · rintro ⟨t, r⟩
    have one : ∀ i j, i < n → j < n → ShareC q c i j → Tied T (c i 0) (c j 0) := fun i j hi hj ⟨p, hp, e⟩ =>
      .trans (.pair ((h.pair _ _).mpr ⟨i, p, hi, hp, rfl, rfl⟩)) (.symm (.pair ((h.pair _ _).mpr ⟨j, p, hj, hp, rfl, by rw [e]⟩)))
    induction t generalizing i with
    | zero => rw [show i = j from r]; exact .refl _
    | succ t ih =>
      obtain ⟨k, hk, s, r'⟩ := r
      exact .trans (one i k hi hk s) (ih hk r')
/-- the least of what is tied to a first colour is a first colour of a linked row -/
theorem RowsC.least (h : RowsC n q c T) {i : Nat} (hi : i < n) {b : Nat} (t : Tied T (c i 0) b) : (∃ j, j < n ∧ Conn n (ShareC q c) i j ∧ c j 0 ≤ b) := by
  rcases h.tied t with e | ⟨i', j', hi', hj', a, bb, k⟩
  · exact ⟨i, hi, Conn.refl i, by rw [e]; exact Nat.le_refl _⟩
  · have ai := h.in0 hi
    refine ⟨j', hj', (Conn.one hi' ⟨_, ai.1, ai.2.trans a.2.symm⟩).trans k, ?_⟩
    have l := h.low j' 0 hj' h.pos
    by_cases z : b < 128
    · have e := bb.2
      rw [show b / 128 = 0 by omega, show b % 128 = b by omega] at e
      omega
    · omega
end
end CpM
set_option Elab.async false
set_option linter.all false
set_option maxRecDepth 100000
set_option maxHeartbeats 1000000
/-! F12: the law's groups of rows. -/
namespace CpR
open PySem PySem.Spec PyProof.Rows L2 CpM CpS
def rk (r : List Nat) : List Key := r.map kS
theorem rk_inj : ∀ {a b : List Nat}, rk a = rk b → a = b
  | [], [], _ => rfl
  | [], y :: b, h => by cases h
  | x :: a, [], h => by cases h
  | x :: a, y :: b, h => by
    injection h with h1 h2
    injection h1 with h1
    rw [sign_inj h1, rk_inj h2]
theorem rk_len (r : List Nat) : (rk r).length = r.length := List.length_map ..
theorem rk_shp (r : List Nat) : shp (rk r) = List.replicate r.length false := by
  rw [rk, shp, List.map_map]
  induction r with
  | nil => rfl
  | cons x r ih => rw [List.map_cons, ih]; rfl
theorem rk_V (r : List Nat) : (rk r).map kV = r.map fun c => V.str (sign c) := by
  rw [rk, List.map_map]; rfl
section
variable {P : Program} {w : World} {K : PySem.W.Frag} {H : Hp}
/-- what sorted(set(rows)) gives -/
theorem sort_set_rows {RL L Y : Rw} {KS : List (List Key)} {sh : List Bool} {a r : Addr} (hRL : RowsH H RL) (hsh : ∀ p ∈ RL, shp p.2 = sh) (srt : KS.Pairwise fun a b => rLt b a = false) (nd : KS.Nodup) (iff : ∀ k, k ∈ KS ↔ k ∈ RL.map (·.2))
    (ha : H a = none) (h1 : ∀ p ∈ L, p ∈ RL) (h2 : ∀ p ∈ RL, p.2 ∈ L.map (·.2)) (pm : Y.Perm L) (ndY : (Y.map (·.2)).Nodup) (sr : SrtR Y) (hr : upd H a (SetRO P w a L) r = none) :
    Same H (upd (upd H a (SetRO P w a L)) r (.lst (Y.map fun q => V.ref q.1))) ∧ H r = none ∧ RowsH (upd (upd H a (SetRO P w a L)) r (.lst (Y.map fun q => V.ref q.1))) Y ∧ Y.map (·.2) = KS := by
  have s1 := same_new (o := SetRO P w a L) ha
  have hL : RowsH (upd H a (SetRO P w a L)) L := fun p hp => s1 _ _ (hRL p (h1 p hp))
  have hY : RowsH (upd H a (SetRO P w a L)) Y := fun q hq => hL q (pm.mem_iff.mp hq)
  refine ⟨s1.trans (same_new hr), s1.free hr, hY.same (same_new hr), ?_⟩
  have memY : ∀ k, k ∈ Y.map (·.2) ↔ k ∈ KS := fun k => by
    rw [(pm.map (·.2)).mem_iff, iff]
    constructor
    · intro m
      obtain ⟨p, hp, e⟩ := List.mem_map.mp m
      exact List.mem_map.mpr ⟨p, h1 p hp, e⟩
    · intro m
      obtain ⟨p, hp, e⟩ := List.mem_map.mp m
      rw [← e]; exact h2 p hp
  refine sorted_one (sh := sh) ((List.perm_ext_iff_of_nodup ndY nd).mpr memY) (fun k hk => ?_) (List.pairwise_map.mpr sr) srt
  obtain ⟨p, hp, e⟩ := List.mem_map.mp ((iff k).mp ((memY k).mp hk))
  rw [← e]; exact hsh p hp
theorem set_rows_at {RL L : Rw} {a : Addr} (hRL : RowsH H RL) (ha : H a = none) (h1 : ∀ p ∈ L, p ∈ RL) : RowsT K (upd H a (SetRO P w a L)) L :=
  RowsH.t fun p hp => same_new ha _ _ (hRL p (h1 p hp))
end
theorem valV_mem : ∀ {kvs : List (List Key × V)} {k : List Key} {v : V}, (kvs.map (·.1)).Nodup → (k, v) ∈ kvs → valV kvs k = some v
  | p :: kvs, k, v, nd, m => by
    obtain ⟨h1, h2⟩ := List.nodup_cons.mp nd
    rcases List.mem_cons.mp m with e | m
    · rw [← e]; exact valV_pos rfl
    · have ne : ¬ p.1 = k := fun e => h1 (by show p.1 ∈ _; rw [e]; exact List.mem_map.mpr ⟨(k, v), m, rfl⟩)
      rw [valV_neg ne]
      exact valV_mem h2 m
theorem mergeT_nodup : ∀ (more kvs : List (List Key × V)), ((kvs ++ more).map (·.1)).Nodup → mergeT kvs more = kvs ++ more
  | [], kvs, _ => (List.append_nil kvs).symm
  | p :: more, kvs, nd => by
    have no : valV kvs p.1 = none := by
      cases e : valV kvs p.1 with
      | none => rfl
      | some v =>
        have m := valV_in e
        rw [List.map_append, List.map_cons] at nd
        exact absurd rfl ((List.nodup_append.mp nd).2.2 _ m _ List.mem_cons_self)
    show mergeT (putK kvs p.1 p.2) more = _
    rw [putK_new _ no, mergeT_nodup more (kvs ++ [(p.1, p.2)]) (by rw [List.append_assoc]; exact nd), List.append_assoc]
    rfl
/-- the dict of the rows ks with the numbers f -/
def kvsOf (ks : List (List Nat)) (f : Nat → V) : List (List Key × V) := (List.range ks.length).map fun i => (rk (ks.getD i []), f i)
theorem kvsOf_keys (ks : List (List Nat)) (f : Nat → V) : (kvsOf ks f).map (·.1) = ks.map rk := by
  rw [kvsOf, List.map_map]
  apply List.ext_getElem?
  intro i
  rw [List.getElem?_map, List.getElem?_map]
  by_cases lt : i < ks.length
  · rw [List.getElem?_range lt, List.getElem?_eq_getElem lt]
    show some (rk (ks.getD i [])) = some (rk ks[i])
    rw [List.getD_eq_getElem?_getD, List.getElem?_eq_getElem lt]; rfl
  · rw [List.getElem?_eq_none (by rw [List.length_range]; omega), List.getElem?_eq_none (by omega)]; rfl
theorem kvsOf_nd {ks : List (List Nat)} (nd : ks.Nodup) (f : Nat → V) : ((kvsOf ks f).map (·.1)).Nodup := by
  rw [kvsOf_keys]
  exact List.Pairwise.map rk (fun a b h e => h (rk_inj e)) nd
theorem kvsOf_val {ks : List (List Nat)} (nd : ks.Nodup) (f : Nat → V) {i : Nat} (h : i < ks.length) : valV (kvsOf ks f) (rk (ks.getD i [])) = some (f i) :=
  valV_mem (kvsOf_nd nd f) (List.mem_map.mpr ⟨i, List.mem_range.mpr h, rfl⟩)
theorem getD_at {ks : List (List Nat)} {i : Nat} {r : List Nat} (h : ks[i]? = some r) : ks.getD i [] = r := by rw [List.getD_eq_getElem?_getD, h]; rfl
theorem kvsOf_put {ks : List (List Nat)} (nd : ks.Nodup) (f : Nat → V) {i : Nat} (h : i < ks.length) (v : V) : putK (kvsOf ks f) (rk (ks.getD i [])) v = kvsOf ks fun j => if j = i then v else f j := by
  unfold putK
  rw [if_pos (by rw [valV_any, kvsOf_val nd f h]; rfl)]
  unfold kvsOf
  rw [List.map_map]
  refine List.map_congr_left fun j hj => ?_
  have lj := List.mem_range.mp hj
  show (if rk (ks.getD j []) = rk (ks.getD i []) then (rk (ks.getD j []), v) else (rk (ks.getD j []), f j)) = _
  by_cases e : j = i
  · subst e
    show _ = (rk (ks.getD j []), if j = j then v else f j)
    rw [if_pos rfl, if_pos rfl]
  · show _ = (rk (ks.getD j []), if j = i then v else f j)
    rw [if_neg fun q => ?_, if_neg e]
    have q := rk_inj q
    rw [List.getD_eq_getElem?_getD, List.getD_eq_getElem?_getD, List.getElem?_eq_getElem lj, List.getElem?_eq_getElem h] at q
    exact e ((List.getElem_inj nd).mp q)
/-- the known rows of a list of rows -/
structure KnownR (q : Nat) (rows ks : List (List Nat)) : Prop where
  pos : 0 < q
  nd : ks.Nodup
  srt : (ks.map rk).Pairwise fun a b => rLt b a = false
  iff : ∀ r, r ∈ ks ↔ r ∈ rows
  len : ∀ r ∈ rows, r.length = q
  low : ∀ r ∈ rows, ∀ x ∈ r, x < 128
  few : ks.length < 63
  qle : q ≤ 100
def cOf (ks : List (List Nat)) : Nat → Nat → Nat := fun i p => (ks.getD i []).getD p 0
theorem pairT_of {K : PySem.W.Frag} {H : Hp} (ks : List (List Nat)) (g : Nat → V) : ∀ (ys : List V) (s : Nat), (∀ i y, ys[i]? = some y → ∃ a b, y = .ref a ∧ H a = some (.tup [.ref b, g (s + i)]) ∧ H b = some (.tup ((rk (ks.getD (s + i) [])).map kV))) → ∃ ps : List (Addr × Addr), ys = ps.map (fun p => V.ref p.1) ∧ Paired (PairT K H) ps ((List.range' s ys.length).map fun i => (rk (ks.getD i []), g i))
  | [], s, _ => ⟨[], rfl, .nil⟩
  | y :: ys, s, h => by
    obtain ⟨a, b, e1, e2, e3⟩ := h 0 y rfl
    obtain ⟨ps, q1, q2⟩ := pairT_of ks g ys (s + 1) fun i z hz => by
      have := h (i + 1) z (by simpa using hz)
      rwa [show s + (i + 1) = s + 1 + i by omega] at this
    exact ⟨(a, b) :: ps, by rw [List.map_cons, ← q1, e1], .cons ⟨e2, e3⟩ q2⟩
theorem dp_ints {K : PySem.W.Frag} {H : Hp} : ∀ (N : List Int), DpAll K H (N.map V.int) (N.map PyData.int)
  | [] => .nil
  | i :: N => .cons (.int i) (dp_ints N)
theorem ints_shaped (N : List Int) : SeqAt.shaped (.list (N.map PyData.int)) = true := by
  have h1 : PyData.canLayAll0 (N.map PyData.int) = true := by
    induction N with
    | nil => simp [PyData.canLayAll0]
    | cons p L ih => simp [PyData.canLayAll0, ih, PyData.canLay0]
  have d : PyData.depthAll (N.map PyData.int) ≤ 1 := by
    clear h1
    induction N with
    | nil => simp [PyData.depthAll]
    | cons p L ih =>
      rw [List.map_cons, PyData.depthAll]
      exact Nat.max_le.mpr ⟨by simp [PyData.depth], ih⟩
  show (PyData.canLay0 (.list (N.map PyData.int)) && decide (PyData.depth (.list (N.map PyData.int)) ≤ 64)) = true
  rw [PyData.canLay0, h1, PyData.depth, decide_eq_true (by omega)]; rfl
section
variable {P : Program} {w : World} {K : PySem.W.Frag} {mg : Str → Option Value} {base : Heap} {CN CC CW CL CI CE : Addr}
def spGroups : Sp := fun vs H Q _ => ∃ (o : Addr) (RL : Rw) (q : Nat) (rows ks : List (List Nat)), vs = [.ref o] ∧ H o = some (.lst (RL.map fun p => V.ref p.1)) ∧ RowsH H RL ∧ RL.map (·.2) = rows.map rk ∧ KnownR q rows ks ∧
  ∀ H' d (f : Nat → Nat), Same H H' → H d = none → H' d = some (.dT (kvsOf ks fun i => .int (f i : Nat))) → GInv ks.length (ShareC q (cOf ks)) f ks.length 0 0 → Q (.ref d) H'
theorem ok_law_groups (T : Txt K mg CN CC CW CL) : Df P w K mg base CX0 1 "_law_groups" spGroups := by
  refine df_of T.d_law_groups sc_law_groups b_law_groups (fun vs H Q E ⟨_, _, _, _, _, e, _⟩ => by rw [e]; rfl) (fun fa cdv A outer s H vs Q E hr h => ?_)
  obtain ⟨o, RL, q, rows, ks, rfl, ho, hRL, eRL, kn, kk⟩ := h
  have n0 := sc_law_groups.nd
  have hu66 : (A.deeper (envOfC "_law_groups" (defScope s_law_groups) s.heap.objs.size fa cdv)).units + 66 < cLine := by have := hr.un; omega
  have hu64 : (A.deeper (envOfC "_law_groups" (defScope s_law_groups) s.heap.objs.size fa cdv)).units + 64 < cLine := by omega
  have hu1 : (A.deeper (envOfC "_law_groups" (defScope s_law_groups) s.heap.objs.size fa cdv)).units + 1 < cLine := by omega
  have hu2 : (A.deeper (envOfC "_law_groups" (defScope s_law_groups) s.heap.objs.size fa cdv)).units + 2 < cLine := by omega
  refine ⟨_, Evl.pss_cut (ps_set (i := 1) n0 rfl (.inl rfl) (pe_callB (cr_sortSet rfl hu66) (by rfl) T.bt.sorted (by decide +kernel) (pa_cons (pe_callTy (cr_setOfR rfl hu64) (by rfl) T.bt.b_set (by decide +kernel) (pa_cons (pv 0) pa_nil)) pa_nil)))
    (Evl.pss_cut (ps_set (i := 2) n0 rfl (.inl rfl) (pe_callTy (call_dictPT rfl hu2) (by rfl) T.bt.b_dict (by decide +kernel) (pa_cons (pe_lc (own := [("_law_k", 6), ("_law_row", 7)]) (g := gTup K 2 (gCons (gName 6) (gCons (gName 7) gNil))) (tt := tYes) rfl n0 (pi_enum (by rfl) T.bt.enumerate (pa_cons (pv 1) pa_nil)) (blkOk_by (N := N_law_groups) (sc := defScope s_law_groups) (by decide +kernel))
        (fun _ _ _ _ _ => pg_tup rfl (pgs_cons (pg_name (i := 6) n0 rfl (Or.inl rfl)) (pgs_cons (pg_name (i := 7) n0 rfl (Or.inl rfl)) pgs_nil))) (fun _ _ _ _ _ => pts_nil) (fun _ _ _ _ _ => pe_tup (pa_cons (pv 7) (pa_cons (pv 6) pa_nil)))) pa_nil)))
    (Evl.pss_cut (ps_for PassesOwn.never rfl (pi_range1 (by rfl) T.bt.range (pa_cons (pe_callB call_len_seq (by rfl) T.bt.len PySem.boot_len (pa_cons (pv 1) pa_nil)) pa_nil)) (pg_name (i := 3) n0 rfl (.inl rfl))
      (pss_one (ps_for PassesOwn.never rfl (pi_list (pv 1)) (pg_name (i := 4) n0 rfl (.inr rfl))
        (pss_one (ps_for PassesOwn.never rfl (pi_list (pv 1)) (pg_name (i := 5) n0 rfl (.inr rfl))
          (pss_one (ps_if (pt_cmpR (op_neD hu64) (pe_lc (own := [("_law_k", 6)]) (g := gName 6) (tt := tTest (tOp rEq (tOp (rIxT K) (tVar 4) (tVar 6)) (tOp (rIxT K) (tVar 5) (tVar 6)))) (te := tVar 6) rfl n0 (pi_range1 (by rfl) T.bt.range (pa_cons (pe_callB call_len_seq (by rfl) T.bt.len PySem.boot_len (pa_cons (pv 4) pa_nil)) pa_nil)) (blkOk_by (N := N_law_groups) (sc := defScope s_law_groups) (by decide +kernel))
              (fun _ _ _ _ _ => pg_name (i := 6) n0 rfl (Or.inl rfl)) (fun _ _ _ _ _ => pts_one (pt_cmpR op_eq (pe_ix ix_tup (pv 4) (pv 6) (fun _ _ => rfl)) (pe_ix ix_tup (pv 5) (pv 6) (fun _ _ => rfl)) (nomark _))) (fun _ _ _ _ _ => pv 6)) (pe_lst pa_nil) (nomark _))
            (pss_one (ps_dput hu1 (pv 2) (pv 4) (pe_callB (call_min2 rfl) (by rfl) T.bt.b_min (by decide +kernel) (pa_cons (pe_dget hu1 (pv 2) (pv 4) (fun _ _ => rfl)) (pa_cons (pe_dget hu1 (pv 2) (pv 5) (fun _ _ => rfl)) pa_nil))) rfl)) pss_nil)))))))
    (pss_one (ps_ret (pv 2))))), ?_⟩
  have memk : ∀ p ∈ RL, ∃ r, r ∈ rows ∧ p.2 = rk r := fun p hp => by
    have m : p.2 ∈ RL.map (·.2) := List.mem_map.mpr ⟨p, hp, rfl⟩
    rw [eRL] at m
    obtain ⟨r, hr, e⟩ := List.mem_map.mp m
    exact ⟨r, hr, e.symm⟩
  have hsh : ∀ p ∈ RL, shp p.2 = List.replicate q false := fun p hp => by
    obtain ⟨r, hr2, e⟩ := memk p hp
    rw [e, rk_shp, kn.len r hr2]
  have ifk : ∀ k, k ∈ ks.map rk ↔ k ∈ RL.map (·.2) := fun k => by
    rw [eRL]
    constructor
    · intro m
      obtain ⟨r, hr2, e⟩ := List.mem_map.mp m
      exact List.mem_map.mpr ⟨r, (kn.iff r).mp hr2, e⟩
    · intro m
      obtain ⟨r, hr2, e⟩ := List.mem_map.mp m
      exact List.mem_map.mpr ⟨r, (kn.iff r).mpr hr2, e⟩
  obtain ⟨n, en⟩ : ∃ n, n = ks.length := ⟨_, rfl⟩
  have few := kn.few
  refine ⟨fun σ H' => Same H H' ∧ ∃ (kl : Addr) (Y : Rw), H' kl = some (.lst (Y.map fun q => V.ref q.1)) ∧ RowsH H' Y ∧ Y.map (·.2) = ks.map rk ∧ σ = [some (.ref o), some (.ref kl), none, none, none, none, none, none],
    ⟨_, rfl, o, RL, ks.map rk, rfl, SqL.of ho, hRL.t, by rw [List.length_map]; exact kn.few, fun p hp => ?_, fun a L ha h1 h2 => ⟨a, L, List.replicate q false, rfl, upd_same, set_rows_at hRL ha h1, fun p hp => hsh p (h1 p hp), fun e => ?_, fun Y r pm ndY sr hr2 => ?_⟩⟩, ?_⟩
  · obtain ⟨r, hr2, e⟩ := memk p hp
    rw [e]; exact List.mem_map.mpr ⟨r, (kn.iff r).mpr hr2, rfl⟩
  · have e2 := congrArg List.length e
    rw [List.length_replicate] at e2
    have := kn.pos
    simp at e2
    omega
  · obtain ⟨s', _, hY, eY⟩ := sort_set_rows hRL hsh kn.srt (List.Pairwise.map rk (fun a b h e => h (rk_inj e)) kn.nd) ifk ha h1 h2 pm ndY sr hr2
    exact ⟨s', r, Y, upd_same, hY, eY, rfl⟩
  rintro σ H1 ⟨s1, kl, Y, hkl, hY, eY, rfl⟩
  have lenY : Y.length = n := by rw [en, ← List.length_map (f := rk), ← eY, List.length_map]
  have atY : ∀ i y, (Y.map fun q => V.ref q.1)[i]? = some y → ∃ p ∈ Y, y = .ref p.1 ∧ p.2 = rk (ks.getD i []) ∧ i < n := fun i y hy => by
    rw [List.getElem?_map] at hy
    obtain ⟨p, hp, e⟩ := Option.map_eq_some_iff.mp hy
    have lt : i < n := by rw [← lenY]; exact (List.getElem?_eq_some_iff.mp hp).1
    refine ⟨p, List.mem_of_getElem? hp, e.symm, ?_, lt⟩
    have e2 : (Y.map (·.2))[i]? = some p.2 := by rw [List.getElem?_map, hp]; rfl
    rw [eY, List.getElem?_map] at e2
    obtain ⟨r, hr2, e3⟩ := Option.map_eq_some_iff.mp e2
    rw [getD_at hr2, e3]
  -- the numbers
  refine ⟨fun σ H' => Same H1 H' ∧ ∃ d, H1 d = none ∧ H' d = some (.dT (kvsOf ks fun i => .int (i : Nat))) ∧ σ = [some (.ref o), some (.ref kl), some (.ref d), none, none, none, none, none], ⟨_, rfl, kl, _, rfl, SqL.of hkl, fun D hD => lc_rel (walk_enum (K := K) (a := kl) (xs := Y.map fun q => V.ref q.1)) (by rw [List.length_map, lenY]; omega) hD
    (fun i y H' => ∃ a b, y = .ref a ∧ H' a = some (.tup [.ref b, .int (i : Nat)]) ∧ H' b = some (.tup ((rk (ks.getD i [])).map kV))) (fun i y H' H'' k ⟨a, b, e1, e2, e3⟩ => ⟨a, b, e1, k _ _ e2 fun _ => nofun, k _ _ e3 fun _ => nofun⟩) (fun H' s' => SqL.of (s' _ _ hkl)) (fun i x H2 H3 hi s2 hy => ?_) (fun σ H Q Q' f h => ?_) (fun v σ H Q Q' f h => ?_) (fun H' ys s2 el hR eD => ?_)⟩, ?_⟩
  · obtain ⟨T2, x1, y1, rfl, hT, rfl, e1, e2⟩ := hy
    obtain ⟨p, mp, rfl, ep, lt⟩ := atY i y1 e2
    have e1 : V.int (i : Nat) = x1 := Option.some.inj e1
    subst e1
    have sT := same_new (o := .tup [V.int (i : Nat), V.ref p.1]) hT
    refine ⟨T2, _, rfl, SqT.of upd_same, rfl, _, _, rfl, _, _, rfl, rfl, rfl, _, rfl, _, rfl, two_line, fun a ha => ⟨⟨a, p.1, rfl, upd_same, ?_⟩, sT.trans (same_new ha)⟩⟩
    rw [← ep]
    exact (sT.trans (same_new ha)) _ _ (s2 _ _ (hY p mp))
  · obtain ⟨v1, e1, v2, e2, hl, h⟩ := h
    exact ⟨v1, e1, v2, e2, hl, fun p hp => f _ _ (h p hp)⟩
  · obtain ⟨a1, x1, e1, h1, h2, v1, w1, e3, v2, w2, e4, e5, h⟩ := h
    exact ⟨a1, x1, e1, h1, h2, v1, w1, e3, v2, w2, e4, e5, f _ _ h⟩
  · obtain ⟨ps, eps, pr⟩ := pairT_of (K := K) (H := H') ks (fun i => V.int (i : Nat)) ys 0 fun i y hy => by
      rw [Nat.zero_add]; exact hR i y hy
    have eyl : ys.length = ks.length := by rw [el, List.length_map, lenY, en]
    rw [eyl, ← List.range_eq_range'] at pr
    rw [eps] at eD
    refine ⟨D, ps, _, rfl, eD, pr, fun d hd => ⟨s2.trans (same_new hd), d, s2.free hd, ?_, rfl⟩⟩
    rw [upd_same, mergeT_nodup _ [] (by rw [List.nil_append]; exact kvsOf_nd kn.nd fun i => V.int (i : Nat))]
    rfl
  rintro σ H2 ⟨s2, d, fd, hd, rfl⟩
  have nkd : kl ≠ d := fun e => by rw [e, fd] at hkl; cases hkl
  have hkl2 := s2 _ _ hkl
  have hY2 := hY.same s2
  have kl' : ∀ H', KpT d H2 H' → H' kl = some (.lst (Y.map fun q => V.ref q.1)) := fun H' k => k _ _ nkd hkl2
  have ne_d : ∀ {b : Addr} {u : HO}, H2 b = some u → (∀ x, u ≠ .dT x) → b ≠ d := fun e k q => by rw [q, hd] at e; exact k _ (Option.some.inj e).symm
  have row' : ∀ H', KpT d H2 H' → ∀ p ∈ Y, H' p.1 = some (.tup (p.2.map kV)) := fun H' k p hp => k _ _ (ne_d (hY2 p hp) fun _ => nofun) (hY2 p hp)
  have cq : ∀ i, i < n → (ks.getD i []).length = q := fun i hi => by
    have lt : i < ks.length := by omega
    rw [List.getD_eq_getElem?_getD, List.getElem?_eq_getElem lt]
    exact kn.len _ ((kn.iff _).mp (List.getElem_mem lt))
  have atc : ∀ i p, i < n → p < q → ((rk (ks.getD i [])).map kV)[p]? = some (V.str (sign (cOf ks i p))) := fun i p hi hp => by
    rw [rk_V, List.getElem?_map, List.getElem?_eq_getElem (by rw [cq i hi]; exact hp)]
    show some (V.str (sign _)) = some (V.str (sign ((ks.getD i []).getD p 0)))
    rw [List.getD_eq_getElem?_getD (l := ks.getD i []), List.getElem?_eq_getElem (by rw [cq i hi]; exact hp)]
    rfl
  have kd : ∀ {H' : Hp} {u : HO}, KpT d H2 H' → KpT d H2 (upd H' d u) := fun k => k.trans kpt_put
  have q128 : q ≤ 1000 := Nat.le_trans kn.qle (by decide)
  refine ⟨fun σ H' => KpT d H2 H' ∧ ∃ f : Nat → Nat, H' d = some (.dT (kvsOf ks fun i => .int (f i : Nat))) ∧ GInv n (ShareC q (cOf ks)) f n 0 0 ∧ ∃ z3 z4 z5, σ = [some (.ref o), some (.ref kl), some (.ref d), z3, z4, z5, none, none], ⟨_, rfl, kl, _, rfl, .inl (SqL.of hkl2), _, rfl, ?_, ?_, ?_⟩, ?_⟩
  · rw [List.length_map, lenY]; omega
  · rw [List.length_map, lenY]; omega
  · rw [List.length_map, lenY, show ((n : Nat) : Int).toNat = n by omega]
    refine for_it (walk_range (lo := 0) (n := n)) (fun t σ H' => KpT d H2 H' ∧ ∃ f : Nat → Nat, H' d = some (.dT (kvsOf ks fun i => .int (f i : Nat))) ∧ GInv n (ShareC q (cOf ks)) f t 0 0 ∧ ∃ z3 z4 z5, σ = [some (.ref o), some (.ref kl), some (.ref d), z3, z4, z5, none, none]) ⟨KpT.refl _, fun i => i, hd, GInv.start, _, _, _, rfl⟩ (fun _ _ _ _ _ => trivial) (fun t x σ H3 H4 hi ⟨k3, f, hf, g, z3, z4, z5, eo⟩ hy => ?_) (fun σ H' h => h)
    subst eo
    obtain ⟨rfl, rfl⟩ := hy
    refine ⟨_, rfl, kl, rfl, ⟨_, SqL.of (kl' _ k3)⟩, for_it (walk_list (K := K) (a := kl) (xs := Y.map fun q => V.ref q.1)) (fun i σ H' => KpT d H2 H' ∧ ∃ f : Nat → Nat, H' d = some (.dT (kvsOf ks fun i => .int (f i : Nat))) ∧ GInv n (ShareC q (cOf ks)) f t i 0 ∧ ∃ z3 z4 z5, σ = [some (.ref o), some (.ref kl), some (.ref d), z3, z4, z5, none, none]) ⟨k3, f, hf, g, _, _, _, rfl⟩ (fun i σ H' _ ⟨k', _⟩ => SqL.of (kl' _ k')) (fun i x σ H5 H6 hi ⟨k5, f, hf, g, z3, z4, z5, eo⟩ hy => ?_) (fun σ H' ⟨k', f, hf, g, z⟩ => ⟨k', f, hf, ?_, z⟩)⟩
    · subst eo
      obtain ⟨rfl, hx⟩ := hy
      obtain ⟨p, mp, rfl, ep, lti⟩ := atY i x hx
      refine ⟨_, rfl, kl, rfl, ⟨_, SqL.of (kl' _ k5)⟩, for_it (walk_list (K := K) (a := kl) (xs := Y.map fun q => V.ref q.1)) (fun j σ H' => KpT d H2 H' ∧ ∃ f : Nat → Nat, H' d = some (.dT (kvsOf ks fun i => .int (f i : Nat))) ∧ GInv n (ShareC q (cOf ks)) f t i j ∧ ∃ z3 z5, σ = [some (.ref o), some (.ref kl), some (.ref d), z3, some (.ref p.1), z5, none, none]) ⟨k5, f, hf, g, _, _, rfl⟩ (fun i σ H' _ ⟨k', _⟩ => SqL.of (kl' _ k')) (fun j x σ H7 H8 hj ⟨k7, f, hf, g, z3, z5, eo⟩ hy => ?_) (fun σ H' ⟨k', f, hf, g, z3, z5, eo⟩ => ⟨k', f, hf, ?_, _, _, _, eo⟩)⟩
      · subst eo
        obtain ⟨rfl, hx⟩ := hy
        obtain ⟨p', mp', rfl, ep', ltj⟩ := atY j x hx
        have rp := row' _ k7 p mp
        have rp' := row' _ k7 p' mp'
        rw [ep] at rp
        rw [ep'] at rp'
        have lp : ((rk (ks.getD i [])).map kV).length = q := by rw [List.length_map, rk_len, cq i lti]
        refine ⟨_, rfl, p.1, _, rfl, .inr (SqT.of rp), _, rfl, ?_, ?_, fun D hD => ?_⟩
        · rw [lp]; omega
        · rw [lp]; omega
        rw [lp, show ((q : Nat) : Int).toNat = q by omega]
        refine lc_it (walk_range (lo := 0) (n := q)) (fun m H' => Same H8 H' ∧ ∃ N : List Int, H' D = some (.lst (N.map V.int)) ∧ N.length ≤ m ∧ (N = [] ↔ ∀ k, k < m → cOf ks i k ≠ cOf ks j k)) ⟨same_new hD, [], upd_same, Nat.le_refl _, ⟨fun _ k hk => absurd hk (Nat.not_lt_zero _), fun _ => rfl⟩⟩ (fun _ _ _ _ => trivial) (fun m x H9 H10 hm ⟨s9, N, hN, lN, eN⟩ hy => ?_) (fun H' ⟨s9, N, hN, lN, eN⟩ => ?_)
        · obtain ⟨rfl, rfl⟩ := hy
          refine ⟨rfl, _, rfl, _, rfl, p.1, _, _, _, rfl, rfl, SqT.of (s9 _ _ rp), at_nat (j := m) (by omega) (atc i m lti hm), _, rfl, _, rfl, p'.1, _, _, _, rfl, rfl, SqT.of (s9 _ _ rp'), at_nat (j := m) (by omega) (atc j m ltj hm), rfl, _, rfl, ?_⟩
          rw [dec_sign]
          refine ite2 (fun c => ⟨_, rfl, _, hN, ?_, fun b' o' e' => ?_, N ++ [((0 : Int) + (m : Nat))], by rw [upd_same, List.map_append]; rfl, by rw [List.length_append]; show N.length + 1 ≤ m + 1; omega, ?_⟩) (fun c => ⟨s9, N, hN, by omega, ?_⟩)
          · rw [List.length_map]; exact lt_line (by omega)
          · rw [upd_ne (ne_of_none e' hD)]
            exact s9 _ _ e'
          · constructor
            · intro e; cases N <;> cases e
            · intro all
              exact absurd (by simpa using c) (all m (by omega))
          · rw [eN]
            constructor
            · intro all k hk
              by_cases e : k = m
              · subst e; simpa using c
              · exact all k (by omega)
            · intro all k hk
              exact all k (by omega)
        · refine ⟨Nat.zero_le _, fun z hz => ?_⟩
          have sz := same_new (o := .lst ([] : List V)) hz
          refine ⟨PyData.list (N.map PyData.int), .list [], .lst (SqL.of (sz _ _ hN)) (dp_ints N), .lst (SqL.of upd_same) .nil, ints_shaped N, by decide +kernel, _, rfl, ?_⟩
          have ee : PyData.eqv (PyData.list (N.map PyData.int)) (.list []) = N.isEmpty := by cases N <;> rfl
          rw [ee]
          have sA := s9.trans sz
          have kA : KpT d H2 (upd H' z (.lst [])) := k7.trans (Same.kpt sA)
          have hfA := sA _ _ hf
          refine ite2 (fun c => ?_) (fun c => ?_)
          · have sh : ShareC q (cOf ks) i j := by
              refine Classical.byContradiction fun no => ?_
              have : N = [] := eN.mpr fun k hk e => no ⟨k, hk, e⟩
              rw [this] at c
              cases c
            have G1 : DGet (upd H' z (.lst [])) d (.ref p.1) (valV (kvsOf ks fun i => .int (f i : Nat)) (rk (ks.getD i []))) := DGet.t hfA (sA _ _ rp)
            have G2 : DGet (upd H' z (.lst [])) d (.ref p'.1) (valV (kvsOf ks fun i => .int (f i : Nat)) (rk (ks.getD j []))) := DGet.t hfA (sA _ _ rp')
            rw [kvsOf_val kn.nd _ (by omega)] at G1 G2
            refine ⟨_, rfl, _, rfl, d, _, rfl, G1, _, rfl, _, rfl, d, _, rfl, G2, _, _, rfl, _, rfl, _, rfl, d, _, rfl, DPut.t (k := rk (ks.getD i [])) hfA (sA _ _ rp) ?_, kd kA, joinF f i j, ?_, g.join (by omega) (by omega) sh, _, _, rfl⟩
            · rw [kvsOf, List.length_map, List.length_range]; exact lt_line (by omega)
            · rw [upd_same, kvsOf_put kn.nd _ (by omega)]
              congr 3
              funext v
              unfold joinF
              by_cases e : v = i
              · rw [if_pos e, if_pos e]
                show V.int (if ((f j : Nat) : Int) < ((f i : Nat) : Int) then ((f j : Nat) : Int) else ((f i : Nat) : Int)) = V.int ((min (f i) (f j) : Nat) : Int)
                congr 1
                by_cases lt : f j < f i
                · rw [if_pos (by omega), Nat.min_eq_right (by omega)]
                · rw [if_neg (by omega), Nat.min_eq_left (by omega)]
              · rw [if_neg e, if_neg e]
          · refine ⟨kA, f, hfA, g.skip fun ⟨k, hk, e⟩ => ?_, _, _, rfl⟩
            have : N = [] := by
              cases N with
              | nil => rfl
              | cons _ _ => exact absurd rfl c
            exact eN.mp this k hk e
      · rw [List.length_map, lenY] at g
        exact g.row
    · rw [List.length_map, lenY] at g
      exact g.round
  rintro σ H3 ⟨k3, f, hf, g, z3, z4, z5, rfl⟩
  refine ⟨_, rfl, kk H3 d f (fun b u e => ?_) (s1.free fd) hf (by rw [← en]; exact g)⟩
  have e2 := (s1.trans s2) _ _ e
  exact k3 _ _ (fun q => by rw [q, s1.free fd] at e; cases e) e2
end
end CpR
set_option Elab.async false
set_option linter.all false
set_option maxRecDepth 100000
set_option maxHeartbeats 1000000
/-! F13: what the law asks of merged. -/
namespace CpR
open PySem PySem.Spec PyProof.Rows L2 CpM CpS
theorem rising_signs : ∀ (zs : List Nat) (p : Nat), risingS (sign p) (zs.map sign) = true → (∀ z ∈ zs, p ≤ z) ∧ zs.Pairwise (· ≤ ·)
  | [], p, _ => ⟨fun z hz => (by cases hz), .nil⟩
  | x :: zs, p, h => by
    have h1 : (!ltCps [x] [p] && risingS (sign x) (zs.map sign)) = true := h
    rw [Bool.and_eq_true] at h1
    obtain ⟨a, b⟩ := rising_signs zs x h1.2
    have le : p ≤ x := by
      have := h1.1
      simp [ltCps] at this
      exact this
    refine ⟨fun z hz => ?_, .cons a b⟩
    rcases List.mem_cons.mp hz with e | hz
    · rw [e]; exact le
    · exact Nat.le_trans le (a z hz)
theorem sorted_signs : ∀ (zs : List Nat), sortedS (zs.map sign) = true → zs.Pairwise (· ≤ ·)
  | [], _ => .nil
  | x :: zs, h => let ⟨a, b⟩ := rising_signs zs x h; .cons a b
theorem sorted_nats {zs ds : List Nat} (p : zs.Perm ds) (h : zs.Pairwise (· ≤ ·)) (h' : ds.Pairwise (· < ·)) : zs = ds := by
  have inj : ∀ {a b : List Nat}, a.map (fun (z : Nat) => [Sum.inl (α := Int) (β := Str) (z : Int)]) = b.map (fun (z : Nat) => [Sum.inl (z : Int)]) → a = b := by
    intro a
    induction a with
    | nil => intro b e; cases b with | nil => rfl | cons => cases e
    | cons x a ih =>
      intro b e
      cases b with
      | nil => cases e
      | cons y b =>
        rw [List.map_cons, List.map_cons] at e
        injection e with e1 e2
        injection e1 with e1 _
        injection e1 with e1
        rw [Int.ofNat.inj e1, ih e2]
  have lt : ∀ a b : Nat, a ≤ b → rLt [Sum.inl (b : Int)] [Sum.inl (a : Int)] = false := fun a b le => by
    show (if (Sum.inl (b : Int) : Key) = .inl (a : Int) then rLt [] [] else decide ((b : Int) < (a : Int))) = false
    split
    · rfl
    · exact decide_eq_false (by omega)
  refine inj (sorted_one (sh := [true]) (p.map _) (fun k hk => ?_) (List.Pairwise.map _ (fun a b h => lt a b h) h) (List.Pairwise.map _ (fun a b h => lt a b (Nat.le_of_lt h)) h'))
  obtain ⟨z, _, e⟩ := List.mem_map.mp hk
  rw [← e]; rfl
theorem sMin_signs (a b : Nat) : sMin (sign a) (sign b) = sign (min a b) := by
  unfold sMin
  have e : ((sign b).cps.toList < (sign a).cps.toList) ↔ b < a := by
    show ([b] < [a]) ↔ b < a
    rw [List.cons_lt_cons_iff]
    constructor
    · rintro (h | ⟨_, h⟩)
      · exact h
      · exact absurd h (List.lt_irrefl _)
    · intro h; exact .inl h
  by_cases lt : b < a
  · rw [if_pos (e.mpr lt), Nat.min_eq_right (Nat.le_of_lt lt)]
  · rw [if_neg fun h => lt (e.mp h), Nat.min_eq_left (by omega)]
/-- what the dict of the least colours holds behind i rows -/
structure LInv (f c0 : Nat → Nat) (i : Nat) (kvs : List (Key × V)) : Prop where
  keys : ∃ ms : List Nat, kvs.map (·.1) = ms.map (fun (m : Nat) => Sum.inl (m : Int)) ∧ ms.Nodup ∧ ∀ m ∈ ms, ∃ j, j < i ∧ f j = m
  has : ∀ j, j < i → ∃ j', j' < i ∧ f j' = f j ∧ valV kvs (.inl (f j : Int)) = some (.str (sign (c0 j'))) ∧ ∀ j'', j'' < i → f j'' = f j → c0 j' ≤ c0 j''
theorem LInv.start (f c0 : Nat → Nat) : LInv f c0 0 [] := ⟨⟨[], rfl, .nil, fun m hm => (by cases hm)⟩, fun j h => absurd h (Nat.not_lt_zero _)⟩
theorem LInv.next {f c0 : Nat → Nat} {i : Nat} {kvs : List (Key × V)} (L : LInv f c0 i kvs) : ∃ x : Nat, (valV kvs (.inl (f i : Int))).getD (.str (sign (c0 i))) = .str (sign x) ∧ LInv f c0 (i + 1) (putK kvs (.inl (f i : Int)) (.str (sign (min x (c0 i))))) := by
  obtain ⟨ms, em, nm, im⟩ := L.keys
  have key_ne : ∀ j, f j ≠ f i → (Sum.inl (f j : Int) : Key) ≠ .inl (f i : Int) := fun j h e => h (by injection e with e; exact Int.ofNat.inj e)
  by_cases old : ∃ j, j < i ∧ f j = f i
  · obtain ⟨j, hj, ej⟩ := old
    obtain ⟨j', hj', ej', ev, least⟩ := L.has j hj
    rw [ej] at ej' ev least
    refine ⟨c0 j', by rw [ev]; rfl, ⟨⟨ms, ?_, nm, fun m hm => let ⟨k, hk, e⟩ := im m hm; ⟨k, by omega, e⟩⟩, fun k hk => ?_⟩⟩
    · unfold putK
      rw [if_pos (by rw [valV_any, ev]; rfl), List.map_map, ← em]
      refine List.map_congr_left fun p hp => ?_
      show (if p.1 = Sum.inl (f i : Int) then (p.1, _) else p).1 = p.1
      split <;> rfl
    · by_cases e : f k = f i
      · rw [e, valV_put, if_pos rfl]
        by_cases le : c0 j' ≤ c0 i
        · refine ⟨j', by omega, ej', by rw [Nat.min_eq_left le], fun j'' h1 h2 => ?_⟩
          by_cases z : j'' = i
          · rw [z]; exact le
          · exact least j'' (by omega) h2
        · refine ⟨i, by omega, rfl, by rw [Nat.min_eq_right (by omega)], fun j'' h1 h2 => ?_⟩
          by_cases z : j'' = i
          · rw [z]; exact Nat.le_refl _
          · exact Nat.le_trans (by omega) (least j'' (by omega) h2)
      · have lt : k < i := by
          have : k ≠ i := fun z => e (by rw [z])
          omega
        obtain ⟨k', h1, h2, h3, h4⟩ := L.has k lt
        refine ⟨k', by omega, h2, by rw [valV_put, if_neg (key_ne k e)]; exact h3, fun j'' h5 h6 => ?_⟩
        have : j'' ≠ i := fun z => e (by rw [← h6, z])
        exact h4 j'' (by omega) h6
  · have no : valV kvs (.inl (f i : Int)) = none := by
      cases e : valV kvs (.inl (f i : Int)) with
      | none => rfl
      | some v =>
        have m := valV_in e
        rw [em] at m
        obtain ⟨m', hm', e'⟩ := List.mem_map.mp m
        have e2 : m' = f i := by injection e' with e'; exact Int.ofNat.inj e'
        obtain ⟨j, hj, ej⟩ := im m' hm'
        exact absurd ⟨j, hj, by rw [ej, e2]⟩ old
    refine ⟨c0 i, by rw [no]; rfl, ⟨⟨ms ++ [f i], ?_, ?_, fun m hm => ?_⟩, fun k hk => ?_⟩⟩
    · rw [putK_new _ no, List.map_append, em, List.map_append]; rfl
    · refine List.nodup_append.mpr ⟨nm, by simp, fun a ha b hb e => ?_⟩
      rw [List.mem_singleton.mp hb] at e
      obtain ⟨j, hj, ej⟩ := im a ha
      exact old ⟨j, hj, by rw [ej, e]⟩
    · rcases List.mem_append.mp hm with hm | hm
      · obtain ⟨j, hj, ej⟩ := im m hm
        exact ⟨j, by omega, ej⟩
      · exact ⟨i, by omega, (List.mem_singleton.mp hm).symm⟩
    · by_cases e : k = i
      · subst e
        refine ⟨k, by omega, rfl, by rw [valV_put, if_pos rfl, Nat.min_self], fun j'' h1 h2 => ?_⟩
        by_cases z : j'' = k
        · rw [z]; exact Nat.le_refl _
        · exact absurd ⟨j'', by omega, h2⟩ old
      · obtain ⟨k', h1, h2, h3, h4⟩ := L.has k (by omega)
        have fe : f k ≠ f i := fun z => old ⟨k, by omega, z⟩
        refine ⟨k', by omega, h2, by rw [valV_put, if_neg (key_ne k fe)]; exact h3, fun j'' h5 h6 => ?_⟩
        have : j'' ≠ i := fun z => fe (by rw [← h6, z])
        exact h4 j'' (by omega) h6
theorem nodup_on {g : Nat → Nat} : ∀ {zs : List Nat}, zs.Nodup → (∀ a ∈ zs, ∀ b ∈ zs, g a = g b → a = b) → (zs.map g).Nodup
  | [], _, _ => .nil
  | z :: zs, nd, h => by
    obtain ⟨h1, h2⟩ := List.nodup_cons.mp nd
    refine List.nodup_cons.mpr ⟨fun m => ?_, nodup_on h2 fun a ha b hb => h a (List.mem_cons_of_mem _ ha) b (List.mem_cons_of_mem _ hb)⟩
    obtain ⟨z', hz', e⟩ := List.mem_map.mp m
    exact h1 (by rw [h z List.mem_cons_self z' (List.mem_cons_of_mem _ hz') e.symm]; exact hz')
def codeOf (kvs : List (Key × V)) (m : Nat) : Nat := match valV kvs (.inl (m : Int)) with
  | some (.str s) => s.cps.toList.headD 0
  | _ => 0
/-- the least first colours of the groups -/
structure DueR (n q : Nat) (c : Nat → Nat → Nat) (lam : Nat → Nat) (ds : List Nat) : Prop where
  att : ∀ i, i < n → ∃ j, j < n ∧ Conn n (ShareC q c) i j ∧ lam i = c j 0
  le : ∀ i, i < n → ∀ j, j < n → Conn n (ShareC q c) i j → lam i ≤ c j 0
  srt : ds.Pairwise (· < ·)
  iff : ∀ d, d ∈ ds ↔ ∃ i, i < n ∧ d = lam i
  few : ds.length ≤ 26
theorem dict_sorted_rows {Y : Rw} {q : Nat} {rows ks : List (List Nat)} (kn : KnownR q rows ks) (p : (Y.map (·.2)).Perm (ks.map rk)) (sr : SrtR Y) : Y.map (·.2) = ks.map rk := by
  refine sorted_one (sh := List.replicate q false) p (fun k hk => ?_) (List.pairwise_map.mpr sr) kn.srt
  obtain ⟨r, hr, e⟩ := List.mem_map.mp (p.mem_iff.mp hk)
  rw [← e, rk_shp, kn.len r ((kn.iff r).mp hr)]
theorem strs_shaped {zs : List Nat} (h : ∀ z ∈ zs, z < 128) : SeqAt.shaped (.list (zs.map fun z => PyData.str (sign z))) = true := by
  have ok1 : ∀ z, z < 128 → PyData.strOk (sign z) = true := fun z hz => by simp [PyData.strOk, sign]; omega
  have h1 : PyData.canLayAll0 (zs.map fun z => PyData.str (sign z)) = true := by
    induction zs with
    | nil => simp [PyData.canLayAll0]
    | cons p L ih =>
      rw [List.map_cons, PyData.canLayAll0, ih fun z hz => h z (List.mem_cons_of_mem _ hz), PyData.canLay0, ok1 p (h p List.mem_cons_self)]
      rfl
  have d : PyData.depthAll (zs.map fun z => PyData.str (sign z)) ≤ 1 := by
    clear h1 h
    induction zs with
    | nil => simp [PyData.depthAll]
    | cons p L ih =>
      rw [List.map_cons, PyData.depthAll]
      exact Nat.max_le.mpr ⟨by simp [PyData.depth], ih⟩
  show (PyData.canLay0 (.list _) && decide (PyData.depth (.list _) ≤ 64)) = true
  rw [PyData.canLay0, h1, PyData.depth, decide_eq_true (by omega)]; rfl
theorem str_shaped {z : Nat} (h : z < 128) : SeqAt.shaped (.str (sign z)) = true := by
  have e1 : PyData.canLay0 (.str (sign z)) = true := by
    rw [PyData.canLay0]
    simp [PyData.strOk, sign]; omega
  show (PyData.canLay0 (.str (sign z)) && decide (PyData.depth (.str (sign z)) ≤ 64)) = true
  rw [e1, PyData.depth]; rfl
theorem dp_signs {K : PySem.W.Frag} {H : Hp} : ∀ (zs : List Nat), DpAll K H (zs.map fun z => V.str (sign z)) (zs.map fun z => PyData.str (sign z))
  | [] => .nil
  | z :: zs => .cons (.str _) (dp_signs zs)
theorem eqv_signs (x y : Nat) : PyData.eqv (.str (sign x)) (.str (sign y)) = decide (x = y) := by
  rw [Bool.eq_iff_iff, decide_eq_true_iff]
  simp only [PyData.eqv, beq_iff_eq]
  exact ⟨fun h => sign_inj h, fun h => by rw [h]⟩
section
variable {P : Program} {w : World} {K : PySem.W.Frag} {mg : Str → Option Value} {base : Heap} {CN CC CW CL CI CE : Addr}
def spDue : Sp := fun vs H Q _ => ∃ (o : Addr) (RL : Rw) (q : Nat) (rows ks : List (List Nat)) (lam : Nat → Nat) (ds : List Nat), vs = [.ref o] ∧ H o = some (.lst (RL.map fun p => V.ref p.1)) ∧ RowsH H RL ∧ RL.map (·.2) = rows.map rk ∧ KnownR q rows ks ∧ DueR ks.length q (cOf ks) lam ds ∧
  ∀ H' d, Same H H' → H d = none → H' d = some (.dT (kvsOf ks fun i => .str (sign (97 + ds.findIdx fun d => decide (d = lam i))))) → Q (.ref d) H'
theorem ok_law_due (T : Txt K mg CN CC CW CL) : Df P w K mg base CX0 2 "_law_due" spDue := by
  refine df_of T.d_law_due sc_law_due b_law_due (fun vs H Q E ⟨_, _, _, _, _, _, _, e, _⟩ => by rw [e]; rfl) (fun fa cdv A outer s H vs Q E hr h => ?_)
  obtain ⟨o, RL, q, rows, ks, lam, ds, rfl, ho, hRL, eRL, kn, du, kk⟩ := h
  have n0 := sc_law_due.nd
  have hu66 : (A.deeper (envOfC "_law_due" (defScope s_law_due) s.heap.objs.size fa cdv)).units + 66 < cLine := by have := hr.un; omega
  have hu65 : (A.deeper (envOfC "_law_due" (defScope s_law_due) s.heap.objs.size fa cdv)).units + 65 < cLine := by omega
  have hu1 : (A.deeper (envOfC "_law_due" (defScope s_law_due) s.heap.objs.size fa cdv)).units + 1 < cLine := by omega
  have hu2 : (A.deeper (envOfC "_law_due" (defScope s_law_due) s.heap.objs.size fa cdv)).units + 2 < cLine := by omega
  refine ⟨_, Evl.pss_cut (ps_set (i := 2) n0 rfl (.inr rfl) (pe_df (E := E0) (ok_law_groups T) hr (by decide) (by rfl) pass0 (pa_cons (pv 0) pa_nil)))
    (Evl.pss_cut (ps_set (i := 3) n0 rfl (.inr rfl) pe_dnewK)
    (Evl.pss_cut (ps_for PassesOwn.never rfl (pi_list (pe_callB (cr_sortDT rfl hu66) (by rfl) T.bt.sorted (by decide +kernel) (pa_cons (pv 2) pa_nil))) (pg_name (i := 1) n0 rfl (.inl rfl))
      (pss_one (ps_dput hu1 (pv 3) (pe_dget hu1 (pv 2) (pv 1) (fun _ _ => rfl)) (pe_callB (call_minS2 rfl) (by rfl) T.bt.b_min (by decide +kernel) (pa_cons (pe_dget2 hu1 (pv 3) (pe_dget hu1 (pv 2) (pv 1) (fun _ _ => rfl)) (pe_ix ix_tup (pv 1) pe_int (fun _ _ => rfl)) ⟨rfl, by rfl, by rfl, rfl⟩) (pa_cons (pe_ix ix_tup (pv 1) pe_int (fun _ _ => rfl)) pa_nil))) rfl)))
    (Evl.pss_cut (ps_set (i := 4) n0 rfl (.inr rfl) (pe_callB cr_sortedS (by rfl) T.bt.sorted (by decide +kernel) (pa_cons (pe_lc (own := [("_law_number", 5)]) (g := gName 5) (tt := tYes) (te := tDGet (tVar 3) (tVar 5)) rfl n0 (pi_list (pe_callB (call_sortedDI rfl) (by rfl) T.bt.sorted (by decide +kernel) (pa_cons (pv 3) pa_nil))) (blkOk_by (N := N_law_due) (sc := defScope s_law_due) (by decide +kernel))
        (fun _ _ _ _ _ => pg_name (i := 5) n0 rfl (Or.inl rfl)) (fun _ _ _ _ _ => pts_nil) (fun _ _ _ _ _ => pe_dget hu1 (pv 3) (pv 5) (fun _ _ => rfl))) pa_nil)))
    (pss_one (ps_ret (pe_callTy (call_dictPT rfl hu2) (by rfl) T.bt.b_dict (by decide +kernel) (pa_cons (pe_lc (own := [("_law_row", 1)]) (g := gName 1) (tt := tYes) (te := tTup (tCons (tVar 1) (tCons (tOp rIxS (tC (.str lettersS)) (tBM K "list" (rIndexD K) (tVar 4) (tCons (tDGet (tVar 3) (tDGet (tVar 2) (tVar 1))) tNil))) tNil))) rfl n0 (pi_list (pe_callB (cr_sortDT rfl hu66) (by rfl) T.bt.sorted (by decide +kernel) (pa_cons (pv 2) pa_nil))) (blkOk_by (N := N_law_due) (sc := defScope s_law_due) (by decide +kernel))
        (fun _ _ _ _ _ => pg_name (i := 1) n0 rfl (Or.inl rfl)) (fun _ _ _ _ _ => pts_nil)
        (fun _ _ _ _ _ => pe_tup (pa_cons (pv 1) (pa_cons (pe_ix ix_str pe_str (pe_bm PySem.F.plainAttrs_list PySem.F.slot_list_index PySem.F.type_list_index (mt_indexD hu65) (pv 4) (pa_cons (pe_dget hu1 (pv 3) (pe_dget hu1 (pv 2) (pv 1) (fun _ _ => rfl)) (fun _ _ => rfl)) pa_nil)) (fun _ _ => rfl)) pa_nil)))) pa_nil))))))), ?_⟩
  obtain ⟨n, en⟩ : ∃ n, n = ks.length := ⟨_, rfl⟩
  rw [← en] at du
  have few := kn.few
  have shk : ∀ (f : Nat → V), ∀ p ∈ kvsOf ks f, shp p.1 = List.replicate q false := fun f p hp => by
    have m : p.1 ∈ (kvsOf ks f).map (·.1) := List.mem_map.mpr ⟨p, hp, rfl⟩
    rw [kvsOf_keys] at m
    obtain ⟨r, hr2, e⟩ := List.mem_map.mp m
    rw [← e, rk_shp, kn.len r ((kn.iff r).mp hr2)]
  have neq : List.replicate q false ≠ [] := fun e => by
    have e2 := congrArg List.length e
    rw [List.length_replicate] at e2
    have := kn.pos
    simp at e2
    omega
  have atR : ∀ {Y : Rw}, Y.map (·.2) = ks.map rk → ∀ i y, (Y.map fun q => V.ref q.1)[i]? = some y → ∃ p ∈ Y, y = .ref p.1 ∧ p.2 = rk (ks.getD i []) ∧ i < n := fun {Y} eY i y hy => by
    have lenY : Y.length = n := by rw [en, ← List.length_map (f := rk), ← eY, List.length_map]
    rw [List.getElem?_map] at hy
    obtain ⟨p, hp, e⟩ := Option.map_eq_some_iff.mp hy
    have lt : i < n := by rw [← lenY]; exact (List.getElem?_eq_some_iff.mp hp).1
    refine ⟨p, List.mem_of_getElem? hp, e.symm, ?_, lt⟩
    have e2 : (Y.map (·.2))[i]? = some p.2 := by rw [List.getElem?_map, hp]; rfl
    rw [eY, List.getElem?_map] at e2
    obtain ⟨r, hr2, e3⟩ := Option.map_eq_some_iff.mp e2
    rw [getD_at hr2, e3]
  have at0 : ∀ i, i < n → atI ((rk (ks.getD i [])).map kV) 0 = some (V.str (sign (cOf ks i 0))) := fun i hi => by
    have lt : i < ks.length := by omega
    have lq : 0 < (ks.getD i []).length := by
      rw [List.getD_eq_getElem?_getD, List.getElem?_eq_getElem lt]
      show 0 < (ks[i]).length
      rw [kn.len _ ((kn.iff _).mp (List.getElem_mem lt))]
      exact kn.pos
    refine atI_nat (j := 0) ?_
    rw [rk_V, List.getElem?_map, List.getElem?_eq_getElem lq]
    show some (V.str (sign _)) = some (V.str (sign ((ks.getD i []).getD 0 0)))
    rw [List.getD_eq_getElem?_getD (l := ks.getD i []), List.getElem?_eq_getElem lq]
    rfl
  refine ⟨fun σ H' => Same H H' ∧ ∃ (d : Addr) (f : Nat → Nat), H d = none ∧ H' d = some (.dT (kvsOf ks fun i => .int (f i : Nat))) ∧ GInv n (ShareC q (cOf ks)) f n 0 0 ∧ σ = [some (.ref o), none, some (.ref d), none, none, none], ⟨_, rfl, o, RL, q, rows, ks, rfl, ho, hRL, eRL, kn, fun H' d f s' fd hd g => ⟨s', d, f, fd, hd, by rw [en]; exact g, rfl⟩⟩, ?_⟩
  rintro σ H1 ⟨s1, d, f, fd, hd, g, rfl⟩
  have R : Rel n (ShareC q (cOf ks)) := ⟨fun i _ => ⟨0, kn.pos, rfl⟩, fun i j ⟨p, hp, e⟩ => ⟨p, hp, e.symm⟩⟩
  refine ⟨fun σ H' => Same H1 H' ∧ ∃ e, H1 e = none ∧ H' e = some (.dK []) ∧ σ = [some (.ref o), none, some (.ref d), some (.ref e), none, none], fun e he => ⟨same_new he, e, he, upd_same, rfl⟩, ?_⟩
  rintro σ H2 ⟨s2, e, fe, he, rfl⟩
  have hd2 := s2 _ _ hd
  have nde : d ≠ e := fun q => by rw [q, fe] at hd; cases hd
  -- the least colours
  refine ⟨fun σ H' => KpT e H2 H' ∧ ∃ kvs : List (Key × V), H' e = some (.dK kvs) ∧ LInv f (fun i => cOf ks i 0) n kvs ∧ ∃ z1, σ = [some (.ref o), z1, some (.ref d), some (.ref e), none, none], ⟨_, rfl, d, _, List.replicate q false, rfl, .inl hd2, shk _, neq, fun Y p pm hY sr hp => ?_⟩, ?_⟩
  · rw [kvsOf_keys] at pm
    have eY := dict_sorted_rows kn pm sr
    have lenY : Y.length = n := by rw [en, ← List.length_map (f := rk), ← eY, List.length_map]
    have sp := same_new (o := .lst (Y.map fun q => V.ref q.1)) hp
    have npe : p ≠ e := fun q => by rw [q, he] at hp; cases hp
    have kl' : ∀ H', KpT e (upd H2 p (.lst (Y.map fun q => V.ref q.1))) H' → H' p = some (.lst (Y.map fun q => V.ref q.1)) := fun H' k => k _ _ npe upd_same
    refine ⟨p, rfl, ⟨_, SqL.of upd_same⟩, for_it (walk_list (K := K) (a := p) (xs := Y.map fun q => V.ref q.1)) (fun i σ H' => KpT e (upd H2 p (.lst (Y.map fun q => V.ref q.1))) H' ∧ ∃ kvs : List (Key × V), H' e = some (.dK kvs) ∧ LInv f (fun i => cOf ks i 0) i kvs ∧ ∃ z1, σ = [some (.ref o), z1, some (.ref d), some (.ref e), none, none]) ⟨KpT.refl _, [], sp _ _ he, LInv.start _ _, _, rfl⟩ (fun i σ H' _ ⟨k', _⟩ => SqL.of (kl' _ k')) (fun i x σ H3 H4 hi ⟨k3, kvs, he3, L, z1, eo⟩ hy => ?_) (fun σ H' ⟨k3, kvs, he3, L, z⟩ => ⟨(Same.kpt sp).trans k3, kvs, he3, by rw [List.length_map, lenY] at L; exact L, z⟩)⟩
    subst eo
    obtain ⟨rfl, hx⟩ := hy
    obtain ⟨y, my, rfl, ey, lti⟩ := atR eY i x hx
    have hy4 : H4 y.1 = some (.tup ((rk (ks.getD i [])).map kV)) := by
      rw [← ey]
      exact k3 _ _ (fun q => by have := hY y my; rw [q, he] at this; cases this) (sp _ _ (hY y my))
    have hd4 := k3 _ _ nde (sp _ _ hd2)
    have G1 : DGet H4 d (.ref y.1) (valV (kvsOf ks fun i => .int (f i : Nat)) (rk (ks.getD i []))) := DGet.t hd4 hy4
    rw [kvsOf_val kn.nd _ (by omega)] at G1
    obtain ⟨x, ex, L'⟩ := L.next
    have lk : kvs.length ≤ i := by
      obtain ⟨ms, em, nm, im⟩ := L.keys
      have e1 := congrArg List.length em
      rw [List.length_map, List.length_map] at e1
      have e2 := nodup_len ms ((List.range i).map f) nm fun m hm => let ⟨j, hj, e⟩ := im m hm; List.mem_map.mpr ⟨j, List.mem_range.mpr hj, e⟩
      rw [List.length_map, List.length_range] at e2
      omega
    refine ⟨_, rfl, e, rfl, .inl ⟨_, .inl he3⟩, _, rfl, _, rfl, d, _, rfl, G1, _, rfl, y.1, _, _, _, rfl, rfl, SqT.of hy4, at0 i lti, _, DGet.k (k := .inl (f i : Int)) he3, _, rfl, y.1, _, _, _, rfl, rfl, SqT.of hy4, at0 i lti, sign x, sign (cOf ks i 0), by rw [ex], _, rfl, _, rfl, _, rfl, d, _, rfl, G1, e, _, rfl, DPut.k (k := .inl (f i : Int)) he3 (lt_line (by omega)), k3.trans kpt_put, _, upd_same, ?_, _, rfl⟩
    rw [sMin_signs]
    exact L'
  rintro σ H3 ⟨k3, kvs, he3, L, z1, rfl⟩
  have hd3 := k3 _ _ nde hd2
  have lamv : ∀ i, i < n → valV kvs (.inl (f i : Int)) = some (.str (sign (lam i))) := fun i hi => by
    obtain ⟨j, hj, ej, ev, least⟩ := L.has i hi
    rw [ev]
    have cij := (g.done R hi hj).mp ej.symm
    obtain ⟨k, hk, cik, ek⟩ := du.att i hi
    have h1 := du.le i hi j hj cij
    have h2 := least k hk ((g.done R hi hk).mpr cik).symm
    have : cOf ks j 0 = lam i := by omega
    show some (V.str (sign (cOf ks j 0))) = _
    rw [this]
  obtain ⟨ms, em, nm, im⟩ := L.keys
  have lms : ms.length ≤ n := by
    have e2 := nodup_len ms ((List.range n).map f) nm fun m hm => let ⟨j, hj, e⟩ := im m hm; List.mem_map.mpr ⟨j, List.mem_range.mpr hj, e⟩
    rw [List.length_map, List.length_range] at e2
    exact e2
  obtain ⟨code, ecode⟩ : ∃ code, code = codeOf kvs := ⟨_, rfl⟩
  have codev : ∀ i, i < n → code (f i) = lam i := fun i hi => by rw [ecode]; unfold codeOf; rw [lamv i hi]; rfl
  have lam_inj : ∀ i j, i < n → j < n → lam i = lam j → f i = f j := fun i j hi hj e => by
    obtain ⟨i', hi', ci, ei⟩ := du.att i hi
    obtain ⟨j', hj', cj, ej⟩ := du.att j hj
    have c := (ci.trans (Conn.one hj' ⟨0, kn.pos, by rw [← ei, ← ej, e]⟩)).trans (cj.symm R hj)
    exact (g.done R hi hj).mpr c
  have in_ms : ∀ i, i < n → f i ∈ ms := fun i hi => by
    have m := valV_in (lamv i hi)
    rw [em] at m
    obtain ⟨m', hm', e'⟩ := List.mem_map.mp m
    have e2 : m' = f i := by injection e' with e'; exact Int.ofNat.inj e'
    rw [← e2]; exact hm'
  -- the order
  refine ⟨fun σ H' => Same H3 H' ∧ ∃ ol, H' ol = some (.lst (ds.map fun z => V.str (sign z))) ∧ σ = [some (.ref o), z1, some (.ref d), some (.ref e), some (.ref ol), none], ⟨_, rfl, e, kvs, ms.map (fun (m : Nat) => (m : Int)), rfl, .inl he3, by rw [em, List.map_map]; rfl, by rw [List.length_map]; omega, fun ys p pm hsrt hp => ?_⟩, ?_⟩
  · obtain ⟨zs, rfl, pz⟩ := CpS.perm_lift (fun (m : Nat) => (m : Int)) pm ms rfl
    have lz : zs.length = ms.length := pz.length_eq
    have sp := same_new (o := .lst ((zs.map fun (m : Nat) => (m : Int)).map V.int)) hp
    have atz : ∀ i x, ((zs.map fun (m : Nat) => (m : Int)).map V.int)[i]? = some x → ∃ j, j < n ∧ zs[i]? = some (f j) ∧ x = V.int (f j : Nat) := fun i x hx => by
      rw [List.getElem?_map, List.getElem?_map] at hx
      obtain ⟨y, hy, e1⟩ := Option.map_eq_some_iff.mp hx
      obtain ⟨m, hm, e2⟩ := Option.map_eq_some_iff.mp hy
      obtain ⟨j, hj, e3⟩ := im m (pz.mem_iff.mp (List.mem_of_getElem? hm))
      exact ⟨j, hj, by rw [hm, e3], by rw [← e1, ← e2, e3]⟩
    refine ⟨p, rfl, ⟨_, SqL.of upd_same⟩, fun D hD => lc_rel (walk_list (K := K) (a := p) (xs := (zs.map fun (m : Nat) => (m : Int)).map V.int)) (by rw [List.length_map, List.length_map]; omega) hD (fun i y _ => ∃ z, zs[i]? = some z ∧ y = .str (sign (code z))) (fun _ _ _ _ _ r => r) (fun H' s' => SqL.of (s' _ _ upd_same)) (fun i x H4 H5 hi s4 hy => ?_) (fun σ H Q Q' f h => ?_) gName_mono (fun H' ys s4 el hR eD => ?_)⟩
    · obtain ⟨rfl, hx⟩ := hy
      obtain ⟨j, hj, ez, rfl⟩ := atz i x hx
      have G : DGet H5 e (.int (f j : Nat)) (valV kvs (.inl (f j : Int))) := DGet.k (k := .inl (f j : Int)) (s4 _ _ (sp _ _ he3))
      rw [lamv j hj] at G
      exact ⟨rfl, _, rfl, _, rfl, e, _, rfl, G, ⟨f j, ez, by rw [codev j hj]⟩, Same.refl _⟩
    · obtain ⟨v1, e1, v2, e2, d', v', k1, k2, h⟩ := h
      exact ⟨v1, e1, v2, e2, d', v', k1, k2, f _ _ h⟩
    · have ey : ys = ((zs.map code).map sign).map V.str := by
        apply List.ext_getElem?
        intro i
        by_cases lt : i < zs.length
        · have gg := List.getElem?_eq_getElem (show i < ys.length by rw [el, List.length_map, List.length_map]; exact lt)
          obtain ⟨z, hz, e2⟩ := hR i _ gg
          rw [gg, e2, List.getElem?_map, List.getElem?_map, List.getElem?_map, hz]
          rfl
        · rw [List.getElem?_eq_none (by rw [el, List.length_map, List.length_map]; omega), List.getElem?_eq_none (by rw [List.length_map, List.length_map, List.length_map]; omega)]
      rw [ey] at eD
      have pd : (zs.map code).Perm ds := by
        refine (List.perm_ext_iff_of_nodup ?_ (List.Pairwise.imp (fun h => Nat.ne_of_lt h) du.srt)).mpr fun x => ?_
        · have nz : zs.Nodup := pz.nodup_iff.mpr nm
          have all : ∀ z ∈ zs, ∃ j, j < n ∧ f j = z := fun z hz => im z (pz.mem_iff.mp hz)
          refine nodup_on nz fun a ha b hb e1 => ?_
          obtain ⟨i, hi, ei⟩ := all a ha
          obtain ⟨j, hj, ej⟩ := all b hb
          rw [← ei, ← ej, codev i hi, codev j hj] at e1
          rw [← ei, ← ej]
          exact lam_inj i j hi hj e1
        · rw [du.iff, List.mem_map]
          constructor
          · rintro ⟨z, hz, e1⟩
            obtain ⟨j, hj, ej⟩ := im z (pz.mem_iff.mp hz)
            exact ⟨j, hj, by rw [← e1, ← ej, codev j hj]⟩
          · rintro ⟨j, hj, e1⟩
            exact ⟨f j, pz.mem_iff.mpr (in_ms j hj), by rw [codev j hj, e1]⟩
      refine ⟨D, (zs.map code).map sign, rfl, SqL.of eD, by rw [List.length_map, List.length_map]; omega, fun ys' p' pm' srt' hp' => ?_⟩
      obtain ⟨us, rfl, pu⟩ := CpS.perm_lift sign pm' (zs.map code) rfl
      have eu := sorted_nats (pu.trans pd) (sorted_signs us srt') du.srt
      refine ⟨(sp.trans s4).trans (same_new hp'), p', ?_, rfl⟩
      rw [upd_same, eu, List.map_map]
      rfl
  rintro σ H4 ⟨s4, ol, hol, rfl⟩
  have hd4 := s4 _ _ hd3
  have he4 := s4 _ _ he3
  let gv : Nat → V := fun i => .str (sign (97 + ds.findIdx fun d => decide (d = lam i)))
  refine ⟨_, rfl, d, _, List.replicate q false, rfl, .inl hd4, shk _, neq, fun Y p pm hY sr hp => ?_⟩
  rw [kvsOf_keys] at pm
  have eY := dict_sorted_rows kn pm sr
  have lenY : Y.length = n := by rw [en, ← List.length_map (f := rk), ← eY, List.length_map]
  have sp := same_new (o := .lst (Y.map fun q => V.ref q.1)) hp
  refine ⟨p, rfl, ⟨_, SqL.of upd_same⟩, fun D hD => lc_rel (walk_list (K := K) (a := p) (xs := Y.map fun q => V.ref q.1)) (by rw [List.length_map]; omega) hD (fun i y H' => ∃ a b, y = .ref a ∧ H' a = some (.tup [.ref b, gv i]) ∧ H' b = some (.tup ((rk (ks.getD i [])).map kV))) (fun i y H' H'' k ⟨a, b, e1, e2, e3⟩ => ⟨a, b, e1, k _ _ e2 fun _ => nofun, k _ _ e3 fun _ => nofun⟩) (fun H' s' => SqL.of (s' _ _ upd_same)) (fun i x H5 H6 hi s5 hy => ?_) (fun σ H Q Q' f h => ?_) gName_mono (fun H' ys s5 el hR eD => ?_)⟩
  · obtain ⟨rfl, hx⟩ := hy
    obtain ⟨y, my, rfl, ey, lti⟩ := atR eY i x hx
    have sA := sp.trans s5
    have hy6 : H6 y.1 = some (.tup ((rk (ks.getD i [])).map kV)) := by rw [← ey]; exact sA _ _ (hY y my)
    have G1 : DGet H6 d (.ref y.1) (valV (kvsOf ks fun i => .int (f i : Nat)) (rk (ks.getD i []))) := DGet.t (sA _ _ hd4) hy6
    rw [kvsOf_val kn.nd _ (by omega)] at G1
    have G2 : DGet H6 e (.int (f i : Nat)) (valV kvs (.inl (f i : Int))) := DGet.k (k := .inl (f i : Int)) (sA _ _ he4)
    rw [lamv i lti] at G2
    have mem : lam i ∈ ds := (du.iff _).mpr ⟨i, lti, rfl⟩
    have jl := fI_lt mem
    have few2 := du.few
    have lam128 : ∀ z ∈ ds, z < 128 := fun z hz => by
      obtain ⟨i, hi, e1⟩ := (du.iff z).mp hz
      obtain ⟨j, hj, _, e2⟩ := du.att i hi
      have lt : j < ks.length := by omega
      rw [e1, e2]
      unfold cOf
      rw [List.getD_eq_getElem?_getD (l := ks), List.getElem?_eq_getElem lt]
      show (ks[j]).getD 0 0 < 128
      rw [List.getD_eq_getElem?_getD]
      cases e3 : ks[j][0]? with
      | none => show 0 < 128; omega
      | some x => exact kn.low _ ((kn.iff _).mp (List.getElem_mem lt)) x (List.mem_of_getElem? e3)
    have hol6 := sA _ _ hol
    refine ⟨rfl, _, rfl, _, rfl, .inl ⟨rfl, _, SqL.of hol6⟩, _, rfl, _, rfl, _, rfl, d, _, rfl, G1, e, _, rfl, G2, ol, .str (sign (lam i)), _, ds.map (fun z => PyData.str (sign z)), ds.findIdx (fun d => decide (d = lam i)), .str (sign (lam i)), rfl, rfl, .lst (SqL.of hol6) (dp_signs ds), .str _, strs_shaped lam128, str_shaped (lam128 _ mem), ?_, ?_, fun m z' hm hz' => ?_, lettersS, _, 97 + ds.findIdx (fun d => decide (d = lam i)), rfl, rfl, by decide +kernel, atI_nat ?_, two_line, fun a ha => ⟨⟨a, y.1, rfl, upd_same, same_new ha _ _ hy6⟩, same_new ha⟩⟩
    · rw [List.getElem?_map, fI_at mem]; rfl
    · rw [eqv_signs]; exact decide_eq_true rfl
    · rw [List.getElem?_map] at hz'
      obtain ⟨d', hd', e'⟩ := Option.map_eq_some_iff.mp hz'
      rw [← e', eqv_signs]
      exact decide_eq_false (fI_first hm hd')
    · rw [lettersS_list, letters, List.getElem?_map, List.getElem?_range (by omega)]; rfl
  · obtain ⟨v1, e1, v4, e4, ty, v3, e3, v2, e2, v1', e1', d1, v5, k1, k2, d2, v6, k3, k4, a1, y1, dd, ds', j, z, q1, q2, h1, h2, h3, h4, h5, h6, h7, z', i', c', e8, e9, h8, h9, hl, h⟩ := h
    exact ⟨v1, e1, v4, e4, ty, v3, e3, v2, e2, v1', e1', d1, v5, k1, k2, d2, v6, k3, k4, a1, y1, dd, ds', j, z, q1, q2, h1, h2, h3, h4, h5, h6, h7, z', i', c', e8, e9, h8, h9, hl, fun p hp => f _ _ (h p hp)⟩
  · obtain ⟨ps, eps, pr⟩ := pairT_of (K := K) (H := H') ks gv ys 0 fun i y hy => by
      rw [Nat.zero_add]; exact hR i y hy
    have eyl : ys.length = ks.length := by rw [el, List.length_map, lenY, en]
    rw [eyl, ← List.range_eq_range'] at pr
    rw [eps] at eD
    have fe' : H e = none := s1.free fe
    have sE : Same H H' := fun b u eb => by
      have e3 := k3 _ _ (fun q => by rw [q, fe'] at eb; cases eb) ((s1.trans s2) _ _ eb)
      exact ((s4.trans sp).trans s5) _ _ e3
    refine ⟨D, ps, _, rfl, eD, pr, fun dd hdd => kk _ dd (sE.trans (same_new hdd)) (sE.free hdd) ?_⟩
    rw [upd_same, mergeT_nodup _ [] (by rw [List.nil_append]; exact kvsOf_nd kn.nd gv)]
    rfl
end
end CpR
set_option Elab.async false
set_option linter.all false
set_option maxRecDepth 100000
set_option maxHeartbeats 1000000
/-! F14: merged and paired of one to three carpets. -/
namespace CpR
open PySem PySem.Spec PyProof.Rows L2 CpM CpS
theorem net_uniq {W R Hh W' R' Hh' : Nat} (ok : Ok W R Hh) (ok' : Ok W' R' Hh') (h : ∀ x y, InL W R Hh x y ↔ InL W' R' Hh' x y) : W = W' ∧ R = R' ∧ Hh = Hh' := by
  obtain ⟨d1, d2⟩ := sub_dvd ok ok' fun u v => (h u v).mp
  obtain ⟨d3, d4⟩ := sub_dvd ok' ok fun u v => (h u v).mpr
  have eW := Nat.dvd_antisymm d3 d1
  have eH := Nat.dvd_antisymm d4 d2
  subst eW eH
  have hH := ok.2
  exact ⟨rfl, ((found_at ok' (Nat.succ_le_of_lt hH) (Nat.le_refl _) ok.1).mp ((h _ _).mp (inL_self ok).2)).2, rfl⟩
theorem CmnC.uniq {M : List Cp} {W R Hh W' R' Hh' : Nat} (c : CmnC M W R Hh) (c' : CmnC M W' R' Hh') : W = W' ∧ R = R' ∧ Hh = Hh' :=
  net_uniq c.ok c'.ok fun x y => by rw [c.iff, c'.iff]
section
variable {P : Program} {w : World} {K : PySem.W.Frag} {mg : Str → Option Value} {base : Heap} {CN CC CW CL CI CE : Addr}
/-- what is asked of merged and paired -/
structure MerP (CN CC CW : Addr) (M : List Cp) (W R Hh : Nat) (m0 : Cp) (φ : Nat → Nat) (ds : List Nat) (ks : List (List Key)) : Prop where
  sm : SmallC M
  lw : LowC M
  lt : LetC M
  cm : CmnC M W R Hh
  le : W * Hh ≤ 2000
  hm0 : M[0]? = some m0
  lc : LeastC M m0 φ ds
  few : ds.length ≤ 26
  kn : Known M ks
  kfew : ks.length ≤ 26
def GoodZ (CN CC CW : Addr) (H : Hp) (W R Hh : Nat) (z : Cp) : Prop := z.Good CC CW ∧ z.At CN H ∧ ∀ u v, InL W R Hh u v → InL z.W z.R z.Hh u v
def spLMerged (CN CC CW : Addr) : Sp := fun vs H Q _ => ∃ (o : Addr) (M : List Cp) (W R Hh : Nat) (m0 : Cp) (φ : Nat → Nat) (ds : List Nat) (ks : List (List Key)), vs = [.ref o] ∧ H o = some (.lst (M.map fun m => V.ref m.p)) ∧ CpsAt CN CC CW H M ∧ M.length ≤ 3 ∧ MerP CN CC CW M W R Hh m0 φ ds ks ∧
  ∀ H' r (z y : Cp), Same H H' → H' r = some (.lst [.ref z.p, .ref y.p]) → GoodZ CN CC CW H' W R Hh z → GoodZ CN CC CW H' W R Hh y → (∀ u v, z.col u v = 97 + ds.findIdx (fun d => decide (d = φ (m0.col u v)))) → (∀ u v, y.col u v = 97 + ixOf ks (rowK M u v)) → Q (.ref r) H'
theorem ok_law_merged (T : Txt K mg CN CC CW CL) (TE : TxtE K mg CI CE) : Df P w K mg base CX0 10 "_law_merged" (spLMerged CN CC CW) := by
  refine df_of T.d_law_merged sc_law_merged b_law_merged (fun vs H Q E ⟨_, _, _, _, _, _, _, _, _, e, _⟩ => by rw [e]; rfl) (fun fa cdv A outer s H vs Q E hr h => ?_)
  obtain ⟨o, M, W, R, Hh, m0, φ, ds, ks, rfl, ho, hM, l3, mp, kk⟩ := h
  have n0 := sc_law_merged.nd
  have D1 := (ok_merged (P := P) (w := w) (base := base) T TE).calm
  have D2 := (ok_paired (P := P) (w := w) (base := base) T TE).calm
  have ne : M ≠ [] := fun e => by have := mp.hm0; rw [e] at this; cases this
  refine ⟨_, Evl.pss_cut (ps_if (pt_cmpR op_eq (pe_callB call_len_seq (by rfl) T.bt.len PySem.boot_len (pa_cons (pv 0) pa_nil)) pe_int (nomark _))
      (pss_one (ps_ret (pe_lst (pa_cons (pe_df (E := E0) D1 hr (by decide) (by rfl) pass0 (pa_cons (pe_ix ix_list (pv 0) pe_int (fun _ _ => rfl)) pa_nil)) (pa_cons (pe_df (E := E0) D2 hr (by decide) (by rfl) pass0 (pa_cons (pe_ix ix_list (pv 0) pe_int (fun _ _ => rfl)) pa_nil)) pa_nil))))) pss_nil)
    (Evl.pss_cut (ps_if (pt_cmpR op_eq (pe_callB call_len_seq (by rfl) T.bt.len PySem.boot_len (pa_cons (pv 0) pa_nil)) pe_int (nomark _))
      (pss_one (ps_ret (pe_lst (pa_cons (pe_df (E := E0) D1 hr (by decide) (by rfl) pass0 (pa_cons (pe_ix ix_list (pv 0) pe_int (fun _ _ => rfl)) (pa_cons (pe_ix ix_list (pv 0) pe_int (fun _ _ => rfl)) pa_nil))) (pa_cons (pe_df (E := E0) D2 hr (by decide) (by rfl) pass0 (pa_cons (pe_ix ix_list (pv 0) pe_int (fun _ _ => rfl)) (pa_cons (pe_ix ix_list (pv 0) pe_int (fun _ _ => rfl)) pa_nil))) pa_nil))))) pss_nil)
    (pss_one (ps_ret (pe_lst (pa_cons (pe_df (E := E0) D1 hr (by decide) (by rfl) pass0 (pa_cons (pe_ix ix_list (pv 0) pe_int (fun _ _ => rfl)) (pa_cons (pe_ix ix_list (pv 0) pe_int (fun _ _ => rfl)) (pa_cons (pe_ix ix_list (pv 0) pe_int (fun _ _ => rfl)) pa_nil)))) (pa_cons (pe_df (E := E0) D2 hr (by decide) (by rfl) pass0 (pa_cons (pe_ix ix_list (pv 0) pe_int (fun _ _ => rfl)) (pa_cons (pe_ix ix_list (pv 0) pe_int (fun _ _ => rfl)) (pa_cons (pe_ix ix_list (pv 0) pe_int (fun _ _ => rfl)) pa_nil)))) pa_nil)))))), ?_⟩
  -- the two calls
  have go1 : ∀ {Q1 : VK}, (∀ H' (z : Cp), Same H H' → GoodZ CN CC CW H' W R Hh z → (∀ u v, z.col u v = 97 + ds.findIdx (fun d => decide (d = φ (m0.col u v)))) → Q1 (.ref z.p) H') → starSp (spMerged CN CC CW CI CE) (M.map fun m => V.ref m.p) H Q1 (fun _ _ _ => False) := fun {Q1} k => by
    refine ⟨by rw [List.length_map]; omega, fun p hp => ⟨p, M, rfl, upd_same, hM.same (same_new hp), mp.sm, mp.lw, mp.lt, fun e => absurd e ne, fun _ W' R' Hh' c' => ?_⟩⟩
    obtain ⟨rfl, rfl, rfl⟩ := mp.cm.uniq c'
    exact ⟨fun gt => absurd mp.le (by omega), fun _ => ⟨m0, φ, ds, mp.hm0, mp.lc, mp.few, fun H' z s' _ g a sub col => k H' z ((same_new hp).trans s') ⟨g, a, sub⟩ col⟩⟩
  have go2 : ∀ {H1 : Hp} {Q1 : VK}, Same H H1 → (∀ H' (y : Cp), Same H1 H' → GoodZ CN CC CW H' W R Hh y → (∀ u v, y.col u v = 97 + ixOf ks (rowK M u v)) → Q1 (.ref y.p) H') → starSp (spPaired CN CC CW CI CE) (M.map fun m => V.ref m.p) H1 Q1 (fun _ _ _ => False) := fun {H1 Q1} s1 k => by
    refine ⟨by rw [List.length_map]; omega, fun p hp => ⟨p, M, rfl, upd_same, (hM.same s1).same (same_new hp), mp.sm, mp.lw, fun e => absurd e ne, fun _ W' R' Hh' c' => ?_⟩⟩
    obtain ⟨rfl, rfl, rfl⟩ := mp.cm.uniq c'
    exact ⟨fun gt => absurd mp.le (by omega), fun _ => ⟨ks, mp.kn, mp.kfew, fun H' y s' _ g a sub col => k H' y ((same_new hp).trans s') ⟨g, a, sub⟩ col⟩⟩
  have fin : ∀ (H1 H2 : Hp) (z y : Cp) (r : Addr), Same H H1 → GoodZ CN CC CW H1 W R Hh z → (∀ u v, z.col u v = 97 + ds.findIdx (fun d => decide (d = φ (m0.col u v)))) → Same H1 H2 → GoodZ CN CC CW H2 W R Hh y → (∀ u v, y.col u v = 97 + ixOf ks (rowK M u v)) → H2 r = none → Q (.ref r) (upd H2 r (.lst [V.ref z.p, V.ref y.p])) := fun H1 H2 z y r s1 gz cz s2 gy cy hr2 => by
    have sr := same_new (o := .lst [V.ref z.p, V.ref y.p]) hr2
    exact kk _ r z y ((s1.trans s2).trans sr) upd_same ⟨gz.1, CarpAt.same gz.2.1 (s2.trans sr), gz.2.2⟩ ⟨gy.1, CarpAt.same gy.2.1 sr, gy.2.2⟩ cz cy
  rcases M with _ | ⟨a, _ | ⟨b, _ | ⟨c, _ | ⟨_, _⟩⟩⟩⟩
  · exact absurd rfl ne
  · refine ⟨fun σ H' => False, ⟨_, rfl, o, _, rfl, .inl (SqL.of ho), rfl, _, rfl, iteT ?_⟩, fun _ _ q => q.elim⟩
    refine ⟨_, rfl, o, _, _, .ref a.p, rfl, rfl, SqL.of ho, atI_nat (j := 0) rfl, go1 fun H1 z s1 gz cz => ⟨_, rfl, o, _, _, .ref a.p, rfl, rfl, SqL.of (s1 _ _ ho), atI_nat (j := 0) rfl, go2 s1 fun H2 y s2 gy cy => ⟨two_line, fun r hr2 => fin H1 H2 z y r s1 gz cz s2 gy cy hr2⟩⟩⟩
  · refine ⟨fun σ H' => H' = H ∧ σ = [some (.ref o)], ⟨_, rfl, o, _, rfl, .inl (SqL.of ho), rfl, _, rfl, iteF ⟨rfl, rfl⟩⟩, ?_⟩
    rintro σ H' ⟨rfl, rfl⟩
    refine ⟨fun σ H' => False, ⟨_, rfl, o, _, rfl, .inl (SqL.of ho), rfl, _, rfl, iteT ?_⟩, fun _ _ q => q.elim⟩
    refine ⟨_, rfl, o, _, _, .ref a.p, rfl, rfl, SqL.of ho, atI_nat (j := 0) rfl, _, rfl, o, _, _, .ref b.p, rfl, rfl, SqL.of ho, atI_nat (j := 1) rfl, go1 fun H1 z s1 gz cz => ⟨_, rfl, o, _, _, .ref a.p, rfl, rfl, SqL.of (s1 _ _ ho), atI_nat (j := 0) rfl, _, rfl, o, _, _, .ref b.p, rfl, rfl, SqL.of (s1 _ _ ho), atI_nat (j := 1) rfl, go2 s1 fun H2 y s2 gy cy => ⟨two_line, fun r hr2 => fin H1 H2 z y r s1 gz cz s2 gy cy hr2⟩⟩⟩
  · refine ⟨fun σ H' => H' = H ∧ σ = [some (.ref o)], ⟨_, rfl, o, _, rfl, .inl (SqL.of ho), rfl, _, rfl, iteF ⟨rfl, rfl⟩⟩, ?_⟩
    rintro σ H' ⟨rfl, rfl⟩
    refine ⟨fun σ H1 => H1 = H' ∧ σ = [some (.ref o)], ⟨_, rfl, o, _, rfl, .inl (SqL.of ho), rfl, _, rfl, iteF ⟨rfl, rfl⟩⟩, ?_⟩
    rintro σ H'' ⟨rfl, rfl⟩
    refine ⟨_, rfl, o, _, _, .ref a.p, rfl, rfl, SqL.of ho, atI_nat (j := 0) rfl, _, rfl, o, _, _, .ref b.p, rfl, rfl, SqL.of ho, atI_nat (j := 1) rfl, _, rfl, o, _, _, .ref c.p, rfl, rfl, SqL.of ho, atI_nat (j := 2) rfl, go1 fun H1 z s1 gz cz => ⟨_, rfl, o, _, _, .ref a.p, rfl, rfl, SqL.of (s1 _ _ ho), atI_nat (j := 0) rfl, _, rfl, o, _, _, .ref b.p, rfl, rfl, SqL.of (s1 _ _ ho), atI_nat (j := 1) rfl, _, rfl, o, _, _, .ref c.p, rfl, rfl, SqL.of (s1 _ _ ho), atI_nat (j := 2) rfl, go2 s1 fun H2 y s2 gy cy => ⟨two_line, fun r hr2 => fin H1 H2 z y r s1 gz cz s2 gy cy hr2⟩⟩⟩
  · simp at l3
end
end CpR
set_option Elab.async false
set_option linter.all false
set_option maxRecDepth 100000
set_option maxHeartbeats 1000000
/-! M05: that what the law draws has a common net, known rows and least colours. Plain. -/
namespace CpR
open PySem PySem.Spec PyProof.Rows L2 CpM CpS
/-! ### the common net -/
theorem bez_fac (a p : Nat) (hp : 0 < p) : ∃ f : Int, (p : Int) ∣ f * a - (Nat.gcd a p : Nat) := by
  have key : ∀ (n a p : Nat), p ≤ n → ∃ f g : Int, f * a + g * p = (Nat.gcd a p : Nat) := by
    intro n
    induction n with
    | zero =>
      intro a p h
      have e : p = 0 := by omega
      subst e
      exact ⟨1, 0, by rw [Nat.gcd_zero_right]; omega⟩
    | succ n ih =>
      intro a p h
      by_cases z : p = 0
      · subst z
        exact ⟨1, 0, by rw [Nat.gcd_zero_right]; omega⟩
      · obtain ⟨f, g, e⟩ := ih p (a % p) (by have := Nat.mod_lt a (Nat.pos_of_ne_zero z); omega)
        refine ⟨g, f - g * ((a / p : Nat) : Int), ?_⟩
        have e2 : (a : Int) = (p : Int) * ((a / p : Nat) : Int) + ((a % p : Nat) : Int) := by
          rw [← Int.natCast_mul, ← Int.natCast_add]; exact congrArg _ (Nat.div_add_mod a p).symm
        have e3 : Nat.gcd a p = Nat.gcd p (a % p) := by rw [Nat.gcd_comm a p, Nat.gcd_rec p a, Nat.gcd_comm]
        rw [e3, ← e, e2]
        have e4 : (g : Int) * ((p : Int) * ((a / p : Nat) : Int) + ((a % p : Nat) : Int)) = g * ((p : Int) * ((a / p : Nat) : Int)) + g * ((a % p : Nat) : Int) := Int.mul_add _ _ _
        have e5 : (f - g * ((a / p : Nat) : Int)) * (p : Int) = f * p - g * ((a / p : Nat) : Int) * p := Int.sub_mul _ _ _
        have e6 : g * ((p : Int) * ((a / p : Nat) : Int)) = g * ((a / p : Nat) : Int) * p := by rw [Int.mul_comm (p : Int), Int.mul_assoc]
        rw [e4, e5, e6]
        omega
  obtain ⟨f, g, e⟩ := key p a p (Nat.le_refl _)
  exact ⟨f, -g, by rw [← e, Int.mul_neg, Int.mul_comm (p : Int)]; omega⟩
theorem cmn_ex {a b c p q r : Nat} (h1 : Ok a b c) (h2 : Ok p q r) : ∃ W R Hh, Cmn a b c p q r W R Hh := by
  obtain ⟨f, hf⟩ := bez_fac a p h2.pa
  exact ⟨_, _, _, cmn h1 h2 hf rfl rfl rfl rfl rfl rfl rfl rfl rfl⟩
theorem cmnC_ex : ∀ {M : List Cp}, (∀ m ∈ M, Ok m.W m.R m.Hh) → ∃ W R Hh, CmnC M W R Hh
  | [], _ => ⟨1, 0, 1, ⟨by decide, by decide⟩, fun x y => ⟨fun _ m hm => (by cases hm), fun _ => ⟨⟨y, by omega⟩, ⟨x, by omega⟩⟩⟩, Nat.le_refl _⟩
  | m :: M, h => by
    obtain ⟨W, R, Hh, c⟩ := cmnC_ex (M := M) fun m' hm' => h m' (List.mem_cons_of_mem _ hm')
    obtain ⟨W', R', H', d⟩ := cmn_ex (h m List.mem_cons_self) c.ok
    refine ⟨W', R', H', d.ok, fun x y => ?_, ?_⟩
    · rw [d.iff, c.iff]
      constructor
      · rintro ⟨a, b⟩ m' hm'
        rcases List.mem_cons.mp hm' with e | hm'
        · rw [e]; exact a
        · exact b m' hm'
      · intro all
        exact ⟨all m List.mem_cons_self, fun m' hm' => all m' (List.mem_cons_of_mem _ hm')⟩
    · show W' * H' ≤ m.W * m.Hh * prodC M
      have e1 := d.le
      have e2 := c.le
      rw [Nat.mul_mul_mul_comm] at e1
      exact Nat.le_trans e1 (Nat.mul_le_mul_left _ e2)
/-! ### the known rows -/
def ddup : List (List Nat) → List (List Nat)
  | [] => []
  | x :: xs => if x ∈ ddup xs then ddup xs else x :: ddup xs
theorem ddup_nd : ∀ xs, (ddup xs).Nodup
  | [] => .nil
  | x :: xs => by
    unfold ddup
    split
    · exact ddup_nd xs
    · rename_i h
      exact List.nodup_cons.mpr ⟨h, ddup_nd xs⟩
theorem ddup_mem : ∀ (xs : List (List Nat)) (y : List Nat), y ∈ ddup xs ↔ y ∈ xs
  | [], y => Iff.rfl
  | x :: xs, y => by
    unfold ddup
    split
    · rename_i h
      rw [ddup_mem xs y, List.mem_cons]
      constructor
      · exact .inr
      · rintro (e | m)
        · rw [e]; exact (ddup_mem xs x).mp h
        · exact m
    · rw [List.mem_cons, List.mem_cons, ddup_mem xs y]
theorem known_ex {rows : List (List Nat)} {q : Nat} (hl : ∀ r ∈ rows, r.length = q) : ∃ ks : List (List Nat), ks.Nodup ∧ (ks.map rk).Pairwise (fun a b => rLt b a = false) ∧ ∀ r, r ∈ ks ↔ r ∈ rows := by
  let L : Rw := (ddup rows).map fun r => (0, rk r)
  have hs : ∀ p ∈ L, shp p.2 = List.replicate q false := fun p hp => by
    obtain ⟨r, hr, e⟩ := List.mem_map.mp hp
    rw [← e]
    show shp (rk r) = _
    rw [rk_shp, hl r ((ddup_mem rows r).mp hr)]
  have sr := sort_rows hs
  have pm : (L.mergeSort (PySem.W.dataLe false fun p => encR p.2)).Perm L := List.mergeSort_perm ..
  have pk : ((L.mergeSort (PySem.W.dataLe false fun p => encR p.2)).map (·.2)).Perm ((ddup rows).map rk) := by
    have := pm.map (·.2)
    rwa [show L.map (·.2) = (ddup rows).map rk by rw [List.map_map]; rfl] at this
  obtain ⟨ks, e1, e2⟩ := CpS.perm_lift rk pk (ddup rows) rfl
  refine ⟨ks, e2.nodup_iff.mpr (ddup_nd rows), ?_, fun r => by rw [e2.mem_iff, ddup_mem]⟩
  rw [← e1]
  exact List.pairwise_map.mpr sr
/-- all rows over the palettes -/
def prodL : List (List Nat) → List (List Nat)
  | [] => [[]]
  | p :: ps => (prodL ps).flatMap fun r => p.map fun c => c :: r
theorem prodL_len : ∀ {ps : List (List Nat)}, (∀ p ∈ ps, p.length ≤ 3) → (prodL ps).length ≤ 3 ^ ps.length
  | [], _ => Nat.le_refl _
  | p :: ps, h => by
    have ih := prodL_len (ps := ps) fun p' hp' => h p' (List.mem_cons_of_mem _ hp')
    have hp := h p List.mem_cons_self
    unfold prodL
    rw [List.length_flatMap]
    have : ∀ l : List (List Nat), (l.map fun r => (p.map fun c => c :: r).length).sum ≤ 3 * l.length := by
      intro l
      induction l with
      | nil => exact Nat.le_refl _
      | cons x l ih =>
        rw [List.map_cons, List.sum_cons, List.length_map, List.length_cons]
        omega
    refine Nat.le_trans (this _) ?_
    rw [List.length_cons, Nat.pow_succ]
    omega
theorem prodL_mem : ∀ {ps : List (List Nat)} {r : List Nat}, r.length = ps.length → (∀ (i c : Nat) (p : List Nat), r[i]? = some c → ps[i]? = some p → c ∈ p) → r ∈ prodL ps
  | [], [], _, _ => List.mem_singleton.mpr rfl
  | [], _ :: _, h, _ => by simp at h
  | _ :: _, [], h, _ => by simp at h
  | p :: ps, c :: r, h, k => by
    unfold prodL
    refine List.mem_flatMap.mpr ⟨r, prodL_mem (by simpa using h) (fun i c' p' h1 h2 => k (i + 1) c' p' (by simpa using h1) (by simpa using h2)), List.mem_map.mpr ⟨c, k 0 c p rfl rfl, rfl⟩⟩
/-! ### the least colours -/
theorem least_ex {S : Nat → Prop} (h : ∃ n, S n) : ∃ m, S m ∧ ∀ k, S k → m ≤ k := by
  obtain ⟨n, hn⟩ := h
  induction n using Nat.strongRecOn with
  | ind n ih =>
    by_cases z : ∃ k, k < n ∧ S k
    · obtain ⟨k, hk, sk⟩ := z
      exact ih k hk sk
    · exact ⟨n, hn, fun k sk => Nat.le_of_not_lt fun lt => z ⟨k, lt, sk⟩⟩
/-- the carpets' row at a place -/
def rowC (M : List Cp) (x y : Int) : List Nat := M.map fun m => m.col x y
theorem rowC_rk (M : List Cp) (x y : Int) : rk (rowC M x y) = rowK M x y := by rw [rk, rowC, rowK, List.map_map]; rfl
/-- what the law's drawn carpets keep -/
structure Drawn (M : List Cp) (m0 : Cp) (rows ks : List (List Nat)) : Prop where
  hm0 : M[0]? = some m0
  l3 : M.length ≤ 3
  low : ∀ m ∈ M, ∀ x y, m.col x y ∈ letters
  kn : KnownR M.length rows ks
  here : ∀ x y, rowC M x y ∈ rows
  only : ∀ r ∈ rows, ∃ x y, r = rowC M x y
theorem letters_low : ∀ c ∈ letters, c < 128 ∧ 97 ≤ c := by decide
section
variable {M : List Cp} {m0 : Cp} {rows ks : List (List Nat)}
theorem Drawn.at_ (D : Drawn M m0 rows ks) {i : Nat} (h : i < ks.length) : ∃ x y, ks.getD i [] = rowC M x y := by
  rw [List.getD_eq_getElem?_getD, List.getElem?_eq_getElem h]
  exact D.only _ ((D.kn.iff _).mp (List.getElem_mem h))
theorem Drawn.ix (D : Drawn M m0 rows ks) (x y : Int) : ∃ i, i < ks.length ∧ ks.getD i [] = rowC M x y := by
  obtain ⟨i, hi, e⟩ := List.getElem_of_mem ((D.kn.iff _).mpr (D.here x y))
  exact ⟨i, hi, by rw [List.getD_eq_getElem?_getD, List.getElem?_eq_getElem hi]; exact e⟩
theorem rowC_at {p : Nat} {m : Cp} (h : M[p]? = some m) (x y : Int) : (rowC M x y).getD p 0 = m.col x y := by
  rw [rowC, List.getD_eq_getElem?_getD, List.getElem?_map, h]; rfl
theorem Drawn.rowsC (D : Drawn M m0 rows ks) : RowsC ks.length M.length (cOf ks) (TieP M) := by
  refine ⟨D.kn.pos, fun i p hi hp => ?_, fun a b => ?_⟩
  · obtain ⟨x, y, e⟩ := D.at_ hi
    have hm := List.getElem?_eq_getElem hp
    show (ks.getD i []).getD p 0 < 128
    rw [e, rowC_at hm]
    exact (letters_low _ (D.low _ (List.getElem_mem hp) x y)).1
  · constructor
    · rintro ⟨x, y, j, m, m', h0, hj, rfl, rfl⟩
      obtain ⟨i, hi, e⟩ := D.ix x y
      have jl : j < M.length := (List.getElem?_eq_some_iff.mp hj).1
      refine ⟨i, j, hi, jl, ?_, ?_⟩
      · show _ = (ks.getD i []).getD 0 0
        rw [e, rowC_at h0]
      · show _ = _ + (ks.getD i []).getD j 0
        rw [e, rowC_at hj]
    · rintro ⟨i, p, hi, hp, rfl, rfl⟩
      obtain ⟨x, y, e⟩ := D.at_ hi
      have hm := List.getElem?_eq_getElem hp
      refine ⟨x, y, p, _, m0, D.hm0, hm, ?_, ?_⟩
      · show (ks.getD i []).getD 0 0 = _
        rw [e, rowC_at D.hm0]
      · show _ + (ks.getD i []).getD p 0 = _
        rw [e, rowC_at hm]
theorem Drawn.c0 (D : Drawn M m0 rows ks) {i : Nat} {x y : Int} (e : ks.getD i [] = rowC M x y) : cOf ks i 0 = m0.col x y := by
  show (ks.getD i []).getD 0 0 = _
  rw [e, rowC_at D.hm0]
open Classical in
/-- the least colours, for merged and for the law -/
theorem Drawn.least (D : Drawn M m0 rows ks) : ∃ (φ : Nat → Nat) (ds : List Nat), LeastC M m0 φ ds ∧ DueR ks.length M.length (cOf ks) (fun i => φ (cOf ks i 0)) ds := by
  have ex : ∀ v, ∃ m, Tied (TieP M) v m ∧ ∀ k, Tied (TieP M) v k → m ≤ k := fun v => least_ex ⟨v, .refl v⟩
  let φ : Nat → Nat := fun v => Classical.choose (ex v)
  have hφ : ∀ v, Tied (TieP M) v (φ v) ∧ ∀ k, Tied (TieP M) v k → φ v ≤ k := fun v => Classical.choose_spec (ex v)
  have R := D.rowsC
  have att : ∀ i, i < ks.length → ∃ j, j < ks.length ∧ Conn ks.length (ShareC M.length (cOf ks)) i j ∧ φ (cOf ks i 0) = cOf ks j 0 := fun i hi => by
    obtain ⟨t, l⟩ := hφ (cOf ks i 0)
    obtain ⟨j, hj, c, le⟩ := R.least hi t
    refine ⟨j, hj, c, Nat.le_antisymm (l _ ((R.conn hi hj).mpr c)) le⟩
  have inl : ∀ x y, φ (m0.col x y) ∈ letters := fun x y => by
    obtain ⟨i, hi, e⟩ := D.ix x y
    obtain ⟨j, hj, _, e2⟩ := att i hi
    obtain ⟨x', y', e3⟩ := D.at_ hj
    rw [← D.c0 e, e2, D.c0 e3]
    exact D.low m0 (List.mem_of_getElem? D.hm0) x' y'
  have mem : ∀ d, d ∈ letters.filter (fun d => decide (∃ x y, d = φ (m0.col x y))) ↔ ∃ x y, d = φ (m0.col x y) := fun d => by
    rw [List.mem_filter]
    constructor
    · rintro ⟨_, h⟩; exact of_decide_eq_true h
    · rintro ⟨x, y, e⟩
      exact ⟨by rw [e]; exact inl x y, decide_eq_true ⟨x, y, e⟩⟩
  have srt : (letters.filter (fun d => decide (∃ x y, d = φ (m0.col x y)))).Pairwise (· < ·) := List.Pairwise.filter _ (by decide : letters.Pairwise (· < ·))
  refine ⟨φ, letters.filter (fun d => decide (∃ x y, d = φ (m0.col x y))), ⟨fun x y => (hφ _).1, fun x y b t => (hφ _).2 b t, srt, mem⟩, ⟨att, fun i hi j hj c => (hφ _).2 _ ((R.conn hi hj).mpr c), srt, fun d => ?_, ?_⟩⟩
  · rw [mem]
    constructor
    · rintro ⟨x, y, e⟩
      obtain ⟨i, hi, e2⟩ := D.ix x y
      exact ⟨i, hi, by rw [e, ← D.c0 e2]⟩
    · rintro ⟨i, hi, e⟩
      obtain ⟨x, y, e2⟩ := D.at_ hi
      exact ⟨x, y, by rw [e, D.c0 e2]⟩
  · have := List.length_filter_le (fun d => decide (∃ x y, d = φ (m0.col x y))) letters
    have : letters.length = 26 := by decide
    omega
theorem Drawn.known (D : Drawn M m0 rows ks) : Known M (ks.map rk) := by
  refine ⟨List.Pairwise.map rk (fun a b h e => h (rk_inj e)) D.kn.nd, D.kn.srt, fun k => ?_⟩
  constructor
  · intro m
    obtain ⟨r, hr, e⟩ := List.mem_map.mp m
    obtain ⟨x, y, e2⟩ := D.only r ((D.kn.iff r).mp hr)
    exact ⟨x, y, by rw [← e, e2, rowC_rk]⟩
  · rintro ⟨x, y, e⟩
    exact List.mem_map.mpr ⟨_, (D.kn.iff _).mpr (D.here x y), by rw [rowC_rk, e]⟩
end
end CpR
set_option Elab.async false
set_option linter.all false
set_option maxRecDepth 100000
set_option maxHeartbeats 1000000
/-! M06: what the law's turn needs, besides its walk. -/
namespace CpR
open PySem PySem.Spec PyProof.Rows L2 CpM CpS
theorem prodC_le : ∀ {M : List Cp}, (∀ m ∈ M, m.W * m.Hh ≤ 10) → prodC M ≤ 10 ^ M.length
  | [], _ => Nat.le_refl _
  | m :: M, h => by
    have ih := prodC_le (M := M) fun m' hm' => h m' (List.mem_cons_of_mem _ hm')
    show m.W * m.Hh * prodC M ≤ 10 ^ (M.length + 1)
    rw [Nat.pow_succ, Nat.mul_comm (10 ^ _)]
    exact Nat.mul_le_mul (h m List.mem_cons_self) ih
theorem small_of {M : List Cp} (h : ∀ m ∈ M, m.W * m.Hh ≤ 10) (l3 : M.length ≤ 3) : SmallC M := by
  refine ⟨fun i hi => ?_, by omega⟩
  have := prodC_le (M := M.take i) fun m hm => h m (List.mem_of_mem_take hm)
  have l : (M.take i).length ≤ 2 := by rw [List.length_take]; omega
  have : 10 ^ (M.take i).length ≤ 10 ^ 2 := Nat.pow_le_pow_right (by decide) l
  omega
theorem pair_small {M : List Cp} {W R Hh W' R' H' : Nat} {a b : Cp} (c : CmnC M W R Hh) (ha : ∀ u v, InL W R Hh u v → InL a.W a.R a.Hh u v) (hb : ∀ u v, InL W R Hh u v → InL b.W b.R b.Hh u v) (c' : CmnC [a, b] W' R' H') : W' * H' ≤ W * Hh := by
  obtain ⟨d1, d2⟩ := sub_dvd c.ok c'.ok fun u v h => (c'.iff u v).mpr fun m hm => by
    rcases List.mem_cons.mp hm with e | hm
    · rw [e]; exact ha u v h
    · rw [List.mem_singleton.mp hm]; exact hb u v h
  exact Nat.mul_le_mul (Nat.le_of_dvd c.ok.pa d1) (Nat.le_of_dvd c.ok.2 d2)
/-- the carpets fit the drawn nets and texts -/
def Fit (M : List Cp) (L : List Wv) : Prop := ∀ (j : Nat) (m : Cp) (v : Wv), M[j]? = some m → L[j]? = some v → (∀ x y, m.col x y = CpM.col v.a v.b v.c v.cs x y) ∧ m.W * m.Hh ≤ v.a * v.c
theorem Fit.nil {L : List Wv} : Fit [] L := fun j m v h => by simp at h
theorem Fit.snoc {M : List Cp} {L : List Wv} {m : Cp} {v : Wv} (f : Fit M L) (hv : L[M.length]? = some v) (h1 : ∀ x y, m.col x y = CpM.col v.a v.b v.c v.cs x y) (h2 : m.W * m.Hh ≤ v.a * v.c) : Fit (M ++ [m]) L := fun j m' v' e1 e2 => by
  by_cases lt : j < M.length
  · rw [List.getElem?_append_left lt] at e1
    exact f j m' v' e1 e2
  · rw [List.getElem?_append_right (by omega)] at e1
    have e0 : j - M.length = 0 := by
      have := (List.getElem?_eq_some_iff.mp e1).1
      simp at this
      omega
    rw [e0] at e1
    have ej : j = M.length := by omega
    subst ej
    rw [hv] at e2
    rw [← Option.some.inj e1, ← Option.some.inj e2]
    exact ⟨h1, h2⟩
theorem fit_at {M : List Cp} {L : List Wv} (f : Fit M L) (e : M.length = L.length) {m : Cp} (hm : m ∈ M) : ∃ v ∈ L, (∀ x y, m.col x y = CpM.col v.a v.b v.c v.cs x y) ∧ m.W * m.Hh ≤ v.a * v.c := by
  obtain ⟨j, hj, ej⟩ := List.getElem_of_mem hm
  have hv := List.getElem?_eq_getElem (l := L) (i := j) (by omega)
  exact ⟨L[j]'(by omega), List.getElem_mem _, f j m _ (by rw [List.getElem?_eq_getElem hj, ej]) hv⟩
/-- what is drawn fits together -/
theorem drawn_of {M : List Cp} {L : List Wv} {W R Hh : Nat} (f : Fit M L) (eM : M.length = L.length) (okL : ∀ v ∈ L, WvOk v) (l0 : 0 < L.length) (l3 : L.length ≤ 3) (okM : ∀ m ∈ M, Ok m.W m.R m.Hh) (c : CmnC M W R Hh) :
    ∃ m0 ks, Drawn M m0 ((List.range (W * Hh)).map fun i => rowC M ((i % W : Nat) : Int) ((i / W : Nat) : Int)) ks := by
  have low : ∀ m ∈ M, ∀ x y, m.col x y ∈ letters := fun m hm x y => by
    obtain ⟨v, hv, h1, _⟩ := fit_at f eM hm
    have o := okL v hv
    rw [h1]
    exact o.pal.letters _ (col_mem o.ok o.len x y)
  have here : ∀ x y, rowC M x y ∈ (List.range (W * Hh)).map fun i => rowC M ((i % W : Nat) : Int) ((i / W : Nat) : Int) := fun x y => by
    obtain ⟨i, hi, e⟩ := c.meet okM x y
    exact List.mem_map.mpr ⟨i, List.mem_range.mpr hi, (List.map_congr_left fun m hm => by rw [e m hm])⟩
  have only : ∀ r ∈ (List.range (W * Hh)).map (fun i => rowC M ((i % W : Nat) : Int) ((i / W : Nat) : Int)), ∃ x y, r = rowC M x y := fun r hr => by
    obtain ⟨i, _, e⟩ := List.mem_map.mp hr
    exact ⟨_, _, e.symm⟩
  have len : ∀ r ∈ (List.range (W * Hh)).map (fun i => rowC M ((i % W : Nat) : Int) ((i / W : Nat) : Int)), r.length = M.length := fun r hr => by
    obtain ⟨x, y, e⟩ := only r hr
    rw [e, rowC, List.length_map]
  obtain ⟨ks, nd, srt, iff⟩ := known_ex len
  have m0 : M[0]? = some (M[0]'(by omega)) := List.getElem?_eq_getElem _
  refine ⟨_, ks, m0, by omega, low, ⟨by omega, nd, srt, iff, len, fun r hr x hx => ?_, ?_, by omega⟩, here, only⟩
  · obtain ⟨u, v, e⟩ := only r hr
    rw [e] at hx
    obtain ⟨m, hm, e2⟩ := List.mem_map.mp hx
    rw [← e2]
    exact (letters_low _ (low m hm u v)).1
  · -- the palettes
    have pals : ∃ ps : List (List Nat), ps.length = M.length ∧ (∀ p ∈ ps, p.length ≤ 3) ∧ ∀ (j : Nat) (p : List Nat) (m : Cp), ps[j]? = some p → M[j]? = some m → ∀ x y, m.col x y ∈ p := by
      have : ∀ M' : List Cp, (∀ m ∈ M', ∃ p : List Nat, p.length ≤ 3 ∧ ∀ x y, m.col x y ∈ p) → ∃ ps : List (List Nat), ps.length = M'.length ∧ (∀ p ∈ ps, p.length ≤ 3) ∧ ∀ (j : Nat) (p : List Nat) (m : Cp), ps[j]? = some p → M'[j]? = some m → ∀ x y, m.col x y ∈ p := by
        intro M'
        induction M' with
        | nil => exact fun _ => ⟨[], rfl, fun p hp => (by cases hp), fun j p m h => by simp at h⟩
        | cons m M' ih =>
          intro h
          obtain ⟨p, h1, h2⟩ := h m List.mem_cons_self
          obtain ⟨ps, e1, e2, e3⟩ := ih fun m' hm' => h m' (List.mem_cons_of_mem _ hm')
          refine ⟨p :: ps, by rw [List.length_cons, List.length_cons, e1], fun p' hp' => ?_, fun j p' m' hp' hm' => ?_⟩
          · rcases List.mem_cons.mp hp' with e | hp'
            · rw [e]; exact h1
            · exact e2 p' hp'
          · cases j with
            | zero =>
              rw [← Option.some.inj hp', ← Option.some.inj hm']
              exact h2
            | succ j => exact e3 j p' m' (by simpa using hp') (by simpa using hm')
      refine this M fun m hm => ?_
      obtain ⟨v, hv, h1, _⟩ := fit_at f eM hm
      have o := okL v hv
      obtain ⟨p, p1, _, p3⟩ := o.pal
      exact ⟨p, p1, fun x y => by rw [h1]; exact p3 _ (col_mem o.ok o.len x y)⟩
    obtain ⟨ps, e1, e2, e3⟩ := pals
    have l1 := nodup_len ks (prodL ps) nd fun r hr => by
      obtain ⟨x, y, e⟩ := only r ((iff r).mp hr)
      refine prodL_mem (by rw [e, rowC, List.length_map, e1]) fun i c p h1 h2 => ?_
      rw [e, rowC, List.getElem?_map] at h1
      obtain ⟨m, hm, e4⟩ := Option.map_eq_some_iff.mp h1
      rw [← e4]
      exact e3 i p m h2 hm x y
    have l2 := prodL_len e2
    have : 3 ^ ps.length ≤ 3 ^ 3 := Nat.pow_le_pow_right (by decide) (by omega)
    omega
/-! ### the heap -/
theorem TapeAt.keepN {H H' : Hp} {t l : Addr} {ns : List Int} (h : TapeAt H t l ns) (k : KpT t H H') : KeepN H H' := fun b o e n => k b o (h.ne e n) e
theorem CarpAt.keepN {CN C p : Addr} {H H' : Hp} {W R Hh : Nat} {cs : List Nat} (h : CarpAt CN C H p W R Hh cs) (k : KeepN H H') : CarpAt CN C H' p W R Hh cs := let ⟨dx, n, h1, h2⟩ := h; ⟨dx, n, k _ _ h1 fun _ => nofun, h2.keepN k⟩
theorem CpsAt.keepN {CN CC CW : Addr} {H H' : Hp} {M : List Cp} (h : CpsAt CN CC CW H M) (k : KeepN H H') : CpsAt CN CC CW H' M := fun m hm => ⟨(h m hm).1, CarpAt.keepN (h m hm).2 k⟩
theorem nts_of {H : Hp} : ∀ (ys : List V) (M : List Cp), ys.length = M.length → (∀ (i : Nat) (y : V), ys[i]? = some y → ∃ (q : Addr) (m : Cp), M[i]? = some m ∧ y = .ref q ∧ NtAt H q m.W m.R m.Hh) → ∃ L : List Nt, ys = L.map (fun m => V.ref m.1) ∧ NtsAt H L ∧ L.map (·.2) = M.map fun m => (m.W, m.R, m.Hh)
  | [], [], _, _ => ⟨[], rfl, fun m hm => (by cases hm), rfl⟩
  | [], _ :: _, h, _ => by simp at h
  | _ :: _, [], h, _ => by simp at h
  | y :: ys, m :: M, h, k => by
    obtain ⟨q, m', e1, e2, e3⟩ := k 0 y rfl
    have e1 : m = m' := Option.some.inj e1
    subst e1
    obtain ⟨L, h1, h2, h3⟩ := nts_of ys M (by simpa using h) fun i z hz => k (i + 1) z (by simpa using hz)
    refine ⟨(q, m.W, m.R, m.Hh) :: L, by rw [List.map_cons, ← h1, e2], fun x hx => ?_, by rw [List.map_cons, h3]; rfl⟩
    rcases List.mem_cons.mp hx with e | hx
    · rw [e]; exact e3
    · exact h2 x hx
end CpR
set_option Elab.async false
set_option linter.all false
set_option maxRecDepth 100000
set_option maxHeartbeats 1000000
/-! M07: what the law's turn needs at its end. Plain. -/
namespace CpR
open PySem PySem.Spec PyProof.Rows L2 CpM CpS
theorem col_cell {W R Hh : Nat} (ok : Ok W R Hh) {i : Nat} (hi : i < W * Hh) (t : List Nat) : CpM.col W R Hh t ((i % W : Nat) : Int) ((i / W : Nat) : Int) = t.getD i 0 := by
  have pW := ok.pa
  have l1 : i % W < W := Nat.mod_lt _ pW
  have l2 : i / W < Hh := Nat.div_lt_of_lt_mul hi
  have e1 : ((i / W : Nat) : Int) / (Hh : Int) = 0 := Int.ediv_eq_zero_of_lt (Int.natCast_nonneg _) (Int.ofNat_lt.mpr l2)
  have e2 : lowY Hh ((i / W : Nat) : Int) = ((i / W : Nat) : Int) := by
    unfold lowY; rw [e1]; omega
  have e3 : lowX W R Hh ((i % W : Nat) : Int) ((i / W : Nat) : Int) = ((i % W : Nat) : Int) := by
    unfold lowX
    rw [e1, Int.zero_mul, Int.sub_zero]
    exact Int.emod_eq_of_lt (Int.natCast_nonneg _) (Int.ofNat_lt.mpr l1)
  unfold CpM.col
  rw [e2, e3]
  congr 1
  have e4 := Nat.div_add_mod i W
  have e5 : ((i / W : Nat) : Int) * (W : Int) = ((W * (i / W) : Nat) : Int) := by rw [Nat.mul_comm, Int.natCast_mul]
  rw [e5]
  omega
theorem eqvAll_signs_self (zs : List Nat) : PyData.eqvAll (zs.map fun z => PyData.str (sign z)) (zs.map fun z => PyData.str (sign z)) = true := by
  induction zs with
  | nil => simp [PyData.eqvAll]
  | cons z zs ih => rw [List.map_cons, PyData.eqvAll, ih, eqv_signs]; simp
theorem eqv_signs_self (zs : List Nat) : PyData.eqv (.list (zs.map fun z => PyData.str (sign z))) (.list (zs.map fun z => PyData.str (sign z))) = true := by
  rw [PyData.eqv]; exact eqvAll_signs_self zs
theorem sg_list {ys : List V} {n : Nat} {f : Nat → Nat} (el : ys.length = n) (h : ∀ j y, ys[j]? = some y → y = V.str (sign (f j))) : ys = ((List.range n).map f).map fun z => V.str (sign z) := by
  apply List.ext_getElem?
  intro i
  rw [List.getElem?_map, List.getElem?_map]
  by_cases lt : i < n
  · have g := List.getElem?_eq_getElem (show i < ys.length by omega)
    rw [g, h i _ g, List.getElem?_range lt]
    rfl
  · rw [List.getElem?_eq_none (by omega), List.getElem?_eq_none (l := List.range n) (by rw [List.length_range]; omega)]
    rfl
section
variable {M : List Cp} {m0 : Cp} {rows ks : List (List Nat)} {CN CC CW : Addr}
theorem Drawn.lowC (D : Drawn M m0 rows ks) : LowC M := fun m hm x y => (letters_low _ (D.low m hm x y)).1
theorem Drawn.letC (D : Drawn M m0 rows ks) (hM : ∀ m ∈ M, m.Good CC CW) : LetC M := fun m hm c hc => by
  obtain ⟨i, hi, e⟩ := List.getElem_of_mem hc
  have g := hM m hm
  have lt : i < m.W * m.Hh := by rw [← g.len]; exact hi
  have h1 := D.low m hm ((i % m.W : Nat) : Int) ((i / m.W : Nat) : Int)
  unfold Cp.col at h1
  rw [col_cell g.ok lt, List.getD_eq_getElem?_getD, List.getElem?_eq_getElem hi] at h1
  rw [← e]; exact h1
/-- colours that are told by a carpet's are tied -/
theorem refines_merged {φ : Nat → Nat} {ds : List Nat} (lc : LeastC M m0 φ ds) (hm0 : M[0]? = some m0) {z m : Cp} (hz : ∀ u v, z.col u v = 97 + ds.findIdx (fun d => decide (d = φ (m0.col u v)))) (hm : m ∈ M) : Refines m z := fun x y x' y' e => by
  obtain ⟨j, hj, ej⟩ := List.getElem_of_mem hm
  have hmj : M[j]? = some m := by rw [List.getElem?_eq_getElem hj, ej]
  have t1 : Tied (TieP M) (m0.col x y) (j * 128 + m.col x y) := .pair ⟨x, y, j, m, m0, hm0, hmj, rfl, rfl⟩
  have t2 : Tied (TieP M) (m0.col x' y') (j * 128 + m.col x y) := .pair ⟨x', y', j, m, m0, hm0, hmj, rfl, by rw [e]⟩
  have t : Tied (TieP M) (m0.col x y) (m0.col x' y') := t1.trans t2.symm
  have h1 := lc.least x y _ (t.trans (lc.tied x' y'))
  have h2 := lc.least x' y' _ (t.symm.trans (lc.tied x y))
  rw [hz, hz, Nat.le_antisymm h1 h2]
theorem refines_paired {ks : List (List Key)} (kn : Known M ks) {y m : Cp} (hy : ∀ u v, y.col u v = 97 + ixOf ks (rowK M u v)) (hm : m ∈ M) : Refines y m := fun a b a' b' e => by
  rw [hy, hy] at e
  have e1 : ixOf ks (rowK M a b) = ixOf ks (rowK M a' b') := by omega
  have h1 := ixOf_at ((kn.iff _).mpr ⟨a, b, rfl⟩)
  have h2 := ixOf_at ((kn.iff _).mpr ⟨a', b', rfl⟩)
  rw [e1, h2] at h1
  have h3 := Option.some.inj h1
  obtain ⟨j, hj, ej⟩ := List.getElem_of_mem hm
  have h4 := congrArg (fun l : List Key => l[j]?) h3
  simp only [rowK, List.getElem?_map, List.getElem?_eq_getElem hj, ej] at h4
  injection h4 with h4
  injection h4 with h4
  exact (sign_inj h4).symm
theorem size_sub {W R Hh a b c : Nat} (ok : Ok W R Hh) (ok' : Ok a b c) (s : ∀ u v, InL W R Hh u v → InL a b c u v) : a * c ≤ W * Hh := by
  obtain ⟨d1, d2⟩ := sub_dvd ok ok' s
  exact Nat.mul_le_mul (Nat.le_of_dvd ok.pa d1) (Nat.le_of_dvd ok.2 d2)
end
end CpR
set_option Elab.async false
set_option linter.all false
set_option maxRecDepth 100000
set_option maxHeartbeats 1000000
/-! M08: the wide and the tall carpet. Plain. -/
namespace CpR
open PySem PySem.Spec PyProof.Rows L2 CpM CpS
abbrev wideT : List Nat := List.replicate 28 97 ++ [98]
abbrev tallT : List Nat := List.replicate 68 97 ++ [98]
theorem wide_at : ∀ j, j < 29 → wideT.getD j 0 = 98 → j = 28 := by decide
theorem tall_at : ∀ j, j < 69 → tallT.getD j 0 = 98 → j = 68 := by decide
theorem wide_dvd {W R Hh : Nat} (L : Least 29 0 1 wideT W R Hh) : 29 ∣ W := by
  have h := L.per _ _ (inL_self L.ok).1 28 0
  have e0 : CpM.col 29 0 1 wideT 28 0 = 98 := by decide
  rw [e0] at h
  unfold CpM.col lowX lowY at h
  have e1 : ((0 : Int) + 0) - (0 + 0) / ((1 : Nat) : Int) * ((1 : Nat) : Int) = 0 := by decide
  have e2 : ((28 : Int) + (W : Int)) - ((0 : Int) + 0) / ((1 : Nat) : Int) * ((0 : Nat) : Int) = 28 + W := by
    have : ((0 : Int) + 0) / ((1 : Nat) : Int) * ((0 : Nat) : Int) = 0 := by decide
    rw [this]; omega
  rw [e1, e2, Int.zero_mul, Int.zero_add] at h
  have z := wide_at _ (by omega) h
  omega
theorem tall_dvd {W R Hh : Nat} (L : Least 1 0 69 tallT W R Hh) : 69 ∣ Hh := by
  have h := L.per _ _ (inL_self L.ok).2 0 68
  have e0 : CpM.col 1 0 69 tallT 0 68 = 98 := by decide
  rw [e0] at h
  unfold CpM.col at h
  rw [lowY_mod] at h
  unfold lowX at h
  have e2 : (((0 : Int) + (R : Int)) - ((68 : Int) + (Hh : Int)) / ((69 : Nat) : Int) * ((0 : Nat) : Int)) % ((1 : Nat) : Int) = 0 := by
    omega
  rw [e2, Int.add_zero] at h
  have z := tall_at _ (by omega) h
  omega
theorem wide_ok : Ok 29 0 1 := ⟨by decide, by decide⟩
theorem tall_ok : Ok 1 0 69 := ⟨by decide, by decide⟩
theorem two_big {M : List Cp} {W R Hh : Nat} {a b : Cp} (c : CmnC M W R Hh) (ha : a ∈ M) (hb : b ∈ M) (oa : Ok a.W a.R a.Hh) (ob : Ok b.W b.R b.Hh) (da : 29 ∣ a.W) (db : 69 ∣ b.Hh) : W * Hh > 2000 := by
  obtain ⟨d1, _⟩ := sub_dvd c.ok oa fun u v h => (c.iff u v).mp h a ha
  obtain ⟨_, d2⟩ := sub_dvd c.ok ob fun u v h => (c.iff u v).mp h b hb
  have h1 := Nat.le_of_dvd c.ok.pa (Nat.dvd_trans da d1)
  have h2 := Nat.le_of_dvd c.ok.2 (Nat.dvd_trans db d2)
  have := Nat.mul_le_mul h1 h2
  omega
theorem carp_of {CC CW C x : Addr} {a b c W R Hh : Nat} {cs : List Nat} (k : Kin CC CW C) (ok : Ok a b c) (hl : cs.length = a * c) (le : a * c ≤ 1000) (L : Least a b c cs W R Hh) (hin : ∀ z ∈ cs, z ∈ letters) :
    (Cp.mk C x W R Hh (cellText a b c cs W Hh)).Good CC CW ∧ W * Hh ≤ a * c ∧ (∀ z ∈ cellText a b c cs W Hh, z ∈ letters) ∧ ∀ u v, (Cp.mk C x W R Hh (cellText a b c cs W Hh)).col u v ∈ letters := by
  have pa := ok.pa
  have pc := ok.2
  have la : a ≤ a * c := Nat.le_mul_of_pos_right _ pc
  have lc : c ≤ a * c := Nat.le_mul_of_pos_left _ pa
  obtain ⟨d1, d2⟩ := sub_dvd ok L.ok L.sub
  have lW := Nat.le_of_dvd pa d1
  have lH := Nat.le_of_dvd pc d2
  have g : (Cp.mk C x W R Hh (cellText a b c cs W Hh)).Good CC CW := ⟨k, L.ok, cellText_len _ _, by show W < 4096; omega, by show Hh < 4096; omega⟩
  have co : ∀ u v, (Cp.mk C x W R Hh (cellText a b c cs W Hh)).col u v ∈ letters := fun u v => by
    have e : (Cp.mk C x W R Hh (cellText a b c cs W Hh)).col u v = CpM.col a b c cs u v := L.col u v
    rw [e]
    exact hin _ (col_mem ok hl u v)
  refine ⟨g, Nat.mul_le_mul lW lH, fun z hz => ?_, co⟩
  obtain ⟨i, hi, e⟩ := List.getElem_of_mem hz
  have gl : (cellText a b c cs W Hh).length = W * Hh := g.len
  have lt : i < W * Hh := by rw [← gl]; exact hi
  have h1 := co ((i % W : Nat) : Int) ((i / W : Nat) : Int)
  have h2 : (Cp.mk C x W R Hh (cellText a b c cs W Hh)).col ((i % W : Nat) : Int) ((i / W : Nat) : Int) = (cellText a b c cs W Hh).getD i 0 := col_cell L.ok lt _
  rw [h2, List.getD_eq_getElem?_getD, List.getElem?_eq_getElem hi] at h1
  rw [← e]; exact h1
theorem small3 {u v : Cp} (hu : u.W * u.Hh ≤ 29) : SmallC [u, u, v] := by
  refine ⟨fun i hi => ?_, by show 3 ≤ 100; decide⟩
  match i, hi with
  | 0, _ => show 1 < 4096; decide
  | 1, _ => show u.W * u.Hh * 1 < 4096; omega
  | 2, _ =>
    show u.W * u.Hh * (u.W * u.Hh * 1) < 4096
    have := Nat.mul_le_mul hu (show u.W * u.Hh * 1 ≤ 29 by omega)
    omega
  | n + 3, h => exact absurd h (by show ¬ n + 3 < 3; omega)
theorem in3 {u v m : Cp} (h : m ∈ [u, u, v]) : m = u ∨ m = v := by
  simp at h
  rcases h with h | h
  · exact .inl h
  · exact .inr h
theorem low_of {CC CW : Addr} {m : Cp} (g : m.Good CC CW) (h : ∀ c ∈ m.cs, c ∈ letters) (x y : Int) : m.col x y < 128 := (letters_low _ (h _ (col_mem g.ok g.len x y))).1
end CpR
set_option Elab.async false
set_option linter.all false
set_option maxRecDepth 100000
set_option maxHeartbeats 2000000
/-! CrJ: several except clauses with a name each. -/
namespace CpR
open PySem PySem.Spec PyProof.Rows L2
/-- what the clauses wish of an exception of the body, one after the other; slot i is the name's -/
def wManyAs (K : PySem.W.Frag) (i : Nat) (Wout : WX) (D : Ends) : List (Value × (Addr → Value → Option Addr → TS)) → WX
  | [] => Wout
  | (c, ts) :: r => fun cls d σ H => ∃ b, PySem.W.exmOne K cls c = some b ∧ (b = true → ∀ a, H a = none → ts a cls d { nx := fun σ' H' => D.nx (σ'.set i none) H', rt := D.rt, bk := fun σ' H' => D.bk (σ'.set i none) H', ct := fun σ' H' => D.ct (σ'.set i none) H' } (σ.set i (some (.ref a))) H) ∧ (b = false → wManyAs K i Wout D r cls d σ H)
inductive HdsAs (X : Cx) (n : Str) : List ExceptHandler → List (Value × (Addr → Value → Option Addr → TS)) → Prop
  | nil : HdsAs X n [] []
  | cons {x : Str} {c : Value} {ts : Addr → Value → Option Addr → TS} {b₀ : Stmt} {suite : List Stmt} {np pos' : Pos} {hds : List ExceptHandler} {l : List (Value × (Addr → Value → Option Addr → TS))} (hc : Names X x c)
      (hsu : ∀ (a : Addr) (oe : Obj) (cls : Value) (d : Option Addr) (pn : List (Addr × Obj)), Zc cls d oe → (∃ vs, oe.data = .fields vs) → PSs (X.suite a ((a, oe) :: pn)) (b₀ :: suite) (ts a cls d)) (r : HdsAs X n hds l) :
      HdsAs X n (.ExceptHandler (some (.Name x np)) (some n) (b₀ :: suite) pos' :: hds) ((c, ts) :: l)
section
variable {X : Cx} {body : List Stmt} {n : Str} {i : Nat} {h₀ : ExceptHandler} {hds : List ExceptHandler} {l : List (Value × (Addr → Value → Option Addr → TS))} {pos : Pos} {tb : WX → TS} {Wout : WX}
theorem ps_try_manyAs (hs : X.stack = X.env :: X.outer) (hf : X.env.frame = some X.env.locals) (hN : X.N.Nodup) (hi : X.N[i]? = some n) (hln : X.env.kindOf n = some .local) (tk : Takes X Wout)
    (hb : ∀ (W : WX) (pn : List (Addr × Obj)) (xe : Value → Shared → Prop), Takes (X.tr pn xe) W → PassesOwn (model X.prog X.w) X.A X.env xe → PSs (X.tr pn xe) body (tb W))
    (hh : HdsAs X n (h₀ :: hds) l) : PS X (.Try body (h₀ :: hds) [] [] pos) (fun D σ H => tb (wManyAs X.K i Wout D l) D σ H) := by
  refine ⟨fun pins s σ H D I h => ?_⟩
  have ok := I.ok
  have hfr : X.A.frames = some (X.env :: X.outer) := by rw [ok.frames, hs]
  have hloc : Loc X.env.scope n := .inl hln
  refine wpAny_Try_except ?_
  refine wpAny_mono ((hb (wManyAs X.K i Wout D l) (X.pn ++ pins) (fun e s₁ => wpAny (model X.prog X.w) X.A (noteFrame e X.env) (fun _ s₂ => wpAny (model X.prog X.w) X.A (setFlight e none) (fun _ s₃ =>
    wpAny (model X.prog X.w) X.A (handleBy e X.env (h₀ :: hds)) (SP X pins D) X.xe s₃) X.xe s₂) X.xe s₁) (fun u s' xx => ?_) PassesOwn.looking).run [] s σ H D (I.toTry _) h) (fun f s1 hsp => ?_) (fun e s1 he => he)
  · -- the catch
    obtain ⟨a, B, sI, pins', σ', H', cls, d, rfl, J', nb, up, sky, na, os, ag, w⟩ := xx
    have J : Inv X pins σ' H' sI := J'.ofTry ok
    have sky' : Sky B (X.env :: X.outer) a (Zc cls d) X.env.locals s'.heap := by rw [← hs]; exact sky
    show wpAny (model X.prog X.w) X.A (noteFrame (.ref a) X.env) _ _ _
    refine Sky.land Zc.steady hfr hf sky' fun h3 fl3 up3 => ?_
    have J3 : Inv X pins σ' H' { s' with heap := h3 } := J.landed nb fl3.1 (up.trans up3) os ag
    obtain ⟨oe3, vs3, he3, hz3, hd3⟩ := fl3.there
    have notFr : ∀ {h : Heap} {o : Obj} {vs : Array Value}, h.FunFrames B (X.env :: X.outer) → h.get? a = some o → o.data = .fields vs → a ∉ frs (X.env :: X.outer) := fun {h o vs} ff e dd hm => by
      obtain ⟨_, o', e', hnf⟩ := ff.mem hm
      rw [e] at e'; cases e'
      exact hnf _ dd
    have nfr := notFr fl3.2.2.1 he3 hd3
    have nL : a ≠ X.env.locals := fun z => nfr (List.mem_filterMap.mpr ⟨X.env, List.mem_cons_self, by rw [hf, z]⟩)
    have nF : a ∉ X.fs := fun hm => by
      obtain ⟨e, he, q⟩ := List.mem_filterMap.mp hm
      exact nfr (List.mem_filterMap.mpr ⟨e, List.mem_cons_of_mem _ he, q⟩)
    have S3 := J3.suite he3 hd3 na nL nF
    have go : ∀ {hds' : List ExceptHandler} {l' : List (Value × (Addr → Value → Option Addr → TS))}, HdsAs X n hds' l' → wManyAs X.K i Wout D l' cls d σ' H' →
        wpAny (model X.prog X.w) X.A (handleBy (.ref a) X.env hds') (SP X pins D) X.xe { s' with heap := h3 } := by
      intro hds' l' hk
      induction hk with
      | nil =>
        intro w
        refine wpAny_handleBy_nil ?_
        obtain ⟨k1, k2, k3, oe, vs, T, oT, ts', he, hz, hd, h1, hr⟩ := id fl3
        unfold PySem.passOn
        refine wpAny_bind (wpAny_field he hd h1 ?_)
        rw [if_neg (show ¬ ((Value.ref T == Value.none) = true) from by simp)]
        have fin : wpAny (model X.prog X.w) X.A (setFlight (.ref a) X.env.frame) (fun _ s4 => wpAny (model X.prog X.w) X.A (throw (.ref a) : Sem Flow) (SP X pins D) X.xe s4) X.xe { s' with heap := h3 } := by
          rw [hf]
          refine HandSPX.setFlight_upZ fl3 fun h4 hh4 up4 => wpAny_throw (tk _ _ ?_)
          exact ⟨a, B, sI, pins, σ', H', cls, d, rfl, J, nb, (up.trans up3).trans up4, .inr (.inr (by rw [hs]; exact hh4)), na, os, ag, w⟩
        first
          | exact wpAny_bind (wpAny_pure (wpAny_bind fin))
          | exact wpAny_bind fin
      | @cons x c ts b₀ suite np pos' hds2 l2 hc hsu r ih =>
        intro w
        obtain ⟨b, hb1, hyes, hno⟩ := w
        refine wpAny_handleBy_cons (codeAny_handlers_test ?_) (by intro q; cases q)
        have LT : PySem.W.Looks (model X.prog X.w) h3 (typeOf (.ref a)) cls := fun A Q E s k q => wpAny_typeOf_ref (k _ _ he3) (by rw [hz3.1]; exact q)
        have LM := PySem.W.exm_one (M := model X.prog X.w) (J3.kIn) LT hb1
        have test : ∀ {Q : Value → Shared → Prop} {E : Value → Shared → Prop}, Q c { s' with heap := h3 } → wpAny (model X.prog X.w) (X.A.mark (some (.ref a))) (eval (.Name x np) X.env) Q E { s' with heap := h3 } := fun {Q E} q => by
          obtain ⟨hg, hdbg, hm | ⟨hm, hv, hnn⟩⟩ := hc
          · exact ld_glob (X := X.suite a ((a, oe3) :: (X.pn ++ pins))) S3 hg hm q hdbg
          · exact ld_blt (X := X.suite a ((a, oe3) :: (X.pn ++ pins))) S3 hg hm hv q hnn hdbg
        refine test (LM.here ?_)
        cases b with
        | true =>
          refine codeAny_handlers_suite_as ?_
          refine HandSPX.lands_againZ fl3 fun h4 fl4 up4 => ?_
          have J4 : Inv X pins σ' H' { s' with heap := h4 } := J.landed nb fl4.1 ((up.trans up3).trans up4) os ag
          obtain ⟨oe4, vs4, he4, hz4, hd4⟩ := fl4.there
          have S4 := J4.suite he4 hd4 na nL nF
          refine store_ok (X := X.suite a ((a, oe4) :: (X.pn ++ pins))) (v := .ref a) S4 hN hi hloc rfl (fun s5 S5 => ?_) (.inr hln)
          refine wpAny_mono ((hsu a oe4 cls d (X.pn ++ pins) hz4 ⟨_, hd4⟩).run [] s5 _ H' _ S5 (hyes rfl a na)) (fun f s6 hsp => ?_) (fun _ _ z => False.elim z)
          have end_ : ∀ {σ6 : L2.St} {H6 : Hp} {Q : Shared → Prop}, Inv (X.suite a ((a, oe4) :: (X.pn ++ pins))) [] σ6 H6 s6 → (∀ s7, Inv X pins (σ6.set i none) H6 s7 → Q s7) →
              wpAny (model X.prog X.w) X.A (do bindName X.env n .none; unbindBehindTheSuite X.env n pos') (fun _ s7 => Q s7) X.xe s6 := fun {σ6 H6 Q} S6 hq => gone_ok (S6.unsuite ok) hN hi hln hq
          cases f with
          | next =>
            obtain ⟨σ6, H6, S6, q6⟩ := hsp
            exact end_ S6 fun s7 J7 => ⟨_, _, J7, q6⟩
          | brk =>
            obtain ⟨σ6, H6, S6, q6⟩ := hsp
            exact end_ S6 fun s7 J7 => ⟨_, _, J7, q6⟩
          | cont =>
            obtain ⟨σ6, H6, S6, q6⟩ := hsp
            exact end_ S6 fun s7 J7 => ⟨_, _, J7, q6⟩
          | ret u =>
            obtain ⟨v6, σ6, H6, S6, r6, q6⟩ := hsp
            exact end_ S6 fun s7 J7 => ⟨_, _, _, J7, r6, q6⟩
        | false =>
          show wpAny _ X.A (handleBy (.ref a) X.env hds2) _ _ _
          exact ih (hno rfl)
    exact go hh w
  · cases f with
    | next =>
      obtain ⟨σ', H', J', q⟩ := hsp
      exact wpAny_execs_nil ⟨σ', H', J'.ofTry ok, q⟩
    | brk =>
      obtain ⟨σ', H', J', q⟩ := hsp
      exact ⟨σ', H', J'.ofTry ok, q⟩
    | cont =>
      obtain ⟨σ', H', J', q⟩ := hsp
      exact ⟨σ', H', J'.ofTry ok, q⟩
    | ret u =>
      obtain ⟨v, σ', H', J', r, q⟩ := hsp
      exact ⟨v, σ', H', J'.ofTry ok, r, q⟩
end
end CpR
set_option Elab.async false
set_option linter.all false
set_option maxRecDepth 100000
set_option maxHeartbeats 1000000
/-! F15: the law's reports of errors. -/
namespace CpR
open PySem PySem.Spec PyProof.Rows L2 CpM CpS
/-- what the report needs besides -/
structure TxtL (K : PySem.W.Frag) (mg : Str → Option Value) (CI CE : Addr) : Prop where
  nx : PySem.W.exmOne K (.ref CE) (.ref CI) = some false
/-- the answer of a report -/
def TellX (CI CE : Addr) (Q : VK) : XK := fun cls d H' =>
  (cls = .ref CI ∧ ∃ dd v, d = some dd ∧ H' dd = some (.xd [("value", v)]) ∧ ∀ r, H' r = none → Q (.ref r) (upd H' r (.lst [.str "number", v]))) ∨
  (cls = .ref CE ∧ ∃ dd v, d = some dd ∧ H' dd = some (.xd [("limit", v)]) ∧ ∀ r, H' r = none → Q (.ref r) (upd H' r (.lst [.str "limit", v])))
def TTell (CI CE : Addr) : (XK → Hp → VK → Prop) → Hp → VK → Prop := fun tl H Q => tl (TellX CI CE Q) H fun _ H' => ∀ r, H' r = none → Q (.ref r) (upd H' r (.lst [.str "none"]))
theorem takes_len {X : Cx} {W : WX} (tk : Takes X W) : Takes X (fun cls d σ H => σ.length = X.N.length → W cls d σ H) := fun u s' ⟨a, B, sI, pins, σ, H, cls, d, e, I, nb, up, sky, na, os, ag, w⟩ =>
  tk u s' ⟨a, B, sI, pins, σ, H, cls, d, e, I, nb, up, sky, na, os, ag, w I.len⟩
theorem told_gives2 {X : Cx} {CI CE g : Addr} {cdg : Value} {q : Str} (TE : TxtE X.K X.mg CI CE) (TL : TxtL X.K X.mg CI CE) : LamX.GivesTo X N_law_told "_law_told" (defScope s_law_told) g cdg (defBody s_law_told) "_law_call" q (TTell CI CE) := by
  intro f c' s H Q tl act hc h
  obtain ⟨fi, T1⟩ := TE.iv
  obtain ⟨fl, T2⟩ := TE.lm
  have n0 := sc_law_told.nd
  refine ⟨_, Evl.pss_cut (ps_try_manyAs (i := 1) (n := "e") (X := (cxOf C8.CX0 X.prog X.w X.K X.mg X.base N_law_told "_law_told" (defScope s_law_told) g cdg X.A X.stack s H C8.E0).nox)
      (tb := fun W D σ H => ∃ Ech : XK, (∀ cls d σ' H', Ech cls d H' → σ'.length = 2 → W cls d σ' H') ∧ σ[0]? = some (some (.ref f)) ∧ H c' = some (LamX.CodeO c' q) ∧ tl Ech H fun _ H' => D.nx σ H')
      rfl rfl n0 rfl rfl LamX.takes0 (fun W pn xe tk _ => ?_)
      (.cons ⟨rfl, by decide, .inl T1.gC⟩ (fun a oe cls d pn hz hf => pss_one (ps_ret (pe_lst (pa_cons pe_str (pa_cons (pe_byIvN T1 hz hf (pv 1)) pa_nil)))))
      (.cons ⟨rfl, by decide, .inl T2.gC⟩ (fun a oe cls d pn hz hf => pss_one (ps_ret (pe_lst (pa_cons pe_str (pa_cons (pe_byLmE T2 hz hf (pv 1)) pa_nil))))) .nil)))
    (pss_one (ps_ret (pe_lst (pa_cons pe_str pa_nil)))), ?_⟩
  · refine ⟨fun pins s' σ H' D I h' => ?_⟩
    obtain ⟨Ech, hW, h1, h2, h3⟩ := h'
    have hp := act _ pn xe Ech ⟨456, 8, 456, 17⟩ ⟨456, 8, 456, 19⟩ (takes_len tk) (fun cls d σ' H' e l => hW cls d σ' H' e l)
    have hq := pss_one (ps_expr (pos := ⟨456, 8, 456, 19⟩) hp)
    exact hq.run pins s' σ H' D I ⟨h1, h2, h3⟩
  · refine ⟨fun σ' H' => ∀ r, H' r = none → Q (.ref r) (upd H' r (.lst [.str "none"])), ⟨TellX CI CE Q, fun cls d σ' H' e l => ?_, rfl, hc, h⟩, fun σ' H' k => ⟨by show 1 ≤ sizeLine; decide, fun r hr => k r hr⟩⟩
    obtain ⟨z0, z1, rfl⟩ : ∃ z0 z1, σ' = [z0, z1] := by
      match σ', l with
      | [z0, z1], _ => exact ⟨z0, z1, rfl⟩
    rcases e with ⟨rfl, dd, v, rfl, hdd, k⟩ | ⟨rfl, dd, v, rfl, hdd, k⟩
    · exact ⟨true, T1.te, fun _ a ha => ⟨_, rfl, rfl, rfl, dd, v, rfl, hdd, two_line, fun r hr => k r hr⟩, fun e => (by cases e)⟩
    · exact ⟨false, TL.nx, fun e => (by cases e), fun _ => ⟨true, T2.te, fun _ a ha => ⟨_, rfl, rfl, rfl, dd, v, rfl, hdd, two_line, fun r hr => k r hr⟩, fun e => (by cases e)⟩⟩
end CpR
set_option Elab.async false
set_option linter.all false
set_option maxRecDepth 100000
set_option maxHeartbeats 1000000
/-! G01: the answers that the law has taken. -/
namespace CpR
open PySem PySem.Spec PyProof.Rows L2 CpM CpS
abbrev TPt (Pt : Addr) : List (Addr × Str) := [(Pt, "law.<locals>.<lambda>")]
abbrev Ans := List (Addr × Str × Int)
def AnsAt (H : Hp) (rs : Ans) : Prop := ∀ r ∈ rs, H r.1 = some (.lst [.str r.2.1, .int r.2.2])
def refsA (rs : Ans) : List V := rs.map fun r => V.ref r.1
structure LawS (CN CC CW Pt : Addr) (u v : Cp) (p : Addr) (rs : Ans) (H : Hp) : Prop where
  tb : LamX.Tabs (TPt Pt) H
  u_ : u.At CN H
  v_ : v.At CN H
  hp : H p = some (.lst (refsA rs))
  ha : AnsAt H rs
theorem CarpAt.extN {CN C p : Addr} {H H' : Hp} {W R Hh : Nat} {cs : List Nat} (h : CarpAt CN C H p W R Hh cs) (k : LamX.ExtN H H') : CarpAt CN C H' p W R Hh cs := by
  obtain ⟨dx, n, h1, dn, t, h2, h3⟩ := h
  exact ⟨dx, n, k _ _ h1 fun _ => nofun, dn, t, k _ _ h2 fun _ => nofun, k _ _ h3 fun _ => nofun⟩
theorem tabs_keepN {T : List (Addr × Str)} {H H' : Hp} (t : LamX.Tabs T H) (k : KeepN H H') : LamX.Tabs T H' := fun p hp => by
  obtain ⟨ps, h1, h2, h3⟩ := t p hp
  refine ⟨ps, k _ _ h1 fun _ => nofun, h2, fun pos cv hc => ?_⟩
  obtain ⟨c, e1, e2⟩ := h3 pos cv hc
  exact ⟨c, e1, k _ _ e2 fun _ => nofun⟩
abbrev DpX (K : PySem.W.Frag) (H : Hp) (x : V) (d : PyData) : Prop := L2.Dp K H x d
section
variable {CN CC CW Pt : Addr} {u v : Cp} {p r : Addr} {rs : Ans} {H H1 H2 : Hp}
theorem AnsAt.ext (h : AnsAt H rs) (k : LamX.ExtN H H1) : AnsAt H1 rs := fun q hq => k _ _ (h q hq) fun _ => nofun
theorem AnsAt.ne (h : AnsAt H rs) (hp : H p = some (.lst (refsA rs))) : ∀ q ∈ rs, q.1 ≠ p := fun q hq e => by
  have := h q hq
  rw [e, hp] at this
  cases rs with
  | nil => cases hq
  | cons a rs =>
    have z := Option.some.inj this
    injection z with z
    simp [refsA] at z
theorem LawS.start (tb : LamX.Tabs (TPt Pt) H) (a : u.At CN H) (b : v.At CN H) {s : Str} {n : Int} (e1 : LamX.ExtN H H1) (t1 : LamX.Tabs (TPt Pt) H1) (s2 : Same H1 H2) (hr : H2 r = none) (hp : upd H2 r (.lst [.str s, .int n]) p = none) :
    LawS CN CC CW Pt u v p [(r, s, n)] (upd (upd H2 r (.lst [.str s, .int n])) p (.lst [.ref r])) := by
  have sr := same_new (o := .lst [.str s, .int n]) hr
  have sp := same_new (o := .lst [V.ref r]) hp
  have sA := (s2.trans sr).trans sp
  refine ⟨t1.ext sA, CarpAt.same (CarpAt.extN a e1) sA, CarpAt.same (CarpAt.extN b e1) sA, upd_same, fun q hq => ?_⟩
  rw [List.mem_singleton.mp hq]
  exact sp _ _ upd_same
theorem LawS.next (L : LawS CN CC CW Pt u v p rs H) (e1 : LamX.ExtN H H1) (t1 : LamX.Tabs (TPt Pt) H1) (s2 : Same H1 H2) (hr : H2 r = none) (s : Str) (n : Int) :
    upd H2 r (.lst [.str s, .int n]) p = some (.lst (refsA rs)) ∧ LawS CN CC CW Pt u v p (rs ++ [(r, s, n)]) (upd (upd H2 r (.lst [.str s, .int n])) p (.lst (refsA rs ++ [.ref r]))) := by
  have sr := same_new (o := .lst [.str s, .int n]) hr
  have sA := s2.trans sr
  have hp := sA _ _ (e1 _ _ L.hp fun _ => nofun)
  have k := keepN_lst (ys := refsA rs ++ [.ref r]) hp
  have ha : AnsAt (upd H2 r (.lst [.str s, .int n])) rs := fun q hq => sA _ _ (e1 _ _ (L.ha q hq) fun _ => nofun)
  have nrp : r ≠ p := fun e => by
    rw [← e] at hp
    rw [upd_same] at hp
    have z := Option.some.inj hp
    injection z with z
    cases rs <;> simp [refsA] at z
  refine ⟨hp, tabs_keepN (t1.ext sA) k, CarpAt.keepN (CarpAt.same (CarpAt.extN L.u_ e1) sA) k, CarpAt.keepN (CarpAt.same (CarpAt.extN L.v_ e1) sA) k, ?_, fun q hq => ?_⟩
  · rw [upd_same, refsA, refsA, List.map_append]; rfl
  · rcases List.mem_append.mp hq with hq | hq
    · rw [upd_ne (ha.ne hp q hq)]
      exact ha q hq
    · rw [List.mem_singleton.mp hq, upd_ne nrp]
      exact upd_same
theorem dp_ans {K : PySem.W.Frag} (h : AnsAt H rs) : DpAll K H (refsA rs) (rs.map fun r => PyData.list [.str r.2.1, .int r.2.2]) := by
  induction rs with
  | nil => exact .nil
  | cons a rs ih => exact .cons (.lst (SqL.of (h a List.mem_cons_self)) (.cons (.str _) (.cons (.int _) .nil))) (ih fun q hq => h q (List.mem_cons_of_mem _ hq))
end
end CpR
set_option Elab.async false
set_option linter.all false
set_option maxRecDepth 100000
set_option maxHeartbeats 1000000
/-! CrK: a text times a number. -/
namespace CpR
open PySem PySem.Spec PyProof.Rows L2
def rMulS : R2 := fun x y H Q => ∃ z n, x = .str z ∧ y = .int n ∧ MulOk z n ∧ Q (.str (Txt.mul z n)) H
theorem op_mulS {X : Cx} : OpR X (binaryOp .Mult) rMulS := by
  intro pins s σ H x y v u Q I rx ry h
  obtain ⟨z, n, rfl, rfl, ok, q⟩ := h
  obtain ⟨t, rfl⟩ := rx
  obtain ⟨t', rfl⟩ := ry
  exact PySem.SB.mul ok fun t' k => ⟨.str (Txt.mul z n), H, I.tok _, ⟨_, rfl⟩, q⟩
end CpR
set_option Elab.async false
set_option linter.all false
set_option maxRecDepth 100000
set_option maxHeartbeats 2000000
/-! F16: the law. -/
namespace CpR
open PySem PySem.Spec PyProof.Rows L2 CpM CpS
def scRows : Scope := { kind := .function, names := [(".0", .local), ("_law_spot", .cell), ("tuple", .globalImplicit), ("_law_woven_here", .cell)], isGenerator := false, isCoroutine := false }
def rTupOf (K : PySem.W.Frag) : List V → Hp → VK → Prop := fun xs H Q => ∃ p ys, xs = [.ref p] ∧ ((SqL K H p ys ∧ ∀ l, H l = none → Q (.ref l) (upd H l (.tup ys))) ∨ (SqT K H p ys ∧ Q (.ref p) H))
theorem call_tupR {X : Cx} : CallR X (.type "tuple") (rTupOf X.K) := call_tuple_of
section
variable {P : Program} {w : World} {K : PySem.W.Frag} {mg : Str → Option Value} {base : Heap} {CN CC CW CL CI CE : Addr}
def spLaw (K : PySem.W.Frag) (Pt : Addr) : Sp := fun vs H Q _ => ∃ (a : Addr) (ns : List Int), vs = [.ref a] ∧ SqL K H a (ns.map V.int) ∧ ns.length ≤ 63 ∧ H Pt = some (.tbl #[]) ∧ ∀ H', Q (.bl true) H'
theorem body_law (T : Txt K mg CN CC CW CL) (TE : TxtE K mg CI CE) (TL : TxtL K mg CI CE) {c Pt : Addr} (TB : LamX.TabB base mg c Pt) (f : Addr) (A : Around) (outer : List Env) (s : Shared) (H : Hp) (vs : List V) (Q : VK) (E : XK)
    (hr : Room 12 (A.deeper (envOfC "law" (defScope s_law) s.heap.objs.size f (.ref c)))) (h : spLaw K Pt vs H Q E) :
    ∃ t, PSs (cxOf CX0 P w K mg base N_law "law" (defScope s_law) f (.ref c) A outer s H E).nox (defBody s_law) t ∧ t { nx := fun _ H' => Q .non H', rt := Q } (start N_law vs) H := by
  obtain ⟨a, ns, rfl, ha, few, hP, kk⟩ := h
  have n0 := sc_law.nd
  obtain ⟨cf, cfd, CM, CF, ⟨cds, cdv, cdb⟩, _⟩ := ok_Carpet_init (P := P) (w := w) (base := base) T
  obtain ⟨tf, tfd, tm, TF⟩ := T.d_law_told
  obtain ⟨toc, tod, tkV, tdoc, tpm, tan, tcdv, tct, tosl, rfl, tlk, tcd⟩ := TF.ex
  have tb := bind_of TF b_law_told
  have D3 := (ok_is_finer (P := P) (w := w) (base := base) T TE).calm
  have D4 := (ok_refinement (P := P) (w := w) (base := base) T TE).calm
  have hu66 : (A.deeper (envOfC "law" (defScope s_law) s.heap.objs.size f (.ref c))).units + 66 < cLine := by have := hr.un; omega
  have hu65 : (A.deeper (envOfC "law" (defScope s_law) s.heap.objs.size f (.ref c))).units + 65 < cLine := by omega
  have hu64 : (A.deeper (envOfC "law" (defScope s_law) s.heap.objs.size f (.ref c))).units + 64 < cLine := by omega
  have hu1 : (A.deeper (envOfC "law" (defScope s_law) s.heap.objs.size f (.ref c))).units + 1 < cLine := by omega
  refine ⟨_, Evl.pss_cut (ps_set (i := 8) n0 rfl (.inr rfl) (pe_df (E := E0) (ok_law_tape T) hr (by decide) (by rfl) pass0 (pa_cons (pv 0) pa_nil)))
    (Evl.pss_cut (ps_for PassesOwn.never rfl (pi_range1 (by rfl) T.bt.range (pa_cons pe_int pa_nil)) (pg_name (i := 1) n0 rfl (.inl rfl))
      (Evl.pss_cut (ps_set (i := 9) n0 rfl (.inr rfl) (pe_df (E := E0) (ok_law_some T) hr (by decide) (by rfl) pass0 (pa_cons (pv 8) pa_nil)))
      (Evl.pss_cut (ps_setLc (i := 2) (own := [("_law_net_here", 16), ("_law_text", 17)]) (g := gTup K 2 (gCons (gName 16) (gCons (gName 17) gNil))) (tt := tYes) rfl n0 rfl rfl (sw_true rfl rfl rfl (by decide +kernel)) (pi_list (pv 9)) (blkOk_by (N := N_law) (sc := defScope s_law) (by decide +kernel))
        (fun _ _ _ _ _ => pg_tup rfl (pgs_cons (pg_name (i := 16) n0 rfl (Or.inl rfl)) (pgs_cons (pg_name (i := 17) n0 rfl (Or.inl rfl)) pgs_nil))) (fun _ _ _ _ _ => pts_nil) (fun _ _ _ _ _ => pe_df (E := E0) (ok_law_made T) hr (by decide) (by rfl) pass0 (pa_cons (pv 8) (pa_cons (pv 16) (pa_cons (pv 17) pa_nil)))))
      (Evl.pss_cut (ps_set (i := 4) n0 rfl (.inl rfl) (pe_df (E := E0) (ok_law_common T) hr (by decide) (by rfl) pass0 (pa_cons (pe_lc (own := [("_law_carpet", 3)]) (g := gName 3) (tt := tYes) rfl n0 (pi_list (pv 2)) (blkOk_by (N := N_law) (sc := defScope s_law) (by decide +kernel))
        (fun _ _ _ _ _ => pg_name (i := 3) n0 rfl (Or.inl rfl)) (fun _ _ _ _ _ => pts_nil) (fun _ _ _ _ _ => pe_dp (E := E0) (ok_Net_numbers T) T.cls_CN hr (by decide) pass0 (pe_dpA (S := Kin CC CW) (E := E0) (ok_net T) (kin_cls T) hr (by decide) pass0 (pv 3)))) pa_nil)))
      (Evl.pss_cut (ps_set (i := 5) n0 rfl (.inl rfl) (pe_df (E := E0) (ok_law_spots T) hr (by decide) (by rfl) pass0 (pa_cons (pv 4) pa_nil)))
      (Evl.pss_cut (ps_setLc (i := 6) (own := [("_law_spot", 18)]) (g := gName 18) (tt := tYes) (te := tCB (rTupOf K) (tCons (tLc (iList K (tVar 9)) (gTup K 2 (gCons (gName 16) (gCons (gName 17) gNil))) tYes (tCallR spLSeen E0 (tCons (tVar 16) (tCons (tVar 17) (tCons (tVar 18) tNil)))) [16, 17]) tNil)) rfl n0 rfl rfl (sw_true rfl rfl rfl (by decide +kernel)) (pi_list (pv 5)) (blkOk_by (N := N_law) (sc := defScope s_law) (by decide +kernel))
        (fun _ _ _ _ _ => pg_name (i := 18) n0 rfl (Or.inr rfl)) (fun _ _ _ _ _ => pts_nil) (fun _ _ _ _ _ => pe_callTy (call_tupR) (by rfl) T.bt.b_tuple (by decide +kernel) (pa_cons (pe_lc (own := [("_law_net_here", 16), ("_law_text", 17)]) (g := gTup K 2 (gCons (gName 16) (gCons (gName 17) gNil))) (tt := tYes) rfl n0 (pi_list (pv 9)) (blkOk_by (N := N_law) (sc := scRows) (by decide +kernel))
          (fun _ _ _ _ _ => pg_tup rfl (pgs_cons (pg_name (i := 16) n0 rfl (Or.inl rfl)) (pgs_cons (pg_name (i := 17) n0 rfl (Or.inl rfl)) pgs_nil))) (fun _ _ _ _ _ => pts_nil) (fun _ _ _ _ _ => pe_df (E := E0) (ok_law_seen T) hr (by decide) (by rfl) pass0 (pa_cons (pv 16) (pa_cons (pv 17) (pa_cons (pv 18) pa_nil))))) pa_nil)))
      (Evl.pss_cut (ps_asg (pe_tup (pa_cons (pe_df (E := E0) (ok_law_due T) hr (by decide) (by rfl) pass0 (pa_cons (pv 6) pa_nil)) (pa_cons (pe_callB (cr_sortSet rfl hu66) (by rfl) T.bt.sorted (by decide +kernel) (pa_cons (pe_callTy (cr_setOfR rfl hu64) (by rfl) T.bt.b_set (by decide +kernel) (pa_cons (pv 6) pa_nil)) pa_nil)) pa_nil))) (pg_tup rfl (pgs_cons (pg_name (i := 10) n0 rfl (.inr rfl)) (pgs_cons (pg_name (i := 11) n0 rfl (.inr rfl)) pgs_nil))))
      (pss_one (ps_if (pt_cmpR op_lt (pe_callB call_len_seq (by rfl) T.bt.len PySem.boot_len (pa_cons (pv 11) pa_nil)) pe_int (nomark _))
        (Evl.pss_cut (ps_asg (pe_df (E := E0) (ok_law_merged T TE) hr (by decide) (by rfl) pass0 (pa_cons (pv 2) pa_nil)) (pg_lst rfl (pgs_cons (pg_name (i := 12) n0 rfl (.inr rfl)) (pgs_cons (pg_name (i := 13) n0 rfl (.inr rfl)) pgs_nil))))
        (Evl.pss_cut (ps_if (pt_cmpR (op_neD hu64) (pe_lc (own := [("_law_spot", 18)]) (g := gName 18) (tt := tYes) rfl n0 (pi_list (pv 5)) (blkOk_by (N := N_law) (sc := defScope s_law) (by decide +kernel))
              (fun _ _ _ _ _ => pg_name (i := 18) n0 rfl (Or.inl rfl)) (fun _ _ _ _ _ => pts_nil) (fun _ _ _ _ _ => pe_itemA (S := Kin CC CW) (E := E0) (ok_getitem T) hr (by decide) (fun _ _ _ _ z => z) (pv 12) (pv 18)))
            (pe_lc (own := [("_law_row", 19)]) (g := gName 19) (tt := tYes) (te := tDGet (tVar 10) (tVar 19)) rfl n0 (pi_list (pv 6)) (blkOk_by (N := N_law) (sc := defScope s_law) (by decide +kernel))
              (fun _ _ _ _ _ => pg_name (i := 19) n0 rfl (Or.inl rfl)) (fun _ _ _ _ _ => pts_nil) (fun _ _ _ _ _ => pe_dget hu1 (pv 10) (pv 19) (fun _ _ => rfl))) (nomark _))
          (pss_one (ps_ret pe_bl)) pss_nil)
        (Evl.pss_cut (ps_if (pt_cmpR (op_neD hu64) (pe_lc (own := [("_law_spot", 18)]) (g := gName 18) (tt := tYes) rfl n0 (pi_list (pv 5)) (blkOk_by (N := N_law) (sc := defScope s_law) (by decide +kernel))
              (fun _ _ _ _ _ => pg_name (i := 18) n0 rfl (Or.inl rfl)) (fun _ _ _ _ _ => pts_nil) (fun _ _ _ _ _ => pe_itemA (S := Kin CC CW) (E := E0) (ok_getitem T) hr (by decide) (fun _ _ _ _ z => z) (pv 13) (pv 18)))
            (pe_lc (own := [("_law_row", 19)]) (g := gName 19) (tt := tYes) (te := tOp rIxS (tC (.str lettersS)) (tBM K "list" (rIndexD K) (tVar 11) (tCons (tVar 19) tNil))) rfl n0 (pi_list (pv 6)) (blkOk_by (N := N_law) (sc := defScope s_law) (by decide +kernel))
              (fun _ _ _ _ _ => pg_name (i := 19) n0 rfl (Or.inl rfl)) (fun _ _ _ _ _ => pts_nil) (fun _ _ _ _ _ => pe_ix ix_str pe_str (pe_bm PySem.F.plainAttrs_list PySem.F.slot_list_index PySem.F.type_list_index (mt_indexD hu65) (pv 11) (pa_cons (pv 19) pa_nil)) (fun _ _ => rfl))) (nomark _))
          (pss_one (ps_ret pe_bl)) pss_nil)
        (pss_one (ps_for PassesOwn.never rfl (pi_list (pv 2)) (pg_name (i := 3) n0 rfl (.inl rfl))
          (Evl.pss_cut (ps_if (PW.pt (pw_or (pt_cmpR op_isnot_bl (pe_df (E := E0) D3 hr (by decide) (by rfl) pass0 (pa_cons (pv 3) (pa_cons (pv 12) pa_nil))) pe_bl (nomark _)) (pw_or1 (pt_cmpR op_isnot_bl (pe_df (E := E0) D3 hr (by decide) (by rfl) pass0 (pa_cons (pv 13) (pa_cons (pv 3) pa_nil))) pe_bl (nomark _))))) (pss_one (ps_ret pe_bl)) pss_nil)
          (pss_one (ps_if (pt_cmpR op_ne (pe_df (E := E0) D3 hr (by decide) (by rfl) pass0 (pa_cons (pv 12) (pa_cons (pv 3) pa_nil))) (pe_cmpR op_notN (pe_df (E := E0) D4 hr (by decide) (by rfl) pass0 (pa_cons (pv 12) (pa_cons (pv 3) pa_nil))) pe_non (nomark _)) (nomark _)) (pss_one (ps_ret pe_bl)) pss_nil)))))))) pss_nil)))))))))
    (Evl.pss_cut (ps_asg (pe_tup (pa_cons (pe_make (E := E0) CM CF (hr.mono (by decide)) (by rfl) T.g_Carpet cdb cdv pass0 (pa_cons (pe_lst (pa_cons (pe_op op_add_str (pe_op op_mulS pe_str pe_int) pe_str) pa_nil)) pa_nil))
        (pa_cons (pe_make (E := E0) CM CF (hr.mono (by decide)) (by rfl) T.g_Carpet cdb cdv pass0 (pa_cons (pe_op op_cat (pe_op op_rep (pe_lst (pa_cons pe_str pa_nil)) pe_int) (pe_lst (pa_cons pe_str pa_nil))) pa_nil)) pa_nil))) (pg_tup rfl (pgs_cons (pg_name (i := 15) n0 rfl (.inr rfl)) (pgs_cons (pg_name (i := 14) n0 rfl (.inr rfl)) pgs_nil))))
    (Evl.pss_cut (ps_set (i := 7) n0 rfl (.inl rfl) (pe_lst (pa_cons (LamX.pe_lamcall (T := [(Pt, "law.<locals>.<lambda>")]) (TT := TTell CI CE) (a := "_law_call") (k := 10) (Ng := N_law_told) (by rfl) tm TF.kp tlk tcd tb sc_law_told rfl (.inl rfl) (told_gives2 TE TL) TB rfl (List.mem_singleton.mpr rfl) (fun p hp _ => by rw [List.mem_singleton.mp hp]; rfl) hr (LamX.lamS_by (sc := defScope s_law) (by decide +kernel)) rfl (fun _ _ _ _ _ => rfl)
      (fun A' outer' s' H' E' f' c' hr' => pe_df0 (E := E') (ok_merged (P := P) (w := w) (base := base) T TE) hr' (by decide) (by rfl) (passes_call (takes_of rfl rfl rfl rfl) (fun _ _ _ _ h => h)))) pa_nil)))
    (Evl.pss_cut (ps_expr (pe_bm PySem.F.plainAttrs_list PySem.F.slot_list_append PySem.F.type_list_append mt_append (pv 7) (pa_cons (LamX.pe_lamcall (T := [(Pt, "law.<locals>.<lambda>")]) (TT := TTell CI CE) (a := "_law_call") (k := 10) (Ng := N_law_told) (by rfl) tm TF.kp tlk tcd tb sc_law_told rfl (.inl rfl) (told_gives2 TE TL) TB rfl (List.mem_singleton.mpr rfl) (fun p hp _ => by rw [List.mem_singleton.mp hp]; rfl) hr (LamX.lamS_by (sc := defScope s_law) (by decide +kernel)) rfl (fun _ _ _ _ _ => rfl)
      (fun A' outer' s' H' E' f' c' hr' => pe_df0 (E := E') (ok_paired (P := P) (w := w) (base := base) T TE) hr' (by decide) (by rfl) (passes_call (takes_of rfl rfl rfl rfl) (fun _ _ _ _ h => h)))) pa_nil)))
    (Evl.pss_cut (ps_expr (pe_bm PySem.F.plainAttrs_list PySem.F.slot_list_append PySem.F.type_list_append mt_append (pv 7) (pa_cons (LamX.pe_lamcall (T := [(Pt, "law.<locals>.<lambda>")]) (TT := TTell CI CE) (a := "_law_call") (k := 10) (Ng := N_law_told) (by rfl) tm TF.kp tlk tcd tb sc_law_told rfl (.inl rfl) (told_gives2 TE TL) TB rfl (List.mem_singleton.mpr rfl) (fun p hp _ => by rw [List.mem_singleton.mp hp]; rfl) hr (LamX.lamS_by (sc := defScope s_law) (by decide +kernel)) rfl (fun _ _ _ _ _ => rfl)
      (fun A' outer' s' H' E' f' c' hr' => pe_df (E := E') (ok_merged (P := P) (w := w) (base := base) T TE) hr' (by decide) (by rfl) (passes_call (takes_of rfl rfl rfl rfl) (fun _ _ _ _ h => h)) (pa_cons (pv 15) (pa_cons (pv 15) (pa_cons (pv 14) pa_nil))))) pa_nil)))
    (Evl.pss_cut (ps_expr (pe_bm PySem.F.plainAttrs_list PySem.F.slot_list_append PySem.F.type_list_append mt_append (pv 7) (pa_cons (LamX.pe_lamcall (T := [(Pt, "law.<locals>.<lambda>")]) (TT := TTell CI CE) (a := "_law_call") (k := 10) (Ng := N_law_told) (by rfl) tm TF.kp tlk tcd tb sc_law_told rfl (.inl rfl) (told_gives2 TE TL) TB rfl (List.mem_singleton.mpr rfl) (fun p hp _ => by rw [List.mem_singleton.mp hp]; rfl) hr (LamX.lamS_by (sc := defScope s_law) (by decide +kernel)) rfl (fun _ _ _ _ _ => rfl)
      (fun A' outer' s' H' E' f' c' hr' => pe_df (E := E') (ok_paired (P := P) (w := w) (base := base) T TE) hr' (by decide) (by rfl) (passes_call (takes_of rfl rfl rfl rfl) (fun _ _ _ _ h => h)) (pa_cons (pv 15) (pa_cons (pv 15) (pa_cons (pv 14) pa_nil))))) pa_nil)))
    (Evl.pss_cut (ps_expr (pe_bm PySem.F.plainAttrs_list PySem.F.slot_list_append PySem.F.type_list_append mt_append (pv 7) (pa_cons (LamX.pe_lamcall (T := [(Pt, "law.<locals>.<lambda>")]) (TT := TTell CI CE) (a := "_law_call") (k := 10) (Ng := N_law_told) (by rfl) tm TF.kp tlk tcd tb sc_law_told rfl (.inl rfl) (told_gives2 TE TL) TB rfl (List.mem_singleton.mpr rfl) (fun p hp _ => by rw [List.mem_singleton.mp hp]; rfl) hr (LamX.lamS_by (sc := defScope s_law) (by decide +kernel)) rfl (fun _ _ _ _ _ => rfl)
      (fun A' outer' s' H' E' f' c' hr' => pe_df (E := E') (ok_is_finer (P := P) (w := w) (base := base) T TE) hr' (by decide) (by rfl) (passes_call (takes_of rfl rfl rfl rfl) (fun _ _ _ _ h => h)) (pa_cons (pv 15) (pa_cons (pv 14) pa_nil)))) pa_nil)))
    (pss_one (ps_ret (pe_cmpR (op_eqD hu64) (pv 7) (pe_op op_cat (pe_op op_rep (pe_lst (pa_cons (pe_lst (pa_cons pe_str (pa_cons pe_int pa_nil))) pa_nil)) pe_int) (pe_op op_rep (pe_lst (pa_cons (pe_lst (pa_cons pe_str (pa_cons pe_int pa_nil))) pa_nil)) pe_int)) (nomark _))))))))))), ?_⟩
  let S : Addr → Option V → Option V → Option V → Option V → Option V → Option V → Option V → Option V → Option V → Option V → Option V → Option V → Option V → Option V → L2.St := fun t z1 z2 z3 z4 z5 z6 z7 z9 z10 z11 z12 z13 z14 z15 => [some (.ref a), z1, z2, z3, z4, z5, z6, z7, some (.ref t), z9, z10, z11, z12, z13, z14, z15, none, none, none, none]
  refine ⟨fun σ H' => H' Pt = some (.tbl #[]) ∧ ∃ t l, TapeAt H' t l ns ∧ σ = S t none none none none none none none none none none none none none none, ⟨_, rfl, a, ns, rfl, ha, few, fun H' t l s' ht _ _ => ⟨s' _ _ hP, t, l, ht, rfl⟩⟩, ?_⟩
  rintro σ H1 ⟨hP1, t, l, ht1, rfl⟩
  refine ⟨fun σ H' => H' Pt = some (.tbl #[]) ∧ ∃ z1 z2 z3 z4 z5 z6 z7 z9 z10 z11 z12 z13 z14 z15, σ = S t z1 z2 z3 z4 z5 z6 z7 z9 z10 z11 z12 z13 z14 z15, ⟨6, rfl, by decide, by decide, for_it (walk_range (lo := 0) (n := 6)) (fun i σ H' => TapeAt H' t l ns ∧ H' Pt = some (.tbl #[]) ∧ ∃ z1 z2 z3 z4 z5 z6 z7 z9 z10 z11 z12 z13 z14 z15, σ = S t z1 z2 z3 z4 z5 z6 z7 z9 z10 z11 z12 z13 z14 z15)
    ⟨ht1, hP1, _, _, _, _, _, _, _, _, _, _, _, _, _, _, rfl⟩ (fun _ _ _ _ _ => trivial) (fun i x σ H2 H2' hi ⟨ht2, hP2, z1, z2, z3, z4, z5, z6, z7, z9, z10, z11, z12, z13, z14, z15, eo⟩ hy => ?_) (fun σ H' ⟨_, b, c⟩ => ⟨b, c⟩)⟩, ?_⟩
  · subst eo
    obtain ⟨rfl, rfl⟩ := hy
    have turnEnd : ∀ {H' : Hp} {σ : L2.St}, KpT t H2' H' → TapeAt H' t l ns → (∃ z1 z2 z3 z4 z5 z6 z7 z9 z10 z11 z12 z13 z14 z15, σ = S t z1 z2 z3 z4 z5 z6 z7 z9 z10 z11 z12 z13 z14 z15) → TapeAt H' t l ns ∧ H' Pt = some (.tbl #[]) ∧ ∃ z1 z2 z3 z4 z5 z6 z7 z9 z10 z11 z12 z13 z14 z15, σ = S t z1 z2 z3 z4 z5 z6 z7 z9 z10 z11 z12 z13 z14 z15 := fun k h e => ⟨h, k _ _ (ht2.ne hP2 fun _ => nofun) hP2, e⟩
    -- the drawn nets and texts
    refine ⟨fun σ H' => KpT t H2' H' ∧ TapeAt H' t l ns ∧ ∃ (o : Addr) (L : List Wv), H' o = some (.lst (L.map fun v => V.ref v.p)) ∧ o ≠ t ∧ WvsAt H' L ∧ (∀ v ∈ L, WvOk v) ∧ 0 < L.length ∧ L.length ≤ 3 ∧ σ = S t (some (.int (0 + (i : Nat)))) z2 z3 z4 z5 z6 z7 (some (.ref o)) z10 z11 z12 z13 z14 z15, ⟨_, rfl, t, l, ns, rfl, ht2, fun H3 o L kp3 ht3 fo ho wL okL l0 l3 => ⟨kp3, ht3, o, L, ho, (ht2.fresh fo).1, wL, okL, l0, l3, rfl⟩⟩, ?_⟩
    rintro σ H3 ⟨kp3, ht3, o, L, ho, not, wL, okL, l0, l3, rfl⟩
    -- the carpets
    refine ⟨fun σ H' => KpT t H3 H' ∧ TapeAt H' t l ns ∧ ∃ (D : Addr) (M : List Cp), H' D = some (.lst (M.map fun m => V.ref m.p)) ∧ CpsAt CN CC CW H' M ∧ M.length = L.length ∧ Fit M L ∧ σ = S t (some (.int (0 + (i : Nat)))) (some (.ref D)) z3 z4 z5 z6 z7 (some (.ref o)) z10 z11 z12 z13 z14 z15, ⟨_, rfl, o, rfl, ⟨_, SqL.of ho⟩, fun D hD => lc_it (walk_list (K := K) (a := o) (xs := L.map fun v => V.ref v.p)) (fun j H' => KpT t H3 H' ∧ TapeAt H' t l ns ∧ ∃ M : List Cp, M.length = j ∧ H' D = some (.lst (M.map fun m => V.ref m.p)) ∧ CpsAt CN CC CW H' M ∧ Fit M L)
      ⟨Same.kpt (same_new hD), ht3.same (same_new hD), [], rfl, upd_same, fun m hm => (by cases hm), Fit.nil⟩ (fun j H' _ ⟨k', _⟩ => SqL.of (k' _ _ not ho)) (fun j x H4 H5 hj ⟨kp4, ht4, M, lM, hM, cM, fM⟩ hy => ?_) (fun H' ⟨kp4, ht4, M, lM, hM, cM, fM⟩ => ⟨kp4, ht4, D, M, hM, cM, by rw [lM, List.length_map], fM, rfl⟩)⟩, ?_⟩
    · obtain ⟨rfl, hx⟩ := hy
      rw [List.getElem?_map] at hx
      obtain ⟨v, hv, rfl⟩ := Option.map_eq_some_iff.mp hx
      have mv := List.mem_of_getElem? hv
      obtain ⟨n, e1, e2⟩ := ((wL v mv).kpt ht3 kp4)
      have okv := okL v mv
      obtain ⟨dt, dl⟩ := ht3.fresh hD
      refine ⟨v.p, _, rfl, SqT.of e1, rfl, _, _, rfl, _, _, rfl, rfl, rfl, _, rfl, _, rfl, _, rfl, t, l, n, ns, v.a, v.b, v.c, v.cs, rfl, ht4, e2, okv.ok, Nat.le_trans okv.le (by decide), okv.len, okv.pal.letters, fun H6 z kp6 ht6 gz az cz sz => ?_⟩
      have hM6 := kp6 _ _ dt hM
      refine ⟨_, hM6, by rw [List.length_map, lM]; rw [List.length_map] at hj; exact lt_line (by omega), (kp4.trans kp6).put hD, ht6.put dt dl, M ++ [z], by rw [List.length_append, lM]; rfl, by rw [upd_same, List.map_append]; rfl, fun m hm => ?_, fM.snoc (by rw [lM]; exact hv) cz sz⟩
      rcases List.mem_append.mp hm with hm | hm
      · exact ((cM.keepN (ht4.keepN kp6)).keepN (keepN_lst hM6)) m hm
      · rw [List.mem_singleton.mp hm]
        exact ⟨gz, CarpAt.keepN az (keepN_lst hM6)⟩
    rintro σ H4 ⟨kp4, ht4, D, M, hM, cM, eM, fM, rfl⟩
    have wL4 := wL.kp ht3 kp4
    have ho4 := kp4 _ _ not ho
    have okM : ∀ m ∈ M, Ok m.W m.R m.Hh := fun m hm => (cM m hm).1.ok
    have m10 : ∀ m ∈ M, m.W * m.Hh ≤ 10 := fun m hm => by
      obtain ⟨v, hv, _, le⟩ := fit_at fM eM hm
      exact Nat.le_trans le (okL v hv).le
    obtain ⟨W, R, Hh, cc⟩ := cmnC_ex okM
    have WH : W * Hh ≤ 1000 := by
      have h1 := cc.le
      have h2 := prodC_le m10
      have h3 : 10 ^ M.length ≤ 10 ^ 3 := Nat.pow_le_pow_right (by decide) (by omega)
      omega
    have pW := cc.ok.pa
    have pH := cc.ok.2
    have bW : W ≤ 1000 := Nat.le_trans (Nat.le_mul_of_pos_right _ pH) WH
    have bH : Hh ≤ 1000 := Nat.le_trans (Nat.le_mul_of_pos_left _ pW) WH
    -- the common net
    refine ⟨fun σ H' => Same H4 H' ∧ ∃ cn, NtAt H' cn W R Hh ∧ σ = S t (some (.int (0 + (i : Nat)))) (some (.ref D)) z3 (some (.ref cn)) z5 z6 z7 (some (.ref o)) z10 z11 z12 z13 z14 z15, ⟨_, rfl, D, rfl, ⟨_, SqL.of hM⟩, fun D2 hD2 => lc_rel (walk_list (K := K) (a := D) (xs := M.map fun m => V.ref m.p)) (by rw [List.length_map]; omega) hD2 (fun j y H' => ∃ (q : Addr) (m : Cp), M[j]? = some m ∧ y = .ref q ∧ NtAt H' q m.W m.R m.Hh) (fun j y H' H'' k ⟨q, m, e1, e2, e3⟩ => ⟨q, m, e1, e2, k _ _ e3 fun _ => nofun⟩) (fun H' s' => SqL.of (s' _ _ hM)) (fun j x H5 H6 hj s5 hy => ?_) (fun σ H Q Q' f h => ?_) gName_mono (fun H' ys s5 el hR eD => ?_)⟩, ?_⟩
    · obtain ⟨rfl, hx⟩ := hy
      rw [List.getElem?_map] at hx
      obtain ⟨m, hm, rfl⟩ := Option.map_eq_some_iff.mp hx
      obtain ⟨gm, am⟩ := cM m (List.mem_of_getElem? hm)
      obtain ⟨dx, n, h1, dn, tn, h2, h3⟩ := CarpAt.same am s5
      exact ⟨rfl, _, rfl, m.C, m.p, dx, _, gm.kin, rfl, h1, m.p, dx, n, m.cs, rfl, h1, n, dn, _, rfl, h2, n, dn, tn, rfl, h2, ⟨tn, m, hm, rfl, h3⟩, Same.refl _⟩
    · obtain ⟨v, e, C, a1, dx, fs, kin, e2, h1, p1, dx1, n1, cs1, e3, h2, a2, dn, fs2, e4, h3, p2, dn2, tn, e5, h4, h⟩ := h
      exact ⟨v, e, C, a1, dx, fs, kin, e2, h1, p1, dx1, n1, cs1, e3, h2, a2, dn, fs2, e4, h3, p2, dn2, tn, e5, h4, f _ _ h⟩
    · obtain ⟨Ln, eys, hLn, eLn⟩ := nts_of ys M (by rw [el, List.length_map]) hR
      rw [eys] at eD
      have memL : ∀ m, m ∈ Ln → ∃ m' ∈ M, m.2 = (m'.W, m'.R, m'.Hh) := fun m hm => by
        have mm : m.2 ∈ Ln.map (·.2) := List.mem_map.mpr ⟨m, hm, rfl⟩
        rw [eLn] at mm
        obtain ⟨m', hm', e⟩ := List.mem_map.mp mm
        exact ⟨m', hm', e.symm⟩
      have memM : ∀ m', m' ∈ M → ∃ m ∈ Ln, m.2 = (m'.W, m'.R, m'.Hh) := fun m' hm' => by
        have mm : (m'.W, m'.R, m'.Hh) ∈ M.map fun m : Cp => (m.W, m.R, m.Hh) := List.mem_map.mpr ⟨m', hm', rfl⟩
        rw [← eLn] at mm
        obtain ⟨m, hm, e⟩ := List.mem_map.mp mm
        exact ⟨m, hm, e⟩
      have lLn : Ln.length = M.length := by
        have := congrArg List.length eLn
        rwa [List.length_map, List.length_map] at this
      refine ⟨D2, Ln, W, R, Hh, rfl, eD, hLn, fun m hm => ?_, by omega, cc.ok, by omega, by omega, fun x y => ?_, fun H6 r s6 hr6 => ⟨s5.trans s6, r, hr6, rfl⟩⟩
      · obtain ⟨m', hm', e⟩ := memL m hm
        rw [e]
        have h1 := m10 m' hm'
        have o := okM m' hm'
        have h2 : m'.W ≤ m'.W * m'.Hh := Nat.le_mul_of_pos_right _ o.2
        have h3 : m'.Hh ≤ m'.W * m'.Hh := Nat.le_mul_of_pos_left _ o.pa
        exact ⟨o, by show m'.W < 2 ^ 10; omega, by show m'.Hh < 2 ^ 10; omega⟩
      · rw [cc.iff]
        constructor
        · intro all m hm
          obtain ⟨m', hm', e⟩ := memL m hm
          rw [e]; exact all m' hm'
        · intro all m' hm'
          obtain ⟨m, hm, e⟩ := memM m' hm'
          have := all m hm
          rw [e] at this
          exact this
    rintro σ H5 ⟨s5, cn, hcn, rfl⟩
    -- the places
    refine ⟨fun σ H' => Same H5 H' ∧ ∃ (ls : Addr) (Lp : Pls), H' ls = some (.lst (Lp.map fun p => V.ref p.1)) ∧ PlsH H' Lp ∧ Lp.map (·.2) = cellPl W Hh ∧ σ = S t (some (.int (0 + (i : Nat)))) (some (.ref D)) z3 (some (.ref cn)) (some (.ref ls)) z6 z7 (some (.ref o)) z10 z11 z12 z13 z14 z15, ⟨_, rfl, cn, W, R, Hh, rfl, hcn, pW, by omega, by omega, fun H' ls s' fo ⟨Lp, hl, eL, pL⟩ => ⟨s', ls, Lp, hl, pL, eL, rfl⟩⟩, ?_⟩
    rintro σ H6 ⟨s6, ls, Lp, hls, pLp, eLp, rfl⟩
    have lenP : Lp.length = W * Hh := by
      have := congrArg List.length eLp
      rwa [List.length_map, cellPl_len] at this
    have atP : ∀ i p, Lp[i]? = some p → i < W * Hh ∧ p.2 = (((i % W : Nat) : Int), ((i / W : Nat) : Int)) := fun i p hp => by
      have lt : i < W * Hh := by rw [← lenP]; exact (List.getElem?_eq_some_iff.mp hp).1
      refine ⟨lt, ?_⟩
      have e : (Lp.map (·.2))[i]? = some p.2 := by rw [List.getElem?_map, hp]; rfl
      rw [eLp, cellPl_at lt] at e
      exact (Option.some.inj e).symm
    have s46 := s5.trans s6
    let px : Nat → Int := fun i => ((i % W : Nat) : Int)
    let py : Nat → Int := fun i => ((i / W : Nat) : Int)
    -- the rows
    refine ⟨fun σ H' => Same H6 H' ∧ ∃ (lr : Addr) (RL : Rw), H' lr = some (.lst (RL.map fun q => V.ref q.1)) ∧ RowsH H' RL ∧ RL.map (·.2) = (List.range (W * Hh)).map (fun i => rk (rowC M (px i) (py i))) ∧ σ = S t (some (.int (0 + (i : Nat)))) (some (.ref D)) z3 (some (.ref cn)) (some (.ref ls)) (some (.ref lr)) z7 (some (.ref o)) z10 z11 z12 z13 z14 z15, ⟨_, rfl, ls, rfl, ⟨_, SqL.of hls⟩, fun D1 hD1 => lc_rel (walk_list (K := K) (a := ls) (xs := Lp.map fun p => V.ref p.1)) (by rw [List.length_map, lenP]; omega) hD1 (fun j y H' => ∃ b, y = .ref b ∧ H' b = some (.tup ((rk (rowC M (px j) (py j))).map kV))) (fun j y H' H'' k ⟨b, e1, e2⟩ => ⟨b, e1, k _ _ e2 fun _ => nofun⟩) (fun H' s' => SqL.of (s' _ _ hls)) (fun j x H7 H8 hj s7 hy => ?_) (fun σ H Q Q' f h => ?_) gName_mono (fun H' ys s7 el hR eD => ?_)⟩, ?_⟩
    · obtain ⟨rfl, hx⟩ := hy
      rw [List.getElem?_map] at hx
      obtain ⟨p, hp, rfl⟩ := Option.map_eq_some_iff.mp hx
      obtain ⟨ltj, ep⟩ := atP j p hp
      have hp8 := s7 _ _ (pLp p (List.mem_of_getElem? hp))
      have ho8 := (s46.trans s7) _ _ ho4
      refine ⟨rfl, _, rfl, o, rfl, ⟨_, SqL.of ho8⟩, fun D2 hD2 => lc_rel (walk_list (K := K) (a := o) (xs := L.map fun v => V.ref v.p)) (by rw [List.length_map]; omega) hD2 (fun k y _ => ((rk (rowC M (px j) (py j))).map kV)[k]? = some y) (fun _ _ _ _ _ r => r) (fun H' s' => SqL.of (s' _ _ ho8)) (fun k x H9 H10 hk s9 hy => ?_) (fun σ H Q Q' f h => ?_) (fun v σ H Q Q' f h => ?_) (fun H' ys s9 el hR eD => ?_)⟩
      · obtain ⟨rfl, hx⟩ := hy
        rw [List.getElem?_map] at hx
        obtain ⟨v, hv, rfl⟩ := Option.map_eq_some_iff.mp hx
        have mv := List.mem_of_getElem? hv
        obtain ⟨n, e1, e2⟩ := (wL4 v mv).same ((s46.trans s7).trans s9)
        have okv := okL v mv
        have h15 : v.a ≤ 10 := Nat.le_trans (Nat.le_mul_of_pos_right _ okv.ok.2) okv.le
        have c15 : v.c ≤ 10 := Nat.le_trans (Nat.le_mul_of_pos_left _ okv.ok.pa) okv.le
        have lk : k < M.length := by rw [eM]; exact (List.getElem?_eq_some_iff.mp hv).1
        have hm := List.getElem?_eq_getElem lk
        obtain ⟨cv, _⟩ := fM k _ v hm hv
        refine ⟨v.p, _, rfl, SqT.of e1, rfl, _, _, rfl, _, _, rfl, rfl, rfl, _, rfl, _, rfl, _, rfl, n, p.1, v.a, v.b, v.c, v.cs, p.2.1, p.2.2, rfl, e2, s9 _ _ hp8, okv.ok, by omega, by omega, okv.len, fun H11 s11 => ⟨?_, s11⟩⟩
        rw [rk_V, List.getElem?_map, rowC, List.getElem?_map, hm]
        show some (V.str (sign ((M[k]).col (px j) (py j)))) = _
        rw [cv, ep]
      · obtain ⟨v1, e1, v2, e2, v3, e3, n', q', a', b', c', cs', x', y', k1, k2, k3, k4, k5, k6, k7, h⟩ := h
        exact ⟨v1, e1, v2, e2, v3, e3, n', q', a', b', c', cs', x', y', k1, k2, k3, k4, k5, k6, k7, fun H' s' => f _ _ (h H' s')⟩
      · obtain ⟨a1, x1, e1, h1, h2, v1, w1, e3, v2, w2, e4, e5, h⟩ := h
        exact ⟨a1, x1, e1, h1, h2, v1, w1, e3, v2, w2, e4, e5, f _ _ h⟩
      · have ey : ys = (rk (rowC M (px j) (py j))).map kV := by
          have ll : ((rk (rowC M (px j) (py j))).map kV).length = ys.length := by rw [List.length_map, rk_len, rowC, List.length_map, el, List.length_map, eM]
          apply List.ext_getElem?
          intro k
          by_cases lt : k < ys.length
          · have g := List.getElem?_eq_getElem lt
            rw [g, hR k _ g]
          · rw [List.getElem?_eq_none (by omega), List.getElem?_eq_none (by omega)]
        rw [ey] at eD
        refine ⟨D2, _, rfl, .inl ⟨SqL.of eD, fun b hb => ⟨⟨b, rfl, upd_same⟩, s9.trans (same_new hb)⟩⟩⟩
    · obtain ⟨v1, e1, a1, e2, hs, hf⟩ := h
      refine ⟨v1, e1, a1, e2, hs, fun D hD => ?_⟩
      obtain ⟨W', h0, h1⟩ := hf D hD
      refine ⟨W', h0, fun i m H w => (h1 i m H w).imp (fun ⟨st, q⟩ => ⟨st, ?_⟩) id⟩
      obtain ⟨p1, ys1, e3, q⟩ := q
      exact ⟨p1, ys1, e3, q.imp (fun ⟨x1, x2⟩ => ⟨x1, fun l hl => f _ _ (x2 l hl)⟩) (fun ⟨x1, x2⟩ => ⟨x1, f _ _ x2⟩)⟩
    · obtain ⟨RL, q1, q2, q3⟩ := rw_of (H := H') (fun i => rk (rowC M (px i) (py i))) ys 0 (fun i y hy => by
        obtain ⟨b, e1, e2⟩ := hR i y hy
        exact ⟨b, e1, by rw [Nat.zero_add]; exact e2⟩)
      rw [q1] at eD
      rw [el, List.length_map, lenP, ← List.range_eq_range'] at q3
      exact ⟨s7, D1, RL, eD, q2, q3, rfl⟩
    rintro σ H7 ⟨s7, lr, RL, hlr, hRL, eRL, rfl⟩
    -- the due letters and the known rows
    obtain ⟨m0, ks, dr⟩ := drawn_of fM eM okL l0 l3 okM cc
    obtain ⟨φ, ds, lc, du⟩ := dr.least
    have kn := dr.kn
    have eRL' : RL.map (·.2) = ((List.range (W * Hh)).map fun i => rowC M ((i % W : Nat) : Int) ((i / W : Nat) : Int)).map rk := by rw [eRL, List.map_map]; rfl
    have memk : ∀ p ∈ RL, ∃ r, r ∈ ((List.range (W * Hh)).map fun i => rowC M ((i % W : Nat) : Int) ((i / W : Nat) : Int)) ∧ p.2 = rk r := fun p hp => by
      have m : p.2 ∈ RL.map (·.2) := List.mem_map.mpr ⟨p, hp, rfl⟩
      rw [eRL'] at m
      obtain ⟨r, hr, e⟩ := List.mem_map.mp m
      exact ⟨r, hr, e.symm⟩
    have hsh : ∀ p ∈ RL, shp p.2 = List.replicate M.length false := fun p hp => by
      obtain ⟨r, hr2, e⟩ := memk p hp
      rw [e, rk_shp, kn.len r hr2]
    have ifk : ∀ k, k ∈ ks.map rk ↔ k ∈ RL.map (·.2) := fun k => by
      rw [eRL']
      constructor
      · intro m
        obtain ⟨r, hr2, e⟩ := List.mem_map.mp m
        exact List.mem_map.mpr ⟨r, (kn.iff r).mp hr2, e⟩
      · intro m
        obtain ⟨r, hr2, e⟩ := List.mem_map.mp m
        exact List.mem_map.mpr ⟨r, (kn.iff r).mpr hr2, e⟩
    have lks : (ks.map rk).length < 63 := by rw [List.length_map]; exact kn.few
    have lmr : W * Hh ≤ 1000 := WH
    refine ⟨fun σ H' => Same H7 H' ∧ ∃ (d kl : Addr) (Y : Rw), H' d = some (.dT (kvsOf ks fun i => .str (sign (97 + ds.findIdx fun d => decide (d = φ (cOf ks i 0)))))) ∧ H' kl = some (.lst (Y.map fun q => V.ref q.1)) ∧ RowsH H' Y ∧ Y.map (·.2) = ks.map rk ∧ σ = S t (some (.int (0 + (i : Nat)))) (some (.ref D)) z3 (some (.ref cn)) (some (.ref ls)) (some (.ref lr)) z7 (some (.ref o)) (some (.ref d)) (some (.ref kl)) z12 z13 z14 z15,
      ⟨_, rfl, lr, RL, M.length, _, ks, _, ds, rfl, hlr, hRL, eRL', kn, du, fun H8 d s8 fd hd => ⟨_, rfl, lr, RL, ks.map rk, rfl, SqL.of (s8 _ _ hlr), (hRL.same s8).t, lks, fun p hp => (ifk p.2).mpr (List.mem_map.mpr ⟨p, hp, rfl⟩), fun a L ha h1 h2 => ⟨a, L, List.replicate M.length false, rfl, upd_same, set_rows_at (hRL.same s8) ha h1, fun p hp => hsh p (h1 p hp), fun e => ?_, fun Y r pm ndY sr hr2 => ⟨two_line, fun T2 hT2 => ⟨T2, _, rfl, SqT.of upd_same, rfl, _, _, rfl, _, _, rfl, rfl, ?_⟩⟩⟩⟩⟩, ?_⟩
    · have e2 := congrArg List.length e
      rw [List.length_replicate] at e2
      exact absurd kn.pos (by rw [e2]; decide)
    · obtain ⟨s9, _, hY, eY⟩ := sort_set_rows (hRL.same s8) hsh kn.srt (List.Pairwise.map rk (fun a b h e => h (rk_inj e)) kn.nd) ifk ha h1 h2 pm ndY sr hr2
      have sT := same_new (o := .tup [V.ref d, V.ref r]) hT2
      exact ⟨(s8.trans s9).trans sT, d, r, Y, sT _ _ (s9 _ _ hd), sT _ _ upd_same, hY.same sT, eY, rfl⟩
    rintro σ H8 ⟨s8, d, kl, Y, hd, hkl, hY, eY, rfl⟩
    -- few rows: merged and paired
    have s48 := (s46.trans s7).trans s8
    have kp8 : KpT t H2' H8 := kp3.trans (kp4.trans (Same.kpt s48))
    have ht8 := ht4.same s48
    have lenY : Y.length = ks.length := by
      have := congrArg List.length eY
      rwa [List.length_map, List.length_map] at this
    refine ⟨_, rfl, kl, _, rfl, .inl (SqL.of hkl), _, _, rfl, rfl, _, rfl, ite2 (fun lt => ?_) (fun _ => turnEnd kp8 ht8 ⟨_, _, _, _, _, _, _, _, _, _, _, _, _, _, rfl⟩)⟩
    have lt26 : ks.length ≤ 26 := by
      have h := of_decide_eq_true lt
      rw [List.length_map, lenY] at h
      omega
    have cM8 := cM.same s48
    have hM8 := s48 _ _ hM
    have l3' := dr.l3
    have gM : ∀ m ∈ M, m.Good CC CW := fun m hm => (cM m hm).1
    refine ⟨fun σ H' => Same H8 H' ∧ ∃ z y : Cp, GoodZ CN CC CW H' W R Hh z ∧ GoodZ CN CC CW H' W R Hh y ∧ (∀ u v, z.col u v = 97 + ds.findIdx (fun d => decide (d = φ (m0.col u v)))) ∧ (∀ u v, y.col u v = 97 + ixOf (ks.map rk) (rowK M u v)) ∧ σ = S t (some (.int (0 + (i : Nat)))) (some (.ref D)) z3 (some (.ref cn)) (some (.ref ls)) (some (.ref lr)) z7 (some (.ref o)) (some (.ref d)) (some (.ref kl)) (some (.ref z.p)) (some (.ref y.p)) z14 z15,
      ⟨_, rfl, D, M, W, R, Hh, m0, φ, ds, ks.map rk, rfl, hM8, cM8, l3', ⟨small_of m10 dr.l3, dr.lowC, dr.letC gM, cc, by omega, dr.hm0, lc, du.few, dr.known, by rw [List.length_map]; exact lt26⟩, fun H9 r z y s9 hr gz gy cz cy => ⟨r, _, rfl, SqL.of hr, rfl, _, _, rfl, _, _, rfl, rfl, s9, z, y, gz, gy, cz, cy, rfl⟩⟩, ?_⟩
    rintro σ H9 ⟨s9, z, y, gz, gy, cz, cy, rfl⟩
    have kp9 := kp8.trans (Same.kpt s9)
    have ht9 := ht8.same s9
    have okz := gz.1.ok
    have oky := gy.1.ok
    have szz : z.W * z.Hh ≤ 1000 := Nat.le_trans (size_sub cc.ok okz gz.2.2) WH
    have szy : y.W * y.Hh ≤ 1000 := Nat.le_trans (size_sub cc.ok oky gy.2.2) WH
    have bz1 : z.W ≤ z.W * z.Hh := Nat.le_mul_of_pos_right _ okz.2
    have bz2 : z.Hh ≤ z.W * z.Hh := Nat.le_mul_of_pos_left _ okz.pa
    have by1 : y.W ≤ y.W * y.Hh := Nat.le_mul_of_pos_right _ oky.2
    have by2 : y.Hh ≤ y.W * y.Hh := Nat.le_mul_of_pos_left _ oky.pa
    have atR : ∀ j x, (RL.map fun q => V.ref q.1)[j]? = some x → ∃ p ∈ RL, x = .ref p.1 ∧ j < W * Hh ∧ ∃ i, i < ks.length ∧ p.2 = rk (ks.getD i []) ∧ ks.getD i [] = rowC M (px j) (py j) := fun j x hx => by
      rw [List.getElem?_map] at hx
      obtain ⟨p, hp, e⟩ := Option.map_eq_some_iff.mp hx
      have e2 : (RL.map (·.2))[j]? = some p.2 := by rw [List.getElem?_map, hp]; rfl
      rw [eRL, List.getElem?_map] at e2
      obtain ⟨j', hj', e3⟩ := Option.map_eq_some_iff.mp e2
      obtain ⟨lj, ej⟩ := List.getElem?_eq_some_iff.mp hj'
      rw [List.getElem_range] at ej
      rw [List.length_range] at lj
      subst ej
      obtain ⟨i, hi, e4⟩ := dr.ix (px j) (py j)
      exact ⟨p, List.mem_of_getElem? hp, e.symm, lj, i, hi, by rw [← e3, e4], e4⟩
    have lenR : RL.length = W * Hh := by
      have := congrArg List.length eRL
      rwa [List.length_map, List.length_map, List.length_range] at this
    have hls9 := ((s7.trans s8).trans s9) _ _ hls
    have hlr9 := (s8.trans s9) _ _ hlr
    have hRL9 := hRL.same (s8.trans s9)
    have pLp9 : PlsH H9 Lp := fun p hp => ((s7.trans s8).trans s9) _ _ (pLp p hp)
    have fz : ∀ j, 97 + ds.findIdx (fun d => decide (d = φ (m0.col (px j) (py j)))) < 128 := fun j => by
      have h := List.findIdx_le_length (xs := ds) (p := fun d => decide (d = φ (m0.col (px j) (py j))))
      have := du.few
      omega
    -- the first list
    refine ⟨fun σ H' => Same H9 H' ∧ σ = S t (some (.int (0 + (i : Nat)))) (some (.ref D)) z3 (some (.ref cn)) (some (.ref ls)) (some (.ref lr)) z7 (some (.ref o)) (some (.ref d)) (some (.ref kl)) (some (.ref z.p)) (some (.ref y.p)) z14 z15, ⟨_, rfl, ls, rfl, ⟨_, SqL.of hls9⟩, fun D1 hD1 => lc_rel (walk_list (K := K) (a := ls) (xs := Lp.map fun p => V.ref p.1)) (by rw [List.length_map, lenP]; omega) hD1 (fun j v _ => v = .str (sign (97 + ds.findIdx (fun d => decide (d = φ (m0.col (px j) (py j))))))) (fun _ _ _ _ _ r => r) (fun H' s' => SqL.of (s' _ _ hls9)) (fun j x H10 H11 hj s10 hy => ?_) (fun σ H Q Q' f h => ?_) gName_mono (fun H' ys s10 el hR eD => ?_)⟩, ?_⟩
    · obtain ⟨rfl, hx⟩ := hy
      rw [List.getElem?_map] at hx
      obtain ⟨p, hp, rfl⟩ := Option.map_eq_some_iff.mp hx
      obtain ⟨ltj, ep⟩ := atP j p hp
      obtain ⟨dx, n, h1, h2⟩ := CarpAt.same gz.2.1 s10
      refine ⟨rfl, _, rfl, _, rfl, z.C, z.p, dx, _, gz.1.kin, rfl, h1, z.p, p.1, z.W, z.R, z.Hh, z.cs, p.2.1, p.2.2, rfl, ⟨dx, n, h1, h2⟩, s10 _ _ (pLp9 p (List.mem_of_getElem? hp)), okz, by omega, by omega, gz.1.len, fun H12 s12 => ⟨?_, s12⟩⟩
      have h := cz (px j) (py j)
      unfold Cp.col at h
      rw [ep, h]
      rfl
    · obtain ⟨v1, e1, v2, e2, C, a, dx, fs, hC, e3, ea, p', q', W', R', Hh', cs', x', y', k1, k2, k3, k4, k5, k6, k7, h⟩ := h
      exact ⟨v1, e1, v2, e2, C, a, dx, fs, hC, e3, ea, p', q', W', R', Hh', cs', x', y', k1, k2, k3, k4, k5, k6, k7, fun H' s' => f _ _ (h H' s')⟩
    · rw [sg_list (f := fun j => 97 + ds.findIdx (fun d => decide (d = φ (m0.col (px j) (py j))))) el hR] at eD
      have hlr10 := s10 _ _ hlr9
      have hd10 := (s9.trans s10) _ _ hd
      refine ⟨_, rfl, lr, rfl, ⟨_, SqL.of hlr10⟩, fun D2 hD2 => lc_rel (walk_list (K := K) (a := lr) (xs := RL.map fun q => V.ref q.1)) (by rw [List.length_map, lenR]; omega) hD2 (fun j v _ => v = .str (sign (97 + ds.findIdx (fun d => decide (d = φ (m0.col (px j) (py j))))))) (fun _ _ _ _ _ r => r) (fun H' s' => SqL.of (s' _ _ hlr10)) (fun j x H11 H12 hj s11 hy => ?_) (fun σ H Q Q' f h => ?_) gName_mono (fun H' ys2 s11 el2 hR2 eD2 => ?_)⟩
      · obtain ⟨rfl, hx⟩ := hy
        obtain ⟨p, mp, rfl, lj, i2, hi2, ek, ec⟩ := atR j x hx
        have hp12 : H12 p.1 = some (.tup ((rk (ks.getD i2 [])).map kV)) := by
          rw [← ek]
          exact (s10.trans s11) _ _ (hRL9 p mp)
        have G : DGet H12 d (.ref p.1) (valV (kvsOf ks fun i => .str (sign (97 + ds.findIdx fun d => decide (d = φ (cOf ks i 0))))) (rk (ks.getD i2 []))) := DGet.t (s11 _ _ hd10) hp12
        rw [kvsOf_val kn.nd _ hi2, dr.c0 ec] at G
        exact ⟨rfl, _, rfl, _, rfl, d, _, rfl, G, rfl, Same.refl _⟩
      · obtain ⟨v1, e1, v2, e2, d', v', k1, k2, h⟩ := h
        exact ⟨v1, e1, v2, e2, d', v', k1, k2, f _ _ h⟩
      · rw [sg_list (f := fun j => 97 + ds.findIdx (fun d => decide (d = φ (m0.col (px j) (py j))))) el2 hR2] at eD2
        have eD1 := s11 _ _ eD
        rw [List.length_map, lenP] at eD1
        rw [List.length_map, lenR] at eD2
        have sh := strs_shaped (zs := (List.range (W * Hh)).map fun j => 97 + ds.findIdx (fun d => decide (d = φ (m0.col (px j) (py j))))) fun c hc => by
          obtain ⟨j, _, e⟩ := List.mem_map.mp hc
          rw [← e]; exact fz j
        refine ⟨_, _, .lst (SqL.of eD1) (dp_signs _), .lst (SqL.of eD2) (dp_signs _), sh, sh, _, rfl, ?_⟩
        rw [eqv_signs_self]
        exact iteF ⟨s10.trans s11, rfl⟩
    rintro σ H10 ⟨s10, rfl⟩
    -- the second list
    have s910 := s9.trans s10
    have hls10 := s10 _ _ hls9
    have pLp10 : PlsH H10 Lp := fun p hp => s10 _ _ (pLp9 p hp)
    have hkl10 := s910 _ _ hkl
    have hlr10 := s10 _ _ hlr9
    have hRL10 := hRL9.same s10
    have hY10 := hY.same s910
    have knK := dr.known
    have lowk : ∀ k ∈ ks.map rk, LowK k := fun k hk => by
      obtain ⟨x, y, e⟩ := (knK.iff k).mp hk
      rw [e]; exact rowK_low dr.lowC x y
    have fy : ∀ j, 97 + ixOf (ks.map rk) (rowK M (px j) (py j)) < 128 := fun j => by
      have jl := ixOf_lt ((knK.iff _).mpr ⟨px j, py j, rfl⟩)
      rw [List.length_map] at jl
      omega
    have okH : KpT t H2' H10 := kp9.trans (Same.kpt s10)
    refine ⟨fun σ H' => Same H10 H' ∧ σ = S t (some (.int (0 + (i : Nat)))) (some (.ref D)) z3 (some (.ref cn)) (some (.ref ls)) (some (.ref lr)) z7 (some (.ref o)) (some (.ref d)) (some (.ref kl)) (some (.ref z.p)) (some (.ref y.p)) z14 z15, ⟨_, rfl, ls, rfl, ⟨_, SqL.of hls10⟩, fun D1 hD1 => lc_rel (walk_list (K := K) (a := ls) (xs := Lp.map fun p => V.ref p.1)) (by rw [List.length_map, lenP]; omega) hD1 (fun j v _ => v = .str (sign (97 + ixOf (ks.map rk) (rowK M (px j) (py j))))) (fun _ _ _ _ _ r => r) (fun H' s' => SqL.of (s' _ _ hls10)) (fun j x H11 H12 hj s11 hy => ?_) (fun σ H Q Q' f h => ?_) gName_mono (fun H' ys s11 el hR eD => ?_)⟩, ?_⟩
    · obtain ⟨rfl, hx⟩ := hy
      rw [List.getElem?_map] at hx
      obtain ⟨p, hp, rfl⟩ := Option.map_eq_some_iff.mp hx
      obtain ⟨ltj, ep⟩ := atP j p hp
      obtain ⟨dx, n, h1, h2⟩ := CarpAt.same gy.2.1 (s10.trans s11)
      refine ⟨rfl, _, rfl, _, rfl, y.C, y.p, dx, _, gy.1.kin, rfl, h1, y.p, p.1, y.W, y.R, y.Hh, y.cs, p.2.1, p.2.2, rfl, ⟨dx, n, h1, h2⟩, s11 _ _ (pLp10 p (List.mem_of_getElem? hp)), oky, by omega, by omega, gy.1.len, fun H13 s13 => ⟨?_, s13⟩⟩
      have h := cy (px j) (py j)
      unfold Cp.col at h
      rw [ep, h]
    · obtain ⟨v1, e1, v2, e2, C, a, dx, fs, hC, e3, ea, p', q', W', R', Hh', cs', x', y', k1, k2, k3, k4, k5, k6, k7, h⟩ := h
      exact ⟨v1, e1, v2, e2, C, a, dx, fs, hC, e3, ea, p', q', W', R', Hh', cs', x', y', k1, k2, k3, k4, k5, k6, k7, fun H' s' => f _ _ (h H' s')⟩
    · rw [sg_list (f := fun j => 97 + ixOf (ks.map rk) (rowK M (px j) (py j))) el hR] at eD
      have hlr11 := s11 _ _ hlr10
      have hkl11 := s11 _ _ hkl10
      refine ⟨_, rfl, lr, rfl, ⟨_, SqL.of hlr11⟩, fun D2 hD2 => lc_rel (walk_list (K := K) (a := lr) (xs := RL.map fun q => V.ref q.1)) (by rw [List.length_map, lenR]; omega) hD2 (fun j v _ => v = .str (sign (97 + ixOf (ks.map rk) (rowK M (px j) (py j))))) (fun _ _ _ _ _ r => r) (fun H' s' => SqL.of (s' _ _ hlr11)) (fun j x H12 H13 hj s12 hy => ?_) (fun σ H Q Q' f h => ?_) gName_mono (fun H' ys2 s12 el2 hR2 eD2 => ?_)⟩
      · obtain ⟨rfl, hx⟩ := hy
        rw [List.getElem?_map] at hx
        obtain ⟨q, hq, rfl⟩ := Option.map_eq_some_iff.mp hx
        have e2 : q.2 = rowK M (px j) (py j) := by
          have e2 : (RL.map (·.2))[j]? = some q.2 := by rw [List.getElem?_map, hq]; rfl
          rw [eRL, List.getElem?_map] at e2
          obtain ⟨j', hj', e3⟩ := Option.map_eq_some_iff.mp e2
          obtain ⟨lj, ej⟩ := List.getElem?_eq_some_iff.mp hj'
          rw [List.getElem_range] at ej
          subst ej
          rw [← e3, rowC_rk]
        have mem : rowK M (px j) (py j) ∈ ks.map rk := (knK.iff _).mpr ⟨_, _, rfl⟩
        have jl := ixOf_lt mem
        rw [List.length_map] at jl
        have hq' : H13 q.1 = some (.tup ((rowK M (px j) (py j)).map kV)) := by
          rw [← e2]; exact (s11.trans s12) _ _ (hRL10 q (List.mem_of_getElem? hq))
        have hkl13 := s12 _ _ hkl11
        have dpY := dp_rows (K := K) (hY10.same (s11.trans s12))
        rw [show (Y.map fun q => encR q.2) = (ks.map rk).map encR by rw [← eY, List.map_map]; rfl] at dpY
        refine ⟨rfl, _, rfl, .inl ⟨rfl, _, SqL.of hkl13⟩, _, rfl, kl, .ref q.1, _, (ks.map rk).map encR, ixOf (ks.map rk) (rowK M (px j) (py j)), encR (rowK M (px j) (py j)), rfl, rfl, .lst (SqL.of hkl13) dpY, dp_row hq', shaped_rows lowk, shaped_row (lowk _ mem), ?_, ?_, fun m z' hm hz' => ?_, lettersS, _, 97 + ixOf (ks.map rk) (rowK M (px j) (py j)), rfl, rfl, by decide +kernel, atI_nat ?_, rfl, Same.refl _⟩
        · rw [List.getElem?_map, ixOf_at mem]; rfl
        · rw [eqv_row rfl]; exact decide_eq_true rfl
        · rw [List.getElem?_map] at hz'
          obtain ⟨k', hk', e'⟩ := Option.map_eq_some_iff.mp hz'
          have mk := List.mem_of_getElem? hk'
          obtain ⟨x', y', ek⟩ := (knK.iff k').mp mk
          rw [← e', eqv_row (by rw [ek, rowK_shp, rowK_shp])]
          exact decide_eq_false (ixOf_first hm hk')
        · rw [lettersS_list, letters, List.getElem?_map, List.getElem?_range (by omega)]; rfl
      · obtain ⟨v, e, ty, v', e', a1, y1, d1, ds, j, z, e1, e2, h1, h2, h3, h4, h5, h6, h7, z', i', c', e8, e9, h8, h9, h⟩ := h
        exact ⟨v, e, ty, v', e', a1, y1, d1, ds, j, z, e1, e2, h1, h2, h3, h4, h5, h6, h7, z', i', c', e8, e9, h8, h9, f _ _ h⟩
      · rw [sg_list (f := fun j => 97 + ixOf (ks.map rk) (rowK M (px j) (py j))) el2 hR2] at eD2
        have eD1 := s12 _ _ eD
        rw [List.length_map, lenP] at eD1
        rw [List.length_map, lenR] at eD2
        have sh := strs_shaped (zs := (List.range (W * Hh)).map fun j => 97 + ixOf (ks.map rk) (rowK M (px j) (py j))) fun c hc => by
          obtain ⟨j, _, e⟩ := List.mem_map.mp hc
          rw [← e]; exact fy j
        refine ⟨_, _, .lst (SqL.of eD1) (dp_signs _), .lst (SqL.of eD2) (dp_signs _), sh, sh, _, rfl, ?_⟩
        rw [eqv_signs_self]
        exact iteF ⟨s11.trans s12, rfl⟩
    rintro σ H11 ⟨s11, rfl⟩
    -- the carpets are refined
    have hM11 := ((s9.trans s10).trans s11) _ _ hM8
    have cM11 := cM8.same ((s9.trans s10).trans s11)
    have kp11 := okH.trans (Same.kpt s11)
    have ht11 := (ht9.same s10).same s11
    have az11 := CarpAt.same gz.2.1 (s10.trans s11)
    have ay11 := CarpAt.same gy.2.1 (s10.trans s11)
    refine ⟨_, rfl, D, rfl, ⟨_, SqL.of hM11⟩, for_it (walk_list (K := K) (a := D) (xs := M.map fun m => V.ref m.p)) (fun j σ H' => Same H11 H' ∧ ∃ z3, σ = S t (some (.int (0 + (i : Nat)))) (some (.ref D)) z3 (some (.ref cn)) (some (.ref ls)) (some (.ref lr)) z7 (some (.ref o)) (some (.ref d)) (some (.ref kl)) (some (.ref z.p)) (some (.ref y.p)) z14 z15) ⟨Same.refl _, _, rfl⟩ (fun i σ H' _ ⟨s', _⟩ => SqL.of (s' _ _ hM11)) (fun j x σ H12 H13 hj ⟨s12, z3, eo⟩ hy => ?_) (fun σ H' ⟨s', z3, eo⟩ => turnEnd (kp11.trans (Same.kpt s')) (ht11.same s') ⟨_, _, _, _, _, _, _, _, _, _, _, _, _, _, eo⟩)⟩
    subst eo
    obtain ⟨rfl, hx⟩ := hy
    rw [List.getElem?_map] at hx
    obtain ⟨m, hm, rfl⟩ := Option.map_eq_some_iff.mp hx
    have mm := List.mem_of_getElem? hm
    obtain ⟨gm, am⟩ := cM11 m mm
    have am13 := CarpAt.same am s12
    have az13 := CarpAt.same az11 s12
    have ay13 := CarpAt.same ay11 s12
    have szm : m.W * m.Hh ≤ 10 := m10 m mm
    have subm : ∀ u v, InL W R Hh u v → InL m.W m.R m.Hh u v := fun u v h => (cc.iff u v).mp h m mm
    have r1 := refines_merged lc dr.hm0 cz mm
    have r2 := refines_paired dr.known cy mm
    refine ⟨fun σ H' => Same H13 H' ∧ σ = S t (some (.int (0 + (i : Nat)))) (some (.ref D)) (some (.ref m.p)) (some (.ref cn)) (some (.ref ls)) (some (.ref lr)) z7 (some (.ref o)) (some (.ref d)) (some (.ref kl)) (some (.ref z.p)) (some (.ref y.p)) z14 z15,
      ⟨_, rfl, _, rfl, m, z, rfl, gm, am13, gz.1, az13, by omega, fun W' R' H' c' => ?_⟩, ?_⟩
    · have sm := pair_small cc subm gz.2.2 c'
      refine ⟨fun _ => ⟨fun _ H14 s14 => ⟨true, true, rfl, rfl, false, rfl, iteF ?_⟩, fun nr => absurd r1 nr⟩, fun gt => absurd gt (by omega)⟩
      refine ⟨_, rfl, _, rfl, y, m, rfl, gy.1, CarpAt.same ay13 s14, gm, CarpAt.same am13 s14, by omega, fun W2 R2 H2 c2 => ?_⟩
      have sm2 := pair_small cc gy.2.2 subm c2
      exact ⟨fun _ => ⟨fun _ H15 s15 => ⟨true, true, rfl, rfl, false, rfl, iteF ⟨s14.trans s15, rfl⟩⟩, fun nr => absurd r2 nr⟩, fun gt => absurd gt (by omega)⟩
    rintro σ H14 ⟨s14, rfl⟩
    refine ⟨_, rfl, _, rfl, z, m, rfl, gz.1, CarpAt.same az13 s14, gm, CarpAt.same am13 s14, by omega, fun W' R' H' c' => ?_⟩
    have sm := pair_small cc gz.2.2 subm c'
    have go : ∀ {H15 : Hp} {b : Bool}, Same H14 H15 → (Refines z m → b = true) → (¬ Refines z m → b = false) → Same H11 H15 := fun s15 _ _ => (s12.trans s14).trans s15
    refine ⟨fun _ => ⟨fun yes H15 s15 => ?_, fun no H15 s15 => ?_⟩, fun gt => absurd gt (by omega)⟩
    · refine ⟨_, rfl, _, rfl, z, m, rfl, gz.1, CarpAt.same az13 (s14.trans s15), gm, CarpAt.same am13 (s14.trans s15), by omega, fun W2 R2 H2 c2 => ?_⟩
      have sm2 := pair_small cc gz.2.2 subm c2
      refine ⟨fun _ => ⟨fun _ H16 dd s16 => ?_, fun no => absurd yes no⟩, fun gt => absurd gt (by omega)⟩
      exact ⟨rfl, rfl, false, rfl, iteF ⟨((s12.trans s14).trans s15).trans s16, _, rfl⟩⟩
    · refine ⟨_, rfl, _, rfl, z, m, rfl, gz.1, CarpAt.same az13 (s14.trans s15), gm, CarpAt.same am13 (s14.trans s15), by omega, fun W2 R2 H2 c2 => ?_⟩
      have sm2 := pair_small cc gz.2.2 subm c2
      refine ⟨fun _ => ⟨fun yes => absurd yes no, fun _ H16 s16 => ?_⟩, fun gt => absurd gt (by omega)⟩
      exact ⟨rfl, rfl, false, rfl, iteF ⟨((s12.trans s14).trans s15).trans s16, _, rfl⟩⟩
  -- the wide and the tall carpet
  rintro σ H2 ⟨hP2, z1, z2, z3, z4, z5, z6, z7, z9, z10, z11, z12, z13, z14, z15, rfl⟩
  refine ⟨fun σ H' => H' Pt = some (.tbl #[]) ∧ ∃ u v : Cp, u.Good CC CW ∧ u.At CN H' ∧ v.Good CC CW ∧ v.At CN H' ∧ 29 ∣ u.W ∧ 69 ∣ v.Hh ∧ u.W * u.Hh ≤ 29 ∧ v.W * v.Hh ≤ 69 ∧ (∀ c ∈ u.cs, c ∈ letters) ∧ (∀ c ∈ v.cs, c ∈ letters) ∧ σ = S t z1 z2 z3 z4 z5 z6 z7 z9 z10 z11 z12 z13 (some (.ref v.p)) (some (.ref u.p)), ?_, ?_⟩
  · have ea : Str.ofString "a" = tx [97] := by decide +kernel
    have eb : Str.ofString "b" = tx [98] := by decide +kernel
    have e1 : Txt.mul (tx [97]) 28 ++ tx [98] = tx wideT := by decide +kernel
    have rw1 : Rws [wideT] 29 := ⟨by decide, by decide, by decide, by decide, by decide, by decide⟩
    have rw2 : Rws (List.replicate 68 [97] ++ [[98]]) 1 := ⟨by decide, by decide, by decide, by decide, by decide, by decide⟩
    have l1 : 1 ≤ sizeLine := by decide
    rw [ea, eb]
    refine ⟨tx [97], 28, rfl, rfl, ⟨by decide +kernel, by decide +kernel, by decide +kernel⟩, _, _, rfl, rfl, by decide +kernel, l1, fun l hl x dx hx hd ne => ⟨x, dx, l, [wideT], 29, 0, rfl, upd_same, made_same hx hd _ _ (by rw [e1]; exact upd_same), rw1, by decide, fun H3 n W R Hh kp hp hn L => ⟨rfl, ?_⟩⟩⟩
    have hp1 : H3 x = some (.ins CC dx (cfs n (cellText 29 0 1 wideT W Hh))) := hp
    have L1 : Least 29 0 1 wideT W R Hh := L
    obtain ⟨g1, z1a, t1, c1⟩ := carp_of (CC := CC) (CW := CW) (C := CC) (x := x) (.inl rfl) wide_ok (by decide) (by decide) L1 (by decide)
    have k3 : H3 Pt = some (.tbl #[]) := kp _ _ (ne_of_none (same_new hl _ _ hP2) hx) (made_same hx hd _ _ (same_new hl _ _ hP2))
    refine ⟨l1, fun l2 hl2 => ⟨l2, 68, _, rfl, rfl, upd_same, by decide, by decide, by decide, fun l3 hl3 => ⟨l1, fun l4 hl4 => ⟨l3, l4, _, _, rfl, rfl, same_new hl4 _ _ upd_same, upd_same, by decide, fun l5 hl5 x2 dx2 hx2 hd2 ne2 => ⟨x2, dx2, l5, List.replicate 68 [97] ++ [[98]], 1, 0, rfl, upd_same, made_same hx2 hd2 _ _ upd_same, rw2, by decide, fun H4 n2 W2 R2 Hh2 kp2 hp2 hn2 Ls2 => ⟨rfl, two_line, fun T2 hT2 => ⟨T2, _, rfl, SqT.of upd_same, rfl, _, _, rfl, _, _, rfl, rfl, ?_⟩⟩⟩⟩⟩⟩⟩
    have hp2' : H4 x2 = some (.ins CC dx2 (cfs n2 (cellText 1 0 69 tallT W2 Hh2))) := hp2
    have L2' : Least 1 0 69 tallT W2 R2 Hh2 := Ls2
    obtain ⟨g2, z2a, t2, c2⟩ := carp_of (CC := CC) (CW := CW) (C := CC) (x := x2) (.inl rfl) tall_ok (by decide) (by decide) L2' (by decide)
    have s34 : Same H3 H4 := fun b o e => kp2 _ _ (ne_of_none (same_new hl5 _ _ (same_new hl4 _ _ (same_new hl3 _ _ (same_new hl2 _ _ e)))) hx2) (made_same hx2 hd2 _ _ (same_new hl5 _ _ (same_new hl4 _ _ (same_new hl3 _ _ (same_new hl2 _ _ e)))))
    have sT := same_new (o := .tup [V.ref x, V.ref x2]) hT2
    have a1 : CarpAt CN CC H3 x W R Hh (cellText 29 0 1 wideT W Hh) := ⟨dx, n, hp1, hn⟩
    have a2 : CarpAt CN CC H4 x2 W2 R2 Hh2 (cellText 1 0 69 tallT W2 Hh2) := ⟨dx2, n2, hp2', hn2⟩
    exact ⟨sT _ _ (s34 _ _ k3), ⟨CC, x, W, R, Hh, _⟩, ⟨CC, x2, W2, R2, Hh2, _⟩, g1, CarpAt.same a1 (s34.trans sT), g2, CarpAt.same a2 sT, wide_dvd L1, tall_dvd L2', z1a, z2a, t1, t2, rfl⟩
  -- the errors
  rintro σ H3 ⟨hP3, u, v, gu, au, gv, av, du, dv, su, sv, tu, tv, rfl⟩
  have l1 : 1 ≤ sizeLine := by decide
  have tb0 : LamX.Tabs (TPt Pt) H3 := fun q hq => by
    rw [List.mem_singleton.mp hq]
    exact LamX.TabS.nil hP3
  have nil1 : SmallC [] := ⟨fun i hi => absurd hi (Nat.not_lt_zero _), by decide⟩
  refine ⟨fun σ H' => ∃ p r0, LawS CN CC CW Pt u v p [(r0, "number", 0)] H' ∧ σ = S t z1 z2 z3 z4 z5 z6 (some (.ref p)) z9 z10 z11 z12 z13 (some (.ref v.p)) (some (.ref u.p)),
    ⟨tb0, fun H4 e4 t4 => ⟨by decide, fun a0 ha0 => ⟨a0, [], rfl, upd_same, fun m hm => (by cases hm), nil1, fun m hm => (by cases hm), fun m hm => (by cases hm), fun _ d hd => .inl ⟨rfl, d, .int 0, rfl, upd_same, fun r hr => ⟨l1, fun p hp => ⟨p, r, ?_, rfl⟩⟩⟩, fun ne => absurd rfl ne⟩⟩⟩, ?_⟩
  · exact LawS.start tb0 au av e4 t4 ((same_new ha0).trans (same_new hd)) hr hp
  rintro σ H4 ⟨p, r0, L0, rfl⟩
  refine ⟨fun σ H' => ∃ r1, LawS CN CC CW Pt u v p [(r0, "number", 0), (r1, "number", 0)] H' ∧ σ = S t z1 z2 z3 z4 z5 z6 (some (.ref p)) z9 z10 z11 z12 z13 (some (.ref v.p)) (some (.ref u.p)),
    ⟨_, rfl, .inl ⟨rfl, _, SqL.of L0.hp⟩, L0.tb, fun H5 e5 t5 => ⟨by decide, fun a0 ha0 => ⟨a0, [], rfl, upd_same, fun m hm => (by cases hm), nil1, fun m hm => (by cases hm), fun _ d hd => .inl ⟨rfl, d, .int 0, rfl, upd_same, fun r hr => ?_⟩, fun ne => absurd rfl ne⟩⟩⟩, ?_⟩
  · obtain ⟨hp, L1⟩ := L0.next e5 t5 ((same_new ha0).trans (same_new hd)) hr "number" 0
    exact ⟨p, _, _, rfl, rfl, hp, (by show 1 < sizeLine; decide), r, L1, rfl⟩
  rintro σ H5 ⟨r1, L1, rfl⟩
  have low3 : LowC [u, u, v] := fun m hm x y => by
    rcases in3 hm with rfl | rfl
    · exact low_of gu tu x y
    · exact low_of gv tv x y
  have let3 : LetC [u, u, v] := fun m hm => by
    rcases in3 hm with rfl | rfl
    · exact tu
    · exact tv
  have ne3 : [u, u, v] ≠ [] := nofun
  have sm3 : SmallC [u, u, v] := small3 su
  have big3 : ∀ {W R Hh : Nat}, CmnC [u, u, v] W R Hh → W * Hh > 2000 := fun c' => two_big c' (a := u) (b := v) List.mem_cons_self (by simp) gu.ok gv.ok du dv
  have big2 : ∀ {W R Hh : Nat}, CmnC [u, v] W R Hh → W * Hh > 2000 := fun c' => two_big c' (a := u) (b := v) List.mem_cons_self (by simp) gu.ok gv.ok du dv
  have cps3 : ∀ {H H1 : Hp} {rs : Ans} {o : HO} {a0 : Addr}, LawS CN CC CW Pt u v p rs H → LamX.ExtN H H1 → H1 a0 = none → CpsAt CN CC CW (upd H1 a0 o) [u, u, v] := fun L e h0 m hm => by
    rcases in3 hm with rfl | rfl
    · exact ⟨gu, CarpAt.same (CarpAt.extN L.u_ e) (same_new h0)⟩
    · exact ⟨gv, CarpAt.same (CarpAt.extN L.v_ e) (same_new h0)⟩
  refine ⟨fun σ H' => ∃ r2, LawS CN CC CW Pt u v p [(r0, "number", 0), (r1, "number", 0), (r2, "limit", 2000)] H' ∧ σ = S t z1 z2 z3 z4 z5 z6 (some (.ref p)) z9 z10 z11 z12 z13 (some (.ref v.p)) (some (.ref u.p)),
    ⟨_, rfl, .inl ⟨rfl, _, SqL.of L1.hp⟩, L1.tb, fun H6 e6 t6 => ⟨_, rfl, _, rfl, _, rfl, (by show 3 ≤ 1000; decide), fun a0 ha0 => ⟨a0, [u, u, v], rfl, upd_same, cps3 L1 e6 ha0, sm3, low3, let3, fun e => absurd e ne3, fun _ W R Hh c' => ⟨fun _ H7 d s7 hd => .inr ⟨rfl, d, .int 2000, rfl, upd_same, fun r hr => ?_⟩, fun le => absurd (big3 c') (by omega)⟩⟩⟩⟩, ?_⟩
  · obtain ⟨hp, L2⟩ := L1.next e6 t6 (((same_new ha0).trans s7).trans (same_new hd)) hr "limit" 2000
    exact ⟨p, _, _, rfl, rfl, hp, (by show 2 < sizeLine; decide), r, L2, rfl⟩
  rintro σ H6 ⟨r2, L2, rfl⟩
  refine ⟨fun σ H' => ∃ r3, LawS CN CC CW Pt u v p [(r0, "number", 0), (r1, "number", 0), (r2, "limit", 2000), (r3, "limit", 2000)] H' ∧ σ = S t z1 z2 z3 z4 z5 z6 (some (.ref p)) z9 z10 z11 z12 z13 (some (.ref v.p)) (some (.ref u.p)),
    ⟨_, rfl, .inl ⟨rfl, _, SqL.of L2.hp⟩, L2.tb, fun H7 e7 t7 => ⟨_, rfl, _, rfl, _, rfl, (by show 3 ≤ 1000; decide), fun a0 ha0 => ⟨a0, [u, u, v], rfl, upd_same, cps3 L2 e7 ha0, sm3, low3, fun e => absurd e ne3, fun _ W R Hh c' => ⟨fun _ H8 d s8 hd => .inr ⟨rfl, d, .int 2000, rfl, upd_same, fun r hr => ?_⟩, fun le => absurd (big3 c') (by omega)⟩⟩⟩⟩, ?_⟩
  · obtain ⟨hp, L3⟩ := L2.next e7 t7 (((same_new ha0).trans s8).trans (same_new hd)) hr "limit" 2000
    exact ⟨p, _, _, rfl, rfl, hp, (by show 3 < sizeLine; decide), r, L3, rfl⟩
  rintro σ H7 ⟨r3, L3, rfl⟩
  refine ⟨fun σ H' => ∃ r4, LawS CN CC CW Pt u v p [(r0, "number", 0), (r1, "number", 0), (r2, "limit", 2000), (r3, "limit", 2000), (r4, "limit", 2000)] H' ∧ σ = S t z1 z2 z3 z4 z5 z6 (some (.ref p)) z9 z10 z11 z12 z13 (some (.ref v.p)) (some (.ref u.p)),
    ⟨_, rfl, .inl ⟨rfl, _, SqL.of L3.hp⟩, L3.tb, fun H8 e8 t8 => ⟨_, rfl, _, rfl, u, v, rfl, gu, CarpAt.extN L3.u_ e8, gv, CarpAt.extN L3.v_ e8, by omega, fun W R Hh c' => ⟨fun le => absurd (big2 c') (by omega), fun _ H9 d s9 hd => .inr ⟨rfl, d, .int 2000, rfl, upd_same, fun r hr => ?_⟩⟩⟩⟩, ?_⟩
  · obtain ⟨hp, L4⟩ := L3.next e8 t8 (s9.trans (same_new hd)) hr "limit" 2000
    exact ⟨p, _, _, rfl, rfl, hp, (by show 4 < sizeLine; decide), r, L4, rfl⟩
  rintro σ H8 ⟨r4, L4, rfl⟩
  let n0 : PyData := .list [.str "number", .int 0]
  let n1 : PyData := .list [.str "limit", .int 2000]
  have sh : SeqAt.shaped (.list [n0, n0, n1, n1, n1]) = true := by decide +kernel
  have eqq : PyData.eqv (.list [n0, n0, n1, n1, n1]) (.list [n0, n0, n1, n1, n1]) = true := by decide +kernel
  refine ⟨_, rfl, two_line, fun i1 h1 => ⟨l1, fun o1 h2 => ⟨o1, 2, _, rfl, rfl, upd_same, by decide, by decide, (by show 1 * 2 ≤ sizeLine; decide), fun o2 h3 => ⟨two_line, fun i2 h4 => ⟨l1, fun o3 h5 => ⟨o3, 3, _, rfl, rfl, upd_same, by decide, by decide, (by show 1 * 3 ≤ sizeLine; decide), fun o4 h6 => ⟨o2, o4, [V.ref i1, V.ref i1], [V.ref i2, V.ref i2, V.ref i2], rfl, rfl, ?_, upd_same, (by show 2 + 3 ≤ sizeLine; decide), fun q hq => ⟨.list [n0, n0, n1, n1, n1], .list [n0, n0, n1, n1, n1], ?_, ?_, sh, sh, ?_⟩⟩⟩⟩⟩⟩⟩⟩
  · exact same_new h6 _ _ (same_new h5 _ _ (same_new h4 _ _ upd_same))
  · have s1 := (((((same_new (o := .lst [V.str "number", V.int 0]) h1).trans (same_new h2)).trans (same_new h3)).trans (same_new h4)).trans (same_new h5)).trans (same_new h6) |>.trans (same_new (o := .lst ([V.ref i1, V.ref i1] ++ [V.ref i2, V.ref i2, V.ref i2])) hq)
    have d := dp_ans (K := K) (AnsAt.ext L4.ha (LamX.ExtN.of s1))
    exact .lst (SqL.of (s1 _ _ L4.hp)) d
  · have a1 := (((((same_new h2).trans (same_new h3)).trans (same_new h4)).trans (same_new h5)).trans (same_new h6)).trans (same_new (o := .lst ([V.ref i1, V.ref i1] ++ [V.ref i2, V.ref i2, V.ref i2])) hq) _ _ (upd_same (H := H8) (a := i1) (o := .lst [V.str "number", V.int 0]))
    have a2 := ((same_new h5).trans (same_new h6)).trans (same_new (o := .lst ([V.ref i1, V.ref i1] ++ [V.ref i2, V.ref i2, V.ref i2])) hq) _ _ (upd_same (a := i2) (o := .lst [V.str "limit", V.int 2000]))
    have d0 : DpX K _ (.ref i1) n0 := .lst (SqL.of a1) (.cons (.str _) (.cons (.int _) .nil))
    have d1 : DpX K _ (.ref i2) n1 := .lst (SqL.of a2) (.cons (.str _) (.cons (.int _) .nil))
    exact .lst (SqL.of upd_same) (.cons d0 (.cons d0 (.cons d1 (.cons d1 (.cons d1 .nil)))))
  · rw [eqq]
    exact kk _
end
end CpR
set_option Elab.async false
set_option linter.all false
set_option maxRecDepth 100000
set_option maxHeartbeats 2000000
/-! H01: what is looked at behind the top. -/
namespace CpR
open PySem PySem.Spec PyProof.Rows L2
abbrev Fg := PySem.W.Frag
theorem ba {a b : Bool} (h : (a && b) = true) : a = true ∧ b = true := Bool.and_eq_true_iff.mp h
/-! ### where a def stands -/
inductive At where
  | glo (x : Str)
  | meth (C m : Str)
  | recd (C m : Str) (k : String)
def recA (K : Fg) (p : Addr) (k : String) : Addr := match PySem.W.recIn K p k with
  | some (.ref g :: _) => g
  | _ => 0
def gA (K : Fg) (x : Str) : Addr := match PySem.W.nsIn K mainGlobals x with
  | some (some (.ref a)) => a
  | _ => 0
def mA (K : Fg) (C m : Str) : Addr := match PySem.W.findIn K (.ref (gA K C)) m with
  | some (some (.ref a)) => a
  | _ => 0
def At.adr (K : Fg) : At → Addr
  | .glo x => gA K x
  | .meth C m => mA K C m
  | .recd C m k => recA K (mA K C m) k
structure DefY where
  at_ : At
  name : Str
  qual : Str
  st : Stmt
  kwd : List (Str × V) := []
abbrev FnW := He.FnW
def fnY (K : Fg) (a : Addr) : FnW := match K.lookup a with
  | some ⟨_, _, .func fd, _⟩ => some (fd.name, fd.qualname, fd.params, fd.body, fd.scope, fd.globals, fd.closure, fd.builtins)
  | _ => none
def DefY.val (d : DefY) : FnW := some (d.name, d.qual, defArgs d.st, .stmts (defBody d.st), defScope d.st, mainGlobals, [], builtinsNs)
def okY (K : Fg) (a : Addr) (qual : Str) (kwd : List (Str × V)) : Bool := match K.lookup a with
  | some ⟨_, _, .func fd, _⟩ => PySem.W.codeIn K fd.code qual && (He.dflB K fd.defaults [] && He.kwdB K fd.kwdefaults kwd)
  | _ => false
theorem keep_fn {K : Fg} {f : Addr} {oc : Value} {od : Option Addr} {fd : FuncData} {osl : Array (Option Value)} (h : K.lookup f = some ⟨oc, od, .func fd, osl⟩) : PySem.W.keepIn K (.ref f) = true := by
  dsimp only [PySem.W.keepIn]
  rw [h]
theorem DefY.funD {K : Fg} {d : DefY} (e : fnY K (d.at_.adr K) = d.val) (c : okY K (d.at_.adr K) d.qual d.kwd = true) : ∃ fd, FunD K d.name d.qual (defArgs d.st) (defBody d.st) (defScope d.st) [] d.kwd (d.at_.adr K) fd := by
  unfold fnY at e
  unfold okY at c
  cases q : K.lookup (d.at_.adr K) with
  | none =>
    rw [q] at c
    cases c
  | some o =>
    obtain ⟨oc, od, dt, osl⟩ := o
    rw [q] at c e
    cases dt with
    | func fd =>
      obtain ⟨n1, n2, n3, n4, n5, n6, n7, n8, n9, n10, n11, n12, n13, n14, n15⟩ := fd
      have e2 : (some (n1, n2, n3, n4, n5, n6, n7, n15) : FnW) = some (d.name, d.qual, defArgs d.st, .stmts (defBody d.st), defScope d.st, mainGlobals, [], builtinsNs) := e
      simp only [Option.some.injEq, Prod.mk.injEq] at e2
      obtain ⟨h1, h2, h3, h4, h5, h6, h7, h8⟩ := e2
      subst h1 h2 h3 h4 h5 h6 h7 h8
      have c3 : (PySem.W.codeIn K n13 d.qual && (He.dflB K n8 [] && He.kwdB K n9 d.kwd)) = true := c
      obtain ⟨k1, k2⟩ := ba c3
      obtain ⟨k3, k4⟩ := ba k2
      exact ⟨_, ⟨oc, od, n8, n9, n10, n11, n12, n13, n14, osl, rfl, q, k1, He.dflB_ok k3, He.kwdB_ok k4⟩, keep_fn q⟩
    | _ => cases c
theorem fun_of {K : Fg} {x qual : Str} {st : Stmt} {f : Addr} {fd : FuncData} (F : FunD K x qual (defArgs st) (defBody st) (defScope st) [] [] f fd) : Fun K x qual st f fd := by
  obtain ⟨oc, od, dV, kV, doc, pm, an, cdv, ct, osl, e, lk, cd, hd, _⟩ := F.ex
  rcases hd with ⟨_, rfl⟩ | ⟨no, _⟩
  · exact ⟨⟨oc, od, kV, doc, pm, an, cdv, ct, osl, e, lk, cd⟩, F.kp⟩
  · exact absurd rfl no
/-! ### facts -/
def eqO (a b : Option (Option Value)) : Bool := decide (a = b)
theorem eqO_ok {a b : Option (Option Value)} (h : eqO a b = true) : a = b := of_decide_eq_true h
def excY (K : Fg) (C : Addr) (tl : List Value) (newId : String) : Bool := match K.lookup C with
  | some ⟨.type "type", _, .cls cd, sl⟩ => (match cd.mro, sl.toList with
    | .ref C' :: bm, [_, _, _, _, some (.builtin n), _] => C' == C && n == newId && !cd.hasDel && cd.hasDict && PySem.ErX.refsT tl bm
    | _, _ => false)
  | _ => false
theorem excY_ok {K : Fg} {C : Addr} {tl : List Value} {newId : String} (q : excY K C tl newId = true) : ∃ nm qn N bs bm sn sub ab col dd k0 k1 k2 k3 k5,
    K.lookup C = some (excClassObj nm qn C N bs bm true sn sub ab col dd k0 k1 k2 k3 k5 newId) ∧ PySem.ErX.refsT tl bm = true := by
  unfold excY at q
  split at q
  · rename_i dd cd sl ho
    split at q
    · rename_i C' bm k0 k1 k2 k3 n k5 hm hs
      simp only [Bool.and_eq_true, beq_iff_eq, Bool.not_eq_true'] at q
      obtain ⟨⟨⟨⟨rfl, rfl⟩, hdel⟩, hdct⟩, ht⟩ := q
      obtain ⟨nm, bs, mro, ns, qn, hd, sn, sub, ab, col, del⟩ := cd
      dsimp only at hm hdel hdct
      subst hm hdel hdct
      have hsl : sl = #[k0, k1, k2, k3, some (.builtin n), k5] := by
        obtain ⟨l⟩ := sl
        simp only at hs
        rw [hs]
      subst hsl
      exact ⟨nm, qn, ns, bs, bm, sn, sub, ab, col, dd, k0, k1, k2, k3, k5, ho, ht⟩
    · cases q
  · cases q
/-- the class's __init__ keeps its argument: the object has no defaults -/
def iniY (K : Fg) (f : Addr) : Bool := match K.lookup f with
  | some ⟨_, _, .func fd, _⟩ => (match fd.defaults with | .none => true | _ => false) && (match fd.kwdefaults with | .none => true | _ => false)
  | _ => false
inductive Fy where
  | free (x : Str)
  | glo (x : Str)
  | int (x : Str) (i : Int)
  | str (x z : Str)
  | cls (C : Str)
  | noat (C f : Str)
  | meth (C m : Str)
  | mkr (C : Str)
  | prop (C m : Str)
  | ins (C : Str)
  | first (C : Str)
  | cm (C m : Str)
  | sm (C m : Str)
  | gi (C m : Str)
  | exc (C f : Str) (tl : List Value) (n : String)
  | exm (x y : Str) (b : Bool)
def Fy.ok (K : Fg) : Fy → Bool
  | .free x => eqO (PySem.W.nsIn K mainGlobals x) (some none)
  | .glo x => eqO (PySem.W.nsIn K mainGlobals x) (some (some (.ref (gA K x))))
  | .int x i => (match PySem.W.nsIn K mainGlobals x with
    | some (some (.int j _)) => decide (j = i)
    | _ => false)
  | .str x z => (match PySem.W.nsIn K mainGlobals x with
    | some (some (.str y _)) => decide (y = z)
    | _ => false)
  | .cls C => PySem.W.plainGet K (gA K C) Str.empty && (PySem.W.hasDictIn K (gA K C) && (PySem.W.plainOver K (gA K C) && eqO (PySem.W.findIn K (.ref (gA K C)) "__setattr__") (some (some (.builtin "object.__setattr__")))))
  | .noat C f => eqO (PySem.W.findIn K (.ref (gA K C)) f) (some none)
  | .meth C m => eqO (PySem.W.findIn K (.ref (gA K C)) m) (some (some (.ref (mA K C m)))) && PySem.W.isFn K (.ref (mA K C m))
  | .mkr C => PySem.W.makesIn K (gA K C) && (eqO (PySem.W.findIn K (.ref (gA K C)) "__init__") (some (some (.ref (mA K C "__init__")))) && (PySem.W.isFn K (.ref (mA K C "__init__")) && PySem.W.keepIn K (.ref (gA K C))))
  | .prop C m => eqO (PySem.W.findIn K (.ref (gA K C)) m) (some (some (.ref (mA K C m)))) && (eqO (PySem.W.specialIn K (.ref (mA K C m)) "__get__") (some (some (.builtin "property.__get__"))) && (decide (PySem.W.takesIn K (.ref (mA K C m)) = some true) && (match PySem.W.recIn K (mA K C m) "property" with
    | some (.ref _ :: _) => true
    | _ => false)))
  | .ins C => eqO (PySem.W.findIn K (.ref (gA K C)) "__class__") (some (some (.builtin "object.__class__"))) && (eqO (PySem.W.specialIn K (.builtin "object.__class__") "__get__") (some (some (.builtin "getset_descriptor.__get__"))) && (decide (PySem.W.takesIn K (.builtin "object.__class__") = some true) && (decide (PySem.W.mroIn K (gA K C) (.type "object") = some true) && decide (PySem.W.kitOne K (.ref (gA K C)) (.ref (gA K C)) = some true))))
  | .first C => PySem.W.selfFirst K (gA K C)
  | .cm C m => PySem.W.readsIn K (gA K C) (.type "type") && (eqO (PySem.W.specialIn K (.ref (gA K C)) "__getattribute__") (some (some (.builtin "type.__getattribute__"))) && ((match PySem.W.findCls K (.ref (gA K C)) (.type "type") m with
    | some (.get (.builtin b) (.ref p) .none (.ref D)) => decide (b = "classmethod.__get__") && (decide (p = mA K C m) && decide (D = gA K C))
    | _ => false) && ((match PySem.W.recIn K (mA K C m) "classmethod" with
    | some (.ref _ :: _) => true
    | _ => false) && PySem.W.fnIn K (recA K (mA K C m) "classmethod"))))
  | .sm C m => PySem.W.readsIn K (gA K C) (.type "type") && (eqO (PySem.W.specialIn K (.ref (gA K C)) "__getattribute__") (some (some (.builtin "type.__getattribute__"))) && ((match PySem.W.findCls K (.ref (gA K C)) (.type "type") m with
    | some (.get (.builtin b) (.ref p) _ (.ref _)) => decide (b = "staticmethod.__get__") && decide (p = mA K C m)
    | _ => false) && ((match PySem.W.recIn K (mA K C m) "staticmethod" with
    | some (.ref _ :: _) => true
    | _ => false) && (PySem.W.keepIn K (.ref (recA K (mA K C m) "staticmethod")) && PySem.W.handedIn (.ref (recA K (mA K C m) "staticmethod"))))))
  | .gi C m => eqO (PySem.W.findIn K (.ref (gA K C)) m) (some (some (.ref (mA K C m)))) && PySem.W.fnIn K (mA K C m)
  | .exc C f tl n => excY K (gA K C) tl n && (eqO (PySem.W.findIn K (.ref (gA K C)) "__setattr__") (some (some (.builtin "object.__setattr__"))) && (eqO (PySem.W.findIn K (.ref (gA K C)) "__getattribute__") (some (some (.builtin "BaseException.__getattribute__"))) && (eqO (PySem.W.findIn K (.ref (gA K C)) "__getattr__") (some none) && (eqO (PySem.W.findIn K (.ref (gA K C)) f) (some none) &&
      (eqO (PySem.W.findIn K (.ref (gA K C)) "__init__") (some (some (.ref (mA K C "__init__")))) && (decide (PySem.W.typeIn K (.ref (mA K C "__init__")) = some (.type "function")) && (PySem.W.keepIn K (.ref (gA K C)) && (decide (PySem.W.subIn K (.ref (gA K C)) (.type "BaseException") = some true) && (decide (PySem.W.typeIn K (.ref (gA K C)) = some (.type "type")) &&
      (PySem.W.hasDictIn K (gA K C) && (decide (PySem.W.exmOne K (.ref (gA K C)) (.ref (gA K C)) = some true) && iniY K (mA K C "__init__"))))))))))))
  | .exm x y b => decide (PySem.W.exmOne K (.ref (gA K x)) (.ref (gA K y)) = some b)
section
variable {K : Fg} {h : Heap} {mg : Str → Option Value} {C m x : Str}
theorem free_ok (X : K.In h) (G : h.Ns mainGlobals mg) (c : (Fy.free x).ok K = true) : mg x = none := PySem.W.mg_none_of X G (eqO_ok c)
theorem glo_ok (X : K.In h) (G : h.Ns mainGlobals mg) (c : (Fy.glo x).ok K = true) : mg x = some (.ref (gA K x)) := PySem.W.mg_of X G (eqO_ok c)
theorem int_ok (X : K.In h) (G : h.Ns mainGlobals mg) {i : Int} (c : (Fy.int x i).ok K = true) : ∃ t, mg x = some (.int i t) := He.int_ok X G c
theorem str_ok (X : K.In h) (G : h.Ns mainGlobals mg) {z : Str} (c : (Fy.str x z).ok K = true) : ∃ t, mg x = some (.str z t) := He.str_ok X G c
theorem cls_ok (c : (Fy.cls C).ok K = true) : Cls K (gA K C) := by
  obtain ⟨c1, c⟩ := ba c
  obtain ⟨c2, c⟩ := ba c
  obtain ⟨c3, c4⟩ := ba c
  exact ⟨c1, c2, c3, eqO_ok c4⟩
theorem noat_ok {f : Str} (c : (Fy.noat C f).ok K = true) : NoAttr K (gA K C) f := eqO_ok c
theorem meth_ok (c : (Fy.meth C m).ok K = true) (k : PySem.W.keepIn K (.ref (mA K C m)) = true) : Meth K (gA K C) m (mA K C m) := by
  obtain ⟨c1, c2⟩ := ba c
  exact ⟨eqO_ok c1, c2, k⟩
theorem mkr_ok (c : (Fy.mkr C).ok K = true) : Mk K (gA K C) (mA K C "__init__") := by
  obtain ⟨c1, c⟩ := ba c
  obtain ⟨c2, c⟩ := ba c
  obtain ⟨c3, c4⟩ := ba c
  exact ⟨c1, eqO_ok c2, c3, c4⟩
theorem rec_ok {p : Addr} {k : String} (c : (match PySem.W.recIn K p k with
    | some (.ref _ :: _) => true
    | _ => false) = true) : ∃ rest, PySem.W.recIn K p k = some (.ref (recA K p k) :: rest) := by
  unfold recA
  split at c
  · rename_i g rest e
    exact ⟨rest, by rw [e]⟩
  · cases c
theorem prop_ok (c : (Fy.prop C m).ok K = true) : PropOf K (gA K C) m (mA K C m) (recA K (mA K C m) "property") := by
  obtain ⟨c1, c⟩ := ba c
  obtain ⟨c2, c⟩ := ba c
  obtain ⟨c3, c4⟩ := ba c
  exact ⟨eqO_ok c1, eqO_ok c2, of_decide_eq_true c3, rec_ok c4⟩
theorem ins_ok (k : Cls K (gA K C)) (c : (Fy.ins C).ok K = true) : C8.InsC K (gA K C) := by
  obtain ⟨c1, c⟩ := ba c
  obtain ⟨c2, c⟩ := ba c
  obtain ⟨c3, c⟩ := ba c
  obtain ⟨c4, c5⟩ := ba c
  exact ⟨k, eqO_ok c1, eqO_ok c2, of_decide_eq_true c3, of_decide_eq_true c4, of_decide_eq_true c5⟩
theorem cm_ok (c : (Fy.cm C m).ok K = true) : ClX.CRead K (gA K C) (.type "type") ∧ ClX.CMet K (gA K C) (.type "type") m (mA K C m) (recA K (mA K C m) "classmethod") := by
  obtain ⟨c1, c⟩ := ba c
  obtain ⟨c2, c⟩ := ba c
  obtain ⟨c3, c⟩ := ba c
  obtain ⟨c4, c5⟩ := ba c
  refine ⟨⟨c1, eqO_ok c2⟩, ?_, rec_ok c4, c5⟩
  split at c3
  · rename_i b p D e
    obtain ⟨d1, d2⟩ := ba c3
    obtain ⟨d3, d4⟩ := ba d2
    rw [e, of_decide_eq_true d1, of_decide_eq_true d3, of_decide_eq_true d4]
  · cases c3
theorem sm_ok (c : (Fy.sm C m).ok K = true) : ClX.CRead K (gA K C) (.type "type") ∧ ∃ ob tp, SMet K (gA K C) (.type "type") m (mA K C m) (recA K (mA K C m) "staticmethod") ob tp := by
  obtain ⟨c1, c⟩ := ba c
  obtain ⟨c2, c⟩ := ba c
  obtain ⟨c3, c⟩ := ba c
  obtain ⟨c4, c⟩ := ba c
  obtain ⟨c5, c6⟩ := ba c
  refine ⟨⟨c1, eqO_ok c2⟩, ?_⟩
  split at c3
  · rename_i b p ob D e
    obtain ⟨d1, d2⟩ := ba c3
    exact ⟨ob, .ref D, by rw [e, of_decide_eq_true d1, of_decide_eq_true d2], ⟨D, rfl⟩, rec_ok c4, c5, c6⟩
  · cases c3
theorem gi_ok (c : (Fy.gi C m).ok K = true) : ∃ f, PySem.W.findIn K (.ref (gA K C)) m = some (some (.ref f)) ∧ PySem.W.fnIn K f = true := by
  obtain ⟨c1, c2⟩ := ba c
  exact ⟨_, eqO_ok c1, c2⟩
theorem exm_ok {y : Str} {b : Bool} (c : (Fy.exm x y b).ok K = true) : PySem.W.exmOne K (.ref (gA K x)) (.ref (gA K y)) = some b := of_decide_eq_true c
end
end CpR
set_option Elab.async false
set_option linter.all false
set_option maxRecDepth 100000
set_option maxHeartbeats 2000000
/-! H02: the facts behind the top. -/
namespace CpR
open PySem PySem.Spec PyProof.Rows L2
def fnsY0 : List Str := ["is_integer",
  "is_place",
  "check_place",
  "greatest_divisor",
  "bezout",
  "divisors",
  "plus",
  "are_numbers",
  "common_numbers",
  "is_row",
  "check_rows",
  "checked_block"]
def fnsY1 : List Str := ["colour_at",
  "is_kept",
  "kept_net",
  "least_cell",
  "common_net",
  "net_of_all",
  "refinement",
  "is_finer",
  "colours_at",
  "paired",
  "merged",
  "_law_tape"]
def fnsY2 : List Str := ["_law_draw",
  "_law_low",
  "_law_spots",
  "_law_seen",
  "_law_net",
  "_law_turned",
  "_law_kinds",
  "_law_carried",
  "_law_divisor",
  "_law_keeps",
  "_law_move",
  "_law_tied"]
def fnsY3 : List Str := ["_law_letters",
  "_law_square",
  "_law_copied",
  "_law_woven",
  "_law_made",
  "_law_told",
  "_law_common",
  "_law_groups",
  "_law_due",
  "_law_merged",
  "_law_some",
  "law"]
def fnsY : List Str := fnsY0 ++ (fnsY1 ++ (fnsY2 ++ (fnsY3)))
def clsY0 : List Str := ["Net",
  "Carpet",
  "Woven",
  "Links",
  "InvalidNumber",
  "LimitExceeded",
  "CarpetError"]
def clsY : List Str := clsY0
def factsY0 : List Fy := [.free "isinstance",
  .free "len",
  .free "all",
  .free "abs",
  .free "range",
  .free "sorted",
  .free "set",
  .free "dict",
  .free "enumerate",
  .free "min",
  .free "max",
  .free "tuple"]
def factsY1 : List Fy := [.free "list",
  .free "int",
  .free "str",
  .free "bool",
  .free "NotImplemented",
  .glo "is_integer",
  .glo "is_place",
  .glo "check_place",
  .glo "greatest_divisor",
  .glo "bezout",
  .glo "divisors",
  .glo "plus"]
def factsY2 : List Fy := [.glo "are_numbers",
  .glo "common_numbers",
  .glo "Net",
  .mkr "Net",
  .prop "Net" "numbers",
  .prop "Net" "size",
  .meth "Net" "place_in_cell",
  .meth "Net" "__and__",
  .meth "Net" "spots",
  .glo "is_row",
  .glo "check_rows",
  .glo "checked_block"]
def factsY3 : List Fy := [.glo "colour_at",
  .glo "is_kept",
  .glo "kept_net",
  .glo "least_cell",
  .mkr "Carpet",
  .prop "Carpet" "net",
  .prop "Woven" "net",
  .prop "Carpet" "colours",
  .prop "Woven" "colours",
  .meth "Carpet" "seen",
  .meth "Woven" "seen",
  .meth "Carpet" "__getitem__"]
def factsY4 : List Fy := [.meth "Woven" "__getitem__",
  .glo "Woven",
  .mkr "Woven",
  .glo "common_net",
  .glo "net_of_all",
  .glo "refinement",
  .glo "is_finer",
  .glo "colours_at",
  .glo "paired",
  .glo "Links",
  .mkr "Links",
  .meth "Links" "representative"]
def factsY5 : List Fy := [.meth "Links" "link",
  .glo "merged",
  .glo "_law_tape",
  .glo "_law_draw",
  .glo "_law_low",
  .glo "_law_spots",
  .glo "_law_seen",
  .glo "_law_net",
  .glo "_law_turned",
  .glo "_law_kinds",
  .glo "_law_carried",
  .glo "_law_divisor"]
def factsY6 : List Fy := [.glo "_law_keeps",
  .glo "_law_move",
  .glo "_law_tied",
  .glo "_law_letters",
  .glo "_law_square",
  .glo "_law_copied",
  .glo "_law_woven",
  .glo "_law_made",
  .glo "_law_told",
  .glo "_law_common",
  .glo "_law_groups",
  .glo "_law_due"]
def factsY7 : List Fy := [.glo "_law_merged",
  .glo "_law_some",
  .glo "law",
  .cls "Net",
  .cls "Carpet",
  .cls "Woven",
  .cls "Links",
  .noat "Net" "own_numbers",
  .noat "Carpet" "own_net",
  .noat "Carpet" "own_text",
  .noat "Woven" "own_net",
  .noat "Woven" "own_text"]
def factsY8 : List Fy := [.noat "Links" "nearer",
  .ins "Net",
  .glo "Carpet",
  .first "Net",
  .cm "Net" "whole",
  .sm "Carpet" "on",
  .gi "Carpet" "__getitem__",
  .gi "Woven" "__getitem__",
  .str "LETTERS" "abcdefghijklmnopqrstuvwxyz",
  .int "MOST_ROWS" 100,
  .int "MOST_LETTERS" 1000,
  .int "MOST_PLACES" 2000]
def factsY9 : List Fy := [.meth "Net" "cell",
  .glo "InvalidNumber",
  .exc "InvalidNumber" "value" PySem.HandSPX.veTail "ValueError.__new__",
  .glo "LimitExceeded",
  .exc "LimitExceeded" "limit" PySem.ErX.ovTail "OverflowError.__new__",
  .exm "LimitExceeded" "InvalidNumber" false]
def factsY : List Fy := factsY0 ++ (factsY1 ++ (factsY2 ++ (factsY3 ++ (factsY4 ++ (factsY5 ++ (factsY6 ++ (factsY7 ++ (factsY8 ++ (factsY9)))))))))
def defsY0 : List DefY := [⟨.glo "is_integer", "is_integer", "is_integer", s_is_integer, []⟩,
  ⟨.glo "is_place", "is_place", "is_place", s_is_place, []⟩,
  ⟨.glo "check_place", "check_place", "check_place", s_check_place, []⟩,
  ⟨.glo "greatest_divisor", "greatest_divisor", "greatest_divisor", s_greatest_divisor, []⟩,
  ⟨.glo "bezout", "bezout", "bezout", s_bezout, []⟩,
  ⟨.glo "divisors", "divisors", "divisors", s_divisors, []⟩,
  ⟨.glo "plus", "plus", "plus", s_plus, []⟩,
  ⟨.glo "are_numbers", "are_numbers", "are_numbers", s_are_numbers, []⟩,
  ⟨.glo "common_numbers", "common_numbers", "common_numbers", s_common_numbers, []⟩,
  ⟨.meth "Net" "__init__", "__init__", "Net.__init__", s_Net_init, []⟩,
  ⟨.recd "Net" "numbers" "property", "numbers", "Net.numbers", s_Net_numbers, []⟩,
  ⟨.recd "Net" "size" "property", "size", "Net.size", s_Net_size, []⟩]
def defsY1 : List DefY := [⟨.meth "Net" "place_in_cell", "place_in_cell", "Net.place_in_cell", s_Net_place_in_cell, []⟩,
  ⟨.meth "Net" "__and__", "__and__", "Net.__and__", s_Net_and, []⟩,
  ⟨.meth "Net" "spots", "spots", "Net.spots", s_Net_spots, []⟩,
  ⟨.glo "is_row", "is_row", "is_row", s_is_row, []⟩,
  ⟨.glo "check_rows", "check_rows", "check_rows", s_check_rows, []⟩,
  ⟨.glo "checked_block", "checked_block", "checked_block", s_checked_block, []⟩,
  ⟨.glo "colour_at", "colour_at", "colour_at", s_colour_at, []⟩,
  ⟨.glo "is_kept", "is_kept", "is_kept", s_is_kept, []⟩,
  ⟨.glo "kept_net", "kept_net", "kept_net", s_kept_net, []⟩,
  ⟨.glo "least_cell", "least_cell", "least_cell", s_least_cell, []⟩,
  ⟨.meth "Carpet" "__init__", "__init__", "Carpet.__init__", s_Carpet_init, [("shift", .int 0)]⟩,
  ⟨.recd "Carpet" "net" "property", "net", "Carpet.net", s_Carpet_net, []⟩]
def defsY2 : List DefY := [⟨.recd "Woven" "net" "property", "net", "Carpet.net", s_Carpet_net, []⟩,
  ⟨.recd "Carpet" "colours" "property", "colours", "Carpet.colours", s_Carpet_colours, []⟩,
  ⟨.recd "Woven" "colours" "property", "colours", "Carpet.colours", s_Carpet_colours, []⟩,
  ⟨.meth "Carpet" "seen", "seen", "Carpet.seen", s_Carpet_seen, []⟩,
  ⟨.meth "Woven" "seen", "seen", "Carpet.seen", s_Carpet_seen, []⟩,
  ⟨.meth "Carpet" "__getitem__", "__getitem__", "Carpet.__getitem__", s_Carpet_getitem, []⟩,
  ⟨.meth "Woven" "__getitem__", "__getitem__", "Carpet.__getitem__", s_Carpet_getitem, []⟩,
  ⟨.meth "Woven" "__init__", "__init__", "Woven.__init__", s_Woven_init, []⟩,
  ⟨.glo "common_net", "common_net", "common_net", s_common_net, []⟩,
  ⟨.glo "net_of_all", "net_of_all", "net_of_all", s_net_of_all, []⟩,
  ⟨.glo "refinement", "refinement", "refinement", s_refinement, []⟩,
  ⟨.glo "is_finer", "is_finer", "is_finer", s_is_finer, []⟩]
def defsY3 : List DefY := [⟨.glo "colours_at", "colours_at", "colours_at", s_colours_at, []⟩,
  ⟨.glo "paired", "paired", "paired", s_paired, []⟩,
  ⟨.meth "Links" "__init__", "__init__", "Links.__init__", s_Links_init, []⟩,
  ⟨.meth "Links" "representative", "representative", "Links.representative", s_Links_representative, []⟩,
  ⟨.meth "Links" "link", "link", "Links.link", s_Links_link, []⟩,
  ⟨.glo "merged", "merged", "merged", s_merged, []⟩,
  ⟨.glo "_law_tape", "_law_tape", "_law_tape", s_law_tape, []⟩,
  ⟨.glo "_law_draw", "_law_draw", "_law_draw", s_law_draw, []⟩,
  ⟨.glo "_law_low", "_law_low", "_law_low", s_law_low, []⟩,
  ⟨.glo "_law_spots", "_law_spots", "_law_spots", s_law_spots, []⟩,
  ⟨.glo "_law_seen", "_law_seen", "_law_seen", s_law_seen, []⟩,
  ⟨.glo "_law_net", "_law_net", "_law_net", s_law_net, []⟩]
def defsY4 : List DefY := [⟨.glo "_law_turned", "_law_turned", "_law_turned", s_law_turned, []⟩,
  ⟨.glo "_law_kinds", "_law_kinds", "_law_kinds", s_law_kinds, []⟩,
  ⟨.glo "_law_carried", "_law_carried", "_law_carried", s_law_carried, []⟩,
  ⟨.glo "_law_divisor", "_law_divisor", "_law_divisor", s_law_divisor, []⟩,
  ⟨.glo "_law_keeps", "_law_keeps", "_law_keeps", s_law_keeps, []⟩,
  ⟨.glo "_law_move", "_law_move", "_law_move", s_law_move, []⟩,
  ⟨.glo "_law_tied", "_law_tied", "_law_tied", s_law_tied, []⟩,
  ⟨.glo "_law_letters", "_law_letters", "_law_letters", s_law_letters, []⟩,
  ⟨.glo "_law_square", "_law_square", "_law_square", s_law_square, []⟩,
  ⟨.glo "_law_copied", "_law_copied", "_law_copied", s_law_copied, []⟩,
  ⟨.glo "_law_woven", "_law_woven", "_law_woven", s_law_woven, []⟩,
  ⟨.glo "_law_made", "_law_made", "_law_made", s_law_made, []⟩]
def defsY5 : List DefY := [⟨.glo "_law_told", "_law_told", "_law_told", s_law_told, []⟩,
  ⟨.glo "_law_common", "_law_common", "_law_common", s_law_common, []⟩,
  ⟨.glo "_law_groups", "_law_groups", "_law_groups", s_law_groups, []⟩,
  ⟨.glo "_law_due", "_law_due", "_law_due", s_law_due, []⟩,
  ⟨.glo "_law_merged", "_law_merged", "_law_merged", s_law_merged, []⟩,
  ⟨.glo "_law_some", "_law_some", "_law_some", s_law_some, []⟩,
  ⟨.glo "law", "law", "law", s_law, []⟩,
  ⟨.recd "Net" "whole" "classmethod", "whole", "Net.whole", s_Net_whole, []⟩,
  ⟨.recd "Carpet" "on" "staticmethod", "on", "Carpet.on", s_Carpet_on, []⟩,
  ⟨.meth "Net" "cell", "cell", "Net.cell", s_Net_cell, []⟩,
  ⟨.meth "InvalidNumber" "__init__", "__init__", "InvalidNumber.__init__", s_InvalidNumber_init, []⟩,
  ⟨.meth "LimitExceeded" "__init__", "__init__", "LimitExceeded.__init__", s_LimitExceeded_init, []⟩]
def defsY : List DefY := defsY0 ++ (defsY1 ++ (defsY2 ++ (defsY3 ++ (defsY4 ++ (defsY5)))))
def looseY0 : List PySem.Str := ["_wall",
  "CarpetError",
  "InvalidNet",
  "InvalidPlace",
  "InvalidRows",
  "InvalidNumber",
  "InvalidText",
  "LimitExceeded",
  "is_integer",
  "is_place",
  "check_place",
  "greatest_divisor"]
def looseY1 : List PySem.Str := ["bezout",
  "divisors",
  "plus",
  "minus",
  "MATRICES",
  "turned",
  "form_of",
  "are_numbers",
  "common_numbers",
  "Net",
  "LETTERS",
  "MOST_ROWS"]
def looseY2 : List PySem.Str := ["MOST_LETTERS",
  "MOST_PLACES",
  "is_row",
  "check_rows",
  "checked_block",
  "colour_at",
  "is_kept",
  "kept_net",
  "least_cell",
  "Carpet",
  "Woven",
  "common_net"]
def looseY3 : List PySem.Str := ["net_of_all",
  "refinement",
  "is_finer",
  "colours_at",
  "paired",
  "Links",
  "merged",
  "_law_tape",
  "_law_draw",
  "_law_low",
  "_law_spots",
  "_law_seen"]
def looseY4 : List PySem.Str := ["_law_net",
  "_law_turned",
  "_law_kinds",
  "_law_carried",
  "_law_divisor",
  "_law_keeps",
  "_law_move",
  "_law_tied",
  "_law_letters",
  "_law_square",
  "_law_copied",
  "_law_woven"]
def looseY5 : List PySem.Str := ["_law_made",
  "_law_told",
  "_law_common",
  "_law_groups",
  "_law_due",
  "_law_merged",
  "_law_some"]
def looseY : List PySem.Str := looseY0 ++ (looseY1 ++ (looseY2 ++ (looseY3 ++ (looseY4 ++ (looseY5)))))
/-! ### the part of the heap that is looked at -/
def nsA (g : Addr → Option Obj) (C : Addr) : List Addr := match g C with
  | some ⟨_, _, .cls cd, _⟩ => [cd.ns]
  | _ => []
def valsA (g : Addr → Option Obj) (D : Addr) : List Addr := match g D with
  | some ⟨_, _, .dict es _, _⟩ => es.toList.flatMap fun e => He.refV e.val
  | _ => []
def fldsA (g : Addr → Option Obj) (p : Addr) : List Addr := match g p with
  | some ⟨.type _, _, .fields vs, _⟩ => vs.toList.flatMap He.refV
  | _ => []
def codeA (g : Addr → Option Obj) (f : Addr) : List Addr := match g f with
  | some ⟨_, _, .func fd, _⟩ => He.refV fd.code ++ (He.refV fd.defaults ++ He.refV fd.kwdefaults)
  | _ => []
def glA (K : Fg) (x : Str) : List Addr := match PySem.W.nsIn K mainGlobals x with
  | some (some (.ref a)) => [a]
  | _ => []
def adrs (g : Addr → Option Obj) : List Addr :=
  let K0 := He.frG g [mainGlobals]
  let cs := clsY.flatMap (glA K0)
  let ns := cs.flatMap (nsA g)
  let ms := ns.flatMap (valsA g)
  let fs := fnsY.flatMap (glA K0)
  let ps := ms.flatMap (fldsA g)
  [mainGlobals, cStatics] ++ (cs ++ (ns ++ (fs ++ (ms ++ (ps ++ (fs.flatMap (codeA g) ++ (ms.flatMap (codeA g) ++ ps.flatMap (codeA g))))))))
/-! ### the law's code and its table -/
def lawC (K : Fg) : Addr := match K.lookup (gA K "law") with
  | some ⟨_, _, .func fd, _⟩ => (match fd.code with
    | .ref c => c
    | _ => 0)
  | _ => 0
def lawT (K : Fg) : Addr := He.tabOf K (lawC K)
def tabY (g : Addr → Option Obj) (K : Fg) : Bool := PySem.W.codeHdIn K (lawC K) (lawT K) && (match g (lawT K) with
  | some o => He.emptyTab o
  | none => false)
/-! ### the Hook -/
abbrev AlY : Type := Bool × List FnW
def obsK (g : Addr → Option Obj) (K : Fg) : AlY := (factsY.all (fun f => f.ok K) && (defsY.all (fun d => okY K (d.at_.adr K) d.qual d.kwd) && tabY g K), defsY.map fun d => fnY K (d.at_.adr K))
def frO {α : Type} (o : Obj) (k : Obj → α) : α := match o with
  | ⟨c, d, dt, sl⟩ => k ⟨c, d, dt, sl⟩
def frL {α : Type} : Fg → (Fg → α) → α
  | [], k => k []
  | (a, o) :: r, k => HandSHeadRun.frNat a fun a => frO o fun o => frL r fun r => k ((a, o) :: r)
theorem frL_eq {α : Type} : ∀ (l : Fg) (k : Fg → α), frL l k = k l
  | [], _ => rfl
  | (a, o) :: r, k => by
    unfold frL
    rw [HandSHeadRun.frNat_eq]
    obtain ⟨c, d, dt, sl⟩ := o
    show frL r _ = _
    rw [frL_eq]
def obsY (g : Addr → Option Obj) : AlY := frL (He.frT g (adrs g)) (obsK g)
def valY : AlY := (true, defsY.map DefY.val)
structure SaysY (h : Heap) (K : Fg) : Prop where
  facts : factsY.all (fun f => f.ok K) = true
  oks : defsY.all (fun d => okY K (d.at_.adr K) d.qual d.kwd) = true
  fns : (defsY.map fun d => fnY K (d.at_.adr K)) = defsY.map DefY.val
  hd : PySem.W.codeHdIn K (lawC K) (lawT K) = true
  out : K.lookup (lawT K) = none
  empty : h.get? (lawT K) = some { cls := .none, data := .fields #[] }
theorem saysY_of {h : Heap} (e : obsY h.get? = valY) : SaysY h (He.frT h.get? (adrs h.get?)) := by
  unfold obsY at e
  rw [frL_eq] at e
  have e1 := congrArg (fun z : AlY => z.1) e
  have e2 := congrArg (fun z : AlY => z.2) e
  obtain ⟨h1, h2⟩ := ba e1
  obtain ⟨h3, h4⟩ := ba h2
  obtain ⟨h5, h6⟩ := ba h4
  split at h6
  · rename_i o q
    exact ⟨h1, h3, e2, h5, He.frT_none q h6, by rw [q, He.emptyTab_eq h6]⟩
  · cases h6
def hkY : PySem.W.Hook where
  α := AlY
  obs := fun s => obsY s.heap.get?
  val := fun _ => valY
  says := fun _ h => ∃ K : Fg, K.In h ∧ SaysY h K
  of := fun _ _ e => ⟨_, He.frT_in, saysY_of e⟩
  keeps := fun _ _ _ ⟨K, hK, c⟩ k => ⟨K, PySem.W.Frag.In.keeps hK k, ⟨c.facts, c.oks, c.fns, c.hd, c.out, k _ _ c.empty⟩⟩
def obY (s : PySem.W.SharedT) : AlY := obsY (HandSHeadRun.getT s)
theorem obY_eq (s : PySem.W.SharedT) : obY s = hkY.obs s.abs := by
  have e : HandSHeadRun.getT s = s.abs.heap.get? := funext (HandSHeadRun.getT_eq s)
  show obsY _ = obsY _
  rw [e]
section
variable {K : Fg} {h : Heap} {mg : Str → Option Value} {C m x q : Str} {st : Stmt}
theorem SaysY.fact (c : SaysY h K) (i : Nat) {f : Fy} (e : factsY[i]? = some f) : f.ok K = true := List.all_eq_true.mp c.facts f (List.mem_of_getElem? e)
theorem SaysY.def_ (c : SaysY h K) (i : Nat) {d : DefY} (e : defsY[i]? = some d) : ∃ fd, FunD K d.name d.qual (defArgs d.st) (defBody d.st) (defScope d.st) [] d.kwd (d.at_.adr K) fd := by
  have e2 : (defsY.map fun d => fnY K (d.at_.adr K))[i]? = (defsY.map DefY.val)[i]? := by rw [c.fns]
  rw [List.getElem?_map, List.getElem?_map, e] at e2
  exact DefY.funD (Option.some.inj e2) (List.all_eq_true.mp c.oks d (List.mem_of_getElem? e))
theorem hasD_of (X : K.In h) (G : h.Ns mainGlobals mg) (f : (Fy.glo x).ok K = true) (d : ∃ fd, FunD K x x (defArgs st) (defBody st) (defScope st) [] [] (gA K x) fd) : HasD K mg x st :=
  let ⟨fd, F⟩ := d; ⟨_, fd, glo_ok X G f, fun_of F⟩
theorem hasK_of (X : K.In h) (G : h.Ns mainGlobals mg) (f : (Fy.glo x).ok K = true) (k : (Fy.mkr x).ok K = true) (d : ∃ fd, FunD K "__init__" q (defArgs st) (defBody st) (defScope st) [] [] (mA K x "__init__") fd) : HasK K mg x (gA K x) q st :=
  let ⟨fd, F⟩ := d; ⟨_, fd, glo_ok X G f, mkr_ok k, fun_of F⟩
theorem hasKD_of {kw : List (Str × V)} (k : (Fy.mkr C).ok K = true) (d : ∃ fd, FunD K "__init__" q (defArgs st) (defBody st) (defScope st) [] kw (mA K C "__init__") fd) : ∃ f fd, Mk K (gA K C) f ∧ FunD K "__init__" q (defArgs st) (defBody st) (defScope st) [] kw f fd :=
  let ⟨fd, F⟩ := d; ⟨_, fd, mkr_ok k, F⟩
theorem hasP_of (f : (Fy.prop C m).ok K = true) (d : ∃ fd, FunD K m q (defArgs st) (defBody st) (defScope st) [] [] (recA K (mA K C m) "property") fd) : HasP K (gA K C) m q st :=
  let ⟨fd, F⟩ := d; ⟨_, _, fd, prop_ok f, fun_of F⟩
theorem hasM_of (f : (Fy.meth C m).ok K = true) (d : ∃ fd, FunD K m q (defArgs st) (defBody st) (defScope st) [] [] (mA K C m) fd) : HasM K (gA K C) m q st :=
  let ⟨fd, F⟩ := d; ⟨_, fd, meth_ok f F.kp, fun_of F⟩
theorem cell_of (f : (Fy.meth C m).ok K = true) (d : ∃ fd, FunD K m q (defArgs st) (defBody st) (defScope st) [] [] (mA K C m) fd) : ∃ f fd, Meth K (gA K C) m f ∧ FunD K m q (defArgs st) (defBody st) (defScope st) [] [] f fd :=
  let ⟨fd, F⟩ := d; ⟨_, fd, meth_ok f F.kp, F⟩
theorem whole_of (f : (Fy.cm C m).ok K = true) (d : ∃ fd, FunD K m q (defArgs st) (defBody st) (defScope st) [] [] (recA K (mA K C m) "classmethod") fd) : ∃ mc p g fd, ClX.CRead K (gA K C) mc ∧ ClX.CMet K (gA K C) mc m p g ∧ Fun K m q st g fd :=
  let ⟨fd, F⟩ := d; ⟨_, _, _, fd, (cm_ok f).1, (cm_ok f).2, fun_of F⟩
theorem on_of (f : (Fy.sm C m).ok K = true) (d : ∃ fd, FunD K m q (defArgs st) (defBody st) (defScope st) [] [] (recA K (mA K C m) "staticmethod") fd) : ∃ mc p g fd ob tp, ClX.CRead K (gA K C) mc ∧ SMet K (gA K C) mc m p g ob tp ∧ Fun K m q st g fd := by
  obtain ⟨fd, F⟩ := d
  obtain ⟨r, ob, tp, S⟩ := sm_ok f
  exact ⟨_, _, _, fd, ob, tp, r, S, fun_of F⟩
theorem none_of {f : Addr} {oc : Value} {od : Option Addr} {fd : FuncData} {osl : Array (Option Value)} (h : K.lookup f = some ⟨oc, od, .func fd, osl⟩) (c : iniY K f = true) : fd.defaults = .none ∧ fd.kwdefaults = .none := by
  unfold iniY at c
  rw [h] at c
  obtain ⟨c1, c2⟩ := ba c
  constructor
  · split at c1
    · assumption
    · cases c1
  · split at c2
    · assumption
    · cases c2
theorem iv_of (X : K.In h) (G : h.Ns mainGlobals mg) (f : (Fy.glo "InvalidNumber").ok K = true) (e : (Fy.exc "InvalidNumber" "value" PySem.HandSPX.veTail "ValueError.__new__").ok K = true) (d : ∃ fd, FunD K "__init__" "InvalidNumber.__init__" (defArgs s_InvalidNumber_init) (defBody s_InvalidNumber_init) (defScope s_InvalidNumber_init) [] [] (mA K "InvalidNumber" "__init__") fd) :
    ∃ f, PySem.IvX.InvalidNumberTxt K mg (gA K "InvalidNumber") f := by
  obtain ⟨fd, F⟩ := d
  obtain ⟨oc, od, dV, kV, doc, pm, an, cdv, ct, osl, e0, lk, cd, _, _⟩ := F.ex
  obtain ⟨c1, e⟩ := ba e
  obtain ⟨c2, e⟩ := ba e
  obtain ⟨c3, e⟩ := ba e
  obtain ⟨c4, e⟩ := ba e
  obtain ⟨c5, e⟩ := ba e
  obtain ⟨c6, e⟩ := ba e
  obtain ⟨c7, e⟩ := ba e
  obtain ⟨c8, e⟩ := ba e
  obtain ⟨c9, e⟩ := ba e
  obtain ⟨c10, e⟩ := ba e
  obtain ⟨c11, e⟩ := ba e
  obtain ⟨c12, c13⟩ := ba e
  subst e0
  obtain ⟨k1, k2⟩ := none_of lk c13
  have k1 : dV = .none := k1
  have k2 : kV = .none := k2
  subst k1 k2
  exact ⟨_, ⟨glo_ok X G f, excY_ok c1, eqO_ok c2, eqO_ok c3, eqO_ok c4, eqO_ok c5, eqO_ok c6, of_decide_eq_true c7, c8, of_decide_eq_true c9, of_decide_eq_true c10, c11, of_decide_eq_true c12, oc, od, doc, pm, an, cdv, ct, osl, _, _, _, _, _, _, lk, cd⟩⟩
theorem lm_of (X : K.In h) (G : h.Ns mainGlobals mg) (f : (Fy.glo "LimitExceeded").ok K = true) (e : (Fy.exc "LimitExceeded" "limit" PySem.ErX.ovTail "OverflowError.__new__").ok K = true) (d : ∃ fd, FunD K "__init__" "LimitExceeded.__init__" (defArgs s_LimitExceeded_init) (defBody s_LimitExceeded_init) (defScope s_LimitExceeded_init) [] [] (mA K "LimitExceeded" "__init__") fd) :
    ∃ f, PySem.LmX.LimitExceededTxt K mg (gA K "LimitExceeded") f := by
  obtain ⟨fd, F⟩ := d
  obtain ⟨oc, od, dV, kV, doc, pm, an, cdv, ct, osl, e0, lk, cd, _, _⟩ := F.ex
  obtain ⟨c1, e⟩ := ba e
  obtain ⟨c2, e⟩ := ba e
  obtain ⟨c3, e⟩ := ba e
  obtain ⟨c4, e⟩ := ba e
  obtain ⟨c5, e⟩ := ba e
  obtain ⟨c6, e⟩ := ba e
  obtain ⟨c7, e⟩ := ba e
  obtain ⟨c8, e⟩ := ba e
  obtain ⟨c9, e⟩ := ba e
  obtain ⟨c10, e⟩ := ba e
  obtain ⟨c11, e⟩ := ba e
  obtain ⟨c12, c13⟩ := ba e
  subst e0
  obtain ⟨k1, k2⟩ := none_of lk c13
  have k1 : dV = .none := k1
  have k2 : kV = .none := k2
  subst k1 k2
  exact ⟨_, ⟨glo_ok X G f, excY_ok c1, eqO_ok c2, eqO_ok c3, eqO_ok c4, eqO_ok c5, eqO_ok c6, of_decide_eq_true c7, c8, of_decide_eq_true c9, of_decide_eq_true c10, c11, of_decide_eq_true c12, oc, od, doc, pm, an, cdv, ct, osl, _, _, _, _, _, _, lk, cd⟩⟩

theorem txt_of (X : K.In h) (G : h.Ns mainGlobals mg) (c : SaysY h K) : Txt K mg (gA K "Net") (gA K "Carpet") (gA K "Woven") (gA K "Links") where
  bt := ⟨free_ok X G (c.fact 0 (f := .free "isinstance") rfl), free_ok X G (c.fact 1 (f := .free "len") rfl), free_ok X G (c.fact 2 (f := .free "all") rfl), free_ok X G (c.fact 3 (f := .free "abs") rfl), free_ok X G (c.fact 4 (f := .free "range") rfl), free_ok X G (c.fact 5 (f := .free "sorted") rfl), free_ok X G (c.fact 6 (f := .free "set") rfl), free_ok X G (c.fact 7 (f := .free "dict") rfl), free_ok X G (c.fact 8 (f := .free "enumerate") rfl), free_ok X G (c.fact 9 (f := .free "min") rfl), free_ok X G (c.fact 10 (f := .free "max") rfl), free_ok X G (c.fact 11 (f := .free "tuple") rfl), free_ok X G (c.fact 12 (f := .free "list") rfl), free_ok X G (c.fact 13 (f := .free "int") rfl), free_ok X G (c.fact 14 (f := .free "str") rfl), free_ok X G (c.fact 15 (f := .free "bool") rfl), free_ok X G (c.fact 16 (f := .free "NotImplemented") rfl)⟩
  d_is_integer := hasD_of X G (c.fact 17 (f := .glo "is_integer") rfl) (c.def_ 0 (d := ⟨.glo "is_integer", "is_integer", "is_integer", s_is_integer, []⟩) rfl)
  d_is_place := hasD_of X G (c.fact 18 (f := .glo "is_place") rfl) (c.def_ 1 (d := ⟨.glo "is_place", "is_place", "is_place", s_is_place, []⟩) rfl)
  d_check_place := hasD_of X G (c.fact 19 (f := .glo "check_place") rfl) (c.def_ 2 (d := ⟨.glo "check_place", "check_place", "check_place", s_check_place, []⟩) rfl)
  d_greatest_divisor := hasD_of X G (c.fact 20 (f := .glo "greatest_divisor") rfl) (c.def_ 3 (d := ⟨.glo "greatest_divisor", "greatest_divisor", "greatest_divisor", s_greatest_divisor, []⟩) rfl)
  d_bezout := hasD_of X G (c.fact 21 (f := .glo "bezout") rfl) (c.def_ 4 (d := ⟨.glo "bezout", "bezout", "bezout", s_bezout, []⟩) rfl)
  d_divisors := hasD_of X G (c.fact 22 (f := .glo "divisors") rfl) (c.def_ 5 (d := ⟨.glo "divisors", "divisors", "divisors", s_divisors, []⟩) rfl)
  d_plus := hasD_of X G (c.fact 23 (f := .glo "plus") rfl) (c.def_ 6 (d := ⟨.glo "plus", "plus", "plus", s_plus, []⟩) rfl)
  d_are_numbers := hasD_of X G (c.fact 24 (f := .glo "are_numbers") rfl) (c.def_ 7 (d := ⟨.glo "are_numbers", "are_numbers", "are_numbers", s_are_numbers, []⟩) rfl)
  d_common_numbers := hasD_of X G (c.fact 25 (f := .glo "common_numbers") rfl) (c.def_ 8 (d := ⟨.glo "common_numbers", "common_numbers", "common_numbers", s_common_numbers, []⟩) rfl)
  k_Net := hasK_of X G (c.fact 26 (f := .glo "Net") rfl) (c.fact 27 (f := .mkr "Net") rfl) (c.def_ 9 (d := ⟨.meth "Net" "__init__", "__init__", "Net.__init__", s_Net_init, []⟩) rfl)
  p_Net_numbers := hasP_of (c.fact 28 (f := .prop "Net" "numbers") rfl) (c.def_ 10 (d := ⟨.recd "Net" "numbers" "property", "numbers", "Net.numbers", s_Net_numbers, []⟩) rfl)
  p_Net_size := hasP_of (c.fact 29 (f := .prop "Net" "size") rfl) (c.def_ 11 (d := ⟨.recd "Net" "size" "property", "size", "Net.size", s_Net_size, []⟩) rfl)
  m_Net_place_in_cell := hasM_of (c.fact 30 (f := .meth "Net" "place_in_cell") rfl) (c.def_ 12 (d := ⟨.meth "Net" "place_in_cell", "place_in_cell", "Net.place_in_cell", s_Net_place_in_cell, []⟩) rfl)
  m_Net_and := hasM_of (c.fact 31 (f := .meth "Net" "__and__") rfl) (c.def_ 13 (d := ⟨.meth "Net" "__and__", "__and__", "Net.__and__", s_Net_and, []⟩) rfl)
  m_Net_spots := hasM_of (c.fact 32 (f := .meth "Net" "spots") rfl) (c.def_ 14 (d := ⟨.meth "Net" "spots", "spots", "Net.spots", s_Net_spots, []⟩) rfl)
  d_is_row := hasD_of X G (c.fact 33 (f := .glo "is_row") rfl) (c.def_ 15 (d := ⟨.glo "is_row", "is_row", "is_row", s_is_row, []⟩) rfl)
  d_check_rows := hasD_of X G (c.fact 34 (f := .glo "check_rows") rfl) (c.def_ 16 (d := ⟨.glo "check_rows", "check_rows", "check_rows", s_check_rows, []⟩) rfl)
  d_checked_block := hasD_of X G (c.fact 35 (f := .glo "checked_block") rfl) (c.def_ 17 (d := ⟨.glo "checked_block", "checked_block", "checked_block", s_checked_block, []⟩) rfl)
  d_colour_at := hasD_of X G (c.fact 36 (f := .glo "colour_at") rfl) (c.def_ 18 (d := ⟨.glo "colour_at", "colour_at", "colour_at", s_colour_at, []⟩) rfl)
  d_is_kept := hasD_of X G (c.fact 37 (f := .glo "is_kept") rfl) (c.def_ 19 (d := ⟨.glo "is_kept", "is_kept", "is_kept", s_is_kept, []⟩) rfl)
  d_kept_net := hasD_of X G (c.fact 38 (f := .glo "kept_net") rfl) (c.def_ 20 (d := ⟨.glo "kept_net", "kept_net", "kept_net", s_kept_net, []⟩) rfl)
  d_least_cell := hasD_of X G (c.fact 39 (f := .glo "least_cell") rfl) (c.def_ 21 (d := ⟨.glo "least_cell", "least_cell", "least_cell", s_least_cell, []⟩) rfl)
  k_Carpet := hasKD_of (c.fact 40 (f := .mkr "Carpet") rfl) (c.def_ 22 (d := ⟨.meth "Carpet" "__init__", "__init__", "Carpet.__init__", s_Carpet_init, [("shift", .int 0)]⟩) rfl)
  pC_Carpet_net := hasP_of (c.fact 41 (f := .prop "Carpet" "net") rfl) (c.def_ 23 (d := ⟨.recd "Carpet" "net" "property", "net", "Carpet.net", s_Carpet_net, []⟩) rfl)
  pW_Carpet_net := hasP_of (c.fact 42 (f := .prop "Woven" "net") rfl) (c.def_ 24 (d := ⟨.recd "Woven" "net" "property", "net", "Carpet.net", s_Carpet_net, []⟩) rfl)
  pC_Carpet_colours := hasP_of (c.fact 43 (f := .prop "Carpet" "colours") rfl) (c.def_ 25 (d := ⟨.recd "Carpet" "colours" "property", "colours", "Carpet.colours", s_Carpet_colours, []⟩) rfl)
  pW_Carpet_colours := hasP_of (c.fact 44 (f := .prop "Woven" "colours") rfl) (c.def_ 26 (d := ⟨.recd "Woven" "colours" "property", "colours", "Carpet.colours", s_Carpet_colours, []⟩) rfl)
  mC_Carpet_seen := hasM_of (c.fact 45 (f := .meth "Carpet" "seen") rfl) (c.def_ 27 (d := ⟨.meth "Carpet" "seen", "seen", "Carpet.seen", s_Carpet_seen, []⟩) rfl)
  mW_Carpet_seen := hasM_of (c.fact 46 (f := .meth "Woven" "seen") rfl) (c.def_ 28 (d := ⟨.meth "Woven" "seen", "seen", "Carpet.seen", s_Carpet_seen, []⟩) rfl)
  mC_Carpet_getitem := hasM_of (c.fact 47 (f := .meth "Carpet" "__getitem__") rfl) (c.def_ 29 (d := ⟨.meth "Carpet" "__getitem__", "__getitem__", "Carpet.__getitem__", s_Carpet_getitem, []⟩) rfl)
  mW_Carpet_getitem := hasM_of (c.fact 48 (f := .meth "Woven" "__getitem__") rfl) (c.def_ 30 (d := ⟨.meth "Woven" "__getitem__", "__getitem__", "Carpet.__getitem__", s_Carpet_getitem, []⟩) rfl)
  k_Woven := hasK_of X G (c.fact 49 (f := .glo "Woven") rfl) (c.fact 50 (f := .mkr "Woven") rfl) (c.def_ 31 (d := ⟨.meth "Woven" "__init__", "__init__", "Woven.__init__", s_Woven_init, []⟩) rfl)
  d_common_net := hasD_of X G (c.fact 51 (f := .glo "common_net") rfl) (c.def_ 32 (d := ⟨.glo "common_net", "common_net", "common_net", s_common_net, []⟩) rfl)
  d_net_of_all := hasD_of X G (c.fact 52 (f := .glo "net_of_all") rfl) (c.def_ 33 (d := ⟨.glo "net_of_all", "net_of_all", "net_of_all", s_net_of_all, []⟩) rfl)
  d_refinement := hasD_of X G (c.fact 53 (f := .glo "refinement") rfl) (c.def_ 34 (d := ⟨.glo "refinement", "refinement", "refinement", s_refinement, []⟩) rfl)
  d_is_finer := hasD_of X G (c.fact 54 (f := .glo "is_finer") rfl) (c.def_ 35 (d := ⟨.glo "is_finer", "is_finer", "is_finer", s_is_finer, []⟩) rfl)
  d_colours_at := hasD_of X G (c.fact 55 (f := .glo "colours_at") rfl) (c.def_ 36 (d := ⟨.glo "colours_at", "colours_at", "colours_at", s_colours_at, []⟩) rfl)
  d_paired := hasD_of X G (c.fact 56 (f := .glo "paired") rfl) (c.def_ 37 (d := ⟨.glo "paired", "paired", "paired", s_paired, []⟩) rfl)
  k_Links := hasK_of X G (c.fact 57 (f := .glo "Links") rfl) (c.fact 58 (f := .mkr "Links") rfl) (c.def_ 38 (d := ⟨.meth "Links" "__init__", "__init__", "Links.__init__", s_Links_init, []⟩) rfl)
  m_Links_representative := hasM_of (c.fact 59 (f := .meth "Links" "representative") rfl) (c.def_ 39 (d := ⟨.meth "Links" "representative", "representative", "Links.representative", s_Links_representative, []⟩) rfl)
  m_Links_link := hasM_of (c.fact 60 (f := .meth "Links" "link") rfl) (c.def_ 40 (d := ⟨.meth "Links" "link", "link", "Links.link", s_Links_link, []⟩) rfl)
  d_merged := hasD_of X G (c.fact 61 (f := .glo "merged") rfl) (c.def_ 41 (d := ⟨.glo "merged", "merged", "merged", s_merged, []⟩) rfl)
  d_law_tape := hasD_of X G (c.fact 62 (f := .glo "_law_tape") rfl) (c.def_ 42 (d := ⟨.glo "_law_tape", "_law_tape", "_law_tape", s_law_tape, []⟩) rfl)
  d_law_draw := hasD_of X G (c.fact 63 (f := .glo "_law_draw") rfl) (c.def_ 43 (d := ⟨.glo "_law_draw", "_law_draw", "_law_draw", s_law_draw, []⟩) rfl)
  d_law_low := hasD_of X G (c.fact 64 (f := .glo "_law_low") rfl) (c.def_ 44 (d := ⟨.glo "_law_low", "_law_low", "_law_low", s_law_low, []⟩) rfl)
  d_law_spots := hasD_of X G (c.fact 65 (f := .glo "_law_spots") rfl) (c.def_ 45 (d := ⟨.glo "_law_spots", "_law_spots", "_law_spots", s_law_spots, []⟩) rfl)
  d_law_seen := hasD_of X G (c.fact 66 (f := .glo "_law_seen") rfl) (c.def_ 46 (d := ⟨.glo "_law_seen", "_law_seen", "_law_seen", s_law_seen, []⟩) rfl)
  d_law_net := hasD_of X G (c.fact 67 (f := .glo "_law_net") rfl) (c.def_ 47 (d := ⟨.glo "_law_net", "_law_net", "_law_net", s_law_net, []⟩) rfl)
  d_law_turned := hasD_of X G (c.fact 68 (f := .glo "_law_turned") rfl) (c.def_ 48 (d := ⟨.glo "_law_turned", "_law_turned", "_law_turned", s_law_turned, []⟩) rfl)
  d_law_kinds := hasD_of X G (c.fact 69 (f := .glo "_law_kinds") rfl) (c.def_ 49 (d := ⟨.glo "_law_kinds", "_law_kinds", "_law_kinds", s_law_kinds, []⟩) rfl)
  d_law_carried := hasD_of X G (c.fact 70 (f := .glo "_law_carried") rfl) (c.def_ 50 (d := ⟨.glo "_law_carried", "_law_carried", "_law_carried", s_law_carried, []⟩) rfl)
  d_law_divisor := hasD_of X G (c.fact 71 (f := .glo "_law_divisor") rfl) (c.def_ 51 (d := ⟨.glo "_law_divisor", "_law_divisor", "_law_divisor", s_law_divisor, []⟩) rfl)
  d_law_keeps := hasD_of X G (c.fact 72 (f := .glo "_law_keeps") rfl) (c.def_ 52 (d := ⟨.glo "_law_keeps", "_law_keeps", "_law_keeps", s_law_keeps, []⟩) rfl)
  d_law_move := hasD_of X G (c.fact 73 (f := .glo "_law_move") rfl) (c.def_ 53 (d := ⟨.glo "_law_move", "_law_move", "_law_move", s_law_move, []⟩) rfl)
  d_law_tied := hasD_of X G (c.fact 74 (f := .glo "_law_tied") rfl) (c.def_ 54 (d := ⟨.glo "_law_tied", "_law_tied", "_law_tied", s_law_tied, []⟩) rfl)
  d_law_letters := hasD_of X G (c.fact 75 (f := .glo "_law_letters") rfl) (c.def_ 55 (d := ⟨.glo "_law_letters", "_law_letters", "_law_letters", s_law_letters, []⟩) rfl)
  d_law_square := hasD_of X G (c.fact 76 (f := .glo "_law_square") rfl) (c.def_ 56 (d := ⟨.glo "_law_square", "_law_square", "_law_square", s_law_square, []⟩) rfl)
  d_law_copied := hasD_of X G (c.fact 77 (f := .glo "_law_copied") rfl) (c.def_ 57 (d := ⟨.glo "_law_copied", "_law_copied", "_law_copied", s_law_copied, []⟩) rfl)
  d_law_woven := hasD_of X G (c.fact 78 (f := .glo "_law_woven") rfl) (c.def_ 58 (d := ⟨.glo "_law_woven", "_law_woven", "_law_woven", s_law_woven, []⟩) rfl)
  d_law_made := hasD_of X G (c.fact 79 (f := .glo "_law_made") rfl) (c.def_ 59 (d := ⟨.glo "_law_made", "_law_made", "_law_made", s_law_made, []⟩) rfl)
  d_law_told := hasD_of X G (c.fact 80 (f := .glo "_law_told") rfl) (c.def_ 60 (d := ⟨.glo "_law_told", "_law_told", "_law_told", s_law_told, []⟩) rfl)
  d_law_common := hasD_of X G (c.fact 81 (f := .glo "_law_common") rfl) (c.def_ 61 (d := ⟨.glo "_law_common", "_law_common", "_law_common", s_law_common, []⟩) rfl)
  d_law_groups := hasD_of X G (c.fact 82 (f := .glo "_law_groups") rfl) (c.def_ 62 (d := ⟨.glo "_law_groups", "_law_groups", "_law_groups", s_law_groups, []⟩) rfl)
  d_law_due := hasD_of X G (c.fact 83 (f := .glo "_law_due") rfl) (c.def_ 63 (d := ⟨.glo "_law_due", "_law_due", "_law_due", s_law_due, []⟩) rfl)
  d_law_merged := hasD_of X G (c.fact 84 (f := .glo "_law_merged") rfl) (c.def_ 64 (d := ⟨.glo "_law_merged", "_law_merged", "_law_merged", s_law_merged, []⟩) rfl)
  d_law_some := hasD_of X G (c.fact 85 (f := .glo "_law_some") rfl) (c.def_ 65 (d := ⟨.glo "_law_some", "_law_some", "_law_some", s_law_some, []⟩) rfl)
  d_law := hasD_of X G (c.fact 86 (f := .glo "law") rfl) (c.def_ 66 (d := ⟨.glo "law", "law", "law", s_law, []⟩) rfl)
  cls_CN := cls_ok (c.fact 87 (f := .cls "Net") rfl)
  cls_CC := cls_ok (c.fact 88 (f := .cls "Carpet") rfl)
  cls_CW := cls_ok (c.fact 89 (f := .cls "Woven") rfl)
  cls_CL := cls_ok (c.fact 90 (f := .cls "Links") rfl)
  na_N := noat_ok (c.fact 91 (f := .noat "Net" "own_numbers") rfl)
  na_Cn := noat_ok (c.fact 92 (f := .noat "Carpet" "own_net") rfl)
  na_Ct := noat_ok (c.fact 93 (f := .noat "Carpet" "own_text") rfl)
  na_Wn := noat_ok (c.fact 94 (f := .noat "Woven" "own_net") rfl)
  na_Wt := noat_ok (c.fact 95 (f := .noat "Woven" "own_text") rfl)
  na_L := noat_ok (c.fact 96 (f := .noat "Links" "nearer") rfl)
  ins_N := ins_ok (cls_ok (c.fact 87 (f := .cls "Net") rfl)) (c.fact 97 (f := .ins "Net") rfl)
  g_Net := glo_ok X G (c.fact 26 (f := .glo "Net") rfl)
  g_Carpet := glo_ok X G (c.fact 98 (f := .glo "Carpet") rfl)
  sf_N := (c.fact 99 (f := .first "Net") rfl)
  whole := whole_of (c.fact 100 (f := .cm "Net" "whole") rfl) (c.def_ 67 (d := ⟨.recd "Net" "whole" "classmethod", "whole", "Net.whole", s_Net_whole, []⟩) rfl)
  on := on_of (c.fact 101 (f := .sm "Carpet" "on") rfl) (c.def_ 68 (d := ⟨.recd "Carpet" "on" "staticmethod", "on", "Carpet.on", s_Carpet_on, []⟩) rfl)
  gi_C := gi_ok (c.fact 102 (f := .gi "Carpet" "__getitem__") rfl)
  gi_W := gi_ok (c.fact 103 (f := .gi "Woven" "__getitem__") rfl)
  c_LETTERS := str_ok X G (c.fact 104 (f := .str "LETTERS" "abcdefghijklmnopqrstuvwxyz") rfl)
  c_MOST_ROWS := int_ok X G (c.fact 105 (f := .int "MOST_ROWS" 100) rfl)
  c_MOST_LETTERS := int_ok X G (c.fact 106 (f := .int "MOST_LETTERS" 1000) rfl)
  c_MOST_PLACES := int_ok X G (c.fact 107 (f := .int "MOST_PLACES" 2000) rfl)
  m_Net_cell := cell_of (c.fact 108 (f := .meth "Net" "cell") rfl) (c.def_ 69 (d := ⟨.meth "Net" "cell", "cell", "Net.cell", s_Net_cell, []⟩) rfl)
theorem txtE_of (X : K.In h) (G : h.Ns mainGlobals mg) (c : SaysY h K) : TxtE K mg (gA K "InvalidNumber") (gA K "LimitExceeded") := ⟨iv_of X G (c.fact 109 (f := .glo "InvalidNumber") rfl) (c.fact 110 (f := .exc "InvalidNumber" "value" PySem.HandSPX.veTail "ValueError.__new__") rfl) (c.def_ 70 (d := ⟨.meth "InvalidNumber" "__init__", "__init__", "InvalidNumber.__init__", s_InvalidNumber_init, []⟩) rfl), lm_of X G (c.fact 111 (f := .glo "LimitExceeded") rfl) (c.fact 112 (f := .exc "LimitExceeded" "limit" PySem.ErX.ovTail "OverflowError.__new__") rfl) (c.def_ 71 (d := ⟨.meth "LimitExceeded" "__init__", "__init__", "LimitExceeded.__init__", s_LimitExceeded_init, []⟩) rfl)⟩
theorem txtL_of (c : SaysY h K) : TxtL K mg (gA K "InvalidNumber") (gA K "LimitExceeded") := ⟨exm_ok (c.fact 113 (f := .exm "LimitExceeded" "InvalidNumber" false) rfl)⟩
theorem law_of (X : K.In h) (G : h.Ns mainGlobals mg) (c : SaysY h K) : HasD K mg "law" s_law := hasD_of X G (c.fact 86 (f := .glo "law") rfl) (c.def_ 66 (d := ⟨.glo "law", "law", "law", s_law, []⟩) rfl)
end
end CpR
set_option Elab.async false
set_option linter.all false
set_option maxRecDepth 100000
set_option maxHeartbeats 0
/-! H03F: the top's run, special-get-raises false. -/
namespace CpR
open PySem PySem.Spec PyProof.Rows L2
abbrev RF : PySem.W.OpenRow := PySem.W.OpenLaw.row PySem.Challenge.rw_carpets_k36_whole_merged_carpets
theorem runF (w : World) : HandSHeadRun.RunEq RF (PySem.W.view RF.prog [75]) hkY obY 8000 looseY (w.withFollow "special-get-raises" false) := by
  intro os
  kernel_rfl
end CpR
set_option Elab.async false
set_option linter.all false
set_option maxRecDepth 100000
set_option maxHeartbeats 0
/-! H03T: the top's run, special-get-raises true. -/
namespace CpR
open PySem PySem.Spec PyProof.Rows L2
abbrev RT : PySem.W.OpenRow := PySem.W.OpenLaw.row PySem.Challenge.rw_carpets_k36_whole_merged_carpets
theorem runT (w : World) : HandSHeadRun.RunEq RT (PySem.W.view RT.prog [75]) hkY obY 8000 looseY (w.withFollow "special-get-raises" true) := by
  intro os
  kernel_rfl
end CpR
set_option Elab.async false
set_option linter.all false
set_option maxRecDepth 100000
set_option maxHeartbeats 0
/-! H04: the law holds. -/
namespace CpR
open PySem PySem.Spec PyProof.Rows L2
theorem walk_ofY {l : PySem.W.OpenLaw} {n k : Nat} {q : Program} {loose : List Str} {XP : (Str → Option Value) → Heap → Prop} {YP : World → Heap → Prop} {d : DefRec} {CX : CXT} {x : Str}
    (hn : l.most = some n) (hn2 : n ≤ sizeLine) (hdf : d.params.defaults = []) (hr : Room k callerA)
    (F : ∀ (w : World) (mg : Str → Option Value) (fa : Addr) (h : Heap), YP w h → h.Ns mainGlobals mg → mg d.name = some (.ref fa) → ∃ K : PySem.W.Frag, K.In h ∧ LamX.LawAtS l w K CX k n x mg fa h)
    (hCX : ∀ (H : Hp) (s : Shared) (e : Value) (s' : Shared), CX [] H s (fun _ _ _ => False) e s' → False) :
    PySem.W.WalkO q loose XP YP l.row.toRowW d [] (fun f vs => PySem.call f vs) := by
  refine Att.attach_callB hn hdf fun w s₀ s₁ mg mb fa o pm cd doc a vs ns G Y ho hd hcd hmg hobj hints hlen hbits hg => ?_
  obtain ⟨K, KX, fd, cs, sp, hT, nT, C, hb, hsp, hF⟩ := F w mg fa _ Y G.T.g hmg
  exact LamX.law_callTs KX G.T.g G.T.b G.T.builtins G.T.nolimit hg hT nT C G.T.bmain hobj hints (Nat.le_trans hlen hn2) hr hF hb (fun H hH hS => hsp H a ns hlen hbits hH hS) fun H e s' => hCX H s₁ e s'
theorem lawC_eq {K : Fg} {f c : Addr} {oc : Value} {od : Option Addr} {fd : FuncData} {osl : Array (Option Value)} (e : f = gA K "law") (lk : K.lookup f = some ⟨oc, od, .func fd, osl⟩) (hc : fd.code = .ref c) : lawC K = c := by
  unfold lawC
  rw [← e, lk]
  dsimp only
  rw [hc]
theorem law_at {w : World} {K : Fg} {h : Heap} {mg : Str → Option Value} {fa : Addr} (X : K.In h) (G : h.Ns mainGlobals mg) (hfa : mg ("law" : Str) = some (.ref fa)) (c : SaysY h K) : LamX.LawAtS PySem.Challenge.rw_carpets_k36_whole_merged_carpets w K CX0 13 63 "_law_script" mg fa h := by
  obtain ⟨f, fd, hm, F⟩ := law_of X G c
  obtain rfl : f = fa := by
    have := hm.symm.trans hfa
    injection this with this
    injection this
  have hg : f = gA K "law" := by
    have := hm.symm.trans (glo_ok X G (c.fact 86 (f := .glo "law") rfl))
    injection this with this
    injection this
  obtain ⟨oc, od, kV, doc, pm, an, cdv, ct, osl, rfl, lk, hcd⟩ := F.ex
  obtain ⟨c0, rfl⟩ := He.codeIn_ref hcd
  have ec : lawC K = c0 := lawC_eq hg lk rfl
  have T := txt_of X G c
  have TE := txtE_of X G c
  have TL : TxtL K mg _ _ := txtL_of c
  refine ⟨PySem.W.fnOf "law" "law" (defArgs s_law) (defBody s_law) (defScope s_law) .none kV doc pm an (.ref c0) ct, [(c0, lawT K)], spLaw K (lawT K), fun p hp => ?_, fun p hp => ?_, fun p hp => ?_, ?_, fun H a ns hl _ hT hS => ⟨a, ns, rfl, hS, hl, hT _ List.mem_cons_self, fun _ => rfl⟩, fun base hK hG hTB => ?_⟩
  · rw [List.mem_singleton.mp hp]; exact c.empty
  · rw [List.mem_singleton.mp hp]; exact c.out
  · rw [List.mem_singleton.mp hp, ← ec]; exact PySem.W.codeHd_of_K X c.hd
  · exact fun s u => BindsTo.of_eq (b_law "law" kV doc pm an (.ref c0) ct [u] rfl)
  · refine fn_of lk hcd sc_law (fun vs H Q E ⟨_, _, e, _⟩ => by rw [e]; rfl) (fun A outer s H vs Q E hr h => ?_)
    obtain ⟨t, h1, h2⟩ := body_law T TE TL (hTB _ List.mem_cons_self) f A outer s H vs Q E hr h
    exact ⟨t, h1.nox, h2⟩
theorem runR (w : World) : HandSHeadRun.RunEq RF (PySem.W.view RF.prog [75]) hkY obY 8000 looseY w :=
  PySem.W.byRow2 "special-get-raises" (P := fun w => HandSHeadRun.RunEq RF (PySem.W.view RF.prog [75]) hkY obY 8000 looseY w) runF runT w
end CpR
open PySem PySem.W PySem.Calls PyProof.Rows
theorem PySem.Challenge.cw_carpets_k36_whole_merged_carpets_holds : PySem.Challenge.rw_carpets_k36_whole_merged_carpets.Holds := by
  w_on; o_law
  refine HandSHeadRun.head_any (r := OpenLaw.row PySem.Challenge.rw_carpets_k36_whole_merged_carpets) (q := view (OpenLaw.row PySem.Challenge.rw_carpets_k36_whole_merged_carpets).prog [75]) (H := CpR.hkY) (ob := CpR.obY) (M := 8000) (loose := CpR.looseY) (d := HandSHeadRun.topDef (OpenLaw.row PySem.Challenge.rw_carpets_k36_whole_merged_carpets).prog 75) (kwd := []) CpR.obY_eq
    (by kernel_rfl) (fun s => by kernel_rfl) CpR.runR (by kernel_rfl) (by kernel_rfl) (by kernel_rfl) (by rfl) (by first | assumption | decide +kernel) (by decide +kernel) ⟨rfl, rfl, rfl, rfl, rfl, by decide +kernel⟩ ?hw ?hc
  case hw => w_witness2
  case hc =>
    refine CpR.walk_ofY (l := PySem.Challenge.rw_carpets_k36_whole_merged_carpets) (n := 63) (k := 13) (x := "_law_script") (CX := L2.CX0) rfl (by decide) (by kernel_rfl) ⟨rfl, by decide, by decide⟩ ?F (fun _ _ _ _ z => z)
    intro w mg fa h Y G hmg0
    obtain ⟨K, KX, c⟩ := Y
    have hmg : mg ("law" : PySem.Str) = some (.ref fa) := by
      have e : (HandSHeadRun.topDef (OpenLaw.row PySem.Challenge.rw_carpets_k36_whole_merged_carpets).prog 75).name = ("law" : PySem.Str) := by kernel_rfl
      rw [← e]
      exact hmg0
    exact ⟨K, KX, CpR.law_at KX G hmg c⟩

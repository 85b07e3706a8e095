import PyProof.Rows.All
import Wide.All
import OpenK.AllK
import Wide.FinOn
import HandS.ForMost
import HandS.SetFor
import HandS.TupSets
import KE.SortData
import KE.DataMinMax
import HandS.HeadHook2
import PyProof.NeKinds
import PyProof.ListMulRoad
import PyProof.FactsAll.tuple_2
import HandS.Base
import HandS.Call
import HandS.List
import HandS.TupMul
import HandS.TupAny
import HandS.Deep
import HandS.Style
import HandS.Conv
import HandS.Strs
import HandS.IsInst
import HandS.More
import HandS.SetKeys
import HandS.Walk
import HandS.Zip
import HandS.Exc
import HandS.ExcOwn
import HandS.WordsExc
import PyProof.TupleOfGen
import KE.GoesZip
import KE.GoesMore
import HandS.Iter
import HandS.TryOnly
import HandS.ExcIs
import HandS.SortKw
import KE.KRevSl
import HandS.Ends
import HandS.HeadEnd
import HandS.Head0
import HandS.Head1
import HandS.Head2
import PyProof.ReprBulk
import PySem.Challenge.RW_thronewalk_k74_whole_any_turn
set_option Elab.async false
set_option linter.all false
section
set_option maxRecDepth 100000
/-! DS1: sets of flat tuples (ints and texts in them): the search, one put in. Ours. -/
namespace DL.SG
open PySem PySem.Spec PyProof.Rows L2
abbrev IsM (P : Program) (w : World) (h : Heap) (k : List Key) (a : Addr) : Prop := IsTupleKey (mixKind P w) h k a
abbrev mh (P : Program) (w : World) (k : List Key) : Int := tupleKeyHash (mixKind P w) k
abbrev pr (m : Nat) (h : Int) (c : Nat) : SetTable.Probe := nth m (runAt m (SetTable.bits h % (m + 1)) (SetTable.bits h)) c
theorem pr_add (m : Nat) (h : Int) (c q : Nat) : nth m (pr m h c) q = pr m h (c + q) := (nth_add m c _ q).symm
theorem nth_dummy (m : Nat) : ∀ (n : Nat) (p : SetTable.Probe), p.dummy = none → (nth m p n).dummy = none
  | 0, _, h => h
  | n + 1, p, h => nth_dummy m n (adv m p) (by unfold adv; split <;> exact h)
section
variable {P : Program} {w : World} {A : Around} {E : Value → Shared → Prop} {s : Shared}
/-! ### small questions -/
theorem cls_key {k : Key} {v : Value} (h : keyIs k v = true) (n : Nat) : ofAClassStatement n v = pure false ∧ ∃ b, hashByValue n v = pure b := by
  rcases keyIs_shape h with ⟨i, t, _, rfl⟩ | ⟨i, t, _, rfl⟩ <;> cases n <;> exact ⟨rfl, _, rfl⟩
theorem cls_items {ks : List Key} {vs : List Value} (h : ItemsAre (mixKind P w) ks vs) (n : Nat) : ∀ v ∈ vs, ofAClassStatement n v = pure false ∧ ∃ b, hashByValue n v = pure b := by
  induction h with
  | nil => exact fun v hv => nomatch hv
  | cons h1 _ ih => exact fun v hv => (List.mem_cons.mp hv).elim (fun e => e ▸ cls_key h1 n) (ih v)
theorem cls_tup {k : List Key} {b : Addr} {Q : Bool → Shared → Prop} (hk : IsM P w s.heap k b) (h : Q false s) : wpAny (model P w) A (ofAClassStatement 8 (.ref b)) Q E s := by
  have ty := hk.typeIs
  obtain ⟨o, its, n, ho, _, hd, hi⟩ := hk
  have hall := cls_items hi
  unfold ofAClassStatement
  refine wpAny_bind (wpAny_typeOf ty ?_); dsimp only
  have e : (("tuple" : String) == "tuple") = true := rfl
  simp only [e, if_true, Bool.not_true, Bool.false_eq_true, if_false]
  try refine wpAny_bind (wpAny_pure ?_)
  try simp only [Bool.not_true, Bool.false_eq_true, if_false]
  show wpAny _ _ (seqItems? (.ref b) >>= _) _ _ s
  refine wpAny_bind (wpAny_seqItems ho hd ?_); dsimp only
  refine wpAny_bind ?_
  show wpAny _ _ (forIn its _ _) _ _ s
  rw [← Array.forIn_toList]
  refine wpAny_forIn_list _ (fun l r u => r.1 = none ∧ u = s ∧ ∀ v ∈ l, v ∈ its.toList) _ ?_ ?_ _ _ ⟨rfl, rfl, fun _ h => h⟩
  · rintro v l r u ⟨hr, rfl, hm⟩
    rw [(hall _ v (hm v List.mem_cons_self)).1]
    refine wpAny_bind (wpAny_pure ?_); simp only [Bool.false_eq_true, if_false]
    exact wpAny_pure ⟨rfl, rfl, fun y hy => hm y (List.mem_cons_of_mem _ hy)⟩
  · rintro ⟨_, _⟩ u ⟨hr, rfl, _⟩; simp only at hr; subst hr
    exact wpAny_pure h
theorem byv_tup {k : List Key} {b : Addr} {Q : Bool → Shared → Prop} (hk : IsM P w s.heap k b) (h : ∀ y, Q y s) : wpAny (model P w) A (hashByValue 8 (.ref b)) Q E s := by
  have ty := hk.typeIs
  obtain ⟨o, its, n, ho, _, hd, hi⟩ := hk
  have hall := cls_items hi
  unfold hashByValue
  refine wpAny_bind (wpAny_specialOf ty F.slot_tuple_hash.lookup ?_)
  show wpAny _ _ (seqItems? (.ref b) >>= _) _ _ s
  refine wpAny_bind (wpAny_seqItems ho hd (wpAny_bind ?_))
  show wpAny _ _ (forIn its _ _) _ _ s
  rw [← Array.forIn_toList]
  refine wpAny_forIn_list _ (fun l r u => r.1 = none ∧ u = s ∧ ∀ v ∈ l, v ∈ its.toList) _ ?_ ?_ _ _ ⟨rfl, rfl, fun _ h => h⟩
  · rintro v l r u ⟨hr, rfl, hm⟩
    obtain ⟨y, hy⟩ := (hall 7 v (hm v List.mem_cons_self)).2
    rw [hy]
    refine wpAny_bind (wpAny_pure ?_)
    cases y with
    | true =>
      simp only [Bool.not_true, Bool.false_eq_true, if_false]
      exact wpAny_pure ⟨rfl, rfl, fun z hz => hm z (List.mem_cons_of_mem _ hz)⟩
    | false =>
      simp only [Bool.not_false, if_true]
      first
        | exact wpAny_pure (wpAny_pure (h false))
        | exact wpAny_bind (wpAny_pure (wpAny_pure (wpAny_pure (h false))))
  · rintro ⟨_, _⟩ u ⟨hr, rfl, _⟩; simp only at hr; subst hr
    exact wpAny_pure (h true)
/-- a search among tuples is not seen -/
theorem unseen {k : List Key} {b : Addr} {Q : Bool → Shared → Prop} (hk : IsM P w s.heap k b) {ys : List Value} (hy : ∀ y ∈ ys, ∃ j c, y = Value.ref c ∧ IsM P w s.heap j c) (h : Q false s) :
    wpAny (model P w) A (searchCouldBeSeen (.ref b) ys) Q E s := by
  unfold searchCouldBeSeen
  refine wpAny_bind (wpAny_forIn_list _ (fun l r u => r.1 = none ∧ u = s ∧ ∀ y ∈ l, y ∈ ys) _ ?_ ?_ _ _ ⟨rfl, rfl, fun _ h => h⟩)
  · rintro v l r u ⟨hr, rfl, hm⟩
    obtain ⟨j, c, rfl, hc⟩ := hy v (hm v List.mem_cons_self)
    have hm' : ∀ y ∈ l, y ∈ ys := fun y z => hm y (List.mem_cons_of_mem _ z)
    dsimp only
    by_cases hv : (b == c || (carriedByValue (.ref b) && carriedByValue (.ref c))) = true
    · exact wp_if_pos hv (wpAny_pure ⟨rfl, rfl, hm'⟩)
    · refine wp_if_neg hv (wpAny_bind (wpAny_eqIsQuiet_tuple hk ?_)); simp only [Bool.not_true, Bool.false_eq_true, if_false]
      refine wpAny_bind (wpAny_eqIsQuiet_tuple hc ?_); simp only [Bool.not_true, Bool.false_eq_true, if_false]
      refine wpAny_bind (cls_tup hk ?_); simp only [Bool.false_eq_true, if_false]
      refine wpAny_bind (cls_tup hc ?_); simp only [Bool.false_eq_true, if_false]
      exact wpAny_pure ⟨rfl, rfl, hm'⟩
  · rintro ⟨_, _⟩ u ⟨hr, rfl, _⟩; simp only at hr; subst hr
    exact wpAny_pure h
/-! ### the set -/
abbrev rw_ (P : Program) (w : World) (L : List (Addr × List Key)) : List (Int × Value) := L.map fun p => (mh P w p.2, Value.ref p.1)
structure ST (P : Program) (w : World) (h : Heap) (a : Addr) (L : List (Addr × List Key)) (es : Array (Int × Value)) (ep : Nat) (t : SetTable) : Prop where
  obj : ∃ o, h.get? a = some o ∧ o.ExactSet ∧ o.data = .set es ep t
  ent : es.toList = rw_ P w L
  ok : TabOk t (L.map fun p => mh P w p.2)
  dis : (L.map (·.2)).Nodup
  keys : ∀ p ∈ L, IsM P w h p.2 p.1
  ld : w.params.followText "set-order" = true ∨ t.led = true
  roomy : L.length * 5 < t.mask * 3
  lt : L.length < 64
variable {a : Addr} {L : List (Addr × List Key)} {es : Array (Int × Value)} {ep : Nat} {t : SetTable}
theorem ent_size {es : Array (Int × Value)} {L : List (Addr × List Key)} (h : es.toList = rw_ P w L) : es.size = L.length := by
  rw [← Array.length_toList, h, List.length_map]
theorem fits_of {L : List (Addr × List Key)} {es : Array (Int × Value)} {t : SetTable} (h1 : es.toList = rw_ P w L) (h2 : t.place.size = es.size) (h3 : t.dummies = #[]) (h4 : L.length ≤ t.mask) : t.fits es.size = true := by
  have e := ent_size h1
  unfold SetTable.fits SetTable.fill
  rw [h3, Bool.and_eq_true, beq_iff_eq, decide_eq_true_eq]
  refine ⟨h2, ?_⟩
  show t.place.size + 0 ≤ t.mask
  omega
theorem ST.psz (R : ST P w s.heap a L es ep t) : t.place.size = es.size := by
  have h := R.ok.sz
  rw [List.length_map] at h
  rw [h, ent_size R.ent]
theorem ST.fit (R : ST P w s.heap a L es ep t) : t.fits es.size = true := fits_of R.ent R.psz R.ok.dm (by have := R.roomy; omega)
theorem ent_at {es : Array (Int × Value)} {L : List (Addr × List Key)} (h : es.toList = rw_ P w L) {i : Nat} {p : Addr × List Key} (hp : L[i]? = some p) : es[i]? = some (mh P w p.2, Value.ref p.1) := by
  rw [← Array.getElem?_toList, h, List.getElem?_map, hp]
  rfl
theorem ST.odd (R : ST P w s.heap a L es ep t) : ¬ t.gaveWay = true := by
  unfold SetTable.gaveWay
  rw [mask_odd R.ok.mok]
  decide
/-- the search -/
theorem seek (R : ST P w s.heap a L es ep t) {x : Addr} {k : List Key} (hx : IsM P w s.heap k x) (hu : A.units < cLine) {N : Nat} (hN : N < 10 * SetTable.turns t.mask) (free : (pr t.mask (mh P w k) N).j ∉ t.place.toList)
    (occ : ∀ c, c < N → (pr t.mask (mh P w k) c).j ∈ t.place.toList) {Q : SetFound → Shared → Prop} (yes : k ∈ L.map (·.2) → Q (.there none) s) (no : k ∉ L.map (·.2) → Q (.free (pr t.mask (mh P w k) N).j false) s) :
    ∀ (f c : Nat) (st : Option SetTable.Probe), st.getD (t.probeStart (mh P w k)) = pr t.mask (mh P w k) c → c ≤ N → N < f + c → (∀ (i : Nat) p, L[i]? = some p → p.2 = k → ∃ d, c ≤ d ∧ d < N ∧ t.place.toList[i]? = some (pr t.mask (mh P w k) d).j) →
      wpAny (model P w) A (setSearchFrom a (.ref x) (mh P w k) true f st) Q E s
  | 0, c, _, _, hc, hf, _ => absurd hf (by omega)
  | f + 1, c, st, hst, hc, hf, ahead => by
    obtain ⟨o, ho, hex, hd⟩ := R.obj
    rw [setSearchFrom_succ]
    refine wpAny_bind (wpAny_setState_of ho hd R.fit ?_); dsimp only
    refine wp_if_neg R.odd ?_
    try refine wpAny_bind (wpAny_pure ?_)
    have jj : ∀ q, (nth t.mask (pr t.mask (mh P w k) c) q).j = (pr t.mask (mh P w k) (c + q)).j := fun q => congrArg SetTable.Probe.j (pr_add ..)
    have hsh : ∀ (i : Nat) p, L[i]? = some p → (es[i]?.map (·.1)).getD 0 = mh P w p.2 := fun i p hp => by rw [ent_at R.ent hp]; rfl
    have cN : c + (N - c) = N := by omega
    rcases go_spec t R.ok.ris R.ok.dm (fun i => (es[i]?.map (·.1)).getD 0) (mh P w k) (10 * SetTable.turns t.mask) (N - c) (pr t.mask (mh P w k) c) (nth_dummy _ _ _ rfl) (by omega) (fun q hq => by rw [jj]; exact occ _ (by omega)) (by rw [jj, cN]; exact free) with ⟨q, i, hq, hi, hh, hno, hpr⟩ | ⟨hno, hpr⟩
    · have hp' : t.probe (fun i => (es[i]?.map (·.1)).getD 0) (mh P w k) (st.getD (t.probeStart (mh P w k))) = some (.candidate (pr t.mask (mh P w k) (c + q)).j i (pr t.mask (mh P w k) (c + (q + 1)))) := by
        rw [hst, ← jj, ← pr_add]
        exact hpr
      rw [hp']; dsimp only
      rw [jj] at hi
      have il : i < L.length := by
        have h1 := (List.getElem?_eq_some_iff.mp hi).1
        rw [Array.length_toList, R.psz, ent_size R.ent] at h1
        exact h1
      obtain ⟨p, hp⟩ : ∃ p, L[i]? = some p := ⟨_, List.getElem?_eq_getElem il⟩
      have pm : p ∈ L := List.mem_of_getElem? hp
      have slot_i : t.slot (pr t.mask (mh P w k) (c + q)).j = .live i := slot_live R.ok.ris hi
      have body : wpAny (model P w) A (searchRest a (.ref x) (mh P w k) true f es t (pr t.mask (mh P w k) (c + q)).j i (pr t.mask (mh P w k) (c + (q + 1)))) Q E s := by
        unfold searchRest
        rw [ent_at R.ent hp]; dsimp only
        refine wpAny_bind (wpAny_holding (wpAny_eqBool_tuple hu (R.keys p pm) hx (wpAny_bind (wpAny_setState_of ho hd R.fit ?_)))); dsimp only
        by_cases e : p.2 = k
        · exact wp_if_pos (by simp [e]) (wpAny_pure (yes (List.mem_map.mpr ⟨p, pm, e⟩)))
        · refine wp_if_neg (by simp [e]) ?_
          try refine wpAny_bind (wpAny_pure ?_)
          rw [sameMem]; dsimp only
          simp only [if_true, slot_i, ent_at R.ent hp]
          refine wpAny_bind (wpAny_isSame_ref_self (wpAny_bind (wpAny_pure ?_))); simp only [if_true]
          refine wp_if_neg (by simp [e]) ?_
          have nx : ∀ (i' : Nat) p', L[i']? = some p' → p'.2 = k → ∃ d, c + (q + 1) ≤ d ∧ d < N ∧ t.place.toList[i']? = some (pr t.mask (mh P w k) d).j := fun i' p' h' e' => by
            obtain ⟨d, d1, d2, d3⟩ := ahead i' p' h' e'
            refine ⟨d, ?_, d2, d3⟩
            by_cases lo : d < c + q
            · refine absurd ((hsh i' p' h').trans ?_) (hno (d - c) i' (by omega) (by rw [jj, show c + (d - c) = d by omega]; exact d3))
              rw [e']
            · by_cases eq : d = c + q
              · have s0 := slot_live R.ok.ris (eq ▸ d3)
                rw [slot_i] at s0
                injection s0 with s0
                rw [← s0, hp] at h'
                exact absurd ((congrArg Prod.snd (Option.some.inj h')).trans e') e
              · omega
          exact seek R hx hu hN free occ yes no f (c + (q + 1)) (some (pr t.mask (mh P w k) (c + (q + 1)))) rfl (by omega) (by omega) nx
      by_cases led : t.led = true
      · refine wp_if_neg (by simp [led]) ?_
        try refine wpAny_bind (wpAny_pure ?_)
        exact body
      · refine wp_if_pos (by simp [led]) (wpAny_bind (unseen hx (fun y hy => ?_) ?_))
        · obtain ⟨e, he, rfl⟩ := List.mem_map.mp hy
          have he2 : e ∈ es.toList := by
            have := Array.mem_toList_iff.mp he
            exact Array.mem_toList_iff.mpr (Array.mem_filter.mp this).1
          rw [R.ent] at he2
          obtain ⟨p2, hp2, rfl⟩ := List.mem_map.mp he2
          exact ⟨p2.2, p2.1, rfl, R.keys p2 hp2⟩
        · refine wp_if_neg (by decide) ?_
          try refine wpAny_bind (wpAny_pure ?_)
          exact body
    · have hp' : t.probe (fun i => (es[i]?.map (·.1)).getD 0) (mh P w k) (st.getD (t.probeStart (mh P w k))) = some (.empty (pr t.mask (mh P w k) N).j none) := by
        have e2 : (pr t.mask (mh P w k) N).j = (nth t.mask (pr t.mask (mh P w k) c) (N - c)).j := by rw [jj, cN]
        rw [hst, e2]
        exact hpr
      rw [hp']; dsimp only
      refine wpAny_pure (no fun hm => ?_)
      obtain ⟨p0, h0, e0⟩ := List.mem_map.mp hm
      obtain ⟨i0, hi0, g0⟩ := List.getElem_of_mem h0
      have hp0 : L[i0]? = some p0 := by rw [List.getElem?_eq_getElem hi0, g0]
      obtain ⟨d, d1, d2, d3⟩ := ahead i0 p0 hp0 e0
      refine absurd ((hsh i0 p0 hp0).trans ?_) (hno (d - c) i0 (by omega) (by rw [jj, show c + (d - c) = d by omega]; exact d3))
      rw [e0]
theorem seek0 (R : ST P w s.heap a L es ep t) {x : Addr} {k : List Key} (hx : IsM P w s.heap k x) (hu : A.units < cLine) {Q : SetFound → Shared → Prop} (yes : k ∈ L.map (·.2) → Q (.there none) s)
    (no : ∀ N, k ∉ L.map (·.2) → way t.mask (mh P w k) N ∉ t.place.toList → (∀ c, c < N → way t.mask (mh P w k) c ∈ t.place.toList) → Q (.free (way t.mask (mh P w k) N) false) s) : wpAny (model P w) A (setSearch a (.ref x) (mh P w k) true) Q E s := by
  obtain ⟨N, hN, free, occ⟩ := R.ok.first (by rw [List.length_map]; have := R.roomy; omega) (mh P w k)
  have big : N < 100000 := by
    have : 10 * SetTable.turns t.mask ≤ 1420 := by unfold SetTable.turns; rcases R.ok.mok with e | e | e <;> omega
    omega
  unfold setSearch
  refine seek R hx hu hN free occ yes (fun hn => no N hn free occ) 100000 0 none rfl (Nat.zero_le _) (by omega) fun i p hp hk => ?_
  have hi : (L.map fun p => mh P w p.2)[i]? = some (mh P w k) := by
    rw [List.getElem?_map, hp, ← hk]
    rfl
  have il : i < t.place.toList.length := by
    rw [Array.length_toList, R.psz, ent_size R.ent]
    exact (List.getElem?_eq_some_iff.mp hp).1
  have hj := List.getElem?_eq_getElem il
  obtain ⟨c, hc, e⟩ := R.ok.before free hi hj
  refine ⟨c, Nat.zero_le _, hc, ?_⟩
  rw [hj]
  exact congrArg some e.symm
end
end DL.SG
end

section
set_option maxRecDepth 100000
/-! DS2: one put into a set of flat tuples. Ours. -/
namespace DL.SG
open PySem PySem.Spec PyProof.Rows L2
/-- what a table is, but for whether its texts' hashes count -/
structure Alike (t u : SetTable) : Prop where
  pl : u.place = t.place
  du : u.dummies = t.dummies
  ms : u.mask = t.mask
  ld : u.led = t.led
theorem Alike.tab {t u : SetTable} (c : Alike t u) {hs : List Int} (T : TabOk t hs) : TabOk u hs := by
  obtain ⟨m, p, d, f, l, mv, q⟩ := t
  obtain ⟨m', p', d', f', l', mv', q'⟩ := u
  obtain ⟨e1, e2, e3, e4⟩ := c
  simp only at e1 e2 e3 e4
  subst e1 e2 e3 e4
  exact ⟨T.ris, T.dm, T.sz, T.mok, T.bd, T.reach⟩
theorem alike_of (t : SetTable) (b : Bool) : Alike t (if b = true then t else { t with plain := false }) := by
  cases b
  · exact ⟨rfl, rfl, rfl, rfl⟩
  · exact ⟨rfl, rfl, rfl, rfl⟩
section
variable {P : Program} {w : World} {A : Around} {E : Value → Shared → Prop} {s : Shared}
theorem IsM.apart {h h' : Heap} {k : List Key} {a b : Addr} {o : Obj} {es : Array (Int × Value)} {ep : Nat} {t : SetTable} (x : IsM P w h k b) (ho : h.get? a = some o) (hd : o.data = .set es ep t) (hs : Heap.SameBut a h h') : IsM P w h' k b := by
  obtain ⟨u, its, n, hu, c, d, i⟩ := x
  refine ⟨u, its, n, (hs.2 b fun e => ?_).trans hu, c, d, i⟩
  subst e
  obtain rfl : u = o := Option.some.inj (hu.symm.trans ho)
  rw [hd] at d
  exact nomatch d
theorem IsM.keep {h h' : Heap} {k : List Key} {b : Addr} (x : IsM P w h k b) (hk : ∀ o, h.get? b = some o → h'.get? b = some o) : IsM P w h' k b := by
  obtain ⟨o, its, n, ho, r⟩ := x
  exact ⟨o, its, n, hk o ho, r⟩
theorem reorder (L : List (Addr × List Key)) (es : Array (Int × Value)) (ord : Array Nat) (hr : es.toList = rw_ P w L) (hp : ord.toList.Perm (List.range L.length)) :
    ∃ L2, (ord.filterMap (es[·]?)).toList = rw_ P w L2 ∧ L2.Perm L ∧ (L2.map fun p => mh P w p.2) = ord.toList.map fun i => (es.map (·.1)).getD i 0 := by
  have hsz := ent_size hr
  have lt : ∀ i ∈ ord.toList, i < L.length := fun i hi => List.mem_range.mp (hp.mem_iff.mp hi)
  have step : ∀ l : List Nat, (∀ i ∈ l, i < L.length) → l.filterMap (fun i => es[i]?) = rw_ P w (l.filterMap fun i => L[i]?) ∧ ((l.filterMap fun i => L[i]?).map fun p => mh P w p.2) = l.map fun i => (es.map (·.1)).getD i 0 := by
    intro l
    induction l with
    | nil => exact fun _ => ⟨rfl, rfl⟩
    | cons i l ih =>
      intro hl
      have hi := hl i List.mem_cons_self
      obtain ⟨e1, e2⟩ := ih fun j hj => hl j (List.mem_cons_of_mem _ hj)
      have g := List.getElem?_eq_getElem hi
      have ge := ent_at hr g
      have e4 : (es.map (·.1)).getD i 0 = mh P w (L[i]).2 := by
        rw [Array.getD_eq_getD_getElem?, Array.getElem?_map, ge]
        rfl
      rw [List.filterMap_cons_some ge, List.filterMap_cons_some g, e1, List.map_cons, List.map_cons, e2, e4]
      exact ⟨rfl, rfl⟩
  obtain ⟨e1, e2⟩ := step ord.toList lt
  refine ⟨_, by first | (rw [Array.toList_filterMap]; exact e1) | simpa using e1, ?_, e2⟩
  have all : ∀ n, n ≤ L.length → (List.range n).filterMap (fun i => L[i]?) = L.take n := by
    intro n
    induction n with
    | zero => exact fun _ => rfl
    | succ n ih =>
      intro hn
      have g : L[n]? = some L[n] := List.getElem?_eq_getElem hn
      rw [List.range_succ, List.filterMap_append, ih (Nat.le_of_lt hn), List.take_succ, g, List.filterMap_cons_some g]
      rfl
  have h2 := all L.length (Nat.le_refl _)
  rw [List.take_length] at h2
  have h1 := hp.filterMap fun i => L[i]?
  rw [h2] at h1
  exact h1
variable {a : Addr} {L : List (Addr × List Key)} {es : Array (Int × Value)} {ep : Nat} {t : SetTable}
/-- laid anew, larger -/
theorem relay {o : Obj} (ho : s.heap.get? a = some o) (hex : o.ExactSet) (hd : o.data = .set es ep t) (hrows : es.toList = rw_ P w L) (T0 : TabOk t (L.map fun p => mh P w p.2)) (hfl : L.length ≤ t.mask) (nd : (L.map (·.2)).Nodup)
    (ks : ∀ p ∈ L, IsM P w s.heap p.2 p.1) (ld : w.params.followText "set-order" = true ∨ t.led = true) (few : L.length < 64) {wanted M : Nat} (hw : SetTable.sizeAbove wanted = M + 1) (hM : MaskOk M) (hn : L.length * 5 < M * 3) {Q : Unit → Shared → Prop}
    (hQ : ∀ h' L' es' ep' t', Heap.SameBut a s.heap h' → ST P w h' a L' es' ep' t' → L'.Perm L → Q () { s with heap := h' }) : wpAny (model P w) A (setRelay a wanted) Q E s := by
  have hsl := ent_size hrows
  have hps : t.place.size = es.size := by
    have := T0.sz
    rw [List.length_map] at this
    omega
  have hMl : M ≤ 127 := by rcases hM with e | e | e <;> omega
  obtain ⟨t', ord, e, hp, T, em, el, _, ed⟩ := relaid_ok t (hs := es.map (·.1)) (wanted := wanted) (by omega) hM (by rw [Array.size_map, hsl]; omega)
  rw [Array.size_map, hsl] at hp
  obtain ⟨L2, r1, r2, r3⟩ := reorder L es ord hrows hp
  rw [← r3] at T
  have hs2 : (ord.filterMap (es[·]?)).size = es.size := by rw [ent_size r1, r2.length_eq, hsl]
  rw [setRelay_eq]
  refine wpAny_bind (wpAny_setState_of ho hd (fits_of hrows hps T0.dm hfl) ?_); dsimp only
  refine wp_if_neg (by rw [sizeLine_eq]; omega) ?_
  try refine wpAny_bind (wpAny_pure ?_)
  rw [e]; dsimp only
  refine wpAny_bind (wp_if_neg (by rw [hs2]; simp) ?_)
  try refine wpAny_bind (wpAny_pure ?_)
  refine wpAny_pure ?_
  dsimp only
  refine wpAny_storeSet_of ho hd ?_ (by rw [hs2, hsl, sizeLine_eq]; omega)
  have sb : Heap.SameBut a s.heap (s.heap.update a (Obj.putSet (ord.filterMap (es[·]?)) t')) := Heap.SameBut.update ..
  exact hQ _ L2 _ (ep + 1) t' sb ⟨⟨_, store_at ho hd, ⟨hex.1, hex.2.1, hex.2.2⟩, rfl⟩, r1, T, (r2.map (·.2)).nodup_iff.mpr nd, fun p hpm => (ks p (r2.mem_iff.mp hpm)).apart ho hd sb, by rw [el]; exact ld, by rw [r2.length_eq, em]; exact hn, by rw [r2.length_eq]; exact few⟩ r2
/-- one put in -/
theorem put1 (R : ST P w s.heap a L es ep t) {x : Addr} {k : List Key} (hx : IsM P w s.heap k x) (hu : A.units < cLine) (hfew : L.length + 1 < 64) {Q : Bool → Shared → Prop}
    (hQ : ∀ b h' L' es' ep' t', Heap.SameBut a s.heap h' → ST P w h' a L' es' ep' t' → (k ∈ L.map (·.2) → L' = L) → (k ∉ L.map (·.2) → L'.Perm ((x, k) :: L)) → Q b { s with heap := h' }) : wpAny (model P w) A (setAddHashed a (.ref x) (mh P w k)) Q E s := by
  obtain ⟨o, ho, hex, hd⟩ := R.obj
  have hsl := ent_size R.ent
  unfold setAddHashed
  refine wpAny_holding ?_
  rw [show (100000 : Nat) = 99999 + 1 from rfl, setAddHashedIn_succ]
  refine wpAny_bind (wpAny_setState_of ho hd R.fit ?_); dsimp only
  refine wp_if_neg (by simp [byScan, Value.scannable]) ?_
  try refine wpAny_bind (wpAny_pure ?_)
  refine wpAny_bind (seek0 R hx hu (fun hm => ?_) fun N hm hN hb => ?_)
  · exact wpAny_pure (hQ false s.heap L es ep t (Heap.SameBut.refl a s.heap) R (fun _ => rfl) fun z => absurd hm z)
  dsimp only
  refine wpAny_bind (wpAny_setState_of ho hd R.fit ?_); dsimp only
  obtain ⟨q1, q2, q3, q4, q5, q6, q7, q8, q9⟩ := R.ok.put hN hb
  generalize t.put (way t.mask (mh P w k) N) = pt at q1 q3 q4 q5 q6 q7 q8 q9 ⊢
  obtain ⟨t1, p⟩ := pt
  dsimp only at q1 q3 q4 q5 q6 q7 q8 q9 ⊢
  have hin : (SetTable.insertAt es p (mh P w k, Value.ref x)).toList = rw_ P w (L.take p ++ (x, k) :: L.drop p) := by
    show _ = List.map _ _
    rw [SetTable.toList_insertAt, R.ent, List.map_append, List.map_cons, List.map_take, List.map_drop]
  rw [← q1] at q2 q3
  have pm : (L.take p ++ (x, k) :: L.drop p).Perm ((x, k) :: L) := put_perm L p (x, k)
  have hhs : (L.take p ++ (x, k) :: L.drop p).map (fun p => mh P w p.2) = (L.map fun p => mh P w p.2).take p ++ mh P w k :: (L.map fun p => mh P w p.2).drop p := by
    rw [List.map_append, List.map_cons, List.map_take, List.map_drop]
  rw [← hhs] at q3
  generalize SetTable.insertAt es p (mh P w k, Value.ref x) = es1 at hin ⊢
  generalize L.take p ++ (x, k) :: L.drop p = L1 at pm q3 hin
  have hlen : L1.length = L.length + 1 := pm.length_eq
  have hes : es1.size = L.length + 1 := (ent_size hin).trans hlen
  have nd1 : (L1.map (·.2)).Nodup := (pm.map (·.2)).nodup_iff.mpr (List.nodup_cons.mpr ⟨hm, R.dis⟩)
  have rest : ∀ b : Bool, wpAny (model P w) A (do
      storeSet a es1 (if b then t1 else { t1 with plain := false })
      if !false && (if b then t1 else { t1 with plain := false }).tooFull then setRelay a (SetTable.grown (es.size + 1))
      return true) Q E s := by
    intro b
    have al := alike_of t1 b
    generalize hu2 : (if b = true then t1 else { t1 with plain := false }) = t2 at al ⊢
    have T2 := al.tab q3
    have fill2 : t2.fill = L.length + 1 := by
      have := q9
      rw [List.length_map] at this
      unfold SetTable.fill at this ⊢
      rw [al.pl, al.du]
      exact this
    refine wpAny_bind (wpAny_storeSet_of ho hd ?_ (by rw [hes, sizeLine_eq]; omega))
    have sb : Heap.SameBut a s.heap (s.heap.update a (Obj.putSet es1 t2)) := Heap.SameBut.update ..
    have ho1 := store_at (es' := es1) (t' := t2) ho hd
    generalize s.heap.update a (Obj.putSet es1 t2) = h1 at sb ho1 ⊢
    have ks1 : ∀ p ∈ L1, IsM P w h1 p.2 p.1 := fun p hp => (List.mem_cons.mp (pm.mem_iff.mp hp)).elim (fun e => by rw [e]; exact hx.apart ho hd sb) fun hp => (R.keys p hp).apart ho hd sb
    have ld1 : w.params.followText "set-order" = true ∨ t2.led = true := by rw [al.ld, q5]; exact R.ld
    have mk2 : t2.mask = t.mask := al.ms.trans q4
    have hroom := R.roomy
    have hmok := R.ok.mok
    by_cases hf : t2.tooFull = true
    · have full : (L.length + 1) * 5 ≥ t.mask * 3 := by
        unfold SetTable.tooFull at hf
        rw [decide_eq_true_eq, fill2, mk2] at hf
        exact hf
      rw [hsl]
      have go : ∀ M, SetTable.sizeAbove (SetTable.grown (L.length + 1)) = M + 1 → MaskOk M → (L.length + 1) * 5 < M * 3 → wpAny (model P w) A (setRelay a (SetTable.grown (L.length + 1))) (fun _ s' => wpAny (model P w) A (pure true) Q E s') E { s with heap := h1 } := fun M g1 g2 g3 =>
        relay (s := { s with heap := h1 }) ho1 ⟨hex.1, hex.2.1, hex.2.2⟩ rfl hin T2 (by rw [hlen, mk2]; omega) nd1 ks1 ld1 (by omega) g1 g2 (by omega) fun h2 L2 es2 ep2 t3 sb2 R2 pm2 => wpAny_pure (hQ true h2 L2 es2 ep2 t3 (sb.trans sb2) R2 (fun z => absurd z hm) fun _ => pm2.trans pm)
      have fin : wpAny (model P w) A (setRelay a (SetTable.grown (L.length + 1))) (fun _ s' => wpAny (model P w) A (pure true) Q E s') E { s with heap := h1 } := by
        rcases hmok with e | e | e
        · have e2 : L.length = 4 := by rw [e] at full hroom; omega
          exact go 31 (by rw [e2, size_20]) (.inr (.inl rfl)) (by omega)
        · have e2 : L.length = 18 := by rw [e] at full hroom; omega
          exact go 127 (by rw [e2, size_76]) (.inr (.inr rfl)) (by omega)
        · exfalso; rw [e] at full; omega
      first
        | exact wpAny_bind (wp_if_pos (by simp [hf]) fin)
        | exact wp_if_pos (by simp [hf]) (wpAny_bind fin)
    · have nf : L1.length * 5 < t2.mask * 3 := by
        unfold SetTable.tooFull at hf
        rw [decide_eq_true_eq, fill2] at hf
        omega
      have fin : wpAny (model P w) A (pure true) Q E { s with heap := h1 } := wpAny_pure (hQ true h1 L1 es1 (ep + 1) t2 sb ⟨⟨_, ho1, ⟨hex.1, hex.2.1, hex.2.2⟩, rfl⟩, hin, T2, nd1, ks1, ld1, nf, by omega⟩ (fun z => absurd z hm) fun _ => pm)
      first
        | exact wp_if_neg (by simp [hf]) fin
        | exact wpAny_bind (wp_if_neg (by simp [hf]) (wpAny_pure fin))
  by_cases hp1 : t1.plain = true
  · first
      | (refine wpAny_bind (wp_if_pos hp1 (byv_tup hx fun y => ?_)); exact rest y)
      | (refine wp_if_pos hp1 (wpAny_bind (byv_tup hx fun y => ?_)); exact rest y)
  · first
      | (refine wpAny_bind (wp_if_neg hp1 (wpAny_pure ?_)); exact rest true)
      | (refine wp_if_neg hp1 (wpAny_bind (wpAny_pure ?_)); exact rest true)
end
end DL.SG
end

section
set_option maxRecDepth 100000
/-! DS3: set(list), set(tuple). Ours. -/
namespace DL.SG
open PySem PySem.Spec PyProof.Rows L2
abbrev bare (w : World) : Obj := { cls := .type "set", dict := none, data := .set #[] 0 (.fresh 0 0 (!w.params.followText "set-order")) }
/-- what a loop of adds keeps: J i behind i items -/
structure Fill (P : Program) (w : World) (S : Addr) (h0 : Heap) (items : Array Value) (J : Nat → Heap → Prop) : Prop where
  keep : ∀ i h h', J i h → (∀ b o, (b = S ∨ ∃ u, h0.get? b = some u) → h.get? b = some o → h'.get? b = some o) → J i h'
  add : ∀ (A : Around) (E : Value → Shared → Prop) (s : Shared) (Q : Bool → Shared → Prop) (i : Nat) (v : Value), A.units < cLine → items[i]? = some v → J i s.heap → (∀ b o, h0.get? b = some o → s.heap.get? b = some o) →
    (∀ b h' tk, Heap.SameBut S s.heap h' → s.toks ≤ tk → J (i + 1) h' → Q b { s with heap := h', toks := tk }) → wpAny (model P w) A (setAdd S v) Q E s
section
variable {P : Program} {w : World} {A : Around} {E : Value → Shared → Prop} {s : Shared}
theorem fill_loop {I : Addr} {fp wr : List Addr} {G : Array GenState → Array GenState → Prop} {n : Nat} {Pv : Nat → Value → Prop} {St : Nat → Shared → Prop} {R : Result → Shared → Prop} (W : WalksS P w A.in1 I fp wr G n Pv St) (S : Addr) (hSf : S ∉ fp) {items : Array Value} (hn : n = items.size)
    (hval : ∀ i v, Pv i v → items[i]? = some v) {h0 : Heap} {J : Nat → Heap → Prop} (F0 : Fill P w S h0 items J) (hS0 : h0.get? S = none) (hw0 : ∀ b ∈ wr, h0.get? b = none) (hu : A.in1.units < cLine) :
    ∀ (k i : Nat) (s : Shared), n - i = k → i ≤ n → St i s → (∀ b o, h0.get? b = some o → s.heap.get? b = some o) → J i s.heap →
      (∀ s', Moved (S :: wr) G s s' → J n s'.heap → (∀ b o, h0.get? b = some o → s'.heap.get? b = some o) → R (.ok (.ret .none)) s') → codeAny (model P w) A (.builtin "set.update.loop" ⟨[.ref S, .ref I], []⟩) R s := by
  have nS : S ∉ wr := fun h => hSf (W.sub _ h)
  have up : ∀ b ∈ wr, b ∈ S :: wr := fun b hb => List.mem_cons_of_mem _ hb
  have nw : ∀ b, (b = S ∨ ∃ u, h0.get? b = some u) → b ∉ wr := fun b hb hm => by
    rcases hb with rfl | ⟨u, hu⟩
    · exact nS hm
    · rw [hw0 b hm] at hu; cases hu
  have kp : ∀ {u u' : Shared}, Moved wr G u u' → (∀ b o, h0.get? b = some o → u.heap.get? b = some o) → ∀ b o, h0.get? b = some o → u'.heap.get? b = some o := fun hm h b o e => hm.heap b o (nw b (.inr ⟨o, e⟩)) (h b o e)
  intro k
  induction k with
  | zero =>
    intro i s hk hi hst hkp hJ hR
    have e : i = n := by omega
    subst e
    refine codeAny_builtin F.entry_set_update_loop ?_
    rw [Around.under_plainId F.plain_set_update_loop _]
    show wpAny _ A.in1 (pyNext (.ref I) >>= _) _ _ s
    refine wpAny_bind (W.done s _ _ hst fun s' hm => ?_)
    show wpAny _ A.in1 (ret Value.none) _ _ s'
    exact wpAny_pure (hR s' (hm.mono up) (F0.keep _ _ _ hJ fun b o hb => hm.heap b o (nw b hb)) (kp hm hkp))
  | succ k ih =>
    intro i s hk hi hst hkp hJ hR
    have lt : i < n := by omega
    refine codeAny_builtin F.entry_set_update_loop ?_
    rw [Around.under_plainId F.plain_set_update_loop _]
    show wpAny _ A.in1 (pyNext (.ref I) >>= _) _ _ s
    refine wpAny_bind (W.item i s _ _ lt hst fun v s' hP hst' hm => ?_)
    show wpAny _ A.in1 (holding [v] (setAdd S v) >>= _) _ _ s'
    refine wpAny_bind (wpAny_holding (F0.add _ _ _ _ i v hu (hval i v hP) (F0.keep _ _ _ hJ fun b o hb => hm.heap b o (nw b hb)) (kp hm hkp) fun b h' tk sb ht hJ' => ?_))
    have keep2 : ∀ c o, c ≠ S → s'.heap.get? c = some o → h'.get? c = some o := fun c o hc e => (sb.2 c hc).trans e
    refine wpAny_pure ⟨plainId_quiet F.plain_set_update_loop _, ih (i + 1) _ (by omega) lt (W.frame _ s' _ _ hst' ht fun b hb o e => keep2 b o (fun z => hSf (z ▸ hb)) e) (fun b o e => keep2 b o (fun z => by rw [z, hS0] at e; cases e) (kp hm hkp b o e)) hJ' fun s'' hm2 hJ2 hk2 => ?_⟩
    exact hR s'' (Moved.trans W.gtrans ((hm.mono up).then_heap ht fun b o hb e => keep2 b o (fun z => hb (z ▸ List.mem_cons_self)) e) hm2) hJ2 hk2
set_option maxHeartbeats 3200000 in
theorem call_set {T : String} {l : Addr} {ol : Obj} {items : Array Value} {nl : Nat} {J : Nat → Heap → Prop} {Q : Value → Shared → Prop} (hh : A.handled = none) (hT : T = "list" ∨ T = "tuple") (hol : s.heap.get? l = some ol) (hcl : ol.cls = .type T) (hdl : ol.data = .seq items nl)
    (hu : A.units + 3 < cLine) (F0 : Fill P w s.heap.objs.size s.heap items J) (hJ0 : ∀ h, h.get? s.heap.objs.size = some (bare w) → J 0 h)
    (h : ∀ (h' : Heap) (tk : Nat), J items.size h' → (∀ b o, s.heap.get? b = some o → h'.get? b = some o) → Q (.ref s.heap.objs.size) { s with heap := h', toks := tk }) : wpAny (model P w) A (call (.type "set") [.ref l]) Q E s := by
  obtain ⟨ocls, odict, odata, oslots⟩ := ol
  simp only at hcl hdl
  subst hcl hdl
  have lS : l < s.heap.objs.size := Heap.lt_size hol
  obtain ⟨c, tl, hmro⟩ := F.called_set.mro
  have hmade := F.called_set.made
  have hsub := F.called_set.sub
  have old : ∀ b o, s.heap.get? b = some o → (s.heap.push (bare w)).get? b = some o := fun b o e => Heap.get?_push_of_some _ e
  have hS : (s.heap.push (bare w)).get? s.heap.objs.size = some (bare w) := Heap.get?_push_size _ rfl
  have hz1 : (s.heap.push (bare w)).objs.size = s.heap.objs.size + 1 := Heap.size_push ..
  have gone : ∀ b, s.heap.objs.size ≤ b → s.heap.get? b = none := fun b hb => by
    cases q : s.heap.get? b with
    | none => rfl
    | some o => exact absurd (Nat.lt_of_lt_of_le (Heap.lt_size q) hb) (Nat.lt_irrefl _)
  have hne : l ≠ (s.heap.push (bare w)).objs.size := by rw [hz1]; exact Nat.ne_of_lt (Nat.lt_succ_of_lt lS)
  have nSf : s.heap.objs.size ∉ [(s.heap.push (bare w)).objs.size, l] := by
    rw [hz1]
    simp only [List.mem_cons, List.mem_singleton, List.not_mem_nil, or_false, not_or]
    exact ⟨Nat.ne_of_lt (Nat.lt_succ_self _), Nat.ne_of_gt lS⟩
  have hh3 : A.in1.in1.in1.handled = none := by simp [hh]
  refine wpAny_call (codeAny_of_tree ?_)
  show wpAny _ _ (callAny (.type "set") _) _ _ _
  refine wpAny_pure ⟨Code.quiet_builtin _ (by decide +kernel), codeAny_builtin F.entry_type_call ?_⟩
  rw [Around.under_plain (weight_type_call_type "set" [.ref l] []) rfl]
  have h1 := F.called_set.notType
  have h2 := F.called_set.canCreate
  have hct := F.typeCall_set_1 (.ref l)
  repeat (any_goals (first | assumption | wp_step))
  refine codeAny_mono (code_set_led1 (.ref l) (E := E) (Q₁ := fun u s₁ => u = .ref s.heap.objs.size ∧ s₁ = { s with heap := s.heap.push (bare w) }) ⟨rfl, rfl⟩) fun r s₁ hr => ?_
  cases r with
  | error e => exact hr
  | ok fl =>
    cases fl with
    | ret u =>
      obtain ⟨rfl, rfl⟩ := hr
      have hTS : Shared.TypeIs { s with heap := s.heap.push (bare w) } (.ref s.heap.objs.size) "set" := ⟨_, hS, rfl⟩
      have hli := F.called_set.init.lookup
      have hbi := F.called_set.init.bind (.ref s.heap.objs.size)
      repeat (any_goals (first | assumption | wp_step))
      refine codeAny_mono (codeAny_call_builtin (R := wants (fun r s₂ => r = .none ∧ ∃ h' tk, s₂ = { s with heap := h', toks := tk } ∧ J items.size h' ∧ (∀ b o, s.heap.get? b = some o → h'.get? b = some o)) E) F.called_set.init.plain F.entry_set_init (check_set_init_1 hTS ?_)) fun r₂ s₂ hr₂ => ?_
      · have done : ∀ (G : Array GenState → Array GenState → Prop) (wr : List Addr) (x : Obj) (s' : Shared), (∀ a b, G a b → b = a) → Moved wr G { s with heap := (s.heap.push (bare w)).push x } s' → J items.size s'.heap → (∀ b o, s.heap.get? b = some o → s'.heap.get? b = some o) → ∃ h' tk, s' = { s with heap := h', toks := tk } ∧ J items.size h' ∧ (∀ b o, s.heap.get? b = some o → h'.get? b = some o) := by
          intro G wr x s' hG hm hJ hk
          obtain ⟨h', g2, d', tk', os'⟩ := s'
          obtain rfl : g2 = s.gens := hG _ _ hm.gens
          obtain rfl : d' = s.drawn := hm.drawn
          obtain rfl : os' = s.os := hm.os
          exact ⟨h', tk', rfl, hJ, hk⟩
        rcases hT with rfl | rfl
        · have hsls := F.sub_list_set
          have hslf := F.sub_list_frozenset
          have hnd : (Value.type "list" == Value.type "dict") = false := by decide
          have hol1 := old l _ hol
          have hl1 : (s.heap.push (bare w)).IsList l items := ⟨_, hol1, rfl, nl, rfl⟩
          unfold Builtin.«set.__init__» noKeywords Builtin.Frozenset.updateFrom
          generalize hPI : pyIter = PI
          wp_walk
          subst hPI
          refine wpAny_pyIter_list hl1 (wpAny_bind (wpAny_runValue ?_))
          refine fill_loop ((Walks.list hh3 _ l hne items).toS) s.heap.objs.size nSf rfl (fun i v hv => hv) F0 (gone _ (Nat.le_refl _)) (fun b hb => gone b (by rw [List.mem_singleton.mp hb, hz1]; omega)) hu (items.size - 0) 0 _ (by omega) (Nat.zero_le _) ⟨⟨_, Heap.get?_push_size _ rfl, rfl, rfl⟩, (hl1.push _)⟩ (fun b o e => Heap.get?_push_of_some _ (old b o e)) ?hJ0 ?hR
          case hJ0 => exact hJ0 _ (Heap.get?_push_of_some _ hS)
          case hR =>
            intro s' hm hJ hk
            exact wpAny_pure (wpAny_pure ⟨rfl, done _ _ _ s' (fun a b e => e) hm hJ hk⟩)
        · have hsls := F.sub_tuple_set
          have hslf := F.sub_tuple_frozenset
          have hnd : (Value.type "tuple" == Value.type "dict") = false := by decide
          have hol1 := old l _ hol
          have hl1 : (s.heap.push (bare w)).IsTuple l items := ⟨_, hol1, rfl, nl, rfl⟩
          unfold Builtin.«set.__init__» noKeywords Builtin.Frozenset.updateFrom
          generalize hPI : pyIter = PI
          wp_walk
          subst hPI
          refine wpAny_pyIter_tuple hl1 (wpAny_bind (wpAny_runValue ?_))
          refine fill_loop ((Walks.tuple hh3 _ l hne items).toS) s.heap.objs.size nSf rfl (fun i v hv => hv) F0 (gone _ (Nat.le_refl _)) (fun b hb => gone b (by rw [List.mem_singleton.mp hb, hz1]; omega)) hu (items.size - 0) 0 _ (by omega) (Nat.zero_le _) ⟨⟨_, Heap.get?_push_size _ rfl, rfl, rfl⟩, (hl1.push _)⟩ (fun b o e => Heap.get?_push_of_some _ (old b o e)) ?hJ0 ?hR
          case hJ0 => exact hJ0 _ (Heap.get?_push_of_some _ hS)
          case hR =>
            intro s' hm hJ hk
            exact wpAny_pure (wpAny_pure ⟨rfl, done _ _ _ s' (fun a b e => e) hm hJ hk⟩)
      · cases r₂ with
        | error e => exact hr₂
        | ok fl₂ =>
          cases fl₂ with
          | ret r =>
            obtain ⟨rfl, h', tk, rfl, hJ', hk'⟩ := hr₂
            repeat (any_goals (first | assumption | wp_step))
            exact h _ _ hJ' hk'
          | _ => exact hr₂.elim
    | _ => exact hr.elim
end
end DL.SG
end

section
set_option maxRecDepth 100000
/-! DL1: values, memory, own syntax tree and its meaning. Ours. -/
namespace DL
open PySem

/-- a value: data, or a reference to a mutable object -/
inductive D where
  | im (d : PyData)
  | rf (i : Nat)

inductive Ob where
  | lst (xs : List PyData)
  | dct (kvs : List (PyData × PyData))
  /-- a dict that was walked: it stays as it is -/
  | fdct (kvs : List (PyData × PyData))
  /-- a list that stays as it is from now on -/
  | flst (xs : List PyData)
  /-- a dict by flat tuples -/
  | tdc (kvs : List (PyData × PyData))
  /-- a list of values and of lists that may change; it stays as it is -/
  | nl (ds : List D)
  /-- a dict of such; it stays as it is -/
  | nd (kvs : List (PyData × D))
  /-- the same, walked -/
  | fnd (kvs : List (PyData × D))

abbrev Mem := List Ob
inductive Res (α : Type) where
  | ok (a : α) (S : Mem)
  | err (c : String) (S : Mem)
  | bad
abbrev M (α : Type) := Mem → Res α
def M.bind {α β : Type} (m : M α) (f : α → M β) : M β := fun S => match m S with
  | .ok a S' => f a S'
  | .err c S' => .err c S'
  | .bad => .bad
abbrev Env := List (Option D)
def getV (i : Nat) (env : Env) : M D := fun S => match env[i]? with
  | some (some d) => .ok d S
  | _ => .bad

/-! ### keys -/
def kP : L2.Key → PyData
  | .inl i => .int i
  | .inr x => .str x
/-- a flat tuple -/
def encK (k : List L2.Key) : PyData := .tuple (k.map kP)
def kD : PyData → Option L2.Key
  | .int i => some (.inl i)
  | .str x => some (.inr x)
  | _ => none
def kDs : List PyData → Option (List L2.Key)
  | [] => some []
  | d :: r => match kD d, kDs r with
    | some k, some ks => some (k :: ks)
    | _, _ => none
def ktDs : List PyData → Option (List (List L2.Key))
  | [] => some []
  | .tuple xs :: r => match kDs xs, ktDs r with
    | some k, some ks => some (k :: ks)
    | _, _ => none
  | _ :: _ => none
/-- the distinct ones -/
def ddK : List (List L2.Key) → List (List L2.Key)
  | [] => []
  | x :: r => if (r.any fun y => decide (y = x)) = true then ddK r else x :: ddK r
/-- a flat tuple as a key -/
def ktup : PyData → Option (List L2.Key)
  | .tuple xs => kDs xs
  | _ => none
def isKy : PyData → Bool
  | .int _ => true
  | .str _ => true
  | _ => false
/-- a dict's value at a key; the dict with a value put there -/
def lkP (k : PyData) : List (PyData × PyData) → Option PyData
  | [] => none
  | e :: r => if PyData.eqv e.1 k = true then some e.2 else lkP k r
def putP (k v : PyData) (kvs : List (PyData × PyData)) : List (PyData × PyData) :=
  if (kvs.any fun e => PyData.eqv e.1 k) = true then kvs.map (fun e => if PyData.eqv e.1 k = true then (e.1, v) else e) else kvs ++ [(k, v)]
def mergeP : List (PyData × PyData) → List (PyData × PyData) → List (PyData × PyData)
  | m, [] => m
  | m, e :: r => mergeP (putP e.1 e.2 m) r
def allIm : List D → Option (List PyData)
  | [] => some []
  | .im d :: r => (allIm r).map (d :: ·)
  | .rf _ :: _ => none
/-- what a value reads as now -/
def imOf (S : Mem) : D → Option PyData
  | .im d => some d
  | .rf i => match S[i]? with
    | some (.lst xs) => some (.list xs)
    | some (.flst xs) => some (.list xs)
    | _ => none
def seqOf (S : Mem) (d : D) : Option (List PyData) := match imOf S d with
  | some (.list xs) => some xs
  | some (.tuple xs) => some xs
  | _ => none
def dctOf (S : Mem) : D → Option (List (PyData × PyData))
  | .im (.dict kvs) => some kvs
  | .im _ => none
  | .rf i => match S[i]? with
    | some (.dct kvs) => some kvs
    | some (.fdct kvs) => some kvs
    | _ => none

def tdOf (S : Mem) : D → Option (List (PyData × PyData))
  | .im _ => none
  | .rf i => match S[i]? with
    | some (.tdc kvs) => some kvs
    | _ => none

/-! ### operators -/
def addD (a b : D) : M D := fun S => match imOf S a, imOf S b with
  | some (.int i), some (.int j) => .ok (.im (.int (i + j))) S
  | some (.str x), some (.str y) => if x.length + y.length ≤ sizeLine then .ok (.im (.str (x ++ y))) S else .bad
  | some (.tuple xs), some (.tuple ys) => if xs.length + ys.length ≤ sizeLine then .ok (.im (.tuple (xs ++ ys))) S else .bad
  | some (.list xs), some (.list ys) => if xs.length + ys.length ≤ sizeLine then .ok (.im (.list (xs ++ ys))) S else .bad
  | _, _ => .bad
/-- a list and a list; what comes of it may change -/
def maddD (a b : D) : M D := fun S => match imOf S a, imOf S b with
  | some (.list xs), some (.list ys) => if xs.length + ys.length ≤ sizeLine then .ok (.rf S.length) (S ++ [.lst (xs ++ ys)]) else .bad
  | _, _ => .bad
def subD (a b : D) : M D := fun S => match imOf S a, imOf S b with
  | some (.int i), some (.int j) => .ok (.im (.int (i - j))) S
  | _, _ => .bad
def mulD (a b : D) : M D := fun S => match imOf S a, imOf S b with
  | some (.int i), some (.int j) => if (-(2 ^ 64) < i ∧ i < 2 ^ 64) ∨ (-(2 ^ 64) < j ∧ j < 2 ^ 64) then .ok (.im (.int (i * j))) S else .bad
  | some (.tuple xs), some (.int j) => if -1000 ≤ j ∧ j ≤ 1000 ∧ xs.length ≤ 1000 then .ok (.im (.tuple (List.replicate j.toNat xs).flatten)) S else .bad
  | _, _ => .bad
def repD (xs : List PyData) (b : D) : M D := fun S => match b with
  | .im (.int j) => if j.natAbs < 2 ^ 62 ∧ xs.length * j.toNat ≤ sizeLine then .ok (.rf S.length) (S ++ [.lst (List.replicate j.toNat xs).flatten]) else .bad
  | _ => .bad
def fdivD (a b : D) : M D := fun S => match imOf S a, imOf S b with
  | some (.int i), some (.int j) => if j ≠ 0 ∧ j.natAbs < 1073741824 then .ok (.im (.int (i.fdiv j))) S else .bad
  | _, _ => .bad
def modD (a b : D) : M D := fun S => match imOf S a, imOf S b with
  | some (.int i), some (.int j) => if j ≠ 0 then .ok (.im (.int (i.fmod j))) S else .bad
  | _, _ => .bad
def powD (a b : D) : M D := fun S => match imOf S a, imOf S b with
  | some (.int i), some (.int j) => if 0 ≤ j ∧ j ≤ 1000000 ∧ i.natAbs < 2 ^ 64 then .ok (.im (.int (i ^ j.toNat))) S else .bad
  | _, _ => .bad
def binD : Operator → D → D → M D
  | .Add => addD
  | .Sub => subD
  | .Mult => mulD
  | .FloorDiv => fdivD
  | .Mod => modD
  | .Pow => powD
  | _ => fun _ _ _ => .bad
def negD (a : D) : M D := fun S => match imOf S a with
  | some (.int i) => .ok (.im (.int (-i))) S
  | _ => .bad
def notD (a : D) : M D := fun S => match a with
  | .im (.bool b) => .ok (.im (.bool (!b))) S
  | _ => .bad

/-! ### comparisons -/
def eqP (S : Mem) (a b : D) : Option Bool := match imOf S a, imOf S b with
  | some (.str x), some (.str y) => some (x == y)
  | some p, some q => if SeqAt.shaped p = true ∧ SeqAt.shaped q = true then some (PyData.eqv p q) else none
  | _, _ => none
/-- == where data hold dicts: a tuple and (), a list, tuple or dict and an int -/
def eqF (S : Mem) (a b : D) : Option Bool := match imOf S a, imOf S b with
  | some (.tuple xs), some (.tuple []) => some xs.isEmpty
  | some (.list _), some (.int _) => some false
  | some (.tuple _), some (.int _) => some false
  | some (.dict _), some (.int _) => some false
  | _, _ => none
def eqN (S : Mem) (a b : D) : Option Bool := match eqP S a b with
  | some r => some r
  | none => eqF S a b
/-- < of data -/
def ltP (S : Mem) (a b : D) : Option Bool := match imOf S a, imOf S b with
  | some (.int i), some (.int j) => some (decide (i < j))
  | some (.tuple xs), some (.tuple ys) => if PySem.W.alikeAll xs ys = true ∧ SeqAt.shaped (.tuple xs) = true ∧ SeqAt.shaped (.tuple ys) = true then some (PySem.W.dataLt (.tuple xs) (.tuple ys)) else none
  | _, _ => none
def leP (S : Mem) (a b : D) : Option Bool := match imOf S a, imOf S b with
  | some (.int i), some (.int j) => some (decide (i ≤ j))
  | _, _ => none
def inP (S : Mem) (a b : D) : Option Bool := match imOf S a, imOf S b with
  | some p, some (.list xs) => if SeqAt.shaped p = true ∧ SeqAt.shaped (.list xs) = true then some (xs.any fun z => PyData.eqv z p) else none
  | some p, some (.tuple xs) => if SeqAt.shaped p = true ∧ SeqAt.shaped (.tuple xs) = true then some (xs.any fun z => PyData.eqv z p) else none
  | some p, _ => match dctOf S b with
    | some kvs => if isKy p = true then some (lkP p kvs).isSome else none
    | none => none
  | none, _ => none
def isNP (a b : D) : Option Bool := match a, b with
  | .im .none, .im .none => some true
  | .im _, .im .none => some false
  | .im (.bool a), .im (.bool b) => some (decide (a = b))
  | _, _ => none
/-- != ; of any list and [] too -/
def eqM (S : Mem) (a b : D) : Option Bool := match eqP S a b with
  | some r => some r
  | none => match imOf S a, imOf S b with
    | some (.list xs), some (.list []) => some xs.isEmpty
    | _, _ => none
def cmpP (S : Mem) : CmpOp → D → D → Option Bool
  | .Eq, a, b => eqN S a b
  | .NotEq, a, b => (eqM S a b).map (!·)
  | .Lt, a, b => ltP S a b
  | .Gt, a, b => match imOf S a, imOf S b with
    | some (.int i), some (.int j) => some (decide (j < i))
    | _, _ => none
  | .LtE, a, b => leP S a b
  | .GtE, a, b => match imOf S a, imOf S b with
    | some (.int i), some (.int j) => some (decide (j ≤ i))
    | _, _ => none
  | .In, a, b => inP S a b
  | .NotIn, a, b => (inP S a b).map (!·)
  | .Is, a, b => isNP a b
  | .IsNot, a, b => (isNP a b).map (!·)
def ofB (o : Option Bool) : M D := fun S => match o with
  | some b => .ok (.im (.bool b)) S
  | none => .bad
def cmpD (op : CmpOp) (a b : D) : M D := fun S => ofB (cmpP S op a b) S

/-! ### subscripts -/
def ixA {α : Type} (xs : List α) (i : Int) : Option α := if 0 ≤ i then xs[i.toNat]? else if -(xs.length : Int) ≤ i then xs[(i + xs.length).toNat]? else none
def idxD (a b : D) : M D := fun S => match seqOf S a, b with
  | some xs, .im (.int i) => match ixA xs i with
    | some x => .ok (.im x) S
    | none => .bad
  | none, .im k => match dctOf S a with
    | some kvs => if isKy k = true then (match lkP k kvs with
      | some v => .ok (.im v) S
      | none => .bad) else .bad
    | none => match tdOf S a, ktup k with
      | some kvs, some _ => match lkP k kvs with
        | some v => .ok (.im v) S
        | none => .bad
      | _, _ => .bad
  | _, _ => .bad
def cutL (xs : List PyData) (lo hi : Option Int) : List PyData := (xs.drop (HT.sIx xs.length 0 lo)).take (HT.sIx xs.length xs.length hi - HT.sIx xs.length 0 lo)
def endOf : List D → Option (Option Int)
  | [] => some none
  | [.im (.int i)] => some (some i)
  | _ => none
def endK (ds : List D) : M (Option Int) := fun S => match endOf ds with
  | some o => .ok o S
  | none => .bad
def sliceD (a : D) (lo hi : Option Int) : M D := fun S => match imOf S a with
  | some (.list xs) => .ok (.im (.list (cutL xs lo hi))) S
  | some (.tuple xs) => .ok (.im (.tuple (cutL xs lo hi))) S
  | _ => .bad
def revD (a : D) : M D := fun S => match imOf S a with
  | some (.list xs) => .ok (.im (.list xs.reverse)) S
  | some (.tuple xs) => .ok (.im (.tuple xs.reverse)) S
  | _ => .bad

/-! ### built-ins -/
inductive Bi where
  | len | int | min2 | max2 | min1 | max1 | sum | sorted | tuple | list | mlist | all | any | repr | bool | str | dict
def allInts : List PyData → Option (List Int)
  | [] => some []
  | .int i :: r => (allInts r).map (i :: ·)
  | _ :: _ => none
def allBools : List PyData → Option (List Bool)
  | [] => some []
  | .bool b :: r => (allBools r).map (b :: ·)
  | _ :: _ => none
def minL : Int → List Int → Int
  | m, [] => m
  | m, i :: r => minL (if i < m then i else m) r
def maxL : Int → List Int → Int
  | m, [] => m
  | m, i :: r => maxL (if m < i then i else m) r
/-- the class of data, by name -/
def tyOf : PyData → String
  | .none => "NoneType"
  | .bool _ => "bool"
  | .int _ => "int"
  | .str _ => "str"
  | .list _ => "list"
  | .tuple _ => "tuple"
  | .dict _ => "dict"
def isTy (p : PyData) (t : String) : Bool := tyOf p == t || (tyOf p == "bool" && t == "int")
def sortP (xs : List PyData) : List PyData := xs.mergeSort (fun a b => !PySem.W.dataLt b a)
def canSort (xs : List PyData) : Bool := xs.all (fun a => xs.all fun b => PySem.W.alike a b) && xs.all (fun a => decide (a.depth ≤ 64)) && (xs.all (fun a => match a with | .tuple (_ :: _) => true | _ => false) || xs.all (fun a => match a with | .none => false | .tuple _ => false | _ => true))
def b1 (f : D → M D) : List D → M D
  | [a] => f a
  | _ => fun _ => .bad
def b2 (f : D → D → M D) : List D → M D
  | [a, b] => f a b
  | _ => fun _ => .bad
def lenD (a : D) : M D := fun S => match imOf S a with
  | some (.list xs) => .ok (.im (.int xs.length)) S
  | some (.tuple xs) => .ok (.im (.int xs.length)) S
  | some (.str x) => if x.length ≤ sizeLine then .ok (.im (.int x.length)) S else .bad
  | _ => match dctOf S a with
    | some kvs => .ok (.im (.int kvs.length)) S
    | none => .bad
def intD (a : D) : M D := fun S => match a with
  | .im (.int i) => .ok (.im (.int i)) S
  | .im (.bool b) => .ok (.im (.int (if b then 1 else 0))) S
  | _ => .bad
def boolD (a : D) : M D := fun S => match a with
  | .im (.int i) => .ok (.im (.bool (i != 0))) S
  | .im (.bool b) => .ok (.im (.bool b)) S
  | _ => .bad
def min2D (a b : D) : M D := fun S => match a, b with
  | .im (.int i), .im (.int j) => .ok (.im (.int (if j < i then j else i))) S
  | _, _ => .bad
def max2D (a b : D) : M D := fun S => match a, b with
  | .im (.int i), .im (.int j) => .ok (.im (.int (if j > i then j else i))) S
  | _, _ => .bad
/-- a list of ints -/
def intsOf (S : Mem) (a : D) : Option (List Int) := match imOf S a with
  | some (.list xs) => allInts xs
  | _ => none
def boolsOf (S : Mem) (a : D) : Option (List Bool) := match imOf S a with
  | some (.list xs) => allBools xs
  | _ => none
def min1D (a : D) : M D := fun S => match intsOf S a with
  | some (i :: r) => .ok (.im (.int (minL i r))) S
  | _ => .bad
/-- a tuple of ints -/
def tintsOf (S : Mem) (a : D) : Option (List Int) := match imOf S a with
  | some (.tuple xs) => allInts xs
  | _ => none
def max1D (a : D) : M D := fun S => match intsOf S a with
  | some (i :: r) => .ok (.im (.int (maxL i r))) S
  | _ => match tintsOf S a with
    | some (i :: r) => if r.length ≤ 1000 then .ok (.im (.int (maxL i r))) S else .bad
    | _ => .bad
def sumD (a : D) : M D := fun S => match intsOf S a with
  | some r => .ok (.im (.int r.sum)) S
  | _ => .bad
def allD (a : D) : M D := fun S => match boolsOf S a with
  | some r => .ok (.im (.bool (r.all id))) S
  | _ => .bad
def anyD (a : D) : M D := fun S => match boolsOf S a with
  | some r => .ok (.im (.bool (r.any id))) S
  | _ => .bad
def tupleD (a : D) : M D := fun S => match seqOf S a with
  | some xs => .ok (.im (.tuple xs)) S
  | none => match tdOf S a with
    | some kvs => .ok (.im (.tuple (kvs.map (·.1)))) S
    | none => .bad
def listD (a : D) : M D := fun S => match seqOf S a with
  | some xs => .ok (.im (.list xs)) S
  | none => match dctOf S a with
    | some kvs => .ok (.im (.list (kvs.map (·.1)))) S
    | none => .bad
def mlistD (a : D) : M D := fun S => match seqOf S a with
  | some xs => .ok (.rf S.length) (S ++ [.lst xs])
  | none => match dctOf S a with
    | some kvs => .ok (.rf S.length) (S ++ [.lst (kvs.map (·.1))])
    | none => .bad
def sortedD (a : D) : M D := fun S => match seqOf S a with
  | some xs => if canSort xs = true then .ok (.im (.list (sortP xs))) S else .bad
  | none => match dctOf S a with
    | some kvs => if canSort (kvs.map (·.1)) = true then .ok (.im (.list (sortP (kvs.map (·.1))))) S else .bad
    | none => match tdOf S a with
      | some kvs => if canSort (kvs.map (·.1)) = true then .ok (.im (.list (sortP (kvs.map (·.1))))) S else .bad
      | none => .bad
/-- the text of str(..) -/
def strP : PyData → Str
  | .str x => x
  | p => p.shown
def strD (a : D) : M D := fun S => match imOf S a with
  | some p => if p.depth ≤ 64 ∧ p.showable = true ∧ p.shown.length ≤ sizeLine then .ok (.im (.str (strP p))) S else .bad
  | none => .bad
/-- pairs of a key and a value -/
def pairs2 : List PyData → Option (List (PyData × PyData))
  | [] => some []
  | .tuple [k, v] :: r => if isKy k = true then (pairs2 r).map ((k, v) :: ·) else none
  | _ :: _ => none
/-- dict(l), l a list of pairs -/
def dictD (a : D) : M D := fun S => match imOf S a with
  | some (.list xs) => match pairs2 xs with
    | some kvs => .ok (.im (.dict (mergeP [] kvs))) S
    | none => .bad
  | _ => .bad
/-- the text of plain data -/
def reprD (a : D) : M D := fun S => match imOf S a with
  | some p => if p.depth ≤ 64 ∧ p.showable = true ∧ p.shown.length ≤ sizeLine then .ok (.im (.str p.shown)) S else .bad
  | none => .bad
def biD : Bi → List D → M D
  | .repr => b1 reprD
  | .len => b1 lenD
  | .int => b1 intD
  | .bool => b1 boolD
  | .str => b1 strD
  | .dict => b1 dictD
  | .min2 => b2 min2D
  | .max2 => b2 max2D
  | .min1 => b1 min1D
  | .max1 => b1 max1D
  | .sum => b1 sumD
  | .all => b1 allD
  | .any => b1 anyD
  | .tuple => b1 tupleD
  | .list => b1 listD
  | .mlist => b1 mlistD
  | .sorted => b1 sortedD

/-! ### methods -/
inductive Mt where
  | append | extend | pop0 | pop1 | index | setdefault | get2
def idxOf (p : PyData) : List PyData → Option Nat
  | [] => none
  | x :: r => if PyData.eqv x p = true then some 0 else (idxOf p r).map (· + 1)
def appendD (x a : D) : M D := fun S => match x, a with
  | .rf i, .im p => match S[i]? with
    | some (.lst xs) => if xs.length < sizeLine then .ok (.im .none) (S.set i (.lst (xs ++ [p]))) else .bad
    | _ => .bad
  | _, _ => .bad
def extendD (x a : D) : M D := fun S => match x with
  | .rf i => match S[i]?, seqOf S a with
    | some (.lst xs), some ys => if xs.length + ys.length ≤ sizeLine then .ok (.im .none) (S.set i (.lst (xs ++ ys))) else .bad
    | _, _ => .bad
  | _ => .bad
def pop0D (x : D) : M D := fun S => match x with
  | .rf i => match S[i]? with
    | some (.lst xs) => match xs[xs.length - 1]? with
      | some y => .ok (.im y) (S.set i (.lst xs.dropLast))
      | none => .bad
    | _ => .bad
  | _ => .bad
def pop1D (x a : D) : M D := fun S => match x, a with
  | .rf i, .im (.int k) => match S[i]? with
    | some (.lst xs) => if 0 ≤ k ∧ k < 2 ^ 63 then (match xs[k.toNat]? with
      | some y => .ok (.im y) (S.set i (.lst (xs.eraseIdx k.toNat)))
      | none => .bad) else .bad
    | _ => .bad
  | _, _ => .bad
def indexD (x a : D) : M D := fun S => match seqOf S x, imOf S a with
  | some xs, some p => if SeqAt.shaped p = true ∧ SeqAt.shaped (.tuple xs) = true then (match idxOf p xs with
    | some k => .ok (.im (.int (k : Int))) S
    | none => .bad) else .bad
  | _, _ => .bad
def setdefaultD (x k v : D) : M D := fun S => match x, k, v with
  | .rf i, .im k, .im v => match S[i]? with
    | some (.dct kvs) => if isKy k = true ∧ kvs.length < sizeLine then (match lkP k kvs with
      | some u => .ok (.im u) S
      | none => .ok (.im v) (S.set i (.dct (putP k v kvs)))) else .bad
    | _ => .bad
  | _, _, _ => .bad
def get2D (x k v : D) : M D := fun S => match dctOf S x, k, v with
  | some kvs, .im k, .im v => if isKy k = true then .ok (.im ((lkP k kvs).getD v)) S else .bad
  | _, _, _ => .bad
def mtD : Mt → D → List D → M D
  | .setdefault, x => b2 (setdefaultD x)
  | .get2, x => b2 (get2D x)
  | .append, x => b1 (appendD x)
  | .extend, x => b1 (extendD x)
  | .pop0, x => fun ds => match ds with
    | [] => pop0D x
    | _ => fun _ => .bad
  | .pop1, x => b1 (pop1D x)
  | .index, x => b1 (indexD x)

/-- what receives a method's call -/
def rcvK (m : Mt) (x : D) : M D := fun S => match m, x with
  | .index, x => match seqOf S x with
    | some _ => .ok x S
    | none => .bad
  | .setdefault, .rf i => match S[i]? with
    | some (.dct _) => .ok (.rf i) S
    | _ => .bad
  | .get2, x => match dctOf S x with
    | some _ => .ok x S
    | none => .bad
  | .append, .rf i => match S[i]? with
    | some (.lst _) => .ok (.rf i) S
    | _ => .bad
  | .extend, .rf i => match S[i]? with
    | some (.lst _) => .ok (.rf i) S
    | _ => .bad
  | .pop0, .rf i => match S[i]? with
    | some (.lst _) => .ok (.rf i) S
    | _ => .bad
  | .pop1, .rf i => match S[i]? with
    | some (.lst _) => .ok (.rf i) S
    | _ => .bad
  | _, _ => .bad

/-! ### the tree -/
inductive Tg where
  | v (i : Nat)
  | t (is : List Nat)
  | e (i : Nat) (is : List Nat)
mutual
inductive Ex where
  | var (i : Nat)
  | con (d : PyData)
  | glb (x : String) (d : PyData)
  | tup (es : Exs)
  | lst (es : Exs)
  | mls (es : Exs)
  | bin (op : Operator) (a b : Ex)
  | neg (a : Ex)
  | nt (a : Ex)
  | cmp (op : CmpOp) (a b : Ex)
  | chn (op op' : CmpOp) (a b c : Ex)
  | bop (isAnd : Bool) (es : Exs)
  | ite (c a b : Ex)
  | idx (a b : Ex)
  | slc (a : Ex) (lo hi : Exs)
  | rev (a : Ex)
  | call (f : String) (es : Exs)
  | bi (b : Bi) (es : Exs)
  | isi (a : Ex) (one : Bool) (ts : List String)
  | rep (es : Exs) (n : Ex)
  | rpi (es : Exs) (n : Ex)
  | mt (m : Mt) (a : Ex) (es : Exs)
  | cmpr (own : List (Str × Nat)) (elt : Ex) (tg : Tg) (it : It) (ifs : Exs)
  | cmr (own : List (Str × Nat)) (elt : Ex) (tg : Tg) (v : Nat) (ifs : Exs)
  | cmd (own : List (Str × Nat)) (elt : Ex) (tg : Tg) (v : Nat) (ifs : Exs)
  | cmm (own : List (Str × Nat)) (elt : Ex) (tg : Tg) (it : It) (ifs : Exs)
  | lsr (tup : Bool) (es : Exs)
  | srs (a : Ex)
  | mnd (a : Ex)
  | mdf (a d : Ex)
  | dic (mu : Bool) (es : Exs)
  | mad (a b : Ex)
  /-- a name's list, that stays as it is from now on -/
  | frv (i : Nat)
  /-- {}, to be a dict by tuples -/
  | tdn
  /-- a list of lists that may change, made by a comprehension -/
  | cml (own : List (Str × Nat)) (elt : Ex) (tg : Tg) (it : It) (ifs : Exs)
  /-- one of such a list -/
  | idn (a b : Ex)
inductive Exs where
  | nil
  | cons (e : Ex) (es : Exs)
inductive It where
  | ex (e : Ex)
  | rng (es : Exs)
  | enm (e : Ex)
  | zp (a b : Ex)
end
mutual
inductive Sm where
  | asg (tg : Tg) (e : Ex)
  | sub (o i e : Ex)
  | asub (o i : Ex) (op : Operator) (e : Ex)
  | aug (i : Nat) (op : Operator) (e : Ex)
  | exp (e : Ex)
  | ret (e : Ex)
  | retn
  | iff (c : Ex) (a b : Sms)
  | for (tg : Tg) (it : It) (body : Sms)
  | forr (tg : Tg) (v : Nat) (body : Sms)
  /-- for i, x in enumerate(a name's list) -/
  | fore (is : List Nat) (v : Nat) (body : Sms)
  /-- name = {}; for tg in it: name[other name] = e -/
  | bld (v : Nat) (tg : Tg) (it : It) (i : Nat) (e : Ex)
  | whl (n : Nat) (c : Ex) (body : Sms)
  | brk
  | cnt
  | pss
  | rse (c : String)
  | try1 (body : Sms) (c : String) (i : Nat) (ts : List String) (t1 t2 : String)
  | try2 (body : Sms) (c : String) (i w : Nat) (ts : List String) (t1 : String)
  | par (i j : Nat) (es : Exs)
inductive Sms where
  | nil
  | cons (s : Sm) (r : Sms)
end

/-! ### the meaning -/
def setAll : Env → List Nat → List PyData → Env
  | env, i :: is, p :: ps => setAll (env.set i (some (.im p))) is ps
  | env, _, _ => env
def asgT : Tg → D → Env → Mem → Option Env
  | .v i, d, env, _ => some (env.set i (some d))
  | .t is, d, env, S => match seqOf S d with
    | some xs => if xs.length = is.length then some (setAll env is xs) else none
    | none => none
  | .e i is, d, env, S => match seqOf S d with
    | some [x, .tuple ys] => if ys.length = is.length then some (setAll env (i :: is) (x :: ys)) else none
    | _ => none
def tupK (ds : List D) : M D := fun S => match allIm ds with
  | some xs => .ok (.im (.tuple xs)) S
  | none => .bad
def lstK (ds : List D) : M D := fun S => match allIm ds with
  | some xs => .ok (.im (.list xs)) S
  | none => .bad
def mlsK (ds : List D) : M D := fun S => match allIm ds with
  | some xs => .ok (.rf S.length) (S ++ [.lst xs])
  | none => .bad
def repK (ds : List D) (k : D) : M D := fun S => match allIm ds with
  | some xs => repD xs k S
  | none => .bad
/-- the same, a list that stays as it is -/
def rpiD (xs : List PyData) (b : D) : M D := fun S => match b with
  | .im (.int j) => if j.natAbs < 2 ^ 62 ∧ xs.length * j.toNat ≤ sizeLine then .ok (.im (.list (List.replicate j.toNat xs).flatten)) S else .bad
  | _ => .bad
def rpiK (ds : List D) (k : D) : M D := fun S => match allIm ds with
  | some xs => rpiD xs k S
  | none => .bad
def isiK (ts : List String) (x : D) : M D := fun S => match imOf S x with
  | some p => .ok (.im (.bool (ts.any (isTy p)))) S
  | none => .bad
def consK (d : D) (ds : List D) : M (List D) := fun S => .ok (d :: ds) S
def nilK : M (List D) := fun S => .ok [] S
def constK (p : PyData) : M D := fun S => .ok (.im p) S
/-- an element of a list that stays as it is -/
def itemK (y : D) : M (Option PyData) := fun S => match y with
  | .im p => .ok (some p) S
  | .rf _ => .bad
def skipK : M (Option PyData) := fun S => .ok none S
def exK (d : D) : M (List D) := fun S => match d with
  | .im (.list xs) => .ok (xs.map .im) S
  | .im (.tuple xs) => .ok (xs.map .im) S
  | .im (.dict kvs) => .ok (kvs.map fun e => .im e.1) S
  | _ => .bad
def tstD : D → M Bool := fun d S => match d with
  | .im (.bool b) => .ok b S
  | _ => .bad
def compL (f : D → M (Option PyData)) : List D → M (List PyData)
  | [] => fun S => .ok [] S
  | d :: r => M.bind (f d) fun o => M.bind (compL f r) fun ys S => .ok (match o with
    | some y => y :: ys
    | none => ys) S
/-- a comprehension; no exception leaves it -/
def cmprK (f : D → M (Option PyData)) (items : List D) : M D := fun S => if items.length ≤ sizeLine then (match compL f items S with
  | .ok ys S' => .ok (.im (.list ys)) S'
  | _ => .bad) else .bad
/-- this list stands as it stood -/
def gOn (i : Nat) (xs : List PyData) : Mem → Prop := fun S => S[i]? = some (.lst xs)
open Classical in
noncomputable def gF (g : Mem → Prop) (f : D → M (Option PyData)) : D → M (Option PyData) := fun d S => if g S then f d S else .bad
def cmF (mu : Bool) (ys : List PyData) : M D := fun S => if mu = true then .ok (.rf S.length) (S ++ [.lst ys]) else .ok (.im (.list ys)) S
open Classical in
/-- a comprehension under a guard; its list may change (mu) -/
noncomputable def cmprG (mu : Bool) (g : Mem → Prop) (f : D → M (Option PyData)) (items : List D) : M D := fun S => if items.length ≤ sizeLine then (match compL (gF g f) items S with
  | .ok ys S' => if g S' then cmF mu ys S' else .bad
  | _ => .bad) else .bad
/-- no dict stands in an object's data -/
def obND : Ob → Bool
  | .lst xs => PyData.canLayAll0 xs
  | .flst xs => PyData.canLayAll0 xs
  | .dct kvs => PyData.canLayAll0 (kvs.map (·.2))
  | .fdct kvs => PyData.canLayAll0 (kvs.map (·.2))
  | .tdc _ => false
  | .nl _ => false
  | .nd _ => false
  | .fnd _ => false
open Classical in
/-- a name's dict walked by a comprehension that changes nothing: it stands as it stood, and may change behind it -/
noncomputable def cmdK (f : List D → M D) (d : D) : M D := fun S => match d with
  | .rf i => match S[i]? with
    | some (.dct kvs) => match f (kvs.map fun e => .im e.1) (S.set i (.fdct kvs)) with
      | .ok (.im (.list ys)) S' => if S' = S.set i (.fdct kvs) ∧ PyData.canLayAll0 ys = true ∧ ∀ (j : Nat) (o : Ob), j ≠ i → S[j]? = some o → obND o = true then .ok (.im (.list ys)) S else .bad
      | _ => .bad
    | _ => .bad
  | _ => .bad
/-- a name's list walked: guarded, if it may change -/
def rfK (f : (Mem → Prop) → List D → M D) (d : D) : M D := fun S => match d with
  | .rf i => match S[i]? with
    | some (.lst xs) => f (gOn i xs) (xs.map .im) S
    | some (.dct kvs) => f (fun _ => True) (kvs.map fun e => .im e.1) (S.set i (.fdct kvs))
    | some (.fdct kvs) => f (fun _ => True) (kvs.map fun e => .im e.1) S
    | _ => .bad
  | .im p => M.bind (exK (.im p)) (f fun _ => True) S
def rngL (lo : Int) (n : Nat) : List D := (List.range n).map fun (k : Nat) => .im (.int (lo + (k : Int)))
def enmL (xs : List PyData) : List D := (List.zip ((List.range xs.length).map fun (k : Nat) => PyData.int (k : Int)) xs).map fun p => .im (.tuple [p.1, p.2])
def zpL (xs ys : List PyData) : List D := (List.zip xs ys).map fun p => .im (.tuple [p.1, p.2])
def rngK (ds : List D) : M (List D) := fun S => match ds with
  | [.im (.int n)] => if n.natAbs < 2 ^ 62 then .ok (rngL 0 n.toNat) S else .bad
  | [.im (.int l), .im (.int n)] => if l.natAbs < 2 ^ 62 ∧ n.natAbs < 2 ^ 62 then .ok (rngL l (n - l).toNat) S else .bad
  | _ => .bad
/-- the distinct ones -/
def dd : List Int → List Int
  | [] => []
  | x :: r => if x ∈ r then dd r else x :: dd r
def srtI (ns : List Int) : List Int := (dd ns).mergeSort fun a b => decide (a ≤ b)
/-- sorted(set(t)), t ints or flat tuples -/
def srsK (a : D) : M D := fun S => match seqOf S a with
  | some xs => (match allInts xs with
    | some ns => if ns.length ≤ 4000 ∧ (dd ns).length < 64 then .ok (.im (.list ((srtI ns).map .int))) S else .bad
    | none => match ktDs xs with
      | some ks => if ks.length < 64 ∧ canSort xs = true then .ok (.im (.list (sortP ((ddK ks).map encK)))) S else .bad
      | none => .bad)
  | none => .bad
/-- min(l, default=d), l ints -/
def mdfK (x y : D) : M D := fun S => match intsOf S x with
  | some [] => .ok y S
  | some (i :: r) => .ok (.im (.int (minL i r))) S
  | none => .bad
/-- a dict written: keys and values by turns -/
def pairsOf : List PyData → Option (List (PyData × PyData))
  | [] => some []
  | k :: v :: r => if isKy k = true then (pairsOf r).map ((k, v) :: ·) else none
  | [_] => none
def dicK (mu : Bool) (ds : List D) : M D := fun S => match allIm ds with
  | some xs => match pairsOf xs with
    | some kvs => if kvs.length ≤ 15 then (if mu = true then .ok (.rf S.length) (S ++ [.dct (mergeP [] kvs)]) else .ok (.im (.dict (mergeP [] kvs))) S) else .bad
    | none => .bad
  | none => .bad
/-- no exception leaves it -/
def noE {α : Type} (m : M α) : M α := fun S => match m S with
  | .ok a S' => .ok a S'
  | _ => .bad
/-- min(l), l a list of like data -/
def mndK (a : D) : M D := fun S => match imOf S a with
  | some (.list (x :: xs)) => if canSort (x :: xs) = true then .ok (.im (PySem.W.minD x xs)) S else .bad
  | _ => .bad
/-- list(range(..)), tuple(range(..)) -/
def rgP (lo : Int) (n : Nat) : List PyData := (List.range n).map fun (k : Nat) => .int (lo + (k : Int))
def lsrP (tup : Bool) (xs : List PyData) : PyData := if tup = true then .tuple xs else .list xs
def lsrK (tup : Bool) (ds : List D) : M D := fun S => match ds with
  | [.im (.int n)] => if 0 ≤ n ∧ n ≤ 16777216 then .ok (.im (lsrP tup (rgP 0 n.toNat))) S else .bad
  | [.im (.int l), .im (.int n)] => if 0 ≤ l ∧ l ≤ 16777216 ∧ 0 ≤ n ∧ n ≤ 16777216 then .ok (.im (lsrP tup (rgP l (n - l).toNat))) S else .bad
  | _ => .bad
def enmK (d : D) : M (List D) := fun S => match d with
  | .im (.list xs) => .ok (enmL xs) S
  | .im (.tuple xs) => .ok (enmL xs) S
  | _ => .bad
def zpK (x y : D) : M (List D) := fun S => match x, y with
  | .im (.list xs), .im (.list ys) => .ok (zpL xs ys) S
  | .im (.tuple xs), .im (.tuple ys) => .ok (zpL xs ys) S
  | .im (.list xs), .im (.tuple ys) => .ok (zpL xs ys) S
  | _, _ => .bad
/-- a list that may change is shown as one that stays as it is -/
def frvK (d : D) : M D := fun S => match d with
  | .rf i => match S[i]? with
    | some (.lst xs) => .ok (.im (.list xs)) (S.set i (.flst xs))
    | some (.flst xs) => .ok (.im (.list xs)) S
    | _ => .bad
  | .im p => .ok (.im p) S
def tdnK : M D := fun S => .ok (.rf S.length) (S ++ [.tdc []])
/-- an item, that may be a list that may change -/
def itemR (y : D) : M (Option D) := fun S => .ok (some y) S
def skipR : M (Option D) := fun S => .ok none S
def compR (f : D → M (Option D)) : List D → M (List D)
  | [] => fun S => .ok [] S
  | d :: r => M.bind (f d) fun o => M.bind (compR f r) fun ys S => .ok (match o with
    | some y => y :: ys
    | none => ys) S
/-- a comprehension of lists; no exception leaves it -/
def cmlK (f : D → M (Option D)) (items : List D) : M D := fun S => if items.length ≤ sizeLine then (match compR f items S with
  | .ok ys S' => .ok (.rf S'.length) (S' ++ [.nl ys])
  | _ => .bad) else .bad
/-- one of a list of lists, or of a dict of lists -/
def lkN (k : PyData) : List (PyData × D) → Option D
  | [] => none
  | e :: r => if PyData.eqv e.1 k = true then some e.2 else lkN k r
def idnD (a b : D) : M D := fun S => match a, b with
  | .rf i, .im k => match S[i]?, k with
    | some (.nl ds), .int j => (match ixA ds j with
      | some d => .ok d S
      | none => .bad)
    | some (.fnd kvs), .int j => (match lkN (.int j) kvs with
      | some d => .ok d S
      | none => .bad)
    | _, _ => .bad
  | _, _ => .bad
def wipeE (env : Env) : List Nat → Env
  | [] => env
  | v :: vs => (wipeE env vs).set v none
mutual
noncomputable def ev (Φ : String → List D → M D) : Ex → Env → M D
  | .var i, env => getV i env
  | .con d, _ => constK d
  | .glb _ d, _ => constK d
  | .tup es, env => M.bind (evs Φ es env) tupK
  | .lst es, env => M.bind (evs Φ es env) lstK
  | .mls es, env => M.bind (evs Φ es env) mlsK
  | .bin op a b, env => M.bind (ev Φ a env) fun x => M.bind (ev Φ b env) fun y => binD op x y
  | .neg a, env => M.bind (ev Φ a env) negD
  | .nt a, env => M.bind (ev Φ a env) notD
  | .cmp op a b, env => M.bind (ev Φ a env) fun x => M.bind (ev Φ b env) fun y => cmpD op x y
  | .chn op op' a b c, env => M.bind (ev Φ a env) fun x => M.bind (ev Φ b env) fun y => M.bind (cmpD op x y) fun r => M.bind (tstD r) fun t => if t = true then M.bind (ev Φ c env) fun z => cmpD op' y z else constK (.bool false)
  | .bop k es, env => evB Φ k es env
  | .ite c a b, env => M.bind (ev Φ c env) fun r => M.bind (tstD r) fun t => if t = true then ev Φ a env else ev Φ b env
  | .idx a b, env => M.bind (ev Φ a env) fun x => M.bind (ev Φ b env) fun y => idxD x y
  | .slc a lo hi, env => M.bind (ev Φ a env) fun x => M.bind (M.bind (evs Φ lo env) endK) fun l => M.bind (M.bind (evs Φ hi env) endK) fun h => sliceD x l h
  | .rev a, env => M.bind (ev Φ a env) revD
  | .call f es, env => M.bind (evs Φ es env) (Φ f)
  | .bi b es, env => M.bind (evs Φ es env) (biD b)
  | .isi a _ ts, env => M.bind (ev Φ a env) (isiK ts)
  | .rep es n, env => M.bind (evs Φ es env) fun ds => M.bind (ev Φ n env) fun k => repK ds k
  | .rpi es n, env => M.bind (evs Φ es env) fun ds => M.bind (ev Φ n env) fun k => rpiK ds k
  | .mt m a es, env => M.bind (M.bind (ev Φ a env) (rcvK m)) fun x => M.bind (evs Φ es env) fun ds => mtD m x ds
  | .cmpr own elt tg it ifs, env => M.bind (evI Φ it env) fun items => cmprK (fun d S => match asgT tg d (wipeE env (own.map (·.2))) S with
      | some env' => M.bind (evB Φ true ifs env') (fun r => M.bind (tstD r) fun t => if t = true then M.bind (ev Φ elt env') itemK else skipK) S
      | none => .bad) items
  | .cmr own elt tg v ifs, env => M.bind (getV v env) (rfK fun g items => cmprG false g (fun d S => match asgT tg d (wipeE env (own.map (·.2))) S with
      | some env' => M.bind (evB Φ true ifs env') (fun r => M.bind (tstD r) fun t => if t = true then M.bind (ev Φ elt env') itemK else skipK) S
      | none => .bad) items)
  | .cmd own elt tg v ifs, env => M.bind (getV v env) (cmdK fun items => cmprG false (fun _ => True) (fun d S => match asgT tg d (wipeE env (own.map (·.2))) S with
      | some env' => M.bind (evB Φ true ifs env') (fun r => M.bind (tstD r) fun t => if t = true then M.bind (ev Φ elt env') itemK else skipK) S
      | none => .bad) items)
  | .cmm own elt tg it ifs, env => M.bind (evI Φ it env) fun items => cmprG true (fun _ => True) (fun d S => match asgT tg d (wipeE env (own.map (·.2))) S with
      | some env' => M.bind (evB Φ true ifs env') (fun r => M.bind (tstD r) fun t => if t = true then M.bind (ev Φ elt env') itemK else skipK) S
      | none => .bad) items
  | .lsr b es, env => M.bind (evs Φ es env) (lsrK b)
  | .srs a, env => M.bind (ev Φ a env) srsK
  | .mnd a, env => M.bind (ev Φ a env) mndK
  | .mad a b, env => M.bind (ev Φ a env) fun x => M.bind (ev Φ b env) fun y => maddD x y
  | .mdf a d, env => M.bind (ev Φ a env) fun x => M.bind (ev Φ d env) fun y => mdfK x y
  | .frv i, env => M.bind (getV i env) frvK
  | .tdn, _ => tdnK
  | .cml own elt tg it ifs, env => M.bind (evI Φ it env) fun items => cmlK (fun d S => match asgT tg d (wipeE env (own.map (·.2))) S with
      | some env' => M.bind (evB Φ true ifs env') (fun r => M.bind (tstD r) fun t => if t = true then M.bind (ev Φ elt env') itemR else skipR) S
      | none => .bad) items
  | .idn a b, env => M.bind (ev Φ a env) fun x => M.bind (ev Φ b env) fun y => idnD x y
  | .dic mu es, env => M.bind (noE (evs Φ es env)) (dicK mu)
noncomputable def evs (Φ : String → List D → M D) : Exs → Env → M (List D)
  | .nil, _ => nilK
  | .cons e es, env => M.bind (ev Φ e env) fun d => M.bind (evs Φ es env) fun ds => consK d ds
/-- a chain of and (k) or of or; all but the last one truths -/
noncomputable def evB (Φ : String → List D → M D) (k : Bool) : Exs → Env → M D
  | .nil, _ => constK (.bool k)
  | .cons e .nil, env => ev Φ e env
  | .cons e (.cons e2 es), env => M.bind (ev Φ e env) fun r => M.bind (tstD r) fun t => if t = k then evB Φ k (.cons e2 es) env else constK (.bool (!k))
noncomputable def evI (Φ : String → List D → M D) : It → Env → M (List D)
  | .ex e, env => M.bind (ev Φ e env) exK
  | .rng es, env => M.bind (evs Φ es env) rngK
  | .enm e, env => M.bind (ev Φ e env) enmK
  | .zp a b, env => M.bind (ev Φ a env) fun x => M.bind (ev Φ b env) fun y => zpK x y
end

/-- name op= e, of ints -/
def augD (op : Operator) (x y : D) : M D := fun S => match op, x, y with
  | .Add, .im (.int i), .im (.int j) => .ok (.im (.int (i + j))) S
  | .Sub, .im (.int i), .im (.int j) => .ok (.im (.int (i - j))) S
  | _, _, _ => .bad
inductive SR where
  | nx (env : Env) (S : Mem)
  | bk (env : Env) (S : Mem)
  | ct (env : Env) (S : Mem)
  | rt (d : D) (S : Mem)
  | er (c : String) (env : Env) (S : Mem)
  | bad
def liftE {α : Type} (env : Env) (r : Res α) (f : α → Mem → SR) : SR := match r with
  | .ok d S => f d S
  | .err c S => .er c env S
  | .bad => .bad
def forL (a : D → Env → Mem → Option Env) (body : Env → Mem → SR) : List D → Env → Mem → SR
  | [], env, S => .nx env S
  | d :: r, env, S => match a d env S with
    | none => .bad
    | some e1 => match body e1 S with
      | .nx e2 S2 => forL a body r e2 S2
      | .ct e2 S2 => forL a body r e2 S2
      | .bk e2 S2 => .nx e2 S2
      | z => z
open Classical in
/-- a loop under a guard -/
noncomputable def forG (g : Mem → Prop) (a : D → Env → Mem → Option Env) (body : Env → Mem → SR) (items : List D) (env : Env) (S : Mem) : SR := match forL (fun d e S => if g S then a d e S else none) body items env S with
  | .nx e S' => if g S' then .nx e S' else .bad
  | z => z
def rfS (f : (Mem → Prop) → List D → Mem → SR) (env : Env) (d : D) (S : Mem) : SR := match d with
  | .rf i => match S[i]? with
    | some (.lst xs) => f (gOn i xs) (xs.map .im) S
    | some (.dct kvs) => f (fun _ => True) (kvs.map fun e => .im e.1) (S.set i (.fdct kvs))
    | some (.fdct kvs) => f (fun _ => True) (kvs.map fun e => .im e.1) S
    | some (.nd kvs) => f (fun _ => True) (kvs.map fun e => .im e.1) (S.set i (.fnd kvs))
    | some (.fnd kvs) => f (fun _ => True) (kvs.map fun e => .im e.1) S
    | _ => .bad
  | .im p => liftE env (exK (.im p) S) (f fun _ => True)
def rfE (f : (Mem → Prop) → List D → Mem → SR) (env : Env) (d : D) (S : Mem) : SR := match d with
  | .rf i => match S[i]? with
    | some (.lst xs) => f (gOn i xs) (enmL xs) S
    | _ => .bad
  | .im p => liftE env (enmK (.im p) S) (f fun _ => True)
def bldL (tg : Tg) (i : Nat) (ce : Env → M D) : List D → Env → Mem → List (PyData × D) → Option (Env × Mem × List (PyData × D))
  | [], env, S, acc => some (env, S, acc)
  | d :: r, env, S, acc => match asgT tg d env S with
    | some e1 => match ce e1 S with
      | .ok y S2 => match e1[i]? with
        | some (some (.im (.int k))) => if (acc.any fun e => PyData.eqv e.1 (.int k)) = true then none else bldL tg i ce r e1 S2 (acc ++ [(.int k, y)])
        | _ => none
      | _ => none
    | none => none
def bldM (v : Nat) (tg : Tg) (ci : Env → M (List D)) (i : Nat) (ce : Env → M D) (env : Env) (S : Mem) : SR := match ci (env.set v none) S with
  | .ok items S1 => if items.length < sizeLine ∧ v < env.length then (match bldL tg i ce items (env.set v none) S1 [] with
    | some q => .nx (q.1.set v (some (.rf q.2.1.length))) (q.2.1 ++ [.nd q.2.2])
    | none => .bad) else .bad
  | _ => .bad
def whileL (c : Env → M Bool) (body : Env → Mem → SR) : Nat → Env → Mem → SR
  | 0, _, _ => .bad
  | n + 1, env, S => match c env S with
    | .bad => .bad
    | .err x S1 => .er x env S1
    | .ok false S1 => .nx env S1
    | .ok true S1 => match body env S1 with
      | .nx e2 S2 => whileL c body n e2 S2
      | .ct e2 S2 => whileL c body n e2 S2
      | .bk e2 S2 => .nx e2 S2
      | z => z
def setD (o i v : D) (S : Mem) : Option Mem := match o, i, v with
  | .rf r, .im k, .im p => match S[r]?, k with
    | some (.lst xs), .int k => if 0 ≤ k ∧ k < xs.length then some (S.set r (.lst (xs.set k.toNat p))) else if k < 0 ∧ -(xs.length : Int) ≤ k then some (S.set r (.lst (xs.set (k + xs.length).toNat p))) else none
    | some (.dct kvs), k => if isKy k = true ∧ kvs.length < sizeLine then some (S.set r (.dct (putP k p kvs))) else none
    | some (.tdc kvs), k => match ktup k with
      | some _ => if kvs.length < sizeLine then some (S.set r (.tdc (putP k p kvs))) else none
      | none => none
    | _, _ => none
  | _, _, _ => none
/-- o[i], o a list or dict that may change -/
def getM (o i : D) : M D := fun S => match o, i with
  | .rf r, .im k => match S[r]?, k with
    | some (.lst xs), .int k => if 0 ≤ k then (match xs[k.toNat]? with
      | some p => .ok (.im p) S
      | none => .bad) else .bad
    | some (.dct kvs), k => if isKy k = true then (match lkP k kvs with
      | some p => .ok (.im p) S
      | none => .bad) else .bad
    | _, _ => .bad
  | _, _ => .bad
mutual
noncomputable def exec (Φ : String → List D → M D) : Sm → Env → Mem → SR
  | .asg tg e, env, S => liftE env (ev Φ e env S) fun d S1 => match asgT tg d env S1 with
    | some env' => .nx env' S1
    | none => .bad
  | .sub o i e, env, S => liftE env (ev Φ e env S) fun v S1 => liftE env (ev Φ o env S1) fun x S2 => liftE env (ev Φ i env S2) fun k S3 => match setD x k v S3 with
    | some S4 => .nx env S4
    | none => .bad
  | .asub o i op e, env, S => liftE env (ev Φ o env S) fun x S1 => liftE env (ev Φ i env S1) fun k S2 => liftE env (getM x k S2) fun u S3 => liftE env (ev Φ e env S3) fun y S4 => liftE env (augD op u y S4) fun z S5 => match setD x k z S5 with
    | some S6 => .nx env S6
    | none => .bad
  | .aug i op e, env, S => liftE env (getV i env S) fun x S1 => liftE env (ev Φ e env S1) fun y S2 => liftE env (augD op x y S2) fun z S3 => .nx (env.set i (some z)) S3
  | .exp e, env, S => liftE env (ev Φ e env S) fun _ S1 => .nx env S1
  | .ret e, env, S => liftE env (ev Φ e env S) fun d S1 => .rt d S1
  | .retn, _, S => .rt (.im .none) S
  | .iff c a b, env, S => liftE env (ev Φ c env S) fun d S1 => match d with
    | .im (.bool true) => execs Φ a env S1
    | .im (.bool false) => execs Φ b env S1
    | _ => .bad
  | .for tg it body, env, S => liftE env (evI Φ it env S) fun items S1 => forL (asgT tg) (execs Φ body) items env S1
  | .forr tg v body, env, S => liftE env (getV v env S) (rfS (fun g items => forG g (asgT tg) (execs Φ body) items env) env)
  | .fore is v body, env, S => liftE env (getV v env S) (rfE (fun g items => forG g (asgT (.t is)) (execs Φ body) items env) env)
  | .bld v tg it i e, env, S => bldM v tg (evI Φ it) i (ev Φ e) env S
  | .whl n c body, env, S => whileL (fun e => M.bind (ev Φ c e) tstD) (execs Φ body) n env S
  | .brk, env, S => .bk env S
  | .cnt, env, S => .ct env S
  | .pss, env, S => .nx env S
  | .par i j es, env, S => liftE env (evs Φ es env S) fun ds S1 => match ds with
    | [x, y] => .nx ((env.set i (some x)).set j (some y)) S1
    | _ => .bad
  | .rse c, env, S => .er c env S
  | .try1 body c _ _ _ _, env, S => match execs Φ body env S with
    | .er c' e1 S1 => if c' = c then .rt (.im (.bool true)) S1 else .bad
    | z => z
  | .try2 body c i w _ _, env, S => match execs Φ body env S with
    | .er c' e1 S1 => if c' = c then .nx ((e1.set w (some (.im (.int 2)))).set i none) S1 else .bad
    | z => z
noncomputable def execs (Φ : String → List D → M D) : Sms → Env → Mem → SR
  | .nil, env, S => .nx env S
  | .cons s r, env, S => match exec Φ s env S with
    | .nx e1 S1 => execs Φ r e1 S1
    | z => z
end

/-- a def: its key, its name in the text, its names by slot, how many parameters, its body -/
structure Fn where
  key : String
  name : Str
  N : List Str
  np : Nat
  body : Sms
/-- what leaves a def: its own lists are frozen -/
def frz (n : Nat) (S : Mem) : D → Option D
  | .im p => some (.im p)
  | .rf i => if i < n then some (.rf i) else match imOf S (.rf i) with
    | some p => some (.im p)
    | none => (dctOf S (.rf i)).map fun kvs => .im (.dict kvs)
noncomputable def fnS (Φ : String → List D → M D) (f : Fn) (args : List D) : M D := fun S =>
  if args.length = f.np then
    match execs Φ f.body (args.map some ++ List.replicate (f.N.length - f.np) none) S with
    | .nx _ S' => .ok (.im .none) (S'.take S.length)
    | .rt d S' => match frz S.length S' d with
      | some d' => .ok d' (S'.take S.length)
      | none => .bad
    | .er c _ S' => .err c (S'.take S.length)
    | _ => .bad
  else .bad
def findF (P : List Fn) (x : String) : Option Fn := P.find? fun f => f.key == x
noncomputable def callF (P : List Fn) : Nat → String → List D → M D
  | 0, _, _ => fun _ => .bad
  | k + 1, x, args => match findF P x with
    | some f => fnS (callF P k) f args
    | none => fun _ => .bad
end DL
end

section
set_option maxRecDepth 100000
/-! the head of the run, ahead of the rest. -/
namespace DL
open PySem PySem.Spec PyProof.Rows L2 PySem.W
mutual
def rdV (K : PySem.W.Frag) : PyData → Value → Bool
  | .none, u => u == .none
  | .bool b, u => u == .bool b
  | .int i, .int j _ => decide (j = i)
  | .str x, .str y _ => decide (y = x)
  | .tuple ds, .ref a => (match K.lookup a with
    | some o => (o.cls == .type "tuple") && decide (o.dict = none) && (match o.data with
      | .seq its _ => decide (its.size ≤ 1000) && rdVs K ds its.toList
      | _ => false)
    | none => false)
  | _, _ => false
def rdVs (K : PySem.W.Frag) : List PyData → List Value → Bool
  | [], [] => true
  | d :: ds, u :: us => rdV K d u && rdVs K ds us
  | _, _ => false
end
def gvB (K : PySem.W.Frag) (q : Str × PyData) : Bool := match PySem.W.nsIn K mainGlobals q.1 with
  | some (some u) => rdV K q.2 u
  | _ => false
/-- an own error class: what K says of it -/
def erB (K : PySem.W.Frag) (c : String) : Bool := (He.Fa.glo (Str.ofString c)).ok K && (He.Fa.exc (Str.ofString c)).ok K
def eiB (K : PySem.W.Frag) (q : String × List String × String) : Bool :=
  erB K q.1 && (He.Fa.exm (Str.ofString q.1) (Str.ofString q.1) true).ok K && q.2.1.all (fun t => (He.Fa.glo (Str.ofString t)).ok K) && (He.Fa.glo (Str.ofString q.2.2)).ok K && (He.Fa.free "ValueError").ok K &&
    decide (PySem.W.kitAny K (.ref (He.ga K (Str.ofString q.1))) (q.2.1.map fun t => .ref (He.ga K (Str.ofString t))) = some false) && decide (PySem.W.kitOne K (.ref (He.ga K (Str.ofString q.1))) (.ref (He.ga K (Str.ofString q.2.2))) = some true) &&
    decide (PySem.W.kitOne K (.ref (He.ga K (Str.ofString q.1))) (.type "ValueError") = some true) &&
    decide (PySem.W.findIn K (.ref (He.ga K (Str.ofString q.1))) "__getattribute__" = some (some (.builtin "BaseException.__getattribute__")) ∧ PySem.W.findIn K (.ref (He.ga K (Str.ofString q.1))) "__getattr__" = some none ∧
      PySem.W.subIn K (.ref (He.ga K (Str.ofString q.1))) (.type "BaseException") = some true ∧ PySem.W.hasDictIn K (He.ga K (Str.ofString q.1)) = true ∧ PySem.W.findIn K (.ref (He.ga K (Str.ofString q.1))) "__class__" = some (some (.builtin "object.__class__")) ∧
      PySem.W.specialIn K (.builtin "object.__class__") "__get__" = some (some (.builtin "getset_descriptor.__get__")) ∧ PySem.W.takesIn K (.builtin "object.__class__") = some true ∧ PySem.W.mroIn K (He.ga K (Str.ofString q.1)) (.type "object") = some true)
/-- the head's look, with errors -/
def obsX (fa : List He.Fa) (ers : List String) (eis : List (String × List String × String)) (gls : List (Str × PyData)) (fn : List He.DefD) (K : PySem.W.Frag) : He.AlD := ((He.obsD fa fn K).1 && (ers.all (erB K) && eis.all (eiB K) && gls.all (gvB K)), (He.obsD fa fn K).2)
def SaysX (fa : List He.Fa) (ers : List String) (eis : List (String × List String × String)) (gls : List (Str × PyData)) (fn : List He.DefD) (K : PySem.W.Frag) : Prop := obsX fa ers eis gls fn K = He.valD fn
def obsXG (n : Nat) (fa : List He.Fa) (ers : List String) (eis : List (String × List String × String)) (gls : List (Str × PyData)) (fn : List He.DefD) (g : Addr → Option Obj) : He.AlD := obsX fa ers eis gls fn (He.frG g (He.asD g n))
def hookX (n : Nat) (fa : List He.Fa) (ers : List String) (eis : List (String × List String × String)) (gls : List (Str × PyData)) (fn : List He.DefD) : PySem.W.Hook where
  α := He.AlD
  obs := fun s => obsXG n fa ers eis gls fn s.heap.get?
  val := fun _ => He.valD fn
  says := fun _ h => ∃ K : PySem.W.Frag, K.In h ∧ SaysX fa ers eis gls fn K
  of := fun _ _ e => ⟨_, He.frG_in, e⟩
  keeps := fun _ _ _ ⟨K, hK, c⟩ k => ⟨K, PySem.W.Frag.In.keeps hK k, c⟩
theorem obsXG_eq {n : Nat} {fa : List He.Fa} {ers : List String} {eis : List (String × List String × String)} {gls : List (Str × PyData)} {fn : List He.DefD} {g : Addr → Option Obj} {s : Shared} (h : ∀ a, g a = s.heap.get? a) : obsXG n fa ers eis gls fn g = (hookX n fa ers eis gls fn).obs s := by
  have e : g = s.heap.get? := funext h
  rw [e] <;> rfl
def faOf (P : List Fn) (fr : List Str) : List He.Fa := P.map (fun g => He.Fa.glo g.name) ++ fr.map He.Fa.free
end DL
namespace DL.k74
open PySem PySem.Spec PyProof.Rows L2 PySem.W DL
abbrev RwL : PySem.W.OpenLaw := PySem.Challenge.rw_thronewalk_k74_whole_any_turn
def top (i : Nat) : Stmt := PySem.Challenge.pw_thronewalk_k74_whole_any_turn.main.body.getD i (.Pass ⟨0, 0, 0, 0⟩)
/-- is_number -/
def y0 : Sms :=
 .cons (.ret (.bop true (.cons (.isi (.var 0) true ["int"]) (.cons (.nt (.isi (.var 0) true ["bool"])) .nil)))) .nil
def g0 : Fn := ⟨"is_number", "is_number", ["thing"], 1, y0⟩
def d0 : He.DefD := ⟨("is_number", none), "is_number", "is_number", defArgs (top 1), defBody (top 1), defScope (top 1), [], []⟩
/-- wished_by -/
def y1 : Sms :=
 .cons (.for (.t [2, 3]) (.ex (.var 0)) (.cons (.iff (.cmp .Eq (.var 2) (.var 1)) (.cons (.ret (.var 3)) .nil) (.nil)) .nil))
 (.cons (.ret (.tup .nil)) .nil)
def g1 : Fn := ⟨"wished_by", "wished_by", ["wishes", "who", "one", "thrones"], 2, y1⟩
def d1 : He.DefD := ⟨("wished_by", none), "wished_by", "wished_by", defArgs (top 3), defBody (top 3), defScope (top 3), [], []⟩
/-- throne_of -/
def y2 : Sms :=
 .cons (.fore [2, 3] 0 (.cons (.iff (.cmp .Eq (.var 3) (.var 1)) (.cons (.ret (.var 2)) .nil) (.nil)) .nil))
 (.cons (.ret (.neg (.con (.int 1)))) .nil)
def g2 : Fn := ⟨"throne_of", "throne_of", ["sharing", "who", "throne", "one"], 2, y2⟩
def d2 : He.DefD := ⟨("throne_of", none), "throne_of", "throne_of", defArgs (top 4), defBody (top 4), defScope (top 4), [], []⟩
/-- would_take -/
def y3 : Sms :=
 .cons (.asg (.v 4) (.call "wished_by" (.cons (.var 0) (.cons (.var 1) .nil))))
 (.cons (.ret (.bop true (.cons (.cmp .In (.var 2) (.var 4)) (.cons (.bop false (.cons (.cmp .Eq (.var 3) (.neg (.con (.int 1)))) (.cons (.cmp .Lt (.mt .index (.var 4) (.cons (.var 2) .nil)) (.mt .index (.var 4) (.cons (.var 3) .nil))) .nil))) .nil)))) .nil)
def g3 : Fn := ⟨"would_take", "would_take", ["wishes", "who", "throne", "held", "wished"], 4, y3⟩
def d3 : He.DefD := ⟨("would_take", none), "would_take", "would_take", defArgs (top 5), defBody (top 5), defScope (top 5), [], []⟩
/-- would_give -/
def y4 : Sms :=
 .cons (.ret (.bop true (.cons (.cmp .In (.var 2) (.var 0)) (.cons (.bop false (.cons (.cmp .Eq (.var 1) (.neg (.con (.int 1)))) (.cons (.cmp .Lt (.mt .index (.var 0) (.cons (.var 2) .nil)) (.mt .index (.var 0) (.cons (.var 1) .nil))) .nil))) .nil)))) .nil
def g4 : Fn := ⟨"would_give", "would_give", ["order", "holder", "who"], 3, y4⟩
def d4 : He.DefD := ⟨("would_give", none), "would_give", "would_give", defArgs (top 6), defBody (top 6), defScope (top 6), [], []⟩
/-- is_right -/
def y5 : Sms :=
 .cons (.iff (.bop false (.cons (.nt (.isi (.var 2) true ["tuple"])) (.cons (.cmp .NotEq (.bi .len (.cons (.var 2) .nil)) (.bi .len (.cons (.var 0) .nil))) .nil))) (.cons (.ret (.con (.bool false))) .nil) (.nil))
 (.cons (.for (.t [3, 4]) (.enm (.var 2)) (.cons (.iff (.nt (.call "is_number" (.cons (.var 4) .nil))) (.cons (.ret (.con (.bool false))) .nil) (.nil))
 (.cons (.iff (.bop true (.cons (.cmp .NotEq (.var 4) (.neg (.con (.int 1)))) (.cons (.bop false (.cons (.cmp .NotIn (.var 4) (.idx (.var 0) (.var 3))) (.cons (.cmp .NotIn (.var 3) (.call "wished_by" (.cons (.var 1) (.cons (.var 4) .nil)))) .nil))) .nil))) (.cons (.ret (.con (.bool false))) .nil) (.nil))
 (.cons (.iff (.bop true (.cons (.cmp .NotEq (.var 4) (.neg (.con (.int 1)))) (.cons (.cmp .In (.var 4) (.slc (.var 2) .nil (.cons (.var 3) .nil))) .nil))) (.cons (.ret (.con (.bool false))) .nil) (.nil)) .nil))))
 (.cons (.ret (.con (.bool true))) .nil))
def g5 : Fn := ⟨"is_right", "is_right", ["orders", "wishes", "thing", "throne", "who"], 3, y5⟩
def d5 : He.DefD := ⟨("is_right", none), "is_right", "is_right", defArgs (top 7), defBody (top 7), defScope (top 7), [], []⟩
/-- at_rest -/
def y6 : Sms :=
 .cons (.iff (.nt (.call "is_right" (.cons (.var 0) (.cons (.var 1) (.cons (.var 2) .nil))))) (.cons (.ret (.con (.bool false))) .nil) (.nil))
 (.cons (.for (.t [3, 4]) (.enm (.var 0)) (.cons (.for (.v 5) (.ex (.var 4)) (.cons (.iff (.bop true (.cons (.call "would_take" (.cons (.var 1) (.cons (.var 5) (.cons (.var 3) (.cons (.call "throne_of" (.cons (.var 2) (.cons (.var 5) .nil))) .nil))))) (.cons (.call "would_give" (.cons (.var 4) (.cons (.idx (.var 2) (.var 3)) (.cons (.var 5) .nil)))) .nil))) (.cons (.ret (.con (.bool false))) .nil) (.nil)) .nil)) .nil))
 (.cons (.ret (.con (.bool true))) .nil))
def g6 : Fn := ⟨"at_rest", "at_rest", ["orders", "wishes", "thing", "throne", "order", "who"], 3, y6⟩
def d6 : He.DefD := ⟨("at_rest", none), "at_rest", "at_rest", defArgs (top 8), defBody (top 8), defScope (top 8), [], []⟩
/-- next_throne -/
def y7 : Sms :=
 .cons (.for (.v 4) (.ex (.var 1)) (.cons (.iff (.bop true (.cons (.cmp .Eq (.idx (.var 2) (.var 4)) (.neg (.con (.int 1)))) (.cons (.cmp .Lt (.idx (.var 3) (.var 4)) (.bi .len (.cons (.idx (.var 0) (.var 4)) .nil))) .nil))) (.cons (.ret (.var 4)) .nil) (.nil)) .nil))
 (.cons (.ret (.neg (.con (.int 1)))) .nil)
def g7 : Fn := ⟨"next_throne", "next_throne", ["orders", "turn", "sharing", "asked", "throne"], 4, y7⟩
def d7 : He.DefD := ⟨("next_throne", none), "next_throne", "next_throne", defArgs (top 10), defBody (top 10), defScope (top 10), [], []⟩
/-- answer_of -/
def y8 : Sms :=
 .cons (.asg (.v 4) (.call "throne_of" (.cons (.var 1) (.cons (.var 3) .nil))))
 (.cons (.iff (.nt (.call "would_take" (.cons (.var 0) (.cons (.var 3) (.cons (.var 2) (.cons (.var 4) .nil)))))) (.cons (.ret (.con (.str "no"))) .nil) (.nil))
 (.cons (.sub (.var 1) (.var 2) (.var 3))
 (.cons (.iff (.cmp .Eq (.var 4) (.neg (.con (.int 1)))) (.cons (.ret (.con (.str "takes"))) .nil) (.nil))
 (.cons (.sub (.var 1) (.var 4) (.neg (.con (.int 1))))
 (.cons (.ret (.con (.str "turns"))) .nil)))))
def g8 : Fn := ⟨"answer_of", "answer_of", ["wishes", "sharing", "throne", "who", "held"], 4, y8⟩
def d8 : He.DefD := ⟨("answer_of", none), "answer_of", "answer_of", defArgs (top 11), defBody (top 11), defScope (top 11), [], []⟩
/-- by_thrones -/
def y9 : Sms :=
 .cons (.asg (.v 3) (.rep (.cons (.neg (.con (.int 1))) .nil) (.bi .len (.cons (.var 0) .nil))))
 (.cons (.asg (.v 4) (.rep (.cons (.con (.int 0)) .nil) (.bi .len (.cons (.var 0) .nil))))
 (.cons (.asg (.v 5) (.mls .nil))
 (.cons (.asg (.v 6) (.call "next_throne" (.cons (.var 0) (.cons (.var 2) (.cons (.var 3) (.cons (.var 4) .nil))))))
 (.cons (.whl 100000 (.cmp .NotEq (.var 6) (.neg (.con (.int 1)))) (.cons (.asg (.v 7) (.idx (.idx (.var 0) (.var 6)) (.idx (.var 4) (.var 6))))
 (.cons (.asub (.var 4) (.var 6) .Add (.con (.int 1)))
 (.cons (.exp (.mt .append (.var 5) (.cons (.tup (.cons (.var 6) (.cons (.var 7) (.cons (.call "answer_of" (.cons (.var 1) (.cons (.var 3) (.cons (.var 6) (.cons (.var 7) .nil))))) .nil)))) .nil)))
 (.cons (.asg (.v 6) (.call "next_throne" (.cons (.var 0) (.cons (.var 2) (.cons (.var 3) (.cons (.var 4) .nil)))))) .nil)))))
 (.cons (.ret (.tup (.cons (.bi .tuple (.cons (.var 3) .nil)) (.cons (.bi .tuple (.cons (.var 5) .nil)) .nil)))) .nil)))))
def g9 : Fn := ⟨"by_thrones", "by_thrones", ["orders", "wishes", "turn", "sharing", "asked", "asks", "throne", "who"], 3, y9⟩
def d9 : He.DefD := ⟨("by_thrones", none), "by_thrones", "by_thrones", defArgs (top 12), defBody (top 12), defScope (top 12), [], []⟩
/-- next_asker -/
def y10 : Sms :=
 .cons (.forr (.v 2) 0 (.cons (.iff (.bop true (.cons (.cmp .NotEq (.idn (.var 0) (.var 2)) (.lst .nil)) (.cons (.cmp .NotIn (.var 2) (.var 1)) .nil))) (.cons (.ret (.var 2)) .nil) (.nil)) .nil))
 (.cons (.ret (.neg (.con (.int 1)))) .nil)
def g10 : Fn := ⟨"next_asker", "next_asker", ["left", "sharing", "who"], 2, y10⟩
def d10 : He.DefD := ⟨("next_asker", none), "next_asker", "next_asker", defArgs (top 13), defBody (top 13), defScope (top 13), [], []⟩
/-- by_folk -/
def y11 : Sms :=
 .cons (.asg (.v 2) (.rep (.cons (.neg (.con (.int 1))) .nil) (.bi .len (.cons (.var 0) .nil))))
 (.cons (.bld 3 (.t [4, 5]) (.ex (.var 1)) 4 (.cmm [("throne", 6)] (.var 6) (.v 6) (.ex (.var 5)) (.cons (.cmp .In (.var 4) (.idx (.var 0) (.var 6))) .nil)))
 (.cons (.asg (.v 4) (.call "next_asker" (.cons (.var 3) (.cons (.var 2) .nil))))
 (.cons (.whl 100000 (.cmp .NotEq (.var 4) (.neg (.con (.int 1)))) (.cons (.asg (.v 6) (.mt .pop1 (.idn (.var 3) (.var 4)) (.cons (.con (.int 0)) .nil)))
 (.cons (.iff (.call "would_give" (.cons (.idx (.var 0) (.var 6)) (.cons (.idx (.var 2) (.var 6)) (.cons (.var 4) .nil)))) (.cons (.sub (.var 2) (.var 6) (.var 4)) .nil) (.nil))
 (.cons (.asg (.v 4) (.call "next_asker" (.cons (.var 3) (.cons (.var 2) .nil)))) .nil))))
 (.cons (.ret (.bi .tuple (.cons (.var 2) .nil))) .nil))))
def g11 : Fn := ⟨"by_folk", "by_folk", ["orders", "wishes", "sharing", "left", "who", "thrones", "throne"], 2, y11⟩
def d11 : He.DefD := ⟨("by_folk", none), "by_folk", "by_folk", defArgs (top 14), defBody (top 14), defScope (top 14), [], []⟩
/-- _law_take -/
def y12 : Sms :=
 .cons (.iff (.cmp .Gt (.idx (.var 0) (.con (.int 2))) (.con (.int 0))) (.cons (.asg (.v 3) (.bin .Mod (.idx (.var 0) (.con (.int 2))) (.var 1)))
 (.cons (.sub (.var 0) (.con (.int 2)) (.bin .FloorDiv (.idx (.var 0) (.con (.int 2))) (.var 1)))
 (.cons (.ret (.var 3)) .nil))) (.nil))
 (.cons (.asg (.v 2) (.con (.int 0)))
 (.cons (.iff (.cmp .Lt (.idx (.var 0) (.con (.int 1))) (.bi .len (.cons (.idx (.var 0) (.con (.int 0))) .nil))) (.cons (.asg (.v 2) (.idx (.idx (.var 0) (.con (.int 0))) (.idx (.var 0) (.con (.int 1))))) .nil) (.nil))
 (.cons (.sub (.var 0) (.con (.int 1)) (.bin .Add (.idx (.var 0) (.con (.int 1))) (.con (.int 1))))
 (.cons (.iff (.cmp .GtE (.var 2) (.bin .Pow (.con (.int 10)) (.con (.int 18)))) (.cons (.sub (.var 0) (.con (.int 2)) (.bin .FloorDiv (.var 2) (.var 1)))
 (.cons (.ret (.bin .Mod (.var 2) (.var 1))) .nil)) (.nil))
 (.cons (.sub (.var 0) (.con (.int 3)) (.bin .Mod (.bin .Add (.bin .Add (.bin .Mult (.idx (.var 0) (.con (.int 3))) (.con (.int 48271))) (.bin .Mod (.var 2) (.con (.int 2147483629)))) (.bin .Mult (.con (.int 7)) (.idx (.var 0) (.con (.int 1))))) (.con (.int 2147483647))))
 (.cons (.ret (.bin .Mod (.bin .FloorDiv (.bin .Mod (.bin .Pow (.idx (.var 0) (.con (.int 3))) (.con (.int 3))) (.con (.int 2147483629))) (.con (.int 64))) (.var 1))) .nil))))))
def g12 : Fn := ⟨"_law_take", "_law_take", ["_law_state", "_law_below", "_law_cell", "_law_found"], 2, y12⟩
def d12 : He.DefD := ⟨("_law_take", none), "_law_take", "_law_take", defArgs (top 16), defBody (top 16), defScope (top 16), [], []⟩
/-- _law_drawn_order -/
def y13 : Sms :=
 .cons (.asg (.v 3) (.bi .mlist (.cons (.var 1) .nil)))
 (.cons (.asg (.v 4) (.mls .nil))
 (.cons (.for (.v 5) (.rng (.cons (.bi .min2 (.cons (.var 2) (.cons (.bi .len (.cons (.var 3) .nil)) .nil))) .nil)) (.cons (.exp (.mt .append (.var 4) (.cons (.mt .pop1 (.var 3) (.cons (.call "_law_take" (.cons (.var 0) (.cons (.bi .len (.cons (.var 3) .nil)) .nil))) .nil)) .nil))) .nil))
 (.cons (.ret (.bi .tuple (.cons (.var 4) .nil))) .nil)))
def g13 : Fn := ⟨"_law_drawn_order", "_law_drawn_order", ["_law_state", "_law_pool", "_law_many", "_law_left", "_law_found", "_law_k"], 3, y13⟩
def d13 : He.DefD := ⟨("_law_drawn_order", none), "_law_drawn_order", "_law_drawn_order", defArgs (top 17), defBody (top 17), defScope (top 17), [], []⟩
/-- _law_thrones -/
def y14 : Sms :=
 .cons (.asg (.v 3) (.idx (.lst (.cons (.con (.int 0)) (.cons (.con (.int 0)) (.cons (.con (.int 30)) (.cons (.bin .Sub (.con (.int 61)) (.var 2)) .nil))))) (.call "_law_take" (.cons (.var 0) (.cons (.con (.int 4)) .nil)))))
 (.cons (.asg (.v 4) (.lsr false (.cons (.var 3) (.cons (.bin .Add (.var 3) (.var 2)) .nil))))
 (.cons (.asg (.v 5) (.mls .nil))
 (.cons (.for (.v 6) (.rng (.cons (.bin .Add (.con (.int 1)) (.call "_law_take" (.cons (.var 0) (.cons (.var 1) .nil)))) .nil)) (.cons (.asg (.v 9) (.idx (.lst (.cons (.bi .len (.cons (.var 4) .nil)) (.cons (.bi .len (.cons (.var 4) .nil)) (.cons (.call "_law_take" (.cons (.var 0) (.cons (.bin .Add (.bi .len (.cons (.var 4) .nil)) (.con (.int 1))) .nil))) (.cons (.con (.int 1)) .nil))))) (.call "_law_take" (.cons (.var 0) (.cons (.con (.int 4)) .nil)))))
 (.cons (.exp (.mt .append (.var 5) (.cons (.call "_law_drawn_order" (.cons (.var 0) (.cons (.var 4) (.cons (.var 9) .nil)))) .nil))) .nil)))
 (.cons (.asg (.v 7) (.mls .nil))
 (.cons (.for (.v 8) (.ex (.var 4)) (.cons (.iff (.cmp .Gt (.call "_law_take" (.cons (.var 0) (.cons (.con (.int 8)) .nil))) (.con (.int 0))) (.cons (.asg (.v 9) (.idx (.lst (.cons (.bi .len (.cons (.var 5) .nil)) (.cons (.bi .len (.cons (.var 5) .nil)) (.cons (.call "_law_take" (.cons (.var 0) (.cons (.bin .Add (.bi .len (.cons (.var 5) .nil)) (.con (.int 1))) .nil))) .nil)))) (.call "_law_take" (.cons (.var 0) (.cons (.con (.int 3)) .nil)))))
 (.cons (.exp (.mt .append (.var 7) (.cons (.tup (.cons (.var 8) (.cons (.call "_law_drawn_order" (.cons (.var 0) (.cons (.lsr false (.cons (.bi .len (.cons (.var 5) .nil)) .nil)) (.cons (.var 9) .nil)))) .nil))) .nil))) .nil)) (.nil)) .nil))
 (.cons (.ret (.lst (.cons (.bi .tuple (.cons (.var 5) .nil)) (.cons (.bi .tuple (.cons (.var 7) .nil)) .nil)))) .nil))))))
def g14 : Fn := ⟨"_law_thrones", "_law_thrones", ["_law_state", "_law_most", "_law_many", "_law_first", "_law_pool", "_law_orders", "_law_throne", "_law_wishes", "_law_who", "_law_size"], 3, y14⟩
def d14 : He.DefD := ⟨("_law_thrones", none), "_law_thrones", "_law_thrones", defArgs (top 18), defBody (top 18), defScope (top 18), [], []⟩
/-- _law_walked -/
def y15 : Sms :=
 .cons (.asg (.v 2) (.rep (.cons (.neg (.con (.int 1))) .nil) (.bi .len (.cons (.var 0) .nil))))
 (.cons (.asg (.v 3) (.rep (.cons (.con (.int 0)) .nil) (.bi .len (.cons (.var 0) .nil))))
 (.cons (.for (.t [4, 5, 6]) (.ex (.var 1)) (.cons (.asg (.v 7) (.idx (.var 3) (.var 4)))
 (.cons (.iff (.bop false (.cons (.cmp .NotEq (.idx (.var 2) (.var 4)) (.neg (.con (.int 1)))) (.cons (.cmp .NotEq (.slc (.idx (.var 0) (.var 4)) (.cons (.var 7) .nil) (.cons (.bin .Add (.var 7) (.con (.int 1))) .nil)) (.tup (.cons (.var 5) .nil))) .nil))) (.cons (.ret (.con (.none))) .nil) (.nil))
 (.cons (.sub (.var 3) (.var 4) (.bin .Add (.idx (.var 3) (.var 4)) (.con (.int 1))))
 (.cons (.iff (.cmp .Eq (.var 6) (.con (.str "turns"))) (.cons (.sub (.var 2) (.mt .index (.var 2) (.cons (.var 5) .nil)) (.neg (.con (.int 1)))) .nil) (.nil))
 (.cons (.iff (.cmp .NotEq (.var 6) (.con (.str "no"))) (.cons (.sub (.var 2) (.var 4) (.var 5)) .nil) (.nil)) .nil))))))
 (.cons (.ret (.bi .tuple (.cons (.var 2) .nil))) .nil)))
def g15 : Fn := ⟨"_law_walked", "_law_walked", ["_law_orders", "_law_asks", "_law_sharing", "_law_asked", "_law_throne", "_law_who", "_law_word", "_law_at"], 2, y15⟩
def d15 : He.DefD := ⟨("_law_walked", none), "_law_walked", "_law_walked", defArgs (top 19), defBody (top 19), defScope (top 19), [], []⟩
/-- _law_no_better -/
def y16 : Sms :=
 .cons (.for (.t [4, 5]) (.enm (.var 0)) (.cons (.iff (.cmp .NotEq (.cmp .Eq (.idx (.var 2) (.var 4)) (.neg (.con (.int 1)))) (.cmp .Eq (.idx (.var 3) (.var 4)) (.neg (.con (.int 1))))) (.cons (.ret (.con (.bool false))) .nil) (.nil))
 (.cons (.asg (.v 6) (.idx (.var 2) (.var 4)))
 (.cons (.iff (.bop true (.cons (.cmp .NotEq (.var 6) (.neg (.con (.int 1)))) (.cons (.cmp .Lt (.mt .index (.var 5) (.cons (.idx (.var 3) (.var 4)) .nil)) (.mt .index (.var 5) (.cons (.var 6) .nil))) .nil))) (.cons (.ret (.con (.bool false))) .nil) (.nil)) .nil))))
 (.cons (.for (.t [7, 8]) (.ex (.var 1)) (.cons (.iff (.cmp .NotEq (.cmp .In (.var 7) (.var 2)) (.cmp .In (.var 7) (.var 3))) (.cons (.ret (.con (.bool false))) .nil) (.nil))
 (.cons (.iff (.cmp .In (.var 7) (.var 2)) (.cons (.iff (.cmp .Lt (.mt .index (.var 8) (.cons (.mt .index (.var 2) (.cons (.var 7) .nil)) .nil)) (.mt .index (.var 8) (.cons (.mt .index (.var 3) (.cons (.var 7) .nil)) .nil))) (.cons (.ret (.con (.bool false))) .nil) (.nil)) .nil) (.nil)) .nil)))
 (.cons (.ret (.con (.bool true))) .nil))
def g16 : Fn := ⟨"_law_no_better", "_law_no_better", ["_law_orders", "_law_wishes", "_law_one", "_law_other", "_law_throne", "_law_order", "_law_mine", "_law_who", "_law_thrones_here"], 4, y16⟩
def d16 : He.DefD := ⟨("_law_no_better", none), "_law_no_better", "_law_no_better", defArgs (top 20), defBody (top 20), defScope (top 20), [], []⟩
/-- law -/
def y17 : Sms :=
 .cons (.asg (.v 1) (.mls (.cons (.var 0) (.cons (.con (.int 0)) (.cons (.con (.int 0)) (.cons (.con (.int 74)) .nil))))))
 (.cons (.for (.v 2) (.rng (.cons (.con (.int 3)) .nil)) (.cons (.asg (.t [7, 8]) (.call "_law_thrones" (.cons (.var 1) (.cons (.con (.int 6)) (.cons (.con (.int 12)) .nil)))))
 (.cons (.asg (.v 3) (.bi .len (.cons (.var 7) .nil)))
 (.cons (.asg (.v 4) (.idx (.call "by_thrones" (.cons (.var 7) (.cons (.var 8) (.cons (.lsr true (.cons (.var 3) .nil)) .nil)))) (.con (.int 0))))
 (.cons (.for (.v 5) (.rng (.cons (.con (.int 5)) .nil)) (.cons (.asg (.v 9) (.call "_law_drawn_order" (.cons (.var 1) (.cons (.lsr false (.cons (.var 3) .nil)) (.cons (.var 3) .nil)))))
 (.cons (.asg (.t [10, 11]) (.call "by_thrones" (.cons (.var 7) (.cons (.var 8) (.cons (.var 9) .nil)))))
 (.cons (.iff (.bop false (.cons (.cmp .NotEq (.var 10) (.var 4)) (.cons (.cmp .NotEq (.call "_law_walked" (.cons (.var 7) (.cons (.var 11) .nil))) (.var 4)) .nil))) (.cons (.ret (.con (.bool false))) .nil) (.nil)) .nil))))
 (.cons (.asg (.v 6) (.call "by_folk" (.cons (.var 7) (.cons (.var 8) .nil))))
 (.cons (.iff (.cmp .IsNot (.call "at_rest" (.cons (.var 7) (.cons (.var 8) (.cons (.var 4) .nil)))) (.con (.bool true))) (.cons (.ret (.con (.bool false))) .nil) (.nil))
 (.cons (.iff (.cmp .IsNot (.call "at_rest" (.cons (.var 7) (.cons (.var 8) (.cons (.var 6) .nil)))) (.con (.bool true))) (.cons (.ret (.con (.bool false))) .nil) (.nil))
 (.cons (.iff (.nt (.call "_law_no_better" (.cons (.var 7) (.cons (.var 8) (.cons (.var 4) (.cons (.var 6) .nil)))))) (.cons (.ret (.con (.bool false))) .nil) (.nil)) .nil)))))))))
 (.cons (.ret (.con (.bool true))) .nil))
def g17 : Fn := ⟨"law", "law", ["_law_script", "_law_state", "_law_turn", "_law_many", "_law_first", "_law_k", "_law_other", "_law_orders", "_law_wishes", "_law_some", "_law_sharing", "_law_asks"], 1, y17⟩
def d17 : He.DefD := ⟨("law", none), "law", "law", defArgs (top 21), defBody (top 21), defScope (top 21), [], []⟩
def P : List Fn := [g0, g1, g2, g3, g4, g5, g6, g7, g8, g9, g10, g11, g12, g13, g14, g15, g16, g17]
def fn : List He.DefD := [d0, d1, d2, d3, d4, d5, d6, d7, d8, d9, d10, d11, d12, d13, d14, d15, d16, d17]
def fr : List Str := ["bool", "enumerate", "int", "isinstance", "len", "list", "min", "range", "tuple"]
def ers : List String := []
def eis : List (String × List String × String) := []
def gls : List (Str × PyData) := []
end DL.k74
end
section
set_option maxRecDepth 100000
set_option maxHeartbeats 0
namespace DL.k74
open PySem PySem.Spec PyProof.Rows L2 PySem.W DL

abbrev R : PySem.W.OpenRow := PySem.W.OpenLaw.row RwL
abbrev hk : PySem.W.Hook := hookX 7 (faOf P fr) ers eis gls fn
def ob (s : PySem.W.SharedT) : He.AlD := obsXG 7 (faOf P fr) ers eis gls fn (HandSHeadRun.getT s)
theorem ob_eq (s : PySem.W.SharedT) : ob s = hk.obs s.abs := obsXG_eq (HandSHeadRun.getT_eq s)
theorem run (w : World) : HandSHeadRun.RunEq R (PySem.W.view R.prog [21]) hk ob 3000 (("is_number" : Str) :: ("wished_by" : Str) :: ("throne_of" : Str) :: ("would_take" : Str) :: ("would_give" : Str) :: ("is_right" : Str) :: ("at_rest" : Str) :: ("next_throne" : Str) :: ("answer_of" : Str) :: ("by_thrones" : Str) :: ("next_asker" : Str) :: ("by_folk" : Str) :: ("_law_take" : Str) :: ("_law_drawn_order" : Str) :: ("_law_thrones" : Str) :: ("_law_walked" : Str) :: ("_law_no_better" : Str) :: ([] : List Str)) w := by
  intro os
  kernel_rfl
end DL.k74
end

section
set_option maxRecDepth 100000
/-! DL2: how values and memory stand in the abstract heap. Ours. -/
namespace DL
open PySem PySem.Spec PyProof.Rows L2

/-- the mutable objects' addresses; those of hidden ones -/
structure MM where
  m : List Addr
  z : List Addr
def MM.add (Mm : MM) (p : Addr) : MM := ⟨Mm.m ++ [p], Mm.z⟩
def MM.hide (Mm : MM) (p : Addr) : MM := ⟨Mm.m, p :: Mm.z⟩
/-- the heap without the mutable and the hidden objects -/
def isFz : HO → Bool
  | .frz _ _ => true
  | _ => false
def fz (Mm : MM) (H : Hp) : Hp := fun a => if a ∈ Mm.m ++ Mm.z then (match H a with
  | some u => if isFz u = true then some u else none
  | none => none) else H a
theorem fz_some {Mm : MM} {H : Hp} {a : Addr} {o : HO} : fz Mm H a = some o ↔ (a ∈ Mm.m ++ Mm.z → isFz o = true) ∧ H a = some o := by
  unfold fz
  by_cases h : a ∈ Mm.m ++ Mm.z
  · rw [if_pos h]
    cases e : H a with
    | none => exact ⟨fun e => (nomatch e), fun e => (nomatch e.2)⟩
    | some u =>
      dsimp only
      by_cases c : isFz u = true
      · rw [if_pos c]
        exact ⟨fun e => ⟨fun _ => by cases e; exact c, e⟩, fun e => e.2⟩
      · rw [if_neg c]
        exact ⟨fun e => (nomatch e), fun e => by
          have h1 := e.1 h
          cases e.2
          exact absurd h1 c⟩
  · rw [if_neg h]
    exact ⟨fun e => ⟨fun hm => absurd hm h, e⟩, fun e => e.2⟩
/-- not frozen -/
def NoFz (H : Hp) (a : Addr) : Prop := ∃ v, H a = some v ∧ isFz v = false
def Sub (G G' : Hp) : Prop := ∀ b o, G b = some o → G' b = some o
theorem Sub.refl (G : Hp) : Sub G G := fun _ _ h => h
theorem Sub.trans {A B C : Hp} (h : Sub A B) (h' : Sub B C) : Sub A C := fun b o e => h' b o (h b o e)
theorem fz_sub (Mm : MM) (H : Hp) : Sub (fz Mm H) H := fun _ _ e => (fz_some.mp e).2

/-- a tuple that stands still, its object without a dict of its own -/
def TupN (K : PySem.W.Frag) (G : Hp) (a : Addr) (xs : List V) : Prop :=
  (∃ o, G a = some (.frz o (.tup xs)) ∧ o.dict = none) ∨
    ∃ (o : Obj) (its : Array Value) (n : Nat), K.lookup a = some o ∧ o.cls = .type "tuple" ∧ o.dict = none ∧ o.data = .seq its n ∧ its.size ≤ sizeLine ∧ Vals xs its.toList
theorem TupN.sq {K : PySem.W.Frag} {G : Hp} {a : Addr} {xs : List V} (h : TupN K G a xs) : SqT K G a xs := by
  rcases h with ⟨o, h, _⟩ | ⟨o, its, n, h1, h2, _, h3, h4, h5⟩
  · exact .inl (.inr ⟨o, h⟩)
  · exact .inr ⟨o, its, n, h1, h2, h3, h4, h5⟩
theorem TupN.sub {K : PySem.W.Frag} {H H' : Hp} {a : Addr} {xs : List V} (h : TupN K H a xs) (e : Sub H H') : TupN K H' a xs := by
  rcases h with ⟨o, h, d⟩ | h
  · exact .inl ⟨o, e _ _ h, d⟩
  · exact .inr h
mutual
inductive Rp (K : PySem.W.Frag) (G : Hp) : V → PyData → Prop
  | non : Rp K G .non .none
  | bl (b : Bool) : Rp K G (.bl b) (.bool b)
  | int (i : Int) : Rp K G (.int i) (.int i)
  | str (x : Str) : Rp K G (.str x) (.str x)
  | lst {a : Addr} {xs : List V} {ds : List PyData} : SqL K G a xs → RpA K G xs ds → Rp K G (.ref a) (.list ds)
  | tup {a : Addr} {xs : List V} {ds : List PyData} : TupN K G a xs → RpA K G xs ds → Rp K G (.ref a) (.tuple ds)
  | dct {a : Addr} {o : Obj} {kvs : List (Key × V)} {ds : List (PyData × PyData)} : G a = some (.frz o (.dK kvs)) → RpK K G kvs ds → Rp K G (.ref a) (.dict ds)
inductive RpA (K : PySem.W.Frag) (G : Hp) : List V → List PyData → Prop
  | nil : RpA K G [] []
  | cons {v : V} {vs : List V} {d : PyData} {ds : List PyData} : Rp K G v d → RpA K G vs ds → RpA K G (v :: vs) (d :: ds)
inductive RpK (K : PySem.W.Frag) (G : Hp) : List (Key × V) → List (PyData × PyData) → Prop
  | nil : RpK K G [] []
  | cons {k : Key} {v : V} {vs : List (Key × V)} {d : PyData} {ds : List (PyData × PyData)} : Rp K G v d → RpK K G vs ds → RpK K G ((k, v) :: vs) ((kP k, d) :: ds)
end
theorem SqL.sub {K : PySem.W.Frag} {H H' : Hp} {a : Addr} {xs : List V} (h : SqL K H a xs) (e : Sub H H') : SqL K H' a xs :=
  h.elim (fun h => .inl (h.elim (fun h => .inl (e _ _ h)) fun ⟨o, h⟩ => .inr ⟨o, e _ _ h⟩)) fun h => .inr h
theorem SqT.sub {K : PySem.W.Frag} {H H' : Hp} {a : Addr} {xs : List V} (h : SqT K H a xs) (e : Sub H H') : SqT K H' a xs :=
  h.elim (fun h => .inl (h.elim (fun h => .inl (e _ _ h)) fun ⟨o, h⟩ => .inr ⟨o, e _ _ h⟩)) fun h => .inr h
section
variable {K : PySem.W.Frag} {G G' : Hp}
mutual
theorem Rp.mono (e : Sub G G') : ∀ {v : V} {d : PyData}, Rp K G v d → Rp K G' v d
  | _, _, .non => .non
  | _, _, .bl b => .bl b
  | _, _, .int i => .int i
  | _, _, .str x => .str x
  | _, _, .lst h r => .lst (SqL.sub h e) (RpA.mono e r)
  | _, _, .tup h r => .tup (TupN.sub h e) (RpA.mono e r)
  | _, _, .dct h r => .dct (e _ _ h) (RpK.mono e r)
theorem RpA.mono (e : Sub G G') : ∀ {v : List V} {d : List PyData}, RpA K G v d → RpA K G' v d
  | _, _, .nil => .nil
  | _, _, .cons h r => .cons (Rp.mono e h) (RpA.mono e r)
theorem RpK.mono (e : Sub G G') : ∀ {v : List (Key × V)} {d : List (PyData × PyData)}, RpK K G v d → RpK K G' v d
  | _, _, .nil => .nil
  | _, _, .cons h r => .cons (Rp.mono e h) (RpK.mono e r)
end
mutual
theorem Rp.dp : ∀ {v : V} {d : PyData}, Rp K G v d → d.canLay0 = true → Dp K G v d
  | _, _, .non, _ => .non
  | _, _, .bl b, _ => .bl b
  | _, _, .int i, _ => .int i
  | _, _, .str x, _ => .str x
  | _, _, .lst h r, c => .lst h (RpA.dp r (by simpa [PyData.canLay0] using c))
  | _, _, .tup h r, c => .tup h.sq (RpA.dp r (by simpa [PyData.canLay0] using c))
  | _, _, .dct h r, c => by simp [PyData.canLay0] at c
theorem RpA.dp : ∀ {v : List V} {d : List PyData}, RpA K G v d → PyData.canLayAll0 d = true → DpAll K G v d
  | _, _, .nil, _ => .nil
  | _, _, .cons h r, c => by
    simp only [PyData.canLayAll0, Bool.and_eq_true] at c
    exact .cons (Rp.dp h c.1) (RpA.dp r c.2)
end
theorem Rp.shaped {v : V} {d : PyData} (h : Rp K G v d) (c : SeqAt.shaped d = true) : Dp K G v d := h.dp (SeqAt.canLay_of_shaped c)
theorem RpA.length : ∀ {v : List V} {d : List PyData}, RpA K G v d → v.length = d.length
  | _, _, .nil => rfl
  | _, _, .cons _ r => congrArg Nat.succ (RpA.length r)
theorem RpA.get : ∀ {v : List V} {d : List PyData} {i : Nat} {p : PyData}, RpA K G v d → d[i]? = some p → ∃ x, v[i]? = some x ∧ Rp K G x p
  | _, _, _, _, .nil, e => by simp at e
  | _, _, 0, _, .cons h _, e => by simp at e; subst e; exact ⟨_, rfl, h⟩
  | _, _, i + 1, p, .cons _ r, e => by
    obtain ⟨x, h1, h2⟩ := RpA.get (i := i) (p := p) r (by simpa using e)
    exact ⟨x, by simpa using h1, h2⟩
theorem RpA.get' : ∀ {v : List V} {d : List PyData} {i : Nat} {x : V}, RpA K G v d → v[i]? = some x → ∃ p, d[i]? = some p ∧ Rp K G x p
  | _, _, _, _, .nil, e => by simp at e
  | _, _, 0, _, .cons h _, e => by simp at e; subst e; exact ⟨_, rfl, h⟩
  | _, _, i + 1, p, .cons _ r, e => by
    obtain ⟨x, h1, h2⟩ := RpA.get' (i := i) (x := p) r (by simpa using e)
    exact ⟨x, by simpa using h1, h2⟩
theorem RpA.append : ∀ {v w : List V} {d e : List PyData}, RpA K G v d → RpA K G w e → RpA K G (v ++ w) (d ++ e)
  | _, _, _, _, .nil, s => s
  | _, _, _, _, .cons r t, s => .cons r (RpA.append t s)
theorem RpA.take : ∀ {v : List V} {d : List PyData} (n : Nat), RpA K G v d → RpA K G (v.take n) (d.take n)
  | _, _, 0, _ => .nil
  | _, _, _ + 1, .nil => .nil
  | _, _, n + 1, .cons r t => .cons r (RpA.take n t)
theorem RpA.drop : ∀ {v : List V} {d : List PyData} (n : Nat), RpA K G v d → RpA K G (v.drop n) (d.drop n)
  | _, _, 0, r => r
  | _, _, _ + 1, .nil => .nil
  | _, _, n + 1, .cons _ t => RpA.drop n t
theorem RpA.reverse {v : List V} {d : List PyData} (h : RpA K G v d) : RpA K G v.reverse d.reverse := by
  induction v generalizing d with
  | nil => cases h; exact .nil
  | cons x r ih =>
    cases h with
    | cons h1 h2 =>
      rw [List.reverse_cons, List.reverse_cons]
      exact (ih h2).append (.cons h1 .nil)
theorem RpA.dropLast {v : List V} {d : List PyData} (h : RpA K G v d) : RpA K G v.dropLast d.dropLast := by
  rw [List.dropLast_eq_take, List.dropLast_eq_take, h.length]
  exact h.take _
theorem RpA.eraseIdx : ∀ {v : List V} {d : List PyData} (i : Nat), RpA K G v d → RpA K G (v.eraseIdx i) (d.eraseIdx i)
  | _, _, _, .nil => .nil
  | _, _, 0, .cons _ t => t
  | _, _, i + 1, .cons r t => .cons r (RpA.eraseIdx i t)
theorem RpA.set {x : V} {p : PyData} (q : Rp K G x p) : ∀ {v : List V} {d : List PyData} (i : Nat), RpA K G v d → RpA K G (v.set i x) (d.set i p)
  | _, _, _, .nil => .nil
  | _, _, 0, .cons _ t => .cons q t
  | _, _, i + 1, .cons r t => .cons r (RpA.set q i t)
theorem RpA.rep {v : List V} {d : List PyData} (h : RpA K G v d) : ∀ k : Nat, RpA K G (List.replicate k v).flatten (List.replicate k d).flatten
  | 0 => .nil
  | k + 1 => by
    rw [List.replicate_succ, List.replicate_succ, List.flatten_cons, List.flatten_cons]
    exact h.append (h.rep k)
theorem RpA.ints : ∀ {v : List V} {d : List PyData}, RpA K G v d → ∀ {ns : List Int}, allInts d = some ns → v = ns.map V.int
  | _, _, .nil, ns, e => by simp [allInts] at e; subst e; rfl
  | _, _, .cons h r, ns, e => by
    cases h with
    | int i =>
      simp only [allInts, Option.map_eq_some_iff] at e
      obtain ⟨ms, e1, rfl⟩ := e
      rw [List.map_cons, ← RpA.ints r e1]
    | _ => simp [allInts] at e
theorem RpA.bools : ∀ {v : List V} {d : List PyData}, RpA K G v d → ∀ {ns : List Bool}, allBools d = some ns → v = ns.map V.bl
  | _, _, .nil, ns, e => by simp [allBools] at e; subst e; rfl
  | _, _, .cons h r, ns, e => by
    cases h with
    | bl i =>
      simp only [allBools, Option.map_eq_some_iff] at e
      obtain ⟨ms, e1, rfl⟩ := e
      rw [List.map_cons, ← RpA.bools r e1]
    | _ => simp [allBools] at e
end

/-! ### keys that are tuples -/
theorem kD_some {d : PyData} {k : Key} (h : kD d = some k) : d = kP k := by
  cases d <;> simp only [kD] at h <;> first | cases h; rfl | cases h
theorem kDs_some : ∀ {xs : List PyData} {ks : List Key}, kDs xs = some ks → xs = ks.map kP
  | [], ks, h => by cases h; rfl
  | d :: r, ks, h => by
    simp only [kDs] at h
    split at h
    · rename_i k ks' h1 h2
      cases h
      rw [kD_some h1, kDs_some h2]
      rfl
    · cases h
theorem ktDs_some : ∀ {xs : List PyData} {ks : List (List Key)}, ktDs xs = some ks → xs = ks.map encK
  | [], ks, h => by cases h; rfl
  | d :: r, ks, h => by
    cases d with
    | tuple xs =>
      simp only [ktDs] at h
      split at h
      · rename_i k ks' h1 h2
        cases h
        rw [ktDs_some h2, kDs_some h1]
        rfl
      · cases h
    | _ => simp [ktDs] at h
theorem eqv_kP (a b : Key) : PyData.eqv (kP a) (kP b) = decide (a = b) := by
  rw [Bool.eq_iff_iff, decide_eq_true_eq]
  cases a <;> cases b <;> simp [kP, PyData.eqv]
theorem eqv_kPs : ∀ a b : List Key, PyData.eqvAll (a.map kP) (b.map kP) = decide (a = b)
  | [], [] => rfl
  | [], _ :: _ => rfl
  | _ :: _, [] => rfl
  | x :: a, y :: b => by
    rw [List.map_cons, List.map_cons, PyData.eqvAll, eqv_kP, eqv_kPs a b]
    by_cases h1 : x = y <;> by_cases h2 : a = b <;> simp [h1, h2]
theorem eqv_encK (a b : List Key) : PyData.eqv (encK a) (encK b) = decide (a = b) := by rw [encK, encK, PyData.eqv, eqv_kPs]
theorem isKy_some {p : PyData} (h : isKy p = true) : ∃ k : Key, p = kP k := by
  cases p with
  | int i => exact ⟨.inl i, rfl⟩
  | str x => exact ⟨.inr x, rfl⟩
  | _ => cases h
theorem isKy_kP (k : Key) : isKy (kP k) = true := by cases k <;> rfl
/-- a dict asked, and changed, on both sides -/
theorem RpK.get {K : PySem.W.Frag} {G : Hp} (k : Key) : ∀ {vs : List (Key × V)} {ds : List (PyData × PyData)}, RpK K G vs ds → (valV vs k = none ∧ lkP (kP k) ds = none) ∨ ∃ v p, valV vs k = some v ∧ lkP (kP k) ds = some p ∧ Rp K G v p
  | _, _, .nil => .inl ⟨rfl, rfl⟩
  | (j, v) :: vs, _ :: ds, .cons h r => by
    unfold lkP
    by_cases e : j = k
    · subst e
      refine .inr ⟨v, _, valV_pos rfl, ?_, h⟩
      rw [if_pos (by rw [eqv_kP]; exact decide_eq_true rfl)]
    · rw [valV_neg (by exact e), if_neg (by rw [eqv_kP, decide_eq_false e]; exact Bool.false_ne_true)]
      exact r.get k
theorem RpK.length {K : PySem.W.Frag} {G : Hp} : ∀ {vs : List (Key × V)} {ds : List (PyData × PyData)}, RpK K G vs ds → vs.length = ds.length
  | _, _, .nil => rfl
  | _, _, .cons _ r => congrArg Nat.succ r.length
theorem RpK.any {K : PySem.W.Frag} {G : Hp} (k : Key) : ∀ {vs : List (Key × V)} {ds : List (PyData × PyData)}, RpK K G vs ds → (ds.any fun e => PyData.eqv e.1 (kP k)) = (vs.any fun kv => decide (kv.1 = k))
  | _, _, .nil => rfl
  | (j, v) :: vs, _ :: ds, .cons h r => by rw [List.any_cons, List.any_cons, r.any k, eqv_kP]
theorem RpK.app {K : PySem.W.Frag} {G : Hp} {k : Key} {v : V} {p : PyData} (h : Rp K G v p) : ∀ {vs : List (Key × V)} {ds : List (PyData × PyData)}, RpK K G vs ds → RpK K G (vs ++ [(k, v)]) (ds ++ [(kP k, p)])
  | _, _, .nil => .cons h .nil
  | _, _, .cons q r => .cons q (r.app h)
theorem RpK.map {K : PySem.W.Frag} {G : Hp} {k : Key} {v : V} {p : PyData} (h : Rp K G v p) : ∀ {vs : List (Key × V)} {ds : List (PyData × PyData)}, RpK K G vs ds → RpK K G (vs.map fun kv => if kv.1 = k then (kv.1, v) else kv) (ds.map fun e => if PyData.eqv e.1 (kP k) = true then (e.1, p) else e)
  | _, _, .nil => .nil
  | (j, u) :: vs, _ :: ds, .cons q r => by
    rw [List.map_cons, List.map_cons]
    by_cases e : j = k
    · rw [if_pos e, if_pos (by rw [eqv_kP]; exact decide_eq_true e)]
      exact .cons h (r.map h)
    · rw [if_neg e, if_neg (by rw [eqv_kP, decide_eq_false e]; exact Bool.false_ne_true)]
      exact .cons q (r.map h)
theorem RpK.put {K : PySem.W.Frag} {G : Hp} {k : Key} {v : V} {p : PyData} {vs : List (Key × V)} {ds : List (PyData × PyData)} (r : RpK K G vs ds) (h : Rp K G v p) : RpK K G (putK vs k v) (putP (kP k) p ds) := by
  unfold putK putP
  rw [r.any k]
  split
  · exact r.map h
  · exact r.app h
theorem RpK.keys {K : PySem.W.Frag} {G : Hp} : ∀ {vs : List (Key × V)} {ds : List (PyData × PyData)}, RpK K G vs ds → ds.map (·.1) = vs.map fun kv => kP kv.1
  | _, _, .nil => rfl
  | _, _, .cons _ r => by rw [List.map_cons, List.map_cons, r.keys]
theorem Rp.ky {K : PySem.W.Frag} {G : Hp} {v : V} {k : Key} (r : Rp K G v (kP k)) : v = kV k := by
  cases k <;> (cases r; rfl)
theorem rp_kV {K : PySem.W.Frag} {G : Hp} (k : Key) : Rp K G (kV k) (kP k) := by
  cases k
  · exact .int _
  · exact .str _
/-! ### dicts by flat tuples -/
/-- the program and the world -/
class PWd where
  P : Program
  w : World
def TD0 (P : Program) (w : World) (h : Heap) (a : Addr) (xs : List (List Key × Addr × Value)) : Prop := (a == sysModules) = false ∧ xs.length ≤ sizeLine ∧ ∃ (o : Obj) (es : Array DictEntry) (ep : Nat), h.get? a = some o ∧ o.ExactDict ∧ o.data = .dict es ep ∧ es.toList = xs.map (entryOfKey (tupleKind (mixKind P w))) ∧ (xs.map (·.1)).Nodup
def TdO (P : Program) (w : World) (a : Addr) (xs : List (List Key × Addr × Value)) : HO := .ext fun h => TD0 P w h a xs
theorem td_obj {P : Program} {w : World} {H : Hp} {h : Heap} {a : Addr} {xs : List (List Key × Addr × Value)} (R : TD0 P w h a xs) : ObjOk P w H h a (TdO P w a xs) := by
  have ⟨z, l, o, es, ep, ho, r⟩ := R
  exact ⟨R, ⟨o, ho⟩, fun h1 h2 ⟨z', l', o', es', ep', ho', r'⟩ k => ⟨z', l', o', es', ep', k o' ho', r'⟩⟩
inductive TdR (K : PySem.W.Frag) (G : Hp) : List (List Key × Addr × Value) → List (PyData × PyData) → Prop
  | nil : TdR K G [] []
  | cons {k : List Key} {a : Addr} {u : Value} {v : V} {d : PyData} {xs : List (List Key × Addr × Value)} {ds : List (PyData × PyData)} : Rp K G (.ref a) (encK k) → RelV v u → Rp K G v d → TdR K G xs ds → TdR K G ((k, a, u) :: xs) ((encK k, d) :: ds)
theorem TdR.mono {K : PySem.W.Frag} {G G' : Hp} (e : Sub G G') {xs : List (List Key × Addr × Value)} {ds : List (PyData × PyData)} (r : TdR K G xs ds) : TdR K G' xs ds := by
  induction r with
  | nil => exact .nil
  | cons h1 h2 h3 _ ih => exact .cons (h1.mono e) h2 (h3.mono e) ih
theorem TdR.length {K : PySem.W.Frag} {G : Hp} {xs : List (List Key × Addr × Value)} {ds : List (PyData × PyData)} (r : TdR K G xs ds) : xs.length = ds.length := by
  induction r with
  | nil => rfl
  | cons _ _ _ _ ih => exact congrArg Nat.succ ih
theorem TdR.keys {K : PySem.W.Frag} {G : Hp} {xs : List (List Key × Addr × Value)} {ds : List (PyData × PyData)} (r : TdR K G xs ds) : ds.map (·.1) = (xs.map (·.1)).map encK ∧ RpA K G (xs.map fun x => V.ref x.2.1) (ds.map (·.1)) := by
  induction r with
  | nil => exact ⟨rfl, .nil⟩
  | cons h1 _ _ _ ih => exact ⟨by rw [List.map_cons, List.map_cons, List.map_cons, ih.1], .cons h1 ih.2⟩
theorem TdR.get {K : PySem.W.Frag} {G : Hp} (k : List Key) {xs : List (List Key × Addr × Value)} {ds : List (PyData × PyData)} (r : TdR K G xs ds) : (atKey xs k = none ∧ lkP (encK k) ds = none) ∨ ∃ p v d, atKey xs k = some p ∧ lkP (encK k) ds = some d ∧ RelV v p.2 ∧ Rp K G v d := by
  induction r with
  | nil => exact .inl ⟨rfl, rfl⟩
  | cons h1 h2 h3 _ ih =>
    rename_i j a u v d xs ds _
    unfold lkP
    dsimp only
    rw [eqv_encK]
    by_cases e : j = k
    · refine .inr ⟨(a, u), v, d, ?_, ?_, h2, h3⟩
      · simp [atKey, List.find?_cons, e]
      · rw [decide_eq_true e, if_pos rfl]
    · have b : atKey ((j, a, u) :: xs) k = atKey xs k := by simp [atKey, List.find?_cons, e]
      rw [b, decide_eq_false e, if_neg Bool.false_ne_true]
      exact ih
theorem TdR.any {K : PySem.W.Frag} {G : Hp} (k : List Key) {xs : List (List Key × Addr × Value)} {ds : List (PyData × PyData)} (r : TdR K G xs ds) : (ds.any fun e => PyData.eqv e.1 (encK k)) = (atKey xs k).isSome := by
  induction r with
  | nil => rfl
  | cons h1 h2 h3 _ ih =>
    rename_i j a u v d xs ds _
    rw [List.any_cons]
    dsimp only
    rw [eqv_encK]
    by_cases e : j = k
    · rw [decide_eq_true e, Bool.true_or]
      simp [atKey, List.find?_cons, e]
    · have b : atKey ((j, a, u) :: xs) k = atKey xs k := by simp [atKey, List.find?_cons, e]
      rw [b, decide_eq_false e, Bool.false_or]
      exact ih
theorem TdR.put {K : PySem.W.Frag} {G : Hp} {k : List Key} {b : Addr} {u : Value} {v : V} {d : PyData} {xs : List (List Key × Addr × Value)} {ds : List (PyData × PyData)} (r : TdR K G xs ds) (hk : Rp K G (.ref b) (encK k)) (hu : RelV v u) (hv : Rp K G v d) : TdR K G (storedH xs k b u) (putP (encK k) d ds) := by
  have hany := r.any k
  unfold storedH putP
  rw [hany]
  by_cases c : (atKey xs k).isSome = true
  · rw [if_pos c, if_pos c]
    clear hany c
    induction r with
    | nil => exact .nil
    | cons h1 h2 h3 _ ih =>
      rename_i j a u' v' d' xs ds _
      rw [List.map_cons, List.map_cons]
      unfold putAt
      dsimp only
      rw [eqv_encK]
      by_cases e : j = k
      · rw [if_pos e, decide_eq_true e, if_pos rfl]
        exact .cons h1 hu hv ih
      · rw [if_neg e, decide_eq_false e, if_neg Bool.false_ne_true]
        exact .cons h1 h2 h3 ih
  · rw [if_neg c, if_neg c]
    clear hany c
    induction r with
    | nil => exact .cons hk hu hv .nil
    | cons h1 h2 h3 _ ih => exact .cons h1 h2 h3 ih
/-! ### values and memory -/
variable [PWd]
section
variable (K : PySem.W.Frag)
def Rep (Mm : MM) (H : Hp) (v : V) : D → Prop
  | .im d => Rp K (fz Mm H) v d
  | .rf i => ∃ a, v = .ref a ∧ Mm.m[i]? = some a
inductive RepA (Mm : MM) (H : Hp) : List V → List D → Prop
  | nil : RepA Mm H [] []
  | cons {v : V} {vs : List V} {d : D} {ds : List D} : Rep K Mm H v d → RepA Mm H vs ds → RepA Mm H (v :: vs) (d :: ds)
inductive RepK (Mm : MM) (H : Hp) : List (Key × V) → List (PyData × D) → Prop
  | nil : RepK Mm H [] []
  | cons {k : Key} {v : V} {vs : List (Key × V)} {d : D} {ds : List (PyData × D)} : Rep K Mm H v d → RepK Mm H vs ds → RepK Mm H ((k, v) :: vs) ((kP k, d) :: ds)
def ObR (Mm : MM) (H : Hp) (a : Addr) : Ob → Prop
  | .lst xs => ∃ vs, H a = some (.lst vs) ∧ RpA K (fz Mm H) vs xs
  | .dct kvs => ∃ vs, H a = some (.dK vs) ∧ RpK K (fz Mm H) vs kvs
  | .fdct kvs => ∃ o vs, H a = some (.frz o (.dK vs)) ∧ RpK K (fz Mm H) vs kvs
  | .flst xs => ∃ o vs, H a = some (.frz o (.lst vs)) ∧ RpA K (fz Mm H) vs xs
  | .tdc kvs => ∃ xs, H a = some (TdO PWd.P PWd.w a xs) ∧ TdR K (fz Mm H) xs kvs
  | .nl ds => ∃ i vs, Mm.m[i]? = some a ∧ (∀ j, D.rf j ∈ ds → j < i) ∧ H a = some (.lst vs) ∧ RepA K Mm H vs ds
  | .nd kvs => ∃ i vs, Mm.m[i]? = some a ∧ (∀ k j, (k, D.rf j) ∈ kvs → j < i) ∧ H a = some (.dK vs) ∧ RepK K Mm H vs kvs
  | .fnd kvs => ∃ i vs, Mm.m[i]? = some a ∧ (∀ k j, (k, D.rf j) ∈ kvs → j < i) ∧ (∃ o, H a = some (.frz o (.dK vs))) ∧ RepK K Mm H vs kvs
structure RS (Mm : MM) (H : Hp) (S : Mem) : Prop where
  nd : (Mm.m ++ Mm.z).Nodup
  ln : Mm.m.length = S.length
  zs : ∀ a ∈ Mm.z, ∃ o, H a = some o
  ob : ∀ (i : Nat) (a : Addr) (o : Ob), Mm.m[i]? = some a → S[i]? = some o → ObR K Mm H a o
end
/-- the heap goes on: the mutable objects more or else, all else kept -/
structure Ev (Mm : MM) (H : Hp) (Mm' : MM) (H' : Hp) : Prop where
  more : ∃ n, Mm' = ⟨Mm.m ++ n, Mm.z⟩
  hid : ∀ b ∈ Mm.z, H' b = H b
  sub : Sub (fz Mm H) (fz Mm' H')
section
variable {K : PySem.W.Frag} {Mm Mm1 Mm2 : MM} {H H1 H2 : Hp} {S S1 : Mem}
theorem Ev.refl : Ev Mm H Mm H := ⟨⟨[], by cases Mm; simp⟩, fun _ _ => rfl, Sub.refl _⟩
theorem Ev.z (a : Ev Mm H Mm1 H1) : Mm1.z = Mm.z := by
  obtain ⟨n, e⟩ := a.more
  rw [e]
theorem Ev.trans (a : Ev Mm H Mm1 H1) (b : Ev Mm1 H1 Mm2 H2) : Ev Mm H Mm2 H2 := by
  have hz := a.z
  obtain ⟨n, e1⟩ := a.more
  obtain ⟨m, e2⟩ := b.more
  refine ⟨⟨n ++ m, by rw [e2, e1]; simp⟩, fun c hc => ?_, a.sub.trans b.sub⟩
  rw [b.hid c (by rw [hz]; exact hc), a.hid c hc]
theorem Ev.get (a : Ev Mm H Mm1 H1) {i : Nat} {x : Addr} (h : Mm.m[i]? = some x) : Mm1.m[i]? = some x := by
  obtain ⟨n, e⟩ := a.more
  obtain ⟨hi, _⟩ := List.getElem?_eq_some_iff.mp h
  rw [e]
  show (Mm.m ++ n)[i]? = some x
  rw [List.getElem?_append_left hi]
  exact h
theorem Rep.mono {v : V} {d : D} (r : Rep K Mm H v d) (e : Ev Mm H Mm1 H1) : Rep K Mm1 H1 v d := by
  cases d with
  | im p => exact Rp.mono e.sub r
  | rf i =>
    obtain ⟨a, h1, h2⟩ := r
    exact ⟨a, h1, e.get h2⟩
theorem RepA.mono {vs : List V} {ds : List D} (r : RepA K Mm H vs ds) (e : Ev Mm H Mm1 H1) : RepA K Mm1 H1 vs ds := by
  induction r with
  | nil => exact .nil
  | cons h _ ih => exact .cons (h.mono e) ih
theorem RepK.mono {vs : List (Key × V)} {ds : List (PyData × D)} (r : RepK K Mm H vs ds) (e : Ev Mm H Mm1 H1) : RepK K Mm1 H1 vs ds := by
  induction r with
  | nil => exact .nil
  | cons h _ ih => exact .cons (h.mono e) ih
theorem RepK.length {vs : List (Key × V)} {ds : List (PyData × D)} (r : RepK K Mm H vs ds) : vs.length = ds.length := by
  induction r with
  | nil => rfl
  | cons _ _ ih => simp [ih]
theorem RepK.keys {vs : List (Key × V)} {ds : List (PyData × D)} (r : RepK K Mm H vs ds) : ds.map (·.1) = vs.map fun q => kP q.1 := by
  induction r with
  | nil => rfl
  | cons _ _ ih => rw [List.map_cons, List.map_cons, ih]
theorem RepA.length {vs : List V} {ds : List D} (r : RepA K Mm H vs ds) : vs.length = ds.length := by
  induction r with
  | nil => rfl
  | cons _ _ ih => simp [ih]
theorem RepA.im {vs : List V} {ds : List D} {ps : List PyData} (r : RepA K Mm H vs ds) (h : allIm ds = some ps) : RpA K (fz Mm H) vs ps := by
  induction r generalizing ps with
  | nil => simp [allIm] at h; subst h; exact .nil
  | cons q _ ih =>
    rename_i d ds _
    cases d with
    | rf i => simp [allIm] at h
    | im p =>
      simp only [allIm, Option.map_eq_some_iff] at h
      obtain ⟨qs, e, rfl⟩ := h
      exact .cons q (ih e)
/-- what a value reads as now -/
theorem Rep.reads {v : V} {d : D} {p : PyData} (r : Rep K Mm H v d) (s : RS K Mm H S) (e : imOf S d = some p) : Rp K H v p := by
  cases d with
  | im q =>
    have e' : q = p := Option.some.inj e
    subst e'
    exact Rp.mono (fz_sub _ _) r
  | rf i =>
    obtain ⟨a, rfl, ha⟩ := r
    unfold imOf at e
    split at e
    · cases e
      rename_i q
      cases q
    · rename_i i' h
      cases h
      split at e
      · rename_i xs hx
        obtain rfl := Option.some.inj e
        obtain ⟨vs, h1, h2⟩ := s.ob i a _ ha hx
        exact .lst (SqL.of h1) (RpA.mono (fz_sub _ _) h2)
      · rename_i xs hx
        obtain rfl := Option.some.inj e
        obtain ⟨o, vs, h1, h2⟩ := s.ob i a _ ha hx
        exact .lst (.inl (.inr ⟨o, h1⟩)) (RpA.mono (fz_sub _ _) h2)
      · cases e
/-- a dict -/
theorem Rep.dctR {v : V} {d : D} {kvs : List (PyData × PyData)} (r : Rep K Mm H v d) (s : RS K Mm H S) (e : dctOf S d = some kvs) : ∃ a vs, v = .ref a ∧ Rd H a (.dK vs) ∧ RpK K (fz Mm H) vs kvs := by
  cases d with
  | im q =>
    cases q with
    | dict kvs' =>
      cases e
      cases r with
      | dct h q => exact ⟨_, _, rfl, .inr ⟨_, (fz_sub _ _) _ _ h⟩, q⟩
    | _ => cases e
  | rf i =>
    obtain ⟨a, rfl, ha⟩ := r
    unfold dctOf at e
    simp only at e
    split at e
    · rename_i kvs' hx
      obtain rfl := Option.some.inj e
      obtain ⟨vs, h1, h2⟩ := s.ob i a _ ha hx
      exact ⟨a, vs, rfl, .inl h1, h2⟩
    · rename_i kvs' hx
      obtain rfl := Option.some.inj e
      obtain ⟨o, vs, h1, h2⟩ := s.ob i a _ ha hx
      exact ⟨a, vs, rfl, .inr ⟨o, h1⟩, h2⟩
    · cases e
theorem RS.dctAt {i : Nat} {v : V} {kvs : List (PyData × PyData)} (s : RS K Mm H S) (r : Rep K Mm H v (.rf i)) (h : S[i]? = some (.dct kvs)) : ∃ a vs, v = .ref a ∧ Mm.m[i]? = some a ∧ H a = some (.dK vs) ∧ RpK K (fz Mm H) vs kvs := by
  obtain ⟨a, rfl, ha⟩ := r
  obtain ⟨vs, h1, h2⟩ := s.ob i a _ ha h
  exact ⟨a, vs, rfl, ha, h1, h2⟩
theorem RS.there (s : RS K Mm H S) {a : Addr} (h : a ∈ Mm.m ++ Mm.z) : ∃ o, H a = some o := by
  rcases List.mem_append.mp h with h | h
  · obtain ⟨i, hi, e⟩ := List.mem_iff_getElem.mp h
    have h1 : Mm.m[i]? = some a := by rw [List.getElem?_eq_getElem hi, e]
    have hi2 : i < S.length := by rw [← s.ln]; exact hi
    have h3 := s.ob i a _ h1 (List.getElem?_eq_getElem hi2)
    revert h3
    generalize S[i] = o
    intro h3
    cases o with
    | lst xs => obtain ⟨vs, h, _⟩ := h3; exact ⟨_, h⟩
    | dct xs => obtain ⟨vs, h, _⟩ := h3; exact ⟨_, h⟩
    | fdct xs => obtain ⟨o, vs, h, _⟩ := h3; exact ⟨_, h⟩
    | flst xs => obtain ⟨o, vs, h, _⟩ := h3; exact ⟨_, h⟩
    | tdc xs => obtain ⟨vs, h, _⟩ := h3; exact ⟨_, h⟩
    | nl xs => obtain ⟨_, vs, _, _, h, _⟩ := h3; exact ⟨_, h⟩
    | nd xs => obtain ⟨_, vs, _, _, h, _⟩ := h3; exact ⟨_, h⟩
    | fnd xs => obtain ⟨_, vs, _, _, ⟨_, h⟩, _⟩ := h3; exact ⟨_, h⟩
  · exact s.zs a h
theorem RS.not_mem (s : RS K Mm H S) {p : Addr} (h : H p = none) : p ∉ Mm.m ++ Mm.z := fun hm => by
  obtain ⟨o, e⟩ := s.there hm
  rw [h] at e
  cases e
theorem RS.ne_z (s : RS K Mm H S) {p b : Addr} (h : H p = none) (hb : b ∈ Mm.z) : b ≠ p := fun e => s.not_mem h (List.mem_append_right _ (by rw [← e]; exact hb))
/-- the references up to an object stay as they are -/
def KeepM (Mm Mm1 : MM) (a : Addr) : Prop := ∀ i : Nat, Mm.m[i]? = some a → ∀ (j : Nat) (x : Addr), j ≤ i → Mm.m[j]? = some x → Mm1.m[j]? = some x
theorem KeepM.same {a : Addr} (h : Mm1.m = Mm.m) : KeepM Mm Mm1 a := fun i _ j x _ g => by rw [h]; exact g
theorem KeepM.more {a : Addr} {n : List Addr} (h : Mm1.m = Mm.m ++ n) : KeepM Mm Mm1 a := fun i _ j x _ g => by
  obtain ⟨hi, _⟩ := List.getElem?_eq_some_iff.mp g
  rw [h, List.getElem?_append_left hi]
  exact g
theorem Rep.monoL {v : V} {d : D} {i : Nat} (r : Rep K Mm H v d) (hd : ∀ j, d = .rf j → j < i) (s : Sub (fz Mm H) (fz Mm1 H1)) (g : ∀ (j : Nat) (x : Addr), j ≤ i → Mm.m[j]? = some x → Mm1.m[j]? = some x) : Rep K Mm1 H1 v d := by
  cases d with
  | im p => exact Rp.mono s r
  | rf j =>
    obtain ⟨b, h1, h2⟩ := r
    exact ⟨b, h1, g j b (Nat.le_of_lt (hd j rfl)) h2⟩
theorem RepA.monoL {vs : List V} {ds : List D} {i : Nat} (r : RepA K Mm H vs ds) (hd : ∀ j, D.rf j ∈ ds → j < i) (s : Sub (fz Mm H) (fz Mm1 H1)) (g : ∀ (j : Nat) (x : Addr), j ≤ i → Mm.m[j]? = some x → Mm1.m[j]? = some x) : RepA K Mm1 H1 vs ds := by
  induction r with
  | nil => exact .nil
  | cons h _ ih => exact .cons (h.monoL (fun j e => hd j (by rw [e]; exact List.mem_cons_self)) s g) (ih fun j e => hd j (List.mem_cons_of_mem _ e))
theorem RepK.monoL {vs : List (Key × V)} {ds : List (PyData × D)} {i : Nat} (r : RepK K Mm H vs ds) (hd : ∀ k j, (k, D.rf j) ∈ ds → j < i) (s : Sub (fz Mm H) (fz Mm1 H1)) (g : ∀ (j : Nat) (x : Addr), j ≤ i → Mm.m[j]? = some x → Mm1.m[j]? = some x) : RepK K Mm1 H1 vs ds := by
  induction r with
  | nil => exact .nil
  | cons h _ ih => exact .cons (h.monoL (fun j e => hd _ j (by rw [e]; exact List.mem_cons_self)) s g) (ih fun k j e => hd k j (List.mem_cons_of_mem _ e))
theorem ObR.mono {a : Addr} {o : Ob} (r : ObR K Mm H a o) (e : H1 a = H a) (s : Sub (fz Mm H) (fz Mm1 H1)) (g : KeepM Mm Mm1 a) : ObR K Mm1 H1 a o := by
  cases o with
  | lst xs => obtain ⟨vs, h, q⟩ := r; exact ⟨vs, e.trans h, q.mono s⟩
  | dct xs => obtain ⟨vs, h, q⟩ := r; exact ⟨vs, e.trans h, q.mono s⟩
  | fdct xs => obtain ⟨o, vs, h, q⟩ := r; exact ⟨o, vs, e.trans h, q.mono s⟩
  | flst xs => obtain ⟨o, vs, h, q⟩ := r; exact ⟨o, vs, e.trans h, q.mono s⟩
  | tdc xs => obtain ⟨vs, h, q⟩ := r; exact ⟨vs, e.trans h, q.mono s⟩
  | nl ds => obtain ⟨i, vs, h1, h2, h3, q⟩ := r; exact ⟨i, vs, g i h1 i a (Nat.le_refl i) h1, h2, e.trans h3, q.monoL h2 s (g i h1)⟩
  | nd ds => obtain ⟨i, vs, h1, h2, h3, q⟩ := r; exact ⟨i, vs, g i h1 i a (Nat.le_refl i) h1, h2, e.trans h3, q.monoL h2 s (g i h1)⟩
  | fnd ds => obtain ⟨i, vs, h1, h2, ⟨o, h3⟩, q⟩ := r; exact ⟨i, vs, g i h1 i a (Nat.le_refl i) h1, h2, ⟨o, e.trans h3⟩, q.monoL h2 s (g i h1)⟩
/-- a new object that stays as it is -/
theorem sub_new {p : Addr} {o : HO} (s : RS K Mm H S) (hp : H p = none) : Sub (fz Mm H) (fz Mm (upd H p o)) := fun b u e => by
  obtain ⟨h1, h2⟩ := fz_some.mp e
  refine fz_some.mpr ⟨h1, ?_⟩
  rw [upd_ne (ne_of_none h2 hp)]
  exact h2
theorem Ev.new {p : Addr} {o : HO} (s : RS K Mm H S) (hp : H p = none) : Ev Mm H Mm (upd H p o) := ⟨⟨[], by cases Mm; simp⟩, fun b hb => upd_ne (s.ne_z hp hb), sub_new s hp⟩
theorem RS.new {p : Addr} {o : HO} (s : RS K Mm H S) (hp : H p = none) : RS K Mm (upd H p o) S := by
  refine ⟨s.nd, s.ln, fun a ha => by rw [upd_ne (s.ne_z hp ha)]; exact s.zs a ha, fun i a u h1 h2 => ?_⟩
  refine (s.ob i a u h1 h2).mono ?_ (sub_new s hp) (KeepM.same rfl)
  refine upd_ne fun z => ?_
  subst z
  exact s.not_mem hp (List.mem_append_left _ (List.mem_of_getElem? h1))
theorem Rep.tup {p : Addr} {vs : List V} {ds : List PyData} {o : Obj} (s : RS K Mm H S) (hp : H p = none) (r : RpA K (fz Mm H) vs ds) (hd : o.dict = none) : Rep K Mm (upd H p (.frz o (.tup vs))) (.ref p) (.im (.tuple ds)) := by
  refine Rp.tup (Or.inl ⟨o, ?_, hd⟩) (r.mono (sub_new s hp))
  exact fz_some.mpr ⟨fun hm => absurd hm (s.not_mem hp), upd_same⟩
theorem Rep.lst {p : Addr} {vs : List V} {ds : List PyData} (s : RS K Mm H S) (hp : H p = none) (r : RpA K (fz Mm H) vs ds) : Rep K Mm (upd H p (.lst vs)) (.ref p) (.im (.list ds)) := by
  refine Rp.lst (Or.inl (Or.inl ?_)) (r.mono (sub_new s hp))
  exact fz_some.mpr ⟨fun hm => absurd hm (s.not_mem hp), upd_same⟩
/-- a new mutable object -/
theorem sub_add {p : Addr} {o : HO} (hp : H p = none) : Sub (fz Mm H) (fz (Mm.add p) (upd H p o)) := fun b u e => by
  obtain ⟨h1, h2⟩ := fz_some.mp e
  have ne := ne_of_none h2 hp
  refine fz_some.mpr ⟨fun hm => h1 ?_, by rw [upd_ne ne]; exact h2⟩
  rcases List.mem_append.mp hm with hm | hm
  · rcases List.mem_append.mp hm with hm | hm
    · exact List.mem_append_left _ hm
    · exact absurd (by simpa using hm) ne
  · exact List.mem_append_right _ hm
theorem Ev.add {p : Addr} {o : HO} (s : RS K Mm H S) (hp : H p = none) : Ev Mm H (Mm.add p) (upd H p o) := ⟨⟨[p], rfl⟩, fun b hb => upd_ne (s.ne_z hp hb), sub_add hp⟩
theorem RS.add {p : Addr} {u : HO} {o : Ob} (s : RS K Mm H S) (hp : H p = none) (r : ObR K (Mm.add p) (upd H p u) p o) : RS K (Mm.add p) (upd H p u) (S ++ [o]) := by
  have np := s.not_mem hp
  have nm : p ∉ Mm.m := fun h => np (List.mem_append_left _ h)
  have nz : p ∉ Mm.z := fun h => np (List.mem_append_right _ h)
  refine ⟨?_, by simp [MM.add, s.ln], fun a ha => by rw [upd_ne (s.ne_z hp ha)]; exact s.zs a ha, fun i a v h1 h2 => ?_⟩
  · obtain ⟨d1, d2, d3⟩ := List.nodup_append.mp s.nd
    show (Mm.m ++ [p] ++ Mm.z).Nodup
    rw [List.append_assoc, List.nodup_append]
    refine ⟨d1, List.nodup_cons.mpr ⟨nz, d2⟩, fun x hx y hy => ?_⟩
    rcases List.mem_cons.mp hy with rfl | hy
    · exact fun e => nm (e ▸ hx)
    · exact d3 x hx y hy
  · have h1' : (Mm.m ++ [p])[i]? = some a := h1
    by_cases hi : i < Mm.m.length
    · rw [List.getElem?_append_left hi] at h1'
      rw [List.getElem?_append_left (by rw [← s.ln]; exact hi)] at h2
      refine (s.ob i a v h1' h2).mono ?_ (sub_add hp) (KeepM.more rfl)
      refine upd_ne fun z => ?_
      subst z
      exact nm (List.mem_of_getElem? h1')
    · have hi' : i = Mm.m.length := by
        have := (List.getElem?_eq_some_iff.mp h1').1
        simp at this
        omega
      subst hi'
      have e1 : p = a := by simpa using h1'
      have e2 : o = v := by rw [s.ln] at h2; simpa using h2
      subst e1
      subst e2
      exact r
/-- a mutable object is changed -/
theorem sub_set {a : Addr} {o : HO} (hm : a ∈ Mm.m) (hf : NoFz H a) : Sub (fz Mm H) (fz Mm (upd H a o)) := fun b u e => by
  obtain ⟨h1, h2⟩ := fz_some.mp e
  refine fz_some.mpr ⟨h1, ?_⟩
  rw [upd_ne (fun z => ?_)]
  · exact h2
  · subst z
    have h3 := h1 (List.mem_append_left _ hm)
    obtain ⟨v, h4, h5⟩ := hf
    rw [h2] at h4
    cases h4
    rw [h3] at h5
    cases h5
theorem RS.mz (s : RS K Mm H S) {a b : Addr} (hm : a ∈ Mm.m) (hb : b ∈ Mm.z) : b ≠ a := fun e => (List.nodup_append.mp s.nd).2.2 a hm b hb e.symm
theorem Ev.set {a : Addr} {o : HO} (s : RS K Mm H S) (hm : a ∈ Mm.m) (hf : NoFz H a) : Ev Mm H Mm (upd H a o) := ⟨⟨[], by cases Mm; simp⟩, fun b hb => upd_ne (s.mz hm hb), sub_set hm hf⟩
theorem nodup_at {l : List Addr} (hN : l.Nodup) {i j : Nat} {x : Addr} (a : l[i]? = some x) (b : l[j]? = some x) : i = j := by
  obtain ⟨h1, e1⟩ := List.getElem?_eq_some_iff.mp a
  obtain ⟨h2, e2⟩ := List.getElem?_eq_some_iff.mp b
  exact (List.getElem_inj hN).mp (e1.trans e2.symm)
theorem RS.set {a : Addr} {u : HO} {o : Ob} {i : Nat} (s : RS K Mm H S) (ha : Mm.m[i]? = some a) (hf : NoFz H a) (r : ObR K Mm (upd H a u) a o) : RS K Mm (upd H a u) (S.set i o) := by
  have hm := List.mem_of_getElem? ha
  refine ⟨s.nd, by simp [s.ln], fun b hb => by rw [upd_ne (s.mz hm hb)]; exact s.zs b hb, fun j b v h1 h2 => ?_⟩
  by_cases hj : j = i
  · subst hj
    rw [ha] at h1
    cases h1
    have hl : j < S.length := by rw [← s.ln]; exact (List.getElem?_eq_some_iff.mp ha).1
    rw [List.getElem?_set_self hl] at h2
    cases h2
    exact r
  · rw [List.getElem?_set_ne (Ne.symm hj)] at h2
    refine (s.ob j b v h1 h2).mono ?_ (sub_set hm hf) (KeepM.same rfl)
    refine upd_ne fun z => hj ?_
    subst z
    exact nodup_at (List.nodup_append.mp s.nd).1 h1 ha
/-! #### hiding an object -/
theorem fz_hide {p : Addr} {o : HO} (hp : H p = none) (ho : isFz o = false) : fz (Mm.hide p) (upd H p o) = fz Mm H := by
  funext b
  by_cases hb : b = p
  · subst hb
    unfold fz
    rw [if_pos (show b ∈ (Mm.hide b).m ++ (Mm.hide b).z by simp [MM.hide]), upd_same]
    dsimp only
    rw [ho, if_neg (by simp), hp]
    split <;> rfl
  · have e : (b ∈ (Mm.hide p).m ++ (Mm.hide p).z) ↔ b ∈ Mm.m ++ Mm.z := by
      show b ∈ Mm.m ++ (p :: Mm.z) ↔ _
      simp [hb]
    unfold fz
    rw [upd_ne hb]
    by_cases h : b ∈ Mm.m ++ Mm.z
    · rw [if_pos (e.mpr h), if_pos h]
    · rw [if_neg (fun z => h (e.mp z)), if_neg h]
theorem sub_hupd {p : Addr} {o : HO} (hz : p ∈ Mm.z) (hf : NoFz H p) : Sub (fz Mm H) (fz Mm (upd H p o)) := fun b u e => by
  obtain ⟨h1, h2⟩ := fz_some.mp e
  refine fz_some.mpr ⟨h1, ?_⟩
  rw [upd_ne (fun z => ?_)]
  · exact h2
  · subst z
    have h3 := h1 (List.mem_append_right _ hz)
    obtain ⟨v, h4, h5⟩ := hf
    rw [h2] at h4
    cases h4
    rw [h3] at h5
    cases h5
/-- a new object, hidden -/
theorem RS.hide {p : Addr} {o : HO} (s : RS K Mm H S) (hp : H p = none) (hfo : isFz o = false) : RS K (Mm.hide p) (upd H p o) S := by
  have np := s.not_mem hp
  refine ⟨?_, s.ln, fun a ha => ?_, fun i a u h1 h2 => ?_⟩
  · obtain ⟨d1, d2, d3⟩ := List.nodup_append.mp s.nd
    show (Mm.m ++ (p :: Mm.z)).Nodup
    rw [List.nodup_append]
    refine ⟨d1, List.nodup_cons.mpr ⟨fun h => np (List.mem_append_right _ h), d2⟩, fun x hx y hy => ?_⟩
    rcases List.mem_cons.mp hy with rfl | hy
    · exact fun e => np (List.mem_append_left _ (e ▸ hx))
    · exact d3 x hx y hy
  · rcases List.mem_cons.mp ha with rfl | ha
    · exact ⟨o, upd_same⟩
    · rw [upd_ne (s.ne_z hp ha)]
      exact s.zs a ha
  · refine (s.ob i a u h1 h2).mono (upd_ne fun z => ?_) (by rw [fz_hide hp hfo]; exact Sub.refl _) (KeepM.same rfl)
    subst z
    exact np (List.mem_append_left _ (List.mem_of_getElem? h1))
/-- a hidden object is changed -/
theorem RS.hupd {p : Addr} {o : HO} (s : RS K Mm H S) (hz : p ∈ Mm.z) (hf : NoFz H p) : RS K Mm (upd H p o) S := by
  refine ⟨s.nd, s.ln, fun a ha => ?_, fun i a u h1 h2 => ?_⟩
  · by_cases e : a = p
    · subst e
      exact ⟨o, upd_same⟩
    · rw [upd_ne e]
      exact s.zs a ha
  · exact (s.ob i a u h1 h2).mono (upd_ne (Ne.symm (s.mz (List.mem_of_getElem? h1) hz))) (sub_hupd hz hf) (KeepM.same rfl)
/-- the last hidden object is seen again: it stays as it is from now on -/
theorem sub_show {p : Addr} : Sub (fz (Mm.hide p) H) (fz Mm H) := fun b u e => by
  obtain ⟨h1, h2⟩ := fz_some.mp e
  refine fz_some.mpr ⟨fun hm => h1 ?_, h2⟩
  show b ∈ Mm.m ++ (p :: Mm.z)
  rcases List.mem_append.mp hm with hm | hm
  · exact List.mem_append_left _ hm
  · exact List.mem_append_right _ (List.mem_cons_of_mem _ hm)
theorem RS.show_ {p : Addr} (s : RS K (Mm.hide p) H S) : RS K Mm H S := by
  refine ⟨?_, s.ln, fun a ha => s.zs a (List.mem_cons_of_mem _ ha), fun i a u h1 h2 => (s.ob i a u h1 h2).mono rfl sub_show (KeepM.same rfl)⟩
  obtain ⟨d1, d2, d3⟩ := List.nodup_append.mp (show (Mm.m ++ (p :: Mm.z)).Nodup from s.nd)
  rw [List.nodup_append]
  exact ⟨d1, (List.nodup_cons.mp d2).2, fun x hx y hy => d3 x hx y (List.mem_cons_of_mem _ hy)⟩

/-! ### what is wanted of a computation -/
def ErrIs (K : PySem.W.Frag) (c : String) (cls : Value) : Prop := cls = .ref (He.ga K (Str.ofString c))
def Post (K : PySem.W.Frag) {α β : Type} (R : MM → Hp → β → α → Prop) (E : XK) (Mm : MM) (H : Hp) (Q : β → Hp → Prop) : Res α → Prop
  | .ok a S' => ∀ Mm' H' b, Ev Mm H Mm' H' → RS K Mm' H' S' → R Mm' H' b a → Q b H'
  | .err c S' => ∀ Mm' H' cls, Ev Mm H Mm' H' → RS K Mm' H' S' → ErrIs K c cls → E cls none H'
  | .bad => False
section
variable {α β γ δ : Type} {R : MM → Hp → β → α → Prop} {R' : MM → Hp → δ → γ → Prop} {E : XK} {Q Q' : β → Hp → Prop} {Q2 : δ → Hp → Prop}
theorem Post.mono {r : Res α} (h : Post K R E Mm H Q r) (e : Ev Mm H Mm1 H1) : Post K R E Mm1 H1 Q r := by
  cases r with
  | ok a S' => exact fun Mm' H' b e' s r => h Mm' H' b (e.trans e') s r
  | err c S' => exact fun Mm' H' cls e' s r => h Mm' H' cls (e.trans e') s r
  | bad => exact h
theorem Post.imp {r : Res α} (h : Post K R E Mm H Q r) (f : ∀ b H', Q b H' → Q' b H') : Post K R E Mm H Q' r := by
  cases r with
  | ok a S' => exact fun Mm' H' b e' s r => f b H' (h Mm' H' b e' s r)
  | err c S' => exact h
  | bad => exact h
theorem Post.bind {m : M α} {f : α → M γ} (h : Post K R' E Mm H Q2 (M.bind m f S)) :
    Post K R E Mm H (fun b H1 => ∃ Mm1 S1 a, Ev Mm H Mm1 H1 ∧ RS K Mm1 H1 S1 ∧ R Mm1 H1 b a ∧ Post K R' E Mm1 H1 Q2 (f a S1)) (m S) := by
  unfold M.bind at h
  cases e : m S with
  | ok a S1 =>
    rw [e] at h
    exact fun Mm' H' b e' s r => ⟨Mm', S1, a, e', s, r, Post.mono h e'⟩
  | err c S' =>
    rw [e] at h
    exact h
  | bad =>
    rw [e] at h
    exact h
/-- a value in hand -/
theorem Post.use {a : α} {b : β} (h : Post K R E Mm H Q (.ok a S)) (s : RS K Mm H S) (r : R Mm H b a) : Q b H := h Mm H b Ev.refl s r
theorem Post.use' {a : α} {b : β} (h : Post K R E Mm H Q (.ok a S)) (e : Ev Mm H Mm1 H1) (s : RS K Mm1 H1 S) (r : R Mm1 H1 b a) : Q b H1 := h Mm1 H1 b e s r
end
end
end DL
end

section
set_option maxRecDepth 100000
/-! DR0: == of a tuple and (), of anything and an int. Ours. -/
namespace DL
open PySem PySem.Spec PyProof.Rows L2 PySem.W
/-! ### == of a tuple and (), of anything and an int -/
section
variable {prog : Program} {w : World} {A : Around} {E : Value → Shared → Prop} {s : Shared}
theorem int_dict_no (i : Int) (u : Tok) (p : Addr) (es : Array DictEntry) (ep : Nat) (dd : Option Addr) (sl : Array (Option Value)) :
    Meets (Builtin.«int.__eq__» ⟨[.int i u, .ref p], []⟩) (fun _ R t => t.heap.get? p = some ⟨.type "dict", dd, .dict es ep, sl⟩ ∧ R (.ok (.ret .notImplemented)) t) := by
  refine .of_wp fun prog w A R t z => ?_
  obtain ⟨x1, x2, x3, x4, x5⟩ := t
  obtain ⟨g, q⟩ := z
  wp_walk using wpAny_loadPart' g, wpAny_load g
  exact ⟨_, rfl, q⟩
theorem dict_int {p : Addr} {es : Array DictEntry} {ep : Nat} {ob : Obj} (i : Int) (u : Tok) (g : s.heap.get? p = some ob) (c : ob.cls = .type "dict") (q : ob.data = .dict es ep) (hu : A.units < cLine) : SeqAt.RcAt A s (.ref p) (.int i u) false := by
  intro prog w E Q h
  obtain ⟨cls, dd, data, sl⟩ := ob
  simp only at c q
  subst c q
  have ty : s.TypeIs (.ref p) "dict" := ⟨_, g, rfl⟩
  refine SeqAt.rc_eq_decline_or (k := false) ty (typeIs_int s i u) (by decide) F.sub_int_dict PySem.F.slot_dict_eq F.slot_int_eq_refl (fun Q' hq => ?_) (fun Q' hq => ?_) (fun Q' hq => wpAny_of_eq (rfl : isSame (.ref p) (.int i u) = pure false) hq) (.inr hu) h
  · refine wpAny_call_entry PySem.F.slot_dict_eq ty PySem.F.entry_dict_eq ?_ (PySem.F.args_dict_eq_2 _ _)
    show wpAny _ _ (Builtin.Dict.dictSlotArgs "__eq__" ⟨[.ref p, .int i u], []⟩ >>= _) _ _ s
    refine wpAny_bind ?_
    unfold Builtin.Dict.dictSlotArgs
    refine wpAny_bind (wpAny_notOrdered_dict ty ?_)
    show wpAny _ _ (pure (Value.ref p, Value.int i u)) _ _ s
    refine wpAny_pure ?_
    refine wpAny_bind (wpAny_isInstance (T := "int") (typeIs_int s i u) F.sub_int_dict ?_)
    simp only [Bool.not_false, if_true]
    exact wpAny_bind (wpAny_rule (wpAny_pure ⟨_, rfl, hq⟩))
  · exact call_meets F.slot_int_eq_refl (typeIs_int s i u) F.entry_int_eq (F.args_int_eq_2 _ _) (int_dict_no i u p es ep dd sl) ⟨g, hq⟩
end
section
variable {X : Cx}
/-- == of a tuple and () -/
def rEqE (K : PySem.W.Frag) : R2 := fun x y H Q => ∃ a b xs, x = .ref a ∧ y = .ref b ∧ SqT K H a xs ∧ SqT K H b [] ∧ Q (.bl xs.isEmpty) H
theorem op_eqE (hu : X.A.units + 64 < cLine) : OpR X (compareOp .Eq) (rEqE X.K) := by
  rintro pins s σ H x y v u Q I rx ry ⟨a, b, xs, rfl, rfl, ha, hb, q⟩
  cases rx
  cases ry
  obtain ⟨its, r1, p1, _⟩ := I.tuple ha
  obtain ⟨its2, r2, p2, _⟩ := I.tuple hb
  cases r2
  have e : ((List.range (min its.toArray.size ([] : List Value).toArray.size)).all (fun _ => true) && its.toArray.size == ([] : List Value).toArray.size) = xs.isEmpty := by
    have l := r1.length
    cases xs with
    | nil =>
      have : its = [] := List.eq_nil_of_length_eq_zero (by simpa using l.symm)
      subst this; rfl
    | cons z r =>
      cases its with
      | nil => cases l
      | cons z2 r2 => simp
  have z := SeqAt.RcAt.tuples (A := X.A) (e := fun _ => true) p1 p2 (by omega) (fun j _ h2 => absurd h2 (by simp))
  rw [e] at z
  exact z X.prog X.w _ _ ⟨.bl _, H, I, rfl, q⟩
/-- != of a list and [] -/
def rNeE (K : PySem.W.Frag) : R2 := fun x y H Q => ∃ a b xs, x = .ref a ∧ y = .ref b ∧ SqL K H a xs ∧ SqL K H b [] ∧ Q (.bl (!xs.isEmpty)) H
theorem op_neE (hu : X.A.units + 64 < cLine) : OpR X (compareOp .NotEq) (rNeE X.K) := by
  rintro pins s σ H x y v u Q I rx ry ⟨a, b, xs, rfl, rfl, ha, hb, q⟩
  cases rx
  cases ry
  obtain ⟨its, r1, p1, _⟩ := I.list ha
  obtain ⟨its2, r2, p2, _⟩ := I.list hb
  cases r2
  have l := r1.length
  cases xs with
  | nil =>
    have : its = [] := List.eq_nil_of_length_eq_zero (by simpa using l.symm)
    subst this
    exact SeqAt.RcNeAt.lists (A := X.A) (e := fun _ => true) p1.isList p2.isList rfl (by omega) (fun j h1 _ => absurd h1 (by simp)) X.prog X.w _ _ ⟨.bl _, H, I, rfl, q⟩
  | cons z r =>
    cases its with
    | nil => cases l
    | cons z2 r2 => exact SeqAt.RcNeAt.lists_lengths (A := X.A) p1.isList p2.isList (by simp) (by omega) X.prog X.w _ _ ⟨.bl _, H, I, rfl, q⟩
/-- == of anything and an int -/
def rEqJ (K : PySem.W.Frag) : R2 := fun x y H Q => ∃ (a : Addr) (j : Int), x = .ref a ∧ y = .int j ∧ ((∃ xs, SqL K H a xs) ∨ (∃ xs, SqT K H a xs) ∨ ∃ kvs, Rd H a (.dK kvs)) ∧ Q (.bl false) H
theorem op_eqJ (hu : X.A.units + 64 < cLine) : OpR X (compareOp .Eq) (rEqJ X.K) := by
  rintro pins s σ H x y v u Q I rx ry ⟨a, j, rfl, rfl, h, q⟩
  cases rx
  obtain ⟨t, rfl⟩ := ry
  rcases h with ⟨xs, h⟩ | ⟨xs, h⟩ | ⟨kvs, h⟩
  · obtain ⟨its, _, p1, _⟩ := I.list h
    exact SeqAt.RcAt.list_int j t p1.isList (by omega) X.prog X.w _ _ ⟨.bl _, H, I, rfl, q⟩
  · obtain ⟨its, _, p1, _⟩ := I.tuple h
    exact SeqAt.RcAt.tuple_int j t p1 (by omega) X.prog X.w _ _ ⟨.bl _, H, I, rfl, q⟩
  · obtain ⟨_, off, vs, rel, o, es, ep, ho, hx, hd, _⟩ := dk_rd I.hok h
    exact dict_int j t ho hx.1 hd (by omega) X.prog X.w _ _ ⟨.bl _, H, I, rfl, q⟩
end
end DL
end

section
set_option maxRecDepth 100000
/-! DR1: the text of data that holds dicts. Ours. -/
namespace DL
open PySem PySem.Spec PyProof.Rows L2 PySem.W
mutual
/-- data as it is laid; no dict of it is the table of modules -/
inductive LdS (hp : Heap) : Value → PyData → Prop
  | nn : LdS hp .none .none
  | bb (b : Bool) : LdS hp (.bool b) (.bool b)
  | ii (i : Int) (t : Tok) : LdS hp (.int i t) (.int i)
  | ss (x : Str) (t : Tok) : LdS hp (.str x t) (.str x)
  | ll {p : Addr} {ob : Obj} {arr : Array Value} {m : Nat} {ds : List PyData} (g : hp.get? p = some ob) (c : ob.cls = .type "list") (q : ob.data = .seq arr m) (r : LdA hp arr.toList ds) : LdS hp (.ref p) (.list ds)
  | tt {p : Addr} {ob : Obj} {arr : Array Value} {m : Nat} {ds : List PyData} (g : hp.get? p = some ob) (c : ob.cls = .type "tuple") (q : ob.data = .seq arr m) (r : LdA hp arr.toList ds) : LdS hp (.ref p) (.tuple ds)
  | dd {p : Addr} {ob : Obj} {ens : Array DictEntry} {m : Nat} {ps : List (PyData × PyData)} (g : hp.get? p = some ob) (c : ob.cls = .type "dict") (q : ob.data = .dict ens m) (off : (p == sysModules) = false)
      (r1 : LdA hp (ens.toList.map (·.key)) (ps.map (·.1))) (r2 : LdA hp (ens.toList.map (·.val)) (ps.map (·.2))) : LdS hp (.ref p) (.dict ps)
inductive LdA (hp : Heap) : List Value → List PyData → Prop
  | nil : LdA hp [] []
  | cons {v : Value} {vs : List Value} {d : PyData} {ds : List PyData} (r : LdS hp v d) (q : LdA hp vs ds) : LdA hp (v :: vs) (d :: ds)
end
section
variable {hp : Heap}
mutual
theorem LdS.rd : ∀ {v : Value} {d : PyData}, LdS hp v d → ∃ as, Reads hp v d as
  | _, _, .nn => ⟨_, .none⟩
  | _, _, .bb b => ⟨_, .bool b⟩
  | _, _, .ii i t => ⟨_, .int i t⟩
  | _, _, .ss x t => ⟨_, .str x t⟩
  | _, _, .ll g c q r => let ⟨_, z⟩ := LdA.rd r; ⟨_, .list g c q z⟩
  | _, _, .tt g c q r => let ⟨_, z⟩ := LdA.rd r; ⟨_, .tuple g c q z⟩
  | _, _, .dd g c q _ r1 r2 => let ⟨_, z1⟩ := LdA.rd r1; let ⟨_, z2⟩ := LdA.rd r2; ⟨_, .dict g c q z1 z2⟩
theorem LdA.rd : ∀ {vs : List Value} {ds : List PyData}, LdA hp vs ds → ∃ as, ReadsAll hp vs ds as
  | _, _, .nil => ⟨_, .nil⟩
  | _, _, .cons r q => let ⟨_, z1⟩ := LdS.rd r; let ⟨_, z2⟩ := LdA.rd q; ⟨_, .cons z1 z2⟩
end
variable {prog : Program} {w : World}
theorem most_two {n : Nat} {b1 b2 : List Addr} (h1 : ReadAtMost hp n b1) (h2 : ReadAtMost hp n b2) : ReadAtMost hp n (b1 ++ b2) := h1.append h2
theorem lst_nil {ts : List PyData} (r : LdA hp [] ts) : ts = [] := by cases r; rfl
mutual
theorem LdS.sh : ∀ {v : Value} {d : PyData}, LdS hp v d → d.showable = true → d.shown.length ≤ sizeLine → ∃ bs, ReadAtMost hp d.depth bs ∧ ReprK prog w bs hp d.depth v d.shown
  | _, _, .nn, _, _ => ⟨[], (fun _ z => nomatch z), by rw [PyData.shown]; exact .of_is .none _ _ _⟩
  | _, _, .bb b, _, _ => ⟨[], (fun _ z => nomatch z), by rw [PyData.shown]; exact .of_is (.bool b) _ _ _⟩
  | _, _, .ii i t, s1, _ => ⟨[], (fun _ z => nomatch z), by rw [PyData.shown]; exact .of_is (.int t (by simpa [PyData.showable] using s1)) _ _ _⟩
  | _, _, .ss x t, _, z => ⟨[], (fun _ z => nomatch z), by rw [PyData.shown] at z ⊢; exact .of_is (.str x t z) _ _ _⟩
  | _, _, .ll (p := p) (arr := arr) (ds := ds) g c q r, s1, z => by
    have z2 : (listText (PyData.shownAll ds)).length ≤ sizeLine := by rw [PyData.shown] at z; exact z
    obtain ⟨bs, m, k⟩ := LdA.sh r (by rw [PyData.showable] at s1; exact s1) fun t ht => Nat.le_trans (listText_mem_le ht) z2
    obtain ⟨as, ra⟩ := LdA.rd r
    have whole : Reads hp (.ref p) (.list ds) (p :: as) := Reads.list g c q ra
    have off : p ∉ bs := not_mem_of_deeper whole (by rw [PyData.depth]; omega) m
    refine ⟨p :: bs, .cons whole (by rw [PyData.depth]; omega) m, ?_⟩
    rw [PyData.depth, PyData.shown]
    rcases arr with ⟨_ | ⟨x, l⟩⟩
    · have e := lst_nil r
      subst e
      exact ReprK.listEmpty g c q
    · exact .list g c q off (by simpa using k.length_eq) fun i y e => k.item i y (by simpa using e)
  | _, _, .tt (p := p) (ds := ds) g c q r, s1, z => by
    have z2 : (tupleText (PyData.shownAll ds)).length ≤ sizeLine := by rw [PyData.shown] at z; exact z
    obtain ⟨bs, m, k⟩ := LdA.sh r (by rw [PyData.showable] at s1; exact s1) fun t ht => Nat.le_trans (tupleText_mem_le ht) z2
    obtain ⟨as, ra⟩ := LdA.rd r
    have whole : Reads hp (.ref p) (.tuple ds) as := Reads.tuple g c q ra
    have off : p ∉ bs := not_mem_of_deeper whole (by rw [PyData.depth]; omega) m
    refine ⟨p :: bs, .cons whole (by rw [PyData.depth]; omega) m, ?_⟩
    rw [PyData.depth, PyData.shown]
    exact .tuple g c q off k
  | _, _, .dd (p := p) (ens := ens) (ps := ps) g c q o r1 r2, s1, z => by
    have z2 : (dictText (PyData.shownKv ps)).length ≤ sizeLine := by rw [PyData.shown] at z; exact z
    obtain ⟨sk, sv⟩ := PyData.showableKv_split ps (by rw [PyData.showable] at s1; exact s1)
    obtain ⟨bk, mk, kk⟩ := LdA.sh r1 sk fun t ht => by
      obtain ⟨u, hu, hl⟩ := PyData.shownKv_key_le ps t ht
      exact Nat.le_trans hl (Nat.le_trans (dictText_mem_le hu) z2)
    obtain ⟨bv, mv, kv⟩ := LdA.sh r2 sv fun t ht => by
      obtain ⟨u, hu, hl⟩ := PyData.shownKv_val_le ps t ht
      exact Nat.le_trans hl (Nat.le_trans (dictText_mem_le hu) z2)
    obtain ⟨a1, ra1⟩ := LdA.rd r1
    obtain ⟨a2, ra2⟩ := LdA.rd r2
    have whole : Reads hp (.ref p) (.dict ps) (p :: a1 ++ a2) := Reads.dict g c q ra1 ra2
    have m : ReadAtMost hp (PyData.depthKv ps) (bk ++ bv) := most_two (mk.mono (PyData.depthAll_keys_le ps)) (mv.mono (PyData.depthAll_vals_le ps))
    have off : p ∉ bk ++ bv := not_mem_of_deeper whole (by rw [PyData.depth]; omega) m
    refine ⟨p :: (bk ++ bv), .cons whole (by rw [PyData.depth]; omega) m, ?_⟩
    rw [PyData.depth, PyData.shown, PyData.shownKv_eq]
    have pk : ReprAllK prog w (bk ++ bv) hp (PyData.depthKv ps) _ _ := kk.more_le (fun b h => List.mem_append.mpr (.inl h)) (PyData.depthAll_keys_le ps)
    have pv : ReprAllK prog w (bk ++ bv) hp (PyData.depthKv ps) _ _ := kv.more_le (fun b h => List.mem_append.mpr (.inr h)) (PyData.depthAll_vals_le ps)
    exact .dict g c q o off (.of_two ens.toList _ _ pk pv)
theorem LdA.sh : ∀ {vs : List Value} {ds : List PyData}, LdA hp vs ds → PyData.showableAll ds = true → (∀ t ∈ PyData.shownAll ds, t.length ≤ sizeLine) → ∃ bs, ReadAtMost hp (PyData.depthAll ds) bs ∧ ReprAllK prog w bs hp (PyData.depthAll ds) vs (PyData.shownAll ds)
  | _, _, .nil, _, _ => ⟨[], (fun _ z => nomatch z), by rw [PyData.shownAll]; exact .nil⟩
  | _, _, .cons (d := d) (ds := ds) r q, s1, z => by
    rw [PyData.showableAll, Bool.and_eq_true] at s1
    rw [PyData.shownAll] at z
    obtain ⟨b1, m1, k1⟩ := LdS.sh r s1.1 (z _ List.mem_cons_self)
    obtain ⟨b2, m2, k2⟩ := LdA.sh q s1.2 fun t h => z t (List.mem_cons_of_mem _ h)
    have x1 : d.depth ≤ PyData.depthAll (d :: ds) := by rw [PyData.depthAll]; exact Nat.le_max_left _ _
    have x2 : PyData.depthAll ds ≤ PyData.depthAll (d :: ds) := by rw [PyData.depthAll]; exact Nat.le_max_right _ _
    refine ⟨b1 ++ b2, most_two (m1.mono x1) (m2.mono x2), ?_⟩
    rw [PyData.shownAll]
    have z1 : ReprK prog w (b1 ++ b2) hp d.depth _ _ := k1.more fun b h => List.mem_append.mpr (.inl h)
    have z2 : ReprAllK prog w (b1 ++ b2) hp (PyData.depthAll (d :: ds)) _ _ := k2.more_le (fun b h => List.mem_append.mpr (.inr h)) x2
    exact .cons (z1.level_le x1) z2
end
theorem LdS.by_ {p : Addr} {d : PyData} (r : LdS hp (.ref p) d) (s1 : d.showable = true) (z : d.shown.length ≤ sizeLine) : ∃ T id, ShowsBy prog w hp p d T id := by
  cases r with
  | ll g c q r =>
    rename_i ob arr m ds
    have z2 : (listText (PyData.shownAll ds)).length ≤ sizeLine := by rw [PyData.shown] at z; exact z
    obtain ⟨bs, mm, k⟩ := LdA.sh (prog := prog) (w := w) r (by rw [PyData.showable] at s1; exact s1) fun t ht => Nat.le_trans (listText_mem_le ht) z2
    obtain ⟨as, ra⟩ := LdA.rd r
    have off : p ∉ bs := not_mem_of_deeper (Reads.list g c q ra) (by rw [PyData.depth]; omega) mm
    refine ⟨"list", "list.__repr__", F.slot_list_repr.toG, F.slot_list_str, F.slot_list_format, fun s hk => ⟨ob, hk _ _ g, c⟩, fun A E s Q hg hu hk hQ => ?_⟩
    rw [PyData.depth] at hu
    rw [PyData.shown] at hQ
    rcases arr with ⟨_ | ⟨x, l⟩⟩
    · have e := lst_nil r
      subst e
      exact call_list_repr_empty ⟨ob, hk _ _ g, c⟩ (hk _ _ g) q (hQ s.heap _ _ fun _ _ e => e)
    · exact call_list_reprK g c q off (by simpa using k.length_eq) (fun i y e => k.item i y (by simpa using e)) hg (fun b _ => .nil b) hu hk hQ z2
  | tt g c q r =>
    rename_i ob arr m ds
    have z2 : (tupleText (PyData.shownAll ds)).length ≤ sizeLine := by rw [PyData.shown] at z; exact z
    obtain ⟨bs, mm, k⟩ := LdA.sh (prog := prog) (w := w) r (by rw [PyData.showable] at s1; exact s1) fun t ht => Nat.le_trans (tupleText_mem_le ht) z2
    obtain ⟨as, ra⟩ := LdA.rd r
    have off : p ∉ bs := not_mem_of_deeper (Reads.tuple g c q ra) (by rw [PyData.depth]; omega) mm
    refine ⟨"tuple", "tuple.__repr__", F.slot_tuple_repr, F.slot_tuple_str, F.slot_tuple_format, fun s hk => ⟨ob, hk _ _ g, c⟩, fun A E s Q hg hu hk hQ => ?_⟩
    rw [PyData.depth] at hu
    rw [PyData.shown] at hQ
    exact call_tuple_reprK g c q off k hg (fun b _ => .nil b) hu hk hQ z2
  | dd g c q o r1 r2 =>
    rename_i ob ens m ps
    obtain ⟨bs, mm, k⟩ := LdS.sh (prog := prog) (w := w) (LdS.dd g c q o r1 r2) s1 z
    have z2 : (dictText (PyData.shownKv ps)).length ≤ sizeLine := by rw [PyData.shown] at z; exact z
    obtain ⟨sk, sv⟩ := PyData.showableKv_split ps (by rw [PyData.showable] at s1; exact s1)
    obtain ⟨bk, mk, kk⟩ := LdA.sh (prog := prog) (w := w) r1 sk fun t ht => by
      obtain ⟨u, hu, hl⟩ := PyData.shownKv_key_le ps t ht
      exact Nat.le_trans hl (Nat.le_trans (dictText_mem_le hu) z2)
    obtain ⟨bv, mv, kv⟩ := LdA.sh (prog := prog) (w := w) r2 sv fun t ht => by
      obtain ⟨u, hu, hl⟩ := PyData.shownKv_val_le ps t ht
      exact Nat.le_trans hl (Nat.le_trans (dictText_mem_le hu) z2)
    obtain ⟨a1, ra1⟩ := LdA.rd r1
    obtain ⟨a2, ra2⟩ := LdA.rd r2
    have m2 : ReadAtMost hp (PyData.depthKv ps) (bk ++ bv) := most_two (mk.mono (PyData.depthAll_keys_le ps)) (mv.mono (PyData.depthAll_vals_le ps))
    have off : p ∉ bk ++ bv := not_mem_of_deeper (Reads.dict g c q ra1 ra2) (by rw [PyData.depth]; omega) m2
    have pk : ReprAllK prog w (bk ++ bv) hp (PyData.depthKv ps) _ _ := kk.more_le (fun b h => List.mem_append.mpr (.inl h)) (PyData.depthAll_keys_le ps)
    have pv : ReprAllK prog w (bk ++ bv) hp (PyData.depthKv ps) _ _ := kv.more_le (fun b h => List.mem_append.mpr (.inr h)) (PyData.depthAll_vals_le ps)
    refine ⟨"dict", "dict.__repr__", F.slot_dict_repr, F.slot_dict_str, F.slot_dict_format, fun s hk => ⟨ob, hk _ _ g, c⟩, fun A E s Q hg hu hk hQ => ?_⟩
    rw [PyData.depth] at hu
    rw [PyData.shown, PyData.shownKv_eq] at hQ
    rw [PyData.shownKv_eq] at z2
    exact call_dict_reprK g c q o off (.of_two ens.toList _ _ pk pv) hg (fun b _ => .nil b) hu hk hQ z2
theorem repr_ld {A : Around} {E : Value → Shared → Prop} {s : Shared} {Q : Value → Shared → Prop} {p : Addr} {d : PyData} (r : LdS s.heap (.ref p) d) (s1 : d.showable = true) (z : d.shown.length ≤ sizeLine) (hg : A.guards = some []) (hu : A.units + (d.depth + 1) < cLine)
    (hQ : ∀ h' u tk, (∀ b o, s.heap.get? b = some o → h'.get? b = some o) → Q (.str d.shown u) { s with heap := h', toks := tk }) : wpAny (model prog w) A (call (.builtin "repr") [.ref p]) Q E s := by
  obtain ⟨T, id, B⟩ := r.by_ (prog := prog) (w := w) s1 z
  refine call_repr_slot (by omega) (B.typeIs s fun _ _ e => e) B.slotRepr ?_
  refine B.call A.in1 E s _ hg ?_ (fun _ _ e => e) fun h' u tk hk => ⟨_, _, rfl, hQ h' u tk hk⟩
  show A.units + 1 + d.depth < cLine
  omega
theorem str_ld {A : Around} {E : Value → Shared → Prop} {s : Shared} {Q : Value → Shared → Prop} {p : Addr} {d : PyData} (r : LdS s.heap (.ref p) d) (s1 : d.showable = true) (z : d.shown.length ≤ sizeLine) (hg : A.guards = some []) (hu : A.units + (d.depth + 3) < cLine)
    (hQ : ∀ h' u tk, (∀ b o, s.heap.get? b = some o → h'.get? b = some o) → Q (.str d.shown u) { s with heap := h', toks := tk }) : wpAny (model prog w) A (call (.type "str") [.ref p]) Q E s :=
  callType_new F.called_str (by decide) (F.typeCall_str_1 _) (F.newCall_str_1 _) (fun obj => F.args_object_init_2 obj _) F.entry_str_new
    (meets_str_new (S := fun A' R s' => A'.guards = some [] ∧ A'.units + (d.depth + 2) < cLine ∧ (∀ b o, s.heap.get? b = some o → s'.heap.get? b = some o) ∧
        ∀ h' u tk, (∀ b o, s'.heap.get? b = some o → h'.get? b = some o) → R (.ok (.ret (.str d.shown u))) { s' with heap := h', toks := tk })
      fun prog' w' A' R s' h => by
        obtain ⟨T, id, B⟩ := r.by_ (prog := prog') (w := w') s1 z
        refine wpAny_strOf_slot rfl (by show A'.units + 1 + 1 < cLine; have := h.2.1; omega) (B.typeIs s' h.2.2.1) B.slotStr B.slotRepr (B.call A'.in1.in1 _ s' _ h.1 (by show A'.units + 1 + 1 + d.depth < cLine; have := h.2.1; omega) h.2.2.1 fun h' u tk hk => ⟨_, _, rfl, h.2.2.2 h' u tk hk⟩))
    ⟨hg, by show A.units + 1 + (d.depth + 2) < cLine; omega, fun _ _ e => e, fun h' u tk hk => ⟨typeIs_str _ _ _, hQ h' u tk hk⟩⟩
end
/-! ### what stands still is laid so -/
section
variable {X : Cx} {pins : List (Addr × Obj)} {σ : L2.St} {H : Hp} {s : Shared} {G : Hp}
theorem key_ld {hp : Heap} {k : Key} {v : Value} (h : keyIs k v = true) : LdS hp v (kP k) := by
  rcases keyIs_shape h with ⟨i, t, rfl, rfl⟩ | ⟨x, t, rfl, rfl⟩
  · exact .ii i t
  · exact .ss x t
mutual
theorem Rp.ld (I : L2.Inv X pins σ H s) (sg : Sub G H) : ∀ {v : V} {d : PyData} {u : Value}, Rp X.K G v d → RelV v u → LdS s.heap u d
  | _, _, _, .non, r => by cases r; exact .nn
  | _, _, _, .bl b, r => by cases r; exact .bb b
  | _, _, _, .int i, r => by obtain ⟨t, rfl⟩ := r; exact .ii i t
  | _, _, _, .str x, r => by obtain ⟨t, rfl⟩ := r; exact .ss x t
  | _, _, _, .lst h q, r => by
    cases r
    obtain ⟨its, rv, ⟨o, n, ho, hc, _, hd⟩, _⟩ := I.list (SqL.sub h sg)
    exact .ll ho hc hd (RpA.ld I sg q rv)
  | _, _, _, .tup h q, r => by
    cases r
    obtain ⟨its, rv, ⟨o, ho, hc, n, hd⟩, _⟩ := I.tuple (SqT.sub h.sq sg)
    exact .tt ho hc hd (RpA.ld I sg q rv)
  | _, _, _, .dct h q, r => by
    cases r
    obtain ⟨_, off, vs, rel, o, es, ep, ho, hx, hd, _, hp, _⟩ := dk_rd I.hok (.inr ⟨_, sg _ _ h⟩)
    obtain ⟨z1, z2⟩ := RpK.ld I sg q rel hp
    exact .dd ho hx.1 hd off z1 z2
theorem RpA.ld (I : L2.Inv X pins σ H s) (sg : Sub G H) : ∀ {vs : List V} {ds : List PyData} {us : List Value}, RpA X.K G vs ds → Vals vs us → LdA s.heap us ds
  | _, _, _, .nil, r => by cases r; exact .nil
  | _, _, _, .cons h q, r => by
    cases r with
    | cons r1 r2 => exact .cons (Rp.ld I sg h r1) (RpA.ld I sg q r2)
theorem RpK.ld (I : L2.Inv X pins σ H s) (sg : Sub G H) : ∀ {kvs : List (Key × V)} {ds : List (PyData × PyData)} {vs : List (Key × Value)} {es : List DictEntry}, RpK X.K G kvs ds → KV kvs vs → Pairs (mixKind X.prog X.w) es vs → LdA s.heap (es.map (·.key)) (ds.map (·.1)) ∧ LdA s.heap (es.map (·.val)) (ds.map (·.2))
  | _, _, _, _, .nil, rel, hp => by
    cases rel
    cases hp
    exact ⟨.nil, .nil⟩
  | _, _, _, _, .cons h q, rel, hp => by
    cases rel with
    | cons e t =>
      cases hp with
      | cons hk hv hr =>
        obtain ⟨z1, z2⟩ := RpK.ld I sg q t hr
        have hk2 := hk
        rw [← e.1] at hk2
        refine ⟨.cons (key_ld hk2) z1, .cons ?_ z2⟩
        dsimp only
        rw [hv]
        exact Rp.ld I sg h e.2
end
end
end DL
end

section
set_option maxRecDepth 100000
set_option maxHeartbeats 4000000
/-! DTM: a tuple times an int, of any sign. Ours. -/
namespace DL
open PySem PySem.Spec PyProof.Rows L2
/-- once, or nothing: the tuple itself -/
theorem tmul_same (l : Addr) (items : Array Value) (n : Nat) (dd : Option Addr) (sl : Array (Option Value)) (x : Int) (u : Tok) (c0 : (decide (x < -(2 ^ 63)) || decide (x ≥ 2 ^ 63)) = false) (c1 : (items.isEmpty || x == 1) = true) :
    Meets (Builtin.«tuple.__mul__» ⟨[.ref l, .int x u], []⟩) (fun _ R s => s.heap.get? l = some { cls := .type "tuple", dict := dd, data := .seq items n, slots := sl } ∧ R (.ok (.ret (Value.ref l))) s) :=
  .of_wp fun prog w A R s h => by
    obtain ⟨hp, g, d, tk, os⟩ := s
    obtain ⟨hl, h⟩ := h
    have f1 := AutoSeq1.idx_int
    wp_walk using wpAny_loadPart' hl
    repeat (first
      | (refine wpAny_ite_false (decide_eq_false (by rw [c0]; exact Bool.false_ne_true)) ?_; wp_walk using wpAny_loadPart' hl)
      | (refine wpAny_ite_true (decide_eq_true c1) ?_; wp_walk using wpAny_loadPart' hl))
    exact ⟨_, rfl, h⟩
/-- no times: a tuple of nothing -/
theorem tmul_none (l : Addr) (items : Array Value) (n : Nat) (dd : Option Addr) (sl : Array (Option Value)) (x : Int) (u : Tok) (c0 : (decide (x < -(2 ^ 63)) || decide (x ≥ 2 ^ 63)) = false) (c1 : (items.isEmpty || x == 1) = false) (c2 : (decide (x ≤ 0) || items.isEmpty) = true) :
    Meets (Builtin.«tuple.__mul__» ⟨[.ref l, .int x u], []⟩) (fun _ R s => s.heap.get? l = some { cls := .type "tuple", dict := dd, data := .seq items n, slots := sl } ∧
      R (.ok (.ret (Value.ref s.heap.objs.size))) { s with heap := s.heap.push { cls := Value.type "tuple", data := Data.seq #[] }, toks := s.toks }) :=
  .of_wp fun prog w A R s h => by
    obtain ⟨hp, g, d, tk, os⟩ := s
    obtain ⟨hl, h⟩ := h
    have f1 := AutoSeq1.idx_int
    wp_walk using wpAny_loadPart' hl
    repeat (first
      | (refine wpAny_ite_false (decide_eq_false (by rw [c0]; exact Bool.false_ne_true)) ?_; wp_walk using wpAny_loadPart' hl)
      | (refine wpAny_ite_false (decide_eq_false (by rw [c1]; exact Bool.false_ne_true)) ?_; wp_walk using wpAny_loadPart' hl)
      | (refine wpAny_ite_true (decide_eq_true c2) ?_; wp_walk using wpAny_loadPart' hl))
    exact ⟨_, rfl, h⟩
end DL
end

section
set_option maxRecDepth 100000
/-! DL3: the operators keep what their meaning says. Ours. -/
namespace DL
open PySem PySem.Spec PyProof.Rows L2
variable [PWd]
section
variable {K : PySem.W.Frag} {Mm : MM} {H : Hp} {S : Mem} {v : V} {d : D} {xs : List PyData}
theorem Rep.listR (r : Rep K Mm H v d) (s : RS K Mm H S) (e : imOf S d = some (.list xs)) : ∃ a vs, v = .ref a ∧ SqL K H a vs ∧ RpA K (fz Mm H) vs xs := by
  cases d with
  | im q =>
    have e' : q = .list xs := Option.some.inj e
    subst e'
    cases r with
    | lst h1 h2 => exact ⟨_, _, rfl, SqL.sub h1 (fz_sub _ _), h2⟩
  | rf i =>
    obtain ⟨a, rfl, ha⟩ := r
    unfold imOf at e
    split at e
    · rename_i z; cases z
    · rename_i i' h
      cases h
      split at e
      · rename_i ys hx
        cases e
        obtain ⟨vs, h1, h2⟩ := s.ob i a _ ha hx
        exact ⟨a, vs, rfl, SqL.of h1, h2⟩
      · rename_i ys hx
        cases e
        obtain ⟨o, vs, h1, h2⟩ := s.ob i a _ ha hx
        exact ⟨a, vs, rfl, .inl (.inr ⟨o, h1⟩), h2⟩
      · cases e
omit [PWd] in
theorem im_of_not_list {p : PyData} (e : imOf S d = some p) (h : ∀ xs, p ≠ .list xs) : d = .im p := by
  cases d with
  | im q => exact congrArg D.im (Option.some.inj e)
  | rf i =>
    unfold imOf at e
    split at e
    · rename_i z; cases z
    · split at e
      · cases e
        exact absurd rfl (h _)
      · cases e
        exact absurd rfl (h _)
      · cases e
theorem Rep.tupR (r : Rep K Mm H v d) (e : imOf S d = some (.tuple xs)) : ∃ a vs, v = .ref a ∧ TupN K (fz Mm H) a vs ∧ RpA K (fz Mm H) vs xs := by
  have e' := im_of_not_list e (fun _ => by simp)
  subst e'
  cases r with
  | tup h1 h2 => exact ⟨_, _, rfl, h1, h2⟩
end
section
variable {X : Cx} {E : XK}
theorem OpR.of {f : Value → Value → Sem Value} {r r' : R2} (h : OpR X f r) (i : ∀ x y H Q, r' x y H Q → r x y H Q) : OpR X f r' := fun pins s σ H x y v u Q I rx ry q => h pins s σ H x y v u Q I rx ry (i x y H Q q)
/-- a two-place operation by its meaning -/
def rD (K : PySem.W.Frag) (E : XK) (g : D → D → M D) : R2 := fun x y H Q => ∃ Mm S d1 d2, RS K Mm H S ∧ Rep K Mm H x d1 ∧ Rep K Mm H y d2 ∧ Post K (Rep K) E Mm H Q (g d1 d2 S)
theorem op_subD : OpR X (binaryOp .Sub) (rD X.K E subD) := OpR.of op_sub fun x y H Q ⟨Mm, S, d1, d2, rs, r1, r2, po⟩ => by
  unfold subD at po
  split at po
  · rename_i i j h1 h2
    have r1 := r1.reads rs h1
    have r2 := r2.reads rs h2
    cases r1
    cases r2
    exact ⟨i, j, rfl, rfl, po.use rs (Rp.int _)⟩
  · exact po.elim
theorem op_fdivD : OpR X (binaryOp .FloorDiv) (rD X.K E fdivD) := OpR.of op_fdivN fun x y H Q ⟨Mm, S, d1, d2, rs, r1, r2, po⟩ => by
  unfold fdivD at po
  split at po
  · rename_i i j h1 h2
    have r1 := r1.reads rs h1
    have r2 := r2.reads rs h2
    cases r1
    cases r2
    split at po
    · rename_i c
      exact ⟨i, j, rfl, rfl, c, po.use rs (Rp.int _)⟩
    · exact po.elim
  · exact po.elim
theorem op_modD : OpR X (binaryOp .Mod) (rD X.K E modD) := OpR.of op_modN fun x y H Q ⟨Mm, S, d1, d2, rs, r1, r2, po⟩ => by
  unfold modD at po
  split at po
  · rename_i i j h1 h2
    have r1 := r1.reads rs h1
    have r2 := r2.reads rs h2
    cases r1
    cases r2
    split at po
    · rename_i c
      exact ⟨i, j, rfl, rfl, c, po.use rs (Rp.int _)⟩
    · exact po.elim
  · exact po.elim
theorem op_powD : OpR X (binaryOp .Pow) (rD X.K E powD) := OpR.of op_pow fun x y H Q ⟨Mm, S, d1, d2, rs, r1, r2, po⟩ => by
  unfold powD at po
  split at po
  · rename_i i j h1 h2
    have r1 := r1.reads rs h1
    have r2 := r2.reads rs h2
    cases r1
    cases r2
    split at po
    · rename_i c
      exact ⟨i, j, rfl, rfl, c, po.use rs (Rp.int _)⟩
    · exact po.elim
  · exact po.elim
/-- a tuple times an int; a new tuple's object is told -/
def rRepN (K : PySem.W.Frag) : R2 := fun x y H Q => ∃ l k xs, x = .ref l ∧ y = .int k ∧ SqT K H l xs ∧ -1000 ≤ k ∧ k ≤ 1000 ∧ xs.length ≤ 1000 ∧ ((xs = [] ∨ k = 1) → Q (.ref l) H) ∧
  (¬ (xs = [] ∨ k = 1) → ∀ p o, H p = none → o.dict = none → Q (.ref p) (upd H p (.frz o (.tup (List.replicate k.toNat xs).flatten))))
theorem op_repN : OpR X (binaryOp .Mult) (rRepN X.K) := by
  intro pins s σ H x y v u Q I rx ry h
  obtain ⟨l, k, xs, rfl, rfl, hT, h1, h2, hz, q0, q1⟩ := h
  cases rx
  obtain ⟨t, rfl⟩ := ry
  obtain ⟨its, r, ⟨⟨cls, dd, data, sl⟩, ho, hc, n, hd⟩, hs⟩ := I.tuple hT
  simp only at hc hd
  subst hc hd
  have hle : its.length = xs.length := r.length.symm
  have hem : its.toArray.isEmpty = decide (xs = []) := by
    cases its with
    | nil => rw [List.eq_nil_of_length_eq_zero hle.symm]; rfl
    | cons a b =>
      cases xs with
      | nil => cases hle
      | cons c d => rfl
  have c0 : (decide (k < -(2 ^ 63)) || decide (k ≥ 2 ^ 63)) = false := by
    rw [decide_eq_false (by omega), decide_eq_false (by omega)] <;> rfl
  have sz : its.toArray.size = xs.length := by rw [List.size_toArray, hle]
  have hty : s.TypeIs (.ref l) "tuple" := ⟨_, ho, rfl⟩
  have go := fun {Q : Value → Shared → Prop} (z : wpAny (model X.prog X.w) X.A (call (.builtin "tuple.__mul__") [.ref l, .int k t]) Q X.xe s) => wpAny_binaryOp_repeat_ref (T := "tuple") (U := "int") (by decide) hty (fun s' => typeIs_int s' k t) noFill_tuple_mul F.fills_int_mul F.slot_int_rmul repeat_tuple F.slot_int_index.lookup
    (call_meets F.slot_int_rmul (typeIs_int s k t) F.entry_int_rmul (F.args_int_rmul_2 _ _) (int_rmul_tuple k t l its.toArray n dd sl) ⟨ho, rfl, hty, z⟩)
  by_cases c : xs = [] ∨ k = 1
  · have c1 : (its.toArray.isEmpty || k == 1) = true := by
      rw [hem]
      rcases c with c | c
      · simp [c]
      · simp [c]
    exact go (call_meets F.slot_tuple_mul hty F.entry_tuple_mul (F.args_tuple_mul_2 _ _) (tmul_same l its.toArray n dd sl k t c0 c1) ⟨ho, .ref l, H, I, rfl, q0 c⟩)
  · have hx : ¬ xs = [] := fun e => c (.inl e)
    have hk : ¬ k = 1 := fun e => c (.inr e)
    have c1 : (its.toArray.isEmpty || k == 1) = false := by
      rw [hem, decide_eq_false hx, Bool.false_or]
      exact beq_eq_false_iff_ne.mpr hk
    by_cases hp : k ≤ 0
    · have c2 : (decide (k ≤ 0) || its.toArray.isEmpty) = true := by rw [decide_eq_true hp]; rfl
      have e : (List.replicate k.toNat xs).flatten = [] := by
        rw [show k.toNat = 0 by omega]; rfl
      rw [e] at q1
      refine go (call_meets F.slot_tuple_mul hty F.entry_tuple_mul (F.args_tuple_mul_2 _ _) (tmul_none l its.toArray n dd sl k t c0 c1 c2) ⟨ho, ?_⟩)
      refine ⟨.ref s.heap.objs.size, _, I.laid (t' := s.toks) (o := .frz { cls := .type "tuple", data := .seq #[] } (.tup [])) (fun b ob q => Heap.get?_push_of_some _ q) (Nat.le_refl _) ?_, rfl, q1 c _ _ (I.hok.fresh (Nat.le_refl _)) rfl⟩
      exact ⟨Heap.get?_push_size _ rfl, Nat.zero_le _, [], .nil, ⟨_, Heap.get?_push_size _ rfl, rfl, 0, rfl⟩⟩
    · have hm : ((its.toArray.size : Nat) : Int) * k ≤ 1000000 := by
        rw [sz]
        have a1 : ((xs.length : Nat) : Int) * k ≤ 1000 * k := Int.mul_le_mul_of_nonneg_right (by omega) (by omega)
        omega
      have a2 : k.toNat * xs.length ≤ 1000 * 1000 := Nat.mul_le_mul (by omega) hz
      have flen : (List.replicate k.toNat its).flatten.length ≤ sizeLine := by
        rw [PyProof.Rows.lm_len_rep_flat, hle, sizeLine_eq]
        omega
      have c2 : (decide (k ≤ 0) || its.toArray.isEmpty) = false := by
        rw [hem, decide_eq_false hx, Bool.or_false]
        exact decide_eq_false hp
      have c4 : Builtin.Tuple.tupleTooMany (((its.toArray.size : Nat) : Int) * k) = false := by
        unfold Builtin.Tuple.tupleTooMany
        rw [sizeLine_eq]
        exact decide_eq_false (by omega)
      refine go (call_meets F.slot_tuple_mul hty F.entry_tuple_mul (F.args_tuple_mul_2 _ _) (tuple_mulW l its.toArray n dd sl k t c0 c1 c2 (by omega) c4 (by rw [size_rep, List.size_toArray]; exact flen)) ⟨ho, ?_⟩)
      rw [size_rep]
      refine ⟨.ref s.heap.objs.size, _, I.laid (t' := s.toks) (o := .frz { cls := .type "tuple", data := .seq (List.replicate k.toNat its).flatten.toArray } (.tup (List.replicate k.toNat xs).flatten)) (fun b ob q => Heap.get?_push_of_some _ q) (Nat.le_refl _) ?_, rfl, q1 c _ _ (I.hok.fresh (Nat.le_refl _)) rfl⟩
      exact ⟨Heap.get?_push_size _ rfl, by rw [PyProof.Rows.lm_len_rep_flat, sizeLine_eq]; omega, _, r.rep k.toNat, ⟨_, Heap.get?_push_size _ rfl, rfl, 0, rfl⟩⟩
theorem op_mulD : OpR X (binaryOp .Mult) (rD X.K E mulD) := OpR.of (op_mul.or op_repN) fun x y H Q ⟨Mm, S, d1, d2, rs, r1, r2, po⟩ => by
  unfold mulD at po
  split at po
  · rename_i i j h1 h2
    have r1 := r1.reads rs h1
    have r2 := r2.reads rs h2
    cases r1
    cases r2
    split at po
    · rename_i c
      exact .inl ⟨i, j, rfl, rfl, c, po.use rs (Rp.int _)⟩
    · exact po.elim
  · rename_i xs j h1 h2
    have r2 := r2.reads rs h2
    cases r2
    obtain ⟨a, vs, rfl, ht, ra⟩ := r1.tupR h1
    split at po
    · rename_i c
      have hl : vs.length = xs.length := ra.length
      refine .inr ⟨a, j, vs, rfl, rfl, SqT.sub ht.sq (fz_sub _ _), c.1, c.2.1, by omega, fun z => ?_, fun z p o hp ho => po.use' (Ev.new rs hp) (rs.new hp) (Rep.tup rs hp (ra.rep _) ho)⟩
      have e : (List.replicate j.toNat xs).flatten = xs := by
        rcases z with z | z
        · have : xs = [] := List.eq_nil_of_length_eq_zero (by rw [← hl, z]; rfl)
          rw [this]
          simp
        · rw [z]; simp
      rw [e] at po
      exact po.use rs (Rp.tup ht ra)
    · exact po.elim
  · exact po.elim
/-- list + list, whatever the two are -/
def rCatL (K : PySem.W.Frag) : R2 := fun x y H Q => ∃ l b xs zs, x = .ref l ∧ y = .ref b ∧ SqL K H l xs ∧ SqL K H b zs ∧ xs.length + zs.length ≤ sizeLine ∧ ∀ p, H p = none → Q (.ref p) (upd H p (.lst (xs ++ zs)))
theorem op_catL : OpR X (binaryOp .Add) (rCatL X.K) := by
  intro pins s σ H x y v u Q I rx ry h
  obtain ⟨l, b, xs, zs, rfl, rfl, hH, hB, hz, q⟩ := h
  cases rx
  cases ry
  obtain ⟨its, r, pl, _⟩ := I.list hH
  obtain ⟨its2, r2, pl2, _⟩ := I.list hB
  obtain ⟨⟨cls, dd, data, sl⟩, ho, hc, n, hd⟩ := id pl.isList
  obtain ⟨⟨cls2, dd2, data2, sl2⟩, ho2, hc2, n2, hd2⟩ := id pl2.isList
  simp only at hc hd hc2 hd2
  subst hc hd hc2 hd2
  have e : its.toArray ++ its2.toArray = (its ++ its2).toArray := by simp
  have l1 := r.length
  have l2 := r2.length
  refine concat_meets ⟨_, ho, rfl⟩ ⟨_, ho2, rfl⟩ noFill_list_add seq_list_add PySem.F.slot_list_add PySem.F.entry_list_add (PySem.F.args_list_add_2 _ _) (PyProof.Rows.list_addW l b its.toArray its2.toArray n n2 dd dd2 sl sl2 (by simp; omega)) ⟨ho, ho2, ?_⟩
  rw [e]
  exact ⟨.ref _, _, I.lnew (t' := s.toks) (r.append r2) (by rw [List.length_append]; omega), rfl, q _ I.fresh⟩
/-- t + u; a new tuple's object is told -/
def rCatN (K : PySem.W.Frag) : R2 := fun x y H Q => ∃ a b xs ys, x = .ref a ∧ y = .ref b ∧ SqT K H a xs ∧ SqT K H b ys ∧ xs.length + ys.length ≤ sizeLine ∧
  (xs = [] → Q (.ref b) H) ∧ (xs ≠ [] → ys = [] → Q (.ref a) H) ∧ (xs ≠ [] → ys ≠ [] → ∀ p o, H p = none → o.dict = none → Q (.ref p) (upd H p (.frz o (.tup (xs ++ ys)))))
theorem op_catN : OpR X (binaryOp .Add) (rCatN X.K) := by
  intro pins s σ H x y v u Q I rx ry h
  obtain ⟨a, b, xs, ys, rfl, rfl, ha, hb, hz, q0, q1, q2⟩ := h
  cases rx
  cases ry
  obtain ⟨its, r1, p1, _⟩ := I.tuple ha
  obtain ⟨its2, r2, p2, _⟩ := I.tuple hb
  by_cases hx : xs = []
  · subst hx
    cases r1
    exact cat_tup0 p1 p2 ⟨.ref b, H, I, rfl, q0 rfl⟩
  · refine HT.cat_tup p1 p2 (fun z => hx (r1.nil_iff.mp z)) (fun z => ⟨.ref a, H, I, rfl, q1 hx (r2.nil_iff.mp z)⟩) (fun z => ?_) (by rw [← r1.length, ← r2.length]; exact hz)
    refine ⟨.ref s.heap.objs.size, _, I.laid (t' := s.toks) (o := .frz { cls := .type "tuple", data := .seq (its ++ its2).toArray } (.tup (xs ++ ys))) (fun b ob q => Heap.get?_push_of_some _ q) (Nat.le_refl _) ?_, rfl, q2 hx (fun w => z (r2.nil_iff.mpr w)) _ _ (I.hok.fresh (Nat.le_refl _)) rfl⟩
    exact ⟨Heap.get?_push_size _ rfl, by rw [List.length_append]; exact hz, _, r1.append r2, IsTup.new _ _⟩
theorem op_addD : OpR X (binaryOp .Add) (rD X.K E addD) := OpR.of ((op_add.or op_add_str).or (op_catN.or op_catL)) fun x y H Q ⟨Mm, S, d1, d2, rs, r1, r2, po⟩ => by
  unfold addD at po
  split at po
  · rename_i i j h1 h2
    have r1 := r1.reads rs h1
    have r2 := r2.reads rs h2
    cases r1
    cases r2
    exact .inl (.inl ⟨i, j, rfl, rfl, po.use rs (Rp.int _)⟩)
  · rename_i i j h1 h2
    have r1 := r1.reads rs h1
    have r2 := r2.reads rs h2
    cases r1
    cases r2
    split at po
    · rename_i c
      exact .inl (.inr ⟨i, j, rfl, rfl, c, po.use rs (Rp.str _)⟩)
    · exact po.elim
  · rename_i xs ys h1 h2
    obtain ⟨a, vs, rfl, s1, a1⟩ := r1.tupR h1
    obtain ⟨b, ws, rfl, s2, a2⟩ := r2.tupR h2
    have l1 := a1.length
    have l2 := a2.length
    split at po
    · rename_i c
      refine .inr (.inl ⟨a, b, vs, ws, rfl, rfl, SqT.sub s1.sq (fz_sub _ _), SqT.sub s2.sq (fz_sub _ _), by omega, fun e => ?_, fun _ e => ?_, fun _ _ p o hp ho => ?_⟩)
      · subst e
        have e' : xs = [] := List.eq_nil_of_length_eq_zero (by simpa using l1.symm)
        subst e'
        exact po.use rs (Rp.tup s2 a2)
      · subst e
        have e' : ys = [] := List.eq_nil_of_length_eq_zero (by simpa using l2.symm)
        subst e'
        rw [List.append_nil] at po
        exact po.use rs (Rp.tup s1 a1)
      · exact po.use' (Ev.new rs hp) (rs.new hp) (Rep.tup rs hp (a1.append a2) ho)
    · exact po.elim
  · rename_i xs ys h1 h2
    obtain ⟨a, vs, rfl, s1, a1⟩ := r1.listR rs h1
    obtain ⟨b, ws, rfl, s2, a2⟩ := r2.listR rs h2
    have l1 := a1.length
    have l2 := a2.length
    split at po
    · rename_i c
      exact .inr (.inr ⟨a, b, vs, ws, rfl, rfl, s1, s2, by omega, fun p hp => po.use' (Ev.new rs hp) (rs.new hp) (Rep.lst rs hp (a1.append a2))⟩)
    · exact po.elim
  · exact po.elim

/-! ### comparisons -/
theorem ofB_post {o : Option Bool} {K : PySem.W.Frag} {Mm : MM} {H : Hp} {S : Mem} {Q : VK} (s : RS K Mm H S) (po : Post K (Rep K) E Mm H Q (ofB o S)) : ∃ b, o = some b ∧ Q (.bl b) H := by
  cases o with
  | none => exact po.elim
  | some b => exact ⟨b, rfl, po.use s (Rp.bl b)⟩
omit [PWd] in
theorem eqP_some {S : Mem} {a b : D} {r : Bool} (h : eqP S a b = some r) : (∃ x y, imOf S a = some (.str x) ∧ imOf S b = some (.str y) ∧ r = (x == y)) ∨ ∃ p q, imOf S a = some p ∧ imOf S b = some q ∧ SeqAt.shaped p = true ∧ SeqAt.shaped q = true ∧ r = PyData.eqv p q := by
  unfold eqP at h
  split at h
  · rename_i x y h1 h2
    exact .inl ⟨x, y, h1, h2, (Option.some.inj h).symm⟩
  · rename_i p q _ h1 h2
    split at h
    · rename_i c
      exact .inr ⟨p, q, h1, h2, c.1, c.2, (Option.some.inj h).symm⟩
    · cases h
  · cases h
omit [PWd] in
theorem inP_some {S : Mem} {a b : D} {r : Bool} (h : inP S a b = some r) : (∃ p xs, imOf S a = some p ∧ SeqAt.shaped p = true ∧ r = (xs.any fun z => PyData.eqv z p) ∧
    ((imOf S b = some (.list xs) ∧ SeqAt.shaped (.list xs) = true) ∨ (imOf S b = some (.tuple xs) ∧ SeqAt.shaped (.tuple xs) = true))) ∨ ∃ k kvs, imOf S a = some (kP k) ∧ dctOf S b = some kvs ∧ r = (lkP (kP k) kvs).isSome := by
  unfold inP at h
  split at h
  · rename_i p xs h1 h2
    split at h
    · rename_i c
      exact .inl ⟨p, xs, h1, c.1, (Option.some.inj h).symm, .inl ⟨h2, c.2⟩⟩
    · cases h
  · rename_i p xs h1 h2
    split at h
    · rename_i c
      exact .inl ⟨p, xs, h1, c.1, (Option.some.inj h).symm, .inr ⟨h2, c.2⟩⟩
    · cases h
  · rename_i p h1 _ _
    split at h
    · rename_i kvs hk
      split at h
      · rename_i c
        obtain ⟨k, rfl⟩ := isKy_some c
        exact .inr ⟨k, kvs, h1, hk, (Option.some.inj h).symm⟩
      · cases h
    · cases h
  · cases h
/-- y in d, d a dict -/
def rInK (neg : Bool) : R2 := fun x y H Q => ∃ a o, y = .ref a ∧ DGet H a x o ∧ Q (.bl (if neg then !o.isSome else o.isSome)) H
theorem op_inK (hu : X.A.units + 1 < cLine) : OpR X (compareOp .In) (rInK false) := by
  rintro pins s σ H x y v u Q I rx ry ⟨a, o, rfl, g, q⟩
  obtain rfl : u = Value.ref a := ry
  exact d_in hu I g rx fun s' I' => ⟨.bl o.isSome, H, I', rfl, q⟩
theorem op_notInK (hu : X.A.units + 1 < cLine) : OpR X (compareOp .NotIn) (rInK true) := by
  rintro pins s σ H x y v u Q I rx ry ⟨a, o, rfl, g, q⟩
  obtain rfl : u = Value.ref a := ry
  exact d_notIn hu I g rx fun s' I' => ⟨.bl (!o.isSome), H, I', rfl, q⟩
theorem dget_of {K : PySem.W.Frag} {Mm : MM} {H : Hp} {S : Mem} {v x : V} {d e : D} {k : Key} {kvs : List (PyData × PyData)} (rs : RS K Mm H S) (r : Rep K Mm H v d) (hd : dctOf S d = some kvs) (rx : Rep K Mm H x e) (he : imOf S e = some (kP k)) :
    ∃ a o, v = .ref a ∧ DGet H a x o ∧ o.isSome = (lkP (kP k) kvs).isSome ∧ ∀ p, lkP (kP k) kvs = some p → ∃ u, o = some u ∧ Rp K (fz Mm H) u p := by
  obtain ⟨a, vs, rfl, h1, h2⟩ := r.dctR rs hd
  have ex : x = kV k := (rx.reads rs he).ky
  refine ⟨a, valV vs k, rfl, .inl ⟨vs, k, h1, ex, rfl⟩, ?_⟩
  rcases h2.get k with ⟨g1, g2⟩ | ⟨u, p, g1, g2, g3⟩
  · rw [g1, g2]
    exact ⟨rfl, fun p hp => nomatch hp⟩
  · rw [g1, g2]
    exact ⟨rfl, fun p' hp => ⟨u, rfl, by cases hp; exact g3⟩⟩
def rInT (K : PySem.W.Frag) (neg : Bool) : R2 := fun x y H Q => ∃ d ds, Dp K H x d ∧ Dp K H y (.tuple ds) ∧ SeqAt.shaped d = true ∧ SeqAt.shaped (.tuple ds) = true ∧ Q (.bl (if neg then !(ds.any fun z => PyData.eqv z d) else ds.any fun z => PyData.eqv z d)) H
omit [PWd] in
theorem room_in_shapedT {A : Around} {xs : List PyData} {d : PyData} (hd : SeqAt.shaped d = true) (hu : A.units + 65 < cLine) : A.units + 1 + min (PyData.depthAll xs) d.depth < cLine := by
  have h1 := SeqAt.depth_of_shaped hd
  have h2 : min (PyData.depthAll xs) d.depth ≤ d.depth := Nat.min_le_right _ _
  omega
theorem op_inT (hu : X.A.units + 65 < cLine) : OpR X (compareOp .In) (rInT X.K false) := by
  intro pins s σ H x y v u Q I rx ry h
  obtain ⟨d, ds, hd, he, sd, se, q⟩ := h
  obtain ⟨as, r1⟩ := Dp.reads I d x v hd rx
  obtain ⟨bs, r2⟩ := Dp.reads I (.tuple ds) y u he ry
  exact SeqAt.in_tuple_reads r2 r1 (SeqAt.canLay_of_shaped se) (SeqAt.canLay_of_shaped sd) (room_in_shapedT sd hu) ⟨.bl _, H, I, rfl, q⟩
theorem op_notInT (hu : X.A.units + 65 < cLine) : OpR X (compareOp .NotIn) (rInT X.K true) := by
  intro pins s σ H x y v u Q I rx ry h
  obtain ⟨d, ds, hd, he, sd, se, q⟩ := h
  obtain ⟨as, r1⟩ := Dp.reads I d x v hd rx
  obtain ⟨bs, r2⟩ := Dp.reads I (.tuple ds) y u he ry
  exact SeqAt.notIn_tuple_reads r2 r1 (SeqAt.canLay_of_shaped se) (SeqAt.canLay_of_shaped sd) (room_in_shapedT sd hu) ⟨.bl _, H, I, rfl, q⟩
/-- < of tuples of like data -/
def rLtD (K : PySem.W.Frag) : R2 := fun x y H Q => ∃ ds es, Dp K H x (.tuple ds) ∧ Dp K H y (.tuple es) ∧ PySem.W.alikeAll ds es = true ∧ SeqAt.shaped (.tuple ds) = true ∧ Q (.bl (PySem.W.dataLt (.tuple ds) (.tuple es))) H
theorem op_ltD (hu : X.A.units + 65 < cLine) : OpR X (compareOp .Lt) (rLtD X.K) := by
  intro pins s σ H x y v u Q I rx ry h
  obtain ⟨d, e, hd, he, ha, hs, q⟩ := h
  obtain ⟨as, r1⟩ := Dp.reads I _ x v hd rx
  obtain ⟨bs, r2⟩ := Dp.reads I _ y u he ry
  have h1 := SeqAt.depth_of_shaped hs
  exact PySem.W.rcLt_alike _ _ X.A s v u as bs r1 r2 (by simpa [PySem.W.alike] using ha) (by simp) (by omega) _ _ _ _ ⟨.bl _, H, I, rfl, q⟩
theorem op_cmpD (hu : X.A.units + 66 < cLine) : ∀ op, OpR X (compareOp op) (rD X.K E (cmpD op))
  | .Eq => OpR.of ((op_eq.or (op_eqD (by omega))).or ((op_eqE (by omega)).or (op_eqJ (by omega)))) fun x y H Q ⟨Mm, S, d1, d2, rs, r1, r2, po⟩ => by
    obtain ⟨b, e, q⟩ := ofB_post rs po
    have e : eqN S d1 d2 = some b := e
    unfold eqN at e
    split at e
    · rename_i r0 e0
      cases e
      rcases eqP_some e0 with ⟨z, z', h1, h2, rfl⟩ | ⟨p, p', h1, h2, s1, s2, rfl⟩
      · have r1 := r1.reads rs h1
        have r2 := r2.reads rs h2
        cases r1
        cases r2
        exact .inl (.inl ⟨rfl, by rw [dec_str]; exact q⟩)
      exact .inl (.inr ⟨p, p', (r1.reads rs h1).shaped s1, (r2.reads rs h2).shaped s2, s1, s2, q⟩)
    · unfold eqF at e
      split at e
      · rename_i xs h1 h2
        cases e
        obtain ⟨a, vs, rfl, t1, a1⟩ := r1.tupR h1
        obtain ⟨c, ws, rfl, t2, a2⟩ := r2.tupR h2
        cases a2
        refine .inr (.inl ⟨a, c, vs, rfl, rfl, SqT.sub t1.sq (fz_sub _ _), SqT.sub t2.sq (fz_sub _ _), ?_⟩)
        have z : vs.isEmpty = xs.isEmpty := by cases a1 <;> rfl
        rw [z]
        exact q
      · rename_i xs j h1 h2
        cases e
        obtain ⟨a, vs, rfl, t1, a1⟩ := r1.listR rs h1
        have r2 := r2.reads rs h2
        cases r2
        exact .inr (.inr ⟨a, j, rfl, rfl, .inl ⟨vs, t1⟩, q⟩)
      · rename_i xs j h1 h2
        cases e
        obtain ⟨a, vs, rfl, t1, a1⟩ := r1.tupR h1
        have r2 := r2.reads rs h2
        cases r2
        exact .inr (.inr ⟨a, j, rfl, rfl, .inr (.inl ⟨vs, SqT.sub t1.sq (fz_sub _ _)⟩), q⟩)
      · rename_i kvs j h1 h2
        cases e
        have r1 := r1.reads rs h1
        have r2 := r2.reads rs h2
        cases r2
        cases r1 with
        | dct g _ => exact .inr (.inr ⟨_, j, rfl, rfl, .inr (.inr ⟨_, .inr ⟨_, g⟩⟩), q⟩)
      · cases e
  | .NotEq => OpR.of ((op_ne.or (op_neD (by omega))).or (op_neE (by omega))) fun x y H Q ⟨Mm, S, d1, d2, rs, r1, r2, po⟩ => by
    obtain ⟨b, e, q⟩ := ofB_post rs po
    obtain ⟨b', e2, rfl⟩ := Option.map_eq_some_iff.mp e
    unfold eqM at e2
    split at e2
    · rename_i r0 e0
      cases e2
      rcases eqP_some e0 with ⟨z, z', h1, h2, rfl⟩ | ⟨p, p', h1, h2, s1, s2, rfl⟩
      · have r1 := r1.reads rs h1
        have r2 := r2.reads rs h2
        cases r1
        cases r2
        exact .inl (.inl ⟨rfl, by rw [dec_str]; exact q⟩)
      exact .inl (.inr ⟨p, p', (r1.reads rs h1).shaped s1, (r2.reads rs h2).shaped s2, s1, s2, q⟩)
    · split at e2
      · rename_i xs h1 h2
        cases e2
        obtain ⟨a, vs, rfl, t1, a1⟩ := r1.listR rs h1
        obtain ⟨c, ws, rfl, t2, a2⟩ := r2.listR rs h2
        cases a2
        refine .inr ⟨a, c, vs, rfl, rfl, t1, t2, ?_⟩
        have z : vs.isEmpty = xs.isEmpty := by cases a1 <;> rfl
        rw [z]
        exact q
      · cases e2
  | .Lt => OpR.of (op_lt.or (op_ltD (by omega))) fun x y H Q ⟨Mm, S, d1, d2, rs, r1, r2, po⟩ => by
    obtain ⟨b, e, q⟩ := ofB_post rs po
    have e : ltP S d1 d2 = some b := e
    unfold ltP at e
    split at e
    · rename_i i j h1 h2
      have r1 := r1.reads rs h1
      have r2 := r2.reads rs h2
      cases r1
      cases r2
      cases e
      exact .inl ⟨i, j, rfl, rfl, q⟩
    · rename_i xs ys h1 h2
      split at e
      · rename_i c
        cases e
        exact .inr ⟨xs, ys, (r1.reads rs h1).shaped c.2.1, (r2.reads rs h2).shaped c.2.2, c.1, c.2.1, q⟩
      · cases e
    · cases e
  | .LtE => OpR.of op_le fun x y H Q ⟨Mm, S, d1, d2, rs, r1, r2, po⟩ => by
    obtain ⟨b, e, q⟩ := ofB_post rs po
    have e : leP S d1 d2 = some b := e
    unfold leP at e
    split at e
    · rename_i i j h1 h2
      have r1 := r1.reads rs h1
      have r2 := r2.reads rs h2
      cases r1
      cases r2
      cases e
      exact ⟨i, j, rfl, rfl, q⟩
    · cases e
  | .Gt => OpR.of op_gt fun x y H Q ⟨Mm, S, d1, d2, rs, r1, r2, po⟩ => by
    obtain ⟨b, e, q⟩ := ofB_post rs po
    unfold cmpP at e
    simp only at e
    split at e
    · rename_i i j h1 h2
      have r1 := r1.reads rs h1
      have r2 := r2.reads rs h2
      cases r1
      cases r2
      cases e
      exact ⟨i, j, rfl, rfl, q⟩
    · cases e
  | .GtE => OpR.of op_ge fun x y H Q ⟨Mm, S, d1, d2, rs, r1, r2, po⟩ => by
    obtain ⟨b, e, q⟩ := ofB_post rs po
    unfold cmpP at e
    simp only at e
    split at e
    · rename_i i j h1 h2
      have r1 := r1.reads rs h1
      have r2 := r2.reads rs h2
      cases r1
      cases r2
      cases e
      exact ⟨i, j, rfl, rfl, q⟩
    · cases e
  | .In => OpR.of (((op_inD (by omega)).or (op_inT (by omega))).or (op_inK (by omega))) fun x y H Q ⟨Mm, S, d1, d2, rs, r1, r2, po⟩ => by
    obtain ⟨b, e, q⟩ := ofB_post rs po
    rcases inP_some e with ⟨p, xs, h1, s1, rfl, h2 | h2⟩ | ⟨k, kvs, h1, h2, rfl⟩
    · exact .inl (.inl ⟨p, xs, (r1.reads rs h1).shaped s1, (r2.reads rs h2.1).shaped h2.2, s1, h2.2, q⟩)
    · exact .inl (.inr ⟨p, xs, (r1.reads rs h1).shaped s1, (r2.reads rs h2.1).shaped h2.2, s1, h2.2, q⟩)
    · obtain ⟨a, o, rfl, g, eo, _⟩ := dget_of rs r2 h2 r1 h1
      exact .inr ⟨a, o, rfl, g, by rw [eo]; exact q⟩
  | .NotIn => OpR.of (((op_notInD (by omega)).or (op_notInT (by omega))).or (op_notInK (by omega))) fun x y H Q ⟨Mm, S, d1, d2, rs, r1, r2, po⟩ => by
    obtain ⟨b, e, q⟩ := ofB_post rs po
    obtain ⟨b', e2, rfl⟩ := Option.map_eq_some_iff.mp e
    rcases inP_some e2 with ⟨p, xs, h1, s1, rfl, h2 | h2⟩ | ⟨k, kvs, h1, h2, rfl⟩
    · exact .inl (.inl ⟨p, xs, (r1.reads rs h1).shaped s1, (r2.reads rs h2.1).shaped h2.2, s1, h2.2, q⟩)
    · exact .inl (.inr ⟨p, xs, (r1.reads rs h1).shaped s1, (r2.reads rs h2.1).shaped h2.2, s1, h2.2, q⟩)
    · obtain ⟨a, o, rfl, g, eo, _⟩ := dget_of rs r2 h2 r1 h1
      exact .inr ⟨a, o, rfl, g, by show Q (.bl (!o.isSome)) H; rw [eo]; exact q⟩
  | .Is => OpR.of (op_isN.or L2.op_isBl) fun x y H Q ⟨Mm, S, d1, d2, rs, r1, r2, po⟩ => by
    obtain ⟨b, e0, q⟩ := ofB_post rs po
    have e : isNP d1 d2 = some b := e0
    clear e0
    unfold isNP at e
    split at e
    · cases e; cases r1; cases r2; exact .inl ⟨rfl, q⟩
    · rename_i p hp
      cases e; cases r2
      refine .inl ⟨rfl, ?_⟩
      have e' : decide (x = V.non) = false := decide_eq_false fun z => by subst z; cases r1; exact hp rfl
      rw [e']
      exact q
    · cases e; cases r1; cases r2
      exact .inr ⟨_, _, rfl, rfl, q⟩
    · cases e
  | .IsNot => OpR.of (op_notN.or L2.op_notBl) fun x y H Q ⟨Mm, S, d1, d2, rs, r1, r2, po⟩ => by
    obtain ⟨b, e, q⟩ := ofB_post rs po
    obtain ⟨b', e2, rfl⟩ := Option.map_eq_some_iff.mp e
    clear e
    have e : isNP d1 d2 = some b' := e2
    clear e2
    unfold isNP at e
    split at e
    · cases e; cases r1; cases r2; exact .inl ⟨rfl, q⟩
    · rename_i p hp
      cases e; cases r2
      refine .inl ⟨rfl, ?_⟩
      have e' : decide (x = V.non) = false := decide_eq_false fun z => by subst z; cases r1; exact hp rfl
      rw [e']
      exact q
    · cases e; cases r1; cases r2
      exact .inr ⟨_, _, rfl, rfl, q⟩
    · cases e
end
end DL
end

section
set_option maxRecDepth 100000
set_option maxHeartbeats 4000000
/-! DTP: dicts by flat tuples: made, asked, changed. Ours. -/
namespace DL
open PySem PySem.Spec PyProof.Rows L2 PySem.W
theorem Rp.keyU {K : PySem.W.Frag} {G : Hp} {v : V} {k : List Key} (h : Rp K G v (encK k)) : ∃ a, v = .ref a ∧ TupN K G a (k.map kV) := by
  unfold encK at h
  cases h with
  | tup hs ha =>
    rename_i a xs
    refine ⟨a, rfl, ?_⟩
    have key : ∀ {ks : List Key} {xs : List V}, RpA K G xs (ks.map kP) → xs = ks.map kV := by
      intro ks
      induction ks with
      | nil => intro xs r; cases r; rfl
      | cons k r ih =>
        intro xs ra
        cases ra with
        | cons r1 r2 =>
          rw [List.map_cons, ← ih r2]
          cases k <;> (cases r1; rfl)
    rw [← key ha]
    exact hs
theorem ktup_some {p : PyData} {k : List Key} (h : ktup p = some k) : p = encK k := by
  cases p with
  | tuple xs => exact congrArg PyData.tuple (kDs_some h)
  | _ => cases h
section
variable {X : Cx} {pins : List (Addr × Obj)} {σ : L2.St} {H G : Hp} {s : Shared} {a b : Addr} {k : List Key} {xs : List (List Key × Addr × Value)} {kvs : List (PyData × PyData)}
theorem Inv.isU (I : L2.Inv X pins σ H s) (h : SqT X.K H b (k.map kV)) : (tupleKind (mixKind X.prog X.w)).is s.heap k b := by
  obtain ⟨its, r, ⟨o, ho, hc, n, hd⟩, _⟩ := I.tuple h
  exact ⟨o, its.toArray, n, ho, hc, hd, by simpa using items_are r⟩
/-- the dict in the heap -/
theorem td_heap (I : L2.Inv X pins σ H s) (e : H a = some (TdO X.prog X.w a xs)) (r : TdR X.K G xs kvs) (sg : Sub G H) : (a == sysModules) = false ∧ xs.length ≤ sizeLine ∧ s.heap.DictOfH (tupleKind (mixKind X.prog X.w)) a xs := by
  obtain ⟨z, l, o, es, ep, h1, h2, h3, h4, h5⟩ := (I.hok a _ e).1
  refine ⟨z, l, o, es, ep, h1, h2, h3, h4, ?_, h5⟩
  clear z l h1 h2 h3 h4 h5 e
  induction r with
  | nil => exact fun x hx => nomatch hx
  | cons g1 g2 g3 _ ih =>
    intro x hx
    rcases List.mem_cons.mp hx with rfl | hx
    · obtain ⟨b, eb, tb⟩ := g1.keyU
      cases eb
      exact Inv.isU I (tb.sub sg).sq
    · exact ih x hx
theorem td_getItem {A : Around} {E : Value → Shared → Prop} {Q : Value → Shared → Prop} {p : Addr × Value} (hu : A.units + 1 < cLine) (I : L2.Inv X pins σ H s) (e : H a = some (TdO X.prog X.w a xs)) (r : TdR X.K G xs kvs) (sg : Sub G H) (eb : SqT X.K H b (k.map kV)) (hp : atKey xs k = some p) (h : ∀ s', L2.Inv X pins σ H s' → Q p.2 s') :
    wpAny (model X.prog X.w) A (getItem (.ref a) (.ref b)) Q E s := by
  obtain ⟨z, l, dd⟩ := td_heap I e r sg
  exact wpAny_getItem_heap (tupleKind_room_in1 hu) (Inv.isU I eb) dd hp (h _ (I.tok _))
theorem td_setItem {A : Around} {E : Value → Shared → Prop} {Q : Unit → Shared → Prop} {u : Value} (hu : A.units + 1 < cLine) (I : L2.Inv X pins σ H s) (e : H a = some (TdO X.prog X.w a xs)) (r : TdR X.K G xs kvs) (sg : Sub G H) (eb : SqT X.K H b (k.map kV)) (hl : xs.length < sizeLine)
    (h : ∀ s', L2.Inv X pins σ (upd H a (TdO X.prog X.w a (storedH xs k b u))) s' → Q () s') : wpAny (model X.prog X.w) A (setItem (.ref a) (.ref b) u) Q E s := by
  obtain ⟨z, l, dd⟩ := td_heap I e r sg
  have hl2 : (storedH xs k b u).length ≤ sizeLine := by
    unfold storedH
    split
    · rw [List.length_map]; exact l
    · rw [List.length_append, List.length_singleton]; omega
  refine wpAny_setItem_heap (hsz := l) (tupleKind_room_in1 hu) (Inv.isU I eb) dd fun h' dd' hs => h _ ?_
  obtain ⟨q, es, ep, hq, h2, h3, h4, _, h5⟩ := dd'
  exact d_write I (by rw [e]; exact True.intro) hs ⟨q, hq⟩ (td_obj ⟨z, hl2, q, es, ep, hq, h2, h3, h4, h5⟩)
end
variable [PWd]
section
variable {X : Cx} {E : XK} {W : WX}
/-- d[y], d by flat tuples -/
def rIxT (X : Cx) : R2 := fun x y H Q => ∃ (a b : Addr) (G : Hp) (xs : List (List Key × Addr × Value)) (kvs : List (PyData × PyData)) (k : List Key) (p : Addr × Value) (v : V), x = .ref a ∧ y = .ref b ∧ H a = some (TdO X.prog X.w a xs) ∧ TdR X.K G xs kvs ∧ Sub G H ∧ SqT X.K H b (k.map kV) ∧ atKey xs k = some p ∧ RelV v p.2 ∧ Q v H
theorem ix_tdc (hu : X.A.units + 1 < cLine) : IxR X (rIxT X) := by
  rintro value slice pins s σ H x y v u Q I rx ry ⟨a, b, G, xs, kvs, k, p, z, rfl, rfl, e, r, sg, eb, hp, rz, q⟩ hs
  obtain rfl : v = Value.ref a := rx
  obtain rfl : u = Value.ref b := ry
  obtain ⟨_, _, dd⟩ := td_heap I e r sg
  have hT : s.TypeIs (.ref a) "dict" := dd.typeIs
  have body : wpAny (model X.prog X.w) X.A (subscripted slice false (.ref a) (.ref b)) (fun r s' => wpAny (model X.prog X.w) X.A (letTemporaryGo value (.ref a) r >>= fun _ => pure r) (EP X pins σ Q) X.xe s') X.xe s := by
    rw [hs]
    exact wpAny_operating (td_getItem hu I e r sg eb hp fun s' I' => wpAny_bind (wpAny_letTemporaryGo (wpAny_pure ⟨z, H, I', rz, q⟩)))
  unfold subscriptTail
  refine wpAny_bind ?_
  rw [getitemInPython_of_ne hT.not_modules]
  refine wpAny_bind (wpAny_specialOf hT PySem.F.slot_dict_getitem.lookup ?_)
  first
    | exact wpAny_pure (wpAny_bind body)
    | exact wpAny_bind (wpAny_pure (wpAny_bind body))
    | exact wpAny_bind body
end
end DL
end

section
set_option maxRecDepth 100000
/-! DL4: subscripts, slices, built-ins, methods keep what their meaning says. Ours. -/
namespace DL
open PySem PySem.Spec PyProof.Rows L2
variable [PWd]
section
variable {X : Cx} {E : XK}
theorem IxR.of {r r' : R2} (h : IxR X r) (i : ∀ x y H Q, r' x y H Q → r x y H Q) : IxR X r' := fun value slice pins s σ H x y v u Q I rx ry q hs => h value slice pins s σ H x y v u Q I rx ry (i x y H Q q) hs
omit [PWd] in
theorem ixA_at {K : PySem.W.Frag} {G : Hp} {vs : List V} {ds : List PyData} {i : Int} {p : PyData} (r : RpA K G vs ds) (h : ixA ds i = some p) : ∃ v, atI vs i = some v ∧ Rp K G v p := by
  unfold ixA at h
  have hl := r.length
  unfold atI ixN
  by_cases h0 : 0 ≤ i
  · rw [if_pos h0] at h
    obtain ⟨v, e, rv⟩ := r.get h
    have hi : i.toNat < vs.length := (List.getElem?_eq_some_iff.mp e).1
    exact ⟨v, by rw [if_pos h0, if_pos (by omega)]; exact e, rv⟩
  · rw [if_neg h0] at h
    split at h
    · rename_i h1
      obtain ⟨v, e, rv⟩ := r.get h
      exact ⟨v, by rw [if_neg h0, if_pos (by rw [hl]; exact h1), hl]; exact e, rv⟩
    · cases h
omit [PWd] in
theorem seqOf_some {S : Mem} {d : D} {xs : List PyData} (h : seqOf S d = some xs) : imOf S d = some (.list xs) ∨ imOf S d = some (.tuple xs) := by
  unfold seqOf at h
  split at h
  · rename_i ys e
    cases h
    exact .inl e
  · rename_i ys e
    cases h
    exact .inr e
  · cases h
/-- d[y], d a dict -/
def rIxK : R2 := fun x y H Q => ∃ a v, x = .ref a ∧ DGet H a y (some v) ∧ Q v H
theorem ix_dic (hu : X.A.units + 1 < cLine) : IxR X rIxK := by
  rintro value slice pins s σ H x y v u Q I rx ry ⟨a, z, rfl, g, q⟩ hs
  obtain rfl : v = Value.ref a := rx
  have hT := dict_typeIs I g
  have body : wpAny (model X.prog X.w) X.A (subscripted slice false (.ref a) u) (fun r s' => wpAny (model X.prog X.w) X.A (letTemporaryGo value (.ref a) r >>= fun _ => pure r) (EP X pins σ Q) X.xe s') X.xe s := by
    rw [hs]
    exact wpAny_operating (d_getItem hu I g ry fun w' s' I' rw' => wpAny_bind (wpAny_letTemporaryGo (wpAny_pure ⟨z, H, I', rw', q⟩)))
  unfold subscriptTail
  refine wpAny_bind ?_
  rw [getitemInPython_of_ne hT.not_modules]
  refine wpAny_bind (wpAny_specialOf hT PySem.F.slot_dict_getitem.lookup ?_)
  first
    | exact wpAny_pure (wpAny_bind body)
    | exact wpAny_bind (wpAny_pure (wpAny_bind body))
    | exact wpAny_bind body
theorem ix_D (hw : PWd.P = X.prog ∧ PWd.w = X.w) (hu : X.A.units + 1 < cLine) : IxR X (rD X.K E idxD) := IxR.of (((ix_list.or ix_tup).or (ix_dic hu)).or (ix_tdc hu)) fun x y H Q ⟨Mm, S, d1, d2, rs, r1, r2, po⟩ => by
  unfold idxD at po
  split at po
  · rename_i xs i h
    cases r2
    split at po
    · rename_i p hp
      rcases seqOf_some h with h | h
      · obtain ⟨a, vs, rfl, s1, a1⟩ := r1.listR rs h
        obtain ⟨w, e, rw'⟩ := ixA_at a1 hp
        exact .inl (.inl (.inl ⟨a, vs, i, w, rfl, rfl, s1, e, po.use rs rw'⟩))
      · obtain ⟨a, vs, rfl, s1, a1⟩ := r1.tupR h
        obtain ⟨w, e, rw'⟩ := ixA_at a1 hp
        exact .inl (.inl (.inr ⟨a, vs, i, w, rfl, rfl, SqT.sub s1.sq (fz_sub _ _), e, po.use rs rw'⟩))
    · exact po.elim
  · split at po
    · rename_i kvs hk
      split at po
      · rename_i c
        obtain ⟨k, rfl⟩ := isKy_some c
        split at po
        · rename_i p hp
          obtain ⟨a, o, rfl, g, _, g2⟩ := dget_of rs r1 hk r2 (show imOf S (.im (kP k)) = some (kP k) from rfl)
          obtain ⟨w, rfl, rw'⟩ := g2 p hp
          exact .inl (.inr ⟨a, w, rfl, g, po.use rs rw'⟩)
        · exact po.elim
      · exact po.elim
    · split at po
      · rename_i kvs k hk hq
        split at po
        · rename_i p hp
          cases d1 with
          | im q => cases hk
          | rf i =>
            unfold tdOf at hk
            dsimp only at hk
            split at hk
            · rename_i kvs' hx
              cases hk
              obtain ⟨a, rfl, ha⟩ := r1
              obtain ⟨xs, hH, ra⟩ := rs.ob i a _ ha hx
              rw [hw.1, hw.2] at hH
              have e2 := ktup_some hq
              subst e2
              obtain ⟨b, rfl, tb⟩ := Rp.keyU r2
              rcases ra.get k with ⟨_, g2⟩ | ⟨p', v', d', g1, g2, g3, g4⟩
              · rw [g2] at hp; cases hp
              · rw [g2] at hp
                cases hp
                exact .inr ⟨a, b, fz Mm H, xs, kvs, k, p', v', rfl, rfl, hH, ra, fz_sub _ _, (tb.sub (fz_sub _ _)).sq, g1, g3, po.use rs g4⟩
            · cases hk
        · exact po.elim
      · exact po.elim
  · exact po.elim

/-! ### slices -/
def rSlN (K : PySem.W.Frag) : V → Option Int → Option Int → Hp → VK → Prop := fun x lo hi H Q => ∃ a xs, x = .ref a ∧ SqT K H a xs ∧
  (HT.sIx xs.length 0 lo = 0 ∧ HT.sIx xs.length xs.length hi = xs.length → Q (.ref a) H) ∧ (∀ p o, H p = none → o.dict = none → Q (.ref p) (upd H p (.frz o (.tup (cutV xs lo hi)))))
theorem sl_tupN : SlR X (rSlN X.K) := by
  intro pins s σ H x v vl vu lo hi sl Q I rx hs pl pu h
  obtain ⟨a, xs, rfl, hx, q1, q2⟩ := h
  cases rx
  obtain ⟨its, r, ht, hz⟩ := I.tuple hx
  have hlen : its.toArray.size = xs.length := by rw [List.size_toArray]; exact r.length.symm
  refine ⟨"tuple", _, PyProof.Rows.slot_tuple_getitem.lookup, ht.typeIs, ?_⟩
  by_cases hw : HT.sIx xs.length 0 lo = 0 ∧ HT.sIx xs.length xs.length hi = xs.length
  · exact getItem_tuple_whole ht hs pl pu (by rw [hlen]; exact hw) ⟨.ref a, H, I, rfl, q1 hw⟩
  · refine HT.getItem_tuple_cut ht hs pl pu (by rw [hlen]; exact hw) ?_ (by rw [hlen]; exact hz)
    rw [hlen]
    refine ⟨.ref s.heap.objs.size, _, I.laid (t' := s.toks) (o := .frz { cls := .type "tuple", data := .seq ((its.drop (HT.sIx xs.length 0 lo)).take (HT.sIx xs.length xs.length hi - HT.sIx xs.length 0 lo)).toArray } (.tup (cutV xs lo hi))) (fun b ob q => Heap.get?_push_of_some _ q) (Nat.le_refl _) ?_, rfl, q2 _ _ (I.hok.fresh (Nat.le_refl _)) rfl⟩
    exact ⟨Heap.get?_push_size _ rfl, Nat.le_trans (cutV_length xs lo hi) hz, _, (r.drop (HT.sIx xs.length 0 lo)).take (HT.sIx xs.length xs.length hi - HT.sIx xs.length 0 lo), IsTup.new _ _⟩
def rSlD (K : PySem.W.Frag) (E : XK) : V → Option Int → Option Int → Hp → VK → Prop := fun x lo hi H Q => ∃ Mm S d, RS K Mm H S ∧ Rep K Mm H x d ∧ Post K (Rep K) E Mm H Q (sliceD d lo hi S)
omit [PWd] in
theorem RpA.cut {K : PySem.W.Frag} {G : Hp} {vs : List V} {ds : List PyData} (r : RpA K G vs ds) (lo hi : Option Int) : RpA K G (cutV vs lo hi) (cutL ds lo hi) := by
  unfold cutV cutL
  rw [r.length]
  exact (r.drop _).take _
omit [PWd] in
theorem cut_whole {ds : List PyData} {lo hi : Option Int} (h : HT.sIx ds.length 0 lo = 0 ∧ HT.sIx ds.length ds.length hi = ds.length) : cutL ds lo hi = ds := by
  unfold cutL
  rw [h.1, h.2]
  simp
theorem sl_D : SlR X (rSlD X.K E) := by
  intro pins s σ H x v vl vu lo hi sl Q I rx hs pl pu h
  obtain ⟨Mm, S, d, rs, r1, po⟩ := h
  unfold sliceD at po
  split at po
  · rename_i xs h1
    obtain ⟨a, vs, rfl, s1, a1⟩ := r1.listR rs h1
    exact sl_list pins s σ H _ v vl vu _ _ sl Q I rx hs pl pu ⟨a, vs, rfl, s1, fun p hp => po.use' (Ev.new rs hp) (rs.new hp) (Rep.lst rs hp (a1.cut _ _))⟩
  · rename_i xs h1
    obtain ⟨a, vs, rfl, s1, a1⟩ := r1.tupR h1
    refine sl_tupN pins s σ H _ v vl vu _ _ sl Q I rx hs pl pu ⟨a, vs, rfl, SqT.sub s1.sq (fz_sub _ _), fun w => ?_, fun p o hp ho => po.use' (Ev.new rs hp) (rs.new hp) (Rep.tup rs hp (a1.cut _ _) ho)⟩
    rw [a1.length] at w
    rw [cut_whole w] at po
    exact po.use rs (Rp.tup s1 a1)
  · exact po.elim

/-! ### built-ins -/
def rC (K : PySem.W.Frag) (E : XK) (g : List D → M D) : List V → Hp → VK → Prop := fun vs H Q => ∃ Mm S ds, RS K Mm H S ∧ RepA K Mm H vs ds ∧ Post K (Rep K) E Mm H Q (g ds S)
theorem CallR.of {f : Value} {r r' : List V → Hp → VK → Prop} (h : CallR X f r) (i : ∀ xs H Q, r' xs H Q → r xs H Q) : CallR X f r' := fun pins s σ H xs us Q I rx q => h pins s σ H xs us Q I rx (i xs H Q q)
def rC1 (K : PySem.W.Frag) (E : XK) (g : D → M D) : List V → Hp → VK → Prop := fun vs H Q => ∃ v Mm S d, vs = [v] ∧ RS K Mm H S ∧ Rep K Mm H v d ∧ Post K (Rep K) E Mm H Q (g d S)
def rC2 (K : PySem.W.Frag) (E : XK) (g : D → D → M D) : List V → Hp → VK → Prop := fun vs H Q => ∃ v w Mm S d e, vs = [v, w] ∧ RS K Mm H S ∧ Rep K Mm H v d ∧ Rep K Mm H w e ∧ Post K (Rep K) E Mm H Q (g d e S)
theorem rC_b1 {K : PySem.W.Frag} {g : D → M D} {vs : List V} {H : Hp} {Q : VK} (h : rC K E (b1 g) vs H Q) : rC1 K E g vs H Q := by
  obtain ⟨Mm, S, ds, rs, ra, po⟩ := h
  cases ra with
  | nil => exact po.elim
  | cons r1 rr =>
    cases rr with
    | cons _ _ => exact po.elim
    | nil => exact ⟨_, Mm, S, _, rfl, rs, r1, po⟩
theorem rC_b2 {K : PySem.W.Frag} {g : D → D → M D} {vs : List V} {H : Hp} {Q : VK} (h : rC K E (b2 g) vs H Q) : rC2 K E g vs H Q := by
  obtain ⟨Mm, S, ds, rs, ra, po⟩ := h
  cases ra with
  | nil => exact po.elim
  | cons r1 rr =>
    cases rr with
    | nil => exact po.elim
    | cons r2 rr =>
      cases rr with
      | cons _ _ => exact po.elim
      | nil => exact ⟨_, _, Mm, S, _, _, rfl, rs, r1, r2, po⟩
theorem cr_lenK : CallR X (.builtin "len") (fun xs H Q => ∃ a kvs, xs = [V.ref a] ∧ Rd H a (.dK kvs) ∧ Q (.int kvs.length) H) := by
  rintro pins s σ H xs us Q I r ⟨a, kvs, rfl, ha, q⟩
  rw [Vals.ref1 r]
  exact d_len I ha fun t s' I' => ⟨.int kvs.length, H, I', ⟨t, rfl⟩, q⟩
theorem cr_len : CallR X (.builtin "len") (rC1 X.K E lenD) := CallR.of (call_len.or cr_lenK) fun vs H Q ⟨v, Mm, S, d, hv, rs, r1, po⟩ => by
  subst hv
  unfold lenD at po
  split at po
  · rename_i xs h
    obtain ⟨a, ws, rfl, s1, a1⟩ := r1.listR rs h
    refine .inl ⟨_, ws.length, rfl, .inl ⟨ws, s1, rfl⟩, ?_⟩
    rw [a1.length]
    exact po.use rs (Rp.int _)
  · rename_i xs h
    obtain ⟨a, ws, rfl, s1, a1⟩ := r1.tupR h
    refine .inl ⟨_, ws.length, rfl, .inr ⟨ws, SqT.sub s1.sq (fz_sub _ _), rfl⟩, ?_⟩
    rw [a1.length]
    exact po.use rs (Rp.int _)
  · rename_i x h
    split at po
    · rename_i c
      have r1 := r1.reads rs h
      cases r1
      exact .inl ⟨_, x.length, rfl, ⟨c, rfl⟩, po.use rs (Rp.int _)⟩
    · exact po.elim
  · split at po
    · rename_i kvs hk
      obtain ⟨a, ws, rfl, h1, h2⟩ := r1.dctR rs hk
      refine .inr ⟨a, ws, rfl, h1, ?_⟩
      rw [h2.length]
      exact po.use rs (Rp.int _)
    · exact po.elim
theorem cr_intD : CallR X (.type "int") (rC1 X.K E intD) := CallR.of call_int1 fun vs H Q ⟨v, Mm, S, d, hv, rs, r1, po⟩ => by
  subst hv
  unfold intD at po
  split at po
  · rename_i i
    cases r1
    exact .inl ⟨i, rfl, po.use rs (Rp.int _)⟩
  · rename_i b
    cases r1
    exact .inr ⟨b, rfl, po.use rs (Rp.int _)⟩
  · exact po.elim
theorem cr_boolD : CallR X (.type "bool") (rC1 X.K E boolD) := CallR.of call_bool1 fun vs H Q ⟨v, Mm, S, d, hv, rs, r1, po⟩ => by
  subst hv
  unfold boolD at po
  split at po
  · rename_i i
    cases r1
    exact .inl ⟨i, rfl, po.use rs (Rp.bl _)⟩
  · rename_i b
    cases r1
    exact .inr ⟨b, rfl, po.use rs (Rp.bl _)⟩
  · exact po.elim
theorem cr_min2 (hc : X.calm = true) : CallR X (.builtin "min") (rC2 X.K E min2D) := CallR.of (call_min2 hc) fun vs H Q ⟨v, w, Mm, S, d, e, hv, rs, r1, r2, po⟩ => by
  subst hv
  unfold min2D at po
  split at po
  · rename_i i j
    cases r1
    cases r2
    exact ⟨i, j, rfl, po.use rs (Rp.int _)⟩
  · exact po.elim
theorem cr_max2 (hc : X.calm = true) : CallR X (.builtin "max") (rC2 X.K E max2D) := CallR.of (call_max2 hc) fun vs H Q ⟨v, w, Mm, S, d, e, hv, rs, r1, r2, po⟩ => by
  subst hv
  unfold max2D at po
  split at po
  · rename_i i j
    cases r1
    cases r2
    exact ⟨i, j, rfl, po.use rs (Rp.int _)⟩
  · exact po.elim
theorem intsOf_some {K : PySem.W.Frag} {Mm : MM} {H : Hp} {S : Mem} {v : V} {d : D} {ns : List Int} (r : Rep K Mm H v d) (rs : RS K Mm H S) (h : intsOf S d = some ns) : ∃ a, v = .ref a ∧ SqL K H a (ns.map V.int) := by
  unfold intsOf at h
  split at h
  · rename_i xs e
    obtain ⟨a, ws, rfl, s1, a1⟩ := r.listR rs e
    have e2 := RpA.ints a1 h
    subst e2
    exact ⟨a, rfl, s1⟩
  · cases h
theorem boolsOf_some {K : PySem.W.Frag} {Mm : MM} {H : Hp} {S : Mem} {v : V} {d : D} {ns : List Bool} (r : Rep K Mm H v d) (rs : RS K Mm H S) (h : boolsOf S d = some ns) : ∃ a, v = .ref a ∧ SqL K H a (ns.map V.bl) := by
  unfold boolsOf at h
  split at h
  · rename_i xs e
    obtain ⟨a, ws, rfl, s1, a1⟩ := r.listR rs e
    have e2 := RpA.bools a1 h
    subst e2
    exact ⟨a, rfl, s1⟩
  · cases h
omit [PWd] in
theorem minL_le : ∀ (r : List Int) (m : Int), minL m r ≤ m ∧ ∀ x ∈ r, minL m r ≤ x
  | [], m => ⟨Int.le_refl _, by simp⟩
  | i :: r, m => by
    unfold minL
    obtain ⟨h1, h2⟩ := minL_le r (if i < m then i else m)
    refine ⟨?_, ?_⟩
    · split at h1 <;> split <;> omega
    · intro x hx
      rcases List.mem_cons.mp hx with rfl | hx
      · split at h1 <;> split <;> omega
      · exact h2 x hx
omit [PWd] in
theorem minL_mem : ∀ (r : List Int) (m : Int), minL m r = m ∨ minL m r ∈ r
  | [], m => .inl rfl
  | i :: r, m => by
    unfold minL
    rcases minL_mem r (if i < m then i else m) with h | h
    · rw [h]
      split
      · exact .inr List.mem_cons_self
      · exact .inl rfl
    · exact .inr (List.mem_cons_of_mem _ h)
omit [PWd] in
theorem maxL_le : ∀ (r : List Int) (m : Int), m ≤ maxL m r ∧ ∀ x ∈ r, x ≤ maxL m r
  | [], m => ⟨Int.le_refl _, by simp⟩
  | i :: r, m => by
    unfold maxL
    obtain ⟨h1, h2⟩ := maxL_le r (if m < i then i else m)
    refine ⟨?_, ?_⟩
    · split at h1 <;> split <;> omega
    · intro x hx
      rcases List.mem_cons.mp hx with rfl | hx
      · split at h1 <;> split <;> omega
      · exact h2 x hx
omit [PWd] in
theorem maxL_mem : ∀ (r : List Int) (m : Int), maxL m r = m ∨ maxL m r ∈ r
  | [], m => .inl rfl
  | i :: r, m => by
    unfold maxL
    rcases maxL_mem r (if m < i then i else m) with h | h
    · rw [h]
      split
      · exact .inr List.mem_cons_self
      · exact .inl rfl
    · exact .inr (List.mem_cons_of_mem _ h)
theorem cr_min1 (hc : X.calm = true) : CallR X (.builtin "min") (rC1 X.K E min1D) := CallR.of (cr_min hc) fun vs H Q ⟨v, Mm, S, d, hv, rs, r1, po⟩ => by
  subst hv
  unfold min1D at po
  split at po
  · rename_i i r h
    obtain ⟨a, rfl, s1⟩ := intsOf_some r1 rs h
    refine ⟨a, i :: r, rfl, s1, by simp, fun m hm hle => ?_⟩
    have e : m = minL i r := by
      obtain ⟨h1, h2⟩ := minL_le r i
      have h3 : minL i r ≤ m := by
        rcases List.mem_cons.mp hm with rfl | hm
        · exact h1
        · exact h2 m hm
      have h4 : m ≤ minL i r := by
        rcases minL_mem r i with h | h
        · rw [h]; exact hle i List.mem_cons_self
        · exact hle _ (List.mem_cons_of_mem _ h)
      omega
    rw [e]
    exact po.use rs (Rp.int _)
  · exact po.elim
omit [PWd] in
theorem maxL_fold : ∀ (r : List Int) (i : Int), r.foldl max i = maxL i r
  | [], i => rfl
  | a :: r, i => by
    rw [List.foldl_cons, maxL_fold r]
    show maxL (max i a) r = maxL (if i < a then a else i) r
    congr 1
    split <;> omega
/-- max(t) of a tuple of ints -/
def rMaxT (K : PySem.W.Frag) : List V → Hp → VK → Prop := fun vs H Q => ∃ (a : Addr) (i : Int) (r : List Int), vs = [.ref a] ∧ SqT K H a ((i :: r).map V.int) ∧ Q (.int (maxL i r)) H
theorem cr_maxT (hc : X.calm = true) (hu : X.A.units + 67 < cLine) : CallR X (.builtin "max") (rMaxT X.K) := by
  rintro pins s σ H vs us Q I r ⟨a, i, ns, rfl, hs, q⟩
  rw [Vals.ref1 r]
  obtain ⟨its, rv, pl, hz⟩ := I.tuple hs
  have dp : ∀ l : List Int, DpAll X.K H (l.map V.int) (l.map PyData.int) := fun l => by
    induction l with
    | nil => exact .nil
    | cons z r ih => exact .cons (.int z) ih
  obtain ⟨as, hr⟩ := Dp.readsAll I _ _ its (dp (i :: ns)) rv
  have al : PySem.W.AlikeAll (PyData.int i :: ns.map PyData.int) := by
    rw [← List.map_cons]
    refine ⟨fun x hx y hy => ?_, fun x hx e => ?_⟩
    · obtain ⟨i, _, rfl⟩ := List.mem_map.mp hx
      obtain ⟨j, _, rfl⟩ := List.mem_map.mp hy
      rw [PySem.W.alike]
    · obtain ⟨i, _, rfl⟩ := List.mem_map.mp hx
      cases e
  have dep : ∀ l : List Int, PyData.depthAll (l.map PyData.int) = 0 := fun l => by
    induction l with
    | nil => simp [PyData.depthAll]
    | cons z r ih => simp [PyData.depthAll, PyData.depth, ih]
  have dep1 := dep (i :: ns)
  rw [List.map_cons] at dep1
  refine PySem.W.max_tuple_data (vs := its.toArray) (I.ok.hd hc) pl (by simpa using hr) al (by omega) fun j v h' tk bs hv hrd hk => ?_
  rw [PySem.W.maxD_ints, maxL_fold] at hrd
  cases hrd
  exact ⟨.int _, H, I.kept (t' := tk) hk, ⟨_, rfl⟩, q⟩
theorem cr_max1 (hc : X.calm = true) (hu : X.A.units + 67 < cLine) : CallR X (.builtin "max") (rC1 X.K E max1D) := CallR.of ((cr_max hc).or (cr_maxT hc hu)) fun vs H Q ⟨v, Mm, S, d, hv, rs, r1, po⟩ => by
  subst hv
  unfold max1D at po
  split at po
  · rename_i i r h
    obtain ⟨a, rfl, s1⟩ := intsOf_some r1 rs h
    refine .inl ⟨a, i :: r, rfl, s1, by simp, fun m hm hle => ?_⟩
    have e : m = maxL i r := by
      obtain ⟨h1, h2⟩ := maxL_le r i
      have h3 : m ≤ maxL i r := by
        rcases List.mem_cons.mp hm with rfl | hm
        · exact h1
        · exact h2 m hm
      have h4 : maxL i r ≤ m := by
        rcases maxL_mem r i with h | h
        · rw [h]; exact hle i List.mem_cons_self
        · exact hle _ (List.mem_cons_of_mem _ h)
      omega
    rw [e]
    exact po.use rs (Rp.int _)
  · split at po
    · rename_i i r h
      split at po
      · rename_i c
        unfold tintsOf at h
        split at h
        · rename_i xs e
          obtain ⟨a, ws, rfl, t1, a1⟩ := r1.tupR e
          have e2 := RpA.ints a1 h
          subst e2
          exact .inr ⟨a, i, r, rfl, SqT.sub t1.sq (fz_sub _ _), po.use rs (Rp.int _)⟩
        · cases h
      · exact po.elim
    · exact po.elim
theorem cr_sumD (hc : X.calm = true) : CallR X (.builtin "sum") (rC1 X.K E sumD) := CallR.of (cr_sum hc) fun vs H Q ⟨v, Mm, S, d, hv, rs, r1, po⟩ => by
  subst hv
  unfold sumD at po
  split at po
  · rename_i r h
    obtain ⟨a, rfl, s1⟩ := intsOf_some r1 rs h
    exact ⟨a, r, rfl, s1, po.use rs (Rp.int _)⟩
  · exact po.elim
theorem cr_allD (hc : X.calm = true) : CallR X (.builtin "all") (rC1 X.K E allD) := CallR.of (cr_all hc) fun vs H Q ⟨v, Mm, S, d, hv, rs, r1, po⟩ => by
  subst hv
  unfold allD at po
  split at po
  · rename_i r h
    obtain ⟨a, rfl, s1⟩ := boolsOf_some r1 rs h
    exact ⟨a, r, rfl, s1, po.use rs (Rp.bl _)⟩
  · exact po.elim
theorem cr_anyD (hc : X.calm = true) : CallR X (.builtin "any") (rC1 X.K E anyD) := CallR.of (cr_any hc) fun vs H Q ⟨v, Mm, S, d, hv, rs, r1, po⟩ => by
  subst hv
  unfold anyD at po
  split at po
  · rename_i r h
    obtain ⟨a, rfl, s1⟩ := boolsOf_some r1 rs h
    exact ⟨a, r, rfl, s1, po.use rs (Rp.bl _)⟩
  · exact po.elim
theorem call_tuple_ofN : CallR X (.type "tuple") (fun xs H Q => ∃ p ys, xs = [.ref p] ∧ ((SqL X.K H p ys ∧ ∀ l o, H l = none → o.dict = none → Q (.ref l) (upd H l (.frz o (.tup ys)))) ∨ (SqT X.K H p ys ∧ Q (.ref p) H))) := by
  intro pins s σ H xs us Q I r h
  obtain ⟨p, ys, rfl, h⟩ := h
  obtain ⟨u, rfl, rx⟩ := vals1 r
  cases rx
  rcases h with ⟨hq, q⟩ | ⟨hq, q⟩
  · obtain ⟨its, r', pl, hz⟩ := I.list hq
    have hlen := r'.length
    refine call_tuple_list pl.isList (fun h' kp => ?_) (by simp only [List.size_toArray] <;> omega)
    have I1 : Inv X pins σ H { s with heap := h' } := I.kept (t' := s.toks) kp
    have I2 : Inv X pins σ (upd H h'.objs.size (.frz { cls := .type "tuple", data := .seq its.toArray } (.tup ys))) { s with heap := h'.push { cls := .type "tuple", data := .seq its.toArray } } :=
      I1.laid (t' := s.toks) (fun b o e => Heap.get?_push_of_some _ e) (Nat.le_refl _) (show ObjOk X.prog X.w _ _ _ (.frz _ (.tup ys)) from ⟨Heap.get?_push_size _ rfl, hz, its, r', IsTup.new _ _⟩)
    exact ⟨.ref h'.objs.size, _, I2, rfl, q _ _ (I1.hok.fresh (Nat.le_refl _)) rfl⟩
  · obtain ⟨its, r', pl, hz⟩ := I.tuple hq
    exact call_tuple_same pl ⟨.ref p, H, I, rfl, q⟩
omit [PWd] in
theorem rpA_keys {K : PySem.W.Frag} {G : Hp} : ∀ kvs : List (Key × V), RpA K G (kvs.map fun kv => kV kv.1) (kvs.map fun kv => kP kv.1)
  | [] => .nil
  | p :: r => .cons (rp_kV p.1) (rpA_keys r)
theorem cr_listD (hc : X.calm = true) : CallR X (.type "list") (rC1 X.K E listD) := CallR.of (call_list_of.or (call_listD hc)) fun vs H Q ⟨v, Mm, S, d, hv, rs, r1, po⟩ => by
  subst hv
  unfold listD at po
  split at po
  · rename_i xs h
    rcases seqOf_some h with h | h
    · obtain ⟨a, vs, rfl, s1, a1⟩ := r1.listR rs h
      exact .inl ⟨a, vs, rfl, .inl s1, fun p hp => po.use' (Ev.new rs hp) (rs.new hp) (Rep.lst rs hp a1)⟩
    · obtain ⟨a, vs, rfl, s1, a1⟩ := r1.tupR h
      exact .inl ⟨a, vs, rfl, .inr (SqT.sub s1.sq (fz_sub _ _)), fun p hp => po.use' (Ev.new rs hp) (rs.new hp) (Rep.lst rs hp a1)⟩
  · split at po
    · rename_i kvs hk
      obtain ⟨a, vs, rfl, h1, h2⟩ := r1.dctR rs hk
      rw [h2.keys] at po
      exact .inr ⟨a, vs, rfl, h1, fun p hp => po.use' (Ev.new rs hp) (rs.new hp) (Rep.lst rs hp (rpA_keys vs))⟩
    · exact po.elim
/-- a new list as a mutable object -/
theorem RS.addL {K : PySem.W.Frag} {Mm : MM} {H : Hp} {S : Mem} {p : Addr} {vs : List V} {ds : List PyData} (rs : RS K Mm H S) (hp : H p = none) (a1 : RpA K (fz Mm H) vs ds) : RS K (Mm.add p) (upd H p (.lst vs)) (S ++ [.lst ds]) :=
  rs.add hp ⟨vs, upd_same, a1.mono (sub_add hp)⟩
theorem Rep.last {K : PySem.W.Frag} {Mm : MM} {H : Hp} {S : Mem} {p : Addr} (rs : RS K Mm H S) {H' : Hp} : Rep K (Mm.add p) H' (.ref p) (.rf S.length) := ⟨p, rfl, by rw [← rs.ln]; simp [MM.add]⟩
theorem op_maddD : OpR X (binaryOp .Add) (rD X.K E maddD) := OpR.of op_catL fun x y H Q ⟨Mm, S, d1, d2, rs, r1, r2, po⟩ => by
  unfold maddD at po
  split at po
  · rename_i xs ys h1 h2
    obtain ⟨a, vs, rfl, s1, a1⟩ := r1.listR rs h1
    obtain ⟨b, ws, rfl, s2, a2⟩ := r2.listR rs h2
    have l1 := a1.length
    have l2 := a2.length
    split at po
    · rename_i c
      exact ⟨a, b, vs, ws, rfl, rfl, s1, s2, by omega, fun p hp => po.use' (Ev.add rs hp) (rs.addL hp (a1.append a2)) (Rep.last rs)⟩
    · exact po.elim
  · exact po.elim
theorem cr_mlistD (hc : X.calm = true) : CallR X (.type "list") (rC1 X.K E mlistD) := CallR.of (call_list_of.or (call_listD hc)) fun vs H Q ⟨v, Mm, S, d, hv, rs, r1, po⟩ => by
  subst hv
  unfold mlistD at po
  split at po
  · rename_i xs h
    rcases seqOf_some h with h | h
    · obtain ⟨a, vs, rfl, s1, a1⟩ := r1.listR rs h
      exact .inl ⟨a, vs, rfl, .inl s1, fun p hp => po.use' (Ev.add rs hp) (rs.addL hp a1) (Rep.last rs)⟩
    · obtain ⟨a, vs, rfl, s1, a1⟩ := r1.tupR h
      exact .inl ⟨a, vs, rfl, .inr (SqT.sub s1.sq (fz_sub _ _)), fun p hp => po.use' (Ev.add rs hp) (rs.addL hp a1) (Rep.last rs)⟩
  · split at po
    · rename_i kvs hk
      obtain ⟨a, vs, rfl, h1, h2⟩ := r1.dctR rs hk
      rw [h2.keys] at po
      exact .inr ⟨a, vs, rfl, h1, fun p hp => po.use' (Ev.add rs hp) (rs.addL hp (rpA_keys vs)) (Rep.last rs)⟩
    · exact po.elim
/-! ### repr -/
theorem cr_reprD (hg : X.A.guards = some []) (hu : X.A.units + 67 < cLine) : CallR X (.builtin "repr") (rC1 X.K E reprD) := by
  intro pins s σ H xs us Q I r h
  obtain ⟨v, Mm, S, d, rfl, rs, rd, po⟩ := h
  unfold reprD at po
  split at po
  · rename_i p hp
    split at po
    · rename_i c
      obtain ⟨dep, c2, c3⟩ := c
      have q := rd.reads rs hp
      cases r with
      | cons ru rr =>
        cases rr
        rename_i u
        have ld := Rp.ld I (Sub.refl _) q ru
        have out : Q (.str p.shown) H := po.use rs (Rp.str _)
        cases ld with
        | nn => exact PySem.P.repr_of_none ⟨.str _, H, I.tok _, ⟨_, rfl⟩, out⟩
        | bb b => exact PySem.P.repr_of_bool ⟨.str _, H, I.tok _, ⟨_, rfl⟩, out⟩
        | ii i t => exact PySem.P.repr_of_int (of_decide_eq_true (by simpa [PyData.showable] using c2)) ⟨.str _, H, I.tok _, ⟨_, rfl⟩, out⟩
        | ss x t => exact PySem.P.repr_of_str ⟨.str _, H, I.tok _, ⟨_, rfl⟩, out⟩ c3
        | ll e1 e2 e3 e4 => exact repr_ld (.ll e1 e2 e3 e4) c2 c3 hg (by omega) fun h' u tk k => ⟨.str _, H, I.kept k, ⟨_, rfl⟩, out⟩
        | tt e1 e2 e3 e4 => exact repr_ld (.tt e1 e2 e3 e4) c2 c3 hg (by omega) fun h' u tk k => ⟨.str _, H, I.kept k, ⟨_, rfl⟩, out⟩
        | dd e1 e2 e3 e4 e5 e6 => exact repr_ld (.dd e1 e2 e3 e4 e5 e6) c2 c3 hg (by omega) fun h' u tk k => ⟨.str _, H, I.kept k, ⟨_, rfl⟩, out⟩
    · exact po.elim
  · exact po.elim
end
end DL
end

section
set_option maxRecDepth 100000
/-! DL5: sorted, isinstance, methods, stores keep what their meaning says. Ours. -/
namespace DL
open PySem PySem.Spec PyProof.Rows L2 PySem.W
section
variable {K : PySem.W.Frag} {G : Hp}
mutual
theorem Rp.dpS : ∀ {v : V} {d : PyData}, Rp K G v d → PySem.W.alike d d = true → Dp K G v d
  | _, _, .non, _ => .non
  | _, _, .bl b, _ => .bl b
  | _, _, .int i, _ => .int i
  | _, _, .str x, _ => .str x
  | _, _, .lst h r, c => .lst h (RpA.dpS r (by simpa [PySem.W.alike] using c))
  | _, _, .tup h r, c => .tup h.sq (RpA.dpS r (by simpa [PySem.W.alike] using c))
  | _, _, .dct h r, c => by simp [PySem.W.alike] at c
theorem RpA.dpS : ∀ {v : List V} {d : List PyData}, RpA K G v d → PySem.W.alikeAll d d = true → DpAll K G v d
  | _, _, .nil, _ => .nil
  | _, _, .cons h r, c => by
    simp only [PySem.W.alikeAll, Bool.and_eq_true] at c
    exact .cons (Rp.dpS h c.1) (RpA.dpS r c.2)
end
end
theorem canSort_alike {xs : List PyData} (h : canSort xs = true) : AllAlike xs := by
  unfold canSort at h
  simp only [Bool.and_eq_true, List.all_eq_true] at h
  exact fun d hd d' hd' => h.1.1 d hd d' hd'
theorem canSort_depth {xs : List PyData} (h : canSort xs = true) : ∀ d ∈ xs, d.depth ≤ 64 := by
  unfold canSort at h
  simp only [Bool.and_eq_true, List.all_eq_true, decide_eq_true_eq] at h
  exact h.1.2
theorem canSort_able {xs : List PyData} (h : canSort xs = true) : Sortable xs := by
  unfold canSort at h
  simp only [Bool.and_eq_true, Bool.or_eq_true, List.all_eq_true] at h
  rcases h.2 with h | h
  · refine .inl fun d hd => ?_
    have q := h d hd
    split at q
    · exact ⟨_, _, rfl⟩
    · cases q
  · refine .inr fun d hd => ?_
    have q := h d hd
    refine ⟨fun e => ?_, fun ys e => ?_⟩
    · subst e; cases q
    · subst e; cases q
section
variable {prog : Program} {w : World} {A : Around} {E : Value → Shared → Prop} {s : Shared}
/-- the items of a list or a tuple gathered -/
theorem gather {T : String} {l : Addr} {o : Obj} {n : Nat} {vs : List Value} {Q : List Value → Shared → Prop} (hT : T = "list" ∨ T = "tuple") (ho : s.heap.get? l = some o) (hc : o.cls = .type T) (hd : o.data = .seq vs.toArray n)
    (hsz : vs.length ≤ sizeLine) (h : Q vs { s with heap := (s.heap.push (seqObj "list" #[] 0)).update s.heap.objs.size (Obj.mapSeq (· ++ vs.toArray)) }) : wpAny (model prog w) A (collect (.ref l)) Q E s := by
  have h0 : (s.heap.push (seqObj "list" #[] 0)).get? l = some o := Heap.get?_push_of_some _ ho
  have h1 : (s.heap.push (seqObj "list" #[] 0)).get? s.heap.objs.size = some (seqObj "list" #[] 0) := Heap.get?_push_size _ rfl
  unfold collect
  refine wpAny_bind (wpAny_runValue (codeAny_builtin entry_proto_collect' (wpAny_bind (wpAny_newList (wpAny_pure ⟨Code.quiet_builtin _ (by decide +kernel), codeAny_builtin entry_list_iadd' ?_⟩)))))
  show wpAny _ _ (Builtin.List.listExtendWith (.ref s.heap.objs.size) (.ref l) _) _ _ { s with heap := s.heap.push (seqObj "list" #[] 0) }
  unfold Builtin.List.listExtendWith
  refine wpAny_bind (wpAny_typeOf (T := T) ⟨o, h0, hc⟩ ?_)
  have ht : (Builtin.List.listSameRef (.ref s.heap.objs.size) (.ref l) || Value.type T == .type "list" || Value.type T == .type "tuple") = true := by
    rcases hT with rfl | rfl
    · have e : (Value.type "list" == Value.type "list") = true := rfl
      simp [e]
    · have e : (Value.type "tuple" == Value.type "tuple") = true := rfl
      simp [e]
  rw [if_pos ht]
  refine wpAny_bind (listItems_at h0 hd (wpAny_bind (listItems_at h1 rfl ?_)))
  rw [if_neg (by simp)]
  refine wpAny_bind (listUpdate_at h1 rfl (wpAny_pure ?_) (Nat.zero_le _) (by show (#[] ++ vs.toArray).size ≤ sizeLine + 1; simp; omega))
  refine wpAny_bind (wpAny_load (get?_update_seq h1 _) ?_)
  show wpAny _ _ (pure ((#[] : Array Value) ++ vs.toArray).toList) Q E _
  have e : ((#[] : Array Value) ++ vs.toArray).toList = vs := by simp
  rw [e]
  exact wpAny_pure h
theorem sorted_seq {T : String} {l : Addr} {o : Obj} {n : Nat} {vs : List Value} {Q : Value → Shared → Prop} {κ : KeyKind} (hT : T = "list" ∨ T = "tuple") (ho : s.heap.get? l = some o) (hc : o.cls = .type T) (hd : o.data = .seq vs.toArray n)
    (hL : vs.length ≤ sizeLine) (S : SortsAt prog w A.in1.in1 { s with heap := sortingHeap (copyHeap s.heap vs) (s.heap.objs.size + 1) vs } κ vs)
    (h : Q (.ref (s.heap.objs.size + 1)) { s with heap := sortedAll s.heap vs (sortVals κ false vs vs).toArray }) : wpAny (model prog w) A (call (.builtin "sorted") [.ref l]) Q E s := by
  refine Calls.call_function_entry kind_sorted plain_sorted entry_sorted (args_sorted1 _) ?_
  unfold Builtin.«sorted»
  refine wpAny_bind (m := checkCount "sorted" 1 1 _) (wpAny_pure (wpAny_bind (gather hT ho hc hd hL (wpAny_bind (wpAny_newList ?_ hL)))))
  have hsz : ((s.heap.push (seqObj "list" #[] 0)).update s.heap.objs.size (Obj.mapSeq (· ++ vs.toArray))).objs.size = s.heap.objs.size + 1 := by
    rw [Heap.size_update, size_push']
  show wpAny _ _ _ _ _ { s with heap := copyHeap s.heap vs }
  rw [hsz]
  refine wpAny_bind (wpAny_holding (wpAny_call_entry slot_list_sort ⟨_, copyHeap_at s.heap vs, rfl⟩ entry_list_sort ?body (args_list_sort _)))
  case body => exact list_sort_vals (s := { s with heap := copyHeap s.heap vs }) (copyHeap_at s.heap vs) S hL ⟨_, rfl, wpAny_pure ⟨_, rfl, h⟩⟩
end
section
variable {X : Cx} {E : XK} {G : Hp}
def RV (K : PySem.W.Frag) (G : Hp) (u : Value) (d : PyData) : Prop := ∃ v, RelV v u ∧ Rp K G v d
theorem each_of {K : PySem.W.Frag} : ∀ {ws : List V} {us : List Value} {ds : List PyData}, Vals ws us → RpA K G ws ds → EachIs (RV K G) us ds
  | _, _, _, .nil, .nil => .nil
  | _, _, _, .cons r t, .cons q z => .cons ⟨_, r, q⟩ (each_of t z)
theorem of_each {K : PySem.W.Frag} {us : List Value} {ds : List PyData} (h : EachIs (RV K G) us ds) : ∃ ws, Vals ws us ∧ RpA K G ws ds := by
  induction h with
  | nil => exact ⟨[], .nil, .nil⟩
  | cons q _ ih =>
    obtain ⟨v, r, p⟩ := q
    obtain ⟨ws, h1, h2⟩ := ih
    exact ⟨v :: ws, .cons r h1, .cons p h2⟩
theorem each_imp {α β : Type} {R R' : α → β → Prop} : ∀ {as : List α} {bs : List β}, EachIs R as bs → (∀ a b, b ∈ bs → R a b → R' a b) → EachIs R' as bs
  | _, _, .nil, _ => .nil
  | _, _, .cons h t, f => .cons (f _ _ List.mem_cons_self h) (each_imp t fun a b hb => f a b (List.mem_cons_of_mem _ hb))
def rSortD (K : PySem.W.Frag) : List V → Hp → VK → Prop := fun vs H Q => ∃ a ws ds G, vs = [.ref a] ∧ (SqL K H a ws ∨ SqT K H a ws) ∧ RpA K G ws ds ∧ Sub G H ∧ canSort ds = true ∧
  ∀ p ws', H p = none → RpA K G ws' (sortP ds) → Q (.ref p) (upd H p (.lst ws'))
theorem cr_sortD (hu : X.A.units + 67 < cLine) : CallR X (.builtin "sorted") (rSortD X.K) := by
  intro pins s σ H vs us Q I r h
  obtain ⟨a, ws, ds, G, rfl, hs, ha, sg, cs, q⟩ := h
  have hal := canSort_alike cs
  rw [Vals.ref1 r]
  have key : ∀ (T : String) (its : List Value) (o : Obj) (n : Nat), (T = "list" ∨ T = "tuple") → Vals ws its → s.heap.get? a = some o → o.cls = .type T → o.data = .seq its.toArray n → its.length ≤ sizeLine →
      wpAny (model X.prog X.w) X.A (call (.builtin "sorted") [.ref a]) (EP X pins σ Q) X.xe s := by
    intro T its o n hT rv ho hc hd hz
    have e := each_of rv ha
    have er : EachIs (fun v b => ∃ as, Reads s.heap v ((fun d => d) b) as) its ds := each_imp e fun u d hm ⟨v, r1, r2⟩ => Dp.reads I d v u ((r2.mono sg).dpS (hal d hm d hm)) r1
    have er' : EachIs (fun v b => ∃ as, Reads (sortingHeap (copyHeap s.heap its) (s.heap.objs.size + 1) its) v ((fun d => d) b) as) its ds := er.mono fun _ _ ⟨as, r⟩ => ⟨as, PyProof.Rows.Reads.keeps (fun _ _ => sorting_copy_old) r⟩
    have hds : ds.map (fun d => d) = ds := List.map_id' ds
    refine sorted_seq hT ho hc hd hz (SortsAt.data (s := { s with heap := sortingHeap (copyHeap s.heap its) (s.heap.objs.size + 1) its }) (ds := ds.map fun d => d) (each_map (R := fun v d => ∃ as, Reads (sortingHeap (copyHeap s.heap its) (s.heap.objs.size + 1) its) v d as) (fun d => d) er') (by rw [hds]; exact hal) (by rw [hds]; exact canSort_able cs) ?_) ?_
    · rw [hds]
      intro d hd
      have h1 := canSort_depth cs d hd
      have h2 : X.A.in1.in1.units = X.A.units + 2 := rfl
      omega
    · have out := sortVals_data false e er' (by rw [hds]; exact hal)
      obtain ⟨ws', v1, v2⟩ := of_each out
      obtain ⟨ep, he'⟩ := sortedAll_at s.heap its (sortVals (dataKind (sortingHeap (copyHeap s.heap its) (s.heap.objs.size + 1) its) (ds.map fun d => d)) false its its).toArray
      have hl : ws'.length ≤ sizeLine := by
        have e1 := v2.length
        rw [e1, List.length_mergeSort, ← e.length]
        exact hz
      exact ⟨.ref _, upd H (s.heap.objs.size + 1) (.lst ws'), I.laid (t' := s.toks) (fun _ _ => sortedAll_old) (Nat.le_succ _) ⟨hl, _, ep, v1, he'⟩, rfl, q _ ws' (I.hok.fresh (Nat.le_succ _)) v2⟩
  rcases hs with hs | hs
  · obtain ⟨its, rv, pl, hz⟩ := I.list hs
    obtain ⟨o, ho, hc, n, hd⟩ := pl.isList
    exact key "list" its o n (.inl rfl) rv ho hc hd (by rw [← rv.length]; exact hz)
  · obtain ⟨its, rv, ⟨o, ho, hc, n, hd⟩, hz⟩ := I.tuple hs
    exact key "tuple" its o n (.inr rfl) rv ho hc hd (by rw [← rv.length]; exact hz)
end
end DL
end

section
set_option maxRecDepth 100000
/-! DS4: keys as data; sorted of what is gathered. Ours. -/
namespace DL
open PySem PySem.Spec PyProof.Rows L2 PySem.W
/-! ### the order of data -/
theorem lt_irr (a : PyData) : dataLt a a = false := lex_irrefl _
theorem lt_tr {a b c : PyData} (h : dataLt a b = true) (h2 : dataLt b c = true) : dataLt a c = true := lex_trans _ _ _ h h2
theorem lt_as {a b : PyData} (h : dataLt a b = true) : dataLt b a = false := by
  cases h2 : dataLt b a with
  | false => rfl
  | true => exact absurd (lt_tr h h2) (by rw [lt_irr]; exact Bool.false_ne_true)
theorem le_tr {a b c : PyData} (h : (!dataLt b a) = true) (h2 : (!dataLt c b) = true) : (!dataLt c a) = true := by
  cases h3 : dataLt c a with
  | false => rfl
  | true =>
    rcases lex_negTrans (O := itemOrd) (keyToks c) (keyToks b) (keyToks a) h3 with z | z
    · rw [show dataLt c b = true from z] at h2; cases h2
    · rw [show dataLt b a = true from z] at h; cases h
theorem le_tot (a b : PyData) : ((!dataLt b a) || (!dataLt a b)) = true := by
  cases h : dataLt b a with
  | false => rfl
  | true => rw [lt_as h]; rfl
/-- two alike data of which none is less are equal -/
theorem eq_of_nlt {a b : PyData} (al : alike a b = true) (h : dataLt a b = false) (h2 : dataLt b a = false) : PyData.eqv a b = true := by
  have e : keyToks a = keyToks b := lex_total (O := itemOrd) _ _ h h2
  cases q : PyData.eqv a b with
  | true => rfl
  | false =>
    exfalso
    have z := (toks_eqv a b al).2 q [.inl 0] [.inl 1]
    rw [e] at z
    rw [lex_pre, lex_irrefl] at z
    exact absurd z (by decide)
theorem sortP_pw (xs : List PyData) : (sortP xs).Pairwise fun a b => (!dataLt b a) = true := List.pairwise_mergeSort (le := fun a b => !dataLt b a) (fun a b c h1 h2 => le_tr h1 h2) (fun a b => le_tot a b) xs
theorem sortP_perm (xs : List PyData) : (sortP xs).Perm xs := List.mergeSort_perm _ _
theorem perm_unique {α : Type} {R : α → α → Prop} : ∀ {a b : List α}, a.Perm b → a.Pairwise R → b.Pairwise R → (∀ x ∈ a, ∀ y ∈ a, R x y → R y x → x = y) → a = b
  | [], b, p, _, _, _ => (List.Perm.nil_eq p)
  | x :: a, [], p, _, _, _ => absurd p.length_eq (by simp)
  | x :: a, y :: b, p, ha, hb, h => by
    obtain ⟨a1, a2⟩ := List.pairwise_cons.mp ha
    obtain ⟨b1, b2⟩ := List.pairwise_cons.mp hb
    have e : x = y := by
      rcases List.mem_cons.mp (p.mem_iff.mp List.mem_cons_self) with e | hx
      · exact e
      · have hy := p.mem_iff.mpr (List.mem_cons_self (a := y) (l := b))
        rcases List.mem_cons.mp hy with e | hy
        · exact e.symm
        · exact h x List.mem_cons_self y (List.mem_cons_of_mem _ hy) (a1 y hy) (b1 x hx)
    subst e
    rw [perm_unique (List.Perm.cons_inv p) a2 b2 fun u hu v hv => h u (List.mem_cons_of_mem _ hu) v (List.mem_cons_of_mem _ hv)]
/-- data of keys, in whatever order, are sorted alike -/
theorem sortP_keys {a b : List (List Key)} (p : a.Perm b) (c : canSort (a.map encK) = true) : sortP (a.map encK) = sortP (b.map encK) := by
  refine perm_unique (((sortP_perm _).trans (p.map encK)).trans (sortP_perm _).symm) (sortP_pw _) (sortP_pw _) fun x hx y hy h1 h2 => ?_
  have mx := (sortP_perm _).mem_iff.mp hx
  have my := (sortP_perm _).mem_iff.mp hy
  have al := canSort_alike c x mx y my
  obtain ⟨k, _, rfl⟩ := List.mem_map.mp mx
  obtain ⟨j, _, rfl⟩ := List.mem_map.mp my
  have e := eq_of_nlt al (by simpa using h2) (by simpa using h1)
  rw [eqv_encK, decide_eq_true_eq] at e
  rw [e]
theorem any_mem {l : List (List Key)} {x : List Key} : (l.any fun y => decide (y = x)) = true ↔ x ∈ l := by
  rw [List.any_eq_true]
  exact ⟨fun ⟨y, h, e⟩ => of_decide_eq_true e ▸ h, fun h => ⟨x, h, decide_eq_true rfl⟩⟩
theorem ddK_mem : ∀ {l : List (List Key)} {x : List Key}, x ∈ ddK l ↔ x ∈ l
  | [], _ => Iff.rfl
  | y :: r, x => by
    unfold ddK
    by_cases h : y ∈ r
    · rw [if_pos (any_mem.mpr h), ddK_mem, List.mem_cons]
      exact ⟨.inr, fun z => z.elim (fun e => e ▸ h) id⟩
    · rw [if_neg (fun z => h (any_mem.mp z)), List.mem_cons, List.mem_cons, ddK_mem]
theorem ddK_nodup : ∀ {l : List (List Key)}, (ddK l).Nodup
  | [] => List.nodup_nil
  | y :: r => by
    unfold ddK
    by_cases h : y ∈ r
    · rw [if_pos (any_mem.mpr h)]
      exact ddK_nodup
    · rw [if_neg (fun z => h (any_mem.mp z))]
      exact List.nodup_cons.mpr ⟨fun z => h (ddK_mem.mp z), ddK_nodup⟩
theorem canSort_sub {a b : List PyData} (h : canSort a = true) (s : ∀ x ∈ b, x ∈ a) : canSort b = true := by
  unfold canSort at h ⊢
  simp only [Bool.and_eq_true, Bool.or_eq_true, List.all_eq_true] at h ⊢
  exact ⟨⟨fun x hx y hy => h.1.1 x (s x hx) y (s y hy), fun x hx => h.1.2 x (s x hx)⟩, h.2.elim (fun z => .inl fun x hx => z x (s x hx)) fun z => .inr fun x hx => z x (s x hx)⟩
/-! ### sorted of what is gathered -/
section
variable {prog : Program} {w : World} {A : Around} {E : Value → Shared → Prop} {s : Shared}
theorem sorted_col {a : Addr} {Q : Value → Shared → Prop} (C : List Value → Shared → Prop)
    (hcol : ∀ (Q' : List Value → Shared → Prop), (∀ vs s', C vs s' → Q' vs s') → wpAny (model prog w) A.in1 (collect (.ref a)) Q' E s)
    (hsort : ∀ vs s', C vs s' → ∃ κ, vs.length ≤ sizeLine ∧ SortsAt prog w A.in1.in1 { s' with heap := sortingHeap (s'.heap.push (seqObj "list" vs.toArray 0)) s'.heap.objs.size vs } κ vs ∧
      Q (.ref s'.heap.objs.size) { s' with heap := sortedHeap (s'.heap.push (seqObj "list" vs.toArray 0)) s'.heap.objs.size vs (sortVals κ false vs vs).toArray }) : wpAny (model prog w) A (call (.builtin "sorted") [.ref a]) Q E s := by
  refine Calls.call_function_entry kind_sorted plain_sorted entry_sorted (args_sorted1 _) ?_
  unfold Builtin.«sorted»
  refine wpAny_bind (m := checkCount "sorted" 1 1 _) (wpAny_pure (wpAny_bind (hcol _ fun vs s' hC => ?_)))
  obtain ⟨κ, hL, S, q⟩ := hsort vs s' hC
  have ho : (s'.heap.push (seqObj "list" vs.toArray 0)).get? s'.heap.objs.size = some (seqObj "list" vs.toArray 0) := Heap.get?_push_size _ rfl
  refine wpAny_bind (wpAny_newList ?_ hL)
  refine wpAny_bind (wpAny_holding (wpAny_call_entry slot_list_sort ⟨_, ho, rfl⟩ entry_list_sort ?body (args_list_sort _)))
  case body => exact list_sort_vals (s := { s' with heap := s'.heap.push (seqObj "list" vs.toArray 0) }) ho S hL ⟨_, rfl, wpAny_pure ⟨_, rfl, q⟩⟩
end
section
variable {X : Cx} {G : Hp}
/-- what has been gathered is sorted -/
theorem sort_gathered {pins : List (Addr × Obj)} {s' : Shared} {σ : L2.St} {H : Hp} {Q : VK} {vs : List Value} {ws : List V} {ds : List PyData} (hu : X.A.units + 67 < cLine) (I : L2.Inv X pins σ H s') (rv : Vals ws vs) (ha : RpA X.K G ws ds) (sg : Sub G H) (cs : canSort ds = true) (hL : vs.length ≤ sizeLine)
    (q : ∀ p ws', H p = none → RpA X.K G ws' (sortP ds) → Q (.ref p) (upd H p (.lst ws'))) : ∃ κ, vs.length ≤ sizeLine ∧ SortsAt X.prog X.w X.A.in1.in1 { s' with heap := sortingHeap (s'.heap.push (seqObj "list" vs.toArray 0)) s'.heap.objs.size vs } κ vs ∧
      EP X pins σ Q (.ref s'.heap.objs.size) { s' with heap := sortedHeap (s'.heap.push (seqObj "list" vs.toArray 0)) s'.heap.objs.size vs (sortVals κ false vs vs).toArray } := by
  have hal := canSort_alike cs
  have e := each_of rv ha
  have er : EachIs (fun v b => ∃ as, Reads s'.heap v ((fun d => d) b) as) vs ds := each_imp e fun u d hm ⟨v, r1, r2⟩ => Dp.reads I d v u ((r2.mono sg).dpS (hal d hm d hm)) r1
  have ho : (s'.heap.push (seqObj "list" vs.toArray 0)).get? s'.heap.objs.size = some (seqObj "list" vs.toArray 0) := Heap.get?_push_size _ rfl
  have old : ∀ b o, s'.heap.get? b = some o → (sortingHeap (s'.heap.push (seqObj "list" vs.toArray 0)) s'.heap.objs.size vs).get? b = some o := fun b o h => sortingHeap_old (Nat.ne_of_lt (Heap.lt_size h)) (Heap.get?_push_of_some _ h)
  have er' : EachIs (fun v b => ∃ as, Reads (sortingHeap (s'.heap.push (seqObj "list" vs.toArray 0)) s'.heap.objs.size vs) v ((fun d => d) b) as) vs ds := er.mono fun _ _ ⟨as, r⟩ => ⟨as, PyProof.Rows.Reads.keeps old r⟩
  have hds : ds.map (fun d => d) = ds := List.map_id' ds
  refine ⟨dataKind (sortingHeap (s'.heap.push (seqObj "list" vs.toArray 0)) s'.heap.objs.size vs) (ds.map fun d => d), hL, ?_, ?_⟩
  · refine SortsAt.data (s := { s' with heap := sortingHeap (s'.heap.push (seqObj "list" vs.toArray 0)) s'.heap.objs.size vs }) (ds := ds.map fun d => d) (each_map (R := fun v d => ∃ as, Reads (sortingHeap (s'.heap.push (seqObj "list" vs.toArray 0)) s'.heap.objs.size vs) v d as) (fun d => d) er') (by rw [hds]; exact hal) (by rw [hds]; exact canSort_able cs) ?_
    rw [hds]
    intro d hd
    have h1 := canSort_depth cs d hd
    have h2 : X.A.in1.in1.units = X.A.units + 2 := rfl
    omega
  · have out := sortVals_data false e er' (by rw [hds]; exact hal)
    obtain ⟨ws', v1, v2⟩ := of_each out
    obtain ⟨ep, he'⟩ := PyProof.Rows.sortedHeap_at (vs := vs) (out := (sortVals (dataKind (sortingHeap (s'.heap.push (seqObj "list" vs.toArray 0)) s'.heap.objs.size vs) (ds.map fun d => d)) false vs vs).toArray) ho
    have hl : ws'.length ≤ sizeLine := by
      rw [v2.length, List.length_mergeSort, ← e.length]
      exact hL
    refine ⟨.ref s'.heap.objs.size, upd H s'.heap.objs.size (.lst ws'), I.laid (t' := s'.toks) (fun b u h => ?_) (Nat.le_refl _) ⟨hl, _, ep, v1, he'⟩, rfl, q _ ws' (I.hok.fresh (Nat.le_refl _)) v2⟩
    have hb := Heap.lt_size h
    rw [PyProof.Rows.sortedHeap_old (Nat.ne_of_lt hb) (by rw [size_push']; exact Nat.lt_succ_of_lt hb)]
    exact Heap.get?_push_of_some _ h
/-- sorted(d), d a dict -/
def rSortK (K : PySem.W.Frag) : List V → Hp → VK → Prop := fun vs H Q => ∃ (a : Addr) (kvs : List (Key × V)), vs = [.ref a] ∧ Rd H a (.dK kvs) ∧ canSort (kvs.map fun kv => kP kv.1) = true ∧
  ∀ p ws, H p = none → RpA K H ws (sortP (kvs.map fun kv => kP kv.1)) → Q (.ref p) (upd H p (.lst ws))
theorem cr_sortK (hc : X.calm = true) (hu : X.A.units + 67 < cLine) : CallR X (.builtin "sorted") (rSortK X.K) := by
  rintro pins s σ H vs us Q I r ⟨a, kvs, rfl, hd, cs, q⟩
  rw [Vals.ref1 r]
  obtain ⟨z, lo, es, rel, dd⟩ := dk_rd I.hok hd
  obtain ⟨ep, hat⟩ := dd.dictAt
  have hz : es.length ≤ sizeLine := by rw [← rel.length]; exact z
  have hk : (es.map fun p => kV p.1) = kvs.map fun kv => kV kv.1 := by
    have e := rel.keys
    have : ∀ {l : List (Key × Value)} {m : List (Key × V)}, m.map (·.1) = l.map (·.1) → (l.map fun p => kV p.1) = m.map fun kv => kV kv.1 := fun {l m} h => by
      have h2 := congrArg (List.map kV) h
      simpa [List.map_map, Function.comp_def] using h2.symm
    exact this e
  refine sorted_col (fun vs s' => ∃ h' tk, s' = { s with heap := h', toks := tk } ∧ (∀ b o, s.heap.get? b = some o → h'.get? b = some o) ∧ vs.length = es.length ∧ Vals (es.map fun p => kV p.1) vs) (fun Q' hQ' => ?_) fun vs s' ⟨h', tk, e, k1, hl, hv⟩ => ?_
  · refine PySem.W.kdu_collect (A := X.A.in1) (PySem.W.kdl_dict (knd := mixKind X.prog X.w) (kvs := es) (ep := ep) lo) (I.ok.hd hc) hat hz fun h' tk acc hk hacc => ?_
    have hal : acc.toList.length = es.length := by rw [Array.length_toList]; exact hacc.1
    exact hQ' acc.toList _ ⟨h', tk, rfl, hk, hal, keys_at hal fun j v e => by
      obtain ⟨k, x, e1, e2⟩ := hacc.2 j v (by rw [← Array.getElem?_toList]; exact e)
      exact ⟨k, x, e1, e2⟩⟩
  · subst e
    rw [hk] at hv
    have ra : ∀ kvs : List (Key × V), RpA X.K H (kvs.map fun kv => kV kv.1) (kvs.map fun kv => kP kv.1) := fun kvs => by
      induction kvs with
      | nil => exact .nil
      | cons p r ih => exact .cons (rp_kV p.1) ih
    exact sort_gathered hu (I.kept k1) hv (ra kvs) (Sub.refl _) cs (by omega) q
/-- sorted(d), d a dict by flat tuples -/
def rSortT (X : Cx) : List V → Hp → VK → Prop := fun vs H Q => ∃ (a : Addr) (G : Hp) (xs : List (List Key × Addr × Value)) (kvs : List (PyData × PyData)), vs = [.ref a] ∧ H a = some (TdO X.prog X.w a xs) ∧ TdR X.K G xs kvs ∧ Sub G H ∧ canSort (kvs.map (·.1)) = true ∧
  ∀ p ws, H p = none → RpA X.K G ws (sortP (kvs.map (·.1))) → Q (.ref p) (upd H p (.lst ws))
theorem vals_tref : ∀ xs : List (List Key × Addr × Value), Vals (xs.map fun x => V.ref x.2.1) (xs.map fun x => Value.ref x.2.1)
  | [] => .nil
  | _ :: r => .cons rfl (vals_tref r)
theorem cr_sortT (hc : X.calm = true) (hu : X.A.units + 67 < cLine) : CallR X (.builtin "sorted") (rSortT X) := by
  rintro pins s σ H vs us Q I r ⟨a, G, xs, kvs, rfl, ha, rt, sg, cs, q⟩
  rw [Vals.ref1 r]
  obtain ⟨z, l, o, es, ep, h1, h2, h3, h4, h5⟩ : TD0 X.prog X.w s.heap a xs := (I.hok a _ ha).1
  have l1 : es.size = xs.length := size_of_entries h4
  refine sorted_col (fun vs s' => ∃ h' tk, s' = { s with heap := h', toks := tk } ∧ (∀ b o, s.heap.get? b = some o → h'.get? b = some o) ∧ vs = xs.map fun x => Value.ref x.2.1) (fun Q' hQ' => ?_) fun vs s' ⟨h', tk, e, k1, hv⟩ => ?_
  · refine PySem.W.kdu_collect (A := X.A.in1) (kdl_raw z h2 h3) (I.ok.hd hc) h1 (by omega) fun h' tk acc hk hacc => ?_
    refine hQ' acc.toList _ ⟨h', tk, rfl, hk, ?_⟩
    have hl : acc.toList.length = xs.length := by rw [Array.length_toList, hacc.1]; exact l1
    apply List.ext_getElem?
    intro j
    rw [List.getElem?_map]
    cases hj : acc.toList[j]? with
    | none =>
      have h1 := List.getElem?_eq_none_iff.mp hj
      rw [List.getElem?_eq_none (by omega)]
      all_goals rfl
    | some v =>
      obtain ⟨en, hen, hv⟩ := hacc.2 j v (by rw [← Array.getElem?_toList]; exact hj)
      have qe := entry_at h4 j
      rw [hen] at qe
      cases hb : xs[j]? with
      | none =>
        rw [hb] at qe
        exact nomatch (show some en = none from qe)
      | some b =>
        rw [hb] at qe
        have e2 : en = entryOfKey (tupleKind (mixKind X.prog X.w)) b := Option.some.inj qe
        rw [hv, e2]
        all_goals rfl
  · subst e
    subst hv
    exact sort_gathered hu (I.kept k1) (vals_tref xs) rt.keys.2 sg cs (by rw [List.length_map]; exact l) q
variable [PWd]
theorem cr_sortedD {E : XK} (hw : PWd.P = X.prog ∧ PWd.w = X.w) (hc : X.calm = true) (hu : X.A.units + 67 < cLine) : CallR X (.builtin "sorted") (rC1 X.K E sortedD) := CallR.of (((cr_sortD hu).or (cr_sortK hc hu)).or (cr_sortT hc hu)) fun vs H Q ⟨v, Mm, S, d, hv, rs, r1, po⟩ => by
  subst hv
  unfold sortedD at po
  split at po
  · rename_i xs h
    split at po
    · rename_i c
      rcases seqOf_some h with h | h
      · obtain ⟨a, vs, rfl, s1, a1⟩ := r1.listR rs h
        exact .inl (.inl ⟨a, vs, xs, _, rfl, .inl s1, a1, fz_sub _ _, c, fun p ws hp hww => po.use' (Ev.new rs hp) (rs.new hp) (Rep.lst rs hp hww)⟩)
      · obtain ⟨a, vs, rfl, s1, a1⟩ := r1.tupR h
        exact .inl (.inl ⟨a, vs, xs, _, rfl, .inr (SqT.sub s1.sq (fz_sub _ _)), a1, fz_sub _ _, c, fun p ws hp hww => po.use' (Ev.new rs hp) (rs.new hp) (Rep.lst rs hp hww)⟩)
    · exact po.elim
  · split at po
    · rename_i kvs hk
      split at po
      · rename_i c
        obtain ⟨a, vs, rfl, h1, h2⟩ := r1.dctR rs hk
        rw [h2.keys] at c po
        refine .inl (.inr ⟨a, vs, rfl, h1, c, fun p ws hp hww => po.use' (Ev.new rs hp) (rs.new hp) (Rep.lst rs hp ?_)⟩)
        have key : ∀ {ws : List V} {ds : List PyData}, (∀ d ∈ ds, isKy d = true) → RpA X.K H ws ds → RpA X.K (fz Mm H) ws ds := by
          intro ws ds hd r
          induction ws generalizing ds with
          | nil => cases r; exact .nil
          | cons w ws ih =>
            cases r with
            | cons q r =>
              rename_i d ds
              obtain ⟨k, rfl⟩ := isKy_some (hd d List.mem_cons_self)
              rw [q.ky]
              exact .cons (rp_kV k) (ih (fun e he => hd e (List.mem_cons_of_mem _ he)) r)
        refine key (fun d hd => ?_) hww
        obtain ⟨kv, _, rfl⟩ := List.mem_map.mp ((sortP_perm _).mem_iff.mp hd)
        exact isKy_kP _
      · exact po.elim
    · split at po
      · rename_i kvs hk
        split at po
        · rename_i c
          cases d with
          | im q => cases hk
          | rf i =>
            unfold tdOf at hk
            dsimp only at hk
            split at hk
            · rename_i kvs' hx
              cases hk
              obtain ⟨a, rfl, ha⟩ := r1
              obtain ⟨xs, hH, ra⟩ := rs.ob i a _ ha hx
              rw [hw.1, hw.2] at hH
              exact .inr ⟨a, fz Mm H, xs, kvs, rfl, hH, ra, fz_sub _ _, c, fun p ws hp hww => po.use' (Ev.new rs hp) (rs.new hp) (Rep.lst rs hp hww)⟩
            · cases hk
        · exact po.elim
      · exact po.elim
end
end DL
end

section
set_option maxRecDepth 100000
/-! DS5: sorted(set(..)) of ints and of flat tuples. Ours. -/
namespace DL
open PySem PySem.Spec PyProof.Rows L2 PySem.W SG
section
variable {P : Program} {w : World} {A : Around} {E : Value → Shared → Prop} {s : Shared}
theorem take_snoc {α : Type} {l : List α} {i : Nat} {x : α} (h : l[i]? = some x) : l.take (i + 1) = l.take i ++ [x] := by rw [List.take_add_one, h]; rfl
def JT (P : Program) (w : World) (S : Addr) (ks : List (Addr × List Key)) (i : Nat) (h : Heap) : Prop :=
  ∃ L es ep t, ST P w h S L es ep t ∧ (∀ p ∈ L, p ∈ ks.take i) ∧ (∀ p ∈ ks.take i, p.2 ∈ L.map (·.2)) ∧ L.length ≤ i
theorem fill_tup {S : Addr} {h0 : Heap} {items : Array Value} (ks : List (Addr × List Key)) (hit : items.toList = ks.map fun p => Value.ref p.1) (hk : ∀ p ∈ ks, IsM P w h0 p.2 p.1) (few : ks.length < 64) : Fill P w S h0 items (JT P w S ks) where
  keep := fun i h h' ⟨L, es, ep, t, R, c1, c2, c3⟩ k => by
    obtain ⟨o, ho, r⟩ := R.obj
    refine ⟨L, es, ep, t, ⟨⟨o, k S o (.inl rfl) ho, r⟩, R.ent, R.ok, R.dis, fun p hp => (R.keys p hp).keep fun u hu => k p.1 u (.inr ?_) hu, R.ld, R.roomy, R.lt⟩, c1, c2, c3⟩
    obtain ⟨u, _, _, hu, _⟩ := hk p (List.mem_of_mem_take (c1 p hp))
    exact ⟨u, hu⟩
  add := fun A E s Q i v hu hv ⟨L, es, ep, t, R, c1, c2, c3⟩ hkp hQ => by
    have hv' : items.toList[i]? = some v := by rw [Array.getElem?_toList]; exact hv
    rw [hit, List.getElem?_map] at hv'
    obtain ⟨p, hp, rfl⟩ := Option.map_eq_some_iff.mp hv'
    have il : i < ks.length := (List.getElem?_eq_some_iff.mp hp).1
    have hx : IsM P w s.heap p.2 p.1 := (hk p (List.mem_of_getElem? hp)).keep fun o e => hkp _ o e
    unfold setAdd
    refine wpAny_holding (wpAny_bind (wpAny_pyHash_tuple hu hx ?_))
    refine put1 (s := { s with toks := s.toks + (p.2.length + 1) }) R hx hu (by omega) fun b h' L' es' ep' t' sb R' e1 e2 => ?_
    refine hQ b h' (s.toks + (p.2.length + 1)) sb (Nat.le_add_right _ _) ⟨L', es', ep', t', R', ?_⟩
    rw [take_snoc hp]
    by_cases m : p.2 ∈ L.map (·.2)
    · rw [e1 m]
      refine ⟨fun q hq => List.mem_append_left _ (c1 q hq), fun q hq => ?_, by omega⟩
      rcases List.mem_append.mp hq with hq | hq
      · exact c2 q hq
      · rw [List.mem_singleton.mp hq]; exact m
    · have pm := e2 m
      refine ⟨fun q hq => ?_, fun q hq => (pm.map (·.2)).mem_iff.mpr ?_, by rw [pm.length_eq]; exact Nat.succ_le_succ c3⟩
      · rcases List.mem_cons.mp (pm.mem_iff.mp hq) with rfl | hq
        · exact List.mem_append_right _ List.mem_cons_self
        · exact List.mem_append_left _ (c1 q hq)
      · rcases List.mem_append.mp hq with hq | hq
        · exact List.mem_cons_of_mem _ (c2 q hq)
        · rw [List.mem_singleton.mp hq]; exact List.mem_cons_self
theorem jt_zero {S : Addr} (ks : List (Addr × List Key)) (h : Heap) (ho : h.get? S = some (bare w)) : JT P w S ks 0 h := by
  refine ⟨[], #[], 0, .fresh 0 0 (!w.params.followText "set-order"), ⟨⟨_, ho, ⟨rfl, rfl, rfl⟩, rfl⟩, rfl, ⟨List.Pairwise.nil, rfl, rfl, .inl rfl, fun x hx => (by cases hx), fun i h j hi => (by simp at hi)⟩, List.nodup_nil, fun p hp => (by cases hp), ?_, (show 0 * 5 < 7 * 3 by decide), (show 0 < 64 by decide)⟩, fun p hp => (by cases hp), fun p hp => (by simp at hp), Nat.le_refl _⟩
  show _ ∨ (!w.params.followText "set-order") = true
  cases w.params.followText "set-order"
  · exact .inr rfl
  · exact .inl rfl
def JI (w : World) (S : Addr) (ns : List Int) (i : Nat) (h : Heap) : Prop := ∃ c, c ≤ i ∧ SetR w h S (fun j => decide (j ∈ ns.take i)) c
theorem fill_int {S : Addr} {h0 : Heap} {items : Array Value} (ns : List Int) (hit : IntsAre items.toList ns) (hb : ns.length + 1 < scanBound) : Fill P w S h0 items (JI w S ns) where
  keep := fun i h h' ⟨c, hc, R⟩ k => ⟨c, hc, R.at fun o e => k S o (.inl rfl) e⟩
  add := fun A E s Q i v hu hv ⟨c, hc, R⟩ hkp hQ => by
    have hv' : items.toList[i]? = some v := by rw [Array.getElem?_toList]; exact hv
    have il : i < ns.length := by
      have z := (List.getElem?_eq_some_iff.mp hv').1
      rw [IntsAre.length hit] at z
      exact z
    obtain ⟨tk, e⟩ := PyProof.Rows.IntsAre.int_at hit i v hv'
    have hz : ns[i]? = some (ns.getD i 0) := by rw [List.getD_eq_getElem?_getD, List.getElem?_eq_getElem il]; rfl
    generalize ns.getD i 0 = z at e hz
    subst e
    unfold setAdd
    refine wpAny_holding (wpAny_bind ((intKind P w).pyHash (k := z) (intKind_is _ _ _ _) ?_))
    refine setR_add_hashed (s := { s with toks := s.toks + 1 }) R (by omega) fun h' sb R2 => ?_
    refine hQ _ h' (s.toks + 1) sb (Nat.le_succ _) ⟨if decide (z ∈ ns.take i) = true then c else c + 1, by split <;> omega, R2.congr fun j => ?_⟩
    rw [take_snoc hz]
    simp [List.mem_append]
theorem ji_zero {S : Addr} (ns : List Int) (h : Heap) (ho : h.get? S = some (bare w)) : JI w S ns 0 h := ⟨0, Nat.le_refl _, setR_new_at ho⟩
/-- the set without the tuples -/
structure SM0 (P : Program) (w : World) (h : Heap) (a : Addr) (L : List (Addr × List Key)) : Prop where
  ex : ∃ (es : Array (Int × Value)) (ep : Nat) (t : SetTable), (∃ o, h.get? a = some o ∧ o.ExactSet ∧ o.data = .set es ep t) ∧ es.toList = rw_ P w L ∧ TabOk t (L.map fun p => mh P w p.2) ∧ (L.map (·.2)).Nodup ∧ (w.params.followText "set-order" = true ∨ t.led = true) ∧ L.length * 5 < t.mask * 3 ∧ L.length < 64
def SetM (P : Program) (w : World) (a : Addr) (L : List (Addr × List Key)) : HO := .ext fun h => SM0 P w h a L
theorem setM_new {H : Hp} {h : Heap} {a : Addr} {L : List (Addr × List Key)} (R : SM0 P w h a L) : ObjOk P w H h a (SetM P w a L) := by
  have ⟨es, ep, t, ⟨o, ho, r⟩, q⟩ := R.ex
  refine ⟨R, ⟨o, ho⟩, fun h1 h2 p k => ?_⟩
  have ⟨es', ep', t', ⟨o', ho', r'⟩, q'⟩ := SM0.ex p
  exact ⟨es', ep', t', ⟨o', k o' ho', r'⟩, q'⟩
end
theorem Rp.keyT {K : PySem.W.Frag} {G : Hp} {v : V} {k : List Key} (h : Rp K G v (encK k)) : ∃ a, v = .ref a ∧ TupN K G a (k.map kV) := by
  unfold encK at h
  cases h with
  | tup hs ha =>
    rename_i a xs
    refine ⟨a, rfl, ?_⟩
    have key : ∀ {ks : List Key} {xs : List V}, RpA K G xs (ks.map kP) → xs = ks.map kV := by
      intro ks
      induction ks with
      | nil => intro xs r; cases r; rfl
      | cons k r ih =>
        intro xs ra
        cases ra with
        | cons r1 r2 =>
          rw [List.map_cons, ← ih r2]
          cases k <;> (cases r1; rfl)
    rw [← key ha]
    exact hs
theorem RpA.keysT {K : PySem.W.Frag} {G : Hp} : ∀ {vs : List V} {ks : List (List Key)}, RpA K G vs (ks.map encK) → ∃ ps : List (Addr × List Key), vs = ps.map (fun p => V.ref p.1) ∧ ps.map (·.2) = ks ∧ ∀ p ∈ ps, Rp K G (.ref p.1) (encK p.2)
  | [], [], _ => ⟨[], rfl, rfl, fun p hp => nomatch hp⟩
  | v :: vs, k :: ks, h => by
    cases h with
    | cons h1 h2 =>
      obtain ⟨ps, e1, e2, e3⟩ := h2.keysT
      obtain ⟨a, rfl, _⟩ := h1.keyT
      refine ⟨(a, k) :: ps, by rw [e1]; rfl, by rw [List.map_cons, e2], fun p hp => ?_⟩
      rcases List.mem_cons.mp hp with rfl | hp
      · exact h1
      · exact e3 p hp
  | _ :: _, [], h => by cases h
  | [], _ :: _, h => by cases h
theorem rpA_of {K : PySem.W.Frag} {G : Hp} : ∀ {ps : List (Addr × List Key)}, (∀ p ∈ ps, Rp K G (.ref p.1) (encK p.2)) → RpA K G (ps.map fun p => V.ref p.1) ((ps.map (·.2)).map encK)
  | [], _ => .nil
  | p :: ps, h => .cons (h p List.mem_cons_self) (rpA_of fun q hq => h q (List.mem_cons_of_mem _ hq))
theorem vals_refsP : ∀ {ps : List (Addr × List Key)} {us : List Value}, Vals (ps.map fun p => V.ref p.1) us → us = ps.map fun p => Value.ref p.1
  | [], _, .nil => rfl
  | p :: ps, _, .cons r t => by cases r; rw [vals_refsP t]; rfl
theorem refsP_vals : ∀ ps : List (Addr × List Key), Vals (ps.map fun p => V.ref p.1) (ps.map fun p => Value.ref p.1)
  | [] => .nil
  | _ :: ps => .cons rfl (refsP_vals ps)
section
variable {X : Cx} {W : WX}
theorem Inv.isM {pins : List (Addr × Obj)} {σ : L2.St} {H : Hp} {s : Shared} {b : Addr} {k : List Key} (I : L2.Inv X pins σ H s) (h : SqT X.K H b (k.map kV)) : IsM X.prog X.w s.heap k b := by
  obtain ⟨its, r, ⟨o, ho, hc, n, hd⟩, _⟩ := I.tuple h
  exact ⟨o, its.toArray, n, ho, hc, hd, by simpa using items_are r⟩
/-- the items of a list or a tuple, in the heap -/
theorem Inv.seq {pins : List (Addr × Obj)} {σ : L2.St} {H : Hp} {s : Shared} {a : Addr} {ws : List V} (I : L2.Inv X pins σ H s) (h : SqL X.K H a ws ∨ SqT X.K H a ws) : ∃ (T : String) (its : List Value) (o : Obj) (n : Nat), (T = "list" ∨ T = "tuple") ∧ Vals ws its ∧ s.heap.get? a = some o ∧ o.cls = .type T ∧ o.data = .seq its.toArray n ∧ its.length ≤ sizeLine := by
  rcases h with h | h
  · obtain ⟨its, rv, pl, hz⟩ := I.list h
    obtain ⟨o, ho, hc, n, hd⟩ := pl.isList
    exact ⟨"list", its, o, n, .inl rfl, rv, ho, hc, hd, by rw [← rv.length]; exact hz⟩
  · obtain ⟨its, rv, ⟨o, ho, hc, n, hd⟩, hz⟩ := I.tuple h
    exact ⟨"tuple", its, o, n, .inr rfl, rv, ho, hc, hd, by rw [← rv.length]; exact hz⟩
def rSetM (X : Cx) : List V → Hp → VK → Prop := fun vs H Q => ∃ (a : Addr) (ps : List (Addr × List Key)), vs = [.ref a] ∧ (SqL X.K H a (ps.map fun p => V.ref p.1) ∨ SqT X.K H a (ps.map fun p => V.ref p.1)) ∧ (∀ p ∈ ps, SqT X.K H p.1 (p.2.map kV)) ∧ ps.length < 64 ∧
  ∀ c L, H c = none → (∀ p ∈ L, p ∈ ps) → (∀ p ∈ ps, p.2 ∈ L.map (·.2)) → Q (.ref c) (upd H c (SetM X.prog X.w c L))
theorem cr_setM (hc : X.calm = true) (hu : X.A.units + 67 < cLine) : CallR X (.type "set") (rSetM X) := by
  rintro pins s σ H vs us Q I r ⟨a, ps, rfl, hs, hk, few, q⟩
  rw [Vals.ref1 r]
  obtain ⟨T, its, o, n, hT, rv, ho, hcl, hd, hz⟩ := Inv.seq I hs
  have ei := vals_refsP rv
  have hsz : its.toArray.size = ps.length := by rw [List.size_toArray, ei, List.length_map]
  refine call_set (I.ok.hd hc) hT ho hcl hd (by omega) (fill_tup ps (by simpa using ei) (fun p hp => Inv.isM I (hk p hp)) few) (fun h e => jt_zero ps h e) fun h' tk J k => ?_
  obtain ⟨L, es, ep, t, R, c1, c2, c3⟩ := J
  rw [hsz, List.take_length] at c1 c2
  exact ⟨.ref s.heap.objs.size, upd H s.heap.objs.size (SetM X.prog X.w s.heap.objs.size L), I.laid (t' := tk) k (Nat.le_refl _) (setM_new ⟨es, ep, t, R.obj, R.ent, R.ok, R.dis, R.ld, R.roomy, R.lt⟩), rfl, q _ L (I.hok.fresh (Nat.le_refl _)) c1 c2⟩
def rSortM (X : Cx) : List V → Hp → VK → Prop := fun vs H Q => ∃ (a : Addr) (L : List (Addr × List Key)) (G : Hp), vs = [.ref a] ∧ H a = some (SetM X.prog X.w a L) ∧ Sub G H ∧ (∀ p ∈ L, Rp X.K G (.ref p.1) (encK p.2)) ∧ canSort ((L.map (·.2)).map encK) = true ∧
  ((L.map (·.2)).Nodup → ∀ p ws, H p = none → RpA X.K G ws (sortP ((L.map (·.2)).map encK)) → Q (.ref p) (upd H p (.lst ws)))
theorem cr_sortM (hc : X.calm = true) (hu : X.A.units + 67 < cLine) : CallR X (.builtin "sorted") (rSortM X) := by
  rintro pins s σ H vs us Q I r ⟨a, L, G, rfl, ha, sg, hk, cs, q⟩
  rw [Vals.ref1 r]
  have R0 : SM0 X.prog X.w s.heap a L := (I.hok a _ ha).1
  obtain ⟨es, ep, t, ⟨o, ho, hex, hd⟩, r2, r3, nd, ld, rm, lt⟩ := R0.ex
  have hps : t.place.size = es.size := by
    have z := r3.sz
    rw [List.length_map] at z
    rw [z, ent_size r2]
  have hes : es.toList.map (·.2) = L.map fun q => Value.ref q.1 := by
    rw [r2, List.map_map]
    rfl
  refine sorted_col (fun vs s' => (∀ b o, s.heap.get? b = some o → s'.heap.get? b = some o) ∧ s'.gens = s.gens ∧ s'.os = s.os ∧ vs.Perm (L.map fun q => Value.ref q.1)) (fun Q' hQ' => ?_) fun vs s' ⟨k1, g1, o1, pm⟩ => ?_
  · exact collect_set (A := X.A.in1) (I.ok.hd hc) ⟨o, ho, hex.1, hd⟩ (fits_of r2 hps r3.dm (by omega)) (by rw [ent_size r2]; unfold scanBound; omega) r3.ris ld fun s1 vs k1 hz g1 o1 pm => hQ' vs s1 ⟨k1, g1, o1, by rw [← hes]; exact pm⟩
  have inj : ∀ p ∈ L, ∀ p' ∈ L, p.1 = p'.1 → p = p' := fun p hp p' hp' e => by
    obtain ⟨b, eb, tb⟩ := (hk p hp).keyT
    obtain ⟨b', eb', tb'⟩ := (hk p' hp').keyT
    cases eb
    cases eb'
    have i1 : IsM X.prog X.w s.heap p.2 p.1 := Inv.isM I (tb.sub sg).sq
    have i2 : IsM X.prog X.w s.heap p'.2 p'.1 := Inv.isM I (tb'.sub sg).sq
    rw [e] at i1
    exact Prod.ext e (i1.inj i2)
  obtain ⟨L1, e1, pm1⟩ : ∃ L1 : List (Addr × List Key), vs = L1.map (fun q => Value.ref q.1) ∧ L1.Perm L := by
    have build : ∀ vs : List Value, (∀ v ∈ vs, ∃ q ∈ L, v = Value.ref q.1) → ∃ L1 : List (Addr × List Key), vs = L1.map (fun q => Value.ref q.1) ∧ ∀ q ∈ L1, q ∈ L := by
      intro vs
      induction vs with
      | nil => exact fun _ => ⟨[], rfl, fun q hq => nomatch hq⟩
      | cons v vs ih =>
        intro hv
        obtain ⟨p, hp, rfl⟩ := hv v List.mem_cons_self
        obtain ⟨L1, e1, hs⟩ := ih fun u hu => hv u (List.mem_cons_of_mem _ hu)
        exact ⟨p :: L1, by rw [e1]; rfl, fun q hq => (List.mem_cons.mp hq).elim (fun e => e ▸ hp) (hs q)⟩
    obtain ⟨L1, e1, hs⟩ := build vs fun v hv => by
      obtain ⟨p, hp, e⟩ := List.mem_map.mp (pm.mem_iff.mp hv)
      exact ⟨p, hp, e.symm⟩
    refine ⟨L1, e1, ?_⟩
    have nL : L.Nodup := List.Pairwise.of_map (fun p : Addr × List Key => p.2) (fun _ _ hne e => hne (congrArg Prod.snd e)) nd
    have nr : (L.map fun q => Value.ref q.1).Nodup := List.pairwise_map.mpr (List.Pairwise.imp_of_mem (fun {p p'} hp hp' hne e => hne (inj p hp p' hp' (by injection e))) nL)
    have nv : vs.Nodup := pm.nodup_iff.mpr nr
    rw [e1] at nv pm
    have n1 : L1.Nodup := List.Pairwise.of_map (fun q : Addr × List Key => Value.ref q.1) (fun _ _ hne e => hne (congrArg (fun q : Addr × List Key => Value.ref q.1) e)) nv
    refine (List.perm_ext_iff_of_nodup n1 nL).mpr fun p => ⟨hs p, fun hp => ?_⟩
    obtain ⟨p', hp', e⟩ := List.mem_map.mp (pm.mem_iff.mpr (List.mem_map.mpr ⟨p, hp, rfl⟩))
    injection e with e
    rw [← inj p' (hs p' hp') p hp e]
    exact hp'
  have J : L2.Inv X pins σ H s' := I.call' (ch := []) o1 (Un.kept k1) (I.hok.kept k1) (by rw [g1]; exact I.bare) (fun _ z => nomatch z)
  have ds := pm1.map (·.2)
  refine sort_gathered hu J (ws := L1.map fun p => V.ref p.1) (ds := (L1.map (·.2)).map encK) (by rw [e1]; exact refsP_vals L1) (rpA_of fun p hp => hk p (pm1.mem_iff.mp hp)) sg (canSort_sub cs fun x hx => (ds.map encK).mem_iff.mp hx) (by rw [e1, List.length_map, pm1.length_eq, sizeLine_eq]; omega) fun p ws' hp hw => q nd p ws' hp ?_
  rw [← sortP_keys ds (canSort_sub cs fun x hx => (ds.map encK).mem_iff.mp hx)]
  exact hw
end
end DL
end

section
set_option maxRecDepth 100000
/-! DL6: methods, isinstance, stores. Ours. -/
namespace DL
open PySem PySem.Spec PyProof.Rows L2 PySem.W
variable [PWd]
section
variable {X : Cx} {E : XK}
/-- a method by its meaning -/
def rM (K : PySem.W.Frag) (E : XK) (g : D → List D → M D) : V → List V → Hp → VK → Prop := fun x vs H Q => ∃ Mm S d ds, RS K Mm H S ∧ Rep K Mm H x d ∧ RepA K Mm H vs ds ∧ Post K (Rep K) E Mm H Q (g d ds S)
def rM1 (K : PySem.W.Frag) (E : XK) (g : D → D → M D) : V → List V → Hp → VK → Prop := fun x vs H Q => ∃ v Mm S d e, vs = [v] ∧ RS K Mm H S ∧ Rep K Mm H x d ∧ Rep K Mm H v e ∧ Post K (Rep K) E Mm H Q (g d e S)
theorem rM_b1 {K : PySem.W.Frag} {g : D → D → M D} {x : V} {vs : List V} {H : Hp} {Q : VK} (h : rM K E (fun d => b1 (g d)) x vs H Q) : rM1 K E g x vs H Q := by
  obtain ⟨Mm, S, d, ds, rs, r, ra, po⟩ := h
  cases ra with
  | nil => exact po.elim
  | cons r1 rr =>
    cases rr with
    | cons _ _ => exact po.elim
    | nil => exact ⟨_, Mm, S, d, _, rfl, rs, r, r1, po⟩
theorem MtR.of {id : String} {r r' : V → List V → Hp → VK → Prop} (h : MtR X id r) (i : ∀ x xs H Q, r' x xs H Q → r x xs H Q) : MtR X id r' := fun pins s σ H x xs v us Q I rx rs q => h pins s σ H x xs v us Q I rx rs (i x xs H Q q)
/-- the mutable list behind a reference -/
theorem RS.lstAt {K : PySem.W.Frag} {Mm : MM} {H : Hp} {S : Mem} {i : Nat} {v : V} {xs : List PyData} (rs : RS K Mm H S) (r : Rep K Mm H v (.rf i)) (h : S[i]? = some (.lst xs)) :
    ∃ a vs, v = .ref a ∧ Mm.m[i]? = some a ∧ H a = some (.lst vs) ∧ RpA K (fz Mm H) vs xs := by
  obtain ⟨a, rfl, ha⟩ := r
  obtain ⟨vs, h1, h2⟩ := rs.ob i a _ ha h
  exact ⟨a, vs, rfl, ha, h1, h2⟩
/-- that list changed -/
theorem Post.setL {K : PySem.W.Frag} {Mm : MM} {H : Hp} {S : Mem} {i : Nat} {a : Addr} {d : D} {v : V} {ys : List PyData} {ws : List V} {Q : VK} (rs : RS K Mm H S) (ha : Mm.m[i]? = some a) (hf : NoFz H a) (hw : RpA K (fz Mm H) ws ys)
    (po : Post K (Rep K) E Mm H Q (.ok d (S.set i (.lst ys)))) (hr : Rep K Mm H v d) : Q v (upd H a (.lst ws)) := by
  have hm := List.mem_of_getElem? ha
  exact po.use' (Ev.set rs hm hf) (rs.set ha hf ⟨ws, upd_same, hw.mono (sub_set hm hf)⟩) (hr.mono (Ev.set rs hm hf))
theorem mt_appendD : MtR X "list.append" (rM1 X.K E appendD) := MtR.of mt_append fun x vs H Q ⟨v, Mm, S, d, e, hv, rs, r, r1, po⟩ => by
  subst hv
  unfold appendD at po
  split at po
  · split at po
    · rename_i i p xs h
      split at po
      · rename_i c
        obtain ⟨a, ws, rfl, ha, hH, a1⟩ := rs.lstAt r h
        exact ⟨a, ws, v, rfl, rfl, hH, by rw [a1.length]; exact c, Post.setL rs ha ⟨_, hH, rfl⟩ (a1.append (.cons r1 .nil)) po Rp.non⟩
      · exact po.elim
    · exact po.elim
  · exact po.elim
theorem mt_pop0D : MtR X "list.pop" (rM X.K E fun d ds => match ds with
    | [] => pop0D d
    | _ => fun _ => .bad) := MtR.of mt_pop fun x vs H Q ⟨Mm, S, d, ds, rs, r, ra, po⟩ => by
  cases ra with
  | cons _ _ => exact po.elim
  | nil =>
    simp only at po
    unfold pop0D at po
    split at po
    · split at po
      · rename_i i xs h
        split at po
        · rename_i y hy
          obtain ⟨a, ws, rfl, ha, hH, a1⟩ := rs.lstAt r h
          obtain ⟨z, hz, rz⟩ := a1.get hy
          exact ⟨a, ws, z, rfl, rfl, hH, by rw [a1.length]; exact hz, Post.setL rs ha ⟨_, hH, rfl⟩ a1.dropLast po rz⟩
        · exact po.elim
      · exact po.elim
    · exact po.elim
theorem mt_pop1D : MtR X "list.pop" (rM1 X.K E pop1D) := MtR.of mt_popAt fun x vs H Q ⟨v, Mm, S, d, e, hv, rs, r, r1, po⟩ => by
  subst hv
  unfold pop1D at po
  split at po
  · split at po
    · rename_i i k _ xs h
      split at po
      · rename_i c
        split at po
        · rename_i y hy
          obtain ⟨a, ws, rfl, ha, hH, a1⟩ := rs.lstAt r h
          obtain ⟨z, hz, rz⟩ := a1.get hy
          cases r1
          have hl : k.toNat < ws.length := (List.getElem?_eq_some_iff.mp hz).1
          exact ⟨a, ws, k, k.toNat, z, rfl, rfl, hH, by omega, c.2, seqIndex_of c.1 (by omega), hz, Post.setL rs ha ⟨_, hH, rfl⟩ (a1.eraseIdx _) po rz⟩
        · exact po.elim
      · exact po.elim
    · exact po.elim
  · exact po.elim
omit [PWd] in
theorem idxOf_some {p : PyData} : ∀ {xs : List PyData} {k : Nat}, idxOf p xs = some k → (∃ z, xs[k]? = some z ∧ PyData.eqv z p = true) ∧ ∀ m z', m < k → xs[m]? = some z' → PyData.eqv z' p = false
  | [], k, h => by cases h
  | x :: r, k, h => by
    unfold idxOf at h
    split at h
    · rename_i c
      cases h
      exact ⟨⟨x, rfl, c⟩, fun m z' hm => absurd hm (Nat.not_lt_zero _)⟩
    · rename_i c
      obtain ⟨j, hj, rfl⟩ := Option.map_eq_some_iff.mp h
      obtain ⟨⟨z, h1, h2⟩, h3⟩ := idxOf_some hj
      refine ⟨⟨z, by simpa using h1, h2⟩, fun m z' hm hz => ?_⟩
      cases m with
      | zero =>
        have e : x = z' := by simpa using hz
        subst e
        exact Bool.not_eq_true _ ▸ c
      | succ m => exact h3 m z' (by omega) (by simpa using hz)
/-- t.index(x) of data -/
def rIdxT (K : PySem.W.Frag) : V → List V → Hp → VK → Prop := fun x xs H Q => ∃ (a : Addr) (y : V) (d : PyData) (ds : List PyData) (j : Nat) (z : PyData), x = V.ref a ∧ xs = [y] ∧ Dp K H (V.ref a) (.tuple ds) ∧ Dp K H y d ∧
  SeqAt.shaped (.tuple ds) = true ∧ SeqAt.shaped d = true ∧ ds[j]? = some z ∧ PyData.eqv z d = true ∧ (∀ (m : Nat) (z' : PyData), m < j → ds[m]? = some z' → PyData.eqv z' d = false) ∧ Q (.int (j : Nat)) H
theorem mt_idxT (hu : X.A.units + 65 < cLine) : MtR X "tuple.index" (rIdxT X.K) := by
  intro pins s σ H x xs v us Q I rx rxs h
  obtain ⟨a, y, d, ds, j, z, rfl, rfl, hl, hy, sl, sd, hz, hzj, hno, q⟩ := h
  cases rx
  obtain ⟨u, rfl, ry⟩ := vals1 rxs
  obtain ⟨bs, r1⟩ := Dp.reads I d y u hy ry
  have hxs : PyData.canLayAll0 ds = true := SeqAt.canLay_of_shaped sl
  cases hl with
  | tup hs ha =>
    obtain ⟨its, rv, ⟨⟨cls, dd, data, sls⟩, ho, hc, n, hdt⟩, hlen⟩ := I.tuple hs
    simp only at hc hdt
    subst hc hdt
    obtain ⟨as, h4⟩ := Dp.readsAll I ds _ its ha rv
    have hmap : its.map (SeqAt.readOf s.heap) = ds := SeqAt.readsAll_map ds its as hxs h4
    have hjl : j < its.length := by
      have e := SeqAt.ReadsAll.length ds its as h4
      have := (List.getElem?_eq_some_iff.mp hz).1
      omega
    have at_ : ∀ (m : Nat) (hm : m < its.toArray.size), ∃ z', ds[m]? = some z' ∧ SeqAt.readOf s.heap its.toArray[m] = z' := by
      intro m hm
      have hml : m < its.length := by simpa using hm
      refine ⟨SeqAt.readOf s.heap its[m], ?_, by simp⟩
      rw [← hmap, List.getElem?_map, List.getElem?_eq_getElem hml]
      rfl
    have hj : j < its.toArray.size := by simpa using hjl
    refine call_meets PySem.F.slot_tuple_index ⟨_, ho, rfl⟩ PySem.F.entry_tuple_index (PySem.F.args_tuple_index_2 _ _) (TI.tuple_indexAt a its.toArray n dd sls u (fun w => PyData.eqv (SeqAt.readOf s.heap w) d) j hj ?_ ?_)
      ⟨ho, SeqAt.items_eqAt (vs := its.toArray) (show ReadsAll s.heap its.toArray.toList ds as from h4) r1 hxs (SeqAt.canLay_of_shaped sd) (room_in_shapedT sd hu), ⟨.int (j : Nat), H, I.tok _, ⟨_, rfl⟩, q⟩⟩
    · obtain ⟨z', e1, e2⟩ := at_ j hj
      rw [hz] at e1
      cases e1
      show PyData.eqv (SeqAt.readOf s.heap its.toArray[j]) d = true
      rw [e2]
      exact hzj
    · intro m hm hmj
      obtain ⟨z', e1, e2⟩ := at_ m hm
      show PyData.eqv (SeqAt.readOf s.heap its.toArray[m]) d = false
      rw [e2]
      exact hno m z' hmj e1
theorem indexD_cases {S : Mem} {x a d : D} {K : PySem.W.Frag} {Mm : MM} {H : Hp} {Q : VK} (po : Post K (Rep K) E Mm H Q (indexD x a S)) :
    ∃ xs p k, seqOf S x = some xs ∧ imOf S a = some p ∧ SeqAt.shaped p = true ∧ SeqAt.shaped (.tuple xs) = true ∧ idxOf p xs = some k ∧ Post K (Rep K) E Mm H Q (.ok (.im (.int (k : Int))) S) := by
  unfold indexD at po
  split at po
  · rename_i xs p h1 h2
    split at po
    · rename_i c
      split at po
      · rename_i k hk
        exact ⟨xs, p, k, h1, h2, c.1, c.2, hk, po⟩
      · exact po.elim
    · exact po.elim
  · exact po.elim
omit [PWd] in
theorem shaped_list_tuple (xs : List PyData) : SeqAt.shaped (.list xs) = SeqAt.shaped (.tuple xs) := by
  unfold SeqAt.shaped
  simp only [PyData.canLay0, PyData.depth]
  rfl
theorem mt_indexLD (hu : X.A.units + 65 < cLine) : MtR X "list.index" (fun x vs H Q => ∃ v Mm S d e xs, vs = [v] ∧ RS X.K Mm H S ∧ Rep X.K Mm H x d ∧ Rep X.K Mm H v e ∧ imOf S d = some (.list xs) ∧ Post X.K (Rep X.K) E Mm H Q (indexD d e S)) :=
  MtR.of (mt_indexD hu) fun x vs H Q ⟨v, Mm, S, d, e, xs, hv, rs, r, r1, hi, po⟩ => by
    subst hv
    obtain ⟨ys, p, k, h1, h2, h3, h4, h5, po⟩ := indexD_cases (d := d) po
    rcases seqOf_some h1 with h1 | h1
    · obtain ⟨⟨z, g1, g2⟩, g3⟩ := idxOf_some h5
      have rl := r.reads rs h1
      rw [← shaped_list_tuple] at h4
      have dl := rl.shaped h4
      obtain ⟨a, ws, rfl, _, _⟩ := r.listR rs h1
      exact ⟨a, v, p, ys, k, z, rfl, rfl, dl, (r1.reads rs h2).shaped h3, h4, h3, g1, g2, g3, po.use rs (Rp.int _)⟩
    · rw [hi] at h1
      cases h1
theorem mt_indexTD (hu : X.A.units + 65 < cLine) : MtR X "tuple.index" (fun x vs H Q => ∃ v Mm S d e xs, vs = [v] ∧ RS X.K Mm H S ∧ Rep X.K Mm H x d ∧ Rep X.K Mm H v e ∧ imOf S d = some (.tuple xs) ∧ Post X.K (Rep X.K) E Mm H Q (indexD d e S)) :=
  MtR.of (mt_idxT hu) fun x vs H Q ⟨v, Mm, S, d, e, xs, hv, rs, r, r1, hi, po⟩ => by
    subst hv
    obtain ⟨ys, p, k, h1, h2, h3, h4, h5, po⟩ := indexD_cases (d := d) po
    rcases seqOf_some h1 with h1 | h1
    · rw [hi] at h1
      cases h1
    · obtain ⟨⟨z, g1, g2⟩, g3⟩ := idxOf_some h5
      have rl := r.reads rs h1
      have dl := rl.shaped h4
      obtain ⟨a, ws, rfl, _, _⟩ := r.tupR h1
      exact ⟨a, v, p, ys, k, z, rfl, rfl, dl, (r1.reads rs h2).shaped h3, h4, h3, g1, g2, g3, po.use rs (Rp.int _)⟩
/-! ### dicts -/
def rM2 (K : PySem.W.Frag) (E : XK) (g : D → D → D → M D) : V → List V → Hp → VK → Prop := fun x vs H Q => ∃ v w Mm S d e f, vs = [v, w] ∧ RS K Mm H S ∧ Rep K Mm H x d ∧ Rep K Mm H v e ∧ Rep K Mm H w f ∧ Post K (Rep K) E Mm H Q (g d e f S)
theorem rM_b2 {K : PySem.W.Frag} {g : D → D → D → M D} {x : V} {vs : List V} {H : Hp} {Q : VK} (h : rM K E (fun d => b2 (g d)) x vs H Q) : rM2 K E g x vs H Q := by
  obtain ⟨Mm, S, d, ds, rs, r, ra, po⟩ := h
  cases ra with
  | nil => exact po.elim
  | cons r1 rr =>
    cases rr with
    | nil => exact po.elim
    | cons r2 rr =>
      cases rr with
      | cons _ _ => exact po.elim
      | nil => exact ⟨_, _, Mm, S, d, _, _, rfl, rs, r, r1, r2, po⟩
/-- a dict changed -/
theorem Post.setK {K : PySem.W.Frag} {Mm : MM} {H : Hp} {S : Mem} {i : Nat} {a : Addr} {d : D} {v : V} {ys : List (PyData × PyData)} {ws : List (Key × V)} {Q : VK} (rs : RS K Mm H S) (ha : Mm.m[i]? = some a) (hf : NoFz H a) (hw : RpK K (fz Mm H) ws ys)
    (po : Post K (Rep K) E Mm H Q (.ok d (S.set i (.dct ys)))) (hr : Rep K Mm H v d) : Q v (upd H a (.dK ws)) := by
  have hm := List.mem_of_getElem? ha
  exact po.use' (Ev.set rs hm hf) (rs.set ha hf ⟨ws, upd_same, hw.mono (sub_set hm hf)⟩) (hr.mono (Ev.set rs hm hf))
theorem mt_setdefaultD : MtR X "dict.setdefault" (rM2 X.K E setdefaultD) := by
  rintro pins s σ H x xs v us Q I rx rxs ⟨y, z, Mm, S, d, e, f, rfl, rs, r, r1, r2, po⟩
  unfold setdefaultD at po
  split at po
  · rename_i i k p
    split at po
    · rename_i kvs h
      split at po
      · rename_i c
        obtain ⟨j, rfl⟩ := isKy_some c.1
        obtain ⟨a, ws, rfl, ha, hH, a1⟩ := rs.dctAt r h
        obtain rfl : v = Value.ref a := rx
        have ey : y = kV j := Rp.ky (K := X.K) r1
        subst ey
        obtain ⟨u1, u2, rfl, ry, rz⟩ : ∃ u1 u2, us = [u1, u2] ∧ RelV (kV j) u1 ∧ RelV z u2 := by
          cases rxs with
          | cons q1 t1 => cases t1 with
            | cons q2 t2 => cases t2; exact ⟨_, _, rfl, q1, q2⟩
        refine d_setd I hH ry rz (by rw [a1.length]; exact c.2) (fun v0 hv w' s4 I4 rw' => ⟨v0, H, I4, rw', ?_⟩) fun hn w' s4 I4 rw' => ⟨z, _, I4, rw', ?_⟩
        · rcases a1.get j with ⟨g1, g2⟩ | ⟨u, q, g1, g2, g3⟩
          · rw [g1] at hv; cases hv
          · rw [g1] at hv
            cases hv
            rw [g2] at po
            exact po.use rs g3
        · rcases a1.get j with ⟨g1, g2⟩ | ⟨u, q, g1, g2, g3⟩
          · rw [g2] at po
            exact Post.setK rs ha ⟨_, hH, rfl⟩ (a1.put r2) po r2
          · rw [g1] at hn; cases hn
      · exact po.elim
    · exact po.elim
  · exact po.elim
theorem mt_get2D (hu : X.A.units + 1 < cLine) : MtR X "dict.get" (rM2 X.K E get2D) := by
  rintro pins s σ H x xs v us Q I rx rxs ⟨y, z, Mm, S, d, e, f, rfl, rs, r, r1, r2, po⟩
  unfold get2D at po
  split at po
  · rename_i kvs k p h
    split at po
    · rename_i c
      obtain ⟨j, rfl⟩ := isKy_some c
      obtain ⟨a, o, rfl, g, eo, g2⟩ := dget_of rs r h r1 (show imOf S (.im (kP j)) = some (kP j) from rfl)
      obtain rfl : v = Value.ref a := rx
      obtain ⟨u1, u2, rfl, ry, rz⟩ : ∃ u1 u2, us = [u1, u2] ∧ RelV y u1 ∧ RelV z u2 := by
        cases rxs with
        | cons q1 t1 => cases t1 with
          | cons q2 t2 => cases t2; exact ⟨_, _, rfl, q1, q2⟩
      refine d_get2 hu I g ry rz fun w' s4 I4 rw' => ⟨o.getD z, H, I4, rw', ?_⟩
      cases hp : lkP (kP j) kvs with
      | some q =>
        obtain ⟨u, rfl, rq⟩ := g2 q hp
        rw [hp] at po
        exact po.use rs rq
      | none =>
        rw [hp] at eo po
        cases o with
        | none => exact po.use rs r2
        | some u => cases eo
    · exact po.elim
  · exact po.elim
end
end DL
end

section
set_option maxRecDepth 100000
/-! DL7: expressions, one construct at a time. Ours. -/
namespace DL
open PySem PySem.Spec PyProof.Rows L2 PySem.W
variable [PWd]

structure Rel (K : PySem.W.Frag) (Mm : MM) (H : Hp) (σ : L2.St) (env : Env) (S : Mem) : Prop where
  rs : RS K Mm H S
  er : ∀ (i : Nat) (d : D), env[i]? = some (some d) → ∃ v, σ[i]? = some (some v) ∧ Rep K Mm H v d
  ln : env.length = σ.length
section
variable {K : PySem.W.Frag} {Mm Mm1 : MM} {H H1 : Hp} {σ : L2.St} {env : Env} {S S1 : Mem}
theorem Rel.mono (r : Rel K Mm H σ env S) (e : Ev Mm H Mm1 H1) (s : RS K Mm1 H1 S1) : Rel K Mm1 H1 σ env S1 :=
  ⟨s, fun i d h => let ⟨v, h1, h2⟩ := r.er i d h; ⟨v, h1, h2.mono e⟩, r.ln⟩
theorem Rel.set (r : Rel K Mm H σ env S) {i : Nat} {v : V} {d : D} (h : Rep K Mm H v d) : Rel K Mm H (σ.set i (some v)) (env.set i (some d)) S := by
  refine ⟨r.rs, fun j e he => ?_, by simp [r.ln]⟩
  by_cases hj : i = j
  · subst hj
    by_cases hl : i < env.length
    · rw [List.getElem?_set_self hl] at he
      cases he
      exact ⟨v, List.getElem?_set_self (by rw [← r.ln]; exact hl), h⟩
    · rw [List.getElem?_eq_none (by simpa using hl)] at he
      cases he
  · rw [List.getElem?_set_ne hj] at he
    rw [List.getElem?_set_ne hj]
    exact r.er j e he
theorem Rel.wipe (r : Rel K Mm H σ env S) : ∀ vs : List Nat, Rel K Mm H (wipe σ vs) (wipeE env vs) S
  | [] => r
  | v :: vs => by
    have q := r.wipe vs
    refine ⟨r.rs, fun j e he => ?_, by simp [L2.wipe, wipeE, q.ln]⟩
    unfold wipeE at he
    unfold L2.wipe
    by_cases hj : v = j
    · subst hj
      by_cases hl : v < (wipeE env vs).length
      · rw [List.getElem?_set_self hl] at he
        cases he
      · rw [List.getElem?_eq_none (by simpa using hl)] at he
        cases he
    · rw [List.getElem?_set_ne hj] at he
      rw [List.getElem?_set_ne hj]
      exact q.er j e he
end

def RB (_ : MM) (_ : Hp) (b' b : Bool) : Prop := b' = b
/-- the reading of a computation -/
def tM (K : PySem.W.Frag) (W : WX) {α β : Type} (R : MM → Hp → β → α → Prop) (c : Env → M α) : L2.St → Hp → (β → Hp → Prop) → Prop := fun σ H Q =>
  ∃ Mm env S, Rel K Mm H σ env S ∧ Post K R (WE W σ) Mm H Q (c env S)
abbrev tE (K : PySem.W.Frag) (W : WX) (c : Env → M D) : TE := tM K W (Rep K) c
abbrev tT (K : PySem.W.Frag) (W : WX) (c : Env → M Bool) : TT := tM K W RB c
abbrev tL (K : PySem.W.Frag) (W : WX) (c : Env → M (List D)) : TA := tM K W (RepA K) c
section
variable {K : PySem.W.Frag} {W : WX} {α β γ δ : Type} {R : MM → Hp → β → α → Prop} {R' : MM → Hp → δ → γ → Prop} {σ : L2.St} {H : Hp}
theorem tM.imp {c : Env → M α} {Q Q' : β → Hp → Prop} (h : tM K W R c σ H Q) (f : ∀ b H', Q b H' → Q' b H') : tM K W R c σ H Q' := by
  obtain ⟨Mm, env, S, rel, po⟩ := h
  exact ⟨Mm, env, S, rel, po.imp f⟩
theorem tM.bind {m : Env → M α} {f : Env → α → M γ} {Q : δ → Hp → Prop} (h : tM K W R' (fun env => M.bind (m env) (f env)) σ H Q) :
    tM K W R m σ H (fun b H1 => ∃ Mm1 env S1 a, Rel K Mm1 H1 σ env S1 ∧ R Mm1 H1 b a ∧ Post K R' (WE W σ) Mm1 H1 Q (f env a S1)) := by
  obtain ⟨Mm, env, S, rel, po⟩ := h
  refine ⟨Mm, env, S, rel, (Post.bind po).imp fun b H1 => ?_⟩
  rintro ⟨Mm1, S1, a, ev, rs, ra, po1⟩
  exact ⟨Mm1, env, S1, a, rel.mono ev rs, ra, po1⟩
theorem tM.err {W' : WX} {c : Env → M α} {Q : β → Hp → Prop} (h : tM K W R c σ H Q) (f : ∀ cls d H', W cls d σ H' → W' cls d σ H') : tM K W' R c σ H Q := by
  obtain ⟨Mm, env, S, rel, po⟩ := h
  refine ⟨Mm, env, S, rel, ?_⟩
  revert po
  cases c env S with
  | ok a S' => exact fun po => po
  | err c S' => exact fun po Mm' H' cls e s i => f _ _ _ (po Mm' H' cls e s i)
  | bad => exact fun po => po
end
section
variable {X : Cx} {W : WX} {pos : Pos}
theorem PE.imp {e : Expr} {t t' : TE} (h : PE X e t) (i : ∀ σ H Q, t' σ H Q → t σ H Q) : PE X e t' := ⟨fun pins s σ H Q I q => h.run pins s σ H Q I (i σ H Q q)⟩
theorem PT.imp {e : Expr} {t t' : TT} (h : PT X e t) (i : ∀ σ H Q, t' σ H Q → t σ H Q) : PT X e t' := ⟨fun pins s σ H Q I q => h.run pins s σ H Q I (i σ H Q q)⟩
theorem PW.imp {e : Expr} {t t' : TT} (h : PW X e t) (i : ∀ σ H Q, t' σ H Q → t σ H Q) : PW X e t' := ⟨fun wh pins s σ H Q I q => h.run wh pins s σ H Q I (i σ H Q q)⟩
theorem PA.imp {es : List Expr} {t t' : TA} (h : PA X es t) (i : ∀ σ H Q, t' σ H Q → t σ H Q) : PA X es t' := ⟨fun p pins s σ H Q I q => h.run p pins s σ H Q I (i σ H Q q)⟩

/-! ### names, constants -/
theorem e_var {i : Nat} {x : Str} (hN : X.N[i]? = some x) (hv : Vis X.env.scope x) (hd : (x == ("__debug__" : Str)) = false) (hc : (x == ("__classdict__" : Str)) = false) : PE X (.Name x pos) (tE X.K W (getV i)) :=
  PE.imp (pe_var hN hv hd hc) fun σ H Q ⟨Mm, env, S, rel, po⟩ => by
    unfold getV at po
    split at po
    · rename_i d hd
      obtain ⟨v, h1, h2⟩ := rel.er i d hd
      exact ⟨v, h1, po.use rel.rs h2⟩
    · exact po.elim
/-- the data of a constant -/
def conD : Const → Option (PyData × V)
  | .none => some (.none, .non)
  | .bool b => some (.bool b, .bl b)
  | .int i => some (.int i, .int i)
  | .str x => some (.str x, .str x)
  | _ => none
theorem e_con {c : Const} {k : Nat} {p : PyData} {v : V} (h : conD c = some (p, v)) : PE X (.Constant c k pos) (tE X.K W fun _ => constK p) := by
  have key : ∀ (h : PE X (.Constant c k pos) (tC v)) (r : ∀ G, Rp X.K G v p), PE X (.Constant c k pos) (tE X.K W fun _ => constK p) := fun h r =>
    PE.imp h fun σ H Q ⟨Mm, env, S, rel, po⟩ => po.use rel.rs (r _)
  cases c with
  | none => cases h; exact key pe_non fun _ => .non
  | bool b => cases h; exact key pe_bl fun _ => .bl b
  | int i => cases h; exact key pe_int fun _ => .int i
  | str x => cases h; exact key pe_str fun _ => .str x
  | _ => cases h
theorem e_glb {x : Str} {p : PyData} {v : V} {u : Value} (hg : Gl X x) (hm : X.mg x = some u) (r : RelV v u) (hr : ∀ G, Rp X.K G v p) (hd : (x == ("__debug__" : Str)) = false) : PE X (.Name x pos) (tE X.K W fun _ => constK p) :=
  PE.imp (pe_glob hg hm r hd) fun σ H Q ⟨Mm, env, S, rel, po⟩ => po.use rel.rs (hr _)

/-! ### operators -/
section
variable {a b c : Expr} {ca cb cc : Env → M D}
theorem e_bin {op : Operator} {g : D → D → M D} (ho : ∀ E, OpR X (binaryOp op) (rD X.K E g)) (ha : PE X a (tE X.K W ca)) (hb : PE X b (tE X.K W cb)) :
    PE X (.BinOp a op b pos) (tE X.K W fun env => M.bind (ca env) fun x => M.bind (cb env) fun y => g x y) := by
  refine ⟨fun pins s σ H Q I h => ?_⟩
  refine (pe_op (ho (WE W σ)) ha hb).run pins s σ H Q I ?_
  refine (tM.bind (R := Rep X.K) (m := ca) (f := fun env x => M.bind (cb env) fun y => g x y) h).imp ?_
  rintro x H1 ⟨Mm, env, S, d, rel, ra, po⟩
  refine ⟨Mm, env, S, rel, (Post.bind po).imp ?_⟩
  rintro y H2 ⟨Mm2, S2, d2, ev, rs, rb, po2⟩
  exact ⟨Mm2, S2, d, d2, rs, ra.mono ev, rb, po2⟩
theorem e_cmp {op : CmpOp} (hu : X.A.units + 66 < cLine) (ha : PE X a (tE X.K W ca)) (hb : PE X b (tE X.K W cb)) (hm : behindInMarks op b = false) :
    PE X (.Compare a [op] [b] pos) (tE X.K W fun env => M.bind (ca env) fun x => M.bind (cb env) fun y => cmpD op x y) := by
  refine ⟨fun pins s σ H Q I h => ?_⟩
  refine (pe_cmpR (op_cmpD (E := WE W σ) hu op) ha hb hm).run pins s σ H Q I ?_
  refine (tM.bind (R := Rep X.K) (m := ca) (f := fun env x => M.bind (cb env) fun y => cmpD op x y) h).imp ?_
  rintro x H1 ⟨Mm, env, S, d, rel, ra, po⟩
  refine ⟨Mm, env, S, rel, (Post.bind po).imp ?_⟩
  rintro y H2 ⟨Mm2, S2, d2, ev, rs, rb, po2⟩
  exact ⟨Mm2, S2, d, d2, rs, ra.mono ev, rb, po2⟩
/-- a truth in hand -/
theorem Post.tst {K : PySem.W.Frag} {E : XK} {Mm : MM} {H : Hp} {S : Mem} {v : V} {d : D} {Q : Bool → Hp → Prop} (rs : RS K Mm H S) (r : Rep K Mm H v d) (po : Post K RB E Mm H Q (tstD d S)) : ∃ k, v = .bl k ∧ Q k H := by
  unfold tstD at po
  split at po
  · cases r
    exact ⟨_, rfl, po.use rs rfl⟩
  · exact po.elim
/-- a truth in hand, and what follows it -/
theorem Post.tst' {K : PySem.W.Frag} {E : XK} {Mm : MM} {H : Hp} {S : Mem} {v : V} {d : D} {α β : Type} {R : MM → Hp → β → α → Prop} {f : Bool → M α} {Q : β → Hp → Prop} (r : Rep K Mm H v d) (po : Post K R E Mm H Q (M.bind (tstD d) f S)) : ∃ k, v = .bl k ∧ d = .im (.bool k) ∧ Post K R E Mm H Q (f k S) := by
  unfold M.bind tstD at po
  split at po
  · rename_i b S' e
    split at e
    · cases e
      cases r
      exact ⟨_, rfl, rfl, po⟩
    · cases e
  · rename_i e
    split at e <;> cases e
  · exact po.elim
theorem t_cmp {op : CmpOp} (hu : X.A.units + 66 < cLine) (ha : PE X a (tE X.K W ca)) (hb : PE X b (tE X.K W cb)) (hm : behindInMarks op b = false) :
    PT X (.Compare a [op] [b] pos) (tT X.K W fun env => M.bind (M.bind (ca env) fun x => M.bind (cb env) fun y => cmpD op x y) tstD) := by
  refine ⟨fun pins s σ H Q I h => ?_⟩
  refine (pt_cmpR (op_cmpD (E := WE W σ) hu op) ha hb hm).run pins s σ H Q I ?_
  have h1 := tM.bind (R := Rep X.K) (m := fun env => M.bind (ca env) fun x => M.bind (cb env) fun y => cmpD op x y) (f := fun _ => tstD) h
  refine (tM.bind (R := Rep X.K) (m := ca) (f := fun env x => M.bind (cb env) fun y => cmpD op x y) h1).imp ?_
  rintro x H1 ⟨Mm, env, S, d, rel, ra, po⟩
  refine ⟨Mm, env, S, rel, (Post.bind po).imp ?_⟩
  rintro y H2 ⟨Mm2, S2, d2, ev, rs, rb, po2⟩
  refine ⟨Mm2, S2, d, d2, rs, ra.mono ev, rb, po2.imp ?_⟩
  rintro z H3 ⟨Mm3, env3, S3, d3, rel3, r3, po3⟩
  exact po3.tst rel3.rs r3
/-- a value that is a truth, as a test -/
theorem t_val {e : Expr} {ce : Env → M D} (he : PE X e (tE X.K W ce)) (hw : ∀ whole, isTrue e X.env whole = (do let v ← whole; standAt e.pos; holding [v] (truthy v))) : PT X e (tT X.K W fun env => M.bind (ce env) tstD) :=
  PT.imp (pt_val he hw) fun σ H Q h => (tM.bind (R := Rep X.K) (m := ce) (f := fun _ => tstD) h).imp fun x H1 ⟨Mm, env, S, d, rel, ra, po⟩ => po.tst rel.rs ra
theorem e_not (ha : PE X a (tE X.K W ca)) : PE X (.UnaryOp .Not a pos) (tE X.K W fun env => M.bind (ca env) notD) :=
  PE.imp (pe_not ha) fun σ H Q h => (tM.bind (R := Rep X.K) (m := ca) (f := fun _ => notD) h).imp fun x H1 ⟨Mm, env, S, d, rel, ra, po⟩ => by
    unfold notD at po
    split at po
    · cases ra
      exact ⟨_, rfl, po.use rel.rs (Rp.bl _)⟩
    · exact po.elim
omit [PWd] in
theorem bind_not {c : M D} {S : Mem} : M.bind (M.bind c notD) tstD S = M.bind (M.bind c tstD) (fun b S => .ok (!b) S) S := by
  unfold M.bind
  cases c S with
  | ok d S1 =>
    simp only
    unfold notD tstD
    cases d with
    | im p => cases p <;> rfl
    | rf i => rfl
  | err c S1 => rfl
  | bad => rfl
theorem t_not (ha : PT X a (tT X.K W fun env => M.bind (ca env) tstD)) : PT X (.UnaryOp .Not a pos) (tT X.K W fun env => M.bind (M.bind (ca env) notD) tstD) :=
  PT.imp (pt_not ha) fun σ H Q ⟨Mm, env, S, rel, po⟩ => by
    dsimp only at po
    rw [bind_not] at po
    refine ⟨Mm, env, S, rel, (Post.bind (R := RB) po).imp ?_⟩
    rintro k H1 ⟨Mm1, S1, b, ev, rs, rb, po1⟩
    cases rb
    exact po1.use rs rfl
theorem e_neg (ha : PE X a (tE X.K W ca)) : PE X (.UnaryOp .USub a pos) (tE X.K W fun env => M.bind (ca env) negD) :=
  PE.imp (pe_un un_neg ha) fun σ H Q h => (tM.bind (R := Rep X.K) (m := ca) (f := fun _ => negD) h).imp fun x H1 ⟨Mm, env, S, d, rel, ra, po⟩ => by
    unfold negD at po
    split at po
    · rename_i i hi
      have q := ra.reads rel.rs hi
      cases q
      exact ⟨i, rfl, po.use rel.rs (Rp.int _)⟩
    · exact po.elim
theorem e_ite (hc : PT X c (tT X.K W fun env => M.bind (cc env) tstD)) (ha : PE X a (tE X.K W ca)) (hb : PE X b (tE X.K W cb)) :
    PE X (.IfExp c a b pos) (tE X.K W fun env => M.bind (cc env) fun r => M.bind (tstD r) fun t => if t = true then ca env else cb env) :=
  PE.imp (pe_ifExp hc ha hb) fun σ H Q ⟨Mm, env, S, rel, po⟩ => by
    have e : M.bind (cc env) (fun r => M.bind (tstD r) fun t => if t = true then ca env else cb env) S = M.bind (M.bind (cc env) tstD) (fun t => if t = true then ca env else cb env) S := by
      unfold M.bind
      cases cc env S <;> rfl
    dsimp only at po
    rw [e] at po
    refine ⟨Mm, env, S, rel, (Post.bind (R := RB) po).imp ?_⟩
    rintro k H1 ⟨Mm1, S1, b, ev, rs, rb, po1⟩
    cases rb
    cases k with
    | true => exact ⟨Mm1, env, S1, rel.mono ev rs, po1⟩
    | false => exact ⟨Mm1, env, S1, rel.mono ev rs, po1⟩
def chnM (op op' : CmpOp) (ca cb cc : Env → M D) (env : Env) : M D := M.bind (ca env) fun x => M.bind (cb env) fun y => M.bind (cmpD op x y) fun r => M.bind (tstD r) fun t => if t = true then M.bind (cc env) fun z => cmpD op' y z else constK (.bool false)
theorem chn_core {op op' : CmpOp} {σ : L2.St} {H : Hp} {Q : VK} (h : tE X.K W (chnM op op' ca cb cc) σ H Q) : tChain (rD X.K (WE W σ) (cmpD op)) (rD X.K (WE W σ) (cmpD op')) (tE X.K W ca) (tE X.K W cb) (tE X.K W cc) σ H Q := by
  refine (tM.bind (R := Rep X.K) (m := ca) (f := fun env x => M.bind (cb env) fun y => M.bind (cmpD op x y) fun r => M.bind (tstD r) fun t => if t = true then M.bind (cc env) fun z => cmpD op' y z else constK (.bool false)) h).imp ?_
  rintro x H1 ⟨Mm, env, S, d, rel, ra, po⟩
  refine ⟨Mm, env, S, rel, (Post.bind po).imp ?_⟩
  rintro y H2 ⟨Mm2, S2, d2, ev, rs, rb, po2⟩
  refine ⟨Mm2, S2, d, d2, rs, ra.mono ev, rb, (Post.bind po2).imp ?_⟩
  rintro z H3 ⟨Mm3, S3, d3, ev3, rs3, r3, po3⟩
  obtain ⟨k, rfl, rfl, po3⟩ := po3.tst' r3
  refine ⟨k, rfl, ?_⟩
  cases k with
  | true =>
    simp only [if_true] at po3 ⊢
    refine ⟨Mm3, env, S3, (rel.mono ev rs).mono ev3 rs3, (Post.bind (R := Rep X.K) (m := cc env) (f := fun z => cmpD op' d2 z) po3).imp ?_⟩
    rintro w H4 ⟨Mm4, S4, d4, ev4, rs4, r4, po4⟩
    exact ⟨Mm4, S4, d2, d4, rs4, (rb.mono ev3).mono ev4, r4, po4⟩
  | false =>
    simp only [Bool.false_eq_true, if_false] at po3 ⊢
    exact po3.use rs3 (Rp.bl _)
theorem e_chn {op op' : CmpOp} (hu : X.A.units + 66 < cLine) (ha : PE X a (tE X.K W ca)) (hb : PE X b (tE X.K W cb)) (hc : PE X c (tE X.K W cc)) (hm : behindInMarks op' c = false) :
    PE X (.Compare a [op, op'] [b, c] pos) (tE X.K W (chnM op op' ca cb cc)) := by
  refine ⟨fun pins s σ H Q I h => ?_⟩
  exact (pe_chain (op_cmpD (E := WE W σ) hu op) (op_cmpD (E := WE W σ) hu op') ha hb hc hm).run pins s σ H Q I (chn_core h)
end
end
end DL
end

section
set_option maxRecDepth 100000
/-! DL8: displays, arguments, calls. Ours. -/
namespace DL
open PySem PySem.Spec PyProof.Rows L2 PySem.W
variable [PWd]

/-! ### what the text must not be -/
def plainE : Expr → Bool
  | .Starred .. => false
  | .Slice .. => false
  | _ => true
omit [PWd] in
theorem star_ok {e : Expr} {es : List Expr} {env : PySem.Env} (h : plainE e = true) : starEach (e :: es) env = (false, eval e env) :: starEach es env := by
  cases e <;> first | rfl | (exact Bool.noConfusion h)
omit [PWd] in
theorem star_any : ∀ {es : List Expr} {env : PySem.Env} {pos : Pos}, es.all plainE = true → (backTo pos (starEach es env)).any (·.1) = false
  | [], _, _, _ => rfl
  | e :: es, env, pos, h => by
    simp only [List.all_cons, Bool.and_eq_true] at h
    rw [star_ok h.1]
    have ih := star_any (env := env) (pos := pos) h.2
    unfold backTo at ih ⊢
    rw [List.map_cons, List.any_cons, ih] <;> rfl
omit [PWd] in
theorem star_all : ∀ {es : List Expr} {env : PySem.Env} {pos : Pos}, es.all plainE = true → (backTo pos (starEach es env)).all (fun x => !x.1) = true
  | [], _, _, _ => rfl
  | e :: es, env, pos, h => by
    simp only [List.all_cons, Bool.and_eq_true] at h
    rw [star_ok h.1]
    have ih := star_all (env := env) (pos := pos) h.2
    unfold backTo at ih ⊢
    rw [List.map_cons, List.all_cons, ih] <;> rfl
omit [PWd] in
theorem plain_ix {b : Expr} (h : plainE b = true) : PlainIx b := by
  intro o i
  cases b <;> first | rfl | (exact Bool.noConfusion h)
/-- a value as a test -/
def valE : Expr → Bool
  | .UnaryOp .Not _ _ => false
  | .BoolOp .. => false
  | .IfExp .. => false
  | .Compare .. => false
  | _ => true
omit [PWd] in
theorem val_ok {e : Expr} {env : PySem.Env} (h : valE e = true) : ∀ whole, isTrue e env whole = (do let v ← whole; standAt e.pos; holding [v] (truthy v)) := by
  intro whole
  cases e with
  | UnaryOp op _ _ => cases op <;> first | rfl | (exact Bool.noConfusion h)
  | BoolOp _ _ _ => exact Bool.noConfusion h
  | IfExp _ _ _ _ => exact Bool.noConfusion h
  | Compare _ _ _ _ => exact Bool.noConfusion h
  | _ => rfl
def setE : Expr → Bool
  | .Set .. => true
  | _ => false
omit [PWd] in
theorem marks_ok {e : Expr} (op : CmpOp) (h : setE e = false) : behindInMarks op e = false := by
  cases e <;> first | rfl | (exact Bool.noConfusion h)
omit [PWd] in
theorem fold_ok {e : Expr} {env : PySem.Env} (h : setE e = false) : ∀ x, foldedSetIterable e env x = pure x := by
  intro x
  cases e <;> first | rfl | (exact Bool.noConfusion h)
def compE : Expr → Bool
  | .ListComp .. => true
  | .SetComp .. => true
  | .DictComp .. => true
  | _ => false
omit [PWd] in
theorem swap_ok {e : Expr} {t : Option Expr} {l : Nat} {env : PySem.Env} (h : compE e = false) : swapsWith e t l env = pure false := by
  cases e <;> first | rfl | (exact Bool.noConfusion h)
omit [PWd] in
theorem base_ok {e : Expr} {m : Str} {env : PySem.Env} (h : (match e with | .Call (.Name id _) [] [] _ => false | _ => true) = true) : attributeBase e m env (eval e env) = eval e env := by
  unfold attributeBase
  split at h
  · cases h
  · rename_i h2
    split
    · rename_i id p pos
      exact absurd rfl (h2 id p pos)
    · rfl

section
variable {X : Cx} {W : WX} {pos : Pos}
/-! ### argument lists -/
theorem a_nil : PA X [] (tL X.K W fun _ => nilK) := PA.imp pa_nil fun σ H Q ⟨Mm, env, S, rel, po⟩ => po.use rel.rs .nil
theorem a_cons {e : Expr} {es : List Expr} {ce : Env → M D} {cs : Env → M (List D)} (hp : plainE e = true) (he : PE X e (tE X.K W ce)) (hs : PA X es (tL X.K W cs)) :
    PA X (e :: es) (tL X.K W fun env => M.bind (ce env) fun d => M.bind (cs env) fun ds => consK d ds) :=
  PA.imp (pa_cons he hs (star_ok hp)) fun σ H Q h => by
    refine (tM.bind (R := Rep X.K) (m := ce) (f := fun env d => M.bind (cs env) fun ds => consK d ds) h).imp ?_
    rintro x H1 ⟨Mm, env, S, d, rel, ra, po⟩
    refine ⟨Mm, env, S, rel, (Post.bind (R := RepA X.K) po).imp ?_⟩
    rintro xs H2 ⟨Mm2, S2, ds, ev, rs, rb, po2⟩
    exact po2.use rs (.cons (ra.mono ev) rb)
/-! ### displays -/
theorem pe_tupN {es : List Expr} {t : TA} {k : Nat} (h : PA X es t) : PE X (.Tuple es k pos) (fun σ H Q => t σ H fun xs H1 => xs.length ≤ sizeLine ∧ ∀ p o, H1 p = none → o.dict = none → Q (.ref p) (upd H1 p (.frz o (.tup xs)))) := by
  refine ⟨fun pins s σ H Q I hq => wpAny_Tuple_spliced (thn (h.run pos pins s σ H _ I hq) ?_)⟩
  rintro us s1 ⟨xs, H1, I1, r, z, q⟩
  refine ⟨by rw [← r.length]; exact z, ?_⟩
  have hf : H1 s1.heap.objs.size = none := I1.hok.fresh (Nat.le_refl _)
  refine ⟨.ref s1.heap.objs.size, _, I1.laid (t' := s1.toks) (o := .frz { cls := .type "tuple", data := .seq us.toArray } (.tup xs)) (fun b u e => Heap.get?_push_of_some _ e) (Nat.le_refl _) ?_, rfl, q _ _ hf rfl⟩
  exact ⟨Heap.get?_push_size _ rfl, z, us, r, ⟨_, Heap.get?_push_size _ rfl, rfl, _, rfl⟩⟩
omit [PWd] in
theorem lenSmall {n : Nat} (h : n ≤ 1000) : n ≤ sizeLine := Nat.le_of_lt (small1000 h)
omit [PWd] in
theorem allIm_length : ∀ {ds : List D} {xs : List PyData}, allIm ds = some xs → ds.length = xs.length
  | [], xs, h => by simp [allIm] at h; subst h; rfl
  | .im d :: r, xs, h => by
    simp only [allIm, Option.map_eq_some_iff] at h
    obtain ⟨ys, e, rfl⟩ := h
    simp [allIm_length e]
  | .rf _ :: _, xs, h => by simp [allIm] at h
theorem Post.bindE {K : PySem.W.Frag} {α β γ δ : Type} {R : MM → Hp → β → α → Prop} {R' : MM → Hp → δ → γ → Prop} {E : XK} {Q2 : δ → Hp → Prop} {Mm : MM} {H : Hp} {S : Mem} {m : M α} {f : α → M γ} (h : Post K R' E Mm H Q2 (M.bind m f S)) :
    Post K R E Mm H (fun b H1 => ∃ Mm1 S1 a, m S = .ok a S1 ∧ Ev Mm H Mm1 H1 ∧ RS K Mm1 H1 S1 ∧ R Mm1 H1 b a ∧ Post K R' E Mm1 H1 Q2 (f a S1)) (m S) := by
  unfold M.bind at h
  cases e : m S with
  | ok a S1 =>
    rw [e] at h
    exact fun Mm' H' b e' s r => ⟨Mm', S1, a, rfl, e', s, r, Post.mono h e'⟩
  | err c S' =>
    rw [e] at h
    exact h
  | bad =>
    rw [e] at h
    exact h
theorem tM.bindE {K : PySem.W.Frag} {α β γ δ : Type} {R : MM → Hp → β → α → Prop} {R' : MM → Hp → δ → γ → Prop} {σ : L2.St} {H : Hp} {m : Env → M α} {f : Env → α → M γ} {Q : δ → Hp → Prop} (h : tM K W R' (fun env => M.bind (m env) (f env)) σ H Q) :
    tM K W R m σ H (fun b H1 => ∃ Mm1 env S S1 a, m env S = .ok a S1 ∧ Rel K Mm1 H1 σ env S1 ∧ R Mm1 H1 b a ∧ Post K R' (WE W σ) Mm1 H1 Q (f env a S1)) := by
  obtain ⟨Mm, env, S, rel, po⟩ := h
  refine ⟨Mm, env, S, rel, (Post.bindE po).imp fun b H1 => ?_⟩
  rintro ⟨Mm1, S1, a, e, ev, rs, ra, po1⟩
  exact ⟨Mm1, env, S, S1, a, e, rel.mono ev rs, ra, po1⟩
section
variable {es : List Expr} {cs : Env → M (List D)}
theorem e_tup {k : Nat} (hs : PA X es (tL X.K W cs)) (hl : ∀ env S ds S', cs env S = .ok ds S' → ds.length ≤ 1000) :
    PE X (.Tuple es k pos) (tE X.K W fun env => M.bind (cs env) tupK) := by
  refine PE.imp (pe_tupN hs) fun σ H Q h => (tM.bindE (R := RepA X.K) (m := cs) (f := fun _ => tupK) h).imp ?_
  rintro vs H1 ⟨Mm1, env, S, S1, ds, e, rel, ra, po⟩
  refine ⟨by rw [ra.length]; exact lenSmall (hl _ _ _ _ e), fun p o hp ho => ?_⟩
  unfold tupK at po
  split at po
  · rename_i xs hx
    exact po.use' (Ev.new rel.rs hp) (rel.rs.new hp) (Rep.tup rel.rs hp (ra.im hx) ho)
  · exact po.elim
theorem e_lst (hs : PA X es (tL X.K W cs)) (hl : ∀ env S ds S', cs env S = .ok ds S' → ds.length ≤ 1000) :
    PE X (.List es pos) (tE X.K W fun env => M.bind (cs env) lstK) := by
  refine PE.imp (pe_lst hs) fun σ H Q h => (tM.bindE (R := RepA X.K) (m := cs) (f := fun _ => lstK) h).imp ?_
  rintro vs H1 ⟨Mm1, env, S, S1, ds, e, rel, ra, po⟩
  refine ⟨by rw [ra.length]; exact lenSmall (hl _ _ _ _ e), fun p hp => ?_⟩
  unfold lstK at po
  split at po
  · rename_i xs hx
    exact po.use' (Ev.new rel.rs hp) (rel.rs.new hp) (Rep.lst rel.rs hp (ra.im hx))
  · exact po.elim
theorem e_mls (hs : PA X es (tL X.K W cs)) (hl : ∀ env S ds S', cs env S = .ok ds S' → ds.length ≤ 1000) :
    PE X (.List es pos) (tE X.K W fun env => M.bind (cs env) mlsK) := by
  refine PE.imp (pe_lst hs) fun σ H Q h => (tM.bindE (R := RepA X.K) (m := cs) (f := fun _ => mlsK) h).imp ?_
  rintro vs H1 ⟨Mm1, env, S, S1, ds, e, rel, ra, po⟩
  refine ⟨by rw [ra.length]; exact lenSmall (hl _ _ _ _ e), fun p hp => ?_⟩
  unfold mlsK at po
  split at po
  · rename_i xs hx
    exact po.use' (Ev.add rel.rs hp) (rel.rs.addL hp (ra.im hx)) (Rep.last rel.rs)
  · exact po.elim
/-- [..] * n, a new list that may change -/
theorem e_rep {n : Expr} {p1 : Pos} {cn : Env → M D} (hs : PA X es (tL X.K W cs)) (hl : ∀ env S ds S', cs env S = .ok ds S' → ds.length ≤ 1000) (hn : PE X n (tE X.K W cn)) :
    PE X (.BinOp (.List es p1) .Mult n pos) (tE X.K W fun env => M.bind (cs env) fun ds => M.bind (cn env) fun k => repK ds k) := by
  refine PE.imp (pe_op op_rep (pe_lst hs) hn) fun σ H Q h => (tM.bindE (R := RepA X.K) (m := cs) (f := fun env ds => M.bind (cn env) fun k => repK ds k) h).imp ?_
  rintro vs H1 ⟨Mm1, env, S, S1, ds, e, rel, ra, po⟩
  refine ⟨by rw [ra.length]; exact lenSmall (hl _ _ _ _ e), fun p hp => ?_⟩
  have evn : Ev Mm1 H1 Mm1 (upd H1 p (.lst vs)) := Ev.new rel.rs hp
  refine ⟨Mm1, env, S1, rel.mono evn (rel.rs.new hp), (Post.bind (R := Rep X.K) (m := cn env) (po.mono evn)).imp ?_⟩
  rintro y H2 ⟨Mm2, S2, d, ev, rs, rd, po2⟩
  unfold repK at po2
  cases hx : allIm ds with
  | none => rw [hx] at po2; exact po2.elim
  | some xs =>
    rw [hx] at po2
    dsimp only at po2
    unfold repD at po2
    split at po2
    · rename_i j
      split at po2
      · rename_i c
        cases rd
        have hl1 : vs.length = xs.length := by rw [ra.length, allIm_length hx]
        have a1 := ra.im hx
        have hp2 : H2 p = some (.lst vs) := (fz_some.mp (ev.sub p _ (fz_some.mpr ⟨fun hm => absurd hm (rel.rs.not_mem hp), upd_same⟩))).2
        have a2 : RpA X.K (fz Mm2 H2) vs xs := a1.mono (evn.sub.trans ev.sub)
        refine ⟨p, j, vs, rfl, rfl, hp2, by omega, by omega, by rw [hl1]; exact c.2, fun q hq => ?_⟩
        exact po2.use' (Ev.add rs hq) (rs.addL hq (a2.rep _)) (Rep.last rs)
      · exact po2.elim
    · exact po2.elim
/-- [..] * n, a new list that stays -/
theorem e_rpi {n : Expr} {p1 : Pos} {cn : Env → M D} (hs : PA X es (tL X.K W cs)) (hl : ∀ env S ds S', cs env S = .ok ds S' → ds.length ≤ 1000) (hn : PE X n (tE X.K W cn)) :
    PE X (.BinOp (.List es p1) .Mult n pos) (tE X.K W fun env => M.bind (cs env) fun ds => M.bind (cn env) fun k => rpiK ds k) := by
  refine PE.imp (pe_op op_rep (pe_lst hs) hn) fun σ H Q h => (tM.bindE (R := RepA X.K) (m := cs) (f := fun env ds => M.bind (cn env) fun k => rpiK ds k) h).imp ?_
  rintro vs H1 ⟨Mm1, env, S, S1, ds, e, rel, ra, po⟩
  refine ⟨by rw [ra.length]; exact lenSmall (hl _ _ _ _ e), fun p hp => ?_⟩
  have evn : Ev Mm1 H1 Mm1 (upd H1 p (.lst vs)) := Ev.new rel.rs hp
  refine ⟨Mm1, env, S1, rel.mono evn (rel.rs.new hp), (Post.bind (R := Rep X.K) (m := cn env) (po.mono evn)).imp ?_⟩
  rintro y H2 ⟨Mm2, S2, d, ev, rs, rd, po2⟩
  unfold rpiK at po2
  cases hx : allIm ds with
  | none => rw [hx] at po2; exact po2.elim
  | some xs =>
    rw [hx] at po2
    dsimp only at po2
    unfold rpiD at po2
    split at po2
    · rename_i j
      split at po2
      · rename_i c
        cases rd
        have hl1 : vs.length = xs.length := by rw [ra.length, allIm_length hx]
        have a1 := ra.im hx
        have hp2 : H2 p = some (.lst vs) := (fz_some.mp (ev.sub p _ (fz_some.mpr ⟨fun hm => absurd hm (rel.rs.not_mem hp), upd_same⟩))).2
        have a2 : RpA X.K (fz Mm2 H2) vs xs := a1.mono (evn.sub.trans ev.sub)
        refine ⟨p, j, vs, rfl, rfl, hp2, by omega, by omega, by rw [hl1]; exact c.2, fun q hq => ?_⟩
        exact po2.use' (Ev.new rs hq) (rs.new hq) (Rep.lst rs hq (a2.rep _))
      · exact po2.elim
    · exact po2.elim
end

/-! ### subscripts -/
section
variable {a b : Expr} {ca cb : Env → M D}
theorem e_idx (hw : PWd.P = X.prog ∧ PWd.w = X.w) (hu : X.A.units + 1 < cLine) (ha : PE X a (tE X.K W ca)) (hb : PE X b (tE X.K W cb)) (hp : plainE b = true) : PE X (.Subscript a b pos) (tE X.K W fun env => M.bind (ca env) fun x => M.bind (cb env) fun y => idxD x y) := by
  refine ⟨fun pins s σ H Q I h => ?_⟩
  refine (pe_ix (ix_D (E := WE W σ) hw hu) ha hb (plain_ix hp)).run pins s σ H Q I ?_
  refine (tM.bind (R := Rep X.K) (m := ca) (f := fun env x => M.bind (cb env) fun y => idxD x y) h).imp ?_
  rintro x H1 ⟨Mm, env, S, d, rel, ra, po⟩
  refine ⟨Mm, env, S, rel, (Post.bind po).imp ?_⟩
  rintro y H2 ⟨Mm2, S2, d2, ev, rs, rb, po2⟩
  exact ⟨Mm2, S2, d, d2, rs, ra.mono ev, rb, po2⟩
/-- an end of a slice -/
def RO (_ : MM) (_ : Hp) (o o' : Option Int) : Prop := o = o'
abbrev tO (K : PySem.W.Frag) (W : WX) (c : Env → M (Option Int)) : TO := tM K W RO c
theorem PO.imp {e : Option Expr} {t t' : TO} (h : PO X e t) (i : ∀ σ H Q, t' σ H Q → t σ H Q) : PO X e t' := ⟨fun pins s σ H Q I q => h.run pins s σ H Q I (i σ H Q q)⟩
theorem o_none : PO X none (tO X.K W fun _ => M.bind nilK endK) := PO.imp po_none fun σ H Q ⟨Mm, env, S, rel, po⟩ => Post.use (R := RO) (a := none) po rel.rs rfl
omit [PWd] in
theorem bind_cons1 {c : M D} {S : Mem} : M.bind (M.bind c fun d => M.bind nilK fun ds => consK d ds) endK S = M.bind c (fun d => endK [d]) S := by
  unfold M.bind
  cases c S <;> rfl
theorem o_some (ha : PE X a (tE X.K W ca)) : PO X (some a) (tO X.K W fun env => M.bind (M.bind (ca env) fun d => M.bind nilK fun ds => consK d ds) endK) := by
  refine PO.imp (po_some ha) fun σ H Q ⟨Mm, env, S, rel, po⟩ => ⟨Mm, env, S, rel, ?_⟩
  dsimp only at po
  rw [bind_cons1] at po
  refine (Post.bind (R := Rep X.K) po).imp ?_
  rintro x H1 ⟨Mm1, S1, d, ev, rs, rd, po1⟩
  unfold endK endOf at po1
  split at po1
  · rename_i o ho
    split at ho
    · rename_i z
      cases z
    · rename_i i z
      cases z
      cases ho
      cases rd
      exact ⟨i, rfl, po1.use rs rfl⟩
    · cases ho
  · exact po1.elim
theorem e_slc {lo hi : Option Expr} {p2 : Pos} {cl ch : Env → M (Option Int)} (ha : PE X a (tE X.K W ca)) (hl : PO X lo (tO X.K W cl)) (hh : PO X hi (tO X.K W ch)) :
    PE X (.Subscript a (.Slice lo hi none p2) pos) (tE X.K W fun env => M.bind (ca env) fun x => M.bind (cl env) fun l => M.bind (ch env) fun h => sliceD x l h) := by
  refine ⟨fun pins s σ H Q I h => ?_⟩
  refine (pe_slice (sl_D (E := WE W σ)) ha hl hh).run pins s σ H Q I ?_
  refine (tM.bind (R := Rep X.K) (m := ca) (f := fun env x => M.bind (cl env) fun l => M.bind (ch env) fun h => sliceD x l h) h).imp ?_
  rintro x H1 ⟨Mm, env, S, d, rel, ra, po⟩
  refine ⟨Mm, env, S, rel, (Post.bind (R := RO) po).imp ?_⟩
  rintro o H2 ⟨Mm2, S2, o', ev, rs, ro, po2⟩
  cases ro
  refine ⟨Mm2, env, S2, rel.mono ev rs, (Post.bind (R := RO) po2).imp ?_⟩
  rintro o2 H3 ⟨Mm3, S3, o3, ev3, rs3, ro3, po3⟩
  cases ro3
  exact ⟨Mm3, S3, d, rs3, (ra.mono ev).mono ev3, po3⟩
end
end
end DL
end

section
set_option maxRecDepth 100000
set_option maxHeartbeats 4000000
/-! DTN: str of an int, dict of pairs, a list shown as one that stays. Ours. -/
namespace DL
open PySem PySem.Spec PyProof.Rows L2 PySem.W
variable [PWd]
section
variable {X : Cx} {E : XK} {W : WX}
theorem cr_strD (hg : X.A.guards = some []) (hu : X.A.units + 67 < cLine) : CallR X (.type "str") (rC1 X.K E strD) := by
  intro pins s σ H xs us Q I r h
  obtain ⟨v, Mm, S, d, rfl, rs, rd, po⟩ := h
  unfold strD at po
  split at po
  · rename_i p hp
    split at po
    · rename_i c
      obtain ⟨dep, c2, c3⟩ := c
      have q := rd.reads rs hp
      cases r with
      | cons ru rr =>
        cases rr
        rename_i u
        have ld := Rp.ld I (Sub.refl _) q ru
        have out : Q (.str (strP p)) H := po.use rs (Rp.str _)
        cases ld with
        | nn => exact PySem.P.str_of_none ⟨.str _, H, I.tok _, ⟨_, rfl⟩, out⟩
        | bb b => exact PySem.P.str_of_bool ⟨.str _, H, I.tok _, ⟨_, rfl⟩, out⟩
        | ii i t => exact PySem.P.str_of_int (of_decide_eq_true (by simpa [PyData.showable] using c2)) ⟨.str _, H, I.tok _, ⟨_, rfl⟩, out⟩
        | ss x t => exact PySem.P.str_of_str ⟨.str _, H, I, ⟨_, rfl⟩, out⟩
        | ll e1 e2 e3 e4 => exact str_ld (.ll e1 e2 e3 e4) c2 c3 hg (by omega) fun h' u tk k => ⟨.str _, H, I.kept k, ⟨_, rfl⟩, out⟩
        | tt e1 e2 e3 e4 => exact str_ld (.tt e1 e2 e3 e4) c2 c3 hg (by omega) fun h' u tk k => ⟨.str _, H, I.kept k, ⟨_, rfl⟩, out⟩
        | dd e1 e2 e3 e4 e5 e6 => exact str_ld (.dd e1 e2 e3 e4 e5 e6) c2 c3 hg (by omega) fun h' u tk k => ⟨.str _, H, I.kept k, ⟨_, rfl⟩, out⟩
    · exact po.elim
  · exact po.elim
omit [PWd] in
theorem mergeN_rp {K : PySem.W.Frag} {G : Hp} {ws : List (Key × V)} {kvs : List (PyData × PyData)} (r : RpK K G ws kvs) : ∀ {us : List (Key × V)} {m : List (PyData × PyData)}, RpK K G us m → RpK K G (mergeK us ws) (mergeP m kvs) := by
  induction ws generalizing kvs with
  | nil => intro us m q; cases r; exact q
  | cons w ws ih =>
    intro us m q
    cases r with
    | cons r1 r2 =>
      rename_i k v d ds
      exact ih r2 (q.put r1)
omit [PWd] in
theorem pairs2_rp {K : PySem.W.Frag} {G H : Hp} (sb : Sub G H) : ∀ (xs : List PyData) {vs : List V} {kvs : List (PyData × PyData)}, RpA K G vs xs → pairs2 xs = some kvs →
    ∃ (ps : List Addr) (ws : List (Key × V)), vs = ps.map V.ref ∧ Paired (fun p kv => SqT K H p [kV kv.1, kv.2]) ps ws ∧ RpK K G ws kvs
  | [], vs, kvs, r, h => by
    cases h
    cases r
    exact ⟨[], [], rfl, .nil, .nil⟩
  | d :: ds, vs, kvs, r, h => by
    unfold pairs2 at h
    split at h
    · rename_i e; cases e
    · rename_i k v r' e
      cases e
      split at h
      · rename_i hk
        cases e2 : pairs2 ds with
        | none => rw [e2] at h; cases h
        | some kv2 =>
          rw [e2] at h
          cases h
          obtain ⟨k, rfl⟩ := isKy_some hk
          cases r with
          | cons r1 r2 =>
            obtain ⟨ps, ws, rfl, h1, h2⟩ := pairs2_rp sb ds r2 e2
            cases r1 with
            | tup t a =>
              cases a with
              | cons a1 a2 => cases a2 with
                | cons a2 a3 =>
                  cases a3
                  rename_i adr v1 v2
                  have e3 : v1 = kV k := a1.ky
                  subst e3
                  exact ⟨adr :: ps, (k, v2) :: ws, rfl, .cons (SqT.sub t.sq sb) h1, .cons a2 h2⟩
      · cases h
    · cases h
theorem cr_dictD (hc : X.calm = true) : CallR X (.type "dict") (rC1 X.K E dictD) := by
  rintro pins s σ H vs us Q I r ⟨v, Mm, S, d, rfl, rs, r1, po⟩
  unfold dictD at po
  split at po
  · rename_i xs hx
    split at po
    · rename_i kvs hk
      obtain ⟨a, ws, rfl, s1, a1⟩ := r1.listR rs hx
      obtain ⟨ps, kw, rfl, h1, h2⟩ := pairs2_rp (fz_sub Mm H) xs a1 hk
      refine thn (call_dictP hc pins s σ H _ us (fun v H1 => ∃ p, v = .ref p ∧ H p = none ∧ H1 = upd H p (.dK (mergeK [] kw))) I r ⟨a, ps, kw, rfl, s1, h1, fun p hp => ⟨p, rfl, hp, rfl⟩⟩) ?_
      rintro u s1 ⟨v, H1, I1, r, p, rfl, hp, rfl⟩
      obtain ⟨od, I2⟩ := I1.lock (d := p) upd_same True.intro
      rw [upd_upd] at I2
      refine ⟨.ref p, _, I2, r, po.use' (Ev.new rs hp) (rs.new hp) ?_⟩
      refine Rp.dct (fz_some.mpr ⟨fun _ => rfl, upd_same⟩) ((mergeN_rp h2 .nil).mono ?_)
      exact sub_new rs hp
    · exact po.elim
  · exact po.elim
/-- a name's list, from now on as one that stays -/
theorem e_frv {i : Nat} {x : Str} {pos : Pos} (hN : X.N[i]? = some x) (hv : Vis X.env.scope x) (hd : (x == ("__debug__" : Str)) = false) (hc : (x == ("__classdict__" : Str)) = false) : PE X (.Name x pos) (tE X.K W fun env => M.bind (getV i env) frvK) := by
  refine ⟨fun pins s σ H Q I ⟨Mm, env, S, rel, po⟩ => ?_⟩
  have po : Post X.K (Rep X.K) (WE W σ) Mm H Q (M.bind (getV i env) frvK S) := po
  unfold M.bind getV at po
  split at po
  · rename_i d S1 e
    split at e
    · rename_i d' hd'
      cases e
      obtain ⟨v, h1, h2⟩ := rel.er i d hd'
      unfold frvK at po
      split at po
      · rename_i j
        split at po
        · rename_i xs hxs
          obtain ⟨a, rfl, ha⟩ := h2
          obtain ⟨vs, hH, ra⟩ := rel.rs.ob j a _ ha hxs
          have hm := List.mem_of_getElem? ha
          obtain ⟨od, I2⟩ := I.lock hH True.intro
          have ev := Ev.set (o := .frz od (.lst vs)) rel.rs hm ⟨_, hH, rfl⟩
          have ra2 := ra.mono (sub_set (o := .frz od (.lst vs)) hm ⟨_, hH, rfl⟩)
          refine (pe_var hN hv hd hc).run pins s σ _ Q I2 ⟨_, h1, po.use' ev (rel.rs.set (o := .flst xs) ha ⟨_, hH, rfl⟩ ⟨od, vs, upd_same, ra2⟩) ?_⟩
          exact Rp.lst (.inl (.inr ⟨od, fz_some.mpr ⟨fun _ => rfl, upd_same⟩⟩)) ra2
        · rename_i xs hxs
          obtain ⟨a, rfl, ha⟩ := h2
          obtain ⟨o, vs, hH, ra⟩ := rel.rs.ob j a _ ha hxs
          refine (pe_var hN hv hd hc).run pins s σ _ Q I ⟨_, h1, po.use rel.rs ?_⟩
          exact Rp.lst (.inl (.inr ⟨o, fz_some.mpr ⟨fun _ => rfl, hH⟩⟩)) ra
        · exact po.elim
      · exact (pe_var hN hv hd hc).run pins s σ _ Q I ⟨_, h1, po.use rel.rs h2⟩
    · cases e
  · rename_i e
    split at e <;> cases e
  · rename_i e
    exact po.elim
/-- {}, a dict by flat tuples -/
theorem e_tdn {pos : Pos} (hw : PWd.P = X.prog ∧ PWd.w = X.w) : PE X (.Dict [] [] pos) (tE X.K W fun _ => tdnK) := by
  refine ⟨fun pins s σ H Q I ⟨Mm, env, S, rel, po⟩ => ?_⟩
  have po : Post X.K (Rep X.K) (WE W σ) Mm H Q (.ok (D.rf S.length) (S ++ [Ob.tdc []])) := po
  have hp := I.hok.fresh (Nat.le_refl s.heap.objs.size)
  refine wpAny_Dict_empty ⟨.ref s.heap.objs.size, _, I.laid (a := s.heap.objs.size) (o := TdO X.prog X.w s.heap.objs.size []) (t' := s.toks) (fun _ _ q => Heap.get?_push_of_some _ q) (Nat.le_refl _) (td_obj ⟨beq_eq_false_iff_ne.mpr (Ne.symm (Nat.ne_of_lt I.big)), Nat.zero_le _, _, #[], 0, Heap.get?_push_size _ rfl, ⟨rfl, rfl, rfl⟩, rfl, rfl, List.nodup_nil⟩), rfl, ?_⟩
  refine po.use' (Ev.add rel.rs hp) (rel.rs.add (o := .tdc []) hp ⟨[], ?_, .nil⟩) ⟨s.heap.objs.size, rfl, ?_⟩
  · rw [hw.1, hw.2]
    exact upd_same
  · rw [← rel.rs.ln]
    simp [MM.add]
end
end DL
end

section
set_option maxRecDepth 100000
/-! DS7: tuple of a dict (by flat tuples). Ours. -/
namespace DL
open PySem PySem.Spec PyProof.Rows L2 PySem.W
open PySem.Sem (wp)
open PySem.AutoSeq1 (wpAny_loadPart')
section
variable {prog : Program} {w : World} {A : Around} {E : Value → Shared → Prop} {s : Shared}
theorem code_tuple_col {a : Addr} {Q₁ : Value → Shared → Prop} (C : List Value → Shared → Prop) (hTI : s.TypeIs (.ref a) "dict") (hh : A.handled = none)
    (hcol : ∀ (A' : Around) (E' : Value → Shared → Prop) (Q' : List Value → Shared → Prop), A'.handled = none → (∀ vs s', C vs s' → Q' vs s') → wpAny (model prog w) A' (collect (.ref a)) Q' E' s)
    (h : ∀ vs s', C vs s' → vs.length ≤ sizeLine ∧ Q₁ (.ref s'.heap.objs.size) { s' with heap := s'.heap.push { cls := .type "tuple", data := .seq vs.toArray } }) :
    codeAny (model prog w) A (.call (.builtin "tuple.__new__") ⟨[.type "tuple", .ref a], []⟩) (wants Q₁ E) s := by
  refine codeAny_of_tree ?_
  show wpAny _ A.in1 (do checkBuiltinCall "tuple.__new__" ⟨[.type "tuple", .ref a], []⟩; again (.builtin "tuple.__new__" ⟨[.type "tuple", .ref a], []⟩)) _ _ s
  refine wpAny_bind (wpAny_of_eq (F.newCall_tuple_1 _) (wpAny_pure ⟨plainId_quiet PySem.F.plain_tuple_new _, codeAny_builtin F.entry_tuple_new ?_⟩))
  rw [Around.under_plainId PySem.F.plain_tuple_new _]
  have hsub := sub_tuple_self
  have hinit := init_tuple_lookup
  have hmh := madeHere_tuple
  have hc2 : ∀ {E' : Value → Shared → Prop} {Q' : List Value → Shared → Prop}, (∀ vs s', C vs s' → Q' vs s') → wpAny (model prog w) A.in1 (collect (.ref a)) Q' E' s := fun h => hcol _ _ _ hh h
  wp_walk using wpAny_typeOf hTI, hc2
  intro vs s' hC
  obtain ⟨hsz, hq⟩ := h vs s' hC
  show wpAny _ _ (Builtin.Tuple.tupleExact vs.toArray >>= fun v => ret v) _ _ _
  unfold Builtin.Tuple.tupleExact
  refine wpAny_bind (wpAny_newObj_type ?_ (by show vs.toArray.size ≤ sizeLine; simpa using hsz))
  exact wpAny_pure hq
theorem call_tuple_col {a : Addr} {Q : Value → Shared → Prop} (C : List Value → Shared → Prop) (hTI : s.TypeIs (.ref a) "dict") (hh : A.handled = none)
    (hcol : ∀ (A' : Around) (E' : Value → Shared → Prop) (Q' : List Value → Shared → Prop), A'.handled = none → (∀ vs s', C vs s' → Q' vs s') → wpAny (model prog w) A' (collect (.ref a)) Q' E' s)
    (hQ : ∀ vs s', C vs s' → vs.length ≤ sizeLine ∧ Q (.ref s'.heap.objs.size) { s' with heap := s'.heap.push { cls := .type "tuple", data := .seq vs.toArray } }) : wpAny (model prog w) A (call (.type "tuple") [.ref a]) Q E s := by
  refine callType_codes (Q₁ := fun obj s₁ => s₁.TypeIs obj "tuple" ∧ Q obj s₁) F.called_tuple (F.typeCall_tuple_1 _) F.entry_object_init
    (code_tuple_col C hTI hh hcol fun vs s' hC => ⟨(hQ vs s' hC).1, ⟨_, Heap.get?_push_size _ rfl, rfl⟩, (hQ vs s' hC).2⟩) fun obj s₁ h₁ => ?_
  exact ⟨h₁.1, F.args_object_init_2 obj _, object_init_meets F.called_tuple.init.lookup F.called_tuple.made (by decide) prog w A.in1 _ s₁ ⟨h₁.1, rfl, h₁.2⟩⟩
end
/-- tuple(d), d a dict by flat tuples -/
def rTupT (X : Cx) : List V → Hp → VK → Prop := fun vs H Q => ∃ (a : Addr) (G : Hp) (xs : List (List Key × Addr × Value)) (kvs : List (PyData × PyData)), vs = [.ref a] ∧ H a = some (TdO X.prog X.w a xs) ∧ TdR X.K G xs kvs ∧ Sub G H ∧
  ∀ p o ws, H p = none → o.dict = none → RpA X.K G ws (kvs.map (·.1)) → Q (.ref p) (upd H p (.frz o (.tup ws)))
theorem cr_tupT {X : Cx} (hc : X.calm = true) : CallR X (.type "tuple") (rTupT X) := by
  rintro pins s σ H vs us Q I r ⟨a, G, xs, kvs, rfl, ha, rt, sg, q⟩
  rw [Vals.ref1 r]
  obtain ⟨z, l, o, es, ep, h1, h2, h3, h4, h5⟩ : TD0 X.prog X.w s.heap a xs := (I.hok a _ ha).1
  have l1 : es.size = xs.length := size_of_entries h4
  refine call_tuple_col (fun vs s' => ∃ h' tk, s' = { s with heap := h', toks := tk } ∧ (∀ b o, s.heap.get? b = some o → h'.get? b = some o) ∧ vs = xs.map fun x => Value.ref x.2.1) ?_ (I.ok.hd hc) (fun A' E' Q' hh hQ' => ?_) fun vs s' ⟨h', tk, e, k1, hv⟩ => ?_
  · exact ⟨o, h1, h2.1⟩
  · refine PySem.W.kdu_collect (A := A') (kdl_raw z h2 h3) hh h1 (by omega) fun h' tk acc hk hacc => ?_
    refine hQ' acc.toList _ ⟨h', tk, rfl, hk, ?_⟩
    have hl : acc.toList.length = xs.length := by rw [Array.length_toList, hacc.1]; exact l1
    apply List.ext_getElem?
    intro j
    rw [List.getElem?_map]
    cases hj : acc.toList[j]? with
    | none =>
      have h1 := List.getElem?_eq_none_iff.mp hj
      rw [List.getElem?_eq_none (by omega)]
      all_goals rfl
    | some v =>
      obtain ⟨en, hen, hv⟩ := hacc.2 j v (by rw [← Array.getElem?_toList]; exact hj)
      have qe := entry_at h4 j
      rw [hen] at qe
      cases hb : xs[j]? with
      | none =>
        rw [hb] at qe
        exact nomatch (show some en = none from qe)
      | some b =>
        rw [hb] at qe
        have e2 : en = entryOfKey (tupleKind (mixKind X.prog X.w)) b := Option.some.inj qe
        rw [hv, e2]
        all_goals rfl
  · subst e
    subst hv
    have hz : (xs.map fun x => Value.ref x.2.1).length ≤ sizeLine := by rw [List.length_map]; exact l
    have I1 : L2.Inv X pins σ H { s with heap := h', toks := tk } := I.kept (t' := tk) k1
    have hws := rt.keys.2
    have hvv := vals_tref xs
    have I2 : L2.Inv X pins σ (upd H h'.objs.size (.frz { cls := .type "tuple", data := .seq (xs.map fun x => Value.ref x.2.1).toArray } (.tup (xs.map fun x => V.ref x.2.1)))) { s with heap := h'.push { cls := .type "tuple", data := .seq (xs.map fun x => Value.ref x.2.1).toArray }, toks := tk } :=
      I1.laid (t' := tk) (fun b o e => Heap.get?_push_of_some _ e) (Nat.le_refl _) (show ObjOk X.prog X.w _ _ _ (.frz _ (.tup (xs.map fun x => V.ref x.2.1))) from ⟨Heap.get?_push_size _ rfl, by rw [List.length_map]; exact l, _, hvv, IsTup.new _ _⟩)
    exact ⟨hz, .ref h'.objs.size, _, I2, rfl, q _ _ _ (I1.hok.fresh (Nat.le_refl _)) rfl hws⟩
section
variable {X : Cx}
variable [PWd]
theorem cr_tupleD {E : XK} (hw : PWd.P = X.prog ∧ PWd.w = X.w) (hc : X.calm = true) : CallR X (.type "tuple") (rC1 X.K E tupleD) := CallR.of (call_tuple_ofN.or (cr_tupT hc)) fun vs H Q ⟨v, Mm, S, d, hv, rs, r1, po⟩ => by
  subst hv
  unfold tupleD at po
  split at po
  · rename_i xs h
    rcases seqOf_some h with h | h
    · obtain ⟨a, vs, rfl, s1, a1⟩ := r1.listR rs h
      exact .inl ⟨a, vs, rfl, .inl ⟨s1, fun p o hp ho => po.use' (Ev.new rs hp) (rs.new hp) (Rep.tup rs hp a1 ho)⟩⟩
    · obtain ⟨a, vs, rfl, s1, a1⟩ := r1.tupR h
      exact .inl ⟨a, vs, rfl, .inr ⟨SqT.sub s1.sq (fz_sub _ _), po.use rs (Rp.tup s1 a1)⟩⟩
  · split at po
    · rename_i kvs hk
      cases d with
      | im q => cases hk
      | rf i =>
        unfold tdOf at hk
        dsimp only at hk
        split at hk
        · rename_i kvs' hx
          cases hk
          obtain ⟨a, rfl, ha⟩ := r1
          obtain ⟨xs, hH, ra⟩ := rs.ob i a _ ha hx
          rw [hw.1, hw.2] at hH
          exact .inr ⟨a, fz Mm H, xs, kvs, rfl, hH, ra, fz_sub _ _, fun p o ws hp ho hww => po.use' (Ev.new rs hp) (rs.new hp) (Rep.tup rs hp hww ho)⟩
        · cases hk
    · exact po.elim
end
end DL
end

section
set_option maxRecDepth 100000
/-! DL9: calls, methods, chains of and, or. Ours. -/
namespace DL
open PySem PySem.Spec PyProof.Rows L2 PySem.W
variable [PWd]
/-- a def's promise: what its meaning says -/
def spF (K : PySem.W.Frag) (P : List Fn) (k : Nat) (x : String) : Sp := fun vs H Q E => ∃ Mm S ds, RS K Mm H S ∧ RepA K Mm H vs ds ∧ Post K (Rep K) E Mm H Q (callF P k x ds S)
/-- room, and no guard stands -/
structure Rm (k : Nat) (A : Around) : Prop where
  r : Room k A
  g : A.guards = some []
omit [PWd] in
theorem Rm.deep {k : Nat} {A : Around} {env : PySem.Env} (h : Rm (k + 1) A) : Rm k (A.deeper env) := ⟨h.r.deeper env, h.g⟩
/-- a def keeps its promise wherever no guard stands -/
structure FnG (prog : Program) (w : World) (K : PySem.W.Frag) (mg : Str → Option Value) (base : Heap) (k : Nat) (f : Addr) (fd : FuncData) (ps : List Str) (sp : Sp) : Prop where
  ln : ∀ vs H Q E, sp vs H Q E → vs.length = ps.length
  go : ∀ (A : Around) (out : List PySem.Env) (t : Shared) (H : Hp) (us : List Value) (vs : List V) (Q : VK) (E : XK), Rm k A → Env0 prog w K mg base A out t H → BindsTo t fd ⟨us, []⟩ (ps.zip us) → Vals vs us → sp vs H Q E →
    codeAny (model prog w) A (.call (.ref f) ⟨us, []⟩) (CR (L2.CX prog w) out prog w H t Q E) t
section
variable {X : Cx} {W : WX} {pos : Pos} {e : Expr} {es : List Expr} {cs : Env → M (List D)}
theorem go_fn {k : Nat} {f : Addr} {fd : FuncData} {ps : List Str} {sp : Sp} {pins : List (Addr × Obj)} {σ : L2.St} {H : Hp} {t : Shared} {Q : VK} {us : List Value} {vs : List V} (F : FnG X.prog X.w X.K X.mg X.base k f fd ps sp) (hr : Rm k X.A) (hb : Binds X.K fd ps []) (tk : Takes X W)
    (I : Inv X pins σ H t) (r : Vals vs us) (h : sp vs H Q (WE W σ)) : wpAny (model X.prog X.w) X.A (call (.ref f) us) (EP X pins σ Q) X.xe t := by
  have lu : us.length = ps.length := r.length.symm.trans (F.ln _ _ _ _ h)
  have bd : BindsTo t fd ⟨us, []⟩ (ps.zip us) := by
    have z := hb t us I.kIn (by simpa using lu)
    simpa using z
  refine wpAny_call (codeAny_mono (F.go X.A X.stack t H us vs Q (WE W σ) hr I.env0 bd r h) fun res t' hq => ?_)
  match res, hq with
  | .error e, hq => exact passAt tk σ pins H t e t' I hq
  | .ok (.ret u), hq => exact I.after hq
  | .ok .next, hq => exact hq.elim
  | .ok .brk, hq => exact hq.elim
  | .ok .cont, hq => exact hq.elim
theorem e_call {P : List Fn} {k j : Nat} {x : String} {nm : Str} {p : Pos} {f : Addr} {fd : FuncData} {ps : List Str} (F : FnG X.prog X.w X.K X.mg X.base j f fd ps (spF X.K P k x)) (hr : Rm j X.A) (hg : Gl X nm) (hm : X.mg nm = some (.ref f))
    (hk : PySem.W.keepIn X.K (.ref f) = true) (hb : Binds X.K fd ps []) (tk : Takes X W) (ha : PA X (e :: es) (tL X.K W cs)) (hdb : (nm == ("__debug__" : Str)) = false) (hp : (e :: es).all plainE = true) :
    PE X (.Call (.Name nm p) (e :: es) [] pos) (tE X.K W fun env => M.bind (cs env) (callF P k x)) := by
  have hp1 : plainE e = true ∧ es.all plainE = true := by simpa using hp
  refine ⟨fun pins t σ H Q I h => ?_⟩
  have h1 := tM.bind (R := RepA X.K) (m := cs) (f := fun _ => callF P k x) h
  refine wpAny_Call_Name_kw (ld_glob I hg hm ?_ hdb)
  refine PySem.W.callWith_K (h₀ := X.base) I.ok.mod.kin hk (thn (ha.run pos pins t σ H _ I h1) ?_) (star_ok hp1.1) (star_any hp1.2)
  rintro us t1 ⟨vs, H1, I1, r, Mm, env, S, ds, rel, ra, po⟩
  exact ⟨I1.kIn, go_fn F hr hb tk I1 r ⟨Mm, S, ds, rel.rs, ra, po⟩⟩

/-! ### built-ins -/
def biN : Bi → Str
  | .len => "len"
  | .int => "int"
  | .bool => "bool"
  | .str => "str"
  | .dict => "dict"
  | .min2 => "min"
  | .max2 => "max"
  | .min1 => "min"
  | .max1 => "max"
  | .sum => "sum"
  | .sorted => "sorted"
  | .tuple => "tuple"
  | .list => "list"
  | .mlist => "list"
  | .all => "all"
  | .any => "any"
  | .repr => "repr"
def biV : Bi → Value
  | .len => .builtin "len"
  | .int => .type "int"
  | .bool => .type "bool"
  | .str => .type "str"
  | .dict => .type "dict"
  | .min2 => .builtin "min"
  | .max2 => .builtin "max"
  | .min1 => .builtin "min"
  | .max1 => .builtin "max"
  | .sum => .builtin "sum"
  | .sorted => .builtin "sorted"
  | .tuple => .type "tuple"
  | .list => .type "list"
  | .mlist => .type "list"
  | .all => .builtin "all"
  | .any => .builtin "any"
  | .repr => .builtin "repr"
omit [PWd] in
theorem boot_bi : ∀ b, bootBuiltins (biN b) = some (biV b) := by
  intro b
  cases b <;> decide +kernel
theorem cr_bi {E : XK} (hw : PWd.P = X.prog ∧ PWd.w = X.w) (hc : X.calm = true) (hu : X.A.units + 67 < cLine) (hgd : X.A.guards = some []) : ∀ b, CallR X (biV b) (rC X.K E (biD b))
  | .len => CallR.of cr_len fun _ _ _ h => rC_b1 h
  | .int => CallR.of cr_intD fun _ _ _ h => rC_b1 h
  | .bool => CallR.of cr_boolD fun _ _ _ h => rC_b1 h
  | .str => CallR.of (cr_strD hgd hu) fun _ _ _ h => rC_b1 h
  | .dict => CallR.of (cr_dictD hc) fun _ _ _ h => rC_b1 h
  | .min2 => CallR.of (cr_min2 hc) fun _ _ _ h => rC_b2 h
  | .max2 => CallR.of (cr_max2 hc) fun _ _ _ h => rC_b2 h
  | .min1 => CallR.of (cr_min1 hc) fun _ _ _ h => rC_b1 h
  | .max1 => CallR.of (cr_max1 hc hu) fun _ _ _ h => rC_b1 h
  | .sum => CallR.of (cr_sumD hc) fun _ _ _ h => rC_b1 h
  | .sorted => CallR.of (cr_sortedD hw hc hu) fun _ _ _ h => rC_b1 h
  | .tuple => CallR.of (cr_tupleD hw hc) fun _ _ _ h => rC_b1 h
  | .list => CallR.of (cr_listD hc) fun _ _ _ h => rC_b1 h
  | .mlist => CallR.of (cr_mlistD hc) fun _ _ _ h => rC_b1 h
  | .all => CallR.of (cr_allD hc) fun _ _ _ h => rC_b1 h
  | .any => CallR.of (cr_anyD hc) fun _ _ _ h => rC_b1 h
  | .repr => CallR.of (cr_reprD hgd hu) fun _ _ _ h => rC_b1 h
theorem rC_bind {g : List D → M D} {σ : L2.St} {H : Hp} {Q : VK} (h : tE X.K W (fun env => M.bind (cs env) g) σ H Q) : tCB (rC X.K (WE W σ) g) (tL X.K W cs) σ H Q := by
  refine (tM.bind (R := RepA X.K) (m := cs) (f := fun _ => g) h).imp ?_
  rintro vs H1 ⟨Mm, env, S, ds, rel, ra, po⟩
  exact ⟨Mm, S, ds, rel.rs, ra, po⟩
theorem e_bi {b : Bi} {p : Pos} (hw : PWd.P = X.prog ∧ PWd.w = X.w) (hc : X.calm = true) (hu : X.A.units + 67 < cLine) (hgd : X.A.guards = some []) (hg : Gl X (biN b)) (hm : X.mg (biN b) = none) (ha : PA X (e :: es) (tL X.K W cs)) (hp : (e :: es).all plainE = true) :
    PE X (.Call (.Name (biN b) p) (e :: es) [] pos) (tE X.K W fun env => M.bind (cs env) (biD b)) := by
  have hp1 : plainE e = true ∧ es.all plainE = true := by simpa using hp
  have hn : biN b ≠ "__name__" := by cases b <;> decide
  have hd : (biN b == ("__debug__" : Str)) = false := by cases b <;> decide
  have hv := boot_bi b
  refine ⟨fun pins s σ H Q I h => ?_⟩
  have hcr := cr_bi (E := WE W σ) hw hc hu hgd b
  have key : (∃ id, biV b = .builtin id) ∨ ∃ T, biV b = .type T := by cases b <;> first | exact .inl ⟨_, rfl⟩ | exact .inr ⟨_, rfl⟩
  rcases key with ⟨id, e1⟩ | ⟨T, e1⟩
  · rw [e1] at hcr hv
    exact (pe_callB hcr hg hm hv ha hn hd (star_ok hp1.1) (star_any hp1.2)).run pins s σ H Q I (rC_bind h)
  · rw [e1] at hcr hv
    exact (pe_callTy hcr hg hm hv ha hn hd (star_ok hp1.1) (star_any hp1.2)).run pins s σ H Q I (rC_bind h)

/-! ### isinstance -/
def tyS : List String := ["int", "str", "tuple", "bool", "list"]
omit [PWd] in
theorem kit_is {p : PyData} {t : String} (h : t ∈ tyS) : kitB (tyOf p) t = some (isTy p t) := by
  simp only [tyS, List.mem_cons, List.mem_nil_iff, or_false] at h
  have k : ∀ a ∈ ["NoneType", "bool", "int", "str", "list", "tuple", "dict"], ∀ t ∈ tyS, kitB a t = some (a == t || (a == "bool" && t == "int")) := by decide +kernel
  refine k (tyOf p) ?_ t (by simp only [tyS, List.mem_cons, List.mem_nil_iff, or_false]; exact h)
  cases p <;> simp [tyOf]
omit [PWd] in
theorem Rp.tyX {K : PySem.W.Frag} {G H : Hp} {v : V} {p : PyData} (r : Rp K G v p) (sg : Sub G H) : TyX K H v (.type (tyOf p)) := by
  cases r with
  | non => exact .base .non
  | bl b => exact .base (.bl b)
  | int i => exact .base (.int i)
  | str x => exact .base (.str x)
  | lst h _ =>
    rcases h with (h | ⟨o, h⟩) | ⟨o, its, n, h, hc, _⟩
    · exact .base (.lst (sg _ _ h))
    · exact .base (.frz (sg _ _ h))
    · exact .kList h hc
  | tup h _ =>
    rcases h with ⟨o, h, _⟩ | ⟨o, its, n, h, hc, _⟩
    · exact .fTuple (sg _ _ h)
    · exact .kTuple h hc
  | dct h _ => exact .fDict (sg _ _ h)
theorem isiK_post {K : PySem.W.Frag} {E : XK} {Mm : MM} {H : Hp} {S : Mem} {v : V} {d : D} {ts : List String} {Q : VK} (rs : RS K Mm H S) (r : Rep K Mm H v d) (po : Post K (Rep K) E Mm H Q (isiK ts d S)) :
    ∃ p, TyX K H v (.type (tyOf p)) ∧ Q (.bl (ts.any (isTy p))) H := by
  unfold isiK at po
  split at po
  · rename_i p hp
    exact ⟨p, (r.reads rs hp).tyX (Sub.refl _), po.use rs (Rp.bl _)⟩
  · exact po.elim
theorem e_isi1 {a : Expr} {ca : Env → M D} {t : String} {p p2 : Pos} {x : Str} (ht : t ∈ tyS) (hx : bootBuiltins x = some (.type t)) (hx2 : x ≠ "__name__") (hx3 : (x == ("__debug__" : Str)) = false) (hg : Gl X "isinstance") (hm : X.mg "isinstance" = none) (hgT : Gl X x) (hmT : X.mg x = none) (hp : plainE a = true) (ha : PE X a (tE X.K W ca)) :
    PE X (.Call (.Name "isinstance" p) [a, .Name x p2] [] pos) (tE X.K W fun env => M.bind (ca env) (isiK [t])) := by
  refine PE.imp (pe_callB call_isi hg hm (by decide +kernel) (pa_cons ha (pa_cons (pe_bltn (v := .ty t) hgT hmT hx rfl hx2 hx3) pa_nil rfl) (star_ok hp)) (by decide) (by decide) (star_ok hp) rfl) fun σ H Q h => ?_
  refine (tM.bind (R := Rep X.K) (m := ca) (f := fun _ => isiK [t]) h).imp ?_
  rintro v H1 ⟨Mm, env, S, d, rel, ra, po⟩
  obtain ⟨q, ty, hq⟩ := isiK_post rel.rs ra po
  refine ⟨v, .ty t, _, .type t, isTy q t, rfl, .ty t, ty, kit_ty (kit_is ht), ?_⟩
  simpa using hq
/-- the classes of a tuple, written -/
def tyNames (es : List Expr) (ts : List String) : Prop := Paired (fun e t => ∃ p, e = Expr.Name (Str.ofString t) p) es ts

/-! ### methods -/
/-- the value is of that built-in type, without a dict of its own -/
def TyN (X : Cx) (T : String) (x : V) (H : Hp) : Prop := ∀ (pins : List (Addr × Obj)) (σ : L2.St) (s : Shared) (v : Value), L2.Inv X pins σ H s → RelV x v → s.TypeIs v T ∧ ∀ a, v = .ref a → ∃ ob, s.heap.get? a = some ob ∧ ob.dict = none
theorem TyN.of {T : String} {x : V} {H : Hp} (h : tyV X.K T x H) : TyN X T x H := fun _ _ _ _ I r => tyV_is I r h
theorem TyN.tup {G H : Hp} {a : Addr} {xs : List V} (h : TupN X.K G a xs) (sg : Sub G H) : TyN X "tuple" (.ref a) H := fun pins σ s v I r => by
  cases r
  rcases h with ⟨o, h, d⟩ | ⟨o, its, n, h, hc, d, _⟩
  · obtain ⟨e, _, its, _, ⟨o2, ho, hc, _⟩⟩ := I.hok a _ (sg _ _ h)
    rw [e] at ho
    cases ho
    refine ⟨⟨o, e, hc⟩, fun b hb => ?_⟩
    cases hb
    exact ⟨o, e, d⟩
  · refine ⟨⟨o, I.kIn a o h, hc⟩, fun b hb => ?_⟩
    cases hb
    exact ⟨o, I.kIn _ o h, d⟩
def tBMN (X : Cx) (T : String) (r : V → List V → Hp → VK → Prop) (to : TE) (t : TA) : TE := fun σ H Q => to σ H fun x H1 => TyN X T x H1 ∧ t σ H1 fun xs H2 => r x xs H2 Q
theorem pe_bmN {o : Expr} {name : Str} {apos : Pos} {T id : String} {r : V → List V → Hp → VK → Prop} {to : TE} {t : TA} (pa : PlainAttrs T) (slot : Slot T name id) (hty : typeOf (.builtin id) = pure (.type "method_descriptor")) (hm : MtR X id r) (ho : PE X o to) (ha : PA X (e :: es) t)
    (hbase : attributeBase o name X.env (eval o X.env) = eval o X.env) (hn : (e :: es).length < 30) (hline : (apos.endLine == pos.line) = true) (hp : (e :: es).all plainE = true) :
    PE X (.Call (.Attribute o name apos) (e :: es) [] pos) (tBMN X T r to t) := by
  have hp1 : plainE e = true ∧ es.all plainE = true := by simpa using hp
  have hs : starEach (e :: es) X.env = _ := star_ok hp1.1
  have hfew : ((backTo pos (starEach (e :: es) X.env)).all (fun x => !x.1) && (backToKw pos (keywordEach [] X.env)).all (fun x => x.1.isSome) && decide ((e :: es).length + ([] : List Keyword).length + (if ([] : List Keyword).isEmpty then 0 else 1) < 30)) = true := by
    rw [star_all hp]
    have h2 : ((e :: es).length + ([] : List Keyword).length + (if ([] : List Keyword).isEmpty then 0 else 1) < 30) := hn
    rw [decide_eq_true h2]
    rfl
  refine ⟨fun pins s σ H Q I h => wpAny_Call_method_late hbase hfew hline rfl (thn (ho.run pins s σ H _ I h) ?_)⟩
  rintro v s1 ⟨x, H1, I1, r1, ty, q1⟩
  obtain ⟨h1, h2⟩ := ty pins σ s1 v I1 r1
  refine ⟨T, id, pa, slot, hty, h1, h2, ?_⟩
  have hA := ha.run pos pins s1 σ H1 _ I1 q1
  rw [hs] at hA ⊢
  refine Calls.callWith_builtin (by show (false || (backTo pos (starEach es X.env)).any (·.1)) = false; rw [star_any hp1.2] <;> rfl) (Calls.evalArgs_plain (thn hA ?_))
  rintro us s2 ⟨vs, H2, I2, r2, q2⟩
  exact hm pins s2 σ H2 x vs v us Q I2 r1 r2 q2
def mtN : Mt → Str
  | .append => "append"
  | .extend => "extend"
  | .pop0 => "pop"
  | .pop1 => "pop"
  | .index => "index"
  | .setdefault => "setdefault"
  | .get2 => "get"
omit [PWd] in
theorem bind_assoc {α β γ : Type} {m : M α} {f : α → M β} {g : β → M γ} : M.bind (M.bind m f) g = M.bind m fun x => M.bind (f x) g := by
  funext S
  unfold M.bind
  cases m S <;> rfl
def lstM : Mt → Bool
  | .append => true
  | .extend => true
  | .pop0 => true
  | .pop1 => true
  | _ => false
theorem rcv_list {K : PySem.W.Frag} {E : XK} {α β : Type} {R : MM → Hp → β → α → Prop} {f : D → M α} {m : Mt} {Mm : MM} {H : Hp} {S : Mem} {d : D} {Q : β → Hp → Prop} (hm : lstM m = true) (po : Post K R E Mm H Q (M.bind (rcvK m d) f S)) :
    ∃ i xs, d = .rf i ∧ S[i]? = some (.lst xs) ∧ Post K R E Mm H Q (f d S) := by
  unfold M.bind rcvK at po
  cases m <;> first | (cases hm; done) | skip
  all_goals
    cases d with
    | im p => exact po.elim
    | rf i =>
      dsimp only at po
      cases h : S[i]? with
      | none => rw [h] at po; exact po.elim
      | some o =>
        rw [h] at po
        cases o with
        | lst xs => exact ⟨i, xs, rfl, h, po⟩
        | dct kvs => exact po.elim
        | fdct kvs => exact po.elim
        | flst kvs => exact po.elim
        | tdc kvs => exact po.elim
        | nl kvs => exact po.elim
        | nd kvs => exact po.elim
        | fnd kvs => exact po.elim
theorem rcv_dict {K : PySem.W.Frag} {E : XK} {α β : Type} {R : MM → Hp → β → α → Prop} {f : D → M α} {m : Mt} {Mm : MM} {H : Hp} {S : Mem} {d : D} {Q : β → Hp → Prop} (hm : m = .setdefault ∨ m = .get2) (po : Post K R E Mm H Q (M.bind (rcvK m d) f S)) :
    ∃ kvs, dctOf S d = some kvs ∧ Post K R E Mm H Q (f d S) := by
  unfold M.bind rcvK at po
  rcases hm with rfl | rfl
  · cases d with
    | im p => exact po.elim
    | rf i =>
      dsimp only at po
      cases h : S[i]? with
      | none => rw [h] at po; exact po.elim
      | some o =>
        rw [h] at po
        cases o with
        | lst xs => exact po.elim
        | dct kvs =>
          refine ⟨kvs, ?_, po⟩
          unfold dctOf
          simp only [h]
        | fdct kvs => exact po.elim
        | flst kvs => exact po.elim
        | tdc kvs => exact po.elim
        | nl kvs => exact po.elim
        | nd kvs => exact po.elim
        | fnd kvs => exact po.elim
  · dsimp only at po
    cases h : dctOf S d with
    | none => rw [h] at po; exact po.elim
    | some kvs => rw [h] at po; exact ⟨kvs, rfl, po⟩
theorem rcv_index {K : PySem.W.Frag} {E : XK} {α β : Type} {R : MM → Hp → β → α → Prop} {f : D → M α} {Mm : MM} {H : Hp} {S : Mem} {d : D} {Q : β → Hp → Prop} (po : Post K R E Mm H Q (M.bind (rcvK .index d) f S)) :
    ∃ xs, seqOf S d = some xs ∧ Post K R E Mm H Q (f d S) := by
  unfold M.bind rcvK at po
  dsimp only at po
  cases h : seqOf S d with
  | none => rw [h] at po; exact po.elim
  | some xs => rw [h] at po; exact ⟨xs, rfl, po⟩
section
variable {a : Expr} {ca : Env → M D}
theorem e_mtL {m : Mt} {id : String} {apos : Pos} {g : D → D → M D} (hm : lstM m = true) (slot : Slot "list" (mtN m) id) (hty : typeOf (.builtin id) = pure (.type "method_descriptor")) (hr : ∀ E, MtR X id (rM1 X.K E g)) (hg : mtD m = fun d => b1 (g d)) (ha : PE X a (tE X.K W ca)) (hs : PA X (e :: es) (tL X.K W cs))
    (hbase : attributeBase a (mtN m) X.env (eval a X.env) = eval a X.env) (hn : (e :: es).length < 30) (hline : (apos.endLine == pos.line) = true) (hp : (e :: es).all plainE = true) :
    PE X (.Call (.Attribute a (mtN m) apos) (e :: es) [] pos) (tE X.K W fun env => M.bind (M.bind (ca env) (rcvK m)) fun x => M.bind (cs env) fun ds => mtD m x ds) := by
  refine ⟨fun pins s σ H Q I h => ?_⟩
  refine (pe_bmN PySem.F.plainAttrs_list slot hty (hr (WE W σ)) ha hs hbase hn hline hp).run pins s σ H Q I ?_
  simp only [bind_assoc] at h
  refine (tM.bind (R := Rep X.K) (m := ca) (f := fun env d => M.bind (rcvK m d) fun x => M.bind (cs env) fun ds => mtD m x ds) h).imp ?_
  rintro x H1 ⟨Mm, env, S, d, rel, ra, po⟩
  obtain ⟨i, xs, rfl, hx, po1⟩ := rcv_list hm po
  obtain ⟨adr, ws, rfl, _, hH, _⟩ := rel.rs.lstAt ra hx
  refine ⟨TyN.of (.inl ⟨rfl, ws, SqL.of hH⟩), Mm, env, S, rel, (Post.bind (R := RepA X.K) po1).imp ?_⟩
  rintro vs H2 ⟨Mm2, S2, ds, ev, rs, rb, po2⟩
  rw [hg] at po2
  exact rM_b1 ⟨Mm2, S2, _, ds, rs, ra.mono ev, rb, po2⟩
theorem e_append {apos : Pos} (ha : PE X a (tE X.K W ca)) (hs : PA X (e :: es) (tL X.K W cs)) (hbase : attributeBase a "append" X.env (eval a X.env) = eval a X.env) (hn : (e :: es).length < 30) (hline : (apos.endLine == pos.line) = true) (hp : (e :: es).all plainE = true) :
    PE X (.Call (.Attribute a "append" apos) (e :: es) [] pos) (tE X.K W fun env => M.bind (M.bind (ca env) (rcvK .append)) fun x => M.bind (cs env) fun ds => mtD .append x ds) :=
  e_mtL (m := .append) (g := appendD) rfl PySem.F.slot_list_append PySem.F.type_list_append (fun E => mt_appendD) rfl ha hs hbase hn hline hp
theorem e_pop1 {apos : Pos} (ha : PE X a (tE X.K W ca)) (hs : PA X (e :: es) (tL X.K W cs)) (hbase : attributeBase a "pop" X.env (eval a X.env) = eval a X.env) (hn : (e :: es).length < 30) (hline : (apos.endLine == pos.line) = true) (hp : (e :: es).all plainE = true) :
    PE X (.Call (.Attribute a "pop" apos) (e :: es) [] pos) (tE X.K W fun env => M.bind (M.bind (ca env) (rcvK .pop1)) fun x => M.bind (cs env) fun ds => mtD .pop1 x ds) :=
  e_mtL (m := .pop1) (g := pop1D) rfl PySem.F.slot_list_pop PySem.F.type_list_pop (fun E => mt_pop1D) rfl ha hs hbase hn hline hp
theorem e_pop0 {apos : Pos} (ha : PE X a (tE X.K W ca)) (hbase : attributeBase a "pop" X.env (eval a X.env) = eval a X.env) (hline : (apos.endLine == pos.line) = true) :
    PE X (.Call (.Attribute a "pop" apos) [] [] pos) (tE X.K W fun env => M.bind (M.bind (ca env) (rcvK .pop0)) fun x => M.bind nilK fun ds => mtD .pop0 x ds) := by
  refine ⟨fun pins s σ H Q I h => ?_⟩
  refine (pe_bm0 PySem.F.plainAttrs_list PySem.F.slot_list_pop PySem.F.type_list_pop (mt_pop0D (E := WE W σ)) ha hbase hline).run pins s σ H Q I ?_
  simp only [bind_assoc] at h
  refine (tM.bind (R := Rep X.K) (m := ca) (f := fun _ d => M.bind (rcvK .pop0 d) fun x => M.bind nilK fun ds => mtD .pop0 x ds) h).imp ?_
  rintro x H1 ⟨Mm, env, S, d, rel, ra, po⟩
  obtain ⟨i, xs, rfl, hx, po1⟩ := rcv_list (m := .pop0) rfl po
  obtain ⟨adr, ws, rfl, _, hH, _⟩ := rel.rs.lstAt ra hx
  exact ⟨.inl ⟨rfl, ws, SqL.of hH⟩, Mm, S, _, [], rel.rs, ra, .nil, po1⟩
theorem TyN.dict {X : Cx} {H : Hp} {a : Addr} {vs : List (Key × V)} (h : Rd H a (.dK vs)) : TyN X "dict" (.ref a) H := fun pins σ s v I r => by
  cases r
  obtain ⟨t1, t2, _⟩ := isD_at I (.inl ⟨vs, h⟩)
  exact ⟨t1, t2⟩
theorem e_mtK {m : Mt} {id : String} {apos : Pos} {g : D → D → D → M D} (hm : m = .setdefault ∨ m = .get2) (slot : Slot "dict" (mtN m) id) (hty : typeOf (.builtin id) = pure (.type "method_descriptor")) (hr : ∀ E, MtR X id (rM2 X.K E g)) (hg : mtD m = fun d => b2 (g d)) (ha : PE X a (tE X.K W ca)) (hs : PA X (e :: es) (tL X.K W cs))
    (hbase : attributeBase a (mtN m) X.env (eval a X.env) = eval a X.env) (hn : (e :: es).length < 30) (hline : (apos.endLine == pos.line) = true) (hp : (e :: es).all plainE = true) :
    PE X (.Call (.Attribute a (mtN m) apos) (e :: es) [] pos) (tE X.K W fun env => M.bind (M.bind (ca env) (rcvK m)) fun x => M.bind (cs env) fun ds => mtD m x ds) := by
  refine ⟨fun pins s σ H Q I h => ?_⟩
  refine (pe_bmN PySem.F.plainAttrs_dict slot hty (hr (WE W σ)) ha hs hbase hn hline hp).run pins s σ H Q I ?_
  simp only [bind_assoc] at h
  refine (tM.bind (R := Rep X.K) (m := ca) (f := fun env d => M.bind (rcvK m d) fun x => M.bind (cs env) fun ds => mtD m x ds) h).imp ?_
  rintro x H1 ⟨Mm, env, S, d, rel, ra, po⟩
  obtain ⟨kvs, hx, po1⟩ := rcv_dict hm po
  obtain ⟨adr, ws, rfl, hH, _⟩ := ra.dctR rel.rs hx
  refine ⟨TyN.dict hH, Mm, env, S, rel, (Post.bind (R := RepA X.K) po1).imp ?_⟩
  rintro vs H2 ⟨Mm2, S2, ds, ev, rs, rb, po2⟩
  rw [hg] at po2
  exact rM_b2 ⟨Mm2, S2, _, ds, rs, ra.mono ev, rb, po2⟩
theorem e_setdefault {apos : Pos} (ha : PE X a (tE X.K W ca)) (hs : PA X (e :: es) (tL X.K W cs)) (hbase : attributeBase a "setdefault" X.env (eval a X.env) = eval a X.env) (hn : (e :: es).length < 30) (hline : (apos.endLine == pos.line) = true) (hp : (e :: es).all plainE = true) :
    PE X (.Call (.Attribute a "setdefault" apos) (e :: es) [] pos) (tE X.K W fun env => M.bind (M.bind (ca env) (rcvK .setdefault)) fun x => M.bind (cs env) fun ds => mtD .setdefault x ds) :=
  e_mtK (m := .setdefault) (g := setdefaultD) (.inl rfl) PySem.F.slot_dict_setdefault PySem.F.type_dict_setdefault (fun E => mt_setdefaultD) rfl ha hs hbase hn hline hp
theorem e_get2 {apos : Pos} (hu : X.A.units + 1 < cLine) (ha : PE X a (tE X.K W ca)) (hs : PA X (e :: es) (tL X.K W cs)) (hbase : attributeBase a "get" X.env (eval a X.env) = eval a X.env) (hn : (e :: es).length < 30) (hline : (apos.endLine == pos.line) = true) (hp : (e :: es).all plainE = true) :
    PE X (.Call (.Attribute a "get" apos) (e :: es) [] pos) (tE X.K W fun env => M.bind (M.bind (ca env) (rcvK .get2)) fun x => M.bind (cs env) fun ds => mtD .get2 x ds) :=
  e_mtK (m := .get2) (g := get2D) (.inr rfl) PySem.F.slot_dict_get PySem.F.type_dict_get (fun E => mt_get2D hu) rfl ha hs hbase hn hline hp
theorem e_index {apos : Pos} (hu : X.A.units + 65 < cLine) (ha : PE X a (tE X.K W ca)) (hs : PA X (e :: es) (tL X.K W cs)) (hbase : attributeBase a "index" X.env (eval a X.env) = eval a X.env) (hn : (e :: es).length < 30) (hline : (apos.endLine == pos.line) = true) (hp : (e :: es).all plainE = true) :
    PE X (.Call (.Attribute a "index" apos) (e :: es) [] pos) (tE X.K W fun env => M.bind (M.bind (ca env) (rcvK .index)) fun x => M.bind (cs env) fun ds => mtD .index x ds) := by
  refine ⟨fun pins s σ H Q I h => ?_⟩
  simp only [bind_assoc] at h
  obtain ⟨Mm0, env0, S0, rel0, po0⟩ := h
  have h1 := Post.bindE (R := Rep X.K) po0
  by_cases ht : ∃ xs S1, ca env0 S0 = .ok (.im (.tuple xs)) S1
  · obtain ⟨xs, S1, e1⟩ := ht
    refine (pe_bmN PySem.F.plainAttrs_tuple PySem.F.slot_tuple_index PySem.F.type_tuple_index (mt_indexTD (E := WE W σ) hu) ha hs hbase hn hline hp).run pins s σ H Q I ⟨Mm0, env0, S0, rel0, h1.imp ?_⟩
    rintro x H1 ⟨Mm, S, d, em, ev, rs, ra, po⟩
    rw [e1] at em
    cases em
    obtain ⟨_, _, po1⟩ := rcv_index po
    obtain ⟨adr, ws, rfl, s1, a1⟩ := ra.tupR (S := S1) rfl
    refine ⟨TyN.tup s1 (fz_sub _ _), Mm, env0, S1, rel0.mono ev rs, (Post.bind (R := RepA X.K) po1).imp ?_⟩
    rintro vs H2 ⟨Mm2, S2, ds, ev2, rs2, rb, po2⟩
    cases rb with
    | nil => exact po2.elim
    | cons r1 rr =>
      cases rr with
      | cons _ _ => exact po2.elim
      | nil => exact ⟨_, Mm2, S2, .im (.tuple xs), _, xs, rfl, rs2, ra.mono ev2, r1, rfl, po2⟩
  · refine (pe_bmN PySem.F.plainAttrs_list PySem.F.slot_list_index PySem.F.type_list_index (mt_indexLD (E := WE W σ) hu) ha hs hbase hn hline hp).run pins s σ H Q I ⟨Mm0, env0, S0, rel0, h1.imp ?_⟩
    rintro x H1 ⟨Mm, S, d, em, ev, rs, ra, po⟩
    obtain ⟨xs, hx, po1⟩ := rcv_index po
    have hl : imOf S d = some (.list xs) := by
      rcases seqOf_some hx with h | h
      · exact h
      · have e2 := im_of_not_list h (fun _ => by simp)
        subst e2
        exact absurd ⟨_, _, em⟩ ht
    obtain ⟨adr, ws, rfl, s1, a1⟩ := ra.listR rs hl
    refine ⟨TyN.of (.inl ⟨rfl, ws, s1⟩), Mm, env0, S, rel0.mono ev rs, (Post.bind (R := RepA X.K) po1).imp ?_⟩
    rintro vs H2 ⟨Mm2, S2, ds, ev2, rs2, rb, po2⟩
    cases rb with
    | nil => exact po2.elim
    | cons r1 rr =>
      cases rr with
      | cons _ _ => exact po2.elim
      | nil =>
        obtain ⟨ys, _, _, h1, _⟩ := indexD_cases (d := d) po2
        rcases seqOf_some h1 with h1 | h1
        · exact ⟨_, Mm2, S2, d, _, ys, rfl, rs2, ra.mono ev2, r1, h1, po2⟩
        · have e2 := im_of_not_list h1 (fun _ => by simp)
          subst e2
          cases hl
end

/-! ### chains of and, or -/
def bopM (k : Bool) (ca cr : Env → M D) (env : Env) : M D := M.bind (ca env) fun r => M.bind (tstD r) fun t => if t = k then cr env else constK (.bool (!k))
section
variable {a b : Expr} {rest : List Expr} {ca cr : Env → M D}
theorem bop_core {k : Bool} {σ : L2.St} {H : Hp} {Q : VK} (h : tE X.K W (bopM k ca cr) σ H Q) : tE X.K W ca σ H fun x H1 => ∃ c, x = .bl c ∧ if c = k then tE X.K W cr σ H1 Q else Q (.bl (!k)) H1 := by
  refine (tM.bind (R := Rep X.K) (m := ca) (f := fun env r => M.bind (tstD r) fun t => if t = k then cr env else constK (.bool (!k))) h).imp ?_
  rintro x H1 ⟨Mm, env, S, d, rel, ra, po⟩
  obtain ⟨c, rfl, rfl, po2⟩ := po.tst' ra
  refine ⟨c, rfl, ?_⟩
  by_cases hc : c = k
  · rw [if_pos hc] at po2 ⊢
    exact ⟨Mm, env, S, rel, po2⟩
  · rw [if_neg hc] at po2 ⊢
    exact po2.use rel.rs (Rp.bl _)
theorem e_and (ha : PE X a (tE X.K W ca)) (hr : PE X (.BoolOp .And (b :: rest) pos) (tE X.K W cr)) : PE X (.BoolOp .And (a :: b :: rest) pos) (tE X.K W (bopM true ca cr)) :=
  PE.imp (pe_and ha hr) fun σ H Q h => (bop_core h).imp fun x H1 ⟨c, e, q⟩ => by
    refine ⟨c, e, ?_⟩
    cases c <;> exact q
theorem e_or (ha : PE X a (tE X.K W ca)) (hr : PE X (.BoolOp .Or (b :: rest) pos) (tE X.K W cr)) : PE X (.BoolOp .Or (a :: b :: rest) pos) (tE X.K W (bopM false ca cr)) :=
  PE.imp (pe_or ha hr) fun σ H Q h => (bop_core h).imp fun x H1 ⟨c, e, q⟩ => by
    refine ⟨c, e, ?_⟩
    cases c <;> exact q
omit [PWd] in
theorem bop_tst {k : Bool} {env : Env} {S : Mem} : M.bind (bopM k ca cr env) tstD S = M.bind (M.bind (ca env) tstD) (fun t => if t = k then M.bind (cr env) tstD else fun S => .ok (!k) S) S := by
  unfold bopM M.bind
  cases ca env S with
  | err c S1 => rfl
  | bad => rfl
  | ok d S1 =>
    dsimp only
    cases h : tstD d S1 with
    | err c S2 => rfl
    | bad => rfl
    | ok t S2 =>
      dsimp only
      by_cases ht : t = k
      · rw [if_pos ht, if_pos ht]
      · rw [if_neg ht, if_neg ht]
        rfl
abbrev tstM (c : Env → M D) (env : Env) : M Bool := M.bind (c env) tstD
theorem bop_tcore {k : Bool} {σ : L2.St} {H : Hp} {Q : Bool → Hp → Prop} (h : tT X.K W (tstM (bopM k ca cr)) σ H Q) : tT X.K W (tstM ca) σ H fun c H1 => if c = k then tT X.K W (tstM cr) σ H1 Q else Q (!k) H1 := by
  obtain ⟨Mm, env, S, rel, po⟩ := h
  have po' : Post X.K RB (WE W σ) Mm H Q (M.bind (bopM k ca cr env) tstD S) := po
  rw [bop_tst] at po'
  refine ⟨Mm, env, S, rel, (Post.bind (R := RB) po').imp ?_⟩
  rintro c H1 ⟨Mm1, S1, c', ev, rs, rb, po1⟩
  cases rb
  by_cases hc : c = k
  · rw [if_pos hc] at po1 ⊢
    exact ⟨Mm1, env, S1, rel.mono ev rs, po1⟩
  · rw [if_neg hc] at po1 ⊢
    exact po1.use rs rfl
theorem w_and (ha : PT X a (tT X.K W (tstM ca))) (hr : PW X (.BoolOp .And (b :: rest) pos) (tT X.K W (tstM cr))) : PW X (.BoolOp .And (a :: b :: rest) pos) (tT X.K W (tstM (bopM true ca cr))) :=
  PW.imp (pw_and ha hr) fun σ H Q h => (bop_tcore h).imp fun c H1 q => by cases c <;> exact q
theorem w_or (ha : PT X a (tT X.K W (tstM ca))) (hr : PW X (.BoolOp .Or (b :: rest) pos) (tT X.K W (tstM cr))) : PW X (.BoolOp .Or (a :: b :: rest) pos) (tT X.K W (tstM (bopM false ca cr))) :=
  PW.imp (pw_or ha hr) fun σ H Q h => (bop_tcore h).imp fun c H1 q => by cases c <;> exact q
end
theorem t_chn {a b c : Expr} {ca cb cc : Env → M D} {op op' : CmpOp} (hu : X.A.units + 66 < cLine) (ha : PE X a (tE X.K W ca)) (hb : PE X b (tE X.K W cb)) (hc : PE X c (tE X.K W cc)) (hm : behindInMarks op' c = false) :
    PT X (.Compare a [op, op'] [b, c] pos) (tT X.K W (tstM (chnM op op' ca cb cc))) := by
  refine ⟨fun pins s σ H Q I h => ?_⟩
  refine (pt_chain (op_cmpD (E := WE W σ) hu op) (op_cmpD (E := WE W σ) hu op') ha hb hc hm).run pins s σ H Q I ?_
  refine chn_core ((tM.bind (R := Rep X.K) (m := chnM op op' ca cb cc) (f := fun _ => tstD) h).imp ?_)
  rintro x H1 ⟨Mm, env, S, d, rel, ra, po⟩
  exact po.tst rel.rs ra
end
end DL
end

section
set_option maxRecDepth 100000
set_option maxHeartbeats 1000000
/-! DS6: zip of a list and a tuple. Ours. -/
namespace DL
open PySem PySem.Spec PyProof.Rows L2 PySem.W
section
variable {prog : Program} {w : World}
/-- the list at a and the tuple at b, the items in new pairs -/
def Izm (K : PySem.W.Frag) (a b : Addr) : L2.It :=
  ⟨fun i H => ∃ (xs ys : List V) (x y : V), SqL K H a xs ∧ SqT K H b ys ∧ xs[i]? = some x ∧ ys[i]? = some y,
    fun i H v H' => ∃ T x y, v = .ref T ∧ H T = none ∧ H' = upd H T (.tup [x, y]) ∧ (∀ xs, SqL K H a xs → xs[i]? = some x) ∧ ∀ ys, SqT K H b ys → ys[i]? = some y,
    fun i H => ∃ xs ys : List V, SqL K H a xs ∧ SqT K H b ys ∧ (i = xs.length ∨ i = ys.length) ∧ i ≤ xs.length ∧ i ≤ ys.length⟩
theorem zm_sep {z TI TO i1 i2 a b : Addr} (D : ZipApart z TI TO i1 i2 a b) : ZipSep2 z TI TO i1 i2 [i1, a] [i2, b] where
  TIz := D.TIz
  TOz := D.TOz
  TITO := D.TITO
  TIi1 := D.TIi1
  mem1 := by simp
  zf1 := by simp [D.i1z.symm, D.l1z.symm]
  Tf1 := by simp [D.TOi1, D.l1TO.symm]
  TIi2 := D.TIi2
  mem2 := by simp
  zf2 := by simp [D.i2z.symm, D.l2z.symm]
  Tf2 := by simp [D.TOi2, D.l2TO.symm]
  sep1_2 := by simp [D.i12, D.l2i1.symm]
  sep2_1 := by simp [D.i12.symm, D.l1i2.symm]
theorem turn_zm {K : PySem.W.Frag} {elts : List Expr} {kk : Nat} {tpos : Pos} {a b z TI TO i1 i2 : Addr} (D : ZipApart z TI TO i1 i2 a b) :
    Turn prog w K (.Tuple elts kk tpos) (Izm K a b) [z, TI, TO, i1, i2] z (fun i h => IsZip h z TI TO .none ∧ IsTupOf2 h TI (.ref i1) (.ref i2) ∧ (∃ x y, IsTupOf2 h TO x y) ∧ h.IsListIter i1 a i ∧ h.IsTupleIter i2 b i) where
  mem := by simp
  obj := fun i h st c hc => by
    obtain ⟨hz, hTI, ⟨x, y, hTO⟩, ⟨o1, e1, _, d1⟩, ⟨o2, e2, _, d2⟩⟩ := st
    rcases (show c = z ∨ c = TI ∨ c = TO ∨ c = i1 ∨ c = i2 by simpa using hc) with q | q | q | q | q
    · rw [q]; exact ⟨_, hz, fun v q => nomatch q⟩
    · rw [q]; exact ⟨_, hTI, fun v q => nomatch q⟩
    · rw [q]; exact ⟨_, hTO, fun v q => nomatch q⟩
    · rw [q]; exact ⟨o1, e1, fun v q => by rw [d1] at q; cases q⟩
    · rw [q]; exact ⟨o2, e2, fun v q => by rw [d2] at q; cases q⟩
  keep := fun i h h' st k =>
    let ⟨hz, hTI, ⟨x, y, hTO⟩, h1, h2⟩ := st
    ⟨k z (by simp) _ hz, k TI (by simp) _ hTI, ⟨x, y, k TO (by simp) _ hTO⟩, h1.at fun o q => k i1 (by simp) o q, h2.at fun o q => k i2 (by simp) o q⟩
  item := by
    rintro X rfl rfl rfl hcalm i pins s σ H E I hf ⟨hz, hTI, ⟨x0, y0, hTO⟩, h1, h2⟩ ⟨xs, ys, x, y, hqx, hqy, hx, hy⟩
    obtain ⟨its, rv, p, _⟩ := I.list hqx
    obtain ⟨its2, rv2, p2, _⟩ := I.tuple hqy
    obtain ⟨u, hu, ru⟩ := rv.get hx
    obtain ⟨u2, hu2, ru2⟩ := rv2.get hy
    have p1 : s.heap.IsList a its.toArray := p.isList
    have p2 : s.heap.IsTuple b its2.toArray := p2
    have hi1 : i < its.toArray.size := by simpa using (List.getElem?_eq_some_iff.mp hu).1
    have hi2 : i < its2.toArray.size := by simpa using (List.getElem?_eq_some_iff.mp hu2).1
    have hzl : z < s.heap.objs.size := Heap.lt_size hz
    refine wpAny_pyNext_zipD2_item (zm_sep D) (Draws.list (A := X.A.in1) (I.ok.hd hcalm) i1 a D.l1i1 its.toArray) (Draws.tuple (A := X.A.in1) (I.ok.hd hcalm) i2 b D.l2i2 its2.toArray) hz hTI hTO ⟨h1, p1⟩ ⟨h2, p2⟩ hi1 hi2 fun v1 v2 h' tk hv1 hv2 z' TO' st1 st2 hT hsz hk => ?_
    have ev1 : v1 = u := by
      have q : its.toArray[i]? = some v1 := hv1
      simp at q
      rw [hu] at q
      exact (Option.some.inj q).symm
    have ev2 : v2 = u2 := by
      have q : its2.toArray[i]? = some v2 := hv2
      simp at q
      rw [hu2] at q
      exact (Option.some.inj q).symm
    subst ev1
    subst ev2
    refine ⟨_, rfl, wpAny_letOwnedTupleGo_zip (s := { s with heap := h', toks := tk }) z' fun h'' z'' sb => ?_⟩
    have hT2 : h''.get? s.heap.objs.size = some { cls := .type "tuple", data := .seq #[v1, v2] } := (sb.2 _ (Nat.ne_of_gt hzl)).trans hT
    have new : ObjOk X.prog X.w (upd H s.heap.objs.size (.tup [x, y])) h'' s.heap.objs.size (.tup [x, y]) :=
      ⟨by show 2 ≤ sizeLine; decide, [v1, v2], .cons ru (.cons ru2 .nil), ⟨_, hT2, rfl, _, rfl⟩⟩
    have I1 : Inv X pins σ (upd H s.heap.objs.size (.tup [x, y])) { s with heap := h'', toks := tk } :=
      I.turnedNew (ch := [z, TI, TO, i1, i2]) (fun c o hb q => (sb.2 c (fun q' => hb (by simp [q']))).trans (hk c o (fun q' => hb (by simp [q'])) (fun q' => hb (by simp [q'])) (fun q' => hb (by simp [q'])) (fun q' => hb (by simp [q'])) q)) hf (Nat.le_refl _) new
    refine ⟨.ref s.heap.objs.size, _, I1, rfl, ⟨_, x, y, rfl, I.hok.fresh (Nat.le_refl _), rfl, fun l hl => by rw [I.list_inj hl hqx]; exact hx, fun l hl => by rw [I.tuple_inj hl hqy]; exact hy⟩, ⟨z'', ?_, ⟨v1, v2, ?_⟩, ?_, ?_⟩, fun c hcm => ?_⟩
    · exact (sb.2 _ D.TIz).trans (hk _ _ D.TIz D.TITO D.TIi1 D.TIi2 hTI)
    · exact (sb.2 _ D.TOz).trans TO'
    · exact st1.1.at fun o q => (sb.2 _ D.i1z).trans q
    · exact st2.1.at fun o q => (sb.2 _ D.i2z).trans q
    · have hlt : c < s.heap.objs.size := by
        rcases (show c = z ∨ c = TI ∨ c = TO ∨ c = i1 ∨ c = i2 by simpa using hcm) with q | q | q | q | q
        · rw [q]; exact hzl
        · rw [q]; exact Heap.lt_size hTI
        · rw [q]; exact Heap.lt_size hTO
        · rw [q]; obtain ⟨_, e1, _⟩ := h1; exact Heap.lt_size e1
        · rw [q]; obtain ⟨_, e2, _⟩ := h2; exact Heap.lt_size e2
      rw [upd_ne (Nat.ne_of_lt hlt)]
      exact (hf c hcm).1
  done := by
    rintro X rfl rfl rfl hcalm i pins s σ H E I hf ⟨hz, hTI, ⟨x0, y0, hTO⟩, h1, h2⟩ ⟨xs, ys, hqx, hqy, hend, hle1, hle2⟩
    obtain ⟨its, rv, p, _⟩ := I.list hqx
    obtain ⟨its2, rv2, p2, _⟩ := I.tuple hqy
    have p1 : s.heap.IsList a its.toArray := p.isList
    have p2 : s.heap.IsTuple b its2.toArray := p2
    have l1 : its.toArray.size = xs.length := by rw [List.size_toArray, ← rv.length]
    have l2 : its2.toArray.size = ys.length := by rw [List.size_toArray, ← rv2.length]
    exact wpAny_pyNext_zipD2_end (zm_sep D) (Draws.list (A := X.A.in1) (I.ok.hd hcalm) i1 a D.l1i1 its.toArray) (Draws.tuple (A := X.A.in1) (I.ok.hd hcalm) i2 b D.l2i2 its2.toArray) hz hTI hTO ⟨h1, p1⟩ ⟨h2, p2⟩ (by omega) (by omega) (by omega) fun h' tk hk => ⟨rfl, I.turnedL (t' := tk) (ch := [z, TI, TO, i1, i2]) (fun c o hb q =>
      hk c o (fun q' => hb (by simp [q'])) (fun q' => hb (by simp [q'])) (fun q' => hb (by simp [q'])) (fun q' => hb (by simp [q'])) q) hf⟩
  self := fun A i s Q E st h => wpAny_pyIter_zip st.1 h
end
section
variable {X : Cx} {W : WX} {pos : Pos}
theorem pi_zm {e e2 : Expr} {ta : TA} {p pos tpos : Pos} {elts : List Expr} {kk : Nat} (hg : Gl X "zip") (hm : X.mg "zip" = none) (ha : PA X [e, e2] ta)
    (hs : starEach [e, e2] X.env = (false, eval e X.env) :: starEach [e2] X.env) (hpl : (backTo pos (starEach [e2] X.env)).any (·.1) = false) :
    PI X (.Tuple elts kk tpos) (.Call (.Name "zip" p) [e, e2] [] pos) (fun σ H R => ta σ H fun vs H1 => ∃ a b xs ys, vs = [.ref a, .ref b] ∧ SqL X.K H1 a xs ∧ SqT X.K H1 b ys ∧ R (Izm X.K a b) H1) := by
  refine ⟨fun pins s σ H R I h => ?_⟩
  refine Call_ (ld_blt I hg hm PyProof.Rows.boot_zip (PyProof.Rows.callWith_type1 (thn (ha.run pos pins s σ H _ I h) fun us s1 ⟨vs, H1, I1, r1, q1⟩ => ?_) hs hpl))
  obtain ⟨a, b, xs, ys, ex, hqx, hqy, q⟩ := q1
  subst ex
  cases r1 with
  | cons r rr =>
    cases rr with
    | cons r' rr =>
      cases rr
      cases r
      cases r'
      have fresh5 : ∀ c, c ∈ [s1.heap.objs.size + 4, s1.heap.objs.size + 2, s1.heap.objs.size + 3, s1.heap.objs.size, s1.heap.objs.size + 1] → FpOk X pins H1 c := fun c hcm => by
        have hle : s1.heap.objs.size ≤ c := by
          rcases (show c = s1.heap.objs.size + 4 ∨ c = s1.heap.objs.size + 2 ∨ c = s1.heap.objs.size + 3 ∨ c = s1.heap.objs.size ∨ c = s1.heap.objs.size + 1 by simpa using hcm) with z | z | z | z | z
          · rw [z]; exact Nat.le_add_right _ _
          · rw [z]; exact Nat.le_add_right _ _
          · rw [z]; exact Nat.le_add_right _ _
          · rw [z]; exact Nat.le_refl _
          · rw [z]; exact Nat.le_add_right _ _
        exact I1.fpOk hle (I1.hok.fresh hle)
      obtain ⟨its, rv, p1, _⟩ := I1.list hqx
      obtain ⟨its2, rv2, p2, _⟩ := I1.tuple hqy
      have p2' : s1.heap.IsTuple b its2.toArray := p2
      obtain ⟨o2, ho2, _⟩ := id p2'
      refine zip_begins2 (begins_list a its.toArray) (begins_tuple b its2.toArray) p1.isList p2' fun h' hz hTI hTO g1 g2 hsz hk => wpAny_pyIter_zip hz ?_
      have I2 : Inv X pins σ H1 { s1 with heap := h' } := I1.kept (t' := s1.toks) hk
      exact ⟨s1.heap.objs.size + 4, [s1.heap.objs.size + 4, s1.heap.objs.size + 2, s1.heap.objs.size + 3, s1.heap.objs.size, s1.heap.objs.size + 1], _, _, H1, rfl, I2, turn_zm (PySem.W.ktu_apart s1.heap.objs.size a b p1.lt (Heap.lt_size ho2)), ⟨hz, hTI, ⟨_, _, hTO⟩, ⟨_, g1, rfl, rfl⟩, ⟨_, g2, rfl, rfl⟩⟩, fresh5, q⟩
end
theorem walk_zm {K : PySem.W.Frag} {a b : Addr} {xs ys : List V} {n : Nat} (hn : n = min xs.length ys.length) : L2.Walk (Izm K a b) n (fun H => SqL K H a xs ∧ SqT K H b ys) (YPair (fun i => xs[i]?) (fun i => ys[i]?)) := by
  refine ⟨fun i _ hi q => ?_, fun _ q => ⟨xs, ys, q.1, q.2, by omega, by omega, by omega⟩, fun i H v H' _ q y => ?_⟩
  · exact ⟨xs, ys, xs[i]'(by omega), ys[i]'(by omega), q.1, q.2, List.getElem?_eq_getElem (by omega), List.getElem?_eq_getElem (by omega)⟩
  · obtain ⟨T, x, y, h1, h2, h3, h4, h5⟩ := y
    exact ⟨T, x, y, h1, h2, h3, h4 xs q.1, h5 ys q.2⟩
end DL
end

section
set_option maxRecDepth 100000
/-! DL10: targets, what is walked, comprehensions. Ours. -/
namespace DL
open PySem PySem.Spec PyProof.Rows L2 PySem.W
variable [PWd]

/-! ### targets -/
def setV : L2.St → List Nat → List V → L2.St
  | σ, i :: is, v :: vs => setV (σ.set i (some v)) is vs
  | σ, _, _ => σ
def tgIs : Tg → List Nat
  | .v i => [i]
  | .t is => is
  | .e i is => i :: is
structure SetIn (is : List Nat) (σ σ' : L2.St) : Prop where
  len : σ'.length = σ.length
  out : ∀ j, j ∉ is → σ'[j]? = σ[j]?
omit [PWd] in
theorem setV_in : ∀ (is : List Nat) (vs : List V) (σ : L2.St), SetIn is σ (setV σ is vs)
  | [], _, σ => ⟨rfl, fun _ _ => rfl⟩
  | _ :: _, [], σ => ⟨rfl, fun _ _ => rfl⟩
  | i :: is, v :: vs, σ => by
    obtain ⟨h1, h2⟩ := setV_in is vs (σ.set i (some v))
    refine ⟨by unfold setV; rw [h1, List.length_set], fun j hj => ?_⟩
    unfold setV
    rw [h2 j (fun z => hj (List.mem_cons_of_mem _ z)), List.getElem?_set_ne (fun z => hj (by rw [z]; exact List.mem_cons_self))]
omit [PWd] in
theorem wipe_get {σ : L2.St} {j : Nat} : ∀ {vs : List Nat}, (wipe σ vs)[j]? = if j ∈ vs ∧ j < σ.length then some none else σ[j]?
  | [] => by simp [wipe]
  | v :: vs => by
    unfold wipe
    by_cases h : v = j
    · subst h
      by_cases hl : v < σ.length
      · rw [List.getElem?_set_self (by rw [wipe_length]; exact hl)]
        simp [hl]
      · rw [List.getElem?_eq_none (by simp [wipe_length]; omega)]
        simp [hl]
    · rw [List.getElem?_set_ne h, wipe_get]
      simp [Ne.symm h]
omit [PWd] in
theorem wipe_in {is vs : List Nat} {σ σ' : L2.St} (h : SetIn is σ σ') (hs : ∀ i ∈ is, i ∈ vs) : wipe σ' vs = wipe σ vs := by
  apply List.ext_getElem?
  intro j
  rw [wipe_get, wipe_get, h.len]
  by_cases hj : j ∈ vs
  · by_cases hl : j < σ.length
    · simp [hj, hl]
    · have h1 : σ[j]? = none := List.getElem?_eq_none (by omega)
      have h2 : σ'[j]? = none := List.getElem?_eq_none (by rw [h.len]; omega)
      simp [hj, hl, h1, h2]
  · simp only [hj, false_and, if_false]
    exact h.out j fun z => hj (hs j z)
section
variable {K : PySem.W.Frag} {Mm : MM} {H : Hp}
theorem Rel.setAll {S : Mem} : ∀ {is : List Nat} {xs : List PyData} {vs : List V} {σ : L2.St} {env : Env}, Rel K Mm H σ env S → RpA K (fz Mm H) vs xs → Rel K Mm H (setV σ is vs) (DL.setAll env is xs) S
  | [], _, _, _, _, r, _ => r
  | _ :: _, [], [], _, _, r, _ => r
  | i :: is, x :: xs, v :: vs, σ, env, r, .cons h t => Rel.setAll (is := is) (r.set (d := .im x) h) t
/-- an item that comes to a target: a tuple that is taken apart at once need not stand still -/
def ItemR (K : PySem.W.Frag) (Mm : MM) (H : Hp) (S : Mem) : Tg → V → D → Prop
  | .v _, v, d => Rep K Mm H v d
  | .t _, v, d => ∀ xs, seqOf S d = some xs → ∃ a vs, v = .ref a ∧ (SqT K H a vs ∨ SqL K H a vs) ∧ RpA K (fz Mm H) vs xs
  | .e _ _, v, d => ∀ xs, seqOf S d = some xs → ∃ a vs, v = .ref a ∧ (SqT K H a vs ∨ SqL K H a vs) ∧ RpA K (fz Mm H) vs xs
theorem Rep.item {S : Mem} {tg : Tg} {v : V} {d : D} (r : Rep K Mm H v d) (rs : RS K Mm H S) : ItemR K Mm H S tg v d := by
  cases tg with
  | v i => exact r
  | t is =>
    intro xs h
    rcases seqOf_some h with h | h
    · obtain ⟨a, vs, e, s1, a1⟩ := r.listR rs h
      exact ⟨a, vs, e, .inr s1, a1⟩
    · obtain ⟨a, vs, e, s1, a1⟩ := r.tupR h
      exact ⟨a, vs, e, .inl (SqT.sub s1.sq (fz_sub _ _)), a1⟩
  | e i is =>
    intro xs h
    rcases seqOf_some h with h | h
    · obtain ⟨a, vs, e, s1, a1⟩ := r.listR rs h
      exact ⟨a, vs, e, .inr s1, a1⟩
    · obtain ⟨a, vs, e, s1, a1⟩ := r.tupR h
      exact ⟨a, vs, e, .inl (SqT.sub s1.sq (fz_sub _ _)), a1⟩
end
def tG (K : PySem.W.Frag) (tg : Tg) : TG := fun v σ H Q => ∃ Mm env S d env', Rel K Mm H σ env S ∧ ItemR K Mm H S tg v d ∧ asgT tg d env S = some env' ∧ ∀ σ', Rel K Mm H σ' env' S → SetIn (tgIs tg) σ σ' → Q σ' H
section
variable {X : Cx} {W : WX} {pos : Pos}
theorem PG.imp {e : Expr} {t t' : TG} (h : PG X e t) (i : ∀ v σ H Q, t' v σ H Q → t v σ H Q) : PG X e t' := ⟨fun pins s σ H v u Q I r q => h.run pins s σ H v u Q I r (i v σ H Q q)⟩
theorem PGs.imp {e : List Expr} {t t' : TGs} (h : PGs X e t) (i : ∀ v σ H Q, t' v σ H Q → t v σ H Q) : PGs X e t' := ⟨fun pins s σ H v u Q I r q => h.run pins s σ H v u Q I r (i v σ H Q q)⟩
/-- a name that may be stored -/
def Sto (X : Cx) (i : Nat) (x : Str) : Prop := X.N[i]? = some x ∧ (X.env.scope.names.lookup x = some .local ∨ (X.env.scope.names.lookup x = some .cell ∧ X.fn x = true))
theorem Sto.loc {i : Nat} {x : Str} (h : Sto X i x) : Loc X.env.scope x := h.2.elim .inl fun h => .inr h.1
theorem Sto.fn {i : Nat} {x : Str} (h : Sto X i x) : X.fn x = true ∨ X.env.scope.names.lookup x = some .local := h.2.elim .inr fun h => .inl h.2
theorem g_v {i : Nat} {x : Str} (hN : X.N.Nodup) (h : Sto X i x) : PG X (.Name x pos) (tG X.K (.v i)) :=
  PG.imp (pg_name hN h.1 h.loc h.fn) fun v σ H Q ⟨Mm, env, S, d, env', rel, it, e, k⟩ => by
    cases e
    exact k _ (rel.set it) (setV_in [i] [v] σ)
/-- the names of a tuple target -/
inductive Stos (X : Cx) : List Expr → List Nat → Prop
  | nil : Stos X [] []
  | cons {i : Nat} {x : Str} {p : Pos} {es : List Expr} {is : List Nat} : Sto X i x → Stos X es is → Stos X (.Name x p :: es) (i :: is)
theorem gs_names (hN : X.N.Nodup) {es : List Expr} {is : List Nat} (h : Stos X es is) : PGs X es (fun vs σ H Q => vs.length = is.length ∧ Q (setV σ is vs) H) := by
  induction h with
  | nil => exact PGs.imp pgs_nil fun vs σ H Q ⟨h1, h2⟩ => ⟨List.eq_nil_of_length_eq_zero h1, h2⟩
  | cons h _ ih =>
    refine PGs.imp (pgs_cons (pg_name hN h.1 h.loc h.fn) ih) fun vs σ H Q ⟨h1, h2⟩ => ?_
    cases vs with
    | nil => cases h1
    | cons v vs => exact ⟨v, vs, rfl, by simpa using h1, h2⟩
theorem stos_each {es : List Expr} {is : List Nat} (h : Stos X es is) : (assignEach es X.env).length = is.length ∧ (assignEach es X.env).findIdx? (·.1) = none := by
  induction h with
  | nil => exact ⟨rfl, rfl⟩
  | cons h _ ih =>
    rename_i i x p es is _
    have e : assignEach (.Name x p :: es) X.env = (false, assign (.Name x p) X.env) :: assignEach es X.env := rfl
    rw [e]
    refine ⟨by simp [ih.1], ?_⟩
    rw [List.findIdx?_cons, ih.2]
    rfl
theorem g_t {es : List Expr} {k : Nat} {is : List Nat} (hc : X.calm = true) (hN : X.N.Nodup) (h : Stos X es is) : PG X (.Tuple es k pos) (tG X.K (.t is)) := by
  obtain ⟨h1, h2⟩ := stos_each h
  refine ⟨fun pins s σ H v u Q I r ⟨Mm, env, S, d, env', rel, it, e, kq⟩ => ?_⟩
  have hit : ∀ xs, seqOf S d = some xs → ∃ a vs, v = .ref a ∧ (SqT X.K H a vs ∨ SqL X.K H a vs) ∧ RpA X.K (fz Mm H) vs xs := it
  unfold asgT at e
  dsimp only at e
  split at e
  · rename_i xs hx
    split at e
    · rename_i hl
      cases e
      obtain ⟨a, vs, rfl, sq, ra⟩ := hit xs hx
      have q : Q (setV σ is vs) H := kq _ (rel.setAll ra) (setV_in is vs σ)
      have hl2 : vs.length = is.length := by rw [ra.length]; exact hl
      rcases sq with sq | sq
      · exact (pg_tup hc (gs_names hN h) h1 h2).run pins s σ H _ u Q I r ⟨a, vs, rfl, sq, hl2, hl2, q⟩
      · exact (pg_lst hc (gs_names hN h) h1 h2).run pins s σ H _ u Q I r ⟨a, vs, rfl, sq, hl2, hl2, q⟩
    · cases e
  · cases e
theorem g_e {es : List Expr} {k k2 : Nat} {i : Nat} {x : Str} {p p2 : Pos} {is : List Nat} (hc : X.calm = true) (hN : X.N.Nodup) (hx : Sto X i x) (h : Stos X es is) : PG X (.Tuple [.Name x p, .Tuple es k2 p2] k pos) (tG X.K (.e i is)) := by
  obtain ⟨h1, h2⟩ := stos_each h
  refine ⟨fun pins s σ H v u Q I r ⟨Mm, env, S, d, env', rel, it, e, kq⟩ => ?_⟩
  have hit : ∀ xs, seqOf S d = some xs → ∃ a vs, v = .ref a ∧ (SqT X.K H a vs ∨ SqL X.K H a vs) ∧ RpA X.K (fz Mm H) vs xs := it
  unfold asgT at e
  dsimp only at e
  split at e
  · rename_i y ys hy
    split at e
    · rename_i hl
      cases e
      obtain ⟨a, vs, rfl, sq, ra⟩ := hit _ hy
      cases ra with
      | cons r1 ra2 =>
        rename_i v1 vs2
        cases ra2 with
        | cons r2 ra3 =>
          rename_i v2 vs3
          cases ra3
          cases r2 with
          | tup ht rw' =>
            rename_i a2 ws
            have q : Q (setV σ (i :: is) (v1 :: ws)) H := kq _ (rel.setAll (.cons r1 rw')) (setV_in (i :: is) (v1 :: ws) σ)
            have hl2 : ws.length = is.length := by rw [rw'.length]; exact hl
            have gs : PGs X [.Name x p, .Tuple es k2 p2] _ := pgs_cons (pg_name hN hx.1 hx.loc hx.fn) (pgs_cons (pg_tup (k := k2) (pos := p2) hc (gs_names hN h) h1 h2) pgs_nil)
            have fin : gCons (gName i) (gCons (fun v σ H Q => ∃ a xs, v = .ref a ∧ SqT X.K H a xs ∧ xs.length = is.length ∧ (xs.length = is.length ∧ Q (setV σ is xs) H)) gNil) [v1, .ref a2] σ H Q := ⟨v1, _, rfl, .ref a2, _, rfl, a2, ws, rfl, SqT.sub ht.sq (fz_sub _ _), hl2, hl2, rfl, q⟩
            have e1 : (assignEach [.Name x p, .Tuple es k2 p2] X.env).length = 2 := rfl
            have e2 : (assignEach [.Name x p, .Tuple es k2 p2] X.env).findIdx? (·.1) = none := rfl
            rcases sq with sq | sq
            · exact (pg_tup hc gs e1 e2).run pins s σ H _ u Q I r ⟨a, _, rfl, sq, rfl, fin⟩
            · exact (pg_lst hc gs e1 e2).run pins s σ H _ u Q I r ⟨a, _, rfl, sq, rfl, fin⟩
    · cases e
  · cases e

/-! ### what is walked -/
def JOk (K : PySem.W.Frag) (tg : Tg) (Mm : MM) (H : Hp) (J : L2.It) (items : List D) : Prop :=
  ∃ (G : Hp → Prop) (Y : Nat → Hp → V → Hp → Prop), L2.Walk J items.length G Y ∧ (∀ Mm2 H2, Sub (fz Mm H) (fz Mm2 H2) → G H2) ∧
    ∀ i Mm2 H2 S2 x H3, i < items.length → Sub (fz Mm H) (fz Mm2 H2) → RS K Mm2 H2 S2 → Y i H2 x H3 → ∃ d, items[i]? = some d ∧ Ev Mm2 H2 Mm2 H3 ∧ RS K Mm2 H3 S2 ∧ ItemR K Mm2 H3 S2 tg x d
abbrev tI (K : PySem.W.Frag) (W : WX) (tg : Tg) (c : Env → M (List D)) : TI := tM K W (β := L2.It) (JOk K tg) c
theorem PI.imp {tg it : Expr} {t t' : TI} (h : PI X tg it t) (i : ∀ σ H Q, t' σ H Q → t σ H Q) : PI X tg it t' := ⟨fun pins s σ H R I q => h.run pins s σ H R I (i σ H R q)⟩
section
variable {K : PySem.W.Frag} {tg : Tg} {Mm : MM} {H : Hp} {a : Addr} {vs : List V} {xs : List PyData}
theorem jok_list (h : SqL K (fz Mm H) a vs) (ra : RpA K (fz Mm H) vs xs) : JOk K tg Mm H (Itl K a) (xs.map .im) := by
  refine ⟨fun H => SqL K H a vs, YAt vs, ?_, fun Mm2 H2 e => SqL.sub h (e.trans (fz_sub _ _)), fun i Mm2 H2 S2 x H3 hi e rs y => ?_⟩
  · rw [List.length_map, ← ra.length]
    exact walk_list
  · obtain ⟨rfl, hx⟩ := y
    obtain ⟨p, hp, rp⟩ := ra.get' hx
    have r : Rep K Mm2 H3 x (.im p) := Rp.mono e rp
    exact ⟨.im p, by simp [hp], Ev.refl, rs, r.item rs⟩
theorem jok_tup (h : SqT K (fz Mm H) a vs) (ra : RpA K (fz Mm H) vs xs) : JOk K tg Mm H (Itt K a) (xs.map .im) := by
  refine ⟨fun H => SqT K H a vs, YAt vs, ?_, fun Mm2 H2 e => SqT.sub h (e.trans (fz_sub _ _)), fun i Mm2 H2 S2 x H3 hi e rs y => ?_⟩
  · rw [List.length_map, ← ra.length]
    exact walk_tup
  · obtain ⟨rfl, hx⟩ := y
    obtain ⟨p, hp, rp⟩ := ra.get' hx
    have r : Rep K Mm2 H3 x (.im p) := Rp.mono e rp
    exact ⟨.im p, by simp [hp], Ev.refl, rs, r.item rs⟩
theorem jok_rng {lo : Int} {n : Nat} : JOk K tg Mm H (Itr lo n) (rngL lo n) := by
  refine ⟨fun _ => True, YFn fun i => .int (lo + i), ?_, fun _ _ _ => trivial, fun i Mm2 H2 S2 x H3 hi e rs y => ?_⟩
  · have e : (rngL lo n).length = n := by simp [rngL]
    rw [e]
    exact walk_range
  · obtain ⟨rfl, rfl⟩ := y
    have r : Rep K Mm2 H3 (.int (lo + (i : Nat))) (.im (.int (lo + (i : Nat)))) := Rp.int _
    have hn : i < n := by simpa [rngL] using hi
    exact ⟨_, by simp [rngL, hn], Ev.refl, rs, r.item rs⟩
/-- a pair that is new at each turn -/
theorem item_pair {Mm2 : MM} {H2 : Hp} {S2 : Mem} {is : List Nat} {T : Addr} {x y : V} {p q : PyData} (rs : RS K Mm2 H2 S2) (hT : H2 T = none) (rp : Rp K (fz Mm2 H2) x p) (rq : Rp K (fz Mm2 H2) y q) :
    Ev Mm2 H2 Mm2 (upd H2 T (.tup [x, y])) ∧ RS K Mm2 (upd H2 T (.tup [x, y])) S2 ∧ ItemR K Mm2 (upd H2 T (.tup [x, y])) S2 (.t is) (.ref T) (.im (.tuple [p, q])) := by
  refine ⟨Ev.new rs hT, rs.new hT, fun zs hz => ?_⟩
  have e : zs = [p, q] := by
    rcases seqOf_some hz with h | h
    · cases h
    · cases h; rfl
  subst e
  exact ⟨T, [x, y], rfl, .inl (SqT.of upd_same), .cons (rp.mono (sub_new rs hT)) (.cons (rq.mono (sub_new rs hT)) .nil)⟩
theorem pairs_at {K : PySem.W.Frag} {tg : Tg} {is : List Nat} {Mm : MM} {H : Hp} {n : Nat} {J : L2.It} {G : Hp → Prop} {f g : Nat → Option V} {xs ys : List PyData} (w : L2.Walk J n G (YPair f g)) (hn : n = min xs.length ys.length)
    (hG : ∀ Mm2 H2, Sub (fz Mm H) (fz Mm2 H2) → G H2) (hf : ∀ i x, f i = some x → ∃ p, xs[i]? = some p ∧ Rp K (fz Mm H) x p) (hg : ∀ i y, g i = some y → ∃ q, ys[i]? = some q ∧ Rp K (fz Mm H) y q) :
    JOk K (.t is) Mm H J ((List.zip xs ys).map fun p => D.im (.tuple [p.1, p.2])) := by
  refine ⟨G, YPair f g, ?_, hG, fun i Mm2 H2 S2 x H3 hi e rs y => ?_⟩
  · rw [List.length_map, List.length_zip, ← hn]
    exact w
  · obtain ⟨T, u, v, rfl, hT, rfl, h1, h2⟩ := y
    obtain ⟨p, hp, rp⟩ := hf i u h1
    obtain ⟨q, hq, rq⟩ := hg i v h2
    obtain ⟨e1, e2, e3⟩ := item_pair (is := is) rs hT (rp.mono e) (rq.mono e)
    refine ⟨.im (.tuple [p, q]), ?_, e1, e2, e3⟩
    rw [List.getElem?_map, (List.getElem?_zip_eq_some (z := (p, q))).mpr ⟨hp, hq⟩]
    rfl
omit [PWd] in
theorem walk_zipT {K : PySem.W.Frag} {a b : Addr} {xs ys : List V} {n : Nat} (hn : n = min xs.length ys.length) : L2.Walk (RZ.ItzT K a b) n (fun H => SqT K H a xs ∧ SqT K H b ys) (YPair (fun i => xs[i]?) (fun i => ys[i]?)) := by
  subst hn
  refine ⟨fun i _ hi q => ?_, fun _ q => ⟨xs, ys, q.1, q.2, by omega⟩, fun i H v H' _ q y => ?_⟩
  · exact ⟨xs, ys, xs[i]'(by omega), ys[i]'(by omega), q.1, q.2, List.getElem?_eq_getElem _, List.getElem?_eq_getElem _⟩
  · obtain ⟨T, x, z, h1, h2, h3, h4, h5⟩ := y
    exact ⟨T, x, z, h1, h2, h3, h4 xs q.1, h5 ys q.2⟩
section
variable {tg : Tg} {te a b : Expr} {ca cb : Env → M D}
/-- a dict that stays as it is, walked by its keys -/
theorem jok_keys {K : PySem.W.Frag} {tg : Tg} {Mm : MM} {H : Hp} {a : Addr} {o : Obj} {vs : List (Key × V)} {kvs : List (PyData × PyData)} (h : fz Mm H a = some (.frz o (.dK vs))) (ra : RpK K (fz Mm H) vs kvs) : JOk K tg Mm H (Itk a o vs) (kvs.map fun e => .im e.1) := by
  refine ⟨fun H => H a = some (.frz o (.dK vs)), fun i H x H' => H' = H ∧ ∃ k v, vs[i]? = some (k, v) ∧ x = kV k, ?_, fun Mm2 H2 e => (fz_sub _ _) _ _ (e _ _ h), fun i Mm2 H2 S2 x H3 hi e rs y => ?_⟩
  · rw [List.length_map, ← ra.length]
    exact walk_keys
  · obtain ⟨rfl, k, v, hk, rfl⟩ := y
    have r : Rep K Mm2 H3 (kV k) (.im (kP k)) := rp_kV k
    refine ⟨.im (kP k), ?_, Ev.refl, rs, r.item rs⟩
    have e2 := congrArg (fun l => l[i]?) ra.keys
    simp only [List.getElem?_map] at e2
    rw [hk] at e2
    rw [List.getElem?_map]
    cases hq : kvs[i]? with
    | none => rw [hq] at e2; cases e2
    | some q =>
      rw [hq] at e2
      have e3 : q.1 = kP k := Option.some.inj e2
      rw [Option.map_some, e3]
theorem jok_keysN {K : PySem.W.Frag} {tg : Tg} {Mm : MM} {H : Hp} {a : Addr} {o : Obj} {vs : List (Key × V)} {kvs : List (PyData × D)} {Mm0 : MM} {H0 : Hp} (h : fz Mm H a = some (.frz o (.dK vs))) (ra : RepK K Mm0 H0 vs kvs) : JOk K tg Mm H (Itk a o vs) (kvs.map fun e => .im e.1) := by
  refine ⟨fun H => H a = some (.frz o (.dK vs)), fun i H x H' => H' = H ∧ ∃ k v, vs[i]? = some (k, v) ∧ x = kV k, ?_, fun Mm2 H2 e => (fz_sub _ _) _ _ (e _ _ h), fun i Mm2 H2 S2 x H3 hi e rs y => ?_⟩
  · rw [List.length_map, ← ra.length]
    exact walk_keys
  · obtain ⟨rfl, k, v, hk, rfl⟩ := y
    have r : Rep K Mm2 H3 (kV k) (.im (kP k)) := rp_kV k
    refine ⟨.im (kP k), ?_, Ev.refl, rs, r.item rs⟩
    have e2 := congrArg (fun l => l[i]?) ra.keys
    simp only [List.getElem?_map] at e2
    rw [hk] at e2
    rw [List.getElem?_map]
    cases hq : kvs[i]? with
    | none => rw [hq] at e2; cases e2
    | some q =>
      rw [hq] at e2
      have e3 : q.1 = kP k := Option.some.inj e2
      rw [Option.map_some, e3]
theorem i_ex (ha : PE X a (tE X.K W ca)) : PI X te a (tI X.K W tg fun env => M.bind (ca env) exK) := by
  refine ⟨fun pins s σ H R I h => ?_⟩
  obtain ⟨Mm0, env0, S0, rel0, po0⟩ := h
  have h1 := Post.bindE (R := Rep X.K) po0
  by_cases ht : ∃ xs S1, ca env0 S0 = .ok (.im (.tuple xs)) S1
  · obtain ⟨xs, S1, e1⟩ := ht
    refine (pi_tup ha).run pins s σ H R I ⟨Mm0, env0, S0, rel0, h1.imp ?_⟩
    rintro x H1 ⟨Mm, S, d, em, ev, rs, ra, po⟩
    rw [e1] at em
    cases em
    obtain ⟨adr, ws, rfl, s1, a1⟩ := ra.tupR (S := S1) rfl
    exact ⟨adr, rfl, ⟨ws, SqT.sub s1.sq (fz_sub _ _)⟩, Post.use (R := JOk X.K tg) (a := xs.map .im) po rs (jok_tup s1.sq a1)⟩
  · by_cases hd : ∃ kvs S1, ca env0 S0 = .ok (.im (.dict kvs)) S1
    · obtain ⟨kvs, S1, e1⟩ := hd
      refine (pi_keys ha).run pins s σ H R I ⟨Mm0, env0, S0, rel0, h1.imp ?_⟩
      rintro x H1 ⟨Mm, S, d, em, ev, rs, ra, po⟩
      rw [e1] at em
      cases em
      cases ra with
      | dct h a1 => exact ⟨_, _, rfl, .inl ⟨_, (fz_sub _ _) _ _ h, Post.use (R := JOk X.K tg) (a := kvs.map fun e => .im e.1) po rs (jok_keys h a1)⟩⟩
    · refine (pi_list ha).run pins s σ H R I ⟨Mm0, env0, S0, rel0, h1.imp ?_⟩
      rintro x H1 ⟨Mm, S, d, em, ev, rs, ra, po⟩
      unfold exK at po
      split at po
      · rename_i xs
        cases ra with
        | lst s1 a1 => exact ⟨_, rfl, ⟨_, SqL.sub s1 (fz_sub _ _)⟩, Post.use (R := JOk X.K tg) (a := xs.map .im) po rs (jok_list s1 a1)⟩
      · exact absurd ⟨_, _, em⟩ ht
      · exact absurd ⟨_, _, em⟩ hd
      · exact po.elim
theorem two_of {K : PySem.W.Frag} {Mm : MM} {H : Hp} {vs : List V} {i j : Int} (ra : RepA K Mm H vs [.im (.int i), .im (.int j)]) : vs = [.int i, .int j] := by
  cases ra with
  | cons r1 rr =>
    cases rr with
    | cons r2 r3 =>
      cases r3
      cases r1
      cases r2
      rfl
theorem i_rng1 {cs : Env → M (List D)} {p : Pos} (hg : Gl X "range") (hm : X.mg "range" = none) (hs : PA X [a] (tL X.K W cs)) (hl : ∀ env S ds S', cs env S = .ok ds S' → ds.length = 1) (hp : plainE a = true) : PI X te (.Call (.Name "range" p) [a] [] pos) (tI X.K W tg fun env => M.bind (cs env) rngK) := by
  have hst : starEach [a] X.env = [(false, eval a X.env)] := star_ok hp
  refine PI.imp (pi_range1 hg hm hs hst) fun σ H R h => ?_
  refine (tM.bindE (R := RepA X.K) (m := cs) (f := fun _ => rngK) h).imp ?_
  rintro vs H1 ⟨Mm, env, S0, S, ds, e, rel, ra, po⟩
  have h1 := hl _ _ _ _ e
  unfold rngK at po
  split at po
  · rename_i n
    split at po
    · rename_i c
      cases ra with
      | cons r1 rr =>
        cases rr
        cases r1
        exact ⟨n, rfl, by omega, by omega, Post.use (R := JOk X.K tg) (a := rngL 0 n.toNat) po rel.rs jok_rng⟩
    · exact po.elim
  · cases h1
  · exact po.elim
theorem i_rng2 {cs : Env → M (List D)} {p : Pos} (hg : Gl X "range") (hm : X.mg "range" = none) (hs : PA X [a, b] (tL X.K W cs)) (hl : ∀ env S ds S', cs env S = .ok ds S' → ds.length = 2) (hp : plainE a = true) (hp2 : plainE b = true) : PI X te (.Call (.Name "range" p) [a, b] [] pos) (tI X.K W tg fun env => M.bind (cs env) rngK) := by
  have hst2 : starEach [b] X.env = [(false, eval b X.env)] := star_ok hp2
  have hst : starEach [a, b] X.env = [(false, eval a X.env), (false, eval b X.env)] := by
    rw [star_ok hp, hst2]
  refine PI.imp (pi_range2 hg hm hs hst hst2) fun σ H R h => ?_
  refine (tM.bindE (R := RepA X.K) (m := cs) (f := fun _ => rngK) h).imp ?_
  rintro vs H1 ⟨Mm, env, S0, S, ds, e, rel, ra, po⟩
  have h1 := hl _ _ _ _ e
  unfold rngK at po
  split at po
  · cases h1
  · rename_i l n
    split at po
    · rename_i c
      have e2 := two_of ra
      exact ⟨l, n, e2, by omega, Post.use (R := JOk X.K tg) (a := rngL l (n - l).toNat) po rel.rs jok_rng⟩
    · exact po.elim
  · exact po.elim
end
section
variable {a b : Expr} {ca cb : Env → M D}
theorem i_zp {es : List Expr} {k : Nat} {p tp : Pos} {is : List Nat} (hg : Gl X "zip") (hm : X.mg "zip" = none) (ha : PE X a (tE X.K W ca)) (hb : PE X b (tE X.K W cb)) (hp : plainE a = true) (hp2 : plainE b = true) :
    PI X (.Tuple es k tp) (.Call (.Name "zip" p) [a, b] [] pos) (tI X.K W (.t is) fun env => M.bind (ca env) fun x => M.bind (cb env) fun y => zpK x y) := by
  refine ⟨fun pins s σ H R I h => ?_⟩
  obtain ⟨Mm0, env0, S0, rel0, po0⟩ := id h
  by_cases hz : ∃ xs S1 ys S2, ca env0 S0 = .ok (.im (.list xs)) S1 ∧ cb env0 S1 = .ok (.im (.tuple ys)) S2
  · obtain ⟨xs, S1, ys, S2, e1, e2⟩ := hz
    refine (pi_zm hg hm (pa_cons ha (pa_cons hb pa_nil (star_ok hp2)) (star_ok hp)) (star_ok hp) (star_any (by simp [hp2]))).run pins s σ H R I ⟨Mm0, env0, S0, rel0, (Post.bindE (R := Rep X.K) po0).imp ?_⟩
    rintro v H1 ⟨Mm, S, d, em, ev, rs, ra, po⟩
    rw [e1] at em
    cases em
    refine ⟨Mm, env0, _, rel0.mono ev rs, (Post.bindE (R := Rep X.K) po).imp ?_⟩
    rintro w H2 ⟨Mm2, S3, d2, em2, ev2, rs2, rb, po2⟩
    rw [e2] at em2
    cases em2
    have ra2 := ra.mono ev2
    cases ra2 with
    | lst s1 a1 =>
      cases rb with
      | tup s2 a2 =>
        refine ⟨_, _, _, _, rfl, SqL.sub s1 (fz_sub _ _), SqT.sub s2.sq (fz_sub _ _), Post.use (R := JOk X.K (.t is)) (a := zpL xs ys) po2 rs2 ?_⟩
        exact pairs_at (tg := .t is) (walk_zm rfl) (by rw [a1.length, a2.length]) (fun Mm3 H3 e3 => ⟨SqL.sub s1 (e3.trans (fz_sub _ _)), SqT.sub s2.sq (e3.trans (fz_sub _ _))⟩) (fun i x h => a1.get' h) (fun i x h => a2.get' h)
  refine (RZ.pi_zipA hg hm (pa_cons ha (pa_cons hb pa_nil (star_ok hp2)) (star_ok hp)) (star_ok hp) (star_any (by simp [hp2]))).run pins s σ H R I ?_
  refine (show tM X.K W (Rep X.K) ca σ H _ from ⟨Mm0, env0, S0, rel0, (Post.bindE (R := Rep X.K) po0).imp ?_⟩)
  rintro v H1 ⟨Mm, S, d, em, ev, rs, ra, po⟩
  refine ⟨Mm, env0, S, rel0.mono ev rs, (Post.bindE (R := Rep X.K) po).imp ?_⟩
  rintro w H2 ⟨Mm2, S2, d2, em2, ev, rs, rb, po2⟩
  have ra2 := ra.mono ev
  unfold zpK at po2
  split at po2
  · rename_i xs ys
    cases ra2 with
    | lst s1 a1 =>
      cases rb with
      | lst s2 a2 =>
        refine ⟨_, _, _, _, rfl, .inl ⟨SqL.sub s1 (fz_sub _ _), SqL.sub s2 (fz_sub _ _), Post.use (R := JOk X.K (.t is)) (a := zpL xs ys) po2 rs ?_⟩⟩
        exact pairs_at (tg := .t is) (walk_zip rfl) (by rw [a1.length, a2.length]) (fun Mm3 H3 e3 => ⟨SqL.sub s1 (e3.trans (fz_sub _ _)), SqL.sub s2 (e3.trans (fz_sub _ _))⟩) (fun i x h => a1.get' h) (fun i x h => a2.get' h)
  · rename_i xs ys
    cases ra2 with
    | tup s1 a1 =>
      cases rb with
      | tup s2 a2 =>
        refine ⟨_, _, _, _, rfl, .inr ⟨SqT.sub s1.sq (fz_sub _ _), SqT.sub s2.sq (fz_sub _ _), Post.use (R := JOk X.K (.t is)) (a := zpL xs ys) po2 rs ?_⟩⟩
        exact pairs_at (tg := .t is) (walk_zipT rfl) (by rw [a1.length, a2.length]) (fun Mm3 H3 e3 => ⟨SqT.sub s1.sq (e3.trans (fz_sub _ _)), SqT.sub s2.sq (e3.trans (fz_sub _ _))⟩) (fun i x h => a1.get' h) (fun i x h => a2.get' h)
  · exact absurd ⟨_, _, _, _, em, em2⟩ hz
  · exact po2.elim
end

/-! ### comprehensions -/
/-- one turn's meaning: the test, then the item -/
def turnM (ct ce : Env → M D) (env' : Env) : M (Option PyData) := M.bind (ct env') fun r => M.bind (tstD r) fun t => if t = true then M.bind (ce env') itemK else skipK
def turnF (own : List Nat) (tg : Tg) (ct ce : Env → M D) (env : Env) (d : D) : M (Option PyData) := fun S => match asgT tg d (wipeE env own) S with
  | some env' => turnM ct ce env' S
  | none => .bad
def cmprM (own : List Nat) (tg : Tg) (ci : Env → M (List D)) (ct ce : Env → M D) (env : Env) : M D := M.bind (ci env) fun items => cmprK (turnF own tg ct ce env) items
abbrev W0 : WX := fun _ _ _ _ => False
end
end
omit [PWd] in
theorem wipe_idem (σ : L2.St) (vs : List Nat) : wipe (wipe σ vs) vs = wipe σ vs := by
  apply List.ext_getElem?
  intro j
  rw [wipe_get, wipe_length, wipe_get]
  by_cases h : j ∈ vs ∧ j < σ.length
  · simp [h]
  · simp [h]
section
variable {K : PySem.W.Frag} {Mm Mm1 : MM} {H H1 : Hp} {σ : L2.St} {env : Env} {S S1 : Mem}
theorem Rep.monoW {v : V} {d : D} (r : Rep K Mm H v d) (hm : ∃ n, Mm1.m = Mm.m ++ n) (hs : Sub (fz Mm H) (fz Mm1 H1)) : Rep K Mm1 H1 v d := by
  cases d with
  | im p => exact Rp.mono hs r
  | rf i =>
    obtain ⟨a, h1, h2⟩ := r
    obtain ⟨n, e⟩ := hm
    refine ⟨a, h1, ?_⟩
    obtain ⟨hi, _⟩ := List.getElem?_eq_some_iff.mp h2
    rw [e, List.getElem?_append_left hi]
    exact h2
theorem Rel.monoW (r : Rel K Mm H σ env S) (hm : ∃ n, Mm1.m = Mm.m ++ n) (hs : Sub (fz Mm H) (fz Mm1 H1)) (s : RS K Mm1 H1 S1) : Rel K Mm1 H1 σ env S1 :=
  ⟨s, fun i d h => let ⟨v, h1, h2⟩ := r.er i d h; ⟨v, h1, h2.monoW hm hs⟩, r.ln⟩
/-- the walk of a comprehension: the accumulator hidden -/
structure LcP (K : PySem.W.Frag) (f : D → M (Option PyData)) (items : List D) (Mm1 : MM) (H1 : Hp) (D0 : Addr) (yz : List PyData) (Sf : Mem) (i : Nat) (H : Hp) (Mm : MM) (S : Mem) (acc : List V) (ys zs : List PyData) : Prop where
  more : ∃ n, Mm = ⟨Mm1.m ++ n, Mm1.z⟩
  hid : ∀ b ∈ Mm1.z, H b = H1 b
  sub : Sub (fz Mm1 H1) (fz (Mm.hide D0) H)
  rs : RS K (Mm.hide D0) H S
  at_ : H D0 = some (.lst acc)
  ra : RpA K (fz (Mm.hide D0) H) acc ys
  run : compL f (items.drop i) S = .ok zs Sf
  all : yz = ys ++ zs
  len : ys.length ≤ i
omit [PWd] in
theorem compL_cons {f : D → M (Option PyData)} {d : D} {r : List D} {zs : List PyData} {Sf : Mem} (h : compL f (d :: r) S = .ok zs Sf) :
    ∃ o S2 ws, f d S = .ok o S2 ∧ compL f r S2 = .ok ws Sf ∧ zs = (match o with | some y => y :: ws | none => ws) := by
  unfold compL M.bind at h
  cases e : f d S with
  | err c S2 => rw [e] at h; cases h
  | bad => rw [e] at h; cases h
  | ok o S2 =>
    rw [e] at h
    dsimp only at h
    cases e2 : compL f r S2 with
    | err c S3 => rw [e2] at h; cases h
    | bad => rw [e2] at h; cases h
    | ok ws S3 =>
      rw [e2] at h
      cases h
      exact ⟨o, S2, ws, rfl, e2, rfl⟩
omit [PWd] in
theorem turnM_ok {ct ce : Env → M D} {o : Option PyData} {S2 : Mem} (h : turnM ct ce env S = .ok o S2) :
    ∃ t Sa, M.bind (ct env) tstD S = .ok t Sa ∧ ((t = true ∧ ∃ p, ce env Sa = .ok (.im p) S2 ∧ o = some p) ∨ (t = false ∧ o = none ∧ S2 = Sa)) := by
  unfold turnM M.bind at h
  unfold M.bind
  cases e : ct env S with
  | err c S2 => rw [e] at h; cases h
  | bad => rw [e] at h; cases h
  | ok d S1 =>
    rw [e] at h
    dsimp only at h ⊢
    cases e2 : tstD d S1 with
    | err c S2 => rw [e2] at h; cases h
    | bad => rw [e2] at h; cases h
    | ok t Sa =>
      rw [e2] at h
      dsimp only at h
      refine ⟨t, Sa, rfl, ?_⟩
      cases t with
      | false =>
        simp only [Bool.false_eq_true, if_false] at h
        cases h
        exact .inr ⟨rfl, rfl, rfl⟩
      | true =>
        simp only [if_true] at h
        cases e3 : ce env Sa with
        | err c S2 => rw [e3] at h; cases h
        | bad => rw [e3] at h; cases h
        | ok y Sb =>
          rw [e3] at h
          dsimp only at h
          cases y with
          | rf i => cases h
          | im p => cases h; exact .inl ⟨rfl, p, rfl, rfl⟩
end
theorem lc_tD {K : PySem.W.Frag} {W : WX} {own : List Nat} {tg : Tg} {ci : Env → M (List D)} {ct ce : Env → M D} (hv : ∀ i ∈ tgIs tg, i ∈ own) {σ : L2.St} {H : Hp} {Q : VK} (h : tE K W (cmprM own tg ci ct ce) σ H Q) :
    tLc (tI K W tg ci) (tG K tg) (tT K W0 (tstM ct)) (tE K W0 ce) own σ H Q := by
  refine (tM.bind (R' := Rep K) (R := JOk K tg) (m := ci) (f := fun env items => cmprK (turnF own tg ct ce env) items) h).imp ?_
  rintro J H1 ⟨Mm1, env, S1, items, rel, jok, po⟩ D0 hD0
  obtain ⟨G, Y, wk, hG, hY⟩ := jok
  unfold cmprK at po
  split at po
  case isFalse => exact po.elim
  rename_i hlen
  cases hrun : compL (turnF own tg ct ce env) items S1 with
  | err c S2 => rw [hrun] at po; exact po.elim
  | bad => rw [hrun] at po; exact po.elim
  | ok yz Sf =>
  rw [hrun] at po
  refine lc_it wk (fun i H => ∃ Mm S acc ys zs, LcP K (turnF own tg ct ce env) items Mm1 H1 D0 yz Sf i H Mm S acc ys zs) ?_ ?_ ?_ ?_
  · refine ⟨Mm1, S1, [], [], yz, ⟨[], by cases Mm1; simp⟩, fun b hb => upd_ne (rel.rs.ne_z hD0 hb), by rw [fz_hide (o := .lst []) hD0 rfl]; exact Sub.refl _, rel.rs.hide hD0 rfl, upd_same, .nil, hrun, rfl, Nat.le_refl _⟩
  · rintro i H2 _ ⟨Mm, S, acc, ys, zs, p⟩
    exact hG _ _ p.sub
  · rintro i x H2 H3 hi ⟨Mm, S, acc, ys, zs, p⟩ y
    obtain ⟨d, hd, ev3, rs3, it3⟩ := hY i (Mm.hide D0) H2 S x H3 hi p.sub p.rs y
    have hD3 : H3 D0 = some (.lst acc) := (ev3.hid D0 List.mem_cons_self).trans p.at_
    have hdrop : items.drop i = d :: items.drop (i + 1) := by
      obtain ⟨hi2, e⟩ := List.getElem?_eq_some_iff.mp hd
      rw [List.drop_eq_getElem_cons hi2, e]
    have hrun2 := p.run
    rw [hdrop] at hrun2
    obtain ⟨o, S2, ws, hf, hrest, hzs⟩ := compL_cons hrun2
    unfold turnF at hf
    split at hf
    case h_2 => cases hf
    rename_i env' ha
    obtain ⟨n, hn⟩ := p.more
    have rel3 : Rel K (Mm.hide D0) H3 (wipe σ own) (wipeE env own) S := (rel.wipe own).monoW ⟨n, by rw [hn]; rfl⟩ (p.sub.trans ev3.sub) rs3
    refine ⟨Mm.hide D0, wipeE env own, S, d, env', rel3, it3, ha, fun σ' rel' hin => ⟨by rw [wipe_in hin hv, wipe_idem], ?_⟩⟩
    obtain ⟨t, Sa, ht, hcase⟩ := turnM_ok hf
    refine ⟨Mm.hide D0, env', S, rel', ?_⟩
    rw [show tstM ct env' S = .ok t Sa from ht]
    intro Mm4 H4 b ev4 rs4 rb
    cases rb
    have key : ∀ {Mm5 : MM} {H5 : Hp} {S5 : Mem}, Ev (Mm.hide D0) H3 Mm5 H5 → RS K Mm5 H5 S5 → ∃ Mm6 : MM, Mm5 = Mm6.hide D0 ∧ (∃ n, Mm6 = ⟨Mm1.m ++ n, Mm1.z⟩) ∧ (∀ b ∈ Mm1.z, H5 b = H1 b) ∧ Sub (fz Mm1 H1) (fz (Mm6.hide D0) H5) ∧ H5 D0 = some (.lst acc) ∧ RpA K (fz (Mm6.hide D0) H5) acc ys := fun {Mm5 H5 S5} ev5 rs5 => by
      obtain ⟨n5, e5⟩ := ev5.more
      have hz : ∀ b ∈ Mm1.z, b ∈ (Mm.hide D0).z := fun b hb => by
        show b ∈ D0 :: Mm.z
        rw [hn]
        exact List.mem_cons_of_mem _ hb
      refine ⟨⟨Mm.m ++ n5, Mm.z⟩, e5, ⟨n ++ n5, by rw [hn]; simp⟩, fun b hb => ?_, ?_, ?_, ?_⟩
      · rw [ev5.hid b (hz b hb), ev3.hid b (hz b hb), p.hid b hb]
      · have := (p.sub.trans ev3.sub).trans ev5.sub
        rw [e5] at this
        exact this
      · rw [ev5.hid D0 List.mem_cons_self]
        exact hD3
      · have := p.ra.mono (ev3.sub.trans ev5.sub)
        rw [e5] at this
        exact this
    rcases hcase with ⟨rfl, q, hce, rfl⟩ | ⟨rfl, rfl, rfl⟩
    · simp only [if_true]
      refine ⟨Mm4, env', Sa, rel'.mono ev4 rs4, ?_⟩
      rw [hce]
      intro Mm5 H5 y5 ev5 rs5 rp5
      obtain ⟨Mm6, rfl, h1, h2, h3, h4, h5⟩ := key (ev4.trans ev5) rs5
      have hz : D0 ∈ (Mm6.hide D0).z := List.mem_cons_self
      have hne : ∀ b ∈ Mm1.z, b ≠ D0 := fun b hb => rel.rs.ne_z hD0 hb
      refine ⟨acc, h4, by rw [h5.length]; have := p.len; omega, Mm6, S2, acc ++ [y5], ys ++ [q], ws, h1, fun b hb => by rw [upd_ne (hne b hb)]; exact h2 b hb, h3.trans (sub_hupd hz ⟨_, h4, rfl⟩), rs5.hupd hz ⟨_, h4, rfl⟩, upd_same, ?_, hrest, ?_, ?_⟩
      · exact (h5.append (.cons rp5 .nil)).mono (sub_hupd hz ⟨_, h4, rfl⟩)
      · rw [p.all, hzs]
        simp
      · have := p.len
        simp
        omega
    · simp only [Bool.false_eq_true, if_false]
      obtain ⟨Mm6, rfl, h1, h2, h3, h4, h5⟩ := key ev4 rs4
      exact ⟨Mm6, S2, acc, ys, ws, h1, h2, h3, rs4, h4, h5, hrest, by rw [p.all, hzs], Nat.le_succ_of_le p.len⟩
  · rintro H2 ⟨Mm, S, acc, ys, zs, p⟩
    have hr := p.run
    rw [List.drop_length] at hr
    cases hr
    have hy : yz = ys := by rw [p.all, List.append_nil]
    subst hy
    obtain ⟨n, hn⟩ := p.more
    have rs' := p.rs.show_
    refine po.use' ⟨⟨n, hn⟩, p.hid, p.sub.trans sub_show⟩ rs' ?_
    refine Rp.lst (Or.inl (Or.inl ?_)) (p.ra.mono sub_show)
    refine fz_some.mpr ⟨fun hm => ?_, p.at_⟩
    exfalso
    have nd := List.nodup_append.mp (show (Mm.m ++ (D0 :: Mm.z)).Nodup from p.rs.nd)
    rcases List.mem_append.mp hm with hm | hm
    · exact nd.2.2 D0 hm D0 List.mem_cons_self rfl
    · exact (List.nodup_cons.mp nd.2.1).1 hm
theorem PTs.imp {X : Cx} {ifs : List Expr} {t t' : TT} (h : PTs X ifs t) (i : ∀ σ H Q, t' σ H Q → t σ H Q) : PTs X ifs t' := ⟨fun pins s σ H Q I q => h.run pins s σ H Q I (i σ H Q q)⟩
theorem ts_nil {X : Cx} {W : WX} : PTs X [] (tT X.K W (tstM fun _ => constK (.bool true))) := PTs.imp pts_nil fun σ H Q ⟨Mm, env, S, rel, po⟩ => Post.use (R := RB) (a := true) po rel.rs rfl
theorem ts_one {X : Cx} {W : WX} {c : Expr} {cc : Env → M D} (h : PT X c (tT X.K W (tstM cc))) : PTs X [c] (tT X.K W (tstM cc)) := pts_one h
section
variable {X : Cx} {W : WX} {elt tge iter : Expr} {ifs : List Expr} {scope : Scope} {own : List (Str × Nat)} {pos : Pos} {tg : Tg} {ci : Env → M (List D)} {ct ce : Env → M D}
/-- the block's contexts -/
abbrev Blk (X : Cx) (scope : Scope) (C : Cx → Prop) : Prop := ∀ (s : Shared) (H : Hp) (C' : Addr) (cl : List (Str × Addr)) (fp : List Addr), C (X.blk s H scope (compEnvC scope cl C' X.env) fp)
theorem e_lc (hc : X.calm = true) (hN : X.N.Nodup) (hv : ∀ i ∈ tgIs tg, i ∈ own.map (·.2)) (hi : PI X tge iter (tI X.K W tg ci)) (ok : BlkOk X.N X.env.scope scope own)
    (hg : Blk X scope fun X' => PG X' tge (tG X.K tg)) (ht : Blk X scope fun X' => PTs X' ifs (tT X.K W0 (tstM ct))) (he : Blk X scope fun X' => PE X' elt (tE X.K W0 ce)) (hs : setE iter = false) :
    PE X (.ListComp elt [⟨tge, iter, ifs, 0⟩] scope pos) (tE X.K W (cmprM (own.map (·.2)) tg ci ct ce)) :=
  PE.imp (pe_lc hc hN hi ok hg ht he (fold_ok hs)) fun σ H Q h => lc_tD hv h
end
end DL
end

section
set_option maxRecDepth 100000
/-! DL11: statements. Ours. -/
namespace DL
open PySem PySem.Spec PyProof.Rows L2 PySem.W
variable [PWd]

def SPost (K : PySem.W.Frag) (W : WX) (D : Ends) (Mm : MM) (H : Hp) : SR → Prop
  | .nx env S => ∀ Mm' H' σ', Ev Mm H Mm' H' → Rel K Mm' H' σ' env S → D.nx σ' H'
  | .bk env S => ∀ Mm' H' σ', Ev Mm H Mm' H' → Rel K Mm' H' σ' env S → D.bk σ' H'
  | .ct env S => ∀ Mm' H' σ', Ev Mm H Mm' H' → Rel K Mm' H' σ' env S → D.ct σ' H'
  | .rt d S => ∀ Mm' H' v, Ev Mm H Mm' H' → RS K Mm' H' S → Rep K Mm' H' v d → D.rt v H'
  | .er c env S => ∀ Mm' H' σ' cls, Ev Mm H Mm' H' → Rel K Mm' H' σ' env S → ErrIs K c cls → W cls none σ' H'
  | .bad => False
section
variable {K : PySem.W.Frag} {W : WX} {D D' : Ends} {Mm Mm1 : MM} {H H1 : Hp} {σ : L2.St} {env : Env} {S S1 : Mem}
theorem SPost.mono {r : SR} (h : SPost K W D Mm H r) (e : Ev Mm H Mm1 H1) : SPost K W D Mm1 H1 r := by
  cases r with
  | nx env S => exact fun Mm' H' σ' e' => h Mm' H' σ' (e.trans e')
  | bk env S => exact fun Mm' H' σ' e' => h Mm' H' σ' (e.trans e')
  | ct env S => exact fun Mm' H' σ' e' => h Mm' H' σ' (e.trans e')
  | rt d S => exact fun Mm' H' σ' e' => h Mm' H' σ' (e.trans e')
  | er c env S => exact fun Mm' H' σ' cls e' => h Mm' H' σ' cls (e.trans e')
  | bad => exact h
/-- a value, then the rest -/
theorem SPost.lift {α β : Type} {c : Env → M α} {f : α → Mem → SR} {R : MM → Hp → β → α → Prop} {Q : β → Hp → Prop} (rel : Rel K Mm H σ env S) (h : SPost K W D Mm H (liftE env (c env S) f))
    (g : ∀ d S1 Mm1 H1 b, c env S = .ok d S1 → Ev Mm H Mm1 H1 → RS K Mm1 H1 S1 → R Mm1 H1 b d → SPost K W D Mm1 H1 (f d S1) → Q b H1) : Post K R (WE W σ) Mm H Q (c env S) := by
  unfold liftE at h
  revert h g
  cases e : c env S with
  | ok d S1 => exact fun h g Mm1 H1 b ev rs rb => g d S1 Mm1 H1 b rfl ev rs rb (h.mono ev)
  | err x S1 => exact fun h g Mm1 H1 cls ev rs ei => h Mm1 H1 σ cls ev (rel.mono ev rs) ei
  | bad => exact fun h g => h
end
/-- the reading of a statement -/
def tS (K : PySem.W.Frag) (W : WX) (c : Env → Mem → SR) : TS := fun D σ H => ∃ Mm env S, Rel K Mm H σ env S ∧ SPost K W D Mm H (c env S)
section
variable {X : Cx} {W : WX} {pos : Pos}
theorem PS.imp {e : Stmt} {t t' : TS} (h : PS X e t) (i : ∀ D σ H, t' D σ H → t D σ H) : PS X e t' := ⟨fun pins s σ H D I q => h.run pins s σ H D I (i D σ H q)⟩
theorem PSs.imp {e : List Stmt} {t t' : TS} (h : PSs X e t) (i : ∀ D σ H, t' D σ H → t D σ H) : PSs X e t' := ⟨fun pins s σ H D I q => h.run pins s σ H D I (i D σ H q)⟩
def asgM (tg : Tg) (ce : Env → M D) (env : Env) (S : Mem) : SR := liftE env (ce env S) fun d S1 => match asgT tg d env S1 with
  | some env' => .nx env' S1
  | none => .bad
theorem asg_tD {K : PySem.W.Frag} {tg : Tg} {ce : Env → M D} {D : Ends} {σ : L2.St} {H : Hp} (h : tS K W (asgM tg ce) D σ H) : tAsg (tE K W ce) (tG K tg) D σ H := by
  obtain ⟨Mm, env, S, rel, po⟩ := h
  refine ⟨Mm, env, S, rel, SPost.lift (c := ce) rel po fun d S1 Mm1 H1 b _ ev rs rb po1 => ?_⟩
  cases ha : asgT tg d env S1 with
  | none => rw [ha] at po1; exact po1.elim
  | some env' =>
    rw [ha] at po1
    exact ⟨Mm1, env, S1, d, env', rel.mono ev rs, rb.item rs, ha, fun σ' rel' _ => po1 Mm1 H1 σ' Ev.refl rel'⟩
omit [PWd] in
theorem sole_ok {tg e : Expr} {l : Nat} {env : PySem.Env} (h : compE e = false) : swapsWithSole [tg] e l env = pure false := swap_ok h
def tupE : Expr → Bool
  | .Tuple .. => true
  | _ => false
omit [PWd] in
theorem stores_ok {tg : List Expr} {e : Expr} {env : PySem.Env} (h : tupE e = false) : swappedStores tg e env = pure none := by
  unfold swappedStores
  cases e <;> first | exact Bool.noConfusion h | skip
  all_goals
    split
    · rename_i h
      split at h <;> first | contradiction | (cases h; contradiction)
    · rfl
/-- a tuple that is made ahead of all: of constants -/
def fldB : Expr → Bool
  | .Tuple vs _ _ => vs.all (foldedForSure 8)
  | _ => false
omit [PWd] in
theorem stores_fold {ts : List Expr} {kt : Nat} {pt : Pos} {e : Expr} {env : PySem.Env} (h : fldB e = true) : swappedStores [.Tuple ts kt pt] e env = pure none := by
  unfold fldB at h
  split at h
  · rename_i vs k2 pt2
    unfold swappedStores
    simp only [h, if_true]
    repeat' (first | rfl | split)
  · cases h
omit [PWd] in
theorem stores_two {x y : Str} {a b : Expr} {px py pt pt2 : Pos} {kt k2 : Nat} {env : PySem.Env} (hx : env.kindOf x = some .local) (hy : env.kindOf y = some .local) (hl : px.line = py.line) (h1 : (x == y) = false) (h2 : (y == x) = false) (hk : env.blockKind = .function)
    (ha : plainE a = true) (hb : plainE b = true) (hf : [a, b].all (foldedForSure 8) = false) (hc : [a, b].all (constantsAlone 8) = false) : swappedStores [.Tuple [.Name x px, .Name y py] kt pt] (.Tuple [a, b] k2 pt2) env = pure (some [x, y]) := by
  unfold swappedStores
  have k : ∀ e : Expr, plainE e = true → (match e with | .Starred .. => true | _ => false) = false := fun e h => by cases e <;> first | rfl | exact Bool.noConfusion h
  have sa := k a ha
  have sb := k b hb
  have n : ([Expr.Name x px, Expr.Name y py].filterMap fun | .Name id pos => (if env.kindOf id == some .local && pos.line == px.line then some id else none) | _ => none) = [x, y] := by
    simp [List.filterMap, hx, hy, hl]
  have d : ([x, y] : List Str).eraseDups.length = 2 := by simp [List.eraseDups, List.eraseDupsBy, List.eraseDupsBy.loop, h1, h2]
  simp [List.filterMap, hx, hy, hl, d, Expr.pos, hk, hf, hc, sa, sb]
  intro h
  exfalso
  rcases h with h | h
  · clear sa sb hf hc
    cases a <;> first | exact Bool.noConfusion ha | exact Bool.noConfusion h
  · clear sa sb hf hc
    cases b <;> first | exact Bool.noConfusion hb | exact Bool.noConfusion h
def parM (i j : Nat) (cs : Env → M (List D)) (env : Env) (S : Mem) : SR := liftE env (cs env S) fun ds S1 => match ds with
  | [x, y] => .nx ((env.set i (some x)).set j (some y)) S1
  | _ => .bad
theorem s_par {i j : Nat} {x y : Str} {a b : Expr} {px py pt pt2 : Pos} {kt k2 : Nat} {cs : Env → M (List D)} (hc : X.calm = true) (hN : X.N.Nodup) (hi : X.N[i]? = some x) (hj : X.N[j]? = some y) (hij : i ≠ j)
    (hx : X.env.scope.names.lookup x = some .local) (hy : X.env.scope.names.lookup y = some .local) (ha : PA X [a, b] (tL X.K W cs))
    (hw : swappedStores [.Tuple [.Name x px, .Name y py] kt pt] (.Tuple [a, b] k2 pt2) X.env = pure (some [x, y])) :
    PS X (.Assign [.Tuple [.Name x px, .Name y py] kt pt] (.Tuple [a, b] k2 pt2) pos) (tS X.K W (parM i j cs)) :=
  PS.imp (ps_par hc hN hi hj hij hx hy ha hw) fun D σ H h => by
    obtain ⟨Mm, env, S, rel, po⟩ := h
    refine ⟨Mm, env, S, rel, SPost.lift (R := RepA X.K) (c := cs) rel po fun ds S1 Mm1 H1 vs _ ev rs rb po1 => ?_⟩
    cases rb with
    | nil => exact po1.elim
    | cons r1 t =>
      cases t with
      | nil => exact po1.elim
      | cons r2 t =>
        cases t with
        | cons r3 t => exact po1.elim
        | nil => exact ⟨_, _, rfl, po1 Mm1 H1 _ Ev.refl (((rel.mono ev rs).set r1).set r2)⟩
theorem s_asgF {es : List Expr} {k : Nat} {tpos : Pos} {e : Expr} {is : List Nat} {ce : Env → M D} (hc : X.calm = true) (hN : X.N.Nodup) (hs : Stos X es is) (he : PE X e (tE X.K W ce)) (h1 : compE e = false) (h2 : fldB e = true) :
    PS X (.Assign [.Tuple es k tpos] e pos) (tS X.K W (asgM (.t is) ce)) :=
  PS.imp (ps_asg he (g_t hc hN hs) (sole_ok h1) (stores_fold h2)) fun D σ H h => asg_tD h
theorem s_asgT {es : List Expr} {k : Nat} {tpos : Pos} {e : Expr} {is : List Nat} {ce : Env → M D} (hc : X.calm = true) (hN : X.N.Nodup) (hs : Stos X es is) (he : PE X e (tE X.K W ce)) (h1 : compE e = false) (h2 : tupE e = false) :
    PS X (.Assign [.Tuple es k tpos] e pos) (tS X.K W (asgM (.t is) ce)) :=
  PS.imp (ps_asg he (g_t hc hN hs) (sole_ok h1) (stores_ok h2)) fun D σ H h => asg_tD h
theorem s_set {i : Nat} {x : Str} {npos : Pos} {e : Expr} {ce : Env → M D} (hN : X.N.Nodup) (hs : Sto X i x) (he : PE X e (tE X.K W ce)) (h1 : swapsWith e (some (.Name x npos)) pos.line X.env = pure false) :
    PS X (.Assign [.Name x npos] e pos) (tS X.K W (asgM (.v i) ce)) :=
  PS.imp (ps_set hN hs.1 hs.loc he h1 hs.fn) fun D σ H h => (asg_tD h).imp fun x H1 q => by
    obtain ⟨Mm, env, S, d, env', rel, it, e, k⟩ := q
    cases e
    exact k _ (rel.set it) (setV_in [i] [x] σ)
theorem s_setLc {i : Nat} {y : Str} {py : Pos} {elt tge iter : Expr} {ifs : List Expr} {scope : Scope} {own : List (Str × Nat)} {lpos : Pos} {tg : Tg} {ci : Env → M (List D)} {ct ce : Env → M D} (hc : X.calm = true) (hN : X.N.Nodup) (hy : X.N[i]? = some y) (hyl : X.env.scope.names.lookup y = some .local)
    (hsw : swapsWith (.ListComp elt [⟨tge, iter, ifs, 0⟩] scope lpos) (some (.Name y py)) pos.line X.env = pure true) (hv : ∀ i ∈ tgIs tg, i ∈ own.map (·.2)) (hi : PI X tge iter (tI X.K W tg ci)) (ok : BlkOk X.N X.env.scope scope own)
    (hg : Blk X scope fun X' => PG X' tge (tG X.K tg)) (ht : Blk X scope fun X' => PTs X' ifs (tT X.K W0 (tstM ct))) (he : Blk X scope fun X' => PE X' elt (tE X.K W0 ce)) (hs : setE iter = false) :
    PS X (.Assign [.Name y py] (.ListComp elt [⟨tge, iter, ifs, 0⟩] scope lpos) pos) (tS X.K W (asgM (.v i) (cmprM (own.map (·.2)) tg ci ct ce))) :=
  PS.imp (ps_setLc hc hN hy hyl hsw hi ok hg ht he (fold_ok hs)) fun D σ H h => by
    have h2 : tE X.K W (cmprM (own.map (·.2)) tg ci ct ce) σ H (fun x H1 => gName i x σ H1 D.nx) := (asg_tD h).imp fun x H1 q => by
      obtain ⟨Mm, env, S, d, env', rel, it, e, k⟩ := q
      cases e
      exact k _ (rel.set it) (setV_in [i] [x] σ)
    exact lc_tD hv h2
def subM (co ci ce : Env → M D) (env : Env) (S : Mem) : SR := liftE env (ce env S) fun v S1 => liftE env (co env S1) fun x S2 => liftE env (ci env S2) fun k S3 => match setD x k v S3 with
  | some S4 => .nx env S4
  | none => .bad
omit [PWd] in
theorem ixN_of {n : Nat} {k : Int} (h0 : 0 ≤ k) (h1 : k < n) : ixN n k = some k.toNat := by
  unfold ixN
  first
    | (rw [if_pos h0, if_pos (by omega)])
    | (simp [h0, h1])
    | (split <;> simp_all <;> omega)
/-- o[i] = v by values: a list or a dict -/
def rSetD (K : PySem.W.Frag) : TSet := fun o i v H Q => ∃ Mm S x k d S4, RS K Mm H S ∧ Rep K Mm H o x ∧ Rep K Mm H i k ∧ Rep K Mm H v d ∧ setD x k d S = some S4 ∧ ∀ H', Ev Mm H Mm H' → RS K Mm H' S4 → Q H'
theorem set_D (hw : PWd.P = X.prog ∧ PWd.w = X.w) (hu : X.A.units + 1 < cLine) : PSet X (rSetD X.K) := by
  rintro pins s σ H o i v ov iv u Q I ro ri rv ⟨Mm, S, x, k, d, S4, rs, rx, rk, rd, h, q⟩
  unfold setD at h
  split at h
  · rename_i r kk p
    split at h
    · rename_i xs j hx
      split at h
      · rename_i hk
        cases h
        cases rk
        obtain ⟨adr, rfl, ha⟩ := rx
        obtain ⟨vs, hH, ra⟩ := rs.ob r adr _ ha hx
        have hm := List.mem_of_getElem? ha
        have hl := ra.length
        refine set_list pins s σ H (.ref adr) (.int j) v ov iv u Q I ro ri rv ⟨adr, vs, j, j.toNat, rfl, rfl, hH, ixN_of hk.1 (by omega), q _ (Ev.set rs hm ⟨_, hH, rfl⟩) (rs.set ha ⟨_, hH, rfl⟩ ⟨_, upd_same, (ra.set rd _).mono (sub_set hm ⟨_, hH, rfl⟩)⟩)⟩
      · split at h
        · rename_i hk
          cases h
          cases rk
          obtain ⟨adr, rfl, ha⟩ := rx
          obtain ⟨vs, hH, ra⟩ := rs.ob r adr _ ha hx
          have hm := List.mem_of_getElem? ha
          have hl := ra.length
          refine set_list pins s σ H (.ref adr) (.int j) v ov iv u Q I ro ri rv ⟨adr, vs, j, (j + xs.length).toNat, rfl, rfl, hH, ?_, q _ (Ev.set rs hm ⟨_, hH, rfl⟩) (rs.set ha ⟨_, hH, rfl⟩ ⟨_, upd_same, (ra.set rd _).mono (sub_set hm ⟨_, hH, rfl⟩)⟩)⟩
          unfold ixN
          rw [if_neg (by omega), if_pos (by omega), hl]
        · cases h
    · rename_i kvs hx
      split at h
      · rename_i hk
        cases h
        obtain ⟨j, rfl⟩ := isKy_some hk.1
        obtain ⟨adr, vs, rfl, ha, hH, ra⟩ := rs.dctAt rx hx
        have hm := List.mem_of_getElem? ha
        obtain rfl : ov = Value.ref adr := ro
        have ek : i = kV j := Rp.ky (K := X.K) rk
        exact d_setItem hu I (.inl ⟨vs, j, hH, ek, by rw [ra.length]; exact hk.2, rfl⟩) ri rv fun s' I' => ⟨_, I', q _ (Ev.set rs hm ⟨_, hH, rfl⟩) (rs.set ha ⟨_, hH, rfl⟩ ⟨_, upd_same, (ra.put rd).mono (sub_set hm ⟨_, hH, rfl⟩)⟩)⟩
      · cases h
    · rename_i kvs hx
      split at h
      · rename_i j hj
        split at h
        · rename_i hl
          cases h
          have e2 := ktup_some hj
          subst e2
          obtain ⟨adr, rfl, ha⟩ := rx
          obtain ⟨xs, hH, ra⟩ := rs.ob r adr _ ha hx
          rw [hw.1, hw.2] at hH
          have hm := List.mem_of_getElem? ha
          obtain rfl : ov = Value.ref adr := ro
          obtain ⟨b, rfl, tb⟩ := Rp.keyU rk
          obtain rfl : iv = Value.ref b := ri
          refine td_setItem hu I hH ra (fz_sub _ _) (tb.sub (fz_sub _ _)).sq (by rw [ra.length]; exact hl) fun s' I' => ⟨_, I', q _ (Ev.set rs hm ⟨_, hH, rfl⟩) (rs.set ha ⟨_, hH, rfl⟩ ⟨storedH xs j b u, ?_, (ra.put rk rv rd).mono (sub_set hm ⟨_, hH, rfl⟩)⟩)⟩
          rw [hw.1, hw.2]
          exact upd_same
        · cases h
      · cases h
    · cases h
  · cases h
theorem s_sub {o i e : Expr} {tpos : Pos} {co ci ce : Env → M D} (hw : PWd.P = X.prog ∧ PWd.w = X.w) (hu : X.A.units + 1 < cLine) (ho : PE X o (tE X.K W co)) (hi : PE X i (tE X.K W ci)) (he : PE X e (tE X.K W ce)) (h1 : compE e = false)
    (ha : ∀ v, assign (.Subscript o i tpos) X.env v = (do
      let ov ← holding [v] (eval o X.env)
      let iv ← holding [v, ov] (eval i X.env)
      standAt tpos
      holding [v, ov, iv] (setItem ov iv v)
      release [v, ov, iv] [])) : PS X (.Assign [.Subscript o i tpos] e pos) (tS X.K W (subM co ci ce)) :=
  PS.imp (ps_asg he (pg_sub ho hi (set_D hw hu) ha) (sole_ok h1) (by cases e <;> rfl)) fun D σ H h => by
    obtain ⟨Mm, env, S, rel, po⟩ := h
    refine ⟨Mm, env, S, rel, SPost.lift (c := ce) (R := Rep X.K) rel po fun v S1 Mm1 H1 b e1 ev rs rb po1 => ?_⟩
    clear e1
    have rel1 := rel.mono ev rs
    refine ⟨Mm1, env, S1, rel1, SPost.lift (c := co) (R := Rep X.K) rel1 po1 fun x S2 Mm2 H2 ox e2 ev2 rs2 rx po2 => ?_⟩
    clear e2
    have rel2 := rel1.mono ev2 rs2
    refine ⟨Mm2, env, S2, rel2, SPost.lift (c := ci) (R := Rep X.K) rel2 po2 fun k S3 Mm3 H3 kx e3 ev3 rs3 rk po3 => ?_⟩
    clear e3
    have rel3 := rel2.mono ev3 rs3
    split at po3
    · rename_i S4 hS
      exact ⟨Mm3, S3, x, k, v, S4, rs3, rx.mono ev3, rk, (rb.mono ev2).mono ev3, hS, fun H' e4 rs4 => po3 Mm3 H' σ e4 (rel3.mono e4 rs4)⟩
    · exact po3.elim
/-- o[i] by values -/
def rGetD (K : PySem.W.Frag) (E : XK) : V → V → Hp → VK → Prop := fun o i H Q => ∃ Mm S x k, RS K Mm H S ∧ Rep K Mm H o x ∧ Rep K Mm H i k ∧ Post K (Rep K) E Mm H Q (getM x k S)
theorem get_D {E : XK} (hu : X.A.units + 1 < cLine) : PGet X (rGetD X.K E) := by
  rintro pins s σ H o i ov iv Q I ro ri ⟨Mm, S, x, k, rs, rx, rk, po⟩
  unfold getM at po
  split at po
  · rename_i r kk
    split at po
    · rename_i xs j hx
      split at po
      · rename_i h0
        split at po
        · rename_i p hp
          cases rk
          obtain ⟨t, rfl⟩ := ri
          obtain ⟨a, vs, rfl, ha, hH, a1⟩ := rs.lstAt rx hx
          obtain rfl : ov = Value.ref a := ro
          obtain ⟨z, hz, rz⟩ := a1.get hp
          obtain ⟨its, rv, pl, hl⟩ := I.list (SqL.of hH)
          obtain ⟨w, ew, rw'⟩ := rv.get hz
          have hj : j.toNat < its.length := (List.getElem?_eq_some_iff.mp ew).1
          have hs : its.length ≤ sizeLine := by rw [← rv.length]; exact hl
          have hn := line63
          exact wpAny_getItem_list pl.isList h0 (by omega) (by simpa using ew) ⟨z, H, I, rw', po.use rs rz⟩
        · exact po.elim
      · exact po.elim
    · rename_i kvs hx
      split at po
      · rename_i c
        obtain ⟨j, rfl⟩ := isKy_some c
        split at po
        · rename_i p hp
          obtain ⟨a, o2, rfl, g, _, g2⟩ := dget_of rs rx (show dctOf S (.rf r) = some kvs by unfold dctOf; simp only [hx]) rk (show imOf S (.im (kP j)) = some (kP j) from rfl)
          obtain ⟨u, rfl, ru⟩ := g2 p hp
          obtain rfl : ov = Value.ref a := ro
          exact d_getItem hu I g ri fun w' s' I' rw' => ⟨u, H, I', rw', po.use rs ru⟩
        · exact po.elim
      · exact po.elim
    · exact po.elim
  · exact po.elim
def augM (i : Nat) (op : Operator) (ce : Env → M D) (env : Env) (S : Mem) : SR := liftE env (getV i env S) fun x S1 => liftE env (ce env S1) fun y S2 => liftE env (augD op x y S2) fun z S3 => .nx (env.set i (some z)) S3
omit [PWd] in
theorem getV_ok {i : Nat} {env : Env} {S S1 : Mem} {d : D} (h : getV i env S = .ok d S1) : env[i]? = some (some d) ∧ S1 = S := by
  unfold getV at h
  split at h
  · rename_i e
    cases h
    exact ⟨e, rfl⟩
  · cases h
theorem s_aug {i : Nat} {x : Str} {e : Expr} {npos : Pos} {op : Operator} {ce : Env → M D} (hN : X.N.Nodup) (hs : Sto X i x) (he : PE X e (tE X.K W ce)) (ho : op = .Add ∨ op = .Sub) : PS X (.AugAssign (.Name x npos) op e pos) (tS X.K W (augM i op ce)) := by
  have key : ∀ (f : Int → Int → Int) (hp : PIp X op (ipI f)) (hf : ∀ a b S, augD op a b S = (match a, b with | .im (.int i), .im (.int j) => .ok (.im (.int (f i j))) S | _, _ => .bad)), PS X (.AugAssign (.Name x npos) op e pos) (tS X.K W (augM i op ce)) := fun f hp hf =>
    PS.imp (ps_aug hN hs.1 hs.loc he hp hs.fn) fun D σ H h => by
      obtain ⟨Mm, env, S, rel, po⟩ := h
      unfold augM at po
      cases hg : getV i env S with
      | err c S1 => unfold getV at hg; split at hg <;> cases hg
      | bad => rw [hg] at po; exact po.elim
      | ok d S1 =>
        obtain ⟨h1, rfl⟩ := getV_ok hg
        rw [hg] at po
        obtain ⟨v, hv, rv⟩ := rel.er i d h1
        refine ⟨v, hv, Mm, env, S1, rel, SPost.lift (c := ce) (R := Rep X.K) rel po fun y S2 Mm2 H2 w e2 ev rs rw' po2 => ?_⟩
        clear e2
        have rv2 := rv.mono ev
        rw [hf] at po2
        split at po2
        · rename_i i1 j1
          cases rv2
          cases rw'
          refine ⟨i1, j1, rfl, rfl, po2 Mm2 H2 _ Ev.refl ((rel.mono ev rs).set (Rp.int _))⟩
        · exact po2.elim
  rcases ho with rfl | rfl
  · refine key _ ip_add fun a b S => ?_
    cases a with
    | rf i => cases b <;> rfl
    | im p => cases p <;> (cases b with | rf j => rfl | im q => cases q <;> rfl)
  · refine key _ ip_sub fun a b S => ?_
    cases a with
    | rf i => cases b <;> rfl
    | im p => cases p <;> (cases b with | rf j => rfl | im q => cases q <;> rfl)
/-- o[i] op= e -/
def asubM (co ci : Env → M D) (op : Operator) (ce : Env → M D) (env : Env) (S : Mem) : SR := liftE env (co env S) fun x S1 => liftE env (ci env S1) fun k S2 => liftE env (getM x k S2) fun u S3 => liftE env (ce env S3) fun y S4 => liftE env (augD op u y S4) fun z S5 => match setD x k z S5 with
  | some S6 => .nx env S6
  | none => .bad
theorem s_asub {o i e : Expr} {tpos : Pos} {op : Operator} {co ci ce : Env → M D} (hw : PWd.P = X.prog ∧ PWd.w = X.w) (hu : X.A.units + 1 < cLine) (ho : PE X o (tE X.K W co)) (hi : PE X i (tE X.K W ci)) (he : PE X e (tE X.K W ce)) (hop : op = .Add ∨ op = .Sub)
    (ha : ∀ ov iv new, augStore i ov iv new = (do holding [new, ov, iv] (setItem ov iv new); release [new, ov, iv] []; pure .next)) : PS X (.AugAssign (.Subscript o i tpos) op e pos) (tS X.K W (asubM co ci op ce)) := by
  have key : ∀ (f : Int → Int → Int) (hp : PIp X op (ipI f)) (hf : ∀ a b S, augD op a b S = (match a, b with | .im (.int i), .im (.int j) => .ok (.im (.int (f i j))) S | _, _ => .bad)), PS X (.AugAssign (.Subscript o i tpos) op e pos) (tS X.K W (asubM co ci op ce)) := fun f hp hf => by
    refine ⟨fun pins s σ H D I h => ?_⟩
    refine (ps_augS ho hi (get_D (E := WE W σ) hu) he hp (set_D hw hu) ha).run pins s σ H D I ?_
    obtain ⟨Mm, env, S, rel, po⟩ := h
    refine ⟨Mm, env, S, rel, SPost.lift (c := co) (R := Rep X.K) rel po fun x S1 Mm1 H1 vx e1 ev1 rs1 rx po1 => ?_⟩
    clear e1
    have rel1 := rel.mono ev1 rs1
    refine ⟨Mm1, env, S1, rel1, SPost.lift (c := ci) (R := Rep X.K) rel1 po1 fun k S2 Mm2 H2 vk e2 ev2 rs2 rk po2 => ?_⟩
    clear e2
    have rel2 := rel1.mono ev2 rs2
    refine ⟨Mm2, S2, x, k, rs2, rx.mono ev2, rk, SPost.lift (c := fun _ => getM x k) (R := Rep X.K) rel2 po2 fun u S3 Mm3 H3 vu e3 ev3 rs3 ru po3 => ?_⟩
    clear e3
    have rel3 := rel2.mono ev3 rs3
    refine ⟨Mm3, env, S3, rel3, SPost.lift (c := ce) (R := Rep X.K) rel3 po3 fun y S4 Mm4 H4 vy e4 ev4 rs4 ry po4 => ?_⟩
    clear e4
    have rel4 := rel3.mono ev4 rs4
    rw [hf] at po4
    split at po4
    · rename_i i1 j1
      have ru4 := ru.mono ev4
      cases ru4
      cases ry
      refine ⟨i1, j1, rfl, rfl, ?_⟩
      dsimp only [liftE] at po4
      split at po4
      · rename_i S6 hS
        exact ⟨Mm4, S4, x, k, .im (.int (f i1 j1)), S6, rs4, ((rx.mono ev2).mono ev3).mono ev4, (rk.mono ev3).mono ev4, (show Rep X.K Mm4 H4 (V.int (f i1 j1)) (.im (.int (f i1 j1))) from Rp.int _), hS, fun H' e5 rs5 => po4 Mm4 H' σ e5 (rel4.mono e5 rs5)⟩
      · exact po4.elim
    · exact po4.elim
  rcases hop with rfl | rfl
  · refine key _ ip_add fun a b S => ?_
    cases a with
    | rf i => cases b <;> rfl
    | im p => cases p <;> (cases b with | rf j => rfl | im q => cases q <;> rfl)
  · refine key _ ip_sub fun a b S => ?_
    cases a with
    | rf i => cases b <;> rfl
    | im p => cases p <;> (cases b with | rf j => rfl | im q => cases q <;> rfl)
def expM (ce : Env → M D) (env : Env) (S : Mem) : SR := liftE env (ce env S) fun _ S1 => .nx env S1
theorem s_exp {e : Expr} {ce : Env → M D} (he : PE X e (tE X.K W ce)) (h1 : compE e = false) : PS X (.Expr e pos) (tS X.K W (expM ce)) :=
  PS.imp (ps_expr he (swap_ok h1)) fun D σ H ⟨Mm, env, S, rel, po⟩ => ⟨Mm, env, S, rel, SPost.lift (c := ce) (R := Rep X.K) rel po fun d S1 Mm1 H1 b _ ev rs rb po1 => po1 Mm1 H1 σ Ev.refl (rel.mono ev rs)⟩
def retM (ce : Env → M D) (env : Env) (S : Mem) : SR := liftE env (ce env S) fun d S1 => .rt d S1
theorem s_ret {e : Expr} {ce : Env → M D} (he : PE X e (tE X.K W ce)) : PS X (.Return (some e) pos) (tS X.K W (retM ce)) :=
  PS.imp (ps_ret he) fun D σ H ⟨Mm, env, S, rel, po⟩ => ⟨Mm, env, S, rel, SPost.lift (c := ce) (R := Rep X.K) rel po fun d S1 Mm1 H1 b _ ev rs rb po1 => po1 Mm1 H1 b Ev.refl rs rb⟩
theorem s_retn : PS X (.Return none pos) (tS X.K W fun _ S => .rt (.im .none) S) :=
  PS.imp ps_retN fun D σ H ⟨Mm, env, S, rel, po⟩ => po Mm H .non Ev.refl rel.rs .non
def ifM (cc : Env → M D) (ca cb : Env → Mem → SR) (env : Env) (S : Mem) : SR := liftE env (cc env S) fun d S1 => match d with
  | .im (.bool true) => ca env S1
  | .im (.bool false) => cb env S1
  | _ => .bad
theorem s_if {c : Expr} {a b : List Stmt} {cc : Env → M D} {ca cb : Env → Mem → SR} (hc : PT X c (tT X.K W (tstM cc))) (ha : PSs X a (tS X.K W ca)) (hb : PSs X b (tS X.K W cb)) : PS X (.If c a b pos) (tS X.K W (ifM cc ca cb)) :=
  PS.imp (ps_if hc ha hb) fun D σ H h => by
    obtain ⟨Mm, env, S, rel, po⟩ := h
    refine ⟨Mm, env, S, rel, ?_⟩
    have he : ifM cc ca cb env S = liftE env (tstM cc env S) fun t S1 => if t = true then ca env S1 else cb env S1 := by
      unfold ifM tstM M.bind liftE
      cases cc env S with
      | err c S1 => rfl
      | bad => rfl
      | ok d S1 =>
        cases d with
        | rf i => rfl
        | im p =>
          cases p with
          | bool t => cases t <;> rfl
          | _ => rfl
    rw [he] at po
    refine SPost.lift (c := tstM cc) (R := RB) rel po fun t S1 Mm1 H1 b' _ ev rs rb po1 => ?_
    · cases rb
      cases t with
      | true => exact ⟨Mm1, env, S1, rel.mono ev rs, po1⟩
      | false => exact ⟨Mm1, env, S1, rel.mono ev rs, po1⟩
theorem s_brk : PS X (.Break pos) (tS X.K W fun env S => .bk env S) := PS.imp ps_break fun D σ H ⟨Mm, env, S, rel, po⟩ => po Mm H σ Ev.refl rel
theorem s_cnt : PS X (.Continue pos) (tS X.K W fun env S => .ct env S) := PS.imp ps_continue fun D σ H ⟨Mm, env, S, rel, po⟩ => po Mm H σ Ev.refl rel
theorem s_pss : PS X (.Pass pos) (tS X.K W fun env S => .nx env S) := PS.imp ps_pass fun D σ H ⟨Mm, env, S, rel, po⟩ => po Mm H σ Ev.refl rel
def seqM (ca cb : Env → Mem → SR) (env : Env) (S : Mem) : SR := match ca env S with
  | .nx e1 S1 => cb e1 S1
  | z => z
theorem ss_nil : PSs X [] (tS X.K W fun env S => .nx env S) := PSs.imp pss_nil fun D σ H ⟨Mm, env, S, rel, po⟩ => po Mm H σ Ev.refl rel
theorem ss_cons {s : Stmt} {r : List Stmt} {ca cb : Env → Mem → SR} (ha : PS X s (tS X.K W ca)) (hb : PSs X r (tS X.K W cb)) : PSs X (s :: r) (tS X.K W (seqM ca cb)) :=
  PSs.imp (pss_cons ha hb) fun D σ H h => by
    obtain ⟨Mm, env, S, rel, po⟩ := h
    refine ⟨Mm, env, S, rel, ?_⟩
    unfold seqM at po
    cases e : ca env S with
    | nx e1 S1 =>
      rw [e] at po
      exact fun Mm' H' σ' ev rel' => ⟨Mm', e1, S1, rel', po.mono ev⟩
    | bk e1 S1 => rw [e] at po; exact po
    | ct e1 S1 => rw [e] at po; exact po
    | rt d S1 => rw [e] at po; exact po
    | er c e1 S1 => rw [e] at po; exact po
    | bad => rw [e] at po; exact po
def forM' (tg : Tg) (ci : Env → M (List D)) (cb : Env → Mem → SR) (env : Env) (S : Mem) : SR := liftE env (ci env S) fun items S1 => forL (asgT tg) cb items env S1
theorem s_for {tge iter : Expr} {body : List Stmt} {tg : Tg} {ci : Env → M (List D)} {cb : Env → Mem → SR} (hp : PassesOwn (model X.prog X.w) X.A X.env X.xe) (hc : X.calm = true) (hi : PI X tge iter (tI X.K W tg ci)) (hg : PG X tge (tG X.K tg)) (hb : PSs X body (tS X.K W cb)) (hs : setE iter = false) :
    PS X (.For tge iter body [] pos) (tS X.K W (forM' tg ci cb)) :=
  PS.imp (ps_for hp hc hi hg hb (fold_ok hs)) fun D σ H h => by
    obtain ⟨Mm, env, S, rel, po⟩ := h
    refine ⟨Mm, env, S, rel, SPost.lift (c := ci) (R := JOk X.K tg) rel po fun items S1 Mm1 H1 J _ ev rs jok po1 => ?_⟩
    obtain ⟨G, Y, wk, hG, hY⟩ := jok
    refine for_it wk (fun i σ2 H2 => ∃ Mm2 env2 S2, Ev Mm1 H1 Mm2 H2 ∧ Rel X.K Mm2 H2 σ2 env2 S2 ∧ SPost X.K W D Mm2 H2 (forL (asgT tg) cb (items.drop i) env2 S2)) ⟨Mm1, env, S1, Ev.refl, rel.mono ev rs, po1⟩ ?_ ?_ ?_
    · rintro i σ2 H2 _ ⟨Mm2, env2, S2, ev2, _, _⟩
      exact hG _ _ ev2.sub
    · rintro i x σ2 H2 H3 hi ⟨Mm2, env2, S2, ev2, rel2, po2⟩ y
      obtain ⟨d, hd, ev3, rs3, it3⟩ := hY i Mm2 H2 S2 x H3 hi ev2.sub rel2.rs y
      have hdrop : items.drop i = d :: items.drop (i + 1) := by
        obtain ⟨hi2, e⟩ := List.getElem?_eq_some_iff.mp hd
        rw [List.drop_eq_getElem_cons hi2, e]
      rw [hdrop] at po2
      unfold forL at po2
      cases ha : asgT tg d env2 S2 with
      | none => rw [ha] at po2; exact po2.elim
      | some e1 =>
        rw [ha] at po2
        dsimp only at po2
        refine ⟨Mm2, env2, S2, d, e1, rel2.mono ev3 rs3, it3, ha, fun σ' rel' _ => ⟨Mm2, e1, S2, rel', ?_⟩⟩
        have po3 := po2.mono ev3
        revert po3
        cases e : cb e1 S2 with
        | nx e2 S3 => exact fun po3 Mm4 H4 σ4 ev4 rel4 => ⟨Mm4, e2, S3, (ev2.trans ev3).trans ev4, rel4, po3.mono ev4⟩
        | ct e2 S3 => exact fun po3 Mm4 H4 σ4 ev4 rel4 => ⟨Mm4, e2, S3, (ev2.trans ev3).trans ev4, rel4, po3.mono ev4⟩
        | bk e2 S3 => exact fun po3 => po3
        | rt d S3 => exact fun po3 => po3
        | er c e2 S3 => exact fun po3 => po3
        | bad => exact fun po3 => po3
    · rintro σ2 H2 ⟨Mm2, env2, S2, ev2, rel2, po2⟩
      rw [List.drop_length] at po2
      exact po2 Mm2 H2 σ2 Ev.refl rel2
theorem s_while {n : Nat} {c : Expr} {body : List Stmt} {cc : Env → M D} {cb : Env → Mem → SR} (hp : PassesOwn (model X.prog X.w) X.A X.env X.xe) (hc : PT X c (tT X.K W (tstM cc))) (hb : PSs X body (tS X.K W cb)) :
    PS X (.While c body [] pos) (tS X.K W (whileL (tstM cc) cb n)) :=
  PS.imp (ps_while hp hc hb) fun D σ H h => by
    obtain ⟨Mm0, env0, S0, rel0, po0⟩ := h
    refine ⟨fun m σ H => ∃ Mm env S, Rel X.K Mm H σ env S ∧ SPost X.K W D Mm H (whileL (tstM cc) cb m env S), ⟨n, Mm0, env0, S0, rel0, po0⟩, ?_⟩
    rintro m σ1 H1 ⟨Mm, env, S, rel, po⟩
    cases m with
    | zero => exact po.elim
    | succ m =>
      refine ⟨Mm, env, S, rel, ?_⟩
      have he : whileL (tstM cc) cb (m + 1) env S = liftE env (tstM cc env S) fun t S1 => if t = true then (match cb env S1 with
        | .nx e2 S2 => whileL (tstM cc) cb m e2 S2
        | .ct e2 S2 => whileL (tstM cc) cb m e2 S2
        | .bk e2 S2 => .nx e2 S2
        | z => z) else .nx env S1 := by
        rw [whileL]
        unfold liftE
        cases tstM cc env S with
        | err c S1 => rfl
        | bad => rfl
        | ok t S1 => cases t <;> rfl
      rw [he] at po
      refine SPost.lift (c := tstM cc) (R := RB) rel po fun t S1 Mm1 H1 b' _ ev rs rb po1 => ?_
      · cases rb
        cases t with
        | false => exact po1 Mm1 H1 σ1 Ev.refl (rel.mono ev rs)
        | true =>
          refine ⟨fun σ' H' => ∃ Mm env S, Rel X.K Mm H' σ' env S ∧ SPost X.K W D Mm H' (whileL (tstM cc) cb m env S), fun σ' H' q => ⟨m, Nat.lt_succ_self m, q⟩, Mm1, env, S1, rel.mono ev rs, ?_⟩
          revert po1
          simp only [if_true]
          cases e : cb env S1 with
          | nx e2 S3 => exact fun po3 Mm4 H4 σ4 ev4 rel4 => ⟨Mm4, e2, S3, rel4, po3.mono ev4⟩
          | ct e2 S3 => exact fun po3 Mm4 H4 σ4 ev4 rel4 => ⟨Mm4, e2, S3, rel4, po3.mono ev4⟩
          | bk e2 S3 => exact fun po3 => po3
          | rt d S3 => exact fun po3 => po3
          | er c e2 S3 => exact fun po3 => po3
          | bad => exact fun po3 => po3
end
end DL
end

section
set_option maxRecDepth 100000
/-! DL12: more expressions. Ours. -/
namespace DL
open PySem PySem.Spec PyProof.Rows L2 PySem.W
variable [PWd]
section
variable {X : Cx} {W : WX} {pos : Pos}
/-! ### list(range(..)), tuple(range(..)) -/
abbrev TRg := L2.St → Hp → (Int → Int → Hp → Prop) → Prop
theorem pe_tupRgN {e : Expr} {te : TRg} {p pos : Pos} (hc : X.calm = true) (hg : Gl X "tuple") (hm : X.mg "tuple" = none) (he : PRg X e te) (na : starEach [e] X.env = (false, eval e X.env) :: starEach [] X.env := by rfl) :
    PE X (.Call (.Name "tuple" p) [e] [] pos) (fun σ H Q => te σ H fun a b H1 => RgOk a b ∧ ∀ q o, H1 q = none → o.dict = none → Q (.ref q) (upd H1 q (.frz o (.tup (rgV a b))))) := by
  refine ⟨fun pins s σ H Q I h => ?_⟩
  refine Call_ (ld_blt I hg hm boot_tuple (PyProof.Rows.callWith_type1 (args_cons (thn (he pins s σ H _ I h) fun x s1 ⟨r, a, b, t, u, v, H1, ex, hr, I1, ok, q⟩ => args_nil ?_) na) na))
  subst ex
  obtain ⟨b1, b2, b3, b4, b5⟩ := ok
  refine call_tuple_range (n := (b - a).toNat) (I1.ok.hd hc) hr (small_one b1 b2 b3 b4) (rangeSize_nat a b) b5 fun h' tk acc hk hi => ?_
  have I2 : Inv X pins σ H1 { s1 with heap := h', toks := tk } := I1.kept hk
  have hz : (rgV a b).length ≤ sizeLine := by rw [rgV_length, sizeLine_eq]; omega
  refine ⟨.ref h'.objs.size, _, I2.laid (t' := tk) (o := .frz { cls := .type "tuple", data := .seq acc } (.tup (rgV a b))) (fun c o e => Heap.get?_push_of_some _ e) (Nat.le_refl _) ?_, rfl, q _ _ (I2.hok.fresh (Nat.le_refl _)) rfl⟩
  have e2 : ({ cls := .type "tuple", data := .seq acc } : Obj) = { cls := .type "tuple", data := .seq acc.toList.toArray } := by rw [Array.toArray_toList]
  refine ⟨Heap.get?_push_size _ rfl, hz, acc.toList, vals_rg hi, ?_⟩
  rw [Array.toArray_toList]
  exact IsTup.new _ _
omit [PWd] in
theorem rg_rp {K : PySem.W.Frag} {G : Hp} {l : Int} : ∀ {n : Nat}, RpA K G ((List.range n).map fun i => V.int (l + (i : Nat))) (rgP l n) := by
  intro n
  unfold rgP
  have key : ∀ xs : List Nat, RpA K G (xs.map fun i => V.int (l + (i : Nat))) (xs.map fun (k : Nat) => PyData.int (l + (k : Int))) := by
    intro xs
    induction xs with
    | nil => exact .nil
    | cons a r ih => exact .cons (.int _) ih
  exact key _
theorem rg_post {E : XK} {K : PySem.W.Frag} {Mm : MM} {H : Hp} {S : Mem} {tup : Bool} {l n : Int} {m : Nat} {Q : VK} (hm : m = (n - l).toNat) (rs : RS K Mm H S) (po : Post K (Rep K) E Mm H Q (.ok (.im (lsrP tup (rgP l m))) S)) :
    if tup = true then ∀ q o, H q = none → o.dict = none → Q (.ref q) (upd H q (.frz o (.tup (rgV l n)))) else ∀ q, H q = none → Q (.ref q) (upd H q (.lst (rgV l n))) := by
  subst hm
  cases tup with
  | true => exact fun q o hq ho => po.use' (Ev.new rs hq) (rs.new hq) (Rep.tup rs hq rg_rp ho)
  | false => exact fun q hq => po.use' (Ev.new rs hq) (rs.new hq) (Rep.lst rs hq rg_rp)
def lsN (tup : Bool) : Str := if tup = true then "tuple" else "list"
section
variable {a b : Expr} {ca cb : Env → M D}
theorem e_ls {tup : Bool} {e : Expr} {te : TRg} {p : Pos} {Q : VK} {c : Env → M D} (hc : X.calm = true) (hg : Gl X (lsN tup)) (hm : X.mg (lsN tup) = none) (he : PRg X e te) (na : starEach [e] X.env = (false, eval e X.env) :: starEach [] X.env)
    (h : ∀ σ H Q, tE X.K W c σ H Q → te σ H fun l n H1 => RgOk l n ∧ if tup = true then ∀ q o, H1 q = none → o.dict = none → Q (.ref q) (upd H1 q (.frz o (.tup (rgV l n)))) else ∀ q, H1 q = none → Q (.ref q) (upd H1 q (.lst (rgV l n)))) :
    PE X (.Call (.Name (lsN tup) p) [e] [] pos) (tE X.K W c) := by
  cases tup with
  | true =>
    refine PE.imp (pe_tupRgN hc hg hm he na) fun σ H Q q => ?_
    have z := h σ H Q q
    simp at z
    exact z
  | false =>
    refine PE.imp (pe_listRg hc hg hm he na) fun σ H Q q => ?_
    have z := h σ H Q q
    simp at z
    exact z
theorem e_lsr1 {tup : Bool} {p p2 pos2 : Pos} (hc : X.calm = true) (hg : Gl X (lsN tup)) (hm : X.mg (lsN tup) = none) (hgr : Gl X "range") (hmr : X.mg "range" = none) (ha : PE X a (tE X.K W ca)) (hp : plainE a = true) :
    PE X (.Call (.Name (lsN tup) p) [.Call (.Name "range" p2) [a] [] pos2] [] pos) (tE X.K W fun env => M.bind (M.bind (ca env) fun d => M.bind nilK fun ds => consK d ds) (lsrK tup)) := by
  refine e_ls (Q := fun _ _ => True) hc hg hm (prg_1 hgr hmr ha (star_ok hp)) rfl fun σ H Q h => ?_
  simp only [bind_assoc] at h
  refine (tM.bind (R := Rep X.K) (m := ca) (f := fun _ d => M.bind nilK fun ds => M.bind (consK d ds) (lsrK tup)) h).imp ?_
  rintro x H1 ⟨Mm, env, S, d, rel, ra, po⟩
  have po2 : Post X.K (Rep X.K) (WE W σ) Mm H1 Q (lsrK tup [d] S) := po
  unfold lsrK at po2
  split at po2
  · rename_i n hd
    cases hd
    cases ra
    split at po2
    · rename_i c
      exact ⟨n, rfl, RgOk.of_le (by omega) c.2 (by omega) c.1, rg_post (by simp) rel.rs po2⟩
    · exact po2.elim
  · rename_i hd
    cases hd
  · exact po2.elim
theorem e_lsr2 {tup : Bool} {p p2 pos2 : Pos} (hc : X.calm = true) (hg : Gl X (lsN tup)) (hm : X.mg (lsN tup) = none) (hgr : Gl X "range") (hmr : X.mg "range" = none) (ha : PE X a (tE X.K W ca)) (hb : PE X b (tE X.K W cb)) (hp : plainE a = true) (hp2 : plainE b = true) :
    PE X (.Call (.Name (lsN tup) p) [.Call (.Name "range" p2) [a, b] [] pos2] [] pos) (tE X.K W fun env => M.bind (M.bind (ca env) fun d => M.bind (M.bind (cb env) fun d => M.bind nilK fun ds => consK d ds) fun ds => consK d ds) (lsrK tup)) := by
  refine e_ls (Q := fun _ _ => True) hc hg hm (prg_2 hgr hmr ha hb (star_ok hp) (star_ok hp2) (star_any (by simp [hp2]))) rfl fun σ H Q h => ?_
  simp only [bind_assoc] at h
  refine (tM.bind (R := Rep X.K) (m := ca) (f := fun env d => M.bind (cb env) fun d2 => M.bind nilK fun ds => M.bind (consK d2 ds) fun ds => M.bind (consK d ds) (lsrK tup)) h).imp ?_
  rintro x H1 ⟨Mm, env, S, d, rel, ra, po⟩
  refine ⟨Mm, env, S, rel, (Post.bind (R := Rep X.K) po).imp ?_⟩
  rintro y H2 ⟨Mm2, S2, d2, ev, rs, rb, po1⟩
  have po2 : Post X.K (Rep X.K) (WE W σ) Mm2 H2 Q (lsrK tup [d, d2] S2) := po1
  have ra2 := ra.mono ev
  unfold lsrK at po2
  split at po2
  · rename_i hd
    cases hd
  · rename_i l n hd
    cases hd
    cases ra2
    cases rb
    split at po2
    · rename_i c
      exact ⟨l, n, rfl, rfl, RgOk.of_le c.1 c.2.2.2 c.2.1 c.2.2.1, rg_post rfl rs po2⟩
    · exact po2.elim
  · exact po2.elim
/-! ### a single one of and, or -/
theorem e_one {op : BoolOp} (ha : PE X a (tE X.K W ca)) : PE X (.BoolOp op [a] pos) (tE X.K W ca) := pe_one ha
theorem w_one {op : BoolOp} (ha : PT X a (tT X.K W (tstM ca))) : PW X (.BoolOp op [a] pos) (tT X.K W (tstM ca)) := by
  cases op with
  | And => exact pw_and1 ha
  | Or => exact pw_or1 ha
end
end
/-! ### enumerate of a tuple -/
set_option maxHeartbeats 1000000 in
omit [PWd] in
theorem en_meets (a : Addr) (items : Array Value) :
    Meets (Builtin.«enumerate.__new__» ⟨[.type "enumerate", .ref a], []⟩) (fun _ R s => s.heap.IsTuple a items ∧
      R (.ok (.ret (.ref (s.heap.push { cls := .type "tuple_iterator", data := .fields #[.ref a, .int 0 0] }).objs.size))) { s with heap := (s.heap.push { cls := .type "tuple_iterator", data := .fields #[.ref a, .int 0 0] }).push { cls := .type "enumerate", data := .fields #[.none, .bool false, .ref s.heap.objs.size, rawInt 0, .none, .none] } }) :=
  .of_wp fun prog w A R s h => by
    obtain ⟨hp, g, d, tk, os⟩ := s
    obtain ⟨h1, h⟩ := h
    have hsub := sub_enumerate
    have begin_ : ∀ {A' : Around} {E : Value → Shared → Prop} {Q : Value → Shared → Prop}, Q (.ref hp.objs.size) ⟨hp.push { cls := .type "tuple_iterator", data := .fields #[.ref a, .int 0 0] }, g, d, tk, os⟩ → wpAny (model prog w) A' (pyIter (.ref a)) Q E ⟨hp, g, d, tk, os⟩ :=
      fun q => (begins_tuple a items).iter prog w _ _ ⟨hp, g, d, tk, os⟩ _ h1 q
    wp_walk using begin_
    refine wpAny_stack_any fun st => wpAny_pure ?_
    split
    · rename_i c _ _ _ _ _
      cases (c == Value.type "enumerate")
      · wp_walk using begin_
        exact ⟨_, rfl, h⟩
      · wp_walk using begin_
        exact ⟨_, rfl, h⟩
    · wp_walk using begin_
      exact ⟨_, rfl, h⟩
section
variable {prog : Program} {w : World}
omit [PWd] in
theorem en_call {A : Around} {E : Value → Shared → Prop} {s : Shared} {a : Addr} {items : Array Value} {Q : Value → Shared → Prop} (ht : s.heap.IsTuple a items)
    (h : ∀ h', IsEnum h' (s.heap.objs.size + 1) s.heap.objs.size 0 .none → h'.IsTupleIter s.heap.objs.size a 0 → (∀ b o, s.heap.get? b = some o → h'.get? b = some o) → Q (.ref (s.heap.objs.size + 1)) { s with heap := h' }) :
    wpAny (model prog w) A (call (.type "enumerate") [.ref a]) Q E s := by
  refine callType_new F.called_enumerate (by decide) (F.typeCall_enumerate_1 _) (F.newCall_enumerate_1 _) (fun obj => F.args_object_init_2 obj _) F.entry_enumerate_new (en_meets a items) ⟨ht, ?_⟩
  generalize hI : ({ cls := .type "tuple_iterator", data := .fields #[.ref a, .int 0 0] } : Obj) = oI
  have fI : oI.isFreed = false := by rw [← hI] <;> rfl
  have sz : (s.heap.push oI).objs.size = s.heap.objs.size + 1 := Heap.size_push ..
  show _ ∧ _
  rw [sz]
  have en : IsEnum ((s.heap.push oI).push { cls := .type "enumerate", data := .fields #[.none, .bool false, .ref s.heap.objs.size, rawInt 0, .none, .none] }) (s.heap.objs.size + 1) s.heap.objs.size 0 .none := by
    have z := Heap.get?_push_size (s.heap.push oI) (o := { cls := .type "enumerate", data := .fields #[.none, .bool false, .ref s.heap.objs.size, rawInt 0, .none, .none] }) rfl
    rw [sz] at z
    exact z
  refine ⟨⟨_, en, rfl⟩, h _ en ⟨oI, Heap.get?_push_of_some _ (Heap.get?_push_size _ fI), ?_, ?_⟩ fun b o x => Heap.get?_push_of_some _ (Heap.get?_push_of_some _ x)⟩
  · rw [← hI]
  · rw [← hI] <;> rfl
/-- the tuple at a, each item in a new pair -/
def Iet (K : PySem.W.Frag) (a : Addr) : L2.It :=
  ⟨fun i H => ∃ (xs : List V) (x : V), SqT K H a xs ∧ xs[i]? = some x, fun i H v H' => ∃ T x, v = .ref T ∧ H T = none ∧ H' = upd H T (.tup [.int (i : Nat), x]) ∧ ∀ xs, SqT K H a xs → xs[i]? = some x, fun i H => ∃ xs : List V, SqT K H a xs ∧ xs.length = i⟩
omit [PWd] in
theorem turn_en {K : PySem.W.Frag} {elts : List Expr} {kk : Nat} {tpos : Pos} (a e it : Addr) :
    Turn prog w K (.Tuple elts kk tpos) (Iet K a) [e, it] e (fun i h => (∃ old, IsEnum h e it ((i : Nat) : Int) old) ∧ h.IsTupleIter it a i ∧ e ≠ it) where
  mem := by simp
  obj := fun i h st b hb => by
    obtain ⟨⟨old, he⟩, ⟨o, ho, hc, hd⟩, _⟩ := st
    rcases (show b = e ∨ b = it by simpa using hb) with z | z
    · subst z; exact ⟨_, he, fun v q => nomatch q⟩
    · subst z; exact ⟨o, ho, fun v q => by rw [hd] at q; cases q⟩
  keep := fun i h h' st k => let ⟨⟨old, he⟩, hi, hne⟩ := st; ⟨⟨old, k e (by simp) _ he⟩, hi.at fun o q => k it (by simp) o q, hne⟩
  item := by
    rintro X rfl rfl rfl hcalm i pins s σ H E I hf ⟨⟨old, he⟩, hit, hne⟩ ⟨xs, x, hq, hx⟩
    obtain ⟨its, rv, tp, hz⟩ := I.tuple hq
    obtain ⟨u, hu, ru⟩ := rv.get hx
    have tp' : s.heap.IsTuple a its.toArray := tp
    have ne1 : e ≠ a := fun z => by
      subst z
      obtain ⟨o, ho, hc, _⟩ := tp'
      have he' : s.heap.get? e = _ := he
      rw [ho] at he'
      cases he'
      injection hc with hc3
      exact absurd hc3 (by decide)
    have ne2 : a ≠ it := fun z => by
      subst z
      obtain ⟨o, ho, hc, _⟩ := tp'
      obtain ⟨o2, ho2, hc2, _⟩ := hit
      rw [ho] at ho2
      cases ho2
      rw [hc] at hc2
      injection hc2 with hc3
      exact absurd hc3 (by decide)
    have lt_e : e < s.heap.objs.size := Heap.lt_size he
    have lt_i : it < s.heap.objs.size := by obtain ⟨_, q, _⟩ := hit; exact Heap.lt_size q
    have hi : i < its.toArray.size := by simpa using (List.getElem?_eq_some_iff.mp hu).1
    refine wpAny_pyNext_enum_itemD (Draws.tuple (A := X.A.in1) (I.ok.hd hcalm) it a ne2 its.toArray) he ⟨hit, tp'⟩ hi hne (by simp [ne1, hne]) fun y h' tk hy ho st' hT hsz hk => ?_
    have ey : y = u := by
      have z : its.toArray[i]? = some y := hy
      simp at z
      rw [hu] at z
      exact (Option.some.inj z).symm
    subst ey
    refine ⟨_, rfl, wpAny_letOwnedTupleGo_enum (s := { s with heap := h', toks := tk + 1 }) ho fun h2 he2 sb => ?_⟩
    have hT2 : h2.get? s.heap.objs.size = some { cls := .type "tuple", data := .seq #[.int i tk, y] } := (sb.2 _ (Nat.ne_of_gt lt_e)).trans hT
    have new : ObjOk X.prog X.w (upd H s.heap.objs.size (.tup [.int (i : Nat), x])) h2 s.heap.objs.size (.tup [.int (i : Nat), x]) :=
      ⟨by show 2 ≤ sizeLine; decide, [.int i tk, y], .cons ⟨_, rfl⟩ (.cons ru .nil), ⟨_, hT2, rfl, _, rfl⟩⟩
    have I1 : Inv X pins σ (upd H s.heap.objs.size (.tup [.int (i : Nat), x])) { s with heap := h2, toks := tk + 1 } :=
      I.turnedNew (ch := [e, it]) (fun b ob hb q => (sb.2 b (fun z => hb (by simp [z]))).trans (hk b ob (fun z => hb (by simp [z])) (fun z => hb (by simp [z])) q)) hf (Nat.le_refl _) new
    refine ⟨.ref s.heap.objs.size, _, I1, rfl, ⟨_, x, rfl, I.hok.fresh (Nat.le_refl _), rfl, fun ys hy2 => ?_⟩, ⟨⟨y, ?_⟩, st'.1.at fun o q => (sb.2 it (Ne.symm hne)).trans q, hne⟩, fun b hb => ?_⟩
    · rw [I.tuple_inj hy2 hq]
      exact hx
    · have e1 : ((i + 1 : Nat) : Int) = (i : Int) + 1 := by omega
      rw [e1]
      exact he2
    · have hb' : b < s.heap.objs.size := by
        rcases (show b = e ∨ b = it by simpa using hb) with z | z
        · rw [z]; exact lt_e
        · rw [z]; exact lt_i
      rw [upd_ne (Nat.ne_of_lt hb')]
      exact (hf b hb).1
  done := by
    rintro X rfl rfl rfl hcalm i pins s σ H E I hf ⟨⟨old, he⟩, hit, hne⟩ ⟨xs, hq, hx⟩
    obtain ⟨its, rv, tp, hz⟩ := I.tuple hq
    have tp' : s.heap.IsTuple a its.toArray := tp
    have ne2 : a ≠ it := fun z => by
      subst z
      obtain ⟨o, ho, hc, _⟩ := tp'
      obtain ⟨o2, ho2, hc2, _⟩ := hit
      rw [ho] at ho2
      cases ho2
      rw [hc] at hc2
      injection hc2 with hc3
      exact absurd hc3 (by decide)
    have hi : i = its.toArray.size := by rw [List.size_toArray, ← rv.length, hx]
    obtain ⟨f0, f1, f2, f3, f4, f5⟩ := hf it (by simp)
    subst hi
    exact wpAny_pyNext_enum_endD (Draws.tuple (A := X.A.in1) (I.ok.hd hcalm) it a ne2 its.toArray) he ⟨hit, tp'⟩ fun h' eb => ⟨rfl, I.turned (t' := s.toks) (fun b o hb q => eb b o hb q) f0 f1 f3 f4 f5⟩
  self := fun A i s Q E st h => let ⟨⟨_, he⟩, _⟩ := st; wpAny_pyIter_enum he h
end
section
variable {X : Cx} {W : WX} {pos : Pos}
omit [PWd] in
theorem walk_en {K : PySem.W.Frag} {a : Addr} {xs : List V} : L2.Walk (Iet K a) xs.length (fun H => SqT K H a xs) (YPair (fun i => some (.int (i : Nat))) (fun i => xs[i]?)) := by
  refine ⟨fun i _ hi q => ⟨xs, xs[i], q, by simp [hi]⟩, fun _ q => ⟨xs, q, rfl⟩, fun i H v H' _ q y => ?_⟩
  obtain ⟨T, x, h1, h2, h3, h4⟩ := y
  exact ⟨T, .int (i : Nat), x, h1, h2, h3, rfl, h4 xs q⟩
theorem pi_enT {e : Expr} {te : TE} {p tp : Pos} {es : List Expr} {k : Nat} (hg : Gl X "enumerate") (hm : X.mg "enumerate" = none) (he : PE X e te) (na : starEach [e] X.env = (false, eval e X.env) :: starEach [] X.env) :
    PI X (.Tuple es k tp) (.Call (.Name "enumerate" p) [e] [] pos) (fun σ H R => te σ H fun x H1 => ∃ a xs, x = .ref a ∧ SqT X.K H1 a xs ∧ R (Iet X.K a) H1) := by
  refine ⟨fun pins s σ H R I h => ?_⟩
  refine Call_ (ld_blt I hg hm boot_enumerate (PyProof.Rows.callWith_type1 (args_cons (thn (he.run pins s σ H _ I h) fun v s1 ⟨x, H1, I1, r1, a, xs, ex, hq, q⟩ => args_nil ?_) na) na))
  subst ex
  cases r1
  obtain ⟨its, rv, tp', hz⟩ := I1.tuple hq
  refine en_call (show s1.heap.IsTuple a its.toArray from tp') fun h' hen hit hk => wpAny_pyIter_enum hen ?_
  refine ⟨s1.heap.objs.size + 1, [s1.heap.objs.size + 1, s1.heap.objs.size], _, _, H1, rfl, I1.kept (t' := s1.toks) hk, turn_en a (s1.heap.objs.size + 1) s1.heap.objs.size, ⟨⟨.none, hen⟩, hit, Nat.succ_ne_self _⟩, fun b hb => ?_, q⟩
  have hle : s1.heap.objs.size ≤ b := by
    rcases (show b = s1.heap.objs.size + 1 ∨ b = s1.heap.objs.size by simpa using hb) with z | z
    · rw [z]; exact Nat.le_add_right _ _
    · rw [z]; exact Nat.le_refl _
  exact I1.fpOk hle (I1.hok.fresh hle)
theorem jok_en {K : PySem.W.Frag} {is : List Nat} {Mm : MM} {H : Hp} {J : L2.It} {G : Hp → Prop} {vs : List V} {xs : List PyData} (w : L2.Walk J vs.length G (YPair (fun i => some (.int (i : Nat))) (fun i => vs[i]?)))
    (hG : ∀ Mm2 H2, Sub (fz Mm H) (fz Mm2 H2) → G H2) (ra : RpA K (fz Mm H) vs xs) : JOk K (.t is) Mm H J (enmL xs) := by
  refine ⟨G, YPair (fun i => some (.int (i : Nat))) (fun i => vs[i]?), ?_, hG, fun i Mm2 H2 S2 x H3 hi e rs y => ?_⟩
  · have e : (enmL xs).length = vs.length := by simp [enmL, ra.length]
    rw [e]
    exact w
  · obtain ⟨T, u, v, rfl, hT, rfl, h1, h2⟩ := y
    cases h1
    obtain ⟨q, hq, rq⟩ := ra.get' h2
    obtain ⟨e1, e2, e3⟩ := item_pair (is := is) (x := .int (i : Nat)) (p := .int (i : Nat)) rs hT (.int _) (rq.mono e)
    refine ⟨.im (.tuple [.int (i : Nat), q]), ?_, e1, e2, e3⟩
    have hi2 : i < xs.length := (List.getElem?_eq_some_iff.mp hq).1
    unfold enmL
    rw [List.getElem?_map, (List.getElem?_zip_eq_some (z := (PyData.int (i : Nat), q))).mpr ⟨by simp [hi2], hq⟩]
    rfl
theorem i_enm {a : Expr} {ca : Env → M D} {es : List Expr} {k : Nat} {p tp : Pos} {is : List Nat} (hg : Gl X "enumerate") (hm : X.mg "enumerate" = none) (ha : PE X a (tE X.K W ca)) (hp : plainE a = true) :
    PI X (.Tuple es k tp) (.Call (.Name "enumerate" p) [a] [] pos) (tI X.K W (.t is) fun env => M.bind (ca env) enmK) := by
  refine ⟨fun pins s σ H R I h => ?_⟩
  obtain ⟨Mm0, env0, S0, rel0, po0⟩ := h
  have h1 := Post.bindE (R := Rep X.K) po0
  by_cases ht : ∃ xs S1, ca env0 S0 = .ok (.im (.tuple xs)) S1
  · obtain ⟨xs, S1, e1⟩ := ht
    refine (pi_enT hg hm ha (star_ok hp)).run pins s σ H R I ⟨Mm0, env0, S0, rel0, h1.imp ?_⟩
    rintro x H1 ⟨Mm, S, d, em, ev, rs, ra, po⟩
    rw [e1] at em
    cases em
    obtain ⟨adr, ws, rfl, s1, a1⟩ := ra.tupR (S := S1) rfl
    exact ⟨adr, ws, rfl, SqT.sub s1.sq (fz_sub _ _), Post.use (R := JOk X.K (.t is)) (a := enmL xs) po rs (jok_en walk_en (fun Mm2 H2 e => SqT.sub s1.sq (e.trans (fz_sub _ _))) a1)⟩
  · refine (pi_enum hg hm (pa_cons ha pa_nil (star_ok hp)) (star_ok hp)).run pins s σ H R I ⟨Mm0, env0, S0, rel0, h1.imp ?_⟩
    rintro x H1 ⟨Mm, S, d, em, ev, rs, ra, po⟩
    unfold enmK at po
    split at po
    · rename_i xs
      cases ra with
      | lst s1 a1 => exact ⟨_, _, rfl, SqL.sub s1 (fz_sub _ _), Post.use (R := JOk X.K (.t is)) (a := enmL xs) po rs (jok_en walk_enum (fun Mm2 H2 e => SqL.sub s1 (e.trans (fz_sub _ _))) a1)⟩
    · exact absurd ⟨_, _, em⟩ ht
    · exact po.elim
theorem i_enmE {a : Expr} {ca : Env → M D} {es : List Expr} {k i : Nat} {p tp : Pos} {is : List Nat} (hg : Gl X "enumerate") (hm : X.mg "enumerate" = none) (ha : PE X a (tE X.K W ca)) (hp : plainE a = true) :
    PI X (.Tuple es k tp) (.Call (.Name "enumerate" p) [a] [] pos) (tI X.K W (.e i is) fun env => M.bind (ca env) enmK) := i_enm (is := is) hg hm ha hp
end
/-! ### errors -/
/-- an own error class, as it stands -/
structure ErF (K : PySem.W.Frag) (mg : Str → Option Value) (c : String) : Prop where
  glo : mg (Str.ofString c) = some (.ref (He.ga K (Str.ofString c)))
  exc : PySem.W.excIn K (He.ga K (Str.ofString c)) He.veBase "ValueError.__new__" = true
  kp : PySem.W.keepIn K (.ref (He.ga K (Str.ofString c))) = true
  sb : PySem.W.subIn K (.ref (He.ga K (Str.ofString c))) (.type "BaseException") = some true
  ty : PySem.W.typeIn K (.ref (He.ga K (Str.ofString c))) = some (.type "type")
/-- what isinstance wants of it -/
structure ErI (K : PySem.W.Frag) (mg : Str → Option Value) (c : String) (ts : List String) (t1 : String) : Prop where
  own : ErF K mg c
  slf : PySem.W.exmOne K (.ref (He.ga K (Str.ofString c))) (.ref (He.ga K (Str.ofString c))) = some true
  is_ : ExcC K (He.ga K (Str.ofString c))
  ns : ∀ t ∈ ts, mg (Str.ofString t) = some (.ref (He.ga K (Str.ofString t)))
  no : PySem.W.kitAny K (.ref (He.ga K (Str.ofString c))) (ts.map fun t => .ref (He.ga K (Str.ofString t))) = some false
  g1 : mg (Str.ofString t1) = some (.ref (He.ga K (Str.ofString t1)))
  y1 : PySem.W.kitOne K (.ref (He.ga K (Str.ofString c))) (.ref (He.ga K (Str.ofString t1))) = some true
  g2 : mg "ValueError" = none
  y2 : PySem.W.kitOne K (.ref (He.ga K (Str.ofString c))) (.type "ValueError") = some true
section
variable {X : Cx} {W : WX} {pos : Pos}
theorem pmk_zero {c : String} {x : Str} {p : Pos} (F : ErF X.K X.mg c) (hx : x = Str.ofString c) (hg : Gl X x) (hdb : (x == ("__debug__" : Str)) = false) :
    PMk X (.Call (.Name x p) [] [] pos) (fun _ H Q => Q (.ref (He.ga X.K (Str.ofString c))) none H) := by
  subst hx
  intro pins s σ H Q I h
  refine wpAny_Call_Name_kw (ld_glob I hg F.glo ?_ hdb)
  refine PySem.W.callWith_K0 I.kIn F.kp ?_
  show wpAny _ _ (call (.ref _) []) _ _ _
  obtain ⟨bm, N, nm, qn, bs, hdct, sn, sub, ab, col, dd, k0, k1, k2, k3, k5, mN, hC, hN, hni, T⟩ := exc_obj I.kIn F.exc
  refine wpAny_call_exc_subT PySem.F.excBase_ValueError T hC hN hni (fun h' e hm => ?_) (by show 0 ≤ sizeLine; exact Nat.zero_le _)
  exact mk_of I hm (raises_own F.sb F.ty) h (I.hok.gone hm.new)
theorem s_rse {c : String} {x : Str} {p pos2 : Pos} (hc : X.calm = true) (tk : Takes X W) (F : ErF X.K X.mg c) (hx : x = Str.ofString c) (hg : Gl X x) (hdb : (x == ("__debug__" : Str)) = false) :
    PS X (.Raise (some (.Call (.Name x p) [] [] pos2)) none pos) (tS X.K W fun env S => .er c env S) :=
  PS.imp (ps_raise hc tk (pmk_zero F hx hg hdb)) fun D σ H ⟨Mm, env, S, rel, po⟩ => po Mm H σ _ Ev.refl rel rfl
/-- isinstance(e, (A, ..)), e the exception that the suite holds -/
theorem call_isET {a D : Addr} {oe : Obj} {pn : List (Addr × Obj)} (C : ExcC X.K D) (hz : Zc (.ref D) none oe) (hf : ∃ vs, oe.data = .fields vs) :
    CallR (X.suite a ((a, oe) :: pn)) (.builtin "isinstance") (fun xs H Q => ∃ (tp : Addr) (As : List Addr) (b : Bool), xs = [.ref a, .ref tp] ∧ H tp = some (.tup (As.map V.ref)) ∧ PySem.W.kitAny X.K (.ref D) (As.map Value.ref) = some b ∧ Q (.bl b) H) := by
  intro pins s σ H xs us Q I r h
  obtain ⟨tp, As, b, rfl, hT, e, q⟩ := h
  obtain ⟨u1, u2, rfl, r1, r2⟩ := vals2 r
  cases r1
  cases (show u2 = Value.ref tp from r2)
  obtain ⟨hget, _⟩ := I.pin (a, oe) (List.mem_append.mpr (.inl List.mem_cons_self))
  obtain ⟨vs, hv⟩ := hf
  have J : PySem.W.InstAt s.heap a oe D none := by
    obtain ⟨oc, od, oda, osl⟩ := oe
    obtain ⟨h1, h2⟩ := hz
    dsimp only at h1 h2 hv
    subst h1 h2 hv
    exact ⟨hget, rfl, rfl, trivial⟩
  obtain ⟨_, its, rv, o, h1, h2, n, h3⟩ := (show ObjOk X.prog X.w H s.heap tp (.tup (As.map V.ref)) from I.hok tp _ hT)
  have ei : its = As.map Value.ref := by
    have key : ∀ {As : List Addr} {ws : List Value}, Vals (As.map V.ref) ws → ws = As.map Value.ref := by
      intro As
      induction As with
      | nil => intro ws r; cases r; rfl
      | cons x l ih =>
        intro ws r
        cases r with
        | cons r1 r2 =>
          rw [ih r2]
          cases r1
          rfl
    exact key rv
  subst ei
  obtain ⟨oc, od, dt, sl⟩ := o
  simp only at h2 h3
  subst h2 h3
  exact PySem.W.kia_tup (PySem.W.handS_kitx_exc C.hg C.hk C.hs C.hd C.ha C.hn C.ht C.hm) I.kIn J h1 e (fun z => nomatch z) fun tk => ⟨.bl b, H, I.kept (t' := tk) fun _ _ z => z, rfl, q⟩
/-- classes, written -/
def nmB (sc : Scope) : List Expr → List String → Bool
  | [], [] => true
  | .Name x _ :: es, t :: ts => decide (x = Str.ofString t) && decide (sc.names.lookup x = some .globalImplicit) && !(x == ("__debug__" : Str)) && nmB sc es ts
  | _, _ => false
theorem pa_names {mg : Str → Option Value} {K : PySem.W.Frag} (hX : X.mg = mg) (hsc : ∀ x, X.env.scope.names.lookup x = some .globalImplicit → Gl X x) : ∀ {es : List Expr} {ts : List String}, nmB X.env.scope es ts = true → (∀ t ∈ ts, mg (Str.ofString t) = some (.ref (He.ga K (Str.ofString t)))) →
    PA X es (fun _ H Q => Q ((ts.map fun t => He.ga K (Str.ofString t)).map V.ref) H)
  | [], [], _, _ => PA.imp pa_nil fun σ H Q h => h
  | [], _ :: _, h, _ => by simp [nmB] at h
  | e :: es, ts, h, g => by
    unfold nmB at h
    split at h
    · contradiction
    · rename_i x p es' t ts' heq
      cases heq
      simp only [Bool.and_eq_true, Bool.not_eq_true', decide_eq_true_eq] at h
      obtain ⟨⟨⟨rfl, h1⟩, h2⟩, h3⟩ := h
      exact PA.imp (pa_cons (pe_glob (v := .ref (He.ga K (Str.ofString t))) (hsc _ h1) (by rw [hX]; exact g t List.mem_cons_self) rfl h2) (pa_names hX hsc h3 fun t ht => g t (List.mem_cons_of_mem _ ht)) rfl) fun σ H Q q => q
    · cases h
omit [PWd] in
theorem is_boot : bootBuiltins ("isinstance" : Str) = some (.builtin "isinstance") ∧ bootBuiltins ("ValueError" : Str) = some (.type "ValueError") := ⟨by decide +kernel, by decide +kernel⟩
/-- the suite that takes the error for what it is -/
theorem suite_one {a : Addr} {oe : Obj} {pn : List (Addr × Obj)} {c t1 : String} {ts : List String} {i : Nat} {n x1 : Str} {es : List Expr} {k : Nat} {p1 p2 p3 p4 p5 p6 p7 p8 p9 p10 p11 p12 p13 p14 p15 p16 p17 : Pos} (E : ErI X.K X.mg c ts t1) (hz : Zc (.ref (He.ga X.K (Str.ofString c))) none oe) (hf : ∃ vs, oe.data = .fields vs)
    (hN : X.N[i]? = some n) (hv : Vis X.env.scope n) (nd : (n == ("__debug__" : Str)) = false) (nc : (n == ("__classdict__" : Str)) = false) (hes : nmB X.env.scope es ts = true) (hi : Gl X "isinstance") (mi : X.mg "isinstance" = none) (h1 : x1 = Str.ofString t1) (g1 : Gl X x1) (d1 : (x1 == ("__debug__" : Str)) = false) (gv : Gl X "ValueError") {cf : Nat} (hl : ts.length ≤ 1000) :
    PSs (X.suite a ((a, oe) :: pn)) [.If (.Call (.Name "isinstance" p1) [.Name n p2, .Tuple es k p3] [] p4) [.Return (some (.Constant (.bool false) cf p5)) p6] [] p7,
        .Return (some (.BoolOp .And [.Call (.Name "isinstance" p8) [.Name n p9, .Name x1 p10] [] p11, .Call (.Name "isinstance" p12) [.Name n p13, .Name "ValueError" p14] [] p15] p16)) p17]
      (fun D σ H => σ[i]? = some (some (.ref a)) ∧ ∀ p o, H p = none → D.rt (.bl true) (upd H p o)) := by
  subst h1
  have cls := call_isE (X := X) (a := a) (pn := pn) E.is_ hz hf
  have tup := call_isET (X := X) (a := a) (pn := pn) E.is_ hz hf
  have nmE := fun {p : Pos} => pe_var (X := X.suite a ((a, oe) :: pn)) (i := i) (x := n) (pos := p) hN hv nd nc
  have e1 := pe_callB (p := p1) (pos := p4) tup (show Gl (X.suite a ((a, oe) :: pn)) "isinstance" from hi) mi is_boot.1 (pa_cons (nmE (p := p2)) (pa_cons (pe_tup (pos := p3) (x1 := k) (pa_names (X := X.suite a ((a, oe) :: pn)) rfl (fun x h => h) hes E.ns)) pa_nil rfl) rfl)
  have e2 := pe_callB (p := p8) (pos := p11) cls (show Gl (X.suite a ((a, oe) :: pn)) "isinstance" from hi) mi is_boot.1 (pa_cons (nmE (p := p9)) (pa_cons (pe_glob (pos := p10) (v := .ref (He.ga X.K (Str.ofString t1))) (show Gl (X.suite a ((a, oe) :: pn)) (Str.ofString t1) from g1) E.g1 rfl d1) pa_nil rfl) rfl)
  have e3 := pe_callB (p := p12) (pos := p15) cls (show Gl (X.suite a ((a, oe) :: pn)) "isinstance" from hi) mi is_boot.1 (pa_cons (nmE (p := p13)) (pa_cons (pe_bltn (pos := p14) (v := .ty "ValueError") (show Gl (X.suite a ((a, oe) :: pn)) "ValueError" from gv) E.g2 is_boot.2 rfl) pa_nil rfl) rfl)
  refine PSs.imp (pss_cons (ps_if (pt_val e1) (pss_one (ps_ret pe_bl)) pss_nil) (pss_one (ps_ret (pe_and e2 (pe_one e3))))) fun D σ H h => ?_
  obtain ⟨hs, hr⟩ := h
  refine ⟨.ref a, hs, ?_, fun p hp => ⟨p, ts.map fun t => He.ga X.K (Str.ofString t), false, rfl, upd_same, ?_, false, rfl, ?_⟩⟩
  · rw [List.length_map, List.length_map]
    exact lenSmall hl
  · rw [List.map_map]
    exact E.no
  · exact ⟨.ref a, hs, ⟨_, _, true, rfl, fun u r => r, E.y1, true, rfl, .ref a, hs, ⟨_, _, true, rfl, fun u r => r, E.y2, hr p _ hp⟩⟩⟩
def tryM (body : Env → Mem → SR) (c : String) (env : Env) (S : Mem) : SR := match body env S with
  | .er c' e1 S1 => if c' = c then .rt (.im (.bool true)) S1 else .bad
  | z => z
theorem s_try1 {body : List Stmt} {cb : Env → Mem → SR} {c t1 : String} {ts : List String} {i : Nat} {n x x1 : Str} {es : List Expr} {k : Nat} {p0 p1 p2 p3 p4 p5 p6 p7 p8 p9 p10 p11 p12 p13 p14 p15 p16 p17 p18 p19 : Pos} {cf : Nat}
    (hs : X.stack = X.env :: X.outer) (hf : X.env.frame = some X.env.locals) (hN : X.N.Nodup) (hi : X.N[i]? = some n) (hln : X.env.scope.names.lookup n = some .local) (tk : Takes X W)
    (hb : ∀ (W' : WX) (pn : List (Addr × Obj)) (xe : Value → Shared → Prop), Takes (X.tr pn xe) W' → PassesOwn (model X.prog X.w) X.A X.env xe → PSs (X.tr pn xe) body (tS X.K W' cb))
    (E : ErI X.K X.mg c ts t1) (hx : x = Str.ofString c) (gx : Gl X x) (dx : (x == ("__debug__" : Str)) = false) (nd : (n == ("__debug__" : Str)) = false) (nc : (n == ("__classdict__" : Str)) = false) (hes : nmB X.env.scope es ts = true) (hl : ts.length ≤ 1000)
    (gi : Gl X "isinstance") (mi : X.mg "isinstance" = none) (h1 : x1 = Str.ofString t1) (g1 : Gl X x1) (d1 : (x1 == ("__debug__" : Str)) = false) (gv : Gl X "ValueError") :
    PS X (.Try body [.ExceptHandler (some (.Name x p0)) (some n) [.If (.Call (.Name "isinstance" p1) [.Name n p2, .Tuple es k p3] [] p4) [.Return (some (.Constant (.bool false) cf p5)) p6] [] p7,
        .Return (some (.BoolOp .And [.Call (.Name "isinstance" p8) [.Name n p9, .Name x1 p10] [] p11, .Call (.Name "isinstance" p12) [.Name n p13, .Name "ValueError" p14] [] p15] p16)) p17] p18] [] [] p19) (tS X.K W (tryM cb c)) := by
  subst hx
  have hvis : Vis X.env.scope n := .inl hln
  have nm : Names X (Str.ofString c) (.ref (He.ga X.K (Str.ofString c))) := ⟨gx, dx, .inl E.own.glo⟩
  refine PS.imp (ps_try_as (ts := fun a cls d D σ H => cls = .ref (He.ga X.K (Str.ofString c)) ∧ d = none ∧ (∃ σ0 : L2.St, σ = σ0.set i (some (.ref a))) ∧ ∀ p o, H p = none → D.rt (.bl true) (upd H p o)) (Wout := W) (tb := fun W' => tS X.K W' cb) hs hf hN hi hln nm tk hb ?_) ?_
  · intro a oe cls d pn hz hfl
    refine ⟨fun pins s σ H D I h => ?_⟩
    obtain ⟨rfl, rfl, ⟨σ0, rfl⟩, hr⟩ := h
    have hlen : i < σ0.length := by
      have z : (σ0.set i (some (V.ref a))).length = X.N.length := I.len
      rw [List.length_set] at z
      rw [z]
      exact (List.getElem?_eq_some_iff.mp hi).1
    exact (suite_one E hz hfl hi hvis nd nc hes gi mi h1 g1 d1 gv hl).run pins s _ H D I ⟨List.getElem?_set_self hlen, hr⟩
  · intro D σ H h
    obtain ⟨Mm, env, S, rel, po⟩ := h
    refine ⟨Mm, env, S, rel, ?_⟩
    unfold tryM at po
    cases e : cb env S with
    | nx e1 S1 => rw [e] at po; exact po
    | bk e1 S1 => rw [e] at po; exact po
    | ct e1 S1 => rw [e] at po; exact po
    | rt d S1 => rw [e] at po; exact po
    | bad => rw [e] at po; exact po
    | er c' e1 S1 =>
      rw [e] at po
      dsimp only at po
      split at po
      · rename_i hc
        subst hc
        intro Mm' H' σ' cls ev rel' ei
        refine ⟨true, by rw [show cls = _ from ei]; exact E.slf, fun _ a ha => ⟨ei, rfl, ⟨σ', rfl⟩, fun p o hp => ?_⟩, fun z => by cases z⟩
        have evn : Ev Mm' H' Mm' (upd H' p o) := Ev.new rel'.rs hp
        exact po Mm' _ _ (ev.trans evn) (rel'.rs.new hp) (Rp.bl true)
      · exact po.elim
/-- the suite that stores 2 for an error that is what it is -/
theorem suite_two {a : Addr} {oe : Obj} {pn : List (Addr × Obj)} {c t1 : String} {ts : List String} {i w : Nat} {n x1 wn : Str} {es : List Expr} {k : Nat} {p1 p2 p3 p4 p7 p8 p9 p10 p11 p12 p13 p14 p15 p16 p17 q1 q2 q3 q4 q5 q6 q7 q8 q9 q10 q11 : Pos} (E : ErI X.K X.mg c ts t1) (hz : Zc (.ref (He.ga X.K (Str.ofString c))) none oe) (hf : ∃ vs, oe.data = .fields vs)
    (hNd : X.N.Nodup) (hN : X.N[i]? = some n) (hw : X.N[w]? = some wn) (hwl : X.env.scope.names.lookup wn = some .local) (hne : i ≠ w) (hv : Vis X.env.scope n) (nd : (n == ("__debug__" : Str)) = false) (nc : (n == ("__classdict__" : Str)) = false) (hes : nmB X.env.scope es ts = true) (hi : Gl X "isinstance") (mi : X.mg "isinstance" = none) (h1 : x1 = Str.ofString t1) (g1 : Gl X x1) (d1 : (x1 == ("__debug__" : Str)) = false) (gv : Gl X "ValueError") {cf1 cf2 cf3 : Nat} (hl : ts.length ≤ 1000) :
    PSs (X.suite a ((a, oe) :: pn)) [.Assign [.Name wn q1] (.Constant (.int 2) cf1 q2) q3,
        .If (.BoolOp .Or [.UnaryOp .Not (.Call (.Name "isinstance" p8) [.Name n p9, .Name x1 p10] [] p11) q4, .UnaryOp .Not (.Call (.Name "isinstance" p12) [.Name n p13, .Name "ValueError" p14] [] p15) q5] p16) [.Assign [.Name wn q6] (.Constant (.int 0) cf2 q7) q8] [] p17,
        .If (.Call (.Name "isinstance" p1) [.Name n p2, .Tuple es k p3] [] p4) [.Assign [.Name wn q9] (.Constant (.int 0) cf3 q10) q11] [] p7]
      (fun D σ H => σ[i]? = some (some (.ref a)) ∧ ∀ p o, H p = none → D.nx (σ.set w (some (.int 2))) (upd H p o)) := by
  subst h1
  have cls := call_isE (X := X) (a := a) (pn := pn) E.is_ hz hf
  have tup := call_isET (X := X) (a := a) (pn := pn) E.is_ hz hf
  have nmE := fun {p : Pos} => pe_var (X := X.suite a ((a, oe) :: pn)) (i := i) (x := n) (pos := p) hN hv nd nc
  have e1 := pe_callB (p := p1) (pos := p4) tup (show Gl (X.suite a ((a, oe) :: pn)) "isinstance" from hi) mi is_boot.1 (pa_cons (nmE (p := p2)) (pa_cons (pe_tup (pos := p3) (x1 := k) (pa_names (X := X.suite a ((a, oe) :: pn)) rfl (fun x h => h) hes E.ns)) pa_nil rfl) rfl)
  have e2 := pe_callB (p := p8) (pos := p11) cls (show Gl (X.suite a ((a, oe) :: pn)) "isinstance" from hi) mi is_boot.1 (pa_cons (nmE (p := p9)) (pa_cons (pe_glob (pos := p10) (v := .ref (He.ga X.K (Str.ofString t1))) (show Gl (X.suite a ((a, oe) :: pn)) (Str.ofString t1) from g1) E.g1 rfl d1) pa_nil rfl) rfl)
  have e3 := pe_callB (p := p12) (pos := p15) cls (show Gl (X.suite a ((a, oe) :: pn)) "isinstance" from hi) mi is_boot.1 (pa_cons (nmE (p := p13)) (pa_cons (pe_bltn (pos := p14) (v := .ty "ValueError") (show Gl (X.suite a ((a, oe) :: pn)) "ValueError" from gv) E.g2 is_boot.2 rfl) pa_nil rfl) rfl)
  have st := fun {cf : Nat} {v : Int} {pa pb pc : Pos} => ps_set (X := X.suite a ((a, oe) :: pn)) (i := w) (x := wn) (pos' := pa) (pos := pc) hNd hw (show Loc X.env.scope wn from .inl hwl) (pe_int (i := v) (j := cf) (pos := pb)) rfl (.inr hwl)
  have or_ : PT (X.suite a ((a, oe) :: pn)) (.BoolOp .Or [.UnaryOp .Not (.Call (.Name "isinstance" p8) [.Name n p9, .Name (Str.ofString t1) p10] [] p11) q4, .UnaryOp .Not (.Call (.Name "isinstance" p12) [.Name n p13, .Name "ValueError" p14] [] p15) q5] p16) _ := (pw_or (pt_not (pt_val e2)) (pw_or1 (pt_not (pt_val e3)))).pt
  refine PSs.imp (pss_cons st (pss_cons (ps_if or_ (pss_one st) pss_nil) (pss_one (ps_if (pt_val e1) (pss_one st) pss_nil)))) fun D σ H h => ?_
  obtain ⟨hs, hr⟩ := h
  have hs2 : (σ.set w (some (V.int 2)))[i]? = some (some (.ref a)) := by rw [List.getElem?_set_ne (Ne.symm hne)]; exact hs
  refine ⟨.ref a, hs2, ⟨_, _, true, rfl, fun u r => r, E.y1, true, rfl, .ref a, hs2, ⟨_, _, true, rfl, fun u r => r, E.y2, true, rfl, ?_⟩⟩⟩
  refine ⟨.ref a, hs2, ?_, fun p hp => ⟨p, ts.map fun t => He.ga X.K (Str.ofString t), false, rfl, upd_same, ?_, false, rfl, hr p _ hp⟩⟩
  · rw [List.length_map, List.length_map]
    exact lenSmall hl
  · rw [List.map_map]
    exact E.no
def try2M (body : Env → Mem → SR) (c : String) (i w : Nat) (env : Env) (S : Mem) : SR := match body env S with
  | .er c' e1 S1 => if c' = c then .nx ((e1.set w (some (.im (.int 2)))).set i none) S1 else .bad
  | z => z
theorem s_try2 {body : List Stmt} {cb : Env → Mem → SR} {c t1 : String} {ts : List String} {i w : Nat} {n x x1 wn : Str} {es : List Expr} {k : Nat} {p0 p1 p2 p3 p4 p7 p8 p9 p10 p11 p12 p13 p14 p15 p16 p17 p18 p19 q1 q2 q3 q4 q5 q6 q7 q8 q9 q10 q11 : Pos} {cf1 cf2 cf3 : Nat}
    (hs : X.stack = X.env :: X.outer) (hf : X.env.frame = some X.env.locals) (hN : X.N.Nodup) (hi : X.N[i]? = some n) (hln : X.env.scope.names.lookup n = some .local) (hw : X.N[w]? = some wn) (hwl : X.env.scope.names.lookup wn = some .local) (hne : i ≠ w) (tk : Takes X W)
    (hb : ∀ (W' : WX) (pn : List (Addr × Obj)) (xe : Value → Shared → Prop), Takes (X.tr pn xe) W' → PassesOwn (model X.prog X.w) X.A X.env xe → PSs (X.tr pn xe) body (tS X.K W' cb))
    (E : ErI X.K X.mg c ts t1) (hx : x = Str.ofString c) (gx : Gl X x) (dx : (x == ("__debug__" : Str)) = false) (nd : (n == ("__debug__" : Str)) = false) (nc : (n == ("__classdict__" : Str)) = false) (hes : nmB X.env.scope es ts = true) (hl : ts.length ≤ 1000)
    (gi : Gl X "isinstance") (mi : X.mg "isinstance" = none) (h1 : x1 = Str.ofString t1) (g1 : Gl X x1) (d1 : (x1 == ("__debug__" : Str)) = false) (gv : Gl X "ValueError") :
    PS X (.Try body [.ExceptHandler (some (.Name x p0)) (some n) [.Assign [.Name wn q1] (.Constant (.int 2) cf1 q2) q3,
        .If (.BoolOp .Or [.UnaryOp .Not (.Call (.Name "isinstance" p8) [.Name n p9, .Name x1 p10] [] p11) q4, .UnaryOp .Not (.Call (.Name "isinstance" p12) [.Name n p13, .Name "ValueError" p14] [] p15) q5] p16) [.Assign [.Name wn q6] (.Constant (.int 0) cf2 q7) q8] [] p17,
        .If (.Call (.Name "isinstance" p1) [.Name n p2, .Tuple es k p3] [] p4) [.Assign [.Name wn q9] (.Constant (.int 0) cf3 q10) q11] [] p7] p18] [] [] p19) (tS X.K W (try2M cb c i w)) := by
  subst hx
  have hvis : Vis X.env.scope n := .inl hln
  have nm : Names X (Str.ofString c) (.ref (He.ga X.K (Str.ofString c))) := ⟨gx, dx, .inl E.own.glo⟩
  refine PS.imp (ps_try_as (ts := fun a cls d D σ H => cls = .ref (He.ga X.K (Str.ofString c)) ∧ d = none ∧ (∃ σ0 : L2.St, σ = σ0.set i (some (.ref a))) ∧ ∀ p o, H p = none → D.nx (σ.set w (some (.int 2))) (upd H p o)) (Wout := W) (tb := fun W' => tS X.K W' cb) hs hf hN hi hln nm tk hb ?_) ?_
  · intro a oe cls d pn hz hfl
    refine ⟨fun pins s σ H D I h => ?_⟩
    obtain ⟨rfl, rfl, ⟨σ0, rfl⟩, hr⟩ := h
    have hlen : i < σ0.length := by
      have z : (σ0.set i (some (V.ref a))).length = X.N.length := I.len
      rw [List.length_set] at z
      rw [z]
      exact (List.getElem?_eq_some_iff.mp hi).1
    exact (suite_two E hz hfl hN hi hw hwl hne hvis nd nc hes gi mi h1 g1 d1 gv hl).run pins s _ H D I ⟨List.getElem?_set_self hlen, hr⟩
  · intro D σ H h
    obtain ⟨Mm, env, S, rel, po⟩ := h
    refine ⟨Mm, env, S, rel, ?_⟩
    unfold try2M at po
    cases e : cb env S with
    | nx e1 S1 => rw [e] at po; exact po
    | bk e1 S1 => rw [e] at po; exact po
    | ct e1 S1 => rw [e] at po; exact po
    | rt d S1 => rw [e] at po; exact po
    | bad => rw [e] at po; exact po
    | er c' e1 S1 =>
      rw [e] at po
      dsimp only at po
      split at po
      · rename_i hc
        subst hc
        intro Mm' H' σ' cls ev rel' ei
        refine ⟨true, by rw [show cls = _ from ei]; exact E.slf, fun _ a ha => ⟨ei, rfl, ⟨σ', rfl⟩, fun p o hp => ?_⟩, fun z => by cases z⟩
        have evn : Ev Mm' H' Mm' (upd H' p o) := Ev.new rel'.rs hp
        have e3 : ((σ'.set i (some (V.ref a))).set w (some (.int 2))).set i none = (σ'.set w (some (.int 2))).set i none := by
          rw [List.set_comm _ _ hne, List.set_set]
        show D.nx (((σ'.set i (some (V.ref a))).set w (some (.int 2))).set i none) _
        rw [e3]
        have r2 : Rel X.K Mm' (upd H' p o) σ' e1 S1 := rel'.mono evn (rel'.rs.new hp)
        have r3 := (r2.set (i := w) (v := .int 2) (d := .im (.int 2)) (Rp.int 2)).wipe [i]
        exact po Mm' _ _ (ev.trans evn) r3
      · exact po.elim
end
/-! ### extend -/
set_option maxHeartbeats 1000000 in
omit [PWd] in
theorem ext_list (l : Addr) (items : Array Value) (n : Nat) (b : Addr) (ys : Array Value) (m : Nat) (dd : Option Addr) (sl : Array (Option Value)) (h0 : ¬(!items.isEmpty && Builtin.List.listTooLong (items.size + ys.size)) = true) (h1 : items.size ≤ sizeLine) (h2 : items.size + ys.size ≤ sizeLine + 1) :
    Meets (Builtin.«list.extend» ⟨[.ref l, .ref b], []⟩) (fun _ R s => s.heap.get? l = some { cls := .type "list", dict := none, data := .seq items n, slots := #[] } ∧ s.heap.get? b = some { cls := .type "list", dict := dd, data := .seq ys m, slots := sl } ∧ R (.ok (.ret Value.none)) { s with heap := s.heap.update l (Obj.mapSeq fun x => x ++ ys), toks := s.toks }) :=
  .of_wp fun prog w A R s h => by
    obtain ⟨hp, g, d, tk, os⟩ := s
    obtain ⟨hl, hb, h⟩ := h
    have q1 := AutoSeq1.idx_int
    have q2 := AutoSeq1.sub_tuple_tuple
    have q3 := AutoSeq1.sub_list_list
    have q4 := AutoSeq1.sub_tuple_list
    have q5 := AutoSeq1.sub_list_tuple
    have hz' : (items ++ ys).size ≤ sizeLine + 1 := by rw [Array.size_append]; exact h2
    wp_walk using (wpAny_updateSeq hl rfl (hz := h1) (_hz' := hz')), AutoSeq1.wpAny_loadPart' hl, AutoSeq1.wpAny_loadPart' hb
    exact ⟨_, rfl, h⟩
set_option maxHeartbeats 1000000 in
omit [PWd] in
theorem ext_tuple (l : Addr) (items : Array Value) (n : Nat) (b : Addr) (ys : Array Value) (m : Nat) (dd : Option Addr) (sl : Array (Option Value)) (h0 : ¬(!items.isEmpty && Builtin.List.listTooLong (items.size + ys.size)) = true) (h1 : items.size ≤ sizeLine) (h2 : items.size + ys.size ≤ sizeLine + 1) :
    Meets (Builtin.«list.extend» ⟨[.ref l, .ref b], []⟩) (fun _ R s => s.heap.get? l = some { cls := .type "list", dict := none, data := .seq items n, slots := #[] } ∧ s.heap.get? b = some { cls := .type "tuple", dict := dd, data := .seq ys m, slots := sl } ∧ R (.ok (.ret Value.none)) { s with heap := s.heap.update l (Obj.mapSeq fun x => x ++ ys), toks := s.toks }) :=
  .of_wp fun prog w A R s h => by
    obtain ⟨hp, g, d, tk, os⟩ := s
    obtain ⟨hl, hb, h⟩ := h
    have q1 := AutoSeq1.idx_int
    have q2 := AutoSeq1.sub_tuple_tuple
    have q3 := AutoSeq1.sub_list_list
    have q4 := AutoSeq1.sub_tuple_list
    have q5 := AutoSeq1.sub_list_tuple
    have hz' : (items ++ ys).size ≤ sizeLine + 1 := by rw [Array.size_append]; exact h2
    wp_walk using (wpAny_updateSeq hl rfl (hz := h1) (_hz' := hz')), AutoSeq1.wpAny_loadPart' hl, AutoSeq1.wpAny_loadPart' hb
    exact ⟨_, rfl, h⟩
section
variable {X : Cx}
theorem mt_extendD {E : XK} : MtR X "list.extend" (rM1 X.K E extendD) := by
  rintro pins s σ H x xs v us Q I rx rv ⟨y, Mm, S, d, e, rfl, rs, r, r1, po⟩
  unfold extendD at po
  split at po
  · split at po
    · rename_i i _ _ zs ys h hs
      split at po
      · rename_i c
        obtain ⟨a, ws, rfl, ha, hH, a1⟩ := rs.lstAt r h
        cases rx
        obtain ⟨u, rfl, ru⟩ := vals1 rv
        obtain ⟨z, its, n, rr, hl, e1⟩ := I.lstM hH
        have lw := a1.length
        have fin : ∀ (vs2 : List V) (its2 : List Value), RpA X.K (fz Mm H) vs2 ys → Vals vs2 its2 → EP X pins σ Q .none { s with heap := s.heap.update a (Obj.mapSeq fun x => x ++ its2.toArray), toks := s.toks } := fun vs2 its2 ra r2 => by
          have lv := ra.length
          refine ⟨.non, _, I.lset (its' := its ++ its2) (t' := s.toks) hH e1 (by simp) (rr.append r2) ?_, rfl, Post.setL rs ha ⟨_, hH, rfl⟩ (a1.append ra) po Rp.non⟩
          rw [List.length_append]
          omega
        have sz : ∀ {vs2 : List V} {its2 : List Value}, RpA X.K (fz Mm H) vs2 ys → Vals vs2 its2 → its.toArray.size + its2.toArray.size ≤ sizeLine := fun {vs2 its2} ra r2 => by
          have lv := ra.length
          have l2 := r2.length
          rw [List.size_toArray, List.size_toArray]
          omega
        have nl : ∀ {k : Nat}, its.toArray.size + k ≤ sizeLine → ¬ (!its.toArray.isEmpty && Builtin.List.listTooLong (its.toArray.size + k)) = true := fun {k} h => by
          rw [notLongL h, Bool.and_false]
          exact Bool.false_ne_true
        rcases seqOf_some hs with hs | hs
        · obtain ⟨b, vs2, rfl, sq, ra⟩ := r1.listR rs hs
          cases ru
          obtain ⟨its2, r2, ⟨o, n2, ho, hcl, hdd, hda⟩, _⟩ := I.list sq
          obtain ⟨oc, od, dt, osl⟩ := o
          dsimp only at hcl hdd hda
          subst hcl hdd hda
          exact call_meets F.slot_list_extend ⟨_, e1, rfl⟩ F.entry_list_extend (F.args_list_extend_2 _ _) (ext_list a its.toArray n b its2.toArray n2 _ osl (nl (sz ra r2)) (by rw [List.size_toArray]; omega) (Nat.le_succ_of_le (sz ra r2))) ⟨e1, ho, fin _ _ ra r2⟩
        · obtain ⟨b, vs2, rfl, sq, ra⟩ := r1.tupR hs
          cases ru
          obtain ⟨its2, r2, tp, _⟩ := I.tuple (SqT.sub sq.sq (fz_sub _ _))
          obtain ⟨o, ho, hcl, n2, hda⟩ := (show s.heap.IsTuple b its2.toArray from tp)
          obtain ⟨oc, od, dt, osl⟩ := o
          dsimp only at hcl hda
          subst hcl hda
          exact call_meets F.slot_list_extend ⟨_, e1, rfl⟩ F.entry_list_extend (F.args_list_extend_2 _ _) (ext_tuple a its.toArray n b its2.toArray n2 od osl (nl (sz ra r2)) (by rw [List.size_toArray]; omega) (Nat.le_succ_of_le (sz ra r2))) ⟨e1, ho, fin _ _ ra r2⟩
      · exact po.elim
    · exact po.elim
  · exact po.elim
end
/-! ### sorted(set(..)), min(..) of data -/
omit [PWd] in
theorem dd_mem : ∀ {ns : List Int} {x : Int}, x ∈ dd ns ↔ x ∈ ns
  | [], _ => Iff.rfl
  | y :: r, x => by
    unfold dd
    by_cases h : y ∈ r
    · rw [if_pos h, dd_mem, List.mem_cons]
      exact ⟨.inr, fun z => z.elim (fun e => e ▸ h) id⟩
    · rw [if_neg h, List.mem_cons, List.mem_cons, dd_mem]
omit [PWd] in
theorem dd_nodup : ∀ {ns : List Int}, (dd ns).Nodup
  | [] => List.nodup_nil
  | y :: r => by
    unfold dd
    split
    · exact dd_nodup
    · rename_i h
      exact List.nodup_cons.mpr ⟨fun z => h (dd_mem.mp z), dd_nodup⟩
omit [PWd] in
theorem nodup_len : ∀ (l D : List Int), l.Nodup → (∀ x ∈ l, x ∈ D) → l.length ≤ D.length
  | [], _, _, _ => Nat.zero_le _
  | x :: l, D, hn, hs => by
    obtain ⟨h1, h2⟩ := List.nodup_cons.mp hn
    have hx : x ∈ D := hs x List.mem_cons_self
    have ih := nodup_len l (D.erase x) h2 fun y hy => (List.mem_erase_of_ne (fun e : y = x => h1 (by rw [← e]; exact hy))).2 (hs y (List.mem_cons_of_mem _ hy))
    have e := List.length_erase_of_mem hx
    have hp : 0 < D.length := List.length_pos_of_mem hx
    rw [List.length_cons]
    omega
omit [PWd] in
/-- two rising lists of the same numbers -/
theorem rise_one : ∀ {a b : List Int}, a.Pairwise (· < ·) → b.Pairwise (· < ·) → (∀ x, x ∈ a ↔ x ∈ b) → a = b
  | [], [], _, _, _ => rfl
  | [], y :: b, _, _, h => by have := (h y).mpr List.mem_cons_self; cases this
  | x :: a, [], _, _, h => by have := (h x).mp List.mem_cons_self; cases this
  | x :: a, y :: b, ha, hb, h => by
    obtain ⟨a1, a2⟩ := List.pairwise_cons.mp ha
    obtain ⟨b1, b2⟩ := List.pairwise_cons.mp hb
    have exy : x = y := by
      rcases List.mem_cons.mp ((h x).mp List.mem_cons_self) with e | e
      · exact e
      · rcases List.mem_cons.mp ((h y).mpr List.mem_cons_self) with e2 | e2
        · exact e2.symm
        · have := b1 x e
          have := a1 y e2
          omega
    subst exy
    rw [rise_one a2 b2 fun z => ?_]
    constructor
    · intro hz
      rcases List.mem_cons.mp ((h z).mp (List.mem_cons_of_mem _ hz)) with e | e
      · subst e; exact absurd (a1 z hz) (Int.lt_irrefl _)
      · exact e
    · intro hz
      rcases List.mem_cons.mp ((h z).mpr (List.mem_cons_of_mem _ hz)) with e | e
      · subst e; exact absurd (b1 z hz) (Int.lt_irrefl _)
      · exact e
omit [PWd] in
theorem srtI_rise (ns : List Int) : (srtI ns).Pairwise (· < ·) := by
  have h1 : (srtI ns).Pairwise (fun a b => decide (a ≤ b) = true) := List.pairwise_mergeSort (fun a b c h1 h2 => by simp at h1 h2 ⊢; omega) (fun a b => by simp; omega) _
  have h2 : (srtI ns).Nodup := (List.mergeSort_perm _ _).nodup_iff.mpr dd_nodup
  exact (h1.and h2).imp fun {a b} h => by
    have := h.1
    have := h.2
    simp at *
    omega
omit [PWd] in
theorem srtI_mem {ns : List Int} {x : Int} : x ∈ srtI ns ↔ x ∈ ns := ((List.mergeSort_perm _ _).mem_iff).trans dd_mem
section
variable {X : Cx} {W : WX} {pos : Pos} {a : Expr} {ca : Env → M D}
omit [PWd] in
/-- the least of a list of like data, and where it stands -/
theorem min_at {prog : Program} {w : World} {A : Around} {E : Value → Shared → Prop} {s : Shared} {l : Addr} {us : Array Value} {x : PyData} {xs : List PyData} {as : List Addr} {Q : Value → Shared → Prop} (hh : A.handled = none) (hl : s.heap.IsList l us) (hr : ReadsAll s.heap us.toList (x :: xs) as)
    (ha : (∀ a ∈ x :: xs, ∀ b ∈ x :: xs, PySem.W.alike a b = true) ∧ ∀ a ∈ x :: xs, a ≠ .none) (hu : A.units + 1 + PyData.depthAll (x :: xs) < cLine)
    (h : ∀ (i : Nat) v h' tk, us[i]? = some v → (x :: xs)[i]? = some (PySem.W.minD x xs) → (∀ b o, s.heap.get? b = some o → h'.get? b = some o) → Q v { s with heap := h', toks := tk }) :
    wpAny (model prog w) A (call (.builtin "min") [.ref l]) Q E s := by
  have size := PySem.W.readsAll_len hr
  refine call_min_walkH (PySem.W.iter_listW (A := A.in1) hh hl fun s₂ e wk st hfp hw hk => ?_)
  refine ⟨_, _, _, _, _, _, _, s.heap, _, rfl, wk, st, hfp, by rw [size]; exact Nat.succ_pos _, hw, hk, PySem.W.cmpIn_lt (A := A.in1) hr ha (by show A.units + 1 + _ < _; exact hu), fun v s' hP m => ?_⟩
  obtain ⟨h', tk, rfl, hk'⟩ := PySem.W.moved_old e rfl m
  have e1 : us.size - 1 = xs.length := by rw [size]; rfl
  obtain ⟨b1, b2⟩ := PySem.W.argBest_fold PySem.W.dataLt PyData.none x xs xs.length (Nat.le_refl _)
  rw [List.take_length] at b2
  refine h _ v h' tk hP ?_ hk'
  rw [e1]
  rw [List.getElem?_eq_getElem (Nat.lt_succ_of_le b1)]
  rw [List.getD_eq_getElem?_getD, List.getElem?_eq_getElem (Nat.lt_succ_of_le b1), Option.getD_some] at b2
  exact congrArg some b2
omit [PWd] in
theorem canSort_none {xs : List PyData} (h : canSort xs = true) : ∀ d ∈ xs, d ≠ .none := fun d hd e => by
  subst e
  rcases canSort_able h with h | h
  · obtain ⟨_, _, z⟩ := h _ hd
    cases z
  · exact (h _ hd).1 rfl
omit [PWd] in
theorem depthAll_le {n : Nat} : ∀ {xs : List PyData}, (∀ d ∈ xs, d.depth ≤ n) → PyData.depthAll xs ≤ n
  | [], _ => Nat.zero_le _
  | x :: r, h => by
    rw [PyData.depthAll]
    exact Nat.max_le.mpr ⟨h x List.mem_cons_self, depthAll_le fun d hd => h d (List.mem_cons_of_mem _ hd)⟩
theorem cr_setI (hc : X.calm = true) (hu : X.A.units + 67 < cLine) : CallR X (.type "set") (fun xs H Q => ∃ (l : Addr) (ns : List Int), xs = [.ref l] ∧ (SqL X.K H l (ns.map V.int) ∨ SqT X.K H l (ns.map V.int)) ∧ ns.length ≤ 4000 ∧ ∀ p c, H p = none → c ≤ (dd ns).length → Q (.ref p) (upd H p (SetO X.w p (fun j => decide (j ∈ ns)) c))) := by
  rintro pins s σ H xs us Q I r ⟨l, ns, rfl, hl, hn, q⟩
  rw [Vals.ref1 r]
  obtain ⟨T, its, o, n, hT, rv, ho, hcl, hd, hz⟩ := Inv.seq I hl
  have hi := ints_of_vals rv
  have hsz : its.toArray.size = ns.length := by rw [List.size_toArray, ← rv.length, List.length_map]
  refine SG.call_set (I.ok.hd hc) hT ho hcl hd (by omega) (fill_int ns (by simpa using hi) (by unfold scanBound; omega)) (fun h e => ji_zero ns h e) fun h' tk J k => ?_
  obtain ⟨c, hcn, R⟩ := J
  rw [hsz, List.take_length] at R
  have hc2 : c ≤ (dd ns).length := by
    obtain ⟨o, es, ep, t, ho, hex, hdt, g, nd, hm2, hb, hf, hne, hr, hl2⟩ := R
    rw [← hne]
    have e : es.size = (es.toList.map keyOf).length := by simp
    rw [e]
    exact nodup_len _ _ nd fun x hx => dd_mem.mpr (of_decide_eq_true ((hm2 x).mpr hx))
  exact ⟨.ref s.heap.objs.size, upd H s.heap.objs.size (SetO X.w s.heap.objs.size (fun j => decide (j ∈ ns)) c), I.laid (t' := tk) k (Nat.le_refl _) (setO_new R), rfl, q _ _ (I.hok.fresh (Nat.le_refl _)) hc2⟩
omit [PWd] in
theorem boot_srs : bootBuiltins ("set" : Str) = some (.type "set") ∧ bootBuiltins ("sorted" : Str) = some (.builtin "sorted") ∧ bootBuiltins ("min" : Str) = some (.builtin "min") := ⟨by decide +kernel, by decide +kernel, by decide +kernel⟩
/-- a list or a tuple, read -/
theorem Rep.seqR {K : PySem.W.Frag} {Mm : MM} {H : Hp} {S : Mem} {v : V} {d : D} {xs : List PyData} (r : Rep K Mm H v d) (rs : RS K Mm H S) (h : seqOf S d = some xs) : ∃ a vs, v = .ref a ∧ (SqL K H a vs ∨ SqT K H a vs) ∧ RpA K (fz Mm H) vs xs := by
  rcases seqOf_some h with h | h
  · obtain ⟨a, vs, rfl, s1, a1⟩ := r.listR rs h
    exact ⟨a, vs, rfl, .inl s1, a1⟩
  · obtain ⟨a, vs, rfl, s1, a1⟩ := r.tupR h
    exact ⟨a, vs, rfl, .inr (SqT.sub s1.sq (fz_sub _ _)), a1⟩
omit [PWd] in
theorem ints_rp {K : PySem.W.Frag} {G : Hp} : ∀ zs : List Int, RpA K G (zs.map V.int) (zs.map PyData.int)
  | [] => .nil
  | z :: r => .cons (.int z) (ints_rp r)
theorem e_srs {p p2 pos2 : Pos} (hc : X.calm = true) (hu : X.A.units + 67 < cLine) (hg : Gl X "sorted") (hm : X.mg "sorted" = none) (hg2 : Gl X "set") (hm2 : X.mg "set" = none) (ha : PE X a (tE X.K W ca)) (hp : plainE a = true) :
    PE X (.Call (.Name "sorted" p) [.Call (.Name "set" p2) [a] [] pos2] [] pos) (tE X.K W fun env => M.bind (ca env) srsK) := by
  have e1 := pe_callTy (p := p2) (pos := pos2) ((cr_setI hc hu).or (cr_setM hc hu)) hg2 hm2 boot_srs.1 (pa_cons ha pa_nil (star_ok hp)) (by decide) (by decide) (star_ok hp) rfl
  refine PE.imp (pe_callB (p := p) (pos := pos) ((cr_sortedSet hc).or (cr_sortM hc hu)) hg hm boot_srs.2.1 (pa_cons e1 pa_nil rfl) (by decide) (by decide) rfl rfl) fun σ H Q h => ?_
  refine (tM.bind (R := Rep X.K) (m := ca) (f := fun _ => srsK) h).imp ?_
  rintro x H1 ⟨Mm, env, S, d, rel, ra, po⟩
  unfold srsK at po
  split at po
  · rename_i xs hx
    obtain ⟨adr, vs, rfl, s1, a1⟩ := ra.seqR rel.rs hx
    split at po
    · rename_i ns hns
      split at po
      · rename_i c
        have ev := a1.ints hns
        subst ev
        refine .inl ⟨adr, ns, rfl, s1, c.1, fun q n hq hn => ?_⟩
        have evn : Ev Mm H1 Mm (upd H1 q (SetO X.w q (fun j => decide (j ∈ ns)) n)) := Ev.new rel.rs hq
        have rs2 := rel.rs.new (o := SetO X.w q (fun j => decide (j ∈ ns)) n) hq
        refine .inl ⟨q, _, n, rfl, upd_same, by omega, fun zs p hz hmem hzl hpn => ?_⟩
        have ez : zs = srtI ns := rise_one hz (srtI_rise ns) fun k => by rw [hmem, decide_eq_true_eq, srtI_mem]
        subst ez
        exact po.use' (evn.trans (Ev.new rs2 hpn)) (rs2.new hpn) (Rep.lst rs2 hpn (ints_rp _))
      · exact po.elim
    · split at po
      · rename_i ks hks
        split at po
        · rename_i c
          have exs := ktDs_some hks
          subst exs
          obtain ⟨ps, rfl, e2, hps⟩ := a1.keysT
          have hk : ∀ p ∈ ps, SqT X.K H1 p.1 (p.2.map kV) := fun p hp => by
            obtain ⟨b, eb, tb⟩ := (hps p hp).keyT
            cases eb
            exact SqT.sub tb.sq (fz_sub _ _)
          refine .inr ⟨adr, ps, rfl, s1, hk, by rw [← e2, List.length_map] at c; exact c.1, fun q L hq hL hL2 => ?_⟩
          have evn : Ev Mm H1 Mm (upd H1 q (SetM X.prog X.w q L)) := Ev.new rel.rs hq
          have rs2 := rel.rs.new (o := SetM X.prog X.w q L) hq
          have mem : ∀ k, k ∈ L.map (·.2) ↔ k ∈ ddK ks := fun k => by
            rw [ddK_mem, ← e2]
            constructor
            · intro h
              obtain ⟨p, hp, rfl⟩ := List.mem_map.mp h
              exact List.mem_map.mpr ⟨p, hL p hp, rfl⟩
            · intro h
              obtain ⟨p, hp, rfl⟩ := List.mem_map.mp h
              exact hL2 p hp
          have cs : canSort ((L.map (·.2)).map encK) = true := canSort_sub c.2 fun x hx => by
            obtain ⟨k, hk, rfl⟩ := List.mem_map.mp hx
            exact List.mem_map.mpr ⟨k, ddK_mem.mp ((mem k).mp hk), rfl⟩
          refine .inr ⟨q, L, fz Mm (upd H1 q (SetM X.prog X.w q L)), rfl, upd_same, fz_sub _ _, fun p hp => (hps p (hL p hp)).mono evn.sub, cs, fun nd p ws hpn hw => ?_⟩
          have pm : (L.map (·.2)).Perm (ddK ks) := (List.perm_ext_iff_of_nodup nd ddK_nodup).mpr mem
          rw [sortP_keys pm cs] at hw
          exact po.use' (evn.trans (Ev.new rs2 hpn)) (rs2.new hpn) (Rep.lst rs2 hpn hw)
        · exact po.elim
      · exact po.elim
  · exact po.elim
/-- min(l, default=d) -/
theorem cr_mdf {E : XK} (hc : X.calm = true) (hu : X.A.units + 67 < cLine) : CallRK X (.builtin "min") [Str.ofString "default"] (fun vs zs H Q => ∃ v w Mm S d e, vs = [v] ∧ zs = [w] ∧ RS X.K Mm H S ∧ Rep X.K Mm H v d ∧ Rep X.K Mm H w e ∧ Post X.K (Rep X.K) E Mm H Q (mdfK d e S)) := by
  rintro pins s σ H vs zs us ws Q I r rz ⟨v, w, Mm, S, d, e, rfl, rfl, rs, rd, re, po⟩
  obtain ⟨u2, rfl, ru2⟩ : ∃ u2, ws = [u2] ∧ RelV w u2 := by
    cases rz with
    | cons q t => cases t; exact ⟨_, rfl, q⟩
  unfold mdfK at po
  cases hn : intsOf S d with
  | none => rw [hn] at po; exact po.elim
  | some ns =>
    rw [hn] at po
    obtain ⟨a, rfl, sq⟩ := intsOf_some rd rs hn
    rw [Vals.ref1 r]
    obtain ⟨its, rv, pl, hz⟩ := I.list sq
    have dp : DpAll X.K H (ns.map V.int) (ns.map PyData.int) := by
      have key : ∀ l : List Int, DpAll X.K H (l.map V.int) (l.map PyData.int) := fun l => by
        induction l with
        | nil => exact .nil
        | cons z r ih => exact .cons (.int z) ih
      exact key ns
    obtain ⟨as, hr⟩ := Dp.readsAll I _ _ its dp rv
    have al : (∀ x ∈ ns.map PyData.int, ∀ y ∈ ns.map PyData.int, PySem.W.alike x y = true) ∧ ∀ x ∈ ns.map PyData.int, x ≠ .none := by
      refine ⟨fun x hx y hy => ?_, fun x hx e => ?_⟩
      · obtain ⟨i, _, rfl⟩ := List.mem_map.mp hx
        obtain ⟨j, _, rfl⟩ := List.mem_map.mp hy
        rw [PySem.W.alike]
      · obtain ⟨i, _, rfl⟩ := List.mem_map.mp hx
        cases e
    have dep : PyData.depthAll (ns.map PyData.int) ≤ 0 := depthAll_le fun x hx => by
      obtain ⟨i, _, rfl⟩ := List.mem_map.mp hx
      exact Nat.le_refl _
    refine PySem.W.min_list_default (vs := its.toArray) (I.ok.hd hc) pl.isList (by simpa using hr) al (by omega) (fun e0 h' tk hk => ?_) fun y ys i v h' tk bs e0 hv hrd hk => ?_
    · have e1 : ns = [] := List.map_eq_nil_iff.mp e0
      subst e1
      exact ⟨w, H, I.kept (t' := tk) hk, ru2, po.use rs re⟩
    · cases ns with
      | nil => cases e0
      | cons n r =>
        rw [List.map_cons] at e0
        injection e0 with e1 e2
        subst e1 e2
        have hm : ∀ (r : List Int) (n : Int), PySem.W.minD (.int n) (r.map PyData.int) = .int (minL n r) := fun r => by
          induction r with
          | nil => exact fun n => rfl
          | cons z r ih =>
            intro n
            show List.foldl _ (if PySem.W.dataLt (.int z) (.int n) = true then PyData.int z else .int n) (r.map PyData.int) = _
            rw [PySem.W.dataLt_int, minL]
            by_cases c : z < n
            · rw [if_pos (decide_eq_true c), if_pos c]
              exact ih z
            · rw [if_neg (by rw [decide_eq_false c]; exact Bool.false_ne_true), if_neg c]
              exact ih n
        rw [hm] at hrd
        cases hrd
        exact ⟨.int (minL n r), H, I.kept (t' := tk) hk, ⟨_, rfl⟩, po.use rs (Rp.int _)⟩
theorem e_mdf {d : Expr} {cd : Env → M D} {p k : Pos} (hc : X.calm = true) (hu : X.A.units + 67 < cLine) (hg : Gl X "min") (hm : X.mg "min" = none) (ha : PE X a (tE X.K W ca)) (hd : PE X d (tE X.K W cd)) (hp : plainE a = true) :
    PE X (.Call (.Name "min" p) [a] [⟨some "default", d, k⟩] pos) (tE X.K W fun env => M.bind (ca env) fun x => M.bind (cd env) fun y => mdfK x y) := by
  refine ⟨fun pins s σ H Q I h => ?_⟩
  refine (pe_callBK (p := p) (pos := pos) (ks := [Str.ofString "default"]) (cr_mdf (E := WE W σ) hc hu) hg hm boot_srs.2.2 (pa_cons ha pa_nil (star_ok hp)) (pk_cons (nm := some "default") (kpos := k) hd pk_nil) (by decide) (by decide) (by rw [star_ok hp]; rfl) (by rw [star_ok hp]; rfl) rfl rfl rfl).run pins s σ H Q I ?_
  refine (tM.bind (R := Rep X.K) (m := ca) (f := fun env x => M.bind (cd env) fun y => mdfK x y) h).imp ?_
  rintro x H1 ⟨Mm, env, S, e1, rel, ra, po⟩
  refine ⟨Mm, env, S, rel, (Post.bind (R := Rep X.K) po).imp ?_⟩
  rintro y H2 ⟨Mm2, S2, e2, ev, rs, rb, po2⟩
  exact ⟨x, y, Mm2, S2, e1, e2, rfl, rfl, rs, ra.mono ev, rb, po2⟩
theorem cr_mnd {E : XK} (hc : X.calm = true) (hu : X.A.units + 67 < cLine) : CallR X (.builtin "min") (rC1 X.K E mndK) := by
  rintro pins s σ H vs us Q I r ⟨v, Mm, S, d, rfl, rs, rd, po⟩
  unfold mndK at po
  split at po
  · rename_i x xs hx
    split at po
    · rename_i c
      obtain ⟨adr, ws, rfl, sq, ra⟩ := rd.listR rs hx
      rw [Vals.ref1 r]
      obtain ⟨its, rv, pl, hz⟩ := I.list sq
      have al := canSort_alike c
      have dp : DpAll X.K H ws (x :: xs) := (ra.mono (fz_sub _ _)).dpS (by
        have key : ∀ ys : List PyData, (∀ a ∈ ys, a ∈ x :: xs) → PySem.W.alikeAll ys ys = true := by
          intro ys
          induction ys with
          | nil => intro _; rfl
          | cons y r ih => intro h; rw [PySem.W.alikeAll, al y (h y List.mem_cons_self) y (h y List.mem_cons_self), ih fun a ha => h a (List.mem_cons_of_mem _ ha)]; rfl
        exact key _ fun a h => h)
      obtain ⟨as, hr⟩ := Dp.readsAll I (x :: xs) ws its dp rv
      have dl := depthAll_le (canSort_depth c)
      refine min_at (us := its.toArray) (I.ok.hd hc) pl.isList (by simpa using hr) ⟨al, canSort_none c⟩ (by omega) fun i v h' tk hv hm hk => ?_
      have hv' : its[i]? = some v := by simpa using hv
      have hi : i < ws.length := by
        have z := (List.getElem?_eq_some_iff.mp hv').1
        rw [rv.length]
        exact z
      have hw : ws[i]? = some ws[i] := List.getElem?_eq_getElem hi
      obtain ⟨u2, hu2, ru⟩ := rv.get hw
      rw [hv'] at hu2
      cases hu2
      obtain ⟨p, hp, rp⟩ := ra.get' hw
      rw [hm] at hp
      cases hp
      exact ⟨ws[i], H, I.kept (t' := tk) hk, ru, po.use rs rp⟩
    · exact po.elim
  · exact po.elim
theorem e_mnd {p : Pos} (hc : X.calm = true) (hu : X.A.units + 67 < cLine) (hg : Gl X "min") (hm : X.mg "min" = none) (ha : PE X a (tE X.K W ca)) (hp : plainE a = true) :
    PE X (.Call (.Name "min" p) [a] [] pos) (tE X.K W fun env => M.bind (ca env) mndK) := by
  refine ⟨fun pins s σ H Q I h => ?_⟩
  refine (pe_callB (p := p) (pos := pos) (cr_mnd (E := WE W σ) hc hu) hg hm boot_srs.2.2 (pa_cons ha pa_nil (star_ok hp)) (by decide) (by decide) (star_ok hp) rfl).run pins s σ H Q I ?_
  refine (tM.bind (R := Rep X.K) (m := ca) (f := fun _ => mndK) h).imp ?_
  rintro x H1 ⟨Mm, env, S, d, rel, ra, po⟩
  exact ⟨x, Mm, S, d, rfl, rel.rs, ra, po⟩
end
end DL
end

section
set_option maxRecDepth 100000
/-! DX1: [::-1], {}, names of the top, isinstance with several classes. Ours. -/
namespace DL
open PySem PySem.Spec PyProof.Rows L2 PySem.W
variable [PWd]
section
variable {prog : Program} {w : World} {A : Around} {E : Value → Shared → Prop} {s : Shared}
omit [PWd] in
theorem back_places (n : Nat) : Builtin.Slice.slicePlaces ((n : Int) - 1) (-1) (-1) = n := by
  unfold Builtin.Slice.slicePlaces
  rw [if_neg (by decide)]
  by_cases h : (n : Int) - 1 > -1
  · rw [if_pos h, show (-(-1 : Int)) = 1 by decide, Int.ediv_one]
    omega
  · rw [if_neg h]
    omega
omit [PWd] in
theorem back_pick (xs : Array Value) : ((List.range xs.size).filterMap fun (m : Nat) => xs[(((xs.size : Int) - 1) + (m : Int) * (-1)).toNat]?) = xs.toList.reverse := by
  have h := krv_pick xs
  unfold slicePick at h
  rw [krv_bounds] at h
  have h2 : ((sliceRange ((xs.size : Int) - 1) (-1) (-1)).filterMap (xs[·]?)).toArray = xs.toList.reverse.toArray := h
  rw [krv_sliceRange, List.filterMap_map] at h2
  have h3 := congrArg Array.toList h2
  simp only at h3
  rw [← h3]
  have cg : ∀ (l : List Nat) (f g : Nat → Option Value), (∀ m ∈ l, f m = g m) → l.filterMap f = l.filterMap g := fun l f g => by
    induction l with
    | nil => exact fun _ => rfl
    | cons x r ih => exact fun h => by rw [List.filterMap_cons, List.filterMap_cons, h x List.mem_cons_self, ih fun m hm => h m (List.mem_cons_of_mem _ hm)]
  refine cg _ _ _ fun m hm => ?_
  have := List.mem_range.mp hm
  show xs[(((xs.size : Int) - 1) + (m : Int) * (-1)).toNat]? = xs[xs.size - 1 - m]?
  have e : (((xs.size : Int) - 1) + (m : Int) * (-1)).toNat = xs.size - 1 - m := by omega
  rw [e]
omit [PWd] in
theorem getItem_back {t sl : Addr} {items : Array Value} {v : Value} {Q : Value → Shared → Prop} (ht : IsTup s.heap t items) (hs : s.heap.IsSliceOf sl .none .none v) (pv : IsPart v (some (-1))) (hz : items.size ≤ sizeLine)
    (h : Q (.ref s.heap.objs.size) { s with heap := s.heap.push { cls := .type "tuple", data := .seq items.toList.reverse.toArray } }) : wpAny (model prog w) A (getItem (.ref t) (.ref sl)) Q E s := by
  obtain ⟨os, hos, hcs, hds⟩ := id hs
  have tS : s.TypeIs (.ref sl) "slice" := ⟨os, hos, hcs⟩
  have ok : sizeOk (.seq items.toList.reverse.toArray) := by
    show items.toList.reverse.toArray.size ≤ sizeLine
    rw [List.size_toArray, List.length_reverse]
    exact hz
  have hn : ¬ ((((items.size : Int) - 1) == 0 && (-1 : Int) == 1 && items.size == items.size) = true) := by simp
  unfold getItem
  try with_reducible refine wpAny_holding ?_
  first | refine wpAny_bind (wpAny_pure ?_) | skip
  refine wpAny_bind (wpAny_sequenceKey ht.typeIs (by decide) (wpAny_bind (wpAny_callSpecial?_slot (name := Str.ofString "__getitem__") ht.typeIs PyProof.Rows.slot_tuple_getitem (wpAny_call_entry PyProof.Rows.slot_tuple_getitem ht.typeIs entry_tuple_getitem ?_ (args_tuple_getitem _ _)))))
  show wpAny _ _ (Builtin.Tuple.tupleItemsOf (.ref t) >>= _) _ _ s
  refine wpAny_bind (tupleItemsOf_ ht (wpAny_bind (wpAny_typeOf tS ?_)))
  rw [if_pos (by decide)]
  refine wpAny_bind (?_ : wpAny _ _ (Builtin.Slice.sliceApplied (.ref sl) (pure (items.size : Int))) _ _ s)
  unfold Builtin.Slice.sliceApplied Builtin.Slice.sliceFields
  refine wpAny_bind (wpAny_bind (wpAny_field hos hds (x := .none) rfl (wpAny_bind (wpAny_field hos hds (x := .none) rfl (wpAny_bind (wpAny_field hos hds (x := v) rfl (wpAny_pure ?_)))))))
  refine wpAny_bind (HT.slicePart_ pv ?_)
  show wpAny _ _ (if ((-1 : Int) == 0) = true then _ else _) _ _ s
  rw [if_neg (by decide)]
  refine wpAny_bind (slicePart_none (wpAny_bind (slicePart_none (wpAny_bind (wpAny_pure ?_)))))
  show wpAny _ _ (pure (((items.size : Int) - 1), (-1 : Int), Builtin.Slice.slicePlaces ((items.size : Int) - 1) (-1) (-1))) _ _ s
  rw [back_places]
  refine wpAny_pure ?_
  show wpAny _ _ (if ((((items.size : Int) - 1) == 0 && (-1 : Int) == 1 && items.size == items.size) = true) then _ else _) _ _ s
  rw [if_neg hn, back_pick]
  first
    | exact wpAny_bind (m := Builtin.Tuple.tupleExact _) (wpAny_newObj_type (wpAny_pure ⟨_, rfl, wpAny_pure h⟩) ok)
    | exact wpAny_bind (m := Builtin.Tuple.tupleExact _) (wpAny_newObj_type (wpAny_bind (wpAny_pure (wpAny_pure ⟨_, rfl, wpAny_pure h⟩))) ok)
    | exact wpAny_bind (wpAny_bind (m := Builtin.Tuple.tupleExact _) (wpAny_newObj_type (wpAny_pure (wpAny_pure ⟨_, rfl, wpAny_pure h⟩)) ok))
    | exact wpAny_bind (wpAny_bind (m := Builtin.Tuple.tupleExact _) (wpAny_newObj_type (wpAny_pure ⟨_, rfl, wpAny_pure h⟩) ok))
end
section
variable {X : Cx} {W : WX} {pos : Pos} {a : Expr} {ca : Env → M D}
def tRevT (K : PySem.W.Frag) (te : TE) : TE := fun σ H Q => te σ H fun x H1 => ∃ a xs, x = .ref a ∧ SqT K H1 a xs ∧ ∀ p o, H1 p = none → o.dict = none → Q (.ref p) (upd H1 p (.frz o (.tup xs.reverse)))
theorem pe_revT {te : TE} {k : Nat} {p1 p2 p3 : Pos} (he : PE X a te) : PE X (.Subscript a (.Slice none none (some (.UnaryOp .USub (.Constant (.int 1) k p1) p2)) p3) pos) (tRevT X.K te) := by
  refine ⟨fun pins s σ H Q I h => ?_⟩
  refine Subscript_ (thn (he.run pins s σ H _ I h) fun v s1 ⟨x, H1, I1, r1, t, xs, ex, hx, q⟩ => ?_)
  subst ex
  cases r1
  have one : PO X (some (.UnaryOp .USub (.Constant (.int 1) k p1) p2)) (tPart (tUn (rU fun i => .int (-i)) (tC (.int 1)))) := po_some (pe_un un_neg pe_int)
  refine wpAny_Slice (thn (po_none.run pins s1 σ H1 (fun o H2 => o = none ∧ H2 = H1) I1 ⟨rfl, rfl⟩) fun vl s2 ⟨l, H2, I2, pl, el, e2⟩ => ?_)
  subst el e2
  refine thn (po_none.run pins s2 σ H2 (fun o H3 => o = none ∧ H3 = H2) I2 ⟨rfl, rfl⟩) fun vu s3 ⟨u, H3, I3, pu, eu, e3⟩ => ?_
  subst eu e3
  refine thn (one.run pins s3 σ H3 (fun o H4 => o = some (-1) ∧ H4 = H3) I3 ⟨1, rfl, -1, rfl, rfl, rfl⟩) fun vs s4 ⟨o, H4, I4, ps, eo, e4⟩ => ?_
  subst eo e4
  have I5 : L2.Inv X pins σ H4 { s4 with heap := s4.heap.push { cls := .type "slice", data := .fields #[vl, vu, vs] } } := I4.kept (t' := s4.toks) fun b ob q => Heap.get?_push_of_some _ q
  obtain ⟨its, r, ht, hz⟩ := I5.tuple hx
  have hn1 : vl = .none := by cases vl <;> first | rfl | cases pl
  have hn2 : vu = .none := by cases vu <;> first | rfl | cases pu
  subst hn1 hn2
  show wpAny (model X.prog X.w) X.A (subscriptTail a (.Slice none none (some (.UnaryOp .USub (.Constant (.int 1) k p1) p2)) p3) (.ref t) (.ref s4.heap.objs.size)) (EP X pins σ Q) X.xe { s4 with heap := s4.heap.push { cls := .type "slice", data := .fields #[.none, .none, vs] } }
  refine tail_any (ops := [.ref t, .ref s4.heap.objs.size]) ht.typeIs PyProof.Rows.slot_tuple_getitem.lookup ?_ (by with_unfolding_all rfl)
  have hsz : its.toArray.size ≤ sizeLine := by rw [List.size_toArray, ← r.length]; exact hz
  refine getItem_back ht (Heap.IsSliceOf.new _ .none .none vs) ps hsz ?_
  have hp : I5.hok = I5.hok := rfl
  refine ⟨.ref _, _, I5.laid (t' := s4.toks) (o := .frz { cls := .type "tuple", data := .seq its.toArray.toList.reverse.toArray } (.tup xs.reverse)) (fun b ob q => Heap.get?_push_of_some _ q) (Nat.le_refl _) ?_, rfl, q _ _ (I5.hok.fresh (Nat.le_refl _)) rfl⟩
  exact ⟨Heap.get?_push_size _ rfl, by rw [List.length_reverse]; exact hz, _, r.reverse, ⟨_, Heap.get?_push_size _ rfl, rfl, _, rfl⟩⟩
theorem e_rev {k : Nat} {p1 p2 p3 : Pos} (ha : PE X a (tE X.K W ca)) : PE X (.Subscript a (.Slice none none (some (.UnaryOp .USub (.Constant (.int 1) k p1) p2)) p3) pos) (tE X.K W fun env => M.bind (ca env) revD) := by
  refine ⟨fun pins s σ H Q I h => ?_⟩
  obtain ⟨Mm0, env0, S0, rel0, po0⟩ := h
  have h1 := Post.bindE (R := Rep X.K) po0
  by_cases ht : ∃ xs S1, ca env0 S0 = .ok (.im (.tuple xs)) S1
  · obtain ⟨xs, S1, e1⟩ := ht
    refine (pe_revT ha).run pins s σ H Q I ⟨Mm0, env0, S0, rel0, h1.imp ?_⟩
    rintro x H1 ⟨Mm, S, d, em, ev, rs, ra, po⟩
    rw [e1] at em
    cases em
    obtain ⟨adr, ws, rfl, s1, a1⟩ := ra.tupR (S := S1) rfl
    exact ⟨adr, ws, rfl, SqT.sub s1.sq (fz_sub _ _), fun p o hp ho => po.use' (Ev.new rs hp) (rs.new hp) (Rep.tup rs hp a1.reverse ho)⟩
  · refine (pe_revL ha).run pins s σ H Q I ⟨Mm0, env0, S0, rel0, h1.imp ?_⟩
    rintro x H1 ⟨Mm, S, d, em, ev, rs, ra, po⟩
    unfold revD at po
    split at po
    · rename_i xs hx
      obtain ⟨adr, ws, rfl, s1, a1⟩ := ra.listR rs hx
      exact ⟨adr, ws, rfl, s1, fun p hp => po.use' (Ev.new rs hp) (rs.new hp) (Rep.lst rs hp a1.reverse)⟩
    · rename_i xs hx
      have e2 := im_of_not_list hx (fun _ => by simp)
      subst e2
      exact absurd ⟨_, _, em⟩ ht
    · exact po.elim
/-! ### {} -/
theorem e_dic0 : PE X (.Dict [] [] pos) (tE X.K W fun _ => M.bind (noE nilK) (dicK true)) := PE.imp pe_dnewK fun σ H Q ⟨Mm, env, S, rel, po⟩ p hp =>
  have po2 : Post X.K (Rep X.K) (WE W σ) Mm H Q (.ok (D.rf S.length) (S ++ [Ob.dct []])) := po
  po2.use' (Ev.add rel.rs hp) (rel.rs.add (o := .dct []) hp ⟨[], upd_same, .nil⟩) (Rep.last rel.rs)
theorem e_dicf : PE X (.Dict [] [] pos) (tE X.K W fun _ => M.bind (noE nilK) (dicK false)) := by
  refine ⟨fun pins s σ H Q I ⟨Mm, env, S, rel, po⟩ => ?_⟩
  refine thn (pe_dnewK.run pins s σ H (fun v H1 => ∃ p, v = .ref p ∧ H p = none ∧ H1 = upd H p (.dK [])) I fun p hp => ⟨p, rfl, hp, rfl⟩) ?_
  rintro u s1 ⟨v, H1, I1, r, p, rfl, hp, rfl⟩
  obtain ⟨od, I2⟩ := I1.lock (d := p) upd_same True.intro
  rw [upd_upd] at I2
  have po2 : Post X.K (Rep X.K) (WE W σ) Mm H Q (.ok (D.im (.dict [])) S) := po
  refine ⟨.ref p, _, I2, r, po2.use' (Ev.new rel.rs hp) (rel.rs.new hp) ?_⟩
  exact Rp.dct (fz_some.mpr ⟨fun _ => rfl, upd_same⟩) .nil
/-! ### isinstance(x, (A, B)) -/
theorem isi_names {ts : List String} {es : List Expr} (h : tyNames es ts) (hb : ∀ t ∈ ts, bootBuiltins (Str.ofString t) = some (.type t) ∧ Str.ofString t ≠ "__name__" ∧ (Str.ofString t == ("__debug__" : Str)) = false ∧ Gl X (Str.ofString t) ∧ X.mg (Str.ofString t) = none) :
    PA X es (fun _ H Q => Q (ts.map V.ty) H) := by
  induction h with
  | nil => exact PA.imp pa_nil fun σ H Q h => h
  | cons h1 _ ih =>
    obtain ⟨p, rfl⟩ := h1
    obtain ⟨b1, b2, b3, b4, b5⟩ := hb _ List.mem_cons_self
    exact PA.imp (pa_cons (pe_bltn (v := .ty _) b4 b5 b1 rfl b2 b3) (ih fun t ht => hb t (List.mem_cons_of_mem _ ht)) rfl) fun σ H Q q => q
omit [PWd] in
theorem kit_any {K : PySem.W.Frag} {q : String} {f : String → Bool} : ∀ {ts : List String}, (∀ t ∈ ts, kitB q t = some (f t)) → PySem.W.kitAny K (.type q) (ts.map Value.type) = some (ts.any f)
  | [], _ => rfl
  | t :: ts, h => by
    rw [List.map_cons, List.any_cons]
    refine kitAny_cons (b := f t) (kit_ty (h t List.mem_cons_self)) (fun e => ?_) fun e => by rw [e]; rfl
    rw [e, Bool.false_or]
    exact kit_any fun u hu => h u (List.mem_cons_of_mem _ hu)
omit [PWd] in
theorem clsV_tys : ∀ ts : List String, Paired ClsV (ts.map V.ty) (ts.map Value.type)
  | [] => .nil
  | t :: ts => .cons (.ty t) (clsV_tys ts)
theorem e_isiT {ts : List String} {es : List Expr} {k : Nat} {p tpos : Pos} (hts : ∀ t ∈ ts, t ∈ tyS) (hl : ts.length ≤ 1000) (hn : tyNames es ts) (hb : ∀ t ∈ ts, bootBuiltins (Str.ofString t) = some (.type t) ∧ Str.ofString t ≠ "__name__" ∧ (Str.ofString t == ("__debug__" : Str)) = false ∧ Gl X (Str.ofString t) ∧ X.mg (Str.ofString t) = none)
    (hg : Gl X "isinstance") (hm : X.mg "isinstance" = none) (hp : plainE a = true) (ha : PE X a (tE X.K W ca)) :
    PE X (.Call (.Name "isinstance" p) [a, .Tuple es k tpos] [] pos) (tE X.K W fun env => M.bind (ca env) (isiK ts)) := by
  refine PE.imp (pe_callB call_isiT hg hm (by decide +kernel) (pa_cons ha (pa_cons (pe_tup (isi_names hn hb)) pa_nil rfl) (star_ok hp)) (by decide) (by decide) (star_ok hp) rfl) fun σ H Q h => ?_
  refine (tM.bind (R := Rep X.K) (m := ca) (f := fun _ => isiK ts) h).imp ?_
  rintro v H1 ⟨Mm, env, S, d, rel, ra, po⟩
  refine ⟨by rw [List.length_map]; exact lenSmall hl, fun q hq => ?_⟩
  have evn : Ev Mm H1 Mm (upd H1 q (.tup (ts.map V.ty))) := Ev.new rel.rs hq
  obtain ⟨r, ty, hQ⟩ := isiK_post (rel.rs.new (o := .tup (ts.map V.ty)) hq) (ra.mono evn) (po.mono evn)
  exact ⟨v, q, ts.map V.ty, .type (tyOf r), ts.map Value.type, ts.any (isTy r), rfl, upd_same, clsV_tys ts, ty, kit_any fun t ht => kit_is (hts t ht), hQ⟩
end
/-! ### names of the top that stand for data -/
mutual
def eqD : PyData → PyData → Bool
  | .none, .none => true
  | .bool a, .bool b => a == b
  | .int a, .int b => decide (a = b)
  | .str a, .str b => decide (a = b)
  | .tuple a, .tuple b => eqDs a b
  | _, _ => false
def eqDs : List PyData → List PyData → Bool
  | [], [] => true
  | a :: as, b :: bs => eqD a b && eqDs as bs
  | _, _ => false
end
mutual
theorem eqD_ok : ∀ {a b : PyData}, eqD a b = true → a = b
  | .none, b, h => by cases b <;> first | rfl | (simp [eqD] at h)
  | .bool x, b, h => by
    cases b with
    | bool y => simp only [eqD, beq_iff_eq] at h; rw [h]
    | _ => simp [eqD] at h
  | .int x, b, h => by
    cases b with
    | int y => simp only [eqD, decide_eq_true_eq] at h; rw [h]
    | _ => simp [eqD] at h
  | .str x, b, h => by
    cases b with
    | str y => simp only [eqD, decide_eq_true_eq] at h; rw [h]
    | _ => simp [eqD] at h
  | .tuple x, b, h => by
    cases b with
    | tuple y => simp only [eqD] at h; rw [eqDs_ok h]
    | _ => simp [eqD] at h
  | .list x, b, h => by cases b <;> simp [eqD] at h
  | .dict x, b, h => by cases b <;> simp [eqD] at h
theorem eqDs_ok : ∀ {a b : List PyData}, eqDs a b = true → a = b
  | [], b, h => by cases b <;> first | rfl | (simp [eqDs] at h)
  | x :: a, b, h => by
    cases b with
    | nil => simp [eqDs] at h
    | cons y b =>
      simp only [eqDs, Bool.and_eq_true] at h
      rw [eqD_ok h.1, eqDs_ok h.2]
end
mutual
theorem rdV_ok {K : PySem.W.Frag} : ∀ {d : PyData} {u : Value}, rdV K d u = true → ∃ v, RelV v u ∧ ∀ G, Rp K G v d
  | .none, u, h => by
    have e : u = Value.none := eq_of_beq (by simpa [rdV] using h)
    exact ⟨.non, e, fun _ => .non⟩
  | .bool b, u, h => by
    have e : u = Value.bool b := eq_of_beq (by simpa [rdV] using h)
    exact ⟨.bl b, e, fun _ => .bl b⟩
  | .int i, u, h => by
    cases u with
    | int j t => simp only [rdV, decide_eq_true_eq] at h; subst h; exact ⟨.int j, ⟨t, rfl⟩, fun _ => .int j⟩
    | _ => simp [rdV] at h
  | .str x, u, h => by
    cases u with
    | str y t => simp only [rdV, decide_eq_true_eq] at h; subst h; exact ⟨.str y, ⟨t, rfl⟩, fun _ => .str y⟩
    | _ => simp [rdV] at h
  | .tuple ds, u, h => by
    cases u with
    | ref a =>
      unfold rdV at h
      split at h
      · rename_i o ho
        simp only [Bool.and_eq_true, decide_eq_true_eq] at h
        obtain ⟨⟨h1, h2⟩, h3⟩ := h
        split at h3
        · rename_i its n hd
          simp only [Bool.and_eq_true, decide_eq_true_eq] at h3
          obtain ⟨vs, r, ra⟩ := rdVs_ok h3.2
          exact ⟨.ref a, rfl, fun G => .tup (.inr ⟨o, its, n, ho, eq_of_beq h1, h2, hd, lenSmall h3.1, r⟩) (ra G)⟩
        · cases h3
      · cases h
    | _ => simp [rdV] at h
  | .list _, u, h => by simp [rdV] at h
  | .dict _, u, h => by simp [rdV] at h
theorem rdVs_ok {K : PySem.W.Frag} : ∀ {ds : List PyData} {us : List Value}, rdVs K ds us = true → ∃ vs, Vals vs us ∧ ∀ G, RpA K G vs ds
  | [], us, h => by
    cases us with
    | nil => exact ⟨[], .nil, fun _ => .nil⟩
    | cons _ _ => simp [rdVs] at h
  | d :: ds, us, h => by
    cases us with
    | nil => simp [rdVs] at h
    | cons u us =>
      simp only [rdVs, Bool.and_eq_true] at h
      obtain ⟨v, r, q⟩ := rdV_ok h.1
      obtain ⟨vs, rs, qs⟩ := rdVs_ok h.2
      exact ⟨v :: vs, .cons r rs, fun G => .cons (q G) (qs G)⟩
end
/-- a name of the top, and its data -/
def GlF (K : PySem.W.Frag) (mg : Str → Option Value) (x : Str) (d : PyData) : Prop := ∃ u v, mg x = some u ∧ RelV v u ∧ ∀ G, Rp K G v d
theorem gvB_ok {K : PySem.W.Frag} {h : Heap} {mg : Str → Option Value} (X : K.In h) (G : h.Ns mainGlobals mg) {q : Str × PyData} (c : gvB K q = true) : GlF K mg q.1 q.2 := by
  unfold gvB at c
  split at c
  · rename_i u hu
    obtain ⟨v, r, a⟩ := rdV_ok c
    exact ⟨u, v, PySem.W.mg_of X G hu, r, a⟩
  · cases c
end DL
end

section
set_option maxRecDepth 100000
/-! DX2: lists that may change, walked; comprehensions that give them. Ours. -/
namespace DL
open PySem PySem.Spec PyProof.Rows L2 PySem.W
variable [PWd]

/-- as JOk, under a guard on the memory -/
def JOkG (K : PySem.W.Frag) (g : Mem → Prop) (tg : Tg) (Mm : MM) (H : Hp) (J : L2.It) (items : List D) : Prop :=
  ∃ (G : Hp → Prop) (Y : Nat → Hp → V → Hp → Prop), L2.Walk J items.length G Y ∧ (∀ Mm2 H2 S2, (∃ n, Mm2.m = Mm.m ++ n) → Sub (fz Mm H) (fz Mm2 H2) → RS K Mm2 H2 S2 → g S2 → G H2) ∧
    ∀ i Mm2 H2 S2 x H3, i < items.length → (∃ n, Mm2.m = Mm.m ++ n) → Sub (fz Mm H) (fz Mm2 H2) → RS K Mm2 H2 S2 → g S2 → Y i H2 x H3 → ∃ d, items[i]? = some d ∧ Ev Mm2 H2 Mm2 H3 ∧ RS K Mm2 H3 S2 ∧ ItemR K Mm2 H3 S2 tg x d
section
variable {K : PySem.W.Frag} {Mm : MM} {H : Hp} {tg : Tg}
theorem JOk.g {g : Mem → Prop} {J : L2.It} {items : List D} (h : JOk K tg Mm H J items) : JOkG K g tg Mm H J items := by
  obtain ⟨G, Y, wk, hG, hY⟩ := h
  exact ⟨G, Y, wk, fun Mm2 H2 S2 _ e _ _ => hG Mm2 H2 e, fun i Mm2 H2 S2 x H3 hi _ e rs _ y => hY i Mm2 H2 S2 x H3 hi e rs y⟩
theorem jokG_list {a : Addr} {i : Nat} {xs : List PyData} (ha : Mm.m[i]? = some a) : JOkG K (gOn i xs) tg Mm H (Itl K a) (xs.map .im) := by
  have at_ : ∀ {Mm2 : MM} {H2 : Hp} {S2 : Mem}, (∃ n, Mm2.m = Mm.m ++ n) → RS K Mm2 H2 S2 → gOn i xs S2 → ∃ vs, H2 a = some (.lst vs) ∧ RpA K (fz Mm2 H2) vs xs := by
    rintro Mm2 H2 S2 ⟨n, e⟩ rs gg
    obtain ⟨hi, _⟩ := List.getElem?_eq_some_iff.mp ha
    exact rs.ob i a (.lst xs) (by rw [e, List.getElem?_append_left hi]; exact ha) gg
  refine ⟨fun H => ∃ vs, H a = some (.lst vs) ∧ vs.length = xs.length, fun i H x H' => H' = H ∧ ∃ vs, H a = some (.lst vs) ∧ vs.length = xs.length ∧ vs[i]? = some x, ?_, ?_, ?_⟩
  · rw [List.length_map]
    refine ⟨fun j H2 hj ⟨vs, h, hl⟩ => ?_, fun H2 ⟨vs, h, hl⟩ => ?_, fun j H2 x H3 hj ⟨vs, h, hl⟩ y => ?_⟩
    · exact (walk_list (K := K) (a := a) (xs := vs)).goes j H2 (by omega) (SqL.of h)
    · have := (walk_list (K := K) (a := a) (xs := vs)).stops H2 (SqL.of h)
      rw [hl] at this
      exact this
    · obtain ⟨h1, h2⟩ := (walk_list (K := K) (a := a) (xs := vs)).yields j H2 x H3 (by omega) (SqL.of h) y
      exact ⟨h1, vs, h, hl, h2⟩
  · intro Mm2 H2 S2 hm _ rs gg
    obtain ⟨vs, h1, h2⟩ := at_ hm rs gg
    exact ⟨vs, h1, h2.length⟩
  · rintro j Mm2 H2 S2 x H3 hj hm e rs gg ⟨rfl, vs, h1, h2, h3⟩
    obtain ⟨ws, g1, g2⟩ := at_ hm rs gg
    have e2 : vs = ws := by
      have z := h1.symm.trans g1
      cases z
      rfl
    subst e2
    obtain ⟨p, hp, rp⟩ := g2.get' h3
    have r : Rep K Mm2 H3 x (.im p) := rp
    exact ⟨.im p, by simp [hp], Ev.refl, rs, r.item rs⟩
theorem RS.showM {S : Mem} {p : Addr} {acc : List V} {ys : List PyData} (s : RS K (Mm.hide p) H S) (h : H p = some (.lst acc)) (ra : RpA K (fz (Mm.hide p) H) acc ys) :
    Sub (fz (Mm.hide p) H) (fz (Mm.add p) H) ∧ RS K (Mm.add p) H (S ++ [.lst ys]) := by
  have sub : Sub (fz (Mm.hide p) H) (fz (Mm.add p) H) := fun b u e => by
    obtain ⟨h1, h2⟩ := fz_some.mp e
    refine fz_some.mpr ⟨fun hm => h1 ?_, h2⟩
    show b ∈ Mm.m ++ (p :: Mm.z)
    have hm : b ∈ (Mm.m ++ [p]) ++ Mm.z := hm
    simp only [List.mem_append, List.mem_cons, List.not_mem_nil, or_false] at hm ⊢
    rcases hm with (hm | hm) | hm
    · exact .inl hm
    · exact .inr (.inl hm)
    · exact .inr (.inr hm)
  refine ⟨sub, ?_, ?_, fun a ha => s.zs a (List.mem_cons_of_mem _ ha), ?_⟩
  · have nd : (Mm.m ++ (p :: Mm.z)).Nodup := s.nd
    show ((Mm.m ++ [p]) ++ Mm.z).Nodup
    rw [List.append_assoc]
    exact nd
  · have := s.ln
    show (Mm.m ++ [p]).length = _
    have e : Mm.m.length = S.length := this
    simp [e]
  · intro i a o h1 h2
    have e : Mm.m.length = S.length := s.ln
    have h1 : (Mm.m ++ [p])[i]? = some a := h1
    by_cases hi : i < S.length
    · rw [List.getElem?_append_left (by omega)] at h1
      rw [List.getElem?_append_left hi] at h2
      exact (s.ob i a o h1 h2).mono rfl sub (KeepM.more rfl)
    · rw [List.getElem?_append_right (by omega)] at h1 h2
      rw [e] at h1
      cases hk : i - S.length with
      | zero =>
        rw [hk] at h1 h2
        cases h1
        cases h2
        exact ⟨acc, h, ra.mono sub⟩
      | succ n => rw [hk] at h2; cases h2
end
omit [PWd] in
theorem gF_ok {g : Mem → Prop} {f : D → M (Option PyData)} {d : D} {S : Mem} {o : Option PyData} {S2 : Mem} (h : gF g f d S = .ok o S2) : g S ∧ f d S = .ok o S2 := by
  unfold gF at h
  split at h
  · rename_i c
    exact ⟨c, h⟩
  · cases h
omit [PWd] in
theorem gF_run {g : Mem → Prop} {f : D → M (Option PyData)} {items : List D} {S Sf : Mem} {zs : List PyData} (h : compL (gF g f) items S = .ok zs Sf) (hg : g Sf) : g S := by
  cases items with
  | nil => cases h; exact hg
  | cons d r =>
    obtain ⟨o, S2, ws, h1, _, _⟩ := compL_cons h
    exact (gF_ok h1).1
theorem lc_tG {K : PySem.W.Frag} {W : WX} {mu : Bool} {g : Mem → Prop} {own : List Nat} {tg : Tg} {ct ce : Env → M D} (hv : ∀ i ∈ tgIs tg, i ∈ own) {σ : L2.St} {H1 : Hp} {Q : VK} {Mm1 : MM} {env : Env} {S1 : Mem} {J : L2.It} {items : List D}
    (rel : Rel K Mm1 H1 σ env S1) (jok : JOkG K g tg Mm1 H1 J items) (po : Post K (Rep K) (WE W σ) Mm1 H1 Q (cmprG mu g (turnF own tg ct ce env) items S1)) :
    tLc (fun _ _ R => R J H1) (tG K tg) (tT K W0 (tstM ct)) (tE K W0 ce) own σ H1 Q := by
  intro D0 hD0
  obtain ⟨G, Y, wk, hG, hY⟩ := jok
  unfold cmprG at po
  split at po
  case isFalse => exact po.elim
  rename_i hlen
  cases hrun : compL (gF g (turnF own tg ct ce env)) items S1 with
  | err c S2 => rw [hrun] at po; exact po.elim
  | bad => rw [hrun] at po; exact po.elim
  | ok yz Sf =>
  rw [hrun] at po
  dsimp only at po
  split at po
  case isFalse => exact po.elim
  rename_i hgf
  refine lc_it wk (fun i H => ∃ Mm S acc ys zs, LcP K (gF g (turnF own tg ct ce env)) items Mm1 H1 D0 yz Sf i H Mm S acc ys zs) ?_ ?_ ?_ ?_
  · refine ⟨Mm1, S1, [], [], yz, ⟨[], by cases Mm1; simp⟩, fun b hb => upd_ne (rel.rs.ne_z hD0 hb), by rw [fz_hide (o := .lst []) hD0 rfl]; exact Sub.refl _, rel.rs.hide hD0 rfl, upd_same, .nil, hrun, rfl, Nat.le_refl _⟩
  · rintro i H2 _ ⟨Mm, S, acc, ys, zs, p⟩
    obtain ⟨n, hn⟩ := p.more
    exact hG (Mm.hide D0) _ S ⟨n, by rw [hn]; rfl⟩ p.sub p.rs (gF_run p.run hgf)
  · rintro i x H2 H3 hi ⟨Mm, S, acc, ys, zs, p⟩ y
    obtain ⟨n, hn⟩ := p.more
    obtain ⟨d, hd, ev3, rs3, it3⟩ := hY i (Mm.hide D0) H2 S x H3 hi ⟨n, by rw [hn]; rfl⟩ p.sub p.rs (gF_run p.run hgf) y
    have hD3 : H3 D0 = some (.lst acc) := (ev3.hid D0 List.mem_cons_self).trans p.at_
    have hdrop : items.drop i = d :: items.drop (i + 1) := by
      obtain ⟨hi2, e⟩ := List.getElem?_eq_some_iff.mp hd
      rw [List.drop_eq_getElem_cons hi2, e]
    have hrun2 := p.run
    rw [hdrop] at hrun2
    obtain ⟨o, S2, ws, hf0, hrest, hzs⟩ := compL_cons hrun2
    have hf := (gF_ok hf0).2
    unfold turnF at hf
    split at hf
    case h_2 => cases hf
    rename_i env' ha
    have rel3 : Rel K (Mm.hide D0) H3 (wipe σ own) (wipeE env own) S := (rel.wipe own).monoW ⟨n, by rw [hn]; rfl⟩ (p.sub.trans ev3.sub) rs3
    refine ⟨Mm.hide D0, wipeE env own, S, d, env', rel3, it3, ha, fun σ' rel' hin => ⟨by rw [wipe_in hin hv, wipe_idem], ?_⟩⟩
    obtain ⟨t, Sa, ht, hcase⟩ := turnM_ok hf
    refine ⟨Mm.hide D0, env', S, rel', ?_⟩
    rw [show tstM ct env' S = .ok t Sa from ht]
    intro Mm4 H4 b ev4 rs4 rb
    cases rb
    have key : ∀ {Mm5 : MM} {H5 : Hp} {S5 : Mem}, Ev (Mm.hide D0) H3 Mm5 H5 → RS K Mm5 H5 S5 → ∃ Mm6 : MM, Mm5 = Mm6.hide D0 ∧ (∃ n, Mm6 = ⟨Mm1.m ++ n, Mm1.z⟩) ∧ (∀ b ∈ Mm1.z, H5 b = H1 b) ∧ Sub (fz Mm1 H1) (fz (Mm6.hide D0) H5) ∧ H5 D0 = some (.lst acc) ∧ RpA K (fz (Mm6.hide D0) H5) acc ys := fun {Mm5 H5 S5} ev5 rs5 => by
      obtain ⟨n5, e5⟩ := ev5.more
      have hz : ∀ b ∈ Mm1.z, b ∈ (Mm.hide D0).z := fun b hb => by
        show b ∈ D0 :: Mm.z
        rw [hn]
        exact List.mem_cons_of_mem _ hb
      refine ⟨⟨Mm.m ++ n5, Mm.z⟩, e5, ⟨n ++ n5, by rw [hn]; simp⟩, fun b hb => ?_, ?_, ?_, ?_⟩
      · rw [ev5.hid b (hz b hb), ev3.hid b (hz b hb), p.hid b hb]
      · have := (p.sub.trans ev3.sub).trans ev5.sub
        rw [e5] at this
        exact this
      · rw [ev5.hid D0 List.mem_cons_self]
        exact hD3
      · have := p.ra.mono (ev3.sub.trans ev5.sub)
        rw [e5] at this
        exact this
    rcases hcase with ⟨rfl, q, hce, rfl⟩ | ⟨rfl, rfl, rfl⟩
    · simp only [if_true]
      refine ⟨Mm4, env', Sa, rel'.mono ev4 rs4, ?_⟩
      rw [hce]
      intro Mm5 H5 y5 ev5 rs5 rp5
      obtain ⟨Mm6, rfl, h1, h2, h3, h4, h5⟩ := key (ev4.trans ev5) rs5
      have hz : D0 ∈ (Mm6.hide D0).z := List.mem_cons_self
      have hne : ∀ b ∈ Mm1.z, b ≠ D0 := fun b hb => rel.rs.ne_z hD0 hb
      refine ⟨acc, h4, by rw [h5.length]; have := p.len; omega, Mm6, S2, acc ++ [y5], ys ++ [q], ws, h1, fun b hb => by rw [upd_ne (hne b hb)]; exact h2 b hb, h3.trans (sub_hupd hz ⟨_, h4, rfl⟩), rs5.hupd hz ⟨_, h4, rfl⟩, upd_same, ?_, hrest, ?_, ?_⟩
      · exact (h5.append (.cons rp5 .nil)).mono (sub_hupd hz ⟨_, h4, rfl⟩)
      · rw [p.all, hzs]
        simp
      · have := p.len
        simp
        omega
    · simp only [Bool.false_eq_true, if_false]
      obtain ⟨Mm6, rfl, h1, h2, h3, h4, h5⟩ := key ev4 rs4
      exact ⟨Mm6, S2, acc, ys, ws, h1, h2, h3, rs4, h4, h5, hrest, by rw [p.all, hzs], Nat.le_succ_of_le p.len⟩
  · rintro H2 ⟨Mm, S, acc, ys, zs, p⟩
    have hr := p.run
    rw [List.drop_length] at hr
    cases hr
    have hy : yz = ys := by rw [p.all, List.append_nil]
    subst hy
    obtain ⟨n, hn⟩ := p.more
    cases mu with
    | false =>
      have po : Post K (Rep K) (WE W σ) Mm1 H1 Q (.ok (.im (.list yz)) Sf) := po
      have rs' := p.rs.show_
      refine po.use' ⟨⟨n, hn⟩, p.hid, p.sub.trans sub_show⟩ rs' ?_
      refine Rp.lst (Or.inl (Or.inl ?_)) (p.ra.mono sub_show)
      refine fz_some.mpr ⟨fun hm => ?_, p.at_⟩
      exfalso
      have nd := List.nodup_append.mp (show (Mm.m ++ (D0 :: Mm.z)).Nodup from p.rs.nd)
      rcases List.mem_append.mp hm with hm | hm
      · exact nd.2.2 D0 hm D0 List.mem_cons_self rfl
      · exact (List.nodup_cons.mp nd.2.1).1 hm
    | true =>
      have po : Post K (Rep K) (WE W σ) Mm1 H1 Q (.ok (.rf Sf.length) (Sf ++ [.lst yz])) := po
      obtain ⟨sub, rs'⟩ := p.rs.showM p.at_ p.ra
      refine po.use' ⟨⟨n ++ [D0], by rw [hn]; show (⟨_, _⟩ : MM) = _; simp [MM.add]⟩, p.hid, p.sub.trans sub⟩ rs' ?_
      refine ⟨D0, rfl, ?_⟩
      have e : Mm.m.length = Sf.length := p.rs.ln
      show (Mm.m ++ [D0])[Sf.length]? = some D0
      rw [← e]
      simp
section
variable {X : Cx} {W : WX} {elt tge iter : Expr} {ifs : List Expr} {scope : Scope} {own : List (Str × Nat)} {pos : Pos} {tg : Tg} {ci : Env → M (List D)} {ct ce : Env → M D}
noncomputable def cmmM (own : List Nat) (tg : Tg) (ci : Env → M (List D)) (ct ce : Env → M D) (env : Env) : M D := M.bind (ci env) fun items => cmprG true (fun _ => True) (turnF own tg ct ce env) items
noncomputable def cmrM (own : List Nat) (tg : Tg) (v : Nat) (ct ce : Env → M D) (env : Env) : M D := M.bind (getV v env) (rfK fun g items => cmprG false g (turnF own tg ct ce env) items)
theorem lcm_D {K : PySem.W.Frag} {own : List Nat} (hv : ∀ i ∈ tgIs tg, i ∈ own) {σ : L2.St} {H : Hp} {Q : VK} (h : tE K W (cmmM own tg ci ct ce) σ H Q) : tLc (tI K W tg ci) (tG K tg) (tT K W0 (tstM ct)) (tE K W0 ce) own σ H Q := by
  refine (tM.bindE (R' := Rep K) (R := JOk K tg) (m := ci) (f := fun env items => cmprG true (fun _ => True) (turnF own tg ct ce env) items) h).imp ?_
  rintro J H1 ⟨Mm1, env, S0, S1, items, e, rel, jok, po⟩
  exact lc_tG hv rel jok.g po
theorem lcr_D {K : PySem.W.Frag} {own : List Nat} {v : Nat} (hv : ∀ i ∈ tgIs tg, i ∈ own) {σ : L2.St} {H : Hp} {Q : VK} (h : tE K W (cmrM own tg v ct ce) σ H Q) :
    tLc (iList K (tVar v)) (tG K tg) (tT K W0 (tstM ct)) (tE K W0 ce) own σ H Q ∨ tLc (tI K W tg fun env => M.bind (getV v env) exK) (tG K tg) (tT K W0 (tstM ct)) (tE K W0 ce) own σ H Q ∨
    tLc (iKeys (tVar v)) (tG K tg) (tT K W0 (tstM ct)) (tE K W0 ce) own σ H Q ∨ ∃ a vs, H a = some (.dK vs) ∧ ∀ od, tLc (iKeys (tVar v)) (tG K tg) (tT K W0 (tstM ct)) (tE K W0 ce) own σ (upd H a (.frz od (.dK vs))) Q := by
  obtain ⟨Mm, env, S, rel, po⟩ := h
  unfold cmrM M.bind at po
  cases hg0 : getV v env S with
  | err c S1 => rw [hg0] at po; unfold getV at hg0; split at hg0 <;> cases hg0
  | bad => rw [hg0] at po; exact po.elim
  | ok d S1 =>
    obtain ⟨h1, rfl⟩ := getV_ok hg0
    rw [hg0] at po
    dsimp only at po
    cases d with
    | rf i =>
      unfold rfK at po
      dsimp only at po
      split at po
      · rename_i xs hxs
        obtain ⟨w, hw, a, rfl, ha⟩ := rel.er v _ h1
        obtain ⟨vs, hH, _⟩ := rel.rs.ob i a _ ha hxs
        exact .inl ⟨_, hw, a, rfl, ⟨vs, SqL.of hH⟩, lc_tG hv rel (jokG_list ha) po⟩
      · rename_i kvs hxs
        obtain ⟨w, hw, a, rfl, ha⟩ := rel.er v _ h1
        obtain ⟨vs, hH, hk⟩ := rel.rs.ob i a _ ha hxs
        have hm := List.mem_of_getElem? ha
        refine .inr (.inr (.inr ⟨a, vs, hH, fun od => ?_⟩))
        have ev := Ev.set (o := .frz od (.dK vs)) rel.rs hm ⟨_, hH, rfl⟩
        have hk2 := hk.mono (sub_set (o := .frz od (.dK vs)) hm ⟨_, hH, rfl⟩)
        have rel2 := rel.mono ev (rel.rs.set (o := .fdct kvs) ha ⟨_, hH, rfl⟩ ⟨od, vs, upd_same, hk2⟩)
        exact ⟨_, hw, a, od, rfl, .inl ⟨vs, upd_same, lc_tG hv rel2 (jok_keys (fz_some.mpr ⟨fun _ => rfl, upd_same⟩) hk2).g (po.mono ev)⟩⟩
      · rename_i kvs hxs
        obtain ⟨w, hw, a, rfl, ha⟩ := rel.er v _ h1
        obtain ⟨o, vs, hH, hk⟩ := rel.rs.ob i a _ ha hxs
        exact .inr (.inr (.inl ⟨_, hw, a, o, rfl, .inl ⟨vs, hH, lc_tG hv rel (jok_keys (fz_some.mpr ⟨fun _ => rfl, hH⟩) hk).g po⟩⟩))
      · exact po.elim
    | im p =>
      refine .inr <| .inl <| ((tM.bindE (R' := Rep K) (R := JOk K tg) (m := fun env => M.bind (getV v env) exK) (f := fun env items => cmprG false (fun _ => True) (turnF own tg ct ce env) items) (Q := Q) (σ := σ) (H := H) (W := W) ⟨Mm, env, S1, rel, ?_⟩).imp ?_)
      · show Post _ _ _ _ _ _ (M.bind (M.bind (getV v env) exK) _ S1)
        unfold M.bind
        rw [hg0]
        exact po
      · rintro J H1 ⟨Mm1, env1, S0, S2, items, e, rel1, jok, po1⟩
        exact lc_tG hv rel1 jok.g po1
/-! ### a name's dict, unlocked behind the comprehension -/
theorem SqL.away {K : PySem.W.Frag} {G G' : Hp} {a b : Addr} {xs : List V} (ha : ∃ o vs, G a = some (.frz o (.dK vs))) (e : ∀ c u, c ≠ a → G c = some u → G' c = some u) (h : SqL K G b xs) : SqL K G' b xs := by
  obtain ⟨o, vs, ha⟩ := ha
  rcases h with (h | ⟨o2, h⟩) | h
  · refine .inl (.inl (e _ _ (fun z => ?_) h))
    rw [z, ha] at h
    cases h
  · refine .inl (.inr ⟨o2, e _ _ (fun z => ?_) h⟩)
    rw [z, ha] at h
    cases h
  · exact .inr h
theorem TupN.away {K : PySem.W.Frag} {G G' : Hp} {a b : Addr} {xs : List V} (ha : ∃ o vs, G a = some (.frz o (.dK vs))) (e : ∀ c u, c ≠ a → G c = some u → G' c = some u) (h : TupN K G b xs) : TupN K G' b xs := by
  obtain ⟨o, vs, ha⟩ := ha
  rcases h with ⟨o2, h, d⟩ | h
  · refine .inl ⟨o2, e _ _ (fun z => ?_) h, d⟩
    rw [z, ha] at h
    cases h
  · exact .inr h
section
variable {K : PySem.W.Frag} {G G' : Hp} {a : Addr}
mutual
theorem Rp.away (ha : ∃ o vs, G a = some (.frz o (.dK vs))) (e : ∀ c u, c ≠ a → G c = some u → G' c = some u) : ∀ {v : V} {d : PyData}, Rp K G v d → d.canLay0 = true → Rp K G' v d
  | _, _, .non, _ => .non
  | _, _, .bl b, _ => .bl b
  | _, _, .int i, _ => .int i
  | _, _, .str x, _ => .str x
  | _, _, .lst h r, c => .lst (SqL.away ha e h) (RpA.away ha e r (by simpa [PyData.canLay0] using c))
  | _, _, .tup h r, c => .tup (TupN.away ha e h) (RpA.away ha e r (by simpa [PyData.canLay0] using c))
  | _, _, .dct h r, c => by simp [PyData.canLay0] at c
theorem RpA.away (ha : ∃ o vs, G a = some (.frz o (.dK vs))) (e : ∀ c u, c ≠ a → G c = some u → G' c = some u) : ∀ {v : List V} {d : List PyData}, RpA K G v d → PyData.canLayAll0 d = true → RpA K G' v d
  | _, _, .nil, _ => .nil
  | _, _, .cons h r, c => by
    simp only [PyData.canLayAll0, Bool.and_eq_true] at c
    exact .cons (Rp.away ha e h c.1) (RpA.away ha e r c.2)
end
theorem RpK.away (ha : ∃ o vs, G a = some (.frz o (.dK vs))) (e : ∀ c u, c ≠ a → G c = some u → G' c = some u) : ∀ {v : List (Key × V)} {d : List (PyData × PyData)}, RpK K G v d → PyData.canLayAll0 (d.map (·.2)) = true → RpK K G' v d
  | _, _, .nil, _ => .nil
  | _, _, .cons h r, c => by
    simp only [List.map_cons, PyData.canLayAll0, Bool.and_eq_true] at c
    exact .cons (Rp.away ha e h c.1) (RpK.away ha e r c.2)
end
theorem ObR.away {K : PySem.W.Frag} {Mm : MM} {H : Hp} {a b : Addr} {u : HO} {o : Ob} (ha : ∃ o vs, fz Mm H a = some (.frz o (.dK vs))) (e : ∀ c w, c ≠ a → fz Mm H c = some w → fz Mm (upd H a u) c = some w) (hb : b ≠ a) (h : ObR K Mm H b o) (nd : obND o = true) : ObR K Mm (upd H a u) b o := by
  cases o with
  | lst xs => obtain ⟨vs, h1, h2⟩ := h; exact ⟨vs, by rw [upd_ne hb]; exact h1, RpA.away ha e h2 nd⟩
  | flst xs => obtain ⟨o, vs, h1, h2⟩ := h; exact ⟨o, vs, by rw [upd_ne hb]; exact h1, RpA.away ha e h2 nd⟩
  | dct kvs => obtain ⟨vs, h1, h2⟩ := h; exact ⟨vs, by rw [upd_ne hb]; exact h1, RpK.away ha e h2 nd⟩
  | fdct kvs => obtain ⟨o, vs, h1, h2⟩ := h; exact ⟨o, vs, by rw [upd_ne hb]; exact h1, RpK.away ha e h2 nd⟩
  | tdc kvs => cases nd
  | nl kvs => cases nd
  | nd kvs => cases nd
  | fnd kvs => cases nd
theorem RS.unlock {K : PySem.W.Frag} {Mm Mm2 : MM} {H H2 : Hp} {S : Mem} {i : Nat} {a : Addr} {kvs : List (PyData × PyData)} {vs : List (Key × V)} {od : Obj} (rs : RS K Mm H S) (ha : Mm.m[i]? = some a) (hS : S[i]? = some (.dct kvs)) (hH : H a = some (.dK vs)) (hk : RpK K (fz Mm H) vs kvs)
    (ev : Ev Mm (upd H a (.frz od (.dK vs))) Mm2 H2) (rs2 : RS K Mm2 H2 (S.set i (.fdct kvs))) (nd : ∀ (j : Nat) (o : Ob), j ≠ i → S[j]? = some o → obND o = true) :
    H2 a = some (.frz od (.dK vs)) ∧ Ev Mm H Mm2 (upd H2 a (.dK vs)) ∧ RS K Mm2 (upd H2 a (.dK vs)) S ∧ (∃ o vs, fz Mm2 H2 a = some (.frz o (.dK vs))) ∧ ∀ c w, c ≠ a → fz Mm2 H2 c = some w → fz Mm2 (upd H2 a (.dK vs)) c = some w := by
  have f1 : fz Mm2 H2 a = some (.frz od (.dK vs)) := ev.sub a _ (fz_some.mpr ⟨fun _ => rfl, upd_same⟩)
  have h1 : H2 a = some (.frz od (.dK vs)) := (fz_some.mp f1).2
  have hm := List.mem_of_getElem? ha
  have hms : a ∈ Mm.m ++ Mm.z := List.mem_append.mpr (.inl hm)
  have hz : ∀ b ∈ Mm.z, b ≠ a := fun b hb z => by
    subst z
    exact (List.nodup_append.mp rs.nd).2.2 b hm b hb rfl
  obtain ⟨n, hn⟩ := ev.more
  have hn0 : n = [] := by
    have l1 := rs2.ln
    have l2 := rs.ln
    rw [hn, List.length_set] at l1
    have l1 : (Mm.m ++ n).length = S.length := l1
    rw [List.length_append] at l1
    exact List.length_eq_zero_iff.mp (by omega)
  have hmm : Mm2 = Mm := by
    rw [hn, hn0, List.append_nil]
  have aw : ∀ c w, c ≠ a → fz Mm2 H2 c = some w → fz Mm2 (upd H2 a (.dK vs)) c = some w := fun c w hc e => by
    obtain ⟨g1, g2⟩ := fz_some.mp e
    exact fz_some.mpr ⟨g1, by rw [upd_ne hc]; exact g2⟩
  have sub : Sub (fz Mm H) (fz Mm2 (upd H2 a (.dK vs))) := fun b o e => by
    obtain ⟨g1, g2⟩ := fz_some.mp e
    by_cases c : b = a
    · subst c
      rw [hH] at g2
      cases g2
      exact absurd (g1 hms) (by simp [isFz])
    · exact aw b o c (ev.sub b o (fz_some.mpr ⟨g1, by rw [upd_ne c]; exact g2⟩))
  refine ⟨h1, ⟨ev.more, fun b hb => ?_, sub⟩, ⟨rs2.nd, by rw [rs2.ln, List.length_set], fun b hb => ?_, fun j b o hj ho => ?_⟩, ⟨od, vs, f1⟩, aw⟩
  · rw [upd_ne (hz b hb), ev.hid b hb, upd_ne (hz b hb)]
  · by_cases c : b = a
    · subst c; exact ⟨_, upd_same⟩
    · obtain ⟨o, ho⟩ := rs2.zs b hb
      exact ⟨o, by rw [upd_ne c]; exact ho⟩
  · by_cases c : j = i
    · subst c
      rw [hmm] at hj
      rw [ha] at hj
      cases hj
      rw [hS] at ho
      cases ho
      exact ⟨vs, upd_same, hk.mono sub⟩
    · have hba : b ≠ a := fun z => by
        subst z
        rw [hmm] at hj
        have nd1 : Mm.m.Nodup := (List.nodup_append.mp rs.nd).1
        obtain ⟨l1, e1⟩ := List.getElem?_eq_some_iff.mp hj
        obtain ⟨l2, e2⟩ := List.getElem?_eq_some_iff.mp ha
        exact c ((List.getElem_inj nd1).mp (e1.trans e2.symm))
      have ho2 : (S.set i (.fdct kvs))[j]? = some o := by rw [List.getElem?_set_ne (fun z => c z.symm)]; exact ho
      exact ObR.away ⟨od, vs, f1⟩ aw hba (rs2.ob j b o hj ho2) (nd j o c ho)
noncomputable def cmdM (own : List Nat) (tg : Tg) (v : Nat) (ct ce : Env → M D) (env : Env) : M D := M.bind (getV v env) (cmdK fun items => cmprG false (fun _ => True) (turnF own tg ct ce env) items)
theorem lcd_D {K : PySem.W.Frag} {own : List Nat} {v : Nat} (hv : ∀ i ∈ tgIs tg, i ∈ own) {σ : L2.St} {H : Hp} {Q : VK} (h : tE K W (cmdM own tg v ct ce) σ H Q) :
    ∃ a vs, H a = some (.dK vs) ∧ ∀ od, tLc (iKeys (tVar v)) (tG K tg) (tT K W0 (tstM ct)) (tE K W0 ce) own σ (upd H a (.frz od (.dK vs))) (fun v H' => H' a = some (.frz od (.dK vs)) ∧ Q v (upd H' a (.dK vs))) := by
  obtain ⟨Mm, env, S, rel, po⟩ := h
  unfold cmdM M.bind at po
  cases hg0 : getV v env S with
  | err c S1 => rw [hg0] at po; unfold getV at hg0; split at hg0 <;> cases hg0
  | bad => rw [hg0] at po; exact po.elim
  | ok d S1 =>
    obtain ⟨h1, rfl⟩ := getV_ok hg0
    rw [hg0] at po
    dsimp only at po
    cases d with
    | im p => exact po.elim
    | rf i =>
      unfold cmdK at po
      dsimp only at po
      split at po
      case h_2 => exact po.elim
      rename_i kvs hxs
      split at po
      case h_2 => exact po.elim
      rename_i ys S' hrun
      split at po
      case isFalse => exact po.elim
      rename_i hcond
      obtain ⟨hS', hys, hnd⟩ := hcond
      obtain ⟨w, hw, a, rfl, ha⟩ := rel.er v _ h1
      obtain ⟨vs, hH, hk⟩ := rel.rs.ob i a _ ha hxs
      have hm := List.mem_of_getElem? ha
      refine ⟨a, vs, hH, fun od => ?_⟩
      have ev := Ev.set (o := .frz od (.dK vs)) rel.rs hm ⟨_, hH, rfl⟩
      have hk2 := hk.mono (sub_set (o := .frz od (.dK vs)) hm ⟨_, hH, rfl⟩)
      have rel2 := rel.mono ev (rel.rs.set (o := .fdct kvs) ha ⟨_, hH, rfl⟩ ⟨od, vs, upd_same, hk2⟩)
      have pp : Post K (Rep K) (WE W σ) Mm (upd H a (.frz od (.dK vs))) (fun v H' => H' a = some (.frz od (.dK vs)) ∧ Q v (upd H' a (.dK vs))) (cmprG false (fun _ => True) (turnF own tg ct ce env) (kvs.map fun e => .im e.1) (S1.set i (.fdct kvs))) := by
        rw [hrun]
        intro Mm2 H2 b ev2 rs2 rb
        rw [hS'] at rs2
        obtain ⟨u1, u2, u3, u4, u5⟩ := RS.unlock rel.rs ha hxs hH hk ev2 rs2 hnd
        refine ⟨u1, po Mm2 _ b u2 u3 ?_⟩
        have rb : Rp K (fz Mm2 H2) b (.list ys) := rb
        exact Rp.away u4 u5 rb (by simpa [PyData.canLay0] using hys)
      exact ⟨_, hw, a, od, rfl, .inl ⟨vs, upd_same, lc_tG hv rel2 (jok_keys (fz_some.mpr ⟨fun _ => rfl, upd_same⟩) hk2).g pp⟩⟩
theorem e_lcm (hc : X.calm = true) (hN : X.N.Nodup) (hv : ∀ i ∈ tgIs tg, i ∈ own.map (·.2)) (hi : PI X tge iter (tI X.K W tg ci)) (ok : BlkOk X.N X.env.scope scope own)
    (hg : Blk X scope fun X' => PG X' tge (tG X.K tg)) (ht : Blk X scope fun X' => PTs X' ifs (tT X.K W0 (tstM ct))) (he : Blk X scope fun X' => PE X' elt (tE X.K W0 ce)) (hs : setE iter = false) :
    PE X (.ListComp elt [⟨tge, iter, ifs, 0⟩] scope pos) (tE X.K W (cmmM (own.map (·.2)) tg ci ct ce)) :=
  PE.imp (pe_lc hc hN hi ok hg ht he (fold_ok hs)) fun σ H Q h => lcm_D hv h
theorem e_lcr {v : Nat} {x : Str} {np : Pos} (hc : X.calm = true) (hN : X.N.Nodup) (hv : ∀ i ∈ tgIs tg, i ∈ own.map (·.2)) (hx : X.N[v]? = some x) (hvis : Vis X.env.scope x) (hd : (x == ("__debug__" : Str)) = false) (hcd : (x == ("__classdict__" : Str)) = false) (ok : BlkOk X.N X.env.scope scope own)
    (hg : Blk X scope fun X' => PG X' tge (tG X.K tg)) (ht : Blk X scope fun X' => PTs X' ifs (tT X.K W0 (tstM ct))) (he : Blk X scope fun X' => PE X' elt (tE X.K W0 ce)) :
    PE X (.ListComp elt [⟨tge, .Name x np, ifs, 0⟩] scope pos) (tE X.K W (cmrM (own.map (·.2)) tg v ct ce)) := by
  refine ⟨fun pins s σ H Q I h => ?_⟩
  rcases lcr_D hv h with h | h | h | ⟨a, vs, hH, h⟩
  · exact (pe_lc hc hN (pi_list (pe_var hx hvis hd hcd)) ok hg ht he (fold_ok rfl)).run pins s σ H Q I h
  · exact (pe_lc hc hN (i_ex (tg := tg) (W := W) (e_var hx hvis hd hcd)) ok hg ht he (fold_ok rfl)).run pins s σ H Q I h
  · exact (pe_lc hc hN (pi_keys (pe_var hx hvis hd hcd)) ok hg ht he (fold_ok rfl)).run pins s σ H Q I h
  · obtain ⟨od, I2⟩ := I.lock hH True.intro
    exact (pe_lc hc hN (pi_keys (pe_var hx hvis hd hcd)) ok hg ht he (fold_ok rfl)).run pins s σ _ Q I2 (h od)
theorem e_lcd {v : Nat} {x : Str} {np : Pos} (hc : X.calm = true) (hN : X.N.Nodup) (hv : ∀ i ∈ tgIs tg, i ∈ own.map (·.2)) (hx : X.N[v]? = some x) (hvis : Vis X.env.scope x) (hd : (x == ("__debug__" : Str)) = false) (hcd : (x == ("__classdict__" : Str)) = false) (ok : BlkOk X.N X.env.scope scope own)
    (hg : Blk X scope fun X' => PG X' tge (tG X.K tg)) (ht : Blk X scope fun X' => PTs X' ifs (tT X.K W0 (tstM ct))) (he : Blk X scope fun X' => PE X' elt (tE X.K W0 ce)) :
    PE X (.ListComp elt [⟨tge, .Name x np, ifs, 0⟩] scope pos) (tE X.K W (cmdM (own.map (·.2)) tg v ct ce)) := by
  refine ⟨fun pins s σ H Q I h => ?_⟩
  obtain ⟨a, vs, hH, h⟩ := lcd_D hv h
  exact (pe_lock (pe_lc hc hN (pi_keys (pe_var hx hvis hd hcd)) ok hg ht he (fold_ok rfl))).run pins s σ H Q I ⟨a, _, hH, True.intro, h⟩
theorem asg_name {i : Nat} {ce : Env → M D} {σ : L2.St} {H : Hp} {Dn : Ends} {K : PySem.W.Frag} (h : tS K W (asgM (.v i) ce) Dn σ H) : tE K W ce σ H (fun x H1 => gName i x σ H1 Dn.nx) := (asg_tD h).imp fun x H1 q => by
  obtain ⟨Mm, env, S, d, env', rel, it, e, k⟩ := q
  cases e
  exact k _ (rel.set it) (setV_in [i] [x] σ)
theorem s_setLcm {i : Nat} {y : Str} {py lpos : Pos} (hc : X.calm = true) (hN : X.N.Nodup) (hy : X.N[i]? = some y) (hyl : X.env.scope.names.lookup y = some .local)
    (hsw : swapsWith (.ListComp elt [⟨tge, iter, ifs, 0⟩] scope lpos) (some (.Name y py)) pos.line X.env = pure true) (hv : ∀ i ∈ tgIs tg, i ∈ own.map (·.2)) (hi : PI X tge iter (tI X.K W tg ci)) (ok : BlkOk X.N X.env.scope scope own)
    (hg : Blk X scope fun X' => PG X' tge (tG X.K tg)) (ht : Blk X scope fun X' => PTs X' ifs (tT X.K W0 (tstM ct))) (he : Blk X scope fun X' => PE X' elt (tE X.K W0 ce)) (hs : setE iter = false) :
    PS X (.Assign [.Name y py] (.ListComp elt [⟨tge, iter, ifs, 0⟩] scope lpos) pos) (tS X.K W (asgM (.v i) (cmmM (own.map (·.2)) tg ci ct ce))) :=
  PS.imp (ps_setLc hc hN hy hyl hsw hi ok hg ht he (fold_ok hs)) fun D σ H h => lcm_D hv (asg_name h)
theorem s_setLcr {i v : Nat} {x : Str} {np : Pos} {y : Str} {py lpos : Pos} (hc : X.calm = true) (hN : X.N.Nodup) (hy : X.N[i]? = some y) (hyl : X.env.scope.names.lookup y = some .local)
    (hsw : swapsWith (.ListComp elt [⟨tge, .Name x np, ifs, 0⟩] scope lpos) (some (.Name y py)) pos.line X.env = pure true) (hv : ∀ i ∈ tgIs tg, i ∈ own.map (·.2)) (hx : X.N[v]? = some x) (hvis : Vis X.env.scope x) (hd : (x == ("__debug__" : Str)) = false) (hcd : (x == ("__classdict__" : Str)) = false) (ok : BlkOk X.N X.env.scope scope own)
    (hg : Blk X scope fun X' => PG X' tge (tG X.K tg)) (ht : Blk X scope fun X' => PTs X' ifs (tT X.K W0 (tstM ct))) (he : Blk X scope fun X' => PE X' elt (tE X.K W0 ce)) :
    PS X (.Assign [.Name y py] (.ListComp elt [⟨tge, .Name x np, ifs, 0⟩] scope lpos) pos) (tS X.K W (asgM (.v i) (cmrM (own.map (·.2)) tg v ct ce))) := by
  refine ⟨fun pins s σ H D I h => ?_⟩
  rcases lcr_D hv (asg_name h) with h | h | h | ⟨a, vs, hH, h⟩
  · exact (ps_setLc hc hN hy hyl hsw (pi_list (pe_var hx hvis hd hcd)) ok hg ht he (fold_ok rfl)).run pins s σ H D I h
  · exact (ps_setLc hc hN hy hyl hsw (i_ex (tg := tg) (W := W) (e_var hx hvis hd hcd)) ok hg ht he (fold_ok rfl)).run pins s σ H D I h
  · exact (ps_setLc hc hN hy hyl hsw (pi_keys (pe_var hx hvis hd hcd)) ok hg ht he (fold_ok rfl)).run pins s σ H D I h
  · obtain ⟨od, I2⟩ := I.lock hH True.intro
    exact (ps_setLc hc hN hy hyl hsw (pi_keys (pe_var hx hvis hd hcd)) ok hg ht he (fold_ok rfl)).run pins s σ _ D I2 (h od)
theorem s_setLcd {i v : Nat} {x : Str} {np : Pos} {y : Str} {py lpos : Pos} (hc : X.calm = true) (hN : X.N.Nodup) (hy : X.N[i]? = some y) (hyl : X.env.scope.names.lookup y = some .local)
    (hsw : swapsWith (.ListComp elt [⟨tge, .Name x np, ifs, 0⟩] scope lpos) (some (.Name y py)) pos.line X.env = pure true) (hv : ∀ i ∈ tgIs tg, i ∈ own.map (·.2)) (hx : X.N[v]? = some x) (hvis : Vis X.env.scope x) (hd : (x == ("__debug__" : Str)) = false) (hcd : (x == ("__classdict__" : Str)) = false) (ok : BlkOk X.N X.env.scope scope own)
    (hg : Blk X scope fun X' => PG X' tge (tG X.K tg)) (ht : Blk X scope fun X' => PTs X' ifs (tT X.K W0 (tstM ct))) (he : Blk X scope fun X' => PE X' elt (tE X.K W0 ce)) :
    PS X (.Assign [.Name y py] (.ListComp elt [⟨tge, .Name x np, ifs, 0⟩] scope lpos) pos) (tS X.K W (asgM (.v i) (cmdM (own.map (·.2)) tg v ct ce))) := by
  refine ⟨fun pins s σ H D I h => ?_⟩
  obtain ⟨a, vs, hH, h⟩ := lcd_D hv (asg_name h)
  exact (ps_lock (ps_setLc hc hN hy hyl hsw (pi_keys (pe_var hx hvis hd hcd)) ok hg ht he (fold_ok rfl))).run pins s σ H D I ⟨a, _, hH, True.intro, fun od => h od⟩
noncomputable def forrM (tg : Tg) (v : Nat) (cb : Env → Mem → SR) (env : Env) (S : Mem) : SR := liftE env (getV v env S) (rfS (fun g items => forG g (asgT tg) cb items env) env)
omit [PWd] in
theorem forG_cons {g : Mem → Prop} {a : D → Env → Mem → Option Env} {body : Env → Mem → SR} {d : D} {r : List D} {env : Env} {S : Mem} (hg : g S) : forG g a body (d :: r) env S = (match a d env S with
    | none => .bad
    | some e1 => match body e1 S with
      | .nx e2 S2 => forG g a body r e2 S2
      | .ct e2 S2 => forG g a body r e2 S2
      | .bk e2 S2 => open Classical in if g S2 then .nx e2 S2 else .bad
      | z => z) := by
  unfold forG
  rw [forL, if_pos hg]
  cases a d env S with
  | none => rfl
  | some e1 => 
    dsimp only
    cases body e1 S <;> rfl
theorem forG_g {K : PySem.W.Frag} {W : WX} {Dn : Ends} {Mm : MM} {H : Hp} {g : Mem → Prop} {a : D → Env → Mem → Option Env} {body : Env → Mem → SR} {items : List D} {env : Env} {S : Mem} (h : SPost K W Dn Mm H (forG g a body items env S)) : g S := by
  unfold forG at h
  cases items with
  | nil =>
    rw [forL] at h
    dsimp only at h
    split at h
    · assumption
    · exact h.elim
  | cons d r =>
    rw [forL] at h
    by_cases c : g S
    · exact c
    · rw [if_neg c] at h
      exact h.elim
theorem s_forr {v : Nat} {x : Str} {np : Pos} {body : List Stmt} {cb : Env → Mem → SR} (hp : PassesOwn (model X.prog X.w) X.A X.env X.xe) (hc : X.calm = true) (hx : X.N[v]? = some x) (hvis : Vis X.env.scope x) (hd : (x == ("__debug__" : Str)) = false) (hcd : (x == ("__classdict__" : Str)) = false)
    (hg : PG X tge (tG X.K tg)) (hb : PSs X body (tS X.K W cb)) : PS X (.For tge (.Name x np) body [] pos) (tS X.K W (forrM tg v cb)) := by
  refine ⟨fun pins s σ H Dn I h => ?_⟩
  obtain ⟨Mm, env, S, rel, po⟩ := h
  have po0 := po
  unfold forrM at po
  cases hg0 : getV v env S with
  | err c S1 => unfold getV at hg0; split at hg0 <;> cases hg0
  | bad => rw [hg0] at po; exact po.elim
  | ok d S1 =>
    obtain ⟨h1, rfl⟩ := getV_ok hg0
    rw [hg0] at po
    have po : SPost X.K W Dn Mm H (rfS (fun g items => forG g (asgT tg) cb items env) env d S1) := po
    have core : ∀ {g : Mem → Prop} {J : L2.It} {items : List D} {Mm1 : MM} {H1 : Hp} {S2 : Mem}, JOkG X.K g tg Mm1 H1 J items → Rel X.K Mm1 H1 σ env S2 → SPost X.K W Dn Mm1 H1 (forG g (asgT tg) cb items env S2) →
        ∃ W' : Nat → Nat → L2.St → Hp → Prop, (∃ m, W' 0 m σ H1) ∧ ∀ i m σ H, W' i m σ H → (J.stop i H ∧ Dn.nx σ H) ∨ (J.go i H ∧ ∃ N : L2.St → Hp → Prop, (∀ σ' H', N σ' H' → ∃ m', m' < m ∧ W' (i + 1) m' σ' H') ∧ ∀ x H', J.yld i H x H' → tG X.K tg x σ H' fun σ2 H2 => tS X.K W cb { Dn with nx := N, ct := N, bk := Dn.nx } σ2 H2) := by
      intro g J items Mm1 H1 S2 jok rel1 po1
      obtain ⟨G, Y, wk, hG, hY⟩ := jok
      refine for_it wk (fun i σ2 H2 => ∃ Mm2 env2 S2, Ev Mm1 H1 Mm2 H2 ∧ Rel X.K Mm2 H2 σ2 env2 S2 ∧ SPost X.K W Dn Mm2 H2 (forG g (asgT tg) cb (items.drop i) env2 S2)) ⟨Mm1, env, S2, Ev.refl, rel1, po1⟩ ?_ ?_ ?_
      · rintro i σ2 H2 _ ⟨Mm2, env2, S2, ev2, rel2, po2⟩
        obtain ⟨n, hn⟩ := ev2.more
        exact hG Mm2 _ S2 ⟨n, by rw [hn]⟩ ev2.sub rel2.rs (forG_g po2)
      · rintro i x σ2 H2 H3 hi ⟨Mm2, env2, S2, ev2, rel2, po2⟩ y
        have gg := forG_g po2
        obtain ⟨n, hn⟩ := ev2.more
        obtain ⟨d, hd, ev3, rs3, it3⟩ := hY i Mm2 H2 S2 x H3 hi ⟨n, by rw [hn]⟩ ev2.sub rel2.rs gg y
        have hdrop : items.drop i = d :: items.drop (i + 1) := by
          obtain ⟨hi2, e⟩ := List.getElem?_eq_some_iff.mp hd
          rw [List.drop_eq_getElem_cons hi2, e]
        rw [hdrop, forG_cons gg] at po2
        cases ha : asgT tg d env2 S2 with
        | none => rw [ha] at po2; exact po2.elim
        | some e1 =>
          rw [ha] at po2
          dsimp only at po2
          refine ⟨Mm2, env2, S2, d, e1, rel2.mono ev3 rs3, it3, ha, fun σ' rel' _ => ⟨Mm2, e1, S2, rel', ?_⟩⟩
          have po3 := po2.mono ev3
          revert po3
          cases e : cb e1 S2 with
          | nx e2 S3 => exact fun po3 Mm4 H4 σ4 ev4 rel4 => ⟨Mm4, e2, S3, (ev2.trans ev3).trans ev4, rel4, po3.mono ev4⟩
          | ct e2 S3 => exact fun po3 Mm4 H4 σ4 ev4 rel4 => ⟨Mm4, e2, S3, (ev2.trans ev3).trans ev4, rel4, po3.mono ev4⟩
          | bk e2 S3 =>
            intro po3
            dsimp only at po3
            split at po3
            · exact po3
            · exact po3.elim
          | rt d S3 => exact fun po3 => po3
          | er c e2 S3 => exact fun po3 => po3
          | bad => exact fun po3 => po3
      · rintro σ2 H2 ⟨Mm2, env2, S2, ev2, rel2, po2⟩
        have gg := forG_g po2
        rw [List.drop_length] at po2
        have e : forG g (asgT tg) cb [] env2 S2 = .nx env2 S2 := by unfold forG; rw [forL]; exact if_pos gg
        rw [e] at po2
        exact po2 Mm2 H2 σ2 Ev.refl rel2
    cases d with
    | rf i =>
      unfold rfS at po
      dsimp only at po
      split at po
      · rename_i xs hxs
        obtain ⟨w, hw, a, rfl, ha⟩ := rel.er v _ h1
        obtain ⟨vs, hH, _⟩ := rel.rs.ob i a _ ha hxs
        exact (ps_for hp hc (pi_list (pe_var hx hvis hd hcd)) hg hb (fold_ok rfl)).run pins s σ H Dn I ⟨_, hw, a, rfl, ⟨vs, SqL.of hH⟩, core (jokG_list ha) rel po⟩
      · rename_i kvs hxs
        obtain ⟨w, hw, a, rfl, ha⟩ := rel.er v _ h1
        obtain ⟨vs, hH, hk⟩ := rel.rs.ob i a _ ha hxs
        have hm := List.mem_of_getElem? ha
        obtain ⟨od, I2⟩ := I.lock hH True.intro
        have ev := Ev.set (o := .frz od (.dK vs)) rel.rs hm ⟨_, hH, rfl⟩
        have hk2 := hk.mono (sub_set (o := .frz od (.dK vs)) hm ⟨_, hH, rfl⟩)
        have rel2 := rel.mono ev (rel.rs.set (o := .fdct kvs) ha ⟨_, hH, rfl⟩ ⟨od, vs, upd_same, hk2⟩)
        exact (ps_for hp hc (pi_keys (pe_var hx hvis hd hcd)) hg hb (fold_ok rfl)).run pins s σ _ Dn I2 ⟨_, hw, a, od, rfl, .inl ⟨vs, upd_same, core (jok_keys (fz_some.mpr ⟨fun _ => rfl, upd_same⟩) hk2).g rel2 (po.mono ev)⟩⟩
      · rename_i kvs hxs
        obtain ⟨w, hw, a, rfl, ha⟩ := rel.er v _ h1
        obtain ⟨o, vs, hH, hk⟩ := rel.rs.ob i a _ ha hxs
        exact (ps_for hp hc (pi_keys (pe_var hx hvis hd hcd)) hg hb (fold_ok rfl)).run pins s σ H Dn I ⟨_, hw, a, o, rfl, .inl ⟨vs, hH, core (jok_keys (fz_some.mpr ⟨fun _ => rfl, hH⟩) hk).g rel po⟩⟩
      · rename_i kvs hxs
        obtain ⟨w, hw, a, rfl, ha⟩ := rel.er v _ h1
        obtain ⟨j, vs, g1, g2, hH, hk⟩ := rel.rs.ob i a _ ha hxs
        have hm := List.mem_of_getElem? ha
        obtain ⟨od, I2⟩ := I.lock hH True.intro
        have ev := Ev.set (o := .frz od (.dK vs)) rel.rs hm ⟨_, hH, rfl⟩
        have hk2 := hk.mono ev
        have rel2 := rel.mono ev (rel.rs.set (o := .fnd kvs) ha ⟨_, hH, rfl⟩ ⟨j, vs, g1, g2, ⟨od, upd_same⟩, hk2⟩)
        exact (ps_for hp hc (pi_keys (pe_var hx hvis hd hcd)) hg hb (fold_ok rfl)).run pins s σ _ Dn I2 ⟨_, hw, a, od, rfl, .inl ⟨vs, upd_same, core (jok_keysN (fz_some.mpr ⟨fun _ => rfl, upd_same⟩) hk2).g rel2 (po.mono ev)⟩⟩
      · rename_i kvs hxs
        obtain ⟨w, hw, a, rfl, ha⟩ := rel.er v _ h1
        obtain ⟨j, vs, g1, g2, ⟨o, hH⟩, hk⟩ := rel.rs.ob i a _ ha hxs
        exact (ps_for hp hc (pi_keys (pe_var hx hvis hd hcd)) hg hb (fold_ok rfl)).run pins s σ H Dn I ⟨_, hw, a, o, rfl, .inl ⟨vs, hH, core (jok_keysN (fz_some.mpr ⟨fun _ => rfl, hH⟩) hk).g rel po⟩⟩
      · exact po.elim
    | im p =>
      refine (ps_for hp hc (i_ex (tg := tg) (W := W) (e_var hx hvis hd hcd)) hg hb (fold_ok rfl)).run pins s σ H Dn I ?_
      refine ⟨Mm, env, S1, rel, SPost.lift (c := fun env => M.bind (getV v env) exK) (R := JOk X.K tg) (D := Dn) (f := fun items S2 => forG (fun _ => True) (asgT tg) cb items env S2) rel ?_ fun items S2 Mm1 H1 J _ ev rs jok po1 => core jok.g (rel.mono ev rs) po1⟩
      unfold M.bind
      rw [hg0]
      exact po
end
end DL
end

section
set_option maxRecDepth 100000
/-! DX3: dicts written with their pairs. Ours. -/
namespace DL
open PySem PySem.Spec PyProof.Rows L2 PySem.W
variable [PWd]
section
variable {K : PySem.W.Frag} {Mm : MM} {H : Hp} {S : Mem}
theorem RS.showD {p : Addr} {acc : List (Key × V)} {ys : List (PyData × PyData)} (s : RS K (Mm.hide p) H S) (h : H p = some (.dK acc)) (ra : RpK K (fz (Mm.hide p) H) acc ys) :
    Sub (fz (Mm.hide p) H) (fz (Mm.add p) H) ∧ RS K (Mm.add p) H (S ++ [.dct ys]) := by
  have sub : Sub (fz (Mm.hide p) H) (fz (Mm.add p) H) := fun b u e => by
    obtain ⟨h1, h2⟩ := fz_some.mp e
    refine fz_some.mpr ⟨fun hm => h1 ?_, h2⟩
    show b ∈ Mm.m ++ (p :: Mm.z)
    have hm : b ∈ (Mm.m ++ [p]) ++ Mm.z := hm
    simp only [List.mem_append, List.mem_cons, List.not_mem_nil, or_false] at hm ⊢
    rcases hm with (hm | hm) | hm
    · exact .inl hm
    · exact .inr (.inl hm)
    · exact .inr (.inr hm)
  refine ⟨sub, ?_, ?_, fun a ha => s.zs a (List.mem_cons_of_mem _ ha), ?_⟩
  · have nd : (Mm.m ++ (p :: Mm.z)).Nodup := s.nd
    show ((Mm.m ++ [p]) ++ Mm.z).Nodup
    rw [List.append_assoc]
    exact nd
  · have := s.ln
    show (Mm.m ++ [p]).length = _
    have e : Mm.m.length = S.length := this
    simp [e]
  · intro i a o h1 h2
    have e : Mm.m.length = S.length := s.ln
    have h1 : (Mm.m ++ [p])[i]? = some a := h1
    by_cases hi : i < S.length
    · rw [List.getElem?_append_left (by omega)] at h1
      rw [List.getElem?_append_left hi] at h2
      exact (s.ob i a o h1 h2).mono rfl sub (KeepM.more rfl)
    · rw [List.getElem?_append_right (by omega)] at h1 h2
      rw [e] at h1
      cases hk : i - S.length with
      | zero =>
        rw [hk] at h1 h2
        cases h1
        cases h2
        exact ⟨acc, h, ra.mono sub⟩
      | succ n => rw [hk] at h2; cases h2
end
/-! ### pairs -/
/-- keys and values by turns -/
def flatP : List (V × V) → List V
  | [] => []
  | p :: r => p.1 :: p.2 :: flatP r
section
variable {X : Cx} {W : WX}
inductive DP (X : Cx) (W : WX) : List (Option Expr) → List Expr → List (TE × TE) → (Env → M (List D)) → Prop
  | nil : DP X W [] [] [] fun _ => nilK
  | cons {k v : Expr} {ks : List (Option Expr)} {vs : List Expr} {trs : List (TE × TE)} {ck cv : Env → M D} {cs : Env → M (List D)} : PE X k (tE X.K W ck) → PE X v (tE X.K W cv) → DP X W ks vs trs cs →
      DP X W (some k :: ks) (v :: vs) ((tE X.K W ck, tE X.K W cv) :: trs) fun env => M.bind (ck env) fun d => M.bind (M.bind (cv env) fun e => M.bind (cs env) fun ds => consK e ds) fun ds => consK d ds
variable {ks : List (Option Expr)} {vs : List Expr} {trs : List (TE × TE)} {cs : Env → M (List D)} {pos : Pos}
theorem DP.pps (h : DP X W ks vs trs cs) : PPs X pos ks vs trs := by
  induction h with
  | nil => exact pps_nil
  | cons h1 h2 _ ih => exact pps_cons h1 h2 ih
theorem DP.shape (h : DP X W ks vs trs cs) : ks.all (·.isSome) = true ∧ ks.length = vs.length := by
  induction h with
  | nil => exact ⟨rfl, rfl⟩
  | cons _ _ _ ih => exact ⟨by simp [ih.1], by simp [ih.2]⟩
theorem DP.run (h : DP X W ks vs trs cs) : ∀ {σ : L2.St} {H : Hp} {Q : List (V × V) → Hp → Prop}, tL X.K W cs σ H (fun xs H' => ∃ ps, xs = flatP ps ∧ Q ps H') → tPairs trs σ H Q := by
  induction h with
  | nil =>
    rintro σ H Q ⟨Mm, env, S, rel, po⟩
    obtain ⟨ps, e, q⟩ := po.use rel.rs .nil
    cases ps with
    | nil => exact q
    | cons p r => cases e
  | @cons k v ks vs trs ck cv cs h1 h2 _ ih =>
    intro σ H Q h
    show tE X.K W ck σ H _
    refine (tM.bind (R := Rep X.K) (m := ck) (f := fun env d => M.bind (M.bind (cv env) fun e => M.bind (cs env) fun ds => consK e ds) fun ds => consK d ds) h).imp ?_
    rintro x H1 ⟨Mm, env, S, d, rel, ra, po⟩
    rw [bind_assoc] at po
    show tE X.K W cv σ H1 _
    refine ⟨Mm, env, S, rel, (Post.bind po).imp ?_⟩
    rintro y H2 ⟨Mm2, S2, e, ev, rs, rb, po2⟩
    refine ih ⟨Mm2, env, S2, rel.mono ev rs, ?_⟩
    rw [bind_assoc] at po2
    refine (Post.bind po2).imp ?_
    rintro xs H3 ⟨Mm3, S3, ds, ev3, rs3, rc, po3⟩
    have po3 : Post X.K (RepA X.K) (WE W σ) Mm3 H3 _ (.ok (d :: e :: ds) S3) := po3
    obtain ⟨ps, e2, q⟩ := po3.use rs3 (.cons (ra.mono (ev.trans ev3)) (.cons (rb.mono ev3) rc))
    cases ps with
    | nil => cases e2
    | cons p r =>
      obtain ⟨p1, p2⟩ := p
      have e3 : x :: y :: xs = p1 :: p2 :: flatP r := e2
      injection e3 with e4 e5
      injection e5 with e5 e6
      subst e4 e5
      exact ⟨r, e6, q⟩
omit [PWd] in
/-- the pairs, as keys and values -/
theorem pairs_rp {K : PySem.W.Frag} {G : Hp} : ∀ (ps : List (V × V)) (xs : List PyData) {kvs : List (PyData × PyData)}, RpA K G (flatP ps) xs → pairsOf xs = some kvs →
    ∃ ws : List (Key × V), ps = ws.map (fun kv => (kV kv.1, kv.2)) ∧ RpK K G ws kvs
  | [], [], kvs, _, h => by
    cases h
    exact ⟨[], rfl, .nil⟩
  | (p1, p2) :: ps, d1 :: d2 :: ds, kvs, r, h => by
    have r : RpA K G (p1 :: p2 :: flatP ps) (d1 :: d2 :: ds) := r
    obtain ⟨r1, r2, r3⟩ : Rp K G p1 d1 ∧ Rp K G p2 d2 ∧ RpA K G (flatP ps) ds := by
      cases r with
      | cons r1 r => cases r with
        | cons r2 r => exact ⟨r1, r2, r⟩
    unfold pairsOf at h
    split at h
    · rename_i hk
      cases e : pairsOf ds with
      | none => rw [e] at h; cases h
      | some kv2 =>
        rw [e] at h
        cases h
        obtain ⟨k, rfl⟩ := isKy_some hk
        obtain ⟨ws, e2, r4⟩ := pairs_rp ps ds r3 e
        have e3 : p1 = kV k := r1.ky
        subst e3
        exact ⟨(k, p2) :: ws, by rw [e2]; rfl, .cons r2 r4⟩
    · cases h
  | (p1, p2) :: ps, [d], kvs, r, h => by cases h
  | (p1, p2) :: ps, [], kvs, r, h => by
    have r : RpA K G (p1 :: p2 :: flatP ps) [] := r
    cases r
omit [PWd] in
theorem even_rp {K : PySem.W.Frag} {G : Hp} : ∀ (xs : List PyData) {us : List V} {kvs : List (PyData × PyData)}, RpA K G us xs → pairsOf xs = some kvs → ∃ ps, us = flatP ps
  | [], us, kvs, r, _ => by cases r; exact ⟨[], rfl⟩
  | [d], us, kvs, r, h => by cases h
  | d1 :: d2 :: ds, us, kvs, r, h => by
    unfold pairsOf at h
    split at h
    · cases e : pairsOf ds with
      | none => rw [e] at h; cases h
      | some kv2 =>
        cases r with
        | cons r1 r => cases r with
          | cons r2 r =>
            obtain ⟨ps, rfl⟩ := even_rp ds r e
            exact ⟨(_, _) :: ps, rfl⟩
    · cases h
omit [PWd] in
theorem merge_rp {K : PySem.W.Frag} {G : Hp} {ws : List (Key × V)} {kvs : List (PyData × PyData)} (r : RpK K G ws kvs) : ∀ {us : List (Key × V)} {m : List (PyData × PyData)}, RpK K G us m → RpK K G (mergeK us ws) (mergeP m kvs) := by
  induction ws generalizing kvs with
  | nil => intro us m q; cases r; exact q
  | cons w ws ih =>
    intro us m q
    cases r with
    | cons r1 r2 =>
      rename_i k v d ds
      exact ih r2 (q.put r1)
theorem dic_core (h : DP X W ks vs trs cs) {mu : Bool} {σ : L2.St} {H : Hp} {Q : VK} (h' : tE X.K W (fun env => M.bind (noE (cs env)) (dicK mu)) σ H Q) (p : Addr) (hp : H p = none) :
    tPairs trs σ (upd H p (.dK [])) fun ps H2 => H2 p = some (.dK []) ∧ ∃ kvs : List (Key × V), ps = kvs.map (fun kv => (kV kv.1, kv.2)) ∧ kvs.length ≤ 15 ∧
      (mu = true → Q (.ref p) (upd H2 p (.dK (mergeK [] kvs)))) ∧ (mu = false → ∀ od, Q (.ref p) (upd H2 p (.frz od (.dK (mergeK [] kvs))))) := by
  obtain ⟨Mm, env, S, rel, po⟩ := h'
  refine h.run ⟨Mm.hide p, env, S, ⟨rel.rs.hide hp rfl, fun i d e => ?_, rel.ln⟩, ?_⟩
  · obtain ⟨v, h1, h2⟩ := rel.er i d e
    refine ⟨v, h1, ?_⟩
    cases d with
    | im q => exact Rp.mono (by rw [fz_hide (o := .dK []) hp rfl]; exact Sub.refl _) h2
    | rf j => exact h2
  · have po : Post X.K (Rep X.K) (WE W σ) Mm H Q (M.bind (noE (cs env)) (dicK mu) S) := po
    unfold M.bind noE at po
    cases e : cs env S with
    | bad => rw [e] at po; exact po.elim
    | err c S' => rw [e] at po; exact po.elim
    | ok ds S1 =>
      rw [e] at po
      dsimp only at po
      unfold dicK at po
      split at po
      · rename_i xs hx
        split at po
        · rename_i kvs hk
          split at po
          · rename_i h15
            intro Mm' H' us ev rs ra
            obtain ⟨⟨n, hn⟩, hid, sub⟩ := ev
            have hz : p ∈ Mm'.z := by rw [hn]; exact List.mem_cons_self
            have hH : H' p = some (.dK []) := (hid p List.mem_cons_self).trans upd_same
            have ra := ra.im hx
            obtain ⟨ps, rfl⟩ := even_rp xs ra hk
            obtain ⟨ws, rfl, rk⟩ := pairs_rp _ _ ra hk
            have hlen := rk.length
            refine ⟨_, rfl, hH, ws, rfl, by omega, ?_, ?_⟩
            · rintro rfl
              rw [if_pos rfl] at po
              have e6 : Mm' = (⟨Mm.m ++ n, Mm.z⟩ : MM).hide p := hn
              generalize e9 : (⟨Mm.m ++ n, Mm.z⟩ : MM) = Mm6 at e6
              subst e6
              have hnf : NoFz H' p := ⟨_, hH, rfl⟩
              have rs2 := rs.hupd (o := .dK (mergeK [] ws)) hz hnf
              have fe : Sub (fz (Mm6.hide p) H') (fz (Mm6.hide p) (upd H' p (.dK (mergeK [] ws)))) := sub_hupd hz hnf
              have rm : RpK X.K (fz (Mm6.hide p) (upd H' p (.dK (mergeK [] ws)))) (mergeK [] ws) (mergeP [] kvs) := by
                exact (merge_rp rk .nil).mono fe
              obtain ⟨sub2, rs3⟩ := rs2.showD upd_same rm
              refine po.use' ⟨⟨n ++ [p], ?_⟩, fun b hb => ?_, ?_⟩ rs3 ⟨p, rfl, ?_⟩
              · have e7 : Mm6 = ⟨Mm.m ++ n, Mm.z⟩ := e9.symm
                rw [e7]
                show MM.mk _ _ = MM.mk _ _
                rw [List.append_assoc]
              · have nb := rel.rs.ne_z hp hb
                rw [upd_ne nb, hid b (List.mem_cons_of_mem _ hb), upd_ne nb]
              · refine Sub.trans ?_ sub2
                rw [← fz_hide (o := .dK []) hp rfl]
                exact sub.trans fe
              · have e8 : Mm6.m.length = S1.length := rs.ln
                show (Mm6.m ++ [p])[S1.length]? = some p
                rw [← e8]
                simp
            · rintro rfl od
              rw [if_neg (by simp)] at po
              have e6 : Mm' = (⟨Mm.m ++ n, Mm.z⟩ : MM).hide p := hn
              generalize e9 : (⟨Mm.m ++ n, Mm.z⟩ : MM) = Mm6 at e6
              subst e6
              have hnf : NoFz H' p := ⟨_, hH, rfl⟩
              have rs2 := rs.hupd (o := .frz od (.dK (mergeK [] ws))) hz hnf
              have fe : Sub (fz (Mm6.hide p) H') (fz (Mm6.hide p) (upd H' p (.frz od (.dK (mergeK [] ws))))) := sub_hupd hz hnf
              have rs3 := rs2.show_
              have nm : p ∉ Mm6.m ++ Mm6.z := by
                have nd : (Mm6.m ++ (p :: Mm6.z)).Nodup := rs.nd
                intro hm
                obtain ⟨d1, d2, d3⟩ := List.nodup_append.mp nd
                rcases List.mem_append.mp hm with hm | hm
                · exact d3 p hm p List.mem_cons_self rfl
                · exact (List.nodup_cons.mp d2).1 hm
              have sb : Sub (fz (Mm6.hide p) H') (fz Mm6 (upd H' p (.frz od (.dK (mergeK [] ws))))) := by
                exact fe.trans sub_show
              refine po.use' ⟨⟨n, e9.symm⟩, fun b hb => ?_, ?_⟩ rs3 ?_
              · have nb := rel.rs.ne_z hp hb
                rw [upd_ne nb, hid b (List.mem_cons_of_mem _ hb), upd_ne nb]
              · refine Sub.trans ?_ sb
                rw [← fz_hide (o := .dK []) hp rfl]
                exact sub
              · exact Rp.dct (fz_some.mpr ⟨fun _ => rfl, upd_same⟩) ((merge_rp rk .nil).mono sb)
          · exact po.elim
        · exact po.elim
      · exact po.elim
theorem e_dicP (h : DP X W ks vs trs cs) (h0 : ks ≠ []) (h15 : ks.length ≤ 15) : ∀ mu, PE X (.Dict ks vs pos) (tE X.K W fun env => M.bind (noE (cs env)) (dicK mu))
  | true => PE.imp (pe_disp h.pps h.shape.1 h.shape.2 h0 h15) fun σ H Q h' p hp => by
    have q := dic_core h h' p hp
    have imp : ∀ {trs : List (TE × TE)} {σ : L2.St} {H : Hp} {Q Q' : List (V × V) → Hp → Prop} {ks : List (Option Expr)} {vs : List Expr} {cs : Env → M (List D)}, DP X W ks vs trs cs → (∀ ps H, Q ps H → Q' ps H) → tPairs trs σ H Q → tPairs trs σ H Q' := by
      intro trs σ H Q Q' ks vs cs d
      induction d generalizing σ H Q Q' with
      | nil => exact fun f q => f _ _ q
      | cons _ _ _ ih => exact fun f q => tM.imp q fun x H1 q => tM.imp q fun y H2 q => ih (fun ps H q => f _ _ q) q
    exact imp h (fun ps H2 ⟨a, kvs, b, c, d, _⟩ => ⟨a, kvs, b, c, d rfl⟩) q
  | false => by
    refine ⟨fun pins s σ H Q I h' => ?_⟩
    refine thn ((pe_disp h.pps h.shape.1 h.shape.2 h0 h15).run pins s σ H (fun v H1 => ∃ (p : Addr) (H2 : Hp) (m : List (Key × V)), v = .ref p ∧ H1 = upd H2 p (.dK m) ∧ ∀ od, Q (.ref p) (upd H2 p (.frz od (.dK m)))) I fun p hp => ?_) ?_
    · have q := dic_core h h' p hp
      have imp : ∀ {trs : List (TE × TE)} {σ : L2.St} {H : Hp} {Q Q' : List (V × V) → Hp → Prop} {ks : List (Option Expr)} {vs : List Expr} {cs : Env → M (List D)}, DP X W ks vs trs cs → (∀ ps H, Q ps H → Q' ps H) → tPairs trs σ H Q → tPairs trs σ H Q' := by
        intro trs σ H Q Q' ks vs cs d
        induction d generalizing σ H Q Q' with
        | nil => exact fun f q => f _ _ q
        | cons _ _ _ ih => exact fun f q => tM.imp q fun x H1 q => tM.imp q fun y H2 q => ih (fun ps H q => f _ _ q) q
      exact imp h (fun ps H2 ⟨a, kvs, b, c, _, d⟩ => ⟨a, kvs, b, c, p, H2, _, rfl, rfl, d rfl⟩) q
    · rintro u s1 ⟨v, H1, I1, r, p, H2, m, rfl, rfl, q⟩
      obtain ⟨od, I2⟩ := I1.lock (d := p) upd_same True.intro
      rw [upd_upd] at I2
      exact ⟨.ref p, _, I2, r, q od⟩
end
end DL
end

section
set_option maxRecDepth 100000
/-! DX4: lists of lists that may change. Ours. -/
namespace DL
open PySem PySem.Spec PyProof.Rows L2 PySem.W

/-! ### the meaning, as the rules want it -/
def turnNM (ct ce : Env → M D) (env' : Env) : M (Option D) := M.bind (ct env') fun r => M.bind (tstD r) fun t => if t = true then M.bind (ce env') itemR else skipR
def turnNF (own : List Nat) (tg : Tg) (ct ce : Env → M D) (env : Env) (d : D) : M (Option D) := fun S => match asgT tg d (wipeE env own) S with
  | some env' => turnNM ct ce env' S
  | none => .bad
def cmlM (own : List Nat) (tg : Tg) (ci : Env → M (List D)) (ct ce : Env → M D) (env : Env) : M D := M.bind (ci env) fun items => cmlK (turnNF own tg ct ce env) items
theorem compR_cons {f : D → M (Option D)} {d : D} {r : List D} {zs : List D} {S Sf : Mem} (h : compR f (d :: r) S = .ok zs Sf) :
    ∃ o S2 ws, f d S = .ok o S2 ∧ compR f r S2 = .ok ws Sf ∧ zs = (match o with | some y => y :: ws | none => ws) := by
  unfold compR M.bind at h
  cases e : f d S with
  | err c S2 => rw [e] at h; cases h
  | bad => rw [e] at h; cases h
  | ok o S2 =>
    rw [e] at h
    dsimp only at h
    cases e2 : compR f r S2 with
    | err c S3 => rw [e2] at h; cases h
    | bad => rw [e2] at h; cases h
    | ok ws S3 =>
      rw [e2] at h
      cases h
      exact ⟨o, S2, ws, rfl, e2, rfl⟩
theorem turnNM_ok {ct ce : Env → M D} {env : Env} {S : Mem} {o : Option D} {S2 : Mem} (h : turnNM ct ce env S = .ok o S2) :
    ∃ t Sa, M.bind (ct env) tstD S = .ok t Sa ∧ ((t = true ∧ ∃ p, ce env Sa = .ok p S2 ∧ o = some p) ∨ (t = false ∧ o = none ∧ S2 = Sa)) := by
  unfold turnNM M.bind at h
  unfold M.bind
  cases e : ct env S with
  | err c S2 => rw [e] at h; cases h
  | bad => rw [e] at h; cases h
  | ok d S1 =>
    rw [e] at h
    dsimp only at h ⊢
    cases e2 : tstD d S1 with
    | err c S2 => rw [e2] at h; cases h
    | bad => rw [e2] at h; cases h
    | ok t Sa =>
      rw [e2] at h
      dsimp only at h
      refine ⟨t, Sa, rfl, ?_⟩
      cases t with
      | false =>
        simp only [Bool.false_eq_true, if_false] at h
        cases h
        exact .inr ⟨rfl, rfl, rfl⟩
      | true =>
        simp only [if_true] at h
        cases e3 : ce env Sa with
        | err c S2 => rw [e3] at h; cases h
        | bad => rw [e3] at h; cases h
        | ok y Sb =>
          rw [e3] at h
          cases h
          exact .inl ⟨rfl, y, rfl, rfl⟩
variable [PWd]
section
variable {K : PySem.W.Frag} {Mm Mm1 : MM} {H H1 : Hp} {S : Mem}
theorem RepA.monoS {vs : List V} {ds : List D} (r : RepA K Mm H vs ds) (hm : ∃ n, Mm1.m = Mm.m ++ n) (s : Sub (fz Mm H) (fz Mm1 H1)) : RepA K Mm1 H1 vs ds := by
  induction r with
  | nil => exact .nil
  | cons h _ ih => exact .cons (h.monoW hm s) ih
theorem RepA.lt {vs : List V} {ds : List D} (r : RepA K Mm H vs ds) : ∀ j, D.rf j ∈ ds → j < Mm.m.length := by
  induction r with
  | nil => intro j hj; cases hj
  | cons h _ ih =>
    intro j hj
    rcases List.mem_cons.mp hj with e | e
    · subst e
      obtain ⟨a, _, h2⟩ := h
      exact (List.getElem?_eq_some_iff.mp h2).1
    · exact ih j e
theorem RepA.append {vs ws : List V} {ds es : List D} (r : RepA K Mm H vs ds) (r2 : RepA K Mm H ws es) : RepA K Mm H (vs ++ ws) (ds ++ es) := by
  induction r with
  | nil => exact r2
  | cons h _ ih => exact .cons h ih
theorem RepA.get {vs : List V} {ds : List D} (r : RepA K Mm H vs ds) {i : Nat} {d : D} (h : ds[i]? = some d) : ∃ v, vs[i]? = some v ∧ Rep K Mm H v d := by
  induction r generalizing i with
  | nil => simp at h
  | cons h1 _ ih =>
    cases i with
    | zero => simp at h; subst h; exact ⟨_, rfl, h1⟩
    | succ i => exact ih (by simpa using h)
theorem RS.showN {p : Addr} {acc : List V} {ys : List D} (s : RS K (Mm.hide p) H S) (h : H p = some (.lst acc)) (ra : RepA K (Mm.hide p) H acc ys) :
    Sub (fz (Mm.hide p) H) (fz (Mm.add p) H) ∧ RS K (Mm.add p) H (S ++ [.nl ys]) := by
  have sub : Sub (fz (Mm.hide p) H) (fz (Mm.add p) H) := fun b u e => by
    obtain ⟨h1, h2⟩ := fz_some.mp e
    refine fz_some.mpr ⟨fun hm => h1 ?_, h2⟩
    show b ∈ Mm.m ++ (p :: Mm.z)
    have hm : b ∈ (Mm.m ++ [p]) ++ Mm.z := hm
    simp only [List.mem_append, List.mem_cons, List.not_mem_nil, or_false] at hm ⊢
    rcases hm with (hm | hm) | hm
    · exact .inl hm
    · exact .inr (.inl hm)
    · exact .inr (.inr hm)
  refine ⟨sub, ?_, ?_, fun a ha => s.zs a (List.mem_cons_of_mem _ ha), ?_⟩
  · have nd : (Mm.m ++ (p :: Mm.z)).Nodup := s.nd
    show ((Mm.m ++ [p]) ++ Mm.z).Nodup
    rw [List.append_assoc]
    exact nd
  · have := s.ln
    show (Mm.m ++ [p]).length = _
    have e : Mm.m.length = S.length := this
    simp [e]
  · intro i a o h1 h2
    have e : Mm.m.length = S.length := s.ln
    have h1 : (Mm.m ++ [p])[i]? = some a := h1
    by_cases hi : i < S.length
    · rw [List.getElem?_append_left (by omega)] at h1
      rw [List.getElem?_append_left hi] at h2
      exact (s.ob i a o h1 h2).mono rfl sub (KeepM.more rfl)
    · have h0 := h1
      rw [List.getElem?_append_right (by omega)] at h1 h2
      rw [e] at h1
      cases hk : i - S.length with
      | zero =>
        rw [hk] at h1 h2
        cases h1
        cases h2
        have hlt : ∀ j, D.rf j ∈ ys → j < Mm.m.length := ra.lt
        refine ⟨i, acc, h0, fun j hj => ?_, h, ra.monoS ⟨[p], rfl⟩ sub⟩
        have := hlt j hj
        omega
      | succ n => rw [hk] at h2; cases h2
/-- the walk of a comprehension of lists: the accumulator hidden -/
structure LcN (K : PySem.W.Frag) (f : D → M (Option D)) (items : List D) (Mm1 : MM) (H1 : Hp) (D0 : Addr) (yz : List D) (Sf : Mem) (i : Nat) (H : Hp) (Mm : MM) (S : Mem) (acc : List V) (ys zs : List D) : Prop where
  more : ∃ n, Mm = ⟨Mm1.m ++ n, Mm1.z⟩
  hid : ∀ b ∈ Mm1.z, H b = H1 b
  sub : Sub (fz Mm1 H1) (fz (Mm.hide D0) H)
  rs : RS K (Mm.hide D0) H S
  at_ : H D0 = some (.lst acc)
  ra : RepA K (Mm.hide D0) H acc ys
  run : compR f (items.drop i) S = .ok zs Sf
  all : yz = ys ++ zs
  len : ys.length ≤ i
end
theorem lcn_D {K : PySem.W.Frag} {W : WX} {own : List Nat} {tg : Tg} {ci : Env → M (List D)} {ct ce : Env → M D} (hv : ∀ i ∈ tgIs tg, i ∈ own) {σ : L2.St} {H : Hp} {Q : VK} (h : tE K W (cmlM own tg ci ct ce) σ H Q) :
    tLc (tI K W tg ci) (tG K tg) (tT K W0 (tstM ct)) (tE K W0 ce) own σ H Q := by
  refine (tM.bind (R' := Rep K) (R := JOk K tg) (m := ci) (f := fun env items => cmlK (turnNF own tg ct ce env) items) h).imp ?_
  rintro J H1 ⟨Mm1, env, S1, items, rel, jok, po⟩ D0 hD0
  obtain ⟨G, Y, wk, hG, hY⟩ := jok
  unfold cmlK at po
  split at po
  case isFalse => exact po.elim
  rename_i hlen
  cases hrun : compR (turnNF own tg ct ce env) items S1 with
  | err c S2 => rw [hrun] at po; exact po.elim
  | bad => rw [hrun] at po; exact po.elim
  | ok yz Sf =>
  rw [hrun] at po
  refine lc_it wk (fun i H => ∃ Mm S acc ys zs, LcN K (turnNF own tg ct ce env) items Mm1 H1 D0 yz Sf i H Mm S acc ys zs) ?_ ?_ ?_ ?_
  · refine ⟨Mm1, S1, [], [], yz, ⟨[], by cases Mm1; simp⟩, fun b hb => upd_ne (rel.rs.ne_z hD0 hb), by rw [fz_hide (o := .lst []) hD0 rfl]; exact Sub.refl _, rel.rs.hide hD0 rfl, upd_same, .nil, hrun, rfl, Nat.le_refl _⟩
  · rintro i H2 _ ⟨Mm, S, acc, ys, zs, p⟩
    exact hG _ _ p.sub
  · rintro i x H2 H3 hi ⟨Mm, S, acc, ys, zs, p⟩ y
    obtain ⟨d, hd, ev3, rs3, it3⟩ := hY i (Mm.hide D0) H2 S x H3 hi p.sub p.rs y
    have hD3 : H3 D0 = some (.lst acc) := (ev3.hid D0 List.mem_cons_self).trans p.at_
    have hdrop : items.drop i = d :: items.drop (i + 1) := by
      obtain ⟨hi2, e⟩ := List.getElem?_eq_some_iff.mp hd
      rw [List.drop_eq_getElem_cons hi2, e]
    have hrun2 := p.run
    rw [hdrop] at hrun2
    obtain ⟨o, S2, ws, hf, hrest, hzs⟩ := compR_cons hrun2
    unfold turnNF at hf
    split at hf
    case h_2 => cases hf
    rename_i env' ha
    obtain ⟨n, hn⟩ := p.more
    have rel3 : Rel K (Mm.hide D0) H3 (wipe σ own) (wipeE env own) S := (rel.wipe own).monoW ⟨n, by rw [hn]; rfl⟩ (p.sub.trans ev3.sub) rs3
    refine ⟨Mm.hide D0, wipeE env own, S, d, env', rel3, it3, ha, fun σ' rel' hin => ⟨by rw [wipe_in hin hv, wipe_idem], ?_⟩⟩
    obtain ⟨t, Sa, ht, hcase⟩ := turnNM_ok hf
    refine ⟨Mm.hide D0, env', S, rel', ?_⟩
    rw [show tstM ct env' S = .ok t Sa from ht]
    intro Mm4 H4 b ev4 rs4 rb
    cases rb
    have key : ∀ {Mm5 : MM} {H5 : Hp} {S5 : Mem}, Ev (Mm.hide D0) H3 Mm5 H5 → RS K Mm5 H5 S5 → ∃ Mm6 : MM, Mm5 = Mm6.hide D0 ∧ (∃ n, Mm6 = ⟨Mm1.m ++ n, Mm1.z⟩) ∧ (∀ b ∈ Mm1.z, H5 b = H1 b) ∧ Sub (fz Mm1 H1) (fz (Mm6.hide D0) H5) ∧ H5 D0 = some (.lst acc) ∧ RepA K (Mm6.hide D0) H5 acc ys := fun {Mm5 H5 S5} ev5 rs5 => by
      obtain ⟨n5, e5⟩ := ev5.more
      have hz : ∀ b ∈ Mm1.z, b ∈ (Mm.hide D0).z := fun b hb => by
        show b ∈ D0 :: Mm.z
        rw [hn]
        exact List.mem_cons_of_mem _ hb
      refine ⟨⟨Mm.m ++ n5, Mm.z⟩, e5, ⟨n ++ n5, by rw [hn]; simp⟩, fun b hb => ?_, ?_, ?_, ?_⟩
      · rw [ev5.hid b (hz b hb), ev3.hid b (hz b hb), p.hid b hb]
      · have := (p.sub.trans ev3.sub).trans ev5.sub
        rw [e5] at this
        exact this
      · rw [ev5.hid D0 List.mem_cons_self]
        exact hD3
      · have := p.ra.mono (ev3.trans ev5)
        rw [e5] at this
        exact this
    rcases hcase with ⟨rfl, q, hce, rfl⟩ | ⟨rfl, rfl, rfl⟩
    · simp only [if_true]
      refine ⟨Mm4, env', Sa, rel'.mono ev4 rs4, ?_⟩
      rw [hce]
      intro Mm5 H5 y5 ev5 rs5 rp5
      obtain ⟨Mm6, rfl, h1, h2, h3, h4, h5⟩ := key (ev4.trans ev5) rs5
      have hz : D0 ∈ (Mm6.hide D0).z := List.mem_cons_self
      have hne : ∀ b ∈ Mm1.z, b ≠ D0 := fun b hb => rel.rs.ne_z hD0 hb
      refine ⟨acc, h4, by rw [h5.length]; have := p.len; omega, Mm6, S2, acc ++ [y5], ys ++ [q], ws, h1, fun b hb => by rw [upd_ne (hne b hb)]; exact h2 b hb, h3.trans (sub_hupd hz ⟨_, h4, rfl⟩), rs5.hupd hz ⟨_, h4, rfl⟩, upd_same, ?_, hrest, ?_, ?_⟩
      · exact (h5.append (.cons rp5 .nil)).monoS ⟨[], by simp⟩ (sub_hupd hz ⟨_, h4, rfl⟩)
      · rw [p.all, hzs]
        simp
      · have := p.len
        simp
        omega
    · simp only [Bool.false_eq_true, if_false]
      obtain ⟨Mm6, rfl, h1, h2, h3, h4, h5⟩ := key ev4 rs4
      exact ⟨Mm6, S2, acc, ys, ws, h1, h2, h3, rs4, h4, h5, hrest, by rw [p.all, hzs], Nat.le_succ_of_le p.len⟩
  · rintro H2 ⟨Mm, S, acc, ys, zs, p⟩
    have hr := p.run
    rw [List.drop_length] at hr
    cases hr
    have hy : yz = ys := by rw [p.all, List.append_nil]
    subst hy
    obtain ⟨n, hn⟩ := p.more
    have po : Post K (Rep K) (WE W σ) Mm1 H1 Q (.ok (.rf Sf.length) (Sf ++ [.nl yz])) := po
    obtain ⟨sub, rs'⟩ := p.rs.showN p.at_ p.ra
    refine po.use' ⟨⟨n ++ [D0], by rw [hn]; show (⟨_, _⟩ : MM) = _; simp [MM.add]⟩, p.hid, p.sub.trans sub⟩ rs' ?_
    refine ⟨D0, rfl, ?_⟩
    have e : Mm.m.length = Sf.length := p.rs.ln
    show (Mm.m ++ [D0])[Sf.length]? = some D0
    rw [← e]
    simp
section
variable {X : Cx} {W : WX} {elt tge iter : Expr} {ifs : List Expr} {scope : Scope} {own : List (Str × Nat)} {pos : Pos} {tg : Tg} {ci : Env → M (List D)} {ct ce : Env → M D}
theorem e_cml (hc : X.calm = true) (hN : X.N.Nodup) (hv : ∀ i ∈ tgIs tg, i ∈ own.map (·.2)) (hi : PI X tge iter (tI X.K W tg ci)) (ok : BlkOk X.N X.env.scope scope own)
    (hg : Blk X scope fun X' => PG X' tge (tG X.K tg)) (ht : Blk X scope fun X' => PTs X' ifs (tT X.K W0 (tstM ct))) (he : Blk X scope fun X' => PE X' elt (tE X.K W0 ce)) (hs : setE iter = false) :
    PE X (.ListComp elt [⟨tge, iter, ifs, 0⟩] scope pos) (tE X.K W (cmlM (own.map (·.2)) tg ci ct ce)) :=
  PE.imp (pe_lc hc hN hi ok hg ht he (fold_ok hs)) fun σ H Q h => lcn_D hv h
theorem s_setCml {i : Nat} {y : Str} {py lpos : Pos} (hc : X.calm = true) (hN : X.N.Nodup) (hy : X.N[i]? = some y) (hyl : X.env.scope.names.lookup y = some .local)
    (hsw : swapsWith (.ListComp elt [⟨tge, iter, ifs, 0⟩] scope lpos) (some (.Name y py)) pos.line X.env = pure true) (hv : ∀ i ∈ tgIs tg, i ∈ own.map (·.2)) (hi : PI X tge iter (tI X.K W tg ci)) (ok : BlkOk X.N X.env.scope scope own)
    (hg : Blk X scope fun X' => PG X' tge (tG X.K tg)) (ht : Blk X scope fun X' => PTs X' ifs (tT X.K W0 (tstM ct))) (he : Blk X scope fun X' => PE X' elt (tE X.K W0 ce)) (hs : setE iter = false) :
    PS X (.Assign [.Name y py] (.ListComp elt [⟨tge, iter, ifs, 0⟩] scope lpos) pos) (tS X.K W (asgM (.v i) (cmlM (own.map (·.2)) tg ci ct ce))) :=
  PS.imp (ps_setLc hc hN hy hyl hsw hi ok hg ht he (fold_ok hs)) fun D σ H h => lcn_D hv (asg_name h)
end
/-! ### one of a list of lists -/
theorem ixA_atR {K : PySem.W.Frag} {Mm : MM} {H : Hp} {vs : List V} {ds : List D} {i : Int} {p : D} (r : RepA K Mm H vs ds) (h : ixA ds i = some p) : ∃ v, atI vs i = some v ∧ Rep K Mm H v p := by
  unfold ixA at h
  have hl := r.length
  unfold atI ixN
  by_cases h0 : 0 ≤ i
  · rw [if_pos h0] at h
    obtain ⟨v, e, rv⟩ := r.get h
    have hi : i.toNat < vs.length := (List.getElem?_eq_some_iff.mp e).1
    exact ⟨v, by rw [if_pos h0, if_pos (by omega)]; exact e, rv⟩
  · rw [if_neg h0] at h
    split at h
    · rename_i h1
      obtain ⟨v, e, rv⟩ := r.get h
      exact ⟨v, by rw [if_neg h0, if_pos (by rw [hl]; exact h1), hl]; exact e, rv⟩
    · cases h
section
variable {K : PySem.W.Frag} {Mm : MM} {H : Hp}
theorem RepK.get {vs : List (Key × V)} {ds : List (PyData × D)} (r : RepK K Mm H vs ds) {k : Key} {d : D} (h : lkN (kP k) ds = some d) : ∃ v, valV vs k = some v ∧ Rep K Mm H v d := by
  induction r with
  | nil => cases h
  | cons h1 _ ih =>
    rename_i j v vs d' ds _
    unfold lkN at h
    by_cases e : j = k
    · subst e
      rw [if_pos (by rw [eqv_kP]; exact decide_eq_true rfl)] at h
      cases h
      exact ⟨v, valV_pos rfl, h1⟩
    · rw [if_neg (by rw [eqv_kP, decide_eq_false e]; exact Bool.false_ne_true)] at h
      rw [valV_neg (by exact e)]
      exact ih h
end
section
variable {X : Cx} {W : WX} {E : XK}
theorem ix_N (hu : X.A.units + 1 < cLine) : IxR X (rD X.K E idnD) := IxR.of (ix_list.or (ix_dic hu)) fun x y H Q ⟨Mm, S, d1, d2, rs, r1, r2, po⟩ => by
  unfold idnD at po
  split at po
  · rename_i i k
    split at po
    · rename_i ds j hS
      cases r2
      split at po
      · rename_i d hd
        obtain ⟨a, rfl, ha⟩ := r1
        obtain ⟨_, vs, _, _, h3, h4⟩ := rs.ob i a _ ha hS
        obtain ⟨w, e, rw'⟩ := ixA_atR h4 hd
        exact .inl ⟨a, vs, j, w, rfl, rfl, SqL.of h3, e, po.use rs rw'⟩
      · exact po.elim
    · rename_i kvs j hS
      cases r2
      split at po
      · rename_i d hd
        obtain ⟨a, rfl, ha⟩ := r1
        obtain ⟨_, vs, _, _, ⟨o, h3⟩, h4⟩ := rs.ob i a _ ha hS
        obtain ⟨w, e, rw'⟩ := h4.get (k := .inl j) hd
        exact .inr ⟨a, w, rfl, .inl ⟨vs, .inl j, .inr ⟨o, h3⟩, rfl, e.symm⟩, po.use rs rw'⟩
      · exact po.elim
    · exact po.elim
  · exact po.elim
variable {a b : Expr} {ca cb : Env → M D} {pos : Pos}
theorem e_idn (hu : X.A.units + 1 < cLine) (ha : PE X a (tE X.K W ca)) (hb : PE X b (tE X.K W cb)) (hp : plainE b = true) : PE X (.Subscript a b pos) (tE X.K W fun env => M.bind (ca env) fun x => M.bind (cb env) fun y => idnD x y) := by
  refine ⟨fun pins s σ H Q I h => ?_⟩
  refine (pe_ix (ix_N (E := WE W σ) hu) ha hb (plain_ix hp)).run pins s σ H Q I ?_
  refine (tM.bind (R := Rep X.K) (m := ca) (f := fun env x => M.bind (cb env) fun y => idnD x y) h).imp ?_
  rintro x H1 ⟨Mm, env, S, d, rel, ra, po⟩
  refine ⟨Mm, env, S, rel, (Post.bind po).imp ?_⟩
  rintro y H2 ⟨Mm2, S2, d2, ev, rs, rb, po2⟩
  exact ⟨Mm2, S2, d, d2, rs, ra.mono ev, rb, po2⟩
end

/-! ### for i, x in enumerate(a name's list) -/
theorem jokG_enum {K : PySem.W.Frag} {Mm : MM} {H : Hp} {is : List Nat} {a : Addr} {i : Nat} {xs : List PyData} (ha : Mm.m[i]? = some a) : JOkG K (gOn i xs) (.t is) Mm H (Ite K a) (enmL xs) := by
  have at_ : ∀ {Mm2 : MM} {H2 : Hp} {S2 : Mem}, (∃ n, Mm2.m = Mm.m ++ n) → RS K Mm2 H2 S2 → gOn i xs S2 → ∃ vs, H2 a = some (.lst vs) ∧ RpA K (fz Mm2 H2) vs xs := by
    rintro Mm2 H2 S2 ⟨n, e⟩ rs gg
    obtain ⟨hi, _⟩ := List.getElem?_eq_some_iff.mp ha
    exact rs.ob i a (.lst xs) (by rw [e, List.getElem?_append_left hi]; exact ha) gg
  refine ⟨fun H => ∃ vs, H a = some (.lst vs) ∧ vs.length = xs.length, fun j H x H' => ∃ vs, H a = some (.lst vs) ∧ vs.length = xs.length ∧ YPair (fun i => some (.int (i : Nat))) (fun i => vs[i]?) j H x H', ?_, ?_, ?_⟩
  · have el : (enmL xs).length = xs.length := by simp [enmL]
    rw [el]
    refine ⟨fun j H2 hj ⟨vs, h, hl⟩ => ?_, fun H2 ⟨vs, h, hl⟩ => ?_, fun j H2 x H3 hj ⟨vs, h, hl⟩ y => ?_⟩
    · exact (walk_enum (K := K) (a := a) (xs := vs)).goes j H2 (by omega) (SqL.of h)
    · have := (walk_enum (K := K) (a := a) (xs := vs)).stops H2 (SqL.of h)
      rw [hl] at this
      exact this
    · exact ⟨vs, h, hl, (walk_enum (K := K) (a := a) (xs := vs)).yields j H2 x H3 (by omega) (SqL.of h) y⟩
  · intro Mm2 H2 S2 hm _ rs gg
    obtain ⟨vs, h1, h2⟩ := at_ hm rs gg
    exact ⟨vs, h1, h2.length⟩
  · rintro j Mm2 H2 S2 x H3 hj hm e rs gg ⟨vs, h1, h2, T, u, v, rfl, hT, rfl, g1, g2⟩
    obtain ⟨ws, k1, k2⟩ := at_ hm rs gg
    have e2 : vs = ws := by
      have z := h1.symm.trans k1
      cases z
      rfl
    subst e2
    cases g1
    obtain ⟨q, hq, rq⟩ := k2.get' g2
    obtain ⟨e1, e2, e3⟩ := item_pair (is := is) (x := .int (j : Nat)) (p := .int (j : Nat)) rs hT (.int _) rq
    refine ⟨.im (.tuple [.int (j : Nat), q]), ?_, e1, e2, e3⟩
    have hi2 : j < xs.length := (List.getElem?_eq_some_iff.mp hq).1
    unfold enmL
    rw [List.getElem?_map, (List.getElem?_zip_eq_some (z := (PyData.int (j : Nat), q))).mpr ⟨by simp [hi2], hq⟩]
    rfl
section
variable {X : Cx} {W : WX} {pos : Pos}
theorem for_core {K : PySem.W.Frag} {tg : Tg} {cb : Env → Mem → SR} {σ : L2.St} {env : Env} {Dn : Ends} {g : Mem → Prop} {J : L2.It} {items : List D} {Mm1 : MM} {H1 : Hp} {S2 : Mem} (jok : JOkG K g tg Mm1 H1 J items) (rel1 : Rel K Mm1 H1 σ env S2) (po1 : SPost K W Dn Mm1 H1 (forG g (asgT tg) cb items env S2)) :
    ∃ W' : Nat → Nat → L2.St → Hp → Prop, (∃ m, W' 0 m σ H1) ∧ ∀ i m σ H, W' i m σ H → (J.stop i H ∧ Dn.nx σ H) ∨ (J.go i H ∧ ∃ N : L2.St → Hp → Prop, (∀ σ' H', N σ' H' → ∃ m', m' < m ∧ W' (i + 1) m' σ' H') ∧ ∀ x H', J.yld i H x H' → tG K tg x σ H' fun σ2 H2 => tS K W cb { Dn with nx := N, ct := N, bk := Dn.nx } σ2 H2) := by
  obtain ⟨G, Y, wk, hG, hY⟩ := jok
  refine for_it wk (fun i σ2 H2 => ∃ Mm2 env2 S2, Ev Mm1 H1 Mm2 H2 ∧ Rel K Mm2 H2 σ2 env2 S2 ∧ SPost K W Dn Mm2 H2 (forG g (asgT tg) cb (items.drop i) env2 S2)) ⟨Mm1, env, S2, Ev.refl, rel1, po1⟩ ?_ ?_ ?_
  · rintro i σ2 H2 _ ⟨Mm2, env2, S2, ev2, rel2, po2⟩
    obtain ⟨n, hn⟩ := ev2.more
    exact hG Mm2 _ S2 ⟨n, by rw [hn]⟩ ev2.sub rel2.rs (forG_g po2)
  · rintro i x σ2 H2 H3 hi ⟨Mm2, env2, S2, ev2, rel2, po2⟩ y
    have gg := forG_g po2
    obtain ⟨n, hn⟩ := ev2.more
    obtain ⟨d, hd, ev3, rs3, it3⟩ := hY i Mm2 H2 S2 x H3 hi ⟨n, by rw [hn]⟩ ev2.sub rel2.rs gg y
    have hdrop : items.drop i = d :: items.drop (i + 1) := by
      obtain ⟨hi2, e⟩ := List.getElem?_eq_some_iff.mp hd
      rw [List.drop_eq_getElem_cons hi2, e]
    rw [hdrop, forG_cons gg] at po2
    cases ha : asgT tg d env2 S2 with
    | none => rw [ha] at po2; exact po2.elim
    | some e1 =>
      rw [ha] at po2
      dsimp only at po2
      refine ⟨Mm2, env2, S2, d, e1, rel2.mono ev3 rs3, it3, ha, fun σ' rel' _ => ⟨Mm2, e1, S2, rel', ?_⟩⟩
      have po3 := po2.mono ev3
      revert po3
      cases e : cb e1 S2 with
      | nx e2 S3 => exact fun po3 Mm4 H4 σ4 ev4 rel4 => ⟨Mm4, e2, S3, (ev2.trans ev3).trans ev4, rel4, po3.mono ev4⟩
      | ct e2 S3 => exact fun po3 Mm4 H4 σ4 ev4 rel4 => ⟨Mm4, e2, S3, (ev2.trans ev3).trans ev4, rel4, po3.mono ev4⟩
      | bk e2 S3 =>
        intro po3
        dsimp only at po3
        split at po3
        · exact po3
        · exact po3.elim
      | rt d S3 => exact fun po3 => po3
      | er c e2 S3 => exact fun po3 => po3
      | bad => exact fun po3 => po3
  · rintro σ2 H2 ⟨Mm2, env2, S2, ev2, rel2, po2⟩
    have gg := forG_g po2
    rw [List.drop_length] at po2
    have e : forG g (asgT tg) cb [] env2 S2 = .nx env2 S2 := by unfold forG; rw [forL]; exact if_pos gg
    rw [e] at po2
    exact po2 Mm2 H2 σ2 Ev.refl rel2
noncomputable def foreM (is : List Nat) (v : Nat) (cb : Env → Mem → SR) (env : Env) (S : Mem) : SR := liftE env (getV v env S) (rfE (fun g items => forG g (asgT (.t is)) cb items env) env)
theorem s_fore {v : Nat} {x : Str} {np p tp cp : Pos} {es : List Expr} {k : Nat} {is : List Nat} {body : List Stmt} {cb : Env → Mem → SR} (hp : PassesOwn (model X.prog X.w) X.A X.env X.xe) (hc : X.calm = true) (hgl : Gl X "enumerate") (hmg : X.mg "enumerate" = none) (hx : X.N[v]? = some x) (hvis : Vis X.env.scope x) (hd : (x == ("__debug__" : Str)) = false) (hcd : (x == ("__classdict__" : Str)) = false)
    (hg : PG X (.Tuple es k tp) (tG X.K (.t is))) (hb : PSs X body (tS X.K W cb)) : PS X (.For (.Tuple es k tp) (.Call (.Name "enumerate" p) [.Name x np] [] cp) body [] pos) (tS X.K W (foreM is v cb)) := by
  refine ⟨fun pins s σ H Dn I h => ?_⟩
  obtain ⟨Mm, env, S, rel, po⟩ := h
  unfold foreM at po
  cases hg0 : getV v env S with
  | err c S1 => unfold getV at hg0; split at hg0 <;> cases hg0
  | bad => rw [hg0] at po; exact po.elim
  | ok d S1 =>
    obtain ⟨h1, rfl⟩ := getV_ok hg0
    rw [hg0] at po
    have po : SPost X.K W Dn Mm H (rfE (fun g items => forG g (asgT (.t is)) cb items env) env d S1) := po
    cases d with
    | rf i =>
      unfold rfE at po
      dsimp only at po
      split at po
      · rename_i xs hxs
        obtain ⟨w, hw, a, rfl, ha⟩ := rel.er v _ h1
        obtain ⟨vs, hH, _⟩ := rel.rs.ob i a _ ha hxs
        exact (ps_for hp hc (pi_enum hgl hmg (pa_cons (pe_var hx hvis hd hcd) pa_nil (star_ok rfl)) (star_ok rfl)) hg hb (fold_ok rfl)).run pins s σ H Dn I ⟨_, hw, a, vs, rfl, SqL.of hH, for_core (jokG_enum ha) rel po⟩
      · exact po.elim
    | im p =>
      refine (ps_for hp hc (i_enm (is := is) (W := W) hgl hmg (e_var hx hvis hd hcd) rfl) hg hb (fold_ok rfl)).run pins s σ H Dn I ?_
      refine ⟨Mm, env, S1, rel, SPost.lift (c := fun env => M.bind (getV v env) enmK) (R := JOk X.K (.t is)) (D := Dn) (f := fun items S2 => forG (fun _ => True) (asgT (.t is)) cb items env S2) rel ?_ fun items S2 Mm1 H1 J _ ev rs jok po1 => for_core jok.g (rel.mono ev rs) po1⟩
      unfold M.bind
      rw [hg0]
      exact po
end
end DL
end

section
set_option maxRecDepth 100000
/-! DX5: a dict of lists, made by a walk; walked; looked up. Ours. -/
namespace DL
open PySem PySem.Spec PyProof.Rows L2 PySem.W
variable [PWd]
section
variable {K : PySem.W.Frag} {Mm Mm1 : MM} {H H1 : Hp} {S : Mem}
theorem RepK.monoS {vs : List (Key × V)} {ds : List (PyData × D)} (r : RepK K Mm H vs ds) (hm : ∃ n, Mm1.m = Mm.m ++ n) (s : Sub (fz Mm H) (fz Mm1 H1)) : RepK K Mm1 H1 vs ds := by
  induction r with
  | nil => exact .nil
  | cons h _ ih => exact .cons (h.monoW hm s) ih
theorem RepK.lt {vs : List (Key × V)} {ds : List (PyData × D)} (r : RepK K Mm H vs ds) : ∀ k j, (k, D.rf j) ∈ ds → j < Mm.m.length := by
  induction r with
  | nil => intro k j hj; cases hj
  | cons h _ ih =>
    intro k j hj
    rcases List.mem_cons.mp hj with e | e
    · cases e
      obtain ⟨a, _, h2⟩ := h
      exact (List.getElem?_eq_some_iff.mp h2).1
    · exact ih k j e
theorem RepK.any {vs : List (Key × V)} {ds : List (PyData × D)} (r : RepK K Mm H vs ds) (k : Key) : (vs.any fun kv => decide (kv.1 = k)) = ds.any fun e => PyData.eqv e.1 (kP k) := by
  induction r with
  | nil => rfl
  | cons h _ ih => rw [List.any_cons, List.any_cons, ih, eqv_kP]
theorem RepK.snoc {vs : List (Key × V)} {ds : List (PyData × D)} {k : Key} {v : V} {d : D} (r : RepK K Mm H vs ds) (h : Rep K Mm H v d) (hn : (ds.any fun e => PyData.eqv e.1 (kP k)) = false) : RepK K Mm H (putK vs k v) (ds ++ [(kP k, d)]) := by
  have e : putK vs k v = vs ++ [(k, v)] := by
    unfold putK
    rw [r.any k, hn]
    rfl
  rw [e]
  clear e hn
  induction r with
  | nil => exact .cons h .nil
  | cons h1 _ ih => exact .cons h1 ih
theorem RS.showNd {p : Addr} {acc : List (Key × V)} {ys : List (PyData × D)} (s : RS K (Mm.hide p) H S) (h : H p = some (.dK acc)) (ra : RepK K (Mm.hide p) H acc ys) :
    Sub (fz (Mm.hide p) H) (fz (Mm.add p) H) ∧ RS K (Mm.add p) H (S ++ [.nd ys]) := by
  have sub : Sub (fz (Mm.hide p) H) (fz (Mm.add p) H) := fun b u e => by
    obtain ⟨h1, h2⟩ := fz_some.mp e
    refine fz_some.mpr ⟨fun hm => h1 ?_, h2⟩
    show b ∈ Mm.m ++ (p :: Mm.z)
    have hm : b ∈ (Mm.m ++ [p]) ++ Mm.z := hm
    simp only [List.mem_append, List.mem_cons, List.not_mem_nil, or_false] at hm ⊢
    rcases hm with (hm | hm) | hm
    · exact .inl hm
    · exact .inr (.inl hm)
    · exact .inr (.inr hm)
  refine ⟨sub, ?_, ?_, fun a ha => s.zs a (List.mem_cons_of_mem _ ha), ?_⟩
  · have nd : (Mm.m ++ (p :: Mm.z)).Nodup := s.nd
    show ((Mm.m ++ [p]) ++ Mm.z).Nodup
    rw [List.append_assoc]
    exact nd
  · have := s.ln
    show (Mm.m ++ [p]).length = _
    have e : Mm.m.length = S.length := this
    simp [e]
  · intro i a o h1 h2
    have e : Mm.m.length = S.length := s.ln
    have h1 : (Mm.m ++ [p])[i]? = some a := h1
    by_cases hi : i < S.length
    · rw [List.getElem?_append_left (by omega)] at h1
      rw [List.getElem?_append_left hi] at h2
      exact (s.ob i a o h1 h2).mono rfl sub (KeepM.more rfl)
    · have h0 := h1
      rw [List.getElem?_append_right (by omega)] at h1 h2
      rw [e] at h1
      cases hk : i - S.length with
      | zero =>
        rw [hk] at h1 h2
        cases h1
        cases h2
        have hlt : ∀ k j, (k, D.rf j) ∈ ys → j < Mm.m.length := ra.lt
        refine ⟨i, acc, h0, fun k j hj => ?_, h, ra.monoS ⟨[p], rfl⟩ sub⟩
        have := hlt k j hj
        omega
      | succ n => rw [hk] at h2; cases h2
end
section
variable {X : Cx} {W : WX} {pos : Pos}
/-- o[i] = v, o a dict by keys -/
def rSetP : TSet := fun o i v H Q => ∃ p vs k, o = .ref p ∧ H p = some (.dK vs) ∧ i = kV k ∧ vs.length < sizeLine ∧ Q (upd H p (.dK (putK vs k v)))
theorem set_P (hu : X.A.units + 1 < cLine) : PSet X rSetP := by
  rintro pins s σ H o i v ov iv u Q I ro ri rv ⟨p, vs, k, rfl, hH, ek, hl, q⟩
  obtain rfl : ov = Value.ref p := ro
  exact d_setItem hu I (.inl ⟨vs, k, hH, ek, hl, rfl⟩) ri rv fun s' I' => ⟨_, I', q⟩
theorem ss_bld {v i : Nat} {x y : Str} {tge iter e : Expr} {rest : List Stmt} {np np2 dp ap yp sp ep fp : Pos} {tg : Tg} {ci : Env → M (List D)} {ce : Env → M D} {cr : Env → Mem → SR}
    (hp : PassesOwn (model X.prog X.w) X.A X.env X.xe) (hc : X.calm = true) (hN : X.N.Nodup) (hu : X.A.units + 1 < cLine) (hs : Sto X v x) (hvx : Vis X.env.scope x) (hdx : (x == ("__debug__" : Str)) = false) (hcx : (x == ("__classdict__" : Str)) = false)
    (hy : X.N[i]? = some y) (hvy : Vis X.env.scope y) (hdy : (y == ("__debug__" : Str)) = false) (hcy : (y == ("__classdict__" : Str)) = false)
    (hi : PI X tge iter (tI X.K W tg ci)) (hg : PG X tge (tG X.K tg)) (he : PE X e (tE X.K W ce)) (hse : setE iter = false) 
    (hv : v ∉ tgIs tg) (hiv : i ≠ v) (hr : PSs X rest (tS X.K W cr)) :
    PSs X (.Assign [.Name x np] (.Dict [] [] dp) ap :: .For tge iter [.Assign [.Subscript (.Name x np2) (.Name y yp) sp] e ep] [] fp :: rest) (tS X.K W (seqM (bldM v tg ci i ce) cr)) := by
  refine PSs.imp (pss_cons (ps_set hN hs.1 hs.loc pe_dnewK rfl hs.fn) (pss_cons (ps_for hp hc hi hg (pss_one (ps_asg he (pg_sub (pe_var hs.1 hvx hdx hcx) (pe_var hy hvy hdy hcy) (set_P hu)) (by cases e <;> rfl) (by cases e <;> rfl))) (fold_ok hse)) hr)) fun D0 σ H h => ?_
  obtain ⟨Mm, env, S, rel, po⟩ := h
  intro p hp0
  unfold seqM bldM at po
  have relA : Rel X.K (Mm.hide p) (upd H p (.dK [])) (σ.set v (some (.ref p))) (env.set v none) S := by
    refine ⟨rel.rs.hide hp0 rfl, fun j d hj => ?_, by rw [List.length_set, List.length_set]; exact rel.ln⟩
    have hjv : v ≠ j := fun z => by
      subst z
      rw [List.getElem?_set] at hj
      simp at hj
    rw [List.getElem?_set_ne hjv] at hj
    obtain ⟨u, h1, h2⟩ := rel.er j d hj
    refine ⟨u, by rw [List.getElem?_set_ne hjv]; exact h1, ?_⟩
    cases d with
    | im q => exact Rp.mono (by rw [fz_hide (o := .dK []) hp0 rfl]; exact Sub.refl _) h2
    | rf j => exact h2
  refine ⟨Mm.hide p, env.set v none, S, relA, ?_⟩
  cases ei : ci (env.set v none) S with
  | err c S1 => rw [ei] at po; exact po.elim
  | bad => rw [ei] at po; exact po.elim
  | ok items S1 =>
    rw [ei] at po
    dsimp only at po
    by_cases hlen : items.length < sizeLine ∧ v < env.length
    case neg => rw [if_neg hlen] at po; exact po.elim
    rw [if_pos hlen] at po
    obtain ⟨hlen, hvl⟩ := hlen
    rw [rel.ln] at hvl
    intro Mm' H' J ev rsI jok
    obtain ⟨G, Y, wk, hG, hY⟩ := jok
    obtain ⟨⟨n0, hn0⟩, hid0, sub0⟩ := ev
    cases eb : bldL tg i ce items (env.set v none) S1 [] with
    | none => rw [eb] at po; exact po.elim
    | some qf =>
      rw [eb] at po
      dsimp only at po
      have hz0 : H' p = some (.dK []) := (hid0 p List.mem_cons_self).trans upd_same
      refine for_it wk (fun i2 σ2 H2 => ∃ (Mm2 : MM) (env2 : Env) (S2 : Mem) (acc : List (PyData × D)) (vs : List (Key × V)), (∃ n, Mm2 = ⟨Mm.m ++ n, Mm.z⟩) ∧ (∀ b ∈ Mm.z, H2 b = H b) ∧ Sub (fz Mm' H') (fz (Mm2.hide p) H2) ∧ (∃ n, (Mm2.hide p).m = Mm'.m ++ n) ∧ Rel X.K (Mm2.hide p) H2 σ2 env2 S2 ∧ H2 p = some (.dK vs) ∧ RepK X.K (Mm2.hide p) H2 vs acc ∧ σ2[v]? = some (some (.ref p)) ∧ bldL tg i ce (items.drop i2) env2 S2 acc = some qf ∧ acc.length ≤ i2) ?_ ?_ ?_ ?_
      · refine ⟨⟨Mm.m ++ n0, Mm.z⟩, env.set v none, S1, [], [], ⟨n0, rfl⟩, fun b hb => ?_, ?_, ⟨[], ?_⟩, ?_, hz0, .nil, List.getElem?_set_self hvl, eb, Nat.le_refl _⟩
        · rw [hid0 b (List.mem_cons_of_mem _ hb), upd_ne (rel.rs.ne_z hp0 hb)]
        · rw [hn0]; exact Sub.refl _
        · rw [hn0]; simp [MM.hide]
        · have := relA.mono ⟨⟨n0, hn0⟩, hid0, sub0⟩ rsI
          rw [hn0] at this
          exact this
      · rintro i2 σ2 H2 _ ⟨Mm2, env2, S2, acc, vs, _, _, sb, _⟩
        exact hG _ _ sb
      · rintro i2 w σ2 H2 H3 hi2 ⟨Mm2, env2, S2, acc, vs, ⟨n2, hn2⟩, hid, sb, ⟨n3, hn3⟩, rel2, hat, ra, hsv, hrun, hac⟩ yl
        obtain ⟨d, hd, ev3, rs3, it3⟩ := hY i2 (Mm2.hide p) H2 S2 w H3 hi2 sb rel2.rs yl
        have hdrop : items.drop i2 = d :: items.drop (i2 + 1) := by
          obtain ⟨hi2, e⟩ := List.getElem?_eq_some_iff.mp hd
          rw [List.drop_eq_getElem_cons hi2, e]
        rw [hdrop] at hrun
        unfold bldL at hrun
        cases ha : asgT tg d env2 S2 with
        | none => rw [ha] at hrun; cases hrun
        | some e1 =>
          rw [ha] at hrun
          dsimp only at hrun
          refine ⟨Mm2.hide p, env2, S2, d, e1, rel2.mono ev3 rs3, it3, ha, fun σ' rel' hin => ?_⟩
          refine ⟨Mm2.hide p, e1, S2, rel', ?_⟩
          cases ec : ce e1 S2 with
          | err c S3 => rw [ec] at hrun; cases hrun
          | bad => rw [ec] at hrun; cases hrun
          | ok yv S3 =>
            rw [ec] at hrun
            dsimp only at hrun
            split at hrun
            case h_2 => cases hrun
            rename_i kk hkk
            split at hrun
            · cases hrun
            rename_i hfresh
            intro Mm4 H4 b ev4 rs4 rb
            refine ⟨.ref p, by rw [hin.out v hv]; exact hsv, ?_⟩
            obtain ⟨iv, hiv1, hiv2⟩ := rel'.er i _ hkk
            refine ⟨iv, hiv1, p, vs, .inl kk, rfl, ?_, Rp.ky (K := X.K) (k := .inl kk) hiv2, ?_, ?_⟩
            · rw [ev4.hid p List.mem_cons_self, ev3.hid p List.mem_cons_self, hat]
            · rw [ra.length]
              omega
            · obtain ⟨⟨n4, hn4⟩, hid4, sub4⟩ := ev4
              have e6 : Mm4 = (⟨Mm2.m ++ n4, Mm2.z⟩ : MM).hide p := hn4
              generalize e9 : (⟨Mm2.m ++ n4, Mm2.z⟩ : MM) = Mm6 at e6
              subst e6
              have hat4 : H4 p = some (.dK vs) := by rw [hid4 p List.mem_cons_self, ev3.hid p List.mem_cons_self, hat]
              have hz : p ∈ (Mm6.hide p).z := List.mem_cons_self
              have hnf : NoFz H4 p := ⟨_, hat4, rfl⟩
              have fe : Sub (fz (Mm6.hide p) H4) (fz (Mm6.hide p) (upd H4 p (.dK (putK vs (.inl kk) b)))) := sub_hupd hz hnf
              have rel4 := rel'.mono ⟨⟨n4, hn4⟩, hid4, sub4⟩ rs4
              have ra4 := ((ra.mono ev3).mono ⟨⟨n4, hn4⟩, hid4, sub4⟩).snoc (k := .inl kk) rb (by simpa [kP] using hfresh)
              refine ⟨Mm6, e1, S3, acc ++ [(.int kk, yv)], _, ⟨n2 ++ n4, ?_⟩, fun c hcz => ?_, ((sb.trans ev3.sub).trans sub4).trans fe, ⟨n3 ++ n4, ?_⟩, ⟨rs4.hupd hz hnf, fun j d' hj => ?_, rel4.ln⟩, upd_same, ra4.monoS ⟨[], by simp⟩ fe, by rw [hin.out v hv]; exact hsv, hrun, by simp; omega⟩
              · rw [← e9, hn2]
                simp
              · have nb := rel.rs.ne_z hp0 hcz
                have hc2 : c ∈ (Mm2.hide p).z := by
                  show c ∈ p :: Mm2.z
                  rw [hn2]
                  exact List.mem_cons_of_mem _ hcz
                rw [upd_ne nb, hid4 c hc2, ev3.hid c hc2, hid c hcz]
              · rw [← e9]
                show Mm2.m ++ n4 = Mm'.m ++ (n3 ++ n4)
                have : Mm2.m = Mm'.m ++ n3 := hn3
                rw [this, List.append_assoc]
              · obtain ⟨u, h1, h2⟩ := rel4.er j d' hj
                refine ⟨u, h1, ?_⟩
                cases d' with
                | im q => exact Rp.mono fe h2
                | rf j => exact h2
      · rintro σ2 H2 ⟨Mm2, env2, S2, acc, vs, ⟨n2, hn2⟩, hid, sb, ⟨n3, hn3⟩, rel2, hat, ra, hsv, hrun, hac⟩
        rw [List.drop_length] at hrun
        unfold bldL at hrun
        cases hrun
        obtain ⟨sub2, rs3⟩ := rel2.rs.showNd hat ra
        refine ⟨Mm2.add p, env2.set v (some (.rf S2.length)), S2 ++ [.nd acc], ⟨rs3, fun j d' hj => ?_, by rw [List.length_set]; exact rel2.ln⟩, po.mono ⟨⟨n2 ++ [p], ?_⟩, hid, ?_⟩⟩
        · by_cases hjv : v = j
          · subst hjv
            rw [List.getElem?_set] at hj
            split at hj
            · split at hj
              · cases hj
                refine ⟨_, hsv, p, rfl, ?_⟩
                have e8 : Mm2.m.length = S2.length := rel2.rs.ln
                show (Mm2.m ++ [p])[S2.length]? = some p
                rw [← e8]
                simp
              · cases hj
            · rename_i z
              exact absurd rfl z
          · rw [List.getElem?_set_ne hjv] at hj
            obtain ⟨u, h1, h2⟩ := rel2.er j d' hj
            refine ⟨u, h1, ?_⟩
            cases d' with
            | im q => exact Rp.mono sub2 h2
            | rf j =>
              obtain ⟨b, g1, g2⟩ := h2
              refine ⟨b, g1, ?_⟩
              have g2 : Mm2.m[j]? = some b := g2
              show (Mm2.m ++ [p])[j]? = some b
              rw [List.getElem?_append_left (List.getElem?_eq_some_iff.mp g2).1]
              exact g2
        · rw [hn2]
          show MM.mk _ _ = MM.mk _ _
          rw [List.append_assoc]
        · have e0 : Sub (fz Mm H) (fz Mm' H') := by
            rw [← fz_hide (o := .dK []) hp0 rfl]
            exact sub0
          exact (e0.trans sb).trans sub2
end
end DL
end

section
set_option maxRecDepth 100000
/-! DL13: the text is the tree. Ours. -/
namespace DL
open PySem PySem.Spec PyProof.Rows L2 PySem.W
variable [PWd]

/-- what a law's text knows: the names by slot; the defs; the built-in names that nobody binds; the module's constants -/
structure MC where
  N : List Str
  P : List Fn
  fr : List Str
  ers : List String
  eis : List (String × List String × String)
  gls : List (Str × PyData)
def visB (sc : Scope) (x : Str) : Bool := decide (sc.names.lookup x = some .local) || decide (sc.names.lookup x = some .cell) || decide (sc.names.lookup x = some .free)
def glB (sc : Scope) (x : Str) : Bool := decide (sc.names.lookup x = some .globalImplicit)
def frB (C : MC) (sc : Scope) (x : Str) : Bool := glB sc x && decide (x ∈ C.fr)
def stoB (N : List Str) (sc : Scope) (fb : Str → Bool) (i : Nat) (x : Str) : Bool := decide (N[i]? = some x) && (decide (sc.names.lookup x = some .local) || (decide (sc.names.lookup x = some .cell) && fb x))
def stosB (N : List Str) (sc : Scope) (fb : Str → Bool) : List Nat → List Expr → Bool
  | [], [] => true
  | i :: is, .Name x _ :: es => stoB N sc fb i x && stosB N sc fb is es
  | _, _ => false
def tgB (N : List Str) (sc : Scope) (fb : Str → Bool) (tg : Tg) (e : Expr) : Bool := match tg, e with
  | .v i, .Name x _ => stoB N sc fb i x
  | .t is, .Tuple es _ _ => stosB N sc fb is es
  | .e i is, .Tuple [.Name x _, .Tuple es _ _] _ _ => stoB N sc fb i x && stosB N sc fb is es
  | _, _ => false
def exsLen : Exs → Nat
  | .nil => 0
  | .cons _ r => exsLen r + 1
def baseB (a : Expr) : Bool := match a with
  | .Call (.Name _ _) [] [] _ => false
  | _ => true
def conB (d : PyData) (c : Const) : Bool := match c, d with
  | .none, .none => true
  | .bool a, .bool b => a == b
  | .int a, .int b => decide (a = b)
  | .str a, .str b => decide (a = b)
  | _, _ => false
def opOk (op : Operator) : Bool := match op with
  | .Add => true
  | .Sub => true
  | .Mult => true
  | .FloorDiv => true
  | .Mod => true
  | .Pow => true
  | _ => false
/-- classes of a tuple -/
def tyB (C : MC) (sc : Scope) : List Expr → List String → Bool
  | [], [] => true
  | .Name u _ :: es, t :: ts => tyS.contains t && decide (u = Str.ofString t) && frB C sc u && tyB C sc es ts
  | _, _ => false
mutual
def mE (C : MC) : Ex → Bool → Scope → (Str → Bool) → Expr → Bool
  | .var i, _, sc, _, x => (match x with
    | .Name y _ => decide (C.N[i]? = some y) && visB sc y && !(y == ("__debug__" : Str)) && !(y == ("__classdict__" : Str))
    | _ => false)
  | .frv i, _, sc, _, x => (match x with
    | .Name y _ => decide (C.N[i]? = some y) && visB sc y && !(y == ("__debug__" : Str)) && !(y == ("__classdict__" : Str))
    | _ => false)
  | .tdn, _, _, _, x => (match x with
    | .Dict [] [] _ => true
    | _ => false)
  | .con d, _, _, _, x => (match x with
    | .Constant c _ _ => conB d c
    | _ => false)
  | .glb y d, _, sc, _, x => (match x with
    | .Name z _ => decide (z = Str.ofString y) && glB sc z && !(z == ("__debug__" : Str)) && C.gls.any (fun q => decide (q.1 = z) && eqD q.2 d)
    | _ => false)
  | .tup es, _, sc, fb, x => (match x with
    | .Tuple xs _ _ => mEs C es sc fb xs && decide (exsLen es ≤ 1000)
    | _ => false)
  | .lst es, _, sc, fb, x => (match x with
    | .List xs _ => mEs C es sc fb xs && decide (exsLen es ≤ 1000)
    | _ => false)
  | .mls es, _, sc, fb, x => (match x with
    | .List xs _ => mEs C es sc fb xs && decide (exsLen es ≤ 1000)
    | _ => false)
  | .bin op a b, _, sc, fb, x => (match x with
    | .BinOp y o z _ => decide (o = op) && opOk op && mE C a false sc fb y && mE C b false sc fb z
    | _ => false)
  | .neg a, _, sc, fb, x => (match x with
    | .UnaryOp .USub y _ => mE C a false sc fb y
    | _ => false)
  | .nt a, t, sc, fb, x => (match x with
    | .UnaryOp .Not y _ => mE C a t sc fb y
    | _ => false)
  | .cmp op a b, _, sc, fb, x => (match x with
    | .Compare y [o] [z] _ => decide (o = op) && mE C a false sc fb y && mE C b false sc fb z && !setE z
    | _ => false)
  | .chn op op' a b c, _, sc, fb, x => (match x with
    | .Compare y [o, o'] [z, u] _ => decide (o = op) && decide (o' = op') && mE C a false sc fb y && mE C b false sc fb z && mE C c false sc fb u && !setE u
    | _ => false)
  | .bop k es, t, sc, fb, x => (match x with
    | .BoolOp o xs _ => decide (o = (if k = true then BoolOp.And else BoolOp.Or)) && mB C es t sc fb xs
    | _ => false)
  | .ite c a b, t, sc, fb, x => (match x with
    | .IfExp y z u _ => !t && mE C c true sc fb y && mE C a false sc fb z && mE C b false sc fb u
    | _ => false)
  | .idx a b, _, sc, fb, x => (match x with
    | .Subscript y z _ => plainE z && mE C a false sc fb y && mE C b false sc fb z
    | _ => false)
  | .slc a lo hi, _, sc, fb, x => (match x with
    | .Subscript y (.Slice l h none _) _ => mE C a false sc fb y && mO C lo sc fb l && mO C hi sc fb h
    | _ => false)
  | .rev a, _, sc, fb, x => (match x with
    | .Subscript y (.Slice none none (some (.UnaryOp .USub (.Constant (.int 1) _ _) _)) _) _ => mE C a false sc fb y
    | _ => false)
  | .call f es, _, sc, fb, x => (match x with
    | .Call (.Name nm _) (y :: ys) [] _ => (C.P.any fun g => g.key == f && decide (g.name = nm)) && glB sc nm && !(nm == ("__debug__" : Str)) && mEs C es sc fb (y :: ys)
    | _ => false)
  | .bi b es, _, sc, fb, x => (match x with
    | .Call (.Name nm _) (y :: ys) [] _ => decide (nm = biN b) && frB C sc (biN b) && mEs C es sc fb (y :: ys)
    | _ => false)
  | .isi a one ts, _, sc, fb, x => (match x with
    | .Call (.Name nm _) [y, .Name u _] [] _ => decide (nm = ("isinstance" : Str)) && frB C sc "isinstance" && frB C sc u && plainE y && mE C a false sc fb y && (match ts with
      | [t] => tyS.contains t && decide (u = Str.ofString t)
      | _ => false)
    | .Call (.Name nm _) [y, .Tuple us _ _] [] _ => decide (nm = ("isinstance" : Str)) && frB C sc "isinstance" && plainE y && mE C a false sc fb y && decide (ts.length ≤ 1000) && tyB C sc us ts
    | _ => false)
  | .rep es n, _, sc, fb, x => (match x with
    | .BinOp (.List xs _) .Mult z _ => mEs C es sc fb xs && decide (exsLen es ≤ 1000) && mE C n false sc fb z
    | _ => false)
  | .rpi es n, _, sc, fb, x => (match x with
    | .BinOp (.List xs _) .Mult z _ => mEs C es sc fb xs && decide (exsLen es ≤ 1000) && mE C n false sc fb z
    | _ => false)
  | .mt m a es, _, sc, fb, x => (match x with
    | .Call (.Attribute y nm apos) ys [] pos => decide (nm = mtN m) && baseB y && (apos.endLine == pos.line) && decide (ys.length < 30) && mE C a false sc fb y && mEs C es sc fb ys && (match m, ys with
      | .append, _ :: _ => true
      | .extend, _ :: _ => true
      | .pop1, _ :: _ => true
      | .pop0, [] => true
      | .index, _ :: _ => true
      | .setdefault, _ :: _ => true
      | .get2, _ :: _ => true
      | _, _ => false)
    | _ => false)
  | .cmpr own elt tg it ifs, _, sc, fb, x => (match x with
    | .ListComp y [⟨tgx, itx, ifx, 0⟩] scope _ => tgB C.N (relS scope sc) (fun x => scope.names.lookup x == some .cell) tg tgx && ((tgIs tg).all fun i => decide (i ∈ own.map (·.2))) && blkC C.N sc scope own && !setE itx &&
        mI C it sc fb tg tgx itx && mF C ifs (relS scope sc) (fun x => scope.names.lookup x == some .cell) ifx && mE C elt false (relS scope sc) (fun x => scope.names.lookup x == some .cell) y
    | _ => false)
  | .cmr own elt tg v ifs, _, sc, fb, x => (match x with
    | .ListComp y [⟨tgx, .Name z _, ifx, 0⟩] scope _ => tgB C.N (relS scope sc) (fun x => scope.names.lookup x == some .cell) tg tgx && ((tgIs tg).all fun i => decide (i ∈ own.map (·.2))) && blkC C.N sc scope own &&
        (decide (C.N[v]? = some z) && visB sc z && !(z == ("__debug__" : Str)) && !(z == ("__classdict__" : Str))) && mF C ifs (relS scope sc) (fun x => scope.names.lookup x == some .cell) ifx && mE C elt false (relS scope sc) (fun x => scope.names.lookup x == some .cell) y
    | _ => false)
  | .cmd own elt tg v ifs, _, sc, fb, x => (match x with
    | .ListComp y [⟨tgx, .Name z _, ifx, 0⟩] scope _ => tgB C.N (relS scope sc) (fun x => scope.names.lookup x == some .cell) tg tgx && ((tgIs tg).all fun i => decide (i ∈ own.map (·.2))) && blkC C.N sc scope own &&
        (decide (C.N[v]? = some z) && visB sc z && !(z == ("__debug__" : Str)) && !(z == ("__classdict__" : Str))) && mF C ifs (relS scope sc) (fun x => scope.names.lookup x == some .cell) ifx && mE C elt false (relS scope sc) (fun x => scope.names.lookup x == some .cell) y
    | _ => false)
  | .cmm own elt tg it ifs, _, sc, fb, x => (match x with
    | .ListComp y [⟨tgx, itx, ifx, 0⟩] scope _ => tgB C.N (relS scope sc) (fun x => scope.names.lookup x == some .cell) tg tgx && ((tgIs tg).all fun i => decide (i ∈ own.map (·.2))) && blkC C.N sc scope own && !setE itx &&
        mI C it sc fb tg tgx itx && mF C ifs (relS scope sc) (fun x => scope.names.lookup x == some .cell) ifx && mE C elt false (relS scope sc) (fun x => scope.names.lookup x == some .cell) y
    | _ => false)
  | .cml own elt tg it ifs, _, sc, fb, x => (match x with
    | .ListComp y [⟨tgx, itx, ifx, 0⟩] scope _ => tgB C.N (relS scope sc) (fun x => scope.names.lookup x == some .cell) tg tgx && ((tgIs tg).all fun i => decide (i ∈ own.map (·.2))) && blkC C.N sc scope own && !setE itx &&
        mI C it sc fb tg tgx itx && mF C ifs (relS scope sc) (fun x => scope.names.lookup x == some .cell) ifx && mE C elt false (relS scope sc) (fun x => scope.names.lookup x == some .cell) y
    | _ => false)
  | .idn a b, _, sc, fb, x => (match x with
    | .Subscript y z _ => plainE z && mE C a false sc fb y && mE C b false sc fb z
    | _ => false)
  | .lsr b es, _, sc, fb, x => (match x with
    | .Call (.Name nm _) [.Call (.Name r _) ys [] _] [] _ => decide (nm = lsN b) && frB C sc (lsN b) && decide (r = ("range" : Str)) && frB C sc "range" && mEs C es sc fb ys && (match ys with
      | [_] => true
      | [_, _] => true
      | _ => false)
    | _ => false)
  | .srs a, _, sc, fb, x => (match x with
    | .Call (.Name nm _) [.Call (.Name n2 _) [y] [] _] [] _ => decide (nm = ("sorted" : Str)) && frB C sc "sorted" && decide (n2 = ("set" : Str)) && frB C sc "set" && plainE y && mE C a false sc fb y
    | _ => false)
  | .mdf a d, _, sc, fb, x => (match x with
    | .Call (.Name nm _) [y] [⟨some kw, z, _⟩] _ => decide (nm = ("min" : Str)) && frB C sc "min" && decide (kw = ("default" : Str)) && plainE y && mE C a false sc fb y && mE C d false sc fb z
    | _ => false)
  | .dic mu es, _, sc, fb, x => (match x with
    | .Dict [] [] _ => (match es with
      | .nil => true
      | _ => false)
    | .Dict (y :: ys) vs _ => decide ((y :: ys).length ≤ 15) && mP C es sc fb (y :: ys) vs
    | _ => false)
  | .mad a b, _, sc, fb, x => (match x with
    | .BinOp y o z _ => decide (o = .Add) && mE C a false sc fb y && mE C b false sc fb z
    | _ => false)
  | .mnd a, _, sc, fb, x => (match x with
    | .Call (.Name nm _) [y] [] _ => decide (nm = ("min" : Str)) && frB C sc "min" && plainE y && mE C a false sc fb y
    | _ => false)
def mEs (C : MC) : Exs → Scope → (Str → Bool) → List Expr → Bool
  | .nil, _, _, xs => (match xs with
    | [] => true
    | _ => false)
  | .cons e r, sc, fb, xs => (match xs with
    | y :: ys => plainE y && mE C e false sc fb y && mEs C r sc fb ys
    | _ => false)
/-- a chain of and, or -/
def mB (C : MC) : Exs → Bool → Scope → (Str → Bool) → List Expr → Bool
  | .nil, _, _, _, _ => false
  | .cons e r, t, sc, fb, xs => (match xs with
    | [y] => mE C e t sc fb y && (match r with
      | .nil => true
      | _ => false)
    | y :: z :: ys => mE C e t sc fb y && mB C r t sc fb (z :: ys)
    | _ => false)
/-- keys and values of a dict -/
def mP (C : MC) : Exs → Scope → (Str → Bool) → List (Option Expr) → List Expr → Bool
  | .nil, _, _, xs, vs => (match xs, vs with
    | [], [] => true
    | _, _ => false)
  | .cons e (.cons f r), sc, fb, xs, vs => (match xs, vs with
    | some x :: xs, v :: vs => mE C e false sc fb x && mE C f false sc fb v && mP C r sc fb xs vs
    | _, _ => false)
  | .cons _ .nil, _, _, _, _ => false
/-- an end of a slice -/
def mO (C : MC) : Exs → Scope → (Str → Bool) → Option Expr → Bool
  | .nil, _, _, x => (match x with
    | none => true
    | _ => false)
  | .cons e r, sc, fb, x => (match x, r with
    | some y, .nil => mE C e false sc fb y
    | _, _ => false)
/-- a comprehension's test -/
def mF (C : MC) : Exs → Scope → (Str → Bool) → List Expr → Bool
  | .nil, _, _, xs => (match xs with
    | [] => true
    | _ => false)
  | .cons e r, sc, fb, xs => (match xs, r with
    | [y], .nil => mE C e true sc fb y
    | _, _ => false)
def mI (C : MC) : It → Scope → (Str → Bool) → Tg → Expr → Expr → Bool
  | .ex e, sc, fb, _, _, x => mE C e false sc fb x
  | .rng es, sc, fb, _, _, x => (match x with
    | .Call (.Name r _) ys [] _ => decide (r = ("range" : Str)) && frB C sc "range" && mEs C es sc fb ys && (match ys with
      | [_] => true
      | [_, _] => true
      | _ => false)
    | _ => false)
  | .enm a, sc, fb, tg, tgx, x => (match x with
    | .Call (.Name r _) [y] [] _ => decide (r = ("enumerate" : Str)) && frB C sc "enumerate" && plainE y && mE C a false sc fb y && (match tg, tgx with
      | .t _, .Tuple _ _ _ => true
      | .e _ _, .Tuple _ _ _ => true
      | _, _ => false)
    | _ => false)
  | .zp a b, sc, fb, tg, tgx, x => (match x with
    | .Call (.Name r _) [y, z] [] _ => decide (r = ("zip" : Str)) && frB C sc "zip" && plainE y && plainE z && mE C a false sc fb y && mE C b false sc fb z && (match tg, tgx with
      | .t _, .Tuple _ _ _ => true
      | _, _ => false)
    | _ => false)
end

/-! ### the context -/
structure Cok (X : Cx) (W : WX) (C : MC) (k : Nat) (sc : Scope) (fb : Str → Bool) : Prop where
  sc : X.env.scope = sc
  fb : X.fn = fb
  N : X.N = C.N
  calm : X.calm = true
  nd : X.N.Nodup
  room : Rm k X.A
  fns : ∀ g ∈ C.P, ∃ f fd, X.mg g.name = some (.ref f) ∧ keepIn X.K (.ref f) = true ∧ Binds X.K fd (g.N.take g.np) [] ∧ FnG X.prog X.w X.K X.mg X.base k f fd (g.N.take g.np) (spF X.K C.P k g.key)
  free : ∀ x ∈ C.fr, X.mg x = none
  ers : ∀ c ∈ C.ers, ErF X.K X.mg c
  eis : ∀ q ∈ C.eis, ErI X.K X.mg q.1 q.2.1 q.2.2
  gls : ∀ q ∈ C.gls, GlF X.K X.mg q.1 q.2
  takes : Takes X W
  pw : PWd.P = X.prog ∧ PWd.w = X.w
section
variable {X : Cx} {W : WX} {C : MC} {k : Nat} {sc : Scope} {fb : Str → Bool}
theorem Cok.u67 (c : Cok X W C k sc fb) : X.A.units + 67 < cLine := by have := c.room.r.un; omega
theorem Cok.u1 (c : Cok X W C k sc fb) : X.A.units + 1 < cLine := by have := c.room.r.un; omega
theorem Cok.u66 (c : Cok X W C k sc fb) : X.A.units + 66 < cLine := by have := c.room.r.un; omega
theorem Cok.u65 (c : Cok X W C k sc fb) : X.A.units + 65 < cLine := by have := c.room.r.un; omega
theorem Cok.gl (c : Cok X W C k sc fb) {x : Str} (h : glB sc x = true) : Gl X x := by
  show X.env.scope.names.lookup x = _
  rw [c.sc]
  exact of_decide_eq_true h
theorem Cok.fr (c : Cok X W C k sc fb) {x : Str} (h : frB C sc x = true) : Gl X x ∧ X.mg x = none := by
  unfold frB at h
  rw [Bool.and_eq_true] at h
  exact ⟨c.gl h.1, c.free x (of_decide_eq_true h.2)⟩
theorem tyB_ok (c : Cok X W C k sc fb) : ∀ {es : List Expr} {ts : List String}, tyB C sc es ts = true → tyNames es ts ∧ ∀ t ∈ ts, t ∈ tyS ∧ frB C sc (Str.ofString t) = true
  | [], [], _ => ⟨.nil, fun t ht => nomatch ht⟩
  | [], _ :: _, h => by simp [tyB] at h
  | e :: es, ts, h => by
    unfold tyB at h
    split at h
    · contradiction
    · rename_i u p es' t ts' heq
      cases heq
      simp only [Bool.and_eq_true, decide_eq_true_eq] at h
      obtain ⟨⟨⟨h1, rfl⟩, h2⟩, h3⟩ := h
      obtain ⟨g1, g2⟩ := tyB_ok c h3
      refine ⟨.cons ⟨p, rfl⟩ g1, fun t' ht => ?_⟩
      rcases List.mem_cons.mp ht with rfl | ht
      · exact ⟨by simpa using h1, h2⟩
      · exact g2 t' ht
    · cases h
theorem Cok.vis (c : Cok X W C k sc fb) {x : Str} (h : visB sc x = true) : Vis X.env.scope x := by
  rw [c.sc]
  unfold visB at h
  simp only [Bool.or_eq_true, decide_eq_true_eq] at h
  rcases h with (h | h) | h
  · exact .inl h
  · exact .inr (.inl h)
  · exact .inr (.inr h)
theorem Cok.sto (c : Cok X W C k sc fb) {i : Nat} {x : Str} (h : stoB C.N sc fb i x = true) : Sto X i x := by
  unfold stoB at h
  simp only [Bool.and_eq_true, Bool.or_eq_true, decide_eq_true_eq] at h
  refine ⟨by rw [c.N]; exact h.1, ?_⟩
  rw [c.sc, c.fb]
  exact h.2
theorem Cok.stos (c : Cok X W C k sc fb) : ∀ {is : List Nat} {es : List Expr}, stosB C.N sc fb is es = true → Stos X es is
  | [], [], _ => .nil
  | [], _ :: _, h => by simp [stosB] at h
  | _ :: _, [], h => by simp [stosB] at h
  | i :: is, e :: es, h => by
    unfold stosB at h
    split at h
    · rename_i h1 h2
      cases h1
    · rename_i h1 h2
      cases h1
      cases h2
      rw [Bool.and_eq_true] at h
      exact .cons (c.sto h.1) (c.stos h.2)
    · cases h
theorem Cok.tg (c : Cok X W C k sc fb) {tg : Tg} {e : Expr} (h : tgB C.N sc fb tg e = true) : PG X e (tG X.K tg) := by
  unfold tgB at h
  split at h
  · exact g_v c.nd (c.sto h)
  · exact g_t c.calm c.nd (c.stos h)
  · rw [Bool.and_eq_true] at h
    exact g_e c.calm c.nd (c.sto h.1) (c.stos h.2)
  · cases h
theorem Cok.blk (c : Cok X W C k sc fb) (scope : Scope) : Blk X scope fun X' => Cok X' W0 C k (relS scope sc) (fun x => scope.names.lookup x == some .cell) := by
  intro s H C' cl fp
  refine ⟨?_, rfl, c.N, c.calm, c.nd, c.room, c.fns, c.free, c.ers, c.eis, c.gls, takes0, c.pw⟩
  have := c.sc
  subst this
  rfl
end
/-- a value's reading; a test's -/
structure JE (t : Bool) (X : Cx) (W : WX) (x : Expr) (c : Env → M D) : Prop where
  e : t = false → PE X x (tE X.K W c)
  t : t = true → PT X x (tT X.K W (tstM c))
structure JB (t k : Bool) (X : Cx) (W : WX) (xs : List Expr) (c : Env → M D) : Prop where
  e : t = false → ∀ pos, PE X (.BoolOp (if k = true then BoolOp.And else BoolOp.Or) xs pos) (tE X.K W c)
  t : t = true → ∀ pos, PW X (.BoolOp (if k = true then BoolOp.And else BoolOp.Or) xs pos) (tT X.K W (tstM c))
theorem JE.of {t : Bool} {X : Cx} {W : WX} {x : Expr} {c : Env → M D} (h : PE X x (tE X.K W c)) (hv : valE x = true) : JE t X W x c := ⟨fun _ => h, fun _ => t_val h (val_ok hv)⟩
omit [PWd] in
theorem evs_len {Φ : String → List D → M D} : ∀ {es : Exs} {env : Env} {S S' : Mem} {ds : List D}, evs Φ es env S = .ok ds S' → ds.length = exsLen es
  | .nil, env, S, S', ds, h => by
    unfold evs at h
    cases h
    rfl
  | .cons e r, env, S, S', ds, h => by
    unfold evs M.bind at h
    cases h1 : ev Φ e env S with
    | err c S1 => rw [h1] at h; cases h
    | bad => rw [h1] at h; cases h
    | ok d S1 =>
      rw [h1] at h
      dsimp only at h
      cases h2 : evs Φ r env S1 with
      | err c S2 => rw [h2] at h; cases h
      | bad => rw [h2] at h; cases h
      | ok es2 S2 =>
        rw [h2] at h
        cases h
        simp [exsLen, evs_len h2]
omit [PWd] in
theorem mEs_len {C : MC} {sc : Scope} {fb : Str → Bool} : ∀ {es : Exs} {xs : List Expr}, mEs C es sc fb xs = true → exsLen es = xs.length ∧ xs.all plainE = true
  | .nil, xs, h => by
    unfold mEs at h
    split at h
    · exact ⟨rfl, rfl⟩
    · cases h
  | .cons e r, xs, h => by
    unfold mEs at h
    split at h
    · simp only [Bool.and_eq_true] at h
      obtain ⟨h1, h2⟩ := mEs_len h.2
      simp [exsLen, h1, h2, h.1.1]
    · cases h
omit [PWd] in
theorem conB_ok {d : PyData} {c : Const} (h : conB d c = true) : ∃ v, conD c = some (d, v) := by
  unfold conB at h
  split at h
  · exact ⟨_, rfl⟩
  · have := eq_of_beq h
    subst this
    exact ⟨_, rfl⟩
  · have := of_decide_eq_true h
    subst this
    exact ⟨_, rfl⟩
  · have := of_decide_eq_true h
    subst this
    exact ⟨_, rfl⟩
  · cases h
theorem op_ok {X : Cx} {op : Operator} (h : opOk op = true) : ∀ E, OpR X (binaryOp op) (rD X.K E (binD op)) := by
  intro E
  cases op <;> first
    | exact op_addD
    | exact op_subD
    | exact op_mulD
    | exact op_fdivD
    | exact op_modD
    | exact op_powD
    | cases h
end DL
end

section
set_option maxRecDepth 100000
/-! DL14: an expression's text does what its tree says. Ours. -/
namespace DL
open PySem PySem.Spec PyProof.Rows L2 PySem.W
variable [PWd]
omit [PWd] in
theorem ty_boot : ∀ t ∈ tyS, bootBuiltins (Str.ofString t) = some (.type t) ∧ Str.ofString t ≠ "__name__" ∧ (Str.ofString t == ("__debug__" : Str)) = false := by decide +kernel
section
variable {C : MC} {k : Nat}
mutual
theorem sE : (e : Ex) → ∀ {t : Bool} {sc : Scope} {fb : Str → Bool} {x : Expr} {X : Cx} {W : WX}, Cok X W C k sc fb → mE C e t sc fb x = true → JE t X W x (ev (callF C.P k) e)
  | .var i, t, sc, fb, x, X, W, c, h => by
    unfold mE at h
    split at h
    · simp only [Bool.and_eq_true, Bool.not_eq_true', decide_eq_true_eq] at h
      exact JE.of (e_var (by rw [c.N]; exact h.1.1.1) (c.vis h.1.1.2) h.1.2 h.2) rfl
    · cases h
  | .frv i, t, sc, fb, x, X, W, c, h => by
    unfold mE at h
    split at h
    · simp only [Bool.and_eq_true, Bool.not_eq_true', decide_eq_true_eq] at h
      exact JE.of (e_frv (by rw [c.N]; exact h.1.1.1) (c.vis h.1.1.2) h.1.2 h.2) rfl
    · cases h
  | .tdn, t, sc, fb, x, X, W, c, h => by
    unfold mE at h
    split at h
    · exact JE.of (e_tdn c.pw) rfl
    · cases h
  | .con d, t, sc, fb, x, X, W, c, h => by
    unfold mE at h
    split at h
    · obtain ⟨v, hv⟩ := conB_ok h
      exact JE.of (e_con hv) rfl
    · cases h
  | .glb y d, t, sc, fb, x, X, W, c, h => by
    unfold mE at h
    split at h
    · simp only [Bool.and_eq_true, Bool.not_eq_true', decide_eq_true_eq, List.any_eq_true] at h
      obtain ⟨⟨⟨rfl, h1⟩, h2⟩, q, hq, h3, h4⟩ := h
      obtain ⟨u, v, g1, g2, g3⟩ := c.gls q hq
      rw [h3] at g1
      rw [eqD_ok h4] at g3
      exact JE.of (e_glb (c.gl h1) g1 g2 g3 h2) rfl
    · cases h
  | .tup es, t, sc, fb, x, X, W, c, h => by
    unfold mE at h
    split at h
    · simp only [Bool.and_eq_true, decide_eq_true_eq] at h
      exact JE.of (e_tup (sEs es c h.1) (fun env S ds S' e => by rw [evs_len e]; exact h.2)) rfl
    · cases h
  | .lst es, t, sc, fb, x, X, W, c, h => by
    unfold mE at h
    split at h
    · simp only [Bool.and_eq_true, decide_eq_true_eq] at h
      exact JE.of (e_lst (sEs es c h.1) (fun env S ds S' e => by rw [evs_len e]; exact h.2)) rfl
    · cases h
  | .mls es, t, sc, fb, x, X, W, c, h => by
    unfold mE at h
    split at h
    · simp only [Bool.and_eq_true, decide_eq_true_eq] at h
      exact JE.of (e_mls (sEs es c h.1) (fun env S ds S' e => by rw [evs_len e]; exact h.2)) rfl
    · cases h
  | .bin op a b, t, sc, fb, x, X, W, c, h => by
    unfold mE at h
    split at h
    · simp only [Bool.and_eq_true, decide_eq_true_eq] at h
      obtain ⟨⟨⟨rfl, h0⟩, h1⟩, h2⟩ := h
      exact JE.of (e_bin (op_ok h0) ((sE a c h1).e rfl) ((sE b c h2).e rfl)) rfl
    · cases h
  | .neg a, t, sc, fb, x, X, W, c, h => by
    unfold mE at h
    split at h
    · exact JE.of (e_neg ((sE a c h).e rfl)) rfl
    · cases h
  | .nt a, t, sc, fb, x, X, W, c, h => by
    unfold mE at h
    split at h
    · exact ⟨fun ht => e_not ((sE a c h).e ht), fun ht => t_not ((sE a c h).t ht)⟩
    · cases h
  | .cmp op a b, t, sc, fb, x, X, W, c, h => by
    unfold mE at h
    split at h
    · simp only [Bool.and_eq_true, Bool.not_eq_true', decide_eq_true_eq] at h
      obtain ⟨⟨⟨rfl, h1⟩, h2⟩, h3⟩ := h
      exact ⟨fun _ => e_cmp c.u66 ((sE a c h1).e rfl) ((sE b c h2).e rfl) (marks_ok _ h3), fun _ => t_cmp c.u66 ((sE a c h1).e rfl) ((sE b c h2).e rfl) (marks_ok _ h3)⟩
    · cases h
  | .chn op op' a b d, t, sc, fb, x, X, W, c, h => by
    unfold mE at h
    split at h
    · simp only [Bool.and_eq_true, Bool.not_eq_true', decide_eq_true_eq] at h
      obtain ⟨⟨⟨⟨⟨rfl, rfl⟩, h1⟩, h2⟩, h3⟩, h4⟩ := h
      exact ⟨fun _ => e_chn c.u66 ((sE a c h1).e rfl) ((sE b c h2).e rfl) ((sE d c h3).e rfl) (marks_ok _ h4), fun _ => t_chn c.u66 ((sE a c h1).e rfl) ((sE b c h2).e rfl) ((sE d c h3).e rfl) (marks_ok _ h4)⟩
    · cases h
  | .bop kk es, t, sc, fb, x, X, W, c, h => by
    unfold mE at h
    split at h
    · simp only [Bool.and_eq_true, decide_eq_true_eq] at h
      obtain ⟨rfl, h2⟩ := h
      have j := sB kk es c h2
      exact ⟨fun ht => j.e ht _, fun ht => (j.t ht _).pt⟩
    · cases h
  | .ite a b d, t, sc, fb, x, X, W, c, h => by
    unfold mE at h
    split at h
    · simp only [Bool.and_eq_true, Bool.not_eq_true'] at h
      obtain ⟨⟨⟨h0, h1⟩, h2⟩, h3⟩ := h
      exact ⟨fun _ => e_ite ((sE a c h1).t rfl) ((sE b c h2).e rfl) ((sE d c h3).e rfl), fun ht => by rw [h0] at ht; cases ht⟩
    · cases h
  | .idx a b, t, sc, fb, x, X, W, c, h => by
    unfold mE at h
    split at h
    · simp only [Bool.and_eq_true] at h
      exact JE.of (e_idx c.pw c.u1 ((sE a c h.1.2).e rfl) ((sE b c h.2).e rfl) h.1.1) rfl
    · cases h
  | .slc a lo hi, t, sc, fb, x, X, W, c, h => by
    unfold mE at h
    split at h
    · simp only [Bool.and_eq_true] at h
      exact JE.of (e_slc ((sE a c h.1.1).e rfl) (sO lo c h.1.2) (sO hi c h.2)) rfl
    · cases h
  | .rev a, t, sc, fb, x, X, W, c, h => by
    unfold mE at h
    split at h
    · exact JE.of (e_rev ((sE a c h).e rfl)) rfl
    · cases h
  | .call f es, t, sc, fb, x, X, W, c, h => by
    unfold mE at h
    split at h
    · simp only [Bool.and_eq_true, Bool.not_eq_true', List.any_eq_true, decide_eq_true_eq, beq_iff_eq] at h
      obtain ⟨⟨⟨⟨g, hg, h0, rfl⟩, h2⟩, h3⟩, h4⟩ := h
      subst h0
      obtain ⟨f', fd, hm, kp, bd, fo⟩ := c.fns g hg
      exact JE.of (e_call fo c.room (c.gl h2) hm kp bd c.takes (sEs es c h4) h3 (mEs_len h4).2) rfl
    · cases h
  | .bi b es, t, sc, fb, x, X, W, c, h => by
    unfold mE at h
    split at h
    · simp only [Bool.and_eq_true, decide_eq_true_eq] at h
      obtain ⟨⟨rfl, h2⟩, h3⟩ := h
      obtain ⟨g1, g2⟩ := c.fr h2
      exact JE.of (e_bi c.pw c.calm c.u67 c.room.g g1 g2 (sEs es c h3) (mEs_len h3).2) rfl
    · cases h
  | .isi a one ts, t, sc, fb, x, X, W, c, h => by
    unfold mE at h
    split at h
    · simp only [Bool.and_eq_true, decide_eq_true_eq] at h
      obtain ⟨⟨⟨⟨⟨rfl, h1⟩, h2⟩, h3⟩, h4⟩, h5⟩ := h
      split at h5
      · rename_i ty
        simp only [Bool.and_eq_true, decide_eq_true_eq] at h5
        obtain ⟨h6, rfl⟩ := h5
        have h7 : ty ∈ tyS := by simpa using h6
        obtain ⟨b1, b2, b3⟩ := ty_boot ty h7
        exact JE.of (e_isi1 h7 b1 b2 b3 (c.fr h1).1 (c.fr h1).2 (c.fr h2).1 (c.fr h2).2 h3 ((sE a c h4).e rfl)) rfl
      · cases h5
    · simp only [Bool.and_eq_true, decide_eq_true_eq] at h
      obtain ⟨⟨⟨⟨⟨rfl, h1⟩, h3⟩, h4⟩, h5⟩, h6⟩ := h
      obtain ⟨g1, g2⟩ := tyB_ok c h6
      refine JE.of (e_isiT (fun t ht => (g2 t ht).1) h5 g1 (fun t ht => ?_) (c.fr h1).1 (c.fr h1).2 h3 ((sE a c h4).e rfl)) rfl
      obtain ⟨b1, b2, b3⟩ := ty_boot t (g2 t ht).1
      exact ⟨b1, b2, b3, c.fr (g2 t ht).2⟩
    · cases h
  | .rep es n, t, sc, fb, x, X, W, c, h => by
    unfold mE at h
    split at h
    · simp only [Bool.and_eq_true, decide_eq_true_eq] at h
      exact JE.of (e_rep (sEs es c h.1.1) (fun env S ds S' e => by rw [evs_len e]; exact h.1.2) ((sE n c h.2).e rfl)) rfl
    · cases h
  | .rpi es n, t, sc, fb, x, X, W, c, h => by
    unfold mE at h
    split at h
    · simp only [Bool.and_eq_true, decide_eq_true_eq] at h
      exact JE.of (e_rpi (sEs es c h.1.1) (fun env S ds S' e => by rw [evs_len e]; exact h.1.2) ((sE n c h.2).e rfl)) rfl
    · cases h
  | .mt m a es, t, sc, fb, x, X, W, c, h => by
    unfold mE at h
    split at h
    · simp only [Bool.and_eq_true, decide_eq_true_eq] at h
      obtain ⟨⟨⟨⟨⟨⟨rfl, h1⟩, h2⟩, h3⟩, h4⟩, h5⟩, h6⟩ := h
      have hp := (mEs_len h5).2
      split at h6
      · exact JE.of (e_append ((sE a c h4).e rfl) (sEs es c h5) (base_ok h1) h3 h2 hp) rfl
      · exact JE.of (e_mtL (m := .extend) (g := extendD) rfl PySem.F.slot_list_extend PySem.F.type_list_extend (fun E => mt_extendD) rfl ((sE a c h4).e rfl) (sEs es c h5) (base_ok h1) h3 h2 hp) rfl
      · exact JE.of (e_pop1 ((sE a c h4).e rfl) (sEs es c h5) (base_ok h1) h3 h2 hp) rfl
      · cases es with
        | nil => exact JE.of (e_pop0 ((sE a c h4).e rfl) (base_ok h1) h2) rfl
        | cons e r => unfold mEs at h5; cases h5
      · exact JE.of (e_index c.u65 ((sE a c h4).e rfl) (sEs es c h5) (base_ok h1) h3 h2 hp) rfl
      · exact JE.of (e_setdefault ((sE a c h4).e rfl) (sEs es c h5) (base_ok h1) h3 h2 hp) rfl
      · exact JE.of (e_get2 c.u1 ((sE a c h4).e rfl) (sEs es c h5) (base_ok h1) h3 h2 hp) rfl
      · cases h6
    · cases h
  | .cmpr own elt tg it ifs, t, sc, fb, x, X, W, c, h => by
    unfold mE at h
    split at h
    · rename_i scope _
      simp only [Bool.and_eq_true, Bool.not_eq_true', List.all_eq_true, decide_eq_true_eq] at h
      obtain ⟨⟨⟨⟨⟨⟨h1, h2⟩, h3⟩, h4⟩, h5⟩, h6⟩, h7⟩ := h
      exact JE.of (e_lc c.calm c.nd h2 (sI it c h5) (by rw [c.N, c.sc]; exact blkOk_by h3) (fun s H C' cl fp => (c.blk scope s H C' cl fp).tg h1) (fun s H C' cl fp => sF ifs (c.blk scope s H C' cl fp) h6)
        (fun s H C' cl fp => (sE elt (c.blk scope s H C' cl fp) h7).e rfl) h4) rfl
    · cases h
  | .cmr own elt tg v ifs, t, sc, fb, x, X, W, c, h => by
    unfold mE at h
    split at h
    · rename_i scope _
      simp only [Bool.and_eq_true, Bool.not_eq_true', List.all_eq_true, decide_eq_true_eq] at h
      obtain ⟨⟨⟨⟨⟨h1, h2⟩, h3⟩, ⟨⟨⟨g1, g2⟩, g3⟩, g4⟩⟩, h6⟩, h7⟩ := h
      exact JE.of (e_lcr c.calm c.nd h2 (by rw [c.N]; exact g1) (c.vis g2) g3 g4 (by rw [c.N, c.sc]; exact blkOk_by h3) (fun s H C' cl fp => (c.blk scope s H C' cl fp).tg h1) (fun s H C' cl fp => sF ifs (c.blk scope s H C' cl fp) h6)
        (fun s H C' cl fp => (sE elt (c.blk scope s H C' cl fp) h7).e rfl)) rfl
    · cases h
  | .cmd own elt tg v ifs, t, sc, fb, x, X, W, c, h => by
    unfold mE at h
    split at h
    · rename_i scope _
      simp only [Bool.and_eq_true, Bool.not_eq_true', List.all_eq_true, decide_eq_true_eq] at h
      obtain ⟨⟨⟨⟨⟨h1, h2⟩, h3⟩, ⟨⟨⟨g1, g2⟩, g3⟩, g4⟩⟩, h6⟩, h7⟩ := h
      exact JE.of (e_lcd c.calm c.nd h2 (by rw [c.N]; exact g1) (c.vis g2) g3 g4 (by rw [c.N, c.sc]; exact blkOk_by h3) (fun s H C' cl fp => (c.blk scope s H C' cl fp).tg h1) (fun s H C' cl fp => sF ifs (c.blk scope s H C' cl fp) h6)
        (fun s H C' cl fp => (sE elt (c.blk scope s H C' cl fp) h7).e rfl)) rfl
    · cases h
  | .cmm own elt tg it ifs, t, sc, fb, x, X, W, c, h => by
    unfold mE at h
    split at h
    · rename_i scope _
      simp only [Bool.and_eq_true, Bool.not_eq_true', List.all_eq_true, decide_eq_true_eq] at h
      obtain ⟨⟨⟨⟨⟨⟨h1, h2⟩, h3⟩, h4⟩, h5⟩, h6⟩, h7⟩ := h
      exact JE.of (e_lcm c.calm c.nd h2 (sI it c h5) (by rw [c.N, c.sc]; exact blkOk_by h3) (fun s H C' cl fp => (c.blk scope s H C' cl fp).tg h1) (fun s H C' cl fp => sF ifs (c.blk scope s H C' cl fp) h6)
        (fun s H C' cl fp => (sE elt (c.blk scope s H C' cl fp) h7).e rfl) h4) rfl
    · cases h
  | .cml own elt tg it ifs, t, sc, fb, x, X, W, c, h => by
    unfold mE at h
    split at h
    · rename_i scope _
      simp only [Bool.and_eq_true, Bool.not_eq_true', List.all_eq_true, decide_eq_true_eq] at h
      obtain ⟨⟨⟨⟨⟨⟨h1, h2⟩, h3⟩, h4⟩, h5⟩, h6⟩, h7⟩ := h
      exact JE.of (e_cml c.calm c.nd h2 (sI it c h5) (by rw [c.N, c.sc]; exact blkOk_by h3) (fun s H C' cl fp => (c.blk scope s H C' cl fp).tg h1) (fun s H C' cl fp => sF ifs (c.blk scope s H C' cl fp) h6)
        (fun s H C' cl fp => (sE elt (c.blk scope s H C' cl fp) h7).e rfl) h4) rfl
    · cases h
  | .idn a b, t, sc, fb, x, X, W, c, h => by
    unfold mE at h
    split at h
    · simp only [Bool.and_eq_true] at h
      exact JE.of (e_idn c.u1 ((sE a c h.1.2).e rfl) ((sE b c h.2).e rfl) h.1.1) rfl
    · cases h
  | .lsr b es, t, sc, fb, x, X, W, c, h => by
    unfold mE at h
    split at h
    · simp only [Bool.and_eq_true, decide_eq_true_eq] at h
      obtain ⟨⟨⟨⟨⟨rfl, h1⟩, rfl⟩, h3⟩, h4⟩, h5⟩ := h
      obtain ⟨g1, g2⟩ := c.fr h1
      obtain ⟨g3, g4⟩ := c.fr h3
      split at h5
      · cases es with
        | nil => unfold mEs at h4; cases h4
        | cons e r =>
          unfold mEs at h4
          simp only [Bool.and_eq_true] at h4
          cases r with
          | cons e2 r2 => have z := h4.2; unfold mEs at z; cases z
          | nil => exact JE.of (e_lsr1 c.calm g1 g2 g3 g4 ((sE e c h4.1.2).e rfl) h4.1.1) rfl
      · cases es with
        | nil => unfold mEs at h4; cases h4
        | cons e r =>
          unfold mEs at h4
          simp only [Bool.and_eq_true] at h4
          cases r with
          | nil => have z := h4.2; unfold mEs at z; cases z
          | cons e2 r2 =>
            have z := h4.2
            unfold mEs at z
            simp only [Bool.and_eq_true] at z
            cases r2 with
            | cons e3 r3 => have z2 := z.2; unfold mEs at z2; cases z2
            | nil => exact JE.of (e_lsr2 c.calm g1 g2 g3 g4 ((sE e c h4.1.2).e rfl) ((sE e2 c z.1.2).e rfl) h4.1.1 z.1.1) rfl
      · cases h5
    · cases h
  | .srs a, t, sc, fb, x, X, W, c, h => by
    unfold mE at h
    split at h
    · simp only [Bool.and_eq_true, decide_eq_true_eq] at h
      obtain ⟨⟨⟨⟨⟨rfl, h1⟩, rfl⟩, h2⟩, h3⟩, h4⟩ := h
      exact JE.of (e_srs c.calm c.u67 (c.fr h1).1 (c.fr h1).2 (c.fr h2).1 (c.fr h2).2 ((sE a c h4).e rfl) h3) rfl
    · cases h
  | .mdf a d, t, sc, fb, x, X, W, c, h => by
    unfold mE at h
    split at h
    · simp only [Bool.and_eq_true, decide_eq_true_eq] at h
      obtain ⟨⟨⟨⟨⟨rfl, h1⟩, rfl⟩, h3⟩, h4⟩, h5⟩ := h
      exact JE.of (e_mdf c.calm c.u67 (c.fr h1).1 (c.fr h1).2 ((sE a c h4).e rfl) ((sE d c h5).e rfl) h3) rfl
    · cases h
  | .dic mu es, t, sc, fb, x, X, W, c, h => by
    unfold mE at h
    split at h
    · split at h
      · cases mu
        · exact JE.of e_dicf rfl
        · exact JE.of e_dic0 rfl
      · cases h
    · simp only [Bool.and_eq_true, decide_eq_true_eq] at h
      obtain ⟨trs, d⟩ := sP es c h.2
      exact JE.of (e_dicP d (by simp) h.1 mu) rfl
    · cases h
  | .mad a b, t, sc, fb, x, X, W, c, h => by
    unfold mE at h
    split at h
    · simp only [Bool.and_eq_true, decide_eq_true_eq] at h
      obtain ⟨⟨rfl, h1⟩, h2⟩ := h
      exact JE.of (e_bin (fun E => op_maddD) ((sE a c h1).e rfl) ((sE b c h2).e rfl)) rfl
    · cases h
  | .mnd a, t, sc, fb, x, X, W, c, h => by
    unfold mE at h
    split at h
    · simp only [Bool.and_eq_true, decide_eq_true_eq] at h
      obtain ⟨⟨⟨rfl, h1⟩, h3⟩, h4⟩ := h
      exact JE.of (e_mnd c.calm c.u67 (c.fr h1).1 (c.fr h1).2 ((sE a c h4).e rfl) h3) rfl
    · cases h
theorem sEs : (es : Exs) → ∀ {sc : Scope} {fb : Str → Bool} {xs : List Expr} {X : Cx} {W : WX}, Cok X W C k sc fb → mEs C es sc fb xs = true → PA X xs (tL X.K W (evs (callF C.P k) es))
  | .nil, sc, fb, xs, X, W, c, h => by
    unfold mEs at h
    split at h
    · exact a_nil
    · cases h
  | .cons e r, sc, fb, xs, X, W, c, h => by
    unfold mEs at h
    split at h
    · simp only [Bool.and_eq_true] at h
      exact a_cons h.1.1 ((sE e c h.1.2).e rfl) (sEs r c h.2)
    · cases h
theorem sB (kk : Bool) : (es : Exs) → ∀ {t : Bool} {sc : Scope} {fb : Str → Bool} {xs : List Expr} {X : Cx} {W : WX}, Cok X W C k sc fb → mB C es t sc fb xs = true → JB t kk X W xs (evB (callF C.P k) kk es)
  | .nil, t, sc, fb, xs, X, W, c, h => by
    unfold mB at h
    cases h
  | .cons e r, t, sc, fb, xs, X, W, c, h => by
    unfold mB at h
    split at h
    · simp only [Bool.and_eq_true] at h
      obtain ⟨h1, h2⟩ := h
      split at h2
      · exact ⟨fun ht pos => e_one ((sE e c h1).e ht), fun ht pos => w_one ((sE e c h1).t ht)⟩
      · cases h2
    · simp only [Bool.and_eq_true] at h
      obtain ⟨h1, h2⟩ := h
      have j := sB kk r c h2
      cases r with
      | nil => unfold mB at h2; cases h2
      | cons e2 r2 =>
        cases kk with
        | true => exact ⟨fun ht pos => e_and ((sE e c h1).e ht) (j.e ht pos), fun ht pos => w_and ((sE e c h1).t ht) (j.t ht pos)⟩
        | false => exact ⟨fun ht pos => e_or ((sE e c h1).e ht) (j.e ht pos), fun ht pos => w_or ((sE e c h1).t ht) (j.t ht pos)⟩
    · cases h
theorem sP : (es : Exs) → ∀ {sc : Scope} {fb : Str → Bool} {xs : List (Option Expr)} {vs : List Expr} {X : Cx} {W : WX}, Cok X W C k sc fb → mP C es sc fb xs vs = true → ∃ trs, DP X W xs vs trs (evs (callF C.P k) es)
  | .nil, sc, fb, xs, vs, X, W, c, h => by
    unfold mP at h
    split at h
    · exact ⟨_, .nil⟩
    · cases h
  | .cons e (.cons f r), sc, fb, xs, vs, X, W, c, h => by
    unfold mP at h
    split at h
    · simp only [Bool.and_eq_true] at h
      obtain ⟨trs, d⟩ := sP r c h.2
      exact ⟨_, .cons ((sE e c h.1.1).e rfl) ((sE f c h.1.2).e rfl) d⟩
    · cases h
  | .cons _ .nil, sc, fb, xs, vs, X, W, c, h => by
    unfold mP at h
    cases h
theorem sO : (es : Exs) → ∀ {sc : Scope} {fb : Str → Bool} {x : Option Expr} {X : Cx} {W : WX}, Cok X W C k sc fb → mO C es sc fb x = true → PO X x (tO X.K W fun env => M.bind (evs (callF C.P k) es env) endK)
  | .nil, sc, fb, x, X, W, c, h => by
    unfold mO at h
    split at h
    · exact o_none
    · cases h
  | .cons e r, sc, fb, x, X, W, c, h => by
    unfold mO at h
    split at h
    · exact o_some ((sE e c h).e rfl)
    · cases h
theorem sF : (es : Exs) → ∀ {sc : Scope} {fb : Str → Bool} {xs : List Expr} {X : Cx} {W : WX}, Cok X W C k sc fb → mF C es sc fb xs = true → PTs X xs (tT X.K W (tstM (evB (callF C.P k) true es)))
  | .nil, sc, fb, xs, X, W, c, h => by
    unfold mF at h
    split at h
    · exact ts_nil
    · cases h
  | .cons e r, sc, fb, xs, X, W, c, h => by
    unfold mF at h
    split at h
    · exact ts_one ((sE e c h).t rfl)
    · cases h
theorem sI : (it : It) → ∀ {sc : Scope} {fb : Str → Bool} {tg : Tg} {tgx x : Expr} {X : Cx} {W : WX}, Cok X W C k sc fb → mI C it sc fb tg tgx x = true → PI X tgx x (tI X.K W tg (evI (callF C.P k) it))
  | .ex e, sc, fb, tg, tgx, x, X, W, c, h => by
    unfold mI at h
    exact i_ex ((sE e c h).e rfl)
  | .rng es, sc, fb, tg, tgx, x, X, W, c, h => by
    unfold mI at h
    split at h
    · simp only [Bool.and_eq_true, decide_eq_true_eq] at h
      obtain ⟨⟨⟨rfl, h1⟩, h2⟩, h3⟩ := h
      obtain ⟨g1, g2⟩ := c.fr h1
      have hl := mEs_len h2
      split at h3
      · exact i_rng1 g1 g2 (sEs es c h2) (fun env S ds S' e => by rw [evs_len e, hl.1]; rfl) (by simpa using hl.2)
      · exact i_rng2 g1 g2 (sEs es c h2) (fun env S ds S' e => by rw [evs_len e, hl.1]; rfl) (by have := hl.2; simp at this; exact this.1) (by have := hl.2; simp at this; exact this.2)
      · cases h3
    · cases h
  | .enm a, sc, fb, tg, tgx, x, X, W, c, h => by
    unfold mI at h
    split at h
    · simp only [Bool.and_eq_true, decide_eq_true_eq] at h
      obtain ⟨⟨⟨⟨rfl, h1⟩, h2⟩, h3⟩, h4⟩ := h
      obtain ⟨g1, g2⟩ := c.fr h1
      split at h4
      · exact i_enm g1 g2 ((sE a c h3).e rfl) h2
      · exact i_enmE g1 g2 ((sE a c h3).e rfl) h2
      · cases h4
    · cases h
  | .zp a b, sc, fb, tg, tgx, x, X, W, c, h => by
    unfold mI at h
    split at h
    · simp only [Bool.and_eq_true, decide_eq_true_eq] at h
      obtain ⟨⟨⟨⟨⟨⟨rfl, h1⟩, h2⟩, h3⟩, h4⟩, h5⟩, h6⟩ := h
      obtain ⟨g1, g2⟩ := c.fr h1
      split at h6
      · exact i_zp g1 g2 ((sE a c h4).e rfl) ((sE b c h5).e rfl) h2 h3
      · cases h6
    · cases h
end
end
end DL
end

section
set_option maxRecDepth 100000
/-! DL15: statements, defs. Ours. -/
namespace DL
open PySem PySem.Spec PyProof.Rows L2 PySem.W
variable [PWd]
/-- a comprehension stored in a plain local name of the same line -/
def swB (sc : Scope) (y : Str) (p : Pos) (v : Expr) : Bool := match v with
  | .ListComp _ _ scope lp => decide (sc.names.lookup y = some .local) && (p.line == lp.line) && !(scope.names.any fun (n, k) => n == y && (k == .local || k == .cell))
  | _ => false
/-- name = {}; for ..: name[other name] = value -/
def mBl (C : MC) (sc : Scope) : Sm → Stmt → Stmt → Bool
  | .bld v tg it i e, a, b => (match a, b with
    | .Assign [.Name x _] (.Dict [] [] _) _, .For tgx itx [.Assign [.Subscript (.Name x2 _) (.Name z _) _] val _] [] _ => decide (x2 = x) && stoB C.N sc (fun _ => true) v x && (visB sc x && !(x == ("__debug__" : Str)) && !(x == ("__classdict__" : Str))) && (decide (C.N[i]? = some z) && visB sc z && !(z == ("__debug__" : Str)) && !(z == ("__classdict__" : Str))) && tgB C.N sc (fun _ => true) tg tgx && mI C it sc (fun _ => true) tg tgx itx && mE C e false sc (fun _ => true) val && !setE itx && decide (v ∉ tgIs tg) && decide (i ≠ v)
    | _, _ => false)
  | _, _, _ => false
mutual
def mSm (C : MC) (sc : Scope) : Sm → Stmt → Bool
  | .bld _ _ _ _ _, _ => false
  | .asg tg e, st => (match tg, st with
    | .v i, .Assign [.Name y p] v _ => stoB C.N sc (fun _ => true) i y && mE C e false sc (fun _ => true) v && (!compE v || decide (sc.names.lookup y = some .cell) || swB sc y p v)
    | .t is, .Assign [.Tuple ts _ _] v _ => stosB C.N sc (fun _ => true) is ts && mE C e false sc (fun _ => true) v && !compE v && (!tupE v || fldB v)
    | _, _ => false)
  | .sub o i e, st => (match st with
    | .Assign [.Subscript y z _] v _ => plainE z && mE C o false sc (fun _ => true) y && mE C i false sc (fun _ => true) z && mE C e false sc (fun _ => true) v && !compE v
    | _ => false)
  | .asub o i op e, st => (match st with
    | .AugAssign (.Subscript y z _) p v _ => decide (p = op) && (decide (op = .Add) || decide (op = .Sub)) && plainE z && mE C o false sc (fun _ => true) y && mE C i false sc (fun _ => true) z && mE C e false sc (fun _ => true) v
    | _ => false)
  | .aug i op e, st => (match st with
    | .AugAssign (.Name y _) o v _ => stoB C.N sc (fun _ => true) i y && decide (o = op) && (decide (op = .Add) || decide (op = .Sub)) && mE C e false sc (fun _ => true) v
    | _ => false)
  | .exp e, st => (match st with
    | .Expr v _ => mE C e false sc (fun _ => true) v && !compE v
    | _ => false)
  | .ret e, st => (match st with
    | .Return (some v) _ => mE C e false sc (fun _ => true) v
    | _ => false)
  | .retn, st => (match st with
    | .Return none _ => true
    | _ => false)
  | .iff c a b, st => (match st with
    | .If x p q _ => mE C c true sc (fun _ => true) x && mSms C sc a p && mSms C sc b q
    | _ => false)
  | .for tg it body, st => (match st with
    | .For tgx itx b [] _ => tgB C.N sc (fun _ => true) tg tgx && mI C it sc (fun _ => true) tg tgx itx && mSms C sc body b && !setE itx
    | _ => false)
  | .forr tg v body, st => (match st with
    | .For tgx (.Name z _) b [] _ => tgB C.N sc (fun _ => true) tg tgx && (decide (C.N[v]? = some z) && visB sc z && !(z == ("__debug__" : Str)) && !(z == ("__classdict__" : Str))) && mSms C sc body b
    | _ => false)
  | .fore is v body, st => (match st with
    | .For (.Tuple es k tp) (.Call (.Name r _) [.Name z _] [] _) b [] _ => decide (r = ("enumerate" : Str)) && frB C sc "enumerate" && tgB C.N sc (fun _ => true) (.t is) (.Tuple es k tp) && (decide (C.N[v]? = some z) && visB sc z && !(z == ("__debug__" : Str)) && !(z == ("__classdict__" : Str))) && mSms C sc body b
    | _ => false)
  | .whl _ c body, st => (match st with
    | .While x b [] _ => mE C c true sc (fun _ => true) x && mSms C sc body b
    | _ => false)
  | .brk, st => (match st with
    | .Break _ => true
    | _ => false)
  | .cnt, st => (match st with
    | .Continue _ => true
    | _ => false)
  | .par i j es, st => (match st with
    | .Assign [.Tuple [.Name x px, .Name y py] _ _] (.Tuple [a, b] _ _) _ => decide (C.N[i]? = some x) && decide (C.N[j]? = some y) && decide (i ≠ j) && decide (sc.names.lookup x = some .local) && decide (sc.names.lookup y = some .local) && decide (px.line = py.line) && !(x == y) && !(y == x) &&
        !([a, b].all (foldedForSure 8)) && !([a, b].all (constantsAlone 8)) && mEs C es sc (fun _ => true) [a, b]
    | _ => false)
  | .pss, st => (match st with
    | .Pass _ => true
    | _ => false)
  | .rse c, st => (match st with
    | .Raise (some (.Call (.Name x _) [] [] _)) none _ => C.ers.contains c && decide (x = Str.ofString c) && glB sc x && !(x == ("__debug__" : Str))
    | _ => false)
  | .try1 body c i ts t1 t2, st => (match st with
    | .Try b [.ExceptHandler (some (.Name x _)) (some n) [.If (.Call (.Name f1 _) [.Name n1 _, .Tuple es _ _] [] _) [.Return (some (.Constant (.bool false) _ _)) _] [] _,
        .Return (some (.BoolOp .And [.Call (.Name f2 _) [.Name n2 _, .Name x1 _] [] _, .Call (.Name f3 _) [.Name n3 _, .Name x2 _] [] _] _)) _] _] [] [] _ =>
      decide ((c, ts, t1) ∈ C.eis) && decide (x = Str.ofString c) && glB sc x && !(x == ("__debug__" : Str)) && decide (C.N[i]? = some n) && decide (sc.names.lookup n = some .local) && !(n == ("__debug__" : Str)) && !(n == ("__classdict__" : Str)) && nmB sc es ts && decide (ts.length ≤ 1000) &&
        frB C sc "isinstance" && decide (x1 = Str.ofString t1) && glB sc x1 && !(x1 == ("__debug__" : Str)) && glB sc "ValueError" && decide (f1 = ("isinstance" : Str) ∧ f2 = ("isinstance" : Str) ∧ f3 = ("isinstance" : Str) ∧ n1 = n ∧ n2 = n ∧ n3 = n ∧ x2 = ("ValueError" : Str)) && mSms C sc body b
    | _ => false)
  | .try2 body c i w ts t1, st => (match st with
    | .Try b [.ExceptHandler (some (.Name x _)) (some n) [.Assign [.Name w1 _] (.Constant (.int v1) _ _) _,
        .If (.BoolOp .Or [.UnaryOp .Not (.Call (.Name f2 _) [.Name n2 _, .Name x1 _] [] _) _, .UnaryOp .Not (.Call (.Name f3 _) [.Name n3 _, .Name x2 _] [] _) _] _) [.Assign [.Name w2 _] (.Constant (.int v2) _ _) _] [] _,
        .If (.Call (.Name f1 _) [.Name n1 _, .Tuple es _ _] [] _) [.Assign [.Name w3 _] (.Constant (.int v3) _ _) _] [] _] _] [] [] _ =>
      decide ((c, ts, t1) ∈ C.eis) && decide (x = Str.ofString c) && glB sc x && !(x == ("__debug__" : Str)) && decide (C.N[i]? = some n) && decide (sc.names.lookup n = some .local) && !(n == ("__debug__" : Str)) && !(n == ("__classdict__" : Str)) && nmB sc es ts && decide (ts.length ≤ 1000) &&
        frB C sc "isinstance" && decide (x1 = Str.ofString t1) && glB sc x1 && !(x1 == ("__debug__" : Str)) && glB sc "ValueError" && decide (f1 = ("isinstance" : Str) ∧ f2 = ("isinstance" : Str) ∧ f3 = ("isinstance" : Str) ∧ n1 = n ∧ n2 = n ∧ n3 = n ∧ x2 = ("ValueError" : Str)) &&
        decide (C.N[w]? = some w1) && decide (sc.names.lookup w1 = some .local) && decide (i ≠ w) && decide (w2 = w1 ∧ w3 = w1 ∧ v1 = 2 ∧ v2 = 0 ∧ v3 = 0) && mSms C sc body b
    | _ => false)
def mSms (C : MC) (sc : Scope) : Sms → List Stmt → Bool
  | .nil, xs => (match xs with
    | [] => true
    | _ => false)
  | .cons s r, xs => (match xs with
    | y :: ys => (mSm C sc s y && mSms C sc r ys) || (match ys with
      | y2 :: zs => mBl C sc s y y2 && mSms C sc r zs
      | [] => false)
    | _ => false)
end
structure Sok (X : Cx) (W : WX) (C : MC) (k : Nat) (sc : Scope) : Prop where
  cok : Cok X W C k sc (fun _ => true)
  pass : PassesOwn (model X.prog X.w) X.A X.env X.xe
  kind : sc.kind = .function
  stk : X.stack = X.env :: X.outer
  frm : X.env.frame = some X.env.locals
omit [PWd] in
theorem swap_cellAny {v : Expr} {p : Pos} {y : Str} {l : Nat} {env : PySem.Env} (h : env.scope.names.lookup y = some .cell) : swapsWith v (some (.Name y p)) l env = pure false := by
  have hk : env.kindOf y = some .cell := h
  have hb : (NameKind.cell == NameKind.local) = false := rfl
  unfold swapsWith
  cases v <;> first | rfl | (simp [hk, hb]; done) | (simp [hk, hb]; rfl)
omit [PWd] in
theorem asg_sub {o i : Expr} {tpos : Pos} {env : PySem.Env} (h : plainE i = true) : ∀ v, assign (.Subscript o i tpos) env v = (do
      let ov ← holding [v] (eval o env)
      let iv ← holding [v, ov] (eval i env)
      standAt tpos
      holding [v, ov, iv] (setItem ov iv v)
      release [v, ov, iv] []) := by
  intro v
  cases i <;> first | rfl | (exact Bool.noConfusion h)
omit [PWd] in
theorem aug_sub {i : Expr} (h : plainE i = true) : ∀ ov iv new, augStore i ov iv new = (do holding [new, ov, iv] (setItem ov iv new); release [new, ov, iv] []; pure .next) := by
  intro ov iv new
  cases i <;> first | rfl | (exact Bool.noConfusion h)
section
variable {C : MC} {k : Nat} {sc : Scope}
theorem sBl : (s : Sm) → ∀ {a b : Stmt} {rest : List Stmt} {X : Cx} {W : WX} {cr : Env → Mem → SR}, Sok X W C k sc → mBl C sc s a b = true → PSs X rest (tS X.K W cr) → PSs X (a :: b :: rest) (tS X.K W (seqM (exec (callF C.P k) s) cr)) := fun s a b rest X W cr c h hr => by
  unfold mBl at h
  split at h
  · split at h
    · simp only [Bool.and_eq_true, Bool.not_eq_true', decide_eq_true_eq] at h
      obtain ⟨⟨⟨⟨⟨⟨⟨⟨⟨rfl, h1⟩, ⟨⟨g1, g2⟩, g3⟩⟩, ⟨⟨⟨q1, q2⟩, q3⟩, q4⟩⟩, h2⟩, h3⟩, h4⟩, h5⟩, h6⟩, h7⟩ := h
      exact ss_bld c.pass c.cok.calm c.cok.nd c.cok.u1 (c.cok.sto h1) (c.cok.vis g1) g2 g3 (by rw [c.cok.N]; exact q1) (c.cok.vis q2) q3 q4 (sI _ c.cok h3) (c.cok.tg h2) ((sE _ c.cok h4).e rfl) h5 h6 h7 hr
    · cases h
  · cases h
mutual
theorem sSm : (s : Sm) → ∀ {st : Stmt} {X : Cx} {W : WX}, Sok X W C k sc → mSm C sc s st = true → PS X st (tS X.K W (exec (callF C.P k) s))
  | .bld _ _ _ _ _, st, X, W, c, h => by
    unfold mSm at h
    cases h
  | .asg tg e, st, X, W, c, h => by
    unfold mSm at h
    split at h
    · rename_i i y p v pos
      simp only [Bool.and_eq_true, Bool.or_eq_true, Bool.not_eq_true', decide_eq_true_eq] at h
      obtain ⟨⟨h1, h2⟩, h3⟩ := h
      have hs := c.cok.sto h1
      rcases h3 with (h3 | h3) | h3
      · exact s_set c.cok.nd hs ((sE e c.cok h2).e rfl) (swap_ok h3)
      · exact s_set c.cok.nd hs ((sE e c.cok h2).e rfl) (swap_cellAny (by rw [c.cok.sc]; exact h3))
      · unfold swB at h3
        split at h3
        · simp only [Bool.and_eq_true, Bool.not_eq_true', decide_eq_true_eq] at h3
          obtain ⟨⟨h4, h5⟩, h6⟩ := h3
          cases e with
          | cmpr own elt tg it ifs =>
            unfold mE at h2
            split at h2
            · rename_i heq
              cases heq
              rename_i scope _
              simp only [Bool.and_eq_true, Bool.not_eq_true', List.all_eq_true, decide_eq_true_eq] at h2
              obtain ⟨⟨⟨⟨⟨⟨g1, g2⟩, g3⟩, g4⟩, g5⟩, g6⟩, g7⟩ := h2
              have c1 := c.cok
              have hl : X.env.scope.names.lookup y = some .local := by rw [c1.sc]; exact h4
              exact s_setLc c1.calm c1.nd hs.1 hl (sw_true (by rw [c1.sc]; exact c.kind) hl h5 h6) g2 (sI it c1 g5) (by rw [c1.N, c1.sc]; exact blkOk_by g3) (fun s H C' cl fp => (c1.blk _ s H C' cl fp).tg g1) (fun s H C' cl fp => sF ifs (c1.blk _ s H C' cl fp) g6)
                (fun s H C' cl fp => (sE elt (c1.blk _ s H C' cl fp) g7).e rfl) g4
            · cases h2
          | cmr own elt tg v ifs =>
            unfold mE at h2
            split at h2
            · rename_i heq
              cases heq
              rename_i scope _
              simp only [Bool.and_eq_true, Bool.not_eq_true', List.all_eq_true, decide_eq_true_eq] at h2
              obtain ⟨⟨⟨⟨⟨g1, g2⟩, g3⟩, ⟨⟨⟨k1, k2⟩, k3⟩, k4⟩⟩, g6⟩, g7⟩ := h2
              have c1 := c.cok
              have hl : X.env.scope.names.lookup y = some .local := by rw [c1.sc]; exact h4
              exact s_setLcr c1.calm c1.nd hs.1 hl (sw_true (by rw [c1.sc]; exact c.kind) hl h5 h6) g2 (by rw [c1.N]; exact k1) (c1.vis k2) k3 k4 (by rw [c1.N, c1.sc]; exact blkOk_by g3) (fun s H C' cl fp => (c1.blk _ s H C' cl fp).tg g1) (fun s H C' cl fp => sF ifs (c1.blk _ s H C' cl fp) g6)
                (fun s H C' cl fp => (sE elt (c1.blk _ s H C' cl fp) g7).e rfl)
            · cases h2
          | cmd own elt tg v ifs =>
            unfold mE at h2
            split at h2
            · rename_i heq
              cases heq
              rename_i scope _
              simp only [Bool.and_eq_true, Bool.not_eq_true', List.all_eq_true, decide_eq_true_eq] at h2
              obtain ⟨⟨⟨⟨⟨g1, g2⟩, g3⟩, ⟨⟨⟨k1, k2⟩, k3⟩, k4⟩⟩, g6⟩, g7⟩ := h2
              have c1 := c.cok
              have hl : X.env.scope.names.lookup y = some .local := by rw [c1.sc]; exact h4
              exact s_setLcd c1.calm c1.nd hs.1 hl (sw_true (by rw [c1.sc]; exact c.kind) hl h5 h6) g2 (by rw [c1.N]; exact k1) (c1.vis k2) k3 k4 (by rw [c1.N, c1.sc]; exact blkOk_by g3) (fun s H C' cl fp => (c1.blk _ s H C' cl fp).tg g1) (fun s H C' cl fp => sF ifs (c1.blk _ s H C' cl fp) g6)
                (fun s H C' cl fp => (sE elt (c1.blk _ s H C' cl fp) g7).e rfl)
            · cases h2
          | cmm own elt tg it ifs =>
            unfold mE at h2
            split at h2
            · rename_i heq
              cases heq
              rename_i scope _
              simp only [Bool.and_eq_true, Bool.not_eq_true', List.all_eq_true, decide_eq_true_eq] at h2
              obtain ⟨⟨⟨⟨⟨⟨g1, g2⟩, g3⟩, g4⟩, g5⟩, g6⟩, g7⟩ := h2
              have c1 := c.cok
              have hl : X.env.scope.names.lookup y = some .local := by rw [c1.sc]; exact h4
              exact s_setLcm c1.calm c1.nd hs.1 hl (sw_true (by rw [c1.sc]; exact c.kind) hl h5 h6) g2 (sI it c1 g5) (by rw [c1.N, c1.sc]; exact blkOk_by g3) (fun s H C' cl fp => (c1.blk _ s H C' cl fp).tg g1) (fun s H C' cl fp => sF ifs (c1.blk _ s H C' cl fp) g6)
                (fun s H C' cl fp => (sE elt (c1.blk _ s H C' cl fp) g7).e rfl) g4
            · cases h2
          | cml own elt tg it ifs =>
            unfold mE at h2
            split at h2
            · rename_i heq
              cases heq
              rename_i scope _
              simp only [Bool.and_eq_true, Bool.not_eq_true', List.all_eq_true, decide_eq_true_eq] at h2
              obtain ⟨⟨⟨⟨⟨⟨g1, g2⟩, g3⟩, g4⟩, g5⟩, g6⟩, g7⟩ := h2
              have c1 := c.cok
              have hl : X.env.scope.names.lookup y = some .local := by rw [c1.sc]; exact h4
              exact s_setCml c1.calm c1.nd hs.1 hl (sw_true (by rw [c1.sc]; exact c.kind) hl h5 h6) g2 (sI it c1 g5) (by rw [c1.N, c1.sc]; exact blkOk_by g3) (fun s H C' cl fp => (c1.blk _ s H C' cl fp).tg g1) (fun s H C' cl fp => sF ifs (c1.blk _ s H C' cl fp) g6)
                (fun s H C' cl fp => (sE elt (c1.blk _ s H C' cl fp) g7).e rfl) g4
            · cases h2
          | _ => unfold mE at h2; simp at h2
        · cases h3
    · simp only [Bool.and_eq_true, Bool.not_eq_true'] at h
      obtain ⟨⟨⟨h1, h2⟩, h3⟩, h4⟩ := h
      rw [Bool.or_eq_true, Bool.not_eq_true'] at h4
      rcases h4 with h4 | h4
      · exact s_asgT c.cok.calm c.cok.nd (c.cok.stos h1) ((sE e c.cok h2).e rfl) h3 h4
      · exact s_asgF c.cok.calm c.cok.nd (c.cok.stos h1) ((sE e c.cok h2).e rfl) h3 h4
    · cases h
  | .sub o i e, st, X, W, c, h => by
    unfold mSm at h
    split at h
    · simp only [Bool.and_eq_true, Bool.not_eq_true'] at h
      obtain ⟨⟨⟨⟨h1, h2⟩, h3⟩, h4⟩, h5⟩ := h
      exact s_sub c.cok.pw c.cok.u1 ((sE o c.cok h2).e rfl) ((sE i c.cok h3).e rfl) ((sE e c.cok h4).e rfl) h5 (asg_sub h1)
    · cases h
  | .asub o i op e, st, X, W, c, h => by
    unfold mSm at h
    split at h
    · simp only [Bool.and_eq_true, Bool.or_eq_true, decide_eq_true_eq] at h
      obtain ⟨⟨⟨⟨⟨rfl, h1⟩, h2⟩, h3⟩, h4⟩, h5⟩ := h
      exact s_asub c.cok.pw c.cok.u1 ((sE o c.cok h3).e rfl) ((sE i c.cok h4).e rfl) ((sE e c.cok h5).e rfl) h1 (aug_sub h2)
    · cases h
  | .aug i op e, st, X, W, c, h => by
    unfold mSm at h
    split at h
    · simp only [Bool.and_eq_true, Bool.or_eq_true, decide_eq_true_eq] at h
      obtain ⟨⟨⟨h1, rfl⟩, h3⟩, h4⟩ := h
      exact s_aug c.cok.nd (c.cok.sto h1) ((sE e c.cok h4).e rfl) h3
    · cases h
  | .exp e, st, X, W, c, h => by
    unfold mSm at h
    split at h
    · simp only [Bool.and_eq_true, Bool.not_eq_true'] at h
      exact s_exp ((sE e c.cok h.1).e rfl) h.2
    · cases h
  | .ret e, st, X, W, c, h => by
    unfold mSm at h
    split at h
    · exact s_ret ((sE e c.cok h).e rfl)
    · cases h
  | .retn, st, X, W, c, h => by
    unfold mSm at h
    split at h
    · exact s_retn
    · cases h
  | .iff x a b, st, X, W, c, h => by
    unfold mSm at h
    split at h
    · simp only [Bool.and_eq_true] at h
      exact s_if ((sE x c.cok h.1.1).t rfl) (sSms a c h.1.2) (sSms b c h.2)
    · cases h
  | .for tg it body, st, X, W, c, h => by
    unfold mSm at h
    split at h
    · simp only [Bool.and_eq_true, Bool.not_eq_true'] at h
      obtain ⟨⟨⟨h1, h2⟩, h3⟩, h4⟩ := h
      exact s_for c.pass c.cok.calm (sI it c.cok h2) (c.cok.tg h1) (sSms body c h3) h4
    · cases h
  | .forr tg v body, st, X, W, c, h => by
    unfold mSm at h
    split at h
    · simp only [Bool.and_eq_true, Bool.not_eq_true', decide_eq_true_eq] at h
      obtain ⟨⟨h1, ⟨⟨⟨g1, g2⟩, g3⟩, g4⟩⟩, h3⟩ := h
      exact s_forr c.pass c.cok.calm (by rw [c.cok.N]; exact g1) (c.cok.vis g2) g3 g4 (c.cok.tg h1) (sSms body c h3)
    · cases h
  | .fore is v body, st, X, W, c, h => by
    unfold mSm at h
    split at h
    · simp only [Bool.and_eq_true, Bool.not_eq_true', decide_eq_true_eq] at h
      obtain ⟨⟨⟨⟨rfl, h0⟩, h1⟩, ⟨⟨⟨g1, g2⟩, g3⟩, g4⟩⟩, h3⟩ := h
      obtain ⟨f1, f2⟩ := c.cok.fr h0
      exact s_fore c.pass c.cok.calm f1 f2 (by rw [c.cok.N]; exact g1) (c.cok.vis g2) g3 g4 (c.cok.tg h1) (sSms body c h3)
    · cases h
  | .whl n x body, st, X, W, c, h => by
    unfold mSm at h
    split at h
    · simp only [Bool.and_eq_true] at h
      exact s_while c.pass ((sE x c.cok h.1).t rfl) (sSms body c h.2)
    · cases h
  | .brk, st, X, W, c, h => by
    unfold mSm at h
    split at h
    · exact s_brk
    · cases h
  | .cnt, st, X, W, c, h => by
    unfold mSm at h
    split at h
    · exact s_cnt
    · cases h
  | .par i j es, st, X, W, c, h => by
    unfold mSm at h
    split at h
    · rename_i x px y py _ _ a b _ _ _
      simp only [Bool.and_eq_true, Bool.not_eq_true', decide_eq_true_eq] at h
      obtain ⟨⟨⟨⟨⟨⟨⟨⟨⟨⟨h1, h2⟩, h3⟩, h4⟩, h5⟩, h6⟩, h7⟩, h8⟩, h9⟩, h10⟩, h11⟩ := h
      have c1 := c.cok
      have hx : X.env.scope.names.lookup x = some .local := by rw [c1.sc]; exact h4
      have hy : X.env.scope.names.lookup y = some .local := by rw [c1.sc]; exact h5
      have hk : X.env.blockKind = .function := by
        unfold PySem.Env.blockKind
        have : X.env.scope.kind = .function := by rw [c1.sc]; exact c.kind
        rw [this]; rfl
      have hp : plainE a = true ∧ plainE b = true := by simpa using (mEs_len h11).2
      exact s_par c1.calm c1.nd (by rw [c1.N]; exact h1) (by rw [c1.N]; exact h2) h3 hx hy (sEs es c1 h11) (stores_two hx hy h6 h7 h8 hk hp.1 hp.2 h9 h10)
    · cases h
  | .pss, st, X, W, c, h => by
    unfold mSm at h
    split at h
    · exact s_pss
    · cases h
  | .rse e, st, X, W, c, h => by
    unfold mSm at h
    split at h
    · simp only [Bool.and_eq_true, Bool.not_eq_true', decide_eq_true_eq] at h
      obtain ⟨⟨⟨h1, h2⟩, h3⟩, h4⟩ := h
      exact s_rse c.cok.calm c.cok.takes (c.cok.ers e (by simpa using h1)) h2 (c.cok.gl h3) h4
    · cases h
  | .try1 body er i ts t1 t2, st, X, W, c, h => by
    unfold mSm at h
    split at h
    · simp only [Bool.and_eq_true, Bool.not_eq_true', decide_eq_true_eq] at h
      obtain ⟨⟨⟨⟨⟨⟨⟨⟨⟨⟨⟨⟨⟨⟨⟨⟨h1, h2⟩, h3⟩, h4⟩, h5⟩, h6⟩, h7⟩, h8⟩, h9⟩, h10⟩, h11⟩, h12⟩, h13⟩, h14⟩, h15⟩, h16⟩, h17⟩ := h
      obtain ⟨rfl, rfl, rfl, rfl, rfl, rfl, rfl⟩ := h16
      have k := c.cok
      obtain ⟨gi, mi⟩ := k.fr h11
      exact s_try1 c.stk c.frm k.nd (by rw [k.N]; exact h5) (by rw [k.sc]; exact h6) k.takes
        (fun W' pn xe tk pa => sSms body (X := X.tr pn xe) ⟨⟨k.sc, k.fb, k.N, k.calm, k.nd, k.room, k.fns, k.free, k.ers, k.eis, k.gls, tk, k.pw⟩, pa, c.kind, c.stk, c.frm⟩ h17)
        (k.eis _ h1) h2 (k.gl h3) h4 h7 h8 (by rw [k.sc]; exact h9) h10 gi mi h12 (k.gl h13) h14 (k.gl h15)
    · cases h
  | .try2 body er i w ts t1, st, X, W, c, h => by
    unfold mSm at h
    split at h
    · simp only [Bool.and_eq_true, Bool.not_eq_true', decide_eq_true_eq] at h
      obtain ⟨⟨⟨⟨⟨⟨⟨⟨⟨⟨⟨⟨⟨⟨⟨⟨⟨⟨⟨⟨h1, h2⟩, h3⟩, h4⟩, h5⟩, h6⟩, h7⟩, h8⟩, h9⟩, h10⟩, h11⟩, h12⟩, h13⟩, h14⟩, h15⟩, h16⟩, g1⟩, g2⟩, g3⟩, g4⟩, h17⟩ := h
      obtain ⟨rfl, rfl, rfl, rfl, rfl, rfl, rfl⟩ := h16
      obtain ⟨rfl, rfl, rfl, rfl, rfl⟩ := g4
      have k := c.cok
      obtain ⟨gi, mi⟩ := k.fr h11
      exact s_try2 c.stk c.frm k.nd (by rw [k.N]; exact h5) (by rw [k.sc]; exact h6) (by rw [k.N]; exact g1) (by rw [k.sc]; exact g2) g3 k.takes
        (fun W' pn xe tk pa => sSms body (X := X.tr pn xe) ⟨⟨k.sc, k.fb, k.N, k.calm, k.nd, k.room, k.fns, k.free, k.ers, k.eis, k.gls, tk, k.pw⟩, pa, c.kind, c.stk, c.frm⟩ h17)
        (k.eis _ h1) h2 (k.gl h3) h4 h7 h8 (by rw [k.sc]; exact h9) h10 gi mi h12 (k.gl h13) h14 (k.gl h15)
    · cases h
theorem sSms : (s : Sms) → ∀ {st : List Stmt} {X : Cx} {W : WX}, Sok X W C k sc → mSms C sc s st = true → PSs X st (tS X.K W (execs (callF C.P k) s))
  | .nil, st, X, W, c, h => by
    unfold mSms at h
    split at h
    · exact ss_nil
    · cases h
  | .cons s r, st, X, W, c, h => by
    unfold mSms at h
    split at h
    · simp only [Bool.or_eq_true, Bool.and_eq_true] at h
      rcases h with h | h
      · exact ss_cons (sSm s c h.1) (sSms r c h.2)
      · split at h
        · simp only [Bool.and_eq_true] at h
          exact sBl s c h.1 (sSms r c h.2)
        · cases h
    · cases h
end
end
/-! ### a def -/
section
variable {K : PySem.W.Frag} {Mm Mm1 : MM} {H H1 : Hp} {S S1 : Mem}
theorem fz_less {n : List Addr} : Sub (fz ⟨Mm.m ++ n, Mm.z⟩ H) (fz Mm H) := fun b u e => by
  obtain ⟨h1, h2⟩ := fz_some.mp e
  refine fz_some.mpr ⟨fun hm => h1 ?_, h2⟩
  show b ∈ (Mm.m ++ n) ++ Mm.z
  rcases List.mem_append.mp hm with hm | hm
  · exact List.mem_append_left _ (List.mem_append_left _ hm)
  · exact List.mem_append_right _ hm
/-- behind a def: its own lists stand still -/
theorem leave_ev (rs : RS K Mm H S) (ev : Ev Mm H Mm1 H1) (rs1 : RS K Mm1 H1 S1) : Ev Mm H Mm H1 ∧ RS K Mm H1 (S1.take S.length) := by
  obtain ⟨n, e⟩ := ev.more
  subst e
  refine ⟨⟨⟨[], by cases Mm; simp⟩, ev.hid, ev.sub.trans fz_less⟩, ?_, ?_, ?_, ?_⟩
  · exact rs.nd
  · have h1 := rs1.ln
    have h2 := rs.ln
    have h3 : (Mm.m ++ n).length = S1.length := h1
    rw [List.length_append] at h3
    rw [List.length_take]
    omega
  · exact fun a ha => rs1.zs a ha
  · intro i a o h1 h2
    rw [List.getElem?_take] at h2
    split at h2
    · rename_i hi
      have hai : (Mm.m ++ n)[i]? = some a := by
        rw [List.getElem?_append_left (by rw [rs.ln]; exact hi)]
        exact h1
      refine (rs1.ob i a o hai h2).mono rfl fz_less fun i' hi' j x hj hx => ?_
      have e9 : i' = i := nodup_at (List.nodup_append.mp rs1.nd).1 hi' hai
      have hx : (Mm.m ++ n)[j]? = some x := hx
      rwa [List.getElem?_append_left (by rw [rs.ln]; omega)] at hx
    · cases h2
theorem leave_lock {v : V} {i : Nat} {kvs : List (PyData × PyData)} (rs : RS K Mm H S) (ev : Ev Mm H Mm1 H1) (rs1 : RS K Mm1 H1 S1) (r : Rep K Mm1 H1 v (.rf i)) (hi : ¬ i < S.length) (hx : S1[i]? = some (.dct kvs)) :
    ∃ a vs, H1 a = some (.dK vs) ∧ ∀ o, Ev Mm H Mm (upd H1 a (.frz o (.dK vs))) ∧ RS K Mm (upd H1 a (.frz o (.dK vs))) (S1.take S.length) ∧ Rep K Mm (upd H1 a (.frz o (.dK vs))) v (.im (.dict kvs)) := by
  obtain ⟨a, vs, rfl, ha, h1, h2⟩ := rs1.dctAt r hx
  obtain ⟨l1, l2⟩ := leave_ev rs ev rs1
  obtain ⟨n, e⟩ := ev.more
  subst e
  have nd : ((Mm.m ++ n) ++ Mm.z).Nodup := rs1.nd
  obtain ⟨d1, d2, d3⟩ := List.nodup_append.mp nd
  have hmem : a ∈ Mm.m ++ n := List.mem_of_getElem? ha
  have nm : a ∉ Mm.m ++ Mm.z := fun hm => by
    rcases List.mem_append.mp hm with hm | hm
    · have d4 := (List.nodup_append.mp d1).2.2
      have ha' : (Mm.m ++ n)[i]? = some a := ha
      rw [List.getElem?_append_right (by rw [rs.ln]; omega)] at ha'
      exact d4 a hm a (List.mem_of_getElem? ha') rfl
    · exact d3 a hmem a hm rfl
  refine ⟨a, vs, h1, fun o => ?_⟩
  have sub2 : Sub (fz ⟨Mm.m ++ n, Mm.z⟩ H1) (fz Mm (upd H1 a (.frz o (.dK vs)))) := fun b u hb => by
    obtain ⟨g1, g2⟩ := fz_some.mp hb
    have hne : b ≠ a := fun e => by
      subst e
      have g3 := g1 (List.mem_append_left _ hmem)
      rw [h1] at g2
      cases g2
      cases g3
    refine fz_some.mpr ⟨fun hm => g1 ?_, by rw [upd_ne hne]; exact g2⟩
    rcases List.mem_append.mp hm with hm | hm
    · exact List.mem_append_left _ (List.mem_append_left _ hm)
    · exact List.mem_append_right _ hm
  refine ⟨⟨l1.more, fun b hb => ?_, ev.sub.trans sub2⟩, ⟨l2.nd, l2.ln, fun b hb => ?_, fun j b u hj hu => ?_⟩, ?_⟩
  · rw [upd_ne (fun e => nm (by rw [← e]; exact List.mem_append_right _ hb))]
    exact l1.hid b hb
  · rw [upd_ne (fun e => nm (by rw [← e]; exact List.mem_append_right _ hb))]
    exact l2.zs b hb
  · rw [List.getElem?_take] at hu
    split at hu
    · rename_i hjl
      have hne : b ≠ a := fun e => nm (by rw [← e]; exact List.mem_append_left _ (List.mem_of_getElem? hj))
      have hai : (Mm.m ++ n)[j]? = some b := by
        rw [List.getElem?_append_left (by rw [rs.ln]; exact hjl)]
        exact hj
      refine (rs1.ob j b u hai hu).mono (upd_ne hne) sub2 fun i' hi' j' x hj' hx => ?_
      have e9 : i' = j := nodup_at (List.nodup_append.mp rs1.nd).1 hi' hai
      have hx : (Mm.m ++ n)[j']? = some x := hx
      rwa [List.getElem?_append_left (by rw [rs.ln]; omega)] at hx
    · cases hu
  · exact Rp.dct (fz_some.mpr ⟨fun _ => rfl, upd_same⟩) (h2.mono sub2)
omit [PWd] in
theorem frz_dct {n : Nat} {S : Mem} {d d' : D} (h : frz n S d = some d') (hd : ¬ (∃ i kvs, d = .rf i ∧ ¬ i < n ∧ S[i]? = some (.dct kvs))) : (∃ i kvs, d = .rf i ∧ S[i]? = some (.fdct kvs) ∧ d' = .im (.dict kvs)) ∨ (match d with
    | .im p => some (D.im p)
    | .rf i => if i < n then some (.rf i) else (imOf S (.rf i)).map .im) = some d' := by
  cases d with
  | im p => exact .inr h
  | rf i =>
    unfold frz at h
    dsimp only at h ⊢
    by_cases hi : i < n
    · rw [if_pos hi] at h ⊢
      exact .inr h
    · rw [if_neg hi] at h ⊢
      split at h
      · rename_i p hp
        rw [hp]
        exact .inr h
      · rename_i hp
        rw [Option.map_eq_some_iff] at h
        obtain ⟨kvs, hk, hd'⟩ := h
        unfold dctOf at hk
        dsimp only at hk
        split at hk
        · rename_i kvs' hx
          exact absurd ⟨i, kvs', rfl, hi, hx⟩ hd
        · rename_i kvs' hx
          cases hk
          exact .inl ⟨i, kvs, rfl, hx, hd'.symm⟩
        · cases hk
theorem leave_rep {v : V} {d d' : D} (rs : RS K Mm H S) (ev : Ev Mm H Mm1 H1) (rs1 : RS K Mm1 H1 S1) (r : Rep K Mm1 H1 v d) (hf0 : frz S.length S1 d = some d') (hd : ¬ (∃ i kvs, d = .rf i ∧ ¬ i < S.length ∧ S1[i]? = some (.dct kvs))) : Rep K Mm H1 v d' := by
  have hf := frz_dct hf0 hd
  obtain ⟨n, e⟩ := ev.more
  subst e
  rcases hf with ⟨i, kvs, rfl, hx, rfl⟩ | hf
  · obtain ⟨a, rfl, ha⟩ := r
    obtain ⟨o, vs, h1, h2⟩ := rs1.ob i a _ ha hx
    exact Rp.dct (fz_some.mpr ⟨fun _ => rfl, h1⟩) (h2.mono fz_less)
  cases d with
  | im p =>
    cases hf
    exact Rp.mono fz_less r
  | rf i =>
    obtain ⟨a, rfl, ha⟩ := r
    have ha' : (Mm.m ++ n)[i]? = some a := ha
    dsimp only at hf
    split at hf
    · rename_i hi
      cases hf
      rw [List.getElem?_append_left (by rw [rs.ln]; exact hi)] at ha'
      exact ⟨a, rfl, ha'⟩
    · rename_i hi
      rw [Option.map_eq_some_iff] at hf
      obtain ⟨p, hp, rfl⟩ := hf
      unfold imOf at hp
      dsimp only at hp
      split at hp
      · rename_i xs hx
        cases hp
        obtain ⟨vs, h1, h2⟩ := rs1.ob i a _ ha hx
        refine Rp.lst (Or.inl (Or.inl ?_)) (h2.mono fz_less)
        refine fz_some.mpr ⟨fun hm => ?_, h1⟩
        exfalso
        have nd : ((Mm.m ++ n) ++ Mm.z).Nodup := rs1.nd
        obtain ⟨d1, d2, d3⟩ := List.nodup_append.mp nd
        have hmem : a ∈ Mm.m ++ n := List.mem_of_getElem? ha'
        rcases List.mem_append.mp hm with hm | hm
        · have d4 := (List.nodup_append.mp d1).2.2
          rw [List.getElem?_append_right (by rw [rs.ln]; omega)] at ha'
          exact d4 a hm a (List.mem_of_getElem? ha') rfl
        · exact d3 a hmem a hm rfl
      · rename_i xs hx
        cases hp
        obtain ⟨o, vs, h1, h2⟩ := rs1.ob i a _ ha hx
        exact Rp.lst (.inl (.inr ⟨o, fz_some.mpr ⟨fun _ => rfl, h1⟩⟩)) (h2.mono fz_less)
      · cases hp
theorem start_rel {ds : List D} {vs : List V} {N : List Str} (rs : RS K Mm H S) (ra : RepA K Mm H vs ds) (hl : vs.length ≤ N.length) : Rel K Mm H (L2.start N vs) (ds.map some ++ List.replicate (N.length - ds.length) none) S := by
  have e := ra.length
  refine ⟨rs, fun i d h => ?_, by unfold L2.start; simp [e]⟩
  unfold L2.start
  rw [← e] at h
  have key : ∀ {vs : List V} {ds : List D} {i : Nat} {r : List (Option D)} {r' : List (Option V)} (hr : ∀ (j : Nat) (d : D), r[j]? ≠ some (some d)), RepA K Mm H vs ds → (ds.map some ++ r)[i]? = some (some d) → ∃ v, (vs.map some ++ r')[i]? = some (some v) ∧ Rep K Mm H v d := by
    intro vs ds i r r' hr ra
    induction ra generalizing i with
    | nil => exact fun h => absurd h (hr i d)
    | cons h1 _ ih =>
      cases i with
      | zero => intro h; simp at h; subst h; exact ⟨_, by simp, h1⟩
      | succ i => intro h; simp at h ⊢; simpa using ih (i := i) (by simpa using h)
  refine key (fun j d hj => ?_) ra h
  rw [List.getElem?_replicate] at hj
  split at hj <;> cases hj
end
structure DefOk (P : List Fn) (fr : List Str) (ers : List String) (eis : List (String × List String × String)) (gls : List (Str × PyData)) (g : Fn) (d : He.DefD) : Prop where
  sc : FnScope g.N (g.N.take g.np) d.scope
  np : g.np ≤ g.N.length
  body : mSms ⟨g.N, P, fr, ers, eis, gls⟩ d.scope g.body d.body = true
  bind : ∀ (kV doc pm : Value) (an : Option Addr) (cdv ct : Value) (us : List Value), us.length = (g.N.take g.np).length → bindArgs (PySem.W.fnOf d.name d.qual d.params d.body d.scope .none kV doc pm an cdv ct) ⟨us, []⟩ = pure ((g.N.take g.np).zip us)
  at_ : d.at_ = (g.name, none)
  dfl : d.dfl = []
  kwd : d.kwd = []
  key : findF P g.key = some g
section
variable {P : List Fn} {fr : List Str} {ers : List String} {eis : List (String × List String × String)} {gls : List (Str × PyData)} {prog : Program} {w : World} {K : PySem.W.Frag} {mg : Str → Option Value} {base : Heap}
/-- all the defs, as they stand -/
def Stand (P : List Fn) (fr : List Str) (ers : List String) (eis : List (String × List String × String)) (gls : List (Str × PyData)) (K : PySem.W.Frag) (mg : Str → Option Value) : Prop :=
  ∀ g ∈ P, ∃ d f fd, DefOk P fr ers eis gls g d ∧ FunD K d.name d.qual d.params d.body d.scope [] [] f fd ∧ mg g.name = some (.ref f)
omit [PWd] in
/-- a def of the text, by its body (as the layer's rule for FnOk) -/
theorem fn_g {N ps : List Str} {k : Nat} {sp : Sp} {x qual : Str} {params : Arguments} {body : List Stmt} {scope : Scope} {f : Addr} {fd : FuncData} (F : FunD K x qual params body scope [] [] f fd) (S : FnScope N ps scope) (ln : ∀ vs H Q E, sp vs H Q E → vs.length = ps.length)
    (hb : ∀ (cdv : Value) (A : Around) (out : List PySem.Env) (t : Shared) (H : Hp) (vs : List V) (Q : VK) (E : XK), Rm k (A.deeper (envOfC qual scope t.heap.objs.size f cdv)) → sp vs H Q E →
      ∃ r, PSs (cxOf (L2.CX prog w) prog w K mg base N qual scope f cdv A out t H E) body r ∧ r { nx := fun _ G => Q .non G, rt := fun v G => Q v G ∨ ∃ d u, G d = some u ∧ Mut (some u) ∧ ∀ o, Q v (upd G d (.frz o u)) } (L2.start N vs) H) : FnG prog w K mg base (k + 1) f fd ps sp := by
  obtain ⟨oc, od, dV, kV, doc, pm, an, cdv, ct, osl, rfl, lk, hcd, _, _⟩ := F.ex
  refine ⟨ln, fun A out t H us vs Q E hr e0 bd r hsp => ?_⟩
  have inK : K.In t.heap := e0.mod.kin.keeps fun b o e => (e0.bs b o e).1
  have nl : t.heap.NoLimit := e0.mod.nolimit.keeps fun b o e => (e0.bs b o e).1
  have kinds : ∀ y ∈ ps.zip us, scope.names.lookup y.1 = some .local ∨ (scope.names.lookup y.1 = some .cell ∧ ((cellsFrom (t.heap.objs.size + 1) scope.names []).lookup y.1).isSome = true) := by
    rintro ⟨n, v⟩ hy
    exact (S.par n (List.of_mem_zip hy).1).imp id fun q => ⟨q, PySem.W.cellsFrom_some _ _ _ (.inl q)⟩
  refine codeAny_call_function hr.r.depth (inK _ _ lk) rfl S.co S.gen rfl (PySem.W.codeRec_of inK hcd) (bd _ _ _ _ ?_)
  refine wpAny_newFunctionEnv_cells S.kind kinds fun env he t1 x => ?_
  subst he
  obtain ⟨rd, hrd, hq⟩ := hb cdv A out t H vs Q E hr.deep hsp
  have I := inv_start (CX := L2.CX prog w) (E := E) S hr.r.hd e0 (ln _ _ _ _ hsp) r x
  refine ⟨nl.keeps x.toInCall.keep, codeAny_func (wpAny_mono (hrd.run [] t1 (L2.start N vs) H _ I hq) (fun fl t' hs => ?_) fun _ _ hs => hs)⟩
  match fl, hs with
  | .ret u, ⟨v, _, G, J, rv, q⟩ =>
    rcases q with q | ⟨d, o, h1, h2, q⟩
    · exact ⟨v, G, J.os, J.bare, J.base, J.hok, rv, q⟩
    · obtain ⟨od, J2⟩ := J.lock h1 h2
      exact ⟨v, _, J2.os, J2.bare, J2.base, J2.hok, rv, q od⟩
  | .next, ⟨_, G, J, q⟩ => exact ⟨.non, G, J.os, J.bare, J.base, J.hok, rfl, q⟩
  | .brk, ⟨_, _, _, q⟩ => exact q.elim
  | .cont, ⟨_, _, _, q⟩ => exact q.elim
theorem fn_step (hw : PWd.P = prog ∧ PWd.w = w) {g : Fn} {d : He.DefD} {f : Addr} {fd : FuncData} {k : Nat} (D0 : DefOk P fr ers eis gls g d) (F : FunD K d.name d.qual d.params d.body d.scope [] [] f fd) (hfr : ∀ x ∈ fr, mg x = none) (her : ∀ c ∈ ers, ErF K mg c) (hei : ∀ q ∈ eis, ErI K mg q.1 q.2.1 q.2.2) (hgl : ∀ q ∈ gls, GlF K mg q.1 q.2)
    (all : ∀ g ∈ P, ∃ f fd, mg g.name = some (.ref f) ∧ keepIn K (.ref f) = true ∧ Binds K fd (g.N.take g.np) [] ∧ FnG prog w K mg base k f fd (g.N.take g.np) (spF K P k g.key)) :
    FnG prog w K mg base (k + 1) f fd (g.N.take g.np) (spF K P (k + 1) g.key) := by
  have hpl : (g.N.take g.np).length = g.np := by rw [List.length_take]; have := D0.np; omega
  have hcall : ∀ ds S, callF P (k + 1) g.key ds S = fnS (callF P k) g ds S := fun ds S => by
    rw [callF, D0.key]
  have hds : ∀ {Mm : MM} {H : Hp} {S : Mem} {ds : List D} {Q : VK} {E : XK}, Post K (Rep K) E Mm H Q (callF P (k + 1) g.key ds S) → ds.length = g.np := fun {Mm H S ds Q E} po => by
    rw [hcall] at po
    unfold fnS at po
    split at po
    · assumption
    · exact po.elim
  refine fn_g F D0.sc (fun vs H Q E h => ?_) fun cdv A outer s H vs Q E hr hsp => ?_
  · obtain ⟨Mm, S, ds, rs, ra, po⟩ := h
    rw [ra.length, hds po, hpl]
  · obtain ⟨Mm, S, ds, rs, ra, po⟩ := hsp
    have hn := hds po
    refine ⟨tS K (fun cls d _ H => E cls d H) (execs (callF P k) g.body), ?_, ?_⟩
    · refine sSms (C := ⟨g.N, P, fr, ers, eis, gls⟩) (sc := d.scope) g.body (X := cxOf (CX prog w) prog w K mg base g.N d.qual d.scope f cdv A outer s H E) ⟨⟨rfl, rfl, rfl, rfl, D0.sc.nd, hr, all, hfr, her, hei, hgl, takes_of rfl rfl rfl rfl, hw⟩, passes_of rfl, D0.sc.kind, rfl, rfl⟩ D0.body
    · refine ⟨Mm, ds.map some ++ List.replicate (g.N.length - ds.length) none, S, start_rel rs ra (by rw [ra.length, hn]; exact D0.np), ?_⟩
      rw [hcall] at po
      unfold fnS at po
      rw [if_pos hn] at po
      rw [hn]
      revert po
      cases e : execs (callF P k) g.body (ds.map some ++ List.replicate (g.N.length - g.np) none) S with
      | nx env' S' => exact fun po Mm' H' σ' ev rel => po.use' (leave_ev rs ev rel.rs).1 (leave_ev rs ev rel.rs).2 Rp.non
      | bk env' S' => exact fun po => po.elim
      | ct env' S' => exact fun po => po.elim
      | rt dd S' =>
        dsimp only
        cases hf : frz S.length S' dd with
        | none => exact fun po => po.elim
        | some d' =>
          refine fun po Mm' H' v ev rs' rv => ?_
          by_cases hd : ∃ i kvs, dd = .rf i ∧ ¬ i < S.length ∧ S'[i]? = some (.dct kvs)
          · obtain ⟨i, kvs, rfl, hi, hx⟩ := hd
            obtain ⟨a, vs, h1, h2⟩ := leave_lock rs ev rs' rv hi hx
            have ed : d' = .im (.dict kvs) := by
              unfold frz at hf
              dsimp only at hf
              rw [if_neg hi] at hf
              have e1 : imOf S' (.rf i) = none := by unfold imOf; simp only [hx]
              have e2 : dctOf S' (.rf i) = some kvs := by unfold dctOf; simp only [hx]
              rw [e1, e2] at hf
              exact (Option.some.inj hf).symm
            subst ed
            exact .inr ⟨a, .dK vs, h1, True.intro, fun o => po.use' (h2 o).1 (h2 o).2.1 (h2 o).2.2⟩
          · exact .inl (po.use' (leave_ev rs ev rs').1 (leave_ev rs ev rs').2 (leave_rep rs ev rs' rv hf hd))
      | er c env' S' => exact fun po Mm' H' σ' cls ev rel ei => po Mm H' cls (leave_ev rs ev rel.rs).1 (leave_ev rs ev rel.rs).2 ei
      | bad => exact fun po => po.elim
theorem fn_all (hw : PWd.P = prog ∧ PWd.w = w) (st : Stand P fr ers eis gls K mg) (hfr : ∀ x ∈ fr, mg x = none) (her : ∀ c ∈ ers, ErF K mg c) (hei : ∀ q ∈ eis, ErI K mg q.1 q.2.1 q.2.2) (hgl : ∀ q ∈ gls, GlF K mg q.1 q.2) : ∀ (k : Nat), ∀ g ∈ P, ∃ f fd, mg g.name = some (.ref f) ∧ keepIn K (.ref f) = true ∧ Binds K fd (g.N.take g.np) [] ∧ FnG prog w K mg base k f fd (g.N.take g.np) (spF K P k g.key)
  | 0, g, hg => by
    obtain ⟨d, f, fd, D0, F, hm⟩ := st g hg
    refine ⟨f, fd, hm, F.kp, F.bindsN D0.bind, ⟨fun vs H Q E h => ?_, fun A outer s H us vs Q E _ _ _ _ h => ?_⟩⟩
    · obtain ⟨Mm, S, ds, rs, ra, po⟩ := h
      exact po.elim
    · obtain ⟨Mm, S, ds, rs, ra, po⟩ := h
      exact po.elim
  | k + 1, g, hg => by
    obtain ⟨d, f, fd, D0, F, hm⟩ := st g hg
    exact ⟨f, fd, hm, F.kp, F.bindsN D0.bind, fn_step hw D0 F hfr her hei hgl (fn_all hw st hfr her hei hgl k)⟩
end
end DL
end

section
set_option maxRecDepth 100000
/-! DL16: a law's end. Ours. -/
namespace DL
open PySem PySem.Spec PyProof.Rows L2 PySem.W
inductive All2 {α β : Type} (R : α → β → Prop) : List α → List β → Prop
  | nil : All2 R [] []
  | cons {a : α} {b : β} {as : List α} {bs : List β} : R a b → All2 R as bs → All2 R (a :: as) (b :: bs)
theorem All2.get {α β : Type} {R : α → β → Prop} {as : List α} {bs : List β} (h : All2 R as bs) : ∀ {i : Nat} {a : α}, as[i]? = some a → ∃ b, bs[i]? = some b ∧ R a b := by
  induction h with
  | nil => intro i a e; simp at e
  | cons r _ ih =>
    intro i a e
    cases i with
    | zero => simp at e; subst e; exact ⟨_, rfl, r⟩
    | succ i => simpa using ih (i := i) (by simpa using e)
theorem erB_ok {K : PySem.W.Frag} {h : Heap} {mg : Str → Option Value} (X : K.In h) (G : h.Ns mainGlobals mg) {c : String} (e : erB K c = true) : ErF K mg c := by
  unfold erB at e
  rw [Bool.and_eq_true] at e
  obtain ⟨a, b, d, f⟩ := He.exc_ok e.2
  exact ⟨He.glo_ok X G e.1, a, b, d, f⟩
theorem eiB_ok {K : PySem.W.Frag} {h : Heap} {mg : Str → Option Value} (X : K.In h) (G : h.Ns mainGlobals mg) {q : String × List String × String} (e : eiB K q = true) : ErI K mg q.1 q.2.1 q.2.2 := by
  unfold eiB at e
  simp only [Bool.and_eq_true, decide_eq_true_eq, List.all_eq_true] at e
  obtain ⟨⟨⟨⟨⟨⟨⟨⟨e1, e2⟩, e3⟩, e4⟩, e5⟩, e6⟩, e7⟩, e8⟩, f1, f2, f3, f4, f5, f6, f7, f8⟩ := e
  exact ⟨erB_ok X G e1, He.exm_ok e2, ⟨f1, f2, f3, f4, f5, f6, f7, f8⟩, fun t ht => He.glo_ok X G (e3 t ht), e6, He.glo_ok X G e4, e7, He.free_ok X G e5, e8⟩
theorem SaysX.d {fa : List He.Fa} {ers : List String} {eis : List (String × List String × String)} {gls : List (Str × PyData)} {fn : List He.DefD} {K : PySem.W.Frag} (c : SaysX fa ers eis gls fn K) : He.SaysD fa fn K ∧ (∀ e ∈ ers, erB K e = true) ∧ (∀ q ∈ eis, eiB K q = true) ∧ ∀ q ∈ gls, gvB K q = true := by
  have c0 : obsX fa ers eis gls fn K = He.valD fn := c
  have c1 : (obsX fa ers eis gls fn K).1 = true := by rw [c0]; rfl
  have c2 : (obsX fa ers eis gls fn K).2 = (He.valD fn).2 := by rw [c0]
  have c1 : ((He.obsD fa fn K).1 && (ers.all (erB K) && eis.all (eiB K) && gls.all (gvB K))) = true := c1
  simp only [Bool.and_eq_true, List.all_eq_true] at c1
  refine ⟨?_, c1.2.1.1, c1.2.1.2, c1.2.2⟩
  show He.obsD fa fn K = He.valD fn
  exact Prod.ext c1.1 c2
theorem mem_at {α : Type} {l : List α} {a : α} (h : a ∈ l) : ∃ i : Nat, l[i]? = some a := List.mem_iff_getElem?.mp h
section
variable {P : List Fn} {fr : List Str} {ers : List String} {eis : List (String × List String × String)} {gls : List (Str × PyData)} {fn : List He.DefD} {K : PySem.W.Frag} {mg : Str → Option Value} {h : Heap}
theorem fa_glo (X : K.In h) (G : h.Ns mainGlobals mg) (c : He.SaysD (faOf P fr) fn K) {g : Fn} (hg : g ∈ P) : mg g.name = some (.ref (He.ga K g.name)) := by
  have hm : He.Fa.glo g.name ∈ faOf P fr := List.mem_append_left _ (List.mem_map.mpr ⟨g, hg, rfl⟩)
  obtain ⟨i, hi⟩ := mem_at hm
  exact He.glo_ok X G (c.fact i hi)
theorem fa_free (X : K.In h) (G : h.Ns mainGlobals mg) (c : He.SaysD (faOf P fr) fn K) {x : Str} (hx : x ∈ fr) : mg x = none := by
  have hm : He.Fa.free x ∈ faOf P fr := List.mem_append_right _ (List.mem_map.mpr ⟨x, hx, rfl⟩)
  obtain ⟨i, hi⟩ := mem_at hm
  exact He.free_ok X G (c.fact i hi)
theorem fa_def (c : He.SaysD (faOf P fr) fn K) (oks : All2 (DefOk P fr ers eis gls) P fn) {g : Fn} (hg : g ∈ P) : ∃ d fd, DefOk P fr ers eis gls g d ∧ FunD K d.name d.qual d.params d.body d.scope [] [] (He.ga K g.name) fd := by
  obtain ⟨i, hi⟩ := mem_at hg
  obtain ⟨d, hd, D0⟩ := oks.get hi
  obtain ⟨fd, F⟩ := c.def_ i hd
  refine ⟨d, fd, D0, ?_⟩
  have e1 : d.dvs K = [] := by unfold He.DefD.dvs; rw [D0.dfl]; rfl
  have e2 : d.kws K = [] := by unfold He.DefD.kws; rw [D0.kwd]; rfl
  have e3 : He.fAd K d.at_ = He.ga K g.name := by rw [D0.at_]; rfl
  rw [e1, e2, e3] at F
  exact F
theorem stand_of (X : K.In h) (G : h.Ns mainGlobals mg) (c : He.SaysD (faOf P fr) fn K) (oks : All2 (DefOk P fr ers eis gls) P fn) : Stand P fr ers eis gls K mg := fun g hg => by
  obtain ⟨d, fd, D0, F⟩ := fa_def c oks hg
  exact ⟨d, _, fd, D0, F, fa_glo X G c hg⟩
theorem sp_law [PWd] {k : Nat} {H : Hp} {a : Addr} {ns : List Int} (hS : SqL K H a (ns.map V.int)) (hok : ∃ S', callF P k "law" [.im (.list (ns.map PyData.int))] [] = .ok (.im (.bool true)) S') :
    spF K P k "law" [.ref a] H (fun v _ => v = .bl true) fun _ _ _ => False := by
  obtain ⟨S', e⟩ := hok
  have ef : fz ⟨[], []⟩ H = H := by
    funext b
    unfold fz
    simp
  have ra : ∀ xs : List Int, RpA K H (xs.map V.int) (xs.map PyData.int) := by
    intro xs
    induction xs with
    | nil => exact .nil
    | cons x r ih => exact .cons (.int x) ih
  refine ⟨⟨[], []⟩, [], [.im (.list (ns.map PyData.int))], ⟨List.nodup_nil, rfl, (fun a ha => by cases ha), (fun i a o h1 h2 => by simp at h1)⟩, .cons ?_ .nil, ?_⟩
  · show Rp K (fz ⟨[], []⟩ H) (.ref a) (.list (ns.map PyData.int))
    rw [ef]
    exact .lst hS (ra ns)
  · rw [e]
    intro Mm' H' b ev rs r
    cases r
    rfl
/-- the facts of a law -/
theorem law_facts {prog : Program} {w : World} {lw : Fn} {k n : Nat} {f : Addr} {x : Str} (X : K.In h) (G : h.Ns mainGlobals mg) (c0 : SaysX (faOf P fr) ers eis gls fn K) (oks : All2 (DefOk P fr ers eis gls) P fn) (hl : lw ∈ P) (hname : lw.name = ("law" : Str)) (hkey : lw.key = "law") (hps : lw.N.take lw.np = [x]) (hfa : mg ("law" : Str) = some (.ref f))
    (hok : ∀ ns : List Int, ns.length ≤ n → ∃ S', callF P k "law" [.im (.list (ns.map PyData.int))] [] = .ok (.im (.bool true)) S') :
    ∃ (K : PySem.W.Frag) (fd : FuncData) (sp : Sp), K.In h ∧ (∀ (s : Shared) (u : Value), BindsTo s fd ⟨[u], []⟩ [(x, u)]) ∧
        (∀ (H : Hp) (a : Addr) (ns : List Int), ns.length ≤ n → Only H → SqL K H a (ns.map V.int) → sp [.ref a] H (fun v _ => v = .bl true) fun _ _ _ => False) ∧
        ∀ base : Heap, K.In base → base.Ns mainGlobals mg → FnG prog w K mg base k f fd [x] sp := by
  letI : PWd := ⟨prog, w⟩
  obtain ⟨c, cr, ci, cg⟩ := c0.d
  have her : ∀ e ∈ ers, ErF K mg e := fun e he => erB_ok X G (cr e he)
  have hei : ∀ q ∈ eis, ErI K mg q.1 q.2.1 q.2.2 := fun q hq => eiB_ok X G (ci q hq)
  have hgl : ∀ q ∈ gls, GlF K mg q.1 q.2 := fun q hq => gvB_ok X G (cg q hq)
  obtain ⟨d, fd, D0, F⟩ := fa_def c oks hl
  have e := hfa.symm.trans (hname ▸ fa_glo X G c hl)
  have e2 : f = He.ga K lw.name := by rw [hname] ; simpa using e
  subst e2
  refine ⟨K, fd, spF K P k "law", X, fun s u => ?_, fun H a ns hn _ hS => sp_law hS (hok ns hn), fun base hK hG => ?_⟩
  · have b := F.bindsA (ps := lw.N.take lw.np) D0.bind s [u] (by rw [hps]; rfl)
    rw [hps] at b
    exact b
  · obtain ⟨d', f', fd', D0', F', hm'⟩ := stand_of X G c oks lw hl
    cases k with
    | zero =>
      obtain ⟨S', e⟩ := hok [] (Nat.zero_le _)
      cases e
    | succ k =>
      have r := fn_step (prog := prog) (w := w) (base := base) (k := k) ⟨rfl, rfl⟩ D0 F (fun x hx => fa_free X G c hx) her hei hgl (fn_all ⟨rfl, rfl⟩ (stand_of X G c oks) (fun x hx => fa_free X G c hx) her hei hgl k)
      rw [hps, hkey] at r
      exact r
theorem cx_top {prog : Program} {w : World} (H : Hp) (s : Shared) (e : Value) (s' : Shared) : CX prog w [] H s (fun _ _ _ => False) e s' → False := by
  rintro ⟨_, _, _, _, _, _, _, _, _, _, _, _, h⟩
  exact h
/-- the law's call, its own promise at hand -/
theorem law_go {prog : Program} {w : World} {mb : Str → Option Value} {k : Nat} {fa a : Addr} {fd : FuncData} {x : Str} {sp : Sp} {t : Shared} {us : List Value} {zs : List Int}
    (inK : K.In t.heap) (nsG : t.heap.Ns mainGlobals mg) (nsB : t.heap.Ns builtinsNs mb) (bB : ∀ x : Str, x ≠ "__name__" → mb x = bootBuiltins x) (nl : t.heap.NoLimit) (gn : t.gens = #[])
    (oa : t.heap.get? a = some { cls := .type "list", data := .seq us.toArray }) (iz : IntsAre us zs) (lz : zs.length ≤ sizeLine) (hr : Rm k callerA)
    (F : ∀ base : Heap, K.In base → base.Ns mainGlobals mg → FnG prog w K mg base k fa fd [x] sp) (bd : ∀ (s : Shared) (u : Value), BindsTo s fd ⟨[u], []⟩ [(x, u)])
    (hsp : ∀ G : Hp, Only G → SqL K G a (zs.map V.int) → sp [.ref a] G (fun v _ => v = .bl true) fun _ _ _ => False) :
    codeAny (model prog w) callerA (.call (.ref fa) ⟨[.ref a], []⟩) (fun r t' => r = .ok (.ret (.bool true)) ∧ OldK t.heap t'.heap ∧ t'.os = t.os ∧ AllBare t'.gens) t := by
  have vz := vals_ints iz
  have lu := iz.length
  -- G: nothing is tracked but, perhaps, the script
  have main : ∀ G : Hp, Only G → SqL K G a (zs.map V.int) → HOk prog w G t.heap → (∀ b, G b ≠ none → b = a ∧ K.lookup a = none) →
      codeAny (model prog w) callerA (.call (.ref fa) ⟨[.ref a], []⟩) (fun r t' => r = .ok (.ret (.bool true)) ∧ OldK t.heap t'.heap ∧ t'.os = t.os ∧ AllBare t'.gens) t := by
    intro G only sq ok tr
    have free : ∀ b, b ≠ a → G b = none := fun b hb => Classical.byContradiction fun z => hb (tr b z).1
    have dict : ∀ {b : Addr} {o : Obj} {es : Array DictEntry} {ep : Nat}, t.heap.get? b = some o → o.data = .dict es ep → G b = none := fun {b o es ep} e d => free b fun z => by
      subst z
      rw [oa] at e
      cases e
      cases d
    have nsH : ∀ {b : Addr} {m : Str → Option Value}, t.heap.Ns b m → (hidT t.heap G).Ns b m := fun {b m} ⟨o, es, ep, e, d, r⟩ => ⟨o, es, ep, hidT_get e (dict e d), d, r⟩
    have inH : K.In (hidT t.heap G) := fun b o e => hidT_get (inK b o e) (Classical.byContradiction fun z => by
      obtain ⟨z1, z2⟩ := tr b z
      subst z1
      rw [z2] at e
      cases e)
    obtain ⟨mc, n1, n2⟩ := nl
    have e0 : Env0 prog w K mg (hidT t.heap G) callerA [] t G := ⟨rfl, ⟨inH, nsH nsG, ⟨mb, nsH nsB, bB⟩, mc, nsH n1, n2⟩, fun b o e => of_hidT e, Nat.le_of_eq (hidT_size _ _), trivial, (fun b hb => by cases hb), ok, .of_eq gn⟩
    refine codeAny_mono ((F _ inH (nsH nsG)).go callerA [] t G [.ref a] [.ref a] _ _ hr e0 (bd t (.ref a)) (.cons rfl .nil) (hsp G only sq)) fun r t' h => ?_
    match r, h with
    | .error e, h => exact (cx_top G t e t' h).elim
    | .ok .next, h => exact h.elim
    | .ok .brk, h => exact h.elim
    | .ok .cont, h => exact h.elim
    | .ok (.ret u), ⟨v, G', os, bare, un, ok', ru, (hv : v = .bl true)⟩ =>
      subst hv
      have eu : u = Value.bool true := ru
      subst eu
      refine ⟨rfl, OldK.of_keep fun b o e => ?_, os, bare⟩
      rcases only b with z | ⟨ob, xs, z⟩
      · exact un.keep b o e z (by intro q; exact nomatch (show b ∈ ([] : List Addr) from q)) (by simp)
      · have e1 := (ok b _ z).1
        have e2 := (ok' b _ (un.frzs b ob _ z)).1
        rw [e] at e1
        cases e1
        exact e2
  by_cases own : K.lookup a = none
  · refine main (fun b => if b = a then some (.frz { cls := .type "list", data := .seq us.toArray } (.lst (zs.map V.int))) else none) (fun b => ?_) (.inl (.inr ⟨_, if_pos rfl⟩)) (fun b u z => ?_) fun b z => ?_
    · by_cases c : b = a
      · exact .inr ⟨_, _, if_pos c⟩
      · exact .inl (if_neg c)
    · dsimp only at z
      by_cases c : b = a
      · subst c
        rw [if_pos rfl] at z
        cases z
        exact ⟨oa, by rw [List.length_map]; exact lz, us, _, vz, oa⟩
      · rw [if_neg c] at z
        cases z
    · exact ⟨Classical.byContradiction fun c => z (if_neg c), own⟩
  · obtain ⟨o, e⟩ := Option.ne_none_iff_exists'.mp own
    have e1 := inK a o e
    rw [oa] at e1
    cases e1
    exact main (fun _ => none) (fun _ => .inl rfl) (.inr ⟨_, us.toArray, _, e, rfl, rfl, rfl, by rw [List.size_toArray, lu]; exact lz, by simpa using vz⟩) (fun _ _ z => nomatch z) fun _ z => absurd rfl z
/-- the walk's end (as L2.walk_ofE, the promise on exceptions by the world) -/
theorem walk_D {l : PySem.W.OpenLaw} {n k : Nat} {q : Program} {loose : List Str} {XP : (Str → Option Value) → Heap → Prop} {YP : World → Heap → Prop} {d : DefRec} {x : Str}
    (hn : l.most = some n) (hn2 : n ≤ sizeLine) (hdf : d.params.defaults = []) (hr : Rm k callerA)
    (F : ∀ (w : World) (mg : Str → Option Value) (fa : Addr) (h : Heap), YP w h → h.Ns mainGlobals mg → mg d.name = some (.ref fa) →
      ∃ (K : PySem.W.Frag) (fd : FuncData) (sp : Sp), K.In h ∧ (∀ (s : Shared) (u : Value), BindsTo s fd ⟨[u], []⟩ [(x, u)]) ∧
        (∀ (H : Hp) (a : Addr) (ns : List Int), ns.length ≤ n → Only H → SqL K H a (ns.map V.int) → sp [.ref a] H (fun v _ => v = .bl true) fun _ _ _ => False) ∧
        ∀ base : Heap, K.In base → base.Ns mainGlobals mg → FnG l.prog w K mg base k fa fd [x] sp) :
    PySem.W.WalkO q loose XP YP l.row.toRowW d [] (fun f vs => PySem.call f vs) := by
  refine Att.attach_call hn hdf fun w s₀ s₁ mg mb fa o pm cd doc a vs ns G Y ho hd hcd hmg hobj hints hlen hg => ?_
  obtain ⟨K, fd, sp, KX, hb, hsp, hF⟩ := F w mg fa _ Y G.T.g hmg
  exact law_go KX G.T.g G.T.b G.T.builtins G.T.nolimit hg hobj hints (Nat.le_trans hlen hn2) hr hF hb (fun H hO hS => hsp H a ns hlen hO hS)
end
end DL
end

section
set_option maxRecDepth 100000
/-! T_k74: the text as trees. Ours (printed by gen.py). -/
namespace DL.k74
open PySem PySem.Spec PyProof.Rows L2 PySem.W DL
set_option maxHeartbeats 4000000
theorem ok0 : DefOk P fr ers eis gls g0 d0 := ⟨⟨rfl, rfl, rfl, by decide +kernel, rfl, by decide +kernel, by decide +kernel⟩, by decide, by decide +kernel, fun _ _ _ _ _ _ us hl => match us, hl with | [_], _ => rfl, rfl, rfl, rfl, rfl⟩
theorem ok1 : DefOk P fr ers eis gls g1 d1 := ⟨⟨rfl, rfl, rfl, by decide +kernel, rfl, by decide +kernel, by decide +kernel⟩, by decide, by decide +kernel, fun _ _ _ _ _ _ us hl => match us, hl with | [_, _], _ => rfl, rfl, rfl, rfl, rfl⟩
theorem ok2 : DefOk P fr ers eis gls g2 d2 := ⟨⟨rfl, rfl, rfl, by decide +kernel, rfl, by decide +kernel, by decide +kernel⟩, by decide, by decide +kernel, fun _ _ _ _ _ _ us hl => match us, hl with | [_, _], _ => rfl, rfl, rfl, rfl, rfl⟩
theorem ok3 : DefOk P fr ers eis gls g3 d3 := ⟨⟨rfl, rfl, rfl, by decide +kernel, rfl, by decide +kernel, by decide +kernel⟩, by decide, by decide +kernel, fun _ _ _ _ _ _ us hl => match us, hl with | [_, _, _, _], _ => rfl, rfl, rfl, rfl, rfl⟩
theorem ok4 : DefOk P fr ers eis gls g4 d4 := ⟨⟨rfl, rfl, rfl, by decide +kernel, rfl, by decide +kernel, by decide +kernel⟩, by decide, by decide +kernel, fun _ _ _ _ _ _ us hl => match us, hl with | [_, _, _], _ => rfl, rfl, rfl, rfl, rfl⟩
theorem ok5 : DefOk P fr ers eis gls g5 d5 := ⟨⟨rfl, rfl, rfl, by decide +kernel, rfl, by decide +kernel, by decide +kernel⟩, by decide, by decide +kernel, fun _ _ _ _ _ _ us hl => match us, hl with | [_, _, _], _ => rfl, rfl, rfl, rfl, rfl⟩
theorem ok6 : DefOk P fr ers eis gls g6 d6 := ⟨⟨rfl, rfl, rfl, by decide +kernel, rfl, by decide +kernel, by decide +kernel⟩, by decide, by decide +kernel, fun _ _ _ _ _ _ us hl => match us, hl with | [_, _, _], _ => rfl, rfl, rfl, rfl, rfl⟩
theorem ok7 : DefOk P fr ers eis gls g7 d7 := ⟨⟨rfl, rfl, rfl, by decide +kernel, rfl, by decide +kernel, by decide +kernel⟩, by decide, by decide +kernel, fun _ _ _ _ _ _ us hl => match us, hl with | [_, _, _, _], _ => rfl, rfl, rfl, rfl, rfl⟩
theorem ok8 : DefOk P fr ers eis gls g8 d8 := ⟨⟨rfl, rfl, rfl, by decide +kernel, rfl, by decide +kernel, by decide +kernel⟩, by decide, by decide +kernel, fun _ _ _ _ _ _ us hl => match us, hl with | [_, _, _, _], _ => rfl, rfl, rfl, rfl, rfl⟩
theorem ok9 : DefOk P fr ers eis gls g9 d9 := ⟨⟨rfl, rfl, rfl, by decide +kernel, rfl, by decide +kernel, by decide +kernel⟩, by decide, by decide +kernel, fun _ _ _ _ _ _ us hl => match us, hl with | [_, _, _], _ => rfl, rfl, rfl, rfl, rfl⟩
theorem ok10 : DefOk P fr ers eis gls g10 d10 := ⟨⟨rfl, rfl, rfl, by decide +kernel, rfl, by decide +kernel, by decide +kernel⟩, by decide, by decide +kernel, fun _ _ _ _ _ _ us hl => match us, hl with | [_, _], _ => rfl, rfl, rfl, rfl, rfl⟩
theorem ok11 : DefOk P fr ers eis gls g11 d11 := ⟨⟨rfl, rfl, rfl, by decide +kernel, rfl, by decide +kernel, by decide +kernel⟩, by decide, by decide +kernel, fun _ _ _ _ _ _ us hl => match us, hl with | [_, _], _ => rfl, rfl, rfl, rfl, rfl⟩
theorem ok12 : DefOk P fr ers eis gls g12 d12 := ⟨⟨rfl, rfl, rfl, by decide +kernel, rfl, by decide +kernel, by decide +kernel⟩, by decide, by decide +kernel, fun _ _ _ _ _ _ us hl => match us, hl with | [_, _], _ => rfl, rfl, rfl, rfl, rfl⟩
theorem ok13 : DefOk P fr ers eis gls g13 d13 := ⟨⟨rfl, rfl, rfl, by decide +kernel, rfl, by decide +kernel, by decide +kernel⟩, by decide, by decide +kernel, fun _ _ _ _ _ _ us hl => match us, hl with | [_, _, _], _ => rfl, rfl, rfl, rfl, rfl⟩
theorem ok14 : DefOk P fr ers eis gls g14 d14 := ⟨⟨rfl, rfl, rfl, by decide +kernel, rfl, by decide +kernel, by decide +kernel⟩, by decide, by decide +kernel, fun _ _ _ _ _ _ us hl => match us, hl with | [_, _, _], _ => rfl, rfl, rfl, rfl, rfl⟩
theorem ok15 : DefOk P fr ers eis gls g15 d15 := ⟨⟨rfl, rfl, rfl, by decide +kernel, rfl, by decide +kernel, by decide +kernel⟩, by decide, by decide +kernel, fun _ _ _ _ _ _ us hl => match us, hl with | [_, _], _ => rfl, rfl, rfl, rfl, rfl⟩
theorem ok16 : DefOk P fr ers eis gls g16 d16 := ⟨⟨rfl, rfl, rfl, by decide +kernel, rfl, by decide +kernel, by decide +kernel⟩, by decide, by decide +kernel, fun _ _ _ _ _ _ us hl => match us, hl with | [_, _, _, _], _ => rfl, rfl, rfl, rfl, rfl⟩
theorem ok17 : DefOk P fr ers eis gls g17 d17 := ⟨⟨rfl, rfl, rfl, by decide +kernel, rfl, by decide +kernel, by decide +kernel⟩, by decide, by decide +kernel, fun _ _ _ _ _ _ us hl => match us, hl with | [_], _ => rfl, rfl, rfl, rfl, rfl⟩
theorem oks : All2 (DefOk P fr ers eis gls) P fn := .cons ok0 (.cons ok1 (.cons ok2 (.cons ok3 (.cons ok4 (.cons ok5 (.cons ok6 (.cons ok7 (.cons ok8 (.cons ok9 (.cons ok10 (.cons ok11 (.cons ok12 (.cons ok13 (.cons ok14 (.cons ok15 (.cons ok16 (.cons ok17 (.nil))))))))))))))))))
end DL.k74
end

section
set_option maxRecDepth 100000
set_option maxHeartbeats 0
/-! H_k74: the head. Ours. -/
namespace DL.k74
open PySem PySem.Spec PyProof.Rows L2 PySem.W DL
theorem holds_of (hok : ∀ ns : List Int, ns.length ≤ 63 → ∃ S', callF P 14 "law" [.im (.list (ns.map PyData.int))] [] = .ok (.im (.bool true)) S') : RwL.Holds := by
  w_on; o_law
  refine HandSHeadRun.head_any (r := OpenLaw.row RwL) (q := view (OpenLaw.row RwL).prog [21]) (H := hk) (ob := ob) (M := 3000) (loose := (("is_number" : Str) :: ("wished_by" : Str) :: ("throne_of" : Str) :: ("would_take" : Str) :: ("would_give" : Str) :: ("is_right" : Str) :: ("at_rest" : Str) :: ("next_throne" : Str) :: ("answer_of" : Str) :: ("by_thrones" : Str) :: ("next_asker" : Str) :: ("by_folk" : Str) :: ("_law_take" : Str) :: ("_law_drawn_order" : Str) :: ("_law_thrones" : Str) :: ("_law_walked" : Str) :: ("_law_no_better" : Str) :: ([] : List Str))) (d := HandSHeadRun.topDef (OpenLaw.row RwL).prog 21) (kwd := []) ob_eq
    (by kernel_rfl) (fun s => by kernel_rfl) run (by kernel_rfl) (by kernel_rfl) (by kernel_rfl) (by rfl) (by first | assumption | decide +kernel) (by decide +kernel) ⟨rfl, rfl, rfl, rfl, rfl, by decide +kernel⟩ ?hw ?hc
  case hw => w_witness2
  case hc =>
    refine walk_D (l := RwL) (n := 63) (k := 14) (x := "_law_script") rfl (by decide) (by kernel_rfl) ⟨⟨rfl, by decide, by decide⟩, rfl⟩ ?F
    case F =>
      intro w mg fa h Y G hmg0
      obtain ⟨K, KX, c⟩ := Y
      have hmg : mg ("law" : PySem.Str) = some (.ref fa) := by
        have e : (HandSHeadRun.topDef (OpenLaw.row RwL).prog 21).name = ("law" : PySem.Str) := by kernel_rfl
        rw [← e]
        exact hmg0
      exact law_facts (lw := g17) KX G c oks (by simp [P]) rfl rfl rfl hmg hok
end DL.k74
end

section
set_option maxRecDepth 100000
/-! DL17: plain facts; loops; the draws. Ours. -/
namespace DL
open PySem PySem.Spec PyProof.Rows
/-! ### data -/
def iL (xs : List Int) : List PyData := xs.map PyData.int
@[simp] theorem iL_len (xs : List Int) : (iL xs).length = xs.length := List.length_map _
@[simp] theorem iL_get? (xs : List Int) (n : Nat) : (iL xs)[n]? = (xs[n]?).map PyData.int := List.getElem?_map
@[simp] theorem iL_get (xs : List Int) (n : Nat) (h : n < (iL xs).length) : (iL xs)[n] = .int (xs[n]'(by simpa using h)) := List.getElem_map _
theorem iL_mem {xs : List Int} {d : PyData} : d ∈ iL xs ↔ ∃ i ∈ xs, d = .int i := by
  unfold iL
  rw [List.mem_map]
  exact ⟨fun ⟨i, h, e⟩ => ⟨i, h, e.symm⟩, fun ⟨i, h, e⟩ => ⟨i, h, e.symm⟩⟩
theorem lay_ints : ∀ xs : List Int, PyData.canLayAll0 (iL xs) = true
  | [] => rfl
  | x :: xs => by
    show PyData.canLayAll0 (.int x :: iL xs) = true
    rw [PyData.canLayAll0, lay_ints xs]
    rfl
theorem depth_ints : ∀ xs : List Int, PyData.depthAll (iL xs) = 0
  | [] => rfl
  | x :: xs => by
    show PyData.depthAll (.int x :: iL xs) = 0
    rw [PyData.depthAll, depth_ints xs]
    rfl
theorem shaped_int (i : Int) : SeqAt.shaped (.int i) = true := by simp [SeqAt.shaped, PyData.canLay0, PyData.depth]
theorem shaped_tup (xs : List Int) : SeqAt.shaped (.tuple (iL xs)) = true := by simp [SeqAt.shaped, PyData.canLay0, PyData.depth, lay_ints, depth_ints]
theorem shaped_lst (xs : List Int) : SeqAt.shaped (.list (iL xs)) = true := by simp [SeqAt.shaped, PyData.canLay0, PyData.depth, lay_ints, depth_ints]
theorem eq_int (i j : Int) : PyData.eqv (.int i) (.int j) = decide (i = j) := by rw [PyData.eqv]; rfl
theorem canSort_ints (xs : List Int) : canSort (iL xs) = true := by
  have hm : ∀ d ∈ iL xs, ∃ i : Int, d = .int i := fun d hd => by
    obtain ⟨i, _, e⟩ := iL_mem.mp hd
    exact ⟨i, e⟩
  unfold canSort
  refine Bool.and_eq_true_iff.mpr ⟨Bool.and_eq_true_iff.mpr ⟨List.all_eq_true.mpr fun a ha => List.all_eq_true.mpr fun b hb => ?_, List.all_eq_true.mpr fun a ha => ?_⟩, Bool.or_eq_true_iff.mpr (.inr (List.all_eq_true.mpr fun a ha => ?_))⟩
  · obtain ⟨i, rfl⟩ := hm a ha
    obtain ⟨j, rfl⟩ := hm b hb
    rw [PySem.W.alike]
  · obtain ⟨i, rfl⟩ := hm a ha
    simp [PyData.depth]
  · obtain ⟨i, rfl⟩ := hm a ha
    rfl
theorem allInts_iL (xs : List Int) : allInts (iL xs) = some xs := by
  induction xs with
  | nil => rfl
  | cons x r ih =>
    show allInts (.int x :: iL r) = _
    rw [allInts, ih]
    rfl
/-! ### loops -/
theorem szL {n : Nat} (h : n ≤ 1000000) : n ≤ sizeLine := by
  have := sizeLine_eq
  omega
/-! ### runs -/
def fnOut (S : Mem) : SR → Res D
  | .nx _ S' => .ok (.im .none) (S'.take S.length)
  | .rt d S' => match frz S.length S' d with
    | some d' => .ok d' (S'.take S.length)
    | none => .bad
  | .er c _ S' => .err c (S'.take S.length)
  | _ => .bad
theorem callF_run {P : List Fn} {k : Nat} {x : String} {f : Fn} {args : List D} {S : Mem} (h : findF P x = some f) (ha : args.length = f.np) : callF P (k + 1) x args S = fnOut S (execs (callF P k) f.body (args.map some ++ List.replicate (f.N.length - f.np) none) S) := by
  rw [callF, h]
  show fnS (callF P k) f args S = _
  unfold fnS
  rw [if_pos ha]
  cases execs (callF P k) f.body (args.map some ++ List.replicate (f.N.length - f.np) none) S <;> rfl
section
variable {Φ : String → List D → M D} {s : Sm} {r : Sms} {env e1 : Env} {S S1 : Mem} {d : D} {c : String}
end
/-! ### the draws -/
def takeY : Sms :=
 .cons (.iff (.cmp .Gt (.idx (.var 0) (.con (.int 2))) (.con (.int 0))) (.cons (.asg (.v 3) (.bin .Mod (.idx (.var 0) (.con (.int 2))) (.var 1)))
 (.cons (.sub (.var 0) (.con (.int 2)) (.bin .FloorDiv (.idx (.var 0) (.con (.int 2))) (.var 1)))
 (.cons (.ret (.var 3)) .nil))) (.nil))
 (.cons (.asg (.v 2) (.con (.int 0)))
 (.cons (.iff (.cmp .Lt (.idx (.var 0) (.con (.int 1))) (.bi .len (.cons (.idx (.var 0) (.con (.int 0))) .nil))) (.cons (.asg (.v 2) (.idx (.idx (.var 0) (.con (.int 0))) (.idx (.var 0) (.con (.int 1))))) .nil) (.nil))
 (.cons (.sub (.var 0) (.con (.int 1)) (.bin .Add (.idx (.var 0) (.con (.int 1))) (.con (.int 1))))
 (.cons (.iff (.cmp .GtE (.var 2) (.bin .Pow (.con (.int 10)) (.con (.int 18)))) (.cons (.sub (.var 0) (.con (.int 2)) (.bin .FloorDiv (.var 2) (.var 1)))
 (.cons (.ret (.bin .Mod (.var 2) (.var 1))) .nil)) (.nil))
 (.cons (.sub (.var 0) (.con (.int 3)) (.bin .Mod (.bin .Add (.bin .Add (.bin .Mult (.idx (.var 0) (.con (.int 3))) (.con (.int 48271))) (.bin .Mod (.var 2) (.con (.int 2147483629)))) (.bin .Mult (.con (.int 7)) (.idx (.var 0) (.con (.int 1))))) (.con (.int 2147483647))))
 (.cons (.ret (.bin .Mod (.bin .FloorDiv (.bin .Mod (.bin .Pow (.idx (.var 0) (.con (.int 3))) (.con (.int 3))) (.con (.int 2147483629))) (.con (.int 64))) (.var 1))) .nil))))))
def St4 (ns : List Int) (r : Nat) (S : Mem) : Prop := ∃ p q z : Int, S[r]? = some (.lst [.list (iL ns), .int p, .int q, .int z]) ∧ 0 ≤ p ∧ 0 ≤ z ∧ z < 2147483647
theorem St4.of {ns : List Int} {r : Nat} {S S' : Mem} (h : St4 ns r S) (e : S'[r]? = S[r]?) : St4 ns r S' := by
  obtain ⟨p, q, z, h1, h2⟩ := h
  exact ⟨p, q, z, e.trans h1, h2⟩
theorem St4.lt {ns : List Int} {r : Nat} {S : Mem} (h : St4 ns r S) : r < S.length := by
  obtain ⟨p, q, z, h1, h2⟩ := h
  exact (List.getElem?_eq_some_iff.mp h1).1
structure But (r : Nat) (S S' : Mem) : Prop where
  len : S'.length = S.length
  out : ∀ j, j ≠ r → S'[j]? = S[j]?
theorem But.refl (r : Nat) (S : Mem) : But r S S := ⟨rfl, fun _ _ => rfl⟩
theorem But.trans {r : Nat} {S S1 S2 : Mem} (a : But r S S1) (b : But r S1 S2) : But r S S2 := ⟨b.len.trans a.len, fun j h => (b.out j h).trans (a.out j h)⟩
theorem But.set {r : Nat} {S : Mem} {o : Ob} : But r S (S.set r o) := ⟨by simp, fun j h => by rw [List.getElem?_set_ne (Ne.symm h)]⟩
theorem set_set {S : Mem} {r : Nat} {a b : Ob} : (S.set r a).set r b = S.set r b := by
  apply List.ext_getElem?
  intro j
  by_cases h : r = j
  · subst h
    by_cases hl : r < S.length
    · rw [List.getElem?_set_self (by simpa using hl), List.getElem?_set_self hl]
    · rw [List.getElem?_eq_none (by simp; omega), List.getElem?_eq_none (by simp; omega)]
  · rw [List.getElem?_set_ne h, List.getElem?_set_ne h, List.getElem?_set_ne h]
section
variable {P : List Fn} {ns : List Int} {r k : Nat} {S : Mem} {b : Int}
end
end DL
end

section
set_option maxRecDepth 100000
/-! DL18: texts of data; houses drawn. Ours. -/
namespace DL
open PySem PySem.Spec PyProof.Rows
/-! ### texts of data -/
mutual
def wd : PyData → Nat
  | .none => 11
  | .bool _ => 11
  | .int _ => 11
  | .str _ => 11
  | .list _ => 11
  | .dict _ => 11
  | .tuple xs => wdAll xs + 4
def wdAll : List PyData → Nat
  | [] => 0
  | x :: xs => wd x + 2 + wdAll xs
end
/-! ### houses -/
structure Fk where
  d : Int
  f : Int
  m : Int
  s : Int
  w : Int
def Fk.p (x : Fk) : PyData := .tuple [.int x.d, .int x.f, .int x.m, .int x.s, .int x.w]
def hP (fs : List Fk) : List PyData := fs.map Fk.p
@[simp] theorem hP_len (fs : List Fk) : (hP fs).length = fs.length := List.length_map _
@[simp] theorem hP_get? (fs : List Fk) (n : Nat) : (hP fs)[n]? = (fs[n]?).map Fk.p := List.getElem?_map
@[simp] theorem hP_get (fs : List Fk) (n : Nat) (h : n < (hP fs).length) : (hP fs)[n] = (fs[n]'(by simpa using h)).p := List.getElem_map _
/-- a folk's numbers are small -/
structure Fk.ok (x : Fk) : Prop where
  d0 : 0 ≤ x.d
  d1 : x.d ≤ 99990
  f0 : -1 ≤ x.f
  f1 : x.f < 1000
  m0 : -1 ≤ x.m
  m1 : x.m < 1000
  s0 : 0 ≤ x.s
  s1 : x.s < 2
  w0 : 0 ≤ x.w
  w1 : x.w < 2
/-! ### the draws of a house -/
section
variable {P : List Fn} {ns : List Int} {r k : Nat} {S : Mem}
end
end DL
end

section
set_option maxRecDepth 100000
/-! DL19: drawn orders. Ours. -/
namespace DL
open PySem PySem.Spec PyProof.Rows
/-- a def by its body, how many parameters, how many names -/
def Is (f : Fn) (b : Sms) (np n : Nat) : Prop := (∀ {args : List D}, args.length = np → args.length = f.np) ∧ f.body = b ∧ f.N.length = n ∧ f.np = np
section
variable {P : List Fn} {k r : Nat} {S : Mem} {ns xs : List Int}
end
end DL
end

section
set_option maxRecDepth 100000
/-! DL20: two orders. Ours. -/
namespace DL
open PySem PySem.Spec PyProof.Rows
theorem bind_ok {α β : Type} {m : M α} {f : α → M β} {S S1 : Mem} {a : α} (h : m S = .ok a S1) : M.bind m f S = f a S1 := by
  unfold M.bind
  rw [h]
/-- a comprehension over a line that is told item by item -/
theorem cmpr_map {α : Type} {f : D → M (Option PyData)} {S : Mem} (L : List α) (enc : α → D) (p : α → Bool) (out : α → PyData) (hl : L.length ≤ 1000000) (h : ∀ a ∈ L, f (enc a) S = .ok (if p a = true then some (out a) else none) S) : cmprK f (L.map enc) S = .ok (.im (.list ((L.filter p).map out))) S := by
  have e : ∀ L : List α, (∀ a ∈ L, f (enc a) S = .ok (if p a = true then some (out a) else none) S) → compL f (L.map enc) S = .ok ((L.filter p).map out) S := by
    intro L
    induction L with
    | nil => intro _; rfl
    | cons a r ih =>
      intro h
      have h1 := h a List.mem_cons_self
      have h2 := ih fun b hb => h b (List.mem_cons_of_mem _ hb)
      rw [List.map_cons, compL, bind_ok h1, bind_ok h2, List.filter_cons]
      cases hp : p a <;> simp
  unfold cmprK
  rw [if_pos (by rw [List.length_map]; exact szL hl), e L h]
theorem allB_map {α : Type} (L : List α) (g : α → Bool) : allBools (L.map fun a => PyData.bool (g a)) = some (L.map g) := by
  induction L with
  | nil => rfl
  | cons a r ih =>
    rw [List.map_cons, allBools, ih]
    rfl
/-- all(line of truths) -/
theorem all_map {α : Type} (L : List α) (g : α → Bool) (S : Mem) : allD (.im (.list (L.map fun a => PyData.bool (g a)))) S = .ok (.im (.bool (L.all g))) S := by
  unfold allD boolsOf
  simp only [imOf, allB_map]
  congr 3
  induction L with
  | nil => rfl
  | cons a r ih => simp [List.all_cons]
/-! ### places in an order -/
theorem idx_at {w : Int} : ∀ {xs : List Int}, w ∈ xs → idxOf (.int w) (iL xs) = some (xs.idxOf w)
  | [], h => by cases h
  | x :: r, h => by
    show idxOf (.int w) (.int x :: iL r) = _
    rw [idxOf, eq_int, List.idxOf_cons]
    by_cases c : x = w
    · simp [c]
    · have hr : w ∈ r := by
        rcases List.mem_cons.mp h with e | h
        · exact absurd e.symm c
        · exact h
      have e : (x == w) = false := beq_eq_false_iff_ne.mpr c
      rw [idx_at hr, e]
      simp [c]
theorem alike_ints : ∀ (xs ys : List Int), PySem.W.alikeAll (iL xs) (iL ys) = true
  | [], ys => by
    show PySem.W.alikeAll [] _ = true
    rw [PySem.W.alikeAll]
  | x :: xs, [] => by
    show PySem.W.alikeAll (_ :: _) [] = true
    rw [PySem.W.alikeAll]
  | x :: xs, y :: ys => by
    show PySem.W.alikeAll (.int x :: iL xs) (.int y :: iL ys) = true
    rw [PySem.W.alikeAll, PySem.W.alike, alike_ints xs ys]
    rfl
section
variable {P : List Fn} {k r : Nat} {S : Mem} {ns xs : List Int}
def rest (T : List Int) : D → Option PyData
  | .im (.int y) => if y ∈ T then none else some (.int y)
  | _ => none
end
end DL
end

section
set_option maxRecDepth 100000
/-! DW1: what holds behind a computation; one rule for each construct. Ours. -/
namespace DL
open PySem PySem.Spec PyProof.Rows
/-! ### expressions -/
def wpe {α : Type} (r : Res α) (Q : α → Mem → Prop) (E : String → Mem → Prop) : Prop := match r with
  | .ok a S => Q a S
  | .err c S => E c S
  | .bad => False
section
variable {α β : Type} {Q : α → Mem → Prop} {R : β → Mem → Prop} {E : String → Mem → Prop} {S : Mem}
theorem bind_okE {m : M α} {f : α → M β} {S S1 : Mem} {a : α} (h : m S = .ok a S1) : M.bind m f S = f a S1 := by unfold M.bind; rw [h]
end
/-! ### statements -/
structure Ks where
  nx : Env → Mem → Prop
  rt : D → Mem → Prop
  bk : Env → Mem → Prop
  ct : Env → Mem → Prop
  er : String → Env → Mem → Prop
def wps (r : SR) (K : Ks) : Prop := match r with
  | .nx e S => K.nx e S
  | .bk e S => K.bk e S
  | .ct e S => K.ct e S
  | .rt d S => K.rt d S
  | .er c e S => K.er c e S
  | .bad => False
/-- what follows an assignment -/
def asgW (tg : Tg) (d : D) (env : Env) (S : Mem) (N : Env → Mem → Prop) : Prop := match asgT tg d env S with
  | some e => N e S
  | none => False
/-- what follows a test -/
def ifW (d : D) (A B : Prop) : Prop := match d with
  | .im (.bool b) => (b = true → A) ∧ (b = false → B)
  | _ => False
section
variable {Φ : String → List D → M D} {env : Env} {S : Mem} {K : Ks}
theorem wps_lift {α : Type} {r : Res α} {f : α → Mem → SR} : wps (liftE env r f) K = wpe r (fun a S => wps (f a S) K) (fun c S => K.er c env S) := by
  cases r <;> rfl
theorem wps_nil : wps (execs Φ .nil env S) K = K.nx env S := by rw [execs]; rfl
theorem wps_cons {s : Sm} {r : Sms} : wps (execs Φ (.cons s r) env S) K = wps (exec Φ s env S) { K with nx := fun e S1 => wps (execs Φ r e S1) K } := by
  rw [execs]
  cases exec Φ s env S <;> rfl
theorem wps_asg {tg : Tg} {e : Ex} : wps (exec Φ (.asg tg e) env S) K = wpe (ev Φ e env S) (fun d S1 => asgW tg d env S1 K.nx) (fun c S1 => K.er c env S1) := by
  rw [exec, wps_lift]
  congr 1
  funext d S1
  unfold asgW
  cases asgT tg d env S1 <;> rfl
theorem wps_sub {o i e : Ex} : wps (exec Φ (.sub o i e) env S) K = wpe (ev Φ e env S) (fun v S1 => wpe (ev Φ o env S1) (fun x S2 => wpe (ev Φ i env S2) (fun k S3 => match setD x k v S3 with
    | some S4 => K.nx env S4
    | none => False) fun c S1 => K.er c env S1) fun c S1 => K.er c env S1) fun c S1 => K.er c env S1 := by
  rw [exec, wps_lift]
  congr 1
  funext v S1
  rw [wps_lift]
  congr 1
  funext x S2
  rw [wps_lift]
  congr 1
  funext k S3
  cases setD x k v S3 <;> rfl
theorem wps_asub {o i e : Ex} {op : Operator} : wps (exec Φ (.asub o i op e) env S) K = wpe (ev Φ o env S) (fun x S1 => wpe (ev Φ i env S1) (fun k S2 => wpe (getM x k S2) (fun u S3 => wpe (ev Φ e env S3) (fun y S4 => wpe (augD op u y S4) (fun z S5 => match setD x k z S5 with
    | some S6 => K.nx env S6
    | none => False) fun c S1 => K.er c env S1) fun c S1 => K.er c env S1) fun c S1 => K.er c env S1) fun c S1 => K.er c env S1) fun c S1 => K.er c env S1 := by
  rw [exec, wps_lift]
  congr 1
  funext x S1
  rw [wps_lift]
  congr 1
  funext k S2
  rw [wps_lift]
  congr 1
  funext u S3
  rw [wps_lift]
  congr 1
  funext y S4
  rw [wps_lift]
  congr 1
  funext z S5
  cases setD x k z S5 <;> rfl
theorem wps_aug {i : Nat} {op : Operator} {e : Ex} : wps (exec Φ (.aug i op e) env S) K = wpe (getV i env S) (fun x S1 => wpe (ev Φ e env S1) (fun y S2 => wpe (augD op x y S2) (fun z S3 => K.nx (env.set i (some z)) S3) fun c S1 => K.er c env S1) fun c S1 => K.er c env S1) fun c S1 => K.er c env S1 := by
  rw [exec, wps_lift]
  congr 1
  funext v S1
  rw [wps_lift]
  congr 1
  funext x S2
  rw [wps_lift]
  rfl
theorem wps_exp {e : Ex} : wps (exec Φ (.exp e) env S) K = wpe (ev Φ e env S) (fun _ S1 => K.nx env S1) fun c S1 => K.er c env S1 := by rw [exec, wps_lift]; rfl
theorem wps_ret {e : Ex} : wps (exec Φ (.ret e) env S) K = wpe (ev Φ e env S) (fun d S1 => K.rt d S1) fun c S1 => K.er c env S1 := by rw [exec, wps_lift]; rfl
theorem wps_retn : wps (exec Φ .retn env S) K = K.rt (.im .none) S := by rw [exec]; rfl
theorem wps_iff {c : Ex} {a b : Sms} : wps (exec Φ (.iff c a b) env S) K = wpe (ev Φ c env S) (fun d S1 => ifW d (wps (execs Φ a env S1) K) (wps (execs Φ b env S1) K)) fun c S1 => K.er c env S1 := by
  rw [exec, wps_lift]
  congr 1
  funext d S1
  unfold ifW
  cases d with
  | rf i => rfl
  | im p =>
    cases p with
    | bool t => cases t <;> simp
    | _ => rfl
theorem wps_brk : wps (exec Φ .brk env S) K = K.bk env S := by rw [exec]; rfl
theorem wps_cnt : wps (exec Φ .cnt env S) K = K.ct env S := by rw [exec]; rfl
theorem wps_rse {c : String} : wps (exec Φ (.rse c) env S) K = K.er c env S := by rw [exec]; rfl
/-! ### loops -/
/-- a loop over a line of things, by what holds behind the first ones -/
theorem wps_for {α : Type} {tg : Tg} {it : It} {body : Sms} {S1 : Mem} (L : List α) (enc : α → D) (hit : evI Φ it env S = .ok (L.map enc) S1) (I : List α → Env → Mem → Prop) (h0 : I [] env S1)
    (hs : ∀ pre x post e S, L = pre ++ x :: post → I pre e S → asgW tg (enc x) e S fun e1 S1 => wps (execs Φ body e1 S1) { K with nx := I (pre ++ [x]), ct := I (pre ++ [x]), bk := K.nx }) (hx : ∀ e S, I L e S → K.nx e S) : wps (exec Φ (.for tg it body) env S) K := by
  rw [exec, hit]
  show wps (forL (asgT tg) (execs Φ body) (L.map enc) env S1) K
  have key : ∀ (post pre : List α) (env : Env) (S : Mem), L = pre ++ post → I pre env S → wps (forL (asgT tg) (execs Φ body) (post.map enc) env S) K := by
    intro post
    induction post with
    | nil => intro pre env S e h; rw [List.append_nil] at e; subst e; exact hx env S h
    | cons x r ih =>
      intro pre env S e h
      have z := hs pre x r env S e h
      unfold asgW at z
      rw [List.map_cons, forL]
      cases ha : asgT tg (enc x) env S with
      | none => rw [ha] at z; exact z.elim
      | some e1 =>
        rw [ha] at z
        dsimp only at z ⊢
        cases e2 : execs Φ body e1 S with
        | nx e3 S3 => rw [e2] at z; exact ih (pre ++ [x]) e3 S3 (by rw [e, List.append_assoc]; rfl) z
        | ct e3 S3 => rw [e2] at z; exact ih (pre ++ [x]) e3 S3 (by rw [e, List.append_assoc]; rfl) z
        | bk e3 S3 => rw [e2] at z; exact z
        | rt d3 S3 => rw [e2] at z; exact z
        | er c3 e3 S3 => rw [e2] at z; exact z
        | bad => rw [e2] at z; exact z.elim
  exact key L [] env S1 rfl h0
/-- a loop by what is left; what comes behind is asked of what is left -/
theorem wps_whl {n : Nat} {c : Ex} {body : Sms} (I : Nat → Env → Mem → Prop) (m : Nat) (hm : m < n) (h0 : I m env S)
    (hs : ∀ m e S, I m e S → wpe (ev Φ c e S) (fun d S1 => ifW d (0 < m ∧ wps (execs Φ body e S1) { K with nx := I (m - 1), ct := I (m - 1), bk := K.nx }) (K.nx e S1)) fun c S1 => K.er c e S1) : wps (exec Φ (.whl n c body) env S) K := by
  rw [exec]
  have key : ∀ (n m : Nat) (env : Env) (S : Mem), m < n → I m env S → wps (whileL (fun e => M.bind (ev Φ c e) tstD) (execs Φ body) n env S) K := by
    intro n
    induction n with
    | zero => intro m _ _ h; exact absurd h (Nat.not_lt_zero _)
    | succ n ih =>
      intro m env S hm h
      have z := hs m env S h
      rw [whileL]
      unfold M.bind
      cases e1 : ev Φ c env S with
      | bad => rw [e1] at z; exact z.elim
      | err x S1 => rw [e1] at z; exact z
      | ok d S1 =>
        rw [e1] at z
        have z : ifW d _ _ := z
        unfold ifW at z
        cases d with
        | rf i => exact z.elim
        | im p =>
          cases p with
          | bool t =>
            cases t with
            | false => exact z.2 rfl
            | true =>
              obtain ⟨z0, z1⟩ := z.1 rfl
              show wps (match execs Φ body env S1 with
                | .nx e2 S2 => whileL (fun e => M.bind (ev Φ c e) tstD) (execs Φ body) n e2 S2
                | .ct e2 S2 => whileL (fun e => M.bind (ev Φ c e) tstD) (execs Φ body) n e2 S2
                | .bk e2 S2 => .nx e2 S2
                | z => z) K
              cases e2 : execs Φ body env S1 with
              | nx e3 S3 => rw [e2] at z1; exact ih (m - 1) e3 S3 (by omega) z1
              | ct e3 S3 => rw [e2] at z1; exact ih (m - 1) e3 S3 (by omega) z1
              | bk e3 S3 => rw [e2] at z1; exact z1
              | rt d3 S3 => rw [e2] at z1; exact z1
              | er c3 e3 S3 => rw [e2] at z1; exact z1
              | bad => rw [e2] at z1; exact z1.elim
          | _ => exact z.elim
  exact key n m env S hm h0
end
/-! ### comprehensions -/
/-- a comprehension over a line that is told item by item; the memory stays -/
theorem cmp_map {α : Type} {f : D → M (Option PyData)} {S : Mem} (L : List α) (enc : α → D) (p : α → Bool) (out : α → PyData) (hl : L.length ≤ 1000000) (h : ∀ a ∈ L, f (enc a) S = .ok (if p a = true then some (out a) else none) S) : cmprK f (L.map enc) S = .ok (.im (.list ((L.filter p).map out))) S := cmpr_map L enc p out hl h
/-! ### calls -/
/-- what is asked of a def's body -/
def retW (S : Mem) (Q : D → Mem → Prop) (E : String → Mem → Prop) : Ks where
  nx := fun _ S' => Q (.im .none) (S'.take S.length)
  rt := fun d S' => match frz S.length S' d with
    | some d' => Q d' (S'.take S.length)
    | none => False
  bk := fun _ _ => False
  ct := fun _ _ => False
  er := fun c _ S' => E c (S'.take S.length)
theorem call_w {P : List Fn} {k : Nat} {x : String} {f : Fn} {args : List D} {S : Mem} {Q : D → Mem → Prop} {E : String → Mem → Prop} (h : findF P x = some f) (ha : args.length = f.np) (hk : 0 < k)
    (hb : wps (execs (callF P (k - 1)) f.body (args.map some ++ List.replicate (f.N.length - f.np) none) S) (retW S Q E)) : wpe (callF P k x args S) Q E := by
  cases k with
  | zero => omega
  | succ k =>
    rw [callF_run h ha]
    rw [Nat.add_sub_cancel] at hb
    revert hb
    cases execs (callF P k) f.body (args.map some ++ List.replicate (f.N.length - f.np) none) S with
    | nx e S' => exact fun h => h
    | bk e S' => exact fun h => h.elim
    | ct e S' => exact fun h => h.elim
    | rt d S' =>
      intro h
      have h : (match frz S.length S' d with
        | some d' => Q d' (S'.take S.length)
        | none => False) := h
      unfold fnOut
      dsimp only
      cases hf : frz S.length S' d with
      | none => rw [hf] at h; exact h.elim
      | some d' => rw [hf] at h; exact h
    | er c e S' => exact fun h => h
    | bad => exact fun h => h.elim
/-- a def that computes and changes nothing -/
theorem call_p {P : List Fn} {k : Nat} {x : String} {f : Fn} {args : List D} {S : Mem} {v : D} (h : findF P x = some f) (ha : args.length = f.np) (hk : 0 < k)
    (hb : wps (execs (callF P (k - 1)) f.body (args.map some ++ List.replicate (f.N.length - f.np) none) S) (retW S (fun d S' => d = v ∧ S' = S) fun _ _ => False)) : callF P k x args S = .ok v S := by
  have z := call_w (Q := fun d S' => d = v ∧ S' = S) (E := fun _ _ => False) h ha hk hb
  revert z
  cases callF P k x args S with
  | ok d S' => rintro ⟨rfl, rfl⟩; rfl
  | err c S' => exact fun h => h.elim
  | bad => exact fun h => h.elim
end DL
end

section
set_option maxRecDepth 100000
/-! DV1: rules that run a tree and find what it tells. Ours. -/
namespace DL
open PySem PySem.Spec PyProof.Rows
/-- a side condition -/
def Must (p : Prop) : Prop := p
class Fd (P : List Fn) (x : String) (b : Sms) (np n : Nat) : Prop where
  h : ∃ f, findF P x = some f ∧ f.body = b ∧ f.np = np ∧ f.N.length = n
/-- a coding of plain values: comparable, printable within a width -/
class Cod {α : Type} (f : α → PyData) : Prop where
  shaped : ∀ a, (f a).canLay0 = true ∧ (f a).depth ≤ 20
  eqv : ∀ a b, PyData.eqv (f a) (f b) = true ↔ a = b
class Shp {α : Type} (f : α → PyData) (n : outParam Nat) : Prop where
  lay : ∀ a, (f a).canLay0 = true
  dep : ∀ a, (f a).depth ≤ n
class Eqv {α : Type} (f : α → PyData) : Prop where
  eqv : ∀ a b, PyData.eqv (f a) (f b) = true ↔ a = b
def gt {α : Type} [Inhabited α] (l : List α) (i : Int) : α := l.getD i.toNat default
/-- a list's place, from the end on if below 0 -/
def gx {α : Type} [Inhabited α] (l : List α) (i : Int) : α := if 0 ≤ i then l.getD i.toNat default else l.getD (i + l.length).toNat default
def b2i (b : Bool) : Int := if b = true then 1 else 0
theorem b2i_b {p : Bool} : 0 ≤ b2i p ∧ b2i p < 2 := by cases p <;> decide
theorem b2i_l {α : Type} {p : Bool} {x y : α} : 0 ≤ b2i p ∧ b2i p < ([x, y].length : Nat) := b2i_b
theorem gt_mem {α : Type} [Inhabited α] {l : List α} {i : Int} (h : 0 ≤ i ∧ i < l.length) : gt l i ∈ l := by
  have hl : i.toNat < l.length := by omega
  unfold gt
  rw [List.getD_eq_getElem?_getD, List.getElem?_eq_getElem hl]
  exact List.getElem_mem hl
theorem gt_get {α : Type} [Inhabited α] {l : List α} {i : Int} (h : 0 ≤ i ∧ i < l.length) : l[i.toNat]? = some (gt l i) := by
  have hl : i.toNat < l.length := by omega
  unfold gt
  rw [List.getD_eq_getElem?_getD, List.getElem?_eq_getElem hl]
  rfl
theorem gx_pos {α : Type} [Inhabited α] {l : List α} {i : Int} (h : 0 ≤ i) : gx l i = gt l i := by unfold gx gt; rw [if_pos h]
theorem emp_false {α : Type} {L : List α} : L.isEmpty = false ↔ 0 < L.length := by cases L <;> simp
theorem emp_true {α : Type} {L : List α} : L.isEmpty = true ↔ L = [] := by cases L <;> simp
/-! ### the memory of a law: the draws' state first -/
structure Dst where
  p : Int
  q : Int
  z : Int
  hp : 0 ≤ p
  hz : 0 ≤ z
  hz2 : z < 2147483647
def Sd (ns : List Int) (st : Dst) (R : Mem) : Mem := Ob.lst [.list (iL ns), .int st.p, .int st.q, .int st.z] :: R
section
variable {S R T : Mem} {o a b c o' : Ob} {ns : List Int} {st : Dst}
theorem mg0 : (S ++ (o :: T))[S.length]? = some o := by simp
theorem mg1 : (S ++ (a :: o :: T))[S.length + 1]? = some o := by simp [List.getElem?_append_right]
theorem mg2 : (S ++ (a :: b :: o :: T))[S.length + 2]? = some o := by simp [List.getElem?_append_right]
theorem mg3 : (S ++ (a :: b :: c :: o :: T))[S.length + 3]? = some o := by simp [List.getElem?_append_right]
theorem ms0 : (S ++ (o :: T)).set S.length o' = S ++ (o' :: T) := by simp [List.set_append_right]
theorem ms1 : (S ++ (a :: o :: T)).set (S.length + 1) o' = S ++ (a :: o' :: T) := by simp [List.set_append_right]
theorem ms2 : (S ++ (a :: b :: o :: T)).set (S.length + 2) o' = S ++ (a :: b :: o' :: T) := by simp [List.set_append_right]
theorem ms3 : (S ++ (a :: b :: c :: o :: T)).set (S.length + 3) o' = S ++ (a :: b :: c :: o' :: T) := by simp [List.set_append_right]
theorem Sd_len : (Sd ns st R).length = R.length + 1 := rfl
theorem dg (i : Nat) : (Sd ns st R)[i + 1]? = R[i]? := rfl
theorem dg0 : (Sd ns st (R ++ (o :: T)))[R.length + 1]? = some o := by rw [dg]; exact mg0
theorem dg1 : (Sd ns st (R ++ (a :: o :: T)))[R.length + 2]? = some o := by rw [dg]; exact mg1
theorem dg2 : (Sd ns st (R ++ (a :: b :: o :: T)))[R.length + 3]? = some o := by rw [dg]; exact mg2
theorem dg3 : (Sd ns st (R ++ (a :: b :: c :: o :: T)))[R.length + 4]? = some o := by rw [dg]; exact mg3
theorem ds (i : Nat) : (Sd ns st R).set (i + 1) o = Sd ns st (R.set i o) := rfl
theorem ds0 : (Sd ns st (R ++ (o :: T))).set (R.length + 1) o' = Sd ns st (R ++ (o' :: T)) := by rw [ds, ms0]
theorem ds1 : (Sd ns st (R ++ (a :: o :: T))).set (R.length + 2) o' = Sd ns st (R ++ (a :: o' :: T)) := by rw [ds, ms1]
theorem ds2 : (Sd ns st (R ++ (a :: b :: o :: T))).set (R.length + 3) o' = Sd ns st (R ++ (a :: b :: o' :: T)) := by rw [ds, ms2]
theorem ds3 : (Sd ns st (R ++ (a :: b :: c :: o :: T))).set (R.length + 4) o' = Sd ns st (R ++ (a :: b :: c :: o' :: T)) := by rw [ds, ms3]
theorem ld0 : (Sd ns st R).length = R.length + 1 := rfl
theorem ld1 : (Sd ns st (R ++ [a])).length = R.length + 2 := by rw [Sd_len]; simp
theorem ld2 : (Sd ns st (R ++ [a, b])).length = R.length + 3 := by rw [Sd_len]; simp
theorem ld3 : (Sd ns st (R ++ [a, b, c])).length = R.length + 4 := by rw [Sd_len]; simp
theorem lm1 : (S ++ [a]).length = S.length + 1 := by simp
theorem lm2 : (S ++ [a, b]).length = S.length + 2 := by simp
theorem lm3 : (S ++ [a, b, c]).length = S.length + 3 := by simp
theorem ad0 : Sd ns st R ++ [o] = Sd ns st (R ++ [o]) := rfl
theorem ad1 : Sd ns st (R ++ [a]) ++ [o] = Sd ns st (R ++ [a, o]) := by rw [ad0]; simp
theorem ad2 : Sd ns st (R ++ [a, b]) ++ [o] = Sd ns st (R ++ [a, b, o]) := by rw [ad0]; simp
theorem ad3 : Sd ns st (R ++ [a, b, c]) ++ [o] = Sd ns st (R ++ [a, b, c, o]) := by rw [ad0]; simp
theorem am1 : (S ++ [a]) ++ [o] = S ++ [a, o] := by simp
theorem am2 : (S ++ [a, b]) ++ [o] = S ++ [a, b, o] := by simp
theorem am3 : (S ++ [a, b, c]) ++ [o] = S ++ [a, b, c, o] := by simp
end
/-! ### expressions -/
section
variable {Φ : String → List D → M D} {env e1 : Env} {S S1 S2 S3 S4 : Mem} {x y z d : D} {a b c : Ex} {es fs : Exs} {ds : List D} {xs : List PyData} {p q : Bool}
theorem v_var {i : Nat} (h : env[i]? = some (some d)) : ev Φ (.var i) env S = .ok d S := by rw [ev, getV, h]
theorem v_con {p : PyData} : ev Φ (.con p) env S = .ok (.im p) S := by rw [ev]; rfl
theorem v_glb {n : String} {p : PyData} : ev Φ (.glb n p) env S = .ok (.im p) S := by rw [ev]; rfl
theorem vs_nil : evs Φ .nil env S = .ok [] S := by rw [evs]; rfl
theorem vs_cons (h1 : ev Φ a env S = .ok x S1) (h2 : evs Φ es env S1 = .ok ds S2) : evs Φ (.cons a es) env S = .ok (x :: ds) S2 := by rw [evs, bind_okE h1, bind_okE h2]; rfl
theorem v_tup (h1 : evs Φ es env S = .ok ds S1) (h2 : allIm ds = some xs) : ev Φ (.tup es) env S = .ok (.im (.tuple xs)) S1 := by rw [ev, bind_okE h1, tupK, h2]
theorem v_lst (h1 : evs Φ es env S = .ok ds S1) (h2 : allIm ds = some xs) : ev Φ (.lst es) env S = .ok (.im (.list xs)) S1 := by rw [ev, bind_okE h1, lstK, h2]
theorem v_mls (h1 : evs Φ es env S = .ok ds S1) (h2 : allIm ds = some xs) (h3 : S1.length = n) (h4 : S1 ++ [.lst xs] = S2) : ev Φ (.mls es) env S = .ok (.rf n) S2 := by rw [ev, bind_okE h1, mlsK, h2, ← h3, ← h4]
theorem v_bin {op : Operator} (h1 : ev Φ a env S = .ok x S1) (h2 : ev Φ b env S1 = .ok y S2) (h3 : binD op x y S2 = .ok z S3) : ev Φ (.bin op a b) env S = .ok z S3 := by rw [ev, bind_okE h1, bind_okE h2, h3]
theorem v_neg (h1 : ev Φ a env S = .ok x S1) (h3 : negD x S1 = .ok z S2) : ev Φ (.neg a) env S = .ok z S2 := by rw [ev, bind_okE h1, h3]
theorem v_nt (h1 : ev Φ a env S = .ok x S1) (h3 : notD x S1 = .ok z S2) : ev Φ (.nt a) env S = .ok z S2 := by rw [ev, bind_okE h1, h3]
theorem v_cmp {op : CmpOp} (h1 : ev Φ a env S = .ok x S1) (h2 : ev Φ b env S1 = .ok y S2) (h3 : cmpP S2 op x y = some p) : ev Φ (.cmp op a b) env S = .ok (.im (.bool p)) S2 := by rw [ev, bind_okE h1, bind_okE h2, cmpD, h3]; rfl
theorem v_chn {op op' : CmpOp} (h1 : ev Φ a env S = .ok x S1) (h2 : ev Φ b env S1 = .ok y S2) (h3 : cmpP S2 op x y = some p) (h4 : p = true → ev Φ c env S2 = .ok z S2 ∧ cmpP S2 op' y z = some q) : ev Φ (.chn op op' a b c) env S = .ok (.im (.bool (p && q))) S2 := by
  rw [ev, bind_okE h1, bind_okE h2]
  have e : cmpD op x y S2 = .ok (.im (.bool p)) S2 := by rw [cmpD, h3]; rfl
  rw [bind_okE e]
  have e2 : tstD (.im (.bool p)) S2 = .ok p S2 := rfl
  rw [bind_okE e2]
  cases p with
  | false => rfl
  | true =>
    obtain ⟨h5, h6⟩ := h4 rfl
    rw [if_pos rfl, bind_okE h5, cmpD, h6]
    rfl
theorem vb_nil {k : Bool} : evB Φ k .nil env S = .ok (.im (.bool k)) S := by rw [evB]; rfl
theorem vb_one {k : Bool} (h : ev Φ a env S = .ok x S1) : evB Φ k (.cons a .nil) env S = .ok x S1 := by rw [evB, h]
theorem vb_and (h1 : ev Φ a env S = .ok (.im (.bool p)) S1) (h2 : p = true → evB Φ true (.cons b es) env S1 = .ok (.im (.bool q)) S1) : evB Φ true (.cons a (.cons b es)) env S = .ok (.im (.bool (p && q))) S1 := by
  rw [evB, bind_okE h1]
  have e2 : tstD (.im (.bool p)) S1 = .ok p S1 := rfl
  rw [bind_okE e2]
  cases p with
  | false => rfl
  | true => exact h2 rfl
theorem vb_or (h1 : ev Φ a env S = .ok (.im (.bool p)) S1) (h2 : p = false → evB Φ false (.cons b es) env S1 = .ok (.im (.bool q)) S1) : evB Φ false (.cons a (.cons b es)) env S = .ok (.im (.bool (p || q))) S1 := by
  rw [evB, bind_okE h1]
  have e2 : tstD (.im (.bool p)) S1 = .ok p S1 := rfl
  rw [bind_okE e2]
  cases p with
  | true => rfl
  | false => exact h2 rfl
theorem v_bop {k : Bool} (h : evB Φ k es env S = .ok x S1) : ev Φ (.bop k es) env S = .ok x S1 := by rw [ev, h]
theorem v_iteI {i j : Int} (h1 : ev Φ c env S = .ok (.im (.bool p)) S1) (h2 : p = true → ev Φ a env S1 = .ok (.im (.int i)) S1) (h3 : p = false → ev Φ b env S1 = .ok (.im (.int j)) S1) : ev Φ (.ite c a b) env S = .ok (.im (.int (if p = true then i else j))) S1 := by
  rw [ev, bind_okE h1]
  have e2 : tstD (.im (.bool p)) S1 = .ok p S1 := rfl
  rw [bind_okE e2]
  cases p with
  | true => exact h2 rfl
  | false => exact h3 rfl
theorem v_ite {i j : PyData} (h1 : ev Φ c env S = .ok (.im (.bool p)) S1) (h2 : p = true → ev Φ a env S1 = .ok (.im i) S1) (h3 : p = false → ev Φ b env S1 = .ok (.im j) S1) : ev Φ (.ite c a b) env S = .ok (.im (if p = true then i else j)) S1 := by
  rw [ev, bind_okE h1]
  have e2 : tstD (.im (.bool p)) S1 = .ok p S1 := rfl
  rw [bind_okE e2]
  cases p with
  | true => exact h2 rfl
  | false => exact h3 rfl
theorem v_idx (h1 : ev Φ a env S = .ok x S1) (h2 : ev Φ b env S1 = .ok y S2) (h3 : idxD x y S2 = .ok z S3) : ev Φ (.idx a b) env S = .ok z S3 := by rw [ev, bind_okE h1, bind_okE h2, h3]
theorem v_slc {lo hi : Option Int} {ds1 ds2 : List D} (h1 : ev Φ a env S = .ok x S1) (h2 : evs Φ es env S1 = .ok ds1 S2) (h3 : endOf ds1 = some lo) (h4 : evs Φ fs env S2 = .ok ds2 S3) (h5 : endOf ds2 = some hi) (h6 : sliceD x lo hi S3 = .ok z S4) : ev Φ (.slc a es fs) env S = .ok z S4 := by
  rw [ev, bind_okE h1]
  have e1 : M.bind (evs Φ es env) endK S1 = .ok lo S2 := by rw [bind_okE h2, endK, h3]
  have e2 : M.bind (evs Φ fs env) endK S2 = .ok hi S3 := by rw [bind_okE h4, endK, h5]
  rw [bind_okE e1, bind_okE e2, h6]
theorem v_rev (h1 : ev Φ a env S = .ok x S1) (h2 : revD x S1 = .ok z S2) : ev Φ (.rev a) env S = .ok z S2 := by rw [ev, bind_okE h1, h2]
theorem v_call {f : String} (h1 : evs Φ es env S = .ok ds S1) (h2 : Φ f ds S1 = .ok z S2) : ev Φ (.call f es) env S = .ok z S2 := by rw [ev, bind_okE h1, h2]
theorem v_bi {f : Bi} (h1 : evs Φ es env S = .ok ds S1) (h2 : biD f ds S1 = .ok z S2) : ev Φ (.bi f es) env S = .ok z S2 := by rw [ev, bind_okE h1, h2]
theorem v_isi {o : Bool} {ts : List String} (h1 : ev Φ a env S = .ok x S1) (h2 : isiK ts x S1 = .ok z S2) : ev Φ (.isi a o ts) env S = .ok z S2 := by rw [ev, bind_okE h1, h2]
theorem v_rep (h1 : evs Φ es env S = .ok ds S1) (h2 : ev Φ b env S1 = .ok y S2) (h3 : repK ds y S2 = .ok z S3) : ev Φ (.rep es b) env S = .ok z S3 := by rw [ev, bind_okE h1, bind_okE h2, h3]
theorem v_mt {m : Mt} (h1 : ev Φ a env S = .ok x S1) (h2 : rcvK m x S1 = .ok y S2) (h3 : evs Φ es env S2 = .ok ds S3) (h4 : mtD m y ds S3 = .ok z S4) : ev Φ (.mt m a es) env S = .ok z S4 := by
  rw [ev]
  have e1 : M.bind (ev Φ a env) (rcvK m) S = .ok y S2 := by rw [bind_okE h1, h2]
  rw [bind_okE e1, bind_okE h3, h4]
theorem v_lsr {t : Bool} (h1 : evs Φ es env S = .ok ds S1) (h2 : lsrK t ds S1 = .ok z S2) : ev Φ (.lsr t es) env S = .ok z S2 := by rw [ev, bind_okE h1, h2]
theorem v_srs (h1 : ev Φ a env S = .ok x S1) (h2 : srsK x S1 = .ok z S2) : ev Φ (.srs a) env S = .ok z S2 := by rw [ev, bind_okE h1, h2]
theorem v_mnd (h1 : ev Φ a env S = .ok x S1) (h2 : mndK x S1 = .ok z S2) : ev Φ (.mnd a) env S = .ok z S2 := by rw [ev, bind_okE h1, h2]
theorem v_mad (h1 : ev Φ a env S = .ok x S1) (h2 : ev Φ b env S1 = .ok y S2) (h3 : maddD x y S2 = .ok z S3) : ev Φ (.mad a b) env S = .ok z S3 := by rw [ev, bind_okE h1, bind_okE h2, h3]
theorem v_mdf (h1 : ev Φ a env S = .ok x S1) (h2 : ev Φ b env S1 = .ok y S2) (h3 : mdfK x y S2 = .ok z S3) : ev Φ (.mdf a b) env S = .ok z S3 := by rw [ev, bind_okE h1, bind_okE h2, h3]
theorem v_dic {mu : Bool} (h1 : evs Φ es env S = .ok ds S1) (h2 : dicK mu ds S1 = .ok z S2) : ev Φ (.dic mu es) env S = .ok z S2 := by
  have e : noE (evs Φ es env) S = .ok ds S1 := by unfold noE; rw [h1]
  rw [ev, bind_okE e, h2]
/-! ### what is walked -/
variable {α : Type}
theorem vi_ex {L : List D} (h1 : ev Φ a env S = .ok x S1) (h2 : exK x S1 = .ok L S2) : evI Φ (.ex a) env S = .ok L S2 := by rw [evI, bind_okE h1, h2]
theorem vi_rng {L : List D} (h1 : evs Φ es env S = .ok ds S1) (h2 : rngK ds S1 = .ok L S2) : evI Φ (.rng es) env S = .ok L S2 := by rw [evI, bind_okE h1, h2]
theorem vi_enm {L : List D} (h1 : ev Φ a env S = .ok x S1) (h2 : enmK x S1 = .ok L S2) : evI Φ (.enm a) env S = .ok L S2 := by rw [evI, bind_okE h1, h2]
theorem vi_zp {L : List D} (h1 : ev Φ a env S = .ok x S1) (h2 : ev Φ b env S1 = .ok y S2) (h3 : zpK x y S2 = .ok L S3) : evI Φ (.zp a b) env S = .ok L S3 := by rw [evI, bind_okE h1, bind_okE h2, h3]
theorem k_exL {g : α → PyData} {L : List α} : exK (.im (.list (L.map g))) S = .ok (L.map fun a => .im (g a)) S := by rw [exK, List.map_map]; rfl
theorem k_exT {g : α → PyData} {L : List α} : exK (.im (.tuple (L.map g))) S = .ok (L.map fun a => .im (g a)) S := by rw [exK, List.map_map]; rfl
def upto (n : Nat) : List Int := (List.range n).map fun (k : Nat) => (k : Int)
def fromto (l h : Int) : List Int := (List.range (h - l).toNat).map fun (k : Nat) => l + (k : Int)
theorem rngL_upto (n : Nat) : rngL 0 n = (upto n).map fun i => .im (.int i) := by unfold rngL upto; rw [List.map_map]; apply List.map_congr_left; intro k _; simp
theorem k_rngN {n : Nat} (h : Must (n < 1000000000)) : rngK [.im (.int (n : Int))] S = .ok ((upto n).map fun i => .im (.int i)) S := by
  have h : n < 1000000000 := h
  rw [rngK, if_pos (by omega), rngL_upto, Int.toNat_natCast]
theorem k_rng1 {n : Int} (h : Must (n.natAbs < 4611686018427387904)) : rngK [.im (.int n)] S = .ok ((upto n.toNat).map fun i => .im (.int i)) S := by
  rw [rngK, if_pos (by exact h), rngL_upto]
theorem k_rng2 {l n : Int} (h : Must (l.natAbs < 4611686018427387904)) (h2 : Must (n.natAbs < 4611686018427387904)) : rngK [.im (.int l), .im (.int n)] S = .ok ((fromto l n).map fun i => .im (.int i)) S := by
  rw [rngK, if_pos ⟨by exact h, by exact h2⟩]; unfold rngL fromto; rw [List.map_map]; rfl
def enm (L : List α) : List (Int × α) := (upto L.length).zip L
theorem enmL_map {g : α → PyData} (L : List α) : enmL (L.map g) = (enm L).map fun e => .im (.tuple [.int e.1, g e.2]) := by
  unfold enmL enm upto
  rw [List.length_map]
  simp [List.zip_map_left, List.zip_map_right, List.map_map, Function.comp_def, Prod.map]
theorem k_enmL {g : α → PyData} {L : List α} : enmK (.im (.list (L.map g))) S = .ok ((enm L).map fun e => .im (.tuple [.int e.1, g e.2])) S := by rw [enmK, enmL_map]
theorem k_enmT {g : α → PyData} {L : List α} : enmK (.im (.tuple (L.map g))) S = .ok ((enm L).map fun e => .im (.tuple [.int e.1, g e.2])) S := by rw [enmK, enmL_map]
theorem upto_mem {n : Nat} {i : Int} : i ∈ upto n ↔ 0 ≤ i ∧ i < n := by
  unfold upto
  rw [List.mem_map]
  constructor
  · rintro ⟨k, h, rfl⟩; have := List.mem_range.mp h; omega
  · rintro ⟨h1, h2⟩; exact ⟨i.toNat, List.mem_range.mpr (by omega), by omega⟩
theorem fromto_mem {l h i : Int} : i ∈ fromto l h ↔ l ≤ i ∧ i < h := by
  unfold fromto
  rw [List.mem_map]
  constructor
  · rintro ⟨k, h, rfl⟩; have := List.mem_range.mp h; omega
  · rintro ⟨h1, h2⟩; exact ⟨(i - l).toNat, List.mem_range.mpr (by omega), by omega⟩
@[simp] theorem upto_len {n : Nat} : (upto n).length = n := by simp [upto]
theorem enm_len (L : List α) : (enm L).length = L.length := by simp [enm]
theorem enm_get? (L : List α) (n : Nat) : (enm L)[n]? = (L[n]?).map fun a => ((n : Int), a) := by
  unfold enm upto
  rw [List.zip_eq_zipWith, List.getElem?_zipWith, List.getElem?_map]
  by_cases h : n < L.length
  · rw [List.getElem?_range h, List.getElem?_eq_getElem h]; rfl
  · rw [List.getElem?_eq_none (by simpa using h), List.getElem?_eq_none (by simpa using h)]; rfl
theorem enm_mem [Inhabited α] {L : List α} {e : Int × α} (h : e ∈ enm L) : 0 ≤ e.1 ∧ e.1 < L.length ∧ e.2 = gt L e.1 ∧ e.2 ∈ L := by
  obtain ⟨n, hn⟩ := List.getElem?_of_mem h
  rw [enm_get?] at hn
  cases h2 : L[n]? with
  | none => rw [h2] at hn; cases hn
  | some a =>
    rw [h2] at hn
    have : e = ((n : Int), a) := (Option.some.inj hn).symm
    subst this
    obtain ⟨h3, h4⟩ := List.getElem?_eq_some_iff.mp h2
    refine ⟨by show (0 : Int) ≤ (n : Int); omega, by show (n : Int) < _; omega, ?_, List.mem_of_getElem? h2⟩
    show a = gt L (n : Int)
    unfold gt
    rw [List.getD_eq_getElem?_getD, Int.toNat_natCast, h2]
    rfl
end
end DL
end

section
set_option maxRecDepth 100000
/-! DV2: rules of operators, built-ins, methods, comprehensions, statements. Ours. -/
namespace DL
open PySem PySem.Spec PyProof.Rows
theorem shaped_of {α : Type} {f : α → PyData} {n : Nat} [h : Shp f n] (hn : n ≤ 60) (a : α) : SeqAt.shaped (f a) = true := by
  unfold SeqAt.shaped
  have := h.dep a
  rw [h.lay a, Bool.true_and, decide_eq_true_eq]
  omega
theorem shp_list {α : Type} {f : α → PyData} {n : Nat} [h : Shp f n] (xs : List α) : PyData.canLayAll0 (xs.map f) = true ∧ PyData.depthAll (xs.map f) ≤ n := by
  induction xs with
  | nil => exact ⟨by simp [PyData.canLayAll0], by simp [PyData.depthAll]⟩
  | cons a r ih =>
    rw [List.map_cons, PyData.canLayAll0, PyData.depthAll, h.lay a, ih.1]
    have := h.dep a
    exact ⟨rfl, by omega⟩
theorem eqv_list {α : Type} {f : α → PyData} [h : Eqv f] : ∀ xs ys : List α, PyData.eqvAll (xs.map f) (ys.map f) = true ↔ xs = ys
  | [], [] => by simp [PyData.eqvAll]
  | [], _ :: _ => by simp [PyData.eqvAll]
  | _ :: _, [] => by simp [PyData.eqvAll]
  | x :: xs, y :: ys => by
    rw [List.map_cons, List.map_cons, PyData.eqvAll, Bool.and_eq_true, h.eqv, eqv_list xs ys, List.cons.injEq]
instance : Shp PyData.int 0 := ⟨fun _ => by simp [PyData.canLay0], fun _ => by simp [PyData.depth]⟩
instance : Eqv PyData.int := ⟨fun a b => by simp [PyData.eqv]⟩
instance : Shp PyData.bool 0 := ⟨fun _ => by simp [PyData.canLay0], fun _ => by simp [PyData.depth]⟩
instance : Eqv PyData.bool := ⟨fun a b => by simp [PyData.eqv]⟩
instance {α : Type} {f : α → PyData} {n : Nat} [h : Shp f n] : Shp (fun xs : List α => PyData.tuple (xs.map f)) (n + 1) := ⟨fun xs => by simp [PyData.canLay0, shp_list xs], fun xs => by rw [PyData.depth]; have := (shp_list (f := f) xs).2; omega⟩
instance {α : Type} {f : α → PyData} {n : Nat} [h : Shp f n] : Shp (fun xs : List α => PyData.list (xs.map f)) (n + 1) := ⟨fun xs => by simp [PyData.canLay0, shp_list xs], fun xs => by rw [PyData.depth]; have := (shp_list (f := f) xs).2; omega⟩
instance {α : Type} {f : α → PyData} [h : Eqv f] : Eqv (fun xs : List α => PyData.tuple (xs.map f)) := ⟨fun xs ys => by rw [PyData.eqv]; exact eqv_list xs ys⟩
instance {α : Type} {f : α → PyData} [h : Eqv f] : Eqv (fun xs : List α => PyData.list (xs.map f)) := ⟨fun xs ys => by rw [PyData.eqv]; exact eqv_list xs ys⟩
theorem shp_tup {α : Type} {f : α → PyData} {n : Nat} [h : Shp f n] (hn : n ≤ 50) (xs : List α) : SeqAt.shaped (.tuple (xs.map f)) = true := shaped_of (f := fun xs : List α => PyData.tuple (xs.map f)) (by omega) xs
theorem shp_lst {α : Type} {f : α → PyData} {n : Nat} [h : Shp f n] (hn : n ≤ 50) (xs : List α) : SeqAt.shaped (.list (xs.map f)) = true := shaped_of (f := fun xs : List α => PyData.list (xs.map f)) (by omega) xs
section
variable {Φ : String → List D → M D} {env : Env} {S S1 S2 S3 S4 : Mem} {x y z d : D} {i j : Int} {u v : Str} {p q : Bool} {xs ys : List PyData} {α β : Type} {g : α → PyData} {L : List α} {f h : α → Int}
theorem ai_nil : allIm [] = some [] := rfl
theorem ai_cons {p : PyData} {ds : List D} (h : allIm ds = some xs) : allIm (.im p :: ds) = some (p :: xs) := by show (allIm ds).map (p :: ·) = _; rw [h]; rfl
/-! ### operators -/
theorem o_addI : binD .Add (.im (.int i)) (.im (.int j)) S = .ok (.im (.int (i + j))) S := rfl
theorem o_addL (h : Must (xs.length + ys.length ≤ 1000000)) : binD .Add (.im (.list xs)) (.im (.list ys)) S = .ok (.im (.list (xs ++ ys))) S := by
  show (if xs.length + ys.length ≤ sizeLine then _ else _) = _
  rw [if_pos (szL h)]
theorem o_addT (h : Must (xs.length + ys.length ≤ 1000000)) : binD .Add (.im (.tuple xs)) (.im (.tuple ys)) S = .ok (.im (.tuple (xs ++ ys))) S := by
  show (if xs.length + ys.length ≤ sizeLine then _ else _) = _
  rw [if_pos (szL h)]
theorem o_addR {n : Nat} (hm : S[n]? = some (.lst xs)) (h : binD .Add (.im (.list xs)) y S = .ok z S1) : binD .Add (.rf n) y S = .ok z S1 := by
  rw [← h]
  show addD _ _ _ = addD _ _ _
  unfold addD imOf
  simp only [hm]
theorem m_madI {n : Nat} (h : Must (xs.length + ys.length ≤ 1000000)) (h3 : S.length = n) (h4 : S ++ [.lst (xs ++ ys)] = S2) : maddD (.im (.list xs)) (.im (.list ys)) S = .ok (.rf n) S2 := by
  show (if xs.length + ys.length ≤ sizeLine then _ else _) = _
  rw [if_pos (szL h), h3, h4]
theorem m_madR {m n : Nat} (hm : S[m]? = some (.lst xs)) (h : Must (xs.length + ys.length ≤ 1000000)) (h3 : S.length = n) (h4 : S ++ [.lst (xs ++ ys)] = S2) : maddD (.rf m) (.im (.list ys)) S = .ok (.rf n) S2 := by
  unfold maddD imOf
  simp only [hm]
  rw [if_pos (szL h), h3, h4]
theorem o_subI : binD .Sub (.im (.int i)) (.im (.int j)) S = .ok (.im (.int (i - j))) S := rfl
theorem o_mulI (h : Must ((-18446744073709551616 < i ∧ i < 18446744073709551616) ∨ (-18446744073709551616 < j ∧ j < 18446744073709551616))) : binD .Mult (.im (.int i)) (.im (.int j)) S = .ok (.im (.int (i * j))) S := by
  show (if _ then _ else _) = _
  rw [if_pos (by exact h)]
theorem o_modI (h : Must (j ≠ 0)) : binD .Mod (.im (.int i)) (.im (.int j)) S = .ok (.im (.int (i.fmod j))) S := by
  show (if _ then _ else _) = _
  rw [if_pos (by exact h)]
theorem o_divI (h : Must (j ≠ 0 ∧ j.natAbs < 1073741824)) : binD .FloorDiv (.im (.int i)) (.im (.int j)) S = .ok (.im (.int (i.fdiv j))) S := by
  show (if _ then _ else _) = _
  rw [if_pos (by exact h)]
theorem o_neg : negD (.im (.int i)) S = .ok (.im (.int (-i))) S := rfl
theorem o_not : notD (.im (.bool p)) S = .ok (.im (.bool (!p))) S := rfl
/-! ### comparisons -/
theorem cq {a b : D} {q : Bool} (h : eqP S a b = some q) : cmpP S .Eq a b = some q := by
  show eqN S a b = some q
  unfold eqN
  rw [h]
theorem cn {a b : D} : cmpP S .NotEq a b = (eqM S a b).map (!·) := rfl
theorem eqM_of {a b : D} {r : Bool} (h : eqP S a b = some r) : eqM S a b = some r := by unfold eqM; rw [h]
theorem ci {a b : D} : cmpP S .In a b = inP S a b := rfl
theorem cni {a b : D} : cmpP S .NotIn a b = (inP S a b).map (!·) := rfl
theorem c_eqI : cmpP S .Eq (.im (.int i)) (.im (.int j)) = some (decide (i = j)) := by
  refine cq ?_
  simp [eqP, imOf, shaped_int, eq_int]
theorem c_neI : cmpP S .NotEq (.im (.int i)) (.im (.int j)) = some (!decide (i = j)) := by
  rw [cn]
  simp [eqM, eqP, imOf, shaped_int, eq_int]
theorem c_eqS : cmpP S .Eq (.im (.str u)) (.im (.str v)) = some (u == v) := rfl
theorem c_neS : cmpP S .NotEq (.im (.str u)) (.im (.str v)) = some (!(u == v)) := rfl
theorem c_ltI : cmpP S .Lt (.im (.int i)) (.im (.int j)) = some (decide (i < j)) := rfl
theorem c_gtI : cmpP S .Gt (.im (.int i)) (.im (.int j)) = some (decide (j < i)) := rfl
theorem c_leI : cmpP S .LtE (.im (.int i)) (.im (.int j)) = some (decide (i ≤ j)) := rfl
theorem c_geI : cmpP S .GtE (.im (.int i)) (.im (.int j)) = some (decide (j ≤ i)) := rfl
theorem eqP_im {a b : PyData} (h1 : SeqAt.shaped a = true) (h2 : SeqAt.shaped b = true) : eqP S (.im a) (.im b) = some (PyData.eqv a b) := by
  unfold eqP imOf
  cases a <;> cases b <;> simp_all [PyData.eqv]
theorem eqM_im {a b : PyData} (h1 : SeqAt.shaped a = true) (h2 : SeqAt.shaped b = true) : eqM S (.im a) (.im b) = some (PyData.eqv a b) := eqM_of (eqP_im h1 h2)
theorem c_eqF [DecidableEq α] {n : Nat} [Shp g n] [Eqv g] {a b : α} (hn : n ≤ 60 := by decide) : cmpP S .Eq (.im (g a)) (.im (g b)) = some (decide (a = b)) := by
  refine cq ?_
  rw [eqP_im (shaped_of hn a) (shaped_of hn b), Option.some.injEq, Bool.eq_iff_iff, Eqv.eqv, decide_eq_true_eq]
theorem c_neF [DecidableEq α] {n : Nat} [Shp g n] [Eqv g] {a b : α} (hn : n ≤ 60 := by decide) : cmpP S .NotEq (.im (g a)) (.im (g b)) = some (!decide (a = b)) := by
  rw [cn]
  have e : eqP S (.im (g a)) (.im (g b)) = some (decide (a = b)) := by
    rw [eqP_im (shaped_of hn a) (shaped_of hn b), Option.some.injEq, Bool.eq_iff_iff, Eqv.eqv, decide_eq_true_eq]
  rw [eqM_of e]; rfl
theorem eqv_nilL : PyData.eqv (.list (L.map g)) (.list []) = L.isEmpty := by cases L <;> simp [PyData.eqv, PyData.eqvAll]
theorem eqv_nilT : PyData.eqv (.tuple (L.map g)) (.tuple []) = L.isEmpty := by cases L <;> simp [PyData.eqv, PyData.eqvAll]
theorem c_eq0L {n : Nat} [Shp g n] (hn : n ≤ 50 := by decide) : cmpP S .Eq (.im (.list (L.map g))) (.im (.list [])) = some L.isEmpty := by
  refine cq ?_
  rw [eqP_im (shp_lst hn L) (show SeqAt.shaped (.list []) = true from shaped_lst []), eqv_nilL]
theorem c_ne0L {n : Nat} [Shp g n] (hn : n ≤ 50 := by decide) : cmpP S .NotEq (.im (.list (L.map g))) (.im (.list [])) = some (!L.isEmpty) := by
  rw [cn]
  rw [eqM_im (shp_lst hn L) (show SeqAt.shaped (.list []) = true from shaped_lst []), eqv_nilL]; rfl
theorem c_eq0T {n : Nat} [Shp g n] (hn : n ≤ 50 := by decide) : cmpP S .Eq (.im (.tuple (L.map g))) (.im (.tuple [])) = some L.isEmpty := by
  refine cq ?_
  rw [eqP_im (shp_tup hn L) (show SeqAt.shaped (.tuple []) = true from shaped_tup []), eqv_nilT]
theorem c_ne0T {n : Nat} [Shp g n] (hn : n ≤ 50 := by decide) : cmpP S .NotEq (.im (.tuple (L.map g))) (.im (.tuple [])) = some (!L.isEmpty) := by
  rw [cn]
  rw [eqM_im (shp_tup hn L) (show SeqAt.shaped (.tuple []) = true from shaped_tup []), eqv_nilT]; rfl
theorem any_map [Eqv g] [DecidableEq α] (a : α) (L : List α) : ((L.map g).any fun z => PyData.eqv z (g a)) = decide (a ∈ L) := by
  rw [Bool.eq_iff_iff, List.any_eq_true, decide_eq_true_eq]
  constructor
  · rintro ⟨d, hd, e⟩
    obtain ⟨b, hb, rfl⟩ := List.mem_map.mp hd
    rw [Eqv.eqv] at e
    rw [← e]; exact hb
  · intro h
    exact ⟨g a, List.mem_map_of_mem h, (Eqv.eqv _ _).mpr rfl⟩
theorem c_inT [DecidableEq α] {n : Nat} [Shp g n] [Eqv g] {a : α} (hn : n ≤ 50 := by decide) : cmpP S .In (.im (g a)) (.im (.tuple (L.map g))) = some (decide (a ∈ L)) := by
  rw [ci]
  simp only [inP, imOf, shaped_of (f := g) (show n ≤ 60 by omega) a, shp_tup hn L, any_map, and_self, if_true]
theorem c_inL [DecidableEq α] {n : Nat} [Shp g n] [Eqv g] {a : α} (hn : n ≤ 50 := by decide) : cmpP S .In (.im (g a)) (.im (.list (L.map g))) = some (decide (a ∈ L)) := by
  rw [ci]
  simp only [inP, imOf, shaped_of (f := g) (show n ≤ 60 by omega) a, shp_lst hn L, any_map, and_self, if_true]
theorem c_inTI {f : α → Int} : cmpP S .In (.im (.int i)) (.im (.tuple (L.map fun a => PyData.int (f a)))) = some (decide (i ∈ L.map f)) := by
  have := c_inT (S := S) (g := PyData.int) (L := L.map f) (a := i)
  rw [List.map_map] at this
  exact this
theorem c_inLI {f : α → Int} : cmpP S .In (.im (.int i)) (.im (.list (L.map fun a => PyData.int (f a)))) = some (decide (i ∈ L.map f)) := by
  have := c_inL (S := S) (g := PyData.int) (L := L.map f) (a := i)
  rw [List.map_map] at this
  exact this
theorem c_inR {f : α → Int} {n : Nat} (hm : S[n]? = some (.lst (L.map fun a => PyData.int (f a)))) : cmpP S .In (.im (.int i)) (.rf n) = some (decide (i ∈ L.map f)) := by
  have := c_inL (S := S) (g := PyData.int) (L := L.map f) (a := i)
  rw [List.map_map] at this
  rw [← this, ci, ci]
  have e : imOf S (.rf n) = imOf S (.im (.list (L.map (PyData.int ∘ f)))) := by
    simp only [imOf, hm]
    rfl
  unfold inP
  rw [e]; rfl
theorem o_add1 {p : PyData} (h : Must (1 + ys.length ≤ 1000000)) : binD .Add (.im (.list [p])) (.im (.list ys)) S = .ok (.im (.list (p :: ys))) S := o_addL h
theorem o_addLm {A B : List α} (h : Must (A.length + B.length ≤ 1000000)) : binD .Add (.im (.list (A.map g))) (.im (.list (B.map g))) S = .ok (.im (.list ((A ++ B).map g))) S := by
  rw [List.map_append]
  exact o_addL (by rw [List.length_map, List.length_map]; exact h)
theorem o_addTm {A B : List α} (h : Must (A.length + B.length ≤ 1000000)) : binD .Add (.im (.tuple (A.map g))) (.im (.tuple (B.map g))) S = .ok (.im (.tuple ((A ++ B).map g))) S := by
  rw [List.map_append]
  exact o_addT (by rw [List.length_map, List.length_map]; exact h)
theorem c_nin {a b : D} (h : cmpP S .In a b = some p) : cmpP S .NotIn a b = some (!p) := by
  rw [cni]
  have : inP S a b = some p := h
  rw [this]; rfl
theorem c_in2 {a b : Int} : cmpP S .In (.im (.int i)) (.im (.tuple [.int a, .int b])) = some (decide (i = a) || decide (i = b)) := by
  have := c_inT (S := S) (g := PyData.int) (L := [a, b]) (a := i)
  have e : [a, b].map PyData.int = [.int a, .int b] := rfl
  rw [e] at this
  rw [this, Option.some.injEq]
  by_cases h1 : i = a <;> by_cases h2 : i = b <;> simp [h1, h2]
/-! ### subscripts -/
theorem ixA_gx [Inhabited α] (h : -(L.length : Int) ≤ i ∧ i < L.length) : ixA (L.map g) i = some (g (gx L i)) := by
  unfold ixA gx
  rw [List.length_map]
  by_cases h0 : 0 ≤ i
  · have hl : i.toNat < L.length := by omega
    rw [if_pos h0, if_pos h0, List.getElem?_map, List.getD_eq_getElem?_getD, List.getElem?_eq_getElem hl]; rfl
  · have hl : (i + L.length).toNat < L.length := by omega
    rw [if_neg h0, if_neg h0, if_pos (by omega), List.getElem?_map, List.getD_eq_getElem?_getD, List.getElem?_eq_getElem hl]; rfl
theorem x_T [Inhabited α] (h : Must (0 ≤ i ∧ i < L.length)) : idxD (.im (.tuple (L.map g))) (.im (.int i)) S = .ok (.im (g (gt L i))) S := by
  unfold idxD seqOf imOf
  have h : 0 ≤ i ∧ i < L.length := h
  dsimp only
  rw [ixA_gx ⟨by omega, h.2⟩, gx_pos h.1]
theorem x_L [Inhabited α] (h : Must (0 ≤ i ∧ i < L.length)) : idxD (.im (.list (L.map g))) (.im (.int i)) S = .ok (.im (g (gt L i))) S := by
  unfold idxD seqOf imOf
  have h : 0 ≤ i ∧ i < L.length := h
  dsimp only
  rw [ixA_gx ⟨by omega, h.2⟩, gx_pos h.1]
theorem x_R {n : Nat} (hm : S[n]? = some (.lst xs)) (h : idxD (.im (.list xs)) y S = .ok z S1) : idxD (.rf n) y S = .ok z S1 := by
  rw [← h]
  unfold idxD seqOf imOf
  simp only [hm]
  cases y with
  | rf i => rfl
  | im p => cases p <;> rfl
/-- a list of plain numbers, texts.. written in the text -/
theorem x_lit {p : PyData} (h : Must (ixA xs i = some p)) : idxD (.im (.list xs)) (.im (.int i)) S = .ok (.im p) S := by
  unfold idxD seqOf imOf
  have h : ixA xs i = some p := h
  dsimp only
  rw [h]
/-! ### built-ins -/
theorem b_lenL : biD .len [.im (.list xs)] S = .ok (.im (.int xs.length)) S := rfl
theorem b_lenT : biD .len [.im (.tuple xs)] S = .ok (.im (.int xs.length)) S := rfl
theorem b_lenLm : biD .len [.im (.list (L.map g))] S = .ok (.im (.int L.length)) S := by rw [b_lenL, List.length_map]
theorem b_lenTm : biD .len [.im (.tuple (L.map g))] S = .ok (.im (.int L.length)) S := by rw [b_lenT, List.length_map]
theorem b_lenR {n : Nat} (hm : S[n]? = some (.lst (L.map g))) : biD .len [.rf n] S = .ok (.im (.int L.length)) S := by
  show lenD _ _ = _
  unfold lenD imOf
  simp only [hm, List.length_map]
theorem b_int : biD .int [.im (.bool p)] S = .ok (.im (.int (b2i p))) S := rfl
theorem b_intI : biD .int [.im (.int i)] S = .ok (.im (.int i)) S := rfl
theorem b_min2 : biD .min2 [.im (.int i), .im (.int j)] S = .ok (.im (.int (min i j))) S := by
  show Res.ok _ _ = _
  congr 3
  show (if j < i then j else i) = _
  split <;> omega
theorem b_max2 : biD .max2 [.im (.int i), .im (.int j)] S = .ok (.im (.int (max i j))) S := by
  show Res.ok _ _ = _
  congr 3
  show (if j > i then j else i) = _
  split <;> omega
theorem allInts_map {f : α → Int} : allInts (L.map fun a => PyData.int (f a)) = some (L.map f) := by
  have := allInts_iL (L.map f)
  unfold iL at this
  rw [List.map_map] at this
  exact this
theorem allInts_int {L : List Int} : allInts (L.map PyData.int) = some L := allInts_iL L
theorem allInts_app {xs ys : List PyData} {a b : List Int} (h1 : allInts xs = some a) (h2 : allInts ys = some b) : allInts (xs ++ ys) = some (a ++ b) := by
  revert a
  induction xs with
  | nil => intro a h1; cases h1; exact h2
  | cons x r ih =>
    intro a h1
    cases x with
    | int k =>
      have h1' : (allInts r).map (k :: ·) = some a := h1
      cases e : allInts r with
      | none => rw [e] at h1'; cases h1'
      | some c =>
        rw [e] at h1'
        have ee : a = k :: c := (Option.some.inj h1').symm
        subst ee
        show (allInts (r ++ ys)).map (k :: ·) = _
        rw [ih e]; rfl
    | _ => cases h1
theorem allInts_cons {r : List PyData} {b : List Int} (h : allInts r = some b) : allInts (.int i :: r) = some (i :: b) := by
  show (allInts r).map (i :: ·) = _
  rw [h]; rfl
theorem b_max1 {ns : List Int} (h : allInts xs = some (i :: ns)) : biD .max1 [.im (.list xs)] S = .ok (.im (.int (maxL i ns))) S := by
  show max1D _ _ = _
  unfold max1D intsOf imOf
  simp only [h]
theorem b_min1 {ns : List Int} (h : allInts xs = some (i :: ns)) : biD .min1 [.im (.list xs)] S = .ok (.im (.int (minL i ns))) S := by
  show min1D _ _ = _
  unfold min1D intsOf imOf
  simp only [h]
theorem b_sum {ns : List Int} (h : allInts xs = some ns) : biD .sum [.im (.list xs)] S = .ok (.im (.int ns.sum)) S := by
  show sumD _ _ = _
  unfold sumD intsOf imOf
  simp only [h]
def minD0 (d : Int) : List Int → Int
  | [] => d
  | i :: r => minL i r
theorem b_mdf {ns : List Int} (h : allInts xs = some ns) : mdfK (.im (.list xs)) (.im (.int i)) S = .ok (.im (.int (minD0 i ns))) S := by
  unfold mdfK intsOf imOf
  simp only [h]
  cases ns <;> rfl
theorem b_all {f : α → Bool} : biD .all [.im (.list (L.map fun a => PyData.bool (f a)))] S = .ok (.im (.bool (L.all f))) S := all_map L f S
theorem any_mapD {f : α → Bool} : biD .any [.im (.list (L.map fun a => PyData.bool (f a)))] S = .ok (.im (.bool (L.any f))) S := by
  show anyD _ _ = _
  unfold anyD boolsOf imOf
  simp only [allB_map, List.any_map]
  rfl
theorem allInts_ofM {xs : List PyData} : ∀ {L : List Int}, allInts xs = some L → xs = L.map PyData.int := by
  induction xs with
  | nil => intro L h; cases h; rfl
  | cons x r ih =>
    intro L h
    cases x with
    | int k =>
      have h : (allInts r).map (k :: ·) = some L := h
      cases e : allInts r with
      | none => rw [e] at h; cases h
      | some c => rw [e] at h; cases h; rw [ih e]; rfl
    | _ => cases h
theorem o_addI1 {ns : List Int} (h : allInts ys = some ns) (hl : Must (1 + ns.length ≤ 1000000)) : binD .Add (.im (.list [.int i])) (.im (.list ys)) S = .ok (.im (.list ((i :: ns).map PyData.int))) S := by
  rw [allInts_ofM h]
  exact o_addL (by rw [List.length_map]; exact hl)
theorem o_addII {ms ns : List Int} (h0 : allInts xs = some ms) (h : allInts ys = some ns) (hl : Must (ms.length + ns.length ≤ 1000000)) : binD .Add (.im (.list xs)) (.im (.list ys)) S = .ok (.im (.list ((ms ++ ns).map PyData.int))) S := by
  rw [allInts_ofM h, allInts_ofM h0, List.map_append]
  exact o_addL (by rw [List.length_map, List.length_map]; exact hl)
theorem b_tupL : biD .tuple [.im (.list xs)] S = .ok (.im (.tuple xs)) S := rfl
theorem b_tupT : biD .tuple [.im (.tuple xs)] S = .ok (.im (.tuple xs)) S := rfl
theorem b_tupR {n : Nat} (hm : S[n]? = some (.lst xs)) : biD .tuple [.rf n] S = .ok (.im (.tuple xs)) S := by
  show tupleD _ _ = _
  unfold tupleD seqOf imOf
  simp only [hm]
theorem b_list {ys : List PyData} (h : seqOf S x = some xs) : biD .list [x] S = .ok (.im (.list xs)) S := by
  show listD _ _ = _
  unfold listD
  rw [h]
theorem b_mlist (h : seqOf S x = some xs) {n : Nat} (h3 : S.length = n) (h4 : S ++ [.lst xs] = S2) : biD .mlist [x] S = .ok (.rf n) S2 := by
  show mlistD _ _ = _
  unfold mlistD
  rw [h]
  dsimp only
  rw [h3, h4]
theorem seq_L : seqOf S (.im (.list xs)) = some xs := rfl
theorem seq_T : seqOf S (.im (.tuple xs)) = some xs := rfl
theorem seq_R {n : Nat} (hm : S[n]? = some (.lst xs)) : seqOf S (.rf n) = some xs := by
  unfold seqOf imOf
  simp only [hm]
theorem b_sortI {f : α → Int} (h : seqOf S x = some (L.map fun a => PyData.int (f a))) : biD .sorted [x] S = .ok (.im (.list (sortP ((L.map f).map PyData.int)))) S := by
  show sortedD _ _ = _
  unfold sortedD
  have := canSort_ints (L.map f)
  unfold iL at this
  have e : (L.map fun a => PyData.int (f a)) = (L.map f).map PyData.int := by rw [List.map_map]; rfl
  rw [h, e]
  dsimp only
  rw [if_pos this]
/-! ### methods -/
theorem srs_I {ns : List Int} (h : seqOf S x = some xs) (h2 : allInts xs = some ns) (h3 : Must (ns.length < 64)) : srsK x S = .ok (.im (.list ((srtI ns).map PyData.int))) S := by
  have h3 : ns.length < 64 := h3
  have := nodup_len (dd ns) ns dd_nodup fun x hx => dd_mem.mp hx
  unfold srsK
  rw [h]
  dsimp only
  rw [h2]
  dsimp only
  rw [if_pos ⟨by omega, by omega⟩]
theorem r_app {n : Nat} (hm : S[n]? = some (.lst xs)) : rcvK .append (.rf n) S = .ok (.rf n) S := by unfold rcvK; simp only [hm]
theorem r_ext {n : Nat} (hm : S[n]? = some (.lst xs)) : rcvK .extend (.rf n) S = .ok (.rf n) S := by unfold rcvK; simp only [hm]
theorem r_pop0 {n : Nat} (hm : S[n]? = some (.lst xs)) : rcvK .pop0 (.rf n) S = .ok (.rf n) S := by unfold rcvK; simp only [hm]
theorem r_pop1 {n : Nat} (hm : S[n]? = some (.lst xs)) : rcvK .pop1 (.rf n) S = .ok (.rf n) S := by unfold rcvK; simp only [hm]
theorem r_idx (h : seqOf S x = some xs) : rcvK .index x S = .ok x S := by unfold rcvK; simp only [h]
theorem m_app {n : Nat} {p : PyData} (hm : S[n]? = some (.lst xs)) (h : Must (xs.length < 1000000)) (h2 : S.set n (.lst (xs ++ [p])) = S2) : mtD .append (.rf n) [.im p] S = .ok (.im .none) S2 := by
  rw [show mtD .append (.rf n) [.im p] S = appendD (.rf n) (.im p) S from rfl]
  unfold appendD
  have h : xs.length < 1000000 := h
  have := sizeLine_eq
  simp only [hm]
  rw [if_pos (by omega), h2]
theorem m_ext {n : Nat} (hm : S[n]? = some (.lst xs)) (hy : seqOf S y = some ys) (h : Must (xs.length + ys.length ≤ 1000000)) (h2 : S.set n (.lst (xs ++ ys)) = S2) : mtD .extend (.rf n) [y] S = .ok (.im .none) S2 := by
  rw [show mtD .extend (.rf n) [y] S = extendD (.rf n) y S from rfl]
  unfold extendD
  simp only [hm, hy]
  rw [if_pos (szL h), h2]
/-! ### comprehensions -/
variable {own : List (Str × Nat)} {elt : Ex} {tg : Tg} {it : It} {ifs : Exs} {enc : α → D} {E1 : α → Env} {pr : α → Bool} {out : α → PyData}
theorem turn_ok {a : α} {S : Mem} {env0 : Env} (h2 : asgT tg (enc a) env0 S = some (E1 a)) (h3 : evB Φ true ifs (E1 a) S = .ok (.im (.bool (pr a))) S) (h4 : pr a = true → ev Φ elt (E1 a) S = .ok (.im (out a)) S) :
    (match asgT tg (enc a) env0 S with
      | some env' => M.bind (evB Φ true ifs env') (fun r => M.bind (tstD r) fun t => if t = true then M.bind (ev Φ elt env') itemK else skipK) S
      | none => .bad) = .ok (if pr a = true then some (out a) else none) S := by
  rw [h2]
  dsimp only
  rw [bind_okE h3]
  have e2 : tstD (.im (.bool (pr a))) S = .ok (pr a) S := rfl
  rw [bind_okE e2]
  cases h : pr a with
  | false => rfl
  | true => rw [if_pos rfl, bind_okE (h4 h)]; rfl
theorem v_cmpr (hi : evI Φ it env S = .ok (L.map enc) S1) (h2 : ∀ a ∈ L, asgT tg (enc a) (wipeE env (own.map (·.2))) S1 = some (E1 a)) (h3 : ∀ a ∈ L, evB Φ true ifs (E1 a) S1 = .ok (.im (.bool (pr a))) S1) (h4 : ∀ a ∈ L, pr a = true → ev Φ elt (E1 a) S1 = .ok (.im (out a)) S1) (hl : Must (L.length ≤ 1000000)) :
    ev Φ (.cmpr own elt tg it ifs) env S = .ok (.im (.list ((L.filter pr).map out))) S1 := by
  rw [ev, bind_okE hi]
  exact cmp_map L enc pr out hl fun a ha => turn_ok (h2 a ha) (h3 a ha) (h4 a ha)
/-- without a test -/
theorem v_cmp0 (hi : evI Φ it env S = .ok (L.map enc) S1) (h2 : ∀ a ∈ L, asgT tg (enc a) (wipeE env (own.map (·.2))) S1 = some (E1 a)) (h4 : ∀ a ∈ L, ev Φ elt (E1 a) S1 = .ok (.im (out a)) S1) (hl : Must (L.length ≤ 1000000)) :
    ev Φ (.cmpr own elt tg it .nil) env S = .ok (.im (.list (L.map out))) S1 := by
  have := v_cmpr (elt := elt) (pr := fun _ => true) (ifs := .nil) hi h2 (fun a _ => vb_nil) (fun a ha _ => h4 a ha) hl
  rw [this, List.filter_eq_self.mpr fun _ _ => rfl]
theorem gF_id {gd : Mem → Prop} {f : D → M (Option PyData)} {e : D} (h : gd S) : gF gd f e S = f e S := by
  unfold gF; rw [if_pos h]
open Classical in
/-- over a name's own list -/
theorem v_cmr {v n : Nat} {gg : α → PyData} (hv : env[v]? = some (some (.rf n))) (hm : S[n]? = some (.lst (L.map gg))) (h2 : ∀ a ∈ L, asgT tg (.im (gg a)) (wipeE env (own.map (·.2))) S = some (E1 a)) (h3 : ∀ a ∈ L, evB Φ true ifs (E1 a) S = .ok (.im (.bool (pr a))) S) (h4 : ∀ a ∈ L, pr a = true → ev Φ elt (E1 a) S = .ok (.im (out a)) S) (hl : Must (L.length ≤ 1000000)) :
    ev Φ (.cmr own elt tg v ifs) env S = .ok (.im (.list ((L.filter pr).map out))) S := by
  rw [ev]
  have e1 : getV v env S = .ok (.rf n) S := by unfold getV; rw [hv]
  rw [bind_okE e1]
  unfold rfK
  simp only [hm]
  unfold cmprG
  rw [if_pos (by rw [List.length_map, List.length_map]; exact szL hl)]
  have hg : gOn n (L.map gg) S := hm
  have key : ∀ (l : List α), (∀ a ∈ l, a ∈ L) → compL (gF (gOn n (L.map gg)) fun d S => match asgT tg d (wipeE env (own.map (·.2))) S with
      | some env' => M.bind (evB Φ true ifs env') (fun r => M.bind (tstD r) fun t => if t = true then M.bind (ev Φ elt env') itemK else skipK) S
      | none => .bad) ((l.map gg).map .im) S = .ok ((l.filter pr).map out) S := by
    intro l
    induction l with
    | nil => intro _; rfl
    | cons a r ih =>
      intro hm'
      have t := turn_ok (Φ := Φ) (elt := elt) (tg := tg) (ifs := ifs) (enc := fun a => D.im (gg a)) (h2 a (hm' a List.mem_cons_self)) (h3 a (hm' a List.mem_cons_self)) (h4 a (hm' a List.mem_cons_self))
      rw [List.map_cons, List.map_cons, compL]
      have t2 : gF (gOn n (L.map gg)) (fun d S => match asgT tg d (wipeE env (own.map (·.2))) S with
        | some env' => M.bind (evB Φ true ifs env') (fun r => M.bind (tstD r) fun t => if t = true then M.bind (ev Φ elt env') itemK else skipK) S
        | none => .bad) (.im (gg a)) S = .ok (if pr a = true then some (out a) else none) S := by rw [gF_id hg]; exact t
      rw [bind_okE t2, bind_okE (ih fun b hb => hm' b (List.mem_cons_of_mem _ hb)), List.filter_cons]
      cases pr a <;> rfl
  have k2 := key L fun _ h => h
  show (match compL (gF (gOn n (L.map gg)) fun d S => match asgT tg d (wipeE env (own.map (·.2))) S with
      | some env' => M.bind (evB Φ true ifs env') (fun r => M.bind (tstD r) fun t => if t = true then M.bind (ev Φ elt env') itemK else skipK) S
      | none => .bad) ((L.map gg).map .im) S with
    | .ok ys S' => if gOn n (L.map gg) S' then cmF false ys S' else .bad
    | _ => .bad) = _
  rw [k2]
  dsimp only
  rw [if_pos hg]
  rfl
/-! ### statements -/
variable {K : Ks} {env1 : Env} {r a b : Sms} {e c o k : Ex}
theorem w_asg (h1 : ev Φ e env S = .ok d S1) (h2 : asgT tg d env S1 = some env1) (h3 : wps (execs Φ r env1 S1) K) : wps (execs Φ (.cons (.asg tg e) r) env S) K := by
  rw [wps_cons, wps_asg, h1]
  show asgW _ _ _ _ _
  unfold asgW
  rw [h2]
  exact h3
theorem w_exp (h1 : ev Φ e env S = .ok d S1) (h3 : wps (execs Φ r env S1) K) : wps (execs Φ (.cons (.exp e) r) env S) K := by
  rw [wps_cons, wps_exp, h1]
  exact h3
theorem w_ret (h1 : ev Φ e env S = .ok d S1) (h3 : K.rt d S1) : wps (execs Φ (.cons (.ret e) r) env S) K := by
  rw [wps_cons, wps_ret, h1]
  exact h3
theorem w_retn (h3 : K.rt (.im .none) S) : wps (execs Φ (.cons .retn r) env S) K := by
  rw [wps_cons, wps_retn]
  exact h3
theorem w_rse {n : String} (h3 : K.er n env S) : wps (execs Φ (.cons (.rse n) r) env S) K := by
  rw [wps_cons, wps_rse]
  exact h3
theorem w_nil (h3 : K.nx env S) : wps (execs Φ .nil env S) K := by
  rw [wps_nil]
  exact h3
theorem w_brk (h3 : K.bk env S) : wps (execs Φ (.cons .brk r) env S) K := by
  rw [wps_cons, wps_brk]
  exact h3
theorem w_cnt (h3 : K.ct env S) : wps (execs Φ (.cons .cnt r) env S) K := by
  rw [wps_cons, wps_cnt]
  exact h3
theorem w_iff (h1 : ev Φ c env S = .ok (.im (.bool p)) S1) (h2 : p = true → wps (execs Φ a env S1) { K with nx := fun e S => wps (execs Φ r e S) K }) (h3 : p = false → wps (execs Φ b env S1) { K with nx := fun e S => wps (execs Φ r e S) K }) : wps (execs Φ (.cons (.iff c a b) r) env S) K := by
  rw [wps_cons, wps_iff, h1]
  exact ⟨h2, h3⟩
theorem w_aug {v : Nat} {op : Operator} (h1 : env[v]? = some (some (.im (.int i)))) (h2 : ev Φ e env S = .ok (.im (.int j)) S1) (h3 : augD op (.im (.int i)) (.im (.int j)) S1 = .ok d S1) (h4 : wps (execs Φ r (env.set v (some d)) S1) K) : wps (execs Φ (.cons (.aug v op e) r) env S) K := by
  rw [wps_cons, wps_aug]
  have e1 : getV v env S = .ok (.im (.int i)) S := by unfold getV; rw [h1]
  rw [e1]
  show wpe (ev Φ e env S) _ _
  rw [h2]
  show wpe (augD _ _ _ S1) _ _
  rw [h3]
  exact h4
theorem w_par {i j : Nat} {es : Exs} (h1 : evs Φ es env S = .ok [x, y] S1) (h2 : wps (execs Φ r ((env.set i (some x)).set j (some y)) S1) K) : wps (execs Φ (.cons (.par i j es) r) env S) K := by
  rw [wps_cons]
  have e : exec Φ (.par i j es) env S = .nx ((env.set i (some x)).set j (some y)) S1 := by
    rw [exec, h1]
    rfl
  rw [e]
  exact h2
theorem w_sub (h1 : ev Φ e env S = .ok x S1) (h2 : ev Φ o env S1 = .ok y S2) (h3 : ev Φ k env S2 = .ok z S3) (h4 : setD y z x S3 = some S4) (h5 : wps (execs Φ r env S4) K) : wps (execs Φ (.cons (.sub o k e) r) env S) K := by
  rw [wps_cons, wps_sub, h1]
  show wpe (ev Φ o env S1) _ _
  rw [h2]
  show wpe (ev Φ k env S2) _ _
  rw [h3]
  show (match setD y z x S3 with | some S4 => _ | none => False)
  rw [h4]
  exact h5
theorem w_for {body : Sms} (hit : evI Φ it env S = .ok (L.map enc) S1) (I : List α → Env → Mem → Prop) (h0 : I [] env S1)
    (hs : ∀ pre x post e S, L = pre ++ x :: post → I pre e S → ∃ e1, asgT tg (enc x) e S = some e1 ∧ wps (execs Φ body e1 S) { K with nx := I (pre ++ [x]), ct := I (pre ++ [x]), bk := fun e S => wps (execs Φ r e S) K }) (hx : ∀ e S, I L e S → wps (execs Φ r e S) K) : wps (execs Φ (.cons (.for tg it body) r) env S) K := by
  rw [wps_cons]
  refine wps_for L enc hit I h0 (fun pre x post e S h1 h2 => ?_) hx
  obtain ⟨e1, h3, h4⟩ := hs pre x post e S h1 h2
  unfold asgW
  rw [h3]
  exact h4
/-! ### tests that draw -/
theorem w_iff_or {c : Ex} {cs : Exs} {c0 : Ex} (h1 : ev Φ c0 env S = .ok (.im (.bool p)) S1) (h2 : p = true → wps (execs Φ a env S1) { K with nx := fun e S => wps (execs Φ r e S) K }) (h3 : p = false → wps (execs Φ (.cons (.iff (.bop false (.cons c cs)) a b) r) env S1) K) : wps (execs Φ (.cons (.iff (.bop false (.cons c0 (.cons c cs))) a b) r) env S) K := by
  rw [wps_cons, wps_iff, ev, evB, bind_okE h1]
  have e2 : tstD (.im (.bool p)) S1 = .ok p S1 := rfl
  rw [bind_okE e2]
  cases p with
  | true => show ifW (.im (.bool true)) _ _; exact ⟨fun _ => h2 rfl, fun h => Bool.noConfusion h⟩
  | false =>
    have z := h3 rfl
    rw [wps_cons, wps_iff, ev] at z
    exact z
theorem w_iff_and {c : Ex} {cs : Exs} {c0 : Ex} (h1 : ev Φ c0 env S = .ok (.im (.bool p)) S1) (h2 : p = true → wps (execs Φ (.cons (.iff (.bop true (.cons c cs)) a b) r) env S1) K) (h3 : p = false → wps (execs Φ b env S1) { K with nx := fun e S => wps (execs Φ r e S) K }) : wps (execs Φ (.cons (.iff (.bop true (.cons c0 (.cons c cs))) a b) r) env S) K := by
  rw [wps_cons, wps_iff, ev, evB, bind_okE h1]
  have e2 : tstD (.im (.bool p)) S1 = .ok p S1 := rfl
  rw [bind_okE e2]
  cases p with
  | false => show ifW (.im (.bool false)) _ _; exact ⟨fun h => Bool.noConfusion h, fun _ => h3 rfl⟩
  | true =>
    have z := h2 rfl
    rw [wps_cons, wps_iff, ev] at z
    exact z
end
/-! ### calls -/
section
variable {P : List Fn} {k : Nat} {x : String} {f : Sms} {np n : Nat} {args : List D} {S : Mem}
theorem call_v {Q : D → Mem → Prop} {E : String → Mem → Prop} (H : Fd P x f np n) (ha : args.length = np) (hk : 0 < k)
    (hb : wps (execs (callF P (k - 1)) f (args.map some ++ List.replicate (n - np) none) S) (retW S Q E)) : wpe (callF P k x args S) Q E := by
  obtain ⟨g, h, rfl, rfl, rfl⟩ := H.h
  exact call_w h ha hk hb
theorem call_q {v : D} (H : Fd P x f np n) (ha : args.length = np) (hk : 0 < k)
    (hb : wps (execs (callF P (k - 1)) f (args.map some ++ List.replicate (n - np) none) S) (retW S (fun d S' => d = v ∧ S' = S) fun _ _ => False)) : callF P k x args S = .ok v S := by
  obtain ⟨g, h, rfl, rfl, rfl⟩ := H.h
  exact call_p h ha hk hb
theorem call_x {Q : D → Mem → Prop} (H : Fd P x f np n) (ha : args.length = np) (hk : 0 < k)
    (hb : wps (execs (callF P (k - 1)) f (args.map some ++ List.replicate (n - np) none) S) (retW S Q fun _ _ => False)) : ∃ d S', callF P k x args S = .ok d S' ∧ Q d S' := by
  have z := call_v H ha hk hb
  revert z
  cases callF P k x args S with
  | ok d S' => exact fun h => ⟨d, S', rfl, h⟩
  | err c S' => exact fun h => h.elim
  | bad => exact fun h => h.elim
end
/-! ### lists of numbers, of texts, written in the text -/
def allStrs : List PyData → Option (List Str)
  | [] => some []
  | .str i :: r => (allStrs r).map (i :: ·)
  | _ :: _ => none
theorem allInts_of {xs : List PyData} : ∀ {L : List Int}, allInts xs = some L → xs = L.map PyData.int := by
  induction xs with
  | nil => intro L h; cases h; rfl
  | cons x r ih =>
    intro L h
    cases x with
    | int k =>
      have h : (allInts r).map (k :: ·) = some L := h
      cases e : allInts r with
      | none => rw [e] at h; cases h
      | some c => rw [e] at h; cases h; rw [ih e]; rfl
    | _ => cases h
theorem allStrs_of {xs : List PyData} : ∀ {L : List Str}, allStrs xs = some L → xs = L.map PyData.str := by
  induction xs with
  | nil => intro L h; cases h; rfl
  | cons x r ih =>
    intro L h
    cases x with
    | str k =>
      have h : (allStrs r).map (k :: ·) = some L := h
      cases e : allStrs r with
      | none => rw [e] at h; cases h
      | some c => rw [e] at h; cases h; rw [ih e]; rfl
    | _ => cases h
theorem allStrs_cons {i : Str} {r : List PyData} {b : List Str} (h : allStrs r = some b) : allStrs (.str i :: r) = some (i :: b) := by
  show (allStrs r).map (i :: ·) = _
  rw [h]; rfl
instance : Inhabited Str := ⟨""⟩
section
variable {S : Mem} {i : Int} {xs : List PyData}
theorem x_LI {L : List Int} (h : allInts xs = some L) (h2 : Must (0 ≤ i ∧ i < L.length)) : idxD (.im (.list xs)) (.im (.int i)) S = .ok (.im (.int (gt L i))) S := by
  rw [allInts_of h]; exact x_L h2
theorem x_LS {L : List Str} (h : allStrs xs = some L) (h2 : Must (0 ≤ i ∧ i < L.length)) : idxD (.im (.list xs)) (.im (.int i)) S = .ok (.im (.str (gt L i))) S := by
  rw [allStrs_of h]; exact x_L h2
def cutA {α : Type} (xs : List α) (lo hi : Option Int) : List α := (xs.drop (HT.sIx xs.length 0 lo)).take (HT.sIx xs.length xs.length hi - HT.sIx xs.length 0 lo)
theorem cut_map {α : Type} {g : α → PyData} {L : List α} {lo hi : Option Int} : cutL (L.map g) lo hi = (cutA L lo hi).map g := by
  unfold cutL cutA
  rw [List.length_map, List.map_take, List.map_drop]
theorem s_L {α : Type} {g : α → PyData} {L : List α} {lo hi : Option Int} : sliceD (.im (.list (L.map g))) lo hi S = .ok (.im (.list ((cutA L lo hi).map g))) S := by
  rw [← cut_map]; rfl
theorem s_T {α : Type} {g : α → PyData} {L : List α} {lo hi : Option Int} : sliceD (.im (.tuple (L.map g))) lo hi S = .ok (.im (.tuple ((cutA L lo hi).map g))) S := by
  rw [← cut_map]; rfl
theorem dgx {R : Mem} {ns : List Int} {st : Dst} {j : Nat} {o : Ob} (h : R[j]? = some o) : (Sd ns st R)[j + 1]? = some o := h
end
end DL
end

section
set_option maxRecDepth 100000
/-! DV3: the program's small defs. Ours. -/
namespace DL
open PySem PySem.Spec PyProof.Rows
/-! ### news and rows -/
structure Nw where
  w : Str
  d : Int
  who : Int
  o : Int
deriving DecidableEq
noncomputable instance : DecidableEq Fk := fun _ _ => Classical.propDecidable _
def Nw.p (x : Nw) : PyData := .tuple [.str x.w, .int x.d, .int x.who, .int x.o]
structure Rw where
  fo : Int
  men : Str
  wed : Int
  way : Str
deriving DecidableEq
def Rw.p (x : Rw) : PyData := .tuple [.int x.fo, .str x.men, .int x.wed, .str x.way]
instance : Inhabited Fk := ⟨⟨0, 0, 0, 0, 0⟩⟩
instance : Inhabited Nw := ⟨⟨"", 0, 0, 0⟩⟩
instance : Inhabited Rw := ⟨⟨0, "", 0, ""⟩⟩
instance : Eqv Nw.p := ⟨fun a b => by cases a; cases b; simp [Nw.p, PyData.eqv, PyData.eqvAll]⟩
instance : Eqv Fk.p := ⟨fun a b => by cases a; cases b; simp [Fk.p, PyData.eqv, PyData.eqvAll]⟩
instance : Eqv Rw.p := ⟨fun a b => by cases a; cases b; simp [Rw.p, PyData.eqv, PyData.eqvAll]⟩
instance : Shp Fk.p 1 := ⟨fun a => by simp [Fk.p, PyData.canLay0, PyData.canLayAll0], fun a => by simp [Fk.p, PyData.depth, PyData.depthAll]⟩
section
variable {S : Mem} {x : Fk} {n : Nw} {r : Rw}
theorem xf0 : idxD (.im x.p) (.im (.int 0)) S = .ok (.im (.int x.d)) S := rfl
theorem xf1 : idxD (.im x.p) (.im (.int 1)) S = .ok (.im (.int x.f)) S := rfl
theorem xf2 : idxD (.im x.p) (.im (.int 2)) S = .ok (.im (.int x.m)) S := rfl
theorem xf3 : idxD (.im x.p) (.im (.int 3)) S = .ok (.im (.int x.s)) S := rfl
theorem xf4 : idxD (.im x.p) (.im (.int 4)) S = .ok (.im (.int x.w)) S := rfl
theorem xn0 : idxD (.im n.p) (.im (.int 0)) S = .ok (.im (.str n.w)) S := rfl
theorem xn1 : idxD (.im n.p) (.im (.int 1)) S = .ok (.im (.int n.d)) S := rfl
theorem xn2 : idxD (.im n.p) (.im (.int 2)) S = .ok (.im (.int n.who)) S := rfl
theorem xn3 : idxD (.im n.p) (.im (.int 3)) S = .ok (.im (.int n.o)) S := rfl
theorem xr0 : idxD (.im r.p) (.im (.int 0)) S = .ok (.im (.int r.fo)) S := rfl
theorem xr1 : idxD (.im r.p) (.im (.int 1)) S = .ok (.im (.str r.men)) S := rfl
theorem xr2 : idxD (.im r.p) (.im (.int 2)) S = .ok (.im (.int r.wed)) S := rfl
theorem xr3 : idxD (.im r.p) (.im (.int 3)) S = .ok (.im (.str r.way)) S := rfl
theorem sf13 : sliceD (.im x.p) (some 1) (some 3) S = .ok (.im (.tuple [.int x.f, .int x.m])) S := rfl
end
def chd (fs : List Fk) (w : Int) : List Int := ((enm fs).filter fun e => decide (w = e.2.f) || decide (w = e.2.m)).map (·.1)
section
variable {P : List Fn} {k : Nat} {S : Mem} {fs : List Fk} {ns : List Nw} {w d : Int}
end
def dys (ns : List Nw) (wd : Str) (d w : Int) : List Int := (ns.filter fun n => n.w == wd && (decide (n.who = w) && decide (n.d ≤ d))).map (·.d)
def bck (ns : List Nw) (d w : Int) : Int := maxL (-1) (dys ns "returns" d w)
def cutF (ns : List Nw) (d w : Int) : Int := minD0 (-1) ((dys ns "cuts" d w).filter fun c => decide (bck ns d w < c))
def cntB (fs : List Fk) (r : Rw) (p c : Int) : Bool := if r.wed = 1 ∧ (gt fs c).w = 0 then false else !(r.men == "only") || decide ((gt fs p).s = 1)
section
variable {P : List Fn} {k : Nat} {S : Mem} {fs : List Fk} {ns : List Nw} {w d c : Int} {wd : Str} {r : Rw}
def okS (fs : List Fk) (ns : List Nw) (r : Rw) (d w c : Int) : Bool := decide ((gt fs c).d ≤ d) && ((decide (cutF ns d w = -1) || decide ((gt fs c).d < cutF ns d w)) && cntB fs r w c)
def stp (fs : List Fk) (ns : List Nw) (r : Rw) (d w : Int) : List Int :=
  let l := (chd fs w).filter (okS fs ns r d w)
  if r.men = "first" then l.filter (fun c => decide ((gt fs c).s = 1)) ++ l.filter (fun c => decide ((gt fs c).s = 0)) else l
theorem chd_mem {c : Int} (h : c ∈ chd fs w) : 0 ≤ c ∧ c < fs.length := by
  obtain ⟨e, he, rfl⟩ := List.mem_map.mp h
  have := enm_mem (List.mem_filter.mp he).1
  exact ⟨this.1, this.2.1⟩
end
end DL
end

section
set_option maxRecDepth 100000
/-! DV4: the draws. Ours. -/
namespace DL
open PySem PySem.Spec PyProof.Rows
def cel (ns : List Int) (st : Dst) : Int := if st.p < ns.length then gt ns st.p else 0
def nz (ns : List Int) (st : Dst) : Int := (st.z * 48271 + (cel ns st).fmod 2147483629 + 7 * (st.p + 1)).fmod 2147483647
@[irreducible] def tv (ns : List Int) (st : Dst) (b : Int) : Int := if 0 < st.q then st.q.fmod b else if 1000000000000000000 ≤ cel ns st then (cel ns st).fmod b else (((nz ns st ^ 3).fmod 2147483629).fdiv 64).fmod b
theorem nz_b (ns : List Int) (st : Dst) : 0 ≤ nz ns st ∧ nz ns st < 2147483647 := by
  unfold nz
  rw [Int.fmod_eq_emod_of_nonneg _ (by omega)]
  exact ⟨Int.emod_nonneg _ (by omega), Int.emod_lt_of_pos _ (by omega)⟩
@[irreducible] def ts (ns : List Int) (st : Dst) (b : Int) : Dst := if 0 < st.q then { st with q := st.q.fdiv b } else if 1000000000000000000 ≤ cel ns st then { st with p := st.p + 1, q := (cel ns st).fdiv b, hp := by have := st.hp; omega } else ⟨st.p + 1, st.q, nz ns st, by have := st.hp; omega, (nz_b ns st).1, (nz_b ns st).2⟩
theorem tv_b {ns : List Int} {st : Dst} {b : Int} (hb : 0 < b) : 0 ≤ tv ns st b ∧ tv ns st b < b := by
  unfold tv
  split
  · rw [Int.fmod_eq_emod_of_nonneg _ (by omega)]; exact ⟨Int.emod_nonneg _ (by omega), Int.emod_lt_of_pos _ hb⟩
  · split
    · rw [Int.fmod_eq_emod_of_nonneg _ (by omega)]; exact ⟨Int.emod_nonneg _ (by omega), Int.emod_lt_of_pos _ hb⟩
    · rw [Int.fmod_eq_emod_of_nonneg _ (by omega)]; exact ⟨Int.emod_nonneg _ (by omega), Int.emod_lt_of_pos _ hb⟩
section
variable {P : List Fn} {k : Nat} {R : Mem} {ns : List Int} {st : Dst} {b : Int}
theorem take_c [H : Fd P "_law_take" takeY 2 4] (hk : Must (1 ≤ k)) (hb : Must (0 < b)) (hb2 : Must (b < 1000000000)) : callF P k "_law_take" [.rf 0, .im (.int b)] (Sd ns st R) = .ok (.im (.int (tv ns st b))) (Sd ns (ts ns st b) R) := by
  have hb : 0 < b := hb
  have hb2 : b < 1000000000 := hb2
  have hk : 1 ≤ k := hk
  cases k with
  | zero => omega
  | succ k =>
  have e1 : b ≠ 0 := by omega
  have e2 : b.natAbs < 1073741824 := by omega
  obtain ⟨hw0, hw1⟩ := nz_b ns st
  have hp := st.hp
  obtain ⟨f, hf, fb, fnp, fN⟩ := H.h
  rw [callF, hf]
  simp only [fnS, fb, fnp, fN, takeY]
  unfold tv ts
  by_cases h : 0 < st.q
  · rw [if_pos h, if_pos h]
    unfold Sd
    generalize iL ns = L
    simp [execs, exec, liftE, ev, evs, M.bind, getV, cmpD, biD, DL.b1, lenD, imOf, cmpP, ltP, ofB, consK, nilK, idxD, seqOf, ixA, h, frz, constK, binD, modD, fdivD, setD, asgT, e1, e2, List.take_of_length_le]
  · rw [if_neg h, if_neg h]
    have hm : ∀ (i : Nat) (h : i < (iL ns).length), (iL ns)[i] = .int (ns[i]'(by simpa using h)) := fun i h => by simp
    have hll : (iL ns).length = ns.length := by simp
    have hwd : (st.z * 48271 + (cel ns st).fmod 2147483629 + 7 * (st.p + 1)).fmod 2147483647 = nz ns st := rfl
    have hw2 : (nz ns st).natAbs < 18446744073709551616 := by omega
    by_cases h3 : st.p < (ns.length : Int)
    · have hl : st.p.toNat < (iL ns).length := by omega
      have hx := hm st.p.toNat hl
      have hg : cel ns st = ns[st.p.toNat]'(by omega) := by
        unfold cel gt
        rw [if_pos h3, List.getD_eq_getElem?_getD, List.getElem?_eq_getElem (by omega)]; rfl
      rw [← hg] at hx
      have h3' : st.p < ((iL ns).length : Int) := by omega
      clear hg hm hll
      unfold Sd
      generalize iL ns = L at hl hx h3'
      by_cases h2 : 1000000000000000000 ≤ cel ns st
      · rw [if_pos h2, if_pos h2]
        simp [execs, exec, liftE, ev, evs, M.bind, getV, cmpD, biD, DL.b1, lenD, imOf, cmpP, ltP, ofB, consK, nilK, idxD, seqOf, ixA, h, h3', hx, hp, h2, frz, constK, binD, modD, fdivD, setD, asgT, e1, e2, addD, powD, List.take_of_length_le]
      · rw [if_neg h2, if_neg h2]
        simp [execs, exec, liftE, ev, evs, M.bind, getV, cmpD, biD, DL.b1, lenD, imOf, cmpP, ltP, ofB, consK, nilK, idxD, seqOf, ixA, h, h3', hx, hp, h2, frz, constK, binD, modD, fdivD, setD, asgT, e1, e2, addD, mulD, powD, hwd, hw2, List.take_of_length_le]
    · have h3' : ¬ st.p < ((iL ns).length : Int) := by omega
      have hg : cel ns st = 0 := by unfold cel; rw [if_neg h3]
      have h0 : (0 : Int).fmod 2147483629 = 0 := by decide
      have h2 : ¬ 1000000000000000000 ≤ cel ns st := by rw [hg]; omega
      rw [if_neg h2, if_neg h2]
      rw [hg, h0, Int.add_zero] at hwd
      clear hm hll
      unfold Sd
      generalize iL ns = L at h3'
      simp [execs, exec, liftE, ev, evs, M.bind, getV, cmpD, biD, DL.b1, lenD, imOf, cmpP, ltP, ofB, consK, nilK, idxD, seqOf, ixA, h, h3', hp, frz, constK, binD, modD, fdivD, setD, asgT, e1, e2, addD, mulD, powD, hwd, hw2, h0, List.take_of_length_le]
end
/-! ### houses -/
structure FkOk (pre : List Fk) (x : Fk) : Prop where
  d0 : 0 ≤ x.d
  d1 : x.d ≤ 99999
  mono : ∀ y ∈ pre, y.d ≤ x.d
  f : x.f = -1 ∨ (0 ≤ x.f ∧ x.f < pre.length) ∧ (gt pre x.f).s = 1 ∧ (gt pre x.f).d < x.d
  m : x.m = -1 ∨ (0 ≤ x.m ∧ x.m < pre.length) ∧ (gt pre x.m).s = 0 ∧ (gt pre x.m).d < x.d
  s : x.s = 0 ∨ x.s = 1
  w : x.w = 0 ∨ x.w = 1
inductive HO : List Fk → Prop where
  | nil : HO []
  | snoc {fs : List Fk} {x : Fk} (h : HO fs) (o : FkOk fs x) : HO (fs ++ [x])
theorem gt_app {α : Type} [Inhabited α] {l r : List α} {i : Int} (h : 0 ≤ i ∧ i < l.length) : gt (l ++ r) i = gt l i := by
  unfold gt
  rw [List.getD_eq_getElem?_getD, List.getD_eq_getElem?_getD, List.getElem?_append_left (by omega)]
theorem gt_snoc {α : Type} [Inhabited α] {l : List α} {x : α} : gt (l ++ [x]) l.length = x := by
  unfold gt
  rw [List.getD_eq_getElem?_getD]
  simp
/-- no day of a drawn house is near the last one -/
def HD (fs : List Fk) : Prop := ∀ x ∈ fs, x.d ≤ 99991
theorem HD.at_ {fs : List Fk} (h : HD fs) {i : Int} (hi : 0 ≤ i ∧ i < fs.length) : (gt fs i).d ≤ 99991 := h _ (gt_mem hi)
section
variable {P : List Fn} {k : Nat} {R : Mem} {ns : List Int} {st : Dst} {b : Int} {fs : List Fk} {day man : Int} {j : Nat}
/-- a house, drawn -/
theorem HO.app {fs : List Fk} {x : Fk} (h : HO fs) (o : FkOk fs x) : HO (fs ++ [x]) := .snoc h o
theorem gt_lit {α : Type} [Inhabited α] {l : List α} {i : Int} (h : 0 ≤ i ∧ i < l.length) {p : α → Prop} (hp : ∀ x ∈ l, p x) : p (gt l i) := hp _ (gt_mem h)
end
end DL
end

section
set_option maxRecDepth 100000
/-! DV5: texts of data; books and rows drawn. Ours. -/
namespace DL
open PySem PySem.Spec PyProof.Rows
/-! ### what can be printed -/
structure Rd (p : PyData) (d n : Nat) : Prop where
  lay : p.canLay0 = true
  dep : p.depth ≤ d
  lv : p.leavesShort 12 = true
  sh : p.showable = true
  bu : p.bulk ≤ n
theorem Rd.le {p : PyData} {d n d2 n2 : Nat} (h : Rd p d n) (h1 : d ≤ d2) (h2 : n ≤ n2) : Rd p d2 n2 := ⟨h.lay, Nat.le_trans h.dep h1, h.lv, h.sh, Nat.le_trans h.bu h2⟩
theorem Rd.int {i : Int} (h : i.natAbs < 10000000000) : Rd (.int i) 0 0 := by
  refine ⟨rfl, by simp [PyData.depth], ?_, ?_, Nat.le_refl _⟩
  · have e := int_text_length_le10 (k := 10) (by decide) (show i.natAbs < 10 ^ 10 from h)
    rw [PyData.leavesShort, decide_eq_true_eq]
    show (Str.ofString (toString i)).length ≤ 12
    rw [PySem.ofString_length]
    omega
  · rw [PyData.showable, decide_eq_true_eq]
    by_cases c : i.natAbs = 0
    · rw [c]; decide
    · have : i.natAbs.log2 < 40 := (Nat.log2_lt c).mpr (by omega)
      omega
theorem Rd.bool {b : Bool} : Rd (.bool b) 0 0 := ⟨rfl, by simp [PyData.depth], by simp [PyData.leavesShort], by simp [PyData.showable], Nat.le_refl _⟩
theorem Rd.none : Rd .none 0 0 := ⟨rfl, by simp [PyData.depth], by simp [PyData.leavesShort], by simp [PyData.showable], Nat.le_refl _⟩
theorem Rd.all {d n : Nat} : ∀ {xs : List PyData}, (∀ x ∈ xs, Rd x d n) → PyData.canLayAll0 xs = true ∧ PyData.depthAll xs ≤ d ∧ PyData.leavesShortAll 12 xs = true ∧ PyData.showableAll xs = true ∧ PyData.bulkAll xs ≤ (n + 1) * xs.length
  | [], _ => ⟨rfl, by simp [PyData.depthAll], by simp [PyData.leavesShortAll], by simp [PyData.showableAll], by simp [PyData.bulkAll]⟩
  | x :: xs, h => by
    obtain ⟨a1, a2, a3, a4, a5⟩ := h x List.mem_cons_self
    obtain ⟨b1, b2, b3, b4, b5⟩ := Rd.all (xs := xs) fun y hy => h y (List.mem_cons_of_mem _ hy)
    refine ⟨by simp [PyData.canLayAll0, a1, b1], by rw [PyData.depthAll]; omega, by simp [PyData.leavesShortAll, a3, b3], by simp [PyData.showableAll, a4, b4], ?_⟩
    rw [PyData.bulkAll, List.length_cons, Nat.mul_add]
    omega
theorem Rd.tup {d n m : Nat} {xs : List PyData} (h : ∀ x ∈ xs, Rd x d n) (hm : (n + 1) * xs.length ≤ m) : Rd (.tuple xs) (d + 1) m := by
  obtain ⟨b1, b2, b3, b4, b5⟩ := Rd.all h
  exact ⟨by simp [PyData.canLay0, b1], by rw [PyData.depth]; omega, by simp [PyData.leavesShort, b3], by simp [PyData.showable, b4], by rw [PyData.bulk]; omega⟩
theorem Rd.lst {d n m : Nat} {xs : List PyData} (h : ∀ x ∈ xs, Rd x d n) (hm : (n + 1) * xs.length ≤ m) : Rd (.list xs) (d + 1) m := by
  obtain ⟨b1, b2, b3, b4, b5⟩ := Rd.all h
  exact ⟨by simp [PyData.canLay0, b1], by rw [PyData.depth]; omega, by simp [PyData.leavesShort, b3], by simp [PyData.showable, b4], by rw [PyData.bulk]; omega⟩
theorem Rd.tupm {α : Type} {g : α → PyData} {L : List α} {d n m : Nat} (h : ∀ x ∈ L, Rd (g x) d n) (hm : (n + 1) * L.length ≤ m) : Rd (.tuple (L.map g)) (d + 1) m := .tup (fun x hx => by obtain ⟨a, ha, rfl⟩ := List.mem_map.mp hx; exact h a ha) (by rw [List.length_map]; exact hm)
theorem b_rd {p : PyData} {S : Mem} (h : Must (Rd p 60 60000)) : biD .repr [.im p] S = .ok (.im (.str p.shown)) S := by
  have h : Rd p 60 60000 := h
  have e := PyData.shown_le_bulk 12 (by decide) p h.lv
  have := h.bu
  have := h.dep
  rw [show biD .repr [.im p] S = reprD (.im p) S from rfl]
  unfold reprD imOf
  dsimp only
  rw [if_pos ⟨by omega, h.sh, szL (by omega)⟩]
/-- the program's words -/
def isW (x : Str) : Prop := x ∈ ([("dies" : Str), "leaves", "cuts", "returns", "awaits", "alike", "first", "only", "lines", "age", "near"] : List Str)
theorem Rd.word {x : Str} (h : isW x) : Rd (.str x) 0 8 := by
  have key : ∀ x ∈ ([("dies" : Str), "leaves", "cuts", "returns", "awaits", "alike", "first", "only", "lines", "age", "near"] : List Str), (PyData.strOk x = true) ∧ PyData.leavesShort 12 (.str x) = true ∧ PyData.bulk (.str x) ≤ 8 := by decide +kernel
  obtain ⟨a, b, c⟩ := key x h
  exact ⟨by simp [PyData.canLay0, a], by simp [PyData.depth], b, by simp [PyData.showable], c⟩
/-! ### houses -/
structure FkB (fs : List Fk) (i : Int) : Prop where
  d0 : 0 ≤ (gt fs i).d
  d1 : (gt fs i).d ≤ 99999
  f : (gt fs i).f = -1 ∨ (0 ≤ (gt fs i).f ∧ (gt fs i).f < i) ∧ (gt fs (gt fs i).f).s = 1 ∧ (gt fs (gt fs i).f).d < (gt fs i).d
  m : (gt fs i).m = -1 ∨ (0 ≤ (gt fs i).m ∧ (gt fs i).m < i) ∧ (gt fs (gt fs i).m).s = 0 ∧ (gt fs (gt fs i).m).d < (gt fs i).d
  s : (gt fs i).s = 0 ∨ (gt fs i).s = 1
  w : (gt fs i).w = 0 ∨ (gt fs i).w = 1
theorem HO.fk {fs : List Fk} (h : HO fs) : ∀ i : Int, 0 ≤ i ∧ i < fs.length → FkB fs i := by
  induction h with
  | nil => intro i h; exact absurd h.2 (by simp; omega)
  | snoc h o ih =>
    rename_i fs x
    intro i hi
    rw [List.length_append, List.length_singleton] at hi
    by_cases c : i < fs.length
    · have e := gt_app (r := [x]) ⟨hi.1, c⟩
      obtain ⟨d0, d1, f, m, s, w⟩ := ih i ⟨hi.1, c⟩
      refine ⟨by rw [e]; exact d0, by rw [e]; exact d1, ?_, ?_, by rw [e]; exact s, by rw [e]; exact w⟩
      · rw [e]
        rcases f with f | ⟨a, b, c⟩
        · exact .inl f
        · refine .inr ⟨a, ?_⟩
          rw [gt_app ⟨a.1, by omega⟩]
          exact ⟨b, c⟩
      · rw [e]
        rcases m with f | ⟨a, b, c⟩
        · exact .inl f
        · refine .inr ⟨a, ?_⟩
          rw [gt_app ⟨a.1, by omega⟩]
          exact ⟨b, c⟩
    · have ei : i = (fs.length : Int) := by omega
      subst ei
      have e := gt_snoc (l := fs) (x := x)
      obtain ⟨d0, d1, mono, f, m, s, w⟩ := o
      refine ⟨by rw [e]; exact d0, by rw [e]; exact d1, ?_, ?_, by rw [e]; exact s, by rw [e]; exact w⟩
      · rw [e]
        rcases f with f | ⟨a, b, c⟩
        · exact .inl f
        · refine .inr ⟨a, ?_⟩
          rw [gt_app a]
          exact ⟨b, c⟩
      · rw [e]
        rcases m with f | ⟨a, b, c⟩
        · exact .inl f
        · refine .inr ⟨a, ?_⟩
          rw [gt_app a]
          exact ⟨b, c⟩
theorem HO.mono {fs : List Fk} (h : HO fs) : ∀ i j : Int, 0 ≤ i → i ≤ j → j < fs.length → (gt fs i).d ≤ (gt fs j).d := by
  induction h with
  | nil => intro i j _ _ h; exact absurd h (by simp; omega)
  | snoc h o ih =>
    rename_i fs x
    intro i j h0 h1 h2
    rw [List.length_append, List.length_singleton] at h2
    by_cases c : j < fs.length
    · rw [gt_app ⟨h0, by omega⟩, gt_app ⟨by omega, c⟩]
      exact ih i j h0 h1 c
    · have ej : j = (fs.length : Int) := by omega
      subst ej
      rw [gt_snoc]
      by_cases c2 : i < fs.length
      · rw [gt_app ⟨h0, c2⟩]
        exact o.mono _ (gt_mem ⟨h0, c2⟩)
      · have ei : i = (fs.length : Int) := by omega
        subst ei
        rw [gt_snoc]
        exact Int.le_refl _
theorem mem_gt {α : Type} [Inhabited α] {l : List α} {x : α} (h : x ∈ l) : ∃ i : Int, 0 ≤ i ∧ i < l.length ∧ x = gt l i := by
  obtain ⟨n, hn⟩ := List.getElem?_of_mem h
  obtain ⟨h1, h2⟩ := List.getElem?_eq_some_iff.mp hn
  refine ⟨n, by omega, by omega, ?_⟩
  unfold gt
  rw [List.getD_eq_getElem?_getD, Int.toNat_natCast, hn]
  rfl
theorem HO.rd {fs : List Fk} (h : HO fs) (hl : fs.length ≤ 100) : Rd (.tuple (fs.map Fk.p)) 2 600 := by
  refine .tupm (n := 5) (fun x hx => ?_) (by omega)
  obtain ⟨i, h0, h1, rfl⟩ := mem_gt hx
  obtain ⟨d0, d1, f, m, s, w⟩ := h.fk i ⟨h0, h1⟩
  refine .tup (d := 0) (n := 0) (fun y hy => ?_) (by simp)
  simp only [List.mem_cons, List.not_mem_nil, or_false] at hy
  rcases hy with rfl | rfl | rfl | rfl | rfl <;> exact .int (by omega)
/-! ### news -/
structure NwOk (fs : List Fk) (n : Nw) : Prop where
  who : 0 ≤ n.who ∧ n.who < fs.length
  d0 : (gt fs n.who).d ≤ n.d
  d1 : n.d ≤ 99999
  w : n.w = "dies" ∨ n.w = "leaves" ∨ n.w = "cuts" ∨ n.w = "returns" ∨ n.w = "awaits"
  o : n.w ≠ "awaits" → n.o = -1
  a : n.w = "awaits" → (gt fs n.who).s = 0 ∧ (gt fs n.who).d < n.d ∧ (n.o = -1 ∨ (0 ≤ n.o ∧ n.o < fs.length) ∧ (gt fs n.o).s = 1 ∧ (gt fs n.o).d < n.d)
theorem NwOk.dp {fs : List Fk} {n : Nw} (h : NwOk fs n) (ho : HO fs) : 0 ≤ n.d := by have := (ho.fk _ h.who).d0; have := h.d0; omega
theorem NwOk.rd {fs : List Fk} {n : Nw} (h : NwOk fs n) (ho : HO fs) (hl : fs.length ≤ 100) : Rd n.p 1 36 := by
  have := h.dp ho
  obtain ⟨⟨a1, a2⟩, d0, d1, w, o, a⟩ := h
  have hw : isW n.w := by rcases w with e | e | e | e | e <;> rw [e] <;> simp [isW]
  have oo : -1 ≤ n.o ∧ n.o < 100 := by
    by_cases c : n.w = "awaits"
    · rcases (a c).2.2 with e | ⟨e, _⟩ <;> omega
    · rw [o c]; omega
  refine .tup (d := 0) (n := 8) (fun y hy => ?_) (by simp)
  simp only [List.mem_cons, List.not_mem_nil, or_false] at hy
  rcases hy with rfl | rfl | rfl | rfl
  · exact .word hw
  · exact (Rd.int (by omega)).le (by omega) (by omega)
  · exact (Rd.int (by omega)).le (by omega) (by omega)
  · exact (Rd.int (by omega)).le (by omega) (by omega)
/-- a book -/
structure BO (fs : List Fk) (m : Int) (ns : List Nw) : Prop where
  ok : ∀ n ∈ ns, NwOk fs n
  len : ns.length ≤ m
  nd : ns.Nodup
theorem BO.rd {fs : List Fk} {m : Int} {ns : List Nw} (h : BO fs m ns) (ho : HO fs) (hl : fs.length ≤ 100) (hm : m ≤ 100) : Rd (.tuple (ns.map Nw.p)) 2 3700 := by
  have := h.len
  exact .tupm (n := 36) (fun x hx => (h.ok x hx).rd ho hl) (by omega)
/-! ### sorted(set(..)) of news -/
def Nw.k (n : Nw) : List L2.Key := [.inr n.w, .inl n.d, .inl n.who, .inl n.o]
theorem Nw.kp (n : Nw) : encK n.k = n.p := rfl
theorem Nw.ks : ∀ L : List Nw, ktDs (L.map Nw.p) = some (L.map Nw.k)
  | [] => rfl
  | n :: r => by
    show (match kDs [.str n.w, .int n.d, .int n.who, .int n.o], ktDs (r.map Nw.p) with
      | some k, some ks => some (k :: ks)
      | _, _ => none) = _
    rw [Nw.ks r]
    rfl
end DL
end

section
set_option maxRecDepth 100000
/-! DV6: news, books, rows drawn. Ours. -/
namespace DL
open PySem PySem.Spec PyProof.Rows
section
variable {P : List Fn} {k : Nat} {R : Mem} {ns : List Int} {st : Dst} {fs : List Fk}
end
end DL
end

section
set_option maxRecDepth 100000
/-! DV7: rows drawn; the law of cuts and steps. Ours. -/
namespace DL
open PySem PySem.Spec PyProof.Rows
structure RwOk (fs : List Fk) (r : Rw) : Prop where
  fo : 0 ≤ r.fo ∧ r.fo < fs.length
  men : r.men = "alike" ∨ r.men = "first" ∨ r.men = "only"
  wed : r.wed = 0 ∨ r.wed = 1
  way : r.way = "lines" ∨ r.way = "age" ∨ r.way = "near"
theorem RwOk.rd {fs : List Fk} {r : Rw} (h : RwOk fs r) (hl : fs.length ≤ 100) : Rd r.p 1 36 := by
  obtain ⟨⟨a1, a2⟩, m, w, y⟩ := h
  have hw : isW r.men := by rcases m with e | e | e <;> rw [e] <;> simp [isW]
  have hy : isW r.way := by rcases y with e | e | e <;> rw [e] <;> simp [isW]
  refine .tup (d := 0) (n := 8) (fun y hy => ?_) (by simp)
  simp only [List.mem_cons, List.not_mem_nil, or_false] at hy
  rcases hy with rfl | rfl | rfl | rfl
  · exact (Rd.int (by omega)).le (by omega) (by omega)
  · exact .word hw
  · exact (Rd.int (by omega)).le (by omega) (by omega)
  · exact .word ‹_›
section
variable {P : List Fn} {k : Nat} {S R : Mem} {nn : List Int} {st : Dst} {fs : List Fk} {ns : List Nw} {r : Rw} {d w p c : Int}
/-! ### cuts -/
theorem Nw.shp {n : Nw} (h : PyData.strOk n.w = true) : n.p.canLay0 = true ∧ n.p.depth = 1 := by
  simp [Nw.p, PyData.canLay0, PyData.canLayAll0, PyData.depth, PyData.depthAll, h]
theorem Nw.shpA : ∀ {L : List Nw}, (∀ x ∈ L, PyData.strOk x.w = true) → PyData.canLayAll0 (L.map Nw.p) = true ∧ PyData.depthAll (L.map Nw.p) ≤ 1
  | [], _ => ⟨rfl, by simp [PyData.depthAll]⟩
  | a :: r, h => by
    obtain ⟨h1, h2⟩ := Nw.shpA (L := r) fun x hx => h x (List.mem_cons_of_mem _ hx)
    obtain ⟨h3, h4⟩ := Nw.shp (h a List.mem_cons_self)
    rw [List.map_cons, PyData.canLayAll0, PyData.depthAll, h1, h3, h4]
    exact ⟨rfl, by omega⟩
theorem inN {wd : Str} {i j o : Int} {L : List Nw} (h : Must (PyData.strOk wd = true)) (hL : Must (∀ x ∈ L, PyData.strOk x.w = true)) : cmpP S .In (.im (.tuple [.str wd, .int i, .int j, .int o])) (.im (.tuple (L.map Nw.p))) = some (decide ((⟨wd, i, j, o⟩ : Nw) ∈ L)) := by
  obtain ⟨h1, h2⟩ := Nw.shp (n := ⟨wd, i, j, o⟩) h
  obtain ⟨h3, h4⟩ := Nw.shpA hL
  rw [ci]
  have e1 : SeqAt.shaped (Nw.p ⟨wd, i, j, o⟩) = true := by unfold SeqAt.shaped; rw [h1, h2]; rfl
  have e2 : SeqAt.shaped (.tuple (L.map Nw.p)) = true := by
    unfold SeqAt.shaped
    rw [PyData.canLay0, PyData.depth, h3, Bool.true_and, decide_eq_true_eq]
    omega
  show inP S (.im (Nw.p ⟨wd, i, j, o⟩)) _ = _
  have e3 := any_map (g := Nw.p) (⟨wd, i, j, o⟩ : Nw) L
  simp only [inP, imOf, e1, e2, and_self, if_true, e3]
/-! ### steps -/
theorem enm_eq {α : Type} [Inhabited α] (L : List α) : enm L = (upto L.length).map fun i => (i, gt L i) := by
  apply List.ext_getElem?
  intro n
  rw [enm_get?, List.getElem?_map]
  unfold upto
  rw [List.getElem?_map]
  by_cases h : n < L.length
  · rw [List.getElem?_range h, List.getElem?_eq_getElem h]
    simp [gt, h]
  · rw [List.getElem?_eq_none (by simpa using h), List.getElem?_eq_none (by simpa using h)]
    rfl
theorem chd_eq : chd fs w = (upto fs.length).filter fun i => decide (w = (gt fs i).f) || decide (w = (gt fs i).m) := by
  unfold chd
  rw [enm_eq, List.filter_map, List.map_map]
  have : ((fun x : Int × Fk => x.1) ∘ fun i => (i, gt fs i)) = id := rfl
  rw [this, List.map_id]
  rfl
theorem upto_rise (n : Nat) : (upto n).Pairwise (· < ·) := by
  unfold upto
  rw [List.pairwise_map]
  exact List.pairwise_lt_range.imp fun h => by omega
def rk (fs : List Fk) (r : Rw) (c : Int) : Int := b2i (r.men == "first" && decide ((gt fs c).s = 0))
def pk (fs : List Fk) (r : Rw) (c : Int) : PyData := .tuple [.int (rk fs r c), .int c]
end
end DL
end

section
set_option maxRecDepth 100000
/-! DV8: a book with cuts beside births. Ours. -/
namespace DL
open PySem PySem.Spec PyProof.Rows
section
variable {P : List Fn} {k : Nat} {R : Mem} {nn : List Int} {st : Dst} {fs : List Fk} {ns : List Nw}
end
end DL
end

section
/-! DG1: walks and least lines; plain. Ours. -/
namespace DL
/-! ### tuples in order -/
def llt : List Int → List Int → Prop
  | _, [] => False
  | [], _ :: _ => True
  | a :: x, b :: y => a < b ∨ (a = b ∧ llt x y)
instance llt_dec : ∀ a b : List Int, Decidable (llt a b)
  | _, [] => by unfold llt; cases ‹List Int› <;> exact isFalse id
  | [], _ :: _ => isTrue trivial
  | a :: x, b :: y => by
    unfold llt
    have := llt_dec x y
    exact inferInstance
theorem llt_nil {a : List Int} (h : llt a []) : False := by cases a <;> exact h
def lle (a b : List Int) : Prop := a = b ∨ llt a b
/-! ### the walk -/
/-- a folk, from whom it came, its ranks -/
structure WE where
  n : Int
  p : Int
  k : List Int
section
variable (sc : Int → List Int) (r : Int)
/-- those that wait behind a folk: its steps, turned round -/
def kids (c : Int) (k : List Int) : List WE := (((sc c).zipIdx.map fun e => (⟨e.1, c, k ++ [(e.2 : Int)]⟩ : WE))).reverse
structure WInv (F W : List WE) : Prop where
  src : ∀ e ∈ F ++ W, (e = ⟨r, -1, []⟩) ∨ ∃ q ∈ F, ∃ i : Nat, e.p = q.n ∧ (sc q.n)[i]? = some e.n ∧ e.k = q.k ++ [(i : Int)]
  up : (F.map (·.k)).Pairwise llt
  dn : (W.map (·.k)).Pairwise fun a b => llt b a
  ahead : ∀ f ∈ F, ∀ w ∈ W, llt f.k w.k
  cl : ∀ q ∈ F, ∀ (i : Nat) c, (sc q.n)[i]? = some c → (⟨c, q.n, q.k ++ [(i : Int)]⟩ : WE) ∈ W ∨ ∃ f ∈ F, f.n = c ∧ lle f.k (q.k ++ [(i : Int)])
  nd : (F.map (·.n)).Nodup
  root : (⟨r, -1, []⟩ : WE) ∈ F ++ W
variable {sc r}
end
/-! ### the law's keys -/
section
variable {sc : Int → List Int} {r : Int} {F : List WE} {m c : Int} {j : Nat} {D : List (Int × List Int)}
structure KI (sc : Int → List Int) (r : Int) (F : List WE) (m : Int) (j : Nat) (D : List (Int × List Int)) : Prop where
  a : ∀ e ∈ D, (e.1 = r ∧ e.2 = [] ∧ F ≠ []) ∨ ∃ f ∈ F, ∃ i : Nat, (sc f.n)[i]? = some e.1 ∧ e.2 = f.k ++ [(i : Int)]
  root : F ≠ [] → (r, []) ∈ D
  b : ∀ f ∈ F, ∀ (i : Nat) c, (sc f.n)[i]? = some c → (f.n < m ∨ (f.n = m ∧ i < j)) → ∃ e ∈ D, e.1 = c ∧ lle e.2 (f.k ++ [(i : Int)])
  nd : (D.map (·.1)).Nodup
/-- a lesser key is put in another one's place -/
def rep (c : Int) (k : List Int) (e : Int × List Int) : Int × List Int := if e.1 = c then (c, k) else e
end
/-! ### lines by ranks -/
section
variable {sc : Int → List Int} {r : Int} {F : List WE}
/-- the folk along ranks; none where a rank leads nowhere -/
def rl (sc : Int → List Int) : Int → List Int → List Int
  | w, [] => [w]
  | w, i :: ks => w :: rl sc (((sc w)[i.toNat]?).getD (-1)) ks
/-- ranks that lead from one folk to another -/
inductive Rk (sc : Int → List Int) : Int → List Int → Int → Prop where
  | nil (w : Int) : Rk sc w [] w
  | cons {w c x : Int} {i : Nat} {ks : List Int} (h : (sc w)[i]? = some c) (t : Rk sc c ks x) : Rk sc w ((i : Int) :: ks) x
theorem Rk.snoc {w x c : Int} {ks : List Int} {i : Nat} (h : Rk sc w ks x) (hi : (sc x)[i]? = some c) : Rk sc w (ks ++ [(i : Int)]) c := by
  induction h with
  | nil w => exact .cons hi (.nil _)
  | cons h t ih => exact .cons h (ih hi)
theorem Rk.app {w x y : Int} {ks ls : List Int} (h : Rk sc w ks x) (h2 : Rk sc x ls y) : Rk sc w (ks ++ ls) y := by
  induction h with
  | nil w => exact h2
  | cons h t ih => exact .cons h (ih h2)
/-- a split of ranks splits the way -/
theorem Rk.split {w x : Int} {ks ls : List Int} (h : Rk sc w (ks ++ ls) x) : ∃ y, Rk sc w ks y ∧ Rk sc y ls x := by
  induction ks generalizing w with
  | nil => exact ⟨w, .nil w, h⟩
  | cons i r ih =>
    rw [List.cons_append] at h
    generalize hk : (i :: (r ++ ls)) = kk at h
    cases h with
    | nil => cases hk
    | cons h3 t3 =>
      injection hk with e1 e2
      subst e1
      rw [← e2] at t3
      obtain ⟨y, h4, h5⟩ := ih t3
      exact ⟨y, .cons h3 h4, h5⟩
theorem Rk.one {w x i : Int} (h : Rk sc w [i] x) : ∃ i' : Nat, i = i' ∧ (sc w)[i']? = some x := by
  generalize hi : [i] = li at h
  cases h with
  | nil => cases hi
  | @cons _ c _ i' ks h5 t =>
    injection hi with e1 e2
    rw [← e2] at t
    cases t
    exact ⟨i', e1, h5⟩
theorem Rk.up {P : Int → Prop} (hs : ∀ w, P w → ∀ c ∈ sc w, w < c ∧ P c) {w x : Int} {ks : List Int} (h : Rk sc w ks x) (hp : P w) : P x ∧ (ks = [] ∧ w = x ∨ w < x) := by
  induction h with
  | nil w => exact ⟨hp, .inl ⟨rfl, rfl⟩⟩
  | cons h t ih =>
    obtain ⟨h1, h2⟩ := hs _ hp _ (List.mem_of_getElem? h)
    obtain ⟨h3, h4⟩ := ih h2
    refine ⟨h3, .inr ?_⟩
    rcases h4 with h4 | h4 <;> omega
/-! ### the folk along ranks -/
end
end DL
end

section
set_option maxRecDepth 100000
/-! DV9: rules of dicts, of while, of pop. Ours. -/
namespace DL
open PySem PySem.Spec PyProof.Rows
def dE {α : Type} (kf : α → Int) (vf : α → PyData) (L : List α) : List (PyData × PyData) := L.map fun a => (PyData.int (kf a), vf a)
def lkp {α : Type} (kf : α → Int) (L : List α) (i : Int) : Option α := L.find? fun a => decide (kf a = i)
section
variable {α : Type} {kf : α → Int} {vf : α → PyData} {g : α → PyData} {L W : List α} {S S1 S2 S' : Mem} {n : Nat} {i : Int} {p v : PyData} {a : α} {kvs : List (PyData × PyData)} {xs : List PyData}
theorem lkP_dE : lkP (.int i) (dE kf vf L) = (lkp kf L i).map vf := by
  unfold dE lkp
  induction L with
  | nil => rfl
  | cons a r ih =>
    rw [List.map_cons, lkP, List.find?_cons]
    by_cases h : kf a = i
    · simp [h, PyData.eqv]
    · simp only [PyData.eqv, h, decide_false]
      simpa [h] using ih
theorem lkp_mem (h : lkp kf L i = some a) : a ∈ L ∧ kf a = i := ⟨List.mem_of_find?_eq_some h, by simpa using List.find?_some h⟩
theorem lkp_some : (lkp kf L i).isSome = decide (i ∈ L.map kf) := by
  unfold lkp
  rw [Bool.eq_iff_iff, List.find?_isSome, decide_eq_true_eq, List.mem_map]
  simp
theorem lkp_none : lkp kf L i = none ↔ i ∉ L.map kf := by
  have := lkp_some (kf := kf) (L := L) (i := i)
  cases h : lkp kf L i with
  | none => rw [h] at this; simp at this; simp; exact this
  | some a =>
    have := lkp_mem h
    simp
    exact ⟨a, this.1, this.2⟩
theorem lkp_nd (h : (L.map kf).Nodup) (ha : a ∈ L) : lkp kf L (kf a) = some a := by
  cases e : lkp kf L (kf a) with
  | none => exact absurd (List.mem_map_of_mem ha) (lkp_none.mp e)
  | some b =>
    obtain ⟨h1, h2⟩ := lkp_mem e
    have : ∀ {l : List α}, (l.map kf).Nodup → a ∈ l → b ∈ l → kf b = kf a → b = a := by
      intro l
      induction l with
      | nil => intro _ h; cases h
      | cons x r ih =>
        intro hn h3 h4 h5
        rw [List.map_cons, List.nodup_cons] at hn
        rcases List.mem_cons.mp h3 with h3 | h3 <;> rcases List.mem_cons.mp h4 with h4 | h4
        · rw [h3, h4]
        · exact absurd (by rw [← h3, ← h5]; exact List.mem_map_of_mem h4) hn.1
        · exact absurd (by rw [← h4, h5]; exact List.mem_map_of_mem h3) hn.1
        · exact ih hn.2 h3 h4 h5
    rw [this h ha h1 h2]
theorem d_new (h3 : S.length = n) (h4 : S ++ [.dct []] = S2) : dicK true [] S = .ok (.rf n) S2 := by
  show Res.ok (D.rf S.length) (S ++ [Ob.dct []]) = _
  rw [h3, h4]
theorem c_inD (hm : S[n]? = some (.dct (dE kf vf L))) : cmpP S .In (.im (.int i)) (.rf n) = some (decide (i ∈ L.map kf)) := by
  rw [ci]
  unfold inP imOf dctOf
  simp only [hm]
  rw [if_pos (by rfl), lkP_dE, ← lkp_some]
  cases lkp kf L i <;> rfl
theorem c_inDi : cmpP S .In (.im (.int i)) (.im (.dict (dE kf vf L))) = some (decide (i ∈ L.map kf)) := by
  rw [ci]
  unfold inP imOf dctOf
  dsimp only
  rw [if_pos (by rfl), lkP_dE, ← lkp_some]
  cases lkp kf L i <;> rfl
theorem x_D (hm : S[n]? = some (.dct (dE kf vf L))) (h : lkp kf L i = some a) : idxD (.rf n) (.im (.int i)) S = .ok (.im (vf a)) S := by
  unfold idxD seqOf imOf dctOf
  simp only [hm]
  rw [if_pos (by rfl), lkP_dE, h]
  rfl
theorem x_Di (h : lkp kf L i = some a) : idxD (.im (.dict (dE kf vf L))) (.im (.int i)) S = .ok (.im (vf a)) S := by
  unfold idxD seqOf imOf dctOf
  dsimp only
  rw [if_pos (by rfl), lkP_dE, h]
  rfl
theorem k_exD : exK (.im (.dict (dE kf vf L))) S = .ok (L.map fun a => .im (.int (kf a))) S := by
  unfold exK dE
  dsimp only
  rw [List.map_map]; rfl
theorem sd_D (hm : S[n]? = some (.dct kvs)) (h : Must (kvs.length < 1000000)) (h2 : S.set n (.dct (putP (.int i) p kvs)) = S2) : setD (.rf n) (.im (.int i)) (.im p) S = some S2 := by
  have h : kvs.length < 1000000 := h
  have := sizeLine_eq
  unfold setD
  simp only [hm]
  rw [if_pos ⟨by rfl, by omega⟩, h2]
theorem sd_L (hm : S[n]? = some (.lst xs)) (h : Must (0 ≤ i ∧ i < xs.length)) (h2 : S.set n (.lst (xs.set i.toNat p)) = S2) : setD (.rf n) (.im (.int i)) (.im p) S = some S2 := by
  unfold setD
  simp only [hm]
  rw [if_pos (by exact h), h2]
theorem m_pop0 (hm : S[n]? = some (.lst ((W ++ [a]).map g))) (h2 : S.set n (.lst (W.map g)) = S2) : mtD .pop0 (.rf n) [] S = .ok (.im (g a)) S2 := by
  rw [show mtD .pop0 (.rf n) [] S = pop0D (.rf n) S from rfl]
  unfold pop0D
  simp only [hm]
  rw [List.map_append, ← h2]
  simp
theorem r_rev : revD (.im (.tuple (L.map g))) S = .ok (.im (.tuple (L.reverse.map g))) S := by
  unfold revD imOf
  dsimp only
  rw [List.map_reverse]
theorem r_revL : revD (.im (.list (L.map g))) S = .ok (.im (.list (L.reverse.map g))) S := by
  unfold revD imOf
  dsimp only
  rw [List.map_reverse]
theorem c_rNe {y : D} {q : Bool} (hm : S[n]? = some (.lst xs)) (h : cmpP S .NotEq (.im (.list xs)) y = some q) : cmpP S .NotEq (.rf n) y = some q := by
  rw [← h]
  have e : imOf S (.rf n) = imOf S (.im (.list xs)) := by simp only [imOf, hm]
  rw [cn, cn]
  unfold eqM eqP
  rw [e]
theorem c_rEq {y : D} {q : Bool} (hm : S[n]? = some (.lst xs)) (h : cmpP S .Eq (.im (.list xs)) y = some q) : cmpP S .Eq (.rf n) y = some q := by
  rw [← h]
  have e : imOf S (.rf n) = imOf S (.im (.list xs)) := by simp only [imOf, hm]
  show eqN S (.rf n) y = eqN S (.im (.list xs)) y
  unfold eqN eqP eqF
  rw [e]
theorem o_addTI {xs ys : List PyData} {ms ns : List Int} (h0 : allInts xs = some ms) (h : allInts ys = some ns) (hl : Must (ms.length + ns.length ≤ 1000000)) : binD .Add (.im (.tuple xs)) (.im (.tuple ys)) S = .ok (.im (.tuple ((ms ++ ns).map PyData.int))) S := by
  rw [allInts_ofM h, allInts_ofM h0, List.map_append]
  exact o_addT (by rw [List.length_map, List.length_map]; exact hl)
theorem lltI : ∀ a b : List Int, PySem.W.dataLt (.tuple (a.map PyData.int)) (.tuple (b.map PyData.int)) = decide (llt a b)
  | [], [] => by
    have : ¬ llt [] [] := fun h => h
    rw [decide_eq_false this]; exact lt_irr _
  | [], b :: y => by
    have : llt [] (b :: y) := trivial
    rw [decide_eq_true this]
    rw [PySem.W.dataLt_tuple]
    rfl
  | a :: x, [] => by
    have : ¬ llt (a :: x) [] := fun h => llt_nil h
    rw [decide_eq_false this, PySem.W.dataLt_tuple]
    rfl
  | a :: x, b :: y => by
    rw [PySem.W.dataLt_tuple, List.map_cons, List.map_cons]
    by_cases c : a = b
    · rw [PySem.W.dataLt_all_yes (by rw [PySem.W.alike]) (by rw [eq_int]; exact decide_eq_true c), ← PySem.W.dataLt_tuple, lltI x y]
      simp [llt, c]
    · rw [PySem.W.dataLt_all_no (by rw [PySem.W.alike]) (by rw [eq_int]; exact decide_eq_false c), PySem.W.dataLt_int]
      simp [llt, c]
theorem cl {a b : D} : cmpP S .Lt a b = ltP S a b := rfl
theorem c_ltT {a b : List Int} : cmpP S .Lt (.im (.tuple (a.map PyData.int))) (.im (.tuple (b.map PyData.int))) = some (decide (llt a b)) := by
  rw [cl]
  unfold ltP imOf
  dsimp only
  rw [if_pos ⟨alike_ints a b, shaped_tup a, shaped_tup b⟩, lltI]
theorem x_DiN (hn : (L.map kf).Nodup) (ha : a ∈ L) : idxD (.im (.dict (dE kf vf L))) (.im (.int (kf a))) S = .ok (.im (vf a)) S := x_Di (lkp_nd hn ha)
theorem enm_split {pre post : List (Int × α)} {e : Int × α} (h : enm L = pre ++ e :: post) : e.1 = pre.length ∧ L[pre.length]? = some e.2 := by
  have h1 : (enm L)[pre.length]? = some e := by rw [h]; simp
  rw [enm_get?] at h1
  cases h2 : L[pre.length]? with
  | none => rw [h2] at h1; cases h1
  | some a => rw [h2] at h1; cases h1; exact ⟨rfl, rfl⟩
variable {Φ : String → List D → M D} {env : Env} {K : Ks} {r body : Sms} {c : Ex}
theorem w_whl {n : Nat} (I : Nat → Env → Mem → Prop) (m : Nat) (hm : m < n) (h0 : I m env S)
    (hs : ∀ m e S, I m e S → ∃ p, ev Φ c e S = .ok (.im (.bool p)) S ∧ (p = true → 0 < m ∧ wps (execs Φ body e S) { K with nx := I (m - 1), ct := I (m - 1), bk := fun e S => wps (execs Φ r e S) K }) ∧ (p = false → wps (execs Φ r e S) K)) : wps (execs Φ (.cons (.whl n c body) r) env S) K := by
  rw [wps_cons]
  refine wps_whl I m hm h0 fun m e S h => ?_
  obtain ⟨p, h1, h2, h3⟩ := hs m e S h
  rw [h1]
  exact ⟨h2, h3⟩
end
end DL
end

section
set_option maxRecDepth 100000
set_option maxHeartbeats 2000000
/-! DVA: the walk. Ours. -/
namespace DL
open PySem PySem.Spec PyProof.Rows
/-! ### the walk, as a function -/
def dfs (sc : Int → List Int) : Nat → List WE → List WE → List WE
  | 0, F, _ => F
  | m + 1, F, W => match W.getLast? with
    | none => F
    | some e => if e.n ∈ F.map (·.n) then dfs sc m F W.dropLast else dfs sc m (F ++ [e]) (W.dropLast ++ kids sc e.n e.k)
def came (fs : List Fk) (ns : List Nw) (r : Rw) (d : Int) : List WE := dfs (stp fs ns r d) 10000 [] (if (gt fs r.fo).d ≤ d then [⟨r.fo, -1, []⟩] else [])
def wlk (fs : List Fk) (ns : List Nw) (r : Rw) (d : Int) : List Int := (came fs ns r d).map (·.n)
section
variable {P : List Fn} {k : Nat} {S R : Mem} {fs : List Fk} {ns : List Nw} {r : Rw} {d w c : Int}
theorem stp_chd (h : c ∈ stp fs ns r d w) : c ∈ (chd fs w).filter (okS fs ns r d w) := by
  unfold stp at h
  dsimp only at h
  split at h
  · rcases List.mem_append.mp h with h | h <;> exact (List.mem_filter.mp h).1
  · exact h
theorem stp_mem (ho : HO fs) (hw : 0 ≤ w) (h : c ∈ stp fs ns r d w) : w < c ∧ 0 ≤ c ∧ c < fs.length ∧ (gt fs c).d ≤ d := by
  obtain ⟨h1, h2⟩ := List.mem_filter.mp (stp_chd h)
  have hr := chd_mem h1
  rw [chd_eq] at h1
  obtain ⟨h3, h4⟩ := List.mem_filter.mp h1
  have hf := ho.fk c hr
  simp only [Bool.or_eq_true, decide_eq_true_eq] at h4
  simp only [okS, Bool.and_eq_true, decide_eq_true_eq] at h2
  refine ⟨?_, hr.1, hr.2, h2.1⟩
  rcases h4 with h4 | h4
  · rcases hf.f with e | e <;> omega
  · rcases hf.m with e | e <;> omega
def pW (e : WE) : PyData := .tuple [.int e.n, .int e.p]
instance : Shp pW 1 := ⟨fun a => by simp [pW, PyData.canLay0, PyData.canLayAll0], fun a => by simp [pW, PyData.depth, PyData.depthAll]⟩
end
end DL
end

section
set_option maxRecDepth 100000
set_option maxHeartbeats 2000000
/-! DVB: the walk, by the law. Ours. -/
namespace DL
open PySem PySem.Spec PyProof.Rows
section
variable {P : List Fn} {k : Nat} {S R : Mem} {fs : List Fk} {ns : List Nw} {r : Rw} {d w c : Int} {wd : Str}
/-! ### the law's own -/
/-! ### keys -/
/-! ### the law's walk -/
end
end DL
end

section
set_option maxRecDepth 100000
set_option maxHeartbeats 2000000
/-! DVC: settings drawn; books that grow. Ours. -/
namespace DL
open PySem PySem.Spec PyProof.Rows
section
variable {S : Mem} {α : Type} [Inhabited α] {g : α → PyData} {L A B : List α} {i : Int} {xs : List PyData} {x : D} {ns ns' : List Nw}
theorem c_neT {α : Type} {g : α → PyData} {A B : List α} {n : Nat} [DecidableEq α] [Shp g n] [Eqv g] (hn : n ≤ 50 := by decide) : cmpP S .NotEq (.im (.tuple (A.map g))) (.im (.tuple (B.map g))) = some (!decide (A = B)) :=
  c_neF (g := fun xs : List α => PyData.tuple (xs.map g)) (by omega)
end
/-! ### sorted(set(..)), sorted(..) of news, as functions -/
/-! ### what hangs on the news up to a day -/
section
variable {fs : List Fk} {ns ns' : List Nw} {r : Rw} {d w : Int} {wd : Str}
end
/-! ### draws -/
section
variable {P : List Fn} {k : Nat} {S R : Mem} {nn : List Int} {st : Dst} {fs : List Fk} {ns : List Nw} {r : Rw} {d w p c : Int} {L : List Int}
/-- a setting, drawn -/
structure SO (few : Int) (fs : List Fk) (ns : List Nw) (r : Rw) (d : Int) : Prop where
  ho : HO fs
  h0 : 0 < fs.length
  hl : fs.length ≤ 60
  hb : BO fs 40 ns
  pw : ns.Pairwise (fun a b => PySem.W.dataLt a.p b.p = true)
  hr : RwOk fs r
  d0 : 0 ≤ d
  d1 : d ≤ 99998
  d2 : (gt fs 0).d ≤ d
  hd : HD fs
end
end DL
end

section
set_option maxRecDepth 100000
set_option maxHeartbeats 2000000
/-! DVD: least lines. Ours. -/
namespace DL
open PySem PySem.Spec PyProof.Rows
section
variable {Φ : String → List D → M D} {env : Env} {K : Ks} {r body : Sms} {S : Mem} {α : Type} {L : List α} {g : α → PyData} {tg : Tg} {v n : Nat}
open Classical in
end
section
variable {S S1 : Mem} {α β : Type} {A : List α} {B : List β} {g : α → PyData} {h : β → PyData} {n : Nat} {xs : List PyData} {L : List Int} {i : Int}
theorem m_idxT (h : Must (i ∈ L)) : mtD .index (.im (.tuple (L.map PyData.int))) [.im (.int i)] S = .ok (.im (.int (L.idxOf i))) S := by
  rw [show mtD .index (.im (.tuple (L.map PyData.int))) [.im (.int i)] S = indexD (.im (.tuple (L.map PyData.int))) (.im (.int i)) S from rfl]
  unfold indexD
  rw [seq_T, show imOf S (.im (.int i)) = some (.int i) from rfl]
  dsimp only
  rw [if_pos ⟨shaped_int i, shaped_tup L⟩, show idxOf (.int i) (L.map PyData.int) = some (L.idxOf i) from idx_at h]
theorem cutA_take (L : List α) {m : Nat} (h : m ≤ L.length) : cutA L none (some (m : Int)) = L.take m := by
  have hm : ¬ ((m : Int) < 0) := by omega
  unfold cutA HT.sIx
  simp [hm, Nat.min_eq_left h]
theorem gt_nat {α : Type} [Inhabited α] {l : List α} {a : Nat} {x : α} (h : l[a]? = some x) : gt l (a : Int) = x := by
  unfold gt
  rw [List.getD_eq_getElem?_getD, Int.toNat_natCast, h]; rfl
end
section
variable {P : List Fn} {k : Nat} {S R : Mem} {fs : List Fk} {ns : List Nw} {r : Rw} {d w c : Int} {wd : Str}
end
end DL
end

section
set_option maxRecDepth 100000
set_option maxHeartbeats 2000000
/-! DVE: the law on least lines. Ours. -/
namespace DL
open PySem PySem.Spec PyProof.Rows
section
variable {P : List Fn} {k : Nat} {S R : Mem} {fs : List Fk} {ns : List Nw} {r : Rw} {d w c one : Int} {wd : Str}
end
end DL
end

section
set_option maxRecDepth 100000
set_option maxHeartbeats 2000000
/-! DVF: who stands. Ours. -/
namespace DL
open PySem PySem.Spec PyProof.Rows
section
variable {P : List Fn} {k : Nat} {S S1 S2 R : Mem} {fs : List Fk} {ns : List Nw} {r : Rw} {d w c one : Int} {wd : Str} {α : Type} {kf : α → Int} {vf : α → PyData} {L : List α} {n : Nat} {i : Int} {p : PyData} {kvs : List (PyData × PyData)}
/-! ### dicts: setdefault, sorted -/
/-! ### dead, out, fit -/
def ded (ns : List Nw) (d w : Int) : Bool := !(dys ns "dies" d w).isEmpty
def outB (ns : List Nw) (d w : Int) : Bool := decide (bck ns d w < maxL (-1) (dys ns "leaves" d w ++ dys ns "cuts" d w))
def fit (fs : List Fk) (ns : List Nw) (r : Rw) (d w : Int) : Bool := (!(r.men == "only") || !decide ((gt fs w).s = 0)) && (!ded ns d w && !outB ns d w)
/-! ### reaches -/
abbrev pP (e : Int × Int) : PyData := .tuple [.int e.1, .int e.2]
/-- a reach told -/
structure ReO (fs : List Fk) (ns : List Nw) (r : Rw) (d : Int) (L : List (Int × Int)) : Prop where
  keys : L.map (·.1) = srtI (wlk fs ns r d)
  ok : ∀ e ∈ L, (e.1 = r.fo ∧ e.2 = -1) ∨ (e.1 ≠ r.fo ∧ e.2 ∈ wlk fs ns r d ∧ e.1 ∈ stp fs ns r d e.2)
  mn : ∀ e ∈ L, e.1 ≠ r.fo → ∀ q ∈ wlk fs ns r d, e.1 ∈ stp fs ns r d q → e.2 ≤ q
structure RI (sc : Int → List Int) (fo : Int) (N : Nat) (m : Int) (j : Nat) (D : List (Int × Int)) : Prop where
  a : ∀ e ∈ D, (e.1 = fo ∧ e.2 = -1) ∨ (e.1 ≠ fo ∧ e.2 ∈ D.map (·.1) ∧ 0 ≤ e.2 ∧ e.2 < e.1 ∧ e.1 ∈ sc e.2)
  b : ∀ p ∈ D.map (·.1), p < m → ∀ c ∈ sc p, c ∈ D.map (·.1)
  c : ∀ i, i < j → ∀ c, (sc m)[i]? = some c → c ∈ D.map (·.1)
  nd : (D.map (·.1)).Nodup
  rg : ∀ e ∈ D, 0 ≤ e.1 ∧ e.1 < N
  rt : D = [] ∨ fo ∈ D.map (·.1)
  g : ∀ e ∈ D, e.1 ≠ fo → e.2 ≤ m ∧ ∀ q ∈ D.map (·.1), q < e.2 → e.1 ∉ sc q
theorem RI.add {sc : Int → List Int} {fo m c : Int} {N j : Nat} {D : List (Int × Int)} (h : RI sc fo N m j D) (hm : m ∈ D.map (·.1)) (h0 : 0 ≤ m) (hj : (sc m)[j]? = some c) (hc : c ∉ D.map (·.1)) (hr : m < c ∧ c < N) : RI sc fo N m (j + 1) (D ++ [(c, m)]) := by
  have hne : c ≠ fo := fun e => by
    rcases h.rt with z | z
    · rw [z] at hm; cases hm
    · exact hc (e ▸ z)
  have mm : ∀ x, x ∈ D.map (·.1) → x ∈ (D ++ [(c, m)]).map (·.1) := fun x hx => by rw [List.map_append]; exact List.mem_append_left _ hx
  refine ⟨?_, ?_, ?_, ?_, ?_, .inr ?_, ?_⟩
  · intro e he
    rcases List.mem_append.mp he with he | he
    · rcases h.a e he with z | z
      · exact .inl z
      · exact .inr ⟨z.1, mm _ z.2.1, z.2.2⟩
    · rw [List.mem_singleton.mp he]
      exact .inr ⟨hne, mm _ hm, h0, hr.1, List.mem_of_getElem? hj⟩
  · intro p hp hlt x hx
    rw [List.map_append, List.mem_append] at hp
    rcases hp with hp | hp
    · exact mm _ (h.b p hp hlt x hx)
    · have : p = c := by simpa using hp
      omega
  · intro i hi x hx
    by_cases e : i = j
    · rw [e, hj] at hx
      rw [← Option.some.inj hx, List.map_append]
      exact List.mem_append_right _ (by simp)
    · exact mm _ (h.c i (by omega) x hx)
  · rw [List.map_append]
    exact List.nodup_append.mpr ⟨h.nd, by simp, fun a ha b hb e => hc (by rw [show b = c by simpa using hb] at e; rw [← e]; exact ha)⟩
  · intro e he
    rcases List.mem_append.mp he with he | he
    · exact h.rg e he
    · rw [List.mem_singleton.mp he]; exact ⟨by show 0 ≤ c; omega, hr.2⟩
  · rcases h.rt with z | z
    · rw [z] at hm; cases hm
    · exact mm _ z
  · intro e he hef
    rcases List.mem_append.mp he with he | he
    · obtain ⟨h1, h2⟩ := h.g e he hef
      refine ⟨h1, fun q hq hlt => ?_⟩
      rw [List.map_append, List.mem_append] at hq
      rcases hq with hq | hq
      · exact h2 q hq hlt
      · have : q = c := by simpa using hq
        omega
    · rw [List.mem_singleton.mp he]
      refine ⟨Int.le_refl _, fun q hq hlt => ?_⟩
      have hlt : q < m := hlt
      rw [List.map_append, List.mem_append] at hq
      rcases hq with hq | hq
      · exact fun hx => hc (h.b q hq hlt c hx)
      · have : q = c := by simpa using hq
        omega
theorem RI.keep {sc : Int → List Int} {fo m c : Int} {N j : Nat} {D : List (Int × Int)} (h : RI sc fo N m j D) (hj : (sc m)[j]? = some c) (hc : c ∈ D.map (·.1)) : RI sc fo N m (j + 1) D :=
  ⟨h.a, h.b, fun i hi x hx => by
    by_cases e : i = j
    · rw [e, hj] at hx; rw [← Option.some.inj hx]; exact hc
    · exact h.c i (by omega) x hx, h.nd, h.rg, h.rt, h.g⟩
theorem RI.next {sc : Int → List Int} {fo m : Int} {N : Nat} {D : List (Int × Int)} (h : RI sc fo N m (sc m).length D) : RI sc fo N (m + 1) 0 D :=
  ⟨h.a, fun p hp hlt c hc => by
    by_cases e : p = m
    · subst e
      obtain ⟨i, hi⟩ := List.getElem?_of_mem hc
      exact h.c i (List.getElem?_eq_some_iff.mp hi).1 c hi
    · exact h.b p hp (by omega) c hc, fun i hi => absurd hi (Nat.not_lt_zero _), h.nd, h.rg, h.rt, fun e he hn => ⟨by have := (h.g e he hn).1; omega, (h.g e he hn).2⟩⟩
theorem RI.skip {sc : Int → List Int} {fo m : Int} {N : Nat} {D : List (Int × Int)} (h : RI sc fo N m 0 D) (hm : m ∉ D.map (·.1)) : RI sc fo N (m + 1) 0 D :=
  ⟨h.a, fun p hp hlt c hc => h.b p hp (by
    have : p ≠ m := fun e => hm (e ▸ hp)
    omega) c hc, fun i hi => absurd hi (Nat.not_lt_zero _), h.nd, h.rg, h.rt, fun e he hn => ⟨by have := (h.g e he hn).1; omega, (h.g e he hn).2⟩⟩
end
end DL
end

section
set_option maxRecDepth 100000
set_option maxHeartbeats 2000000
/-! DVT: values by places; small rules. Ours. -/
namespace DL
open PySem PySem.Spec PyProof.Rows
section
variable {S S1 S2 : Mem} {n : Nat} {i : Int} {xs : List PyData} {z : D} {p : PyData}
theorem rep_1 (h : Must (0 ≤ i ∧ i ≤ 1000)) (h3 : S.length = n) (h4 : S ++ [.lst (List.replicate i.toNat p)] = S2) : repK [.im p] (.im (.int i)) S = .ok (.rf n) S2 := by
  have h : 0 ≤ i ∧ i ≤ 1000 := h
  have := sizeLine_eq
  show repD [p] (.im (.int i)) S = _
  unfold repD
  dsimp only
  rw [if_pos ⟨by omega, by simp; omega⟩, h3]
  have : (List.replicate i.toNat [p]).flatten = List.replicate i.toNat p := by
    induction i.toNat with
    | zero => rfl
    | succ m ih => rw [List.replicate_succ, List.flatten_cons, ih]; rfl
  rw [this, h4]
end
section
variable {S : Mem} {p q : Bool}
theorem c_neB : cmpP S .NotEq (.im (.bool p)) (.im (.bool q)) = some (!decide (p = q)) := c_neF (S := S) (g := PyData.bool) (n := 0)
theorem c_isnB : cmpP S .IsNot (.im (.bool p)) (.im (.bool q)) = some (!decide (p = q)) := rfl
end
/-- values by places -/
def tab (n : Nat) (f : Int → Int) : List Int := (upto n).map f
end DL
end

section
set_option maxRecDepth 100000
set_option maxHeartbeats 2000000
/-! DVW: numbers, folk, lines said. Ours. -/
namespace DL
open PySem PySem.Spec PyProof.Rows
/-- is_number: 1 1 -/
def isNumY : Sms :=
 .cons (.ret (.bop true (.cons (.isi (.var 0) true ["int"]) (.cons (.nt (.isi (.var 0) true ["bool"])) .nil)))) .nil
section
variable {P : List Fn} {k : Nat} {S R : Mem} {fs : List Fk} {ns : List Nw} {r : Rw} {d w c i a b : Int} {l : List Int}
/-! ### lines said -/
structure LnOk (fs : List Fk) (ns : List Nw) (r : Rw) (d : Int) (l : List Int) : Prop where
  hd : l[0]? = some r.fo
  born : (gt fs r.fo).d ≤ d
  rg : ∀ x ∈ l, 0 ≤ x ∧ x < fs.length
  st : ∀ (a : Nat) (x y : Int), l[a]? = some x → l[a + 1]? = some y → y ∈ stp fs ns r d x
theorem LnOk.rise (ho : HO fs) (h : LnOk fs ns r d l) : ∀ (a : Nat) (x : Int), l[a]? = some x → (a : Int) ≤ x := by
  intro a
  induction a with
  | zero => intro x hx; have := (h.rg x (List.mem_of_getElem? hx)).1; omega
  | succ a ih =>
    intro x hx
    have hl := (List.getElem?_eq_some_iff.mp hx).1
    have hy : l[a]? = some l[a] := List.getElem?_eq_getElem (by omega)
    have h1 := ih _ hy
    have h2 := (stp_mem ho (h.rg _ (List.mem_of_getElem? hy)).1 (h.st a _ x hy hx)).1
    omega
theorem LnOk.len (ho : HO fs) (h : LnOk fs ns r d l) : l.length ≤ fs.length := by
  rcases Nat.eq_zero_or_pos l.length with z | z
  · omega
  · have hy : l[l.length - 1]? = some l[l.length - 1] := List.getElem?_eq_getElem (by omega)
    have h1 := h.rise ho _ _ hy
    have h2 := (h.rg _ (List.mem_of_getElem? hy)).2
    omega
end
end DL
end

section
set_option maxRecDepth 100000
set_option maxHeartbeats 2000000
/-! DVG: reaches said; the law, third hand. Ours. -/
namespace DL
open PySem PySem.Spec PyProof.Rows
section
variable {S S1 S2 : Mem} {i j : Int} {L : List (Int × Int)} {n : Nat} {xs : List PyData} {x z : D} {p : PyData}
instance shp_pP : Shp pP 1 := ⟨fun a => by simp [PyData.canLay0, PyData.canLayAll0], fun a => by simp [PyData.depth, PyData.depthAll]⟩
instance eqv_pP : Eqv pP := ⟨fun a b => by cases a; cases b; simp [PyData.eqv, PyData.eqvAll]⟩
end
section
variable {P : List Fn} {k : Nat} {S R : Mem} {fs : List Fk} {ns : List Nw} {r : Rw} {d w c i a b : Int} {wd : Str} {L : List (Int × Int)}
end
end DL
end

section
set_option maxRecDepth 100000
set_option maxHeartbeats 2000000
/-! DVH: the law, third hand. Ours. -/
namespace DL
open PySem PySem.Spec PyProof.Rows
section
variable {P : List Fn} {k : Nat} {S R : Mem} {fs : List Fk} {ns : List Nw} {r : Rw} {d w c i a b : Int} {wd : Str} {L : List (Int × Int)}
def mc (fs : List Fk) (r : Rw) (c : Int) : Bool := (r.men == "first") && decide ((gt fs c).s = 1)
end
section
variable {S : Mem} {α β : Type} {A : List α} {B : List β} {f h : α → Int} {g : β → Int} {i j : Int} {p q : Bool}
end
section
variable {P : List Fn} {k : Nat} {S R : Mem} {fs : List Fk} {ns : List Nw} {r : Rw} {d w c i a b : Int} {wd : Str} {L : List (Int × Int)} {nn : List Int} {st : Dst}
end
end DL
end

section
set_option maxRecDepth 100000
set_option maxHeartbeats 2000000
/-! DVI: lines counted, lines said. Ours. -/
namespace DL
open PySem PySem.Spec PyProof.Rows
section
variable {Φ : String → List D → M D} {env : Env} {K : Ks} {r : Sms} {S S1 S2 : Mem} {n : Nat} {i j v u : Int} {xs : List Int} {o k e : Ex}
/-- o[i] += e, o a list of numbers -/
theorem w_asub (h1 : ev Φ o env S = .ok (.rf n) S) (h2 : ev Φ k env S = .ok (.im (.int i)) S) (hm : S[n]? = some (.lst (xs.map PyData.int))) (hi : Must (0 ≤ i ∧ i < xs.length)) (h3 : ev Φ e env S = .ok (.im (.int v)) S) (h4 : S.set n (.lst ((xs.set i.toNat (gt xs i + v)).map PyData.int)) = S2) (h5 : wps (execs Φ r env S2) K) : wps (execs Φ (.cons (.asub o k .Add e) r) env S) K := by
  have hi : 0 ≤ i ∧ i < xs.length := hi
  rw [wps_cons, wps_asub, h1]
  show wpe (ev Φ k env S) _ _
  rw [h2]
  have hg : getM (.rf n) (.im (.int i)) S = .ok (.im (.int (gt xs i))) S := by
    unfold getM
    simp only [hm]
    rw [if_pos hi.1, List.getElem?_map, gt_get hi]
    rfl
  show wpe (getM (.rf n) (.im (.int i)) S) _ _
  rw [hg]
  show wpe (ev Φ e env S) _ _
  rw [h3]
  have hs : setD (.rf n) (.im (.int i)) (.im (.int (gt xs i + v))) S = some S2 := by
    refine sd_L hm (by unfold Must; rw [List.length_map]; exact hi) ?_
    rw [← h4, List.map_set]
  show (match setD (.rf n) (.im (.int i)) (.im (.int (gt xs i + v))) S with
    | some S6 => wps (execs Φ r env S6) K
    | none => False)
  rw [hs]
  exact h5
end
/-! ### how many lines -/
/-! ### ever after -/
section
variable {fs : List Fk} {ns : List Nw} {r : Rw} {d d2 w c : Int}
theorem dys_up {wd : Str} (h : d ≤ d2) {x : Int} (hx : x ∈ dys ns wd d w) : x ∈ dys ns wd d2 w := by
  obtain ⟨n, hn, rfl⟩ := List.mem_map.mp hx
  obtain ⟨h1, h2⟩ := List.mem_filter.mp hn
  refine List.mem_map.mpr ⟨n, List.mem_filter.mpr ⟨h1, ?_⟩, rfl⟩
  simp only [Bool.and_eq_true, decide_eq_true_eq] at h2 ⊢
  exact ⟨h2.1, h2.2.1, by omega⟩
theorem dys_dn {wd : Str} {x : Int} (hx : x ∈ dys ns wd d2 w) (hd : x ≤ d) : x ∈ dys ns wd d w := by
  obtain ⟨n, hn, rfl⟩ := List.mem_map.mp hx
  obtain ⟨h1, h2⟩ := List.mem_filter.mp hn
  refine List.mem_map.mpr ⟨n, List.mem_filter.mpr ⟨h1, ?_⟩, rfl⟩
  simp only [Bool.and_eq_true, decide_eq_true_eq] at h2 ⊢
  exact ⟨h2.1, h2.2.1, hd⟩
theorem bck_up (h : d ≤ d2) : bck ns d w ≤ bck ns d2 w := by
  unfold bck
  rcases maxL_mem (dys ns "returns" d w) (-1) with e | e
  · rw [e]; exact (maxL_le _ _).1
  · exact (maxL_le _ _).2 _ (dys_up h e)
theorem minD0_mem {F : List Int} : (F = [] ∧ minD0 (-1) F = -1) ∨ (minD0 (-1) F ∈ F ∧ ∀ x ∈ F, minD0 (-1) F ≤ x) := by
  cases F with
  | nil => exact .inl ⟨rfl, rfl⟩
  | cons a q =>
    refine .inr ⟨?_, fun x hx => ?_⟩
    · show minL a q ∈ a :: q
      rcases minL_mem q a with e | e
      · rw [e]; exact List.mem_cons_self
      · exact List.mem_cons_of_mem _ e
    · show minL a q ≤ x
      rcases List.mem_cons.mp hx with e | e
      · rw [e]; exact (minL_le q a).1
      · exact (minL_le q a).2 x e
/-- a step is one on each later day -/
theorem okS_up (h : d ≤ d2) (hc : okS fs ns r d w c = true) : okS fs ns r d2 w c = true := by
  simp only [okS, Bool.and_eq_true, Bool.or_eq_true, decide_eq_true_eq] at hc ⊢
  obtain ⟨h1, h2, h3⟩ := hc
  refine ⟨by omega, ?_, h3⟩
  unfold cutF at h2 ⊢
  rcases minD0_mem (F := (dys ns "cuts" d2 w).filter fun c => decide (bck ns d2 w < c)) with ⟨_, e⟩ | ⟨m1, m2⟩
  · exact .inl e
  · refine .inr ?_
    obtain ⟨m3, m4⟩ := List.mem_filter.mp m1
    have m4 := of_decide_eq_true m4
    generalize minD0 (-1) ((dys ns "cuts" d2 w).filter fun c => decide (bck ns d2 w < c)) = x at m3 m4 ⊢
    by_cases hx : x ≤ d
    · have hb := bck_up (ns := ns) (w := w) h
      have hm : x ∈ (dys ns "cuts" d w).filter fun c => decide (bck ns d w < c) := List.mem_filter.mpr ⟨dys_dn m3 hx, decide_eq_true (by omega)⟩
      rcases minD0_mem (F := (dys ns "cuts" d w).filter fun c => decide (bck ns d w < c)) with ⟨e, _⟩ | ⟨n1, n2⟩
      · rw [e] at hm; cases hm
      · have := n2 x hm
        have hb0 : -1 ≤ bck ns d w := (maxL_le _ _).1
        have := of_decide_eq_true (List.mem_filter.mp n1).2
        omega
    · omega
theorem stp_iff (ho : HO fs) : c ∈ stp fs ns r d w ↔ c ∈ chd fs w ∧ okS fs ns r d w c = true := by
  constructor
  · intro h; exact List.mem_filter.mp (stp_chd h)
  · intro h
    have hm := List.mem_filter.mpr h
    unfold stp
    dsimp only
    split
    · have hs := (ho.fk c (chd_mem h.1)).s
      rcases hs with e | e
      · exact List.mem_append_right _ (List.mem_filter.mpr ⟨hm, decide_eq_true e⟩)
      · exact List.mem_append_left _ (List.mem_filter.mpr ⟨hm, decide_eq_true e⟩)
    · exact hm
theorem stp_up (ho : HO fs) (h : d ≤ d2) (hc : c ∈ stp fs ns r d w) : c ∈ stp fs ns r d2 w := by
  rw [stp_iff ho] at hc ⊢
  exact ⟨hc.1, okS_up h hc.2⟩
end
section
variable {P : List Fn} {k : Nat} {S R : Mem} {fs : List Fk} {ns : List Nw} {r : Rw} {d w c i a b : Int} {l : List Int}
theorem LnOk.up {d2 : Int} (ho : HO fs) (h : LnOk fs ns r d l) (hd : d ≤ d2) : LnOk fs ns r d2 l := ⟨h.hd, by have := h.born; omega, h.rg, fun a x y h1 h2 => stp_up ho hd (h.st a x y h1 h2)⟩
end
end DL
end

section
set_option maxRecDepth 100000
set_option maxHeartbeats 2000000
/-! DK1: thrones that ask, plain. Ours. -/
namespace DL
open PySem PySem.Spec PyProof.Rows
section
variable {α : Type} [Inhabited α] {l : List α} {t u : Int} {v : α}
theorem gt_set (ht : 0 ≤ t ∧ t < l.length) (hu : 0 ≤ u) : gt (l.set t.toNat v) u = if u = t then v else gt l u := by
  unfold gt
  rw [List.getD_eq_getElem?_getD, List.getD_eq_getElem?_getD, List.getElem?_set]
  by_cases e : u = t
  · subst e
    rw [if_pos rfl, if_pos rfl, if_pos (by omega)]
    rfl
  · rw [if_neg e, if_neg (by omega)]
theorem gt_at (n : Nat) (h : n < l.length) : l[n]? = some (gt l (n : Int)) := gt_get (i := (n : Int)) (by omega)
end
section
variable {α : Type} [BEq α] [LawfulBEq α]
end
/-- the thrones that one wishes for -/
def wsh (Ws : List (Int × List Int)) (w : Int) : List Int := match Ws.find? fun e => decide (e.1 = w) with
  | some e => e.2
  | none => []
/-- the throne that one has -/
def thr (Sh : List Int) (w : Int) : Int := if w ∈ Sh then (Sh.idxOf w : Int) else -1
def wtk (Ws : List (Int × List Int)) (w t h : Int) : Bool := decide (t ∈ wsh Ws w) && (decide (h = -1) || decide (((wsh Ws w).idxOf t : Int) < (wsh Ws w).idxOf h))
def wgv (o : List Int) (h w : Int) : Bool := decide (w ∈ o) && (decide (h = -1) || decide ((o.idxOf w : Int) < o.idxOf h))
def wdT (Ws : List (Int × List Int)) (Sh : List Int) (t w : Int) : Str := if wtk Ws w t (thr Sh w) = true then (if thr Sh w = -1 then "takes" else "turns") else "no"
def shT (Ws : List (Int × List Int)) (Sh : List Int) (t w : Int) : List Int := if wtk Ws w t (thr Sh w) = true then (if thr Sh w = -1 then Sh.set t.toNat w else (Sh.set t.toNat w).set (thr Sh w).toNat (-1)) else Sh
abbrev Ask := Int × Int × Str
def askP (a : Ask) : PyData := .tuple [.int a.1, .int a.2.1, .str a.2.2]
/-- how far the asking has come -/
structure Qs where
  sh : List Int
  as : List Int
  ak : List Ask
section
variable (Os : List (List Int)) (Ws : List (Int × List Int)) (T : List Int)
def fre (q : Qs) (t : Int) : Bool := decide (gt q.sh t = -1) && decide (gt q.as t < (gt Os t).length)
def nxT (q : Qs) : Int := (T.find? (fre Os q)).getD (-1)
def stT (t : Int) (q : Qs) : Qs := ⟨shT Ws q.sh t (gt (gt Os t) (gt q.as t)), q.as.set t.toNat (gt q.as t + 1), q.ak ++ [(t, gt (gt Os t) (gt q.as t), wdT Ws q.sh t (gt (gt Os t) (gt q.as t)))]⟩
def finT : Nat → Qs → Qs
  | 0, q => q
  | n + 1, q => if nxT Os T q = -1 then q else finT n (stT Os Ws (nxT Os T q) q)
def q0T : Qs := ⟨List.replicate Os.length (-1), List.replicate Os.length 0, []⟩
end
def muT : List (List Int) → List Int → Nat
  | o :: os, a :: as => (o.length - a.toNat) + muT os as
  | _, _ => 0
theorem muT_set : ∀ {Os : List (List Int)} {As : List Int} {i : Nat} {o : List Int} {a : Int}, Os[i]? = some o → As[i]? = some a → 0 ≤ a → a < o.length → muT Os (As.set i (a + 1)) + 1 = muT Os As
  | o' :: os, a' :: as, 0, o, a, h1, h2, h3, h4 => by
    cases h1
    cases h2
    simp only [List.set_cons_zero, muT]
    omega
  | o' :: os, a' :: as, i + 1, o, a, h1, h2, h3, h4 => by
    simp only [List.set_cons_succ, muT]
    have := muT_set (Os := os) (As := as) (i := i) h1 h2 h3 h4
    omega
  | [], _, _, _, _, h1, _, _, _ => by simp at h1
  | _ :: _, [], _, _, _, _, h2, _, _ => by simp at h2
theorem muT_le : ∀ {Os : List (List Int)} {As : List Int} {b : Nat}, (∀ o ∈ Os, o.length ≤ b) → muT Os As ≤ Os.length * b
  | o :: os, a :: as, b, h => by
    have h1 := h o List.mem_cons_self
    have h2 := muT_le (Os := os) (As := as) (b := b) fun o ho => h o (List.mem_cons_of_mem _ ho)
    simp only [muT, List.length_cons, Nat.succ_mul]
    omega
  | [], _, _, _ => by simp [muT]
  | _ :: _, [], _, _ => by simp [muT]
/-- orders and wishes as drawn -/
structure OW (Os : List (List Int)) (Ws : List (Int × List Int)) : Prop where
  n1 : 1 ≤ Os.length
  n6 : Os.length ≤ 6
  ol : ∀ o ∈ Os, o.length ≤ 12 ∧ o.Nodup ∧ ∀ w ∈ o, 0 ≤ w ∧ w ≤ 60
  wl : Ws.length ≤ 12
  wr : (Ws.map (·.1)).Pairwise (· < ·)
  ww : ∀ e ∈ Ws, (0 ≤ e.1 ∧ e.1 ≤ 60) ∧ e.2.length ≤ 6 ∧ e.2.Nodup ∧ ∀ t ∈ e.2, 0 ≤ t ∧ t < Os.length
section
variable {Os : List (List Int)} {Ws : List (Int × List Int)} {T : List Int} {q : Qs} {t w : Int}
theorem wsh_mem (h : t ∈ wsh Ws w) : ∃ e ∈ Ws, e.1 = w ∧ e.2 = wsh Ws w := by
  unfold wsh at h ⊢
  cases e : Ws.find? fun e => decide (e.1 = w) with
  | none => rw [e] at h; cases h
  | some x => exact ⟨x, List.mem_of_find?_eq_some e, by simpa using List.find?_some e, rfl⟩
theorem OW.ws (h : OW Os Ws) : (wsh Ws w).length ≤ 6 ∧ (wsh Ws w).Nodup ∧ ∀ t ∈ wsh Ws w, 0 ≤ t ∧ t < Os.length := by
  unfold wsh
  cases e : Ws.find? fun e => decide (e.1 = w) with
  | none => simp
  | some x => exact (h.ww x (List.mem_of_find?_eq_some e)).2
theorem OW.wsE (h : OW Os Ws) {e : Int × List Int} (he : e ∈ Ws) : wsh Ws e.1 = e.2 := by
  unfold wsh
  cases z : Ws.find? fun x => decide (x.1 = e.1) with
  | none => exact absurd (List.find?_eq_none.mp z e he) (by simp)
  | some x =>
    have h1 := List.mem_of_find?_eq_some z
    have h2 : x.1 = e.1 := by simpa using List.find?_some z
    have nd : (Ws.map (·.1)).Nodup := List.Pairwise.imp (fun h => Int.ne_of_lt h) h.wr
    have : x = e := by
      obtain ⟨i, e1⟩ := List.mem_iff_getElem?.mp h1
      obtain ⟨j, e2⟩ := List.mem_iff_getElem?.mp he
      have hi : i < (Ws.map (·.1)).length := by rw [List.length_map]; exact (List.getElem?_eq_some_iff.mp e1).1
      have : i = j := (List.getElem?_inj hi nd).mp (by rw [List.getElem?_map, List.getElem?_map, e1, e2, Option.map_some, Option.map_some, h2])
      subst this
      exact Option.some.inj (e1.symm.trans e2)
    rw [this]
theorem OW.og (h : OW Os Ws) (ht : 0 ≤ t ∧ t < Os.length) : (gt Os t).length ≤ 12 ∧ (gt Os t).Nodup ∧ ∀ w ∈ gt Os t, 0 ≤ w ∧ w ≤ 60 := h.ol _ (gt_mem ht)
/-- what holds all along -/
structure QOk (Os : List (List Int)) (Ws : List (Int × List Int)) (q : Qs) : Prop where
  sl : q.sh.length = Os.length
  al : q.as.length = Os.length
  a0 : ∀ t : Int, 0 ≤ t → t < Os.length → 0 ≤ gt q.as t
  sw : ∀ t : Int, 0 ≤ t → t < Os.length → gt q.sh t ≠ -1 → 0 ≤ gt q.sh t ∧ gt q.sh t ≤ 60 ∧ t ∈ wsh Ws (gt q.sh t)
  un : ∀ t u : Int, 0 ≤ t → t < Os.length → 0 ≤ u → u < Os.length → gt q.sh t = gt q.sh u → gt q.sh t ≠ -1 → t = u
theorem thr_some {Sh : List Int} (h : w ∈ Sh) : 0 ≤ thr Sh w ∧ thr Sh w < Sh.length ∧ gt Sh (thr Sh w) = w ∧ thr Sh w = (Sh.idxOf w : Int) := by
  have h1 := List.idxOf_lt_length_of_mem h
  have e : thr Sh w = (Sh.idxOf w : Int) := by unfold thr; rw [if_pos h]
  refine ⟨by omega, by omega, ?_, e⟩
  rw [e]
  refine gt_nat ?_
  rw [List.getElem?_eq_getElem h1, List.getElem_idxOf]
theorem thr_iff {Sh : List Int} : thr Sh w = -1 ↔ w ∉ Sh := by
  constructor
  · intro h hm
    have := (thr_some hm).1
    omega
  · intro h
    unfold thr
    rw [if_neg h]
theorem thr_uniq (hq : QOk Os Ws q) (ht : 0 ≤ t ∧ t < Os.length) (hw : w ≠ -1) (h : gt q.sh t = w) : thr q.sh w = t := by
  have hm : w ∈ q.sh := by rw [← h]; exact gt_mem (by rw [hq.sl]; exact ht)
  obtain ⟨h1, h2, h3, _⟩ := thr_some hm
  rw [hq.sl] at h2
  exact hq.un _ _ h1 h2 ht.1 ht.2 (h3.trans h.symm) (by rw [h3]; exact hw)
theorem q0_ok : QOk Os Ws (q0T Os) := by
  have e : ∀ t : Int, 0 ≤ t → t < Os.length → gt (q0T Os).sh t = -1 := fun t h1 h2 => List.eq_of_mem_replicate (gt_mem (l := List.replicate Os.length (-1 : Int)) (by rw [List.length_replicate]; exact ⟨h1, h2⟩))
  refine ⟨by simp [q0T], by simp [q0T], fun t h1 h2 => ?_, fun t h1 h2 h3 => absurd (e t h1 h2) h3, fun t u h1 h2 _ _ _ h3 => absurd (e t h1 h2) h3⟩
  have : gt (q0T Os).as t = 0 := List.eq_of_mem_replicate (gt_mem (l := List.replicate Os.length (0 : Int)) (by rw [List.length_replicate]; exact ⟨h1, h2⟩))
  omega
theorem fre_iff : fre Os q t = true ↔ gt q.sh t = -1 ∧ gt q.as t < (gt Os t).length := by simp [fre]
theorem nxT_some (h : nxT Os T q ≠ -1) : nxT Os T q ∈ T ∧ fre Os q (nxT Os T q) = true := by
  unfold nxT at h ⊢
  cases e : T.find? (fre Os q) with
  | none => rw [e] at h; exact absurd rfl h
  | some x => exact ⟨List.mem_of_find?_eq_some e, List.find?_some e⟩
theorem nxT_none (hT : ∀ t ∈ T, 0 ≤ t ∧ t < Os.length) (h : nxT Os T q = -1) : ∀ t ∈ T, fre Os q t = false := by
  unfold nxT at h
  cases e : T.find? (fre Os q) with
  | none => exact fun t ht => by simpa using List.find?_eq_none.mp e t ht
  | some x =>
    rw [e] at h
    have := hT x (List.mem_of_find?_eq_some e)
    have h : x = -1 := h
    omega
/-- what the one asked does to the sharing -/
theorem shT_gt (hq : QOk Os Ws q) (ht : 0 ≤ t ∧ t < Os.length) (h0 : gt q.sh t = -1) (hw : w ≠ -1) {u : Int} (hu : 0 ≤ u) (hu2 : u < Os.length) :
    gt (shT Ws q.sh t w) u = if wtk Ws w t (thr q.sh w) = true then (if u = t then w else if gt q.sh u = w then -1 else gt q.sh u) else gt q.sh u := by
  have hl := hq.sl
  unfold shT
  split
  · by_cases e : thr q.sh w = -1
    · rw [if_pos e, gt_set (by rw [hl]; exact ht) hu]
      have hn := thr_iff.mp e
      by_cases e1 : u = t
      · rw [if_pos e1, if_pos e1]
      · rw [if_neg e1, if_neg e1, if_neg]
        intro z
        exact hn (by rw [← z]; exact gt_mem (by rw [hl]; exact ⟨hu, hu2⟩))
    · rw [if_neg e]
      have hm : w ∈ q.sh := Classical.byContradiction fun z => e (thr_iff.mpr z)
      obtain ⟨h1, h2, h3, _⟩ := thr_some hm
      have hne : thr q.sh w ≠ t := fun z => by rw [z, h0] at h3; exact hw h3.symm
      rw [gt_set (by rw [List.length_set]; exact ⟨h1, h2⟩) hu, gt_set (by rw [hl]; exact ht) hu]
      by_cases e1 : u = t
      · rw [if_pos e1, if_neg (fun z => hne (z.symm.trans e1)), if_pos e1]
      · rw [if_neg e1, if_neg e1]
        by_cases e2 : gt q.sh u = w
        · rw [if_pos e2, if_pos]
          exact (thr_uniq hq ⟨hu, hu2⟩ hw e2).symm
        · rw [if_neg e2, if_neg]
          intro z
          exact e2 (by rw [z]; exact h3)
  · rfl
theorem shT_len {Sh : List Int} : (shT Ws Sh t w).length = Sh.length := by
  unfold shT
  split
  · split <;> simp
  · rfl
theorem stT_ok (ho : OW Os Ws) (hq : QOk Os Ws q) (ht : 0 ≤ t ∧ t < Os.length) (hf : fre Os q t = true) : QOk Os Ws (stT Os Ws t q) := by
  obtain ⟨f1, f2⟩ := fre_iff.mp hf
  have ha := hq.a0 t ht.1 ht.2
  have hwm : gt (gt Os t) (gt q.as t) ∈ gt Os t := gt_mem ⟨ha, f2⟩
  have hw := (ho.og ht).2.2 _ hwm
  have hg := fun {u : Int} (h1 : 0 ≤ u) (h2 : u < Os.length) => shT_gt (w := gt (gt Os t) (gt q.as t)) hq ht f1 (by omega) h1 h2
  unfold stT
  generalize gt (gt Os t) (gt q.as t) = w at hwm hw hg
  refine ⟨shT_len.trans hq.sl, by rw [List.length_set]; exact hq.al, fun u h1 h2 => ?_, fun u h1 h2 h3 => ?_, fun u v h1 h2 h3 h4 h5 h6 => ?_⟩
  · show 0 ≤ gt (q.as.set t.toNat (gt q.as t + 1)) u
    rw [gt_set (by rw [hq.al]; exact ht) h1]
    have := hq.a0 u h1 h2
    split <;> omega
  · replace h3 : gt (shT Ws q.sh t w) u ≠ -1 := h3
    show 0 ≤ gt (shT Ws q.sh t w) u ∧ gt (shT Ws q.sh t w) u ≤ 60 ∧ u ∈ wsh Ws (gt (shT Ws q.sh t w) u)
    rw [hg h1 h2] at h3 ⊢
    by_cases c : wtk Ws w t (thr q.sh w) = true
    · rw [if_pos c] at h3 ⊢
      by_cases e1 : u = t
      · rw [if_pos e1]
        refine ⟨hw.1, hw.2, ?_⟩
        unfold wtk at c
        rw [Bool.and_eq_true] at c
        rw [e1]
        exact of_decide_eq_true c.1
      · rw [if_neg e1] at h3 ⊢
        by_cases e2 : gt q.sh u = w
        · rw [if_pos e2] at h3
          exact absurd rfl h3
        · rw [if_neg e2] at h3 ⊢
          exact hq.sw u h1 h2 h3
    · rw [if_neg c] at h3 ⊢
      exact hq.sw u h1 h2 h3
  · replace h5 : gt (shT Ws q.sh t w) u = gt (shT Ws q.sh t w) v := h5
    replace h6 : gt (shT Ws q.sh t w) u ≠ -1 := h6
    rw [hg h1 h2] at h5 h6
    rw [hg h3 h4] at h5
    by_cases c : wtk Ws w t (thr q.sh w) = true
    · rw [if_pos c] at h5 h6
      rw [if_pos c] at h5
      by_cases e1 : u = t
      · by_cases e2 : v = t
        · rw [e1, e2]
        · rw [if_pos e1, if_neg e2] at h5
          by_cases e3 : gt q.sh v = w
          · rw [if_pos e3] at h5; omega
          · rw [if_neg e3] at h5; exact absurd h5.symm e3
      · rw [if_neg e1] at h5 h6
        by_cases e3 : gt q.sh u = w
        · rw [if_pos e3] at h6; exact absurd rfl h6
        · rw [if_neg e3] at h5 h6
          by_cases e2 : v = t
          · rw [if_pos e2] at h5; exact absurd h5 e3
          · rw [if_neg e2] at h5
            by_cases e4 : gt q.sh v = w
            · rw [if_pos e4] at h5; exact absurd h5 h6
            · rw [if_neg e4] at h5
              exact hq.un u v h1 h2 h3 h4 h5 h6
    · rw [if_neg c] at h5 h6
      rw [if_neg c] at h5
      exact hq.un u v h1 h2 h3 h4 h5 h6
theorem stT_mu (hq : QOk Os Ws q) (ht : 0 ≤ t ∧ t < Os.length) (hf : fre Os q t = true) : muT Os (stT Os Ws t q).as + 1 = muT Os q.as := by
  obtain ⟨f1, f2⟩ := fre_iff.mp hf
  exact muT_set (gt_get ht) (gt_get (by rw [hq.al]; exact ht)) (hq.a0 t ht.1 ht.2) f2
/-- the asking, to its end -/
theorem finT_end (h : nxT Os T q = -1) {n : Nat} : finT Os Ws T n q = q := by
  cases n with
  | zero => rfl
  | succ n => rw [finT, if_pos h]
theorem finT_step (hT : ∀ t ∈ T, 0 ≤ t ∧ t < Os.length) (hq : QOk Os Ws q) (h : nxT Os T q ≠ -1) : finT Os Ws T (muT Os q.as) q = finT Os Ws T (muT Os (stT Os Ws (nxT Os T q) q).as) (stT Os Ws (nxT Os T q) q) := by
  obtain ⟨h1, h2⟩ := nxT_some h
  rw [← stT_mu hq (hT _ h1) h2, finT, if_neg h]
end
end DL
end

section
set_option maxRecDepth 100000
set_option maxHeartbeats 2000000
/-! DK2: thrones that ask (defs of the program). Ours. -/
namespace DL
open PySem PySem.Spec PyProof.Rows
/-- wished_by: 2 4 -/
def wishedByY : Sms :=
 .cons (.for (.t [2, 3]) (.ex (.var 0)) (.cons (.iff (.cmp .Eq (.var 2) (.var 1)) (.cons (.ret (.var 3)) .nil) (.nil)) .nil))
 (.cons (.ret (.tup .nil)) .nil)
/-- throne_of: 2 4 -/
def throneOfY : Sms :=
 .cons (.fore [2, 3] 0 (.cons (.iff (.cmp .Eq (.var 3) (.var 1)) (.cons (.ret (.var 2)) .nil) (.nil)) .nil))
 (.cons (.ret (.neg (.con (.int 1)))) .nil)
/-- would_take: 4 5 -/
def wouldTakeY : Sms :=
 .cons (.asg (.v 4) (.call "wished_by" (.cons (.var 0) (.cons (.var 1) .nil))))
 (.cons (.ret (.bop true (.cons (.cmp .In (.var 2) (.var 4)) (.cons (.bop false (.cons (.cmp .Eq (.var 3) (.neg (.con (.int 1)))) (.cons (.cmp .Lt (.mt .index (.var 4) (.cons (.var 2) .nil)) (.mt .index (.var 4) (.cons (.var 3) .nil))) .nil))) .nil)))) .nil)
/-- next_throne: 4 5 -/
def nextThroneY : Sms :=
 .cons (.for (.v 4) (.ex (.var 1)) (.cons (.iff (.bop true (.cons (.cmp .Eq (.idx (.var 2) (.var 4)) (.neg (.con (.int 1)))) (.cons (.cmp .Lt (.idx (.var 3) (.var 4)) (.bi .len (.cons (.idx (.var 0) (.var 4)) .nil))) .nil))) (.cons (.ret (.var 4)) .nil) (.nil)) .nil))
 (.cons (.ret (.neg (.con (.int 1)))) .nil)
/-- answer_of: 4 5 -/
def answerOfY : Sms :=
 .cons (.asg (.v 4) (.call "throne_of" (.cons (.var 1) (.cons (.var 3) .nil))))
 (.cons (.iff (.nt (.call "would_take" (.cons (.var 0) (.cons (.var 3) (.cons (.var 2) (.cons (.var 4) .nil)))))) (.cons (.ret (.con (.str "no"))) .nil) (.nil))
 (.cons (.sub (.var 1) (.var 2) (.var 3))
 (.cons (.iff (.cmp .Eq (.var 4) (.neg (.con (.int 1)))) (.cons (.ret (.con (.str "takes"))) .nil) (.nil))
 (.cons (.sub (.var 1) (.var 4) (.neg (.con (.int 1))))
 (.cons (.ret (.con (.str "turns"))) .nil)))))
/-- by_thrones: 3 8 -/
def byThronesY : Sms :=
 .cons (.asg (.v 3) (.rep (.cons (.neg (.con (.int 1))) .nil) (.bi .len (.cons (.var 0) .nil))))
 (.cons (.asg (.v 4) (.rep (.cons (.con (.int 0)) .nil) (.bi .len (.cons (.var 0) .nil))))
 (.cons (.asg (.v 5) (.mls .nil))
 (.cons (.asg (.v 6) (.call "next_throne" (.cons (.var 0) (.cons (.var 2) (.cons (.var 3) (.cons (.var 4) .nil))))))
 (.cons (.whl 100000 (.cmp .NotEq (.var 6) (.neg (.con (.int 1)))) (.cons (.asg (.v 7) (.idx (.idx (.var 0) (.var 6)) (.idx (.var 4) (.var 6))))
 (.cons (.asub (.var 4) (.var 6) .Add (.con (.int 1)))
 (.cons (.exp (.mt .append (.var 5) (.cons (.tup (.cons (.var 6) (.cons (.var 7) (.cons (.call "answer_of" (.cons (.var 1) (.cons (.var 3) (.cons (.var 6) (.cons (.var 7) .nil))))) .nil)))) .nil)))
 (.cons (.asg (.v 6) (.call "next_throne" (.cons (.var 0) (.cons (.var 2) (.cons (.var 3) (.cons (.var 4) .nil)))))) .nil)))))
 (.cons (.ret (.tup (.cons (.bi .tuple (.cons (.var 3) .nil)) (.cons (.bi .tuple (.cons (.var 5) .nil)) .nil)))) .nil)))))
/-! ### for i, x in enumerate(..) -/
section
variable {Φ : String → List D → M D} {env : Env} {K : Ks} {r body : Sms} {S : Mem} {α : Type} {L : List α} {g : α → PyData} {is : List Nat} {v n : Nat}
open Classical in
theorem w_fore (hv : env[v]? = some (some (.rf n))) (hm : S[n]? = some (.lst (L.map g))) (I : List (Int × α) → Env → Mem → Prop) (hI : ∀ pre e S, I pre e S → S[n]? = some (.lst (L.map g))) (h0 : I [] env S)
    (hs : ∀ pre x post e S, enm L = pre ++ x :: post → I pre e S → ∃ e1, asgT (.t is) (.im (.tuple [.int x.1, g x.2])) e S = some e1 ∧ wps (execs Φ body e1 S) { K with nx := I (pre ++ [x]), ct := I (pre ++ [x]), bk := fun e S => S[n]? = some (.lst (L.map g)) ∧ wps (execs Φ r e S) K }) (hx : ∀ e S, I (enm L) e S → wps (execs Φ r e S) K) : wps (execs Φ (.cons (.fore is v body) r) env S) K := by
  rw [wps_cons, exec]
  have e1 : getV v env S = .ok (.rf n) S := by unfold getV; rw [hv]
  rw [e1]
  show wps (rfE (fun g items => forG g (asgT (.t is)) (execs Φ body) items env) env (.rf n) S) _
  unfold rfE
  simp only [hm]
  rw [enmL_map]
  unfold forG
  have key : ∀ (post pre : List (Int × α)) (env : Env) (S : Mem), enm L = pre ++ post → I pre env S → wps (match forL (fun d e S => if gOn n (L.map g) S then asgT (.t is) d e S else none) (execs Φ body) (post.map fun e => D.im (.tuple [.int e.1, g e.2])) env S with
    | .nx e S' => if gOn n (L.map g) S' then .nx e S' else .bad
    | z => z) { K with nx := fun e S => wps (execs Φ r e S) K } := by
    intro post
    induction post with
    | nil =>
      intro pre env S e h
      rw [List.append_nil] at e
      subst e
      show wps (if gOn n (L.map g) S then SR.nx env S else .bad) _
      have hg : gOn n (L.map g) S := hI _ _ _ h
      rw [if_pos hg]
      exact hx env S h
    | cons x post ih =>
      intro pre env S e h
      obtain ⟨e1, h1, h2⟩ := hs pre x post env S e h
      rw [List.map_cons, forL]
      have hg : gOn n (L.map g) S := hI _ _ _ h
      simp only [if_pos hg, h1]
      cases e2 : execs Φ body e1 S with
      | nx e3 S3 => rw [e2] at h2; exact ih (pre ++ [x]) e3 S3 (by rw [e, List.append_assoc]; rfl) h2
      | ct e3 S3 => rw [e2] at h2; exact ih (pre ++ [x]) e3 S3 (by rw [e, List.append_assoc]; rfl) h2
      | bk e3 S3 =>
        rw [e2] at h2
        show wps (if gOn n (L.map g) S3 then SR.nx e3 S3 else .bad) _
        have h2 : S3[n]? = some (.lst (L.map g)) ∧ wps (execs Φ r e3 S3) K := h2
        have hg : gOn n (L.map g) S3 := h2.1
        rw [if_pos hg]
        exact h2.2
      | rt d3 S3 => rw [e2] at h2; exact h2
      | er c3 e3 S3 => rw [e2] at h2; exact h2
      | bad => rw [e2] at h2; exact h2.elim
  exact key (enm L) [] env S rfl h0
theorem fore_im {p : PyData} (hv : env[v]? = some (some (.im p))) : exec Φ (.fore is v body) env S = exec Φ (.for (.t is) (.enm (.var v)) body) env S := by
  have e1 : getV v env S = .ok (.im p) S := by unfold getV; rw [hv]
  rw [exec, exec, evI, ev]
  have e2 : M.bind (getV v env) enmK S = enmK (.im p) S := by unfold M.bind; rw [e1]
  rw [e1, e2]
  show liftE env (enmK (.im p) S) (fun items S => forG (fun _ => True) (asgT (.t is)) (execs Φ body) items env S) = _
  have e3 : (fun (items : List D) S => forG (fun _ => True) (asgT (.t is)) (execs Φ body) items env S) = fun items S1 => forL (asgT (.t is)) (execs Φ body) items env S1 := by
    funext items S1
    unfold forG
    simp only [if_true]
    cases forL (fun d e S => asgT (.t is) d e S) (execs Φ body) items env S1 <;> rfl
  rw [e3]
theorem w_foreT {p : PyData} (hv : env[v]? = some (some (.im p))) (h : wps (execs Φ (.cons (.for (.t is) (.enm (.var v)) body) r) env S) K) : wps (execs Φ (.cons (.fore is v body) r) env S) K := by
  rw [wps_cons, fore_im hv, ← wps_cons]
  exact h
end
theorem set_same {S : Mem} {n : Nat} {o : Ob} (h : S[n]? = some o) : S.set n o = S := by
  apply List.ext_getElem?
  intro m
  rw [List.getElem?_set]
  split
  · rename_i e
    subst e
    rw [if_pos (List.getElem?_eq_some_iff.mp h).1, h]
  · rfl
def wsP (e : Int × List Int) : PyData := .tuple [.int e.1, .tuple (e.2.map PyData.int)]
def orP (o : List Int) : PyData := .tuple (o.map PyData.int)
section
variable {P : List Fn} {k : Nat} {S R : Mem} {Os : List (List Int)} {Ws : List (Int × List Int)} {T Sh As : List Int} {q : Qs} {t w h : Int} {n m : Nat}
theorem wishedBy_c [H : Fd P "wished_by" wishedByY 2 4] (hk : 1 ≤ k) (hl : Ws.length ≤ 1000) : callF P k "wished_by" [.im (.tuple (Ws.map wsP)), .im (.int w)] S = .ok (.im (.tuple ((wsh Ws w).map PyData.int))) S := by
  refine call_q H rfl (by omega) ?_
  simp only [wishedByY, List.map, List.map_cons, List.map_nil, List.length_cons, List.length_nil, List.replicate, List.cons_append, List.nil_append, Nat.reduceSub, Nat.reduceAdd]
  refine w_for (L := Ws) (enc := fun e => .im (wsP e)) (S1 := S) (vi_ex (v_var rfl) k_exT) (fun pre e S' => ∃ (e2 e3 : Option D), e = [some (.im (.tuple (Ws.map wsP))), some (.im (.int w)), e2, e3] ∧ S' = S ∧ ∀ x ∈ pre, x.1 ≠ w) ⟨_, _, rfl, rfl, by simp⟩ ?_ ?_
  · rintro pre x post e S' hL ⟨e2, e3, rfl, rfl, hp⟩
    refine ⟨_, rfl, ?_⟩
    refine w_iff (v_cmp (v_var rfl) (v_var rfl) c_eqI) (fun hq => ?_) (fun hq => w_nil ?_)
    · have hq := of_decide_eq_true hq
      refine w_ret (v_var rfl) ⟨?_, List.take_length ..⟩
      have : wsh Ws w = x.2 := by
        unfold wsh
        rw [hL, List.find?_append, List.find?_eq_none.mpr (fun y hy => by simpa using hp y hy), Option.none_or, List.find?_cons, decide_eq_true hq]
      rw [this]
    · refine w_nil (Φ := callF P (k - 1)) ⟨_, _, rfl, rfl, fun y hy => ?_⟩
      rcases List.mem_append.mp hy with z | z
      · exact hp y z
      · rw [List.mem_singleton.mp z]; exact of_decide_eq_false hq
  · rintro e S' ⟨e2, e3, rfl, rfl, hp⟩
    refine w_ret (v_tup vs_nil rfl) ⟨?_, List.take_length ..⟩
    have : wsh Ws w = [] := by
      unfold wsh
      rw [List.find?_eq_none.mpr (fun y hy => by simpa using hp y hy)]
    rw [this]
    rfl
theorem thr_at {Sh : List Int} {pre : List (Int × Int)} {x : Int × Int} {post : List (Int × Int)} (hL : enm Sh = pre ++ x :: post) (hp : ∀ y ∈ pre, y.2 ≠ w) (hx : x.2 = w) : thr Sh w = x.1 := by
  obtain ⟨h1, h2⟩ := enm_split hL
  have hi := (List.getElem?_eq_some_iff.mp h2).1
  have hm : w ∈ Sh := by rw [← hx]; exact List.mem_of_getElem? h2
  rw [(thr_some hm).2.2.2, h1]
  congr 1
  have hpre : ∀ j, j < pre.length → ∀ y, Sh[j]? = some y → y ≠ w := fun j hj y hy => by
    have e1 : (enm Sh)[j]? = some ((j : Int), y) := by rw [enm_get?, hy]; rfl
    rw [hL, List.getElem?_append_left hj] at e1
    exact hp _ (List.mem_of_getElem? e1)
  have a1 := List.idxOf_lt_length_of_mem hm
  rcases Nat.lt_trichotomy (Sh.idxOf w) pre.length with z | z | z
  · exact absurd rfl (hpre _ z w (by rw [List.getElem?_eq_getElem a1, List.getElem_idxOf]))
  · exact z
  · exfalso
    have := List.not_of_lt_findIdx (p := (· == w)) (xs := Sh) z
    obtain ⟨_, e⟩ := List.getElem?_eq_some_iff.mp h2
    simp [e, hx] at this
theorem thr_no {Sh : List Int} (hp : ∀ y ∈ enm Sh, y.2 ≠ w) : thr Sh w = -1 := by
  refine thr_iff.mpr fun hm => ?_
  obtain ⟨i, hi, e⟩ := List.mem_iff_getElem.mp hm
  have : (enm Sh)[i]? = some ((i : Int), w) := by rw [enm_get?, List.getElem?_eq_getElem hi, e]; rfl
  exact hp _ (List.mem_of_getElem? this) rfl
theorem throneOf_c [H : Fd P "throne_of" throneOfY 2 4] (hk : 1 ≤ k) (hm : S[n]? = some (.lst (Sh.map PyData.int))) : callF P k "throne_of" [.rf n, .im (.int w)] S = .ok (.im (.int (thr Sh w))) S := by
  refine call_q H rfl (by omega) ?_
  simp only [throneOfY, List.map, List.map_cons, List.map_nil, List.length_cons, List.length_nil, List.replicate, List.cons_append, List.nil_append, Nat.reduceSub, Nat.reduceAdd]
  refine w_fore (L := Sh) (g := PyData.int) rfl hm (fun pre e S' => ∃ (e2 e3 : Option D), e = [some (.rf n), some (.im (.int w)), e2, e3] ∧ S' = S ∧ ∀ x ∈ pre, x.2 ≠ w) (fun pre e S' ⟨_, _, _, e3, _⟩ => e3 ▸ hm) ⟨_, _, rfl, rfl, by simp⟩ ?_ ?_
  · rintro pre x post e S' hL ⟨e2, e3, rfl, rfl, hp⟩
    refine ⟨_, rfl, ?_⟩
    refine w_iff (v_cmp (v_var rfl) (v_var rfl) c_eqI) (fun hq => ?_) (fun hq => w_nil ?_)
    · have hq := of_decide_eq_true hq
      refine w_ret (v_var rfl) ⟨?_, List.take_length ..⟩
      rw [thr_at hL hp hq]
    · refine w_nil (Φ := callF P (k - 1)) ⟨_, _, rfl, rfl, fun y hy => ?_⟩
      rcases List.mem_append.mp hy with z | z
      · exact hp y z
      · rw [List.mem_singleton.mp z]; exact of_decide_eq_false hq
  · rintro e S' ⟨e2, e3, rfl, rfl, hp⟩
    refine w_ret (v_neg v_con o_neg) ⟨?_, List.take_length ..⟩
    rw [thr_no hp]
/-- of a tuple -/
theorem throneOfT_c [H : Fd P "throne_of" throneOfY 2 4] (hk : 1 ≤ k) : callF P k "throne_of" [.im (.tuple (Sh.map PyData.int)), .im (.int w)] S = .ok (.im (.int (thr Sh w))) S := by
  refine call_q H rfl (by omega) ?_
  simp only [throneOfY, List.map, List.map_cons, List.map_nil, List.length_cons, List.length_nil, List.replicate, List.cons_append, List.nil_append, Nat.reduceSub, Nat.reduceAdd]
  refine w_foreT rfl ?_
  refine w_for (L := enm Sh) (enc := fun e => .im (.tuple [.int e.1, .int e.2])) (S1 := S) (vi_enm (v_var rfl) k_enmT) (fun pre e S' => ∃ (e2 e3 : Option D), e = [some (.im (.tuple (Sh.map PyData.int))), some (.im (.int w)), e2, e3] ∧ S' = S ∧ ∀ x ∈ pre, x.2 ≠ w) ⟨_, _, rfl, rfl, by simp⟩ ?_ ?_
  · rintro pre x post e S' hL ⟨e2, e3, rfl, rfl, hp⟩
    refine ⟨_, rfl, ?_⟩
    refine w_iff (v_cmp (v_var rfl) (v_var rfl) c_eqI) (fun hq => ?_) (fun hq => w_nil ?_)
    · have hq := of_decide_eq_true hq
      refine w_ret (v_var rfl) ⟨?_, List.take_length ..⟩
      rw [thr_at hL hp hq]
    · refine w_nil (Φ := callF P (k - 1)) ⟨_, _, rfl, rfl, fun y hy => ?_⟩
      rcases List.mem_append.mp hy with z | z
      · exact hp y z
      · rw [List.mem_singleton.mp z]; exact of_decide_eq_false hq
  · rintro e S' ⟨e2, e3, rfl, rfl, hp⟩
    refine w_ret (v_neg v_con o_neg) ⟨?_, List.take_length ..⟩
    rw [thr_no hp]
theorem wouldTake_c [H1 : Fd P "wished_by" wishedByY 2 4] [H : Fd P "would_take" wouldTakeY 4 5] (hk : 2 ≤ k) (hl : Ws.length ≤ 1000) (hh : h ≠ -1 → h ∈ wsh Ws w) :
    callF P k "would_take" [.im (.tuple (Ws.map wsP)), .im (.int w), .im (.int t), .im (.int h)] S = .ok (.im (.bool (wtk Ws w t h))) S := by
  refine call_q H rfl (by omega) ?_
  simp only [wouldTakeY, List.map, List.map_cons, List.map_nil, List.length_cons, List.length_nil, List.replicate, List.cons_append, List.nil_append, Nat.reduceSub, Nat.reduceAdd]
  have c1 := wishedBy_c (P := P) (k := k - 1) (S := S) (Ws := Ws) (w := w) (by omega) hl
  refine w_asg (v_call (vs_cons (v_var rfl) (vs_cons (v_var rfl) vs_nil)) c1) rfl ?_
  simp only [List.set_cons_zero, List.set_cons_succ]
  refine w_ret (v_bop (vb_and (v_cmp (v_var rfl) (v_var rfl) c_inT) fun h1 => vb_one (v_bop (vb_or (v_cmp (v_var rfl) (v_neg v_con o_neg) c_eqI) fun h2 => vb_one (v_cmp (v_mt (v_var rfl) (r_idx seq_T) (vs_cons (v_var rfl) vs_nil) (m_idxT (show t ∈ wsh Ws w from of_decide_eq_true h1))) (v_mt (v_var rfl) (r_idx seq_T) (vs_cons (v_var rfl) vs_nil) (m_idxT (hh (of_decide_eq_false h2)))) c_ltI))))) ⟨?_, List.take_length ..⟩
  rfl
theorem nextThrone_c [H : Fd P "next_throne" nextThroneY 4 5] (hk : 1 ≤ k) (hT : ∀ t ∈ T, 0 ≤ t ∧ t < Os.length) (h1 : q.sh.length = Os.length) (h2 : q.as.length = Os.length) (hm : S[n]? = some (.lst (q.sh.map PyData.int))) (hm2 : S[m]? = some (.lst (q.as.map PyData.int))) :
    callF P k "next_throne" [.im (.tuple (Os.map orP)), .im (.tuple (T.map PyData.int)), .rf n, .rf m] S = .ok (.im (.int (nxT Os T q))) S := by
  refine call_q H rfl (by omega) ?_
  simp only [nextThroneY, List.map, List.map_cons, List.map_nil, List.length_cons, List.length_nil, List.replicate, List.cons_append, List.nil_append, Nat.reduceSub, Nat.reduceAdd]
  refine w_for (L := T) (enc := fun e => .im (.int e)) (S1 := S) (vi_ex (v_var rfl) k_exT) (fun pre e S' => ∃ (e2 : Option D), e = [some (.im (.tuple (Os.map orP))), some (.im (.tuple (T.map PyData.int))), some (.rf n), some (.rf m), e2] ∧ S' = S ∧ ∀ x ∈ pre, fre Os q x = false) ⟨_, rfl, rfl, by simp⟩ ?_ ?_
  · rintro pre x post e S' hL ⟨e2, rfl, rfl, hp⟩
    have hx := hT x (by rw [hL]; simp)
    refine ⟨_, rfl, ?_⟩
    refine w_iff (p := fre Os q x) (v_bop (vb_and (v_cmp (v_idx (v_var rfl) (v_var rfl) (x_R hm (x_L (by unfold Must; rw [h1]; exact hx)))) (v_neg v_con o_neg) c_eqI) fun _ => vb_one (v_cmp (v_idx (v_var rfl) (v_var rfl) (x_R hm2 (x_L (by unfold Must; rw [h2]; exact hx)))) (v_bi (vs_cons (v_idx (v_var rfl) (v_var rfl) (x_T hx)) vs_nil) b_lenTm) c_ltI))) (fun hq => ?_) (fun hq => w_nil ?_)
    · refine w_ret (v_var rfl) ⟨?_, List.take_length ..⟩
      have : nxT Os T q = x := by
        unfold nxT
        rw [hL, List.find?_append, List.find?_eq_none.mpr (fun y hy => by simpa using hp y hy), Option.none_or, List.find?_cons, hq]
        rfl
      rw [this]
    · refine w_nil (Φ := callF P (k - 1)) ⟨_, rfl, rfl, fun y hy => ?_⟩
      rcases List.mem_append.mp hy with z | z
      · exact hp y z
      · rw [List.mem_singleton.mp z]; exact hq
  · rintro e S' ⟨e2, rfl, rfl, hp⟩
    refine w_ret (v_neg v_con o_neg) ⟨?_, List.take_length ..⟩
    have : nxT Os T q = -1 := by
      unfold nxT
      rw [List.find?_eq_none.mpr (fun y hy => by simpa using hp y hy)]
      rfl
    rw [this]
theorem answerOf_c [H1 : Fd P "wished_by" wishedByY 2 4] [H2 : Fd P "would_take" wouldTakeY 4 5] [H3 : Fd P "throne_of" throneOfY 2 4] [H : Fd P "answer_of" answerOfY 4 5] (hk : 3 ≤ k) (hl : Ws.length ≤ 1000) (hq : QOk Os Ws q) (ht : 0 ≤ t ∧ t < Os.length) (hw : w ≠ -1) (h0 : gt q.sh t = -1) (hn : n < S.length) (hm : S[n]? = some (.lst (q.sh.map PyData.int))) :
    callF P k "answer_of" [.im (.tuple (Ws.map wsP)), .rf n, .im (.int t), .im (.int w)] S = .ok (.im (.str (wdT Ws q.sh t w))) (S.set n (.lst ((shT Ws q.sh t w).map PyData.int))) := by
  have hsl := hq.sl
  have c1 := throneOf_c (P := P) (k := k - 1) (S := S) (w := w) (by omega) hm
  have hheld : thr q.sh w ≠ -1 → (0 ≤ thr q.sh w ∧ thr q.sh w < Os.length) ∧ gt q.sh (thr q.sh w) = w ∧ thr q.sh w ∈ wsh Ws w := fun e => by
    have hmm : w ∈ q.sh := Classical.byContradiction fun z => e (thr_iff.mpr z)
    obtain ⟨z1, z2, z3, _⟩ := thr_some hmm
    rw [hsl] at z2
    have := (hq.sw _ z1 z2 (by rw [z3]; exact hw)).2.2
    rw [z3] at this
    exact ⟨⟨z1, z2⟩, z3, this⟩
  have c2 := wouldTake_c (P := P) (k := k - 1) (S := S) (Ws := Ws) (w := w) (t := t) (h := thr q.sh w) (by omega) hl fun e => (hheld e).2.2
  have key : ∃ d S', callF P k "answer_of" [.im (.tuple (Ws.map wsP)), .rf n, .im (.int t), .im (.int w)] S = .ok d S' ∧ d = .im (.str (wdT Ws q.sh t w)) ∧ S' = S.set n (.lst ((shT Ws q.sh t w).map PyData.int)) := by
    refine call_x H rfl (by omega) ?_
    simp only [answerOfY, List.map, List.map_cons, List.map_nil, List.length_cons, List.length_nil, List.replicate, List.cons_append, List.nil_append, Nat.reduceSub, Nat.reduceAdd]
    refine w_asg (v_call (vs_cons (v_var rfl) (vs_cons (v_var rfl) vs_nil)) c1) rfl ?_
    simp only [List.set_cons_zero, List.set_cons_succ]
    unfold wdT shT
    refine w_iff (v_nt (v_call (vs_cons (v_var rfl) (vs_cons (v_var rfl) (vs_cons (v_var rfl) (vs_cons (v_var rfl) vs_nil)))) c2) o_not) (fun hb => ?_) (fun hb => w_nil ?_)
    · have hb : ¬ wtk Ws w t (thr q.sh w) = true := by simpa using hb
      rw [if_neg hb, if_neg hb]
      refine w_ret v_con ⟨rfl, ?_⟩
      rw [List.take_length, set_same hm]
    · have hb : wtk Ws w t (thr q.sh w) = true := by simpa using hb
      rw [if_pos hb, if_pos hb]
      refine w_sub (v_var rfl) (v_var rfl) (v_var rfl) (sd_L (p := .int w) hm (by unfold Must; rw [List.length_map, hsl]; exact ht) rfl) ?_
      refine w_iff (v_cmp (v_var rfl) (v_neg v_con o_neg) c_eqI) (fun he => ?_) (fun he => w_nil ?_)
      · have he := of_decide_eq_true he
        rw [if_pos he, if_pos he]
        refine w_ret v_con ⟨rfl, ?_⟩
        rw [← List.map_set]
        exact List.take_of_length_le (by rw [List.length_set]; exact Nat.le_refl _)
      · have he := of_decide_eq_false he
        rw [if_neg he, if_neg he]
        have hm2 : (S.set n (.lst ((q.sh.map PyData.int).set t.toNat (.int w))))[n]? = some (.lst ((q.sh.map PyData.int).set t.toNat (.int w))) := List.getElem?_set_self hn
        refine w_sub (v_neg v_con o_neg) (v_var rfl) (v_var rfl) (sd_L (p := .int (-1)) hm2 (by unfold Must; rw [List.length_set, List.length_map, hsl]; exact (hheld he).1) rfl) ?_
        refine w_ret v_con ⟨rfl, ?_⟩
        rw [List.set_set, ← List.map_set, ← List.map_set]
        exact List.take_of_length_le (by rw [List.length_set]; exact Nat.le_refl _)
  obtain ⟨d, S', h1, rfl, rfl⟩ := key
  exact h1
theorem byThrones_c [H1 : Fd P "wished_by" wishedByY 2 4] [H2 : Fd P "would_take" wouldTakeY 4 5] [H3 : Fd P "throne_of" throneOfY 2 4] [H4 : Fd P "answer_of" answerOfY 4 5] [H5 : Fd P "next_throne" nextThroneY 4 5] [H : Fd P "by_thrones" byThronesY 3 8] (hk : 4 ≤ k) (ho : OW Os Ws) (hT : ∀ t ∈ T, 0 ≤ t ∧ t < Os.length) :
    callF P k "by_thrones" [.im (.tuple (Os.map orP)), .im (.tuple (Ws.map wsP)), .im (.tuple (T.map PyData.int))] S = .ok (.im (.tuple [.tuple ((finT Os Ws T (muT Os (q0T Os).as) (q0T Os)).sh.map PyData.int), .tuple ((finT Os Ws T (muT Os (q0T Os).as) (q0T Os)).ak.map askP)])) S := by
  have n6 := ho.n6
  have wl := ho.wl
  have hmu : muT Os (q0T Os).as ≤ 72 := Nat.le_trans (muT_le (b := 12) fun o h => (ho.ol o h).1) (by omega)
  have hA : (q0T Os).ak.length + muT Os (q0T Os).as ≤ 72 := by show 0 + _ ≤ 72; omega
  generalize hR : finT Os Ws T (muT Os (q0T Os).as) (q0T Os) = F
  refine call_q H rfl (by omega) ?_
  simp only [byThronesY, List.map, List.map_cons, List.map_nil, List.length_cons, List.length_nil, List.replicate, List.cons_append, List.nil_append, Nat.reduceSub, Nat.reduceAdd]
  refine w_asg (v_rep (vs_cons (v_neg v_con o_neg) vs_nil) (v_bi (vs_cons (v_var rfl) vs_nil) b_lenTm) (rep_1 (by unfold Must; omega) rfl rfl)) rfl ?_
  simp only [List.set_cons_zero, List.set_cons_succ]
  refine w_asg (v_rep (vs_cons v_con vs_nil) (v_bi (vs_cons (v_var rfl) vs_nil) b_lenTm) (rep_1 (by unfold Must; omega) rfl rfl)) rfl ?_
  simp only [List.set_cons_zero, List.set_cons_succ]
  refine w_asg (v_mls vs_nil rfl rfl rfl) rfl ?_
  simp only [List.set_cons_zero, List.set_cons_succ, List.append_assoc, List.cons_append, List.nil_append, List.length_append, List.length_cons, List.length_nil, Int.toNat_natCast]
  have e0 : (List.replicate Os.length (PyData.int (-1))) = (q0T Os).sh.map PyData.int := by unfold q0T; rw [List.map_replicate]
  have e1 : (List.replicate Os.length (PyData.int 0)) = (q0T Os).as.map PyData.int := by unfold q0T; rw [List.map_replicate]
  rw [e0, e1, show ([] : List PyData) = (q0T Os).ak.map askP from rfl]
  have hq0 := q0_ok (Os := Os) (Ws := Ws)
  refine w_asg (v_call (vs_cons (v_var rfl) (vs_cons (v_var rfl) (vs_cons (v_var rfl) (vs_cons (v_var rfl) vs_nil)))) (nextThrone_c (by omega) hT hq0.sl hq0.al mg0 mg1)) rfl ?_
  simp only [List.set_cons_zero, List.set_cons_succ]
  refine w_whl (I := fun m e S' => ∃ (q : Qs) (e7 : Option D), QOk Os Ws q ∧ finT Os Ws T (muT Os q.as) q = F ∧ m = muT Os q.as ∧ q.ak.length + m ≤ 72 ∧ e = [some (.im (.tuple (Os.map orP))), some (.im (.tuple (Ws.map wsP))), some (.im (.tuple (T.map PyData.int))), some (.rf S.length), some (.rf (S.length + 1)), some (.rf (S.length + (0 + 1 + 1))), some (.im (.int (nxT Os T q))), e7] ∧ S' = S ++ [.lst (q.sh.map PyData.int), .lst (q.as.map PyData.int), .lst (q.ak.map askP)]) (muT Os (q0T Os).as) (by omega) ⟨q0T Os, _, hq0, hR, rfl, hA, rfl, rfl⟩ ?_
  rintro m e S' ⟨q, e7, hq, hF, rfl, hA, rfl, rfl⟩
  refine ⟨_, v_cmp (v_var rfl) (v_neg v_con o_neg) c_neI, fun hc => ?_, fun hc => ?_⟩
  · have hc : nxT Os T q ≠ -1 := by simpa using hc
    obtain ⟨hm, hf⟩ := nxT_some hc
    have ht := hT _ hm
    have hst := finT_step hT hq hc
    have hmu := stT_mu hq ht hf
    have hok := stT_ok ho hq ht hf
    obtain ⟨f1, f2⟩ := fre_iff.mp hf
    generalize nxT Os T q = t at hst hmu hok ht f1 f2
    have ha := hq.a0 t ht.1 ht.2
    have hw := (ho.og ht).2.2 _ (gt_mem ⟨ha, f2⟩)
    have hst2 : stT Os Ws t q = ⟨shT Ws q.sh t (gt (gt Os t) (gt q.as t)), q.as.set t.toNat (gt q.as t + 1), q.ak ++ [(t, gt (gt Os t) (gt q.as t), wdT Ws q.sh t (gt (gt Os t) (gt q.as t)))]⟩ := rfl
    refine ⟨by omega, ?_⟩
    refine w_asg (v_idx (v_idx (v_var rfl) (v_var rfl) (x_T ht)) (v_idx (v_var rfl) (v_var rfl) (x_R mg1 (x_L (by unfold Must; rw [hq.al]; exact ht)))) (x_T (g := PyData.int) ⟨ha, f2⟩)) rfl ?_
    simp only [List.set_cons_zero, List.set_cons_succ]
    generalize gt (gt Os t) (gt q.as t) = w at hw hst2
    refine w_asub (v_var rfl) (v_var rfl) mg1 (by unfold Must; rw [hq.al]; exact ht) v_con ms1 ?_
    have c1 := answerOf_c (P := P) (k := k - 1) (S := S ++ [.lst (q.sh.map PyData.int), .lst ((q.as.set t.toNat (gt q.as t + 1)).map PyData.int), .lst (q.ak.map askP)]) (Ws := Ws) (q := q) (t := t) (w := w) (n := S.length) (by omega) (by omega) hq ht (by omega) f1 (by rw [List.length_append]; simp) mg0
    rw [ms0] at c1
    refine w_exp (v_mt (v_var rfl) (r_app mg2) (vs_cons (v_tup (vs_cons (v_var rfl) (vs_cons (v_var rfl) (vs_cons (v_call (vs_cons (v_var rfl) (vs_cons (v_var rfl) (vs_cons (v_var rfl) (vs_cons (v_var rfl) vs_nil)))) c1) vs_nil))) rfl) vs_nil) (m_app mg2 (by unfold Must; rw [List.length_map]; omega) ms2)) ?_
    have eA : q.ak.map askP ++ [PyData.tuple [.int t, .int w, .str (wdT Ws q.sh t w)]] = (stT Os Ws t q).ak.map askP := by rw [hst2, List.map_append]; rfl
    have eB : shT Ws q.sh t w = (stT Os Ws t q).sh := by rw [hst2]
    have eC : q.as.set t.toNat (gt q.as t + 1) = (stT Os Ws t q).as := by rw [hst2]
    have eL : (stT Os Ws t q).ak.length = q.ak.length + 1 := by rw [hst2]; simp
    rw [eA, eB, eC]
    generalize stT Os Ws t q = q2 at hst hmu hok eL
    refine w_asg (v_call (vs_cons (v_var rfl) (vs_cons (v_var rfl) (vs_cons (v_var rfl) (vs_cons (v_var rfl) vs_nil)))) (nextThrone_c (by omega) hT hok.sl hok.al mg0 mg1)) rfl ?_
    simp only [List.set_cons_zero, List.set_cons_succ]
    exact w_nil ⟨q2, _, hok, by rw [← hst]; exact hF, by omega, by omega, rfl, rfl⟩
  · have hc : nxT Os T q = -1 := by simpa using hc
    rw [finT_end hc] at hF
    rw [← hF]
    refine w_ret (v_tup (vs_cons (v_bi (vs_cons (v_var rfl) vs_nil) (b_tupR mg0)) (vs_cons (v_bi (vs_cons (v_var rfl) vs_nil) (b_tupR mg2)) vs_nil)) rfl) ⟨rfl, List.take_left ..⟩
end
end DL
end

section
set_option maxRecDepth 100000
set_option maxHeartbeats 2000000
/-! DK3: orders and wishes drawn. Ours. -/
namespace DL
open PySem PySem.Spec PyProof.Rows
/-- _law_drawn_order: 3 6 -/
def ldrawnY : Sms :=
 .cons (.asg (.v 3) (.bi .mlist (.cons (.var 1) .nil)))
 (.cons (.asg (.v 4) (.mls .nil))
 (.cons (.for (.v 5) (.rng (.cons (.bi .min2 (.cons (.var 2) (.cons (.bi .len (.cons (.var 3) .nil)) .nil))) .nil)) (.cons (.exp (.mt .append (.var 4) (.cons (.mt .pop1 (.var 3) (.cons (.call "_law_take" (.cons (.var 0) (.cons (.bi .len (.cons (.var 3) .nil)) .nil))) .nil)) .nil))) .nil))
 (.cons (.ret (.bi .tuple (.cons (.var 4) .nil))) .nil)))
section
variable {S S2 : Mem} {n : Nat} {i : Int} {L : List Int}
theorem kk_lsr {t : Bool} (h : Must (n < 16777216)) : lsrK t [.im (.int (n : Int))] S = .ok (.im (if t = true then .tuple ((upto n).map PyData.int) else .list ((upto n).map PyData.int))) S := by
  have h : n < 16777216 := h
  unfold lsrK
  dsimp only
  rw [if_pos (by omega)]
  have e : rgP 0 n = (upto n).map PyData.int := by
    unfold rgP upto
    rw [List.map_map]
    congr 1
    funext k
    simp
  unfold lsrP
  rw [Int.toNat_natCast, e]
theorem eraseMap {α β : Type} (f : α → β) : ∀ (l : List α) (i : Nat), (l.map f).eraseIdx i = (l.eraseIdx i).map f
  | [], _ => rfl
  | _ :: _, 0 => rfl
  | a :: l, i + 1 => by
    rw [List.map_cons, List.eraseIdx_cons_succ, List.eraseIdx_cons_succ, List.map_cons, eraseMap f l i]
theorem erasePerm {α : Type} : ∀ {l : List α} {i : Nat} {x : α}, l[i]? = some x → (x :: l.eraseIdx i).Perm l
  | [], _, _, h => by simp at h
  | a :: l, 0, x, h => by
    cases h
    exact List.Perm.refl _
  | a :: l, i + 1, x, h => by
    rw [List.eraseIdx_cons_succ]
    exact (List.Perm.swap a x _).trans (List.Perm.cons a (erasePerm (by simpa using h)))
theorem mm_pop1 (hm : S[n]? = some (.lst (L.map PyData.int))) (hi : 0 ≤ i ∧ i < L.length) (hl : L.length < 1000000) (h2 : S.set n (.lst ((L.eraseIdx i.toNat).map PyData.int)) = S2) : mtD .pop1 (.rf n) [.im (.int i)] S = .ok (.im (.int (gt L i))) S2 := by
  rw [show mtD .pop1 (.rf n) [.im (.int i)] S = pop1D (.rf n) (.im (.int i)) S from rfl]
  unfold pop1D
  simp only [hm]
  rw [if_pos ⟨hi.1, by omega⟩, List.getElem?_map, gt_get hi]
  dsimp only [Option.map]
  rw [← h2, eraseMap]
end
/-- drawn of a pool, so many -/
structure DrO (A L : List Int) (m : Nat) : Prop where
  sub : ∀ x ∈ A, x ∈ L
  nd : L.Nodup → A.Nodup
  len : A.length = min m L.length
  perm : L.length ≤ m → A.Perm L
section
variable {P : List Fn} {k : Nat} {S R : Mem} {Os : List (List Int)} {Ws : List (Int × List Int)} {L : List Int} {w b : Int} {n m : Nat} {ns : List Int} {st : Dst} {p : PyData}
theorem ldrawn_x [H1 : Fd P "_law_take" takeY 2 4] [H : Fd P "_law_drawn_order" ldrawnY 3 6] (hk : 2 ≤ k) (hp : ∀ S, seqOf S (.im p) = some (L.map PyData.int)) (hl : L.length ≤ 1000) :
    ∃ v S', callF P k "_law_drawn_order" [.rf 0, .im p, .im (.int (m : Int))] (Sd ns st R) = .ok v S' ∧ ∃ (A : List Int) (st' : Dst), v = .im (.tuple (A.map PyData.int)) ∧ S' = Sd ns st' R ∧ DrO A L m := by
  refine call_x H rfl (by omega) ?_
  simp only [ldrawnY, List.map, List.map_cons, List.map_nil, List.length_cons, List.length_nil, List.replicate, List.cons_append, List.nil_append, Nat.reduceSub, Nat.reduceAdd]
  refine w_asg (v_bi (vs_cons (v_var rfl) vs_nil) (b_mlist (hp _) rfl rfl)) rfl ?_
  simp only [List.set_cons_zero, List.set_cons_succ]
  refine w_asg (v_mls vs_nil rfl rfl rfl) rfl ?_
  simp only [List.set_cons_zero, List.set_cons_succ]
  have eS : Sd ns st R ++ [Ob.lst (L.map PyData.int)] ++ [Ob.lst []] = Sd ns st (R ++ [.lst (L.map PyData.int), .lst (([] : List Int).map PyData.int)]) := by simp [Sd]
  have el : (Sd ns st R ++ [Ob.lst (L.map PyData.int)]).length = R.length + 2 := by simp [Sd]
  rw [eS, el, Sd_len]
  have emin : min (m : Int) (L.length : Int) = ((min m L.length : Nat) : Int) := by omega
  refine w_for (L := upto (min m L.length)) (enc := fun e => .im (.int e)) (S1 := Sd ns st (R ++ [.lst (L.map PyData.int), .lst (([] : List Int).map PyData.int)])) (vi_rng (vs_cons (v_bi (vs_cons (v_var rfl) (vs_cons (v_bi (vs_cons (v_var rfl) vs_nil) (b_lenR dg0)) vs_nil)) (by rw [b_min2, emin])) vs_nil) (k_rngN (by unfold Must; omega))) (fun pre e S' => ∃ (A B : List Int) (st' : Dst) (e5 : Option D), e = [some (.rf 0), some (.im p), some (.im (.int (m : Int))), some (.rf (R.length + 1)), some (.rf (R.length + 2)), e5] ∧ S' = Sd ns st' (R ++ [.lst (B.map PyData.int), .lst (A.map PyData.int)]) ∧ (A ++ B).Perm L ∧ A.length = pre.length) ⟨[], L, st, _, rfl, rfl, List.Perm.refl _, rfl⟩ ?_ ?_
  · rintro pre x post e S' hL ⟨A, B, st', e5, rfl, rfl, hP, hA⟩
    have hpl := congrArg List.length hL
    rw [upto_len, List.length_append, List.length_cons] at hpl
    have hPl := hP.length_eq
    rw [List.length_append] at hPl
    have td := tv_b (ns := ns) (st := st') (b := (B.length : Nat)) (by omega)
    have c1 := take_c (P := P) (k := k - 1) (ns := ns) (st := st') (R := R ++ [.lst (B.map PyData.int), .lst (A.map PyData.int)]) (b := (B.length : Nat)) (by unfold Must; omega) (by unfold Must; omega) (by unfold Must; omega)
    generalize tv ns st' (B.length : Nat) = i at td c1
    generalize ts ns st' (B.length : Nat) = st2 at c1
    refine ⟨_, rfl, ?_⟩
    simp only [List.set_cons_zero, List.set_cons_succ]
    refine w_exp (v_mt (v_var rfl) (r_app dg1) (vs_cons (v_mt (v_var rfl) (r_pop1 dg0) (vs_cons (v_call (vs_cons (v_var rfl) (vs_cons (v_bi (vs_cons (v_var rfl) vs_nil) (b_lenR dg0)) vs_nil)) c1) vs_nil) (mm_pop1 dg0 td (by omega) ds0)) vs_nil) (m_app dg1 (by unfold Must; rw [List.length_map]; omega) ds1)) ?_
    refine w_nil (Φ := callF P (k - 1)) ⟨A ++ [gt B i], B.eraseIdx i.toNat, st2, _, rfl, by rw [List.map_append]; rfl, ?_, by simp [hA]⟩
    have h2 := erasePerm (gt_get td)
    rw [List.append_assoc]
    exact (List.Perm.append_left A h2).trans hP
  · rintro e S' ⟨A, B, st', e5, rfl, rfl, hP, hA⟩
    rw [upto_len] at hA
    have hPl := hP.length_eq
    rw [List.length_append] at hPl
    refine w_ret (v_bi (vs_cons (v_var rfl) vs_nil) (b_tupR dg1)) ⟨A, st', rfl, ?_, fun x hx => hP.mem_iff.mp (List.mem_append_left _ hx), fun h => ((hP.nodup_iff.mpr h).sublist (List.sublist_append_left A B)), hA, fun h => ?_⟩
    · show List.take _ _ = _
      rw [Sd_len]
      simp [Sd]
    · have : B = [] := List.length_eq_zero_iff.mp (by omega)
      rw [this, List.append_nil] at hP
      exact hP
end
end DL
end

section
set_option maxRecDepth 100000
set_option maxHeartbeats 2000000
/-! DK4: the law asks for thrones. Ours. -/
namespace DL
open PySem PySem.Spec PyProof.Rows
section
variable {Φ : String → List D → M D} {env : Env} {S S1 S2 S3 : Mem} {x y z : D} {a b : Ex} {xs : List Int} {i : Int} {n : Nat}
theorem v_idn (h1 : ev Φ a env S = .ok x S1) (h2 : ev Φ b env S1 = .ok y S2) (h3 : idnD x y S2 = .ok z S3) : ev Φ (.idn a b) env S = .ok z S3 := by rw [ev, bind_okE h1, bind_okE h2, h3]
theorem kneIm (h : imOf S x = some (.list (xs.map PyData.int))) : cmpP S .NotEq x (.im (.list [])) = some (!xs.isEmpty) := by
  have := c_ne0L (S := S) (g := PyData.int) (L := xs)
  rw [cn] at this ⊢
  unfold eqM eqP at this ⊢
  rw [h]
  exact this
theorem kinIm (h : imOf S x = some (.list (xs.map PyData.int))) : cmpP S .In (.im (.int i)) x = some (decide (i ∈ xs)) := by
  have := c_inL (S := S) (g := PyData.int) (L := xs) (a := i)
  rw [ci] at this ⊢
  unfold inP at this ⊢
  rw [h]
  exact this
theorem imR (hm : S[n]? = some (.lst (xs.map PyData.int))) : imOf S (.rf n) = some (.list (xs.map PyData.int)) := by simp only [imOf, hm]
theorem midxR (hm : S[n]? = some (.lst (xs.map PyData.int))) (h : i ∈ xs) : mtD .index (.rf n) [.im (.int i)] S = .ok (.im (.int (xs.idxOf i))) S := by
  rw [show mtD .index (.rf n) [.im (.int i)] S = indexD (.rf n) (.im (.int i)) S from rfl]
  unfold indexD
  rw [seq_R hm, show imOf S (.im (.int i)) = some (.int i) from rfl]
  dsimp only
  rw [if_pos ⟨shaped_int i, shaped_tup xs⟩, show idxOf (.int i) (xs.map PyData.int) = some (xs.idxOf i) from idx_at h]
end
/-! ### lists of lists -/
def lsO (ls : List (List Int)) : Mem := ls.map fun l => Ob.lst (l.map PyData.int)
section
variable {S : Mem} {sh sh' l : List Int} {ls : List (List Int)} {ak ak' : List Ask} {t : Int} {n : Nat}
end
section
variable {P : List Fn} {k : Nat} {S R : Mem} {Os : List (List Int)} {Ws : List (Int × List Int)} {T : List Int} {q : Qs} {t w : Int} {n m : Nat} {p : PyData}
end
end DL
end

section
set_option maxRecDepth 100000
set_option maxHeartbeats 2000000
/-! DK5: asking and holding, plain. Ours. -/
namespace DL
open PySem PySem.Spec PyProof.Rows
theorem idx_nd {l : List Int} (h : l.Nodup) {j : Nat} {a : Int} (e : l[j]? = some a) : l.idxOf a = j := by
  obtain ⟨hj, e1⟩ := List.getElem?_eq_some_iff.mp e
  have hm : a ∈ l := List.mem_of_getElem? e
  have h1 := List.idxOf_lt_length_of_mem hm
  exact (List.getElem?_inj h1 h).mp (by rw [e, List.getElem?_eq_getElem h1, List.getElem_idxOf])
theorem idx_at' {l : List Int} {a : Int} (h : a ∈ l) : l[l.idxOf a]? = some a := by
  have h1 := List.idxOf_lt_length_of_mem h
  rw [List.getElem?_eq_getElem h1, List.getElem_idxOf]
theorem idx_inj {l : List Int} {a b : Int} (ha : a ∈ l) (e : l.idxOf a = l.idxOf b) : a = b := by
  have h1 := idx_at' ha
  by_cases hb : b ∈ l
  · have h2 := idx_at' hb
    rw [e, h2] at h1
    exact (Option.some.inj h1).symm
  · have h2 := List.idxOf_lt_length_of_mem ha
    have h3 : l.idxOf b = l.length := List.idxOf_eq_length hb
    omega
/-- who asks whom: the asker's lists, who takes whom, how dear -/
structure Mkt where
  P : Int → Prop
  L : Int → List Int
  ac : Int → Int → Prop
  rk : Int → Int → Nat
namespace Mkt
structure Rgt (m : Mkt) (R : Int → Int → Prop) : Prop where
  dom : ∀ {p a}, R p a → m.P p ∧ a ∈ m.L p ∧ m.ac a p
  fn : ∀ {p a b}, R p a → R p b → a = b
  inj : ∀ {p q a}, R p a → R q a → p = q
structure Stb (m : Mkt) (R : Int → Int → Prop) : Prop where
  r : m.Rgt R
  no : ∀ {p a}, m.P p → a ∈ m.L p → m.ac a p → (∀ b, R p b → (m.L p).idxOf a < (m.L p).idxOf b) → (∀ q, R q a → m.rk a p < m.rk a q) → False
structure Inv (m : Mkt) (c : Int → Nat) (R : Int → Int → Prop) : Prop where
  r : m.Rgt R
  cur : ∀ {p a}, R p a → 0 < c p ∧ (m.L p)[c p - 1]? = some a
  ref : ∀ {p a j}, m.P p → j < c p → (m.L p)[j]? = some a → R p a ∨ ∀ M, m.Stb M → ¬ M p a
  top : ∀ {p a j}, m.P p → j < c p → (m.L p)[j]? = some a → m.ac a p → ∃ q, R q a ∧ m.rk a q ≤ m.rk a p
structure Ok (m : Mkt) : Prop where
  nd : ∀ {p}, m.P p → (m.L p).Nodup
  rk : ∀ {a p q}, m.ac a p → m.ac a q → m.rk a p = m.rk a q → p = q
variable {m : Mkt} {c c' : Int → Nat} {R R' M : Int → Int → Prop} {p a : Int}
theorem Inv.congr (h : m.Inv c R) (h1 : ∀ p, m.P p → c p = c' p) (h2 : ∀ p a, R p a ↔ R' p a) : m.Inv c' R' := by
  have e : R = R' := by funext p a; exact propext (h2 p a)
  subst e
  refine ⟨h.r, fun {p a} hr => ?_, fun {p a j} hp hj e => ?_, fun {p a j} hp hj e => ?_⟩
  · rw [← h1 p (h.r.dom hr).1]; exact h.cur hr
  · rw [← h1 p hp] at hj; exact h.ref hp hj e
  · rw [← h1 p hp] at hj; exact h.top hp hj e
theorem inv0 : m.Inv (fun _ => 0) fun _ _ => False := ⟨⟨fun h => h.elim, fun h => h.elim, fun h => h.elim⟩, fun h => h.elim, fun _ h => absurd h (by omega), fun _ h => absurd h (by omega)⟩
/-- none of the first ones: further behind -/
theorem far {k : Nat} (hM : m.Rgt M) (h : ∀ j b, j < k → (m.L p)[j]? = some b → ¬ M p b) {b : Int} (hb : M p b) : k ≤ (m.L p).idxOf b := by
  by_cases z : k ≤ (m.L p).idxOf b
  · exact z
  · exact absurd hb (h _ b (by omega) (idx_at' (hM.dom hb).2.1))
theorem Inv.stepN (ok : m.Ok) (h : m.Inv c R) (hp : m.P p) (hf : ∀ a, ¬ R p a) (ha : (m.L p)[c p]? = some a) (hb : ¬ (m.ac a p ∧ ∀ q, R q a → m.rk a p < m.rk a q)) : m.Inv (fun x => if x = p then c p + 1 else c x) R := by
  have hb2 : m.ac a p → ∃ q, R q a ∧ m.rk a q ≤ m.rk a p := fun z => Classical.byContradiction fun y => hb ⟨z, fun q hq => Classical.byContradiction fun x => y ⟨q, hq, by omega⟩⟩
  refine ⟨h.r, fun {x y} hr => ?_, fun {x y j} hx hj e => ?_, fun {x y j} hx hj e hac => ?_⟩
  · have : x ≠ p := fun z => hf y (z ▸ hr)
    rw [if_neg this]
    exact h.cur hr
  · by_cases hxp : x = p
    · subst hxp
      rw [if_pos rfl] at hj
      by_cases hjc : j = c x
      · subst hjc
        rw [ha] at e
        cases e
        refine .inr fun M hM hm => ?_
        obtain ⟨q, hq1, hq2⟩ := hb2 (hM.r.dom hm).2.2
        have hqx : q ≠ x := fun z => hf a (z ▸ hq1)
        obtain ⟨c1, c2⟩ := h.cur hq1
        have hqP := (h.r.dom hq1).1
        have hi := idx_nd (ok.nd hqP) c2
        have hfar : ∀ {b}, M q b → c q ≤ (m.L q).idxOf b := far (k := c q) hM.r (p := q) fun j b hj e hmb => by
          rcases h.ref hqP hj e with z | z
          · have := h.r.fn z hq1
            rw [this] at hmb
            exact hqx (hM.r.inj hmb hm)
          · exact z M hM hmb
        refine hM.no hqP (h.r.dom hq1).2.1 (h.r.dom hq1).2.2 (fun b hb => ?_) fun q' hq' => ?_
        · have := hfar hb; omega
        · have := hM.r.inj hq' hm
          subst this
          have : m.rk a q ≠ m.rk a q' := fun z => hqx (ok.rk (h.r.dom hq1).2.2 (hM.r.dom hm).2.2 z)
          omega
      · exact h.ref hx (by omega) e
    · rw [if_neg hxp] at hj
      exact h.ref hx hj e
  · by_cases hxp : x = p
    · subst hxp
      rw [if_pos rfl] at hj
      by_cases hjc : j = c x
      · subst hjc
        rw [ha] at e
        cases e
        exact hb2 hac
      · exact h.top hx (by omega) e hac
    · rw [if_neg hxp] at hj
      exact h.top hx hj e hac
theorem Inv.stepY (ok : m.Ok) (h : m.Inv c R) (hp : m.P p) (hf : ∀ a, ¬ R p a) (ha : (m.L p)[c p]? = some a) (h1 : m.ac a p) (h2 : ∀ q, R q a → m.rk a p < m.rk a q) : m.Inv (fun x => if x = p then c p + 1 else c x) (fun x y => (x = p ∧ y = a) ∨ (R x y ∧ y ≠ a)) := by
  have hia := idx_nd (ok.nd hp) ha
  have hfar : ∀ M, m.Stb M → ¬ M p a → ∀ b, M p b → (m.L p).idxOf a < (m.L p).idxOf b := fun M hM hn b hb => by
    have hfar : ∀ {b}, M p b → c p + 1 ≤ (m.L p).idxOf b := far (k := c p + 1) hM.r (p := p) fun j b hj e hmb => by
      by_cases hjc : j = c p
      · subst hjc
        rw [ha] at e
        cases e
        exact hn hmb
      · rcases h.ref hp (by omega) e with z | z
        · exact hf _ z
        · exact z M hM hmb
    have := hfar hb
    omega
  refine ⟨⟨?_, ?_, ?_⟩, ?_, fun {x y j} hx hj e => ?_, fun {x y j} hx hj e hac => ?_⟩
  · rintro x y (⟨rfl, rfl⟩ | ⟨hr, _⟩)
    · exact ⟨hp, List.mem_of_getElem? ha, h1⟩
    · exact h.r.dom hr
  · rintro x y z (⟨rfl, rfl⟩ | ⟨hr, hy⟩) (⟨e, rfl⟩ | ⟨hr2, hz⟩)
    · rfl
    · exact absurd hr2 (hf _)
    · exact absurd (e ▸ hr) (hf _)
    · exact h.r.fn hr hr2
  · rintro x y z (⟨rfl, rfl⟩ | ⟨hr, hy⟩) (⟨rfl, e⟩ | ⟨hr2, hz⟩)
    · rfl
    · exact absurd rfl hz
    · exact absurd e hy
    · exact h.r.inj hr hr2
  · rintro x y (⟨rfl, rfl⟩ | ⟨hr, hy⟩)
    · rw [if_pos rfl]
      exact ⟨by omega, ha⟩
    · have : x ≠ p := fun z => hf y (z ▸ hr)
      rw [if_neg this]
      exact h.cur hr
  · by_cases hxp : x = p
    · subst hxp
      rw [if_pos rfl] at hj
      by_cases hjc : j = c x
      · subst hjc
        rw [ha] at e
        cases e
        exact .inl (.inl ⟨rfl, rfl⟩)
      · rcases h.ref hx (by omega) e with z | z
        · exact absurd z (hf _)
        · exact .inr z
    · rw [if_neg hxp] at hj
      rcases h.ref hx hj e with z | z
      · by_cases hya : y = a
        · subst hya
          refine .inr fun M hM hm => ?_
          have hn : ¬ M p y := fun w => hxp (hM.r.inj hm w)
          refine hM.no hp (List.mem_of_getElem? ha) h1 (hfar M hM hn) fun q hq => ?_
          have := hM.r.inj hq hm
          subst this
          exact h2 _ z
        · exact .inl (.inr ⟨z, hya⟩)
      · exact .inr z
  · have old : j < c x → ∃ q, ((q = p ∧ y = a) ∨ (R q y ∧ y ≠ a)) ∧ m.rk y q ≤ m.rk y x := fun hj => by
      obtain ⟨q, q1, q2⟩ := h.top hx hj e hac
      by_cases hya : y = a
      · subst hya
        exact ⟨p, .inl ⟨rfl, rfl⟩, Nat.le_trans (Nat.le_of_lt (h2 q q1)) q2⟩
      · exact ⟨q, .inr ⟨q1, hya⟩, q2⟩
    by_cases hxp : x = p
    · subst hxp
      rw [if_pos rfl] at hj
      by_cases hjc : j = c x
      · subst hjc
        rw [ha] at e
        cases e
        exact ⟨x, .inl ⟨rfl, rfl⟩, Nat.le_refl _⟩
      · exact old (by omega)
    · rw [if_neg hxp] at hj
      exact old hj
/-- at the end -/
theorem Inv.stb (ok : m.Ok) (h : m.Inv c R) (he : ∀ p, m.P p → (∃ a, R p a) ∨ (m.L p).length ≤ c p) : m.Stb R := by
  refine ⟨h.r, fun {p a} hp ha hac h1 h2 => ?_⟩
  have hj := List.idxOf_lt_length_of_mem ha
  have hlt : (m.L p).idxOf a < c p := by
    rcases he p hp with ⟨b, hb⟩ | z
    · have := idx_nd (ok.nd hp) (h.cur hb).2
      have := h1 b hb
      omega
    · omega
  obtain ⟨q, q1, q2⟩ := h.top hp hlt (idx_at' ha) hac
  have := h2 q q1
  omega
theorem Inv.opt (ok : m.Ok) (h : m.Inv c R) (he : ∀ p, m.P p → (∃ a, R p a) ∨ (m.L p).length ≤ c p) (hM : m.Stb M) (hm : M p a) : ∃ b, R p b ∧ (m.L p).idxOf b ≤ (m.L p).idxOf a := by
  obtain ⟨hp, ha, _⟩ := hM.r.dom hm
  have hj := List.idxOf_lt_length_of_mem ha
  rcases he p hp with ⟨b, hb⟩ | z
  · refine ⟨b, hb, ?_⟩
    have hi := idx_nd (ok.nd hp) (h.cur hb).2
    by_cases hlt : (m.L p).idxOf a < c p - 1
    · rcases h.ref hp (by omega) (idx_at' ha) with y | y
      · have := h.r.fn y hb
        subst this
        exact Nat.le_refl _
      · exact absurd hm (y M hM)
    · omega
  · rcases h.ref hp (by omega) (idx_at' ha) with y | y
    · exact ⟨a, y, Nat.le_refl _⟩
    · exact absurd hm (y M hM)
end Mkt
/-! ### thrones ask -/
def mkT (Os : List (List Int)) (Ws : List (Int × List Int)) : Mkt := ⟨fun t => 0 ≤ t ∧ t < Os.length, fun t => gt Os t, fun w t => t ∈ wsh Ws w, fun w t => (wsh Ws w).idxOf t⟩
def relT (M : List Int) : Int → Int → Prop := fun t w => (0 ≤ t ∧ t < M.length) ∧ gt M t = w ∧ w ≠ -1
/-- folk ask -/
def flw (Os : List (List Int)) (Ws : List (Int × List Int)) (w : Int) : List Int := (wsh Ws w).filter fun t => decide (w ∈ gt Os t)
def mkF (Os : List (List Int)) (Ws : List (Int × List Int)) : Mkt := ⟨fun w => w ∈ Ws.map (·.1), flw Os Ws, fun t w => w ∈ gt Os t, fun t w => (gt Os t).idxOf w⟩
def relF (M : List Int) : Int → Int → Prop := fun w t => relT M t w
section
variable {Os : List (List Int)} {Ws : List (Int × List Int)} {T : List Int} {q : Qs} {t w : Int} {M : List Int}
theorem mkT_ok (h : OW Os Ws) : (mkT Os Ws).Ok := ⟨fun hp => (h.og hp).2.1, fun h1 _ e => idx_inj h1 e⟩
theorem mkF_ok (h : OW Os Ws) : (mkF Os Ws).Ok := ⟨fun _ => h.ws.2.1.filter _, fun h1 _ e => idx_inj h1 e⟩
theorem idx_filter {l : List Int} {f : Int → Bool} {a b : Int} (ha : a ∈ l.filter f) (hb : b ∈ l.filter f) : (l.filter f).idxOf a < (l.filter f).idxOf b ↔ l.idxOf a < l.idxOf b := by
  induction l with
  | nil => cases ha
  | cons x r ih =>
    by_cases hf : f x = true
    · rw [List.filter_cons_of_pos hf] at ha hb ⊢
      simp only [List.idxOf_cons]
      by_cases e1 : x = a
      · subst e1
        by_cases e2 : x = b
        · subst e2; simp
        · have : (x == b) = false := by simpa using e2
          simp [this]
      · have h1 : (x == a) = false := by simpa using e1
        by_cases e2 : x = b
        · subst e2
          simp [h1]
        · have h2 : (x == b) = false := by simpa using e2
          simp only [h1, h2, cond_false]
          have ha' : a ∈ r.filter f := by rcases List.mem_cons.mp ha with z | z; exact absurd z.symm e1; exact z
          have hb' : b ∈ r.filter f := by rcases List.mem_cons.mp hb with z | z; exact absurd z.symm e2; exact z
          have := ih ha' hb'
          omega
    · rw [List.filter_cons_of_neg hf] at ha hb ⊢
      have h1 : (x == a) = false := by
        have : x ≠ a := fun z => hf (by rw [z]; exact (List.mem_filter.mp ha).2)
        simpa using this
      have h2 : (x == b) = false := by
        have : x ≠ b := fun z => hf (by rw [z]; exact (List.mem_filter.mp hb).2)
        simpa using this
      simp only [List.idxOf_cons, h1, h2, cond_false]
      have := ih ha hb
      omega
theorem flw_mem : t ∈ flw Os Ws w ↔ t ∈ wsh Ws w ∧ w ∈ gt Os t := by
  unfold flw
  rw [List.mem_filter, decide_eq_true_eq]
/-- at rest for thrones: at rest for folk -/
theorem rgt_iff (h : OW Os Ws) : (mkT Os Ws).Rgt (relT M) ↔ (mkF Os Ws).Rgt (relF M) := by
  constructor
  · intro r
    refine ⟨fun {w t} hr => ?_, fun h1 h2 => r.inj h1 h2, fun h1 h2 => r.fn h1 h2⟩
    obtain ⟨h1, h2, h3⟩ := r.dom hr
    obtain ⟨e, he, e1, e2⟩ := wsh_mem h3
    exact ⟨List.mem_map.mpr ⟨e, he, e1⟩, flw_mem.mpr ⟨h3, h2⟩, h2⟩
  · intro r
    refine ⟨fun {t w} hr => ?_, fun h1 h2 => r.inj h1 h2, fun h1 h2 => r.fn h1 h2⟩
    obtain ⟨h1, h2, h3⟩ := r.dom (show relF M w t from hr)
    exact ⟨h.ws.2.2 t (flw_mem.mp h2).1, h3, (flw_mem.mp h2).1⟩
theorem stb_iff (h : OW Os Ws) : (mkT Os Ws).Stb (relT M) ↔ (mkF Os Ws).Stb (relF M) := by
  constructor
  · intro s
    refine ⟨(rgt_iff h).mp s.r, fun {w t} hp ha hac h1 h2 => ?_⟩
    have ht := (flw_mem.mp ha).1
    refine s.no (p := t) (a := w) (h.ws.2.2 t ht) hac ht (fun b hb => h2 b hb) fun u hu => ?_
    have hu2 := (((rgt_iff h).mp s.r).dom (show relF M w u from hu)).2.1
    exact (idx_filter ha hu2).mp (h1 u hu)
  · intro s
    have r := (rgt_iff h).mpr s.r
    refine ⟨r, fun {t w} hp ha hac h1 h2 => ?_⟩
    obtain ⟨e, he, e1, e2⟩ := wsh_mem (show t ∈ wsh Ws w from hac)
    have hfl : t ∈ flw Os Ws w := flw_mem.mpr ⟨hac, ha⟩
    refine s.no (p := w) (a := t) (List.mem_map.mpr ⟨e, he, e1⟩) hfl ha (fun u hu => ?_) fun b hb => h1 b hb
    have hu2 := (s.r.dom hu).2.1
    exact (idx_filter hfl hu2).mpr (h2 u hu)
/-- a step of thrones is one of the market -/
theorem stT_inv (ho : OW Os Ws) (hq : QOk Os Ws q) (hI : (mkT Os Ws).Inv (fun t => (gt q.as t).toNat) (relT q.sh)) (ht : 0 ≤ t ∧ t < Os.length) (hf : fre Os q t = true) : (mkT Os Ws).Inv (fun u => (gt (stT Os Ws t q).as u).toNat) (relT (stT Os Ws t q).sh) := by
  obtain ⟨f1, f2⟩ := fre_iff.mp hf
  have ha := hq.a0 t ht.1 ht.2
  have hL : ((mkT Os Ws).L t)[(gt q.as t).toNat]? = some (gt (gt Os t) (gt q.as t)) := gt_get ⟨ha, f2⟩
  have hw := (ho.og ht).2.2 _ (gt_mem ⟨ha, f2⟩)
  have hfree : ∀ a, ¬ relT q.sh t a := fun a z => z.2.2 (z.2.1.symm.trans f1)
  have hcnt : ∀ u, (mkT Os Ws).P u → (if u = t then (gt q.as t).toNat + 1 else (gt q.as u).toNat) = (gt (stT Os Ws t q).as u).toNat := fun u hu => by
    show _ = (gt (q.as.set t.toNat (gt q.as t + 1)) u).toNat
    rw [gt_set (by rw [hq.al]; exact ht) hu.1]
    split <;> omega
  have hg := fun {u : Int} (h1 : 0 ≤ u) (h2 : u < Os.length) => shT_gt (w := gt (gt Os t) (gt q.as t)) hq ht f1 (by omega) h1 h2
  have hsh : (stT Os Ws t q).sh = shT Ws q.sh t (gt (gt Os t) (gt q.as t)) := rfl
  have hlen : (stT Os Ws t q).sh.length = Os.length := by rw [hsh, shT_len, hq.sl]
  generalize gt (gt Os t) (gt q.as t) = w at hL hw hg hsh
  have hbet : wtk Ws w t (thr q.sh w) = true ↔ (mkT Os Ws).ac w t ∧ ∀ u, relT q.sh u w → (mkT Os Ws).rk w t < (mkT Os Ws).rk w u := by
    unfold wtk
    rw [Bool.and_eq_true, Bool.or_eq_true, decide_eq_true_eq, decide_eq_true_eq, decide_eq_true_eq]
    constructor
    · rintro ⟨z1, z2⟩
      refine ⟨z1, fun u hu => ?_⟩
      have hu1 : 0 ≤ u ∧ u < Os.length := by have := hu.1; rw [hq.sl] at this; exact this
      have e := thr_uniq hq hu1 hu.2.2 hu.2.1
      rcases z2 with z2 | z2
      · omega
      · rw [e] at z2
        show (wsh Ws w).idxOf t < (wsh Ws w).idxOf u
        omega
    · rintro ⟨z1, z2⟩
      refine ⟨z1, ?_⟩
      by_cases e : thr q.sh w = -1
      · exact .inl e
      · refine .inr ?_
        have hm : w ∈ q.sh := Classical.byContradiction fun z => e (thr_iff.mpr z)
        obtain ⟨y1, y2, y3, _⟩ := thr_some hm
        have := z2 (thr q.sh w) ⟨⟨y1, y2⟩, y3, by omega⟩
        exact_mod_cast this
  by_cases c : wtk Ws w t (thr q.sh w) = true
  · obtain ⟨b1, b2⟩ := hbet.mp c
    refine (hI.stepY (mkT_ok ho) ht hfree hL b1 b2).congr hcnt fun u v => ?_
    unfold relT
    rw [hlen, hq.sl, hsh]
    constructor
    · rintro (⟨rfl, rfl⟩ | ⟨⟨h1, h2, h3⟩, h4⟩)
      · refine ⟨ht, ?_, by omega⟩
        rw [hg ht.1 ht.2, if_pos c, if_pos rfl]
      · refine ⟨h1, ?_, h3⟩
        rw [hg h1.1 h1.2, if_pos c, if_neg (fun z => by rw [z, f1] at h2; exact h3 h2.symm), if_neg (fun z => h4 (h2.symm.trans z))]
        exact h2
    · rintro ⟨h1, h2, h3⟩
      rw [hg h1.1 h1.2, if_pos c] at h2
      by_cases e1 : u = t
      · rw [if_pos e1] at h2
        exact .inl ⟨e1, h2.symm⟩
      · rw [if_neg e1] at h2
        by_cases e2 : gt q.sh u = w
        · rw [if_pos e2] at h2
          exact absurd h2.symm h3
        · rw [if_neg e2] at h2
          exact .inr ⟨⟨h1, h2, h3⟩, fun z => e2 (h2.trans z)⟩
  · refine (hI.stepN (mkT_ok ho) ht hfree hL (fun z => c (hbet.mpr z))).congr hcnt fun u v => ?_
    have : shT Ws q.sh t w = q.sh := by unfold shT; rw [if_neg c]
    rw [hsh, this]
theorem q0_inv : (mkT Os Ws).Inv (fun t => (gt (q0T Os).as t).toNat) (relT (q0T Os).sh) := by
  refine Mkt.inv0.congr (fun t ht => ?_) fun t w => ⟨fun z => z.elim, fun z => ?_⟩
  · have : gt (q0T Os).as t = 0 := List.eq_of_mem_replicate (gt_mem (l := List.replicate Os.length (0 : Int)) (by rw [List.length_replicate]; exact ht))
    rw [this]
    rfl
  · have hl : (q0T Os).sh.length = Os.length := by simp [q0T]
    have : gt (q0T Os).sh t = -1 := List.eq_of_mem_replicate (gt_mem (l := List.replicate Os.length (-1 : Int)) (by rw [List.length_replicate, ← hl]; exact z.1))
    exact z.2.2 (z.2.1.symm.trans this)
/-- what stands at the end of the thrones' asking: at rest, and best for thrones -/
theorem finT_all (ho : OW Os Ws) (hT : ∀ t ∈ T, 0 ≤ t ∧ t < Os.length) (hT2 : ∀ t : Int, 0 ≤ t ∧ t < Os.length → t ∈ T) : ∀ {n : Nat} {q : Qs}, QOk Os Ws q → (mkT Os Ws).Inv (fun t => (gt q.as t).toNat) (relT q.sh) → muT Os q.as ≤ n →
    QOk Os Ws (finT Os Ws T (muT Os q.as) q) ∧ (mkT Os Ws).Stb (relT (finT Os Ws T (muT Os q.as) q).sh) ∧ ∀ M t w, (mkT Os Ws).Stb M → M t w → ∃ v, relT (finT Os Ws T (muT Os q.as) q).sh t v ∧ (gt Os t).idxOf v ≤ (gt Os t).idxOf w
  | n, q, hq, hI, hm => by
    by_cases hc : nxT Os T q = -1
    · rw [finT_end hc]
      have he : ∀ t, (mkT Os Ws).P t → (∃ a, relT q.sh t a) ∨ ((mkT Os Ws).L t).length ≤ (gt q.as t).toNat := fun t ht => by
        have := nxT_none hT hc t (hT2 t ht)
        by_cases e : gt q.sh t = -1
        · refine .inr ?_
          unfold fre at this
          rw [decide_eq_true e, Bool.true_and] at this
          have := of_decide_eq_false this
          have := hq.a0 t ht.1 ht.2
          show (gt Os t).length ≤ _
          omega
        · exact .inl ⟨_, by rw [hq.sl]; exact ht, rfl, e⟩
      exact ⟨hq, hI.stb (mkT_ok ho) he, fun M t w hM hm => hI.opt (mkT_ok ho) he hM hm⟩
    · obtain ⟨h1, h2⟩ := nxT_some hc
      rw [finT_step hT hq hc]
      have hmu := stT_mu hq (hT _ h1) h2
      have hok := stT_ok ho hq (hT _ h1) h2
      have hi2 := stT_inv ho hq hI (hT _ h1) h2
      cases n with
      | zero => omega
      | succ n => exact finT_all ho hT hT2 (n := n) hok hi2 (by omega)
end
end DL
end

section
set_option maxRecDepth 100000
set_option maxHeartbeats 2000000
/-! DK6: folk that ask, plain. Ours. -/
namespace DL
open PySem PySem.Spec PyProof.Rows
/-- how far folk have asked -/
structure Fq where
  sh : List Int
  pc : List Int
section
variable (Os : List (List Int)) (Ws : List (Int × List Int))
def keyF (i : Int) : Int := (gt Ws i).1
def flF (i : Int) : List Int := flw Os Ws (keyF Ws i)
def freF (q : Fq) (i : Int) : Bool := decide (gt q.pc i < (flF Os Ws i).length) && decide (keyF Ws i ∉ q.sh)
def nxF (q : Fq) : Int := ((upto Ws.length).find? (freF Os Ws q)).getD (-1)
def shF (sh : List Int) (t w : Int) : List Int := if wgv (gt Os t) (gt sh t) w = true then sh.set t.toNat w else sh
def stF (i : Int) (q : Fq) : Fq := ⟨shF Os q.sh (gt (flF Os Ws i) (gt q.pc i)) (keyF Ws i), q.pc.set i.toNat (gt q.pc i + 1)⟩
def finF : Nat → Fq → Fq
  | 0, q => q
  | n + 1, q => if nxF Os Ws q = -1 then q else finF n (stF Os Ws (nxF Os Ws q) q)
def q0F : Fq := ⟨List.replicate Os.length (-1), List.replicate Ws.length 0⟩
/-- all lists asked from -/
def alF : List (List Int) := (upto Ws.length).map (flF Os Ws)
end
section
variable {Os : List (List Int)} {Ws : List (Int × List Int)} {q : Fq} {t w i : Int}
structure FOk (Os : List (List Int)) (Ws : List (Int × List Int)) (q : Fq) : Prop where
  sl : q.sh.length = Os.length
  pl : q.pc.length = Ws.length
  p0 : ∀ i : Int, 0 ≤ i → i < Ws.length → 0 ≤ gt q.pc i
  sw : ∀ t : Int, 0 ≤ t → t < Os.length → gt q.sh t ≠ -1 → gt q.sh t ∈ gt Os t
  un : ∀ t u : Int, 0 ≤ t → t < Os.length → 0 ≤ u → u < Os.length → gt q.sh t = gt q.sh u → gt q.sh t ≠ -1 → t = u
theorem keyF_mem (hi : 0 ≤ i ∧ i < Ws.length) : keyF Ws i ∈ Ws.map (·.1) := List.mem_map.mpr ⟨_, gt_mem hi, rfl⟩
theorem OW.key (h : OW Os Ws) (hi : 0 ≤ i ∧ i < Ws.length) : 0 ≤ keyF Ws i ∧ keyF Ws i ≤ 60 := (h.ww _ (gt_mem hi)).1
theorem flF_ok (h : OW Os Ws) : (flF Os Ws i).length ≤ 6 ∧ ∀ t ∈ flF Os Ws i, (0 ≤ t ∧ t < Os.length) ∧ keyF Ws i ∈ gt Os t := by
  refine ⟨Nat.le_trans (List.length_filter_le _ _) h.ws.1, fun t ht => ?_⟩
  obtain ⟨h1, h2⟩ := flw_mem.mp ht
  exact ⟨h.ws.2.2 t h1, h2⟩
theorem freF_iff : freF Os Ws q i = true ↔ gt q.pc i < (flF Os Ws i).length ∧ keyF Ws i ∉ q.sh := by simp [freF]
theorem nxF_some (h : nxF Os Ws q ≠ -1) : (0 ≤ nxF Os Ws q ∧ nxF Os Ws q < Ws.length) ∧ freF Os Ws q (nxF Os Ws q) = true := by
  unfold nxF at h ⊢
  cases e : (upto Ws.length).find? (freF Os Ws q) with
  | none => rw [e] at h; exact absurd rfl h
  | some x => exact ⟨upto_mem.mp (List.mem_of_find?_eq_some e), List.find?_some e⟩
theorem nxF_none (h : nxF Os Ws q = -1) (hi : 0 ≤ i ∧ i < Ws.length) : freF Os Ws q i = false := by
  unfold nxF at h
  cases e : (upto Ws.length).find? (freF Os Ws q) with
  | none => simpa using List.find?_eq_none.mp e i (upto_mem.mpr hi)
  | some x =>
    rw [e] at h
    have := upto_mem.mp (List.mem_of_find?_eq_some e)
    have h : x = -1 := h
    omega
theorem shF_gt {sh : List Int} (hl : sh.length = Os.length) (ht : 0 ≤ t ∧ t < Os.length) {u : Int} (hu : 0 ≤ u) : gt (shF Os sh t w) u = if wgv (gt Os t) (gt sh t) w = true ∧ u = t then w else gt sh u := by
  unfold shF
  by_cases c : wgv (gt Os t) (gt sh t) w = true
  · rw [if_pos c, gt_set (by rw [hl]; exact ht) hu]
    by_cases e : u = t
    · rw [if_pos e, if_pos ⟨c, e⟩]
    · rw [if_neg e, if_neg (fun z => e z.2)]
  · rw [if_neg c, if_neg (fun z => c z.1)]
theorem shF_len {sh : List Int} : (shF Os sh t w).length = sh.length := by
  unfold shF
  split <;> simp
theorem not_mem_gt {sh : List Int} (h : w ∉ sh) {u : Int} (hu : 0 ≤ u ∧ u < sh.length) : gt sh u ≠ w := fun z => h (by rw [← z]; exact gt_mem hu)
theorem stF_ok (ho : OW Os Ws) (hq : FOk Os Ws q) (hi : 0 ≤ i ∧ i < Ws.length) (hf : freF Os Ws q i = true) : FOk Os Ws (stF Os Ws i q) := by
  obtain ⟨f1, f2⟩ := freF_iff.mp hf
  have hp := hq.p0 i hi.1 hi.2
  obtain ⟨ht, hw⟩ := (flF_ok ho).2 _ (gt_mem (l := flF Os Ws i) ⟨hp, f1⟩)
  have hk := ho.key hi
  unfold stF
  generalize gt (flF Os Ws i) (gt q.pc i) = t at ht hw
  have hg := fun {u : Int} (hu : 0 ≤ u) => shF_gt (w := keyF Ws i) hq.sl ht hu
  have hn := fun {u : Int} (hu : 0 ≤ u ∧ u < Os.length) => not_mem_gt f2 (u := u) (by rw [hq.sl]; exact hu)
  generalize keyF Ws i = w at hw hk hg hn
  refine ⟨shF_len.trans hq.sl, by rw [List.length_set]; exact hq.pl, fun j h1 h2 => ?_, fun u h1 h2 h3 => ?_, fun u v h1 h2 h3 h4 h5 h6 => ?_⟩
  · show 0 ≤ gt (q.pc.set i.toNat (gt q.pc i + 1)) j
    rw [gt_set (by rw [hq.pl]; exact hi) h1]
    have := hq.p0 j h1 h2
    split <;> omega
  · replace h3 : gt (shF Os q.sh t w) u ≠ -1 := h3
    show gt (shF Os q.sh t w) u ∈ gt Os u
    rw [hg h1] at h3 ⊢
    by_cases c : wgv (gt Os t) (gt q.sh t) w = true ∧ u = t
    · rw [if_pos c, c.2]; exact hw
    · rw [if_neg c] at h3 ⊢
      exact hq.sw u h1 h2 h3
  · replace h5 : gt (shF Os q.sh t w) u = gt (shF Os q.sh t w) v := h5
    replace h6 : gt (shF Os q.sh t w) u ≠ -1 := h6
    rw [hg h1] at h5 h6
    rw [hg h3] at h5
    by_cases c1 : wgv (gt Os t) (gt q.sh t) w = true ∧ u = t
    · by_cases c2 : wgv (gt Os t) (gt q.sh t) w = true ∧ v = t
      · rw [c1.2, c2.2]
      · rw [if_pos c1, if_neg c2] at h5
        exact absurd h5.symm (hn ⟨h3, h4⟩)
    · rw [if_neg c1] at h5 h6
      by_cases c2 : wgv (gt Os t) (gt q.sh t) w = true ∧ v = t
      · rw [if_pos c2] at h5
        exact absurd h5 (hn ⟨h1, h2⟩)
      · rw [if_neg c2] at h5
        exact hq.un u v h1 h2 h3 h4 h5 h6
theorem alF_get (hi : 0 ≤ i ∧ i < Ws.length) : (alF Os Ws)[i.toNat]? = some (flF Os Ws i) := by
  unfold alF upto
  rw [List.map_map, List.getElem?_map, List.getElem?_range (by omega)]
  show some (flF Os Ws ((i.toNat : Nat) : Int)) = _
  rw [show ((i.toNat : Nat) : Int) = i by omega]
theorem stF_mu (hq : FOk Os Ws q) (hi : 0 ≤ i ∧ i < Ws.length) (hf : freF Os Ws q i = true) : muT (alF Os Ws) (stF Os Ws i q).pc + 1 = muT (alF Os Ws) q.pc := by
  obtain ⟨f1, f2⟩ := freF_iff.mp hf
  exact muT_set (alF_get hi) (gt_get (by rw [hq.pl]; exact hi)) (hq.p0 i hi.1 hi.2) f1
theorem finF_end (h : nxF Os Ws q = -1) {n : Nat} : finF Os Ws n q = q := by
  cases n with
  | zero => rfl
  | succ n => rw [finF, if_pos h]
theorem finF_step (hq : FOk Os Ws q) (h : nxF Os Ws q ≠ -1) : finF Os Ws (muT (alF Os Ws) q.pc) q = finF Os Ws (muT (alF Os Ws) (stF Os Ws (nxF Os Ws q) q).pc) (stF Os Ws (nxF Os Ws q) q) := by
  obtain ⟨h1, h2⟩ := nxF_some h
  rw [← stF_mu hq h1 h2, finF, if_neg h]
theorem q0F_ok : FOk Os Ws (q0F Os Ws) := by
  have e : ∀ t : Int, 0 ≤ t → t < Os.length → gt (q0F Os Ws).sh t = -1 := fun t h1 h2 => List.eq_of_mem_replicate (gt_mem (l := List.replicate Os.length (-1 : Int)) (by rw [List.length_replicate]; exact ⟨h1, h2⟩))
  refine ⟨by simp [q0F], by simp [q0F], fun t h1 h2 => ?_, fun t h1 h2 h3 => absurd (e t h1 h2) h3, fun t u h1 h2 _ _ _ h3 => absurd (e t h1 h2) h3⟩
  have : gt (q0F Os Ws).pc t = 0 := List.eq_of_mem_replicate (gt_mem (l := List.replicate Ws.length (0 : Int)) (by rw [List.length_replicate]; exact ⟨h1, h2⟩))
  omega
/-- how often one has asked -/
def cF (Ws : List (Int × List Int)) (q : Fq) (w : Int) : Nat := (gt q.pc ((Ws.map (·.1)).idxOf w : Int)).toNat
theorem ixF (ho : OW Os Ws) (hi : 0 ≤ i ∧ i < Ws.length) : ((Ws.map (·.1)).idxOf (keyF Ws i) : Int) = i := by
  have nd : (Ws.map (·.1)).Nodup := List.Pairwise.imp (fun h => Int.ne_of_lt h) ho.wr
  have := idx_nd nd (j := i.toNat) (a := keyF Ws i) (by rw [List.getElem?_map, gt_get hi]; rfl)
  omega
theorem key_ix (ho : OW Os Ws) (hw : w ∈ Ws.map (·.1)) : (0 ≤ ((Ws.map (·.1)).idxOf w : Int) ∧ ((Ws.map (·.1)).idxOf w : Int) < Ws.length) ∧ keyF Ws ((Ws.map (·.1)).idxOf w : Int) = w := by
  have h1 := List.idxOf_lt_length_of_mem hw
  have h2 := idx_at' hw
  rw [List.length_map] at h1
  refine ⟨⟨by omega, by omega⟩, ?_⟩
  have := gt_at (l := Ws) _ h1
  rw [List.getElem?_map, this] at h2
  exact Option.some.inj h2
/-- a step of folk is one of the market -/
theorem stF_inv (ho : OW Os Ws) (hq : FOk Os Ws q) (hI : (mkF Os Ws).Inv (cF Ws q) (relF q.sh)) (hi : 0 ≤ i ∧ i < Ws.length) (hf : freF Os Ws q i = true) : (mkF Os Ws).Inv (cF Ws (stF Os Ws i q)) (relF (stF Os Ws i q).sh) := by
  obtain ⟨f1, f2⟩ := freF_iff.mp hf
  have hp := hq.p0 i hi.1 hi.2
  have hix := ixF ho hi
  have hc : cF Ws q (keyF Ws i) = (gt q.pc i).toNat := by unfold cF; rw [hix]
  have hL : ((mkF Os Ws).L (keyF Ws i))[cF Ws q (keyF Ws i)]? = some (gt (flF Os Ws i) (gt q.pc i)) := by rw [hc]; exact gt_get ⟨hp, f1⟩
  obtain ⟨ht, hw⟩ := (flF_ok ho).2 _ (gt_mem (l := flF Os Ws i) ⟨hp, f1⟩)
  have hk := ho.key hi
  have hP : (mkF Os Ws).P (keyF Ws i) := keyF_mem hi
  have hcnt : ∀ w, (mkF Os Ws).P w → (if w = keyF Ws i then cF Ws q (keyF Ws i) + 1 else cF Ws q w) = cF Ws (stF Os Ws i q) w := fun w hw => by
    obtain ⟨k1, k2⟩ := key_ix ho hw
    show _ = (gt (q.pc.set i.toNat (gt q.pc i + 1)) ((Ws.map (·.1)).idxOf w : Int)).toNat
    rw [gt_set (by rw [hq.pl]; exact hi) k1.1]
    by_cases e : w = keyF Ws i
    · rw [if_pos e, if_pos (by rw [e]; exact hix), hc]
      omega
    · rw [if_neg e, if_neg (fun z => e (by rw [← z]; exact k2.symm))]
      rfl
  have hsh : (stF Os Ws i q).sh = shF Os q.sh (gt (flF Os Ws i) (gt q.pc i)) (keyF Ws i) := rfl
  generalize gt (flF Os Ws i) (gt q.pc i) = t at hL ht hw hsh
  have hlen : (stF Os Ws i q).sh.length = Os.length := by rw [hsh, shF_len, hq.sl]
  have hg := fun {u : Int} (hu : 0 ≤ u) => shF_gt (w := keyF Ws i) hq.sl ht hu
  have hn := fun {u : Int} (hu : 0 ≤ u ∧ u < Os.length) => not_mem_gt f2 (u := u) (by rw [hq.sl]; exact hu)
  have hfree : ∀ a, ¬ relF q.sh (keyF Ws i) a := fun a z => hn (by have := z.1; rw [hq.sl] at this; exact this) z.2.1
  generalize keyF Ws i = w at hL hw hk hg hn hsh hfree hcnt hP
  have hbet : wgv (gt Os t) (gt q.sh t) w = true ↔ (mkF Os Ws).ac t w ∧ ∀ u, relF q.sh u t → (mkF Os Ws).rk t w < (mkF Os Ws).rk t u := by
    unfold wgv
    rw [Bool.and_eq_true, Bool.or_eq_true, decide_eq_true_eq, decide_eq_true_eq, decide_eq_true_eq]
    constructor
    · rintro ⟨z1, z2⟩
      refine ⟨z1, fun u hu => ?_⟩
      have e : gt q.sh t = u := hu.2.1
      rcases z2 with z2 | z2
      · exact absurd (e.symm.trans z2) hu.2.2
      · rw [e] at z2
        show (gt Os t).idxOf w < (gt Os t).idxOf u
        omega
    · rintro ⟨z1, z2⟩
      refine ⟨z1, ?_⟩
      by_cases e : gt q.sh t = -1
      · exact .inl e
      · have := z2 (gt q.sh t) ⟨by rw [hq.sl]; exact ht, rfl, e⟩
        exact .inr (by exact_mod_cast this)
  by_cases c : wgv (gt Os t) (gt q.sh t) w = true
  · obtain ⟨b1, b2⟩ := hbet.mp c
    refine (hI.stepY (mkF_ok ho) hP hfree hL b1 b2).congr hcnt fun u v => ?_
    unfold relF relT
    rw [hlen, hq.sl, hsh]
    constructor
    · rintro (⟨rfl, rfl⟩ | ⟨⟨h1, h2, h3⟩, h4⟩)
      · refine ⟨ht, ?_, by omega⟩
        rw [hg ht.1, if_pos ⟨c, rfl⟩]
      · refine ⟨h1, ?_, h3⟩
        rw [hg h1.1, if_neg (fun z => h4 z.2)]
        exact h2
    · rintro ⟨h1, h2, h3⟩
      rw [hg h1.1] at h2
      by_cases e1 : v = t
      · rw [if_pos ⟨c, e1⟩] at h2
        exact .inl ⟨h2.symm, e1⟩
      · rw [if_neg (fun z => e1 z.2)] at h2
        exact .inr ⟨⟨h1, h2, h3⟩, e1⟩
  · refine (hI.stepN (mkF_ok ho) hP hfree hL (fun z => c (hbet.mpr z))).congr hcnt fun u v => ?_
    have : shF Os q.sh t w = q.sh := by unfold shF; rw [if_neg c]
    rw [hsh, this]
theorem q0F_inv : (mkF Os Ws).Inv (cF Ws (q0F Os Ws)) (relF (q0F Os Ws).sh) := by
  refine Mkt.inv0.congr (fun w hw => ?_) fun w t => ⟨fun z => z.elim, fun z => ?_⟩
  · have h1 := List.idxOf_lt_length_of_mem (show w ∈ Ws.map (·.1) from hw)
    have : gt (q0F Os Ws).pc ((Ws.map (·.1)).idxOf w : Int) = 0 := List.eq_of_mem_replicate (gt_mem (l := List.replicate Ws.length (0 : Int)) (i := ((Ws.map (·.1)).idxOf w : Int)) (by rw [List.length_replicate]; rw [List.length_map] at h1; omega))
    unfold cF
    rw [this]
    rfl
  · have hl : (q0F Os Ws).sh.length = Os.length := by simp [q0F]
    have : gt (q0F Os Ws).sh t = -1 := List.eq_of_mem_replicate (gt_mem (l := List.replicate Os.length (-1 : Int)) (by rw [List.length_replicate, ← hl]; exact z.1))
    exact z.2.2 (z.2.1.symm.trans this)
/-- what stands at the end of the folk's asking: at rest, and best for folk -/
theorem finF_all (ho : OW Os Ws) : ∀ {n : Nat} {q : Fq}, FOk Os Ws q → (mkF Os Ws).Inv (cF Ws q) (relF q.sh) → muT (alF Os Ws) q.pc ≤ n →
    FOk Os Ws (finF Os Ws (muT (alF Os Ws) q.pc) q) ∧ (mkF Os Ws).Stb (relF (finF Os Ws (muT (alF Os Ws) q.pc) q).sh) ∧ ∀ M w t, (mkF Os Ws).Stb M → M w t → ∃ v, relF (finF Os Ws (muT (alF Os Ws) q.pc) q).sh w v ∧ (flw Os Ws w).idxOf v ≤ (flw Os Ws w).idxOf t
  | n, q, hq, hI, hm => by
    by_cases hc : nxF Os Ws q = -1
    · rw [finF_end hc]
      have he : ∀ w, (mkF Os Ws).P w → (∃ a, relF q.sh w a) ∨ ((mkF Os Ws).L w).length ≤ cF Ws q w := fun w hw => by
        obtain ⟨k1, k2⟩ := key_ix ho hw
        have := nxF_none hc k1
        by_cases e : w ∈ q.sh
        · obtain ⟨z1, z2, z3, _⟩ := thr_some e
          have := ho.key k1
          rw [k2] at this
          exact .inl ⟨_, ⟨z1, z2⟩, z3, by omega⟩
        · refine .inr ?_
          unfold freF at this
          rw [k2, decide_eq_true e, Bool.and_true] at this
          have := of_decide_eq_false this
          have := hq.p0 _ k1.1 k1.2
          unfold flF at this
          unfold flF at *
          rw [k2] at *
          show (flw Os Ws w).length ≤ _
          unfold cF
          omega
      exact ⟨hq, hI.stb (mkF_ok ho) he, fun M w t hM hm => hI.opt (mkF_ok ho) he hM hm⟩
    · obtain ⟨h1, h2⟩ := nxF_some hc
      rw [finF_step hq hc]
      have hmu := stF_mu hq h1 h2
      have hok := stF_ok ho hq h1 h2
      have hi2 := stF_inv ho hq hI h1 h2
      cases n with
      | zero => omega
      | succ n => exact finF_all ho (n := n) hok hi2 (by omega)
end
/-! ### counting -/
theorem nd_len : ∀ {A B : List Int}, A.Nodup → (∀ x ∈ A, x ∈ B) → A.length ≤ B.length
  | [], _, _, _ => Nat.zero_le _
  | a :: A, B, hA, h => by
    have ha := h a List.mem_cons_self
    have hn := List.nodup_cons.mp hA
    have h2 := nd_len (A := A) (B := B.erase a) hn.2 fun x hx => (List.mem_erase_of_ne (fun z => by subst z; exact hn.1 hx)).mpr (h x (List.mem_cons_of_mem _ hx))
    rw [List.length_erase_of_mem ha] at h2
    have := List.length_pos_of_mem ha
    simp
    omega
theorem nd_back {A B : List Int} (hA : A.Nodup) (hB : B.Nodup) (h : ∀ x ∈ A, x ∈ B) (hl : B.length ≤ A.length) : ∀ x ∈ B, x ∈ A := fun x hx => by
  by_cases z : x ∈ A
  · exact z
  · exfalso
    have h2 := nd_len (B := B.erase x) hA fun y hy => (List.mem_erase_of_ne (fun e => by subst e; exact z hy)).mpr (h y hy)
    rw [List.length_erase_of_mem hx] at h2
    have := List.length_pos_of_mem hx
    omega
/-- those who have a throne -/
def gvn (M : List Int) : List Int := M.filter fun w => decide (w ≠ -1)
theorem gvn_mem {M : List Int} {w : Int} : w ∈ gvn M ↔ w ∈ M ∧ w ≠ -1 := by simp [gvn]
theorem gvn_le : ∀ {A B : List Int}, A.length = B.length → (∀ i : Nat, ∀ x y, A[i]? = some x → B[i]? = some y → x ≠ -1 → y ≠ -1) → (gvn A).length ≤ (gvn B).length
  | [], [], _, _ => Nat.le_refl _
  | a :: A, b :: B, hl, h => by
    have ih := gvn_le (A := A) (B := B) (by simpa using hl) fun i x y h1 h2 => h (i + 1) x y h1 h2
    have h0 := h 0 a b rfl rfl
    unfold gvn at ih ⊢
    by_cases ea : a = -1
    · rw [List.filter_cons_of_neg (by simpa using ea)]
      by_cases eb : b = -1
      · rw [List.filter_cons_of_neg (by simpa using eb)]; exact ih
      · rw [List.filter_cons_of_pos (by simpa using eb), List.length_cons]; omega
    · rw [List.filter_cons_of_pos (by simpa using ea), List.filter_cons_of_pos (by simpa using h0 ea), List.length_cons, List.length_cons]
      omega
  | [], _ :: _, hl, _ => by simp at hl
  | _ :: _, [], hl, _ => by simp at hl
theorem gvn_back : ∀ {A B : List Int}, A.length = B.length → (∀ i : Nat, ∀ x y, A[i]? = some x → B[i]? = some y → x ≠ -1 → y ≠ -1) → (gvn B).length ≤ (gvn A).length → ∀ i : Nat, ∀ x y, A[i]? = some x → B[i]? = some y → y ≠ -1 → x ≠ -1
  | a :: A, b :: B, hl, h, hc, i, x, y, h1, h2, hy => by
    have hA := fun (i : Nat) x y h1 h2 => h (i + 1) x y h1 h2
    have ih := gvn_le (A := A) (B := B) (by simpa using hl) hA
    have h0 := h 0 a b rfl rfl
    by_cases ea : a = -1
    · by_cases eb : b = -1
      · have hc2 : (gvn B).length ≤ (gvn A).length := by
          unfold gvn at hc ⊢
          rw [List.filter_cons_of_neg (by simpa using eb), List.filter_cons_of_neg (by simpa using ea)] at hc
          exact hc
        cases i with
        | zero => cases h1; cases h2; exact absurd eb hy
        | succ i => exact gvn_back (by simpa using hl) hA hc2 i x y h1 h2 hy
      · exfalso
        unfold gvn at hc ih
        rw [List.filter_cons_of_pos (by simpa using eb), List.filter_cons_of_neg (by simpa using ea), List.length_cons] at hc
        omega
    · have hc2 : (gvn B).length ≤ (gvn A).length := by
        unfold gvn at hc ⊢
        rw [List.filter_cons_of_pos (by simpa using h0 ea), List.filter_cons_of_pos (by simpa using ea), List.length_cons, List.length_cons] at hc
        omega
      cases i with
      | zero => cases h1; exact ea
      | succ i => exact gvn_back (by simpa using hl) hA hc2 i x y h1 h2 hy
  | [], _, _, _, _, _, _, _, h1, _, _ => by simp at h1
  | _ :: _, [], _, _, _, _, _, _, _, h2, _ => by simp at h2
end DL
end

section
set_option maxRecDepth 100000
set_option maxHeartbeats 2000000
/-! DK7: folk ask; what is at rest (defs of the program). Ours. -/
namespace DL
open PySem PySem.Spec PyProof.Rows
/-- would_give: 3 3 -/
def wouldGiveY : Sms :=
 .cons (.ret (.bop true (.cons (.cmp .In (.var 2) (.var 0)) (.cons (.bop false (.cons (.cmp .Eq (.var 1) (.neg (.con (.int 1)))) (.cons (.cmp .Lt (.mt .index (.var 0) (.cons (.var 2) .nil)) (.mt .index (.var 0) (.cons (.var 1) .nil))) .nil))) .nil)))) .nil
/-- is_right: 3 5 -/
def isRightY : Sms :=
 .cons (.iff (.bop false (.cons (.nt (.isi (.var 2) true ["tuple"])) (.cons (.cmp .NotEq (.bi .len (.cons (.var 2) .nil)) (.bi .len (.cons (.var 0) .nil))) .nil))) (.cons (.ret (.con (.bool false))) .nil) (.nil))
 (.cons (.for (.t [3, 4]) (.enm (.var 2)) (.cons (.iff (.nt (.call "is_number" (.cons (.var 4) .nil))) (.cons (.ret (.con (.bool false))) .nil) (.nil))
 (.cons (.iff (.bop true (.cons (.cmp .NotEq (.var 4) (.neg (.con (.int 1)))) (.cons (.bop false (.cons (.cmp .NotIn (.var 4) (.idx (.var 0) (.var 3))) (.cons (.cmp .NotIn (.var 3) (.call "wished_by" (.cons (.var 1) (.cons (.var 4) .nil)))) .nil))) .nil))) (.cons (.ret (.con (.bool false))) .nil) (.nil))
 (.cons (.iff (.bop true (.cons (.cmp .NotEq (.var 4) (.neg (.con (.int 1)))) (.cons (.cmp .In (.var 4) (.slc (.var 2) .nil (.cons (.var 3) .nil))) .nil))) (.cons (.ret (.con (.bool false))) .nil) (.nil)) .nil))))
 (.cons (.ret (.con (.bool true))) .nil))
/-- at_rest: 3 6 -/
def atRestY : Sms :=
 .cons (.iff (.nt (.call "is_right" (.cons (.var 0) (.cons (.var 1) (.cons (.var 2) .nil))))) (.cons (.ret (.con (.bool false))) .nil) (.nil))
 (.cons (.for (.t [3, 4]) (.enm (.var 0)) (.cons (.for (.v 5) (.ex (.var 4)) (.cons (.iff (.bop true (.cons (.call "would_take" (.cons (.var 1) (.cons (.var 5) (.cons (.var 3) (.cons (.call "throne_of" (.cons (.var 2) (.cons (.var 5) .nil))) .nil))))) (.cons (.call "would_give" (.cons (.var 4) (.cons (.idx (.var 2) (.var 3)) (.cons (.var 5) .nil)))) .nil))) (.cons (.ret (.con (.bool false))) .nil) (.nil)) .nil)) .nil))
 (.cons (.ret (.con (.bool true))) .nil))
/-- next_asker: 2 3 -/
def nextAskerY : Sms :=
 .cons (.forr (.v 2) 0 (.cons (.iff (.bop true (.cons (.cmp .NotEq (.idn (.var 0) (.var 2)) (.lst .nil)) (.cons (.cmp .NotIn (.var 2) (.var 1)) .nil))) (.cons (.ret (.var 2)) .nil) (.nil)) .nil))
 (.cons (.ret (.neg (.con (.int 1)))) .nil)
/-- by_folk: 2 7 -/
def byFolkY : Sms :=
 .cons (.asg (.v 2) (.rep (.cons (.neg (.con (.int 1))) .nil) (.bi .len (.cons (.var 0) .nil))))
 (.cons (.bld 3 (.t [4, 5]) (.ex (.var 1)) 4 (.cmm [("throne", 6)] (.var 6) (.v 6) (.ex (.var 5)) (.cons (.cmp .In (.var 4) (.idx (.var 0) (.var 6))) .nil)))
 (.cons (.asg (.v 4) (.call "next_asker" (.cons (.var 3) (.cons (.var 2) .nil))))
 (.cons (.whl 100000 (.cmp .NotEq (.var 4) (.neg (.con (.int 1)))) (.cons (.asg (.v 6) (.mt .pop1 (.idn (.var 3) (.var 4)) (.cons (.con (.int 0)) .nil)))
 (.cons (.iff (.call "would_give" (.cons (.idx (.var 0) (.var 6)) (.cons (.idx (.var 2) (.var 6)) (.cons (.var 4) .nil)))) (.cons (.sub (.var 2) (.var 6) (.var 4)) .nil) (.nil))
 (.cons (.asg (.v 4) (.call "next_asker" (.cons (.var 3) (.cons (.var 2) .nil)))) .nil))))
 (.cons (.ret (.bi .tuple (.cons (.var 2) .nil))) .nil))))
/-! ### rules -/
section
variable {Φ : String → List D → M D} {env : Env} {K : Ks} {r body : Sms} {S S1 S2 : Mem}
theorem gFTk (f : D → M (Option PyData)) : gF (fun _ => True) f = f := by
  funext d S
  unfold gF
  simp only [if_true]
theorem v_cmmK {Φ : String → List D → M D} {own : List (Str × Nat)} {elt : Ex} {tg : Tg} {it : It} {ifs : Exs} {env : Env} {S S2 : Mem} {zs : List PyData} (h : ev Φ (.cmpr own elt tg it ifs) env S = .ok (.im (.list zs)) S2) : ev Φ (.cmm own elt tg it ifs) env S = .ok (.rf S2.length) (S2 ++ [.lst zs]) := by
  rw [ev] at h
  rw [ev.eq_def]
  dsimp only
  unfold M.bind at h ⊢
  cases he : evI Φ it env S with
  | ok items S1 =>
    rw [he] at h
    dsimp only at h ⊢
    unfold cmprK at h
    unfold cmprG
    rw [gFTk]
    by_cases c : items.length ≤ sizeLine
    · rw [if_pos c] at h ⊢
      revert h
      generalize compL _ items S1 = z
      cases z with
      | ok ys S3 =>
        intro h
        dsimp only at h ⊢
        cases h
        rw [if_pos True.intro]
        rfl
      | err => intro h; cases h
      | bad => intro h; cases h
    · rw [if_neg c] at h; cases h
  | err => rw [he] at h; cases h
  | bad => rw [he] at h; cases h
theorem w_bld {v i : Nat} {tg : Tg} {it : It} {e : Ex} {items : List D} {e2 : Env} {kvs : List (PyData × D)} (hi : evI Φ it (env.set v none) S = .ok items S1) (hl : items.length ≤ 1000) (hv : v < env.length) (hb : bldL tg i (ev Φ e) items (env.set v none) S1 [] = some (e2, S2, kvs)) (h : wps (execs Φ r (e2.set v (some (.rf S2.length))) (S2 ++ [.nd kvs])) K) : wps (execs Φ (.cons (.bld v tg it i e) r) env S) K := by
  rw [wps_cons, exec]
  unfold bldM
  rw [hi]
  dsimp only
  rw [if_pos ⟨by rw [sizeLine_eq]; omega, hv⟩, hb]
  exact h
end
/-- a dict of lists that lie one behind the other -/
def kvs : List Int → Nat → List (PyData × D)
  | [], _ => []
  | k :: r, b => (.int k, .rf b) :: kvs r (b + 1)
theorem kvs_keys : ∀ (L : List Int) (b : Nat), (kvs L b).map (·.1) = L.map PyData.int
  | [], _ => rfl
  | k :: r, b => by rw [kvs, List.map_cons, List.map_cons, kvs_keys r]
theorem kvs_lk : ∀ {L : List Int} {b i : Nat} {k : Int}, L.Nodup → L[i]? = some k → lkN (.int k) (kvs L b) = some (.rf (b + i))
  | [], _, _, _, _, h => by simp at h
  | a :: r, b, 0, k, _, h => by
    cases h
    rw [kvs, lkN, if_pos (by simp [PyData.eqv])]
    rfl
  | a :: r, b, i + 1, k, hn, h => by
    have h1 : r[i]? = some k := by simpa using h
    have hm := List.mem_of_getElem? h1
    have hne : a ≠ k := fun z => (List.nodup_cons.mp hn).1 (z ▸ hm)
    rw [kvs, lkN, if_neg (by simpa [PyData.eqv] using hne), kvs_lk (List.nodup_cons.mp hn).2 h1]
    congr 2
    omega
theorem bldL_grow {tg : Tg} {i : Nat} {ce : Env → M D} {α : Type} {enc : α → D} {kf : α → Int} {g : α → List Int} (Pst : Env → Prop) : ∀ (L : List α) (env : Env) (S : Mem) (acc : List (PyData × D)), Pst env → (∀ a ∈ L, ∀ env S, Pst env → ∃ e1, asgT tg (enc a) env S = some e1 ∧ Pst e1 ∧ ce e1 S = .ok (.rf S.length) (S ++ [.lst ((g a).map PyData.int)]) ∧ e1[i]? = some (some (.im (.int (kf a))))) →
    (L.map kf).Nodup → (∀ e ∈ acc, ∃ k, e.1 = .int k ∧ k ∉ L.map kf) → ∃ e2, Pst e2 ∧ bldL tg i ce (L.map enc) env S acc = some (e2, S ++ lsO (L.map g), acc ++ kvs (L.map kf) S.length)
  | [], env, S, acc, h, _, _, _ => ⟨env, h, by simp [bldL, lsO, kvs]⟩
  | a :: r, env, S, acc, h, hs, hn, hacc => by
    obtain ⟨e1, h1, h2, h3, h4⟩ := hs a List.mem_cons_self env S h
    rw [List.map_cons] at hn
    obtain ⟨n1, n2⟩ := List.nodup_cons.mp hn
    have hfr : ¬ (acc.any fun e => PyData.eqv e.1 (.int (kf a))) = true := fun z => by
      obtain ⟨e, he, hz⟩ := List.any_eq_true.mp z
      obtain ⟨k, k1, k2⟩ := hacc e he
      rw [k1] at hz
      have : k = kf a := by simpa [PyData.eqv] using hz
      exact k2 (by rw [this]; exact List.mem_map.mpr ⟨a, List.mem_cons_self, rfl⟩)
    obtain ⟨e2, q1, q2⟩ := bldL_grow Pst r e1 (S ++ [.lst ((g a).map PyData.int)]) (acc ++ [(.int (kf a), .rf S.length)]) h2 (fun b hb => hs b (List.mem_cons_of_mem _ hb)) n2 fun e he => by
      rcases List.mem_append.mp he with z | z
      · obtain ⟨k, k1, k2⟩ := hacc e z
        exact ⟨k, k1, fun y => k2 (by rw [List.map_cons]; exact List.mem_cons_of_mem _ y)⟩
      · rw [List.mem_singleton.mp z]
        exact ⟨kf a, rfl, n1⟩
    refine ⟨e2, q1, ?_⟩
    rw [List.map_cons, bldL, h1]
    dsimp only
    rw [h3]
    dsimp only
    rw [h4]
    dsimp only
    rw [if_neg hfr, q2]
    simp [lsO, kvs]
/-- a walk over a dict of lists -/
theorem w_forrN {Φ : String → List D → M D} {env : Env} {K : Ks} {r body : Sms} {S : Mem} {tg : Tg} {v n : Nat} {ds : List (PyData × D)} {L : List Int} (hv : env[v]? = some (some (.rf n))) (hm : S[n]? = some (.nd ds) ∨ S[n]? = some (.fnd ds)) (hk : ds.map (·.1) = L.map PyData.int) (h : wps (execs Φ (.cons (.for tg (.ex (.con (.list (L.map PyData.int)))) body) r) env (S.set n (.fnd ds))) K) : wps (execs Φ (.cons (.forr tg v body) r) env S) K := by
  have e1 : getV v env S = .ok (.rf n) S := by unfold getV; rw [hv]
  have e3 : ∀ S', forG (fun _ => True) (asgT tg) (execs Φ body) (L.map fun i => D.im (.int i)) env S' = forL (asgT tg) (execs Φ body) (L.map fun i => D.im (.int i)) env S' := fun S' => by
    unfold forG
    simp only [if_true]
    cases forL (fun d e S => asgT tg d e S) (execs Φ body) (L.map fun i => D.im (.int i)) env S' <;> rfl
  have ek : (ds.map fun e => D.im e.1) = L.map fun i => D.im (.int i) := by
    have := congrArg (List.map D.im) hk
    rw [List.map_map, List.map_map] at this
    exact this
  have key : exec Φ (.forr tg v body) env S = exec Φ (.for tg (.ex (.con (.list (L.map PyData.int)))) body) env (S.set n (.fnd ds)) := by
    rw [exec, exec, e1, vi_ex v_con k_exL]
    show rfS (fun g items => forG g (asgT tg) (execs Φ body) items env) env (.rf n) S = forL (asgT tg) (execs Φ body) (L.map fun i => D.im (.int i)) env (S.set n (.fnd ds))
    rw [← e3]
    unfold rfS
    rcases hm with hm | hm
    · simp only [hm]
      rw [ek]
    · simp only [hm]
      rw [ek, set_same hm]
  rw [wps_cons, key, ← wps_cons]
  exact h
theorem ix_fn {S : Mem} {n m : Nat} {ds : List (PyData × D)} {k : Int} (hm : S[n]? = some (.fnd ds)) (hk : lkN (.int k) ds = some (.rf m)) : idnD (.rf n) (.im (.int k)) S = .ok (.rf m) S := by
  unfold idnD
  simp only [hm, hk]
/-- the memory of the folk's asking -/
def MB (S : Mem) (sh : List Int) (ls : List (List Int)) (o : Ob) : Mem := S ++ (.lst (sh.map PyData.int) :: (lsO ls ++ [o]))
section
variable {S : Mem} {sh sh' l : List Int} {ls : List (List Int)} {o o' : Ob} {t : Int}
theorem mB_sh : (MB S sh ls o)[S.length]? = some (.lst (sh.map PyData.int)) := mg0
theorem mB_sh' : (MB S sh ls o).set S.length (.lst (sh'.map PyData.int)) = MB S sh' ls o := ms0
theorem mB_l (ht : 0 ≤ t ∧ t < ls.length) : (MB S sh ls o)[S.length + 1 + t.toNat]? = some (.lst ((gt ls t).map PyData.int)) := by
  unfold MB
  rw [List.getElem?_append_right (by omega), show S.length + 1 + t.toNat - S.length = t.toNat + 1 by omega, List.getElem?_cons_succ, List.getElem?_append_left (by unfold lsO; rw [List.length_map]; omega)]
  unfold lsO
  rw [List.getElem?_map, gt_get ht]
  rfl
theorem mB_l' (ht : 0 ≤ t ∧ t < ls.length) : (MB S sh ls o).set (S.length + 1 + t.toNat) (.lst (l.map PyData.int)) = MB S sh (ls.set t.toNat l) o := by
  unfold MB
  rw [List.set_append_right _ _ (by omega), show S.length + 1 + t.toNat - S.length = t.toNat + 1 by omega, List.set_cons_succ, List.set_append_left _ _ (by unfold lsO; rw [List.length_map]; omega)]
  unfold lsO
  rw [List.map_set]
theorem mB_n : (MB S sh ls o)[S.length + 1 + ls.length]? = some o := by
  unfold MB
  rw [List.getElem?_append_right (by omega), show S.length + 1 + ls.length - S.length = ls.length + 1 by omega, List.getElem?_cons_succ, List.getElem?_append_right (by unfold lsO; rw [List.length_map]; omega)]
  unfold lsO
  simp
theorem mB_n' : (MB S sh ls o).set (S.length + 1 + ls.length) o' = MB S sh ls o' := by
  unfold MB
  rw [List.set_append_right _ _ (by omega), show S.length + 1 + ls.length - S.length = ls.length + 1 by omega, List.set_cons_succ, List.set_append_right _ _ (by unfold lsO; rw [List.length_map]; omega)]
  unfold lsO
  simp
end
/-- what is left of lists -/
def lfG (Ls : List (List Int)) (pc : List Int) : List (List Int) := (upto Ls.length).map fun t => (gt Ls t).drop (gt pc t).toNat
section
variable {Ls : List (List Int)} {pc : List Int} {t : Int}
theorem lfG_len : (lfG Ls pc).length = Ls.length := by unfold lfG; rw [List.length_map, upto_len]
theorem lfG_gt (ht : 0 ≤ t ∧ t < Ls.length) : gt (lfG Ls pc) t = (gt Ls t).drop (gt pc t).toNat := by
  have e : t = ((t.toNat : Nat) : Int) := by omega
  rw [e]
  refine gt_nat ?_
  unfold lfG upto
  rw [List.map_map, List.getElem?_map, List.getElem?_range (by omega)]
  rfl
theorem lfG_0 (h : ∀ t : Int, 0 ≤ t → t < Ls.length → gt pc t = 0) : lfG Ls pc = Ls := by
  apply List.ext_getElem?
  intro i
  unfold lfG upto
  rw [List.map_map, List.getElem?_map]
  by_cases hi : i < Ls.length
  · rw [List.getElem?_range hi, gt_at i hi]
    simp [h (i : Int) (by omega) (by omega)]
  · rw [List.getElem?_eq_none (by simpa using hi), List.getElem?_eq_none (by simpa using hi)]
    rfl
theorem lfG_set (hl : pc.length = Ls.length) (ht : 0 ≤ t ∧ t < Ls.length) (ha : 0 ≤ gt pc t) : (lfG Ls pc).set t.toNat ((gt Ls t).drop ((gt pc t).toNat + 1)) = lfG Ls (pc.set t.toNat (gt pc t + 1)) := by
  apply List.ext_getElem?
  intro i
  by_cases h : i < Ls.length
  · have e1 := gt_at (l := (lfG Ls pc).set t.toNat ((gt Ls t).drop ((gt pc t).toNat + 1))) i (by rw [List.length_set, lfG_len]; exact h)
    have e2 := gt_at (l := lfG Ls (pc.set t.toNat (gt pc t + 1))) i (by rw [lfG_len]; exact h)
    rw [e1, e2, gt_set (by rw [lfG_len]; exact ht) (by omega), lfG_gt (by omega), lfG_gt (by omega), gt_set (by rw [hl]; exact ht) (by omega)]
    by_cases e : (i : Int) = t
    · rw [if_pos e, if_pos e, e, show (gt pc t + 1).toNat = (gt pc t).toNat + 1 by omega]
    · rw [if_neg e, if_neg e]
  · rw [List.getElem?_eq_none (by rw [List.length_set, lfG_len]; omega), List.getElem?_eq_none (by rw [lfG_len]; omega)]
theorem lfG_ne (ht : 0 ≤ t ∧ t < Ls.length) (ha : 0 ≤ gt pc t) : (!(gt (lfG Ls pc) t).isEmpty) = decide (gt pc t < (gt Ls t).length) := by
  rw [lfG_gt ht]
  by_cases h : gt pc t < (gt Ls t).length
  · rw [decide_eq_true h]
    cases e : (gt Ls t).drop (gt pc t).toNat with
    | nil =>
      have := congrArg List.length e
      rw [List.length_drop, List.length_nil] at this
      omega
    | cons => rfl
  · rw [decide_eq_false h, List.drop_eq_nil_of_le (by omega)]
    rfl
end
section
variable {P : List Fn} {k : Nat} {S R : Mem} {Os : List (List Int)} {Ws : List (Int × List Int)} {M o : List Int} {q : Fq} {t w h : Int} {n m : Nat}
theorem wouldGive_c [H : Fd P "would_give" wouldGiveY 3 3] (hk : 1 ≤ k) (hh : h ≠ -1 → h ∈ o) :
    callF P k "would_give" [.im (.tuple (o.map PyData.int)), .im (.int h), .im (.int w)] S = .ok (.im (.bool (wgv o h w))) S := by
  refine call_q H rfl (by omega) ?_
  simp only [wouldGiveY, List.map, List.map_cons, List.map_nil, List.length_cons, List.length_nil, List.replicate, List.cons_append, List.nil_append, Nat.reduceSub, Nat.reduceAdd]
  refine w_ret (v_bop (vb_and (v_cmp (v_var rfl) (v_var rfl) c_inT) fun h1 => vb_one (v_bop (vb_or (v_cmp (v_var rfl) (v_neg v_con o_neg) c_eqI) fun h2 => vb_one (v_cmp (v_mt (v_var rfl) (r_idx seq_T) (vs_cons (v_var rfl) vs_nil) (m_idxT (show w ∈ o from of_decide_eq_true h1))) (v_mt (v_var rfl) (r_idx seq_T) (vs_cons (v_var rfl) vs_nil) (m_idxT (hh (of_decide_eq_false h2)))) c_ltI))))) ⟨?_, List.take_length ..⟩
  rfl
theorem isNumI_c [H : Fd P "is_number" isNumY 1 1] (hk : 1 ≤ k) : callF P k "is_number" [.im (.int w)] S = .ok (.im (.bool true)) S := by
  refine call_q H rfl (by omega) ?_
  simp only [isNumY, List.map, List.map_cons, List.map_nil, List.length_cons, List.length_nil, List.replicate, List.cons_append, List.nil_append, Nat.reduceSub, Nat.reduceAdd]
  exact w_ret (v_bop (vb_and (p := true) (q := true) (v_isi (v_var rfl) rfl) fun _ => vb_one (v_nt (v_isi (v_var rfl) (show isiK ["bool"] (.im (.int w)) S = .ok (.im (.bool false)) S from rfl)) rfl))) ⟨rfl, List.take_length ..⟩
/-! ### right, at rest -/
def okE (Os : List (List Int)) (Ws : List (Int × List Int)) (M : List Int) (e : Int × Int) : Bool := decide (e.2 = -1) || (decide (e.2 ∈ gt Os e.1) && decide (e.1 ∈ wsh Ws e.2) && !decide (e.2 ∈ M.take e.1.toNat))
def rgtB (Os : List (List Int)) (Ws : List (Int × List Int)) (M : List Int) : Bool := decide (M.length = Os.length) && (enm M).all (okE Os Ws M)
def rstB (Os : List (List Int)) (Ws : List (Int × List Int)) (M : List Int) : Bool := rgtB Os Ws M && (enm Os).all fun e => e.2.all fun w => !(wtk Ws w e.1 (thr M w) && wgv e.2 (gt M e.1) w)
theorem enm_at {α : Type} [Inhabited α] {L : List α} {t : Int} (ht : 0 ≤ t ∧ t < L.length) : (t, gt L t) ∈ enm L := by
  have : (enm L)[t.toNat]? = some (((t.toNat : Nat) : Int), gt L t) := by rw [enm_get?, gt_get ht]; rfl
  rw [show ((t.toNat : Nat) : Int) = t by omega] at this
  exact List.mem_of_getElem? this
theorem rgtB_iff (ho : OW Os Ws) : rgtB Os Ws M = true ↔ M.length = Os.length ∧ (mkT Os Ws).Rgt (relT M) := by
  unfold rgtB
  rw [Bool.and_eq_true, decide_eq_true_eq, List.all_eq_true]
  constructor
  · rintro ⟨h1, h2⟩
    refine ⟨h1, fun {t w} hr => ?_, fun {t a b} h3 h4 => h3.2.1.symm.trans h4.2.1, fun {t u w} h3 h4 => ?_⟩
    · have := h2 _ (enm_at hr.1)
      unfold okE at this
      rw [hr.2.1, Bool.or_eq_true, Bool.and_eq_true, Bool.and_eq_true, decide_eq_true_eq, decide_eq_true_eq, decide_eq_true_eq] at this
      rcases this with z | ⟨⟨z1, z2⟩, _⟩
      · exact absurd z hr.2.2
      · exact ⟨by have := hr.1; rw [h1] at this; exact this, z1, z2⟩
    · have key : ∀ {t u : Int}, relT M t w → relT M u w → ¬ t < u := fun {t u} h3 h4 hlt => by
        have := h2 _ (enm_at h4.1)
        unfold okE at this
        rw [h4.2.1, Bool.or_eq_true, Bool.and_eq_true, Bool.not_eq_true', decide_eq_true_eq, decide_eq_false_iff_not] at this
        rcases this with z | ⟨_, z⟩
        · exact absurd z h4.2.2
        · refine z (List.mem_of_getElem? (i := t.toNat) ?_)
          have := h3.1
          show (M.take u.toNat)[t.toNat]? = some w
          rw [List.getElem?_take, if_pos (by omega), gt_get h3.1, h3.2.1]
      have := key h3 h4
      have := key h4 h3
      omega
  · rintro ⟨h1, r⟩
    refine ⟨h1, fun e he => ?_⟩
    obtain ⟨e1, e2, e3, _⟩ := enm_mem he
    unfold okE
    by_cases c : e.2 = -1
    · rw [decide_eq_true c, Bool.true_or]
    · obtain ⟨z1, z2, z3⟩ := r.dom (p := e.1) (a := e.2) ⟨⟨e1, e2⟩, e3.symm, c⟩
      have z2 : e.2 ∈ gt Os e.1 := z2
      have z3 : e.1 ∈ wsh Ws e.2 := z3
      rw [decide_eq_false c, decide_eq_true z2, decide_eq_true z3]
      have : e.2 ∉ M.take e.1.toNat := fun hm => by
        obtain ⟨j, hj⟩ := List.mem_iff_getElem?.mp hm
        rw [List.getElem?_take] at hj
        split at hj
        · rename_i hlt
          have hj2 := (List.getElem?_eq_some_iff.mp hj).1
          have := r.inj (p := (j : Int)) (q := e.1) (a := e.2) ⟨⟨by omega, by omega⟩, gt_nat hj, c⟩ ⟨⟨e1, e2⟩, e3.symm, c⟩
          omega
        · cases hj
      rw [decide_eq_false this]
      rfl
theorem thr_rel (hr : (mkT Os Ws).Rgt (relT M)) (hw : w ≠ -1) : (∀ u, relT M u w → thr M w = u) ∧ (thr M w ≠ -1 → relT M (thr M w) w) := by
  have h2 : thr M w ≠ -1 → relT M (thr M w) w := fun e => by
    have hm : w ∈ M := Classical.byContradiction fun z => e (thr_iff.mpr z)
    obtain ⟨z1, z2, z3, _⟩ := thr_some hm
    exact ⟨⟨z1, z2⟩, z3, hw⟩
  refine ⟨fun u hu => ?_, h2⟩
  have hm : w ∈ M := by rw [← hu.2.1]; exact gt_mem hu.1
  obtain ⟨z1, z2, z3, _⟩ := thr_some hm
  exact hr.inj ⟨⟨z1, z2⟩, z3, hw⟩ hu
theorem rstB_iff (ho : OW Os Ws) : rstB Os Ws M = true ↔ M.length = Os.length ∧ (mkT Os Ws).Stb (relT M) := by
  unfold rstB
  rw [Bool.and_eq_true, rgtB_iff ho, List.all_eq_true]
  have pair : ∀ {t w : Int}, M.length = Os.length → (mkT Os Ws).Rgt (relT M) → (0 ≤ t ∧ t < Os.length) → w ∈ gt Os t → ((wtk Ws w t (thr M w) && wgv (gt Os t) (gt M t) w) = true ↔ t ∈ wsh Ws w ∧ (∀ b, relT M t b → (gt Os t).idxOf w < (gt Os t).idxOf b) ∧ ∀ u, relT M u w → (wsh Ws w).idxOf t < (wsh Ws w).idxOf u) := fun {t w} hl r ht hw => by
    have hwn : w ≠ -1 := by have := (ho.og ht).2.2 w hw; omega
    obtain ⟨a1, a2⟩ := thr_rel r hwn
    unfold wtk wgv
    rw [Bool.and_eq_true, Bool.and_eq_true, Bool.and_eq_true, Bool.or_eq_true, Bool.or_eq_true, decide_eq_true_eq, decide_eq_true_eq, decide_eq_true_eq, decide_eq_true_eq, decide_eq_true_eq, decide_eq_true_eq]
    constructor
    · rintro ⟨⟨z1, z2⟩, z3, z4⟩
      refine ⟨z1, fun b hb => ?_, fun u hu => ?_⟩
      · have hb1 := hb.2.1
        rcases z4 with z4 | z4
        · exact absurd (hb1.symm.trans z4) hb.2.2
        · rw [hb1] at z4; omega
      · rw [a1 u hu] at z2
        have := hu.1
        rcases z2 with z2 | z2 <;> omega
    · rintro ⟨z1, z2, z3⟩
      refine ⟨⟨z1, ?_⟩, hw, ?_⟩
      · by_cases e : thr M w = -1
        · exact .inl e
        · have := z3 _ (a2 e)
          exact .inr (by exact_mod_cast this)
      · by_cases e : gt M t = -1
        · exact .inl e
        · have := z2 (gt M t) ⟨by rw [hl]; exact ht, rfl, e⟩
          exact .inr (by exact_mod_cast this)
  constructor
  · rintro ⟨⟨h1, r⟩, h2⟩
    refine ⟨h1, r, fun {t w} hp hw hac b1 b2 => ?_⟩
    have h3 := h2 _ (enm_at hp)
    have h4 := List.all_eq_true.mp h3 w hw
    rw [(pair h1 r hp hw).mpr ⟨hac, b1, b2⟩] at h4
    cases h4
  · rintro ⟨h1, s⟩
    refine ⟨⟨h1, s.r⟩, fun e he => ?_⟩
    obtain ⟨e1, e2, e3, _⟩ := enm_mem he
    refine List.all_eq_true.mpr fun w hw => ?_
    rw [Bool.not_eq_true']
    by_cases c : (wtk Ws w e.1 (thr M w) && wgv e.2 (gt M e.1) w) = true
    · rw [e3] at c hw
      obtain ⟨b0, b1, b2⟩ := (pair h1 s.r ⟨e1, e2⟩ hw).mp c
      exact (s.no ⟨e1, e2⟩ hw b0 b1 b2).elim
    · simpa using c
end
end DL
end

section
set_option maxRecDepth 100000
set_option maxHeartbeats 2000000
/-! DK8: folk ask; what is at rest (summaries). Ours. -/
namespace DL
open PySem PySem.Spec PyProof.Rows
section
variable {P : List Fn} {k : Nat} {S R : Mem} {Os : List (List Int)} {Ws : List (Int × List Int)} {M o : List Int} {q : Fq} {t w h i : Int} {n m : Nat}
theorem keys_upto : Ws.map (·.1) = (upto Ws.length).map (keyF Ws) := by
  apply List.ext_getElem?
  intro i
  unfold upto
  rw [List.map_map, List.getElem?_map, List.getElem?_map]
  by_cases h : i < Ws.length
  · rw [List.getElem?_range h, gt_at i h]
    rfl
  · rw [List.getElem?_eq_none (by omega), List.getElem?_eq_none (by simpa using h)]
    rfl
theorem alF_len : (alF Os Ws).length = Ws.length := by unfold alF; rw [List.length_map, upto_len]
theorem alF_gt (hi : 0 ≤ i ∧ i < Ws.length) : gt (alF Os Ws) i = flF Os Ws i := by
  have := gt_nat (alF_get (Os := Os) hi)
  rwa [show ((i.toNat : Nat) : Int) = i by omega] at this
/-! ### next_asker -/
theorem nextAsker_c [H : Fd P "next_asker" nextAskerY 2 3] (hk : 1 ≤ k) (ho : OW Os Ws) (hq : FOk Os Ws q) {ob : Ob} (hob : ob = .nd (kvs (Ws.map (·.1)) (S.length + 1)) ∨ ob = .fnd (kvs (Ws.map (·.1)) (S.length + 1))) :
    callF P k "next_asker" [.rf (S.length + 1 + Ws.length), .rf S.length] (MB S q.sh (lfG (alF Os Ws) q.pc) ob) = .ok (.im (.int (if nxF Os Ws q = -1 then -1 else keyF Ws (nxF Os Ws q)))) (MB S q.sh (lfG (alF Os Ws) q.pc) (.fnd (kvs (Ws.map (·.1)) (S.length + 1)))) := by
  have hll : (lfG (alF Os Ws) q.pc).length = Ws.length := by rw [lfG_len, alF_len]
  have nd : (Ws.map (·.1)).Nodup := List.Pairwise.imp (fun h => Int.ne_of_lt h) ho.wr
  have hn := fun o => mB_n (S := S) (sh := q.sh) (ls := lfG (alF Os Ws) q.pc) (o := o)
  have hn' := mB_n' (S := S) (sh := q.sh) (ls := lfG (alF Os Ws) q.pc) (o := ob) (o' := .fnd (kvs (Ws.map (·.1)) (S.length + 1)))
  rw [hll] at hn'
  have hn := fun o => (show (MB S q.sh (lfG (alF Os Ws) q.pc) o)[S.length + 1 + Ws.length]? = some o by have := hn o; rwa [hll] at this)
  have hlen : ∀ o, (MB S q.sh (lfG (alF Os Ws) q.pc) o).length = (MB S q.sh (lfG (alF Os Ws) q.pc) ob).length := fun o => by unfold MB; simp
  have key : ∃ d S', callF P k "next_asker" [.rf (S.length + 1 + Ws.length), .rf S.length] (MB S q.sh (lfG (alF Os Ws) q.pc) ob) = .ok d S' ∧ d = .im (.int (if nxF Os Ws q = -1 then -1 else keyF Ws (nxF Os Ws q))) ∧ S' = MB S q.sh (lfG (alF Os Ws) q.pc) (.fnd (kvs (Ws.map (·.1)) (S.length + 1))) := by
    refine call_x H rfl (by omega) ?_
    simp only [nextAskerY, List.map, List.map_cons, List.map_nil, List.length_cons, List.length_nil, List.replicate, List.cons_append, List.nil_append, Nat.reduceSub, Nat.reduceAdd]
    refine w_forrN (n := S.length + 1 + Ws.length) (ds := kvs (Ws.map (·.1)) (S.length + 1)) (L := Ws.map (·.1)) rfl (by rcases hob with e | e <;> rw [e] <;> simp [hn]) (kvs_keys _ _) ?_
    rw [hn']
    have hit : ∀ e S', evI (callF P (k - 1)) (.ex (.con (.list ((Ws.map (·.1)).map PyData.int)))) e S' = .ok ((upto Ws.length).map fun i => D.im (.int (keyF Ws i))) S' := fun e S' => by
      rw [vi_ex v_con k_exL, keys_upto, List.map_map]
      rfl
    refine w_for (L := upto Ws.length) (enc := fun i => .im (.int (keyF Ws i))) (S1 := MB S q.sh (lfG (alF Os Ws) q.pc) (.fnd (kvs (Ws.map (·.1)) (S.length + 1)))) (hit _ _) (fun pre e S' => ∃ (e2 : Option D), e = [some (.rf (S.length + 1 + Ws.length)), some (.rf S.length), e2] ∧ S' = MB S q.sh (lfG (alF Os Ws) q.pc) (.fnd (kvs (Ws.map (·.1)) (S.length + 1))) ∧ ∀ x ∈ pre, freF Os Ws q x = false) ⟨_, rfl, rfl, by simp⟩ ?_ ?_
    · rintro pre x post e S' hL ⟨e2, rfl, rfl, hp⟩
      have hx : 0 ≤ x ∧ x < Ws.length := upto_mem.mp (by rw [hL]; simp)
      have hxa : 0 ≤ x ∧ x < (alF Os Ws).length := by rw [alF_len]; exact hx
      have hlk : lkN (.int (keyF Ws x)) (kvs (Ws.map (·.1)) (S.length + 1)) = some (.rf (S.length + 1 + x.toNat)) := kvs_lk nd (by rw [List.getElem?_map, gt_get hx]; rfl)
      have hml := mB_l (S := S) (sh := q.sh) (ls := lfG (alF Os Ws) q.pc) (o := .fnd (kvs (Ws.map (·.1)) (S.length + 1))) (t := x) (by rw [hll]; exact hx)
      have hne := lfG_ne (Ls := alF Os Ws) (pc := q.pc) hxa (hq.p0 x hx.1 hx.2)
      rw [alF_gt hx] at hne
      refine ⟨_, rfl, ?_⟩
      simp only [List.set_cons_zero, List.set_cons_succ]
      have hcd : ∀ e : Env, e[0]? = some (some (.rf (S.length + 1 + Ws.length))) → e[1]? = some (some (.rf S.length)) → e[2]? = some (some (.im (.int (keyF Ws x)))) → ev (callF P (k - 1)) (.bop true (.cons (.cmp .NotEq (.idn (.var 0) (.var 2)) (.lst .nil)) (.cons (.cmp .NotIn (.var 2) (.var 1)) .nil))) e (MB S q.sh (lfG (alF Os Ws) q.pc) (.fnd (kvs (Ws.map (·.1)) (S.length + 1)))) = .ok (.im (.bool (freF Os Ws q x))) (MB S q.sh (lfG (alF Os Ws) q.pc) (.fnd (kvs (Ws.map (·.1)) (S.length + 1)))) := fun e h0 h1 h2 => by
        unfold freF
        rw [← hne, show (decide (keyF Ws x ∉ q.sh)) = !decide (keyF Ws x ∈ q.sh) by simp]
        exact v_bop (vb_and (v_cmp (v_idn (v_var h0) (v_var h2) (ix_fn (hn _) hlk)) (v_lst vs_nil rfl) (kneIm (imR hml))) fun _ => vb_one (v_cmp (v_var h2) (v_var h1) (c_nin (kinIm (imR mB_sh)))))
      refine w_iff (hcd _ rfl rfl rfl) (fun hq1 => ?_) (fun hq1 => w_nil ?_)
      · have : nxF Os Ws q = x := by
          unfold nxF
          rw [hL, List.find?_append, List.find?_eq_none.mpr (fun y hy => by simpa using hp y hy), Option.none_or, List.find?_cons, hq1]
          rfl
        refine w_ret (v_var rfl) ⟨?_, ?_⟩
        · rw [this, if_neg (by omega)]
        · exact List.take_of_length_le (by rw [hlen]; exact Nat.le_refl _)
      · refine w_nil (Φ := callF P (k - 1)) ⟨_, rfl, rfl, fun y hy => ?_⟩
        rcases List.mem_append.mp hy with z | z
        · exact hp y z
        · rw [List.mem_singleton.mp z]; exact hq1
    · rintro e S' ⟨e2, rfl, rfl, hp⟩
      have : nxF Os Ws q = -1 := by
        unfold nxF
        rw [List.find?_eq_none.mpr (fun y hy => by simpa using hp y hy)]
        rfl
      refine w_ret (v_neg v_con o_neg) ⟨?_, ?_⟩
      · rw [this, if_pos rfl]
      · exact List.take_of_length_le (by rw [hlen]; exact Nat.le_refl _)
  obtain ⟨d, S', h1, rfl, rfl⟩ := key
  exact h1
theorem byFolk_c [H1 : Fd P "would_give" wouldGiveY 3 3] [H2 : Fd P "next_asker" nextAskerY 2 3] [H : Fd P "by_folk" byFolkY 2 7] (hk : 2 ≤ k) (ho : OW Os Ws) :
    callF P k "by_folk" [.im (.tuple (Os.map orP)), .im (.tuple (Ws.map wsP))] S = .ok (.im (.tuple ((finF Os Ws (muT (alF Os Ws) (q0F Os Ws).pc) (q0F Os Ws)).sh.map PyData.int))) S := by
  have n6 := ho.n6
  have wl := ho.wl
  have nd : (Ws.map (·.1)).Nodup := List.Pairwise.imp (fun h => Int.ne_of_lt h) ho.wr
  have hal : ∀ o ∈ alF Os Ws, o.length ≤ 6 := fun o hm => by
    obtain ⟨i, _, rfl⟩ := List.mem_map.mp hm
    exact (flF_ok ho).1
  have hmu : muT (alF Os Ws) (q0F Os Ws).pc ≤ 72 := Nat.le_trans (muT_le hal) (by rw [alF_len]; omega)
  generalize hR : finF Os Ws (muT (alF Os Ws) (q0F Os Ws).pc) (q0F Os Ws) = F
  refine call_q H rfl (by omega) ?_
  simp only [byFolkY, List.map, List.map_cons, List.map_nil, List.length_cons, List.length_nil, List.replicate, List.cons_append, List.nil_append, Nat.reduceSub, Nat.reduceAdd]
  refine w_asg (v_rep (vs_cons (v_neg v_con o_neg) vs_nil) (v_bi (vs_cons (v_var rfl) vs_nil) b_lenTm) (rep_1 (by unfold Must; omega) rfl rfl)) rfl ?_
  simp only [List.set_cons_zero, List.set_cons_succ, Int.toNat_natCast]
  have e0 : (List.replicate Os.length (PyData.int (-1))) = (q0F Os Ws).sh.map PyData.int := by unfold q0F; rw [List.map_replicate]
  rw [e0]
  have hq0 := q0F_ok (Os := Os) (Ws := Ws)
  obtain ⟨e2, ⟨x4, x5, x6, rfl⟩, hb⟩ := bldL_grow (tg := .t [4, 5]) (i := 4) (ce := ev (callF P (k - 1)) (.cmm [("throne", 6)] (.var 6) (.v 6) (.ex (.var 5)) (.cons (.cmp .In (.var 4) (.idx (.var 0) (.var 6))) .nil))) (enc := fun e => D.im (wsP e)) (kf := fun e => e.1) (g := fun e => flw Os Ws e.1) (fun e => ∃ (e4 e5 e6 : Option D), e = [some (.im (.tuple (Os.map orP))), some (.im (.tuple (Ws.map wsP))), some (.rf S.length), none, e4, e5, e6]) Ws [some (.im (.tuple (Os.map orP))), some (.im (.tuple (Ws.map wsP))), some (.rf S.length), none, none, none, none] (S ++ [.lst ((q0F Os Ws).sh.map PyData.int)]) [] ⟨_, _, _, rfl⟩ (fun a ha env S => by
    rintro ⟨e4, e5, e6, rfl⟩
    refine ⟨_, rfl, ⟨_, _, _, rfl⟩, ?_, rfl⟩
    have hwa := ho.wsE ha
    refine v_cmmK (zs := (flw Os Ws a.1).map PyData.int) (S2 := S) ?_
    have := v_cmpr (Φ := callF P (k - 1)) (own := [("throne", 6)]) (elt := .var 6) (tg := .v 6) (it := .ex (.var 5)) (ifs := .cons (.cmp .In (.var 4) (.idx (.var 0) (.var 6))) .nil) (env := [some (.im (.tuple (Os.map orP))), some (.im (.tuple (Ws.map wsP))), some (.rf S.length), none, some (.im (.int a.1)), some (.im (.tuple (a.2.map PyData.int))), e6]) (S := S) (L := a.2) (enc := fun t => .im (.int t)) (pr := fun t => decide (a.1 ∈ gt Os t)) (out := PyData.int) (vi_ex (v_var rfl) k_exT) (fun _ _ => rfl) (fun t ht => vb_one (v_cmp (v_var rfl) (v_idx (v_var rfl) (v_var rfl) (x_T ((ho.ww a ha).2.2.2 t ht))) c_inT)) (fun t _ _ => v_var rfl) (by have := (ho.ww a ha).2.1; unfold Must; omega)
    unfold flw
    rw [hwa]
    exact this) nd (by simp)
  refine w_bld (vi_ex (v_var rfl) k_exT) (by rw [List.length_map]; omega) (by simp) hb ?_
  simp only [List.set_cons_zero, List.set_cons_succ]
  have eal : Ws.map (fun e => flw Os Ws e.1) = alF Os Ws := by
    have := congrArg (List.map (flw Os Ws)) (keys_upto (Ws := Ws))
    rw [List.map_map, List.map_map] at this
    exact this
  have hll : ∀ pc, (lfG (alF Os Ws) pc).length = Ws.length := fun pc => by rw [lfG_len, alF_len]
  have eM : S ++ [Ob.lst ((q0F Os Ws).sh.map PyData.int)] ++ lsO (Ws.map fun e => flw Os Ws e.1) ++ [Ob.nd ([] ++ kvs (Ws.map fun e => e.1) (S ++ [Ob.lst ((q0F Os Ws).sh.map PyData.int)]).length)] = MB S (q0F Os Ws).sh (lfG (alF Os Ws) (q0F Os Ws).pc) (.nd (kvs (Ws.map (·.1)) (S.length + 1))) := by
    have e9 : lfG (alF Os Ws) (q0F Os Ws).pc = alF Os Ws := lfG_0 fun t h1 h2 => List.eq_of_mem_replicate (gt_mem (l := List.replicate Ws.length (0 : Int)) (by rw [List.length_replicate]; rw [alF_len] at h2; exact ⟨h1, h2⟩))
    rw [eal, e9]
    unfold MB
    simp
  have eL : (S ++ [Ob.lst ((q0F Os Ws).sh.map PyData.int)] ++ lsO (Ws.map fun e => flw Os Ws e.1)).length = S.length + 1 + Ws.length := by simp [lsO]; omega
  rw [eM, eL]
  refine w_asg (v_call (vs_cons (v_var rfl) (vs_cons (v_var rfl) vs_nil)) (nextAsker_c (by omega) ho hq0 (.inl rfl))) rfl ?_
  simp only [List.set_cons_zero, List.set_cons_succ]
  refine w_whl (I := fun m e S' => ∃ (q : Fq) (e5 e6 : Option D), FOk Os Ws q ∧ finF Os Ws (muT (alF Os Ws) q.pc) q = F ∧ m = muT (alF Os Ws) q.pc ∧ e = [some (.im (.tuple (Os.map orP))), some (.im (.tuple (Ws.map wsP))), some (.rf S.length), some (.rf (S.length + 1 + Ws.length)), some (.im (.int (if nxF Os Ws q = -1 then -1 else keyF Ws (nxF Os Ws q)))), e5, e6] ∧ S' = MB S q.sh (lfG (alF Os Ws) q.pc) (.fnd (kvs (Ws.map (·.1)) (S.length + 1)))) (muT (alF Os Ws) (q0F Os Ws).pc) (by omega) ⟨q0F Os Ws, _, _, hq0, hR, rfl, rfl, rfl⟩ ?_
  rintro m e S' ⟨q, e5, e6, hq, hF, rfl, rfl, rfl⟩
  refine ⟨_, v_cmp (v_var rfl) (v_neg v_con o_neg) c_neI, fun hc => ?_, fun hc => ?_⟩
  · have hc : nxF Os Ws q ≠ -1 := fun z => by rw [if_pos z] at hc; simp at hc
    rw [if_neg hc]
    obtain ⟨hi, hf⟩ := nxF_some hc
    have hst := finF_step hq hc
    have hmu := stF_mu hq hi hf
    have hok := stF_ok ho hq hi hf
    obtain ⟨f1, f2⟩ := freF_iff.mp hf
    generalize nxF Os Ws q = i at hst hmu hok hi f1 f2
    have hia : 0 ≤ i ∧ i < (alF Os Ws).length := by rw [alF_len]; exact hi
    have hp0 := hq.p0 i hi.1 hi.2
    have hls := lfG_set (Ls := alF Os Ws) (pc := q.pc) (t := i) (by rw [alF_len]; exact hq.pl) hia hp0
    rw [alF_gt hi] at hls
    obtain ⟨ht, hw⟩ := (flF_ok ho).2 _ (gt_mem (l := flF Os Ws i) ⟨hp0, f1⟩)
    have hlk : lkN (.int (keyF Ws i)) (kvs (Ws.map (·.1)) (S.length + 1)) = some (.rf (S.length + 1 + i.toNat)) := kvs_lk nd (by rw [List.getElem?_map, gt_get hi]; rfl)
    have hn : (MB S q.sh (lfG (alF Os Ws) q.pc) (.fnd (kvs (Ws.map (·.1)) (S.length + 1))))[S.length + 1 + Ws.length]? = some (.fnd (kvs (Ws.map (·.1)) (S.length + 1))) := by
      have := mB_n (S := S) (sh := q.sh) (ls := lfG (alF Os Ws) q.pc) (o := .fnd (kvs (Ws.map (·.1)) (S.length + 1)))
      rwa [hll] at this
    have hil : 0 ≤ i ∧ i < (lfG (alF Os Ws) q.pc).length := by rw [hll]; exact hi
    have hgi := lfG_gt (Ls := alF Os Ws) (pc := q.pc) hia
    rw [alF_gt hi] at hgi
    have hfl := (flF_ok ho (i := i)).1
    have hpop : mtD .pop1 (.rf (S.length + 1 + i.toNat)) [.im (.int 0)] (MB S q.sh (lfG (alF Os Ws) q.pc) (.fnd (kvs (Ws.map (·.1)) (S.length + 1)))) = .ok (.im (.int (gt (flF Os Ws i) (gt q.pc i)))) (MB S q.sh (lfG (alF Os Ws) (stF Os Ws i q).pc) (.fnd (kvs (Ws.map (·.1)) (S.length + 1)))) := by
      have := mm_pop1 (S := MB S q.sh (lfG (alF Os Ws) q.pc) (.fnd (kvs (Ws.map (·.1)) (S.length + 1)))) (mB_l hil) (i := 0) (by rw [hgi, List.length_drop]; omega) (by rw [hgi, List.length_drop]; omega) (mB_l' hil)
      rw [this]
      have e2 : gt (gt (lfG (alF Os Ws) q.pc) i) 0 = gt (flF Os Ws i) (gt q.pc i) := by
        rw [hgi]
        show ((flF Os Ws i).drop (gt q.pc i).toNat).getD 0 default = (flF Os Ws i).getD (gt q.pc i).toNat default
        rw [List.getD_eq_getElem?_getD, List.getD_eq_getElem?_getD, List.getElem?_drop, Nat.add_zero]
      have e3 : (gt (lfG (alF Os Ws) q.pc) i).eraseIdx (0 : Int).toNat = (flF Os Ws i).drop ((gt q.pc i).toNat + 1) := by
        rw [hgi, show (0 : Int).toNat = 0 from rfl, List.eraseIdx_zero, List.tail_drop]
      rw [e2, e3, hls]
      rfl
    refine ⟨by omega, ?_⟩
    refine w_asg (v_mt (v_idn (v_var rfl) (v_var rfl) (ix_fn hn hlk)) (r_pop1 (mB_l hil)) (vs_cons v_con vs_nil) hpop) rfl ?_
    simp only [List.set_cons_zero, List.set_cons_succ]
    have hst2 : (stF Os Ws i q).sh = shF Os q.sh (gt (flF Os Ws i) (gt q.pc i)) (keyF Ws i) := rfl
    rw [hst] at hF
    generalize gt (flF Os Ws i) (gt q.pc i) = t at ht hw hst2
    generalize stF Os Ws i q = q2 at hF hmu hok hst2
    have tail : ∀ K2 : Ks, (∀ e S', (∃ (q : Fq) (e5 e6 : Option D), FOk Os Ws q ∧ finF Os Ws (muT (alF Os Ws) q.pc) q = F ∧ muT (alF Os Ws) q2.pc = muT (alF Os Ws) q.pc ∧ e = [some (.im (.tuple (Os.map orP))), some (.im (.tuple (Ws.map wsP))), some (.rf S.length), some (.rf (S.length + 1 + Ws.length)), some (.im (.int (if nxF Os Ws q = -1 then -1 else keyF Ws (nxF Os Ws q)))), e5, e6] ∧ S' = MB S q.sh (lfG (alF Os Ws) q.pc) (.fnd (kvs (Ws.map (·.1)) (S.length + 1)))) → K2.nx e S') →
        wps (execs (callF P (k - 1)) (.cons (.asg (.v 4) (.call "next_asker" (.cons (.var 3) (.cons (.var 2) .nil)))) .nil) [some (.im (.tuple (Os.map orP))), some (.im (.tuple (Ws.map wsP))), some (.rf S.length), some (.rf (S.length + 1 + Ws.length)), some (.im (.int (keyF Ws i))), e5, some (.im (.int t))] (MB S q2.sh (lfG (alF Os Ws) q2.pc) (.fnd (kvs (Ws.map (·.1)) (S.length + 1))))) K2 := fun K2 hK => by
      refine w_asg (v_call (vs_cons (v_var rfl) (vs_cons (v_var rfl) vs_nil)) (nextAsker_c (by omega) ho hok (.inr rfl))) rfl ?_
      simp only [List.set_cons_zero, List.set_cons_succ]
      exact w_nil (Φ := callF P (k - 1)) (hK _ _ ⟨q2, _, _, hok, hF, rfl, rfl, rfl⟩)
    have cg : callF P (k - 1) "would_give" [.im (.tuple ((gt Os t).map PyData.int)), .im (.int (gt q.sh t)), .im (.int (keyF Ws i))] (MB S q.sh (lfG (alF Os Ws) q2.pc) (.fnd (kvs (Ws.map (·.1)) (S.length + 1)))) = .ok (.im (.bool (wgv (gt Os t) (gt q.sh t) (keyF Ws i)))) (MB S q.sh (lfG (alF Os Ws) q2.pc) (.fnd (kvs (Ws.map (·.1)) (S.length + 1)))) := wouldGive_c (by omega) fun z => hq.sw t ht.1 ht.2 z
    refine w_iff (v_call (vs_cons (v_idx (v_var rfl) (v_var rfl) (x_T ht)) (vs_cons (v_idx (v_var rfl) (v_var rfl) (x_R mB_sh (x_L (by unfold Must; rw [hq.sl]; exact ht)))) (vs_cons (v_var rfl) vs_nil))) cg) (fun hb => ?_) (fun hb => w_nil ?_)
    · refine w_sub (v_var rfl) (v_var rfl) (v_var rfl) (sd_L (p := .int (keyF Ws i)) mB_sh (by unfold Must; rw [List.length_map, hq.sl]; exact ht) rfl) (w_nil ?_)
      rw [← List.map_set, mB_sh']
      have : q.sh.set t.toNat (keyF Ws i) = q2.sh := by rw [hst2]; unfold shF; rw [if_pos hb]
      rw [this]
      exact tail _ fun _ _ ⟨q', a5, a6, i1, i2, i3, i4, i5⟩ => ⟨q', a5, a6, i1, i2, by omega, i4, i5⟩
    · have : q.sh = q2.sh := by rw [hst2]; unfold shF; rw [if_neg (by rw [hb]; simp)]
      rw [this]
      exact tail _ fun _ _ ⟨q', a5, a6, i1, i2, i3, i4, i5⟩ => ⟨q', a5, a6, i1, i2, by omega, i4, i5⟩
  · have hc : nxF Os Ws q = -1 := by
      by_cases z : nxF Os Ws q = -1
      · exact z
      · rw [if_neg z] at hc
        have := ho.key (nxF_some z).1
        have hc : keyF Ws (nxF Os Ws q) = -1 := by simpa using hc
        omega
    rw [finF_end hc] at hF
    rw [← hF]
    refine w_ret (v_bi (vs_cons (v_var rfl) vs_nil) (b_tupR mB_sh)) ⟨rfl, List.take_left ..⟩
/-! ### right, at rest -/
theorem isRight_c [H1 : Fd P "is_number" isNumY 1 1] [H2 : Fd P "wished_by" wishedByY 2 4] [H : Fd P "is_right" isRightY 3 5] (hk : 2 ≤ k) (ho : OW Os Ws) (hl : M.length ≤ 1000) :
    callF P k "is_right" [.im (.tuple (Os.map orP)), .im (.tuple (Ws.map wsP)), .im (.tuple (M.map PyData.int))] S = .ok (.im (.bool (rgtB Os Ws M))) S := by
  have wl := ho.wl
  refine call_q H rfl (by omega) ?_
  simp only [isRightY, List.map, List.map_cons, List.map_nil, List.length_cons, List.length_nil, List.replicate, List.cons_append, List.nil_append, Nat.reduceSub, Nat.reduceAdd]
  refine w_iff (p := !decide ((M.length : Int) = Os.length)) (v_bop (vb_or (p := false) (v_nt (v_isi (v_var rfl) (show isiK ["tuple"] (.im (.tuple (M.map PyData.int))) S = .ok (.im (.bool true)) S from rfl)) rfl) fun _ => vb_one (v_cmp (v_bi (vs_cons (v_var rfl) vs_nil) b_lenTm) (v_bi (vs_cons (v_var rfl) vs_nil) b_lenTm) c_neI))) (fun hq => ?_) (fun hq => w_nil ?_)
  · have hne : M.length ≠ Os.length := by simp at hq; omega
    refine w_ret v_con ⟨?_, List.take_length ..⟩
    unfold rgtB
    rw [decide_eq_false hne, Bool.false_and]
  have hlen : M.length = Os.length := by simp at hq; omega
  have hfalse : ∀ e ∈ enm M, okE Os Ws M e = false → rgtB Os Ws M = false := fun e he hf => by
    unfold rgtB
    rw [decide_eq_true hlen, Bool.true_and]
    cases c : (enm M).all (okE Os Ws M) with
    | false => rfl
    | true => have := List.all_eq_true.mp c e he; rw [hf] at this; cases this
  refine w_for (L := enm M) (enc := fun e => .im (.tuple [.int e.1, .int e.2])) (S1 := S) (vi_enm (v_var rfl) k_enmT) (fun pre e S' => ∃ (e3 e4 : Option D), e = [some (.im (.tuple (Os.map orP))), some (.im (.tuple (Ws.map wsP))), some (.im (.tuple (M.map PyData.int))), e3, e4] ∧ S' = S ∧ ∀ x ∈ pre, okE Os Ws M x = true) ⟨_, _, rfl, rfl, by simp⟩ ?_ ?_
  · rintro pre x post e S' hL ⟨e3, e4, rfl, hS, hp⟩
    obtain rfl : S = S' := hS.symm
    have hx : x ∈ enm M := by rw [hL]; simp
    obtain ⟨x1, x2, x3, x4⟩ := enm_mem hx
    have hxo : 0 ≤ x.1 ∧ x.1 < Os.length := by omega
    refine ⟨_, rfl, ?_⟩
    have cn := isNumI_c (P := P) (k := k - 1) (S := S) (w := x.2) (by omega)
    have cw := wishedBy_c (P := P) (k := k - 1) (S := S) (Ws := Ws) (w := x.2) (by omega) (by omega)
    refine w_iff (p := false) (v_nt (v_call (vs_cons (v_var rfl) vs_nil) cn) rfl) (fun hq => Bool.noConfusion hq) (fun _ => w_nil ?_)
    refine w_iff (v_bop (vb_and (v_cmp (v_var rfl) (v_neg v_con o_neg) c_neI) fun _ => vb_one (v_bop (vb_or (v_cmp (v_var rfl) (v_idx (v_var rfl) (v_var rfl) (x_T hxo)) (c_nin c_inT)) fun _ => vb_one (v_cmp (v_var rfl) (v_call (vs_cons (v_var rfl) (vs_cons (v_var rfl) vs_nil)) cw) (c_nin c_inT)))))) (fun hq1 => ?_) (fun hq1 => w_nil ?_)
    · refine w_ret v_con ⟨?_, List.take_length ..⟩
      rw [hfalse x hx]
      unfold okE
      rw [Bool.and_eq_true, Bool.or_eq_true, Bool.not_eq_true', Bool.not_eq_true', Bool.not_eq_true', decide_eq_false_iff_not, decide_eq_false_iff_not, decide_eq_false_iff_not] at hq1
      obtain ⟨z1, z2⟩ := hq1
      rw [decide_eq_false z1, Bool.false_or]
      rcases z2 with z2 | z2
      · rw [decide_eq_false z2]; rfl
      · rw [decide_eq_false z2, Bool.and_false]; rfl
    have hsl : sliceD (.im (.tuple (M.map PyData.int))) none (some x.1) S = .ok (.im (.tuple ((M.take x.1.toNat).map PyData.int))) S := by
      rw [s_T]
      have : cutA M none (some x.1) = M.take x.1.toNat := by
        have := cutA_take M (m := x.1.toNat) (by omega)
        rwa [show ((x.1.toNat : Nat) : Int) = x.1 by omega] at this
      rw [this]
    refine w_iff (v_bop (vb_and (v_cmp (v_var rfl) (v_neg v_con o_neg) c_neI) fun _ => vb_one (v_cmp (v_var rfl) (v_slc (v_var rfl) vs_nil rfl (vs_cons (v_var rfl) vs_nil) rfl hsl) c_inT))) (fun hq2 => ?_) (fun hq2 => w_nil ?_)
    · refine w_ret v_con ⟨?_, List.take_length ..⟩
      rw [hfalse x hx]
      unfold okE
      rw [Bool.and_eq_true, Bool.not_eq_true', decide_eq_false_iff_not, decide_eq_true_eq] at hq2
      rw [decide_eq_false hq2.1, decide_eq_true hq2.2, Bool.not_true, Bool.and_false]
      rfl
    refine w_nil (Φ := callF P (k - 1)) ⟨_, _, rfl, rfl, fun y hy => ?_⟩
    rcases List.mem_append.mp hy with z | z
    · exact hp y z
    · rw [List.mem_singleton.mp z]
      unfold okE
      by_cases c : x.2 = -1
      · rw [decide_eq_true c, Bool.true_or]
      · rw [decide_eq_false c, Bool.not_false, Bool.true_and] at hq1 hq2
        rw [decide_eq_false c, hq2, Bool.false_or, Bool.not_false, Bool.and_true]
        rw [Bool.or_eq_false_iff, Bool.not_eq_false', Bool.not_eq_false'] at hq1
        rw [hq1.1, hq1.2]
        rfl
  · rintro e S' ⟨e3, e4, rfl, rfl, hp⟩
    refine w_ret v_con ⟨?_, List.take_length ..⟩
    unfold rgtB
    rw [decide_eq_true hlen, Bool.true_and, List.all_eq_true.mpr hp]
theorem atRest_c [H1 : Fd P "is_number" isNumY 1 1] [H2 : Fd P "wished_by" wishedByY 2 4] [H3 : Fd P "is_right" isRightY 3 5] [H4 : Fd P "throne_of" throneOfY 2 4] [H5 : Fd P "would_take" wouldTakeY 4 5] [H6 : Fd P "would_give" wouldGiveY 3 3] [H : Fd P "at_rest" atRestY 3 6] (hk : 3 ≤ k) (ho : OW Os Ws) (hl : M.length ≤ 1000) :
    callF P k "at_rest" [.im (.tuple (Os.map orP)), .im (.tuple (Ws.map wsP)), .im (.tuple (M.map PyData.int))] S = .ok (.im (.bool (rstB Os Ws M))) S := by
  have wl := ho.wl
  have cr := isRight_c (P := P) (k := k - 1) (S := S) (M := M) (by omega) ho hl
  refine call_q H rfl (by omega) ?_
  simp only [atRestY, List.map, List.map_cons, List.map_nil, List.length_cons, List.length_nil, List.replicate, List.cons_append, List.nil_append, Nat.reduceSub, Nat.reduceAdd]
  refine w_iff (v_nt (v_call (vs_cons (v_var rfl) (vs_cons (v_var rfl) (vs_cons (v_var rfl) vs_nil))) cr) o_not) (fun hq => ?_) (fun hq => w_nil ?_)
  · refine w_ret v_con ⟨?_, List.take_length ..⟩
    unfold rstB
    rw [Bool.not_eq_true'] at hq
    rw [hq, Bool.false_and]
  have hr : rgtB Os Ws M = true := by simpa using hq
  obtain ⟨hlen, rg⟩ := (rgtB_iff ho).mp hr
  have hfalse : ∀ e ∈ enm Os, ∀ w ∈ e.2, (wtk Ws w e.1 (thr M w) && wgv e.2 (gt M e.1) w) = true → rstB Os Ws M = false := fun e he w hw hf => by
    unfold rstB
    rw [hr, Bool.true_and]
    cases c : (enm Os).all fun e => e.2.all fun w => !(wtk Ws w e.1 (thr M w) && wgv e.2 (gt M e.1) w) with
    | false => rfl
    | true => have := List.all_eq_true.mp (List.all_eq_true.mp c e he) w hw; rw [hf] at this; cases this
  refine w_for (L := enm Os) (enc := fun e => .im (.tuple [.int e.1, orP e.2])) (S1 := S) (vi_enm (v_var rfl) k_enmT) (fun pre e S' => ∃ (e3 e4 e5 : Option D), e = [some (.im (.tuple (Os.map orP))), some (.im (.tuple (Ws.map wsP))), some (.im (.tuple (M.map PyData.int))), e3, e4, e5] ∧ S' = S ∧ ∀ x ∈ pre, (x.2.all fun w => !(wtk Ws w x.1 (thr M w) && wgv x.2 (gt M x.1) w)) = true) ⟨_, _, _, rfl, rfl, by simp⟩ ?_ ?_
  · rintro pre x post e S' hL ⟨e3, e4, e5, rfl, hS, hp⟩
    obtain rfl : S = S' := hS.symm
    have hx : x ∈ enm Os := by rw [hL]; simp
    obtain ⟨x1, x2, x3, x4⟩ := enm_mem hx
    refine ⟨_, rfl, ?_⟩
    refine w_for (L := x.2) (enc := fun w => .im (.int w)) (S1 := S) (vi_ex (v_var rfl) k_exT) (fun pre2 e S' => ∃ (e5 : Option D), e = [some (.im (.tuple (Os.map orP))), some (.im (.tuple (Ws.map wsP))), some (.im (.tuple (M.map PyData.int))), some (.im (.int x.1)), some (.im (orP x.2)), e5] ∧ S' = S ∧ ∀ w ∈ pre2, (wtk Ws w x.1 (thr M w) && wgv x.2 (gt M x.1) w) = false) ⟨_, rfl, rfl, by simp⟩ ?_ ?_
    · rintro pre2 w post2 e S' hL2 ⟨e5, rfl, hS, hp2⟩
      obtain rfl : S = S' := hS.symm
      have hw : w ∈ x.2 := by rw [hL2]; simp
      have hw2 := (ho.og ⟨x1, x2⟩).2.2 w (by rw [← x3]; exact hw)
      obtain ⟨a1, a2⟩ := thr_rel rg (w := w) (by omega)
      have ct := throneOfT_c (P := P) (k := k - 1) (S := S) (Sh := M) (w := w) (by omega)
      have cw := wouldTake_c (P := P) (k := k - 1) (S := S) (Ws := Ws) (w := w) (t := x.1) (h := thr M w) (by omega) (by omega) fun z => (rg.dom (a2 z)).2.2
      have cg := wouldGive_c (P := P) (k := k - 1) (S := S) (o := x.2) (h := gt M x.1) (w := w) (by omega) fun z => by
        have := (rg.dom (p := x.1) (a := gt M x.1) ⟨⟨x1, by omega⟩, rfl, z⟩).2.1
        rw [x3]
        exact this
      refine ⟨_, rfl, ?_⟩
      simp only [List.set_cons_zero, List.set_cons_succ]
      refine w_iff (v_bop (vb_and (v_call (vs_cons (v_var rfl) (vs_cons (v_var rfl) (vs_cons (v_var rfl) (vs_cons (v_call (vs_cons (v_var rfl) (vs_cons (v_var rfl) vs_nil)) ct) vs_nil)))) cw) fun _ => vb_one (v_call (vs_cons (v_var rfl) (vs_cons (v_idx (v_var rfl) (v_var rfl) (x_T ⟨x1, by omega⟩)) (vs_cons (v_var rfl) vs_nil))) cg))) (fun hq1 => ?_) (fun hq1 => w_nil ?_)
      · refine w_ret v_con ⟨?_, List.take_length ..⟩
        rw [hfalse x hx w hw hq1]
      · refine w_nil (Φ := callF P (k - 1)) ⟨_, rfl, rfl, fun y hy => ?_⟩
        rcases List.mem_append.mp hy with z | z
        · exact hp2 y z
        · rw [List.mem_singleton.mp z]; exact hq1
    · rintro e S' ⟨e5, rfl, rfl, hp2⟩
      refine w_nil (Φ := callF P (k - 1)) ⟨_, _, _, rfl, rfl, fun y hy => ?_⟩
      rcases List.mem_append.mp hy with z | z
      · exact hp y z
      · rw [List.mem_singleton.mp z]
        exact List.all_eq_true.mpr fun w hw => by rw [hp2 w hw]; rfl
  · rintro e S' ⟨e3, e4, e5, rfl, rfl, hp⟩
    refine w_ret v_con ⟨?_, List.take_length ..⟩
    unfold rstB
    rw [hr, Bool.true_and, List.all_eq_true.mpr hp]
end
end DL
end

section
set_option maxRecDepth 100000
set_option maxHeartbeats 2000000
/-! DK9: orders and wishes of numbers that lie together. Ours. -/
namespace DL
open PySem PySem.Spec PyProof.Rows
/-- _law_thrones: 3 10 -/
def lthronesRY : Sms :=
 .cons (.asg (.v 3) (.idx (.lst (.cons (.con (.int 0)) (.cons (.con (.int 0)) (.cons (.con (.int 30)) (.cons (.bin .Sub (.con (.int 61)) (.var 2)) .nil))))) (.call "_law_take" (.cons (.var 0) (.cons (.con (.int 4)) .nil)))))
 (.cons (.asg (.v 4) (.lsr false (.cons (.var 3) (.cons (.bin .Add (.var 3) (.var 2)) .nil))))
 (.cons (.asg (.v 5) (.mls .nil))
 (.cons (.for (.v 6) (.rng (.cons (.bin .Add (.con (.int 1)) (.call "_law_take" (.cons (.var 0) (.cons (.var 1) .nil)))) .nil)) (.cons (.asg (.v 9) (.idx (.lst (.cons (.bi .len (.cons (.var 4) .nil)) (.cons (.bi .len (.cons (.var 4) .nil)) (.cons (.call "_law_take" (.cons (.var 0) (.cons (.bin .Add (.bi .len (.cons (.var 4) .nil)) (.con (.int 1))) .nil))) (.cons (.con (.int 1)) .nil))))) (.call "_law_take" (.cons (.var 0) (.cons (.con (.int 4)) .nil)))))
 (.cons (.exp (.mt .append (.var 5) (.cons (.call "_law_drawn_order" (.cons (.var 0) (.cons (.var 4) (.cons (.var 9) .nil)))) .nil))) .nil)))
 (.cons (.asg (.v 7) (.mls .nil))
 (.cons (.for (.v 8) (.ex (.var 4)) (.cons (.iff (.cmp .Gt (.call "_law_take" (.cons (.var 0) (.cons (.con (.int 8)) .nil))) (.con (.int 0))) (.cons (.asg (.v 9) (.idx (.lst (.cons (.bi .len (.cons (.var 5) .nil)) (.cons (.bi .len (.cons (.var 5) .nil)) (.cons (.call "_law_take" (.cons (.var 0) (.cons (.bin .Add (.bi .len (.cons (.var 5) .nil)) (.con (.int 1))) .nil))) .nil)))) (.call "_law_take" (.cons (.var 0) (.cons (.con (.int 3)) .nil)))))
 (.cons (.exp (.mt .append (.var 7) (.cons (.tup (.cons (.var 8) (.cons (.call "_law_drawn_order" (.cons (.var 0) (.cons (.lsr false (.cons (.bi .len (.cons (.var 5) .nil)) .nil)) (.cons (.var 9) .nil)))) .nil))) .nil))) .nil)) (.nil)) .nil))
 (.cons (.ret (.lst (.cons (.bi .tuple (.cons (.var 5) .nil)) (.cons (.bi .tuple (.cons (.var 7) .nil)) .nil)))) .nil))))))
section
variable {S : Mem} {l h : Int}
theorem kk_lsr2 (hb : 0 ≤ l ∧ l ≤ h ∧ h ≤ 1000) : lsrK false [.im (.int l), .im (.int h)] S = .ok (.im (.list ((fromto l h).map PyData.int))) S := by
  unfold lsrK
  dsimp only
  rw [if_pos (by omega)]
  unfold lsrP rgP fromto
  rw [if_neg (by simp), List.map_map]
  rfl
end
section
variable {P : List Fn} {k : Nat} {S R : Mem} {Os : List (List Int)} {Ws : List (Int × List Int)} {L : List Int} {w b : Int} {n m : Nat} {ns : List Int} {st : Dst} {p : PyData}
theorem lthronesR_x [H1 : Fd P "_law_take" takeY 2 4] [H2 : Fd P "_law_drawn_order" ldrawnY 3 6] [H : Fd P "_law_thrones" lthronesRY 3 10] (hk : 3 ≤ k) (hb : 0 < b ∧ b ≤ 6) (hm : m ≤ 12) :
    ∃ v S', callF P k "_law_thrones" [.rf 0, .im (.int b), .im (.int (m : Int))] (Sd ns st R) = .ok v S' ∧ ∃ (Os : List (List Int)) (Ws : List (Int × List Int)) (st' : Dst), v = .im (.list [.tuple (Os.map orP), .tuple (Ws.map wsP)]) ∧ S' = Sd ns st' R ∧ OW Os Ws := by
  refine call_x H rfl (by omega) ?_
  simp only [lthronesRY, List.map, List.map_cons, List.map_nil, List.length_cons, List.length_nil, List.replicate, List.cons_append, List.nil_append, Nat.reduceSub, Nat.reduceAdd]
  have t0 := tv_b (ns := ns) (st := st) (b := 4) (by omega)
  have c0 := take_c (P := P) (k := k - 1) (ns := ns) (st := st) (R := R) (b := 4) (by unfold Must; omega) (by unfold Must; omega) (by unfold Must; omega)
  generalize tv ns st 4 = i0 at t0 c0
  generalize ts ns st 4 = st1 at c0
  have hf0 : 0 ≤ gt [(0 : Int), 0, 30, 61 - (m : Int)] i0 ∧ gt [(0 : Int), 0, 30, 61 - (m : Int)] i0 + m ≤ 61 := gt_lit (p := fun z => 0 ≤ z ∧ z + m ≤ 61) (l := [(0 : Int), 0, 30, 61 - (m : Int)]) (by simp; omega) (by simp; omega)
  refine w_asg (v_idx (v_lst (vs_cons v_con (vs_cons v_con (vs_cons v_con (vs_cons (v_bin v_con (v_var rfl) o_subI) vs_nil)))) rfl) (v_call (vs_cons (v_var rfl) (vs_cons v_con vs_nil)) c0) (x_L (g := PyData.int) (L := [(0 : Int), 0, 30, 61 - (m : Int)]) (by unfold Must; simp; omega))) rfl ?_
  simp only [List.set_cons_zero, List.set_cons_succ]
  generalize gt [(0 : Int), 0, 30, 61 - (m : Int)] i0 = f0 at hf0
  refine w_asg (v_lsr (vs_cons (v_var rfl) (vs_cons (v_bin (v_var rfl) (v_var rfl) o_addI) vs_nil)) (kk_lsr2 ⟨hf0.1, by omega, by omega⟩)) rfl ?_
  simp only [List.set_cons_zero, List.set_cons_succ]
  have hp1 : ∀ x ∈ fromto f0 (f0 + m), 0 ≤ x ∧ x ≤ 60 := fun x hx => by
    have := fromto_mem.mp hx
    omega
  have hp2 : (fromto f0 (f0 + m)).length ≤ 12 := by
    unfold fromto
    rw [List.length_map, List.length_range]
    omega
  have hp3 : (fromto f0 (f0 + m)).Pairwise (· < ·) := by
    unfold fromto
    rw [List.pairwise_map]
    exact List.pairwise_lt_range.imp fun h => by omega
  generalize fromto f0 (f0 + m) = Pl at hp1 hp2 hp3
  have hpn : Pl.Nodup := hp3.imp fun h => Int.ne_of_lt h
  refine w_asg (v_mls vs_nil rfl rfl rfl) rfl ?_
  simp only [List.set_cons_zero, List.set_cons_succ]
  have eS : Sd ns st1 R ++ [Ob.lst []] = Sd ns st1 (R ++ [.lst (([] : List (List Int)).map orP)]) := by simp [Sd]
  rw [eS, Sd_len]
  have tb := tv_b (ns := ns) (st := st1) (b := b) hb.1
  have ct := take_c (P := P) (k := k - 1) (ns := ns) (st := st1) (R := R ++ [.lst (([] : List (List Int)).map orP)]) (b := b) (by unfold Must; omega) (by unfold Must; omega) (by unfold Must; omega)
  generalize tv ns st1 b = t1 at tb ct
  generalize ts ns st1 b = st2 at ct
  have et : (1 : Int) + t1 = (((1 + t1).toNat : Nat) : Int) := by omega
  refine w_for (L := upto (1 + t1).toNat) (enc := fun e => .im (.int e)) (S1 := Sd ns st2 (R ++ [.lst (([] : List (List Int)).map orP)])) (vi_rng (vs_cons (v_bin v_con (v_call (vs_cons (v_var rfl) (vs_cons (v_var rfl) vs_nil)) ct) (o_addI.trans (congrArg (fun z => Res.ok (D.im (PyData.int z)) _) et))) vs_nil) (k_rngN (by unfold Must; omega))) (fun pre e S' => ∃ (Os : List (List Int)) (st' : Dst) (e5 e8 : Option D), e = [some (.rf 0), some (.im (.int b)), some (.im (.int (m : Int))), some (.im (.int f0)), some (.im (.list (Pl.map PyData.int))), some (.rf (R.length + 1)), e5, none, none, e8] ∧ S' = Sd ns st' (R ++ [.lst (Os.map orP)]) ∧ Os.length = pre.length ∧ ∀ o ∈ Os, o.length ≤ 12 ∧ o.Nodup ∧ ∀ w ∈ o, 0 ≤ w ∧ w ≤ 60) ⟨[], st2, _, _, rfl, rfl, rfl, by simp⟩ ?_ ?_
  · rintro pre x post e S' hL ⟨Os, st3, e5, e8, rfl, rfl, hO, hO2⟩
    have hpl := congrArg List.length hL
    rw [upto_len, List.length_append, List.length_cons] at hpl
    refine ⟨_, rfl, ?_⟩
    simp only [List.set_cons_zero, List.set_cons_succ]
    have t4 := tv_b (ns := ns) (st := st3) (b := (Pl.length : Int) + 1) (by omega)
    have c4 := take_c (P := P) (k := k - 1) (ns := ns) (st := st3) (R := R ++ [.lst (Os.map orP)]) (b := (Pl.length : Int) + 1) (by unfold Must; omega) (by unfold Must; omega) (by unfold Must; omega)
    generalize tv ns st3 ((Pl.length : Int) + 1) = i4 at t4 c4
    generalize ts ns st3 ((Pl.length : Int) + 1) = st4 at c4
    have t5 := tv_b (ns := ns) (st := st4) (b := 4) (by omega)
    have c5 := take_c (P := P) (k := k - 1) (ns := ns) (st := st4) (R := R ++ [.lst (Os.map orP)]) (b := 4) (by unfold Must; omega) (by unfold Must; omega) (by unfold Must; omega)
    generalize tv ns st4 4 = i5 at t5 c5
    generalize ts ns st4 4 = st5 at c5
    have hz : 0 ≤ gt [(Pl.length : Int), (Pl.length : Int), i4, 1] i5 := gt_lit (p := fun z => 0 ≤ z) (l := [(Pl.length : Int), (Pl.length : Int), i4, 1]) (by simp; omega) (by simp; omega)
    refine w_asg (v_idx (v_lst (vs_cons (v_bi (vs_cons (v_var rfl) vs_nil) b_lenLm) (vs_cons (v_bi (vs_cons (v_var rfl) vs_nil) b_lenLm) (vs_cons (v_call (vs_cons (v_var rfl) (vs_cons (v_bin (v_bi (vs_cons (v_var rfl) vs_nil) b_lenLm) v_con o_addI) vs_nil)) c4) (vs_cons v_con vs_nil)))) rfl) (v_call (vs_cons (v_var rfl) (vs_cons v_con vs_nil)) c5) (x_L (g := PyData.int) (L := [(Pl.length : Int), (Pl.length : Int), i4, 1]) (by unfold Must; simp; omega))) rfl ?_
    simp only [List.set_cons_zero, List.set_cons_succ]
    generalize gt [(Pl.length : Int), (Pl.length : Int), i4, 1] i5 = z at hz
    obtain ⟨y, rfl⟩ : ∃ y : Nat, z = (y : Int) := ⟨z.toNat, by omega⟩
    obtain ⟨v6, S6, c6, A, st6, rfl, rfl, d6⟩ := ldrawn_x (P := P) (k := k - 1) (ns := ns) (st := st5) (R := R ++ [.lst (Os.map orP)]) (L := Pl) (m := y) (p := .list (Pl.map PyData.int)) (by omega) (fun S => seq_L) (by omega)
    refine w_exp (v_mt (v_var rfl) (r_app dg0) (vs_cons (v_call (vs_cons (v_var rfl) (vs_cons (v_var rfl) (vs_cons (v_var rfl) vs_nil))) c6) vs_nil) (m_app dg0 (by unfold Must; rw [List.length_map]; omega) ds0)) ?_
    refine w_nil (Φ := callF P (k - 1)) ⟨Os ++ [A], st6, _, _, rfl, by rw [List.map_append]; rfl, by simp [hO], fun o ho => ?_⟩
    rcases List.mem_append.mp ho with z | z
    · exact hO2 o z
    · rw [List.mem_singleton.mp z]
      exact ⟨by rw [d6.len]; omega, d6.nd hpn, fun w hw => hp1 w (d6.sub w hw)⟩
  · rintro e S' ⟨Os, st3, e5, e8, rfl, rfl, hO, hO2⟩
    rw [upto_len] at hO
    refine w_asg (v_mls vs_nil rfl rfl rfl) rfl ?_
    simp only [List.set_cons_zero, List.set_cons_succ]
    have eS : Sd ns st3 (R ++ [Ob.lst (Os.map orP)]) ++ [Ob.lst []] = Sd ns st3 (R ++ [.lst (Os.map orP), .lst (([] : List (Int × List Int)).map wsP)]) := by simp [Sd]
    have el : (Sd ns st3 (R ++ [Ob.lst (Os.map orP)])).length = R.length + 2 := by simp [Sd]
    rw [eS, el]
    refine w_for (L := Pl) (enc := fun e => .im (.int e)) (S1 := Sd ns st3 (R ++ [.lst (Os.map orP), .lst (([] : List (Int × List Int)).map wsP)])) (vi_ex (v_var rfl) k_exL) (fun pre e S' => ∃ (Ws : List (Int × List Int)) (st' : Dst) (e7 e8 : Option D), e = [some (.rf 0), some (.im (.int b)), some (.im (.int (m : Int))), some (.im (.int f0)), some (.im (.list (Pl.map PyData.int))), some (.rf (R.length + 1)), e5, some (.rf (R.length + 2)), e7, e8] ∧ S' = Sd ns st' (R ++ [.lst (Os.map orP), .lst (Ws.map wsP)]) ∧ (Ws.map (·.1)).Sublist pre ∧ ∀ e ∈ Ws, e.2.length ≤ 6 ∧ e.2.Nodup ∧ ∀ t ∈ e.2, 0 ≤ t ∧ t < Os.length) ⟨[], st3, _, _, rfl, rfl, List.Sublist.refl _, by simp⟩ ?_ ?_
    · rintro pre x post e S' hL ⟨Ws, st4, e7, e8, rfl, rfl, hW, hW2⟩
      have hpl := congrArg List.length hL
      rw [List.length_append, List.length_cons] at hpl
      have hWl := hW.length_le
      rw [List.length_map] at hWl
      refine ⟨_, rfl, ?_⟩
      simp only [List.set_cons_zero, List.set_cons_succ]
      have c8 := take_c (P := P) (k := k - 1) (ns := ns) (st := st4) (R := R ++ [.lst (Os.map orP), .lst (Ws.map wsP)]) (b := 8) (by unfold Must; omega) (by unfold Must; omega) (by unfold Must; omega)
      generalize tv ns st4 8 = i8 at c8
      generalize ts ns st4 8 = st8 at c8
      refine w_iff (v_cmp (v_call (vs_cons (v_var rfl) (vs_cons v_con vs_nil)) c8) v_con c_gtI) (fun hq => ?_) (fun hq => w_nil ?_)
      · have t4 := tv_b (ns := ns) (st := st8) (b := (Os.length : Int) + 1) (by omega)
        have c4 := take_c (P := P) (k := k - 1) (ns := ns) (st := st8) (R := R ++ [.lst (Os.map orP), .lst (Ws.map wsP)]) (b := (Os.length : Int) + 1) (by unfold Must; omega) (by unfold Must; omega) (by unfold Must; omega)
        generalize tv ns st8 ((Os.length : Int) + 1) = i4 at t4 c4
        generalize ts ns st8 ((Os.length : Int) + 1) = st9 at c4
        have t5 := tv_b (ns := ns) (st := st9) (b := 3) (by omega)
        have c5 := take_c (P := P) (k := k - 1) (ns := ns) (st := st9) (R := R ++ [.lst (Os.map orP), .lst (Ws.map wsP)]) (b := 3) (by unfold Must; omega) (by unfold Must; omega) (by unfold Must; omega)
        generalize tv ns st9 3 = i5 at t5 c5
        generalize ts ns st9 3 = st5 at c5
        have hz : 0 ≤ gt [(Os.length : Int), (Os.length : Int), i4] i5 := gt_lit (p := fun z => 0 ≤ z) (l := [(Os.length : Int), (Os.length : Int), i4]) (by simp; omega) (by simp; omega)
        refine w_asg (v_idx (v_lst (vs_cons (v_bi (vs_cons (v_var rfl) vs_nil) (b_lenR dg0)) (vs_cons (v_bi (vs_cons (v_var rfl) vs_nil) (b_lenR dg0)) (vs_cons (v_call (vs_cons (v_var rfl) (vs_cons (v_bin (v_bi (vs_cons (v_var rfl) vs_nil) (b_lenR dg0)) v_con o_addI) vs_nil)) c4) vs_nil))) rfl) (v_call (vs_cons (v_var rfl) (vs_cons v_con vs_nil)) c5) (x_L (g := PyData.int) (L := [(Os.length : Int), (Os.length : Int), i4]) (by unfold Must; simp; omega))) rfl ?_
        simp only [List.set_cons_zero, List.set_cons_succ]
        generalize gt [(Os.length : Int), (Os.length : Int), i4] i5 = z at hz
        obtain ⟨y, rfl⟩ : ∃ y : Nat, z = (y : Int) := ⟨z.toNat, by omega⟩
        obtain ⟨v6, S6, c6, A, st6, rfl, rfl, d6⟩ := ldrawn_x (P := P) (k := k - 1) (ns := ns) (st := st5) (R := R ++ [.lst (Os.map orP), .lst (Ws.map wsP)]) (L := upto Os.length) (m := y) (p := .list ((upto Os.length).map PyData.int)) (by omega) (fun S => seq_L) (by rw [upto_len]; omega)
        refine w_exp (v_mt (v_var rfl) (r_app dg1) (vs_cons (v_tup (vs_cons (v_var rfl) (vs_cons (v_call (vs_cons (v_var rfl) (vs_cons (v_lsr (vs_cons (v_bi (vs_cons (v_var rfl) vs_nil) (b_lenR dg0)) vs_nil) (kk_lsr (by unfold Must; omega))) (vs_cons (v_var rfl) vs_nil))) c6) vs_nil)) rfl) vs_nil) (m_app dg1 (by unfold Must; rw [List.length_map]; omega) ds1)) ?_
        refine w_nil (Φ := callF P (k - 1)) (w_nil (Φ := callF P (k - 1)) ⟨Ws ++ [(x, A)], st6, _, _, rfl, by rw [List.map_append]; rfl, ?_, fun e he => ?_⟩)
        · rw [List.map_append]
          exact List.Sublist.append hW (List.Sublist.refl _)
        · rcases List.mem_append.mp he with z | z
          · exact hW2 e z
          · rw [List.mem_singleton.mp z]
            refine ⟨?_, d6.nd ((upto_rise _).imp fun h => Int.ne_of_lt h), fun t ht => upto_mem.mp (d6.sub t ht)⟩
            have := d6.len
            rw [upto_len] at this
            show A.length ≤ 6
            omega
      · exact w_nil (Φ := callF P (k - 1)) ⟨Ws, st8, _, _, rfl, rfl, hW.trans (List.sublist_append_left _ _), hW2⟩
    · rintro e S' ⟨Ws, st4, e7, e8, rfl, rfl, hW, hW2⟩
      have hWl := hW.length_le
      rw [List.length_map] at hWl
      refine w_ret (v_lst (vs_cons (v_bi (vs_cons (v_var rfl) vs_nil) (b_tupR dg0)) (vs_cons (v_bi (vs_cons (v_var rfl) vs_nil) (b_tupR dg1)) vs_nil)) rfl) ⟨Os, Ws, st4, rfl, ?_, by omega, by omega, hO2, by omega, hp3.sublist hW, fun e he => ⟨hp1 e.1 (hW.subset (List.mem_map.mpr ⟨e, he, rfl⟩)), hW2 e he⟩⟩
      show List.take _ _ = _
      rw [Sd_len]
      simp [Sd]
end
end DL
end

namespace DL
open PySem PySem.Spec PyProof.Rows
local macro_rules | `(tactic| walk_at "in") => `(tactic| (intro hc; (try simp only [decide_eq_true_eq, decide_eq_false_iff_not, Bool.and_eq_true, Bool.or_eq_true, Bool.not_eq_true', Bool.not_eq_false', Bool.or_eq_false_iff, beq_iff_eq, beq_eq_false_iff_ne, emp_true, emp_false, Int.not_le, Int.not_lt] at hc)))
local macro_rules | `(tactic| walk_at "must2") => `(tactic| fail)
local macro_rules | `(tactic| walk_at "must") => `(tactic| first | (with_reducible assumption) | (unfold Must; with_reducible assumption) | walk_at "must2" | ((with_reducible show Must (PyData.strOk (Str.ofString _) = true)); unfold Must; decide +kernel) | (unfold Must; with_reducible exact b2i_l) | (have h' := upto_mem.mp ‹_ ∈ upto _›; unfold Must; omega) | (have h' := enm_mem ‹_ ∈ enm _›; unfold Must; omega) | (have h' := fromto_mem.mp ‹_ ∈ fromto _ _›; unfold Must; omega) | (unfold Must; omega) | (unfold Must; simp only [List.length_map, List.length_append, List.length_cons, List.length_nil, upto_len]; omega) | (unfold Must; grind [List.length_filter_le, enm_len, upto_len]) | skip)
local macro_rules | `(tactic| walk_at "e") => `(tactic| first | ((with_reducible show ev _ _ _ _ = _); walk_at "ev") | ((with_reducible show evs _ _ _ _ = _); walk_at "evs") | ((with_reducible show evB _ _ _ _ _ = _); walk_at "evB") | ((with_reducible show evI _ _ _ _ = _); walk_at "evI") | ((with_reducible show Must _); walk_at "must") | ((with_reducible show callF _ _ _ _ _ = _); walk_at "call") | walk_at "op" | (walk_at "in"; walk_at "e") | ((with_reducible show (ev _ _ _ _ = _) ∧ _); constructor <;> walk_at "e"))
local macro_rules | `(tactic| walk_at "ev") => `(tactic| first | (refine v_var ?_; rfl) | (with_reducible exact v_con) | (with_reducible exact v_glb) | ((with_reducible apply v_bop) <;> walk_at "e") | ((with_reducible apply v_cmp) <;> walk_at "e") | ((with_reducible apply v_idx) <;> walk_at "e") | ((with_reducible apply v_call) <;> walk_at "e") | ((with_reducible apply v_bin) <;> walk_at "e") | ((with_reducible apply v_bi) <;> walk_at "e") | ((with_reducible apply v_tup) <;> walk_at "e") | ((with_reducible apply v_lst) <;> walk_at "e") | ((with_reducible apply v_mls) <;> walk_at "e") | ((with_reducible apply v_neg) <;> walk_at "e") | ((with_reducible apply v_nt) <;> walk_at "e") | ((with_reducible apply v_chn) <;> walk_at "e") | ((with_reducible apply v_iteI) <;> walk_at "e") | ((with_reducible apply v_ite) <;> walk_at "e") | ((with_reducible apply v_slc) <;> walk_at "e") | ((with_reducible apply v_rev) <;> walk_at "e") | ((with_reducible apply v_isi) <;> walk_at "e") | ((with_reducible apply v_rep) <;> walk_at "e") | ((with_reducible apply v_mt) <;> walk_at "e") | ((with_reducible apply v_lsr) <;> walk_at "e") | ((with_reducible apply v_srs) <;> walk_at "e") | ((with_reducible apply v_mnd) <;> walk_at "e") | ((with_reducible apply v_mdf) <;> walk_at "e") | ((with_reducible apply v_mad) <;> walk_at "e") | ((with_reducible apply v_dic) <;> walk_at "e") | ((with_reducible apply v_cmp0) <;> walk_at "e") | ((with_reducible apply v_cmpr) <;> walk_at "e") | ((with_reducible apply v_cmr) <;> walk_at "e"))
local macro_rules | `(tactic| walk_at "evs") => `(tactic| first | (with_reducible exact vs_nil) | ((with_reducible apply vs_cons) <;> walk_at "e"))
local macro_rules | `(tactic| walk_at "evB") => `(tactic| first | (with_reducible exact vb_nil) | ((with_reducible apply vb_one) <;> walk_at "e") | ((with_reducible apply vb_and) <;> walk_at "e") | ((with_reducible apply vb_or) <;> walk_at "e"))
local macro_rules | `(tactic| walk_at "evI") => `(tactic| first | ((with_reducible apply vi_ex) <;> walk_at "e") | ((with_reducible apply vi_rng) <;> walk_at "e") | ((with_reducible apply vi_enm) <;> walk_at "e") | ((with_reducible apply vi_zp) <;> walk_at "e"))
local macro_rules | `(tactic| walk_at "op") => `(tactic| first | (with_reducible assumption) | ((with_reducible show allIm _ = _); repeat (first | (with_reducible exact ai_nil) | (with_reducible apply ai_cons))) | ((with_reducible show asgT _ _ _ _ = _); rfl) | ((with_reducible show endOf _ = _); rfl) | ((with_reducible show allInts _ = _); walk_at "ints") | ((with_reducible show allStrs _ = _); first | ((with_reducible apply allStrs_cons) <;> walk_at "e") | rfl) | ((with_reducible show cmpP _ _ _ _ = _); walk_at "cmp") | ((with_reducible show idxD _ _ _ = _); walk_at "idx") | ((with_reducible show binD _ _ _ _ = _); walk_at "bin") | ((with_reducible show biD _ _ _ = _); walk_at "bi") | ((with_reducible show _ ++ _ = _); first | (with_reducible exact ad3) | (with_reducible exact ad2) | (with_reducible exact ad1) | (with_reducible exact ad0) | (with_reducible exact am3) | (with_reducible exact am2) | (with_reducible exact am1) | rfl) | ((with_reducible show List.length _ = _); first | (with_reducible exact ld3) | (with_reducible exact ld2) | (with_reducible exact ld1) | (with_reducible exact ld0) | (with_reducible exact lm3) | (with_reducible exact lm2) | (with_reducible exact lm1) | rfl) | walk_at "op2")
local macro_rules | `(tactic| walk_at "ints") => `(tactic| first | (with_reducible exact allInts_int) | (with_reducible exact allInts_map) | (with_reducible exact allInts_iL _) | ((with_reducible apply allInts_app) <;> walk_at "e") | ((with_reducible apply allInts_cons) <;> walk_at "e") | rfl)
local macro_rules | `(tactic| walk_at "bin") => `(tactic| first | (with_reducible exact o_addI) | (with_reducible exact o_subI) | ((with_reducible apply o_mulI) <;> walk_at "e") | ((with_reducible apply o_modI) <;> walk_at "e") | ((with_reducible apply o_divI) <;> walk_at "e") | ((with_reducible apply o_addI1) <;> walk_at "e") | ((with_reducible apply o_addLm) <;> walk_at "e") | ((with_reducible apply o_addII) <;> walk_at "e") | ((with_reducible apply o_add1) <;> walk_at "e") | ((with_reducible apply o_addLm) <;> walk_at "e") | ((with_reducible apply o_addTm) <;> walk_at "e") | ((with_reducible apply o_addL) <;> walk_at "e") | ((with_reducible apply o_addT) <;> walk_at "e") | ((with_reducible apply o_addR) <;> walk_at "e"))
local macro_rules | `(tactic| walk_at "cmp") => `(tactic| first | (with_reducible exact c_eqI) | (with_reducible exact c_neI) | (with_reducible exact c_leI) | (with_reducible exact c_ltI) | (with_reducible exact c_gtI) | (with_reducible exact c_geI) | (with_reducible exact c_eqS) | (with_reducible exact c_neS) | (with_reducible exact c_eq0L) | (with_reducible exact c_ne0L) | (with_reducible exact c_eq0T) | (with_reducible exact c_ne0T) | (with_reducible exact c_eqF) | (with_reducible exact c_neF) | (with_reducible exact c_in2) | (with_reducible exact c_inT) | (with_reducible exact c_inL) | (with_reducible exact c_inTI) | (with_reducible exact c_inLI) | ((with_reducible apply c_inR) <;> walk_at "e") | walk_at "cmp2" | ((with_reducible apply c_nin) <;> walk_at "e"))
local macro_rules | `(tactic| walk_at "cmp2") => `(tactic| fail)
local macro_rules | `(tactic| walk_at "idx") => `(tactic| first | walk_at "idx2" | ((with_reducible apply x_T) <;> walk_at "e") | ((with_reducible apply x_L) <;> walk_at "e") | ((with_reducible apply x_R) <;> walk_at "e") | ((with_reducible apply x_LI) <;> walk_at "e") | ((with_reducible apply x_LS) <;> walk_at "e") | ((with_reducible show idxD _ (.im (.int (OfNat.ofNat _))) _ = _); rfl) | ((with_reducible apply x_lit) <;> walk_at "e"))
local macro_rules | `(tactic| walk_at "bi") => `(tactic| first | (with_reducible exact b_lenLm) | (with_reducible exact b_lenTm) | (with_reducible exact b_lenL) | (with_reducible exact b_lenT) | ((with_reducible apply b_lenR) <;> walk_at "e") | (with_reducible exact b_int) | (with_reducible exact b_intI) | (with_reducible exact b_min2) | (with_reducible exact b_max2) | ((with_reducible apply b_max1) <;> walk_at "e") | ((with_reducible apply b_min1) <;> walk_at "e") | ((with_reducible apply b_sum) <;> walk_at "e") | (with_reducible exact b_all) | (with_reducible exact any_mapD) | (with_reducible exact b_tupL) | (with_reducible exact b_tupT) | ((with_reducible apply b_tupR) <;> walk_at "e") | ((with_reducible apply b_sortI) <;> walk_at "e") | ((with_reducible apply b_mlist) <;> walk_at "e") | ((with_reducible apply b_list) <;> walk_at "e"))
local macro_rules | `(tactic| walk_at "op2") => `(tactic| first | ((with_reducible apply m_madI) <;> walk_at "e") | ((with_reducible apply m_madR) <;> walk_at "e") | (with_reducible exact k_exL) | (with_reducible exact k_exT) | ((with_reducible apply k_rngN) <;> walk_at "e") | ((with_reducible apply k_rng1) <;> walk_at "e") | ((with_reducible apply k_rng2) <;> walk_at "e") | (with_reducible exact k_enmL) | (with_reducible exact k_enmT) | (with_reducible exact o_neg) | (with_reducible exact o_not) | (with_reducible exact mg0) | (with_reducible exact mg1) | (with_reducible exact mg2) | (with_reducible exact mg3) | (with_reducible exact ms0) | (with_reducible exact ms1) | (with_reducible exact ms2) | (with_reducible exact ms3) | ((with_reducible apply dgx); assumption) | (with_reducible exact dg0) | (with_reducible exact dg1) | (with_reducible exact dg2) | (with_reducible exact dg3) | (with_reducible exact ds0) | (with_reducible exact ds1) | (with_reducible exact ds2) | (with_reducible exact ds3) | ((with_reducible apply srs_I) <;> walk_at "e") | ((with_reducible apply b_mdf) <;> walk_at "e") | ((with_reducible apply r_app) <;> walk_at "e") | ((with_reducible apply m_app) <;> walk_at "e") | ((with_reducible apply r_ext) <;> walk_at "e") | ((with_reducible apply m_ext) <;> walk_at "e") | (with_reducible exact seq_L) | (with_reducible exact seq_T) | ((with_reducible apply seq_R) <;> walk_at "e") | ((with_reducible show sliceD _ _ _ _ = _); first | walk_at "slc2" | (with_reducible exact s_L) | (with_reducible exact s_T) | rfl) | rfl)
local macro_rules | `(tactic| walk_at "call") => `(tactic| first | (with_reducible assumption) | walk_at "c")
local macro_rules | `(tactic| walk_at "we") => `(tactic| first | ((with_reducible show wps _ _); (try simp only [DL.setAll, List.set_cons_zero, List.set_cons_succ])) | walk_at "e")
local macro_rules | `(tactic| walk_at "w") => `(tactic| first | ((with_reducible apply w_asg) <;> walk_at "we") | ((with_reducible apply w_exp) <;> walk_at "we") | ((with_reducible apply w_iff) <;> (first | ((with_reducible show _ → _); walk_at "in") | walk_at "we")) | ((with_reducible apply w_iff_or) <;> (first | ((with_reducible show _ → _); walk_at "in") | walk_at "we")) | ((with_reducible apply w_iff_and) <;> (first | ((with_reducible show _ → _); walk_at "in") | walk_at "we")) | ((with_reducible apply w_ret) <;> (first | walk_at "we" | skip)) | (with_reducible apply w_nil) | (with_reducible apply w_rse) | (with_reducible apply w_brk) | (with_reducible apply w_cnt) | (with_reducible apply w_retn) | ((with_reducible apply w_aug) <;> walk_at "we") | ((with_reducible apply w_sub) <;> walk_at "we") | ((with_reducible apply w_par) <;> walk_at "we"))
local macro_rules | `(tactic| walk_at "ws") => `(tactic| repeat' ((with_reducible show wps _ _); walk_at "w"))

section
set_option maxRecDepth 100000
set_option maxHeartbeats 2000000
/-! M_k74: the plain law. Ours. -/
namespace k74
open PySem PySem.Spec PyProof.Rows DL

local macro_rules | `(tactic| walk_at "idx2") => `(tactic| first | (with_reducible exact xf0) | (with_reducible exact xf1) | (with_reducible exact xf2) | (with_reducible exact xf3) | (with_reducible exact xf4) | (with_reducible exact xn0) | (with_reducible exact xn1) | (with_reducible exact xn2) | (with_reducible exact xn3) | (with_reducible exact xr0) | (with_reducible exact xr1) | (with_reducible exact xr2) | (with_reducible exact xr3))
local macro_rules | `(tactic| walk_at "slc2") => `(tactic| first | (with_reducible exact sf13))
local macro_rules | `(tactic| walk_at "must2") => `(tactic| first | exact tv_b (by first | omega | (simp only [List.length_cons]; omega)))
local macro_rules | `(tactic| walk_at "op2") => `(tactic| first | ((with_reducible apply b_rd) <;> walk_at "e") | ((with_reducible apply d_new) <;> walk_at "e") | (with_reducible exact k_exD) | ((with_reducible show setD _ _ _ _ = _); first | ((with_reducible apply sd_D) <;> walk_at "e") | ((with_reducible apply sd_L) <;> walk_at "e")) | (with_reducible exact r_rev) | (with_reducible exact r_revL) | ((with_reducible apply r_pop0) <;> walk_at "e") | ((with_reducible apply m_pop0) <;> walk_at "e"))
local macro_rules | `(tactic| walk_at "cmp2") => `(tactic| first | ((with_reducible apply inN) <;> walk_at "e") | ((with_reducible apply c_inD) <;> walk_at "e") | (with_reducible exact c_inDi) | (with_reducible exact c_ltT) | ((with_reducible apply c_rNe) <;> walk_at "e") | ((with_reducible apply c_rEq) <;> walk_at "e"))
local macro_rules | `(tactic| walk_at "idx2") => `(tactic| first | ((with_reducible apply x_D) <;> walk_at "e") | ((with_reducible apply x_DiN) <;> walk_at "e") | ((with_reducible apply x_Di) <;> walk_at "e"))
local macro_rules | `(tactic| walk_at "bin") => `(tactic| ((with_reducible apply o_addTI) <;> walk_at "e"))
/-- _law_walked: 2 8 -/
def lwalkedY : Sms :=
 .cons (.asg (.v 2) (.rep (.cons (.neg (.con (.int 1))) .nil) (.bi .len (.cons (.var 0) .nil))))
 (.cons (.asg (.v 3) (.rep (.cons (.con (.int 0)) .nil) (.bi .len (.cons (.var 0) .nil))))
 (.cons (.for (.t [4, 5, 6]) (.ex (.var 1)) (.cons (.asg (.v 7) (.idx (.var 3) (.var 4)))
 (.cons (.iff (.bop false (.cons (.cmp .NotEq (.idx (.var 2) (.var 4)) (.neg (.con (.int 1)))) (.cons (.cmp .NotEq (.slc (.idx (.var 0) (.var 4)) (.cons (.var 7) .nil) (.cons (.bin .Add (.var 7) (.con (.int 1))) .nil)) (.tup (.cons (.var 5) .nil))) .nil))) (.cons (.ret (.con (.none))) .nil) (.nil))
 (.cons (.sub (.var 3) (.var 4) (.bin .Add (.idx (.var 3) (.var 4)) (.con (.int 1))))
 (.cons (.iff (.cmp .Eq (.var 6) (.con (.str "turns"))) (.cons (.sub (.var 2) (.mt .index (.var 2) (.cons (.var 5) .nil)) (.neg (.con (.int 1)))) .nil) (.nil))
 (.cons (.iff (.cmp .NotEq (.var 6) (.con (.str "no"))) (.cons (.sub (.var 2) (.var 4) (.var 5)) .nil) (.nil)) .nil))))))
 (.cons (.ret (.bi .tuple (.cons (.var 2) .nil))) .nil)))
/-- _law_no_better: 4 9 -/
def lnoBetterY : Sms :=
 .cons (.for (.t [4, 5]) (.enm (.var 0)) (.cons (.iff (.cmp .NotEq (.cmp .Eq (.idx (.var 2) (.var 4)) (.neg (.con (.int 1)))) (.cmp .Eq (.idx (.var 3) (.var 4)) (.neg (.con (.int 1))))) (.cons (.ret (.con (.bool false))) .nil) (.nil))
 (.cons (.asg (.v 6) (.idx (.var 2) (.var 4)))
 (.cons (.iff (.bop true (.cons (.cmp .NotEq (.var 6) (.neg (.con (.int 1)))) (.cons (.cmp .Lt (.mt .index (.var 5) (.cons (.idx (.var 3) (.var 4)) .nil)) (.mt .index (.var 5) (.cons (.var 6) .nil))) .nil))) (.cons (.ret (.con (.bool false))) .nil) (.nil)) .nil))))
 (.cons (.for (.t [7, 8]) (.ex (.var 1)) (.cons (.iff (.cmp .NotEq (.cmp .In (.var 7) (.var 2)) (.cmp .In (.var 7) (.var 3))) (.cons (.ret (.con (.bool false))) .nil) (.nil))
 (.cons (.iff (.cmp .In (.var 7) (.var 2)) (.cons (.iff (.cmp .Lt (.mt .index (.var 8) (.cons (.mt .index (.var 2) (.cons (.var 7) .nil)) .nil)) (.mt .index (.var 8) (.cons (.mt .index (.var 3) (.cons (.var 7) .nil)) .nil))) (.cons (.ret (.con (.bool false))) .nil) (.nil)) .nil) (.nil)) .nil)))
 (.cons (.ret (.con (.bool true))) .nil))
instance : Fd P "is_number" isNumY 1 1 := ⟨⟨g0, rfl, rfl, rfl, rfl⟩⟩
instance : Fd P "wished_by" wishedByY 2 4 := ⟨⟨g1, rfl, rfl, rfl, rfl⟩⟩
instance : Fd P "throne_of" throneOfY 2 4 := ⟨⟨g2, rfl, rfl, rfl, rfl⟩⟩
instance : Fd P "would_take" wouldTakeY 4 5 := ⟨⟨g3, rfl, rfl, rfl, rfl⟩⟩
instance : Fd P "would_give" wouldGiveY 3 3 := ⟨⟨g4, rfl, rfl, rfl, rfl⟩⟩
instance : Fd P "is_right" isRightY 3 5 := ⟨⟨g5, rfl, rfl, rfl, rfl⟩⟩
instance : Fd P "at_rest" atRestY 3 6 := ⟨⟨g6, rfl, rfl, rfl, rfl⟩⟩
instance : Fd P "next_throne" nextThroneY 4 5 := ⟨⟨g7, rfl, rfl, rfl, rfl⟩⟩
instance : Fd P "answer_of" answerOfY 4 5 := ⟨⟨g8, rfl, rfl, rfl, rfl⟩⟩
instance : Fd P "by_thrones" byThronesY 3 8 := ⟨⟨g9, rfl, rfl, rfl, rfl⟩⟩
instance : Fd P "next_asker" nextAskerY 2 3 := ⟨⟨g10, rfl, rfl, rfl, rfl⟩⟩
instance : Fd P "by_folk" byFolkY 2 7 := ⟨⟨g11, rfl, rfl, rfl, rfl⟩⟩
instance : Fd P "_law_take" takeY 2 4 := ⟨⟨g12, rfl, rfl, rfl, rfl⟩⟩
instance : Fd P "_law_drawn_order" ldrawnY 3 6 := ⟨⟨g13, rfl, rfl, rfl, rfl⟩⟩
instance : Fd P "_law_thrones" lthronesRY 3 10 := ⟨⟨g14, rfl, rfl, rfl, rfl⟩⟩
instance : Fd P "_law_walked" lwalkedY 2 8 := ⟨⟨g15, rfl, rfl, rfl, rfl⟩⟩
instance : Fd P "_law_no_better" lnoBetterY 4 9 := ⟨⟨g16, rfl, rfl, rfl, rfl⟩⟩
instance : Fd P "law" y17 1 12 := ⟨⟨g17, rfl, rfl, rfl, rfl⟩⟩

/-! ### the askings, one by one -/
inductive Tr (Os : List (List Int)) (Ws : List (Int × List Int)) : Qs → Prop
  | nil : Tr Os Ws (q0T Os)
  | step {q : Qs} {t : Int} : Tr Os Ws q → 0 ≤ t ∧ t < Os.length → fre Os q t = true → Tr Os Ws (stT Os Ws t q)
def rep (Os : List (List Int)) (Ws : List (Int × List Int)) (ak : List Ask) : Qs := ak.foldl (fun q a => stT Os Ws a.1 q) (q0T Os)
section
variable {Os : List (List Int)} {Ws : List (Int × List Int)} {T : List Int} {q F : Qs} {t w : Int}
theorem rep_snoc {pre : List Ask} {a : Ask} : rep Os Ws (pre ++ [a]) = stT Os Ws a.1 (rep Os Ws pre) := by unfold rep; rw [List.foldl_append]; rfl
theorem Tr.ok (ho : OW Os Ws) (h : Tr Os Ws q) : QOk Os Ws q := by
  induction h with
  | nil => exact q0_ok
  | step _ ht hf ih => exact stT_ok ho ih ht hf
theorem Tr.rep (h : Tr Os Ws q) : rep Os Ws q.ak = q := by
  induction h with
  | nil => rfl
  | step _ ht hf ih =>
    rename_i q t _
    show DL.k74.rep Os Ws (q.ak ++ [_]) = _
    rw [rep_snoc, ih]
theorem Tr.at (h : Tr Os Ws F) : ∀ (pre : List Ask) (a : Ask) (post : List Ask), F.ak = pre ++ a :: post → Tr Os Ws (DL.k74.rep Os Ws pre) ∧ (0 ≤ a.1 ∧ a.1 < Os.length) ∧ fre Os (DL.k74.rep Os Ws pre) a.1 = true ∧ a = (a.1, gt (gt Os a.1) (gt (DL.k74.rep Os Ws pre).as a.1), wdT Ws (DL.k74.rep Os Ws pre).sh a.1 (gt (gt Os a.1) (gt (DL.k74.rep Os Ws pre).as a.1))) := by
  induction h with
  | nil => intro pre a post e; cases pre <;> cases e
  | step hq ht hf ih =>
    rename_i q t
    intro pre a post e
    have e : q.ak ++ [(t, gt (gt Os t) (gt q.as t), wdT Ws q.sh t (gt (gt Os t) (gt q.as t)))] = pre ++ a :: post := e
    rcases List.eq_nil_or_concat post with z | ⟨post', c, z⟩
    · subst z
      obtain ⟨e1, e2⟩ := List.append_inj' e rfl
      subst e1
      rw [hq.rep]
      cases e2
      exact ⟨hq, ht, hf, rfl⟩
    · subst z
      have e' : q.ak ++ [(t, gt (gt Os t) (gt q.as t), wdT Ws q.sh t (gt (gt Os t) (gt q.as t)))] = (pre ++ a :: post') ++ [c] := by rw [e]; simp
      obtain ⟨e1, _⟩ := List.append_inj' e' rfl
      exact ih pre a post' e1
theorem fin_tr (ho : OW Os Ws) (hT : ∀ t ∈ T, 0 ≤ t ∧ t < Os.length) : ∀ {n : Nat} {q : Qs}, Tr Os Ws q → muT Os q.as ≤ n → Tr Os Ws (finT Os Ws T (muT Os q.as) q)
  | n, q, hq, hm => by
    by_cases hc : nxT Os T q = -1
    · rw [finT_end hc]; exact hq
    · obtain ⟨h1, h2⟩ := nxT_some hc
      rw [finT_step hT (hq.ok ho) hc]
      have hmu := stT_mu (hq.ok ho) (hT _ h1) h2
      cases n with
      | zero => omega
      | succ n => exact fin_tr ho hT (n := n) (.step hq (hT _ h1) h2) (by omega)
/-- the thrones' asking, to its end -/
def endT (Os : List (List Int)) (Ws : List (Int × List Int)) (T : List Int) : Qs := finT Os Ws T (muT Os (q0T Os).as) (q0T Os)
def endF (Os : List (List Int)) (Ws : List (Int × List Int)) : Fq := finF Os Ws (muT (alF Os Ws) (q0F Os Ws).pc) (q0F Os Ws)
theorem gt_ext {A B : List Int} (hl : A.length = B.length) (h : ∀ t : Int, 0 ≤ t → t < A.length → gt A t = gt B t) : A = B := by
  apply List.ext_getElem?
  intro i
  by_cases hi : i < A.length
  · rw [gt_at i hi, gt_at i (by omega), h (i : Int) (by omega) (by omega)]
  · rw [List.getElem?_eq_none (by omega), List.getElem?_eq_none (by omega)]
theorem same (ho : OW Os Ws) {A B : List Int} (hA : A.length = Os.length) (hB : B.length = Os.length) (sA : (mkT Os Ws).Stb (relT A)) (sB : (mkT Os Ws).Stb (relT B)) (oA : ∀ M t w, (mkT Os Ws).Stb M → M t w → ∃ v, relT A t v ∧ (gt Os t).idxOf v ≤ (gt Os t).idxOf w) (oB : ∀ M t w, (mkT Os Ws).Stb M → M t w → ∃ v, relT B t v ∧ (gt Os t).idxOf v ≤ (gt Os t).idxOf w) : A = B := by
  refine gt_ext (by omega) fun t h1 h2 => ?_
  by_cases e : gt A t = -1
  · by_cases e2 : gt B t = -1
    · rw [e, e2]
    · obtain ⟨v, hv, _⟩ := oA _ t (gt B t) sB ⟨⟨h1, by omega⟩, rfl, e2⟩
      exact absurd (hv.2.1.symm.trans e) hv.2.2
  · obtain ⟨v, hv, i1⟩ := oB _ t (gt A t) sA ⟨⟨h1, h2⟩, rfl, e⟩
    obtain ⟨u, hu, i2⟩ := oA _ t v sB hv
    have e3 : u = gt A t := hu.2.1.symm
    rw [e3] at i2
    have hm : gt A t ∈ gt Os t := (sA.r.dom (p := t) (a := gt A t) ⟨⟨h1, h2⟩, rfl, e⟩).2.1
    have := idx_inj hm (b := v) (by omega)
    rw [this]
    exact hv.2.1.symm
/-- both at rest, one best for thrones, one best for folk -/
structure Two (Os : List (List Int)) (Ws : List (Int × List Int)) (A B : List Int) : Prop where
  lA : A.length = Os.length
  lB : B.length = Os.length
  bare : ∀ t : Int, 0 ≤ t → t < Os.length → (gt A t = -1 ↔ gt B t = -1)
  thr : ∀ t : Int, 0 ≤ t → t < Os.length → gt A t ≠ -1 → gt A t ∈ gt Os t ∧ gt B t ∈ gt Os t ∧ (gt Os t).idxOf (gt A t) ≤ (gt Os t).idxOf (gt B t)
  mem : ∀ w : Int, w ≠ -1 → (w ∈ A ↔ w ∈ B)
  flk : ∀ w : Int, w ≠ -1 → w ∈ A → (A.idxOf w : Int) ∈ wsh Ws w ∧ (B.idxOf w : Int) ∈ wsh Ws w ∧ (wsh Ws w).idxOf (B.idxOf w : Int) ≤ (wsh Ws w).idxOf (A.idxOf w : Int)
theorem gvn_nd {A : List Int} (r : (mkT Os Ws).Rgt (relT A)) : (gvn A).Nodup := by
  have key : ∀ {L : List Int}, (∀ (i j : Nat) (w : Int), L[i]? = some w → L[j]? = some w → w ≠ -1 → i = j) → (gvn L).Nodup := by
    intro L
    induction L with
    | nil => intro _; exact List.nodup_nil
    | cons a L ih =>
      intro h
      have h2 := ih fun i j w e1 e2 hw => by have := h (i + 1) (j + 1) w e1 e2 hw; omega
      unfold gvn at h2 ⊢
      by_cases e : a = -1
      · rw [List.filter_cons_of_neg (by simpa using e)]; exact h2
      · rw [List.filter_cons_of_pos (by simpa using e)]
        refine List.nodup_cons.mpr ⟨fun hm => ?_, h2⟩
        obtain ⟨j, hj⟩ := List.mem_iff_getElem?.mp (List.mem_filter.mp hm).1
        have := h 0 (j + 1) a rfl hj e
        omega
  refine key fun i j w e1 e2 hw => ?_
  have i1 := (List.getElem?_eq_some_iff.mp e1).1
  have i2 := (List.getElem?_eq_some_iff.mp e2).1
  have := r.inj (p := (i : Int)) (q := (j : Int)) (a := w) ⟨⟨by omega, by omega⟩, gt_nat e1, hw⟩ ⟨⟨by omega, by omega⟩, gt_nat e2, hw⟩
  omega
theorem two (ho : OW Os Ws) {A B : List Int} (hA : A.length = Os.length) (hB : B.length = Os.length) (sA : (mkT Os Ws).Stb (relT A)) (sB : (mkT Os Ws).Stb (relT B)) (oA : ∀ M t w, (mkT Os Ws).Stb M → M t w → ∃ v, relT A t v ∧ (gt Os t).idxOf v ≤ (gt Os t).idxOf w) (oB : ∀ M w t, (mkF Os Ws).Stb M → M w t → ∃ v, relF B w v ∧ (flw Os Ws w).idxOf v ≤ (flw Os Ws w).idxOf t) : Two Os Ws A B := by
  have hBA : ∀ t : Int, 0 ≤ t → t < Os.length → gt B t ≠ -1 → gt A t ≠ -1 := fun t h1 h2 e z => by
    obtain ⟨v, hv, _⟩ := oA _ t (gt B t) sB ⟨⟨h1, by omega⟩, rfl, e⟩
    exact hv.2.2 (hv.2.1.symm.trans z)
  have hmAB : ∀ w : Int, w ≠ -1 → w ∈ A → w ∈ B := fun w hw hm => by
    obtain ⟨z1, z2, z3, _⟩ := thr_some hm
    obtain ⟨v, hv, _⟩ := oB _ w (DL.thr A w) ((stb_iff ho).mp sA) ⟨⟨z1, z2⟩, z3, hw⟩
    rw [← hv.2.1]
    exact gt_mem hv.1
  have c1 : (gvn B).length ≤ (gvn A).length := gvn_le (by omega) fun i x y e1 e2 hx hy => by
    have i1 := (List.getElem?_eq_some_iff.mp e1).1
    refine hBA (i : Int) (by omega) (by omega) ?_ ?_
    · rw [gt_nat e1]; exact hx
    · rw [gt_nat e2]; exact hy
  have c2 : (gvn A).length ≤ (gvn B).length := nd_len (gvn_nd sA.r) fun x hx => by
    obtain ⟨z1, z2⟩ := gvn_mem.mp hx
    exact gvn_mem.mpr ⟨hmAB x z2 z1, z2⟩
  have hAB : ∀ t : Int, 0 ≤ t → t < Os.length → gt A t ≠ -1 → gt B t ≠ -1 := fun t h1 h2 e => by
    refine gvn_back (A := B) (B := A) (by omega) (fun i x y e1 e2 hx hy => ?_) c2 t.toNat _ _ (gt_get (by omega)) (gt_get (by omega)) e
    have i1 := (List.getElem?_eq_some_iff.mp e1).1
    refine hBA (i : Int) (by omega) (by omega) ?_ ?_
    · rw [gt_nat e1]; exact hx
    · rw [gt_nat e2]; exact hy
  have hmBA : ∀ w : Int, w ≠ -1 → w ∈ B → w ∈ A := fun w hw hm => (gvn_mem.mp (nd_back (gvn_nd sA.r) (gvn_nd sB.r) (fun x hx => by
    obtain ⟨z1, z2⟩ := gvn_mem.mp hx
    exact gvn_mem.mpr ⟨hmAB x z2 z1, z2⟩) c1 w (gvn_mem.mpr ⟨hm, hw⟩))).1
  refine ⟨hA, hB, fun t h1 h2 => ⟨fun e => Classical.byContradiction fun z => hBA t h1 h2 z e, fun e => Classical.byContradiction fun z => hAB t h1 h2 z e⟩, fun t h1 h2 e => ?_, fun w hw => ⟨hmAB w hw, hmBA w hw⟩, fun w hw hm => ?_⟩
  · have e2 := hAB t h1 h2 e
    obtain ⟨v, hv, i1⟩ := oA _ t (gt B t) sB ⟨⟨h1, by omega⟩, rfl, e2⟩
    have ev : v = gt A t := hv.2.1.symm
    rw [ev] at i1
    exact ⟨(sA.r.dom (p := t) (a := gt A t) ⟨⟨h1, by omega⟩, rfl, e⟩).2.1, (sB.r.dom (p := t) (a := gt B t) ⟨⟨h1, by omega⟩, rfl, e2⟩).2.1, i1⟩
  · obtain ⟨z1, z2, z3, z4⟩ := thr_some hm
    obtain ⟨y1, y2, y3, y4⟩ := thr_some (hmAB w hw hm)
    have rA : relF A w (DL.thr A w) := ⟨⟨z1, z2⟩, z3, hw⟩
    have rB : relF B w (DL.thr B w) := ⟨⟨y1, y2⟩, y3, hw⟩
    have fA := ((rgt_iff ho).mp sA.r).dom rA
    have fB := ((rgt_iff ho).mp sB.r).dom rB
    obtain ⟨v, hv, i1⟩ := oB _ w (DL.thr A w) ((stb_iff ho).mp sA) rA
    have ev : v = DL.thr B w := ((rgt_iff ho).mp sB.r).fn hv rB
    rw [ev] at i1
    have i2 : ¬ (wsh Ws w).idxOf (DL.thr A w) < (wsh Ws w).idxOf (DL.thr B w) := fun z => by
      have := (idx_filter (f := fun t => decide (w ∈ gt Os t)) fA.2.1 fB.2.1).mpr z
      have : (flw Os Ws w).idxOf (DL.thr A w) < (flw Os Ws w).idxOf (DL.thr B w) := this
      omega
    rw [← z4, ← y4]
    exact ⟨(flw_mem.mp fA.2.1).1, (flw_mem.mp fB.2.1).1, by omega⟩
theorem endT_all (ho : OW Os Ws) (hT : ∀ t ∈ T, 0 ≤ t ∧ t < Os.length) (hT2 : ∀ t : Int, 0 ≤ t ∧ t < Os.length → t ∈ T) : QOk Os Ws (endT Os Ws T) ∧ (mkT Os Ws).Stb (relT (endT Os Ws T).sh) ∧ ∀ M t w, (mkT Os Ws).Stb M → M t w → ∃ v, relT (endT Os Ws T).sh t v ∧ (gt Os t).idxOf v ≤ (gt Os t).idxOf w := finT_all ho hT hT2 q0_ok q0_inv (Nat.le_refl _)
theorem endF_all (ho : OW Os Ws) : FOk Os Ws (endF Os Ws) ∧ (mkF Os Ws).Stb (relF (endF Os Ws).sh) ∧ ∀ M w t, (mkF Os Ws).Stb M → M w t → ∃ v, relF (endF Os Ws).sh w v ∧ (flw Os Ws w).idxOf v ≤ (flw Os Ws w).idxOf t := finF_all ho q0F_ok q0F_inv (Nat.le_refl _)
end
/-! ### the law's defs -/
section
variable {k : Nat} {S R : Mem} {Os : List (List Int)} {Ws : List (Int × List Int)} {T A B : List Int} {q F : Qs} {t w : Int} {nn : List Int} {st : Dst}
theorem cutA_at {L : List Int} {a : Int} (h : 0 ≤ a ∧ a < L.length) : cutA L (some a) (some (a + 1)) = [gt L a] := by
  obtain ⟨n, rfl⟩ : ∃ n : Nat, a = n := ⟨a.toNat, by omega⟩
  have h1 : ¬ ((n : Int) < 0) := by omega
  have h2 : ¬ ((n : Int) + 1 < 0) := by omega
  have h3 : n < L.length := by omega
  have e1 := gt_at n h3
  obtain ⟨_, e2⟩ := List.getElem?_eq_some_iff.mp e1
  unfold cutA HT.sIx
  simp only [h1, h2, if_false]
  have e3 : min (n : Int).toNat L.length = n := by omega
  have e4 : min ((n : Int) + 1).toNat L.length = n + 1 := by omega
  rw [e3, e4, show n + 1 - n = 1 by omega, List.drop_eq_getElem_cons h3, e2]
  rfl
theorem lwalked_c (hk : 1 ≤ k) (ho : OW Os Ws) (hF : Tr Os Ws F) (hFl : F.ak.length ≤ 1000) :
    callF P k "_law_walked" [.im (.tuple (Os.map orP)), .im (.tuple (F.ak.map askP))] S = .ok (.im (.tuple (F.sh.map PyData.int))) S := by
  have n6 := ho.n6
  refine call_q (inferInstance : Fd P "_law_walked" lwalkedY 2 8) rfl (by omega) ?_
  simp only [lwalkedY, List.map, List.map_cons, List.map_nil, List.length_cons, List.length_nil, List.replicate, List.cons_append, List.nil_append, Nat.reduceSub, Nat.reduceAdd]
  refine w_asg (v_rep (vs_cons (v_neg v_con o_neg) vs_nil) (v_bi (vs_cons (v_var rfl) vs_nil) b_lenTm) (rep_1 (by unfold Must; omega) rfl rfl)) rfl ?_
  simp only [List.set_cons_zero, List.set_cons_succ]
  refine w_asg (v_rep (vs_cons v_con vs_nil) (v_bi (vs_cons (v_var rfl) vs_nil) b_lenTm) (rep_1 (by unfold Must; omega) rfl rfl)) rfl ?_
  simp only [List.set_cons_zero, List.set_cons_succ, List.append_assoc, List.cons_append, List.nil_append, List.length_append, List.length_cons, List.length_nil, Int.toNat_natCast]
  have e0 : (List.replicate Os.length (PyData.int (-1))) = (q0T Os).sh.map PyData.int := by unfold q0T; rw [List.map_replicate]
  have e1 : (List.replicate Os.length (PyData.int 0)) = (q0T Os).as.map PyData.int := by unfold q0T; rw [List.map_replicate]
  rw [e0, e1]
  refine w_for (L := F.ak) (enc := fun a => .im (askP a)) (S1 := S ++ [.lst ((q0T Os).sh.map PyData.int), .lst ((q0T Os).as.map PyData.int)]) (vi_ex (v_var rfl) k_exT) (fun pre e S' => ∃ (e4 e5 e6 e7 : Option D), e = [some (.im (.tuple (Os.map orP))), some (.im (.tuple (F.ak.map askP))), some (.rf S.length), some (.rf (S.length + 1)), e4, e5, e6, e7] ∧ S' = S ++ [.lst ((rep Os Ws pre).sh.map PyData.int), .lst ((rep Os Ws pre).as.map PyData.int)]) ⟨_, _, _, _, rfl, rfl⟩ ?_ ?_
  · rintro pre a post e S' hL ⟨e4, e5, e6, e7, rfl, rfl⟩
    obtain ⟨g1, ht, hf, ha⟩ := hF.at pre a post hL
    have hq := g1.ok ho
    have hrs : rep Os Ws (pre ++ [a]) = stT Os Ws a.1 (rep Os Ws pre) := rep_snoc
    rw [hrs]
    clear hrs
    generalize rep Os Ws pre = q at hf ha hq
    obtain ⟨f1, f2⟩ := fre_iff.mp hf
    have h0 := hq.a0 a.1 ht.1 ht.2
    have hw := (ho.og ht).2.2 _ (gt_mem ⟨h0, f2⟩)
    have hcut := cutA_at (L := gt Os a.1) (a := gt q.as a.1) ⟨h0, f2⟩
    have hst2 : stT Os Ws a.1 q = ⟨shT Ws q.sh a.1 (gt (gt Os a.1) (gt q.as a.1)), q.as.set a.1.toNat (gt q.as a.1 + 1), q.ak ++ [(a.1, gt (gt Os a.1) (gt q.as a.1), wdT Ws q.sh a.1 (gt (gt Os a.1) (gt q.as a.1)))]⟩ := rfl
    rw [hst2]
    have hsl := hq.sl
    generalize gt (gt Os a.1) (gt q.as a.1) = w at ha hw hcut
    obtain ⟨t, w', wd⟩ := a
    have e2 : w' = w := congrArg (fun x : Ask => x.2.1) ha
    have e3 : wd = wdT Ws q.sh t w := congrArg (fun x : Ask => x.2.2) ha
    subst e2
    dsimp only at ht f1 f2 h0 hcut
    refine ⟨_, rfl, ?_⟩
    simp only [DL.setAll, List.set_cons_zero, List.set_cons_succ]
    refine w_asg (v_idx (v_var rfl) (v_var rfl) (x_R mg1 (x_L (by unfold Must; rw [hq.al]; exact ht)))) rfl ?_
    simp only [List.set_cons_zero, List.set_cons_succ]
    refine w_iff (p := false) (v_bop (vb_or (p := false) (q := false) (v_cmp (v_idx (v_var rfl) (v_var rfl) (x_R mg0 (x_L (by unfold Must; rw [hsl]; exact ht)))) (v_neg v_con o_neg) (by rw [c_neI, f1]; rfl)) fun _ => vb_one (v_cmp (v_slc (v_idx (v_var rfl) (v_var rfl) (x_T ht)) (vs_cons (v_var rfl) vs_nil) rfl (vs_cons (v_bin (v_var rfl) v_con o_addI) vs_nil) rfl (by rw [show orP (gt Os t) = .tuple ((gt Os t).map PyData.int) from rfl, s_T, hcut])) (v_tup (vs_cons (v_var rfl) vs_nil) rfl) (by rw [show PyData.tuple [.int w'] = .tuple ([w'].map PyData.int) from rfl, c_neT]; simp)))) (fun hq => Bool.noConfusion hq) (fun _ => w_nil ?_)
    refine w_sub (v_bin (v_idx (v_var rfl) (v_var rfl) (x_R mg1 (x_L (by unfold Must; rw [hq.al]; exact ht)))) v_con o_addI) (v_var rfl) (v_var rfl) (sd_L (p := .int (gt q.as t + 1)) mg1 (by unfold Must; rw [List.length_map, hq.al]; exact ht) ms1) ?_
    rw [← List.map_set]
    have hthr : w' ∈ q.sh → thr q.sh w' ≠ -1 ∧ thr q.sh w' = (q.sh.idxOf w' : Int) ∧ (0 ≤ thr q.sh w' ∧ thr q.sh w' < Os.length) ∧ thr q.sh w' ≠ t := fun hm => by
      obtain ⟨z1, z2, z3, z4⟩ := thr_some hm
      rw [hsl] at z2
      exact ⟨by omega, z4, ⟨z1, z2⟩, fun e => by rw [e, f1] at z3; omega⟩
    have last : ∀ (sh1 : List Int), sh1.length = Os.length → (if wd = "no" then sh1 else sh1.set t.toNat w') = shT Ws q.sh t w' → ∀ K2 : Ks, (K2.nx [some (.im (.tuple (Os.map orP))), some (.im (.tuple (F.ak.map askP))), some (.rf S.length), some (.rf (S.length + 1)), some (.im (.int t)), some (.im (.int w')), some (.im (.str wd)), some (.im (.int (gt q.as t)))] (S ++ [.lst ((shT Ws q.sh t w').map PyData.int), .lst ((q.as.set t.toNat (gt q.as t + 1)).map PyData.int)])) →
        wps (execs (callF P (k - 1)) (.cons (.iff (.cmp .NotEq (.var 6) (.con (.str "no"))) (.cons (.sub (.var 2) (.var 4) (.var 5)) .nil) (.nil)) .nil) [some (.im (.tuple (Os.map orP))), some (.im (.tuple (F.ak.map askP))), some (.rf S.length), some (.rf (S.length + 1)), some (.im (.int t)), some (.im (.int w')), some (.im (.str wd)), some (.im (.int (gt q.as t)))] (S ++ [.lst (sh1.map PyData.int), .lst ((q.as.set t.toNat (gt q.as t + 1)).map PyData.int)])) K2 := fun sh1 hl1 he K2 hK => by
      refine w_iff (v_cmp (v_var rfl) v_con c_neS) (fun hq1 => ?_) (fun hq1 => w_nil ?_)
      · have hne : wd ≠ "no" := by simpa using hq1
        rw [if_neg hne] at he
        refine w_sub (v_var rfl) (v_var rfl) (v_var rfl) (sd_L (p := .int w') mg0 (by unfold Must; rw [List.length_map, hl1]; exact ht) ms0) (w_nil (Φ := callF P (k - 1)) (w_nil (Φ := callF P (k - 1)) ?_))
        rw [← List.map_set, he]
        exact hK
      · have he2 : wd = "no" := by simpa using hq1
        rw [if_pos he2] at he
        rw [he]
        exact w_nil (Φ := callF P (k - 1)) hK
    refine w_iff (v_cmp (v_var rfl) v_con c_eqS) (fun hq1 => ?_) (fun hq1 => w_nil ?_)
    · have hwd : wd = "turns" := by simpa using hq1
      have hw2 := e3.symm.trans hwd
      unfold wdT at hw2
      split at hw2
      case isFalse => exact absurd hw2 (by decide)
      rename_i c1
      split at hw2
      · exact absurd hw2 (by decide)
      rename_i c2
      have hm : w' ∈ q.sh := Classical.byContradiction fun z => c2 (thr_iff.mpr z)
      obtain ⟨z1, z2, z4, z5⟩ := hthr hm
      refine w_sub (v_neg v_con o_neg) (v_var rfl) (v_mt (v_var rfl) (r_idx (seq_R mg0)) (vs_cons (v_var rfl) vs_nil) (midxR mg0 hm)) (sd_L (p := .int (-1)) mg0 (by unfold Must; rw [List.length_map, hsl, ← z2]; exact z4) ms0) (w_nil ?_)
      rw [← List.map_set, ← z2]
      refine last _ (by rw [List.length_set]; exact hsl) ?_ _ ⟨_, _, _, _, rfl, rfl⟩
      rw [hwd, if_neg (by decide)]
      unfold shT
      rw [if_pos c1, if_neg c2, List.set_comm _ _ (by omega)]
    · have hwd : wd ≠ "turns" := by simpa using hq1
      refine last q.sh hsl ?_ _ ⟨_, _, _, _, rfl, rfl⟩
      rw [e3] at hwd ⊢
      unfold wdT at hwd ⊢
      unfold shT
      by_cases c1 : wtk Ws w' t (thr q.sh w') = true
      · rw [if_pos c1] at hwd ⊢
        rw [if_pos c1]
        by_cases c2 : thr q.sh w' = -1
        · rw [if_pos c2, if_pos c2, if_neg (by decide)]
        · rw [if_neg c2] at hwd
          exact absurd rfl hwd
      · rw [if_neg c1, if_neg c1, if_pos rfl]
  · rintro e S' ⟨e4, e5, e6, e7, rfl, rfl⟩
    rw [hF.rep]
    exact w_ret (v_bi (vs_cons (v_var rfl) vs_nil) (b_tupR mg0)) ⟨rfl, List.take_left ..⟩
theorem lnoBetter_c (hk : 1 ≤ k) (ho : OW Os Ws) (h : Two Os Ws A B) :
    callF P k "_law_no_better" [.im (.tuple (Os.map orP)), .im (.tuple (Ws.map wsP)), .im (.tuple (A.map PyData.int)), .im (.tuple (B.map PyData.int))] S = .ok (.im (.bool true)) S := by
  refine call_q (inferInstance : Fd P "_law_no_better" lnoBetterY 4 9) rfl (by omega) ?_
  simp only [lnoBetterY, List.map, List.map_cons, List.map_nil, List.length_cons, List.length_nil, List.replicate, List.cons_append, List.nil_append, Nat.reduceSub, Nat.reduceAdd]
  refine w_for (L := enm Os) (enc := fun e => .im (.tuple [.int e.1, orP e.2])) (S1 := S) (vi_enm (v_var rfl) k_enmT) (fun pre e S' => ∃ (e4 e5 e6 : Option D), e = [some (.im (.tuple (Os.map orP))), some (.im (.tuple (Ws.map wsP))), some (.im (.tuple (A.map PyData.int))), some (.im (.tuple (B.map PyData.int))), e4, e5, e6, none, none] ∧ S' = S) ⟨_, _, _, rfl, rfl⟩ ?_ ?_
  · rintro pre x post e S' hL ⟨e4, e5, e6, rfl, hS⟩
    obtain rfl : S = S' := hS.symm
    obtain ⟨x1, x2, x3, x4⟩ := enm_mem (show x ∈ enm Os by rw [hL]; simp)
    have hA : 0 ≤ x.1 ∧ x.1 < A.length := by have := h.lA; omega
    have hB : 0 ≤ x.1 ∧ x.1 < B.length := by have := h.lB; omega
    have hb := h.bare x.1 x1 x2
    refine ⟨_, rfl, ?_⟩
    refine w_iff (p := false) (v_cmp (v_cmp (v_idx (v_var rfl) (v_var rfl) (x_T hA)) (v_neg v_con o_neg) c_eqI) (v_cmp (v_idx (v_var rfl) (v_var rfl) (x_T hB)) (v_neg v_con o_neg) c_eqI) (by
      rw [c_neB]
      by_cases z : gt A x.1 = -1
      · simp [z, hb.mp z]
      · have z2 : ¬ gt B x.1 = -1 := fun y => z (hb.mpr y)
        simp [z, z2])) (fun hq => Bool.noConfusion hq) (fun _ => w_nil ?_)
    refine w_asg (v_idx (v_var rfl) (v_var rfl) (x_T hA)) rfl ?_
    try simp only [List.set_cons_zero, List.set_cons_succ]
    have ht := h.thr x.1 x1 x2
    rw [← x3] at ht
    refine w_iff (p := !decide (gt A x.1 = -1) && decide ((x.2.idxOf (gt B x.1) : Int) < x.2.idxOf (gt A x.1))) (v_bop (vb_and (v_cmp (v_var rfl) (v_neg v_con o_neg) c_neI) fun hq => vb_one (v_cmp (v_mt (v_var rfl) (r_idx seq_T) (vs_cons (v_idx (v_var rfl) (v_var rfl) (x_T hB)) vs_nil) (m_idxT (ht (by simpa using hq)).2.1)) (v_mt (v_var rfl) (r_idx seq_T) (vs_cons (v_var rfl) vs_nil) (m_idxT (ht (by simpa using hq)).1)) c_ltI))) (fun hq => ?_) (fun hq => w_nil ?_)
    · rw [Bool.and_eq_true] at hq
      have := (ht (by simpa using hq.1)).2.2
      have := of_decide_eq_true hq.2
      omega
    · exact w_nil (Φ := callF P (k - 1)) ⟨_, _, _, rfl, rfl⟩
  · rintro e S' ⟨e4, e5, e6, rfl, hS⟩
    obtain rfl : S = S' := hS.symm
    refine w_for (L := Ws) (enc := fun e => .im (wsP e)) (S1 := S) (vi_ex (v_var rfl) k_exT) (fun pre e S' => ∃ (e7 e8 : Option D), e = [some (.im (.tuple (Os.map orP))), some (.im (.tuple (Ws.map wsP))), some (.im (.tuple (A.map PyData.int))), some (.im (.tuple (B.map PyData.int))), e4, e5, e6, e7, e8] ∧ S' = S) ⟨_, _, rfl, rfl⟩ ?_ ?_
    · rintro pre x post e S' hL ⟨e7, e8, rfl, hS⟩
      obtain rfl : S = S' := hS.symm
      have hx : x ∈ Ws := by rw [hL]; simp
      have hk := (ho.ww x hx).1
      have hm := h.mem x.1 (by omega)
      have hwe := ho.wsE hx
      have hfl := h.flk x.1 (by omega)
      rw [hwe] at hfl
      refine ⟨_, rfl, ?_⟩
      refine w_iff (p := false) (v_cmp (v_cmp (v_var rfl) (v_var rfl) c_inT) (v_cmp (v_var rfl) (v_var rfl) c_inT) (by
        rw [c_neB]
        by_cases z : x.1 ∈ A
        · simp [z, hm.mp z]
        · have z2 : ¬ x.1 ∈ B := fun y => z (hm.mpr y)
          simp [z, z2])) (fun hq => Bool.noConfusion hq) (fun _ => w_nil ?_)
      refine w_iff (v_cmp (v_var rfl) (v_var rfl) c_inT) (fun hq => ?_) (fun hq => w_nil ?_)
      · have hq := of_decide_eq_true hq
        obtain ⟨y1, y2, y3⟩ := hfl hq
        refine w_iff (p := false) (v_cmp (v_mt (v_var rfl) (r_idx seq_T) (vs_cons (v_mt (v_var rfl) (r_idx seq_T) (vs_cons (v_var rfl) vs_nil) (m_idxT hq)) vs_nil) (m_idxT y1)) (v_mt (v_var rfl) (r_idx seq_T) (vs_cons (v_mt (v_var rfl) (r_idx seq_T) (vs_cons (v_var rfl) vs_nil) (m_idxT (hm.mp hq))) vs_nil) (m_idxT y2)) (by rw [c_ltI, decide_eq_false (by omega)])) (fun hq => Bool.noConfusion hq) (fun _ => w_nil ?_)
        exact w_nil (Φ := callF P (k - 1)) (w_nil (Φ := callF P (k - 1)) ⟨_, _, rfl, rfl⟩)
      · exact w_nil (Φ := callF P (k - 1)) ⟨_, _, rfl, rfl⟩
    · rintro e S' ⟨e7, e8, rfl, hS⟩
      obtain rfl : S = S' := hS.symm
      exact w_ret v_con ⟨rfl, List.take_length ..⟩
theorem law_ok (nn : List Int) (hn : nn.length ≤ 63) : ∃ S', callF P 14 "law" [.im (.list (nn.map PyData.int))] [] = .ok (.im (.bool true)) S' := by
  have key : ∃ d S', callF P 14 "law" [.im (.list (nn.map PyData.int))] [] = .ok d S' ∧ d = .im (.bool true) := by
    refine call_x (inferInstance : Fd P "law" y17 1 12) rfl (by omega) ?_
    simp only [y17, List.map, List.map_cons, List.map_nil, List.length_cons, List.length_nil, List.replicate, List.cons_append, List.nil_append, Nat.reduceSub, Nat.reduceAdd]
    refine w_asg (v_mls (vs_cons (v_var rfl) (vs_cons v_con (vs_cons v_con (vs_cons v_con vs_nil)))) rfl rfl rfl) rfl ?_
    simp only [List.set_cons_zero, List.set_cons_succ, List.length_nil, List.nil_append]
    refine w_for (L := upto 3) (enc := fun i => .im (.int i)) (S1 := Sd nn ⟨0, 0, 74, by omega, by omega, by omega⟩ []) (vi_rng (vs_cons v_con vs_nil) (k_rngN (n := 3) (by unfold Must; omega))) (fun pre e S' => ∃ (st : Dst) (e2 e3 e4 e5 e6 e7 e8 e9 e10 e11 : Option D), e = [some (.im (.list (nn.map PyData.int))), some (.rf 0), e2, e3, e4, e5, e6, e7, e8, e9, e10, e11] ∧ S' = Sd nn st []) ⟨_, _, _, _, _, _, _, _, _, _, _, rfl, rfl⟩ ?_ ?_
    · rintro pre x post e S' hL ⟨st, e2, e3, e4, e5, e6, e7, e8, e9, e10, e11, rfl, rfl⟩
      refine ⟨_, rfl, ?_⟩
      simp only [List.set_cons_zero, List.set_cons_succ]
      obtain ⟨v, S1, c1, Os, Ws, st1, rfl, rfl, ho⟩ := lthronesR_x (P := P) (k := 13) (ns := nn) (st := st) (R := []) (b := 6) (m := 12) (by omega) (by omega) (by omega)
      have n6 := ho.n6
      refine w_asg (v_call (vs_cons (v_var rfl) (vs_cons v_con (vs_cons v_con vs_nil))) c1) rfl ?_
      simp only [DL.setAll, List.set_cons_zero, List.set_cons_succ]
      refine w_asg (v_bi (vs_cons (v_var rfl) vs_nil) b_lenTm) rfl ?_
      simp only [List.set_cons_zero, List.set_cons_succ]
      have hU : ∀ t ∈ upto Os.length, 0 ≤ t ∧ t < Os.length := fun t ht => upto_mem.mp ht
      have cb := byThrones_c (P := P) (k := 13) (S := Sd nn st1 []) (T := upto Os.length) (by omega) ho hU
      obtain ⟨q1, s1, o1⟩ := endT_all ho hU (fun t ht => upto_mem.mpr ht)
      obtain ⟨q2, s2, o2⟩ := endF_all ho
      have s2' := (stb_iff ho).mpr s2
      have htwo := two ho q1.sl q2.sl s1 s2' o1 o2
      refine w_asg (v_idx (v_call (vs_cons (v_var rfl) (vs_cons (v_var rfl) (vs_cons (v_lsr (vs_cons (v_var rfl) vs_nil) (kk_lsr (by unfold Must; omega))) vs_nil))) cb) v_con rfl) rfl ?_
      simp only [List.set_cons_zero, List.set_cons_succ]
      rw [show finT Os Ws (upto Os.length) (muT Os (q0T Os).as) (q0T Os) = endT Os Ws (upto Os.length) from rfl]
      generalize endT Os Ws (upto Os.length) = F at q1 s1 o1 htwo
      refine w_for (L := upto 5) (enc := fun i => .im (.int i)) (S1 := Sd nn st1 []) (vi_rng (vs_cons v_con vs_nil) (k_rngN (n := 5) (by unfold Must; omega))) (fun pre e S' => ∃ (st : Dst) (e5 e9 e10 e11 : Option D), e = [some (.im (.list (nn.map PyData.int))), some (.rf 0), some (.im (.int x)), some (.im (.int (Os.length : Int))), some (.im (.tuple (F.sh.map PyData.int))), e5, e6, some (.im (.tuple (Os.map orP))), some (.im (.tuple (Ws.map wsP))), e9, e10, e11] ∧ S' = Sd nn st []) ⟨_, _, _, _, _, rfl, rfl⟩ ?_ ?_
      · rintro pre2 y post2 e S' hL2 ⟨st2, e5, e9, e10, e11, rfl, rfl⟩
        obtain ⟨v, S2, c2, A, st3, rfl, rfl, d2⟩ := ldrawn_x (P := P) (k := 13) (ns := nn) (st := st2) (R := []) (L := upto Os.length) (m := Os.length) (p := .list ((upto Os.length).map PyData.int)) (by omega) (fun S => seq_L) (by rw [upto_len]; omega)
        have hA : ∀ t ∈ A, 0 ≤ t ∧ t < Os.length := fun t ht => upto_mem.mp (d2.sub t ht)
        have hA2 : ∀ t : Int, 0 ≤ t ∧ t < Os.length → t ∈ A := fun t ht => (d2.perm (by rw [upto_len]; exact Nat.le_refl _)).mem_iff.mpr (upto_mem.mpr ht)
        have cb2 := byThrones_c (P := P) (k := 13) (S := Sd nn st3 []) (T := A) (by omega) ho hA
        obtain ⟨q3, s3, o3⟩ := endT_all ho hA hA2
        have hmu : muT Os (q0T Os).as ≤ 72 := Nat.le_trans (muT_le (b := 12) fun o h => (ho.ol o h).1) (by omega)
        have htr : Tr Os Ws (endT Os Ws A) := fin_tr ho hA (.nil) (Nat.le_refl _)
        have hsame : (endT Os Ws A).sh = F.sh := same ho q3.sl q1.sl s3 s1 o3 o1
        have hakl : (endT Os Ws A).ak.length ≤ 1000 := by
          have key : ∀ {n : Nat} {q : Qs}, QOk Os Ws q → muT Os q.as ≤ n → q.ak.length + n ≤ 1000 → (finT Os Ws A (muT Os q.as) q).ak.length ≤ 1000 := by
            intro n
            induction n with
            | zero =>
              intro q hq hm hl
              by_cases hc : nxT Os A q = -1
              · rw [finT_end hc]; omega
              · obtain ⟨h1, h2⟩ := nxT_some hc
                have := stT_mu hq (hA _ h1) h2
                omega
            | succ n ih =>
              intro q hq hm hl
              by_cases hc : nxT Os A q = -1
              · rw [finT_end hc]; omega
              · obtain ⟨h1, h2⟩ := nxT_some hc
                have hmu := stT_mu hq (hA _ h1) h2
                rw [finT_step hA hq hc]
                refine ih (stT_ok ho hq (hA _ h1) h2) (by omega) ?_
                show (q.ak ++ [_]).length + n ≤ 1000
                simp
                omega
          exact key q0_ok hmu (by simp [q0T])
        have cw := lwalked_c (k := 13) (S := Sd nn st3 []) (by omega) ho htr hakl
        rw [hsame] at cw
        rw [show finT Os Ws A (muT Os (q0T Os).as) (q0T Os) = endT Os Ws A from rfl, hsame] at cb2
        refine ⟨_, rfl, ?_⟩
        simp only [List.set_cons_zero, List.set_cons_succ]
        refine w_asg (v_call (vs_cons (v_var rfl) (vs_cons (v_lsr (vs_cons (v_var rfl) vs_nil) (kk_lsr (by unfold Must; omega))) (vs_cons (v_var rfl) vs_nil))) c2) rfl ?_
        simp only [List.set_cons_zero, List.set_cons_succ]
        refine w_asg (v_call (vs_cons (v_var rfl) (vs_cons (v_var rfl) (vs_cons (v_var rfl) vs_nil))) cb2) rfl ?_
        simp only [DL.setAll, List.set_cons_zero, List.set_cons_succ]
        refine w_iff (p := false) (v_bop (vb_or (p := false) (q := false) (v_cmp (v_var rfl) (v_var rfl) (by rw [c_neT]; simp)) fun _ => vb_one (v_cmp (v_call (vs_cons (v_var rfl) (vs_cons (v_var rfl) vs_nil)) cw) (v_var rfl) (by rw [c_neT]; simp)))) (fun hq => Bool.noConfusion hq) (fun _ => w_nil (w_nil (Φ := callF P 13) ⟨_, _, _, _, _, rfl, rfl⟩))
      · rintro e S' ⟨st2, e5, e9, e10, e11, rfl, rfl⟩
        have cf := byFolk_c (P := P) (k := 13) (S := Sd nn st2 []) (by omega) ho
        rw [show finF Os Ws (muT (alF Os Ws) (q0F Os Ws).pc) (q0F Os Ws) = endF Os Ws from rfl] at cf
        generalize endF Os Ws = G at q2 s2 o2 s2' htwo cf
        have ca := atRest_c (P := P) (k := 13) (S := Sd nn st2 []) (M := F.sh) (by omega) ho (by rw [q1.sl]; omega)
        have cc := atRest_c (P := P) (k := 13) (S := Sd nn st2 []) (M := G.sh) (by omega) ho (by rw [q2.sl]; omega)
        rw [(rstB_iff ho).mpr ⟨q1.sl, s1⟩] at ca
        rw [(rstB_iff ho).mpr ⟨q2.sl, s2'⟩] at cc
        refine w_asg (v_call (vs_cons (v_var rfl) (vs_cons (v_var rfl) vs_nil)) cf) rfl ?_
        simp only [List.set_cons_zero, List.set_cons_succ]
        refine w_iff (p := false) (v_cmp (v_call (vs_cons (v_var rfl) (vs_cons (v_var rfl) (vs_cons (v_var rfl) vs_nil))) ca) v_con c_isnB) (fun hq => Bool.noConfusion hq) (fun _ => w_nil ?_)
        refine w_iff (p := false) (v_cmp (v_call (vs_cons (v_var rfl) (vs_cons (v_var rfl) (vs_cons (v_var rfl) vs_nil))) cc) v_con c_isnB) (fun hq => Bool.noConfusion hq) (fun _ => w_nil ?_)
        refine w_iff (p := false) (v_nt (v_call (vs_cons (v_var rfl) (vs_cons (v_var rfl) (vs_cons (v_var rfl) (vs_cons (v_var rfl) vs_nil)))) (lnoBetter_c (by omega) ho htwo)) rfl) (fun hq => Bool.noConfusion hq) (fun _ => w_nil (w_nil (Φ := callF P 13) ⟨st2, _, _, _, _, _, _, _, _, _, _, rfl, rfl⟩))
    · rintro e S' ⟨st, e2, e3, e4, e5, e6, e7, e8, e9, e10, e11, rfl, rfl⟩
      exact w_ret v_con rfl
  obtain ⟨d, S', h, rfl⟩ := key
  exact ⟨S', h⟩
end
end k74
end
end DL
open PySem PySem.W PyProof.Rows
theorem PySem.Challenge.cw_thronewalk_k74_whole_any_turn_holds : PySem.Challenge.rw_thronewalk_k74_whole_any_turn.Holds := by
  exact DL.k74.holds_of DL.k74.law_ok

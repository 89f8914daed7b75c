import PyProof.Rows.All
import Wide.All
import OpenK.AllK
import Wide.FinOn
import KE.KDictKeyed
import HandS.TupSets
import HandS.SetBool
import HandS.ForMost
import HandS.Flow
import HandS.IsInst
import HandS.TupAny
import HandS.Zip
import HandS.DictComp
import HandS.SortKw
import KE.SortKeyHeap
import HandS.Deep
import HandS.RaiseMore
import PyProof.Rows.MatchSeqLen
import PyProof.RulesMatch
import PySem.Challenge.RW_farenough_k02_keys_steps_and_places
set_option Elab.async false
set_option linter.all false
set_option maxRecDepth 100000
set_option maxHeartbeats 4000000
/-! FD0: small sets (up to four members) of tuples of texts, numbers, None, tuples: what adding does. -/
namespace FD
open PySem PySem.Spec PyProof.Rows L2
section
variable {P : Program} {w : World}
/-- at v no class statement of the program is met -/
def NoCls (P : Program) (w : World) (n : Nat) (s : Shared) (v : Value) : Prop := ∀ (A : Around) (E : Value → Shared → Prop) (Q : Bool → Shared → Prop), Q false s → wpAny (model P w) A (ofAClassStatement n v) Q E s
/-- the question whether v has its hash by value is answered, either way -/
def HasAns (P : Program) (w : World) (n : Nat) (s : Shared) (v : Value) : Prop := ∀ (A : Around) (E : Value → Shared → Prop) (Q : Bool → Shared → Prop), (∀ b, Q b s) → wpAny (model P w) A (hashByValue n v) Q E s
theorem noCls_tup {n : Nat} {s : Shared} {c : Addr} {ob : Obj} {vs : Array Value} {m : Nat} (hg : s.heap.get? c = some ob) (hc : ob.cls = .type "tuple") (hd : ob.data = .seq vs m) (h : ∀ v ∈ vs.toList, NoCls P w n s v) : NoCls P w (n + 1) s (.ref c) := fun A E Q q => by
  unfold ofAClassStatement
  refine wpAny_bind (wpAny_typeOf (⟨ob, hg, hc⟩ : s.TypeIs (.ref c) "tuple") ?_)
  simp only [show (("tuple" : String) == "tuple") = true from by decide, if_true, Bool.not_true, Bool.false_eq_true, if_false]
  try refine wpAny_bind (wpAny_pure ?_)
  try simp only [Bool.not_true, Bool.false_eq_true, if_false]
  show wpAny _ _ (seqItems? (.ref c) >>= _) _ _ s
  refine wpAny_bind (wpAny_seqItems hg hd (wpAny_bind ?_))
  show wpAny _ _ (forIn vs _ _) _ _ s
  rw [← Array.forIn_toList]
  refine wpAny_forIn_list _ (fun left z s1 => s1 = s ∧ z.1 = none ∧ ∀ v ∈ left, NoCls P w n s v) _ ?_ ?_ _ _ ⟨rfl, rfl, h⟩
  · rintro v left z s1 ⟨rfl, hz, hl⟩
    refine wpAny_bind (hl v List.mem_cons_self _ _ _ ?_)
    rw [if_neg (by decide)]
    exact wpAny_pure ⟨rfl, rfl, fun u hu => hl u (List.mem_cons_of_mem _ hu)⟩
  · rintro ⟨z1, z2⟩ s1 ⟨rfl, hz, _⟩
    cases (show z1 = none from hz)
    exact wpAny_pure q
theorem hasAns_tup {n : Nat} {s : Shared} {c : Addr} {ob : Obj} {vs : Array Value} {m : Nat} (hg : s.heap.get? c = some ob) (hc : ob.cls = .type "tuple") (hd : ob.data = .seq vs m) (h : ∀ v ∈ vs.toList, HasAns P w n s v) : HasAns P w (n + 1) s (.ref c) := fun A E Q q => by
  unfold hashByValue
  refine wpAny_bind (wpAny_specialOf (⟨ob, hg, hc⟩ : s.TypeIs (.ref c) "tuple") F.slot_tuple_hash.lookup ?_)
  show wpAny _ _ (seqItems? (.ref c) >>= _) _ _ s
  refine wpAny_bind (wpAny_seqItems hg hd (wpAny_bind ?_))
  show wpAny _ _ (forIn vs _ _) _ _ s
  rw [← Array.forIn_toList]
  refine wpAny_forIn_list _ (fun left z s1 => s1 = s ∧ z.1 = none ∧ ∀ v ∈ left, HasAns P w n s v) _ ?_ ?_ _ _ ⟨rfl, rfl, h⟩
  · rintro v left z s1 ⟨rfl, hz, hl⟩
    refine wpAny_bind (hl v List.mem_cons_self _ _ _ fun b => ?_)
    cases b
    · exact wpAny_pure (wpAny_pure (q _))
    · exact wpAny_pure ⟨rfl, rfl, fun u hu => hl u (List.mem_cons_of_mem _ hu)⟩
  · rintro ⟨z1, z2⟩ s1 ⟨rfl, hz, _⟩
    cases (show z1 = none from hz)
    exact wpAny_pure (q _)
theorem noCls_flat {n : Nat} {s : Shared} {v : Value} (h : ∀ c, v ≠ .ref c) : NoCls P w n s v := fun A E Q q => by
  have e : ofAClassStatement n v = pure false := by
    cases v <;> first | exact absurd rfl (h _) | (cases n <;> rfl)
  rw [e]
  exact wpAny_pure q
mutual
theorem noCls_key : ∀ (k : NestedKey) (v : Value) (n : Nat) (s : Shared), NestedIs s.heap k v → k.depth ≤ n → NoCls P w n s v
  | .none, _, _, _, x, _ => by cases x; exact noCls_flat nofun
  | .num _, _, _, _, x, _ => by cases x <;> exact noCls_flat nofun
  | .text _, _, _, _, x, _ => by cases x; exact noCls_flat nofun
  | .tup ks, _, n, s, x, hn => by
    rw [NestedKey.depth] at hn
    cases x with
    | tup g c d all =>
      obtain ⟨n, rfl⟩ : ∃ m, n = m + 1 := ⟨n - 1, by omega⟩
      exact noCls_tup g c d (noCls_keys ks _ n s all (by omega))
theorem noCls_keys : ∀ (ks : List NestedKey) (vs : List Value) (n : Nat) (s : Shared), NestedAll s.heap ks vs → NestedKey.depthAll ks ≤ n → ∀ v ∈ vs, NoCls P w n s v
  | [], _, _, _, x, _, v, hv => by cases x; cases hv
  | k :: ks, _, n, s, x, hn, v, hv => by
    rw [NestedKey.depthAll] at hn
    cases x with
    | cons y ys =>
      rcases List.mem_cons.mp hv with rfl | hv
      · exact noCls_key k _ n s y (by omega)
      · exact noCls_keys ks _ n s ys (by omega) v hv
end
mutual
theorem hasAns_key : ∀ (k : NestedKey) (v : Value) (n : Nat) (s : Shared), NestedIs s.heap k v → k.depth ≤ n → HasAns P w n s v
  | .none, _, n, _, x, _ => by cases x; intro A E Q q; cases n <;> exact wpAny_pure (q _)
  | .num _, _, n, _, x, _ => by cases x <;> (intro A E Q q; cases n <;> exact wpAny_pure (q _))
  | .text _, _, n, _, x, _ => by cases x; intro A E Q q; cases n <;> exact wpAny_pure (q _)
  | .tup ks, _, n, s, x, hn => by
    rw [NestedKey.depth] at hn
    cases x with
    | tup g c d all =>
      obtain ⟨n, rfl⟩ : ∃ m, n = m + 1 := ⟨n - 1, by omega⟩
      exact hasAns_tup g c d (hasAns_keys ks _ n s all (by omega))
theorem hasAns_keys : ∀ (ks : List NestedKey) (vs : List Value) (n : Nat) (s : Shared), NestedAll s.heap ks vs → NestedKey.depthAll ks ≤ n → ∀ v ∈ vs, HasAns P w n s v
  | [], _, _, _, x, _, v, hv => by cases x; cases hv
  | k :: ks, _, n, s, x, hn, v, hv => by
    rw [NestedKey.depthAll] at hn
    cases x with
    | cons y ys =>
      rcases List.mem_cons.mp hv with rfl | hv
      · exact hasAns_key k _ n s y (by omega)
      · exact hasAns_keys ks _ n s ys (by omega) v hv
end
/-- the tuple at c is the key k -/
abbrev KeyAt (P : Program) (w : World) (h : Heap) (k : NestedKey) (c : Addr) : Prop := (nestedKind P w).is h k c
theorem seen_key {A : Around} {E : Value → Shared → Prop} {s : Shared} {k : NestedKey} {c : Addr} {Q : Bool → Shared → Prop} (hk : KeyAt P w s.heap k c) {ys : List Value} (hy : ∀ y ∈ ys, ∃ k' d, y = Value.ref d ∧ KeyAt P w s.heap k' d) (q : Q false s) :
    wpAny (model P w) A (searchCouldBeSeen (.ref c) ys) Q E s := by
  unfold searchCouldBeSeen
  refine wpAny_bind (wpAny_forIn_list _ (fun left z s1 => s1 = s ∧ z.1 = none ∧ ∀ y ∈ left, ∃ k' d, y = Value.ref d ∧ KeyAt P w s.heap k' d) _ ?_ ?_ _ _ ⟨rfl, rfl, hy⟩)
  · rintro y left z s1 ⟨rfl, hz, hl⟩
    obtain ⟨k', d, rfl, hd⟩ := hl y List.mem_cons_self
    have hl' : ∀ y ∈ left, ∃ k' d, y = Value.ref d ∧ KeyAt P w s1.heap k' d := fun u hu => hl u (List.mem_cons_of_mem _ hu)
    dsimp only
    by_cases hv : (c == d || (carriedByValue (.ref c) && carriedByValue (.ref d))) = true
    · exact wp_if_pos hv (wpAny_pure ⟨rfl, rfl, hl'⟩)
    · refine wp_if_neg hv (wpAny_bind ((nestedKind P w).quiet hk ?_))
      rw [if_neg (by decide)]
      refine wpAny_bind ((nestedKind P w).quiet hd ?_)
      rw [if_neg (by decide)]
      refine wpAny_bind (noCls_key _ _ 8 s1 hk.1 hk.2 _ _ _ ?_)
      rw [if_neg (by decide)]
      refine wpAny_bind (noCls_key _ _ 8 s1 hd.1 hd.2 _ _ _ ?_)
      rw [if_neg (by decide)]
      exact wpAny_pure ⟨rfl, rfl, hl'⟩
  · rintro ⟨z1, z2⟩ s1 ⟨rfl, hz, _⟩
    cases (show z1 = none from hz)
    exact wpAny_pure q
/-! ### the set -/
def rowsN (w : World) (L : List (Addr × NestedKey)) : List (Int × Value) := L.map fun p => (p.2.hash w, Value.ref p.1)
structure SetN (P : Program) (w : World) (h : Heap) (a : Addr) (L : List (Addr × NestedKey)) (es : Array (Int × Value)) (ep : Nat) (t : SetTable) : Prop where
  ob : ∃ o, h.get? a = some o ∧ o.ExactSet ∧ o.data = .set es ep t
  rows : es.toList = rowsN w L
  tab : TabOk t (L.map fun p => p.2.hash w)
  nd : (L.map (·.2)).Nodup
  key : ∀ p ∈ L, KeyAt P w h p.2 p.1
  led : w.params.followText "set-order" = true ∨ t.led = true
  m7 : t.mask = 7
  few : L.length ≤ 4
variable {A : Around} {E : Value → Shared → Prop} {s : Shared} {a : Addr} {L : List (Addr × NestedKey)} {es : Array (Int × Value)} {ep : Nat} {t : SetTable}
theorem SetN.size {h : Heap} (S : SetN P w h a L es ep t) : es.size = L.length := by
  have e : es.toList.length = L.length := by rw [S.rows, rowsN, List.length_map]
  simpa using e
theorem SetN.placed {h : Heap} (S : SetN P w h a L es ep t) : t.place.toList.length = L.length := by
  rw [Array.length_toList, S.tab.sz, List.length_map]
theorem SetN.fits {h : Heap} (S : SetN P w h a L es ep t) : t.fits es.size = true := by
  have e1 := S.tab.sz
  rw [List.length_map] at e1
  unfold SetTable.fits SetTable.fill
  rw [S.tab.dm, S.size, e1, S.m7]
  have := S.few
  simp
  omega
theorem SetN.row {h : Heap} (S : SetN P w h a L es ep t) {i : Nat} {p : Addr × NestedKey} (e : L[i]? = some p) : es[i]? = some (p.2.hash w, Value.ref p.1) := by
  rw [← Array.getElem?_toList, S.rows, rowsN, List.getElem?_map, e]; rfl
/-- the way of a hash, one probe after the other -/
abbrev wayP (t : SetTable) (h : Int) (c : Nat) : SetTable.Probe := nth t.mask (runAt t.mask (SetTable.bits h % (t.mask + 1)) (SetTable.bits h)) c
theorem wayP_dummy (t : SetTable) (h : Int) (c : Nat) : (wayP t h c).dummy = none := by
  have go : ∀ (n : Nat) (p : SetTable.Probe), p.dummy = none → (nth t.mask p n).dummy = none := fun n => by
    induction n with
    | zero => exact fun p e => e
    | succ n ih => exact fun p e => ih (adv t.mask p) (by unfold adv; split <;> exact e)
  exact go c _ rfl
theorem wayP_add (t : SetTable) (h : Int) (c q : Nat) : nth t.mask (wayP t h c) q = wayP t h (c + q) := (nth_add t.mask c _ q).symm
/-- behind the c-th probe -/
theorem findN (S : SetN P w s.heap a L es ep t) {x : Addr} {k : NestedKey} (hx : KeyAt P w s.heap k x) (hu : A.units + 8 < cLine) {K : Nat} (hKf : K < 10 * SetTable.turns t.mask)
    (free : way t.mask (k.hash w) K ∉ t.place.toList) (full : ∀ c, c < K → way t.mask (k.hash w) c ∈ t.place.toList) {Q : SetFound → Shared → Prop}
    (there : k ∈ L.map (·.2) → Q (.there none) s) (gone : k ∉ L.map (·.2) → Q (.free (way t.mask (k.hash w) K) false) s) :
    ∀ (f c : Nat) (st : Option SetTable.Probe), st.getD (t.probeStart (k.hash w)) = wayP t (k.hash w) c → c ≤ K → K < f + c →
      (∀ (i : Nat) p, L[i]? = some p → p.2 = k → ∃ d, c ≤ d ∧ d < K ∧ t.place.toList[i]? = some (way t.mask (k.hash w) d)) →
      wpAny (model P w) A (setSearchFrom a (.ref x) (k.hash w) true f st) Q E s := by
  intro f
  induction f with
  | zero => intro c st _ h1 h2; omega
  | succ f ih =>
    intro c st hst hc hf ahead
    obtain ⟨o, ho, hex, hd⟩ := S.ob
    rw [setSearchFrom_succ]
    refine wpAny_bind (wpAny_setState_of ho hd S.fits ?_)
    refine wp_if_neg (by unfold SetTable.gaveWay; rw [S.m7]; decide) ?_
    try refine wpAny_bind (wpAny_pure ?_)
    have hj : ∀ q, (nth t.mask (wayP t (k.hash w) c) q).j = way t.mask (k.hash w) (c + q) := fun q => congrArg SetTable.Probe.j (wayP_add t _ c q)
    have hashOf : ∀ (i : Nat) p, L[i]? = some p → (es[i]?.map (·.1)).getD 0 = p.2.hash w := fun i p e => by rw [S.row e]; rfl
    rcases go_spec t S.tab.ris S.tab.dm (fun i => (es[i]?.map (·.1)).getD 0) (k.hash w) (10 * SetTable.turns t.mask) (K - c) (wayP t (k.hash w) c) (wayP_dummy t _ c) (by omega)
      (fun q hq => by rw [hj]; exact full _ (by omega)) (by rw [hj, Nat.add_sub_cancel' hc]; exact free) with ⟨q, i, hq, hi, hh, hno, hpr⟩ | ⟨hno, hpr⟩
    · have met : t.probe (fun i => (es[i]?.map (·.1)).getD 0) (k.hash w) (st.getD (t.probeStart (k.hash w))) = some (.candidate (way t.mask (k.hash w) (c + q)) i (wayP t (k.hash w) (c + (q + 1)))) := by
        rw [hst, ← hj q, ← wayP_add]; exact hpr
      rw [met]
      dsimp only
      rw [hj] at hi
      have hil : i < L.length := by
        have := (List.getElem?_eq_some_iff.mp hi).1
        rwa [S.placed] at this
      obtain ⟨p, hp⟩ : ∃ p, L[i]? = some p := ⟨_, List.getElem?_eq_getElem hil⟩
      have pin : p ∈ L := List.mem_of_getElem? hp
      have tail : wpAny (model P w) A (searchRest a (.ref x) (k.hash w) true f es t (way t.mask (k.hash w) (c + q)) i (wayP t (k.hash w) (c + (q + 1)))) Q E s := by
        unfold searchRest
        rw [S.row hp]
        refine wpAny_bind (wpAny_holding ((nestedKind P w).eqBool hu (S.key p pin) hx (wpAny_bind (wpAny_setState_of ho hd S.fits ?_))))
        by_cases same : p.2 = k
        · exact wp_if_pos (by simp [same]) (wpAny_pure (there (List.mem_map.mpr ⟨p, pin, same⟩)))
        · refine wp_if_neg (by simp [same]) ?_
          try refine wpAny_bind (wpAny_pure ?_)
          rw [sameMem]
          have live := slot_live S.tab.ris hi
          simp only [if_true, live, S.row hp]
          refine wpAny_bind (wpAny_isSame_ref_self (wpAny_bind (wpAny_pure ?_)))
          rw [if_pos rfl]
          refine wp_if_neg (by simp [same]) (ih (c + (q + 1)) _ rfl (by omega) (by omega) fun i' p' h' e' => ?_)
          obtain ⟨d, d1, d2, d3⟩ := ahead i' p' h' e'
          have nlt : ¬ d < c + q := fun z => by
            refine hno (d - c) i' (by omega) ?_ ((hashOf i' p' h').trans (by rw [e']))
            rw [hj, Nat.add_sub_cancel' d1]; exact d3
          have neq : d ≠ c + q := fun z => by
            have l2 := slot_live S.tab.ris d3
            rw [z, live] at l2
            injection l2 with l2
            rw [← l2, hp] at h'
            cases h'
            exact same e'
          exact ⟨d, by omega, d2, d3⟩
      by_cases hl : t.led = true
      · refine wp_if_neg (by simp [hl]) ?_
        try refine wpAny_bind (wpAny_pure ?_)
        exact tail
      · refine wp_if_pos (by simp [hl]) (wpAny_bind (seen_key hx (fun y hy => ?_) ?_))
        · obtain ⟨r, hr, er⟩ := List.mem_map.mp hy
          have r1 : r ∈ es.toList := by
            have : r ∈ es ∧ r.1 = k.hash w := by simpa using hr
            simpa using this.1
          rw [S.rows] at r1
          obtain ⟨p2, h2, e2⟩ := List.mem_map.mp r1
          exact ⟨p2.2, p2.1, by rw [← er, ← e2], S.key p2 h2⟩
        · refine wp_if_neg (by decide) ?_
          try refine wpAny_bind (wpAny_pure ?_)
          exact tail
    · have met : t.probe (fun i => (es[i]?.map (·.1)).getD 0) (k.hash w) (st.getD (t.probeStart (k.hash w))) = some (.empty (way t.mask (k.hash w) K) none) := by
        have e2 := hj (K - c)
        rw [Nat.add_sub_cancel' hc] at e2
        rw [hst, ← e2]; exact hpr
      rw [met]
      refine wpAny_pure (gone fun hm => ?_)
      obtain ⟨p', m', e'⟩ := List.mem_map.mp hm
      obtain ⟨i', l', g'⟩ := List.getElem_of_mem m'
      have h' : L[i']? = some p' := by rw [List.getElem?_eq_getElem l', g']
      obtain ⟨d, d1, d2, d3⟩ := ahead i' p' h' e'
      refine hno (d - c) i' (by omega) ?_ ((hashOf i' p' h').trans (by rw [e']))
      rw [hj, Nat.add_sub_cancel' d1]; exact d3
theorem searchN (S : SetN P w s.heap a L es ep t) {x : Addr} {k : NestedKey} (hx : KeyAt P w s.heap k x) (hu : A.units + 8 < cLine) {Q : SetFound → Shared → Prop} (there : k ∈ L.map (·.2) → Q (.there none) s)
    (gone : ∀ K, k ∉ L.map (·.2) → way t.mask (k.hash w) K ∉ t.place.toList → (∀ c, c < K → way t.mask (k.hash w) c ∈ t.place.toList) → Q (.free (way t.mask (k.hash w) K) false) s) :
    wpAny (model P w) A (setSearch a (.ref x) (k.hash w) true) Q E s := by
  obtain ⟨K, b, free, full⟩ := S.tab.first (by rw [List.length_map, S.m7]; have := S.few; omega) (k.hash w)
  have hK : K < 100000 := by
    have : 10 * SetTable.turns t.mask ≤ 1420 := by rw [S.m7]; decide
    omega
  refine findN S hx hu b free full there (fun z => gone K z free full) 100000 0 none rfl (Nat.zero_le _) (by omega) fun i p hp e => ?_
  have il : i < t.place.toList.length := by
    rw [S.placed]
    exact (List.getElem?_eq_some_iff.mp hp).1
  obtain ⟨d, d1, d2⟩ := S.tab.before free (show (L.map fun p => p.2.hash w)[i]? = some (k.hash w) by rw [List.getElem?_map, hp, ← e]; rfl) (List.getElem?_eq_getElem il)
  exact ⟨d, Nat.zero_le _, d1, by rw [List.getElem?_eq_getElem il, d2]⟩
theorem keyAt_same {h h' : Heap} {k : NestedKey} {b : Addr} {o : Obj} {es : Array (Int × Value)} {ep : Nat} {t : SetTable} (x : KeyAt P w h k b) (ho : h.get? a = some o) (hd : o.data = .set es ep t) (sb : Heap.SameBut a h h') : KeyAt P w h' k b :=
  ⟨NestedIs.at (fun c oc vs n hc hs => by
    refine (sb.2 c fun e => ?_).trans hc
    subst e
    rw [ho] at hc
    cases hc
    rw [hd] at hs
    cases hs) k _ x.1, x.2⟩
theorem tabOk_flag {t : SetTable} {hs : List Int} {b : Bool} (T : TabOk t hs) : TabOk (if b = true then t else { t with plain := false }) hs := by
  cases b
  · exact ⟨T.ris, T.dm, T.sz, T.mok, T.bd, T.reach⟩
  · exact T
theorem addN (S : SetN P w s.heap a L es ep t) {x : Addr} {k : NestedKey} (hx : KeyAt P w s.heap k x) (hu : A.units + 8 < cLine) (few : L.length ≤ 3) {Q : Bool → Shared → Prop}
    (q : ∀ b h' L' es' ep' t', Heap.SameBut a s.heap h' → SetN P w h' a L' es' ep' t' → (k ∈ L.map (·.2) → L' = L) → (k ∉ L.map (·.2) → L'.Perm ((x, k) :: L)) → Q b { s with heap := h' }) :
    wpAny (model P w) A (setAddHashed a (.ref x) (k.hash w)) Q E s := by
  obtain ⟨o, ho, hex, hd⟩ := S.ob
  unfold setAddHashed
  refine wpAny_holding ?_
  rw [show (100000 : Nat) = 99999 + 1 from rfl, setAddHashedIn_succ]
  refine wpAny_bind (wpAny_setState_of ho hd S.fits ?_)
  refine wp_if_neg (by simp [byScan, Value.scannable]) ?_
  try refine wpAny_bind (wpAny_pure ?_)
  refine wpAny_bind (searchN S hx hu (fun hm => ?_) fun K hm free full => ?_)
  · exact wpAny_pure (q false s.heap L es ep t (Heap.SameBut.refl a s.heap) S (fun _ => rfl) fun z => absurd hm z)
  · dsimp only
    refine wpAny_bind (wpAny_setState_of ho hd S.fits ?_)
    obtain ⟨q1, q2, q3, q4, q5, q6, q7, q8, q9⟩ := S.tab.put free full
    generalize hpt : t.put (way t.mask (k.hash w) K) = pt at q1 q3 q4 q5 q6 q7 q8 q9 ⊢
    obtain ⟨t1, p⟩ := pt
    dsimp only at q1 q3 q4 q5 q6 q7 q8 q9 ⊢
    subst q1
    have rest : ∀ b : Bool, wpAny (model P w) A (do
        storeSet a (SetTable.insertAt es (SetTable.below t.place (way t.mask (k.hash w) K)) (k.hash w, Value.ref x)) (if b = true then t1 else { t1 with plain := false })
        if (!false && (if b = true then t1 else { t1 with plain := false }).tooFull) = true then setRelay a (SetTable.grown (es.size + 1)) else pure ()
        pure true) Q E s := fun b => by
      have T1 := tabOk_flag (b := b) q3
      have m1 : (if b = true then t1 else { t1 with plain := false }).mask = 7 := by cases b <;> exact q4.trans S.m7
      have l1 : (if b = true then t1 else { t1 with plain := false }).led = t.led := by cases b <;> exact q5
      have f1 : (if b = true then t1 else { t1 with plain := false }).fill = L.length + 1 := by
        have : t1.fill = L.length + 1 := by rw [q9, List.length_map]
        cases b <;> exact this
      generalize (if b = true then t1 else { t1 with plain := false }) = t2 at T1 m1 l1 f1 ⊢
      generalize hpp : SetTable.below t.place (way t.mask (k.hash w) K) = p at q2 T1 ⊢
      have pm := put_perm L p (x, k)
      have lenE : (L.take p ++ (x, k) :: L.drop p).length = L.length + 1 := pm.length_eq
      have rowE : (SetTable.insertAt es p (k.hash w, Value.ref x)).toList = rowsN w (L.take p ++ (x, k) :: L.drop p) := by
        rw [SetTable.toList_insertAt, S.rows, rowsN, rowsN, List.map_append, List.map_cons, List.map_take, List.map_drop]
      have szE : (SetTable.insertAt es p (k.hash w, Value.ref x)).size = L.length + 1 := by
        rw [← Array.length_toList, rowE, rowsN, List.length_map, lenE]
      generalize SetTable.insertAt es p (k.hash w, Value.ref x) = es1 at rowE szE ⊢
      have hashE : (L.map fun p => p.2.hash w).take p ++ k.hash w :: (L.map fun p => p.2.hash w).drop p = (L.take p ++ (x, k) :: L.drop p).map fun p => p.2.hash w := by
        rw [List.map_append, List.map_cons, List.map_take, List.map_drop]
      rw [hashE] at T1
      have ndE : ((L.take p ++ (x, k) :: L.drop p).map (·.2)).Nodup := by
        rw [(pm.map (·.2)).nodup_iff, List.map_cons]
        exact List.nodup_cons.mpr ⟨hm, S.nd⟩
      generalize L.take p ++ (x, k) :: L.drop p = L1 at pm lenE rowE T1 ndE
      refine wpAny_bind (wpAny_storeSet_of ho hd ?_ (by rw [szE, sizeLine_eq]; omega))
      have sb : Heap.SameBut a s.heap (s.heap.update a (Obj.putSet es1 t2)) := Heap.SameBut.update ..
      have ho1 := store_at (es' := es1) (t' := t2) ho hd
      generalize s.heap.update a (Obj.putSet es1 t2) = h1 at sb ho1 ⊢
      have keyE : ∀ r ∈ L1, KeyAt P w h1 r.2 r.1 := fun r hr => by
        rcases List.mem_cons.mp (pm.mem_iff.mp hr) with rfl | hr
        · exact keyAt_same hx ho hd sb
        · exact keyAt_same (S.key r hr) ho hd sb
      have nf : t2.tooFull = false := by
        unfold SetTable.tooFull
        rw [f1, m1]
        exact decide_eq_false (by omega)
      have done : wpAny (model P w) A (pure true) Q E { s with heap := h1 } :=
        wpAny_pure (q true h1 L1 es1 _ t2 sb ⟨⟨_, ho1, ⟨hex.1, hex.2.1, hex.2.2⟩, rfl⟩, rowE, T1, ndE, keyE, by rw [l1]; exact S.led, m1, by omega⟩ (fun z => absurd z hm) fun _ => pm)
      rw [nf]
      exact wp_if_neg (by decide) done
    by_cases hp : t1.plain = true
    · first
        | (refine wpAny_bind ?_; refine wp_if_pos hp ?_; refine hasAns_key k _ 8 s hx.1 hx.2 _ _ _ fun b => ?_)
        | refine wp_if_pos hp (wpAny_bind (hasAns_key k _ 8 s hx.1 hx.2 _ _ _ fun b => ?_))
      exact rest b
    · first
        | (refine wpAny_bind ?_; refine wp_if_neg hp ?_; refine wpAny_pure ?_)
        | refine wp_if_neg hp (wpAny_bind (wpAny_pure ?_))
      exact rest true
end
end FD

/-! FD1: the data level. D: values with tuples inline; DG: the store of what may change; readings over them; the link to the readings of the layer HandS. -/
namespace FD
open PySem L2
/-- a value of the data level: tuples inline, fl: a list that nobody changes, ref: an object of the store -/
inductive D where
  | non | bl (b : Bool) | int (i : Int) | str (x : Str) | tup (ds : List D) | fl (ds : List D) | ref (a : Addr) | ty (n : String)
/-- a list that stands still: locked, or of the written part -/
def FzL (K : PySem.W.Frag) (H : Hp) (a : Addr) (xs : List V) : Prop :=
  (∃ o, H a = some (.frz o (.lst xs))) ∨
    ∃ (o : Obj) (its : Array Value) (n : Nat), K.lookup a = some o ∧ o.cls = .type "list" ∧ o.dict = none ∧ o.data = .seq its n ∧ its.size ≤ sizeLine ∧ Vals xs its.toList
theorem FzL.sq {K : PySem.W.Frag} {H : Hp} {a : Addr} {xs : List V} (h : FzL K H a xs) : SqL K H a xs := by
  rcases h with ⟨o, h⟩ | h
  · exact .inl (.inr ⟨o, h⟩)
  · exact .inr h
mutual
def Rp (K : PySem.W.Frag) (H : Hp) : D → V → Prop
  | .non, v => v = .non
  | .bl b, v => v = .bl b
  | .int i, v => v = .int i
  | .str x, v => v = .str x
  | .tup ds, v => ∃ a xs, v = .ref a ∧ SqT K H a xs ∧ RpL K H ds xs
  | .fl ds, v => ∃ a xs, v = .ref a ∧ FzL K H a xs ∧ RpL K H ds xs
  | .ref a, v => v = .ref a
  | .ty n, v => v = .ty n
def RpL (K : PySem.W.Frag) (H : Hp) : List D → List V → Prop
  | [], xs => xs = []
  | d :: ds, xs => ∃ y ys, xs = y :: ys ∧ Rp K H d y ∧ RpL K H ds ys
end
/-- what never changes is kept -/
structure Kp (K : PySem.W.Frag) (H H' : Hp) : Prop where
  t : ∀ a xs, SqT K H a xs → SqT K H' a xs
  l : ∀ a xs, FzL K H a xs → FzL K H' a xs
theorem Kp.refl {K : PySem.W.Frag} {H : Hp} : Kp K H H := ⟨fun _ _ h => h, fun _ _ h => h⟩
theorem Kp.trans {K : PySem.W.Frag} {H H1 H2 : Hp} (a : Kp K H H1) (b : Kp K H1 H2) : Kp K H H2 := ⟨fun x xs h => b.t x xs (a.t x xs h), fun x xs h => b.l x xs (a.l x xs h)⟩
mutual
theorem Rp.mono {K : PySem.W.Frag} {H H' : Hp} (k : Kp K H H') : ∀ {d : D} {v : V}, Rp K H d v → Rp K H' d v
  | .non, _, h => h
  | .bl _, _, h => h
  | .int _, _, h => h
  | .str _, _, h => h
  | .tup ds, _, h => by
    rw [Rp] at h ⊢
    obtain ⟨a, xs, e, q, r⟩ := h
    exact ⟨a, xs, e, k.t a xs q, RpL.mono k r⟩
  | .fl ds, _, h => by
    rw [Rp] at h ⊢
    obtain ⟨a, xs, e, q, r⟩ := h
    exact ⟨a, xs, e, k.l a xs q, RpL.mono k r⟩
  | .ref _, _, h => h
  | .ty _, _, h => h
theorem RpL.mono {K : PySem.W.Frag} {H H' : Hp} (k : Kp K H H') : ∀ {ds : List D} {xs : List V}, RpL K H ds xs → RpL K H' ds xs
  | [], _, h => h
  | d :: ds, _, h => by
    rw [RpL] at h ⊢
    obtain ⟨y, ys, e, r, q⟩ := h
    exact ⟨y, ys, e, Rp.mono k r, RpL.mono k q⟩
end
section
variable {K : PySem.W.Frag} {H : Hp}
theorem rp_non {v : V} : Rp K H .non v ↔ v = .non := by rw [Rp]
theorem rp_bl {b : Bool} {v : V} : Rp K H (.bl b) v ↔ v = .bl b := by rw [Rp]
theorem rp_int {i : Int} {v : V} : Rp K H (.int i) v ↔ v = .int i := by rw [Rp]
theorem rp_str {x : Str} {v : V} : Rp K H (.str x) v ↔ v = .str x := by rw [Rp]
theorem rp_tup {ds : List D} {v : V} : Rp K H (.tup ds) v ↔ ∃ a xs, v = .ref a ∧ SqT K H a xs ∧ RpL K H ds xs := by rw [Rp]
theorem rp_fl {ds : List D} {v : V} : Rp K H (.fl ds) v ↔ ∃ a xs, v = .ref a ∧ FzL K H a xs ∧ RpL K H ds xs := by rw [Rp]
theorem rp_ref {a : Addr} {v : V} : Rp K H (.ref a) v ↔ v = .ref a := by rw [Rp]
theorem rp_ty {n : String} {v : V} : Rp K H (.ty n) v ↔ v = .ty n := by rw [Rp]
theorem rpl_nil {xs : List V} : RpL K H [] xs ↔ xs = [] := by rw [RpL]
theorem rpl_cons {d : D} {ds : List D} {xs : List V} : RpL K H (d :: ds) xs ↔ ∃ y ys, xs = y :: ys ∧ Rp K H d y ∧ RpL K H ds ys := by rw [RpL]
theorem RpL.cons {d : D} {ds : List D} {y : V} {ys : List V} (h : Rp K H d y) (t : RpL K H ds ys) : RpL K H (d :: ds) (y :: ys) := rpl_cons.mpr ⟨y, ys, rfl, h, t⟩
theorem RpL.nil : RpL K H [] [] := rpl_nil.mpr rfl
theorem RpL.length : ∀ {ds : List D} {xs : List V}, RpL K H ds xs → ds.length = xs.length
  | [], _, h => by rw [rpl_nil.mp h]; rfl
  | d :: ds, _, h => by
    obtain ⟨y, ys, rfl, _, t⟩ := rpl_cons.mp h
    rw [List.length_cons, List.length_cons, RpL.length t]
theorem RpL.get : ∀ {ds : List D} {xs : List V} {i : Nat} {d : D}, RpL K H ds xs → ds[i]? = some d → ∃ v, xs[i]? = some v ∧ Rp K H d v
  | [], _, _, _, _, e => by simp at e
  | d :: ds, _, 0, e', h, e => by
    obtain ⟨y, ys, rfl, r, t⟩ := rpl_cons.mp h
    have q : d = e' := Option.some.inj e
    subst q
    exact ⟨y, rfl, r⟩
  | d :: ds, _, i + 1, e', h, e => by
    obtain ⟨y, ys, rfl, r, t⟩ := rpl_cons.mp h
    exact RpL.get (i := i) t e
theorem RpL.getV : ∀ {ds : List D} {xs : List V} {i : Nat} {v : V}, RpL K H ds xs → xs[i]? = some v → ∃ d, ds[i]? = some d ∧ Rp K H d v
  | [], _, _, _, h, e => by rw [rpl_nil.mp h] at e; simp at e
  | d :: ds, _, 0, e', h, e => by
    obtain ⟨y, ys, rfl, r, t⟩ := rpl_cons.mp h
    have q : y = e' := Option.some.inj e
    subst q
    exact ⟨d, rfl, r⟩
  | d :: ds, _, i + 1, e', h, e => by
    obtain ⟨y, ys, rfl, r, t⟩ := rpl_cons.mp h
    exact RpL.getV (i := i) t e
theorem RpL.append : ∀ {ds es : List D} {xs ys : List V}, RpL K H ds xs → RpL K H es ys → RpL K H (ds ++ es) (xs ++ ys)
  | [], _, _, _, h, q => by rw [rpl_nil.mp h]; exact q
  | d :: ds, _, _, _, h, q => by
    obtain ⟨y, ys, rfl, r, t⟩ := rpl_cons.mp h
    exact RpL.cons r (RpL.append t q)
theorem RpL.take : ∀ {ds : List D} {xs : List V} (n : Nat), RpL K H ds xs → RpL K H (ds.take n) (xs.take n)
  | _, _, 0, _ => RpL.nil
  | [], _, n + 1, h => by rw [rpl_nil.mp h]; exact RpL.nil
  | d :: ds, _, n + 1, h => by
    obtain ⟨y, ys, rfl, r, t⟩ := rpl_cons.mp h
    exact RpL.cons r (RpL.take n t)
theorem RpL.drop : ∀ {ds : List D} {xs : List V} (n : Nat), RpL K H ds xs → RpL K H (ds.drop n) (xs.drop n)
  | _, _, 0, h => h
  | [], _, n + 1, h => by rw [rpl_nil.mp h]; exact RpL.nil
  | d :: ds, _, n + 1, h => by
    obtain ⟨y, ys, rfl, r, t⟩ := rpl_cons.mp h
    exact RpL.drop n t
theorem RpL.set : ∀ {ds : List D} {xs : List V} {d : D} {v : V} (n : Nat), RpL K H ds xs → Rp K H d v → RpL K H (ds.set n d) (xs.set n v)
  | [], _, _, _, n, h, _ => by rw [rpl_nil.mp h]; exact RpL.nil
  | d :: ds, _, e, v, 0, h, q => by
    obtain ⟨y, ys, rfl, r, t⟩ := rpl_cons.mp h
    exact RpL.cons q t
  | d :: ds, _, e, v, n + 1, h, q => by
    obtain ⟨y, ys, rfl, r, t⟩ := rpl_cons.mp h
    exact RpL.cons r (RpL.set n t q)
theorem RpL.erase : ∀ {ds : List D} {xs : List V} (n : Nat), RpL K H ds xs → RpL K H (ds.eraseIdx n) (xs.eraseIdx n)
  | [], _, n, h => by rw [rpl_nil.mp h]; exact RpL.nil
  | d :: ds, _, 0, h => by
    obtain ⟨y, ys, rfl, r, t⟩ := rpl_cons.mp h
    exact t
  | d :: ds, _, n + 1, h => by
    obtain ⟨y, ys, rfl, r, t⟩ := rpl_cons.mp h
    exact RpL.cons r (RpL.erase n t)
theorem RpL.rep {ds : List D} {xs : List V} (h : RpL K H ds xs) : ∀ k : Nat, RpL K H (List.replicate k ds).flatten (List.replicate k xs).flatten
  | 0 => RpL.nil
  | k + 1 => by
    rw [List.replicate_succ, List.replicate_succ, List.flatten_cons, List.flatten_cons]
    exact RpL.append h (RpL.rep h k)
theorem RpL.snoc {ds : List D} {xs : List V} {d : D} {v : V} (h : RpL K H ds xs) (q : Rp K H d v) : RpL K H (ds ++ [d]) (xs ++ [v]) := RpL.append h (RpL.cons q RpL.nil)
theorem RpL.one {d : D} {xs : List V} (h : RpL K H [d] xs) : ∃ v, xs = [v] ∧ Rp K H d v := by
  obtain ⟨y, ys, rfl, r, t⟩ := rpl_cons.mp h
  exact ⟨y, by rw [rpl_nil.mp t], r⟩
theorem RpL.two {d e : D} {xs : List V} (h : RpL K H [d, e] xs) : ∃ v u, xs = [v, u] ∧ Rp K H d v ∧ Rp K H e u := by
  obtain ⟨y, ys, rfl, r, t⟩ := rpl_cons.mp h
  obtain ⟨u, rfl, q⟩ := RpL.one t
  exact ⟨y, u, rfl, r, q⟩
theorem RpL.ints : ∀ {ns : List Int} {xs : List V}, RpL K H (ns.map D.int) xs ↔ xs = ns.map V.int
  | [], xs => rpl_nil
  | n :: ns, xs => by
    rw [List.map_cons, List.map_cons, rpl_cons]
    constructor
    · rintro ⟨y, ys, rfl, r, t⟩
      rw [rp_int.mp r, RpL.ints.mp t]
    · rintro rfl
      exact ⟨_, _, rfl, rp_int.mpr rfl, RpL.ints.mpr rfl⟩
end
/-- where a program runs: the text, the world, the written part -/
structure Bs where
  P : Program
  w : World
  K : PySem.W.Frag
abbrev bs (X : Cx) : Bs := ⟨X.prog, X.w, X.K⟩
/-- what may change -/
inductive DO where
  | lst (ds : List D)
  | dic (kvs : List (D × D))
  | set (ds : List D)
  | ins (C : Addr) (fs : List (Str × D))
abbrev DG := Addr → Option DO
def DG.upd (G : DG) (a : Addr) (o : DO) : DG := fun b => if b = a then some o else G b
theorem gupd_same {G : DG} {a : Addr} {o : DO} : G.upd a o a = some o := by unfold DG.upd; rw [if_pos rfl]
theorem gupd_ne {G : DG} {a b : Addr} {o : DO} (h : b ≠ a) : G.upd a o b = G b := by unfold DG.upd; rw [if_neg h]
theorem gupd_upd {G : DG} {a : Addr} {o u : DO} : (G.upd a o).upd a u = G.upd a u := by
  funext b; unfold DG.upd; split <;> rfl

/-! ### the store is held -/
mutual
def nkey : D → Option NestedKey
  | .non => some .none
  | .bl b => some (.num (if b = true then 1 else 0))
  | .int i => some (.num i)
  | .str x => some (.text x)
  | .tup ds => (nkeys ds).map .tup
  | _ => none
def nkeys : List D → Option (List NestedKey)
  | [] => some []
  | d :: ds => match nkey d, nkeys ds with
    | some k, some ks => some (k :: ks)
    | _, _ => none
end
def keyV : D → Option Key
  | .int i => some (.inl i)
  | .str x => some (.inr x)
  | _ => none
/-- a dict whose keys are nested tuples, by its entries -/
def RawD (B : Bs) (a : Addr) (xs : List (NestedKey × Addr × Value)) (h : Heap) : Prop :=
  ∃ o es ep, h.get? a = some o ∧ o.ExactDict ∧ o.data = .dict es ep ∧ es.toList = xs.map (entryOfKey (nestedKind B.P B.w))
def OkDk (B : Bs) (H : Hp) (a : Addr) (kvs : List (D × D)) : Prop :=
  ∃ ks : List (Key × V), H a = some (.dK ks) ∧ Paired (fun (p : D × D) (q : Key × V) => keyV p.1 = some q.1 ∧ Rp B.K H p.2 q.2) kvs ks
def OkDn (B : Bs) (H : Hp) (a : Addr) (kvs : List (D × D)) : Prop :=
  ∃ xs : List (NestedKey × Addr × Value), H a = some (.ext (RawD B a xs)) ∧ (a == sysModules) = false ∧ kvs.length ≤ sizeLine ∧ (xs.map (·.1)).Nodup ∧
    Paired (fun (p : D × D) (q : NestedKey × Addr × Value) => nkey p.1 = some q.1 ∧ q.1.depth ≤ 8 ∧ (∃ ds, p.1 = .tup ds) ∧ Rp B.K H p.1 (.ref q.2.1) ∧ ∃ v, RelV v q.2.2 ∧ Rp B.K H p.2 v) kvs xs
/-- a set, by its table -/
def RawS (B : Bs) (a : Addr) (L : List (Addr × NestedKey)) (h : Heap) : Prop :=
  ∃ es ep t, (∃ o, h.get? a = some o ∧ o.ExactSet ∧ o.data = .set es ep t) ∧ es.toList = rowsN B.w L ∧ TabOk t (L.map fun p => p.2.hash B.w) ∧ (B.w.params.followText "set-order" = true ∨ t.led = true) ∧ t.mask = 7
abbrev SRel (K : PySem.W.Frag) (H : Hp) (d : D) (q : Addr × NestedKey) : Prop := nkey d = some q.2 ∧ q.2.depth ≤ 8 ∧ (∃ es, d = .tup es) ∧ Rp K H d (.ref q.1)
def OkSn (B : Bs) (H : Hp) (a : Addr) (ds : List D) : Prop :=
  ∃ L L', H a = some (.ext (RawS B a L)) ∧ (L.map (·.2)).Nodup ∧ L.length ≤ 4 ∧ L.Perm L' ∧ Paired (SRel B.K H) ds L'
def OkO (B : Bs) (H : Hp) (a : Addr) : DO → Prop
  | .lst ds => ∃ xs, H a = some (.lst xs) ∧ RpL B.K H ds xs
  | .dic kvs => OkDk B H a kvs ∨ OkDn B H a kvs
  | .set ds => OkSn B H a ds
  | .ins C fs => ∃ dx gs, H a = some (.ins C dx gs) ∧ Paired (fun (p : Str × D) (q : Str × V) => p.1 = q.1 ∧ Rp B.K H p.2 q.2) fs gs
def Wld (B : Bs) (G : DG) (H : Hp) : Prop := ∀ a o, G a = some o → OkO B H a o
/-- what H has and G has not stays as it is -/
def Fm (G : DG) (H : Hp) (G' : DG) (H' : Hp) : Prop := ∀ a o, H a = some o → G a = none → H' a = some o ∧ G' a = none
theorem Fm.refl {G : DG} {H : Hp} : Fm G H G H := fun _ _ h n => ⟨h, n⟩
theorem Fm.trans {G G1 G2 : DG} {H H1 H2 : Hp} (a : Fm G H G1 H1) (b : Fm G1 H1 G2 H2) : Fm G H G2 H2 := fun x o h n => by
  obtain ⟨h1, n1⟩ := a x o h n
  exact b x o h1 n1
theorem OkO.live {B : Bs} {H : Hp} {a : Addr} {o : DO} (h : OkO B H a o) : ∃ u, H a = some u ∧ (∀ xs, u ≠ .tup xs) ∧ (∀ ob w, u ≠ .frz ob w) := by
  cases o with
  | lst ds => obtain ⟨xs, e, _⟩ := h; exact ⟨_, e, fun _ z => (nomatch z), fun _ _ z => (nomatch z)⟩
  | dic kvs =>
    rcases h with ⟨ks, e, _⟩ | ⟨xs, e, _⟩
    · exact ⟨_, e, fun _ z => (nomatch z), fun _ _ z => (nomatch z)⟩
    · exact ⟨_, e, fun _ z => (nomatch z), fun _ _ z => (nomatch z)⟩
  | set ds => obtain ⟨L, L', e, _⟩ := h; exact ⟨_, e, fun _ z => (nomatch z), fun _ _ z => (nomatch z)⟩
  | ins C fs => obtain ⟨dx, gs, e, _⟩ := h; exact ⟨_, e, fun _ z => (nomatch z), fun _ _ z => (nomatch z)⟩
theorem Wld.none {B : Bs} {G : DG} {H : Hp} (w : Wld B G H) {p : Addr} (h : H p = none) : G p = none := by
  cases e : G p with
  | none => rfl
  | some o =>
    obtain ⟨u, q, _⟩ := (w p o e).live
    rw [q] at h; cases h
/-- frames keep what never changes -/
theorem Fm.kp {B : Bs} {G G' : DG} {H H' : Hp} (w : Wld B G H) (f : Fm G H G' H') : Kp B.K H H' := by
  refine ⟨fun a xs h => ?_, fun a xs h => ?_⟩
  · rcases h with (h | ⟨o, h⟩) | h
    · refine .inl (.inl (f a _ h ?_).1)
      cases e : G a with
      | none => rfl
      | some o =>
        obtain ⟨u, q, n, _⟩ := (w a o e).live
        rw [h] at q; cases q
        exact (n _ rfl).elim
    · refine .inl (.inr ⟨o, (f a _ h ?_).1⟩)
      cases e : G a with
      | none => rfl
      | some o =>
        obtain ⟨u, q, _, n⟩ := (w a o e).live
        rw [h] at q; cases q
        exact (n _ _ rfl).elim
    · exact .inr h
  · rcases h with ⟨o, h⟩ | h
    · refine .inl ⟨o, (f a _ h ?_).1⟩
      cases e : G a with
      | none => rfl
      | some o =>
        obtain ⟨u, q, _, n⟩ := (w a o e).live
        rw [h] at q; cases q
        exact (n _ _ rfl).elim
    · exact .inr h
theorem paired_mono {α β : Type} {R S : α → β → Prop} (h : ∀ a b, R a b → S a b) : ∀ {l : List α} {m : List β}, Paired R l m → Paired S l m
  | _, _, .nil => .nil
  | _, _, .cons r t => .cons (h _ _ r) (paired_mono h t)
theorem OkO.mono {B : Bs} {H H' : Hp} {a : Addr} {o : DO} (h : OkO B H a o) (k : Kp B.K H H') (e : ∀ u, H a = some u → H' a = some u) : OkO B H' a o := by
  cases o with
  | lst ds => obtain ⟨xs, q, r⟩ := h; exact ⟨xs, e _ q, r.mono k⟩
  | dic kvs =>
    rcases h with ⟨ks, q, r⟩ | ⟨xs, q, n, z, nd, r⟩
    · exact .inl ⟨ks, e _ q, paired_mono (fun p q h => ⟨h.1, h.2.mono k⟩) r⟩
    · exact .inr ⟨xs, e _ q, n, z, nd, paired_mono (fun p q h => ⟨h.1, h.2.1, h.2.2.1, h.2.2.2.1.mono k, h.2.2.2.2.elim fun v hv => ⟨v, hv.1, hv.2.mono k⟩⟩) r⟩
  | set ds => obtain ⟨L, L', q, n, z, p, r⟩ := h; exact ⟨L, L', e _ q, n, z, p, paired_mono (fun p q h => ⟨h.1, h.2.1, h.2.2.1, h.2.2.2.mono k⟩) r⟩
  | ins C fs => obtain ⟨dx, gs, q, r⟩ := h; exact ⟨dx, gs, e _ q, paired_mono (fun p q h => ⟨h.1, h.2.mono k⟩) r⟩
section
variable {B : Bs} {G : DG} {H : Hp} {p : Addr} {o : HO} {d : DO}
theorem kp_new (h : H p = none) : Kp B.K H (L2.upd H p o) := by
  refine ⟨fun a xs q => ?_, fun a xs q => ?_⟩
  · rcases q with (q | ⟨ob, q⟩) | q
    · exact .inl (.inl (by rw [upd_ne (ne_of_none q h)]; exact q))
    · exact .inl (.inr ⟨ob, by rw [upd_ne (ne_of_none q h)]; exact q⟩)
    · exact .inr q
  · rcases q with ⟨ob, q⟩ | q
    · exact .inl ⟨ob, by rw [upd_ne (ne_of_none q h)]; exact q⟩
    · exact .inr q
/-- a thing that the store does not tell (a tuple) is laid -/
theorem wld_hid (w : Wld B G H) (h : H p = none) : Wld B G (L2.upd H p o) := fun a u e => by
  obtain ⟨x, q, _⟩ := (w a u e).live
  exact (w a u e).mono (kp_new h) fun y z => by rw [upd_ne (ne_of_none z h)]; exact z
theorem fm_hid (h : H p = none) : Fm G H G (L2.upd H p o) := fun a u e n => ⟨by rw [upd_ne (ne_of_none e h)]; exact e, n⟩
/-- a new object of the store -/
theorem wld_new (w : Wld B G H) (h : H p = none) (ok : OkO B (L2.upd H p o) p d) : Wld B (G.upd p d) (L2.upd H p o) := fun a u e => by
  by_cases ha : a = p
  · subst ha
    rw [gupd_same] at e; cases e
    exact ok
  · rw [gupd_ne ha] at e
    exact wld_hid w h a u e
theorem fm_new (h : H p = none) : Fm G H (G.upd p d) (L2.upd H p o) := fun a u e n => by
  have ne := ne_of_none e h
  rw [upd_ne ne, gupd_ne ne]
  exact ⟨e, n⟩
/-- an object of the store is changed -/
theorem kp_set (w : Wld B G H) {d0 : DO} (e : G p = some d0) : Kp B.K H (L2.upd H p o) := by
  obtain ⟨u, q, n1, n2⟩ := (w p d0 e).live
  refine ⟨fun a xs z => ?_, fun a xs z => ?_⟩
  · rcases z with (z | ⟨ob, z⟩) | z
    · exact .inl (.inl (by rw [upd_ne (ne_of z q (n1 _).symm)]; exact z))
    · exact .inl (.inr ⟨ob, by rw [upd_ne (ne_of z q (n2 _ _).symm)]; exact z⟩)
    · exact .inr z
  · rcases z with ⟨ob, z⟩ | z
    · exact .inl ⟨ob, by rw [upd_ne (ne_of z q (n2 _ _).symm)]; exact z⟩
    · exact .inr z
theorem wld_set (w : Wld B G H) {d0 : DO} (e : G p = some d0) (ok : OkO B (L2.upd H p o) p d) : Wld B (G.upd p d) (L2.upd H p o) := fun a u q => by
  by_cases ha : a = p
  · subst ha
    rw [gupd_same] at q; cases q
    exact ok
  · rw [gupd_ne ha] at q
    exact (w a u q).mono (kp_set w e) fun y z => by rw [upd_ne ha]; exact z
theorem fm_set (w : Wld B G H) {d0 : DO} (e : G p = some d0) : Fm G H (G.upd p d) (L2.upd H p o) := fun a u q n => by
  have ne : a ≠ p := fun z => by subst z; rw [e] at n; cases n
  rw [upd_ne ne, gupd_ne ne]
  exact ⟨q, n⟩
end

/-! ### slots -/
abbrev DSt := List (Option D)
def RpO (K : PySem.W.Frag) (H : Hp) : Option D → Option V → Prop
  | none, _ => True
  | some d, some v => Rp K H d v
  | some _, none => False
abbrev RpS (K : PySem.W.Frag) (H : Hp) (ρ : DSt) (σ : St) : Prop := Paired (RpO K H) ρ σ
theorem RpO.mono {K : PySem.W.Frag} {H H' : Hp} (k : Kp K H H') : ∀ {d : Option D} {v : Option V}, RpO K H d v → RpO K H' d v
  | none, _, _ => True.intro
  | some _, some _, h => Rp.mono k h
  | some _, none, h => h.elim
theorem RpS.mono {K : PySem.W.Frag} {H H' : Hp} (k : Kp K H H') {ρ : DSt} {σ : St} (h : RpS K H ρ σ) : RpS K H' ρ σ := paired_mono (fun _ _ q => RpO.mono k q) h
theorem RpS.get {K : PySem.W.Frag} {H : Hp} : ∀ {ρ : DSt} {σ : St} {i : Nat} {d : D}, RpS K H ρ σ → ρ[i]? = some (some d) → ∃ v, σ[i]? = some (some v) ∧ Rp K H d v
  | _, _, _, _, .nil, e => by simp at e
  | _, _, 0, d, .cons (a := x) (b := y) r t, e => by
    have q : x = some d := Option.some.inj e
    subst q
    cases y with
    | none => exact r.elim
    | some v => exact ⟨v, rfl, r⟩
  | _, _, i + 1, d, .cons r t, e => RpS.get (i := i) t e
theorem RpS.set {K : PySem.W.Frag} {H : Hp} {d : Option D} {v : Option V} (q : RpO K H d v) : ∀ {ρ : DSt} {σ : St} (i : Nat), RpS K H ρ σ → RpS K H (ρ.set i d) (σ.set i v)
  | _, _, _, .nil => .nil
  | _, _, 0, .cons r t => .cons q t
  | _, _, i + 1, .cons r t => .cons r (RpS.set q i t)
def wipeD (ρ : DSt) : List Nat → DSt
  | [] => ρ
  | v :: vs => (wipeD ρ vs).set v none
theorem RpS.wipe {K : PySem.W.Frag} {H : Hp} {ρ : DSt} {σ : St} (h : RpS K H ρ σ) : ∀ vs : List Nat, RpS K H (wipeD ρ vs) (L2.wipe σ vs)
  | [] => h
  | v :: vs => RpS.set (d := none) (v := none) True.intro v (RpS.wipe h vs)
def startD (N : List Str) (ds : List D) : DSt := ds.map some ++ List.replicate (N.length - ds.length) none
theorem RpS.start {K : PySem.W.Frag} {H : Hp} : ∀ {n : Nat} {ds : List D} {vs : List V}, RpL K H ds vs → RpS K H (ds.map some ++ List.replicate n none) (vs.map some ++ List.replicate n none)
  | n, [], vs, h => by
    rw [rpl_nil.mp h]
    show RpS K H (List.replicate n none) (List.replicate n none)
    induction n with
    | zero => exact .nil
    | succ n ih => exact .cons True.intro ih
  | n, d :: ds, vs, h => by
    obtain ⟨y, ys, rfl, r, t⟩ := rpl_cons.mp h
    exact .cons r (RpS.start t)
end FD

/-! FD2: readings over the data level, their judgements, the rules of expressions, statements, loops, comprehensions, calls. -/
namespace FD
open PySem L2
abbrev DK := D → DG → Prop
abbrev DE := DSt → DG → DK → Prop
abbrev DT := DSt → DG → (Bool → DG → Prop) → Prop
abbrev DA := DSt → DG → (List D → DG → Prop) → Prop
structure DEnds where
  nx : DSt → DG → Prop
  rt : DK
  bk : DSt → DG → Prop := fun _ _ => False
  ct : DSt → DG → Prop := fun _ _ => False
abbrev DS := DEnds → DSt → DG → Prop
/-- from what is wanted at the data level to what is wanted at the layer below -/
def Kt (B : Bs) (G : DG) (H : Hp) (Q : DK) (R : VK) : Prop := ∀ d v G' H', Rp B.K H' d v → Wld B G' H' → Fm G H G' H' → Q d G' → R v H'
def KtT (B : Bs) (G : DG) (H : Hp) (Q : Bool → DG → Prop) (R : Bool → Hp → Prop) : Prop := ∀ b G' H', Wld B G' H' → Fm G H G' H' → Q b G' → R b H'
def KtA (B : Bs) (G : DG) (H : Hp) (Q : List D → DG → Prop) (R : List V → Hp → Prop) : Prop := ∀ ds vs G' H', RpL B.K H' ds vs → Wld B G' H' → Fm G H G' H' → Q ds G' → R vs H'
def KtS (B : Bs) (G : DG) (H : Hp) (Q : DSt → DG → Prop) (R : St → Hp → Prop) : Prop := ∀ ρ σ G' H', RpS B.K H' ρ σ → Wld B G' H' → Fm G H G' H' → Q ρ G' → R σ H'
section
variable {B : Bs} {G G1 : DG} {H H1 : Hp}
theorem Kt.aft {Q : DK} {R : VK} (k : Kt B G H Q R) (f : Fm G H G1 H1) : Kt B G1 H1 Q R := fun d v G' H' r w f' q => k d v G' H' r w (f.trans f') q
theorem KtT.aft {Q : Bool → DG → Prop} {R : Bool → Hp → Prop} (k : KtT B G H Q R) (f : Fm G H G1 H1) : KtT B G1 H1 Q R := fun b G' H' w f' q => k b G' H' w (f.trans f') q
theorem KtA.aft {Q : List D → DG → Prop} {R : List V → Hp → Prop} (k : KtA B G H Q R) (f : Fm G H G1 H1) : KtA B G1 H1 Q R := fun d v G' H' r w f' q => k d v G' H' r w (f.trans f') q
theorem KtS.aft {Q : DSt → DG → Prop} {R : St → Hp → Prop} (k : KtS B G H Q R) (f : Fm G H G1 H1) : KtS B G1 H1 Q R := fun d v G' H' r w f' q => k d v G' H' r w (f.trans f') q
end
structure KtE (B : Bs) (G : DG) (H : Hp) (E : DEnds) (F : Ends) : Prop where
  nx : KtS B G H E.nx F.nx
  rt : Kt B G H E.rt F.rt
  bk : KtS B G H E.bk F.bk
  ct : KtS B G H E.ct F.ct
theorem KtE.aft {B : Bs} {G G1 : DG} {H H1 : Hp} {E : DEnds} {F : Ends} (k : KtE B G H E F) (f : Fm G H G1 H1) : KtE B G1 H1 E F := ⟨k.nx.aft f, k.rt.aft f, k.bk.aft f, k.ct.aft f⟩
def LkE (B : Bs) (te : TE) (t : DE) : Prop := ∀ ρ σ G H Q R, RpS B.K H ρ σ → Wld B G H → t ρ G Q → Kt B G H Q R → te σ H R
def LkT (B : Bs) (te : TT) (t : DT) : Prop := ∀ ρ σ G H Q R, RpS B.K H ρ σ → Wld B G H → t ρ G Q → KtT B G H Q R → te σ H R
def LkA (B : Bs) (te : TA) (t : DA) : Prop := ∀ ρ σ G H Q R, RpS B.K H ρ σ → Wld B G H → t ρ G Q → KtA B G H Q R → te σ H R
def LkS (B : Bs) (te : TS) (t : DS) : Prop := ∀ ρ σ G H E F, RpS B.K H ρ σ → Wld B G H → t E ρ G → KtE B G H E F → te F σ H
structure PD (X : Cx) (e : Expr) (t : DE) : Prop where
  ex : ∃ te, PE X e te ∧ LkE (bs X) te t
structure PDT (X : Cx) (e : Expr) (t : DT) : Prop where
  ex : ∃ te, PT X e te ∧ LkT (bs X) te t
structure PDW (X : Cx) (e : Expr) (t : DT) : Prop where
  ex : ∃ te, PW X e te ∧ LkT (bs X) te t
structure PDA (X : Cx) (es : List Expr) (t : DA) : Prop where
  ex : ∃ te, PA X es te ∧ LkA (bs X) te t
structure PDS (X : Cx) (st : Stmt) (t : DS) : Prop where
  ex : ∃ te, PS X st te ∧ LkS (bs X) te t
structure PDSs (X : Cx) (st : List Stmt) (t : DS) : Prop where
  ex : ∃ te, PSs X st te ∧ LkS (bs X) te t
/-! ### names and constants -/
def dVar (i : Nat) : DE := fun ρ G Q => match ρ[i]? with
  | some (some d) => Q d G
  | _ => False
def dC (d : D) : DE := fun _ G Q => Q d G
section
variable {X : Cx} {pos : Pos}
theorem pd_var (i : Nat) {x : Str} (hN : X.N[i]? = some x := by rfl) (hv : Vis X.env.scope x := by first | exact Or.inl rfl | exact Or.inr (Or.inl rfl) | exact Or.inr (Or.inr rfl)) (hd : (x == ("__debug__" : Str)) = false := by decide)
    (hcd : (x == ("__classdict__" : Str)) = false := by decide) : PD X (.Name x pos) (dVar i) := ⟨tVar i, pe_var hN hv hd hcd, fun ρ σ G H Q R s w h k => by
  unfold dVar at h
  split at h
  · rename_i d e
    obtain ⟨v, e1, r⟩ := s.get e
    exact ⟨v, e1, k d v G H r w Fm.refl h⟩
  · exact h.elim⟩
theorem pd_c {e : Expr} {v : V} {d : D} (h : PE X e (tC v)) (r : ∀ K H, Rp K H d v) : PD X e (dC d) := ⟨_, h, fun ρ σ G H Q R s w h k => k d v G H (r _ _) w Fm.refl h⟩
theorem pd_int {i : Int} {j} : PD X (.Constant (.int i) j pos) (dC (.int i)) := pd_c pe_int fun _ _ => rp_int.mpr rfl
theorem pd_bl {b : Bool} {j} : PD X (.Constant (.bool b) j pos) (dC (.bl b)) := pd_c pe_bl fun _ _ => rp_bl.mpr rfl
theorem pd_non {j} : PD X (.Constant .none j pos) (dC .non) := pd_c pe_non fun _ _ => rp_non.mpr rfl
theorem pd_str {x : Str} {j} : PD X (.Constant (.str x) j pos) (dC (.str x)) := pd_c pe_str fun _ _ => rp_str.mpr rfl
/-- a module's constant -/
theorem pd_gstr {x : Str} {y : Str} {u : Value} (hg : Gl X x) (hm : X.mg x = some u) (r : RelV (.str y) u) (hd : (x == ("__debug__" : Str)) = false := by decide) : PD X (.Name x pos) (dC (.str y)) := pd_c (pe_glob hg hm r hd) fun _ _ => rp_str.mpr rfl
theorem pd_gint {x : Str} {y : Int} {u : Value} (hg : Gl X x) (hm : X.mg x = some u) (r : RelV (.int y) u) (hd : (x == ("__debug__" : Str)) = false := by decide) : PD X (.Name x pos) (dC (.int y)) := pd_c (pe_glob hg hm r hd) fun _ _ => rp_int.mpr rfl
theorem pd_gref {x : Str} {a : Addr} (hg : Gl X x) (hm : X.mg x = some (.ref a)) (hd : (x == ("__debug__" : Str)) = false := by decide) : PD X (.Name x pos) (dC (.ref a)) := pd_c (v := .ref a) (pe_glob hg hm rfl hd) fun _ _ => rp_ref.mpr rfl
theorem pd_ty {x : Str} {n : String} (hg : Gl X x) (hm : X.mg x = none) (hv : bootBuiltins x = some (.type n)) (hn : x ≠ "__name__" := by decide) (hd : (x == ("__debug__" : Str)) = false := by decide) : PD X (.Name x pos) (dC (.ty n)) :=
  pd_c (pe_bltn (v := .ty n) hg hm hv rfl hn hd) fun _ _ => rp_ty.mpr rfl
end
/-! ### arguments, displays -/
def dNil : DA := fun _ G Q => Q [] G
def dCons (t : DE) (r : DA) : DA := fun ρ G Q => t ρ G fun x G1 => r ρ G1 fun xs G2 => Q (x :: xs) G2
def dTup (t : DA) : DE := fun ρ G Q => t ρ G fun xs G1 => xs.length ≤ sizeLine ∧ Q (.tup xs) G1
def dLst (t : DA) : DE := fun ρ G Q => t ρ G fun xs G1 => xs.length ≤ sizeLine ∧ ∀ p, G1 p = none → Q (.ref p) (G1.upd p (.lst xs))
section
variable {X : Cx} {pos : Pos} {e : Expr} {es : List Expr} {t : DE} {r : DA}
theorem pda_nil : PDA X [] dNil := ⟨tNil, pa_nil, fun ρ σ G H Q R s w h k => k [] [] G H RpL.nil w Fm.refl h⟩
theorem pda_cons (h1 : PD X e t) (h2 : PDA X es r) (hs : starEach (e :: es) X.env = (false, eval e X.env) :: starEach es X.env := by rfl) : PDA X (e :: es) (dCons t r) := by
  obtain ⟨te, p1, l1⟩ := h1
  obtain ⟨ta, p2, l2⟩ := h2
  refine ⟨tCons te ta, pa_cons p1 p2 hs, fun ρ σ G H Q R s w h k => ?_⟩
  refine l1 ρ σ G H _ _ s w h fun x v G1 H1 r1 w1 f1 q1 => ?_
  refine l2 ρ σ G1 H1 _ _ (s.mono (f1.kp w)) w1 q1 fun xs vs G2 H2 r2 w2 f2 q2 => ?_
  exact k _ _ G2 H2 (RpL.cons (r1.mono (f2.kp w1)) r2) w2 (f1.trans f2) q2
theorem pd_tup {k1} (h : PDA X es r) : PD X (.Tuple es k1 pos) (dTup r) := by
  obtain ⟨ta, p, l⟩ := h
  refine ⟨tTup ta, pe_tup p, fun ρ σ G H Q R s w h k => ?_⟩
  refine l ρ σ G H _ _ s w h fun xs vs G1 H1 r1 w1 f1 q1 => ⟨by rw [← r1.length]; exact q1.1, fun a ha => ?_⟩
  exact k _ _ G1 _ (rp_tup.mpr ⟨a, vs, rfl, SqT.of upd_same, r1.mono (kp_new (B := bs X) ha)⟩) (wld_hid w1 ha) (f1.trans (fm_hid ha)) q1.2
theorem pd_lst (h : PDA X es r) : PD X (.List es pos) (dLst r) := by
  obtain ⟨ta, p, l⟩ := h
  refine ⟨tLst ta, pe_lst p, fun ρ σ G H Q R s w h k => ?_⟩
  refine l ρ σ G H _ _ s w h fun xs vs G1 H1 r1 w1 f1 q1 => ⟨by rw [← r1.length]; exact q1.1, fun a ha => ?_⟩
  refine k _ _ _ _ (rp_ref.mpr rfl) (wld_new (d := .lst xs) w1 ha ⟨vs, upd_same, r1.mono (kp_new (B := bs X) ha)⟩) (f1.trans (fm_new ha)) (q1.2 a (w1.none ha))
end
/-! ### operators -/
abbrev R2D := D → D → DG → DK → Prop
def LkR (B : Bs) (r : R2) (rd : R2D) : Prop := ∀ x y v u G H Q R, Rp B.K H x v → Rp B.K H y u → Wld B G H → rd x y G Q → Kt B G H Q R → r v u H R
def dOp (rd : R2D) (ta tb : DE) : DE := fun ρ G Q => ta ρ G fun x G1 => tb ρ G1 fun y G2 => rd x y G2 Q
theorem lk_op {B : Bs} {r : R2} {rd : R2D} {ta tb : TE} {da db : DE} (hl : LkR B r rd) (ha : LkE B ta da) (hb : LkE B tb db) : LkE B (tOp r ta tb) (dOp rd da db) := fun ρ σ G H Q R s w h k => by
  refine ha ρ σ G H _ _ s w h fun x v G1 H1 r1 w1 f1 q1 => ?_
  refine hb ρ σ G1 H1 _ _ (s.mono (f1.kp w)) w1 q1 fun y u G2 H2 r2 w2 f2 q2 => ?_
  exact hl x y v u G2 H2 Q R (r1.mono (f2.kp w1)) r2 w2 q2 (k.aft (f1.trans f2))
section
variable {X : Cx} {pos : Pos} {a b c : Expr} {da db dc : DE} {r r' : R2} {rd rd' : R2D}
theorem pd_op {op : Operator} (ho : OpR X (binaryOp op) r) (hl : LkR (bs X) r rd) (ha : PD X a da) (hb : PD X b db) : PD X (.BinOp a op b pos) (dOp rd da db) := by
  obtain ⟨ta, pa, la⟩ := ha
  obtain ⟨tb, pb, lb⟩ := hb
  exact ⟨tOp r ta tb, pe_op ho pa pb, lk_op hl la lb⟩
theorem pd_cmp {op : CmpOp} (ho : OpR X (compareOp op) r) (hl : LkR (bs X) r rd) (ha : PD X a da) (hb : PD X b db) (hm : behindInMarks op b = false) : PD X (.Compare a [op] [b] pos) (dOp rd da db) := by
  obtain ⟨ta, pa, la⟩ := ha
  obtain ⟨tb, pb, lb⟩ := hb
  exact ⟨tOp r ta tb, pe_cmpR ho pa pb hm, lk_op hl la lb⟩
/-- a value that is a truth value -/
def dBool (t : DE) : DT := fun ρ G Q => t ρ G fun x G1 => match x with
  | .bl b => Q b G1
  | _ => False
theorem lk_test {B : Bs} {t : TE} {d : DE} (h : LkE B t d) : LkT B (tTest t) (dBool d) := fun ρ σ G H Q R s w q k => by
  refine h ρ σ G H _ _ s w q fun x v G1 H1 r1 w1 f1 q1 => ?_
  cases x with
  | bl b => exact ⟨b, rp_bl.mp r1, k b G1 H1 w1 f1 q1⟩
  | _ => exact q1.elim
theorem pdt_cmp {op : CmpOp} (ho : OpR X (compareOp op) r) (hl : LkR (bs X) r rd) (ha : PD X a da) (hb : PD X b db) (hm : behindInMarks op b = false) : PDT X (.Compare a [op] [b] pos) (dBool (dOp rd da db)) := by
  obtain ⟨ta, pa, la⟩ := ha
  obtain ⟨tb, pb, lb⟩ := hb
  exact ⟨tTest (tOp r ta tb), pt_cmpR ho pa pb hm, lk_test (lk_op hl la lb)⟩
def dChain (rd rd' : R2D) (ta tb tc : DE) : DE := fun ρ G Q => ta ρ G fun x G1 => tb ρ G1 fun y G2 => rd x y G2 fun z G3 => match z with
  | .bl k => if k = true then tc ρ G3 fun u G4 => rd' y u G4 Q else Q (.bl false) G3
  | _ => False
theorem lk_chain {B : Bs} {ta tb tc : TE} (hl : LkR B r rd) (hl' : LkR B r' rd') (ha : LkE B ta da) (hb : LkE B tb db) (hc : LkE B tc dc) : LkE B (tChain r r' ta tb tc) (dChain rd rd' da db dc) := fun ρ σ G H Q R s w h k => by
  refine ha ρ σ G H _ _ s w h fun x v G1 H1 r1 w1 f1 q1 => ?_
  refine hb ρ σ G1 H1 _ _ (s.mono (f1.kp w)) w1 q1 fun y u G2 H2 r2 w2 f2 q2 => ?_
  refine hl x y v u G2 H2 _ _ (r1.mono (f2.kp w1)) r2 w2 q2 fun z vz G3 H3 r3 w3 f3 q3 => ?_
  cases z with
  | bl b =>
    refine ⟨b, rp_bl.mp r3, ?_⟩
    cases b with
    | false => exact k _ _ G3 H3 (rp_bl.mpr rfl) w3 ((f1.trans f2).trans f3) q3
    | true =>
      refine hc ρ σ G3 H3 _ _ (s.mono (((f1.trans f2).trans f3).kp w)) w3 q3 fun z' vz' G4 H4 r4 w4 f4 q4 => ?_
      exact hl' y z' u vz' G4 H4 Q R (r2.mono ((f3.trans f4).kp w2)) r4 w4 q4 (k.aft (((f1.trans f2).trans f3).trans f4))
  | _ => exact q3.elim
theorem pd_chain {op op' : CmpOp} (ho : OpR X (compareOp op) r) (ho' : OpR X (compareOp op') r') (hl : LkR (bs X) r rd) (hl' : LkR (bs X) r' rd') (ha : PD X a da) (hb : PD X b db) (hc : PD X c dc)
    (hm : lastMarks [op, op'] [b, c] = false := by with_unfolding_all rfl) : PD X (.Compare a [op, op'] [b, c] pos) (dChain rd rd' da db dc) := by
  obtain ⟨ta, pa, la⟩ := ha
  obtain ⟨tb, pb, lb⟩ := hb
  obtain ⟨tc, pc, lc⟩ := hc
  exact ⟨_, pe_chain ho ho' pa pb pc hm, lk_chain hl hl' la lb lc⟩
theorem pdt_chain {op op' : CmpOp} (ho : OpR X (compareOp op) r) (ho' : OpR X (compareOp op') r') (hl : LkR (bs X) r rd) (hl' : LkR (bs X) r' rd') (ha : PD X a da) (hb : PD X b db) (hc : PD X c dc)
    (hm : lastMarks [op, op'] [b, c] = false := by with_unfolding_all rfl) : PDT X (.Compare a [op, op'] [b, c] pos) (dBool (dChain rd rd' da db dc)) := by
  obtain ⟨ta, pa, la⟩ := ha
  obtain ⟨tb, pb, lb⟩ := hb
  obtain ⟨tc, pc, lc⟩ := hc
  exact ⟨_, pt_chain ho ho' pa pb pc hm, lk_test (lk_chain hl hl' la lb lc)⟩
end
/-! ### truth; and, or, not, if-else -/
def trD (x : D) (G : DG) (Q : Bool → DG → Prop) : Prop := match x with
  | .non => Q false G
  | .bl b => Q b G
  | .int i => Q (i != 0) G
  | .str y => y.length ≤ sizeLine ∧ Q ((y.length : Int) != 0) G
  | .tup ds => Q (!ds.isEmpty) G
  | .fl ds => Q (!ds.isEmpty) G
  | .ref a => ∃ ds, G a = some (.lst ds) ∧ Q (!ds.isEmpty) G
  | .ty _ => False
theorem RpL.isEmpty {K : PySem.W.Frag} {H : Hp} {ds : List D} {xs : List V} (h : RpL K H ds xs) : (!ds.isEmpty) = !xs.isEmpty := by
  cases ds with
  | nil => rw [rpl_nil.mp h]; rfl
  | cons d ds => obtain ⟨y, ys, rfl, _⟩ := rpl_cons.mp h; rfl
theorem tr_lk {B : Bs} {x : D} {v : V} {G : DG} {H : Hp} {Q : Bool → DG → Prop} (r : Rp B.K H x v) (w : Wld B G H) (h : trD x G Q) : ∃ k, TruV B.K v H k ∧ Q k G := by
  cases x with
  | non => rw [rp_non.mp r]; exact ⟨false, rfl, h⟩
  | bl b => rw [rp_bl.mp r]; exact ⟨b, rfl, h⟩
  | int i => rw [rp_int.mp r]; exact ⟨_, rfl, h⟩
  | str y => rw [rp_str.mp r]; exact ⟨_, ⟨h.1, rfl⟩, h.2⟩
  | tup ds =>
    obtain ⟨a, xs, rfl, q, rl⟩ := rp_tup.mp r
    exact ⟨_, .inr (.inl ⟨xs, q, rl.isEmpty⟩), h⟩
  | fl ds =>
    obtain ⟨a, xs, rfl, q, rl⟩ := rp_fl.mp r
    exact ⟨_, .inl ⟨xs, q.sq, rl.isEmpty⟩, h⟩
  | ref a =>
    obtain ⟨ds, e, q⟩ := h
    rw [rp_ref.mp r]
    obtain ⟨xs, e2, rl⟩ := w a _ e
    exact ⟨_, .inl ⟨xs, SqL.of e2, rl.isEmpty⟩, q⟩
  | ty n => exact h.elim
def dTru (t : DE) : DT := fun ρ G Q => t ρ G fun x G1 => trD x G1 Q
def dAndT (t u : DT) : DT := fun ρ G Q => t ρ G fun c G1 => if c = true then u ρ G1 Q else Q false G1
def dOrT (t u : DT) : DT := fun ρ G Q => t ρ G fun c G1 => if c = true then Q true G1 else u ρ G1 Q
def dNotT (t : DT) : DT := fun ρ G Q => t ρ G fun c G1 => Q (!c) G1
def dAnd (ta tb : DE) : DE := fun ρ G Q => ta ρ G fun x G1 => trD x G1 fun k G2 => if k = true then tb ρ G2 Q else Q x G2
def dOr (ta tb : DE) : DE := fun ρ G Q => ta ρ G fun x G1 => trD x G1 fun k G2 => if k = true then Q x G2 else tb ρ G2 Q
def dNot (ta : DE) : DE := fun ρ G Q => ta ρ G fun x G1 => trD x G1 fun k G2 => Q (.bl (!k)) G2
def dIf (t : DT) (ta tb : DE) : DE := fun ρ G Q => t ρ G fun c G1 => if c = true then ta ρ G1 Q else tb ρ G1 Q
theorem trD_G {x : D} {G : DG} {Q : Bool → DG → Prop} (h : trD x G Q) : ∃ k, Q k G ∧ ∀ Q', Q' k G → trD x G Q' := by
  cases x with
  | non => exact ⟨_, h, fun _ q => q⟩
  | bl b => exact ⟨_, h, fun _ q => q⟩
  | int i => exact ⟨_, h, fun _ q => q⟩
  | str y => exact ⟨_, h.2, fun _ q => ⟨h.1, q⟩⟩
  | tup ds => exact ⟨_, h, fun _ q => q⟩
  | fl ds => exact ⟨_, h, fun _ q => q⟩
  | ref a => obtain ⟨ds, e, q⟩ := h; exact ⟨_, q, fun _ q => ⟨ds, e, q⟩⟩
  | ty n => exact h.elim
section
variable {X : Cx} {pos : Pos} {a b c e : Expr} {rest : List Expr} {da db : DE} {ta tb : DT}
theorem pdt_tru (h : PD X a da) (he : ∀ whole, isTrue a X.env whole = (do let v ← whole; standAt a.pos; holding [v] (truthy v)) := by intro _; rfl) : PDT X a (dTru da) := by
  obtain ⟨te, p, l⟩ := h
  refine ⟨_, pt_truth p he, fun ρ σ G H Q R s w q k => ?_⟩
  refine l ρ σ G H _ _ s w q fun x v G1 H1 r1 w1 f1 q1 => ?_
  obtain ⟨c, t, qq⟩ := tr_lk r1 w1 q1
  exact ⟨c, t, k c G1 H1 w1 f1 qq⟩
theorem PDW.pt (h : PDW X e ta) : PDT X e ta := let ⟨te, p, l⟩ := h.ex; ⟨te, p.pt, l⟩
theorem pdw_and1 (h : PDT X a ta) : PDW X (.BoolOp .And [a] pos) ta := let ⟨te, p, l⟩ := h.ex; ⟨te, pw_and1 p, l⟩
theorem pdw_or1 (h : PDT X a ta) : PDW X (.BoolOp .Or [a] pos) ta := let ⟨te, p, l⟩ := h.ex; ⟨te, pw_or1 p, l⟩
theorem pdw_and (h : PDT X a ta) (h2 : PDW X (.BoolOp .And (b :: rest) pos) tb) : PDW X (.BoolOp .And (a :: b :: rest) pos) (dAndT ta tb) := by
  obtain ⟨te, p, l⟩ := h
  obtain ⟨te2, p2, l2⟩ := h2
  refine ⟨_, pw_and p p2, fun ρ σ G H Q R s w q k => ?_⟩
  refine l ρ σ G H _ _ s w q fun c G1 H1 w1 f1 q1 => ?_
  cases c with
  | true => exact l2 ρ σ G1 H1 Q R (s.mono (f1.kp w)) w1 q1 (k.aft f1)
  | false => exact k false G1 H1 w1 f1 q1
theorem pdw_or (h : PDT X a ta) (h2 : PDW X (.BoolOp .Or (b :: rest) pos) tb) : PDW X (.BoolOp .Or (a :: b :: rest) pos) (dOrT ta tb) := by
  obtain ⟨te, p, l⟩ := h
  obtain ⟨te2, p2, l2⟩ := h2
  refine ⟨_, pw_or p p2, fun ρ σ G H Q R s w q k => ?_⟩
  refine l ρ σ G H _ _ s w q fun c G1 H1 w1 f1 q1 => ?_
  cases c with
  | true => exact k true G1 H1 w1 f1 q1
  | false => exact l2 ρ σ G1 H1 Q R (s.mono (f1.kp w)) w1 q1 (k.aft f1)
theorem pdt_not (h : PDT X a ta) : PDT X (.UnaryOp .Not a pos) (dNotT ta) := by
  obtain ⟨te, p, l⟩ := h
  refine ⟨_, pt_not p, fun ρ σ G H Q R s w q k => ?_⟩
  exact l ρ σ G H _ _ s w q fun c G1 H1 w1 f1 q1 => k (!c) G1 H1 w1 f1 q1
theorem pd_one {op} (h : PD X a da) : PD X (.BoolOp op [a] pos) da := let ⟨te, p, l⟩ := h.ex; ⟨te, pe_one p, l⟩
theorem pd_and (h : PD X a da) (h2 : PD X (.BoolOp .And (b :: rest) pos) db) : PD X (.BoolOp .And (a :: b :: rest) pos) (dAnd da db) := by
  obtain ⟨te, p, l⟩ := h
  obtain ⟨te2, p2, l2⟩ := h2
  refine ⟨_, pe_andT p p2, fun ρ σ G H Q R s w q k => ?_⟩
  refine l ρ σ G H _ _ s w q fun x v G1 H1 r1 w1 f1 q1 => ?_
  obtain ⟨c, t, qq⟩ := tr_lk r1 w1 q1
  refine ⟨c, t, ?_⟩
  cases c with
  | true => exact l2 ρ σ G1 H1 Q R (s.mono (f1.kp w)) w1 qq (k.aft f1)
  | false => exact k x v G1 H1 r1 w1 f1 qq
theorem pd_or (h : PD X a da) (h2 : PD X (.BoolOp .Or (b :: rest) pos) db) : PD X (.BoolOp .Or (a :: b :: rest) pos) (dOr da db) := by
  obtain ⟨te, p, l⟩ := h
  obtain ⟨te2, p2, l2⟩ := h2
  refine ⟨_, pe_orT p p2, fun ρ σ G H Q R s w q k => ?_⟩
  refine l ρ σ G H _ _ s w q fun x v G1 H1 r1 w1 f1 q1 => ?_
  obtain ⟨c, t, qq⟩ := tr_lk r1 w1 q1
  refine ⟨c, t, ?_⟩
  cases c with
  | true => exact k x v G1 H1 r1 w1 f1 qq
  | false => exact l2 ρ σ G1 H1 Q R (s.mono (f1.kp w)) w1 qq (k.aft f1)
theorem pd_not (h : PD X a da) : PD X (.UnaryOp .Not a pos) (dNot da) := by
  obtain ⟨te, p, l⟩ := h
  refine ⟨_, pe_notT p, fun ρ σ G H Q R s w q k => ?_⟩
  refine l ρ σ G H _ _ s w q fun x v G1 H1 r1 w1 f1 q1 => ?_
  obtain ⟨c, t, qq⟩ := tr_lk r1 w1 q1
  exact ⟨c, t, k _ _ G1 H1 (rp_bl.mpr rfl) w1 f1 qq⟩
theorem pd_if (h : PDT X c ta) (h1 : PD X a da) (h2 : PD X b db) : PD X (.IfExp c a b pos) (dIf ta da db) := by
  obtain ⟨te, p, l⟩ := h
  obtain ⟨te1, p1, l1⟩ := h1
  obtain ⟨te2, p2, l2⟩ := h2
  refine ⟨_, pe_ifExp p p1 p2, fun ρ σ G H Q R s w q k => ?_⟩
  refine l ρ σ G H _ _ s w q fun c G1 H1 w1 f1 q1 => ?_
  cases c with
  | true => exact l1 ρ σ G1 H1 Q R (s.mono (f1.kp w)) w1 q1 (k.aft f1)
  | false => exact l2 ρ σ G1 H1 Q R (s.mono (f1.kp w)) w1 q1 (k.aft f1)
end
/-! ### statements -/
def dNext : DS := fun E ρ G => E.nx ρ G
def dSeq (t u : DS) : DS := fun E ρ G => t { E with nx := u E } ρ G
def dBrk : DS := fun E ρ G => E.bk ρ G
def dCnt : DS := fun E ρ G => E.ct ρ G
def dDrop (t : DE) : DS := fun E ρ G => t ρ G fun _ G1 => E.nx ρ G1
def dRet (t : DE) : DS := fun E ρ G => t ρ G E.rt
def dRetN : DS := fun E _ G => E.rt .non G
def dIfS (c : DT) (t u : DS) : DS := fun E ρ G => c ρ G fun b G1 => if b = true then t E ρ G1 else u E ρ G1
abbrev DGt := D → DSt → DG → (DSt → DG → Prop) → Prop
def LkG (B : Bs) (g : TG) (dg : DGt) : Prop := ∀ d v ρ σ G H Q R, Rp B.K H d v → RpS B.K H ρ σ → Wld B G H → dg d ρ G Q → KtS B G H Q R → g v σ H R
structure PDG (X : Cx) (tg : Expr) (t : DGt) : Prop where
  ex : ∃ g, PG X tg g ∧ LkG (bs X) g t
abbrev DGts := List D → DSt → DG → (DSt → DG → Prop) → Prop
structure PDGs (X : Cx) (ts : List Expr) (t : DGts) : Prop where
  ex : ∃ g : TGs, PGs X ts g ∧ ∀ ds vs ρ σ G H Q R, RpL X.K H ds vs → RpS X.K H ρ σ → Wld (bs X) G H → t ds ρ G Q → KtS (bs X) G H Q R → g vs σ H R
def gnD (i : Nat) : DGt := fun d ρ G Q => Q (ρ.set i (some d)) G
def gtNil : DGts := fun ds ρ G Q => match ds with
  | [] => Q ρ G
  | _ => False
def gtCons (t : DGt) (u : DGts) : DGts := fun ds ρ G Q => match ds with
  | d :: r => t d ρ G fun ρ' G' => u r ρ' G' Q
  | [] => False
def gtD (n : Nat) (u : DGts) : DGt := fun d ρ G Q => match d with
  | .tup ds => ds.length = n ∧ u ds ρ G Q
  | _ => False
def dAsg (t : DE) (g : DGt) : DS := fun E ρ G => t ρ G fun x G1 => g x ρ G1 E.nx
def dPar (i j : Nat) (ta : DA) : DS := fun E ρ G => ta ρ G fun ds G1 => match ds with
  | [x, y] => E.nx ((ρ.set i (some x)).set j (some y)) G1
  | _ => False
section
variable {X : Cx} {pos : Pos} {st : Stmt} {sts a b : List Stmt} {e c : Expr} {t u : DS} {te : DE} {tc : DT} {g : DGt} {gs : DGts}
theorem pds_nil : PDSs X [] dNext := ⟨tNext, pss_nil, fun ρ σ G H E F s w h k => k.nx ρ σ G H s w Fm.refl h⟩
theorem pds_cons (h1 : PDS X st t) (h2 : PDSs X sts u) : PDSs X (st :: sts) (dSeq t u) := by
  obtain ⟨te, p, l⟩ := h1
  obtain ⟨te2, p2, l2⟩ := h2
  refine ⟨_, pss_cons p p2, fun ρ σ G H E F s w h k => ?_⟩
  exact l ρ σ G H _ _ s w h ⟨fun ρ' σ' G' H' s' w' f' q => l2 ρ' σ' G' H' E F s' w' q (k.aft f'), k.rt, k.bk, k.ct⟩
theorem pds_one (h1 : PDS X st t) : PDSs X [st] t := let ⟨te, p, l⟩ := h1.ex; ⟨te, pss_one p, l⟩
theorem pds_brk : PDS X (.Break pos) dBrk := ⟨tBreak, ps_break, fun ρ σ G H E F s w h k => k.bk ρ σ G H s w Fm.refl h⟩
theorem pds_cnt : PDS X (.Continue pos) dCnt := ⟨tCont, ps_continue, fun ρ σ G H E F s w h k => k.ct ρ σ G H s w Fm.refl h⟩
theorem pds_pass : PDS X (.Pass pos) dNext := ⟨tNext, ps_pass, fun ρ σ G H E F s w h k => k.nx ρ σ G H s w Fm.refl h⟩
theorem pds_expr (h : PD X e te) (hs : swapsWith e none pos.line X.env = pure false := by rfl) : PDS X (.Expr e pos) (dDrop te) := by
  obtain ⟨x, p, l⟩ := h
  refine ⟨_, ps_expr p hs, fun ρ σ G H E F s w h k => ?_⟩
  exact l ρ σ G H _ _ s w h fun d v G1 H1 r1 w1 f1 q1 => k.nx ρ σ G1 H1 (s.mono (f1.kp w)) w1 f1 q1
theorem pds_ret (h : PD X e te) : PDS X (.Return (some e) pos) (dRet te) := by
  obtain ⟨x, p, l⟩ := h
  exact ⟨_, ps_ret p, fun ρ σ G H E F s w h k => l ρ σ G H _ _ s w h k.rt⟩
theorem pds_retN : PDS X (.Return none pos) dRetN := ⟨_, ps_retN, fun ρ σ G H E F s w h k => k.rt _ _ G H (rp_non.mpr rfl) w Fm.refl h⟩
theorem pds_if (h : PDT X c tc) (h1 : PDSs X a t) (h2 : PDSs X b u) : PDS X (.If c a b pos) (dIfS tc t u) := by
  obtain ⟨x, p, l⟩ := h
  obtain ⟨x1, p1, l1⟩ := h1
  obtain ⟨x2, p2, l2⟩ := h2
  refine ⟨_, ps_if p p1 p2, fun ρ σ G H E F s w h k => ?_⟩
  refine l ρ σ G H _ _ s w h fun c G1 H1 w1 f1 q1 => ?_
  cases c with
  | true => exact l1 ρ σ G1 H1 E F (s.mono (f1.kp w)) w1 q1 (k.aft f1)
  | false => exact l2 ρ σ G1 H1 E F (s.mono (f1.kp w)) w1 q1 (k.aft f1)
theorem lk_name {B : Bs} (i : Nat) : LkG B (gName i) (gnD i) := fun d v ρ σ G H Q R r s w h k => k _ _ G H (s.set (d := some d) (v := some v) r i) w Fm.refl h
theorem pdg_name (i : Nat) {x : Str} (hN : X.N.Nodup) (hi : X.N[i]? = some x := by rfl) (hx : Loc X.env.scope x := by first | exact Or.inl rfl | exact Or.inr rfl) (hf : X.fn x = true ∨ X.env.scope.names.lookup x = some .local := by first | exact .inl rfl | exact .inr rfl | assumption) : PDG X (.Name x pos) (gnD i) :=
  ⟨gName i, pg_name hN hi hx hf, lk_name i⟩
theorem pdgs_nil : PDGs X [] gtNil := ⟨gNil, pgs_nil, fun ds vs ρ σ G H Q R r s w h k => by
  cases ds with
  | nil => exact ⟨rpl_nil.mp r, k ρ σ G H s w Fm.refl h⟩
  | cons d ds => exact h.elim⟩
theorem pdgs_cons {es : List Expr} (h1 : PDG X e g) (h2 : PDGs X es gs) (he : (assignEach (e :: es) X.env).map (·.2) = assign e X.env :: (assignEach es X.env).map (·.2) := by rfl) : PDGs X (e :: es) (gtCons g gs) := by
  obtain ⟨x, p, l⟩ := h1
  obtain ⟨x2, p2, l2⟩ := h2
  refine ⟨_, pgs_cons p p2 he, fun ds vs ρ σ G H Q R r s w h k => ?_⟩
  cases ds with
  | nil => exact h.elim
  | cons d ds =>
    obtain ⟨y, ys, rfl, r1, r2⟩ := rpl_cons.mp r
    refine ⟨y, ys, rfl, l d y ρ σ G H _ _ r1 s w h fun ρ' σ' G' H' s' w' f' q => ?_⟩
    exact l2 ds ys ρ' σ' G' H' Q R (r2.mono (f'.kp w)) s' w' q (k.aft f')
theorem pdg_tup {es : List Expr} {k1 : Nat} {n : Nat} (hc : X.calm = true) (h : PDGs X es gs) (hn : (assignEach es X.env).length = n := by rfl) (hst : (assignEach es X.env).findIdx? (·.1) = none := by rfl) : PDG X (.Tuple es k1 pos) (gtD n gs) := by
  obtain ⟨x, p, l⟩ := h
  refine ⟨_, pg_tup (n := n) hc p hn hst, fun d v ρ σ G H Q R r s w h k => ?_⟩
  cases d with
  | tup ds =>
    obtain ⟨a, xs, rfl, q, rl⟩ := rp_tup.mp r
    exact ⟨a, xs, rfl, q, by rw [← rl.length]; exact h.1, l ds xs ρ σ G H Q R rl s w h.2 k⟩
  | _ => exact h.elim
theorem pds_set (i : Nat) {x : Str} {pos' : Pos} (hN : X.N.Nodup) (h : PD X e te) (hi : X.N[i]? = some x := by rfl) (hx : Loc X.env.scope x := by first | exact Or.inl rfl | exact Or.inr rfl) (hs : swapsWith e (some (.Name x pos')) pos.line X.env = pure false := by rfl)
    (hf : X.fn x = true ∨ X.env.scope.names.lookup x = some .local := by first | exact .inl rfl | exact .inr rfl | assumption) : PDS X (.Assign [.Name x pos'] e pos) (dAsg te (gnD i)) := by
  obtain ⟨y, p, l⟩ := h
  refine ⟨_, ps_set hN hi hx p hs hf, fun ρ σ G H E F s w h k => ?_⟩
  exact l ρ σ G H _ _ s w h fun d v G1 H1 r1 w1 f1 q1 => k.nx _ _ G1 H1 ((s.mono (f1.kp w)).set (d := some d) (v := some v) r1 i) w1 f1 q1
theorem pds_asg {tg : Expr} (h : PD X e te) (hg : PDG X tg g) (hs : swapsWithSole [tg] e pos.line X.env = pure false := by rfl) (hw : swappedStores [tg] e X.env = pure none := by rfl)
    (h1 : (assignEach [tg] X.env).map (·.2) = [assign tg X.env] := by rfl) : PDS X (.Assign [tg] e pos) (dAsg te g) := by
  obtain ⟨y, p, l⟩ := h
  obtain ⟨y2, p2, l2⟩ := hg
  refine ⟨_, ps_asg p p2 hs hw h1, fun ρ σ G H E F s w h k => ?_⟩
  refine l ρ σ G H _ _ s w h fun d v G1 H1 r1 w1 f1 q1 => ?_
  exact l2 d v ρ σ G1 H1 _ _ r1 (s.mono (f1.kp w)) w1 q1 (k.nx.aft f1)
theorem pds_par (i j : Nat) {x y : Str} {e1 e2 : Expr} {ta : DA} {px py pt : Pos} {kt k2 pt2} (hc : X.calm = true) (hN : X.N.Nodup) (h : PDA X [e1, e2] ta) (hi : X.N[i]? = some x := by rfl) (hj : X.N[j]? = some y := by rfl) (hij : i ≠ j := by decide)
    (hx : X.env.scope.names.lookup x = some .local := by rfl) (hy : X.env.scope.names.lookup y = some .local := by rfl)
    (hw : swappedStores [.Tuple [.Name x px, .Name y py] kt pt] (.Tuple [e1, e2] k2 pt2) X.env = pure (some [x, y]) := by rfl)
    (hs : swapsWithSole [.Tuple [.Name x px, .Name y py] kt pt] (.Tuple [e1, e2] k2 pt2) pos.line X.env = pure false := by rfl) :
    PDS X (.Assign [.Tuple [.Name x px, .Name y py] kt pt] (.Tuple [e1, e2] k2 pt2) pos) (dPar i j ta) := by
  obtain ⟨z, p, l⟩ := h
  refine ⟨_, ps_par hc hN hi hj hij hx hy p hw hs, fun ρ σ G H E F s w h k => ?_⟩
  refine l ρ σ G H _ _ s w h fun ds vs G1 H1 r1 w1 f1 q1 => ?_
  match ds, q1 with
  | [x, y], q1 =>
    obtain ⟨v, u, rfl, rx, ry⟩ := r1.two
    exact ⟨v, u, rfl, k.nx _ _ G1 H1 (((s.mono (f1.kp w)).set (d := some x) (v := some v) rx i).set (d := some y) (v := some u) ry j) w1 f1 q1⟩
end
/-! ### while -/
def whileGo (c : DT) (b : DS) (E : DEnds) : Nat → DSt → DG → Prop
  | 0, _, _ => False
  | n + 1, ρ, G => c ρ G fun k G1 => if k = true then b { E with nx := whileGo c b E n, ct := whileGo c b E n, bk := E.nx } ρ G1 else E.nx ρ G1
def dWhile (c : DT) (b : DS) : DS := fun E ρ G => ∃ n, whileGo c b E n ρ G
theorem pds_while {X : Cx} {pos : Pos} {c : Expr} {body : List Stmt} {tc : DT} {tb : DS} (hp : PassesOwn (model X.prog X.w) X.A X.env X.xe) (hc : PDT X c tc) (hb : PDSs X body tb) : PDS X (.While c body [] pos) (dWhile tc tb) := by
  obtain ⟨x, p, l⟩ := hc
  obtain ⟨x2, p2, l2⟩ := hb
  refine ⟨_, ps_while hp p p2, fun ρ σ G H E F s w h k => ?_⟩
  obtain ⟨n, h⟩ := h
  refine ⟨fun m σ' H' => ∃ ρ' G', RpS X.K H' ρ' σ' ∧ Wld (bs X) G' H' ∧ Fm G H G' H' ∧ whileGo tc tb E m ρ' G', ⟨n, ρ, G, s, w, Fm.refl, h⟩, ?_⟩
  rintro m σ' H' ⟨ρ', G', s', w', f', q⟩
  cases m with
  | zero => exact q.elim
  | succ m =>
    refine l ρ' σ' G' H' _ _ s' w' q fun c G1 H1 w1 f1 q1 => ?_
    cases c with
    | false => exact k.nx ρ' σ' G1 H1 (s'.mono (f1.kp w')) w1 (f'.trans f1) q1
    | true =>
      refine ⟨fun σ2 H2 => ∃ ρ2 G2, RpS X.K H2 ρ2 σ2 ∧ Wld (bs X) G2 H2 ∧ Fm G H G2 H2 ∧ whileGo tc tb E m ρ2 G2, fun σ2 H2 q2 => ⟨m, Nat.lt_succ_self m, q2⟩, ?_⟩
      have nx : KtS (bs X) G1 H1 (whileGo tc tb E m) fun σ2 H2 => ∃ ρ2 G2, RpS X.K H2 ρ2 σ2 ∧ Wld (bs X) G2 H2 ∧ Fm G H G2 H2 ∧ whileGo tc tb E m ρ2 G2 := fun ρ2 σ2 G2 H2 s2 w2 f2 q2 => ⟨ρ2, G2, s2, w2, (f'.trans f1).trans f2, q2⟩
      have k2 := k.aft (f'.trans f1)
      exact l2 ρ' σ' G1 H1 _ _ (s'.mono (f1.kp w')) w1 q1 ⟨nx, k2.rt, k2.nx, nx⟩
end FD

/-! FD3: what is walked; for; list comprehensions. -/
namespace FD
open PySem L2
/-- what a loop walks: the items, and what must stay while it is walked -/
structure DIt where
  items : List D
  chk : DG → Prop
abbrev DI := DSt → DG → (DIt → DG → Prop) → Prop
def ItOk (B : Bs) (H0 : Hp) (J : It) (it : DIt) : Prop := ∀ i G H, Wld B G H → Kp B.K H0 H → it.chk G →
  (∀ d, it.items[i]? = some d → J.go i H ∧ ∀ x H', J.yld i H x H' → Wld B G H' ∧ Fm G H G H' ∧ Rp B.K H' d x) ∧ (i = it.items.length → J.stop i H)
def LkI (B : Bs) (wi : TI) (di : DI) : Prop := ∀ ρ σ G H Q R, RpS B.K H ρ σ → Wld B G H → di ρ G Q → (∀ it J G' H', Wld B G' H' → Fm G H G' H' → ItOk B H' J it → Q it G' → R J H') → wi σ H R
structure PDI (X : Cx) (tg iter : Expr) (t : DI) : Prop where
  ex : ∃ wi, PI X tg iter wi ∧ LkI (bs X) wi t
def iAny (K : PySem.W.Frag) (tl : TE) : TI := fun σ H R => tl σ H fun x H1 => (∃ a, x = .ref a ∧ (∃ xs, SqL K H1 a xs) ∧ R (Itl K a) H1) ∨ (∃ a, x = .ref a ∧ (∃ xs, SqT K H1 a xs) ∧ R (Itt K a) H1) ∨ (∃ z, x = .str z ∧ R (Its z) H1)
theorem pi_any {X : Cx} {tg l : Expr} {tl : TE} (hl : PE X l tl) : PI X tg l (iAny X.K tl) := by
  refine ⟨fun pins s σ H R I h => ?_⟩
  refine thn (hl.run pins s σ H _ I h) fun v s1 ⟨x, H1, I1, r1, q1⟩ => ?_
  rcases q1 with ⟨a, e, ⟨xs, hq⟩, q⟩ | ⟨a, e, ⟨xs, hq⟩, q⟩ | ⟨z, e, q⟩
  · subst e
    cases r1
    obtain ⟨its, rv, p, hz⟩ := I1.list hq
    refine wpAny_pyIter_list p.isList ?_
    refine ⟨s1.heap.objs.size, [s1.heap.objs.size], _, _, H1, rfl, I1.kept (t' := s1.toks) fun b o e => Heap.get?_push_of_some _ e, turn_list a _, ⟨_, Heap.get?_push_size _ rfl, rfl, rfl⟩, fun b hb => ?_, q⟩
    have e : b = s1.heap.objs.size := by simpa using hb
    subst e
    exact I1.fpOk (Nat.le_refl _) (I1.hok.fresh (Nat.le_refl _))
  · subst e
    cases r1
    obtain ⟨its, rv, p, hz⟩ := I1.tuple hq
    refine wpAny_pyIter_tuple (show s1.heap.IsTuple a its.toArray from p) ?_
    refine ⟨s1.heap.objs.size, [s1.heap.objs.size], _, _, H1, rfl, I1.kept (t' := s1.toks) fun b o e => Heap.get?_push_of_some _ e, turn_tuple a _, ⟨_, Heap.get?_push_size _ rfl, rfl, rfl⟩, fun b hb => ?_, q⟩
    have e : b = s1.heap.objs.size := by simpa using hb
    subst e
    exact I1.fpOk (Nat.le_refl _) (I1.hok.fresh (Nat.le_refl _))
  · subst e
    obtain ⟨t, rfl⟩ := r1
    cases ha : z.cps.all (· < 128)
    · exact wpAny_pyIter_wide ha (pi_one (tk := s1.toks) I1 _ (turn_str _ z t "str_iterator" (.inr rfl)) ⟨_, Heap.get?_push_size _ rfl, rfl, rfl⟩ q)
    · exact wpAny_pyIter_ascii ha (pi_one (tk := s1.toks) I1 _ (turn_str _ z t "str_ascii_iterator" (.inl rfl)) ⟨_, Heap.get?_push_size _ rfl, rfl, rfl⟩ q)
/-- the signs of a text, each a text -/
def signs (z : Str) : List D := z.cps.toList.map fun c => .str ⟨#[c]⟩
def diVal (x : D) (G : DG) (Q : DIt → DG → Prop) : Prop := match x with
  | .tup ds => Q ⟨ds, fun _ => True⟩ G
  | .fl ds => Q ⟨ds, fun _ => True⟩ G
  | .str z => Q ⟨signs z, fun _ => True⟩ G
  | .ref a => ∃ ds, G a = some (.lst ds) ∧ Q ⟨ds, fun G' => G' a = some (.lst ds)⟩ G
  | _ => False
def diAny (t : DE) : DI := fun ρ G Q => t ρ G fun x G1 => diVal x G1 Q
theorem ok_tup {B : Bs} {H0 : Hp} {a : Addr} {xs : List V} {ds : List D} (q : SqT B.K H0 a xs) (r : RpL B.K H0 ds xs) : ItOk B H0 (Itt B.K a) ⟨ds, fun _ => True⟩ := fun i G H w k _ => by
  refine ⟨fun d hd => ?_, fun hi => ⟨xs, k.t a xs q, by rw [hi, r.length]; exact Nat.le_refl _⟩⟩
  obtain ⟨v, hv, rv⟩ := (r.mono k).get hd
  refine ⟨⟨xs, v, k.t a xs q, hv⟩, fun x H' y => ?_⟩
  obtain ⟨rfl, y⟩ := y
  have e : x = v := Option.some.inj ((y xs (k.t a xs q)).symm.trans hv)
  subst e
  exact ⟨w, Fm.refl, rv⟩
theorem ok_fl {B : Bs} {H0 : Hp} {a : Addr} {xs : List V} {ds : List D} (q : FzL B.K H0 a xs) (r : RpL B.K H0 ds xs) : ItOk B H0 (Itl B.K a) ⟨ds, fun _ => True⟩ := fun i G H w k _ => by
  refine ⟨fun d hd => ?_, fun hi => ⟨xs, (k.l a xs q).sq, by rw [hi, r.length]; exact Nat.le_refl _⟩⟩
  obtain ⟨v, hv, rv⟩ := (r.mono k).get hd
  refine ⟨⟨xs, v, (k.l a xs q).sq, hv⟩, fun x H' y => ?_⟩
  obtain ⟨rfl, y⟩ := y
  have e : x = v := Option.some.inj ((y xs (k.l a xs q).sq).symm.trans hv)
  subst e
  exact ⟨w, Fm.refl, rv⟩
theorem ok_lst {B : Bs} {H0 : Hp} {a : Addr} {ds : List D} : ItOk B H0 (Itl B.K a) ⟨ds, fun G' => G' a = some (.lst ds)⟩ := fun i G H w k c => by
  obtain ⟨xs, e, r⟩ := w a _ c
  refine ⟨fun d hd => ?_, fun hi => ⟨xs, SqL.of e, by rw [hi, r.length]; exact Nat.le_refl _⟩⟩
  obtain ⟨v, hv, rv⟩ := r.get hd
  refine ⟨⟨xs, v, SqL.of e, hv⟩, fun x H' y => ?_⟩
  obtain ⟨rfl, y⟩ := y
  have e2 : x = v := Option.some.inj ((y xs (SqL.of e)).symm.trans hv)
  subst e2
  exact ⟨w, Fm.refl, rv⟩
theorem signs_get {z : Str} {i : Nat} {d : D} (h : (signs z)[i]? = some d) : ∃ c, z.cps[i]? = some c ∧ d = .str ⟨#[c]⟩ := by
  unfold signs at h
  rw [List.getElem?_map] at h
  cases e : z.cps.toList[i]? with
  | none => rw [e] at h; cases h
  | some c =>
    rw [e] at h
    refine ⟨c, ?_, (Option.some.inj h).symm⟩
    rw [← Array.getElem?_toList]
    exact e
theorem signs_len (z : Str) : (signs z).length = z.cps.size := by unfold signs; rw [List.length_map, Array.length_toList]
theorem ok_str {B : Bs} {H0 : Hp} {z : Str} : ItOk B H0 (Its z) ⟨signs z, fun _ => True⟩ := fun i G H w k _ => by
  refine ⟨fun d hd => ?_, fun hi => ?_⟩
  · obtain ⟨c, hc, rfl⟩ := signs_get hd
    refine ⟨?_, fun x H' y => ?_⟩
    · show i < z.cps.size
      exact (Array.getElem?_eq_some_iff.mp hc).1
    · obtain ⟨rfl, c', hc', rfl⟩ := y
      rw [hc] at hc'
      cases hc'
      exact ⟨w, Fm.refl, rp_str.mpr rfl⟩
  · show z.cps.size ≤ i
    rw [hi]
    exact Nat.le_of_eq (signs_len z).symm
section
variable {X : Cx} {tg iter : Expr} {t : DE} {ta : DA}
theorem pdi_any (h : PD X iter t) : PDI X tg iter (diAny t) := by
  obtain ⟨te, p, l⟩ := h
  refine ⟨_, pi_any p, fun ρ σ G H Q R s w q k => ?_⟩
  refine l ρ σ G H _ _ s w q fun x v G1 H1 r1 w1 f1 q1 => ?_
  cases x with
  | tup ds =>
    obtain ⟨a, xs, rfl, hq, rl⟩ := rp_tup.mp r1
    exact .inr (.inl ⟨a, rfl, ⟨xs, hq⟩, k _ _ G1 H1 w1 f1 (ok_tup hq rl) q1⟩)
  | fl ds =>
    obtain ⟨a, xs, rfl, hq, rl⟩ := rp_fl.mp r1
    exact .inl ⟨a, rfl, ⟨xs, hq.sq⟩, k _ _ G1 H1 w1 f1 (ok_fl hq rl) q1⟩
  | str z =>
    rw [rp_str.mp r1]
    exact .inr (.inr ⟨z, rfl, k _ _ G1 H1 w1 f1 ok_str q1⟩)
  | ref a =>
    obtain ⟨ds, e, q1⟩ := q1
    rw [rp_ref.mp r1]
    obtain ⟨xs, e2, rl⟩ := w1 a _ e
    exact .inl ⟨a, rfl, ⟨xs, SqL.of e2⟩, k _ _ G1 H1 w1 f1 ok_lst q1⟩
  | _ => exact q1.elim
def rngD (lo : Int) (n : Nat) : List D := (List.range n).map fun (i : Nat) => .int (lo + (i : Int))
def diRng1 (ta : DA) : DI := fun ρ G Q => ta ρ G fun ds G1 => match ds with
  | [.int j] => (-(2 ^ 62) ≤ j ∧ j < 2 ^ 62) ∧ Q ⟨rngD 0 j.toNat, fun _ => True⟩ G1
  | _ => False
def diRng2 (ta : DA) : DI := fun ρ G Q => ta ρ G fun ds G1 => match ds with
  | [.int i, .int j] => (-(2 ^ 62) ≤ i ∧ i < 2 ^ 62 ∧ -(2 ^ 62) ≤ j ∧ j < 2 ^ 62) ∧ Q ⟨rngD i (j - i).toNat, fun _ => True⟩ G1
  | _ => False
theorem rng_get {lo : Int} {n i : Nat} {d : D} (h : (rngD lo n)[i]? = some d) : i < n ∧ d = .int (lo + (i : Int)) := by
  unfold rngD at h
  rw [List.getElem?_map] at h
  by_cases hi : i < n
  · rw [List.getElem?_range hi] at h
    exact ⟨hi, (Option.some.inj h).symm⟩
  · rw [List.getElem?_eq_none (by rw [List.length_range]; omega)] at h
    cases h
theorem rng_len (lo : Int) (n : Nat) : (rngD lo n).length = n := by unfold rngD; rw [List.length_map, List.length_range]
theorem ok_rng {B : Bs} {H0 : Hp} {lo : Int} {n : Nat} : ItOk B H0 (Itr lo n) ⟨rngD lo n, fun _ => True⟩ := fun i G H w k _ => by
  refine ⟨fun d hd => ?_, fun hi => ?_⟩
  · obtain ⟨h1, rfl⟩ := rng_get hd
    refine ⟨h1, fun x H' y => ?_⟩
    obtain ⟨rfl, rfl⟩ := y
    exact ⟨w, Fm.refl, rp_int.mpr rfl⟩
  · show n ≤ i
    rw [hi]
    exact Nat.le_of_eq (rng_len lo n).symm
theorem pdi_rng1 {a : Expr} {p pos : Pos} (hg : Gl X "range") (hm : X.mg "range" = none) (ha : PDA X [a] ta) (hs : starEach [a] X.env = [(false, eval a X.env)] := by rfl) : PDI X tg (.Call (.Name "range" p) [a] [] pos) (diRng1 ta) := by
  obtain ⟨te, pp, l⟩ := ha
  refine ⟨_, pi_range1 hg hm pp hs, fun ρ σ G H Q R s w q k => ?_⟩
  refine l ρ σ G H _ _ s w q fun ds vs G1 H1 r1 w1 f1 q1 => ?_
  match ds, q1 with
  | [.int j], q1 =>
    obtain ⟨v, rfl, rv⟩ := r1.one
    rw [rp_int.mp rv]
    exact ⟨j, rfl, q1.1.1, q1.1.2, k _ _ G1 H1 w1 f1 ok_rng q1.2⟩
theorem pdi_rng2 {a b : Expr} {p pos : Pos} (hg : Gl X "range") (hm : X.mg "range" = none) (ha : PDA X [a, b] ta) (hs : starEach [a, b] X.env = [(false, eval a X.env), (false, eval b X.env)] := by rfl) (hs2 : starEach [b] X.env = [(false, eval b X.env)] := by rfl) : PDI X tg (.Call (.Name "range" p) [a, b] [] pos) (diRng2 ta) := by
  obtain ⟨te, pp, l⟩ := ha
  refine ⟨_, pi_range2 hg hm pp hs hs2, fun ρ σ G H Q R s w q k => ?_⟩
  refine l ρ σ G H _ _ s w q fun ds vs G1 H1 r1 w1 f1 q1 => ?_
  match ds, q1 with
  | [.int i, .int j], q1 =>
    obtain ⟨v, u, rfl, rv, ru⟩ := r1.two
    rw [rp_int.mp rv, rp_int.mp ru]
    exact ⟨i, j, rfl, q1.1, k _ _ G1 H1 w1 f1 ok_rng q1.2⟩
/-- zip of two lists, or of two tuples -/
def zipD (xs ys : List D) : List D := (xs.zip ys).map fun p => .tup [p.1, p.2]
def diZip (ta : DA) : DI := fun ρ G Q => ta ρ G fun ds G1 => match ds with
  | [.tup xs, .tup ys] => Q ⟨zipD xs ys, fun _ => True⟩ G1
  | [.ref a, .ref b] => ∃ xs ys, G1 a = some (.lst xs) ∧ G1 b = some (.lst ys) ∧ Q ⟨zipD xs ys, fun G' => G' a = some (.lst xs) ∧ G' b = some (.lst ys)⟩ G1
  | _ => False
theorem zip_get {xs ys : List D} {i : Nat} {d : D} (h : (zipD xs ys)[i]? = some d) : ∃ x y, xs[i]? = some x ∧ ys[i]? = some y ∧ d = .tup [x, y] := by
  unfold zipD at h
  rw [List.getElem?_map] at h
  cases e : (xs.zip ys)[i]? with
  | none => rw [e] at h; cases h
  | some p =>
    rw [e] at h
    rw [List.getElem?_zip_eq_some] at e
    exact ⟨p.1, p.2, e.1, e.2, (Option.some.inj h).symm⟩
theorem zip_len (xs ys : List D) : (zipD xs ys).length = min xs.length ys.length := by unfold zipD; rw [List.length_map, List.length_zip]
theorem ok_zipL {B : Bs} {H0 : Hp} {a b : Addr} {xs ys : List D} : ItOk B H0 (Itz B.K a b) ⟨zipD xs ys, fun G' => G' a = some (.lst xs) ∧ G' b = some (.lst ys)⟩ := fun i G H w k c => by
  obtain ⟨vs, e1, r1⟩ := w a _ c.1
  obtain ⟨us, e2, r2⟩ := w b _ c.2
  refine ⟨fun d hd => ?_, fun hi => ⟨vs, us, SqL.of e1, SqL.of e2, ?_⟩⟩
  · obtain ⟨x, y, hx, hy, rfl⟩ := zip_get hd
    obtain ⟨v, hv, rv⟩ := r1.get hx
    obtain ⟨u, hu, ru⟩ := r2.get hy
    refine ⟨⟨vs, us, v, u, SqL.of e1, SqL.of e2, hv, hu⟩, fun z H' q => ?_⟩
    obtain ⟨T, x', y', rfl, hT, rfl, q1, q2⟩ := q
    have ex : x' = v := Option.some.inj ((q1 vs (SqL.of e1)).symm.trans hv)
    have ey : y' = u := Option.some.inj ((q2 us (SqL.of e2)).symm.trans hu)
    subst ex ey
    have kn : Kp B.K H (L2.upd H T (.tup [x', y'])) := kp_new hT
    exact ⟨wld_hid w hT, fm_hid hT, rp_tup.mpr ⟨T, _, rfl, SqT.of upd_same, RpL.cons (rv.mono kn) (RpL.cons (ru.mono kn) RpL.nil)⟩⟩
  · rw [zip_len] at hi
    have h1 := r1.length
    have h2 := r2.length
    omega
theorem ok_zipT {B : Bs} {H0 : Hp} {a b : Addr} {xs ys : List D} {vs us : List V} (e1 : SqT B.K H0 a vs) (e2 : SqT B.K H0 b us) (r1 : RpL B.K H0 xs vs) (r2 : RpL B.K H0 ys us) : ItOk B H0 (RZ.ItzT B.K a b) ⟨zipD xs ys, fun _ => True⟩ := fun i G H w k c => by
  have e1 := k.t _ _ e1
  have e2 := k.t _ _ e2
  have r1 := r1.mono k
  have r2 := r2.mono k
  refine ⟨fun d hd => ?_, fun hi => ⟨vs, us, e1, e2, ?_⟩⟩
  · obtain ⟨x, y, hx, hy, rfl⟩ := zip_get hd
    obtain ⟨v, hv, rv⟩ := r1.get hx
    obtain ⟨u, hu, ru⟩ := r2.get hy
    refine ⟨⟨vs, us, v, u, e1, e2, hv, hu⟩, fun z H' q => ?_⟩
    obtain ⟨T, x', y', rfl, hT, rfl, q1, q2⟩ := q
    have ex : x' = v := Option.some.inj ((q1 vs e1).symm.trans hv)
    have ey : y' = u := Option.some.inj ((q2 us e2).symm.trans hu)
    subst ex ey
    have kn : Kp B.K H (L2.upd H T (.tup [x', y'])) := kp_new hT
    exact ⟨wld_hid w hT, fm_hid hT, rp_tup.mpr ⟨T, _, rfl, SqT.of upd_same, RpL.cons (rv.mono kn) (RpL.cons (ru.mono kn) RpL.nil)⟩⟩
  · rw [zip_len] at hi
    have h1 := r1.length
    have h2 := r2.length
    omega
theorem pdi_zip {e e2 : Expr} {p pos tpos : Pos} {elts : List Expr} {kk : Nat} (hg : Gl X "zip") (hm : X.mg "zip" = none) (ha : PDA X [e, e2] ta)
    (hs : starEach [e, e2] X.env = (false, eval e X.env) :: starEach [e2] X.env := by rfl) (hpl : (backTo pos (starEach [e2] X.env)).any (·.1) = false := by rfl) : PDI X (.Tuple elts kk tpos) (.Call (.Name "zip" p) [e, e2] [] pos) (diZip ta) := by
  obtain ⟨te, pp, l⟩ := ha
  refine ⟨_, RZ.pi_zipA hg hm pp hs hpl, fun ρ σ G H Q R s w q k => ?_⟩
  refine l ρ σ G H _ _ s w q fun ds vs G1 H1 r1 w1 f1 q1 => ?_
  match ds, q1 with
  | [.tup xs, .tup ys], q1 =>
    obtain ⟨v, u, rfl, rv, ru⟩ := r1.two
    obtain ⟨a, vs, rfl, ha, rl⟩ := rp_tup.mp rv
    obtain ⟨b, us, rfl, hb, rl2⟩ := rp_tup.mp ru
    exact ⟨a, b, vs, us, rfl, .inr ⟨ha, hb, k _ _ G1 H1 w1 f1 (ok_zipT ha hb rl rl2) q1⟩⟩
  | [.ref a, .ref b], q1 =>
    obtain ⟨v, u, rfl, rv, ru⟩ := r1.two
    obtain ⟨xs, ys, ea, eb, q1⟩ := q1
    rw [rp_ref.mp rv, rp_ref.mp ru]
    obtain ⟨vs, e1, rl⟩ := w1 a _ ea
    obtain ⟨us, e2, rl2⟩ := w1 b _ eb
    exact ⟨a, b, vs, us, rfl, .inl ⟨SqL.of e1, SqL.of e2, k _ _ G1 H1 w1 f1 ok_zipL q1⟩⟩
/-- enumerate of a list -/
def enumD (n : Nat) : List D → List D
  | [] => []
  | d :: ds => .tup [.int (n : Int), d] :: enumD (n + 1) ds
def diEnum (ta : DA) : DI := fun ρ G Q => ta ρ G fun ds G1 => match ds with
  | [.ref a] => ∃ xs, G1 a = some (.lst xs) ∧ Q ⟨enumD 0 xs, fun G' => G' a = some (.lst xs)⟩ G1
  | _ => False
theorem enum_get : ∀ {xs : List D} {n i : Nat} {d : D}, (enumD n xs)[i]? = some d → ∃ x, xs[i]? = some x ∧ d = .tup [.int ((n + i : Nat) : Int), x]
  | [], _, _, _, h => by simp [enumD] at h
  | x :: xs, n, 0, d, h => ⟨x, rfl, (Option.some.inj h).symm⟩
  | x :: xs, n, i + 1, d, h => by
    obtain ⟨y, h1, h2⟩ := enum_get (n := n + 1) (i := i) h
    refine ⟨y, h1, ?_⟩
    rw [h2, show n + 1 + i = n + (i + 1) by omega]
theorem enum_len : ∀ (xs : List D) (n : Nat), (enumD n xs).length = xs.length
  | [], _ => rfl
  | x :: xs, n => by show (enumD (n + 1) xs).length + 1 = xs.length + 1; rw [enum_len xs]
theorem ok_enum {B : Bs} {H0 : Hp} {a : Addr} {xs : List D} : ItOk B H0 (Ite B.K a) ⟨enumD 0 xs, fun G' => G' a = some (.lst xs)⟩ := fun i G H w k c => by
  obtain ⟨vs, e1, r1⟩ := w a _ c
  refine ⟨fun d hd => ?_, fun hi => ⟨vs, SqL.of e1, ?_⟩⟩
  · obtain ⟨x, hx, rfl⟩ := enum_get hd
    obtain ⟨v, hv, rv⟩ := r1.get hx
    refine ⟨⟨vs, v, SqL.of e1, hv⟩, fun z H' q => ?_⟩
    obtain ⟨T, x', rfl, hT, rfl, q1⟩ := q
    have ex : x' = v := Option.some.inj ((q1 vs (SqL.of e1)).symm.trans hv)
    subst ex
    have kn : Kp B.K H (L2.upd H T (.tup [.int (i : Nat), x'])) := kp_new hT
    refine ⟨wld_hid w hT, fm_hid hT, rp_tup.mpr ⟨T, _, rfl, SqT.of upd_same, RpL.cons (rp_int.mpr ?_) (RpL.cons (rv.mono kn) RpL.nil)⟩⟩
    rw [Nat.zero_add]
  · have h1 := r1.length
    have h2 := enum_len xs 0
    have hi : i = (enumD 0 xs).length := hi
    omega
theorem pdi_enum {e : Expr} {p pos tpos : Pos} {elts : List Expr} {kk : Nat} (hg : Gl X "enumerate") (hm : X.mg "enumerate" = none) (ha : PDA X [e] ta) (hs : starEach [e] X.env = [(false, eval e X.env)] := by rfl) : PDI X (.Tuple elts kk tpos) (.Call (.Name "enumerate" p) [e] [] pos) (diEnum ta) := by
  obtain ⟨te, pp, l⟩ := ha
  refine ⟨_, pi_enum hg hm pp hs, fun ρ σ G H Q R s w q k => ?_⟩
  refine l ρ σ G H _ _ s w q fun ds vs G1 H1 r1 w1 f1 q1 => ?_
  match ds, q1 with
  | [.ref a], q1 =>
    obtain ⟨v, rfl, rv⟩ := r1.one
    obtain ⟨xs, ea, q1⟩ := q1
    rw [rp_ref.mp rv]
    obtain ⟨vs, e1, rl⟩ := w1 a _ ea
    exact ⟨a, vs, rfl, SqL.of e1, k _ _ G1 H1 w1 f1 ok_enum q1⟩
end
/-! ### for -/
def forGo (chk : DG → Prop) (g : DGt) (b : DS) (E : DEnds) : List D → DSt → DG → Prop
  | [], ρ, G => chk G ∧ E.nx ρ G
  | d :: ds, ρ, G => chk G ∧ g d ρ G fun ρ' G' => b { E with nx := forGo chk g b E ds, ct := forGo chk g b E ds, bk := E.nx } ρ' G'
def dFor (di : DI) (g : DGt) (b : DS) : DS := fun E ρ G => di ρ G fun it G1 => forGo it.chk g b E it.items ρ G1
theorem drop_get {α : Type} {l : List α} {i : Nat} {x : α} {r : List α} (h : l.drop i = x :: r) : l[i]? = some x ∧ l.drop (i + 1) = r := by
  have e : (l.drop i)[0]? = some x := by rw [h]; rfl
  rw [List.getElem?_drop, Nat.add_zero] at e
  refine ⟨e, ?_⟩
  rw [← List.drop_drop, h]
  rfl
theorem drop_nil {α : Type} {l : List α} {i : Nat} (h : l.drop i = []) (hi : i ≤ l.length) : i = l.length := by
  have e := congrArg List.length h
  rw [List.length_drop] at e
  have e2 : l.length - i = 0 := e
  omega
theorem pds_for {X : Cx} {pos : Pos} {tg iter : Expr} {body : List Stmt} {di : DI} {g : DGt} {b : DS} (hp : PassesOwn (model X.prog X.w) X.A X.env X.xe) (hc : X.calm = true) (hi : PDI X tg iter di) (hg : PDG X tg g) (hb : PDSs X body b)
    (hs : ∀ x, foldedSetIterable iter X.env x = pure x := by intro _; rfl) : PDS X (.For tg iter body [] pos) (dFor di g b) := by
  obtain ⟨wi, pi, li⟩ := hi
  obtain ⟨gg, pg, lg⟩ := hg
  obtain ⟨tb, pb, lb⟩ := hb
  refine ⟨_, ps_for hp hc pi pg pb hs, fun ρ σ G H E F s w h k => ?_⟩
  refine li ρ σ G H _ _ s w h fun it J G1 H1 w1 f1 ok q1 => ?_
  have kp1 := f1.kp w
  refine ⟨fun i m σ' H' => ∃ ρ' G', m = it.items.length - i ∧ i ≤ it.items.length ∧ RpS X.K H' ρ' σ' ∧ Wld (bs X) G' H' ∧ Fm G1 H1 G' H' ∧ forGo it.chk g b E (it.items.drop i) ρ' G', ⟨_, ρ, G1, rfl, Nat.zero_le _, s.mono kp1, w1, Fm.refl, q1⟩, ?_⟩
  rintro i m σ' H' ⟨ρ', G', rfl, hi, s', w', f', q⟩
  have k' := k.aft (f1.trans f')
  cases e : it.items.drop i with
  | nil =>
    rw [e] at q
    obtain ⟨c, q⟩ := q
    exact .inl ⟨(ok i G' H' w' (f'.kp w1) c).2 (drop_nil e hi), k'.nx ρ' σ' G' H' s' w' Fm.refl q⟩
  | cons d ds =>
    rw [e] at q
    obtain ⟨c, q⟩ := q
    obtain ⟨e1, e2⟩ := drop_get e
    obtain ⟨go, yl⟩ := (ok i G' H' w' (f'.kp w1) c).1 d e1
    have hlt : i < it.items.length := (List.getElem?_eq_some_iff.mp e1).1
    refine .inr ⟨go, fun σ2 H2 => ∃ ρ2 G2, RpS X.K H2 ρ2 σ2 ∧ Wld (bs X) G2 H2 ∧ Fm G1 H1 G2 H2 ∧ forGo it.chk g b E ds ρ2 G2, fun σ2 H2 q2 => ?_, fun x H2 hy => ?_⟩
    · obtain ⟨ρ2, G2, s2, w2, f2, q2⟩ := q2
      exact ⟨it.items.length - (i + 1), by omega, ρ2, G2, rfl, hlt, s2, w2, f2, by rw [e2]; exact q2⟩
    · obtain ⟨w2, f2, r2⟩ := yl x H2 hy
      refine lg d x ρ' σ' G' H2 _ _ r2 (s'.mono (f2.kp w')) w2 q fun ρ3 σ3 G3 H3 s3 w3 f3 q3 => ?_
      have nx : KtS (bs X) G3 H3 (forGo it.chk g b E ds) fun σ2 H2 => ∃ ρ2 G2, RpS X.K H2 ρ2 σ2 ∧ Wld (bs X) G2 H2 ∧ Fm G1 H1 G2 H2 ∧ forGo it.chk g b E ds ρ2 G2 := fun ρ4 σ4 G4 H4 s4 w4 f4 q4 => ⟨ρ4, G4, s4, w4, f'.trans (f2.trans (f3.trans f4)), q4⟩
      have k3 := k'.aft (f2.trans f3)
      exact lb ρ3 σ3 G3 H3 _ _ s3 w3 q3 ⟨nx, k3.rt, k3.nx, nx⟩
/-! ### list comprehensions -/
structure PDTs (X : Cx) (ifs : List Expr) (t : DT) : Prop where
  ex : ∃ te, PTs X ifs te ∧ LkT (bs X) te t
def dYes : DT := fun _ G Q => Q true G
theorem pdts_nil {X : Cx} : PDTs X [] dYes := ⟨tYes, pts_nil, fun ρ σ G H Q R s w h k => k true G H w Fm.refl h⟩
theorem pdts_one {X : Cx} {c : Expr} {t : DT} (h : PDT X c t) : PDTs X [c] t := let ⟨te, p, l⟩ := h.ex; ⟨te, pts_one p, l⟩
/-- a target of a comprehension: it stores only the comprehension's own names -/
def LkC (B : Bs) (vs : List Nat) (g : TG) (dg : DGt) : Prop := ∀ d v ρ σ G H Q R, Rp B.K H d v → RpS B.K H ρ σ → Wld B G H → dg d ρ G Q → (∀ ρ' σ' G' H', L2.wipe σ' vs = L2.wipe σ vs → RpS B.K H' ρ' σ' → Wld B G' H' → Fm G H G' H' → Q ρ' G' → R σ' H') → g v σ H R
theorem wipe_set {σ : St} {i : Nat} {x : Option V} : ∀ {vs : List Nat}, i ∈ vs → L2.wipe (σ.set i x) vs = L2.wipe σ vs
  | v :: vs, h => by
    show (L2.wipe (σ.set i x) vs).set v none = (L2.wipe σ vs).set v none
    by_cases hv : i ∈ vs
    · rw [wipe_set hv]
    · have e : i = v := by
        rcases List.mem_cons.mp h with e | e
        · exact e
        · exact absurd e hv
      subst e
      refine List.ext_getElem? fun j => ?_
      by_cases hj : i = j
      · subst hj
        by_cases hl : i < σ.length
        · rw [List.getElem?_set_self (by rw [L2.wipe_length, List.length_set]; exact hl), List.getElem?_set_self (by rw [L2.wipe_length]; exact hl)]
        · rw [List.getElem?_eq_none (by rw [List.length_set, L2.wipe_length, List.length_set]; omega), List.getElem?_eq_none (by rw [List.length_set, L2.wipe_length]; omega)]
      · rw [List.getElem?_set_ne hj, List.getElem?_set_ne hj]
        by_cases hw : j ∈ vs
        · have q : ∀ (τ : St) (us : List Nat), j ∈ us → (L2.wipe τ us)[j]? = if j < τ.length then some none else none := fun τ us => by
            induction us with
            | nil => intro h; cases h
            | cons u us ih =>
              intro h
              show ((L2.wipe τ us).set u none)[j]? = _
              by_cases huj : u = j
              · subst huj
                by_cases hl : u < τ.length
                · rw [List.getElem?_set_self (by rw [L2.wipe_length]; exact hl), if_pos hl]
                · rw [List.getElem?_eq_none (by rw [List.length_set, L2.wipe_length]; omega), if_neg hl]
              · rw [List.getElem?_set_ne huj]
                rcases List.mem_cons.mp h with e | e
                · exact absurd e.symm huj
                · exact ih e
          rw [q _ _ hw, q _ _ hw, List.length_set]
        · rw [L2.wipe_out hw, L2.wipe_out hw, List.getElem?_set_ne hj]
theorem lkc_name {B : Bs} {vs : List Nat} {i : Nat} (h : i ∈ vs) : LkC B vs (gName i) (gnD i) := fun d v ρ σ G H Q R r s w q k => k _ _ G H (wipe_set h) (s.set (d := some d) (v := some v) r i) w Fm.refl q
structure PDC (X : Cx) (vs : List Nat) (tg : Expr) (t : DGt) : Prop where
  ex : ∃ g, PG X tg g ∧ LkC (bs X) vs g t
structure PDCs (X : Cx) (vs : List Nat) (ts : List Expr) (t : DGts) : Prop where
  ex : ∃ g : TGs, PGs X ts g ∧ ∀ ds us ρ σ G H Q R, RpL X.K H ds us → RpS X.K H ρ σ → Wld (bs X) G H → t ds ρ G Q → (∀ ρ' σ' G' H', L2.wipe σ' vs = L2.wipe σ vs → RpS X.K H' ρ' σ' → Wld (bs X) G' H' → Fm G H G' H' → Q ρ' G' → R σ' H') → g us σ H R
section
variable {X : Cx} {pos : Pos} {vs : List Nat} {e : Expr} {es : List Expr} {g : DGt} {gs : DGts}
theorem pdc_name (i : Nat) {x : Str} (hN : X.N.Nodup) (hm : i ∈ vs := by decide) (hi : X.N[i]? = some x := by rfl) (hx : Loc X.env.scope x := by first | exact Or.inl rfl | exact Or.inr rfl) (hf : X.fn x = true ∨ X.env.scope.names.lookup x = some .local := by first | exact .inl rfl | exact .inr rfl | assumption) : PDC X vs (.Name x pos) (gnD i) :=
  ⟨gName i, pg_name hN hi hx hf, lkc_name hm⟩
theorem pdcs_nil : PDCs X vs [] gtNil := ⟨gNil, pgs_nil, fun ds us ρ σ G H Q R r s w h k => by
  cases ds with
  | nil => exact ⟨rpl_nil.mp r, k ρ σ G H rfl s w Fm.refl h⟩
  | cons d ds => exact h.elim⟩
theorem pdcs_cons (h1 : PDC X vs e g) (h2 : PDCs X vs es gs) (he : (assignEach (e :: es) X.env).map (·.2) = assign e X.env :: (assignEach es X.env).map (·.2) := by rfl) : PDCs X vs (e :: es) (gtCons g gs) := by
  obtain ⟨x, p, l⟩ := h1
  obtain ⟨x2, p2, l2⟩ := h2
  refine ⟨_, pgs_cons p p2 he, fun ds us ρ σ G H Q R r s w h k => ?_⟩
  cases ds with
  | nil => exact h.elim
  | cons d ds =>
    obtain ⟨y, ys, rfl, r1, r2⟩ := rpl_cons.mp r
    refine ⟨y, ys, rfl, l d y ρ σ G H _ _ r1 s w h fun ρ' σ' G' H' e' s' w' f' q => ?_⟩
    exact l2 ds ys ρ' σ' G' H' Q R (r2.mono (f'.kp w)) s' w' q fun ρ2 σ2 G2 H2 e2 s2 w2 f2 q2 => k ρ2 σ2 G2 H2 (e2.trans e') s2 w2 (f'.trans f2) q2
theorem pdc_tup {k1 : Nat} {n : Nat} (hc : X.calm = true) (h : PDCs X vs es gs) (hn : (assignEach es X.env).length = n := by rfl) (hst : (assignEach es X.env).findIdx? (·.1) = none := by rfl) : PDC X vs (.Tuple es k1 pos) (gtD n gs) := by
  obtain ⟨x, p, l⟩ := h
  refine ⟨_, pg_tup (n := n) hc p hn hst, fun d v ρ σ G H Q R r s w h k => ?_⟩
  cases d with
  | tup ds =>
    obtain ⟨a, xs, rfl, q, rl⟩ := rp_tup.mp r
    exact ⟨a, xs, rfl, q, by rw [← rl.length]; exact h.1, l ds xs ρ σ G H Q R rl s w h.2 k⟩
  | _ => exact h.elim
end
def lcGo (chk : DG → Prop) (g : DGt) (tt : DT) (te : DE) (ρ : DSt) (fin : List D → DG → Prop) : List D → List D → DG → Prop
  | [], acc, G => chk G ∧ fin acc G
  | d :: ds, acc, G => chk G ∧ g d ρ G fun ρ2 G2 => tt ρ2 G2 fun b G3 => if b = true then te ρ2 G3 fun y G4 => acc.length < sizeLine ∧ lcGo chk g tt te ρ fin ds (acc ++ [y]) G4 else lcGo chk g tt te ρ fin ds acc G3
def dLc (di : DI) (g : DGt) (tt : DT) (te : DE) (vs : List Nat) : DE := fun ρ G Q => di ρ G fun it G1 => lcGo it.chk g tt te (wipeD ρ vs) (fun acc G' => ∀ p, G' p = none → Q (.ref p) (G'.upd p (.lst acc))) it.items [] G1
theorem wipe_wipe (σ : St) (vs : List Nat) : L2.wipe (L2.wipe σ vs) vs = L2.wipe σ vs := by
  have q : ∀ us : List Nat, (∀ u ∈ us, u ∈ vs) → L2.wipe (L2.wipe σ us) vs = L2.wipe σ vs := fun us => by
    induction us with
    | nil => intro _; rfl
    | cons u us ih =>
      intro h
      show L2.wipe ((L2.wipe σ us).set u none) vs = _
      rw [wipe_set (h u List.mem_cons_self)]
      exact ih fun x hx => h x (List.mem_cons_of_mem _ hx)
  exact q vs fun _ h => h
theorem lk_lc {B : Bs} {wi : TI} {di : DI} {g : TG} {dg : DGt} {tt : TT} {dt : DT} {te : TE} {de : DE} {vs : List Nat} (hi : LkI B wi di) (hg : LkC B vs g dg) (ht : LkT B tt dt) (he : LkE B te de) : LkE B (tLc wi g tt te vs) (dLc di dg dt de vs) := fun ρ σ G H Q R s w h k => by
  refine hi ρ σ G H _ _ s w h fun it J G1 H1 w1 f1 ok q1 => fun Dl hD => ?_
  have kp1 := f1.kp w
  have s1 := (s.mono kp1).wipe vs
  have hG1 : G1 Dl = none := w1.none hD
  refine ⟨fun i m H' => ∃ acc xs G', m = it.items.length - i ∧ i ≤ it.items.length ∧ H' Dl = some (.lst xs) ∧ RpL B.K H' acc xs ∧ G' Dl = none ∧ Wld B G' H' ∧ Fm G1 H1 G' H' ∧ lcGo it.chk dg dt de (wipeD ρ vs) (fun acc G' => ∀ p, G' p = none → Q (.ref p) (G'.upd p (.lst acc))) (it.items.drop i) acc G',
    ⟨_, [], [], G1, rfl, Nat.zero_le _, upd_same, RpL.nil, hG1, wld_hid w1 hD, fm_hid hD, q1⟩, ?_⟩
  rintro i m H' ⟨acc, xs, G', rfl, hi, hx, rx, hn, w', f', q⟩
  have kp' : Kp B.K H1 H' := f'.kp w1
  cases e : it.items.drop i with
  | nil =>
    rw [e] at q
    obtain ⟨c, q⟩ := q
    refine .inl ⟨(ok i G' H' w' kp' c).2 (drop_nil e hi), ?_⟩
    refine k _ _ (G'.upd Dl (.lst acc)) H' (rp_ref.mpr rfl) (fun a o ha => ?_) (f1.trans fun a o ha na => ?_) (q Dl hn)
    · by_cases hd : a = Dl
      · subst hd
        rw [gupd_same] at ha; cases ha
        exact ⟨xs, hx, rx⟩
      · rw [gupd_ne hd] at ha
        exact w' a o ha
    · have hd := ne_of_none ha hD
      rw [gupd_ne hd]
      exact f' a o ha na
  | cons d ds =>
    rw [e] at q
    obtain ⟨c, q⟩ := q
    obtain ⟨e1, e2⟩ := drop_get e
    obtain ⟨go, yl⟩ := (ok i G' H' w' kp' c).1 d e1
    have hlt : i < it.items.length := (List.getElem?_eq_some_iff.mp e1).1
    refine .inr ⟨go, fun H2 => ∃ acc xs G2, H2 Dl = some (.lst xs) ∧ RpL B.K H2 acc xs ∧ G2 Dl = none ∧ Wld B G2 H2 ∧ Fm G1 H1 G2 H2 ∧ lcGo it.chk dg dt de (wipeD ρ vs) (fun acc G' => ∀ p, G' p = none → Q (.ref p) (G'.upd p (.lst acc))) ds acc G2, fun H2 q2 => ?_, fun x H2 hy => ?_⟩
    · obtain ⟨acc2, xs2, G2, a1, a2, a3, a4, a5, a6⟩ := q2
      exact ⟨it.items.length - (i + 1), by omega, acc2, xs2, G2, rfl, hlt, a1, a2, a3, a4, a5, by rw [e2]; exact a6⟩
    · obtain ⟨w2, f2, r2⟩ := yl x H2 hy
      have kp2 : Kp B.K H1 H2 := kp'.trans (f2.kp w')
      refine hg d x (wipeD ρ vs) (L2.wipe σ vs) G' H2 _ _ r2 (s1.mono kp2) w2 q fun ρ3 σ3 G3 H3 e3 s3 w3 f3 q3 => ⟨e3.trans (wipe_wipe σ vs), ?_⟩
      refine ht ρ3 σ3 G3 H3 _ _ s3 w3 q3 fun b G4 H4 w4 f4 q4 => ?_
      have f04 : Fm G' H' G4 H4 := f2.trans (f3.trans f4)
      cases b with
      | false =>
        obtain ⟨hx4, hn4⟩ := f04 Dl _ hx hn
        exact ⟨acc, xs, G4, hx4, rx.mono (f04.kp w'), hn4, w4, f'.trans f04, q4⟩
      | true =>
        refine he ρ3 σ3 G4 H4 _ _ (s3.mono (f4.kp w3)) w4 q4 fun y v G5 H5 r5 w5 f5 q5 => ?_
        have f05 : Fm G' H' G5 H5 := f04.trans f5
        obtain ⟨hx5, hn5⟩ := f05 Dl _ hx hn
        have kpn : Kp B.K H5 (L2.upd H5 Dl (.lst (xs ++ [v]))) := by
          refine ⟨fun a ys z => ?_, fun a ys z => ?_⟩
          · rcases z with (z | ⟨ob, z⟩) | z
            · exact .inl (.inl (by rw [upd_ne (ne_of z hx5 (by intro z; cases z))]; exact z))
            · exact .inl (.inr ⟨ob, by rw [upd_ne (ne_of z hx5 (by intro z; cases z))]; exact z⟩)
            · exact .inr z
          · rcases z with ⟨ob, z⟩ | z
            · exact .inl ⟨ob, by rw [upd_ne (ne_of z hx5 (by intro z; cases z))]; exact z⟩
            · exact .inr z
        refine ⟨xs, hx5, by rw [← rx.length]; exact q5.1, acc ++ [y], xs ++ [v], G5, upd_same, (RpL.snoc (rx.mono (f05.kp w')) r5).mono kpn, hn5, fun a o ha => ?_, fun a o ha na => ?_, q5.2⟩
        · have hd : a ≠ Dl := fun z => by rw [z, hn5] at ha; cases ha
          exact (w5 a o ha).mono kpn fun u z => by rw [upd_ne hd]; exact z
        · have hd := ne_of_none ha hD
          rw [upd_ne hd]
          exact (f'.trans f05) a o ha na
/-! the canonical readings below -/
def lowE (B : Bs) (t : DE) : TE := fun σ H R => ∃ ρ G Q, RpS B.K H ρ σ ∧ Wld B G H ∧ t ρ G Q ∧ Kt B G H Q R
def lowT (B : Bs) (t : DT) : TT := fun σ H R => ∃ ρ G Q, RpS B.K H ρ σ ∧ Wld B G H ∧ t ρ G Q ∧ KtT B G H Q R
def lowC (B : Bs) (vs : List Nat) (t : DGt) : TG := fun v σ H R => ∃ d ρ G Q, Rp B.K H d v ∧ RpS B.K H ρ σ ∧ Wld B G H ∧ t d ρ G Q ∧ (∀ ρ' σ' G' H', L2.wipe σ' vs = L2.wipe σ vs → RpS B.K H' ρ' σ' → Wld B G' H' → Fm G H G' H' → Q ρ' G' → R σ' H')
theorem lowE_lk {B : Bs} {t : DE} : LkE B (lowE B t) t := fun ρ σ G H Q R s w h k => ⟨ρ, G, Q, s, w, h, k⟩
theorem lowT_lk {B : Bs} {t : DT} : LkT B (lowT B t) t := fun ρ σ G H Q R s w h k => ⟨ρ, G, Q, s, w, h, k⟩
theorem lowC_lk {B : Bs} {vs : List Nat} {t : DGt} : LkC B vs (lowC B vs t) t := fun d v ρ σ G H Q R r s w h k => ⟨d, ρ, G, Q, r, s, w, h, k⟩
theorem PD.low {X : Cx} {e : Expr} {t : DE} (h : PD X e t) : PE X e (lowE (bs X) t) := by
  obtain ⟨te, p, l⟩ := h
  exact ⟨fun pins s σ H Q I ⟨ρ, G, Q', a, b, c, d⟩ => p.run pins s σ H Q I (l ρ σ G H Q' Q a b c d)⟩
theorem PDTs.low {X : Cx} {e : List Expr} {t : DT} (h : PDTs X e t) : PTs X e (lowT (bs X) t) := by
  obtain ⟨te, p, l⟩ := h
  exact ⟨fun pins s σ H Q I ⟨ρ, G, Q', a, b, c, d⟩ => p.run pins s σ H Q I (l ρ σ G H Q' Q a b c d)⟩
theorem PDC.low {X : Cx} {vs : List Nat} {e : Expr} {t : DGt} (h : PDC X vs e t) : PG X e (lowC (bs X) vs t) := by
  obtain ⟨te, p, l⟩ := h
  exact ⟨fun pins s σ H v u Q I r ⟨d', ρ, G, Q', r', a, b, c, d⟩ => p.run pins s σ H v u Q I r (l d' v ρ σ G H Q' Q r' a b c d)⟩
section
variable {X : Cx} {elt tg iter : Expr} {ifs : List Expr} {scope : Scope} {own : List (Str × Nat)} {pos : Pos} {di : DI} {g : DGt} {tt : DT} {te : DE}
theorem pd_lc (hc : X.calm = true) (hN : X.N.Nodup) (hi : PDI X tg iter di) (ok : BlkOk X.N X.env.scope scope own)
    (hg : ∀ (s : Shared) (H : Hp) (C : Addr) (cl : List (Str × Addr)) (fp : List Addr), PDC (X.blk s H scope (compEnvC scope cl C X.env) fp) (own.map (·.2)) tg g)
    (ht : ∀ (s : Shared) (H : Hp) (C : Addr) (cl : List (Str × Addr)) (fp : List Addr), PDTs (X.blk s H scope (compEnvC scope cl C X.env) fp) ifs tt)
    (he : ∀ (s : Shared) (H : Hp) (C : Addr) (cl : List (Str × Addr)) (fp : List Addr), PD (X.blk s H scope (compEnvC scope cl C X.env) fp) elt te)
    (hs : ∀ x, foldedSetIterable iter X.env x = pure x := by intro _; rfl) :
    PD X (.ListComp elt [⟨tg, iter, ifs, 0⟩] scope pos) (dLc di g tt te (own.map (·.2))) := by
  obtain ⟨wi, pi, li⟩ := hi
  exact ⟨_, pe_lc (g := lowC (bs X) (own.map (·.2)) g) (tt := lowT (bs X) tt) (te := lowE (bs X) te) hc hN pi ok (fun s H C cl fp => (hg s H C cl fp).low) (fun s H C cl fp => (ht s H C cl fp).low) (fun s H C cl fp => (he s H C cl fp).low) hs, lk_lc li lowC_lk lowT_lk lowE_lk⟩
/-- name = [..] on one line, the name a local -/
theorem pds_setLc (i : Nat) {y : Str} {py spos : Pos} (hc : X.calm = true) (hN : X.N.Nodup) (hsw : swapsWith (.ListComp elt [⟨tg, iter, ifs, 0⟩] scope pos) (some (.Name y py)) spos.line X.env = pure true) (hi : PDI X tg iter di) (ok : BlkOk X.N X.env.scope scope own)
    (hg : ∀ (s : Shared) (H : Hp) (C : Addr) (cl : List (Str × Addr)) (fp : List Addr), PDC (X.blk s H scope (compEnvC scope cl C X.env) fp) (own.map (·.2)) tg g)
    (ht : ∀ (s : Shared) (H : Hp) (C : Addr) (cl : List (Str × Addr)) (fp : List Addr), PDTs (X.blk s H scope (compEnvC scope cl C X.env) fp) ifs tt)
    (he : ∀ (s : Shared) (H : Hp) (C : Addr) (cl : List (Str × Addr)) (fp : List Addr), PD (X.blk s H scope (compEnvC scope cl C X.env) fp) elt te)
    (hy : X.N[i]? = some y := by rfl) (hyl : X.env.scope.names.lookup y = some .local := by rfl) (hs : ∀ x, foldedSetIterable iter X.env x = pure x := by intro _; rfl) :
    PDS X (.Assign [.Name y py] (.ListComp elt [⟨tg, iter, ifs, 0⟩] scope pos) spos) (dAsg (dLc di g tt te (own.map (·.2))) (gnD i)) := by
  obtain ⟨wi, pi, li⟩ := hi
  refine ⟨_, ps_setLc (i := i) (g := lowC (bs X) (own.map (·.2)) g) (tt := lowT (bs X) tt) (te := lowE (bs X) te) hc hN hy hyl hsw pi ok (fun s H C cl fp => (hg s H C cl fp).low) (fun s H C cl fp => (ht s H C cl fp).low) (fun s H C cl fp => (he s H C cl fp).low) hs, fun ρ σ G H E F s w h k => ?_⟩
  have h : dLc di g tt te (own.map (·.2)) ρ G (fun x G1 => gnD i x ρ G1 E.nx) := h
  exact lk_lc (vs := own.map fun (p : Str × Nat) => p.2) (g := lowC (bs X) (own.map fun (p : Str × Nat) => p.2) g) (tt := lowT (bs X) tt) (te := lowE (bs X) te) li lowC_lk lowT_lk lowE_lk ρ σ G H _ _ s w h fun d v G1 H1 r1 w1 f1 q1 => k.nx _ _ G1 H1 ((s.mono (f1.kp w)).set (d := some d) (v := some v) r1 i) w1 f1 q1
end
end FD

/-! FD4: operators, comparisons, subscripts, slices, built-ins, methods of lists, calls of defs. -/
namespace FD
open PySem L2
/-! ### arithmetic, + -/
def addD : R2D := fun x y G Q => match x, y with
  | .int i, .int j => Q (.int (i + j)) G
  | .str s, .str t => s.length + t.length ≤ sizeLine ∧ Q (.str (s ++ t)) G
  | .tup xs, .tup ys => xs.length + ys.length ≤ sizeLine ∧ Q (.tup (xs ++ ys)) G
  | .ref a, .ref b => ∃ xs ys, G a = some (.lst xs) ∧ G b = some (.lst ys) ∧ xs.length + ys.length ≤ sizeLine ∧ ∀ p, G p = none → Q (.ref p) (G.upd p (.lst (xs ++ ys)))
  | _, _ => False
def rAddA (K : PySem.W.Frag) : R2 := fun x y H Q => (rI0 fun i j => .int (i + j)) x y H Q ∨ (∃ i j, x = .str i ∧ y = .str j ∧ i.length + j.length ≤ sizeLine ∧ Q (.str (i ++ j)) H) ∨ rCatA K x y H Q ∨ rCat x y H Q
theorem op_addA {X : Cx} : OpR X (binaryOp .Add) (rAddA X.K) := op_add.or (op_add_str.or (op_catA.or op_cat))
theorem rp_new_tup {B : Bs} {H : Hp} {p : Addr} {ds : List D} {xs : List V} (h : H p = none) (r : RpL B.K H ds xs) : Rp B.K (L2.upd H p (.tup xs)) (.tup ds) (.ref p) := rp_tup.mpr ⟨p, xs, rfl, SqT.of upd_same, r.mono (kp_new h)⟩
theorem lk_add {B : Bs} : LkR B (rAddA B.K) addD := fun x y v u G H Q R rx ry w h k => by
  cases x <;> cases y <;> try exact h.elim
  · rename_i i j
    rw [rp_int.mp rx, rp_int.mp ry]
    exact .inl ⟨i, j, rfl, rfl, k _ _ G H (rp_int.mpr rfl) w Fm.refl h⟩
  · rename_i i j
    rw [rp_str.mp rx, rp_str.mp ry]
    exact .inr (.inl ⟨i, j, rfl, rfl, h.1, k _ _ G H (rp_str.mpr rfl) w Fm.refl h.2⟩)
  · rename_i xs ys
    obtain ⟨a, vs, rfl, ha, ra⟩ := rp_tup.mp rx
    obtain ⟨b, us, rfl, hb, rb⟩ := rp_tup.mp ry
    refine .inr (.inr (.inl ⟨a, b, vs, us, rfl, rfl, ha, hb, by rw [← ra.length, ← rb.length]; exact h.1, fun e => ?_, fun _ e => ?_, fun _ _ p hp => ?_⟩))
    · subst e
      have e2 : xs = [] := List.length_eq_zero_iff.mp (ra.length)
      subst e2
      exact k _ _ G H ry w Fm.refl h.2
    · subst e
      have e2 : ys = [] := List.length_eq_zero_iff.mp (rb.length)
      subst e2
      refine k _ _ G H rx w Fm.refl ?_
      have h2 := h.2
      rw [List.append_nil] at h2
      exact h2
    · exact k _ _ G _ (rp_new_tup hp (ra.append rb)) (wld_hid w hp) (fm_hid hp) h.2
  · rename_i a b
    obtain ⟨xs, ys, ea, eb, hz, q⟩ := h
    rw [rp_ref.mp rx, rp_ref.mp ry]
    obtain ⟨vs, e1, r1⟩ := w a _ ea
    obtain ⟨us, e2, r2⟩ := w b _ eb
    refine .inr (.inr (.inr ⟨a, b, vs, us, rfl, rfl, e1, e2, by rw [← r1.length, ← r2.length]; exact hz, fun p hp => ?_⟩))
    exact k _ _ _ _ (rp_ref.mpr rfl) (wld_new (d := .lst (xs ++ ys)) w hp ⟨_, upd_same, (r1.append r2).mono (kp_new hp)⟩) (fm_new hp) (q p (w.none hp))
def intD (C : Int → Int → Prop) (f : Int → Int → Int) : R2D := fun x y G Q => match x, y with
  | .int i, .int j => C i j ∧ Q (.int (f i j)) G
  | _, _ => False
theorem lk_int {B : Bs} {C : Int → Int → Prop} {f : Int → Int → Int} : LkR B (rI C fun i j => .int (f i j)) (intD C f) := fun x y v u G H Q R rx ry w h k => by
  cases x <;> cases y <;> try exact h.elim
  rename_i i j
  rw [rp_int.mp rx, rp_int.mp ry]
  exact ⟨i, j, rfl, rfl, h.1, k _ _ G H (rp_int.mpr rfl) w Fm.refl h.2⟩
def int0D (f : Int → Int → Int) : R2D := fun x y G Q => match x, y with
  | .int i, .int j => Q (.int (f i j)) G
  | _, _ => False
theorem lk_int0 {B : Bs} {f : Int → Int → Int} : LkR B (rI0 fun i j => .int (f i j)) (int0D f) := fun x y v u G H Q R rx ry w h k => by
  cases x <;> cases y <;> try exact h.elim
  rename_i i j
  rw [rp_int.mp rx, rp_int.mp ry]
  exact ⟨i, j, rfl, rfl, k _ _ G H (rp_int.mpr rfl) w Fm.refl h⟩
abbrev subD : R2D := int0D fun i j => i - j
abbrev modD : R2D := intD (fun _ j => 0 < j) fun i j => i % j
abbrev fdivD : R2D := intD CDiv fun i j => i / j
abbrev powD : R2D := intD CPow fun i j => i ^ j.toNat
/-! ### times -/
def mulD : R2D := fun x y G Q => match x, y with
  | .int i, .int j => CMul i j ∧ Q (.int (i * j)) G
  | .str s, .int n => MulOk s n ∧ Q (.str (Txt.mul s n)) G
  | .ref a, .int n => ∃ xs, G a = some (.lst xs) ∧ (-(2 ^ 63) ≤ n ∧ n < 2 ^ 63 ∧ xs.length * n.toNat ≤ sizeLine) ∧ ∀ p, G p = none → Q (.ref p) (G.upd p (.lst (List.replicate n.toNat xs).flatten))
  | _, _ => False
theorem op_mul_str {X : Cx} : OpR X (binaryOp .Mult) (fun x y H Q => ∃ s n, x = .str s ∧ y = .int n ∧ MulOk s n ∧ Q (.str (Txt.mul s n)) H) := by
  intro pins s σ H x y v u Q I rx ry h
  obtain ⟨z, n, rfl, rfl, ok, q⟩ := h
  obtain ⟨t, rfl⟩ := rx
  obtain ⟨t', rfl⟩ := ry
  exact SB.mul ok fun t' k => ⟨.str _, H, I.tok _, ⟨_, rfl⟩, q⟩
def rMulA : R2 := fun x y H Q => (rI CMul fun i j => .int (i * j)) x y H Q ∨ (∃ s n, x = .str s ∧ y = .int n ∧ MulOk s n ∧ Q (.str (Txt.mul s n)) H) ∨ rRep x y H Q
theorem op_mulA {X : Cx} : OpR X (binaryOp .Mult) rMulA := op_mul.or (op_mul_str.or op_rep)
theorem lk_mul {B : Bs} : LkR B rMulA mulD := fun x y v u G H Q R rx ry w h k => by
  cases x <;> cases y <;> try exact h.elim
  · rename_i i j
    rw [rp_int.mp rx, rp_int.mp ry]
    exact .inl ⟨i, j, rfl, rfl, h.1, k _ _ G H (rp_int.mpr rfl) w Fm.refl h.2⟩
  · rename_i s n
    rw [rp_str.mp rx, rp_int.mp ry]
    exact .inr (.inl ⟨s, n, rfl, rfl, h.1, k _ _ G H (rp_str.mpr rfl) w Fm.refl h.2⟩)
  · rename_i a n
    obtain ⟨xs, ea, hz, q⟩ := h
    rw [rp_ref.mp rx, rp_int.mp ry]
    obtain ⟨vs, e1, r1⟩ := w a _ ea
    refine .inr (.inr ⟨a, n, vs, rfl, rfl, e1, hz.1, hz.2.1, by rw [← r1.length]; exact hz.2.2, fun p hp => ?_⟩)
    exact k _ _ _ _ (rp_ref.mpr rfl) (wld_new (d := .lst (List.replicate n.toNat xs).flatten) w hp ⟨_, upd_same, (r1.rep n.toNat).mono (kp_new hp)⟩) (fm_new hp) (q p (w.none hp))
/-! ### order -/
def ordD (f : Int → Int → Bool) (g : List Nat → List Nat → Bool) : R2D := fun x y G Q => match x, y with
  | .int i, .int j => Q (.bl (f i j)) G
  | .str s, .str t => Q (.bl (g s.cps.toList t.cps.toList)) G
  | _, _ => False
def rOrd (f : Int → Int → Bool) (g : List Nat → List Nat → Bool) : R2 := fun x y H Q => (rI0 fun i j => .bl (f i j)) x y H Q ∨ (∃ i j, x = .str i ∧ y = .str j ∧ Q (.bl (g i.cps.toList j.cps.toList)) H)
theorem lk_ord {B : Bs} {f : Int → Int → Bool} {g : List Nat → List Nat → Bool} : LkR B (rOrd f g) (ordD f g) := fun x y v u G H Q R rx ry w h k => by
  cases x <;> cases y <;> try exact h.elim
  · rename_i i j
    rw [rp_int.mp rx, rp_int.mp ry]
    exact .inl ⟨i, j, rfl, rfl, k _ _ G H (rp_bl.mpr rfl) w Fm.refl h⟩
  · rename_i i j
    rw [rp_str.mp rx, rp_str.mp ry]
    exact .inr ⟨i, j, rfl, rfl, k _ _ G H (rp_bl.mpr rfl) w Fm.refl h⟩
abbrev ltD : R2D := ordD (fun i j => decide (i < j)) fun a b => decide (a < b)
abbrev leD : R2D := ordD (fun i j => decide (i ≤ j)) fun a b => !decide (b < a)
abbrev gtD' : R2D := ordD (fun i j => decide (j < i)) fun a b => decide (b < a)
abbrev geD : R2D := ordD (fun i j => decide (j ≤ i)) fun a b => !decide (a < b)
theorem op_ltA {X : Cx} : OpR X (compareOp .Lt) (rOrd (fun i j => decide (i < j)) fun a b => decide (a < b)) := op_lt.or op_lt_str
theorem op_leA {X : Cx} : OpR X (compareOp .LtE) (rOrd (fun i j => decide (i ≤ j)) fun a b => !decide (b < a)) := op_le.or op_le_str
theorem op_gtA {X : Cx} : OpR X (compareOp .Gt) (rOrd (fun i j => decide (j < i)) fun a b => decide (b < a)) := op_gt.or op_gt_str
theorem op_geA {X : Cx} : OpR X (compareOp .GtE) (rOrd (fun i j => decide (j ≤ i)) fun a b => !decide (a < b)) := op_ge.or op_ge_str
/-! ### ==, is None -/
mutual
inductive Py (G : DG) : D → PyData → Prop
  | non : Py G .non .none
  | bl (b : Bool) : Py G (.bl b) (.bool b)
  | int (i : Int) : Py G (.int i) (.int i)
  | str (x : Str) : Py G (.str x) (.str x)
  | tup {ds : List D} {ps : List PyData} : PyA G ds ps → Py G (.tup ds) (.tuple ps)
  | fl {ds : List D} {ps : List PyData} : PyA G ds ps → Py G (.fl ds) (.list ps)
  | lst {a : Addr} {ds : List D} {ps : List PyData} : G a = some (.lst ds) → PyA G ds ps → Py G (.ref a) (.list ps)
inductive PyA (G : DG) : List D → List PyData → Prop
  | nil : PyA G [] []
  | cons {d : D} {ds : List D} {p : PyData} {ps : List PyData} : Py G d p → PyA G ds ps → PyA G (d :: ds) (p :: ps)
end
mutual
theorem py_dp {B : Bs} {G : DG} {H : Hp} (w : Wld B G H) : ∀ {d : D} {p : PyData} {v : V}, Py G d p → Rp B.K H d v → Dp B.K H v p
  | _, _, _, .non, r => by rw [rp_non.mp r]; exact .non
  | _, _, _, .bl b, r => by rw [rp_bl.mp r]; exact .bl b
  | _, _, _, .int i, r => by rw [rp_int.mp r]; exact .int i
  | _, _, _, .str x, r => by rw [rp_str.mp r]; exact .str x
  | _, _, _, .tup h, r => by
    obtain ⟨a, xs, rfl, q, rl⟩ := rp_tup.mp r
    exact .tup q (py_dpA w h rl)
  | _, _, _, .fl h, r => by
    obtain ⟨a, xs, rfl, q, rl⟩ := rp_fl.mp r
    exact .lst q.sq (py_dpA w h rl)
  | _, _, _, .lst e h, r => by
    rw [rp_ref.mp r]
    obtain ⟨xs, e2, rl⟩ := w _ _ e
    exact .lst (SqL.of e2) (py_dpA w h rl)
theorem py_dpA {B : Bs} {G : DG} {H : Hp} (w : Wld B G H) : ∀ {ds : List D} {ps : List PyData} {vs : List V}, PyA G ds ps → RpL B.K H ds vs → DpAll B.K H vs ps
  | _, _, _, .nil, r => by rw [rpl_nil.mp r]; exact .nil
  | _, _, _, .cons h t, r => by
    obtain ⟨y, ys, rfl, r1, r2⟩ := rpl_cons.mp r
    exact .cons (py_dp w h r1) (py_dpA w t r2)
end
def eqD (neg : Bool) : R2D := fun x y G Q => ∃ p q, Py G x p ∧ Py G y q ∧ SeqAt.shaped p = true ∧ SeqAt.shaped q = true ∧ Q (.bl (if neg then !PyData.eqv p q else PyData.eqv p q)) G
theorem lk_eq {B : Bs} : LkR B (rEqD B.K) (eqD false) := fun x y v u G H Q R rx ry w h k => by
  obtain ⟨p, q, h1, h2, s1, s2, z⟩ := h
  exact ⟨p, q, py_dp w h1 rx, py_dp w h2 ry, s1, s2, k _ _ G H (rp_bl.mpr rfl) w Fm.refl z⟩
theorem lk_ne {B : Bs} : LkR B (rNeD B.K) (eqD true) := fun x y v u G H Q R rx ry w h k => by
  obtain ⟨p, q, h1, h2, s1, s2, z⟩ := h
  exact ⟨p, q, py_dp w h1 rx, py_dp w h2 ry, s1, s2, k _ _ G H (rp_bl.mpr rfl) w Fm.refl z⟩
def isNon : D → Bool
  | .non => true
  | _ => false
def isD (neg : Bool) : R2D := fun x y G Q => match y with
  | .non => Q (.bl (if neg then !isNon x else isNon x)) G
  | _ => False
theorem isNon_rp {K : PySem.W.Frag} {H : Hp} {x : D} {v : V} (r : Rp K H x v) : decide (v = .non) = isNon x := by
  cases x with
  | non => rw [rp_non.mp r]; rfl
  | bl b => rw [rp_bl.mp r]; rfl
  | int b => rw [rp_int.mp r]; rfl
  | str b => rw [rp_str.mp r]; rfl
  | tup ds => obtain ⟨a, xs, rfl, _⟩ := rp_tup.mp r; rfl
  | fl ds => obtain ⟨a, xs, rfl, _⟩ := rp_fl.mp r; rfl
  | ref b => rw [rp_ref.mp r]; rfl
  | ty b => rw [rp_ty.mp r]; rfl
theorem lk_is {B : Bs} : LkR B (fun x y H Q => y = .non ∧ Q (.bl (decide (x = .non))) H) (isD false) := fun x y v u G H Q R rx ry w h k => by
  cases y <;> try exact h.elim
  exact ⟨rp_non.mp ry, k _ _ G H (rp_bl.mpr (by rw [isNon_rp rx]; rfl)) w Fm.refl h⟩
theorem lk_isnot {B : Bs} : LkR B (fun x y H Q => y = .non ∧ Q (.bl (!decide (x = .non))) H) (isD true) := fun x y v u G H Q R rx ry w h k => by
  cases y <;> try exact h.elim
  exact ⟨rp_non.mp ry, k _ _ G H (rp_bl.mpr (by rw [isNon_rp rx]; rfl)) w Fm.refl h⟩
/-! ### subscripts, slices -/
def atQ (ds : List D) (i : Int) (G : DG) (Q : DK) : Prop := match atI ds i with
  | some d => Q d G
  | none => False
def ixD : R2D := fun x y G Q => match x, y with
  | .tup ds, .int i => atQ ds i G Q
  | .fl ds, .int i => atQ ds i G Q
  | .ref a, .int i => ∃ ds, G a = some (.lst ds) ∧ atQ ds i G Q
  | .str s, .int i => s.length ≤ sizeLine ∧ ∃ c, atI s.cps.toList i = some c ∧ Q (.str ⟨#[c]⟩) G
  | _, _ => False
theorem atI_rp {K : PySem.W.Frag} {H : Hp} {ds : List D} {xs : List V} {i : Int} {d : D} (r : RpL K H ds xs) (h : atI ds i = some d) : ∃ v, atI xs i = some v ∧ Rp K H d v := by
  unfold atI at h ⊢
  rw [r.length] at h
  cases e : ixN xs.length i with
  | none => rw [e] at h; cases h
  | some j =>
    rw [e] at h
    exact r.get h
theorem lk_ix {B : Bs} : LkR B (rIx B.K) ixD := fun x y v u G H Q R rx ry w h k => by
  cases x <;> cases y <;> try exact h.elim
  · rename_i s i
    rw [rp_str.mp rx, rp_int.mp ry]
    obtain ⟨hz, c, e, q⟩ := h
    exact .inr (.inr ⟨s, i, c, rfl, rfl, hz, e, k _ _ G H (rp_str.mpr rfl) w Fm.refl q⟩)
  · rename_i ds i
    obtain ⟨a, vs, rfl, ha, ra⟩ := rp_tup.mp rx
    rw [rp_int.mp ry]
    have h : atQ ds i G Q := h
    unfold atQ at h
    split at h
    · rename_i d e
      obtain ⟨z, ez, rz⟩ := atI_rp ra e
      exact .inr (.inl ⟨a, vs, i, z, rfl, rfl, ha, ez, k _ _ G H rz w Fm.refl h⟩)
    · exact h.elim
  · rename_i ds i
    obtain ⟨a, vs, rfl, ha, ra⟩ := rp_fl.mp rx
    rw [rp_int.mp ry]
    have h : atQ ds i G Q := h
    unfold atQ at h
    split at h
    · rename_i d e
      obtain ⟨z, ez, rz⟩ := atI_rp ra e
      exact .inl ⟨a, vs, i, z, rfl, rfl, ha.sq, ez, k _ _ G H rz w Fm.refl h⟩
    · exact h.elim
  · rename_i a i
    obtain ⟨ds, e, h⟩ := h
    rw [rp_ref.mp rx, rp_int.mp ry]
    obtain ⟨vs, e2, ra⟩ := w a _ e
    unfold atQ at h
    split at h
    · rename_i d e
      obtain ⟨z, ez, rz⟩ := atI_rp ra e
      exact .inl ⟨a, vs, i, z, rfl, rfl, SqL.of e2, ez, k _ _ G H rz w Fm.refl h⟩
    · exact h.elim
def cutD {α : Type} (xs : List α) (lo hi : Option Int) : List α := (xs.drop (HT.sIx xs.length 0 lo)).take (HT.sIx xs.length xs.length hi - HT.sIx xs.length 0 lo)
theorem RpL.cut {K : PySem.W.Frag} {H : Hp} {ds : List D} {xs : List V} (r : RpL K H ds xs) (lo hi : Option Int) : RpL K H (cutD ds lo hi) (cutV xs lo hi) := by
  unfold cutD cutV
  rw [r.length]
  exact (r.drop _).take _
def slD (x : D) (lo hi : Option Int) (G : DG) (Q : DK) : Prop := match x with
  | .tup ds => Q (.tup (cutD ds lo hi)) G
  | .ref a => ∃ ds, G a = some (.lst ds) ∧ ∀ p, G p = none → Q (.ref p) (G.upd p (.lst (cutD ds lo hi)))
  | .str s => s.length ≤ sizeLine ∧ Q (.str (cutS s lo hi)) G
  | _ => False
abbrev DOp := DSt → DG → (Option Int → DG → Prop) → Prop
def dNoPart : DOp := fun _ G Q => Q none G
def dPart (t : DE) : DOp := fun ρ G Q => t ρ G fun x G1 => match x with
  | .int i => Q (some i) G1
  | _ => False
structure PDO (X : Cx) (e : Option Expr) (t : DOp) : Prop where
  ex : ∃ te, PO X e te ∧ ∀ ρ σ G H Q R, RpS X.K H ρ σ → Wld (bs X) G H → t ρ G Q → (∀ o G' H', Wld (bs X) G' H' → Fm G H G' H' → Q o G' → R o H') → te σ H R
section
variable {X : Cx} {pos p2 : Pos} {e : Expr} {te : DE}
theorem pdo_none : PDO X none dNoPart := ⟨tNoPart, po_none, fun ρ σ G H Q R s w h k => k none G H w Fm.refl h⟩
theorem pdo_some (h : PD X e te) : PDO X (some e) (dPart te) := by
  obtain ⟨t, p, l⟩ := h
  refine ⟨_, po_some p, fun ρ σ G H Q R s w h k => ?_⟩
  refine l ρ σ G H _ _ s w h fun x v G1 H1 r1 w1 f1 q1 => ?_
  cases x <;> try exact q1.elim
  rename_i i
  exact ⟨i, rp_int.mp r1, k _ G1 H1 w1 f1 q1⟩
def dSl (t : DE) (lo hi : DOp) : DE := fun ρ G Q => t ρ G fun x G1 => lo ρ G1 fun l G2 => hi ρ G2 fun u G3 => slD x l u G3 Q
def rSlAll (K : PySem.W.Frag) : V → Option Int → Option Int → Hp → VK → Prop := fun x lo hi H Q => rSlA K x lo hi H Q ∨ rSlL K x lo hi H Q ∨ (∃ z, x = .str z ∧ z.length ≤ sizeLine ∧ Q (.str (cutS z lo hi)) H)
end
theorem cut_whole {α : Type} (xs : List α) {lo hi : Option Int} (h : HT.sIx xs.length 0 lo = 0 ∧ HT.sIx xs.length xs.length hi = xs.length) : cutD xs lo hi = xs := by
  unfold cutD
  rw [h.1, h.2, List.drop_zero, Nat.sub_zero, List.take_length]
/-! ### built-in functions -/
abbrev RCD := List D → DG → DK → Prop
def LkCl (B : Bs) (r : List V → Hp → VK → Prop) (rd : RCD) : Prop := ∀ ds vs G H Q R, RpL B.K H ds vs → Wld B G H → rd ds G Q → Kt B G H Q R → r vs H R
def dCB (rd : RCD) (t : DA) : DE := fun ρ G Q => t ρ G fun ds G1 => rd ds G1 Q
section
variable {X : Cx} {pos p : Pos} {x : Str} {e : Expr} {es : List Expr} {t : DA} {id T : String} {r : List V → Hp → VK → Prop} {rd : RCD}
theorem lk_cb {B : Bs} {ta : TA} (hl : LkCl B r rd) (h : LkA B ta t) : LkE B (tCB r ta) (dCB rd t) := fun ρ σ G H Q R s w q k => h ρ σ G H _ _ s w q fun ds vs G1 H1 r1 w1 f1 q1 => hl ds vs G1 H1 Q R r1 w1 q1 (k.aft f1)
theorem pd_callB (hc : CallR X (.builtin id) r) (hl : LkCl (bs X) r rd) (hg : Gl X x) (hm : X.mg x = none) (hv : bootBuiltins x = some (.builtin id)) (ha : PDA X (e :: es) t) (hn : x ≠ "__name__" := by decide) (hdb : (x == ("__debug__" : Str)) = false := by decide)
    (he : starEach (e :: es) X.env = (false, eval e X.env) :: starEach es X.env := by rfl) (hpl : (backTo pos (starEach es X.env)).any (·.1) = false := by rfl) : PD X (.Call (.Name x p) (e :: es) [] pos) (dCB rd t) := by
  obtain ⟨ta, pa, la⟩ := ha
  exact ⟨_, pe_callB hc hg hm hv pa hn hdb he hpl, lk_cb hl la⟩
theorem pd_callTy (hc : CallR X (.type T) r) (hl : LkCl (bs X) r rd) (hg : Gl X x) (hm : X.mg x = none) (hv : bootBuiltins x = some (.type T)) (ha : PDA X (e :: es) t) (hn : x ≠ "__name__" := by decide) (hdb : (x == ("__debug__" : Str)) = false := by decide)
    (he : starEach (e :: es) X.env = (false, eval e X.env) :: starEach es X.env := by rfl) (hpl : (backTo pos (starEach es X.env)).any (·.1) = false := by rfl) : PD X (.Call (.Name x p) (e :: es) [] pos) (dCB rd t) := by
  obtain ⟨ta, pa, la⟩ := ha
  exact ⟨_, pe_callTy hc hg hm hv pa hn hdb he hpl, lk_cb hl la⟩
end
def lenD : RCD := fun ds G Q => match ds with
  | [.str s] => s.length ≤ sizeLine ∧ Q (.int s.length) G
  | [.tup xs] => Q (.int xs.length) G
  | [.fl xs] => Q (.int xs.length) G
  | [.ref a] => ∃ xs, G a = some (.lst xs) ∧ Q (.int xs.length) G
  | _ => False
theorem lk_len {B : Bs} : LkCl B (fun xs H Q => ∃ x n, xs = [x] ∧ LenV B.K x H n ∧ Q (.int n) H) lenD := fun ds vs G H Q R r w h k => by
  match ds, h with
  | [.str s], h =>
    obtain ⟨v, rfl, rv⟩ := r.one
    rw [rp_str.mp rv]
    exact ⟨_, s.length, rfl, ⟨h.1, rfl⟩, k _ _ G H (rp_int.mpr rfl) w Fm.refl h.2⟩
  | [.tup xs], h =>
    obtain ⟨v, rfl, rv⟩ := r.one
    obtain ⟨a, vs, rfl, ha, ra⟩ := rp_tup.mp rv
    exact ⟨_, xs.length, rfl, .inr ⟨vs, ha, ra.length⟩, k _ _ G H (rp_int.mpr rfl) w Fm.refl h⟩
  | [.fl xs], h =>
    obtain ⟨v, rfl, rv⟩ := r.one
    obtain ⟨a, vs, rfl, ha, ra⟩ := rp_fl.mp rv
    exact ⟨_, xs.length, rfl, .inl ⟨vs, ha.sq, ra.length⟩, k _ _ G H (rp_int.mpr rfl) w Fm.refl h⟩
  | [.ref a], h =>
    obtain ⟨v, rfl, rv⟩ := r.one
    obtain ⟨xs, e, h⟩ := h
    rw [rp_ref.mp rv]
    obtain ⟨vs, e2, ra⟩ := w a _ e
    exact ⟨_, xs.length, rfl, .inl ⟨vs, SqL.of e2, ra.length⟩, k _ _ G H (rp_int.mpr rfl) w Fm.refl h⟩
def max2D : RCD := fun ds G Q => match ds with
  | [.int i, .int j] => Q (.int (if j > i then j else i)) G
  | _ => False
def min2D : RCD := fun ds G Q => match ds with
  | [.int i, .int j] => Q (.int (if j < i then j else i)) G
  | _ => False
theorem lk_max2 {B : Bs} : LkCl B (fun xs H Q => ∃ i j, xs = [.int i, .int j] ∧ Q (.int (if j > i then j else i)) H) max2D := fun ds vs G H Q R r w h k => by
  match ds, h with
  | [.int i, .int j], h =>
    obtain ⟨v, u, rfl, rv, ru⟩ := r.two
    rw [rp_int.mp rv, rp_int.mp ru]
    exact ⟨i, j, rfl, k _ _ G H (rp_int.mpr rfl) w Fm.refl h⟩
theorem lk_min2 {B : Bs} : LkCl B (fun xs H Q => ∃ i j, xs = [.int i, .int j] ∧ Q (.int (if j < i then j else i)) H) min2D := fun ds vs G H Q R r w h k => by
  match ds, h with
  | [.int i, .int j], h =>
    obtain ⟨v, u, rfl, rv, ru⟩ := r.two
    rw [rp_int.mp rv, rp_int.mp ru]
    exact ⟨i, j, rfl, k _ _ G H (rp_int.mpr rfl) w Fm.refl h⟩
/-- all([..]) of truth values -/
def allD : RCD := fun ds G Q => match ds with
  | [.ref a] => ∃ bs : List Bool, G a = some (.lst (bs.map D.bl)) ∧ Q (.bl (bs.all id)) G
  | _ => False
theorem RpL.bls {K : PySem.W.Frag} {H : Hp} : ∀ {bs : List Bool} {xs : List V}, RpL K H (bs.map D.bl) xs → xs = bs.map V.bl
  | [], xs, h => rpl_nil.mp h
  | b :: bs, xs, h => by
    obtain ⟨y, ys, rfl, r, t⟩ := rpl_cons.mp h
    rw [rp_bl.mp r, RpL.bls t]
    rfl
theorem lk_all {B : Bs} : LkCl B (rAll B.K) allD := fun ds vs G H Q R r w h k => by
  match ds, h with
  | [.ref a], h =>
    obtain ⟨v, rfl, rv⟩ := r.one
    obtain ⟨bs, e, h⟩ := h
    rw [rp_ref.mp rv]
    obtain ⟨vs, e2, ra⟩ := w a _ e
    rw [ra.bls] at e2
    exact ⟨a, bs, rfl, SqL.of e2, k _ _ G H (rp_bl.mpr rfl) w Fm.refl h⟩
def tupleD : RCD := fun ds G Q => match ds with
  | [.tup xs] => Q (.tup xs) G
  | [.ref a] => ∃ xs, G a = some (.lst xs) ∧ Q (.tup xs) G
  | [.fl xs] => Q (.tup xs) G
  | _ => False
theorem lk_tuple {B : Bs} : LkCl B (fun xs H Q => ∃ p ys, xs = [.ref p] ∧ ((SqL B.K H p ys ∧ ∀ l, H l = none → Q (.ref l) (L2.upd H l (.tup ys))) ∨ (SqT B.K H p ys ∧ Q (.ref p) H))) tupleD := fun ds vs G H Q R r w h k => by
  match ds, h with
  | [.tup xs], h =>
    obtain ⟨v, rfl, rv⟩ := r.one
    obtain ⟨a, vs, rfl, ha, ra⟩ := rp_tup.mp rv
    exact ⟨a, vs, rfl, .inr ⟨ha, k _ _ G H rv w Fm.refl h⟩⟩
  | [.fl xs], h =>
    obtain ⟨v, rfl, rv⟩ := r.one
    obtain ⟨a, vs, rfl, ha, ra⟩ := rp_fl.mp rv
    exact ⟨a, vs, rfl, .inl ⟨ha.sq, fun l hl => k _ _ G _ (rp_new_tup hl ra) (wld_hid w hl) (fm_hid hl) h⟩⟩
  | [.ref a], h =>
    obtain ⟨v, rfl, rv⟩ := r.one
    obtain ⟨xs, e, h⟩ := h
    rw [rp_ref.mp rv]
    obtain ⟨vs, e2, ra⟩ := w a _ e
    exact ⟨a, vs, rfl, .inl ⟨SqL.of e2, fun l hl => k _ _ G _ (rp_new_tup hl ra) (wld_hid w hl) (fm_hid hl) h⟩⟩
def listD : RCD := fun ds G Q => match ds with
  | [.tup xs] => ∀ p, G p = none → Q (.ref p) (G.upd p (.lst xs))
  | [.fl xs] => ∀ p, G p = none → Q (.ref p) (G.upd p (.lst xs))
  | [.ref a] => ∃ xs, G a = some (.lst xs) ∧ ∀ p, G p = none → Q (.ref p) (G.upd p (.lst xs))
  | _ => False
theorem lk_list {B : Bs} : LkCl B (fun xs H Q => ∃ p ys, xs = [.ref p] ∧ (SqL B.K H p ys ∨ SqT B.K H p ys) ∧ ∀ l, H l = none → Q (.ref l) (L2.upd H l (.lst ys))) listD := fun ds vs G H Q R r w h k => by
  have fin : ∀ (xs : List D) (vs : List V) (l : Addr), RpL B.K H xs vs → H l = none → (∀ p, G p = none → Q (.ref p) (G.upd p (.lst xs))) → R (.ref l) (L2.upd H l (.lst vs)) := fun xs vs l ra hl q =>
    k _ _ _ _ (rp_ref.mpr rfl) (wld_new (d := .lst xs) w hl ⟨_, upd_same, ra.mono (kp_new hl)⟩) (fm_new hl) (q l (w.none hl))
  match ds, h with
  | [.tup xs], h =>
    obtain ⟨v, rfl, rv⟩ := r.one
    obtain ⟨a, vs, rfl, ha, ra⟩ := rp_tup.mp rv
    exact ⟨a, vs, rfl, .inr ha, fun l hl => fin xs vs l ra hl h⟩
  | [.fl xs], h =>
    obtain ⟨v, rfl, rv⟩ := r.one
    obtain ⟨a, vs, rfl, ha, ra⟩ := rp_fl.mp rv
    exact ⟨a, vs, rfl, .inl ha.sq, fun l hl => fin xs vs l ra hl h⟩
  | [.ref a], h =>
    obtain ⟨v, rfl, rv⟩ := r.one
    obtain ⟨xs, e, h⟩ := h
    rw [rp_ref.mp rv]
    obtain ⟨vs, e2, ra⟩ := w a _ e
    exact ⟨a, vs, rfl, .inl (SqL.of e2), fun l hl => fin xs vs l ra hl h⟩
/-! ### isinstance of built-in classes -/
inductive Ty where
  | none | bool | int | str | tuple | list | dict
  deriving DecidableEq
def Ty.name : Ty → String
  | .none => "NoneType" | .bool => "bool" | .int => "int" | .str => "str" | .tuple => "tuple" | .list => "list" | .dict => "dict"
def Ty.isa : Ty → Ty → Bool
  | .bool, .int => true
  | a, b => decide (a = b)
def Ty.of (n : String) : Option Ty := if n = "bool" then some .bool else if n = "int" then some .int else if n = "str" then some .str else if n = "tuple" then some .tuple else if n = "list" then some .list else if n = "dict" then some .dict else Option.none
theorem kit_isa (a b : Ty) (h : b ≠ .none) : kitB a.name b.name = some (Ty.isa a b) := by
  cases b with
  | none => exact absurd rfl h
  | _ => cases a <;> decide +kernel
theorem Ty.of_name {n : String} {t : Ty} (h : Ty.of n = some t) : n = t.name ∧ t ≠ .none := by
  unfold Ty.of at h
  repeat (first | (split at h; · (cases h; rename_i e; exact ⟨e, by decide⟩)) | cases h)
def tyD (G : DG) : D → Option Ty
  | .non => some .none
  | .bl _ => some .bool
  | .int _ => some .int
  | .str _ => some .str
  | .tup _ => some .tuple
  | .fl _ => some .list
  | .ref a => match G a with
    | some (.lst _) => some .list
    | _ => Option.none
  | .ty _ => Option.none
theorem ty_rp {B : Bs} {G : DG} {H : Hp} {x : D} {v : V} {t : Ty} (w : Wld B G H) (r : Rp B.K H x v) (h : tyD G x = some t) : TyX B.K H v (.type t.name) := by
  cases x with
  | non => cases h; rw [rp_non.mp r]; exact .base .non
  | bl b => cases h; rw [rp_bl.mp r]; exact .base (.bl b)
  | int b => cases h; rw [rp_int.mp r]; exact .base (.int b)
  | str b => cases h; rw [rp_str.mp r]; exact .base (.str b)
  | tup ds =>
    cases h
    obtain ⟨a, xs, rfl, q, _⟩ := rp_tup.mp r
    rcases q with (q | ⟨o, q⟩) | ⟨o, its, n, q1, q2, _⟩
    · exact .base (.tup q)
    · exact .fTuple q
    · exact .kTuple q1 q2
  | fl ds =>
    cases h
    obtain ⟨a, xs, rfl, q, _⟩ := rp_fl.mp r
    rcases q with ⟨o, q⟩ | ⟨o, its, n, q1, q2, _⟩
    · exact .base (.frz q)
    · exact .kList q1 q2
  | ref a =>
    rw [rp_ref.mp r]
    have h : (match G a with | some (.lst _) => some Ty.list | _ => Option.none) = some t := h
    split at h
    · rename_i ds e
      cases h
      obtain ⟨xs, e2, _⟩ := w a _ e
      exact .base (.lst e2)
    · cases h
  | ty n => cases h
def isi1 (G : DG) (x c : D) : Option Bool := match tyD G x, c with
  | some a, .ty n => (Ty.of n).map (Ty.isa a)
  | _, _ => Option.none
def isiAny (G : DG) (x : D) : List D → Option Bool
  | [] => some false
  | c :: cs => match isi1 G x c with
    | some true => some true
    | some false => isiAny G x cs
    | Option.none => Option.none
def rIsiS (K : PySem.W.Frag) : List V → Hp → VK → Prop := fun xs H Q => ∃ (x : V) (tp : Addr) (cs : List V) (t : Value) (us : List Value) (b : Bool), xs = [x, .ref tp] ∧ SqT K H tp cs ∧ Paired ClsV cs us ∧ TyX K H x t ∧ PySem.W.kitAny K t us = some b ∧ Q (.bl b) H
theorem call_isiS {X : Cx} : CallR X (.builtin "isinstance") (rIsiS X.K) := by
  intro pins s σ H xs us Q I r h
  obtain ⟨x, tp, cs, t, ws, b, rfl, hT, k, ty, e, q⟩ := h
  obtain ⟨u1, u2, rfl, r1, r2⟩ := vals2 r
  cases (show u2 = Value.ref tp from r2)
  obtain ⟨P, Z, p, hx⟩ := kit_of I r1 ty
  obtain ⟨its, rv, ⟨o, h1, h2, n, h3⟩, _⟩ := I.tuple hT
  have e3 := ClsV.all k rv
  subst e3
  obtain ⟨oc, od, dt, sl⟩ := o
  simp only at h2 h3
  subst h2 h3
  exact PySem.W.kia_tup Z I.kIn p h1 e hx fun tk => ⟨.bl b, H, I.tok tk, rfl, q⟩
def rIsiA (K : PySem.W.Frag) : List V → Hp → VK → Prop := fun xs H Q => rIsi K xs H Q ∨ rIsiS K xs H Q
theorem call_isiA {X : Cx} : CallR X (.builtin "isinstance") (rIsiA X.K) := call_isi.or call_isiS
theorem isi1_some {G : DG} {x c : D} {b : Bool} (h : isi1 G x c = some b) : ∃ t u n, tyD G x = some t ∧ c = .ty n ∧ Ty.of n = some u ∧ b = Ty.isa t u := by
  unfold isi1 at h
  split at h
  · rename_i t n e
    cases e2 : Ty.of n with
    | none => rw [e2] at h; cases h
    | some u => rw [e2] at h; exact ⟨t, u, n, e, rfl, e2, (Option.some.inj h).symm⟩
  · cases h
theorem isi1_kit {K : PySem.W.Frag} {G : DG} {x c : D} {b : Bool} {t : Ty} (ht : tyD G x = some t) (h : isi1 G x c = some b) : ∃ n, c = .ty n ∧ PySem.W.kitOne K (.type t.name) (.type n) = some b := by
  obtain ⟨t', u, n, e1, rfl, e2, rfl⟩ := isi1_some h
  rw [ht] at e1; cases e1
  obtain ⟨rfl, hn⟩ := Ty.of_name e2
  exact ⟨_, rfl, kit_ty (kit_isa t u hn)⟩
theorem isiAny_kit {K : PySem.W.Frag} {H : Hp} {G : DG} {x : D} {t : Ty} (ht : tyD G x = some t) : ∀ {cs : List D} {vs : List V} {b : Bool}, (∀ c ∈ cs, ∃ n, c = .ty n) → RpL K H cs vs → isiAny G x cs = some b → ∃ us, Paired ClsV vs us ∧ PySem.W.kitAny K (.type t.name) us = some b
  | [], vs, b, _, r, h => by
    rw [rpl_nil.mp r]
    cases h
    exact ⟨[], .nil, kitAny_nil⟩
  | c :: cs, vs, b, hc, r, h => by
    obtain ⟨y, ys, rfl, r1, r2⟩ := rpl_cons.mp r
    have h : (match isi1 G x c with | some true => some true | some false => isiAny G x cs | Option.none => Option.none) = some b := h
    obtain ⟨n, rfl⟩ := hc c List.mem_cons_self
    rw [rp_ty.mp r1]
    have tys : ∀ (cs : List D) (ys : List V), (∀ c ∈ cs, ∃ n, c = .ty n) → RpL K H cs ys → ∃ us, Paired ClsV ys us := fun cs => by
      induction cs with
      | nil => intro ys _ r; rw [rpl_nil.mp r]; exact ⟨[], .nil⟩
      | cons c cs ih =>
        intro ys hc r
        obtain ⟨z, zs, rfl, q1, q2⟩ := rpl_cons.mp r
        obtain ⟨m, rfl⟩ := hc c List.mem_cons_self
        obtain ⟨us, hu⟩ := ih zs (fun d hd => hc d (List.mem_cons_of_mem _ hd)) q2
        rw [rp_ty.mp q1]
        exact ⟨_, .cons (.ty m) hu⟩
    cases e : isi1 G x (.ty n) with
    | none => rw [e] at h; cases h
    | some b1 =>
      rw [e] at h
      obtain ⟨m, em, kk⟩ := isi1_kit (K := K) ht e
      cases em
      cases b1 with
      | true =>
        cases h
        obtain ⟨us, hu⟩ := tys cs ys (fun d hd => hc d (List.mem_cons_of_mem _ hd)) r2
        exact ⟨_, .cons (.ty n) hu, kitAny_cons kk (fun z => nomatch z) fun _ => rfl⟩
      | false =>
        obtain ⟨us, hu, ka⟩ := isiAny_kit ht (fun d hd => hc d (List.mem_cons_of_mem _ hd)) r2 h
        exact ⟨_, .cons (.ty n) hu, kitAny_cons kk (fun _ => ka) fun z => nomatch z⟩

theorem isi1_ty {G : DG} {x c : D} {b : Bool} (h : isi1 G x c = some b) : ∃ n, c = .ty n := by
  obtain ⟨_, _, n, _, e, _⟩ := isi1_some h
  exact ⟨n, e⟩
/-- a tuple of built-in classes alone -/
def allTy : List D → Bool
  | [] => true
  | .ty _ :: cs => allTy cs
  | _ :: _ => false
theorem allTy_mem : ∀ {cs : List D}, allTy cs = true → ∀ c ∈ cs, ∃ n, c = .ty n
  | .ty n :: cs, h, c, hc => by
    rcases List.mem_cons.mp hc with rfl | hc
    · exact ⟨n, rfl⟩
    · exact allTy_mem (cs := cs) h c hc
def isiD : RCD := fun ds G Q => match ds with
  | [x, .tup cs] => (allTy cs = true ∧ cs ≠ []) ∧ match isiAny G x cs with
    | some b => Q (.bl b) G
    | Option.none => False
  | [x, .ty n] => match isi1 G x (.ty n) with
    | some b => Q (.bl b) G
    | Option.none => False
  | _ => False
theorem tyAny {G : DG} {x : D} : ∀ {cs : List D} {b : Bool}, isiAny G x cs = some b → cs ≠ [] → ∃ t, tyD G x = some t
  | c :: cs, b, h, _ => by
    have h : (match isi1 G x c with | some true => some true | some false => isiAny G x cs | Option.none => Option.none) = some b := h
    cases e : isi1 G x c with
    | none => rw [e] at h; cases h
    | some b1 =>
      obtain ⟨t, _, _, e1, _⟩ := isi1_some e
      exact ⟨t, e1⟩
  | [], _, _, h => absurd rfl h
theorem lk_isi {B : Bs} : LkCl B (rIsiA B.K) isiD := fun ds vs G H Q R r w h k => by
  match ds, h with
  | [x, .ty n], h =>
    obtain ⟨v, u, rfl, rv, ru⟩ := r.two
    rw [rp_ty.mp ru]
    have h : (match isi1 G x (.ty n) with | some b => Q (.bl b) G | Option.none => False) := h
    split at h
    · rename_i b e
      obtain ⟨t, u', n', e1, e2, e3, rfl⟩ := isi1_some e
      cases e2
      obtain ⟨m, em, kk⟩ := isi1_kit (K := B.K) e1 e
      cases em
      exact .inl ⟨v, .ty n, .type t.name, .type n, _, rfl, .ty n, ty_rp w rv e1, kk, k _ _ G H (rp_bl.mpr rfl) w Fm.refl h⟩
    · exact h.elim
  | [x, .tup cs], h =>
    obtain ⟨v, u, rfl, rv, ru⟩ := r.two
    obtain ⟨a, xs, rfl, ha, ra⟩ := rp_tup.mp ru
    obtain ⟨hc, h⟩ := h
    split at h
    · rename_i b e
      obtain ⟨t, et⟩ := tyAny e hc.2
      obtain ⟨us, hu, ka⟩ := isiAny_kit (K := B.K) (H := H) et (allTy_mem hc.1) ra e
      exact .inr ⟨v, a, xs, .type t.name, us, b, rfl, ha, hu, ty_rp w rv et, ka, k _ _ G H (rp_bl.mpr rfl) w Fm.refl h⟩
    · exact h.elim
end FD

/-! FD5: the rules by construct (one for each form of syntax), methods of lists, stores, calls of defs. -/
namespace FD
open PySem PySem.Spec PyProof.Rows L2
section
variable {X : Cx} {pos p p2 apos cpos : Pos} {a b e o : Expr} {es : List Expr} {da db te : DE} {t : DA} {k : Nat}
/-! ### operators -/
theorem pd_add (ha : PD X a da) (hb : PD X b db) : PD X (.BinOp a .Add b pos) (dOp addD da db) := pd_op op_addA lk_add ha hb
theorem pd_sub (ha : PD X a da) (hb : PD X b db) : PD X (.BinOp a .Sub b pos) (dOp subD da db) := pd_op op_sub lk_int0 ha hb
theorem pd_mul (ha : PD X a da) (hb : PD X b db) : PD X (.BinOp a .Mult b pos) (dOp mulD da db) := pd_op op_mulA lk_mul ha hb
theorem pd_mod (ha : PD X a da) (hb : PD X b db) : PD X (.BinOp a .Mod b pos) (dOp modD da db) := pd_op op_mod lk_int ha hb
theorem pd_fdiv (ha : PD X a da) (hb : PD X b db) : PD X (.BinOp a .FloorDiv b pos) (dOp fdivD da db) := pd_op op_fdiv lk_int ha hb
theorem pd_pow (ha : PD X a da) (hb : PD X b db) : PD X (.BinOp a .Pow b pos) (dOp powD da db) := pd_op op_pow lk_int ha hb
theorem pd_lt (ha : PD X a da) (hb : PD X b db) : PD X (.Compare a [.Lt] [b] pos) (dOp ltD da db) := pd_cmp op_ltA lk_ord ha hb (nomark _)
theorem pd_le (ha : PD X a da) (hb : PD X b db) : PD X (.Compare a [.LtE] [b] pos) (dOp leD da db) := pd_cmp op_leA lk_ord ha hb (nomark _)
theorem pd_gt (ha : PD X a da) (hb : PD X b db) : PD X (.Compare a [.Gt] [b] pos) (dOp gtD' da db) := pd_cmp op_gtA lk_ord ha hb (nomark _)
theorem pd_ge (ha : PD X a da) (hb : PD X b db) : PD X (.Compare a [.GtE] [b] pos) (dOp geD da db) := pd_cmp op_geA lk_ord ha hb (nomark _)
theorem pdt_lt (ha : PD X a da) (hb : PD X b db) : PDT X (.Compare a [.Lt] [b] pos) (dBool (dOp ltD da db)) := pdt_cmp op_ltA lk_ord ha hb (nomark _)
theorem pdt_le (ha : PD X a da) (hb : PD X b db) : PDT X (.Compare a [.LtE] [b] pos) (dBool (dOp leD da db)) := pdt_cmp op_leA lk_ord ha hb (nomark _)
theorem pdt_gt (ha : PD X a da) (hb : PD X b db) : PDT X (.Compare a [.Gt] [b] pos) (dBool (dOp gtD' da db)) := pdt_cmp op_gtA lk_ord ha hb (nomark _)
theorem pdt_ge (ha : PD X a da) (hb : PD X b db) : PDT X (.Compare a [.GtE] [b] pos) (dBool (dOp geD da db)) := pdt_cmp op_geA lk_ord ha hb (nomark _)
theorem pd_eq (hr : Room k X.A) (ha : PD X a da) (hb : PD X b db) : PD X (.Compare a [.Eq] [b] pos) (dOp (eqD false) da db) := pd_cmp (op_eqD hr.units) lk_eq ha hb (nomark _)
theorem pd_ne (hr : Room k X.A) (ha : PD X a da) (hb : PD X b db) : PD X (.Compare a [.NotEq] [b] pos) (dOp (eqD true) da db) := pd_cmp (op_neD hr.units) lk_ne ha hb (nomark _)
theorem pdt_eq (hr : Room k X.A) (ha : PD X a da) (hb : PD X b db) : PDT X (.Compare a [.Eq] [b] pos) (dBool (dOp (eqD false) da db)) := pdt_cmp (op_eqD hr.units) lk_eq ha hb (nomark _)
theorem pdt_ne (hr : Room k X.A) (ha : PD X a da) (hb : PD X b db) : PDT X (.Compare a [.NotEq] [b] pos) (dBool (dOp (eqD true) da db)) := pdt_cmp (op_neD hr.units) lk_ne ha hb (nomark _)
theorem pd_is (ha : PD X a da) (hb : PD X b db) : PD X (.Compare a [.Is] [b] pos) (dOp (isD false) da db) := pd_cmp op_isN lk_is ha hb (nomark _)
theorem pd_isnot (ha : PD X a da) (hb : PD X b db) : PD X (.Compare a [.IsNot] [b] pos) (dOp (isD true) da db) := pd_cmp op_notN lk_isnot ha hb (nomark _)
theorem pdt_is (ha : PD X a da) (hb : PD X b db) : PDT X (.Compare a [.Is] [b] pos) (dBool (dOp (isD false) da db)) := pdt_cmp op_isN lk_is ha hb (nomark _)
theorem pdt_isnot (ha : PD X a da) (hb : PD X b db) : PDT X (.Compare a [.IsNot] [b] pos) (dBool (dOp (isD true) da db)) := pdt_cmp op_notN lk_isnot ha hb (nomark _)
theorem pd_ix (ha : PD X a da) (hb : PD X b db) (hs : PlainIx b := by intro _ _; rfl) : PD X (.Subscript a b pos) (dOp ixD da db) := by
  obtain ⟨ta, pa, la⟩ := ha
  obtain ⟨tb, pb, lb⟩ := hb
  exact ⟨_, pe_ix ix_seq pa pb hs, lk_op lk_ix la lb⟩
theorem sl_all : SlR X (rSlAll X.K) := sl_tupA.or (sl_list.or sl_str)
theorem pd_slice {lo hi : Option Expr} {dl dh : DOp} (h : PD X e te) (hl : PDO X lo dl) (hh : PDO X hi dh) : PD X (.Subscript e (.Slice lo hi none p2) pos) (dSl te dl dh) := by
  obtain ⟨t0, p0, l0⟩ := h
  obtain ⟨t1, p1, l1⟩ := hl
  obtain ⟨t2, p2, l2⟩ := hh
  refine ⟨_, pe_slice sl_all p0 p1 p2, fun ρ σ G H Q R s w h k => ?_⟩
  refine l0 ρ σ G H _ _ s w h fun x v G1 H1 r1 w1 f1 q1 => ?_
  refine l1 ρ σ G1 H1 _ _ (s.mono (f1.kp w)) w1 q1 fun lo G2 H2 w2 f2 q2 => ?_
  refine l2 ρ σ G2 H2 _ _ (s.mono ((f1.trans f2).kp w)) w2 q2 fun hi G3 H3 w3 f3 q3 => ?_
  have r3 := r1.mono ((f2.trans f3).kp w1)
  have k3 := k.aft ((f1.trans f2).trans f3)
  cases x <;> try exact q3.elim
  · rename_i z
    rw [rp_str.mp r3]
    exact .inr (.inr ⟨z, rfl, q3.1, k3 _ _ G3 H3 (rp_str.mpr rfl) w3 Fm.refl q3.2⟩)
  · rename_i ds
    obtain ⟨a, vs, rfl, ha, ra⟩ := rp_tup.mp r3
    refine .inl ⟨a, vs, rfl, ha, fun hw => ?_, fun _ p hp => ?_⟩
    · refine k3 _ _ G3 H3 r3 w3 Fm.refl ?_
      rw [← ra.length] at hw
      have q3 : Q (.tup (cutD ds lo hi)) G3 := q3
      rw [cut_whole ds hw] at q3
      exact q3
    · exact k3 _ _ G3 _ (rp_new_tup hp (ra.cut lo hi)) (wld_hid w3 hp) (fm_hid hp) q3
  · rename_i a
    obtain ⟨ds, e, q3⟩ := q3
    rw [rp_ref.mp r3]
    obtain ⟨vs, e2, ra⟩ := w3 a _ e
    refine .inr (.inl ⟨a, vs, rfl, SqL.of e2, fun p hp => ?_⟩)
    exact k3 _ _ _ _ (rp_ref.mpr rfl) (wld_new (d := .lst (cutD ds lo hi)) w3 hp ⟨_, upd_same, (ra.cut lo hi).mono (kp_new hp)⟩) (fm_new hp) (q3 p (w3.none hp))
/-! ### built-ins -/
theorem pd_len (hg : Gl X "len") (hm : X.mg "len" = none) (ha : PDA X (e :: es) t) (he : starEach (e :: es) X.env = (false, eval e X.env) :: starEach es X.env := by rfl) (hpl : (backTo pos (starEach es X.env)).any (·.1) = false := by rfl) :
    PD X (.Call (.Name "len" p) (e :: es) [] pos) (dCB lenD t) := pd_callB call_len lk_len hg hm PySem.boot_len ha (by decide) (by decide) he hpl
theorem pd_isi (hg : Gl X "isinstance") (hm : X.mg "isinstance" = none) (ha : PDA X (e :: es) t) (he : starEach (e :: es) X.env = (false, eval e X.env) :: starEach es X.env := by rfl) (hpl : (backTo pos (starEach es X.env)).any (·.1) = false := by rfl) :
    PD X (.Call (.Name "isinstance" p) (e :: es) [] pos) (dCB isiD t) := pd_callB call_isiA lk_isi hg hm (by decide +kernel) ha (by decide) (by decide) he hpl
theorem pd_all (hc : X.calm = true) (hg : Gl X "all") (hm : X.mg "all" = none) (ha : PDA X (e :: es) t) (he : starEach (e :: es) X.env = (false, eval e X.env) :: starEach es X.env := by rfl) (hpl : (backTo pos (starEach es X.env)).any (·.1) = false := by rfl) :
    PD X (.Call (.Name "all" p) (e :: es) [] pos) (dCB allD t) := pd_callB (cr_all hc) lk_all hg hm (by decide +kernel) ha (by decide) (by decide) he hpl
theorem pd_max2 (hc : X.calm = true) (hg : Gl X "max") (hm : X.mg "max" = none) (ha : PDA X (e :: es) t) (he : starEach (e :: es) X.env = (false, eval e X.env) :: starEach es X.env := by rfl) (hpl : (backTo pos (starEach es X.env)).any (·.1) = false := by rfl) :
    PD X (.Call (.Name "max" p) (e :: es) [] pos) (dCB max2D t) := pd_callB (call_max2 hc) lk_max2 hg hm (by decide +kernel) ha (by decide) (by decide) he hpl
theorem pd_min2 (hc : X.calm = true) (hg : Gl X "min") (hm : X.mg "min" = none) (ha : PDA X (e :: es) t) (he : starEach (e :: es) X.env = (false, eval e X.env) :: starEach es X.env := by rfl) (hpl : (backTo pos (starEach es X.env)).any (·.1) = false := by rfl) :
    PD X (.Call (.Name "min" p) (e :: es) [] pos) (dCB min2D t) := pd_callB (call_min2 hc) lk_min2 hg hm (by decide +kernel) ha (by decide) (by decide) he hpl
theorem pd_tuple (hg : Gl X "tuple") (hm : X.mg "tuple" = none) (ha : PDA X (e :: es) t) (he : starEach (e :: es) X.env = (false, eval e X.env) :: starEach es X.env := by rfl) (hpl : (backTo pos (starEach es X.env)).any (·.1) = false := by rfl) :
    PD X (.Call (.Name "tuple" p) (e :: es) [] pos) (dCB tupleD t) := pd_callTy call_tuple_of lk_tuple hg hm (by decide +kernel) ha (by decide) (by decide) he hpl
theorem pd_list (hg : Gl X "list") (hm : X.mg "list" = none) (ha : PDA X (e :: es) t) (he : starEach (e :: es) X.env = (false, eval e X.env) :: starEach es X.env := by rfl) (hpl : (backTo pos (starEach es X.env)).any (·.1) = false := by rfl) :
    PD X (.Call (.Name "list" p) (e :: es) [] pos) (dCB listD t) := pd_callTy call_list_of lk_list hg hm (by decide +kernel) ha (by decide) (by decide) he hpl
/-! ### methods of lists -/
def isLst (x : D) (G : DG) : Prop := match x with
  | .ref a => ∃ ds, G a = some (.lst ds)
  | _ => False
abbrev RMD := D → List D → DG → DK → Prop
def LkM (B : Bs) (r : V → List V → Hp → VK → Prop) (rd : RMD) : Prop := ∀ x ds v vs G H Q R, Rp B.K H x v → RpL B.K H ds vs → Wld B G H → rd x ds G Q → Kt B G H Q R → r v vs H R
def dML (rd : RMD) (to : DE) (t : DA) : DE := fun ρ G Q => to ρ G fun x G1 => isLst x G1 ∧ t ρ G1 fun ds G2 => rd x ds G2 Q
theorem isLst_ty {B : Bs} {G : DG} {H : Hp} {x : D} {v : V} (w : Wld B G H) (r : Rp B.K H x v) (h : isLst x G) : tyV B.K "list" v H := by
  cases x <;> try exact h.elim
  rename_i a
  obtain ⟨ds, e⟩ := h
  rw [rp_ref.mp r]
  obtain ⟨xs, e2, _⟩ := w a _ e
  exact .inl ⟨rfl, xs, SqL.of e2⟩
theorem pd_ml {name : Str} {id : String} {r : V → List V → Hp → VK → Prop} {rd : RMD} (slot : Slot "list" name id) (hty : typeOf (.builtin id) = pure (.type "method_descriptor")) (hm : MtR X id r) (hl : LkM (bs X) r rd) (ho : PD X o te) (ha : PDA X (e :: es) t)
    (hbase : attributeBase o name X.env (eval o X.env) = eval o X.env := by rfl)
    (hfew : ((backTo cpos (starEach (e :: es) X.env)).all (fun x => !x.1) && (backToKw cpos (keywordEach [] X.env)).all (fun x => x.1.isSome)
      && decide ((e :: es).length + ([] : List Keyword).length + (if ([] : List Keyword).isEmpty then 0 else 1) < 30)) = true := by rfl)
    (hline : (apos.endLine == cpos.line) = true := by rfl) (hs : starEach (e :: es) X.env = (false, eval e X.env) :: starEach es X.env := by rfl) (hplain : (backTo cpos (starEach es X.env)).any (·.1) = false := by rfl) :
    PD X (.Call (.Attribute o name apos) (e :: es) [] cpos) (dML rd te t) := by
  obtain ⟨t0, p0, l0⟩ := ho
  obtain ⟨ta, pa, la⟩ := ha
  refine ⟨_, pe_bm PySem.F.plainAttrs_list slot hty hm p0 pa hbase hfew hline hs hplain, fun ρ σ G H Q R s w h k => ?_⟩
  refine l0 ρ σ G H _ _ s w h fun x v G1 H1 r1 w1 f1 q1 => ⟨isLst_ty w1 r1 q1.1, ?_⟩
  refine la ρ σ G1 H1 _ _ (s.mono (f1.kp w)) w1 q1.2 fun ds vs G2 H2 r2 w2 f2 q2 => ?_
  exact hl x ds v vs G2 H2 Q R (r1.mono (f2.kp w1)) r2 w2 q2 (k.aft (f1.trans f2))
def appendD : RMD := fun x ds G Q => match x, ds with
  | .ref l, [y] => ∃ xs, G l = some (.lst xs) ∧ xs.length < sizeLine ∧ Q .non (G.upd l (.lst (xs ++ [y])))
  | _, _ => False
theorem lk_append {B : Bs} : LkM B rAppend appendD := fun x ds v vs G H Q R rx rd w h k => by
  match x, ds, h with
  | .ref l, [y], h =>
    obtain ⟨xs, e, hz, q⟩ := h
    rw [rp_ref.mp rx]
    obtain ⟨u, rfl, ru⟩ := rd.one
    obtain ⟨us, e2, ra⟩ := w l _ e
    exact ⟨l, us, u, rfl, rfl, e2, by rw [← ra.length]; exact hz, k _ _ _ _ (rp_non.mpr rfl) (wld_set (d := .lst (xs ++ [y])) w e ⟨_, upd_same, (RpL.snoc ra ru).mono (kp_set w e)⟩) (fm_set w e) q⟩
def popAtD : RMD := fun x ds G Q => match x, ds with
  | .ref l, [.int i] => ∃ xs j y, G l = some (.lst xs) ∧ (-(2 ^ 63) ≤ i ∧ i < 2 ^ 63) ∧ seqIndex? i xs.length = some j ∧ xs[j]? = some y ∧ Q y (G.upd l (.lst (xs.eraseIdx j)))
  | _, _ => False
theorem lk_popAt {B : Bs} : LkM B rPopAt popAtD := fun x ds v vs G H Q R rx rd w h k => by
  match x, ds, h with
  | .ref l, [.int i], h =>
    obtain ⟨xs, j, y, e, hz, hj, hy, q⟩ := h
    rw [rp_ref.mp rx]
    obtain ⟨u, rfl, ru⟩ := rd.one
    rw [rp_int.mp ru]
    obtain ⟨us, e2, ra⟩ := w l _ e
    obtain ⟨z, hz2, rz⟩ := ra.get hy
    exact ⟨l, us, i, j, z, rfl, rfl, e2, hz.1, hz.2, by rw [← ra.length]; exact hj, hz2, k _ _ _ _ (rz.mono (kp_set w e)) (wld_set (d := .lst (xs.eraseIdx j)) w e ⟨_, upd_same, (ra.erase j).mono (kp_set w e)⟩) (fm_set w e) q⟩
theorem pd_append (ho : PD X o te) (ha : PDA X (e :: es) t)
    (hbase : attributeBase o "append" X.env (eval o X.env) = eval o X.env := by rfl)
    (hfew : ((backTo cpos (starEach (e :: es) X.env)).all (fun x => !x.1) && (backToKw cpos (keywordEach [] X.env)).all (fun x => x.1.isSome)
      && decide ((e :: es).length + ([] : List Keyword).length + (if ([] : List Keyword).isEmpty then 0 else 1) < 30)) = true := by rfl)
    (hline : (apos.endLine == cpos.line) = true := by rfl) (hs : starEach (e :: es) X.env = (false, eval e X.env) :: starEach es X.env := by rfl) (hplain : (backTo cpos (starEach es X.env)).any (·.1) = false := by rfl) :
    PD X (.Call (.Attribute o "append" apos) (e :: es) [] cpos) (dML appendD te t) := pd_ml PySem.F.slot_list_append PySem.F.type_list_append mt_append lk_append ho ha hbase hfew hline hs hplain
theorem pd_popAt (ho : PD X o te) (ha : PDA X (e :: es) t)
    (hbase : attributeBase o "pop" X.env (eval o X.env) = eval o X.env := by rfl)
    (hfew : ((backTo cpos (starEach (e :: es) X.env)).all (fun x => !x.1) && (backToKw cpos (keywordEach [] X.env)).all (fun x => x.1.isSome)
      && decide ((e :: es).length + ([] : List Keyword).length + (if ([] : List Keyword).isEmpty then 0 else 1) < 30)) = true := by rfl)
    (hline : (apos.endLine == cpos.line) = true := by rfl) (hs : starEach (e :: es) X.env = (false, eval e X.env) :: starEach es X.env := by rfl) (hplain : (backTo cpos (starEach es X.env)).any (·.1) = false := by rfl) :
    PD X (.Call (.Attribute o "pop" apos) (e :: es) [] cpos) (dML popAtD te t) := pd_ml PySem.F.slot_list_pop PySem.F.type_list_pop mt_popAt lk_popAt ho ha hbase hfew hline hs hplain
/-! ### stores to a place of a list -/
abbrev RSD := D → D → D → DG → (DG → Prop) → Prop
def LkSt (B : Bs) (r : TSet) (rd : RSD) : Prop := ∀ o i x vo vi vx G H Q R, Rp B.K H o vo → Rp B.K H i vi → Rp B.K H x vx → Wld B G H → rd o i x G Q → (∀ G' H', Wld B G' H' → Fm G H G' H' → Q G' → R H') → r vo vi vx H R
def gsD (to ti : DE) (rd : RSD) : DGt := fun x ρ G Q => to ρ G fun o G1 => ti ρ G1 fun i G2 => rd o i x G2 fun G3 => Q ρ G3
def setLD : RSD := fun o i x G Q => match o, i with
  | .ref l, .int n => ∃ xs j, G l = some (.lst xs) ∧ ixN xs.length n = some j ∧ Q (G.upd l (.lst (xs.set j x)))
  | _, _ => False
theorem lk_setL {B : Bs} : LkSt B rSetL setLD := fun o i x vo vi vx G H Q R ro ri rx w h k => by
  match o, i, h with
  | .ref l, .int n, h =>
    obtain ⟨xs, j, e, hj, q⟩ := h
    rw [rp_ref.mp ro, rp_int.mp ri]
    obtain ⟨us, e2, ra⟩ := w l _ e
    exact ⟨l, us, n, j, rfl, rfl, e2, by rw [← ra.length]; exact hj, k _ _ (wld_set (d := .lst (xs.set j x)) w e ⟨_, upd_same, (ra.set j rx).mono (kp_set w e)⟩) (fm_set w e) q⟩
theorem pdg_sub {i : Expr} {ti : DE} {r : TSet} {rd : RSD} (ho : PD X o te) (hi : PD X i ti) (hs : PSet X r) (hl : LkSt (bs X) r rd)
    (ha : ∀ v, assign (.Subscript o i pos) X.env v = (do
      let ov ← holding [v] (eval o X.env)
      let iv ← holding [v, ov] (eval i X.env)
      standAt pos
      holding [v, ov, iv] (setItem ov iv v)
      release [v, ov, iv] []) := by intro _; rfl) : PDG X (.Subscript o i pos) (gsD te ti rd) := by
  obtain ⟨t0, p0, l0⟩ := ho
  obtain ⟨t1, p1, l1⟩ := hi
  refine ⟨_, pg_sub p0 p1 hs ha, fun d v ρ σ G H Q R r s w h k => ?_⟩
  refine l0 ρ σ G H _ _ s w h fun x vx G1 H1 r1 w1 f1 q1 => ?_
  refine l1 ρ σ G1 H1 _ _ (s.mono (f1.kp w)) w1 q1 fun y vy G2 H2 r2 w2 f2 q2 => ?_
  have f02 := f1.trans f2
  refine hl x y d vx vy v G2 H2 _ _ (r1.mono (f2.kp w1)) r2 (r.mono (f02.kp w)) w2 q2 fun G3 H3 w3 f3 q3 => ?_
  exact k ρ σ G3 H3 (s.mono ((f02.trans f3).kp w)) w3 (f02.trans f3) q3
theorem pdg_subL {i : Expr} {ti : DE} (ho : PD X o te) (hi : PD X i ti)
    (ha : ∀ v, assign (.Subscript o i pos) X.env v = (do
      let ov ← holding [v] (eval o X.env)
      let iv ← holding [v, ov] (eval i X.env)
      standAt pos
      holding [v, ov, iv] (setItem ov iv v)
      release [v, ov, iv] []) := by intro _; rfl) : PDG X (.Subscript o i pos) (gsD te ti setLD) := pdg_sub ho hi set_list lk_setL ha
end
/-! ### defs -/
abbrev DSp := List D → DG → DK → Prop
def lift (B : Bs) (dsp : DSp) : Sp := fun vs H Q _ => ∃ ds G Qd, RpL B.K H ds vs ∧ Wld B G H ∧ dsp ds G Qd ∧ Kt B G H Qd Q
def dCall (dsp : DSp) (t : DA) : DE := fun ρ G Q => t ρ G fun ds G1 => dsp ds G1 Q
/-- the promise of a def (n parameters) is its reading -/
def self (N : List Str) (n : Nat) (t : DS) : DSp := fun ds G Q => ds.length = n ∧ t { nx := fun _ G' => Q .non G', rt := Q } (startD N ds) G
section
variable {X : Cx} {k : Nat} {f : Addr} {fd : FuncData} {ps : List Str} {x : Str} {p pos : Pos} {e : Expr} {es : List Expr} {t : DA} {dsp : DSp}
theorem lk_call {B : Bs} {ta : TA} (la : LkA B ta t) : LkE B (tCall (lift B dsp) [] E0 ta) (dCall dsp t) := fun ρ σ G H Q R s w h k => by
  refine la ρ σ G H _ _ s w h fun ds vs G1 H1 r1 w1 f1 q1 => ?_
  show lift B dsp (vs ++ []) H1 R E0
  rw [List.append_nil]
  exact ⟨ds, G1, Q, r1, w1, q1, k.aft f1⟩
theorem pd_call (F : FnOk X.prog X.w X.K X.mg X.base CX0 k f fd ps (lift (bs X) dsp)) (hr : Room k X.A) (hg : Gl X x) (hm : X.mg x = some (.ref f)) (hk : PySem.W.keepIn X.K (.ref f) = true) (hb : Binds X.K fd ps [])
    (ha : PDA X (e :: es) t) (hdb : (x == ("__debug__" : Str)) = false := by decide) (he : starEach (e :: es) X.env = (false, eval e X.env) :: starEach es X.env := by rfl) (hpl : (backTo pos (starEach es X.env)).any (·.1) = false := by rfl) :
    PD X (.Call (.Name x p) (e :: es) [] pos) (dCall dsp t) := by
  obtain ⟨ta, pa, la⟩ := ha
  exact ⟨_, pe_call F hr hg hm hk hb .nil pass0 pa hdb he hpl, lk_call la⟩
theorem pd_call0 (F : FnOk X.prog X.w X.K X.mg X.base CX0 k f fd ps (lift (bs X) dsp)) (hr : Room k X.A) (hg : Gl X x) (hm : X.mg x = some (.ref f)) (hk : PySem.W.keepIn X.K (.ref f) = true) (hb : Binds X.K fd ps [])
    (hdb : (x == ("__debug__" : Str)) = false := by decide) : PD X (.Call (.Name x p) [] [] pos) (dCall dsp dNil) :=
  ⟨_, pe_call0 F hr hg hm hk hb .nil pass0 hdb, lk_call fun ρ σ G H Q R s w h k => k [] [] G H RpL.nil w Fm.refl h⟩
end
/-- a def of the text keeps its reading as its promise -/
theorem fn_ok {P : Program} {w : World} {K : PySem.W.Frag} {mg : Str → Option Value} {base : Heap} {x qual : Str} {st : Stmt} {f : Addr} {fd : FuncData} {N ps : List Str} {k : Nat} {t : DS} (F : Fun K x qual st f fd) (S : FnScope N ps (defScope st))
    (hb : ∀ (cdv : Value) (A : Around) (outer : List Env) (s : Shared) (H : Hp) (E : XK), Room k (A.deeper (envOfC qual (defScope st) s.heap.objs.size f cdv)) → PDSs (cxOf CX0 P w K mg base N qual (defScope st) f cdv A outer s H E).nox (defBody st) t) :
    FnOk P w K mg base CX0 (k + 1) f fd ps (lift ⟨P, w, K⟩ (self N ps.length t)) := by
  refine F.ok S (fun vs H Q E h => ?_) (fun cdv A outer s H vs Q E hr h => ?_)
  · obtain ⟨ds, G, Qd, r, _, h, _⟩ := h
    rw [← r.length]
    exact h.1
  · obtain ⟨ds, G, Qd, r, wl, h, kt⟩ := h
    obtain ⟨tb, pb, lb⟩ := hb cdv A outer s H E hr
    refine ⟨tb, pb, ?_⟩
    have sl : RpS K H (startD N ds) (L2.start N vs) := by
      unfold startD L2.start
      rw [r.length]
      exact RpS.start r
    exact lb _ _ G H _ _ sl wl h.2 ⟨fun ρ σ G' H' s' w' f' q => kt _ _ G' H' (rp_non.mpr rfl) w' f' q, kt, fun ρ σ G' H' s' w' f' q => q.elim, fun ρ σ G' H' s' w' f' q => q.elim⟩
/-- nothing is promised -/
theorem fn_no {P : Program} {w : World} {K : PySem.W.Frag} {mg : Str → Option Value} {base : Heap} {k : Nat} {f : Addr} {fd : FuncData} {ps : List Str} {B : Bs} : FnOk P w K mg base CX0 k f fd ps (lift B fun _ _ _ => False) :=
  ⟨fun vs H Q E h => by obtain ⟨_, _, _, _, _, h, _⟩ := h; exact h.elim, fun A outer s H args us vs Q E _ _ _ _ h => by obtain ⟨_, _, _, _, _, h, _⟩ := h; exact h.elim⟩
end FD

/-! FD6: dicts whose keys are tuples, nested: {}, d[k] = v, d[k], list(d), k in d; dict comprehensions. -/
namespace FD
open PySem PySem.Spec PyProof.Rows L2
/-! ### keys -/
section
variable {X : Cx} {pins : List (Addr × Obj)} {σ : L2.St} {H : Hp} {s : Shared}
mutual
theorem nk_is (I : Inv X pins σ H s) : ∀ (d : D) (v : V) (u : Value) (k : NestedKey), nkey d = some k → Rp X.K H d v → RelV v u → NestedIs s.heap k u
  | .non, v, u, k, e, r, q => by
    rw [rp_non.mp r] at q
    cases (show u = Value.none from q)
    rw [nkey] at e
    cases e
    exact .none
  | .bl b, v, u, k, e, r, q => by
    rw [rp_bl.mp r] at q
    cases (show u = Value.bool b from q)
    rw [nkey] at e
    cases e
    exact .bool rfl
  | .int i, v, u, k, e, r, q => by
    rw [rp_int.mp r] at q
    obtain ⟨t, rfl⟩ := (show ∃ t, u = Value.int i t from q)
    rw [nkey] at e
    cases e
    exact .int i t
  | .str x, v, u, k, e, r, q => by
    rw [rp_str.mp r] at q
    obtain ⟨t, rfl⟩ := (show ∃ t, u = Value.str x t from q)
    rw [nkey] at e
    cases e
    exact .text x t
  | .tup ds, v, u, k, e, r, q => by
    obtain ⟨a, xs, rfl, ha, ra⟩ := rp_tup.mp r
    cases (show u = Value.ref a from q)
    obtain ⟨its, rv, ⟨o, h1, h2, n, h3⟩, _⟩ := I.tuple ha
    rw [nkey] at e
    cases ek : nkeys ds with
    | none => rw [ek] at e; cases e
    | some ks =>
      rw [ek] at e
      cases e
      exact .tup h1 h2 h3 (nks_are I ds xs its ks ek ra rv)
  | .fl ds, _, _, _, e, _, _ => by rw [nkey] at e; all_goals first | cases e | (intros; nofun)
  | .ref a, _, _, _, e, _, _ => by rw [nkey] at e; all_goals first | cases e | (intros; nofun)
  | .ty a, _, _, _, e, _, _ => by rw [nkey] at e; all_goals first | cases e | (intros; nofun)
theorem nks_are (I : Inv X pins σ H s) : ∀ (ds : List D) (vs : List V) (us : List Value) (ks : List NestedKey), nkeys ds = some ks → RpL X.K H ds vs → Vals vs us → NestedAll s.heap ks us
  | [], vs, us, ks, e, r, q => by
    rw [rpl_nil.mp r] at q
    cases q
    rw [nkeys] at e
    cases e
    exact .nil
  | d :: ds, vs, us, ks, e, r, q => by
    obtain ⟨y, ys, rfl, r1, r2⟩ := rpl_cons.mp r
    cases q with
    | cons q1 q2 =>
      rw [nkeys] at e
      cases e1 : nkey d with
      | none => rw [e1] at e; cases e
      | some k1 =>
        cases e2 : nkeys ds with
        | none => rw [e1, e2] at e; cases e
        | some k2 =>
          rw [e1, e2] at e
          cases e
          exact .cons (nk_is I d _ _ k1 e1 r1 q1) (nks_are I ds _ _ k2 e2 r2 q2)
end
end
def keq (a b : D) : Bool := decide (nkey a = nkey b)
def dget (kvs : List (D × D)) (k : D) : Option D := (kvs.find? fun p => keq p.1 k).map (·.2)
def dput (kvs : List (D × D)) (k v : D) : List (D × D) := if (dget kvs k).isSome then kvs.map fun p => if keq p.1 k = true then (p.1, v) else p else kvs ++ [(k, v)]
def isTup : D → Bool
  | .tup _ => true
  | _ => false
def tupKeys (kvs : List (D × D)) : Bool := kvs.all fun p => isTup p.1
/-- a key that may stand in such a dict -/
def okKey (k : D) : Bool := isTup k && match nkey k with
  | some n => decide (n.depth ≤ 8)
  | none => false
abbrev NRel (K : PySem.W.Frag) (H : Hp) (p : D × D) (q : NestedKey × Addr × Value) : Prop := nkey p.1 = some q.1 ∧ q.1.depth ≤ 8 ∧ (∃ ds, p.1 = .tup ds) ∧ Rp K H p.1 (.ref q.2.1) ∧ ∃ v, RelV v q.2.2 ∧ Rp K H p.2 v
section
variable {K : PySem.W.Frag} {H : Hp}
theorem nr_get : ∀ {kvs : List (D × D)} {xs : List (NestedKey × Addr × Value)} {k : D} {n : NestedKey}, nkey k = some n → Paired (NRel K H) kvs xs →
    (dget kvs k = none ∧ atKey xs n = none) ∨ ∃ d p v, dget kvs k = some d ∧ atKey xs n = some p ∧ RelV v p.2 ∧ Rp K H d v
  | _, _, k, n, e, .nil => .inl ⟨rfl, rfl⟩
  | _, _, k, n, e, .cons (a := x) (b := y) (l₁ := l) (l₂ := m) r t => by
    by_cases h : y.1 = n
    · have hk : keq x.1 k = true := by
        unfold keq
        rw [r.1, e, h]
        exact decide_eq_true rfl
      refine .inr ?_
      obtain ⟨v, rv, rp⟩ := r.2.2.2.2
      refine ⟨x.2, y.2, v, ?_, ?_, rv, rp⟩
      · unfold dget
        rw [List.find?_cons_of_pos (p := fun p : D × D => keq p.1 k) hk]
        rfl
      · unfold atKey
        rw [List.find?_cons_of_pos (p := fun z : NestedKey × Addr × Value => decide (z.1 = n)) (decide_eq_true h)]
        rfl
    · have hk : ¬ keq x.1 k = true := by
        unfold keq
        rw [r.1, e]
        intro z
        exact h (Option.some.inj (of_decide_eq_true z))
      have e1 : dget (x :: l) k = dget l k := by
        unfold dget
        rw [List.find?_cons_of_neg (p := fun p : D × D => keq p.1 k) hk]
      have e2 : atKey (y :: m) n = atKey m n := by
        unfold atKey
        rw [List.find?_cons_of_neg (p := fun z : NestedKey × Addr × Value => decide (z.1 = n)) (by intro z; exact h (of_decide_eq_true z))]
      rw [e1, e2]
      exact nr_get e t
theorem nr_map {k v : D} {n : NestedKey} {u : Value} {vv : V} (e : nkey k = some n) (rv : RelV vv u) (rp : Rp K H v vv) : ∀ {kvs : List (D × D)} {xs : List (NestedKey × Addr × Value)}, Paired (NRel K H) kvs xs →
    Paired (NRel K H) (kvs.map fun p => if keq p.1 k = true then (p.1, v) else p) (xs.map (putAt n u))
  | _, _, .nil => .nil
  | _, _, .cons (a := x) (b := y) r t => by
    refine .cons ?_ (nr_map e rv rp t)
    unfold putAt
    by_cases h : y.1 = n
    · have hk : keq x.1 k = true := by
        unfold keq
        rw [r.1, e, h]
        exact decide_eq_true rfl
      dsimp only
      rw [if_pos hk, if_pos h]
      exact ⟨r.1, r.2.1, r.2.2.1, r.2.2.2.1, vv, rv, rp⟩
    · have hk : ¬ keq x.1 k = true := by
        unfold keq
        rw [r.1, e]
        intro z
        exact h (Option.some.inj (of_decide_eq_true z))
      dsimp only
      rw [if_neg hk, if_neg h]
      exact r
theorem nr_app {x : D × D} {y : NestedKey × Addr × Value} (r : NRel K H x y) : ∀ {kvs : List (D × D)} {xs : List (NestedKey × Addr × Value)}, Paired (NRel K H) kvs xs → Paired (NRel K H) (kvs ++ [x]) (xs ++ [y])
  | _, _, .nil => .cons r .nil
  | _, _, .cons q t => .cons q (nr_app r t)
theorem nr_put {k v : D} {n : NestedKey} {b : Addr} {u : Value} {vv : V} {ds : List D} (e : nkey k = some n) (hd : n.depth ≤ 8) (ek : k = .tup ds) (rk : Rp K H k (.ref b)) (rv : RelV vv u) (rp : Rp K H v vv) {kvs : List (D × D)} {xs : List (NestedKey × Addr × Value)} (h : Paired (NRel K H) kvs xs) :
    Paired (NRel K H) (dput kvs k v) (storedH xs n b u) := by
  unfold dput storedH
  rcases nr_get e h with ⟨h1, h2⟩ | ⟨d, p, w, h1, h2, _⟩
  · rw [h1, h2]
    exact nr_app (x := (k, v)) (y := (n, b, u)) ⟨e, hd, ⟨ds, ek⟩, rk, vv, rv, rp⟩ h
  · rw [h1, h2]
    exact nr_map e rv rp h
theorem nr_mem {x : NestedKey × Addr × Value} : ∀ {kvs : List (D × D)} {xs : List (NestedKey × Addr × Value)}, Paired (NRel K H) kvs xs → x ∈ xs → ∃ p, NRel K H p x
  | _, _, .nil, h => by cases h
  | _, _, .cons r t, h => by
    rcases List.mem_cons.mp h with rfl | h
    · exact ⟨_, r⟩
    · exact nr_mem t h
theorem nr_mono {H' : Hp} (k : Kp K H H') {kvs : List (D × D)} {xs : List (NestedKey × Addr × Value)} (h : Paired (NRel K H) kvs xs) : Paired (NRel K H') kvs xs :=
  paired_mono (fun p q h => ⟨h.1, h.2.1, h.2.2.1, h.2.2.2.1.mono k, h.2.2.2.2.elim fun v hv => ⟨v, hv.1, hv.2.mono k⟩⟩) h
end
theorem dput_len (kvs : List (D × D)) (k v : D) : (dput kvs k v).length ≤ kvs.length + 1 := by
  unfold dput
  split
  · rw [List.length_map]; omega
  · rw [List.length_append]; exact Nat.le_refl _
section
variable {X : Cx} {pins : List (Addr × Obj)} {σ : L2.St} {H : Hp} {s : Shared} {G : DG} {a : Addr} {kvs : List (D × D)}
/-- what stands in the heap for a dict of the store -/
theorem dn_of (I : Inv X pins σ H s) (w : Wld (bs X) G H) (e : G a = some (.dic kvs)) (ht : tupKeys kvs = true) :
    ∃ xs, s.heap.DictOfH (nestedKind X.prog X.w) a xs ∧ Paired (NRel X.K H) kvs xs ∧ (a == sysModules) = false ∧ Mut (H a) ∧ kvs.length ≤ sizeLine := by
  rcases w a _ e with ⟨ks, h1, h2⟩ | ⟨xs, h1, h2, h3, h4, h5⟩
  · cases h2 with
    | nil =>
      obtain ⟨_, hd, vs, rel, o, es, ep, q1, q2, q3, _, q4, _⟩ := dk_of I.hok h1
      cases rel
      have q5 : es.toList = [] := by
        generalize es.toList = l at q4
        cases q4
        rfl
      exact ⟨[], ⟨o, es, ep, q1, q2, q3, q5, fun _ hx => (nomatch hx), List.nodup_nil⟩, .nil, hd, by rw [h1]; exact True.intro, Nat.zero_le _⟩
    | cons r t =>
      rename_i x y l m
      have hx : isTup x.1 = true := (List.all_eq_true.mp ht) x List.mem_cons_self
      have q := r.1
      cases hx1 : x.1 with
      | tup ds => rw [hx1] at q; cases q
      | _ => rw [hx1] at hx; cases hx
  · obtain ⟨⟨o, es, ep, q1, q2, q3, q4⟩, _, _⟩ := (show ObjOk X.prog X.w H s.heap a (.ext (RawD (bs X) a xs)) from I.hok a _ h1)
    refine ⟨xs, ⟨o, es, ep, q1, q2, q3, q4, fun x hx => ?_, h4⟩, h5, h2, by rw [h1]; exact True.intro, h3⟩
    obtain ⟨p, r⟩ := nr_mem h5 hx
    exact ⟨nk_is I p.1 (.ref x.2.1) (.ref x.2.1) x.1 r.1 r.2.2.2.1 rfl, r.2.1⟩
theorem raw_new {B : Bs} {h' : Heap} {xs : List (NestedKey × Addr × Value)} {H' : Hp} (m : h'.DictOfH (nestedKind B.P B.w) a xs) : ObjOk B.P B.w H' h' a (.ext (RawD B a xs)) := by
  obtain ⟨o, es, ep, q1, q2, q3, q4, q5, q6⟩ := m
  refine ⟨⟨o, es, ep, q1, q2, q3, q4⟩, ⟨o, q1⟩, fun h1 h2 z k => ?_⟩
  obtain ⟨o', es', ep', z1, z2, z3, z4⟩ := z
  exact ⟨o', es', ep', k _ z1, z2, z3, z4⟩
/-- d[k] = v, or {.. k: v ..}: the store behind it -/
theorem dn_put {h' : Heap} {t' : Nat} {xs : List (NestedKey × Addr × Value)} {k v : D} {n : NestedKey} {b : Addr} {u : Value} {vv : V} (I : Inv X pins σ H s) (w : Wld (bs X) G H) (e : G a = some (.dic kvs)) (hp : Paired (NRel X.K H) kvs xs) (hs : (a == sysModules) = false) (mu : Mut (H a)) (hz : kvs.length < sizeLine)
    (ek : nkey k = some n) (hd : n.depth ≤ 8) (hk : isTup k = true) (rk : Rp X.K H k (.ref b)) (rv : RelV vv u) (rp : Rp X.K H v vv) (m : h'.DictOfH (nestedKind X.prog X.w) a (storedH xs n b u)) (sb : Heap.SameBut a s.heap h') :
    ∃ H', Inv X pins σ H' { s with heap := h', toks := t' } ∧ Wld (bs X) (G.upd a (.dic (dput kvs k v))) H' ∧ Fm G H (G.upd a (.dic (dput kvs k v))) H' := by
  refine ⟨L2.upd H a (.ext (RawD (bs X) a (storedH xs n b u))), d_write I mu sb (let ⟨q, _, _, hq, _⟩ := m; ⟨q, hq⟩) (raw_new (B := bs X) m), ?_, fm_set w e⟩
  refine wld_set (d := .dic (dput kvs k v)) w e (.inr ⟨storedH xs n b u, upd_same, hs, ?_, ?_, ?_⟩)
  · have := dput_len kvs k v
    omega
  · obtain ⟨_, _, _, _, _, _, _, _, q⟩ := m
    exact q
  · cases k with
    | tup ds => exact nr_mono (kp_set w e) (nr_put ek hd rfl rk rv rp hp)
    | _ => cases hk
end
theorem okKey_of {k : D} (h : okKey k = true) : isTup k = true ∧ ∃ n, nkey k = some n ∧ n.depth ≤ 8 := by
  unfold okKey at h
  rw [Bool.and_eq_true] at h
  refine ⟨h.1, ?_⟩
  have h2 := h.2
  cases e : nkey k with
  | none => rw [e] at h2; cases h2
  | some n => rw [e] at h2; exact ⟨n, rfl, of_decide_eq_true h2⟩
theorem tup_ref {K : PySem.W.Frag} {H : Hp} {k : D} {v : V} (h : isTup k = true) (r : Rp K H k v) : ∃ b, v = .ref b := by
  cases k with
  | tup ds => obtain ⟨a, _, e, _⟩ := rp_tup.mp r; exact ⟨a, e⟩
  | _ => cases h
/-! ### {}, d[k] = v -/
def dDict0 : DE := fun _ G Q => ∀ p, G p = none → Q (.ref p) (G.upd p (.dic []))
theorem pd_dict0 {X : Cx} {pos : Pos} : PD X (.Dict [] [] pos) dDict0 := ⟨_, pe_dnewK, fun ρ σ G H Q R s w h k p hp =>
  k _ _ _ _ (rp_ref.mpr rfl) (wld_new (d := .dic []) w hp (.inl ⟨[], upd_same, .nil⟩)) (fm_new hp) (h p (w.none hp))⟩
def setDD : RSD := fun o k v G Q => match o with
  | .ref a => ∃ kvs, G a = some (.dic kvs) ∧ tupKeys kvs = true ∧ okKey k = true ∧ kvs.length < sizeLine ∧ Q (G.upd a (.dic (dput kvs k v)))
  | _ => False
def lowSt (B : Bs) (rd : RSD) : TSet := fun o i v H R => ∃ d k x G Q, Rp B.K H d o ∧ Rp B.K H k i ∧ Rp B.K H x v ∧ Wld B G H ∧ rd d k x G Q ∧ ∀ G' H', Wld B G' H' → Fm G H G' H' → Q G' → R H'
theorem lowSt_lk {B : Bs} {rd : RSD} : LkSt B (lowSt B rd) rd := fun o i x vo vi vx G H Q R r1 r2 r3 w h k => ⟨o, i, x, G, Q, r1, r2, r3, w, h, k⟩
theorem room8 {k : Nat} {A : Around} (hr : Room k A) : A.in1.units + 8 < cLine := by
  have h := hr.units
  show A.units + 1 + 8 < cLine
  omega
theorem room8' {k : Nat} {A : Around} (hr : Room k A) : A.units + 8 < cLine := by
  have h := hr.units
  omega
theorem set_dic {X : Cx} {k : Nat} (hr : Room k X.A) : PSet X (lowSt (bs X) setDD) := by
  intro pins s σ H o i v ov iv u Q I ro ri rv h
  obtain ⟨d, k, x, G, Q', r1, r2, r3, w, h, kk⟩ := h
  cases d with
  | ref a =>
    obtain ⟨kvs, e, ht, hk, hz, q⟩ := h
    obtain ⟨hk1, n, en, hd⟩ := okKey_of hk
    rw [rp_ref.mp r1] at ro
    cases (show ov = Value.ref a from ro)
    obtain ⟨b, rfl⟩ := tup_ref hk1 r2
    cases (show iv = Value.ref b from ri)
    obtain ⟨xs, m, hp, hs, mu, hl⟩ := dn_of I w e ht
    have hxl : xs.length = kvs.length := (Paired.length hp).symm
    refine wpAny_setItem_heap (hsz := by omega) (room8 hr) (show (nestedKind X.prog X.w).is s.heap n b from ⟨nk_is I k _ _ n en r2 rfl, hd⟩) m fun h' m' sb => ?_
    obtain ⟨H', I', w', f'⟩ := dn_put (t' := s.toks + (nestedKind X.prog X.w).draws n) I w e hp hs mu hz en hd hk1 r2 rv r3 m' sb
    exact ⟨H', I', kk _ H' w' f' q⟩
  | _ => exact h.elim
theorem pdg_subD {X : Cx} {k : Nat} {pos : Pos} {o i : Expr} {te ti : DE} (hr : Room k X.A) (ho : PD X o te) (hi : PD X i ti)
    (ha : ∀ v, assign (.Subscript o i pos) X.env v = (do
      let ov ← holding [v] (eval o X.env)
      let iv ← holding [v, ov] (eval i X.env)
      standAt pos
      holding [v, ov, iv] (setItem ov iv v)
      release [v, ov, iv] []) := by intro _; rfl) : PDG X (.Subscript o i pos) (gsD te ti setDD) := pdg_sub ho hi (set_dic hr) lowSt_lk ha
/-! ### d[k] -/
def getDD : R2D := fun o k G Q => match o with
  | .ref a => ∃ kvs v, G a = some (.dic kvs) ∧ tupKeys kvs = true ∧ okKey k = true ∧ dget kvs k = some v ∧ Q v G
  | _ => False
def lowR (B : Bs) (rd : R2D) : R2 := fun x y H R => ∃ d e G Q, Rp B.K H d x ∧ Rp B.K H e y ∧ Wld B G H ∧ rd d e G Q ∧ Kt B G H Q R
theorem lowR_lk {B : Bs} {rd : R2D} : LkR B (lowR B rd) rd := fun x y v u G H Q R r1 r2 w h k => ⟨x, y, G, Q, r1, r2, w, h, k⟩
theorem sub_dict {X : Cx} {k : Nat} {o i : Expr} {pos : Pos} {td ty : TE} (hr : Room k X.A) (ho : PE X o td) (hi : PE X i ty) (hs : NoSl i) : PE X (.Subscript o i pos) (tOp (lowR (bs X) getDD) td ty) := by
  refine ⟨fun pins s σ H Q I h => ?_⟩
  refine subD_of PySem.F.slot_dict_getitem.lookup hs (thn (ho.run pins s σ H _ I h) fun u s1 ⟨x, H1, I1, rx, q1⟩ => thn (hi.run pins s1 σ H1 _ I1 q1) fun iv s2 ⟨y, H2, I2, ry, d, e, G, Q', r1, r2, w, h, kk⟩ => ?_)
  cases d with
  | ref a =>
    obtain ⟨kvs, v, eg, ht, hk, hv, q⟩ := h
    obtain ⟨hk1, n, en, hd⟩ := okKey_of hk
    rw [rp_ref.mp r1] at rx
    cases (show u = Value.ref a from rx)
    obtain ⟨b, rfl⟩ := tup_ref hk1 r2
    cases (show iv = Value.ref b from ry)
    obtain ⟨xs, m, hp, hs, mu, hl⟩ := dn_of I2 w eg ht
    rcases nr_get en hp with ⟨h1, h2⟩ | ⟨d', p, vv, h1, h2, rv, rp⟩
    · rw [hv] at h1; cases h1
    · rw [hv] at h1
      cases h1
      exact ⟨m.typeIs, wpAny_getItem_heap (room8 hr) (show (nestedKind X.prog X.w).is s2.heap n b from ⟨nk_is I2 e _ _ n en r2 rfl, hd⟩) m h2 ⟨vv, H2, I2.tok _, rv, kk _ _ G H2 rp w Fm.refl q⟩⟩
  | _ => exact h.elim
theorem pd_getD {X : Cx} {k : Nat} {o i : Expr} {pos : Pos} {td ty : DE} (hr : Room k X.A) (ho : PD X o td) (hi : PD X i ty) (hs : NoSl i := by intro _ _; rfl) : PD X (.Subscript o i pos) (dOp getDD td ty) := by
  obtain ⟨t0, p0, l0⟩ := ho
  obtain ⟨t1, p1, l1⟩ := hi
  exact ⟨_, sub_dict hr p0 p1 hs, lk_op lowR_lk l0 l1⟩
/-! ### list(d) -/
def listDD : RCD := fun ds G Q => match ds with
  | [.ref a] => (∃ xs, G a = some (.lst xs) ∧ ∀ p, G p = none → Q (.ref p) (G.upd p (.lst xs))) ∨ (∃ kvs, G a = some (.dic kvs) ∧ tupKeys kvs = true ∧ ∀ p, G p = none → Q (.ref p) (G.upd p (.lst (kvs.map (·.1)))))
  | ds => listD ds G Q
def lowCl (B : Bs) (rd : RCD) : List V → Hp → VK → Prop := fun vs H R => ∃ ds G Q, RpL B.K H ds vs ∧ Wld B G H ∧ rd ds G Q ∧ Kt B G H Q R
theorem lowCl_lk {B : Bs} {rd : RCD} : LkCl B (lowCl B rd) rd := fun ds vs G H Q R r w h k => ⟨ds, G, Q, r, w, h, k⟩
theorem nr_keys {K : PySem.W.Frag} {H : Hp} : ∀ {kvs : List (D × D)} {xs : List (NestedKey × Addr × Value)}, Paired (NRel K H) kvs xs → RpL K H (kvs.map (·.1)) (xs.map fun x => V.ref x.2.1)
  | _, _, .nil => RpL.nil
  | _, _, .cons r t => RpL.cons r.2.2.2.1 (nr_keys t)
theorem vals_at : ∀ {xs : List V} {us : List Value}, xs.length = us.length → (∀ (i : Nat) v, xs[i]? = some v → ∃ u, us[i]? = some u ∧ RelV v u) → Vals xs us
  | [], [], _, _ => .nil
  | x :: xs, u :: us, hl, h => by
    refine .cons ?_ (vals_at (Nat.succ.inj hl) fun i v hi => h (i + 1) v hi)
    obtain ⟨u', e, r⟩ := h 0 x rfl
    have e : u = u' := Option.some.inj e
    rw [e]
    exact r
theorem call_listDD {X : Cx} (hc : X.calm = true) : CallR X (.type "list") (lowCl (bs X) listDD) := by
  intro pins s σ H xs us Q I r h
  obtain ⟨ds, G, Q', rl, w, h, kk⟩ := h
  have old : ∀ ds, RpL X.K H ds xs → listD ds G Q' → wpAny (model X.prog X.w) X.A (call (.type "list") us) (EP X pins σ Q) X.xe s := fun ds rl h =>
    call_list_of pins s σ H xs us Q I r (lk_list (B := bs X) ds xs G H Q' Q rl w h kk)
  match ds, h with
  | [.ref a], h =>
    rcases h with h | ⟨kvs, e, ht, q⟩
    · exact old [.ref a] rl h
    · obtain ⟨v, rfl, rv⟩ := rl.one
      rw [rp_ref.mp rv] at r
      obtain ⟨u, rfl, ru⟩ := vals1 r
      cases (show u = Value.ref a from ru)
      obtain ⟨ys, m, hp, hs, mu, hl⟩ := dn_of I w e ht
      have hxl : ys.length = kvs.length := (Paired.length hp).symm
      obtain ⟨es, ep, raw, hsz, he⟩ := m.raw
      refine PySem.W.kdl_call (KdlSrc.rawDict hs) (I.ok.hd hc) raw (by omega) fun h' tk acc c hkeep hnew hits => ?_
      have hvals : Vals (ys.map fun x => V.ref x.2.1) acc.toList := by
        have el : acc.toList.length = acc.size := by simp
        refine vals_at (by rw [List.length_map, el, hits.1, hsz]) fun i v hi => ?_
        rw [List.getElem?_map] at hi
        cases ey : ys[i]? with
        | none => rw [ey] at hi; cases hi
        | some y =>
          rw [ey] at hi
          cases hi
          have hlt : i < ys.length := (List.getElem?_eq_some_iff.mp ey).1
          have hlt2 : i < acc.size := by rw [hits.1, hsz]; exact hlt
          refine ⟨acc[i], by rw [Array.getElem?_toList, Array.getElem?_eq_getElem hlt2], ?_⟩
          obtain ⟨hi2, ev⟩ := hits.2 i acc[i] (Array.getElem?_eq_getElem hlt2)
          obtain ⟨y', hy', k1, _⟩ := he i hi2
          rw [ey] at hy'
          cases hy'
          rw [ev, k1]
          rfl
      have hpn : H s.heap.objs.size = none := I.hok.fresh (Nat.le_refl _)
      have nr := nr_keys hp
      refine ⟨.ref s.heap.objs.size, L2.upd H s.heap.objs.size (.lst (ys.map fun x => V.ref x.2.1)), I.laid (t' := tk) hkeep (Nat.le_refl _) ⟨by rw [List.length_map]; omega, acc.toList, c, hvals, by rw [Array.toArray_toList]; exact hnew⟩, rfl, ?_⟩
      exact kk _ _ _ _ (rp_ref.mpr rfl) (wld_new (d := .lst (kvs.map (·.1))) w hpn ⟨_, upd_same, nr.mono (kp_new (B := bs X) hpn)⟩) (fm_new hpn) (q _ (w.none hpn))
  | [], h => exact old [] rl h
  | [.non], h => exact old _ rl h
  | [.bl _], h => exact old _ rl h
  | [.int _], h => exact old _ rl h
  | [.str _], h => exact old _ rl h
  | [.tup _], h => exact old _ rl h
  | [.fl _], h => exact old _ rl h
  | [.ty _], h => exact old _ rl h
  | x :: y :: t, h => cases x <;> exact old _ rl h
end FD

/-! FD7: dict comprehensions whose keys are tuples. -/
namespace FD
open PySem PySem.Spec PyProof.Rows L2
/-- a store into the dict at a, which nobody else sees yet -/
def rDs (B : Bs) (a : Addr) (y z : V) (H : Hp) (Q : Hp → Prop) : Prop := ∃ k v kvs, Rp B.K H k y ∧ Rp B.K H v z ∧ OkO B H a (.dic kvs) ∧ (tupKeys kvs = true ∧ okKey k = true ∧ kvs.length < sizeLine) ∧
  ∀ H', OkO B H' a (.dic (dput kvs k v)) → (∀ b, b ≠ a → H' b = H b) → Q H'
theorem ds_run {X : Cx} {pins : List (Addr × Obj)} {σ : L2.St} {H : Hp} {s : Shared} {E : Value → Shared → Prop} {a : Addr} {y z : V} {u r : Value} {n : Nat} {Q : Hp → Prop} {P : Unit → Shared → Prop} (hr : Room n X.A) (I : Inv X pins σ H s) (ry : RelV y u) (rz : RelV z r)
    (h : rDs (bs X) a y z H Q) (fin : ∀ s' H', Inv X pins σ H' s' → Q H' → P () s') : wpAny (model X.prog X.w) X.A (dictSet a u r) P E s := by
  obtain ⟨k, v, kvs, r1, r2, ok, ⟨ht, hk, hz⟩, q⟩ := h
  obtain ⟨hk1, n, en, hd⟩ := okKey_of hk
  obtain ⟨b, rfl⟩ := tup_ref hk1 r1
  cases (show u = Value.ref b from ry)
  have w : Wld (bs X) (fun c => if c = a then some (.dic kvs) else none) H := fun c o e => by
    have e : (if c = a then some (DO.dic kvs) else none) = some o := e
    by_cases hc : c = a
    · subst hc
      rw [if_pos rfl] at e
      cases e
      exact ok
    · rw [if_neg hc] at e
      cases e
  have e : (fun c => if c = a then some (DO.dic kvs) else none) a = some (.dic kvs) := if_pos rfl
  obtain ⟨xs, m, hp, hs, mu, hl⟩ := dn_of I w e ht
  have hxl : xs.length = kvs.length := (Paired.length hp).symm
  refine wpAny_dictSet_heap (hsz := by omega) (room8' hr) (show (nestedKind X.prog X.w).is s.heap n b from ⟨nk_is I k _ _ n en r1 rfl, hd⟩) m fun h' m' sb => ?_
  refine fin _ _ (d_write (t' := s.toks + (nestedKind X.prog X.w).draws n) (ob := .ext (RawD (bs X) a (storedH xs n b r))) I mu sb (let ⟨q, _, _, hq, _⟩ := m'; ⟨q, hq⟩) (raw_new (B := bs X) m')) (q _ ?_ fun c hc => upd_ne hc)
  have w2 := wld_set (o := .ext (RawD (bs X) a (storedH xs n b r))) (d := .dic (dput kvs k v)) w e (.inr ⟨storedH xs n b r, upd_same, hs, by have := dput_len kvs k v; omega, (let ⟨_, _, _, _, _, _, _, _, q⟩ := m'; q), by
    cases k with
    | tup ds => exact nr_mono (kp_set w e) (nr_put en hd rfl r1 rz r2 hp)
    | _ => cases hk1⟩)
  exact w2 a _ gupd_same
section
variable {X : Cx}
/-- {k: v for target in iter if ..} -/
def tDn (B : Bs) (wi : TI) (g : TG) (tt : TT) (tk tv : TE) (vs : List Nat) : TE := fun σ H Q => wi σ H fun J H1 => ∀ a, H1 a = none → ∃ W : Nat → Nat → Hp → Prop, (∃ m, W 0 m (L2.upd H1 a (.dK []))) ∧ ∀ i m H, W i m H →
  (J.stop i H ∧ Q (.ref a) H) ∨ (J.go i H ∧ ∃ Nx : Hp → Prop, (∀ H', Nx H' → ∃ m', m' < m ∧ W (i + 1) m' H') ∧ ∀ x H', J.yld i H x H' → g x (wipe σ vs) H' fun σ2 H2 => wipe σ2 vs = wipe σ vs ∧ tt σ2 H2 fun b H3 =>
    if b = true then tk σ2 H3 fun y H4 => tv σ2 H4 fun z H5 => rDs B a y z H5 Nx else Nx H3)
theorem pe_dn {n : Nat} {kx vx tg iter : Expr} {ifs : List Expr} {scope : Scope} {own : List (Str × Nat)} {pos : Pos} {wi : TI} {g : TG} {tt : TT} {tk tv : TE} (hr : Room n X.A) (hc : X.calm = true) (hN : X.N.Nodup) (hi : PI X tg iter wi) (ok : BlkOk X.N X.env.scope scope own)
    (hg : ∀ (s : Shared) (H : Hp) (C : Addr) (cl : List (Str × Addr)) (fp : List Addr), PG (X.blk s H scope (compEnvC scope cl C X.env) fp) tg g)
    (ht : ∀ (s : Shared) (H : Hp) (C : Addr) (cl : List (Str × Addr)) (fp : List Addr), PTs (X.blk s H scope (compEnvC scope cl C X.env) fp) ifs tt)
    (hk : ∀ (s : Shared) (H : Hp) (C : Addr) (cl : List (Str × Addr)) (fp : List Addr), PE (X.blk s H scope (compEnvC scope cl C X.env) fp) kx tk)
    (he : ∀ (s : Shared) (H : Hp) (C : Addr) (cl : List (Str × Addr)) (fp : List Addr), PE (X.blk s H scope (compEnvC scope cl C X.env) fp) vx tv) (hs : ∀ x, foldedSetIterable iter X.env x = pure x := by intro _; rfl) :
    PE X (.DictComp kx vx [⟨tg, iter, ifs, 0⟩] scope pos) (tDn (bs X) wi g tt tk tv (own.map (·.2))) := by
  refine ⟨fun pins s σ H Q I h => ?_⟩
  rw [arm_eval_DictComp]
  have hfree : ∀ y ∈ scope.names, y.2 = .free → ∃ c, X.env.cells.lookup y.1 = some c := fun y hy e => (ok.free y hy e).elim (fun k => I.ok.has _ (.inl k)) fun k => I.ok.has _ (.inr k)
  refine wpAny_comprehension_free (use := none) rfl hs (closure_ok hfree) ok.kind (fun y hy e => by rw [ok.uniq y hy, e]) (thn (hi.run pins s σ H _ I h) fun xv s1 hx => thn hx fun itv s2 h2 => ?_)
  obtain ⟨it, fp, tn, J, H2, e, I2, T, st2, f2, q⟩ := h2
  subst e
  refine wpAny_newObj_type (newEnv_comp ?_)
  generalize hD : s2.heap.objs.size = a
  have hDn : H2 a = none := I2.hok.fresh (Nat.le_of_eq hD)
  obtain ⟨W, ⟨m0, w0⟩, turn⟩ := q a hDn
  generalize hs3 : ({ s2 with heap := s2.heap.push { cls := .type "dict", data := .dict #[] } } : Shared) = s3
  have I3 : Inv X pins σ (L2.upd H2 a (.dK [])) s3 := by
    rw [← hs3, ← hD]
    exact I2.laid (t' := s2.toks) (fun b o e => Heap.get?_push_of_some _ e) (Nat.le_refl _) (dk_empty s2.heap I2.big)
  have h3 : s3.heap = s2.heap.push { cls := .type "dict", data := .dict #[] } := by rw [← hs3]
  have f3 : ∀ b ∈ fp, FpOk X pins (L2.upd H2 a (.dK [])) b ∧ b < s3.heap.objs.size := fun b hb => by
    obtain ⟨o, e, _⟩ := T.obj _ _ st2 b hb
    have hlt : b < s2.heap.objs.size := Heap.lt_size e
    refine ⟨⟨?_, (f2 b hb).2⟩, by rw [h3, Heap.size_push]; exact Nat.lt_succ_of_lt hlt⟩
    rw [upd_ne (by rw [← hD]; exact Nat.ne_of_lt hlt)]
    exact (f2 b hb).1
  have st3 : tn 0 s3.heap := T.keep _ _ _ st2 fun b _ o e => by rw [h3]; exact Heap.get?_push_of_some _ e
  have I4 := block_start I3 ok hN f3
  generalize hcl : cellsFrom (s3.heap.objs.size + 1) scope.names (cloFrom X.env.cells scope.names []) = cl at I4
  have pg := hg s3 (L2.upd H2 a (.dK [])) s3.heap.objs.size cl fp
  have pt := ht s3 (L2.upd H2 a (.dK [])) s3.heap.objs.size cl fp
  have pk := hk s3 (L2.upd H2 a (.dK [])) s3.heap.objs.size cl fp
  have pe := he s3 (L2.upd H2 a (.dK [])) s3.heap.objs.size cl fp
  have nfp : ∀ b ∈ fp, (L2.upd H2 a (.dK [])) b = none := fun b hb => (f3 b hb).1.1
  show codeAny _ _ (.compStart (.DictComp kx vx [⟨tg, iter, ifs, 0⟩] scope pos) 0 (.ref it) (.ref a) (compEnvC scope cl s3.heap.objs.size X.env)) (compPost (model X.prog X.w) X.A X.xe none (EP X pins σ Q) (.ref a) s3.heap.objs.size) { s3 with heap := pushCells (s3.heap.push { cls := .type "dict", data := .dict #[] }) scope.names }
  generalize hce : compEnvC scope cl s3.heap.objs.size X.env = ce at I4 pg pt pk pe ⊢
  have cL : ce.locals = s3.heap.objs.size := by subst hce; rfl
  generalize hH3 : L2.upd H2 a (.dK []) = H3 at I3 I4 pg pt pk pe w0 nfp f3
  generalize hs4 : ({ s3 with heap := pushCells (s3.heap.push { cls := .type "dict", data := .dict #[] }) scope.names } : Shared) = s4 at I4 ⊢
  have st4 : tn 0 s4.heap := T.keep _ _ _ st3 fun b _ o e => by rw [← hs4]; exact pushCells_keeps _ _ _ _ (Heap.get?_push_of_some _ e)
  have stat : ∀ {σ' : L2.St} {H' : Hp} {s' : Shared}, Inv (X.blk s3 H3 scope ce fp) [] σ' H' s' → (∀ b ∈ fp, H' b = none) → ∀ b ∈ fp, FpOk (X.blk s3 H3 scope ce fp) [] H' b := fun {σ' H' s'} I' hn b hb =>
    ⟨hn b hb, (I'.ok.exf b hb).1, I'.ok.exfs b hb, .inl hb, fun x c e => (I'.ok.exf b hb).2 x c e, fun p hp => absurd (show p ∈ ([] : List (Addr × Obj)) ++ [] from hp) (by simp)⟩
  have loop : codeAny (model X.prog X.w) X.A (.compLoop (.DictComp kx vx [⟨tg, iter, ifs, 0⟩] scope pos) 0 (.ref it) (.ref a) ce) (compPost (model X.prog X.w) X.A X.xe none (EP X pins σ Q) (.ref a) s3.heap.objs.size) s4 := by
    refine compLoop_anyD (fun n s' => ∃ i H', Inv (X.blk s3 H3 scope ce fp) [] (wipe σ (own.map (·.2))) H' s' ∧ tn i s'.heap ∧ (∀ b ∈ fp, H' b = none) ∧ W i n H') ?_ m0 ⟨0, H3, I4, st4, nfp, w0⟩
    rintro n s5 ⟨i, H5, I5, st5, n5, w5⟩
    rcases turn i n H5 w5 with ⟨stop, qq⟩ | ⟨go, Nx, hNx, step⟩
    · refine thnF (T.done (X.blk s3 H3 scope ce fp) rfl rfl rfl hc i [] s5 _ H5 (fun _ _ => False) I5 (stat I5 n5) st5 stop) fun r s6 ⟨hr, I6⟩ => ?_
      subst hr
      have I7 : Inv X pins σ H5 s6 := I3.call' (ch := fp) I6.os I6.base I6.hok I6.bare fun b hb => ⟨(f3 b hb).1.2.2.2.1, (f3 b hb).1.2.1, (f3 b hb).1.2.2.2.2.1, (f3 b hb).1.2.2.2.2.2⟩
      have nC : H5 s3.heap.objs.size = none := by
        have z : H5 ce.locals = none := I6.free
        rw [cL] at z
        exact z
      obtain ⟨m, hn, _⟩ := I6.loc
      have hn : s6.heap.Ns ce.locals m := hn
      rw [cL] at hn
      obtain ⟨g0, g1, g2, g3, g4, g5⟩ := I3.fpOk (Nat.le_refl _) nC
      exact ⟨m, hn, fun h'' sb => ⟨.ref a, H5, I7.turned (t' := s6.toks) (fun b o hb e => (sb.2 b hb).trans e) g0 g1 g3 g4 g5, rfl, qq⟩⟩
    · refine thnF (T.item (X.blk s3 H3 scope ce fp) rfl rfl rfl hc i [] s5 _ H5 (fun _ _ => False) I5 (stat I5 n5) st5 go) fun r s6 ⟨u, hr, h6⟩ => ?_
      subst hr
      refine thnF h6 fun _ s7 ⟨x, H7, I7, r7, y7, st7, n7⟩ => ?_
      have I7' := I7.pinned (stat I7 n7) (T.obj _ _ st7)
      refine thnF (pg.run _ s7 _ H7 x u _ I7' r7 (step x H7 y7)) fun _ s8 ⟨σ8, H8, I8, hw8, q8⟩ => ?_
      refine thnF (pt.run _ s8 σ8 H8 _ I8 q8) fun b s9 ⟨H9, I9, q9⟩ => ?_
      have fin : ∀ {s' : Shared} {H' : Hp}, Inv (X.blk s3 H3 scope ce fp) ([] ++ pinsAt fp s7.heap) σ8 H' s' → Nx H' → ∃ m, m < n ∧ ∃ i H', Inv (X.blk s3 H3 scope ce fp) [] (wipe σ (own.map (·.2))) H' s' ∧ tn i s'.heap ∧ (∀ b ∈ fp, H' b = none) ∧ W i m H' := fun {s' H'} I' nx => by
        obtain ⟨m', hm, w'⟩ := hNx H' nx
        have pin' : ∀ b ∈ fp, ∀ o, s7.heap.get? b = some o → s'.heap.get? b = some o ∧ H' b = none := fun b hb o e =>
          let z := I'.pin (b, o) (List.mem_append_right _ (List.mem_append_right _ (mem_pinsAt hb e)))
          ⟨z.1, z.2.1⟩
        have hl : (wipe σ (own.map (·.2))).length = σ8.length := by rw [← hw8, wipe_length]
        refine ⟨m', hm, i + 1, H', (I'.unpinned (pins := [])).weak hl (fun j v e => ?_), T.keep _ _ _ st7 fun b hb o e => (pin' b hb o e).1, fun b hb => ?_, w'⟩
        · rw [← hw8] at e
          exact (wipe_some e).1
        · obtain ⟨o, e, _⟩ := T.obj _ _ st7 b hb
          exact (pin' b hb o e).2
      cases b with
      | false =>
        simp only [Bool.false_eq_true, if_false] at q9 ⊢
        exact fin I9 q9
      | true =>
        simp only [if_true] at q9 ⊢
        refine thnF (pk.run _ s9 σ8 H9 _ I9 q9) fun z s10 ⟨yk, H10, I10, r10, q10⟩ => ?_
        refine thnF (pe.run _ s10 σ8 H10 _ I10 q10) fun z2 s11 ⟨yv, H11, I11, r11, q11⟩ => ?_
        exact ds_run (X := X.blk s3 H3 scope ce fp) hr I11 r10 r11 q11 fun s12 H12 I12 nx => fin I12 nx
  exact codeAny_compStart_dict loop (T.self X.A 0 _ _ _ st4 loop)
end
/-! ### the reading -/
def dcGo (chk : DG → Prop) (g : DGt) (tt : DT) (tk tv : DE) (ρ : DSt) (fin : List (D × D) → DG → Prop) : List D → List (D × D) → DG → Prop
  | [], kvs, G => chk G ∧ fin kvs G
  | d :: ds, kvs, G => chk G ∧ g d ρ G fun ρ2 G2 => tt ρ2 G2 fun b G3 => if b = true then tk ρ2 G3 fun k G4 => tv ρ2 G4 fun v G5 => (tupKeys kvs = true ∧ okKey k = true ∧ kvs.length < sizeLine) ∧ dcGo chk g tt tk tv ρ fin ds (dput kvs k v) G5 else dcGo chk g tt tk tv ρ fin ds kvs G3
def dDn (di : DI) (g : DGt) (tt : DT) (tk tv : DE) (vs : List Nat) : DE := fun ρ G Q => di ρ G fun it G1 => dcGo it.chk g tt tk tv (wipeD ρ vs) (fun kvs G' => ∀ p, G' p = none → Q (.ref p) (G'.upd p (.dic kvs))) it.items [] G1
theorem lk_dn {B : Bs} {wi : TI} {di : DI} {g : TG} {dg : DGt} {tt : TT} {dt : DT} {tk tv : TE} {dk dv : DE} {vs : List Nat} (hi : LkI B wi di) (hg : LkC B vs g dg) (ht : LkT B tt dt) (hk : LkE B tk dk) (he : LkE B tv dv) : LkE B (tDn B wi g tt tk tv vs) (dDn di dg dt dk dv vs) := fun ρ σ G H Q R s w h k => by
  refine hi ρ σ G H _ _ s w h fun it J G1 H1 w1 f1 ok q1 => fun Dl hD => ?_
  have kp1 := f1.kp w
  have s1 := (s.mono kp1).wipe vs
  have hG1 : G1 Dl = none := w1.none hD
  refine ⟨fun i m H' => ∃ kvs G', m = it.items.length - i ∧ i ≤ it.items.length ∧ OkO B H' Dl (.dic kvs) ∧ G' Dl = none ∧ Wld B G' H' ∧ Fm G1 H1 G' H' ∧ dcGo it.chk dg dt dk dv (wipeD ρ vs) (fun kvs G' => ∀ p, G' p = none → Q (.ref p) (G'.upd p (.dic kvs))) (it.items.drop i) kvs G',
    ⟨_, [], G1, rfl, Nat.zero_le _, .inl ⟨[], upd_same, .nil⟩, hG1, wld_hid w1 hD, fm_hid hD, q1⟩, ?_⟩
  rintro i m H' ⟨kvs, G', rfl, hi, ox, hn, w', f', q⟩
  have kp' : Kp B.K H1 H' := f'.kp w1
  obtain ⟨u0, hx, nt, nf⟩ := OkO.live ox
  cases e : it.items.drop i with
  | nil =>
    rw [e] at q
    obtain ⟨c, q⟩ := q
    refine .inl ⟨(ok i G' H' w' kp' c).2 (drop_nil e hi), ?_⟩
    refine k _ _ (G'.upd Dl (.dic kvs)) H' (rp_ref.mpr rfl) (fun a o ha => ?_) (f1.trans fun a o ha na => ?_) (q Dl hn)
    · by_cases hd : a = Dl
      · subst hd
        rw [gupd_same] at ha; cases ha
        exact ox
      · rw [gupd_ne hd] at ha
        exact w' a o ha
    · have hd := ne_of_none ha hD
      rw [gupd_ne hd]
      exact f' a o ha na
  | cons d ds =>
    rw [e] at q
    obtain ⟨c, q⟩ := q
    obtain ⟨e1, e2⟩ := drop_get e
    obtain ⟨go, yl⟩ := (ok i G' H' w' kp' c).1 d e1
    have hlt : i < it.items.length := (List.getElem?_eq_some_iff.mp e1).1
    refine .inr ⟨go, fun H2 => ∃ kvs G2, OkO B H2 Dl (.dic kvs) ∧ G2 Dl = none ∧ Wld B G2 H2 ∧ Fm G1 H1 G2 H2 ∧ dcGo it.chk dg dt dk dv (wipeD ρ vs) (fun kvs G' => ∀ p, G' p = none → Q (.ref p) (G'.upd p (.dic kvs))) ds kvs G2, fun H2 q2 => ?_, fun x H2 hy => ?_⟩
    · obtain ⟨kvs2, G2, a1, a3, a4, a5, a6⟩ := q2
      exact ⟨it.items.length - (i + 1), by omega, kvs2, G2, rfl, hlt, a1, a3, a4, a5, by rw [e2]; exact a6⟩
    · obtain ⟨w2, f2, r2⟩ := yl x H2 hy
      have kp2 : Kp B.K H1 H2 := kp'.trans (f2.kp w')
      refine hg d x (wipeD ρ vs) (L2.wipe σ vs) G' H2 _ _ r2 (s1.mono kp2) w2 q fun ρ3 σ3 G3 H3 e3 s3 w3 f3 q3 => ⟨e3.trans (wipe_wipe σ vs), ?_⟩
      refine ht ρ3 σ3 G3 H3 _ _ s3 w3 q3 fun b G4 H4 w4 f4 q4 => ?_
      have f04 : Fm G' H' G4 H4 := f2.trans (f3.trans f4)
      cases b with
      | false =>
        obtain ⟨hx4, hn4⟩ := f04 Dl _ hx hn
        exact ⟨kvs, G4, ox.mono (f04.kp w') (fun u z => by rw [hx] at z; cases z; exact hx4), hn4, w4, f'.trans f04, q4⟩
      | true =>
        refine hk ρ3 σ3 G4 H4 _ _ (s3.mono (f4.kp w3)) w4 q4 fun y v G5 H5 r5 w5 f5 q5 => ?_
        refine he ρ3 σ3 G5 H5 _ _ (s3.mono ((f4.trans f5).kp w3)) w5 q5 fun z u G6 H6 r6 w6 f6 q6 => ?_
        have f06 : Fm G' H' G6 H6 := f04.trans (f5.trans f6)
        obtain ⟨hx6, hn6⟩ := f06 Dl _ hx hn
        have ox6 : OkO B H6 Dl (.dic kvs) := ox.mono (f06.kp w') (fun u z => by rw [hx] at z; cases z; exact hx6)
        refine ⟨y, z, kvs, r5.mono (f6.kp w5), r6, ox6, q6.1, fun H7 ok7 same => ?_⟩
        have kpn : Kp B.K H6 H7 := by
          refine ⟨fun a ys z => ?_, fun a ys z => ?_⟩
          · rcases z with (z | ⟨ob, z⟩) | z
            · exact .inl (.inl (by rw [same a (ne_of z hx6 (nt _).symm)]; exact z))
            · exact .inl (.inr ⟨ob, by rw [same a (ne_of z hx6 (nf _ _).symm)]; exact z⟩)
            · exact .inr z
          · rcases z with ⟨ob, z⟩ | z
            · exact .inl ⟨ob, by rw [same a (ne_of z hx6 (nf _ _).symm)]; exact z⟩
            · exact .inr z
        refine ⟨dput kvs y z, G6, ok7, hn6, fun a o ha => ?_, fun a o ha na => ?_, q6.2⟩
        · have hd : a ≠ Dl := fun z => by rw [z, hn6] at ha; cases ha
          exact (w6 a o ha).mono kpn fun u z => by rw [same a hd]; exact z
        · have hd := ne_of_none ha hD
          rw [same a hd]
          exact (f'.trans f06) a o ha na
theorem pd_dn {X : Cx} {n : Nat} {kx vx tg iter : Expr} {ifs : List Expr} {scope : Scope} {own : List (Str × Nat)} {pos : Pos} {di : DI} {g : DGt} {tt : DT} {tk tv : DE} (hr : Room n X.A) (hc : X.calm = true) (hN : X.N.Nodup) (hi : PDI X tg iter di) (ok : BlkOk X.N X.env.scope scope own)
    (hg : ∀ (s : Shared) (H : Hp) (C : Addr) (cl : List (Str × Addr)) (fp : List Addr), PDC (X.blk s H scope (compEnvC scope cl C X.env) fp) (own.map (·.2)) tg g)
    (ht : ∀ (s : Shared) (H : Hp) (C : Addr) (cl : List (Str × Addr)) (fp : List Addr), PDTs (X.blk s H scope (compEnvC scope cl C X.env) fp) ifs tt)
    (hk : ∀ (s : Shared) (H : Hp) (C : Addr) (cl : List (Str × Addr)) (fp : List Addr), PD (X.blk s H scope (compEnvC scope cl C X.env) fp) kx tk)
    (he : ∀ (s : Shared) (H : Hp) (C : Addr) (cl : List (Str × Addr)) (fp : List Addr), PD (X.blk s H scope (compEnvC scope cl C X.env) fp) vx tv)
    (hs : ∀ x, foldedSetIterable iter X.env x = pure x := by intro _; rfl) :
    PD X (.DictComp kx vx [⟨tg, iter, ifs, 0⟩] scope pos) (dDn di g tt tk tv (own.map (·.2))) := by
  obtain ⟨wi, pi, li⟩ := hi
  exact ⟨_, pe_dn (g := lowC (bs X) (own.map fun (p : Str × Nat) => p.2) g) (tt := lowT (bs X) tt) (tk := lowE (bs X) tk) (tv := lowE (bs X) tv) hr hc hN pi ok (fun s H C cl fp => (hg s H C cl fp).low) (fun s H C cl fp => (ht s H C cl fp).low) (fun s H C cl fp => (hk s H C cl fp).low) (fun s H C cl fp => (he s H C cl fp).low) hs, lk_dn li lowC_lk lowT_lk lowE_lk lowE_lk⟩
end FD

/-! FD8: sorted(xs), sorted(xs, key=f) of data, f a def of the text. -/
namespace FD
open PySem PySem.Spec PyProof.Rows L2
mutual
def toPy : D → PyData
  | .non => .none
  | .bl b => .bool b
  | .int i => .int i
  | .str x => .str x
  | .tup ds => .tuple (toPys ds)
  | .fl ds => .list (toPys ds)
  | .ref _ => .none
  | .ty _ => .none
def toPys : List D → List PyData
  | [] => []
  | d :: ds => toPy d :: toPys ds
end
mutual
/-- data that nobody changes -/
def imm : D → Bool
  | .tup ds => imms ds
  | .fl ds => imms ds
  | .ref _ => false
  | .ty _ => false
  | _ => true
def imms : List D → Bool
  | [] => true
  | d :: ds => imm d && imms ds
end
theorem toPys_map : ∀ ds : List D, toPys ds = ds.map toPy
  | [] => by rw [toPys]; rfl
  | d :: ds => by rw [toPys, toPys_map ds]; rfl
mutual
theorem imm_py (G : DG) : ∀ {d : D}, imm d = true → Py G d (toPy d)
  | .non, _ => by rw [toPy]; exact .non
  | .bl b, _ => by rw [toPy]; exact .bl b
  | .int i, _ => by rw [toPy]; exact .int i
  | .str x, _ => by rw [toPy]; exact .str x
  | .tup ds, h => by rw [toPy]; rw [imm] at h; exact .tup (imms_py G h)
  | .fl ds, h => by rw [toPy]; rw [imm] at h; exact .fl (imms_py G h)
  | .ref _, h => by rw [imm] at h; cases h
  | .ty _, h => by rw [imm] at h; cases h
theorem imms_py (G : DG) : ∀ {ds : List D}, imms ds = true → PyA G ds (toPys ds)
  | [], _ => by rw [toPys]; exact .nil
  | d :: ds, h => by
    rw [toPys]
    rw [imms, Bool.and_eq_true] at h
    exact .cons (imm_py G h.1) (imms_py G h.2)
end
theorem imms_mem : ∀ {ds : List D}, imms ds = true → ∀ d ∈ ds, imm d = true
  | d :: ds, h, x, hx => by
    rw [imms, Bool.and_eq_true] at h
    rcases List.mem_cons.mp hx with rfl | hx
    · exact h.1
    · exact imms_mem h.2 x hx
/-- what sorting asks of the keys -/
structure SortOk (ks : List D) : Prop where
  im : imms ks = true
  al : PySem.W.AllAlike (ks.map toPy)
  so : PySem.W.Sortable (ks.map toPy)
  dp : ∀ k ∈ ks, (toPy k).depth ≤ 60
def srt (ks : List D) : List D := ks.mergeSort (PySem.W.dataLe false toPy)
/-- xs in the order of the keys ks -/
def srtBy (xs ks : List D) : List D := ((xs.zip ks).mergeSort (PySem.W.dataLe false fun p => toPy p.2)).map (·.1)
theorem each_rel {K : PySem.W.Frag} {H : Hp} : ∀ {ds : List D} {xs : List V} {us : List Value}, RpL K H ds xs → Vals xs us → PySem.W.EachIs (fun u (p : D × V) => RelV p.2 u ∧ Rp K H p.1 p.2) us (ds.zip xs)
  | [], _, _, r, v => by rw [rpl_nil.mp r] at v; cases v; exact .nil
  | d :: ds, _, _, r, v => by
    obtain ⟨y, ys, rfl, r1, r2⟩ := rpl_cons.mp r
    cases v with
    | cons v1 v2 => exact .cons ⟨v1, r1⟩ (each_rel r2 v2)
theorem each_imm {K : PySem.W.Frag} {H : Hp} : ∀ {us : List Value} {ds : List D} {xs : List V}, imms ds = true → PySem.W.EachIs (fun u (p : D × V) => RelV p.2 u ∧ Rp K H p.1 p.2) us (ds.zip xs) → PySem.W.EachIs (fun u (p : D × V) => imm p.1 = true ∧ RelV p.2 u ∧ Rp K H p.1 p.2) us (ds.zip xs)
  | us, [], _, _, h => by cases h; exact .nil
  | us, _ :: _, [], _, h => by cases h; exact .nil
  | us, d :: ds, x :: xs, i, h => by
    rw [imms, Bool.and_eq_true] at i
    cases h with
    | cons h t => exact .cons ⟨i.1, h⟩ (each_imm i.2 t)
theorem each_back {K : PySem.W.Frag} {H : Hp} : ∀ {us : List Value} {ps : List (D × V)}, PySem.W.EachIs (fun u (p : D × V) => RelV p.2 u ∧ Rp K H p.1 p.2) us ps → RpL K H (ps.map (·.1)) (ps.map (·.2)) ∧ Vals (ps.map (·.2)) us
  | _, _, .nil => ⟨RpL.nil, .nil⟩
  | _, _, .cons h t => by
    obtain ⟨r, v⟩ := each_back t
    exact ⟨RpL.cons h.2 r, .cons h.1 v⟩
theorem zip_fst {α β : Type} : ∀ {l : List α} {m : List β}, l.length = m.length → (l.zip m).map (·.1) = l
  | [], [], _ => rfl
  | a :: l, b :: m, h => by
    show a :: (l.zip m).map (·.1) = a :: l
    rw [zip_fst (Nat.succ.inj h)]
section
variable {X : Cx} {pins : List (Addr × Obj)} {σ : L2.St} {H : Hp} {s : Shared} {G : DG}
theorem reads_of (I : Inv X pins σ H s) (w : Wld (bs X) G H) {d : D} {v : V} {u : Value} (h : imm d = true) (r : Rp X.K H d v) (q : RelV v u) : ∃ as, Reads s.heap u (toPy d) as := Dp.reads I _ v u (py_dp w (imm_py G h) r) q
/-! ### sorted(xs) -/
def sortedD : RCD := fun ds G Q => match ds with
  | [.ref a] => ∃ xs, G a = some (.lst xs) ∧ SortOk xs ∧ ∀ p, G p = none → Q (.ref p) (G.upd p (.lst (srt xs)))
  | _ => False
theorem srt_zip {xs : List D} {vs : List V} (h : xs.length = vs.length) : ((xs.zip vs).mergeSort (PySem.W.dataLe false fun p => toPy p.1)).map (·.1) = srt xs := by
  have e := PySem.W.sort_maps (r := PySem.W.dataLe false fun p : D × V => toPy p.1) (s := PySem.W.dataLe false toPy) (fun p : D × V => p.1) (l := xs.zip vs) (fun a _ b _ => rfl)
  rw [e, zip_fst h]
  rfl
end
theorem call_sortedD {X : Cx} {n : Nat} (hr : Room n X.A) : CallR X (.builtin "sorted") (lowCl (bs X) sortedD) := by
  intro pins s σ H xs us Q I r h
  obtain ⟨ds, G, Q', rl, w, h, kk⟩ := h
  match ds, h with
  | [.ref a], h =>
    obtain ⟨ys, e, so, q⟩ := h
    obtain ⟨v, rfl, rv⟩ := rl.one
    rw [rp_ref.mp rv] at r
    obtain ⟨u, rfl, ru⟩ := vals1 r
    cases (show u = Value.ref a from ru)
    obtain ⟨vs, e2, ry⟩ := w a _ e
    obtain ⟨its, rvs, pl, hz⟩ := I.list (SqL.of e2)
    have hlen : ys.length = vs.length := ry.length
    have ei := each_rel ry rvs
    have hmem : ∀ p ∈ ys.zip vs, p.1 ∈ ys := fun p hp => (List.of_mem_zip hp).1
    have em : (ys.zip vs).map (fun p => toPy p.1) = ys.map toPy := by
      have e := congrArg (List.map toPy) (zip_fst hlen)
      rw [List.map_map] at e
      exact e
    have hz2 : (ys.zip vs).length = ys.length := by rw [List.length_zip, hlen, Nat.min_self]
    refine PySem.W.sorted_data (enc := fun p : D × V => toPy p.1) (bs := ys.zip vs) pl.isList ei ((each_imm so.im ei).mono fun u p hp => ?_) (by rw [em]; exact so.al) (by rw [em]; exact so.so) (by rw [hz2, hlen]; exact hz) (fun p hp => ?_) fun out ho eo => ?_
    · exact reads_of I w hp.1 hp.2.2 hp.2.1
    · have h1 := so.dp p.1 (hmem p hp)
      have h2 := hr.units
      show X.A.units + 2 + (toPy p.1).depth < cLine
      omega
    · obtain ⟨ep, he'⟩ := PyProof.Rows.sortedAll_at s.heap its out.toArray
      obtain ⟨r2, v2⟩ := each_back eo
      rw [srt_zip hlen] at r2
      have hpn : H (s.heap.objs.size + 1) = none := I.hok.fresh (Nat.le_succ _)
      refine ⟨.ref _, L2.upd H (s.heap.objs.size + 1) (.lst (((ys.zip vs).mergeSort (PySem.W.dataLe false fun p => toPy p.1)).map (·.2))), I.laid (t' := s.toks) (fun _ _ => PyProof.Rows.sortedAll_old) (Nat.le_succ _) ⟨?_, out, ep, v2, he'⟩, rfl, ?_⟩
      · rw [← r2.length]
        unfold srt
        rw [(List.mergeSort_perm _ _).length_eq, hlen]
        exact hz
      · exact kk _ _ _ _ (rp_ref.mpr rfl) (wld_new (d := .lst (srt ys)) w hpn ⟨_, upd_same, r2.mono (kp_new (B := bs X) hpn)⟩) (fm_new hpn) (q _ (w.none hpn))
end FD

/-! FD9: sorted(xs, key=f), f a def of the text. -/
namespace FD
open PySem PySem.Spec PyProof.Rows L2
def skGo (dsp : DSp) : List D → List D → DG → (List D → DG → Prop) → Prop
  | [], ks, G, Q => Q ks G
  | x :: xs, ks, G, Q => dsp [x] G fun k G' => skGo dsp xs (ks ++ [k]) G' Q
def sortedKD (dsp : DSp) : RCD := fun ds G Q => match ds with
  | [.ref a] => ∃ xs, G a = some (.lst xs) ∧ skGo dsp xs [] G fun ks G' => SortOk ks ∧ ∀ p, G' p = none → Q (.ref p) (G'.upd p (.lst (srtBy xs ks)))
  | _ => False
section
variable {X : Cx} {pins : List (Addr × Obj)} {σ : L2.St} {H : Hp} {s : Shared} {G : DG}
/-- a def called where one stands deeper -/
theorem run_at {A : Around} {k : Nat} {f : Addr} {fd : FuncData} {ps : List Str} {sp : Sp} {E : XK} {us : List Value} {vs : List V} {Q : VK} (F : FnOk X.prog X.w X.K X.mg X.base CX0 k f fd ps sp) (hr : Room k A) (hb : Binds X.K fd ps []) (I : Inv X pins σ H s)
    (en : Env0 X.prog X.w X.K X.mg X.base A X.stack s H) (r : Vals vs us) (h : sp vs H Q E) : wpAny (model X.prog X.w) A (call (.ref f) us) (EP X pins σ Q) (fun _ _ => False) s := by
  have hl : (us ++ ([] : List Value)).length = ps.length := by rw [List.append_nil, ← r.length]; exact F.len _ _ _ _ h
  have hb2 := hb s us I.kIn hl
  rw [List.append_nil] at hb2
  refine wpAny_call (codeAny_mono (F.run A X.stack s H ⟨us, []⟩ us vs Q E hr en hb2 r h) fun r s' hq => ?_)
  cases r with
  | error e => exact hq
  | ok fl =>
    cases fl with
    | ret u => exact I.after hq
    | next => exact False.elim hq
    | brk => exact False.elim hq
    | cont => exact False.elim hq
/-- a young thing that nobody told of is told from now on -/
theorem Inv_track {h' : Heap} {t' : Nat} {ch : List Addr} {T : Addr} {ob : HO} (I : Inv X pins σ H s) (k : ∀ b o, b ∉ ch → s.heap.get? b = some o → h'.get? b = some o) (hf : ∀ b ∈ ch, FpOk X pins H b) (hT : T ∈ ch)
    (new : ObjOk X.prog X.w (L2.upd H T ob) h' T ob) : Inv X pins σ (L2.upd H T ob) { s with heap := h', toks := t' } := by
  have hn : H T = none := (hf T hT).1
  have nit : ∀ b u, H b = some u → b ∉ ch := fun b u e z => by
    rw [(hf b z).1] at e
    cases e
  refine I.step (g' := s.gens) (d' := s.drawn) (ch := ch) (fun b hb => ⟨(hf b hb).2.2.2.1, (hf b hb).2.1, (hf b hb).2.2.2.2.1, (hf b hb).2.2.2.2.2⟩) (fun b o _ _ hc e _ => k b o hc e) (fun b o _ _ hc e _ => ⟨o.slots, k b o hc e⟩)
    (fun b o hc e n => ?_) (fun b o hc e => ⟨o, k b o hc e⟩) (fun b xs e => ?_) (fun b o u e => ?_) (fun b ps e => ⟨#[], ?_⟩) (fun m hm => ?_) (fun b u e => ?_) I.bare
  · rw [upd_ne (fun z => hc (by rw [z]; exact hT))]
    exact n
  · rw [upd_ne (ne_of_none e hn)]
    exact e
  · rw [upd_ne (ne_of_none e hn)]
    exact e
  · rw [upd_ne (ne_of_none e hn), e]
    simp
  · obtain ⟨o, es, ep, ho, r⟩ := hm
    exact ⟨o, es, ep, k _ o (fun z => (hf _ z).2.1 rfl) ho, r⟩
  · by_cases hb : b = T
    · subst hb
      rw [upd_same] at e
      cases e
      exact new
    · rw [upd_ne hb] at e
      refine (I.hok b u e).stay (fun c v hc q => k c v ?_ q) (fun c q => by rw [upd_ne (ne_of_none q hn)]; exact q) fun c xs q => by rw [upd_ne (ne_of_none q hn)]; exact q
      rcases hc with z | z
      · rw [z]
        exact nit b u e
      · exact nit c _ z
theorem zip3 : ∀ {xs : List D} {vs : List V} {ks : List D}, xs.length = vs.length → ks.length = xs.length → ((xs.zip vs).zip ks).map (fun b => (b.1.1, b.2)) = xs.zip ks ∧ ((xs.zip vs).zip ks).map (fun b => toPy b.2) = ks.map toPy
  | [], [], [], _, _ => ⟨rfl, rfl⟩
  | x :: xs, v :: vs, k :: ks, h1, h2 => by
    obtain ⟨e1, e2⟩ := zip3 (xs := xs) (vs := vs) (ks := ks) (Nat.succ.inj h1) (Nat.succ.inj h2)
    exact ⟨congrArg (List.cons (x, k)) e1, congrArg (List.cons (toPy k)) e2⟩
theorem each3 {K : PySem.W.Frag} {H : Hp} : ∀ {xs : List D} {vs : List V} {us : List Value} {ks : List D}, RpL K H xs vs → Vals vs us → ks.length = xs.length → PySem.W.EachIs (fun u (b : (D × V) × D) => RelV b.1.2 u ∧ Rp K H b.1.1 b.1.2) us ((xs.zip vs).zip ks)
  | [], _, _, [], r, v, _ => by rw [rpl_nil.mp r] at v; cases v; exact .nil
  | d :: ds, _, _, k :: ks, r, v, h => by
    obtain ⟨y, ys, rfl, r1, r2⟩ := rpl_cons.mp r
    cases v with
    | cons v1 v2 => exact .cons ⟨v1, r1⟩ (each3 r2 v2 (Nat.succ.inj h))
theorem back3 {K : PySem.W.Frag} {H : Hp} : ∀ {us : List Value} {ps : List ((D × V) × D)}, PySem.W.EachIs (fun u (b : (D × V) × D) => RelV b.1.2 u ∧ Rp K H b.1.1 b.1.2) us ps → RpL K H (ps.map (·.1.1)) (ps.map (·.1.2)) ∧ Vals (ps.map (·.1.2)) us
  | _, _, .nil => ⟨RpL.nil, .nil⟩
  | _, _, .cons h t => by
    obtain ⟨r, v⟩ := back3 t
    exact ⟨RpL.cons h.2 r, .cons h.1 v⟩
theorem each_keys {G : DG} (I : Inv X pins σ H s) (w : Wld (bs X) G H) : ∀ {ks : List D} {kv : List V} {us : List Value}, imms ks = true → RpL X.K H ks kv → Vals kv us → PySem.W.EachIs (fun v d => ∃ as, Reads s.heap v d as) us (ks.map toPy)
  | [], _, _, _, r, v => by rw [rpl_nil.mp r] at v; cases v; exact .nil
  | d :: ds, _, _, i, r, v => by
    obtain ⟨y, ys, rfl, r1, r2⟩ := rpl_cons.mp r
    rw [imms, Bool.and_eq_true] at i
    cases v with
    | cons v1 v2 => exact .cons (reads_of I w i.1 r1 v1) (each_keys I w i.2 r2 v2)
/-- the keys are made, the list is sorted -/
theorem sk_rest {k : Nat} {f a kS : Addr} {fd : FuncData} {ps : List Str} {dsp : DSp} {xs : List D} {vs : List V} {its : List Value} {e1 : Nat} {Qk : List D → DG → Prop} {P : PySem.Fin → Shared → Prop} {E : Value → Shared → Prop}
    (F : FnOk X.prog X.w X.K X.mg X.base CX0 k f fd ps (lift (bs X) dsp)) (hr : Room (k + 2) X.A) (hb : Binds X.K fd ps []) (I : Inv X pins σ H s) (w : Wld (bs X) G H)
    (fa : FpOk X pins H a) (fk : FpOk X pins H kS) (nk : s.heap.get? kS = some (PyProof.Rows.seqObj "list" #[] 0)) (na : s.heap.get? a = some (PyProof.Rows.seqObj "list" #[] e1)) (hka : kS ≠ a)
    (rx : RpL X.K H xs vs) (rv : Vals vs its) (hz : vs.length ≤ sizeLine) (q : skGo dsp xs [] G Qk) (so : ∀ ks G', Qk ks G' → SortOk ks)
    (fin : ∀ s' H' G' ks zs, Inv X pins σ (L2.upd H' a (.lst zs)) s' → Wld (bs X) G' H' → Fm G H G' H' → H' a = none → RpL X.K H' (srtBy xs ks) zs → Qk ks G' → P (.done (.ret .none)) s') :
    wpAny (model X.prog X.w) X.A.in1.in1 (PyProof.Rows.ksk_rest a (.ref f) false its.toArray e1 (.ref kS)) P E s := by
  have hlen : xs.length = vs.length := rx.length
  have hlen2 : vs.length = its.length := rv.length
  have hrA : Room k X.A.in1.in1 := Room.in1 (Room.in1 hr)
  unfold PyProof.Rows.ksk_rest
  refine wpAny_bind (wpAny_rule ?_)
  rw [List.forIn_toArray]
  refine wpAny_bind (PyProof.Rows.ksk_fold (fun j s' => ∃ H' G' ks kv kA e, Inv X pins σ H' s' ∧ Wld (bs X) G' H' ∧ Fm G H G' H' ∧ H' a = none ∧ H' kS = none ∧ s'.heap.get? kS = some (PyProof.Rows.seqObj "list" kA e) ∧ s'.heap.get? a = some (PyProof.Rows.seqObj "list" #[] e1) ∧
      RpL X.K H' ks kv ∧ Vals kv kA.toList ∧ ks.length = j ∧ skGo dsp (xs.drop j) ks G' Qk) its 0 s
    ⟨H, G, [], [], #[], 0, I, w, Fm.refl, fa.1, fk.1, nk, na, RpL.nil, .nil, rfl, q⟩ ?step ?done)
  case step =>
    rintro j x s' hx ⟨H', G', ks, kv, kA, e, I', w', f', ha', hk', nk', na', rk, vk, hl, q'⟩
    simp only [Nat.zero_add] at hl q' ⊢
    have hj : j < its.length := (List.getElem?_eq_some_iff.mp hx).1
    obtain ⟨d, hd⟩ : ∃ d, xs[j]? = some d := ⟨_, List.getElem?_eq_getElem (by omega)⟩
    obtain ⟨v, hv, rd⟩ := (rx.mono (f'.kp w)).get hd
    obtain ⟨u, hu, ru⟩ := rv.get hv
    have eu : u = x := Option.some.inj (hu.symm.trans hx)
    subst eu
    have ed : xs.drop j = d :: xs.drop (j + 1) := by
      rw [← List.getElem_cons_drop (by omega : j < xs.length)]
      congr 1
      exact Option.some.inj ((List.getElem?_eq_getElem (by omega)).symm.trans hd)
    rw [ed] at q'
    have fp : ∀ b ∈ [a, kS], FpOk X pins H' b := fun b hb => by
      rcases List.mem_cons.mp hb with rfl | hb
      · exact ⟨ha', fa.2⟩
      · rw [List.mem_singleton.mp hb]
        exact ⟨hk', fk.2⟩
    have Ip := I'.pinned (fp := [a, kS]) fp fun b hb => by
      rcases List.mem_cons.mp hb with rfl | hb
      · exact ⟨_, na', fun _ z => nomatch z⟩
      · rw [List.mem_singleton.mp hb]
        exact ⟨_, nk', fun _ z => nomatch z⟩
    refine wpAny_bind (wpAny_attempt (wpAny_mono (run_at (E := E0) (Q := fun v2 H2 => ∃ k2 G2, Rp X.K H2 k2 v2 ∧ Wld (bs X) G2 H2 ∧ Fm G' H' G2 H2 ∧ skGo dsp (xs.drop (j + 1)) (ks ++ [k2]) G2 Qk) F hrA hb Ip Ip.env0.in1.in1 (.cons ru .nil) ?_) (fun y s'' he => ?_) fun _ _ hF => hF.elim))
    · exact ⟨[d], G', _, RpL.cons rd RpL.nil, w', q', fun k2 v2 G2 H2 r2 w2 f2 z2 => ⟨k2, G2, r2, w2, f2, z2⟩⟩
    · obtain ⟨v2, H2, I2, r2, k2, G2, rp2, w2, f2, q2⟩ := he
      have pa := I2.pin (a, _) (List.mem_append_right _ (List.mem_append_right _ (mem_pinsAt (fp := [a, kS]) List.mem_cons_self na')))
      have pk := I2.pin (kS, _) (List.mem_append_right _ (List.mem_append_right _ (mem_pinsAt (fp := [a, kS]) (List.mem_cons_of_mem _ List.mem_cons_self) nk')))
      have I3 := I2.unpinned
      have s1 := Heap.SameBut.update s''.heap kS (Obj.mapSeq (·.push y))
      obtain ⟨c2, hc2⟩ : ∃ c2, (s''.heap.update kS (Obj.mapSeq (·.push y))).get? kS = some (PyProof.Rows.seqObj "list" (kA.push y) c2) := ⟨_, PyProof.Rows.get?_update_seq pk.1 (·.push y)⟩
      have hkz : kA.size ≤ sizeLine := by
        have z1 := vk.length
        have z2 := rk.length
        have z3 : kA.toList.length = kA.size := by simp
        omega
      try dsimp only
      refine wpAny_bind (PyProof.Rows.listUpdate_at pk.1 rfl ?_ hkz (Nat.le_trans (Nat.le_of_eq (Array.size_push ..)) (Nat.succ_le_succ hkz)))
      have I4 : Inv X pins σ H2 { s'' with heap := s''.heap.update kS (Obj.mapSeq (·.push y)) } := I3.turned (t' := s''.toks) (it := kS) (fun b o hb z => (s1.2 b hb).trans z) pk.2.1 fk.2.1 fk.2.2.2.1 fk.2.2.2.2.1 fk.2.2.2.2.2
      refine wpAny_pure ⟨rfl, H2, G2, ks ++ [k2], kv ++ [v2], kA.push y, c2, I4, w2, f'.trans f2, pa.2.1, pk.2.1, hc2, (s1.2 a hka.symm).trans pa.1, RpL.snoc (rk.mono (f2.kp w')) rp2, ?_, by rw [List.length_append, hl]; rfl, q2⟩
      rw [Array.toList_push]
      exact vk.append (.cons r2 .nil)
  case done =>
    rintro s' ⟨H', G', ks, kv, kA, e, I', w', f', ha', hk', nk', na', rk, vk, hl, q'⟩
    rw [Nat.zero_add] at hl q'
    rw [List.drop_of_length_le (by omega)] at q'
    have q' : Qk ks G' := q'
    have sk := so ks G' q'
    have hks : ks.length = xs.length := by omega
    have hsz : kA.size = its.length := by
      have z1 := vk.length
      have z2 := rk.length
      have z3 : kA.toList.length = kA.size := by simp
      omega
    have ek := each_keys I' w' sk.im rk vk
    obtain ⟨e31, e32⟩ := zip3 hlen hks
    try dsimp only
    refine wpAny_bind (PyProof.Rows.listItems_at nk' rfl ?_)
    refine PySem.W.keyH_end (κ := PySem.W.dataKind s'.heap (ks.map toPy)) (h₁ := PySem.W.hideAll s'.heap [kS]) (fun b o hb z => PySem.W.of_hideAll _ z) (PySem.W.hideAll_none [kS] List.mem_cons_self) nk' na' hka (PySem.W.SortsAt.data ek sk.al sk.so fun d hd => ?_) hsz (by omega) fun h' tk c kp hnew => ?_
    · obtain ⟨k0, hk0, rfl⟩ := List.mem_map.mp hd
      have h1 := sk.dp k0 hk0
      have h2 := hr.units
      show X.A.units + 1 + 1 + (toPy k0).depth < cLine
      omega
    · have ko : PySem.W.KeyedOut false (((xs.zip vs).zip ks).map fun b => toPy b.2) its (PySem.W.sortVals (PySem.W.dataKind s'.heap (ks.map toPy)) false kA.toList its) := by
        rw [e32]
        exact ⟨s'.heap, kA.toList, sk.al, rfl, ek⟩
      have eo := PySem.W.keyedOut_each (fun b : (D × V) × D => toPy b.2) ko (each3 (rx.mono (f'.kp w)) rv hks)
      obtain ⟨r5, v5⟩ := back3 eo
      have er : (((xs.zip vs).zip ks).mergeSort (PySem.W.dataLe false fun b => toPy b.2)).map (·.1.1) = srtBy xs ks := by
        unfold srtBy
        rw [← e31]
        have z := PySem.W.sort_maps (r := PySem.W.dataLe false fun b : (D × V) × D => toPy b.2) (s := PySem.W.dataLe false fun p : D × D => toPy p.2) (fun b : (D × V) × D => (b.1.1, b.2)) (l := (xs.zip vs).zip ks) (fun _ _ _ _ => rfl)
        rw [← z, List.map_map]
        rfl
      rw [er] at r5
      have fp : ∀ b ∈ [a, kS], FpOk X pins H' b := fun b hb => by
        rcases List.mem_cons.mp hb with rfl | hb
        · exact ⟨ha', fa.2⟩
        · rw [List.mem_singleton.mp hb]
          exact ⟨hk', fk.2⟩
      refine fin _ H' G' ks _ (Inv_track (ch := [a, kS]) (t' := tk) I' (fun b o hb z => ?_) fp List.mem_cons_self ⟨?_, _, c, v5, hnew⟩) w' f' ha' r5 q'
      · have n1 : b ≠ a := fun z => hb (by rw [z]; exact List.mem_cons_self)
        have n2 : b ∉ [kS] := fun z => hb (List.mem_cons_of_mem _ z)
        exact kp b o n1 (PySem.W.hideAll_get _ z n2)
      · rw [← r5.length]
        unfold srtBy
        rw [List.length_map, (List.mergeSort_perm _ _).length_eq, List.length_zip]
        omega
/-- sorted(xs, key=f) -/
def lowK (B : Bs) (f : Addr) (rd : RCD) : List V → List V → Hp → VK → Prop := fun vs zs H R => zs = [.ref f] ∧ ∃ ds G Q, RpL B.K H ds vs ∧ Wld B G H ∧ rd ds G Q ∧ Kt B G H Q R
theorem call_sortedK {k : Nat} {f : Addr} {fd : FuncData} {ps : List Str} {dsp : DSp} (F : FnOk X.prog X.w X.K X.mg X.base CX0 k f fd ps (lift (bs X) dsp)) (hr : Room (k + 2) X.A) (hb : Binds X.K fd ps []) :
    CallRK X (.builtin "sorted") [Str.ofString "key"] (lowK (bs X) f (sortedKD dsp)) := by
  intro pins s σ H vs zs us ws Q I r rz h
  obtain ⟨rfl, ds, G, Q', rl, w, h, kk⟩ := h
  obtain ⟨w1, rfl, e1⟩ := vals1 rz
  cases (show w1 = Value.ref f from e1)
  match ds, h with
  | [.ref l], h =>
    obtain ⟨xs, el, q⟩ := h
    obtain ⟨v, rfl, rv⟩ := rl.one
    rw [rp_ref.mp rv] at r
    obtain ⟨u, rfl, ru⟩ := vals1 r
    cases (show u = Value.ref l from ru)
    obtain ⟨vs, e2, rx⟩ := w l _ el
    obtain ⟨its, rvs, pl, hz⟩ := I.list (SqL.of e2)
    have hlen2 : vs.length = its.length := rvs.length
    have hZ : its.length ≤ sizeLine := by omega
    show wpAny _ _ (call (.builtin "sorted") [.ref l] [(Str.ofString "key", .ref f)]) _ _ _
    refine PySem.W.sorted_of_sort pl.isList hZ (PyProof.Rows.ksk_s1 _ _) (fun _ => PyProof.Rows.ksk_l1 _ _) fun E' => ?_
    rw [PyProof.Rows.ksk_t1]
    have hc0 := PySem.W.copyHeap_at s.heap its
    obtain ⟨e1, ho1⟩ : ∃ e1, ((PySem.W.copyHeap s.heap its).update (s.heap.objs.size + 1) (Obj.mapSeq fun _ => (#[] : Array Value))).get? (s.heap.objs.size + 1) = some (PyProof.Rows.seqObj "list" #[] e1) := ⟨_, PyProof.Rows.get?_update_seq hc0 fun _ => #[]⟩
    unfold PyProof.Rows.ksk_tree
    refine wpAny_bind (PyProof.Rows.listItems_at hc0 rfl ?_)
    refine wpAny_bind (PyProof.Rows.listUpdate_at hc0 rfl ?_ (by rw [List.size_toArray]; exact hZ) (Nat.zero_le _))
    refine wpAny_bind (PyProof.Rows.seqEpoch_at ho1 rfl ?_)
    refine wpAny_bind (wpAny_newTuple ?_ (by show its.length ≤ _; exact hZ))
    refine wpAny_bind (wpAny_newList ?_ (Nat.zero_le _))
    refine wpAny_holding ?_
    have kp : ∀ b o, s.heap.get? b = some o → (PySem.W.sortingHeap (PySem.W.copyHeap s.heap its) (s.heap.objs.size + 1) its).get? b = some o := fun b o z => PySem.W.sortingHeap_old (Nat.ne_of_lt (Nat.lt_succ_of_lt (Heap.lt_size z))) (PySem.W.copyHeap_old z)
    have I1 : Inv X pins σ H { s with heap := PySem.W.sortingHeap (PySem.W.copyHeap s.heap its) (s.heap.objs.size + 1) its } := I.kept (t' := s.toks) kp
    have hsz : ((PySem.W.copyHeap s.heap its).update (s.heap.objs.size + 1) (Obj.mapSeq fun _ => (#[] : Array Value))).objs.size = s.heap.objs.size + 2 := by
      rw [Heap.size_update]
      unfold PySem.W.copyHeap
      rw [PyProof.Rows.size_push', Heap.size_update, PyProof.Rows.size_push']
    have hkS : (((PySem.W.copyHeap s.heap its).update (s.heap.objs.size + 1) (Obj.mapSeq fun _ => (#[] : Array Value))).push (PyProof.Rows.seqObj "tuple" its.toArray 0)).objs.size = s.heap.objs.size + 3 := by
      rw [PyProof.Rows.size_push', hsz]
    refine sk_rest (s := { s with heap := PySem.W.sortingHeap (PySem.W.copyHeap s.heap its) (s.heap.objs.size + 1) its }) (Qk := fun ks G' => SortOk ks ∧ ∀ p, G' p = none → Q' (.ref p) (G'.upd p (.lst (srtBy xs ks)))) F hr hb I1 w (I.fpOk (Nat.le_succ _) (I.hok.fresh (Nat.le_succ _)))
      (I.fpOk (by rw [hkS]; exact Nat.le_add_right _ 3) (I.hok.fresh (by rw [hkS]; exact Nat.le_add_right _ 3))) (Heap.get?_push_size _ rfl) (Heap.get?_push_of_some _ (Heap.get?_push_of_some _ ho1)) (by rw [hkS]; exact Nat.ne_of_gt (Nat.lt_succ_of_lt (Nat.lt_succ_self _))) rx rvs hz q (fun ks G' h => h.1) ?_
    intro s' H' G' ks zs I' w' f' ha' r' qq
    refine ⟨rfl, .ref _, _, I', rfl, ?_⟩
    exact kk _ _ _ _ (rp_ref.mpr rfl) (wld_new (d := .lst (srtBy xs ks)) w' ha' ⟨_, upd_same, r'.mono (kp_new (B := bs X) ha')⟩) (f'.trans (fm_new ha')) (qq.2 _ (w'.none ha'))
/-! ### -e -/
def dNeg (t : DE) : DE := fun ρ G Q => t ρ G fun x G1 => match x with
  | .int i => Q (.int (-i)) G1
  | _ => False
theorem pd_neg {e : Expr} {t : DE} {pos : Pos} (h : PD X e t) : PD X (.UnaryOp .USub e pos) (dNeg t) := by
  obtain ⟨te, p, l⟩ := h
  refine ⟨_, pe_un un_neg p, fun ρ σ G H Q R s w h k => ?_⟩
  refine l ρ σ G H _ _ s w h fun x v G1 H1 r1 w1 f1 q1 => ?_
  cases x <;> try exact q1.elim
  rename_i i
  exact ⟨i, rp_int.mp r1, k _ _ G1 H1 (rp_int.mpr rfl) w1 f1 q1⟩
/-! ### a comprehension within a comprehension -/
theorem blkOk2 {N : List Str} {sc0 scope inner : Scope} {own : List (Str × Nat)} {cl : List (Str × Addr)} {C : Addr} {env : Env} (he : env.scope = sc0) (h : blkC N (relS scope sc0) inner own = true) : BlkOk N (compEnvC scope cl C env).scope inner own := by
  subst he
  exact blkOk_by h
theorem fn_no2 {P : Program} {w : World} {K : PySem.W.Frag} {mg : Str → Option Value} {base : Heap} {k : Nat} {f : Addr} {fd : FuncData} {ps : List Str} {B : Bs} {dsp : DSp} (hf : ∀ ds G Q, dsp ds G Q → False) : FnOk P w K mg base CX0 k f fd ps (lift B dsp) :=
  ⟨fun vs H Q E h => by obtain ⟨_, _, _, _, _, h, _⟩ := h; exact (hf _ _ _ h).elim, fun A outer s H args us vs Q E _ _ _ _ h => by obtain ⟨_, _, _, _, _, h, _⟩ := h; exact (hf _ _ _ h).elim⟩
/-- a def of the text where the top has laid it -/
structure FunOn (K : PySem.W.Frag) (mg : Str → Option Value) (x : Str) (st : Stmt) (ps : List Str) (f : Addr) (fd : FuncData) : Prop where
  F : Fun K x x st f fd
  g : mg x = some (.ref f)
  b : Binds K fd ps []
def dSortK (dsp : DSp) (t : DA) : DE := fun ρ G Q => t ρ G fun ds G1 => sortedKD dsp ds G1 Q
theorem pd_sortedK {k : Nat} {f : Addr} {fd : FuncData} {ps : List Str} {dsp : DSp} {e : Expr} {es : List Expr} {t : DA} {p pos kp kp2 : Pos} {nm : Str} (F : FnOk X.prog X.w X.K X.mg X.base CX0 k f fd ps (lift (bs X) dsp)) (hr : Room (k + 2) X.A) (hb : Binds X.K fd ps [])
    (hg : Gl X "sorted") (hm : X.mg "sorted" = none) (hgf : Gl X nm) (hmf : X.mg nm = some (.ref f)) (ha : PDA X (e :: es) t) (hdb : (nm == ("__debug__" : Str)) = false := by decide)
    (he : backTo pos (starEach (e :: es) X.env) = (false, eval e X.env) :: backTo pos (starEach es X.env) := by rfl) (hpl : (backTo pos (starEach (e :: es) X.env)).any (·.1) = false := by rfl)
    (hall : (backToKw pos (keywordEach [⟨some "key", .Name nm kp2, kp⟩] X.env)).all (·.1.isSome) = true := by rfl) (hnone : (backToKw pos (keywordEach [⟨some "key", .Name nm kp2, kp⟩] X.env)).any (·.1.isNone) = false := by rfl) (hks : (backToKw pos (keywordEach [⟨some "key", .Name nm kp2, kp⟩] X.env)).filterMap (·.1) = [Str.ofString "key"] := by rfl) :
    PD X (.Call (.Name "sorted" p) (e :: es) [⟨some "key", .Name nm kp2, kp⟩] pos) (dSortK dsp t) := by
  obtain ⟨ta, pa, la⟩ := ha
  refine ⟨_, pe_callBK (call_sortedK F hr hb) hg hm (by decide +kernel) pa (pk_cons (pe_glob (v := .ref f) hgf hmf rfl hdb) pk_nil) (by decide) (by decide) he hpl hall hnone hks, fun ρ σ G H Q R s w h k => ?_⟩
  refine la ρ σ G H _ _ s w h fun ds vs G1 H1 r1 w1 f1 q1 => ?_
  exact ⟨rfl, ds, G1, Q, r1, w1, q1, k.aft f1⟩
theorem pd_sorted {n : Nat} {e : Expr} {es : List Expr} {t : DA} {p pos : Pos} (hr : Room n X.A) (hg : Gl X "sorted") (hm : X.mg "sorted" = none) (ha : PDA X (e :: es) t) (he : starEach (e :: es) X.env = (false, eval e X.env) :: starEach es X.env := by rfl) (hpl : (backTo pos (starEach es X.env)).any (·.1) = false := by rfl) :
    PD X (.Call (.Name "sorted" p) (e :: es) [] pos) (dCB sortedD t) := pd_callB (call_sortedD hr) lowCl_lk hg hm (by decide +kernel) ha (by decide) (by decide) he hpl
theorem pd_listD {e : Expr} {es : List Expr} {t : DA} {p pos : Pos} (hc : X.calm = true) (hg : Gl X "list") (hm : X.mg "list" = none) (ha : PDA X (e :: es) t) (he : starEach (e :: es) X.env = (false, eval e X.env) :: starEach es X.env := by rfl) (hpl : (backTo pos (starEach es X.env)).any (·.1) = false := by rfl) :
    PD X (.Call (.Name "list" p) (e :: es) [] pos) (dCB listDD t) := pd_callTy (call_listDD hc) lowCl_lk hg hm (by decide +kernel) ha (by decide) (by decide) he hpl
end
end FD

/-! FD10: the steps of a reading, as equations; stores that grow; plain data. -/
namespace FD
open PySem L2
section
variable {E : DEnds} {ρ : DSt} {G G1 G2 : DG} {Q : DK} {QT : Bool → DG → Prop} {QA : List D → DG → Prop} {QO : Option Int → DG → Prop} {QI : DIt → DG → Prop} {t u : DS} {te ta tb : DE} {tt tu : DT} {tA : DA} {g : DGt} {gs : DGts} {QS : DSt → DG → Prop}
/-- the two branches, not yet looked at -/
def dBr (t u : DS) (E : DEnds) (ρ : DSt) (b : Bool) (G : DG) : Prop := if b = true then t E ρ G else u E ρ G
def dBrE (ta tb : DE) (ρ : DSt) (Q : DK) (b : Bool) (G : DG) : Prop := if b = true then ta ρ G Q else tb ρ G Q
def kB (Q : Bool → DG → Prop) (x : D) (G : DG) : Prop := match x with
  | .bl b => Q b G
  | _ => False
def kN (u : DT) (ρ : DSt) (Q : Bool → DG → Prop) (k : Bool) (b : Bool) (G : DG) : Prop := if b = k then u ρ G Q else Q b G
def kAnd (tb : DE) (ρ : DSt) (Q : DK) (x : D) (k : Bool) (G : DG) : Prop := if k = true then tb ρ G Q else Q x G
/-- a new object, not yet looked at -/
def kNew (G : DG) (o : DO) (Q : DK) : Prop := ∀ p, G p = none → Q (.ref p) (G.upd p o)
theorem seq_ : dSeq t u E ρ G = t { E with nx := u E } ρ G := rfl
theorem next_ : dNext E ρ G = E.nx ρ G := rfl
theorem ret_ : dRet te E ρ G = te ρ G E.rt := rfl
theorem drop_ : dDrop te E ρ G = te ρ G fun _ G1 => E.nx ρ G1 := rfl
theorem ifs_ {c : DT} : dIfS c t u E ρ G = c ρ G (dBr t u E ρ) := rfl
theorem br_t : dBr t u E ρ true G = t E ρ G := rfl
theorem br_f : dBr t u E ρ false G = u E ρ G := rfl
theorem asg_ : dAsg te g E ρ G = te ρ G fun x G1 => g x ρ G1 E.nx := rfl
theorem gn_ {i : Nat} {d : D} : gnD i d ρ G QS = QS (ρ.set i (some d)) G := rfl
theorem gt_ {n : Nat} {ds : List D} : gtD n gs (.tup ds) ρ G QS = (ds.length = n ∧ gs ds ρ G QS) := rfl
theorem gtc_ {d : D} {r : List D} : gtCons g gs (d :: r) ρ G QS = g d ρ G fun ρ' G' => gs r ρ' G' QS := rfl
theorem gtn_ : gtNil [] ρ G QS = QS ρ G := rfl
theorem par_ {i j : Nat} : dPar i j tA E ρ G = tA ρ G fun ds G1 => match ds with
  | [x, y] => E.nx ((ρ.set i (some x)).set j (some y)) G1
  | _ => False := rfl
theorem var_0 {d : D} : dVar 0 (some d :: ρ) G Q = Q d G := rfl
theorem var_s {i : Nat} {o : Option D} : dVar (i + 1) (o :: ρ) G Q = dVar i ρ G Q := rfl
theorem c_ {d : D} : dC d ρ G Q = Q d G := rfl
theorem nil_ : dNil ρ G QA = QA [] G := rfl
theorem cons_ : dCons te tA ρ G QA = te ρ G fun x G1 => tA ρ G1 fun xs G2 => QA (x :: xs) G2 := rfl
theorem tup_ : dTup tA ρ G Q = tA ρ G fun xs G1 => xs.length ≤ sizeLine ∧ Q (.tup xs) G1 := rfl
theorem lst_ : dLst tA ρ G Q = tA ρ G fun xs G1 => xs.length ≤ sizeLine ∧ kNew G1 (.lst xs) Q := rfl
theorem op_ {rd : R2D} : dOp rd ta tb ρ G Q = ta ρ G fun x G1 => tb ρ G1 fun y G2 => rd x y G2 Q := rfl
theorem bool_ : dBool te ρ G QT = te ρ G (kB QT) := rfl
theorem kb_ {b : Bool} : kB QT (.bl b) G = QT b G := rfl
theorem tru_ : dTru te ρ G QT = te ρ G fun x G1 => trD x G1 QT := rfl
theorem tr_bl {b : Bool} : trD (.bl b) G QT = QT b G := rfl
theorem andT_ : dAndT tt tu ρ G QT = tt ρ G (kN tu ρ QT true) := by
  unfold dAndT; congr 1; funext c G1; cases c <;> rfl
theorem orT_ : dOrT tt tu ρ G QT = tt ρ G (kN tu ρ QT false) := by
  unfold dOrT; congr 1; funext c G1; cases c <;> rfl
theorem kn_tt : kN tu ρ QT true true G = tu ρ G QT := rfl
theorem kn_tf : kN tu ρ QT true false G = QT false G := rfl
theorem kn_ff : kN tu ρ QT false false G = tu ρ G QT := rfl
theorem kn_ft : kN tu ρ QT false true G = QT true G := rfl
theorem notT_ : dNotT tt ρ G QT = tt ρ G fun c G1 => QT (!c) G1 := rfl
theorem and_ : dAnd ta tb ρ G Q = ta ρ G fun x G1 => trD x G1 (kAnd tb ρ Q x) := rfl
theorem kand_t {x : D} : kAnd tb ρ Q x true G = tb ρ G Q := rfl
theorem kand_f {x : D} : kAnd tb ρ Q x false G = Q x G := rfl
theorem if_ : dIf tt ta tb ρ G Q = tt ρ G (dBrE ta tb ρ Q) := rfl
theorem bre_t : dBrE ta tb ρ Q true G = ta ρ G Q := rfl
theorem bre_f : dBrE ta tb ρ Q false G = tb ρ G Q := rfl
theorem call_ {dsp : DSp} : dCall dsp tA ρ G Q = tA ρ G fun ds G1 => dsp ds G1 Q := rfl
theorem cb_ {rd : RCD} : dCB rd tA ρ G Q = tA ρ G fun ds G1 => rd ds G1 Q := rfl
theorem neg_ : dNeg te ρ G Q = te ρ G fun x G1 => match x with
  | .int i => Q (.int (-i)) G1
  | _ => False := rfl
theorem sl_ {lo hi : DOp} : dSl te lo hi ρ G Q = te ρ G fun x G1 => lo ρ G1 fun l G2 => hi ρ G2 fun u G3 => slD x l u G3 Q := rfl
theorem nopart_ : dNoPart ρ G QO = QO none G := rfl
theorem part_ : dPart te ρ G QO = te ρ G fun x G1 => match x with
  | .int i => QO (some i) G1
  | _ => False := rfl
theorem sl_tup {ds : List D} {lo hi : Option Int} : slD (.tup ds) lo hi G Q = Q (.tup (cutD ds lo hi)) G := rfl
theorem add_int {i j : Int} : addD (.int i) (.int j) G Q = Q (.int (i + j)) G := rfl
theorem add_tup {xs ys : List D} : addD (.tup xs) (.tup ys) G Q = (xs.length + ys.length ≤ sizeLine ∧ Q (.tup (xs ++ ys)) G) := rfl
theorem add_ref {a b : Addr} : addD (.ref a) (.ref b) G Q = ∃ xs, G a = some (.lst xs) ∧ ∃ ys, G b = some (.lst ys) ∧ xs.length + ys.length ≤ sizeLine ∧ kNew G (.lst (xs ++ ys)) Q := propext ⟨fun ⟨xs, ys, h1, h2, h3, h4⟩ => ⟨xs, h1, ys, h2, h3, h4⟩, fun ⟨xs, h1, ys, h2, h3, h4⟩ => ⟨xs, ys, h1, h2, h3, h4⟩⟩
theorem int_ {C : Int → Int → Prop} {f : Int → Int → Int} {i j : Int} : intD C f (.int i) (.int j) G Q = (C i j ∧ Q (.int (f i j)) G) := rfl
theorem int0_ {f : Int → Int → Int} {i j : Int} : int0D f (.int i) (.int j) G Q = Q (.int (f i j)) G := rfl
theorem mul_int {i j : Int} : mulD (.int i) (.int j) G Q = (CMul i j ∧ Q (.int (i * j)) G) := rfl
theorem mul_str {s : Str} {n : Int} : mulD (.str s) (.int n) G Q = (MulOk s n ∧ Q (.str (Txt.mul s n)) G) := rfl
theorem ord_int {f : Int → Int → Bool} {h : List Nat → List Nat → Bool} {i j : Int} : ordD f h (.int i) (.int j) G Q = Q (.bl (f i j)) G := rfl
theorem ix_tup {ds : List D} {i : Int} : ixD (.tup ds) (.int i) G Q = atQ ds i G Q := rfl
theorem ix_fl {ds : List D} {i : Int} : ixD (.fl ds) (.int i) G Q = atQ ds i G Q := rfl
theorem ix_ref {a : Addr} {i : Int} : ixD (.ref a) (.int i) G Q = ∃ ds, G a = some (.lst ds) ∧ atQ ds i G Q := rfl
theorem at_0 {d : D} {ds : List D} : atQ (d :: ds) 0 G Q = Q d G := by
  unfold atQ atI ixN
  rw [if_pos (by decide), if_pos (by rw [List.length_cons]; omega)]; rfl
theorem at_1 {d e : D} {ds : List D} : atQ (d :: e :: ds) 1 G Q = Q e G := by
  unfold atQ atI ixN
  rw [if_pos (by decide), if_pos (by rw [List.length_cons, List.length_cons]; omega)]; rfl
theorem at_2 {d e f : D} {ds : List D} : atQ (d :: e :: f :: ds) 2 G Q = Q f G := by
  unfold atQ atI ixN
  rw [if_pos (by decide), if_pos (by rw [List.length_cons, List.length_cons, List.length_cons]; omega)]; rfl
theorem at_3 {d e f h : D} {ds : List D} : atQ (d :: e :: f :: h :: ds) 3 G Q = Q h G := by
  unfold atQ atI ixN
  rw [if_pos (by decide), if_pos (by rw [List.length_cons, List.length_cons, List.length_cons, List.length_cons]; omega)]; rfl
/-- any place within -/
theorem at_in {ds : List D} {i : Int} (h0 : 0 ≤ i) (h1 : i < ds.length) (k : ∀ d ∈ ds, Q d G) : atQ ds i G Q := by
  unfold atQ atI ixN
  rw [if_pos h0, if_pos h1]
  have e : i.toNat < ds.length := by omega
  show (match ds[i.toNat]? with | some d => Q d G | none => False)
  rw [List.getElem?_eq_getElem e]
  exact k _ (List.getElem_mem e)
theorem len_tup {xs : List D} : lenD [.tup xs] G Q = Q (.int xs.length) G := rfl
theorem len_fl {xs : List D} : lenD [.fl xs] G Q = Q (.int xs.length) G := rfl
theorem len_ref {a : Addr} : lenD [.ref a] G Q = ∃ xs, G a = some (.lst xs) ∧ Q (.int xs.length) G := rfl
theorem max2_ {i j : Int} : max2D [.int i, .int j] G Q = Q (.int (if j > i then j else i)) G := rfl
theorem min2_ {i j : Int} : min2D [.int i, .int j] G Q = Q (.int (if j < i then j else i)) G := rfl
theorem tuple_tup {xs : List D} : tupleD [.tup xs] G Q = Q (.tup xs) G := rfl
theorem tuple_ref {a : Addr} : tupleD [.ref a] G Q = ∃ xs, G a = some (.lst xs) ∧ Q (.tup xs) G := rfl
theorem is_ {x : D} {n : Bool} : isD n x .non G Q = Q (.bl (if n then !isNon x else isNon x)) G := rfl
theorem gs_ {to ti : DE} {rd : RSD} {x : D} : gsD to ti rd x ρ G QS = to ρ G fun o G1 => ti ρ G1 fun i G2 => rd o i x G2 fun G3 => QS ρ G3 := rfl
theorem setL_ {l : Addr} {n : Int} {x : D} {Qg : DG → Prop} : setLD (.ref l) (.int n) x G Qg = ∃ xs j, G l = some (.lst xs) ∧ ixN xs.length n = some j ∧ Qg (G.upd l (.lst (xs.set j x))) := rfl
theorem ml_ {rd : RMD} {to : DE} : dML rd to tA ρ G Q = to ρ G fun x G1 => isLst x G1 ∧ tA ρ G1 fun ds G2 => rd x ds G2 Q := rfl
theorem append_ {l : Addr} {y : D} : appendD (.ref l) [y] G Q = ∃ xs, G l = some (.lst xs) ∧ xs.length < sizeLine ∧ Q .non (G.upd l (.lst (xs ++ [y]))) := rfl
theorem for_ {di : DI} : dFor di g t E ρ G = di ρ G fun it G1 => forGo it.chk g t E it.items ρ G1 := rfl
theorem rng1_ : diRng1 tA ρ G QI = tA ρ G fun ds G1 => match ds with
  | [.int j] => (-(2 ^ 62) ≤ j ∧ j < 2 ^ 62) ∧ QI ⟨rngD 0 j.toNat, fun _ => True⟩ G1
  | _ => False := rfl
theorem any_ : diAny te ρ G QI = te ρ G fun x G1 => diVal x G1 QI := rfl
theorem lc_ {di : DI} {vs : List Nat} : dLc di g tt te vs ρ G Q = di ρ G fun it G1 => lcGo it.chk g tt te (wipeD ρ vs) (fun acc G' => kNew G' (.lst acc) Q) it.items [] G1 := rfl
theorem sl_ref {a : Addr} {lo hi : Option Int} : slD (.ref a) lo hi G Q = ∃ ds, G a = some (.lst ds) ∧ kNew G (.lst (cutD ds lo hi)) Q := rfl
theorem list_tup {xs : List D} : listDD [.tup xs] G Q = kNew G (.lst xs) Q := rfl
theorem dict0_ : dDict0 ρ G Q = kNew G (.dic []) Q := rfl
theorem dn_ {di : DI} {tk tv : DE} {vs : List Nat} : dDn di g tt tk tv vs ρ G Q = di ρ G fun it G1 => dcGo it.chk g tt tk tv (wipeD ρ vs) (fun kvs G' => kNew G' (.dic kvs) Q) it.items [] G1 := rfl
theorem sortK_ {dsp : DSp} : dSortK dsp tA ρ G Q = tA ρ G fun ds G1 => sortedKD dsp ds G1 Q := rfl
theorem val_tup {ds : List D} : diVal (.tup ds) G QI = QI ⟨ds, fun _ => True⟩ G := rfl
theorem yes_ : dYes ρ G QT = QT true G := rfl
theorem isLst_ {a : Addr} : isLst (.ref a) G = ∃ ds, G a = some (.lst ds) := rfl
theorem ex_lst {a : Addr} {ds : List D} (h : G a = some (.lst ds)) {P : List D → Prop} : (∃ xs, G a = some (.lst xs) ∧ P xs) ↔ P ds := by
  constructor
  · rintro ⟨xs, e, p⟩
    rw [h] at e; cases e; exact p
  · exact fun p => ⟨ds, h, p⟩
end
theorem list_lst {G : DG} {Q : DK} {a : Addr} {xs : List D} (h : G a = some (.lst xs)) (k : kNew G (.lst xs) Q) : listDD [.ref a] G Q := .inl ⟨xs, h, k⟩
theorem list_dic {G : DG} {Q : DK} {a : Addr} {kvs : List (D × D)} (h : G a = some (.dic kvs)) (t : tupKeys kvs = true) (k : kNew G (.lst (kvs.map (·.1))) Q) : listDD [.ref a] G Q := .inr ⟨kvs, h, t, k⟩
theorem val_lst {G : DG} {QI : DIt → DG → Prop} {a : Addr} {ds : List D} (h : G a = some (.lst ds)) (k : QI ⟨ds, fun G' => G' a = some (.lst ds)⟩ G) : diVal (.ref a) G QI := ⟨ds, h, k⟩
/-! ### stores that grow -/
/-- all but f is kept -/
def Ext (f : Addr) (G G' : DG) : Prop := ∀ a o, a ≠ f → G a = some o → G' a = some o
def Keep (G G' : DG) : Prop := ∀ a o, G a = some o → G' a = some o
theorem Ext.refl {f : Addr} {G : DG} : Ext f G G := fun _ _ _ h => h
theorem Ext.trans {f : Addr} {G G1 G2 : DG} (a : Ext f G G1) (b : Ext f G1 G2) : Ext f G G2 := fun x o n h => b x o n (a x o n h)
theorem Keep.refl {G : DG} : Keep G G := fun _ _ h => h
theorem Keep.trans {G G1 G2 : DG} (a : Keep G G1) (b : Keep G1 G2) : Keep G G2 := fun x o h => b x o (a x o h)
theorem Keep.ext {f : Addr} {G G1 : DG} (a : Keep G G1) : Ext f G G1 := fun x o _ h => a x o h
theorem keep_new {G : DG} {p : Addr} {o : DO} (h : G p = none) : Keep G (G.upd p o) := fun a u e => by
  have n : a ≠ p := fun q => by rw [q, h] at e; cases e
  rw [gupd_ne n]; exact e
theorem ext_upd {G : DG} {p : Addr} {o : DO} : Ext p G (G.upd p o) := fun a u n e => by rw [gupd_ne n]; exact e
theorem new_ {G : DG} {o : DO} {Q : DK} (h : ∀ p G', G p = none → G' p = some o → Keep G G' → Q (.ref p) G') : kNew G o Q := fun p hp => h p _ hp gupd_same (keep_new hp)
theorem ne_new {G : DG} {p f : Addr} {o : DO} (hp : G p = none) (hf : G f = some o) : p ≠ f := fun e => by rw [e, hf] at hp; cases hp
/-- the feed: two numbers, not below zero -/
def Feed (f : Addr) (G : DG) : Prop := ∃ g m : Int, 0 ≤ g ∧ 0 ≤ m ∧ G f = some (.lst [.int g, .int m])
theorem Feed.keep {f : Addr} {G G' : DG} (h : Feed f G) (k : Keep G G') : Feed f G' := by
  obtain ⟨g, m, a, b, e⟩ := h
  exact ⟨g, m, a, b, k _ _ e⟩
theorem Feed.ne {f p : Addr} {G : DG} (h : Feed f G) (hp : G p = none) : p ≠ f := by
  obtain ⟨g, m, a, b, e⟩ := h
  exact ne_new hp e
/-! ### == of what stands in D -/
theorem eq_imm {neg : Bool} {x y : D} {G : DG} {Q : DK} (hx : imm x = true) (hy : imm y = true) (sx : SeqAt.shaped (toPy x) = true) (sy : SeqAt.shaped (toPy y) = true) (h : Q (.bl (if neg then !PyData.eqv (toPy x) (toPy y) else PyData.eqv (toPy x) (toPy y))) G) : eqD neg x y G Q :=
  ⟨_, _, imm_py G hx, imm_py G hy, sx, sy, h⟩
theorem eq_lst {neg : Bool} {a b : Addr} {xs ys : List D} {G : DG} {Q : DK} (ha : G a = some (.lst xs)) (hb : G b = some (.lst ys)) (hx : imms xs = true) (hy : imms ys = true) (sx : SeqAt.shaped (.list (toPys xs)) = true) (sy : SeqAt.shaped (.list (toPys ys)) = true) (h : Q (.bl (if neg then !PyData.eqvAll (toPys xs) (toPys ys) else PyData.eqvAll (toPys xs) (toPys ys))) G) : eqD neg (.ref a) (.ref b) G Q :=
  ⟨_, _, .lst ha (imms_py G hx), .lst hb (imms_py G hy), sx, sy, by simpa only [PyData.eqv] using h⟩
end FD

/-! FD11: loops by an invariant; == as an equation; small facts. -/
namespace FD
open PySem L2
theorem py_int {G : DG} {i : Int} {p : PyData} (h : Py G (.int i) p) : p = .int i := by cases h; rfl
theorem py_str {G : DG} {x : Str} {p : PyData} (h : Py G (.str x) p) : p = .str x := by cases h; rfl
theorem py_bl {G : DG} {b : Bool} {p : PyData} (h : Py G (.bl b) p) : p = .bool b := by cases h; rfl
theorem shaped_int {i : Int} : SeqAt.shaped (.int i) = true := by simp [SeqAt.shaped, PyData.canLay0, PyData.depth]
theorem shaped_bool {i : Bool} : SeqAt.shaped (.bool i) = true := by simp [SeqAt.shaped, PyData.canLay0, PyData.depth]
theorem shaped_str {s : Str} : SeqAt.shaped (.str s) = PyData.strOk s := by simp [SeqAt.shaped, PyData.canLay0, PyData.depth]
theorem eq_int {neg : Bool} {i j : Int} {G : DG} {Q : DK} : eqD neg (.int i) (.int j) G Q = Q (.bl (if neg then !(i == j) else (i == j))) G := by
  apply propext
  constructor
  · rintro ⟨p, q, hp, hq, _, _, h⟩
    rw [py_int hp, py_int hq] at h
    simpa only [PyData.eqv] using h
  · intro h
    exact ⟨_, _, .int i, .int j, shaped_int, shaped_int, by simpa only [PyData.eqv] using h⟩
theorem eq_bl {neg : Bool} {i j : Bool} {G : DG} {Q : DK} : eqD neg (.bl i) (.bl j) G Q = Q (.bl (if neg then !(i == j) else (i == j))) G := by
  apply propext
  constructor
  · rintro ⟨p, q, hp, hq, _, _, h⟩
    rw [py_bl hp, py_bl hq] at h
    simpa only [PyData.eqv] using h
  · intro h
    exact ⟨_, _, .bl i, .bl j, shaped_bool, shaped_bool, by simpa only [PyData.eqv] using h⟩
theorem eq_int0 {i j : Int} {G : DG} {Q : DK} : eqD false (.int i) (.int j) G Q = Q (.bl (i == j)) G := eq_int
theorem eq_int1 {i j : Int} {G : DG} {Q : DK} : eqD true (.int i) (.int j) G Q = Q (.bl (!(i == j))) G := eq_int
theorem eq_bl0 {i j : Bool} {G : DG} {Q : DK} : eqD false (.bl i) (.bl j) G Q = Q (.bl (i == j)) G := eq_bl
theorem eq_bl1 {i j : Bool} {G : DG} {Q : DK} : eqD true (.bl i) (.bl j) G Q = Q (.bl (!(i == j))) G := eq_bl
/-! ### loops -/
theorem forGo_inv {chk : DG → Prop} {g : DGt} {b : DS} {E : DEnds} (Inv : List D → DSt → DG → Prop)
    (hc : ∀ ds ρ G, Inv ds ρ G → chk G)
    (hs : ∀ d ds ρ G (X : DSt → DG → Prop), Inv (d :: ds) ρ G → (∀ ρ' G', Inv ds ρ' G' → X ρ' G') → g d ρ G fun ρ' G' => b { E with nx := X, ct := X, bk := E.nx } ρ' G')
    (he : ∀ ρ G, Inv [] ρ G → E.nx ρ G) : ∀ (ds : List D) (ρ : DSt) (G : DG), Inv ds ρ G → forGo chk g b E ds ρ G
  | [], ρ, G, h => ⟨hc _ _ _ h, he ρ G h⟩
  | d :: ds, ρ, G, h => ⟨hc _ _ _ h, hs d ds ρ G _ h fun ρ' G' q => forGo_inv Inv hc hs he ds ρ' G' q⟩
theorem lcGo_inv {chk : DG → Prop} {g : DGt} {te : DE} {ρ : DSt} {fin : List D → DG → Prop} (I : DG → Prop) (P : D → D → Prop)
    (hc : ∀ G, I G → chk G) : ∀ (items acc : List D) (G : DG),
    (∀ d, d ∈ items → ∀ G K, I G → (∀ y G', P d y → I G' → K y G') → g d ρ G fun ρ2 G2 => te ρ2 G2 K) →
    I G → acc.length + items.length ≤ sizeLine →
    (∀ ys G', Paired P items ys → I G' → fin (acc ++ ys) G') → lcGo chk g dYes te ρ fin items acc G
  | [], acc, G, hs, hI, hl, hf => ⟨hc _ hI, by have h := hf [] G .nil hI; rwa [List.append_nil] at h⟩
  | d :: ds, acc, G, hs, hI, hl, hf => by
    rw [List.length_cons] at hl
    refine ⟨hc _ hI, ?_⟩
    refine hs d (List.mem_cons_self ..) G (fun y G4 => acc.length < sizeLine ∧ lcGo chk g dYes te ρ fin ds (acc ++ [y]) G4) hI fun y G' hp hI' => ⟨by omega, ?_⟩
    refine lcGo_inv I P hc ds (acc ++ [y]) G' (fun e he => hs e (List.mem_cons_of_mem _ he)) hI' (by rw [List.length_append]; show acc.length + 1 + ds.length ≤ sizeLine; omega) fun ys G'' hq hI'' => ?_
    have h := hf (y :: ys) G'' (.cons hp hq) hI''
    rwa [List.append_assoc]
theorem paired_len {α β : Type} {R : α → β → Prop} : ∀ {xs : List α} {ys : List β}, Paired R xs ys → ys.length = xs.length
  | _, _, .nil => rfl
  | _, _, .cons _ t => by rw [List.length_cons, List.length_cons, paired_len t]
theorem paired_all {α β : Type} {P : β → Prop} : ∀ {xs : List α} {ys : List β}, Paired (fun _ y => P y) xs ys → ∀ y ∈ ys, P y
  | _, _, .nil, y, h => nomatch h
  | _, _, .cons q t, y, h => by
    rcases List.mem_cons.mp h with rfl | h
    · exact q
    · exact paired_all t y h
theorem paired_map {α β : Type} {f : α → β} : ∀ {xs : List α} {ys : List β}, Paired (fun x y => y = f x) xs ys → ys = xs.map f
  | _, _, .nil => rfl
  | _, _, .cons q t => by rw [List.map_cons, q, paired_map t]
theorem whileGo_inv {c : DT} {b : DS} {E : DEnds} (Inv : Nat → DSt → DG → Prop)
    (hs : ∀ n ρ G (X : DSt → DG → Prop), Inv n ρ G → (∀ m ρ' G', m < n → Inv m ρ' G' → X ρ' G') → c ρ G fun k G1 => if k = true then b { E with nx := X, ct := X, bk := E.nx } ρ G1 else E.nx ρ G1) :
    ∀ (k n : Nat) (ρ : DSt) (G : DG), n ≤ k → Inv n ρ G → whileGo c b E (k + 1) ρ G
  | 0, n, ρ, G, hk, h => hs n ρ G (whileGo c b E 0) h fun m ρ' G' hm _ => by omega
  | k + 1, n, ρ, G, hk, h => hs n ρ G (whileGo c b E (k + 1)) h fun m ρ' G' hm q => whileGo_inv Inv hs k m ρ' G' (by omega) q
theorem while_inv {c : DT} {b : DS} {E : DEnds} (Inv : Nat → DSt → DG → Prop)
    (hs : ∀ n ρ G (X : DSt → DG → Prop), Inv n ρ G → (∀ m ρ' G', m < n → Inv m ρ' G' → X ρ' G') → c ρ G fun k G1 => if k = true then b { E with nx := X, ct := X, bk := E.nx } ρ G1 else E.nx ρ G1)
    {n : Nat} {ρ : DSt} {G : DG} (h : Inv n ρ G) : dWhile c b E ρ G := ⟨n + 1, whileGo_inv Inv hs n n ρ G (Nat.le_refl _) h⟩
theorem rng_mem {n : Nat} {d : D} {lo : Int} (h : d ∈ rngD lo n) : ∃ i : Nat, i < n ∧ d = .int (lo + (i : Int)) := by
  obtain ⟨i, hi, e⟩ := List.mem_map.mp h
  exact ⟨i, List.mem_range.mp hi, e.symm⟩
/-! ### stores -/
theorem Ext.back {f p : Addr} {G0 G : DG} (x : Ext f G0 G) (F : Feed f G) (h : G p = none) : G0 p = none := by
  cases e : G0 p with
  | none => rfl
  | some o =>
    by_cases q : p = f
    · obtain ⟨g, m, _, _, e2⟩ := F
      rw [← q, h] at e2; cases e2
    · have := x p o q e
      rw [h] at this; cases this
theorem Ext.updN {f p : Addr} {G0 G : DG} {o : DO} (x : Ext f G0 G) (h : G0 p = none) : Ext f G0 (G.upd p o) := fun a u n e => by
  have q : a ≠ p := fun z => by rw [z, h] at e; cases e
  rw [gupd_ne q]; exact x a u n e
theorem Feed.upd {f p : Addr} {G : DG} {o : DO} (F : Feed f G) (h : p ≠ f) : Feed f (G.upd p o) := by
  obtain ⟨g, m, a, b, e⟩ := F
  exact ⟨g, m, a, b, by rw [gupd_ne (Ne.symm h)]; exact e⟩
theorem Ext.get {f a : Addr} {G G' : DG} {o : DO} (x : Ext f G G') (n : a ≠ f) (h : G a = some o) : G' a = some o := x a o n h
theorem append_g {l : Addr} {y : D} {xs : List D} {G : DG} {Q : DK} (e : G l = some (.lst xs)) (hl : xs.length < sizeLine) (k : ∀ G', G' l = some (.lst (xs ++ [y])) → Ext l G G' → Q .non G') : appendD (.ref l) [y] G Q := ⟨xs, e, hl, k _ gupd_same ext_upd⟩
theorem Feed.ext {f l : Addr} {G G' : DG} (F : Feed f G) (x : Ext l G G') (n : l ≠ f) : Feed f G' := by
  obtain ⟨g, m, a, b, e⟩ := F
  exact ⟨g, m, a, b, x _ _ (Ne.symm n) e⟩
theorem Ext.own {f l : Addr} {G0 G G' : DG} (x : Ext f G0 G) (h : G0 l = none) (y : Ext l G G') : Ext f G0 G' := fun a o n e => by
  have q : a ≠ l := fun z => by rw [z, h] at e; cases e
  exact y a o q (x a o n e)
/-! ### parts -/
theorem cut_mem {α : Type} {xs : List α} {lo hi : Option Int} {x : α} (h : x ∈ cutD xs lo hi) : x ∈ xs := List.mem_of_mem_drop (List.mem_of_mem_take h)
theorem cut_len {α : Type} {xs : List α} {lo hi : Option Int} : (cutD xs lo hi).length ≤ xs.length := by
  unfold cutD
  rw [List.length_take, List.length_drop]
  omega
theorem cut_len_hi {α : Type} {xs : List α} {k : Nat} : (cutD xs none (some (k : Int))).length ≤ k := by
  unfold cutD
  rw [HT.sIx_nat, List.length_take]
  omega
theorem cut_hi {α : Type} {xs : List α} {k : Nat} : cutD xs none (some (k : Int)) = xs.take k := by
  unfold cutD
  rw [HT.sIx_nat, HT.sIx_none, List.drop_zero, Nat.sub_zero]
  by_cases h : k ≤ xs.length
  · rw [Nat.min_eq_left h]
  · rw [Nat.min_eq_right (by omega), List.take_of_length_le (Nat.le_refl _), List.take_of_length_le (by omega)]
end FD

/-! FD12: plain data: what == and isinstance say of them. -/
namespace FD
open PySem L2
/-- plain data of at most k levels -/
def Pl : Nat → D → Prop
  | _, .non => True
  | _, .bl _ => True
  | _, .int _ => True
  | _, .str s => PyData.strOk s = true
  | 0, .tup _ => False
  | k + 1, .tup ds => ds.length ≤ sizeLine ∧ ∀ d ∈ ds, Pl k d
  | _, .fl _ => False
  | _, .ref _ => False
  | _, .ty _ => False
theorem pl_tup {k : Nat} {ds : List D} : Pl (k + 1) (.tup ds) ↔ ds.length ≤ sizeLine ∧ ∀ d ∈ ds, Pl k d := by rw [Pl]
theorem Pl.succ : ∀ {k : Nat} {d : D}, Pl k d → Pl (k + 1) d
  | k, .non, h => by rw [Pl]; trivial
  | k, .bl _, h => by rw [Pl]; trivial
  | k, .int _, h => by rw [Pl]; trivial
  | k, .str s, h => by rw [Pl] at h ⊢; exact h
  | 0, .tup _, h => by rw [Pl] at h; exact h.elim
  | k + 1, .tup ds, h => by
    rw [pl_tup] at h ⊢
    exact ⟨h.1, fun d hd => Pl.succ (h.2 d hd)⟩
  | 0, .fl _, h => by rw [Pl] at h; exact h.elim
  | 0, .ref _, h => by rw [Pl] at h; exact h.elim
  | 0, .ty _, h => by rw [Pl] at h; exact h.elim
  | _ + 1, .fl _, h => by rw [Pl] at h; exact h.elim
  | _ + 1, .ref _, h => by rw [Pl] at h; exact h.elim
  | _ + 1, .ty _, h => by rw [Pl] at h; exact h.elim
theorem Pl.mono {k m : Nat} {d : D} (h : Pl k d) (hm : k ≤ m) : Pl m d := by
  induction hm with
  | refl => exact h
  | step _ ih => exact ih.succ
theorem pl_items {k : Nat} (ih : ∀ d, Pl k d → imm d = true ∧ (toPy d).canLay0 = true ∧ (toPy d).depth ≤ k) : ∀ ds : List D, (∀ d ∈ ds, Pl k d) → imms ds = true ∧ PyData.canLayAll0 (toPys ds) = true ∧ PyData.depthAll (toPys ds) ≤ k
  | [], _ => ⟨by rw [imms], by rw [toPys, PyData.canLayAll0], by rw [toPys, PyData.depthAll]; omega⟩
  | d :: ds, h => by
    obtain ⟨a, b, c⟩ := ih d (h d (List.mem_cons_self ..))
    obtain ⟨a', b', c'⟩ := pl_items ih ds fun e he => h e (List.mem_cons_of_mem _ he)
    refine ⟨by rw [imms, a, a']; rfl, by rw [toPys, PyData.canLayAll0, b, b']; rfl, by rw [toPys, PyData.depthAll]; omega⟩
theorem Pl.im : ∀ {k : Nat} (d : D), Pl k d → imm d = true ∧ (toPy d).canLay0 = true ∧ (toPy d).depth ≤ k
  | k, .non, h => ⟨by rw [imm] <;> intros <;> contradiction, by rw [toPy, PyData.canLay0], by rw [toPy, PyData.depth]; omega⟩
  | k, .bl _, h => ⟨by rw [imm] <;> intros <;> contradiction, by rw [toPy, PyData.canLay0], by rw [toPy, PyData.depth]; omega⟩
  | k, .int _, h => ⟨by rw [imm] <;> intros <;> contradiction, by rw [toPy, PyData.canLay0], by rw [toPy, PyData.depth]; omega⟩
  | k, .str s, h => by
    rw [Pl] at h
    exact ⟨by rw [imm] <;> intros <;> contradiction, by rw [toPy, PyData.canLay0]; exact h, by rw [toPy, PyData.depth]; omega⟩
  | 0, .tup _, h => by rw [Pl] at h; exact h.elim
  | k + 1, .tup ds, h => by
    obtain ⟨a, b, c⟩ := pl_items (fun d => Pl.im (k := k) d) ds (pl_tup.mp h).2
    exact ⟨by rw [imm]; exact a, by rw [toPy, PyData.canLay0]; exact b, by rw [toPy, PyData.depth]; omega⟩
  | 0, .fl _, h => by rw [Pl] at h; exact h.elim
  | 0, .ref _, h => by rw [Pl] at h; exact h.elim
  | 0, .ty _, h => by rw [Pl] at h; exact h.elim
  | _ + 1, .fl _, h => by rw [Pl] at h; exact h.elim
  | _ + 1, .ref _, h => by rw [Pl] at h; exact h.elim
  | _ + 1, .ty _, h => by rw [Pl] at h; exact h.elim
theorem Pl.all {k : Nat} {ds : List D} (h : ∀ d ∈ ds, Pl k d) : imms ds = true ∧ PyData.canLayAll0 (toPys ds) = true ∧ PyData.depthAll (toPys ds) ≤ k := pl_items (fun d => Pl.im d) ds h
theorem Pl.shp {k : Nat} {d : D} (h : Pl k d) (hk : k ≤ 64) : SeqAt.shaped (toPy d) = true := by
  obtain ⟨_, b, c⟩ := h.im
  unfold SeqAt.shaped
  rw [b, decide_eq_true (by omega)]; rfl
theorem shp_lst {k : Nat} {ds : List D} (h : ∀ d ∈ ds, Pl k d) (hk : k ≤ 63) : SeqAt.shaped (.list (toPys ds)) = true := by
  obtain ⟨_, b, c⟩ := Pl.all h
  unfold SeqAt.shaped
  rw [PyData.canLay0, b, PyData.depth, decide_eq_true (by omega)]; rfl
theorem Pl.refl {k : Nat} {d : D} (h : Pl k d) : PyData.eqv (toPy d) (toPy d) = true := SeqAt.eqv_refl _ h.im.2.1
theorem eqv_refls {k : Nat} {ds : List D} (h : ∀ d ∈ ds, Pl k d) : PyData.eqvAll (toPys ds) (toPys ds) = true := by
  have q := SeqAt.eqv_refl (.list (toPys ds)) (by rw [PyData.canLay0]; exact (Pl.all h).2.1)
  rwa [PyData.eqv] at q
section
variable {G : DG} {Q : DK}
theorem eq_pl {neg : Bool} {k m : Nat} {x y : D} (hx : Pl k x) (hy : Pl m y) (hk : k ≤ 64) (hm : m ≤ 64) (h : Q (.bl (if neg then !PyData.eqv (toPy x) (toPy y) else PyData.eqv (toPy x) (toPy y))) G) : eqD neg x y G Q :=
  eq_imm hx.im.1 hy.im.1 (hx.shp hk) (hy.shp hm) h
theorem eq_pls {neg : Bool} {k m : Nat} {a b : Addr} {xs ys : List D} (ha : G a = some (.lst xs)) (hb : G b = some (.lst ys)) (hx : ∀ d ∈ xs, Pl k d) (hy : ∀ d ∈ ys, Pl m d) (hk : k ≤ 63) (hm : m ≤ 63) (h : Q (.bl (if neg then !PyData.eqvAll (toPys xs) (toPys ys) else PyData.eqvAll (toPys xs) (toPys ys))) G) : eqD neg (.ref a) (.ref b) G Q :=
  eq_lst ha hb (Pl.all hx).1 (Pl.all hy).1 (shp_lst hx hk) (shp_lst hy hm) h
theorem eq_pl0 {k m : Nat} {x y : D} (hx : Pl k x) (hy : Pl m y) (hk : k ≤ 64) (hm : m ≤ 64) (h : Q (.bl (PyData.eqv (toPy x) (toPy y))) G) : eqD false x y G Q := eq_pl hx hy hk hm h
theorem eq_pl1 {k m : Nat} {x y : D} (hx : Pl k x) (hy : Pl m y) (hk : k ≤ 64) (hm : m ≤ 64) (h : Q (.bl (!PyData.eqv (toPy x) (toPy y))) G) : eqD true x y G Q := eq_pl hx hy hk hm h
theorem eq_pls0 {k m : Nat} {a b : Addr} {xs ys : List D} (ha : G a = some (.lst xs)) (hb : G b = some (.lst ys)) (hx : ∀ d ∈ xs, Pl k d) (hy : ∀ d ∈ ys, Pl m d) (hk : k ≤ 63) (hm : m ≤ 63) (h : Q (.bl (PyData.eqvAll (toPys xs) (toPys ys))) G) : eqD false (.ref a) (.ref b) G Q := eq_pls ha hb hx hy hk hm h
theorem eq_pls1 {k m : Nat} {a b : Addr} {xs ys : List D} (ha : G a = some (.lst xs)) (hb : G b = some (.lst ys)) (hx : ∀ d ∈ xs, Pl k d) (hy : ∀ d ∈ ys, Pl m d) (hk : k ≤ 63) (hm : m ≤ 63) (h : Q (.bl (!PyData.eqvAll (toPys xs) (toPys ys))) G) : eqD true (.ref a) (.ref b) G Q := eq_pls ha hb hx hy hk hm h
theorem cut2 {α : Type} {a b : α} {r : List α} : cutD (a :: b :: r) none (some 2) = [a, b] := cut_hi (k := 2)
theorem isi_ {x : D} {n : String} {b : Bool} (h : isi1 G x (.ty n) = some b) : isiD [x, .ty n] G Q = Q (.bl b) G := by
  show (match isi1 G x (.ty n) with | some b => Q (.bl b) G | Option.none => False) = _
  rw [h]
theorem isis_ {x : D} {cs : List D} {b : Bool} (h : isiAny G x cs = some b) (h1 : allTy cs = true) (h2 : cs ≠ []) : isiD [x, .tup cs] G Q = Q (.bl b) G := by
  show ((allTy cs = true ∧ cs ≠ []) ∧ match isiAny G x cs with | some b => Q (.bl b) G | Option.none => False) = _
  rw [h]
  exact propext ⟨fun h => h.2, fun h => ⟨⟨h1, h2⟩, h⟩⟩
theorem isi1_of {x : D} {n : String} {a c : Ty} (h : tyD G x = some a) (hn : Ty.of n = some c) : isi1 G x (.ty n) = some (Ty.isa a c) := by
  unfold isi1
  rw [h]
  show (Ty.of n).map (Ty.isa a) = _
  rw [hn]; rfl
theorem isi_ty {x : D} {n : String} {a c : Ty} (h : tyD G x = some a) (hn : Ty.of n = some c) : isiD [x, .ty n] G Q = Q (.bl (Ty.isa a c)) G := isi_ (isi1_of h hn)
theorem isi_ty2 {x : D} {n m : String} {a c e : Ty} (h : tyD G x = some a) (hn : Ty.of n = some c) (hm : Ty.of m = some e) : isiD [x, .tup [.ty n, .ty m]] G Q = Q (.bl (Ty.isa a c || Ty.isa a e)) G := by
  refine isis_ ?_ rfl (by simp)
  rw [isiAny, isi1_of h hn, isiAny, isi1_of h hm, isiAny]
  cases Ty.isa a c <;> cases Ty.isa a e <;> rfl
theorem ty_bool : Ty.of "bool" = some .bool := by decide
theorem ty_int : Ty.of "int" = some .int := by decide
theorem ty_str : Ty.of "str" = some .str := by decide
theorem ty_tuple : Ty.of "tuple" = some .tuple := by decide
theorem ty_list : Ty.of "list" = some .list := by decide
theorem tyd_lst {a : Addr} {xs : List D} (h : G a = some (.lst xs)) : tyD G (.ref a) = some .list := by
  show (match G a with | some (.lst _) => some Ty.list | _ => Option.none) = _
  rw [h]
/-- the type of a plain leaf -/
theorem pl_ty {k : Nat} {d : D} (h : Pl k d) : ∃ a, tyD G d = some a ∧ a ≠ .list := by
  cases d with
  | non => exact ⟨_, rfl, by decide⟩
  | bl b => exact ⟨_, rfl, by decide⟩
  | int b => exact ⟨_, rfl, by decide⟩
  | str b => exact ⟨_, rfl, by decide⟩
  | tup b => exact ⟨_, rfl, by decide⟩
  | fl b => cases k <;> rw [Pl] at h <;> exact h.elim
  | ref b => cases k <;> rw [Pl] at h <;> exact h.elim
  | ty b => cases k <;> rw [Pl] at h <;> exact h.elim
theorem all_true {a : Addr} {n : Nat} (h : G a = some (.lst (List.replicate n (.bl true)))) (q : Q (.bl true) G) : allD [.ref a] G Q := by
  refine ⟨List.replicate n true, by rw [List.map_replicate]; exact h, ?_⟩
  rw [show (List.replicate n true).all id = true from List.all_eq_true.mpr fun x hx => by rw [List.eq_of_mem_replicate hx]; rfl]
  exact q
end
end FD

/-! FD13: data as keys: dedupe by a dict, sort by a key. -/
namespace FD
open PySem L2
/-- plain data without truth values, of at most k levels -/
def Pk : Nat → D → Prop
  | _, .non => True
  | _, .bl _ => False
  | _, .int _ => True
  | _, .str s => PyData.strOk s = true
  | 0, .tup _ => False
  | k + 1, .tup ds => ds.length ≤ sizeLine ∧ ∀ d ∈ ds, Pk k d
  | _, .fl _ => False
  | _, .ref _ => False
  | _, .ty _ => False
theorem pk_tup {k : Nat} {ds : List D} : Pk (k + 1) (.tup ds) ↔ ds.length ≤ sizeLine ∧ ∀ d ∈ ds, Pk k d := by rw [Pk]
theorem pk_str {k : Nat} {s : Str} : Pk k (.str s) ↔ PyData.strOk s = true := by cases k <;> rw [Pk]
theorem pk_non {k : Nat} : Pk k .non := by cases k <;> rw [Pk] <;> trivial
theorem pk_int {k : Nat} {i : Int} : Pk k (.int i) := by cases k <;> rw [Pk] <;> trivial
theorem Pk.no {k : Nat} {d : D} (h : Pk k d) : (∃ ds, d = .tup ds) ∨ d = .non ∨ (∃ i, d = .int i) ∨ ∃ s, d = .str s ∧ PyData.strOk s = true := by
  cases d with
  | tup ds => exact .inl ⟨ds, rfl⟩
  | non => exact .inr (.inl rfl)
  | int i => exact .inr (.inr (.inl ⟨i, rfl⟩))
  | str s => exact .inr (.inr (.inr ⟨s, rfl, pk_str.mp h⟩))
  | bl _ => cases k <;> rw [Pk] at h <;> exact h.elim
  | fl _ => cases k <;> rw [Pk] at h <;> exact h.elim
  | ref _ => cases k <;> rw [Pk] at h <;> exact h.elim
  | ty _ => cases k <;> rw [Pk] at h <;> exact h.elim
theorem Pk.pl : ∀ {k : Nat} {d : D}, Pk k d → Pl k d
  | 0, d, h => by
    rcases h.no with ⟨ds, rfl⟩ | rfl | ⟨i, rfl⟩ | ⟨s, rfl, e⟩
    · rw [Pk] at h; exact h.elim
    · rw [Pl]; trivial
    · rw [Pl]; trivial
    · rw [Pl]; exact e
  | k + 1, d, h => by
    rcases h.no with ⟨ds, rfl⟩ | rfl | ⟨i, rfl⟩ | ⟨s, rfl, e⟩
    · obtain ⟨a, b⟩ := pk_tup.mp h
      exact pl_tup.mpr ⟨a, fun d hd => (b d hd).pl⟩
    · rw [Pl]; trivial
    · rw [Pl]; trivial
    · rw [Pl]; exact e
theorem pk_keys {k : Nat} (ih : ∀ d, Pk k d → ∃ n, nkey d = some n ∧ n.depth ≤ k) : ∀ ds : List D, (∀ d ∈ ds, Pk k d) → ∃ ns, nkeys ds = some ns ∧ NestedKey.depthAll ns ≤ k
  | [], _ => ⟨[], by rw [nkeys], by rw [NestedKey.depthAll]; omega⟩
  | d :: ds, h => by
    obtain ⟨n, e, a⟩ := ih d (h d (List.mem_cons_self ..))
    obtain ⟨ns, e', a'⟩ := pk_keys ih ds fun x hx => h x (List.mem_cons_of_mem _ hx)
    exact ⟨n :: ns, by rw [nkeys, e, e'], by rw [NestedKey.depthAll]; omega⟩
theorem Pk.key : ∀ {k : Nat} (d : D), Pk k d → ∃ n, nkey d = some n ∧ n.depth ≤ k
  | 0, d, h => by
    rcases h.no with ⟨ds, rfl⟩ | rfl | ⟨i, rfl⟩ | ⟨s, rfl, e⟩
    · rw [Pk] at h; exact h.elim
    · exact ⟨_, by rw [nkey], by rw [NestedKey.depth]; omega⟩
    · exact ⟨_, by rw [nkey], by rw [NestedKey.depth]; omega⟩
    · exact ⟨_, by rw [nkey], by rw [NestedKey.depth]; omega⟩
  | k + 1, d, h => by
    rcases h.no with ⟨ds, rfl⟩ | rfl | ⟨i, rfl⟩ | ⟨s, rfl, e⟩
    · obtain ⟨ns, e, a⟩ := pk_keys (fun d => Pk.key (k := k) d) ds (pk_tup.mp h).2
      exact ⟨.tup ns, by rw [nkey, e]; rfl, by rw [NestedKey.depth]; omega⟩
    · exact ⟨_, by rw [nkey], by rw [NestedKey.depth]; omega⟩
    · exact ⟨_, by rw [nkey], by rw [NestedKey.depth]; omega⟩
    · exact ⟨_, by rw [nkey], by rw [NestedKey.depth]; omega⟩
theorem pk_injs {k : Nat} (ih : ∀ a b, Pk k a → Pk k b → nkey a = nkey b → a = b) : ∀ as bs : List D, (∀ d ∈ as, Pk k d) → (∀ d ∈ bs, Pk k d) → nkeys as = nkeys bs → as = bs
  | [], [], _, _, _ => rfl
  | [], b :: bs, _, hb, e => by
    obtain ⟨ns, e', _⟩ := pk_keys (fun d => Pk.key d) (b :: bs) hb
    obtain ⟨n, q, _⟩ := Pk.key b (hb b (List.mem_cons_self ..))
    obtain ⟨m, q', _⟩ := pk_keys (fun d => Pk.key d) bs fun x hx => hb x (List.mem_cons_of_mem _ hx)
    rw [nkeys, nkeys, q, q'] at e
    cases e
  | b :: bs, [], hb, _, e => by
    obtain ⟨n, q, _⟩ := Pk.key b (hb b (List.mem_cons_self ..))
    obtain ⟨m, q', _⟩ := pk_keys (fun d => Pk.key d) bs fun x hx => hb x (List.mem_cons_of_mem _ hx)
    rw [nkeys, nkeys, q, q'] at e
    cases e
  | a :: as, b :: bs, ha, hb, e => by
    obtain ⟨n, q, _⟩ := Pk.key b (hb b (List.mem_cons_self ..))
    obtain ⟨m, q', _⟩ := pk_keys (fun d => Pk.key d) bs fun x hx => hb x (List.mem_cons_of_mem _ hx)
    obtain ⟨n2, q2, _⟩ := Pk.key a (ha a (List.mem_cons_self ..))
    obtain ⟨m2, q2', _⟩ := pk_keys (fun d => Pk.key d) as fun x hx => ha x (List.mem_cons_of_mem _ hx)
    rw [nkeys, nkeys, q, q', q2, q2'] at e
    injection e with e
    injection e with e1 e2
    rw [ih a b (ha a (List.mem_cons_self ..)) (hb b (List.mem_cons_self ..)) (by rw [q, q2, e1]), pk_injs ih as bs (fun x hx => ha x (List.mem_cons_of_mem _ hx)) (fun x hx => hb x (List.mem_cons_of_mem _ hx)) (by rw [q', q2', e2])]
theorem Pk.inj : ∀ {k : Nat} (a b : D), Pk k a → Pk k b → nkey a = nkey b → a = b
  | k, a, b, ha, hb, e => by
    rcases ha.no with ⟨as, rfl⟩ | rfl | ⟨i, rfl⟩ | ⟨s, rfl, _⟩ <;> rcases hb.no with ⟨bs, rfl⟩ | rfl | ⟨j, rfl⟩ | ⟨t, rfl, _⟩
    · cases k with
      | zero => rw [Pk] at ha; exact ha.elim
      | succ k =>
        have ha' := (pk_tup.mp ha).2
        have hb' := (pk_tup.mp hb).2
        obtain ⟨ns, q, _⟩ := pk_keys (fun d => Pk.key d) as ha'
        obtain ⟨ms, q', _⟩ := pk_keys (fun d => Pk.key d) bs hb'
        rw [nkey, nkey, q, q'] at e
        injection e with e
        injection e with e
        rw [pk_injs (fun a b => Pk.inj (k := k) a b) as bs ha' hb' (by rw [q, q', e])]
    all_goals (try (obtain ⟨n1, q1, _⟩ := Pk.key _ ha; obtain ⟨n2, q2, _⟩ := Pk.key _ hb; first | rfl | (exfalso; cases k with | zero => (first | (rw [Pk] at ha; exact ha.elim) | (rw [Pk] at hb; exact hb.elim) | (simp only [nkey] at e; cases e)) | succ k => (first | (obtain ⟨ns, q, _⟩ := pk_keys (fun d => Pk.key d) _ (pk_tup.mp ha).2; rw [nkey, nkey, q] at e; cases e) | (obtain ⟨ns, q, _⟩ := pk_keys (fun d => Pk.key d) _ (pk_tup.mp hb).2; rw [nkey, nkey, q] at e; cases e) | (simp only [nkey] at e; cases e)))))
    all_goals (rw [nkey, nkey] at e; injection e with e; injection e with e; rw [e])
theorem keq_iff {k : Nat} {a b : D} (ha : Pk k a) (hb : Pk k b) : keq a b = true ↔ a = b := by
  unfold keq
  rw [decide_eq_true_iff]
  exact ⟨fun h => Pk.inj a b ha hb h, fun h => by rw [h]⟩
theorem Pk.ok {k : Nat} {ds : List D} (h : Pk k (.tup ds)) (hk : k ≤ 8) : okKey (.tup ds) = true := by
  obtain ⟨n, e, a⟩ := Pk.key _ h
  unfold okKey
  rw [e]
  show (isTup (.tup ds) && decide (n.depth ≤ 8)) = true
  rw [decide_eq_true (by omega)]; rfl
/-! ### dedupe -/
def ins1 (acc : List D) (x : D) : List D := if acc.any (fun a => keq a x) = true then acc else acc ++ [x]
def ddp : List D → List D → List D
  | acc, [] => acc
  | acc, x :: xs => ddp (ins1 acc x) xs
theorem ins1_mem {acc : List D} {x y : D} (h : y ∈ ins1 acc x) : y ∈ acc ∨ y = x := by
  unfold ins1 at h
  split at h
  · exact .inl h
  · rcases List.mem_append.mp h with h | h
    · exact .inl h
    · exact .inr (List.mem_singleton.mp h)
theorem ins1_len {acc : List D} {x : D} : (ins1 acc x).length ≤ acc.length + 1 := by
  unfold ins1
  split
  · omega
  · rw [List.length_append]; exact Nat.le_refl _
theorem dput_map {r v : D → D} {acc : List D} {x : D} (h : ∀ a ∈ acc, keq (r a) (r x) = keq a x ∧ (keq a x = true → a = x)) : dput (acc.map fun a => (r a, v a)) (r x) (v x) = (ins1 acc x).map fun a => (r a, v a) := by
  have e : (dget (acc.map fun a => (r a, v a)) (r x)).isSome = acc.any fun a => keq a x := by
    unfold dget
    rw [Option.isSome_map]
    induction acc with
    | nil => rfl
    | cons a acc ih =>
      have ih := ih fun b hb => h b (List.mem_cons_of_mem _ hb)
      have h1 := (h a (List.mem_cons_self ..)).1
      rw [List.map_cons, List.find?_cons, List.any_cons]
      simp only [h1]
      cases keq a x
      · exact ih
      · rfl
  unfold dput ins1
  rw [e]
  cases hq : acc.any fun a => keq a x with
  | false =>
    rw [if_neg (by decide), if_neg (by decide), List.map_append]; rfl
  | true =>
    rw [if_pos rfl, if_pos rfl, List.map_map]
    apply List.map_congr_left
    intro a ha
    show (if keq (r a) (r x) = true then ((r a), v x) else (r a, v a)) = (r a, v a)
    by_cases q : keq (r a) (r x) = true
    · rw [if_pos q]
      rw [(h a ha).2 (by rw [← (h a ha).1]; exact q)]
    · rw [if_neg q]
theorem dget_map {r v : D → D} {acc : List D} {x : D} (hx : x ∈ acc) (h : ∀ a ∈ acc, keq (r a) (r x) = true → a = x) (hr : keq (r x) (r x) = true) : dget (acc.map fun a => (r a, v a)) (r x) = some (v x) := by
  unfold dget
  induction acc with
  | nil => nomatch hx
  | cons a acc ih =>
    rw [List.map_cons, List.find?_cons]
    cases q : keq (r a) (r x) with
    | true =>
      rw [h a (List.mem_cons_self ..) q]
      rfl
    | false =>
      rcases List.mem_cons.mp hx with rfl | hx
      · rw [hr] at q; cases q
      · exact ih hx fun b hb => h b (List.mem_cons_of_mem _ hb)
theorem keq_refl {x : D} : keq x x = true := decide_eq_true rfl
theorem tupKeys_map {r v : D → D} {acc : List D} (h : ∀ a ∈ acc, isTup (r a) = true) : tupKeys (acc.map fun a => (r a, v a)) = true := by
  unfold tupKeys
  rw [List.all_map]
  exact List.all_eq_true.mpr h
/-! ### sorting by a key -/
theorem zip_map_self {r : D → D} : ∀ xs : List D, xs.zip (xs.map r) = xs.map fun x => (x, r x)
  | [] => rfl
  | x :: xs => by rw [List.map_cons, List.zip_cons_cons, List.map_cons, zip_map_self xs]
def srtOn (r : D → D) (xs : List D) : List D := xs.mergeSort fun a b => PySem.W.dataLe false toPy (r a) (r b)
theorem srt_map {r : D → D} {xs : List D} : srt (xs.map r) = (srtOn r xs).map r := by
  unfold srt srtOn
  exact (PySem.W.sort_maps r fun a _ b _ => rfl).symm
theorem srtBy_map {r : D → D} {xs : List D} : srtBy xs (xs.map r) = srtOn r xs := by
  unfold srtBy srtOn
  rw [zip_map_self]
  rw [← PySem.W.sort_maps (r := fun a b => PySem.W.dataLe false toPy (r a) (r b)) (s := PySem.W.dataLe false fun p : D × D => toPy p.2) (fun x => (x, r x)) (fun a _ b _ => rfl), List.map_map]
  exact List.map_id _
theorem srtOn_mem {r : D → D} {xs : List D} {x : D} : x ∈ srtOn r xs ↔ x ∈ xs := List.mem_mergeSort
theorem srtOn_len {r : D → D} {xs : List D} : (srtOn r xs).length = xs.length := List.length_mergeSort _
theorem alike_all : ∀ {xs ys : List PyData}, (∀ x ∈ xs, ∀ y ∈ ys, PySem.W.alike x y = true) → PySem.W.alikeAll xs ys = true
  | [], _, _ => by rw [PySem.W.alikeAll]
  | _ :: _, [], _ => by rw [PySem.W.alikeAll]
  | x :: xs, y :: ys, h => by
    rw [PySem.W.alikeAll, h x (List.mem_cons_self ..) y (List.mem_cons_self ..), alike_all fun a ha b hb => h a (List.mem_cons_of_mem _ ha) b (List.mem_cons_of_mem _ hb)]; rfl
theorem skGo_map {dsp : DSp} {r : D → D} {I : DG → Prop} {Q : List D → DG → Prop} : ∀ (xs ks : List D) (G : DG), (∀ x ∈ xs, ∀ {G : DG} {Q : DK}, I G → (∀ G', I G' → Q (r x) G') → dsp [x] G Q) → I G → (∀ G', I G' → Q (ks ++ xs.map r) G') → skGo dsp xs ks G Q
  | [], ks, G, _, hI, h => by
    have q := h G hI
    rwa [List.map_nil, List.append_nil] at q
  | x :: xs, ks, G, hs, hI, h => by
    show dsp [x] G fun k G' => skGo dsp xs (ks ++ [k]) G' Q
    refine hs x (List.mem_cons_self ..) hI fun G' hI' => ?_
    refine skGo_map xs _ G' (fun y hy => hs y (List.mem_cons_of_mem _ hy)) hI' fun G'' hI'' => ?_
    have q := h G'' hI''
    rwa [List.map_cons, ← List.singleton_append, ← List.append_assoc] at q
theorem popAt_g {l : Addr} {i : Int} {xs : List D} {G : DG} {Q : DK} (e : G l = some (.lst xs)) (h0 : 0 ≤ i) (h1 : i < xs.length) (h2 : xs.length ≤ sizeLine) (k : ∀ y xs' G', y ∈ xs → xs'.length + 1 = xs.length → (∀ x ∈ xs', x ∈ xs) → G' l = some (.lst xs') → Ext l G G' → Q y G') : popAtD (.ref l) [.int i] G Q := by
  have hj : i.toNat < xs.length := by omega
  refine ⟨xs, i.toNat, xs[i.toNat], e, ⟨by omega, by simp only [sizeLine] at h2; omega⟩, ?_, List.getElem?_eq_getElem hj, ?_⟩
  · unfold seqIndex?
    rw [if_neg (by omega : ¬ i < 0)]
    show (if (decide (0 ≤ i) && decide (i < (xs.length : Int))) = true then some i.toNat else none) = some i.toNat
    rw [decide_eq_true h0, decide_eq_true h1]; rfl
  · exact k _ _ _ (List.getElem_mem hj) (by rw [List.length_eraseIdx_of_lt hj]; omega) (fun x hx => List.mem_of_mem_eraseIdx hx) gupd_same ext_upd
theorem okKey_tup {k : D} (h : okKey k = true) : isTup k = true := by
  unfold okKey at h
  rw [Bool.and_eq_true] at h
  exact h.1
theorem ddp_mem {P : D → Prop} : ∀ {xs acc : List D}, (∀ x ∈ acc, P x) → (∀ x ∈ xs, P x) → ∀ x ∈ ddp acc xs, P x
  | [], acc, ha, _, x, h => ha x h
  | y :: xs, acc, ha, hx, x, h => by
    rw [ddp] at h
    refine ddp_mem (fun z hz => ?_) (fun z hz => hx z (List.mem_cons_of_mem _ hz)) x h
    rcases ins1_mem hz with hz | rfl
    · exact ha z hz
    · exact hx z (List.mem_cons_self ..)
theorem ddp_len : ∀ {xs acc : List D}, (ddp acc xs).length ≤ acc.length + xs.length
  | [], acc => by rw [ddp]; exact Nat.le_refl _
  | y :: xs, acc => by
    rw [ddp, List.length_cons]
    have h1 := ddp_len (xs := xs) (acc := ins1 acc y)
    have h2 := ins1_len (acc := acc) (x := y)
    omega
theorem dcGo_ddp {chk : DG → Prop} {g : DGt} {tk tv : DE} {ρ : DSt} {fin : List (D × D) → DG → Prop} {r v : D → D} {P : D → Prop} {I : DG → Prop} (hc : ∀ G, I G → chk G) (hok : ∀ x, P x → okKey (r x) = true) (hk : ∀ a x, P a → P x → keq (r a) (r x) = keq a x ∧ (keq a x = true → a = x)) :
    ∀ (items acc : List D) (G : DG), (∀ d ∈ items, ∀ (G : DG) (K : D → D → DG → Prop), I G → (∀ G', I G' → K (r d) (v d) G') → g d ρ G fun ρ2 G2 => tk ρ2 G2 fun k G4 => tv ρ2 G4 fun u G5 => K k u G5) → I G → (∀ x ∈ items, P x) → (∀ x ∈ acc, P x) → acc.length + items.length ≤ sizeLine →
    (∀ G', I G' → fin ((ddp acc items).map fun a => (r a, v a)) G') → dcGo chk g dYes tk tv ρ fin items (acc.map fun a => (r a, v a)) G
  | [], acc, G, hs, hI, hx, ha, hl, hf => ⟨hc _ hI, hf G hI⟩
  | d :: ds, acc, G, hs, hI, hx, ha, hl, hf => by
    rw [List.length_cons] at hl
    refine ⟨hc _ hI, ?_⟩
    refine hs d (List.mem_cons_self ..) G (fun k u G5 => (tupKeys (acc.map fun a => (r a, v a)) = true ∧ okKey k = true ∧ (acc.map fun a => (r a, v a)).length < sizeLine) ∧ dcGo chk g dYes tk tv ρ fin ds (dput (acc.map fun a => (r a, v a)) k u) G5) hI fun G' hI' => ?_
    have hd := hx d (List.mem_cons_self ..)
    refine ⟨⟨tupKeys_map fun a h => okKey_tup (hok a (ha a h)), hok d hd, by rw [List.length_map]; omega⟩, ?_⟩
    rw [dput_map fun a h => hk a d (ha a h) hd]
    have h2 := ins1_len (acc := acc) (x := d)
    refine dcGo_ddp hc hok hk ds (ins1 acc d) G' (fun e he => hs e (List.mem_cons_of_mem _ he)) hI' (fun x h => hx x (List.mem_cons_of_mem _ h)) (fun x h => ?_) (by omega) hf
    rcases ins1_mem h with h | rfl
    · exact ha x h
    · exact hd
theorem Keep.own {l : Addr} {G0 G G' : DG} (x : Keep G0 G) (h : G0 l = none) (y : Ext l G G') : Keep G0 G' := fun a o e => by
  have q : a ≠ l := fun z => by rw [z, h] at e; cases e
  exact y a o q (x a o e)
theorem setD_g {l : Addr} {k x : D} {kvs : List (D × D)} {G : DG} {Q : DG → Prop} (e : G l = some (.dic kvs)) (h1 : tupKeys kvs = true) (h2 : okKey k = true) (h3 : kvs.length < sizeLine) (h : ∀ G', G' l = some (.dic (dput kvs k x)) → Ext l G G' → Q G') : setDD (.ref l) k x G Q := ⟨kvs, e, h1, h2, h3, h _ gupd_same ext_upd⟩
theorem sorted_g {a : Addr} {xs : List D} {G : DG} {Q : DK} (e : G a = some (.lst xs)) (h : SortOk xs) (k : kNew G (.lst (srt xs)) Q) : sortedD [.ref a] G Q := ⟨xs, e, h, k⟩
theorem Keep.back {p : Addr} {G0 G : DG} (x : Keep G0 G) (h : G p = none) : G0 p = none := by
  cases e : G0 p with
  | none => rfl
  | some o => rw [x p o e] at h; cases h
end FD

/-! FD14: in, ord, str, names of the top that stand for numbers and texts. -/
namespace FD
open PySem PySem.Spec PyProof.Rows L2
/-! ### x in y -/
def inD (neg : Bool) : R2D := fun x y G Q => match y with
  | .str z => match x with
    | .str a => ∃ c, a = ⟨#[c]⟩ ∧ Q (.bl (neg ^^ decide (c ∈ z.cps.toList))) G
    | _ => False
  | .tup _ => ∃ p ps, Py G x p ∧ Py G y (.tuple ps) ∧ SeqAt.shaped p = true ∧ SeqAt.shaped (.tuple ps) = true ∧ Q (.bl (neg ^^ (ps.any fun z => PyData.eqv z p))) G
  | .ref a => ∃ p ps, Py G x p ∧ Py G y (.list ps) ∧ SeqAt.shaped p = true ∧ SeqAt.shaped (.list ps) = true ∧ Q (.bl (neg ^^ (ps.any fun z => PyData.eqv z p))) G
  | _ => False
theorem op_in {X : Cx} (hu : X.A.units + 65 < cLine) : OpR X (compareOp .In) (lowR (bs X) (inD false)) := by
  intro pins s σ H x y v u Q I rx ry h
  obtain ⟨d, e, G, Q', r1, r2, w, h, kk⟩ := h
  cases e with
  | str z =>
    cases d <;> try exact h.elim
    obtain ⟨c, rfl, q⟩ := h
    rw [Bool.false_xor] at q
    exact op_in_sign pins s σ H x y v u Q I rx ry ⟨c, z, rp_str.mp r1, rp_str.mp r2, kk _ _ G H (rp_bl.mpr rfl) w Fm.refl q⟩
  | tup es =>
    obtain ⟨p, ps, h1, h2, s1, s2, q⟩ := h
    rw [Bool.false_xor] at q
    obtain ⟨as, z1⟩ := Dp.reads I _ x v (py_dp w h1 r1) rx
    obtain ⟨bs', z2⟩ := Dp.reads I _ y u (py_dp w h2 r2) ry
    exact SeqAt.in_tuple_reads z2 z1 (by have := SeqAt.canLay_of_shaped s2; rwa [PyData.canLay0] at this) (SeqAt.canLay_of_shaped s1) (room_in_shaped s1 hu) ⟨.bl _, H, I, rfl, kk _ _ G H (rp_bl.mpr rfl) w Fm.refl q⟩
  | ref a =>
    obtain ⟨p, ps, h1, h2, s1, s2, q⟩ := h
    rw [Bool.false_xor] at q
    obtain ⟨as, z1⟩ := Dp.reads I _ x v (py_dp w h1 r1) rx
    obtain ⟨bs', z2⟩ := Dp.reads I _ y u (py_dp w h2 r2) ry
    exact SeqAt.in_list_reads z2 z1 (by have := SeqAt.canLay_of_shaped s2; rwa [PyData.canLay0] at this) (SeqAt.canLay_of_shaped s1) (room_in_shaped s1 hu) ⟨.bl _, H, I, rfl, kk _ _ G H (rp_bl.mpr rfl) w Fm.refl q⟩
  | non => exact h.elim
  | bl _ => exact h.elim
  | int _ => exact h.elim
  | fl _ => exact h.elim
  | ty _ => exact h.elim
theorem op_notIn {X : Cx} (hu : X.A.units + 65 < cLine) : OpR X (compareOp .NotIn) (lowR (bs X) (inD true)) := by
  intro pins s σ H x y v u Q I rx ry h
  obtain ⟨d, e, G, Q', r1, r2, w, h, kk⟩ := h
  cases e with
  | str z =>
    cases d <;> try exact h.elim
    obtain ⟨c, rfl, q⟩ := h
    rw [Bool.true_xor] at q
    exact op_notIn_sign pins s σ H x y v u Q I rx ry ⟨c, z, rp_str.mp r1, rp_str.mp r2, kk _ _ G H (rp_bl.mpr rfl) w Fm.refl q⟩
  | tup es =>
    obtain ⟨p, ps, h1, h2, s1, s2, q⟩ := h
    rw [Bool.true_xor] at q
    obtain ⟨as, z1⟩ := Dp.reads I _ x v (py_dp w h1 r1) rx
    obtain ⟨bs', z2⟩ := Dp.reads I _ y u (py_dp w h2 r2) ry
    exact SeqAt.notIn_tuple_reads z2 z1 (by have := SeqAt.canLay_of_shaped s2; rwa [PyData.canLay0] at this) (SeqAt.canLay_of_shaped s1) (room_in_shaped s1 hu) ⟨.bl _, H, I, rfl, kk _ _ G H (rp_bl.mpr rfl) w Fm.refl q⟩
  | ref a =>
    obtain ⟨p, ps, h1, h2, s1, s2, q⟩ := h
    rw [Bool.true_xor] at q
    obtain ⟨as, z1⟩ := Dp.reads I _ x v (py_dp w h1 r1) rx
    obtain ⟨bs', z2⟩ := Dp.reads I _ y u (py_dp w h2 r2) ry
    exact SeqAt.notIn_list_reads z2 z1 (by have := SeqAt.canLay_of_shaped s2; rwa [PyData.canLay0] at this) (SeqAt.canLay_of_shaped s1) (room_in_shaped s1 hu) ⟨.bl _, H, I, rfl, kk _ _ G H (rp_bl.mpr rfl) w Fm.refl q⟩
  | non => exact h.elim
  | bl _ => exact h.elim
  | int _ => exact h.elim
  | fl _ => exact h.elim
  | ty _ => exact h.elim
theorem room65 {k : Nat} {A : Around} (h : Room k A) : A.units + 65 < cLine := by
  have h1 := h.un
  omega
section
variable {X : Cx} {pos p p2 : Pos} {a b e : Expr} {es : List Expr} {da db : DE} {t : DA} {k : Nat}
theorem pd_in (hu : Room k X.A) (ha : PD X a da) (hb : PD X b db) (hm : behindInMarks .In b = false := by rfl) : PD X (.Compare a [.In] [b] pos) (dOp (inD false) da db) := pd_cmp (op_in (room65 hu)) lowR_lk ha hb hm
theorem pd_notin (hu : Room k X.A) (ha : PD X a da) (hb : PD X b db) (hm : behindInMarks .NotIn b = false := by rfl) : PD X (.Compare a [.NotIn] [b] pos) (dOp (inD true) da db) := pd_cmp (op_notIn (room65 hu)) lowR_lk ha hb hm
theorem pdt_in (hu : Room k X.A) (ha : PD X a da) (hb : PD X b db) (hm : behindInMarks .In b = false := by rfl) : PDT X (.Compare a [.In] [b] pos) (dBool (dOp (inD false) da db)) := pdt_cmp (op_in (room65 hu)) lowR_lk ha hb hm
theorem pdt_notin (hu : Room k X.A) (ha : PD X a da) (hb : PD X b db) (hm : behindInMarks .NotIn b = false := by rfl) : PDT X (.Compare a [.NotIn] [b] pos) (dBool (dOp (inD true) da db)) := pdt_cmp (op_notIn (room65 hu)) lowR_lk ha hb hm
/-! ### ord(c), str(i) -/
def ordC : RCD := fun ds G Q => match ds with
  | [.str x] => x.length = 1 ∧ Q (.int (x.cps.getD 0 0 : Nat)) G
  | _ => False
def strC : RCD := fun ds G Q => match ds with
  | [.int i] => i.natAbs.log2 < 1920 ∧ Q (.str (toString i)) G
  | [.str s] => Q (.str s) G
  | _ => False
theorem lk_ord1 {B : Bs} : LkCl B (fun xs H Q => ∃ x, xs = [.str x] ∧ x.length = 1 ∧ Q (.int (x.cps.getD 0 0 : Nat)) H) ordC := fun ds vs G H Q R r w h k => by
  match ds, h with
  | [.str x], h =>
    obtain ⟨v, rfl, rv⟩ := r.one
    exact ⟨x, by rw [rp_str.mp rv], h.1, k _ _ G H (rp_int.mpr rfl) w Fm.refl h.2⟩
theorem call_strC : CallR X (.type "str") (lowCl (bs X) strC) := by
  intro pins s σ H xs us Q I r h
  obtain ⟨ds, G, Q', rl, w, h, kk⟩ := h
  match ds, h with
  | [.int i], h =>
    obtain ⟨v, rfl, rv⟩ := rl.one
    exact call_str_int pins s σ H _ us Q I r ⟨i, by rw [rp_int.mp rv], h.1, kk _ _ G H (rp_str.mpr rfl) w Fm.refl h.2⟩
  | [.str x], h =>
    obtain ⟨v, rfl, rv⟩ := rl.one
    exact SkE.call_str_str pins s σ H _ us Q I r ⟨x, by rw [rp_str.mp rv], kk _ _ G H (rp_str.mpr rfl) w Fm.refl h⟩
theorem pd_ord (hg : Gl X "ord") (hm : X.mg "ord" = none) (ha : PDA X (e :: es) t) (he : starEach (e :: es) X.env = (false, eval e X.env) :: starEach es X.env := by rfl) (hpl : (backTo pos (starEach es X.env)).any (·.1) = false := by rfl) :
    PD X (.Call (.Name "ord" p) (e :: es) [] pos) (dCB ordC t) := pd_callB call_ord lk_ord1 hg hm (by decide +kernel) ha (by decide) (by decide) he hpl
theorem pd_str1 (hg : Gl X "str") (hm : X.mg "str" = none) (ha : PDA X (e :: es) t) (he : starEach (e :: es) X.env = (false, eval e X.env) :: starEach es X.env := by rfl) (hpl : (backTo pos (starEach es X.env)).any (·.1) = false := by rfl) :
    PD X (.Call (.Name "str" p) (e :: es) [] pos) (dCB strC t) := pd_callTy call_strC lowCl_lk hg hm (by decide +kernel) ha (by decide) (by decide) he hpl
/-! ### names of the top -/
theorem pd_gi {i : Int} {x : Str} (hg : Gl X x) (h : ∃ u, X.mg x = some u ∧ RelV (.int i) u) (hd : (x == ("__debug__" : Str)) = false := by decide) : PD X (.Name x pos) (dC (.int i)) :=
  by
  obtain ⟨u, h, r⟩ := h
  exact pd_gint hg h r hd
theorem pd_gs {z : Str} {x : Str} (hg : Gl X x) (h : ∃ u, X.mg x = some u ∧ RelV (.str z) u) (hd : (x == ("__debug__" : Str)) = false := by decide) : PD X (.Name x pos) (dC (.str z)) :=
  by
  obtain ⟨u, h, r⟩ := h
  exact pd_gstr hg h r hd
end
end FD

/-! FD15: set comprehensions whose members are tuples, len of such a set. -/
namespace FD
open PySem PySem.Spec PyProof.Rows L2
def sput (ds : List D) (d : D) : List D := if ds.any (fun a => keq a d) = true then ds else ds ++ [d]
theorem rawS_new {B : Bs} {h' : Heap} {a : Addr} {L : List (Addr × NestedKey)} {H' : Hp} (m : RawS B a L h') : ObjOk B.P B.w H' h' a (.ext (RawS B a L)) := by
  have m0 := m
  obtain ⟨es, ep, t, ⟨o, q1, q2, q3⟩, q4⟩ := m
  refine ⟨m0, ⟨o, q1⟩, fun h1 h2 z k => ?_⟩
  obtain ⟨es', ep', t', ⟨o', z1, z2⟩, z3⟩ := z
  exact ⟨es', ep', t', ⟨o', k _ z1, z2⟩, z3⟩
/-- what the heap holds of a set of the store -/
theorem sn_of {X : Cx} {pins : List (Addr × Obj)} {σ : L2.St} {H : Hp} {s : Shared} (I : Inv X pins σ H s) {a : Addr} {ds : List D} (h : OkSn (bs X) H a ds) :
    ∃ L L' es ep t, H a = some (.ext (RawS (bs X) a L)) ∧ SetN X.prog X.w s.heap a L es ep t ∧ L.Perm L' ∧ Paired (SRel X.K H) ds L' := by
  obtain ⟨L, L', e, nd, hl, pm, pr⟩ := h
  obtain ⟨es, ep, t, ob, rows, tab, led, m7⟩ := (I.hok a _ e).1
  refine ⟨L, L', es, ep, t, e, ⟨ob, rows, tab, nd, fun p hp => ?_, led, m7, hl⟩, pm, pr⟩
  have hp' := pm.mem_iff.mp hp
  have go : ∀ {ds : List D} {L' : List (Addr × NestedKey)}, Paired (SRel X.K H) ds L' → p ∈ L' → ∃ d, SRel X.K H d p := fun pr => by
    induction pr with
    | nil => intro z; cases z
    | cons r _ ih =>
      intro z
      rcases List.mem_cons.mp z with rfl | z
      · exact ⟨_, r⟩
      · exact ih z
  obtain ⟨d, en, hd, _, r⟩ := go pr hp'
  exact ⟨nk_is I d _ _ p.2 en r rfl, hd⟩
theorem sput_rel {K : PySem.W.Frag} {H : Hp} {d : D} {q : Addr × NestedKey} (hd : SRel K H d q) {ds : List D} {L L' L1 : List (Addr × NestedKey)} (pm : L.Perm L') (pr : Paired (SRel K H) ds L') (h1 : q.2 ∈ L.map (·.2) → L1 = L) (h2 : q.2 ∉ L.map (·.2) → L1.Perm (q :: L)) :
    ∃ L2, L1.Perm L2 ∧ Paired (SRel K H) (sput ds d) L2 := by
  have any_iff : ∀ {ds : List D} {L' : List (Addr × NestedKey)}, Paired (SRel K H) ds L' → ((ds.any fun a => keq a d) = true ↔ q.2 ∈ L'.map (·.2)) := fun pr => by
    induction pr with
    | nil => simp
    | @cons a b _ _ r _ ih =>
      rw [List.any_cons, List.map_cons, List.mem_cons, Bool.or_eq_true, ih]
      have : keq a d = true ↔ q.2 = b.2 := by
        unfold keq
        rw [decide_eq_true_iff, r.1, hd.1]
        exact ⟨fun z => (Option.some.inj z).symm, fun z => by rw [z]⟩
      rw [this]
  have snoc : ∀ {ds : List D} {L' : List (Addr × NestedKey)}, Paired (SRel K H) ds L' → Paired (SRel K H) (ds ++ [d]) (L' ++ [q]) := fun pr => by
    induction pr with
    | nil => exact .cons hd .nil
    | cons r _ ih => exact .cons r ih
  unfold sput
  by_cases hm : q.2 ∈ L.map (·.2)
  · rw [if_pos ((any_iff pr).mpr ((pm.map (·.2)).mem_iff.mp hm)), h1 hm]
    exact ⟨L', pm, pr⟩
  · rw [if_neg fun z => hm ((pm.map (·.2)).mem_iff.mpr ((any_iff pr).mp z))]
    refine ⟨L' ++ [q], (h2 hm).trans ?_, snoc pr⟩
    exact (List.Perm.cons q pm).trans (List.perm_append_singleton q L').symm
theorem sput_len (ds : List D) (d : D) : (sput ds d).length ≤ ds.length + 1 := by
  unfold sput
  split
  · omega
  · rw [List.length_append]; exact Nat.le_refl _
/-- a member is put into the set at a, which nobody else sees yet -/
def rSs (B : Bs) (a : Addr) (y : V) (H : Hp) (Q : Hp → Prop) : Prop := ∃ d ds, Rp B.K H d y ∧ OkO B H a (.set ds) ∧ (okKey d = true ∧ ds.length ≤ 3) ∧
  ∀ H', OkO B H' a (.set (sput ds d)) → (∀ b, b ≠ a → H' b = H b) → Q H'
theorem ss_run {X : Cx} {pins : List (Addr × Obj)} {σ : L2.St} {H : Hp} {s : Shared} {E : Value → Shared → Prop} {a : Addr} {y : V} {u : Value} {n : Nat} {Q : Hp → Prop} {P : Value → Shared → Prop} (hr : Room n X.A) (I : Inv X pins σ H s) (ry : RelV y u)
    (h : rSs (bs X) a y H Q) (fin : ∀ z s' H', Inv X pins σ H' s' → Q H' → P z s') : wpAny (model X.prog X.w) X.A (call (.builtin "set.add") [.ref a, u]) P E s := by
  obtain ⟨d, ds, r1, ok, ⟨hk, hl⟩, q⟩ := h
  obtain ⟨hk1, k, en, hd⟩ := okKey_of hk
  obtain ⟨b, rfl⟩ := tup_ref hk1 r1
  cases (show u = Value.ref b from ry)
  obtain ⟨L, L', es, ep, t, e, S, pm, pr⟩ := sn_of I ok
  have hLl : L.length = ds.length := by rw [pm.length_eq]; exact (Paired.length pr).symm
  have hx : KeyAt X.prog X.w s.heap k b := ⟨nk_is I d _ _ k en r1 rfl, hd⟩
  have hT : s.TypeIs (.ref a) "set" := by
    obtain ⟨o, ho, hex, _⟩ := S.ob
    exact ⟨o, ho, hex.1⟩
  have hu : X.A.in1.units + 8 < cLine := by
    have h1 := hr.units
    show X.A.units + 1 + 8 < cLine
    omega
  refine wpAny_call_entry F.slot_set_add hT F.entry_set_add ?_ (F.args_set_add_2 _ _)
  unfold Builtin.«set.add» Builtin.Frozenset.oneOther
  simp only [List.isEmpty_nil, bind_assoc]
  unfold Builtin.Frozenset.addrOf setAdd
  refine wpAny_bind (wpAny_pure ?_)
  try dsimp only
  refine wpAny_bind (wpAny_pure ?_)
  try dsimp only
  refine wpAny_bind (wpAny_holding (wpAny_bind ((nestedKind X.prog X.w).pyHash hu hx ?_)))
  refine addN (s := { s with toks := s.toks + (nestedKind X.prog X.w).draws k }) S hx hu (by omega) fun z h' L1 es' ep' t' sb S' h1 h2 => ?_
  show wpAny _ _ (ret Value.none) _ _ _
  refine wpAny_pure ⟨_, rfl, ?_⟩
  have raw : RawS (bs X) a L1 h' := ⟨es', ep', t', S'.ob, S'.rows, S'.tab, S'.led, S'.m7⟩
  have I' : Inv X pins σ (L2.upd H a (.ext (RawS (bs X) a L1))) { s with heap := h', toks := s.toks + (nestedKind X.prog X.w).draws k } :=
    I.write (e := a) (t' := s.toks + (nestedKind X.prog X.w).draws k) (by rw [e]; trivial) (.inl rfl) (fun c o hc ho => (sb.2 c hc).trans ho) (let ⟨o, ho, _⟩ := S'.ob; ⟨o, ho⟩) (rawS_new (B := bs X) raw)
  refine fin _ _ _ I' (q _ ?_ fun c hc => upd_ne hc)
  have w : Wld (bs X) (fun c => if c = a then some (.set ds) else none) H := fun c o z => by
    have z : (if c = a then some (DO.set ds) else none) = some o := z
    by_cases hc : c = a
    · subst hc
      rw [if_pos rfl] at z
      cases z
      exact ok
    · rw [if_neg hc] at z
      cases z
  have eg : (fun c => if c = a then some (DO.set ds) else none) a = some (.set ds) := if_pos rfl
  have hdt : ∃ es, d = .tup es := by
    cases d with
    | tup es => exact ⟨es, rfl⟩
    | _ => cases hk1
  have kp : Kp X.K H (L2.upd H a (.ext (RawS (bs X) a L1))) := kp_set w eg
  obtain ⟨L2', p2, r2⟩ := sput_rel (K := X.K) (H := L2.upd H a (.ext (RawS (bs X) a L1))) (d := d) (q := (b, k)) ⟨en, hd, hdt, r1.mono kp⟩ pm (paired_mono (fun p q h => ⟨h.1, h.2.1, h.2.2.1, h.2.2.2.mono kp⟩) pr) h1 h2
  exact ⟨L1, L2', upd_same, S'.nd, S'.few, p2, r2⟩
theorem sn_fresh {B : Bs} {h : Heap} : RawS B h.objs.size [] (h.push { cls := .type "set", dict := none, data := .set #[] 0 (.fresh 0 0 (!B.w.params.followText "set-order")) }) := by
  have S := setTR_fresh (P := B.P) (w := B.w) (Heap.get?_push_size h rfl : (h.push { cls := .type "set", dict := none, data := .set #[] 0 (.fresh 0 0 (!B.w.params.followText "set-order")) }).get? h.objs.size = some _)
  exact ⟨_, _, _, S.ob, rfl, S.tab, S.led, rfl⟩
section
variable {X : Cx}
/-- {m for target in iter if ..} -/
def tSn (B : Bs) (wi : TI) (g : TG) (tt : TT) (te : TE) (vs : List Nat) : TE := fun σ H Q => wi σ H fun J H1 => ∀ a, H1 a = none → ∃ W : Nat → Nat → Hp → Prop, (∃ m, W 0 m (L2.upd H1 a (.ext (RawS B a [])))) ∧ ∀ i m H, W i m H →
  (J.stop i H ∧ Q (.ref a) H) ∨ (J.go i H ∧ ∃ Nx : Hp → Prop, (∀ H', Nx H' → ∃ m', m' < m ∧ W (i + 1) m' H') ∧ ∀ x H', J.yld i H x H' → g x (wipe σ vs) H' fun σ2 H2 => wipe σ2 vs = wipe σ vs ∧ tt σ2 H2 fun b H3 =>
    if b = true then te σ2 H3 fun y H4 => rSs B a y H4 Nx else Nx H3)
theorem pe_sn {n : Nat} {elt tg iter : Expr} {ifs : List Expr} {scope : Scope} {own : List (Str × Nat)} {pos : Pos} {wi : TI} {g : TG} {tt : TT} {te : TE} (hr : Room n X.A) (hc : X.calm = true) (hN : X.N.Nodup) (hi : PI X tg iter wi) (ok : BlkOk X.N X.env.scope scope own)
    (hg : ∀ (s : Shared) (H : Hp) (C : Addr) (cl : List (Str × Addr)) (fp : List Addr), PG (X.blk s H scope (compEnvC scope cl C X.env) fp) tg g)
    (ht : ∀ (s : Shared) (H : Hp) (C : Addr) (cl : List (Str × Addr)) (fp : List Addr), PTs (X.blk s H scope (compEnvC scope cl C X.env) fp) ifs tt)
    (he : ∀ (s : Shared) (H : Hp) (C : Addr) (cl : List (Str × Addr)) (fp : List Addr), PE (X.blk s H scope (compEnvC scope cl C X.env) fp) elt te) (hs : ∀ x, foldedSetIterable iter X.env x = pure x := by intro _; rfl) :
    PE X (.SetComp elt [⟨tg, iter, ifs, 0⟩] scope pos) (tSn (bs X) wi g tt te (own.map (·.2))) := by
  refine ⟨fun pins s σ H Q I h => ?_⟩
  rw [PpSet.eval_SetComp]
  have hfree : ∀ y ∈ scope.names, y.2 = .free → ∃ c, X.env.cells.lookup y.1 = some c := fun y hy e => (ok.free y hy e).elim (fun k => I.ok.has _ (.inl k)) fun k => I.ok.has _ (.inr k)
  refine wpAny_comprehension_free (use := none) rfl hs (closure_ok hfree) ok.kind (fun y hy e => by rw [ok.uniq y hy, e]) (thn (hi.run pins s σ H _ I h) fun xv s1 hx => thn hx fun itv s2 h2 => ?_)
  obtain ⟨it, fp, tn, J, H2, e, I2, T, st2, f2, q⟩ := h2
  subst e
  refine PpSet.newSet_ok (newEnv_comp ?_)
  generalize hD : s2.heap.objs.size = a
  have hDn : H2 a = none := I2.hok.fresh (Nat.le_of_eq hD)
  obtain ⟨W, ⟨m0, w0⟩, turn⟩ := q a hDn
  generalize hs3 : ({ s2 with heap := s2.heap.push { cls := .type "set", dict := none, data := .set #[] 0 (.fresh 0 0 (!X.w.params.followText "set-order")) } } : Shared) = s3
  have I3 : Inv X pins σ (L2.upd H2 a (.ext (RawS (bs X) a []))) s3 := by
    rw [← hs3, ← hD]
    exact I2.laid (t' := s2.toks) (fun b o e => Heap.get?_push_of_some _ e) (Nat.le_refl _) (rawS_new (B := bs X) sn_fresh)
  have h3 : s3.heap = s2.heap.push { cls := .type "set", dict := none, data := .set #[] 0 (.fresh 0 0 (!X.w.params.followText "set-order")) } := by rw [← hs3]
  have f3 : ∀ b ∈ fp, FpOk X pins (L2.upd H2 a (.ext (RawS (bs X) a []))) b ∧ b < s3.heap.objs.size := fun b hb => by
    obtain ⟨o, e, _⟩ := T.obj _ _ st2 b hb
    have hlt : b < s2.heap.objs.size := Heap.lt_size e
    refine ⟨⟨?_, (f2 b hb).2⟩, by rw [h3, Heap.size_push]; exact Nat.lt_succ_of_lt hlt⟩
    rw [upd_ne (by rw [← hD]; exact Nat.ne_of_lt hlt)]
    exact (f2 b hb).1
  have st3 : tn 0 s3.heap := T.keep _ _ _ st2 fun b _ o e => by rw [h3]; exact Heap.get?_push_of_some _ e
  have I4 := block_start I3 ok hN f3
  generalize hcl : cellsFrom (s3.heap.objs.size + 1) scope.names (cloFrom X.env.cells scope.names []) = cl at I4
  have pg := hg s3 (L2.upd H2 a (.ext (RawS (bs X) a []))) s3.heap.objs.size cl fp
  have pt := ht s3 (L2.upd H2 a (.ext (RawS (bs X) a []))) s3.heap.objs.size cl fp
  have pe := he s3 (L2.upd H2 a (.ext (RawS (bs X) a []))) s3.heap.objs.size cl fp
  have nfp : ∀ b ∈ fp, (L2.upd H2 a (.ext (RawS (bs X) a []))) b = none := fun b hb => (f3 b hb).1.1
  show codeAny _ _ (.compStart (.SetComp elt [⟨tg, iter, ifs, 0⟩] scope pos) 0 (.ref it) (.ref a) (compEnvC scope cl s3.heap.objs.size X.env)) (compPost (model X.prog X.w) X.A X.xe none (EP X pins σ Q) (.ref a) s3.heap.objs.size) { s3 with heap := pushCells (s3.heap.push { cls := .type "dict", data := .dict #[] }) scope.names }
  generalize hce : compEnvC scope cl s3.heap.objs.size X.env = ce at I4 pg pt pe ⊢
  have cL : ce.locals = s3.heap.objs.size := by subst hce; rfl
  generalize hH3 : L2.upd H2 a (.ext (RawS (bs X) a [])) = H3 at I3 I4 pg pt pe w0 nfp f3
  generalize hs4 : ({ s3 with heap := pushCells (s3.heap.push { cls := .type "dict", data := .dict #[] }) scope.names } : Shared) = s4 at I4 ⊢
  have st4 : tn 0 s4.heap := T.keep _ _ _ st3 fun b _ o e => by rw [← hs4]; exact pushCells_keeps _ _ _ _ (Heap.get?_push_of_some _ e)
  have stat : ∀ {σ' : L2.St} {H' : Hp} {s' : Shared}, Inv (X.blk s3 H3 scope ce fp) [] σ' H' s' → (∀ b ∈ fp, H' b = none) → ∀ b ∈ fp, FpOk (X.blk s3 H3 scope ce fp) [] H' b := fun {σ' H' s'} I' hn b hb =>
    ⟨hn b hb, (I'.ok.exf b hb).1, I'.ok.exfs b hb, .inl hb, fun x c e => (I'.ok.exf b hb).2 x c e, fun p hp => absurd (show p ∈ ([] : List (Addr × Obj)) ++ [] from hp) (by simp)⟩
  have loop : codeAny (model X.prog X.w) X.A (.compLoop (.SetComp elt [⟨tg, iter, ifs, 0⟩] scope pos) 0 (.ref it) (.ref a) ce) (compPost (model X.prog X.w) X.A X.xe none (EP X pins σ Q) (.ref a) s3.heap.objs.size) s4 := by
    refine PpSet.compLoopS_any (fun n s' => ∃ i H', Inv (X.blk s3 H3 scope ce fp) [] (wipe σ (own.map (·.2))) H' s' ∧ tn i s'.heap ∧ (∀ b ∈ fp, H' b = none) ∧ W i n H') ?_ m0 ⟨0, H3, I4, st4, nfp, w0⟩
    rintro n s5 ⟨i, H5, I5, st5, n5, w5⟩
    rcases turn i n H5 w5 with ⟨stop, qq⟩ | ⟨go, Nx, hNx, step⟩
    · refine thnF (T.done (X.blk s3 H3 scope ce fp) rfl rfl rfl hc i [] s5 _ H5 (fun _ _ => False) I5 (stat I5 n5) st5 stop) fun r s6 ⟨hr, I6⟩ => ?_
      subst hr
      have I7 : Inv X pins σ H5 s6 := I3.call' (ch := fp) I6.os I6.base I6.hok I6.bare fun b hb => ⟨(f3 b hb).1.2.2.2.1, (f3 b hb).1.2.1, (f3 b hb).1.2.2.2.2.1, (f3 b hb).1.2.2.2.2.2⟩
      have nC : H5 s3.heap.objs.size = none := by
        have z : H5 ce.locals = none := I6.free
        rw [cL] at z
        exact z
      obtain ⟨m, hn, _⟩ := I6.loc
      have hn : s6.heap.Ns ce.locals m := hn
      rw [cL] at hn
      obtain ⟨g0, g1, g2, g3, g4, g5⟩ := I3.fpOk (Nat.le_refl _) nC
      exact ⟨m, hn, fun h'' sb => ⟨.ref a, H5, I7.turned (t' := s6.toks) (fun b o hb e => (sb.2 b hb).trans e) g0 g1 g3 g4 g5, rfl, qq⟩⟩
    · refine thnF (T.item (X.blk s3 H3 scope ce fp) rfl rfl rfl hc i [] s5 _ H5 (fun _ _ => False) I5 (stat I5 n5) st5 go) fun r s6 ⟨u, hr, h6⟩ => ?_
      subst hr
      refine thnF h6 fun _ s7 ⟨x, H7, I7, r7, y7, st7, n7⟩ => ?_
      have I7' := I7.pinned (stat I7 n7) (T.obj _ _ st7)
      refine thnF (pg.run _ s7 _ H7 x u _ I7' r7 (step x H7 y7)) fun _ s8 ⟨σ8, H8, I8, hw8, q8⟩ => ?_
      refine thnF (pt.run _ s8 σ8 H8 _ I8 q8) fun b s9 ⟨H9, I9, q9⟩ => ?_
      have fin : ∀ {s' : Shared} {H' : Hp}, Inv (X.blk s3 H3 scope ce fp) ([] ++ pinsAt fp s7.heap) σ8 H' s' → Nx H' → ∃ m, m < n ∧ ∃ i H', Inv (X.blk s3 H3 scope ce fp) [] (wipe σ (own.map (·.2))) H' s' ∧ tn i s'.heap ∧ (∀ b ∈ fp, H' b = none) ∧ W i m H' := fun {s' H'} I' nx => by
        obtain ⟨m', hm, w'⟩ := hNx H' nx
        have pin' : ∀ b ∈ fp, ∀ o, s7.heap.get? b = some o → s'.heap.get? b = some o ∧ H' b = none := fun b hb o e =>
          let z := I'.pin (b, o) (List.mem_append_right _ (List.mem_append_right _ (mem_pinsAt hb e)))
          ⟨z.1, z.2.1⟩
        have hl : (wipe σ (own.map (·.2))).length = σ8.length := by rw [← hw8, wipe_length]
        refine ⟨m', hm, i + 1, H', (I'.unpinned (pins := [])).weak hl (fun j v e => ?_), T.keep _ _ _ st7 fun b hb o e => (pin' b hb o e).1, fun b hb => ?_, w'⟩
        · rw [← hw8] at e
          exact (wipe_some e).1
        · obtain ⟨o, e, _⟩ := T.obj _ _ st7 b hb
          exact (pin' b hb o e).2
      cases b with
      | false =>
        simp only [Bool.false_eq_true, if_false] at q9 ⊢
        exact fin I9 q9
      | true =>
        simp only [if_true] at q9 ⊢
        refine thnF (pe.run _ s9 σ8 H9 _ I9 q9) fun z s10 ⟨yk, H10, I10, r10, q10⟩ => ?_
        exact ss_run (X := X.blk s3 H3 scope ce fp) hr I10 r10 q10 fun _ s12 H12 I12 nx => fin I12 nx
  exact PpSet.codeAny_compStart_set loop (T.self X.A 0 _ _ _ st4 loop)
end
/-! ### the reading -/
def scGo (chk : DG → Prop) (g : DGt) (tt : DT) (te : DE) (ρ : DSt) (fin : List D → DG → Prop) : List D → List D → DG → Prop
  | [], kvs, G => chk G ∧ fin kvs G
  | d :: ds, kvs, G => chk G ∧ g d ρ G fun ρ2 G2 => tt ρ2 G2 fun b G3 => if b = true then te ρ2 G3 fun k G4 => (okKey k = true ∧ kvs.length ≤ 3) ∧ scGo chk g tt te ρ fin ds (sput kvs k) G4 else scGo chk g tt te ρ fin ds kvs G3
def dSn (di : DI) (g : DGt) (tt : DT) (te : DE) (vs : List Nat) : DE := fun ρ G Q => di ρ G fun it G1 => scGo it.chk g tt te (wipeD ρ vs) (fun kvs G' => ∀ p, G' p = none → Q (.ref p) (G'.upd p (.set kvs))) it.items [] G1
theorem lk_sn {B : Bs} {wi : TI} {di : DI} {g : TG} {dg : DGt} {tt : TT} {dt : DT} {te : TE} {de : DE} {vs : List Nat} (hi : LkI B wi di) (hg : LkC B vs g dg) (ht : LkT B tt dt) (he : LkE B te de) : LkE B (tSn B wi g tt te vs) (dSn di dg dt de vs) := fun ρ σ G H Q R s w h k => by
  refine hi ρ σ G H _ _ s w h fun it J G1 H1 w1 f1 ok q1 => fun Dl hD => ?_
  have kp1 := f1.kp w
  have s1 := (s.mono kp1).wipe vs
  have hG1 : G1 Dl = none := w1.none hD
  refine ⟨fun i m H' => ∃ kvs G', m = it.items.length - i ∧ i ≤ it.items.length ∧ OkO B H' Dl (.set kvs) ∧ G' Dl = none ∧ Wld B G' H' ∧ Fm G1 H1 G' H' ∧ scGo it.chk dg dt de (wipeD ρ vs) (fun kvs G' => ∀ p, G' p = none → Q (.ref p) (G'.upd p (.set kvs))) (it.items.drop i) kvs G',
    ⟨_, [], G1, rfl, Nat.zero_le _, ⟨[], [], upd_same, List.nodup_nil, Nat.zero_le _, .nil, .nil⟩, hG1, wld_hid w1 hD, fm_hid hD, q1⟩, ?_⟩
  rintro i m H' ⟨kvs, G', rfl, hi, ox, hn, w', f', q⟩
  have kp' : Kp B.K H1 H' := f'.kp w1
  obtain ⟨u0, hx, nt, nf⟩ := OkO.live ox
  cases e : it.items.drop i with
  | nil =>
    rw [e] at q
    obtain ⟨c, q⟩ := q
    refine .inl ⟨(ok i G' H' w' kp' c).2 (drop_nil e hi), ?_⟩
    refine k _ _ (G'.upd Dl (.set kvs)) H' (rp_ref.mpr rfl) (fun a o ha => ?_) (f1.trans fun a o ha na => ?_) (q Dl hn)
    · by_cases hd : a = Dl
      · subst hd
        rw [gupd_same] at ha; cases ha
        exact ox
      · rw [gupd_ne hd] at ha
        exact w' a o ha
    · have hd := ne_of_none ha hD
      rw [gupd_ne hd]
      exact f' a o ha na
  | cons d ds =>
    rw [e] at q
    obtain ⟨c, q⟩ := q
    obtain ⟨e1, e2⟩ := drop_get e
    obtain ⟨go, yl⟩ := (ok i G' H' w' kp' c).1 d e1
    have hlt : i < it.items.length := (List.getElem?_eq_some_iff.mp e1).1
    refine .inr ⟨go, fun H2 => ∃ kvs G2, OkO B H2 Dl (.set kvs) ∧ G2 Dl = none ∧ Wld B G2 H2 ∧ Fm G1 H1 G2 H2 ∧ scGo it.chk dg dt de (wipeD ρ vs) (fun kvs G' => ∀ p, G' p = none → Q (.ref p) (G'.upd p (.set kvs))) ds kvs G2, fun H2 q2 => ?_, fun x H2 hy => ?_⟩
    · obtain ⟨kvs2, G2, a1, a3, a4, a5, a6⟩ := q2
      exact ⟨it.items.length - (i + 1), by omega, kvs2, G2, rfl, hlt, a1, a3, a4, a5, by rw [e2]; exact a6⟩
    · obtain ⟨w2, f2, r2⟩ := yl x H2 hy
      have kp2 : Kp B.K H1 H2 := kp'.trans (f2.kp w')
      refine hg d x (wipeD ρ vs) (L2.wipe σ vs) G' H2 _ _ r2 (s1.mono kp2) w2 q fun ρ3 σ3 G3 H3 e3 s3 w3 f3 q3 => ⟨e3.trans (wipe_wipe σ vs), ?_⟩
      refine ht ρ3 σ3 G3 H3 _ _ s3 w3 q3 fun b G4 H4 w4 f4 q4 => ?_
      have f04 : Fm G' H' G4 H4 := f2.trans (f3.trans f4)
      cases b with
      | false =>
        obtain ⟨hx4, hn4⟩ := f04 Dl _ hx hn
        exact ⟨kvs, G4, ox.mono (f04.kp w') (fun u z => by rw [hx] at z; cases z; exact hx4), hn4, w4, f'.trans f04, q4⟩
      | true =>
        refine he ρ3 σ3 G4 H4 _ _ (s3.mono (f4.kp w3)) w4 q4 fun y v G6 H6 r6 w6 f6 q6 => ?_
        have f06 : Fm G' H' G6 H6 := f04.trans f6
        obtain ⟨hx6, hn6⟩ := f06 Dl _ hx hn
        have ox6 : OkO B H6 Dl (.set kvs) := ox.mono (f06.kp w') (fun u z => by rw [hx] at z; cases z; exact hx6)
        refine ⟨y, kvs, r6, ox6, q6.1, fun H7 ok7 same => ?_⟩
        have kpn : Kp B.K H6 H7 := by
          refine ⟨fun a ys z => ?_, fun a ys z => ?_⟩
          · rcases z with (z | ⟨ob, z⟩) | z
            · exact .inl (.inl (by rw [same a (ne_of z hx6 (nt _).symm)]; exact z))
            · exact .inl (.inr ⟨ob, by rw [same a (ne_of z hx6 (nf _ _).symm)]; exact z⟩)
            · exact .inr z
          · rcases z with ⟨ob, z⟩ | z
            · exact .inl ⟨ob, by rw [same a (ne_of z hx6 (nf _ _).symm)]; exact z⟩
            · exact .inr z
        refine ⟨sput kvs y, G6, ok7, hn6, fun a o ha => ?_, fun a o ha na => ?_, q6.2⟩
        · have hd : a ≠ Dl := fun z => by rw [z, hn6] at ha; cases ha
          exact (w6 a o ha).mono kpn fun u z => by rw [same a hd]; exact z
        · have hd := ne_of_none ha hD
          rw [same a hd]
          exact (f'.trans f06) a o ha na
theorem pd_sn {X : Cx} {n : Nat} {elt tg iter : Expr} {ifs : List Expr} {scope : Scope} {own : List (Str × Nat)} {pos : Pos} {di : DI} {g : DGt} {tt : DT} {te : DE} (hr : Room n X.A) (hc : X.calm = true) (hN : X.N.Nodup) (hi : PDI X tg iter di) (ok : BlkOk X.N X.env.scope scope own)
    (hg : ∀ (s : Shared) (H : Hp) (C : Addr) (cl : List (Str × Addr)) (fp : List Addr), PDC (X.blk s H scope (compEnvC scope cl C X.env) fp) (own.map (·.2)) tg g)
    (ht : ∀ (s : Shared) (H : Hp) (C : Addr) (cl : List (Str × Addr)) (fp : List Addr), PDTs (X.blk s H scope (compEnvC scope cl C X.env) fp) ifs tt)
    (he : ∀ (s : Shared) (H : Hp) (C : Addr) (cl : List (Str × Addr)) (fp : List Addr), PD (X.blk s H scope (compEnvC scope cl C X.env) fp) elt te)
    (hs : ∀ x, foldedSetIterable iter X.env x = pure x := by intro _; rfl) :
    PD X (.SetComp elt [⟨tg, iter, ifs, 0⟩] scope pos) (dSn di g tt te (own.map (·.2))) := by
  obtain ⟨wi, pi, li⟩ := hi
  exact ⟨_, pe_sn (g := lowC (bs X) (own.map fun (p : Str × Nat) => p.2) g) (tt := lowT (bs X) tt) (te := lowE (bs X) te) hr hc hN pi ok (fun s H C cl fp => (hg s H C cl fp).low) (fun s H C cl fp => (ht s H C cl fp).low) (fun s H C cl fp => (he s H C cl fp).low) hs, lk_sn li lowC_lk lowT_lk lowE_lk⟩
/-! ### len of it -/
def lenS : RCD := fun ds G Q => match ds with
  | [.ref a] => ∃ xs, G a = some (.set xs) ∧ Q (.int xs.length) G
  | _ => False
theorem call_lenS {X : Cx} : CallR X (.builtin "len") (lowCl (bs X) lenS) := by
  intro pins s σ H xs us Q I r h
  obtain ⟨ds, G, Q', rl, w, h, kk⟩ := h
  match ds, h with
  | [.ref a], ⟨xs', e, q⟩ =>
    obtain ⟨v, rfl, rv⟩ := rl.one
    rw [rp_ref.mp rv] at r
    obtain ⟨u, rfl, ru⟩ := vals1 r
    cases (show u = Value.ref a from ru)
    obtain ⟨L, L', es, ep, t, _, S, pm, pr⟩ := sn_of I (w a _ e)
    obtain ⟨o, ho, hex, hd⟩ := S.ob
    have hn : es.size = xs'.length := by rw [S.size, pm.length_eq]; exact (Paired.length pr).symm
    have few := S.few
    refine call_len_set ho hex hd S.fits (by rw [S.size]; omega) ⟨.int xs'.length, H, I.tok _, ⟨_, by rw [hn]⟩, kk _ _ G H (rp_int.mpr rfl) w Fm.refl q⟩
theorem pd_lenS {X : Cx} {e : Expr} {es : List Expr} {t : DA} {p pos : Pos} (hg : Gl X "len") (hm : X.mg "len" = none) (ha : PDA X (e :: es) t) (he : starEach (e :: es) X.env = (false, eval e X.env) :: starEach es X.env := by rfl) (hpl : (backTo pos (starEach es X.env)).any (·.1) = false := by rfl) :
    PD X (.Call (.Name "len" p) (e :: es) [] pos) (dCB lenS t) := pd_callB call_lenS lowCl_lk hg hm (by decide +kernel) ha (by decide) (by decide) he hpl
end FD

/-! FD16: match statements: texts, names, _, |, and rows of these. -/
namespace FD
open PySem PySem.Spec PyProof.Rows L2
def lowS (B : Bs) (t : DS) : TS := fun F σ H => ∃ ρ G E, RpS B.K H ρ σ ∧ Wld B G H ∧ t E ρ G ∧ KtE B G H E F
theorem lowS_lk {B : Bs} {t : DS} : LkS B (lowS B t) t := fun ρ σ G H E F s w h k => ⟨ρ, G, E, s, w, h, k⟩
section
variable {X : Cx}
theorem PDSs.low {sts : List Stmt} {t : DS} (h : PDSs X sts t) : PSs X sts (lowS (bs X) t) := by
  obtain ⟨te, p, l⟩ := h
  exact ⟨fun pins s σ H F I q => by
    obtain ⟨ρ, G, E, a, b, c, d⟩ := q
    exact p.run pins s σ H F I (l ρ σ G H E F a b c d)⟩
/-! ### patterns -/
abbrev DP := D → DG → (Option (List D) → Prop) → Prop
abbrev DPs := List D → DG → (Option (List D) → Prop) → Prop
/-- how a pattern ends: none, or the values that its names get -/
def PatEnd (X : Cx) (pins : List (Addr × Obj)) (σ : L2.St) (H : Hp) (ns : List Str) (Q : Option (List D) → Prop) (r : Option (List (Str × Value))) (s' : Shared) : Prop :=
  Inv X pins σ H s' ∧ ((r = none ∧ Q none) ∨ ∃ us vs ds, r = some (ns.zip us) ∧ us.length = ns.length ∧ Vals vs us ∧ RpL X.K H ds vs ∧ Q (some ds))
structure PDM (X : Cx) (p : Pattern) (ns : List Str) (t : DP) : Prop where
  run : ∀ (pins : List (Addr × Obj)) (s : Shared) (σ : L2.St) (H : Hp) (G : DG) (d : D) (v : V) (u : Value) (Q : Option (List D) → Prop), Inv X pins σ H s → Wld (bs X) G H → Rp X.K H d v → RelV v u → t d G Q →
    wpAny (model X.prog X.w) X.A (matchPattern p X.env u) (PatEnd X pins σ H ns Q) X.xe s
structure PDMs (X : Cx) (ps : List Pattern) (ns : List Str) (t : DPs) : Prop where
  run : ∀ (pins : List (Addr × Obj)) (s : Shared) (σ : L2.St) (H : Hp) (G : DG) (ds : List D) (vs : List V) (us : List Value) (Q : Option (List D) → Prop), Inv X pins σ H s → Wld (bs X) G H → RpL X.K H ds vs → Vals vs us → ds.length = ps.length → t ds G Q →
    wpAny (model X.prog X.w) X.A (matchEach ps X.env us) (PatEnd X pins σ H ns Q) X.xe s
def mVal (z : Str) : DP := fun x G Q => ∃ p, Py G x p ∧ SeqAt.shaped p = true ∧ PyData.strOk z = true ∧ Q (if PyData.eqv p (.str z) = true then some [] else none)
def mCap : DP := fun x _ Q => Q (some [x])
def mWild : DP := fun _ _ Q => Q (some [])
def mNil : DPs := fun _ _ Q => Q (some [])
def mCons (t : DP) (r : DPs) : DPs := fun ds G Q => match ds with
  | d :: ds => t d G fun o => match o with
    | none => Q none
    | some xs => r ds G fun o2 => match o2 with
      | none => Q none
      | some ys => Q (some (xs ++ ys))
  | [] => False
def mSeq (n : Nat) (t : DPs) : DP := fun x G Q => match x with
  | .tup ds => if ds.length = n then t ds G Q else Q none
  | _ => False
def mFst0 : DP := fun _ _ Q => Q none
def mFst (t r : DP) : DP := fun x G Q => t x G fun o => match o with
  | none => r x G Q
  | some xs => Q (some xs)
theorem pdm_val {k : Nat} {z : Str} {j : Nat} {p1 pos : Pos} (hr : Room k X.A) : PDM X (.MatchValue (.Constant (.str z) j p1) pos) [] (mVal z) := by
  refine ⟨fun pins s σ H G d v u Q I w r rv h => ?_⟩
  obtain ⟨p, hp, sp, sz, q⟩ := h
  refine wpAny_matchPattern_Value (thn ((pe_str (X := X) (x := z)).run pins s σ H (fun y H' => y = .str z ∧ H' = H) I ⟨rfl, rfl⟩) fun y s1 hy => ?_)
  obtain ⟨yv, H1, I1, ry, rfl, rfl⟩ := hy
  refine thn (op_eqD hr.units pins s1 σ H1 v (.str z) u y (fun b H' => b = .bl (PyData.eqv p (.str z)) ∧ H' = H1) I1 rv ry ⟨p, .str z, py_dp w hp r, .str z, sp, by rw [shaped_str]; exact sz, rfl, rfl⟩) fun c s2 hc => ?_
  obtain ⟨bv, H2, I2, rb, rfl, rfl⟩ := hc
  cases (show c = Value.bool _ from rb)
  refine wpAny_truthy_bool ?_
  cases e : PyData.eqv p (.str z) with
  | true =>
    rw [e, if_pos rfl] at q
    exact ⟨I2, .inr ⟨[], [], [], rfl, rfl, .nil, RpL.nil, q⟩⟩
  | false =>
    rw [e, if_neg (by decide)] at q
    exact ⟨I2, .inl ⟨rfl, q⟩⟩
theorem pdm_cap {x : Str} {pos : Pos} : PDM X (.MatchAs none (some x) pos) [x] mCap := by
  refine ⟨fun pins s σ H G d v u Q I w r rv h => wpAny_matchPattern_Capture ⟨I, .inr ⟨[u], [v], [d], rfl, rfl, .cons rv .nil, RpL.cons r RpL.nil, h⟩⟩⟩
theorem pdm_wild {pos : Pos} : PDM X (.MatchAs none none pos) [] mWild := by
  refine ⟨fun pins s σ H G d v u Q I w r rv h => wpAny_matchPattern_Capture ⟨I, .inr ⟨[], [], [], rfl, rfl, .nil, RpL.nil, h⟩⟩⟩
theorem paired_app {α β : Type} {R : α → β → Prop} : ∀ {as as' : List α} {bs bs' : List β}, Paired R as bs → Paired R as' bs' → Paired R (as ++ as') (bs ++ bs')
  | _, _, _, _, .nil, h => h
  | _, _, _, _, .cons r t, h => .cons r (paired_app t h)
theorem pdms_nil : PDMs X [] [] mNil := by
  refine ⟨fun pins s σ H G ds vs us Q I w r rv hl h => ?_⟩
  have e : matchEach [] X.env us = pure (some []) := by cases us <;> rfl
  rw [e]
  exact wpAny_pure ⟨I, .inr ⟨[], [], [], rfl, rfl, .nil, RpL.nil, h⟩⟩
theorem pdms_cons {p : Pattern} {ps : List Pattern} {ns ms : List Str} {t : DP} {r : DPs} (h1 : PDM X p ns t) (h2 : PDMs X ps ms r) (hs : ∀ v vs, matchEach (p :: ps) X.env (v :: vs) = (do
      match ← holding (v :: vs) (matchPattern p X.env v) with
      | none => pure none
      | some bs =>
        match ← holding (bs.map (·.2)) (matchEach ps X.env vs) with
        | none => pure none
        | some more => pure (some (bs ++ more))) := by intro _ _; rfl) : PDMs X (p :: ps) (ns ++ ms) (mCons t r) := by
  refine ⟨fun pins s σ H G ds vs us Q I w rl rv hl h => ?_⟩
  cases ds with
  | nil => exact h.elim
  | cons d ds =>
    obtain ⟨v, vr, rfl, r1, r2⟩ := rpl_cons.mp rl
    cases rv with
    | @cons _ u _ ur rv1 rv2 =>
      rw [hs]
      refine wpAny_bind (wpAny_holding (thn (h1.run pins s σ H G d v u _ I w r1 rv1 h) fun o s1 ho => ?_))
      obtain ⟨I1, ⟨rfl, q⟩ | ⟨us1, vs1, ds1, rfl, l1, rr1, rp1, q⟩⟩ := ho
      · exact wpAny_pure ⟨I1, .inl ⟨rfl, q⟩⟩
      · dsimp only
        refine wpAny_bind (wpAny_holding (thn (h2.run pins s1 σ H G ds vr ur _ I1 w r2 rv2 (by simpa using hl) q) fun o s2 ho => ?_))
        obtain ⟨I2, ⟨rfl, q⟩ | ⟨us2, vs2, ds2, rfl, l2, rr2, rp2, q⟩⟩ := ho
        · exact wpAny_pure ⟨I2, .inl ⟨rfl, q⟩⟩
        · refine wpAny_pure ⟨I2, .inr ⟨us1 ++ us2, vs1 ++ vs2, ds1 ++ ds2, ?_, by rw [List.length_append, List.length_append, l1, l2], ?_, RpL.append rp1 rp2, q⟩⟩
          · rw [List.zip_append l1.symm]
          · exact paired_app rr1 rr2
theorem pdm_seq {ps : List Pattern} {ns : List Str} {t : DPs} {pos : Pos} (hc : X.calm = true) (h : PDMs X ps ns t) (hstar : ps.findIdx? (·.isStar) = none := by rfl) (hwild : (ps.all fun p => p.isWildcard || (p.isStar && p.names.isEmpty)) = false := by rfl) : PDM X (.MatchSequence ps pos) ns (mSeq ps.length t) := by
  refine ⟨fun pins s σ H G d v u Q I w r rv q => ?_⟩
  cases d with
  | tup ds =>
    obtain ⟨a, xs, rfl, hq, rl⟩ := rp_tup.mp r
    cases (show u = Value.ref a from rv)
    obtain ⟨its, rx, ht, hz⟩ := I.tuple hq
    have hlen : its.toArray.size = ds.length := by
      rw [List.size_toArray, ← rx.length, rl.length]
    have hfit : (its.toArray.size : Int) < 2 ^ 63 := by
      rw [hlen, rl.length]
      simp only [sizeLine] at hz
      omega
    have q : (if ds.length = ps.length then t ds G Q else Q none) := q
    by_cases e : ds.length = ps.length
    · rw [if_pos e] at q
      refine matchSeq_tuple_hit ht hfit (hlen.trans e) ?_ hstar hwild
      rw [← e, ← hlen]
      refine unpackItems_tuple (s := { s with toks := s.toks + 1 + 1 }) (I.ok.hd hc) ht fun h' hx => ?_
      have I1 : Inv X pins σ H { s with heap := h', toks := s.toks + 1 + 1 } := I.kept (t' := s.toks + 1 + 1) fun b o e => hx b o (Nat.ne_of_lt (Heap.lt_size e)) e
      exact h.run pins _ σ H G ds xs _ Q I1 w rl (by simpa using rx) e q
    · rw [if_neg e] at q
      exact matchSeq_tuple_miss ht hfit (fun z => e (hlen.symm.trans z)) ⟨I.tok _, .inl ⟨rfl, q⟩⟩ hstar hwild
  | _ => exact q.elim
/-- one of several patterns that bind nothing -/
structure PDF (X : Cx) (ps : List Pattern) (t : DP) : Prop where
  run : ∀ (pins : List (Addr × Obj)) (s : Shared) (σ : L2.St) (H : Hp) (G : DG) (d : D) (v : V) (u : Value) (Q : Option (List D) → Prop), Inv X pins σ H s → Wld (bs X) G H → Rp X.K H d v → RelV v u → t d G Q →
    wpAny (model X.prog X.w) X.A (matchFirst ps X.env u) (PatEnd X pins σ H [] Q) X.xe s
theorem pdf_nil : PDF X [] mFst0 := ⟨fun pins s σ H G d v u Q I w r rv q => wpAny_matchFirst_nil ⟨I, .inl ⟨rfl, q⟩⟩⟩
theorem pdf_cons {p : Pattern} {ps : List Pattern} {t r : DP} (h1 : PDM X p [] t) (h2 : PDF X ps r) : PDF X (p :: ps) (mFst t r) := by
  refine ⟨fun pins s σ H G d v u Q I w rd rv q => wpAny_matchFirst_cons (thn (h1.run pins s σ H G d v u _ I w rd rv q) fun o s1 ho => ?_)⟩
  obtain ⟨I1, ⟨rfl, q⟩ | ⟨us1, vs1, ds1, rfl, l1, rr1, rp1, q⟩⟩ := ho
  · exact h2.run pins s1 σ H G d v u Q I1 w rd rv q
  · exact ⟨I1, .inr ⟨us1, vs1, ds1, rfl, l1, rr1, rp1, q⟩⟩
theorem pdm_or {ps : List Pattern} {t : DP} {pos : Pos} (h : PDF X ps t) (hn : namesOfAll (ps.take 1) = [] := by rfl) : PDM X (.MatchOr ps pos) [] t := by
  refine ⟨fun pins s σ H G d v u Q I w rd rv q => wpAny_matchPattern_Or (thn (h.run pins s σ H G d v u _ I w rd rv q) fun o s1 ho => ?_)⟩
  obtain ⟨I1, ⟨rfl, q⟩ | ⟨us1, vs1, ds1, rfl, l1, rr1, rp1, q⟩⟩ := ho
  · exact ⟨I1, .inl ⟨rfl, q⟩⟩
  · refine ⟨I1, .inr ⟨us1, vs1, ds1, ?_, l1, rr1, rp1, q⟩⟩
    rw [hn]; rfl
/-! ### cases -/
def bindD (ρ : DSt) : List Nat → List D → DSt
  | i :: is, d :: ds => bindD (ρ.set i (some d)) is ds
  | _, _ => ρ
abbrev DCs := D → DS
def cNil : DCs := fun _ E ρ G => E.nx ρ G
def cCons (p : DP) (is : List Nat) (b : DS) (r : DCs) : DCs := fun x E ρ G => p x G fun o => match o with
  | none => r x E ρ G
  | some ds => b E (bindD ρ is ds) G
def dMatch (t : DE) (r : DCs) : DS := fun E ρ G => t ρ G fun x G1 => r x E ρ G1
structure PDCa (X : Cx) (cs : List MatchCase) (t : DCs) : Prop where
  run : ∀ (first : Bool) (pins : List (Addr × Obj)) (s : Shared) (σ : L2.St) (H : Hp) (G : DG) (ρ : DSt) (d : D) (v : V) (u : Value) (E : DEnds) (F : Ends), Inv X pins σ H s → Wld (bs X) G H → RpS X.K H ρ σ → Rp X.K H d v → RelV v u → t d E ρ G → KtE (bs X) G H E F →
    wpAny (model X.prog X.w) X.A (matchCases cs X.env u first) (SP X pins F) X.xe s
theorem pdca_nil : PDCa X [] cNil := ⟨fun first pins s σ H G ρ d v u E F I w sl rd rv q k => wpAny_matchCases_nil ⟨σ, H, I, k.nx ρ σ G H sl w Fm.refl q⟩⟩
/-- the slots of the names -/
def slotsOk (X : Cx) : List Str → List Nat → Bool
  | [], [] => true
  | x :: xs, i :: is => decide (X.N[i]? = some x) && decide (X.env.scope.names.lookup x = some .local) && slotsOk X xs is
  | _, _ => false
theorem bind_names (hN : X.N.Nodup) : ∀ (ns : List Str) (is : List Nat) (us : List Value) (vs : List V) (ds : List D) {pins : List (Addr × Obj)} {s : Shared} {σ : L2.St} {H : Hp} {ρ : DSt} {Q : Unit → Shared → Prop} {E : Value → Shared → Prop}, slotsOk X ns is = true → us.length = ns.length → Vals vs us → RpL X.K H ds vs → Inv X pins σ H s → RpS X.K H ρ σ →
    (∀ s' σ', Inv X pins σ' H s' → RpS X.K H (bindD ρ is ds) σ' → Q () s') → wpAny (model X.prog X.w) X.A (assignInOrder ((ns.zip us).map fun p => bindName X.env p.1) ((ns.zip us).map (·.2))) Q E s
  | [], [], [], vs, ds, pins, s, σ, H, ρ, Q, E, ok, hl, rv, rl, I, sl, k => by
    cases rv
    cases ds with
    | nil => exact wpAny_assignInOrder_none (k s σ I sl)
    | cons d ds => obtain ⟨_, _, e, _⟩ := rpl_cons.mp rl; cases e
  | x :: ns, i :: is, u :: us, vs, ds, pins, s, σ, H, ρ, Q, E, ok, hl, rv, rl, I, sl, k => by
    cases rv with
    | cons rv1 rv2 =>
      cases ds with
      | nil => cases (rpl_nil.mp rl)
      | cons d ds =>
        obtain ⟨y, ys, e, r1, r2⟩ := rpl_cons.mp rl
        cases e
        simp only [slotsOk, Bool.and_eq_true, decide_eq_true_eq] at ok
        refine wpAny_assignInOrder_more (wpAny_bindName (store_ok I hN ok.1.1 (.inl ok.1.2) rv1 (fun s' I' => ?_) (.inr ok.1.2)))
        exact bind_names hN ns is us _ ds ok.2 (by simpa using hl) rv2 r2 I' (sl.set (d := some d) (v := some _) r1 i) k
  | [], [], _ :: _, _, _, _, _, _, _, _, _, _, _, hl, _, _, _, _, _ => by simp at hl
  | _ :: _, _, [], _, _, _, _, _, _, _, _, _, _, hl, _, _, _, _, _ => by simp at hl
  | [], _ :: _, _, _, _, _, _, _, _, _, _, _, ok, _, _, _, _, _, _ => by simp [slotsOk] at ok
  | _ :: _, [], _, _, _, _, _, _, _, _, _, _, ok, _, _, _, _, _, _ => by simp [slotsOk] at ok
theorem pdca_cons {p : Pattern} {body : List Stmt} {rest : List MatchCase} {ns : List Str} (is : List Nat) {t : DP} {b : DS} {r : DCs} (hN : X.N.Nodup) (hp : PDM X p ns t) (hb : PDSs X body b) (hr : PDCa X rest r) (hs : slotsOk X ns is = true := by rfl) : PDCa X (⟨p, none, body⟩ :: rest) (cCons t is b r) := by
  refine ⟨fun first pins s σ H G ρ d v u E F I w sl rd rv q k => wpAny_matchCases_cons (thn (hp.run pins s σ H G d v u _ I w rd rv q) fun o s1 ho => ?_)⟩
  obtain ⟨I1, ⟨rfl, q⟩ | ⟨us, vs, ds, rfl, l1, rr1, rp1, q⟩⟩ := ho
  · exact hr.run false pins s1 σ H G ρ d v u E F I1 w sl rd rv q k
  · dsimp only
    refine bind_names hN ns is us vs ds hs l1 rr1 rp1 I1 sl fun s2 σ2 I2 sl2 => ?_
    exact hb.low.run pins s2 σ2 H F I2 ⟨_, G, E, sl2, w, q, k⟩
theorem pds_match {e : Expr} {cs : List MatchCase} {te : DE} {r : DCs} {pos : Pos} (he : PD X e te) (hc : PDCa X cs r) : PDS X (.Match e cs pos) (dMatch te r) := by
  obtain ⟨ta, pa, la⟩ := he
  refine ⟨lowS (bs X) (dMatch te r), ⟨fun pins s σ H F I h => ?_⟩, lowS_lk⟩
  obtain ⟨ρ, G, E, sl, w, h, k⟩ := h
  refine wpAny_Match (thn (pa.run pins s σ H _ I (la ρ σ G H _ (fun v H' => ∃ d G', Rp X.K H' d v ∧ Wld (bs X) G' H' ∧ Fm G H G' H' ∧ r d E ρ G') sl w h fun d v G1 H1 r1 w1 f1 q1 => ⟨d, G1, r1, w1, f1, q1⟩)) fun u s1 hu => ?_)
  obtain ⟨v, H1, I1, rv, d, G1, r1, w1, f1, q1⟩ := hu
  exact hc.run true pins s1 σ H1 G1 ρ d v u E F I1 w1 (sl.mono (f1.kp w)) r1 rv q1 (k.aft f1)
end
end FD

/-! FD17: more steps of readings (or, not, chains, match, texts), comprehensions with a condition, data with bounds. -/
namespace FD
open PySem L2
section
variable {E : DEnds} {ρ : DSt} {G : DG} {Q : DK} {QT : Bool → DG → Prop} {QI : DIt → DG → Prop} {ta tb tc te : DE} {g : DGt} {tt : DT}
def kOr (tb : DE) (ρ : DSt) (Q : DK) (x : D) (k : Bool) (G : DG) : Prop := if k = true then Q x G else tb ρ G Q
def kCh (rd' : R2D) (tc : DE) (ρ : DSt) (Q : DK) (y z : D) (G : DG) : Prop := match z with
  | .bl k => if k = true then tc ρ G fun u G4 => rd' y u G4 Q else Q (.bl false) G
  | _ => False
theorem or_ : dOr ta tb ρ G Q = ta ρ G fun x G1 => trD x G1 (kOr tb ρ Q x) := rfl
theorem kor_t {x : D} : kOr tb ρ Q x true G = Q x G := rfl
theorem kor_f {x : D} : kOr tb ρ Q x false G = tb ρ G Q := rfl
theorem not_ : dNot ta ρ G Q = ta ρ G fun x G1 => trD x G1 fun k G2 => Q (.bl (!k)) G2 := rfl
theorem chain_ {rd rd' : R2D} : dChain rd rd' ta tb tc ρ G Q = ta ρ G fun x G1 => tb ρ G1 fun y G2 => rd x y G2 (kCh rd' tc ρ Q y) := rfl
theorem kch_t {rd' : R2D} {y : D} : kCh rd' tc ρ Q y (.bl true) G = tc ρ G fun u G4 => rd' y u G4 Q := rfl
theorem kch_f {rd' : R2D} {y : D} : kCh rd' tc ρ Q y (.bl false) G = Q (.bl false) G := rfl
theorem ord_str {f : Int → Int → Bool} {h : List Nat → List Nat → Bool} {s t : Str} : ordD f h (.str s) (.str t) G Q = Q (.bl (h s.cps.toList t.cps.toList)) G := rfl
theorem len_str {s : Str} : lenD [.str s] G Q = (s.length ≤ sizeLine ∧ Q (.int s.length) G) := rfl
theorem ordc_ {x : Str} : ordC [.str x] G Q = (x.length = 1 ∧ Q (.int (x.cps.getD 0 0 : Nat)) G) := rfl
theorem strc_int {i : Int} : strC [.int i] G Q = (i.natAbs.log2 < 1920 ∧ Q (.str (toString i)) G) := rfl
theorem val_str {z : Str} : diVal (.str z) G QI = QI ⟨signs z, fun _ => True⟩ G := rfl
theorem add_str {s t : Str} : addD (.str s) (.str t) G Q = (s.length + t.length ≤ sizeLine ∧ Q (.str (s ++ t)) G) := rfl
theorem sl_strD {s : Str} {lo hi : Option Int} : slD (.str s) lo hi G Q = (s.length ≤ sizeLine ∧ Q (.str (cutS s lo hi)) G) := rfl
theorem match_ {r : DCs} : dMatch te r E ρ G = te ρ G fun x G1 => r x E ρ G1 := rfl
def kC (is : List Nat) (b : DS) (r : DCs) (x : D) (E : DEnds) (ρ : DSt) (G : DG) (o : Option (List D)) : Prop := match o with
  | none => r x E ρ G
  | some ds => b E (bindD ρ is ds) G
theorem cc_ {p : DP} {is : List Nat} {b : DS} {r : DCs} {x : D} : cCons p is b r x E ρ G = p x G (kC is b r x E ρ G) := rfl
theorem kc_n {is : List Nat} {b : DS} {r : DCs} {x : D} : kC is b r x E ρ G none = r x E ρ G := rfl
theorem kc_s {is : List Nat} {b : DS} {r : DCs} {x : D} {ds : List D} : kC is b r x E ρ G (some ds) = b E (bindD ρ is ds) G := rfl
theorem cn_ {x : D} : cNil x E ρ G = E.nx ρ G := rfl
theorem wild_ {x : D} {Qo : Option (List D) → Prop} : mWild x G Qo = Qo (some []) := rfl
/-- a sign of a text -/
theorem in_sign {neg : Bool} {c : Nat} {z : Str} (h : Q (.bl (neg ^^ decide (c ∈ z.cps.toList))) G) : inD neg (.str ⟨#[c]⟩) (.str z) G Q := ⟨c, rfl, h⟩
/-- [f x for x in items if p x] -/
theorem lcGo_flt {chk : DG → Prop} {fin : List D → DG → Prop} (I : DG → Prop) (p : D → Bool) (f : D → D) (hc : ∀ G, I G → chk G) : ∀ (items acc : List D) (G : DG),
    (∀ d, d ∈ items → ∀ (G : DG) (Ky : DK) (Kn : DG → Prop), I G → (p d = true → ∀ G', I G' → Ky (f d) G') → (p d = false → ∀ G', I G' → Kn G') → g d ρ G fun ρ2 G2 => tt ρ2 G2 fun b G3 => if b = true then te ρ2 G3 Ky else Kn G3) →
    I G → acc.length + items.length ≤ sizeLine → (∀ G', I G' → fin (acc ++ (items.filter p).map f) G') → lcGo chk g tt te ρ fin items acc G
  | [], acc, G, _, hI, _, hf => ⟨hc _ hI, by have h := hf G hI; rwa [List.filter_nil, List.map_nil, List.append_nil] at h⟩
  | d :: ds, acc, G, hs, hI, hl, hf => by
    rw [List.length_cons] at hl
    refine ⟨hc _ hI, ?_⟩
    refine hs d (List.mem_cons_self ..) G (fun y G4 => acc.length < sizeLine ∧ lcGo chk g tt te ρ fin ds (acc ++ [y]) G4) (fun G3 => lcGo chk g tt te ρ fin ds acc G3) hI (fun hp G' hI' => ⟨by omega, ?_⟩) fun hp G' hI' => ?_
    · refine lcGo_flt I p f hc ds (acc ++ [f d]) G' (fun e he => hs e (List.mem_cons_of_mem _ he)) hI' (by rw [List.length_append]; show acc.length + 1 + ds.length ≤ sizeLine; omega) fun G'' hI'' => ?_
      have h := hf G'' hI''
      rwa [List.filter_cons_of_pos hp, List.map_cons, ← List.singleton_append, ← List.append_assoc] at h
    · refine lcGo_flt I p f hc ds acc G' (fun e he => hs e (List.mem_cons_of_mem _ he)) hI' (by omega) fun G'' hI'' => ?_
      have h := hf G'' hI''
      rwa [List.filter_cons_of_neg (by rw [hp]; decide)] at h
theorem flt_nil {p : D → Bool} {f : D → D} {items : List D} : PyData.eqvAll (toPys ((items.filter p).map f)) (toPys []) = items.all fun d => !p d := by
  induction items with
  | nil => rfl
  | cons d ds ih =>
    cases hp : p d with
    | true => rw [List.filter_cons_of_pos hp, List.map_cons, toPys, toPys, PyData.eqvAll, List.all_cons, hp]; rfl
    | false => rw [List.filter_cons_of_neg (by rw [hp]; decide), ih, List.all_cons, hp]; rfl
/-- all([f x for x in items]), f a truth value -/
theorem all_bl {a : Addr} {p : D → Bool} {items : List D} (h : G a = some (.lst (items.map fun d => .bl (p d)))) (q : Q (.bl (items.all p)) G) : allD [.ref a] G Q := by
  refine ⟨items.map p, by rw [h, List.map_map]; rfl, ?_⟩
  rw [List.all_map]
  exact q
end
/-! ### data with bounds -/
/-- plain data of at most k levels, rows of at most b items, texts of at most 1000 signs -/
def Pb (b : Nat) : Nat → D → Prop
  | _, .non => True
  | _, .bl _ => True
  | _, .int _ => True
  | _, .str s => PyData.strOk s = true ∧ s.length ≤ 1000
  | 0, .tup _ => False
  | k + 1, .tup ds => ds.length ≤ b ∧ ∀ d ∈ ds, Pb b k d
  | _, .fl _ => False
  | _, .ref _ => False
  | _, .ty _ => False
section
variable {b k : Nat}
theorem pb_tup {ds : List D} : Pb b (k + 1) (.tup ds) ↔ ds.length ≤ b ∧ ∀ d ∈ ds, Pb b k d := by rw [Pb]
theorem pb_str {s : Str} : Pb b k (.str s) ↔ PyData.strOk s = true ∧ s.length ≤ 1000 := by cases k <;> rw [Pb]
theorem pb_non : Pb b k .non := by cases k <;> rw [Pb] <;> trivial
theorem pb_int {i : Int} : Pb b k (.int i) := by cases k <;> rw [Pb] <;> trivial
theorem pb_bl {i : Bool} : Pb b k (.bl i) := by cases k <;> rw [Pb] <;> trivial
end
theorem Pb.no {b k : Nat} {d : D} (h : Pb b k d) : (∃ ds, d = .tup ds) ∨ d = .non ∨ (∃ i, d = .int i) ∨ (∃ i, d = .bl i) ∨ ∃ s, d = .str s ∧ PyData.strOk s = true ∧ s.length ≤ 1000 := by
  cases d with
  | tup ds => exact .inl ⟨ds, rfl⟩
  | non => exact .inr (.inl rfl)
  | int i => exact .inr (.inr (.inl ⟨i, rfl⟩))
  | bl i => exact .inr (.inr (.inr (.inl ⟨i, rfl⟩)))
  | str s => exact .inr (.inr (.inr (.inr ⟨s, rfl, pb_str.mp h⟩)))
  | fl _ => cases k <;> rw [Pb] at h <;> exact h.elim
  | ref _ => cases k <;> rw [Pb] at h <;> exact h.elim
  | ty _ => cases k <;> rw [Pb] at h <;> exact h.elim
theorem Pb.mono : ∀ {b c k m : Nat} {d : D}, Pb b k d → b ≤ c → k ≤ m → Pb c m d
  | b, c, 0, m, d, h, hb, hk => by
    rcases h.no with ⟨ds, rfl⟩ | rfl | ⟨i, rfl⟩ | ⟨i, rfl⟩ | ⟨s, rfl, e⟩
    · rw [Pb] at h; exact h.elim
    · exact pb_non
    · exact pb_int
    · exact pb_bl
    · exact pb_str.mpr e
  | b, c, k + 1, m, d, h, hb, hk => by
    rcases h.no with ⟨ds, rfl⟩ | rfl | ⟨i, rfl⟩ | ⟨i, rfl⟩ | ⟨s, rfl, e⟩
    · obtain ⟨m, rfl⟩ : ∃ m', m = m' + 1 := ⟨m - 1, by omega⟩
      obtain ⟨h1, h2⟩ := pb_tup.mp h
      exact pb_tup.mpr ⟨by omega, fun d hd => (h2 d hd).mono hb (by omega)⟩
    · exact pb_non
    · exact pb_int
    · exact pb_bl
    · exact pb_str.mpr e
theorem Pb.pl : ∀ {b k : Nat} {d : D}, Pb b k d → b ≤ sizeLine → Pl k d
  | b, 0, d, h, hb => by
    rcases h.no with ⟨ds, rfl⟩ | rfl | ⟨i, rfl⟩ | ⟨i, rfl⟩ | ⟨s, rfl, e⟩
    · rw [Pb] at h; exact h.elim
    all_goals rw [Pl]
    all_goals first | trivial | exact e.1
  | b, k + 1, d, h, hb => by
    rcases h.no with ⟨ds, rfl⟩ | rfl | ⟨i, rfl⟩ | ⟨i, rfl⟩ | ⟨s, rfl, e⟩
    · obtain ⟨h1, h2⟩ := pb_tup.mp h
      exact pl_tup.mpr ⟨by omega, fun d hd => (h2 d hd).pl hb⟩
    all_goals rw [Pl]
    all_goals first | trivial | exact e.1
theorem Pb.items {b k : Nat} {ds : List D} (h : Pb b k (.tup ds)) : ds.length ≤ b ∧ ∀ d ∈ ds, Pb b k d := by
  cases k with
  | zero => rw [Pb] at h; exact h.elim
  | succ k =>
    obtain ⟨h1, h2⟩ := pb_tup.mp h
    exact ⟨h1, fun d hd => (h2 d hd).mono (Nat.le_refl _) (Nat.le_succ _)⟩
end FD

/-! the readings of the defs, printed by gen.py -/
namespace K02
open PySem L2 FD

def N_feed_of : List Str := ["_law_script", "_law_k", "_law_cell", "_law_great"]
def t_feed_of : DS := (dSeq (dAsg (dOp addD (dOp mulD (dC (.int 9029)) (dVar 1)) (dC (.int 31))) (gnD 2))
    (dSeq (dIfS (dBool (dOp ltD (dVar 1) (dCB lenD (dCons (dVar 0) dNil)))) (dAsg (dOp ixD (dVar 0) (dVar 1)) (gnD 2)) dNext)
    (dSeq (dIfS (dBool (dOp ltD (dVar 2) (dC (.int 0)))) (dAsg (dOp subD (dC (.int 5)) (dOp mulD (dC (.int 7)) (dVar 2))) (gnD 2)) dNext)
    (dSeq (dAsg (dIf (dBool (dOp geD (dVar 2) (dOp powD (dC (.int 10)) (dC (.int 18))))) (dVar 2) (dC (.int 0))) (gnD 3))
    (dRet (dLst (dCons (dVar 3) (dCons (dOp addD (dOp addD (dOp modD (dVar 2) (dC (.int 1000003))) (dOp mulD (dC (.int 11)) (dVar 1))) (dC (.int 1))) dNil))))))))
abbrev sp_feed_of : DSp := self N_feed_of 2 t_feed_of
def N_draw : List Str := ["_law_feed", "_law_many", "_law_digit"]
def t_draw : DS := (dSeq (dIfS (dBool (dOp gtD' (dOp ixD (dVar 0) (dC (.int 0))) (dC (.int 0)))) (dSeq (dAsg (dOp modD (dOp ixD (dVar 0) (dC (.int 0))) (dVar 1)) (gnD 2))
    (dSeq (dAsg (dOp fdivD (dOp ixD (dVar 0) (dC (.int 0))) (dVar 1)) (gsD (dVar 0) (dC (.int 0)) setLD))
    (dRet (dVar 2)))) dNext)
    (dSeq (dAsg (dOp modD (dOp addD (dOp mulD (dOp ixD (dVar 0) (dC (.int 1))) (dC (.int 48271))) (dC (.int 11))) (dC (.int 2147483647))) (gsD (dVar 0) (dC (.int 1)) setLD))
    (dRet (dOp modD (dOp fdivD (dOp ixD (dVar 0) (dC (.int 1))) (dC (.int 127))) (dVar 1)))))
abbrev sp_draw : DSp := self N_draw 2 t_draw
def N_pick : List Str := ["_law_feed", "_law_items"]
def t_pick : DS := (dRet (dOp ixD (dVar 1) (dCall sp_draw (dCons (dVar 0) (dCons (dCB lenD (dCons (dVar 1) dNil)) dNil)))))
abbrev sp_pick : DSp := self N_pick 2 t_pick
def N_signs : List Str := ["_law_signs_here"]
def t_signs : DS := (dSeq (dAsg (dC (.str " !\"#$&'()*+,-./0123456789:;<=>?@ABCDEFGHIJKLMNOPQRSTUVWXYZ")) (gnD 0))
    (dRet (dOp addD (dVar 0) (dC (.str "[\\]^_`abcdefghijklmnopqrstuvwxyz{|}~")))))
abbrev sp_signs : DSp := self N_signs 0 t_signs
def N_word : List Str := ["_law_feed", "_law_found", "_law_turn", "_law_spot", "_law_sign"]
def t_word : DS := (dSeq (dAsg (dCall sp_pick (dCons (dVar 0) (dCons (dC (.str "abz")) dNil))) (gnD 1))
    (dSeq (dFor (diRng1 (dCons (dOp ixD (dLst (dCons (dC (.int 0)) (dCons (dC (.int 1)) (dCons (dC (.int 6)) (dCons (dC (.int 7)) (dCons (dC (.int 8)) dNil)))))) (dCall sp_draw (dCons (dVar 0) (dCons (dC (.int 5)) dNil)))) dNil)) (gnD 2) (dAsg (dOp addD (dVar 1) (dCall sp_pick (dCons (dVar 0) (dCons (dC (.str "abcxyz0123456789")) dNil)))) (gnD 1)))
    (dSeq (dPar 3 4 (dCons (dCall sp_draw (dCons (dVar 0) (dCons (dOp addD (dCB lenD (dCons (dVar 1) dNil)) (dC (.int 1))) dNil))) (dCons (dCall sp_pick (dCons (dVar 0) (dCons (dOp addD (dCall sp_signs dNil) (dC (.str "\n\t"))) dNil))) dNil)))
    (dSeq (dIfS (dBool (dOp gtD' (dCall sp_draw (dCons (dVar 0) (dCons (dC (.int 3)) dNil))) (dC (.int 0)))) (dRet (dVar 1)) dNext)
    (dRet (dOp addD (dOp addD (dSl (dVar 1) dNoPart (dPart (dVar 3))) (dVar 4)) (dSl (dVar 1) (dPart (dOp addD (dVar 3) (dCall sp_draw (dCons (dVar 0) (dCons (dC (.int 2)) dNil))))) dNoPart)))))))
abbrev sp_word : DSp := self N_word 1 t_word
def N_calls : List Str := []
def t_calls : DS := (dRet (dLst (dCons (dC (.str "make")) (dCons (dC (.str "")) (dCons (dC (.str "r 2")) (dCons (dC (.str "Mend!")) (dCons (dC (.str "m")) dNil)))))))
abbrev sp_calls : DSp := self N_calls 0 t_calls
def N_some_text : List Str := ["_law_feed", "_law_form", "_law_many"]
def t_some_text : DS := (dSeq (dAsg (dCall sp_draw (dCons (dVar 0) (dCons (dC (.int 8)) dNil))) (gnD 1))
    (dSeq (dIfS (dBool (dOp (eqD false) (dVar 1) (dC (.int 7)))) (dRet (dCall sp_pick (dCons (dVar 0) (dCons (dCall sp_calls dNil) dNil)))) dNext)
    (dSeq (dIfS (dBool (dOp (eqD false) (dVar 1) (dC (.int 6)))) (dSeq (dAsg (dOp ixD (dLst (dCons (dOp addD (dC (.int 1)) (dCall sp_draw (dCons (dVar 0) (dCons (dC (.int 90)) dNil)))) (dCons (dC (.int 400)) dNil))) (dOp fdivD (dCall sp_draw (dCons (dVar 0) (dCons (dC (.int 7)) dNil))) (dC (.int 6)))) (gnD 2))
    (dRet (dCall sp_pick (dCons (dVar 0) (dCons (dLst (dCons (dC (.str " ")) (dCons (dC (.str "a b")) (dCons (dC (.str "\"")) (dCons (dC (.str "~")) (dCons (dC (.str "None")) (dCons (dOp mulD (dC (.str "x")) (dVar 2)) (dCons (dC (.str "read")) (dCons (dC (.str "write")) (dCons (dC (.str "stop")) (dCons (dC (.str "o")) dNil))))))))))) dNil))))) dNext)
    (dRet (dOp ixD (dLst (dCons (dC (.str "0")) (dCons (dC (.str "1")) (dCons (dC (.str "0")) (dCons (dC (.str "1")) (dCons (dC (.str "")) (dCons (dC (.str "10")) dNil))))))) (dVar 1))))))
abbrev sp_some_text : DSp := self N_some_text 1 t_some_text
def N_some_answer : List Str := ["_law_feed"]
def t_some_answer : DS := (dRet (dIf (dBool (dOp (eqD false) (dCall sp_draw (dCons (dVar 0) (dCons (dC (.int 5)) dNil))) (dC (.int 0)))) (dC .non) (dCall sp_some_text (dCons (dVar 0) dNil))))
abbrev sp_some_answer : DSp := self N_some_answer 1 t_some_answer
def N_things : List Str := ["_law_feed", "_law_keys", "_law_rows", "_law_turn", "_law_arguments", "_law_text", "_law_found", "_law_part"]
def t_things : DS := (dSeq (dAsg (dCB tupleD (dCons (dLc (diRng1 (dCons (dOp addD (dC (.int 1)) (dCall sp_draw (dCons (dVar 0) (dCons (dC (.int 5)) dNil)))) dNil)) (gnD 3) dYes (dTup (dCons (dCall sp_word (dCons (dVar 0) dNil)) (dCons (dCall sp_word (dCons (dVar 0) dNil)) dNil))) [3]) dNil)) (gnD 1))
    (dSeq (dAsg (dLst dNil) (gnD 2))
    (dSeq (dFor (diRng1 (dCons (dCall sp_draw (dCons (dVar 0) (dCons (dC (.int 3)) dNil))) dNil)) (gnD 3) (dDrop (dML appendD (dVar 2) (dCons (dCB tupleD (dCons (dLc (diRng1 (dCons (dOp addD (dC (.int 1)) (dCall sp_draw (dCons (dVar 0) (dCons (dC (.int 4)) dNil)))) dNil)) (gnD 7) dYes (dCall sp_some_answer (dCons (dVar 0) dNil)) [7]) dNil)) dNil))))
    (dSeq (dIfS (dBool (dOp (eqD false) (dCall sp_draw (dCons (dVar 0) (dCons (dC (.int 4)) dNil))) (dC (.int 0)))) (dDrop (dML appendD (dVar 2) (dCons (dTup (dCons (dOp mulD (dC (.str "y")) (dOp addD (dC (.int 399)) (dCall sp_draw (dCons (dVar 0) (dCons (dC (.int 3)) dNil))))) dNil)) dNil))) dNext)
    (dSeq (dAsg (dCB tupleD (dCons (dLc (diRng1 (dCons (dCall sp_draw (dCons (dVar 0) (dCons (dC (.int 6)) dNil))) dNil)) (gnD 3) dYes (dCall sp_some_text (dCons (dVar 0) dNil)) [3]) dNil)) (gnD 4))
    (dSeq (dAsg (dOp ixD (dLst (dCons (dCall sp_some_text (dCons (dVar 0) dNil)) (dCons (dOp mulD (dC (.str "y")) (dOp addD (dC (.int 398)) (dCall sp_draw (dCons (dVar 0) (dCons (dC (.int 5)) dNil))))) dNil))) (dCall sp_draw (dCons (dVar 0) (dCons (dC (.int 2)) dNil)))) (gnD 5))
    (dSeq (dAsg (dLst (dCons (dOp ixD (dVar 1) (dC (.int 0))) (dCons (dTup (dCons (dC (.str "read")) (dCons (dVar 1) dNil))) (dCons (dTup (dCons (dC (.str "write")) (dCons (dCall sp_word (dCons (dVar 0) dNil)) (dCons (dVar 5) dNil)))) (dCons (dTup (dCons (dC (.str "stop")) dNil)) dNil))))) (gnD 6))
    (dRet (dOp addD (dVar 6) (dLst (dCons (dTup (dCons (dCall sp_some_text (dCons (dVar 0) dNil)) (dCons (dVar 4) (dCons (dCB tupleD (dCons (dVar 2) dNil)) (dCons (dCall sp_draw (dCons (dVar 0) (dCons (dC (.int 4)) dNil))) dNil))))) dNil)))))))))))
abbrev sp_things : DSp := self N_things 1 t_things
def N_odd : List Str := ["_law_feed", "_law_value", "_law_spot", "_law_form", "_law_part", "_law_odd_here"]
def t_odd : Nat → DS
  | 0 => fun _ _ _ => False
  | n + 1 => (dSeq (dIfS (dAndT (dTru (dCB isiD (dCons (dVar 1) (dCons (dC (.ty "tuple")) dNil)))) (dAndT (dBool (dOp (eqD true) (dVar 1) (dTup dNil))) (dBool (dOp gtD' (dCall sp_draw (dCons (dVar 0) (dCons (dC (.int 3)) dNil))) (dC (.int 0)))))) (dSeq (dAsg (dCall sp_draw (dCons (dVar 0) (dCons (dCB lenD (dCons (dVar 1) dNil)) dNil))) (gnD 2))
    (dSeq (dAsg (dCall sp_draw (dCons (dVar 0) (dCons (dC (.int 6)) dNil))) (gnD 3))
    (dSeq (dAsg (dLst (dCons (dCall (self N_odd 2 (t_odd n)) (dCons (dVar 0) (dCons (dOp ixD (dVar 1) (dVar 2)) dNil))) dNil)) (gnD 4))
    (dSeq (dAsg (dOp ixD (dLst (dCons (dVar 4) (dCons (dVar 4) (dCons (dVar 4) (dCons (dLst dNil) (dCons (dLst (dCons (dOp ixD (dVar 1) (dVar 2)) (dCons (dOp ixD (dVar 1) (dVar 2)) dNil))) (dCons (dLst (dCons (dOp ixD (dVar 1) (dVar 2)) (dCons (dC (.str "a")) dNil))) dNil))))))) (dVar 3)) (gnD 4))
    (dRet (dOp addD (dOp addD (dSl (dVar 1) dNoPart (dPart (dVar 2))) (dCB tupleD (dCons (dVar 4) dNil))) (dSl (dVar 1) (dPart (dOp addD (dVar 2) (dC (.int 1)))) dNoPart))))))) dNext)
    (dSeq (dAsg (dLst (dCons (dC .non) (dCons (dC (.bl true)) (dCons (dC (.int 0)) (dCons (dOp subD (dC (.int 0)) (dC (.int 1))) (dCons (dC (.str "")) (dCons (dC (.str "a")) (dCons (dC (.str "A")) (dCons (dC (.str "a b")) (dCons (dTup dNil) (dCons (dTup (dCons (dC (.str "a")) (dCons (dC (.str "b")) dNil))) (dCons (dTup (dCons (dC (.str "stop")) dNil)) (dCons (dTup (dCons (dTup (dCons (dC (.str "a")) (dCons (dC (.str "b")) dNil))) dNil)) (dCons (dC (.str "read")) (dCons (dC (.int 7)) (dCons (dOp mulD (dC (.str "z")) (dC (.int 401))) dNil)))))))))))))))) (gnD 5))
    (dRet (dCall sp_pick (dCons (dVar 0) (dCons (dOp addD (dVar 5) (dLst (dCons (dC (.bl false)) (dCons (dC (.str "\n")) (dCons (dOp addD (dC (.str "a")) (dCB strC (dCons (dCall sp_draw (dCons (dVar 0) (dCons (dC (.int 9)) dNil))) dNil))) (dCons (dTup (dCons (dC .non) dNil)) (dCons (dTup (dCons (dC (.str "")) dNil)) (dCons (dTup (dCons (dTup (dCons (dC .non) dNil)) dNil)) (dCons (dC (.str "~")) (dCons (dC (.str "{")) dNil)))))))))) dNil))))))
abbrev sp_odd (n : Nat) : DSp := self N_odd 2 (t_odd n)
def N_l_is_text : List Str := ["_law_value", "_law_signs_here", "_law_sign"]
def t_l_is_text : DS := (dSeq (dIfS (dOrT (dNotT (dTru (dCB isiD (dCons (dVar 0) (dCons (dC (.ty "str")) dNil))))) (dBool (dOp gtD' (dCB lenD (dCons (dVar 0) dNil)) (dC (.int 400))))) (dRet (dC (.bl false))) dNext)
    (dSeq (dAsg (dCall sp_signs dNil) (gnD 1))
    (dRet (dOp (eqD false) (dLc (diAny (dVar 0)) (gnD 2) (dBool (dOp (inD true) (dVar 2) (dVar 1))) (dVar 2) [2]) (dLst dNil)))))
abbrev sp_l_is_text : DSp := self N_l_is_text 1 t_l_is_text
def N_is_row : List Str := ["_law_value", "_law_one"]
def t_is_row : DS := (dSeq (dIfS (dOrT (dNotT (dTru (dCB isiD (dCons (dVar 0) (dCons (dC (.ty "tuple")) dNil))))) (dNotT (dBool (dChain ltD ltD (dC (.int 0)) (dCB lenD (dCons (dVar 0) dNil)) (dC (.int 5)))))) (dRet (dC (.bl false))) dNext)
    (dRet (dOp (eqD false) (dLc (diAny (dVar 0)) (gnD 1) (dAndT (dBool (dOp (isD true) (dVar 1) (dC .non))) (dNotT (dTru (dCall sp_l_is_text (dCons (dVar 1) dNil))))) (dC (.int 1)) [1]) (dLst dNil))))
abbrev sp_is_row : DSp := self N_is_row 1 t_is_row
def N_l_is_place : List Str := ["_law_value", "_law_one", "_law_row"]
def t_l_is_place : DS := (dSeq (dIfS (dOrT (dNotT (dTru (dCB isiD (dCons (dVar 0) (dCons (dC (.ty "tuple")) dNil))))) (dOrT (dBool (dOp (eqD true) (dCB lenD (dCons (dVar 0) dNil)) (dC (.int 4)))) (dNotT (dTru (dCall sp_l_is_text (dCons (dOp ixD (dVar 0) (dC (.int 0))) dNil)))))) (dRet (dC (.bl false))) dNext)
    (dSeq (dIfS (dOrT (dNotT (dTru (dCB isiD (dCons (dOp ixD (dVar 0) (dC (.int 1))) (dCons (dC (.ty "tuple")) dNil))))) (dOrT (dBool (dOp gtD' (dCB lenD (dCons (dOp ixD (dVar 0) (dC (.int 1))) dNil)) (dC (.int 4)))) (dNotT (dTru (dCB isiD (dCons (dOp ixD (dVar 0) (dC (.int 2))) (dCons (dC (.ty "tuple")) dNil))))))) (dRet (dC (.bl false))) dNext)
    (dSeq (dIfS (dBool (dOp (eqD true) (dOp addD (dLc (diAny (dOp ixD (dVar 0) (dC (.int 1)))) (gnD 1) (dNotT (dTru (dCall sp_l_is_text (dCons (dVar 1) dNil)))) (dC (.int 1)) [1]) (dLc (diAny (dOp ixD (dVar 0) (dC (.int 2)))) (gnD 2) (dNotT (dTru (dCall sp_is_row (dCons (dVar 2) dNil)))) (dC (.int 1)) [2])) (dLst dNil))) (dRet (dC (.bl false))) dNext)
    (dRet (dAnd (dCB isiD (dCons (dOp ixD (dVar 0) (dC (.int 3))) (dCons (dC (.ty "int")) dNil))) (dAnd (dNot (dCB isiD (dCons (dOp ixD (dVar 0) (dC (.int 3))) (dCons (dC (.ty "bool")) dNil)))) (dOp geD (dOp ixD (dVar 0) (dC (.int 3))) (dC (.int 0)))))))))
abbrev sp_l_is_place : DSp := self N_l_is_place 1 t_l_is_place
def N_l_is_name : List Str := ["_law_value", "_law_letters", "_law_sign"]
def t_l_is_name : DS := (dSeq (dAsg (dC (.str "abcdefghijklmnopqrstuvwxyz")) (gnD 1))
    (dSeq (dIfS (dOrT (dNotT (dTru (dCB isiD (dCons (dVar 0) (dCons (dC (.ty "str")) dNil))))) (dOrT (dBool (dOp (eqD false) (dVar 0) (dC (.str "")))) (dOrT (dBool (dOp gtD' (dCB lenD (dCons (dVar 0) dNil)) (dC (.int 8)))) (dBool (dOp (inD true) (dOp ixD (dVar 0) (dC (.int 0))) (dVar 1)))))) (dRet (dC (.bl false))) dNext)
    (dRet (dOp (eqD false) (dLc (diAny (dVar 0)) (gnD 2) (dBool (dOp (inD true) (dVar 2) (dOp addD (dVar 1) (dC (.str "0123456789"))))) (dVar 2) [2]) (dLst dNil)))))
abbrev sp_l_is_name : DSp := self N_l_is_name 1 t_l_is_name
def N_l_is_key : List Str := ["_law_value", "_law_one"]
def t_l_is_key : DS := (dRet (dAnd (dCB isiD (dCons (dVar 0) (dCons (dC (.ty "tuple")) dNil))) (dAnd (dOp (eqD false) (dCB lenD (dCons (dVar 0) dNil)) (dC (.int 2))) (dOp (eqD false) (dLc (diAny (dVar 0)) (gnD 1) (dNotT (dTru (dCall sp_l_is_name (dCons (dVar 1) dNil)))) (dC (.int 1)) [1]) (dLst dNil)))))
abbrev sp_l_is_key : DSp := self N_l_is_key 1 t_l_is_key
def N_l_is_step : List Str := ["_law_value", "_law_keys", "_law_key", "_law_k"]
def t_l_is_step : DS := (dSeq (dIfS (dOrT (dNotT (dTru (dCB isiD (dCons (dVar 0) (dCons (dC (.ty "tuple")) dNil))))) (dOrT (dBool (dOp (eqD false) (dVar 0) (dTup dNil))) (dNotT (dTru (dCB isiD (dCons (dOp ixD (dVar 0) (dC (.int 0))) (dCons (dC (.ty "str")) dNil))))))) (dRet (dC (.bl false))) dNext)
    (dSeq (dIfS (dAndT (dBool (dOp (eqD false) (dOp ixD (dVar 0) (dC (.int 0))) (dC (.str "read")))) (dAndT (dBool (dOp (eqD false) (dCB lenD (dCons (dVar 0) dNil)) (dC (.int 2)))) (dTru (dCB isiD (dCons (dOp ixD (dVar 0) (dC (.int 1))) (dCons (dC (.ty "tuple")) dNil)))))) (dSeq (dAsg (dOp ixD (dVar 0) (dC (.int 1))) (gnD 1))
    (dSeq (dIfS (dOrT (dNotT (dBool (dChain ltD ltD (dC (.int 0)) (dCB lenD (dCons (dVar 1) dNil)) (dC (.int 5))))) (dBool (dOp (eqD true) (dLc (diAny (dVar 1)) (gnD 2) (dNotT (dTru (dCall sp_l_is_key (dCons (dVar 2) dNil)))) (dC (.int 1)) [2]) (dLst dNil)))) (dRet (dC (.bl false))) dNext)
    (dRet (dOp (eqD false) (dLc (diRng1 (dCons (dCB lenD (dCons (dVar 1) dNil)) dNil)) (gnD 3) (dBool (dOp (inD false) (dOp ixD (dVar 1) (dVar 3)) (dSl (dVar 1) dNoPart (dPart (dVar 3))))) (dC (.int 1)) [3]) (dLst dNil))))) dNext)
    (dSeq (dIfS (dAndT (dBool (dOp (eqD false) (dOp ixD (dVar 0) (dC (.int 0))) (dC (.str "write")))) (dBool (dOp (eqD false) (dCB lenD (dCons (dVar 0) dNil)) (dC (.int 3))))) (dRet (dAnd (dCall sp_l_is_name (dCons (dOp ixD (dVar 0) (dC (.int 1))) dNil)) (dCall sp_l_is_text (dCons (dOp ixD (dVar 0) (dC (.int 2))) dNil)))) dNext)
    (dRet (dAnd (dOp (eqD false) (dCB lenD (dCons (dVar 0) dNil)) (dC (.int 1))) (dOp (eqD false) (dOp ixD (dVar 0) (dC (.int 0))) (dC (.str "stop"))))))))
abbrev sp_l_is_step : DSp := self N_l_is_step 1 t_l_is_step
def N_same : List Str := ["_law_found", "_law_due", "_law_a", "_law_b"]
def t_same : Nat → DS
  | 0 => fun _ _ _ => False
  | n + 1 => (dSeq (dIfS (dTru (dCB isiD (dCons (dVar 1) (dCons (dTup (dCons (dC (.ty "list")) (dCons (dC (.ty "tuple")) dNil))) dNil)))) (dSeq (dIfS (dOrT (dBool (dOp (eqD true) (dCB isiD (dCons (dVar 0) (dCons (dC (.ty "list")) dNil))) (dCB isiD (dCons (dVar 1) (dCons (dC (.ty "list")) dNil))))) (dNotT (dTru (dCB isiD (dCons (dVar 0) (dCons (dTup (dCons (dC (.ty "list")) (dCons (dC (.ty "tuple")) dNil))) dNil)))))) (dRet (dC (.bl false))) dNext)
    (dRet (dAnd (dOp (eqD false) (dCB lenD (dCons (dVar 0) dNil)) (dCB lenD (dCons (dVar 1) dNil))) (dCB allD (dCons (dLc (diZip (dCons (dVar 0) (dCons (dVar 1) dNil))) (gtD 2 (gtCons (gnD 2) (gtCons (gnD 3) gtNil))) dYes (dCall (self N_same 2 (t_same n)) (dCons (dVar 2) (dCons (dVar 3) dNil))) [2, 3]) dNil))))) dNext)
    (dSeq (dIfS (dOrT (dBool (dOp (eqD true) (dCB isiD (dCons (dVar 0) (dCons (dC (.ty "bool")) dNil))) (dCB isiD (dCons (dVar 1) (dCons (dC (.ty "bool")) dNil))))) (dBool (dOp (eqD true) (dCB isiD (dCons (dVar 0) (dCons (dC (.ty "int")) dNil))) (dCB isiD (dCons (dVar 1) (dCons (dC (.ty "int")) dNil)))))) (dRet (dC (.bl false))) dNext)
    (dRet (dAnd (dOp (eqD false) (dCB isiD (dCons (dVar 0) (dCons (dC (.ty "str")) dNil))) (dCB isiD (dCons (dVar 1) (dCons (dC (.ty "str")) dNil)))) (dOp (eqD false) (dVar 0) (dVar 1))))))
abbrev sp_same (n : Nat) : DSp := self N_same 2 (t_same n)
def N_is_text : List Str := ["value", "sign"]
def t_is_text : DS := (dSeq (dIfS (dOrT (dNotT (dTru (dCB isiD (dCons (dVar 0) (dCons (dC (.ty "str")) dNil))))) (dBool (dOp gtD' (dCB lenD (dCons (dVar 0) dNil)) (dC (.int 400))))) (dRet (dC (.bl false))) dNext)
    (dRet (dCB allD (dCons (dLc (diAny (dVar 0)) (gnD 1) dYes (dAnd (dChain leD leD (dC (.str " ")) (dVar 1) (dC (.str "~"))) (dOp (eqD true) (dCB ordC (dCons (dVar 1) dNil)) (dC (.int 37)))) [1]) dNil))))
abbrev sp_is_text : DSp := self N_is_text 1 t_is_text
def N_are_texts : List Str := ["value", "item"]
def t_are_texts : DS := (dRet (dAnd (dCB isiD (dCons (dVar 0) (dCons (dC (.ty "tuple")) dNil))) (dCB allD (dCons (dLc (diAny (dVar 0)) (gnD 1) dYes (dCall sp_is_text (dCons (dVar 1) dNil)) [1]) dNil))))
abbrev sp_are_texts : DSp := self N_are_texts 1 t_are_texts
def N_is_answer : List Str := ["value"]
def t_is_answer : DS := (dRet (dOr (dOp (isD false) (dVar 0) (dC .non)) (dCall sp_is_text (dCons (dVar 0) dNil))))
abbrev sp_is_answer : DSp := self N_is_answer 1 t_is_answer
def N_are_answers : List Str := ["value", "item"]
def t_are_answers : DS := (dSeq (dIfS (dOrT (dNotT (dTru (dCB isiD (dCons (dVar 0) (dCons (dC (.ty "tuple")) dNil))))) (dNotT (dBool (dChain ltD leD (dC (.int 0)) (dCB lenD (dCons (dVar 0) dNil)) (dC (.int 4)))))) (dRet (dC (.bl false))) dNext)
    (dRet (dCB allD (dCons (dLc (diAny (dVar 0)) (gnD 1) dYes (dCall sp_is_answer (dCons (dVar 1) dNil)) [1]) dNil))))
abbrev sp_are_answers : DSp := self N_are_answers 1 t_are_answers
def N_is_count : List Str := ["value"]
def t_is_count : DS := (dRet (dAnd (dCB isiD (dCons (dVar 0) (dCons (dC (.ty "int")) dNil))) (dAnd (dNot (dCB isiD (dCons (dVar 0) (dCons (dC (.ty "bool")) dNil)))) (dOp geD (dVar 0) (dC (.int 0))))))
abbrev sp_is_count : DSp := self N_is_count 1 t_is_count
def N_is_place : List Str := ["value", "row"]
def t_is_place : DS := (dSeq (dIfS (dOrT (dNotT (dTru (dCB isiD (dCons (dVar 0) (dCons (dC (.ty "tuple")) dNil))))) (dOrT (dBool (dOp (eqD true) (dCB lenD (dCons (dVar 0) dNil)) (dC (.int 4)))) (dNotT (dTru (dCall sp_is_text (dCons (dOp ixD (dVar 0) (dC (.int 0))) dNil)))))) (dRet (dC (.bl false))) dNext)
    (dSeq (dIfS (dOrT (dNotT (dTru (dCall sp_are_texts (dCons (dOp ixD (dVar 0) (dC (.int 1))) dNil)))) (dBool (dOp gtD' (dCB lenD (dCons (dOp ixD (dVar 0) (dC (.int 1))) dNil)) (dC (.int 4))))) (dRet (dC (.bl false))) dNext)
    (dSeq (dIfS (dOrT (dNotT (dTru (dCB isiD (dCons (dOp ixD (dVar 0) (dC (.int 2))) (dCons (dC (.ty "tuple")) dNil))))) (dNotT (dTru (dCB allD (dCons (dLc (diAny (dOp ixD (dVar 0) (dC (.int 2)))) (gnD 1) dYes (dCall sp_are_answers (dCons (dVar 1) dNil)) [1]) dNil))))) (dRet (dC (.bl false))) dNext)
    (dRet (dCall sp_is_count (dCons (dOp ixD (dVar 0) (dC (.int 3))) dNil))))))
abbrev sp_is_place : DSp := self N_is_place 1 t_is_place
def N_is_name : List Str := ["value", "sign"]
def t_is_name : DS := (dSeq (dIfS (dOrT (dNotT (dTru (dCB isiD (dCons (dVar 0) (dCons (dC (.ty "str")) dNil))))) (dOrT (dNotT (dBool (dChain ltD leD (dC (.int 0)) (dCB lenD (dCons (dVar 0) dNil)) (dC (.int 8))))) (dBool (dOp (inD true) (dOp ixD (dVar 0) (dC (.int 0))) (dC (.str "abcdefghijklmnopqrstuvwxyz")))))) (dRet (dC (.bl false))) dNext)
    (dRet (dCB allD (dCons (dLc (diAny (dVar 0)) (gnD 1) dYes (dOp (inD false) (dVar 1) (dC (.str "abcdefghijklmnopqrstuvwxyz0123456789"))) [1]) dNil))))
abbrev sp_is_name : DSp := self N_is_name 1 t_is_name
def N_is_key : List Str := ["value"]
def t_is_key : DS := (dRet (dAnd (dCB isiD (dCons (dVar 0) (dCons (dC (.ty "tuple")) dNil))) (dAnd (dOp (eqD false) (dCB lenD (dCons (dVar 0) dNil)) (dC (.int 2))) (dAnd (dCall sp_is_name (dCons (dOp ixD (dVar 0) (dC (.int 0))) dNil)) (dCall sp_is_name (dCons (dOp ixD (dVar 0) (dC (.int 1))) dNil))))))
abbrev sp_is_key : DSp := self N_is_key 1 t_is_key
def N_are_keys : List Str := ["value", "item"]
def t_are_keys : DS := (dSeq (dIfS (dOrT (dNotT (dTru (dCB isiD (dCons (dVar 0) (dCons (dC (.ty "tuple")) dNil))))) (dOrT (dNotT (dBool (dChain ltD leD (dC (.int 0)) (dCB lenD (dCons (dVar 0) dNil)) (dC (.int 4))))) (dNotT (dTru (dCB allD (dCons (dLc (diAny (dVar 0)) (gnD 1) dYes (dCall sp_is_key (dCons (dVar 1) dNil)) [1]) dNil)))))) (dRet (dC (.bl false))) dNext)
    (dRet (dOp (eqD false) (dCB lenS (dCons (dSn (diAny (dVar 0)) (gnD 1) dYes (dVar 1) [1]) dNil)) (dCB lenD (dCons (dVar 0) dNil)))))
abbrev sp_are_keys : DSp := self N_are_keys 1 t_are_keys
def N_is_step : List Str := ["value", "keys", "output", "text"]
def t_is_step : DS := (dSeq (dIfS (dOrT (dNotT (dTru (dCB isiD (dCons (dVar 0) (dCons (dC (.ty "tuple")) dNil))))) (dOrT (dBool (dOp (eqD false) (dCB lenD (dCons (dVar 0) dNil)) (dC (.int 0)))) (dNotT (dTru (dCB isiD (dCons (dOp ixD (dVar 0) (dC (.int 0))) (dCons (dC (.ty "str")) dNil))))))) (dRet (dC (.bl false))) dNext)
    (dMatch (dVar 0) (cCons (mSeq 2 (mCons (mVal "read") (mCons mCap mNil))) [1] (dRet (dCall sp_are_keys (dCons (dVar 1) dNil)))
    (cCons (mSeq 3 (mCons (mVal "write") (mCons mCap (mCons mCap mNil)))) [2, 3] (dRet (dAnd (dCall sp_is_name (dCons (dVar 2) dNil)) (dCall sp_is_text (dCons (dVar 3) dNil))))
    (cCons mWild [] (dRet (dOp (eqD false) (dVar 0) (dTup (dCons (dC (.str "stop")) dNil))))
    cNil)))))
abbrev sp_is_step : DSp := self N_is_step 1 t_is_step
def N_law : List Str := ["_law_script", "_law_k", "_law_feed", "_law_things_here", "_law_thing", "_law_value", "_law_due", "_law_one"]
def t_law : DS := (dSeq (dFor (diRng1 (dCons (dCB max2D (dCons (dC (.int 2)) (dCons (dCB min2D (dCons (dC (.int 5)) (dCons (dCB lenD (dCons (dVar 0) dNil)) dNil))) dNil))) dNil)) (gnD 1) (dSeq (dAsg (dCall sp_feed_of (dCons (dVar 0) (dCons (dVar 1) dNil))) (gnD 2))
    (dSeq (dAsg (dCall sp_things (dCons (dVar 2) dNil)) (gnD 3))
    (dFor (diAny (dOp addD (dVar 3) (dLc (diAny (dOp addD (dOp addD (dVar 3) (dVar 3)) (dVar 3))) (gnD 7) dYes (dCall (sp_odd 12) (dCons (dVar 2) (dCons (dVar 7) dNil))) [7]))) (gnD 4) (dFor (diAny (dTup (dCons (dVar 4) (dCons (dCall (sp_odd 12) (dCons (dVar 2) (dCons (dVar 4) dNil))) dNil)))) (gnD 5) (dSeq (dAsg (dLst (dCons (dCall sp_l_is_key (dCons (dVar 5) dNil)) (dCons (dCall sp_l_is_step (dCons (dVar 5) dNil)) (dCons (dCall sp_l_is_place (dCons (dVar 5) dNil)) dNil)))) (gnD 6))
    (dIfS (dNotT (dTru (dCall (sp_same 12) (dCons (dLst (dCons (dCall sp_is_key (dCons (dVar 5) dNil)) (dCons (dCall sp_is_step (dCons (dVar 5) dNil)) (dCons (dCall sp_is_place (dCons (dVar 5) dNil)) dNil)))) (dCons (dVar 6) dNil))))) (dRet (dC (.bl false))) dNext)))))))
    (dRet (dC (.bl true))))
abbrev sp_law : DSp := self N_law 1 t_law
end K02

/-! what the common defs of the law do, at the data level -/
namespace K02
open PySem L2 FD
theorem feed_tail {ns : List Int} {k c : Int} {G : DG} {Q : DK} (h0 : 0 ≤ k) (h1 : k ≤ 1000) (hc : 0 ≤ c) (h : ∀ f G', G f = none → Feed f G' → Keep G G' → Q (.ref f) G') : 
    dSeq
              (dAsg (dIf (dBool (dOp geD (dVar 2) (dOp powD (dC (D.int 10)) (dC (D.int 18))))) (dVar 2) (dC (D.int 0)))
                (gnD 3))
              (dRet
                (dLst
                  (dCons (dVar 3)
                    (dCons
                      (dOp addD (dOp addD (dOp modD (dVar 2) (dC (D.int 1000003))) (dOp mulD (dC (D.int 11)) (dVar 1)))
                        (dC (D.int 1)))
                      dNil)))) { nx := fun x G' => Q D.non G', rt := Q } [some (D.fl (List.map D.int ns)), some (D.int k), some (D.int c), none] G := by
  have hm : 0 ≤ c % 1000003 := Int.emod_nonneg _ (by decide)
  have key : ∀ g, 0 ≤ g → kNew G (.lst [.int g, .int (c % 1000003 + 11 * k + 1)]) Q := fun g hg => new_ fun p G' hp e kk => h p G' hp ⟨g, _, hg, by omega, e⟩ kk
  try simp only [seq_, next_, ret_, drop_, ifs_, br_t, br_f, asg_, gn_, gt_, gtc_, gtn_, par_, var_0, var_s, c_, nil_, cons_, tup_, lst_, op_, bool_, kb_, tru_, tr_bl, andT_, orT_, kn_tt, kn_tf, kn_ff, kn_ft, notT_, and_, kand_t, kand_f, if_, bre_t, bre_f, call_, cb_, neg_, sl_, nopart_, part_, FD.sl_tup, eq_int0, eq_int1, eq_bl0, eq_bl1, beq_self_eq_true, Bool.not_true, Bool.not_false, add_int, add_tup, add_ref, int_, int0_, mul_int, mul_str, ord_int, FD.ix_tup, ix_fl, ix_ref, at_0, at_1, at_2, at_3, len_tup, len_fl, len_ref, max2_, min2_, tuple_tup, tuple_ref, is_, gs_, setL_, ml_, for_, rng1_, any_, lc_, FD.sl_ref, list_tup, dict0_, dn_, sortK_, val_tup, yes_, isLst_, List.set_cons_zero, List.set_cons_succ, or_, kor_t, kor_f, not_, chain_, kch_t, kch_f, ord_str, len_str, ordc_, strc_int, val_str, add_str, sl_strD, match_, cc_, kc_n, kc_s, cn_, wild_]
  refine ⟨⟨by decide, by decide, by decide⟩, ?_⟩
  by_cases hb : (10 : Int) ^ (18 : Int).toNat ≤ c
  · rw [decide_eq_true hb]
    try simp only [seq_, next_, ret_, drop_, ifs_, br_t, br_f, asg_, gn_, gt_, gtc_, gtn_, par_, var_0, var_s, c_, nil_, cons_, tup_, lst_, op_, bool_, kb_, tru_, tr_bl, andT_, orT_, kn_tt, kn_tf, kn_ff, kn_ft, notT_, and_, kand_t, kand_f, if_, bre_t, bre_f, call_, cb_, neg_, sl_, nopart_, part_, FD.sl_tup, eq_int0, eq_int1, eq_bl0, eq_bl1, beq_self_eq_true, Bool.not_true, Bool.not_false, add_int, add_tup, add_ref, int_, int0_, mul_int, mul_str, ord_int, FD.ix_tup, ix_fl, ix_ref, at_0, at_1, at_2, at_3, len_tup, len_fl, len_ref, max2_, min2_, tuple_tup, tuple_ref, is_, gs_, setL_, ml_, for_, rng1_, any_, lc_, FD.sl_ref, list_tup, dict0_, dn_, sortK_, val_tup, yes_, isLst_, List.set_cons_zero, List.set_cons_succ, or_, kor_t, kor_f, not_, chain_, kch_t, kch_f, ord_str, len_str, ordc_, strc_int, val_str, add_str, sl_strD, match_, cc_, kc_n, kc_s, cn_, wild_]
    exact ⟨by decide, .inl ⟨by decide, by decide⟩, by simp [sizeLine], key c hc⟩
  · rw [decide_eq_false hb]
    try simp only [seq_, next_, ret_, drop_, ifs_, br_t, br_f, asg_, gn_, gt_, gtc_, gtn_, par_, var_0, var_s, c_, nil_, cons_, tup_, lst_, op_, bool_, kb_, tru_, tr_bl, andT_, orT_, kn_tt, kn_tf, kn_ff, kn_ft, notT_, and_, kand_t, kand_f, if_, bre_t, bre_f, call_, cb_, neg_, sl_, nopart_, part_, FD.sl_tup, eq_int0, eq_int1, eq_bl0, eq_bl1, beq_self_eq_true, Bool.not_true, Bool.not_false, add_int, add_tup, add_ref, int_, int0_, mul_int, mul_str, ord_int, FD.ix_tup, ix_fl, ix_ref, at_0, at_1, at_2, at_3, len_tup, len_fl, len_ref, max2_, min2_, tuple_tup, tuple_ref, is_, gs_, setL_, ml_, for_, rng1_, any_, lc_, FD.sl_ref, list_tup, dict0_, dn_, sortK_, val_tup, yes_, isLst_, List.set_cons_zero, List.set_cons_succ, or_, kor_t, kor_f, not_, chain_, kch_t, kch_f, ord_str, len_str, ordc_, strc_int, val_str, add_str, sl_strD, match_, cc_, kc_n, kc_s, cn_, wild_]
    exact ⟨by decide, .inl ⟨by decide, by decide⟩, by simp [sizeLine], key 0 (Int.le_refl _)⟩
theorem feed_mid {ns : List Int} {k c : Int} {G : DG} {Q : DK} (h0 : 0 ≤ k) (h1 : k ≤ 1000) (h : ∀ f G', G f = none → Feed f G' → Keep G G' → Q (.ref f) G') : 
    dSeq
            (dIfS (dBool (dOp ltD (dVar 2) (dC (D.int 0))))
              (dAsg (dOp subD (dC (D.int 5)) (dOp mulD (dC (D.int 7)) (dVar 2))) (gnD 2)) dNext)
            (dSeq
              (dAsg (dIf (dBool (dOp geD (dVar 2) (dOp powD (dC (D.int 10)) (dC (D.int 18))))) (dVar 2) (dC (D.int 0)))
                (gnD 3))
              (dRet
                (dLst
                  (dCons (dVar 3)
                    (dCons
                      (dOp addD (dOp addD (dOp modD (dVar 2) (dC (D.int 1000003))) (dOp mulD (dC (D.int 11)) (dVar 1)))
                        (dC (D.int 1)))
                      dNil))))) { nx := fun x G' => Q D.non G', rt := Q } [some (D.fl (List.map D.int ns)), some (D.int k), some (D.int c), none] G := by
  rw [seq_]
  simp only [ifs_, bool_, op_, var_0, var_s, c_, ord_int, kb_]
  by_cases hb : c < 0
  · rw [decide_eq_true hb]
    simp only [br_t, asg_, op_, var_0, var_s, c_, mul_int, int0_, gn_, List.set_cons_zero, List.set_cons_succ]
    exact ⟨.inl ⟨by decide, by decide⟩, feed_tail h0 h1 (by omega) h⟩
  · rw [decide_eq_false hb]
    exact feed_tail h0 h1 (by omega) h
theorem feed_spec {ns : List Int} {k : Int} {G : DG} {Q : DK} (h0 : 0 ≤ k) (h1 : k ≤ 1000) (h : ∀ f G', G f = none → Feed f G' → Keep G G' → Q (.ref f) G') : sp_feed_of [.fl (ns.map D.int), .int k] G Q := by
  refine ⟨rfl, ?_⟩
  show t_feed_of _ [some (.fl (ns.map D.int)), some (.int k), none, none] G
  unfold t_feed_of
  try simp only [seq_, next_, ret_, drop_, ifs_, br_t, br_f, asg_, gn_, gt_, gtc_, gtn_, par_, var_0, var_s, c_, nil_, cons_, tup_, lst_, op_, bool_, kb_, tru_, tr_bl, andT_, orT_, kn_tt, kn_tf, kn_ff, kn_ft, notT_, and_, kand_t, kand_f, if_, bre_t, bre_f, call_, cb_, neg_, sl_, nopart_, part_, FD.sl_tup, eq_int0, eq_int1, eq_bl0, eq_bl1, beq_self_eq_true, Bool.not_true, Bool.not_false, add_int, add_tup, add_ref, int_, int0_, mul_int, mul_str, ord_int, FD.ix_tup, ix_fl, ix_ref, at_0, at_1, at_2, at_3, len_tup, len_fl, len_ref, max2_, min2_, tuple_tup, tuple_ref, is_, gs_, setL_, ml_, for_, rng1_, any_, lc_, FD.sl_ref, list_tup, dict0_, dn_, sortK_, val_tup, yes_, isLst_, List.set_cons_zero, List.set_cons_succ, or_, kor_t, kor_f, not_, chain_, kch_t, kch_f, ord_str, len_str, ordc_, strc_int, val_str, add_str, sl_strD, match_, cc_, kc_n, kc_s, cn_, wild_]
  refine ⟨.inl ⟨by decide, by decide⟩, ?_⟩
  by_cases hb : k < ((ns.map D.int).length : Int)
  · rw [decide_eq_true hb]
    try simp only [seq_, next_, ret_, drop_, ifs_, br_t, br_f, asg_, gn_, gt_, gtc_, gtn_, par_, var_0, var_s, c_, nil_, cons_, tup_, lst_, op_, bool_, kb_, tru_, tr_bl, andT_, orT_, kn_tt, kn_tf, kn_ff, kn_ft, notT_, and_, kand_t, kand_f, if_, bre_t, bre_f, call_, cb_, neg_, sl_, nopart_, part_, FD.sl_tup, eq_int0, eq_int1, eq_bl0, eq_bl1, beq_self_eq_true, Bool.not_true, Bool.not_false, add_int, add_tup, add_ref, int_, int0_, mul_int, mul_str, ord_int, FD.ix_tup, ix_fl, ix_ref, at_0, at_1, at_2, at_3, len_tup, len_fl, len_ref, max2_, min2_, tuple_tup, tuple_ref, is_, gs_, setL_, ml_, for_, rng1_, any_, lc_, FD.sl_ref, list_tup, dict0_, dn_, sortK_, val_tup, yes_, isLst_, List.set_cons_zero, List.set_cons_succ, or_, kor_t, kor_f, not_, chain_, kch_t, kch_f, ord_str, len_str, ordc_, strc_int, val_str, add_str, sl_strD, match_, cc_, kc_n, kc_s, cn_, wild_]
    refine at_in h0 hb fun d hd => ?_
    obtain ⟨c, _, rfl⟩ := List.mem_map.mp hd
    exact feed_mid h0 h1 h
  · rw [decide_eq_false hb]
    exact feed_mid h0 h1 h
theorem draw_spec {f : Addr} {m : Int} {G : DG} {Q : DK} (F : Feed f G) (h0 : 0 < m) (h1 : m < 1073741824) (h : ∀ d G', 0 ≤ d → d < m → Feed f G' → Ext f G G' → Q (.int d) G') : sp_draw [.ref f, .int m] G Q := by
  obtain ⟨g, n, hg, hn, e⟩ := F
  refine ⟨rfl, ?_⟩
  show t_draw _ [some (.ref f), some (.int m), none] G
  unfold t_draw
  try simp only [seq_, next_, ret_, drop_, ifs_, br_t, br_f, asg_, gn_, gt_, gtc_, gtn_, par_, var_0, var_s, c_, nil_, cons_, tup_, lst_, op_, bool_, kb_, tru_, tr_bl, andT_, orT_, kn_tt, kn_tf, kn_ff, kn_ft, notT_, and_, kand_t, kand_f, if_, bre_t, bre_f, call_, cb_, neg_, sl_, nopart_, part_, FD.sl_tup, eq_int0, eq_int1, eq_bl0, eq_bl1, beq_self_eq_true, Bool.not_true, Bool.not_false, add_int, add_tup, add_ref, int_, int0_, mul_int, mul_str, ord_int, FD.ix_tup, ix_fl, ix_ref, at_0, at_1, at_2, at_3, len_tup, len_fl, len_ref, max2_, min2_, tuple_tup, tuple_ref, is_, gs_, setL_, ml_, for_, rng1_, any_, lc_, FD.sl_ref, list_tup, dict0_, dn_, sortK_, val_tup, yes_, isLst_, List.set_cons_zero, List.set_cons_succ, or_, kor_t, kor_f, not_, chain_, kch_t, kch_f, ord_str, len_str, ordc_, strc_int, val_str, add_str, sl_strD, match_, cc_, kc_n, kc_s, cn_, wild_, ex_lst e]
  by_cases hb : 0 < g
  · rw [decide_eq_true hb]
    try simp only [seq_, next_, ret_, drop_, ifs_, br_t, br_f, asg_, gn_, gt_, gtc_, gtn_, par_, var_0, var_s, c_, nil_, cons_, tup_, lst_, op_, bool_, kb_, tru_, tr_bl, andT_, orT_, kn_tt, kn_tf, kn_ff, kn_ft, notT_, and_, kand_t, kand_f, if_, bre_t, bre_f, call_, cb_, neg_, sl_, nopart_, part_, FD.sl_tup, eq_int0, eq_int1, eq_bl0, eq_bl1, beq_self_eq_true, Bool.not_true, Bool.not_false, add_int, add_tup, add_ref, int_, int0_, mul_int, mul_str, ord_int, FD.ix_tup, ix_fl, ix_ref, at_0, at_1, at_2, at_3, len_tup, len_fl, len_ref, max2_, min2_, tuple_tup, tuple_ref, is_, gs_, setL_, ml_, for_, rng1_, any_, lc_, FD.sl_ref, list_tup, dict0_, dn_, sortK_, val_tup, yes_, isLst_, List.set_cons_zero, List.set_cons_succ, or_, kor_t, kor_f, not_, chain_, kch_t, kch_f, ord_str, len_str, ordc_, strc_int, val_str, add_str, sl_strD, match_, cc_, kc_n, kc_s, cn_, wild_, ex_lst e]
    refine ⟨h0, ⟨h0, h1⟩, [.int g, .int n], 0, e, rfl, ?_⟩
    exact h _ _ (Int.emod_nonneg _ (by omega)) (Int.emod_lt_of_pos _ h0) ⟨g / m, n, Int.ediv_nonneg hg (by omega), hn, gupd_same⟩ ext_upd
  · rw [decide_eq_false hb]
    try simp only [seq_, next_, ret_, drop_, ifs_, br_t, br_f, asg_, gn_, gt_, gtc_, gtn_, par_, var_0, var_s, c_, nil_, cons_, tup_, lst_, op_, bool_, kb_, tru_, tr_bl, andT_, orT_, kn_tt, kn_tf, kn_ff, kn_ft, notT_, and_, kand_t, kand_f, if_, bre_t, bre_f, call_, cb_, neg_, sl_, nopart_, part_, FD.sl_tup, eq_int0, eq_int1, eq_bl0, eq_bl1, beq_self_eq_true, Bool.not_true, Bool.not_false, add_int, add_tup, add_ref, int_, int0_, mul_int, mul_str, ord_int, FD.ix_tup, ix_fl, ix_ref, at_0, at_1, at_2, at_3, len_tup, len_fl, len_ref, max2_, min2_, tuple_tup, tuple_ref, is_, gs_, setL_, ml_, for_, rng1_, any_, lc_, FD.sl_ref, list_tup, dict0_, dn_, sortK_, val_tup, yes_, isLst_, List.set_cons_zero, List.set_cons_succ, or_, kor_t, kor_f, not_, chain_, kch_t, kch_f, ord_str, len_str, ordc_, strc_int, val_str, add_str, sl_strD, match_, cc_, kc_n, kc_s, cn_, wild_, ex_lst e]
    refine ⟨.inr ⟨by decide, by decide⟩, by decide, [.int g, .int n], 1, e, rfl, ?_⟩
    have e2 : (G.upd f (.lst [D.int g, D.int ((n * 48271 + 11) % 2147483647)])) f = some (.lst [.int g, .int ((n * 48271 + 11) % 2147483647)]) := gupd_same
    try simp only [seq_, next_, ret_, drop_, ifs_, br_t, br_f, asg_, gn_, gt_, gtc_, gtn_, par_, var_0, var_s, c_, nil_, cons_, tup_, lst_, op_, bool_, kb_, tru_, tr_bl, andT_, orT_, kn_tt, kn_tf, kn_ff, kn_ft, notT_, and_, kand_t, kand_f, if_, bre_t, bre_f, call_, cb_, neg_, sl_, nopart_, part_, FD.sl_tup, eq_int0, eq_int1, eq_bl0, eq_bl1, beq_self_eq_true, Bool.not_true, Bool.not_false, add_int, add_tup, add_ref, int_, int0_, mul_int, mul_str, ord_int, FD.ix_tup, ix_fl, ix_ref, at_0, at_1, at_2, at_3, len_tup, len_fl, len_ref, max2_, min2_, tuple_tup, tuple_ref, is_, gs_, setL_, ml_, for_, rng1_, any_, lc_, FD.sl_ref, list_tup, dict0_, dn_, sortK_, val_tup, yes_, isLst_, List.set_cons_zero, List.set_cons_succ, or_, kor_t, kor_f, not_, chain_, kch_t, kch_f, ord_str, len_str, ordc_, strc_int, val_str, add_str, sl_strD, match_, cc_, kc_n, kc_s, cn_, wild_, ex_lst e2]
    refine ⟨⟨by decide, by decide⟩, h0, ?_⟩
    exact h _ _ (Int.emod_nonneg _ (by omega)) (Int.emod_lt_of_pos _ h0) ⟨g, (n * 48271 + 11) % 2147483647, hg, Int.emod_nonneg _ (by decide), gupd_same⟩ ext_upd
theorem pick_spec {f l : Addr} {xs : List D} {G : DG} {Q : DK} (F : Feed f G) (hl : G l = some (.lst xs)) (hn : l ≠ f) (h0 : xs ≠ []) (h1 : xs.length < 1073741824) (h : ∀ x G', x ∈ xs → Feed f G' → Ext f G G' → Q x G') : sp_pick [.ref f, .ref l] G Q := by
  refine ⟨rfl, ?_⟩
  show t_pick _ [some (.ref f), some (.ref l)] G
  unfold t_pick
  try simp only [seq_, next_, ret_, drop_, ifs_, br_t, br_f, asg_, gn_, gt_, gtc_, gtn_, par_, var_0, var_s, c_, nil_, cons_, tup_, lst_, op_, bool_, kb_, tru_, tr_bl, andT_, orT_, kn_tt, kn_tf, kn_ff, kn_ft, notT_, and_, kand_t, kand_f, if_, bre_t, bre_f, call_, cb_, neg_, sl_, nopart_, part_, FD.sl_tup, eq_int0, eq_int1, eq_bl0, eq_bl1, beq_self_eq_true, Bool.not_true, Bool.not_false, add_int, add_tup, add_ref, int_, int0_, mul_int, mul_str, ord_int, FD.ix_tup, ix_fl, ix_ref, at_0, at_1, at_2, at_3, len_tup, len_fl, len_ref, max2_, min2_, tuple_tup, tuple_ref, is_, gs_, setL_, ml_, for_, rng1_, any_, lc_, FD.sl_ref, list_tup, dict0_, dn_, sortK_, val_tup, yes_, isLst_, List.set_cons_zero, List.set_cons_succ, or_, kor_t, kor_f, not_, chain_, kch_t, kch_f, ord_str, len_str, ordc_, strc_int, val_str, add_str, sl_strD, match_, cc_, kc_n, kc_s, cn_, wild_, ex_lst hl]
  have hp : 0 < xs.length := List.length_pos_iff.mpr h0
  refine draw_spec F (by omega) (by omega) fun d G' hd hm F' x' => ?_
  have hl' : G' l = some (.lst xs) := x' l _ hn hl
  try simp only [seq_, next_, ret_, drop_, ifs_, br_t, br_f, asg_, gn_, gt_, gtc_, gtn_, par_, var_0, var_s, c_, nil_, cons_, tup_, lst_, op_, bool_, kb_, tru_, tr_bl, andT_, orT_, kn_tt, kn_tf, kn_ff, kn_ft, notT_, and_, kand_t, kand_f, if_, bre_t, bre_f, call_, cb_, neg_, sl_, nopart_, part_, FD.sl_tup, eq_int0, eq_int1, eq_bl0, eq_bl1, beq_self_eq_true, Bool.not_true, Bool.not_false, add_int, add_tup, add_ref, int_, int0_, mul_int, mul_str, ord_int, FD.ix_tup, ix_fl, ix_ref, at_0, at_1, at_2, at_3, len_tup, len_fl, len_ref, max2_, min2_, tuple_tup, tuple_ref, is_, gs_, setL_, ml_, for_, rng1_, any_, lc_, FD.sl_ref, list_tup, dict0_, dn_, sortK_, val_tup, yes_, isLst_, List.set_cons_zero, List.set_cons_succ, or_, kor_t, kor_f, not_, chain_, kch_t, kch_f, ord_str, len_str, ordc_, strc_int, val_str, add_str, sl_strD, match_, cc_, kc_n, kc_s, cn_, wild_, ex_lst hl']
  exact at_in hd hm fun x hx => h x G' hx F' x'
theorem picks_spec {f : Addr} {z : Str} {G : DG} {Q : DK} (F : Feed f G) (h0 : z.cps.toList ≠ []) (h1 : z.length ≤ 1000) (h : ∀ c G', c ∈ z.cps.toList → Feed f G' → Ext f G G' → Q (.str ⟨#[c]⟩) G') : sp_pick [.ref f, .str z] G Q := by
  refine ⟨rfl, ?_⟩
  show t_pick _ [some (.ref f), some (.str z)] G
  unfold t_pick
  try simp only [seq_, next_, ret_, drop_, ifs_, br_t, br_f, asg_, gn_, gt_, gtc_, gtn_, par_, var_0, var_s, c_, nil_, cons_, tup_, lst_, op_, bool_, kb_, tru_, tr_bl, andT_, orT_, kn_tt, kn_tf, kn_ff, kn_ft, notT_, and_, kand_t, kand_f, if_, bre_t, bre_f, call_, cb_, neg_, sl_, nopart_, part_, FD.sl_tup, eq_int0, eq_int1, eq_bl0, eq_bl1, beq_self_eq_true, Bool.not_true, Bool.not_false, add_int, add_tup, add_ref, int_, int0_, mul_int, mul_str, ord_int, FD.ix_tup, ix_fl, ix_ref, at_0, at_1, at_2, at_3, len_tup, len_fl, len_ref, max2_, min2_, tuple_tup, tuple_ref, is_, gs_, setL_, ml_, for_, rng1_, any_, lc_, FD.sl_ref, list_tup, dict0_, dn_, sortK_, val_tup, yes_, isLst_, List.set_cons_zero, List.set_cons_succ, or_, kor_t, kor_f, not_, chain_, kch_t, kch_f, ord_str, len_str, ordc_, strc_int, val_str, add_str, sl_strD, match_, cc_, kc_n, kc_s, cn_, wild_]
  have hp : 0 < z.cps.toList.length := List.length_pos_iff.mpr h0
  have hz : z.length = z.cps.toList.length := rfl
  refine ⟨by simp only [sizeLine]; omega, draw_spec F (by omega) (by omega) fun d G' hd hm F' x' => ?_⟩
  have e : d.toNat < z.cps.toList.length := by omega
  refine ⟨by simp only [sizeLine]; omega, z.cps.toList[d.toNat], ?_, h _ G' (List.getElem_mem e) F' x'⟩
  unfold atI ixN
  rw [if_pos hd, if_pos (by omega)]
  exact List.getElem?_eq_getElem e
end K02

/-! texts with bounds; what is drawn -/
namespace K02
open PySem L2 FD
def SOk (n : Nat) (s : Str) : Prop := PyData.strOk s = true ∧ s.length ≤ n
theorem SOk.mono {n m : Nat} {s : Str} (h : SOk n s) (hm : n ≤ m) : SOk m s := ⟨h.1, Nat.le_trans h.2 hm⟩
theorem sok_iff {s : Str} : PyData.strOk s = true ↔ ∀ c ∈ s.cps.toList, c < 0x110000 := by
  unfold PyData.strOk
  rw [← Array.all_toList, List.all_eq_true]
  exact ⟨fun h c hc => by simpa using h c hc, fun h c hc => by simpa using h c hc⟩
theorem cps_app {s t : Str} : (s ++ t).cps.toList = s.cps.toList ++ t.cps.toList := by
  show (s.cps ++ t.cps).toList = _
  rw [Array.toList_append]
theorem sok_app {m n : Nat} {s t : Str} (hs : SOk m s) (ht : SOk n t) : SOk (m + n) (s ++ t) := by
  refine ⟨sok_iff.mpr fun c hc => ?_, ?_⟩
  · rw [cps_app] at hc
    rcases List.mem_append.mp hc with hc | hc
    · exact sok_iff.mp hs.1 c hc
    · exact sok_iff.mp ht.1 c hc
  · show (s.cps ++ t.cps).size ≤ _
    rw [Array.size_append]
    have h1 := hs.2
    have h2 := ht.2
    unfold Str.length at h1 h2
    omega
theorem sok_cut {n : Nat} {s : Str} {lo hi : Option Int} (hs : SOk n s) : SOk n (cutS s lo hi) := by
  refine ⟨sok_iff.mpr fun c hc => ?_, Nat.le_trans (cutS_length s lo hi) hs.2⟩
  exact sok_iff.mp hs.1 c (List.mem_of_mem_drop (List.mem_of_mem_take hc))
theorem sok_chr {c : Nat} (h : c < 0x110000) : SOk 1 ⟨#[c]⟩ := by
  refine ⟨sok_iff.mpr fun d hd => ?_, Nat.le_refl _⟩
  have : d = c := by simpa using hd
  omega
theorem all_foldl {p : Nat → Bool} {x : Array Nat} (hx : x.all p = true) : ∀ (k : Nat) (acc : Array Nat), acc.all p = true → ((List.replicate k x).foldl (· ++ ·) acc).all p = true
  | 0, acc, h => h
  | k + 1, acc, h => by
    rw [List.replicate_succ, List.foldl_cons]
    exact all_foldl hx k (acc ++ x) (by rw [Array.all_append, h, hx]; rfl)
theorem size_foldl {x : Array Nat} : ∀ (k : Nat) (acc : Array Nat), ((List.replicate k x).foldl (· ++ ·) acc).size = acc.size + k * x.size
  | 0, acc => by simp
  | k + 1, acc => by
    rw [List.replicate_succ, List.foldl_cons, size_foldl k (acc ++ x), Array.size_append, Nat.succ_mul]; omega
theorem sok_mul {x : Str} {n : Int} (h : SOk 1 x) (h1 : n ≤ 500) : SOk 500 (Txt.mul x n) := by
  unfold Txt.mul
  split
  · exact ⟨by decide +kernel, by decide +kernel⟩
  · split
    · exact h.mono (by decide)
    · refine ⟨?_, ?_⟩
      · unfold PyData.strOk
        exact all_foldl h.1 _ _ (by decide +kernel)
      · show ((List.replicate n.toNat x.cps).foldl (· ++ ·) #[]).size ≤ 500
        rw [size_foldl]
        have h2 := h.2
        unfold Str.length at h2
        have : n.toNat * x.cps.size ≤ 500 * 1 := Nat.mul_le_mul (by omega) h2
        simpa using this
theorem mul_ok {x : Str} {n : Int} (h : SOk 1 x) (h0 : 0 ≤ n) (h1 : n ≤ 500) : MulOk x n := by
  have h2 := h.2
  refine ⟨by simp; omega, fun h3 _ => ?_, fun _ _ => ?_⟩
  · have : (1 : Int) ≤ (2 ^ 63 - 1) / n := by
      rw [Int.le_ediv_iff_mul_le (by omega)]; omega
    omega
  · have : x.length * n.toNat ≤ 1 * 500 := Nat.mul_le_mul h2 (by omega)
    exact decide_eq_false (by simp only [sizeLine]; omega)
def Tx (d : D) : Prop := ∃ s, d = .str s ∧ SOk 1000 s
def An (d : D) : Prop := d = .non ∨ Tx d
theorem Tx.pb {b k : Nat} {d : D} (h : Tx d) : Pb b k d := by
  obtain ⟨s, rfl, h⟩ := h
  exact pb_str.mpr h
theorem An.pb {b k : Nat} {d : D} (h : An d) : Pb b k d := by
  rcases h with rfl | h
  · exact pb_non
  · exact h.pb
theorem calls_spec {G : DG} {Q : DK} (h : ∀ p G', G p = none → G' p = some (.lst [.str "make", .str "", .str "r 2", .str "Mend!", .str "m"]) → Keep G G' → Q (.ref p) G') : sp_calls [] G Q := by
  refine ⟨rfl, ?_⟩
  show t_calls _ [] G
  unfold t_calls
  try simp only [seq_, next_, ret_, drop_, ifs_, br_t, br_f, asg_, gn_, gt_, gtc_, gtn_, par_, var_0, var_s, c_, nil_, cons_, tup_, lst_, op_, bool_, kb_, tru_, tr_bl, andT_, orT_, kn_tt, kn_tf, kn_ff, kn_ft, notT_, and_, kand_t, kand_f, if_, bre_t, bre_f, call_, cb_, neg_, sl_, nopart_, part_, FD.sl_tup, eq_int0, eq_int1, eq_bl0, eq_bl1, beq_self_eq_true, Bool.not_true, Bool.not_false, add_int, add_tup, add_ref, int_, int0_, mul_int, mul_str, ord_int, FD.ix_tup, ix_fl, ix_ref, at_0, at_1, at_2, at_3, len_tup, len_fl, len_ref, max2_, min2_, tuple_tup, tuple_ref, is_, gs_, setL_, ml_, for_, rng1_, any_, lc_, FD.sl_ref, list_tup, dict0_, dn_, sortK_, val_tup, yes_, isLst_, List.set_cons_zero, List.set_cons_succ, or_, kor_t, kor_f, not_, chain_, kch_t, kch_f, ord_str, len_str, ordc_, strc_int, val_str, add_str, sl_strD, match_, cc_, kc_n, kc_s, cn_, wild_]
  exact ⟨by simp [sizeLine], new_ h⟩
theorem tx_c {s : Str} (h : (PyData.strOk s && decide (s.length ≤ 1000)) = true) : Tx (.str s) := by
  rw [Bool.and_eq_true, decide_eq_true_iff] at h
  exact ⟨s, rfl, h⟩
theorem text_spec {f : Addr} {G : DG} {Q : DK} (F : Feed f G) (h : ∀ d G', Tx d → Feed f G' → Ext f G G' → Q d G') : sp_some_text [.ref f] G Q := by
  refine ⟨rfl, ?_⟩
  show t_some_text _ [some (.ref f), none, none] G
  unfold t_some_text
  try simp only [seq_, next_, ret_, drop_, ifs_, br_t, br_f, asg_, gn_, gt_, gtc_, gtn_, par_, var_0, var_s, c_, nil_, cons_, tup_, lst_, op_, bool_, kb_, tru_, tr_bl, andT_, orT_, kn_tt, kn_tf, kn_ff, kn_ft, notT_, and_, kand_t, kand_f, if_, bre_t, bre_f, call_, cb_, neg_, sl_, nopart_, part_, FD.sl_tup, eq_int0, eq_int1, eq_bl0, eq_bl1, beq_self_eq_true, Bool.not_true, Bool.not_false, add_int, add_tup, add_ref, int_, int0_, mul_int, mul_str, ord_int, FD.ix_tup, ix_fl, ix_ref, at_0, at_1, at_2, at_3, len_tup, len_fl, len_ref, max2_, min2_, tuple_tup, tuple_ref, is_, gs_, setL_, ml_, for_, rng1_, any_, lc_, FD.sl_ref, list_tup, dict0_, dn_, sortK_, val_tup, yes_, isLst_, List.set_cons_zero, List.set_cons_succ, or_, kor_t, kor_f, not_, chain_, kch_t, kch_f, ord_str, len_str, ordc_, strc_int, val_str, add_str, sl_strD, match_, cc_, kc_n, kc_s, cn_, wild_]
  refine draw_spec F (by decide) (by decide) fun d G1 d0 d1 F1 x1 => ?_
  try simp only [seq_, next_, ret_, drop_, ifs_, br_t, br_f, asg_, gn_, gt_, gtc_, gtn_, par_, var_0, var_s, c_, nil_, cons_, tup_, lst_, op_, bool_, kb_, tru_, tr_bl, andT_, orT_, kn_tt, kn_tf, kn_ff, kn_ft, notT_, and_, kand_t, kand_f, if_, bre_t, bre_f, call_, cb_, neg_, sl_, nopart_, part_, FD.sl_tup, eq_int0, eq_int1, eq_bl0, eq_bl1, beq_self_eq_true, Bool.not_true, Bool.not_false, add_int, add_tup, add_ref, int_, int0_, mul_int, mul_str, ord_int, FD.ix_tup, ix_fl, ix_ref, at_0, at_1, at_2, at_3, len_tup, len_fl, len_ref, max2_, min2_, tuple_tup, tuple_ref, is_, gs_, setL_, ml_, for_, rng1_, any_, lc_, FD.sl_ref, list_tup, dict0_, dn_, sortK_, val_tup, yes_, isLst_, List.set_cons_zero, List.set_cons_succ, or_, kor_t, kor_f, not_, chain_, kch_t, kch_f, ord_str, len_str, ordc_, strc_int, val_str, add_str, sl_strD, match_, cc_, kc_n, kc_s, cn_, wild_]
  by_cases h7 : d = 7
  · subst h7
    try simp only [seq_, next_, ret_, drop_, ifs_, br_t, br_f, asg_, gn_, gt_, gtc_, gtn_, par_, var_0, var_s, c_, nil_, cons_, tup_, lst_, op_, bool_, kb_, tru_, tr_bl, andT_, orT_, kn_tt, kn_tf, kn_ff, kn_ft, notT_, and_, kand_t, kand_f, if_, bre_t, bre_f, call_, cb_, neg_, sl_, nopart_, part_, FD.sl_tup, eq_int0, eq_int1, eq_bl0, eq_bl1, beq_self_eq_true, Bool.not_true, Bool.not_false, add_int, add_tup, add_ref, int_, int0_, mul_int, mul_str, ord_int, FD.ix_tup, ix_fl, ix_ref, at_0, at_1, at_2, at_3, len_tup, len_fl, len_ref, max2_, min2_, tuple_tup, tuple_ref, is_, gs_, setL_, ml_, for_, rng1_, any_, lc_, FD.sl_ref, list_tup, dict0_, dn_, sortK_, val_tup, yes_, isLst_, List.set_cons_zero, List.set_cons_succ, or_, kor_t, kor_f, not_, chain_, kch_t, kch_f, ord_str, len_str, ordc_, strc_int, val_str, add_str, sl_strD, match_, cc_, kc_n, kc_s, cn_, wild_]
    refine calls_spec fun p G2 hp e k => ?_
    refine pick_spec (F1.keep k) e (F1.ne hp) (by simp) (by simp) fun x G3 hx F3 x3 => ?_
    refine h x G3 ?_ F3 (x1.trans (k.ext.trans x3))
    simp only [List.mem_cons, List.not_mem_nil, or_false] at hx
    rcases hx with rfl | rfl | rfl | rfl | rfl <;> exact tx_c (by decide +kernel)
  have b7 : (d == 7) = false := by simpa using h7
  rw [b7]
  try simp only [seq_, next_, ret_, drop_, ifs_, br_t, br_f, asg_, gn_, gt_, gtc_, gtn_, par_, var_0, var_s, c_, nil_, cons_, tup_, lst_, op_, bool_, kb_, tru_, tr_bl, andT_, orT_, kn_tt, kn_tf, kn_ff, kn_ft, notT_, and_, kand_t, kand_f, if_, bre_t, bre_f, call_, cb_, neg_, sl_, nopart_, part_, FD.sl_tup, eq_int0, eq_int1, eq_bl0, eq_bl1, beq_self_eq_true, Bool.not_true, Bool.not_false, add_int, add_tup, add_ref, int_, int0_, mul_int, mul_str, ord_int, FD.ix_tup, ix_fl, ix_ref, at_0, at_1, at_2, at_3, len_tup, len_fl, len_ref, max2_, min2_, tuple_tup, tuple_ref, is_, gs_, setL_, ml_, for_, rng1_, any_, lc_, FD.sl_ref, list_tup, dict0_, dn_, sortK_, val_tup, yes_, isLst_, List.set_cons_zero, List.set_cons_succ, or_, kor_t, kor_f, not_, chain_, kch_t, kch_f, ord_str, len_str, ordc_, strc_int, val_str, add_str, sl_strD, match_, cc_, kc_n, kc_s, cn_, wild_]
  by_cases h6 : d = 6
  · subst h6
    try simp only [seq_, next_, ret_, drop_, ifs_, br_t, br_f, asg_, gn_, gt_, gtc_, gtn_, par_, var_0, var_s, c_, nil_, cons_, tup_, lst_, op_, bool_, kb_, tru_, tr_bl, andT_, orT_, kn_tt, kn_tf, kn_ff, kn_ft, notT_, and_, kand_t, kand_f, if_, bre_t, bre_f, call_, cb_, neg_, sl_, nopart_, part_, FD.sl_tup, eq_int0, eq_int1, eq_bl0, eq_bl1, beq_self_eq_true, Bool.not_true, Bool.not_false, add_int, add_tup, add_ref, int_, int0_, mul_int, mul_str, ord_int, FD.ix_tup, ix_fl, ix_ref, at_0, at_1, at_2, at_3, len_tup, len_fl, len_ref, max2_, min2_, tuple_tup, tuple_ref, is_, gs_, setL_, ml_, for_, rng1_, any_, lc_, FD.sl_ref, list_tup, dict0_, dn_, sortK_, val_tup, yes_, isLst_, List.set_cons_zero, List.set_cons_succ, or_, kor_t, kor_f, not_, chain_, kch_t, kch_f, ord_str, len_str, ordc_, strc_int, val_str, add_str, sl_strD, match_, cc_, kc_n, kc_s, cn_, wild_]
    refine draw_spec F1 (by decide) (by decide) fun d2 G2 a0 a1 F2 x2 => ?_
    try simp only [seq_, next_, ret_, drop_, ifs_, br_t, br_f, asg_, gn_, gt_, gtc_, gtn_, par_, var_0, var_s, c_, nil_, cons_, tup_, lst_, op_, bool_, kb_, tru_, tr_bl, andT_, orT_, kn_tt, kn_tf, kn_ff, kn_ft, notT_, and_, kand_t, kand_f, if_, bre_t, bre_f, call_, cb_, neg_, sl_, nopart_, part_, FD.sl_tup, eq_int0, eq_int1, eq_bl0, eq_bl1, beq_self_eq_true, Bool.not_true, Bool.not_false, add_int, add_tup, add_ref, int_, int0_, mul_int, mul_str, ord_int, FD.ix_tup, ix_fl, ix_ref, at_0, at_1, at_2, at_3, len_tup, len_fl, len_ref, max2_, min2_, tuple_tup, tuple_ref, is_, gs_, setL_, ml_, for_, rng1_, any_, lc_, FD.sl_ref, list_tup, dict0_, dn_, sortK_, val_tup, yes_, isLst_, List.set_cons_zero, List.set_cons_succ, or_, kor_t, kor_f, not_, chain_, kch_t, kch_f, ord_str, len_str, ordc_, strc_int, val_str, add_str, sl_strD, match_, cc_, kc_n, kc_s, cn_, wild_]
    refine ⟨by simp [sizeLine], ?_⟩
    refine new_ fun p G3 hp e k => ?_
    try simp only [seq_, next_, ret_, drop_, ifs_, br_t, br_f, asg_, gn_, gt_, gtc_, gtn_, par_, var_0, var_s, c_, nil_, cons_, tup_, lst_, op_, bool_, kb_, tru_, tr_bl, andT_, orT_, kn_tt, kn_tf, kn_ff, kn_ft, notT_, and_, kand_t, kand_f, if_, bre_t, bre_f, call_, cb_, neg_, sl_, nopart_, part_, FD.sl_tup, eq_int0, eq_int1, eq_bl0, eq_bl1, beq_self_eq_true, Bool.not_true, Bool.not_false, add_int, add_tup, add_ref, int_, int0_, mul_int, mul_str, ord_int, FD.ix_tup, ix_fl, ix_ref, at_0, at_1, at_2, at_3, len_tup, len_fl, len_ref, max2_, min2_, tuple_tup, tuple_ref, is_, gs_, setL_, ml_, for_, rng1_, any_, lc_, FD.sl_ref, list_tup, dict0_, dn_, sortK_, val_tup, yes_, isLst_, List.set_cons_zero, List.set_cons_succ, or_, kor_t, kor_f, not_, chain_, kch_t, kch_f, ord_str, len_str, ordc_, strc_int, val_str, add_str, sl_strD, match_, cc_, kc_n, kc_s, cn_, wild_]
    refine draw_spec (F2.keep k) (by decide) (by decide) fun d3 G4 b0 b1 F4 x4 => ?_
    have e4 := x4.get (F2.ne hp) e
    try simp only [seq_, next_, ret_, drop_, ifs_, br_t, br_f, asg_, gn_, gt_, gtc_, gtn_, par_, var_0, var_s, c_, nil_, cons_, tup_, lst_, op_, bool_, kb_, tru_, tr_bl, andT_, orT_, kn_tt, kn_tf, kn_ff, kn_ft, notT_, and_, kand_t, kand_f, if_, bre_t, bre_f, call_, cb_, neg_, sl_, nopart_, part_, FD.sl_tup, eq_int0, eq_int1, eq_bl0, eq_bl1, beq_self_eq_true, Bool.not_true, Bool.not_false, add_int, add_tup, add_ref, int_, int0_, mul_int, mul_str, ord_int, FD.ix_tup, ix_fl, ix_ref, at_0, at_1, at_2, at_3, len_tup, len_fl, len_ref, max2_, min2_, tuple_tup, tuple_ref, is_, gs_, setL_, ml_, for_, rng1_, any_, lc_, FD.sl_ref, list_tup, dict0_, dn_, sortK_, val_tup, yes_, isLst_, List.set_cons_zero, List.set_cons_succ, or_, kor_t, kor_f, not_, chain_, kch_t, kch_f, ord_str, len_str, ordc_, strc_int, val_str, add_str, sl_strD, match_, cc_, kc_n, kc_s, cn_, wild_, ex_lst e4]
    refine ⟨⟨by decide, by decide⟩, ?_⟩
    refine at_in (by omega) (by simp; omega) fun n hn => ?_
    have hn' : ∃ m : Int, n = .int m ∧ 1 ≤ m ∧ m ≤ 400 := by
      simp only [List.mem_cons, List.not_mem_nil, or_false] at hn
      rcases hn with rfl | rfl
      · exact ⟨_, rfl, by omega, by omega⟩
      · exact ⟨_, rfl, by omega, by omega⟩
    obtain ⟨m, rfl, m0, m1⟩ := hn'
    try simp only [seq_, next_, ret_, drop_, ifs_, br_t, br_f, asg_, gn_, gt_, gtc_, gtn_, par_, var_0, var_s, c_, nil_, cons_, tup_, lst_, op_, bool_, kb_, tru_, tr_bl, andT_, orT_, kn_tt, kn_tf, kn_ff, kn_ft, notT_, and_, kand_t, kand_f, if_, bre_t, bre_f, call_, cb_, neg_, sl_, nopart_, part_, FD.sl_tup, eq_int0, eq_int1, eq_bl0, eq_bl1, beq_self_eq_true, Bool.not_true, Bool.not_false, add_int, add_tup, add_ref, int_, int0_, mul_int, mul_str, ord_int, FD.ix_tup, ix_fl, ix_ref, at_0, at_1, at_2, at_3, len_tup, len_fl, len_ref, max2_, min2_, tuple_tup, tuple_ref, is_, gs_, setL_, ml_, for_, rng1_, any_, lc_, FD.sl_ref, list_tup, dict0_, dn_, sortK_, val_tup, yes_, isLst_, List.set_cons_zero, List.set_cons_succ, or_, kor_t, kor_f, not_, chain_, kch_t, kch_f, ord_str, len_str, ordc_, strc_int, val_str, add_str, sl_strD, match_, cc_, kc_n, kc_s, cn_, wild_]
    have hx1 : SOk 1 "x" := ⟨by decide +kernel, by decide +kernel⟩
    refine ⟨mul_ok hx1 (by omega) (by omega), by simp [sizeLine], ?_⟩
    refine new_ fun q G5 hq e5 k5 => ?_
    refine pick_spec (F4.keep k5) e5 (F4.ne hq) (by simp) (by simp) fun x G6 hx F6 x6 => ?_
    refine h x G6 ?_ F6 (x1.trans (x2.trans (k.ext.trans (x4.trans (k5.ext.trans x6)))))
    simp only [List.mem_cons, List.not_mem_nil, or_false] at hx
    rcases hx with rfl | rfl | rfl | rfl | rfl | rfl | rfl | rfl | rfl | rfl <;> first | exact tx_c (by decide +kernel) | exact ⟨_, rfl, (sok_mul hx1 (by omega)).mono (by decide)⟩
  have b6 : (d == 6) = false := by simpa using h6
  rw [b6]
  try simp only [seq_, next_, ret_, drop_, ifs_, br_t, br_f, asg_, gn_, gt_, gtc_, gtn_, par_, var_0, var_s, c_, nil_, cons_, tup_, lst_, op_, bool_, kb_, tru_, tr_bl, andT_, orT_, kn_tt, kn_tf, kn_ff, kn_ft, notT_, and_, kand_t, kand_f, if_, bre_t, bre_f, call_, cb_, neg_, sl_, nopart_, part_, FD.sl_tup, eq_int0, eq_int1, eq_bl0, eq_bl1, beq_self_eq_true, Bool.not_true, Bool.not_false, add_int, add_tup, add_ref, int_, int0_, mul_int, mul_str, ord_int, FD.ix_tup, ix_fl, ix_ref, at_0, at_1, at_2, at_3, len_tup, len_fl, len_ref, max2_, min2_, tuple_tup, tuple_ref, is_, gs_, setL_, ml_, for_, rng1_, any_, lc_, FD.sl_ref, list_tup, dict0_, dn_, sortK_, val_tup, yes_, isLst_, List.set_cons_zero, List.set_cons_succ, or_, kor_t, kor_f, not_, chain_, kch_t, kch_f, ord_str, len_str, ordc_, strc_int, val_str, add_str, sl_strD, match_, cc_, kc_n, kc_s, cn_, wild_]
  refine ⟨by simp [sizeLine], ?_⟩
  refine new_ fun q G5 hq e5 k5 => ?_
  try simp only [seq_, next_, ret_, drop_, ifs_, br_t, br_f, asg_, gn_, gt_, gtc_, gtn_, par_, var_0, var_s, c_, nil_, cons_, tup_, lst_, op_, bool_, kb_, tru_, tr_bl, andT_, orT_, kn_tt, kn_tf, kn_ff, kn_ft, notT_, and_, kand_t, kand_f, if_, bre_t, bre_f, call_, cb_, neg_, sl_, nopart_, part_, FD.sl_tup, eq_int0, eq_int1, eq_bl0, eq_bl1, beq_self_eq_true, Bool.not_true, Bool.not_false, add_int, add_tup, add_ref, int_, int0_, mul_int, mul_str, ord_int, FD.ix_tup, ix_fl, ix_ref, at_0, at_1, at_2, at_3, len_tup, len_fl, len_ref, max2_, min2_, tuple_tup, tuple_ref, is_, gs_, setL_, ml_, for_, rng1_, any_, lc_, FD.sl_ref, list_tup, dict0_, dn_, sortK_, val_tup, yes_, isLst_, List.set_cons_zero, List.set_cons_succ, or_, kor_t, kor_f, not_, chain_, kch_t, kch_f, ord_str, len_str, ordc_, strc_int, val_str, add_str, sl_strD, match_, cc_, kc_n, kc_s, cn_, wild_, ex_lst e5]
  refine at_in d0 (by simp; omega) fun x hx => ?_
  refine h x G5 ?_ (F1.keep k5) (x1.trans k5.ext)
  simp only [List.mem_cons, List.not_mem_nil, or_false] at hx
  rcases hx with rfl | rfl | rfl | rfl | rfl | rfl <;> exact tx_c (by decide +kernel)
theorem answer_spec {f : Addr} {G : DG} {Q : DK} (F : Feed f G) (h : ∀ d G', An d → Feed f G' → Ext f G G' → Q d G') : sp_some_answer [.ref f] G Q := by
  refine ⟨rfl, ?_⟩
  show t_some_answer _ [some (.ref f)] G
  unfold t_some_answer
  try simp only [seq_, next_, ret_, drop_, ifs_, br_t, br_f, asg_, gn_, gt_, gtc_, gtn_, par_, var_0, var_s, c_, nil_, cons_, tup_, lst_, op_, bool_, kb_, tru_, tr_bl, andT_, orT_, kn_tt, kn_tf, kn_ff, kn_ft, notT_, and_, kand_t, kand_f, if_, bre_t, bre_f, call_, cb_, neg_, sl_, nopart_, part_, FD.sl_tup, eq_int0, eq_int1, eq_bl0, eq_bl1, beq_self_eq_true, Bool.not_true, Bool.not_false, add_int, add_tup, add_ref, int_, int0_, mul_int, mul_str, ord_int, FD.ix_tup, ix_fl, ix_ref, at_0, at_1, at_2, at_3, len_tup, len_fl, len_ref, max2_, min2_, tuple_tup, tuple_ref, is_, gs_, setL_, ml_, for_, rng1_, any_, lc_, FD.sl_ref, list_tup, dict0_, dn_, sortK_, val_tup, yes_, isLst_, List.set_cons_zero, List.set_cons_succ, or_, kor_t, kor_f, not_, chain_, kch_t, kch_f, ord_str, len_str, ordc_, strc_int, val_str, add_str, sl_strD, match_, cc_, kc_n, kc_s, cn_, wild_]
  refine draw_spec F (by decide) (by decide) fun d G1 d0 d1 F1 x1 => ?_
  try simp only [seq_, next_, ret_, drop_, ifs_, br_t, br_f, asg_, gn_, gt_, gtc_, gtn_, par_, var_0, var_s, c_, nil_, cons_, tup_, lst_, op_, bool_, kb_, tru_, tr_bl, andT_, orT_, kn_tt, kn_tf, kn_ff, kn_ft, notT_, and_, kand_t, kand_f, if_, bre_t, bre_f, call_, cb_, neg_, sl_, nopart_, part_, FD.sl_tup, eq_int0, eq_int1, eq_bl0, eq_bl1, beq_self_eq_true, Bool.not_true, Bool.not_false, add_int, add_tup, add_ref, int_, int0_, mul_int, mul_str, ord_int, FD.ix_tup, ix_fl, ix_ref, at_0, at_1, at_2, at_3, len_tup, len_fl, len_ref, max2_, min2_, tuple_tup, tuple_ref, is_, gs_, setL_, ml_, for_, rng1_, any_, lc_, FD.sl_ref, list_tup, dict0_, dn_, sortK_, val_tup, yes_, isLst_, List.set_cons_zero, List.set_cons_succ, or_, kor_t, kor_f, not_, chain_, kch_t, kch_f, ord_str, len_str, ordc_, strc_int, val_str, add_str, sl_strD, match_, cc_, kc_n, kc_s, cn_, wild_]
  by_cases hd : d = 0
  · subst hd
    exact h _ _ (.inl rfl) F1 x1
  have bd : (d == 0) = false := by simpa using hd
  rw [bd]
  try simp only [seq_, next_, ret_, drop_, ifs_, br_t, br_f, asg_, gn_, gt_, gtc_, gtn_, par_, var_0, var_s, c_, nil_, cons_, tup_, lst_, op_, bool_, kb_, tru_, tr_bl, andT_, orT_, kn_tt, kn_tf, kn_ff, kn_ft, notT_, and_, kand_t, kand_f, if_, bre_t, bre_f, call_, cb_, neg_, sl_, nopart_, part_, FD.sl_tup, eq_int0, eq_int1, eq_bl0, eq_bl1, beq_self_eq_true, Bool.not_true, Bool.not_false, add_int, add_tup, add_ref, int_, int0_, mul_int, mul_str, ord_int, FD.ix_tup, ix_fl, ix_ref, at_0, at_1, at_2, at_3, len_tup, len_fl, len_ref, max2_, min2_, tuple_tup, tuple_ref, is_, gs_, setL_, ml_, for_, rng1_, any_, lc_, FD.sl_ref, list_tup, dict0_, dn_, sortK_, val_tup, yes_, isLst_, List.set_cons_zero, List.set_cons_succ, or_, kor_t, kor_f, not_, chain_, kch_t, kch_f, ord_str, len_str, ordc_, strc_int, val_str, add_str, sl_strD, match_, cc_, kc_n, kc_s, cn_, wild_]
  exact text_spec F1 fun x G2 hx F2 x2 => h x G2 (.inr hx) F2 (x1.trans x2)
def SIGNS : Str := " !\"#$&'()*+,-./0123456789:;<=>?@ABCDEFGHIJKLMNOPQRSTUVWXYZ" ++ "[\\]^_`abcdefghijklmnopqrstuvwxyz{|}~"
theorem signs_spec {G : DG} {Q : DK} (h : Q (.str SIGNS) G) : sp_signs [] G Q := by
  refine ⟨rfl, ?_⟩
  show t_signs _ [none] G
  unfold t_signs
  try simp only [seq_, next_, ret_, drop_, ifs_, br_t, br_f, asg_, gn_, gt_, gtc_, gtn_, par_, var_0, var_s, c_, nil_, cons_, tup_, lst_, op_, bool_, kb_, tru_, tr_bl, andT_, orT_, kn_tt, kn_tf, kn_ff, kn_ft, notT_, and_, kand_t, kand_f, if_, bre_t, bre_f, call_, cb_, neg_, sl_, nopart_, part_, FD.sl_tup, eq_int0, eq_int1, eq_bl0, eq_bl1, beq_self_eq_true, Bool.not_true, Bool.not_false, add_int, add_tup, add_ref, int_, int0_, mul_int, mul_str, ord_int, FD.ix_tup, ix_fl, ix_ref, at_0, at_1, at_2, at_3, len_tup, len_fl, len_ref, max2_, min2_, tuple_tup, tuple_ref, is_, gs_, setL_, ml_, for_, rng1_, any_, lc_, FD.sl_ref, list_tup, dict0_, dn_, sortK_, val_tup, yes_, isLst_, List.set_cons_zero, List.set_cons_succ, or_, kor_t, kor_f, not_, chain_, kch_t, kch_f, ord_str, len_str, ordc_, strc_int, val_str, add_str, sl_strD, match_, cc_, kc_n, kc_s, cn_, wild_]
  exact ⟨by decide +kernel, h⟩
/-- a word: a text of at most 30 signs -/
def Wd (d : D) : Prop := ∃ s, d = .str s ∧ SOk 30 s
theorem Wd.tx {d : D} (h : Wd d) : Tx d := by
  obtain ⟨s, rfl, h⟩ := h
  exact ⟨s, rfl, h.mono (by decide)⟩
theorem word_spec {f : Addr} {G : DG} {Q : DK} (F : Feed f G) (h : ∀ d G', Wd d → Feed f G' → Ext f G G' → Q d G') : sp_word [.ref f] G Q := by
  refine ⟨rfl, ?_⟩
  show t_word _ [some (.ref f), none, none, none, none] G
  unfold t_word
  try simp only [seq_, next_, ret_, drop_, ifs_, br_t, br_f, asg_, gn_, gt_, gtc_, gtn_, par_, var_0, var_s, c_, nil_, cons_, tup_, lst_, op_, bool_, kb_, tru_, tr_bl, andT_, orT_, kn_tt, kn_tf, kn_ff, kn_ft, notT_, and_, kand_t, kand_f, if_, bre_t, bre_f, call_, cb_, neg_, sl_, nopart_, part_, FD.sl_tup, eq_int0, eq_int1, eq_bl0, eq_bl1, beq_self_eq_true, Bool.not_true, Bool.not_false, add_int, add_tup, add_ref, int_, int0_, mul_int, mul_str, ord_int, FD.ix_tup, ix_fl, ix_ref, at_0, at_1, at_2, at_3, len_tup, len_fl, len_ref, max2_, min2_, tuple_tup, tuple_ref, is_, gs_, setL_, ml_, for_, rng1_, any_, lc_, FD.sl_ref, list_tup, dict0_, dn_, sortK_, val_tup, yes_, isLst_, List.set_cons_zero, List.set_cons_succ, or_, kor_t, kor_f, not_, chain_, kch_t, kch_f, ord_str, len_str, ordc_, strc_int, val_str, add_str, sl_strD, match_, cc_, kc_n, kc_s, cn_, wild_]
  refine picks_spec F (by decide +kernel) (by decide +kernel) fun c G1 hc F1 x1 => ?_
  have hc1 : SOk 1 ⟨#[c]⟩ := sok_chr (sok_iff.mp (by decide +kernel) c hc)
  try simp only [seq_, next_, ret_, drop_, ifs_, br_t, br_f, asg_, gn_, gt_, gtc_, gtn_, par_, var_0, var_s, c_, nil_, cons_, tup_, lst_, op_, bool_, kb_, tru_, tr_bl, andT_, orT_, kn_tt, kn_tf, kn_ff, kn_ft, notT_, and_, kand_t, kand_f, if_, bre_t, bre_f, call_, cb_, neg_, sl_, nopart_, part_, FD.sl_tup, eq_int0, eq_int1, eq_bl0, eq_bl1, beq_self_eq_true, Bool.not_true, Bool.not_false, add_int, add_tup, add_ref, int_, int0_, mul_int, mul_str, ord_int, FD.ix_tup, ix_fl, ix_ref, at_0, at_1, at_2, at_3, len_tup, len_fl, len_ref, max2_, min2_, tuple_tup, tuple_ref, is_, gs_, setL_, ml_, for_, rng1_, any_, lc_, FD.sl_ref, list_tup, dict0_, dn_, sortK_, val_tup, yes_, isLst_, List.set_cons_zero, List.set_cons_succ, or_, kor_t, kor_f, not_, chain_, kch_t, kch_f, ord_str, len_str, ordc_, strc_int, val_str, add_str, sl_strD, match_, cc_, kc_n, kc_s, cn_, wild_]
  repeat (with_reducible refine And.intro (by first | rfl | omega | (simp only [sizeLine, List.length_cons, List.length_nil, List.length_append] <;> omega)) ?_)
  refine new_ fun p G2 hp e2 k2 => ?_
  try simp only [seq_, next_, ret_, drop_, ifs_, br_t, br_f, asg_, gn_, gt_, gtc_, gtn_, par_, var_0, var_s, c_, nil_, cons_, tup_, lst_, op_, bool_, kb_, tru_, tr_bl, andT_, orT_, kn_tt, kn_tf, kn_ff, kn_ft, notT_, and_, kand_t, kand_f, if_, bre_t, bre_f, call_, cb_, neg_, sl_, nopart_, part_, FD.sl_tup, eq_int0, eq_int1, eq_bl0, eq_bl1, beq_self_eq_true, Bool.not_true, Bool.not_false, add_int, add_tup, add_ref, int_, int0_, mul_int, mul_str, ord_int, FD.ix_tup, ix_fl, ix_ref, at_0, at_1, at_2, at_3, len_tup, len_fl, len_ref, max2_, min2_, tuple_tup, tuple_ref, is_, gs_, setL_, ml_, for_, rng1_, any_, lc_, FD.sl_ref, list_tup, dict0_, dn_, sortK_, val_tup, yes_, isLst_, List.set_cons_zero, List.set_cons_succ, or_, kor_t, kor_f, not_, chain_, kch_t, kch_f, ord_str, len_str, ordc_, strc_int, val_str, add_str, sl_strD, match_, cc_, kc_n, kc_s, cn_, wild_]
  refine draw_spec (F1.keep k2) (by decide) (by decide) fun d G3 d0 d1 F3 x3 => ?_
  have e3 := x3.get (F1.ne hp) e2
  try simp only [seq_, next_, ret_, drop_, ifs_, br_t, br_f, asg_, gn_, gt_, gtc_, gtn_, par_, var_0, var_s, c_, nil_, cons_, tup_, lst_, op_, bool_, kb_, tru_, tr_bl, andT_, orT_, kn_tt, kn_tf, kn_ff, kn_ft, notT_, and_, kand_t, kand_f, if_, bre_t, bre_f, call_, cb_, neg_, sl_, nopart_, part_, FD.sl_tup, eq_int0, eq_int1, eq_bl0, eq_bl1, beq_self_eq_true, Bool.not_true, Bool.not_false, add_int, add_tup, add_ref, int_, int0_, mul_int, mul_str, ord_int, FD.ix_tup, ix_fl, ix_ref, at_0, at_1, at_2, at_3, len_tup, len_fl, len_ref, max2_, min2_, tuple_tup, tuple_ref, is_, gs_, setL_, ml_, for_, rng1_, any_, lc_, FD.sl_ref, list_tup, dict0_, dn_, sortK_, val_tup, yes_, isLst_, List.set_cons_zero, List.set_cons_succ, or_, kor_t, kor_f, not_, chain_, kch_t, kch_f, ord_str, len_str, ordc_, strc_int, val_str, add_str, sl_strD, match_, cc_, kc_n, kc_s, cn_, wild_, ex_lst e3]
  refine at_in d0 (by simp; omega) fun n hn => ?_
  have hn' : ∃ m : Int, n = .int m ∧ 0 ≤ m ∧ m ≤ 8 := by
    simp only [List.mem_cons, List.not_mem_nil, or_false] at hn
    rcases hn with rfl | rfl | rfl | rfl | rfl <;> exact ⟨_, rfl, by decide, by decide⟩
  obtain ⟨m, rfl, m0, m1⟩ := hn'
  try simp only [seq_, next_, ret_, drop_, ifs_, br_t, br_f, asg_, gn_, gt_, gtc_, gtn_, par_, var_0, var_s, c_, nil_, cons_, tup_, lst_, op_, bool_, kb_, tru_, tr_bl, andT_, orT_, kn_tt, kn_tf, kn_ff, kn_ft, notT_, and_, kand_t, kand_f, if_, bre_t, bre_f, call_, cb_, neg_, sl_, nopart_, part_, FD.sl_tup, eq_int0, eq_int1, eq_bl0, eq_bl1, beq_self_eq_true, Bool.not_true, Bool.not_false, add_int, add_tup, add_ref, int_, int0_, mul_int, mul_str, ord_int, FD.ix_tup, ix_fl, ix_ref, at_0, at_1, at_2, at_3, len_tup, len_fl, len_ref, max2_, min2_, tuple_tup, tuple_ref, is_, gs_, setL_, ml_, for_, rng1_, any_, lc_, FD.sl_ref, list_tup, dict0_, dn_, sortK_, val_tup, yes_, isLst_, List.set_cons_zero, List.set_cons_succ, or_, kor_t, kor_f, not_, chain_, kch_t, kch_f, ord_str, len_str, ordc_, strc_int, val_str, add_str, sl_strD, match_, cc_, kc_n, kc_s, cn_, wild_]
  refine ⟨⟨by omega, by omega⟩, ?_⟩
  refine forGo_inv (fun ds ρ G' => ∃ o s, ρ = [some (.ref f), some (.str s), o, none, none] ∧ SOk (9 - ds.length) s ∧ ds.length ≤ 8 ∧ Feed f G' ∧ Ext f G G') (fun _ _ _ _ => True.intro) ?_ ?_ _ _ _ ⟨none, _, rfl, hc1.mono (by rw [rng_len]; omega), by rw [rng_len]; omega, F3, x1.trans (k2.ext.trans x3)⟩
  · rintro e ds _ G4 X ⟨o, s, rfl, hs, hl, F4, x4⟩ k
    rw [List.length_cons] at hs hl
    try simp only [seq_, next_, ret_, drop_, ifs_, br_t, br_f, asg_, gn_, gt_, gtc_, gtn_, par_, var_0, var_s, c_, nil_, cons_, tup_, lst_, op_, bool_, kb_, tru_, tr_bl, andT_, orT_, kn_tt, kn_tf, kn_ff, kn_ft, notT_, and_, kand_t, kand_f, if_, bre_t, bre_f, call_, cb_, neg_, sl_, nopart_, part_, FD.sl_tup, eq_int0, eq_int1, eq_bl0, eq_bl1, beq_self_eq_true, Bool.not_true, Bool.not_false, add_int, add_tup, add_ref, int_, int0_, mul_int, mul_str, ord_int, FD.ix_tup, ix_fl, ix_ref, at_0, at_1, at_2, at_3, len_tup, len_fl, len_ref, max2_, min2_, tuple_tup, tuple_ref, is_, gs_, setL_, ml_, for_, rng1_, any_, lc_, FD.sl_ref, list_tup, dict0_, dn_, sortK_, val_tup, yes_, isLst_, List.set_cons_zero, List.set_cons_succ, or_, kor_t, kor_f, not_, chain_, kch_t, kch_f, ord_str, len_str, ordc_, strc_int, val_str, add_str, sl_strD, match_, cc_, kc_n, kc_s, cn_, wild_]
    refine picks_spec F4 (by decide +kernel) (by decide +kernel) fun c2 G5 hc2 F5 x5 => ?_
    have hc3 : SOk 1 ⟨#[c2]⟩ := sok_chr (sok_iff.mp (by decide +kernel) c2 hc2)
    try simp only [seq_, next_, ret_, drop_, ifs_, br_t, br_f, asg_, gn_, gt_, gtc_, gtn_, par_, var_0, var_s, c_, nil_, cons_, tup_, lst_, op_, bool_, kb_, tru_, tr_bl, andT_, orT_, kn_tt, kn_tf, kn_ff, kn_ft, notT_, and_, kand_t, kand_f, if_, bre_t, bre_f, call_, cb_, neg_, sl_, nopart_, part_, FD.sl_tup, eq_int0, eq_int1, eq_bl0, eq_bl1, beq_self_eq_true, Bool.not_true, Bool.not_false, add_int, add_tup, add_ref, int_, int0_, mul_int, mul_str, ord_int, FD.ix_tup, ix_fl, ix_ref, at_0, at_1, at_2, at_3, len_tup, len_fl, len_ref, max2_, min2_, tuple_tup, tuple_ref, is_, gs_, setL_, ml_, for_, rng1_, any_, lc_, FD.sl_ref, list_tup, dict0_, dn_, sortK_, val_tup, yes_, isLst_, List.set_cons_zero, List.set_cons_succ, or_, kor_t, kor_f, not_, chain_, kch_t, kch_f, ord_str, len_str, ordc_, strc_int, val_str, add_str, sl_strD, match_, cc_, kc_n, kc_s, cn_, wild_]
    have h2 := hs.2
    have h3 := hc3.2
    refine ⟨by simp only [sizeLine]; omega, ?_⟩
    exact k _ _ ⟨_, _, rfl, (sok_app hs hc3).mono (by omega), by omega, F5, x4.trans x5⟩
  · rintro _ G4 ⟨o, s, rfl, hs, hl, F4, x4⟩
    have h2 := hs.2
    rw [List.length_nil] at h2
    try simp only [seq_, next_, ret_, drop_, ifs_, br_t, br_f, asg_, gn_, gt_, gtc_, gtn_, par_, var_0, var_s, c_, nil_, cons_, tup_, lst_, op_, bool_, kb_, tru_, tr_bl, andT_, orT_, kn_tt, kn_tf, kn_ff, kn_ft, notT_, and_, kand_t, kand_f, if_, bre_t, bre_f, call_, cb_, neg_, sl_, nopart_, part_, FD.sl_tup, eq_int0, eq_int1, eq_bl0, eq_bl1, beq_self_eq_true, Bool.not_true, Bool.not_false, add_int, add_tup, add_ref, int_, int0_, mul_int, mul_str, ord_int, FD.ix_tup, ix_fl, ix_ref, at_0, at_1, at_2, at_3, len_tup, len_fl, len_ref, max2_, min2_, tuple_tup, tuple_ref, is_, gs_, setL_, ml_, for_, rng1_, any_, lc_, FD.sl_ref, list_tup, dict0_, dn_, sortK_, val_tup, yes_, isLst_, List.set_cons_zero, List.set_cons_succ, or_, kor_t, kor_f, not_, chain_, kch_t, kch_f, ord_str, len_str, ordc_, strc_int, val_str, add_str, sl_strD, match_, cc_, kc_n, kc_s, cn_, wild_]
    refine ⟨by simp only [sizeLine]; omega, ?_⟩
    refine draw_spec F4 (by omega) (by omega) fun sp G5 s0 s1 F5 x5 => ?_
    try simp only [seq_, next_, ret_, drop_, ifs_, br_t, br_f, asg_, gn_, gt_, gtc_, gtn_, par_, var_0, var_s, c_, nil_, cons_, tup_, lst_, op_, bool_, kb_, tru_, tr_bl, andT_, orT_, kn_tt, kn_tf, kn_ff, kn_ft, notT_, and_, kand_t, kand_f, if_, bre_t, bre_f, call_, cb_, neg_, sl_, nopart_, part_, FD.sl_tup, eq_int0, eq_int1, eq_bl0, eq_bl1, beq_self_eq_true, Bool.not_true, Bool.not_false, add_int, add_tup, add_ref, int_, int0_, mul_int, mul_str, ord_int, FD.ix_tup, ix_fl, ix_ref, at_0, at_1, at_2, at_3, len_tup, len_fl, len_ref, max2_, min2_, tuple_tup, tuple_ref, is_, gs_, setL_, ml_, for_, rng1_, any_, lc_, FD.sl_ref, list_tup, dict0_, dn_, sortK_, val_tup, yes_, isLst_, List.set_cons_zero, List.set_cons_succ, or_, kor_t, kor_f, not_, chain_, kch_t, kch_f, ord_str, len_str, ordc_, strc_int, val_str, add_str, sl_strD, match_, cc_, kc_n, kc_s, cn_, wild_]
    refine signs_spec ?_
    try simp only [seq_, next_, ret_, drop_, ifs_, br_t, br_f, asg_, gn_, gt_, gtc_, gtn_, par_, var_0, var_s, c_, nil_, cons_, tup_, lst_, op_, bool_, kb_, tru_, tr_bl, andT_, orT_, kn_tt, kn_tf, kn_ff, kn_ft, notT_, and_, kand_t, kand_f, if_, bre_t, bre_f, call_, cb_, neg_, sl_, nopart_, part_, FD.sl_tup, eq_int0, eq_int1, eq_bl0, eq_bl1, beq_self_eq_true, Bool.not_true, Bool.not_false, add_int, add_tup, add_ref, int_, int0_, mul_int, mul_str, ord_int, FD.ix_tup, ix_fl, ix_ref, at_0, at_1, at_2, at_3, len_tup, len_fl, len_ref, max2_, min2_, tuple_tup, tuple_ref, is_, gs_, setL_, ml_, for_, rng1_, any_, lc_, FD.sl_ref, list_tup, dict0_, dn_, sortK_, val_tup, yes_, isLst_, List.set_cons_zero, List.set_cons_succ, or_, kor_t, kor_f, not_, chain_, kch_t, kch_f, ord_str, len_str, ordc_, strc_int, val_str, add_str, sl_strD, match_, cc_, kc_n, kc_s, cn_, wild_]
    refine ⟨by decide +kernel, ?_⟩
    refine picks_spec F5 (by decide +kernel) (by decide +kernel) fun c2 G6 hc2 F6 x6 => ?_
    have hc3 : SOk 1 ⟨#[c2]⟩ := sok_chr (sok_iff.mp (by decide +kernel) c2 hc2)
    try simp only [seq_, next_, ret_, drop_, ifs_, br_t, br_f, asg_, gn_, gt_, gtc_, gtn_, par_, var_0, var_s, c_, nil_, cons_, tup_, lst_, op_, bool_, kb_, tru_, tr_bl, andT_, orT_, kn_tt, kn_tf, kn_ff, kn_ft, notT_, and_, kand_t, kand_f, if_, bre_t, bre_f, call_, cb_, neg_, sl_, nopart_, part_, FD.sl_tup, eq_int0, eq_int1, eq_bl0, eq_bl1, beq_self_eq_true, Bool.not_true, Bool.not_false, add_int, add_tup, add_ref, int_, int0_, mul_int, mul_str, ord_int, FD.ix_tup, ix_fl, ix_ref, at_0, at_1, at_2, at_3, len_tup, len_fl, len_ref, max2_, min2_, tuple_tup, tuple_ref, is_, gs_, setL_, ml_, for_, rng1_, any_, lc_, FD.sl_ref, list_tup, dict0_, dn_, sortK_, val_tup, yes_, isLst_, List.set_cons_zero, List.set_cons_succ, or_, kor_t, kor_f, not_, chain_, kch_t, kch_f, ord_str, len_str, ordc_, strc_int, val_str, add_str, sl_strD, match_, cc_, kc_n, kc_s, cn_, wild_]
    refine draw_spec F6 (by decide) (by decide) fun z G7 z0 z1 F7 x7 => ?_
    try simp only [seq_, next_, ret_, drop_, ifs_, br_t, br_f, asg_, gn_, gt_, gtc_, gtn_, par_, var_0, var_s, c_, nil_, cons_, tup_, lst_, op_, bool_, kb_, tru_, tr_bl, andT_, orT_, kn_tt, kn_tf, kn_ff, kn_ft, notT_, and_, kand_t, kand_f, if_, bre_t, bre_f, call_, cb_, neg_, sl_, nopart_, part_, FD.sl_tup, eq_int0, eq_int1, eq_bl0, eq_bl1, beq_self_eq_true, Bool.not_true, Bool.not_false, add_int, add_tup, add_ref, int_, int0_, mul_int, mul_str, ord_int, FD.ix_tup, ix_fl, ix_ref, at_0, at_1, at_2, at_3, len_tup, len_fl, len_ref, max2_, min2_, tuple_tup, tuple_ref, is_, gs_, setL_, ml_, for_, rng1_, any_, lc_, FD.sl_ref, list_tup, dict0_, dn_, sortK_, val_tup, yes_, isLst_, List.set_cons_zero, List.set_cons_succ, or_, kor_t, kor_f, not_, chain_, kch_t, kch_f, ord_str, len_str, ordc_, strc_int, val_str, add_str, sl_strD, match_, cc_, kc_n, kc_s, cn_, wild_]
    have x07 := x4.trans (x5.trans (x6.trans x7))
    by_cases hz : 0 < z
    · rw [decide_eq_true hz]
      try simp only [seq_, next_, ret_, drop_, ifs_, br_t, br_f, asg_, gn_, gt_, gtc_, gtn_, par_, var_0, var_s, c_, nil_, cons_, tup_, lst_, op_, bool_, kb_, tru_, tr_bl, andT_, orT_, kn_tt, kn_tf, kn_ff, kn_ft, notT_, and_, kand_t, kand_f, if_, bre_t, bre_f, call_, cb_, neg_, sl_, nopart_, part_, FD.sl_tup, eq_int0, eq_int1, eq_bl0, eq_bl1, beq_self_eq_true, Bool.not_true, Bool.not_false, add_int, add_tup, add_ref, int_, int0_, mul_int, mul_str, ord_int, FD.ix_tup, ix_fl, ix_ref, at_0, at_1, at_2, at_3, len_tup, len_fl, len_ref, max2_, min2_, tuple_tup, tuple_ref, is_, gs_, setL_, ml_, for_, rng1_, any_, lc_, FD.sl_ref, list_tup, dict0_, dn_, sortK_, val_tup, yes_, isLst_, List.set_cons_zero, List.set_cons_succ, or_, kor_t, kor_f, not_, chain_, kch_t, kch_f, ord_str, len_str, ordc_, strc_int, val_str, add_str, sl_strD, match_, cc_, kc_n, kc_s, cn_, wild_]
      exact h _ _ ⟨s, rfl, hs.mono (by omega)⟩ F7 x07
    · rw [decide_eq_false hz]
      try simp only [seq_, next_, ret_, drop_, ifs_, br_t, br_f, asg_, gn_, gt_, gtc_, gtn_, par_, var_0, var_s, c_, nil_, cons_, tup_, lst_, op_, bool_, kb_, tru_, tr_bl, andT_, orT_, kn_tt, kn_tf, kn_ff, kn_ft, notT_, and_, kand_t, kand_f, if_, bre_t, bre_f, call_, cb_, neg_, sl_, nopart_, part_, FD.sl_tup, eq_int0, eq_int1, eq_bl0, eq_bl1, beq_self_eq_true, Bool.not_true, Bool.not_false, add_int, add_tup, add_ref, int_, int0_, mul_int, mul_str, ord_int, FD.ix_tup, ix_fl, ix_ref, at_0, at_1, at_2, at_3, len_tup, len_fl, len_ref, max2_, min2_, tuple_tup, tuple_ref, is_, gs_, setL_, ml_, for_, rng1_, any_, lc_, FD.sl_ref, list_tup, dict0_, dn_, sortK_, val_tup, yes_, isLst_, List.set_cons_zero, List.set_cons_succ, or_, kor_t, kor_f, not_, chain_, kch_t, kch_f, ord_str, len_str, ordc_, strc_int, val_str, add_str, sl_strD, match_, cc_, kc_n, kc_s, cn_, wild_]
      have h3 := hc3.2
      have q1 := sok_cut (lo := none) (hi := some sp) hs
      have q1' := q1.2
      have q2 := sok_app q1 hc3
      have q2' := q2.2
      rw [List.length_nil] at q1' q2'
      refine ⟨by simp only [sizeLine]; omega, by simp only [sizeLine]; omega, ?_⟩
      refine draw_spec F7 (by decide) (by decide) fun y G8 y0 y1 F8 x8 => ?_
      try simp only [seq_, next_, ret_, drop_, ifs_, br_t, br_f, asg_, gn_, gt_, gtc_, gtn_, par_, var_0, var_s, c_, nil_, cons_, tup_, lst_, op_, bool_, kb_, tru_, tr_bl, andT_, orT_, kn_tt, kn_tf, kn_ff, kn_ft, notT_, and_, kand_t, kand_f, if_, bre_t, bre_f, call_, cb_, neg_, sl_, nopart_, part_, FD.sl_tup, eq_int0, eq_int1, eq_bl0, eq_bl1, beq_self_eq_true, Bool.not_true, Bool.not_false, add_int, add_tup, add_ref, int_, int0_, mul_int, mul_str, ord_int, FD.ix_tup, ix_fl, ix_ref, at_0, at_1, at_2, at_3, len_tup, len_fl, len_ref, max2_, min2_, tuple_tup, tuple_ref, is_, gs_, setL_, ml_, for_, rng1_, any_, lc_, FD.sl_ref, list_tup, dict0_, dn_, sortK_, val_tup, yes_, isLst_, List.set_cons_zero, List.set_cons_succ, or_, kor_t, kor_f, not_, chain_, kch_t, kch_f, ord_str, len_str, ordc_, strc_int, val_str, add_str, sl_strD, match_, cc_, kc_n, kc_s, cn_, wild_]
      have q3 := sok_cut (lo := some (sp + y)) (hi := none) hs
      have q3' := q3.2
      have q4 := sok_app q2 q3
      rw [List.length_nil] at q3'
      refine ⟨by simp only [sizeLine]; omega, by simp only [sizeLine]; omega, ?_⟩
      exact h _ _ ⟨_, rfl, q4.mono (by rw [List.length_nil]; decide)⟩ F8 (x07.trans x8)
end K02

/-! things and odd things -/
namespace K02
open PySem L2 FD
theorem seq_join {t u : DS} {E : DEnds} {ρ : DSt} {G : DG} (I : DSt → DG → Prop) (h2 : ∀ ρ G, I ρ G → u E ρ G) (h1 : ∀ X : DSt → DG → Prop, (∀ ρ G, I ρ G → X ρ G) → t { E with nx := X } ρ G) : dSeq t u E ρ G := h1 (u E) h2
theorem lc_te {te : DE} {P : D → Prop} {f : Addr} {ρ : DSt} {i n : Nat} {G : DG} {Q : DK} (hte : ∀ d {G : DG} {Q : DK}, Feed f G → (∀ y G', P y → Feed f G' → Ext f G G' → Q y G') → te (ρ.set i (some d)) G Q) (F : Feed f G) (hn : n ≤ sizeLine)
    (h : ∀ p ys G', G p = none → (∀ y ∈ ys, P y) → ys.length = n → G' p = some (.lst ys) → Feed f G' → Ext f G G' → Q (.ref p) G') :
    lcGo (fun _ => True) (gnD i) dYes te ρ (fun acc G' => kNew G' (.lst acc) Q) (rngD 0 n) [] G := by
  refine lcGo_inv (fun G' => Feed f G' ∧ Ext f G G') (fun _ y => P y) (fun _ _ => True.intro) _ _ _ (fun d _ G1 K I k => ?_) ⟨F, .refl⟩ (by rw [rng_len]; simpa using hn) fun ys G1 hp I => ?_
  · rw [gn_]
    exact hte d I.1 fun y G2 py F2 x2 => k y G2 py ⟨F2, I.2.trans x2⟩
  · rw [List.nil_append]
    exact new_ fun p G2 hn' e kk => h p ys G2 (I.2.back I.1 hn') (paired_all hp) (by rw [paired_len hp, rng_len]) e (I.1.keep kk) (I.2.trans kk.ext)
theorem pb_mk {b k : Nat} {ds : List D} (hl : ds.length ≤ b) (h : ∀ d ∈ ds, Pb b k d) : Pb b (k + 1) (.tup ds) := pb_tup.mpr ⟨hl, h⟩
def Key (d : D) : Prop := ∃ a b, d = .tup [a, b] ∧ Wd a ∧ Wd b
theorem Key.pb {b k : Nat} {d : D} (h : Key d) (hb : 2 ≤ b) : Pb b (k + 1) d := by
  obtain ⟨x, y, rfl, hx, hy⟩ := h
  refine pb_mk hb fun d hd => ?_
  simp only [List.mem_cons, List.not_mem_nil, or_false] at hd
  rcases hd with rfl | rfl
  · exact hx.tx.pb
  · exact hy.tx.pb
def Row (d : D) : Prop := ∃ as, d = .tup as ∧ (∀ a ∈ as, An a) ∧ as.length ≤ 4
theorem Row.pb {b k : Nat} {d : D} (h : Row d) (hb : 4 ≤ b) : Pb b (k + 1) d := by
  obtain ⟨as, rfl, h, hl⟩ := h
  exact pb_mk (by omega) fun d hd => (h d hd).pb
theorem str_pb {b k : Nat} {s : Str} (h : (PyData.strOk s && decide (s.length ≤ 1000)) = true) : Pb b k (.str s) := (tx_c h).pb
theorem things_spec {f : Addr} {G : DG} {Q : DK} (F : Feed f G) (h : ∀ p ds G', G p = none → G' p = some (.lst ds) → ds.length = 5 → (∀ d ∈ ds, Pb 5 3 d) → Feed f G' → Ext f G G' → Q (.ref p) G') : sp_things [.ref f] G Q := by
  refine ⟨rfl, ?_⟩
  show t_things _ [some (.ref f), none, none, none, none, none, none, none] G
  unfold t_things
  try simp only [seq_, next_, ret_, drop_, ifs_, br_t, br_f, asg_, gn_, gt_, gtc_, gtn_, par_, var_0, var_s, c_, nil_, cons_, tup_, lst_, op_, bool_, kb_, tru_, tr_bl, andT_, orT_, kn_tt, kn_tf, kn_ff, kn_ft, notT_, and_, kand_t, kand_f, if_, bre_t, bre_f, call_, cb_, neg_, sl_, nopart_, part_, FD.sl_tup, eq_int0, eq_int1, eq_bl0, eq_bl1, beq_self_eq_true, Bool.not_true, Bool.not_false, add_int, add_tup, add_ref, int_, int0_, mul_int, mul_str, ord_int, FD.ix_tup, ix_fl, ix_ref, at_0, at_1, at_2, at_3, len_tup, len_fl, len_ref, max2_, min2_, tuple_tup, tuple_ref, is_, gs_, setL_, ml_, for_, rng1_, any_, lc_, FD.sl_ref, list_tup, dict0_, dn_, sortK_, val_tup, yes_, isLst_, List.set_cons_zero, List.set_cons_succ, or_, kor_t, kor_f, not_, chain_, kch_t, kch_f, ord_str, len_str, ordc_, strc_int, val_str, add_str, sl_strD, match_, cc_, kc_n, kc_s, cn_, wild_]
  refine draw_spec F (by decide) (by decide) fun d G1 d0 d1 F1 x1 => ?_
  try simp only [seq_, next_, ret_, drop_, ifs_, br_t, br_f, asg_, gn_, gt_, gtc_, gtn_, par_, var_0, var_s, c_, nil_, cons_, tup_, lst_, op_, bool_, kb_, tru_, tr_bl, andT_, orT_, kn_tt, kn_tf, kn_ff, kn_ft, notT_, and_, kand_t, kand_f, if_, bre_t, bre_f, call_, cb_, neg_, sl_, nopart_, part_, FD.sl_tup, eq_int0, eq_int1, eq_bl0, eq_bl1, beq_self_eq_true, Bool.not_true, Bool.not_false, add_int, add_tup, add_ref, int_, int0_, mul_int, mul_str, ord_int, FD.ix_tup, ix_fl, ix_ref, at_0, at_1, at_2, at_3, len_tup, len_fl, len_ref, max2_, min2_, tuple_tup, tuple_ref, is_, gs_, setL_, ml_, for_, rng1_, any_, lc_, FD.sl_ref, list_tup, dict0_, dn_, sortK_, val_tup, yes_, isLst_, List.set_cons_zero, List.set_cons_succ, or_, kor_t, kor_f, not_, chain_, kch_t, kch_f, ord_str, len_str, ordc_, strc_int, val_str, add_str, sl_strD, match_, cc_, kc_n, kc_s, cn_, wild_]
  refine ⟨⟨by omega, by omega⟩, ?_⟩
  refine lc_te (P := Key) (fun d {G Q} F h => ?_) F1 (by simp only [sizeLine]; omega) fun p keys G2 hp hk hkl e2 F2 x2 => ?_
  · try simp only [seq_, next_, ret_, drop_, ifs_, br_t, br_f, asg_, gn_, gt_, gtc_, gtn_, par_, var_0, var_s, c_, nil_, cons_, tup_, lst_, op_, bool_, kb_, tru_, tr_bl, andT_, orT_, kn_tt, kn_tf, kn_ff, kn_ft, notT_, and_, kand_t, kand_f, if_, bre_t, bre_f, call_, cb_, neg_, sl_, nopart_, part_, FD.sl_tup, eq_int0, eq_int1, eq_bl0, eq_bl1, beq_self_eq_true, Bool.not_true, Bool.not_false, add_int, add_tup, add_ref, int_, int0_, mul_int, mul_str, ord_int, FD.ix_tup, ix_fl, ix_ref, at_0, at_1, at_2, at_3, len_tup, len_fl, len_ref, max2_, min2_, tuple_tup, tuple_ref, is_, gs_, setL_, ml_, for_, rng1_, any_, lc_, FD.sl_ref, list_tup, dict0_, dn_, sortK_, val_tup, yes_, isLst_, List.set_cons_zero, List.set_cons_succ, or_, kor_t, kor_f, not_, chain_, kch_t, kch_f, ord_str, len_str, ordc_, strc_int, val_str, add_str, sl_strD, match_, cc_, kc_n, kc_s, cn_, wild_, wipeD]
    refine word_spec F fun a G1 ha F1 x1 => ?_
    try simp only [seq_, next_, ret_, drop_, ifs_, br_t, br_f, asg_, gn_, gt_, gtc_, gtn_, par_, var_0, var_s, c_, nil_, cons_, tup_, lst_, op_, bool_, kb_, tru_, tr_bl, andT_, orT_, kn_tt, kn_tf, kn_ff, kn_ft, notT_, and_, kand_t, kand_f, if_, bre_t, bre_f, call_, cb_, neg_, sl_, nopart_, part_, FD.sl_tup, eq_int0, eq_int1, eq_bl0, eq_bl1, beq_self_eq_true, Bool.not_true, Bool.not_false, add_int, add_tup, add_ref, int_, int0_, mul_int, mul_str, ord_int, FD.ix_tup, ix_fl, ix_ref, at_0, at_1, at_2, at_3, len_tup, len_fl, len_ref, max2_, min2_, tuple_tup, tuple_ref, is_, gs_, setL_, ml_, for_, rng1_, any_, lc_, FD.sl_ref, list_tup, dict0_, dn_, sortK_, val_tup, yes_, isLst_, List.set_cons_zero, List.set_cons_succ, or_, kor_t, kor_f, not_, chain_, kch_t, kch_f, ord_str, len_str, ordc_, strc_int, val_str, add_str, sl_strD, match_, cc_, kc_n, kc_s, cn_, wild_]
    refine word_spec F1 fun b G2 hb F2 x2 => ?_
    try simp only [seq_, next_, ret_, drop_, ifs_, br_t, br_f, asg_, gn_, gt_, gtc_, gtn_, par_, var_0, var_s, c_, nil_, cons_, tup_, lst_, op_, bool_, kb_, tru_, tr_bl, andT_, orT_, kn_tt, kn_tf, kn_ff, kn_ft, notT_, and_, kand_t, kand_f, if_, bre_t, bre_f, call_, cb_, neg_, sl_, nopart_, part_, FD.sl_tup, eq_int0, eq_int1, eq_bl0, eq_bl1, beq_self_eq_true, Bool.not_true, Bool.not_false, add_int, add_tup, add_ref, int_, int0_, mul_int, mul_str, ord_int, FD.ix_tup, ix_fl, ix_ref, at_0, at_1, at_2, at_3, len_tup, len_fl, len_ref, max2_, min2_, tuple_tup, tuple_ref, is_, gs_, setL_, ml_, for_, rng1_, any_, lc_, FD.sl_ref, list_tup, dict0_, dn_, sortK_, val_tup, yes_, isLst_, List.set_cons_zero, List.set_cons_succ, or_, kor_t, kor_f, not_, chain_, kch_t, kch_f, ord_str, len_str, ordc_, strc_int, val_str, add_str, sl_strD, match_, cc_, kc_n, kc_s, cn_, wild_]
    repeat (with_reducible refine And.intro (by first | rfl | omega | (simp only [sizeLine, List.length_cons, List.length_nil, List.length_append] <;> omega)) ?_)
    exact h _ _ ⟨a, b, rfl, ha, hb⟩ F2 (x1.trans x2)
  have hkl' : 1 ≤ keys.length ∧ keys.length ≤ 5 := by omega
  try simp only [seq_, next_, ret_, drop_, ifs_, br_t, br_f, asg_, gn_, gt_, gtc_, gtn_, par_, var_0, var_s, c_, nil_, cons_, tup_, lst_, op_, bool_, kb_, tru_, tr_bl, andT_, orT_, kn_tt, kn_tf, kn_ff, kn_ft, notT_, and_, kand_t, kand_f, if_, bre_t, bre_f, call_, cb_, neg_, sl_, nopart_, part_, FD.sl_tup, eq_int0, eq_int1, eq_bl0, eq_bl1, beq_self_eq_true, Bool.not_true, Bool.not_false, add_int, add_tup, add_ref, int_, int0_, mul_int, mul_str, ord_int, FD.ix_tup, ix_fl, ix_ref, at_0, at_1, at_2, at_3, len_tup, len_fl, len_ref, max2_, min2_, tuple_tup, tuple_ref, is_, gs_, setL_, ml_, for_, rng1_, any_, lc_, FD.sl_ref, list_tup, dict0_, dn_, sortK_, val_tup, yes_, isLst_, List.set_cons_zero, List.set_cons_succ, or_, kor_t, kor_f, not_, chain_, kch_t, kch_f, ord_str, len_str, ordc_, strc_int, val_str, add_str, sl_strD, match_, cc_, kc_n, kc_s, cn_, wild_, ex_lst e2]
  repeat (with_reducible refine And.intro (by first | rfl | omega | (simp only [sizeLine, List.length_cons, List.length_nil, List.length_append] <;> omega)) ?_)
  refine new_ fun r G3 hr e3 k3 => ?_
  have x03 := x1.trans x2
  have hrf : r ≠ f := F2.ne hr
  have hr0 := x03.back F2 hr
  try simp only [seq_, next_, ret_, drop_, ifs_, br_t, br_f, asg_, gn_, gt_, gtc_, gtn_, par_, var_0, var_s, c_, nil_, cons_, tup_, lst_, op_, bool_, kb_, tru_, tr_bl, andT_, orT_, kn_tt, kn_tf, kn_ff, kn_ft, notT_, and_, kand_t, kand_f, if_, bre_t, bre_f, call_, cb_, neg_, sl_, nopart_, part_, FD.sl_tup, eq_int0, eq_int1, eq_bl0, eq_bl1, beq_self_eq_true, Bool.not_true, Bool.not_false, add_int, add_tup, add_ref, int_, int0_, mul_int, mul_str, ord_int, FD.ix_tup, ix_fl, ix_ref, at_0, at_1, at_2, at_3, len_tup, len_fl, len_ref, max2_, min2_, tuple_tup, tuple_ref, is_, gs_, setL_, ml_, for_, rng1_, any_, lc_, FD.sl_ref, list_tup, dict0_, dn_, sortK_, val_tup, yes_, isLst_, List.set_cons_zero, List.set_cons_succ, or_, kor_t, kor_f, not_, chain_, kch_t, kch_f, ord_str, len_str, ordc_, strc_int, val_str, add_str, sl_strD, match_, cc_, kc_n, kc_s, cn_, wild_]
  refine draw_spec (F2.keep k3) (by decide) (by decide) fun n G4 n0 n1 F4 x4 => ?_
  try simp only [next_, ret_, drop_, ifs_, br_t, br_f, asg_, gn_, gt_, gtc_, gtn_, par_, var_0, var_s, c_, nil_, cons_, tup_, lst_, op_, bool_, kb_, tru_, tr_bl, andT_, orT_, kn_tt, kn_tf, kn_ff, kn_ft, notT_, and_, kand_t, kand_f, if_, bre_t, bre_f, call_, cb_, neg_, sl_, nopart_, part_, FD.sl_tup, eq_int0, eq_int1, eq_bl0, eq_bl1, beq_self_eq_true, Bool.not_true, Bool.not_false, add_int, add_tup, add_ref, int_, int0_, mul_int, mul_str, ord_int, FD.ix_tup, ix_fl, ix_ref, at_0, at_1, at_2, at_3, len_tup, len_fl, len_ref, max2_, min2_, tuple_tup, tuple_ref, is_, gs_, setL_, ml_, for_, rng1_, any_, lc_, FD.sl_ref, list_tup, dict0_, dn_, sortK_, val_tup, yes_, isLst_, List.set_cons_zero, List.set_cons_succ, or_, kor_t, kor_f, not_, chain_, kch_t, kch_f, ord_str, len_str, ordc_, strc_int, val_str, add_str, sl_strD, match_, cc_, kc_n, kc_s, cn_, wild_]
  refine ⟨⟨by omega, by omega⟩, ?_⟩
  refine forGo_inv (fun ds ρ G' => ∃ o rows, ρ = [some (.ref f), some (.tup keys), some (.ref r), o, none, none, none, none] ∧ G' r = some (.lst rows) ∧ (∀ x ∈ rows, Row x) ∧ rows.length + ds.length ≤ 2 ∧ Feed f G' ∧ Ext f G G') (fun _ _ _ _ => True.intro) ?_ ?_ _ _ _ ⟨none, [], rfl, x4.get hrf e3, (fun _ h => nomatch h), by rw [rng_len]; simp; omega, F4, x03.trans (k3.ext.trans x4)⟩
  · rintro d ds _ G5 X ⟨o, rows, rfl, e5, hrow, hlen, F5, x5⟩ k
    rw [List.length_cons] at hlen
    try simp only [seq_, next_, ret_, drop_, ifs_, br_t, br_f, asg_, gn_, gt_, gtc_, gtn_, par_, var_0, var_s, c_, nil_, cons_, tup_, lst_, op_, bool_, kb_, tru_, tr_bl, andT_, orT_, kn_tt, kn_tf, kn_ff, kn_ft, notT_, and_, kand_t, kand_f, if_, bre_t, bre_f, call_, cb_, neg_, sl_, nopart_, part_, FD.sl_tup, eq_int0, eq_int1, eq_bl0, eq_bl1, beq_self_eq_true, Bool.not_true, Bool.not_false, add_int, add_tup, add_ref, int_, int0_, mul_int, mul_str, ord_int, FD.ix_tup, ix_fl, ix_ref, at_0, at_1, at_2, at_3, len_tup, len_fl, len_ref, max2_, min2_, tuple_tup, tuple_ref, is_, gs_, setL_, ml_, for_, rng1_, any_, lc_, FD.sl_ref, list_tup, dict0_, dn_, sortK_, val_tup, yes_, isLst_, List.set_cons_zero, List.set_cons_succ, or_, kor_t, kor_f, not_, chain_, kch_t, kch_f, ord_str, len_str, ordc_, strc_int, val_str, add_str, sl_strD, match_, cc_, kc_n, kc_s, cn_, wild_]
    refine ⟨⟨_, e5⟩, ?_⟩
    refine draw_spec F5 (by decide) (by decide) fun m G6 m0 m1 F6 x6 => ?_
    try simp only [seq_, next_, ret_, drop_, ifs_, br_t, br_f, asg_, gn_, gt_, gtc_, gtn_, par_, var_0, var_s, c_, nil_, cons_, tup_, lst_, op_, bool_, kb_, tru_, tr_bl, andT_, orT_, kn_tt, kn_tf, kn_ff, kn_ft, notT_, and_, kand_t, kand_f, if_, bre_t, bre_f, call_, cb_, neg_, sl_, nopart_, part_, FD.sl_tup, eq_int0, eq_int1, eq_bl0, eq_bl1, beq_self_eq_true, Bool.not_true, Bool.not_false, add_int, add_tup, add_ref, int_, int0_, mul_int, mul_str, ord_int, FD.ix_tup, ix_fl, ix_ref, at_0, at_1, at_2, at_3, len_tup, len_fl, len_ref, max2_, min2_, tuple_tup, tuple_ref, is_, gs_, setL_, ml_, for_, rng1_, any_, lc_, FD.sl_ref, list_tup, dict0_, dn_, sortK_, val_tup, yes_, isLst_, List.set_cons_zero, List.set_cons_succ, or_, kor_t, kor_f, not_, chain_, kch_t, kch_f, ord_str, len_str, ordc_, strc_int, val_str, add_str, sl_strD, match_, cc_, kc_n, kc_s, cn_, wild_]
    refine ⟨⟨by omega, by omega⟩, ?_⟩
    refine lc_te (P := An) (fun d {G Q} F h => ?_) F6 (by simp only [sizeLine]; omega) fun p ys G7 hp hy hyl e7 F7 x7 => ?_
    · try simp only [seq_, next_, ret_, drop_, ifs_, br_t, br_f, asg_, gn_, gt_, gtc_, gtn_, par_, var_0, var_s, c_, nil_, cons_, tup_, lst_, op_, bool_, kb_, tru_, tr_bl, andT_, orT_, kn_tt, kn_tf, kn_ff, kn_ft, notT_, and_, kand_t, kand_f, if_, bre_t, bre_f, call_, cb_, neg_, sl_, nopart_, part_, FD.sl_tup, eq_int0, eq_int1, eq_bl0, eq_bl1, beq_self_eq_true, Bool.not_true, Bool.not_false, add_int, add_tup, add_ref, int_, int0_, mul_int, mul_str, ord_int, FD.ix_tup, ix_fl, ix_ref, at_0, at_1, at_2, at_3, len_tup, len_fl, len_ref, max2_, min2_, tuple_tup, tuple_ref, is_, gs_, setL_, ml_, for_, rng1_, any_, lc_, FD.sl_ref, list_tup, dict0_, dn_, sortK_, val_tup, yes_, isLst_, List.set_cons_zero, List.set_cons_succ, or_, kor_t, kor_f, not_, chain_, kch_t, kch_f, ord_str, len_str, ordc_, strc_int, val_str, add_str, sl_strD, match_, cc_, kc_n, kc_s, cn_, wild_, wipeD]
      exact answer_spec F h
    have e7' := (x6.trans x7).get hrf e5
    try simp only [seq_, next_, ret_, drop_, ifs_, br_t, br_f, asg_, gn_, gt_, gtc_, gtn_, par_, var_0, var_s, c_, nil_, cons_, tup_, lst_, op_, bool_, kb_, tru_, tr_bl, andT_, orT_, kn_tt, kn_tf, kn_ff, kn_ft, notT_, and_, kand_t, kand_f, if_, bre_t, bre_f, call_, cb_, neg_, sl_, nopart_, part_, FD.sl_tup, eq_int0, eq_int1, eq_bl0, eq_bl1, beq_self_eq_true, Bool.not_true, Bool.not_false, add_int, add_tup, add_ref, int_, int0_, mul_int, mul_str, ord_int, FD.ix_tup, ix_fl, ix_ref, at_0, at_1, at_2, at_3, len_tup, len_fl, len_ref, max2_, min2_, tuple_tup, tuple_ref, is_, gs_, setL_, ml_, for_, rng1_, any_, lc_, FD.sl_ref, list_tup, dict0_, dn_, sortK_, val_tup, yes_, isLst_, List.set_cons_zero, List.set_cons_succ, or_, kor_t, kor_f, not_, chain_, kch_t, kch_f, ord_str, len_str, ordc_, strc_int, val_str, add_str, sl_strD, match_, cc_, kc_n, kc_s, cn_, wild_, ex_lst e7]
    refine append_g e7' (by simp only [sizeLine]; omega) fun G8 e8 x8 => ?_
    refine k _ _ ⟨_, rows ++ [.tup ys], rfl, e8, fun x hx => ?_, by rw [List.length_append]; show rows.length + 1 + ds.length ≤ 2; omega, F7.ext x8 hrf, (x5.trans (x6.trans x7)).own hr0 x8⟩
    rcases List.mem_append.mp hx with hx | hx
    · exact hrow x hx
    · rw [List.mem_singleton.mp hx]; exact ⟨ys, rfl, hy, by omega⟩
  · rintro _ G5 ⟨o, rows, rfl, e5, hrow, hlen, F5, x5⟩
    rw [List.length_nil] at hlen
    dsimp only
    refine seq_join (fun ρ G' => ∃ rows, ρ = [some (.ref f), some (.tup keys), some (.ref r), o, none, none, none, none] ∧ G' r = some (.lst rows) ∧ (∀ x ∈ rows, Row x) ∧ rows.length ≤ 3 ∧ Feed f G' ∧ Ext f G G') ?_ ?_
    · rintro _ G6 ⟨rows, rfl, e6, hrow, hlen, F6, x6⟩
      try simp only [seq_, next_, ret_, drop_, ifs_, br_t, br_f, asg_, gn_, gt_, gtc_, gtn_, par_, var_0, var_s, c_, nil_, cons_, tup_, lst_, op_, bool_, kb_, tru_, tr_bl, andT_, orT_, kn_tt, kn_tf, kn_ff, kn_ft, notT_, and_, kand_t, kand_f, if_, bre_t, bre_f, call_, cb_, neg_, sl_, nopart_, part_, FD.sl_tup, eq_int0, eq_int1, eq_bl0, eq_bl1, beq_self_eq_true, Bool.not_true, Bool.not_false, add_int, add_tup, add_ref, int_, int0_, mul_int, mul_str, ord_int, FD.ix_tup, ix_fl, ix_ref, at_0, at_1, at_2, at_3, len_tup, len_fl, len_ref, max2_, min2_, tuple_tup, tuple_ref, is_, gs_, setL_, ml_, for_, rng1_, any_, lc_, FD.sl_ref, list_tup, dict0_, dn_, sortK_, val_tup, yes_, isLst_, List.set_cons_zero, List.set_cons_succ, or_, kor_t, kor_f, not_, chain_, kch_t, kch_f, ord_str, len_str, ordc_, strc_int, val_str, add_str, sl_strD, match_, cc_, kc_n, kc_s, cn_, wild_]
      refine draw_spec F6 (by decide) (by decide) fun m G7 m0 m1 F7 x7 => ?_
      try simp only [seq_, next_, ret_, drop_, ifs_, br_t, br_f, asg_, gn_, gt_, gtc_, gtn_, par_, var_0, var_s, c_, nil_, cons_, tup_, lst_, op_, bool_, kb_, tru_, tr_bl, andT_, orT_, kn_tt, kn_tf, kn_ff, kn_ft, notT_, and_, kand_t, kand_f, if_, bre_t, bre_f, call_, cb_, neg_, sl_, nopart_, part_, FD.sl_tup, eq_int0, eq_int1, eq_bl0, eq_bl1, beq_self_eq_true, Bool.not_true, Bool.not_false, add_int, add_tup, add_ref, int_, int0_, mul_int, mul_str, ord_int, FD.ix_tup, ix_fl, ix_ref, at_0, at_1, at_2, at_3, len_tup, len_fl, len_ref, max2_, min2_, tuple_tup, tuple_ref, is_, gs_, setL_, ml_, for_, rng1_, any_, lc_, FD.sl_ref, list_tup, dict0_, dn_, sortK_, val_tup, yes_, isLst_, List.set_cons_zero, List.set_cons_succ, or_, kor_t, kor_f, not_, chain_, kch_t, kch_f, ord_str, len_str, ordc_, strc_int, val_str, add_str, sl_strD, match_, cc_, kc_n, kc_s, cn_, wild_]
      refine ⟨⟨by omega, by omega⟩, ?_⟩
      refine lc_te (P := Tx) (fun d {G Q} F h => ?_) F7 (by simp only [sizeLine]; omega) fun p args G8 hp hy hyl e8 F8 x8 => ?_
      · try simp only [seq_, next_, ret_, drop_, ifs_, br_t, br_f, asg_, gn_, gt_, gtc_, gtn_, par_, var_0, var_s, c_, nil_, cons_, tup_, lst_, op_, bool_, kb_, tru_, tr_bl, andT_, orT_, kn_tt, kn_tf, kn_ff, kn_ft, notT_, and_, kand_t, kand_f, if_, bre_t, bre_f, call_, cb_, neg_, sl_, nopart_, part_, FD.sl_tup, eq_int0, eq_int1, eq_bl0, eq_bl1, beq_self_eq_true, Bool.not_true, Bool.not_false, add_int, add_tup, add_ref, int_, int0_, mul_int, mul_str, ord_int, FD.ix_tup, ix_fl, ix_ref, at_0, at_1, at_2, at_3, len_tup, len_fl, len_ref, max2_, min2_, tuple_tup, tuple_ref, is_, gs_, setL_, ml_, for_, rng1_, any_, lc_, FD.sl_ref, list_tup, dict0_, dn_, sortK_, val_tup, yes_, isLst_, List.set_cons_zero, List.set_cons_succ, or_, kor_t, kor_f, not_, chain_, kch_t, kch_f, ord_str, len_str, ordc_, strc_int, val_str, add_str, sl_strD, match_, cc_, kc_n, kc_s, cn_, wild_, wipeD]
        exact text_spec F h
      try simp only [seq_, next_, ret_, drop_, ifs_, br_t, br_f, asg_, gn_, gt_, gtc_, gtn_, par_, var_0, var_s, c_, nil_, cons_, tup_, lst_, op_, bool_, kb_, tru_, tr_bl, andT_, orT_, kn_tt, kn_tf, kn_ff, kn_ft, notT_, and_, kand_t, kand_f, if_, bre_t, bre_f, call_, cb_, neg_, sl_, nopart_, part_, FD.sl_tup, eq_int0, eq_int1, eq_bl0, eq_bl1, beq_self_eq_true, Bool.not_true, Bool.not_false, add_int, add_tup, add_ref, int_, int0_, mul_int, mul_str, ord_int, FD.ix_tup, ix_fl, ix_ref, at_0, at_1, at_2, at_3, len_tup, len_fl, len_ref, max2_, min2_, tuple_tup, tuple_ref, is_, gs_, setL_, ml_, for_, rng1_, any_, lc_, FD.sl_ref, list_tup, dict0_, dn_, sortK_, val_tup, yes_, isLst_, List.set_cons_zero, List.set_cons_succ, or_, kor_t, kor_f, not_, chain_, kch_t, kch_f, ord_str, len_str, ordc_, strc_int, val_str, add_str, sl_strD, match_, cc_, kc_n, kc_s, cn_, wild_, ex_lst e8]
      refine text_spec F8 fun t1 G9 ht1 F9 x9 => ?_
      try simp only [seq_, next_, ret_, drop_, ifs_, br_t, br_f, asg_, gn_, gt_, gtc_, gtn_, par_, var_0, var_s, c_, nil_, cons_, tup_, lst_, op_, bool_, kb_, tru_, tr_bl, andT_, orT_, kn_tt, kn_tf, kn_ff, kn_ft, notT_, and_, kand_t, kand_f, if_, bre_t, bre_f, call_, cb_, neg_, sl_, nopart_, part_, FD.sl_tup, eq_int0, eq_int1, eq_bl0, eq_bl1, beq_self_eq_true, Bool.not_true, Bool.not_false, add_int, add_tup, add_ref, int_, int0_, mul_int, mul_str, ord_int, FD.ix_tup, ix_fl, ix_ref, at_0, at_1, at_2, at_3, len_tup, len_fl, len_ref, max2_, min2_, tuple_tup, tuple_ref, is_, gs_, setL_, ml_, for_, rng1_, any_, lc_, FD.sl_ref, list_tup, dict0_, dn_, sortK_, val_tup, yes_, isLst_, List.set_cons_zero, List.set_cons_succ, or_, kor_t, kor_f, not_, chain_, kch_t, kch_f, ord_str, len_str, ordc_, strc_int, val_str, add_str, sl_strD, match_, cc_, kc_n, kc_s, cn_, wild_]
      refine draw_spec F9 (by decide) (by decide) fun m2 G10 m20 m21 F10 x10 => ?_
      try simp only [seq_, next_, ret_, drop_, ifs_, br_t, br_f, asg_, gn_, gt_, gtc_, gtn_, par_, var_0, var_s, c_, nil_, cons_, tup_, lst_, op_, bool_, kb_, tru_, tr_bl, andT_, orT_, kn_tt, kn_tf, kn_ff, kn_ft, notT_, and_, kand_t, kand_f, if_, bre_t, bre_f, call_, cb_, neg_, sl_, nopart_, part_, FD.sl_tup, eq_int0, eq_int1, eq_bl0, eq_bl1, beq_self_eq_true, Bool.not_true, Bool.not_false, add_int, add_tup, add_ref, int_, int0_, mul_int, mul_str, ord_int, FD.ix_tup, ix_fl, ix_ref, at_0, at_1, at_2, at_3, len_tup, len_fl, len_ref, max2_, min2_, tuple_tup, tuple_ref, is_, gs_, setL_, ml_, for_, rng1_, any_, lc_, FD.sl_ref, list_tup, dict0_, dn_, sortK_, val_tup, yes_, isLst_, List.set_cons_zero, List.set_cons_succ, or_, kor_t, kor_f, not_, chain_, kch_t, kch_f, ord_str, len_str, ordc_, strc_int, val_str, add_str, sl_strD, match_, cc_, kc_n, kc_s, cn_, wild_]
      have hy1 : SOk 1 "y" := ⟨by decide +kernel, by decide +kernel⟩
      refine ⟨mul_ok hy1 (by omega) (by omega), ?_⟩
      repeat (with_reducible refine And.intro (by first | rfl | omega | (simp only [sizeLine, List.length_cons, List.length_nil, List.length_append] <;> omega)) ?_)
      refine new_ fun q G11 hq e11 k11 => ?_
      refine draw_spec (F10.keep k11) (by decide) (by decide) fun m3 G12 m30 m31 F12 x12 => ?_
      have e12 := x12.get (F10.ne hq) e11
      try simp only [seq_, next_, ret_, drop_, ifs_, br_t, br_f, asg_, gn_, gt_, gtc_, gtn_, par_, var_0, var_s, c_, nil_, cons_, tup_, lst_, op_, bool_, kb_, tru_, tr_bl, andT_, orT_, kn_tt, kn_tf, kn_ff, kn_ft, notT_, and_, kand_t, kand_f, if_, bre_t, bre_f, call_, cb_, neg_, sl_, nopart_, part_, FD.sl_tup, eq_int0, eq_int1, eq_bl0, eq_bl1, beq_self_eq_true, Bool.not_true, Bool.not_false, add_int, add_tup, add_ref, int_, int0_, mul_int, mul_str, ord_int, FD.ix_tup, ix_fl, ix_ref, at_0, at_1, at_2, at_3, len_tup, len_fl, len_ref, max2_, min2_, tuple_tup, tuple_ref, is_, gs_, setL_, ml_, for_, rng1_, any_, lc_, FD.sl_ref, list_tup, dict0_, dn_, sortK_, val_tup, yes_, isLst_, List.set_cons_zero, List.set_cons_succ, or_, kor_t, kor_f, not_, chain_, kch_t, kch_f, ord_str, len_str, ordc_, strc_int, val_str, add_str, sl_strD, match_, cc_, kc_n, kc_s, cn_, wild_, ex_lst e12]
      refine at_in m30 (by simp; omega) fun tx htx => ?_
      have htx' : Tx tx := by
        simp only [List.mem_cons, List.not_mem_nil, or_false] at htx
        rcases htx with rfl | rfl
        · exact ht1
        · exact ⟨_, rfl, (sok_mul hy1 (by omega)).mono (by decide)⟩
      refine at_in (by decide) (by omega) fun k0 hk0 => ?_
      try simp only [seq_, next_, ret_, drop_, ifs_, br_t, br_f, asg_, gn_, gt_, gtc_, gtn_, par_, var_0, var_s, c_, nil_, cons_, tup_, lst_, op_, bool_, kb_, tru_, tr_bl, andT_, orT_, kn_tt, kn_tf, kn_ff, kn_ft, notT_, and_, kand_t, kand_f, if_, bre_t, bre_f, call_, cb_, neg_, sl_, nopart_, part_, FD.sl_tup, eq_int0, eq_int1, eq_bl0, eq_bl1, beq_self_eq_true, Bool.not_true, Bool.not_false, add_int, add_tup, add_ref, int_, int0_, mul_int, mul_str, ord_int, FD.ix_tup, ix_fl, ix_ref, at_0, at_1, at_2, at_3, len_tup, len_fl, len_ref, max2_, min2_, tuple_tup, tuple_ref, is_, gs_, setL_, ml_, for_, rng1_, any_, lc_, FD.sl_ref, list_tup, dict0_, dn_, sortK_, val_tup, yes_, isLst_, List.set_cons_zero, List.set_cons_succ, or_, kor_t, kor_f, not_, chain_, kch_t, kch_f, ord_str, len_str, ordc_, strc_int, val_str, add_str, sl_strD, match_, cc_, kc_n, kc_s, cn_, wild_]
      repeat (with_reducible refine And.intro (by first | rfl | omega | (simp only [sizeLine, List.length_cons, List.length_nil, List.length_append] <;> omega)) ?_)
      refine word_spec F12 fun wd G13 hwd F13 x13 => ?_
      try simp only [seq_, next_, ret_, drop_, ifs_, br_t, br_f, asg_, gn_, gt_, gtc_, gtn_, par_, var_0, var_s, c_, nil_, cons_, tup_, lst_, op_, bool_, kb_, tru_, tr_bl, andT_, orT_, kn_tt, kn_tf, kn_ff, kn_ft, notT_, and_, kand_t, kand_f, if_, bre_t, bre_f, call_, cb_, neg_, sl_, nopart_, part_, FD.sl_tup, eq_int0, eq_int1, eq_bl0, eq_bl1, beq_self_eq_true, Bool.not_true, Bool.not_false, add_int, add_tup, add_ref, int_, int0_, mul_int, mul_str, ord_int, FD.ix_tup, ix_fl, ix_ref, at_0, at_1, at_2, at_3, len_tup, len_fl, len_ref, max2_, min2_, tuple_tup, tuple_ref, is_, gs_, setL_, ml_, for_, rng1_, any_, lc_, FD.sl_ref, list_tup, dict0_, dn_, sortK_, val_tup, yes_, isLst_, List.set_cons_zero, List.set_cons_succ, or_, kor_t, kor_f, not_, chain_, kch_t, kch_f, ord_str, len_str, ordc_, strc_int, val_str, add_str, sl_strD, match_, cc_, kc_n, kc_s, cn_, wild_]
      repeat (with_reducible refine And.intro (by first | rfl | omega | (simp only [sizeLine, List.length_cons, List.length_nil, List.length_append] <;> omega)) ?_)
      refine new_ fun fo G14 hfo e14 k14 => ?_
      try simp only [seq_, next_, ret_, drop_, ifs_, br_t, br_f, asg_, gn_, gt_, gtc_, gtn_, par_, var_0, var_s, c_, nil_, cons_, tup_, lst_, op_, bool_, kb_, tru_, tr_bl, andT_, orT_, kn_tt, kn_tf, kn_ff, kn_ft, notT_, and_, kand_t, kand_f, if_, bre_t, bre_f, call_, cb_, neg_, sl_, nopart_, part_, FD.sl_tup, eq_int0, eq_int1, eq_bl0, eq_bl1, beq_self_eq_true, Bool.not_true, Bool.not_false, add_int, add_tup, add_ref, int_, int0_, mul_int, mul_str, ord_int, FD.ix_tup, ix_fl, ix_ref, at_0, at_1, at_2, at_3, len_tup, len_fl, len_ref, max2_, min2_, tuple_tup, tuple_ref, is_, gs_, setL_, ml_, for_, rng1_, any_, lc_, FD.sl_ref, list_tup, dict0_, dn_, sortK_, val_tup, yes_, isLst_, List.set_cons_zero, List.set_cons_succ, or_, kor_t, kor_f, not_, chain_, kch_t, kch_f, ord_str, len_str, ordc_, strc_int, val_str, add_str, sl_strD, match_, cc_, kc_n, kc_s, cn_, wild_]
      refine text_spec (F13.keep k14) fun c G15 hc F15 x15 => ?_
      have x615 := x6.trans (x7.trans (x8.trans (x9.trans (x10.trans (k11.ext.trans (x12.trans (x13.trans (k14.ext.trans x15))))))))
      have er15 := (x7.trans (x8.trans (x9.trans (x10.trans (k11.ext.trans (x12.trans (x13.trans (k14.ext.trans x15)))))))).get hrf e6
      try simp only [seq_, next_, ret_, drop_, ifs_, br_t, br_f, asg_, gn_, gt_, gtc_, gtn_, par_, var_0, var_s, c_, nil_, cons_, tup_, lst_, op_, bool_, kb_, tru_, tr_bl, andT_, orT_, kn_tt, kn_tf, kn_ff, kn_ft, notT_, and_, kand_t, kand_f, if_, bre_t, bre_f, call_, cb_, neg_, sl_, nopart_, part_, FD.sl_tup, eq_int0, eq_int1, eq_bl0, eq_bl1, beq_self_eq_true, Bool.not_true, Bool.not_false, add_int, add_tup, add_ref, int_, int0_, mul_int, mul_str, ord_int, FD.ix_tup, ix_fl, ix_ref, at_0, at_1, at_2, at_3, len_tup, len_fl, len_ref, max2_, min2_, tuple_tup, tuple_ref, is_, gs_, setL_, ml_, for_, rng1_, any_, lc_, FD.sl_ref, list_tup, dict0_, dn_, sortK_, val_tup, yes_, isLst_, List.set_cons_zero, List.set_cons_succ, or_, kor_t, kor_f, not_, chain_, kch_t, kch_f, ord_str, len_str, ordc_, strc_int, val_str, add_str, sl_strD, match_, cc_, kc_n, kc_s, cn_, wild_, ex_lst er15]
      refine draw_spec F15 (by decide) (by decide) fun m4 G16 m40 m41 F16 x16 => ?_
      try simp only [seq_, next_, ret_, drop_, ifs_, br_t, br_f, asg_, gn_, gt_, gtc_, gtn_, par_, var_0, var_s, c_, nil_, cons_, tup_, lst_, op_, bool_, kb_, tru_, tr_bl, andT_, orT_, kn_tt, kn_tf, kn_ff, kn_ft, notT_, and_, kand_t, kand_f, if_, bre_t, bre_f, call_, cb_, neg_, sl_, nopart_, part_, FD.sl_tup, eq_int0, eq_int1, eq_bl0, eq_bl1, beq_self_eq_true, Bool.not_true, Bool.not_false, add_int, add_tup, add_ref, int_, int0_, mul_int, mul_str, ord_int, FD.ix_tup, ix_fl, ix_ref, at_0, at_1, at_2, at_3, len_tup, len_fl, len_ref, max2_, min2_, tuple_tup, tuple_ref, is_, gs_, setL_, ml_, for_, rng1_, any_, lc_, FD.sl_ref, list_tup, dict0_, dn_, sortK_, val_tup, yes_, isLst_, List.set_cons_zero, List.set_cons_succ, or_, kor_t, kor_f, not_, chain_, kch_t, kch_f, ord_str, len_str, ordc_, strc_int, val_str, add_str, sl_strD, match_, cc_, kc_n, kc_s, cn_, wild_]
      repeat (with_reducible refine And.intro (by first | rfl | omega | (simp only [sizeLine, List.length_cons, List.length_nil, List.length_append] <;> omega)) ?_)
      refine new_ fun fp G17 hfp e17 k17 => ?_
      have e17' := k17 _ _ ((x15.trans x16).get (F13.ne hfo) e14)
      try simp only [seq_, next_, ret_, drop_, ifs_, br_t, br_f, asg_, gn_, gt_, gtc_, gtn_, par_, var_0, var_s, c_, nil_, cons_, tup_, lst_, op_, bool_, kb_, tru_, tr_bl, andT_, orT_, kn_tt, kn_tf, kn_ff, kn_ft, notT_, and_, kand_t, kand_f, if_, bre_t, bre_f, call_, cb_, neg_, sl_, nopart_, part_, FD.sl_tup, eq_int0, eq_int1, eq_bl0, eq_bl1, beq_self_eq_true, Bool.not_true, Bool.not_false, add_int, add_tup, add_ref, int_, int0_, mul_int, mul_str, ord_int, FD.ix_tup, ix_fl, ix_ref, at_0, at_1, at_2, at_3, len_tup, len_fl, len_ref, max2_, min2_, tuple_tup, tuple_ref, is_, gs_, setL_, ml_, for_, rng1_, any_, lc_, FD.sl_ref, list_tup, dict0_, dn_, sortK_, val_tup, yes_, isLst_, List.set_cons_zero, List.set_cons_succ, or_, kor_t, kor_f, not_, chain_, kch_t, kch_f, ord_str, len_str, ordc_, strc_int, val_str, add_str, sl_strD, match_, cc_, kc_n, kc_s, cn_, wild_, ex_lst e17, ex_lst e17']
      repeat (with_reducible refine And.intro (by first | rfl | omega | (simp only [sizeLine, List.length_cons, List.length_nil, List.length_append] <;> omega)) ?_)
      refine new_ fun fq G18 hfq e18 k18 => ?_
      have F17 := F16.keep k17
      have x18 := x615.trans (x16.trans k17.ext)
      refine h fq _ G18 (x18.back F17 hfq) e18 rfl (fun z hz => ?_) (F17.keep k18) (x18.trans k18.ext)
      have hkeys : ∀ {k : Nat}, Pb 5 (k + 2) (.tup keys) := fun {k} => pb_mk (by omega) fun d hd => (hk d hd).pb (by decide)
      simp only [List.cons_append, List.nil_append, List.mem_cons, List.not_mem_nil, or_false] at hz
      rcases hz with rfl | rfl | rfl | rfl | rfl
      · exact (hk _ hk0).pb (by decide)
      · refine pb_mk (by simp) fun d hd => ?_
        simp only [List.mem_cons, List.not_mem_nil, or_false] at hd
        rcases hd with rfl | rfl
        · exact str_pb (by decide +kernel)
        · exact hkeys
      · refine pb_mk (by simp) fun d hd => ?_
        simp only [List.mem_cons, List.not_mem_nil, or_false] at hd
        rcases hd with rfl | rfl | rfl
        · exact str_pb (by decide +kernel)
        · exact hwd.tx.pb
        · exact htx'.pb
      · refine pb_mk (by simp) fun d hd => ?_
        simp only [List.mem_cons, List.not_mem_nil, or_false] at hd
        rcases hd with rfl
        exact str_pb (by decide +kernel)
      · refine pb_mk (by simp) fun d hd => ?_
        simp only [List.mem_cons, List.not_mem_nil, or_false] at hd
        rcases hd with rfl | rfl | rfl | rfl
        · exact hc.pb
        · exact pb_mk (by omega) fun d hd => (hy d hd).pb
        · exact pb_mk (by omega) fun d hd => (hrow d hd).pb (by decide)
        · exact pb_int
    · intro X k
      try simp only [seq_, next_, ret_, drop_, ifs_, br_t, br_f, asg_, gn_, gt_, gtc_, gtn_, par_, var_0, var_s, c_, nil_, cons_, tup_, lst_, op_, bool_, kb_, tru_, tr_bl, andT_, orT_, kn_tt, kn_tf, kn_ff, kn_ft, notT_, and_, kand_t, kand_f, if_, bre_t, bre_f, call_, cb_, neg_, sl_, nopart_, part_, FD.sl_tup, eq_int0, eq_int1, eq_bl0, eq_bl1, beq_self_eq_true, Bool.not_true, Bool.not_false, add_int, add_tup, add_ref, int_, int0_, mul_int, mul_str, ord_int, FD.ix_tup, ix_fl, ix_ref, at_0, at_1, at_2, at_3, len_tup, len_fl, len_ref, max2_, min2_, tuple_tup, tuple_ref, is_, gs_, setL_, ml_, for_, rng1_, any_, lc_, FD.sl_ref, list_tup, dict0_, dn_, sortK_, val_tup, yes_, isLst_, List.set_cons_zero, List.set_cons_succ, or_, kor_t, kor_f, not_, chain_, kch_t, kch_f, ord_str, len_str, ordc_, strc_int, val_str, add_str, sl_strD, match_, cc_, kc_n, kc_s, cn_, wild_]
      refine draw_spec F5 (by decide) (by decide) fun m G6 m0 m1 F6 x6 => ?_
      have e6 := x6.get hrf e5
      try simp only [seq_, next_, ret_, drop_, ifs_, br_t, br_f, asg_, gn_, gt_, gtc_, gtn_, par_, var_0, var_s, c_, nil_, cons_, tup_, lst_, op_, bool_, kb_, tru_, tr_bl, andT_, orT_, kn_tt, kn_tf, kn_ff, kn_ft, notT_, and_, kand_t, kand_f, if_, bre_t, bre_f, call_, cb_, neg_, sl_, nopart_, part_, FD.sl_tup, eq_int0, eq_int1, eq_bl0, eq_bl1, beq_self_eq_true, Bool.not_true, Bool.not_false, add_int, add_tup, add_ref, int_, int0_, mul_int, mul_str, ord_int, FD.ix_tup, ix_fl, ix_ref, at_0, at_1, at_2, at_3, len_tup, len_fl, len_ref, max2_, min2_, tuple_tup, tuple_ref, is_, gs_, setL_, ml_, for_, rng1_, any_, lc_, FD.sl_ref, list_tup, dict0_, dn_, sortK_, val_tup, yes_, isLst_, List.set_cons_zero, List.set_cons_succ, or_, kor_t, kor_f, not_, chain_, kch_t, kch_f, ord_str, len_str, ordc_, strc_int, val_str, add_str, sl_strD, match_, cc_, kc_n, kc_s, cn_, wild_]
      by_cases hm : m = 0
      · subst hm
        try simp only [seq_, next_, ret_, drop_, ifs_, br_t, br_f, asg_, gn_, gt_, gtc_, gtn_, par_, var_0, var_s, c_, nil_, cons_, tup_, lst_, op_, bool_, kb_, tru_, tr_bl, andT_, orT_, kn_tt, kn_tf, kn_ff, kn_ft, notT_, and_, kand_t, kand_f, if_, bre_t, bre_f, call_, cb_, neg_, sl_, nopart_, part_, FD.sl_tup, eq_int0, eq_int1, eq_bl0, eq_bl1, beq_self_eq_true, Bool.not_true, Bool.not_false, add_int, add_tup, add_ref, int_, int0_, mul_int, mul_str, ord_int, FD.ix_tup, ix_fl, ix_ref, at_0, at_1, at_2, at_3, len_tup, len_fl, len_ref, max2_, min2_, tuple_tup, tuple_ref, is_, gs_, setL_, ml_, for_, rng1_, any_, lc_, FD.sl_ref, list_tup, dict0_, dn_, sortK_, val_tup, yes_, isLst_, List.set_cons_zero, List.set_cons_succ, or_, kor_t, kor_f, not_, chain_, kch_t, kch_f, ord_str, len_str, ordc_, strc_int, val_str, add_str, sl_strD, match_, cc_, kc_n, kc_s, cn_, wild_]
        refine ⟨⟨_, e6⟩, ?_⟩
        refine draw_spec F6 (by decide) (by decide) fun m2 G7 m20 m21 F7 x7 => ?_
        try simp only [seq_, next_, ret_, drop_, ifs_, br_t, br_f, asg_, gn_, gt_, gtc_, gtn_, par_, var_0, var_s, c_, nil_, cons_, tup_, lst_, op_, bool_, kb_, tru_, tr_bl, andT_, orT_, kn_tt, kn_tf, kn_ff, kn_ft, notT_, and_, kand_t, kand_f, if_, bre_t, bre_f, call_, cb_, neg_, sl_, nopart_, part_, FD.sl_tup, eq_int0, eq_int1, eq_bl0, eq_bl1, beq_self_eq_true, Bool.not_true, Bool.not_false, add_int, add_tup, add_ref, int_, int0_, mul_int, mul_str, ord_int, FD.ix_tup, ix_fl, ix_ref, at_0, at_1, at_2, at_3, len_tup, len_fl, len_ref, max2_, min2_, tuple_tup, tuple_ref, is_, gs_, setL_, ml_, for_, rng1_, any_, lc_, FD.sl_ref, list_tup, dict0_, dn_, sortK_, val_tup, yes_, isLst_, List.set_cons_zero, List.set_cons_succ, or_, kor_t, kor_f, not_, chain_, kch_t, kch_f, ord_str, len_str, ordc_, strc_int, val_str, add_str, sl_strD, match_, cc_, kc_n, kc_s, cn_, wild_]
        have hy1 : SOk 1 "y" := ⟨by decide +kernel, by decide +kernel⟩
        refine ⟨mul_ok hy1 (by omega) (by omega), ?_⟩
        repeat (with_reducible refine And.intro (by first | rfl | omega | (simp only [sizeLine, List.length_cons, List.length_nil, List.length_append] <;> omega)) ?_)
        refine append_g (x7.get hrf e6) (by simp only [sizeLine]; omega) fun G8 e8 x8 => ?_
        refine k _ _ ⟨_, rfl, e8, fun x hx => ?_, by rw [List.length_append]; show rows.length + 1 ≤ 3; omega, F7.ext x8 hrf, (x5.trans (x6.trans x7)).own hr0 x8⟩
        rcases List.mem_append.mp hx with hx | hx
        · exact hrow x hx
        · rw [List.mem_singleton.mp hx]
          refine ⟨_, rfl, fun a ha => ?_, by simp⟩
          rw [List.mem_singleton.mp ha]
          exact .inr ⟨_, rfl, (sok_mul hy1 (by omega)).mono (by decide)⟩
      · have bm : (m == 0) = false := by simpa using hm
        rw [bm]
        try simp only [seq_, next_, ret_, drop_, ifs_, br_t, br_f, asg_, gn_, gt_, gtc_, gtn_, par_, var_0, var_s, c_, nil_, cons_, tup_, lst_, op_, bool_, kb_, tru_, tr_bl, andT_, orT_, kn_tt, kn_tf, kn_ff, kn_ft, notT_, and_, kand_t, kand_f, if_, bre_t, bre_f, call_, cb_, neg_, sl_, nopart_, part_, FD.sl_tup, eq_int0, eq_int1, eq_bl0, eq_bl1, beq_self_eq_true, Bool.not_true, Bool.not_false, add_int, add_tup, add_ref, int_, int0_, mul_int, mul_str, ord_int, FD.ix_tup, ix_fl, ix_ref, at_0, at_1, at_2, at_3, len_tup, len_fl, len_ref, max2_, min2_, tuple_tup, tuple_ref, is_, gs_, setL_, ml_, for_, rng1_, any_, lc_, FD.sl_ref, list_tup, dict0_, dn_, sortK_, val_tup, yes_, isLst_, List.set_cons_zero, List.set_cons_succ, or_, kor_t, kor_f, not_, chain_, kch_t, kch_f, ord_str, len_str, ordc_, strc_int, val_str, add_str, sl_strD, match_, cc_, kc_n, kc_s, cn_, wild_]
        exact k _ _ ⟨rows, rfl, e6, hrow, by omega, F6, x5.trans x6⟩
end K02

namespace K02
open PySem L2 FD
theorem cut_lo {α : Type} {xs : List α} {k : Nat} : cutD xs (some (k : Int)) none = xs.drop k := by
  unfold cutD
  rw [HT.sIx_nat, HT.sIx_none]
  by_cases h : k ≤ xs.length
  · rw [Nat.min_eq_left h, List.take_of_length_le (by rw [List.length_drop]; exact Nat.le_refl _)]
  · rw [Nat.min_eq_right (by omega), Nat.sub_self, List.take_zero, List.drop_of_length_le (by omega)]
theorem dig_ok {i : Int} (h0 : 0 ≤ i) (h1 : i < 9) : i.natAbs.log2 < 1920 ∧ SOk 10 (toString i : String) := by
  rcases (by omega : i = 0 ∨ i = 1 ∨ i = 2 ∨ i = 3 ∨ i = 4 ∨ i = 5 ∨ i = 6 ∨ i = 7 ∨ i = 8) with rfl | rfl | rfl | rfl | rfl | rfl | rfl | rfl | rfl <;> exact ⟨by decide +kernel, by decide +kernel, by decide +kernel⟩
theorem odd_leaf {b k : Nat} {f : Addr} {v : D} {G : DG} {Q : DK} (hb : 2 ≤ b) (F : Feed f G) (h : ∀ d G', Pb b (k + 2) d → Feed f G' → Ext f G G' → Q d G') :
    (dSeq (dAsg (dLst (dCons (dC .non) (dCons (dC (.bl true)) (dCons (dC (.int 0)) (dCons (dOp subD (dC (.int 0)) (dC (.int 1))) (dCons (dC (.str "")) (dCons (dC (.str "a")) (dCons (dC (.str "A")) (dCons (dC (.str "a b")) (dCons (dTup dNil) (dCons (dTup (dCons (dC (.str "a")) (dCons (dC (.str "b")) dNil))) (dCons (dTup (dCons (dC (.str "stop")) dNil)) (dCons (dTup (dCons (dTup (dCons (dC (.str "a")) (dCons (dC (.str "b")) dNil))) dNil)) (dCons (dC (.str "read")) (dCons (dC (.int 7)) (dCons (dOp mulD (dC (.str "z")) (dC (.int 401))) dNil)))))))))))))))) (gnD 5))
    (dRet (dCall sp_pick (dCons (dVar 0) (dCons (dOp addD (dVar 5) (dLst (dCons (dC (.bl false)) (dCons (dC (.str "\n")) (dCons (dOp addD (dC (.str "a")) (dCB strC (dCons (dCall sp_draw (dCons (dVar 0) (dCons (dC (.int 9)) dNil))) dNil))) (dCons (dTup (dCons (dC .non) dNil)) (dCons (dTup (dCons (dC (.str "")) dNil)) (dCons (dTup (dCons (dTup (dCons (dC .non) dNil)) dNil)) (dCons (dC (.str "~")) (dCons (dC (.str "{")) dNil)))))))))) dNil))))) { nx := fun x G' => Q D.non G', rt := Q } [some (.ref f), some v, none, none, none, none] G := by
  have hz1 : SOk 1 "z" := ⟨by decide +kernel, by decide +kernel⟩
  have hpa : Pb b (k + 1) (.tup [.str "a", .str "b"]) := pb_mk hb fun d hd => by
    simp only [List.mem_cons, List.not_mem_nil, or_false] at hd
    rcases hd with rfl | rfl <;> exact str_pb (by decide +kernel)
  try simp only [seq_, next_, ret_, drop_, ifs_, br_t, br_f, asg_, gn_, gt_, gtc_, gtn_, par_, var_0, var_s, c_, nil_, cons_, tup_, lst_, op_, bool_, kb_, tru_, tr_bl, andT_, orT_, kn_tt, kn_tf, kn_ff, kn_ft, notT_, and_, kand_t, kand_f, if_, bre_t, bre_f, call_, cb_, neg_, sl_, nopart_, part_, FD.sl_tup, eq_int0, eq_int1, eq_bl0, eq_bl1, beq_self_eq_true, Bool.not_true, Bool.not_false, add_int, add_tup, add_ref, int_, int0_, mul_int, mul_str, ord_int, FD.ix_tup, ix_fl, ix_ref, at_0, at_1, at_2, at_3, len_tup, len_fl, len_ref, max2_, min2_, tuple_tup, tuple_ref, is_, gs_, setL_, ml_, for_, rng1_, any_, lc_, FD.sl_ref, list_tup, dict0_, dn_, sortK_, val_tup, yes_, isLst_, List.set_cons_zero, List.set_cons_succ, or_, kor_t, kor_f, not_, chain_, kch_t, kch_f, ord_str, len_str, ordc_, strc_int, val_str, add_str, sl_strD, match_, cc_, kc_n, kc_s, cn_, wild_]
  repeat (with_reducible refine And.intro (by first | rfl | omega | (simp only [sizeLine, List.length_cons, List.length_nil, List.length_append] <;> omega)) ?_)
  refine ⟨mul_ok hz1 (by decide) (by decide), ?_⟩
  repeat (with_reducible refine And.intro (by first | rfl | omega | (simp only [sizeLine, List.length_cons, List.length_nil, List.length_append] <;> omega)) ?_)
  refine new_ fun p G1 hp e1 k1 => ?_
  try simp only [seq_, next_, ret_, drop_, ifs_, br_t, br_f, asg_, gn_, gt_, gtc_, gtn_, par_, var_0, var_s, c_, nil_, cons_, tup_, lst_, op_, bool_, kb_, tru_, tr_bl, andT_, orT_, kn_tt, kn_tf, kn_ff, kn_ft, notT_, and_, kand_t, kand_f, if_, bre_t, bre_f, call_, cb_, neg_, sl_, nopart_, part_, FD.sl_tup, eq_int0, eq_int1, eq_bl0, eq_bl1, beq_self_eq_true, Bool.not_true, Bool.not_false, add_int, add_tup, add_ref, int_, int0_, mul_int, mul_str, ord_int, FD.ix_tup, ix_fl, ix_ref, at_0, at_1, at_2, at_3, len_tup, len_fl, len_ref, max2_, min2_, tuple_tup, tuple_ref, is_, gs_, setL_, ml_, for_, rng1_, any_, lc_, FD.sl_ref, list_tup, dict0_, dn_, sortK_, val_tup, yes_, isLst_, List.set_cons_zero, List.set_cons_succ, or_, kor_t, kor_f, not_, chain_, kch_t, kch_f, ord_str, len_str, ordc_, strc_int, val_str, add_str, sl_strD, match_, cc_, kc_n, kc_s, cn_, wild_]
  refine draw_spec (F.keep k1) (by decide) (by decide) fun i G2 i0 i1 F2 x2 => ?_
  obtain ⟨q1, q2⟩ := dig_ok i0 i1
  have q3 := q2.2
  have qa : SOk 1 "a" := ⟨by decide +kernel, by decide +kernel⟩
  have qa1 := qa.2
  have q4 := sok_app qa q2
  try simp only [seq_, next_, ret_, drop_, ifs_, br_t, br_f, asg_, gn_, gt_, gtc_, gtn_, par_, var_0, var_s, c_, nil_, cons_, tup_, lst_, op_, bool_, kb_, tru_, tr_bl, andT_, orT_, kn_tt, kn_tf, kn_ff, kn_ft, notT_, and_, kand_t, kand_f, if_, bre_t, bre_f, call_, cb_, neg_, sl_, nopart_, part_, FD.sl_tup, eq_int0, eq_int1, eq_bl0, eq_bl1, beq_self_eq_true, Bool.not_true, Bool.not_false, add_int, add_tup, add_ref, int_, int0_, mul_int, mul_str, ord_int, FD.ix_tup, ix_fl, ix_ref, at_0, at_1, at_2, at_3, len_tup, len_fl, len_ref, max2_, min2_, tuple_tup, tuple_ref, is_, gs_, setL_, ml_, for_, rng1_, any_, lc_, FD.sl_ref, list_tup, dict0_, dn_, sortK_, val_tup, yes_, isLst_, List.set_cons_zero, List.set_cons_succ, or_, kor_t, kor_f, not_, chain_, kch_t, kch_f, ord_str, len_str, ordc_, strc_int, val_str, add_str, sl_strD, match_, cc_, kc_n, kc_s, cn_, wild_]
  refine ⟨q1, by simp only [sizeLine]; omega, ?_⟩
  repeat (with_reducible refine And.intro (by first | rfl | omega | (simp only [sizeLine, List.length_cons, List.length_nil, List.length_append] <;> omega)) ?_)
  refine new_ fun q G3 hq e3 k3 => ?_
  have e3' := k3 _ _ (x2.get (F.ne hp) e1)
  try simp only [seq_, next_, ret_, drop_, ifs_, br_t, br_f, asg_, gn_, gt_, gtc_, gtn_, par_, var_0, var_s, c_, nil_, cons_, tup_, lst_, op_, bool_, kb_, tru_, tr_bl, andT_, orT_, kn_tt, kn_tf, kn_ff, kn_ft, notT_, and_, kand_t, kand_f, if_, bre_t, bre_f, call_, cb_, neg_, sl_, nopart_, part_, FD.sl_tup, eq_int0, eq_int1, eq_bl0, eq_bl1, beq_self_eq_true, Bool.not_true, Bool.not_false, add_int, add_tup, add_ref, int_, int0_, mul_int, mul_str, ord_int, FD.ix_tup, ix_fl, ix_ref, at_0, at_1, at_2, at_3, len_tup, len_fl, len_ref, max2_, min2_, tuple_tup, tuple_ref, is_, gs_, setL_, ml_, for_, rng1_, any_, lc_, FD.sl_ref, list_tup, dict0_, dn_, sortK_, val_tup, yes_, isLst_, List.set_cons_zero, List.set_cons_succ, or_, kor_t, kor_f, not_, chain_, kch_t, kch_f, ord_str, len_str, ordc_, strc_int, val_str, add_str, sl_strD, match_, cc_, kc_n, kc_s, cn_, wild_, ex_lst e3, ex_lst e3']
  repeat (with_reducible refine And.intro (by first | rfl | omega | (simp only [sizeLine, List.length_cons, List.length_nil, List.length_append] <;> omega)) ?_)
  refine new_ fun r G4 hr e4 k4 => ?_
  have F3 := F2.keep k3
  refine pick_spec (F3.keep k4) e4 (F3.ne hr) (by simp) (by simp) fun x G5 hx F5 x5 => ?_
  refine h x G5 ?_ F5 (k1.ext.trans (x2.trans (k3.ext.trans (k4.ext.trans x5))))
  have hone : ∀ {m : Nat} {d : D}, Pb b m d → Pb b (m + 1) (.tup [d]) := fun {m d} hd => pb_mk (by simp; omega) fun e he => by rw [List.mem_singleton.mp he]; exact hd
  simp only [List.cons_append, List.nil_append, List.mem_cons, List.not_mem_nil, or_false] at hx
  rcases hx with rfl | rfl | rfl | rfl | rfl | rfl | rfl | rfl | rfl | rfl | rfl | rfl | rfl | rfl | rfl | rfl | rfl | rfl | rfl | rfl | rfl | rfl | rfl <;> first | exact pb_non | exact pb_bl | exact pb_int | exact str_pb (by decide +kernel) | exact hpa.mono (Nat.le_refl _) (by omega) | exact hone hpa | exact hone (hone pb_non) | exact hone pb_non | exact hone (str_pb (by decide +kernel)) | exact pb_mk (Nat.zero_le _) (fun _ h => nomatch h) | exact pb_str.mpr ((sok_mul hz1 (by decide)).mono (by decide)) | exact pb_str.mpr (q4.mono (by decide))
theorem odd_spec : ∀ (n k : Nat) {b : Nat} {f : Addr} {v : D} {G : DG} {Q : DK}, k < n → k ≤ 20 → 2 ≤ b → b ≤ 100 → Feed f G → Pb b k v → (∀ d G', Pb (b + 1) (k + 2) d → Feed f G' → Ext f G G' → Q d G') → sp_odd n [.ref f, v] G Q
  | 0, k, b, f, v, G, Q, hk, _, _, _, _, _, _ => by omega
  | n + 1, k, b, f, v, G, Q, hk, hk2, hb, hb2, F, hv, h => by
    refine ⟨rfl, ?_⟩
    show t_odd (n + 1) _ [some (.ref f), some v, none, none, none, none] G
    rw [t_odd]
    refine seq_join (fun ρ G' => ρ = [some (.ref f), some v, none, none, none, none] ∧ Feed f G' ∧ Ext f G G') ?_ ?_
    · rintro _ G1 ⟨rfl, F1, x1⟩
      exact odd_leaf (k := k) hb F1 fun d G2 hd F2 x2 => h d G2 (hd.mono (by omega) (Nat.le_refl _)) F2 (x1.trans x2)
    · intro X kx
      have hno : ∀ a, tyD G v = some a → Ty.isa a .tuple = false → dIfS (dAndT (dTru (dCB isiD (dCons (dVar 1) (dCons (dC (.ty "tuple")) dNil)))) (dAndT (dBool (dOp (eqD true) (dVar 1) (dTup dNil))) (dBool (dOp gtD' (dCall sp_draw (dCons (dVar 0) (dCons (dC (.int 3)) dNil))) (dC (.int 0)))))) (dSeq (dAsg (dCall sp_draw (dCons (dVar 0) (dCons (dCB lenD (dCons (dVar 1) dNil)) dNil))) (gnD 2))
    (dSeq (dAsg (dCall sp_draw (dCons (dVar 0) (dCons (dC (.int 6)) dNil))) (gnD 3))
    (dSeq (dAsg (dLst (dCons (dCall (self N_odd 2 (t_odd n)) (dCons (dVar 0) (dCons (dOp ixD (dVar 1) (dVar 2)) dNil))) dNil)) (gnD 4))
    (dSeq (dAsg (dOp ixD (dLst (dCons (dVar 4) (dCons (dVar 4) (dCons (dVar 4) (dCons (dLst dNil) (dCons (dLst (dCons (dOp ixD (dVar 1) (dVar 2)) (dCons (dOp ixD (dVar 1) (dVar 2)) dNil))) (dCons (dLst (dCons (dOp ixD (dVar 1) (dVar 2)) (dCons (dC (.str "a")) dNil))) dNil))))))) (dVar 3)) (gnD 4))
    (dRet (dOp addD (dOp addD (dSl (dVar 1) dNoPart (dPart (dVar 2))) (dCB tupleD (dCons (dVar 4) dNil))) (dSl (dVar 1) (dPart (dOp addD (dVar 2) (dC (.int 1)))) dNoPart))))))) dNext { nx := X, rt := Q } [some (.ref f), some v, none, none, none, none] G := by
        intro a ha hi
        try simp only [seq_, next_, ret_, drop_, ifs_, br_t, br_f, asg_, gn_, gt_, gtc_, gtn_, par_, var_0, var_s, c_, nil_, cons_, tup_, lst_, op_, bool_, kb_, tru_, tr_bl, andT_, orT_, kn_tt, kn_tf, kn_ff, kn_ft, notT_, and_, kand_t, kand_f, if_, bre_t, bre_f, call_, cb_, neg_, sl_, nopart_, part_, FD.sl_tup, eq_int0, eq_int1, eq_bl0, eq_bl1, beq_self_eq_true, Bool.not_true, Bool.not_false, add_int, add_tup, add_ref, int_, int0_, mul_int, mul_str, ord_int, FD.ix_tup, ix_fl, ix_ref, at_0, at_1, at_2, at_3, len_tup, len_fl, len_ref, max2_, min2_, tuple_tup, tuple_ref, is_, gs_, setL_, ml_, for_, rng1_, any_, lc_, FD.sl_ref, list_tup, dict0_, dn_, sortK_, val_tup, yes_, isLst_, List.set_cons_zero, List.set_cons_succ, or_, kor_t, kor_f, not_, chain_, kch_t, kch_f, ord_str, len_str, ordc_, strc_int, val_str, add_str, sl_strD, match_, cc_, kc_n, kc_s, cn_, wild_, isi_ty ha ty_tuple, hi]
        exact kx _ _ ⟨rfl, F, .refl⟩
      rcases hv.no with ⟨ds, rfl⟩ | rfl | ⟨i, rfl⟩ | ⟨i, rfl⟩ | ⟨s, rfl, e⟩
      · clear hno
        have ha : ∀ {G : DG}, tyD G (.tup ds) = some .tuple := rfl
        try simp only [seq_, next_, ret_, drop_, ifs_, br_t, br_f, asg_, gn_, gt_, gtc_, gtn_, par_, var_0, var_s, c_, nil_, cons_, tup_, lst_, op_, bool_, kb_, tru_, tr_bl, andT_, orT_, kn_tt, kn_tf, kn_ff, kn_ft, notT_, and_, kand_t, kand_f, if_, bre_t, bre_f, call_, cb_, neg_, sl_, nopart_, part_, FD.sl_tup, eq_int0, eq_int1, eq_bl0, eq_bl1, beq_self_eq_true, Bool.not_true, Bool.not_false, add_int, add_tup, add_ref, int_, int0_, mul_int, mul_str, ord_int, FD.ix_tup, ix_fl, ix_ref, at_0, at_1, at_2, at_3, len_tup, len_fl, len_ref, max2_, min2_, tuple_tup, tuple_ref, is_, gs_, setL_, ml_, for_, rng1_, any_, lc_, FD.sl_ref, list_tup, dict0_, dn_, sortK_, val_tup, yes_, isLst_, List.set_cons_zero, List.set_cons_succ, or_, kor_t, kor_f, not_, chain_, kch_t, kch_f, ord_str, len_str, ordc_, strc_int, val_str, add_str, sl_strD, match_, cc_, kc_n, kc_s, cn_, wild_, isi_ty ha ty_tuple, show Ty.isa .tuple .tuple = true from rfl]
        repeat (with_reducible refine And.intro (by first | rfl | omega | (simp only [sizeLine, List.length_cons, List.length_nil, List.length_append] <;> omega)) ?_)
        have hpl := hv.pl (by simp only [sizeLine]; omega)
        refine eq_pl1 (k := k) (m := 1) hpl (pl_tup.mpr ⟨Nat.zero_le _, fun _ h => nomatch h⟩) (by omega) (by decide) ?_
        cases ds with
        | nil =>
          rw [show PyData.eqv (toPy (.tup [])) (toPy (.tup [])) = true from by rw [toPy, toPys, PyData.eqv, PyData.eqvAll]]
          try simp only [seq_, next_, ret_, drop_, ifs_, br_t, br_f, asg_, gn_, gt_, gtc_, gtn_, par_, var_0, var_s, c_, nil_, cons_, tup_, lst_, op_, bool_, kb_, tru_, tr_bl, andT_, orT_, kn_tt, kn_tf, kn_ff, kn_ft, notT_, and_, kand_t, kand_f, if_, bre_t, bre_f, call_, cb_, neg_, sl_, nopart_, part_, FD.sl_tup, eq_int0, eq_int1, eq_bl0, eq_bl1, beq_self_eq_true, Bool.not_true, Bool.not_false, add_int, add_tup, add_ref, int_, int0_, mul_int, mul_str, ord_int, FD.ix_tup, ix_fl, ix_ref, at_0, at_1, at_2, at_3, len_tup, len_fl, len_ref, max2_, min2_, tuple_tup, tuple_ref, is_, gs_, setL_, ml_, for_, rng1_, any_, lc_, FD.sl_ref, list_tup, dict0_, dn_, sortK_, val_tup, yes_, isLst_, List.set_cons_zero, List.set_cons_succ, or_, kor_t, kor_f, not_, chain_, kch_t, kch_f, ord_str, len_str, ordc_, strc_int, val_str, add_str, sl_strD, match_, cc_, kc_n, kc_s, cn_, wild_]
          exact kx _ _ ⟨rfl, F, .refl⟩
        | cons x xs =>
          rw [show PyData.eqv (toPy (.tup (x :: xs))) (toPy (.tup [])) = false from by rw [toPy, toPy, toPys, toPys, PyData.eqv, PyData.eqvAll]]
          try simp only [seq_, next_, ret_, drop_, ifs_, br_t, br_f, asg_, gn_, gt_, gtc_, gtn_, par_, var_0, var_s, c_, nil_, cons_, tup_, lst_, op_, bool_, kb_, tru_, tr_bl, andT_, orT_, kn_tt, kn_tf, kn_ff, kn_ft, notT_, and_, kand_t, kand_f, if_, bre_t, bre_f, call_, cb_, neg_, sl_, nopart_, part_, FD.sl_tup, eq_int0, eq_int1, eq_bl0, eq_bl1, beq_self_eq_true, Bool.not_true, Bool.not_false, add_int, add_tup, add_ref, int_, int0_, mul_int, mul_str, ord_int, FD.ix_tup, ix_fl, ix_ref, at_0, at_1, at_2, at_3, len_tup, len_fl, len_ref, max2_, min2_, tuple_tup, tuple_ref, is_, gs_, setL_, ml_, for_, rng1_, any_, lc_, FD.sl_ref, list_tup, dict0_, dn_, sortK_, val_tup, yes_, isLst_, List.set_cons_zero, List.set_cons_succ, or_, kor_t, kor_f, not_, chain_, kch_t, kch_f, ord_str, len_str, ordc_, strc_int, val_str, add_str, sl_strD, match_, cc_, kc_n, kc_s, cn_, wild_]
          refine draw_spec F (by decide) (by decide) fun d G1 d0 d1 F1 x1 => ?_
          try simp only [seq_, next_, ret_, drop_, ifs_, br_t, br_f, asg_, gn_, gt_, gtc_, gtn_, par_, var_0, var_s, c_, nil_, cons_, tup_, lst_, op_, bool_, kb_, tru_, tr_bl, andT_, orT_, kn_tt, kn_tf, kn_ff, kn_ft, notT_, and_, kand_t, kand_f, if_, bre_t, bre_f, call_, cb_, neg_, sl_, nopart_, part_, FD.sl_tup, eq_int0, eq_int1, eq_bl0, eq_bl1, beq_self_eq_true, Bool.not_true, Bool.not_false, add_int, add_tup, add_ref, int_, int0_, mul_int, mul_str, ord_int, FD.ix_tup, ix_fl, ix_ref, at_0, at_1, at_2, at_3, len_tup, len_fl, len_ref, max2_, min2_, tuple_tup, tuple_ref, is_, gs_, setL_, ml_, for_, rng1_, any_, lc_, FD.sl_ref, list_tup, dict0_, dn_, sortK_, val_tup, yes_, isLst_, List.set_cons_zero, List.set_cons_succ, or_, kor_t, kor_f, not_, chain_, kch_t, kch_f, ord_str, len_str, ordc_, strc_int, val_str, add_str, sl_strD, match_, cc_, kc_n, kc_s, cn_, wild_]
          by_cases hd : 0 < d
          · rw [decide_eq_true hd]
            cases k with
            | zero => rw [Pb] at hv; exact hv.elim
            | succ k =>
            obtain ⟨hlen, hitems⟩ := pb_tup.mp hv
            have hpos : 0 < (x :: xs).length := Nat.succ_pos _
            generalize x :: xs = ds at hlen hitems hpos hv hpl
            try simp only [seq_, next_, ret_, drop_, ifs_, br_t, br_f, asg_, gn_, gt_, gtc_, gtn_, par_, var_0, var_s, c_, nil_, cons_, tup_, lst_, op_, bool_, kb_, tru_, tr_bl, andT_, orT_, kn_tt, kn_tf, kn_ff, kn_ft, notT_, and_, kand_t, kand_f, if_, bre_t, bre_f, call_, cb_, neg_, sl_, nopart_, part_, FD.sl_tup, eq_int0, eq_int1, eq_bl0, eq_bl1, beq_self_eq_true, Bool.not_true, Bool.not_false, add_int, add_tup, add_ref, int_, int0_, mul_int, mul_str, ord_int, FD.ix_tup, ix_fl, ix_ref, at_0, at_1, at_2, at_3, len_tup, len_fl, len_ref, max2_, min2_, tuple_tup, tuple_ref, is_, gs_, setL_, ml_, for_, rng1_, any_, lc_, FD.sl_ref, list_tup, dict0_, dn_, sortK_, val_tup, yes_, isLst_, List.set_cons_zero, List.set_cons_succ, or_, kor_t, kor_f, not_, chain_, kch_t, kch_f, ord_str, len_str, ordc_, strc_int, val_str, add_str, sl_strD, match_, cc_, kc_n, kc_s, cn_, wild_]
            refine draw_spec F1 (by omega) (by omega) fun sp G2 s0 s1 F2 x2 => ?_
            try simp only [seq_, next_, ret_, drop_, ifs_, br_t, br_f, asg_, gn_, gt_, gtc_, gtn_, par_, var_0, var_s, c_, nil_, cons_, tup_, lst_, op_, bool_, kb_, tru_, tr_bl, andT_, orT_, kn_tt, kn_tf, kn_ff, kn_ft, notT_, and_, kand_t, kand_f, if_, bre_t, bre_f, call_, cb_, neg_, sl_, nopart_, part_, FD.sl_tup, eq_int0, eq_int1, eq_bl0, eq_bl1, beq_self_eq_true, Bool.not_true, Bool.not_false, add_int, add_tup, add_ref, int_, int0_, mul_int, mul_str, ord_int, FD.ix_tup, ix_fl, ix_ref, at_0, at_1, at_2, at_3, len_tup, len_fl, len_ref, max2_, min2_, tuple_tup, tuple_ref, is_, gs_, setL_, ml_, for_, rng1_, any_, lc_, FD.sl_ref, list_tup, dict0_, dn_, sortK_, val_tup, yes_, isLst_, List.set_cons_zero, List.set_cons_succ, or_, kor_t, kor_f, not_, chain_, kch_t, kch_f, ord_str, len_str, ordc_, strc_int, val_str, add_str, sl_strD, match_, cc_, kc_n, kc_s, cn_, wild_]
            refine draw_spec F2 (by decide) (by decide) fun fm G3 f0 f1 F3 x3 => ?_
            try simp only [seq_, next_, ret_, drop_, ifs_, br_t, br_f, asg_, gn_, gt_, gtc_, gtn_, par_, var_0, var_s, c_, nil_, cons_, tup_, lst_, op_, bool_, kb_, tru_, tr_bl, andT_, orT_, kn_tt, kn_tf, kn_ff, kn_ft, notT_, and_, kand_t, kand_f, if_, bre_t, bre_f, call_, cb_, neg_, sl_, nopart_, part_, FD.sl_tup, eq_int0, eq_int1, eq_bl0, eq_bl1, beq_self_eq_true, Bool.not_true, Bool.not_false, add_int, add_tup, add_ref, int_, int0_, mul_int, mul_str, ord_int, FD.ix_tup, ix_fl, ix_ref, at_0, at_1, at_2, at_3, len_tup, len_fl, len_ref, max2_, min2_, tuple_tup, tuple_ref, is_, gs_, setL_, ml_, for_, rng1_, any_, lc_, FD.sl_ref, list_tup, dict0_, dn_, sortK_, val_tup, yes_, isLst_, List.set_cons_zero, List.set_cons_succ, or_, kor_t, kor_f, not_, chain_, kch_t, kch_f, ord_str, len_str, ordc_, strc_int, val_str, add_str, sl_strD, match_, cc_, kc_n, kc_s, cn_, wild_]
            refine at_in s0 s1 fun y hy => ?_
            refine odd_spec n k (by omega) (by omega) hb hb2 F3 (hitems y hy) fun od G4 hod F4 x4 => ?_
            try simp only [seq_, next_, ret_, drop_, ifs_, br_t, br_f, asg_, gn_, gt_, gtc_, gtn_, par_, var_0, var_s, c_, nil_, cons_, tup_, lst_, op_, bool_, kb_, tru_, tr_bl, andT_, orT_, kn_tt, kn_tf, kn_ff, kn_ft, notT_, and_, kand_t, kand_f, if_, bre_t, bre_f, call_, cb_, neg_, sl_, nopart_, part_, FD.sl_tup, eq_int0, eq_int1, eq_bl0, eq_bl1, beq_self_eq_true, Bool.not_true, Bool.not_false, add_int, add_tup, add_ref, int_, int0_, mul_int, mul_str, ord_int, FD.ix_tup, ix_fl, ix_ref, at_0, at_1, at_2, at_3, len_tup, len_fl, len_ref, max2_, min2_, tuple_tup, tuple_ref, is_, gs_, setL_, ml_, for_, rng1_, any_, lc_, FD.sl_ref, list_tup, dict0_, dn_, sortK_, val_tup, yes_, isLst_, List.set_cons_zero, List.set_cons_succ, or_, kor_t, kor_f, not_, chain_, kch_t, kch_f, ord_str, len_str, ordc_, strc_int, val_str, add_str, sl_strD, match_, cc_, kc_n, kc_s, cn_, wild_]
            repeat (with_reducible refine And.intro (by first | rfl | omega | (simp only [sizeLine, List.length_cons, List.length_nil, List.length_append] <;> omega)) ?_)
            refine new_ fun p G5 hp e5 k5 => ?_
            try simp only [seq_, next_, ret_, drop_, ifs_, br_t, br_f, asg_, gn_, gt_, gtc_, gtn_, par_, var_0, var_s, c_, nil_, cons_, tup_, lst_, op_, bool_, kb_, tru_, tr_bl, andT_, orT_, kn_tt, kn_tf, kn_ff, kn_ft, notT_, and_, kand_t, kand_f, if_, bre_t, bre_f, call_, cb_, neg_, sl_, nopart_, part_, FD.sl_tup, eq_int0, eq_int1, eq_bl0, eq_bl1, beq_self_eq_true, Bool.not_true, Bool.not_false, add_int, add_tup, add_ref, int_, int0_, mul_int, mul_str, ord_int, FD.ix_tup, ix_fl, ix_ref, at_0, at_1, at_2, at_3, len_tup, len_fl, len_ref, max2_, min2_, tuple_tup, tuple_ref, is_, gs_, setL_, ml_, for_, rng1_, any_, lc_, FD.sl_ref, list_tup, dict0_, dn_, sortK_, val_tup, yes_, isLst_, List.set_cons_zero, List.set_cons_succ, or_, kor_t, kor_f, not_, chain_, kch_t, kch_f, ord_str, len_str, ordc_, strc_int, val_str, add_str, sl_strD, match_, cc_, kc_n, kc_s, cn_, wild_]
            repeat (with_reducible refine And.intro (by first | rfl | omega | (simp only [sizeLine, List.length_cons, List.length_nil, List.length_append] <;> omega)) ?_)
            refine new_ fun q0 G6 hq0 e6 k6 => ?_
            refine at_in s0 s1 fun y1 hy1 => ?_
            refine at_in s0 s1 fun y2 hy2 => ?_
            repeat (with_reducible refine And.intro (by first | rfl | omega | (simp only [sizeLine, List.length_cons, List.length_nil, List.length_append] <;> omega)) ?_)
            refine new_ fun q1 G7 hq1 e7 k7 => ?_
            refine at_in s0 s1 fun y3 hy3 => ?_
            repeat (with_reducible refine And.intro (by first | rfl | omega | (simp only [sizeLine, List.length_cons, List.length_nil, List.length_append] <;> omega)) ?_)
            refine new_ fun q2 G8 hq2 e8 k8 => ?_
            repeat (with_reducible refine And.intro (by first | rfl | omega | (simp only [sizeLine, List.length_cons, List.length_nil, List.length_append] <;> omega)) ?_)
            refine new_ fun q3 G9 hq3 e9 k9 => ?_
            try simp only [seq_, next_, ret_, drop_, ifs_, br_t, br_f, asg_, gn_, gt_, gtc_, gtn_, par_, var_0, var_s, c_, nil_, cons_, tup_, lst_, op_, bool_, kb_, tru_, tr_bl, andT_, orT_, kn_tt, kn_tf, kn_ff, kn_ft, notT_, and_, kand_t, kand_f, if_, bre_t, bre_f, call_, cb_, neg_, sl_, nopart_, part_, FD.sl_tup, eq_int0, eq_int1, eq_bl0, eq_bl1, beq_self_eq_true, Bool.not_true, Bool.not_false, add_int, add_tup, add_ref, int_, int0_, mul_int, mul_str, ord_int, FD.ix_tup, ix_fl, ix_ref, at_0, at_1, at_2, at_3, len_tup, len_fl, len_ref, max2_, min2_, tuple_tup, tuple_ref, is_, gs_, setL_, ml_, for_, rng1_, any_, lc_, FD.sl_ref, list_tup, dict0_, dn_, sortK_, val_tup, yes_, isLst_, List.set_cons_zero, List.set_cons_succ, or_, kor_t, kor_f, not_, chain_, kch_t, kch_f, ord_str, len_str, ordc_, strc_int, val_str, add_str, sl_strD, match_, cc_, kc_n, kc_s, cn_, wild_, ex_lst e9]
            refine at_in f0 (by simp; omega) fun w hw => ?_
            have lift : ∀ {z : D}, Pb b k z → Pb (b + 1) (k + 2) z := fun hz => hz.mono (by omega) (by omega)
            have hw' : ∃ q items, w = .ref q ∧ G9 q = some (.lst items) ∧ items.length ≤ 2 ∧ ∀ z ∈ items, Pb (b + 1) (k + 2) z := by
              simp only [List.mem_cons, List.not_mem_nil, or_false, or_self] at hw
              rcases hw with rfl | rfl | rfl | rfl | rfl | rfl
              · exact ⟨_, _, rfl, (k6.trans (k7.trans (k8.trans k9))) _ _ e5, by simp, fun z hz => by rw [List.mem_singleton.mp hz]; exact hod⟩
              · exact ⟨_, _, rfl, (k6.trans (k7.trans (k8.trans k9))) _ _ e5, by simp, fun z hz => by rw [List.mem_singleton.mp hz]; exact hod⟩
              · exact ⟨_, _, rfl, (k6.trans (k7.trans (k8.trans k9))) _ _ e5, by simp, fun z hz => by rw [List.mem_singleton.mp hz]; exact hod⟩
              · exact ⟨_, _, rfl, (k7.trans (k8.trans k9)) _ _ e6, by simp, fun z hz => nomatch hz⟩
              · refine ⟨_, _, rfl, (k8.trans k9) _ _ e7, by simp, fun z hz => ?_⟩
                simp only [List.mem_cons, List.not_mem_nil, or_false] at hz
                rcases hz with rfl | rfl
                · exact lift (hitems _ hy1)
                · exact lift (hitems _ hy2)
              · refine ⟨_, _, rfl, k9 _ _ e8, by simp, fun z hz => ?_⟩
                simp only [List.mem_cons, List.not_mem_nil, or_false] at hz
                rcases hz with rfl | rfl
                · exact lift (hitems _ hy3)
                · exact str_pb (by decide +kernel)
            obtain ⟨q, items, rfl, eq9, hil, hip⟩ := hw'
            obtain ⟨sn, rfl⟩ := Int.eq_ofNat_of_zero_le s0
            have e1 : ((sn : Int) + 1) = ((sn + 1 : Nat) : Int) := by omega
            try simp only [seq_, next_, ret_, drop_, ifs_, br_t, br_f, asg_, gn_, gt_, gtc_, gtn_, par_, var_0, var_s, c_, nil_, cons_, tup_, lst_, op_, bool_, kb_, tru_, tr_bl, andT_, orT_, kn_tt, kn_tf, kn_ff, kn_ft, notT_, and_, kand_t, kand_f, if_, bre_t, bre_f, call_, cb_, neg_, sl_, nopart_, part_, FD.sl_tup, eq_int0, eq_int1, eq_bl0, eq_bl1, beq_self_eq_true, Bool.not_true, Bool.not_false, add_int, add_tup, add_ref, int_, int0_, mul_int, mul_str, ord_int, FD.ix_tup, ix_fl, ix_ref, at_0, at_1, at_2, at_3, len_tup, len_fl, len_ref, max2_, min2_, tuple_tup, tuple_ref, is_, gs_, setL_, ml_, for_, rng1_, any_, lc_, FD.sl_ref, list_tup, dict0_, dn_, sortK_, val_tup, yes_, isLst_, List.set_cons_zero, List.set_cons_succ, or_, kor_t, kor_f, not_, chain_, kch_t, kch_f, ord_str, len_str, ordc_, strc_int, val_str, add_str, sl_strD, match_, cc_, kc_n, kc_s, cn_, wild_, ex_lst eq9, cut_hi, e1, cut_lo]
            have hl1 : (ds.take sn).length ≤ sn := by rw [List.length_take]; omega
            have hl2 : (ds.drop (sn + 1)).length + sn + 1 = ds.length := by rw [List.length_drop]; omega
            refine ⟨by simp only [sizeLine]; omega, by rw [List.length_append]; simp only [sizeLine]; omega, ?_⟩
            refine h _ _ (pb_mk (by rw [List.length_append, List.length_append]; omega) fun z hz => ?_) (((((F4.keep k5).keep k6).keep k7).keep k8).keep k9) (x1.trans (x2.trans (x3.trans (x4.trans (k5.trans (k6.trans (k7.trans (k8.trans k9)))).ext))))
            rcases List.mem_append.mp hz with hz | hz
            · rcases List.mem_append.mp hz with hz | hz
              · exact lift (hitems z (List.mem_of_mem_take hz))
              · exact hip z hz
            · exact lift (hitems z (List.mem_of_mem_drop hz))
          · rw [decide_eq_false hd]
            try simp only [seq_, next_, ret_, drop_, ifs_, br_t, br_f, asg_, gn_, gt_, gtc_, gtn_, par_, var_0, var_s, c_, nil_, cons_, tup_, lst_, op_, bool_, kb_, tru_, tr_bl, andT_, orT_, kn_tt, kn_tf, kn_ff, kn_ft, notT_, and_, kand_t, kand_f, if_, bre_t, bre_f, call_, cb_, neg_, sl_, nopart_, part_, FD.sl_tup, eq_int0, eq_int1, eq_bl0, eq_bl1, beq_self_eq_true, Bool.not_true, Bool.not_false, add_int, add_tup, add_ref, int_, int0_, mul_int, mul_str, ord_int, FD.ix_tup, ix_fl, ix_ref, at_0, at_1, at_2, at_3, len_tup, len_fl, len_ref, max2_, min2_, tuple_tup, tuple_ref, is_, gs_, setL_, ml_, for_, rng1_, any_, lc_, FD.sl_ref, list_tup, dict0_, dn_, sortK_, val_tup, yes_, isLst_, List.set_cons_zero, List.set_cons_succ, or_, kor_t, kor_f, not_, chain_, kch_t, kch_f, ord_str, len_str, ordc_, strc_int, val_str, add_str, sl_strD, match_, cc_, kc_n, kc_s, cn_, wild_]
            exact kx _ _ ⟨rfl, F1, x1⟩
      · exact hno _ rfl rfl
      · exact hno _ rfl rfl
      · exact hno _ rfl rfl
      · exact hno _ rfl rfl
end K02

/-! what the tests tell: texts and names -/
namespace K02
open PySem L2 FD
def chText (c : Nat) : Bool := decide (32 ≤ c) && decide (c ≤ 126) && !(c == 37)
def chLet (c : Nat) : Bool := decide (97 ≤ c) && decide (c ≤ 122)
def chName (c : Nat) : Bool := chLet c || (decide (48 ≤ c) && decide (c ≤ 57))
theorem mem_of {p : Nat → Bool} {l : List Nat} (h1 : (List.range 128).all (fun c => decide (c ∈ l) == p c) = true) (h2 : l.all (fun c => decide (c < 128)) = true) (h3 : ∀ c, 128 ≤ c → p c = false) (c : Nat) : decide (c ∈ l) = p c := by
  by_cases h : c < 128
  · have := List.all_eq_true.mp h1 c (List.mem_range.mpr h)
    simpa using this
  · rw [h3 c (by omega)]
    refine decide_eq_false fun hc => ?_
    have := List.all_eq_true.mp h2 c hc
    simp at this
    omega
theorem mem_signs (c : Nat) : decide (c ∈ SIGNS.cps.toList) = chText c := mem_of (by decide +kernel) (by decide +kernel) (fun c hc => by unfold chText; rw [decide_eq_false (by omega : ¬ c ≤ 126), Bool.and_false, Bool.false_and]) c
theorem mem_let (c : Nat) : decide (c ∈ ("abcdefghijklmnopqrstuvwxyz" : Str).cps.toList) = chLet c := mem_of (by decide +kernel) (by decide +kernel) (fun c hc => by unfold chLet; rw [decide_eq_false (by omega : ¬ c ≤ 122), Bool.and_false]) c
theorem chName_big {c : Nat} (hc : 128 ≤ c) : chName c = false := by
  unfold chName chLet
  rw [decide_eq_false (by omega : ¬ c ≤ 122), decide_eq_false (by omega : ¬ c ≤ 57), Bool.and_false, Bool.and_false]; rfl
theorem mem_name (c : Nat) : decide (c ∈ ("abcdefghijklmnopqrstuvwxyz0123456789" : Str).cps.toList) = chName c := mem_of (by decide +kernel) (by decide +kernel) (fun c hc => chName_big hc) c
theorem mem_name2 (c : Nat) : decide (c ∈ (("abcdefghijklmnopqrstuvwxyz" : Str) ++ ("0123456789" : Str)).cps.toList) = chName c := mem_of (by decide +kernel) (by decide +kernel) (fun c hc => chName_big hc) c
theorem le_lo (c : Nat) : (!decide ([c] < (" " : Str).cps.toList)) = decide (32 ≤ c) := by
  rw [show (" " : Str).cps.toList = [32] from by decide +kernel]
  by_cases h : 32 ≤ c
  · rw [decide_eq_true h, decide_eq_false (by intro q; rcases List.cons_lt_cons_iff.mp q with q | ⟨_, q⟩ <;> first | omega | (exact absurd q (by simp)))]; rfl
  · rw [decide_eq_false h, decide_eq_true (List.cons_lt_cons_iff.mpr (.inl (by omega)))]; rfl
theorem le_hi (c : Nat) : (!decide (("~" : Str).cps.toList < [c])) = decide (c ≤ 126) := by
  rw [show ("~" : Str).cps.toList = [126] from by decide +kernel]
  by_cases h : c ≤ 126
  · rw [decide_eq_true h, decide_eq_false (by intro q; rcases List.cons_lt_cons_iff.mp q with q | ⟨_, q⟩ <;> first | omega | (exact absurd q (by simp)))]; rfl
  · rw [decide_eq_false h, decide_eq_true (List.cons_lt_cons_iff.mpr (.inl (by omega)))]; rfl
/-- the sign of a text of one sign -/
def sg : D → Nat
  | .str z => z.cps.getD 0 0
  | _ => 0
theorem sg_all {p : Nat → Bool} {s : Str} : ((signs s).all fun d => p (sg d)) = s.cps.toList.all p := by
  unfold signs
  rw [List.all_map]
  congr 1
theorem sg_mem {s : Str} {d : D} (h : d ∈ signs s) : ∃ c, c ∈ s.cps.toList ∧ d = .str ⟨#[c]⟩ ∧ sg d = c := by
  obtain ⟨c, hc, rfl⟩ := List.mem_map.mp h
  exact ⟨c, hc, rfl, rfl⟩
theorem sg_len {s : Str} : (signs s).length = s.length := by
  unfold signs
  rw [List.length_map]; rfl
theorem eqv_nil : ∀ {l : List D}, PyData.eqvAll (toPys l) (toPys []) = l.isEmpty
  | [] => by rw [toPys, PyData.eqvAll]; rfl
  | _ :: _ => by rw [toPys, toPys, PyData.eqvAll]; rfl
theorem flt_all {p : D → Bool} {f : D → D} : ∀ {l : List D}, ((l.filter fun d => !p d).map f).isEmpty = l.all p
  | [] => rfl
  | d :: l => by
    cases h : p d with
    | true => rw [List.filter_cons_of_neg (by rw [h]; decide), flt_all, List.all_cons, h]; rfl
    | false => rw [List.filter_cons_of_pos (by rw [h]; rfl), List.all_cons, h]; rfl
def textB : D → Bool
  | .str s => decide (s.length ≤ 400) && s.cps.toList.all chText
  | _ => false
def nameB : D → Bool
  | .str s => decide (0 < s.length) && decide (s.length ≤ 8) && chLet (s.cps.getD 0 0) && s.cps.toList.all chName
  | _ => false
theorem text_str {s : Str} : textB (.str s) = (decide (s.length ≤ 400) && s.cps.toList.all chText) := rfl
theorem name_str {s : Str} : nameB (.str s) = (decide (0 < s.length) && decide (s.length ≤ 8) && chLet (s.cps.getD 0 0) && s.cps.toList.all chName) := rfl
theorem is_text_spec {b k : Nat} {v : D} {G : DG} {Q : DK} (hv : Pb b k v) (h : ∀ G', Keep G G' → Q (.bl (textB v)) G') : sp_is_text [v] G Q := by
  refine ⟨rfl, ?_⟩
  show t_is_text _ [some v, none] G
  unfold t_is_text
  rcases hv.no with ⟨ds, rfl⟩ | rfl | ⟨i, rfl⟩ | ⟨i, rfl⟩ | ⟨s, rfl, e, hl⟩
  · try simp only [seq_, next_, ret_, drop_, ifs_, br_t, br_f, asg_, gn_, gt_, gtc_, gtn_, par_, var_0, var_s, c_, nil_, cons_, tup_, lst_, op_, bool_, kb_, tru_, tr_bl, andT_, orT_, kn_tt, kn_tf, kn_ff, kn_ft, notT_, and_, kand_t, kand_f, if_, bre_t, bre_f, call_, cb_, neg_, sl_, nopart_, part_, FD.sl_tup, eq_int0, eq_int1, eq_bl0, eq_bl1, beq_self_eq_true, Bool.not_true, Bool.not_false, add_int, add_tup, add_ref, int_, int0_, mul_int, mul_str, ord_int, FD.ix_tup, ix_fl, ix_ref, at_0, at_1, at_2, at_3, len_tup, len_fl, len_ref, max2_, min2_, tuple_tup, tuple_ref, is_, gs_, setL_, ml_, for_, rng1_, any_, lc_, FD.sl_ref, list_tup, dict0_, dn_, sortK_, val_tup, yes_, isLst_, List.set_cons_zero, List.set_cons_succ, or_, kor_t, kor_f, not_, chain_, kch_t, kch_f, ord_str, len_str, ordc_, strc_int, val_str, add_str, sl_strD, match_, cc_, kc_n, kc_s, cn_, wild_, isi_ty (show tyD G (.tup ds) = some .tuple from rfl) ty_str, show Ty.isa .tuple .str = false from rfl]
    exact h G .refl
  · try simp only [seq_, next_, ret_, drop_, ifs_, br_t, br_f, asg_, gn_, gt_, gtc_, gtn_, par_, var_0, var_s, c_, nil_, cons_, tup_, lst_, op_, bool_, kb_, tru_, tr_bl, andT_, orT_, kn_tt, kn_tf, kn_ff, kn_ft, notT_, and_, kand_t, kand_f, if_, bre_t, bre_f, call_, cb_, neg_, sl_, nopart_, part_, FD.sl_tup, eq_int0, eq_int1, eq_bl0, eq_bl1, beq_self_eq_true, Bool.not_true, Bool.not_false, add_int, add_tup, add_ref, int_, int0_, mul_int, mul_str, ord_int, FD.ix_tup, ix_fl, ix_ref, at_0, at_1, at_2, at_3, len_tup, len_fl, len_ref, max2_, min2_, tuple_tup, tuple_ref, is_, gs_, setL_, ml_, for_, rng1_, any_, lc_, FD.sl_ref, list_tup, dict0_, dn_, sortK_, val_tup, yes_, isLst_, List.set_cons_zero, List.set_cons_succ, or_, kor_t, kor_f, not_, chain_, kch_t, kch_f, ord_str, len_str, ordc_, strc_int, val_str, add_str, sl_strD, match_, cc_, kc_n, kc_s, cn_, wild_, isi_ty (show tyD G .non = some .none from rfl) ty_str, show Ty.isa .none .str = false from rfl]
    exact h G .refl
  · try simp only [seq_, next_, ret_, drop_, ifs_, br_t, br_f, asg_, gn_, gt_, gtc_, gtn_, par_, var_0, var_s, c_, nil_, cons_, tup_, lst_, op_, bool_, kb_, tru_, tr_bl, andT_, orT_, kn_tt, kn_tf, kn_ff, kn_ft, notT_, and_, kand_t, kand_f, if_, bre_t, bre_f, call_, cb_, neg_, sl_, nopart_, part_, FD.sl_tup, eq_int0, eq_int1, eq_bl0, eq_bl1, beq_self_eq_true, Bool.not_true, Bool.not_false, add_int, add_tup, add_ref, int_, int0_, mul_int, mul_str, ord_int, FD.ix_tup, ix_fl, ix_ref, at_0, at_1, at_2, at_3, len_tup, len_fl, len_ref, max2_, min2_, tuple_tup, tuple_ref, is_, gs_, setL_, ml_, for_, rng1_, any_, lc_, FD.sl_ref, list_tup, dict0_, dn_, sortK_, val_tup, yes_, isLst_, List.set_cons_zero, List.set_cons_succ, or_, kor_t, kor_f, not_, chain_, kch_t, kch_f, ord_str, len_str, ordc_, strc_int, val_str, add_str, sl_strD, match_, cc_, kc_n, kc_s, cn_, wild_, isi_ty (show tyD G (.int i) = some .int from rfl) ty_str, show Ty.isa .int .str = false from rfl]
    exact h G .refl
  · try simp only [seq_, next_, ret_, drop_, ifs_, br_t, br_f, asg_, gn_, gt_, gtc_, gtn_, par_, var_0, var_s, c_, nil_, cons_, tup_, lst_, op_, bool_, kb_, tru_, tr_bl, andT_, orT_, kn_tt, kn_tf, kn_ff, kn_ft, notT_, and_, kand_t, kand_f, if_, bre_t, bre_f, call_, cb_, neg_, sl_, nopart_, part_, FD.sl_tup, eq_int0, eq_int1, eq_bl0, eq_bl1, beq_self_eq_true, Bool.not_true, Bool.not_false, add_int, add_tup, add_ref, int_, int0_, mul_int, mul_str, ord_int, FD.ix_tup, ix_fl, ix_ref, at_0, at_1, at_2, at_3, len_tup, len_fl, len_ref, max2_, min2_, tuple_tup, tuple_ref, is_, gs_, setL_, ml_, for_, rng1_, any_, lc_, FD.sl_ref, list_tup, dict0_, dn_, sortK_, val_tup, yes_, isLst_, List.set_cons_zero, List.set_cons_succ, or_, kor_t, kor_f, not_, chain_, kch_t, kch_f, ord_str, len_str, ordc_, strc_int, val_str, add_str, sl_strD, match_, cc_, kc_n, kc_s, cn_, wild_, isi_ty (show tyD G (.bl i) = some .bool from rfl) ty_str, show Ty.isa .bool .str = false from rfl]
    exact h G .refl
  · try simp only [seq_, next_, ret_, drop_, ifs_, br_t, br_f, asg_, gn_, gt_, gtc_, gtn_, par_, var_0, var_s, c_, nil_, cons_, tup_, lst_, op_, bool_, kb_, tru_, tr_bl, andT_, orT_, kn_tt, kn_tf, kn_ff, kn_ft, notT_, and_, kand_t, kand_f, if_, bre_t, bre_f, call_, cb_, neg_, sl_, nopart_, part_, FD.sl_tup, eq_int0, eq_int1, eq_bl0, eq_bl1, beq_self_eq_true, Bool.not_true, Bool.not_false, add_int, add_tup, add_ref, int_, int0_, mul_int, mul_str, ord_int, FD.ix_tup, ix_fl, ix_ref, at_0, at_1, at_2, at_3, len_tup, len_fl, len_ref, max2_, min2_, tuple_tup, tuple_ref, is_, gs_, setL_, ml_, for_, rng1_, any_, lc_, FD.sl_ref, list_tup, dict0_, dn_, sortK_, val_tup, yes_, isLst_, List.set_cons_zero, List.set_cons_succ, or_, kor_t, kor_f, not_, chain_, kch_t, kch_f, ord_str, len_str, ordc_, strc_int, val_str, add_str, sl_strD, match_, cc_, kc_n, kc_s, cn_, wild_, isi_ty (show tyD G (.str s) = some .str from rfl) ty_str, show Ty.isa .str .str = true from rfl]
    refine ⟨by simp only [sizeLine]; omega, ?_⟩
    by_cases hb : s.length ≤ 400
    · rw [decide_eq_false (by omega : ¬ (400 : Int) < s.length)]
      try simp only [seq_, next_, ret_, drop_, ifs_, br_t, br_f, asg_, gn_, gt_, gtc_, gtn_, par_, var_0, var_s, c_, nil_, cons_, tup_, lst_, op_, bool_, kb_, tru_, tr_bl, andT_, orT_, kn_tt, kn_tf, kn_ff, kn_ft, notT_, and_, kand_t, kand_f, if_, bre_t, bre_f, call_, cb_, neg_, sl_, nopart_, part_, FD.sl_tup, eq_int0, eq_int1, eq_bl0, eq_bl1, beq_self_eq_true, Bool.not_true, Bool.not_false, add_int, add_tup, add_ref, int_, int0_, mul_int, mul_str, ord_int, FD.ix_tup, ix_fl, ix_ref, at_0, at_1, at_2, at_3, len_tup, len_fl, len_ref, max2_, min2_, tuple_tup, tuple_ref, is_, gs_, setL_, ml_, for_, rng1_, any_, lc_, FD.sl_ref, list_tup, dict0_, dn_, sortK_, val_tup, yes_, isLst_, List.set_cons_zero, List.set_cons_succ, or_, kor_t, kor_f, not_, chain_, kch_t, kch_f, ord_str, len_str, ordc_, strc_int, val_str, add_str, sl_strD, match_, cc_, kc_n, kc_s, cn_, wild_]
      refine lcGo_inv (fun G' => Keep G G') (fun d y => y = .bl (chText (sg d))) (fun _ _ => True.intro) _ _ _ ?_ .refl (by rw [sg_len, List.length_nil]; simp only [sizeLine]; omega) fun ys G1 hp k1 => ?_
      · intro d hd G1 K k1 kk
        obtain ⟨c, hc, rfl, hs⟩ := sg_mem hd
        try simp only [seq_, next_, ret_, drop_, ifs_, br_t, br_f, asg_, gn_, gt_, gtc_, gtn_, par_, var_0, var_s, c_, nil_, cons_, tup_, lst_, op_, bool_, kb_, tru_, tr_bl, andT_, orT_, kn_tt, kn_tf, kn_ff, kn_ft, notT_, and_, kand_t, kand_f, if_, bre_t, bre_f, call_, cb_, neg_, sl_, nopart_, part_, FD.sl_tup, eq_int0, eq_int1, eq_bl0, eq_bl1, beq_self_eq_true, Bool.not_true, Bool.not_false, add_int, add_tup, add_ref, int_, int0_, mul_int, mul_str, ord_int, FD.ix_tup, ix_fl, ix_ref, at_0, at_1, at_2, at_3, len_tup, len_fl, len_ref, max2_, min2_, tuple_tup, tuple_ref, is_, gs_, setL_, ml_, for_, rng1_, any_, lc_, FD.sl_ref, list_tup, dict0_, dn_, sortK_, val_tup, yes_, isLst_, List.set_cons_zero, List.set_cons_succ, or_, kor_t, kor_f, not_, chain_, kch_t, kch_f, ord_str, len_str, ordc_, strc_int, val_str, add_str, sl_strD, match_, cc_, kc_n, kc_s, cn_, wild_, wipeD, le_lo, le_hi]
        have kk' := kk (.bl (chText c)) G1 (by rw [hs]) k1
        unfold chText at kk'
        cases h1 : decide (32 ≤ c) with
        | false =>
          rw [h1] at kk'
          try simp only [seq_, next_, ret_, drop_, ifs_, br_t, br_f, asg_, gn_, gt_, gtc_, gtn_, par_, var_0, var_s, c_, nil_, cons_, tup_, lst_, op_, bool_, kb_, tru_, tr_bl, andT_, orT_, kn_tt, kn_tf, kn_ff, kn_ft, notT_, and_, kand_t, kand_f, if_, bre_t, bre_f, call_, cb_, neg_, sl_, nopart_, part_, FD.sl_tup, eq_int0, eq_int1, eq_bl0, eq_bl1, beq_self_eq_true, Bool.not_true, Bool.not_false, add_int, add_tup, add_ref, int_, int0_, mul_int, mul_str, ord_int, FD.ix_tup, ix_fl, ix_ref, at_0, at_1, at_2, at_3, len_tup, len_fl, len_ref, max2_, min2_, tuple_tup, tuple_ref, is_, gs_, setL_, ml_, for_, rng1_, any_, lc_, FD.sl_ref, list_tup, dict0_, dn_, sortK_, val_tup, yes_, isLst_, List.set_cons_zero, List.set_cons_succ, or_, kor_t, kor_f, not_, chain_, kch_t, kch_f, ord_str, len_str, ordc_, strc_int, val_str, add_str, sl_strD, match_, cc_, kc_n, kc_s, cn_, wild_]
          exact kk'
        | true =>
          rw [h1] at kk'
          try simp only [seq_, next_, ret_, drop_, ifs_, br_t, br_f, asg_, gn_, gt_, gtc_, gtn_, par_, var_0, var_s, c_, nil_, cons_, tup_, lst_, op_, bool_, kb_, tru_, tr_bl, andT_, orT_, kn_tt, kn_tf, kn_ff, kn_ft, notT_, and_, kand_t, kand_f, if_, bre_t, bre_f, call_, cb_, neg_, sl_, nopart_, part_, FD.sl_tup, eq_int0, eq_int1, eq_bl0, eq_bl1, beq_self_eq_true, Bool.not_true, Bool.not_false, add_int, add_tup, add_ref, int_, int0_, mul_int, mul_str, ord_int, FD.ix_tup, ix_fl, ix_ref, at_0, at_1, at_2, at_3, len_tup, len_fl, len_ref, max2_, min2_, tuple_tup, tuple_ref, is_, gs_, setL_, ml_, for_, rng1_, any_, lc_, FD.sl_ref, list_tup, dict0_, dn_, sortK_, val_tup, yes_, isLst_, List.set_cons_zero, List.set_cons_succ, or_, kor_t, kor_f, not_, chain_, kch_t, kch_f, ord_str, len_str, ordc_, strc_int, val_str, add_str, sl_strD, match_, cc_, kc_n, kc_s, cn_, wild_, le_hi]
          cases h2 : decide (c ≤ 126) with
          | false =>
            rw [h2] at kk'
            try simp only [seq_, next_, ret_, drop_, ifs_, br_t, br_f, asg_, gn_, gt_, gtc_, gtn_, par_, var_0, var_s, c_, nil_, cons_, tup_, lst_, op_, bool_, kb_, tru_, tr_bl, andT_, orT_, kn_tt, kn_tf, kn_ff, kn_ft, notT_, and_, kand_t, kand_f, if_, bre_t, bre_f, call_, cb_, neg_, sl_, nopart_, part_, FD.sl_tup, eq_int0, eq_int1, eq_bl0, eq_bl1, beq_self_eq_true, Bool.not_true, Bool.not_false, add_int, add_tup, add_ref, int_, int0_, mul_int, mul_str, ord_int, FD.ix_tup, ix_fl, ix_ref, at_0, at_1, at_2, at_3, len_tup, len_fl, len_ref, max2_, min2_, tuple_tup, tuple_ref, is_, gs_, setL_, ml_, for_, rng1_, any_, lc_, FD.sl_ref, list_tup, dict0_, dn_, sortK_, val_tup, yes_, isLst_, List.set_cons_zero, List.set_cons_succ, or_, kor_t, kor_f, not_, chain_, kch_t, kch_f, ord_str, len_str, ordc_, strc_int, val_str, add_str, sl_strD, match_, cc_, kc_n, kc_s, cn_, wild_]
            exact kk'
          | true =>
            rw [h2] at kk'
            try simp only [seq_, next_, ret_, drop_, ifs_, br_t, br_f, asg_, gn_, gt_, gtc_, gtn_, par_, var_0, var_s, c_, nil_, cons_, tup_, lst_, op_, bool_, kb_, tru_, tr_bl, andT_, orT_, kn_tt, kn_tf, kn_ff, kn_ft, notT_, and_, kand_t, kand_f, if_, bre_t, bre_f, call_, cb_, neg_, sl_, nopart_, part_, FD.sl_tup, eq_int0, eq_int1, eq_bl0, eq_bl1, beq_self_eq_true, Bool.not_true, Bool.not_false, add_int, add_tup, add_ref, int_, int0_, mul_int, mul_str, ord_int, FD.ix_tup, ix_fl, ix_ref, at_0, at_1, at_2, at_3, len_tup, len_fl, len_ref, max2_, min2_, tuple_tup, tuple_ref, is_, gs_, setL_, ml_, for_, rng1_, any_, lc_, FD.sl_ref, list_tup, dict0_, dn_, sortK_, val_tup, yes_, isLst_, List.set_cons_zero, List.set_cons_succ, or_, kor_t, kor_f, not_, chain_, kch_t, kch_f, ord_str, len_str, ordc_, strc_int, val_str, add_str, sl_strD, match_, cc_, kc_n, kc_s, cn_, wild_]
            refine ⟨rfl, ?_⟩
            have e37 : ((((#[c] : Array Nat).getD 0 0 : Nat) : Int) == 37) = (c == 37) := by
              show (((c : Nat) : Int) == 37) = (c == 37)
              by_cases q : c = 37
              · subst q; rfl
              · rw [beq_eq_false_iff_ne.mpr q, beq_eq_false_iff_ne.mpr (by omega)]
            try simp only [seq_, next_, ret_, drop_, ifs_, br_t, br_f, asg_, gn_, gt_, gtc_, gtn_, par_, var_0, var_s, c_, nil_, cons_, tup_, lst_, op_, bool_, kb_, tru_, tr_bl, andT_, orT_, kn_tt, kn_tf, kn_ff, kn_ft, notT_, and_, kand_t, kand_f, if_, bre_t, bre_f, call_, cb_, neg_, sl_, nopart_, part_, FD.sl_tup, eq_int0, eq_int1, eq_bl0, eq_bl1, beq_self_eq_true, Bool.not_true, Bool.not_false, add_int, add_tup, add_ref, int_, int0_, mul_int, mul_str, ord_int, FD.ix_tup, ix_fl, ix_ref, at_0, at_1, at_2, at_3, len_tup, len_fl, len_ref, max2_, min2_, tuple_tup, tuple_ref, is_, gs_, setL_, ml_, for_, rng1_, any_, lc_, FD.sl_ref, list_tup, dict0_, dn_, sortK_, val_tup, yes_, isLst_, List.set_cons_zero, List.set_cons_succ, or_, kor_t, kor_f, not_, chain_, kch_t, kch_f, ord_str, len_str, ordc_, strc_int, val_str, add_str, sl_strD, match_, cc_, kc_n, kc_s, cn_, wild_, e37]
            exact kk'
      · rw [List.nil_append, paired_map hp]
        refine new_ fun p G2 _ e2 k2 => ?_
        refine all_bl (p := fun d => chText (sg d)) e2 ?_
        rw [sg_all]
        have := h G2 (k1.trans k2)
        rw [text_str] at this
        rwa [decide_eq_true hb] at this
    · rw [decide_eq_true (by omega : (400 : Int) < s.length)]
      try simp only [seq_, next_, ret_, drop_, ifs_, br_t, br_f, asg_, gn_, gt_, gtc_, gtn_, par_, var_0, var_s, c_, nil_, cons_, tup_, lst_, op_, bool_, kb_, tru_, tr_bl, andT_, orT_, kn_tt, kn_tf, kn_ff, kn_ft, notT_, and_, kand_t, kand_f, if_, bre_t, bre_f, call_, cb_, neg_, sl_, nopart_, part_, FD.sl_tup, eq_int0, eq_int1, eq_bl0, eq_bl1, beq_self_eq_true, Bool.not_true, Bool.not_false, add_int, add_tup, add_ref, int_, int0_, mul_int, mul_str, ord_int, FD.ix_tup, ix_fl, ix_ref, at_0, at_1, at_2, at_3, len_tup, len_fl, len_ref, max2_, min2_, tuple_tup, tuple_ref, is_, gs_, setL_, ml_, for_, rng1_, any_, lc_, FD.sl_ref, list_tup, dict0_, dn_, sortK_, val_tup, yes_, isLst_, List.set_cons_zero, List.set_cons_succ, or_, kor_t, kor_f, not_, chain_, kch_t, kch_f, ord_str, len_str, ordc_, strc_int, val_str, add_str, sl_strD, match_, cc_, kc_n, kc_s, cn_, wild_]
      have := h G .refl
      rw [text_str] at this
      rwa [decide_eq_false hb] at this
theorem l_is_text_spec {b k : Nat} {v : D} {G : DG} {Q : DK} (hv : Pb b k v) (h : ∀ G', Keep G G' → Q (.bl (textB v)) G') : sp_l_is_text [v] G Q := by
  refine ⟨rfl, ?_⟩
  show t_l_is_text _ [some v, none, none] G
  unfold t_l_is_text
  rcases hv.no with ⟨ds, rfl⟩ | rfl | ⟨i, rfl⟩ | ⟨i, rfl⟩ | ⟨s, rfl, e, hl⟩
  · try simp only [seq_, next_, ret_, drop_, ifs_, br_t, br_f, asg_, gn_, gt_, gtc_, gtn_, par_, var_0, var_s, c_, nil_, cons_, tup_, lst_, op_, bool_, kb_, tru_, tr_bl, andT_, orT_, kn_tt, kn_tf, kn_ff, kn_ft, notT_, and_, kand_t, kand_f, if_, bre_t, bre_f, call_, cb_, neg_, sl_, nopart_, part_, FD.sl_tup, eq_int0, eq_int1, eq_bl0, eq_bl1, beq_self_eq_true, Bool.not_true, Bool.not_false, add_int, add_tup, add_ref, int_, int0_, mul_int, mul_str, ord_int, FD.ix_tup, ix_fl, ix_ref, at_0, at_1, at_2, at_3, len_tup, len_fl, len_ref, max2_, min2_, tuple_tup, tuple_ref, is_, gs_, setL_, ml_, for_, rng1_, any_, lc_, FD.sl_ref, list_tup, dict0_, dn_, sortK_, val_tup, yes_, isLst_, List.set_cons_zero, List.set_cons_succ, or_, kor_t, kor_f, not_, chain_, kch_t, kch_f, ord_str, len_str, ordc_, strc_int, val_str, add_str, sl_strD, match_, cc_, kc_n, kc_s, cn_, wild_, isi_ty (show tyD G (.tup ds) = some .tuple from rfl) ty_str, show Ty.isa .tuple .str = false from rfl]
    exact h G .refl
  · try simp only [seq_, next_, ret_, drop_, ifs_, br_t, br_f, asg_, gn_, gt_, gtc_, gtn_, par_, var_0, var_s, c_, nil_, cons_, tup_, lst_, op_, bool_, kb_, tru_, tr_bl, andT_, orT_, kn_tt, kn_tf, kn_ff, kn_ft, notT_, and_, kand_t, kand_f, if_, bre_t, bre_f, call_, cb_, neg_, sl_, nopart_, part_, FD.sl_tup, eq_int0, eq_int1, eq_bl0, eq_bl1, beq_self_eq_true, Bool.not_true, Bool.not_false, add_int, add_tup, add_ref, int_, int0_, mul_int, mul_str, ord_int, FD.ix_tup, ix_fl, ix_ref, at_0, at_1, at_2, at_3, len_tup, len_fl, len_ref, max2_, min2_, tuple_tup, tuple_ref, is_, gs_, setL_, ml_, for_, rng1_, any_, lc_, FD.sl_ref, list_tup, dict0_, dn_, sortK_, val_tup, yes_, isLst_, List.set_cons_zero, List.set_cons_succ, or_, kor_t, kor_f, not_, chain_, kch_t, kch_f, ord_str, len_str, ordc_, strc_int, val_str, add_str, sl_strD, match_, cc_, kc_n, kc_s, cn_, wild_, isi_ty (show tyD G .non = some .none from rfl) ty_str, show Ty.isa .none .str = false from rfl]
    exact h G .refl
  · try simp only [seq_, next_, ret_, drop_, ifs_, br_t, br_f, asg_, gn_, gt_, gtc_, gtn_, par_, var_0, var_s, c_, nil_, cons_, tup_, lst_, op_, bool_, kb_, tru_, tr_bl, andT_, orT_, kn_tt, kn_tf, kn_ff, kn_ft, notT_, and_, kand_t, kand_f, if_, bre_t, bre_f, call_, cb_, neg_, sl_, nopart_, part_, FD.sl_tup, eq_int0, eq_int1, eq_bl0, eq_bl1, beq_self_eq_true, Bool.not_true, Bool.not_false, add_int, add_tup, add_ref, int_, int0_, mul_int, mul_str, ord_int, FD.ix_tup, ix_fl, ix_ref, at_0, at_1, at_2, at_3, len_tup, len_fl, len_ref, max2_, min2_, tuple_tup, tuple_ref, is_, gs_, setL_, ml_, for_, rng1_, any_, lc_, FD.sl_ref, list_tup, dict0_, dn_, sortK_, val_tup, yes_, isLst_, List.set_cons_zero, List.set_cons_succ, or_, kor_t, kor_f, not_, chain_, kch_t, kch_f, ord_str, len_str, ordc_, strc_int, val_str, add_str, sl_strD, match_, cc_, kc_n, kc_s, cn_, wild_, isi_ty (show tyD G (.int i) = some .int from rfl) ty_str, show Ty.isa .int .str = false from rfl]
    exact h G .refl
  · try simp only [seq_, next_, ret_, drop_, ifs_, br_t, br_f, asg_, gn_, gt_, gtc_, gtn_, par_, var_0, var_s, c_, nil_, cons_, tup_, lst_, op_, bool_, kb_, tru_, tr_bl, andT_, orT_, kn_tt, kn_tf, kn_ff, kn_ft, notT_, and_, kand_t, kand_f, if_, bre_t, bre_f, call_, cb_, neg_, sl_, nopart_, part_, FD.sl_tup, eq_int0, eq_int1, eq_bl0, eq_bl1, beq_self_eq_true, Bool.not_true, Bool.not_false, add_int, add_tup, add_ref, int_, int0_, mul_int, mul_str, ord_int, FD.ix_tup, ix_fl, ix_ref, at_0, at_1, at_2, at_3, len_tup, len_fl, len_ref, max2_, min2_, tuple_tup, tuple_ref, is_, gs_, setL_, ml_, for_, rng1_, any_, lc_, FD.sl_ref, list_tup, dict0_, dn_, sortK_, val_tup, yes_, isLst_, List.set_cons_zero, List.set_cons_succ, or_, kor_t, kor_f, not_, chain_, kch_t, kch_f, ord_str, len_str, ordc_, strc_int, val_str, add_str, sl_strD, match_, cc_, kc_n, kc_s, cn_, wild_, isi_ty (show tyD G (.bl i) = some .bool from rfl) ty_str, show Ty.isa .bool .str = false from rfl]
    exact h G .refl
  · try simp only [seq_, next_, ret_, drop_, ifs_, br_t, br_f, asg_, gn_, gt_, gtc_, gtn_, par_, var_0, var_s, c_, nil_, cons_, tup_, lst_, op_, bool_, kb_, tru_, tr_bl, andT_, orT_, kn_tt, kn_tf, kn_ff, kn_ft, notT_, and_, kand_t, kand_f, if_, bre_t, bre_f, call_, cb_, neg_, sl_, nopart_, part_, FD.sl_tup, eq_int0, eq_int1, eq_bl0, eq_bl1, beq_self_eq_true, Bool.not_true, Bool.not_false, add_int, add_tup, add_ref, int_, int0_, mul_int, mul_str, ord_int, FD.ix_tup, ix_fl, ix_ref, at_0, at_1, at_2, at_3, len_tup, len_fl, len_ref, max2_, min2_, tuple_tup, tuple_ref, is_, gs_, setL_, ml_, for_, rng1_, any_, lc_, FD.sl_ref, list_tup, dict0_, dn_, sortK_, val_tup, yes_, isLst_, List.set_cons_zero, List.set_cons_succ, or_, kor_t, kor_f, not_, chain_, kch_t, kch_f, ord_str, len_str, ordc_, strc_int, val_str, add_str, sl_strD, match_, cc_, kc_n, kc_s, cn_, wild_, isi_ty (show tyD G (.str s) = some .str from rfl) ty_str, show Ty.isa .str .str = true from rfl]
    refine ⟨by simp only [sizeLine]; omega, ?_⟩
    by_cases hb : s.length ≤ 400
    · rw [decide_eq_false (by omega : ¬ (400 : Int) < s.length)]
      try simp only [seq_, next_, ret_, drop_, ifs_, br_t, br_f, asg_, gn_, gt_, gtc_, gtn_, par_, var_0, var_s, c_, nil_, cons_, tup_, lst_, op_, bool_, kb_, tru_, tr_bl, andT_, orT_, kn_tt, kn_tf, kn_ff, kn_ft, notT_, and_, kand_t, kand_f, if_, bre_t, bre_f, call_, cb_, neg_, sl_, nopart_, part_, FD.sl_tup, eq_int0, eq_int1, eq_bl0, eq_bl1, beq_self_eq_true, Bool.not_true, Bool.not_false, add_int, add_tup, add_ref, int_, int0_, mul_int, mul_str, ord_int, FD.ix_tup, ix_fl, ix_ref, at_0, at_1, at_2, at_3, len_tup, len_fl, len_ref, max2_, min2_, tuple_tup, tuple_ref, is_, gs_, setL_, ml_, for_, rng1_, any_, lc_, FD.sl_ref, list_tup, dict0_, dn_, sortK_, val_tup, yes_, isLst_, List.set_cons_zero, List.set_cons_succ, or_, kor_t, kor_f, not_, chain_, kch_t, kch_f, ord_str, len_str, ordc_, strc_int, val_str, add_str, sl_strD, match_, cc_, kc_n, kc_s, cn_, wild_]
      refine signs_spec ?_
      try simp only [seq_, next_, ret_, drop_, ifs_, br_t, br_f, asg_, gn_, gt_, gtc_, gtn_, par_, var_0, var_s, c_, nil_, cons_, tup_, lst_, op_, bool_, kb_, tru_, tr_bl, andT_, orT_, kn_tt, kn_tf, kn_ff, kn_ft, notT_, and_, kand_t, kand_f, if_, bre_t, bre_f, call_, cb_, neg_, sl_, nopart_, part_, FD.sl_tup, eq_int0, eq_int1, eq_bl0, eq_bl1, beq_self_eq_true, Bool.not_true, Bool.not_false, add_int, add_tup, add_ref, int_, int0_, mul_int, mul_str, ord_int, FD.ix_tup, ix_fl, ix_ref, at_0, at_1, at_2, at_3, len_tup, len_fl, len_ref, max2_, min2_, tuple_tup, tuple_ref, is_, gs_, setL_, ml_, for_, rng1_, any_, lc_, FD.sl_ref, list_tup, dict0_, dn_, sortK_, val_tup, yes_, isLst_, List.set_cons_zero, List.set_cons_succ, or_, kor_t, kor_f, not_, chain_, kch_t, kch_f, ord_str, len_str, ordc_, strc_int, val_str, add_str, sl_strD, match_, cc_, kc_n, kc_s, cn_, wild_]
      refine lcGo_flt (fun G' => Keep G G') (fun d => !chText (sg d)) id (fun _ _ => True.intro) _ _ _ ?_ .refl (by rw [sg_len, List.length_nil]; simp only [sizeLine]; omega) fun G1 k1 => ?_
      · intro d hd G1 Ky Kn k1 ky kn
        obtain ⟨c, hc, rfl, hs⟩ := sg_mem hd
        try simp only [seq_, next_, ret_, drop_, ifs_, br_t, br_f, asg_, gn_, gt_, gtc_, gtn_, par_, var_0, var_s, c_, nil_, cons_, tup_, lst_, op_, bool_, kb_, tru_, tr_bl, andT_, orT_, kn_tt, kn_tf, kn_ff, kn_ft, notT_, and_, kand_t, kand_f, if_, bre_t, bre_f, call_, cb_, neg_, sl_, nopart_, part_, FD.sl_tup, eq_int0, eq_int1, eq_bl0, eq_bl1, beq_self_eq_true, Bool.not_true, Bool.not_false, add_int, add_tup, add_ref, int_, int0_, mul_int, mul_str, ord_int, FD.ix_tup, ix_fl, ix_ref, at_0, at_1, at_2, at_3, len_tup, len_fl, len_ref, max2_, min2_, tuple_tup, tuple_ref, is_, gs_, setL_, ml_, for_, rng1_, any_, lc_, FD.sl_ref, list_tup, dict0_, dn_, sortK_, val_tup, yes_, isLst_, List.set_cons_zero, List.set_cons_succ, or_, kor_t, kor_f, not_, chain_, kch_t, kch_f, ord_str, len_str, ordc_, strc_int, val_str, add_str, sl_strD, match_, cc_, kc_n, kc_s, cn_, wild_, wipeD]
        refine in_sign ?_
        rw [mem_signs]
        try simp only [seq_, next_, ret_, drop_, ifs_, br_t, br_f, asg_, gn_, gt_, gtc_, gtn_, par_, var_0, var_s, c_, nil_, cons_, tup_, lst_, op_, bool_, kb_, tru_, tr_bl, andT_, orT_, kn_tt, kn_tf, kn_ff, kn_ft, notT_, and_, kand_t, kand_f, if_, bre_t, bre_f, call_, cb_, neg_, sl_, nopart_, part_, FD.sl_tup, eq_int0, eq_int1, eq_bl0, eq_bl1, beq_self_eq_true, Bool.not_true, Bool.not_false, add_int, add_tup, add_ref, int_, int0_, mul_int, mul_str, ord_int, FD.ix_tup, ix_fl, ix_ref, at_0, at_1, at_2, at_3, len_tup, len_fl, len_ref, max2_, min2_, tuple_tup, tuple_ref, is_, gs_, setL_, ml_, for_, rng1_, any_, lc_, FD.sl_ref, list_tup, dict0_, dn_, sortK_, val_tup, yes_, isLst_, List.set_cons_zero, List.set_cons_succ, or_, kor_t, kor_f, not_, chain_, kch_t, kch_f, ord_str, len_str, ordc_, strc_int, val_str, add_str, sl_strD, match_, cc_, kc_n, kc_s, cn_, wild_]
        rw [hs] at ky kn
        cases h1 : chText c with
        | false =>
          rw [h1] at ky
          exact ky rfl _ k1
        | true =>
          rw [h1] at kn
          exact kn rfl _ k1
      · rw [List.nil_append]
        refine new_ fun p G2 _ e2 k2 => ?_
        try simp only [seq_, next_, ret_, drop_, ifs_, br_t, br_f, asg_, gn_, gt_, gtc_, gtn_, par_, var_0, var_s, c_, nil_, cons_, tup_, lst_, op_, bool_, kb_, tru_, tr_bl, andT_, orT_, kn_tt, kn_tf, kn_ff, kn_ft, notT_, and_, kand_t, kand_f, if_, bre_t, bre_f, call_, cb_, neg_, sl_, nopart_, part_, FD.sl_tup, eq_int0, eq_int1, eq_bl0, eq_bl1, beq_self_eq_true, Bool.not_true, Bool.not_false, add_int, add_tup, add_ref, int_, int0_, mul_int, mul_str, ord_int, FD.ix_tup, ix_fl, ix_ref, at_0, at_1, at_2, at_3, len_tup, len_fl, len_ref, max2_, min2_, tuple_tup, tuple_ref, is_, gs_, setL_, ml_, for_, rng1_, any_, lc_, FD.sl_ref, list_tup, dict0_, dn_, sortK_, val_tup, yes_, isLst_, List.set_cons_zero, List.set_cons_succ, or_, kor_t, kor_f, not_, chain_, kch_t, kch_f, ord_str, len_str, ordc_, strc_int, val_str, add_str, sl_strD, match_, cc_, kc_n, kc_s, cn_, wild_]
        repeat (with_reducible refine And.intro (by first | rfl | omega | (simp only [sizeLine, List.length_cons, List.length_nil, List.length_append] <;> omega)) ?_)
        refine new_ fun q G3 _ e3 k3 => ?_
        have hpl : ∀ d ∈ ((signs s).filter fun d => !chText (sg d)).map id, Pl 0 d := fun d hd => by
          rw [List.map_id] at hd
          obtain ⟨c, hc, rfl, hs⟩ := sg_mem (s := s) (List.mem_filter.mp hd).1
          rw [Pl]
          exact (sok_chr (sok_iff.mp e c hc)).1
        refine eq_pls0 (k := 0) (m := 0) (k3 _ _ e2) e3 hpl (fun _ h => nomatch h) (by decide) (by decide) ?_
        rw [eqv_nil, flt_all (p := fun d => chText (sg d)), sg_all]
        have := h G3 (k1.trans (k2.trans k3))
        rw [text_str] at this
        rwa [decide_eq_true hb] at this
    · rw [decide_eq_true (by omega : (400 : Int) < s.length)]
      try simp only [seq_, next_, ret_, drop_, ifs_, br_t, br_f, asg_, gn_, gt_, gtc_, gtn_, par_, var_0, var_s, c_, nil_, cons_, tup_, lst_, op_, bool_, kb_, tru_, tr_bl, andT_, orT_, kn_tt, kn_tf, kn_ff, kn_ft, notT_, and_, kand_t, kand_f, if_, bre_t, bre_f, call_, cb_, neg_, sl_, nopart_, part_, FD.sl_tup, eq_int0, eq_int1, eq_bl0, eq_bl1, beq_self_eq_true, Bool.not_true, Bool.not_false, add_int, add_tup, add_ref, int_, int0_, mul_int, mul_str, ord_int, FD.ix_tup, ix_fl, ix_ref, at_0, at_1, at_2, at_3, len_tup, len_fl, len_ref, max2_, min2_, tuple_tup, tuple_ref, is_, gs_, setL_, ml_, for_, rng1_, any_, lc_, FD.sl_ref, list_tup, dict0_, dn_, sortK_, val_tup, yes_, isLst_, List.set_cons_zero, List.set_cons_succ, or_, kor_t, kor_f, not_, chain_, kch_t, kch_f, ord_str, len_str, ordc_, strc_int, val_str, add_str, sl_strD, match_, cc_, kc_n, kc_s, cn_, wild_]
      have := h G .refl
      rw [text_str] at this
      rwa [decide_eq_false hb] at this
end K02

namespace K02
open PySem L2 FD
theorem str_get0 {s : Str} (h : 0 < s.length) : atI s.cps.toList 0 = some (s.cps.getD 0 0) := by
  have e : 0 < s.cps.toList.length := h
  unfold atI ixN
  rw [if_pos (by decide), if_pos (by omega)]
  show s.cps.toList[0]? = _
  rw [List.getElem?_eq_getElem e]
  congr 1
  show s.cps.toList[0] = s.cps.getD 0 0
  rw [Array.getElem_toList]
  unfold Array.getD
  rw [dif_pos (show 0 < s.cps.size from h)]
  rfl
theorem is_name_spec {b k : Nat} {v : D} {G : DG} {Q : DK} (hv : Pb b k v) (h : ∀ G', Keep G G' → Q (.bl (nameB v)) G') : sp_is_name [v] G Q := by
  refine ⟨rfl, ?_⟩
  show t_is_name _ [some v, none] G
  unfold t_is_name
  rcases hv.no with ⟨ds, rfl⟩ | rfl | ⟨i, rfl⟩ | ⟨i, rfl⟩ | ⟨s, rfl, e, hl⟩
  · try simp only [seq_, next_, ret_, drop_, ifs_, br_t, br_f, asg_, gn_, gt_, gtc_, gtn_, par_, var_0, var_s, c_, nil_, cons_, tup_, lst_, op_, bool_, kb_, tru_, tr_bl, andT_, orT_, kn_tt, kn_tf, kn_ff, kn_ft, notT_, and_, kand_t, kand_f, if_, bre_t, bre_f, call_, cb_, neg_, sl_, nopart_, part_, FD.sl_tup, eq_int0, eq_int1, eq_bl0, eq_bl1, beq_self_eq_true, Bool.not_true, Bool.not_false, add_int, add_tup, add_ref, int_, int0_, mul_int, mul_str, ord_int, FD.ix_tup, ix_fl, ix_ref, at_0, at_1, at_2, at_3, len_tup, len_fl, len_ref, max2_, min2_, tuple_tup, tuple_ref, is_, gs_, setL_, ml_, for_, rng1_, any_, lc_, FD.sl_ref, list_tup, dict0_, dn_, sortK_, val_tup, yes_, isLst_, List.set_cons_zero, List.set_cons_succ, or_, kor_t, kor_f, not_, chain_, kch_t, kch_f, ord_str, len_str, ordc_, strc_int, val_str, add_str, sl_strD, match_, cc_, kc_n, kc_s, cn_, wild_, isi_ty (show tyD G (.tup ds) = some .tuple from rfl) ty_str, show Ty.isa .tuple .str = false from rfl]
    exact h G .refl
  · try simp only [seq_, next_, ret_, drop_, ifs_, br_t, br_f, asg_, gn_, gt_, gtc_, gtn_, par_, var_0, var_s, c_, nil_, cons_, tup_, lst_, op_, bool_, kb_, tru_, tr_bl, andT_, orT_, kn_tt, kn_tf, kn_ff, kn_ft, notT_, and_, kand_t, kand_f, if_, bre_t, bre_f, call_, cb_, neg_, sl_, nopart_, part_, FD.sl_tup, eq_int0, eq_int1, eq_bl0, eq_bl1, beq_self_eq_true, Bool.not_true, Bool.not_false, add_int, add_tup, add_ref, int_, int0_, mul_int, mul_str, ord_int, FD.ix_tup, ix_fl, ix_ref, at_0, at_1, at_2, at_3, len_tup, len_fl, len_ref, max2_, min2_, tuple_tup, tuple_ref, is_, gs_, setL_, ml_, for_, rng1_, any_, lc_, FD.sl_ref, list_tup, dict0_, dn_, sortK_, val_tup, yes_, isLst_, List.set_cons_zero, List.set_cons_succ, or_, kor_t, kor_f, not_, chain_, kch_t, kch_f, ord_str, len_str, ordc_, strc_int, val_str, add_str, sl_strD, match_, cc_, kc_n, kc_s, cn_, wild_, isi_ty (show tyD G .non = some .none from rfl) ty_str, show Ty.isa .none .str = false from rfl]
    exact h G .refl
  · try simp only [seq_, next_, ret_, drop_, ifs_, br_t, br_f, asg_, gn_, gt_, gtc_, gtn_, par_, var_0, var_s, c_, nil_, cons_, tup_, lst_, op_, bool_, kb_, tru_, tr_bl, andT_, orT_, kn_tt, kn_tf, kn_ff, kn_ft, notT_, and_, kand_t, kand_f, if_, bre_t, bre_f, call_, cb_, neg_, sl_, nopart_, part_, FD.sl_tup, eq_int0, eq_int1, eq_bl0, eq_bl1, beq_self_eq_true, Bool.not_true, Bool.not_false, add_int, add_tup, add_ref, int_, int0_, mul_int, mul_str, ord_int, FD.ix_tup, ix_fl, ix_ref, at_0, at_1, at_2, at_3, len_tup, len_fl, len_ref, max2_, min2_, tuple_tup, tuple_ref, is_, gs_, setL_, ml_, for_, rng1_, any_, lc_, FD.sl_ref, list_tup, dict0_, dn_, sortK_, val_tup, yes_, isLst_, List.set_cons_zero, List.set_cons_succ, or_, kor_t, kor_f, not_, chain_, kch_t, kch_f, ord_str, len_str, ordc_, strc_int, val_str, add_str, sl_strD, match_, cc_, kc_n, kc_s, cn_, wild_, isi_ty (show tyD G (.int i) = some .int from rfl) ty_str, show Ty.isa .int .str = false from rfl]
    exact h G .refl
  · try simp only [seq_, next_, ret_, drop_, ifs_, br_t, br_f, asg_, gn_, gt_, gtc_, gtn_, par_, var_0, var_s, c_, nil_, cons_, tup_, lst_, op_, bool_, kb_, tru_, tr_bl, andT_, orT_, kn_tt, kn_tf, kn_ff, kn_ft, notT_, and_, kand_t, kand_f, if_, bre_t, bre_f, call_, cb_, neg_, sl_, nopart_, part_, FD.sl_tup, eq_int0, eq_int1, eq_bl0, eq_bl1, beq_self_eq_true, Bool.not_true, Bool.not_false, add_int, add_tup, add_ref, int_, int0_, mul_int, mul_str, ord_int, FD.ix_tup, ix_fl, ix_ref, at_0, at_1, at_2, at_3, len_tup, len_fl, len_ref, max2_, min2_, tuple_tup, tuple_ref, is_, gs_, setL_, ml_, for_, rng1_, any_, lc_, FD.sl_ref, list_tup, dict0_, dn_, sortK_, val_tup, yes_, isLst_, List.set_cons_zero, List.set_cons_succ, or_, kor_t, kor_f, not_, chain_, kch_t, kch_f, ord_str, len_str, ordc_, strc_int, val_str, add_str, sl_strD, match_, cc_, kc_n, kc_s, cn_, wild_, isi_ty (show tyD G (.bl i) = some .bool from rfl) ty_str, show Ty.isa .bool .str = false from rfl]
    exact h G .refl
  · have hsz : s.length ≤ sizeLine := by simp only [sizeLine]; omega
    try simp only [seq_, next_, ret_, drop_, ifs_, br_t, br_f, asg_, gn_, gt_, gtc_, gtn_, par_, var_0, var_s, c_, nil_, cons_, tup_, lst_, op_, bool_, kb_, tru_, tr_bl, andT_, orT_, kn_tt, kn_tf, kn_ff, kn_ft, notT_, and_, kand_t, kand_f, if_, bre_t, bre_f, call_, cb_, neg_, sl_, nopart_, part_, FD.sl_tup, eq_int0, eq_int1, eq_bl0, eq_bl1, beq_self_eq_true, Bool.not_true, Bool.not_false, add_int, add_tup, add_ref, int_, int0_, mul_int, mul_str, ord_int, FD.ix_tup, ix_fl, ix_ref, at_0, at_1, at_2, at_3, len_tup, len_fl, len_ref, max2_, min2_, tuple_tup, tuple_ref, is_, gs_, setL_, ml_, for_, rng1_, any_, lc_, FD.sl_ref, list_tup, dict0_, dn_, sortK_, val_tup, yes_, isLst_, List.set_cons_zero, List.set_cons_succ, or_, kor_t, kor_f, not_, chain_, kch_t, kch_f, ord_str, len_str, ordc_, strc_int, val_str, add_str, sl_strD, match_, cc_, kc_n, kc_s, cn_, wild_, isi_ty (show tyD G (.str s) = some .str from rfl) ty_str, show Ty.isa .str .str = true from rfl]
    refine ⟨hsz, ?_⟩
    rw [name_str] at h
    by_cases h0 : 0 < s.length
    · rw [decide_eq_true h0] at h
      rw [decide_eq_true (by omega : (0 : Int) < s.length)]
      try simp only [seq_, next_, ret_, drop_, ifs_, br_t, br_f, asg_, gn_, gt_, gtc_, gtn_, par_, var_0, var_s, c_, nil_, cons_, tup_, lst_, op_, bool_, kb_, tru_, tr_bl, andT_, orT_, kn_tt, kn_tf, kn_ff, kn_ft, notT_, and_, kand_t, kand_f, if_, bre_t, bre_f, call_, cb_, neg_, sl_, nopart_, part_, FD.sl_tup, eq_int0, eq_int1, eq_bl0, eq_bl1, beq_self_eq_true, Bool.not_true, Bool.not_false, add_int, add_tup, add_ref, int_, int0_, mul_int, mul_str, ord_int, FD.ix_tup, ix_fl, ix_ref, at_0, at_1, at_2, at_3, len_tup, len_fl, len_ref, max2_, min2_, tuple_tup, tuple_ref, is_, gs_, setL_, ml_, for_, rng1_, any_, lc_, FD.sl_ref, list_tup, dict0_, dn_, sortK_, val_tup, yes_, isLst_, List.set_cons_zero, List.set_cons_succ, or_, kor_t, kor_f, not_, chain_, kch_t, kch_f, ord_str, len_str, ordc_, strc_int, val_str, add_str, sl_strD, match_, cc_, kc_n, kc_s, cn_, wild_]
      by_cases h8 : s.length ≤ 8
      · rw [decide_eq_true h8] at h
        rw [decide_eq_true (by omega : (s.length : Int) ≤ 8)]
        try simp only [seq_, next_, ret_, drop_, ifs_, br_t, br_f, asg_, gn_, gt_, gtc_, gtn_, par_, var_0, var_s, c_, nil_, cons_, tup_, lst_, op_, bool_, kb_, tru_, tr_bl, andT_, orT_, kn_tt, kn_tf, kn_ff, kn_ft, notT_, and_, kand_t, kand_f, if_, bre_t, bre_f, call_, cb_, neg_, sl_, nopart_, part_, FD.sl_tup, eq_int0, eq_int1, eq_bl0, eq_bl1, beq_self_eq_true, Bool.not_true, Bool.not_false, add_int, add_tup, add_ref, int_, int0_, mul_int, mul_str, ord_int, FD.ix_tup, ix_fl, ix_ref, at_0, at_1, at_2, at_3, len_tup, len_fl, len_ref, max2_, min2_, tuple_tup, tuple_ref, is_, gs_, setL_, ml_, for_, rng1_, any_, lc_, FD.sl_ref, list_tup, dict0_, dn_, sortK_, val_tup, yes_, isLst_, List.set_cons_zero, List.set_cons_succ, or_, kor_t, kor_f, not_, chain_, kch_t, kch_f, ord_str, len_str, ordc_, strc_int, val_str, add_str, sl_strD, match_, cc_, kc_n, kc_s, cn_, wild_]
        refine ⟨hsz, _, str_get0 h0, ?_⟩
        refine in_sign ?_
        rw [mem_let]
        try simp only [seq_, next_, ret_, drop_, ifs_, br_t, br_f, asg_, gn_, gt_, gtc_, gtn_, par_, var_0, var_s, c_, nil_, cons_, tup_, lst_, op_, bool_, kb_, tru_, tr_bl, andT_, orT_, kn_tt, kn_tf, kn_ff, kn_ft, notT_, and_, kand_t, kand_f, if_, bre_t, bre_f, call_, cb_, neg_, sl_, nopart_, part_, FD.sl_tup, eq_int0, eq_int1, eq_bl0, eq_bl1, beq_self_eq_true, Bool.not_true, Bool.not_false, add_int, add_tup, add_ref, int_, int0_, mul_int, mul_str, ord_int, FD.ix_tup, ix_fl, ix_ref, at_0, at_1, at_2, at_3, len_tup, len_fl, len_ref, max2_, min2_, tuple_tup, tuple_ref, is_, gs_, setL_, ml_, for_, rng1_, any_, lc_, FD.sl_ref, list_tup, dict0_, dn_, sortK_, val_tup, yes_, isLst_, List.set_cons_zero, List.set_cons_succ, or_, kor_t, kor_f, not_, chain_, kch_t, kch_f, ord_str, len_str, ordc_, strc_int, val_str, add_str, sl_strD, match_, cc_, kc_n, kc_s, cn_, wild_]
        cases hc : chLet (s.cps.getD 0 0) with
        | false =>
          rw [hc] at h
          try simp only [seq_, next_, ret_, drop_, ifs_, br_t, br_f, asg_, gn_, gt_, gtc_, gtn_, par_, var_0, var_s, c_, nil_, cons_, tup_, lst_, op_, bool_, kb_, tru_, tr_bl, andT_, orT_, kn_tt, kn_tf, kn_ff, kn_ft, notT_, and_, kand_t, kand_f, if_, bre_t, bre_f, call_, cb_, neg_, sl_, nopart_, part_, FD.sl_tup, eq_int0, eq_int1, eq_bl0, eq_bl1, beq_self_eq_true, Bool.not_true, Bool.not_false, add_int, add_tup, add_ref, int_, int0_, mul_int, mul_str, ord_int, FD.ix_tup, ix_fl, ix_ref, at_0, at_1, at_2, at_3, len_tup, len_fl, len_ref, max2_, min2_, tuple_tup, tuple_ref, is_, gs_, setL_, ml_, for_, rng1_, any_, lc_, FD.sl_ref, list_tup, dict0_, dn_, sortK_, val_tup, yes_, isLst_, List.set_cons_zero, List.set_cons_succ, or_, kor_t, kor_f, not_, chain_, kch_t, kch_f, ord_str, len_str, ordc_, strc_int, val_str, add_str, sl_strD, match_, cc_, kc_n, kc_s, cn_, wild_]
          exact h G .refl
        | true =>
          rw [hc] at h
          try simp only [seq_, next_, ret_, drop_, ifs_, br_t, br_f, asg_, gn_, gt_, gtc_, gtn_, par_, var_0, var_s, c_, nil_, cons_, tup_, lst_, op_, bool_, kb_, tru_, tr_bl, andT_, orT_, kn_tt, kn_tf, kn_ff, kn_ft, notT_, and_, kand_t, kand_f, if_, bre_t, bre_f, call_, cb_, neg_, sl_, nopart_, part_, FD.sl_tup, eq_int0, eq_int1, eq_bl0, eq_bl1, beq_self_eq_true, Bool.not_true, Bool.not_false, add_int, add_tup, add_ref, int_, int0_, mul_int, mul_str, ord_int, FD.ix_tup, ix_fl, ix_ref, at_0, at_1, at_2, at_3, len_tup, len_fl, len_ref, max2_, min2_, tuple_tup, tuple_ref, is_, gs_, setL_, ml_, for_, rng1_, any_, lc_, FD.sl_ref, list_tup, dict0_, dn_, sortK_, val_tup, yes_, isLst_, List.set_cons_zero, List.set_cons_succ, or_, kor_t, kor_f, not_, chain_, kch_t, kch_f, ord_str, len_str, ordc_, strc_int, val_str, add_str, sl_strD, match_, cc_, kc_n, kc_s, cn_, wild_, Bool.xor_self, Bool.true_xor]
          refine lcGo_inv (fun G' => Keep G G') (fun d y => y = .bl (chName (sg d))) (fun _ _ => True.intro) _ _ _ ?_ .refl (by rw [sg_len, List.length_nil]; simp only [sizeLine]; omega) fun ys G1 hp k1 => ?_
          · intro d hd G1 K k1 kk
            obtain ⟨c, hc, rfl, hs⟩ := sg_mem hd
            try simp only [seq_, next_, ret_, drop_, ifs_, br_t, br_f, asg_, gn_, gt_, gtc_, gtn_, par_, var_0, var_s, c_, nil_, cons_, tup_, lst_, op_, bool_, kb_, tru_, tr_bl, andT_, orT_, kn_tt, kn_tf, kn_ff, kn_ft, notT_, and_, kand_t, kand_f, if_, bre_t, bre_f, call_, cb_, neg_, sl_, nopart_, part_, FD.sl_tup, eq_int0, eq_int1, eq_bl0, eq_bl1, beq_self_eq_true, Bool.not_true, Bool.not_false, add_int, add_tup, add_ref, int_, int0_, mul_int, mul_str, ord_int, FD.ix_tup, ix_fl, ix_ref, at_0, at_1, at_2, at_3, len_tup, len_fl, len_ref, max2_, min2_, tuple_tup, tuple_ref, is_, gs_, setL_, ml_, for_, rng1_, any_, lc_, FD.sl_ref, list_tup, dict0_, dn_, sortK_, val_tup, yes_, isLst_, List.set_cons_zero, List.set_cons_succ, or_, kor_t, kor_f, not_, chain_, kch_t, kch_f, ord_str, len_str, ordc_, strc_int, val_str, add_str, sl_strD, match_, cc_, kc_n, kc_s, cn_, wild_, wipeD]
            refine in_sign ?_
            rw [mem_name, Bool.false_xor]
            exact kk _ _ (by rw [hs]) k1
          · rw [List.nil_append, paired_map hp]
            refine new_ fun p G2 _ e2 k2 => ?_
            refine all_bl (p := fun d => chName (sg d)) e2 ?_
            rw [sg_all]
            exact h G2 (k1.trans k2)
      · rw [decide_eq_false h8] at h
        rw [decide_eq_false (by omega : ¬ (s.length : Int) ≤ 8)]
        try simp only [seq_, next_, ret_, drop_, ifs_, br_t, br_f, asg_, gn_, gt_, gtc_, gtn_, par_, var_0, var_s, c_, nil_, cons_, tup_, lst_, op_, bool_, kb_, tru_, tr_bl, andT_, orT_, kn_tt, kn_tf, kn_ff, kn_ft, notT_, and_, kand_t, kand_f, if_, bre_t, bre_f, call_, cb_, neg_, sl_, nopart_, part_, FD.sl_tup, eq_int0, eq_int1, eq_bl0, eq_bl1, beq_self_eq_true, Bool.not_true, Bool.not_false, add_int, add_tup, add_ref, int_, int0_, mul_int, mul_str, ord_int, FD.ix_tup, ix_fl, ix_ref, at_0, at_1, at_2, at_3, len_tup, len_fl, len_ref, max2_, min2_, tuple_tup, tuple_ref, is_, gs_, setL_, ml_, for_, rng1_, any_, lc_, FD.sl_ref, list_tup, dict0_, dn_, sortK_, val_tup, yes_, isLst_, List.set_cons_zero, List.set_cons_succ, or_, kor_t, kor_f, not_, chain_, kch_t, kch_f, ord_str, len_str, ordc_, strc_int, val_str, add_str, sl_strD, match_, cc_, kc_n, kc_s, cn_, wild_]
        exact h G .refl
    · rw [decide_eq_false h0] at h
      rw [decide_eq_false (by omega : ¬ (0 : Int) < s.length)]
      try simp only [seq_, next_, ret_, drop_, ifs_, br_t, br_f, asg_, gn_, gt_, gtc_, gtn_, par_, var_0, var_s, c_, nil_, cons_, tup_, lst_, op_, bool_, kb_, tru_, tr_bl, andT_, orT_, kn_tt, kn_tf, kn_ff, kn_ft, notT_, and_, kand_t, kand_f, if_, bre_t, bre_f, call_, cb_, neg_, sl_, nopart_, part_, FD.sl_tup, eq_int0, eq_int1, eq_bl0, eq_bl1, beq_self_eq_true, Bool.not_true, Bool.not_false, add_int, add_tup, add_ref, int_, int0_, mul_int, mul_str, ord_int, FD.ix_tup, ix_fl, ix_ref, at_0, at_1, at_2, at_3, len_tup, len_fl, len_ref, max2_, min2_, tuple_tup, tuple_ref, is_, gs_, setL_, ml_, for_, rng1_, any_, lc_, FD.sl_ref, list_tup, dict0_, dn_, sortK_, val_tup, yes_, isLst_, List.set_cons_zero, List.set_cons_succ, or_, kor_t, kor_f, not_, chain_, kch_t, kch_f, ord_str, len_str, ordc_, strc_int, val_str, add_str, sl_strD, match_, cc_, kc_n, kc_s, cn_, wild_]
      exact h G .refl
theorem l_is_name_spec {b k : Nat} {v : D} {G : DG} {Q : DK} (hv : Pb b k v) (h : ∀ G', Keep G G' → Q (.bl (nameB v)) G') : sp_l_is_name [v] G Q := by
  refine ⟨rfl, ?_⟩
  show t_l_is_name _ [some v, none, none] G
  unfold t_l_is_name
  rcases hv.no with ⟨ds, rfl⟩ | rfl | ⟨i, rfl⟩ | ⟨i, rfl⟩ | ⟨s, rfl, e, hl⟩
  · try simp only [seq_, next_, ret_, drop_, ifs_, br_t, br_f, asg_, gn_, gt_, gtc_, gtn_, par_, var_0, var_s, c_, nil_, cons_, tup_, lst_, op_, bool_, kb_, tru_, tr_bl, andT_, orT_, kn_tt, kn_tf, kn_ff, kn_ft, notT_, and_, kand_t, kand_f, if_, bre_t, bre_f, call_, cb_, neg_, sl_, nopart_, part_, FD.sl_tup, eq_int0, eq_int1, eq_bl0, eq_bl1, beq_self_eq_true, Bool.not_true, Bool.not_false, add_int, add_tup, add_ref, int_, int0_, mul_int, mul_str, ord_int, FD.ix_tup, ix_fl, ix_ref, at_0, at_1, at_2, at_3, len_tup, len_fl, len_ref, max2_, min2_, tuple_tup, tuple_ref, is_, gs_, setL_, ml_, for_, rng1_, any_, lc_, FD.sl_ref, list_tup, dict0_, dn_, sortK_, val_tup, yes_, isLst_, List.set_cons_zero, List.set_cons_succ, or_, kor_t, kor_f, not_, chain_, kch_t, kch_f, ord_str, len_str, ordc_, strc_int, val_str, add_str, sl_strD, match_, cc_, kc_n, kc_s, cn_, wild_, isi_ty (show tyD G (.tup ds) = some .tuple from rfl) ty_str, show Ty.isa .tuple .str = false from rfl]
    exact h G .refl
  · try simp only [seq_, next_, ret_, drop_, ifs_, br_t, br_f, asg_, gn_, gt_, gtc_, gtn_, par_, var_0, var_s, c_, nil_, cons_, tup_, lst_, op_, bool_, kb_, tru_, tr_bl, andT_, orT_, kn_tt, kn_tf, kn_ff, kn_ft, notT_, and_, kand_t, kand_f, if_, bre_t, bre_f, call_, cb_, neg_, sl_, nopart_, part_, FD.sl_tup, eq_int0, eq_int1, eq_bl0, eq_bl1, beq_self_eq_true, Bool.not_true, Bool.not_false, add_int, add_tup, add_ref, int_, int0_, mul_int, mul_str, ord_int, FD.ix_tup, ix_fl, ix_ref, at_0, at_1, at_2, at_3, len_tup, len_fl, len_ref, max2_, min2_, tuple_tup, tuple_ref, is_, gs_, setL_, ml_, for_, rng1_, any_, lc_, FD.sl_ref, list_tup, dict0_, dn_, sortK_, val_tup, yes_, isLst_, List.set_cons_zero, List.set_cons_succ, or_, kor_t, kor_f, not_, chain_, kch_t, kch_f, ord_str, len_str, ordc_, strc_int, val_str, add_str, sl_strD, match_, cc_, kc_n, kc_s, cn_, wild_, isi_ty (show tyD G .non = some .none from rfl) ty_str, show Ty.isa .none .str = false from rfl]
    exact h G .refl
  · try simp only [seq_, next_, ret_, drop_, ifs_, br_t, br_f, asg_, gn_, gt_, gtc_, gtn_, par_, var_0, var_s, c_, nil_, cons_, tup_, lst_, op_, bool_, kb_, tru_, tr_bl, andT_, orT_, kn_tt, kn_tf, kn_ff, kn_ft, notT_, and_, kand_t, kand_f, if_, bre_t, bre_f, call_, cb_, neg_, sl_, nopart_, part_, FD.sl_tup, eq_int0, eq_int1, eq_bl0, eq_bl1, beq_self_eq_true, Bool.not_true, Bool.not_false, add_int, add_tup, add_ref, int_, int0_, mul_int, mul_str, ord_int, FD.ix_tup, ix_fl, ix_ref, at_0, at_1, at_2, at_3, len_tup, len_fl, len_ref, max2_, min2_, tuple_tup, tuple_ref, is_, gs_, setL_, ml_, for_, rng1_, any_, lc_, FD.sl_ref, list_tup, dict0_, dn_, sortK_, val_tup, yes_, isLst_, List.set_cons_zero, List.set_cons_succ, or_, kor_t, kor_f, not_, chain_, kch_t, kch_f, ord_str, len_str, ordc_, strc_int, val_str, add_str, sl_strD, match_, cc_, kc_n, kc_s, cn_, wild_, isi_ty (show tyD G (.int i) = some .int from rfl) ty_str, show Ty.isa .int .str = false from rfl]
    exact h G .refl
  · try simp only [seq_, next_, ret_, drop_, ifs_, br_t, br_f, asg_, gn_, gt_, gtc_, gtn_, par_, var_0, var_s, c_, nil_, cons_, tup_, lst_, op_, bool_, kb_, tru_, tr_bl, andT_, orT_, kn_tt, kn_tf, kn_ff, kn_ft, notT_, and_, kand_t, kand_f, if_, bre_t, bre_f, call_, cb_, neg_, sl_, nopart_, part_, FD.sl_tup, eq_int0, eq_int1, eq_bl0, eq_bl1, beq_self_eq_true, Bool.not_true, Bool.not_false, add_int, add_tup, add_ref, int_, int0_, mul_int, mul_str, ord_int, FD.ix_tup, ix_fl, ix_ref, at_0, at_1, at_2, at_3, len_tup, len_fl, len_ref, max2_, min2_, tuple_tup, tuple_ref, is_, gs_, setL_, ml_, for_, rng1_, any_, lc_, FD.sl_ref, list_tup, dict0_, dn_, sortK_, val_tup, yes_, isLst_, List.set_cons_zero, List.set_cons_succ, or_, kor_t, kor_f, not_, chain_, kch_t, kch_f, ord_str, len_str, ordc_, strc_int, val_str, add_str, sl_strD, match_, cc_, kc_n, kc_s, cn_, wild_, isi_ty (show tyD G (.bl i) = some .bool from rfl) ty_str, show Ty.isa .bool .str = false from rfl]
    exact h G .refl
  · have hsz : s.length ≤ sizeLine := by simp only [sizeLine]; omega
    try simp only [seq_, next_, ret_, drop_, ifs_, br_t, br_f, asg_, gn_, gt_, gtc_, gtn_, par_, var_0, var_s, c_, nil_, cons_, tup_, lst_, op_, bool_, kb_, tru_, tr_bl, andT_, orT_, kn_tt, kn_tf, kn_ff, kn_ft, notT_, and_, kand_t, kand_f, if_, bre_t, bre_f, call_, cb_, neg_, sl_, nopart_, part_, FD.sl_tup, eq_int0, eq_int1, eq_bl0, eq_bl1, beq_self_eq_true, Bool.not_true, Bool.not_false, add_int, add_tup, add_ref, int_, int0_, mul_int, mul_str, ord_int, FD.ix_tup, ix_fl, ix_ref, at_0, at_1, at_2, at_3, len_tup, len_fl, len_ref, max2_, min2_, tuple_tup, tuple_ref, is_, gs_, setL_, ml_, for_, rng1_, any_, lc_, FD.sl_ref, list_tup, dict0_, dn_, sortK_, val_tup, yes_, isLst_, List.set_cons_zero, List.set_cons_succ, or_, kor_t, kor_f, not_, chain_, kch_t, kch_f, ord_str, len_str, ordc_, strc_int, val_str, add_str, sl_strD, match_, cc_, kc_n, kc_s, cn_, wild_, isi_ty (show tyD G (.str s) = some .str from rfl) ty_str, show Ty.isa .str .str = true from rfl]
    rw [name_str] at h
    have hs0 : Pl 0 (.str s) := by rw [Pl]; exact e
    refine eq_pl0 (k := 0) (m := 0) hs0 (by rw [Pl]; decide +kernel) (by decide) (by decide) ?_
    have e0 : PyData.eqv (toPy (.str s)) (toPy (.str "")) = !decide (0 < s.length) := by
      rw [toPy, toPy, PyData.eqv]
      by_cases q : s.length = 0
      · have : s = ("" : Str) := by
          have hx : s.cps = #[] := Array.eq_empty_of_size_eq_zero q
          rw [show s = ⟨s.cps⟩ from rfl, hx]; decide +kernel
        subst this; decide +kernel
      · rw [decide_eq_true (by omega : 0 < s.length), beq_eq_false_iff_ne.mpr fun z => q (by rw [z]; decide +kernel)]; rfl
    rw [e0]
    by_cases h0 : 0 < s.length
    · rw [decide_eq_true h0] at h ⊢
      try simp only [seq_, next_, ret_, drop_, ifs_, br_t, br_f, asg_, gn_, gt_, gtc_, gtn_, par_, var_0, var_s, c_, nil_, cons_, tup_, lst_, op_, bool_, kb_, tru_, tr_bl, andT_, orT_, kn_tt, kn_tf, kn_ff, kn_ft, notT_, and_, kand_t, kand_f, if_, bre_t, bre_f, call_, cb_, neg_, sl_, nopart_, part_, FD.sl_tup, eq_int0, eq_int1, eq_bl0, eq_bl1, beq_self_eq_true, Bool.not_true, Bool.not_false, add_int, add_tup, add_ref, int_, int0_, mul_int, mul_str, ord_int, FD.ix_tup, ix_fl, ix_ref, at_0, at_1, at_2, at_3, len_tup, len_fl, len_ref, max2_, min2_, tuple_tup, tuple_ref, is_, gs_, setL_, ml_, for_, rng1_, any_, lc_, FD.sl_ref, list_tup, dict0_, dn_, sortK_, val_tup, yes_, isLst_, List.set_cons_zero, List.set_cons_succ, or_, kor_t, kor_f, not_, chain_, kch_t, kch_f, ord_str, len_str, ordc_, strc_int, val_str, add_str, sl_strD, match_, cc_, kc_n, kc_s, cn_, wild_]
      refine ⟨hsz, ?_⟩
      by_cases h8 : s.length ≤ 8
      · rw [decide_eq_true h8] at h
        rw [decide_eq_false (by omega : ¬ (8 : Int) < s.length)]
        try simp only [seq_, next_, ret_, drop_, ifs_, br_t, br_f, asg_, gn_, gt_, gtc_, gtn_, par_, var_0, var_s, c_, nil_, cons_, tup_, lst_, op_, bool_, kb_, tru_, tr_bl, andT_, orT_, kn_tt, kn_tf, kn_ff, kn_ft, notT_, and_, kand_t, kand_f, if_, bre_t, bre_f, call_, cb_, neg_, sl_, nopart_, part_, FD.sl_tup, eq_int0, eq_int1, eq_bl0, eq_bl1, beq_self_eq_true, Bool.not_true, Bool.not_false, add_int, add_tup, add_ref, int_, int0_, mul_int, mul_str, ord_int, FD.ix_tup, ix_fl, ix_ref, at_0, at_1, at_2, at_3, len_tup, len_fl, len_ref, max2_, min2_, tuple_tup, tuple_ref, is_, gs_, setL_, ml_, for_, rng1_, any_, lc_, FD.sl_ref, list_tup, dict0_, dn_, sortK_, val_tup, yes_, isLst_, List.set_cons_zero, List.set_cons_succ, or_, kor_t, kor_f, not_, chain_, kch_t, kch_f, ord_str, len_str, ordc_, strc_int, val_str, add_str, sl_strD, match_, cc_, kc_n, kc_s, cn_, wild_]
        refine ⟨hsz, _, str_get0 h0, ?_⟩
        refine in_sign ?_
        rw [mem_let]
        try simp only [seq_, next_, ret_, drop_, ifs_, br_t, br_f, asg_, gn_, gt_, gtc_, gtn_, par_, var_0, var_s, c_, nil_, cons_, tup_, lst_, op_, bool_, kb_, tru_, tr_bl, andT_, orT_, kn_tt, kn_tf, kn_ff, kn_ft, notT_, and_, kand_t, kand_f, if_, bre_t, bre_f, call_, cb_, neg_, sl_, nopart_, part_, FD.sl_tup, eq_int0, eq_int1, eq_bl0, eq_bl1, beq_self_eq_true, Bool.not_true, Bool.not_false, add_int, add_tup, add_ref, int_, int0_, mul_int, mul_str, ord_int, FD.ix_tup, ix_fl, ix_ref, at_0, at_1, at_2, at_3, len_tup, len_fl, len_ref, max2_, min2_, tuple_tup, tuple_ref, is_, gs_, setL_, ml_, for_, rng1_, any_, lc_, FD.sl_ref, list_tup, dict0_, dn_, sortK_, val_tup, yes_, isLst_, List.set_cons_zero, List.set_cons_succ, or_, kor_t, kor_f, not_, chain_, kch_t, kch_f, ord_str, len_str, ordc_, strc_int, val_str, add_str, sl_strD, match_, cc_, kc_n, kc_s, cn_, wild_]
        cases hc : chLet (s.cps.getD 0 0) with
        | false =>
          rw [hc] at h
          try simp only [seq_, next_, ret_, drop_, ifs_, br_t, br_f, asg_, gn_, gt_, gtc_, gtn_, par_, var_0, var_s, c_, nil_, cons_, tup_, lst_, op_, bool_, kb_, tru_, tr_bl, andT_, orT_, kn_tt, kn_tf, kn_ff, kn_ft, notT_, and_, kand_t, kand_f, if_, bre_t, bre_f, call_, cb_, neg_, sl_, nopart_, part_, FD.sl_tup, eq_int0, eq_int1, eq_bl0, eq_bl1, beq_self_eq_true, Bool.not_true, Bool.not_false, add_int, add_tup, add_ref, int_, int0_, mul_int, mul_str, ord_int, FD.ix_tup, ix_fl, ix_ref, at_0, at_1, at_2, at_3, len_tup, len_fl, len_ref, max2_, min2_, tuple_tup, tuple_ref, is_, gs_, setL_, ml_, for_, rng1_, any_, lc_, FD.sl_ref, list_tup, dict0_, dn_, sortK_, val_tup, yes_, isLst_, List.set_cons_zero, List.set_cons_succ, or_, kor_t, kor_f, not_, chain_, kch_t, kch_f, ord_str, len_str, ordc_, strc_int, val_str, add_str, sl_strD, match_, cc_, kc_n, kc_s, cn_, wild_]
          exact h G .refl
        | true =>
          rw [hc] at h
          try simp only [seq_, next_, ret_, drop_, ifs_, br_t, br_f, asg_, gn_, gt_, gtc_, gtn_, par_, var_0, var_s, c_, nil_, cons_, tup_, lst_, op_, bool_, kb_, tru_, tr_bl, andT_, orT_, kn_tt, kn_tf, kn_ff, kn_ft, notT_, and_, kand_t, kand_f, if_, bre_t, bre_f, call_, cb_, neg_, sl_, nopart_, part_, FD.sl_tup, eq_int0, eq_int1, eq_bl0, eq_bl1, beq_self_eq_true, Bool.not_true, Bool.not_false, add_int, add_tup, add_ref, int_, int0_, mul_int, mul_str, ord_int, FD.ix_tup, ix_fl, ix_ref, at_0, at_1, at_2, at_3, len_tup, len_fl, len_ref, max2_, min2_, tuple_tup, tuple_ref, is_, gs_, setL_, ml_, for_, rng1_, any_, lc_, FD.sl_ref, list_tup, dict0_, dn_, sortK_, val_tup, yes_, isLst_, List.set_cons_zero, List.set_cons_succ, or_, kor_t, kor_f, not_, chain_, kch_t, kch_f, ord_str, len_str, ordc_, strc_int, val_str, add_str, sl_strD, match_, cc_, kc_n, kc_s, cn_, wild_, Bool.xor_self, Bool.true_xor]
          refine lcGo_flt (fun G' => Keep G G') (fun d => !chName (sg d)) id (fun _ _ => True.intro) _ _ _ ?_ .refl (by rw [sg_len, List.length_nil]; simp only [sizeLine]; omega) fun G1 k1 => ?_
          · intro d hd G1 Ky Kn k1 ky kn
            obtain ⟨c, hc, rfl, hs⟩ := sg_mem hd
            try simp only [seq_, next_, ret_, drop_, ifs_, br_t, br_f, asg_, gn_, gt_, gtc_, gtn_, par_, var_0, var_s, c_, nil_, cons_, tup_, lst_, op_, bool_, kb_, tru_, tr_bl, andT_, orT_, kn_tt, kn_tf, kn_ff, kn_ft, notT_, and_, kand_t, kand_f, if_, bre_t, bre_f, call_, cb_, neg_, sl_, nopart_, part_, FD.sl_tup, eq_int0, eq_int1, eq_bl0, eq_bl1, beq_self_eq_true, Bool.not_true, Bool.not_false, add_int, add_tup, add_ref, int_, int0_, mul_int, mul_str, ord_int, FD.ix_tup, ix_fl, ix_ref, at_0, at_1, at_2, at_3, len_tup, len_fl, len_ref, max2_, min2_, tuple_tup, tuple_ref, is_, gs_, setL_, ml_, for_, rng1_, any_, lc_, FD.sl_ref, list_tup, dict0_, dn_, sortK_, val_tup, yes_, isLst_, List.set_cons_zero, List.set_cons_succ, or_, kor_t, kor_f, not_, chain_, kch_t, kch_f, ord_str, len_str, ordc_, strc_int, val_str, add_str, sl_strD, match_, cc_, kc_n, kc_s, cn_, wild_, wipeD]
            refine ⟨by decide +kernel, ?_⟩
            refine in_sign ?_
            rw [mem_name2]
            try simp only [seq_, next_, ret_, drop_, ifs_, br_t, br_f, asg_, gn_, gt_, gtc_, gtn_, par_, var_0, var_s, c_, nil_, cons_, tup_, lst_, op_, bool_, kb_, tru_, tr_bl, andT_, orT_, kn_tt, kn_tf, kn_ff, kn_ft, notT_, and_, kand_t, kand_f, if_, bre_t, bre_f, call_, cb_, neg_, sl_, nopart_, part_, FD.sl_tup, eq_int0, eq_int1, eq_bl0, eq_bl1, beq_self_eq_true, Bool.not_true, Bool.not_false, add_int, add_tup, add_ref, int_, int0_, mul_int, mul_str, ord_int, FD.ix_tup, ix_fl, ix_ref, at_0, at_1, at_2, at_3, len_tup, len_fl, len_ref, max2_, min2_, tuple_tup, tuple_ref, is_, gs_, setL_, ml_, for_, rng1_, any_, lc_, FD.sl_ref, list_tup, dict0_, dn_, sortK_, val_tup, yes_, isLst_, List.set_cons_zero, List.set_cons_succ, or_, kor_t, kor_f, not_, chain_, kch_t, kch_f, ord_str, len_str, ordc_, strc_int, val_str, add_str, sl_strD, match_, cc_, kc_n, kc_s, cn_, wild_]
            rw [hs] at ky kn
            cases h1 : chName c with
            | false =>
              rw [h1] at ky
              exact ky rfl _ k1
            | true =>
              rw [h1] at kn
              exact kn rfl _ k1
          · rw [List.nil_append]
            refine new_ fun p G2 _ e2 k2 => ?_
            try simp only [seq_, next_, ret_, drop_, ifs_, br_t, br_f, asg_, gn_, gt_, gtc_, gtn_, par_, var_0, var_s, c_, nil_, cons_, tup_, lst_, op_, bool_, kb_, tru_, tr_bl, andT_, orT_, kn_tt, kn_tf, kn_ff, kn_ft, notT_, and_, kand_t, kand_f, if_, bre_t, bre_f, call_, cb_, neg_, sl_, nopart_, part_, FD.sl_tup, eq_int0, eq_int1, eq_bl0, eq_bl1, beq_self_eq_true, Bool.not_true, Bool.not_false, add_int, add_tup, add_ref, int_, int0_, mul_int, mul_str, ord_int, FD.ix_tup, ix_fl, ix_ref, at_0, at_1, at_2, at_3, len_tup, len_fl, len_ref, max2_, min2_, tuple_tup, tuple_ref, is_, gs_, setL_, ml_, for_, rng1_, any_, lc_, FD.sl_ref, list_tup, dict0_, dn_, sortK_, val_tup, yes_, isLst_, List.set_cons_zero, List.set_cons_succ, or_, kor_t, kor_f, not_, chain_, kch_t, kch_f, ord_str, len_str, ordc_, strc_int, val_str, add_str, sl_strD, match_, cc_, kc_n, kc_s, cn_, wild_]
            repeat (with_reducible refine And.intro (by first | rfl | omega | (simp only [sizeLine, List.length_cons, List.length_nil, List.length_append] <;> omega)) ?_)
            refine new_ fun q G3 _ e3 k3 => ?_
            have hpl : ∀ d ∈ ((signs s).filter fun d => !chName (sg d)).map id, Pl 0 d := fun d hd => by
              rw [List.map_id] at hd
              obtain ⟨c, hc, rfl, hs⟩ := sg_mem (s := s) (List.mem_filter.mp hd).1
              rw [Pl]
              exact (sok_chr (sok_iff.mp e c hc)).1
            refine eq_pls0 (k := 0) (m := 0) (k3 _ _ e2) e3 hpl (fun _ h => nomatch h) (by decide) (by decide) ?_
            rw [eqv_nil, flt_all (p := fun d => chName (sg d)), sg_all]
            exact h G3 (k1.trans (k2.trans k3))
      · rw [decide_eq_false h8] at h
        rw [decide_eq_true (by omega : (8 : Int) < s.length)]
        try simp only [seq_, next_, ret_, drop_, ifs_, br_t, br_f, asg_, gn_, gt_, gtc_, gtn_, par_, var_0, var_s, c_, nil_, cons_, tup_, lst_, op_, bool_, kb_, tru_, tr_bl, andT_, orT_, kn_tt, kn_tf, kn_ff, kn_ft, notT_, and_, kand_t, kand_f, if_, bre_t, bre_f, call_, cb_, neg_, sl_, nopart_, part_, FD.sl_tup, eq_int0, eq_int1, eq_bl0, eq_bl1, beq_self_eq_true, Bool.not_true, Bool.not_false, add_int, add_tup, add_ref, int_, int0_, mul_int, mul_str, ord_int, FD.ix_tup, ix_fl, ix_ref, at_0, at_1, at_2, at_3, len_tup, len_fl, len_ref, max2_, min2_, tuple_tup, tuple_ref, is_, gs_, setL_, ml_, for_, rng1_, any_, lc_, FD.sl_ref, list_tup, dict0_, dn_, sortK_, val_tup, yes_, isLst_, List.set_cons_zero, List.set_cons_succ, or_, kor_t, kor_f, not_, chain_, kch_t, kch_f, ord_str, len_str, ordc_, strc_int, val_str, add_str, sl_strD, match_, cc_, kc_n, kc_s, cn_, wild_]
        exact h G .refl
    · rw [decide_eq_false h0] at h ⊢
      try simp only [seq_, next_, ret_, drop_, ifs_, br_t, br_f, asg_, gn_, gt_, gtc_, gtn_, par_, var_0, var_s, c_, nil_, cons_, tup_, lst_, op_, bool_, kb_, tru_, tr_bl, andT_, orT_, kn_tt, kn_tf, kn_ff, kn_ft, notT_, and_, kand_t, kand_f, if_, bre_t, bre_f, call_, cb_, neg_, sl_, nopart_, part_, FD.sl_tup, eq_int0, eq_int1, eq_bl0, eq_bl1, beq_self_eq_true, Bool.not_true, Bool.not_false, add_int, add_tup, add_ref, int_, int0_, mul_int, mul_str, ord_int, FD.ix_tup, ix_fl, ix_ref, at_0, at_1, at_2, at_3, len_tup, len_fl, len_ref, max2_, min2_, tuple_tup, tuple_ref, is_, gs_, setL_, ml_, for_, rng1_, any_, lc_, FD.sl_ref, list_tup, dict0_, dn_, sortK_, val_tup, yes_, isLst_, List.set_cons_zero, List.set_cons_succ, or_, kor_t, kor_f, not_, chain_, kch_t, kch_f, ord_str, len_str, ordc_, strc_int, val_str, add_str, sl_strD, match_, cc_, kc_n, kc_s, cn_, wild_]
      exact h G .refl
end K02

namespace K02
open PySem L2 FD
theorem var_at {ρ : DSt} {v : Nat} {d : D} {G : DG} {Q : DK} (h : ρ[v]? = some (some d)) : dVar v ρ G Q = Q d G := by unfold dVar; rw [h]
theorem lcAll {sp : DSp} {p : D → Bool} {ρ : DSt} {i : Nat} {xs : List D} {G : DG} {Q : DK} (hi : i < ρ.length) (hsp : ∀ d ∈ xs, ∀ {G : DG} {Q : DK}, (∀ G', Keep G G' → Q (.bl (p d)) G') → sp [d] G Q) (hl : xs.length ≤ sizeLine)
    (h : ∀ a G', G' a = some (.lst (xs.map fun d => .bl (p d))) → Keep G G' → Q (.ref a) G') :
    lcGo (fun _ => True) (gnD i) dYes (dCall sp (dCons (dVar i) dNil)) ρ (fun acc G' => kNew G' (.lst acc) Q) xs [] G := by
  refine lcGo_inv (fun G' => Keep G G') (fun d y => y = .bl (p d)) (fun _ _ => True.intro) _ _ _ (fun d hd G1 K k1 kk => ?_) .refl (by simpa using hl) fun ys G1 hp k1 => ?_
  · rw [gn_, call_, cons_, var_at (List.getElem?_set_self hi)]
    exact hsp d hd fun G2 k2 => kk _ _ rfl (k1.trans k2)
  · rw [List.nil_append, paired_map hp]
    exact new_ fun a G2 _ e k2 => h a G2 e (k1.trans k2)
theorem lcBad {sp : DSp} {p : D → Bool} {ρ : DSt} {i : Nat} {xs : List D} {G : DG} {Q : DK} (hi : i < ρ.length) (hsp : ∀ d ∈ xs, ∀ {G : DG} {Q : DK}, (∀ G', Keep G G' → Q (.bl (p d)) G') → sp [d] G Q) (hl : xs.length ≤ sizeLine)
    (h : ∀ a G', G' a = some (.lst ((xs.filter fun d => !p d).map fun _ => .int 1)) → Keep G G' → Q (.ref a) G') :
    lcGo (fun _ => True) (gnD i) (dNotT (dTru (dCall sp (dCons (dVar i) dNil)))) (dC (.int 1)) ρ (fun acc G' => kNew G' (.lst acc) Q) xs [] G := by
  refine lcGo_flt (fun G' => Keep G G') (fun d => !p d) (fun _ => .int 1) (fun _ _ => True.intro) _ _ _ (fun d hd G1 Ky Kn k1 ky kn => ?_) .refl (by simpa using hl) fun G1 k1 => ?_
  · rw [gn_, notT_, tru_, call_, cons_, var_at (List.getElem?_set_self hi)]
    refine hsp d hd fun G2 k2 => ?_
    rw [tr_bl]
    cases hp : p d with
    | true => exact kn (by rw [hp]; rfl) _ (k1.trans k2)
    | false => exact ky (by rw [hp]; rfl) _ (k1.trans k2)
  · rw [List.nil_append]
    exact new_ fun a G2 _ e k2 => h a G2 e (k1.trans k2)
theorem ones_pl {l : List D} : ∀ d ∈ l.map (fun _ => D.int 1), Pl 0 d := fun d hd => by
  obtain ⟨_, _, rfl⟩ := List.mem_map.mp hd
  rw [Pl]; trivial
theorem none_bad {xs : List D} {p : D → Bool} {a b : Addr} {G : DG} {Q : DK} (ha : G a = some (.lst ((xs.filter fun d => !p d).map fun _ => .int 1))) (hb : G b = some (.lst [])) (h : Q (.bl (xs.all p)) G) : eqD false (.ref a) (.ref b) G Q := by
  refine eq_pls0 (k := 0) (m := 0) ha hb ones_pl (fun _ h => nomatch h) (by decide) (by decide) ?_
  rw [eqv_nil, flt_all]
  exact h
theorem some_bad {xs : List D} {p : D → Bool} {a b : Addr} {G : DG} {Q : DK} (ha : G a = some (.lst ((xs.filter fun d => !p d).map fun _ => .int 1))) (hb : G b = some (.lst [])) (h : Q (.bl (!xs.all p)) G) : eqD true (.ref a) (.ref b) G Q := by
  refine eq_pls1 (k := 0) (m := 0) ha hb ones_pl (fun _ h => nomatch h) (by decide) (by decide) ?_
  rw [eqv_nil, flt_all]
  exact h
theorem len_two {ds : List D} (h : ds.length = 2) : ∃ x y, ds = [x, y] := by
  match ds, h with
  | [x, y], _ => exact ⟨x, y, rfl⟩
theorem len_eq {m n : Nat} {i : Int} (h : i = n) : ((m : Int) == i) = decide (m = n) := by
  subst h
  by_cases q : m = n
  · subst q; rw [decide_eq_true rfl]; exact beq_self_eq_true _
  · rw [decide_eq_false q]; exact beq_eq_false_iff_ne.mpr (by omega)
theorem _root_.FD.Pb.nt {b k : Nat} {v : D} (h : Pb b k v) : (∃ ds, v = .tup ds) ∨ ((∀ ds, v ≠ .tup ds) ∧ ∃ a, (∀ G, tyD G v = some a) ∧ Ty.isa a .tuple = false) := by
  rcases h.no with ⟨ds, rfl⟩ | rfl | ⟨i, rfl⟩ | ⟨i, rfl⟩ | ⟨s, rfl, e, hl⟩
  · exact .inl ⟨ds, rfl⟩
  all_goals refine .inr ⟨?_, _, fun _ => rfl, rfl⟩
  all_goals exact fun _ q => nomatch q
def keyB : D → Bool
  | .tup [a, b] => nameB a && nameB b
  | _ => false
theorem key_no {v : D} (h : ∀ ds, v ≠ .tup ds) : keyB v = false := by
  cases v <;> first | rfl | exact absurd rfl (h _)
theorem key_len {ds : List D} (h : ds.length ≠ 2) : keyB (.tup ds) = false := by
  match ds, h with
  | [], _ => rfl
  | [_], _ => rfl
  | [_, _], h => exact absurd rfl h
  | _ :: _ :: _ :: _, _ => rfl
theorem is_key_spec {b k : Nat} {v : D} {G : DG} {Q : DK} (hv : Pb b k v) (h : ∀ G', Keep G G' → Q (.bl (keyB v)) G') : sp_is_key [v] G Q := by
  refine ⟨rfl, ?_⟩
  show t_is_key _ [some v] G
  unfold t_is_key
  rcases hv.nt with ⟨ds, rfl⟩ | ⟨hn, a, ha, hi⟩
  · try simp only [seq_, next_, ret_, drop_, ifs_, br_t, br_f, asg_, gn_, gt_, gtc_, gtn_, par_, var_0, var_s, c_, nil_, cons_, tup_, lst_, op_, bool_, kb_, tru_, tr_bl, andT_, orT_, kn_tt, kn_tf, kn_ff, kn_ft, notT_, and_, kand_t, kand_f, if_, bre_t, bre_f, call_, cb_, neg_, sl_, nopart_, part_, FD.sl_tup, eq_int0, eq_int1, eq_bl0, eq_bl1, beq_self_eq_true, Bool.not_true, Bool.not_false, add_int, add_tup, add_ref, int_, int0_, mul_int, mul_str, ord_int, FD.ix_tup, ix_fl, ix_ref, at_0, at_1, at_2, at_3, len_tup, len_fl, len_ref, max2_, min2_, tuple_tup, tuple_ref, is_, gs_, setL_, ml_, for_, rng1_, any_, lc_, FD.sl_ref, list_tup, dict0_, dn_, sortK_, val_tup, yes_, isLst_, List.set_cons_zero, List.set_cons_succ, or_, kor_t, kor_f, not_, chain_, kch_t, kch_f, ord_str, len_str, ordc_, strc_int, val_str, add_str, sl_strD, match_, cc_, kc_n, kc_s, cn_, wild_, isi_ty (show tyD G (.tup ds) = some .tuple from rfl) ty_tuple, show Ty.isa .tuple .tuple = true from rfl, len_eq (show (2 : Int) = (2 : Nat) from rfl)]
    by_cases hl : ds.length = 2
    · obtain ⟨x, y, rfl⟩ := len_two hl
      have hx := hv.items.2 x (by simp)
      have hy := hv.items.2 y (by simp)
      rw [decide_eq_true hl]
      try simp only [seq_, next_, ret_, drop_, ifs_, br_t, br_f, asg_, gn_, gt_, gtc_, gtn_, par_, var_0, var_s, c_, nil_, cons_, tup_, lst_, op_, bool_, kb_, tru_, tr_bl, andT_, orT_, kn_tt, kn_tf, kn_ff, kn_ft, notT_, and_, kand_t, kand_f, if_, bre_t, bre_f, call_, cb_, neg_, sl_, nopart_, part_, FD.sl_tup, eq_int0, eq_int1, eq_bl0, eq_bl1, beq_self_eq_true, Bool.not_true, Bool.not_false, add_int, add_tup, add_ref, int_, int0_, mul_int, mul_str, ord_int, FD.ix_tup, ix_fl, ix_ref, at_0, at_1, at_2, at_3, len_tup, len_fl, len_ref, max2_, min2_, tuple_tup, tuple_ref, is_, gs_, setL_, ml_, for_, rng1_, any_, lc_, FD.sl_ref, list_tup, dict0_, dn_, sortK_, val_tup, yes_, isLst_, List.set_cons_zero, List.set_cons_succ, or_, kor_t, kor_f, not_, chain_, kch_t, kch_f, ord_str, len_str, ordc_, strc_int, val_str, add_str, sl_strD, match_, cc_, kc_n, kc_s, cn_, wild_]
      refine is_name_spec hx fun G1 k1 => ?_
      have h' : ∀ G', Keep G G' → Q (.bl (nameB x && nameB y)) G' := h
      try simp only [seq_, next_, ret_, drop_, ifs_, br_t, br_f, asg_, gn_, gt_, gtc_, gtn_, par_, var_0, var_s, c_, nil_, cons_, tup_, lst_, op_, bool_, kb_, tru_, tr_bl, andT_, orT_, kn_tt, kn_tf, kn_ff, kn_ft, notT_, and_, kand_t, kand_f, if_, bre_t, bre_f, call_, cb_, neg_, sl_, nopart_, part_, FD.sl_tup, eq_int0, eq_int1, eq_bl0, eq_bl1, beq_self_eq_true, Bool.not_true, Bool.not_false, add_int, add_tup, add_ref, int_, int0_, mul_int, mul_str, ord_int, FD.ix_tup, ix_fl, ix_ref, at_0, at_1, at_2, at_3, len_tup, len_fl, len_ref, max2_, min2_, tuple_tup, tuple_ref, is_, gs_, setL_, ml_, for_, rng1_, any_, lc_, FD.sl_ref, list_tup, dict0_, dn_, sortK_, val_tup, yes_, isLst_, List.set_cons_zero, List.set_cons_succ, or_, kor_t, kor_f, not_, chain_, kch_t, kch_f, ord_str, len_str, ordc_, strc_int, val_str, add_str, sl_strD, match_, cc_, kc_n, kc_s, cn_, wild_]
      cases e : nameB x with
      | false =>
        rw [e] at h'
        try simp only [seq_, next_, ret_, drop_, ifs_, br_t, br_f, asg_, gn_, gt_, gtc_, gtn_, par_, var_0, var_s, c_, nil_, cons_, tup_, lst_, op_, bool_, kb_, tru_, tr_bl, andT_, orT_, kn_tt, kn_tf, kn_ff, kn_ft, notT_, and_, kand_t, kand_f, if_, bre_t, bre_f, call_, cb_, neg_, sl_, nopart_, part_, FD.sl_tup, eq_int0, eq_int1, eq_bl0, eq_bl1, beq_self_eq_true, Bool.not_true, Bool.not_false, add_int, add_tup, add_ref, int_, int0_, mul_int, mul_str, ord_int, FD.ix_tup, ix_fl, ix_ref, at_0, at_1, at_2, at_3, len_tup, len_fl, len_ref, max2_, min2_, tuple_tup, tuple_ref, is_, gs_, setL_, ml_, for_, rng1_, any_, lc_, FD.sl_ref, list_tup, dict0_, dn_, sortK_, val_tup, yes_, isLst_, List.set_cons_zero, List.set_cons_succ, or_, kor_t, kor_f, not_, chain_, kch_t, kch_f, ord_str, len_str, ordc_, strc_int, val_str, add_str, sl_strD, match_, cc_, kc_n, kc_s, cn_, wild_]
        exact h' _ k1
      | true =>
        rw [e] at h'
        try simp only [seq_, next_, ret_, drop_, ifs_, br_t, br_f, asg_, gn_, gt_, gtc_, gtn_, par_, var_0, var_s, c_, nil_, cons_, tup_, lst_, op_, bool_, kb_, tru_, tr_bl, andT_, orT_, kn_tt, kn_tf, kn_ff, kn_ft, notT_, and_, kand_t, kand_f, if_, bre_t, bre_f, call_, cb_, neg_, sl_, nopart_, part_, FD.sl_tup, eq_int0, eq_int1, eq_bl0, eq_bl1, beq_self_eq_true, Bool.not_true, Bool.not_false, add_int, add_tup, add_ref, int_, int0_, mul_int, mul_str, ord_int, FD.ix_tup, ix_fl, ix_ref, at_0, at_1, at_2, at_3, len_tup, len_fl, len_ref, max2_, min2_, tuple_tup, tuple_ref, is_, gs_, setL_, ml_, for_, rng1_, any_, lc_, FD.sl_ref, list_tup, dict0_, dn_, sortK_, val_tup, yes_, isLst_, List.set_cons_zero, List.set_cons_succ, or_, kor_t, kor_f, not_, chain_, kch_t, kch_f, ord_str, len_str, ordc_, strc_int, val_str, add_str, sl_strD, match_, cc_, kc_n, kc_s, cn_, wild_]
        exact is_name_spec hy fun G2 k2 => h' _ (k1.trans k2)
    · rw [key_len hl] at h
      rw [decide_eq_false hl]
      try simp only [seq_, next_, ret_, drop_, ifs_, br_t, br_f, asg_, gn_, gt_, gtc_, gtn_, par_, var_0, var_s, c_, nil_, cons_, tup_, lst_, op_, bool_, kb_, tru_, tr_bl, andT_, orT_, kn_tt, kn_tf, kn_ff, kn_ft, notT_, and_, kand_t, kand_f, if_, bre_t, bre_f, call_, cb_, neg_, sl_, nopart_, part_, FD.sl_tup, eq_int0, eq_int1, eq_bl0, eq_bl1, beq_self_eq_true, Bool.not_true, Bool.not_false, add_int, add_tup, add_ref, int_, int0_, mul_int, mul_str, ord_int, FD.ix_tup, ix_fl, ix_ref, at_0, at_1, at_2, at_3, len_tup, len_fl, len_ref, max2_, min2_, tuple_tup, tuple_ref, is_, gs_, setL_, ml_, for_, rng1_, any_, lc_, FD.sl_ref, list_tup, dict0_, dn_, sortK_, val_tup, yes_, isLst_, List.set_cons_zero, List.set_cons_succ, or_, kor_t, kor_f, not_, chain_, kch_t, kch_f, ord_str, len_str, ordc_, strc_int, val_str, add_str, sl_strD, match_, cc_, kc_n, kc_s, cn_, wild_]
      exact h _ .refl
  · try simp only [seq_, next_, ret_, drop_, ifs_, br_t, br_f, asg_, gn_, gt_, gtc_, gtn_, par_, var_0, var_s, c_, nil_, cons_, tup_, lst_, op_, bool_, kb_, tru_, tr_bl, andT_, orT_, kn_tt, kn_tf, kn_ff, kn_ft, notT_, and_, kand_t, kand_f, if_, bre_t, bre_f, call_, cb_, neg_, sl_, nopart_, part_, FD.sl_tup, eq_int0, eq_int1, eq_bl0, eq_bl1, beq_self_eq_true, Bool.not_true, Bool.not_false, add_int, add_tup, add_ref, int_, int0_, mul_int, mul_str, ord_int, FD.ix_tup, ix_fl, ix_ref, at_0, at_1, at_2, at_3, len_tup, len_fl, len_ref, max2_, min2_, tuple_tup, tuple_ref, is_, gs_, setL_, ml_, for_, rng1_, any_, lc_, FD.sl_ref, list_tup, dict0_, dn_, sortK_, val_tup, yes_, isLst_, List.set_cons_zero, List.set_cons_succ, or_, kor_t, kor_f, not_, chain_, kch_t, kch_f, ord_str, len_str, ordc_, strc_int, val_str, add_str, sl_strD, match_, cc_, kc_n, kc_s, cn_, wild_, isi_ty (ha _) ty_tuple, hi]
    rw [key_no hn] at h
    exact h _ .refl
theorem l_is_key_spec {b k : Nat} {v : D} {G : DG} {Q : DK} (hv : Pb b k v) (h : ∀ G', Keep G G' → Q (.bl (keyB v)) G') : sp_l_is_key [v] G Q := by
  refine ⟨rfl, ?_⟩
  show t_l_is_key _ [some v, none] G
  unfold t_l_is_key
  rcases hv.nt with ⟨ds, rfl⟩ | ⟨hn, a, ha, hi⟩
  · try simp only [seq_, next_, ret_, drop_, ifs_, br_t, br_f, asg_, gn_, gt_, gtc_, gtn_, par_, var_0, var_s, c_, nil_, cons_, tup_, lst_, op_, bool_, kb_, tru_, tr_bl, andT_, orT_, kn_tt, kn_tf, kn_ff, kn_ft, notT_, and_, kand_t, kand_f, if_, bre_t, bre_f, call_, cb_, neg_, sl_, nopart_, part_, FD.sl_tup, eq_int0, eq_int1, eq_bl0, eq_bl1, beq_self_eq_true, Bool.not_true, Bool.not_false, add_int, add_tup, add_ref, int_, int0_, mul_int, mul_str, ord_int, FD.ix_tup, ix_fl, ix_ref, at_0, at_1, at_2, at_3, len_tup, len_fl, len_ref, max2_, min2_, tuple_tup, tuple_ref, is_, gs_, setL_, ml_, for_, rng1_, any_, lc_, FD.sl_ref, list_tup, dict0_, dn_, sortK_, val_tup, yes_, isLst_, List.set_cons_zero, List.set_cons_succ, or_, kor_t, kor_f, not_, chain_, kch_t, kch_f, ord_str, len_str, ordc_, strc_int, val_str, add_str, sl_strD, match_, cc_, kc_n, kc_s, cn_, wild_, isi_ty (show tyD G (.tup ds) = some .tuple from rfl) ty_tuple, show Ty.isa .tuple .tuple = true from rfl, len_eq (show (2 : Int) = (2 : Nat) from rfl)]
    by_cases hl : ds.length = 2
    · rw [decide_eq_true hl]
      try simp only [seq_, next_, ret_, drop_, ifs_, br_t, br_f, asg_, gn_, gt_, gtc_, gtn_, par_, var_0, var_s, c_, nil_, cons_, tup_, lst_, op_, bool_, kb_, tru_, tr_bl, andT_, orT_, kn_tt, kn_tf, kn_ff, kn_ft, notT_, and_, kand_t, kand_f, if_, bre_t, bre_f, call_, cb_, neg_, sl_, nopart_, part_, FD.sl_tup, eq_int0, eq_int1, eq_bl0, eq_bl1, beq_self_eq_true, Bool.not_true, Bool.not_false, add_int, add_tup, add_ref, int_, int0_, mul_int, mul_str, ord_int, FD.ix_tup, ix_fl, ix_ref, at_0, at_1, at_2, at_3, len_tup, len_fl, len_ref, max2_, min2_, tuple_tup, tuple_ref, is_, gs_, setL_, ml_, for_, rng1_, any_, lc_, FD.sl_ref, list_tup, dict0_, dn_, sortK_, val_tup, yes_, isLst_, List.set_cons_zero, List.set_cons_succ, or_, kor_t, kor_f, not_, chain_, kch_t, kch_f, ord_str, len_str, ordc_, strc_int, val_str, add_str, sl_strD, match_, cc_, kc_n, kc_s, cn_, wild_]
      refine lcBad (p := nameB) (by simp [wipeD]) (fun d hd {G Q} q => l_is_name_spec (hv.items.2 d hd) q) (by rw [hl]; simp [sizeLine]) fun p G1 e1 k1 => ?_
      try simp only [seq_, next_, ret_, drop_, ifs_, br_t, br_f, asg_, gn_, gt_, gtc_, gtn_, par_, var_0, var_s, c_, nil_, cons_, tup_, lst_, op_, bool_, kb_, tru_, tr_bl, andT_, orT_, kn_tt, kn_tf, kn_ff, kn_ft, notT_, and_, kand_t, kand_f, if_, bre_t, bre_f, call_, cb_, neg_, sl_, nopart_, part_, FD.sl_tup, eq_int0, eq_int1, eq_bl0, eq_bl1, beq_self_eq_true, Bool.not_true, Bool.not_false, add_int, add_tup, add_ref, int_, int0_, mul_int, mul_str, ord_int, FD.ix_tup, ix_fl, ix_ref, at_0, at_1, at_2, at_3, len_tup, len_fl, len_ref, max2_, min2_, tuple_tup, tuple_ref, is_, gs_, setL_, ml_, for_, rng1_, any_, lc_, FD.sl_ref, list_tup, dict0_, dn_, sortK_, val_tup, yes_, isLst_, List.set_cons_zero, List.set_cons_succ, or_, kor_t, kor_f, not_, chain_, kch_t, kch_f, ord_str, len_str, ordc_, strc_int, val_str, add_str, sl_strD, match_, cc_, kc_n, kc_s, cn_, wild_]
      repeat (with_reducible refine And.intro (by first | rfl | omega | (simp only [sizeLine, List.length_cons, List.length_nil, List.length_append] <;> omega)) ?_)
      refine new_ fun q G2 _ e2 k2 => ?_
      refine none_bad (k2 _ _ e1) e2 ?_
      obtain ⟨x, y, rfl⟩ := len_two hl
      have := h G2 (k1.trans k2)
      rw [List.all_cons, List.all_cons, List.all_nil, Bool.and_true]
      exact this
    · rw [key_len hl] at h
      rw [decide_eq_false hl]
      try simp only [seq_, next_, ret_, drop_, ifs_, br_t, br_f, asg_, gn_, gt_, gtc_, gtn_, par_, var_0, var_s, c_, nil_, cons_, tup_, lst_, op_, bool_, kb_, tru_, tr_bl, andT_, orT_, kn_tt, kn_tf, kn_ff, kn_ft, notT_, and_, kand_t, kand_f, if_, bre_t, bre_f, call_, cb_, neg_, sl_, nopart_, part_, FD.sl_tup, eq_int0, eq_int1, eq_bl0, eq_bl1, beq_self_eq_true, Bool.not_true, Bool.not_false, add_int, add_tup, add_ref, int_, int0_, mul_int, mul_str, ord_int, FD.ix_tup, ix_fl, ix_ref, at_0, at_1, at_2, at_3, len_tup, len_fl, len_ref, max2_, min2_, tuple_tup, tuple_ref, is_, gs_, setL_, ml_, for_, rng1_, any_, lc_, FD.sl_ref, list_tup, dict0_, dn_, sortK_, val_tup, yes_, isLst_, List.set_cons_zero, List.set_cons_succ, or_, kor_t, kor_f, not_, chain_, kch_t, kch_f, ord_str, len_str, ordc_, strc_int, val_str, add_str, sl_strD, match_, cc_, kc_n, kc_s, cn_, wild_]
      exact h _ .refl
  · try simp only [seq_, next_, ret_, drop_, ifs_, br_t, br_f, asg_, gn_, gt_, gtc_, gtn_, par_, var_0, var_s, c_, nil_, cons_, tup_, lst_, op_, bool_, kb_, tru_, tr_bl, andT_, orT_, kn_tt, kn_tf, kn_ff, kn_ft, notT_, and_, kand_t, kand_f, if_, bre_t, bre_f, call_, cb_, neg_, sl_, nopart_, part_, FD.sl_tup, eq_int0, eq_int1, eq_bl0, eq_bl1, beq_self_eq_true, Bool.not_true, Bool.not_false, add_int, add_tup, add_ref, int_, int0_, mul_int, mul_str, ord_int, FD.ix_tup, ix_fl, ix_ref, at_0, at_1, at_2, at_3, len_tup, len_fl, len_ref, max2_, min2_, tuple_tup, tuple_ref, is_, gs_, setL_, ml_, for_, rng1_, any_, lc_, FD.sl_ref, list_tup, dict0_, dn_, sortK_, val_tup, yes_, isLst_, List.set_cons_zero, List.set_cons_succ, or_, kor_t, kor_f, not_, chain_, kch_t, kch_f, ord_str, len_str, ordc_, strc_int, val_str, add_str, sl_strD, match_, cc_, kc_n, kc_s, cn_, wild_, isi_ty (ha _) ty_tuple, hi]
    rw [key_no hn] at h
    exact h _ .refl
/-! rows of keys without a key twice -/
def okd : List D → List D → Bool
  | _, [] => true
  | acc, x :: xs => !(acc.any fun a => keq a x) && okd (acc ++ [x]) xs
def sputs : List D → List D → List D
  | acc, [] => acc
  | acc, x :: xs => sputs (sput acc x) xs
theorem sputs_len : ∀ {xs acc : List D}, (sputs acc xs).length ≤ acc.length + xs.length
  | [], acc => Nat.le_refl _
  | x :: xs, acc => by
    have h1 := sputs_len (xs := xs) (acc := sput acc x)
    have h2 := sput_len acc x
    rw [sputs, List.length_cons]
    omega
theorem sputs_ok : ∀ {xs acc : List D}, decide ((sputs acc xs).length = acc.length + xs.length) = okd acc xs
  | [], acc => by rw [sputs, okd]; simp
  | x :: xs, acc => by
    rw [sputs, okd, List.length_cons]
    unfold sput
    cases h : acc.any fun a => keq a x with
    | true =>
      have := sputs_len (xs := xs) (acc := acc)
      rw [if_pos rfl, decide_eq_false (by omega)]; rfl
    | false =>
      rw [if_neg (by decide), Bool.not_false, Bool.true_and, ← sputs_ok (xs := xs) (acc := acc ++ [x]), List.length_append]
      congr 1
      apply propext
      show _ ↔ _ = acc.length + 1 + xs.length
      omega
theorem scGo_puts {chk : DG → Prop} {i : Nat} {ρ : DSt} {fin : List D → DG → Prop} (hi : i < ρ.length) (hc : ∀ G, chk G) : ∀ (items acc : List D) (G : DG), (∀ d ∈ items, okKey d = true) → acc.length + items.length ≤ 4 → fin (sputs acc items) G → scGo chk (gnD i) dYes (dVar i) ρ fin items acc G
  | [], acc, G, _, _, h => ⟨hc _, h⟩
  | d :: ds, acc, G, ho, hl, h => by
    rw [List.length_cons] at hl
    refine ⟨hc _, ?_⟩
    rw [gn_, yes_, if_pos rfl, var_at (List.getElem?_set_self hi)]
    refine ⟨⟨ho d (List.mem_cons_self ..), by omega⟩, ?_⟩
    have := sput_len acc d
    exact scGo_puts hi hc ds _ G (fun e he => ho e (List.mem_cons_of_mem _ he)) (by omega) h
theorem name_is {v : D} (h : nameB v = true) : ∃ s, v = .str s := by
  cases v <;> first | exact ⟨_, rfl⟩ | (exact nomatch h)
theorem key_str {v : D} (h : keyB v = true) : ∃ s t, v = .tup [.str s, .str t] ∧ nameB (.str s) = true ∧ nameB (.str t) = true := by
  unfold keyB at h
  split at h
  · rename_i a b
    rw [Bool.and_eq_true] at h
    obtain ⟨h1, h2⟩ := h
    obtain ⟨s, rfl⟩ := name_is h1
    obtain ⟨t, rfl⟩ := name_is h2
    exact ⟨_, _, rfl, h1, h2⟩
  · cases h
theorem key_pk {b k : Nat} {v : D} (h : keyB v = true) (hv : Pb b k v) : Pk 1 v := by
  obtain ⟨s, t, rfl, _, _⟩ := key_str h
  refine pk_tup.mpr ⟨by simp [sizeLine], fun d hd => ?_⟩
  have := hv.items.2 d hd
  simp only [List.mem_cons, List.not_mem_nil, or_false] at hd
  rcases hd with rfl | rfl <;> exact pk_str.mpr (pb_str.mp this).1
theorem key_okk {b k : Nat} {v : D} (h : keyB v = true) (hv : Pb b k v) : okKey v = true := by
  have := key_pk h hv
  obtain ⟨s, t, rfl, _, _⟩ := key_str h
  exact this.ok (by decide)
theorem key_eqv {x y : D} (hx : keyB x = true) (hy : keyB y = true) : PyData.eqv (toPy x) (toPy y) = keq x y := by
  obtain ⟨s, t, rfl, _, _⟩ := key_str hx
  obtain ⟨s', t', rfl, _, _⟩ := key_str hy
  unfold keq
  simp only [toPy, toPys, PyData.eqv, PyData.eqvAll, nkey, nkeys]
  by_cases h1 : s = s' <;> by_cases h2 : t = t' <;> simp [h1, h2]
def keysB : D → Bool
  | .tup ks => decide (0 < ks.length) && decide (ks.length ≤ 4) && ks.all keyB && okd [] ks
  | _ => false
theorem keys_no {v : D} (h : ∀ ds, v ≠ .tup ds) : keysB v = false := by
  cases v <;> first | rfl | exact absurd rfl (h _)
theorem keys_tup {ks : List D} : keysB (.tup ks) = (decide (0 < ks.length) && decide (ks.length ≤ 4) && ks.all keyB && okd [] ks) := rfl
theorem are_keys_spec {b k : Nat} {v : D} {G : DG} {Q : DK} (hv : Pb b k v) (h : ∀ G', Keep G G' → Q (.bl (keysB v)) G') : sp_are_keys [v] G Q := by
  refine ⟨rfl, ?_⟩
  show t_are_keys _ [some v, none] G
  unfold t_are_keys
  rcases hv.nt with ⟨ds, rfl⟩ | ⟨hn, a, ha, hi⟩
  · try simp only [seq_, next_, ret_, drop_, ifs_, br_t, br_f, asg_, gn_, gt_, gtc_, gtn_, par_, var_0, var_s, c_, nil_, cons_, tup_, lst_, op_, bool_, kb_, tru_, tr_bl, andT_, orT_, kn_tt, kn_tf, kn_ff, kn_ft, notT_, and_, kand_t, kand_f, if_, bre_t, bre_f, call_, cb_, neg_, sl_, nopart_, part_, FD.sl_tup, eq_int0, eq_int1, eq_bl0, eq_bl1, beq_self_eq_true, Bool.not_true, Bool.not_false, add_int, add_tup, add_ref, int_, int0_, mul_int, mul_str, ord_int, FD.ix_tup, ix_fl, ix_ref, at_0, at_1, at_2, at_3, len_tup, len_fl, len_ref, max2_, min2_, tuple_tup, tuple_ref, is_, gs_, setL_, ml_, for_, rng1_, any_, lc_, FD.sl_ref, list_tup, dict0_, dn_, sortK_, val_tup, yes_, isLst_, List.set_cons_zero, List.set_cons_succ, or_, kor_t, kor_f, not_, chain_, kch_t, kch_f, ord_str, len_str, ordc_, strc_int, val_str, add_str, sl_strD, match_, cc_, kc_n, kc_s, cn_, wild_, isi_ty (show tyD G (.tup ds) = some .tuple from rfl) ty_tuple, show Ty.isa .tuple .tuple = true from rfl]
    rw [keys_tup] at h
    by_cases h0 : 0 < ds.length
    · rw [decide_eq_true h0] at h
      rw [decide_eq_true (by omega : (0 : Int) < ds.length)]
      try simp only [seq_, next_, ret_, drop_, ifs_, br_t, br_f, asg_, gn_, gt_, gtc_, gtn_, par_, var_0, var_s, c_, nil_, cons_, tup_, lst_, op_, bool_, kb_, tru_, tr_bl, andT_, orT_, kn_tt, kn_tf, kn_ff, kn_ft, notT_, and_, kand_t, kand_f, if_, bre_t, bre_f, call_, cb_, neg_, sl_, nopart_, part_, FD.sl_tup, eq_int0, eq_int1, eq_bl0, eq_bl1, beq_self_eq_true, Bool.not_true, Bool.not_false, add_int, add_tup, add_ref, int_, int0_, mul_int, mul_str, ord_int, FD.ix_tup, ix_fl, ix_ref, at_0, at_1, at_2, at_3, len_tup, len_fl, len_ref, max2_, min2_, tuple_tup, tuple_ref, is_, gs_, setL_, ml_, for_, rng1_, any_, lc_, FD.sl_ref, list_tup, dict0_, dn_, sortK_, val_tup, yes_, isLst_, List.set_cons_zero, List.set_cons_succ, or_, kor_t, kor_f, not_, chain_, kch_t, kch_f, ord_str, len_str, ordc_, strc_int, val_str, add_str, sl_strD, match_, cc_, kc_n, kc_s, cn_, wild_]
      by_cases h4 : ds.length ≤ 4
      · rw [decide_eq_true h4] at h
        rw [decide_eq_true (by omega : (ds.length : Int) ≤ 4)]
        try simp only [seq_, next_, ret_, drop_, ifs_, br_t, br_f, asg_, gn_, gt_, gtc_, gtn_, par_, var_0, var_s, c_, nil_, cons_, tup_, lst_, op_, bool_, kb_, tru_, tr_bl, andT_, orT_, kn_tt, kn_tf, kn_ff, kn_ft, notT_, and_, kand_t, kand_f, if_, bre_t, bre_f, call_, cb_, neg_, sl_, nopart_, part_, FD.sl_tup, eq_int0, eq_int1, eq_bl0, eq_bl1, beq_self_eq_true, Bool.not_true, Bool.not_false, add_int, add_tup, add_ref, int_, int0_, mul_int, mul_str, ord_int, FD.ix_tup, ix_fl, ix_ref, at_0, at_1, at_2, at_3, len_tup, len_fl, len_ref, max2_, min2_, tuple_tup, tuple_ref, is_, gs_, setL_, ml_, for_, rng1_, any_, lc_, FD.sl_ref, list_tup, dict0_, dn_, sortK_, val_tup, yes_, isLst_, List.set_cons_zero, List.set_cons_succ, or_, kor_t, kor_f, not_, chain_, kch_t, kch_f, ord_str, len_str, ordc_, strc_int, val_str, add_str, sl_strD, match_, cc_, kc_n, kc_s, cn_, wild_]
        refine lcAll (p := keyB) (by simp [wipeD]) (fun d hd {G Q} q => is_key_spec (hv.items.2 d hd) q) (by simp only [sizeLine]; omega) fun p G1 e1 k1 => ?_
        refine all_bl e1 ?_
        try simp only [seq_, next_, ret_, drop_, ifs_, br_t, br_f, asg_, gn_, gt_, gtc_, gtn_, par_, var_0, var_s, c_, nil_, cons_, tup_, lst_, op_, bool_, kb_, tru_, tr_bl, andT_, orT_, kn_tt, kn_tf, kn_ff, kn_ft, notT_, and_, kand_t, kand_f, if_, bre_t, bre_f, call_, cb_, neg_, sl_, nopart_, part_, FD.sl_tup, eq_int0, eq_int1, eq_bl0, eq_bl1, beq_self_eq_true, Bool.not_true, Bool.not_false, add_int, add_tup, add_ref, int_, int0_, mul_int, mul_str, ord_int, FD.ix_tup, ix_fl, ix_ref, at_0, at_1, at_2, at_3, len_tup, len_fl, len_ref, max2_, min2_, tuple_tup, tuple_ref, is_, gs_, setL_, ml_, for_, rng1_, any_, lc_, FD.sl_ref, list_tup, dict0_, dn_, sortK_, val_tup, yes_, isLst_, List.set_cons_zero, List.set_cons_succ, or_, kor_t, kor_f, not_, chain_, kch_t, kch_f, ord_str, len_str, ordc_, strc_int, val_str, add_str, sl_strD, match_, cc_, kc_n, kc_s, cn_, wild_]
        cases ek : ds.all keyB with
        | false =>
          rw [ek] at h
          try simp only [seq_, next_, ret_, drop_, ifs_, br_t, br_f, asg_, gn_, gt_, gtc_, gtn_, par_, var_0, var_s, c_, nil_, cons_, tup_, lst_, op_, bool_, kb_, tru_, tr_bl, andT_, orT_, kn_tt, kn_tf, kn_ff, kn_ft, notT_, and_, kand_t, kand_f, if_, bre_t, bre_f, call_, cb_, neg_, sl_, nopart_, part_, FD.sl_tup, eq_int0, eq_int1, eq_bl0, eq_bl1, beq_self_eq_true, Bool.not_true, Bool.not_false, add_int, add_tup, add_ref, int_, int0_, mul_int, mul_str, ord_int, FD.ix_tup, ix_fl, ix_ref, at_0, at_1, at_2, at_3, len_tup, len_fl, len_ref, max2_, min2_, tuple_tup, tuple_ref, is_, gs_, setL_, ml_, for_, rng1_, any_, lc_, FD.sl_ref, list_tup, dict0_, dn_, sortK_, val_tup, yes_, isLst_, List.set_cons_zero, List.set_cons_succ, or_, kor_t, kor_f, not_, chain_, kch_t, kch_f, ord_str, len_str, ordc_, strc_int, val_str, add_str, sl_strD, match_, cc_, kc_n, kc_s, cn_, wild_]
          exact h _ k1
        | true =>
          rw [ek] at h
          try simp only [seq_, next_, ret_, drop_, ifs_, br_t, br_f, asg_, gn_, gt_, gtc_, gtn_, par_, var_0, var_s, c_, nil_, cons_, tup_, lst_, op_, bool_, kb_, tru_, tr_bl, andT_, orT_, kn_tt, kn_tf, kn_ff, kn_ft, notT_, and_, kand_t, kand_f, if_, bre_t, bre_f, call_, cb_, neg_, sl_, nopart_, part_, FD.sl_tup, eq_int0, eq_int1, eq_bl0, eq_bl1, beq_self_eq_true, Bool.not_true, Bool.not_false, add_int, add_tup, add_ref, int_, int0_, mul_int, mul_str, ord_int, FD.ix_tup, ix_fl, ix_ref, at_0, at_1, at_2, at_3, len_tup, len_fl, len_ref, max2_, min2_, tuple_tup, tuple_ref, is_, gs_, setL_, ml_, for_, rng1_, any_, lc_, FD.sl_ref, list_tup, dict0_, dn_, sortK_, val_tup, yes_, isLst_, List.set_cons_zero, List.set_cons_succ, or_, kor_t, kor_f, not_, chain_, kch_t, kch_f, ord_str, len_str, ordc_, strc_int, val_str, add_str, sl_strD, match_, cc_, kc_n, kc_s, cn_, wild_]
          show scGo _ _ _ _ _ _ _ _ _
          refine scGo_puts (by simp [wipeD]) (fun _ => True.intro) _ _ _ (fun d hd => key_okk (List.all_eq_true.mp ek d hd) (hv.items.2 d hd)) (by show 0 + ds.length ≤ 4; omega) ?_
          intro p hp
          refine ⟨_, gupd_same, ?_⟩
          try simp only [seq_, next_, ret_, drop_, ifs_, br_t, br_f, asg_, gn_, gt_, gtc_, gtn_, par_, var_0, var_s, c_, nil_, cons_, tup_, lst_, op_, bool_, kb_, tru_, tr_bl, andT_, orT_, kn_tt, kn_tf, kn_ff, kn_ft, notT_, and_, kand_t, kand_f, if_, bre_t, bre_f, call_, cb_, neg_, sl_, nopart_, part_, FD.sl_tup, eq_int0, eq_int1, eq_bl0, eq_bl1, beq_self_eq_true, Bool.not_true, Bool.not_false, add_int, add_tup, add_ref, int_, int0_, mul_int, mul_str, ord_int, FD.ix_tup, ix_fl, ix_ref, at_0, at_1, at_2, at_3, len_tup, len_fl, len_ref, max2_, min2_, tuple_tup, tuple_ref, is_, gs_, setL_, ml_, for_, rng1_, any_, lc_, FD.sl_ref, list_tup, dict0_, dn_, sortK_, val_tup, yes_, isLst_, List.set_cons_zero, List.set_cons_succ, or_, kor_t, kor_f, not_, chain_, kch_t, kch_f, ord_str, len_str, ordc_, strc_int, val_str, add_str, sl_strD, match_, cc_, kc_n, kc_s, cn_, wild_]
          rw [len_eq rfl]
          have := sputs_ok (xs := ds) (acc := [])
          rw [List.length_nil, Nat.zero_add] at this
          rw [this]
          exact h _ (k1.trans (keep_new hp))
      · rw [decide_eq_false h4] at h
        rw [decide_eq_false (by omega : ¬ (ds.length : Int) ≤ 4)]
        try simp only [seq_, next_, ret_, drop_, ifs_, br_t, br_f, asg_, gn_, gt_, gtc_, gtn_, par_, var_0, var_s, c_, nil_, cons_, tup_, lst_, op_, bool_, kb_, tru_, tr_bl, andT_, orT_, kn_tt, kn_tf, kn_ff, kn_ft, notT_, and_, kand_t, kand_f, if_, bre_t, bre_f, call_, cb_, neg_, sl_, nopart_, part_, FD.sl_tup, eq_int0, eq_int1, eq_bl0, eq_bl1, beq_self_eq_true, Bool.not_true, Bool.not_false, add_int, add_tup, add_ref, int_, int0_, mul_int, mul_str, ord_int, FD.ix_tup, ix_fl, ix_ref, at_0, at_1, at_2, at_3, len_tup, len_fl, len_ref, max2_, min2_, tuple_tup, tuple_ref, is_, gs_, setL_, ml_, for_, rng1_, any_, lc_, FD.sl_ref, list_tup, dict0_, dn_, sortK_, val_tup, yes_, isLst_, List.set_cons_zero, List.set_cons_succ, or_, kor_t, kor_f, not_, chain_, kch_t, kch_f, ord_str, len_str, ordc_, strc_int, val_str, add_str, sl_strD, match_, cc_, kc_n, kc_s, cn_, wild_]
        exact h _ .refl
    · rw [decide_eq_false h0] at h
      rw [decide_eq_false (by omega : ¬ (0 : Int) < ds.length)]
      try simp only [seq_, next_, ret_, drop_, ifs_, br_t, br_f, asg_, gn_, gt_, gtc_, gtn_, par_, var_0, var_s, c_, nil_, cons_, tup_, lst_, op_, bool_, kb_, tru_, tr_bl, andT_, orT_, kn_tt, kn_tf, kn_ff, kn_ft, notT_, and_, kand_t, kand_f, if_, bre_t, bre_f, call_, cb_, neg_, sl_, nopart_, part_, FD.sl_tup, eq_int0, eq_int1, eq_bl0, eq_bl1, beq_self_eq_true, Bool.not_true, Bool.not_false, add_int, add_tup, add_ref, int_, int0_, mul_int, mul_str, ord_int, FD.ix_tup, ix_fl, ix_ref, at_0, at_1, at_2, at_3, len_tup, len_fl, len_ref, max2_, min2_, tuple_tup, tuple_ref, is_, gs_, setL_, ml_, for_, rng1_, any_, lc_, FD.sl_ref, list_tup, dict0_, dn_, sortK_, val_tup, yes_, isLst_, List.set_cons_zero, List.set_cons_succ, or_, kor_t, kor_f, not_, chain_, kch_t, kch_f, ord_str, len_str, ordc_, strc_int, val_str, add_str, sl_strD, match_, cc_, kc_n, kc_s, cn_, wild_]
      exact h _ .refl
  · try simp only [seq_, next_, ret_, drop_, ifs_, br_t, br_f, asg_, gn_, gt_, gtc_, gtn_, par_, var_0, var_s, c_, nil_, cons_, tup_, lst_, op_, bool_, kb_, tru_, tr_bl, andT_, orT_, kn_tt, kn_tf, kn_ff, kn_ft, notT_, and_, kand_t, kand_f, if_, bre_t, bre_f, call_, cb_, neg_, sl_, nopart_, part_, FD.sl_tup, eq_int0, eq_int1, eq_bl0, eq_bl1, beq_self_eq_true, Bool.not_true, Bool.not_false, add_int, add_tup, add_ref, int_, int0_, mul_int, mul_str, ord_int, FD.ix_tup, ix_fl, ix_ref, at_0, at_1, at_2, at_3, len_tup, len_fl, len_ref, max2_, min2_, tuple_tup, tuple_ref, is_, gs_, setL_, ml_, for_, rng1_, any_, lc_, FD.sl_ref, list_tup, dict0_, dn_, sortK_, val_tup, yes_, isLst_, List.set_cons_zero, List.set_cons_succ, or_, kor_t, kor_f, not_, chain_, kch_t, kch_f, ord_str, len_str, ordc_, strc_int, val_str, add_str, sl_strD, match_, cc_, kc_n, kc_s, cn_, wild_, isi_ty (ha _) ty_tuple, hi]
    rw [keys_no hn] at h
    exact h _ .refl
end K02

namespace K02
open PySem L2 FD
theorem eq_s {s t : Str} {G : DG} {Q : DK} (hs : PyData.strOk s = true) (ht : PyData.strOk t = true) (h : Q (.bl (s == t)) G) : eqD false (.str s) (.str t) G Q := by
  refine eq_pl0 (k := 0) (m := 0) (by rw [Pl]; exact hs) (by rw [Pl]; exact ht) (by decide) (by decide) ?_
  rw [toPy, toPy, PyData.eqv]
  exact h
theorem at_eq {ds : List D} {i : Nat} {d : D} {G : DG} {Q : DK} (h : ds[i]? = some d) : atQ ds (i : Int) G Q = Q d G := by
  have hl : i < ds.length := by
    rcases Nat.lt_or_ge i ds.length with q | q
    · exact q
    · rw [List.getElem?_eq_none q] at h; cases h
  unfold atQ atI ixN
  rw [if_pos (by omega), if_pos (by omega)]
  show (match ds[(i : Int).toNat]? with | some d => Q d G | none => False) = _
  rw [Int.toNat_natCast, h]
theorem in_pl {neg : Bool} {k : Nat} {x : D} {ds : List D} {G : DG} {Q : DK} (hx : Pl k x) (hd : ∀ d ∈ ds, Pl k d) (hk : k ≤ 63) (hl : ds.length ≤ sizeLine) (h : Q (.bl (neg ^^ (ds.any fun z => PyData.eqv (toPy z) (toPy x)))) G) : inD neg x (.tup ds) G Q := by
  have ht : Pl (k + 1) (.tup ds) := pl_tup.mpr ⟨hl, hd⟩
  have h1 := imm_py G ht.im.1
  have h2 := ht.shp (by omega)
  rw [toPy] at h1 h2
  refine ⟨toPy x, toPys ds, imm_py G hx.im.1, h1, hx.shp (by omega), h2, ?_⟩
  rw [toPys_map, List.any_map]
  exact h
theorem _root_.FD.Pb.ns {b k : Nat} {v : D} (h : Pb b k v) : (∃ s, v = .str s ∧ PyData.strOk s = true) ∨ ((∀ s, v ≠ .str s) ∧ ∃ a, (∀ G, tyD G v = some a) ∧ Ty.isa a .str = false) := by
  rcases h.no with ⟨ds, rfl⟩ | rfl | ⟨i, rfl⟩ | ⟨i, rfl⟩ | ⟨s, rfl, e, hl⟩
  case inr.inr.inr.inr => exact .inl ⟨s, rfl, e⟩
  all_goals refine .inr ⟨?_, _, fun _ => rfl, rfl⟩
  all_goals exact fun _ q => nomatch q
def stepB : D → Bool
  | .tup [.str w] => w == "stop"
  | .tup [.str w, x] => w == "read" && keysB x
  | .tup [.str w, x, y] => w == "write" && (nameB x && textB y)
  | _ => false
theorem step_no {v : D} (h : ∀ ds, v ≠ .tup ds) : stepB v = false := by
  cases v <;> first | rfl | exact absurd rfl (h _)
theorem step_no0 {x : D} {r : List D} (h : ∀ s, x ≠ .str s) : stepB (.tup (x :: r)) = false := by
  unfold stepB
  split
  · rename_i w e; injection e with e; injection e with e _; exact absurd e (h _)
  · rename_i w x e; injection e with e; injection e with e _; exact absurd e (h _)
  · rename_i w x y e; injection e with e; injection e with e _; exact absurd e (h _)
  · rfl
theorem okd_rng : ∀ (xs acc : List D), ((List.range' acc.length xs.length).all fun i => !((acc ++ xs).take i).any fun z => keq z ((acc ++ xs).getD i .non)) = okd acc xs
  | [], acc => by rw [okd]; rfl
  | x :: xs, acc => by
    have h := okd_rng xs (acc ++ [x])
    rw [List.length_append, List.append_assoc] at h
    rw [List.length_cons, List.range'_succ, List.all_cons, okd, ← h, List.take_left' rfl]
    congr 3
    congr 1
    funext z
    congr 1
    rw [List.getD_eq_getElem?_getD, List.getElem?_append_right (Nat.le_refl _), Nat.sub_self]
    rfl
def dupAt (ks : List D) : D → Bool
  | .int i => (ks.take i.toNat).any fun z => keq z (ks.getD i.toNat .non)
  | _ => false
theorem dup_all {ks : List D} : ((rngD 0 ks.length).all fun d => !dupAt ks d) = okd [] ks := by
  rw [← okd_rng ks []]
  unfold rngD
  rw [List.all_map, List.range_eq_range']
  rw [List.length_nil, List.nil_append]
  congr 1
  funext i
  show (!((ks.take ((0 : Int) + i).toNat).any fun z => keq z (ks.getD ((0 : Int) + i).toNat .non))) = _
  rw [show ((0 : Int) + i).toNat = i by omega]
/-- no key twice, by the law -/
theorem dup_spec {b k : Nat} {ks : List D} {ρ : DSt} {G : DG} {Q : DK} (hv : Pb b k (.tup ks)) (hb : b ≤ 1000) (hk : k ≤ 60) (hks : ks.all keyB = true) (h1 : ρ[1]? = some (some (.tup ks))) (h3 : 3 < ρ.length)
    (h : ∀ a G', G' a = some (.lst (((rngD 0 ks.length).filter fun d => !!dupAt ks d).map fun _ => .int 1)) → Keep G G' → Q (.ref a) G') :
    lcGo (fun _ => True) (gnD 3) (dBool (dOp (inD false) (dOp ixD (dVar 1) (dVar 3)) (dSl (dVar 1) dNoPart (dPart (dVar 3))))) (dC (.int 1)) ρ (fun acc G' => kNew G' (.lst acc) Q) (rngD 0 ks.length) [] G := by
  obtain ⟨hl, hi⟩ := hv.items
  refine lcGo_flt (fun G' => Keep G G') (fun d => !!dupAt ks d) (fun _ => .int 1) (fun _ _ => True.intro) _ _ _ (fun d hd G1 Ky Kn k1 ky kn => ?_) .refl (by rw [rng_len, List.length_nil]; simp only [sizeLine]; omega) fun G1 k1 => ?_
  · obtain ⟨i, hi', rfl⟩ := rng_mem hd
    have v3 : (ρ.set 3 (some (.int (0 + (i : Int)))))[3]? = some (some (.int (0 + (i : Int)))) := List.getElem?_set_self h3
    have v1 : (ρ.set 3 (some (.int (0 + (i : Int)))))[1]? = some (some (.tup ks)) := by rw [List.getElem?_set_ne (by decide)]; exact h1
    have e0 : (0 : Int) + i = i := by omega
    rw [gn_]
    rw [e0] at v1 v3 ⊢
    have hg : ks[i]? = some ks[i] := List.getElem?_eq_getElem hi'
    simp only [bool_, op_, var_at v1, var_at v3, FD.ix_tup, at_eq hg, sl_, nopart_, part_, FD.sl_tup, cut_hi]
    have hm : ks[i] ∈ ks := List.getElem_mem hi'
    have hp : ∀ z ∈ ks, Pl k z := fun z hz => (hi z hz).pl (by simp only [sizeLine]; omega)
    refine in_pl (k := k) (hp _ hm) (fun z hz => hp z (List.mem_of_mem_take hz)) (by omega) (by rw [List.length_take]; simp only [sizeLine]; omega) ?_
    have e1 : ((ks.take i).any fun z => PyData.eqv (toPy z) (toPy ks[i])) = dupAt ks (.int (0 + (i : Int))) := by
      show _ = ((ks.take ((0 : Int) + i).toNat).any fun z => keq z (ks.getD ((0 : Int) + i).toNat .non))
      rw [show ((0 : Int) + i).toNat = i by omega, List.getD_eq_getElem?_getD, hg]
      show ((ks.take i).any fun z => PyData.eqv (toPy z) (toPy ks[i])) = (ks.take i).any fun z => keq z ks[i]
      rw [Bool.eq_iff_iff, List.any_eq_true, List.any_eq_true]
      have hkey : ∀ z ∈ ks, keyB z = true := List.all_eq_true.mp hks
      constructor
      · rintro ⟨z, hz, e⟩
        exact ⟨z, hz, by rw [← key_eqv (hkey z (List.mem_of_mem_take hz)) (hkey _ hm)]; exact e⟩
      · rintro ⟨z, hz, e⟩
        exact ⟨z, hz, by rw [key_eqv (hkey z (List.mem_of_mem_take hz)) (hkey _ hm)]; exact e⟩
    rw [e1, Bool.false_xor, kb_]
    cases hp : dupAt ks (.int (0 + (i : Int))) with
    | true => exact ky (by rw [hp]; rfl) _ k1
    | false => exact kn (by rw [hp]; rfl) _ k1
  · rw [List.nil_append]
    exact new_ fun a G2 _ e k2 => h a G2 e (k1.trans k2)
theorem l_is_step_spec {b k : Nat} {v : D} {G : DG} {Q : DK} (hv : Pb b k v) (hb : b ≤ 1000) (hk : k ≤ 60) (h : ∀ G', Keep G G' → Q (.bl (stepB v)) G') : sp_l_is_step [v] G Q := by
  refine ⟨rfl, ?_⟩
  show t_l_is_step _ [some v, none, none, none] G
  unfold t_l_is_step
  rcases hv.nt with ⟨ds, rfl⟩ | ⟨hn, a, ha, hi⟩
  · obtain ⟨hl, hit⟩ := hv.items
    try simp only [next_, ret_, drop_, ifs_, br_t, br_f, asg_, gn_, gt_, gtc_, gtn_, par_, var_0, var_s, c_, nil_, cons_, tup_, lst_, op_, bool_, kb_, tru_, tr_bl, andT_, orT_, kn_tt, kn_tf, kn_ff, kn_ft, notT_, and_, kand_t, kand_f, if_, bre_t, bre_f, call_, cb_, neg_, sl_, nopart_, part_, FD.sl_tup, eq_int0, eq_int1, eq_bl0, eq_bl1, beq_self_eq_true, Bool.not_true, Bool.not_false, add_int, add_tup, add_ref, int_, int0_, mul_int, mul_str, ord_int, FD.ix_tup, ix_fl, ix_ref, at_0, at_1, at_2, at_3, len_tup, len_fl, len_ref, max2_, min2_, tuple_tup, tuple_ref, is_, gs_, setL_, ml_, for_, rng1_, any_, lc_, FD.sl_ref, list_tup, dict0_, dn_, sortK_, val_tup, yes_, isLst_, List.set_cons_zero, List.set_cons_succ, or_, kor_t, kor_f, not_, chain_, kch_t, kch_f, ord_str, len_str, ordc_, strc_int, val_str, add_str, sl_strD, match_, cc_, kc_n, kc_s, cn_, wild_]
    refine seq_join (fun ρ G' => ρ = [some (.tup ds), none, none, none] ∧ Keep G G' ∧ ∃ w r, ds = .str w :: r ∧ PyData.strOk w = true) ?_ ?_
    · rintro _ G1 ⟨rfl, k1, w, r, rfl, hw⟩
      have hl1 : ∀ m : Nat, (((D.str w :: r).length : Int) == (m : Int)) = decide (r.length + 1 = m) := fun m => len_eq rfl
      have hl2 := hl1 2
      have hl3 := hl1 3
      have hl0 := hl1 1
      refine seq_join (fun ρ G' => (∃ o1 o2 o3, ρ = [some (.tup (.str w :: r)), o1, o2, o3]) ∧ Keep G G' ∧ (r.length = 1 → stepB (.tup (.str w :: r)) = false)) ?_ ?_
      · rintro _ G2 ⟨⟨o1, o2, o3, rfl⟩, k2, hst⟩
        try simp only [seq_, next_, ret_, drop_, ifs_, br_t, br_f, asg_, gn_, gt_, gtc_, gtn_, par_, var_0, var_s, c_, nil_, cons_, tup_, lst_, op_, bool_, kb_, tru_, tr_bl, andT_, orT_, kn_tt, kn_tf, kn_ff, kn_ft, notT_, and_, kand_t, kand_f, if_, bre_t, bre_f, call_, cb_, neg_, sl_, nopart_, part_, FD.sl_tup, eq_int0, eq_int1, eq_bl0, eq_bl1, beq_self_eq_true, Bool.not_true, Bool.not_false, add_int, add_tup, add_ref, int_, int0_, mul_int, mul_str, ord_int, FD.ix_tup, ix_fl, ix_ref, at_0, at_1, at_2, at_3, len_tup, len_fl, len_ref, max2_, min2_, tuple_tup, tuple_ref, is_, gs_, setL_, ml_, for_, rng1_, any_, lc_, FD.sl_ref, list_tup, dict0_, dn_, sortK_, val_tup, yes_, isLst_, List.set_cons_zero, List.set_cons_succ, or_, kor_t, kor_f, not_, chain_, kch_t, kch_f, ord_str, len_str, ordc_, strc_int, val_str, add_str, sl_strD, match_, cc_, kc_n, kc_s, cn_, wild_]
        refine eq_s hw (by decide +kernel) ?_
        have fin : ∀ G3, Keep G G3 → r.length ≠ 2 ∨ (w == "write") = false → dRet (dAnd (dOp (eqD false) (dCB lenD (dCons (dVar 0) dNil)) (dC (.int 1))) (dOp (eqD false) (dOp ixD (dVar 0) (dC (.int 0))) (dC (.str "stop")))) { nx := fun x G' => Q D.non G', rt := Q } [some (.tup (.str w :: r)), o1, o2, o3] G3 := by
          intro G3 k3 hr
          try simp only [seq_, next_, ret_, drop_, ifs_, br_t, br_f, asg_, gn_, gt_, gtc_, gtn_, par_, var_0, var_s, c_, nil_, cons_, tup_, lst_, op_, bool_, kb_, tru_, tr_bl, andT_, orT_, kn_tt, kn_tf, kn_ff, kn_ft, notT_, and_, kand_t, kand_f, if_, bre_t, bre_f, call_, cb_, neg_, sl_, nopart_, part_, FD.sl_tup, eq_int0, eq_int1, eq_bl0, eq_bl1, beq_self_eq_true, Bool.not_true, Bool.not_false, add_int, add_tup, add_ref, int_, int0_, mul_int, mul_str, ord_int, FD.ix_tup, ix_fl, ix_ref, at_0, at_1, at_2, at_3, len_tup, len_fl, len_ref, max2_, min2_, tuple_tup, tuple_ref, is_, gs_, setL_, ml_, for_, rng1_, any_, lc_, FD.sl_ref, list_tup, dict0_, dn_, sortK_, val_tup, yes_, isLst_, List.set_cons_zero, List.set_cons_succ, or_, kor_t, kor_f, not_, chain_, kch_t, kch_f, ord_str, len_str, ordc_, strc_int, val_str, add_str, sl_strD, match_, cc_, kc_n, kc_s, cn_, wild_]
          rw [show ((1 : Int)) = ((1 : Nat) : Int) from rfl, hl0]
          by_cases h1 : r.length + 1 = 1
          · rw [decide_eq_true h1]
            try simp only [seq_, next_, ret_, drop_, ifs_, br_t, br_f, asg_, gn_, gt_, gtc_, gtn_, par_, var_0, var_s, c_, nil_, cons_, tup_, lst_, op_, bool_, kb_, tru_, tr_bl, andT_, orT_, kn_tt, kn_tf, kn_ff, kn_ft, notT_, and_, kand_t, kand_f, if_, bre_t, bre_f, call_, cb_, neg_, sl_, nopart_, part_, FD.sl_tup, eq_int0, eq_int1, eq_bl0, eq_bl1, beq_self_eq_true, Bool.not_true, Bool.not_false, add_int, add_tup, add_ref, int_, int0_, mul_int, mul_str, ord_int, FD.ix_tup, ix_fl, ix_ref, at_0, at_1, at_2, at_3, len_tup, len_fl, len_ref, max2_, min2_, tuple_tup, tuple_ref, is_, gs_, setL_, ml_, for_, rng1_, any_, lc_, FD.sl_ref, list_tup, dict0_, dn_, sortK_, val_tup, yes_, isLst_, List.set_cons_zero, List.set_cons_succ, or_, kor_t, kor_f, not_, chain_, kch_t, kch_f, ord_str, len_str, ordc_, strc_int, val_str, add_str, sl_strD, match_, cc_, kc_n, kc_s, cn_, wild_]
            refine eq_s hw (by decide +kernel) ?_
            have : r = [] := List.eq_nil_of_length_eq_zero (by omega)
            subst this
            exact h _ k3
          · rw [decide_eq_false h1]
            try simp only [seq_, next_, ret_, drop_, ifs_, br_t, br_f, asg_, gn_, gt_, gtc_, gtn_, par_, var_0, var_s, c_, nil_, cons_, tup_, lst_, op_, bool_, kb_, tru_, tr_bl, andT_, orT_, kn_tt, kn_tf, kn_ff, kn_ft, notT_, and_, kand_t, kand_f, if_, bre_t, bre_f, call_, cb_, neg_, sl_, nopart_, part_, FD.sl_tup, eq_int0, eq_int1, eq_bl0, eq_bl1, beq_self_eq_true, Bool.not_true, Bool.not_false, add_int, add_tup, add_ref, int_, int0_, mul_int, mul_str, ord_int, FD.ix_tup, ix_fl, ix_ref, at_0, at_1, at_2, at_3, len_tup, len_fl, len_ref, max2_, min2_, tuple_tup, tuple_ref, is_, gs_, setL_, ml_, for_, rng1_, any_, lc_, FD.sl_ref, list_tup, dict0_, dn_, sortK_, val_tup, yes_, isLst_, List.set_cons_zero, List.set_cons_succ, or_, kor_t, kor_f, not_, chain_, kch_t, kch_f, ord_str, len_str, ordc_, strc_int, val_str, add_str, sl_strD, match_, cc_, kc_n, kc_s, cn_, wild_]
            have : stepB (.tup (.str w :: r)) = false := by
              match r, h1, hst, hr with
              | [x], _, hst, _ => exact hst rfl
              | [x, y], _, _, hr =>
                rcases hr with hr | hr
                · exact absurd rfl hr
                · show (w == "write" && (nameB x && textB y)) = false
                  rw [hr]; rfl
              | _ :: _ :: _ :: _, _, _, _ => rfl
            rw [this] at h
            exact h _ k3
        cases hw2 : w == "write" with
        | false =>
          try simp only [seq_, next_, ret_, drop_, ifs_, br_t, br_f, asg_, gn_, gt_, gtc_, gtn_, par_, var_0, var_s, c_, nil_, cons_, tup_, lst_, op_, bool_, kb_, tru_, tr_bl, andT_, orT_, kn_tt, kn_tf, kn_ff, kn_ft, notT_, and_, kand_t, kand_f, if_, bre_t, bre_f, call_, cb_, neg_, sl_, nopart_, part_, FD.sl_tup, eq_int0, eq_int1, eq_bl0, eq_bl1, beq_self_eq_true, Bool.not_true, Bool.not_false, add_int, add_tup, add_ref, int_, int0_, mul_int, mul_str, ord_int, FD.ix_tup, ix_fl, ix_ref, at_0, at_1, at_2, at_3, len_tup, len_fl, len_ref, max2_, min2_, tuple_tup, tuple_ref, is_, gs_, setL_, ml_, for_, rng1_, any_, lc_, FD.sl_ref, list_tup, dict0_, dn_, sortK_, val_tup, yes_, isLst_, List.set_cons_zero, List.set_cons_succ, or_, kor_t, kor_f, not_, chain_, kch_t, kch_f, ord_str, len_str, ordc_, strc_int, val_str, add_str, sl_strD, match_, cc_, kc_n, kc_s, cn_, wild_]
          have q := fin _ k2 (.inr hw2)
          try simp only [seq_, next_, ret_, drop_, ifs_, br_t, br_f, asg_, gn_, gt_, gtc_, gtn_, par_, var_0, var_s, c_, nil_, cons_, tup_, lst_, op_, bool_, kb_, tru_, tr_bl, andT_, orT_, kn_tt, kn_tf, kn_ff, kn_ft, notT_, and_, kand_t, kand_f, if_, bre_t, bre_f, call_, cb_, neg_, sl_, nopart_, part_, FD.sl_tup, eq_int0, eq_int1, eq_bl0, eq_bl1, beq_self_eq_true, Bool.not_true, Bool.not_false, add_int, add_tup, add_ref, int_, int0_, mul_int, mul_str, ord_int, FD.ix_tup, ix_fl, ix_ref, at_0, at_1, at_2, at_3, len_tup, len_fl, len_ref, max2_, min2_, tuple_tup, tuple_ref, is_, gs_, setL_, ml_, for_, rng1_, any_, lc_, FD.sl_ref, list_tup, dict0_, dn_, sortK_, val_tup, yes_, isLst_, List.set_cons_zero, List.set_cons_succ, or_, kor_t, kor_f, not_, chain_, kch_t, kch_f, ord_str, len_str, ordc_, strc_int, val_str, add_str, sl_strD, match_, cc_, kc_n, kc_s, cn_, wild_] at q
          exact q
        | true =>
          try simp only [seq_, next_, ret_, drop_, ifs_, br_t, br_f, asg_, gn_, gt_, gtc_, gtn_, par_, var_0, var_s, c_, nil_, cons_, tup_, lst_, op_, bool_, kb_, tru_, tr_bl, andT_, orT_, kn_tt, kn_tf, kn_ff, kn_ft, notT_, and_, kand_t, kand_f, if_, bre_t, bre_f, call_, cb_, neg_, sl_, nopart_, part_, FD.sl_tup, eq_int0, eq_int1, eq_bl0, eq_bl1, beq_self_eq_true, Bool.not_true, Bool.not_false, add_int, add_tup, add_ref, int_, int0_, mul_int, mul_str, ord_int, FD.ix_tup, ix_fl, ix_ref, at_0, at_1, at_2, at_3, len_tup, len_fl, len_ref, max2_, min2_, tuple_tup, tuple_ref, is_, gs_, setL_, ml_, for_, rng1_, any_, lc_, FD.sl_ref, list_tup, dict0_, dn_, sortK_, val_tup, yes_, isLst_, List.set_cons_zero, List.set_cons_succ, or_, kor_t, kor_f, not_, chain_, kch_t, kch_f, ord_str, len_str, ordc_, strc_int, val_str, add_str, sl_strD, match_, cc_, kc_n, kc_s, cn_, wild_]
          rw [show ((3 : Int)) = ((3 : Nat) : Int) from rfl, hl3]
          by_cases h3 : r.length + 1 = 3
          · rw [decide_eq_true h3]
            obtain ⟨x, y, rfl⟩ := len_two (ds := r) (by omega)
            have hx := hit x (by simp)
            have hy := hit y (by simp)
            have h' : ∀ G', Keep G G' → Q (.bl (nameB x && textB y)) G' := fun G' q => by
              have := h G' q
              have e : stepB (.tup [.str w, x, y]) = (nameB x && textB y) := by
                show (w == "write" && (nameB x && textB y)) = _
                rw [hw2]; rfl
              rwa [e] at this
            try simp only [seq_, next_, ret_, drop_, ifs_, br_t, br_f, asg_, gn_, gt_, gtc_, gtn_, par_, var_0, var_s, c_, nil_, cons_, tup_, lst_, op_, bool_, kb_, tru_, tr_bl, andT_, orT_, kn_tt, kn_tf, kn_ff, kn_ft, notT_, and_, kand_t, kand_f, if_, bre_t, bre_f, call_, cb_, neg_, sl_, nopart_, part_, FD.sl_tup, eq_int0, eq_int1, eq_bl0, eq_bl1, beq_self_eq_true, Bool.not_true, Bool.not_false, add_int, add_tup, add_ref, int_, int0_, mul_int, mul_str, ord_int, FD.ix_tup, ix_fl, ix_ref, at_0, at_1, at_2, at_3, len_tup, len_fl, len_ref, max2_, min2_, tuple_tup, tuple_ref, is_, gs_, setL_, ml_, for_, rng1_, any_, lc_, FD.sl_ref, list_tup, dict0_, dn_, sortK_, val_tup, yes_, isLst_, List.set_cons_zero, List.set_cons_succ, or_, kor_t, kor_f, not_, chain_, kch_t, kch_f, ord_str, len_str, ordc_, strc_int, val_str, add_str, sl_strD, match_, cc_, kc_n, kc_s, cn_, wild_]
            refine l_is_name_spec hx fun G3 k3 => ?_
            try simp only [seq_, next_, ret_, drop_, ifs_, br_t, br_f, asg_, gn_, gt_, gtc_, gtn_, par_, var_0, var_s, c_, nil_, cons_, tup_, lst_, op_, bool_, kb_, tru_, tr_bl, andT_, orT_, kn_tt, kn_tf, kn_ff, kn_ft, notT_, and_, kand_t, kand_f, if_, bre_t, bre_f, call_, cb_, neg_, sl_, nopart_, part_, FD.sl_tup, eq_int0, eq_int1, eq_bl0, eq_bl1, beq_self_eq_true, Bool.not_true, Bool.not_false, add_int, add_tup, add_ref, int_, int0_, mul_int, mul_str, ord_int, FD.ix_tup, ix_fl, ix_ref, at_0, at_1, at_2, at_3, len_tup, len_fl, len_ref, max2_, min2_, tuple_tup, tuple_ref, is_, gs_, setL_, ml_, for_, rng1_, any_, lc_, FD.sl_ref, list_tup, dict0_, dn_, sortK_, val_tup, yes_, isLst_, List.set_cons_zero, List.set_cons_succ, or_, kor_t, kor_f, not_, chain_, kch_t, kch_f, ord_str, len_str, ordc_, strc_int, val_str, add_str, sl_strD, match_, cc_, kc_n, kc_s, cn_, wild_]
            cases e : nameB x with
            | false =>
              rw [e] at h'
              try simp only [seq_, next_, ret_, drop_, ifs_, br_t, br_f, asg_, gn_, gt_, gtc_, gtn_, par_, var_0, var_s, c_, nil_, cons_, tup_, lst_, op_, bool_, kb_, tru_, tr_bl, andT_, orT_, kn_tt, kn_tf, kn_ff, kn_ft, notT_, and_, kand_t, kand_f, if_, bre_t, bre_f, call_, cb_, neg_, sl_, nopart_, part_, FD.sl_tup, eq_int0, eq_int1, eq_bl0, eq_bl1, beq_self_eq_true, Bool.not_true, Bool.not_false, add_int, add_tup, add_ref, int_, int0_, mul_int, mul_str, ord_int, FD.ix_tup, ix_fl, ix_ref, at_0, at_1, at_2, at_3, len_tup, len_fl, len_ref, max2_, min2_, tuple_tup, tuple_ref, is_, gs_, setL_, ml_, for_, rng1_, any_, lc_, FD.sl_ref, list_tup, dict0_, dn_, sortK_, val_tup, yes_, isLst_, List.set_cons_zero, List.set_cons_succ, or_, kor_t, kor_f, not_, chain_, kch_t, kch_f, ord_str, len_str, ordc_, strc_int, val_str, add_str, sl_strD, match_, cc_, kc_n, kc_s, cn_, wild_]
              exact h' _ (k2.trans k3)
            | true =>
              rw [e] at h'
              try simp only [seq_, next_, ret_, drop_, ifs_, br_t, br_f, asg_, gn_, gt_, gtc_, gtn_, par_, var_0, var_s, c_, nil_, cons_, tup_, lst_, op_, bool_, kb_, tru_, tr_bl, andT_, orT_, kn_tt, kn_tf, kn_ff, kn_ft, notT_, and_, kand_t, kand_f, if_, bre_t, bre_f, call_, cb_, neg_, sl_, nopart_, part_, FD.sl_tup, eq_int0, eq_int1, eq_bl0, eq_bl1, beq_self_eq_true, Bool.not_true, Bool.not_false, add_int, add_tup, add_ref, int_, int0_, mul_int, mul_str, ord_int, FD.ix_tup, ix_fl, ix_ref, at_0, at_1, at_2, at_3, len_tup, len_fl, len_ref, max2_, min2_, tuple_tup, tuple_ref, is_, gs_, setL_, ml_, for_, rng1_, any_, lc_, FD.sl_ref, list_tup, dict0_, dn_, sortK_, val_tup, yes_, isLst_, List.set_cons_zero, List.set_cons_succ, or_, kor_t, kor_f, not_, chain_, kch_t, kch_f, ord_str, len_str, ordc_, strc_int, val_str, add_str, sl_strD, match_, cc_, kc_n, kc_s, cn_, wild_]
              exact l_is_text_spec hy fun G4 k4 => h' _ (k2.trans (k3.trans k4))
          · rw [decide_eq_false h3]
            try simp only [seq_, next_, ret_, drop_, ifs_, br_t, br_f, asg_, gn_, gt_, gtc_, gtn_, par_, var_0, var_s, c_, nil_, cons_, tup_, lst_, op_, bool_, kb_, tru_, tr_bl, andT_, orT_, kn_tt, kn_tf, kn_ff, kn_ft, notT_, and_, kand_t, kand_f, if_, bre_t, bre_f, call_, cb_, neg_, sl_, nopart_, part_, FD.sl_tup, eq_int0, eq_int1, eq_bl0, eq_bl1, beq_self_eq_true, Bool.not_true, Bool.not_false, add_int, add_tup, add_ref, int_, int0_, mul_int, mul_str, ord_int, FD.ix_tup, ix_fl, ix_ref, at_0, at_1, at_2, at_3, len_tup, len_fl, len_ref, max2_, min2_, tuple_tup, tuple_ref, is_, gs_, setL_, ml_, for_, rng1_, any_, lc_, FD.sl_ref, list_tup, dict0_, dn_, sortK_, val_tup, yes_, isLst_, List.set_cons_zero, List.set_cons_succ, or_, kor_t, kor_f, not_, chain_, kch_t, kch_f, ord_str, len_str, ordc_, strc_int, val_str, add_str, sl_strD, match_, cc_, kc_n, kc_s, cn_, wild_]
            have q := fin _ k2 (.inl (by omega))
            try simp only [seq_, next_, ret_, drop_, ifs_, br_t, br_f, asg_, gn_, gt_, gtc_, gtn_, par_, var_0, var_s, c_, nil_, cons_, tup_, lst_, op_, bool_, kb_, tru_, tr_bl, andT_, orT_, kn_tt, kn_tf, kn_ff, kn_ft, notT_, and_, kand_t, kand_f, if_, bre_t, bre_f, call_, cb_, neg_, sl_, nopart_, part_, FD.sl_tup, eq_int0, eq_int1, eq_bl0, eq_bl1, beq_self_eq_true, Bool.not_true, Bool.not_false, add_int, add_tup, add_ref, int_, int0_, mul_int, mul_str, ord_int, FD.ix_tup, ix_fl, ix_ref, at_0, at_1, at_2, at_3, len_tup, len_fl, len_ref, max2_, min2_, tuple_tup, tuple_ref, is_, gs_, setL_, ml_, for_, rng1_, any_, lc_, FD.sl_ref, list_tup, dict0_, dn_, sortK_, val_tup, yes_, isLst_, List.set_cons_zero, List.set_cons_succ, or_, kor_t, kor_f, not_, chain_, kch_t, kch_f, ord_str, len_str, ordc_, strc_int, val_str, add_str, sl_strD, match_, cc_, kc_n, kc_s, cn_, wild_] at q
            exact q
      · intro X kx
        try simp only [seq_, next_, ret_, drop_, ifs_, br_t, br_f, asg_, gn_, gt_, gtc_, gtn_, par_, var_0, var_s, c_, nil_, cons_, tup_, lst_, op_, bool_, kb_, tru_, tr_bl, andT_, orT_, kn_tt, kn_tf, kn_ff, kn_ft, notT_, and_, kand_t, kand_f, if_, bre_t, bre_f, call_, cb_, neg_, sl_, nopart_, part_, FD.sl_tup, eq_int0, eq_int1, eq_bl0, eq_bl1, beq_self_eq_true, Bool.not_true, Bool.not_false, add_int, add_tup, add_ref, int_, int0_, mul_int, mul_str, ord_int, FD.ix_tup, ix_fl, ix_ref, at_0, at_1, at_2, at_3, len_tup, len_fl, len_ref, max2_, min2_, tuple_tup, tuple_ref, is_, gs_, setL_, ml_, for_, rng1_, any_, lc_, FD.sl_ref, list_tup, dict0_, dn_, sortK_, val_tup, yes_, isLst_, List.set_cons_zero, List.set_cons_succ, or_, kor_t, kor_f, not_, chain_, kch_t, kch_f, ord_str, len_str, ordc_, strc_int, val_str, add_str, sl_strD, match_, cc_, kc_n, kc_s, cn_, wild_]
        refine eq_s hw (by decide +kernel) ?_
        cases hw2 : w == "read" with
        | false =>
          try simp only [seq_, next_, ret_, drop_, ifs_, br_t, br_f, asg_, gn_, gt_, gtc_, gtn_, par_, var_0, var_s, c_, nil_, cons_, tup_, lst_, op_, bool_, kb_, tru_, tr_bl, andT_, orT_, kn_tt, kn_tf, kn_ff, kn_ft, notT_, and_, kand_t, kand_f, if_, bre_t, bre_f, call_, cb_, neg_, sl_, nopart_, part_, FD.sl_tup, eq_int0, eq_int1, eq_bl0, eq_bl1, beq_self_eq_true, Bool.not_true, Bool.not_false, add_int, add_tup, add_ref, int_, int0_, mul_int, mul_str, ord_int, FD.ix_tup, ix_fl, ix_ref, at_0, at_1, at_2, at_3, len_tup, len_fl, len_ref, max2_, min2_, tuple_tup, tuple_ref, is_, gs_, setL_, ml_, for_, rng1_, any_, lc_, FD.sl_ref, list_tup, dict0_, dn_, sortK_, val_tup, yes_, isLst_, List.set_cons_zero, List.set_cons_succ, or_, kor_t, kor_f, not_, chain_, kch_t, kch_f, ord_str, len_str, ordc_, strc_int, val_str, add_str, sl_strD, match_, cc_, kc_n, kc_s, cn_, wild_]
          refine kx _ _ ⟨⟨_, _, _, rfl⟩, k1, fun h1 => ?_⟩
          match r, h1 with
          | [x], _ =>
            show (w == "read" && keysB x) = false
            rw [hw2]; rfl
        | true =>
          try simp only [seq_, next_, ret_, drop_, ifs_, br_t, br_f, asg_, gn_, gt_, gtc_, gtn_, par_, var_0, var_s, c_, nil_, cons_, tup_, lst_, op_, bool_, kb_, tru_, tr_bl, andT_, orT_, kn_tt, kn_tf, kn_ff, kn_ft, notT_, and_, kand_t, kand_f, if_, bre_t, bre_f, call_, cb_, neg_, sl_, nopart_, part_, FD.sl_tup, eq_int0, eq_int1, eq_bl0, eq_bl1, beq_self_eq_true, Bool.not_true, Bool.not_false, add_int, add_tup, add_ref, int_, int0_, mul_int, mul_str, ord_int, FD.ix_tup, ix_fl, ix_ref, at_0, at_1, at_2, at_3, len_tup, len_fl, len_ref, max2_, min2_, tuple_tup, tuple_ref, is_, gs_, setL_, ml_, for_, rng1_, any_, lc_, FD.sl_ref, list_tup, dict0_, dn_, sortK_, val_tup, yes_, isLst_, List.set_cons_zero, List.set_cons_succ, or_, kor_t, kor_f, not_, chain_, kch_t, kch_f, ord_str, len_str, ordc_, strc_int, val_str, add_str, sl_strD, match_, cc_, kc_n, kc_s, cn_, wild_]
          rw [show ((2 : Int)) = ((2 : Nat) : Int) from rfl, hl2]
          by_cases h2 : r.length + 1 = 2
          · rw [decide_eq_true h2]
            match r, h2, hit, hv with
            | [x], _, hit, hv =>
            have hx := hit x (by simp)
            have es : stepB (.tup [.str w, x]) = keysB x := by
              show (w == "read" && keysB x) = keysB x
              rw [hw2]; rfl
            try simp only [seq_, next_, ret_, drop_, ifs_, br_t, br_f, asg_, gn_, gt_, gtc_, gtn_, par_, var_0, var_s, c_, nil_, cons_, tup_, lst_, op_, bool_, kb_, tru_, tr_bl, andT_, orT_, kn_tt, kn_tf, kn_ff, kn_ft, notT_, and_, kand_t, kand_f, if_, bre_t, bre_f, call_, cb_, neg_, sl_, nopart_, part_, FD.sl_tup, eq_int0, eq_int1, eq_bl0, eq_bl1, beq_self_eq_true, Bool.not_true, Bool.not_false, add_int, add_tup, add_ref, int_, int0_, mul_int, mul_str, ord_int, FD.ix_tup, ix_fl, ix_ref, at_0, at_1, at_2, at_3, len_tup, len_fl, len_ref, max2_, min2_, tuple_tup, tuple_ref, is_, gs_, setL_, ml_, for_, rng1_, any_, lc_, FD.sl_ref, list_tup, dict0_, dn_, sortK_, val_tup, yes_, isLst_, List.set_cons_zero, List.set_cons_succ, or_, kor_t, kor_f, not_, chain_, kch_t, kch_f, ord_str, len_str, ordc_, strc_int, val_str, add_str, sl_strD, match_, cc_, kc_n, kc_s, cn_, wild_]
            rcases hx.nt with ⟨ks, rfl⟩ | ⟨hn, a, ha, hi⟩
            · rw [es, keys_tup] at h
              obtain ⟨hkl, hki⟩ := hx.items
              try simp only [seq_, next_, ret_, drop_, ifs_, br_t, br_f, asg_, gn_, gt_, gtc_, gtn_, par_, var_0, var_s, c_, nil_, cons_, tup_, lst_, op_, bool_, kb_, tru_, tr_bl, andT_, orT_, kn_tt, kn_tf, kn_ff, kn_ft, notT_, and_, kand_t, kand_f, if_, bre_t, bre_f, call_, cb_, neg_, sl_, nopart_, part_, FD.sl_tup, eq_int0, eq_int1, eq_bl0, eq_bl1, beq_self_eq_true, Bool.not_true, Bool.not_false, add_int, add_tup, add_ref, int_, int0_, mul_int, mul_str, ord_int, FD.ix_tup, ix_fl, ix_ref, at_0, at_1, at_2, at_3, len_tup, len_fl, len_ref, max2_, min2_, tuple_tup, tuple_ref, is_, gs_, setL_, ml_, for_, rng1_, any_, lc_, FD.sl_ref, list_tup, dict0_, dn_, sortK_, val_tup, yes_, isLst_, List.set_cons_zero, List.set_cons_succ, or_, kor_t, kor_f, not_, chain_, kch_t, kch_f, ord_str, len_str, ordc_, strc_int, val_str, add_str, sl_strD, match_, cc_, kc_n, kc_s, cn_, wild_, isi_ty (show tyD G1 (.tup ks) = some .tuple from rfl) ty_tuple, show Ty.isa .tuple .tuple = true from rfl]
              by_cases h0 : 0 < ks.length
              · rw [decide_eq_true h0] at h
                rw [decide_eq_true (by omega : (0 : Int) < ks.length)]
                try simp only [seq_, next_, ret_, drop_, ifs_, br_t, br_f, asg_, gn_, gt_, gtc_, gtn_, par_, var_0, var_s, c_, nil_, cons_, tup_, lst_, op_, bool_, kb_, tru_, tr_bl, andT_, orT_, kn_tt, kn_tf, kn_ff, kn_ft, notT_, and_, kand_t, kand_f, if_, bre_t, bre_f, call_, cb_, neg_, sl_, nopart_, part_, FD.sl_tup, eq_int0, eq_int1, eq_bl0, eq_bl1, beq_self_eq_true, Bool.not_true, Bool.not_false, add_int, add_tup, add_ref, int_, int0_, mul_int, mul_str, ord_int, FD.ix_tup, ix_fl, ix_ref, at_0, at_1, at_2, at_3, len_tup, len_fl, len_ref, max2_, min2_, tuple_tup, tuple_ref, is_, gs_, setL_, ml_, for_, rng1_, any_, lc_, FD.sl_ref, list_tup, dict0_, dn_, sortK_, val_tup, yes_, isLst_, List.set_cons_zero, List.set_cons_succ, or_, kor_t, kor_f, not_, chain_, kch_t, kch_f, ord_str, len_str, ordc_, strc_int, val_str, add_str, sl_strD, match_, cc_, kc_n, kc_s, cn_, wild_]
                by_cases h4 : ks.length ≤ 4
                · rw [decide_eq_true h4] at h
                  rw [decide_eq_true (by omega : (ks.length : Int) < 5)]
                  try simp only [seq_, next_, ret_, drop_, ifs_, br_t, br_f, asg_, gn_, gt_, gtc_, gtn_, par_, var_0, var_s, c_, nil_, cons_, tup_, lst_, op_, bool_, kb_, tru_, tr_bl, andT_, orT_, kn_tt, kn_tf, kn_ff, kn_ft, notT_, and_, kand_t, kand_f, if_, bre_t, bre_f, call_, cb_, neg_, sl_, nopart_, part_, FD.sl_tup, eq_int0, eq_int1, eq_bl0, eq_bl1, beq_self_eq_true, Bool.not_true, Bool.not_false, add_int, add_tup, add_ref, int_, int0_, mul_int, mul_str, ord_int, FD.ix_tup, ix_fl, ix_ref, at_0, at_1, at_2, at_3, len_tup, len_fl, len_ref, max2_, min2_, tuple_tup, tuple_ref, is_, gs_, setL_, ml_, for_, rng1_, any_, lc_, FD.sl_ref, list_tup, dict0_, dn_, sortK_, val_tup, yes_, isLst_, List.set_cons_zero, List.set_cons_succ, or_, kor_t, kor_f, not_, chain_, kch_t, kch_f, ord_str, len_str, ordc_, strc_int, val_str, add_str, sl_strD, match_, cc_, kc_n, kc_s, cn_, wild_]
                  refine lcBad (p := keyB) (by simp [wipeD]) (fun d hd {G Q} q => l_is_key_spec (hki d hd) q) (by simp only [sizeLine]; omega) fun p G2 e2 k2 => ?_
                  try simp only [seq_, next_, ret_, drop_, ifs_, br_t, br_f, asg_, gn_, gt_, gtc_, gtn_, par_, var_0, var_s, c_, nil_, cons_, tup_, lst_, op_, bool_, kb_, tru_, tr_bl, andT_, orT_, kn_tt, kn_tf, kn_ff, kn_ft, notT_, and_, kand_t, kand_f, if_, bre_t, bre_f, call_, cb_, neg_, sl_, nopart_, part_, FD.sl_tup, eq_int0, eq_int1, eq_bl0, eq_bl1, beq_self_eq_true, Bool.not_true, Bool.not_false, add_int, add_tup, add_ref, int_, int0_, mul_int, mul_str, ord_int, FD.ix_tup, ix_fl, ix_ref, at_0, at_1, at_2, at_3, len_tup, len_fl, len_ref, max2_, min2_, tuple_tup, tuple_ref, is_, gs_, setL_, ml_, for_, rng1_, any_, lc_, FD.sl_ref, list_tup, dict0_, dn_, sortK_, val_tup, yes_, isLst_, List.set_cons_zero, List.set_cons_succ, or_, kor_t, kor_f, not_, chain_, kch_t, kch_f, ord_str, len_str, ordc_, strc_int, val_str, add_str, sl_strD, match_, cc_, kc_n, kc_s, cn_, wild_]
                  repeat (with_reducible refine And.intro (by first | rfl | omega | (simp only [sizeLine, List.length_cons, List.length_nil, List.length_append] <;> omega)) ?_)
                  refine new_ fun q G3 _ e3 k3 => ?_
                  refine some_bad (k3 _ _ e2) e3 ?_
                  have kk := k1.trans (k2.trans k3)
                  try simp only [seq_, next_, ret_, drop_, ifs_, br_t, br_f, asg_, gn_, gt_, gtc_, gtn_, par_, var_0, var_s, c_, nil_, cons_, tup_, lst_, op_, bool_, kb_, tru_, tr_bl, andT_, orT_, kn_tt, kn_tf, kn_ff, kn_ft, notT_, and_, kand_t, kand_f, if_, bre_t, bre_f, call_, cb_, neg_, sl_, nopart_, part_, FD.sl_tup, eq_int0, eq_int1, eq_bl0, eq_bl1, beq_self_eq_true, Bool.not_true, Bool.not_false, add_int, add_tup, add_ref, int_, int0_, mul_int, mul_str, ord_int, FD.ix_tup, ix_fl, ix_ref, at_0, at_1, at_2, at_3, len_tup, len_fl, len_ref, max2_, min2_, tuple_tup, tuple_ref, is_, gs_, setL_, ml_, for_, rng1_, any_, lc_, FD.sl_ref, list_tup, dict0_, dn_, sortK_, val_tup, yes_, isLst_, List.set_cons_zero, List.set_cons_succ, or_, kor_t, kor_f, not_, chain_, kch_t, kch_f, ord_str, len_str, ordc_, strc_int, val_str, add_str, sl_strD, match_, cc_, kc_n, kc_s, cn_, wild_]
                  cases ek : ks.all keyB with
                  | false =>
                    rw [ek] at h
                    try simp only [seq_, next_, ret_, drop_, ifs_, br_t, br_f, asg_, gn_, gt_, gtc_, gtn_, par_, var_0, var_s, c_, nil_, cons_, tup_, lst_, op_, bool_, kb_, tru_, tr_bl, andT_, orT_, kn_tt, kn_tf, kn_ff, kn_ft, notT_, and_, kand_t, kand_f, if_, bre_t, bre_f, call_, cb_, neg_, sl_, nopart_, part_, FD.sl_tup, eq_int0, eq_int1, eq_bl0, eq_bl1, beq_self_eq_true, Bool.not_true, Bool.not_false, add_int, add_tup, add_ref, int_, int0_, mul_int, mul_str, ord_int, FD.ix_tup, ix_fl, ix_ref, at_0, at_1, at_2, at_3, len_tup, len_fl, len_ref, max2_, min2_, tuple_tup, tuple_ref, is_, gs_, setL_, ml_, for_, rng1_, any_, lc_, FD.sl_ref, list_tup, dict0_, dn_, sortK_, val_tup, yes_, isLst_, List.set_cons_zero, List.set_cons_succ, or_, kor_t, kor_f, not_, chain_, kch_t, kch_f, ord_str, len_str, ordc_, strc_int, val_str, add_str, sl_strD, match_, cc_, kc_n, kc_s, cn_, wild_]
                    exact h _ kk
                  | true =>
                    rw [ek] at h
                    try simp only [seq_, next_, ret_, drop_, ifs_, br_t, br_f, asg_, gn_, gt_, gtc_, gtn_, par_, var_0, var_s, c_, nil_, cons_, tup_, lst_, op_, bool_, kb_, tru_, tr_bl, andT_, orT_, kn_tt, kn_tf, kn_ff, kn_ft, notT_, and_, kand_t, kand_f, if_, bre_t, bre_f, call_, cb_, neg_, sl_, nopart_, part_, FD.sl_tup, eq_int0, eq_int1, eq_bl0, eq_bl1, beq_self_eq_true, Bool.not_true, Bool.not_false, add_int, add_tup, add_ref, int_, int0_, mul_int, mul_str, ord_int, FD.ix_tup, ix_fl, ix_ref, at_0, at_1, at_2, at_3, len_tup, len_fl, len_ref, max2_, min2_, tuple_tup, tuple_ref, is_, gs_, setL_, ml_, for_, rng1_, any_, lc_, FD.sl_ref, list_tup, dict0_, dn_, sortK_, val_tup, yes_, isLst_, List.set_cons_zero, List.set_cons_succ, or_, kor_t, kor_f, not_, chain_, kch_t, kch_f, ord_str, len_str, ordc_, strc_int, val_str, add_str, sl_strD, match_, cc_, kc_n, kc_s, cn_, wild_]
                    refine ⟨⟨by omega, by omega⟩, ?_⟩
                    rw [show ((ks.length : Int)).toNat = ks.length by omega]
                    refine dup_spec hx hb hk ek rfl (by simp [wipeD]) fun p2 G4 e4 k4 => ?_
                    try simp only [seq_, next_, ret_, drop_, ifs_, br_t, br_f, asg_, gn_, gt_, gtc_, gtn_, par_, var_0, var_s, c_, nil_, cons_, tup_, lst_, op_, bool_, kb_, tru_, tr_bl, andT_, orT_, kn_tt, kn_tf, kn_ff, kn_ft, notT_, and_, kand_t, kand_f, if_, bre_t, bre_f, call_, cb_, neg_, sl_, nopart_, part_, FD.sl_tup, eq_int0, eq_int1, eq_bl0, eq_bl1, beq_self_eq_true, Bool.not_true, Bool.not_false, add_int, add_tup, add_ref, int_, int0_, mul_int, mul_str, ord_int, FD.ix_tup, ix_fl, ix_ref, at_0, at_1, at_2, at_3, len_tup, len_fl, len_ref, max2_, min2_, tuple_tup, tuple_ref, is_, gs_, setL_, ml_, for_, rng1_, any_, lc_, FD.sl_ref, list_tup, dict0_, dn_, sortK_, val_tup, yes_, isLst_, List.set_cons_zero, List.set_cons_succ, or_, kor_t, kor_f, not_, chain_, kch_t, kch_f, ord_str, len_str, ordc_, strc_int, val_str, add_str, sl_strD, match_, cc_, kc_n, kc_s, cn_, wild_]
                    repeat (with_reducible refine And.intro (by first | rfl | omega | (simp only [sizeLine, List.length_cons, List.length_nil, List.length_append] <;> omega)) ?_)
                    refine new_ fun q5 G5 _ e5 k5 => ?_
                    refine none_bad (p := fun d => !dupAt ks d) (k5 _ _ e4) e5 ?_
                    rw [dup_all]
                    exact h _ (kk.trans (k4.trans k5))
                · rw [decide_eq_false h4] at h
                  rw [decide_eq_false (by omega : ¬ (ks.length : Int) < 5)]
                  try simp only [seq_, next_, ret_, drop_, ifs_, br_t, br_f, asg_, gn_, gt_, gtc_, gtn_, par_, var_0, var_s, c_, nil_, cons_, tup_, lst_, op_, bool_, kb_, tru_, tr_bl, andT_, orT_, kn_tt, kn_tf, kn_ff, kn_ft, notT_, and_, kand_t, kand_f, if_, bre_t, bre_f, call_, cb_, neg_, sl_, nopart_, part_, FD.sl_tup, eq_int0, eq_int1, eq_bl0, eq_bl1, beq_self_eq_true, Bool.not_true, Bool.not_false, add_int, add_tup, add_ref, int_, int0_, mul_int, mul_str, ord_int, FD.ix_tup, ix_fl, ix_ref, at_0, at_1, at_2, at_3, len_tup, len_fl, len_ref, max2_, min2_, tuple_tup, tuple_ref, is_, gs_, setL_, ml_, for_, rng1_, any_, lc_, FD.sl_ref, list_tup, dict0_, dn_, sortK_, val_tup, yes_, isLst_, List.set_cons_zero, List.set_cons_succ, or_, kor_t, kor_f, not_, chain_, kch_t, kch_f, ord_str, len_str, ordc_, strc_int, val_str, add_str, sl_strD, match_, cc_, kc_n, kc_s, cn_, wild_]
                  exact h _ k1
              · rw [decide_eq_false h0] at h
                rw [decide_eq_false (by omega : ¬ (0 : Int) < ks.length)]
                try simp only [seq_, next_, ret_, drop_, ifs_, br_t, br_f, asg_, gn_, gt_, gtc_, gtn_, par_, var_0, var_s, c_, nil_, cons_, tup_, lst_, op_, bool_, kb_, tru_, tr_bl, andT_, orT_, kn_tt, kn_tf, kn_ff, kn_ft, notT_, and_, kand_t, kand_f, if_, bre_t, bre_f, call_, cb_, neg_, sl_, nopart_, part_, FD.sl_tup, eq_int0, eq_int1, eq_bl0, eq_bl1, beq_self_eq_true, Bool.not_true, Bool.not_false, add_int, add_tup, add_ref, int_, int0_, mul_int, mul_str, ord_int, FD.ix_tup, ix_fl, ix_ref, at_0, at_1, at_2, at_3, len_tup, len_fl, len_ref, max2_, min2_, tuple_tup, tuple_ref, is_, gs_, setL_, ml_, for_, rng1_, any_, lc_, FD.sl_ref, list_tup, dict0_, dn_, sortK_, val_tup, yes_, isLst_, List.set_cons_zero, List.set_cons_succ, or_, kor_t, kor_f, not_, chain_, kch_t, kch_f, ord_str, len_str, ordc_, strc_int, val_str, add_str, sl_strD, match_, cc_, kc_n, kc_s, cn_, wild_]
                exact h _ k1
            · try simp only [seq_, next_, ret_, drop_, ifs_, br_t, br_f, asg_, gn_, gt_, gtc_, gtn_, par_, var_0, var_s, c_, nil_, cons_, tup_, lst_, op_, bool_, kb_, tru_, tr_bl, andT_, orT_, kn_tt, kn_tf, kn_ff, kn_ft, notT_, and_, kand_t, kand_f, if_, bre_t, bre_f, call_, cb_, neg_, sl_, nopart_, part_, FD.sl_tup, eq_int0, eq_int1, eq_bl0, eq_bl1, beq_self_eq_true, Bool.not_true, Bool.not_false, add_int, add_tup, add_ref, int_, int0_, mul_int, mul_str, ord_int, FD.ix_tup, ix_fl, ix_ref, at_0, at_1, at_2, at_3, len_tup, len_fl, len_ref, max2_, min2_, tuple_tup, tuple_ref, is_, gs_, setL_, ml_, for_, rng1_, any_, lc_, FD.sl_ref, list_tup, dict0_, dn_, sortK_, val_tup, yes_, isLst_, List.set_cons_zero, List.set_cons_succ, or_, kor_t, kor_f, not_, chain_, kch_t, kch_f, ord_str, len_str, ordc_, strc_int, val_str, add_str, sl_strD, match_, cc_, kc_n, kc_s, cn_, wild_, isi_ty (ha _) ty_tuple, hi]
              exact kx _ _ ⟨⟨_, _, _, rfl⟩, k1, fun _ => by rw [es, keys_no hn]⟩
          · rw [decide_eq_false h2]
            try simp only [seq_, next_, ret_, drop_, ifs_, br_t, br_f, asg_, gn_, gt_, gtc_, gtn_, par_, var_0, var_s, c_, nil_, cons_, tup_, lst_, op_, bool_, kb_, tru_, tr_bl, andT_, orT_, kn_tt, kn_tf, kn_ff, kn_ft, notT_, and_, kand_t, kand_f, if_, bre_t, bre_f, call_, cb_, neg_, sl_, nopart_, part_, FD.sl_tup, eq_int0, eq_int1, eq_bl0, eq_bl1, beq_self_eq_true, Bool.not_true, Bool.not_false, add_int, add_tup, add_ref, int_, int0_, mul_int, mul_str, ord_int, FD.ix_tup, ix_fl, ix_ref, at_0, at_1, at_2, at_3, len_tup, len_fl, len_ref, max2_, min2_, tuple_tup, tuple_ref, is_, gs_, setL_, ml_, for_, rng1_, any_, lc_, FD.sl_ref, list_tup, dict0_, dn_, sortK_, val_tup, yes_, isLst_, List.set_cons_zero, List.set_cons_succ, or_, kor_t, kor_f, not_, chain_, kch_t, kch_f, ord_str, len_str, ordc_, strc_int, val_str, add_str, sl_strD, match_, cc_, kc_n, kc_s, cn_, wild_]
            exact kx _ _ ⟨⟨_, _, _, rfl⟩, k1, fun h1 => by omega⟩
    · intro X kx
      try simp only [seq_, next_, ret_, drop_, ifs_, br_t, br_f, asg_, gn_, gt_, gtc_, gtn_, par_, var_0, var_s, c_, nil_, cons_, tup_, lst_, op_, bool_, kb_, tru_, tr_bl, andT_, orT_, kn_tt, kn_tf, kn_ff, kn_ft, notT_, and_, kand_t, kand_f, if_, bre_t, bre_f, call_, cb_, neg_, sl_, nopart_, part_, FD.sl_tup, eq_int0, eq_int1, eq_bl0, eq_bl1, beq_self_eq_true, Bool.not_true, Bool.not_false, add_int, add_tup, add_ref, int_, int0_, mul_int, mul_str, ord_int, FD.ix_tup, ix_fl, ix_ref, at_0, at_1, at_2, at_3, len_tup, len_fl, len_ref, max2_, min2_, tuple_tup, tuple_ref, is_, gs_, setL_, ml_, for_, rng1_, any_, lc_, FD.sl_ref, list_tup, dict0_, dn_, sortK_, val_tup, yes_, isLst_, List.set_cons_zero, List.set_cons_succ, or_, kor_t, kor_f, not_, chain_, kch_t, kch_f, ord_str, len_str, ordc_, strc_int, val_str, add_str, sl_strD, match_, cc_, kc_n, kc_s, cn_, wild_, isi_ty (show tyD G (.tup ds) = some .tuple from rfl) ty_tuple, show Ty.isa .tuple .tuple = true from rfl]
      repeat (with_reducible refine And.intro (by first | rfl | omega | (simp only [sizeLine, List.length_cons, List.length_nil, List.length_append] <;> omega)) ?_)
      refine eq_pl0 (k := k) (m := 1) (hv.pl (by simp only [sizeLine]; omega)) (pl_tup.mpr ⟨Nat.zero_le _, fun _ h => nomatch h⟩) (by omega) (by decide) ?_
      cases ds with
      | nil =>
        rw [show PyData.eqv (toPy (.tup [])) (toPy (.tup [])) = true from by rw [toPy, toPys, PyData.eqv, PyData.eqvAll]]
        try simp only [seq_, next_, ret_, drop_, ifs_, br_t, br_f, asg_, gn_, gt_, gtc_, gtn_, par_, var_0, var_s, c_, nil_, cons_, tup_, lst_, op_, bool_, kb_, tru_, tr_bl, andT_, orT_, kn_tt, kn_tf, kn_ff, kn_ft, notT_, and_, kand_t, kand_f, if_, bre_t, bre_f, call_, cb_, neg_, sl_, nopart_, part_, FD.sl_tup, eq_int0, eq_int1, eq_bl0, eq_bl1, beq_self_eq_true, Bool.not_true, Bool.not_false, add_int, add_tup, add_ref, int_, int0_, mul_int, mul_str, ord_int, FD.ix_tup, ix_fl, ix_ref, at_0, at_1, at_2, at_3, len_tup, len_fl, len_ref, max2_, min2_, tuple_tup, tuple_ref, is_, gs_, setL_, ml_, for_, rng1_, any_, lc_, FD.sl_ref, list_tup, dict0_, dn_, sortK_, val_tup, yes_, isLst_, List.set_cons_zero, List.set_cons_succ, or_, kor_t, kor_f, not_, chain_, kch_t, kch_f, ord_str, len_str, ordc_, strc_int, val_str, add_str, sl_strD, match_, cc_, kc_n, kc_s, cn_, wild_]
        exact h _ .refl
      | cons x xs =>
        rw [show PyData.eqv (toPy (.tup (x :: xs))) (toPy (.tup [])) = false from by rw [toPy, toPy, toPys, toPys, PyData.eqv, PyData.eqvAll]]
        try simp only [seq_, next_, ret_, drop_, ifs_, br_t, br_f, asg_, gn_, gt_, gtc_, gtn_, par_, var_0, var_s, c_, nil_, cons_, tup_, lst_, op_, bool_, kb_, tru_, tr_bl, andT_, orT_, kn_tt, kn_tf, kn_ff, kn_ft, notT_, and_, kand_t, kand_f, if_, bre_t, bre_f, call_, cb_, neg_, sl_, nopart_, part_, FD.sl_tup, eq_int0, eq_int1, eq_bl0, eq_bl1, beq_self_eq_true, Bool.not_true, Bool.not_false, add_int, add_tup, add_ref, int_, int0_, mul_int, mul_str, ord_int, FD.ix_tup, ix_fl, ix_ref, at_0, at_1, at_2, at_3, len_tup, len_fl, len_ref, max2_, min2_, tuple_tup, tuple_ref, is_, gs_, setL_, ml_, for_, rng1_, any_, lc_, FD.sl_ref, list_tup, dict0_, dn_, sortK_, val_tup, yes_, isLst_, List.set_cons_zero, List.set_cons_succ, or_, kor_t, kor_f, not_, chain_, kch_t, kch_f, ord_str, len_str, ordc_, strc_int, val_str, add_str, sl_strD, match_, cc_, kc_n, kc_s, cn_, wild_]
        rcases (hit x (by simp)).ns with ⟨w, rfl, hw⟩ | ⟨hn, a, ha, hi⟩
        · try simp only [seq_, next_, ret_, drop_, ifs_, br_t, br_f, asg_, gn_, gt_, gtc_, gtn_, par_, var_0, var_s, c_, nil_, cons_, tup_, lst_, op_, bool_, kb_, tru_, tr_bl, andT_, orT_, kn_tt, kn_tf, kn_ff, kn_ft, notT_, and_, kand_t, kand_f, if_, bre_t, bre_f, call_, cb_, neg_, sl_, nopart_, part_, FD.sl_tup, eq_int0, eq_int1, eq_bl0, eq_bl1, beq_self_eq_true, Bool.not_true, Bool.not_false, add_int, add_tup, add_ref, int_, int0_, mul_int, mul_str, ord_int, FD.ix_tup, ix_fl, ix_ref, at_0, at_1, at_2, at_3, len_tup, len_fl, len_ref, max2_, min2_, tuple_tup, tuple_ref, is_, gs_, setL_, ml_, for_, rng1_, any_, lc_, FD.sl_ref, list_tup, dict0_, dn_, sortK_, val_tup, yes_, isLst_, List.set_cons_zero, List.set_cons_succ, or_, kor_t, kor_f, not_, chain_, kch_t, kch_f, ord_str, len_str, ordc_, strc_int, val_str, add_str, sl_strD, match_, cc_, kc_n, kc_s, cn_, wild_, isi_ty (show tyD G (.str w) = some .str from rfl) ty_str, show Ty.isa .str .str = true from rfl]
          exact kx _ _ ⟨rfl, .refl, w, xs, rfl, hw⟩
        · try simp only [seq_, next_, ret_, drop_, ifs_, br_t, br_f, asg_, gn_, gt_, gtc_, gtn_, par_, var_0, var_s, c_, nil_, cons_, tup_, lst_, op_, bool_, kb_, tru_, tr_bl, andT_, orT_, kn_tt, kn_tf, kn_ff, kn_ft, notT_, and_, kand_t, kand_f, if_, bre_t, bre_f, call_, cb_, neg_, sl_, nopart_, part_, FD.sl_tup, eq_int0, eq_int1, eq_bl0, eq_bl1, beq_self_eq_true, Bool.not_true, Bool.not_false, add_int, add_tup, add_ref, int_, int0_, mul_int, mul_str, ord_int, FD.ix_tup, ix_fl, ix_ref, at_0, at_1, at_2, at_3, len_tup, len_fl, len_ref, max2_, min2_, tuple_tup, tuple_ref, is_, gs_, setL_, ml_, for_, rng1_, any_, lc_, FD.sl_ref, list_tup, dict0_, dn_, sortK_, val_tup, yes_, isLst_, List.set_cons_zero, List.set_cons_succ, or_, kor_t, kor_f, not_, chain_, kch_t, kch_f, ord_str, len_str, ordc_, strc_int, val_str, add_str, sl_strD, match_, cc_, kc_n, kc_s, cn_, wild_, isi_ty (ha _) ty_str, hi]
          rw [step_no0 hn] at h
          exact h _ .refl
  · try simp only [seq_, next_, ret_, drop_, ifs_, br_t, br_f, asg_, gn_, gt_, gtc_, gtn_, par_, var_0, var_s, c_, nil_, cons_, tup_, lst_, op_, bool_, kb_, tru_, tr_bl, andT_, orT_, kn_tt, kn_tf, kn_ff, kn_ft, notT_, and_, kand_t, kand_f, if_, bre_t, bre_f, call_, cb_, neg_, sl_, nopart_, part_, FD.sl_tup, eq_int0, eq_int1, eq_bl0, eq_bl1, beq_self_eq_true, Bool.not_true, Bool.not_false, add_int, add_tup, add_ref, int_, int0_, mul_int, mul_str, ord_int, FD.ix_tup, ix_fl, ix_ref, at_0, at_1, at_2, at_3, len_tup, len_fl, len_ref, max2_, min2_, tuple_tup, tuple_ref, is_, gs_, setL_, ml_, for_, rng1_, any_, lc_, FD.sl_ref, list_tup, dict0_, dn_, sortK_, val_tup, yes_, isLst_, List.set_cons_zero, List.set_cons_succ, or_, kor_t, kor_f, not_, chain_, kch_t, kch_f, ord_str, len_str, ordc_, strc_int, val_str, add_str, sl_strD, match_, cc_, kc_n, kc_s, cn_, wild_, isi_ty (ha _) ty_tuple, hi]
    rw [step_no hn] at h
    exact h _ .refl
end K02

namespace K02
open PySem L2 FD
theorem mval_ {z w : Str} {G : DG} {Qo : Option (List D) → Prop} (hw : PyData.strOk w = true) (hz : PyData.strOk z = true) (h : Qo (if (w == z) = true then some [] else none)) : mVal z (.str w) G Qo := by
  refine ⟨.str w, .str w, by rw [shaped_str]; exact hw, hz, ?_⟩
  rw [PyData.eqv]
  exact h
theorem mcons_ {t : DP} {r : DPs} {d : D} {ds : List D} {G : DG} {Qo : Option (List D) → Prop} : mCons t r (d :: ds) G Qo = t d G fun o => match o with
    | none => Qo none
    | some xs => r ds G fun o2 => match o2 with
      | none => Qo none
      | some ys => Qo (some (xs ++ ys)) := rfl
theorem mcap_ {d : D} {G : DG} {Qo : Option (List D) → Prop} : mCap d G Qo = Qo (some [d]) := rfl
theorem mnil_ {ds : List D} {G : DG} {Qo : Option (List D) → Prop} : mNil ds G Qo = Qo (some []) := rfl
theorem mseq_ {n : Nat} {t : DPs} {ds : List D} {G : DG} {Qo : Option (List D) → Prop} : mSeq n t (.tup ds) G Qo = if ds.length = n then t ds G Qo else Qo none := rfl
theorem eqv_one {ds : List D} {w : Str} (h : ds.length ≠ 1) : PyData.eqv (toPy (.tup ds)) (toPy (.tup [.str w])) = false := by
  rw [toPy, toPy, PyData.eqv]
  match ds, h with
  | [], _ => rw [toPys, toPys, PyData.eqvAll]
  | [_], h => exact absurd rfl h
  | _ :: _ :: _, _ => rw [toPys, toPys, toPys, toPys, PyData.eqvAll, PyData.eqvAll, Bool.and_false]
theorem is_step_spec {b k : Nat} {v : D} {G : DG} {Q : DK} (hv : Pb b k v) (hb : b ≤ 1000) (hk : k ≤ 60) (h : ∀ G', Keep G G' → Q (.bl (stepB v)) G') : sp_is_step [v] G Q := by
  refine ⟨rfl, ?_⟩
  show t_is_step _ [some v, none, none, none] G
  unfold t_is_step
  rcases hv.nt with ⟨ds, rfl⟩ | ⟨hn, a, ha, hi⟩
  · obtain ⟨hl, hit⟩ := hv.items
    try simp only [next_, ret_, drop_, ifs_, br_t, br_f, asg_, gn_, gt_, gtc_, gtn_, par_, var_0, var_s, c_, nil_, cons_, tup_, lst_, op_, bool_, kb_, tru_, tr_bl, andT_, orT_, kn_tt, kn_tf, kn_ff, kn_ft, notT_, and_, kand_t, kand_f, if_, bre_t, bre_f, call_, cb_, neg_, sl_, nopart_, part_, FD.sl_tup, eq_int0, eq_int1, eq_bl0, eq_bl1, beq_self_eq_true, Bool.not_true, Bool.not_false, add_int, add_tup, add_ref, int_, int0_, mul_int, mul_str, ord_int, FD.ix_tup, ix_fl, ix_ref, at_0, at_1, at_2, at_3, len_tup, len_fl, len_ref, max2_, min2_, tuple_tup, tuple_ref, is_, gs_, setL_, ml_, for_, rng1_, any_, lc_, FD.sl_ref, list_tup, dict0_, dn_, sortK_, val_tup, yes_, isLst_, List.set_cons_zero, List.set_cons_succ, or_, kor_t, kor_f, not_, chain_, kch_t, kch_f, ord_str, len_str, ordc_, strc_int, val_str, add_str, sl_strD, match_, cc_, kc_n, kc_s, cn_, wild_]
    refine seq_join (fun ρ G' => ρ = [some (.tup ds), none, none, none] ∧ Keep G G' ∧ ∃ w r, ds = .str w :: r ∧ PyData.strOk w = true) ?_ ?_
    · rintro _ G1 ⟨rfl, k1, w, r, rfl, hw⟩
      have fin : (r.length = 1 → (w == "read") = false) → (r.length = 2 → (w == "write") = false) → dRet (dOp (eqD false) (dVar 0) (dTup (dCons (dC (.str "stop")) dNil))) { nx := fun x G' => Q D.non G', rt := Q } [some (.tup (.str w :: r)), none, none, none] G1 := by
        intro hr1 hr2
        try simp only [seq_, next_, ret_, drop_, ifs_, br_t, br_f, asg_, gn_, gt_, gtc_, gtn_, par_, var_0, var_s, c_, nil_, cons_, tup_, lst_, op_, bool_, kb_, tru_, tr_bl, andT_, orT_, kn_tt, kn_tf, kn_ff, kn_ft, notT_, and_, kand_t, kand_f, if_, bre_t, bre_f, call_, cb_, neg_, sl_, nopart_, part_, FD.sl_tup, eq_int0, eq_int1, eq_bl0, eq_bl1, beq_self_eq_true, Bool.not_true, Bool.not_false, add_int, add_tup, add_ref, int_, int0_, mul_int, mul_str, ord_int, FD.ix_tup, ix_fl, ix_ref, at_0, at_1, at_2, at_3, len_tup, len_fl, len_ref, max2_, min2_, tuple_tup, tuple_ref, is_, gs_, setL_, ml_, for_, rng1_, any_, lc_, FD.sl_ref, list_tup, dict0_, dn_, sortK_, val_tup, yes_, isLst_, List.set_cons_zero, List.set_cons_succ, or_, kor_t, kor_f, not_, chain_, kch_t, kch_f, ord_str, len_str, ordc_, strc_int, val_str, add_str, sl_strD, match_, cc_, kc_n, kc_s, cn_, wild_]
        repeat (with_reducible refine And.intro (by first | rfl | omega | (simp only [sizeLine, List.length_cons, List.length_nil, List.length_append] <;> omega)) ?_)
        refine eq_pl0 (k := k) (m := 1) (hv.pl (by simp only [sizeLine]; omega)) (pl_tup.mpr ⟨by simp [sizeLine], fun d hd => by rw [List.mem_singleton.mp hd, Pl]; decide +kernel⟩) (by omega) (by decide) ?_
        match r, hr1, hr2 with
        | [], _, _ =>
          have e : PyData.eqv (toPy (.tup [.str w])) (toPy (.tup [.str "stop"])) = (w == "stop") := by
            simp only [toPy, toPys, PyData.eqv, PyData.eqvAll, Bool.and_true]
          rw [e]
          exact h _ k1
        | [x], hr1, _ =>
          rw [eqv_one (by simp)]
          have e : stepB (.tup [.str w, x]) = false := by
            show (w == "read" && keysB x) = false
            rw [hr1 rfl]; rfl
          rw [e] at h
          exact h _ k1
        | [x, y], _, hr2 =>
          rw [eqv_one (by simp)]
          have e : stepB (.tup [.str w, x, y]) = false := by
            show (w == "write" && _) = false
            rw [hr2 rfl]; rfl
          rw [e] at h
          exact h _ k1
        | x :: y :: z :: r, _, _ =>
          rw [eqv_one (by simp)]
          exact h _ k1
      try simp only [seq_, next_, ret_, drop_, ifs_, br_t, br_f, asg_, gn_, gt_, gtc_, gtn_, par_, var_0, var_s, c_, nil_, cons_, tup_, lst_, op_, bool_, kb_, tru_, tr_bl, andT_, orT_, kn_tt, kn_tf, kn_ff, kn_ft, notT_, and_, kand_t, kand_f, if_, bre_t, bre_f, call_, cb_, neg_, sl_, nopart_, part_, FD.sl_tup, eq_int0, eq_int1, eq_bl0, eq_bl1, beq_self_eq_true, Bool.not_true, Bool.not_false, add_int, add_tup, add_ref, int_, int0_, mul_int, mul_str, ord_int, FD.ix_tup, ix_fl, ix_ref, at_0, at_1, at_2, at_3, len_tup, len_fl, len_ref, max2_, min2_, tuple_tup, tuple_ref, is_, gs_, setL_, ml_, for_, rng1_, any_, lc_, FD.sl_ref, list_tup, dict0_, dn_, sortK_, val_tup, yes_, isLst_, List.set_cons_zero, List.set_cons_succ, or_, kor_t, kor_f, not_, chain_, kch_t, kch_f, ord_str, len_str, ordc_, strc_int, val_str, add_str, sl_strD, match_, cc_, kc_n, kc_s, cn_, wild_] at fin
      try simp only [seq_, next_, ret_, drop_, ifs_, br_t, br_f, asg_, gn_, gt_, gtc_, gtn_, par_, var_0, var_s, c_, nil_, cons_, tup_, lst_, op_, bool_, kb_, tru_, tr_bl, andT_, orT_, kn_tt, kn_tf, kn_ff, kn_ft, notT_, and_, kand_t, kand_f, if_, bre_t, bre_f, call_, cb_, neg_, sl_, nopart_, part_, FD.sl_tup, eq_int0, eq_int1, eq_bl0, eq_bl1, beq_self_eq_true, Bool.not_true, Bool.not_false, add_int, add_tup, add_ref, int_, int0_, mul_int, mul_str, ord_int, FD.ix_tup, ix_fl, ix_ref, at_0, at_1, at_2, at_3, len_tup, len_fl, len_ref, max2_, min2_, tuple_tup, tuple_ref, is_, gs_, setL_, ml_, for_, rng1_, any_, lc_, FD.sl_ref, list_tup, dict0_, dn_, sortK_, val_tup, yes_, isLst_, List.set_cons_zero, List.set_cons_succ, or_, kor_t, kor_f, not_, chain_, kch_t, kch_f, ord_str, len_str, ordc_, strc_int, val_str, add_str, sl_strD, match_, cc_, kc_n, kc_s, cn_, wild_]
      rw [mseq_]
      match r, hit, fin with
      | [], hit, fin =>
        rw [if_neg (by simp)]
        try simp only [seq_, next_, ret_, drop_, ifs_, br_t, br_f, asg_, gn_, gt_, gtc_, gtn_, par_, var_0, var_s, c_, nil_, cons_, tup_, lst_, op_, bool_, kb_, tru_, tr_bl, andT_, orT_, kn_tt, kn_tf, kn_ff, kn_ft, notT_, and_, kand_t, kand_f, if_, bre_t, bre_f, call_, cb_, neg_, sl_, nopart_, part_, FD.sl_tup, eq_int0, eq_int1, eq_bl0, eq_bl1, beq_self_eq_true, Bool.not_true, Bool.not_false, add_int, add_tup, add_ref, int_, int0_, mul_int, mul_str, ord_int, FD.ix_tup, ix_fl, ix_ref, at_0, at_1, at_2, at_3, len_tup, len_fl, len_ref, max2_, min2_, tuple_tup, tuple_ref, is_, gs_, setL_, ml_, for_, rng1_, any_, lc_, FD.sl_ref, list_tup, dict0_, dn_, sortK_, val_tup, yes_, isLst_, List.set_cons_zero, List.set_cons_succ, or_, kor_t, kor_f, not_, chain_, kch_t, kch_f, ord_str, len_str, ordc_, strc_int, val_str, add_str, sl_strD, match_, cc_, kc_n, kc_s, cn_, wild_]
        rw [mseq_, if_neg (by simp)]
        try simp only [seq_, next_, ret_, drop_, ifs_, br_t, br_f, asg_, gn_, gt_, gtc_, gtn_, par_, var_0, var_s, c_, nil_, cons_, tup_, lst_, op_, bool_, kb_, tru_, tr_bl, andT_, orT_, kn_tt, kn_tf, kn_ff, kn_ft, notT_, and_, kand_t, kand_f, if_, bre_t, bre_f, call_, cb_, neg_, sl_, nopart_, part_, FD.sl_tup, eq_int0, eq_int1, eq_bl0, eq_bl1, beq_self_eq_true, Bool.not_true, Bool.not_false, add_int, add_tup, add_ref, int_, int0_, mul_int, mul_str, ord_int, FD.ix_tup, ix_fl, ix_ref, at_0, at_1, at_2, at_3, len_tup, len_fl, len_ref, max2_, min2_, tuple_tup, tuple_ref, is_, gs_, setL_, ml_, for_, rng1_, any_, lc_, FD.sl_ref, list_tup, dict0_, dn_, sortK_, val_tup, yes_, isLst_, List.set_cons_zero, List.set_cons_succ, or_, kor_t, kor_f, not_, chain_, kch_t, kch_f, ord_str, len_str, ordc_, strc_int, val_str, add_str, sl_strD, match_, cc_, kc_n, kc_s, cn_, wild_]
        exact fin (fun q => by simp at q) (fun q => by simp at q)
      | [x], hit, fin =>
        rw [if_pos (show [D.str w, x].length = 2 from rfl)]
        rw [mcons_]
        refine mval_ (z := "read") hw (by decide +kernel) ?_
        cases hw2 : w == "read" with
        | true =>
          rw [if_pos rfl]
          try simp only [seq_, next_, ret_, drop_, ifs_, br_t, br_f, asg_, gn_, gt_, gtc_, gtn_, par_, var_0, var_s, c_, nil_, cons_, tup_, lst_, op_, bool_, kb_, tru_, tr_bl, andT_, orT_, kn_tt, kn_tf, kn_ff, kn_ft, notT_, and_, kand_t, kand_f, if_, bre_t, bre_f, call_, cb_, neg_, sl_, nopart_, part_, FD.sl_tup, eq_int0, eq_int1, eq_bl0, eq_bl1, beq_self_eq_true, Bool.not_true, Bool.not_false, add_int, add_tup, add_ref, int_, int0_, mul_int, mul_str, ord_int, FD.ix_tup, ix_fl, ix_ref, at_0, at_1, at_2, at_3, len_tup, len_fl, len_ref, max2_, min2_, tuple_tup, tuple_ref, is_, gs_, setL_, ml_, for_, rng1_, any_, lc_, FD.sl_ref, list_tup, dict0_, dn_, sortK_, val_tup, yes_, isLst_, List.set_cons_zero, List.set_cons_succ, or_, kor_t, kor_f, not_, chain_, kch_t, kch_f, ord_str, len_str, ordc_, strc_int, val_str, add_str, sl_strD, match_, cc_, kc_n, kc_s, cn_, wild_, mcons_, mcap_, mnil_, List.append_nil, List.nil_append, List.cons_append, bindD]
          have e : stepB (.tup [.str w, x]) = keysB x := by
            show (w == "read" && keysB x) = keysB x
            rw [hw2]; rfl
          rw [e] at h
          exact are_keys_spec (hit x (by simp)) fun G2 k2 => h _ (k1.trans k2)
        | false =>
          rw [if_neg (by decide)]
          show kC [1] _ _ _ _ _ _ none
          try simp only [seq_, next_, ret_, drop_, ifs_, br_t, br_f, asg_, gn_, gt_, gtc_, gtn_, par_, var_0, var_s, c_, nil_, cons_, tup_, lst_, op_, bool_, kb_, tru_, tr_bl, andT_, orT_, kn_tt, kn_tf, kn_ff, kn_ft, notT_, and_, kand_t, kand_f, if_, bre_t, bre_f, call_, cb_, neg_, sl_, nopart_, part_, FD.sl_tup, eq_int0, eq_int1, eq_bl0, eq_bl1, beq_self_eq_true, Bool.not_true, Bool.not_false, add_int, add_tup, add_ref, int_, int0_, mul_int, mul_str, ord_int, FD.ix_tup, ix_fl, ix_ref, at_0, at_1, at_2, at_3, len_tup, len_fl, len_ref, max2_, min2_, tuple_tup, tuple_ref, is_, gs_, setL_, ml_, for_, rng1_, any_, lc_, FD.sl_ref, list_tup, dict0_, dn_, sortK_, val_tup, yes_, isLst_, List.set_cons_zero, List.set_cons_succ, or_, kor_t, kor_f, not_, chain_, kch_t, kch_f, ord_str, len_str, ordc_, strc_int, val_str, add_str, sl_strD, match_, cc_, kc_n, kc_s, cn_, wild_]
          rw [mseq_, if_neg (by simp)]
          try simp only [seq_, next_, ret_, drop_, ifs_, br_t, br_f, asg_, gn_, gt_, gtc_, gtn_, par_, var_0, var_s, c_, nil_, cons_, tup_, lst_, op_, bool_, kb_, tru_, tr_bl, andT_, orT_, kn_tt, kn_tf, kn_ff, kn_ft, notT_, and_, kand_t, kand_f, if_, bre_t, bre_f, call_, cb_, neg_, sl_, nopart_, part_, FD.sl_tup, eq_int0, eq_int1, eq_bl0, eq_bl1, beq_self_eq_true, Bool.not_true, Bool.not_false, add_int, add_tup, add_ref, int_, int0_, mul_int, mul_str, ord_int, FD.ix_tup, ix_fl, ix_ref, at_0, at_1, at_2, at_3, len_tup, len_fl, len_ref, max2_, min2_, tuple_tup, tuple_ref, is_, gs_, setL_, ml_, for_, rng1_, any_, lc_, FD.sl_ref, list_tup, dict0_, dn_, sortK_, val_tup, yes_, isLst_, List.set_cons_zero, List.set_cons_succ, or_, kor_t, kor_f, not_, chain_, kch_t, kch_f, ord_str, len_str, ordc_, strc_int, val_str, add_str, sl_strD, match_, cc_, kc_n, kc_s, cn_, wild_]
          exact fin (fun _ => hw2) (fun q => by simp at q)
      | [x, y], hit, fin =>
        rw [if_neg (by simp)]
        try simp only [seq_, next_, ret_, drop_, ifs_, br_t, br_f, asg_, gn_, gt_, gtc_, gtn_, par_, var_0, var_s, c_, nil_, cons_, tup_, lst_, op_, bool_, kb_, tru_, tr_bl, andT_, orT_, kn_tt, kn_tf, kn_ff, kn_ft, notT_, and_, kand_t, kand_f, if_, bre_t, bre_f, call_, cb_, neg_, sl_, nopart_, part_, FD.sl_tup, eq_int0, eq_int1, eq_bl0, eq_bl1, beq_self_eq_true, Bool.not_true, Bool.not_false, add_int, add_tup, add_ref, int_, int0_, mul_int, mul_str, ord_int, FD.ix_tup, ix_fl, ix_ref, at_0, at_1, at_2, at_3, len_tup, len_fl, len_ref, max2_, min2_, tuple_tup, tuple_ref, is_, gs_, setL_, ml_, for_, rng1_, any_, lc_, FD.sl_ref, list_tup, dict0_, dn_, sortK_, val_tup, yes_, isLst_, List.set_cons_zero, List.set_cons_succ, or_, kor_t, kor_f, not_, chain_, kch_t, kch_f, ord_str, len_str, ordc_, strc_int, val_str, add_str, sl_strD, match_, cc_, kc_n, kc_s, cn_, wild_]
        rw [mseq_, if_pos (show [D.str w, x, y].length = 3 from rfl)]
        rw [mcons_]
        refine mval_ (z := "write") hw (by decide +kernel) ?_
        cases hw2 : w == "write" with
        | true =>
          rw [if_pos rfl]
          try simp only [seq_, next_, ret_, drop_, ifs_, br_t, br_f, asg_, gn_, gt_, gtc_, gtn_, par_, var_0, var_s, c_, nil_, cons_, tup_, lst_, op_, bool_, kb_, tru_, tr_bl, andT_, orT_, kn_tt, kn_tf, kn_ff, kn_ft, notT_, and_, kand_t, kand_f, if_, bre_t, bre_f, call_, cb_, neg_, sl_, nopart_, part_, FD.sl_tup, eq_int0, eq_int1, eq_bl0, eq_bl1, beq_self_eq_true, Bool.not_true, Bool.not_false, add_int, add_tup, add_ref, int_, int0_, mul_int, mul_str, ord_int, FD.ix_tup, ix_fl, ix_ref, at_0, at_1, at_2, at_3, len_tup, len_fl, len_ref, max2_, min2_, tuple_tup, tuple_ref, is_, gs_, setL_, ml_, for_, rng1_, any_, lc_, FD.sl_ref, list_tup, dict0_, dn_, sortK_, val_tup, yes_, isLst_, List.set_cons_zero, List.set_cons_succ, or_, kor_t, kor_f, not_, chain_, kch_t, kch_f, ord_str, len_str, ordc_, strc_int, val_str, add_str, sl_strD, match_, cc_, kc_n, kc_s, cn_, wild_, mcons_, mcap_, mnil_, List.append_nil, List.nil_append, List.cons_append, bindD]
          have e : stepB (.tup [.str w, x, y]) = (nameB x && textB y) := by
            show (w == "write" && (nameB x && textB y)) = _
            rw [hw2]; rfl
          rw [e] at h
          refine is_name_spec (hit x (by simp)) fun G3 k3 => ?_
          try simp only [seq_, next_, ret_, drop_, ifs_, br_t, br_f, asg_, gn_, gt_, gtc_, gtn_, par_, var_0, var_s, c_, nil_, cons_, tup_, lst_, op_, bool_, kb_, tru_, tr_bl, andT_, orT_, kn_tt, kn_tf, kn_ff, kn_ft, notT_, and_, kand_t, kand_f, if_, bre_t, bre_f, call_, cb_, neg_, sl_, nopart_, part_, FD.sl_tup, eq_int0, eq_int1, eq_bl0, eq_bl1, beq_self_eq_true, Bool.not_true, Bool.not_false, add_int, add_tup, add_ref, int_, int0_, mul_int, mul_str, ord_int, FD.ix_tup, ix_fl, ix_ref, at_0, at_1, at_2, at_3, len_tup, len_fl, len_ref, max2_, min2_, tuple_tup, tuple_ref, is_, gs_, setL_, ml_, for_, rng1_, any_, lc_, FD.sl_ref, list_tup, dict0_, dn_, sortK_, val_tup, yes_, isLst_, List.set_cons_zero, List.set_cons_succ, or_, kor_t, kor_f, not_, chain_, kch_t, kch_f, ord_str, len_str, ordc_, strc_int, val_str, add_str, sl_strD, match_, cc_, kc_n, kc_s, cn_, wild_]
          cases e : nameB x with
          | false =>
            rw [e] at h
            try simp only [seq_, next_, ret_, drop_, ifs_, br_t, br_f, asg_, gn_, gt_, gtc_, gtn_, par_, var_0, var_s, c_, nil_, cons_, tup_, lst_, op_, bool_, kb_, tru_, tr_bl, andT_, orT_, kn_tt, kn_tf, kn_ff, kn_ft, notT_, and_, kand_t, kand_f, if_, bre_t, bre_f, call_, cb_, neg_, sl_, nopart_, part_, FD.sl_tup, eq_int0, eq_int1, eq_bl0, eq_bl1, beq_self_eq_true, Bool.not_true, Bool.not_false, add_int, add_tup, add_ref, int_, int0_, mul_int, mul_str, ord_int, FD.ix_tup, ix_fl, ix_ref, at_0, at_1, at_2, at_3, len_tup, len_fl, len_ref, max2_, min2_, tuple_tup, tuple_ref, is_, gs_, setL_, ml_, for_, rng1_, any_, lc_, FD.sl_ref, list_tup, dict0_, dn_, sortK_, val_tup, yes_, isLst_, List.set_cons_zero, List.set_cons_succ, or_, kor_t, kor_f, not_, chain_, kch_t, kch_f, ord_str, len_str, ordc_, strc_int, val_str, add_str, sl_strD, match_, cc_, kc_n, kc_s, cn_, wild_]
            exact h _ (k1.trans k3)
          | true =>
            rw [e] at h
            try simp only [seq_, next_, ret_, drop_, ifs_, br_t, br_f, asg_, gn_, gt_, gtc_, gtn_, par_, var_0, var_s, c_, nil_, cons_, tup_, lst_, op_, bool_, kb_, tru_, tr_bl, andT_, orT_, kn_tt, kn_tf, kn_ff, kn_ft, notT_, and_, kand_t, kand_f, if_, bre_t, bre_f, call_, cb_, neg_, sl_, nopart_, part_, FD.sl_tup, eq_int0, eq_int1, eq_bl0, eq_bl1, beq_self_eq_true, Bool.not_true, Bool.not_false, add_int, add_tup, add_ref, int_, int0_, mul_int, mul_str, ord_int, FD.ix_tup, ix_fl, ix_ref, at_0, at_1, at_2, at_3, len_tup, len_fl, len_ref, max2_, min2_, tuple_tup, tuple_ref, is_, gs_, setL_, ml_, for_, rng1_, any_, lc_, FD.sl_ref, list_tup, dict0_, dn_, sortK_, val_tup, yes_, isLst_, List.set_cons_zero, List.set_cons_succ, or_, kor_t, kor_f, not_, chain_, kch_t, kch_f, ord_str, len_str, ordc_, strc_int, val_str, add_str, sl_strD, match_, cc_, kc_n, kc_s, cn_, wild_]
            exact is_text_spec (hit y (by simp)) fun G4 k4 => h _ (k1.trans (k3.trans k4))
        | false =>
          rw [if_neg (by decide)]
          show kC [2, 3] _ _ _ _ _ _ none
          try simp only [seq_, next_, ret_, drop_, ifs_, br_t, br_f, asg_, gn_, gt_, gtc_, gtn_, par_, var_0, var_s, c_, nil_, cons_, tup_, lst_, op_, bool_, kb_, tru_, tr_bl, andT_, orT_, kn_tt, kn_tf, kn_ff, kn_ft, notT_, and_, kand_t, kand_f, if_, bre_t, bre_f, call_, cb_, neg_, sl_, nopart_, part_, FD.sl_tup, eq_int0, eq_int1, eq_bl0, eq_bl1, beq_self_eq_true, Bool.not_true, Bool.not_false, add_int, add_tup, add_ref, int_, int0_, mul_int, mul_str, ord_int, FD.ix_tup, ix_fl, ix_ref, at_0, at_1, at_2, at_3, len_tup, len_fl, len_ref, max2_, min2_, tuple_tup, tuple_ref, is_, gs_, setL_, ml_, for_, rng1_, any_, lc_, FD.sl_ref, list_tup, dict0_, dn_, sortK_, val_tup, yes_, isLst_, List.set_cons_zero, List.set_cons_succ, or_, kor_t, kor_f, not_, chain_, kch_t, kch_f, ord_str, len_str, ordc_, strc_int, val_str, add_str, sl_strD, match_, cc_, kc_n, kc_s, cn_, wild_]
          exact fin (fun q => by simp at q) (fun _ => hw2)
      | x :: y :: z :: r, hit, fin =>
        rw [if_neg (by simp)]
        try simp only [seq_, next_, ret_, drop_, ifs_, br_t, br_f, asg_, gn_, gt_, gtc_, gtn_, par_, var_0, var_s, c_, nil_, cons_, tup_, lst_, op_, bool_, kb_, tru_, tr_bl, andT_, orT_, kn_tt, kn_tf, kn_ff, kn_ft, notT_, and_, kand_t, kand_f, if_, bre_t, bre_f, call_, cb_, neg_, sl_, nopart_, part_, FD.sl_tup, eq_int0, eq_int1, eq_bl0, eq_bl1, beq_self_eq_true, Bool.not_true, Bool.not_false, add_int, add_tup, add_ref, int_, int0_, mul_int, mul_str, ord_int, FD.ix_tup, ix_fl, ix_ref, at_0, at_1, at_2, at_3, len_tup, len_fl, len_ref, max2_, min2_, tuple_tup, tuple_ref, is_, gs_, setL_, ml_, for_, rng1_, any_, lc_, FD.sl_ref, list_tup, dict0_, dn_, sortK_, val_tup, yes_, isLst_, List.set_cons_zero, List.set_cons_succ, or_, kor_t, kor_f, not_, chain_, kch_t, kch_f, ord_str, len_str, ordc_, strc_int, val_str, add_str, sl_strD, match_, cc_, kc_n, kc_s, cn_, wild_]
        rw [mseq_, if_neg (by simp)]
        try simp only [seq_, next_, ret_, drop_, ifs_, br_t, br_f, asg_, gn_, gt_, gtc_, gtn_, par_, var_0, var_s, c_, nil_, cons_, tup_, lst_, op_, bool_, kb_, tru_, tr_bl, andT_, orT_, kn_tt, kn_tf, kn_ff, kn_ft, notT_, and_, kand_t, kand_f, if_, bre_t, bre_f, call_, cb_, neg_, sl_, nopart_, part_, FD.sl_tup, eq_int0, eq_int1, eq_bl0, eq_bl1, beq_self_eq_true, Bool.not_true, Bool.not_false, add_int, add_tup, add_ref, int_, int0_, mul_int, mul_str, ord_int, FD.ix_tup, ix_fl, ix_ref, at_0, at_1, at_2, at_3, len_tup, len_fl, len_ref, max2_, min2_, tuple_tup, tuple_ref, is_, gs_, setL_, ml_, for_, rng1_, any_, lc_, FD.sl_ref, list_tup, dict0_, dn_, sortK_, val_tup, yes_, isLst_, List.set_cons_zero, List.set_cons_succ, or_, kor_t, kor_f, not_, chain_, kch_t, kch_f, ord_str, len_str, ordc_, strc_int, val_str, add_str, sl_strD, match_, cc_, kc_n, kc_s, cn_, wild_]
        exact fin (fun q => by simp at q) (fun q => by simp at q)
    · intro X kx
      try simp only [seq_, next_, ret_, drop_, ifs_, br_t, br_f, asg_, gn_, gt_, gtc_, gtn_, par_, var_0, var_s, c_, nil_, cons_, tup_, lst_, op_, bool_, kb_, tru_, tr_bl, andT_, orT_, kn_tt, kn_tf, kn_ff, kn_ft, notT_, and_, kand_t, kand_f, if_, bre_t, bre_f, call_, cb_, neg_, sl_, nopart_, part_, FD.sl_tup, eq_int0, eq_int1, eq_bl0, eq_bl1, beq_self_eq_true, Bool.not_true, Bool.not_false, add_int, add_tup, add_ref, int_, int0_, mul_int, mul_str, ord_int, FD.ix_tup, ix_fl, ix_ref, at_0, at_1, at_2, at_3, len_tup, len_fl, len_ref, max2_, min2_, tuple_tup, tuple_ref, is_, gs_, setL_, ml_, for_, rng1_, any_, lc_, FD.sl_ref, list_tup, dict0_, dn_, sortK_, val_tup, yes_, isLst_, List.set_cons_zero, List.set_cons_succ, or_, kor_t, kor_f, not_, chain_, kch_t, kch_f, ord_str, len_str, ordc_, strc_int, val_str, add_str, sl_strD, match_, cc_, kc_n, kc_s, cn_, wild_, isi_ty (show tyD G (.tup ds) = some .tuple from rfl) ty_tuple, show Ty.isa .tuple .tuple = true from rfl, len_eq (show (0 : Int) = (0 : Nat) from rfl)]
      cases ds with
      | nil =>
        rw [show decide (([] : List D).length = 0) = true from rfl]
        try simp only [seq_, next_, ret_, drop_, ifs_, br_t, br_f, asg_, gn_, gt_, gtc_, gtn_, par_, var_0, var_s, c_, nil_, cons_, tup_, lst_, op_, bool_, kb_, tru_, tr_bl, andT_, orT_, kn_tt, kn_tf, kn_ff, kn_ft, notT_, and_, kand_t, kand_f, if_, bre_t, bre_f, call_, cb_, neg_, sl_, nopart_, part_, FD.sl_tup, eq_int0, eq_int1, eq_bl0, eq_bl1, beq_self_eq_true, Bool.not_true, Bool.not_false, add_int, add_tup, add_ref, int_, int0_, mul_int, mul_str, ord_int, FD.ix_tup, ix_fl, ix_ref, at_0, at_1, at_2, at_3, len_tup, len_fl, len_ref, max2_, min2_, tuple_tup, tuple_ref, is_, gs_, setL_, ml_, for_, rng1_, any_, lc_, FD.sl_ref, list_tup, dict0_, dn_, sortK_, val_tup, yes_, isLst_, List.set_cons_zero, List.set_cons_succ, or_, kor_t, kor_f, not_, chain_, kch_t, kch_f, ord_str, len_str, ordc_, strc_int, val_str, add_str, sl_strD, match_, cc_, kc_n, kc_s, cn_, wild_]
        exact h _ .refl
      | cons x xs =>
        rw [show decide ((x :: xs).length = 0) = false from rfl]
        try simp only [seq_, next_, ret_, drop_, ifs_, br_t, br_f, asg_, gn_, gt_, gtc_, gtn_, par_, var_0, var_s, c_, nil_, cons_, tup_, lst_, op_, bool_, kb_, tru_, tr_bl, andT_, orT_, kn_tt, kn_tf, kn_ff, kn_ft, notT_, and_, kand_t, kand_f, if_, bre_t, bre_f, call_, cb_, neg_, sl_, nopart_, part_, FD.sl_tup, eq_int0, eq_int1, eq_bl0, eq_bl1, beq_self_eq_true, Bool.not_true, Bool.not_false, add_int, add_tup, add_ref, int_, int0_, mul_int, mul_str, ord_int, FD.ix_tup, ix_fl, ix_ref, at_0, at_1, at_2, at_3, len_tup, len_fl, len_ref, max2_, min2_, tuple_tup, tuple_ref, is_, gs_, setL_, ml_, for_, rng1_, any_, lc_, FD.sl_ref, list_tup, dict0_, dn_, sortK_, val_tup, yes_, isLst_, List.set_cons_zero, List.set_cons_succ, or_, kor_t, kor_f, not_, chain_, kch_t, kch_f, ord_str, len_str, ordc_, strc_int, val_str, add_str, sl_strD, match_, cc_, kc_n, kc_s, cn_, wild_]
        rcases (hit x (by simp)).ns with ⟨w, rfl, hw⟩ | ⟨hn, a, ha, hi⟩
        · try simp only [seq_, next_, ret_, drop_, ifs_, br_t, br_f, asg_, gn_, gt_, gtc_, gtn_, par_, var_0, var_s, c_, nil_, cons_, tup_, lst_, op_, bool_, kb_, tru_, tr_bl, andT_, orT_, kn_tt, kn_tf, kn_ff, kn_ft, notT_, and_, kand_t, kand_f, if_, bre_t, bre_f, call_, cb_, neg_, sl_, nopart_, part_, FD.sl_tup, eq_int0, eq_int1, eq_bl0, eq_bl1, beq_self_eq_true, Bool.not_true, Bool.not_false, add_int, add_tup, add_ref, int_, int0_, mul_int, mul_str, ord_int, FD.ix_tup, ix_fl, ix_ref, at_0, at_1, at_2, at_3, len_tup, len_fl, len_ref, max2_, min2_, tuple_tup, tuple_ref, is_, gs_, setL_, ml_, for_, rng1_, any_, lc_, FD.sl_ref, list_tup, dict0_, dn_, sortK_, val_tup, yes_, isLst_, List.set_cons_zero, List.set_cons_succ, or_, kor_t, kor_f, not_, chain_, kch_t, kch_f, ord_str, len_str, ordc_, strc_int, val_str, add_str, sl_strD, match_, cc_, kc_n, kc_s, cn_, wild_, isi_ty (show tyD G (.str w) = some .str from rfl) ty_str, show Ty.isa .str .str = true from rfl]
          exact kx _ _ ⟨rfl, .refl, w, xs, rfl, hw⟩
        · try simp only [seq_, next_, ret_, drop_, ifs_, br_t, br_f, asg_, gn_, gt_, gtc_, gtn_, par_, var_0, var_s, c_, nil_, cons_, tup_, lst_, op_, bool_, kb_, tru_, tr_bl, andT_, orT_, kn_tt, kn_tf, kn_ff, kn_ft, notT_, and_, kand_t, kand_f, if_, bre_t, bre_f, call_, cb_, neg_, sl_, nopart_, part_, FD.sl_tup, eq_int0, eq_int1, eq_bl0, eq_bl1, beq_self_eq_true, Bool.not_true, Bool.not_false, add_int, add_tup, add_ref, int_, int0_, mul_int, mul_str, ord_int, FD.ix_tup, ix_fl, ix_ref, at_0, at_1, at_2, at_3, len_tup, len_fl, len_ref, max2_, min2_, tuple_tup, tuple_ref, is_, gs_, setL_, ml_, for_, rng1_, any_, lc_, FD.sl_ref, list_tup, dict0_, dn_, sortK_, val_tup, yes_, isLst_, List.set_cons_zero, List.set_cons_succ, or_, kor_t, kor_f, not_, chain_, kch_t, kch_f, ord_str, len_str, ordc_, strc_int, val_str, add_str, sl_strD, match_, cc_, kc_n, kc_s, cn_, wild_, isi_ty (ha _) ty_str, hi]
          rw [step_no0 hn] at h
          exact h _ .refl
  · try simp only [seq_, next_, ret_, drop_, ifs_, br_t, br_f, asg_, gn_, gt_, gtc_, gtn_, par_, var_0, var_s, c_, nil_, cons_, tup_, lst_, op_, bool_, kb_, tru_, tr_bl, andT_, orT_, kn_tt, kn_tf, kn_ff, kn_ft, notT_, and_, kand_t, kand_f, if_, bre_t, bre_f, call_, cb_, neg_, sl_, nopart_, part_, FD.sl_tup, eq_int0, eq_int1, eq_bl0, eq_bl1, beq_self_eq_true, Bool.not_true, Bool.not_false, add_int, add_tup, add_ref, int_, int0_, mul_int, mul_str, ord_int, FD.ix_tup, ix_fl, ix_ref, at_0, at_1, at_2, at_3, len_tup, len_fl, len_ref, max2_, min2_, tuple_tup, tuple_ref, is_, gs_, setL_, ml_, for_, rng1_, any_, lc_, FD.sl_ref, list_tup, dict0_, dn_, sortK_, val_tup, yes_, isLst_, List.set_cons_zero, List.set_cons_succ, or_, kor_t, kor_f, not_, chain_, kch_t, kch_f, ord_str, len_str, ordc_, strc_int, val_str, add_str, sl_strD, match_, cc_, kc_n, kc_s, cn_, wild_, isi_ty (ha _) ty_tuple, hi]
    rw [step_no hn] at h
    exact h _ .refl
/-! places -/
def ansB : D → Bool
  | .non => true
  | d => textB d
def rowB : D → Bool
  | .tup as => decide (0 < as.length) && decide (as.length ≤ 4) && as.all ansB
  | _ => false
def cntB : D → Bool
  | .int n => decide (0 ≤ n)
  | _ => false
def textsB : D → Bool
  | .tup as => as.all textB && decide (as.length ≤ 4)
  | _ => false
def rowsB : D → Bool
  | .tup as => as.all rowB
  | _ => false
def placeB : D → Bool
  | .tup [c, a, r, n] => textB c && textsB a && rowsB r && cntB n
  | _ => false
theorem row_no {v : D} (h : ∀ ds, v ≠ .tup ds) : rowB v = false := by
  cases v <;> first | rfl | exact absurd rfl (h _)
theorem texts_no {v : D} (h : ∀ ds, v ≠ .tup ds) : textsB v = false := by
  cases v <;> first | rfl | exact absurd rfl (h _)
theorem rows_no {v : D} (h : ∀ ds, v ≠ .tup ds) : rowsB v = false := by
  cases v <;> first | rfl | exact absurd rfl (h _)
theorem place_no {v : D} (h : ∀ ds, v ≠ .tup ds) : placeB v = false := by
  cases v <;> first | rfl | exact absurd rfl (h _)
theorem place_len {ds : List D} (h : ds.length ≠ 4) : placeB (.tup ds) = false := by
  match ds, h with
  | [], _ => rfl
  | [_], _ => rfl
  | [_, _], _ => rfl
  | [_, _, _], _ => rfl
  | [_, _, _, _], h => exact absurd rfl h
  | _ :: _ :: _ :: _ :: _ :: _, _ => rfl
theorem len_four {ds : List D} (h : ds.length = 4) : ∃ x y z w, ds = [x, y, z, w] := by
  match ds, h with
  | [x, y, z, w], _ => exact ⟨x, y, z, w, rfl⟩
theorem is_count_spec {b k : Nat} {v : D} {G : DG} {Q : DK} (hv : Pb b k v) (h : Q (.bl (cntB v)) G) : sp_is_count [v] G Q := by
  refine ⟨rfl, ?_⟩
  show t_is_count _ [some v] G
  unfold t_is_count
  rcases hv.no with ⟨ds, rfl⟩ | rfl | ⟨i, rfl⟩ | ⟨i, rfl⟩ | ⟨s, rfl, e, hl⟩
  · try simp only [seq_, next_, ret_, drop_, ifs_, br_t, br_f, asg_, gn_, gt_, gtc_, gtn_, par_, var_0, var_s, c_, nil_, cons_, tup_, lst_, op_, bool_, kb_, tru_, tr_bl, andT_, orT_, kn_tt, kn_tf, kn_ff, kn_ft, notT_, and_, kand_t, kand_f, if_, bre_t, bre_f, call_, cb_, neg_, sl_, nopart_, part_, FD.sl_tup, eq_int0, eq_int1, eq_bl0, eq_bl1, beq_self_eq_true, Bool.not_true, Bool.not_false, add_int, add_tup, add_ref, int_, int0_, mul_int, mul_str, ord_int, FD.ix_tup, ix_fl, ix_ref, at_0, at_1, at_2, at_3, len_tup, len_fl, len_ref, max2_, min2_, tuple_tup, tuple_ref, is_, gs_, setL_, ml_, for_, rng1_, any_, lc_, FD.sl_ref, list_tup, dict0_, dn_, sortK_, val_tup, yes_, isLst_, List.set_cons_zero, List.set_cons_succ, or_, kor_t, kor_f, not_, chain_, kch_t, kch_f, ord_str, len_str, ordc_, strc_int, val_str, add_str, sl_strD, match_, cc_, kc_n, kc_s, cn_, wild_, isi_ty (show tyD G (.tup ds) = some .tuple from rfl) ty_int, show Ty.isa .tuple .int = false from rfl]
    exact h
  · try simp only [seq_, next_, ret_, drop_, ifs_, br_t, br_f, asg_, gn_, gt_, gtc_, gtn_, par_, var_0, var_s, c_, nil_, cons_, tup_, lst_, op_, bool_, kb_, tru_, tr_bl, andT_, orT_, kn_tt, kn_tf, kn_ff, kn_ft, notT_, and_, kand_t, kand_f, if_, bre_t, bre_f, call_, cb_, neg_, sl_, nopart_, part_, FD.sl_tup, eq_int0, eq_int1, eq_bl0, eq_bl1, beq_self_eq_true, Bool.not_true, Bool.not_false, add_int, add_tup, add_ref, int_, int0_, mul_int, mul_str, ord_int, FD.ix_tup, ix_fl, ix_ref, at_0, at_1, at_2, at_3, len_tup, len_fl, len_ref, max2_, min2_, tuple_tup, tuple_ref, is_, gs_, setL_, ml_, for_, rng1_, any_, lc_, FD.sl_ref, list_tup, dict0_, dn_, sortK_, val_tup, yes_, isLst_, List.set_cons_zero, List.set_cons_succ, or_, kor_t, kor_f, not_, chain_, kch_t, kch_f, ord_str, len_str, ordc_, strc_int, val_str, add_str, sl_strD, match_, cc_, kc_n, kc_s, cn_, wild_, isi_ty (show tyD G .non = some .none from rfl) ty_int, show Ty.isa .none .int = false from rfl]
    exact h
  · try simp only [seq_, next_, ret_, drop_, ifs_, br_t, br_f, asg_, gn_, gt_, gtc_, gtn_, par_, var_0, var_s, c_, nil_, cons_, tup_, lst_, op_, bool_, kb_, tru_, tr_bl, andT_, orT_, kn_tt, kn_tf, kn_ff, kn_ft, notT_, and_, kand_t, kand_f, if_, bre_t, bre_f, call_, cb_, neg_, sl_, nopart_, part_, FD.sl_tup, eq_int0, eq_int1, eq_bl0, eq_bl1, beq_self_eq_true, Bool.not_true, Bool.not_false, add_int, add_tup, add_ref, int_, int0_, mul_int, mul_str, ord_int, FD.ix_tup, ix_fl, ix_ref, at_0, at_1, at_2, at_3, len_tup, len_fl, len_ref, max2_, min2_, tuple_tup, tuple_ref, is_, gs_, setL_, ml_, for_, rng1_, any_, lc_, FD.sl_ref, list_tup, dict0_, dn_, sortK_, val_tup, yes_, isLst_, List.set_cons_zero, List.set_cons_succ, or_, kor_t, kor_f, not_, chain_, kch_t, kch_f, ord_str, len_str, ordc_, strc_int, val_str, add_str, sl_strD, match_, cc_, kc_n, kc_s, cn_, wild_, isi_ty (show tyD G (.int i) = some .int from rfl) ty_int, isi_ty (show tyD G (.int i) = some .int from rfl) ty_bool, show Ty.isa .int .int = true from rfl, show Ty.isa .int .bool = false from rfl]
    exact h
  · try simp only [seq_, next_, ret_, drop_, ifs_, br_t, br_f, asg_, gn_, gt_, gtc_, gtn_, par_, var_0, var_s, c_, nil_, cons_, tup_, lst_, op_, bool_, kb_, tru_, tr_bl, andT_, orT_, kn_tt, kn_tf, kn_ff, kn_ft, notT_, and_, kand_t, kand_f, if_, bre_t, bre_f, call_, cb_, neg_, sl_, nopart_, part_, FD.sl_tup, eq_int0, eq_int1, eq_bl0, eq_bl1, beq_self_eq_true, Bool.not_true, Bool.not_false, add_int, add_tup, add_ref, int_, int0_, mul_int, mul_str, ord_int, FD.ix_tup, ix_fl, ix_ref, at_0, at_1, at_2, at_3, len_tup, len_fl, len_ref, max2_, min2_, tuple_tup, tuple_ref, is_, gs_, setL_, ml_, for_, rng1_, any_, lc_, FD.sl_ref, list_tup, dict0_, dn_, sortK_, val_tup, yes_, isLst_, List.set_cons_zero, List.set_cons_succ, or_, kor_t, kor_f, not_, chain_, kch_t, kch_f, ord_str, len_str, ordc_, strc_int, val_str, add_str, sl_strD, match_, cc_, kc_n, kc_s, cn_, wild_, isi_ty (show tyD G (.bl i) = some .bool from rfl) ty_int, isi_ty (show tyD G (.bl i) = some .bool from rfl) ty_bool, show Ty.isa .bool .int = true from rfl, show Ty.isa .bool .bool = true from rfl]
    exact h
  · try simp only [seq_, next_, ret_, drop_, ifs_, br_t, br_f, asg_, gn_, gt_, gtc_, gtn_, par_, var_0, var_s, c_, nil_, cons_, tup_, lst_, op_, bool_, kb_, tru_, tr_bl, andT_, orT_, kn_tt, kn_tf, kn_ff, kn_ft, notT_, and_, kand_t, kand_f, if_, bre_t, bre_f, call_, cb_, neg_, sl_, nopart_, part_, FD.sl_tup, eq_int0, eq_int1, eq_bl0, eq_bl1, beq_self_eq_true, Bool.not_true, Bool.not_false, add_int, add_tup, add_ref, int_, int0_, mul_int, mul_str, ord_int, FD.ix_tup, ix_fl, ix_ref, at_0, at_1, at_2, at_3, len_tup, len_fl, len_ref, max2_, min2_, tuple_tup, tuple_ref, is_, gs_, setL_, ml_, for_, rng1_, any_, lc_, FD.sl_ref, list_tup, dict0_, dn_, sortK_, val_tup, yes_, isLst_, List.set_cons_zero, List.set_cons_succ, or_, kor_t, kor_f, not_, chain_, kch_t, kch_f, ord_str, len_str, ordc_, strc_int, val_str, add_str, sl_strD, match_, cc_, kc_n, kc_s, cn_, wild_, isi_ty (show tyD G (.str s) = some .str from rfl) ty_int, show Ty.isa .str .int = false from rfl]
    exact h
theorem is_answer_spec {b k : Nat} {v : D} {G : DG} {Q : DK} (hv : Pb b k v) (h : ∀ G', Keep G G' → Q (.bl (ansB v)) G') : sp_is_answer [v] G Q := by
  refine ⟨rfl, ?_⟩
  show t_is_answer _ [some v] G
  unfold t_is_answer
  try simp only [seq_, next_, ret_, drop_, ifs_, br_t, br_f, asg_, gn_, gt_, gtc_, gtn_, par_, var_0, var_s, c_, nil_, cons_, tup_, lst_, op_, bool_, kb_, tru_, tr_bl, andT_, orT_, kn_tt, kn_tf, kn_ff, kn_ft, notT_, and_, kand_t, kand_f, if_, bre_t, bre_f, call_, cb_, neg_, sl_, nopart_, part_, FD.sl_tup, eq_int0, eq_int1, eq_bl0, eq_bl1, beq_self_eq_true, Bool.not_true, Bool.not_false, add_int, add_tup, add_ref, int_, int0_, mul_int, mul_str, ord_int, FD.ix_tup, ix_fl, ix_ref, at_0, at_1, at_2, at_3, len_tup, len_fl, len_ref, max2_, min2_, tuple_tup, tuple_ref, is_, gs_, setL_, ml_, for_, rng1_, any_, lc_, FD.sl_ref, list_tup, dict0_, dn_, sortK_, val_tup, yes_, isLst_, List.set_cons_zero, List.set_cons_succ, or_, kor_t, kor_f, not_, chain_, kch_t, kch_f, ord_str, len_str, ordc_, strc_int, val_str, add_str, sl_strD, match_, cc_, kc_n, kc_s, cn_, wild_]
  cases hn : isNon v with
  | true =>
    have : v = .non := by cases v <;> first | rfl | exact nomatch hn
    subst this
    exact h _ .refl
  | false =>
    try simp only [seq_, next_, ret_, drop_, ifs_, br_t, br_f, asg_, gn_, gt_, gtc_, gtn_, par_, var_0, var_s, c_, nil_, cons_, tup_, lst_, op_, bool_, kb_, tru_, tr_bl, andT_, orT_, kn_tt, kn_tf, kn_ff, kn_ft, notT_, and_, kand_t, kand_f, if_, bre_t, bre_f, call_, cb_, neg_, sl_, nopart_, part_, FD.sl_tup, eq_int0, eq_int1, eq_bl0, eq_bl1, beq_self_eq_true, Bool.not_true, Bool.not_false, add_int, add_tup, add_ref, int_, int0_, mul_int, mul_str, ord_int, FD.ix_tup, ix_fl, ix_ref, at_0, at_1, at_2, at_3, len_tup, len_fl, len_ref, max2_, min2_, tuple_tup, tuple_ref, is_, gs_, setL_, ml_, for_, rng1_, any_, lc_, FD.sl_ref, list_tup, dict0_, dn_, sortK_, val_tup, yes_, isLst_, List.set_cons_zero, List.set_cons_succ, or_, kor_t, kor_f, not_, chain_, kch_t, kch_f, ord_str, len_str, ordc_, strc_int, val_str, add_str, sl_strD, match_, cc_, kc_n, kc_s, cn_, wild_, if_true, if_false, Bool.false_eq_true]
    refine is_text_spec hv fun G1 k1 => ?_
    have e : ansB v = textB v := by cases v <;> first | rfl | exact nomatch hn
    rw [e] at h
    exact h _ k1
theorem are_answers_spec {b k : Nat} {v : D} {G : DG} {Q : DK} (hv : Pb b k v) (h : ∀ G', Keep G G' → Q (.bl (rowB v)) G') : sp_are_answers [v] G Q := by
  refine ⟨rfl, ?_⟩
  show t_are_answers _ [some v, none] G
  unfold t_are_answers
  rcases hv.nt with ⟨ds, rfl⟩ | ⟨hn, a, ha, hi⟩
  · have h : ∀ G', Keep G G' → Q (.bl (decide (0 < ds.length) && decide (ds.length ≤ 4) && ds.all ansB)) G' := h
    try simp only [seq_, next_, ret_, drop_, ifs_, br_t, br_f, asg_, gn_, gt_, gtc_, gtn_, par_, var_0, var_s, c_, nil_, cons_, tup_, lst_, op_, bool_, kb_, tru_, tr_bl, andT_, orT_, kn_tt, kn_tf, kn_ff, kn_ft, notT_, and_, kand_t, kand_f, if_, bre_t, bre_f, call_, cb_, neg_, sl_, nopart_, part_, FD.sl_tup, eq_int0, eq_int1, eq_bl0, eq_bl1, beq_self_eq_true, Bool.not_true, Bool.not_false, add_int, add_tup, add_ref, int_, int0_, mul_int, mul_str, ord_int, FD.ix_tup, ix_fl, ix_ref, at_0, at_1, at_2, at_3, len_tup, len_fl, len_ref, max2_, min2_, tuple_tup, tuple_ref, is_, gs_, setL_, ml_, for_, rng1_, any_, lc_, FD.sl_ref, list_tup, dict0_, dn_, sortK_, val_tup, yes_, isLst_, List.set_cons_zero, List.set_cons_succ, or_, kor_t, kor_f, not_, chain_, kch_t, kch_f, ord_str, len_str, ordc_, strc_int, val_str, add_str, sl_strD, match_, cc_, kc_n, kc_s, cn_, wild_, isi_ty (show tyD G (.tup ds) = some .tuple from rfl) ty_tuple, show Ty.isa .tuple .tuple = true from rfl]
    by_cases h0 : 0 < ds.length
    · rw [decide_eq_true h0] at h
      rw [decide_eq_true (by omega : (0 : Int) < ds.length)]
      try simp only [seq_, next_, ret_, drop_, ifs_, br_t, br_f, asg_, gn_, gt_, gtc_, gtn_, par_, var_0, var_s, c_, nil_, cons_, tup_, lst_, op_, bool_, kb_, tru_, tr_bl, andT_, orT_, kn_tt, kn_tf, kn_ff, kn_ft, notT_, and_, kand_t, kand_f, if_, bre_t, bre_f, call_, cb_, neg_, sl_, nopart_, part_, FD.sl_tup, eq_int0, eq_int1, eq_bl0, eq_bl1, beq_self_eq_true, Bool.not_true, Bool.not_false, add_int, add_tup, add_ref, int_, int0_, mul_int, mul_str, ord_int, FD.ix_tup, ix_fl, ix_ref, at_0, at_1, at_2, at_3, len_tup, len_fl, len_ref, max2_, min2_, tuple_tup, tuple_ref, is_, gs_, setL_, ml_, for_, rng1_, any_, lc_, FD.sl_ref, list_tup, dict0_, dn_, sortK_, val_tup, yes_, isLst_, List.set_cons_zero, List.set_cons_succ, or_, kor_t, kor_f, not_, chain_, kch_t, kch_f, ord_str, len_str, ordc_, strc_int, val_str, add_str, sl_strD, match_, cc_, kc_n, kc_s, cn_, wild_]
      by_cases h4 : ds.length ≤ 4
      · rw [decide_eq_true h4] at h
        rw [decide_eq_true (by omega : (ds.length : Int) ≤ 4)]
        try simp only [seq_, next_, ret_, drop_, ifs_, br_t, br_f, asg_, gn_, gt_, gtc_, gtn_, par_, var_0, var_s, c_, nil_, cons_, tup_, lst_, op_, bool_, kb_, tru_, tr_bl, andT_, orT_, kn_tt, kn_tf, kn_ff, kn_ft, notT_, and_, kand_t, kand_f, if_, bre_t, bre_f, call_, cb_, neg_, sl_, nopart_, part_, FD.sl_tup, eq_int0, eq_int1, eq_bl0, eq_bl1, beq_self_eq_true, Bool.not_true, Bool.not_false, add_int, add_tup, add_ref, int_, int0_, mul_int, mul_str, ord_int, FD.ix_tup, ix_fl, ix_ref, at_0, at_1, at_2, at_3, len_tup, len_fl, len_ref, max2_, min2_, tuple_tup, tuple_ref, is_, gs_, setL_, ml_, for_, rng1_, any_, lc_, FD.sl_ref, list_tup, dict0_, dn_, sortK_, val_tup, yes_, isLst_, List.set_cons_zero, List.set_cons_succ, or_, kor_t, kor_f, not_, chain_, kch_t, kch_f, ord_str, len_str, ordc_, strc_int, val_str, add_str, sl_strD, match_, cc_, kc_n, kc_s, cn_, wild_]
        refine lcAll (p := ansB) (by simp [wipeD]) (fun d hd {G Q} q => is_answer_spec (hv.items.2 d hd) q) (by simp only [sizeLine]; omega) fun p G1 e1 k1 => ?_
        refine all_bl e1 ?_
        exact h _ k1
      · rw [decide_eq_false h4] at h
        rw [decide_eq_false (by omega : ¬ (ds.length : Int) ≤ 4)]
        try simp only [seq_, next_, ret_, drop_, ifs_, br_t, br_f, asg_, gn_, gt_, gtc_, gtn_, par_, var_0, var_s, c_, nil_, cons_, tup_, lst_, op_, bool_, kb_, tru_, tr_bl, andT_, orT_, kn_tt, kn_tf, kn_ff, kn_ft, notT_, and_, kand_t, kand_f, if_, bre_t, bre_f, call_, cb_, neg_, sl_, nopart_, part_, FD.sl_tup, eq_int0, eq_int1, eq_bl0, eq_bl1, beq_self_eq_true, Bool.not_true, Bool.not_false, add_int, add_tup, add_ref, int_, int0_, mul_int, mul_str, ord_int, FD.ix_tup, ix_fl, ix_ref, at_0, at_1, at_2, at_3, len_tup, len_fl, len_ref, max2_, min2_, tuple_tup, tuple_ref, is_, gs_, setL_, ml_, for_, rng1_, any_, lc_, FD.sl_ref, list_tup, dict0_, dn_, sortK_, val_tup, yes_, isLst_, List.set_cons_zero, List.set_cons_succ, or_, kor_t, kor_f, not_, chain_, kch_t, kch_f, ord_str, len_str, ordc_, strc_int, val_str, add_str, sl_strD, match_, cc_, kc_n, kc_s, cn_, wild_]
        exact h _ .refl
    · rw [decide_eq_false h0] at h
      rw [decide_eq_false (by omega : ¬ (0 : Int) < ds.length)]
      try simp only [seq_, next_, ret_, drop_, ifs_, br_t, br_f, asg_, gn_, gt_, gtc_, gtn_, par_, var_0, var_s, c_, nil_, cons_, tup_, lst_, op_, bool_, kb_, tru_, tr_bl, andT_, orT_, kn_tt, kn_tf, kn_ff, kn_ft, notT_, and_, kand_t, kand_f, if_, bre_t, bre_f, call_, cb_, neg_, sl_, nopart_, part_, FD.sl_tup, eq_int0, eq_int1, eq_bl0, eq_bl1, beq_self_eq_true, Bool.not_true, Bool.not_false, add_int, add_tup, add_ref, int_, int0_, mul_int, mul_str, ord_int, FD.ix_tup, ix_fl, ix_ref, at_0, at_1, at_2, at_3, len_tup, len_fl, len_ref, max2_, min2_, tuple_tup, tuple_ref, is_, gs_, setL_, ml_, for_, rng1_, any_, lc_, FD.sl_ref, list_tup, dict0_, dn_, sortK_, val_tup, yes_, isLst_, List.set_cons_zero, List.set_cons_succ, or_, kor_t, kor_f, not_, chain_, kch_t, kch_f, ord_str, len_str, ordc_, strc_int, val_str, add_str, sl_strD, match_, cc_, kc_n, kc_s, cn_, wild_]
      exact h _ .refl
  · try simp only [seq_, next_, ret_, drop_, ifs_, br_t, br_f, asg_, gn_, gt_, gtc_, gtn_, par_, var_0, var_s, c_, nil_, cons_, tup_, lst_, op_, bool_, kb_, tru_, tr_bl, andT_, orT_, kn_tt, kn_tf, kn_ff, kn_ft, notT_, and_, kand_t, kand_f, if_, bre_t, bre_f, call_, cb_, neg_, sl_, nopart_, part_, FD.sl_tup, eq_int0, eq_int1, eq_bl0, eq_bl1, beq_self_eq_true, Bool.not_true, Bool.not_false, add_int, add_tup, add_ref, int_, int0_, mul_int, mul_str, ord_int, FD.ix_tup, ix_fl, ix_ref, at_0, at_1, at_2, at_3, len_tup, len_fl, len_ref, max2_, min2_, tuple_tup, tuple_ref, is_, gs_, setL_, ml_, for_, rng1_, any_, lc_, FD.sl_ref, list_tup, dict0_, dn_, sortK_, val_tup, yes_, isLst_, List.set_cons_zero, List.set_cons_succ, or_, kor_t, kor_f, not_, chain_, kch_t, kch_f, ord_str, len_str, ordc_, strc_int, val_str, add_str, sl_strD, match_, cc_, kc_n, kc_s, cn_, wild_, isi_ty (ha _) ty_tuple, hi]
    rw [row_no hn] at h
    exact h _ .refl
theorem l_is_row_spec {b k : Nat} {v : D} {G : DG} {Q : DK} (hv : Pb b k v) (h : ∀ G', Keep G G' → Q (.bl (rowB v)) G') : sp_is_row [v] G Q := by
  refine ⟨rfl, ?_⟩
  show t_is_row _ [some v, none] G
  unfold t_is_row
  rcases hv.nt with ⟨ds, rfl⟩ | ⟨hn, a, ha, hi⟩
  · have h : ∀ G', Keep G G' → Q (.bl (decide (0 < ds.length) && decide (ds.length ≤ 4) && ds.all ansB)) G' := h
    try simp only [seq_, next_, ret_, drop_, ifs_, br_t, br_f, asg_, gn_, gt_, gtc_, gtn_, par_, var_0, var_s, c_, nil_, cons_, tup_, lst_, op_, bool_, kb_, tru_, tr_bl, andT_, orT_, kn_tt, kn_tf, kn_ff, kn_ft, notT_, and_, kand_t, kand_f, if_, bre_t, bre_f, call_, cb_, neg_, sl_, nopart_, part_, FD.sl_tup, eq_int0, eq_int1, eq_bl0, eq_bl1, beq_self_eq_true, Bool.not_true, Bool.not_false, add_int, add_tup, add_ref, int_, int0_, mul_int, mul_str, ord_int, FD.ix_tup, ix_fl, ix_ref, at_0, at_1, at_2, at_3, len_tup, len_fl, len_ref, max2_, min2_, tuple_tup, tuple_ref, is_, gs_, setL_, ml_, for_, rng1_, any_, lc_, FD.sl_ref, list_tup, dict0_, dn_, sortK_, val_tup, yes_, isLst_, List.set_cons_zero, List.set_cons_succ, or_, kor_t, kor_f, not_, chain_, kch_t, kch_f, ord_str, len_str, ordc_, strc_int, val_str, add_str, sl_strD, match_, cc_, kc_n, kc_s, cn_, wild_, isi_ty (show tyD G (.tup ds) = some .tuple from rfl) ty_tuple, show Ty.isa .tuple .tuple = true from rfl]
    by_cases h0 : 0 < ds.length
    · rw [decide_eq_true h0] at h
      rw [decide_eq_true (by omega : (0 : Int) < ds.length)]
      try simp only [seq_, next_, ret_, drop_, ifs_, br_t, br_f, asg_, gn_, gt_, gtc_, gtn_, par_, var_0, var_s, c_, nil_, cons_, tup_, lst_, op_, bool_, kb_, tru_, tr_bl, andT_, orT_, kn_tt, kn_tf, kn_ff, kn_ft, notT_, and_, kand_t, kand_f, if_, bre_t, bre_f, call_, cb_, neg_, sl_, nopart_, part_, FD.sl_tup, eq_int0, eq_int1, eq_bl0, eq_bl1, beq_self_eq_true, Bool.not_true, Bool.not_false, add_int, add_tup, add_ref, int_, int0_, mul_int, mul_str, ord_int, FD.ix_tup, ix_fl, ix_ref, at_0, at_1, at_2, at_3, len_tup, len_fl, len_ref, max2_, min2_, tuple_tup, tuple_ref, is_, gs_, setL_, ml_, for_, rng1_, any_, lc_, FD.sl_ref, list_tup, dict0_, dn_, sortK_, val_tup, yes_, isLst_, List.set_cons_zero, List.set_cons_succ, or_, kor_t, kor_f, not_, chain_, kch_t, kch_f, ord_str, len_str, ordc_, strc_int, val_str, add_str, sl_strD, match_, cc_, kc_n, kc_s, cn_, wild_]
      by_cases h4 : ds.length ≤ 4
      · rw [decide_eq_true h4] at h
        rw [decide_eq_true (by omega : (ds.length : Int) < 5)]
        try simp only [seq_, next_, ret_, drop_, ifs_, br_t, br_f, asg_, gn_, gt_, gtc_, gtn_, par_, var_0, var_s, c_, nil_, cons_, tup_, lst_, op_, bool_, kb_, tru_, tr_bl, andT_, orT_, kn_tt, kn_tf, kn_ff, kn_ft, notT_, and_, kand_t, kand_f, if_, bre_t, bre_f, call_, cb_, neg_, sl_, nopart_, part_, FD.sl_tup, eq_int0, eq_int1, eq_bl0, eq_bl1, beq_self_eq_true, Bool.not_true, Bool.not_false, add_int, add_tup, add_ref, int_, int0_, mul_int, mul_str, ord_int, FD.ix_tup, ix_fl, ix_ref, at_0, at_1, at_2, at_3, len_tup, len_fl, len_ref, max2_, min2_, tuple_tup, tuple_ref, is_, gs_, setL_, ml_, for_, rng1_, any_, lc_, FD.sl_ref, list_tup, dict0_, dn_, sortK_, val_tup, yes_, isLst_, List.set_cons_zero, List.set_cons_succ, or_, kor_t, kor_f, not_, chain_, kch_t, kch_f, ord_str, len_str, ordc_, strc_int, val_str, add_str, sl_strD, match_, cc_, kc_n, kc_s, cn_, wild_]
        refine lcGo_flt (fun G' => Keep G G') (fun d => !ansB d) (fun _ => .int 1) (fun _ _ => True.intro) _ _ _ (fun d hd G1 Ky Kn k1 ky kn => ?_) .refl (by show 0 + ds.length ≤ _; simp only [sizeLine]; omega) fun G1 k1 => ?_
        · try simp only [seq_, next_, ret_, drop_, ifs_, br_t, br_f, asg_, gn_, gt_, gtc_, gtn_, par_, var_0, var_s, c_, nil_, cons_, tup_, lst_, op_, bool_, kb_, tru_, tr_bl, andT_, orT_, kn_tt, kn_tf, kn_ff, kn_ft, notT_, and_, kand_t, kand_f, if_, bre_t, bre_f, call_, cb_, neg_, sl_, nopart_, part_, FD.sl_tup, eq_int0, eq_int1, eq_bl0, eq_bl1, beq_self_eq_true, Bool.not_true, Bool.not_false, add_int, add_tup, add_ref, int_, int0_, mul_int, mul_str, ord_int, FD.ix_tup, ix_fl, ix_ref, at_0, at_1, at_2, at_3, len_tup, len_fl, len_ref, max2_, min2_, tuple_tup, tuple_ref, is_, gs_, setL_, ml_, for_, rng1_, any_, lc_, FD.sl_ref, list_tup, dict0_, dn_, sortK_, val_tup, yes_, isLst_, List.set_cons_zero, List.set_cons_succ, or_, kor_t, kor_f, not_, chain_, kch_t, kch_f, ord_str, len_str, ordc_, strc_int, val_str, add_str, sl_strD, match_, cc_, kc_n, kc_s, cn_, wild_, wipeD]
          cases hn : isNon d with
          | true =>
            have : d = .non := by cases d <;> first | rfl | exact nomatch hn
            subst this
            exact kn rfl _ k1
          | false =>
            try simp only [seq_, next_, ret_, drop_, ifs_, br_t, br_f, asg_, gn_, gt_, gtc_, gtn_, par_, var_0, var_s, c_, nil_, cons_, tup_, lst_, op_, bool_, kb_, tru_, tr_bl, andT_, orT_, kn_tt, kn_tf, kn_ff, kn_ft, notT_, and_, kand_t, kand_f, if_, bre_t, bre_f, call_, cb_, neg_, sl_, nopart_, part_, FD.sl_tup, eq_int0, eq_int1, eq_bl0, eq_bl1, beq_self_eq_true, Bool.not_true, Bool.not_false, add_int, add_tup, add_ref, int_, int0_, mul_int, mul_str, ord_int, FD.ix_tup, ix_fl, ix_ref, at_0, at_1, at_2, at_3, len_tup, len_fl, len_ref, max2_, min2_, tuple_tup, tuple_ref, is_, gs_, setL_, ml_, for_, rng1_, any_, lc_, FD.sl_ref, list_tup, dict0_, dn_, sortK_, val_tup, yes_, isLst_, List.set_cons_zero, List.set_cons_succ, or_, kor_t, kor_f, not_, chain_, kch_t, kch_f, ord_str, len_str, ordc_, strc_int, val_str, add_str, sl_strD, match_, cc_, kc_n, kc_s, cn_, wild_, if_true, if_false, Bool.false_eq_true]
            refine l_is_text_spec (hv.items.2 d hd) fun G2 k2 => ?_
            have e : ansB d = textB d := by cases d <;> first | rfl | exact nomatch hn
            rw [e] at ky kn
            try simp only [seq_, next_, ret_, drop_, ifs_, br_t, br_f, asg_, gn_, gt_, gtc_, gtn_, par_, var_0, var_s, c_, nil_, cons_, tup_, lst_, op_, bool_, kb_, tru_, tr_bl, andT_, orT_, kn_tt, kn_tf, kn_ff, kn_ft, notT_, and_, kand_t, kand_f, if_, bre_t, bre_f, call_, cb_, neg_, sl_, nopart_, part_, FD.sl_tup, eq_int0, eq_int1, eq_bl0, eq_bl1, beq_self_eq_true, Bool.not_true, Bool.not_false, add_int, add_tup, add_ref, int_, int0_, mul_int, mul_str, ord_int, FD.ix_tup, ix_fl, ix_ref, at_0, at_1, at_2, at_3, len_tup, len_fl, len_ref, max2_, min2_, tuple_tup, tuple_ref, is_, gs_, setL_, ml_, for_, rng1_, any_, lc_, FD.sl_ref, list_tup, dict0_, dn_, sortK_, val_tup, yes_, isLst_, List.set_cons_zero, List.set_cons_succ, or_, kor_t, kor_f, not_, chain_, kch_t, kch_f, ord_str, len_str, ordc_, strc_int, val_str, add_str, sl_strD, match_, cc_, kc_n, kc_s, cn_, wild_]
            cases hp : textB d with
            | true => exact kn (by rw [hp]; rfl) _ (k1.trans k2)
            | false => exact ky (by rw [hp]; rfl) _ (k1.trans k2)
        · rw [List.nil_append]
          refine new_ fun p G2 _ e2 k2 => ?_
          try simp only [seq_, next_, ret_, drop_, ifs_, br_t, br_f, asg_, gn_, gt_, gtc_, gtn_, par_, var_0, var_s, c_, nil_, cons_, tup_, lst_, op_, bool_, kb_, tru_, tr_bl, andT_, orT_, kn_tt, kn_tf, kn_ff, kn_ft, notT_, and_, kand_t, kand_f, if_, bre_t, bre_f, call_, cb_, neg_, sl_, nopart_, part_, FD.sl_tup, eq_int0, eq_int1, eq_bl0, eq_bl1, beq_self_eq_true, Bool.not_true, Bool.not_false, add_int, add_tup, add_ref, int_, int0_, mul_int, mul_str, ord_int, FD.ix_tup, ix_fl, ix_ref, at_0, at_1, at_2, at_3, len_tup, len_fl, len_ref, max2_, min2_, tuple_tup, tuple_ref, is_, gs_, setL_, ml_, for_, rng1_, any_, lc_, FD.sl_ref, list_tup, dict0_, dn_, sortK_, val_tup, yes_, isLst_, List.set_cons_zero, List.set_cons_succ, or_, kor_t, kor_f, not_, chain_, kch_t, kch_f, ord_str, len_str, ordc_, strc_int, val_str, add_str, sl_strD, match_, cc_, kc_n, kc_s, cn_, wild_]
          repeat (with_reducible refine And.intro (by first | rfl | omega | (simp only [sizeLine, List.length_cons, List.length_nil, List.length_append] <;> omega)) ?_)
          refine new_ fun q G3 _ e3 k3 => ?_
          refine none_bad (k3 _ _ e2) e3 ?_
          exact h _ (k1.trans (k2.trans k3))
      · rw [decide_eq_false h4] at h
        rw [decide_eq_false (by omega : ¬ (ds.length : Int) < 5)]
        try simp only [seq_, next_, ret_, drop_, ifs_, br_t, br_f, asg_, gn_, gt_, gtc_, gtn_, par_, var_0, var_s, c_, nil_, cons_, tup_, lst_, op_, bool_, kb_, tru_, tr_bl, andT_, orT_, kn_tt, kn_tf, kn_ff, kn_ft, notT_, and_, kand_t, kand_f, if_, bre_t, bre_f, call_, cb_, neg_, sl_, nopart_, part_, FD.sl_tup, eq_int0, eq_int1, eq_bl0, eq_bl1, beq_self_eq_true, Bool.not_true, Bool.not_false, add_int, add_tup, add_ref, int_, int0_, mul_int, mul_str, ord_int, FD.ix_tup, ix_fl, ix_ref, at_0, at_1, at_2, at_3, len_tup, len_fl, len_ref, max2_, min2_, tuple_tup, tuple_ref, is_, gs_, setL_, ml_, for_, rng1_, any_, lc_, FD.sl_ref, list_tup, dict0_, dn_, sortK_, val_tup, yes_, isLst_, List.set_cons_zero, List.set_cons_succ, or_, kor_t, kor_f, not_, chain_, kch_t, kch_f, ord_str, len_str, ordc_, strc_int, val_str, add_str, sl_strD, match_, cc_, kc_n, kc_s, cn_, wild_]
        exact h _ .refl
    · rw [decide_eq_false h0] at h
      rw [decide_eq_false (by omega : ¬ (0 : Int) < ds.length)]
      try simp only [seq_, next_, ret_, drop_, ifs_, br_t, br_f, asg_, gn_, gt_, gtc_, gtn_, par_, var_0, var_s, c_, nil_, cons_, tup_, lst_, op_, bool_, kb_, tru_, tr_bl, andT_, orT_, kn_tt, kn_tf, kn_ff, kn_ft, notT_, and_, kand_t, kand_f, if_, bre_t, bre_f, call_, cb_, neg_, sl_, nopart_, part_, FD.sl_tup, eq_int0, eq_int1, eq_bl0, eq_bl1, beq_self_eq_true, Bool.not_true, Bool.not_false, add_int, add_tup, add_ref, int_, int0_, mul_int, mul_str, ord_int, FD.ix_tup, ix_fl, ix_ref, at_0, at_1, at_2, at_3, len_tup, len_fl, len_ref, max2_, min2_, tuple_tup, tuple_ref, is_, gs_, setL_, ml_, for_, rng1_, any_, lc_, FD.sl_ref, list_tup, dict0_, dn_, sortK_, val_tup, yes_, isLst_, List.set_cons_zero, List.set_cons_succ, or_, kor_t, kor_f, not_, chain_, kch_t, kch_f, ord_str, len_str, ordc_, strc_int, val_str, add_str, sl_strD, match_, cc_, kc_n, kc_s, cn_, wild_]
      exact h _ .refl
  · try simp only [seq_, next_, ret_, drop_, ifs_, br_t, br_f, asg_, gn_, gt_, gtc_, gtn_, par_, var_0, var_s, c_, nil_, cons_, tup_, lst_, op_, bool_, kb_, tru_, tr_bl, andT_, orT_, kn_tt, kn_tf, kn_ff, kn_ft, notT_, and_, kand_t, kand_f, if_, bre_t, bre_f, call_, cb_, neg_, sl_, nopart_, part_, FD.sl_tup, eq_int0, eq_int1, eq_bl0, eq_bl1, beq_self_eq_true, Bool.not_true, Bool.not_false, add_int, add_tup, add_ref, int_, int0_, mul_int, mul_str, ord_int, FD.ix_tup, ix_fl, ix_ref, at_0, at_1, at_2, at_3, len_tup, len_fl, len_ref, max2_, min2_, tuple_tup, tuple_ref, is_, gs_, setL_, ml_, for_, rng1_, any_, lc_, FD.sl_ref, list_tup, dict0_, dn_, sortK_, val_tup, yes_, isLst_, List.set_cons_zero, List.set_cons_succ, or_, kor_t, kor_f, not_, chain_, kch_t, kch_f, ord_str, len_str, ordc_, strc_int, val_str, add_str, sl_strD, match_, cc_, kc_n, kc_s, cn_, wild_, isi_ty (ha _) ty_tuple, hi]
    rw [row_no hn] at h
    exact h _ .refl
end K02

namespace K02
open PySem L2 FD
theorem are_texts_spec {b k : Nat} {v : D} {G : DG} {Q : DK} (hv : Pb b k v) (hb : b ≤ 1000) (h : (∃ ds, v = .tup ds ∧ ∀ G', Keep G G' → Q (.bl (ds.all textB)) G') ∨ ((∀ ds, v ≠ .tup ds) ∧ Q (.bl false) G)) : sp_are_texts [v] G Q := by
  refine ⟨rfl, ?_⟩
  show t_are_texts _ [some v, none] G
  unfold t_are_texts
  rcases h with ⟨ds, rfl, h⟩ | ⟨hn, h⟩
  · try simp only [seq_, next_, ret_, drop_, ifs_, br_t, br_f, asg_, gn_, gt_, gtc_, gtn_, par_, var_0, var_s, c_, nil_, cons_, tup_, lst_, op_, bool_, kb_, tru_, tr_bl, andT_, orT_, kn_tt, kn_tf, kn_ff, kn_ft, notT_, and_, kand_t, kand_f, if_, bre_t, bre_f, call_, cb_, neg_, sl_, nopart_, part_, FD.sl_tup, eq_int0, eq_int1, eq_bl0, eq_bl1, beq_self_eq_true, Bool.not_true, Bool.not_false, add_int, add_tup, add_ref, int_, int0_, mul_int, mul_str, ord_int, FD.ix_tup, ix_fl, ix_ref, at_0, at_1, at_2, at_3, len_tup, len_fl, len_ref, max2_, min2_, tuple_tup, tuple_ref, is_, gs_, setL_, ml_, for_, rng1_, any_, lc_, FD.sl_ref, list_tup, dict0_, dn_, sortK_, val_tup, yes_, isLst_, List.set_cons_zero, List.set_cons_succ, or_, kor_t, kor_f, not_, chain_, kch_t, kch_f, ord_str, len_str, ordc_, strc_int, val_str, add_str, sl_strD, match_, cc_, kc_n, kc_s, cn_, wild_, isi_ty (show tyD G (.tup ds) = some .tuple from rfl) ty_tuple, show Ty.isa .tuple .tuple = true from rfl]
    refine lcAll (p := textB) (by simp [wipeD]) (fun d hd {G Q} q => is_text_spec (hv.items.2 d hd) q) (by have := hv.items.1; simp only [sizeLine]; omega) fun p G1 e1 k1 => ?_
    exact all_bl e1 (h _ k1)
  · rcases hv.nt with ⟨ds, rfl⟩ | ⟨_, a, ha, hi⟩
    · exact absurd rfl (hn ds)
    · try simp only [seq_, next_, ret_, drop_, ifs_, br_t, br_f, asg_, gn_, gt_, gtc_, gtn_, par_, var_0, var_s, c_, nil_, cons_, tup_, lst_, op_, bool_, kb_, tru_, tr_bl, andT_, orT_, kn_tt, kn_tf, kn_ff, kn_ft, notT_, and_, kand_t, kand_f, if_, bre_t, bre_f, call_, cb_, neg_, sl_, nopart_, part_, FD.sl_tup, eq_int0, eq_int1, eq_bl0, eq_bl1, beq_self_eq_true, Bool.not_true, Bool.not_false, add_int, add_tup, add_ref, int_, int0_, mul_int, mul_str, ord_int, FD.ix_tup, ix_fl, ix_ref, at_0, at_1, at_2, at_3, len_tup, len_fl, len_ref, max2_, min2_, tuple_tup, tuple_ref, is_, gs_, setL_, ml_, for_, rng1_, any_, lc_, FD.sl_ref, list_tup, dict0_, dn_, sortK_, val_tup, yes_, isLst_, List.set_cons_zero, List.set_cons_succ, or_, kor_t, kor_f, not_, chain_, kch_t, kch_f, ord_str, len_str, ordc_, strc_int, val_str, add_str, sl_strD, match_, cc_, kc_n, kc_s, cn_, wild_, isi_ty (ha _) ty_tuple, hi]
      exact h
theorem is_place_spec {b k : Nat} {v : D} {G : DG} {Q : DK} (hv : Pb b k v) (hb : b ≤ 1000) (h : ∀ G', Keep G G' → Q (.bl (placeB v)) G') : sp_is_place [v] G Q := by
  refine ⟨rfl, ?_⟩
  show t_is_place _ [some v, none] G
  unfold t_is_place
  rcases hv.nt with ⟨ds, rfl⟩ | ⟨hn, a, ha, hi⟩
  · try simp only [seq_, next_, ret_, drop_, ifs_, br_t, br_f, asg_, gn_, gt_, gtc_, gtn_, par_, var_0, var_s, c_, nil_, cons_, tup_, lst_, op_, bool_, kb_, tru_, tr_bl, andT_, orT_, kn_tt, kn_tf, kn_ff, kn_ft, notT_, and_, kand_t, kand_f, if_, bre_t, bre_f, call_, cb_, neg_, sl_, nopart_, part_, FD.sl_tup, eq_int0, eq_int1, eq_bl0, eq_bl1, beq_self_eq_true, Bool.not_true, Bool.not_false, add_int, add_tup, add_ref, int_, int0_, mul_int, mul_str, ord_int, FD.ix_tup, ix_fl, ix_ref, at_0, at_1, at_2, at_3, len_tup, len_fl, len_ref, max2_, min2_, tuple_tup, tuple_ref, is_, gs_, setL_, ml_, for_, rng1_, any_, lc_, FD.sl_ref, list_tup, dict0_, dn_, sortK_, val_tup, yes_, isLst_, List.set_cons_zero, List.set_cons_succ, or_, kor_t, kor_f, not_, chain_, kch_t, kch_f, ord_str, len_str, ordc_, strc_int, val_str, add_str, sl_strD, match_, cc_, kc_n, kc_s, cn_, wild_, isi_ty (show tyD G (.tup ds) = some .tuple from rfl) ty_tuple, show Ty.isa .tuple .tuple = true from rfl, len_eq (show (4 : Int) = (4 : Nat) from rfl)]
    by_cases hl : ds.length = 4
    · obtain ⟨c, a, r, n, rfl⟩ := len_four hl
      have hit := hv.items.2
      have h : ∀ G', Keep G G' → Q (.bl (textB c && textsB a && rowsB r && cntB n)) G' := h
      rw [decide_eq_true hl]
      try simp only [seq_, next_, ret_, drop_, ifs_, br_t, br_f, asg_, gn_, gt_, gtc_, gtn_, par_, var_0, var_s, c_, nil_, cons_, tup_, lst_, op_, bool_, kb_, tru_, tr_bl, andT_, orT_, kn_tt, kn_tf, kn_ff, kn_ft, notT_, and_, kand_t, kand_f, if_, bre_t, bre_f, call_, cb_, neg_, sl_, nopart_, part_, FD.sl_tup, eq_int0, eq_int1, eq_bl0, eq_bl1, beq_self_eq_true, Bool.not_true, Bool.not_false, add_int, add_tup, add_ref, int_, int0_, mul_int, mul_str, ord_int, FD.ix_tup, ix_fl, ix_ref, at_0, at_1, at_2, at_3, len_tup, len_fl, len_ref, max2_, min2_, tuple_tup, tuple_ref, is_, gs_, setL_, ml_, for_, rng1_, any_, lc_, FD.sl_ref, list_tup, dict0_, dn_, sortK_, val_tup, yes_, isLst_, List.set_cons_zero, List.set_cons_succ, or_, kor_t, kor_f, not_, chain_, kch_t, kch_f, ord_str, len_str, ordc_, strc_int, val_str, add_str, sl_strD, match_, cc_, kc_n, kc_s, cn_, wild_]
      refine is_text_spec (hit c (by simp)) fun G1 k1 => ?_
      try simp only [seq_, next_, ret_, drop_, ifs_, br_t, br_f, asg_, gn_, gt_, gtc_, gtn_, par_, var_0, var_s, c_, nil_, cons_, tup_, lst_, op_, bool_, kb_, tru_, tr_bl, andT_, orT_, kn_tt, kn_tf, kn_ff, kn_ft, notT_, and_, kand_t, kand_f, if_, bre_t, bre_f, call_, cb_, neg_, sl_, nopart_, part_, FD.sl_tup, eq_int0, eq_int1, eq_bl0, eq_bl1, beq_self_eq_true, Bool.not_true, Bool.not_false, add_int, add_tup, add_ref, int_, int0_, mul_int, mul_str, ord_int, FD.ix_tup, ix_fl, ix_ref, at_0, at_1, at_2, at_3, len_tup, len_fl, len_ref, max2_, min2_, tuple_tup, tuple_ref, is_, gs_, setL_, ml_, for_, rng1_, any_, lc_, FD.sl_ref, list_tup, dict0_, dn_, sortK_, val_tup, yes_, isLst_, List.set_cons_zero, List.set_cons_succ, or_, kor_t, kor_f, not_, chain_, kch_t, kch_f, ord_str, len_str, ordc_, strc_int, val_str, add_str, sl_strD, match_, cc_, kc_n, kc_s, cn_, wild_]
      cases hc : textB c with
      | false =>
        rw [hc] at h
        try simp only [seq_, next_, ret_, drop_, ifs_, br_t, br_f, asg_, gn_, gt_, gtc_, gtn_, par_, var_0, var_s, c_, nil_, cons_, tup_, lst_, op_, bool_, kb_, tru_, tr_bl, andT_, orT_, kn_tt, kn_tf, kn_ff, kn_ft, notT_, and_, kand_t, kand_f, if_, bre_t, bre_f, call_, cb_, neg_, sl_, nopart_, part_, FD.sl_tup, eq_int0, eq_int1, eq_bl0, eq_bl1, beq_self_eq_true, Bool.not_true, Bool.not_false, add_int, add_tup, add_ref, int_, int0_, mul_int, mul_str, ord_int, FD.ix_tup, ix_fl, ix_ref, at_0, at_1, at_2, at_3, len_tup, len_fl, len_ref, max2_, min2_, tuple_tup, tuple_ref, is_, gs_, setL_, ml_, for_, rng1_, any_, lc_, FD.sl_ref, list_tup, dict0_, dn_, sortK_, val_tup, yes_, isLst_, List.set_cons_zero, List.set_cons_succ, or_, kor_t, kor_f, not_, chain_, kch_t, kch_f, ord_str, len_str, ordc_, strc_int, val_str, add_str, sl_strD, match_, cc_, kc_n, kc_s, cn_, wild_]
        exact h _ k1
      | true =>
      rw [hc] at h
      try simp only [seq_, next_, ret_, drop_, ifs_, br_t, br_f, asg_, gn_, gt_, gtc_, gtn_, par_, var_0, var_s, c_, nil_, cons_, tup_, lst_, op_, bool_, kb_, tru_, tr_bl, andT_, orT_, kn_tt, kn_tf, kn_ff, kn_ft, notT_, and_, kand_t, kand_f, if_, bre_t, bre_f, call_, cb_, neg_, sl_, nopart_, part_, FD.sl_tup, eq_int0, eq_int1, eq_bl0, eq_bl1, beq_self_eq_true, Bool.not_true, Bool.not_false, add_int, add_tup, add_ref, int_, int0_, mul_int, mul_str, ord_int, FD.ix_tup, ix_fl, ix_ref, at_0, at_1, at_2, at_3, len_tup, len_fl, len_ref, max2_, min2_, tuple_tup, tuple_ref, is_, gs_, setL_, ml_, for_, rng1_, any_, lc_, FD.sl_ref, list_tup, dict0_, dn_, sortK_, val_tup, yes_, isLst_, List.set_cons_zero, List.set_cons_succ, or_, kor_t, kor_f, not_, chain_, kch_t, kch_f, ord_str, len_str, ordc_, strc_int, val_str, add_str, sl_strD, match_, cc_, kc_n, kc_s, cn_, wild_]
      have ha := hit a (by simp)
      have hr := hit r (by simp)
      refine are_texts_spec ha hb ?_
      rcases ha.nt with ⟨as, rfl⟩ | ⟨hn, _⟩
      · refine .inl ⟨as, rfl, fun G2 k2 => ?_⟩
        have h : ∀ G', Keep G G' → Q (.bl (true && (as.all textB && decide (as.length ≤ 4)) && rowsB r && cntB n)) G' := h
        try simp only [seq_, next_, ret_, drop_, ifs_, br_t, br_f, asg_, gn_, gt_, gtc_, gtn_, par_, var_0, var_s, c_, nil_, cons_, tup_, lst_, op_, bool_, kb_, tru_, tr_bl, andT_, orT_, kn_tt, kn_tf, kn_ff, kn_ft, notT_, and_, kand_t, kand_f, if_, bre_t, bre_f, call_, cb_, neg_, sl_, nopart_, part_, FD.sl_tup, eq_int0, eq_int1, eq_bl0, eq_bl1, beq_self_eq_true, Bool.not_true, Bool.not_false, add_int, add_tup, add_ref, int_, int0_, mul_int, mul_str, ord_int, FD.ix_tup, ix_fl, ix_ref, at_0, at_1, at_2, at_3, len_tup, len_fl, len_ref, max2_, min2_, tuple_tup, tuple_ref, is_, gs_, setL_, ml_, for_, rng1_, any_, lc_, FD.sl_ref, list_tup, dict0_, dn_, sortK_, val_tup, yes_, isLst_, List.set_cons_zero, List.set_cons_succ, or_, kor_t, kor_f, not_, chain_, kch_t, kch_f, ord_str, len_str, ordc_, strc_int, val_str, add_str, sl_strD, match_, cc_, kc_n, kc_s, cn_, wild_]
        cases hat : as.all textB with
        | false =>
          rw [hat] at h
          try simp only [seq_, next_, ret_, drop_, ifs_, br_t, br_f, asg_, gn_, gt_, gtc_, gtn_, par_, var_0, var_s, c_, nil_, cons_, tup_, lst_, op_, bool_, kb_, tru_, tr_bl, andT_, orT_, kn_tt, kn_tf, kn_ff, kn_ft, notT_, and_, kand_t, kand_f, if_, bre_t, bre_f, call_, cb_, neg_, sl_, nopart_, part_, FD.sl_tup, eq_int0, eq_int1, eq_bl0, eq_bl1, beq_self_eq_true, Bool.not_true, Bool.not_false, add_int, add_tup, add_ref, int_, int0_, mul_int, mul_str, ord_int, FD.ix_tup, ix_fl, ix_ref, at_0, at_1, at_2, at_3, len_tup, len_fl, len_ref, max2_, min2_, tuple_tup, tuple_ref, is_, gs_, setL_, ml_, for_, rng1_, any_, lc_, FD.sl_ref, list_tup, dict0_, dn_, sortK_, val_tup, yes_, isLst_, List.set_cons_zero, List.set_cons_succ, or_, kor_t, kor_f, not_, chain_, kch_t, kch_f, ord_str, len_str, ordc_, strc_int, val_str, add_str, sl_strD, match_, cc_, kc_n, kc_s, cn_, wild_]
          exact h _ (k1.trans k2)
        | true =>
        rw [hat] at h
        try simp only [seq_, next_, ret_, drop_, ifs_, br_t, br_f, asg_, gn_, gt_, gtc_, gtn_, par_, var_0, var_s, c_, nil_, cons_, tup_, lst_, op_, bool_, kb_, tru_, tr_bl, andT_, orT_, kn_tt, kn_tf, kn_ff, kn_ft, notT_, and_, kand_t, kand_f, if_, bre_t, bre_f, call_, cb_, neg_, sl_, nopart_, part_, FD.sl_tup, eq_int0, eq_int1, eq_bl0, eq_bl1, beq_self_eq_true, Bool.not_true, Bool.not_false, add_int, add_tup, add_ref, int_, int0_, mul_int, mul_str, ord_int, FD.ix_tup, ix_fl, ix_ref, at_0, at_1, at_2, at_3, len_tup, len_fl, len_ref, max2_, min2_, tuple_tup, tuple_ref, is_, gs_, setL_, ml_, for_, rng1_, any_, lc_, FD.sl_ref, list_tup, dict0_, dn_, sortK_, val_tup, yes_, isLst_, List.set_cons_zero, List.set_cons_succ, or_, kor_t, kor_f, not_, chain_, kch_t, kch_f, ord_str, len_str, ordc_, strc_int, val_str, add_str, sl_strD, match_, cc_, kc_n, kc_s, cn_, wild_]
        by_cases h4 : as.length ≤ 4
        · rw [decide_eq_true h4] at h
          rw [decide_eq_false (by omega : ¬ (4 : Int) < as.length)]
          try simp only [seq_, next_, ret_, drop_, ifs_, br_t, br_f, asg_, gn_, gt_, gtc_, gtn_, par_, var_0, var_s, c_, nil_, cons_, tup_, lst_, op_, bool_, kb_, tru_, tr_bl, andT_, orT_, kn_tt, kn_tf, kn_ff, kn_ft, notT_, and_, kand_t, kand_f, if_, bre_t, bre_f, call_, cb_, neg_, sl_, nopart_, part_, FD.sl_tup, eq_int0, eq_int1, eq_bl0, eq_bl1, beq_self_eq_true, Bool.not_true, Bool.not_false, add_int, add_tup, add_ref, int_, int0_, mul_int, mul_str, ord_int, FD.ix_tup, ix_fl, ix_ref, at_0, at_1, at_2, at_3, len_tup, len_fl, len_ref, max2_, min2_, tuple_tup, tuple_ref, is_, gs_, setL_, ml_, for_, rng1_, any_, lc_, FD.sl_ref, list_tup, dict0_, dn_, sortK_, val_tup, yes_, isLst_, List.set_cons_zero, List.set_cons_succ, or_, kor_t, kor_f, not_, chain_, kch_t, kch_f, ord_str, len_str, ordc_, strc_int, val_str, add_str, sl_strD, match_, cc_, kc_n, kc_s, cn_, wild_]
          rcases hr.nt with ⟨rs, rfl⟩ | ⟨hn, a, ha, hi⟩
          · have h : ∀ G', Keep G G' → Q (.bl (true && (true && true) && (rs.all rowB) && cntB n)) G' := h
            try simp only [seq_, next_, ret_, drop_, ifs_, br_t, br_f, asg_, gn_, gt_, gtc_, gtn_, par_, var_0, var_s, c_, nil_, cons_, tup_, lst_, op_, bool_, kb_, tru_, tr_bl, andT_, orT_, kn_tt, kn_tf, kn_ff, kn_ft, notT_, and_, kand_t, kand_f, if_, bre_t, bre_f, call_, cb_, neg_, sl_, nopart_, part_, FD.sl_tup, eq_int0, eq_int1, eq_bl0, eq_bl1, beq_self_eq_true, Bool.not_true, Bool.not_false, add_int, add_tup, add_ref, int_, int0_, mul_int, mul_str, ord_int, FD.ix_tup, ix_fl, ix_ref, at_0, at_1, at_2, at_3, len_tup, len_fl, len_ref, max2_, min2_, tuple_tup, tuple_ref, is_, gs_, setL_, ml_, for_, rng1_, any_, lc_, FD.sl_ref, list_tup, dict0_, dn_, sortK_, val_tup, yes_, isLst_, List.set_cons_zero, List.set_cons_succ, or_, kor_t, kor_f, not_, chain_, kch_t, kch_f, ord_str, len_str, ordc_, strc_int, val_str, add_str, sl_strD, match_, cc_, kc_n, kc_s, cn_, wild_, isi_ty (show tyD G2 (.tup rs) = some .tuple from rfl) ty_tuple, show Ty.isa .tuple .tuple = true from rfl]
            refine lcAll (p := rowB) (by simp [wipeD]) (fun d hd {G Q} q => are_answers_spec (hr.items.2 d hd) q) (by have := hr.items.1; simp only [sizeLine]; omega) fun p G3 e3 k3 => ?_
            refine all_bl e3 ?_
            try simp only [seq_, next_, ret_, drop_, ifs_, br_t, br_f, asg_, gn_, gt_, gtc_, gtn_, par_, var_0, var_s, c_, nil_, cons_, tup_, lst_, op_, bool_, kb_, tru_, tr_bl, andT_, orT_, kn_tt, kn_tf, kn_ff, kn_ft, notT_, and_, kand_t, kand_f, if_, bre_t, bre_f, call_, cb_, neg_, sl_, nopart_, part_, FD.sl_tup, eq_int0, eq_int1, eq_bl0, eq_bl1, beq_self_eq_true, Bool.not_true, Bool.not_false, add_int, add_tup, add_ref, int_, int0_, mul_int, mul_str, ord_int, FD.ix_tup, ix_fl, ix_ref, at_0, at_1, at_2, at_3, len_tup, len_fl, len_ref, max2_, min2_, tuple_tup, tuple_ref, is_, gs_, setL_, ml_, for_, rng1_, any_, lc_, FD.sl_ref, list_tup, dict0_, dn_, sortK_, val_tup, yes_, isLst_, List.set_cons_zero, List.set_cons_succ, or_, kor_t, kor_f, not_, chain_, kch_t, kch_f, ord_str, len_str, ordc_, strc_int, val_str, add_str, sl_strD, match_, cc_, kc_n, kc_s, cn_, wild_]
            cases hrt : rs.all rowB with
            | false =>
              rw [hrt] at h
              try simp only [seq_, next_, ret_, drop_, ifs_, br_t, br_f, asg_, gn_, gt_, gtc_, gtn_, par_, var_0, var_s, c_, nil_, cons_, tup_, lst_, op_, bool_, kb_, tru_, tr_bl, andT_, orT_, kn_tt, kn_tf, kn_ff, kn_ft, notT_, and_, kand_t, kand_f, if_, bre_t, bre_f, call_, cb_, neg_, sl_, nopart_, part_, FD.sl_tup, eq_int0, eq_int1, eq_bl0, eq_bl1, beq_self_eq_true, Bool.not_true, Bool.not_false, add_int, add_tup, add_ref, int_, int0_, mul_int, mul_str, ord_int, FD.ix_tup, ix_fl, ix_ref, at_0, at_1, at_2, at_3, len_tup, len_fl, len_ref, max2_, min2_, tuple_tup, tuple_ref, is_, gs_, setL_, ml_, for_, rng1_, any_, lc_, FD.sl_ref, list_tup, dict0_, dn_, sortK_, val_tup, yes_, isLst_, List.set_cons_zero, List.set_cons_succ, or_, kor_t, kor_f, not_, chain_, kch_t, kch_f, ord_str, len_str, ordc_, strc_int, val_str, add_str, sl_strD, match_, cc_, kc_n, kc_s, cn_, wild_]
              exact h _ (k1.trans (k2.trans k3))
            | true =>
              rw [hrt] at h
              try simp only [seq_, next_, ret_, drop_, ifs_, br_t, br_f, asg_, gn_, gt_, gtc_, gtn_, par_, var_0, var_s, c_, nil_, cons_, tup_, lst_, op_, bool_, kb_, tru_, tr_bl, andT_, orT_, kn_tt, kn_tf, kn_ff, kn_ft, notT_, and_, kand_t, kand_f, if_, bre_t, bre_f, call_, cb_, neg_, sl_, nopart_, part_, FD.sl_tup, eq_int0, eq_int1, eq_bl0, eq_bl1, beq_self_eq_true, Bool.not_true, Bool.not_false, add_int, add_tup, add_ref, int_, int0_, mul_int, mul_str, ord_int, FD.ix_tup, ix_fl, ix_ref, at_0, at_1, at_2, at_3, len_tup, len_fl, len_ref, max2_, min2_, tuple_tup, tuple_ref, is_, gs_, setL_, ml_, for_, rng1_, any_, lc_, FD.sl_ref, list_tup, dict0_, dn_, sortK_, val_tup, yes_, isLst_, List.set_cons_zero, List.set_cons_succ, or_, kor_t, kor_f, not_, chain_, kch_t, kch_f, ord_str, len_str, ordc_, strc_int, val_str, add_str, sl_strD, match_, cc_, kc_n, kc_s, cn_, wild_]
              exact is_count_spec (hit n (by simp)) (h _ (k1.trans (k2.trans k3)))
          · try simp only [seq_, next_, ret_, drop_, ifs_, br_t, br_f, asg_, gn_, gt_, gtc_, gtn_, par_, var_0, var_s, c_, nil_, cons_, tup_, lst_, op_, bool_, kb_, tru_, tr_bl, andT_, orT_, kn_tt, kn_tf, kn_ff, kn_ft, notT_, and_, kand_t, kand_f, if_, bre_t, bre_f, call_, cb_, neg_, sl_, nopart_, part_, FD.sl_tup, eq_int0, eq_int1, eq_bl0, eq_bl1, beq_self_eq_true, Bool.not_true, Bool.not_false, add_int, add_tup, add_ref, int_, int0_, mul_int, mul_str, ord_int, FD.ix_tup, ix_fl, ix_ref, at_0, at_1, at_2, at_3, len_tup, len_fl, len_ref, max2_, min2_, tuple_tup, tuple_ref, is_, gs_, setL_, ml_, for_, rng1_, any_, lc_, FD.sl_ref, list_tup, dict0_, dn_, sortK_, val_tup, yes_, isLst_, List.set_cons_zero, List.set_cons_succ, or_, kor_t, kor_f, not_, chain_, kch_t, kch_f, ord_str, len_str, ordc_, strc_int, val_str, add_str, sl_strD, match_, cc_, kc_n, kc_s, cn_, wild_, isi_ty (ha _) ty_tuple, hi]
            rw [rows_no hn] at h
            exact h _ (k1.trans k2)
        · rw [decide_eq_false h4] at h
          rw [decide_eq_true (by omega : (4 : Int) < as.length)]
          try simp only [seq_, next_, ret_, drop_, ifs_, br_t, br_f, asg_, gn_, gt_, gtc_, gtn_, par_, var_0, var_s, c_, nil_, cons_, tup_, lst_, op_, bool_, kb_, tru_, tr_bl, andT_, orT_, kn_tt, kn_tf, kn_ff, kn_ft, notT_, and_, kand_t, kand_f, if_, bre_t, bre_f, call_, cb_, neg_, sl_, nopart_, part_, FD.sl_tup, eq_int0, eq_int1, eq_bl0, eq_bl1, beq_self_eq_true, Bool.not_true, Bool.not_false, add_int, add_tup, add_ref, int_, int0_, mul_int, mul_str, ord_int, FD.ix_tup, ix_fl, ix_ref, at_0, at_1, at_2, at_3, len_tup, len_fl, len_ref, max2_, min2_, tuple_tup, tuple_ref, is_, gs_, setL_, ml_, for_, rng1_, any_, lc_, FD.sl_ref, list_tup, dict0_, dn_, sortK_, val_tup, yes_, isLst_, List.set_cons_zero, List.set_cons_succ, or_, kor_t, kor_f, not_, chain_, kch_t, kch_f, ord_str, len_str, ordc_, strc_int, val_str, add_str, sl_strD, match_, cc_, kc_n, kc_s, cn_, wild_]
          exact h _ (k1.trans k2)
      · refine .inr ⟨hn, ?_⟩
        rw [texts_no hn] at h
        try simp only [seq_, next_, ret_, drop_, ifs_, br_t, br_f, asg_, gn_, gt_, gtc_, gtn_, par_, var_0, var_s, c_, nil_, cons_, tup_, lst_, op_, bool_, kb_, tru_, tr_bl, andT_, orT_, kn_tt, kn_tf, kn_ff, kn_ft, notT_, and_, kand_t, kand_f, if_, bre_t, bre_f, call_, cb_, neg_, sl_, nopart_, part_, FD.sl_tup, eq_int0, eq_int1, eq_bl0, eq_bl1, beq_self_eq_true, Bool.not_true, Bool.not_false, add_int, add_tup, add_ref, int_, int0_, mul_int, mul_str, ord_int, FD.ix_tup, ix_fl, ix_ref, at_0, at_1, at_2, at_3, len_tup, len_fl, len_ref, max2_, min2_, tuple_tup, tuple_ref, is_, gs_, setL_, ml_, for_, rng1_, any_, lc_, FD.sl_ref, list_tup, dict0_, dn_, sortK_, val_tup, yes_, isLst_, List.set_cons_zero, List.set_cons_succ, or_, kor_t, kor_f, not_, chain_, kch_t, kch_f, ord_str, len_str, ordc_, strc_int, val_str, add_str, sl_strD, match_, cc_, kc_n, kc_s, cn_, wild_]
        exact h _ k1
    · rw [place_len hl] at h
      rw [decide_eq_false hl]
      try simp only [seq_, next_, ret_, drop_, ifs_, br_t, br_f, asg_, gn_, gt_, gtc_, gtn_, par_, var_0, var_s, c_, nil_, cons_, tup_, lst_, op_, bool_, kb_, tru_, tr_bl, andT_, orT_, kn_tt, kn_tf, kn_ff, kn_ft, notT_, and_, kand_t, kand_f, if_, bre_t, bre_f, call_, cb_, neg_, sl_, nopart_, part_, FD.sl_tup, eq_int0, eq_int1, eq_bl0, eq_bl1, beq_self_eq_true, Bool.not_true, Bool.not_false, add_int, add_tup, add_ref, int_, int0_, mul_int, mul_str, ord_int, FD.ix_tup, ix_fl, ix_ref, at_0, at_1, at_2, at_3, len_tup, len_fl, len_ref, max2_, min2_, tuple_tup, tuple_ref, is_, gs_, setL_, ml_, for_, rng1_, any_, lc_, FD.sl_ref, list_tup, dict0_, dn_, sortK_, val_tup, yes_, isLst_, List.set_cons_zero, List.set_cons_succ, or_, kor_t, kor_f, not_, chain_, kch_t, kch_f, ord_str, len_str, ordc_, strc_int, val_str, add_str, sl_strD, match_, cc_, kc_n, kc_s, cn_, wild_]
      exact h _ .refl
  · try simp only [seq_, next_, ret_, drop_, ifs_, br_t, br_f, asg_, gn_, gt_, gtc_, gtn_, par_, var_0, var_s, c_, nil_, cons_, tup_, lst_, op_, bool_, kb_, tru_, tr_bl, andT_, orT_, kn_tt, kn_tf, kn_ff, kn_ft, notT_, and_, kand_t, kand_f, if_, bre_t, bre_f, call_, cb_, neg_, sl_, nopart_, part_, FD.sl_tup, eq_int0, eq_int1, eq_bl0, eq_bl1, beq_self_eq_true, Bool.not_true, Bool.not_false, add_int, add_tup, add_ref, int_, int0_, mul_int, mul_str, ord_int, FD.ix_tup, ix_fl, ix_ref, at_0, at_1, at_2, at_3, len_tup, len_fl, len_ref, max2_, min2_, tuple_tup, tuple_ref, is_, gs_, setL_, ml_, for_, rng1_, any_, lc_, FD.sl_ref, list_tup, dict0_, dn_, sortK_, val_tup, yes_, isLst_, List.set_cons_zero, List.set_cons_succ, or_, kor_t, kor_f, not_, chain_, kch_t, kch_f, ord_str, len_str, ordc_, strc_int, val_str, add_str, sl_strD, match_, cc_, kc_n, kc_s, cn_, wild_, isi_ty (ha _) ty_tuple, hi]
    rw [place_no hn] at h
    exact h _ .refl
theorem isEmpty_app {a b : List D} : (a ++ b).isEmpty = (a.isEmpty && b.isEmpty) := by cases a <;> rfl
theorem l_is_place_spec {b k : Nat} {v : D} {G : DG} {Q : DK} (hv : Pb b k v) (hb : b ≤ 1000) (h : ∀ G', Keep G G' → Q (.bl (placeB v)) G') : sp_l_is_place [v] G Q := by
  refine ⟨rfl, ?_⟩
  show t_l_is_place _ [some v, none, none] G
  unfold t_l_is_place
  rcases hv.nt with ⟨ds, rfl⟩ | ⟨hn, a, ha, hi⟩
  · try simp only [seq_, next_, ret_, drop_, ifs_, br_t, br_f, asg_, gn_, gt_, gtc_, gtn_, par_, var_0, var_s, c_, nil_, cons_, tup_, lst_, op_, bool_, kb_, tru_, tr_bl, andT_, orT_, kn_tt, kn_tf, kn_ff, kn_ft, notT_, and_, kand_t, kand_f, if_, bre_t, bre_f, call_, cb_, neg_, sl_, nopart_, part_, FD.sl_tup, eq_int0, eq_int1, eq_bl0, eq_bl1, beq_self_eq_true, Bool.not_true, Bool.not_false, add_int, add_tup, add_ref, int_, int0_, mul_int, mul_str, ord_int, FD.ix_tup, ix_fl, ix_ref, at_0, at_1, at_2, at_3, len_tup, len_fl, len_ref, max2_, min2_, tuple_tup, tuple_ref, is_, gs_, setL_, ml_, for_, rng1_, any_, lc_, FD.sl_ref, list_tup, dict0_, dn_, sortK_, val_tup, yes_, isLst_, List.set_cons_zero, List.set_cons_succ, or_, kor_t, kor_f, not_, chain_, kch_t, kch_f, ord_str, len_str, ordc_, strc_int, val_str, add_str, sl_strD, match_, cc_, kc_n, kc_s, cn_, wild_, isi_ty (show tyD G (.tup ds) = some .tuple from rfl) ty_tuple, show Ty.isa .tuple .tuple = true from rfl, len_eq (show (4 : Int) = (4 : Nat) from rfl)]
    by_cases hl : ds.length = 4
    · obtain ⟨c, a, r, n, rfl⟩ := len_four hl
      have hit := hv.items.2
      have h : ∀ G', Keep G G' → Q (.bl (textB c && textsB a && rowsB r && cntB n)) G' := h
      rw [decide_eq_true hl]
      try simp only [seq_, next_, ret_, drop_, ifs_, br_t, br_f, asg_, gn_, gt_, gtc_, gtn_, par_, var_0, var_s, c_, nil_, cons_, tup_, lst_, op_, bool_, kb_, tru_, tr_bl, andT_, orT_, kn_tt, kn_tf, kn_ff, kn_ft, notT_, and_, kand_t, kand_f, if_, bre_t, bre_f, call_, cb_, neg_, sl_, nopart_, part_, FD.sl_tup, eq_int0, eq_int1, eq_bl0, eq_bl1, beq_self_eq_true, Bool.not_true, Bool.not_false, add_int, add_tup, add_ref, int_, int0_, mul_int, mul_str, ord_int, FD.ix_tup, ix_fl, ix_ref, at_0, at_1, at_2, at_3, len_tup, len_fl, len_ref, max2_, min2_, tuple_tup, tuple_ref, is_, gs_, setL_, ml_, for_, rng1_, any_, lc_, FD.sl_ref, list_tup, dict0_, dn_, sortK_, val_tup, yes_, isLst_, List.set_cons_zero, List.set_cons_succ, or_, kor_t, kor_f, not_, chain_, kch_t, kch_f, ord_str, len_str, ordc_, strc_int, val_str, add_str, sl_strD, match_, cc_, kc_n, kc_s, cn_, wild_]
      refine l_is_text_spec (hit c (by simp)) fun G1 k1 => ?_
      try simp only [seq_, next_, ret_, drop_, ifs_, br_t, br_f, asg_, gn_, gt_, gtc_, gtn_, par_, var_0, var_s, c_, nil_, cons_, tup_, lst_, op_, bool_, kb_, tru_, tr_bl, andT_, orT_, kn_tt, kn_tf, kn_ff, kn_ft, notT_, and_, kand_t, kand_f, if_, bre_t, bre_f, call_, cb_, neg_, sl_, nopart_, part_, FD.sl_tup, eq_int0, eq_int1, eq_bl0, eq_bl1, beq_self_eq_true, Bool.not_true, Bool.not_false, add_int, add_tup, add_ref, int_, int0_, mul_int, mul_str, ord_int, FD.ix_tup, ix_fl, ix_ref, at_0, at_1, at_2, at_3, len_tup, len_fl, len_ref, max2_, min2_, tuple_tup, tuple_ref, is_, gs_, setL_, ml_, for_, rng1_, any_, lc_, FD.sl_ref, list_tup, dict0_, dn_, sortK_, val_tup, yes_, isLst_, List.set_cons_zero, List.set_cons_succ, or_, kor_t, kor_f, not_, chain_, kch_t, kch_f, ord_str, len_str, ordc_, strc_int, val_str, add_str, sl_strD, match_, cc_, kc_n, kc_s, cn_, wild_]
      cases hc : textB c with
      | false =>
        rw [hc] at h
        try simp only [seq_, next_, ret_, drop_, ifs_, br_t, br_f, asg_, gn_, gt_, gtc_, gtn_, par_, var_0, var_s, c_, nil_, cons_, tup_, lst_, op_, bool_, kb_, tru_, tr_bl, andT_, orT_, kn_tt, kn_tf, kn_ff, kn_ft, notT_, and_, kand_t, kand_f, if_, bre_t, bre_f, call_, cb_, neg_, sl_, nopart_, part_, FD.sl_tup, eq_int0, eq_int1, eq_bl0, eq_bl1, beq_self_eq_true, Bool.not_true, Bool.not_false, add_int, add_tup, add_ref, int_, int0_, mul_int, mul_str, ord_int, FD.ix_tup, ix_fl, ix_ref, at_0, at_1, at_2, at_3, len_tup, len_fl, len_ref, max2_, min2_, tuple_tup, tuple_ref, is_, gs_, setL_, ml_, for_, rng1_, any_, lc_, FD.sl_ref, list_tup, dict0_, dn_, sortK_, val_tup, yes_, isLst_, List.set_cons_zero, List.set_cons_succ, or_, kor_t, kor_f, not_, chain_, kch_t, kch_f, ord_str, len_str, ordc_, strc_int, val_str, add_str, sl_strD, match_, cc_, kc_n, kc_s, cn_, wild_]
        exact h _ k1
      | true =>
      rw [hc] at h
      try simp only [seq_, next_, ret_, drop_, ifs_, br_t, br_f, asg_, gn_, gt_, gtc_, gtn_, par_, var_0, var_s, c_, nil_, cons_, tup_, lst_, op_, bool_, kb_, tru_, tr_bl, andT_, orT_, kn_tt, kn_tf, kn_ff, kn_ft, notT_, and_, kand_t, kand_f, if_, bre_t, bre_f, call_, cb_, neg_, sl_, nopart_, part_, FD.sl_tup, eq_int0, eq_int1, eq_bl0, eq_bl1, beq_self_eq_true, Bool.not_true, Bool.not_false, add_int, add_tup, add_ref, int_, int0_, mul_int, mul_str, ord_int, FD.ix_tup, ix_fl, ix_ref, at_0, at_1, at_2, at_3, len_tup, len_fl, len_ref, max2_, min2_, tuple_tup, tuple_ref, is_, gs_, setL_, ml_, for_, rng1_, any_, lc_, FD.sl_ref, list_tup, dict0_, dn_, sortK_, val_tup, yes_, isLst_, List.set_cons_zero, List.set_cons_succ, or_, kor_t, kor_f, not_, chain_, kch_t, kch_f, ord_str, len_str, ordc_, strc_int, val_str, add_str, sl_strD, match_, cc_, kc_n, kc_s, cn_, wild_]
      have ha := hit a (by simp)
      have hr := hit r (by simp)
      rcases ha.nt with ⟨as, rfl⟩ | ⟨hn, a, ha, hi⟩
      · have h : ∀ G', Keep G G' → Q (.bl (true && (as.all textB && decide (as.length ≤ 4)) && rowsB r && cntB n)) G' := h
        try simp only [seq_, next_, ret_, drop_, ifs_, br_t, br_f, asg_, gn_, gt_, gtc_, gtn_, par_, var_0, var_s, c_, nil_, cons_, tup_, lst_, op_, bool_, kb_, tru_, tr_bl, andT_, orT_, kn_tt, kn_tf, kn_ff, kn_ft, notT_, and_, kand_t, kand_f, if_, bre_t, bre_f, call_, cb_, neg_, sl_, nopart_, part_, FD.sl_tup, eq_int0, eq_int1, eq_bl0, eq_bl1, beq_self_eq_true, Bool.not_true, Bool.not_false, add_int, add_tup, add_ref, int_, int0_, mul_int, mul_str, ord_int, FD.ix_tup, ix_fl, ix_ref, at_0, at_1, at_2, at_3, len_tup, len_fl, len_ref, max2_, min2_, tuple_tup, tuple_ref, is_, gs_, setL_, ml_, for_, rng1_, any_, lc_, FD.sl_ref, list_tup, dict0_, dn_, sortK_, val_tup, yes_, isLst_, List.set_cons_zero, List.set_cons_succ, or_, kor_t, kor_f, not_, chain_, kch_t, kch_f, ord_str, len_str, ordc_, strc_int, val_str, add_str, sl_strD, match_, cc_, kc_n, kc_s, cn_, wild_, isi_ty (show tyD G1 (.tup as) = some .tuple from rfl) ty_tuple, show Ty.isa .tuple .tuple = true from rfl]
        by_cases h4 : as.length ≤ 4
        · rw [decide_eq_true h4] at h
          rw [decide_eq_false (by omega : ¬ (4 : Int) < as.length)]
          try simp only [seq_, next_, ret_, drop_, ifs_, br_t, br_f, asg_, gn_, gt_, gtc_, gtn_, par_, var_0, var_s, c_, nil_, cons_, tup_, lst_, op_, bool_, kb_, tru_, tr_bl, andT_, orT_, kn_tt, kn_tf, kn_ff, kn_ft, notT_, and_, kand_t, kand_f, if_, bre_t, bre_f, call_, cb_, neg_, sl_, nopart_, part_, FD.sl_tup, eq_int0, eq_int1, eq_bl0, eq_bl1, beq_self_eq_true, Bool.not_true, Bool.not_false, add_int, add_tup, add_ref, int_, int0_, mul_int, mul_str, ord_int, FD.ix_tup, ix_fl, ix_ref, at_0, at_1, at_2, at_3, len_tup, len_fl, len_ref, max2_, min2_, tuple_tup, tuple_ref, is_, gs_, setL_, ml_, for_, rng1_, any_, lc_, FD.sl_ref, list_tup, dict0_, dn_, sortK_, val_tup, yes_, isLst_, List.set_cons_zero, List.set_cons_succ, or_, kor_t, kor_f, not_, chain_, kch_t, kch_f, ord_str, len_str, ordc_, strc_int, val_str, add_str, sl_strD, match_, cc_, kc_n, kc_s, cn_, wild_]
          rcases hr.nt with ⟨rs, rfl⟩ | ⟨hn, a, ha, hi⟩
          · have h : ∀ G', Keep G G' → Q (.bl (true && (as.all textB && true) && (rs.all rowB) && cntB n)) G' := h
            try simp only [seq_, next_, ret_, drop_, ifs_, br_t, br_f, asg_, gn_, gt_, gtc_, gtn_, par_, var_0, var_s, c_, nil_, cons_, tup_, lst_, op_, bool_, kb_, tru_, tr_bl, andT_, orT_, kn_tt, kn_tf, kn_ff, kn_ft, notT_, and_, kand_t, kand_f, if_, bre_t, bre_f, call_, cb_, neg_, sl_, nopart_, part_, FD.sl_tup, eq_int0, eq_int1, eq_bl0, eq_bl1, beq_self_eq_true, Bool.not_true, Bool.not_false, add_int, add_tup, add_ref, int_, int0_, mul_int, mul_str, ord_int, FD.ix_tup, ix_fl, ix_ref, at_0, at_1, at_2, at_3, len_tup, len_fl, len_ref, max2_, min2_, tuple_tup, tuple_ref, is_, gs_, setL_, ml_, for_, rng1_, any_, lc_, FD.sl_ref, list_tup, dict0_, dn_, sortK_, val_tup, yes_, isLst_, List.set_cons_zero, List.set_cons_succ, or_, kor_t, kor_f, not_, chain_, kch_t, kch_f, ord_str, len_str, ordc_, strc_int, val_str, add_str, sl_strD, match_, cc_, kc_n, kc_s, cn_, wild_, isi_ty (show tyD G1 (.tup rs) = some .tuple from rfl) ty_tuple, show Ty.isa .tuple .tuple = true from rfl]
            refine lcBad (p := textB) (by simp [wipeD]) (fun d hd {G Q} q => l_is_text_spec (ha.items.2 d hd) q) (by have := ha.items.1; simp only [sizeLine]; omega) fun p G2 e2 k2 => ?_
            try simp only [seq_, next_, ret_, drop_, ifs_, br_t, br_f, asg_, gn_, gt_, gtc_, gtn_, par_, var_0, var_s, c_, nil_, cons_, tup_, lst_, op_, bool_, kb_, tru_, tr_bl, andT_, orT_, kn_tt, kn_tf, kn_ff, kn_ft, notT_, and_, kand_t, kand_f, if_, bre_t, bre_f, call_, cb_, neg_, sl_, nopart_, part_, FD.sl_tup, eq_int0, eq_int1, eq_bl0, eq_bl1, beq_self_eq_true, Bool.not_true, Bool.not_false, add_int, add_tup, add_ref, int_, int0_, mul_int, mul_str, ord_int, FD.ix_tup, ix_fl, ix_ref, at_0, at_1, at_2, at_3, len_tup, len_fl, len_ref, max2_, min2_, tuple_tup, tuple_ref, is_, gs_, setL_, ml_, for_, rng1_, any_, lc_, FD.sl_ref, list_tup, dict0_, dn_, sortK_, val_tup, yes_, isLst_, List.set_cons_zero, List.set_cons_succ, or_, kor_t, kor_f, not_, chain_, kch_t, kch_f, ord_str, len_str, ordc_, strc_int, val_str, add_str, sl_strD, match_, cc_, kc_n, kc_s, cn_, wild_]
            refine lcBad (p := rowB) (by simp [wipeD]) (fun d hd {G Q} q => l_is_row_spec (hr.items.2 d hd) q) (by have := hr.items.1; simp only [sizeLine]; omega) fun p3 G3 e3 k3 => ?_
            have e2' := k3 _ _ e2
            try simp only [seq_, next_, ret_, drop_, ifs_, br_t, br_f, asg_, gn_, gt_, gtc_, gtn_, par_, var_0, var_s, c_, nil_, cons_, tup_, lst_, op_, bool_, kb_, tru_, tr_bl, andT_, orT_, kn_tt, kn_tf, kn_ff, kn_ft, notT_, and_, kand_t, kand_f, if_, bre_t, bre_f, call_, cb_, neg_, sl_, nopart_, part_, FD.sl_tup, eq_int0, eq_int1, eq_bl0, eq_bl1, beq_self_eq_true, Bool.not_true, Bool.not_false, add_int, add_tup, add_ref, int_, int0_, mul_int, mul_str, ord_int, FD.ix_tup, ix_fl, ix_ref, at_0, at_1, at_2, at_3, len_tup, len_fl, len_ref, max2_, min2_, tuple_tup, tuple_ref, is_, gs_, setL_, ml_, for_, rng1_, any_, lc_, FD.sl_ref, list_tup, dict0_, dn_, sortK_, val_tup, yes_, isLst_, List.set_cons_zero, List.set_cons_succ, or_, kor_t, kor_f, not_, chain_, kch_t, kch_f, ord_str, len_str, ordc_, strc_int, val_str, add_str, sl_strD, match_, cc_, kc_n, kc_s, cn_, wild_, ex_lst e2', ex_lst e3]
            have hl1 : ((as.filter fun d => !textB d).map fun _ => D.int 1).length ≤ 1000 := by
              rw [List.length_map]; exact Nat.le_trans (List.length_filter_le _ _) (by omega)
            have hl2 : ((rs.filter fun d => !rowB d).map fun _ => D.int 1).length ≤ 1000 := by
              rw [List.length_map]; exact Nat.le_trans (List.length_filter_le _ _) (by have := hr.items.1; omega)
            refine ⟨by simp only [sizeLine]; omega, ?_⟩
            refine new_ fun p4 G4 _ e4 k4 => ?_
            try simp only [seq_, next_, ret_, drop_, ifs_, br_t, br_f, asg_, gn_, gt_, gtc_, gtn_, par_, var_0, var_s, c_, nil_, cons_, tup_, lst_, op_, bool_, kb_, tru_, tr_bl, andT_, orT_, kn_tt, kn_tf, kn_ff, kn_ft, notT_, and_, kand_t, kand_f, if_, bre_t, bre_f, call_, cb_, neg_, sl_, nopart_, part_, FD.sl_tup, eq_int0, eq_int1, eq_bl0, eq_bl1, beq_self_eq_true, Bool.not_true, Bool.not_false, add_int, add_tup, add_ref, int_, int0_, mul_int, mul_str, ord_int, FD.ix_tup, ix_fl, ix_ref, at_0, at_1, at_2, at_3, len_tup, len_fl, len_ref, max2_, min2_, tuple_tup, tuple_ref, is_, gs_, setL_, ml_, for_, rng1_, any_, lc_, FD.sl_ref, list_tup, dict0_, dn_, sortK_, val_tup, yes_, isLst_, List.set_cons_zero, List.set_cons_succ, or_, kor_t, kor_f, not_, chain_, kch_t, kch_f, ord_str, len_str, ordc_, strc_int, val_str, add_str, sl_strD, match_, cc_, kc_n, kc_s, cn_, wild_]
            repeat (with_reducible refine And.intro (by first | rfl | omega | (simp only [sizeLine, List.length_cons, List.length_nil, List.length_append] <;> omega)) ?_)
            refine new_ fun p5 G5 _ e5 k5 => ?_
            have hpl : ∀ d ∈ (((as.filter fun d => !textB d).map fun _ => D.int 1) ++ ((rs.filter fun d => !rowB d).map fun _ => D.int 1)), Pl 0 d := fun d hd => by
              rcases List.mem_append.mp hd with hd | hd
              · exact ones_pl d hd
              · exact ones_pl d hd
            refine eq_pls1 (k := 0) (m := 0) (k5 _ _ e4) e5 hpl (fun _ h => nomatch h) (by decide) (by decide) ?_
            rw [eqv_nil, isEmpty_app, flt_all, flt_all]
            have kk := k1.trans (k2.trans (k3.trans (k4.trans k5)))
            try simp only [seq_, next_, ret_, drop_, ifs_, br_t, br_f, asg_, gn_, gt_, gtc_, gtn_, par_, var_0, var_s, c_, nil_, cons_, tup_, lst_, op_, bool_, kb_, tru_, tr_bl, andT_, orT_, kn_tt, kn_tf, kn_ff, kn_ft, notT_, and_, kand_t, kand_f, if_, bre_t, bre_f, call_, cb_, neg_, sl_, nopart_, part_, FD.sl_tup, eq_int0, eq_int1, eq_bl0, eq_bl1, beq_self_eq_true, Bool.not_true, Bool.not_false, add_int, add_tup, add_ref, int_, int0_, mul_int, mul_str, ord_int, FD.ix_tup, ix_fl, ix_ref, at_0, at_1, at_2, at_3, len_tup, len_fl, len_ref, max2_, min2_, tuple_tup, tuple_ref, is_, gs_, setL_, ml_, for_, rng1_, any_, lc_, FD.sl_ref, list_tup, dict0_, dn_, sortK_, val_tup, yes_, isLst_, List.set_cons_zero, List.set_cons_succ, or_, kor_t, kor_f, not_, chain_, kch_t, kch_f, ord_str, len_str, ordc_, strc_int, val_str, add_str, sl_strD, match_, cc_, kc_n, kc_s, cn_, wild_]
            cases hat : as.all textB with
            | false =>
              rw [hat] at h
              try simp only [seq_, next_, ret_, drop_, ifs_, br_t, br_f, asg_, gn_, gt_, gtc_, gtn_, par_, var_0, var_s, c_, nil_, cons_, tup_, lst_, op_, bool_, kb_, tru_, tr_bl, andT_, orT_, kn_tt, kn_tf, kn_ff, kn_ft, notT_, and_, kand_t, kand_f, if_, bre_t, bre_f, call_, cb_, neg_, sl_, nopart_, part_, FD.sl_tup, eq_int0, eq_int1, eq_bl0, eq_bl1, beq_self_eq_true, Bool.not_true, Bool.not_false, add_int, add_tup, add_ref, int_, int0_, mul_int, mul_str, ord_int, FD.ix_tup, ix_fl, ix_ref, at_0, at_1, at_2, at_3, len_tup, len_fl, len_ref, max2_, min2_, tuple_tup, tuple_ref, is_, gs_, setL_, ml_, for_, rng1_, any_, lc_, FD.sl_ref, list_tup, dict0_, dn_, sortK_, val_tup, yes_, isLst_, List.set_cons_zero, List.set_cons_succ, or_, kor_t, kor_f, not_, chain_, kch_t, kch_f, ord_str, len_str, ordc_, strc_int, val_str, add_str, sl_strD, match_, cc_, kc_n, kc_s, cn_, wild_, Bool.false_and]
              exact h _ kk
            | true =>
            rw [hat] at h
            cases hrt : rs.all rowB with
            | false =>
              rw [hrt] at h
              try simp only [seq_, next_, ret_, drop_, ifs_, br_t, br_f, asg_, gn_, gt_, gtc_, gtn_, par_, var_0, var_s, c_, nil_, cons_, tup_, lst_, op_, bool_, kb_, tru_, tr_bl, andT_, orT_, kn_tt, kn_tf, kn_ff, kn_ft, notT_, and_, kand_t, kand_f, if_, bre_t, bre_f, call_, cb_, neg_, sl_, nopart_, part_, FD.sl_tup, eq_int0, eq_int1, eq_bl0, eq_bl1, beq_self_eq_true, Bool.not_true, Bool.not_false, add_int, add_tup, add_ref, int_, int0_, mul_int, mul_str, ord_int, FD.ix_tup, ix_fl, ix_ref, at_0, at_1, at_2, at_3, len_tup, len_fl, len_ref, max2_, min2_, tuple_tup, tuple_ref, is_, gs_, setL_, ml_, for_, rng1_, any_, lc_, FD.sl_ref, list_tup, dict0_, dn_, sortK_, val_tup, yes_, isLst_, List.set_cons_zero, List.set_cons_succ, or_, kor_t, kor_f, not_, chain_, kch_t, kch_f, ord_str, len_str, ordc_, strc_int, val_str, add_str, sl_strD, match_, cc_, kc_n, kc_s, cn_, wild_, Bool.and_false]
              exact h _ kk
            | true =>
            rw [hrt] at h
            try simp only [seq_, next_, ret_, drop_, ifs_, br_t, br_f, asg_, gn_, gt_, gtc_, gtn_, par_, var_0, var_s, c_, nil_, cons_, tup_, lst_, op_, bool_, kb_, tru_, tr_bl, andT_, orT_, kn_tt, kn_tf, kn_ff, kn_ft, notT_, and_, kand_t, kand_f, if_, bre_t, bre_f, call_, cb_, neg_, sl_, nopart_, part_, FD.sl_tup, eq_int0, eq_int1, eq_bl0, eq_bl1, beq_self_eq_true, Bool.not_true, Bool.not_false, add_int, add_tup, add_ref, int_, int0_, mul_int, mul_str, ord_int, FD.ix_tup, ix_fl, ix_ref, at_0, at_1, at_2, at_3, len_tup, len_fl, len_ref, max2_, min2_, tuple_tup, tuple_ref, is_, gs_, setL_, ml_, for_, rng1_, any_, lc_, FD.sl_ref, list_tup, dict0_, dn_, sortK_, val_tup, yes_, isLst_, List.set_cons_zero, List.set_cons_succ, or_, kor_t, kor_f, not_, chain_, kch_t, kch_f, ord_str, len_str, ordc_, strc_int, val_str, add_str, sl_strD, match_, cc_, kc_n, kc_s, cn_, wild_, Bool.and_true]
            have h := h _ kk
            rcases (hit n (by simp)).no with ⟨ds, rfl⟩ | rfl | ⟨i, rfl⟩ | ⟨i, rfl⟩ | ⟨s, rfl, e, hl⟩
            · try simp only [seq_, next_, ret_, drop_, ifs_, br_t, br_f, asg_, gn_, gt_, gtc_, gtn_, par_, var_0, var_s, c_, nil_, cons_, tup_, lst_, op_, bool_, kb_, tru_, tr_bl, andT_, orT_, kn_tt, kn_tf, kn_ff, kn_ft, notT_, and_, kand_t, kand_f, if_, bre_t, bre_f, call_, cb_, neg_, sl_, nopart_, part_, FD.sl_tup, eq_int0, eq_int1, eq_bl0, eq_bl1, beq_self_eq_true, Bool.not_true, Bool.not_false, add_int, add_tup, add_ref, int_, int0_, mul_int, mul_str, ord_int, FD.ix_tup, ix_fl, ix_ref, at_0, at_1, at_2, at_3, len_tup, len_fl, len_ref, max2_, min2_, tuple_tup, tuple_ref, is_, gs_, setL_, ml_, for_, rng1_, any_, lc_, FD.sl_ref, list_tup, dict0_, dn_, sortK_, val_tup, yes_, isLst_, List.set_cons_zero, List.set_cons_succ, or_, kor_t, kor_f, not_, chain_, kch_t, kch_f, ord_str, len_str, ordc_, strc_int, val_str, add_str, sl_strD, match_, cc_, kc_n, kc_s, cn_, wild_, isi_ty (show tyD G5 (.tup ds) = some .tuple from rfl) ty_int, show Ty.isa .tuple .int = false from rfl]
              exact h
            · try simp only [seq_, next_, ret_, drop_, ifs_, br_t, br_f, asg_, gn_, gt_, gtc_, gtn_, par_, var_0, var_s, c_, nil_, cons_, tup_, lst_, op_, bool_, kb_, tru_, tr_bl, andT_, orT_, kn_tt, kn_tf, kn_ff, kn_ft, notT_, and_, kand_t, kand_f, if_, bre_t, bre_f, call_, cb_, neg_, sl_, nopart_, part_, FD.sl_tup, eq_int0, eq_int1, eq_bl0, eq_bl1, beq_self_eq_true, Bool.not_true, Bool.not_false, add_int, add_tup, add_ref, int_, int0_, mul_int, mul_str, ord_int, FD.ix_tup, ix_fl, ix_ref, at_0, at_1, at_2, at_3, len_tup, len_fl, len_ref, max2_, min2_, tuple_tup, tuple_ref, is_, gs_, setL_, ml_, for_, rng1_, any_, lc_, FD.sl_ref, list_tup, dict0_, dn_, sortK_, val_tup, yes_, isLst_, List.set_cons_zero, List.set_cons_succ, or_, kor_t, kor_f, not_, chain_, kch_t, kch_f, ord_str, len_str, ordc_, strc_int, val_str, add_str, sl_strD, match_, cc_, kc_n, kc_s, cn_, wild_, isi_ty (show tyD G5 .non = some .none from rfl) ty_int, show Ty.isa .none .int = false from rfl]
              exact h
            · try simp only [seq_, next_, ret_, drop_, ifs_, br_t, br_f, asg_, gn_, gt_, gtc_, gtn_, par_, var_0, var_s, c_, nil_, cons_, tup_, lst_, op_, bool_, kb_, tru_, tr_bl, andT_, orT_, kn_tt, kn_tf, kn_ff, kn_ft, notT_, and_, kand_t, kand_f, if_, bre_t, bre_f, call_, cb_, neg_, sl_, nopart_, part_, FD.sl_tup, eq_int0, eq_int1, eq_bl0, eq_bl1, beq_self_eq_true, Bool.not_true, Bool.not_false, add_int, add_tup, add_ref, int_, int0_, mul_int, mul_str, ord_int, FD.ix_tup, ix_fl, ix_ref, at_0, at_1, at_2, at_3, len_tup, len_fl, len_ref, max2_, min2_, tuple_tup, tuple_ref, is_, gs_, setL_, ml_, for_, rng1_, any_, lc_, FD.sl_ref, list_tup, dict0_, dn_, sortK_, val_tup, yes_, isLst_, List.set_cons_zero, List.set_cons_succ, or_, kor_t, kor_f, not_, chain_, kch_t, kch_f, ord_str, len_str, ordc_, strc_int, val_str, add_str, sl_strD, match_, cc_, kc_n, kc_s, cn_, wild_, isi_ty (show tyD G5 (.int i) = some .int from rfl) ty_int, isi_ty (show tyD G5 (.int i) = some .int from rfl) ty_bool, show Ty.isa .int .int = true from rfl, show Ty.isa .int .bool = false from rfl]
              exact h
            · try simp only [seq_, next_, ret_, drop_, ifs_, br_t, br_f, asg_, gn_, gt_, gtc_, gtn_, par_, var_0, var_s, c_, nil_, cons_, tup_, lst_, op_, bool_, kb_, tru_, tr_bl, andT_, orT_, kn_tt, kn_tf, kn_ff, kn_ft, notT_, and_, kand_t, kand_f, if_, bre_t, bre_f, call_, cb_, neg_, sl_, nopart_, part_, FD.sl_tup, eq_int0, eq_int1, eq_bl0, eq_bl1, beq_self_eq_true, Bool.not_true, Bool.not_false, add_int, add_tup, add_ref, int_, int0_, mul_int, mul_str, ord_int, FD.ix_tup, ix_fl, ix_ref, at_0, at_1, at_2, at_3, len_tup, len_fl, len_ref, max2_, min2_, tuple_tup, tuple_ref, is_, gs_, setL_, ml_, for_, rng1_, any_, lc_, FD.sl_ref, list_tup, dict0_, dn_, sortK_, val_tup, yes_, isLst_, List.set_cons_zero, List.set_cons_succ, or_, kor_t, kor_f, not_, chain_, kch_t, kch_f, ord_str, len_str, ordc_, strc_int, val_str, add_str, sl_strD, match_, cc_, kc_n, kc_s, cn_, wild_, isi_ty (show tyD G5 (.bl i) = some .bool from rfl) ty_int, isi_ty (show tyD G5 (.bl i) = some .bool from rfl) ty_bool, show Ty.isa .bool .int = true from rfl, show Ty.isa .bool .bool = true from rfl]
              exact h
            · try simp only [seq_, next_, ret_, drop_, ifs_, br_t, br_f, asg_, gn_, gt_, gtc_, gtn_, par_, var_0, var_s, c_, nil_, cons_, tup_, lst_, op_, bool_, kb_, tru_, tr_bl, andT_, orT_, kn_tt, kn_tf, kn_ff, kn_ft, notT_, and_, kand_t, kand_f, if_, bre_t, bre_f, call_, cb_, neg_, sl_, nopart_, part_, FD.sl_tup, eq_int0, eq_int1, eq_bl0, eq_bl1, beq_self_eq_true, Bool.not_true, Bool.not_false, add_int, add_tup, add_ref, int_, int0_, mul_int, mul_str, ord_int, FD.ix_tup, ix_fl, ix_ref, at_0, at_1, at_2, at_3, len_tup, len_fl, len_ref, max2_, min2_, tuple_tup, tuple_ref, is_, gs_, setL_, ml_, for_, rng1_, any_, lc_, FD.sl_ref, list_tup, dict0_, dn_, sortK_, val_tup, yes_, isLst_, List.set_cons_zero, List.set_cons_succ, or_, kor_t, kor_f, not_, chain_, kch_t, kch_f, ord_str, len_str, ordc_, strc_int, val_str, add_str, sl_strD, match_, cc_, kc_n, kc_s, cn_, wild_, isi_ty (show tyD G5 (.str s) = some .str from rfl) ty_int, show Ty.isa .str .int = false from rfl]
              exact h
          · try simp only [seq_, next_, ret_, drop_, ifs_, br_t, br_f, asg_, gn_, gt_, gtc_, gtn_, par_, var_0, var_s, c_, nil_, cons_, tup_, lst_, op_, bool_, kb_, tru_, tr_bl, andT_, orT_, kn_tt, kn_tf, kn_ff, kn_ft, notT_, and_, kand_t, kand_f, if_, bre_t, bre_f, call_, cb_, neg_, sl_, nopart_, part_, FD.sl_tup, eq_int0, eq_int1, eq_bl0, eq_bl1, beq_self_eq_true, Bool.not_true, Bool.not_false, add_int, add_tup, add_ref, int_, int0_, mul_int, mul_str, ord_int, FD.ix_tup, ix_fl, ix_ref, at_0, at_1, at_2, at_3, len_tup, len_fl, len_ref, max2_, min2_, tuple_tup, tuple_ref, is_, gs_, setL_, ml_, for_, rng1_, any_, lc_, FD.sl_ref, list_tup, dict0_, dn_, sortK_, val_tup, yes_, isLst_, List.set_cons_zero, List.set_cons_succ, or_, kor_t, kor_f, not_, chain_, kch_t, kch_f, ord_str, len_str, ordc_, strc_int, val_str, add_str, sl_strD, match_, cc_, kc_n, kc_s, cn_, wild_, isi_ty (ha _) ty_tuple, hi]
            rw [rows_no hn, Bool.and_false] at h
            exact h _ k1
        · rw [decide_eq_false h4, Bool.and_false] at h
          rw [decide_eq_true (by omega : (4 : Int) < as.length)]
          try simp only [seq_, next_, ret_, drop_, ifs_, br_t, br_f, asg_, gn_, gt_, gtc_, gtn_, par_, var_0, var_s, c_, nil_, cons_, tup_, lst_, op_, bool_, kb_, tru_, tr_bl, andT_, orT_, kn_tt, kn_tf, kn_ff, kn_ft, notT_, and_, kand_t, kand_f, if_, bre_t, bre_f, call_, cb_, neg_, sl_, nopart_, part_, FD.sl_tup, eq_int0, eq_int1, eq_bl0, eq_bl1, beq_self_eq_true, Bool.not_true, Bool.not_false, add_int, add_tup, add_ref, int_, int0_, mul_int, mul_str, ord_int, FD.ix_tup, ix_fl, ix_ref, at_0, at_1, at_2, at_3, len_tup, len_fl, len_ref, max2_, min2_, tuple_tup, tuple_ref, is_, gs_, setL_, ml_, for_, rng1_, any_, lc_, FD.sl_ref, list_tup, dict0_, dn_, sortK_, val_tup, yes_, isLst_, List.set_cons_zero, List.set_cons_succ, or_, kor_t, kor_f, not_, chain_, kch_t, kch_f, ord_str, len_str, ordc_, strc_int, val_str, add_str, sl_strD, match_, cc_, kc_n, kc_s, cn_, wild_]
          exact h _ k1
      · try simp only [seq_, next_, ret_, drop_, ifs_, br_t, br_f, asg_, gn_, gt_, gtc_, gtn_, par_, var_0, var_s, c_, nil_, cons_, tup_, lst_, op_, bool_, kb_, tru_, tr_bl, andT_, orT_, kn_tt, kn_tf, kn_ff, kn_ft, notT_, and_, kand_t, kand_f, if_, bre_t, bre_f, call_, cb_, neg_, sl_, nopart_, part_, FD.sl_tup, eq_int0, eq_int1, eq_bl0, eq_bl1, beq_self_eq_true, Bool.not_true, Bool.not_false, add_int, add_tup, add_ref, int_, int0_, mul_int, mul_str, ord_int, FD.ix_tup, ix_fl, ix_ref, at_0, at_1, at_2, at_3, len_tup, len_fl, len_ref, max2_, min2_, tuple_tup, tuple_ref, is_, gs_, setL_, ml_, for_, rng1_, any_, lc_, FD.sl_ref, list_tup, dict0_, dn_, sortK_, val_tup, yes_, isLst_, List.set_cons_zero, List.set_cons_succ, or_, kor_t, kor_f, not_, chain_, kch_t, kch_f, ord_str, len_str, ordc_, strc_int, val_str, add_str, sl_strD, match_, cc_, kc_n, kc_s, cn_, wild_, isi_ty (ha _) ty_tuple, hi]
        rw [texts_no hn] at h
        exact h _ k1
    · rw [place_len hl] at h
      rw [decide_eq_false hl]
      try simp only [seq_, next_, ret_, drop_, ifs_, br_t, br_f, asg_, gn_, gt_, gtc_, gtn_, par_, var_0, var_s, c_, nil_, cons_, tup_, lst_, op_, bool_, kb_, tru_, tr_bl, andT_, orT_, kn_tt, kn_tf, kn_ff, kn_ft, notT_, and_, kand_t, kand_f, if_, bre_t, bre_f, call_, cb_, neg_, sl_, nopart_, part_, FD.sl_tup, eq_int0, eq_int1, eq_bl0, eq_bl1, beq_self_eq_true, Bool.not_true, Bool.not_false, add_int, add_tup, add_ref, int_, int0_, mul_int, mul_str, ord_int, FD.ix_tup, ix_fl, ix_ref, at_0, at_1, at_2, at_3, len_tup, len_fl, len_ref, max2_, min2_, tuple_tup, tuple_ref, is_, gs_, setL_, ml_, for_, rng1_, any_, lc_, FD.sl_ref, list_tup, dict0_, dn_, sortK_, val_tup, yes_, isLst_, List.set_cons_zero, List.set_cons_succ, or_, kor_t, kor_f, not_, chain_, kch_t, kch_f, ord_str, len_str, ordc_, strc_int, val_str, add_str, sl_strD, match_, cc_, kc_n, kc_s, cn_, wild_]
      exact h _ .refl
  · try simp only [seq_, next_, ret_, drop_, ifs_, br_t, br_f, asg_, gn_, gt_, gtc_, gtn_, par_, var_0, var_s, c_, nil_, cons_, tup_, lst_, op_, bool_, kb_, tru_, tr_bl, andT_, orT_, kn_tt, kn_tf, kn_ff, kn_ft, notT_, and_, kand_t, kand_f, if_, bre_t, bre_f, call_, cb_, neg_, sl_, nopart_, part_, FD.sl_tup, eq_int0, eq_int1, eq_bl0, eq_bl1, beq_self_eq_true, Bool.not_true, Bool.not_false, add_int, add_tup, add_ref, int_, int0_, mul_int, mul_str, ord_int, FD.ix_tup, ix_fl, ix_ref, at_0, at_1, at_2, at_3, len_tup, len_fl, len_ref, max2_, min2_, tuple_tup, tuple_ref, is_, gs_, setL_, ml_, for_, rng1_, any_, lc_, FD.sl_ref, list_tup, dict0_, dn_, sortK_, val_tup, yes_, isLst_, List.set_cons_zero, List.set_cons_succ, or_, kor_t, kor_f, not_, chain_, kch_t, kch_f, ord_str, len_str, ordc_, strc_int, val_str, add_str, sl_strD, match_, cc_, kc_n, kc_s, cn_, wild_, isi_ty (ha _) ty_tuple, hi]
    rw [place_no hn] at h
    exact h _ .refl
end K02


namespace K02
open PySem L2 FD
theorem zip_self : ∀ ds : List D, zipD ds ds = ds.map fun d => .tup [d, d]
  | [] => rfl
  | d :: ds => by
    have h := zip_self ds
    unfold zipD at h ⊢
    rw [List.zip_cons_cons, List.map_cons, List.map_cons, h]
theorem rep_of {ds ys : List D} (h : Paired (fun _ y => y = D.bl true) ds ys) : ys = List.replicate ys.length (.bl true) := List.eq_replicate_iff.mpr ⟨rfl, paired_all h⟩
/-- the items, one by one -/
theorem same_items {k n : Nat} {x y : D} {chk : DG → Prop} {xs : List D} {G : DG} {Q : DK} (ih : ∀ d ∈ xs, ∀ {G : DG} {Q : DK}, (∀ G', Keep G G' → Q (.bl true) G') → sp_same n [d, d] G Q) (hc : ∀ G', Keep G G' → chk G') (hl : xs.length ≤ sizeLine)
    (h : ∀ p m G', G' p = some (.lst (List.replicate m (.bl true))) → Keep G G' → Q (.ref p) G') :
    lcGo chk (gtD 2 (gtCons (gnD 2) (gtCons (gnD 3) gtNil))) dYes (dCall (self N_same 2 (t_same n)) (dCons (dVar 2) (dCons (dVar 3) dNil))) [some x, some y, none, none] (fun acc G' => kNew G' (.lst acc) Q) (zipD xs xs) [] G := by
  rw [zip_self]
  refine lcGo_inv (fun G' => Keep G G') (fun _ y => y = D.bl true) hc _ _ _ ?_ .refl (by simpa using hl) fun ys G1 hp k1 => ?_
  · intro d hd G1 K k1 kk
    obtain ⟨e, he, rfl⟩ := List.mem_map.mp hd
    try simp only [seq_, next_, ret_, drop_, ifs_, br_t, br_f, asg_, gn_, gt_, gtc_, gtn_, par_, var_0, var_s, c_, nil_, cons_, tup_, lst_, op_, bool_, kb_, tru_, tr_bl, andT_, orT_, kn_tt, kn_tf, kn_ff, kn_ft, notT_, and_, kand_t, kand_f, if_, bre_t, bre_f, call_, cb_, neg_, sl_, nopart_, part_, FD.sl_tup, eq_int0, eq_int1, eq_bl0, eq_bl1, beq_self_eq_true, Bool.not_true, Bool.not_false, add_int, add_tup, add_ref, int_, int0_, mul_int, mul_str, ord_int, FD.ix_tup, ix_fl, ix_ref, at_0, at_1, at_2, at_3, len_tup, len_fl, len_ref, max2_, min2_, tuple_tup, tuple_ref, is_, gs_, setL_, ml_, for_, rng1_, any_, lc_, FD.sl_ref, list_tup, dict0_, dn_, sortK_, val_tup, yes_, isLst_, List.set_cons_zero, List.set_cons_succ]
    refine ⟨rfl, ?_⟩
    exact ih e he fun G2 k2 => kk _ G2 rfl (k1.trans k2)
  · rw [List.nil_append, rep_of hp]
    exact new_ fun p G2 _ e k2 => h p _ G2 e (k1.trans k2)
theorem same_tail {k n : Nat} {d : D} {G : DG} {Q : DK} (hd : Pl k d) (hk : k ≤ 64) (a : Ty) (ha : tyD G d = some a) (h1 : Ty.isa a .list = false) (h2 : Ty.isa a .tuple = false) (h : Q (.bl true) G) : sp_same (n + 1) [d, d] G Q := by
  refine ⟨rfl, ?_⟩
  show t_same (n + 1) _ [some d, some d, none, none] G
  unfold t_same
  try simp only [seq_, next_, ret_, drop_, ifs_, br_t, br_f, asg_, gn_, gt_, gtc_, gtn_, par_, var_0, var_s, c_, nil_, cons_, tup_, lst_, op_, bool_, kb_, tru_, tr_bl, andT_, orT_, kn_tt, kn_tf, kn_ff, kn_ft, notT_, and_, kand_t, kand_f, if_, bre_t, bre_f, call_, cb_, neg_, sl_, nopart_, part_, FD.sl_tup, eq_int0, eq_int1, eq_bl0, eq_bl1, beq_self_eq_true, Bool.not_true, Bool.not_false, add_int, add_tup, add_ref, int_, int0_, mul_int, mul_str, ord_int, FD.ix_tup, ix_fl, ix_ref, at_0, at_1, at_2, at_3, len_tup, len_fl, len_ref, max2_, min2_, tuple_tup, tuple_ref, is_, gs_, setL_, ml_, for_, rng1_, any_, lc_, FD.sl_ref, list_tup, dict0_, dn_, sortK_, val_tup, yes_, isLst_, List.set_cons_zero, List.set_cons_succ, isi_ty ha ty_list, isi_ty ha ty_bool, isi_ty ha ty_int, isi_ty ha ty_str, isi_ty2 ha ty_list ty_tuple, h1, h2, Bool.or_self]
  repeat (with_reducible refine And.intro (by first | rfl | omega | (simp only [sizeLine, List.length_cons, List.length_nil, List.length_append] <;> omega)) ?_)
  refine eq_pl hd hd hk hk ?_
  rw [hd.refl]
  exact h
theorem same_pl : ∀ (k n : Nat) (d : D) {G : DG} {Q : DK}, Pl k d → k ≤ 64 → k ≤ n → (∀ G', Keep G G' → Q (.bl true) G') → sp_same (n + 1) [d, d] G Q
  | k, n, .non, G, Q, hd, hk, hn, h => same_tail hd hk .none rfl rfl rfl (h G .refl)
  | k, n, .bl _, G, Q, hd, hk, hn, h => same_tail hd hk .bool rfl rfl rfl (h G .refl)
  | k, n, .int _, G, Q, hd, hk, hn, h => same_tail hd hk .int rfl rfl rfl (h G .refl)
  | k, n, .str _, G, Q, hd, hk, hn, h => same_tail hd hk .str rfl rfl rfl (h G .refl)
  | 0, n, .tup ds, G, Q, hd, hk, hn, h => by rw [Pl] at hd; exact hd.elim
  | k + 1, 0, .tup ds, G, Q, hd, hk, hn, h => by omega
  | k + 1, n + 1, .tup ds, G, Q, hd, hk, hn, h => by
    obtain ⟨hl, hi⟩ := pl_tup.mp hd
    have ha : ∀ {G : DG}, tyD G (.tup ds) = some .tuple := rfl
    refine ⟨rfl, ?_⟩
    show t_same (n + 1 + 1) _ [some (.tup ds), some (.tup ds), none, none] G
    rw [t_same]
    try simp only [seq_, next_, ret_, drop_, ifs_, br_t, br_f, asg_, gn_, gt_, gtc_, gtn_, par_, var_0, var_s, c_, nil_, cons_, tup_, lst_, op_, bool_, kb_, tru_, tr_bl, andT_, orT_, kn_tt, kn_tf, kn_ff, kn_ft, notT_, and_, kand_t, kand_f, if_, bre_t, bre_f, call_, cb_, neg_, sl_, nopart_, part_, FD.sl_tup, eq_int0, eq_int1, eq_bl0, eq_bl1, beq_self_eq_true, Bool.not_true, Bool.not_false, add_int, add_tup, add_ref, int_, int0_, mul_int, mul_str, ord_int, FD.ix_tup, ix_fl, ix_ref, at_0, at_1, at_2, at_3, len_tup, len_fl, len_ref, max2_, min2_, tuple_tup, tuple_ref, is_, gs_, setL_, ml_, for_, rng1_, any_, lc_, FD.sl_ref, list_tup, dict0_, dn_, sortK_, val_tup, yes_, isLst_, List.set_cons_zero, List.set_cons_succ, isi_ty ha ty_list, isi_ty2 ha ty_list ty_tuple, show Ty.isa .tuple .list = false from rfl, show Ty.isa .tuple .tuple = true from rfl, Bool.false_or]
    repeat (with_reducible refine And.intro (by first | rfl | omega | (simp only [sizeLine, List.length_cons, List.length_nil, List.length_append] <;> omega)) ?_)
    refine same_items (k := k) (fun d hd' {G Q} => same_pl k n d (hi d hd') (by omega) (by omega)) (fun _ _ => True.intro) hl fun p m G' e kk => all_true e (h _ kk)
  | 0, n, .fl ds, G, Q, hd, hk, hn, h => by rw [Pl] at hd; exact hd.elim
  | 0, n, .ref ds, G, Q, hd, hk, hn, h => by rw [Pl] at hd; exact hd.elim
  | 0, n, .ty ds, G, Q, hd, hk, hn, h => by rw [Pl] at hd; exact hd.elim
  | k + 1, n, .fl ds, G, Q, hd, hk, hn, h => by rw [Pl] at hd; exact hd.elim
  | k + 1, n, .ref ds, G, Q, hd, hk, hn, h => by rw [Pl] at hd; exact hd.elim
  | k + 1, n, .ty ds, G, Q, hd, hk, hn, h => by rw [Pl] at hd; exact hd.elim
theorem same_lst {k n : Nat} {a b : Addr} {xs : List D} {G : DG} {Q : DK} (ha : G a = some (.lst xs)) (hb : G b = some (.lst xs)) (hx : ∀ d ∈ xs, Pl k d) (hk : k ≤ 63) (hn : k ≤ n) (hl : xs.length ≤ sizeLine) (h : ∀ G', Keep G G' → Q (.bl true) G') : sp_same (n + 2) [.ref a, .ref b] G Q := by
  have t1 := tyd_lst ha
  have t2 := tyd_lst hb
  refine ⟨rfl, ?_⟩
  show t_same (n + 1 + 1) _ [some (.ref a), some (.ref b), none, none] G
  rw [t_same]
  try simp only [seq_, next_, ret_, drop_, ifs_, br_t, br_f, asg_, gn_, gt_, gtc_, gtn_, par_, var_0, var_s, c_, nil_, cons_, tup_, lst_, op_, bool_, kb_, tru_, tr_bl, andT_, orT_, kn_tt, kn_tf, kn_ff, kn_ft, notT_, and_, kand_t, kand_f, if_, bre_t, bre_f, call_, cb_, neg_, sl_, nopart_, part_, FD.sl_tup, eq_int0, eq_int1, eq_bl0, eq_bl1, beq_self_eq_true, Bool.not_true, Bool.not_false, add_int, add_tup, add_ref, int_, int0_, mul_int, mul_str, ord_int, FD.ix_tup, ix_fl, ix_ref, at_0, at_1, at_2, at_3, len_tup, len_fl, len_ref, max2_, min2_, tuple_tup, tuple_ref, is_, gs_, setL_, ml_, for_, rng1_, any_, lc_, FD.sl_ref, list_tup, dict0_, dn_, sortK_, val_tup, yes_, isLst_, List.set_cons_zero, List.set_cons_succ, isi_ty t1 ty_list, isi_ty2 t1 ty_list ty_tuple, isi_ty t2 ty_list, isi_ty2 t2 ty_list ty_tuple, show Ty.isa .list .list = true from rfl, show Ty.isa .list .tuple = false from rfl, Bool.or_false, ex_lst ha, ex_lst hb]
  repeat (with_reducible refine And.intro (by first | rfl | omega | (simp only [sizeLine, List.length_cons, List.length_nil, List.length_append] <;> omega)) ?_)
  refine ⟨xs, xs, ha, hb, ?_⟩
  refine same_items (k := k) (fun d hd' {G Q} => same_pl k n d (hx d hd') (by omega) (by omega)) (fun G' kk => ⟨kk _ _ ha, kk _ _ hb⟩) hl fun p m G' e kk => all_true e (h _ kk)
end K02

namespace K02
open PySem L2 FD
theorem pl_bl {k : Nat} {i : Bool} : Pl k (.bl i) := by cases k <;> rw [Pl] <;> trivial
theorem law_spec {ns : List Int} {G : DG} {Q : DK} (h : ∀ G', Q (.bl true) G') : sp_law [.fl (ns.map D.int)] G Q := by
  refine ⟨rfl, ?_⟩
  show t_law _ [some (.fl (ns.map D.int)), none, none, none, none, none, none, none] G
  unfold t_law
  try simp only [seq_, next_, ret_, drop_, ifs_, br_t, br_f, asg_, gn_, gt_, gtc_, gtn_, par_, var_0, var_s, c_, nil_, cons_, tup_, lst_, op_, bool_, kb_, tru_, tr_bl, andT_, orT_, kn_tt, kn_tf, kn_ff, kn_ft, notT_, and_, kand_t, kand_f, if_, bre_t, bre_f, call_, cb_, neg_, sl_, nopart_, part_, FD.sl_tup, eq_int0, eq_int1, eq_bl0, eq_bl1, beq_self_eq_true, Bool.not_true, Bool.not_false, add_int, add_tup, add_ref, int_, int0_, mul_int, mul_str, ord_int, FD.ix_tup, ix_fl, ix_ref, at_0, at_1, at_2, at_3, len_tup, len_fl, len_ref, max2_, min2_, tuple_tup, tuple_ref, is_, gs_, setL_, ml_, for_, rng1_, any_, lc_, FD.sl_ref, list_tup, dict0_, dn_, sortK_, val_tup, yes_, isLst_, List.set_cons_zero, List.set_cons_succ, or_, kor_t, kor_f, not_, chain_, kch_t, kch_f, ord_str, len_str, ordc_, strc_int, val_str, add_str, sl_strD, match_, cc_, kc_n, kc_s, cn_, wild_]
  refine ⟨by constructor <;> split <;> split <;> omega, ?_⟩
  refine forGo_inv (fun ds ρ _ => (∃ o1 o2 o3 o4 o5 o6 o7, ρ = [some (.fl (ns.map D.int)), o1, o2, o3, o4, o5, o6, o7]) ∧ ∀ d ∈ ds, ∃ i : Int, 0 ≤ i ∧ i ≤ 1000 ∧ d = .int i) (fun _ _ _ _ => True.intro) ?_ ?_ _ _ _ ⟨⟨none, none, none, none, none, none, none, rfl⟩, fun d hd => ?_⟩
  · rintro d ds _ G0 X ⟨⟨o1, o2, o3, o4, o5, o6, o7, rfl⟩, hds⟩ kx
    obtain ⟨i, i0, i1, rfl⟩ := hds d (List.mem_cons_self ..)
    have kx' : ∀ G' o1 o2 o3 o4 o5 o6 o7, X [some (.fl (ns.map D.int)), o1, o2, o3, o4, o5, o6, o7] G' := fun G' o1 o2 o3 o4 o5 o6 o7 => kx _ G' ⟨⟨o1, o2, o3, o4, o5, o6, o7, rfl⟩, fun d hd => hds d (List.mem_cons_of_mem _ hd)⟩
    clear kx hds
    try simp only [seq_, next_, ret_, drop_, ifs_, br_t, br_f, asg_, gn_, gt_, gtc_, gtn_, par_, var_0, var_s, c_, nil_, cons_, tup_, lst_, op_, bool_, kb_, tru_, tr_bl, andT_, orT_, kn_tt, kn_tf, kn_ff, kn_ft, notT_, and_, kand_t, kand_f, if_, bre_t, bre_f, call_, cb_, neg_, sl_, nopart_, part_, FD.sl_tup, eq_int0, eq_int1, eq_bl0, eq_bl1, beq_self_eq_true, Bool.not_true, Bool.not_false, add_int, add_tup, add_ref, int_, int0_, mul_int, mul_str, ord_int, FD.ix_tup, ix_fl, ix_ref, at_0, at_1, at_2, at_3, len_tup, len_fl, len_ref, max2_, min2_, tuple_tup, tuple_ref, is_, gs_, setL_, ml_, for_, rng1_, any_, lc_, FD.sl_ref, list_tup, dict0_, dn_, sortK_, val_tup, yes_, isLst_, List.set_cons_zero, List.set_cons_succ, or_, kor_t, kor_f, not_, chain_, kch_t, kch_f, ord_str, len_str, ordc_, strc_int, val_str, add_str, sl_strD, match_, cc_, kc_n, kc_s, cn_, wild_]
    refine feed_spec i0 i1 fun f G1 hf F1 k1 => ?_
    try simp only [seq_, next_, ret_, drop_, ifs_, br_t, br_f, asg_, gn_, gt_, gtc_, gtn_, par_, var_0, var_s, c_, nil_, cons_, tup_, lst_, op_, bool_, kb_, tru_, tr_bl, andT_, orT_, kn_tt, kn_tf, kn_ff, kn_ft, notT_, and_, kand_t, kand_f, if_, bre_t, bre_f, call_, cb_, neg_, sl_, nopart_, part_, FD.sl_tup, eq_int0, eq_int1, eq_bl0, eq_bl1, beq_self_eq_true, Bool.not_true, Bool.not_false, add_int, add_tup, add_ref, int_, int0_, mul_int, mul_str, ord_int, FD.ix_tup, ix_fl, ix_ref, at_0, at_1, at_2, at_3, len_tup, len_fl, len_ref, max2_, min2_, tuple_tup, tuple_ref, is_, gs_, setL_, ml_, for_, rng1_, any_, lc_, FD.sl_ref, list_tup, dict0_, dn_, sortK_, val_tup, yes_, isLst_, List.set_cons_zero, List.set_cons_succ, or_, kor_t, kor_f, not_, chain_, kch_t, kch_f, ord_str, len_str, ordc_, strc_int, val_str, add_str, sl_strD, match_, cc_, kc_n, kc_s, cn_, wild_]
    refine things_spec F1 fun p xs G2 hp e2 hxl hx F2 x2 => ?_
    have hpf : p ≠ f := F1.ne hp
    try simp only [seq_, next_, ret_, drop_, ifs_, br_t, br_f, asg_, gn_, gt_, gtc_, gtn_, par_, var_0, var_s, c_, nil_, cons_, tup_, lst_, op_, bool_, kb_, tru_, tr_bl, andT_, orT_, kn_tt, kn_tf, kn_ff, kn_ft, notT_, and_, kand_t, kand_f, if_, bre_t, bre_f, call_, cb_, neg_, sl_, nopart_, part_, FD.sl_tup, eq_int0, eq_int1, eq_bl0, eq_bl1, beq_self_eq_true, Bool.not_true, Bool.not_false, add_int, add_tup, add_ref, int_, int0_, mul_int, mul_str, ord_int, FD.ix_tup, ix_fl, ix_ref, at_0, at_1, at_2, at_3, len_tup, len_fl, len_ref, max2_, min2_, tuple_tup, tuple_ref, is_, gs_, setL_, ml_, for_, rng1_, any_, lc_, FD.sl_ref, list_tup, dict0_, dn_, sortK_, val_tup, yes_, isLst_, List.set_cons_zero, List.set_cons_succ, or_, kor_t, kor_f, not_, chain_, kch_t, kch_f, ord_str, len_str, ordc_, strc_int, val_str, add_str, sl_strD, match_, cc_, kc_n, kc_s, cn_, wild_, ex_lst e2]
    repeat (with_reducible refine And.intro (by first | rfl | omega | (simp only [sizeLine, List.length_cons, List.length_nil, List.length_append] <;> omega)) ?_)
    refine new_ fun q G3 hq e3 k3 => ?_
    have e3' := k3 _ _ e2
    try simp only [seq_, next_, ret_, drop_, ifs_, br_t, br_f, asg_, gn_, gt_, gtc_, gtn_, par_, var_0, var_s, c_, nil_, cons_, tup_, lst_, op_, bool_, kb_, tru_, tr_bl, andT_, orT_, kn_tt, kn_tf, kn_ff, kn_ft, notT_, and_, kand_t, kand_f, if_, bre_t, bre_f, call_, cb_, neg_, sl_, nopart_, part_, FD.sl_tup, eq_int0, eq_int1, eq_bl0, eq_bl1, beq_self_eq_true, Bool.not_true, Bool.not_false, add_int, add_tup, add_ref, int_, int0_, mul_int, mul_str, ord_int, FD.ix_tup, ix_fl, ix_ref, at_0, at_1, at_2, at_3, len_tup, len_fl, len_ref, max2_, min2_, tuple_tup, tuple_ref, is_, gs_, setL_, ml_, for_, rng1_, any_, lc_, FD.sl_ref, list_tup, dict0_, dn_, sortK_, val_tup, yes_, isLst_, List.set_cons_zero, List.set_cons_succ, or_, kor_t, kor_f, not_, chain_, kch_t, kch_f, ord_str, len_str, ordc_, strc_int, val_str, add_str, sl_strD, match_, cc_, kc_n, kc_s, cn_, wild_, ex_lst e3, ex_lst e3']
    repeat (with_reducible refine And.intro (by first | rfl | omega | (simp only [sizeLine, List.length_cons, List.length_nil, List.length_append] <;> omega)) ?_)
    refine new_ fun r G4 hr e4 k4 => ?_
    have F3 := F2.keep k3
    have hrf := F3.ne hr
    have F4 := F3.keep k4
    have hx3 : ∀ d ∈ xs ++ xs ++ xs, Pb 5 3 d := fun d hd => by
      rcases List.mem_append.mp hd with hd | hd
      · rcases List.mem_append.mp hd with hd | hd
        · exact hx d hd
        · exact hx d hd
      · exact hx d hd
    try simp only [seq_, next_, ret_, drop_, ifs_, br_t, br_f, asg_, gn_, gt_, gtc_, gtn_, par_, var_0, var_s, c_, nil_, cons_, tup_, lst_, op_, bool_, kb_, tru_, tr_bl, andT_, orT_, kn_tt, kn_tf, kn_ff, kn_ft, notT_, and_, kand_t, kand_f, if_, bre_t, bre_f, call_, cb_, neg_, sl_, nopart_, part_, FD.sl_tup, eq_int0, eq_int1, eq_bl0, eq_bl1, beq_self_eq_true, Bool.not_true, Bool.not_false, add_int, add_tup, add_ref, int_, int0_, mul_int, mul_str, ord_int, FD.ix_tup, ix_fl, ix_ref, at_0, at_1, at_2, at_3, len_tup, len_fl, len_ref, max2_, min2_, tuple_tup, tuple_ref, is_, gs_, setL_, ml_, for_, rng1_, any_, lc_, FD.sl_ref, list_tup, dict0_, dn_, sortK_, val_tup, yes_, isLst_, List.set_cons_zero, List.set_cons_succ, or_, kor_t, kor_f, not_, chain_, kch_t, kch_f, ord_str, len_str, ordc_, strc_int, val_str, add_str, sl_strD, match_, cc_, kc_n, kc_s, cn_, wild_]
    refine val_lst e4 ?_
    refine lcGo_inv (fun G' => Feed f G' ∧ Ext f G4 G') (fun _ y => Pb 6 5 y) (fun _ I => I.2.get hrf e4) _ _ _ (fun d hd G5 K I kk => ?_) ⟨F4, .refl⟩ (by simp only [List.length_append, List.length_nil, sizeLine]; omega) fun ys G5 hys I => ?_
    · try simp only [seq_, next_, ret_, drop_, ifs_, br_t, br_f, asg_, gn_, gt_, gtc_, gtn_, par_, var_0, var_s, c_, nil_, cons_, tup_, lst_, op_, bool_, kb_, tru_, tr_bl, andT_, orT_, kn_tt, kn_tf, kn_ff, kn_ft, notT_, and_, kand_t, kand_f, if_, bre_t, bre_f, call_, cb_, neg_, sl_, nopart_, part_, FD.sl_tup, eq_int0, eq_int1, eq_bl0, eq_bl1, beq_self_eq_true, Bool.not_true, Bool.not_false, add_int, add_tup, add_ref, int_, int0_, mul_int, mul_str, ord_int, FD.ix_tup, ix_fl, ix_ref, at_0, at_1, at_2, at_3, len_tup, len_fl, len_ref, max2_, min2_, tuple_tup, tuple_ref, is_, gs_, setL_, ml_, for_, rng1_, any_, lc_, FD.sl_ref, list_tup, dict0_, dn_, sortK_, val_tup, yes_, isLst_, List.set_cons_zero, List.set_cons_succ, or_, kor_t, kor_f, not_, chain_, kch_t, kch_f, ord_str, len_str, ordc_, strc_int, val_str, add_str, sl_strD, match_, cc_, kc_n, kc_s, cn_, wild_, wipeD]
      exact odd_spec 12 3 (by decide) (by decide) (by decide) (by decide) I.1 (hx3 d hd) fun y G6 hy F6 x6 => kk y G6 hy ⟨F6, I.2.trans x6⟩
    · rw [List.nil_append]
      refine new_ fun s G6 hs e6 k6 => ?_
      have e6' := k6 _ _ (I.2.get hpf (k4 _ _ e3'))
      have hyl : ys.length = 15 := by rw [paired_len hys, List.length_append, List.length_append, hxl]
      try simp only [seq_, next_, ret_, drop_, ifs_, br_t, br_f, asg_, gn_, gt_, gtc_, gtn_, par_, var_0, var_s, c_, nil_, cons_, tup_, lst_, op_, bool_, kb_, tru_, tr_bl, andT_, orT_, kn_tt, kn_tf, kn_ff, kn_ft, notT_, and_, kand_t, kand_f, if_, bre_t, bre_f, call_, cb_, neg_, sl_, nopart_, part_, FD.sl_tup, eq_int0, eq_int1, eq_bl0, eq_bl1, beq_self_eq_true, Bool.not_true, Bool.not_false, add_int, add_tup, add_ref, int_, int0_, mul_int, mul_str, ord_int, FD.ix_tup, ix_fl, ix_ref, at_0, at_1, at_2, at_3, len_tup, len_fl, len_ref, max2_, min2_, tuple_tup, tuple_ref, is_, gs_, setL_, ml_, for_, rng1_, any_, lc_, FD.sl_ref, list_tup, dict0_, dn_, sortK_, val_tup, yes_, isLst_, List.set_cons_zero, List.set_cons_succ, or_, kor_t, kor_f, not_, chain_, kch_t, kch_f, ord_str, len_str, ordc_, strc_int, val_str, add_str, sl_strD, match_, cc_, kc_n, kc_s, cn_, wild_, ex_lst e6, ex_lst e6']
      refine ⟨by rw [hyl, hxl]; simp [sizeLine], ?_⟩
      refine new_ fun t G7 ht e7 k7 => ?_
      have F6 := I.1.keep k6
      have htf := F6.ne ht
      have hall : ∀ d ∈ xs ++ ys, Pb 6 5 d := fun d hd => by
        rcases List.mem_append.mp hd with hd | hd
        · exact (hx d hd).mono (by decide) (by decide)
        · exact paired_all hys d hd
      try simp only [seq_, next_, ret_, drop_, ifs_, br_t, br_f, asg_, gn_, gt_, gtc_, gtn_, par_, var_0, var_s, c_, nil_, cons_, tup_, lst_, op_, bool_, kb_, tru_, tr_bl, andT_, orT_, kn_tt, kn_tf, kn_ff, kn_ft, notT_, and_, kand_t, kand_f, if_, bre_t, bre_f, call_, cb_, neg_, sl_, nopart_, part_, FD.sl_tup, eq_int0, eq_int1, eq_bl0, eq_bl1, beq_self_eq_true, Bool.not_true, Bool.not_false, add_int, add_tup, add_ref, int_, int0_, mul_int, mul_str, ord_int, FD.ix_tup, ix_fl, ix_ref, at_0, at_1, at_2, at_3, len_tup, len_fl, len_ref, max2_, min2_, tuple_tup, tuple_ref, is_, gs_, setL_, ml_, for_, rng1_, any_, lc_, FD.sl_ref, list_tup, dict0_, dn_, sortK_, val_tup, yes_, isLst_, List.set_cons_zero, List.set_cons_succ, or_, kor_t, kor_f, not_, chain_, kch_t, kch_f, ord_str, len_str, ordc_, strc_int, val_str, add_str, sl_strD, match_, cc_, kc_n, kc_s, cn_, wild_]
      refine val_lst e7 ?_
      refine forGo_inv (fun ds ρ G' => (∃ o4 o5 o6 o7, ρ = [some (.fl (ns.map D.int)), some (.int i), some (.ref f), some (.ref p), o4, o5, o6, o7]) ∧ G' t = some (.lst (xs ++ ys)) ∧ Feed f G' ∧ ∀ d ∈ ds, Pb 6 5 d) (fun _ _ _ h => h.2.1) ?_ ?_ _ _ _ ⟨⟨_, _, _, _, rfl⟩, e7, F6.keep k7, hall⟩
      · rintro d ds _ G8 Y ⟨⟨o4, o5, o6, o7, rfl⟩, e8, F8, hds⟩ ky
        have hd := hds d (List.mem_cons_self ..)
        try simp only [seq_, next_, ret_, drop_, ifs_, br_t, br_f, asg_, gn_, gt_, gtc_, gtn_, par_, var_0, var_s, c_, nil_, cons_, tup_, lst_, op_, bool_, kb_, tru_, tr_bl, andT_, orT_, kn_tt, kn_tf, kn_ff, kn_ft, notT_, and_, kand_t, kand_f, if_, bre_t, bre_f, call_, cb_, neg_, sl_, nopart_, part_, FD.sl_tup, eq_int0, eq_int1, eq_bl0, eq_bl1, beq_self_eq_true, Bool.not_true, Bool.not_false, add_int, add_tup, add_ref, int_, int0_, mul_int, mul_str, ord_int, FD.ix_tup, ix_fl, ix_ref, at_0, at_1, at_2, at_3, len_tup, len_fl, len_ref, max2_, min2_, tuple_tup, tuple_ref, is_, gs_, setL_, ml_, for_, rng1_, any_, lc_, FD.sl_ref, list_tup, dict0_, dn_, sortK_, val_tup, yes_, isLst_, List.set_cons_zero, List.set_cons_succ, or_, kor_t, kor_f, not_, chain_, kch_t, kch_f, ord_str, len_str, ordc_, strc_int, val_str, add_str, sl_strD, match_, cc_, kc_n, kc_s, cn_, wild_]
        refine odd_spec 12 5 (by decide) (by decide) (by decide) (by decide) F8 hd fun od G9 hod F9 x9 => ?_
        have e9 := x9.get htf e8
        try simp only [seq_, next_, ret_, drop_, ifs_, br_t, br_f, asg_, gn_, gt_, gtc_, gtn_, par_, var_0, var_s, c_, nil_, cons_, tup_, lst_, op_, bool_, kb_, tru_, tr_bl, andT_, orT_, kn_tt, kn_tf, kn_ff, kn_ft, notT_, and_, kand_t, kand_f, if_, bre_t, bre_f, call_, cb_, neg_, sl_, nopart_, part_, FD.sl_tup, eq_int0, eq_int1, eq_bl0, eq_bl1, beq_self_eq_true, Bool.not_true, Bool.not_false, add_int, add_tup, add_ref, int_, int0_, mul_int, mul_str, ord_int, FD.ix_tup, ix_fl, ix_ref, at_0, at_1, at_2, at_3, len_tup, len_fl, len_ref, max2_, min2_, tuple_tup, tuple_ref, is_, gs_, setL_, ml_, for_, rng1_, any_, lc_, FD.sl_ref, list_tup, dict0_, dn_, sortK_, val_tup, yes_, isLst_, List.set_cons_zero, List.set_cons_succ, or_, kor_t, kor_f, not_, chain_, kch_t, kch_f, ord_str, len_str, ordc_, strc_int, val_str, add_str, sl_strD, match_, cc_, kc_n, kc_s, cn_, wild_]
        repeat (with_reducible refine And.intro (by first | rfl | omega | (simp only [sizeLine, List.length_cons, List.length_nil, List.length_append] <;> omega)) ?_)
        refine forGo_inv (fun ds ρ G' => (∃ o5 o6, ρ = [some (.fl (ns.map D.int)), some (.int i), some (.ref f), some (.ref p), some d, o5, o6, o7]) ∧ Keep G9 G' ∧ ∀ d ∈ ds, Pb 7 7 d) (fun _ _ _ _ => True.intro) ?_ ?_ _ _ _ ⟨⟨_, _, rfl⟩, .refl, fun z hz => ?_⟩
        · rintro v vs _ Ga Z ⟨⟨o5, o6, rfl⟩, ka, hvs⟩ kz
          have hv := hvs v (List.mem_cons_self ..)
          try simp only [seq_, next_, ret_, drop_, ifs_, br_t, br_f, asg_, gn_, gt_, gtc_, gtn_, par_, var_0, var_s, c_, nil_, cons_, tup_, lst_, op_, bool_, kb_, tru_, tr_bl, andT_, orT_, kn_tt, kn_tf, kn_ff, kn_ft, notT_, and_, kand_t, kand_f, if_, bre_t, bre_f, call_, cb_, neg_, sl_, nopart_, part_, FD.sl_tup, eq_int0, eq_int1, eq_bl0, eq_bl1, beq_self_eq_true, Bool.not_true, Bool.not_false, add_int, add_tup, add_ref, int_, int0_, mul_int, mul_str, ord_int, FD.ix_tup, ix_fl, ix_ref, at_0, at_1, at_2, at_3, len_tup, len_fl, len_ref, max2_, min2_, tuple_tup, tuple_ref, is_, gs_, setL_, ml_, for_, rng1_, any_, lc_, FD.sl_ref, list_tup, dict0_, dn_, sortK_, val_tup, yes_, isLst_, List.set_cons_zero, List.set_cons_succ, or_, kor_t, kor_f, not_, chain_, kch_t, kch_f, ord_str, len_str, ordc_, strc_int, val_str, add_str, sl_strD, match_, cc_, kc_n, kc_s, cn_, wild_]
          refine l_is_key_spec hv fun Gb kb => ?_
          try simp only [seq_, next_, ret_, drop_, ifs_, br_t, br_f, asg_, gn_, gt_, gtc_, gtn_, par_, var_0, var_s, c_, nil_, cons_, tup_, lst_, op_, bool_, kb_, tru_, tr_bl, andT_, orT_, kn_tt, kn_tf, kn_ff, kn_ft, notT_, and_, kand_t, kand_f, if_, bre_t, bre_f, call_, cb_, neg_, sl_, nopart_, part_, FD.sl_tup, eq_int0, eq_int1, eq_bl0, eq_bl1, beq_self_eq_true, Bool.not_true, Bool.not_false, add_int, add_tup, add_ref, int_, int0_, mul_int, mul_str, ord_int, FD.ix_tup, ix_fl, ix_ref, at_0, at_1, at_2, at_3, len_tup, len_fl, len_ref, max2_, min2_, tuple_tup, tuple_ref, is_, gs_, setL_, ml_, for_, rng1_, any_, lc_, FD.sl_ref, list_tup, dict0_, dn_, sortK_, val_tup, yes_, isLst_, List.set_cons_zero, List.set_cons_succ, or_, kor_t, kor_f, not_, chain_, kch_t, kch_f, ord_str, len_str, ordc_, strc_int, val_str, add_str, sl_strD, match_, cc_, kc_n, kc_s, cn_, wild_]
          refine l_is_step_spec hv (by decide) (by decide) fun Gc kc => ?_
          try simp only [seq_, next_, ret_, drop_, ifs_, br_t, br_f, asg_, gn_, gt_, gtc_, gtn_, par_, var_0, var_s, c_, nil_, cons_, tup_, lst_, op_, bool_, kb_, tru_, tr_bl, andT_, orT_, kn_tt, kn_tf, kn_ff, kn_ft, notT_, and_, kand_t, kand_f, if_, bre_t, bre_f, call_, cb_, neg_, sl_, nopart_, part_, FD.sl_tup, eq_int0, eq_int1, eq_bl0, eq_bl1, beq_self_eq_true, Bool.not_true, Bool.not_false, add_int, add_tup, add_ref, int_, int0_, mul_int, mul_str, ord_int, FD.ix_tup, ix_fl, ix_ref, at_0, at_1, at_2, at_3, len_tup, len_fl, len_ref, max2_, min2_, tuple_tup, tuple_ref, is_, gs_, setL_, ml_, for_, rng1_, any_, lc_, FD.sl_ref, list_tup, dict0_, dn_, sortK_, val_tup, yes_, isLst_, List.set_cons_zero, List.set_cons_succ, or_, kor_t, kor_f, not_, chain_, kch_t, kch_f, ord_str, len_str, ordc_, strc_int, val_str, add_str, sl_strD, match_, cc_, kc_n, kc_s, cn_, wild_]
          refine l_is_place_spec hv (by decide) fun Gd kd => ?_
          try simp only [seq_, next_, ret_, drop_, ifs_, br_t, br_f, asg_, gn_, gt_, gtc_, gtn_, par_, var_0, var_s, c_, nil_, cons_, tup_, lst_, op_, bool_, kb_, tru_, tr_bl, andT_, orT_, kn_tt, kn_tf, kn_ff, kn_ft, notT_, and_, kand_t, kand_f, if_, bre_t, bre_f, call_, cb_, neg_, sl_, nopart_, part_, FD.sl_tup, eq_int0, eq_int1, eq_bl0, eq_bl1, beq_self_eq_true, Bool.not_true, Bool.not_false, add_int, add_tup, add_ref, int_, int0_, mul_int, mul_str, ord_int, FD.ix_tup, ix_fl, ix_ref, at_0, at_1, at_2, at_3, len_tup, len_fl, len_ref, max2_, min2_, tuple_tup, tuple_ref, is_, gs_, setL_, ml_, for_, rng1_, any_, lc_, FD.sl_ref, list_tup, dict0_, dn_, sortK_, val_tup, yes_, isLst_, List.set_cons_zero, List.set_cons_succ, or_, kor_t, kor_f, not_, chain_, kch_t, kch_f, ord_str, len_str, ordc_, strc_int, val_str, add_str, sl_strD, match_, cc_, kc_n, kc_s, cn_, wild_]
          repeat (with_reducible refine And.intro (by first | rfl | omega | (simp only [sizeLine, List.length_cons, List.length_nil, List.length_append] <;> omega)) ?_)
          refine new_ fun u Ge hu ee ke => ?_
          try simp only [seq_, next_, ret_, drop_, ifs_, br_t, br_f, asg_, gn_, gt_, gtc_, gtn_, par_, var_0, var_s, c_, nil_, cons_, tup_, lst_, op_, bool_, kb_, tru_, tr_bl, andT_, orT_, kn_tt, kn_tf, kn_ff, kn_ft, notT_, and_, kand_t, kand_f, if_, bre_t, bre_f, call_, cb_, neg_, sl_, nopart_, part_, FD.sl_tup, eq_int0, eq_int1, eq_bl0, eq_bl1, beq_self_eq_true, Bool.not_true, Bool.not_false, add_int, add_tup, add_ref, int_, int0_, mul_int, mul_str, ord_int, FD.ix_tup, ix_fl, ix_ref, at_0, at_1, at_2, at_3, len_tup, len_fl, len_ref, max2_, min2_, tuple_tup, tuple_ref, is_, gs_, setL_, ml_, for_, rng1_, any_, lc_, FD.sl_ref, list_tup, dict0_, dn_, sortK_, val_tup, yes_, isLst_, List.set_cons_zero, List.set_cons_succ, or_, kor_t, kor_f, not_, chain_, kch_t, kch_f, ord_str, len_str, ordc_, strc_int, val_str, add_str, sl_strD, match_, cc_, kc_n, kc_s, cn_, wild_]
          refine is_key_spec hv fun Gf kf => ?_
          try simp only [seq_, next_, ret_, drop_, ifs_, br_t, br_f, asg_, gn_, gt_, gtc_, gtn_, par_, var_0, var_s, c_, nil_, cons_, tup_, lst_, op_, bool_, kb_, tru_, tr_bl, andT_, orT_, kn_tt, kn_tf, kn_ff, kn_ft, notT_, and_, kand_t, kand_f, if_, bre_t, bre_f, call_, cb_, neg_, sl_, nopart_, part_, FD.sl_tup, eq_int0, eq_int1, eq_bl0, eq_bl1, beq_self_eq_true, Bool.not_true, Bool.not_false, add_int, add_tup, add_ref, int_, int0_, mul_int, mul_str, ord_int, FD.ix_tup, ix_fl, ix_ref, at_0, at_1, at_2, at_3, len_tup, len_fl, len_ref, max2_, min2_, tuple_tup, tuple_ref, is_, gs_, setL_, ml_, for_, rng1_, any_, lc_, FD.sl_ref, list_tup, dict0_, dn_, sortK_, val_tup, yes_, isLst_, List.set_cons_zero, List.set_cons_succ, or_, kor_t, kor_f, not_, chain_, kch_t, kch_f, ord_str, len_str, ordc_, strc_int, val_str, add_str, sl_strD, match_, cc_, kc_n, kc_s, cn_, wild_]
          refine is_step_spec hv (by decide) (by decide) fun Gg kg => ?_
          try simp only [seq_, next_, ret_, drop_, ifs_, br_t, br_f, asg_, gn_, gt_, gtc_, gtn_, par_, var_0, var_s, c_, nil_, cons_, tup_, lst_, op_, bool_, kb_, tru_, tr_bl, andT_, orT_, kn_tt, kn_tf, kn_ff, kn_ft, notT_, and_, kand_t, kand_f, if_, bre_t, bre_f, call_, cb_, neg_, sl_, nopart_, part_, FD.sl_tup, eq_int0, eq_int1, eq_bl0, eq_bl1, beq_self_eq_true, Bool.not_true, Bool.not_false, add_int, add_tup, add_ref, int_, int0_, mul_int, mul_str, ord_int, FD.ix_tup, ix_fl, ix_ref, at_0, at_1, at_2, at_3, len_tup, len_fl, len_ref, max2_, min2_, tuple_tup, tuple_ref, is_, gs_, setL_, ml_, for_, rng1_, any_, lc_, FD.sl_ref, list_tup, dict0_, dn_, sortK_, val_tup, yes_, isLst_, List.set_cons_zero, List.set_cons_succ, or_, kor_t, kor_f, not_, chain_, kch_t, kch_f, ord_str, len_str, ordc_, strc_int, val_str, add_str, sl_strD, match_, cc_, kc_n, kc_s, cn_, wild_]
          refine is_place_spec hv (by decide) fun Gh kh => ?_
          try simp only [seq_, next_, ret_, drop_, ifs_, br_t, br_f, asg_, gn_, gt_, gtc_, gtn_, par_, var_0, var_s, c_, nil_, cons_, tup_, lst_, op_, bool_, kb_, tru_, tr_bl, andT_, orT_, kn_tt, kn_tf, kn_ff, kn_ft, notT_, and_, kand_t, kand_f, if_, bre_t, bre_f, call_, cb_, neg_, sl_, nopart_, part_, FD.sl_tup, eq_int0, eq_int1, eq_bl0, eq_bl1, beq_self_eq_true, Bool.not_true, Bool.not_false, add_int, add_tup, add_ref, int_, int0_, mul_int, mul_str, ord_int, FD.ix_tup, ix_fl, ix_ref, at_0, at_1, at_2, at_3, len_tup, len_fl, len_ref, max2_, min2_, tuple_tup, tuple_ref, is_, gs_, setL_, ml_, for_, rng1_, any_, lc_, FD.sl_ref, list_tup, dict0_, dn_, sortK_, val_tup, yes_, isLst_, List.set_cons_zero, List.set_cons_succ, or_, kor_t, kor_f, not_, chain_, kch_t, kch_f, ord_str, len_str, ordc_, strc_int, val_str, add_str, sl_strD, match_, cc_, kc_n, kc_s, cn_, wild_]
          repeat (with_reducible refine And.intro (by first | rfl | omega | (simp only [sizeLine, List.length_cons, List.length_nil, List.length_append] <;> omega)) ?_)
          refine new_ fun u2 Gi hu2 ei ki => ?_
          refine same_lst (k := 0) (n := 10) ei ((kf.trans (kg.trans (kh.trans ki))) _ _ ee) (fun z hz => ?_) (by decide) (by decide) (by simp [sizeLine]) fun Gj kj => ?_
          · simp only [List.mem_cons, List.not_mem_nil, or_false] at hz
            rcases hz with rfl | rfl | rfl <;> exact pl_bl
          try simp only [seq_, next_, ret_, drop_, ifs_, br_t, br_f, asg_, gn_, gt_, gtc_, gtn_, par_, var_0, var_s, c_, nil_, cons_, tup_, lst_, op_, bool_, kb_, tru_, tr_bl, andT_, orT_, kn_tt, kn_tf, kn_ff, kn_ft, notT_, and_, kand_t, kand_f, if_, bre_t, bre_f, call_, cb_, neg_, sl_, nopart_, part_, FD.sl_tup, eq_int0, eq_int1, eq_bl0, eq_bl1, beq_self_eq_true, Bool.not_true, Bool.not_false, add_int, add_tup, add_ref, int_, int0_, mul_int, mul_str, ord_int, FD.ix_tup, ix_fl, ix_ref, at_0, at_1, at_2, at_3, len_tup, len_fl, len_ref, max2_, min2_, tuple_tup, tuple_ref, is_, gs_, setL_, ml_, for_, rng1_, any_, lc_, FD.sl_ref, list_tup, dict0_, dn_, sortK_, val_tup, yes_, isLst_, List.set_cons_zero, List.set_cons_succ, or_, kor_t, kor_f, not_, chain_, kch_t, kch_f, ord_str, len_str, ordc_, strc_int, val_str, add_str, sl_strD, match_, cc_, kc_n, kc_s, cn_, wild_]
          exact kz _ _ ⟨⟨_, _, rfl⟩, ka.trans (kb.trans (kc.trans (kd.trans (ke.trans (kf.trans (kg.trans (kh.trans (ki.trans kj)))))))), fun z hz => hvs z (List.mem_cons_of_mem _ hz)⟩
        · rintro _ Ga ⟨⟨o5, o6, rfl⟩, ka, _⟩
          exact ky _ _ ⟨⟨_, _, _, _, rfl⟩, ka _ _ e9, F9.keep ka, fun z hz => hds z (List.mem_cons_of_mem _ hz)⟩
        · simp only [List.mem_cons, List.not_mem_nil, or_false] at hz
          rcases hz with rfl | rfl
          · exact hd.mono (by decide) (by decide)
          · exact hod
      · rintro _ G8 ⟨⟨o4, o5, o6, o7, rfl⟩, _⟩
        exact kx' _ _ _ _ _ _ _ _
  · rintro _ G1 ⟨⟨o1, o2, o3, o4, o5, o6, o7, rfl⟩, _⟩
    try simp only [seq_, next_, ret_, drop_, ifs_, br_t, br_f, asg_, gn_, gt_, gtc_, gtn_, par_, var_0, var_s, c_, nil_, cons_, tup_, lst_, op_, bool_, kb_, tru_, tr_bl, andT_, orT_, kn_tt, kn_tf, kn_ff, kn_ft, notT_, and_, kand_t, kand_f, if_, bre_t, bre_f, call_, cb_, neg_, sl_, nopart_, part_, FD.sl_tup, eq_int0, eq_int1, eq_bl0, eq_bl1, beq_self_eq_true, Bool.not_true, Bool.not_false, add_int, add_tup, add_ref, int_, int0_, mul_int, mul_str, ord_int, FD.ix_tup, ix_fl, ix_ref, at_0, at_1, at_2, at_3, len_tup, len_fl, len_ref, max2_, min2_, tuple_tup, tuple_ref, is_, gs_, setL_, ml_, for_, rng1_, any_, lc_, FD.sl_ref, list_tup, dict0_, dn_, sortK_, val_tup, yes_, isLst_, List.set_cons_zero, List.set_cons_succ, or_, kor_t, kor_f, not_, chain_, kch_t, kch_f, ord_str, len_str, ordc_, strc_int, val_str, add_str, sl_strD, match_, cc_, kc_n, kc_s, cn_, wild_]
    exact h _
  · obtain ⟨j, hj, e⟩ := rng_mem hd
    refine ⟨_, ?_, ?_, e⟩
    · omega
    · revert hj
      split <;> split <;> omega
end K02

/-! the defs keep their readings, printed by gen.py -/
namespace K02
open PySem PySem.Spec PyProof.Rows L2 FD

def top (i : Nat) : Stmt := PySem.Challenge.pw_farenough_k02_keys_steps_and_places.main.body.getD i (.Pass ⟨0, 0, 0, 0⟩)
abbrev s_feed_of : Stmt := top 18
abbrev s_draw : Stmt := top 19
abbrev s_pick : Stmt := top 20
abbrev s_signs : Stmt := top 26
abbrev s_word : Stmt := top 32
abbrev s_calls : Stmt := top 21
abbrev s_some_text : Stmt := top 22
abbrev s_some_answer : Stmt := top 23
abbrev s_things : Stmt := top 33
abbrev s_odd : Stmt := top 34
abbrev s_l_is_text : Stmt := top 25
abbrev s_is_row : Stmt := top 30
abbrev s_l_is_place : Stmt := top 31
abbrev s_l_is_name : Stmt := top 27
abbrev s_l_is_key : Stmt := top 28
abbrev s_l_is_step : Stmt := top 29
abbrev s_same : Stmt := top 24
abbrev s_is_text : Stmt := top 7
abbrev s_are_texts : Stmt := top 13
abbrev s_is_answer : Stmt := top 9
abbrev s_are_answers : Stmt := top 14
abbrev s_is_count : Stmt := top 15
abbrev s_is_place : Stmt := top 16
abbrev s_is_name : Stmt := top 8
abbrev s_is_key : Stmt := top 10
abbrev s_are_keys : Stmt := top 11
abbrev s_is_step : Stmt := top 12
abbrev s_law : Stmt := top 35
/-- the built-ins are still the built-ins -/
structure Bl (mg : Str → Option Value) : Prop where
  all' : mg "all" = none
  bool' : mg "bool" = none
  int' : mg "int" = none
  isinstance' : mg "isinstance" = none
  len' : mg "len" = none
  list' : mg "list" = none
  max' : mg "max" = none
  min' : mg "min" = none
  ord' : mg "ord" = none
  range' : mg "range" = none
  str' : mg "str" = none
  tuple' : mg "tuple" = none
  zip' : mg "zip" = none
  c_LETTERS : ∃ u, mg "LETTERS" = some u ∧ RelV (.str "abcdefghijklmnopqrstuvwxyz") u
  c_LONGEST : ∃ u, mg "LONGEST" = some u ∧ RelV (.int 400) u
  c_LONGEST_NAME : ∃ u, mg "LONGEST_NAME" = some u ∧ RelV (.int 8) u
  c_MOST_ARGUMENTS : ∃ u, mg "MOST_ARGUMENTS" = some u ∧ RelV (.int 4) u
  c_MOST_KEYS : ∃ u, mg "MOST_KEYS" = some u ∧ RelV (.int 4) u
  c_SIGNS : ∃ u, mg "SIGNS" = some u ∧ RelV (.str "abcdefghijklmnopqrstuvwxyz0123456789") u
section
variable {P : Program} {w : World} {K : PySem.W.Frag} {mg : Str → Option Value} {base : Heap}
theorem sc_feed_of : FnScope N_feed_of ["_law_script", "_law_k"] (defScope s_feed_of) := ⟨rfl, rfl, rfl, by decide +kernel, rfl, by decide +kernel, by decide +kernel⟩
theorem ok_feed_of (T : Bl mg) {f_feed_of : Addr} {fd_feed_of : FuncData} (F_feed_of : FunOn K mg "_law_feed_of" s_feed_of ["_law_script", "_law_k"] f_feed_of fd_feed_of) : FnOk P w K mg base CX0 1 f_feed_of fd_feed_of ["_law_script", "_law_k"] (lift ⟨P, w, K⟩ sp_feed_of) := by
  refine fn_ok (t := t_feed_of) (k := 0) F_feed_of.F sc_feed_of fun cdv A outer s H E hr => ?_
  exact (pds_cons (pds_set 2 sc_feed_of.nd (pd_add (pd_mul pd_int (pd_var 1)) pd_int))
    (pds_cons (pds_if (pdt_lt (pd_var 1) (pd_len (by rfl) T.len' (pda_cons (pd_var 0) pda_nil))) (pds_one (pds_set 2 sc_feed_of.nd (pd_ix (pd_var 0) (pd_var 1)))) pds_nil)
    (pds_cons (pds_if (pdt_lt (pd_var 2) pd_int) (pds_one (pds_set 2 sc_feed_of.nd (pd_sub pd_int (pd_mul pd_int (pd_var 2))))) pds_nil)
    (pds_cons (pds_set 3 sc_feed_of.nd (pd_if (pdt_ge (pd_var 2) (pd_pow pd_int pd_int)) (pd_var 2) pd_int))
    (pds_one (pds_ret (pd_lst (pda_cons (pd_var 3) (pda_cons (pd_add (pd_add (pd_mod (pd_var 2) pd_int) (pd_mul pd_int (pd_var 1))) pd_int) pda_nil)))))))))
theorem sc_draw : FnScope N_draw ["_law_feed", "_law_many"] (defScope s_draw) := ⟨rfl, rfl, rfl, by decide +kernel, rfl, by decide +kernel, by decide +kernel⟩
theorem ok_draw (T : Bl mg) {f_draw : Addr} {fd_draw : FuncData} (F_draw : FunOn K mg "_law_draw" s_draw ["_law_feed", "_law_many"] f_draw fd_draw) : FnOk P w K mg base CX0 1 f_draw fd_draw ["_law_feed", "_law_many"] (lift ⟨P, w, K⟩ sp_draw) := by
  refine fn_ok (t := t_draw) (k := 0) F_draw.F sc_draw fun cdv A outer s H E hr => ?_
  exact (pds_cons (pds_if (pdt_gt (pd_ix (pd_var 0) pd_int) pd_int) (pds_cons (pds_set 2 sc_draw.nd (pd_mod (pd_ix (pd_var 0) pd_int) (pd_var 1)))
    (pds_cons (pds_asg (pd_fdiv (pd_ix (pd_var 0) pd_int) (pd_var 1)) (pdg_subL (pd_var 0) pd_int))
    (pds_one (pds_ret (pd_var 2))))) pds_nil)
    (pds_cons (pds_asg (pd_mod (pd_add (pd_mul (pd_ix (pd_var 0) pd_int) pd_int) pd_int) pd_int) (pdg_subL (pd_var 0) pd_int))
    (pds_one (pds_ret (pd_mod (pd_fdiv (pd_ix (pd_var 0) pd_int) pd_int) (pd_var 1))))))
theorem sc_pick : FnScope N_pick ["_law_feed", "_law_items"] (defScope s_pick) := ⟨rfl, rfl, rfl, by decide +kernel, rfl, by decide +kernel, by decide +kernel⟩
theorem ok_pick (T : Bl mg) {f_pick : Addr} {fd_pick : FuncData} (F_pick : FunOn K mg "_law_pick" s_pick ["_law_feed", "_law_items"] f_pick fd_pick)
    {f_draw : Addr} {fd_draw : FuncData} (F_draw : FunOn K mg "_law_draw" s_draw ["_law_feed", "_law_many"] f_draw fd_draw) (G_draw : FnOk P w K mg base CX0 1 f_draw fd_draw ["_law_feed", "_law_many"] (lift ⟨P, w, K⟩ sp_draw)) : FnOk P w K mg base CX0 4 f_pick fd_pick ["_law_feed", "_law_items"] (lift ⟨P, w, K⟩ sp_pick) := by
  refine fn_ok (t := t_pick) (k := 3) F_pick.F sc_pick fun cdv A outer s H E hr => ?_
  exact (pds_one (pds_ret (pd_ix (pd_var 1) (pd_call G_draw (hr.mono (by decide)) (by rfl) F_draw.g F_draw.F.kp F_draw.b (pda_cons (pd_var 0) (pda_cons (pd_len (by rfl) T.len' (pda_cons (pd_var 1) pda_nil)) pda_nil))))))
theorem sc_signs : FnScope N_signs [] (defScope s_signs) := ⟨rfl, rfl, rfl, by decide +kernel, rfl, by decide +kernel, by decide +kernel⟩
theorem ok_signs (T : Bl mg) {f_signs : Addr} {fd_signs : FuncData} (F_signs : FunOn K mg "_law_signs" s_signs [] f_signs fd_signs) : FnOk P w K mg base CX0 1 f_signs fd_signs [] (lift ⟨P, w, K⟩ sp_signs) := by
  refine fn_ok (t := t_signs) (k := 0) F_signs.F sc_signs fun cdv A outer s H E hr => ?_
  exact (pds_cons (pds_set 0 sc_signs.nd pd_str)
    (pds_one (pds_ret (pd_add (pd_var 0) pd_str))))
theorem sc_word : FnScope N_word ["_law_feed"] (defScope s_word) := ⟨rfl, rfl, rfl, by decide +kernel, rfl, by decide +kernel, by decide +kernel⟩
theorem ok_word (T : Bl mg) {f_word : Addr} {fd_word : FuncData} (F_word : FunOn K mg "_law_word" s_word ["_law_feed"] f_word fd_word)
    {f_pick : Addr} {fd_pick : FuncData} (F_pick : FunOn K mg "_law_pick" s_pick ["_law_feed", "_law_items"] f_pick fd_pick) (G_pick : FnOk P w K mg base CX0 4 f_pick fd_pick ["_law_feed", "_law_items"] (lift ⟨P, w, K⟩ sp_pick))
    {f_draw : Addr} {fd_draw : FuncData} (F_draw : FunOn K mg "_law_draw" s_draw ["_law_feed", "_law_many"] f_draw fd_draw) (G_draw : FnOk P w K mg base CX0 1 f_draw fd_draw ["_law_feed", "_law_many"] (lift ⟨P, w, K⟩ sp_draw))
    {f_signs : Addr} {fd_signs : FuncData} (F_signs : FunOn K mg "_law_signs" s_signs [] f_signs fd_signs) (G_signs : FnOk P w K mg base CX0 1 f_signs fd_signs [] (lift ⟨P, w, K⟩ sp_signs)) : FnOk P w K mg base CX0 7 f_word fd_word ["_law_feed"] (lift ⟨P, w, K⟩ sp_word) := by
  refine fn_ok (t := t_word) (k := 6) F_word.F sc_word fun cdv A outer s H E hr => ?_
  exact (pds_cons (pds_set 1 sc_word.nd (pd_call G_pick (hr.mono (by decide)) (by rfl) F_pick.g F_pick.F.kp F_pick.b (pda_cons (pd_var 0) (pda_cons pd_str pda_nil))))
    (pds_cons (pds_for PassesOwn.never rfl (pdi_rng1 (by rfl) T.range' (pda_cons (pd_ix (pd_lst (pda_cons pd_int (pda_cons pd_int (pda_cons pd_int (pda_cons pd_int (pda_cons pd_int pda_nil)))))) (pd_call G_draw (hr.mono (by decide)) (by rfl) F_draw.g F_draw.F.kp F_draw.b (pda_cons (pd_var 0) (pda_cons pd_int pda_nil)))) pda_nil)) (pdg_name 2 sc_word.nd) (pds_one (pds_set 1 sc_word.nd (pd_add (pd_var 1) (pd_call G_pick (hr.mono (by decide)) (by rfl) F_pick.g F_pick.F.kp F_pick.b (pda_cons (pd_var 0) (pda_cons pd_str pda_nil)))))))
    (pds_cons (pds_par 3 4 rfl sc_word.nd (pda_cons (pd_call G_draw (hr.mono (by decide)) (by rfl) F_draw.g F_draw.F.kp F_draw.b (pda_cons (pd_var 0) (pda_cons (pd_add (pd_len (by rfl) T.len' (pda_cons (pd_var 1) pda_nil)) pd_int) pda_nil))) (pda_cons (pd_call G_pick (hr.mono (by decide)) (by rfl) F_pick.g F_pick.F.kp F_pick.b (pda_cons (pd_var 0) (pda_cons (pd_add (pd_call0 G_signs (hr.mono (by decide)) (by rfl) F_signs.g F_signs.F.kp F_signs.b) pd_str) pda_nil))) pda_nil)))
    (pds_cons (pds_if (pdt_gt (pd_call G_draw (hr.mono (by decide)) (by rfl) F_draw.g F_draw.F.kp F_draw.b (pda_cons (pd_var 0) (pda_cons pd_int pda_nil))) pd_int) (pds_one (pds_ret (pd_var 1))) pds_nil)
    (pds_one (pds_ret (pd_add (pd_add (pd_slice (pd_var 1) pdo_none (pdo_some (pd_var 3))) (pd_var 4)) (pd_slice (pd_var 1) (pdo_some (pd_add (pd_var 3) (pd_call G_draw (hr.mono (by decide)) (by rfl) F_draw.g F_draw.F.kp F_draw.b (pda_cons (pd_var 0) (pda_cons pd_int pda_nil))))) pdo_none))))))))
theorem sc_calls : FnScope N_calls [] (defScope s_calls) := ⟨rfl, rfl, rfl, by decide +kernel, rfl, by decide +kernel, by decide +kernel⟩
theorem ok_calls (T : Bl mg) {f_calls : Addr} {fd_calls : FuncData} (F_calls : FunOn K mg "_law_calls" s_calls [] f_calls fd_calls) : FnOk P w K mg base CX0 1 f_calls fd_calls [] (lift ⟨P, w, K⟩ sp_calls) := by
  refine fn_ok (t := t_calls) (k := 0) F_calls.F sc_calls fun cdv A outer s H E hr => ?_
  exact (pds_one (pds_ret (pd_lst (pda_cons pd_str (pda_cons pd_str (pda_cons pd_str (pda_cons pd_str (pda_cons pd_str pda_nil))))))))
theorem sc_some_text : FnScope N_some_text ["_law_feed"] (defScope s_some_text) := ⟨rfl, rfl, rfl, by decide +kernel, rfl, by decide +kernel, by decide +kernel⟩
theorem ok_some_text (T : Bl mg) {f_some_text : Addr} {fd_some_text : FuncData} (F_some_text : FunOn K mg "_law_some_text" s_some_text ["_law_feed"] f_some_text fd_some_text)
    {f_draw : Addr} {fd_draw : FuncData} (F_draw : FunOn K mg "_law_draw" s_draw ["_law_feed", "_law_many"] f_draw fd_draw) (G_draw : FnOk P w K mg base CX0 1 f_draw fd_draw ["_law_feed", "_law_many"] (lift ⟨P, w, K⟩ sp_draw))
    {f_pick : Addr} {fd_pick : FuncData} (F_pick : FunOn K mg "_law_pick" s_pick ["_law_feed", "_law_items"] f_pick fd_pick) (G_pick : FnOk P w K mg base CX0 4 f_pick fd_pick ["_law_feed", "_law_items"] (lift ⟨P, w, K⟩ sp_pick))
    {f_calls : Addr} {fd_calls : FuncData} (F_calls : FunOn K mg "_law_calls" s_calls [] f_calls fd_calls) (G_calls : FnOk P w K mg base CX0 1 f_calls fd_calls [] (lift ⟨P, w, K⟩ sp_calls)) : FnOk P w K mg base CX0 7 f_some_text fd_some_text ["_law_feed"] (lift ⟨P, w, K⟩ sp_some_text) := by
  refine fn_ok (t := t_some_text) (k := 6) F_some_text.F sc_some_text fun cdv A outer s H E hr => ?_
  exact (pds_cons (pds_set 1 sc_some_text.nd (pd_call G_draw (hr.mono (by decide)) (by rfl) F_draw.g F_draw.F.kp F_draw.b (pda_cons (pd_var 0) (pda_cons pd_int pda_nil))))
    (pds_cons (pds_if (pdt_eq hr (pd_var 1) pd_int) (pds_one (pds_ret (pd_call G_pick (hr.mono (by decide)) (by rfl) F_pick.g F_pick.F.kp F_pick.b (pda_cons (pd_var 0) (pda_cons (pd_call0 G_calls (hr.mono (by decide)) (by rfl) F_calls.g F_calls.F.kp F_calls.b) pda_nil))))) pds_nil)
    (pds_cons (pds_if (pdt_eq hr (pd_var 1) pd_int) (pds_cons (pds_set 2 sc_some_text.nd (pd_ix (pd_lst (pda_cons (pd_add pd_int (pd_call G_draw (hr.mono (by decide)) (by rfl) F_draw.g F_draw.F.kp F_draw.b (pda_cons (pd_var 0) (pda_cons pd_int pda_nil)))) (pda_cons pd_int pda_nil))) (pd_fdiv (pd_call G_draw (hr.mono (by decide)) (by rfl) F_draw.g F_draw.F.kp F_draw.b (pda_cons (pd_var 0) (pda_cons pd_int pda_nil))) pd_int)))
    (pds_one (pds_ret (pd_call G_pick (hr.mono (by decide)) (by rfl) F_pick.g F_pick.F.kp F_pick.b (pda_cons (pd_var 0) (pda_cons (pd_lst (pda_cons pd_str (pda_cons pd_str (pda_cons pd_str (pda_cons pd_str (pda_cons pd_str (pda_cons (pd_mul pd_str (pd_var 2)) (pda_cons pd_str (pda_cons pd_str (pda_cons pd_str (pda_cons pd_str pda_nil))))))))))) pda_nil)))))) pds_nil)
    (pds_one (pds_ret (pd_ix (pd_lst (pda_cons pd_str (pda_cons pd_str (pda_cons pd_str (pda_cons pd_str (pda_cons pd_str (pda_cons pd_str pda_nil))))))) (pd_var 1)))))))
theorem sc_some_answer : FnScope N_some_answer ["_law_feed"] (defScope s_some_answer) := ⟨rfl, rfl, rfl, by decide +kernel, rfl, by decide +kernel, by decide +kernel⟩
theorem ok_some_answer (T : Bl mg) {f_some_answer : Addr} {fd_some_answer : FuncData} (F_some_answer : FunOn K mg "_law_some_answer" s_some_answer ["_law_feed"] f_some_answer fd_some_answer)
    {f_draw : Addr} {fd_draw : FuncData} (F_draw : FunOn K mg "_law_draw" s_draw ["_law_feed", "_law_many"] f_draw fd_draw) (G_draw : FnOk P w K mg base CX0 1 f_draw fd_draw ["_law_feed", "_law_many"] (lift ⟨P, w, K⟩ sp_draw))
    {f_some_text : Addr} {fd_some_text : FuncData} (F_some_text : FunOn K mg "_law_some_text" s_some_text ["_law_feed"] f_some_text fd_some_text) (G_some_text : FnOk P w K mg base CX0 7 f_some_text fd_some_text ["_law_feed"] (lift ⟨P, w, K⟩ sp_some_text)) : FnOk P w K mg base CX0 10 f_some_answer fd_some_answer ["_law_feed"] (lift ⟨P, w, K⟩ sp_some_answer) := by
  refine fn_ok (t := t_some_answer) (k := 9) F_some_answer.F sc_some_answer fun cdv A outer s H E hr => ?_
  exact (pds_one (pds_ret (pd_if (pdt_eq hr (pd_call G_draw (hr.mono (by decide)) (by rfl) F_draw.g F_draw.F.kp F_draw.b (pda_cons (pd_var 0) (pda_cons pd_int pda_nil))) pd_int) pd_non (pd_call G_some_text (hr.mono (by decide)) (by rfl) F_some_text.g F_some_text.F.kp F_some_text.b (pda_cons (pd_var 0) pda_nil)))))
theorem sc_things : FnScope N_things ["_law_feed"] (defScope s_things) := ⟨rfl, rfl, rfl, by decide +kernel, rfl, by decide +kernel, by decide +kernel⟩
theorem ok_things (T : Bl mg) {f_things : Addr} {fd_things : FuncData} (F_things : FunOn K mg "_law_things" s_things ["_law_feed"] f_things fd_things)
    {f_draw : Addr} {fd_draw : FuncData} (F_draw : FunOn K mg "_law_draw" s_draw ["_law_feed", "_law_many"] f_draw fd_draw) (G_draw : FnOk P w K mg base CX0 1 f_draw fd_draw ["_law_feed", "_law_many"] (lift ⟨P, w, K⟩ sp_draw))
    {f_word : Addr} {fd_word : FuncData} (F_word : FunOn K mg "_law_word" s_word ["_law_feed"] f_word fd_word) (G_word : FnOk P w K mg base CX0 7 f_word fd_word ["_law_feed"] (lift ⟨P, w, K⟩ sp_word))
    {f_some_answer : Addr} {fd_some_answer : FuncData} (F_some_answer : FunOn K mg "_law_some_answer" s_some_answer ["_law_feed"] f_some_answer fd_some_answer) (G_some_answer : FnOk P w K mg base CX0 10 f_some_answer fd_some_answer ["_law_feed"] (lift ⟨P, w, K⟩ sp_some_answer))
    {f_some_text : Addr} {fd_some_text : FuncData} (F_some_text : FunOn K mg "_law_some_text" s_some_text ["_law_feed"] f_some_text fd_some_text) (G_some_text : FnOk P w K mg base CX0 7 f_some_text fd_some_text ["_law_feed"] (lift ⟨P, w, K⟩ sp_some_text)) : FnOk P w K mg base CX0 13 f_things fd_things ["_law_feed"] (lift ⟨P, w, K⟩ sp_things) := by
  refine fn_ok (t := t_things) (k := 12) F_things.F sc_things fun cdv A outer s H E hr => ?_
  exact (pds_cons (pds_set 1 sc_things.nd (pd_tuple (by rfl) T.tuple' (pda_cons (pd_lc (own := [("_law_turn", 3)]) rfl sc_things.nd (pdi_rng1 (by rfl) T.range' (pda_cons (pd_add pd_int (pd_call G_draw (hr.mono (by decide)) (by rfl) F_draw.g F_draw.F.kp F_draw.b (pda_cons (pd_var 0) (pda_cons pd_int pda_nil)))) pda_nil)) (blkOk_by (own := [("_law_turn", 3)]) (N := N_things) (sc := defScope s_things) (by decide +kernel)) (fun _ _ _ _ _ => (pdc_name 3 sc_things.nd)) (fun _ _ _ _ _ => pdts_nil) (fun _ _ _ _ _ => (pd_tup (pda_cons (pd_call G_word (hr.mono (by decide)) (by rfl) F_word.g F_word.F.kp F_word.b (pda_cons (pd_var 0) pda_nil)) (pda_cons (pd_call G_word (hr.mono (by decide)) (by rfl) F_word.g F_word.F.kp F_word.b (pda_cons (pd_var 0) pda_nil)) pda_nil))))) pda_nil)))
    (pds_cons (pds_set 2 sc_things.nd (pd_lst pda_nil))
    (pds_cons (pds_for PassesOwn.never rfl (pdi_rng1 (by rfl) T.range' (pda_cons (pd_call G_draw (hr.mono (by decide)) (by rfl) F_draw.g F_draw.F.kp F_draw.b (pda_cons (pd_var 0) (pda_cons pd_int pda_nil))) pda_nil)) (pdg_name 3 sc_things.nd) (pds_one (pds_expr (pd_append (pd_var 2) (pda_cons (pd_tuple (by rfl) T.tuple' (pda_cons (pd_lc (own := [("_law_part", 7)]) rfl sc_things.nd (pdi_rng1 (by rfl) T.range' (pda_cons (pd_add pd_int (pd_call G_draw (hr.mono (by decide)) (by rfl) F_draw.g F_draw.F.kp F_draw.b (pda_cons (pd_var 0) (pda_cons pd_int pda_nil)))) pda_nil)) (blkOk_by (own := [("_law_part", 7)]) (N := N_things) (sc := defScope s_things) (by decide +kernel)) (fun _ _ _ _ _ => (pdc_name 7 sc_things.nd)) (fun _ _ _ _ _ => pdts_nil) (fun _ _ _ _ _ => (pd_call G_some_answer (hr.mono (by decide)) (by rfl) F_some_answer.g F_some_answer.F.kp F_some_answer.b (pda_cons (pd_var 0) pda_nil)))) pda_nil)) pda_nil)))))
    (pds_cons (pds_if (pdt_eq hr (pd_call G_draw (hr.mono (by decide)) (by rfl) F_draw.g F_draw.F.kp F_draw.b (pda_cons (pd_var 0) (pda_cons pd_int pda_nil))) pd_int) (pds_one (pds_expr (pd_append (pd_var 2) (pda_cons (pd_tup (pda_cons (pd_mul pd_str (pd_add pd_int (pd_call G_draw (hr.mono (by decide)) (by rfl) F_draw.g F_draw.F.kp F_draw.b (pda_cons (pd_var 0) (pda_cons pd_int pda_nil))))) pda_nil)) pda_nil)))) pds_nil)
    (pds_cons (pds_set 4 sc_things.nd (pd_tuple (by rfl) T.tuple' (pda_cons (pd_lc (own := [("_law_turn", 3)]) rfl sc_things.nd (pdi_rng1 (by rfl) T.range' (pda_cons (pd_call G_draw (hr.mono (by decide)) (by rfl) F_draw.g F_draw.F.kp F_draw.b (pda_cons (pd_var 0) (pda_cons pd_int pda_nil))) pda_nil)) (blkOk_by (own := [("_law_turn", 3)]) (N := N_things) (sc := defScope s_things) (by decide +kernel)) (fun _ _ _ _ _ => (pdc_name 3 sc_things.nd)) (fun _ _ _ _ _ => pdts_nil) (fun _ _ _ _ _ => (pd_call G_some_text (hr.mono (by decide)) (by rfl) F_some_text.g F_some_text.F.kp F_some_text.b (pda_cons (pd_var 0) pda_nil)))) pda_nil)))
    (pds_cons (pds_set 5 sc_things.nd (pd_ix (pd_lst (pda_cons (pd_call G_some_text (hr.mono (by decide)) (by rfl) F_some_text.g F_some_text.F.kp F_some_text.b (pda_cons (pd_var 0) pda_nil)) (pda_cons (pd_mul pd_str (pd_add pd_int (pd_call G_draw (hr.mono (by decide)) (by rfl) F_draw.g F_draw.F.kp F_draw.b (pda_cons (pd_var 0) (pda_cons pd_int pda_nil))))) pda_nil))) (pd_call G_draw (hr.mono (by decide)) (by rfl) F_draw.g F_draw.F.kp F_draw.b (pda_cons (pd_var 0) (pda_cons pd_int pda_nil)))))
    (pds_cons (pds_set 6 sc_things.nd (pd_lst (pda_cons (pd_ix (pd_var 1) pd_int) (pda_cons (pd_tup (pda_cons pd_str (pda_cons (pd_var 1) pda_nil))) (pda_cons (pd_tup (pda_cons pd_str (pda_cons (pd_call G_word (hr.mono (by decide)) (by rfl) F_word.g F_word.F.kp F_word.b (pda_cons (pd_var 0) pda_nil)) (pda_cons (pd_var 5) pda_nil)))) (pda_cons (pd_tup (pda_cons pd_str pda_nil)) pda_nil))))))
    (pds_one (pds_ret (pd_add (pd_var 6) (pd_lst (pda_cons (pd_tup (pda_cons (pd_call G_some_text (hr.mono (by decide)) (by rfl) F_some_text.g F_some_text.F.kp F_some_text.b (pda_cons (pd_var 0) pda_nil)) (pda_cons (pd_var 4) (pda_cons (pd_tuple (by rfl) T.tuple' (pda_cons (pd_var 2) pda_nil)) (pda_cons (pd_call G_draw (hr.mono (by decide)) (by rfl) F_draw.g F_draw.F.kp F_draw.b (pda_cons (pd_var 0) (pda_cons pd_int pda_nil))) pda_nil))))) pda_nil))))))))))))
theorem sc_odd : FnScope N_odd ["_law_feed", "_law_value"] (defScope s_odd) := ⟨rfl, rfl, rfl, by decide +kernel, rfl, by decide +kernel, by decide +kernel⟩
theorem ok_odd (T : Bl mg) {f_odd : Addr} {fd_odd : FuncData} (F_odd : FunOn K mg "_law_odd" s_odd ["_law_feed", "_law_value"] f_odd fd_odd)
    {f_draw : Addr} {fd_draw : FuncData} (F_draw : FunOn K mg "_law_draw" s_draw ["_law_feed", "_law_many"] f_draw fd_draw) (G_draw : FnOk P w K mg base CX0 1 f_draw fd_draw ["_law_feed", "_law_many"] (lift ⟨P, w, K⟩ sp_draw))
    {f_pick : Addr} {fd_pick : FuncData} (F_pick : FunOn K mg "_law_pick" s_pick ["_law_feed", "_law_items"] f_pick fd_pick) (G_pick : FnOk P w K mg base CX0 4 f_pick fd_pick ["_law_feed", "_law_items"] (lift ⟨P, w, K⟩ sp_pick)) : ∀ n : Nat, FnOk P w K mg base CX0 (6 + 1 + n) f_odd fd_odd ["_law_feed", "_law_value"] (lift ⟨P, w, K⟩ (sp_odd n))
  | 0 => fn_no2 fun _ _ _ h => h.2
  | n + 1 => by
    have G_odd := ok_odd T F_odd F_draw G_draw F_pick G_pick n
    refine fn_ok (t := t_odd (n + 1)) (k := 6 + 1 + n) F_odd.F sc_odd fun cdv A outer s H E hr => ?_
    exact (pds_cons (pds_if (PDW.pt (pdw_and (pdt_tru (pd_isi (by rfl) T.isinstance' (pda_cons (pd_var 1) (pda_cons (pd_ty (n := "tuple") (by rfl) T.tuple' (by decide +kernel)) pda_nil)))) (pdw_and (pdt_ne hr (pd_var 1) (pd_tup pda_nil)) (pdw_and1 (pdt_gt (pd_call G_draw (hr.mono (by omega)) (by rfl) F_draw.g F_draw.F.kp F_draw.b (pda_cons (pd_var 0) (pda_cons pd_int pda_nil))) pd_int))))) (pds_cons (pds_set 2 sc_odd.nd (pd_call G_draw (hr.mono (by omega)) (by rfl) F_draw.g F_draw.F.kp F_draw.b (pda_cons (pd_var 0) (pda_cons (pd_len (by rfl) T.len' (pda_cons (pd_var 1) pda_nil)) pda_nil))))
    (pds_cons (pds_set 3 sc_odd.nd (pd_call G_draw (hr.mono (by omega)) (by rfl) F_draw.g F_draw.F.kp F_draw.b (pda_cons (pd_var 0) (pda_cons pd_int pda_nil))))
    (pds_cons (pds_set 4 sc_odd.nd (pd_lst (pda_cons (pd_call G_odd hr (by rfl) F_odd.g F_odd.F.kp F_odd.b (pda_cons (pd_var 0) (pda_cons (pd_ix (pd_var 1) (pd_var 2)) pda_nil))) pda_nil)))
    (pds_cons (pds_set 4 sc_odd.nd (pd_ix (pd_lst (pda_cons (pd_var 4) (pda_cons (pd_var 4) (pda_cons (pd_var 4) (pda_cons (pd_lst pda_nil) (pda_cons (pd_lst (pda_cons (pd_ix (pd_var 1) (pd_var 2)) (pda_cons (pd_ix (pd_var 1) (pd_var 2)) pda_nil))) (pda_cons (pd_lst (pda_cons (pd_ix (pd_var 1) (pd_var 2)) (pda_cons pd_str pda_nil))) pda_nil))))))) (pd_var 3)))
    (pds_one (pds_ret (pd_add (pd_add (pd_slice (pd_var 1) pdo_none (pdo_some (pd_var 2))) (pd_tuple (by rfl) T.tuple' (pda_cons (pd_var 4) pda_nil))) (pd_slice (pd_var 1) (pdo_some (pd_add (pd_var 2) pd_int)) pdo_none)))))))) pds_nil)
    (pds_cons (pds_set 5 sc_odd.nd (pd_lst (pda_cons pd_non (pda_cons pd_bl (pda_cons pd_int (pda_cons (pd_sub pd_int pd_int) (pda_cons pd_str (pda_cons pd_str (pda_cons pd_str (pda_cons pd_str (pda_cons (pd_tup pda_nil) (pda_cons (pd_tup (pda_cons pd_str (pda_cons pd_str pda_nil))) (pda_cons (pd_tup (pda_cons pd_str pda_nil)) (pda_cons (pd_tup (pda_cons (pd_tup (pda_cons pd_str (pda_cons pd_str pda_nil))) pda_nil)) (pda_cons pd_str (pda_cons pd_int (pda_cons (pd_mul pd_str pd_int) pda_nil)))))))))))))))))
    (pds_one (pds_ret (pd_call G_pick (hr.mono (by omega)) (by rfl) F_pick.g F_pick.F.kp F_pick.b (pda_cons (pd_var 0) (pda_cons (pd_add (pd_var 5) (pd_lst (pda_cons pd_bl (pda_cons pd_str (pda_cons (pd_add pd_str (pd_str1 (by rfl) T.str' (pda_cons (pd_call G_draw (hr.mono (by omega)) (by rfl) F_draw.g F_draw.F.kp F_draw.b (pda_cons (pd_var 0) (pda_cons pd_int pda_nil))) pda_nil))) (pda_cons (pd_tup (pda_cons pd_non pda_nil)) (pda_cons (pd_tup (pda_cons pd_str pda_nil)) (pda_cons (pd_tup (pda_cons (pd_tup (pda_cons pd_non pda_nil)) pda_nil)) (pda_cons pd_str (pda_cons pd_str pda_nil)))))))))) pda_nil)))))))
theorem sc_l_is_text : FnScope N_l_is_text ["_law_value"] (defScope s_l_is_text) := ⟨rfl, rfl, rfl, by decide +kernel, rfl, by decide +kernel, by decide +kernel⟩
theorem ok_l_is_text (T : Bl mg) {f_l_is_text : Addr} {fd_l_is_text : FuncData} (F_l_is_text : FunOn K mg "_law_is_text" s_l_is_text ["_law_value"] f_l_is_text fd_l_is_text)
    {f_signs : Addr} {fd_signs : FuncData} (F_signs : FunOn K mg "_law_signs" s_signs [] f_signs fd_signs) (G_signs : FnOk P w K mg base CX0 1 f_signs fd_signs [] (lift ⟨P, w, K⟩ sp_signs)) : FnOk P w K mg base CX0 4 f_l_is_text fd_l_is_text ["_law_value"] (lift ⟨P, w, K⟩ sp_l_is_text) := by
  refine fn_ok (t := t_l_is_text) (k := 3) F_l_is_text.F sc_l_is_text fun cdv A outer s H E hr => ?_
  exact (pds_cons (pds_if (PDW.pt (pdw_or (pdt_not (pdt_tru (pd_isi (by rfl) T.isinstance' (pda_cons (pd_var 0) (pda_cons (pd_ty (n := "str") (by rfl) T.str' (by decide +kernel)) pda_nil))))) (pdw_or1 (pdt_gt (pd_len (by rfl) T.len' (pda_cons (pd_var 0) pda_nil)) pd_int)))) (pds_one (pds_ret pd_bl)) pds_nil)
    (pds_cons (pds_set 1 sc_l_is_text.nd (pd_call0 G_signs (hr.mono (by decide)) (by rfl) F_signs.g F_signs.F.kp F_signs.b))
    (pds_one (pds_ret (pd_eq hr (pd_lc (own := [("_law_sign", 2)]) rfl sc_l_is_text.nd (pdi_any (pd_var 0)) (blkOk_by (own := [("_law_sign", 2)]) (N := N_l_is_text) (sc := defScope s_l_is_text) (by decide +kernel)) (fun _ _ _ _ _ => (pdc_name 2 sc_l_is_text.nd)) (fun _ _ _ _ _ => (pdts_one (pdt_notin hr (pd_var 2) (pd_var 1)))) (fun _ _ _ _ _ => (pd_var 2))) (pd_lst pda_nil))))))
theorem sc_is_row : FnScope N_is_row ["_law_value"] (defScope s_is_row) := ⟨rfl, rfl, rfl, by decide +kernel, rfl, by decide +kernel, by decide +kernel⟩
theorem ok_is_row (T : Bl mg) {f_is_row : Addr} {fd_is_row : FuncData} (F_is_row : FunOn K mg "_law_is_row" s_is_row ["_law_value"] f_is_row fd_is_row)
    {f_l_is_text : Addr} {fd_l_is_text : FuncData} (F_l_is_text : FunOn K mg "_law_is_text" s_l_is_text ["_law_value"] f_l_is_text fd_l_is_text) (G_l_is_text : FnOk P w K mg base CX0 4 f_l_is_text fd_l_is_text ["_law_value"] (lift ⟨P, w, K⟩ sp_l_is_text)) : FnOk P w K mg base CX0 7 f_is_row fd_is_row ["_law_value"] (lift ⟨P, w, K⟩ sp_is_row) := by
  refine fn_ok (t := t_is_row) (k := 6) F_is_row.F sc_is_row fun cdv A outer s H E hr => ?_
  exact (pds_cons (pds_if (PDW.pt (pdw_or (pdt_not (pdt_tru (pd_isi (by rfl) T.isinstance' (pda_cons (pd_var 0) (pda_cons (pd_ty (n := "tuple") (by rfl) T.tuple' (by decide +kernel)) pda_nil))))) (pdw_or1 (pdt_not (pdt_chain op_ltA op_ltA lk_ord lk_ord pd_int (pd_len (by rfl) T.len' (pda_cons (pd_var 0) pda_nil)) pd_int))))) (pds_one (pds_ret pd_bl)) pds_nil)
    (pds_one (pds_ret (pd_eq hr (pd_lc (own := [("_law_one", 1)]) rfl sc_is_row.nd (pdi_any (pd_var 0)) (blkOk_by (own := [("_law_one", 1)]) (N := N_is_row) (sc := defScope s_is_row) (by decide +kernel)) (fun _ _ _ _ _ => (pdc_name 1 sc_is_row.nd)) (fun _ _ _ _ _ => (pdts_one (PDW.pt (pdw_and (pdt_isnot (pd_var 1) pd_non) (pdw_and1 (pdt_not (pdt_tru (pd_call G_l_is_text (hr.mono (by decide)) (by rfl) F_l_is_text.g F_l_is_text.F.kp F_l_is_text.b (pda_cons (pd_var 1) pda_nil))))))))) (fun _ _ _ _ _ => pd_int)) (pd_lst pda_nil)))))
theorem sc_l_is_place : FnScope N_l_is_place ["_law_value"] (defScope s_l_is_place) := ⟨rfl, rfl, rfl, by decide +kernel, rfl, by decide +kernel, by decide +kernel⟩
theorem ok_l_is_place (T : Bl mg) {f_l_is_place : Addr} {fd_l_is_place : FuncData} (F_l_is_place : FunOn K mg "_law_is_place" s_l_is_place ["_law_value"] f_l_is_place fd_l_is_place)
    {f_l_is_text : Addr} {fd_l_is_text : FuncData} (F_l_is_text : FunOn K mg "_law_is_text" s_l_is_text ["_law_value"] f_l_is_text fd_l_is_text) (G_l_is_text : FnOk P w K mg base CX0 4 f_l_is_text fd_l_is_text ["_law_value"] (lift ⟨P, w, K⟩ sp_l_is_text))
    {f_is_row : Addr} {fd_is_row : FuncData} (F_is_row : FunOn K mg "_law_is_row" s_is_row ["_law_value"] f_is_row fd_is_row) (G_is_row : FnOk P w K mg base CX0 7 f_is_row fd_is_row ["_law_value"] (lift ⟨P, w, K⟩ sp_is_row)) : FnOk P w K mg base CX0 10 f_l_is_place fd_l_is_place ["_law_value"] (lift ⟨P, w, K⟩ sp_l_is_place) := by
  refine fn_ok (t := t_l_is_place) (k := 9) F_l_is_place.F sc_l_is_place fun cdv A outer s H E hr => ?_
  exact (pds_cons (pds_if (PDW.pt (pdw_or (pdt_not (pdt_tru (pd_isi (by rfl) T.isinstance' (pda_cons (pd_var 0) (pda_cons (pd_ty (n := "tuple") (by rfl) T.tuple' (by decide +kernel)) pda_nil))))) (pdw_or (pdt_ne hr (pd_len (by rfl) T.len' (pda_cons (pd_var 0) pda_nil)) pd_int) (pdw_or1 (pdt_not (pdt_tru (pd_call G_l_is_text (hr.mono (by decide)) (by rfl) F_l_is_text.g F_l_is_text.F.kp F_l_is_text.b (pda_cons (pd_ix (pd_var 0) pd_int) pda_nil)))))))) (pds_one (pds_ret pd_bl)) pds_nil)
    (pds_cons (pds_if (PDW.pt (pdw_or (pdt_not (pdt_tru (pd_isi (by rfl) T.isinstance' (pda_cons (pd_ix (pd_var 0) pd_int) (pda_cons (pd_ty (n := "tuple") (by rfl) T.tuple' (by decide +kernel)) pda_nil))))) (pdw_or (pdt_gt (pd_len (by rfl) T.len' (pda_cons (pd_ix (pd_var 0) pd_int) pda_nil)) pd_int) (pdw_or1 (pdt_not (pdt_tru (pd_isi (by rfl) T.isinstance' (pda_cons (pd_ix (pd_var 0) pd_int) (pda_cons (pd_ty (n := "tuple") (by rfl) T.tuple' (by decide +kernel)) pda_nil))))))))) (pds_one (pds_ret pd_bl)) pds_nil)
    (pds_cons (pds_if (pdt_ne hr (pd_add (pd_lc (own := [("_law_one", 1)]) rfl sc_l_is_place.nd (pdi_any (pd_ix (pd_var 0) pd_int)) (blkOk_by (own := [("_law_one", 1)]) (N := N_l_is_place) (sc := defScope s_l_is_place) (by decide +kernel)) (fun _ _ _ _ _ => (pdc_name 1 sc_l_is_place.nd)) (fun _ _ _ _ _ => (pdts_one (pdt_not (pdt_tru (pd_call G_l_is_text (hr.mono (by decide)) (by rfl) F_l_is_text.g F_l_is_text.F.kp F_l_is_text.b (pda_cons (pd_var 1) pda_nil)))))) (fun _ _ _ _ _ => pd_int)) (pd_lc (own := [("_law_row", 2)]) rfl sc_l_is_place.nd (pdi_any (pd_ix (pd_var 0) pd_int)) (blkOk_by (own := [("_law_row", 2)]) (N := N_l_is_place) (sc := defScope s_l_is_place) (by decide +kernel)) (fun _ _ _ _ _ => (pdc_name 2 sc_l_is_place.nd)) (fun _ _ _ _ _ => (pdts_one (pdt_not (pdt_tru (pd_call G_is_row (hr.mono (by decide)) (by rfl) F_is_row.g F_is_row.F.kp F_is_row.b (pda_cons (pd_var 2) pda_nil)))))) (fun _ _ _ _ _ => pd_int))) (pd_lst pda_nil)) (pds_one (pds_ret pd_bl)) pds_nil)
    (pds_one (pds_ret (pd_and (pd_isi (by rfl) T.isinstance' (pda_cons (pd_ix (pd_var 0) pd_int) (pda_cons (pd_ty (n := "int") (by rfl) T.int' (by decide +kernel)) pda_nil))) (pd_and (pd_not (pd_isi (by rfl) T.isinstance' (pda_cons (pd_ix (pd_var 0) pd_int) (pda_cons (pd_ty (n := "bool") (by rfl) T.bool' (by decide +kernel)) pda_nil)))) (pd_one (pd_ge (pd_ix (pd_var 0) pd_int) pd_int)))))))))
theorem sc_l_is_name : FnScope N_l_is_name ["_law_value"] (defScope s_l_is_name) := ⟨rfl, rfl, rfl, by decide +kernel, rfl, by decide +kernel, by decide +kernel⟩
theorem ok_l_is_name (T : Bl mg) {f_l_is_name : Addr} {fd_l_is_name : FuncData} (F_l_is_name : FunOn K mg "_law_is_name" s_l_is_name ["_law_value"] f_l_is_name fd_l_is_name) : FnOk P w K mg base CX0 1 f_l_is_name fd_l_is_name ["_law_value"] (lift ⟨P, w, K⟩ sp_l_is_name) := by
  refine fn_ok (t := t_l_is_name) (k := 0) F_l_is_name.F sc_l_is_name fun cdv A outer s H E hr => ?_
  exact (pds_cons (pds_set 1 sc_l_is_name.nd pd_str)
    (pds_cons (pds_if (PDW.pt (pdw_or (pdt_not (pdt_tru (pd_isi (by rfl) T.isinstance' (pda_cons (pd_var 0) (pda_cons (pd_ty (n := "str") (by rfl) T.str' (by decide +kernel)) pda_nil))))) (pdw_or (pdt_eq hr (pd_var 0) pd_str) (pdw_or (pdt_gt (pd_len (by rfl) T.len' (pda_cons (pd_var 0) pda_nil)) pd_int) (pdw_or1 (pdt_notin hr (pd_ix (pd_var 0) pd_int) (pd_var 1))))))) (pds_one (pds_ret pd_bl)) pds_nil)
    (pds_one (pds_ret (pd_eq hr (pd_lc (own := [("_law_sign", 2)]) rfl sc_l_is_name.nd (pdi_any (pd_var 0)) (blkOk_by (own := [("_law_sign", 2)]) (N := N_l_is_name) (sc := defScope s_l_is_name) (by decide +kernel)) (fun _ _ _ _ _ => (pdc_name 2 sc_l_is_name.nd)) (fun _ _ _ _ _ => (pdts_one (pdt_notin hr (pd_var 2) (pd_add (pd_var 1) pd_str)))) (fun _ _ _ _ _ => (pd_var 2))) (pd_lst pda_nil))))))
theorem sc_l_is_key : FnScope N_l_is_key ["_law_value"] (defScope s_l_is_key) := ⟨rfl, rfl, rfl, by decide +kernel, rfl, by decide +kernel, by decide +kernel⟩
theorem ok_l_is_key (T : Bl mg) {f_l_is_key : Addr} {fd_l_is_key : FuncData} (F_l_is_key : FunOn K mg "_law_is_key" s_l_is_key ["_law_value"] f_l_is_key fd_l_is_key)
    {f_l_is_name : Addr} {fd_l_is_name : FuncData} (F_l_is_name : FunOn K mg "_law_is_name" s_l_is_name ["_law_value"] f_l_is_name fd_l_is_name) (G_l_is_name : FnOk P w K mg base CX0 1 f_l_is_name fd_l_is_name ["_law_value"] (lift ⟨P, w, K⟩ sp_l_is_name)) : FnOk P w K mg base CX0 4 f_l_is_key fd_l_is_key ["_law_value"] (lift ⟨P, w, K⟩ sp_l_is_key) := by
  refine fn_ok (t := t_l_is_key) (k := 3) F_l_is_key.F sc_l_is_key fun cdv A outer s H E hr => ?_
  exact (pds_one (pds_ret (pd_and (pd_isi (by rfl) T.isinstance' (pda_cons (pd_var 0) (pda_cons (pd_ty (n := "tuple") (by rfl) T.tuple' (by decide +kernel)) pda_nil))) (pd_and (pd_eq hr (pd_len (by rfl) T.len' (pda_cons (pd_var 0) pda_nil)) pd_int) (pd_one (pd_eq hr (pd_lc (own := [("_law_one", 1)]) rfl sc_l_is_key.nd (pdi_any (pd_var 0)) (blkOk_by (own := [("_law_one", 1)]) (N := N_l_is_key) (sc := defScope s_l_is_key) (by decide +kernel)) (fun _ _ _ _ _ => (pdc_name 1 sc_l_is_key.nd)) (fun _ _ _ _ _ => (pdts_one (pdt_not (pdt_tru (pd_call G_l_is_name (hr.mono (by decide)) (by rfl) F_l_is_name.g F_l_is_name.F.kp F_l_is_name.b (pda_cons (pd_var 1) pda_nil)))))) (fun _ _ _ _ _ => pd_int)) (pd_lst pda_nil)))))))
theorem sc_l_is_step : FnScope N_l_is_step ["_law_value"] (defScope s_l_is_step) := ⟨rfl, rfl, rfl, by decide +kernel, rfl, by decide +kernel, by decide +kernel⟩
theorem ok_l_is_step (T : Bl mg) {f_l_is_step : Addr} {fd_l_is_step : FuncData} (F_l_is_step : FunOn K mg "_law_is_step" s_l_is_step ["_law_value"] f_l_is_step fd_l_is_step)
    {f_l_is_key : Addr} {fd_l_is_key : FuncData} (F_l_is_key : FunOn K mg "_law_is_key" s_l_is_key ["_law_value"] f_l_is_key fd_l_is_key) (G_l_is_key : FnOk P w K mg base CX0 4 f_l_is_key fd_l_is_key ["_law_value"] (lift ⟨P, w, K⟩ sp_l_is_key))
    {f_l_is_name : Addr} {fd_l_is_name : FuncData} (F_l_is_name : FunOn K mg "_law_is_name" s_l_is_name ["_law_value"] f_l_is_name fd_l_is_name) (G_l_is_name : FnOk P w K mg base CX0 1 f_l_is_name fd_l_is_name ["_law_value"] (lift ⟨P, w, K⟩ sp_l_is_name))
    {f_l_is_text : Addr} {fd_l_is_text : FuncData} (F_l_is_text : FunOn K mg "_law_is_text" s_l_is_text ["_law_value"] f_l_is_text fd_l_is_text) (G_l_is_text : FnOk P w K mg base CX0 4 f_l_is_text fd_l_is_text ["_law_value"] (lift ⟨P, w, K⟩ sp_l_is_text)) : FnOk P w K mg base CX0 7 f_l_is_step fd_l_is_step ["_law_value"] (lift ⟨P, w, K⟩ sp_l_is_step) := by
  refine fn_ok (t := t_l_is_step) (k := 6) F_l_is_step.F sc_l_is_step fun cdv A outer s H E hr => ?_
  exact (pds_cons (pds_if (PDW.pt (pdw_or (pdt_not (pdt_tru (pd_isi (by rfl) T.isinstance' (pda_cons (pd_var 0) (pda_cons (pd_ty (n := "tuple") (by rfl) T.tuple' (by decide +kernel)) pda_nil))))) (pdw_or (pdt_eq hr (pd_var 0) (pd_tup pda_nil)) (pdw_or1 (pdt_not (pdt_tru (pd_isi (by rfl) T.isinstance' (pda_cons (pd_ix (pd_var 0) pd_int) (pda_cons (pd_ty (n := "str") (by rfl) T.str' (by decide +kernel)) pda_nil))))))))) (pds_one (pds_ret pd_bl)) pds_nil)
    (pds_cons (pds_if (PDW.pt (pdw_and (pdt_eq hr (pd_ix (pd_var 0) pd_int) pd_str) (pdw_and (pdt_eq hr (pd_len (by rfl) T.len' (pda_cons (pd_var 0) pda_nil)) pd_int) (pdw_and1 (pdt_tru (pd_isi (by rfl) T.isinstance' (pda_cons (pd_ix (pd_var 0) pd_int) (pda_cons (pd_ty (n := "tuple") (by rfl) T.tuple' (by decide +kernel)) pda_nil)))))))) (pds_cons (pds_set 1 sc_l_is_step.nd (pd_ix (pd_var 0) pd_int))
    (pds_cons (pds_if (PDW.pt (pdw_or (pdt_not (pdt_chain op_ltA op_ltA lk_ord lk_ord pd_int (pd_len (by rfl) T.len' (pda_cons (pd_var 1) pda_nil)) pd_int)) (pdw_or1 (pdt_ne hr (pd_lc (own := [("_law_key", 2)]) rfl sc_l_is_step.nd (pdi_any (pd_var 1)) (blkOk_by (own := [("_law_key", 2)]) (N := N_l_is_step) (sc := defScope s_l_is_step) (by decide +kernel)) (fun _ _ _ _ _ => (pdc_name 2 sc_l_is_step.nd)) (fun _ _ _ _ _ => (pdts_one (pdt_not (pdt_tru (pd_call G_l_is_key (hr.mono (by decide)) (by rfl) F_l_is_key.g F_l_is_key.F.kp F_l_is_key.b (pda_cons (pd_var 2) pda_nil)))))) (fun _ _ _ _ _ => pd_int)) (pd_lst pda_nil))))) (pds_one (pds_ret pd_bl)) pds_nil)
    (pds_one (pds_ret (pd_eq hr (pd_lc (own := [("_law_k", 3)]) rfl sc_l_is_step.nd (pdi_rng1 (by rfl) T.range' (pda_cons (pd_len (by rfl) T.len' (pda_cons (pd_var 1) pda_nil)) pda_nil)) (blkOk_by (own := [("_law_k", 3)]) (N := N_l_is_step) (sc := defScope s_l_is_step) (by decide +kernel)) (fun _ _ _ _ _ => (pdc_name 3 sc_l_is_step.nd)) (fun _ _ _ _ _ => (pdts_one (pdt_in hr (pd_ix (pd_var 1) (pd_var 3)) (pd_slice (pd_var 1) pdo_none (pdo_some (pd_var 3)))))) (fun _ _ _ _ _ => pd_int)) (pd_lst pda_nil)))))) pds_nil)
    (pds_cons (pds_if (PDW.pt (pdw_and (pdt_eq hr (pd_ix (pd_var 0) pd_int) pd_str) (pdw_and1 (pdt_eq hr (pd_len (by rfl) T.len' (pda_cons (pd_var 0) pda_nil)) pd_int)))) (pds_one (pds_ret (pd_and (pd_call G_l_is_name (hr.mono (by decide)) (by rfl) F_l_is_name.g F_l_is_name.F.kp F_l_is_name.b (pda_cons (pd_ix (pd_var 0) pd_int) pda_nil)) (pd_one (pd_call G_l_is_text (hr.mono (by decide)) (by rfl) F_l_is_text.g F_l_is_text.F.kp F_l_is_text.b (pda_cons (pd_ix (pd_var 0) pd_int) pda_nil)))))) pds_nil)
    (pds_one (pds_ret (pd_and (pd_eq hr (pd_len (by rfl) T.len' (pda_cons (pd_var 0) pda_nil)) pd_int) (pd_one (pd_eq hr (pd_ix (pd_var 0) pd_int) pd_str))))))))
theorem sc_same : FnScope N_same ["_law_found", "_law_due"] (defScope s_same) := ⟨rfl, rfl, rfl, by decide +kernel, rfl, by decide +kernel, by decide +kernel⟩
theorem ok_same (T : Bl mg) {f_same : Addr} {fd_same : FuncData} (F_same : FunOn K mg "_law_same" s_same ["_law_found", "_law_due"] f_same fd_same) : ∀ n : Nat, FnOk P w K mg base CX0 (0 + 1 + n) f_same fd_same ["_law_found", "_law_due"] (lift ⟨P, w, K⟩ (sp_same n))
  | 0 => fn_no2 fun _ _ _ h => h.2
  | n + 1 => by
    have G_same := ok_same T F_same n
    refine fn_ok (t := t_same (n + 1)) (k := 0 + 1 + n) F_same.F sc_same fun cdv A outer s H E hr => ?_
    exact (pds_cons (pds_if (pdt_tru (pd_isi (by rfl) T.isinstance' (pda_cons (pd_var 1) (pda_cons (pd_tup (pda_cons (pd_ty (n := "list") (by rfl) T.list' (by decide +kernel)) (pda_cons (pd_ty (n := "tuple") (by rfl) T.tuple' (by decide +kernel)) pda_nil))) pda_nil)))) (pds_cons (pds_if (PDW.pt (pdw_or (pdt_ne hr (pd_isi (by rfl) T.isinstance' (pda_cons (pd_var 0) (pda_cons (pd_ty (n := "list") (by rfl) T.list' (by decide +kernel)) pda_nil))) (pd_isi (by rfl) T.isinstance' (pda_cons (pd_var 1) (pda_cons (pd_ty (n := "list") (by rfl) T.list' (by decide +kernel)) pda_nil)))) (pdw_or1 (pdt_not (pdt_tru (pd_isi (by rfl) T.isinstance' (pda_cons (pd_var 0) (pda_cons (pd_tup (pda_cons (pd_ty (n := "list") (by rfl) T.list' (by decide +kernel)) (pda_cons (pd_ty (n := "tuple") (by rfl) T.tuple' (by decide +kernel)) pda_nil))) pda_nil)))))))) (pds_one (pds_ret pd_bl)) pds_nil)
    (pds_one (pds_ret (pd_and (pd_eq hr (pd_len (by rfl) T.len' (pda_cons (pd_var 0) pda_nil)) (pd_len (by rfl) T.len' (pda_cons (pd_var 1) pda_nil))) (pd_one (pd_all rfl (by rfl) T.all' (pda_cons (pd_lc (own := [("_law_a", 2), ("_law_b", 3)]) rfl sc_same.nd (pdi_zip (by rfl) T.zip' (pda_cons (pd_var 0) (pda_cons (pd_var 1) pda_nil))) (blkOk_by (own := [("_law_a", 2), ("_law_b", 3)]) (N := N_same) (sc := defScope s_same) (by decide +kernel)) (fun _ _ _ _ _ => (pdc_tup rfl (pdcs_cons (pdc_name 2 sc_same.nd) (pdcs_cons (pdc_name 3 sc_same.nd) pdcs_nil)))) (fun _ _ _ _ _ => pdts_nil) (fun _ _ _ _ _ => (pd_call G_same hr (by rfl) F_same.g F_same.F.kp F_same.b (pda_cons (pd_var 2) (pda_cons (pd_var 3) pda_nil))))) pda_nil))))))) pds_nil)
    (pds_cons (pds_if (PDW.pt (pdw_or (pdt_ne hr (pd_isi (by rfl) T.isinstance' (pda_cons (pd_var 0) (pda_cons (pd_ty (n := "bool") (by rfl) T.bool' (by decide +kernel)) pda_nil))) (pd_isi (by rfl) T.isinstance' (pda_cons (pd_var 1) (pda_cons (pd_ty (n := "bool") (by rfl) T.bool' (by decide +kernel)) pda_nil)))) (pdw_or1 (pdt_ne hr (pd_isi (by rfl) T.isinstance' (pda_cons (pd_var 0) (pda_cons (pd_ty (n := "int") (by rfl) T.int' (by decide +kernel)) pda_nil))) (pd_isi (by rfl) T.isinstance' (pda_cons (pd_var 1) (pda_cons (pd_ty (n := "int") (by rfl) T.int' (by decide +kernel)) pda_nil))))))) (pds_one (pds_ret pd_bl)) pds_nil)
    (pds_one (pds_ret (pd_and (pd_eq hr (pd_isi (by rfl) T.isinstance' (pda_cons (pd_var 0) (pda_cons (pd_ty (n := "str") (by rfl) T.str' (by decide +kernel)) pda_nil))) (pd_isi (by rfl) T.isinstance' (pda_cons (pd_var 1) (pda_cons (pd_ty (n := "str") (by rfl) T.str' (by decide +kernel)) pda_nil)))) (pd_one (pd_eq hr (pd_var 0) (pd_var 1))))))))
theorem sc_is_text : FnScope N_is_text ["value"] (defScope s_is_text) := ⟨rfl, rfl, rfl, by decide +kernel, rfl, by decide +kernel, by decide +kernel⟩
theorem ok_is_text (T : Bl mg) {f_is_text : Addr} {fd_is_text : FuncData} (F_is_text : FunOn K mg "is_text" s_is_text ["value"] f_is_text fd_is_text) : FnOk P w K mg base CX0 1 f_is_text fd_is_text ["value"] (lift ⟨P, w, K⟩ sp_is_text) := by
  refine fn_ok (t := t_is_text) (k := 0) F_is_text.F sc_is_text fun cdv A outer s H E hr => ?_
  exact (pds_cons (pds_if (PDW.pt (pdw_or (pdt_not (pdt_tru (pd_isi (by rfl) T.isinstance' (pda_cons (pd_var 0) (pda_cons (pd_ty (n := "str") (by rfl) T.str' (by decide +kernel)) pda_nil))))) (pdw_or1 (pdt_gt (pd_len (by rfl) T.len' (pda_cons (pd_var 0) pda_nil)) (pd_gi (by rfl) T.c_LONGEST))))) (pds_one (pds_ret pd_bl)) pds_nil)
    (pds_one (pds_ret (pd_all rfl (by rfl) T.all' (pda_cons (pd_lc (own := [("sign", 1)]) rfl sc_is_text.nd (pdi_any (pd_var 0)) (blkOk_by (own := [("sign", 1)]) (N := N_is_text) (sc := defScope s_is_text) (by decide +kernel)) (fun _ _ _ _ _ => (pdc_name 1 sc_is_text.nd)) (fun _ _ _ _ _ => pdts_nil) (fun _ _ _ _ _ => (pd_and (pd_chain op_leA op_leA lk_ord lk_ord pd_str (pd_var 1) pd_str) (pd_one (pd_ne hr (pd_ord (by rfl) T.ord' (pda_cons (pd_var 1) pda_nil)) pd_int))))) pda_nil)))))
theorem sc_are_texts : FnScope N_are_texts ["value"] (defScope s_are_texts) := ⟨rfl, rfl, rfl, by decide +kernel, rfl, by decide +kernel, by decide +kernel⟩
theorem ok_are_texts (T : Bl mg) {f_are_texts : Addr} {fd_are_texts : FuncData} (F_are_texts : FunOn K mg "are_texts" s_are_texts ["value"] f_are_texts fd_are_texts)
    {f_is_text : Addr} {fd_is_text : FuncData} (F_is_text : FunOn K mg "is_text" s_is_text ["value"] f_is_text fd_is_text) (G_is_text : FnOk P w K mg base CX0 1 f_is_text fd_is_text ["value"] (lift ⟨P, w, K⟩ sp_is_text)) : FnOk P w K mg base CX0 4 f_are_texts fd_are_texts ["value"] (lift ⟨P, w, K⟩ sp_are_texts) := by
  refine fn_ok (t := t_are_texts) (k := 3) F_are_texts.F sc_are_texts fun cdv A outer s H E hr => ?_
  exact (pds_one (pds_ret (pd_and (pd_isi (by rfl) T.isinstance' (pda_cons (pd_var 0) (pda_cons (pd_ty (n := "tuple") (by rfl) T.tuple' (by decide +kernel)) pda_nil))) (pd_one (pd_all rfl (by rfl) T.all' (pda_cons (pd_lc (own := [("item", 1)]) rfl sc_are_texts.nd (pdi_any (pd_var 0)) (blkOk_by (own := [("item", 1)]) (N := N_are_texts) (sc := defScope s_are_texts) (by decide +kernel)) (fun _ _ _ _ _ => (pdc_name 1 sc_are_texts.nd)) (fun _ _ _ _ _ => pdts_nil) (fun _ _ _ _ _ => (pd_call G_is_text (hr.mono (by decide)) (by rfl) F_is_text.g F_is_text.F.kp F_is_text.b (pda_cons (pd_var 1) pda_nil)))) pda_nil))))))
theorem sc_is_answer : FnScope N_is_answer ["value"] (defScope s_is_answer) := ⟨rfl, rfl, rfl, by decide +kernel, rfl, by decide +kernel, by decide +kernel⟩
theorem ok_is_answer (T : Bl mg) {f_is_answer : Addr} {fd_is_answer : FuncData} (F_is_answer : FunOn K mg "is_answer" s_is_answer ["value"] f_is_answer fd_is_answer)
    {f_is_text : Addr} {fd_is_text : FuncData} (F_is_text : FunOn K mg "is_text" s_is_text ["value"] f_is_text fd_is_text) (G_is_text : FnOk P w K mg base CX0 1 f_is_text fd_is_text ["value"] (lift ⟨P, w, K⟩ sp_is_text)) : FnOk P w K mg base CX0 4 f_is_answer fd_is_answer ["value"] (lift ⟨P, w, K⟩ sp_is_answer) := by
  refine fn_ok (t := t_is_answer) (k := 3) F_is_answer.F sc_is_answer fun cdv A outer s H E hr => ?_
  exact (pds_one (pds_ret (pd_or (pd_is (pd_var 0) pd_non) (pd_one (pd_call G_is_text (hr.mono (by decide)) (by rfl) F_is_text.g F_is_text.F.kp F_is_text.b (pda_cons (pd_var 0) pda_nil))))))
theorem sc_are_answers : FnScope N_are_answers ["value"] (defScope s_are_answers) := ⟨rfl, rfl, rfl, by decide +kernel, rfl, by decide +kernel, by decide +kernel⟩
theorem ok_are_answers (T : Bl mg) {f_are_answers : Addr} {fd_are_answers : FuncData} (F_are_answers : FunOn K mg "are_answers" s_are_answers ["value"] f_are_answers fd_are_answers)
    {f_is_answer : Addr} {fd_is_answer : FuncData} (F_is_answer : FunOn K mg "is_answer" s_is_answer ["value"] f_is_answer fd_is_answer) (G_is_answer : FnOk P w K mg base CX0 4 f_is_answer fd_is_answer ["value"] (lift ⟨P, w, K⟩ sp_is_answer)) : FnOk P w K mg base CX0 7 f_are_answers fd_are_answers ["value"] (lift ⟨P, w, K⟩ sp_are_answers) := by
  refine fn_ok (t := t_are_answers) (k := 6) F_are_answers.F sc_are_answers fun cdv A outer s H E hr => ?_
  exact (pds_cons (pds_if (PDW.pt (pdw_or (pdt_not (pdt_tru (pd_isi (by rfl) T.isinstance' (pda_cons (pd_var 0) (pda_cons (pd_ty (n := "tuple") (by rfl) T.tuple' (by decide +kernel)) pda_nil))))) (pdw_or1 (pdt_not (pdt_chain op_ltA op_leA lk_ord lk_ord pd_int (pd_len (by rfl) T.len' (pda_cons (pd_var 0) pda_nil)) (pd_gi (by rfl) T.c_MOST_KEYS)))))) (pds_one (pds_ret pd_bl)) pds_nil)
    (pds_one (pds_ret (pd_all rfl (by rfl) T.all' (pda_cons (pd_lc (own := [("item", 1)]) rfl sc_are_answers.nd (pdi_any (pd_var 0)) (blkOk_by (own := [("item", 1)]) (N := N_are_answers) (sc := defScope s_are_answers) (by decide +kernel)) (fun _ _ _ _ _ => (pdc_name 1 sc_are_answers.nd)) (fun _ _ _ _ _ => pdts_nil) (fun _ _ _ _ _ => (pd_call G_is_answer (hr.mono (by decide)) (by rfl) F_is_answer.g F_is_answer.F.kp F_is_answer.b (pda_cons (pd_var 1) pda_nil)))) pda_nil)))))
theorem sc_is_count : FnScope N_is_count ["value"] (defScope s_is_count) := ⟨rfl, rfl, rfl, by decide +kernel, rfl, by decide +kernel, by decide +kernel⟩
theorem ok_is_count (T : Bl mg) {f_is_count : Addr} {fd_is_count : FuncData} (F_is_count : FunOn K mg "is_count" s_is_count ["value"] f_is_count fd_is_count) : FnOk P w K mg base CX0 1 f_is_count fd_is_count ["value"] (lift ⟨P, w, K⟩ sp_is_count) := by
  refine fn_ok (t := t_is_count) (k := 0) F_is_count.F sc_is_count fun cdv A outer s H E hr => ?_
  exact (pds_one (pds_ret (pd_and (pd_isi (by rfl) T.isinstance' (pda_cons (pd_var 0) (pda_cons (pd_ty (n := "int") (by rfl) T.int' (by decide +kernel)) pda_nil))) (pd_and (pd_not (pd_isi (by rfl) T.isinstance' (pda_cons (pd_var 0) (pda_cons (pd_ty (n := "bool") (by rfl) T.bool' (by decide +kernel)) pda_nil)))) (pd_one (pd_ge (pd_var 0) pd_int))))))
theorem sc_is_place : FnScope N_is_place ["value"] (defScope s_is_place) := ⟨rfl, rfl, rfl, by decide +kernel, rfl, by decide +kernel, by decide +kernel⟩
theorem ok_is_place (T : Bl mg) {f_is_place : Addr} {fd_is_place : FuncData} (F_is_place : FunOn K mg "is_place" s_is_place ["value"] f_is_place fd_is_place)
    {f_is_text : Addr} {fd_is_text : FuncData} (F_is_text : FunOn K mg "is_text" s_is_text ["value"] f_is_text fd_is_text) (G_is_text : FnOk P w K mg base CX0 1 f_is_text fd_is_text ["value"] (lift ⟨P, w, K⟩ sp_is_text))
    {f_are_texts : Addr} {fd_are_texts : FuncData} (F_are_texts : FunOn K mg "are_texts" s_are_texts ["value"] f_are_texts fd_are_texts) (G_are_texts : FnOk P w K mg base CX0 4 f_are_texts fd_are_texts ["value"] (lift ⟨P, w, K⟩ sp_are_texts))
    {f_are_answers : Addr} {fd_are_answers : FuncData} (F_are_answers : FunOn K mg "are_answers" s_are_answers ["value"] f_are_answers fd_are_answers) (G_are_answers : FnOk P w K mg base CX0 7 f_are_answers fd_are_answers ["value"] (lift ⟨P, w, K⟩ sp_are_answers))
    {f_is_count : Addr} {fd_is_count : FuncData} (F_is_count : FunOn K mg "is_count" s_is_count ["value"] f_is_count fd_is_count) (G_is_count : FnOk P w K mg base CX0 1 f_is_count fd_is_count ["value"] (lift ⟨P, w, K⟩ sp_is_count)) : FnOk P w K mg base CX0 10 f_is_place fd_is_place ["value"] (lift ⟨P, w, K⟩ sp_is_place) := by
  refine fn_ok (t := t_is_place) (k := 9) F_is_place.F sc_is_place fun cdv A outer s H E hr => ?_
  exact (pds_cons (pds_if (PDW.pt (pdw_or (pdt_not (pdt_tru (pd_isi (by rfl) T.isinstance' (pda_cons (pd_var 0) (pda_cons (pd_ty (n := "tuple") (by rfl) T.tuple' (by decide +kernel)) pda_nil))))) (pdw_or (pdt_ne hr (pd_len (by rfl) T.len' (pda_cons (pd_var 0) pda_nil)) pd_int) (pdw_or1 (pdt_not (pdt_tru (pd_call G_is_text (hr.mono (by decide)) (by rfl) F_is_text.g F_is_text.F.kp F_is_text.b (pda_cons (pd_ix (pd_var 0) pd_int) pda_nil)))))))) (pds_one (pds_ret pd_bl)) pds_nil)
    (pds_cons (pds_if (PDW.pt (pdw_or (pdt_not (pdt_tru (pd_call G_are_texts (hr.mono (by decide)) (by rfl) F_are_texts.g F_are_texts.F.kp F_are_texts.b (pda_cons (pd_ix (pd_var 0) pd_int) pda_nil)))) (pdw_or1 (pdt_gt (pd_len (by rfl) T.len' (pda_cons (pd_ix (pd_var 0) pd_int) pda_nil)) (pd_gi (by rfl) T.c_MOST_ARGUMENTS))))) (pds_one (pds_ret pd_bl)) pds_nil)
    (pds_cons (pds_if (PDW.pt (pdw_or (pdt_not (pdt_tru (pd_isi (by rfl) T.isinstance' (pda_cons (pd_ix (pd_var 0) pd_int) (pda_cons (pd_ty (n := "tuple") (by rfl) T.tuple' (by decide +kernel)) pda_nil))))) (pdw_or1 (pdt_not (pdt_tru (pd_all rfl (by rfl) T.all' (pda_cons (pd_lc (own := [("row", 1)]) rfl sc_is_place.nd (pdi_any (pd_ix (pd_var 0) pd_int)) (blkOk_by (own := [("row", 1)]) (N := N_is_place) (sc := defScope s_is_place) (by decide +kernel)) (fun _ _ _ _ _ => (pdc_name 1 sc_is_place.nd)) (fun _ _ _ _ _ => pdts_nil) (fun _ _ _ _ _ => (pd_call G_are_answers (hr.mono (by decide)) (by rfl) F_are_answers.g F_are_answers.F.kp F_are_answers.b (pda_cons (pd_var 1) pda_nil)))) pda_nil))))))) (pds_one (pds_ret pd_bl)) pds_nil)
    (pds_one (pds_ret (pd_call G_is_count (hr.mono (by decide)) (by rfl) F_is_count.g F_is_count.F.kp F_is_count.b (pda_cons (pd_ix (pd_var 0) pd_int) pda_nil)))))))
theorem sc_is_name : FnScope N_is_name ["value"] (defScope s_is_name) := ⟨rfl, rfl, rfl, by decide +kernel, rfl, by decide +kernel, by decide +kernel⟩
theorem ok_is_name (T : Bl mg) {f_is_name : Addr} {fd_is_name : FuncData} (F_is_name : FunOn K mg "is_name" s_is_name ["value"] f_is_name fd_is_name) : FnOk P w K mg base CX0 1 f_is_name fd_is_name ["value"] (lift ⟨P, w, K⟩ sp_is_name) := by
  refine fn_ok (t := t_is_name) (k := 0) F_is_name.F sc_is_name fun cdv A outer s H E hr => ?_
  exact (pds_cons (pds_if (PDW.pt (pdw_or (pdt_not (pdt_tru (pd_isi (by rfl) T.isinstance' (pda_cons (pd_var 0) (pda_cons (pd_ty (n := "str") (by rfl) T.str' (by decide +kernel)) pda_nil))))) (pdw_or (pdt_not (pdt_chain op_ltA op_leA lk_ord lk_ord pd_int (pd_len (by rfl) T.len' (pda_cons (pd_var 0) pda_nil)) (pd_gi (by rfl) T.c_LONGEST_NAME))) (pdw_or1 (pdt_notin hr (pd_ix (pd_var 0) pd_int) (pd_gs (by rfl) T.c_LETTERS)))))) (pds_one (pds_ret pd_bl)) pds_nil)
    (pds_one (pds_ret (pd_all rfl (by rfl) T.all' (pda_cons (pd_lc (own := [("sign", 1)]) rfl sc_is_name.nd (pdi_any (pd_var 0)) (blkOk_by (own := [("sign", 1)]) (N := N_is_name) (sc := defScope s_is_name) (by decide +kernel)) (fun _ _ _ _ _ => (pdc_name 1 sc_is_name.nd)) (fun _ _ _ _ _ => pdts_nil) (fun _ _ _ _ _ => (pd_in hr (pd_var 1) (pd_gs (by rfl) T.c_SIGNS)))) pda_nil)))))
theorem sc_is_key : FnScope N_is_key ["value"] (defScope s_is_key) := ⟨rfl, rfl, rfl, by decide +kernel, rfl, by decide +kernel, by decide +kernel⟩
theorem ok_is_key (T : Bl mg) {f_is_key : Addr} {fd_is_key : FuncData} (F_is_key : FunOn K mg "is_key" s_is_key ["value"] f_is_key fd_is_key)
    {f_is_name : Addr} {fd_is_name : FuncData} (F_is_name : FunOn K mg "is_name" s_is_name ["value"] f_is_name fd_is_name) (G_is_name : FnOk P w K mg base CX0 1 f_is_name fd_is_name ["value"] (lift ⟨P, w, K⟩ sp_is_name)) : FnOk P w K mg base CX0 4 f_is_key fd_is_key ["value"] (lift ⟨P, w, K⟩ sp_is_key) := by
  refine fn_ok (t := t_is_key) (k := 3) F_is_key.F sc_is_key fun cdv A outer s H E hr => ?_
  exact (pds_one (pds_ret (pd_and (pd_isi (by rfl) T.isinstance' (pda_cons (pd_var 0) (pda_cons (pd_ty (n := "tuple") (by rfl) T.tuple' (by decide +kernel)) pda_nil))) (pd_and (pd_eq hr (pd_len (by rfl) T.len' (pda_cons (pd_var 0) pda_nil)) pd_int) (pd_and (pd_call G_is_name (hr.mono (by decide)) (by rfl) F_is_name.g F_is_name.F.kp F_is_name.b (pda_cons (pd_ix (pd_var 0) pd_int) pda_nil)) (pd_one (pd_call G_is_name (hr.mono (by decide)) (by rfl) F_is_name.g F_is_name.F.kp F_is_name.b (pda_cons (pd_ix (pd_var 0) pd_int) pda_nil))))))))
theorem sc_are_keys : FnScope N_are_keys ["value"] (defScope s_are_keys) := ⟨rfl, rfl, rfl, by decide +kernel, rfl, by decide +kernel, by decide +kernel⟩
theorem ok_are_keys (T : Bl mg) {f_are_keys : Addr} {fd_are_keys : FuncData} (F_are_keys : FunOn K mg "are_keys" s_are_keys ["value"] f_are_keys fd_are_keys)
    {f_is_key : Addr} {fd_is_key : FuncData} (F_is_key : FunOn K mg "is_key" s_is_key ["value"] f_is_key fd_is_key) (G_is_key : FnOk P w K mg base CX0 4 f_is_key fd_is_key ["value"] (lift ⟨P, w, K⟩ sp_is_key)) : FnOk P w K mg base CX0 7 f_are_keys fd_are_keys ["value"] (lift ⟨P, w, K⟩ sp_are_keys) := by
  refine fn_ok (t := t_are_keys) (k := 6) F_are_keys.F sc_are_keys fun cdv A outer s H E hr => ?_
  exact (pds_cons (pds_if (PDW.pt (pdw_or (pdt_not (pdt_tru (pd_isi (by rfl) T.isinstance' (pda_cons (pd_var 0) (pda_cons (pd_ty (n := "tuple") (by rfl) T.tuple' (by decide +kernel)) pda_nil))))) (pdw_or (pdt_not (pdt_chain op_ltA op_leA lk_ord lk_ord pd_int (pd_len (by rfl) T.len' (pda_cons (pd_var 0) pda_nil)) (pd_gi (by rfl) T.c_MOST_KEYS))) (pdw_or1 (pdt_not (pdt_tru (pd_all rfl (by rfl) T.all' (pda_cons (pd_lc (own := [("item", 1)]) rfl sc_are_keys.nd (pdi_any (pd_var 0)) (blkOk_by (own := [("item", 1)]) (N := N_are_keys) (sc := defScope s_are_keys) (by decide +kernel)) (fun _ _ _ _ _ => (pdc_name 1 sc_are_keys.nd)) (fun _ _ _ _ _ => pdts_nil) (fun _ _ _ _ _ => (pd_call G_is_key (hr.mono (by decide)) (by rfl) F_is_key.g F_is_key.F.kp F_is_key.b (pda_cons (pd_var 1) pda_nil)))) pda_nil)))))))) (pds_one (pds_ret pd_bl)) pds_nil)
    (pds_one (pds_ret (pd_eq hr (pd_lenS (by rfl) T.len' (pda_cons (pd_sn (own := [("item", 1)]) hr rfl sc_are_keys.nd (pdi_any (pd_var 0)) (blkOk_by (own := [("item", 1)]) (N := N_are_keys) (sc := defScope s_are_keys) (by decide +kernel)) (fun _ _ _ _ _ => (pdc_name 1 sc_are_keys.nd)) (fun _ _ _ _ _ => pdts_nil) (fun _ _ _ _ _ => (pd_var 1))) pda_nil)) (pd_len (by rfl) T.len' (pda_cons (pd_var 0) pda_nil))))))
theorem sc_is_step : FnScope N_is_step ["value"] (defScope s_is_step) := ⟨rfl, rfl, rfl, by decide +kernel, rfl, by decide +kernel, by decide +kernel⟩
theorem ok_is_step (T : Bl mg) {f_is_step : Addr} {fd_is_step : FuncData} (F_is_step : FunOn K mg "is_step" s_is_step ["value"] f_is_step fd_is_step)
    {f_is_name : Addr} {fd_is_name : FuncData} (F_is_name : FunOn K mg "is_name" s_is_name ["value"] f_is_name fd_is_name) (G_is_name : FnOk P w K mg base CX0 1 f_is_name fd_is_name ["value"] (lift ⟨P, w, K⟩ sp_is_name))
    {f_is_text : Addr} {fd_is_text : FuncData} (F_is_text : FunOn K mg "is_text" s_is_text ["value"] f_is_text fd_is_text) (G_is_text : FnOk P w K mg base CX0 1 f_is_text fd_is_text ["value"] (lift ⟨P, w, K⟩ sp_is_text))
    {f_are_keys : Addr} {fd_are_keys : FuncData} (F_are_keys : FunOn K mg "are_keys" s_are_keys ["value"] f_are_keys fd_are_keys) (G_are_keys : FnOk P w K mg base CX0 7 f_are_keys fd_are_keys ["value"] (lift ⟨P, w, K⟩ sp_are_keys)) : FnOk P w K mg base CX0 10 f_is_step fd_is_step ["value"] (lift ⟨P, w, K⟩ sp_is_step) := by
  refine fn_ok (t := t_is_step) (k := 9) F_is_step.F sc_is_step fun cdv A outer s H E hr => ?_
  exact (pds_cons (pds_if (PDW.pt (pdw_or (pdt_not (pdt_tru (pd_isi (by rfl) T.isinstance' (pda_cons (pd_var 0) (pda_cons (pd_ty (n := "tuple") (by rfl) T.tuple' (by decide +kernel)) pda_nil))))) (pdw_or (pdt_eq hr (pd_len (by rfl) T.len' (pda_cons (pd_var 0) pda_nil)) pd_int) (pdw_or1 (pdt_not (pdt_tru (pd_isi (by rfl) T.isinstance' (pda_cons (pd_ix (pd_var 0) pd_int) (pda_cons (pd_ty (n := "str") (by rfl) T.str' (by decide +kernel)) pda_nil))))))))) (pds_one (pds_ret pd_bl)) pds_nil)
    (pds_one (pds_match (pd_var 0) (pdca_cons [1] sc_is_step.nd (pdm_seq rfl (pdms_cons (pdm_val hr) (pdms_cons pdm_cap pdms_nil))) (pds_one (pds_ret (pd_call G_are_keys (hr.mono (by decide)) (by rfl) F_are_keys.g F_are_keys.F.kp F_are_keys.b (pda_cons (pd_var 1) pda_nil))))
    (pdca_cons [2, 3] sc_is_step.nd (pdm_seq rfl (pdms_cons (pdm_val hr) (pdms_cons pdm_cap (pdms_cons pdm_cap pdms_nil)))) (pds_one (pds_ret (pd_and (pd_call G_is_name (hr.mono (by decide)) (by rfl) F_is_name.g F_is_name.F.kp F_is_name.b (pda_cons (pd_var 2) pda_nil)) (pd_one (pd_call G_is_text (hr.mono (by decide)) (by rfl) F_is_text.g F_is_text.F.kp F_is_text.b (pda_cons (pd_var 3) pda_nil))))))
    (pdca_cons [] sc_is_step.nd pdm_wild (pds_one (pds_ret (pd_eq hr (pd_var 0) (pd_tup (pda_cons pd_str pda_nil)))))
    pdca_nil))))))
theorem sc_law : FnScope N_law ["_law_script"] (defScope s_law) := ⟨rfl, rfl, rfl, by decide +kernel, rfl, by decide +kernel, by decide +kernel⟩
theorem ok_law (T : Bl mg) {f_law : Addr} {fd_law : FuncData} (F_law : FunOn K mg "law" s_law ["_law_script"] f_law fd_law)
    {f_feed_of : Addr} {fd_feed_of : FuncData} (F_feed_of : FunOn K mg "_law_feed_of" s_feed_of ["_law_script", "_law_k"] f_feed_of fd_feed_of) (G_feed_of : FnOk P w K mg base CX0 1 f_feed_of fd_feed_of ["_law_script", "_law_k"] (lift ⟨P, w, K⟩ sp_feed_of))
    {f_things : Addr} {fd_things : FuncData} (F_things : FunOn K mg "_law_things" s_things ["_law_feed"] f_things fd_things) (G_things : FnOk P w K mg base CX0 13 f_things fd_things ["_law_feed"] (lift ⟨P, w, K⟩ sp_things))
    {f_odd : Addr} {fd_odd : FuncData} (F_odd : FunOn K mg "_law_odd" s_odd ["_law_feed", "_law_value"] f_odd fd_odd) (G_odd : FnOk P w K mg base CX0 19 f_odd fd_odd ["_law_feed", "_law_value"] (lift ⟨P, w, K⟩ (sp_odd 12)))
    {f_l_is_place : Addr} {fd_l_is_place : FuncData} (F_l_is_place : FunOn K mg "_law_is_place" s_l_is_place ["_law_value"] f_l_is_place fd_l_is_place) (G_l_is_place : FnOk P w K mg base CX0 10 f_l_is_place fd_l_is_place ["_law_value"] (lift ⟨P, w, K⟩ sp_l_is_place))
    {f_l_is_step : Addr} {fd_l_is_step : FuncData} (F_l_is_step : FunOn K mg "_law_is_step" s_l_is_step ["_law_value"] f_l_is_step fd_l_is_step) (G_l_is_step : FnOk P w K mg base CX0 7 f_l_is_step fd_l_is_step ["_law_value"] (lift ⟨P, w, K⟩ sp_l_is_step))
    {f_l_is_key : Addr} {fd_l_is_key : FuncData} (F_l_is_key : FunOn K mg "_law_is_key" s_l_is_key ["_law_value"] f_l_is_key fd_l_is_key) (G_l_is_key : FnOk P w K mg base CX0 4 f_l_is_key fd_l_is_key ["_law_value"] (lift ⟨P, w, K⟩ sp_l_is_key))
    {f_same : Addr} {fd_same : FuncData} (F_same : FunOn K mg "_law_same" s_same ["_law_found", "_law_due"] f_same fd_same) (G_same : FnOk P w K mg base CX0 13 f_same fd_same ["_law_found", "_law_due"] (lift ⟨P, w, K⟩ (sp_same 12)))
    {f_is_place : Addr} {fd_is_place : FuncData} (F_is_place : FunOn K mg "is_place" s_is_place ["value"] f_is_place fd_is_place) (G_is_place : FnOk P w K mg base CX0 10 f_is_place fd_is_place ["value"] (lift ⟨P, w, K⟩ sp_is_place))
    {f_is_step : Addr} {fd_is_step : FuncData} (F_is_step : FunOn K mg "is_step" s_is_step ["value"] f_is_step fd_is_step) (G_is_step : FnOk P w K mg base CX0 10 f_is_step fd_is_step ["value"] (lift ⟨P, w, K⟩ sp_is_step))
    {f_is_key : Addr} {fd_is_key : FuncData} (F_is_key : FunOn K mg "is_key" s_is_key ["value"] f_is_key fd_is_key) (G_is_key : FnOk P w K mg base CX0 4 f_is_key fd_is_key ["value"] (lift ⟨P, w, K⟩ sp_is_key)) : FnOk P w K mg base CX0 22 f_law fd_law ["_law_script"] (lift ⟨P, w, K⟩ sp_law) := by
  refine fn_ok (t := t_law) (k := 21) F_law.F sc_law fun cdv A outer s H E hr => ?_
  exact (pds_cons (pds_for PassesOwn.never rfl (pdi_rng1 (by rfl) T.range' (pda_cons (pd_max2 rfl (by rfl) T.max' (pda_cons pd_int (pda_cons (pd_min2 rfl (by rfl) T.min' (pda_cons pd_int (pda_cons (pd_len (by rfl) T.len' (pda_cons (pd_var 0) pda_nil)) pda_nil))) pda_nil))) pda_nil)) (pdg_name 1 sc_law.nd) (pds_cons (pds_set 2 sc_law.nd (pd_call G_feed_of (hr.mono (by decide)) (by rfl) F_feed_of.g F_feed_of.F.kp F_feed_of.b (pda_cons (pd_var 0) (pda_cons (pd_var 1) pda_nil))))
    (pds_cons (pds_set 3 sc_law.nd (pd_call G_things (hr.mono (by decide)) (by rfl) F_things.g F_things.F.kp F_things.b (pda_cons (pd_var 2) pda_nil)))
    (pds_one (pds_for PassesOwn.never rfl (pdi_any (pd_add (pd_var 3) (pd_lc (own := [("_law_one", 7)]) rfl sc_law.nd (pdi_any (pd_add (pd_add (pd_var 3) (pd_var 3)) (pd_var 3))) (blkOk_by (own := [("_law_one", 7)]) (N := N_law) (sc := defScope s_law) (by decide +kernel)) (fun _ _ _ _ _ => (pdc_name 7 sc_law.nd)) (fun _ _ _ _ _ => pdts_nil) (fun _ _ _ _ _ => (pd_call G_odd (hr.mono (by decide)) (by rfl) F_odd.g F_odd.F.kp F_odd.b (pda_cons (pd_var 2) (pda_cons (pd_var 7) pda_nil))))))) (pdg_name 4 sc_law.nd) (pds_one (pds_for PassesOwn.never rfl (pdi_any (pd_tup (pda_cons (pd_var 4) (pda_cons (pd_call G_odd (hr.mono (by decide)) (by rfl) F_odd.g F_odd.F.kp F_odd.b (pda_cons (pd_var 2) (pda_cons (pd_var 4) pda_nil))) pda_nil)))) (pdg_name 5 sc_law.nd) (pds_cons (pds_set 6 sc_law.nd (pd_lst (pda_cons (pd_call G_l_is_key (hr.mono (by decide)) (by rfl) F_l_is_key.g F_l_is_key.F.kp F_l_is_key.b (pda_cons (pd_var 5) pda_nil)) (pda_cons (pd_call G_l_is_step (hr.mono (by decide)) (by rfl) F_l_is_step.g F_l_is_step.F.kp F_l_is_step.b (pda_cons (pd_var 5) pda_nil)) (pda_cons (pd_call G_l_is_place (hr.mono (by decide)) (by rfl) F_l_is_place.g F_l_is_place.F.kp F_l_is_place.b (pda_cons (pd_var 5) pda_nil)) pda_nil)))))
    (pds_one (pds_if (pdt_not (pdt_tru (pd_call G_same (hr.mono (by decide)) (by rfl) F_same.g F_same.F.kp F_same.b (pda_cons (pd_lst (pda_cons (pd_call G_is_key (hr.mono (by decide)) (by rfl) F_is_key.g F_is_key.F.kp F_is_key.b (pda_cons (pd_var 5) pda_nil)) (pda_cons (pd_call G_is_step (hr.mono (by decide)) (by rfl) F_is_step.g F_is_step.F.kp F_is_step.b (pda_cons (pd_var 5) pda_nil)) (pda_cons (pd_call G_is_place (hr.mono (by decide)) (by rfl) F_is_place.g F_is_place.F.kp F_is_place.b (pda_cons (pd_var 5) pda_nil)) pda_nil)))) (pda_cons (pd_var 6) pda_nil))))) (pds_one (pds_ret pd_bl)) pds_nil))))))))))
    (pds_one (pds_ret pd_bl)))
end
end K02

namespace K02
open PySem PySem.Spec PyProof.Rows L2 FD
theorem all_mk {l : PySem.W.OpenLaw} {w : World} {K : PySem.W.Frag} {h : Heap} {mg : Str → Option Value} {fa : Addr} (X : K.In h) (G : h.Ns mainGlobals mg) (hfa : mg "law" = some (.ref fa))
    {f0 : Addr} {od0 an0 : Option Addr} {sl0 : Array (Option Value)} {oc0 kV0 dc0 pm0 cd0 ct0 : Value} (a0 : PySem.W.nsIn K mainGlobals "_law_feed_of" = some (some (.ref f0))) (l0 : K.lookup f0 = some ⟨oc0, od0, .func (PySem.W.fnOf "_law_feed_of" "_law_feed_of" (defArgs s_feed_of) (defBody s_feed_of) (defScope s_feed_of) .none kV0 dc0 pm0 an0 cd0 ct0), sl0⟩) (c0 : PySem.W.codeIn K cd0 "_law_feed_of" = true) (k0 : PySem.W.keepIn K (.ref f0) = true)
    {f1 : Addr} {od1 an1 : Option Addr} {sl1 : Array (Option Value)} {oc1 kV1 dc1 pm1 cd1 ct1 : Value} (a1 : PySem.W.nsIn K mainGlobals "_law_draw" = some (some (.ref f1))) (l1 : K.lookup f1 = some ⟨oc1, od1, .func (PySem.W.fnOf "_law_draw" "_law_draw" (defArgs s_draw) (defBody s_draw) (defScope s_draw) .none kV1 dc1 pm1 an1 cd1 ct1), sl1⟩) (c1 : PySem.W.codeIn K cd1 "_law_draw" = true) (k1 : PySem.W.keepIn K (.ref f1) = true)
    {f2 : Addr} {od2 an2 : Option Addr} {sl2 : Array (Option Value)} {oc2 kV2 dc2 pm2 cd2 ct2 : Value} (a2 : PySem.W.nsIn K mainGlobals "_law_pick" = some (some (.ref f2))) (l2 : K.lookup f2 = some ⟨oc2, od2, .func (PySem.W.fnOf "_law_pick" "_law_pick" (defArgs s_pick) (defBody s_pick) (defScope s_pick) .none kV2 dc2 pm2 an2 cd2 ct2), sl2⟩) (c2 : PySem.W.codeIn K cd2 "_law_pick" = true) (k2 : PySem.W.keepIn K (.ref f2) = true)
    {f3 : Addr} {od3 an3 : Option Addr} {sl3 : Array (Option Value)} {oc3 kV3 dc3 pm3 cd3 ct3 : Value} (a3 : PySem.W.nsIn K mainGlobals "_law_signs" = some (some (.ref f3))) (l3 : K.lookup f3 = some ⟨oc3, od3, .func (PySem.W.fnOf "_law_signs" "_law_signs" (defArgs s_signs) (defBody s_signs) (defScope s_signs) .none kV3 dc3 pm3 an3 cd3 ct3), sl3⟩) (c3 : PySem.W.codeIn K cd3 "_law_signs" = true) (k3 : PySem.W.keepIn K (.ref f3) = true)
    {f4 : Addr} {od4 an4 : Option Addr} {sl4 : Array (Option Value)} {oc4 kV4 dc4 pm4 cd4 ct4 : Value} (a4 : PySem.W.nsIn K mainGlobals "_law_word" = some (some (.ref f4))) (l4 : K.lookup f4 = some ⟨oc4, od4, .func (PySem.W.fnOf "_law_word" "_law_word" (defArgs s_word) (defBody s_word) (defScope s_word) .none kV4 dc4 pm4 an4 cd4 ct4), sl4⟩) (c4 : PySem.W.codeIn K cd4 "_law_word" = true) (k4 : PySem.W.keepIn K (.ref f4) = true)
    {f5 : Addr} {od5 an5 : Option Addr} {sl5 : Array (Option Value)} {oc5 kV5 dc5 pm5 cd5 ct5 : Value} (a5 : PySem.W.nsIn K mainGlobals "_law_calls" = some (some (.ref f5))) (l5 : K.lookup f5 = some ⟨oc5, od5, .func (PySem.W.fnOf "_law_calls" "_law_calls" (defArgs s_calls) (defBody s_calls) (defScope s_calls) .none kV5 dc5 pm5 an5 cd5 ct5), sl5⟩) (c5 : PySem.W.codeIn K cd5 "_law_calls" = true) (k5 : PySem.W.keepIn K (.ref f5) = true)
    {f6 : Addr} {od6 an6 : Option Addr} {sl6 : Array (Option Value)} {oc6 kV6 dc6 pm6 cd6 ct6 : Value} (a6 : PySem.W.nsIn K mainGlobals "_law_some_text" = some (some (.ref f6))) (l6 : K.lookup f6 = some ⟨oc6, od6, .func (PySem.W.fnOf "_law_some_text" "_law_some_text" (defArgs s_some_text) (defBody s_some_text) (defScope s_some_text) .none kV6 dc6 pm6 an6 cd6 ct6), sl6⟩) (c6 : PySem.W.codeIn K cd6 "_law_some_text" = true) (k6 : PySem.W.keepIn K (.ref f6) = true)
    {f7 : Addr} {od7 an7 : Option Addr} {sl7 : Array (Option Value)} {oc7 kV7 dc7 pm7 cd7 ct7 : Value} (a7 : PySem.W.nsIn K mainGlobals "_law_some_answer" = some (some (.ref f7))) (l7 : K.lookup f7 = some ⟨oc7, od7, .func (PySem.W.fnOf "_law_some_answer" "_law_some_answer" (defArgs s_some_answer) (defBody s_some_answer) (defScope s_some_answer) .none kV7 dc7 pm7 an7 cd7 ct7), sl7⟩) (c7 : PySem.W.codeIn K cd7 "_law_some_answer" = true) (k7 : PySem.W.keepIn K (.ref f7) = true)
    {f8 : Addr} {od8 an8 : Option Addr} {sl8 : Array (Option Value)} {oc8 kV8 dc8 pm8 cd8 ct8 : Value} (a8 : PySem.W.nsIn K mainGlobals "_law_things" = some (some (.ref f8))) (l8 : K.lookup f8 = some ⟨oc8, od8, .func (PySem.W.fnOf "_law_things" "_law_things" (defArgs s_things) (defBody s_things) (defScope s_things) .none kV8 dc8 pm8 an8 cd8 ct8), sl8⟩) (c8 : PySem.W.codeIn K cd8 "_law_things" = true) (k8 : PySem.W.keepIn K (.ref f8) = true)
    {f9 : Addr} {od9 an9 : Option Addr} {sl9 : Array (Option Value)} {oc9 kV9 dc9 pm9 cd9 ct9 : Value} (a9 : PySem.W.nsIn K mainGlobals "_law_odd" = some (some (.ref f9))) (l9 : K.lookup f9 = some ⟨oc9, od9, .func (PySem.W.fnOf "_law_odd" "_law_odd" (defArgs s_odd) (defBody s_odd) (defScope s_odd) .none kV9 dc9 pm9 an9 cd9 ct9), sl9⟩) (c9 : PySem.W.codeIn K cd9 "_law_odd" = true) (k9 : PySem.W.keepIn K (.ref f9) = true)
    {f10 : Addr} {od10 an10 : Option Addr} {sl10 : Array (Option Value)} {oc10 kV10 dc10 pm10 cd10 ct10 : Value} (a10 : PySem.W.nsIn K mainGlobals "_law_is_text" = some (some (.ref f10))) (l10 : K.lookup f10 = some ⟨oc10, od10, .func (PySem.W.fnOf "_law_is_text" "_law_is_text" (defArgs s_l_is_text) (defBody s_l_is_text) (defScope s_l_is_text) .none kV10 dc10 pm10 an10 cd10 ct10), sl10⟩) (c10 : PySem.W.codeIn K cd10 "_law_is_text" = true) (k10 : PySem.W.keepIn K (.ref f10) = true)
    {f11 : Addr} {od11 an11 : Option Addr} {sl11 : Array (Option Value)} {oc11 kV11 dc11 pm11 cd11 ct11 : Value} (a11 : PySem.W.nsIn K mainGlobals "_law_is_row" = some (some (.ref f11))) (l11 : K.lookup f11 = some ⟨oc11, od11, .func (PySem.W.fnOf "_law_is_row" "_law_is_row" (defArgs s_is_row) (defBody s_is_row) (defScope s_is_row) .none kV11 dc11 pm11 an11 cd11 ct11), sl11⟩) (c11 : PySem.W.codeIn K cd11 "_law_is_row" = true) (k11 : PySem.W.keepIn K (.ref f11) = true)
    {f12 : Addr} {od12 an12 : Option Addr} {sl12 : Array (Option Value)} {oc12 kV12 dc12 pm12 cd12 ct12 : Value} (a12 : PySem.W.nsIn K mainGlobals "_law_is_place" = some (some (.ref f12))) (l12 : K.lookup f12 = some ⟨oc12, od12, .func (PySem.W.fnOf "_law_is_place" "_law_is_place" (defArgs s_l_is_place) (defBody s_l_is_place) (defScope s_l_is_place) .none kV12 dc12 pm12 an12 cd12 ct12), sl12⟩) (c12 : PySem.W.codeIn K cd12 "_law_is_place" = true) (k12 : PySem.W.keepIn K (.ref f12) = true)
    {f13 : Addr} {od13 an13 : Option Addr} {sl13 : Array (Option Value)} {oc13 kV13 dc13 pm13 cd13 ct13 : Value} (a13 : PySem.W.nsIn K mainGlobals "_law_is_name" = some (some (.ref f13))) (l13 : K.lookup f13 = some ⟨oc13, od13, .func (PySem.W.fnOf "_law_is_name" "_law_is_name" (defArgs s_l_is_name) (defBody s_l_is_name) (defScope s_l_is_name) .none kV13 dc13 pm13 an13 cd13 ct13), sl13⟩) (c13 : PySem.W.codeIn K cd13 "_law_is_name" = true) (k13 : PySem.W.keepIn K (.ref f13) = true)
    {f14 : Addr} {od14 an14 : Option Addr} {sl14 : Array (Option Value)} {oc14 kV14 dc14 pm14 cd14 ct14 : Value} (a14 : PySem.W.nsIn K mainGlobals "_law_is_key" = some (some (.ref f14))) (l14 : K.lookup f14 = some ⟨oc14, od14, .func (PySem.W.fnOf "_law_is_key" "_law_is_key" (defArgs s_l_is_key) (defBody s_l_is_key) (defScope s_l_is_key) .none kV14 dc14 pm14 an14 cd14 ct14), sl14⟩) (c14 : PySem.W.codeIn K cd14 "_law_is_key" = true) (k14 : PySem.W.keepIn K (.ref f14) = true)
    {f15 : Addr} {od15 an15 : Option Addr} {sl15 : Array (Option Value)} {oc15 kV15 dc15 pm15 cd15 ct15 : Value} (a15 : PySem.W.nsIn K mainGlobals "_law_is_step" = some (some (.ref f15))) (l15 : K.lookup f15 = some ⟨oc15, od15, .func (PySem.W.fnOf "_law_is_step" "_law_is_step" (defArgs s_l_is_step) (defBody s_l_is_step) (defScope s_l_is_step) .none kV15 dc15 pm15 an15 cd15 ct15), sl15⟩) (c15 : PySem.W.codeIn K cd15 "_law_is_step" = true) (k15 : PySem.W.keepIn K (.ref f15) = true)
    {f16 : Addr} {od16 an16 : Option Addr} {sl16 : Array (Option Value)} {oc16 kV16 dc16 pm16 cd16 ct16 : Value} (a16 : PySem.W.nsIn K mainGlobals "_law_same" = some (some (.ref f16))) (l16 : K.lookup f16 = some ⟨oc16, od16, .func (PySem.W.fnOf "_law_same" "_law_same" (defArgs s_same) (defBody s_same) (defScope s_same) .none kV16 dc16 pm16 an16 cd16 ct16), sl16⟩) (c16 : PySem.W.codeIn K cd16 "_law_same" = true) (k16 : PySem.W.keepIn K (.ref f16) = true)
    {f17 : Addr} {od17 an17 : Option Addr} {sl17 : Array (Option Value)} {oc17 kV17 dc17 pm17 cd17 ct17 : Value} (a17 : PySem.W.nsIn K mainGlobals "is_text" = some (some (.ref f17))) (l17 : K.lookup f17 = some ⟨oc17, od17, .func (PySem.W.fnOf "is_text" "is_text" (defArgs s_is_text) (defBody s_is_text) (defScope s_is_text) .none kV17 dc17 pm17 an17 cd17 ct17), sl17⟩) (c17 : PySem.W.codeIn K cd17 "is_text" = true) (k17 : PySem.W.keepIn K (.ref f17) = true)
    {f18 : Addr} {od18 an18 : Option Addr} {sl18 : Array (Option Value)} {oc18 kV18 dc18 pm18 cd18 ct18 : Value} (a18 : PySem.W.nsIn K mainGlobals "are_texts" = some (some (.ref f18))) (l18 : K.lookup f18 = some ⟨oc18, od18, .func (PySem.W.fnOf "are_texts" "are_texts" (defArgs s_are_texts) (defBody s_are_texts) (defScope s_are_texts) .none kV18 dc18 pm18 an18 cd18 ct18), sl18⟩) (c18 : PySem.W.codeIn K cd18 "are_texts" = true) (k18 : PySem.W.keepIn K (.ref f18) = true)
    {f19 : Addr} {od19 an19 : Option Addr} {sl19 : Array (Option Value)} {oc19 kV19 dc19 pm19 cd19 ct19 : Value} (a19 : PySem.W.nsIn K mainGlobals "is_answer" = some (some (.ref f19))) (l19 : K.lookup f19 = some ⟨oc19, od19, .func (PySem.W.fnOf "is_answer" "is_answer" (defArgs s_is_answer) (defBody s_is_answer) (defScope s_is_answer) .none kV19 dc19 pm19 an19 cd19 ct19), sl19⟩) (c19 : PySem.W.codeIn K cd19 "is_answer" = true) (k19 : PySem.W.keepIn K (.ref f19) = true)
    {f20 : Addr} {od20 an20 : Option Addr} {sl20 : Array (Option Value)} {oc20 kV20 dc20 pm20 cd20 ct20 : Value} (a20 : PySem.W.nsIn K mainGlobals "are_answers" = some (some (.ref f20))) (l20 : K.lookup f20 = some ⟨oc20, od20, .func (PySem.W.fnOf "are_answers" "are_answers" (defArgs s_are_answers) (defBody s_are_answers) (defScope s_are_answers) .none kV20 dc20 pm20 an20 cd20 ct20), sl20⟩) (c20 : PySem.W.codeIn K cd20 "are_answers" = true) (k20 : PySem.W.keepIn K (.ref f20) = true)
    {f21 : Addr} {od21 an21 : Option Addr} {sl21 : Array (Option Value)} {oc21 kV21 dc21 pm21 cd21 ct21 : Value} (a21 : PySem.W.nsIn K mainGlobals "is_count" = some (some (.ref f21))) (l21 : K.lookup f21 = some ⟨oc21, od21, .func (PySem.W.fnOf "is_count" "is_count" (defArgs s_is_count) (defBody s_is_count) (defScope s_is_count) .none kV21 dc21 pm21 an21 cd21 ct21), sl21⟩) (c21 : PySem.W.codeIn K cd21 "is_count" = true) (k21 : PySem.W.keepIn K (.ref f21) = true)
    {f22 : Addr} {od22 an22 : Option Addr} {sl22 : Array (Option Value)} {oc22 kV22 dc22 pm22 cd22 ct22 : Value} (a22 : PySem.W.nsIn K mainGlobals "is_place" = some (some (.ref f22))) (l22 : K.lookup f22 = some ⟨oc22, od22, .func (PySem.W.fnOf "is_place" "is_place" (defArgs s_is_place) (defBody s_is_place) (defScope s_is_place) .none kV22 dc22 pm22 an22 cd22 ct22), sl22⟩) (c22 : PySem.W.codeIn K cd22 "is_place" = true) (k22 : PySem.W.keepIn K (.ref f22) = true)
    {f23 : Addr} {od23 an23 : Option Addr} {sl23 : Array (Option Value)} {oc23 kV23 dc23 pm23 cd23 ct23 : Value} (a23 : PySem.W.nsIn K mainGlobals "is_name" = some (some (.ref f23))) (l23 : K.lookup f23 = some ⟨oc23, od23, .func (PySem.W.fnOf "is_name" "is_name" (defArgs s_is_name) (defBody s_is_name) (defScope s_is_name) .none kV23 dc23 pm23 an23 cd23 ct23), sl23⟩) (c23 : PySem.W.codeIn K cd23 "is_name" = true) (k23 : PySem.W.keepIn K (.ref f23) = true)
    {f24 : Addr} {od24 an24 : Option Addr} {sl24 : Array (Option Value)} {oc24 kV24 dc24 pm24 cd24 ct24 : Value} (a24 : PySem.W.nsIn K mainGlobals "is_key" = some (some (.ref f24))) (l24 : K.lookup f24 = some ⟨oc24, od24, .func (PySem.W.fnOf "is_key" "is_key" (defArgs s_is_key) (defBody s_is_key) (defScope s_is_key) .none kV24 dc24 pm24 an24 cd24 ct24), sl24⟩) (c24 : PySem.W.codeIn K cd24 "is_key" = true) (k24 : PySem.W.keepIn K (.ref f24) = true)
    {f25 : Addr} {od25 an25 : Option Addr} {sl25 : Array (Option Value)} {oc25 kV25 dc25 pm25 cd25 ct25 : Value} (a25 : PySem.W.nsIn K mainGlobals "are_keys" = some (some (.ref f25))) (l25 : K.lookup f25 = some ⟨oc25, od25, .func (PySem.W.fnOf "are_keys" "are_keys" (defArgs s_are_keys) (defBody s_are_keys) (defScope s_are_keys) .none kV25 dc25 pm25 an25 cd25 ct25), sl25⟩) (c25 : PySem.W.codeIn K cd25 "are_keys" = true) (k25 : PySem.W.keepIn K (.ref f25) = true)
    {f26 : Addr} {od26 an26 : Option Addr} {sl26 : Array (Option Value)} {oc26 kV26 dc26 pm26 cd26 ct26 : Value} (a26 : PySem.W.nsIn K mainGlobals "is_step" = some (some (.ref f26))) (l26 : K.lookup f26 = some ⟨oc26, od26, .func (PySem.W.fnOf "is_step" "is_step" (defArgs s_is_step) (defBody s_is_step) (defScope s_is_step) .none kV26 dc26 pm26 an26 cd26 ct26), sl26⟩) (c26 : PySem.W.codeIn K cd26 "is_step" = true) (k26 : PySem.W.keepIn K (.ref f26) = true)
    {f27 : Addr} {od27 an27 : Option Addr} {sl27 : Array (Option Value)} {oc27 kV27 dc27 pm27 cd27 ct27 : Value} (a27 : PySem.W.nsIn K mainGlobals "law" = some (some (.ref f27))) (l27 : K.lookup f27 = some ⟨oc27, od27, .func (PySem.W.fnOf "law" "law" (defArgs s_law) (defBody s_law) (defScope s_law) .none kV27 dc27 pm27 an27 cd27 ct27), sl27⟩) (c27 : PySem.W.codeIn K cd27 "law" = true) (k27 : PySem.W.keepIn K (.ref f27) = true)
    (z0 : PySem.W.nsIn K mainGlobals "all" = some none)
    (z1 : PySem.W.nsIn K mainGlobals "bool" = some none)
    (z2 : PySem.W.nsIn K mainGlobals "int" = some none)
    (z3 : PySem.W.nsIn K mainGlobals "isinstance" = some none)
    (z4 : PySem.W.nsIn K mainGlobals "len" = some none)
    (z5 : PySem.W.nsIn K mainGlobals "list" = some none)
    (z6 : PySem.W.nsIn K mainGlobals "max" = some none)
    (z7 : PySem.W.nsIn K mainGlobals "min" = some none)
    (z8 : PySem.W.nsIn K mainGlobals "ord" = some none)
    (z9 : PySem.W.nsIn K mainGlobals "range" = some none)
    (z10 : PySem.W.nsIn K mainGlobals "str" = some none)
    (z11 : PySem.W.nsIn K mainGlobals "tuple" = some none)
    (z12 : PySem.W.nsIn K mainGlobals "zip" = some none)
    {u0 : Value} (y0 : PySem.W.nsIn K mainGlobals "LETTERS" = some (some u0)) (x0 : RelV (.str "abcdefghijklmnopqrstuvwxyz") u0)
    {u1 : Value} (y1 : PySem.W.nsIn K mainGlobals "LONGEST" = some (some u1)) (x1 : RelV (.int 400) u1)
    {u2 : Value} (y2 : PySem.W.nsIn K mainGlobals "LONGEST_NAME" = some (some u2)) (x2 : RelV (.int 8) u2)
    {u3 : Value} (y3 : PySem.W.nsIn K mainGlobals "MOST_ARGUMENTS" = some (some u3)) (x3 : RelV (.int 4) u3)
    {u4 : Value} (y4 : PySem.W.nsIn K mainGlobals "MOST_KEYS" = some (some u4)) (x4 : RelV (.int 4) u4)
    {u5 : Value} (y5 : PySem.W.nsIn K mainGlobals "SIGNS" = some (some u5)) (x5 : RelV (.str "abcdefghijklmnopqrstuvwxyz0123456789") u5) :
    ∃ fd : FuncData, (∀ (s : Shared) (v : Value), BindsTo s fd ⟨[v], []⟩ [("_law_script", v)]) ∧ ∀ base : Heap, K.In base → base.Ns mainGlobals mg → FnOk l.prog w K mg base CX0 22 fa fd ["_law_script"] (lift ⟨l.prog, w, K⟩ sp_law) := by
  have e := hfa.symm.trans (PySem.W.mg_of X G a27)
  cases e
  have T : Bl mg := ⟨PySem.W.mg_none_of X G z0, PySem.W.mg_none_of X G z1, PySem.W.mg_none_of X G z2, PySem.W.mg_none_of X G z3, PySem.W.mg_none_of X G z4, PySem.W.mg_none_of X G z5, PySem.W.mg_none_of X G z6, PySem.W.mg_none_of X G z7, PySem.W.mg_none_of X G z8, PySem.W.mg_none_of X G z9, PySem.W.mg_none_of X G z10, PySem.W.mg_none_of X G z11, PySem.W.mg_none_of X G z12, ⟨u0, PySem.W.mg_of X G y0, x0⟩, ⟨u1, PySem.W.mg_of X G y1, x1⟩, ⟨u2, PySem.W.mg_of X G y2, x2⟩, ⟨u3, PySem.W.mg_of X G y3, x3⟩, ⟨u4, PySem.W.mg_of X G y4, x4⟩, ⟨u5, PySem.W.mg_of X G y5, x5⟩⟩
  have E0 := fun_mk (st := s_feed_of) l0 c0 k0
  have F_feed_of : FunOn K mg "_law_feed_of" s_feed_of ["_law_script", "_law_k"] f0 _ := ⟨E0, PySem.W.mg_of X G a0, E0.binds (ps := ["_law_script", "_law_k"]) fun _ _ _ _ _ _ us hl => match us, hl with | [_, _], _ => rfl⟩
  have E1 := fun_mk (st := s_draw) l1 c1 k1
  have F_draw : FunOn K mg "_law_draw" s_draw ["_law_feed", "_law_many"] f1 _ := ⟨E1, PySem.W.mg_of X G a1, E1.binds (ps := ["_law_feed", "_law_many"]) fun _ _ _ _ _ _ us hl => match us, hl with | [_, _], _ => rfl⟩
  have E2 := fun_mk (st := s_pick) l2 c2 k2
  have F_pick : FunOn K mg "_law_pick" s_pick ["_law_feed", "_law_items"] f2 _ := ⟨E2, PySem.W.mg_of X G a2, E2.binds (ps := ["_law_feed", "_law_items"]) fun _ _ _ _ _ _ us hl => match us, hl with | [_, _], _ => rfl⟩
  have E3 := fun_mk (st := s_signs) l3 c3 k3
  have F_signs : FunOn K mg "_law_signs" s_signs [] f3 _ := ⟨E3, PySem.W.mg_of X G a3, E3.binds (ps := []) fun _ _ _ _ _ _ us hl => match us, hl with | [], _ => rfl⟩
  have E4 := fun_mk (st := s_word) l4 c4 k4
  have F_word : FunOn K mg "_law_word" s_word ["_law_feed"] f4 _ := ⟨E4, PySem.W.mg_of X G a4, E4.binds (ps := ["_law_feed"]) fun _ _ _ _ _ _ us hl => match us, hl with | [_], _ => rfl⟩
  have E5 := fun_mk (st := s_calls) l5 c5 k5
  have F_calls : FunOn K mg "_law_calls" s_calls [] f5 _ := ⟨E5, PySem.W.mg_of X G a5, E5.binds (ps := []) fun _ _ _ _ _ _ us hl => match us, hl with | [], _ => rfl⟩
  have E6 := fun_mk (st := s_some_text) l6 c6 k6
  have F_some_text : FunOn K mg "_law_some_text" s_some_text ["_law_feed"] f6 _ := ⟨E6, PySem.W.mg_of X G a6, E6.binds (ps := ["_law_feed"]) fun _ _ _ _ _ _ us hl => match us, hl with | [_], _ => rfl⟩
  have E7 := fun_mk (st := s_some_answer) l7 c7 k7
  have F_some_answer : FunOn K mg "_law_some_answer" s_some_answer ["_law_feed"] f7 _ := ⟨E7, PySem.W.mg_of X G a7, E7.binds (ps := ["_law_feed"]) fun _ _ _ _ _ _ us hl => match us, hl with | [_], _ => rfl⟩
  have E8 := fun_mk (st := s_things) l8 c8 k8
  have F_things : FunOn K mg "_law_things" s_things ["_law_feed"] f8 _ := ⟨E8, PySem.W.mg_of X G a8, E8.binds (ps := ["_law_feed"]) fun _ _ _ _ _ _ us hl => match us, hl with | [_], _ => rfl⟩
  have E9 := fun_mk (st := s_odd) l9 c9 k9
  have F_odd : FunOn K mg "_law_odd" s_odd ["_law_feed", "_law_value"] f9 _ := ⟨E9, PySem.W.mg_of X G a9, E9.binds (ps := ["_law_feed", "_law_value"]) fun _ _ _ _ _ _ us hl => match us, hl with | [_, _], _ => rfl⟩
  have E10 := fun_mk (st := s_l_is_text) l10 c10 k10
  have F_l_is_text : FunOn K mg "_law_is_text" s_l_is_text ["_law_value"] f10 _ := ⟨E10, PySem.W.mg_of X G a10, E10.binds (ps := ["_law_value"]) fun _ _ _ _ _ _ us hl => match us, hl with | [_], _ => rfl⟩
  have E11 := fun_mk (st := s_is_row) l11 c11 k11
  have F_is_row : FunOn K mg "_law_is_row" s_is_row ["_law_value"] f11 _ := ⟨E11, PySem.W.mg_of X G a11, E11.binds (ps := ["_law_value"]) fun _ _ _ _ _ _ us hl => match us, hl with | [_], _ => rfl⟩
  have E12 := fun_mk (st := s_l_is_place) l12 c12 k12
  have F_l_is_place : FunOn K mg "_law_is_place" s_l_is_place ["_law_value"] f12 _ := ⟨E12, PySem.W.mg_of X G a12, E12.binds (ps := ["_law_value"]) fun _ _ _ _ _ _ us hl => match us, hl with | [_], _ => rfl⟩
  have E13 := fun_mk (st := s_l_is_name) l13 c13 k13
  have F_l_is_name : FunOn K mg "_law_is_name" s_l_is_name ["_law_value"] f13 _ := ⟨E13, PySem.W.mg_of X G a13, E13.binds (ps := ["_law_value"]) fun _ _ _ _ _ _ us hl => match us, hl with | [_], _ => rfl⟩
  have E14 := fun_mk (st := s_l_is_key) l14 c14 k14
  have F_l_is_key : FunOn K mg "_law_is_key" s_l_is_key ["_law_value"] f14 _ := ⟨E14, PySem.W.mg_of X G a14, E14.binds (ps := ["_law_value"]) fun _ _ _ _ _ _ us hl => match us, hl with | [_], _ => rfl⟩
  have E15 := fun_mk (st := s_l_is_step) l15 c15 k15
  have F_l_is_step : FunOn K mg "_law_is_step" s_l_is_step ["_law_value"] f15 _ := ⟨E15, PySem.W.mg_of X G a15, E15.binds (ps := ["_law_value"]) fun _ _ _ _ _ _ us hl => match us, hl with | [_], _ => rfl⟩
  have E16 := fun_mk (st := s_same) l16 c16 k16
  have F_same : FunOn K mg "_law_same" s_same ["_law_found", "_law_due"] f16 _ := ⟨E16, PySem.W.mg_of X G a16, E16.binds (ps := ["_law_found", "_law_due"]) fun _ _ _ _ _ _ us hl => match us, hl with | [_, _], _ => rfl⟩
  have E17 := fun_mk (st := s_is_text) l17 c17 k17
  have F_is_text : FunOn K mg "is_text" s_is_text ["value"] f17 _ := ⟨E17, PySem.W.mg_of X G a17, E17.binds (ps := ["value"]) fun _ _ _ _ _ _ us hl => match us, hl with | [_], _ => rfl⟩
  have E18 := fun_mk (st := s_are_texts) l18 c18 k18
  have F_are_texts : FunOn K mg "are_texts" s_are_texts ["value"] f18 _ := ⟨E18, PySem.W.mg_of X G a18, E18.binds (ps := ["value"]) fun _ _ _ _ _ _ us hl => match us, hl with | [_], _ => rfl⟩
  have E19 := fun_mk (st := s_is_answer) l19 c19 k19
  have F_is_answer : FunOn K mg "is_answer" s_is_answer ["value"] f19 _ := ⟨E19, PySem.W.mg_of X G a19, E19.binds (ps := ["value"]) fun _ _ _ _ _ _ us hl => match us, hl with | [_], _ => rfl⟩
  have E20 := fun_mk (st := s_are_answers) l20 c20 k20
  have F_are_answers : FunOn K mg "are_answers" s_are_answers ["value"] f20 _ := ⟨E20, PySem.W.mg_of X G a20, E20.binds (ps := ["value"]) fun _ _ _ _ _ _ us hl => match us, hl with | [_], _ => rfl⟩
  have E21 := fun_mk (st := s_is_count) l21 c21 k21
  have F_is_count : FunOn K mg "is_count" s_is_count ["value"] f21 _ := ⟨E21, PySem.W.mg_of X G a21, E21.binds (ps := ["value"]) fun _ _ _ _ _ _ us hl => match us, hl with | [_], _ => rfl⟩
  have E22 := fun_mk (st := s_is_place) l22 c22 k22
  have F_is_place : FunOn K mg "is_place" s_is_place ["value"] f22 _ := ⟨E22, PySem.W.mg_of X G a22, E22.binds (ps := ["value"]) fun _ _ _ _ _ _ us hl => match us, hl with | [_], _ => rfl⟩
  have E23 := fun_mk (st := s_is_name) l23 c23 k23
  have F_is_name : FunOn K mg "is_name" s_is_name ["value"] f23 _ := ⟨E23, PySem.W.mg_of X G a23, E23.binds (ps := ["value"]) fun _ _ _ _ _ _ us hl => match us, hl with | [_], _ => rfl⟩
  have E24 := fun_mk (st := s_is_key) l24 c24 k24
  have F_is_key : FunOn K mg "is_key" s_is_key ["value"] f24 _ := ⟨E24, PySem.W.mg_of X G a24, E24.binds (ps := ["value"]) fun _ _ _ _ _ _ us hl => match us, hl with | [_], _ => rfl⟩
  have E25 := fun_mk (st := s_are_keys) l25 c25 k25
  have F_are_keys : FunOn K mg "are_keys" s_are_keys ["value"] f25 _ := ⟨E25, PySem.W.mg_of X G a25, E25.binds (ps := ["value"]) fun _ _ _ _ _ _ us hl => match us, hl with | [_], _ => rfl⟩
  have E26 := fun_mk (st := s_is_step) l26 c26 k26
  have F_is_step : FunOn K mg "is_step" s_is_step ["value"] f26 _ := ⟨E26, PySem.W.mg_of X G a26, E26.binds (ps := ["value"]) fun _ _ _ _ _ _ us hl => match us, hl with | [_], _ => rfl⟩
  have E27 := fun_mk (st := s_law) l27 c27 k27
  have F_law : FunOn K mg "law" s_law ["_law_script"] fa _ := ⟨E27, PySem.W.mg_of X G a27, E27.binds (ps := ["_law_script"]) fun _ _ _ _ _ _ us hl => match us, hl with | [_], _ => rfl⟩
  refine ⟨PySem.W.fnOf "law" "law" (defArgs s_law) (defBody s_law) (defScope s_law) .none kV27 dc27 pm27 an27 cd27 ct27, fun s v => .of_eq rfl, fun base _ _ => ?_⟩
  have G_feed_of := ok_feed_of (P := l.prog) (w := w) (base := base) T F_feed_of
  have G_draw := ok_draw (P := l.prog) (w := w) (base := base) T F_draw
  have G_pick := ok_pick (P := l.prog) (w := w) (base := base) T F_pick F_draw G_draw
  have G_signs := ok_signs (P := l.prog) (w := w) (base := base) T F_signs
  have G_word := ok_word (P := l.prog) (w := w) (base := base) T F_word F_pick G_pick F_draw G_draw F_signs G_signs
  have G_calls := ok_calls (P := l.prog) (w := w) (base := base) T F_calls
  have G_some_text := ok_some_text (P := l.prog) (w := w) (base := base) T F_some_text F_draw G_draw F_pick G_pick F_calls G_calls
  have G_some_answer := ok_some_answer (P := l.prog) (w := w) (base := base) T F_some_answer F_draw G_draw F_some_text G_some_text
  have G_things := ok_things (P := l.prog) (w := w) (base := base) T F_things F_draw G_draw F_word G_word F_some_answer G_some_answer F_some_text G_some_text
  have G_odd := ok_odd (P := l.prog) (w := w) (base := base) T F_odd F_draw G_draw F_pick G_pick 12
  have G_l_is_text := ok_l_is_text (P := l.prog) (w := w) (base := base) T F_l_is_text F_signs G_signs
  have G_is_row := ok_is_row (P := l.prog) (w := w) (base := base) T F_is_row F_l_is_text G_l_is_text
  have G_l_is_place := ok_l_is_place (P := l.prog) (w := w) (base := base) T F_l_is_place F_l_is_text G_l_is_text F_is_row G_is_row
  have G_l_is_name := ok_l_is_name (P := l.prog) (w := w) (base := base) T F_l_is_name
  have G_l_is_key := ok_l_is_key (P := l.prog) (w := w) (base := base) T F_l_is_key F_l_is_name G_l_is_name
  have G_l_is_step := ok_l_is_step (P := l.prog) (w := w) (base := base) T F_l_is_step F_l_is_key G_l_is_key F_l_is_name G_l_is_name F_l_is_text G_l_is_text
  have G_same := ok_same (P := l.prog) (w := w) (base := base) T F_same 12
  have G_is_text := ok_is_text (P := l.prog) (w := w) (base := base) T F_is_text
  have G_are_texts := ok_are_texts (P := l.prog) (w := w) (base := base) T F_are_texts F_is_text G_is_text
  have G_is_answer := ok_is_answer (P := l.prog) (w := w) (base := base) T F_is_answer F_is_text G_is_text
  have G_are_answers := ok_are_answers (P := l.prog) (w := w) (base := base) T F_are_answers F_is_answer G_is_answer
  have G_is_count := ok_is_count (P := l.prog) (w := w) (base := base) T F_is_count
  have G_is_place := ok_is_place (P := l.prog) (w := w) (base := base) T F_is_place F_is_text G_is_text F_are_texts G_are_texts F_are_answers G_are_answers F_is_count G_is_count
  have G_is_name := ok_is_name (P := l.prog) (w := w) (base := base) T F_is_name
  have G_is_key := ok_is_key (P := l.prog) (w := w) (base := base) T F_is_key F_is_name G_is_name
  have G_are_keys := ok_are_keys (P := l.prog) (w := w) (base := base) T F_are_keys F_is_key G_is_key
  have G_is_step := ok_is_step (P := l.prog) (w := w) (base := base) T F_is_step F_is_name G_is_name F_is_text G_is_text F_are_keys G_are_keys
  exact ok_law (P := l.prog) (w := w) (base := base) T F_law F_feed_of G_feed_of F_things G_things F_odd G_odd F_l_is_place G_l_is_place F_l_is_step G_l_is_step F_l_is_key G_l_is_key F_same G_same F_is_place G_is_place F_is_step G_is_step F_is_key G_is_key
theorem law_in {P : Program} {w : World} {K : PySem.W.Frag} {H : Hp} {a : Addr} {ns : List Int} {E : XK} (o : Only H) (hS : SqL K H a (ns.map V.int)) : lift ⟨P, w, K⟩ sp_law [.ref a] H (fun v _ => v = .bl true) E := by
  have hF : FzL K H a (ns.map V.int) := by
    rcases hS with (h | ⟨ob, h⟩) | h
    · rcases o a with q | ⟨ob, xs, q⟩
      · rw [q] at h; cases h
      · rw [q] at h; cases h
    · exact .inl ⟨ob, h⟩
    · exact .inr h
  refine ⟨[.fl (ns.map D.int)], fun _ => none, fun d _ => d = .bl true, RpL.cons (rp_fl.mpr ⟨a, _, rfl, hF, RpL.ints.mpr rfl⟩) RpL.nil, (fun _ _ h => nomatch h), law_spec fun _ => rfl, ?_⟩
  intro d v G' H' r _ _ e
  subst e
  exact rp_bl.mp r
theorem walk {l : PySem.W.OpenLaw} {q : Program} {loose : List Str} {XP : (Str → Option Value) → Heap → Prop} {YP : World → Heap → Prop} {d : DefRec} {K : Params → PySem.W.Frag} (hn : l.most = some 63) (hdf : d.params.defaults = [])
    (hY : ∀ (w : World) (h : Heap), YP w h → (K w.params).In h)
    (F : ∀ (w : World) (mg : Str → Option Value) (fa : Addr) (h : Heap), (K w.params).In h → h.Ns mainGlobals mg → mg d.name = some (.ref fa) →
      ∃ fd : FuncData, (∀ (s : Shared) (u : Value), BindsTo s fd ⟨[u], []⟩ [("_law_script", u)]) ∧ ∀ base : Heap, (K w.params).In base → base.Ns mainGlobals mg → FnOk l.prog w (K w.params) mg base CX0 22 fa fd ["_law_script"] (lift ⟨l.prog, w, K w.params⟩ sp_law)) :
    PySem.W.WalkO q loose XP YP l.row.toRowW d [] (fun f vs => PySem.call f vs) :=
  L2.walk_of (n := 63) (k := 22) (x := "_law_script") (CX := fun _ => CX0) (sp := fun w => lift ⟨l.prog, w, K w.params⟩ sp_law) hn (by decide) hdf ⟨rfl, by decide, by decide⟩ hY F (fun w H a ns _ o hS => law_in o hS) fun _ _ _ _ _ z => z
end K02
open PySem PySem.W PyProof.Rows
set_option maxRecDepth 100000 in
set_option maxHeartbeats 0 in
theorem PySem.Challenge.cw_farenough_k02_keys_steps_and_places_holds : PySem.Challenge.rw_farenough_k02_keys_steps_and_places.Holds := by
  w_on; o_law; k_head; (case hw => w_witness2)
  k_fill
  refine K02.walk (l := PySem.Challenge.rw_farenough_k02_keys_steps_and_places) rfl rfl (fun w h Y => PySem.W.kIn_of Y) ?F
  case F =>
    intro w mg fa h KX G hmg
    refine' K02.all_mk KX G hmg ?a0 ?l0 ?c0 ?k0 ?a1 ?l1 ?c1 ?k1 ?a2 ?l2 ?c2 ?k2 ?a3 ?l3 ?c3 ?k3 ?a4 ?l4 ?c4 ?k4 ?a5 ?l5 ?c5 ?k5 ?a6 ?l6 ?c6 ?k6 ?a7 ?l7 ?c7 ?k7 ?a8 ?l8 ?c8 ?k8 ?a9 ?l9 ?c9 ?k9 ?a10 ?l10 ?c10 ?k10 ?a11 ?l11 ?c11 ?k11 ?a12 ?l12 ?c12 ?k12 ?a13 ?l13 ?c13 ?k13 ?a14 ?l14 ?c14 ?k14 ?a15 ?l15 ?c15 ?k15 ?a16 ?l16 ?c16 ?k16 ?a17 ?l17 ?c17 ?k17 ?a18 ?l18 ?c18 ?k18 ?a19 ?l19 ?c19 ?k19 ?a20 ?l20 ?c20 ?k20 ?a21 ?l21 ?c21 ?k21 ?a22 ?l22 ?c22 ?k22 ?a23 ?l23 ?c23 ?k23 ?a24 ?l24 ?c24 ?k24 ?a25 ?l25 ?c25 ?k25 ?a26 ?l26 ?c26 ?k26 ?a27 ?l27 ?c27 ?k27 ?z0 ?z1 ?z2 ?z3 ?z4 ?z5 ?z6 ?z7 ?z8 ?z9 ?z10 ?z11 ?z12 ?y0 ?x0 ?y1 ?x1 ?y2 ?x2 ?y3 ?x3 ?y4 ?x4 ?y5 ?x5
    (case a0 => k_is); (case l0 => k_is); (case c0 => k_is); (case k0 => k_is); (case a1 => k_is); (case l1 => k_is)
    (case c1 => k_is); (case k1 => k_is); (case a2 => k_is); (case l2 => k_is); (case c2 => k_is); (case k2 => k_is)
    (case a3 => k_is); (case l3 => k_is); (case c3 => k_is); (case k3 => k_is); (case a4 => k_is); (case l4 => k_is)
    (case c4 => k_is); (case k4 => k_is); (case a5 => k_is); (case l5 => k_is); (case c5 => k_is); (case k5 => k_is)
    (case a6 => k_is); (case l6 => k_is); (case c6 => k_is); (case k6 => k_is); (case a7 => k_is); (case l7 => k_is)
    (case c7 => k_is); (case k7 => k_is); (case a8 => k_is); (case l8 => k_is); (case c8 => k_is); (case k8 => k_is)
    (case a9 => k_is); (case l9 => k_is); (case c9 => k_is); (case k9 => k_is); (case a10 => k_is); (case l10 => k_is)
    (case c10 => k_is); (case k10 => k_is); (case a11 => k_is); (case l11 => k_is); (case c11 => k_is); (case k11 => k_is)
    (case a12 => k_is); (case l12 => k_is); (case c12 => k_is); (case k12 => k_is); (case a13 => k_is); (case l13 => k_is)
    (case c13 => k_is); (case k13 => k_is); (case a14 => k_is); (case l14 => k_is); (case c14 => k_is); (case k14 => k_is)
    (case a15 => k_is); (case l15 => k_is); (case c15 => k_is); (case k15 => k_is); (case a16 => k_is); (case l16 => k_is)
    (case c16 => k_is); (case k16 => k_is); (case a17 => k_is); (case l17 => k_is); (case c17 => k_is); (case k17 => k_is)
    (case a18 => k_is); (case l18 => k_is); (case c18 => k_is); (case k18 => k_is); (case a19 => k_is); (case l19 => k_is)
    (case c19 => k_is); (case k19 => k_is); (case a20 => k_is); (case l20 => k_is); (case c20 => k_is); (case k20 => k_is)
    (case a21 => k_is); (case l21 => k_is); (case c21 => k_is); (case k21 => k_is); (case a22 => k_is); (case l22 => k_is)
    (case c22 => k_is); (case k22 => k_is); (case a23 => k_is); (case l23 => k_is); (case c23 => k_is); (case k23 => k_is)
    (case a24 => k_is); (case l24 => k_is); (case c24 => k_is); (case k24 => k_is); (case a25 => k_is); (case l25 => k_is)
    (case c25 => k_is); (case k25 => k_is); (case a26 => k_is); (case l26 => k_is); (case c26 => k_is); (case k26 => k_is)
    (case a27 => k_is); (case l27 => k_is); (case c27 => k_is); (case k27 => k_is); (case z0 => k_is); (case z1 => k_is)
    (case z2 => k_is); (case z3 => k_is); (case z4 => k_is); (case z5 => k_is); (case z6 => k_is); (case z7 => k_is)
    (case z8 => k_is); (case z9 => k_is); (case z10 => k_is); (case z11 => k_is); (case z12 => k_is); (case y0 => k_is)
    (case x0 => exact ⟨_, rfl⟩); (case y1 => k_is); (case x1 => exact ⟨_, rfl⟩); (case y2 => k_is); (case x2 => exact ⟨_, rfl⟩); (case y3 => k_is)
    (case x3 => exact ⟨_, rfl⟩); (case y4 => k_is); (case x4 => exact ⟨_, rfl⟩); (case y5 => k_is); (case x5 => exact ⟨_, rfl⟩)
